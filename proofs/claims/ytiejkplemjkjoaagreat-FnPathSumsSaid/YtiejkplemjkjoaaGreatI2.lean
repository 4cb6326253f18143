/-
  For every drawn circuit, the path sum has the operator of the circuit, and replacing a variable keeps a drawn path sum valid and gives what the reference gives; conditions: none.
-/
import Derived.Test.YtiejkplemjkjoaaGreatI1
import Derived.MapKept
import Derived.Shelf.Sort.Plain
import Derived.Shelf.Slices.Turned
import Derived.Ground.Names2Prog
import Derived.Shelf.Slices.Clone
import Derived.Shelf.Slices.CompactI
import Derived.Shelf.Slices.Cells
import Derived.Test.YtiejkplemjkjoaaGreatProg
import Derived.Shelf.Spec.SlicesGrow
import Derived.Laws.MakeOwn
import Derived.Laws.Slices
import Derived.Shelf.Slices.In.SortNone
import Derived.WideKeyRuns
import Derived.Deep.Strs
import Derived.WalkKit
import Derived.ProofKit
import Derived.OpenShut
import Derived.Deep.Slices
import Derived.Deep.Fields
import Derived.ChangeSame
import Derived.Lib.SmallJoins
set_option linter.unusedVariables false
set_option linter.unusedSimpArgs false
set_option maxRecDepth 4000
set_option linter.unusedSectionVars false
namespace Go.Proofs.YtiejkplemjkjoaaGreat
open Go.RowKit
theorem Y1q(w0:World)(i:Int)(j:Int) : Ret Tryz.prog 76 [vi i,vi j] w0 (fun v w=>v=.tuple #[dV (if i=j then (⟨⟨1,0,0,0⟩,0⟩ : Dy) else dZ),.bool true]∧Below w0.heap.size w0 w):=by
 refine enter Tryz.func76 rfl 11 rfl rfl ?_;intro a f
 have g:=bz w0
 refine Zs f fun _ aD=>?_;refine Zf (X6 (zs:=[vi 0,vi 0,vi 0,vi 0,vi 0]) X2t rfl) ?_;rintro _ w1 ⟨b2,rfl,aE,hE,e⟩;have m:=Nat.le_trans g.size aE;have g:=btr g hE;refine Za rfl<|ZX aD fun a f _ aF=>?_;refine Zs f fun _ aG=>?_;refine Zm rfl<|Zm rfl<|Ze (X0l rfl rfl)<|Zt aG fun a f=>?_
 refine Xg f rfl (fun k=>?_) (fun k=>?_)
 ·have aB:=k
  have aA:i=j:=by revert k;simp
  refine Zs f fun _ aH=>?_;refine Zf (Vc (Xuw _ 1) Xgx) ?_;rintro _ w2 ⟨rfl,hE⟩;have e:=e.below hE;have g:=btr g hE;refine Zo (Vw [vi ((⟨⟨1,0,0,0⟩,0⟩ : Dy).num.a),vi ((⟨⟨1,0,0,0⟩,0⟩ : Dy).num.b),vi ((⟨⟨1,0,0,0⟩,0⟩ : Dy).num.c),vi ((⟨⟨1,0,0,0⟩,0⟩ : Dy).num.d),vi ((⟨⟨1,0,0,0⟩,0⟩ : Dy).exp)] X0u e) ?_;rintro _ w3 ⟨ho,hb⟩;have aC:=e;have g:=Below.only g ho m;have e:=hb;refine Za rfl<|Zt aH fun a f=>?_;refine wp_ret<|X7<|X3 f (X1m f rfl (ResV.cellN (l:=[vi ((⟨⟨1,0,0,0⟩,0⟩ : Dy).num.a),vi ((⟨⟨1,0,0,0⟩,0⟩ : Dy).num.b),vi ((⟨⟨1,0,0,0⟩,0⟩ : Dy).num.c),vi ((⟨⟨1,0,0,0⟩,0⟩ : Dy).num.d),vi ((⟨⟨1,0,0,0⟩,0⟩ : Dy).exp)]) rfl X0i (e.at 0) rfl) rfl) ?_;exact ⟨by rw [if_pos aA],g⟩
 have aB:=k
 have aA:¬ i=j:=by revert k;simp
 refine wp_skip<|aF _ _<|Zs f fun _ aI=>?_;refine Ze (Xk (ps:=[]) (cs:=[vi 0,vi 0,vi 0,vi 0,vi 0]) rfl (fun _=>by first|rfl|kernel_rfl))<|Zo (Vw [vi 0,vi 0,vi 0,vi 0,vi 0] X0u e) ?_;rintro _ w4 ⟨ho,hb⟩;have aC:=e;have g:=Below.only g ho m;have e:=hb;refine Za rfl<|Zt aI fun a f=>?_
 refine wp_ret (X3 f (X1m f rfl (ResV.cellN (l:=[vi 0,vi 0,vi 0,vi 0,vi 0]) rfl X0i (e.at 0) rfl) rfl) ?_)
 exact ⟨by rw [if_neg aA];rfl,g⟩
theorem Y0z(w0:World)(n:Int) : Ret Tryz.prog 43 [vi n] w0 (fun v w=>∃ A c,v=.tuple #[mV A c ((idI n).getD mZ),.bool (idI n).isSome]∧Own w w0.heap.size 87 5 encD A c ((idI n).getD mZ).cells∧Below w0.heap.size w0 w):=by
 refine enter Tryz.func43 rfl 9 rfl rfl ?_;intro a hf
 have e:=bz w0
 refine Zs hf fun _ aC=>?_;refine Zf (X6 (zs:=[vi 0,vi 0,.slice none 0 0]) X4q rfl) ?_;rintro _ w1 ⟨b3,rfl,aD,hE,b⟩;have aA:=Nat.le_trans e.size aD;have e:=btr e hE;refine Za rfl<|Zx aC fun a hf _ aE=>?_;refine Zm rfl<|Zm rfl<|Zf (Vc (Xx7 _ n n 76 [] Xxd (fun i j=>some (if i=j then ⟨⟨1,0,0,0⟩,0⟩ else dZ)) (fun i j w' hi hj hE'=>(Y1q w' (i:Int) (j:Int)).mono fun v w'' ⟨h1,h2⟩=>⟨by rw [h1];simp only [Int.natCast_inj];rfl,h2⟩)) Xee) ?_;rintro _ w2 ⟨A5,c5,rfl,d,hE⟩;have d:=d.lower e.size;have b:=b.below hE;have e:=btr e hE;refine Ze (X8 (vs:=[.agg #[vi (((matOf n n (fun i j=>some (if i=j then ⟨⟨1,0,0,0⟩,0⟩ else dZ))).getD mZ).rows),vi (((matOf n n (fun i j=>some (if i=j then ⟨⟨1,0,0,0⟩,0⟩ else dZ))).getD mZ).cols),.slice A5 (((matOf n n (fun i j=>some (if i=j then ⟨⟨1,0,0,0⟩,0⟩ else dZ))).getD mZ).cells).length c5],.bool ((matOf n n (fun i j=>some (if i=j then ⟨⟨1,0,0,0⟩,0⟩ else dZ))).isSome)]) rfl rfl)<|Ze (X8 (vs:=[.agg #[vi (((matOf n n (fun i j=>some (if i=j then ⟨⟨1,0,0,0⟩,0⟩ else dZ))).getD mZ).rows),vi (((matOf n n (fun i j=>some (if i=j then ⟨⟨1,0,0,0⟩,0⟩ else dZ))).getD mZ).cols),.slice A5 (((matOf n n (fun i j=>some (if i=j then ⟨⟨1,0,0,0⟩,0⟩ else dZ))).getD mZ).cells).length c5],.bool ((matOf n n (fun i j=>some (if i=j then ⟨⟨1,0,0,0⟩,0⟩ else dZ))).isSome)]) rfl rfl)<|Zo (Vw [vi (((matOf n n (fun i j=>some (if i=j then ⟨⟨1,0,0,0⟩,0⟩ else dZ))).getD mZ).rows),vi (((matOf n n (fun i j=>some (if i=j then ⟨⟨1,0,0,0⟩,0⟩ else dZ))).getD mZ).cols),.slice A5 (((matOf n n (fun i j=>some (if i=j then ⟨⟨1,0,0,0⟩,0⟩ else dZ))).getD mZ).cells).length c5] X28 b) ?_;rintro _ w3 ⟨ho,hb⟩;have aB:=b;have d:=d.onlyT ho aB rfl;have e:=Below.only e ho aA;have b:=hb;refine Za rfl<|Zt aE fun a hf=>?_
 refine wp_ret (X3 hf (X1m hf rfl (ResV.cellN (l:=[vi (((matOf n n (fun i j=>some (if i=j then ⟨⟨1,0,0,0⟩,0⟩ else dZ))).getD mZ).rows),vi (((matOf n n (fun i j=>some (if i=j then ⟨⟨1,0,0,0⟩,0⟩ else dZ))).getD mZ).cols),.slice A5 (((matOf n n (fun i j=>some (if i=j then ⟨⟨1,0,0,0⟩,0⟩ else dZ))).getD mZ).cells).length c5]) rfl X1p (b.at 0) rfl) rfl) ?_)
 exact ⟨A5,c5,rfl,d,e⟩
theorem Y1w(w0:World)(p q:Mx)(Aa Ab:Option Addr)(ca cb:Nat)(ba bb:Nat)(J:Rd w0 w0.heap.size 87 encD Aa p.cells)(L:Rd w0 w0.heap.size 87 encD Ab q.cells)(u:Blk w0 ba 42 [vi p.rows,vi p.cols,.slice Aa p.cells.length ca])(x:Blk w0 bb 42 [vi q.rows,vi q.cols,.slice Ab q.cells.length cb])(bH:mOk p=true)(cN:mOk q=true)(eA:p.cols=q.rows)(i j:Nat)(hi:(i:Int)<p.rows)(hj:(j:Int)<q.cols) : Ret Tryz.prog 100 [vi (i:Int),vi (j:Int),.pointer (some ⟨ba,0,none⟩),.pointer (some ⟨bb,0,none⟩)] w0 (fun v w=>v=.tuple #[dV ((dotI p q i j p.cols.toNat).getD dZ),.bool (dotI p q i j p.cols.toNat).isSome]∧Below w0.heap.size w0 w):=by
 have eB:=Xay bH;have dM:=u.lt;have dN:=x.lt
 have eC:p.cols=(p.cols.toNat:Int):=by omega
 refine enter Tryz.func100 rfl 48 rfl rfl ?_;intro a t
 have f:=bz w0
 refine Zs t fun _ dO=>?_;refine Zf (X6 (zs:=[vi 0,vi 0,vi 0,vi 0,vi 0]) X2t rfl) ?_;rintro _ w1 ⟨M,rfl,bJ,e,g⟩;have bC:=Nat.le_trans f.size bJ;have dH:=(J.below' f).away bJ;have dI:=(L.below' f).away bJ;have u:=u.below e;have x:=x.below e;have f:=btr f e;refine Za rfl<|Zx dO fun a t _ dP=>?_;refine Ze (Xk (ps:=[]) (cs:=[vi 0,vi 0,vi 0,vi 0,vi 0]) rfl (fun _=>by first|rfl|kernel_rfl))<|Zf (X6 (zs:=[vi 0,vi 0,vi 0,vi 0,vi 0]) X2t rfl) ?_;rintro _ w2 ⟨b6,rfl,bK,e,o⟩
 have dJ:M≠b6:=by have:=g.lt;omega
 have bD:=Nat.le_trans f.size bK;have dK:=(J.below' f).away bK;have dL:=(L.below' f).away bK;have u:=u.below e;have x:=x.below e;have g:=g.below e;have f:=btr f e;refine Zo (Vw [vi 0,vi 0,vi 0,vi 0,vi 0] X0u o) ?_;rintro _ w3 ⟨E,hb⟩;have A:=o;have u:=u.only E (Blk.ne u A rfl);have x:=x.only E (Blk.ne x A rfl);have g:=g.only E (by omega);have f:=Below.only f E bD;have o:=hb;refine ZX dP fun a t _ dQ=>?_;refine Zs t fun _ dR=>?_;refine Ze (Vd rfl X40 1)<|Ze (X0 rfl X2 (u.at 1))<|Zm rfl<|Zt dR fun a t=>?_;refine wp_block<|X06 (σ:=Nat×Dy) (fun (s:Nat×Dy) (a:Act) (w:World)=>match s with|(k,sum)=>Fr a 48 [(0,vi (i:Int)),(1,vi (j:Int)),(2,.pointer (some ⟨ba,0,none⟩)),(3,.pointer (some ⟨bb,0,none⟩)),(6,.pointer (some ⟨M,0,none⟩)),(8,.pointer (some ⟨b6,0,none⟩)),(16,vi p.cols),(17,vi (k:Int))]∧((k:Int)≤p.cols)∧(dotI p q i j k=some sum)∧Blk w ba 42 [vi p.rows,vi p.cols,.slice Aa p.cells.length ca]∧Blk w bb 42 [vi q.rows,vi q.cols,.slice Ab q.cells.length cb]∧Blk w M 87 [vi 0,vi 0,vi 0,vi 0,vi 0]∧Blk w b6 87 [vi sum.num.a,vi sum.num.b,vi sum.num.c,vi sum.num.d,vi sum.exp]∧Below w0.heap.size w0 w) (fun (s:Nat×Dy)=>match s with|(k,sum)=>(p.cols-k).toNat) (0,dZ) ?_ ?_
 ·exact ⟨t.sb,(by omega),rfl,u,x,g,o,f⟩
 rintro ⟨k,sum⟩ a w4 ⟨t,hk,hs,u,x,g,o,f⟩;refine Zs t fun _ dS=>?_;refine Ze (X1n rfl rfl)<|ZX dS fun a t _ cO=>?_
 refine Xg t rfl (fun D=>?_) (fun D=>?_)
 ·have G:=D;have D:=of_decide_eq_true D
  have cP:(k:Int)<p.cols:=D
  refine wp_skip<|cO _ _<|wp_seq_k fun _ cQ=>?_;refine wp_block<|Zs t fun _ cR=>?_;refine Zm rfl<|Za rfl<|ZX cR fun a t _ cS=>?_;refine X0j (fun a w=>∃ y,Fr a 48 [(0,vi (i:Int)),(1,vi (j:Int)),(2,.pointer (some ⟨ba,0,none⟩)),(3,.pointer (some ⟨bb,0,none⟩)),(6,.pointer (some ⟨M,0,none⟩)),(8,.pointer (some ⟨b6,0,none⟩)),(10,.pointer (some ⟨y,0,none⟩)),(11,.bool ((dMulI (p.at i k) (q.at k j)).isSome)),(16,vi p.cols),(17,vi (k:Int))]∧w0.heap.size≤y∧Blk w y 87 [vi (((dMulI (p.at i k) (q.at k j)).getD dZ).num.a),vi (((dMulI (p.at i k) (q.at k j)).getD dZ).num.b),vi (((dMulI (p.at i k) (q.at k j)).getD dZ).num.c),vi (((dMulI (p.at i k) (q.at k j)).getD dZ).num.d),vi (((dMulI (p.at i k) (q.at k j)).getD dZ).exp)]∧M≠y∧b6≠y∧Below w4.heap.size w4 w) ?_ ?_
  ·have n:Below w4.heap.size w4 w4:=Below.refl _ _
   refine Xq none (fun j=>[13].contains j) mixed ?_;intro w5 e;have u:=u.below e;have x:=x.below e;have g:=g.below e;have o:=o.below e;have f:=btr f e;have n:=btr n e;refine Yb t<|Ye 0 rfl (X0b (l:=[vi p.rows,vi p.cols,.slice Aa p.cells.length ca]) rfl X1p (u.at 0) rfl)<|Yo 1 rfl (fun _=>X4 rfl)<|Yo 2 rfl (fun _=>X4 rfl)<|Ye 4 rfl (X0b (l:=[vi q.rows,vi q.cols,.slice Ab q.cells.length cb]) rfl X1p (x.at 0) rfl)<|Yo 5 rfl (fun _=>X4 rfl) ?_;refine Yo 6 rfl (fun _=>X4 rfl) ?_
   have m:Below w5.heap.size w5 w5:=Below.refl _ _
   refine Yc [0,1,2,3,4,5,6,7,8,9,10,11,12] 2 (fun a w=>∃ y,Fr a 48 [(0,vi (i:Int)),(1,vi (j:Int)),(2,.pointer (some ⟨ba,0,none⟩)),(3,.pointer (some ⟨bb,0,none⟩)),(6,.pointer (some ⟨M,0,none⟩)),(8,.pointer (some ⟨b6,0,none⟩)),(10,.pointer (some ⟨y,0,none⟩)),(16,vi p.cols),(17,vi (k:Int)),(30,.agg #[vi (((dMulI (p.at i k) (q.at k j)).getD dZ).num.a),vi (((dMulI (p.at i k) (q.at k j)).getD dZ).num.b),vi (((dMulI (p.at i k) (q.at k j)).getD dZ).num.c),vi (((dMulI (p.at i k) (q.at k j)).getD dZ).num.d),vi (((dMulI (p.at i k) (q.at k j)).getD dZ).exp)]),(31,.bool ((dMulI (p.at i k) (q.at k j)).isSome))]∧w0.heap.size≤y∧Blk w y 87 [vi 0,vi 0,vi 0,vi 0,vi 0]∧M≠y∧b6≠y∧w5.heap.size≤y∧w4.heap.size≤y∧AwayR p.cells Aa y∧AwayR q.cells Ab y∧Below w5.heap.size w5 w) ?_ ?_
   ·rintro a w6 ⟨y,t,aD,C,N,Q,bL,bN,cU,cW,e⟩;clear m;have m:=e;have f:=btr f e;have n:=btr n e;refine Yb t<|Y1 13<|Yh rfl trivial rfl (Vw [vi (((dMulI (p.at i k) (q.at k j)).getD dZ).num.a),vi (((dMulI (p.at i k) (q.at k j)).getD dZ).num.b),vi (((dMulI (p.at i k) (q.at k j)).getD dZ).num.c),vi (((dMulI (p.at i k) (q.at k j)).getD dZ).num.d),vi (((dMulI (p.at i k) (q.at k j)).getD dZ).exp)] X0u C) ?_;rintro _ w7 ⟨E,hb⟩;have A:=C;have n:=Below.only n E bN;have m:=Below.only m E bL;have f:=Below.only f E aD;have C:=hb;refine Yo 14 rfl (fun _=>X19 rfl) ?_;refine Yd fun a t=>?_
    have dU:Below w4.heap.size w4 w7:=n
    exact ⟨y,t.sb,aD,C,N,Q,dU⟩
   intro bE;refine Yc [0,1,2,3,4,5,6,7,12] 6 (fun a w=>∃ H,Fr a 48 [(0,vi (i:Int)),(1,vi (j:Int)),(2,.pointer (some ⟨ba,0,none⟩)),(3,.pointer (some ⟨bb,0,none⟩)),(6,.pointer (some ⟨M,0,none⟩)),(8,.pointer (some ⟨b6,0,none⟩)),(10,.pointer (some ⟨H,0,none⟩)),(16,vi p.cols),(17,vi (k:Int)),(24,.agg #[vi ((p.at i k).num.a),vi ((p.at i k).num.b),vi ((p.at i k).num.c),vi ((p.at i k).num.d),vi ((p.at i k).exp)]),(28,.agg #[vi ((q.at k j).num.a),vi ((q.at k j).num.b),vi ((q.at k j).num.c),vi ((q.at k j).num.d),vi ((q.at k j).exp)])]∧w0.heap.size≤H∧Blk w H 87 [vi 0,vi 0,vi 0,vi 0,vi 0]∧M≠H∧b6≠H∧w5.heap.size≤H∧w4.heap.size≤H∧AwayR p.cells Aa H∧AwayR q.cells Ab H∧Below w5.heap.size w5 w) ?_ ?_
   ·rintro a w8 ⟨H,t,bO,aF,aG,aH,bP,bR,aI,aJ,e⟩;clear m;have m:=e;have f:=btr f e;have n:=btr n e;refine Yb t<|Y1 8<|Yk rfl trivial (Vc (Xyu _ (p.at i k) (q.at k j)) Xod) (fun _ _ ⟨_,e⟩=>e) ?_;rintro _ w9 ⟨rfl,e⟩;have aF:=aF.below e;have f:=btr f e;have n:=btr n e;have m:=btr m e;refine Yo 9 rfl (fun _=>X4 rfl)<|Yo 10 rfl (fun _=>X8 (vs:=[.agg #[vi (((dMulI (p.at i k) (q.at k j)).getD dZ).num.a),vi (((dMulI (p.at i k) (q.at k j)).getD dZ).num.b),vi (((dMulI (p.at i k) (q.at k j)).getD dZ).num.c),vi (((dMulI (p.at i k) (q.at k j)).getD dZ).num.d),vi (((dMulI (p.at i k) (q.at k j)).getD dZ).exp)],.bool ((dMulI (p.at i k) (q.at k j)).isSome)]) rfl rfl)<|Yo 11 rfl (fun _=>X8 (vs:=[.agg #[vi (((dMulI (p.at i k) (q.at k j)).getD dZ).num.a),vi (((dMulI (p.at i k) (q.at k j)).getD dZ).num.b),vi (((dMulI (p.at i k) (q.at k j)).getD dZ).num.c),vi (((dMulI (p.at i k) (q.at k j)).getD dZ).num.d),vi (((dMulI (p.at i k) (q.at k j)).getD dZ).exp)],.bool ((dMulI (p.at i k) (q.at k j)).isSome)]) rfl rfl) ?_;exact fun a t=>bE _ a _ rfl ⟨H,t.sb,bO,aF,aG,aH,bP,bR,aI,aJ,m⟩
   intro bF;refine Yc [0,1,2,3,4,5,6,12] 7 (fun a w=>∃ I,Fr a 48 [(0,vi (i:Int)),(1,vi (j:Int)),(2,.pointer (some ⟨ba,0,none⟩)),(3,.pointer (some ⟨bb,0,none⟩)),(6,.pointer (some ⟨M,0,none⟩)),(8,.pointer (some ⟨b6,0,none⟩)),(10,.pointer (some ⟨I,0,none⟩)),(16,vi p.cols),(17,vi (k:Int)),(24,.agg #[vi ((p.at i k).num.a),vi ((p.at i k).num.b),vi ((p.at i k).num.c),vi ((p.at i k).num.d),vi ((p.at i k).exp)]),(25,.agg #[vi q.rows,vi q.cols,.slice Ab q.cells.length cb]),(26,vi (k:Int)),(27,vi (j:Int))]∧w0.heap.size≤I∧Blk w I 87 [vi 0,vi 0,vi 0,vi 0,vi 0]∧M≠I∧b6≠I∧w5.heap.size≤I∧w4.heap.size≤I∧AwayR p.cells Aa I∧AwayR q.cells Ab I∧Below w5.heap.size w5 w) ?_ ?_
   ·rintro a eD ⟨I,t,bS,aK,aL,aM,bU,bW,aN,aO,e⟩;clear m;have m:=e;have f:=btr f e;have n:=btr n e;refine Yb t<|Y1 7<|Yk rfl trivial (Vc (Xs6 _ q Ab cb (L.below' f).top k j cN (by omega) hj) Xe7) (fun _ _ ⟨_,e⟩=>e) ?_;rintro _ eE ⟨rfl,e⟩;have aK:=aK.below e;have f:=btr f e;have n:=btr n e;have m:=btr m e;exact fun a t=>bF _ a _ rfl ⟨I,t.sb,bS,aK,aL,aM,bU,bW,aN,aO,m⟩
   intro bG;refine Y2 3 12 ?_ ?_
   ·refine Yk rfl trivial (Vc (Xs6 _ p Aa ca (J.below' f).top i k bH hi (by omega)) Xe7) (fun _ _ ⟨_,e⟩=>e) ?_;rintro _ eF ⟨rfl,e⟩;have g:=g.below e;have o:=o.below e;have f:=btr f e;have n:=btr n e;have m:=btr m e;refine Y2 7 12 ?_ ?_
    ·refine Yk rfl trivial (Vc (Xs6 _ q Ab cb (L.below' f).top k j cN (by omega) hj) Xe7) (fun _ _ ⟨_,e⟩=>e) ?_;rintro _ eG ⟨rfl,e⟩;have g:=g.below e;have o:=o.below e;have f:=btr f e;have n:=btr n e;have m:=btr m e;refine Y2 8 12 ?_ ?_
     ·refine Yk rfl trivial (Vc (Xyu _ (p.at i k) (q.at k j)) Xod) (fun _ _ ⟨_,e⟩=>e) ?_;rintro _ eH ⟨rfl,e⟩;have g:=g.below e;have o:=o.below e;have f:=btr f e;have n:=btr n e;have m:=btr m e;refine Yo 9 rfl (fun _=>X4 rfl)<|Yo 10 rfl (fun _=>X8 (vs:=[.agg #[vi (((dMulI (p.at i k) (q.at k j)).getD dZ).num.a),vi (((dMulI (p.at i k) (q.at k j)).getD dZ).num.b),vi (((dMulI (p.at i k) (q.at k j)).getD dZ).num.c),vi (((dMulI (p.at i k) (q.at k j)).getD dZ).num.d),vi (((dMulI (p.at i k) (q.at k j)).getD dZ).exp)],.bool ((dMulI (p.at i k) (q.at k j)).isSome)]) rfl rfl)<|Yo 11 rfl (fun _=>X8 (vs:=[.agg #[vi (((dMulI (p.at i k) (q.at k j)).getD dZ).num.a),vi (((dMulI (p.at i k) (q.at k j)).getD dZ).num.b),vi (((dMulI (p.at i k) (q.at k j)).getD dZ).num.c),vi (((dMulI (p.at i k) (q.at k j)).getD dZ).num.d),vi (((dMulI (p.at i k) (q.at k j)).getD dZ).exp)],.bool ((dMulI (p.at i k) (q.at k j)).isSome)]) rfl rfl)<|Y1 12 ?_;refine Yk rfl trivial (X6 (zs:=[vi 0,vi 0,vi 0,vi 0,vi 0]) X2t rfl) (fun _ _ ⟨_,_,_,h,_⟩=>h) ?_;rintro _ eI ⟨b21,rfl,U,e,cX⟩
      have aP:M≠b21:=by have:=g.lt;omega
      have aQ:b6≠b21:=by have:=o.lt;omega
      have bX:=Nat.le_trans f.size U;have bY:=Nat.le_trans n.size U;have bZ:=Nat.le_trans m.size U;have aR:=(J.below' f).away U;have aS:=(L.below' f).away U;have f:=btr f e;have n:=btr n e;have m:=btr m e;exact fun a t=>bE _ a _ rfl ⟨b21,t.sb,bX,cX,aP,aQ,bZ,bY,aR,aS,m⟩
     refine Yk rfl trivial (X6 (zs:=[vi 0,vi 0,vi 0,vi 0,vi 0]) X2t rfl) (fun _ _ ⟨_,_,_,h,_⟩=>h) ?_;rintro _ eJ ⟨b22,rfl,W,e,cY⟩
     have aT:M≠b22:=by have:=g.lt;omega
     have aU:b6≠b22:=by have:=o.lt;omega
     have c4:=Nat.le_trans f.size W;have cA:=Nat.le_trans n.size W;have cC:=Nat.le_trans m.size W;have aW:=(J.below' f).away W;have aX:=(L.below' f).away W;have f:=btr f e;have n:=btr n e;have m:=btr m e;exact fun a t=>bF _ a _ rfl ⟨b22,t.sb,c4,cY,aT,aU,cC,cA,aW,aX,m⟩
    refine Yk rfl trivial (X6 (zs:=[vi 0,vi 0,vi 0,vi 0,vi 0]) X2t rfl) (fun _ _ ⟨_,_,_,h,_⟩=>h) ?_;rintro _ eK ⟨b23,rfl,aA,e,d5⟩
    have aY:M≠b23:=by have:=g.lt;omega
    have aZ:b6≠b23:=by have:=o.lt;omega
    have cD:=Nat.le_trans f.size aA;have cE:=Nat.le_trans n.size aA;have cF:=Nat.le_trans m.size aA;have b0:=(J.below' f).away aA;have b1:=(L.below' f).away aA;have f:=btr f e;have n:=btr n e;have m:=btr m e;exact fun a t=>bG _ a _ rfl ⟨b23,t.sb,cD,d5,aY,aZ,cF,cE,b0,b1,m⟩
   refine Yk rfl trivial (X6 (zs:=[vi 0,vi 0,vi 0,vi 0,vi 0]) X2t rfl) (fun _ _ ⟨_,_,_,h,_⟩=>h) ?_;rintro _ eL ⟨b24,rfl,aB,e,b2⟩
   have b3:M≠b24:=by have:=g.lt;omega
   have b5:b6≠b24:=by have:=o.lt;omega
   have cG:=Nat.le_trans f.size aB;have cH:=Nat.le_trans n.size aB;have cJ:=Nat.le_trans m.size aB;have b7:=(J.below' f).away aB;have b8:=(L.below' f).away aB;have f:=btr f e;have n:=btr n e;have m:=btr m e;refine Y1 3<|Yk rfl trivial (Vc (Xs6 _ p Aa ca (J.below' f).top i k bH hi (by omega)) Xe7) (fun _ _ ⟨_,e⟩=>e) ?_;rintro _ eM ⟨rfl,e⟩;have b2:=b2.below e;have f:=btr f e;have n:=btr n e;have m:=btr m e;exact fun a t=>bG _ a _ rfl ⟨b24,t.sb,cG,b2,b3,b5,cJ,cH,b7,b8,m⟩
  rintro a eN ⟨y,t,aD,C,N,Q,e⟩;have u:=u.below e;have x:=x.below e;have g:=g.below e;have o:=o.below e;have f:=btr f e;refine cS _ _<|Zs t fun _ d6=>?_;refine Ze (Vn X0i o)<|Ze (Vn X0i C)<|Zf (Vc (Y0v _ sum ((dMulI (p.at i k) (q.at k j)).getD dZ)) Xw8) ?_;rintro _ eO ⟨rfl,e⟩;have u:=u.below e;have x:=x.below e;have g:=g.below e;have o:=o.below e;have C:=C.below e;have f:=btr f e;refine Zm rfl<|Ze (X8 (vs:=[.agg #[vi (((dAddI sum ((dMulI (p.at i k) (q.at k j)).getD dZ)).getD dZ).num.a),vi (((dAddI sum ((dMulI (p.at i k) (q.at k j)).getD dZ)).getD dZ).num.b),vi (((dAddI sum ((dMulI (p.at i k) (q.at k j)).getD dZ)).getD dZ).num.c),vi (((dAddI sum ((dMulI (p.at i k) (q.at k j)).getD dZ)).getD dZ).num.d),vi (((dAddI sum ((dMulI (p.at i k) (q.at k j)).getD dZ)).getD dZ).exp)],.bool ((dAddI sum ((dMulI (p.at i k) (q.at k j)).getD dZ)).isSome)]) rfl rfl)<|Ze (X8 (vs:=[.agg #[vi (((dAddI sum ((dMulI (p.at i k) (q.at k j)).getD dZ)).getD dZ).num.a),vi (((dAddI sum ((dMulI (p.at i k) (q.at k j)).getD dZ)).getD dZ).num.b),vi (((dAddI sum ((dMulI (p.at i k) (q.at k j)).getD dZ)).getD dZ).num.c),vi (((dAddI sum ((dMulI (p.at i k) (q.at k j)).getD dZ)).getD dZ).num.d),vi (((dAddI sum ((dMulI (p.at i k) (q.at k j)).getD dZ)).getD dZ).exp)],.bool ((dAddI sum ((dMulI (p.at i k) (q.at k j)).getD dZ)).isSome)]) rfl rfl)<|Zf (X6 (zs:=[vi 0,vi 0,vi 0,vi 0,vi 0]) X2t rfl) ?_;rintro _ eP ⟨b26,rfl,b9,e,aE⟩
  have d7:M≠b26:=by have:=g.lt;omega
  have d8:b6≠b26:=by have:=o.lt;omega
  have cM:y≠b26:=by have:=C.lt;omega
  have cK:=Nat.le_trans f.size b9;have dB:=(J.below' f).away b9;have dC:=(L.below' f).away b9;have u:=u.below e;have x:=x.below e;have g:=g.below e;have o:=o.below e;have f:=btr f e;refine Zo (Vw [vi (((dAddI sum ((dMulI (p.at i k) (q.at k j)).getD dZ)).getD dZ).num.a),vi (((dAddI sum ((dMulI (p.at i k) (q.at k j)).getD dZ)).getD dZ).num.b),vi (((dAddI sum ((dMulI (p.at i k) (q.at k j)).getD dZ)).getD dZ).num.c),vi (((dAddI sum ((dMulI (p.at i k) (q.at k j)).getD dZ)).getD dZ).num.d),vi (((dAddI sum ((dMulI (p.at i k) (q.at k j)).getD dZ)).getD dZ).exp)] X0u aE) ?_;rintro _ dW ⟨E,hb⟩;have A:=aE;have u:=u.only E (Blk.ne u A rfl);have x:=x.only E (Blk.ne x A rfl);have g:=g.only E (by omega);have o:=o.only E (by omega);have f:=Below.only f E cK;have aE:=hb;refine Za rfl<|ZX d6 fun a t _ dD=>?_;refine wp_seq_k fun _ dE=>?_;refine X0j (fun a w=>Fr a 48 [(0,vi (i:Int)),(1,vi (j:Int)),(2,.pointer (some ⟨ba,0,none⟩)),(3,.pointer (some ⟨bb,0,none⟩)),(6,.pointer (some ⟨M,0,none⟩)),(8,.pointer (some ⟨b6,0,none⟩)),(12,.pointer (some ⟨b26,0,none⟩)),(16,vi p.cols),(17,vi (k:Int)),(43,.bool ((!((dMulI (p.at i k) (q.at k j)).isSome))||(!((dAddI sum ((dMulI (p.at i k) (q.at k j)).getD dZ)).isSome))))]∧dW=w) ?_ ?_
  ·refine Zr t<|Zm rfl<|Ze (X1c rfl)<|Zm rfl ?_
   refine Zg 40 rfl (fun B=>?_) (fun B=>?_)
   ·refine Zp (gP B) ?_;refine Zp (gP B) ?_;refine Ze (X5 rfl B rfl) ?_;refine Zn fun a t=>?_;exact ⟨t.sub ⟨rfl,rfl,rfl,rfl,rfl,rfl,rfl,rfl,rfl,X1 rfl (by first|rfl|(simp only [G,B,bs];done)|simp [G,B]),trivial⟩,rfl⟩
   refine Zv (gW B) (X4 rfl) ?_;refine Zv (gW B) (X1c rfl) ?_;refine Ze (Xc rfl B rfl) ?_;refine Zn fun a t=>?_;exact ⟨t.sub ⟨rfl,rfl,rfl,rfl,rfl,rfl,rfl,rfl,rfl,X1 rfl (by first|rfl|(simp only [G,B,bs];done)|simp [G,B]),trivial⟩,rfl⟩
  rintro a _ ⟨t,rfl⟩;refine dE _ _ ?_
  refine Xg t rfl (fun aC=>?_) (fun aC=>?_)
  ·have cL:=aC;have hn:=X70 aC
   have dX:dotI p q i j (k+1)=none:=by rw [dotI,hs];simp only [Option.bind_some];revert hn;cases dMulI (p.at i k) (q.at k j)<;>simp
   have e8:=Xcu dX p.cols.toNat (by omega)
   refine Zs t fun _ dF=>?_;refine Ze (Xk (ps:=[]) (cs:=[vi 0,vi 0,vi 0,vi 0,vi 0]) rfl (fun _=>by first|rfl|kernel_rfl))<|Zo (Vw [vi 0,vi 0,vi 0,vi 0,vi 0] X0u g) ?_;rintro _ eQ ⟨E,hb⟩;have A:=g;have f:=Below.only f E bC;have g:=hb;refine Za rfl<|Zt dF fun a t=>?_;refine wp_ret<|X7<|Xw<|X7 ?_;refine X7<|Xw<|X7<|X3 t (X1m t rfl (ResV.cellN (l:=[vi 0,vi 0,vi 0,vi 0,vi 0]) rfl X0i (g.at 0) rfl) rfl) ?_;exact ⟨by rw [e8];rfl,f⟩
  have cL:=aC;have hy:=X8s aC;refine wp_skip<|dD _ _<|Zr t<|Ze (Vn X0i aE)<|Zo (Vw [vi (((dAddI sum ((dMulI (p.at i k) (q.at k j)).getD dZ)).getD dZ).num.a),vi (((dAddI sum ((dMulI (p.at i k) (q.at k j)).getD dZ)).getD dZ).num.b),vi (((dAddI sum ((dMulI (p.at i k) (q.at k j)).getD dZ)).getD dZ).num.c),vi (((dAddI sum ((dMulI (p.at i k) (q.at k j)).getD dZ)).getD dZ).num.d),vi (((dAddI sum ((dMulI (p.at i k) (q.at k j)).getD dZ)).getD dZ).exp)] X0u o) ?_;rintro _ eR ⟨E,hb⟩;have A:=o;have u:=u.only E (Blk.ne u A rfl);have x:=x.only E (Blk.ne x A rfl);have g:=g.only E (by omega);have f:=Below.only f E bD;have o:=hb;refine Zn fun a t=>?_;refine Xa<|cQ _ _<|Zr t<|Ze (Xu rfl rfl (by omega) (by omega))<|Zm rfl ?_;refine Zn fun a t=>?_;refine Xd ?_;exact ⟨(k+1,((dAddI sum ((dMulI (p.at i k) (q.at k j)).getD dZ)).getD dZ)),⟨t.sb,(by omega),(by rw [dotI,hs];simp only [Option.bind_some];revert hy;cases dMulI (p.at i k) (q.at k j)<;>simp;intro hy;revert hy;cases dAddI sum _<;>simp),u,x,g,o,f⟩,(by first|omega|(dsimp only;omega))⟩
 have G:=D;have D:=of_decide_eq_false D
 have cP:k=p.cols.toNat:=by omega
 refine wp_exit<|Xi<|Xi<|X03 ?_;refine dQ _ _<|Zs t fun _ dG=>?_;refine Ze (Vn X0i o)<|Zo (Vw [vi sum.num.a,vi sum.num.b,vi sum.num.c,vi sum.num.d,vi sum.exp] X0u g) ?_;rintro _ eS ⟨E,hb⟩;have A:=g;have f:=Below.only f E bC;have g:=hb;refine Za rfl<|Zt dG fun a t=>?_
 refine wp_ret (X3 t (X1m t rfl (ResV.cellN (l:=[vi sum.num.a,vi sum.num.b,vi sum.num.c,vi sum.num.d,vi sum.exp]) rfl X0i (g.at 0) rfl) rfl) ?_)
 exact ⟨by rw [← cP,hs];rfl,f⟩
theorem Y1k(B:World)(p:Mx)(Ap:Option Addr)(cp:Nat)(C:Rd B B.heap.size 87 encD Ap p.cells)(q:Mx)(Aq:Option Addr)(cq:Nat)(D:Rd B B.heap.size 87 encD Aq q.cells)(aH:p.cells.length≤2305843009213693951)(aI:q.cells.length≤2305843009213693951) : Ret Tryz.prog 79 [.agg #[vi p.rows,vi p.cols,.slice Ap p.cells.length cp],.agg #[vi q.rows,vi q.cols,.slice Aq q.cells.length cq]] B (fun v w=>∃ A c,v=.tuple #[mV A c ((mulI p q).getD mZ),.bool (mulI p q).isSome]∧Own w B.heap.size 87 5 encD A c ((mulI p q).getD mZ).cells∧Below B.heap.size B w):=by
 refine enter Tryz.func79 rfl 30 rfl rfl ?_;intro a n
 have f:=bz B
 refine Zs n fun _ aJ=>?_;refine Zf (X14 (zs:=[vi p.rows,vi p.cols,.slice Ap p.cells.length cp]) rfl rfl) ?_;rintro _ w1 ⟨b4,rfl,aK,k,e⟩;have aQ:=Nat.le_trans f.size aK;have f:=btr f k;refine Zf (X14 (zs:=[vi q.rows,vi q.cols,.slice Aq q.cells.length cq]) rfl rfl) ?_;rintro _ w2 ⟨b5,rfl,aL,k,g⟩
 have aE:b4≠b5:=by have:=e.lt;omega
 have aR:=Nat.le_trans f.size aL;have e:=e.below k;have f:=btr f k;refine Zf (X6 (zs:=[vi 0,vi 0,.slice none 0 0]) X4q rfl) ?_;rintro _ w3 ⟨b7,rfl,aM,k,m⟩
 have aF:b4≠b7:=by have:=e.lt;omega
 have aG:b5≠b7:=by have:=g.lt;omega
 have E:=Nat.le_trans f.size aM;have e:=e.below k;have g:=g.below k;have f:=btr f k;refine Za rfl<|ZX aJ fun a n _ aN=>?_;refine wp_seq_k fun _ aO=>?_;refine X0j (fun a w=>Fr a 30 [(2,.pointer (some ⟨b4,0,none⟩)),(3,.pointer (some ⟨b5,0,none⟩)),(4,.pointer (some ⟨b7,0,none⟩)),(20,.bool (((!(mOk p))||(!(mOk q)))||(p.cols != q.rows)))]∧Below w3.heap.size w3 w) ?_ ?_
 ·have u:Below w3.heap.size w3 w3:=Below.refl _ _
  refine Zr n<|Ze (Vn X1p e)<|Zf (Vc (Xzm _ p Ap cp (C.below' f).top aH) Xoe) ?_;rintro _ w4 ⟨rfl,k⟩;have e:=e.below k;have g:=g.below k;have f:=btr f k;have u:=btr u k;refine Ze (X1c rfl)<|Zm rfl ?_
  refine Zg 9 rfl (fun d=>?_) (fun d=>?_)
  ·refine Zp (gP d) ?_;refine Zp (gP d) ?_;refine Zp (gP d) ?_;refine Ze (X5 rfl d rfl)<|Zm rfl<|Zp (gP rfl) ?_;refine Zp (gP rfl) ?_;refine Zp (gP rfl) ?_;refine Zp (gP rfl) ?_;refine Zp (gP rfl) ?_;refine Ze (X5 rfl rfl rfl) ?_;refine Zn fun a n=>?_
   have x:Below w3.heap.size w3 w4:=u
   exact ⟨n.sub ⟨rfl,rfl,rfl,X1 rfl (by first|rfl|(simp only [d,bs];done)|simp [d]),trivial⟩,x⟩
  refine Zv (gW d) (Vn X1p g) ?_;refine Zk (gW d) (Vc (Xzm _ q Aq cq (D.below' f).top aI) Xoe) ?_;rintro _ w5 ⟨rfl,k⟩;have e:=e.below k;have g:=g.below k;have f:=btr f k;have u:=btr u k;refine Zv (gW d) (X1c rfl) ?_;refine Ze (Xc rfl d rfl)<|Zm rfl ?_
  refine Zg 14 rfl (fun b=>?_) (fun b=>?_)
  ·refine Zp (gP b) ?_;refine Zp (gP b) ?_;refine Zp (gP b) ?_;refine Zp (gP b) ?_;refine Zp (gP b) ?_;refine Ze (X5 rfl b rfl) ?_;refine Zn fun a n=>?_
   have x:Below w3.heap.size w3 w5:=u
   exact ⟨n.sub ⟨rfl,rfl,rfl,X1 rfl (by first|rfl|(simp only [d,b,bs];done)|simp [d,b]),trivial⟩,x⟩
  refine Zv (gW b) (Vd rfl X40 1) ?_;refine Zv (gW b) (X0 rfl X2 (e.at 1)) ?_;refine Zv (gW b) (Vd rfl X5d 0) ?_;refine Zv (gW b) (X0 rfl X2 (g.at 0)) ?_;refine Zv (gW b) (X4v rfl rfl) ?_;refine Ze (Xc rfl b rfl) ?_;refine Zn fun a n=>?_
  have x:Below w3.heap.size w3 w5:=u
  exact ⟨n.sub ⟨rfl,rfl,rfl,X1 rfl (by first|rfl|(simp only [d,b,bs];done)|simp [d,b]),trivial⟩,x⟩
 rintro a w6 ⟨n,k⟩;have e:=e.below k;have g:=g.below k;have m:=m.below k;have f:=btr f k;refine aO _ _ ?_
 refine Xg n rfl (fun o=>?_) (fun o=>?_)
 ·have aA:=o
  have hn:(mOk p&&mOk q&&p.cols==q.rows)=false:=by revert o;cases mOk p<;>cases mOk q<;>simp
  refine Zs n fun _ aC=>?_;refine Ze (Xk (ps:=[]) (cs:=[vi 0,vi 0,.slice none 0 0]) rfl (fun _=>by first|rfl|kernel_rfl))<|Zo (Vw [vi 0,vi 0,.slice none 0 0] X28 m) ?_;rintro _ w7 ⟨ho,hb⟩;have G:=m;have f:=Below.only f ho E;have m:=hb;refine Za rfl<|Zt aC fun a n=>?_;refine wp_ret<|X7<|X3 n (X1m n rfl (ResV.cellN (l:=[vi 0,vi 0,.slice none 0 0]) rfl X1p (m.at 0) rfl) rfl) ?_;exact ⟨none,0,by rw [mulI,hn];rfl,by rw [mulI,hn];exact (Own.nil _ _ _ _ _),f⟩
 have aA:=o
 have hy:(mOk p&&mOk q&&p.cols==q.rows)=true:=by revert o;cases mOk p<;>cases mOk q<;>simp
 have aB:=Xxw hy
 have aP:p.cols=q.rows:=by simpa using aB.2.2
 refine wp_skip<|aN _ _<|Zs n fun _ aD=>?_;refine Ze (Vd rfl X5d 0)<|Ze (X0 rfl X2 (e.at 0))<|Ze (Vd rfl X40 1)<|Ze (X0 rfl X2 (g.at 1))<|Ze (X5k (vs:=[.pointer (some ⟨b4,0,none⟩),.pointer (some ⟨b5,0,none⟩)]) rfl) ?_;refine Zf (Vc (Xx7 _ p.rows q.cols 100 [.pointer (some ⟨b4,0,none⟩),.pointer (some ⟨b5,0,none⟩)] Xut (fun i j=>dotI p q i j p.cols.toNat) (fun i j w' hi hj hE'=>Y1w w' p q _ _ _ _ _ _ ((C.below' f).below hE').top ((D.below' f).below hE').top (e.below hE') (g.below hE') aB.1 aB.2.1 aP i j hi hj)) Xee) ?_;rintro _ w8 ⟨y,h,rfl,t,k⟩;have t:=t.lower f.size;have m:=m.below k;have f:=btr f k;refine Ze (X8 (vs:=[.agg #[vi (((matOf p.rows q.cols (fun i j=>dotI p q i j p.cols.toNat)).getD mZ).rows),vi (((matOf p.rows q.cols (fun i j=>dotI p q i j p.cols.toNat)).getD mZ).cols),.slice y (((matOf p.rows q.cols (fun i j=>dotI p q i j p.cols.toNat)).getD mZ).cells).length h],.bool ((matOf p.rows q.cols (fun i j=>dotI p q i j p.cols.toNat)).isSome)]) rfl rfl)<|Ze (X8 (vs:=[.agg #[vi (((matOf p.rows q.cols (fun i j=>dotI p q i j p.cols.toNat)).getD mZ).rows),vi (((matOf p.rows q.cols (fun i j=>dotI p q i j p.cols.toNat)).getD mZ).cols),.slice y (((matOf p.rows q.cols (fun i j=>dotI p q i j p.cols.toNat)).getD mZ).cells).length h],.bool ((matOf p.rows q.cols (fun i j=>dotI p q i j p.cols.toNat)).isSome)]) rfl rfl)<|Zo (Vw [vi (((matOf p.rows q.cols (fun i j=>dotI p q i j p.cols.toNat)).getD mZ).rows),vi (((matOf p.rows q.cols (fun i j=>dotI p q i j p.cols.toNat)).getD mZ).cols),.slice y (((matOf p.rows q.cols (fun i j=>dotI p q i j p.cols.toNat)).getD mZ).cells).length h] X28 m) ?_;rintro _ w9 ⟨ho,hb⟩;have G:=m;have t:=t.onlyT ho G rfl;have f:=Below.only f ho E;have m:=hb;refine Za rfl<|Zt aD fun a n=>?_
 refine wp_ret (X3 n (X1m n rfl (ResV.cellN (l:=[vi (((matOf p.rows q.cols (fun i j=>dotI p q i j p.cols.toNat)).getD mZ).rows),vi (((matOf p.rows q.cols (fun i j=>dotI p q i j p.cols.toNat)).getD mZ).cols),.slice y (((matOf p.rows q.cols (fun i j=>dotI p q i j p.cols.toNat)).getD mZ).cells).length h]) rfl X1p (m.at 0) rfl) rfl) ?_)
 exact ⟨y,h,by rw [mulI,if_pos hy],by rw [mulI,if_pos hy];exact t,f⟩
theorem Y0b(w0:World)(n:Int)(x:Gt) : Ret Tryz.prog 49 [vi n,.agg #[vi x.k,vi x.a,vi x.b]] w0 (fun v w=>v=.bool (gOk n x)∧Below w0.heap.size w0 w):=by
 refine enter Tryz.func49 rfl 60 rfl rfl ?_;intro a i
 have hW:=bz w0
 refine Zs i fun _ aF=>?_;refine Zf (X14 (zs:=[vi x.k,vi x.a,vi x.b]) rfl rfl) ?_;rintro _ w1 ⟨b2,rfl,aG,hE,o⟩;have aM:=Nat.le_trans hW.size aG;have hW:=btr hW hE;refine Za rfl<|ZX aF fun a i _ aH=>?_;refine wp_block<|wp_seq_k fun _ aI=>?_;refine X0j (fun a w=>Fr a 60 [(0,vi n),(3,.pointer (some ⟨b2,0,none⟩)),(5,.bool ((!(inR n 1 5))||(!(inR x.k 1 12))))]∧w1=w) ?_ ?_
 ·refine Zr i<|Zm rfl<|Zf (Vc (F91 _ n 1 5) X32) ?_;rintro _ _ ⟨rfl,rfl⟩;refine Ze (X1c rfl)<|Zm rfl ?_
  refine Zg 9 rfl (fun m=>?_) (fun m=>?_)
  ·refine Zp (gP m) ?_;refine Zp (gP m) ?_;refine Zp (gP m) ?_;refine Zp (gP m) ?_;refine Ze (X5 rfl m rfl)<|Za rfl ?_;refine Zn fun a i=>?_;exact ⟨i.sub ⟨rfl,rfl,X1 rfl (by first|rfl|(simp only [m,bs];done)|simp [m]),trivial⟩,rfl⟩
  refine Zv (gW m) (Vd rfl X1i 0) ?_;refine Zv (gW m) (X0 rfl X2 (o.at 0)) ?_;refine Zk (gW m) (Vc (F91 _ x.k 1 12) X32) ?_;rintro _ _ ⟨rfl,rfl⟩;refine Zv (gW m) (X1c rfl) ?_;refine Ze (Xc rfl m rfl)<|Za rfl ?_;refine Zn fun a i=>?_;exact ⟨i.sub ⟨rfl,rfl,X1 rfl (by first|rfl|(simp only [m,bs];done)|simp [m]),trivial⟩,rfl⟩
 rintro a _ ⟨i,rfl⟩;refine aI _ _ ?_
 refine Xg i rfl (fun q=>?_) (fun q=>?_)
 ·have e:=q;have hn:=X70 q;refine Zs i fun _ aJ=>?_;refine Za rfl<|Zt aJ fun a i=>?_;refine wp_ret<|Xw<|X7<|X3 i (Xz i rfl rfl) ?_;exact ⟨by rw [gOk,hn];rfl,hW⟩
 have e:=q;have hy:=X8s q;have aK:=(Bool.and_eq_true _ _▸hy:inR n 1 5=true∧inR x.k 1 12=true);have aN:=Xt.1 aK.1;refine Zs i fun _ aL=>?_;refine Ze (Vd rfl X1i 0)<|Ze (X0 rfl X2 (o.at 0))<|Ze (X0l rfl rfl)<|Za rfl<|Zt aL fun a i=>?_
 refine Xg i rfl (fun t=>?_) (fun t=>?_)
 ·have f:=t
  have hk:x.k=12:=by simpa using t
  refine wp_seq_k fun _ aB=>?_;refine X0j (fun a w=>Fr a 60 [(4,.bool ((x.a==0)&&(x.b==0)))]∧w1=w) ?_ ?_
  ·refine Zr i<|Ze (Vd rfl X11 1)<|Ze (X0 rfl X2 (o.at 1))<|Ze (X0l rfl rfl)<|Zm rfl ?_
   refine Zg 22 rfl (fun j=>?_) (fun j=>?_)
   ·refine Zv (gW j) (Vd rfl X1d 2) ?_;refine Zv (gW j) (X0 rfl X2 (o.at 2)) ?_;refine Zv (gW j) (X0l rfl rfl) ?_;refine Ze (X5 rfl j rfl)<|Za rfl ?_;refine Zn fun a i=>?_;exact ⟨i.sub ⟨X1 rfl (by first|rfl|(simp only [e,f,j,bs];done)|simp [e,f,j]),trivial⟩,rfl⟩
   refine Zp (gP j) ?_;refine Zp (gP j) ?_;refine Zp (gP j) ?_;refine Ze (Xc rfl j rfl)<|Za rfl ?_;refine Zn fun a i=>?_;exact ⟨i.sub ⟨X1 rfl (by first|rfl|(simp only [e,f,j,bs];done)|simp [e,f,j]),trivial⟩,rfl⟩
  rintro a _ ⟨i,rfl⟩;refine aB _ _<|wp_ret<|Xw<|X7 ?_;refine X3 i (Xz i rfl rfl) ?_;exact ⟨by rw [gOk,hy,if_pos hk,Bool.true_and],hW⟩
 have f:=t
 have hk:¬ x.k=12:=by simpa using t
 refine Zs i fun _ aC=>?_;refine Ze (Vd rfl X1i 0)<|Ze (X0 rfl X2 (o.at 0))<|Zf (Vc (F99 _ x.k) Xtg) ?_;rintro _ _ ⟨rfl,rfl⟩;refine Za rfl<|Zt aC fun a i=>?_
 refine Xg i rfl (fun p=>?_) (fun p=>?_)
 ·have g:=p;have aA:=p;refine wp_seq_k fun _ aD=>?_;refine X0j (fun a w=>Fr a 60 [(4,.bool (((inR x.a 0 (n-1))&&(inR x.b 0 (n-1)))&&(x.a != x.b)))]∧w1=w) ?_ ?_
  ·refine Zr i<|Ze (Vd rfl X11 1)<|Ze (X0 rfl X2 (o.at 1))<|Zm rfl<|Ze (X15 rfl rfl (by omega) (by omega))<|Zf (Vc (F91 _ x.a 0 (n-1)) X32) ?_;rintro _ _ ⟨rfl,rfl⟩;refine Zm rfl ?_
   refine Zg 36 rfl (fun c=>?_) (fun c=>?_)
   ·refine Zv (gW c) (Vd rfl X1d 2) ?_;refine Zv (gW c) (X0 rfl X2 (o.at 2)) ?_;refine Zv (gW c) (X4 rfl) ?_;refine Zv (gW c) (X15 rfl rfl (by omega) (by omega)) ?_;refine Zk (gW c) (Vc (F91 _ x.b 0 (n-1)) X32) ?_;rintro _ _ ⟨rfl,rfl⟩;refine Ze (X5 rfl c rfl)<|Zm rfl ?_
    refine Zg 43 rfl (fun d=>?_) (fun d=>?_)
    ·refine Zv (gW d) (Vd rfl X11 1) ?_;refine Zv (gW d) (X0 rfl X2 (o.at 1)) ?_;refine Zv (gW d) (Vd rfl X1d 2) ?_;refine Zv (gW d) (X0 rfl X2 (o.at 2)) ?_;refine Zv (gW d) (X4v rfl rfl) ?_;refine Ze (X5 rfl d rfl)<|Za rfl ?_;refine Zn fun a i=>?_;exact ⟨i.sub ⟨X1 rfl (by first|rfl|(simp only [e,f,g,c,d,bs];done)|simp [e,f,g,c,d]),trivial⟩,rfl⟩
    refine Zp (gP d) ?_;refine Zp (gP d) ?_;refine Zp (gP d) ?_;refine Zp (gP d) ?_;refine Zp (gP d) ?_;refine Ze (Xc rfl d rfl)<|Za rfl ?_;refine Zn fun a i=>?_;exact ⟨i.sub ⟨X1 rfl (by first|rfl|(simp only [e,f,g,c,d,bs];done)|simp [e,f,g,c,d]),trivial⟩,rfl⟩
   refine Zp (gP c) ?_;refine Zp (gP c) ?_;refine Zp (gP c) ?_;refine Zp (gP c) ?_;refine Zp (gP c) ?_;refine Ze (Xc rfl c rfl)<|Zm rfl<|Zp (gP rfl) ?_;refine Zp (gP rfl) ?_;refine Zp (gP rfl) ?_;refine Zp (gP rfl) ?_;refine Zp (gP rfl) ?_;refine Ze (Xc rfl rfl rfl)<|Za rfl ?_;refine Zn fun a i=>?_;exact ⟨i.sub ⟨X1 rfl (by first|rfl|(simp only [e,f,g,c,bs];done)|simp [e,f,g,c]),trivial⟩,rfl⟩
  rintro a _ ⟨i,rfl⟩;refine aD _ _<|wp_ret<|Xw<|X7 ?_;refine X3 i (Xz i rfl rfl) ?_;exact ⟨by rw [gOk,hy,if_neg hk,if_pos aA,Bool.true_and],hW⟩
 have g:=p
 have aA:¬ inR x.k 9 11=true:=by rw [p];simp
 refine wp_skip<|Xa<|aH _ _<|wp_seq_k fun _ aE=>?_;refine X0j (fun a w=>Fr a 60 [(4,.bool ((inR x.a 0 (n-1))&&(x.b==0)))]∧w1=w) ?_ ?_
 ·refine Zr i<|Ze (Vd rfl X11 1)<|Ze (X0 rfl X2 (o.at 1))<|Zm rfl<|Ze (X15 rfl rfl (by omega) (by omega))<|Zf (Vc (F91 _ x.a 0 (n-1)) X32) ?_;rintro _ _ ⟨rfl,rfl⟩;refine Zm rfl ?_
  refine Zg 55 rfl (fun l=>?_) (fun l=>?_)
  ·refine Zv (gW l) (Vd rfl X1d 2) ?_;refine Zv (gW l) (X0 rfl X2 (o.at 2)) ?_;refine Zv (gW l) (X0l rfl rfl) ?_;refine Ze (X5 rfl l rfl)<|Za rfl ?_;refine Zn fun a i=>?_;exact ⟨i.sub ⟨X1 rfl (by first|rfl|(simp only [e,f,g,l,bs];done)|simp [e,f,g,l]),trivial⟩,rfl⟩
  refine Zp (gP l) ?_;refine Zp (gP l) ?_;refine Zp (gP l) ?_;refine Ze (Xc rfl l rfl)<|Za rfl ?_;refine Zn fun a i=>?_;exact ⟨i.sub ⟨X1 rfl (by first|rfl|(simp only [e,f,g,l,bs];done)|simp [e,f,g,l]),trivial⟩,rfl⟩
 rintro a _ ⟨i,rfl⟩;refine aE _ _ ?_
 refine wp_ret (X3 i (Xz i rfl rfl) ?_)
 exact ⟨by rw [gOk,hy,if_neg hk,if_neg aA,Bool.true_and],hW⟩
theorem Y1x(f:World)(Al:Option Addr)(cl:Nat)(l:List Gt)(aE:Rd f f.heap.size 55 encG Al l)(kq:FuncId)(pq:List Value)(Fq:FuncF Tryz.prog kq)(q:Gt→Bool)(hq:∀ x w,Below f.heap.size f w→Ret Tryz.prog kq ([gV x]++pq) w (fun v w'=>v=.bool (q x)∧Below w.heap.size w w'))(aR:l.length≤2305843009213693951) : Ret Tryz.prog 81 [.slice Al l.length cl,.func (.func kq) #[] pq.toArray] f (fun v w=>∃ i:Int,v=vi i∧decide (0≤i)=l.any q∧Below f.heap.size f w):=by
 refine enter Tryz.func81 rfl 19 rfl rfl ?_;intro a c
 have j:=bz f
 refine Zs c fun _ aK=>?_;refine Za rfl<|ZX aK fun a c _ aL=>?_;refine Zs c fun _ aM=>?_;refine Zm rfl<|Ze (X1f rfl X3c)<|Zm rfl<|Zt aM fun a c=>?_;refine wp_block<|X06 (σ:=Nat) (fun (k:Nat) (a:Act) (w:World)=>Fr a 19 [(0,.slice Al l.length cl),(1,.func (.func kq) #[] pq.toArray),(7,vi (l.length:Int)),(8,vi (k:Int))]∧(k≤l.length)∧((l.take k).all (fun x=>!q x)=true)∧Below f.heap.size f w) (fun (k:Nat)=>l.length+1-k) 0 ?_ ?_
 ·exact ⟨c.sb,(Nat.zero_le _),(by simp),j⟩
 rintro k a w1 ⟨c,hk,m,j⟩;refine Zs c fun _ aN=>?_;refine Ze (X1n rfl rfl)<|ZX aN fun a c _ aO=>?_
 refine Xg c rfl (fun e=>?_) (fun e=>?_)
 ·have aF:=e;have e:=of_decide_eq_true e
  obtain ⟨g,aA⟩:=Xm (l:=l) (k:=k) (by omega)
  refine wp_skip<|aO _ _<|wp_seq_k fun _ aP=>?_;refine wp_block<|Zs c fun _ aG=>?_;refine Zm rfl<|Za rfl<|Zx aG fun a c _ aH=>?_;refine Zm rfl<|Zm rfl<|Zm rfl<|Zi (k:=k) (u:=g) (enc:=encG) (l:=l) trivial rfl rfl X3c X2q X3n (aE.below' j) aA rfl ?_;intro aS aB;refine Ze (X0b (l:=[vi g.k,vi g.a,vi g.b]) rfl X23 aB rfl)<|Zf (X98 (cs:=pq) (vs:=[.agg #[vi g.k,vi g.a,vi g.b]]) rfl rfl Fq (hq g _ j)) ?_;rintro _ w2 ⟨rfl,hE⟩;have j:=btr j hE;refine Zt aH fun a c=>?_
  refine Xg c rfl (fun d=>?_) (fun d=>?_)
  ·have aC:=d
   have aD:l.any q=true:=X8m aA d
   refine Zs c fun _ aI=>?_;refine Zm rfl<|Za rfl<|Zt aI fun a c=>?_;refine wp_ret<|Xw<|X7<|X7 ?_;refine Xw<|X7<|X3 c (Xz c rfl rfl) ?_;exact ⟨_,rfl,by rw [aD];simp,j⟩
  have aC:=d
  have aQ:(!q g)=true:=by revert d;cases q g<;>simp
  refine wp_skip<|Xa<|aP _ _<|Zr c ?_;refine Ze (Xu rfl rfl (by omega) (by omega))<|Zm rfl ?_;refine Zn fun a c=>?_;refine Xd ?_;exact ⟨k+1,⟨c.sb,(by omega),(X4l m aA aQ),j⟩,(by omega)⟩
 have aF:=e;have e:=of_decide_eq_false e;refine wp_exit<|Xi<|Xi<|X03 ?_;refine aL _ _<|Zs c fun _ aJ=>?_;refine Za rfl<|Zt aJ fun a c=>?_
 refine wp_ret (X3 c (Xz c rfl rfl) ?_)
 have aD:l.any q=false:=X7a (X3s m (by omega))
 exact ⟨_,rfl,by rw [aD];rfl,j⟩
theorem Y1n(b:World)(Al:Option Addr)(cl:Nat)(l:List Gt)(aA:Rd b b.heap.size 55 encG Al l)(kq:FuncId)(pq:List Value)(Fq:FuncF Tryz.prog kq)(q:Gt→Bool)(hq:∀ x w,Below b.heap.size b w→Ret Tryz.prog kq ([gV x]++pq) w (fun v w'=>v=.bool (q x)∧Below w.heap.size w w'))(aB:l.length≤2305843009213693951) : Ret Tryz.prog 47 [.slice Al l.length cl,.func (.func kq) #[] pq.toArray] b (fun v w=>v=.bool (l.any q)∧Below b.heap.size b w):=by
 refine enter Tryz.func47 rfl 9 rfl rfl ?_;intro a hf
 have hW:=bz b
 refine Zs hf fun _ aC=>?_;refine Za rfl<|Zx aC fun a hf _ aD=>?_;refine Zm rfl<|Zm rfl<|Zf (Vc (Y1x _ Al cl l (aA.below' hW).top kq pq Fq q (fun x w' hE'=>hq x w' (hW.trans (hE'.mono hW.size))) aB) Xw6) ?_;rintro _ w1 ⟨ix,rfl,aE,hE⟩;have hW:=btr hW hE;refine Ze (Xh7 rfl rfl)<|Za rfl<|Zt aD fun a hf=>?_
 refine wp_ret (X3 hf (Xz hf rfl rfl) ?_)
 exact ⟨by rw [← aE],hW⟩
theorem Y1f(w0:World)(x:Gt)(n:Int)(ba:Nat)(v1:Value)(c:Blk w0 ba 25 [vi n,v1]) : Ret Tryz.prog 48 [.agg #[vi x.k,vi x.a,vi x.b],.pointer (some ⟨ba,0,none⟩)] w0 (fun v w=>v=.bool (!gOk n x)∧Below w0.heap.size w0 w):=by
 have aA:=c.lt;refine enter Tryz.func48 rfl 9 rfl rfl ?_;intro a hf
 have hW:=bz w0
 refine Zs hf fun _ aB=>?_;refine Zf (X14 (zs:=[vi x.k,vi x.a,vi x.b]) rfl rfl) ?_;rintro _ w1 ⟨b2,rfl,aC,hE,aD⟩;have aF:=Nat.le_trans hW.size aC;have c:=c.below hE;have hW:=btr hW hE;refine Za rfl<|Zx aB fun a hf _ aE=>?_;refine Ze (Vd rfl X3h 0)<|Ze (X0 rfl X2 (c.at 0))<|Ze (Vn X23 aD)<|Zf (Vc (Y0b _ n x) Xm6) ?_;rintro _ w2 ⟨rfl,hE⟩;have hW:=btr hW hE;refine Ze (X1c rfl)<|Za rfl<|Zt aE fun a hf=>?_
 refine wp_ret (X3 hf (Xz hf rfl rfl) ?_)
 exact ⟨rfl,hW⟩
theorem F55(w0:World)(c:Cx)(Ac:Option Addr)(cc:Nat)(aA:Rd w0 w0.heap.size 55 encG Ac c.gs)(aB:c.gs.length≤2305843009213693951) : Ret Tryz.prog 18 [.agg #[vi c.n,.slice Ac c.gs.length cc]] w0 (fun v w=>v=.bool (cOk c)∧Below w0.heap.size w0 w):=by
 refine enter Tryz.func18 rfl 19 rfl rfl ?_;intro a e
 have i:=bz w0
 refine Zs e fun _ aC=>?_;refine Zf (X14 (zs:=[vi c.n,.slice Ac c.gs.length cc]) rfl rfl) ?_;rintro _ w1 ⟨b3,rfl,aD,hE,j⟩;have aF:=Nat.le_trans i.size aD;have i:=btr i hE;refine Za rfl<|ZX aC fun a e _ aE=>?_;refine X0j (fun a w=>Fr a 19 [(2,.bool (((inR c.n 1 5)&&(decide ((c.gs.length:Int)≤400)))&&(!(c.gs.any (fun x=>!gOk c.n x)))))]∧Below w1.heap.size w1 w) ?_ ?_
 ·have f:Below w1.heap.size w1 w1:=Below.refl _ _
  refine Zr e<|Ze (Vd rfl X3h 0)<|Ze (X0 rfl X2 (j.at 0))<|Zf (Vc (F91 _ c.n 1 5) X32) ?_;rintro _ _ ⟨rfl,rfl⟩;refine Zm rfl ?_
  refine Zg 6 rfl (fun b=>?_) (fun b=>?_)
  ·refine Zv (gW b) (Vd rfl X2d 1) ?_;refine Zv (gW b) (X0 rfl X66 (j.at 1)) ?_;refine Zv (gW b) (X1f rfl X3c) ?_;refine Zv (gW b) (Xhd rfl rfl) ?_;refine Ze (X5 rfl b rfl)<|Zm rfl ?_
   refine Zg 12 rfl (fun d=>?_) (fun d=>?_)
   ·refine Zv (gW d) (Vd rfl X2d 1) ?_;refine Zv (gW d) (X0 rfl X66 (j.at 1)) ?_;refine Zv (gW d) (X5k (vs:=[.pointer (some ⟨b3,0,none⟩)]) rfl) ?_;refine Zk (gW d) (Vc (Y1n _ Ac cc c.gs (aA.below' i).top 48 [.pointer (some ⟨b3,0,none⟩)] Xus (fun x=>!gOk c.n x) (fun x w' hE'=>Y1f w' x c.n _ _ (j.below hE')) aB) Xx3) ?_;rintro _ w2 ⟨rfl,hE⟩;have i:=btr i hE;have f:=btr f hE;refine Zv (gW d) (X1c rfl) ?_;refine Ze (X5 rfl d rfl)<|Za rfl ?_;refine Zn fun a e=>?_
    have g:Below w1.heap.size w1 w2:=f
    exact ⟨e.sub ⟨X1 rfl (by first|rfl|(simp only [b,d,bs];done)|simp [b,d]),trivial⟩,g⟩
   refine Zp (gP d) ?_;refine Zp (gP d) ?_;refine Zp (gP d) ?_;refine Zp (gP d) ?_;refine Zp (gP d) ?_;refine Ze (Xc rfl d rfl)<|Za rfl ?_;refine Zn fun a e=>?_
   have g:Below w1.heap.size w1 w1:=f
   exact ⟨e.sub ⟨X1 rfl (by first|rfl|(simp only [b,d,bs];done)|simp [b,d]),trivial⟩,g⟩
  refine Zp (gP b) ?_;refine Zp (gP b) ?_;refine Zp (gP b) ?_;refine Zp (gP b) ?_;refine Ze (Xc rfl b rfl)<|Zm rfl<|Zp (gP rfl) ?_;refine Zp (gP rfl) ?_;refine Zp (gP rfl) ?_;refine Zp (gP rfl) ?_;refine Zp (gP rfl) ?_;refine Ze (Xc rfl rfl rfl)<|Za rfl ?_;refine Zn fun a e=>?_
  have g:Below w1.heap.size w1 w1:=f
  exact ⟨e.sub ⟨X1 rfl (by first|rfl|(simp only [b,bs];done)|simp [b]),trivial⟩,g⟩
 rintro a w3 ⟨e,hE⟩;have i:=btr i hE;refine aE _ _ ?_
 refine wp_ret (X3 e (Xz e rfl rfl) ?_)
 exact ⟨by simp [cOk, *],i⟩
theorem Xka(w0:World)(n:Int)(s:Int)(q:Int)(h0:0≤q)(h1:q<n)(h2:n≤5) : Ret Tryz.prog 96 [vi n,vi s,vi q] w0 (fun v w=>v=vi (bitF n s q)∧w0=w):=by
 refine enter Tryz.func96 rfl 14 rfl rfl ?_;intro a hf
 have hW:=bz w0
 refine Zs hf fun _ aA=>?_;refine Za rfl<|Zx aA fun a hf _ aB=>?_;refine Zm rfl<|Zm rfl<|Ze (X15 rfl rfl (by omega) (by omega))<|Zm rfl<|Ze (X15 rfl rfl (by omega) (by omega)) ?_;refine Ze (X6v (m:=(n-1-q).toNat) rfl rfl (by omega) (by omega))<|Ze (X69 rfl rfl)<|Za rfl<|Zt aB fun a hf=>?_
 refine wp_ret (X3 hf (Xz hf rfl rfl) ?_)
 exact ⟨rfl,rfl⟩
theorem Xrr(w0:World)(n:Int)(s:Int)(q:Int)(h0:0≤q)(h1:q<n)(h2:n≤5) : Ret Tryz.prog 97 [vi n,vi s,vi q] w0 (fun v w=>v=vi (flipF n s q)∧w0=w):=by
 refine enter Tryz.func97 rfl 14 rfl rfl ?_;intro a hf
 have hW:=bz w0
 refine Zs hf fun _ aA=>?_;refine Za rfl<|Zx aA fun a hf _ aB=>?_;refine Zm rfl<|Zm rfl<|Ze (X15 rfl rfl (by omega) (by omega))<|Zm rfl<|Ze (X15 rfl rfl (by omega) (by omega)) ?_;refine Ze (X2i (m:=(n-1-q).toNat) rfl rfl (by omega) (by omega))<|Ze (X6b rfl rfl)<|Za rfl<|Zt aB fun a hf=>?_
 refine wp_ret (X3 hf (Xz hf rfl rfl) ?_)
 exact ⟨rfl,rfl⟩
theorem Y0o(w0:World)(n:Int)(g:Gt)(hn:1≤n∧n≤5) : Ret Tryz.prog 57 [vi n,.agg #[vi g.k,vi g.a,vi g.b]] w0 (fun v w=>v=.bool (gOk n g)∧Below w0.heap.size w0 w):=by
 refine enter Tryz.func57 rfl 55 rfl rfl ?_;intro a l
 have hW:=bz w0
 refine Zs l fun _ aC=>?_;refine Zf (X14 (zs:=[vi g.k,vi g.a,vi g.b]) rfl rfl) ?_;rintro _ w1 ⟨b2,rfl,aD,hE,o⟩;have aJ:=Nat.le_trans hW.size aD;have hW:=btr hW hE;refine Za rfl<|ZX aC fun a l _ aE=>?_;refine wp_block<|Zs l fun _ aF=>?_;refine Ze (Vd rfl X1i 0)<|Ze (X0 rfl X2 (o.at 0))<|Zf (Vc (F85 _ g.k 1 8) X3f) ?_;rintro _ _ ⟨rfl,rfl⟩;refine Za rfl<|Zt aF fun a l=>?_
 refine Xg l rfl (fun p=>?_) (fun p=>?_)
 ·have d:=p;have q:=Y1j hn p;refine wp_seq_k fun _ aG=>?_;refine X0j (fun a w=>Fr a 55 [(4,.bool ((inR g.a 0 (n-1))&&(g.b==0)))]∧w1=w) ?_ ?_
  ·refine Zr l<|Ze (Vd rfl X11 1)<|Ze (X0 rfl X2 (o.at 1))<|Zm rfl<|Ze (X15 rfl rfl (by omega) (by omega))<|Zf (Vc (F85 _ g.a 0 (n-1)) X3f) ?_;rintro _ _ ⟨rfl,rfl⟩;refine Zm rfl ?_
   refine Zg 14 rfl (fun m=>?_) (fun m=>?_)
   ·refine Zv (gW m) (Vd rfl X1d 2) ?_;refine Zv (gW m) (X0 rfl X2 (o.at 2)) ?_;refine Zv (gW m) (X0l rfl rfl) ?_;refine Ze (X5 rfl m rfl)<|Za rfl ?_;refine Zn fun a l=>?_;exact ⟨l.sub ⟨X1 rfl (by first|rfl|(simp only [d,m,bs];done)|simp [d,m]),trivial⟩,rfl⟩
   refine Zp (gP m) ?_;refine Zp (gP m) ?_;refine Zp (gP m) ?_;refine Ze (Xc rfl m rfl)<|Za rfl ?_;refine Zn fun a l=>?_;exact ⟨l.sub ⟨X1 rfl (by first|rfl|(simp only [d,m,bs];done)|simp [d,m]),trivial⟩,rfl⟩
  rintro a _ ⟨l,rfl⟩;refine aG _ _<|wp_ret<|Xw<|X7 ?_;refine X3 l (Xz l rfl rfl) ?_;exact ⟨by rw [q],hW⟩
 have d:=p;have aH:=p;refine Zs l fun _ aI=>?_;refine Ze (Vd rfl X1i 0)<|Ze (X0 rfl X2 (o.at 0))<|Zf (Vc (F85 _ g.k 9 11) X3f) ?_;rintro _ _ ⟨rfl,rfl⟩;refine Za rfl<|Zt aI fun a l=>?_
 refine Xg l rfl (fun t=>?_) (fun t=>?_)
 ·have i:=t;have q:=Y15 hn t;refine wp_seq_k fun _ aA=>?_;refine X0j (fun a w=>Fr a 55 [(4,.bool (((inR g.a 0 (n-1))&&(inR g.b 0 (n-1)))&&(g.a != g.b)))]∧w1=w) ?_ ?_
  ·refine Zr l<|Ze (Vd rfl X11 1)<|Ze (X0 rfl X2 (o.at 1))<|Zm rfl<|Ze (X15 rfl rfl (by omega) (by omega))<|Zf (Vc (F85 _ g.a 0 (n-1)) X3f) ?_;rintro _ _ ⟨rfl,rfl⟩;refine Zm rfl ?_
   refine Zg 28 rfl (fun c=>?_) (fun c=>?_)
   ·refine Zv (gW c) (Vd rfl X1d 2) ?_;refine Zv (gW c) (X0 rfl X2 (o.at 2)) ?_;refine Zv (gW c) (X4 rfl) ?_;refine Zv (gW c) (X15 rfl rfl (by omega) (by omega)) ?_;refine Zk (gW c) (Vc (F85 _ g.b 0 (n-1)) X3f) ?_;rintro _ _ ⟨rfl,rfl⟩;refine Ze (X5 rfl c rfl)<|Zm rfl ?_
    refine Zg 35 rfl (fun e=>?_) (fun e=>?_)
    ·refine Zv (gW e) (Vd rfl X11 1) ?_;refine Zv (gW e) (X0 rfl X2 (o.at 1)) ?_;refine Zv (gW e) (Vd rfl X1d 2) ?_;refine Zv (gW e) (X0 rfl X2 (o.at 2)) ?_;refine Zv (gW e) (X4v rfl rfl) ?_;refine Ze (X5 rfl e rfl)<|Za rfl ?_;refine Zn fun a l=>?_;exact ⟨l.sub ⟨X1 rfl (by first|rfl|(simp only [d,i,c,e,bs];done)|simp [d,i,c,e]),trivial⟩,rfl⟩
    refine Zp (gP e) ?_;refine Zp (gP e) ?_;refine Zp (gP e) ?_;refine Zp (gP e) ?_;refine Zp (gP e) ?_;refine Ze (Xc rfl e rfl)<|Za rfl ?_;refine Zn fun a l=>?_;exact ⟨l.sub ⟨X1 rfl (by first|rfl|(simp only [d,i,c,e,bs];done)|simp [d,i,c,e]),trivial⟩,rfl⟩
   refine Zp (gP c) ?_;refine Zp (gP c) ?_;refine Zp (gP c) ?_;refine Zp (gP c) ?_;refine Zp (gP c) ?_;refine Ze (Xc rfl c rfl)<|Zm rfl<|Zp (gP rfl) ?_;refine Zp (gP rfl) ?_;refine Zp (gP rfl) ?_;refine Zp (gP rfl) ?_;refine Zp (gP rfl) ?_;refine Ze (Xc rfl rfl rfl)<|Za rfl ?_;refine Zn fun a l=>?_;exact ⟨l.sub ⟨X1 rfl (by first|rfl|(simp only [d,i,c,bs];done)|simp [d,i,c]),trivial⟩,rfl⟩
  rintro a _ ⟨l,rfl⟩;refine aA _ _<|wp_ret<|Xw<|X7 ?_;refine X3 l (Xz l rfl rfl) ?_;exact ⟨by rw [q],hW⟩
 have i:=t;have q:=Y18 hn aH t;refine wp_skip<|Xa<|aE _ _<|wp_seq_k fun _ aB=>?_;refine X0j (fun a w=>Fr a 55 [(4,.bool (((g.k==12)&&(g.a==0))&&(g.b==0)))]∧w1=w) ?_ ?_
 ·refine Zr l<|Ze (Vd rfl X1i 0)<|Ze (X0 rfl X2 (o.at 0))<|Ze (X0l rfl rfl)<|Zm rfl ?_
  refine Zg 45 rfl (fun f=>?_) (fun f=>?_)
  ·refine Zv (gW f) (Vd rfl X11 1) ?_;refine Zv (gW f) (X0 rfl X2 (o.at 1)) ?_;refine Zv (gW f) (X0l rfl rfl) ?_;refine Ze (X5 rfl f rfl)<|Zm rfl ?_
   refine Zg 50 rfl (fun j=>?_) (fun j=>?_)
   ·refine Zv (gW j) (Vd rfl X1d 2) ?_;refine Zv (gW j) (X0 rfl X2 (o.at 2)) ?_;refine Zv (gW j) (X0l rfl rfl) ?_;refine Ze (X5 rfl j rfl)<|Za rfl ?_;refine Zn fun a l=>?_;exact ⟨l.sub ⟨X1 rfl (by first|rfl|(simp only [d,i,f,j,bs];done)|simp [d,i,f,j]),trivial⟩,rfl⟩
   refine Zp (gP j) ?_;refine Zp (gP j) ?_;refine Zp (gP j) ?_;refine Ze (Xc rfl j rfl)<|Za rfl ?_;refine Zn fun a l=>?_;exact ⟨l.sub ⟨X1 rfl (by first|rfl|(simp only [d,i,f,j,bs];done)|simp [d,i,f,j]),trivial⟩,rfl⟩
  refine Zp (gP f) ?_;refine Zp (gP f) ?_;refine Zp (gP f) ?_;refine Ze (Xc rfl f rfl)<|Zm rfl<|Zp (gP rfl) ?_;refine Zp (gP rfl) ?_;refine Zp (gP rfl) ?_;refine Ze (Xc rfl rfl rfl)<|Za rfl ?_;refine Zn fun a l=>?_;exact ⟨l.sub ⟨X1 rfl (by first|rfl|(simp only [d,i,f,bs];done)|simp [d,i,f]),trivial⟩,rfl⟩
 rintro a _ ⟨l,rfl⟩;refine aB _ _ ?_
 refine wp_ret (X3 l (Xz l rfl rfl) ?_)
 exact ⟨by rw [q],hW⟩
theorem F53(t:World)(c:Cx)(Ac:Option Addr)(cc:Nat)(y:Rd t t.heap.size 55 encG Ac c.gs) : Ret Tryz.prog 21 [.agg #[vi c.n,.slice Ac c.gs.length cc]] t (fun v w=>v=.bool (cOk c)∧Below t.heap.size t w):=by
 refine enter Tryz.func21 rfl 28 rfl rfl ?_;intro a d
 have j:=bz t
 refine Zs d fun _ aR=>?_;refine Zf (X14 (zs:=[vi c.n,.slice Ac c.gs.length cc]) rfl rfl) ?_;rintro _ w1 ⟨b3,rfl,aS,hE,f⟩;have aZ:=Nat.le_trans j.size aS;have j:=btr j hE;refine Za rfl<|ZX aR fun a d _ aT=>?_;refine wp_seq_k fun _ aU=>?_;refine X0j (fun a w=>Fr a 28 [(1,.pointer (some ⟨b3,0,none⟩)),(14,.bool ((!(inR c.n 1 5))||(decide (400<(c.gs.length:Int)))))]∧w1=w) ?_ ?_
 ·refine Zr d<|Ze (Vd rfl X3h 0)<|Ze (X0 rfl X2 (f.at 0))<|Zf (Vc (F85 _ c.n 1 5) X3f) ?_;rintro _ _ ⟨rfl,rfl⟩;refine Ze (X1c rfl)<|Zm rfl ?_
  refine Zg 9 rfl (fun e=>?_) (fun e=>?_)
  ·refine Zp (gP e) ?_;refine Zp (gP e) ?_;refine Zp (gP e) ?_;refine Zp (gP e) ?_;refine Ze (X5 rfl e rfl) ?_;refine Zn fun a d=>?_;exact ⟨d.sub ⟨rfl,X1 rfl (by first|rfl|(simp only [e,bs];done)|simp [e]),trivial⟩,rfl⟩
  refine Zv (gW e) (Vd rfl X2d 1) ?_;refine Zv (gW e) (X0 rfl X66 (f.at 1)) ?_;refine Zv (gW e) (X1f rfl X3c) ?_;refine Zv (gW e) (X42 rfl rfl) ?_;refine Ze (Xc rfl e rfl) ?_;refine Zn fun a d=>?_;exact ⟨d.sub ⟨rfl,X1 rfl (by first|rfl|(simp only [e,bs];done)|simp [e]),trivial⟩,rfl⟩
 rintro a _ ⟨d,rfl⟩;refine aU _ _ ?_
 refine Xg d rfl (fun p=>?_) (fun p=>?_)
 ·have aF:=p
  have hn:(inR c.n 1 5&&decide ((c.gs.length:Int)≤400))=false:=by revert p;cases inR c.n 1 5<;>simp
  refine Zs d fun _ aW=>?_;refine Za rfl<|Zt aW fun a d=>?_;refine wp_ret<|X7<|X3 d (Xz d rfl rfl) ?_;exact ⟨by rw [cOk,hn];rfl,j⟩
 have aF:=p
 have hy:(inR c.n 1 5&&decide ((c.gs.length:Int)≤400))=true:=by revert p;cases inR c.n 1 5<;>simp
 have aG:=(Bool.and_eq_true _ _▸hy:inR c.n 1 5=true∧decide ((c.gs.length:Int)≤400)=true);have hn:=Xt.1 aG.1;have b0:=of_decide_eq_true aG.2;refine wp_skip<|aT _ _<|wp_seq_k fun _ aX=>?_;refine Zs d fun _ aH=>?_;refine Ze (Vd rfl X2d 1)<|Ze (X0 rfl X66 (f.at 1))<|Ze (X1f rfl X3c)<|Zm rfl<|Zt aH fun a d=>?_;refine wp_block<|X06 (σ:=Nat) (fun (k:Nat) (a:Act) (w:World)=>Fr a 28 [(1,.pointer (some ⟨b3,0,none⟩)),(16,.slice Ac c.gs.length cc),(17,vi (c.gs.length:Int)),(18,vi (k:Int))]∧(k≤c.gs.length)∧((c.gs.take k).all (fun x=>gOk c.n x)=true)∧Blk w b3 25 [vi c.n,.slice Ac c.gs.length cc]∧Below t.heap.size t w) (fun (k:Nat)=>c.gs.length+1-k) 0 ?_ ?_
 ·exact ⟨d.sb,(Nat.zero_le _),(by simp),f,j⟩
 rintro k a w2 ⟨d,hk,h,f,j⟩;refine Zs d fun _ aI=>?_;refine Ze (X1n rfl rfl)<|ZX aI fun a d _ aJ=>?_
 refine Xg d rfl (fun g=>?_) (fun g=>?_)
 ·have aA:=g;have g:=of_decide_eq_true g
  obtain ⟨i,q⟩:=Xm (l:=c.gs) (k:=k) (by omega)
  refine wp_skip<|aJ _ _<|wp_seq_k fun _ aK=>?_;refine wp_block<|Zs d fun _ aL=>?_;refine Zi (k:=k) (u:=i) (enc:=encG) (l:=c.gs) trivial rfl rfl X3c X2q X3n (y.below' j) q rfl ?_;intro b1 aB;refine Ze (X0b (l:=[vi i.k,vi i.a,vi i.b]) rfl X23 aB rfl)<|Zf (X6 (zs:=[vi 0,vi 0,vi 0]) Xb9 rfl) ?_;rintro _ w3 ⟨b2,rfl,A,hE,o⟩;have aC:=Nat.le_trans j.size A;have aM:=(y.below' j).away A;have f:=f.below hE;have j:=btr j hE;refine Zo (Vw [vi i.k,vi i.a,vi i.b] X2q o) ?_;rintro _ w4 ⟨ho,hb⟩;have aN:=o;have f:=f.only ho (Blk.ne f aN rfl);have j:=Below.only j ho aC;have o:=hb;refine Zx aL fun a d _ aO=>?_;refine Ze (Vd rfl X3h 0)<|Ze (X0 rfl X2 (f.at 0))<|Ze (Vn X23 o)<|Zf (Vc (Y0o _ c.n i hn) Xvk) ?_;rintro _ w5 ⟨rfl,hE⟩;have f:=f.below hE;have j:=btr j hE;refine Ze (X1c rfl)<|Zt aO fun a d=>?_
  refine Xg d rfl (fun m=>?_) (fun m=>?_)
  ·have aD:=m
   have aE:(c.gs.any fun x=>!gOk c.n x)=true:=X8m q m
   refine Zs d fun _ aP=>?_;refine Za rfl<|Zt aP fun a d=>?_;refine wp_ret<|Xw<|X7<|X7 ?_;refine Xw<|X7<|X3 d (Xz d rfl rfl) ?_;exact ⟨by rw [cOk,hy,aE];rfl,j⟩
  have aD:=m
  have aY:gOk c.n i=true:=by revert m;cases gOk c.n i<;>simp
  refine wp_skip<|Xa<|aK _ _<|Zr d ?_;refine Ze (Xu rfl rfl (by omega) (by omega))<|Zm rfl ?_;refine Zn fun a d=>?_;refine Xd ?_;exact ⟨k+1,⟨d.sb,(by omega),(X4l h q aY),f,j⟩,(by omega)⟩
 have aA:=g;have g:=of_decide_eq_false g;refine wp_exit<|Xi<|Xi<|X03 ?_;refine aX _ _<|Zs d fun _ aQ=>?_;refine Za rfl<|Zt aQ fun a d=>?_
 refine wp_ret (X3 d (Xz d rfl rfl) ?_)
 have aE:(c.gs.any fun x=>!gOk c.n x)=false:=X7a (by simpa using X3s h (by omega))
 exact ⟨by rw [cOk,hy,aE];rfl,j⟩
theorem Y13(w0:World)(n:Int)(g:Gt)(s0:Int)(hg:gOk n g=true)(aF:9≤g.k∧g.k≤11) : Ret Tryz.prog 94 [vi n,.agg #[vi g.k,vi g.a,vi g.b],vi s0] w0 (fun v w=>v=vi (toS n g s0)∧Below w0.heap.size w0 w):=by
 have aB:=X27 hg
 have aO:=aB.2.2.1 (by omega)
 have aP:=aB.2.2.2 aF;refine enter Tryz.func94 rfl 51 rfl rfl ?_;intro a d
 have m:=bz w0
 refine Zs d fun _ aG=>?_;refine Zf (X14 (zs:=[vi g.k,vi g.a,vi g.b]) rfl rfl) ?_;rintro _ w1 ⟨b2,rfl,aH,hE,e⟩;have aN:=Nat.le_trans m.size aH;have m:=btr m hE;refine Za rfl<|ZX aG fun a d _ aI=>?_;refine Xq none (fun _=>false) mixed ?_;intro w2 hE;have e:=e.below hE;have m:=btr m hE;refine Yb d<|Yo 0 rfl (fun _=>X4 rfl)<|Yo 1 rfl (fun _=>X4 rfl)<|Yo 2 rfl (fun _=>Vd rfl X11 1)<|Ye 3 rfl (X0 rfl X2 (e.at 1))<|Yo 5 rfl (fun _=>X4 rfl) ?_;refine Yo 6 rfl (fun _=>X4 rfl)<|Yo 7 rfl (fun _=>Vd rfl X1d 2)<|Ye 8 rfl (X0 rfl X2 (e.at 2))<|Y1 4 ?_;refine Yz rfl trivial (Vc (Xka _ n s0 g.a (by omega) (by omega) (by omega)) X9q) ?_;refine Y1 9<|Yz rfl trivial (Vc (Xka _ n s0 g.b (by omega) (by omega) (by omega)) X9q) ?_;refine Yo 10 rfl (fun _=>X19 rfl)<|Yo 11 rfl (fun _=>X19 rfl) ?_;refine Yd fun a d=>?_;refine aI _ _<|wp_seq_k fun _ aJ=>?_;refine wp_block<|wp_seq_k fun _ aK=>?_;refine X0j (fun a w=>Fr a 51 [(0,vi n),(2,vi s0),(4,.pointer (some ⟨b2,0,none⟩)),(7,vi (bitF n s0 g.a)),(8,vi (bitF n s0 g.b)),(19,.bool ((g.k==9)&&((bitF n s0 g.a)==1)))]∧w2=w) ?_ ?_
 ·refine Zr d<|Ze (Vd rfl X1i 0)<|Ze (X0 rfl X2 (e.at 0))<|Ze (X0l rfl rfl)<|Zm rfl ?_
  refine Zg 23 rfl (fun f=>?_) (fun f=>?_)
  ·refine Zv (gW f) (X4 rfl) ?_;refine Zv (gW f) (X0l rfl rfl) ?_;refine Ze (X5 rfl f rfl)<|Za rfl ?_;refine Zn fun a d=>?_;exact ⟨d.sub ⟨rfl,rfl,rfl,rfl,rfl,X1 rfl (by first|rfl|(simp only [f,bs];done)|simp [f]),trivial⟩,rfl⟩
  refine Zp (gP f) ?_;refine Zp (gP f) ?_;refine Ze (Xc rfl f rfl)<|Za rfl ?_;refine Zn fun a d=>?_;exact ⟨d.sub ⟨rfl,rfl,rfl,rfl,rfl,X1 rfl (by first|rfl|(simp only [f,bs];done)|simp [f]),trivial⟩,rfl⟩
 rintro a _ ⟨d,rfl⟩;refine aK _ _ ?_
 refine Xg d rfl (fun l=>?_) (fun l=>?_)
 ·have i:=l
  have h9:g.k=9∧bitF n s0 g.a=1:=by simpa using l
  refine Zs d fun _ aL=>?_;refine Zm rfl<|Zm rfl<|Ze (Vd rfl X1d 2)<|Ze (X0 rfl X2 (e.at 2))<|Zf (Vc (Xrr _ n s0 g.b (by omega) (by omega) (by omega)) Xea) ?_;rintro _ _ ⟨rfl,rfl⟩;refine Za rfl<|Zt aL fun a d=>?_;refine wp_ret<|Xw<|X7<|X3 d (Xz d rfl rfl) ?_;exact ⟨by rw [toS,if_pos h9.1,if_pos h9.2],m⟩
 have i:=l
 have h9:g.k=9→¬ bitF n s0 g.a=1:=by simpa using l
 refine wp_seq_k fun _ aM=>?_;refine X0j (fun a w=>Fr a 51 [(0,vi n),(2,vi s0),(4,.pointer (some ⟨b2,0,none⟩)),(32,.bool ((g.k==11)&&((bitF n s0 g.a) != (bitF n s0 g.b))))]∧w2=w) ?_ ?_
 ·refine Zr d<|Ze (Vd rfl X1i 0)<|Ze (X0 rfl X2 (e.at 0))<|Ze (X0l rfl rfl)<|Zm rfl ?_
  refine Zg 36 rfl (fun c=>?_) (fun c=>?_)
  ·refine Zv (gW c) (X4 rfl) ?_;refine Zv (gW c) (X4 rfl) ?_;refine Zv (gW c) (X4v rfl rfl) ?_;refine Ze (X5 rfl c rfl)<|Za rfl ?_;refine Zn fun a d=>?_;exact ⟨d.sub ⟨rfl,rfl,rfl,X1 rfl (by first|rfl|(simp only [i,c,bs];done)|simp [i,c]),trivial⟩,rfl⟩
  refine Zp (gP c) ?_;refine Zp (gP c) ?_;refine Zp (gP c) ?_;refine Ze (Xc rfl c rfl)<|Za rfl ?_;refine Zn fun a d=>?_;exact ⟨d.sub ⟨rfl,rfl,rfl,X1 rfl (by first|rfl|(simp only [i,c,bs];done)|simp [i,c]),trivial⟩,rfl⟩
 rintro a _ ⟨d,rfl⟩;refine aM _ _ ?_
 refine Xg d rfl (fun j=>?_) (fun j=>?_)
 ·have aA:=j
  have o:g.k=11∧¬ bitF n s0 g.a=bitF n s0 g.b:=by simpa using j
  refine wp_seq_k fun _ aC=>?_;refine Xq none (fun _=>false) mixed ?_;intro w3 hE;have e:=e.below hE;have m:=btr m hE;refine Yb d<|Yo 0 rfl (fun _=>X4 rfl)<|Yo 1 rfl (fun _=>X4 rfl)<|Yo 2 rfl (fun _=>X4 rfl)<|Yo 3 rfl (fun _=>Vd rfl X11 1)<|Ye 4 rfl (X0 rfl X2 (e.at 1)) ?_;refine Yo 6 rfl (fun _=>Vd rfl X1d 2)<|Ye 7 rfl (X0 rfl X2 (e.at 2))<|Y1 5 ?_;refine Yz rfl trivial (Vc (Xrr _ n s0 g.a (by omega) (by omega) (by omega)) Xea) ?_;refine Y1 8<|Yz rfl trivial (Vc (Xrr _ n (flipF n s0 g.a) g.b (by omega) (by omega) (by omega)) Xea) ?_;refine Yo 9 rfl (fun _=>X19 rfl) ?_;refine Yd fun a d=>?_;refine aC _ _<|wp_ret<|Xw<|X7 ?_;refine X3 d (Xz d rfl rfl) ?_;exact ⟨by rw [toS,if_neg (by omega),if_pos o.1,if_pos o.2],m⟩
 have aA:=j
 have o:g.k=11→bitF n s0 g.a=bitF n s0 g.b:=by simpa using j
 refine wp_skip<|Xa<|aJ _ _<|Zs d fun _ aD=>?_;refine Zm rfl<|Za rfl<|Zt aD fun a d=>?_
 refine wp_ret (X3 d (Xz d rfl rfl) ?_)
 have aE:toS n g s0=s0:=by unfold toS;split;rw [if_neg (h9 (by assumption))];split;rw [if_neg (by simpa using o (by assumption))];rfl
 exact ⟨by rw [aE],m⟩
def entI(p:Int×Int×Nat) : MapEntry:={ key:=.int .i64 p.1,val:=.int .i64 p.2.1,born:=p.2.2 }
def MapI(w:World)(b:Nat)(l:List (Int×Int×Nat))(clock:Nat) : Prop:=w.heap[b]? = some (.map (l.map entI).toArray clock)
theorem X8l{k:IntKind}{x:Int} : ∀ (l:List (Int×Int×Nat)) (i:Nat),(l.all fun p=>p.1 != x)=true→Instr.findNow (.int k) (.int .i64 x) (l.map entI) i=some none
 | [],_,_=>rfl
 | p::l,i,h=>by
  simp only [List.all_cons,Bool.and_eq_true,bne_iff_ne] at h
  have h1:(x==p.1)=false:=by simpa using Ne.symm h.1
  simp only [List.map_cons,Instr.findNow,entI,Instr.sameNow,if_true,h1]
  exact X8l l (i+1) h.2
theorem X8v{k:IntKind}{x v:Int} : ∀ (l:List (Int×Int×Nat)) (i:Nat),(l.find? fun p=>p.1==x).map (fun p=>p.2.1)=some v→∃ j,Instr.findNow (.int k) (.int .i64 x) (l.map entI) i=some (some (j,.int .i64 v))
 | [],_,h=>by cases h
 | p::l,i,h=>by
  by_cases hx:p.1=x
  ·refine ⟨i,?_⟩
   have h1:(p.1==x)=true:=by simpa using hx
   simp only [List.find?_cons,h1,Option.map_some,Option.some.injEq] at h
   have h2:(x==p.1)=true:=by simpa using hx.symm
   simp only [List.map_cons,Instr.findNow,entI,Instr.sameNow,if_true,h2,h]
  ·have h1:(p.1==x)=false:=by simpa using hx
   simp only [List.find?_cons,h1] at h
   obtain ⟨j,hj⟩:=X8v (k:=k) l (i+1) h
   refine ⟨j,?_⟩
   have h2:(x==p.1)=false:=by simpa using fun e=>hx e.symm
   simp only [List.map_cons,Instr.findNow,entI,Instr.sameNow,if_true,h2]
   exact hj
theorem MapI.below{w w':World}{b clock:Nat}{l:List (Int×Int×Nat)}(h:MapI w b l clock)(hb:Below w.heap.size w w') : MapI w' b l clock:=by
 have hlt:b<w.heap.size:=by
  rcases Nat.lt_or_ge b w.heap.size with h'|h'
  ·exact h'
  ·simp [MapI,Array.getElem?_eq_none h'] at h
 exact (hb.block b hlt).trans h
theorem MapI.only{w w':World}{b b' clock:Nat}{l:List (Int×Int×Nat)}(h:MapI w b l clock)(ho:Only b' w w')(hne:b≠b') : MapI w' b l clock:=(ho.block b hne).trans h
theorem MapI.ne{w:World}{b b' clock:Nat}{l:List (Int×Int×Nat)}{T:TypeId}{cs:List Value}(h:MapI w b l clock)(hb:Blk w b' T cs) : b≠b':=by
 rintro rfl
 unfold MapI at h
 unfold Blk at hb
 rw [h] at hb
 cases hb
section
variable {P : Program} {a : Act} {w : World} {n : Nat} {e : Env} {ty : TypeId} {pos : String} {af : Array Edge} {g : Option (Nat × Bool)} {d : Option Tmp}
theorem Xb3{T:TypeId} : Ef P ⟨d,.makeMap T none,ty,pos,af,g⟩ a w (fun v w'=>∃ b,v=.map (some b)∧w.heap.size≤b∧Below w.heap.size w w'∧MapI w' b [] 0):=by
 refine (Ef.of_run (v:=.map (some w.heap.size)) (w':=w.alloc (.map #[] 0)) ?_).mono fun v w' ⟨e1,e2⟩=>?_
 ·rfl
 ·subst e1;subst e2
  exact ⟨_,rfl,Nat.le_refl _,(Below.refl _ _).alloc (Nat.le_refl _) _,heap_alloc_new w _⟩
theorem Xok{n:Nat}{e:List (Nat×Value)}{T:TypeId} : EfW P ⟨d,.makeMap T none,ty,pos,af,g⟩ n e w (fun v w'=>∃ b,v=.map (some b)∧w.heap.size≤b∧Below w.heap.size w w'∧MapI w' b [] 0):=fun a _=>Xb3
theorem Xl0{T K E:TypeId}{m x y:Operand}{b clock:Nat}{l:List (Int×Int×Nat)}{i j:Int}(hf:Fr a n e)(hm:ev e m=some (.map (some b)))(hx:ev e x=some (.int .i64 i))(hy:ev e y=some (.int .i64 j))(hT:P.underlying T=some (.map K E))(hK:P.underlying K=some (.int .i64))(hM:MapI w b l clock)(hnew:(l.all fun p=>p.1 != i)=true) :
  Ef P ⟨d,.insert T m x y,ty,pos,af,g⟩ a w (fun _ w'=>Only b w w'∧MapI w' b (l++[(i,j,clock)]) (clock+1)):=by
 have hfind:=X8l (k:=.i64) l 0 hnew
 have hck:(Instr.checkKey false 10000 K (.int .i64 i)).run P w=.ok () w:=MapKept.run_checkKey hK (show MapKept.IsKey (.int .i64) (.int .i64 i) from rfl) false 9999
 have hlt:b<w.heap.size:=by
  rcases Nat.lt_or_ge b w.heap.size with h'|h'
  ·exact h'
  ·simp [MapI,Array.getElem?_eq_none h'] at hM
 unfold MapI at hM
 refine (Ef.of_skip (w':={ w with heap:=w.heap.setIfInBounds b (.map ((l++[(i,j,clock)]).map entI).toArray (clock+1)) }) ?_).mono fun v w' ⟨_,e2⟩=>?_
 ·simp [execOp,Instr.mapUpdate,hf.ev hm,hf.ev hx,hf.ev hy,X0d hT,getObj,hM,hck,Instr.findKey,X0d hK,hfind,setObj,Sem.run,entI]
 ·subst e2
  refine ⟨⟨rfl,rfl,rfl,by simp,fun k hk=>?_⟩,?_⟩
  ·show (w.heap.setIfInBounds b _)[k]? = _
   rw [Array.getElem?_setIfInBounds_ne (Ne.symm hk)]
  ·show (w.heap.setIfInBounds b _)[b]? = _
   simp [hlt]
theorem X8n{T K E:TypeId}{m x y:Operand}{b clock:Nat}{l:List (Int×Int×Nat)}{i j:Int}(hm:ev e m=some (.map (some b)))(hx:ev e x=some (.int .i64 i))(hy:ev e y=some (.int .i64 j))(hT:P.underlying T=some (.map K E))(hK:P.underlying K=some (.int .i64))(hM:MapI w b l clock)(hnew:(l.all fun p=>p.1 != i)=true) : EfW P ⟨d,.insert T m x y,ty,pos,af,g⟩ n e w (fun _ w'=>Only b w w'∧MapI w' b (l++[(i,j,clock)]) (clock+1)):=fun a hf=>Xl0 hf hm hx hy hT hK hM hnew
theorem Xks{T K E:TypeId}{m x:Operand}{b clock:Nat}{l:List (Int×Int×Nat)}{i v:Int}(hf:Fr a n e)(hm:ev e m=some (.map (some b)))(hx:ev e x=some (.int .i64 i))(hT:P.underlying T=some (.map K E))(hK:P.underlying K=some (.int .i64))(hM:MapI w b l clock)(hv:(l.find? fun p=>p.1==i).map (fun p=>p.2.1)=some v) :
  Ev P ⟨d,.lookup T m x false,ty,pos,af,g⟩ a w (.int .i64 v):=fun w' hw=>by
 obtain ⟨j,hj⟩:=X8v (k:=.i64) l 0 hv
 have hM':=hM.below hw
 have hck:∀ em,(Instr.checkKey em 10000 K (.int .i64 i)).run P w'=.ok () w':=fun em=>MapKept.run_checkKey hK (show MapKept.IsKey (.int .i64) (.int .i64 i) from rfl) em 9999
 unfold MapI at hM'
 simp [execOp,Instr.lookup,hf.ev hm,hf.ev hx,X0d hT,getObj,Sem.run,hM',hck,Instr.findKey,X0d hK,hj]
theorem Xpv{T K E:TypeId}{m x:Operand}{b clock:Nat}{l:List (Int×Int×Nat)}{i v:Int}(hm:ev e m=some (.map (some b)))(hx:ev e x=some (.int .i64 i))(hT:P.underlying T=some (.map K E))(hK:P.underlying K=some (.int .i64))(hM:MapI w b l clock)(hv:(l.find? fun p=>p.1==i).map (fun p=>p.2.1)=some v) : EvW P ⟨d,.lookup T m x false,ty,pos,af,g⟩ n e w (.int .i64 v):=fun a hf=>Xks hf hm hx hT hK hM hv
end
theorem Y0t(w0:World)(k:Int)(i:Int)(j:Int)(hk:1≤k∧k≤8)(hj:j=0∨j=1) : Ret Tryz.prog 98 [vi k,vi i,vi j] w0 (fun v w=>v=dV (entryI k i j)∧Below w0.heap.size w0 w):=by
 refine enter Tryz.func98 rfl 67 rfl rfl ?_;intro a f
 have m:=bz w0
 refine Zs f fun _ aR=>?_;refine Zf (X6 (zs:=[vi 0,vi 0,vi 0,vi 0,vi 0]) X2t rfl) ?_;rintro _ w1 ⟨b2,rfl,aS,G,e⟩;have E:=Nat.le_trans m.size aS;have m:=btr m G;refine Zx aR fun a f _ aT=>?_;refine Ze (Xk (ps:=[(0,vi 1)]) (cs:=[vi 1,vi 0,vi 0,vi 0]) rfl (fun _=>by first|rfl|kernel_rfl))<|Ze (Xk (ps:=[(0,.agg #[vi 1,vi 0,vi 0,vi 0]),(1,vi 1)]) (cs:=[vi 1,vi 0,vi 0,vi 0,vi 1]) rfl (fun _=>by first|rfl|kernel_rfl))<|Zf (X6 (zs:=[vi 0,vi 0,vi 0,vi 0,vi 0]) X2t rfl) ?_;rintro _ w2 ⟨b4,rfl,aU,G,n⟩
 have aQ:b2≠b4:=by have:=e.lt;omega
 have W:=Nat.le_trans m.size aU;have e:=e.below G;have m:=btr m G;refine Zo (Vw [vi 1,vi 0,vi 0,vi 0,vi 1] X0u n) ?_;rintro _ w3 ⟨p,H⟩;have D:=n;have e:=e.only p (by omega);have m:=Below.only m p W;have n:=H;refine Zx aT fun a f _ aW=>?_;refine Zf (Xok) ?_;rintro _ w4 ⟨b6,rfl,aX,G,t⟩;have I:=Nat.le_trans m.size aX;have e:=e.below G;have n:=n.below G;have m:=btr m G;refine Zo (X8n (l:=[]) (clock:=0) rfl rfl rfl Tryz.underlying59 Tryz.underlying3 t rfl) ?_;rintro _ w5 ⟨p,q⟩;have e:=e.only p (Ne.symm (t.ne e));have n:=n.only p (Ne.symm (t.ne n));have m:=Below.only m p I
 have t:=q;clear q p;refine Zo (X8n (l:=[(4,4,0)]) (clock:=1) rfl rfl rfl Tryz.underlying59 Tryz.underlying3 t rfl) ?_;rintro _ w6 ⟨p,q⟩;have e:=e.only p (Ne.symm (t.ne e));have n:=n.only p (Ne.symm (t.ne n));have m:=Below.only m p I
 have t:=q;clear q p;refine Zo (X8n (l:=[(4,4,0),(5,2,1)]) (clock:=2) rfl rfl rfl Tryz.underlying59 Tryz.underlying3 t rfl) ?_;rintro _ w7 ⟨p,q⟩;have e:=e.only p (Ne.symm (t.ne e));have n:=n.only p (Ne.symm (t.ne n));have m:=Below.only m p I
 have t:=q;clear q p;refine Zo (X8n (l:=[(4,4,0),(5,2,1),(6,6,2)]) (clock:=3) rfl rfl rfl Tryz.underlying59 Tryz.underlying3 t rfl) ?_;rintro _ w8 ⟨p,q⟩;have e:=e.only p (Ne.symm (t.ne e));have n:=n.only p (Ne.symm (t.ne n));have m:=Below.only m p I
 have t:=q;clear q p;refine Zo (X8n (l:=[(4,4,0),(5,2,1),(6,6,2),(7,1,3)]) (clock:=4) rfl rfl rfl Tryz.underlying59 Tryz.underlying3 t rfl) ?_;rintro _ w9 ⟨p,q⟩;have e:=e.only p (Ne.symm (t.ne e));have n:=n.only p (Ne.symm (t.ne n));have m:=Below.only m p I
 have t:=q;clear q p;refine Zm rfl<|Za rfl<|ZX aW fun a f _ aY=>?_;refine wp_block<|Zs f fun _ aZ=>?_;refine Zm rfl<|Ze (X0l rfl rfl)<|Za rfl<|Zt aZ fun a f=>?_
 refine Xg f rfl (fun U=>?_) (fun U=>?_)
 ·have g:=U
  have e1:k=1:=by simpa using U
  refine wp_seq_k fun _ aA=>?_;refine wp_seq_k fun _ aE=>?_;refine X0j (fun a w=>Fr a 67 [(6,.pointer (some ⟨b2,0,none⟩)),(7,.pointer (some ⟨b4,0,none⟩)),(21,.bool ((i==1)&&(j==1)))]∧w9=w) ?_ ?_
  ·refine Zr f<|Zm rfl<|Ze (X0l rfl rfl)<|Zm rfl ?_
   refine Zg 18 rfl (fun B=>?_) (fun B=>?_)
   ·refine Zv (gW B) (X4 rfl) ?_;refine Zv (gW B) (X0l rfl rfl) ?_;refine Ze (X5 rfl B rfl) ?_;refine Zn fun a f=>?_;exact ⟨f.sub ⟨rfl,rfl,X1 rfl (by first|rfl|(simp only [g,B,bs];done)|simp [g,B]),trivial⟩,rfl⟩
   refine Zp (gP B) ?_;refine Zp (gP B) ?_;refine Ze (Xc rfl B rfl) ?_;refine Zn fun a f=>?_;exact ⟨f.sub ⟨rfl,rfl,X1 rfl (by first|rfl|(simp only [g,B,bs];done)|simp [g,B]),trivial⟩,rfl⟩
  rintro a _ ⟨f,rfl⟩;refine aE _ _ ?_
  refine Xg f rfl (fun J=>?_) (fun J=>?_)
  ·have aB:=J
   have u:entryI k i j=⟨⟨-1,0,0,0⟩,1⟩:=by rw [entryI,if_pos e1,if_pos (by simpa using J)]
   refine Zr f<|Ze (Vd rfl X5g 0)<|Ze (Vd rfl X1r 0)<|Zo (Vu (vs:=[vi (-1)]) (l':=[vi (-1),vi 0,vi 0,vi 0,vi 1]) rfl rfl X12 n) ?_;rintro _ b1 ⟨p,H⟩;have D:=n;have e:=e.only p (by omega);have m:=Below.only m p W;have n:=H;refine Zx aA fun a f _ aF=>?_;refine Ze (Vn X0i n)<|Zo (Vw [vi (-1),vi 0,vi 0,vi 0,vi 1] X0u e) ?_;rintro _ b3 ⟨p,H⟩;have D:=e;have m:=Below.only m p E;have e:=H;refine Zt aF fun a f=>?_;refine wp_ret<|Xw<|X7<|X3 f (Xz f rfl (ResV.cellN (l:=[vi (-1),vi 0,vi 0,vi 0,vi 1]) rfl X0i (e.at 0) rfl)) ?_;exact ⟨(by rw [u];try rfl),m⟩
  have aB:=J
  have u:entryI k i j=dHalf:=by rw [entryI,if_pos e1,if_neg (by simpa using J)]
  refine wp_skip<|aA _ _<|Zs f fun _ aG=>?_;refine Ze (Vn X0i n)<|Zo (Vw [vi 1,vi 0,vi 0,vi 0,vi 1] X0u e) ?_;rintro _ b5 ⟨p,H⟩;have D:=e;have m:=Below.only m p E;have e:=H;refine Zt aG fun a f=>?_;refine wp_ret<|Xw<|X7<|X3 f (Xz f rfl (ResV.cellN (l:=[vi 1,vi 0,vi 0,vi 0,vi 1]) rfl X0i (e.at 0) rfl)) ?_;exact ⟨(by rw [u];try rfl),m⟩
 have g:=U
 have e1:¬ k=1:=by simpa using U
 refine wp_seq_k fun _ aH=>?_;refine X0j (fun a w=>Fr a 67 [(0,vi k),(1,vi i),(2,vi j),(6,.pointer (some ⟨b2,0,none⟩)),(8,.map (some b6)),(25,.bool ((k==2)&&(i != j)))]∧w9=w) ?_ ?_
 ·refine Zr f<|Zm rfl<|Ze (X0l rfl rfl)<|Zm rfl ?_
  refine Zg 28 rfl (fun x=>?_) (fun x=>?_)
  ·refine Zv (gW x) (X4 rfl) ?_;refine Zv (gW x) (X4 rfl) ?_;refine Zv (gW x) (X4v rfl rfl) ?_;refine Ze (X5 rfl x rfl)<|Za rfl ?_;refine Zn fun a f=>?_;exact ⟨f.sub ⟨rfl,rfl,rfl,rfl,rfl,X1 rfl (by first|rfl|(simp only [g,x,bs];done)|simp [g,x]),trivial⟩,rfl⟩
  refine Zp (gP x) ?_;refine Zp (gP x) ?_;refine Zp (gP x) ?_;refine Ze (Xc rfl x rfl)<|Za rfl ?_;refine Zn fun a f=>?_;exact ⟨f.sub ⟨rfl,rfl,rfl,rfl,rfl,X1 rfl (by first|rfl|(simp only [g,x,bs];done)|simp [g,x]),trivial⟩,rfl⟩
 rintro a _ ⟨f,rfl⟩;refine aH _ _ ?_
 refine Xg f rfl (fun L=>?_) (fun L=>?_)
 ·have o:=L
  have u:entryI k i j=⟨⟨1,0,0,0⟩,0⟩:=by rw [entryI,if_neg e1,if_pos (by simpa using L)]
  refine Zs f fun _ aI=>?_;refine Zf (Vc (Xuw _ 1) Xgx) ?_;rintro _ b7 ⟨rfl,G⟩;have e:=e.below G;have m:=btr m G;refine Zo (Vw [vi ((⟨⟨1,0,0,0⟩,0⟩ : Dy).num.a),vi ((⟨⟨1,0,0,0⟩,0⟩ : Dy).num.b),vi ((⟨⟨1,0,0,0⟩,0⟩ : Dy).num.c),vi ((⟨⟨1,0,0,0⟩,0⟩ : Dy).num.d),vi ((⟨⟨1,0,0,0⟩,0⟩ : Dy).exp)] X0u e) ?_;rintro _ b8 ⟨p,H⟩;have D:=e;have m:=Below.only m p E;have e:=H;refine Zt aI fun a f=>?_;refine wp_ret<|Xw<|X7<|X3 f (Xz f rfl (ResV.cellN (l:=[vi ((⟨⟨1,0,0,0⟩,0⟩ : Dy).num.a),vi ((⟨⟨1,0,0,0⟩,0⟩ : Dy).num.b),vi ((⟨⟨1,0,0,0⟩,0⟩ : Dy).num.c),vi ((⟨⟨1,0,0,0⟩,0⟩ : Dy).num.d),vi ((⟨⟨1,0,0,0⟩,0⟩ : Dy).exp)]) rfl X0i (e.at 0) rfl)) ?_;exact ⟨(by rw [u];try rfl),m⟩
 have o:=L
 have e2:¬ (k=2∧i≠j):=by simpa using L
 refine wp_seq_k fun _ aJ=>?_;refine X0j (fun a w=>Fr a 67 [(0,vi k),(1,vi i),(2,vi j),(6,.pointer (some ⟨b2,0,none⟩)),(8,.map (some b6)),(34,.bool ((k==3)&&(i != j)))]∧w9=w) ?_ ?_
 ·refine Zr f<|Zm rfl<|Ze (X0l rfl rfl)<|Zm rfl ?_
  refine Zg 37 rfl (fun y=>?_) (fun y=>?_)
  ·refine Zv (gW y) (X4 rfl) ?_;refine Zv (gW y) (X4 rfl) ?_;refine Zv (gW y) (X4v rfl rfl) ?_;refine Ze (X5 rfl y rfl)<|Za rfl ?_;refine Zn fun a f=>?_;exact ⟨f.sub ⟨rfl,rfl,rfl,rfl,rfl,X1 rfl (by first|rfl|(simp only [g,o,y,bs];done)|simp [g,o,y]),trivial⟩,rfl⟩
  refine Zp (gP y) ?_;refine Zp (gP y) ?_;refine Zp (gP y) ?_;refine Ze (Xc rfl y rfl)<|Za rfl ?_;refine Zn fun a f=>?_;exact ⟨f.sub ⟨rfl,rfl,rfl,rfl,rfl,X1 rfl (by first|rfl|(simp only [g,o,y,bs];done)|simp [g,o,y]),trivial⟩,rfl⟩
 rintro a _ ⟨f,rfl⟩;refine aJ _ _ ?_
 refine Xg f rfl (fun M=>?_) (fun M=>?_)
 ·have C:=M
  have b0:k=3∧i≠j:=(by simpa using M)
  have u:entryI k i j=dPow (2+4*j):=by rw [entryI,if_neg e1,if_neg e2,if_pos b0]
  refine Zs f fun _ aK=>?_;refine Zm rfl<|Ze (X2y rfl rfl (by omega) (by omega))<|Ze (Xu rfl rfl (by omega) (by omega))<|Zf (Vc (Xl3 _ (2+(4*j)) (Xt.2 ⟨by omega,by omega⟩)) X9h) ?_;rintro _ b9 ⟨rfl,G⟩;have e:=e.below G;have m:=btr m G;refine Zo (Vw [vi ((dPow (2+(4*j))).num.a),vi ((dPow (2+(4*j))).num.b),vi ((dPow (2+(4*j))).num.c),vi ((dPow (2+(4*j))).num.d),vi ((dPow (2+(4*j))).exp)] X0u e) ?_;rintro _ bC ⟨p,H⟩;have D:=e;have m:=Below.only m p E;have e:=H;refine Zt aK fun a f=>?_;refine wp_ret<|Xw<|X7<|X3 f (Xz f rfl (ResV.cellN (l:=[vi ((dPow (2+(4*j))).num.a),vi ((dPow (2+(4*j))).num.b),vi ((dPow (2+(4*j))).num.c),vi ((dPow (2+(4*j))).num.d),vi ((dPow (2+(4*j))).exp)]) rfl X0i (e.at 0) rfl)) ?_;exact ⟨(by rw [u];try rfl),m⟩
 have C:=M
 have e3:¬ (k=3∧i≠j):=by simpa using M
 refine wp_seq_k fun _ aL=>?_;refine X0j (fun a w=>Fr a 67 [(0,vi k),(1,vi i),(6,.pointer (some ⟨b2,0,none⟩)),(8,.map (some b6)),(46,.bool (((k==2)||(k==3))||(i != j)))]∧w9=w) ?_ ?_
 ·refine Zr f<|Zm rfl<|Ze (X0l rfl rfl)<|Zm rfl ?_
  refine Zg 49 rfl (fun h=>?_) (fun h=>?_)
  ·refine Zp (gP h) ?_;refine Zp (gP h) ?_;refine Ze (X5 rfl h rfl)<|Zm rfl<|Zp (gP rfl) ?_;refine Zp (gP rfl) ?_;refine Zp (gP rfl) ?_;refine Ze (X5 rfl rfl rfl)<|Za rfl ?_;refine Zn fun a f=>?_;exact ⟨f.sub ⟨rfl,rfl,rfl,rfl,X1 rfl (by first|rfl|(simp only [g,o,C,h,bs];done)|simp [g,o,C,h]),trivial⟩,rfl⟩
  refine Zv (gW h) (X4 rfl) ?_;refine Zv (gW h) (X0l rfl rfl) ?_;refine Ze (Xc rfl h rfl)<|Zm rfl ?_
  refine Zg 53 rfl (fun A=>?_) (fun A=>?_)
  ·refine Zp (gP A) ?_;refine Zp (gP A) ?_;refine Zp (gP A) ?_;refine Ze (X5 rfl A rfl)<|Za rfl ?_;refine Zn fun a f=>?_;exact ⟨f.sub ⟨rfl,rfl,rfl,rfl,X1 rfl (by first|rfl|(simp only [g,o,C,h,A,bs];done)|simp [g,o,C,h,A]),trivial⟩,rfl⟩
  refine Zv (gW A) (X4 rfl) ?_;refine Zv (gW A) (X4 rfl) ?_;refine Zv (gW A) (X4v rfl rfl) ?_;refine Ze (Xc rfl A rfl)<|Za rfl ?_;refine Zn fun a f=>?_;exact ⟨f.sub ⟨rfl,rfl,rfl,rfl,X1 rfl (by first|rfl|(simp only [g,o,C,h,A,bs];done)|simp [g,o,C,h,A]),trivial⟩,rfl⟩
 rintro a _ ⟨f,rfl⟩;refine aL _ _ ?_
 refine Xg f rfl (fun N=>?_) (fun N=>?_)
 ·have aC:=N
  have u:entryI k i j=dZ:=by rw [entryI,if_neg e1,if_neg e2,if_neg e3,if_pos (by simpa [or_assoc] using N)]
  refine Zs f fun _ aM=>?_;refine Ze (Xk (ps:=[]) (cs:=[vi 0,vi 0,vi 0,vi 0,vi 0]) rfl (fun _=>by first|rfl|kernel_rfl))<|Zo (Vw [vi 0,vi 0,vi 0,vi 0,vi 0] X0u e) ?_;rintro _ bD ⟨p,H⟩;have D:=e;have m:=Below.only m p E;have e:=H;refine Zt aM fun a f=>?_;refine wp_ret<|Xw<|X7<|X3 f (Xz f rfl (ResV.cellN (l:=[vi 0,vi 0,vi 0,vi 0,vi 0]) rfl X0i (e.at 0) rfl)) ?_;exact ⟨(by rw [u];try rfl),m⟩
 have aC:=N
 have e4:¬ (k=2∨k=3∨i≠j):=by simpa [not_or,and_assoc] using N
 refine Zs f fun _ aN=>?_;refine Zm rfl<|Ze (X0l rfl rfl)<|Za rfl<|Zt aN fun a f=>?_
 refine Xg f rfl (fun Q=>?_) (fun Q=>?_)
 ·have aD:=Q
  have u:entryI k i j=⟨⟨1,0,0,0⟩,0⟩:=by rw [entryI,if_neg e1,if_neg e2,if_neg e3,if_neg e4,if_pos (by simpa using Q)]
  refine Zs f fun _ aO=>?_;refine Zf (Vc (Xuw _ 1) Xgx) ?_;rintro _ bE ⟨rfl,G⟩;have e:=e.below G;have m:=btr m G;refine Zo (Vw [vi ((⟨⟨1,0,0,0⟩,0⟩ : Dy).num.a),vi ((⟨⟨1,0,0,0⟩,0⟩ : Dy).num.b),vi ((⟨⟨1,0,0,0⟩,0⟩ : Dy).num.c),vi ((⟨⟨1,0,0,0⟩,0⟩ : Dy).num.d),vi ((⟨⟨1,0,0,0⟩,0⟩ : Dy).exp)] X0u e) ?_;rintro _ bF ⟨p,H⟩;have D:=e;have m:=Below.only m p E;have e:=H;refine Zt aO fun a f=>?_;refine wp_ret<|Xw<|X7<|X3 f (Xz f rfl (ResV.cellN (l:=[vi ((⟨⟨1,0,0,0⟩,0⟩ : Dy).num.a),vi ((⟨⟨1,0,0,0⟩,0⟩ : Dy).num.b),vi ((⟨⟨1,0,0,0⟩,0⟩ : Dy).num.c),vi ((⟨⟨1,0,0,0⟩,0⟩ : Dy).num.d),vi ((⟨⟨1,0,0,0⟩,0⟩ : Dy).exp)]) rfl X0i (e.at 0) rfl)) ?_;exact ⟨(by rw [u];try rfl),m⟩
 have aD:=Q
 have u:entryI k i j=dPow (turnOf k):=by rw [entryI,if_neg e1,if_neg e2,if_neg e3,if_neg e4,if_neg (by simpa using Q)]
 refine wp_skip<|Xa<|aY _ _<|Zs f fun _ aP=>?_;refine Zm rfl<|Zm rfl<|Ze (Xpv (v:=(turnOf k)) rfl rfl Tryz.underlying59 Tryz.underlying3 t (Xjz (by omega) (by omega)))<|Zf (Vc (Xl3 _ (turnOf k) (Xk6 k)) X9h) ?_;rintro _ bG ⟨rfl,G⟩;have e:=e.below G;have m:=btr m G;refine Zo (Vw [vi ((dPow (turnOf k)).num.a),vi ((dPow (turnOf k)).num.b),vi ((dPow (turnOf k)).num.c),vi ((dPow (turnOf k)).num.d),vi ((dPow (turnOf k)).exp)] X0u e) ?_;rintro _ bH ⟨p,H⟩;have D:=e;have m:=Below.only m p E;have e:=H;refine Zt aP fun a f=>?_
 refine wp_ret (X3 f (Xz f rfl (ResV.cellN (l:=[vi ((dPow (turnOf k)).num.a),vi ((dPow (turnOf k)).num.b),vi ((dPow (turnOf k)).num.c),vi ((dPow (turnOf k)).num.d),vi ((dPow (turnOf k)).exp)]) rfl X0i (e.at 0) rfl)) ?_)
 exact ⟨(by rw [u];try rfl),m⟩
theorem Y12(W:World)(g:Gt)(n:Int)(ba bb:Nat)(f:Blk W ba 55 (encG g))(m:Blk W bb 3 [vi n])(hg:gOk n g=true)(i j:Int) : Ret Tryz.prog 92 [vi i,vi j,.pointer (some ⟨ba,0,none⟩),.pointer (some ⟨bb,0,none⟩)] W (fun v w=>v=.tuple #[dV (cellI n g i j),.bool true]∧Below W.heap.size W w):=by
 have aM:=f.lt;have aN:=m.lt
 unfold encG at f
 have aC:=X27 hg;have aD:=X3y n j g.a;refine enter Tryz.func92 rfl 75 rfl rfl ?_;intro a t
 have u:=bz W
 refine Zs t fun _ aO=>?_;refine Zf (X6 (zs:=[vi 0,vi 0,vi 0,vi 0,vi 0]) X2t rfl) ?_;rintro _ w1 ⟨b2,rfl,aP,y,e⟩;have C:=Nat.le_trans u.size aP;have f:=f.below y;have m:=m.below y;have u:=btr u y;refine Za rfl<|ZX aO fun a t _ aA=>?_;refine wp_block<|Zs t fun _ aQ=>?_;refine Ze (Vd rfl X1i 0)<|Ze (X0 rfl X2 (f.at 0))<|Ze (X0l rfl rfl)<|Za rfl<|Zt aQ fun a t=>?_
 refine Xg t rfl (fun N=>?_) (fun N=>?_)
 ·have D:=N;have hk:=eq_of_beq N;refine Zs t fun _ aR=>?_;refine Zm rfl<|Zm rfl<|Ze (X0l rfl rfl)<|Zt aR fun a t=>?_
  refine Xg t rfl (fun Q=>?_) (fun Q=>?_)
  ·have aE:=Q
   have A:cellI n g i j=dPow 1:=by rw [cellI,if_pos hk,if_pos (eq_of_beq Q)]
   refine Zs t fun _ aS=>?_;refine Zf (Vc (Xl3 _ 1 (by rfl)) X9h) ?_;rintro _ w2 ⟨rfl,y⟩;have e:=e.below y;have u:=btr u y;refine Zo (Vw [vi ((dPow 1).num.a),vi ((dPow 1).num.b),vi ((dPow 1).num.c),vi ((dPow 1).num.d),vi ((dPow 1).exp)] X0u e) ?_;rintro _ w3 ⟨E,M⟩;have x:=e;have u:=Below.only u E C;have e:=M;refine Za rfl<|Zt aS fun a t=>?_;refine wp_ret<|Xw<|X7<|X3 t (X1m t rfl (ResV.cellN (l:=[vi ((dPow 1).num.a),vi ((dPow 1).num.b),vi ((dPow 1).num.c),vi ((dPow 1).num.d),vi ((dPow 1).exp)]) rfl X0i (e.at 0) rfl) rfl) ?_;exact ⟨(by rw [A];try rfl),u⟩
  have aE:=Q
  have A:cellI n g i j=dZ:=by rw [cellI,if_pos hk,if_neg (X7w Q)]
  refine wp_skip<|Xa<|aA _ _<|Zs t fun _ aT=>?_;refine Ze (Xk (ps:=[]) (cs:=[vi 0,vi 0,vi 0,vi 0,vi 0]) rfl (fun _=>by first|rfl|kernel_rfl))<|Zo (Vw [vi 0,vi 0,vi 0,vi 0,vi 0] X0u e) ?_;rintro _ w4 ⟨E,M⟩;have x:=e;have u:=Below.only u E C;have e:=M;refine Za rfl<|Zt aT fun a t=>?_
  refine wp_ret (X3 t (X1m t rfl (ResV.cellN (l:=[vi 0,vi 0,vi 0,vi 0,vi 0]) rfl X0i (e.at 0) rfl) rfl) ?_)
  exact ⟨(by rw [A];try rfl),u⟩
 have D:=N;have hk:=X7w N;have aW:=aC.2.2.1 hk;refine Zs t fun _ aF=>?_;refine Ze (Vd rfl X1i 0)<|Ze (X0 rfl X2 (f.at 0))<|Zf (Vc (F99 _ g.k) Xtg) ?_;rintro _ _ ⟨rfl,rfl⟩;refine Za rfl<|Zt aF fun a t=>?_
 refine Xg t rfl (fun H=>?_) (fun H=>?_)
 ·have B:=H;have I:=H;have aX:=aC.2.2.2 (Xt.1 I);refine Zs t fun _ aG=>?_;refine Ze (X0 rfl X2 (m.at 0))<|Ze (X0b (l:=[vi g.k,vi g.a,vi g.b]) rfl X23 (f.at 0) rfl)<|Zm rfl<|Zf (Vc (Y13 _ n g i hg (Xt.1 I)) Xwi) ?_;rintro _ w5 ⟨rfl,y⟩;have f:=f.below y;have m:=m.below y;have e:=e.below y;have u:=btr u y;refine Zm rfl<|Ze (X0l rfl rfl)<|Zt aG fun a t=>?_
  refine Xg t rfl (fun J=>?_) (fun J=>?_)
  ·have G:=J
   have A:cellI n g i j=dPow (4*(if czI n g i=true then 1 else 0)):=by rw [cellI,if_neg hk,if_pos I,if_pos (eq_of_beq J)]
   refine wp_seq_k fun _ aH=>?_;refine X0j (fun a w=>Fr a 75 [(6,.pointer (some ⟨b2,0,none⟩)),(7,.bool true)]∧Blk w ba 55 [vi g.k,vi g.a,vi g.b]∧Blk w bb 3 [vi n]∧Blk w b2 87 [vi ((dPow (4*(if (((g.k==10)&&((bitF n i g.a)==1))&&((bitF n i g.b)==1))=true then 1 else 0))).num.a),vi ((dPow (4*(if (((g.k==10)&&((bitF n i g.a)==1))&&((bitF n i g.b)==1))=true then 1 else 0))).num.b),vi ((dPow (4*(if (((g.k==10)&&((bitF n i g.a)==1))&&((bitF n i g.b)==1))=true then 1 else 0))).num.c),vi ((dPow (4*(if (((g.k==10)&&((bitF n i g.a)==1))&&((bitF n i g.b)==1))=true then 1 else 0))).num.d),vi ((dPow (4*(if (((g.k==10)&&((bitF n i g.a)==1))&&((bitF n i g.b)==1))=true then 1 else 0))).exp)]∧Below W.heap.size W w) ?_ ?_
   ·refine Zr t<|Ze (Vd rfl X1i 0)<|Ze (X0 rfl X2 (f.at 0))<|Ze (X0l rfl rfl)<|Zm rfl ?_
    refine Zg 29 rfl (fun p=>?_) (fun p=>?_)
    ·refine Zv (gW p) (X0 rfl X2 (m.at 0)) ?_;refine Zv (gW p) (X4 rfl) ?_;refine Zv (gW p) (Vd rfl X11 1) ?_;refine Zv (gW p) (X0 rfl X2 (f.at 1)) ?_;refine Zk (gW p) (Vc (Xka _ n i g.a (by omega) (by omega) (by omega)) X9q) ?_;rintro _ _ ⟨rfl,rfl⟩;refine Zv (gW p) (X0l rfl rfl) ?_;refine Ze (X5 rfl p rfl)<|Zm rfl ?_
     refine Zg 37 rfl (fun q=>?_) (fun q=>?_)
     ·refine Zv (gW q) (X0 rfl X2 (m.at 0)) ?_;refine Zv (gW q) (X4 rfl) ?_;refine Zv (gW q) (Vd rfl X1d 2) ?_;refine Zv (gW q) (X0 rfl X2 (f.at 2)) ?_;refine Zk (gW q) (Vc (Xka _ n i g.b (by omega) (by omega) (by omega)) X9q) ?_;rintro _ _ ⟨rfl,rfl⟩;refine Zv (gW q) (X0l rfl rfl) ?_;refine Ze (X5 rfl q rfl)<|Zf (Vc (F59 _ ((bitF n i g.b)==1)) Xmt) ?_;rintro _ _ ⟨rfl,rfl⟩;refine Ze (X2y rfl rfl (by split<;>decide) (by split<;>decide))<|Zf (Vc (Xl3 _ (4*(if ((bitF n i g.b)==1)=true then 1 else 0)) (by split<;>rfl)) X9h) ?_;rintro _ w6 ⟨rfl,y⟩;have f:=f.below y;have m:=m.below y;have e:=e.below y;have u:=btr u y;refine Zo (Vw [vi ((dPow (4*(if ((bitF n i g.b)==1)=true then 1 else 0))).num.a),vi ((dPow (4*(if ((bitF n i g.b)==1)=true then 1 else 0))).num.b),vi ((dPow (4*(if ((bitF n i g.b)==1)=true then 1 else 0))).num.c),vi ((dPow (4*(if ((bitF n i g.b)==1)=true then 1 else 0))).num.d),vi ((dPow (4*(if ((bitF n i g.b)==1)=true then 1 else 0))).exp)] X0u e) ?_;rintro _ w7 ⟨E,M⟩;have x:=e;have f:=f.only E (Blk.ne f x rfl);have m:=m.only E (Blk.ne m x rfl);have u:=Below.only u E C;have e:=M;refine Za rfl ?_;refine Zn fun a t=>?_
      have U:(((g.k==10)&&((bitF n i g.a)==1))&&((bitF n i g.b)==1))=((bitF n i g.b)==1):=by simp [D,B,G,p,q]
      have e:Blk w7 b2 87 [vi ((dPow (4*(if (((g.k==10)&&((bitF n i g.a)==1))&&((bitF n i g.b)==1))=true then 1 else 0))).num.a),vi ((dPow (4*(if (((g.k==10)&&((bitF n i g.a)==1))&&((bitF n i g.b)==1))=true then 1 else 0))).num.b),vi ((dPow (4*(if (((g.k==10)&&((bitF n i g.a)==1))&&((bitF n i g.b)==1))=true then 1 else 0))).num.c),vi ((dPow (4*(if (((g.k==10)&&((bitF n i g.a)==1))&&((bitF n i g.b)==1))=true then 1 else 0))).num.d),vi ((dPow (4*(if (((g.k==10)&&((bitF n i g.a)==1))&&((bitF n i g.b)==1))=true then 1 else 0))).exp)]:=by rw [U];exact e
      exact ⟨t.sb,f,m,e,u⟩
     refine Zp (gP q) ?_;refine Zp (gP q) ?_;refine Zp (gP q) ?_;refine Zp (gP q) ?_;refine Zp (gP q) ?_;refine Zp (gP q) ?_;refine Ze (Xc rfl q rfl)<|Zf (Vc (F59 _ false) Xmt) ?_;rintro _ _ ⟨rfl,rfl⟩;refine Ze (X2y rfl rfl (by split<;>decide) (by split<;>decide))<|Zf (Vc (Xl3 _ (4*(if false=true then 1 else 0)) (by split<;>rfl)) X9h) ?_;rintro _ w8 ⟨rfl,y⟩;have f:=f.below y;have m:=m.below y;have e:=e.below y;have u:=btr u y;refine Zo (Vw [vi ((dPow (4*(if false=true then 1 else 0))).num.a),vi ((dPow (4*(if false=true then 1 else 0))).num.b),vi ((dPow (4*(if false=true then 1 else 0))).num.c),vi ((dPow (4*(if false=true then 1 else 0))).num.d),vi ((dPow (4*(if false=true then 1 else 0))).exp)] X0u e) ?_;rintro _ w9 ⟨E,M⟩;have x:=e;have f:=f.only E (Blk.ne f x rfl);have m:=m.only E (Blk.ne m x rfl);have u:=Below.only u E C;have e:=M;refine Za rfl ?_;refine Zn fun a t=>?_
     have U:(((g.k==10)&&((bitF n i g.a)==1))&&((bitF n i g.b)==1))=(false):=by simp [D,B,G,p,q]
     have e:Blk w9 b2 87 [vi ((dPow (4*(if (((g.k==10)&&((bitF n i g.a)==1))&&((bitF n i g.b)==1))=true then 1 else 0))).num.a),vi ((dPow (4*(if (((g.k==10)&&((bitF n i g.a)==1))&&((bitF n i g.b)==1))=true then 1 else 0))).num.b),vi ((dPow (4*(if (((g.k==10)&&((bitF n i g.a)==1))&&((bitF n i g.b)==1))=true then 1 else 0))).num.c),vi ((dPow (4*(if (((g.k==10)&&((bitF n i g.a)==1))&&((bitF n i g.b)==1))=true then 1 else 0))).num.d),vi ((dPow (4*(if (((g.k==10)&&((bitF n i g.a)==1))&&((bitF n i g.b)==1))=true then 1 else 0))).exp)]:=by rw [U];exact e
     exact ⟨t.sb,f,m,e,u⟩
    refine Zp (gP p) ?_;refine Zp (gP p) ?_;refine Zp (gP p) ?_;refine Zp (gP p) ?_;refine Zp (gP p) ?_;refine Zp (gP p) ?_;refine Ze (Xc rfl p rfl)<|Zm rfl<|Zp (gP rfl) ?_;refine Zp (gP rfl) ?_;refine Zp (gP rfl) ?_;refine Zp (gP rfl) ?_;refine Zp (gP rfl) ?_;refine Zp (gP rfl) ?_;refine Ze (Xc rfl rfl rfl)<|Zf (Vc (F59 _ false) Xmt) ?_;rintro _ _ ⟨rfl,rfl⟩;refine Ze (X2y rfl rfl (by split<;>decide) (by split<;>decide))<|Zf (Vc (Xl3 _ (4*(if false=true then 1 else 0)) (by split<;>rfl)) X9h) ?_;rintro _ aY ⟨rfl,y⟩;have f:=f.below y;have m:=m.below y;have e:=e.below y;have u:=btr u y;refine Zo (Vw [vi ((dPow (4*(if false=true then 1 else 0))).num.a),vi ((dPow (4*(if false=true then 1 else 0))).num.b),vi ((dPow (4*(if false=true then 1 else 0))).num.c),vi ((dPow (4*(if false=true then 1 else 0))).num.d),vi ((dPow (4*(if false=true then 1 else 0))).exp)] X0u e) ?_;rintro _ aU ⟨E,M⟩;have x:=e;have f:=f.only E (Blk.ne f x rfl);have m:=m.only E (Blk.ne m x rfl);have u:=Below.only u E C;have e:=M;refine Za rfl ?_;refine Zn fun a t=>?_
    have U:(((g.k==10)&&((bitF n i g.a)==1))&&((bitF n i g.b)==1))=(false):=by simp [D,B,G,p]
    have e:Blk aU b2 87 [vi ((dPow (4*(if (((g.k==10)&&((bitF n i g.a)==1))&&((bitF n i g.b)==1))=true then 1 else 0))).num.a),vi ((dPow (4*(if (((g.k==10)&&((bitF n i g.a)==1))&&((bitF n i g.b)==1))=true then 1 else 0))).num.b),vi ((dPow (4*(if (((g.k==10)&&((bitF n i g.a)==1))&&((bitF n i g.b)==1))=true then 1 else 0))).num.c),vi ((dPow (4*(if (((g.k==10)&&((bitF n i g.a)==1))&&((bitF n i g.b)==1))=true then 1 else 0))).num.d),vi ((dPow (4*(if (((g.k==10)&&((bitF n i g.a)==1))&&((bitF n i g.b)==1))=true then 1 else 0))).exp)]:=by rw [U];exact e
    exact ⟨t.sb,f,m,e,u⟩
   rintro a aZ ⟨t,f,m,e,u⟩;refine aH _ _<|wp_ret<|Xw<|X7 ?_;refine X3 t (X1m t rfl (ResV.cellN (l:=[vi ((dPow (4*(if (((g.k==10)&&((bitF n i g.a)==1))&&((bitF n i g.b)==1))=true then 1 else 0))).num.a),vi ((dPow (4*(if (((g.k==10)&&((bitF n i g.a)==1))&&((bitF n i g.b)==1))=true then 1 else 0))).num.b),vi ((dPow (4*(if (((g.k==10)&&((bitF n i g.a)==1))&&((bitF n i g.b)==1))=true then 1 else 0))).num.c),vi ((dPow (4*(if (((g.k==10)&&((bitF n i g.a)==1))&&((bitF n i g.b)==1))=true then 1 else 0))).num.d),vi ((dPow (4*(if (((g.k==10)&&((bitF n i g.a)==1))&&((bitF n i g.b)==1))=true then 1 else 0))).exp)]) rfl X0i (e.at 0) rfl) rfl) ?_;exact ⟨(by rw [A];try rfl),u⟩
  have G:=J
  have A:cellI n g i j=dZ:=by rw [cellI,if_neg hk,if_pos I,if_neg (X7w J)]
  refine wp_skip<|Xa<|aA _ _<|Zs t fun _ aI=>?_;refine Ze (Xk (ps:=[]) (cs:=[vi 0,vi 0,vi 0,vi 0,vi 0]) rfl (fun _=>by first|rfl|kernel_rfl))<|Zo (Vw [vi 0,vi 0,vi 0,vi 0,vi 0] X0u e) ?_;rintro _ b0 ⟨E,M⟩;have x:=e;have u:=Below.only u E C;have e:=M;refine Za rfl<|Zt aI fun a t=>?_
  refine wp_ret (X3 t (X1m t rfl (ResV.cellN (l:=[vi 0,vi 0,vi 0,vi 0,vi 0]) rfl X0i (e.at 0) rfl) rfl) ?_)
  exact ⟨(by rw [A];try rfl),u⟩
 have B:=H
 have I:¬ inR g.k 9 11=true:=by rw [H];simp
 have b1:g.k≤8:=by have h9:¬ (9≤g.k∧g.k≤11):=(fun h=>I (Xt.2 h));omega
 refine wp_seq_k fun _ aJ=>?_;refine X0j (fun a w=>Fr a 75 [(0,vi i),(1,vi j),(2,.pointer (some ⟨ba,0,none⟩)),(3,.pointer (some ⟨bb,0,none⟩)),(6,.pointer (some ⟨b2,0,none⟩)),(48,.bool ((i==j)||((flipF n i g.a)==j)))]∧w1=w) ?_ ?_
 ·refine Zr t<|Zm rfl<|Zm rfl<|Ze (X0l rfl rfl)<|Zm rfl ?_
  refine Zg 52 rfl (fun o=>?_) (fun o=>?_)
  ·refine Zp (gP o) ?_;refine Zp (gP o) ?_;refine Zp (gP o) ?_;refine Zp (gP o) ?_;refine Zp (gP o) ?_;refine Zp (gP o) ?_;refine Zp (gP o) ?_;refine Ze (X5 rfl o rfl)<|Za rfl ?_;refine Zn fun a t=>?_;exact ⟨t.sub ⟨rfl,rfl,rfl,rfl,rfl,X1 rfl (by first|rfl|(simp only [D,B,o,bs];done)|simp [D,B,o]),trivial⟩,rfl⟩
  refine Zv (gW o) (X0 rfl X2 (m.at 0)) ?_;refine Zv (gW o) (X4 rfl) ?_;refine Zv (gW o) (Vd rfl X11 1) ?_;refine Zv (gW o) (X0 rfl X2 (f.at 1)) ?_;refine Zk (gW o) (Vc (Xrr _ n i g.a (by omega) (by omega) (by omega)) Xea) ?_;rintro _ _ ⟨rfl,rfl⟩;refine Zv (gW o) (X4 rfl) ?_;refine Zv (gW o) (X0l rfl rfl) ?_;refine Ze (Xc rfl o rfl)<|Za rfl ?_;refine Zn fun a t=>?_;exact ⟨t.sub ⟨rfl,rfl,rfl,rfl,rfl,X1 rfl (by first|rfl|(simp only [D,B,o,bs];done)|simp [D,B,o]),trivial⟩,rfl⟩
 rintro a _ ⟨t,rfl⟩;refine aJ _ _ ?_
 refine Xg t rfl (fun L=>?_) (fun L=>?_)
 ·have aB:=L
  have A:cellI n g i j=entryI g.k (bitF n i g.a) (bitF n j g.a):=by rw [cellI,if_neg hk,if_neg I,if_pos (by simpa using L)]
  refine wp_seq_k fun _ aK=>?_;refine Xq none (fun j=>[13].contains j) mixed ?_;intro b3 y;have f:=f.below y;have m:=m.below y;have e:=e.below y;have u:=btr u y;refine Yb t<|Yo 0 rfl (fun _=>Vd rfl X1i 0)<|Ye 1 rfl (X0 rfl X2 (f.at 0))<|Ye 2 rfl (X0 rfl X2 (m.at 0))<|Yo 3 rfl (fun _=>X4 rfl)<|Yo 4 rfl (fun _=>Vd rfl X11 1) ?_;refine Ye 5 rfl (X0 rfl X2 (f.at 1))<|Ye 7 rfl (X0 rfl X2 (m.at 0))<|Yo 8 rfl (fun _=>X4 rfl)<|Yo 9 rfl (fun _=>Vd rfl X11 1)<|Ye 10 rfl (X0 rfl X2 (f.at 1)) ?_;refine Y1 6<|Yz rfl trivial (Vc (Xka _ n i g.a (by omega) (by omega) (by omega)) X9q) ?_;refine Y1 11<|Yz rfl trivial (Vc (Xka _ n j g.a (by omega) (by omega) (by omega)) X9q) ?_;refine Y1 12<|Yk rfl trivial (Vc (Y0t _ g.k (bitF n i g.a) (bitF n j g.a) (by omega) aD) Xwk) (fun _ _ ⟨_,y⟩=>y) ?_;rintro _ b4 ⟨rfl,y⟩;have e:=e.below y;have u:=btr u y;refine Y1 13<|Yh rfl trivial rfl (Vw [vi ((entryI g.k (bitF n i g.a) (bitF n j g.a)).num.a),vi ((entryI g.k (bitF n i g.a) (bitF n j g.a)).num.b),vi ((entryI g.k (bitF n i g.a) (bitF n j g.a)).num.c),vi ((entryI g.k (bitF n i g.a) (bitF n j g.a)).num.d),vi ((entryI g.k (bitF n i g.a) (bitF n j g.a)).exp)] X0u e) ?_;rintro _ b5 ⟨E,M⟩;have x:=e;have u:=Below.only u E C;have e:=M;refine Yo 14 rfl (fun _=>X19 rfl) ?_;refine Yd fun a t=>?_;refine aK _ _<|wp_ret<|Xw<|X7 ?_;refine X3 t (X1m t rfl (ResV.cellN (l:=[vi ((entryI g.k (bitF n i g.a) (bitF n j g.a)).num.a),vi ((entryI g.k (bitF n i g.a) (bitF n j g.a)).num.b),vi ((entryI g.k (bitF n i g.a) (bitF n j g.a)).num.c),vi ((entryI g.k (bitF n i g.a) (bitF n j g.a)).num.d),vi ((entryI g.k (bitF n i g.a) (bitF n j g.a)).exp)]) rfl X0i (e.at 0) rfl) rfl) ?_
  exact ⟨(by rw [A];try rfl),u⟩
 have aB:=L
 have A:cellI n g i j=dZ:=by rw [cellI,if_neg hk,if_neg I,if_neg (by simpa using L)]
 refine wp_skip<|Xa<|aA _ _<|Zs t fun _ aL=>?_;refine Ze (Xk (ps:=[]) (cs:=[vi 0,vi 0,vi 0,vi 0,vi 0]) rfl (fun _=>by first|rfl|kernel_rfl))<|Zo (Vw [vi 0,vi 0,vi 0,vi 0,vi 0] X0u e) ?_;rintro _ b6 ⟨E,M⟩;have x:=e;have u:=Below.only u E C;have e:=M;refine Za rfl<|Zt aL fun a t=>?_
 refine wp_ret (X3 t (X1m t rfl (ResV.cellN (l:=[vi 0,vi 0,vi 0,vi 0,vi 0]) rfl X0i (e.at 0) rfl) rfl) ?_)
 exact ⟨(by rw [A];try rfl),u⟩
theorem Xys(w0:World)(n:Int)(g:Gt) : Ret Tryz.prog 78 [vi n,.agg #[vi g.k,vi g.a,vi g.b]] w0 (fun v w=>∃ A c,v=.tuple #[mV A c ((gateI n g).getD mZ),.bool (gateI n g).isSome]∧Own w w0.heap.size 87 5 encD A c ((gateI n g).getD mZ).cells∧Below w0.heap.size w0 w):=by
 refine enter Tryz.func78 rfl 19 rfl rfl ?_;intro a u
 have p:=bz w0
 refine Zs u fun _ aD=>?_;refine Zf (X14 (zs:=[vi n]) rfl rfl) ?_;rintro _ w1 ⟨b2,rfl,aE,o,f⟩;have aK:=Nat.le_trans p.size aE;have p:=btr p o;refine Zf (X14 (zs:=[vi g.k,vi g.a,vi g.b]) rfl rfl) ?_;rintro _ w2 ⟨b3,rfl,aF,o,t⟩;have aL:=Nat.le_trans p.size aF;have f:=f.below o;have p:=btr p o;refine Zf (X6 (zs:=[vi 0,vi 0,.slice none 0 0]) X4q rfl) ?_;rintro _ w3 ⟨b5,rfl,aG,o,e⟩;have B:=Nat.le_trans p.size aG;have f:=f.below o;have t:=t.below o;have p:=btr p o;refine Za rfl<|ZX aD fun a u _ aH=>?_;refine Zs u fun _ aI=>?_;refine Ze (X0 rfl X2 (f.at 0))<|Ze (Vn X23 t)<|Zf (Vc (Y0b _ n g) Xm6) ?_;rintro _ w4 ⟨rfl,o⟩;have f:=f.below o;have t:=t.below o;have e:=e.below o;have p:=btr p o;refine Ze (X1c rfl)<|Zt aI fun a u=>?_
 refine Xg u rfl (fun h=>?_) (fun h=>?_)
 ·have aA:=h
  have hn:¬ gOk n g=true:=by revert h;cases gOk n g<;>simp
  refine Zs u fun _ aJ=>?_;refine Ze (Xk (ps:=[]) (cs:=[vi 0,vi 0,.slice none 0 0]) rfl (fun _=>by first|rfl|kernel_rfl))<|Zo (Vw [vi 0,vi 0,.slice none 0 0] X28 e) ?_;rintro _ w5 ⟨ho,hb⟩;have C:=e;have p:=Below.only p ho B;have e:=hb;refine Za rfl<|Zt aJ fun a u=>?_;refine wp_ret<|X7<|X3 u (X1m u rfl (ResV.cellN (l:=[vi 0,vi 0,.slice none 0 0]) rfl X1p (e.at 0) rfl) rfl) ?_;exact ⟨none,0,by rw [gateI,if_neg hn];rfl,by rw [gateI,if_neg hn];exact (Own.nil _ _ _ _ _),p⟩
 have aA:=h
 have hg:gOk n g=true:=by revert h;cases gOk n g<;>simp
 have aM:=X27 hg
 obtain ⟨d,hd⟩ : ∃ d:Nat,d=2^n.toNat:=⟨_,rfl⟩
 refine wp_skip<|aH _ _<|wp_seq_k fun _ aB=>?_;refine Xq none (fun j=>[8].contains j) mixed ?_;intro w6 o;have f:=f.below o;have t:=t.below o;have e:=e.below o;have p:=btr p o;refine Yb u<|Ye 0 rfl (X0 rfl X2 (f.at 0))<|Yo 1 rfl (fun _=>Xg8 (m:=n.toNat) (D:=d) rfl rfl (by omega) ⟨hd,by omega⟩)<|Ye 2 rfl (X0 rfl X2 (f.at 0))<|Yo 3 rfl (fun _=>Xg8 (m:=n.toNat) (D:=d) rfl rfl (by omega) ⟨hd,by omega⟩)<|Yo 4 rfl (fun _=>X5k (vs:=[.pointer (some ⟨b3,0,none⟩),.pointer (some ⟨b2,0,none⟩)]) rfl) ?_;refine Y1 5<|Yk rfl trivial (Vc (Xx7 _ (d:Int) (d:Int) 92 [.pointer (some ⟨b3,0,none⟩),.pointer (some ⟨b2,0,none⟩)] Xur (fun i j=>some (cellI n g i j)) (fun i j w' hi hj hE'=>Y12 w' g n _ _ (t.below hE') (f.below hE') hg i j)) Xee) (fun _ _ ⟨x,y,_,q,o⟩=>o) ?_;rintro _ w7 ⟨x,y,rfl,q,o⟩;have q:=q.lower p.size;have e:=e.below o;have p:=btr p o;refine Yo 6 rfl (fun _=>X8 (vs:=[.agg #[vi (((matOf (d:Int) (d:Int) (fun i j=>some (cellI n g i j))).getD mZ).rows),vi (((matOf (d:Int) (d:Int) (fun i j=>some (cellI n g i j))).getD mZ).cols),.slice x (((matOf (d:Int) (d:Int) (fun i j=>some (cellI n g i j))).getD mZ).cells).length y],.bool ((matOf (d:Int) (d:Int) (fun i j=>some (cellI n g i j))).isSome)]) rfl rfl)<|Yo 7 rfl (fun _=>X8 (vs:=[.agg #[vi (((matOf (d:Int) (d:Int) (fun i j=>some (cellI n g i j))).getD mZ).rows),vi (((matOf (d:Int) (d:Int) (fun i j=>some (cellI n g i j))).getD mZ).cols),.slice x (((matOf (d:Int) (d:Int) (fun i j=>some (cellI n g i j))).getD mZ).cells).length y],.bool ((matOf (d:Int) (d:Int) (fun i j=>some (cellI n g i j))).isSome)]) rfl rfl)<|Y1 8 ?_;refine Yh rfl trivial rfl (Vw [vi (((matOf (d:Int) (d:Int) (fun i j=>some (cellI n g i j))).getD mZ).rows),vi (((matOf (d:Int) (d:Int) (fun i j=>some (cellI n g i j))).getD mZ).cols),.slice x (((matOf (d:Int) (d:Int) (fun i j=>some (cellI n g i j))).getD mZ).cells).length y] X28 e) ?_;rintro _ w8 ⟨ho,hb⟩
 have C:=e;have q:=q.onlyT ho C rfl;have p:=Below.only p ho B;have e:=hb;refine Yo 9 rfl (fun _=>X19 rfl) ?_;refine Yd fun a u=>?_;refine aB _ _ ?_
 refine wp_ret (X3 u (X1m u rfl (ResV.cellN (l:=[vi (((matOf (d:Int) (d:Int) (fun i j=>some (cellI n g i j))).getD mZ).rows),vi (((matOf (d:Int) (d:Int) (fun i j=>some (cellI n g i j))).getD mZ).cols),.slice x (((matOf (d:Int) (d:Int) (fun i j=>some (cellI n g i j))).getD mZ).cells).length y]) rfl X1p (e.at 0) rfl) rfl) ?_)
 have aC:gateI n g=matOf (d:Int) (d:Int) fun i j=>some (cellI n g i j):=by rw [gateI,if_pos hg,hd]
 rw [aC]
 exact ⟨x,y,rfl,q,p⟩
end Go.Proofs.YtiejkplemjkjoaaGreat
namespace Go.Proofs
open Go.Shelf
end Go.Proofs
namespace Go.Proofs.YtiejkplemjkjoaaGreat
open Go.RowKit
section
variable {α : Type}
theorem X6w{enc:α→List Value}{sz:Nat}(hsz:∀ x,(enc x).length=sz){l:List α}{j:Nat}(hj:j<l.length*sz) : ∃ x,l[j/sz]? = some x∧(l.flatMap enc)[j]? = (enc x)[j % sz]?:=by
 have h0:0<sz:=by
  rcases Nat.eq_zero_or_pos sz with h|h
  ·subst h;simp at hj
  ·exact h
 have hk:j/sz<l.length:=Nat.div_lt_of_lt_mul (by rw [Nat.mul_comm];exact hj)
 refine ⟨l[j/sz],List.getElem?_eq_getElem hk,?_⟩
 have hm:j % sz<(enc l[j/sz]).length:=by rw [hsz];exact Nat.mod_lt _ h0
 have h1:=X7v hsz l (j/sz) _ (List.getElem?_eq_getElem hk) (j % sz) _ (List.getElem?_eq_getElem hm)
 rw [show j/sz*sz+j % sz=j from by rw [Nat.mul_comm];exact Nat.div_add_mod j sz] at h1
 rw [h1,List.getElem?_eq_getElem hm]
theorem Xcb{enc:α→List Value}{sz:Nat}(hsz:∀ x,(enc x).length=sz){z:Value}{z0:α}(hz:z.cells.toList=enc z0)(n:Nat) : madeCells z.cells (n*sz)=((List.replicate n z0).flatMap enc).toArray:=by
 have hs:z.cells.size=sz:=by rw [← hsz z0,← hz];simp
 apply Array.ext'
 apply List.ext_getElem?
 intro j
 by_cases hj:j<n*sz
 ·obtain ⟨x,hx,h1⟩:=X6w hsz (l:=List.replicate n z0) (j:=j) (by simpa using hj)
  obtain rfl:x=z0:=(List.eq_of_mem_replicate (List.mem_of_getElem? hx))
  have h0:0<sz:=by
   rcases Nat.eq_zero_or_pos sz with h|h
   ·subst h;simp at hj
   ·exact h
  have hm:j % sz<z.cells.size:=by rw [hs];exact Nat.mod_lt _ h0
  rw [List.toList_toArray,h1,← hz]
  simp only [madeCells,Array.getElem?_toList,Array.getElem?_map,Array.getElem?_range,hj,if_true,Option.map_some,hs]
  rw [getElem!_pos z.cells (j % sz) hm,Array.getElem?_eq_getElem hm]
 ·rw [List.getElem?_eq_none (by simp [madeCells];omega),List.toList_toArray,List.getElem?_eq_none (by rw [Xl hsz];simp;omega)]
theorem Xa9{enc:α→List Value}{sz:Nat}(hsz:∀ x,(enc x).length=sz) : ∀ (l:List α) (k:Nat) (x:α),k<l.length→splice (l.flatMap enc) (k*sz) (enc x)=(l.set k x).flatMap enc
 | [],k,x,h=>by simp at h
 | y::l,0,x,h=>by
  simp only [splice,Nat.zero_mul,List.take_zero,List.nil_append,Nat.zero_add,List.flatMap_cons,List.set_cons_zero]
  rw [hsz,← hsz y,List.drop_left]
 | y::l,k+1,x,h=>by
  have ih:=Xa9 hsz l k x (by simpa using h)
  unfold splice at ih ⊢
  have h1:(k+1)*sz=(enc y).length+k*sz:=by rw [hsz,Nat.add_mul];omega
  rw [h1]
  simp only [List.flatMap_cons,List.set_cons_succ]
  rw [List.take_length_add_append,show (enc y).length+k*sz+(enc x).length=(enc y).length+(k*sz+(enc x).length) from by omega,List.drop_length_add_append,List.append_assoc,List.append_assoc]
  rw [← ih,List.append_assoc]
end
section
variable {α : Type} {P : Program} {a : Act} {w : World} {n : Nat} {e : Env} {ty : TypeId} {pos : String} {af : Array Edge} {g : Option (Nat × Bool)} {d : Option Tmp}
theorem Xek{T E sz bytes m:Nat}{x y:Operand}{enc:α→List Value}{z:Value}{z0:α}(hf:Fr a n e)(hx:ev e x=some (.int .i64 (m:Int)))(hy:ev e y=some (.int .i64 (m:Int)))(hT:SliceT P T E)(hi:InfoT P E sz bytes)(hz:ZeroT P E z)(hz0:z.cells.toList=enc z0)(hsz:∀ x,(enc x).length=sz)(hb:bytes*m≤281474976710656)(hm:m≤4611686018427387904) :
  Ef P ⟨d,.makeSlice T x y,ty,pos,af,g⟩ a w (fun v w'=>∃ b,v=.slice (some ⟨b,0,none⟩) m m∧w.heap.size≤b∧Below w.heap.size w w'∧Blk w' b E ((List.replicate m z0).flatMap enc)):=by
 obtain ⟨i,z1,hi1,hi2,hi3,hi4,hi5,hi6⟩:=hi;obtain ⟨i',hi1',hz1⟩:=hz
 rw [hi1] at hi1'
 injection hi1' with hi1'
 subst hi1'
 rw [hi2] at hz1
 injection hz1 with hz1
 subst hz1
 have hb':(i.bytes:Int)*(m:Int)≤281474976710656:=by
  have h:((i.bytes*m:Nat) : Int)≤281474976710656:=by rw [hi4];omega
  rwa [Int.natCast_mul] at h
 have hr:=run_make (P:=P) w T E i z1 hT hi1 hi2 .i64 .i64 m m (by omega) (Int.le_refl _) hb' (by omega)
 refine (Ef.of_run (v:=.slice (some ⟨w.heap.size,0,none⟩) m m) (w':=w.alloc (.cells ((List.replicate m z0).flatMap enc).toArray E)) ?_).mono fun v w' ⟨e1,e2⟩=>?_
 ·rw [hi3,Int.toNat_natCast,Xcb hsz hz0] at hr
  simp [execOp,hf.ev hx,hf.ev hy,hr]
 ·subst e1;subst e2
  exact ⟨_,rfl,Nat.le_refl _,(Below.refl _ _).alloc (Nat.le_refl _) _,X9w w E _⟩
theorem Xhg{T E sz bytes m:Nat}{x y:Operand}{enc:α→List Value}{z:Value}{z0:α}(hx:ev e x=some (.int .i64 (m:Int)))(hy:ev e y=some (.int .i64 (m:Int)))(hT:SliceT P T E)(hi:InfoT P E sz bytes)(hz:ZeroT P E z)(hz0:z.cells.toList=enc z0)(hsz:∀ x,(enc x).length=sz)(hb:bytes*m≤281474976710656)(hm:m≤4611686018427387904) : EfW P ⟨d,.makeSlice T x y,ty,pos,af,g⟩ n e w (fun v w'=>∃ b,v=.slice (some ⟨b,0,none⟩) m m∧w.heap.size≤b∧Below w.heap.size w w'∧Blk w' b E ((List.replicate m z0).flatMap enc)):=fun a hf=>Xek hf hx hy hT hi hz hz0 hsz hb hm
theorem Xd1{T E sz b m c k off:Nat}{x y:Operand}{i:Int}(hf:Fr a n e)(hx:ev e x=some (.slice (some ⟨b,0,none⟩) m c))(hy:ev e y=some (.int .i64 i))(hT:SliceT P T E)(hs:SizeT P E sz)(hi:i=(k:Int))(hk:k<m)(ho:k*sz=off) :
  Ev P ⟨d,.indexAddr T x y,ty,pos,af,g⟩ a w (.pointer (some ⟨b,off,none⟩)):=by
 have h:=X80 (P:=P) (w:=w) (d:=d) (ty:=ty) (pos:=pos) (af:=af) (g:=g) hf hx hy hT hs hi hk
 rwa [X1w,Nat.zero_add,ho] at h
theorem Xj5{T E sz b m c k off:Nat}{x y:Operand}{i:Int}(hx:ev e x=some (.slice (some ⟨b,0,none⟩) m c))(hy:ev e y=some (.int .i64 i))(hT:SliceT P T E)(hs:SizeT P E sz)(hi:i=(k:Int))(hk:k<m)(ho:k*sz=off) : EvW P ⟨d,.indexAddr T x y,ty,pos,af,g⟩ n e w (.pointer (some ⟨b,off,none⟩)):=fun a hf=>Xd1 hf hx hy hT hs hi hk ho
theorem Xgw{T E sz m c k:Nat}{x y:Operand}{A:Option Addr}{i:Int}(hf:Fr a n e)(hx:ev e x=some (.slice A m c))(hy:ev e y=some (.int .i64 i))(hT:SliceT P T E)(hs:SizeT P E sz)(hi:i=(k:Int))(hk:k≤c) :
  Ev P ⟨d,.slice T x none (some y) none,ty,pos,af,g⟩ a w (.slice A k c):=fun w' _=>by
 subst hi
 have h0:∀ p:Addr,p.add 0=p:=fun p=>by simp [Addr.add]
 simp [execOp,Instr.sliceAt,Instr.slice,Instr.sliceBounds,run_sliceBound,X0d hT,run_sizeOf' hs,hf.ev hx,hf.ev hy,hk,h0]
theorem Xde{T E sz m c k:Nat}{x y:Operand}{A:Option Addr}{i:Int}(hf:Fr a n e)(hx:ev e x=some (.slice A m c))(hy:ev e y=some (.int .i64 i))(hT:SliceT P T E)(hs:SizeT P E sz)(hi:i=(k:Int))(hk:k≤m) :
  Ev P ⟨d,.slice T x (some y) none none,ty,pos,af,g⟩ a w (.slice (if c=k then A else A.map (·.add (k*sz))) (m-k) (c-k)):=fun w' _=>by
 subst hi
 simp [execOp,Instr.sliceAt,Instr.slice,Instr.sliceBounds,run_sliceBound,X0d hT,run_sizeOf' hs,hf.ev hx,hf.ev hy,hk]
end
section
variable {α : Type} {w : World} {B B0 : Nat} {E : TypeId} {sz : Nat} {enc : α → List Value} {A : Option Addr} {c : Nat} {l : List α}
theorem Xe5(hsz:∀ x,(enc x).length=sz)(k:Nat) : (l.take k).flatMap enc=(l.flatMap enc).take (k*sz):=by
 conv=>rhs;rw [← List.take_append_drop k l]
 rw [List.flatMap_append]
 by_cases hk:k≤l.length
 ·have:((l.take k).flatMap enc).length=k*sz:=by rw [Xl hsz,List.length_take,Nat.min_eq_left hk]
  rw [← this,List.take_left]
 ·rw [List.take_of_length_le (by omega),List.drop_of_length_le (by omega)]
  simp only [List.flatMap_nil,List.append_nil]
  rw [List.take_of_length_le (by rw [Xl hsz];exact Nat.mul_le_mul_right _ (by omega))]
theorem X8p(hsz:∀ x,(enc x).length=sz)(k:Nat) : (l.drop k).flatMap enc=(l.flatMap enc).drop (k*sz):=by
 conv=>rhs;rw [← List.take_append_drop k l]
 rw [List.flatMap_append]
 by_cases hk:k≤l.length
 ·have:((l.take k).flatMap enc).length=k*sz:=by rw [Xl hsz,List.length_take,Nat.min_eq_left hk]
  rw [← this,List.drop_left]
 ·have h1:l.drop k=[]:=List.drop_of_length_le (by omega)
  rw [h1,List.flatMap_nil,List.append_nil,List.drop_of_length_le (by rw [Xl hsz,List.length_take];exact Nat.mul_le_mul_right _ (by omega))]
theorem Rd.takeK(hsz:∀ x,(enc x).length=sz)(h:Rd w B E enc A l)(k:Nat) : Rd w B E enc A (l.take k):=fun hl=>by
 have hl':l≠[]:=by rintro rfl;simp at hl
 obtain ⟨b,off,cs,fz,h1,h2,h3,h4⟩:=h hl'
 refine ⟨b,off,cs,fz,h1,h2,h3,fun j v hj=>h4 j v ?_⟩
 rw [Xe5 hsz,List.getElem?_take] at hj
 split at hj
 ·exact hj
 ·cases hj
theorem Rd.dropK(hsz:∀ x,(enc x).length=sz)(h:Rd w B E enc A l)(hc:l.length≤c)(k:Nat) : Rd w B E enc (if c=k then A else A.map (·.add (k*sz))) (l.drop k):=fun hl=>by
 have hk:k<l.length:=by
  rcases Nat.lt_or_ge k l.length with h'|h'
  ·exact h'
  ·exact absurd (List.drop_of_length_le h') hl
 have hl':l≠[]:=by rintro rfl;simp at hk
 obtain ⟨b,off,cs,fz,h1,h2,h3,h4⟩:=h hl'
 rw [if_neg (by omega),h1]
 refine ⟨b,off+k*sz,cs,fz,by rw [Option.map_some,X1w],h2,h3,fun j v hj=>?_⟩
 rw [X8p hsz,List.getElem?_drop] at hj
 rw [Nat.add_assoc]
 exact h4 _ v hj
theorem Xp3{P:Program}{a:Act}{n:Nat}{e:Env}{ty:TypeId}{pos:String}{af:Array Edge}{g:Option (Nat×Bool)}{d:Option Tmp}{T k:Nat}{x y:Operand}{i:Int}(hf:Fr a n e)(hx:ev e x=some (.slice A l.length c))(hy:ev e y=some (.int .i64 i))(hT:SliceT P T E)(hs:SizeT P E sz)(hi:i=(k:Int))(hk:k≤l.length)(hc:l.length≤c) :
  Ev P ⟨d,.slice T x none (some y) none,ty,pos,af,g⟩ a w (.slice A (l.take k).length c):=by
 rw [List.length_take,Nat.min_eq_left hk]
 exact Xgw hf hx hy hT hs hi (by omega)
theorem X52{P:Program}{n:Nat}{e:Env}{ty:TypeId}{pos:String}{af:Array Edge}{g:Option (Nat×Bool)}{d:Option Tmp}{T k:Nat}{x y:Operand}{i:Int}(hx:ev e x=some (.slice A l.length c))(hy:ev e y=some (.int .i64 i))(hT:SliceT P T E)(hs:SizeT P E sz)(hi:i=(k:Int))(hk:k≤l.length)(hc:l.length≤c) : EvW P ⟨d,.slice T x none (some y) none,ty,pos,af,g⟩ n e w (.slice A (l.take k).length c):=fun a hf=>Xp3 hf hx hy hT hs hi hk hc
theorem Xnh{P:Program}{a:Act}{n:Nat}{e:Env}{ty:TypeId}{pos:String}{af:Array Edge}{g:Option (Nat×Bool)}{d:Option Tmp}{T k:Nat}{x y:Operand}{i:Int}(hf:Fr a n e)(hx:ev e x=some (.slice A l.length c))(hy:ev e y=some (.int .i64 i))(hT:SliceT P T E)(hs:SizeT P E sz)(hi:i=(k:Int))(hk:k≤l.length) :
  Ev P ⟨d,.slice T x (some y) none none,ty,pos,af,g⟩ a w (.slice (if c=k then A else A.map (·.add (k*sz))) (l.drop k).length (c-k)):=by
 rw [List.length_drop]
 exact Xde hf hx hy hT hs hi hk
theorem Xms{P:Program}{n:Nat}{e:Env}{ty:TypeId}{pos:String}{af:Array Edge}{g:Option (Nat×Bool)}{d:Option Tmp}{T k:Nat}{x y:Operand}{i:Int}(hx:ev e x=some (.slice A l.length c))(hy:ev e y=some (.int .i64 i))(hT:SliceT P T E)(hs:SizeT P E sz)(hi:i=(k:Int))(hk:k≤l.length) : EvW P ⟨d,.slice T x (some y) none none,ty,pos,af,g⟩ n e w (.slice (if c=k then A else A.map (·.add (k*sz))) (l.drop k).length (c-k)):=fun a hf=>Xnh hf hx hy hT hs hi hk
theorem Own.cap(h:Own w B0 E sz enc A c l) : l.length≤c:=by
 rcases h.2 with ⟨h1,h2⟩|⟨g,cap,cur,h1,h2,h3,h4,h5,h6⟩
 ·omega
 ·injection h1 with _ _ h1
  omega
end
theorem Kept.app{α:Type}{b B B0:Nat}{w0 w w':World}{E:TypeId}{sz:Nat}{enc:α→List Value}{A:Option Addr}{c:Nat}{l:List α}(h:Kept b B w0 w)(ho:Own w B0 E sz enc A c l)(hg:w.grownBy w' (Value.slice A l.length c).ownBlock)(hB:B≤B0)(hs:B≤w.heap.size) : Kept b B w0 w':=
 ⟨hg.os.trans h.os,hg.tape.trans h.tape,hg.output.trans h.output,Nat.le_trans h.size hg.size,fun k hk hne=>(hg.block k (by omega) fun hk'=>by have:=(ho.block hk'.symm).1;omega).trans (h.block k hk hne)⟩
theorem Xh4{α:Type}{P:Program}{a:Act}{w:World}{n:Nat}{e:Env}{ty:TypeId}{pos:String}{af:Array Edge}{g:Option (Nat×Bool)}{d:Option Tmp}{T E:TypeId}{sz bytes B b0:Nat}{x y:Operand}{enc:α→List Value}{A2:Option Addr}{c2:Nat}{l2:List α}(hf:Fr a n e)(hx:ev e x=some (.slice (some ⟨b0,0,none⟩) 0 0))(hy:ev e y=some (.slice A2 l2.length c2))
  (hT:SliceT P T E) (hi:InfoT P E sz bytes) (hsz:∀ x,(enc x).length=sz) (hone:∀ x,(enc x).all one=true) (hb:Blk w b0 E []) (hr:Rd w B E enc A2 l2) (h63:l2.length≤maxLen) (hbytes:l2.length*bytes≤140737488355328) :
  Ef P ⟨d,.call ⟨.builtin .append,#[x,y],#[T,T]⟩,ty,pos,af,g⟩ a w (fun v w'=>∃ A' c',v=.slice A' l2.length c'∧Own w' b0 E sz enc A' c' l2∧Below w.heap.size w w'):=by
 by_cases hl2:l2=[]
 ·subst hl2
  obtain ⟨i,z,hi1,hi2,hi3,hi4,hi5,hi6⟩:=hi
  have hrun:(Builtin.append_ #[T,T] ty #[.slice (some ⟨b0,0,none⟩) 0 0,.slice A2 0 c2]).run P w=.ok (.slice (some ⟨b0,0,none⟩) 0 0) w:=by
   cases A2<;>simp [Builtin.append_,X0d hT,sizeOf,typeInfo,hi1,Builtin.lenOf,Builtin.firstCells,loadCells,loadCellsFrom,storeCells]
  refine (Ef.of_run (v:=.slice (some ⟨b0,0,none⟩) 0 0) (w':=w) ?_).mono fun v w' ⟨e1,e2⟩=>?_
  ·simp only [List.length_nil] at hy
   simp [execOp,resolve,invoke,builtin,hf.ev hx,hf.ev hy,hrun]
  ·subst e1;subst e2
   exact ⟨_,_,rfl,Own.empty hb (Nat.le_refl _),Below.refl _ _⟩
 ·have hown:Own w b0 E sz enc (some ⟨b0,0,none⟩) 0 ([] : List α):=Own.empty hb (Nat.le_refl _)
  obtain ⟨i,z,hi1,hi2,rfl,rfl,hi5,hi6⟩:=hi;obtain ⟨b,off,cs,fz,rfl,h2,h3,h4⟩:=hr hl2;have hlen2:=Xl hsz l2
  have hpos:0<l2.length:=List.length_pos_iff.2 hl2
  have h:=run_append_grow (P:=P) w T ty E i z hT hi1 hi2 ⟨b0,0,none⟩ 0 0 [] (by simp) (fun j u hu=>by simp at hu)
   ⟨b,off,none⟩ l2.length c2 (l2.flatMap enc) hlen2 (fun j u hu=>by
    have:=h4 j u hu
    rw [X1w]
    simp [World.cell?,h3,this])
   (by omega) (by simp only [maxLen] at h63;omega) (growslice_fits (by omega) (by simpa using hbytes))
  simp only [Nat.zero_add] at h
  refine (Ef.of_run (w':=w.drew.alloc (.cells (([] : List Value).toArray++(l2.flatMap enc).toArray++Builtin.zeroCells z.cells (grownCap w l2.length 0 E-l2.length)) E)) (v:=.slice (some ⟨w.heap.size,0,none⟩) l2.length (grownCap w l2.length 0 E)) ?_).mono fun v w' ⟨e1,e2⟩=>?_
  ·simp [execOp,resolve,invoke,builtin,hf.ev hx,hf.ev hy,h]
  ·subst e1;subst e2
   have hb0:=hb.lt;have hge:=grownCap_ge w l2.length 0 E
   refine ⟨_,_,rfl,?_,((Below.refl _ _).drew).alloc (Nat.le_refl _) _⟩
   refine ⟨Xl hsz _,.inr ⟨w.heap.size,_,_,rfl,by omega,heap_alloc_new w.drew _,hge,grownCap_le_maxLen w _ _ E h63,?_,?_⟩⟩
   ·simp only [Array.size_append,List.size_toArray,size_zeroCells,hi5,hlen2,List.length_nil,Nat.zero_add,← Nat.add_mul]
    congr 1
    omega
   ·rw [← hlen2]
    simp only [Array.toList_append,List.append_assoc,List.nil_append]
    exact List.take_left
theorem Xfk{α:Type}{P:Program}{w:World}{n:Nat}{e:Env}{ty:TypeId}{pos:String}{af:Array Edge}{g:Option (Nat×Bool)}{d:Option Tmp}{T E:TypeId}{sz bytes B b0:Nat}{x y:Operand}{enc:α→List Value}{A2:Option Addr}{c2:Nat}{l2:List α}(hx:ev e x=some (.slice (some ⟨b0,0,none⟩) 0 0))(hy:ev e y=some (.slice A2 l2.length c2))(hT:SliceT P T E)(hi:InfoT P E sz bytes)(hsz:∀ x,(enc x).length=sz)(hone:∀ x,(enc x).all one=true)(hb:Blk w b0 E [])(hr:Rd w B E enc A2 l2)(h63:l2.length≤maxLen)(hbytes:l2.length*bytes≤140737488355328) : EfW P ⟨d,.call ⟨.builtin .append,#[x,y],#[T,T]⟩,ty,pos,af,g⟩ n e w (fun v w'=>∃ A' c',v=.slice A' l2.length c'∧Own w' b0 E sz enc A' c' l2∧Below w.heap.size w w'):=fun a hf=>Xh4 hf hx hy hT hi hsz hone hb hr h63 hbytes
end Go.Proofs.YtiejkplemjkjoaaGreat
namespace Go.Proofs.YtiejkplemjkjoaaGreat
open Go.RowKit Go.Sort
def sortI(l:List Int) : List Int:=l.mergeSort fun x y=>decide (x≤y)
end Go.Proofs.YtiejkplemjkjoaaGreat
namespace Go.Proofs.YtiejkplemjkjoaaGreat
open Go.RowKit
structure Sl where (A:Option Addr) (c:Nat) (l:List Int)
def encS(s:Sl) : List Value:=[.slice s.A s.l.length s.c]
structure Rp where (pos:Int) (old new:List Gt)
def unionI(p q:List Int) : List Int:=Lib.compact (sortI (p++(q++[])))
def qubI(g:Gt) : List Int:=if g.k=12 then [] else if inR g.k 9 11=true then [g.a,g.b] else [g.a]
def usedI(l:List Gt) : List Int:=unionI (l.flatMap qubI) []
def setAll:List Int→Nat→List Int→List Int
 | [],_,to=>to
 | q::l,i,to=>setAll l (i+1) (to.set q.toNat (i:Int))
def numbI(l:List Int) : List Int:=setAll l 0 [0,0,0,0,0]
def mapG(to:List Int)(g:Gt) : Gt:=⟨g.k,if g.k=12 then g.a else to.getD g.a.toNat 0,if inR g.k 9 11=true then to.getD g.b.toNat 0 else g.b⟩
def mapI(l:List Gt)(to:List Int) : List Gt:=l.map (mapG to)
def vrI(n:Int)(r:Rp) : Bool:=inR n 1 5&&inR r.pos 0 400&&decide ((r.old.length:Int)≤40)&&decide ((r.new.length:Int)≤40)&&!(r.old.any fun x=>!gOk n x)&&!(r.new.any fun x=>!gOk n x)
def oA(A:Option Addr)(m:Nat) : Addr:=match A with
 | some p=>⟨p.block,m,none⟩
 | none=>⟨0,m,none⟩
theorem X4o{l vs:List Value}{off:Nat}(h:off+vs.length≤l.length)(i:Nat) : (splice l off vs)[i]? = if i<off then l[i]? else if i<off+vs.length then vs[i-off]? else l[i]?:=by
 unfold splice
 have h1:(l.take off).length=off:=by rw [List.length_take];omega
 by_cases h2:i<off
 ·rw [if_pos h2,List.append_assoc,List.getElem?_append_left (by omega),List.getElem?_take_of_lt h2]
 ·rw [if_neg h2]
  by_cases h3:i<off+vs.length
  ·rw [if_pos h3,List.getElem?_append_left (by rw [List.length_append];omega),List.getElem?_append_right (by omega),h1]
  ·rw [if_neg h3,List.getElem?_append_right (by rw [List.length_append];omega),List.length_append,h1,List.getElem?_drop]
   congr 1
   omega
theorem X57{l vs:List Value}{off:Nat}(h:off+vs.length≤l.length) : (splice l off vs).length=l.length:=by
 unfold splice
 simp only [List.length_append,List.length_take,List.length_drop]
 omega
theorem Xf6{l x vs:List Value}{o j:Nat}(hx:∀ i,i<x.length→l[o+i]? = x[i]?)(h1:o+x.length≤l.length)(h2:j+vs.length≤x.length) : splice l (o+j) vs=splice l o (splice x j vs):=by
 have h3:=X57 h2
 apply List.ext_getElem?
 intro i
 rw [X4o (by omega),X4o (by omega),h3]
 by_cases a1:i<o
 ·rw [if_pos (by omega),if_pos a1]
 ·rw [if_neg a1]
  by_cases a2:i<o+x.length
  ·rw [if_pos a2,X4o h2]
   by_cases a3:i<o+j
   ·rw [if_pos a3,if_pos (show i-o<j by omega),← hx (i-o) (by omega)];congr 1;omega
   ·rw [if_neg a3,if_neg (show ¬ i-o<j by omega)]
    by_cases a4:i<o+j+vs.length
    ·rw [if_pos a4,if_pos (show i-o<j+vs.length by omega)];congr 1;omega
    ·rw [if_neg a4,if_neg (show ¬ i-o<j+vs.length by omega),← hx (i-o) (by omega)];congr 1;omega
  ·rw [if_neg a2,if_neg (by omega),if_neg (by omega)]
theorem Xez{l vs:List Value}{off N:Nat}(h:off+vs.length≤N)(hN:N≤l.length) : (splice l off vs).take N=splice (l.take N) off vs:=by
 apply List.ext_getElem?
 intro i
 by_cases hi:i<N
 ·rw [List.getElem?_take_of_lt hi,X4o (by omega),X4o (by rw [List.length_take];omega),List.getElem?_take_of_lt hi]
 ·rw [List.getElem?_take_eq_none (by omega),List.getElem?_eq_none]
  rw [X57 (by rw [List.length_take];omega),List.length_take];omega
theorem Xi6{α:Type}{enc:α→List Value}{sz:Nat}(hsz:∀ x,(enc x).length=sz) : ∀ (l:List α) (k i:Nat) (x:α),l[k]? = some x→i<sz→(l.flatMap enc)[k*sz+i]? = (enc x)[i]?
 | [],k,i,x,h,_=>by simp at h
 | y::l,0,i,x,h,hi=>by
  simp at h;subst h
  rw [List.flatMap_cons,Nat.zero_mul,Nat.zero_add,List.getElem?_append_left (by rw [hsz];exact hi)]
 | y::l,k+1,i,x,h,hi=>by
  have h':l[k]? = some x:=by simpa using h
  have e:(k+1)*sz+i=sz+(k*sz+i):=by rw [Nat.add_mul];omega
  rw [List.flatMap_cons,e,List.getElem?_append_right (by rw [hsz];omega),hsz,Nat.add_sub_cancel_left]
  exact Xi6 hsz l k i x h' hi
section
variable {P : Program} {a : Act} {w w' : World} {n : Nat} {e : Env} {ty : TypeId} {pos : String} {af : Array Edge} {g : Option (Nat × Bool)} {d : Option Tmp} {α : Type}
theorem Xg0{T E:TypeId}{sz B0 k m:Nat}{x y:Operand}{enc:α→List Value}{A:Option Addr}{c:Nat}{l:List α}{i:Int}(hf:Fr a n e)(hx:ev e x=some (.slice A m c))(hy:ev e y=some (.int .i64 i))(hT:SliceT P T E)(hs:SizeT P E sz)
  (ho:Own w' B0 E sz enc A c l) (hm:m=l.length) (hi:i=(k:Int)) (hk:k<l.length) : Ev P ⟨d,.indexAddr T x y,ty,pos,af,g⟩ a w (.pointer (some (oA A (k*sz)))):=by
 subst hm
 rcases ho.2 with ⟨h1,h2⟩|⟨b,cap,cur,h1,h2,h3,h4⟩
 ·omega
 ·injection h1 with h1
  rw [h1] at hx ⊢
  exact Xd1 (b:=b) (off:=k*sz) hf hx hy hT hs hi hk rfl
theorem X0w{T E:TypeId}{sz B0 k m:Nat}{x y:Operand}{enc:α→List Value}{A:Option Addr}{c:Nat}{l:List α}{i:Int}(hx:ev e x=some (.slice A m c))(hy:ev e y=some (.int .i64 i))(hT:SliceT P T E)(hs:SizeT P E sz)(ho:Own w' B0 E sz enc A c l)(hm:m=l.length)(hi:i=(k:Int))(hk:k<l.length) : EvW P ⟨d,.indexAddr T x y,ty,pos,af,g⟩ n e w (.pointer (some (oA A (k*sz)))):=fun a hf=>Xg0 hf hx hy hT hs ho hm hi hk
theorem Xfx{T f k m:Nat}{x:Operand}{A:Option Addr}(hf:Fr a n e)(hx:ev e x=some (.pointer (some (oA A m))))(hF:FieldT P T f k){m':Nat}(hm:m+k=m') : Ev P ⟨d,.fieldAddr T x f,ty,pos,af,g⟩ a w (.pointer (some (oA A m'))):=by
 subst hm
 have h:=Xc8 (P:=P) (w:=w) (d:=d) (ty:=ty) (pos:=pos) (af:=af) (g:=g) hf hx hF
 have e:(oA A m).add k=oA A (m+k):=by cases A<;>simp [oA,Addr.add]
 rw [e] at h
 exact h
theorem X2p{T f k m:Nat}{x:Operand}{A:Option Addr}(hx:ev e x=some (.pointer (some (oA A m))))(hF:FieldT P T f k){m':Nat}(hm:m+k=m') : EvW P ⟨d,.fieldAddr T x f,ty,pos,af,g⟩ n e w (.pointer (some (oA A m'))):=fun a hf=>Xfx hf hx hF hm
theorem Xev{t E:TypeId}{sz B0 k j m n1:Nat}{x y:Operand}{enc:α→List Value}{A:Option Addr}{c:Nat}{l:List α}{v:Value}{vs:List Value}{x0 u:α}(hf:Fr a n e)(hx:ev e x=some (.pointer (some (oA A m))))(hy:ev e y=some v)(hs:SizeT P t n1)
  (ho:Own w B0 E sz enc A c l) (hsz:∀ x,(enc x).length=sz) (hv:v.cells.toList=vs) (hn:Nat.beq vs.length n1=true) (h1:vs.all one=true) (hm:k*sz+j=m) (hj:j+n1≤sz) (hk:l[k]? = some x0) (hu:splice (enc x0) j vs=enc u) :
  Ef P ⟨d,.store t x y,ty,pos,af,g⟩ a w (fun _ w'=>Own w' B0 E sz enc A c (l.set k u)∧w.grownBy w' (Value.slice A l.length c).ownBlock):=by
 have hkl:k<l.length:=(List.getElem?_eq_some_iff.1 hk).1
 rcases ho.2 with ⟨e1,e2⟩|⟨b,cap,cur,e1,e2,e3,e4,e5,e6,e7⟩
 ·omega
 ·injection e1 with e1 _ e1'
  subst hm;subst e1'
  have hcl:cur.toList.length=c*sz:=Array.length_toList.trans e6
  have hN:l.length*sz≤cur.toList.length:=by rw [hcl];exact Nat.mul_le_mul_right _ e4
  have hks:k*sz+sz≤l.length*sz:=by
   have:=Nat.mul_le_mul_right sz (show k+1≤l.length by omega)
   rwa [Nat.add_mul,Nat.one_mul] at this
  have hn':vs.length=n1:=Nat.eq_of_beq_eq_true hn
  rw [e1] at hx
  have hb:Blk w b E cur.toList:=by unfold Blk;rw [e3]
  refine (Xg6 (b:=b) (off:=k*sz+j) (vs:=vs) hf hx hy hs hb hv hn h1 (by rw [Nat.ble_eq];omega) rfl).mono fun _ w' ⟨hO,hB⟩=>?_
  have hlen:((l.set k u).flatMap enc).length=(l.set k u).length*sz:=Xl hsz _
  refine ⟨⟨hlen,.inr ⟨b,c,_,by rw [e1],e2,hB,by simp;omega,e5,?_,?_⟩⟩,?_⟩
  ·rw [List.size_toArray,X57 (by omega),hcl]
  ·simp only [List.length_set]
   rw [Xez (by omega) hN,e7,Xf6 (x:=enc x0) (fun i hi=>?_) (by rw [Xl hsz,hsz];omega) (by rw [hsz];omega),hu]
   ·exact Xa9 hsz l k u hkl
   ·exact Xi6 hsz l k i x0 hk (by rw [← hsz x0];exact hi)
  ·rw [e1]
   exact ⟨hO.os,hO.tape,hO.output,by rw [hO.size];exact Nat.le_refl _,fun q _ hne=>hO.block q fun e=>hne (by rw [e];rfl)⟩
theorem X1s{t E:TypeId}{sz B0 k j m n1:Nat}{x y:Operand}{enc:α→List Value}{A:Option Addr}{c:Nat}{l:List α}{v:Value}{vs:List Value}{x0 u:α}(hx:ev e x=some (.pointer (some (oA A m))))(hy:ev e y=some v)(hs:SizeT P t n1)(ho:Own w B0 E sz enc A c l)(hsz:∀ x,(enc x).length=sz)(hv:v.cells.toList=vs)(hn:Nat.beq vs.length n1=true)(h1:vs.all one=true)(hm:k*sz+j=m)(hj:j+n1≤sz)(hk:l[k]? = some x0)(hu:splice (enc x0) j vs=enc u) : EfW P ⟨d,.store t x y,ty,pos,af,g⟩ n e w (fun _ w'=>Own w' B0 E sz enc A c (l.set k u)∧w.grownBy w' (Value.slice A l.length c).ownBlock):=fun a hf=>Xev hf hx hy hs ho hsz hv hn h1 hm hj hk hu
end
section
variable {P : Program} {ops : Array Oper} {a : Act} {w : World} {n d : Nat} {e : Env} {ty : TypeId} {pos : String} {af : Array Edge} {g : Option (Nat × Bool)} {α : Type}
end
def Apart(A A':Option Addr) : Prop:=∀ p q,A=some p→A'=some q→p.block≠q.block
section
variable {α β : Type} {w w' : World} {B B0 B1 : Nat} {E E' : TypeId} {sz sz' : Nat} {enc : α → List Value} {enc' : β → List Value} {A A' : Option Addr} {c c' : Nat} {l : List α} {l' : List β}
theorem Own.apart(h:Own w B E sz enc A c l)(h':Own w' B0 E' sz' enc' A' c' l')(hB:w.heap.size≤B0) : Apart A A':=fun p q hp hq=>by
 rcases h.2 with ⟨h1,_⟩|⟨g,cap,cur,h1,h2,h3,_⟩
 ·injection h1 with h1;rw [h1] at hp;cases hp
 ·rcases h'.2 with ⟨k1,_⟩|⟨g',cap',cur',k1,k2,k3,_⟩
  ·injection k1 with k1;rw [k1] at hq;cases hq
  ·injection h1 with h1
   injection k1 with k1
   rw [h1] at hp
   rw [k1] at hq
   injection hp with hp
   injection hq with hq
   subst hp;subst hq
   have:=(Array.getElem?_eq_some_iff.1 h3).1
   intro e
   simp only at e
   omega
theorem Own.appP(h:Own w B1 E' sz' enc' A' c' l')(hg:w.grownBy w' (Value.slice A l.length c).ownBlock)(ha:Apart A' A) : Own w' B1 E' sz' enc' A' c' l':=by
 refine ⟨h.1,?_⟩
 rcases h.2 with h1|⟨g,cap,cur,h1,h2,h3,h4⟩
 ·exact .inl h1
 ·refine .inr ⟨g,cap,cur,h1,h2,(hg.block g (Array.getElem?_eq_some_iff.1 h3).1 fun hk=>?_).trans h3,h4⟩
  injection h1 with h1
  cases A with
  | none=>simp [Value.ownBlock] at hk
  | some q=>
   simp only [Value.ownBlock,Option.some.injEq] at hk
   exact ha _ q h1 rfl hk
theorem Xak(A:Option Addr)(n m c d:Nat) : (Value.slice A n c).ownBlock=(Value.slice A m d).ownBlock:=by cases A<;>rfl
theorem gtr{A:Option Addr}{n m c d:Nat}{w0 w w':World}(h:w0.grownBy w (Value.slice A n c).ownBlock)(k:w.grownBy w' (Value.slice A m d).ownBlock) : w0.grownBy w' (Value.slice A n c).ownBlock:=
 ⟨k.os.trans h.os,k.tape.trans h.tape,k.output.trans h.output,Nat.le_trans h.size k.size,fun q hq hn=>(k.block q (Nat.lt_of_lt_of_le hq h.size) (by rw [Xak A m n d c];exact hn)).trans (h.block q hq hn)⟩
theorem Own.len{m:Nat}(h:Own w B E sz enc A c l)(hm:m=l.length) : Own w B E sz enc A c l∧Value.slice A m c=Value.slice A l.length c:=⟨h,by rw [hm]⟩
theorem Apart.symm(h:Apart A A') : Apart A' A:=fun p q hp hq e=>h q p hq hp e.symm
end
def DeepI(w:World)(B:Nat)(l:List Sl) : Prop:=∀ s ∈ l,Rd w B 3 encI s.A s.l
section
variable {w w' : World} {B : Nat} {l : List Sl}
theorem DeepI.below(h:DeepI w B l)(hb:Below w.heap.size w w') : DeepI w' B l:=fun s hs=>(h s hs).below hb
theorem DeepI.top(h:DeepI w B l) : DeepI w w.heap.size l:=fun s hs=>(h s hs).top
theorem DeepI.only{b:Nat}(h:DeepI w B l)(ho:Only b w w')(hB:B≤b) : DeepI w' B l:=fun s hs=>(h s hs).only ho hB
theorem DeepI.onlyT{b:Nat}{T:TypeId}{lc:List Value}(h:DeepI w B l)(ho:Only b w w')(hb:Blk w b T lc)(hT:Nat.beq 3 T=false) : DeepI w' B l:=fun s hs=>(h s hs).onlyT ho hb hT
theorem DeepI.appB{B0:Nat}{E':TypeId}{sz:Nat}{α:Type}{enc:α→List Value}{A:Option Addr}{c:Nat}{m:List α}(h:DeepI w B l)(ho:Own w B0 E' sz enc A c m)(hg:w.grownBy w' (Value.slice A m.length c).ownBlock)(hB:B≤B0) : DeepI w' B l:=fun s hs=>(h s hs).appB ho hg hB
theorem DeepI.appT{B0:Nat}{E':TypeId}{sz:Nat}{α:Type}{enc:α→List Value}{A:Option Addr}{c:Nat}{m:List α}(h:DeepI w B l)(ho:Own w B0 E' sz enc A c m)(hg:w.grownBy w' (Value.slice A m.length c).ownBlock)(hT:Nat.beq E' 3=false) : DeepI w' B l:=fun s hs=>(h s hs).appT ho hg hT
theorem DeepI.nil(w:World)(B:Nat) : DeepI w B []:=fun s hs=>by cases hs
theorem DeepI.snoc{s:Sl}(h:DeepI w B l)(hr:Rd w B 3 encI s.A s.l) : DeepI w B (l++[s]):=fun t ht=>by
 rcases List.mem_append.1 ht with h1|h1
 ·exact h t h1
 ·rw [List.mem_singleton] at h1;subst h1;exact hr
theorem DeepI.eq{l':List Sl}(h:DeepI w B l)(e:l'=l) : DeepI w B l':=by rw [e];exact h
end
def LowI(B:Nat)(l:List Sl) : Prop:=∀ s ∈ l,∀ p,s.A=some p→B≤p.block
def Und(A:Option Addr)(B:Nat) : Prop:=∀ p,A=some p→p.block<B
theorem LowI.nil(B:Nat) : LowI B []:=fun s hs=>by cases hs
theorem LowI.snoc{B:Nat}{l:List Sl}{s:Sl}(h:LowI B l)(hs:∀ p,s.A=some p→B≤p.block) : LowI B (l++[s]):=fun t ht=>by
 rcases List.mem_append.1 ht with h1|h1
 ·exact h t h1
 ·rw [List.mem_singleton] at h1;subst h1;exact hs
section
variable {α : Type} {w w' : World} {B B1 : Nat} {E : TypeId} {sz : Nat} {enc : α → List Value} {A : Option Addr} {c : Nat} {l : List α} {m : List Sl}
end
theorem Apart.app{α:Type}{w:World}{B:Nat}{E:TypeId}{sz:Nat}{enc:α→List Value}{A A1 A2:Option Addr}{c:Nat}{l:List α}(h:Own w B E sz enc A c l)(ha:Apart A A1)(hat:∀ b,b<w.heap.size→Away A1 b→Away A2 b) : Apart A A2:=by
 intro p q hp hq
 rcases h.2 with ⟨h1,_⟩|⟨g,cap,cur,h1,_,h3,_⟩
 ·injection h1 with h1;rw [h1] at hp;cases hp
 ·injection h1 with h1
  rw [h1] at hp
  injection hp with hp
  have hlt:p.block<w.heap.size:=by rw [← hp];exact (Array.getElem?_eq_some_iff.1 h3).1
  have haw:Away A1 p.block:=fun r hr e=>ha p r (by rw [h1,hp]) hr e.symm
  exact fun e=>hat _ hlt haw q hq e.symm
theorem Xes{α:Type}{P:Program}{a:Act}{w:World}{n:Nat}{e:Env}{ty:TypeId}{pos:String}{af:Array Edge}{g:Option (Nat×Bool)}{d:Option Tmp}{T E:TypeId}{sz bytes B b0:Nat}{x y:Operand}{enc:α→List Value}{A2:Option Addr}{c2:Nat}{l2:List α}(hf:Fr a n e)(hx:ev e x=some (.slice (some ⟨b0,0,none⟩) 0 0))(hy:ev e y=some (.slice A2 l2.length c2))
  (hT:SliceT P T E) (hi:InfoT P E sz bytes) (hsz:∀ x,(enc x).length=sz) (hone:∀ x,(enc x).all one=true) (hb:Blk w b0 E []) (hr:Rd w B E enc A2 l2) (h63:l2.length≤maxLen) (hbytes:l2.length*bytes≤140737488355328) :
  Ef P ⟨d,.call ⟨.builtin .append,#[x,y],#[T,T]⟩,ty,pos,af,g⟩ a w (fun v w'=>∃ A' c',v=.slice A' l2.length c'∧Own w' b0 E sz enc A' c' l2∧Below w.heap.size w w'∧∀ b,b<w.heap.size→b≠b0→Away A' b):=by
 by_cases hl2:l2=[]
 ·subst hl2
  obtain ⟨i,z,hi1,hi2,hi3,hi4,hi5,hi6⟩:=hi
  have hrun:(Builtin.append_ #[T,T] ty #[.slice (some ⟨b0,0,none⟩) 0 0,.slice A2 0 c2]).run P w=.ok (.slice (some ⟨b0,0,none⟩) 0 0) w:=by
   cases A2<;>simp [Builtin.append_,X0d hT,sizeOf,typeInfo,hi1,Builtin.lenOf,Builtin.firstCells,loadCells,loadCellsFrom,storeCells]
  refine (Ef.of_run (v:=.slice (some ⟨b0,0,none⟩) 0 0) (w':=w) ?_).mono fun v w' ⟨e1,e2⟩=>?_
  ·simp only [List.length_nil] at hy
   simp [execOp,resolve,invoke,builtin,hf.ev hx,hf.ev hy,hrun]
  ·subst e1;subst e2
   exact ⟨_,_,rfl,Own.empty hb (Nat.le_refl _),Below.refl _ _,fun b _ hne=>Away.ne hne⟩
 ·have hown:Own w b0 E sz enc (some ⟨b0,0,none⟩) 0 ([] : List α):=Own.empty hb (Nat.le_refl _)
  obtain ⟨i,z,hi1,hi2,rfl,rfl,hi5,hi6⟩:=hi;obtain ⟨b,off,cs,fz,rfl,h2,h3,h4⟩:=hr hl2;have hlen2:=Xl hsz l2
  have hpos:0<l2.length:=List.length_pos_iff.2 hl2
  have h:=run_append_grow (P:=P) w T ty E i z hT hi1 hi2 ⟨b0,0,none⟩ 0 0 [] (by simp) (fun j u hu=>by simp at hu)
   ⟨b,off,none⟩ l2.length c2 (l2.flatMap enc) hlen2 (fun j u hu=>by
    have:=h4 j u hu
    rw [X1w]
    simp [World.cell?,h3,this])
   (by omega) (by simp only [maxLen] at h63;omega) (growslice_fits (by omega) (by simpa using hbytes))
  simp only [Nat.zero_add] at h
  refine (Ef.of_run (w':=w.drew.alloc (.cells (([] : List Value).toArray++(l2.flatMap enc).toArray++Builtin.zeroCells z.cells (grownCap w l2.length 0 E-l2.length)) E)) (v:=.slice (some ⟨w.heap.size,0,none⟩) l2.length (grownCap w l2.length 0 E)) ?_).mono fun v w' ⟨e1,e2⟩=>?_
  ·simp [execOp,resolve,invoke,builtin,hf.ev hx,hf.ev hy,h]
  ·subst e1;subst e2
   have hb0:=hb.lt;have hge:=grownCap_ge w l2.length 0 E
   refine ⟨_,_,rfl,?_,((Below.refl _ _).drew).alloc (Nat.le_refl _) _,fun b hb _=>Away.ne (by omega)⟩
   refine ⟨Xl hsz _,.inr ⟨w.heap.size,_,_,rfl,by omega,heap_alloc_new w.drew _,hge,grownCap_le_maxLen w _ _ E h63,?_,?_⟩⟩
   ·simp only [Array.size_append,List.size_toArray,size_zeroCells,hi5,hlen2,List.length_nil,Nat.zero_add,← Nat.add_mul]
    congr 1
    omega
   ·rw [← hlen2]
    simp only [Array.toList_append,List.append_assoc,List.nil_append]
    exact List.take_left
theorem X7e{α:Type}{P:Program}{w:World}{n:Nat}{e:Env}{ty:TypeId}{pos:String}{af:Array Edge}{g:Option (Nat×Bool)}{d:Option Tmp}{T E:TypeId}{sz bytes B b0:Nat}{x y:Operand}{enc:α→List Value}{A2:Option Addr}{c2:Nat}{l2:List α}(hx:ev e x=some (.slice (some ⟨b0,0,none⟩) 0 0))(hy:ev e y=some (.slice A2 l2.length c2))(hT:SliceT P T E)(hi:InfoT P E sz bytes)(hsz:∀ x,(enc x).length=sz)(hone:∀ x,(enc x).all one=true)(hb:Blk w b0 E [])(hr:Rd w B E enc A2 l2)(h63:l2.length≤maxLen)(hbytes:l2.length*bytes≤140737488355328) : EfW P ⟨d,.call ⟨.builtin .append,#[x,y],#[T,T]⟩,ty,pos,af,g⟩ n e w (fun v w'=>∃ A' c',v=.slice A' l2.length c'∧Own w' b0 E sz enc A' c' l2∧Below w.heap.size w w'∧∀ b,b<w.heap.size→b≠b0→Away A' b):=fun a hf=>Xes hf hx hy hT hi hsz hone hb hr h63 hbytes
theorem Apart.new0{α:Type}{w:World}{B b0:Nat}{E:TypeId}{sz:Nat}{enc:α→List Value}{A A':Option Addr}{c:Nat}{l:List α}(h:Own w B E sz enc A c l)(ha:Away A b0)(hat:∀ b,b<w.heap.size→b≠b0→Away A' b) : Apart A A':=fun p q hp hq e=>by
 rcases h.2 with ⟨h1,_⟩|⟨g,cap,cur,h1,_,h3,_⟩
 ·injection h1 with h1;rw [h1] at hp;cases hp
 ·injection h1 with h1
  rw [h1] at hp
  injection hp with hp
  have hlt:p.block<w.heap.size:=by rw [← hp];exact (Array.getElem?_eq_some_iff.1 h3).1
  exact hat _ hlt (ha p (by rw [h1,hp])) q hq e.symm
section
variable {P : Program} {ops : Array Oper} {V : Option Nat} {tl : Nat → Bool} {Q : Act → World → Prop} {fuel : Nat} {done : List Nat} {w : World} {o : Oper} {op : Op} {ty : TypeId} {pos : String} {af : Array Edge} {g : Option (Nat × Bool)} {n d : Nat} {e : Env} {v : Value} {R : Value → World → Prop} {x : Operand}
theorem Xwh{a:Act}(i j k l:Nat)(hr:Region.ready .any ops (mask ops done)=[i,j,k,l])(hi:wpR P ops V tl i (wpS P ops V tl Q fuel (mask ops (i::done))) a w)
  (hj:wpR P ops V tl j (wpS P ops V tl Q fuel (mask ops (j::done))) a w) (hk:wpR P ops V tl k (wpS P ops V tl Q fuel (mask ops (k::done))) a w) (hl:wpR P ops V tl l (wpS P ops V tl Q fuel (mask ops (l::done))) a w) : wpS P ops V tl Q (fuel+1) (mask ops done) a w:=by
 refine ⟨fun h0=>(by rw [hr] at h0;cases h0),fun m hm=>?_⟩
 rw [hr] at hm
 rw [X4u]
 simp only [List.mem_cons,List.not_mem_nil,or_false] at hm
 rcases hm with rfl|rfl|rfl|rfl
 ·exact hi
 ·exact hj
 ·exact hk
 ·exact hl
theorem Y4(i j k l:Nat)(hi:WR P ops V tl Q i fuel done n e w)(hj:WR P ops V tl Q j fuel done n e w)(hk:WR P ops V tl Q k fuel done n e w)(hl:WR P ops V tl Q l fuel done n e w)(hr:Region.ready .any ops (mask ops done)=[i,j,k,l]:=by kernel_rfl) : WS P ops V tl Q (fuel+1) done n e w:=fun a hf=>Xwh i j k l hr (hi a hf) (hj a hf) (hk a hf) (hl a hf)
end
def markI(k:Int)(n:Nat) : List Int:=(List.range n).map fun (j:Nat)=>k+(j:Int)
def markG(k:Int)(n:Nat) : List Gt:=(List.range n).map fun (j:Nat)=>⟨k+3*(j:Int),k+3*(j:Int)+1,k+3*(j:Int)+2⟩
def heldI:List Int→Int→Int
 | [],k=>k
 | x::l,k=>if x=k then heldI l (k+1) else -1
def heldG:List Gt→Int→Int
 | [],k=>k
 | x::l,k=>if x.k=k∧x.a=k+1∧x.b=k+2 then heldG l (k+3) else -1
theorem X35{x:Dy} : dOk x=true↔rOk x.num=true∧(0≤x.exp∧x.exp≤60)∧(x.exp=0∨rEven x.num=false):=by
 simp only [dOk,Bool.and_eq_true,Xt,Bool.or_eq_true,beq_iff_eq,Bool.not_eq_true',and_assoc]
theorem Xie:∀ (m:Nat) (x:Rg),rOk x=true→m≤60→dOk (dLow x m)=true
 | 0,x,h,_=>by
  rw [X3d (by omega)]
  exact X35.2 ⟨h,by simp,.inl rfl⟩
 | m+1,x,h,hm=>by
  by_cases he:rEven x=true
  ·rw [X58 (by omega) he,show ((m+1:Nat) : Int)-1=(m:Int) from by omega]
   exact Xie m _ (X6s h) (by omega)
  ·have he':rEven x=false:=by simpa using he
   rw [X3d fun _=>he']
   exact X35.2 ⟨h,by dsimp only;omega,.inr he'⟩
theorem X6j{x:Rg}{e:Int}(h:rOk x=true)(h0:0≤e)(h1:e≤60) : dOk (dLow x e)=true:=by
 obtain ⟨m,rfl⟩ : ∃ m:Nat,e=m:=⟨e.toNat,by omega⟩
 exact Xie m x h (by omega)
def Agree(o:Option Dy)(p:Bool×Dy) : Prop:=(∀ z,o=some z→p=(false,z)∧dOk z=true)∧(o=none→p.1=true)
theorem X5f{x y z:Rg}(hx:rOk x=true)(hy:rOk y=true) : rIf2 z [x,y]=rOk z:=by simp [rIf2,hx,hy]
theorem X7f{x z:Rg}(hx:rOk x=true) : rIf2 z [x]=rOk z:=by simp [rIf2,hx]
theorem Xkw{x y:Dy}(hx:dOk x=true)(hy:dOk y=true) : Agree (dMulI x y) (sMul false x y):=by
 have kx:=X35.1 hx
 have ky:=X35.1 hy
 unfold dMulI sMul
 rw [hx,hy,X5f kx.1 ky.1,rIf1,X5f kx.1 ky.1,Bool.true_and,Bool.true_and]
 by_cases hr:rOk (rMul x.num y.num)=true
 ·rw [if_pos hr,if_pos hr]
  unfold dOf
  rw [hr,Bool.true_and]
  by_cases he:60<x.exp+y.exp
  ·have h1:¬ inR (x.exp+y.exp) 0 60=true:=fun h=>by have:=Xt.1 h;omega
   rw [if_neg h1,if_pos he]
   exact ⟨fun z h=>(by cases h),fun _=>rfl⟩
  ·have h1:inR (x.exp+y.exp) 0 60=true:=Xt.2 (by omega)
   rw [if_pos h1,if_neg he,sRing,if_pos hr]
   exact ⟨fun z h=>(by injection h with h;subst h;exact ⟨rfl,X6j hr (by omega) (by omega)⟩),fun h=>by cases h⟩
 ·have hr':rOk (rMul x.num y.num)=false:=by simpa using hr
  rw [if_neg hr]
  refine ⟨fun z h=>(by cases h),fun _=>?_⟩
  by_cases he:60<x.exp+y.exp
  ·rw [if_pos he]
  ·rw [if_neg he,hr'];rfl
theorem Xbk:∀ (n:Nat) (f:Bool) (x:Dy),(sRaiseN n f x).2.exp=x.exp+n
 | 0,f,x=>by simp [sRaiseN]
 | n+1,f,x=>by rw [sRaiseN,Xbk n];dsimp only;omega
theorem X4h:∀ (n:Nat) (x:Dy),(sRaiseN n true x).1=true
 | 0,x=>rfl
 | n+1,x=>by rw [sRaiseN];exact X4h n _
theorem X6q:∀ (n:Nat) (x:Dy),rOk x.num=true→(raiseI n x.num).2=true→sRaiseN n false x=(false,⟨(raiseI n x.num).1,x.exp+n⟩)∧rOk (raiseI n x.num).1=true
 | 0,x,h,_=>⟨by simp [sRaiseN,raiseI],h⟩
 | n+1,x,h,hr=>by
  unfold raiseI at hr ⊢
  rw [X7f h] at hr ⊢
  by_cases h1:rOk (rRoot x.num)=true
  ·rw [if_pos h1] at hr ⊢
   rw [sRaiseN,h1,sRing,if_pos h1]
   have:=X6q n ⟨rRoot x.num,x.exp+1⟩ h1 hr
   refine ⟨?_,this.2⟩
   simp only [Bool.not_true,Bool.or_false]
   rw [this.1]
   dsimp only
   congr 2
   omega
  ·rw [if_neg h1] at hr
   cases hr
theorem X6i:∀ (n:Nat) (x:Dy),rOk x.num=true→(raiseI n x.num).2=false→(sRaiseN n false x).1=true
 | 0,x,h,hr=>by cases hr
 | n+1,x,h,hr=>by
  unfold raiseI at hr
  rw [X7f h] at hr
  by_cases h1:rOk (rRoot x.num)=true
  ·rw [if_pos h1] at hr
   rw [sRaiseN,h1,sRing,if_pos h1]
   simp only [Bool.not_true,Bool.or_false]
   exact X6i n ⟨rRoot x.num,x.exp+1⟩ h1 hr
  ·have h2:rOk (rRoot x.num)=false:=by simpa using h1
   rw [sRaiseN,h2]
   exact X4h n _
theorem Xk4{x y:Dy}(hx:dOk x=true)(hy:dOk y=true) : Agree (dAddI x y) (sAdd false x y):=by
 have kx:=X35.1 hx
 have ky:=X35.1 hy
 obtain ⟨m,hm⟩ : ∃ m,m=max x.exp y.exp:=⟨_,rfl⟩
 have e1:(m-x.exp).toNat=(y.exp-x.exp).toNat:=by omega
 have e3:x.exp+((y.exp-x.exp).toNat:Int)=m:=by omega
 have ed1:dRaise x m=raiseI (y.exp-x.exp).toNat x.num:=by rw [dRaise,e1]
 unfold dAddI sAdd
 rw [hx,hy,Bool.and_self,if_pos rfl,← hm,Xbk,e3]
 cases h1:(dRaise x m).2 with
 | false=>
  have hb:=X6i _ x kx.1 (by rw [← ed1];exact h1)
  rw [hb,X4h]
  simp only [Bool.false_and,Bool.false_eq_true,if_false,Bool.true_or]
  exact ⟨fun z h=>(by cases h),fun _=>rfl⟩
 | true=>
  obtain ⟨g1,g2⟩:=X6q _ x kx.1 (by rw [← ed1];exact h1)
  rw [g1]
  rw [← ed1] at g2 ⊢
  dsimp only
  have ed2:dRaise y m=raiseI (m-y.exp).toNat y.num:=rfl
  cases h2:(dRaise y m).2 with
  | false=>
   have hb:=X6i _ y ky.1 (by rw [← ed2];exact h2)
   rw [hb]
   simp only [Bool.and_false,Bool.false_and,Bool.false_eq_true,if_false,Bool.true_or]
   exact ⟨fun z h=>(by cases h),fun _=>rfl⟩
  | true=>
   obtain ⟨k1,k2⟩:=X6q _ y ky.1 (by rw [← ed2];exact h2)
   rw [k1]
   rw [← ed2] at k2 ⊢
   dsimp only
   rw [X5f g2 k2,rIf1,X5f g2 k2,Bool.true_and,Bool.true_and,Bool.false_or]
   by_cases hr:rOk (rAdd (dRaise x m).1 (dRaise y m).1)=true
   ·have h3:inR m 0 60=true:=Xt.2 (by omega)
    rw [if_pos hr,if_pos hr,dOf,hr,h3,sRing,if_pos hr]
    exact ⟨fun z h=>(by simp only [Bool.and_self,if_true] at h;injection h with h;subst h;exact ⟨rfl,X6j hr (by omega) (by omega)⟩),fun h=>by simp at h⟩
   ·have hr':rOk (rAdd (dRaise x m).1 (dRaise y m).1)=false:=by simpa using hr
    rw [if_neg hr,hr']
    exact ⟨fun z h=>(by cases h),fun _=>rfl⟩
def dotS(f:Bool)(a b:Mx)(i j:Nat) : Nat→Bool×Dy
 | 0=>(f,dZ)
 | n+1=>if (dotS f a b i j n).1=true then dotS f a b i j n else
   sAdd (sMul false (a.at i n) (b.at n j)).1 (dotS f a b i j n).2 (sMul false (a.at i n) (b.at n j)).2
theorem Xft{f:Bool}{a b:Mx}{i j n:Nat}(h:(dotS f a b i j n).1=true) : ∀ m,n≤m→dotS f a b i j m=dotS f a b i j n
 | 0,h'=>by
  obtain rfl:n=0:=by omega
  rfl
 | m+1,h'=>by
  by_cases hm:n=m+1
  ·subst hm;rfl
  ·rw [dotS,Xft h m (by omega),if_pos h]
theorem Xkq(a b:Mx)(i j n:Nat) : dotS true a b i j n=(true,dZ):=Xft (n:=0) rfl n (Nat.zero_le _)
theorem Xty:dOk dZ=true:=by decide
theorem Xmf(x y:Dy) : (sAdd true x y).1=true:=by
 unfold sAdd
 rw [show (sRaiseN (y.exp-x.exp).toNat true x).1=true from X4h _ _,X4h]
 rfl
def AllOk(m:Mx) : Prop:=∀ x ∈ m.cells,dOk x=true
theorem Mx.at_ok{m:Mx}(h:AllOk m)(i j:Nat) : dOk (m.at i j)=true:=by
 unfold Mx.at
 rw [List.getD_eq_getElem?_getD]
 cases hx:m.cells[i*m.cols.toNat+j]? with
 | none=>exact Xty
 | some x=>exact h x (List.mem_of_getElem? hx)
theorem Xd0{a b:Mx}(ha:AllOk a)(hb:AllOk b)(i j:Nat) : ∀ n,Agree (dotI a b i j n) (dotS false a b i j n)
 | 0=>⟨fun z h=>(by injection h with h;subst h;exact ⟨rfl,Xty⟩),fun h=>by cases h⟩
 | n+1=>by
  have ih:=Xd0 ha hb i j n
  have hm:=Xkw (Mx.at_ok ha i n) (Mx.at_ok hb n j)
  unfold dotI dotS
  cases h1:dotI a b i j n with
  | none=>
   have h2:=ih.2 h1
   rw [if_pos h2]
   exact ⟨fun z h=>(by cases h),fun _=>h2⟩
  | some s=>
   obtain ⟨h2,h3⟩:=ih.1 s h1
   rw [h2]
   simp only [Bool.false_eq_true,if_false,Option.bind_some]
   cases h4:dMulI (a.at i n) (b.at n j) with
   | none=>
    rw [hm.2 h4]
    exact ⟨fun z h=>(by cases h),fun _=>Xmf _ _⟩
   | some x=>
    obtain ⟨h5,h6⟩:=hm.1 x h4
    rw [h5]
    exact Xk4 h3 h6
def timesL(f:Bool)(a b:Mx) : Nat→Bool×List Dy
 | 0=>(f,[])
 | n+1=>((dotS (timesL f a b n).1 a b (n/b.cols.toNat) (n % b.cols.toNat) a.cols.toNat).1,(timesL f a b n).2++[(dotS (timesL f a b n).1 a b (n/b.cols.toNat) (n % b.cols.toNat) a.cols.toNat).2])
def timesS(f:Bool)(a b:Mx) : Bool×Mx:=((timesL f a b (a.rows.toNat*b.cols.toNat)).1,⟨a.rows,b.cols,(timesL f a b (a.rows.toNat*b.cols.toNat)).2⟩)
theorem Xae{a b:Mx}(ha:AllOk a)(hb:AllOk b) : ∀ n,(∀ l,seqO (gridG (fun i j=>dotI a b i j a.cols.toNat) b.cols.toNat) n=some l→timesL false a b n=(false,l)∧∀ x ∈ l,dOk x=true)∧
  (seqO (gridG (fun i j=>dotI a b i j a.cols.toNat) b.cols.toNat) n=none→(timesL false a b n).1=true)
 | 0=>⟨fun l h=>(by injection h with h;subst h;exact ⟨rfl,fun x hx=>by cases hx⟩),fun h=>by cases h⟩
 | n+1=>by
  have ih:=Xae ha hb n
  have hd:=Xd0 ha hb (n/b.cols.toNat) (n % b.cols.toNat) a.cols.toNat
  unfold seqO timesL
  cases h1:seqO (gridG (fun i j=>dotI a b i j a.cols.toNat) b.cols.toNat) n with
  | none=>
   rw [ih.2 h1,Xkq]
   exact ⟨fun l h=>(by cases h),fun _=>rfl⟩
  | some l=>
   obtain ⟨h2,h3⟩:=ih.1 l h1
   rw [h2]
   dsimp only
   rw [show gridG (fun i j=>dotI a b i j a.cols.toNat) b.cols.toNat n=dotI a b (n/b.cols.toNat) (n % b.cols.toNat) a.cols.toNat from rfl]
   cases h4:dotI a b (n/b.cols.toNat) (n % b.cols.toNat) a.cols.toNat with
   | none=>exact ⟨fun l h=>(by cases h),fun _=>hd.2 h4⟩
   | some x=>
    obtain ⟨h5,h6⟩:=hd.1 x h4
    rw [h5]
    refine ⟨fun l' h=>?_,fun h=>by cases h⟩
    injection h with h
    subst h
    exact ⟨rfl,fun y hy=>by
     rcases List.mem_append.1 hy with hy|hy
     ·exact h3 y hy
     ·rw [List.mem_singleton.1 hy];exact h6⟩
theorem X8j{m:Mx}(h:mOk m=true) : AllOk m:=by
 simp only [mOk,Bool.and_eq_true,Bool.not_eq_true',List.any_eq_false] at h
 intro x hx
 have:=h.2 x hx
 simpa using this
theorem X8a{m:Mx}(h:mOk m=true) : isDimB m.rows=true∧isDimB m.cols=true:=by
 simp only [mOk,Bool.and_eq_true] at h
 exact ⟨h.1.1.1,h.1.1.2⟩
theorem Xhk{m:Mx}(hr:isDimB m.rows=true)(hc:isDimB m.cols=true)(hl:m.cells.length=m.rows.toNat*m.cols.toNat)(ha:AllOk m) : mOk m=true:=by
 have h1:=X2k hr;have h2:=X2k hc
 have h3:(m.cells.any fun x=>!dOk x)=false:=by
  rw [List.any_eq_false]
  intro x hx
  simp [ha x hx]
 have h4:wr (m.rows*m.cols)=(m.cells.length:Int):=by
  obtain ⟨r,hr⟩ : ∃ r:Nat,m.rows=r:=⟨m.rows.toNat,by omega⟩
  obtain ⟨c,hc⟩ : ∃ c:Nat,m.cols=c:=⟨m.cols.toNat,by omega⟩
  rw [hr] at h1
  rw [hc] at h2
  rw [hl,hr,hc]
  have h5:r*c≤32*32:=Nat.mul_le_mul (by omega) (by omega)
  rw [← Int.natCast_mul,X0s (by omega) (by omega)]
  simp
 unfold mOk
 rw [hr,hc,h3,h4]
 simp
theorem X3u{n:Int}(h:1≤n∧n≤5) : isDimB ((2^n.toNat:Nat) : Int)=true:=by
 have:n=1∨n=2∨n=3∨n=4∨n=5:=by omega
 rcases this with rfl|rfl|rfl|rfl|rfl<;>decide
theorem X9u{a b:Mx}(ha:mOk a=true)(hb:mOk b=true)(hab:a.cols=b.rows) : (∀ m,mulI a b=some m→timesS false a b=(false,m)∧mOk m=true∧m.rows=a.rows∧m.cols=b.cols)∧(mulI a b=none→(timesS false a b).1=true):=by
 have hd1:=(X8a ha).1;have hd2:=(X8a hb).2;have h:=Xae (X8j ha) (X8j hb) (a.rows.toNat*b.cols.toNat)
 unfold mulI matOf timesS
 rw [ha,hb,hd1,hd2,if_pos (by simp [hab]),if_pos (show (true&&true)=true from rfl)]
 cases h1:seqO (gridG (fun i j=>dotI a b i j a.cols.toNat) b.cols.toNat) (a.rows.toNat*b.cols.toNat) with
 | none=>exact ⟨fun m h=>(by cases h),fun _=>h.2 h1⟩
 | some l=>
  obtain ⟨h2,h3⟩:=h.1 l h1
  rw [h2]
  refine ⟨fun m hm=>?_,fun hm=>by cases hm⟩
  injection hm with hm
  subst hm
  exact ⟨rfl,Xhk hd1 hd2 (X5i h1) h3,rfl,rfl⟩
theorem Xd6{f:Nat→Dy} : ∀ n,seqO (fun m=>some (f m)) n=some ((List.range n).map f)
 | 0=>rfl
 | n+1=>by simp [seqO,Xd6 n,List.range_succ]
theorem Xbd{R C:Int}(hR:isDimB R=true)(hC:isDimB C=true)(f:Nat→Nat→Dy) : matOf R C (fun i j=>some (f i j))=some ⟨R,C,gridL f C.toNat (R.toNat*C.toNat)⟩:=by
 unfold matOf
 rw [hR,hC,if_pos (show (true&&true)=true from rfl)]
 have:gridG (fun i j=>some (f i j)) C.toNat=fun m=>some (gridF f C.toNat m):=rfl
 rw [this,Xd6]
 rfl
theorem Xa8{f g:Nat→Nat→Dy}{R C:Nat}(h:∀ i j,i<R→j<C→f i j=g i j) : gridL f C (R*C)=gridL g C (R*C):=by
 unfold gridL
 refine List.map_congr_left fun m hm=>?_
 have hm':=List.mem_range.1 hm
 have hC:0<C:=by
  rcases Nat.eq_zero_or_pos C with h0|h0
  ·subst h0;simp at hm'
  ·exact h0
 exact h _ _ (Nat.div_lt_of_lt_mul (by rw [Nat.mul_comm];exact hm')) (Nat.mod_lt _ hC)
theorem X9e{f:Nat→Nat→Dy}{R C:Nat}{x:Dy}(h:x ∈ gridL f C (R*C)) : ∃ i j,i<R∧j<C∧x=f i j:=by
 unfold gridL at h
 obtain ⟨m,hm,rfl⟩:=List.mem_map.1 h
 have hm':=List.mem_range.1 hm
 have hC:0<C:=by
  rcases Nat.eq_zero_or_pos C with h0|h0
  ·subst h0;simp at hm'
  ·exact h0
 exact ⟨_,_,Nat.div_lt_of_lt_mul (by rw [Nat.mul_comm];exact hm'),Nat.mod_lt _ hC,rfl⟩
def unitS(d:Nat) : Mx:=⟨(d:Int),(d:Int),gridL (fun i j=>if i=j then dPow 0 else dZ) d (d*d)⟩
theorem X6l{d:Nat}(h:isDimB (d:Int)=true) : idI (d:Int)=some (unitS d)∧mOk (unitS d)=true:=by
 refine ⟨?_,?_⟩
 ·unfold idI
  rw [Xbd h h (fun i j=>if i=j then ⟨⟨1,0,0,0⟩,0⟩ else dZ)]
  rfl
 ·refine Xhk h h (by simp [unitS,X9p]) fun x hx=>?_;obtain ⟨i,j,_,_,rfl⟩:=X9e hx
  split
  ·rfl
  ·rfl
def bitT(p s:Nat) : Int:=bits .and .i64 ((s:Int)/2^p) 1
def flipT(p s:Nat) : Int:=bits .xor .i64 (s:Int) (wr (1*2^p))
def chkBits:Bool:=(List.range 5).all fun p=>(List.range 32).all fun s=>
 let f:=flipT p s
 Nat.blt f.toNat 32&&f==(f.toNat:Int)&&flipT p f.toNat==(s:Int)&&(bitT p f.toNat==1-bitT p s)&&(bitT p s==0||bitT p s==1) &&
 (List.range 5).all (fun q=>(q==p)||bitT q f.toNat==bitT q s) &&
 (List.range 5).all (fun q=>let g:=flipT q s;flipT p g.toNat==flipT q f.toNat) &&
 (List.range 32).all fun t=>(((t:Int)==s||f==(t:Int))==(bits .andNot .i64 (bits .xor .i64 (s:Int) (t:Int)) (wr (1*2^p))==0))
theorem Xed:chkBits=true:=by kernel_rfl
def chkSmall:Bool:=(List.range 6).all fun n=>(List.range n).all fun q=>(List.range (2^n)).all fun s=>Nat.blt (flipT (n-1-q) s).toNat (2^n)
theorem Xcc:chkSmall=true:=by kernel_rfl
structure BitsOk (p s:Nat) : Prop where
 nat:flipT p s=((flipT p s).toNat:Int)
 lt:(flipT p s).toNat<32
 back:flipT p (flipT p s).toNat=(s:Int)
 bit:bitT p (flipT p s).toNat=1-bitT p s
 other:∀ q<5,q≠p→bitT q (flipT p s).toNat=bitT q s
 comm:∀ q<5,flipT p (flipT q s).toNat=flipT q (flipT p s).toNat
 sel:∀ t:Nat,t<32→(((t:Int)=s∨flipT p s=(t:Int))↔bits .andNot .i64 (bits .xor .i64 (s:Int) (t:Int)) (wr (1*2^p))=0)
theorem X5w{p s:Nat}(hp:p<5)(hs:s<32) : BitsOk p s:=by
 have h:=Xed
 simp only [chkBits,List.all_eq_true,List.mem_range] at h
 have h:=h p hp s hs
 simp only [Bool.and_eq_true,List.all_eq_true,List.mem_range,beq_iff_eq,Bool.or_eq_true,Nat.blt_eq] at h
 obtain ⟨⟨⟨⟨⟨⟨⟨h1,h2⟩,h3⟩,h4⟩,_⟩,h6⟩,h7⟩,h8⟩:=h
 refine ⟨h2,h1,h3,h4,fun q hq hne=>(h6 q hq).resolve_left hne,h7,fun t ht=>?_⟩
 have h9:=h8 t ht
 rw [Bool.eq_iff_iff] at h9
 simpa using h9
theorem X5t{n q s:Nat}(hn:n≤5)(hq:q<n)(hs:s<2^n) : (flipT (n-1-q) s).toNat<2^n:=by
 have h:=Xcc
 simp only [chkSmall,List.all_eq_true,List.mem_range] at h
 have h:=h n (by omega) q hq s hs
 simpa [Nat.blt_eq] using h
theorem Xgp{n q:Int}(s:Nat) : bitF n (s:Int) q=bitT (n-1-q).toNat s:=rfl
theorem X73{n q:Int}(s:Nat) : flipF n (s:Int) q=flipT (n-1-q).toNat s:=rfl
theorem Xd5{n q:Int}(hq:0≤q)(hqn:q<n) : (n-1-q).toNat=n.toNat-1-q.toNat:=by omega
theorem Xdr{n:Int}{g:Gt}(hg:gOk n g=true){s:Nat}(hs:s<2^n.toNat)(hk:9≤g.k∧g.k≤11) : ∃ t:Nat,t<2^n.toNat∧toS n g s=(t:Int)∧toS n g t=(s:Int)∧(g.k=10→t=s):=by
 obtain ⟨hn,hk0,ha,hb⟩:=X27 hg
 have ha:=ha (by omega)
 have hb:=hb hk
 have h32:2^n.toNat≤32:=Xbm hn.2
 obtain ⟨p,hp⟩ : ∃ p,p=(n-1-g.a).toNat:=⟨_,rfl⟩
 obtain ⟨q,hq⟩ : ∃ q,q=(n-1-g.b).toNat:=⟨_,rfl⟩
 have hp5:p<5:=by omega
 have hq5:q<5:=by omega
 have hpq:p≠q:=by omega
 have hsm:∀ s,s<2^n.toNat→(flipT p s).toNat<2^n.toNat:=fun s hs=>by
  rw [hp,Xd5 (by omega) (by omega)]
  exact X5t (by omega) (by omega) hs
 have hsm2:∀ s,s<2^n.toNat→(flipT q s).toNat<2^n.toNat:=fun s hs=>by
  rw [hq,Xd5 (by omega) (by omega)]
  exact X5t (by omega) (by omega) hs
 unfold toS
 simp only [Xgp,X73,← hp,← hq]
 have Bp:=X5w (p:=p) (s:=s) hp5 (by omega)
 have Bq:=X5w (p:=q) (s:=s) hq5 (by omega)
 by_cases h9:g.k=9
 ·simp only [h9,if_true]
  by_cases hb1:bitT p s=1
  ·refine ⟨(flipT q s).toNat,hsm2 s hs,by rw [if_pos hb1];exact Bq.nat,?_,by omega⟩
   rw [if_pos (by rw [Bq.other p hp5 hpq];exact hb1)]
   exact Bq.back
  ·exact ⟨s,hs,by rw [if_neg hb1],by rw [if_neg hb1],by omega⟩
 ·simp only [h9,if_false]
  by_cases h11:g.k=11
  ·simp only [h11,if_true]
   by_cases hb1:bitT p s=bitT q s
   ·exact ⟨s,hs,by rw [if_neg (by simpa using hb1)],by rw [if_neg (by simpa using hb1)],by omega⟩
   ·have Bf:=X5w (p:=q) (s:=(flipT p s).toNat) hq5 Bp.lt
    have Bg:=X5w (p:=p) (s:=(flipT q (flipT p s).toNat).toNat) hp5 Bf.lt
    have e1:flipF n (flipT p s) g.b=flipT q (flipT p s).toNat:=by rw [Bp.nat,X73,← hq,Int.toNat_natCast]
    refine ⟨(flipT q (flipT p s).toNat).toNat,hsm2 _ (hsm _ hs),?_,?_,by omega⟩
    ·rw [if_pos hb1,e1];exact Bf.nat
    ·have e2:bitT p (flipT q (flipT p s).toNat).toNat=1-bitT p s:=by rw [Bf.other p hp5 hpq,Bp.bit]
     have e3:bitT q (flipT q (flipT p s).toNat).toNat=1-bitT q s:=by rw [Bf.bit,Bp.other q hq5 (Ne.symm hpq)]
     have e4:flipT p (flipT q (flipT p s).toNat).toNat=flipT q (flipT p (flipT p s).toNat).toNat:=(X5w (p:=p) (s:=(flipT p s).toNat) hp5 Bp.lt).comm q hq5
     rw [if_pos (by rw [e2,e3];omega),e4,Bp.back,Int.toNat_natCast,Bq.nat,X73,← hq,Bq.back]
  ·exact ⟨s,hs,by rw [if_neg h11],by rw [if_neg h11],fun _=>rfl⟩
theorem Xss{k:Int}(h:1≤k∧k≤8){i j:Int}(hi:i=0∨i=1)(hj:j=0∨j=1) : (oneL k).getD (2*i+j).toNat dZ=entryI k i j:=by
 have:k=1∨k=2∨k=3∨k=4∨k=5∨k=6∨k=7∨k=8:=by omega
 rcases this with rfl|rfl|rfl|rfl|rfl|rfl|rfl|rfl<;>rcases hi with rfl|rfl<;>rcases hj with rfl|rfl<;>rfl
theorem Xij{n:Int}{g:Gt}(hg:gOk n g=true){i j:Nat}(hi:i<2^n.toNat)(hj:j<2^n.toNat) : cellI n g i j=cellS n g i j:=by
 obtain ⟨hn,hk0,ha,hb⟩:=X27 hg
 have h32:2^n.toNat≤32:=Xbm hn.2
 unfold cellI cellS
 by_cases h12:g.k=12
 ·rw [if_pos h12,if_neg (show ¬ g.k≤8 by omega)]
  have e1:toS n g j=j:=by unfold toS;rw [if_neg (show ¬ g.k=9 by omega),if_neg (show ¬ g.k=11 by omega)]
  rw [e1]
  by_cases hij:(i:Int)=j
  ·rw [if_pos hij,if_pos hij,valS,if_pos h12]
  ·rw [if_neg hij,if_neg hij]
 ·rw [if_neg h12]
  by_cases h2:9≤g.k∧g.k≤11
  ·rw [if_pos (Xt.2 h2),if_neg (show ¬ g.k≤8 by omega)]
   obtain ⟨t,ht,e1,e2,e3⟩:=Xdr hg hi h2;obtain ⟨t',ht',e1',e2',e3'⟩:=Xdr hg hj h2
   by_cases hij:toS n g i=j
   ·have hts:(i:Int)=toS n g j:=by rw [← e2,← e1,hij]
    rw [if_pos hij,if_pos hts,valS,if_neg h12]
    by_cases h10:g.k=10
    ·have hij2:i=j:=by rw [e1] at hij;have:=e3 h10;omega
     subst hij2
     by_cases hc:bitF n i g.a=1∧bitF n i g.b=1
     ·rw [if_pos (by simp [czI,h10,hc]),if_pos ⟨h10,hc⟩];rfl
     ·have hc':¬ czI n g i=true:=by simp only [czI,h10,Bool.and_eq_true,beq_iff_eq,true_and,and_assoc];exact hc
      rw [if_neg hc',if_neg (fun h=>hc h.2)];rfl
    ·have hc':¬ czI n g i=true:=by simp [czI,h10]
     rw [if_neg hc',if_neg (fun h=>h10 h.1)];rfl
   ·have hts:¬ (i:Int)=toS n g j:=fun h=>by
     rw [e1'] at h
     have h:i=t':=by omega
     subst h
     exact hij e2'
    rw [if_neg hij,if_neg hts]
  ·have h8:g.k≤8:=by omega
   have ha:=ha h12
   rw [if_neg (fun h=>h2 (Xt.1 h)),if_pos h8]
   have B:=X5w (p:=(n-1-g.a).toNat) (s:=i) (by omega) (by omega)
   have hs:=B.sel j (by omega)
   rw [X73]
   have e0:((i:Int)=j∨flipT (n-1-g.a).toNat i=(j:Int))↔((j:Int)=i∨flipT (n-1-g.a).toNat i=(j:Int)):=by
    constructor<;>rintro (h|h)<;>first|exact .inl h.symm|exact .inr h
   by_cases hz:bits .andNot .i64 (bits .xor .i64 (i:Int) (j:Int)) (wr (1*2^(n-1-g.a).toNat))=0
   ·rw [if_pos (e0.2 (hs.2 hz)),if_neg (fun h=>h hz)]
    exact (Xss ⟨hk0.1,h8⟩ (X3y _ _ _) (X3y _ _ _)).symm
   ·rw [if_neg (fun h=>hz (hs.1 (e0.1 h))),if_pos hz]
theorem Xmw{k:Int}(h:1≤k∧k≤8){i j:Int}(hi:i=0∨i=1)(hj:j=0∨j=1) : dOk (entryI k i j)=true:=by
 have:k=1∨k=2∨k=3∨k=4∨k=5∨k=6∨k=7∨k=8:=by omega
 rcases this with rfl|rfl|rfl|rfl|rfl|rfl|rfl|rfl<;>rcases hi with rfl|rfl<;>rcases hj with rfl|rfl<;>rfl
theorem Xpr{n:Int}{g:Gt}(hg:gOk n g=true)(i j:Int) : dOk (cellI n g i j)=true:=by
 obtain ⟨hn,hk0,ha,hb⟩:=X27 hg
 unfold cellI
 split
 ·split<;>rfl
 ·split
  ·split
   ·split<;>rfl
   ·rfl
  ·rename_i h1 h2
   split
   ·exact Xmw (by have h3:¬ (9≤g.k∧g.k≤11):=fun h=>h2 (Xt.2 h);omega) (X3y _ _ _) (X3y _ _ _)
   ·rfl
theorem X5x{n:Int}{g:Gt}(hg:gOk n g=true) : gateI n g=some (gateS n g)∧mOk (gateS n g)=true:=by
 have hn:=(X27 hg).1;have hd:=X3u hn
 have he:gridL (fun i j=>cellI n g i j) (2^n.toNat) (2^n.toNat*2^n.toNat)=gridL (fun i j=>cellS n g i j) (2^n.toNat) (2^n.toNat*2^n.toNat):=Xa8 fun i j hi hj=>Xij hg hi hj
 refine ⟨?_,?_⟩
 ·unfold gateI
  rw [if_pos hg,Xbd hd hd (fun i j=>cellI n g i j)]
  simp only [Int.toNat_natCast]
  rw [he]
  rfl
 ·refine Xhk hd hd (by simp only [gateS,X9p,Int.toNat_natCast]) fun x hx=>?_
  simp only [gateS] at hx
  rw [← he] at hx
  obtain ⟨i,j,_,_,rfl⟩:=X9e hx;exact Xpr hg _ _
def applI(n:Int) : List Gt→Mx→Option Mx
 | [],m=>some m
 | g::l,m=>(mulI ((gateI n g).getD mZ) m).bind (applI n l)
def runS(n:Int)(f:Bool) : List Gt→Mx→Bool×Mx
 | [],m=>(f,m)
 | g::l,m=>if f=true then (f,m) else runS n (timesS false (gateS n g) m).1 l (timesS false (gateS n g) m).2
theorem Xla(n:Int) : ∀ (l:List Gt) (m:Mx),runS n true l m=(true,m)
 | [],_=>rfl
 | _::_,_=>rfl
theorem Xcn{n:Int} : ∀ (l:List Gt) (m:Mx),(∀ g ∈ l,gOk n g=true)→mOk m=true→m.rows=((2^n.toNat:Nat) : Int)→
  (∀ m',applI n l m=some m'→runS n false l m=(false,m')∧mOk m'=true∧m'.rows=((2^n.toNat:Nat) : Int))∧(applI n l m=none→(runS n false l m).1=true)
 | [],m,_,hm,hr=>⟨fun m' h=>(by injection h with h;subst h;exact ⟨rfl,hm,hr⟩),fun h=>by cases h⟩
 | g::l,m,hg,hm,hr=>by
  obtain ⟨h1,h2⟩:=X5x (hg g (by simp))
  have h3:=X9u h2 hm (by rw [hr];rfl)
  unfold applI runS
  rw [h1,Option.getD_some,if_neg (by decide)]
  cases h4:mulI (gateS n g) m with
  | none=>
   rw [h3.2 h4,Xla]
   exact ⟨fun m' h=>(by cases h),fun _=>rfl⟩
  | some m1=>
   obtain ⟨h5,h6,h7,h8⟩:=h3.1 m1 h4
   rw [h5]
   exact Xcn l m1 (fun g hg'=>hg g (by simp [hg'])) h6 (by rw [h7];rfl)
def opI(c:Cx) : Option Mx:=if cOk c=true then (idI ((2^c.n.toNat:Nat) : Int)).bind (applI c.n c.gs) else none
def opS(c:Cx) : Option Mx:=if cOk c=true then (if (runS c.n false c.gs (unitS (2^c.n.toNat))).1=true then none else some (runS c.n false c.gs (unitS (2^c.n.toNat))).2) else none
theorem X41{c:Cx}(h:cOk c=true) : (1≤c.n∧c.n≤5)∧c.gs.length≤400∧∀ g ∈ c.gs,gOk c.n g=true:=by
 simp only [cOk,Bool.and_eq_true,Xt,decide_eq_true_eq,Bool.not_eq_true',List.any_eq_false] at h
 exact ⟨h.1.1,by omega,fun g hg=>by simpa using h.2 g hg⟩
theorem Xy7(c:Cx) : opI c=opS c∧∀ m,opS c=some m→mOk m=true∧m.rows=((2^c.n.toNat:Nat) : Int):=by
 unfold opI opS
 by_cases hc:cOk c=true
 ·obtain ⟨hn,_,hg⟩:=X41 hc;obtain ⟨h1,h2⟩:=X6l (X3u hn);have h3:=Xcn c.gs _ hg h2 rfl
  rw [if_pos hc,if_pos hc,h1,Option.bind_some]
  cases h4:applI c.n c.gs (unitS (2^c.n.toNat)) with
  | none=>rw [h3.2 h4,if_pos rfl];exact ⟨rfl,fun m h=>by cases h⟩
  | some m'=>
   obtain ⟨h5,h6,h7⟩:=h3.1 m' h4
   rw [h5,if_neg (show ¬ (false=true) by decide)]
   exact ⟨rfl,fun m h=>(by injection h with h;subst h;exact ⟨h6,h7⟩)⟩
 ·rw [if_neg hc,if_neg hc]
  exact ⟨rfl,fun m h=>by cases h⟩
theorem Xcr{x:Rg}(h:rOk x=true) : rEven x=true↔(x.a+x.c) % 2=0∧(x.b+x.d) % 2=0:=by
 rw [X3e] at h
 unfold rEven
 rw [X0s (by omega) (by omega),X0s (by omega) (by omega)]
 simp only [Bool.and_eq_true,beq_iff_eq]
 have key:∀ i:Int,i.tmod 2=0↔i % 2=0:=fun i=>by
  rw [← Int.dvd_iff_tmod_eq_zero,← Int.dvd_iff_emod_eq_zero]
 rw [key,key]
def sameI(a b:Cx) : Bool×Bool:=
 if ((opI a).isSome&&(opI b).isSome&&a.n==b.n)=true then
  (mOk ((opI a).getD mZ)&&mOk ((opI b).getD mZ)&&eqPh ((opI a).getD mZ) ((opI b).getD mZ),mOk ((opI a).getD mZ)&&mOk ((opI b).getD mZ)) else (false,false)
def sameS(a b:Cx) : Bool×Bool:=
 if ((opS a).isSome&&(opS b).isSome&&a.n==b.n)=true then (phaseS ((opS a).getD mZ) ((opS b).getD mZ),true) else (false,false)
theorem Xno{n:Int}(hn:1≤n∧n≤5){g:Gt} : (gateS n g).cells.length≤2305843009213693951:=by
 have h:=Xbm hn.2
 have h2:2^n.toNat*2^n.toNat≤32*32:=Nat.mul_le_mul h h
 simp only [gateS,X9p]
 omega
theorem Xvx{m:Mx}(h:mOk m=true) : m.cells.length≤2305843009213693951:=by
 have h1:=Xay h
 have h2:m.rows.toNat*m.cols.toNat≤32*32:=Nat.mul_le_mul (by omega) (by omega)
 omega
theorem Xge{α:Type}{l:List α}{i:Nat}{u:α}(h:l[i]? = some u) : l.drop i=u::l.drop (i+1):=by
 obtain ⟨h1,h2⟩:=List.getElem?_eq_some_iff.1 h
 rw [List.drop_eq_getElem_cons h1,h2]
def unitP(d i:Nat) : List Dy:=(List.range (d*d)).map fun m=>if m/d=m % d∧m/d<i then dPow 0 else dZ
theorem Xfa:∀ (m:Nat) (x:Rg),0≤(dLow x m).exp∧(dLow x m).exp≤m
 | 0,x=>by rw [X3d (by omega)];simp
 | m+1,x=>by
  by_cases he:rEven x=true
  ·rw [X58 (by omega) he,show ((m+1:Nat) : Int)-1=(m:Int) from by omega]
   have:=Xfa m (rHalf x)
   omega
  ·rw [X3d fun _=>by simpa using he]
   dsimp only
   omega
theorem Xk7{x:Rg}{e:Int}(h0:0≤e) : 0≤(dLow x e).exp∧(dLow x e).exp≤e:=by
 obtain ⟨m,rfl⟩ : ∃ m:Nat,e=m:=⟨e.toNat,by omega⟩
 exact Xfa m x
def putI:List Int→Int→List Int
 | [],n=>[n]
 | x::l,n=>if x<n then x::putI l n else if x=n then x::l else n::x::l
def usedStep(m:List Int)(g:Gt) : List Int:=if g.k=12 then m else if inR g.k 9 11=true then putI (putI m g.a) g.b else putI m g.a
def usedS(l:List Gt) : List Int:=l.foldl usedStep []
def lastN(l:List Int)(q:Int) : Nat→Int
 | 0=>0
 | k+1=>if l.getD k 0=q then (k:Int) else lastN l q k
section
variable {us : List Int} {j : Nat} {v q x k : Int}
end
def smallG(used:List Int)(g:Gt) : Gt:=⟨g.k,if g.k=12 then 0 else lastN used g.a used.length,if inR g.k 9 11=true then lastN used g.b used.length else 0⟩
def validS(n:Int)(r:Rp) : Bool:=inR n 1 5&&inR r.pos 0 400&&(!(r.old.any fun x=>!gOk n x)&&decide ((r.old.length:Int)≤40))&&(!(r.new.any fun x=>!gOk n x)&&decide ((r.new.length:Int)≤40))
theorem Xlf(n:Int)(r:Rp) : validS n r=vrI n r:=by
 unfold validS vrI
 cases inR n 1 5<;>cases inR r.pos 0 400<;>cases (r.old.any fun x=>!gOk n x)<;>cases (r.new.any fun x=>!gOk n x)<;>cases decide ((r.old.length:Int)≤40)<;>cases decide ((r.new.length:Int)≤40)<;>rfl
abbrev Inc(l:List Int) : Prop:=l.Pairwise (· < ·)
structure GoodG (us:List Int) (n:Int) (g:Gt) : Prop where
 ok:gOk n g=true
 use:∀ x ∈ qubI g,x ∈ us
def smallC(l:List Gt)(us:List Int) : Cx:=⟨max 1 (us.length:Int),l.map (smallG us)⟩
def mapC(l:List Gt)(us:List Int) : Cx:=⟨max (us.length:Int) 1,mapI l (numbI us)⟩
def justS(r:Rp) : Bool×Bool:=sameS (smallC r.old (usedS (r.old++r.new))) (smallC r.new (usedS (r.old++r.new)))
def justI(r:Rp) : Bool×Bool:=sameI (mapC r.old (unionI (usedI r.old) (usedI r.new))) (mapC r.new (unionI (usedI r.old) (usedI r.new)))
theorem Xpx{n:Int}{r:Rp}(h:vrI n r=true) : (1≤n∧n≤5)∧(r.old.length≤40∧r.new.length≤40)∧(∀ g ∈ r.old,gOk n g=true)∧(∀ g ∈ r.new,gOk n g=true):=by
 simp only [vrI,Bool.and_eq_true,Xt,decide_eq_true_eq,Bool.not_eq_true',List.any_eq_false] at h
 refine ⟨h.1.1.1.1.1,by omega,fun g hg=>by simpa using h.1.2 g hg,fun g hg=>by simpa using h.2 g hg⟩
def implJ(n:Int)(r:Rp) : Bool×Bool:=if vrI n r=true then justI r else (false,false)
def specJ(n:Int)(r:Rp) : Bool×Bool:=if validS n r=true then justS r else (false,false)
def szG(l:List Gt)(left:Int) : Int:=if left-(l.length:Int)<0 then -1 else left-(l.length:Int)
def szR(r:Rp)(left:Int) : Int:=if szG r.old left<0 then -1 else if szG r.new (szG r.old left)<0 then -1 else szG r.new (szG r.old left)
structure Sr where (pos:Int) (A:Option Addr) (c:Nat) (old:List Gt) (B:Option Addr) (d:Nat) (new:List Gt)
def encSr(s:Sr) : List Value:=[.int .i64 s.pos,.slice s.A s.old.length s.c,.slice s.B s.new.length s.d]
abbrev Sr.rp(s:Sr) : Rp:=⟨s.pos,s.old,s.new⟩
def srZ:Sr:=⟨0,none,0,[],none,0,[]⟩
def DeepR(w:World)(B:Nat)(E:TypeId)(l:List Sr) : Prop:=∀ s ∈ l,Rd w B E encG s.A s.old∧Rd w B E encG s.B s.new
def DeepX(w:World)(B:Nat)(l:List Sr) : Prop:=∀ s ∈ l,(∃ E,Rd w B E encG s.A s.old)∧∃ E,Rd w B E encG s.B s.new
section
variable {w w' : World} {B : Nat} {E : TypeId} {l : List Sr}
theorem DeepR.below(h:DeepR w B E l)(hb:Below w.heap.size w w') : DeepR w' B E l:=fun s hs=>⟨(h s hs).1.below hb,(h s hs).2.below hb⟩
theorem DeepR.top(h:DeepR w B E l) : DeepR w w.heap.size E l:=fun s hs=>⟨(h s hs).1.top,(h s hs).2.top⟩
theorem DeepR.only{b:Nat}(h:DeepR w B E l)(ho:Only b w w')(hB:B≤b) : DeepR w' B E l:=fun s hs=>⟨(h s hs).1.only ho hB,(h s hs).2.only ho hB⟩
theorem DeepR.onlyT{b:Nat}{T:TypeId}{lc:List Value}(h:DeepR w B E l)(ho:Only b w w')(hb:Blk w b T lc)(hT:Nat.beq E T=false) : DeepR w' B E l:=fun s hs=>⟨(h s hs).1.onlyT ho hb hT,(h s hs).2.onlyT ho hb hT⟩
theorem DeepR.appB{B0:Nat}{E':TypeId}{sz:Nat}{α:Type}{enc:α→List Value}{A:Option Addr}{c:Nat}{m:List α}(h:DeepR w B E l)(ho:Own w B0 E' sz enc A c m)(hg:w.grownBy w' (Value.slice A m.length c).ownBlock)(hB:B≤B0) : DeepR w' B E l:=fun s hs=>⟨(h s hs).1.appB ho hg hB,(h s hs).2.appB ho hg hB⟩
theorem DeepR.appT{B0:Nat}{E':TypeId}{sz:Nat}{α:Type}{enc:α→List Value}{A:Option Addr}{c:Nat}{m:List α}(h:DeepR w B E l)(ho:Own w B0 E' sz enc A c m)(hg:w.grownBy w' (Value.slice A m.length c).ownBlock)(hT:Nat.beq E' E=false) : DeepR w' B E l:=fun s hs=>⟨(h s hs).1.appT ho hg hT,(h s hs).2.appT ho hg hT⟩
theorem DeepX.below(h:DeepX w B l)(hb:Below w.heap.size w w') : DeepX w' B l:=fun s hs=>⟨(h s hs).1.imp fun _ k=>k.below hb,(h s hs).2.imp fun _ k=>k.below hb⟩
theorem DeepX.top(h:DeepX w B l) : DeepX w w.heap.size l:=fun s hs=>⟨(h s hs).1.imp fun _ k=>k.top,(h s hs).2.imp fun _ k=>k.top⟩
theorem DeepX.only{b:Nat}(h:DeepX w B l)(ho:Only b w w')(hB:B≤b) : DeepX w' B l:=fun s hs=>⟨(h s hs).1.imp fun _ k=>k.only ho hB,(h s hs).2.imp fun _ k=>k.only ho hB⟩
theorem DeepX.appB{B0:Nat}{E':TypeId}{sz:Nat}{α:Type}{enc:α→List Value}{A:Option Addr}{c:Nat}{m:List α}(h:DeepX w B l)(ho:Own w B0 E' sz enc A c m)(hg:w.grownBy w' (Value.slice A m.length c).ownBlock)(hB:B≤B0) : DeepX w' B l:=fun s hs=>⟨(h s hs).1.imp fun _ k=>k.appB ho hg hB,(h s hs).2.imp fun _ k=>k.appB ho hg hB⟩
end
theorem DeepR.zero(w:World)(B:Nat)(E:TypeId)(n:Nat) : DeepR w B E (List.replicate n srZ):=fun s hs=>by
 obtain rfl:=List.eq_of_mem_replicate hs
 exact ⟨Rd.nil _ _ _ _ _,Rd.nil _ _ _ _ _⟩
theorem DeepR.set{w:World}{B:Nat}{E:TypeId}{l:List Sr}(h:DeepR w B E l){x:Sr}(h1:Rd w B E encG x.A x.old)(h2:Rd w B E encG x.B x.new)(k:Nat) : DeepR w B E (l.set k x):=fun s hs=>by
 rcases List.mem_or_eq_of_mem_set hs with hs|hs
 ·exact h s hs
 ·subst hs;exact ⟨h1,h2⟩
def cIf(c:Cx) : Option Cx:=if cOk c=true then some c else none
def midC(c:Cx)(r:Rp) : Cx:=⟨c.n,c.gs.take r.pos.toNat++(r.new++(c.gs.drop (r.pos.toNat+r.old.length)++[]))⟩
def fitI(c:Cx)(r:Rp) : Bool:=cOk c&&vrI c.n r&&decide (r.pos+(r.old.length:Int)≤(c.gs.length:Int))&&decide ((c.gs.take (r.pos.toNat+r.old.length)).drop r.pos.toNat=r.old)
def applyI(c:Cx)(r:Rp) : Option Cx:=if fitI c r=true then cIf (midC c r) else none
def fitS(c:Cx)(r:Rp) : Bool:=validS c.n r&&decide (r.pos+(r.old.length:Int)≤(c.gs.length:Int))&&decide ((c.gs.length:Int)-(r.old.length:Int)+(r.new.length:Int)≤400)
def applyS(c:Cx)(r:Rp) : Option Cx:=if fitS c r=true∧(c.gs.take (r.pos.toNat+r.old.length)).drop r.pos.toNat=r.old then some ⟨c.n,c.gs.take r.pos.toNat++r.new++c.gs.drop (r.pos.toNat+r.old.length)⟩ else none
def eqC(c d:Cx) : Bool:=c.n==d.n&&decide (c.gs=d.gs)
def checkLI(i:Nat)(c:Cx)(d:Cx) : List Rp→Int
 | []=>if eqC c d=true then 0 else (i:Int)+1
 | r::l=>if ((applyI c r).isSome&&(implJ c.n r).2&&(implJ c.n r).1)=true then checkLI (i+1) ((applyI c r).getD ⟨0,[]⟩) d l else (i:Int)+1
def checkLS(i:Nat)(c:Cx)(d:Cx) : List Rp→Int
 | []=>if eqC c d=true then 0 else (i:Int)+1
 | r::l=>if ((applyS c r).isSome&&(justS r).1&&(justS r).2)=true then checkLS (i+1) ((applyS c r).getD ⟨0,[]⟩) d l else (i:Int)+1
def checkI(c d:Cx)(l:List Rp) : Int×Bool:=if (cOk c&&decide ((l.length:Int)≤400))=true then (checkLI 0 c d l,true) else (0,false)
def checkS(c d:Cx)(l:List Rp) : Int×Bool:=if (cOk c&&decide ((l.length:Int)≤400))=true then (checkLS 0 c d l,true) else (0,false)
theorem Xns{c:Cx}{r:Rp}(hc:cOk c=true) : applyI c r=applyS c r∧∀ c',applyS c r=some c'→cOk c'=true∧c'.n=c.n∧vrI c.n r=true:=by
 obtain ⟨hn,hl,hg⟩:=X41 hc
 unfold applyI applyS fitI fitS
 rw [hc,Xlf,Bool.true_and]
 by_cases hv:vrI c.n r=true
 ·obtain ⟨_,hl2,ho,hw⟩:=Xpx hv
  have hp:0≤r.pos:=by simp only [vrI,Bool.and_eq_true,Xt] at hv;omega
  rw [hv,Bool.true_and]
  by_cases hle:r.pos+(r.old.length:Int)≤(c.gs.length:Int)
  ·rw [decide_eq_true hle,Bool.true_and,Bool.true_and]
   by_cases he:(c.gs.take (r.pos.toNat+r.old.length)).drop r.pos.toNat=r.old
   ·rw [decide_eq_true he,if_pos rfl]
    have hlen:(c.gs.take r.pos.toNat++r.new++c.gs.drop (r.pos.toNat+r.old.length)).length=c.gs.length-r.old.length+r.new.length:=by
     simp only [List.length_append,List.length_take,List.length_drop];omega
    have hall:∀ g ∈ c.gs.take r.pos.toNat++r.new++c.gs.drop (r.pos.toNat+r.old.length),gOk c.n g=true:=fun g h=>by
     rcases List.mem_append.1 h with h|h
     ·rcases List.mem_append.1 h with h|h
      ·exact hg g (List.mem_of_mem_take h)
      ·exact hw g h
     ·exact hg g (List.mem_of_mem_drop h)
    have hmid:midC c r=⟨c.n,c.gs.take r.pos.toNat++r.new++c.gs.drop (r.pos.toNat+r.old.length)⟩:=by unfold midC;simp
    by_cases h4:(c.gs.length:Int)-(r.old.length:Int)+(r.new.length:Int)≤400
    ·have hok:cOk (midC c r)=true:=by
      rw [hmid]
      have h5:((c.gs.take r.pos.toNat++r.new++c.gs.drop (r.pos.toNat+r.old.length)).any fun x=>!gOk c.n x)=false:=by
       rw [List.any_eq_false];intro x hx;simp [hall x hx]
      unfold cOk
      simp only
      rw [h5,Xt.2 hn,hlen,decide_eq_true (by omega)];rfl
     rw [cIf,if_pos hok,if_pos ⟨by simpa using h4,he⟩,hmid]
     refine ⟨rfl,fun c' h=>?_⟩
     injection h with h
     rw [← h]
     rw [hmid] at hok
     exact ⟨hok,rfl,rfl⟩
    ·have hok:¬ cOk (midC c r)=true:=fun h=>by
      obtain ⟨_,h6,_⟩:=X41 h
      rw [hmid] at h6
      simp only at h6
      rw [hlen] at h6
      omega
     rw [cIf,if_neg hok,if_neg (fun h=>h4 (by simpa using h.1))]
     exact ⟨rfl,fun c' h=>by cases h⟩
   ·rw [decide_eq_false he,if_neg (by decide),if_neg (fun h=>he h.2)]
    exact ⟨rfl,fun c' h=>by cases h⟩
  ·rw [decide_eq_false hle]
   exact ⟨rfl,fun c' h=>by simp at h⟩
 ·have hv':vrI c.n r=false:=by simpa using hv
  rw [hv']
  exact ⟨rfl,fun c' h=>by simp at h⟩
structure Sg where (A:Option Addr) (c:Nat) (l:List Gt)
def encSg(s:Sg) : List Value:=[.slice s.A s.l.length s.c]
abbrev cZ:Cx:=⟨0,[]⟩
def midS(c:Cx)(r:Rp) : Cx:=⟨c.n,c.gs.take r.pos.toNat++r.new++c.gs.drop (r.pos.toNat+r.old.length)⟩
theorem Xfl{c:Cx}{r:Rp}(h1:fitS c r=true)(h2:(c.gs.take (r.pos.toNat+r.old.length)).drop r.pos.toNat=r.old) : applyS c r=some (midS c r):=by
 unfold applyS midS
 rw [if_pos ⟨h1,h2⟩]
def szF:List Sr→Int→Int
 | [],t=>t
 | s::l,t=>if szR s.rp t<0 then -1 else szF l (szR s.rp t)
def szL(l:List Sr)(t:Int) : Int:=if t-(l.length:Int)<0 then -1 else szF l (t-(l.length:Int))
def szZ(c:Cx)(l:List Sr)(d:Cx)(t:Int) : Int:=if szG c.gs t<0 then -1 else if szL l (szG c.gs t)<0 then -1 else szG d.gs (szL l (szG c.gs t))
instance:DecidableEq Rp:=fun a b=>decidable_of_iff (a.pos=b.pos∧a.old=b.old∧a.new=b.new) (by cases a;cases b;simp)
theorem Y1p(w0:World)(c:Cx)(Ac:Option Addr)(cc:Nat)(b8:Rd w0 w0.heap.size 55 encG Ac c.gs)(m:Mx)(Am:Option Addr)(cm:Nat)(b9:Rd w0 w0.heap.size 87 encD Am m.cells)(hc:cOk c=true)(hm:mOk m=true)(hr:m.rows=((2^c.n.toNat:Nat) : Int)) : Ret Tryz.prog 44 [.agg #[vi c.n,.slice Ac c.gs.length cc],.agg #[vi m.rows,vi m.cols,.slice Am m.cells.length cm],.bool true] w0 (fun v w=>∃ A c1,v=.tuple #[mV A c1 ((applI c.n c.gs m).getD mZ),.bool (applI c.n c.gs m).isSome]∧Rd w w.heap.size 87 encD A ((applI c.n c.gs m).getD mZ).cells∧Below w0.heap.size w0 w):=by
 obtain ⟨hn,cF,bR⟩:=X41 hc;refine enter Tryz.func44 rfl 40 rfl rfl ?_;intro a y
 have f:=bz w0
 refine Zs y fun _ bS=>?_;refine Zf (X14 (zs:=[vi c.n,.slice Ac c.gs.length cc]) rfl rfl) ?_;rintro _ w1 ⟨b4,rfl,bU,d,g⟩;have cG:=Nat.le_trans f.size bU;have f:=btr f d;refine Zf (X14 (zs:=[vi m.rows,vi m.cols,.slice Am m.cells.length cm]) rfl rfl) ?_;rintro _ w2 ⟨b5,rfl,bW,d,e⟩;have bC:=Nat.le_trans f.size bW;have g:=g.below d;have f:=btr f d;refine Zf (X6 (zs:=[vi 0,vi 0,.slice none 0 0]) X4q rfl) ?_;rintro _ w3 ⟨b7,rfl,bX,d,o⟩
 have bP:b5≠b7:=by have:=e.lt;omega
 have bD:=Nat.le_trans f.size bX;have g:=g.below d;have e:=e.below d;have f:=btr f d;refine Za rfl<|ZX bS fun a y _ bY=>?_;refine Zs y fun _ bZ=>?_;refine Za rfl<|Zt bZ fun a y=>?_;refine wp_block<|X06 (σ:=Nat×Mx×Bool) (fun (s:Nat×Mx×Bool) (a:Act) (w:World)=>match s with|(i,x,b)=>∃ U aB,Fr a 40 [(2,.bool b),(3,.pointer (some ⟨b4,0,none⟩)),(4,.pointer (some ⟨b5,0,none⟩)),(6,.pointer (some ⟨b7,0,none⟩)),(8,vi (i:Int))]∧((if b=true then applI c.n (c.gs.drop i) x else none)=(applI c.n c.gs m))∧(b=false→x=mZ)∧(b=true→mOk x=true∧x.rows=((2^c.n.toNat:Nat) : Int))∧(i≤c.gs.length)∧Blk w b4 25 [vi c.n,.slice Ac c.gs.length cc]∧Blk w b5 42 [vi x.rows,vi x.cols,.slice U x.cells.length aB]∧Blk w b7 42 [vi 0,vi 0,.slice none 0 0]∧Rd w w.heap.size 87 encD U x.cells∧Below w0.heap.size w0 w) (fun (s:Nat×Mx×Bool)=>match s with|(i,x,b)=>c.gs.length-i) (0,m,true) ?_ ?_
 ·exact ⟨Am,cm,y.sb,rfl,(by simp),(fun _=>⟨hm,hr⟩),(Nat.zero_le _),g,e,o,(b9.below' f).top,f⟩
 rintro ⟨i,x,b⟩ a w4 ⟨U,aB,y,aQ,hz,aT,hi,g,e,o,E,f⟩;refine wp_seq_k fun _ bE=>?_;refine wp_seq_k fun _ bF=>?_;refine X0j (fun a w=>Fr a 40 [(2,.bool b),(3,.pointer (some ⟨b4,0,none⟩)),(4,.pointer (some ⟨b5,0,none⟩)),(6,.pointer (some ⟨b7,0,none⟩)),(8,vi (i:Int)),(18,.bool ((decide ((i:Int)<(c.gs.length:Int)))&&b))]∧w4=w) ?_ ?_
 ·refine Zr y<|Zm rfl<|Ze (Vd rfl X2d 1)<|Ze (X0 rfl X66 (g.at 1))<|Ze (X1f rfl X3c)<|Ze (X1n rfl rfl) ?_;refine Zm rfl ?_
  refine Zg 16 rfl (fun B=>?_) (fun B=>?_)
  ·refine Zv (gW B) (X4 rfl) ?_;refine Ze (X5 rfl B rfl) ?_;refine Zn fun a y=>?_;exact ⟨y.sub ⟨rfl,rfl,rfl,rfl,rfl,X1 rfl (by first|rfl|(simp only [B,bs];done)|simp [B]),trivial⟩,rfl⟩
  refine Zp (gP B) ?_;refine Ze (Xc rfl B rfl) ?_;refine Zn fun a y=>?_;exact ⟨y.sub ⟨rfl,rfl,rfl,rfl,rfl,X1 rfl (by first|rfl|(simp only [B,bs];done)|simp [B]),trivial⟩,rfl⟩
 rintro a _ ⟨y,rfl⟩;refine bF _ _ ?_
 refine Xg y rfl (fun J=>?_) (fun J=>?_)
 ·have aU:=J
  have c4:(i:Int)<c.gs.length∧b=true:=by simpa using J
  have aJ:=c4.2
  obtain ⟨u,hu⟩:=Xm (l:=c.gs) (k:=i) (by omega)
  have cA:=bR u (List.mem_of_getElem? hu);obtain ⟨bG,cC⟩:=X5x cA
  have bH:=X9u cC (aT aJ).1 (by rw [(aT aJ).2];rfl)
  have cD:=Xge hu;refine wp_skip<|bE _ _<|wp_seq_k fun _ bJ=>?_;refine wp_block<|wp_seq_k fun _ bK=>?_;refine X0j (fun a w=>∃ q C D,Fr a 40 [(3,.pointer (some ⟨b4,0,none⟩)),(4,.pointer (some ⟨b5,0,none⟩)),(6,.pointer (some ⟨b7,0,none⟩)),(8,vi (i:Int)),(9,.pointer (some ⟨q,0,none⟩))]∧w0.heap.size≤q∧Blk w q 42 [vi (((gateI c.n u).getD mZ).rows),vi (((gateI c.n u).getD mZ).cols),.slice C (((gateI c.n u).getD mZ).cells).length D]∧b5≠q∧b7≠q∧Own w w0.heap.size 87 5 encD C D (((gateI c.n u).getD mZ).cells)∧Below w4.heap.size w4 w) ?_ ?_
  ·have p:Below w4.heap.size w4 w4:=Below.refl _ _
   refine Xq none (fun j=>[12].contains j) mixed ?_;intro w5 d;have g:=g.below d;have e:=e.below d;have o:=o.below d;have f:=btr f d;have p:=btr p d;refine Yb y<|Yo 0 rfl (fun _=>Vd rfl X3h 0)<|Ye 1 rfl (X0 rfl X2 (g.at 0))<|Yo 2 rfl (fun _=>Vd rfl X2d 1)<|Ye 3 rfl (X0 rfl X66 (g.at 1))<|Yo 4 rfl (fun _=>X4 rfl) ?_;refine Yi (k:=i) (u:=u) (enc:=encG) (l:=c.gs) 5 rfl trivial rfl rfl X3c X2q X3n (b8.below' f) hu rfl ?_;intro cH aW;refine Ye 6 rfl (X0b (l:=[vi u.k,vi u.a,vi u.b]) rfl X23 aW rfl) ?_
   have t:Below w5.heap.size w5 w5:=Below.refl _ _
   refine Yc [0,1,2,3,4,5,6,7,8,9,10,11] 2 (fun a w=>∃ q C D,Fr a 40 [(3,.pointer (some ⟨b4,0,none⟩)),(4,.pointer (some ⟨b5,0,none⟩)),(6,.pointer (some ⟨b7,0,none⟩)),(8,vi (i:Int)),(9,.pointer (some ⟨q,0,none⟩)),(30,.agg #[vi (((gateI c.n u).getD mZ).rows),vi (((gateI c.n u).getD mZ).cols),.slice C (((gateI c.n u).getD mZ).cells).length D]),(31,.bool ((gateI c.n u).isSome))]∧w0.heap.size≤q∧Blk w q 42 [vi 0,vi 0,.slice none 0 0]∧b5≠q∧b7≠q∧w5.heap.size≤q∧w4.heap.size≤q∧Own w w0.heap.size 87 5 encD C D (((gateI c.n u).getD mZ).cells)∧Below w5.heap.size w5 w) ?_ ?_
   ·rintro a w6 ⟨q,C,D,y,W,G,L,M,aX,aY,N,d⟩;clear t;have t:=d;have f:=btr f d;have p:=btr p d;refine Yb y<|Y1 12<|Yh rfl trivial rfl (Vw [vi (((gateI c.n u).getD mZ).rows),vi (((gateI c.n u).getD mZ).cols),.slice C (((gateI c.n u).getD mZ).cells).length D] X28 G) ?_;rintro _ w7 ⟨ho,hb⟩;have H:=G;have N:=N.onlyT ho H rfl;have p:=Below.only p ho aY;have t:=Below.only t ho aX;have f:=Below.only f ho W;have G:=hb;refine Yo 13 rfl (fun _=>X19 rfl) ?_;refine Yd fun a y=>?_
    have cE:Below w4.heap.size w4 w7:=p
    exact ⟨q,C,D,y.sb,W,G,L,M,N,cE⟩
   intro aR;refine Y2 7 11 ?_ ?_
   ·refine Yk rfl trivial (Vc (Xys _ c.n u) Xn0) (fun _ _ ⟨aK,aL,_,I,d⟩=>d) ?_;rintro _ w8 ⟨aK,aL,rfl,I,d⟩;have I:=I.lower f.size;have e:=e.below d;have o:=o.below d;have f:=btr f d;have p:=btr p d;have t:=btr t d;refine Yo 8 rfl (fun _=>X4 rfl)<|Yo 9 rfl (fun _=>X8 (vs:=[.agg #[vi (((gateI c.n u).getD mZ).rows),vi (((gateI c.n u).getD mZ).cols),.slice aK (((gateI c.n u).getD mZ).cells).length aL],.bool ((gateI c.n u).isSome)]) rfl rfl)<|Yo 10 rfl (fun _=>X8 (vs:=[.agg #[vi (((gateI c.n u).getD mZ).rows),vi (((gateI c.n u).getD mZ).cols),.slice aK (((gateI c.n u).getD mZ).cells).length aL],.bool ((gateI c.n u).isSome)]) rfl rfl)<|Y1 11 ?_;refine Yk rfl trivial (X6 (zs:=[vi 0,vi 0,.slice none 0 0]) X4q rfl) (fun _ _ ⟨_,_,_,h,_⟩=>h) ?_;rintro _ w9 ⟨b23,rfl,aC,d,bL⟩
    have aD:b5≠b23:=by have:=e.lt;omega
    have aE:b7≠b23:=by have:=o.lt;omega
    have aZ:=Nat.le_trans f.size aC;have b0:=Nat.le_trans p.size aC;have b1:=Nat.le_trans t.size aC;have I:=I.below d;have f:=btr f d;have p:=btr p d;have t:=btr t d;exact fun a y=>aR _ a _ rfl ⟨b23,aK,aL,y.sb,aZ,bL,aD,aE,b1,b0,I,t⟩
   refine Yk rfl trivial (X6 (zs:=[vi 0,vi 0,.slice none 0 0]) X4q rfl) (fun _ _ ⟨_,_,_,h,_⟩=>h) ?_;rintro _ cJ ⟨b25,rfl,aF,d,aG⟩
   have aH:b5≠b25:=by have:=e.lt;omega
   have aI:b7≠b25:=by have:=o.lt;omega
   have b2:=Nat.le_trans f.size aF;have b3:=Nat.le_trans p.size aF;have b6:=Nat.le_trans t.size aF;have f:=btr f d;have p:=btr p d;have t:=btr t d;refine Y1 7<|Yk rfl trivial (Vc (Xys _ c.n u) Xn0) (fun _ _ ⟨aM,aN,_,aA,d⟩=>d) ?_;rintro _ cK ⟨aM,aN,rfl,aA,d⟩;have aA:=aA.lower f.size;have aG:=aG.below d;have f:=btr f d;have p:=btr p d;have t:=btr t d;refine Yo 8 rfl (fun _=>X4 rfl)<|Yo 9 rfl (fun _=>X8 (vs:=[.agg #[vi (((gateI c.n u).getD mZ).rows),vi (((gateI c.n u).getD mZ).cols),.slice aM (((gateI c.n u).getD mZ).cells).length aN],.bool ((gateI c.n u).isSome)]) rfl rfl)<|Yo 10 rfl (fun _=>X8 (vs:=[.agg #[vi (((gateI c.n u).getD mZ).rows),vi (((gateI c.n u).getD mZ).cols),.slice aM (((gateI c.n u).getD mZ).cells).length aN],.bool ((gateI c.n u).isSome)]) rfl rfl) ?_;exact fun a y=>aR _ a _ rfl ⟨b25,aM,aN,y.sb,b2,aG,aH,aI,b6,b3,aA,t⟩
  rintro a cL ⟨q,C,D,y,W,G,L,M,N,d⟩;have g:=g.below d;have e:=e.below d;have o:=o.below d;have E:=E.below d;have f:=btr f d;refine bK _ _<|Zr y<|Ze (Vn X1p G)<|Ze (Vn X1p e)<|Zf (Vc (Y1k _ ((gateI c.n u).getD mZ) C D N.rd.top x U aB E.top (by rw [bG,Option.getD_some];exact Xno hn) (Xvx (aT aJ).1)) Xx6) ?_;rintro _ cM ⟨aO,aP,rfl,Q,d⟩;have Q:=Q.lower f.size;have g:=g.below d;have e:=e.below d;have o:=o.below d;have f:=btr f d;refine Zm rfl<|Ze (X8 (vs:=[.agg #[vi (((mulI ((gateI c.n u).getD mZ) x).getD mZ).rows),vi (((mulI ((gateI c.n u).getD mZ) x).getD mZ).cols),.slice aO (((mulI ((gateI c.n u).getD mZ) x).getD mZ).cells).length aP],.bool ((mulI ((gateI c.n u).getD mZ) x).isSome)]) rfl rfl)<|Ze (X8 (vs:=[.agg #[vi (((mulI ((gateI c.n u).getD mZ) x).getD mZ).rows),vi (((mulI ((gateI c.n u).getD mZ) x).getD mZ).cols),.slice aO (((mulI ((gateI c.n u).getD mZ) x).getD mZ).cells).length aP],.bool ((mulI ((gateI c.n u).getD mZ) x).isSome)]) rfl rfl)<|Zo (Vw [vi (((mulI ((gateI c.n u).getD mZ) x).getD mZ).rows),vi (((mulI ((gateI c.n u).getD mZ) x).getD mZ).cols),.slice aO (((mulI ((gateI c.n u).getD mZ) x).getD mZ).cells).length aP] X28 e) ?_;rintro _ cN ⟨ho,hb⟩;have H:=e;have g:=g.only ho (Blk.ne g H rfl);have o:=o.only ho (by omega);have Q:=Q.onlyT ho H rfl;have f:=Below.only f ho bC;have e:=hb;refine Za rfl ?_;refine Zn fun a y=>?_;refine Xa<|bJ _ _<|Zr y<|Zm rfl<|Ze (Xu rfl rfl (by omega) (by omega))<|Za rfl ?_;refine Zn fun a y=>?_;refine Xd ?_;exact ⟨(i+1,((mulI ((gateI c.n u).getD mZ) x).getD mZ),(mulI ((gateI c.n u).getD mZ) x).isSome),⟨aO,aP,y.sb,(by rw [← aQ,if_pos aJ,cD,applI];cases mulI ((gateI c.n u).getD mZ) x<;>rfl),(by cases mulI ((gateI c.n u).getD mZ) x<;>simp),(by rw [bG,Option.getD_some];intro h0;cases h1:mulI (gateS c.n u) x with|none=>rw [h1] at h0;cases h0|some x1=>exact ⟨(bH.1 x1 h1).2.1,by rw [Option.getD_some,(bH.1 x1 h1).2.2.1];rfl⟩),(by omega),g,e,o,Q.rd,f⟩,(by first|omega|(dsimp only;omega))⟩
 have aU:=J
 have bN:b=true→¬ (i:Int)<c.gs.length:=by intro h0;subst h0;simpa using J
 refine wp_exit<|Xi<|Xi<|X03 ?_;refine bY _ _<|Zs y fun _ bO=>?_;refine Ze (Vn X1p e)<|Zm rfl<|Zo (Vw [vi x.rows,vi x.cols,.slice U x.cells.length aB] X28 o) ?_;rintro _ cO ⟨ho,hb⟩;have H:=o;have E:=E.onlyT ho H rfl;have f:=Below.only f ho bD;have o:=hb;refine Za rfl<|Zt bO fun a y=>?_
 refine wp_ret (X3 y (X1m y rfl (ResV.cellN (l:=[vi x.rows,vi x.cols,.slice U x.cells.length aB]) rfl X1p (o.at 0) rfl) rfl) ?_)
 have aS:applI c.n c.gs m=if b=true then some x else none:=by rw [← aQ];cases b with|false=>rfl|true=>rw [if_pos rfl,if_pos rfl,List.drop_of_length_le (by have:=bN rfl;omega)];rfl
 have h1:(applI c.n c.gs m).getD mZ=x:=by rw [aS];cases b with|false=>exact (hz rfl).symm|true=>rfl
 have h2:(applI c.n c.gs m).isSome=b:=by rw [aS];cases b<;>rfl
 rw [h1,h2]
 exact ⟨U,aB,rfl,E.top,f⟩
theorem Xy2(w0:World)(d:Nat)(h:isDimB (d:Int)=true) : Ret Tryz.prog 43 [vi (d:Int)] w0 (fun v w=>∃ A c,v=.tuple #[mV A c (unitS d),.bool true]∧Own w w0.heap.size 87 5 encD A c (unitS d).cells∧Below w0.heap.size w0 w):=by
 have h1:=Y0z w0 (d:Int)
 rw [(X6l h).1] at h1
 exact h1
theorem F97(w0:World)(c:Cx)(Ac:Option Addr)(cc:Nat)(C:Rd w0 w0.heap.size 55 encG Ac c.gs)(aG:c.gs.length≤2305843009213693951) : Ret Tryz.prog 13 [.agg #[vi c.n,.slice Ac c.gs.length cc]] w0 (fun v w=>∃ A c1,v=.tuple #[mV A c1 ((opI c).getD mZ),.bool (opI c).isSome]∧Rd w w.heap.size 87 encD A ((opI c).getD mZ).cells∧Below w0.heap.size w0 w):=by
 refine enter Tryz.func13 rfl 23 rfl rfl ?_;intro a k
 have f:=bz w0
 refine Zs k fun _ aH=>?_;refine Zf (X14 (zs:=[vi c.n,.slice Ac c.gs.length cc]) rfl rfl) ?_;rintro _ w1 ⟨b3,rfl,aI,i,e⟩;have aN:=Nat.le_trans f.size aI;have f:=btr f i;refine Zf (X6 (zs:=[vi 0,vi 0,.slice none 0 0]) X4q rfl) ?_;rintro _ w2 ⟨b5,rfl,aJ,i,b⟩;have E:=Nat.le_trans f.size aJ;have e:=e.below i;have f:=btr f i;refine Za rfl<|ZX aH fun a k _ aK=>?_;refine Zs k fun _ aL=>?_;refine Ze (Vn X2r e)<|Zf (Vc (F55 _ c Ac cc (C.below' f).top aG) Xtk) ?_;rintro _ w3 ⟨rfl,i⟩;have e:=e.below i;have b:=b.below i;have f:=btr f i;refine Ze (X1c rfl)<|Zt aL fun a k=>?_
 refine Xg k rfl (fun p=>?_) (fun p=>?_)
 ·have aB:=p
  have hn:¬ cOk c=true:=by revert p;cases cOk c<;>simp
  refine Zs k fun _ aM=>?_;refine Ze (Xk (ps:=[]) (cs:=[vi 0,vi 0,.slice none 0 0]) rfl (fun _=>by first|rfl|kernel_rfl))<|Zo (Vw [vi 0,vi 0,.slice none 0 0] X28 b) ?_;rintro _ w4 ⟨y,hb⟩;have j:=b;have f:=Below.only f y E;have b:=hb;refine Za rfl<|Zt aM fun a k=>?_;refine wp_ret<|X7<|X3 k (X1m k rfl (ResV.cellN (l:=[vi 0,vi 0,.slice none 0 0]) rfl X1p (b.at 0) rfl) rfl) ?_
  have q:opI c=none:=by rw [opI,if_neg hn]
  rw [q]
  exact ⟨none,0,rfl,(Rd.nil _ 0 _ _ _).top,f⟩
 have aB:=p
 have hc:cOk c=true:=by revert p;cases cOk c<;>simp
 obtain ⟨hn,aO,aP⟩:=X41 hc
 obtain ⟨d,hd⟩ : ∃ d:Nat,d=2^c.n.toNat:=⟨_,rfl⟩
 refine wp_skip<|aK _ _<|Zs k fun _ aC=>?_;refine Ze (Vd rfl X3h 0)<|Ze (X0 rfl X2 (e.at 0))<|Ze (Xg8 (m:=c.n.toNat) (D:=d) rfl rfl (by omega) ⟨hd,by omega⟩)<|Zf (Vc (Xy2 _ d (by rw [hd];exact X3u hn)) Xuq) ?_;rintro _ w5 ⟨h,B,rfl,g,i⟩;have g:=g.lower f.size;have e:=e.below i;have b:=b.below i;have f:=btr f i;refine Zm rfl<|Ze (X8 (vs:=[.agg #[vi ((unitS d).rows),vi ((unitS d).cols),.slice h ((unitS d).cells).length B],.bool true]) rfl rfl)<|Ze (X8 (vs:=[.agg #[vi ((unitS d).rows),vi ((unitS d).cols),.slice h ((unitS d).cells).length B],.bool true]) rfl rfl)<|Zf (X6 (zs:=[vi 0,vi 0,.slice none 0 0]) X4q rfl) ?_;rintro _ w6 ⟨b14,rfl,aD,i,o⟩
 have aE:b5≠b14:=by have:=b.lt;omega
 have aA:=Nat.le_trans f.size aD;have e:=e.below i;have b:=b.below i;have g:=g.below i;have f:=btr f i;refine Zo (Vw [vi ((unitS d).rows),vi ((unitS d).cols),.slice h ((unitS d).cells).length B] X28 o) ?_;rintro _ w7 ⟨y,hb⟩;have j:=o;have e:=e.only y (Blk.ne e j rfl);have b:=b.only y (by omega);have g:=g.onlyT y j rfl;have f:=Below.only f y aA;have o:=hb;refine Za rfl<|Zx aC fun a k _ aF=>?_;refine Ze (Vn X2r e)<|Ze (Vn X1p o)<|Zm rfl<|Zf (Vc (Y1p _ c Ac cc (C.below' f).top (unitS d) h B g.rd.top hc (X6l (by rw [hd];exact X3u hn)).2 (by rw [← hd];rfl)) Xvc) ?_;rintro _ w8 ⟨t,u,rfl,x,i⟩;have b:=b.below i;have f:=btr f i;refine Ze (X8 (vs:=[.agg #[vi (((applI c.n c.gs (unitS d)).getD mZ).rows),vi (((applI c.n c.gs (unitS d)).getD mZ).cols),.slice t (((applI c.n c.gs (unitS d)).getD mZ).cells).length u],.bool ((applI c.n c.gs (unitS d)).isSome)]) rfl rfl)<|Ze (X8 (vs:=[.agg #[vi (((applI c.n c.gs (unitS d)).getD mZ).rows),vi (((applI c.n c.gs (unitS d)).getD mZ).cols),.slice t (((applI c.n c.gs (unitS d)).getD mZ).cells).length u],.bool ((applI c.n c.gs (unitS d)).isSome)]) rfl rfl)<|Zo (Vw [vi (((applI c.n c.gs (unitS d)).getD mZ).rows),vi (((applI c.n c.gs (unitS d)).getD mZ).cols),.slice t (((applI c.n c.gs (unitS d)).getD mZ).cells).length u] X28 b) ?_;rintro _ w9 ⟨y,hb⟩;have j:=b;have x:=x.onlyT y j rfl;have f:=Below.only f y E;have b:=hb;refine Za rfl<|Zt aF fun a k=>?_
 refine wp_ret (X3 k (X1m k rfl (ResV.cellN (l:=[vi (((applI c.n c.gs (unitS d)).getD mZ).rows),vi (((applI c.n c.gs (unitS d)).getD mZ).cols),.slice t (((applI c.n c.gs (unitS d)).getD mZ).cells).length u]) rfl X1p (b.at 0) rfl) rfl) ?_)
 have q:opI c=applI c.n c.gs (unitS d):=by rw [opI,if_pos hc,← hd,(X6l (by rw [hd];exact X3u hn)).1];rfl
 rw [q]
 exact ⟨t,u,rfl,x.top,f⟩
def comS(g h:Gt) : Bool:=(qubI g).any fun x=>(qubI h).any fun y=>y==x
def comI(g h:Gt) : Bool:=(qubI g).any fun x=>(qubI h).any fun y=>x==y
theorem Xdj{g h:Gt} : comI g h=true↔∃ x,x ∈ qubI g∧x ∈ qubI h:=by
 simp only [comI,List.any_eq_true,beq_iff_eq]
 exact ⟨fun ⟨x,h1,y,h2,e⟩=>⟨x,h1,e▸h2⟩,fun ⟨x,h1,h2⟩=>⟨x,h1,x,h2,rfl⟩⟩
theorem Xn7{g h:Gt} : comS g h=true↔∃ x,x ∈ qubI g∧x ∈ qubI h:=by
 simp only [comS,List.any_eq_true,beq_iff_eq]
 exact ⟨fun ⟨x,h1,y,h2,e⟩=>⟨x,h1,e▸h2⟩,fun ⟨x,h1,h2⟩=>⟨x,h1,x,h2,rfl⟩⟩
theorem Xlu(g h:Gt) : comS g h=comI h g:=by
 rw [Bool.eq_iff_iff,Xn7,Xdj]
 exact ⟨fun ⟨x,a,b⟩=>⟨x,b,a⟩,fun ⟨x,a,b⟩=>⟨x,b,a⟩⟩
section
variable {p q : Mx}
theorem Xv2(h:(p.rows != q.rows||p.cols != q.cols||(p.cells.length:Int) != (q.cells.length:Int))=true) : (decide (p.rows=q.rows)&&decide (p.cols=q.cols)&&decide (p.cells=q.cells))=false:=by
 rw [Bool.eq_false_iff]
 intro h2
 simp only [Bool.and_eq_true,decide_eq_true_eq] at h2
 obtain ⟨⟨h3,h4⟩,h5⟩:=h2
 rw [h3,h4,h5] at h
 simp at h
theorem Xnj(h:(p.rows != q.rows||p.cols != q.cols||(p.cells.length:Int) != (q.cells.length:Int))=false) : p.rows=q.rows∧p.cols=q.cols∧p.cells.length=q.cells.length:=by
 simp only [Bool.or_eq_false_iff,bne_eq_false_iff_eq] at h
 exact ⟨h.1.1,h.1.2,by omega⟩
theorem Xp9{k:Nat}{u v:Dy}(hu:p.cells[k]? = some u)(hv:q.cells[k]? = some v)(h:¬ u=v) : (decide (p.rows=q.rows)&&decide (p.cols=q.cols)&&decide (p.cells=q.cells))=false:=by
 rw [Bool.eq_false_iff]
 intro h2
 simp only [Bool.and_eq_true,decide_eq_true_eq] at h2
 rw [h2.2,hv] at hu
 injection hu with hu
 exact h hu.symm
end
def gZ:Gt:=⟨0,0,0⟩
def eqM(p q:Mx) : Bool:=decide (p.rows=q.rows)&&decide (p.cols=q.cols)&&decide (p.cells=q.cells)
def unionS(g h:Gt) : List Int:=(qubI g++qubI h).foldl putI []
structure PairOk (us:List Int) (g h:Gt) : Prop where
 inc:Inc us
 low:∀ x ∈ us,0≤x∧x≤4
 one:1≤us.length
 len:us.length≤5
 gk:¬ g.k=12
 hk:¬ h.k=12
 ga:g.a ∈ us
 ha:h.a ∈ us
 gb:inR g.k 9 11=true→g.b ∈ us
 hb:inR h.k 9 11=true→h.b ∈ us
 gs:gOk (us.length:Int) (smallG us g)=true
 hs:gOk (us.length:Int) (smallG us h)=true
def commS(g h:Gt) : Bool:=if comS g h=true then
  eqM (timesS false (gateS ((unionS g h).length:Int) (smallG (unionS g h) g)) (gateS ((unionS g h).length:Int) (smallG (unionS g h) h))).2
   (timesS (timesS false (gateS ((unionS g h).length:Int) (smallG (unionS g h) g)) (gateS ((unionS g h).length:Int) (smallG (unionS g h) h))).1 (gateS ((unionS g h).length:Int) (smallG (unionS g h) h)) (gateS ((unionS g h).length:Int) (smallG (unionS g h) g))).2
 else true
def commI(g h:Gt) : Bool:=if comI g h=true then
  eqM ((opI ⟨((unionI (qubI g) (qubI h)).length:Int),mapI [g,h] (numbI (unionI (qubI g) (qubI h)))⟩).getD mZ) ((opI ⟨((unionI (qubI g) (qubI h)).length:Int),[mapG (numbI (unionI (qubI g) (qubI h))) h,mapG (numbI (unionI (qubI g) (qubI h))) g]⟩).getD mZ)
 else true
section
variable (gs : List Gt) (s : List Int) (g : Gt) (x : Int)
def pA(j:Nat) : Bool:=decide (x≤s.getD j 0)&&!commS g (gs.getD j gZ)
def pB(j:Nat) : Bool:=s.getD j 0==x&&comS g (gs.getD j gZ)
def faultG(i:Nat) : Int:=if g.k=12 then (if x=0 then 0 else 1) else if inR x 1 400=true then (if (List.range i).any (pA gs s g x)=true then 2 else if (List.range i).any (pB gs s g x)=true then 3 else 0) else 1
def faultS(i:Nat) : Int:=faultG gs s (gs.getD i gZ) (s.getD i 0) i
def qA(j:Nat) : Bool:=!commI (gs.getD j gZ) g&&decide (x≤s.getD j 0)
def qB(j:Nat) : Bool:=s.getD j 0==x&&comI (gs.getD j gZ) g
def faultH(i:Nat) : Int:=if (g.k==12&&x != 0||g.k != 12&&!inR x 1 400)=true then 1 else if (List.range i).any (qA gs s g x)=true then 2 else if (List.range i).any (qB gs s g x)=true then 3 else 0
def faultI(i:Nat) : Int:=faultH gs s (gs.getD i gZ) (s.getD i 0) i
end
def firstF(f:Nat→Int) : Nat→Nat→Int×Int
 | 0,_=>(0,0)
 | n+1,i=>if f i=0 then firstF f n (i+1) else (f i,(i:Int))
def schedS(gs:List Gt)(s:List Int) : Int×Int:=if s.length=gs.length then firstF (faultS gs s) gs.length 0 else (1,0)
def schedI(gs:List Gt)(s:List Int) : Int×Int:=if s.length=gs.length then firstF (faultI gs s) gs.length 0 else (1,0)
def specC(c:Cx)(s:List Int) : Int×Int×Bool:=if cOk c=true then ((schedS c.gs s).1,(schedS c.gs s).2,true) else (0,0,false)
def implC(c:Cx)(s:List Int) : Int×Int×Bool:=if cOk c=true then ((schedI c.gs s).1,(schedI c.gs s).2,true) else (0,0,false)
section
variable {f : Nat → Int} {n i : Nat} {r : Int × Int} {x : Int}
end
section
variable {p : Nat → Bool} {i j : Nat}
end
section
variable {gs : List Gt} {s : List Int} {i : Nat} {g : Gt}
end
theorem Y1t(B:World)(p:Mx)(Ap:Option Addr)(cp:Nat)(aG:Rd B B.heap.size 87 encD Ap p.cells)(q:Mx)(Aq:Option Addr)(cq:Nat)(aH:Rd B B.heap.size 87 encD Aq q.cells)(b2:p.cells.length≤2305843009213693951) : Ret Tryz.prog 14 [.agg #[vi p.rows,vi p.cols,.slice Ap p.cells.length cp],.agg #[vi q.rows,vi q.cols,.slice Aq q.cells.length cq]] B (fun v w=>v=.bool (decide (p.rows=q.rows)&&decide (p.cols=q.cols)&&decide (p.cells=q.cells))∧Below B.heap.size B w):=by
 refine enter Tryz.func14 rfl 45 rfl rfl ?_;intro a g
 have x:=bz B
 refine Zs g fun _ aT=>?_;refine Zf (X14 (zs:=[vi p.rows,vi p.cols,.slice Ap p.cells.length cp]) rfl rfl) ?_;rintro _ w1 ⟨b4,rfl,aU,C,i⟩;have b0:=Nat.le_trans x.size aU;have x:=btr x C;refine Zf (X14 (zs:=[vi q.rows,vi q.cols,.slice Aq q.cells.length cq]) rfl rfl) ?_;rintro _ w2 ⟨b5,rfl,aW,C,m⟩
 have aS:b4≠b5:=by have:=i.lt;omega
 have b1:=Nat.le_trans x.size aW;have i:=i.below C;have x:=btr x C;refine Za rfl<|ZX aT fun a g _ aX=>?_;refine wp_seq_k fun _ aY=>?_;refine X0j (fun a w=>Fr a 45 [(2,.pointer (some ⟨b4,0,none⟩)),(3,.pointer (some ⟨b5,0,none⟩)),(26,.bool (((p.rows != q.rows)||(p.cols != q.cols))||((p.cells.length:Int) != (q.cells.length:Int))))]∧w2=w) ?_ ?_
 ·refine Zr g<|Ze (Vd rfl X5d 0)<|Ze (X0 rfl X2 (i.at 0))<|Ze (Vd rfl X5d 0)<|Ze (X0 rfl X2 (m.at 0))<|Ze (X4v rfl rfl) ?_;refine Zm rfl ?_
  refine Zg 11 rfl (fun f=>?_) (fun f=>?_)
  ·refine Zp (gP f) ?_;refine Zp (gP f) ?_;refine Zp (gP f) ?_;refine Zp (gP f) ?_;refine Zp (gP f) ?_;refine Ze (X5 rfl f rfl)<|Zm rfl<|Zp (gP rfl) ?_;refine Zp (gP rfl) ?_;refine Zp (gP rfl) ?_;refine Zp (gP rfl) ?_;refine Zp (gP rfl) ?_;refine Zp (gP rfl) ?_;refine Zp (gP rfl) ?_;refine Ze (X5 rfl rfl rfl) ?_;refine Zn fun a g=>?_;exact ⟨g.sub ⟨rfl,rfl,X1 rfl (by first|rfl|(simp only [f,bs];done)|simp [f]),trivial⟩,rfl⟩
  refine Zv (gW f) (Vd rfl X40 1) ?_;refine Zv (gW f) (X0 rfl X2 (i.at 1)) ?_;refine Zv (gW f) (Vd rfl X40 1) ?_;refine Zv (gW f) (X0 rfl X2 (m.at 1)) ?_;refine Zv (gW f) (X4v rfl rfl) ?_;refine Ze (Xc rfl f rfl)<|Zm rfl ?_
  refine Zg 18 rfl (fun e=>?_) (fun e=>?_)
  ·refine Zp (gP e) ?_;refine Zp (gP e) ?_;refine Zp (gP e) ?_;refine Zp (gP e) ?_;refine Zp (gP e) ?_;refine Zp (gP e) ?_;refine Zp (gP e) ?_;refine Ze (X5 rfl e rfl) ?_;refine Zn fun a g=>?_;exact ⟨g.sub ⟨rfl,rfl,X1 rfl (by first|rfl|(simp only [f,e,bs];done)|simp [f,e]),trivial⟩,rfl⟩
  refine Zv (gW e) (Vd rfl X2n 2) ?_;refine Zv (gW e) (X0 rfl X54 (i.at 2)) ?_;refine Zv (gW e) (X1f rfl X3v) ?_;refine Zv (gW e) (Vd rfl X2n 2) ?_;refine Zv (gW e) (X0 rfl X54 (m.at 2)) ?_;refine Zv (gW e) (X1f rfl X3v) ?_;refine Zv (gW e) (X4v rfl rfl) ?_;refine Ze (Xc rfl e rfl) ?_;refine Zn fun a g=>?_;exact ⟨g.sub ⟨rfl,rfl,X1 rfl (by first|rfl|(simp only [f,e,bs];done)|simp [f,e]),trivial⟩,rfl⟩
 rintro a _ ⟨g,rfl⟩;refine aY _ _ ?_
 refine Xg g rfl (fun n=>?_) (fun n=>?_)
 ·have aA:=n
  have y:(decide (p.rows=q.rows)&&decide (p.cols=q.cols)&&decide (p.cells=q.cells))=false:=Xv2 n
  refine Zs g fun _ aI=>?_;refine Za rfl<|Zt aI fun a g=>?_;refine wp_ret<|X7<|X3 g (Xz g rfl rfl) ?_;exact ⟨by rw [y],x⟩
 have aA:=n;obtain ⟨e1,e2,e3⟩:=Xnj n;refine wp_skip<|aX _ _<|wp_seq_k fun _ aJ=>?_;refine Zs g fun _ aK=>?_;refine Ze (Vd rfl X2n 2)<|Ze (X0 rfl X54 (i.at 2))<|Ze (X1f rfl X3v)<|Zm rfl<|Zt aK fun a g=>?_;refine wp_block<|X06 (σ:=Nat) (fun (k:Nat) (a:Act) (w:World)=>Fr a 45 [(2,.pointer (some ⟨b4,0,none⟩)),(3,.pointer (some ⟨b5,0,none⟩)),(29,vi (p.cells.length:Int)),(30,vi (k:Int))]∧(k≤p.cells.length)∧(p.cells.take k=q.cells.take k)∧Blk w b4 42 [vi p.rows,vi p.cols,.slice Ap p.cells.length cp]∧Blk w b5 42 [vi q.rows,vi q.cols,.slice Aq q.cells.length cq]∧Below B.heap.size B w) (fun (k:Nat)=>p.cells.length-k) 0 ?_ ?_
 ·exact ⟨g.sb,(Nat.zero_le _),(by simp),i,m,x⟩
 rintro k a w3 ⟨g,hk,h,i,m,x⟩;refine Zs g fun _ aL=>?_;refine Ze (X1n rfl rfl)<|ZX aL fun a g _ aM=>?_
 refine Xg g rfl (fun j=>?_) (fun j=>?_)
 ·have aB:=j;have j:=of_decide_eq_true j
  obtain ⟨o,A⟩:=Xm (l:=p.cells) (k:=k) (by omega)
  obtain ⟨v9,aC⟩:=Xm (l:=q.cells) (k:=k) (by omega)
  refine wp_skip<|aM _ _<|wp_seq_k fun _ aN=>?_;refine wp_block<|Zs g fun _ aO=>?_;refine Zm rfl<|Za rfl<|ZX aO fun a g _ aP=>?_;refine Xq none (fun _=>false) mixed ?_;intro w4 C;have i:=i.below C;have m:=m.below C;have x:=btr x C;refine Yb g<|Yo 0 rfl (fun _=>Vd rfl X2n 2)<|Ye 1 rfl (X0 rfl X54 (i.at 2))<|Yo 2 rfl (fun _=>X4 rfl)<|Yi (k:=k) (u:=o) (enc:=encD) (l:=p.cells) 3 rfl trivial rfl rfl X3v X0u X5m (aG.below' x) A rfl ?_;intro b3 aD;refine Ye 4 rfl (X0b (l:=[vi o.num.a,vi o.num.b,vi o.num.c,vi o.num.d,vi o.exp]) rfl X0i aD rfl)<|Yo 5 rfl (fun _=>Vd rfl X2n 2)<|Ye 6 rfl (X0 rfl X54 (m.at 2))<|Yo 7 rfl (fun _=>X4 rfl)<|Yi (k:=k) (u:=v9) (enc:=encD) (l:=q.cells) 8 rfl trivial rfl rfl X3v X0u X5m (aH.below' x) aC rfl ?_;intro b6 aE;refine Ye 9 rfl (X0b (l:=[vi v9.num.a,vi v9.num.b,vi v9.num.c,vi v9.num.d,vi v9.exp]) rfl X0i aE rfl)<|Yo 10 rfl (fun _=>Xn6 rfl rfl Xvg (fun w=>eqD 9997 o v9 w)) ?_;refine Yd fun a g=>?_;refine aP _ _ ?_
  refine Xg g rfl (fun t=>?_) (fun t=>?_)
  ·have aF:=t
   have y:(decide (p.rows=q.rows)&&decide (p.cols=q.cols)&&decide (p.cells=q.cells))=false:=Xp9 A aC (by simpa using t)
   refine Zs g fun _ aQ=>?_;refine Za rfl<|Zt aQ fun a g=>?_;refine wp_ret<|Xw<|X7<|X7 ?_;refine Xw<|X7<|X3 g (Xz g rfl rfl) ?_;exact ⟨by rw [y],x⟩
  have aF:=t
  have aZ:o=v9:=by simpa using t
  refine wp_skip<|Xa<|aN _ _<|Zr g ?_;refine Ze (Xu rfl rfl (by omega) (by omega))<|Zm rfl ?_;refine Zn fun a g=>?_;refine Xd ?_;exact ⟨k+1,⟨g.sb,(by omega),(Xrd h A aC aZ),i,m,x⟩,(by omega)⟩
 have aB:=j;have j:=of_decide_eq_false j;refine wp_exit<|Xi<|Xi<|X03 ?_;refine aJ _ _<|Zs g fun _ aR=>?_;refine Za rfl<|Zt aR fun a g=>?_
 refine wp_ret (X3 g (Xz g rfl rfl) ?_)
 have he:p.cells=q.cells:=by rw [List.take_of_length_le (by omega),List.take_of_length_le (by omega)] at h;exact h
 exact ⟨by simp [e1,e2,he],x⟩
def kV(x y:Gt) : Value:=.agg #[.int .i64 x.k,.int .i64 x.a,.int .i64 x.b,.int .i64 y.k,.int .i64 y.a,.int .i64 y.b]
structure Me where (x y:Gt) (v:Bool) (born:Nat)
def entM(m:Me) : MapEntry:={ key:=kV m.x m.y,val:=.bool m.v,born:=m.born }
def findM(l:List Me)(x y:Gt) : Option Bool:=(l.find? fun m=>decide (x=m.x)&&decide (y=m.y)).map Me.v
def GoodM(l:List Me) : Prop:=∀ m ∈ l,m.v = !commI m.x m.y
def MemoL(w:World)(b:Nat)(l:List Me)(clock:Nat) : Prop:=w.heap[b]? = some (.map (l.map entM).toArray clock)
def MemoG(w:World)(b:Nat) : Prop:=∃ l clock,MemoL w b l clock∧GoodM l
def MemoN(x y:Gt)(w:World)(b:Nat) : Prop:=∃ l clock,MemoL w b l clock∧GoodM l∧findM l x y=none
theorem MemoL.lt{w:World}{b clock:Nat}{l:List Me}(h:MemoL w b l clock) : b<w.heap.size:=by
 rcases Nat.lt_or_ge b w.heap.size with h'|h'
 ·exact h'
 ·simp [MemoL,Array.getElem?_eq_none h'] at h
theorem MemoL.below{w w':World}{b clock:Nat}{l:List Me}(h:MemoL w b l clock)(hb:Below w.heap.size w w') : MemoL w' b l clock:=(hb.block b h.lt).trans h
theorem MemoL.only{w w':World}{b b' clock:Nat}{l:List Me}(h:MemoL w b l clock)(ho:Only b' w w')(hne:b≠b') : MemoL w' b l clock:=(ho.block b hne).trans h
theorem MemoL.ne{w:World}{b b' clock:Nat}{l:List Me}{T:TypeId}{cs:List Value}(h:MemoL w b l clock)(hb:Blk w b' T cs) : b≠b':=by
 rintro rfl
 unfold MemoL at h
 unfold Blk at hb
 rw [h] at hb
 cases hb
section
variable {w w' : World} {b b' : Nat} {x y : Gt}
theorem MemoG.lt(h:MemoG w b) : b<w.heap.size:=let ⟨_,_,h,_⟩:=h;h.lt
theorem MemoG.below(h:MemoG w b)(hb:Below w.heap.size w w') : MemoG w' b:=let ⟨l,c,h,g⟩:=h;⟨l,c,h.below hb,g⟩
theorem MemoG.only(h:MemoG w b)(ho:Only b' w w')(hne:b≠b') : MemoG w' b:=let ⟨l,c,h,g⟩:=h;⟨l,c,h.only ho hne,g⟩
theorem MemoG.ne{T:TypeId}{cs:List Value}(h:MemoG w b)(hb:Blk w b' T cs) : b≠b':=let ⟨_,_,h,_⟩:=h;h.ne hb
theorem MemoG.good(h:MemoG w b) : MemoG w b:=h
theorem MemoN.good(h:MemoN x y w b) : MemoG w b:=let ⟨l,c,h,g,_⟩:=h;⟨l,c,h,g⟩
theorem MemoN.lt(h:MemoN x y w b) : b<w.heap.size:=let ⟨_,_,h,_⟩:=h;h.lt
theorem MemoN.below(h:MemoN x y w b)(hb:Below w.heap.size w w') : MemoN x y w' b:=let ⟨l,c,h,g⟩:=h;⟨l,c,h.below hb,g⟩
theorem MemoN.only(h:MemoN x y w b)(ho:Only b' w w')(hne:b≠b') : MemoN x y w' b:=let ⟨l,c,h,g⟩:=h;⟨l,c,h.only ho hne,g⟩
theorem MemoN.ne{T:TypeId}{cs:List Value}(h:MemoN x y w b)(hb:Blk w b' T cs) : b≠b':=let ⟨_,_,h,_⟩:=h;h.ne hb
theorem Blk.onlyM{T:TypeId}{cs:List Value}(h:Blk w b' T cs)(ho:Only b w w')(hm:MemoG w b) : Blk w' b' T cs:=h.only ho (Ne.symm (hm.ne h))
theorem Rd.onlyM{α:Type}{B:Nat}{E:TypeId}{enc:α→List Value}{A:Option Addr}{l:List α}(h:Rd w B E enc A l)(ho:Only b w w')(hm:MemoG w b) : Rd w' B E enc A l:=h.chg fun k cs fz _ hk=>ho.block k fun e=>by
 obtain ⟨_,_,hL,_⟩:=hm
 unfold MemoL at hL
 rw [e,hL] at hk
 cases hk
end
theorem Xl2{l:List Me}{x y:Gt}{v:Bool}(h:GoodM l)(hf:findM l x y=some v) : v = !commI x y:=by
 unfold findM at hf
 rw [Option.map_eq_some_iff] at hf
 obtain ⟨m,h1,h2⟩:=hf;have h3:=List.find?_some h1
 simp only [Bool.and_eq_true,decide_eq_true_eq] at h3
 rw [← h2,h m (List.mem_of_find?_eq_some h1),h3.1,h3.2]
def LookM(w:World)(b:Nat)(x y:Gt)(v k:Bool) : Prop:=∃ l clock,MemoL w b l clock∧((k=true∧findM l x y=some v)∨(k=false∧v=false∧findM l x y=none))
theorem MemoG.look{w:World}{b:Nat}(h:MemoG w b)(x y:Gt) : ∃ v k,LookM w b x y v k∧(k=true→v = !commI x y)∧(k=false→MemoN x y w b):=by
 obtain ⟨l,clock,hL,hg⟩:=h
 cases hf:findM l x y with
 | none=>exact ⟨false,false,⟨l,clock,hL,.inr ⟨rfl,rfl,hf⟩⟩,(fun h=>by cases h),fun _=>⟨l,clock,hL,hg,hf⟩⟩
 | some v=>exact ⟨v,true,⟨l,clock,hL,.inl ⟨rfl,hf⟩⟩,fun _=>Xl2 hg hf,(fun h=>by cases h)⟩
section
variable {a : Act} {w : World} {n : Nat} {e : Env} {ty : TypeId} {pos : String} {af : Array Edge} {g : Option (Nat × Bool)} {d : Option Tmp} {x y : Gt} {b : Nat}
end
section
variable {P : Program} {a : Act} {w : World} {n : Nat} {e : Env} {ty : TypeId} {pos : String} {af : Array Edge} {g : Option (Nat × Bool)} {d : Option Tmp}
theorem Xfn{T E:TypeId}{len sz b off m k:Nat}{x y:Operand}{i:Int}(hf:Fr a n e)(hx:ev e x=some (.pointer (some ⟨b,off,none⟩)))(hy:ev e y=some (.int .i64 i))(hT:P.underlying T=some (.array len E))(hs:SizeT P E sz)(hi:i=(k:Int))(hk:k<len)(hm:off+k*sz=m) :
  Ev P ⟨d,.indexAddr T x y,ty,pos,af,g⟩ a w (.pointer (some ⟨b,m,none⟩)):=fun w' _=>by
 subst hi hm
 have h1:=X0d (P:=P) hT w';have h2:=run_sizeOf' hs w'
 simp [execOp,Instr.indexAt,asIntOf,Instr.sureAddr,hf.ev hx,hf.ev hy,h1,h2,hk,X1w]
theorem X2o{T E:TypeId}{len sz b off m k:Nat}{x y:Operand}{i:Int}(hx:ev e x=some (.pointer (some ⟨b,off,none⟩)))(hy:ev e y=some (.int .i64 i))(hT:P.underlying T=some (.array len E))(hs:SizeT P E sz)(hi:i=(k:Int))(hk:k<len)(hm:off+k*sz=m) : EvW P ⟨d,.indexAddr T x y,ty,pos,af,g⟩ n e w (.pointer (some ⟨b,m,none⟩)):=fun a hf=>Xfn hf hx hy hT hs hi hk hm
end
section
variable {P : Program} {a : Act} {w : World} {n : Nat} {e : Env} {α : Type} {ops : Array Oper} {ty : TypeId} {pos : String} {af : Array Edge} {g : Option (Nat × Bool)} {d : Nat}
end
section
variable {gs : List Gt} {s : List Int} {i : Nat} {g : Gt}
end
def RB(k:Int)(x:Rg) : Prop:=(-k≤x.a∧x.a≤k)∧(-k≤x.b∧x.b≤k)∧(-k≤x.c∧x.c≤k)∧(-k≤x.d∧x.d≤k)
def SM(e:Int)(k:Int)(x:Dy) : Prop:=dOk x=true∧RB k x.num∧x.exp≤e
theorem RB.ok{k:Int}{x:Rg}(h:RB k x)(hk:k≤1000000000) : rOk x=true:=by
 unfold RB at h
 exact X3e.2 (by omega)
theorem RB.root{k:Int}{x:Rg}(h:RB k x)(hk:k≤1000000000) : RB (2*k) (rRoot x):=by
 unfold RB at *
 simp only [rRoot]
 rw [X0s (by omega) (by omega),X0s (by omega) (by omega),X0s (by omega) (by omega),X0s (by omega) (by omega)]
 omega
theorem RB.half{k:Int}{x:Rg}(h:RB k x)(h0:0≤k)(hk:k≤1000000000) : RB k (rHalf x):=by
 have h1:=h.root hk
 unfold RB at *
 simp only [rHalf]
 have hd:∀ i:Int,-(2*k)≤i→i≤2*k→-k≤wr (i.tdiv 2)∧wr (i.tdiv 2)≤k:=fun i a b=>by
  have:-k≤i.tdiv 2∧i.tdiv 2≤k:=by
   rcases Int.le_total 0 i with h|h
   ·rw [Int.tdiv_eq_ediv_of_nonneg h];omega
   ·have e:i.tdiv 2 = -((-i).tdiv 2):=by rw [Int.neg_tdiv,Int.neg_neg]
    rw [e,Int.tdiv_eq_ediv_of_nonneg (by omega)];omega
  rw [X0s (by omega) (by omega)]
  exact this
 exact ⟨hd _ h1.1.1 h1.1.2,hd _ h1.2.1.1 h1.2.1.2,hd _ h1.2.2.1.1 h1.2.2.1.2,hd _ h1.2.2.2.1 h1.2.2.2.2⟩
theorem RB.low{k:Int}(h0:0≤k)(hk:k≤1000000000) : ∀ (n:Nat) {x:Rg},RB k x→RB k (lowN n x).1
 | 0,_,h=>h
 | n+1,x,h=>by
  rw [lowN]
  split
  ·exact RB.low h0 hk n (h.half h0 hk)
  ·exact h
theorem RB.raise{k:Int}(hk:4*k≤1000000000)(h0:0≤k){n:Nat}(hn:n≤2){x:Rg}(h:RB k x) : (raiseI n x).2=true∧RB (4*k) (raiseI n x).1:=by
 have m:∀ {a b:Int} {y:Rg},RB a y→a≤b→RB b y:=fun h hab=>by unfold RB at *;omega
 have step:∀ {a:Int} {y:Rg},0≤a→2*a≤1000000000→RB a y→rIf2 (rRoot y) [y]=true:=fun ha h2 h=>by
  rw [X7f (h.ok (by omega))];exact (h.root (by omega)).ok h2
 match n,hn with
 | 0,_=>exact ⟨rfl,m h (by omega)⟩
 | 1,_=>
  rw [raiseI,if_pos (step h0 (by omega) h)]
  exact ⟨rfl,m (h.root (by omega)) (by omega)⟩
 | 2,_=>
  have h1:=h.root (by omega)
  rw [raiseI,if_pos (step h0 (by omega) h),raiseI,if_pos (step (by omega) (by omega) h1)]
  exact ⟨rfl,m (h1.root (by omega)) (by omega)⟩
theorem Xfz{k e:Int}{x:Rg}(h:RB k x)(h0:0≤k)(hk:k≤1000000000)(he:0≤e)(he2:e≤60) : ∃ z,dOf x e=some z∧SM e k z:=by
 refine ⟨dLow x e,?_,X6j (h.ok hk) he he2,RB.low h0 hk _ h,(Xk7 he).2⟩
 unfold dOf
 rw [h.ok hk,Xt.2 ⟨he,he2⟩];rfl
theorem one_mul{a b:Int}(ha:-1≤a∧a≤1)(hb:-1≤b∧b≤1) : -1≤a*b∧a*b≤1:=by
 have:a = -1∨a=0∨a=1:=by omega
 rcases this with rfl|rfl|rfl<;>omega
theorem w4:∀ p q r s:Int,(-1≤p∧p≤1)→(-1≤q∧q≤1)→(-1≤r∧r≤1)→(-1≤s∧s≤1)→(-4≤wr (wr (wr (wr p-wr q)-wr r)-wr s)∧wr (wr (wr (wr p-wr q)-wr r)-wr s)≤4)∧(-4≤wr (wr (wr (wr p+wr q)-wr r)-wr s)∧wr (wr (wr (wr p+wr q)-wr r)-wr s)≤4)∧(-4≤wr (wr (wr (wr p+wr q)+wr r)-wr s)∧wr (wr (wr (wr p+wr q)+wr r)-wr s)≤4)∧(-4≤wr (wr (wr (wr p+wr q)+wr r)+wr s)∧wr (wr (wr (wr p+wr q)+wr r)+wr s)≤4):=fun p q r s hp hq hr hs=>by
 have a1:wr p=p:=X0s (by omega) (by omega)
 have a2:wr q=q:=X0s (by omega) (by omega)
 have a3:wr r=r:=X0s (by omega) (by omega)
 have a4:wr s=s:=X0s (by omega) (by omega)
 have b1:wr (p-q)=p-q:=X0s (by omega) (by omega)
 have b2:wr (p+q)=p+q:=X0s (by omega) (by omega)
 have c1:wr (p-q-r)=p-q-r:=X0s (by omega) (by omega)
 have c2:wr (p+q-r)=p+q-r:=X0s (by omega) (by omega)
 have c3:wr (p+q+r)=p+q+r:=X0s (by omega) (by omega)
 have d1:wr (p-q-r-s)=p-q-r-s:=X0s (by omega) (by omega)
 have d2:wr (p+q-r-s)=p+q-r-s:=X0s (by omega) (by omega)
 have d3:wr (p+q+r-s)=p+q+r-s:=X0s (by omega) (by omega)
 have d4:wr (p+q+r+s)=p+q+r+s:=X0s (by omega) (by omega)
 rw [a1,a2,a3,a4,b1,b2,c1,c2,c3,d1,d2,d3,d4]
 refine ⟨⟨?_,?_⟩,⟨?_,?_⟩,⟨?_,?_⟩,?_,?_⟩<;>omega
theorem Xkz{x y:Dy}(hx:SM 1 1 x)(hy:SM 1 1 y) : ∃ z,dMulI x y=some z∧SM 2 4 z:=by
 obtain ⟨ox,⟨xa,xb,xc,xd⟩,ex⟩:=hx;obtain ⟨oy,⟨ya,yb,yc,yd⟩,ey⟩:=hy;have hx0:=X50 ox;have hy0:=X50 oy
 have hm:RB 4 (rMul x.num y.num):=by
  unfold RB
  simp only [rMul]
  exact ⟨(w4 _ _ _ _ (one_mul xa ya) (one_mul xb yd) (one_mul xc yc) (one_mul xd yb)).1,(w4 _ _ _ _ (one_mul xa yb) (one_mul xb ya) (one_mul xc yd) (one_mul xd yc)).2.1,(w4 _ _ _ _ (one_mul xa yc) (one_mul xb yb) (one_mul xc ya) (one_mul xd yd)).2.2.1,(w4 _ _ _ _ (one_mul xa yd) (one_mul xb yc) (one_mul xc yb) (one_mul xd ya)).2.2.2⟩
 have ho:=hm.ok (by decide)
 obtain ⟨z,h1,h2,h3,h4⟩:=Xfz hm (by decide) (by decide) (show 0≤x.exp+y.exp by omega) (by omega)
 refine ⟨z,?_,h2,h3,by omega⟩
 unfold dMulI
 rw [ox,oy,rIf1,X5f (X35.1 ox).1 (X35.1 oy).1,ho]
 exact h1
theorem Xl6{k:Int}{s x:Dy}(h0:0≤k)(hk:4*k+16≤1000000000)(hs:SM 2 k s)(hx:SM 2 4 x) : ∃ z,dAddI s x=some z∧SM 2 (4*k+16) z:=by
 obtain ⟨os,bs,es⟩:=hs;obtain ⟨ox,bx,ex⟩:=hx;have hs0:=X50 os;have hx0:=X50 ox
 obtain ⟨r1,b1⟩:=bs.raise (n:=(max s.exp x.exp-s.exp).toNat) (by omega) h0 (by omega)
 obtain ⟨r2,b2⟩:=bx.raise (n:=(max s.exp x.exp-x.exp).toNat) (by decide) (by decide) (by omega)
 have hb:RB (4*k+16) (rAdd (dRaise s (max s.exp x.exp)).1 (dRaise x (max s.exp x.exp)).1):=by
  unfold RB at *
  simp only [rAdd,dRaise]
  rw [X0s (by omega) (by omega),X0s (by omega) (by omega),X0s (by omega) (by omega),X0s (by omega) (by omega)]
  omega
 have ho:=hb.ok hk
 obtain ⟨z,h1,h2,h3,h4⟩:=Xfz hb (by omega) hk (show 0≤max s.exp x.exp by omega) (by omega)
 refine ⟨z,?_,h2,h3,by omega⟩
 unfold dAddI
 have i2:rIf2 (rAdd (dRaise s (max s.exp x.exp)).1 (dRaise x (max s.exp x.exp)).1) [(dRaise s (max s.exp x.exp)).1,(dRaise x (max s.exp x.exp)).1]=true:=by
  exact (X5f (x:=(dRaise s (max s.exp x.exp)).1) (y:=(dRaise x (max s.exp x.exp)).1) (b1.ok (by omega)) (b2.ok (by decide))).trans ho
 rw [os,ox,rIf1,i2,show (dRaise s (max s.exp x.exp)).2=true from r1,show (dRaise x (max s.exp x.exp)).2=true from r2]
 exact h1
def dotK:Nat→Int
 | 0=>0
 | n+1=>4*dotK n+16
theorem X9r:∀ n,0≤dotK n∧dotK n≤dotK (n+1)
 | 0=>by decide
 | n+1=>by have:=X9r n;simp only [dotK] at *;omega
theorem Xsz{n:Nat}(h:n≤8) : dotK n≤1000000000:=by
 have:∀ d n,n+d=8→dotK n≤dotK 8:=fun d=>by
  induction d with
  | zero=>intro n hn;rw [show n=8 from by omega];exact Int.le_refl _
  | succ d ih=>intro n hn;exact Int.le_trans (X9r n).2 (ih (n+1) (by omega))
 exact Int.le_trans (this (8-n) n (by omega)) (by decide)
theorem Xeu{a b:Mx}{i j:Nat}(ha:∀ i j,SM 1 1 (a.at i j))(hb:∀ i j,SM 1 1 (b.at i j)) : ∀ n,n≤8→∃ z,dotI a b i j n=some z∧SM 2 (dotK n) z
 | 0,_=>⟨dZ,rfl,by decide,by unfold RB dotK dZ;decide,by decide⟩
 | n+1,h=>by
  obtain ⟨s,h1,h2⟩:=Xeu (i:=i) (j:=j) ha hb n (by omega)
  obtain ⟨x,h3,h4⟩:=Xkz (ha i n) (hb n j)
  obtain ⟨z,h5,h6⟩:=Xl6 (X9r n).1 (by have:=Xsz h;simp only [dotK] at this;exact this) h2 h4
  refine ⟨z,?_,h6⟩
  rw [dotI,h1,Option.bind_some,h3,Option.bind_some]
  exact h5
def smB(z:Dy) : Bool:=dOk z&&inR z.num.a (-1) 1&&inR z.num.b (-1) 1&&inR z.num.c (-1) 1&&inR z.num.d (-1) 1&&decide (z.exp≤1)
theorem Xm9{z:Dy}(h:smB z=true) : SM 1 1 z:=by
 simp only [smB,Bool.and_eq_true,Xt,decide_eq_true_eq] at h
 obtain ⟨⟨⟨⟨⟨h1,h2⟩,h3⟩,h4⟩,h5⟩,h6⟩:=h;exact ⟨h1,⟨h2,h3,h4,h5⟩,h6⟩
theorem Xmo{k:Int}(h:1≤k∧k≤8){i j:Int}(hi:i=0∨i=1)(hj:j=0∨j=1) : smB (entryI k i j)=true:=by
 have:k=1∨k=2∨k=3∨k=4∨k=5∨k=6∨k=7∨k=8:=by omega
 rcases this with rfl|rfl|rfl|rfl|rfl|rfl|rfl|rfl<;>rcases hi with rfl|rfl<;>rcases hj with rfl|rfl<;>rfl
theorem Xr0{n:Int}{g:Gt}(hg:gOk n g=true)(i j:Int) : smB (cellI n g i j)=true:=by
 obtain ⟨hn,hk0,ha,hb⟩:=X27 hg
 unfold cellI
 split
 ·split<;>rfl
 ·split
  ·split
   ·split<;>rfl
   ·rfl
  ·rename_i h1 h2
   split
   ·exact Xmo (by have h3:¬ (9≤g.k∧g.k≤11):=fun h=>h2 (Xt.2 h);omega) (X3y _ _ _) (X3y _ _ _)
   ·rfl
theorem Xj3{n:Int}{g:Gt}(hg:gOk n g=true)(i j:Nat) : SM 1 1 ((gateS n g).at i j):=by
 have hall:∀ x ∈ (gateS n g).cells,smB x=true:=fun x hx=>by
  have he:gridL (fun i j=>cellI n g i j) (2^n.toNat) (2^n.toNat*2^n.toNat)=gridL (fun i j=>cellS n g i j) (2^n.toNat) (2^n.toNat*2^n.toNat):=Xa8 fun i j hi hj=>Xij hg hi hj
  simp only [gateS] at hx
  rw [← he] at hx
  obtain ⟨i,j,_,_,rfl⟩:=X9e hx;exact Xr0 hg _ _
 unfold Mx.at
 rw [List.getD_eq_getElem?_getD]
 cases h:(gateS n g).cells[i*(gateS n g).cols.toNat+j]? with
 | none=>exact Xm9 rfl
 | some x=>exact Xm9 (hall x (List.mem_of_getElem? h))
theorem Xfd{f:Nat→Option Dy} : ∀ n,(∀ k,k<n→∃ z,f k=some z)→∃ l,seqO f n=some l
 | 0,_=>⟨[],rfl⟩
 | n+1,h=>by
  obtain ⟨l,hl⟩:=Xfd n fun k hk=>h k (by omega)
  obtain ⟨z,hz⟩:=h n (by omega)
  exact ⟨_,X7b hl hz⟩
theorem Xt9{n:Int}(h:n≤3) : 2^n.toNat≤8:=Nat.pow_le_pow_right (n:=2) (by decide) (show n.toNat≤3 by omega)
theorem mul_two{n:Int}{g h:Gt}(hg:gOk n g=true)(hh:gOk n h=true)(hn:n≤3) : ∃ m,mulI (gateS n g) (gateS n h)=some m:=by
 have hd:=X3u (X27 hg).1
 unfold mulI
 rw [(X5x hg).2,(X5x hh).2,show ((gateS n g).cols==(gateS n h).rows)=true from by simp [gateS]]
 simp only [Bool.and_self,if_true]
 unfold matOf
 rw [show (gateS n g).rows=((2^n.toNat:Nat) : Int) from rfl,show (gateS n h).cols=((2^n.toNat:Nat) : Int) from rfl,hd]
 simp only [Bool.and_self,if_true]
 obtain ⟨l,hl⟩:=Xfd (f:=gridG (fun i j=>dotI (gateS n g) (gateS n h) i j (gateS n g).cols.toNat) (((2^n.toNat:Nat) : Int)).toNat) ((((2^n.toNat:Nat) : Int)).toNat*(((2^n.toNat:Nat) : Int)).toNat) fun k _=>by
  obtain ⟨z,hz,_⟩:=Xeu (i:=k/(((2^n.toNat:Nat) : Int)).toNat) (j:=k % (((2^n.toNat:Nat) : Int)).toNat) (Xj3 hg) (Xj3 hh) (gateS n g).cols.toNat (by rw [show (gateS n g).cols=((2^n.toNat:Nat) : Int) from rfl,Int.toNat_natCast];exact Xt9 hn)
  exact ⟨z,hz⟩
 rw [hl]
 exact ⟨_,rfl⟩
def fitA(gs:List Gt)(i:Nat)(k:Int)(out:List Int)(j:Nat) : Bool:=decide (j<i)&&!commI (gs.getD j gZ) (gs.getD i gZ)&&(out.getD j 0==0||decide (k≤out.getD j 0))
def fitB(gs:List Gt)(i:Nat)(k:Int)(out:List Int)(j:Nat) : Bool:=decide (j≠i)&&out.getD j 0==k&&comI (gs.getD j gZ) (gs.getD i gZ)
def fitC(gs:List Gt)(i:Nat)(k:Int)(out:List Int)(j:Nat) : Bool:=fitA gs i k out j||fitB gs i k out j
def fitsI(gs:List Gt)(i:Nat)(k:Int)(out:List Int) : Bool:=!(List.range gs.length).any (fitC gs i k out)
def mayI(gs:List Gt)(k:Int)(out:List Int)(i:Nat) : Bool:=(gs.getD i gZ).k != 12&&out.getD i 0==0&&fitsI gs i k out
def stepI(gs:List Gt)(k:Int)(out:List Int)(i:Nat) : List Int:=if mayI gs k out i=true then out.set i k else out
def sweepN(gs:List Gt)(k:Int)(out:List Int)(i:Nat) : List Int:=(List.range i).foldl (stepI gs k) out
def cntZ:List Gt→List Int→Nat
 | g::gs,x::xs=>(if g.k≠12∧x=0 then 1 else 0)+cntZ gs xs
 | _,_=>0
def runI(gs:List Gt) : Nat→Int→List Int→List Int
 | 0,_,out=>out
 | f+1,k,out=>if cntZ gs out=0 then out else runI gs f (k+1) (sweepN gs k out gs.length)
def schedOf(c:Cx) : List Int:=if cOk c=true then runI c.gs c.gs.length 1 (List.replicate c.gs.length 0) else []
theorem getD_some{α:Type}{l:List α}{i:Nat}{d x:α}(h:l[i]? = some x) : l.getD i d=x:=by rw [List.getD_eq_getElem?_getD,h];rfl
structure Sch (gs:List Gt) (k:Int) (out:List Int) : Prop where
 len:out.length=gs.length
 low:∀ j,j<gs.length→0≤out.getD j 0∧out.getD j 0<k
 w:∀ j,j<gs.length→(gs.getD j gZ).k=12→out.getD j 0=0
theorem Xgl{out:List Int}{i j:Nat}{k:Int}(hi:i<out.length) : (out.set i k).getD j 0=if j=i then k else out.getD j 0:=by
 rw [List.getD_eq_getElem?_getD,List.getD_eq_getElem?_getD,List.getElem?_set]
 by_cases h:i=j
 ·subst h;rw [if_pos rfl,if_pos hi,if_pos rfl];rfl
 ·rw [if_neg h,if_neg (Ne.symm h)]
structure SchM (gs:List Gt) (k:Int) (out:List Int) : Prop where
 len:out.length=gs.length
 low:∀ j,j<gs.length→0≤out.getD j 0∧out.getD j 0≤k
 w:∀ j,j<gs.length→(gs.getD j gZ).k=12→out.getD j 0=0
theorem Sch.mid{gs:List Gt}{k:Int}{out:List Int}(h:Sch gs k out) : SchM gs k out:=⟨h.len,fun j hj=>⟨(h.low j hj).1,by have:=(h.low j hj).2;omega⟩,h.w⟩
theorem SchM.step{gs:List Gt}{k:Int}{out:List Int}{i:Nat}(h:SchM gs k out)(hk:1≤k)(hi:i<gs.length) : SchM gs k (stepI gs k out i):=by
 unfold stepI
 split
 ·rename_i hm
  have hio:i<out.length:=by rw [h.len];exact hi
  unfold mayI at hm
  simp only [Bool.and_eq_true] at hm
  refine ⟨by rw [List.length_set];exact h.len,fun j hj=>?_,fun j hj hw=>?_⟩
  ·rw [Xgl hio];split
   ·omega
   ·exact h.low j hj
  ·rw [Xgl hio];split
   ·rename_i e;subst e;rw [hw] at hm;simp at hm
   ·exact h.w j hj hw
 ·exact h
theorem SchM.next{gs:List Gt}{k:Int}{out:List Int}(h:SchM gs k out) : Sch gs (k+1) out:=⟨h.len,fun j hj=>⟨(h.low j hj).1,by have:=(h.low j hj).2;omega⟩,h.w⟩
def cvt(g:Gt)(x:Int) : Int:=if g.k=12 then 0 else if x=0 then -1 else x
def conv:List Gt→List Int→List Int
 | g::gs,x::xs=>cvt g x::conv gs xs
 | _,_=>[]
def folS(gs:List Gt)(i:Nat)(j:Nat) : List Int:=((List.range j).filter fun q=>!commS (gs.getD i gZ) (gs.getD q gZ)).map fun (q:Nat)=>(q:Int)
def followsS(gs:List Gt)(i:Nat) : List (List Int):=(List.range i).map fun q=>folS gs q q
def freeA(lay:List Int)(k:Int)(j:Int) : Bool:=decide (lay.getD j.toNat 0<0)||decide (k≤lay.getD j.toNat 0)
def freeB(gs:List Gt)(lay:List Int)(k:Int)(i j:Nat) : Bool:=decide (j≠i)&&lay.getD j 0==k&&comS (gs.getD i gZ) (gs.getD j gZ)
def freeS(gs:List Gt)(lay:List Int)(k:Int)(i:Nat)(fol:List Int) : Bool:=!fol.any (freeA lay k)&&!(List.range gs.length).any (freeB gs lay k i)
def sN:Sl:=⟨none,0,[]⟩
def ini(gs:List Gt) : List Int:=gs.map fun g=>if g.k=12 then 0 else -1
def cntW(gs:List Gt) : Nat:=(gs.filter fun g=>g.k != 12).length
structure Ed where (a b:Int) deriving DecidableEq
def encE(x:Ed) : List Value:=[.int .i64 x.a,.int .i64 x.b]
abbrev eV(x:Ed) : Value:=.agg #[.int .i64 x.a,.int .i64 x.b]
def encB(b:Bool) : List Value:=[.bool b]
structure Gp where (n:Int) (es:List Ed)
structure Ro where (st:List Int) (steps:List Gt)
def eZ:Ed:=⟨0,0⟩
def ordE(es:List Ed)(i:Nat)(e:Ed) : Bool:=decide (0<i)&&(decide (e.a<(es.getD (i-1) eZ).a)||(es.getD (i-1) eZ).a==e.a&&decide (e.b≤(es.getD (i-1) eZ).b))
def badS(n:Int)(es:List Ed)(i:Nat) : Bool:=!inR (es.getD i eZ).a 0 (wr ((es.getD i eZ).b-1))||!inR (es.getD i eZ).b 0 (wr (n-1))||ordE es i (es.getD i eZ)
def badI(n:Int)(es:List Ed)(i:Nat) : Bool:=(decide ((es.getD i eZ).a<0)||decide ((es.getD i eZ).b≤(es.getD i eZ).a)||decide (n≤(es.getD i eZ).b))||ordE es i (es.getD i eZ)
def gpS(g:Gp) : Bool:=!(List.range g.es.length).any (badS g.n g.es)&&inR g.n 1 8
def gpI(g:Gp) : Bool:=inR g.n 1 8&&!(List.range g.es.length).any (badI g.n g.es)
def i64(x:Int) : Prop:=-9223372036854775808≤x∧x≤9223372036854775807
def edgS(g:Gp)(a b:Int) : Bool:=g.es.any fun e=>e.a==a&&e.b==b||e.a==b&&e.b==a
def edgI(g:Gp)(a b:Int) : Bool:=g.es.any fun e=>decide ((⟨min a b,max a b⟩ : Ed)=e)
def badP(n:Int)(p:List Int)(i:Nat) : Bool:=!inR (p.getD i 0) 0 (wr (n-1))||(p.take i).any fun y=>y==p.getD i 0
def badQ(n:Int)(p:List Int)(i:Nat) : Bool:=!inR (p.getD i 0) 0 (wr (n-1))||(p.take i).any fun y=>p.getD i 0==y
def plS(n m:Int)(p:List Int) : Bool:=!(List.range p.length).any (badP n p)&&(p.length:Int)==m
def plI(n m:Int)(p:List Int) : Bool:=!(List.range p.length).any (badQ n p)&&(p.length:Int)==m
def swapP(p:List Int)(a b:Int) : List Int:=p.map fun k=>if k=a then b else if k=b then a else k
def redA(gs:List Gt)(done:List Bool)(k i:Nat) : Bool:=!done.getD i false&&comS (gs.getD i gZ) (gs.getD k gZ)
def redB(gs:List Gt)(done:List Bool)(k i:Nat) : Bool:=!done.getD i false&&comI (gs.getD i gZ) (gs.getD k gZ)
def redS(gs:List Gt)(done:List Bool)(k:Int) : Bool:=inR k 0 ((gs.length:Int)-1)&&!done.getD k.toNat false&&!(List.range k.toNat).any (redA gs done k.toNat)
def redI(gs:List Gt)(done:List Bool)(k:Int) : Bool:=inR k 0 ((gs.length:Int)-1)&&!done.getD k.toNat false&&!(List.range k.toNat).any (redB gs done k.toNat)
def nearS(g:Gp)(p:List Int)(x:Gt) : Bool:=!inR x.k 9 11||edgS g (p.getD x.a.toNat 0) (p.getD x.b.toNat 0)
def nearI(g:Gp)(p:List Int)(x:Gt) : Bool:=!inR x.k 9 11||edgI g (p.getD x.a.toNat 0) (p.getD x.b.toNat 0)
section
variable (E : Int → Int → Bool) (N : List Int → Gt → Bool) (R : List Bool → Int → Bool) (gs : List Gt)
def stp(s:Gt)(p:List Int)(d:List Bool) : Int×List Int×List Bool:=
 if s.k = -1 then (if E s.a s.b=true then (0,swapP p s.a s.b,d) else (2,p,d))
 else if (s.a != 0||s.b != 0||!R d s.k)=true then (3,p,d)
 else if N p (gs.getD s.k.toNat gZ)=true then (0,p,d.set s.k.toNat true) else (4,p,d)
def playL:Nat→List Gt→List Int→List Bool→Int×Int×List Int×List Bool
 | i,[],p,d=>if d.any (fun x=>!x)=true then (5,(i:Int),p,d) else (0,0,p,d)
 | i,s::l,p,d=>if (stp E N R gs s p d).1=0 then playL (i+1) l (stp E N R gs s p d).2.1 (stp E N R gs s p d).2.2 else ((stp E N R gs s p d).1,(i:Int),p,d)
def moved(s:Gt)(p:List Int) : Gt:=if s.k = -1 then ⟨11,s.a,s.b⟩ else mapG p (gs.getD s.k.toNat gZ)
def nextP(s:Gt)(p:List Int) : List Int:=if s.k = -1 then swapP p s.a s.b else p
def buildL:List Gt→List Int→List Gt
 | [],_=>[]
 | s::l,p=>moved gs s p::buildL l (nextP s p)
end
def stpS(g:Gp)(gs:List Gt):=stp (edgS g) (nearS g) (redS gs) gs
def stpI(g:Gp)(gs:List Gt):=stp (edgI g) (nearI g) (redI gs) gs
def playS(g:Gp)(gs:List Gt):=playL (edgS g) (nearS g) (redS gs) gs
def playI(g:Gp)(gs:List Gt):=playL (edgI g) (nearI g) (redI gs) gs
def runG(g:Gp)(c:Cx)(r:Ro) : Int×Int:=if plS g.n c.n r.st=true then ((playS g c.gs 0 r.steps r.st (List.replicate c.gs.length false)).1,(playS g c.gs 0 r.steps r.st (List.replicate c.gs.length false)).2.1) else (1,0)
def runR(g:Gp)(c:Cx)(r:Ro) : Int×Int:=if plI g.n c.n r.st=true then ((playI g c.gs 0 r.steps r.st (List.replicate c.gs.length false)).1,(playI g c.gs 0 r.steps r.st (List.replicate c.gs.length false)).2.1) else (1,0)
def fitsS(g:Gp)(c:Cx) : Bool:=gpS g&&cOk c&&decide (c.n≤g.n)
def fitsR(g:Gp)(c:Cx) : Bool:=gpI g&&cOk c&&decide (c.n≤g.n)
def chkRS(g:Gp)(c:Cx)(r:Ro) : Int×Int×Bool:=if fitsS g c=true then ((runG g c r).1,(runG g c r).2,true) else (0,0,false)
def chkRI(g:Gp)(c:Cx)(r:Ro) : Int×Int×Bool:=if fitsR g c=true then ((runR g c r).1,(runR g c r).2,true) else (0,0,false)
def rcS(g:Gp)(c:Cx)(r:Ro) : Option Cx:=if fitsS g c=true∧g.n≤5∧r.steps.length≤400 then (if (runG g c r).1=0 then some ⟨g.n,buildL c.gs r.steps r.st⟩ else none) else none
def rcI(g:Gp)(c:Cx)(r:Ro) : Option Cx:=if (chkRI g c r).2.2=true∧(chkRI g c r).1=0∧g.n≤5 then cIf ⟨g.n,buildL c.gs r.steps r.st⟩ else none
end Go.Proofs.YtiejkplemjkjoaaGreat
namespace Go.Proofs.YtiejkplemjkjoaaGreat
def ltK(key:Int→Int)(i k:Int) : Prop:=key i<key k∨(key i=key k∧i<k)
theorem ltK.trans{key:Int→Int}{i j k:Int}(h:ltK key i j)(h2:ltK key j k) : ltK key i k:=by unfold ltK at *;omega
def Srt(key:Int→Int)(l:List Int) : Prop:=l.Pairwise (ltK key)
theorem Xj9{key:Int→Int}{l1 l2:List Int} : Srt key (l1++l2)↔Srt key l1∧Srt key l2∧∀ x ∈ l1,∀ y ∈ l2,ltK key x y:=List.pairwise_append
theorem Xbr{l1 l2:List Int}{k:Nat}(h:k<l1.length) : (l1++l2).getD k 0=l1.getD k 0:=by
 simp only [List.getD_eq_getElem?_getD];rw [List.getElem?_append_left h]
theorem X7z{l1 l2:List Int}{k:Nat}(h:l1.length≤k) : (l1++l2).getD k 0=l2.getD (k-l1.length) 0:=by
 simp only [List.getD_eq_getElem?_getD];rw [List.getElem?_append_right h]
theorem Xm3{l:List Int}{k:Nat}(h:k<l.length) : l.getD k 0 ∈ l:=by
 rw [List.getD_eq_getElem?_getD,List.getElem?_eq_getElem h];exact List.getElem_mem h
theorem Xif{key:Int→Int}{l:List Int}(h:Srt key l){i j:Nat}(hij:i<j)(hj:j<l.length) : ltK key (l.getD i 0) (l.getD j 0):=by
 rw [List.getD_eq_getElem?_getD,List.getD_eq_getElem?_getD,List.getElem?_eq_getElem hj,List.getElem?_eq_getElem (Nat.lt_trans hij hj)]
 exact (List.pairwise_iff_getElem.1 h) i j (Nat.lt_trans hij hj) hj hij
def Cut(pr:Nat→Prop)(lo hi st r:Nat) : Prop:=lo≤st∧st≤r∧r≤hi∧(∀ c,lo≤c→c<st→pr c)∧(∀ c,r≤c→c<hi→¬ pr c)
def Down(pr:Nat→Prop)(lo hi:Nat) : Prop:=∀ c c',lo≤c→c<c'→c'<hi→pr c'→pr c
theorem Xh0{l:List Int}{k:Nat}(h:k<l.length) : l.take (k+1)=l.take k++[l.getD k 0]:=by
 rw [List.take_succ_eq_append_getElem h,List.getD_eq_getElem?_getD,List.getElem?_eq_getElem h];rfl
theorem Xgv{l:List Int}{k:Nat}(h:k<l.length) : l.drop k=l.getD k 0::l.drop (k+1):=by
 rw [List.drop_eq_getElem_cons h,List.getD_eq_getElem?_getD,List.getElem?_eq_getElem h];rfl
theorem Xdb{key:Int→Int}{S:List Int}{x:Int}(hS:Srt key S){j:Nat}(hj:j+1≤S.length)(h:ltK key (S.getD j 0) x) : ∀ y ∈ S.take (j+1),ltK key y x:=by
 intro y hy
 rw [Xh0 (by omega)] at hy
 rcases List.mem_append.1 hy with hy|hy
 ·obtain ⟨i,hi,rfl⟩:=List.getElem_of_mem hy
  have hi':i<j:=by rw [List.length_take] at hi;omega
  have:=Xif hS hi' (by omega)
  rw [List.getElem_take]
  rw [List.getD_eq_getElem?_getD,List.getElem?_eq_getElem (by omega:i<S.length)] at this
  exact this.trans h
 ·rw [List.mem_singleton.1 hy];exact h
theorem Xd4{key:Int→Int}{S:List Int}{x:Int}(hS:Srt key S){j:Nat}(hj:j<S.length)(h:ltK key x (S.getD j 0)) : ∀ y ∈ S.drop j,ltK key x y:=by
 intro y hy
 rw [Xgv hj] at hy
 rcases List.mem_cons.1 hy with rfl|hy
 ·exact h
 ·obtain ⟨i,hi,rfl⟩:=List.getElem_of_mem hy
  have hl:i<(S.drop (j+1)).length:=hi
  rw [List.length_drop] at hl
  have:=Xif hS (show j<j+1+i by omega) (by omega)
  rw [List.getElem_drop]
  rw [List.getD_eq_getElem?_getD (i:=j+1+i),List.getElem?_eq_getElem (by omega:j+1+i<S.length)] at this
  exact h.trans this
theorem cross{key:Int→Int}{L R:List Int}(hL:Srt key L)(hR:Srt key R){u v:Nat}(hu:u≤L.length)(hv:v≤R.length)
  (h1:0<u→v<R.length→ltK key (L.getD (u-1) 0) (R.getD v 0)) (h2:0<v→u<L.length→ltK key (R.getD (v-1) 0) (L.getD u 0)) :
  ∀ x ∈ L.take u++R.take v,∀ y ∈ L.drop u++R.drop v,ltK key x y:=by
 intro x hx y hy
 rw [← List.take_append_drop u L] at hL
 rw [← List.take_append_drop v R] at hR
 obtain ⟨_,_,hLc⟩:=Xj9.1 hL;obtain ⟨_,_,hRc⟩:=Xj9.1 hR
 rw [List.take_append_drop] at hL hR
 rcases List.mem_append.1 hx with hx|hx<;>rcases List.mem_append.1 hy with hy|hy
 ·exact hLc x hx y hy
 ·have hu0:0<u:=by
   rcases Nat.eq_zero_or_pos u with e|e;· rw [e] at hx;simp at hx
   exact e
  have hv0:v<R.length:=by
   rcases Nat.lt_or_ge v R.length with e|e;· exact e
   rw [List.drop_eq_nil_of_le e] at hy;simp at hy
  have h:=h1 hu0 hv0
  have hxs:=Xdb hL (j:=u-1) (by omega) h x (by rw [show u-1+1=u from by omega];exact hx)
  exact (Xd4 hR hv0 hxs) y hy
 ·have hv0:0<v:=by
   rcases Nat.eq_zero_or_pos v with e|e;· rw [e] at hx;simp at hx
   exact e
  have hu0:u<L.length:=by
   rcases Nat.lt_or_ge u L.length with e|e;· exact e
   rw [List.drop_eq_nil_of_le e] at hy;simp at hy
  have h:=h2 hv0 hu0
  have hxs:=Xdb hR (j:=v-1) (by omega) h x (by rw [show v-1+1=v from by omega];exact hx)
  exact (Xd4 hL hu0 hxs) y hy
 ·exact hRc x hx y hy
def Merged(key:Int→Int)(L R M:List Int) : Prop:=Srt key M∧M.Perm (L++R)
theorem Merged.len{key:Int→Int}{L R M:List Int}(h:Merged key L R M) : M.length=L.length+R.length:=by rw [h.2.length_eq,List.length_append]
theorem Merged.mem{key:Int→Int}{L R M:List Int}(h:Merged key L R M){x:Int}(hx:x ∈ M) : x ∈ L∨x ∈ R:=List.mem_append.1 (h.2.mem_iff.1 hx)
def ran(a b:Nat) : List Int:=(List.range' a (b-a)).map (fun k:Nat=>(k:Int))
theorem Xpq{a b:Nat} : (ran a b).length=b-a:=by simp [ran]
theorem Xt7{a b:Nat}{x:Int} : x ∈ ran a b↔(a:Int)≤x∧x<(b:Int):=by
 simp only [ran,List.mem_map,List.mem_range'_1]
 constructor
 ·rintro ⟨k,hk,rfl⟩;omega
 ·intro h;exact ⟨x.toNat,by omega,by omega⟩
def SortedR(key:Int→Int)(a b:Nat)(S:List Int) : Prop:=Srt key S∧S.Perm (ran a b)
theorem SortedR.len{key:Int→Int}{a b:Nat}{S:List Int}(h:SortedR key a b S) : S.length=b-a:=by rw [h.2.length_eq,Xpq]
theorem SortedR.mem{key:Int→Int}{a b:Nat}{S:List Int}(h:SortedR key a b S){x:Int}(hx:x ∈ S) : (a:Int)≤x∧x<(b:Int):=Xt7.1 (h.2.mem_iff.1 hx)
inductive Blocks (key:Int→Int) (b n:Nat) : Nat→List Int→Prop
 | nil {a:Nat} (h:n≤a) : Blocks key b n a []
 | cons {a:Nat} {S l:List Int} (h:a<n) (hS:SortedR key a (min (a+b) n) S) (hl:Blocks key b n (a+b) l) : Blocks key b n a (S++l)
theorem Blocks.len{key:Int→Int}{b n a:Nat}{l:List Int}(h:Blocks key b n a l) : l.length=n-a:=by
 induction h with
 | nil h=>simp;omega
 | cons h hS hl ih=>rw [List.length_append,hS.len,ih];omega
theorem Blocks.one{key:Int→Int}{b n a:Nat}{S:List Int}(h:a<n)(hb:n≤a+b)(hS:SortedR key a n S) : Blocks key b n a S:=by
 have:=Blocks.cons (key:=key) (b:=b) (l:=[]) h (by rw [Nat.min_eq_right hb];exact hS) (Blocks.nil hb)
 rwa [List.append_nil] at this
inductive Head (key:Int→Int) (b:Nat) : Nat→List Int→Prop
 | nil:Head key b 0 []
 | snoc {a:Nat} {S l:List Int} (hl:Head key b a l) (hS:SortedR key a (a+b) S) : Head key b (a+b) (l++S)
theorem Head.len{key:Int→Int}{b a:Nat}{l:List Int}(h:Head key b a l) : l.length=a:=by
 induction h with
 | nil=>rfl
 | snoc hl hS ih=>rw [List.length_append,ih,hS.len];omega
instance (key:Int→Int) (i k:Int) : Decidable (ltK key i k):=by unfold ltK;infer_instance
def insF(key:Int→Int)(x:Int) : List Int→List Int
 | []=>[x]
 | y::l=>if ltK key y x then y::insF key x l else x::y::l
def srtF(key:Int→Int) : Nat→List Int
 | 0=>[]
 | n+1=>insF key (n:Int) (srtF key n)
end Go.Proofs.YtiejkplemjkjoaaGreat
namespace Go.Proofs.YtiejkplemjkjoaaGreat
open Go.RowKit
section
variable {P : Program} {a : Act} {w w' : World} {n : Nat} {e : Env} {ty : TypeId} {pos : String} {af : Array Edge} {g : Option (Nat × Bool)} {d : Option Tmp} {s t t' : TypeId} {x y : Operand} {i j : Int}
theorem Xuo(m:Nat)(hm:m≤9223372036854775807) : IntKind.u64.wrap (m:Int)=(m:Int):=by
 simp only [IntKind.wrap]
 simp only [IntKind.bits,IntKind.signed,Bool.false_and,Bool.false_eq_true,if_false]
 omega
theorem Xqj{m:Nat}(hs:P.underlying s=some (.int .i64))(ht:P.underlying t=some (.int .u64))(hf:Fr a n e)(hx:ev e x=some (.int .i64 i))(hi:i=(m:Int))(hm:m≤9223372036854775807) :
  Ev P ⟨d,.convert s t x,ty,pos,af,g⟩ a w (.int .u64 (m:Int)):=fun w' _=>by
 subst hi
 simp [execOp,hf.ev hx,convert,X0d hs,X0d ht,Conv.intToInt,Xuo m hm]
theorem X2u{m:Nat}(hs:P.underlying s=some (.int .i64))(ht:P.underlying t=some (.int .u64))(hx:ev e x=some (.int .i64 i))(hi:i=(m:Int))(hm:m≤9223372036854775807) : EvW P ⟨d,.convert s t x,ty,pos,af,g⟩ n e w (.int .u64 (m:Int)):=fun a hf=>Xqj hs ht hf hx hi hm
end
theorem Xoj{l:List Int}{k:Nat}(h:k<l.length) : l[k]? = some (l.getD k 0):=by
 rw [List.getD_eq_getElem?_getD,List.getElem?_eq_getElem h];rfl
section
variable {U V W : List Int} {x y : Int} {p q : Nat}
end
def swL(P X Y Z Q:List Int)(i:Nat) : List Int:=P++((Z.take i++X.drop i)++(Y++((X.take i++Z.drop i)++Q)))
section
variable {key : Int → Int} {cf : Int → Int → Int} {P L R Q : List Int} {n : Int} {a m b : Nat}
def Cmp(key:Int→Int)(cf:Int→Int→Int)(n:Int) : Prop:=∀ x y,0≤x→x<n→0≤y→y<n→(cf x y<0↔key x<key y)
def In(n:Int)(l:List Int) : Prop:=∀ x ∈ l,0≤x∧x<n
theorem In.get{l:List Int}(h:In n l){k:Nat}(hk:k<l.length) : 0≤l.getD k 0∧l.getD k 0<n:=h _ (Xm3 hk)
theorem Xyh{k:Nat}(ha:P.length=a)(h1:a≤k)(h2:k<a+L.length) : (P++(L++(R++Q))).getD k 0=L.getD (k-a) 0:=by
 rw [X7z (by omega),Xbr (by omega),ha]
theorem Xyp{k:Nat}(ha:P.length=a)(hm:a+L.length=m)(h1:m≤k)(h2:k<m+R.length) : (P++(L++(R++Q))).getD k 0=R.getD (k-m) 0:=by
 rw [X7z (by omega),X7z (by omega),Xbr (by omega)]
 congr 1;omega
structure Two (key:Int→Int) (P L R:List Int) (a m b:Nat) (n:Int) : Prop where
 ha:P.length=a
 hm:a+L.length=m
 hb:m+R.length=b
 hL:Srt key L
 hR:Srt key R
 lt:∀ x ∈ L,∀ y ∈ R,x<y
 iL:In n L
 iR:In n R
variable (h : Two key P L R a m b n)
include h
theorem Two.inl{k:Nat}(h1:a≤k)(h2:k<m) : 0≤(P++(L++(R++Q))).getD k 0∧(P++(L++(R++Q))).getD k 0<n:=by
 have:=h.hm;rw [Xyh h.ha h1 (by omega)];exact h.iL.get (by omega)
theorem Two.inr{k:Nat}(h1:m≤k)(h2:k<b) : 0≤(P++(L++(R++Q))).getD k 0∧(P++(L++(R++Q))).getD k 0<n:=by
 have:=h.hb;rw [Xyp h.ha h.hm h1 (by omega)];exact h.iR.get (by omega)
def prS(key:Int→Int)(l:List Int)(p:Nat)(c:Nat) : Prop:=ltK key (l.getD c 0) (l.getD (p-c) 0)
end
end Go.Proofs.YtiejkplemjkjoaaGreat
namespace Go.Proofs.YtiejkplemjkjoaaGreat
open Go.RowKit Go.ChangeShapes Go.WideShapes Go.Deep Go.Joins
theorem Xpi{α:Type}{n:Nat}{Q:Nat→α→Prop}(h:∀ i,i<n→∃ g,Q i g) : ∃ l:List α,l.length=n∧∀ i g,l[i]? = some g→Q i g:=by
 induction n with
 | zero=>exact ⟨[],rfl,fun i g h=>by simp at h⟩
 | succ n ih=>
  obtain ⟨l,h1,h2⟩:=ih fun i hi=>h i (by omega)
  obtain ⟨g,hg⟩:=h n (by omega)
  refine ⟨l++[g],by simp [h1],fun i g' hi=>?_⟩
  rcases Nat.lt_or_ge i n with hin|hin
  ·rw [List.getElem?_append_left (by omega)] at hi
   exact h2 i g' hi
  ·rw [List.getElem?_append_right (by omega)] at hi
   have:i-l.length=0:=by
    rcases Nat.eq_zero_or_pos (i-l.length) with h|h
    ·exact h
    ·rw [List.getElem?_eq_none (by simp;omega)] at hi;cases hi
   rw [this] at hi
   injection hi with hi
   subst hi
   have:i=n:=by omega
   subst this
   exact hg
theorem Xfp{α:Type}{w:World}{enc:α→List Value}{sz:Nat}(hsz:∀ x,(enc x).length=sz)(h0:0<sz){p:Addr}{l:List α}
  (h:∀ i g,l[i]? = some g→∀ j v,(enc g)[j]? = some v→w.cell? (p.add (i*sz+j))=some v) : ∃ E,Rd w w.heap.size E enc (some p) l:=by
 by_cases hl:l=[]
 ·subst hl;exact ⟨0,Rd.nil _ _ _ _ _⟩
 ·obtain ⟨g0,l',rfl⟩:=List.exists_cons_of_ne_nil hl
  obtain ⟨v0,hv0⟩ : ∃ v,(enc g0)[0]? = some v:=⟨_,List.getElem?_eq_getElem (by rw [hsz];exact h0)⟩
  have hc:=h 0 g0 rfl 0 v0 hv0;obtain ⟨b,off,spot⟩:=p;have hb:=Xi3 hc
  rw [X5p] at hb
  have hsp:spot=none:=by
   cases spot with
   | none=>rfl
   | some s=>simp [World.cell?,Addr.add] at hc;split at hc<;>simp_all
  subst hsp
  have hobj:∃ cs E fz,w.heap[b]? = some (.cells cs E fz):=by
   rw [X1w] at hc
   simp only [World.cell?] at hc
   split at hc
   ·rename_i c E fz hh;exact ⟨c,E,fz,hh⟩
   ·cases hc
  obtain ⟨cs,E,fz,hh⟩:=hobj
  refine ⟨E,fun _=>⟨b,off,cs,fz,rfl,hb,hh,fun j v hj=>?_⟩⟩
  have hjl:j<((g0::l').flatMap enc).length:=(List.getElem?_eq_some_iff.1 hj).1
  rw [Xl hsz] at hjl
  obtain ⟨x,hx,h1⟩:=X6w hsz hjl
  rw [h1] at hj
  have:=h _ _ hx _ _ hj
  rw [X1w,show j/sz*sz+j % sz=j from by rw [Nat.mul_comm];exact Nat.div_add_mod j sz] at this
  simpa [World.cell?,hh] using this
section
variable {H : Type} {enc : TypeId × Value → H} {w : World} {base fuel : Nat} {spare : Nat → Bool} {held : Bool}
end
section
variable {H : Type} {enc : TypeId × Value → H} {w : World} {base fuel : Nat} {spare : Nat → Bool} {held : Bool}
end
section
variable {H : Type} {enc : TypeId × Value → H} {w : World} {base fuel : Nat} {spare : Nat → Bool} {held : Bool}
end
end Go.Proofs.YtiejkplemjkjoaaGreat
namespace Go.Proofs.YtiejkplemjkjoaaGreat
open Go.ChangeShapes Go.WideShapes Go.ChangeAt Go.RowKit Go.Deep Go.Joins
set_option linter.unusedVariables false
theorem own:ownKnob Tryz.prog.godebug=none:=by kernel_rfl
theorem Xi5:laidOutB Tryz.prog=true:=by kernel_rfl
section
variable {H : Type} {enc : TypeId × Value → H} {P : Program}
theorem Xh1{f:Func}{s:ChangeSpec}{fresh handsOn:Bool}{W W':World}{args:Array Value}{v:Value}{ds gs:List (DataW H)}{before pa pv:List MemPlace}
  (hW:DataW.Whole enc P f.params.toList s.vars false W args.toList ds gs before)
  (hres:∀ (b:Nat) (sp:Nat→Bool) (hd:Bool),DataW.TrodAll enc P W' b sp hd f.resultTypes.toList (v.resultList f.resultTypes.size) (s.fn H (ds++gs)).results [])
  (hargs:∀ sp:Nat→Bool,(∀ p ∈ before,sp p.block=true)→DataW.TrodAll enc P W' 0 sp true f.params.toList args.toList (s.fn H (ds++gs)).args pa)
  (hvars:∀ sp:Nat→Bool,(∀ p ∈ before,sp p.block=true)→DataW.TrodVars enc P W' sp s.vars (s.fn H (ds++gs)).vars pv)
  (hps:before=pa++pv) (hb:Below W.heap.size W W') :
  s.post enc P f false fresh handsOn false W args v W':=by
 have hlt:∀ p ∈ before,p.block<W.heap.size:=fun p hp=>hW.lt p hp
 have hold:∀ p ∈ before,(fun b=>decide (b<W.heap.size)) p.block=true:=fun p hp=>by simpa using hlt p hp
 refine ⟨ds,gs,before,[],pa,pv,hW,hres _ _ _,hargs _ hold,hvars _ hold,World.keptBut_mono (fun p hp=>⟨hp,?_⟩) (hb.frame (· ∈ before)),fun h=>by cases h⟩
 rw [hps,List.mem_append] at hp
 exact Or.inr hp
end
end Go.Proofs.YtiejkplemjkjoaaGreat
namespace Go.Proofs.YtiejkplemjkjoaaGreat
open Go.RowKit
theorem X3a(x:Nat) : BitVec.ofInt 64 (x:Int)=BitVec.ofNat 64 x:=BitVec.ofInt_natCast 64 x
theorem X2v{x:Nat}(h:x<2^62) : (BitVec.ofNat 64 x).toNat=x:=by
 rw [BitVec.toNat_ofNat];exact Nat.mod_eq_of_lt (Nat.lt_of_lt_of_le h (by decide))
theorem X4s{x:Nat}(h:x<2^62) : IntKind.i64.wrap (x:Int)=(x:Int):=by
 rw [show (2:Nat)^62=4611686018427387904 from by decide] at h
 exact IntWalk.i64_in _ ⟨by omega,by omega⟩
theorem Xh3{x y:Nat}(h:x<2^62) : x &&& y<2^62:=Nat.lt_of_le_of_lt Nat.and_le_left h
theorem X4m{x y:Nat}(hx:x<2^62)(hy:y<2^62) : bits .and .i64 (x:Int) (y:Int)=((x &&& y:Nat) : Int):=by
 show IntKind.i64.wrap ((BitVec.ofInt 64 (x:Int) &&& BitVec.ofInt 64 (y:Int)).toNat:Int)=_
 rw [X3a,X3a,BitVec.toNat_and,X2v hx,X2v hy,X4s (Xh3 hx)]
theorem X1y{x y:Nat}(hx:x<2^62)(hy:y<2^62) : bits .or .i64 (x:Int) (y:Int)=((x ||| y:Nat) : Int):=by
 show IntKind.i64.wrap ((BitVec.ofInt 64 (x:Int) ||| BitVec.ofInt 64 (y:Int)).toNat:Int)=_
 rw [X3a,X3a,BitVec.toNat_or,X2v hx,X2v hy,X4s (Nat.or_lt_two_pow hx hy)]
theorem X17{x y:Nat}(hx:x<2^62)(hy:y<2^62) : bits .xor .i64 (x:Int) (y:Int)=((x ^^^ y:Nat) : Int):=by
 show IntKind.i64.wrap ((BitVec.ofInt 64 (x:Int) ^^^ BitVec.ofInt 64 (y:Int)).toNat:Int)=_
 rw [X3a,X3a,BitVec.toNat_xor,X2v hx,X2v hy,X4s (Nat.xor_lt_two_pow hx hy)]
def without(x y:Nat) : Nat:=x ^^^ (x &&& y)
theorem Xf5(x y i:Nat) : (without x y).testBit i=(x.testBit i&&!y.testBit i):=by
 rw [without,Nat.testBit_xor,Nat.testBit_and];cases x.testBit i<;>cases y.testBit i<;>rfl
theorem Xhc{x y:Nat}(h:x<2^62) : without x y<2^62:=Nat.xor_lt_two_pow h (Xh3 h)
theorem X37{m:Nat}(h:m<62) : 2^m<2^62:=Nat.pow_lt_pow_right (by decide) h
theorem X48{m:Nat}(h:m<62) : wr (1*2^m)=((2^m:Nat) : Int):=by
 rw [Int.one_mul,show ((2:Int)^m)=((2^m:Nat) : Int) from by push_cast;rfl]
 exact X4s (X37 h)
theorem Xiw(x m:Nat) : (x:Int)/2^m=((x >>> m:Nat) : Int):=by
 rw [Nat.shiftRight_eq_div_pow,show ((2:Int)^m)=((2^m:Nat) : Int) from by push_cast;rfl];rfl
theorem Xvf{x m:Nat} : 0<x >>> m↔2^m≤x:=by
 rw [Nat.shiftRight_eq_div_pow]
 have h2:0<2^m:=Nat.pow_pos (by decide)
 exact ⟨fun h=>(Nat.div_pos_iff.1 h).2,fun h=>Nat.div_pos h h2⟩
theorem Xsi(x m:Nat) : ((x >>> m) &&& 1==1)=x.testBit m:=by
 simp [Nat.testBit,Nat.and_comm,bne]
 have:=Nat.mod_two_eq_zero_or_one (x >>> m)
 rcases this with h|h<;>simp [h]
def setN(x:Nat) : List Nat:=(List.range 62).filter x.testBit
def setI(x:Nat) : List Int:=(setN x).map fun (k:Nat)=>(k:Int)
theorem X1j{x i:Nat}(hx:x<2^62) : i ∈ setN x↔x.testBit i=true:=by
 rw [setN,List.mem_filter,List.mem_range]
 constructor
 ·exact fun h=>h.2
 ·intro h
  refine ⟨?_,h⟩
  rcases Nat.lt_or_ge i 62 with h1|h1
  ·exact h1
  ·have:=Nat.testBit_lt_two_pow (Nat.lt_of_lt_of_le hx (Nat.pow_le_pow_right (by decide) h1))
   rw [this] at h;cases h
theorem Xcj{x k:Nat}(hk:k≤62)(hx:x<2^k) : (List.range k).filter x.testBit=setN x:=by
 have h0:((List.range (62-k)).map (k + ·)).filter x.testBit=[]:=by
  rw [List.filter_eq_nil_iff]
  intro i hi;obtain ⟨j,_,rfl⟩:=List.mem_map.1 hi
  rw [Nat.testBit_lt_two_pow (Nat.lt_of_lt_of_le hx (Nat.pow_le_pow_right (by decide) (Nat.le_add_right _ _)))];simp
 rw [setN,show List.range 62=List.range (k+(62-k)) from by rw [show k+(62-k)=62 from by omega],List.range_add,List.filter_append,h0,List.append_nil]
theorem Xfc{p:Nat→Bool}{k:Nat} : (List.range (k+1)).filter p=(List.range k).filter p++(if p k=true then [k] else []):=by
 rw [List.range_succ,List.filter_append]
 congr 1
 by_cases h:p k=true
 ·rw [if_pos h,List.filter_cons_of_pos h];rfl
 ·rw [if_neg h,List.filter_cons_of_neg h];rfl
def maskOf(p:Nat→Bool) : Nat→Nat
 | 0=>0
 | m+1=>maskOf p m ||| (if p m=true then 2^m else 0)
def RpL(p q:Gt×Nat) : Prop:=p.1.k≠12→q.1.k≠12→(commS q.1 p.1=false→p.2<q.2)∧(p.2=q.2→comS q.1 p.1=false)
def SchP(gs:List Gt)(t:Nat) : Prop:=∃ ps:List (Gt×Nat),ps.map Prod.fst=gs∧ps.Pairwise RpL∧∀ p ∈ ps,p.1.k≠12→1≤p.2∧p.2≤t
def nonW(g:Gt) : Bool:=g.k != 12
def Good(gs:List Gt)(f:Nat→Int)(i:Nat) : Prop:=∀ j,j<i→(commS (gs.getD i gZ) (gs.getD j gZ)=false→f j<f i)∧(f j=f i→comS (gs.getD i gZ) (gs.getD j gZ)=false)
def OkL(gs:List Gt)(t:Nat)(f:Nat→Int)(i:Nat) : Prop:=(gs.getD i gZ).k≠12→1≤f i∧f i≤(t:Int)∧Good gs f i
def layI(gs:List Gt)(t:Nat) : Nat→List Int→Bool
 | 0,_=>true
 | n+1,al=>if (gs.getD (gs.length-(n+1)) gZ).k=12 then layI gs t n al else (List.range t).any fun x=>decide (faultS gs (al.set (gs.length-(n+1)) ((x:Int)+1)) (gs.length-(n+1))=0)&&layI gs t n (al.set (gs.length-(n+1)) ((x:Int)+1))
theorem Xjx{al:List Int}{i j:Nat}{x:Int}(hi:i<al.length) : (al.set i x).getD j 0=if j=i then x else al.getD j 0:=by
 rw [List.getD_eq_getElem?_getD,List.getElem?_set,List.getD_eq_getElem?_getD]
 by_cases h:i=j
 ·rw [if_pos h,if_pos h.symm,if_pos (by omega)];rfl
 ·rw [if_neg h,if_neg (fun e=>h e.symm)]
def zerosL(n:Nat) : List Int:=List.replicate n 0
def leastL(gs:List Gt) : Nat:=((List.range (gs.length+1)).find? fun t=>layI gs t gs.length (zerosL gs.length)).getD 0
section
variable (l : List Gt)
def foP(i j:Nat) : Bool:=decide (j<i)&&!commS (l.getD i gZ) (l.getD j gZ)
def shP(i j:Nat) : Bool:=i != j&&comS (l.getD i gZ) (l.getD j gZ)
def foM(i:Nat) : Nat:=maskOf (foP l i) l.length
def shM(i:Nat) : Nat:=maskOf (shP l i) l.length
def okAt(d s i:Nat) : Bool:=shM l i &&& s==0&&without (foM l i) d==0
def stepB(d s:Nat) : Bool:=s &&& d==0&&(setN s).all (okAt l d s)
def fullM:Nat:=2^l.length-1
inductive Rch:Nat→Nat→Prop
 | zero:Rch 0 0
 | step {k d s:Nat} (h:Rch k d) (h1:1≤s) (h2:s<2^l.length) (h3:stepB l d s=true) : Rch (k+1) (d ||| s)
end
section
variable {l : List Gt}
def lowM(l:List Gt)(f:Nat→Nat)(s:Nat) : Nat:=maskOf (fun i=>decide (f i≤s)) l.length
def stepsL(l:List Gt)(d:Nat) : List Nat:=(List.range' 1 (2^l.length-1)).filter (stepB l d)
theorem X7i{d s:Nat} : s ∈ stepsL l d↔1≤s∧s<2^l.length∧stepB l d s=true:=by
 rw [stepsL,List.mem_filter,List.mem_range'_1]
 have:0<2^l.length:=Nat.pow_pos (by decide)
 constructor
 ·rintro ⟨h1,h2⟩;exact ⟨by omega,by omega,h2⟩
 ·rintro ⟨h1,h2,h3⟩;exact ⟨by omega,h3⟩
structure Bfs (l:List Gt) (far:List Int) (L:List Nat) (i q:Nat) : Prop where
 flen:far.length=2^l.length
 inL:∀ x ∈ L,x<2^l.length∧∃ d:Nat,far.getD x 0=(d:Int)∧Rch l d x
 neg:∀ x,x<2^l.length→0≤far.getD x 0→x ∈ L
 nod:L.Nodup
 srt:L.Pairwise (fun x y=>far.getD x 0≤far.getD y 0)
 cap:i<L.length→∀ y ∈ L,far.getD y 0≤far.getD (L.getD i 0) 0+1
 done:∀ j,j<i→j<L.length→∀ s ∈ stepsL l (L.getD j 0),0≤far.getD (L.getD j 0 ||| s) 0∧far.getD (L.getD j 0 ||| s) 0≤far.getD (L.getD j 0) 0+1
 part:i<L.length→∀ s ∈ (stepsL l (L.getD i 0)).take q,0≤far.getD (L.getD i 0 ||| s) 0∧far.getD (L.getD i 0 ||| s) 0≤far.getD (L.getD i 0) 0+1
 zero:0 ∈ L
theorem X5l{L:List Nat}{k:Nat}(h:k<L.length) : L.getD k 0 ∈ L:=by
 rw [List.getD_eq_getElem?_getD,List.getElem?_eq_getElem h];exact List.getElem_mem h
theorem Xk9{L M:List Nat}{k:Nat}(h:k<L.length) : (L++M).getD k 0=L.getD k 0:=by
 simp only [List.getD_eq_getElem?_getD];rw [List.getElem?_append_left h]
theorem Bfs.inj{far:List Int}{L:List Nat}{i q:Nat}(h:Bfs l far L i q)(hi:i<L.length) : L.getD i 0<2^l.length:=(h.inL _ (X5l hi)).1
theorem Bfs.old{far:List Int}{L:List Nat}{i q s:Nat}(h:Bfs l far L i q)(hi:i<L.length)(hs:(stepsL l (L.getD i 0))[q]? = some s)(hf:0≤far.getD (L.getD i 0 ||| s) 0) : Bfs l far L i (q+1):=by
 refine ⟨h.flen,h.inL,h.neg,h.nod,h.srt,h.cap,h.done,fun _ s' hs'=>?_,h.zero⟩
 obtain ⟨hq,hqe⟩:=List.getElem?_eq_some_iff.1 hs;have hm:=X7i.1 (hqe▸List.getElem_mem hq)
 rw [List.take_succ_eq_append_getElem hq,List.mem_append] at hs'
 rcases hs' with hs'|hs'
 ·exact h.part hi s' hs'
 ·rw [List.mem_singleton.1 hs',hqe]
  exact ⟨hf,h.cap hi _ (h.neg _ (Nat.or_lt_two_pow (h.inj hi) hm.2.1) hf)⟩
theorem Bfs.new{far:List Int}{L:List Nat}{i q s:Nat}(h:Bfs l far L i q)(hi:i<L.length)(hs:(stepsL l (L.getD i 0))[q]? = some s)(hf:far.getD (L.getD i 0 ||| s) 0<0) :
  Bfs l (far.set (L.getD i 0 ||| s) (far.getD (L.getD i 0) 0+1)) (L++[L.getD i 0 ||| s]) i (q+1):=by
 obtain ⟨hq,hqe⟩:=List.getElem?_eq_some_iff.1 hs;have hm:=X7i.1 (hqe▸List.getElem_mem hq)
 have hx:L.getD i 0 ||| s<2^l.length:=Nat.or_lt_two_pow (h.inj hi) hm.2.1
 obtain ⟨x,hxe⟩ : ∃ x,x=L.getD i 0 ||| s:=⟨_,rfl⟩
 have hxL:x ∉ L:=fun hc=>by
  obtain ⟨_,d,hd,_⟩:=h.inL x hc
  rw [← hxe] at hf
  omega
 have hget:∀ y,(far.set x (far.getD (L.getD i 0) 0+1)).getD y 0=if y=x then far.getD (L.getD i 0) 0+1 else far.getD y 0:=fun y=>Xjx (by rw [h.flen,hxe];exact hx)
 have hgL:∀ y ∈ L,(far.set x (far.getD (L.getD i 0) 0+1)).getD y 0=far.getD y 0:=fun y hy=>by
  rw [hget,if_neg (fun e:y=x=>hxL (e▸hy))]
 have hiL:=hgL _ (X5l hi)
 have hge:∀ j,j<L.length→(L++[x]).getD j 0=L.getD j 0:=fun j hj=>Xk9 hj
 obtain ⟨_,di,hdi,hri⟩:=h.inL _ (X5l hi)
 rw [← hxe] at hf hx ⊢
 have mono:∀ y,y<2^l.length→0≤far.getD y 0→(far.set x (far.getD (L.getD i 0) 0+1)).getD y 0=far.getD y 0:=fun y h1 h2=>hgL y (h.neg y h1 h2)
 refine ⟨by rw [List.length_set];exact h.flen,fun y hy=>?_,fun y hy h0=>?_,?_,?_,fun _ y hy=>?_,fun j hj hjl s' hs'=>?_,fun _ s' hs'=>?_,List.mem_append_left _ h.zero⟩
 ·rcases List.mem_append.1 hy with hy|hy
  ·rw [hgL y hy];exact h.inL y hy
  ·rw [List.mem_singleton.1 hy]
   refine ⟨hx,di+1,by rw [hget,if_pos rfl,hdi];rfl,?_⟩
   rw [hxe];exact Rch.step hri hm.1 hm.2.1 hm.2.2
 ·rw [hget] at h0
  split at h0
  ·rename_i e;rw [e];simp
  ·exact List.mem_append_left _ (h.neg y hy h0)
 ·rw [List.nodup_append]
  exact ⟨h.nod,by simp,fun y hy z hz e=>hxL (by rw [List.mem_singleton.1 hz] at e;exact e▸hy)⟩
 ·rw [List.pairwise_append]
  refine ⟨h.srt.imp_of_mem fun {y z} hy hz hyz=>by rw [hgL y hy,hgL z hz];exact hyz,by simp,fun y hy z hz=>?_⟩
  rw [List.mem_singleton.1 hz,hgL y hy,hget,if_pos rfl]
  exact h.cap hi y hy
 ·rw [hge i hi,hiL]
  rcases List.mem_append.1 hy with hy|hy
  ·rw [hgL y hy];exact h.cap hi y hy
  ·rw [List.mem_singleton.1 hy,hget,if_pos rfl];omega
 ·have hjL:j<L.length:=by omega
  rw [hge j hjL] at hs' ⊢
  rw [hgL _ (X5l hjL)]
  obtain ⟨e1,e2⟩:=h.done j hj hjL s' hs'
  rw [mono _ (Nat.or_lt_two_pow (h.inL _ (X5l hjL)).1 (X7i.1 hs').2.1) e1]
  exact ⟨e1,e2⟩
 ·rw [hge i hi] at hs' ⊢
  rw [hiL]
  rw [List.take_succ_eq_append_getElem hq,List.mem_append] at hs'
  rcases hs' with hs'|hs'
  ·obtain ⟨e1,e2⟩:=h.part hi s' hs'
   rw [mono _ (Nat.or_lt_two_pow (h.inj hi) (X7i.1 (List.mem_of_mem_take hs')).2.1) e1]
   exact ⟨e1,e2⟩
  ·rw [List.mem_singleton.1 hs',hqe,← hxe,hget,if_pos rfl];omega
theorem Bfs.next{far:List Int}{L:List Nat}{i q:Nat}(h:Bfs l far L i q)(hi:i<L.length)(hq:(stepsL l (L.getD i 0)).length≤q) : Bfs l far L (i+1) 0:=by
 refine ⟨h.flen,h.inL,h.neg,h.nod,h.srt,fun hi1 y hy=>?_,fun j hj hjl s hs=>?_,fun _ s hs=>by simp at hs,h.zero⟩
 ·have h1:=h.cap hi y hy
  have h2:=(List.pairwise_iff_getElem.1 h.srt) i (i+1) hi hi1 (by omega)
  have g1:L.getD i 0=L[i]:=by rw [List.getD_eq_getElem?_getD,List.getElem?_eq_getElem hi];rfl
  have g2:L.getD (i+1) 0=L[i+1]:=by rw [List.getD_eq_getElem?_getD,List.getElem?_eq_getElem hi1];rfl
  rw [g1] at h1
  rw [g2];omega
 ·by_cases hji:j=i
  ·subst hji
   exact h.part hi s (by rw [List.take_of_length_le hq];exact hs)
  ·exact h.done j (by omega) hjl s hs
end
theorem Xhy{x k:Nat} : (0<(x:Int)/2^k)↔2^k≤x:=by
 rw [Xiw,← Xvf];omega
theorem Xnm{x k:Nat}(hx:x<2^62)(h:2^k≤x) : k<62:=(Nat.pow_lt_pow_iff_right (a:=2) (by decide)).1 (Nat.lt_of_le_of_lt h hx)
theorem Xyd{x k:Nat}(hx:x<2^62) : (bits .and .i64 ((x:Int)/2^k) 1==1)=x.testBit k:=by
 rw [Xiw,show (1:Int)=((1:Nat) : Int) from rfl,X4m (Nat.lt_of_le_of_lt (by rw [Nat.shiftRight_eq_div_pow];exact Nat.div_le_self _ _) hx) (by decide)]
 rw [← Xsi,Bool.eq_iff_iff,beq_iff_eq,beq_iff_eq];omega
def cI(l:List Nat) : List Int:=l.map fun (k:Nat)=>(k:Int)
theorem Xs2(l:List Nat)(x:Nat) : cI (l++[x])=cI l++[(x:Int)]:=by simp [cI]
theorem Xk8{x k:Nat}{m:List Int}(hm:m=cI ((List.range k).filter x.testBit)) : (x.testBit k=true→m++[(k:Int)]=cI ((List.range (k+1)).filter x.testBit))∧(x.testBit k=false→m=cI ((List.range (k+1)).filter x.testBit)):=by
 constructor
 ·intro h;rw [Xfc,if_pos h,Xs2,hm]
 ·intro h;rw [Xfc,if_neg (by rw [h];simp),List.append_nil,hm]
def maskV(l:List Int) : Nat:=l.foldl (fun q v=>q ||| 2^v.toNat) 0
def foL(l:List Gt) : List Int:=cI ((List.range l.length).map (foM l))
def shL(l:List Gt) : List Int:=cI ((List.range l.length).map (shM l))
theorem Xt5{l:List Gt}{i:Nat}(hi:i<l.length) : (shL l)[i]? = some ((shM l i:Nat) : Int):=by simp [shL,cI,hi]
theorem Xsx(l:List Gt) : (shL l).length=l.length:=by simp [shL,cI]
structure ShM (l:List Gt) (i j:Nat) (m:List Int) : Prop where
 len:m.length=l.length
 lo:∀ q,q<i→m.getD q 0=((shM l q:Nat) : Int)
 at':i<l.length→m.getD i 0=((maskOf (shP l i) j:Nat) : Int)
 up:∀ q,i<q→q<l.length→m.getD q 0=0
theorem ShM.no{l:List Gt}{i j:Nat}{m:List Int}(h:ShM l i j m)(hp:shP l i j=false) : ShM l i (j+1) m:=
 ⟨h.len,h.lo,fun hi=>by rw [h.at' hi,maskOf,if_neg (by rw [hp];simp),Nat.or_zero],h.up⟩
theorem ShM.next{l:List Gt}{i:Nat}{m:List Int}(h:ShM l i l.length m)(hi:i<l.length) : ShM l (i+1) 0 m:=
 ⟨h.len,fun q hq=>by
  by_cases e:q=i
  ·rw [e];exact h.at' hi
  ·exact h.lo q (by omega),fun h1=>by rw [h.up _ (by omega) h1];rfl,fun q h1 h2=>h.up q (by omega) h2⟩
theorem ShM.done{l:List Gt}{i j:Nat}{m:List Int}(h:ShM l i j m)(hi:l.length≤i) : m=shL l:=by
 apply List.ext_getElem?
 intro q
 rcases Nat.lt_or_ge q l.length with h1|h1
 ·rw [Xt5 h1,Xoj (by rw [h.len];exact h1),h.lo q (by omega)]
 ·rw [List.getElem?_eq_none (by rw [h.len];exact h1),List.getElem?_eq_none (by rw [Xsx];exact h1)]
def stepsU(l:List Gt)(d k:Nat) : List Nat:=(List.range' 1 (k-1)).filter (stepB l d)
def llB(c:Cx) : Bool:=cOk c&&decide ((c.gs.filter nonW).length≤8)
def llI(c:Cx) : Int:=if llB c=true then (leastL c.gs:Int) else 0
structure TurnV (w w':World) (b:Nat) (r:Option Nat) : Prop where
 os:w'.os=w.os
 tape:w'.tape=w.tape
 output:w'.output=w.output
 size:w.heap.size≤w'.heap.size
 block:∀ k,k<w.heap.size→k≠b→some k≠r→w'.heap[k]? = w.heap[k]?
theorem TurnV.refl(w:World)(b:Nat)(r:Option Nat) : TurnV w w b r:=⟨rfl,rfl,rfl,Nat.le_refl _,fun _ _ _ _=>rfl⟩
section
variable {w0 w w' : World} {b : Nat} {r : Option Nat} {A : Option Addr} {n m c c' : Nat}
theorem TurnV.mid(h:TurnV w w' b (Value.slice A n c).ownBlock)(hb:b<w.heap.size) : ∃ w1,Only b w w1∧w1.grownBy w' (Value.slice A n c).ownBlock:=by
 cases hx:w'.heap[b]? with
 | none=>
  have:=Array.getElem?_eq_none_iff.1 hx
  have:=h.size
  omega
 | some o=>
  refine ⟨{ w with heap:=w.heap.setIfInBounds b o },⟨rfl,rfl,rfl,by simp,fun k hk=>?_⟩,⟨h.os,h.tape,h.output,by simpa using h.size,fun k hk hn=>?_⟩⟩
  ·show (w.heap.setIfInBounds b o)[k]? = _
   rw [Array.getElem?_setIfInBounds_ne (Ne.symm hk)]
  ·show w'.heap[k]? = (w.heap.setIfInBounds b o)[k]?
   have hk':k<w.heap.size:=by simpa using hk
   by_cases hkb:k=b
   ·subst hkb
    rw [hx,Array.getElem?_setIfInBounds_self_of_lt hk']
   ·rw [Array.getElem?_setIfInBounds_ne (Ne.symm hkb)]
    exact h.block k hk' hkb hn
end
theorem MemoG.app{α:Type}{w w':World}{b B:Nat}{E:TypeId}{sz:Nat}{enc:α→List Value}{A:Option Addr}{n c c':Nat}{l:List α}(h:MemoG w b)(ho:Own w B E sz enc A c l)(hg:w.grownBy w' (Value.slice A n c').ownBlock) : MemoG w' b:=by
 obtain ⟨l2,cl,hL,hg2⟩:=h
 refine ⟨l2,cl,?_,hg2⟩
 have hlt:=hL.lt
 refine (hg.block b hlt fun hk=>?_).trans hL
 rw [Xak A n l.length c' c] at hk
 obtain ⟨_,_,cs,fz,h3⟩:=ho.block hk.symm
 unfold MemoL at hL
 rw [hL] at h3;cases h3
theorem Own.onlyM{α:Type}{w w':World}{b B:Nat}{E:TypeId}{sz:Nat}{enc:α→List Value}{A:Option Addr}{c:Nat}{l:List α}(h:Own w B E sz enc A c l)(ho:Only b w w')(hm:MemoG w b) : Own w' B E sz enc A c l:=by
 refine ⟨h.1,?_⟩
 rcases h.2 with k1|⟨g,cap,cur,k1,k2,k3,k4⟩
 ·exact .inl k1
 ·refine .inr ⟨g,cap,cur,k1,k2,(ho.block g fun e=>?_).trans k3,k4⟩
  obtain ⟨l2,cl,hL,_⟩:=hm
  unfold MemoL at hL
  rw [e,hL] at k3;cases k3
def tryL(gs:List Gt)(t n:Nat)(al:List Int)(x:Nat) : Bool:=decide (faultS gs (al.set (gs.length-n) ((x:Int)+1)) (gs.length-n)=0)&&layI gs t (n-1) (al.set (gs.length-n) ((x:Int)+1))
def cntP(p:Int→Bool)(gs:List Gt) : Nat:=(gs.filter fun g=>p g.k).length
theorem Xz7(o:World)(x:Nat)(hx:x<2^62) : Ret Tryz.prog 66 [vi (x:Int)] o (fun v w=>∃ A c,v=.slice A (setI x).length c∧Own w o.heap.size 3 1 encI A c (setI x)∧Below o.heap.size o w):=by
 refine enter Tryz.func66 rfl 23 rfl rfl ?_;intro a d
 have g:=bz o
 refine Zs d fun _ aI=>?_;refine Za rfl<|Zx aI fun a d _ aJ=>?_;refine Za rfl<|ZX aJ fun a d _ aK=>?_;refine Zs d fun _ aL=>?_;refine Za rfl<|Zt aL fun a d=>?_;refine wp_block<|X06 (σ:=Nat×(List Int)) (fun (s:Nat×(List Int)) (a:Act) (w:World)=>match s with|(k,m)=>∃ A7 c7,Fr a 23 [(0,vi (x:Int)),(3,.slice A7 m.length c7),(4,vi (k:Int))]∧(k≤62)∧(m=cI ((List.range k).filter x.testBit))∧(m.length≤k)∧Own w o.heap.size 3 1 encI A7 c7 m∧Below o.heap.size o w) (fun (s:Nat×(List Int))=>match s with|(k,m)=>62-k) (0,[]) ?_ ?_
 ·exact ⟨none,0,d.sb,(Nat.zero_le _),rfl,(Nat.zero_le _),(Own.nil _ _ _ _ _),g⟩
 rintro ⟨k,m⟩ a w1 ⟨A7,c7,d,hk,hm,aU,f,g⟩;refine wp_seq_k fun _ aM=>?_;refine Zs d fun _ aN=>?_;refine Zm rfl<|Zm rfl<|Ze (X5a (m:=k) Tryz.underlying3 Tryz.underlying67 rfl rfl (by omega))<|Ze (X6v (m:=k) rfl rfl rfl (by omega))<|Ze (X42 rfl rfl) ?_;refine Zt aN fun a d=>?_
 refine Xg d rfl (fun b=>?_) (fun b=>?_)
 ·have aA:=b;have b:=of_decide_eq_true b;have aO:=Xhy.1 b;have aT:=Xnm hx aO;obtain ⟨p,q⟩:=Xk8 (k:=k) hm;refine wp_skip<|aM _ _<|wp_seq_k fun _ t=>?_;refine wp_block<|Zs d fun _ aD=>?_;refine Zm rfl<|Zm rfl<|Ze (X5a (m:=k) Tryz.underlying3 Tryz.underlying67 rfl rfl (by omega))<|Ze (X6v (m:=k) rfl rfl rfl (by omega))<|Ze (X69 rfl rfl) ?_;refine Ze (X0l rfl rfl)<|Zt aD fun a d=>?_
  refine Xg d rfl (fun e=>?_) (fun e=>?_)
  ·have aB:=e
   have i:x.testBit k=true:=by rw [← Xyd hx];exact e
   refine Zr d<|Zm rfl<|Zm rfl<|Zf (Xb (k:=1) (vs:=[vi (k:Int)]) (zs:=[vi (k:Int)]) rfl X0f X2m rfl rfl) ?_;rintro _ w2 ⟨aW,rfl,u,hE,j⟩;have aP:=Nat.le_trans g.size u;have n:=f.away u;have f:=f.below hE;have g:=btr g hE;refine Zf (X1e (enc:=encI) (l:=(m)) (l2:=([(k:Int)])) (B0:=o.heap.size) rfl rfl X0f X2m X0h X8w f (Rd.of_blk j rfl _ j.lt) (by simp only [maxLen];simp;omega) (by simp;omega) g.size) ?_;rintro _ w3 ⟨aQ,aR,rfl,aE,hg,aF⟩
   have y:Own _ o.heap.size 3 1 encI _ _ (m):=f
   have aC:=aF _ j.lt n;clear aF;have g:=Below.app g y hg (Nat.le_refl _) g.size;clear y hg;refine Za rfl ?_;refine Zn fun a d=>?_;refine Xa<|t _ _<|Zr d<|Zm rfl<|Ze (Xu rfl rfl (by omega) (by omega))<|Za rfl ?_;refine Zn fun a d=>?_;refine Xd ?_;exact ⟨(k+1,m++([(k:Int)])),⟨aQ,aR,d.sb,(by omega),(by first|exact p i|exact q i),(by first|omega|(simp;omega)),aE,g⟩,(by first|omega|(dsimp only;omega))⟩
  have aB:=e
  have i:x.testBit k=false:=by rw [← Xyd hx];exact e
  refine wp_skip<|Xa<|t _ _<|Zr d ?_;refine Zm rfl<|Ze (Xu rfl rfl (by omega) (by omega))<|Za rfl ?_;refine Zn fun a d=>?_;refine Xd ?_;exact ⟨(k+1,m),⟨A7,c7,d.sb,(by omega),(by first|exact p i|exact q i),(by first|omega|(simp;omega)),f,g⟩,(by first|omega|(dsimp only;omega))⟩
 have aA:=b;have b:=of_decide_eq_false b
 have aS:x<2^k:=by
  rcases Nat.lt_or_ge x (2^k) with h9|h9
  ·exact h9
  ·exact absurd (Xhy.2 h9) b
 have aG:setI x=m:=by rw [hm,Xcj hk aS];rfl
 refine wp_exit<|Xi<|Xi<|X03 ?_;refine aK _ _<|Zs d fun _ aH=>?_;refine Zm rfl<|Za rfl<|Zt aH fun a d=>?_
 refine wp_ret (X3 d (Xz d rfl rfl) ?_)
 rw [aG]
 exact ⟨A7,c7,rfl,f,g⟩
end Go.Proofs.YtiejkplemjkjoaaGreat
namespace Go.Proofs.YtiejkplemjkjoaaGreat
instance:_root_.Add Rg:=⟨fun x y=>⟨x.a+y.a,x.b+y.b,x.c+y.c,x.d+y.d⟩⟩
instance:_root_.Mul Rg:=⟨fun x y=>⟨x.a*y.a-x.b*y.d-x.c*y.c-x.d*y.b,x.a*y.b+x.b*y.a-x.c*y.d-x.d*y.c,x.a*y.c+x.b*y.b+x.c*y.a-x.d*y.d,x.a*y.d+x.b*y.c+x.c*y.b+x.d*y.a⟩⟩
instance:_root_.Neg Rg:=⟨fun x=>⟨-x.a,-x.b,-x.c,-x.d⟩⟩
instance:_root_.Sub Rg:=⟨fun x y=>⟨x.a-y.a,x.b-y.b,x.c-y.c,x.d-y.d⟩⟩
instance:NatCast Rg:=⟨fun n=>⟨n,0,0,0⟩⟩
instance:IntCast Rg:=⟨fun n=>⟨n,0,0,0⟩⟩
instance (n:Nat) : OfNat Rg n:=⟨⟨n,0,0,0⟩⟩
def rgPow(x:Rg) : Nat→Rg
 | 0=>1
 | n+1=>rgPow x n*x
instance:HPow Rg Nat Rg:=⟨rgPow⟩
instance:SMul Nat Rg:=⟨fun n x=>(n:Rg)*x⟩
instance:SMul Int Rg:=⟨fun n x=>(n:Rg)*x⟩
theorem X30{x y:Rg}(h1:x.a=y.a)(h2:x.b=y.b)(h3:x.c=y.c)(h4:x.d=y.d) : x=y:=by
 obtain ⟨x1,x2,x3,x4⟩:=x;obtain ⟨y1,y2,y3,y4⟩:=y
 simp only at h1 h2 h3 h4
 subst h1 h2 h3 h4
 rfl
theorem Xio(x y:Rg) : (x+y).a=x.a+y.a:=rfl
theorem Xjn(x y:Rg) : (x+y).b=x.b+y.b:=rfl
theorem Xiu(x y:Rg) : (x+y).c=x.c+y.c:=rfl
theorem Xis(x y:Rg) : (x+y).d=x.d+y.d:=rfl
theorem Xa2(x y:Rg) : (x*y).a=x.a*y.a-x.b*y.d-x.c*y.c-x.d*y.b:=rfl
theorem Xaf(x y:Rg) : (x*y).b=x.a*y.b+x.b*y.a-x.c*y.d-x.d*y.c:=rfl
theorem Xa5(x y:Rg) : (x*y).c=x.a*y.c+x.b*y.b+x.c*y.a-x.d*y.d:=rfl
theorem Xa6(x y:Rg) : (x*y).d=x.a*y.d+x.b*y.c+x.c*y.b+x.d*y.a:=rfl
theorem X01(a:Rg) : a+0=a:=X30 (Int.add_zero _) (Int.add_zero _) (Int.add_zero _) (Int.add_zero _)
theorem X07(a:Rg) : a*1=a:=by
 have e1:(1:Rg).a=1:=rfl
 have e2:(1:Rg).b=0:=rfl
 have e3:(1:Rg).c=0:=rfl
 have e4:(1:Rg).d=0:=rfl
 apply X30<;>simp only [Xa2,Xaf,Xa5,Xa6,e1,e2,e3,e4]<;>grind
theorem Xy(a:Rg) : 0*a=0:=by
 have e1:(0:Rg).a=0:=rfl
 have e2:(0:Rg).b=0:=rfl
 have e3:(0:Rg).c=0:=rfl
 have e4:(0:Rg).d=0:=rfl
 apply X30<;>simp only [Xa2,Xaf,Xa5,Xa6,e1,e2,e3,e4]<;>grind
theorem X00(a b:Rg) : a*b=b*a:=by (apply X30<;>simp only [Xio,Xjn,Xiu,Xis,Xa2,Xaf,Xa5,Xa6]<;>grind)
theorem X0g(a b c:Rg) : a*(b+c)=a*b+a*c:=by (apply X30<;>simp only [Xio,Xjn,Xiu,Xis,Xa2,Xaf,Xa5,Xa6]<;>grind)
theorem X0e(a b:Rg) : a+b=b+a:=X30 (Int.add_comm _ _) (Int.add_comm _ _) (Int.add_comm _ _) (Int.add_comm _ _)
theorem X02(a b c:Rg) : a+b+c=a+(b+c):=X30 (Int.add_assoc _ _ _) (Int.add_assoc _ _ _) (Int.add_assoc _ _ _) (Int.add_assoc _ _ _)
theorem Xe(a b c:Rg) : a*b*c=a*(b*c):=by (apply X30<;>simp only [Xio,Xjn,Xiu,Xis,Xa2,Xaf,Xa5,Xa6]<;>grind)
theorem Xf(a:Rg) : 1*a=a:=by rw [X00,X07]
theorem Xn(a:Rg) : a*0=0:=by rw [X00,Xy]
theorem X0c(a:Rg) : 0+a=a:=by rw [X0e,X01]
theorem X0t(a b c:Rg) : (a+b)*c=a*c+b*c:=by rw [X00,X0g,X00 c a,X00 c b]
theorem Xo(a b c:Rg) : a*(b*c)=b*(a*c):=by rw [← Xe,← Xe,X00 a b]
theorem Xp(a b c:Rg) : a+(b+c)=b+(a+c):=by rw [← X02,← X02,X0e a b]
def s2:Rg:=⟨0,1,0,-1⟩
def om:Rg:=⟨0,1,0,0⟩
theorem Xz4:s2*s2=2:=by decide
theorem om8:om^8=1:=by decide
theorem Xhs{x y:Rg}(h:2*x=2*y) : x=y:=by
 have e1:(2:Rg).a=2:=rfl
 have e2:(2:Rg).b=0:=rfl
 have e3:(2:Rg).c=0:=rfl
 have e4:(2:Rg).d=0:=rfl
 have h1:=congrArg Rg.a h;have h2:=congrArg Rg.b h;have h3:=congrArg Rg.c h;have h4:=congrArg Rg.d h
 simp only [Xa2,Xaf,Xa5,Xa6,e1,e2,e3,e4] at h1 h2 h3 h4
 apply X30<;>omega
theorem Xkn{x y:Rg}(h:s2*x=s2*y) : x=y:=by
 apply Xhs
 rw [← Xz4,Xe,Xe,h]
theorem X3w:∀ (m:Nat) {x y:Rg},s2^m*x=s2^m*y→x=y
 | 0,x,y,h=>by
  have e:s2^0=1:=rfl
  rwa [e,Xf,Xf] at h
 | m+1,x,y,h=>by
  have e:s2^(m+1)=s2^m*s2:=rfl
  rw [e] at h
  refine Xkn (X3w m ?_)
  rw [← Xe,← Xe]
  exact h
theorem X2a(x:Rg)(m n:Nat) : x^(m+n)=x^m*x^n:=by
 induction n with
 | zero=>show _=_*(1:Rg);rw [X07];rfl
 | succ n ih=>
  have e1:x^(m+(n+1))=x^(m+n)*x:=rfl
  have e2:x^(n+1)=x^n*x:=rfl
  rw [e1,e2,ih]
  exact Xe _ _ _
theorem Xj1{x y:Rg}(hx:rOk x=true)(hy:rOk y=true) : rAdd x y=x+y:=by
 have h1:=X3e.1 hx;have h2:=X3e.1 hy
 refine X30 ?_ ?_ ?_ ?_<;>exact X0s (by omega) (by omega)
theorem X2c{p q:Int}(h1:-1000000000≤p∧p≤1000000000)(h2:-1000000000≤q∧q≤1000000000) : -1000000000000000000≤p*q∧p*q≤1000000000000000000:=by
 have h:(p*q).natAbs≤1000000000*1000000000:=by
  rw [Int.natAbs_mul]
  exact Nat.mul_le_mul (by omega) (by omega)
 omega
theorem Xxh{p q r t:Int}(h1:-1000000000000000000≤p∧p≤1000000000000000000)(h2:-1000000000000000000≤q∧q≤1000000000000000000)(h3:-1000000000000000000≤r∧r≤1000000000000000000)(h4:-1000000000000000000≤t∧t≤1000000000000000000) :
  wr (wr (wr (wr p-wr q)-wr r)-wr t)=p-q-r-t:=by
 have e1:wr p=p:=X0s (by omega) (by omega)
 have e2:wr q=q:=X0s (by omega) (by omega)
 have e3:wr r=r:=X0s (by omega) (by omega)
 have e4:wr t=t:=X0s (by omega) (by omega)
 have e5:wr (p-q)=p-q:=X0s (by omega) (by omega)
 have e6:wr (p-q-r)=p-q-r:=X0s (by omega) (by omega)
 rw [e1,e2,e3,e4,e5,e6]
 exact X0s (by omega) (by omega)
theorem Xxt{p q r t:Int}(h1:-1000000000000000000≤p∧p≤1000000000000000000)(h2:-1000000000000000000≤q∧q≤1000000000000000000)(h3:-1000000000000000000≤r∧r≤1000000000000000000)(h4:-1000000000000000000≤t∧t≤1000000000000000000) :
  wr (wr (wr (wr p+wr q)-wr r)-wr t)=p+q-r-t:=by
 have e1:wr p=p:=X0s (by omega) (by omega)
 have e2:wr q=q:=X0s (by omega) (by omega)
 have e3:wr r=r:=X0s (by omega) (by omega)
 have e4:wr t=t:=X0s (by omega) (by omega)
 have e5:wr (p+q)=p+q:=X0s (by omega) (by omega)
 have e6:wr (p+q-r)=p+q-r:=X0s (by omega) (by omega)
 rw [e1,e2,e3,e4,e5,e6]
 exact X0s (by omega) (by omega)
theorem Xx1{p q r t:Int}(h1:-1000000000000000000≤p∧p≤1000000000000000000)(h2:-1000000000000000000≤q∧q≤1000000000000000000)(h3:-1000000000000000000≤r∧r≤1000000000000000000)(h4:-1000000000000000000≤t∧t≤1000000000000000000) :
  wr (wr (wr (wr p+wr q)+wr r)-wr t)=p+q+r-t:=by
 have e1:wr p=p:=X0s (by omega) (by omega)
 have e2:wr q=q:=X0s (by omega) (by omega)
 have e3:wr r=r:=X0s (by omega) (by omega)
 have e4:wr t=t:=X0s (by omega) (by omega)
 have e5:wr (p+q)=p+q:=X0s (by omega) (by omega)
 have e6:wr (p+q+r)=p+q+r:=X0s (by omega) (by omega)
 rw [e1,e2,e3,e4,e5,e6]
 exact X0s (by omega) (by omega)
theorem Xug{p q r t:Int}(h1:-1000000000000000000≤p∧p≤1000000000000000000)(h2:-1000000000000000000≤q∧q≤1000000000000000000)(h3:-1000000000000000000≤r∧r≤1000000000000000000)(h4:-1000000000000000000≤t∧t≤1000000000000000000) :
  wr (wr (wr (wr p+wr q)+wr r)+wr t)=p+q+r+t:=by
 have e1:wr p=p:=X0s (by omega) (by omega)
 have e2:wr q=q:=X0s (by omega) (by omega)
 have e3:wr r=r:=X0s (by omega) (by omega)
 have e4:wr t=t:=X0s (by omega) (by omega)
 have e5:wr (p+q)=p+q:=X0s (by omega) (by omega)
 have e6:wr (p+q+r)=p+q+r:=X0s (by omega) (by omega)
 rw [e1,e2,e3,e4,e5,e6]
 exact X0s (by omega) (by omega)
theorem Xhv{x y:Rg}(hx:rOk x=true)(hy:rOk y=true) : rMul x y=x*y:=by
 obtain ⟨a1,a2,a3,a4⟩:=X3e.1 hx;obtain ⟨b1,b2,b3,b4⟩:=X3e.1 hy
 have p11:=X2c a1 b1
 have p12:=X2c a1 b2
 have p13:=X2c a1 b3
 have p14:=X2c a1 b4
 have p21:=X2c a2 b1
 have p22:=X2c a2 b2
 have p23:=X2c a2 b3
 have p24:=X2c a2 b4
 have p31:=X2c a3 b1
 have p32:=X2c a3 b2
 have p33:=X2c a3 b3
 have p34:=X2c a3 b4
 have p41:=X2c a4 b1
 have p42:=X2c a4 b2
 have p43:=X2c a4 b3
 have p44:=X2c a4 b4
 unfold rMul
 refine X30 ?_ ?_ ?_ ?_
 ·exact Xxh p11 p24 p33 p42
 ·exact Xxt p12 p21 p34 p43
 ·exact Xx1 p13 p22 p31 p44
 ·exact Xug p14 p23 p32 p41
theorem Xbc(x:Rg) : s2*x=⟨x.b-x.d,x.a+x.c,x.b+x.d,x.c-x.a⟩:=by
 have e1:s2.a=0:=rfl
 have e2:s2.b=1:=rfl
 have e3:s2.c=0:=rfl
 have e4:s2.d = -1:=rfl
 refine X30 ?_ ?_ ?_ ?_<;>simp only [Xa2,Xaf,Xa5,Xa6,e1,e2,e3,e4]<;>grind
theorem Xbf{x:Rg}(hx:rOk x=true) : rRoot x=s2*x:=by
 have h1:=X3e.1 hx
 rw [Xbc]
 refine X30 ?_ ?_ ?_ ?_<;>exact X0s (by omega) (by omega)
theorem Xov{x:Rg}(hx:rOk x=true)(he:rEven x=true) : s2*rHalf x=x:=by
 have h1:=X3e.1 hx;have h2:=(Xcr hx).1 he
 have e:=Xbf hx
 rw [Xbc] at e
 have hh:rHalf x=⟨(x.b-x.d)/2,(x.a+x.c)/2,(x.b+x.d)/2,(x.c-x.a)/2⟩:=by
  unfold rHalf
  rw [e]
  dsimp only
  rw [Int.tdiv_eq_ediv_of_dvd (by omega),Int.tdiv_eq_ediv_of_dvd (by omega),Int.tdiv_eq_ediv_of_dvd (by omega),Int.tdiv_eq_ediv_of_dvd (by omega)]
  rw [X0s (by omega) (by omega),X0s (by omega) (by omega),X0s (by omega) (by omega),X0s (by omega) (by omega)]
 rw [Xbc,hh]
 refine X30 ?_ ?_ ?_ ?_<;>dsimp only<;>omega
theorem Xn9{x y:Rg}(hx:rOk x=true)(h:x=s2*y) : rEven x=true:=by
 rw [Xcr hx]
 rw [h,Xbc]
 dsimp only
 omega
theorem Xbq(x:Rg)(n:Nat) : x^(n+1)=x^n*x:=rfl
theorem X5c(x:Rg) : x^0=1:=rfl
def V(x:Dy)(m:Nat)(z:Rg) : Prop:=0≤x.exp∧∃ k:Nat,x.exp+k=m∧z=s2^k*x.num
theorem Xu7:∀ (m:Nat) (x:Rg),rOk x=true→V (dLow x m) m x
 | 0,x,h=>by
  rw [X3d (by omega)]
  refine ⟨by dsimp only;omega,0,by dsimp only;omega,?_⟩
  rw [X5c];exact (Xf _).symm
 | m+1,x,h=>by
  by_cases he:rEven x=true
  ·rw [X58 (by omega) he,show ((m+1:Nat) : Int)-1=(m:Int) from by omega]
   obtain ⟨h0,k,h1,h2⟩:=Xu7 m _ (X6s h)
   refine ⟨h0,k+1,by omega,?_⟩
   have e:=Xov h he
   rw [h2] at e
   rw [Xbq]
   refine e.symm.trans ?_
   simp only [Xy,Xn,Xf,X07,X01,X0c,X0g,X0t,Xe,Xo,X00,X02,Xp,X0e]
  ·have he':rEven x=false:=by simpa using he
   rw [X3d fun _=>he']
   refine ⟨by dsimp only;omega,0,by dsimp only;omega,?_⟩
   rw [X5c];exact (Xf _).symm
theorem Xn3{x:Rg}{e:Int}(h:rOk x=true)(h0:0≤e) : V (dLow x e) e.toNat x:=by
 obtain ⟨m,rfl⟩ : ∃ m:Nat,e=m:=⟨e.toNat,by omega⟩
 exact Xu7 m x h
theorem V.up{x:Dy}{m:Nat}{z:Rg}(h:V x m z)(k:Nat) : V x (m+k) (s2^k*z):=by
 obtain ⟨h0,j,h1,h2⟩:=h
 refine ⟨h0,j+k,by omega,?_⟩
 rw [X2a,h2]
 simp only [Xy,Xn,Xf,X07,X01,X0c,X0g,X0t,Xe,Xo,X00,X02,Xp,X0e]
theorem V.fun{x:Dy}{m:Nat}{z z':Rg}(h:V x m z)(h':V x m z') : z=z':=by
 obtain ⟨_,k,h1,h2⟩:=h;obtain ⟨_,j,h3,h4⟩:=h'
 obtain rfl:j=k:=by omega
 rw [h2,h4]
theorem V.cross{x:Dy}{m m':Nat}{z z':Rg}(h:V x m z)(h':V x m' z') : s2^m'*z=s2^m*z':=by
 have e1:=h.up m'
 have e2:=h'.up m
 rw [Nat.add_comm m' m] at e2
 exact e1.fun e2
theorem Xud{x:Rg}{e:Int}{w:Dy}(h:dOf x e=some w) : V w e.toNat x∧dOk w=true:=by
 unfold dOf at h
 split at h
 ·rename_i h1
  simp only [Bool.and_eq_true,Xt] at h1
  injection h with h
  subst h
  exact ⟨Xn3 h1.1 h1.2.1,X6j h1.1 h1.2.1 h1.2.2⟩
 ·cases h
theorem X3b{x:Dy}(h:dOk x=true) : rOk x.num=true∧(0≤x.exp∧x.exp≤60):=⟨(X35.1 h).1,(X35.1 h).2.1⟩
theorem Xuc{x y w:Dy}{m n:Nat}{z z':Rg}(h:dMulI x y=some w)(hx:V x m z)(hy:V y n z') : V w (m+n) (z*z')∧dOk w=true:=by
 unfold dMulI at h
 split at h
 ·rename_i h1
  simp only [Bool.and_eq_true] at h1
  obtain ⟨⟨h1,h2⟩,h3⟩:=h1
  have k1:=X3b h1
  have k2:=X3b h2
  rw [rIf1,if_pos h3] at h
  have hv:=Xud h
  refine ⟨?_,hv.2⟩
  rw [Xhv k1.1 k2.1] at hv
  obtain ⟨_,j,h4,h5⟩:=hx;obtain ⟨_,l,h6,h7⟩:=hy
  have e:=hv.1.up (j+l)
  rw [show (x.exp+y.exp).toNat+(j+l)=m+n from by omega,X2a] at e
  rw [h5,h7]
  have e2:s2^j*x.num*(s2^l*y.num)=s2^j*s2^l*(x.num*y.num):=by simp only [Xy,Xn,Xf,X07,X01,X0c,X0g,X0t,Xe,Xo,X00,X02,Xp,X0e]
  rw [e2]
  exact e
 ·cases h
theorem X5b:∀ (n:Nat) (y:Rg),rOk y=true→(raiseI n y).2=true→(raiseI n y).1=s2^n*y∧rOk (raiseI n y).1=true
 | 0,y,h,_=>⟨by rw [X5c];show y=_;exact (Xf _).symm,h⟩
 | n+1,y,h,h2=>by
  rw [raiseI] at h2 ⊢
  rw [X7f h] at h2 ⊢
  by_cases hr:rOk (rRoot y)=true
  ·rw [if_pos hr] at h2 ⊢
   obtain ⟨e1,e2⟩:=X5b n _ hr h2
   refine ⟨?_,e2⟩
   rw [e1,Xbf h,Xbq]
   exact (Xe _ _ _).symm
  ·rw [if_neg hr] at h2
   cases h2
theorem Xtf{x y w:Dy}{m:Nat}{z z':Rg}(h:dAddI x y=some w)(hx:V x m z)(hy:V y m z') : V w m (z+z')∧dOk w=true:=by
 unfold dAddI at h
 split at h
 ·rename_i h1
  simp only [Bool.and_eq_true] at h1
  obtain ⟨h1,h2⟩:=h1
  have k1:=X3b h1
  have k2:=X3b h2
  split at h
  ·rename_i h3
   simp only [Bool.and_eq_true] at h3
   obtain ⟨⟨h3,h4⟩,h5⟩:=h3
   have r1:=X5b _ _ k1.1 h3
   have r2:=X5b _ _ k2.1 h4
   rw [rIf1,if_pos h5] at h
   have hv:=Xud h
   refine ⟨?_,hv.2⟩
   have e0:rAdd (dRaise x (max x.exp y.exp)).1 (dRaise y (max x.exp y.exp)).1=(dRaise x (max x.exp y.exp)).1+(dRaise y (max x.exp y.exp)).1:=Xj1 r1.2 r2.2
   rw [e0] at hv
   obtain ⟨_,j,h6,h7⟩:=hx;obtain ⟨_,l,h8,h9⟩:=hy
   obtain ⟨k,hk⟩ : ∃ k:Nat,max x.exp y.exp+k=m:=⟨(m-max x.exp y.exp).toNat,by omega⟩
   have e:=hv.1.up k
   rw [show (max x.exp y.exp).toNat+k=m from by omega] at e
   have q1:s2^k*(dRaise x (max x.exp y.exp)).1=z:=by
    rw [h7,show j=k+(max x.exp y.exp-x.exp).toNat from by omega,X2a]
    have:=r1.1
    unfold dRaise
    rw [this]
    simp only [Xy,Xn,Xf,X07,X01,X0c,X0g,X0t,Xe,Xo,X00,X02,Xp,X0e]
   have q2:s2^k*(dRaise y (max x.exp y.exp)).1=z':=by
    rw [h9,show l=k+(max x.exp y.exp-y.exp).toNat from by omega,X2a]
    have:=r2.1
    unfold dRaise
    rw [this]
    simp only [Xy,Xn,Xf,X07,X01,X0c,X0g,X0t,Xe,Xo,X00,X02,Xp,X0e]
   rw [← q1,← q2,← X0g]
   exact e
  ·cases h
 ·cases h
theorem Y0f{x y:Dy}{m:Nat}{z:Rg}(hx:dOk x=true)(hy:dOk y=true)(h1:V x m z)(h2:V y m z) : x=y:=by
 have kx:=X35.1 hx
 have ky:=X35.1 hy
 obtain ⟨_,j,a1,a2⟩:=h1;obtain ⟨_,l,b1,b2⟩:=h2
 have key:∀ {x y:Dy} {j l:Nat},rOk y.num=true→(y.exp=0∨rEven y.num=false)→0≤x.exp→x.exp+j=m→y.exp+l=m→s2^j*x.num=s2^l*y.num→y.exp≤x.exp:=fun {x y j l} k1 k2 k3 a1 b1 e=>by
  rcases k2 with k2|k2
  ·omega
  ·by_cases hlt:y.exp≤x.exp
   ·exact hlt
   ·exfalso
    obtain ⟨t,ht⟩ : ∃ t,j=l+(t+1):=⟨j-l-1,by omega⟩
    rw [ht,X2a] at e
    have e2:s2^l*(s2^(t+1)*x.num)=s2^l*y.num:=by rw [← Xe];exact e
    have e3:=X3w l e2
    have e4:y.num=s2*(s2^t*x.num):=by rw [← e3,Xbq];simp only [Xy,Xn,Xf,X07,X01,X0c,X0g,X0t,Xe,Xo,X00,X02,Xp,X0e]
    rw [Xn9 k1 e4] at k2
    cases k2
 have le1:=key (x:=x) (y:=y) ky.1 ky.2.2 kx.2.1.1 a1 b1 (by rw [← a2,← b2])
 have le2:=key (x:=y) (y:=x) kx.1 kx.2.2 ky.2.1.1 b1 a1 (by rw [← a2,← b2])
 obtain rfl:j=l:=by omega
 have e:=X3w j (a2.symm.trans b2)
 have e2:x.exp=y.exp:=by omega
 cases x
 cases y
 simp only at e e2
 rw [e,e2]
theorem X6d(m:Nat) : V dZ m 0:=⟨by decide,m,by show (0:Int)+m=m;omega,by
 show (0:Rg)=s2^m*0
 exact (Xn _).symm⟩
theorem Xuv(x:Rg) : om*x=⟨-x.d,x.a,x.b,x.c⟩:=by
 have e1:om.a=0:=rfl
 have e2:om.b=1:=rfl
 have e3:om.c=0:=rfl
 have e4:om.d=0:=rfl
 refine X30 ?_ ?_ ?_ ?_<;>simp only [Xa2,Xaf,Xa5,Xa6,e1,e2,e3,e4]<;>grind
abbrev St:=(Nat→Bool)→Rg
def flipB(β:Nat→Bool)(q:Nat) : Nat→Bool:=fun p=>if p=q then !β p else β p
def u1(k:Int)(x y:Bool) : Rg:=
 if k=1 then (if x&&y then -1 else 1) else if k=2 then (if x=y then 0 else 1) else if k=3 then (if x=y then 0 else if y then om^6 else om^2)
 else if x=y then (if x then om^(turnOf k).toNat else 1) else 0
def act(g:Gt)(v:St) : St:=fun β=>
 if g.k=12 then om*v β
 else if g.k=9 then v (if β g.a.toNat then flipB β g.b.toNat else β)
 else if g.k=10 then (if β g.a.toNat&&β g.b.toNat then om^4 else 1)*v β
 else if g.k=11 then v (if β g.a.toNat=β g.b.toNat then β else flipB (flipB β g.a.toNat) g.b.toNat)
 else u1 g.k (β g.a.toNat) (β g.a.toNat)*v β+u1 g.k (β g.a.toNat) (!β g.a.toNat)*v (flipB β g.a.toNat)
def hN(g:Gt) : Nat:=if g.k=1 then 1 else 0
def run:List Gt→St→St
 | [],v=>v
 | g::l,v=>run l (act g v)
def hs:List Gt→Nat
 | []=>0
 | g::l=>hN g+hs l
def sumN(f:Nat→Rg) : Nat→Rg
 | 0=>0
 | n+1=>sumN f n+f n
theorem Xba{f:Nat→Rg} : ∀ n,(∀ k,k<n→f k=0)→sumN f n=0
 | 0,_=>rfl
 | n+1,h=>by rw [sumN,Xba n fun k hk=>h k (by omega),h n (by omega)];rfl
theorem X47{f:Nat→Rg}{t:Nat} : ∀ n,t<n→(∀ k,k<n→k≠t→f k=0)→sumN f n=f t
 | 0,h,_=>by omega
 | n+1,h,h0=>by
  rw [sumN]
  by_cases e:t=n
  ·subst e
   rw [Xba t fun k hk=>h0 k (by omega) (by omega)]
   simp only [Xy,Xn,Xf,X07,X01,X0c,X0g,X0t,Xe,Xo,X00,X02,Xp,X0e]
  ·rw [X47 n (by omega) fun k hk hne=>h0 k (by omega) hne,h0 n (by omega) (by omega)]
   simp only [Xy,Xn,Xf,X07,X01,X0c,X0g,X0t,Xe,Xo,X00,X02,Xp,X0e]
theorem Xiy{f:Nat→Rg}{t u:Nat}(htu:t≠u) : ∀ n,t<n→u<n→(∀ k,k<n→k≠t→k≠u→f k=0)→sumN f n=f t+f u
 | 0,h,_,_=>by omega
 | n+1,h,h',h0=>by
  rw [sumN]
  by_cases e:t=n
  ·subst e
   rw [X47 (t:=u) t (by omega) fun k hk hne=>h0 k (by omega) (by omega) hne]
   simp only [Xy,Xn,Xf,X07,X01,X0c,X0g,X0t,Xe,Xo,X00,X02,Xp,X0e]
  ·by_cases e2:u=n
   ·subst e2
    rw [X47 (t:=t) u (by omega) fun k hk hne=>h0 k (by omega) hne (by omega)]
   ·rw [Xiy htu n (by omega) (by omega) fun k hk a b=>h0 k (by omega) a b,h0 n (by omega) (by omega) (by omega)]
    simp only [Xy,Xn,Xf,X07,X01,X0c,X0g,X0t,Xe,Xo,X00,X02,Xp,X0e]
theorem X4d{f g:Nat→Rg} : ∀ n,(∀ k,k<n→f k=g k)→sumN f n=sumN g n
 | 0,_=>rfl
 | n+1,h=>by rw [sumN,sumN,X4d n fun k hk=>h k (by omega),h n (by omega)]
def pt(N:Nat)(i:Nat) : Nat→Bool:=fun q=>decide (q<N)&&(bitT (N-1-q) i==1)
def chkPt:Bool:=(List.range 6).all fun n=>(List.range (2^n)).all fun i=>(List.range (2^n)).all fun j=>(i==j)||(List.range n).any fun q=>bitT (n-1-q) i != bitT (n-1-q) j
theorem Xhr:chkPt=true:=by kernel_rfl
theorem Xaw(p s:Nat) : bitT p s=0∨bitT p s=1:=by
 have h:=X3y ((p:Int)+1) s 0
 rw [Xgp,show ((p:Int)+1-1-0).toNat=p from by omega] at h
 exact h
theorem Xgq{N i j:Nat}(hN:N≤5)(hi:i<2^N)(hj:j<2^N)(h:∀ q,q<N→pt N i q=pt N j q) : i=j:=by
 have hc:=Xhr
 simp only [chkPt,List.all_eq_true,List.mem_range] at hc
 have hc:=hc N (by omega) i hi j hj
 simp only [Bool.or_eq_true,beq_iff_eq,List.any_eq_true,List.mem_range,bne_iff_ne] at hc
 rcases hc with hc|⟨q,hq,hne⟩
 ·exact hc
 ·have h1:=h q hq
  simp only [pt,hq,decide_true,Bool.true_and] at h1
  rcases Xaw (N-1-q) i with e1|e1<;>rcases Xaw (N-1-q) j with e2|e2<;>rw [e1,e2] at h1 hne<;>simp_all
theorem Xaz{N:Nat}(h:N≤5) : 2^N≤32:=Nat.le_trans (Nat.pow_le_pow_right (by decide) h) (by decide)
theorem Xin{N i q:Nat}(hN:N≤5)(hi:i<2^N)(hq:q<N) : pt N (flipT (N-1-q) i).toNat=flipB (pt N i) q:=by
 have hb:=X5w (p:=N-1-q) (s:=i) (by omega) (Nat.lt_of_lt_of_le hi (Xaz hN))
 funext p
 unfold flipB pt
 by_cases hp:p<N
 ·simp only [hp,decide_true,Bool.true_and]
  by_cases e:p=q
  ·subst e
   rw [if_pos rfl,hb.bit]
   rcases Xaw (N-1-p) i with e1|e1<;>rw [e1]<;>rfl
  ·rw [if_neg e,hb.other _ (by omega) (by omega)]
 ·simp only [hp,decide_false,Bool.false_and]
  rw [if_neg (by omega)]
theorem Xe3{N i q:Nat}(hq:q<N) : bitF (N:Int) (i:Int) (q:Int)=if pt N i q then 1 else 0:=by
 rw [Xgp,show ((N:Int)-1-(q:Int)).toNat=N-1-q from by omega]
 simp only [pt,hq,decide_true,Bool.true_and,beq_iff_eq]
 rcases Xaw (N-1-q) i with e|e<;>rw [e]<;>rfl
def zc(N:Nat)(g:Gt)(i k:Nat) : Rg:=
 if g.k=12 then (if i=k then om else 0)
 else if inR g.k 9 11=true then (if toS N g i=(k:Int) then om^(if czI N g i=true then 4 else 0) else 0)
 else if (i:Int)=k∨flipF N i g.a=(k:Int) then u1 g.k (bitF N i g.a==1) (bitF N k g.a==1) else 0
theorem Xhj{x:Dy}{z:Rg}{m:Nat}(h1:x.exp=m)(h2:x.num=z) : V x m z:=⟨by omega,0,by omega,by rw [← h2,X5c];exact (Xf _).symm⟩
theorem Xst{k:Int}(h:1≤k∧k≤8){x y:Int}(hx:x=0∨x=1)(hy:y=0∨y=1) : V (entryI k x y) (if k=1 then 1 else 0) (u1 k (x==1) (y==1)):=by
 have:k=1∨k=2∨k=3∨k=4∨k=5∨k=6∨k=7∨k=8:=by omega
 rcases this with rfl|rfl|rfl|rfl|rfl|rfl|rfl|rfl<;>rcases hx with rfl|rfl<;>rcases hy with rfl|rfl<;>exact Xhj (by decide) (by decide)
theorem Xho{N:Nat}{g:Gt}(hg:gOk N g=true)(i k:Nat) : V (cellI N g i k) (hN g) (zc N g i k):=by
 obtain ⟨hn,hk,ha,hb⟩:=X27 hg
 unfold cellI zc hN
 by_cases h12:g.k=12
 ·have h1:¬ g.k=1:=by omega
  rw [if_pos h12,if_pos h12,if_neg h1]
  by_cases e:i=k
  ·have e':(i:Int)=k:=by omega
   rw [if_pos e,if_pos e']
   exact Xhj (by decide) (by decide)
  ·have e':¬ (i:Int)=k:=by omega
   rw [if_neg e,if_neg e']
   exact X6d 0
 ·rw [if_neg h12,if_neg h12]
  by_cases h9:inR g.k 9 11=true
  ·rw [if_pos h9,if_pos h9]
   have:=Xt.1 h9
   have h1:¬ g.k=1:=by omega
   rw [if_neg h1]
   by_cases e:toS N g i=(k:Int)
   ·rw [if_pos e,if_pos e]
    by_cases e2:czI N g i=true
    ·rw [if_pos e2,if_pos e2]
     exact Xhj (by decide) (by decide)
    ·rw [if_neg e2,if_neg e2]
     exact Xhj (by decide) (by decide)
   ·rw [if_neg e,if_neg e]
    exact X6d 0
  ·rw [if_neg h9,if_neg h9]
   have h8:¬ (9≤g.k∧g.k≤11):=fun h=>h9 (Xt.2 h)
   by_cases e:(i:Int)=k∨flipF N i g.a=(k:Int)
   ·rw [if_pos e,if_pos e]
    exact Xst (by omega) (X3y _ _ _) (X3y _ _ _)
   ·rw [if_neg e,if_neg e]
    exact X6d _
theorem X72{N:Nat}{g:Gt}(hg:gOk N g=true){i:Nat}(hi:i<2^N)(w:St) : sumN (fun k=>zc N g i k*w (pt N k)) (2^N)=act g w (pt N i):=by
 obtain ⟨hn,hk,ha,hb⟩:=X27 hg
 have hN:N≤5:=by omega
 unfold act
 by_cases h12:g.k=12
 ·rw [if_pos h12,X47 (t:=i) _ hi fun k hk' hne=>by
   simp only [zc,if_pos h12]
   rw [if_neg (by omega)]
   exact Xy _]
  simp only [zc,if_pos h12,if_true]
 ·rw [if_neg h12]
  obtain ⟨A,hA⟩ : ∃ A:Nat,g.a=A:=⟨g.a.toNat,by have:=ha h12;omega⟩
  have hA5:A<N:=by have:=ha h12;omega
  by_cases h9:inR g.k 9 11=true
  ·have h9':=Xt.1 h9
   obtain ⟨B,hB⟩ : ∃ B:Nat,g.b=B:=⟨g.b.toNat,by have:=hb h9';omega⟩
   have hB5:B<N:=by have:=hb h9';omega
   obtain ⟨t,ht,ht2,_,_⟩:=Xdr hg (s:=i) hi h9'
   rw [Int.toNat_natCast] at ht
   rw [X47 (t:=t) _ ht fun k hk' hne=>by
    simp only [zc,if_neg h12,if_pos h9,ht2]
    rw [if_neg (by omega)]
    exact Xy _]
   simp only [zc,if_neg h12,if_pos h9,ht2,if_true]
   have bA:=Xe3 (i:=i) hA5
   have bB:=Xe3 (i:=i) hB5
   have fl:∀ {j q:Nat},j<2^N→q<N→flipF N j q=((flipT (N-1-q) j).toNat:Int)∧(flipT (N-1-q) j).toNat<2^N∧pt N (flipT (N-1-q) j).toNat=flipB (pt N j) q:=fun {j q} hj hq=>by
    rw [X73,show ((N:Int)-1-(q:Int)).toNat=N-1-q from by omega]
    exact ⟨(X5w (p:=N-1-q) (s:=j) (by omega) (Nat.lt_of_lt_of_le hj (Xaz hN))).nat,X5t hN hq hj,Xin hN hj hq⟩
   rw [hA,hB,Int.toNat_natCast,Int.toNat_natCast]
   unfold toS at ht2
   rw [hA,hB] at ht2
   by_cases k9:g.k=9
   ·have hc:czI N g i=false:=by unfold czI;rw [k9];rfl
    rw [if_pos k9,hc,if_neg (by decide)]
    rw [if_pos k9,bA] at ht2
    have e1:om^0=1:=rfl
    rw [e1]
    cases hp:pt N i A
    ·rw [hp] at ht2
     simp only [Bool.false_eq_true,if_false] at ht2
     rw [if_neg (by decide)] at ht2
     obtain rfl:i=t:=by omega
     simp only [Bool.false_eq_true,if_false]
     simp only [e1,Xf]
    ·rw [hp,if_pos rfl,if_pos rfl,(fl hi hB5).1] at ht2
     rw [if_pos rfl,← (fl hi hB5).2.2,show (flipT (N-1-B) i).toNat=t from by omega]
     simp only [e1,Xf]
   ·rw [if_neg k9] at ht2 ⊢
    by_cases k10:g.k=10
    ·rw [if_pos k10]
     rw [if_neg (by omega)] at ht2
     obtain rfl:i=t:=by omega
     have hc:czI N g i=(pt N i A&&pt N i B):=by
      unfold czI
      rw [k10,hA,hB,bA,bB]
      cases pt N i A<;>cases pt N i B<;>rfl
     rw [hc]
     cases pt N i A&&pt N i B<;>rfl
    ·have k11:g.k=11:=by omega
     have hc:czI N g i=false:=by unfold czI;rw [k11];rfl
     rw [if_neg k10,if_pos k11,hc,if_neg (by decide)]
     rw [if_pos k11,bA,bB] at ht2
     have e1:om^0=1:=rfl
     rw [e1]
     by_cases hp:pt N i A=pt N i B
     ·rw [hp,if_neg (fun h=>h rfl)] at ht2
      obtain rfl:i=t:=by omega
      rw [if_pos hp]
      simp only [e1,Xf]
     ·rw [if_pos (by revert hp;cases pt N i A<;>cases pt N i B<;>simp),(fl hi hA5).1,(fl (fl hi hA5).2.1 hB5).1] at ht2
      rw [if_neg hp,← (fl hi hA5).2.2,← (fl (fl hi hA5).2.1 hB5).2.2]
      rw [show (flipT (N-1-B) (flipT (N-1-A) i).toNat).toNat=t from by omega]
      simp only [e1,Xf]
  ·have h8:¬ (9≤g.k∧g.k≤11):=fun h=>h9 (Xt.2 h)
   rw [if_neg (by omega),if_neg (by omega),if_neg (by omega),hA,Int.toNat_natCast]
   have bo:=X5w (p:=N-1-A) (s:=i) (by omega) (Nat.lt_of_lt_of_le hi (Xaz hN))
   have fs:=X5t hN hA5 hi
   have fp:=Xin hN hi hA5
   have fe:flipF N i A=((flipT (N-1-A) i).toNat:Int):=by
    rw [X73,show ((N:Int)-1-(A:Int)).toNat=N-1-A from by omega]
    exact bo.nat
   generalize (flipT (N-1-A) i).toNat=t at fs fp fe
   have hne:i≠t:=by
    rintro rfl
    have:=congrFun fp A
    simp [flipB] at this
   have bA:=Xe3 (i:=i) hA5
   have bT:=Xe3 (i:=t) hA5
   have hT:pt N t A = !pt N i A:=by rw [fp];simp [flipB]
   rw [Xiy hne _ hi fs fun k hk' n1 n2=>by
    simp only [zc,if_neg h12,if_neg h9,hA,fe]
    rw [if_neg (by omega)]
    exact Xy _]
   simp only [zc,if_neg h12,if_neg h9,hA,fe,true_or,or_true,if_true,bA,bT,hT]
   rw [← fp]
   cases pt N i A<;>rfl
end Go.Proofs.YtiejkplemjkjoaaGreat
