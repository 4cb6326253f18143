/-
  What is proved: for every circuit, the program's PeepholeStep answers as the reference's does, leaves its argument as it was and hands out memory of its own, and the argument reads as before. Conditions: none beside the table of powers of ten that the card ties to the program's text.
-/
import Derived.Test.YtblmmikapnflcaaGreatDoorR1
import Derived.MapKept
import Derived.Shelf.Sort.Plain
import Derived.Shelf.Slices.Turned
import Derived.Ground.Names2Prog
import Derived.Shelf.Slices.Clone
import Derived.Shelf.Slices.CompactI
import Derived.Shelf.Slices.Cells
import Derived.Test.YtblmmikapnflcaaGreatDoorProg
import Derived.Shelf.Spec.SlicesGrow
import Derived.Laws.MakeOwn
import Derived.Laws.Slices
import Derived.Shelf.Slices.In.SortNone
set_option linter.unusedVariables false
set_option linter.unusedSimpArgs false
set_option maxRecDepth 4000
set_option linter.unusedSectionVars false
namespace Go.Proofs.YtblmmikapnflcaaGreatDoor
open Go.RowKit
theorem Xnd(f:World)(m:Mx)(Am:Option Addr)(cm:Nat)(hm:Rd f f.heap.size 95 encD Am m.cells)(i j:Nat)(aG:mOk m=true)(hi:(i:Int)<m.rows)(hj:(j:Int)<m.cols) : Ret Tryz.prog 135 [.agg #[vi m.rows,vi m.cols,.slice Am m.cells.length cm],vi (i:Int),vi (j:Int)] f (fun v w=>v=dV (m.at i j)∧Below f.heap.size f w):=by
 have aA:=X2n aG
 have aH:i*m.cols.toNat+j<m.cells.length:=by rw [aA.2.2];exact X3d (by omega) (by omega)
 have aO:m.cells.length≤1024:=by rw [aA.2.2];exact Nat.le_trans (Nat.mul_le_mul (show m.rows.toNat≤32 by omega) (show m.cols.toNat≤32 by omega)) (by decide)
 have aB:=Mx.at_get aH
 have aI:m.cols=(m.cols.toNat:Int):=by omega
 suffices hgoal:Ret Tryz.prog 135 [.agg #[vi m.rows,vi (m.cols.toNat:Int),.slice Am m.cells.length cm],vi (i:Int),vi (j:Int)] f (fun v w=>v=dV (m.at i j)∧Below f.heap.size f w) by rw [← aI] at hgoal;exact hgoal
 refine enter Tryz.func135 rfl 17 rfl rfl ?_;intro a hf
 have e:=bz f
 refine Zs hf fun _ aJ=>?_;refine Zf (X0i (zs:=[vi m.rows,vi (m.cols.toNat:Int),.slice Am m.cells.length cm]) rfl rfl) ?_;rintro _ w1 ⟨b3,rfl,aK,hE,g⟩;have aM:=Nat.le_trans e.size aK;have e:=btr e hE;refine Zf (X8 (zs:=[vi 0,vi 0,vi 0,vi 0,vi 0]) X1i rfl) ?_;rintro _ w2 ⟨b4,rfl,aC,hE,n⟩;have aD:=Nat.le_trans e.size aC;have aF:=(hm.below' e).away aC;have g:=g.below hE;have e:=btr e hE;refine Zx aJ fun a hf _ aL=>?_;refine Ze (Vd rfl X1g 2)<|Ze (X0 rfl X2a (g.at 2))<|Zm rfl<|Ze (Vd rfl X1p 1)<|Ze (X0 rfl X7 (g.at 1)) ?_;refine Ze (Xd3 (m:=i) (k:=m.cols.toNat) rfl rfl (by omega))<|Zm rfl<|Ze (X06 rfl rfl (by omega) (by omega))<|Zi (k:=(i*m.cols.toNat+j)) (u:=(m.at i j)) (enc:=encD) (l:=m.cells) trivial rfl rfl X1d X01 X19 (hm.below' e) aB (by omega) ?_;intro p7 aE;refine Ze (X07 (l:=[vi ((m.at i j).num.a),vi ((m.at i j).num.b),vi ((m.at i j).num.c),vi ((m.at i j).num.d),vi ((m.at i j).exp)]) rfl Xm aE rfl)<|Zo (Vw [vi ((m.at i j).num.a),vi ((m.at i j).num.b),vi ((m.at i j).num.c),vi ((m.at i j).num.d),vi ((m.at i j).exp)] X01 n) ?_;rintro _ w3 ⟨ho,hb⟩;have aN:=n;have e:=Below.only e ho aD;have n:=hb;refine Zt aL fun a hf=>?_
 refine wp_ret (X2 hf (Xv hf rfl (ResV.cellN (l:=[vi ((m.at i j).num.a),vi ((m.at i j).num.b),vi ((m.at i j).num.c),vi ((m.at i j).num.d),vi ((m.at i j).exp)]) rfl Xm (n.at 0) rfl)) ?_)
 exact ⟨rfl,e⟩
theorem Xov(E:World)(R C:Int)(k:FuncId)(caps:List Value)(hF:FuncF Tryz.prog k)(f:Nat→Nat→Option Dy)(aG:∀ (i j:Nat) w,(i:Int)<R→(j:Int)<C→Below E.heap.size E w→Ret Tryz.prog k ([vi (i:Int),vi (j:Int)]++caps) w (fun v w'=>v=.tuple #[dV ((f i j).getD dZ),.bool (f i j).isSome]∧Below w.heap.size w w')) : Ret Tryz.prog 123 [vi R,vi C,.func (.func k) #[] caps.toArray] E (fun v w=>∃ A c,v=.tuple #[mV A c ((matOf R C f).getD mZ),.bool (matOf R C f).isSome]∧Own w E.heap.size 95 5 encD A c ((matOf R C f).getD mZ).cells∧Below E.heap.size E w):=by
 refine enter Tryz.func123 rfl 52 rfl rfl ?_;intro a g
 have p:=bz E
 refine Zs g fun _ bH=>?_;refine Zf (X8 (zs:=[vi 0,vi 0,.slice none 0 0]) X1n rfl) ?_;rintro _ w1 ⟨b3,rfl,bI,y,e⟩;have M:=Nat.le_trans p.size bI;have p:=btr p y;refine Za rfl<|Zx bH fun a g _ bJ=>?_;refine Zm rfl<|Zm rfl<|Ze (Xg (ps:=[(0,vi R),(1,vi C)]) (cs:=[vi R,vi C,.slice none 0 0]) rfl (fun _=>by first|rfl|kernel_rfl))<|Zf (X8 (zs:=[vi 0,vi 0,.slice none 0 0]) X1n rfl) ?_;rintro _ w2 ⟨b7,rfl,bK,y,m⟩
 have bG:b3≠b7:=by have:=e.lt;omega
 have aD:=Nat.le_trans p.size bK;have e:=e.below y;have p:=btr p y;refine Zo (Vw [vi R,vi C,.slice none 0 0] X17 m) ?_;rintro _ w3 ⟨h,N⟩;have q:=m;have e:=e.only h (by omega);have p:=Below.only p h aD;have m:=N;refine ZX bJ fun a g _ bL=>?_;refine wp_seq_k fun _ bM=>?_;refine X0o (fun a w=>Fr a 52 [(0,vi R),(1,vi C),(2,.func (.func k) #[] caps.toArray),(6,.pointer (some ⟨b3,0,none⟩)),(8,.pointer (some ⟨b7,0,none⟩)),(23,.bool ((!(isDimB R))||(!(isDimB C))))]∧w3=w) ?_ ?_
 ·refine Zr g<|Zm rfl<|Zf (Vc (Xq3 _ R) Xc1) ?_;rintro _ _ ⟨rfl,rfl⟩;refine Ze (X0z rfl)<|Zm rfl ?_
  refine Zg 19 rfl (fun n=>?_) (fun n=>?_)
  ·refine Zp (gP n) ?_;refine Zp (gP n) ?_;refine Zp (gP n) ?_;refine Ze (Xn rfl n rfl) ?_;refine Zn fun a g=>?_;exact ⟨g.sub ⟨rfl,rfl,rfl,rfl,rfl,X1 rfl (by first|rfl|(simp only [n,bs];done)|simp [n]),trivial⟩,rfl⟩
  refine Zv (gW n) (Xa rfl) ?_;refine Zk (gW n) (Vc (Xq3 _ C) Xc1) ?_;rintro _ _ ⟨rfl,rfl⟩;refine Zv (gW n) (X0z rfl) ?_;refine Ze (Xj rfl n rfl) ?_;refine Zn fun a g=>?_;exact ⟨g.sub ⟨rfl,rfl,rfl,rfl,rfl,X1 rfl (by first|rfl|(simp only [n,bs];done)|simp [n]),trivial⟩,rfl⟩
 rintro a _ ⟨g,rfl⟩;refine bM _ _ ?_
 refine Xk g rfl (fun B=>?_) (fun B=>?_)
 ·have aH:=B;have hn:=X6k B;refine Zs g fun _ aT=>?_;refine Ze (Xg (ps:=[]) (cs:=[vi 0,vi 0,.slice none 0 0]) rfl (fun _=>by first|rfl|kernel_rfl))<|Zo (Vw [vi 0,vi 0,.slice none 0 0] X17 e) ?_;rintro _ w4 ⟨h,N⟩;have q:=e;have p:=Below.only p h M;have e:=N;refine Za rfl<|Zt aT fun a g=>?_;refine wp_ret<|X3<|X2 g (X0w g rfl (ResV.cellN (l:=[vi 0,vi 0,.slice none 0 0]) rfl X0e (e.at 0) rfl) rfl) ?_
  have he:matOf R C f=none:=by rw [matOf,hn];rfl
  rw [he]
  exact ⟨none,0,rfl,(Own.nil _ _ _ _ _),p⟩
 have aH:=B;have hy:=X8o B;have aU:=(Bool.and_eq_true _ _▸hy:isDimB R=true∧isDimB C=true);have hR:=X29 aU.1;have hC:=X29 aU.2;refine wp_skip<|bL _ _<|wp_seq_k fun _ aW=>?_;refine Zs g fun _ aX=>?_;refine Zm rfl<|Zm rfl<|Zt aX fun a g=>?_;refine wp_block<|X0b (σ:=Nat×(List Dy)) (fun (s:Nat×(List Dy)) (a:Act) (w:World)=>match s with|(i,l)=>∃ G H,Fr a 52 [(1,vi C),(2,.func (.func k) #[] caps.toArray),(6,.pointer (some ⟨b3,0,none⟩)),(8,.pointer (some ⟨b7,0,none⟩)),(25,vi R),(26,vi (i:Int))]∧((i:Int)≤R)∧(seqO (gridG f C.toNat) (i*C.toNat)=some l)∧Blk w b3 33 [vi 0,vi 0,.slice none 0 0]∧Blk w b7 33 [vi R,vi C,.slice G l.length H]∧Own w E.heap.size 95 5 encD G H l∧Below E.heap.size E w) (fun (s:Nat×(List Dy))=>match s with|(i,l)=>(R-i).toNat) (0,[]) ?_ ?_
 ·exact ⟨none,0,g.sb,(by omega),(by rw [Nat.zero_mul];rfl),e,m,(Own.nil _ _ _ _ _),p⟩
 rintro ⟨i,l⟩ a w5 ⟨G,H,g,bQ,hl,e,m,I,p⟩;refine Zs g fun _ aY=>?_;refine Ze (X10 rfl rfl)<|ZX aY fun a g _ aZ=>?_
 refine Xk g rfl (fun t=>?_) (fun t=>?_)
 ·have aI:=t;have t:=of_decide_eq_true t
  have aJ:(i:Int)<R:=t
  have bR:i*C.toNat≤1024:=Nat.le_trans (Nat.mul_le_mul (show i≤32 by omega) (show C.toNat≤32 by omega)) (by decide)
  refine wp_skip<|aZ _ _<|wp_seq_k fun _ b0=>?_;refine wp_block<|Zs g fun _ b1=>?_;refine Zm rfl<|Za rfl<|Zx b1 fun a g _ b2=>?_;refine Zm rfl<|Zm rfl<|Zt b2 fun a g=>?_;refine wp_block<|X0b (σ:=Nat×(List Dy)) (fun (s:Nat×(List Dy)) (a:Act) (w:World)=>match s with|(j,l2)=>∃ W aA,Fr a 52 [(1,vi C),(2,.func (.func k) #[] caps.toArray),(6,.pointer (some ⟨b3,0,none⟩)),(8,.pointer (some ⟨b7,0,none⟩)),(9,vi (i:Int)),(25,vi R),(26,vi (i:Int)),(29,vi C),(30,vi (j:Int))]∧((j:Int)≤C)∧(seqO (gridG f C.toNat) (i*C.toNat+j)=some l2)∧Blk w b3 33 [vi 0,vi 0,.slice none 0 0]∧Blk w b7 33 [vi R,vi C,.slice W l2.length aA]∧Own w E.heap.size 95 5 encD W aA l2∧Below E.heap.size E w) (fun (s:Nat×(List Dy))=>match s with|(j,l2)=>(C-j).toNat) (0,l) ?_ ?_
  ·exact ⟨G,H,g.sb,(by omega),hl,e,m,I,p⟩
  rintro ⟨j,l2⟩ a w6 ⟨W,aA,g,bS,aB,e,m,o,p⟩;refine Zs g fun _ b4=>?_;refine Ze (X10 rfl rfl)<|ZX b4 fun a g _ b5=>?_
  refine Xk g rfl (fun u=>?_) (fun u=>?_)
  ·have aK:=u;have u:=of_decide_eq_true u
   have aC:(j:Int)<C:=u
   have bP:=X44 aB;refine wp_skip<|b5 _ _<|wp_seq_k fun _ b6=>?_;refine wp_block<|Zs g fun _ b8=>?_;refine Zm rfl<|Za rfl<|Zx b8 fun a g _ b9=>?_;refine Zm rfl<|Zm rfl<|Zm rfl<|Zf (X76 (cs:=caps) (vs:=[vi (i:Int),vi (j:Int)]) rfl rfl hF (aG i j _ aJ aC p)) ?_;rintro _ w7 ⟨rfl,y⟩;have e:=e.below y;have m:=m.below y;have o:=o.below y;have p:=btr p y;refine Zm rfl<|Ze (X4 (vs:=[.agg #[vi (((f i j).getD dZ).num.a),vi (((f i j).getD dZ).num.b),vi (((f i j).getD dZ).num.c),vi (((f i j).getD dZ).num.d),vi (((f i j).getD dZ).exp)],.bool ((f i j).isSome)]) rfl rfl)<|Ze (X4 (vs:=[.agg #[vi (((f i j).getD dZ).num.a),vi (((f i j).getD dZ).num.b),vi (((f i j).getD dZ).num.c),vi (((f i j).getD dZ).num.d),vi (((f i j).getD dZ).exp)],.bool ((f i j).isSome)]) rfl rfl)<|Zf (X8 (zs:=[vi 0,vi 0,vi 0,vi 0,vi 0]) X1i rfl) ?_;rintro _ w8 ⟨bN,rfl,aE,y,x⟩;have aL:=Nat.le_trans p.size aE;have z:=o.away aE;have e:=e.below y;have m:=m.below y;have o:=o.below y;have p:=btr p y;refine Zo (Vw [vi (((f i j).getD dZ).num.a),vi (((f i j).getD dZ).num.b),vi (((f i j).getD dZ).num.c),vi (((f i j).getD dZ).num.d),vi (((f i j).getD dZ).exp)] X01 x) ?_;rintro _ w9 ⟨h,N⟩;have q:=x;have e:=e.only h (Blk.ne e q rfl);have m:=m.only h (Blk.ne m q rfl);have o:=o.onlyA h z;have p:=Below.only p h aL;have x:=N;refine Za rfl<|ZX b9 fun a g _ bC=>?_;refine Zs g fun _ bD=>?_;refine Zm rfl<|Ze (X0z rfl)<|Zt bD fun a g=>?_
   refine Xk g rfl (fun D=>?_) (fun D=>?_)
   ·have aM:=D
    have hn:gridG f C.toNat (i*C.toNat+j)=none:=by rw [X8g (by omega)];revert D;cases f i j<;>simp
    refine Zs g fun _ bE=>?_;refine Ze (Xg (ps:=[]) (cs:=[vi 0,vi 0,.slice none 0 0]) rfl (fun _=>by first|rfl|kernel_rfl))<|Zo (Vw [vi 0,vi 0,.slice none 0 0] X17 e) ?_;rintro _ bU ⟨h,N⟩;have q:=e;have p:=Below.only p h M;have e:=N;refine Za rfl<|Zt bE fun a g=>?_;refine wp_ret<|X3<|Xr<|X3 ?_;refine X3<|Xr<|Xr<|X3 ?_;refine X3<|Xr<|X3<|X2 g (X0w g rfl (ResV.cellN (l:=[vi 0,vi 0,.slice none 0 0]) rfl X0e (e.at 0) rfl) rfl) ?_
    have he:matOf R C f=none:=by rw [matOf,if_pos hy,X9m hn _ (X3d (by omega) (by omega))];rfl
    rw [he]
    exact ⟨none,0,rfl,(Own.nil _ _ _ _ _),p⟩
   have aM:=D
   have hx:gridG f C.toNat (i*C.toNat+j)=some ((f i j).getD dZ):=by rw [X8g (by omega)];revert D;cases f i j<;>simp
   refine wp_skip<|bC _ _<|Zr g<|Ze (Vd rfl X1g 2)<|Ze (X0 rfl X2a (m.at 2))<|Ze (Vn Xm x)<|Zf (X5 (k:=1) (vs:=[.agg #[vi (((f i j).getD dZ).num.a),vi (((f i j).getD dZ).num.b),vi (((f i j).getD dZ).num.c),vi (((f i j).getD dZ).num.d),vi (((f i j).getD dZ).exp)]]) (zs:=[vi (((f i j).getD dZ).num.a),vi (((f i j).getD dZ).num.b),vi (((f i j).getD dZ).num.c),vi (((f i j).getD dZ).num.d),vi (((f i j).getD dZ).exp)]) rfl X1d X2f rfl rfl) ?_;rintro _ bW ⟨b36,rfl,aF,y,Q⟩
   have aQ:bN≠b36:=by have:=x.lt;omega
   have bO:=Nat.le_trans p.size aF;have L:=o.away aF;have e:=e.below y;have m:=m.below y;have x:=x.below y;have o:=o.below y;have p:=btr p y;refine Zf (X11 (enc:=encD) (l:=(l2)) (l2:=([((f i j).getD dZ)])) (B0:=E.heap.size) rfl rfl X1d X2f X19 X61 o (Rd.of_blk Q rfl _ Q.lt) (by simp only [maxLen];simp;omega) (by simp;omega) p.size) ?_;rintro _ bX ⟨aN,aO,rfl,U,hg,aP⟩
   have J:Own _ E.heap.size 95 5 encD _ _ (l2):=o
   have aR:=aP _ x.lt z;have aS:=aP _ Q.lt L;clear aP;have e:=e.appT J hg rfl;have m:=m.appT J hg rfl;have p:=Below.app p J hg (Nat.le_refl _) p.size;clear J hg;refine Ze (Vd rfl X1g 2)<|Zo (Vu (vs:=[.slice aN (l2++([((f i j).getD dZ)])).length aO]) (l':=[vi R,vi C,.slice aN (l2++([((f i j).getD dZ)])).length aO]) rfl rfl Xfj m) ?_;rintro _ bY ⟨h,N⟩;have q:=m;have e:=e.only h (by omega);have U:=U.onlyT h q rfl;have p:=Below.only p h aD;have m:=N;refine Zn fun a g=>?_;refine Xt<|b6 _ _<|Zr g<|Ze (X06 rfl rfl (by omega) (by omega))<|Zm rfl ?_;refine Zn fun a g=>?_;refine Xp ?_;exact ⟨(j+1,l2++[((f i j).getD dZ)]),⟨aN,aO,g.sb,(by omega),(Xak aB hx),e,m,U,p⟩,(by first|omega|(dsimp only;omega))⟩
  have aK:=u;have u:=of_decide_eq_false u
  have aC:j=C.toNat:=by omega
  refine wp_exit<|Xl<|Xl<|X0a ?_;refine Xt<|b0 _ _<|Zr g<|Ze (X06 rfl rfl (by omega) (by omega))<|Zm rfl ?_;refine Zn fun a g=>?_;refine Xp ?_;exact ⟨(i+1,l2),⟨W,aA,g.sb,(by omega),(by rw [Nat.add_mul,Nat.one_mul,← aC];rw [← aC] at aB;exact aB),e,m,o,p⟩,(by first|omega|(dsimp only;omega))⟩
 have aI:=t;have t:=of_decide_eq_false t
 have aJ:i=R.toNat:=by omega
 refine wp_exit<|Xl<|Xl<|X0a ?_;refine aW _ _<|Zs g fun _ bF=>?_;refine Ze (Vn X0e m)<|Zo (Vw [vi R,vi C,.slice G l.length H] X17 e) ?_;rintro _ bZ ⟨h,N⟩;have q:=e;have I:=I.onlyT h q rfl;have p:=Below.only p h M;have e:=N;refine Za rfl<|Zt bF fun a g=>?_
 refine wp_ret (X2 g (X0w g rfl (ResV.cellN (l:=[vi R,vi C,.slice G l.length H]) rfl X0e (e.at 0) rfl) rfl) ?_)
 have he:matOf R C f=some ⟨R,C,l⟩:=by rw [matOf,if_pos hy,← aJ,hl];rfl
 rw [he]
 exact ⟨G,H,rfl,I,p⟩
theorem Xzm(w0:World)(i:Int)(j:Int) : Ret Tryz.prog 124 [vi i,vi j] w0 (fun v w=>v=.tuple #[dV (if i=j then (⟨⟨1,0,0,0⟩,0⟩ : Dy) else dZ),.bool true]∧Below w0.heap.size w0 w):=by
 refine enter Tryz.func124 rfl 11 rfl rfl ?_;intro a f
 have g:=bz w0
 refine Zs f fun _ aD=>?_;refine Zf (X8 (zs:=[vi 0,vi 0,vi 0,vi 0,vi 0]) X1i rfl) ?_;rintro _ w1 ⟨b2,rfl,aE,hE,e⟩;have m:=Nat.le_trans g.size aE;have g:=btr g hE;refine Za rfl<|ZX aD fun a f _ aF=>?_;refine Zs f fun _ aG=>?_;refine Zm rfl<|Zm rfl<|Ze (X13 rfl rfl)<|Zt aG fun a f=>?_
 refine Xk f rfl (fun k=>?_) (fun k=>?_)
 ·have aB:=k
  have aA:i=j:=by revert k;simp
  refine Zs f fun _ aH=>?_;refine Zf (Vc (Xta _ 1) Xf6) ?_;rintro _ w2 ⟨rfl,hE⟩;have e:=e.below hE;have g:=btr g hE;refine Zo (Vw [vi ((⟨⟨1,0,0,0⟩,0⟩ : Dy).num.a),vi ((⟨⟨1,0,0,0⟩,0⟩ : Dy).num.b),vi ((⟨⟨1,0,0,0⟩,0⟩ : Dy).num.c),vi ((⟨⟨1,0,0,0⟩,0⟩ : Dy).num.d),vi ((⟨⟨1,0,0,0⟩,0⟩ : Dy).exp)] X01 e) ?_;rintro _ w3 ⟨ho,hb⟩;have aC:=e;have g:=Below.only g ho m;have e:=hb;refine Za rfl<|Zt aH fun a f=>?_;refine wp_ret<|X3<|X2 f (X0w f rfl (ResV.cellN (l:=[vi ((⟨⟨1,0,0,0⟩,0⟩ : Dy).num.a),vi ((⟨⟨1,0,0,0⟩,0⟩ : Dy).num.b),vi ((⟨⟨1,0,0,0⟩,0⟩ : Dy).num.c),vi ((⟨⟨1,0,0,0⟩,0⟩ : Dy).num.d),vi ((⟨⟨1,0,0,0⟩,0⟩ : Dy).exp)]) rfl Xm (e.at 0) rfl) rfl) ?_;exact ⟨by rw [if_pos aA],g⟩
 have aB:=k
 have aA:¬ i=j:=by revert k;simp
 refine wp_skip<|aF _ _<|Zs f fun _ aI=>?_;refine Ze (Xg (ps:=[]) (cs:=[vi 0,vi 0,vi 0,vi 0,vi 0]) rfl (fun _=>by first|rfl|kernel_rfl))<|Zo (Vw [vi 0,vi 0,vi 0,vi 0,vi 0] X01 e) ?_;rintro _ w4 ⟨ho,hb⟩;have aC:=e;have g:=Below.only g ho m;have e:=hb;refine Za rfl<|Zt aI fun a f=>?_
 refine wp_ret (X2 f (X0w f rfl (ResV.cellN (l:=[vi 0,vi 0,vi 0,vi 0,vi 0]) rfl Xm (e.at 0) rfl) rfl) ?_)
 exact ⟨by rw [if_neg aA];rfl,g⟩
theorem Xwz(w0:World)(n:Int) : Ret Tryz.prog 67 [vi n] w0 (fun v w=>∃ A c,v=.tuple #[mV A c ((idI n).getD mZ),.bool (idI n).isSome]∧Own w w0.heap.size 95 5 encD A c ((idI n).getD mZ).cells∧Below w0.heap.size w0 w):=by
 refine enter Tryz.func67 rfl 9 rfl rfl ?_;intro a hf
 have e:=bz w0
 refine Zs hf fun _ aC=>?_;refine Zf (X8 (zs:=[vi 0,vi 0,.slice none 0 0]) X1n rfl) ?_;rintro _ w1 ⟨b3,rfl,aD,hE,b⟩;have aA:=Nat.le_trans e.size aD;have e:=btr e hE;refine Za rfl<|Zx aC fun a hf _ aE=>?_;refine Zm rfl<|Zm rfl<|Zf (Vc (Xov _ n n 124 [] Xvi (fun i j=>some (if i=j then ⟨⟨1,0,0,0⟩,0⟩ else dZ)) (fun i j w' hi hj hE'=>(Xzm w' (i:Int) (j:Int)).mono fun v w'' ⟨h1,h2⟩=>⟨by rw [h1];simp only [Int.natCast_inj];rfl,h2⟩)) Xc2) ?_;rintro _ w2 ⟨A5,c5,rfl,d,hE⟩;have d:=d.lower e.size;have b:=b.below hE;have e:=btr e hE;refine Ze (X4 (vs:=[.agg #[vi (((matOf n n (fun i j=>some (if i=j then ⟨⟨1,0,0,0⟩,0⟩ else dZ))).getD mZ).rows),vi (((matOf n n (fun i j=>some (if i=j then ⟨⟨1,0,0,0⟩,0⟩ else dZ))).getD mZ).cols),.slice A5 (((matOf n n (fun i j=>some (if i=j then ⟨⟨1,0,0,0⟩,0⟩ else dZ))).getD mZ).cells).length c5],.bool ((matOf n n (fun i j=>some (if i=j then ⟨⟨1,0,0,0⟩,0⟩ else dZ))).isSome)]) rfl rfl)<|Ze (X4 (vs:=[.agg #[vi (((matOf n n (fun i j=>some (if i=j then ⟨⟨1,0,0,0⟩,0⟩ else dZ))).getD mZ).rows),vi (((matOf n n (fun i j=>some (if i=j then ⟨⟨1,0,0,0⟩,0⟩ else dZ))).getD mZ).cols),.slice A5 (((matOf n n (fun i j=>some (if i=j then ⟨⟨1,0,0,0⟩,0⟩ else dZ))).getD mZ).cells).length c5],.bool ((matOf n n (fun i j=>some (if i=j then ⟨⟨1,0,0,0⟩,0⟩ else dZ))).isSome)]) rfl rfl)<|Zo (Vw [vi (((matOf n n (fun i j=>some (if i=j then ⟨⟨1,0,0,0⟩,0⟩ else dZ))).getD mZ).rows),vi (((matOf n n (fun i j=>some (if i=j then ⟨⟨1,0,0,0⟩,0⟩ else dZ))).getD mZ).cols),.slice A5 (((matOf n n (fun i j=>some (if i=j then ⟨⟨1,0,0,0⟩,0⟩ else dZ))).getD mZ).cells).length c5] X17 b) ?_;rintro _ w3 ⟨ho,hb⟩;have aB:=b;have d:=d.onlyT ho aB rfl;have e:=Below.only e ho aA;have b:=hb;refine Za rfl<|Zt aE fun a hf=>?_
 refine wp_ret (X2 hf (X0w hf rfl (ResV.cellN (l:=[vi (((matOf n n (fun i j=>some (if i=j then ⟨⟨1,0,0,0⟩,0⟩ else dZ))).getD mZ).rows),vi (((matOf n n (fun i j=>some (if i=j then ⟨⟨1,0,0,0⟩,0⟩ else dZ))).getD mZ).cols),.slice A5 (((matOf n n (fun i j=>some (if i=j then ⟨⟨1,0,0,0⟩,0⟩ else dZ))).getD mZ).cells).length c5]) rfl X0e (b.at 0) rfl) rfl) ?_)
 exact ⟨A5,c5,rfl,d,e⟩
theorem Xy9(w0:World)(p q:Mx)(Aa Ab:Option Addr)(ca cb:Nat)(ba bb:Nat)(I:Rd w0 w0.heap.size 95 encD Aa p.cells)(J:Rd w0 w0.heap.size 95 encD Ab q.cells)(u:Blk w0 ba 33 [vi p.rows,vi p.cols,.slice Aa p.cells.length ca])(x:Blk w0 bb 33 [vi q.rows,vi q.cols,.slice Ab q.cells.length cb])(bG:mOk p=true)(cH:mOk q=true)(dO:p.cols=q.rows)(i j:Nat)(hi:(i:Int)<p.rows)(hj:(j:Int)<q.cols) : Ret Tryz.prog 133 [vi (i:Int),vi (j:Int),.pointer (some ⟨ba,0,none⟩),.pointer (some ⟨bb,0,none⟩)] w0 (fun v w=>v=.tuple #[dV ((dotI p q i j p.cols.toNat).getD dZ),.bool (dotI p q i j p.cols.toNat).isSome]∧Below w0.heap.size w0 w):=by
 have dP:=X2n bG;have dD:=u.lt;have dE:=x.lt
 have dQ:p.cols=(p.cols.toNat:Int):=by omega
 refine enter Tryz.func133 rfl 48 rfl rfl ?_;intro a t
 have f:=bz w0
 refine Zs t fun _ dF=>?_;refine Zf (X8 (zs:=[vi 0,vi 0,vi 0,vi 0,vi 0]) X1i rfl) ?_;rintro _ w1 ⟨L,rfl,bH,e,g⟩;have b9:=Nat.le_trans f.size bH;have d8:=(I.below' f).away bH;have d9:=(J.below' f).away bH;have u:=u.below e;have x:=x.below e;have f:=btr f e;refine Za rfl<|Zx dF fun a t _ dG=>?_;refine Ze (Xg (ps:=[]) (cs:=[vi 0,vi 0,vi 0,vi 0,vi 0]) rfl (fun _=>by first|rfl|kernel_rfl))<|Zf (X8 (zs:=[vi 0,vi 0,vi 0,vi 0,vi 0]) X1i rfl) ?_;rintro _ w2 ⟨b6,rfl,bI,e,o⟩
 have dA:L≠b6:=by have:=g.lt;omega
 have bC:=Nat.le_trans f.size bI;have dB:=(I.below' f).away bI;have dC:=(J.below' f).away bI;have u:=u.below e;have x:=x.below e;have g:=g.below e;have f:=btr f e;refine Zo (Vw [vi 0,vi 0,vi 0,vi 0,vi 0] X01 o) ?_;rintro _ w3 ⟨D,hb⟩;have z:=o;have u:=u.only D (Blk.ne u z rfl);have x:=x.only D (Blk.ne x z rfl);have g:=g.only D (by omega);have f:=Below.only f D bC;have o:=hb;refine ZX dG fun a t _ dH=>?_;refine Zs t fun _ dI=>?_;refine Ze (Vd rfl X1p 1)<|Ze (X0 rfl X7 (u.at 1))<|Zm rfl<|Zt dI fun a t=>?_;refine wp_block<|X0b (σ:=Nat×Dy) (fun (s:Nat×Dy) (a:Act) (w:World)=>match s with|(k,sum)=>Fr a 48 [(0,vi (i:Int)),(1,vi (j:Int)),(2,.pointer (some ⟨ba,0,none⟩)),(3,.pointer (some ⟨bb,0,none⟩)),(6,.pointer (some ⟨L,0,none⟩)),(8,.pointer (some ⟨b6,0,none⟩)),(16,vi p.cols),(17,vi (k:Int))]∧((k:Int)≤p.cols)∧(dotI p q i j k=some sum)∧Blk w ba 33 [vi p.rows,vi p.cols,.slice Aa p.cells.length ca]∧Blk w bb 33 [vi q.rows,vi q.cols,.slice Ab q.cells.length cb]∧Blk w L 95 [vi 0,vi 0,vi 0,vi 0,vi 0]∧Blk w b6 95 [vi sum.num.a,vi sum.num.b,vi sum.num.c,vi sum.num.d,vi sum.exp]∧Below w0.heap.size w0 w) (fun (s:Nat×Dy)=>match s with|(k,sum)=>(p.cols-k).toNat) (0,dZ) ?_ ?_
 ·exact ⟨t.sb,(by omega),rfl,u,x,g,o,f⟩
 rintro ⟨k,sum⟩ a w4 ⟨t,hk,hs,u,x,g,o,f⟩;refine Zs t fun _ dJ=>?_;refine Ze (X10 rfl rfl)<|ZX dJ fun a t _ cJ=>?_
 refine Xk t rfl (fun C=>?_) (fun C=>?_)
 ·have E:=C;have C:=of_decide_eq_true C
  have cK:(k:Int)<p.cols:=C
  refine wp_skip<|cJ _ _<|wp_seq_k fun _ cL=>?_;refine wp_block<|Zs t fun _ cM=>?_;refine Zm rfl<|Za rfl<|ZX cM fun a t _ cN=>?_;refine X0o (fun a w=>∃ y,Fr a 48 [(0,vi (i:Int)),(1,vi (j:Int)),(2,.pointer (some ⟨ba,0,none⟩)),(3,.pointer (some ⟨bb,0,none⟩)),(6,.pointer (some ⟨L,0,none⟩)),(8,.pointer (some ⟨b6,0,none⟩)),(10,.pointer (some ⟨y,0,none⟩)),(11,.bool ((dMulI (p.at i k) (q.at k j)).isSome)),(16,vi p.cols),(17,vi (k:Int))]∧w0.heap.size≤y∧Blk w y 95 [vi (((dMulI (p.at i k) (q.at k j)).getD dZ).num.a),vi (((dMulI (p.at i k) (q.at k j)).getD dZ).num.b),vi (((dMulI (p.at i k) (q.at k j)).getD dZ).num.c),vi (((dMulI (p.at i k) (q.at k j)).getD dZ).num.d),vi (((dMulI (p.at i k) (q.at k j)).getD dZ).exp)]∧L≠y∧b6≠y∧Below w4.heap.size w4 w) ?_ ?_
  ·have n:Below w4.heap.size w4 w4:=Below.refl _ _
   refine X0h none (fun j=>[13].contains j) mixed ?_;intro w5 e;have u:=u.below e;have x:=x.below e;have g:=g.below e;have o:=o.below e;have f:=btr f e;have n:=btr n e;refine Yb t<|Ye 0 rfl (X07 (l:=[vi p.rows,vi p.cols,.slice Aa p.cells.length ca]) rfl X0e (u.at 0) rfl)<|Yo 1 rfl (fun _=>Xa rfl)<|Yo 2 rfl (fun _=>Xa rfl)<|Ye 4 rfl (X07 (l:=[vi q.rows,vi q.cols,.slice Ab q.cells.length cb]) rfl X0e (x.at 0) rfl)<|Yo 5 rfl (fun _=>Xa rfl) ?_;refine Yo 6 rfl (fun _=>Xa rfl) ?_
   have m:Below w5.heap.size w5 w5:=Below.refl _ _
   refine Yc [0,1,2,3,4,5,6,7,8,9,10,11,12] 2 (fun a w=>∃ y,Fr a 48 [(0,vi (i:Int)),(1,vi (j:Int)),(2,.pointer (some ⟨ba,0,none⟩)),(3,.pointer (some ⟨bb,0,none⟩)),(6,.pointer (some ⟨L,0,none⟩)),(8,.pointer (some ⟨b6,0,none⟩)),(10,.pointer (some ⟨y,0,none⟩)),(16,vi p.cols),(17,vi (k:Int)),(30,.agg #[vi (((dMulI (p.at i k) (q.at k j)).getD dZ).num.a),vi (((dMulI (p.at i k) (q.at k j)).getD dZ).num.b),vi (((dMulI (p.at i k) (q.at k j)).getD dZ).num.c),vi (((dMulI (p.at i k) (q.at k j)).getD dZ).num.d),vi (((dMulI (p.at i k) (q.at k j)).getD dZ).exp)]),(31,.bool ((dMulI (p.at i k) (q.at k j)).isSome))]∧w0.heap.size≤y∧Blk w y 95 [vi 0,vi 0,vi 0,vi 0,vi 0]∧L≠y∧b6≠y∧w5.heap.size≤y∧w4.heap.size≤y∧AwayR p.cells Aa y∧AwayR q.cells Ab y∧Below w5.heap.size w5 w) ?_ ?_
   ·rintro a w6 ⟨y,t,aC,B,M,N,bJ,bK,cO,cP,e⟩;clear m;have m:=e;have f:=btr f e;have n:=btr n e;refine Yb t<|Y1 13<|Yh rfl trivial rfl (Vw [vi (((dMulI (p.at i k) (q.at k j)).getD dZ).num.a),vi (((dMulI (p.at i k) (q.at k j)).getD dZ).num.b),vi (((dMulI (p.at i k) (q.at k j)).getD dZ).num.c),vi (((dMulI (p.at i k) (q.at k j)).getD dZ).num.d),vi (((dMulI (p.at i k) (q.at k j)).getD dZ).exp)] X01 B) ?_;rintro _ w7 ⟨D,hb⟩;have z:=B;have n:=Below.only n D bK;have m:=Below.only m D bJ;have f:=Below.only f D aC;have B:=hb;refine Yo 14 rfl (fun _=>X18 rfl) ?_;refine Yd fun a t=>?_
    have dK:Below w4.heap.size w4 w7:=n
    exact ⟨y,t.sb,aC,B,M,N,dK⟩
   intro bD;refine Yc [0,1,2,3,4,5,6,7,12] 6 (fun a w=>∃ G,Fr a 48 [(0,vi (i:Int)),(1,vi (j:Int)),(2,.pointer (some ⟨ba,0,none⟩)),(3,.pointer (some ⟨bb,0,none⟩)),(6,.pointer (some ⟨L,0,none⟩)),(8,.pointer (some ⟨b6,0,none⟩)),(10,.pointer (some ⟨G,0,none⟩)),(16,vi p.cols),(17,vi (k:Int)),(24,.agg #[vi ((p.at i k).num.a),vi ((p.at i k).num.b),vi ((p.at i k).num.c),vi ((p.at i k).num.d),vi ((p.at i k).exp)]),(28,.agg #[vi ((q.at k j).num.a),vi ((q.at k j).num.b),vi ((q.at k j).num.c),vi ((q.at k j).num.d),vi ((q.at k j).exp)])]∧w0.heap.size≤G∧Blk w G 95 [vi 0,vi 0,vi 0,vi 0,vi 0]∧L≠G∧b6≠G∧w5.heap.size≤G∧w4.heap.size≤G∧AwayR p.cells Aa G∧AwayR q.cells Ab G∧Below w5.heap.size w5 w) ?_ ?_
   ·rintro a w8 ⟨G,t,bL,aE,aF,aG,bM,bN,aH,aI,e⟩;clear m;have m:=e;have f:=btr f e;have n:=btr n e;refine Yb t<|Y1 8<|Yk rfl trivial (Vc (Xth _ (p.at i k) (q.at k j)) Xfa) (fun _ _ ⟨_,e⟩=>e) ?_;rintro _ w9 ⟨rfl,e⟩;have aE:=aE.below e;have f:=btr f e;have n:=btr n e;have m:=btr m e;refine Yo 9 rfl (fun _=>Xa rfl)<|Yo 10 rfl (fun _=>X4 (vs:=[.agg #[vi (((dMulI (p.at i k) (q.at k j)).getD dZ).num.a),vi (((dMulI (p.at i k) (q.at k j)).getD dZ).num.b),vi (((dMulI (p.at i k) (q.at k j)).getD dZ).num.c),vi (((dMulI (p.at i k) (q.at k j)).getD dZ).num.d),vi (((dMulI (p.at i k) (q.at k j)).getD dZ).exp)],.bool ((dMulI (p.at i k) (q.at k j)).isSome)]) rfl rfl)<|Yo 11 rfl (fun _=>X4 (vs:=[.agg #[vi (((dMulI (p.at i k) (q.at k j)).getD dZ).num.a),vi (((dMulI (p.at i k) (q.at k j)).getD dZ).num.b),vi (((dMulI (p.at i k) (q.at k j)).getD dZ).num.c),vi (((dMulI (p.at i k) (q.at k j)).getD dZ).num.d),vi (((dMulI (p.at i k) (q.at k j)).getD dZ).exp)],.bool ((dMulI (p.at i k) (q.at k j)).isSome)]) rfl rfl) ?_;exact fun a t=>bD _ a _ rfl ⟨G,t.sb,bL,aE,aF,aG,bM,bN,aH,aI,m⟩
   intro bE;refine Yc [0,1,2,3,4,5,6,12] 7 (fun a w=>∃ H,Fr a 48 [(0,vi (i:Int)),(1,vi (j:Int)),(2,.pointer (some ⟨ba,0,none⟩)),(3,.pointer (some ⟨bb,0,none⟩)),(6,.pointer (some ⟨L,0,none⟩)),(8,.pointer (some ⟨b6,0,none⟩)),(10,.pointer (some ⟨H,0,none⟩)),(16,vi p.cols),(17,vi (k:Int)),(24,.agg #[vi ((p.at i k).num.a),vi ((p.at i k).num.b),vi ((p.at i k).num.c),vi ((p.at i k).num.d),vi ((p.at i k).exp)]),(25,.agg #[vi q.rows,vi q.cols,.slice Ab q.cells.length cb]),(26,vi (k:Int)),(27,vi (j:Int))]∧w0.heap.size≤H∧Blk w H 95 [vi 0,vi 0,vi 0,vi 0,vi 0]∧L≠H∧b6≠H∧w5.heap.size≤H∧w4.heap.size≤H∧AwayR p.cells Aa H∧AwayR q.cells Ab H∧Below w5.heap.size w5 w) ?_ ?_
   ·rintro a dR ⟨H,t,bO,aJ,aK,aL,bP,bQ,aM,aN,e⟩;clear m;have m:=e;have f:=btr f e;have n:=btr n e;refine Yb t<|Y1 7<|Yk rfl trivial (Vc (Xnd _ q Ab cb (J.below' f).top k j cH (by omega) hj) X8c) (fun _ _ ⟨_,e⟩=>e) ?_;rintro _ dS ⟨rfl,e⟩;have aJ:=aJ.below e;have f:=btr f e;have n:=btr n e;have m:=btr m e;exact fun a t=>bE _ a _ rfl ⟨H,t.sb,bO,aJ,aK,aL,bP,bQ,aM,aN,m⟩
   intro bF;refine Y2 3 12 ?_ ?_
   ·refine Yk rfl trivial (Vc (Xnd _ p Aa ca (I.below' f).top i k bG hi (by omega)) X8c) (fun _ _ ⟨_,e⟩=>e) ?_;rintro _ dT ⟨rfl,e⟩;have g:=g.below e;have o:=o.below e;have f:=btr f e;have n:=btr n e;have m:=btr m e;refine Y2 7 12 ?_ ?_
    ·refine Yk rfl trivial (Vc (Xnd _ q Ab cb (J.below' f).top k j cH (by omega) hj) X8c) (fun _ _ ⟨_,e⟩=>e) ?_;rintro _ dU ⟨rfl,e⟩;have g:=g.below e;have o:=o.below e;have f:=btr f e;have n:=btr n e;have m:=btr m e;refine Y2 8 12 ?_ ?_
     ·refine Yk rfl trivial (Vc (Xth _ (p.at i k) (q.at k j)) Xfa) (fun _ _ ⟨_,e⟩=>e) ?_;rintro _ dW ⟨rfl,e⟩;have g:=g.below e;have o:=o.below e;have f:=btr f e;have n:=btr n e;have m:=btr m e;refine Yo 9 rfl (fun _=>Xa rfl)<|Yo 10 rfl (fun _=>X4 (vs:=[.agg #[vi (((dMulI (p.at i k) (q.at k j)).getD dZ).num.a),vi (((dMulI (p.at i k) (q.at k j)).getD dZ).num.b),vi (((dMulI (p.at i k) (q.at k j)).getD dZ).num.c),vi (((dMulI (p.at i k) (q.at k j)).getD dZ).num.d),vi (((dMulI (p.at i k) (q.at k j)).getD dZ).exp)],.bool ((dMulI (p.at i k) (q.at k j)).isSome)]) rfl rfl)<|Yo 11 rfl (fun _=>X4 (vs:=[.agg #[vi (((dMulI (p.at i k) (q.at k j)).getD dZ).num.a),vi (((dMulI (p.at i k) (q.at k j)).getD dZ).num.b),vi (((dMulI (p.at i k) (q.at k j)).getD dZ).num.c),vi (((dMulI (p.at i k) (q.at k j)).getD dZ).num.d),vi (((dMulI (p.at i k) (q.at k j)).getD dZ).exp)],.bool ((dMulI (p.at i k) (q.at k j)).isSome)]) rfl rfl)<|Y1 12 ?_;refine Yk rfl trivial (X8 (zs:=[vi 0,vi 0,vi 0,vi 0,vi 0]) X1i rfl) (fun _ _ ⟨_,_,_,h,_⟩=>h) ?_;rintro _ dX ⟨b21,rfl,Q,e,cQ⟩
      have aO:L≠b21:=by have:=g.lt;omega
      have aP:b6≠b21:=by have:=o.lt;omega
      have bR:=Nat.le_trans f.size Q;have bS:=Nat.le_trans n.size Q;have bU:=Nat.le_trans m.size Q;have aQ:=(I.below' f).away Q;have aR:=(J.below' f).away Q;have f:=btr f e;have n:=btr n e;have m:=btr m e;exact fun a t=>bD _ a _ rfl ⟨b21,t.sb,bR,cQ,aO,aP,bU,bS,aQ,aR,m⟩
     refine Yk rfl trivial (X8 (zs:=[vi 0,vi 0,vi 0,vi 0,vi 0]) X1i rfl) (fun _ _ ⟨_,_,_,h,_⟩=>h) ?_;rintro _ dY ⟨b22,rfl,U,e,cR⟩
     have aS:L≠b22:=by have:=g.lt;omega
     have aT:b6≠b22:=by have:=o.lt;omega
     have bW:=Nat.le_trans f.size U;have bX:=Nat.le_trans n.size U;have bY:=Nat.le_trans m.size U;have aU:=(I.below' f).away U;have aW:=(J.below' f).away U;have f:=btr f e;have n:=btr n e;have m:=btr m e;exact fun a t=>bE _ a _ rfl ⟨b22,t.sb,bW,cR,aS,aT,bY,bX,aU,aW,m⟩
    refine Yk rfl trivial (X8 (zs:=[vi 0,vi 0,vi 0,vi 0,vi 0]) X1i rfl) (fun _ _ ⟨_,_,_,h,_⟩=>h) ?_;rintro _ e8 ⟨b23,rfl,W,e,cS⟩
    have aX:L≠b23:=by have:=g.lt;omega
    have aY:b6≠b23:=by have:=o.lt;omega
    have bZ:=Nat.le_trans f.size W;have c4:=Nat.le_trans n.size W;have cA:=Nat.le_trans m.size W;have aZ:=(I.below' f).away W;have b0:=(J.below' f).away W;have f:=btr f e;have n:=btr n e;have m:=btr m e;exact fun a t=>bF _ a _ rfl ⟨b23,t.sb,bZ,cS,aX,aY,cA,c4,aZ,b0,m⟩
   refine Yk rfl trivial (X8 (zs:=[vi 0,vi 0,vi 0,vi 0,vi 0]) X1i rfl) (fun _ _ ⟨_,_,_,h,_⟩=>h) ?_;rintro _ eA ⟨b24,rfl,aA,e,b1⟩
   have b2:L≠b24:=by have:=g.lt;omega
   have b3:b6≠b24:=by have:=o.lt;omega
   have cB:=Nat.le_trans f.size aA;have cC:=Nat.le_trans n.size aA;have cD:=Nat.le_trans m.size aA;have b5:=(I.below' f).away aA;have b7:=(J.below' f).away aA;have f:=btr f e;have n:=btr n e;have m:=btr m e;refine Y1 3<|Yk rfl trivial (Vc (Xnd _ p Aa ca (I.below' f).top i k bG hi (by omega)) X8c) (fun _ _ ⟨_,e⟩=>e) ?_;rintro _ eB ⟨rfl,e⟩;have b1:=b1.below e;have f:=btr f e;have n:=btr n e;have m:=btr m e;exact fun a t=>bF _ a _ rfl ⟨b24,t.sb,cB,b1,b2,b3,cD,cC,b5,b7,m⟩
  rintro a eC ⟨y,t,aC,B,M,N,e⟩;have u:=u.below e;have x:=x.below e;have g:=g.below e;have o:=o.below e;have f:=btr f e;refine cN _ _<|Zs t fun _ cT=>?_;refine Ze (Vn Xm o)<|Ze (Vn Xm B)<|Zf (Vc (Xyk _ sum ((dMulI (p.at i k) (q.at k j)).getD dZ)) Xv4) ?_;rintro _ eD ⟨rfl,e⟩;have u:=u.below e;have x:=x.below e;have g:=g.below e;have o:=o.below e;have B:=B.below e;have f:=btr f e;refine Zm rfl<|Ze (X4 (vs:=[.agg #[vi (((dAddI sum ((dMulI (p.at i k) (q.at k j)).getD dZ)).getD dZ).num.a),vi (((dAddI sum ((dMulI (p.at i k) (q.at k j)).getD dZ)).getD dZ).num.b),vi (((dAddI sum ((dMulI (p.at i k) (q.at k j)).getD dZ)).getD dZ).num.c),vi (((dAddI sum ((dMulI (p.at i k) (q.at k j)).getD dZ)).getD dZ).num.d),vi (((dAddI sum ((dMulI (p.at i k) (q.at k j)).getD dZ)).getD dZ).exp)],.bool ((dAddI sum ((dMulI (p.at i k) (q.at k j)).getD dZ)).isSome)]) rfl rfl)<|Ze (X4 (vs:=[.agg #[vi (((dAddI sum ((dMulI (p.at i k) (q.at k j)).getD dZ)).getD dZ).num.a),vi (((dAddI sum ((dMulI (p.at i k) (q.at k j)).getD dZ)).getD dZ).num.b),vi (((dAddI sum ((dMulI (p.at i k) (q.at k j)).getD dZ)).getD dZ).num.c),vi (((dAddI sum ((dMulI (p.at i k) (q.at k j)).getD dZ)).getD dZ).num.d),vi (((dAddI sum ((dMulI (p.at i k) (q.at k j)).getD dZ)).getD dZ).exp)],.bool ((dAddI sum ((dMulI (p.at i k) (q.at k j)).getD dZ)).isSome)]) rfl rfl)<|Zf (X8 (zs:=[vi 0,vi 0,vi 0,vi 0,vi 0]) X1i rfl) ?_;rintro _ eE ⟨b26,rfl,b8,e,aD⟩
  have cU:L≠b26:=by have:=g.lt;omega
  have cV:b6≠b26:=by have:=o.lt;omega
  have cG:y≠b26:=by have:=B.lt;omega
  have cE:=Nat.le_trans f.size b8;have cW:=(I.below' f).away b8;have cX:=(J.below' f).away b8;have u:=u.below e;have x:=x.below e;have g:=g.below e;have o:=o.below e;have f:=btr f e;refine Zo (Vw [vi (((dAddI sum ((dMulI (p.at i k) (q.at k j)).getD dZ)).getD dZ).num.a),vi (((dAddI sum ((dMulI (p.at i k) (q.at k j)).getD dZ)).getD dZ).num.b),vi (((dAddI sum ((dMulI (p.at i k) (q.at k j)).getD dZ)).getD dZ).num.c),vi (((dAddI sum ((dMulI (p.at i k) (q.at k j)).getD dZ)).getD dZ).num.d),vi (((dAddI sum ((dMulI (p.at i k) (q.at k j)).getD dZ)).getD dZ).exp)] X01 aD) ?_;rintro _ dL ⟨D,hb⟩;have z:=aD;have u:=u.only D (Blk.ne u z rfl);have x:=x.only D (Blk.ne x z rfl);have g:=g.only D (by omega);have o:=o.only D (by omega);have f:=Below.only f D cE;have aD:=hb;refine Za rfl<|ZX cT fun a t _ cY=>?_;refine wp_seq_k fun _ d5=>?_;refine X0o (fun a w=>Fr a 48 [(0,vi (i:Int)),(1,vi (j:Int)),(2,.pointer (some ⟨ba,0,none⟩)),(3,.pointer (some ⟨bb,0,none⟩)),(6,.pointer (some ⟨L,0,none⟩)),(8,.pointer (some ⟨b6,0,none⟩)),(12,.pointer (some ⟨b26,0,none⟩)),(16,vi p.cols),(17,vi (k:Int)),(43,.bool ((!((dMulI (p.at i k) (q.at k j)).isSome))||(!((dAddI sum ((dMulI (p.at i k) (q.at k j)).getD dZ)).isSome))))]∧dL=w) ?_ ?_
  ·refine Zr t<|Zm rfl<|Ze (X0z rfl)<|Zm rfl ?_
   refine Zg 40 rfl (fun A=>?_) (fun A=>?_)
   ·refine Zp (gP A) ?_;refine Zp (gP A) ?_;refine Ze (Xn rfl A rfl) ?_;refine Zn fun a t=>?_;exact ⟨t.sub ⟨rfl,rfl,rfl,rfl,rfl,rfl,rfl,rfl,rfl,X1 rfl (by first|rfl|(simp only [E,A,bs];done)|simp [E,A]),trivial⟩,rfl⟩
   refine Zv (gW A) (Xa rfl) ?_;refine Zv (gW A) (X0z rfl) ?_;refine Ze (Xj rfl A rfl) ?_;refine Zn fun a t=>?_;exact ⟨t.sub ⟨rfl,rfl,rfl,rfl,rfl,rfl,rfl,rfl,rfl,X1 rfl (by first|rfl|(simp only [E,A,bs];done)|simp [E,A]),trivial⟩,rfl⟩
  rintro a _ ⟨t,rfl⟩;refine d5 _ _ ?_
  refine Xk t rfl (fun aB=>?_) (fun aB=>?_)
  ·have cF:=aB;have hn:=X6k aB
   have dM:dotI p q i j (k+1)=none:=by rw [dotI,hs];simp only [Option.bind_some];revert hn;cases dMulI (p.at i k) (q.at k j)<;>simp
   have dN:=Xah dM p.cols.toNat (by omega)
   refine Zs t fun _ d6=>?_;refine Ze (Xg (ps:=[]) (cs:=[vi 0,vi 0,vi 0,vi 0,vi 0]) rfl (fun _=>by first|rfl|kernel_rfl))<|Zo (Vw [vi 0,vi 0,vi 0,vi 0,vi 0] X01 g) ?_;rintro _ eF ⟨D,hb⟩;have z:=g;have f:=Below.only f D b9;have g:=hb;refine Za rfl<|Zt d6 fun a t=>?_;refine wp_ret<|X3<|Xr<|X3 ?_;refine X3<|Xr<|X3<|X2 t (X0w t rfl (ResV.cellN (l:=[vi 0,vi 0,vi 0,vi 0,vi 0]) rfl Xm (g.at 0) rfl) rfl) ?_;exact ⟨by rw [dN];rfl,f⟩
  have cF:=aB;have hy:=X8o aB;refine wp_skip<|cY _ _<|Zr t<|Ze (Vn Xm aD)<|Zo (Vw [vi (((dAddI sum ((dMulI (p.at i k) (q.at k j)).getD dZ)).getD dZ).num.a),vi (((dAddI sum ((dMulI (p.at i k) (q.at k j)).getD dZ)).getD dZ).num.b),vi (((dAddI sum ((dMulI (p.at i k) (q.at k j)).getD dZ)).getD dZ).num.c),vi (((dAddI sum ((dMulI (p.at i k) (q.at k j)).getD dZ)).getD dZ).num.d),vi (((dAddI sum ((dMulI (p.at i k) (q.at k j)).getD dZ)).getD dZ).exp)] X01 o) ?_;rintro _ eG ⟨D,hb⟩;have z:=o;have u:=u.only D (Blk.ne u z rfl);have x:=x.only D (Blk.ne x z rfl);have g:=g.only D (by omega);have f:=Below.only f D bC;have o:=hb;refine Zn fun a t=>?_;refine Xt<|cL _ _<|Zr t<|Ze (X06 rfl rfl (by omega) (by omega))<|Zm rfl ?_;refine Zn fun a t=>?_;refine Xp ?_;exact ⟨(k+1,((dAddI sum ((dMulI (p.at i k) (q.at k j)).getD dZ)).getD dZ)),⟨t.sb,(by omega),(by rw [dotI,hs];simp only [Option.bind_some];revert hy;cases dMulI (p.at i k) (q.at k j)<;>simp;intro hy;revert hy;cases dAddI sum _<;>simp),u,x,g,o,f⟩,(by first|omega|(dsimp only;omega))⟩
 have E:=C;have C:=of_decide_eq_false C
 have cK:k=p.cols.toNat:=by omega
 refine wp_exit<|Xl<|Xl<|X0a ?_;refine dH _ _<|Zs t fun _ d7=>?_;refine Ze (Vn Xm o)<|Zo (Vw [vi sum.num.a,vi sum.num.b,vi sum.num.c,vi sum.num.d,vi sum.exp] X01 g) ?_;rintro _ eH ⟨D,hb⟩;have z:=g;have f:=Below.only f D b9;have g:=hb;refine Za rfl<|Zt d7 fun a t=>?_
 refine wp_ret (X2 t (X0w t rfl (ResV.cellN (l:=[vi sum.num.a,vi sum.num.b,vi sum.num.c,vi sum.num.d,vi sum.exp]) rfl Xm (g.at 0) rfl) rfl) ?_)
 exact ⟨by rw [← cK,hs];rfl,f⟩
theorem Xxl(h:World)(p:Mx)(Ap:Option Addr)(cp:Nat)(B:Rd h h.heap.size 95 encD Ap p.cells)(q:Mx)(Aq:Option Addr)(cq:Nat)(C:Rd h h.heap.size 95 encD Aq q.cells)(aH:p.cells.length≤2305843009213693951)(aI:q.cells.length≤2305843009213693951) : Ret Tryz.prog 70 [.agg #[vi p.rows,vi p.cols,.slice Ap p.cells.length cp],.agg #[vi q.rows,vi q.cols,.slice Aq q.cells.length cq]] h (fun v w=>∃ A c,v=.tuple #[mV A c ((mulI p q).getD mZ),.bool (mulI p q).isSome]∧Own w h.heap.size 95 5 encD A c ((mulI p q).getD mZ).cells∧Below h.heap.size h w):=by
 refine enter Tryz.func70 rfl 30 rfl rfl ?_;intro a n
 have f:=bz h
 refine Zs n fun _ aJ=>?_;refine Zf (X0i (zs:=[vi p.rows,vi p.cols,.slice Ap p.cells.length cp]) rfl rfl) ?_;rintro _ w1 ⟨b4,rfl,aK,k,e⟩;have aQ:=Nat.le_trans f.size aK;have f:=btr f k;refine Zf (X0i (zs:=[vi q.rows,vi q.cols,.slice Aq q.cells.length cq]) rfl rfl) ?_;rintro _ w2 ⟨b5,rfl,aL,k,g⟩
 have aE:b4≠b5:=by have:=e.lt;omega
 have aR:=Nat.le_trans f.size aL;have e:=e.below k;have f:=btr f k;refine Zf (X8 (zs:=[vi 0,vi 0,.slice none 0 0]) X1n rfl) ?_;rintro _ w3 ⟨b7,rfl,aM,k,m⟩
 have aF:b4≠b7:=by have:=e.lt;omega
 have aG:b5≠b7:=by have:=g.lt;omega
 have D:=Nat.le_trans f.size aM;have e:=e.below k;have g:=g.below k;have f:=btr f k;refine Za rfl<|ZX aJ fun a n _ aN=>?_;refine wp_seq_k fun _ aO=>?_;refine X0o (fun a w=>Fr a 30 [(2,.pointer (some ⟨b4,0,none⟩)),(3,.pointer (some ⟨b5,0,none⟩)),(4,.pointer (some ⟨b7,0,none⟩)),(20,.bool (((!(mOk p))||(!(mOk q)))||(p.cols != q.rows)))]∧Below w3.heap.size w3 w) ?_ ?_
 ·have u:Below w3.heap.size w3 w3:=Below.refl _ _
  refine Zr n<|Ze (Vn X0e e)<|Zf (Vc (Xr4 _ p Ap cp (B.below' f).top aH) Xbl) ?_;rintro _ w4 ⟨rfl,k⟩;have e:=e.below k;have g:=g.below k;have f:=btr f k;have u:=btr u k;refine Ze (X0z rfl)<|Zm rfl ?_
  refine Zg 9 rfl (fun d=>?_) (fun d=>?_)
  ·refine Zp (gP d) ?_;refine Zp (gP d) ?_;refine Zp (gP d) ?_;refine Ze (Xn rfl d rfl)<|Zm rfl<|Zp (gP rfl) ?_;refine Zp (gP rfl) ?_;refine Zp (gP rfl) ?_;refine Zp (gP rfl) ?_;refine Zp (gP rfl) ?_;refine Ze (Xn rfl rfl rfl) ?_;refine Zn fun a n=>?_
   have x:Below w3.heap.size w3 w4:=u
   exact ⟨n.sub ⟨rfl,rfl,rfl,X1 rfl (by first|rfl|(simp only [d,bs];done)|simp [d]),trivial⟩,x⟩
  refine Zv (gW d) (Vn X0e g) ?_;refine Zk (gW d) (Vc (Xr4 _ q Aq cq (C.below' f).top aI) Xbl) ?_;rintro _ w5 ⟨rfl,k⟩;have e:=e.below k;have g:=g.below k;have f:=btr f k;have u:=btr u k;refine Zv (gW d) (X0z rfl) ?_;refine Ze (Xj rfl d rfl)<|Zm rfl ?_
  refine Zg 14 rfl (fun b=>?_) (fun b=>?_)
  ·refine Zp (gP b) ?_;refine Zp (gP b) ?_;refine Zp (gP b) ?_;refine Zp (gP b) ?_;refine Zp (gP b) ?_;refine Ze (Xn rfl b rfl) ?_;refine Zn fun a n=>?_
   have x:Below w3.heap.size w3 w5:=u
   exact ⟨n.sub ⟨rfl,rfl,rfl,X1 rfl (by first|rfl|(simp only [d,b,bs];done)|simp [d,b]),trivial⟩,x⟩
  refine Zv (gW b) (Vd rfl X1p 1) ?_;refine Zv (gW b) (X0 rfl X7 (e.at 1)) ?_;refine Zv (gW b) (Vd rfl X1w 0) ?_;refine Zv (gW b) (X0 rfl X7 (g.at 0)) ?_;refine Zv (gW b) (X2h rfl rfl) ?_;refine Ze (Xj rfl b rfl) ?_;refine Zn fun a n=>?_
  have x:Below w3.heap.size w3 w5:=u
  exact ⟨n.sub ⟨rfl,rfl,rfl,X1 rfl (by first|rfl|(simp only [d,b,bs];done)|simp [d,b]),trivial⟩,x⟩
 rintro a w6 ⟨n,k⟩;have e:=e.below k;have g:=g.below k;have m:=m.below k;have f:=btr f k;refine aO _ _ ?_
 refine Xk n rfl (fun o=>?_) (fun o=>?_)
 ·have aA:=o
  have hn:(mOk p&&mOk q&&p.cols==q.rows)=false:=by revert o;cases mOk p<;>cases mOk q<;>simp
  refine Zs n fun _ aC=>?_;refine Ze (Xg (ps:=[]) (cs:=[vi 0,vi 0,.slice none 0 0]) rfl (fun _=>by first|rfl|kernel_rfl))<|Zo (Vw [vi 0,vi 0,.slice none 0 0] X17 m) ?_;rintro _ w7 ⟨ho,hb⟩;have E:=m;have f:=Below.only f ho D;have m:=hb;refine Za rfl<|Zt aC fun a n=>?_;refine wp_ret<|X3<|X2 n (X0w n rfl (ResV.cellN (l:=[vi 0,vi 0,.slice none 0 0]) rfl X0e (m.at 0) rfl) rfl) ?_;exact ⟨none,0,by rw [mulI,hn];rfl,by rw [mulI,hn];exact (Own.nil _ _ _ _ _),f⟩
 have aA:=o
 have hy:(mOk p&&mOk q&&p.cols==q.rows)=true:=by revert o;cases mOk p<;>cases mOk q<;>simp
 have aB:=Xvt hy
 have aP:p.cols=q.rows:=by simpa using aB.2.2
 refine wp_skip<|aN _ _<|Zs n fun _ aD=>?_;refine Ze (Vd rfl X1w 0)<|Ze (X0 rfl X7 (e.at 0))<|Ze (Vd rfl X1p 1)<|Ze (X0 rfl X7 (g.at 1))<|Ze (X2z (vs:=[.pointer (some ⟨b4,0,none⟩),.pointer (some ⟨b5,0,none⟩)]) rfl) ?_;refine Zf (Vc (Xov _ p.rows q.cols 133 [.pointer (some ⟨b4,0,none⟩),.pointer (some ⟨b5,0,none⟩)] Xtf (fun i j=>dotI p q i j p.cols.toNat) (fun i j w' hi hj hE'=>Xy9 w' p q _ _ _ _ _ _ ((B.below' f).below hE').top ((C.below' f).below hE').top (e.below hE') (g.below hE') aB.1 aB.2.1 aP i j hi hj)) Xc2) ?_;rintro _ w8 ⟨y,z,rfl,t,k⟩;have t:=t.lower f.size;have m:=m.below k;have f:=btr f k;refine Ze (X4 (vs:=[.agg #[vi (((matOf p.rows q.cols (fun i j=>dotI p q i j p.cols.toNat)).getD mZ).rows),vi (((matOf p.rows q.cols (fun i j=>dotI p q i j p.cols.toNat)).getD mZ).cols),.slice y (((matOf p.rows q.cols (fun i j=>dotI p q i j p.cols.toNat)).getD mZ).cells).length z],.bool ((matOf p.rows q.cols (fun i j=>dotI p q i j p.cols.toNat)).isSome)]) rfl rfl)<|Ze (X4 (vs:=[.agg #[vi (((matOf p.rows q.cols (fun i j=>dotI p q i j p.cols.toNat)).getD mZ).rows),vi (((matOf p.rows q.cols (fun i j=>dotI p q i j p.cols.toNat)).getD mZ).cols),.slice y (((matOf p.rows q.cols (fun i j=>dotI p q i j p.cols.toNat)).getD mZ).cells).length z],.bool ((matOf p.rows q.cols (fun i j=>dotI p q i j p.cols.toNat)).isSome)]) rfl rfl)<|Zo (Vw [vi (((matOf p.rows q.cols (fun i j=>dotI p q i j p.cols.toNat)).getD mZ).rows),vi (((matOf p.rows q.cols (fun i j=>dotI p q i j p.cols.toNat)).getD mZ).cols),.slice y (((matOf p.rows q.cols (fun i j=>dotI p q i j p.cols.toNat)).getD mZ).cells).length z] X17 m) ?_;rintro _ w9 ⟨ho,hb⟩;have E:=m;have t:=t.onlyT ho E rfl;have f:=Below.only f ho D;have m:=hb;refine Za rfl<|Zt aD fun a n=>?_
 refine wp_ret (X2 n (X0w n rfl (ResV.cellN (l:=[vi (((matOf p.rows q.cols (fun i j=>dotI p q i j p.cols.toNat)).getD mZ).rows),vi (((matOf p.rows q.cols (fun i j=>dotI p q i j p.cols.toNat)).getD mZ).cols),.slice y (((matOf p.rows q.cols (fun i j=>dotI p q i j p.cols.toNat)).getD mZ).cells).length z]) rfl X0e (m.at 0) rfl) rfl) ?_)
 exact ⟨y,z,by rw [mulI,if_pos hy],by rw [mulI,if_pos hy];exact t,f⟩
theorem Xy8(n:World)(p:Mx)(x:Dy)(Aa:Option Addr)(ca:Nat)(ba bb:Nat)(aA:Rd n n.heap.size 95 encD Aa p.cells)(m:Blk n ba 33 [vi p.rows,vi p.cols,.slice Aa p.cells.length ca])(g:Blk n bb 95 (encD x))(aF:mOk p=true)(i j:Nat)(hi:(i:Int)<p.rows)(hj:(j:Int)<p.cols) : Ret Tryz.prog 172 [vi (i:Int),vi (j:Int),.pointer (some ⟨ba,0,none⟩),.pointer (some ⟨bb,0,none⟩)] n (fun v w=>v=.tuple #[dV ((dMulI (p.at i j) x).getD dZ),.bool (dMulI (p.at i j) x).isSome]∧Below n.heap.size n w):=by
 have aG:=m.lt;have aH:=g.lt
 unfold encD at g
 refine enter Tryz.func172 rfl 16 rfl rfl ?_;intro a hf
 have k:=bz n
 refine Zs hf fun _ aI=>?_;refine Zf (X8 (zs:=[vi 0,vi 0,vi 0,vi 0,vi 0]) X1i rfl) ?_;rintro _ w1 ⟨b3,rfl,aB,f,e⟩
 have aD:bb≠b3:=by have:=g.lt;omega
 have aC:=Nat.le_trans k.size aB;have aE:=(aA.below' k).away aB;have m:=m.below f;have g:=g.below f;have k:=btr k f;refine Za rfl<|ZX aI fun a hf _ aJ=>?_;refine X0h none (fun j=>[8].contains j) mixed ?_;intro w2 f;have m:=m.below f;have g:=g.below f;have e:=e.below f;have k:=btr k f;refine Yb hf<|Ye 0 rfl (X07 (l:=[vi p.rows,vi p.cols,.slice Aa p.cells.length ca]) rfl X0e (m.at 0) rfl)<|Yo 1 rfl (fun _=>Xa rfl)<|Yo 2 rfl (fun _=>Xa rfl)<|Ye 4 rfl (X07 (l:=[vi x.num.a,vi x.num.b,vi x.num.c,vi x.num.d,vi x.exp]) rfl Xm (g.at 0) rfl)<|Y1 3 ?_;refine Yk rfl trivial (Vc (Xnd _ p Aa ca (aA.below' k).top i j aF hi hj) X8c) (fun _ _ ⟨_,f⟩=>f) ?_;rintro _ w3 ⟨rfl,f⟩;have e:=e.below f;have k:=btr k f;refine Y1 5<|Yk rfl trivial (Vc (Xth _ (p.at i j) x) Xfa) (fun _ _ ⟨_,f⟩=>f) ?_;rintro _ w4 ⟨rfl,f⟩;have e:=e.below f;have k:=btr k f;refine Yo 6 rfl (fun _=>X4 (vs:=[.agg #[vi (((dMulI (p.at i j) x).getD dZ).num.a),vi (((dMulI (p.at i j) x).getD dZ).num.b),vi (((dMulI (p.at i j) x).getD dZ).num.c),vi (((dMulI (p.at i j) x).getD dZ).num.d),vi (((dMulI (p.at i j) x).getD dZ).exp)],.bool ((dMulI (p.at i j) x).isSome)]) rfl rfl)<|Yo 7 rfl (fun _=>X4 (vs:=[.agg #[vi (((dMulI (p.at i j) x).getD dZ).num.a),vi (((dMulI (p.at i j) x).getD dZ).num.b),vi (((dMulI (p.at i j) x).getD dZ).num.c),vi (((dMulI (p.at i j) x).getD dZ).num.d),vi (((dMulI (p.at i j) x).getD dZ).exp)],.bool ((dMulI (p.at i j) x).isSome)]) rfl rfl)<|Y1 8 ?_;refine Yh rfl trivial rfl (Vw [vi (((dMulI (p.at i j) x).getD dZ).num.a),vi (((dMulI (p.at i j) x).getD dZ).num.b),vi (((dMulI (p.at i j) x).getD dZ).num.c),vi (((dMulI (p.at i j) x).getD dZ).num.d),vi (((dMulI (p.at i j) x).getD dZ).exp)] X01 e) ?_;rintro _ w5 ⟨ho,hb⟩
 have aK:=e;have k:=Below.only k ho aC;have e:=hb;refine Yo 9 rfl (fun _=>X18 rfl) ?_;refine Yd fun a hf=>?_;refine aJ _ _ ?_
 refine wp_ret (X2 hf (X0w hf rfl (ResV.cellN (l:=[vi (((dMulI (p.at i j) x).getD dZ).num.a),vi (((dMulI (p.at i j) x).getD dZ).num.b),vi (((dMulI (p.at i j) x).getD dZ).num.c),vi (((dMulI (p.at i j) x).getD dZ).num.d),vi (((dMulI (p.at i j) x).getD dZ).exp)]) rfl Xm (e.at 0) rfl) rfl) ?_)
 exact ⟨rfl,k⟩
theorem Xwv(w0:World)(p:Mx)(Ap:Option Addr)(cp:Nat)(y:Rd w0 w0.heap.size 95 encD Ap p.cells)(x:Dy)(aI:p.cells.length≤2305843009213693951) : Ret Tryz.prog 115 [.agg #[vi p.rows,vi p.cols,.slice Ap p.cells.length cp],.agg #[vi x.num.a,vi x.num.b,vi x.num.c,vi x.num.d,vi x.exp]] w0 (fun v w=>∃ A c,v=.tuple #[mV A c ((scaleI p x).getD mZ),.bool (scaleI p x).isSome]∧Own w w0.heap.size 95 5 encD A c ((scaleI p x).getD mZ).cells∧Below w0.heap.size w0 w):=by
 refine enter Tryz.func115 rfl 23 rfl rfl ?_;intro a q
 have e:=bz w0
 refine Zs q fun _ aJ=>?_;refine Zf (X0i (zs:=[vi p.rows,vi p.cols,.slice Ap p.cells.length cp]) rfl rfl) ?_;rintro _ w1 ⟨b3,rfl,aK,k,m⟩;have aP:=Nat.le_trans e.size aK;have e:=btr e k;refine Zf (X0i (zs:=[vi x.num.a,vi x.num.b,vi x.num.c,vi x.num.d,vi x.exp]) rfl rfl) ?_;rintro _ w2 ⟨b4,rfl,aC,k,o⟩;have aQ:=Nat.le_trans e.size aC;have aG:=(y.below' e).away aC;have m:=m.below k;have e:=btr e k;refine Zf (X8 (zs:=[vi 0,vi 0,.slice none 0 0]) X1n rfl) ?_;rintro _ w3 ⟨b6,rfl,aL,k,g⟩
 have aH:b3≠b6:=by have:=m.lt;omega
 have B:=Nat.le_trans e.size aL;have m:=m.below k;have o:=o.below k;have e:=btr e k;refine Za rfl<|ZX aJ fun a q _ aM=>?_;refine wp_seq_k fun _ aN=>?_;refine X0o (fun a w=>Fr a 23 [(2,.pointer (some ⟨b3,0,none⟩)),(3,.pointer (some ⟨b4,0,none⟩)),(4,.pointer (some ⟨b6,0,none⟩)),(13,.bool ((!(mOk p))||(!(dOk x))))]∧Below w3.heap.size w3 w) ?_ ?_
 ·have u:Below w3.heap.size w3 w3:=Below.refl _ _
  refine Zr q<|Ze (Vn X0e m)<|Zf (Vc (Xr4 _ p Ap cp (y.below' e).top aI) Xbl) ?_;rintro _ w4 ⟨rfl,k⟩;have o:=o.below k;have e:=btr e k;have u:=btr u k;refine Ze (X0z rfl)<|Zm rfl ?_
  refine Zg 9 rfl (fun f=>?_) (fun f=>?_)
  ·refine Zp (gP f) ?_;refine Zp (gP f) ?_;refine Zp (gP f) ?_;refine Ze (Xn rfl f rfl) ?_;refine Zn fun a q=>?_
   have aA:Below w3.heap.size w3 w4:=u
   exact ⟨q.sub ⟨rfl,rfl,rfl,X1 rfl (by first|rfl|(simp only [f,bs];done)|simp [f]),trivial⟩,aA⟩
  refine Zv (gW f) (Vn Xm o) ?_;refine Zk (gW f) (Vc (Xfd _ x) X5i) ?_;rintro _ w5 ⟨rfl,k⟩;have e:=btr e k;have u:=btr u k;refine Zv (gW f) (X0z rfl) ?_;refine Ze (Xj rfl f rfl) ?_;refine Zn fun a q=>?_
  have aA:Below w3.heap.size w3 w5:=u
  exact ⟨q.sub ⟨rfl,rfl,rfl,X1 rfl (by first|rfl|(simp only [f,bs];done)|simp [f]),trivial⟩,aA⟩
 rintro a w6 ⟨q,k⟩;have m:=m.below k;have o:=o.below k;have g:=g.below k;have e:=btr e k;refine aN _ _ ?_
 refine Xk q rfl (fun t=>?_) (fun t=>?_)
 ·have aB:=t
  have hn:(mOk p&&dOk x)=false:=by revert t;cases mOk p<;>cases dOk x<;>simp
  refine Zs q fun _ aD=>?_;refine Ze (Xg (ps:=[]) (cs:=[vi 0,vi 0,.slice none 0 0]) rfl (fun _=>by first|rfl|kernel_rfl))<|Zo (Vw [vi 0,vi 0,.slice none 0 0] X17 g) ?_;rintro _ w7 ⟨ho,hb⟩;have C:=g;have e:=Below.only e ho B;have g:=hb;refine Za rfl<|Zt aD fun a q=>?_;refine wp_ret<|X3<|X2 q (X0w q rfl (ResV.cellN (l:=[vi 0,vi 0,.slice none 0 0]) rfl X0e (g.at 0) rfl) rfl) ?_;exact ⟨none,0,by rw [scaleI,hn];rfl,by rw [scaleI,hn];exact (Own.nil _ _ _ _ _),e⟩
 have aB:=t
 have hy:(mOk p&&dOk x)=true:=by revert t;cases mOk p<;>cases dOk x<;>simp
 have aO:=(Bool.and_eq_true _ _▸hy:mOk p=true∧dOk x=true);refine wp_skip<|aM _ _<|Zs q fun _ aE=>?_;refine Ze (Vd rfl X1w 0)<|Ze (X0 rfl X7 (m.at 0))<|Ze (Vd rfl X1p 1)<|Ze (X0 rfl X7 (m.at 1))<|Ze (X2z (vs:=[.pointer (some ⟨b3,0,none⟩),.pointer (some ⟨b4,0,none⟩)]) rfl) ?_;refine Zf (Vc (Xov _ p.rows p.cols 172 [.pointer (some ⟨b3,0,none⟩),.pointer (some ⟨b4,0,none⟩)] Xty (fun i j=>dMulI (p.at i j) x) (fun i j w' hi hj hE'=>Xy8 w' p x _ _ _ _ ((y.below' e).below hE').top (m.below hE') (o.below hE') aO.1 i j hi hj)) Xc2) ?_;rintro _ w8 ⟨z,h,rfl,n,k⟩;have aF:=n.awayNew o.lt;have n:=n.lower e.size;have g:=g.below k;have e:=btr e k;refine Ze (X4 (vs:=[.agg #[vi (((matOf p.rows p.cols (fun i j=>dMulI (p.at i j) x)).getD mZ).rows),vi (((matOf p.rows p.cols (fun i j=>dMulI (p.at i j) x)).getD mZ).cols),.slice z (((matOf p.rows p.cols (fun i j=>dMulI (p.at i j) x)).getD mZ).cells).length h],.bool ((matOf p.rows p.cols (fun i j=>dMulI (p.at i j) x)).isSome)]) rfl rfl)<|Ze (X4 (vs:=[.agg #[vi (((matOf p.rows p.cols (fun i j=>dMulI (p.at i j) x)).getD mZ).rows),vi (((matOf p.rows p.cols (fun i j=>dMulI (p.at i j) x)).getD mZ).cols),.slice z (((matOf p.rows p.cols (fun i j=>dMulI (p.at i j) x)).getD mZ).cells).length h],.bool ((matOf p.rows p.cols (fun i j=>dMulI (p.at i j) x)).isSome)]) rfl rfl)<|Zo (Vw [vi (((matOf p.rows p.cols (fun i j=>dMulI (p.at i j) x)).getD mZ).rows),vi (((matOf p.rows p.cols (fun i j=>dMulI (p.at i j) x)).getD mZ).cols),.slice z (((matOf p.rows p.cols (fun i j=>dMulI (p.at i j) x)).getD mZ).cells).length h] X17 g) ?_;rintro _ w9 ⟨ho,hb⟩;have C:=g;have n:=n.onlyT ho C rfl;have e:=Below.only e ho B;have g:=hb;refine Za rfl<|Zt aE fun a q=>?_
 refine wp_ret (X2 q (X0w q rfl (ResV.cellN (l:=[vi (((matOf p.rows p.cols (fun i j=>dMulI (p.at i j) x)).getD mZ).rows),vi (((matOf p.rows p.cols (fun i j=>dMulI (p.at i j) x)).getD mZ).cols),.slice z (((matOf p.rows p.cols (fun i j=>dMulI (p.at i j) x)).getD mZ).cells).length h]) rfl X0e (g.at 0) rfl) rfl) ?_)
 exact ⟨z,h,by rw [scaleI,if_pos hy],by rw [scaleI,if_pos hy];exact n,e⟩
theorem Xsi(w0:World)(n:Int)(x:Gt) : Ret Tryz.prog 95 [vi n,.agg #[vi x.k,vi x.a,vi x.b]] w0 (fun v w=>v=.bool (gOk n x)∧Below w0.heap.size w0 w):=by
 refine enter Tryz.func95 rfl 60 rfl rfl ?_;intro a i
 have hW:=bz w0
 refine Zs i fun _ aF=>?_;refine Zf (X0i (zs:=[vi x.k,vi x.a,vi x.b]) rfl rfl) ?_;rintro _ w1 ⟨b2,rfl,aG,hE,o⟩;have aM:=Nat.le_trans hW.size aG;have hW:=btr hW hE;refine Za rfl<|ZX aF fun a i _ aH=>?_;refine wp_block<|wp_seq_k fun _ aI=>?_;refine X0o (fun a w=>Fr a 60 [(0,vi n),(3,.pointer (some ⟨b2,0,none⟩)),(5,.bool ((!(inR n 1 5))||(!(inR x.k 1 12))))]∧w1=w) ?_ ?_
 ·refine Zr i<|Zm rfl<|Zf (Vc (F91 _ n 1 5) X38) ?_;rintro _ _ ⟨rfl,rfl⟩;refine Ze (X0z rfl)<|Zm rfl ?_
  refine Zg 9 rfl (fun m=>?_) (fun m=>?_)
  ·refine Zp (gP m) ?_;refine Zp (gP m) ?_;refine Zp (gP m) ?_;refine Zp (gP m) ?_;refine Ze (Xn rfl m rfl)<|Za rfl ?_;refine Zn fun a i=>?_;exact ⟨i.sub ⟨rfl,rfl,X1 rfl (by first|rfl|(simp only [m,bs];done)|simp [m]),trivial⟩,rfl⟩
  refine Zv (gW m) (Vd rfl X0n 0) ?_;refine Zv (gW m) (X0 rfl X7 (o.at 0)) ?_;refine Zk (gW m) (Vc (F91 _ x.k 1 12) X38) ?_;rintro _ _ ⟨rfl,rfl⟩;refine Zv (gW m) (X0z rfl) ?_;refine Ze (Xj rfl m rfl)<|Za rfl ?_;refine Zn fun a i=>?_;exact ⟨i.sub ⟨rfl,rfl,X1 rfl (by first|rfl|(simp only [m,bs];done)|simp [m]),trivial⟩,rfl⟩
 rintro a _ ⟨i,rfl⟩;refine aI _ _ ?_
 refine Xk i rfl (fun q=>?_) (fun q=>?_)
 ·have e:=q;have hn:=X6k q;refine Zs i fun _ aJ=>?_;refine Za rfl<|Zt aJ fun a i=>?_;refine wp_ret<|Xr<|X3<|X2 i (Xv i rfl rfl) ?_;exact ⟨by rw [gOk,hn];rfl,hW⟩
 have e:=q;have hy:=X8o q;have aK:=(Bool.and_eq_true _ _▸hy:inR n 1 5=true∧inR x.k 1 12=true);have aN:=X03.1 aK.1;refine Zs i fun _ aL=>?_;refine Ze (Vd rfl X0n 0)<|Ze (X0 rfl X7 (o.at 0))<|Ze (X13 rfl rfl)<|Za rfl<|Zt aL fun a i=>?_
 refine Xk i rfl (fun t=>?_) (fun t=>?_)
 ·have f:=t
  have hk:x.k=12:=by simpa using t
  refine wp_seq_k fun _ aB=>?_;refine X0o (fun a w=>Fr a 60 [(4,.bool ((x.a==0)&&(x.b==0)))]∧w1=w) ?_ ?_
  ·refine Zr i<|Ze (Vd rfl X0f 1)<|Ze (X0 rfl X7 (o.at 1))<|Ze (X13 rfl rfl)<|Zm rfl ?_
   refine Zg 22 rfl (fun j=>?_) (fun j=>?_)
   ·refine Zv (gW j) (Vd rfl X0s 2) ?_;refine Zv (gW j) (X0 rfl X7 (o.at 2)) ?_;refine Zv (gW j) (X13 rfl rfl) ?_;refine Ze (Xn rfl j rfl)<|Za rfl ?_;refine Zn fun a i=>?_;exact ⟨i.sub ⟨X1 rfl (by first|rfl|(simp only [e,f,j,bs];done)|simp [e,f,j]),trivial⟩,rfl⟩
   refine Zp (gP j) ?_;refine Zp (gP j) ?_;refine Zp (gP j) ?_;refine Ze (Xj rfl j rfl)<|Za rfl ?_;refine Zn fun a i=>?_;exact ⟨i.sub ⟨X1 rfl (by first|rfl|(simp only [e,f,j,bs];done)|simp [e,f,j]),trivial⟩,rfl⟩
  rintro a _ ⟨i,rfl⟩;refine aB _ _<|wp_ret<|Xr<|X3 ?_;refine X2 i (Xv i rfl rfl) ?_;exact ⟨by rw [gOk,hy,if_pos hk,Bool.true_and],hW⟩
 have f:=t
 have hk:¬ x.k=12:=by simpa using t
 refine Zs i fun _ aC=>?_;refine Ze (Vd rfl X0n 0)<|Ze (X0 rfl X7 (o.at 0))<|Zf (Vc (F99 _ x.k) X8v) ?_;rintro _ _ ⟨rfl,rfl⟩;refine Za rfl<|Zt aC fun a i=>?_
 refine Xk i rfl (fun p=>?_) (fun p=>?_)
 ·have g:=p;have aA:=p;refine wp_seq_k fun _ aD=>?_;refine X0o (fun a w=>Fr a 60 [(4,.bool (((inR x.a 0 (n-1))&&(inR x.b 0 (n-1)))&&(x.a != x.b)))]∧w1=w) ?_ ?_
  ·refine Zr i<|Ze (Vd rfl X0f 1)<|Ze (X0 rfl X7 (o.at 1))<|Zm rfl<|Ze (X1h rfl rfl (by omega) (by omega))<|Zf (Vc (F91 _ x.a 0 (n-1)) X38) ?_;rintro _ _ ⟨rfl,rfl⟩;refine Zm rfl ?_
   refine Zg 36 rfl (fun c=>?_) (fun c=>?_)
   ·refine Zv (gW c) (Vd rfl X0s 2) ?_;refine Zv (gW c) (X0 rfl X7 (o.at 2)) ?_;refine Zv (gW c) (Xa rfl) ?_;refine Zv (gW c) (X1h rfl rfl (by omega) (by omega)) ?_;refine Zk (gW c) (Vc (F91 _ x.b 0 (n-1)) X38) ?_;rintro _ _ ⟨rfl,rfl⟩;refine Ze (Xn rfl c rfl)<|Zm rfl ?_
    refine Zg 43 rfl (fun d=>?_) (fun d=>?_)
    ·refine Zv (gW d) (Vd rfl X0f 1) ?_;refine Zv (gW d) (X0 rfl X7 (o.at 1)) ?_;refine Zv (gW d) (Vd rfl X0s 2) ?_;refine Zv (gW d) (X0 rfl X7 (o.at 2)) ?_;refine Zv (gW d) (X2h rfl rfl) ?_;refine Ze (Xn rfl d rfl)<|Za rfl ?_;refine Zn fun a i=>?_;exact ⟨i.sub ⟨X1 rfl (by first|rfl|(simp only [e,f,g,c,d,bs];done)|simp [e,f,g,c,d]),trivial⟩,rfl⟩
    refine Zp (gP d) ?_;refine Zp (gP d) ?_;refine Zp (gP d) ?_;refine Zp (gP d) ?_;refine Zp (gP d) ?_;refine Ze (Xj rfl d rfl)<|Za rfl ?_;refine Zn fun a i=>?_;exact ⟨i.sub ⟨X1 rfl (by first|rfl|(simp only [e,f,g,c,d,bs];done)|simp [e,f,g,c,d]),trivial⟩,rfl⟩
   refine Zp (gP c) ?_;refine Zp (gP c) ?_;refine Zp (gP c) ?_;refine Zp (gP c) ?_;refine Zp (gP c) ?_;refine Ze (Xj rfl c rfl)<|Zm rfl<|Zp (gP rfl) ?_;refine Zp (gP rfl) ?_;refine Zp (gP rfl) ?_;refine Zp (gP rfl) ?_;refine Zp (gP rfl) ?_;refine Ze (Xj rfl rfl rfl)<|Za rfl ?_;refine Zn fun a i=>?_;exact ⟨i.sub ⟨X1 rfl (by first|rfl|(simp only [e,f,g,c,bs];done)|simp [e,f,g,c]),trivial⟩,rfl⟩
  rintro a _ ⟨i,rfl⟩;refine aD _ _<|wp_ret<|Xr<|X3 ?_;refine X2 i (Xv i rfl rfl) ?_;exact ⟨by rw [gOk,hy,if_neg hk,if_pos aA,Bool.true_and],hW⟩
 have g:=p
 have aA:¬ inR x.k 9 11=true:=by rw [p];simp
 refine wp_skip<|Xt<|aH _ _<|wp_seq_k fun _ aE=>?_;refine X0o (fun a w=>Fr a 60 [(4,.bool ((inR x.a 0 (n-1))&&(x.b==0)))]∧w1=w) ?_ ?_
 ·refine Zr i<|Ze (Vd rfl X0f 1)<|Ze (X0 rfl X7 (o.at 1))<|Zm rfl<|Ze (X1h rfl rfl (by omega) (by omega))<|Zf (Vc (F91 _ x.a 0 (n-1)) X38) ?_;rintro _ _ ⟨rfl,rfl⟩;refine Zm rfl ?_
  refine Zg 55 rfl (fun l=>?_) (fun l=>?_)
  ·refine Zv (gW l) (Vd rfl X0s 2) ?_;refine Zv (gW l) (X0 rfl X7 (o.at 2)) ?_;refine Zv (gW l) (X13 rfl rfl) ?_;refine Ze (Xn rfl l rfl)<|Za rfl ?_;refine Zn fun a i=>?_;exact ⟨i.sub ⟨X1 rfl (by first|rfl|(simp only [e,f,g,l,bs];done)|simp [e,f,g,l]),trivial⟩,rfl⟩
  refine Zp (gP l) ?_;refine Zp (gP l) ?_;refine Zp (gP l) ?_;refine Ze (Xj rfl l rfl)<|Za rfl ?_;refine Zn fun a i=>?_;exact ⟨i.sub ⟨X1 rfl (by first|rfl|(simp only [e,f,g,l,bs];done)|simp [e,f,g,l]),trivial⟩,rfl⟩
 rintro a _ ⟨i,rfl⟩;refine aE _ _ ?_
 refine wp_ret (X2 i (Xv i rfl rfl) ?_)
 exact ⟨by rw [gOk,hy,if_neg hk,if_neg aA,Bool.true_and],hW⟩
theorem Xyb(f:World)(Al:Option Addr)(cl:Nat)(l:List Gt)(aE:Rd f f.heap.size 115 encG Al l)(kq:FuncId)(pq:List Value)(Fq:FuncF Tryz.prog kq)(q:Gt→Bool)(hq:∀ x w,Below f.heap.size f w→Ret Tryz.prog kq ([gV x]++pq) w (fun v w'=>v=.bool (q x)∧Below w.heap.size w w'))(aR:l.length≤2305843009213693951) : Ret Tryz.prog 154 [.slice Al l.length cl,.func (.func kq) #[] pq.toArray] f (fun v w=>∃ i:Int,v=vi i∧decide (0≤i)=l.any q∧Below f.heap.size f w):=by
 refine enter Tryz.func154 rfl 19 rfl rfl ?_;intro a c
 have j:=bz f
 refine Zs c fun _ aK=>?_;refine Za rfl<|ZX aK fun a c _ aL=>?_;refine Zs c fun _ aM=>?_;refine Zm rfl<|Ze (X0x rfl Xf)<|Zm rfl<|Zt aM fun a c=>?_;refine wp_block<|X0b (σ:=Nat) (fun (k:Nat) (a:Act) (w:World)=>Fr a 19 [(0,.slice Al l.length cl),(1,.func (.func kq) #[] pq.toArray),(7,vi (l.length:Int)),(8,vi (k:Int))]∧(k≤l.length)∧((l.take k).all (fun x=>!q x)=true)∧Below f.heap.size f w) (fun (k:Nat)=>l.length+1-k) 0 ?_ ?_
 ·exact ⟨c.sb,(Nat.zero_le _),(by simp),j⟩
 rintro k a w1 ⟨c,hk,m,j⟩;refine Zs c fun _ aN=>?_;refine Ze (X10 rfl rfl)<|ZX aN fun a c _ aO=>?_
 refine Xk c rfl (fun e=>?_) (fun e=>?_)
 ·have aF:=e;have e:=of_decide_eq_true e
  obtain ⟨g,aA⟩:=Xi (l:=l) (k:=k) (by omega)
  refine wp_skip<|aO _ _<|wp_seq_k fun _ aP=>?_;refine wp_block<|Zs c fun _ aG=>?_;refine Zm rfl<|Za rfl<|Zx aG fun a c _ aH=>?_;refine Zm rfl<|Zm rfl<|Zm rfl<|Zi (k:=k) (u:=g) (enc:=encG) (l:=l) trivial rfl rfl Xf X0p Xb (aE.below' j) aA rfl ?_;intro aS aB;refine Ze (X07 (l:=[vi g.k,vi g.a,vi g.b]) rfl X0g aB rfl)<|Zf (X76 (cs:=pq) (vs:=[.agg #[vi g.k,vi g.a,vi g.b]]) rfl rfl Fq (hq g _ j)) ?_;rintro _ w2 ⟨rfl,hE⟩;have j:=btr j hE;refine Zt aH fun a c=>?_
  refine Xk c rfl (fun d=>?_) (fun d=>?_)
  ·have aC:=d
   have aD:l.any q=true:=X3g aA d
   refine Zs c fun _ aI=>?_;refine Zm rfl<|Za rfl<|Zt aI fun a c=>?_;refine wp_ret<|Xr<|X3<|X3 ?_;refine Xr<|X3<|X2 c (Xv c rfl rfl) ?_;exact ⟨_,rfl,by rw [aD];simp,j⟩
  have aC:=d
  have aQ:(!q g)=true:=by revert d;cases q g<;>simp
  refine wp_skip<|Xt<|aP _ _<|Zr c ?_;refine Ze (X06 rfl rfl (by omega) (by omega))<|Zm rfl ?_;refine Zn fun a c=>?_;refine Xp ?_;exact ⟨k+1,⟨c.sb,(by omega),(X28 m aA aQ),j⟩,(by omega)⟩
 have aF:=e;have e:=of_decide_eq_false e;refine wp_exit<|Xl<|Xl<|X0a ?_;refine aL _ _<|Zs c fun _ aJ=>?_;refine Za rfl<|Zt aJ fun a c=>?_
 refine wp_ret (X2 c (Xv c rfl rfl) ?_)
 have aD:l.any q=false:=X2j (X1z m (by omega))
 exact ⟨_,rfl,by rw [aD];rfl,j⟩
theorem Xys(b:World)(Al:Option Addr)(cl:Nat)(l:List Gt)(aA:Rd b b.heap.size 115 encG Al l)(kq:FuncId)(pq:List Value)(Fq:FuncF Tryz.prog kq)(q:Gt→Bool)(hq:∀ x w,Below b.heap.size b w→Ret Tryz.prog kq ([gV x]++pq) w (fun v w'=>v=.bool (q x)∧Below w.heap.size w w'))(aB:l.length≤2305843009213693951) : Ret Tryz.prog 93 [.slice Al l.length cl,.func (.func kq) #[] pq.toArray] b (fun v w=>v=.bool (l.any q)∧Below b.heap.size b w):=by
 refine enter Tryz.func93 rfl 9 rfl rfl ?_;intro a hf
 have hW:=bz b
 refine Zs hf fun _ aC=>?_;refine Za rfl<|Zx aC fun a hf _ aD=>?_;refine Zm rfl<|Zm rfl<|Zf (Vc (Xyb _ Al cl l (aA.below' hW).top kq pq Fq q (fun x w' hE'=>hq x w' (hW.trans (hE'.mono hW.size))) aB) Xuw) ?_;rintro _ w1 ⟨ix,rfl,aE,hE⟩;have hW:=btr hW hE;refine Ze (X99 rfl rfl)<|Za rfl<|Zt aD fun a hf=>?_
 refine wp_ret (X2 hf (Xv hf rfl rfl) ?_)
 exact ⟨by rw [← aE],hW⟩
theorem Xyt(w0:World)(x:Gt)(n:Int)(ba:Nat)(v1:Value)(c:Blk w0 ba 28 [vi n,v1]) : Ret Tryz.prog 94 [.agg #[vi x.k,vi x.a,vi x.b],.pointer (some ⟨ba,0,none⟩)] w0 (fun v w=>v=.bool (!gOk n x)∧Below w0.heap.size w0 w):=by
 have aA:=c.lt;refine enter Tryz.func94 rfl 9 rfl rfl ?_;intro a hf
 have hW:=bz w0
 refine Zs hf fun _ aB=>?_;refine Zf (X0i (zs:=[vi x.k,vi x.a,vi x.b]) rfl rfl) ?_;rintro _ w1 ⟨b2,rfl,aC,hE,aD⟩;have aF:=Nat.le_trans hW.size aC;have c:=c.below hE;have hW:=btr hW hE;refine Za rfl<|Zx aB fun a hf _ aE=>?_;refine Ze (Vd rfl X1u 0)<|Ze (X0 rfl X7 (c.at 0))<|Ze (Vn X0g aD)<|Zf (Vc (Xsi _ n x) Xfy) ?_;rintro _ w2 ⟨rfl,hE⟩;have hW:=btr hW hE;refine Ze (X0z rfl)<|Za rfl<|Zt aE fun a hf=>?_
 refine wp_ret (X2 hf (Xv hf rfl rfl) ?_)
 exact ⟨rfl,hW⟩
theorem F55(w0:World)(c:Cx)(Ac:Option Addr)(cc:Nat)(aA:Rd w0 w0.heap.size 115 encG Ac c.gs)(aB:c.gs.length≤2305843009213693951) : Ret Tryz.prog 52 [.agg #[vi c.n,.slice Ac c.gs.length cc]] w0 (fun v w=>v=.bool (cOk c)∧Below w0.heap.size w0 w):=by
 refine enter Tryz.func52 rfl 19 rfl rfl ?_;intro a e
 have i:=bz w0
 refine Zs e fun _ aC=>?_;refine Zf (X0i (zs:=[vi c.n,.slice Ac c.gs.length cc]) rfl rfl) ?_;rintro _ w1 ⟨b3,rfl,aD,hE,j⟩;have aF:=Nat.le_trans i.size aD;have i:=btr i hE;refine Za rfl<|ZX aC fun a e _ aE=>?_;refine X0o (fun a w=>Fr a 19 [(2,.bool (((inR c.n 1 5)&&(decide ((c.gs.length:Int)≤400)))&&(!(c.gs.any (fun x=>!gOk c.n x)))))]∧Below w1.heap.size w1 w) ?_ ?_
 ·have f:Below w1.heap.size w1 w1:=Below.refl _ _
  refine Zr e<|Ze (Vd rfl X1u 0)<|Ze (X0 rfl X7 (j.at 0))<|Zf (Vc (F91 _ c.n 1 5) X38) ?_;rintro _ _ ⟨rfl,rfl⟩;refine Zm rfl ?_
  refine Zg 6 rfl (fun b=>?_) (fun b=>?_)
  ·refine Zv (gW b) (Vd rfl X0v 1) ?_;refine Zv (gW b) (X0 rfl X15 (j.at 1)) ?_;refine Zv (gW b) (X0x rfl Xf) ?_;refine Zv (gW b) (Xel rfl rfl) ?_;refine Ze (Xn rfl b rfl)<|Zm rfl ?_
   refine Zg 12 rfl (fun d=>?_) (fun d=>?_)
   ·refine Zv (gW d) (Vd rfl X0v 1) ?_;refine Zv (gW d) (X0 rfl X15 (j.at 1)) ?_;refine Zv (gW d) (X2z (vs:=[.pointer (some ⟨b3,0,none⟩)]) rfl) ?_;refine Zk (gW d) (Vc (Xys _ Ac cc c.gs (aA.below' i).top 94 [.pointer (some ⟨b3,0,none⟩)] Xue (fun x=>!gOk c.n x) (fun x w' hE'=>Xyt w' x c.n _ _ (j.below hE')) aB) Xv6) ?_;rintro _ w2 ⟨rfl,hE⟩;have i:=btr i hE;have f:=btr f hE;refine Zv (gW d) (X0z rfl) ?_;refine Ze (Xn rfl d rfl)<|Za rfl ?_;refine Zn fun a e=>?_
    have g:Below w1.heap.size w1 w2:=f
    exact ⟨e.sub ⟨X1 rfl (by first|rfl|(simp only [b,d,bs];done)|simp [b,d]),trivial⟩,g⟩
   refine Zp (gP d) ?_;refine Zp (gP d) ?_;refine Zp (gP d) ?_;refine Zp (gP d) ?_;refine Zp (gP d) ?_;refine Ze (Xj rfl d rfl)<|Za rfl ?_;refine Zn fun a e=>?_
   have g:Below w1.heap.size w1 w1:=f
   exact ⟨e.sub ⟨X1 rfl (by first|rfl|(simp only [b,d,bs];done)|simp [b,d]),trivial⟩,g⟩
  refine Zp (gP b) ?_;refine Zp (gP b) ?_;refine Zp (gP b) ?_;refine Zp (gP b) ?_;refine Ze (Xj rfl b rfl)<|Zm rfl<|Zp (gP rfl) ?_;refine Zp (gP rfl) ?_;refine Zp (gP rfl) ?_;refine Zp (gP rfl) ?_;refine Zp (gP rfl) ?_;refine Ze (Xj rfl rfl rfl)<|Za rfl ?_;refine Zn fun a e=>?_
  have g:Below w1.heap.size w1 w1:=f
  exact ⟨e.sub ⟨X1 rfl (by first|rfl|(simp only [b,bs];done)|simp [b]),trivial⟩,g⟩
 rintro a w3 ⟨e,hE⟩;have i:=btr i hE;refine aE _ _ ?_
 refine wp_ret (X2 e (Xv e rfl rfl) ?_)
 exact ⟨by simp [cOk, *],i⟩
theorem Xpq(w0:World)(bV:Nat)(f:Bool)(e:Blk w0 bV 148 [.bool f])(x:Rg) : Ret Tryz.prog 196 [.pointer (some ⟨bV,0,none⟩),.agg #[vi x.a,vi x.b,vi x.c,vi x.d]] w0 (fun v w=>v=rV (sRing x)∧Kept bV w0.heap.size w0 w∧Blk w bV 148 [.bool (f||!rOk x)]):=by
 have aK:=e.lt;refine enter Tryz.func196 rfl 13 rfl rfl ?_;intro a n
 have k:Kept bV w0.heap.size w0 w0:=Kept.refl _ _ _
 refine Zs n fun _ aC=>?_;refine Zf (X0i (zs:=[vi x.a,vi x.b,vi x.c,vi x.d]) rfl rfl) ?_;rintro _ w1 ⟨b2,rfl,aD,o,m⟩;have aL:=Nat.le_trans k.size aD;have e:=e.below o;have k:=ktr k o;refine Zf (X8 (zs:=[vi 0,vi 0,vi 0,vi 0]) X1v rfl) ?_;rintro _ w2 ⟨b3,rfl,aE,o,g⟩
 have aB:b2≠b3:=by have:=m.lt;omega
 have q:=Nat.le_trans k.size aE;have e:=e.below o;have m:=m.below o;have k:=ktr k o;refine ZX aC fun a n _ aF=>?_;refine Zs n fun _ aG=>?_;refine Ze (Vn X0c m)<|Zf (Vc (Xyw _ x) Xu2) ?_;rintro _ w3 ⟨rfl,o⟩;have e:=e.below o;have m:=m.below o;have g:=g.below o;have k:=ktr k o;refine Ze (X0z rfl)<|Zt aG fun a n=>?_
 refine Xk n rfl (fun p=>?_) (fun p=>?_)
 ·have aA:=p
  have j:rOk x=false:=by revert p;cases rOk x<;>simp
  refine Zs n fun _ aH=>?_;refine Zm rfl<|Ze (Xqt rfl)<|Ze (Vd rfl X6j 0)<|Zo (Xba (vs:=[.bool true]) (l':=[.bool true]) rfl rfl Xww e rfl rfl rfl rfl rfl) ?_;rintro _ w4 ⟨j,t⟩;have i:=e;have g:=g.only j (Blk.ne g i rfl);have k:=k.self j;clear i;have e:=t;clear t j;refine Zx aH fun a n _ aI=>?_;refine Ze (Xg (ps:=[]) (cs:=[vi 0,vi 0,vi 0,vi 0]) rfl (fun _=>by first|rfl|kernel_rfl))<|Zo (Vw [vi 0,vi 0,vi 0,vi 0] X16 g) ?_;rintro _ w5 ⟨j,t⟩;have i:=g;have e:=e.only j (Blk.ne e i rfl);have k:=Kept.only k j q;clear i;have g:=t;clear t j;refine Zt aI fun a n=>?_;refine wp_ret<|X3<|X2 n (Xv n rfl (ResV.cellN (l:=[vi 0,vi 0,vi 0,vi 0]) rfl X0c (g.at 0) rfl)) ?_;exact ⟨by simp [sRing,j],k,by simpa [j] using e⟩
 have aA:=p
 have j:rOk x=true:=by revert p;cases rOk x<;>simp
 refine wp_skip<|aF _ _<|Zs n fun _ aJ=>?_;refine Ze (Vn X0c m)<|Zo (Vw [vi x.a,vi x.b,vi x.c,vi x.d] X16 g) ?_;rintro _ w6 ⟨j,t⟩;have i:=g;have e:=e.only j (Blk.ne e i rfl);have k:=Kept.only k j q;clear i;have g:=t;clear t j;refine Zt aJ fun a n=>?_
 refine wp_ret (X2 n (Xv n rfl (ResV.cellN (l:=[vi x.a,vi x.b,vi x.c,vi x.d]) rfl X0c (g.at 0) rfl)) ?_)
 exact ⟨by simp [sRing,j],k,by simpa [j] using e⟩
theorem Xz3(w0:World)(bV:Nat)(f:Bool)(e:Blk w0 bV 148 [.bool f])(x:Dy)(y:Dy)(hx:0≤x.exp∧x.exp≤60)(hy:0≤y.exp∧y.exp≤60) : Ret Tryz.prog 164 [.pointer (some ⟨bV,0,none⟩),.agg #[vi x.num.a,vi x.num.b,vi x.num.c,vi x.num.d,vi x.exp],.agg #[vi y.num.a,vi y.num.b,vi y.num.c,vi y.num.d,vi y.exp]] w0 (fun v w=>v=dV ((sMul f x y).2)∧Kept bV w0.heap.size w0 w∧Blk w bV 148 [.bool ((sMul f x y).1)]):=by
 have aO:=e.lt;refine enter Tryz.func164 rfl 30 rfl rfl ?_;intro a q
 have k:Kept bV w0.heap.size w0 w0:=Kept.refl _ _ _
 refine Zs q fun _ aG=>?_;refine Zf (X0i (zs:=[vi x.num.a,vi x.num.b,vi x.num.c,vi x.num.d,vi x.exp]) rfl rfl) ?_;rintro _ w1 ⟨b2,rfl,aH,i,m⟩;have aP:=Nat.le_trans k.size aH;have e:=e.below i;have k:=ktr k i;refine Zf (X0i (zs:=[vi y.num.a,vi y.num.b,vi y.num.c,vi y.num.d,vi y.exp]) rfl rfl) ?_;rintro _ w2 ⟨b3,rfl,aI,i,o⟩
 have aD:b2≠b3:=by have:=m.lt;omega
 have aQ:=Nat.le_trans k.size aI;have e:=e.below i;have m:=m.below i;have k:=ktr k i;refine Zf (X8 (zs:=[vi 0,vi 0,vi 0,vi 0,vi 0]) X1i rfl) ?_;rintro _ w3 ⟨b4,rfl,aJ,i,g⟩
 have aE:b2≠b4:=by have:=m.lt;omega
 have aF:b3≠b4:=by have:=o.lt;omega
 have t:=Nat.le_trans k.size aJ;have e:=e.below i;have m:=m.below i;have o:=o.below i;have k:=ktr k i;refine ZX aG fun a q _ aK=>?_;refine Zs q fun _ aL=>?_;refine Ze (Vd rfl X1c 4)<|Ze (X0 rfl X7 (m.at 4))<|Ze (Vd rfl X1c 4)<|Ze (X0 rfl X7 (o.at 4))<|Ze (X06 rfl rfl (by omega) (by omega)) ?_;refine Ze (X3a rfl rfl)<|Zt aL fun a q=>?_
 refine Xk q rfl (fun p=>?_) (fun p=>?_)
 ·have aB:=p;have p:=of_decide_eq_true p
  have hm:60<x.exp+y.exp:=p
  refine Zs q fun _ aM=>?_;refine Zm rfl<|Ze (Xqt rfl)<|Ze (Vd rfl X6j 0)<|Zo (Xba (vs:=[.bool true]) (l':=[.bool true]) rfl rfl Xww e rfl rfl rfl rfl rfl) ?_;rintro _ w4 ⟨u,hb⟩;have n:=e;have g:=g.only u (Blk.ne g n rfl);have k:=k.self u;have e:=hb;refine Zx aM fun a q _ aN=>?_;refine Ze (Xg (ps:=[]) (cs:=[vi 0,vi 0,vi 0,vi 0,vi 0]) rfl (fun _=>by first|rfl|kernel_rfl))<|Zo (Vw [vi 0,vi 0,vi 0,vi 0,vi 0] X01 g) ?_;rintro _ w5 ⟨u,hb⟩;have n:=g;have e:=e.only u (Blk.ne e n rfl);have k:=Kept.only k u t;have g:=hb;refine Zt aN fun a q=>?_;refine wp_ret<|X3<|X2 q (Xv q rfl (ResV.cellN (l:=[vi 0,vi 0,vi 0,vi 0,vi 0]) rfl Xm (g.at 0) rfl)) ?_;exact ⟨by rw [sMul,if_pos hm];rfl,k,by rw [sMul,if_pos hm];exact e⟩
 have aB:=p;have p:=of_decide_eq_false p
 have hm:¬ 60<x.exp+y.exp:=p
 refine wp_skip<|aK _ _<|wp_seq_k fun _ aC=>?_;refine X0h (some bV) (fun j=>[13].contains j) mixed ?_;intro w6 i;have e:=e.below i;have m:=m.below i;have o:=o.below i;have g:=g.below i;have k:=ktr k i;refine Yb q<|Yo 0 rfl (fun _=>Xa rfl)<|Yo 1 rfl (fun _=>Vd rfl X1e 0) ?_;refine Yw 2 rfl trivial (fun w1 h1=>X07 (l:=[vi x.num.a,vi x.num.b,vi x.num.c,vi x.num.d]) rfl X0c (((m.only h1 (Blk.ne m e rfl)).at 0).take 4) rfl) ?_;refine Yo 3 rfl (fun _=>Vd rfl X1e 0) ?_;refine Yw 4 rfl trivial (fun w1 h1=>X07 (l:=[vi y.num.a,vi y.num.b,vi y.num.c,vi y.num.d]) rfl X0c (((o.only h1 (Blk.ne o e rfl)).at 0).take 4) rfl) ?_;refine Yo 7 rfl (fun _=>Vd rfl X1c 4) ?_;refine Yw 8 rfl trivial (fun w1 h1=>X0 rfl X7 ((m.only h1 (Blk.ne m e rfl)).at 4)) ?_;refine Yo 9 rfl (fun _=>Vd rfl X1c 4) ?_;refine Yw 10 rfl trivial (fun w1 h1=>X0 rfl X7 ((o.only h1 (Blk.ne o e rfl)).at 4)) ?_;refine Yo 11 rfl (fun _=>X06 rfl rfl (by omega) (by omega))<|Y1 5 ?_;refine Yf rfl trivial (EfW.mono (Vc (Xyj _ x.num y.num) Xsz) (fun _ _ h=>⟨fun _=>by obtain ⟨rfl,i⟩:=h;exact Keep.of_below i,h⟩)) ?_;rintro _ w7 ⟨rfl,i⟩;have e:=e.below i;have g:=g.below i;have k:=ktr k i;refine Y1 6<|Yf rfl trivial (EfW.mono (Vc (Xpq _ bV f e (rMul x.num y.num)) Xaw) (fun _ _ h=>⟨fun _=>by obtain ⟨rfl,hK,aA⟩:=h;exact hK.keep,h⟩)) ?_;rintro _ w8 ⟨rfl,hK,aA⟩;obtain ⟨wm,hO,hm,i⟩:=hK.mid;clear hm;have n:=e;have g:=g.only hO (Blk.ne g n rfl);have k:=k.self hO;have g:=g.below i;have k:=ktr k i
 clear n i hO hK;have e:=aA;clear aA;refine Y1 12<|Yf rfl trivial (EfW.mono (Vc (Xx9 _ (sRing (rMul x.num y.num)) (x.exp+y.exp) (by omega)) Xjw) (fun _ _ h=>⟨fun _=>by obtain ⟨rfl,i⟩:=h;exact Keep.of_below i,h⟩)) ?_;rintro _ w9 ⟨rfl,i⟩;have e:=e.below i;have g:=g.below i;have k:=ktr k i;refine Y1 13<|Yh rfl trivial rfl (Vw [vi ((dLow (sRing (rMul x.num y.num)) (x.exp+y.exp)).num.a),vi ((dLow (sRing (rMul x.num y.num)) (x.exp+y.exp)).num.b),vi ((dLow (sRing (rMul x.num y.num)) (x.exp+y.exp)).num.c),vi ((dLow (sRing (rMul x.num y.num)) (x.exp+y.exp)).num.d),vi ((dLow (sRing (rMul x.num y.num)) (x.exp+y.exp)).exp)] X01 g) ?_;rintro _ aR ⟨u,hb⟩;have n:=g;have e:=e.only u (Blk.ne e n rfl);have k:=Kept.only k u t;have g:=hb;refine Yd fun a q=>?_;refine aC _ _ ?_
 refine wp_ret (X2 q (Xv q rfl (ResV.cellN (l:=[vi ((dLow (sRing (rMul x.num y.num)) (x.exp+y.exp)).num.a),vi ((dLow (sRing (rMul x.num y.num)) (x.exp+y.exp)).num.b),vi ((dLow (sRing (rMul x.num y.num)) (x.exp+y.exp)).num.c),vi ((dLow (sRing (rMul x.num y.num)) (x.exp+y.exp)).num.d),vi ((dLow (sRing (rMul x.num y.num)) (x.exp+y.exp)).exp)]) rfl Xm (g.at 0) rfl)) ?_)
 exact ⟨by rw [sMul,if_neg hm],k,by rw [sMul,if_neg hm];exact e⟩
theorem Xyv(w0:World)(bV:Nat)(f:Bool)(e:Blk w0 bV 148 [.bool f])(x:Dy)(y:Dy)(hx:0≤x.exp∧x.exp≤60)(hy:0≤y.exp∧y.exp≤60) : Ret Tryz.prog 163 [.pointer (some ⟨bV,0,none⟩),.agg #[vi x.num.a,vi x.num.b,vi x.num.c,vi x.num.d,vi x.exp],.agg #[vi y.num.a,vi y.num.b,vi y.num.c,vi y.num.d,vi y.exp]] w0 (fun v w=>v=dV ((sAdd f x y).2)∧Kept bV w0.heap.size w0 w∧Blk w bV 148 [.bool ((sAdd f x y).1)]):=by
 have aX:=e.lt;refine enter Tryz.func163 rfl 45 rfl rfl ?_;intro a z
 have q:Kept bV w0.heap.size w0 w0:=Kept.refl _ _ _
 refine Zs z fun _ aO=>?_;refine Zf (X0i (zs:=[vi x.num.a,vi x.num.b,vi x.num.c,vi x.num.d,vi x.exp]) rfl rfl) ?_;rintro _ w1 ⟨b2,rfl,aP,n,g⟩;have aC:=Nat.le_trans q.size aP;have e:=e.below n;have q:=ktr q n;refine Zf (X0i (zs:=[vi y.num.a,vi y.num.b,vi y.num.c,vi y.num.d,vi y.exp]) rfl rfl) ?_;rintro _ w2 ⟨b3,rfl,aQ,n,k⟩
 have aL:b2≠b3:=by have:=g.lt;omega
 have aD:=Nat.le_trans q.size aQ;have e:=e.below n;have g:=g.below n;have q:=ktr q n;refine Zf (X8 (zs:=[vi 0,vi 0,vi 0,vi 0,vi 0]) X1i rfl) ?_;rintro _ w3 ⟨b4,rfl,aR,n,i⟩
 have aM:b2≠b4:=by have:=g.lt;omega
 have aN:b3≠b4:=by have:=k.lt;omega
 have aE:=Nat.le_trans q.size aR;have e:=e.below n;have g:=g.below n;have k:=k.below n;have q:=ktr q n;refine ZX aO fun a z _ aS=>?_;refine wp_block<|X0b (σ:=Bool×Dy) (fun (s:Bool×Dy) (a:Act) (w:World)=>match s with|(H,m)=>Fr a 45 [(0,.pointer (some ⟨bV,0,none⟩)),(4,.pointer (some ⟨b2,0,none⟩)),(5,.pointer (some ⟨b3,0,none⟩)),(6,.pointer (some ⟨b4,0,none⟩))]∧(sRaiseN (y.exp-m.exp).toNat H m=sRaiseN (y.exp-x.exp).toNat f x)∧(0≤m.exp∧m.exp≤60)∧Blk w bV 148 [.bool H]∧Blk w b2 95 [vi m.num.a,vi m.num.b,vi m.num.c,vi m.num.d,vi m.exp]∧Blk w b3 95 [vi y.num.a,vi y.num.b,vi y.num.c,vi y.num.d,vi y.exp]∧Blk w b4 95 [vi 0,vi 0,vi 0,vi 0,vi 0]∧Kept bV w0.heap.size w0 w) (fun (s:Bool×Dy)=>match s with|(H,m)=>(y.exp-m.exp).toNat) (f,x) ?_ ?_
 ·exact ⟨z.sb,rfl,hx,e,g,k,i,q⟩
 rintro ⟨H,m⟩ a w4 ⟨z,I,aY,e,g,k,i,q⟩;refine wp_seq_k fun _ aT=>?_;refine Zs z fun _ aU=>?_;refine Ze (Vd rfl X1c 4)<|Ze (X0 rfl X7 (g.at 4))<|Ze (Vd rfl X1c 4)<|Ze (X0 rfl X7 (k.at 4))<|Ze (X10 rfl rfl) ?_;refine Zt aU fun a z=>?_
 refine Xk z rfl (fun A=>?_) (fun A=>?_)
 ·have aF:=A;have A:=of_decide_eq_true A
  have aA:m.exp<y.exp:=A
  refine wp_skip<|aT _ _<|wp_block<|X0h (some bV) (fun j=>[9].contains j) mixed ?_;intro w5 n;have e:=e.below n;have g:=g.below n;have k:=k.below n;have i:=i.below n;have q:=ktr q n;refine Yb z<|Yo 0 rfl (fun _=>Xa rfl)<|Yo 1 rfl (fun _=>Vd rfl X1e 0) ?_;refine Yw 2 rfl trivial (fun w1 D=>X07 (l:=[vi m.num.a,vi m.num.b,vi m.num.c,vi m.num.d]) rfl X0c (((g.only D (Blk.ne g e rfl)).at 0).take 4) rfl) ?_;refine Yo 5 rfl (fun _=>Vd rfl X1c 4) ?_;refine Yw 6 rfl trivial (fun w1 D=>X0 rfl X7 ((g.only D (Blk.ne g e rfl)).at 4)) ?_;refine Yo 7 rfl (fun _=>X06 rfl rfl (by omega) (by omega))<|Y1 3 ?_;refine Yf rfl trivial (EfW.mono (Vc (Xtx _ m.num) Xf4) (fun _ _ h=>⟨fun _=>by obtain ⟨rfl,n⟩:=h;exact Keep.of_below n,h⟩)) ?_;rintro _ w6 ⟨rfl,n⟩;have e:=e.below n;have g:=g.below n;have k:=k.below n;have i:=i.below n;have q:=ktr q n;refine Y1 4<|Yf rfl trivial (EfW.mono (Vc (Xpq _ bV H e (rRoot m.num)) Xaw) (fun _ _ h=>⟨fun _=>by obtain ⟨rfl,C,u⟩:=h;exact C.keep,h⟩)) ?_;rintro _ w7 ⟨rfl,C,u⟩;obtain ⟨wm,B,hm,n⟩:=C.mid;clear hm;have o:=e;have g:=g.only B (Blk.ne g o rfl);have k:=k.only B (Blk.ne k o rfl);have i:=i.only B (Blk.ne i o rfl);have q:=q.self B;have g:=g.below n;have k:=k.below n;have i:=i.below n;have q:=ktr q n
  clear o n B C;have e:=u;clear u;refine Yo 8 rfl (fun _=>Xg (ps:=[(0,.agg #[vi ((sRing (rRoot m.num)).a),vi ((sRing (rRoot m.num)).b),vi ((sRing (rRoot m.num)).c),vi ((sRing (rRoot m.num)).d)]),(1,vi (m.exp+1))]) (cs:=[vi ((sRing (rRoot m.num)).a),vi ((sRing (rRoot m.num)).b),vi ((sRing (rRoot m.num)).c),vi ((sRing (rRoot m.num)).d),vi (m.exp+1)]) rfl (fun _=>by first|rfl|kernel_rfl))<|Y1 9 ?_;refine Yh rfl trivial rfl (Vw [vi ((sRing (rRoot m.num)).a),vi ((sRing (rRoot m.num)).b),vi ((sRing (rRoot m.num)).c),vi ((sRing (rRoot m.num)).d),vi (m.exp+1)] X01 g) ?_;rintro _ w8 ⟨E,hb⟩;have o:=g;have e:=e.only E (Blk.ne e o rfl);have k:=k.only E (by omega);have i:=i.only E (by omega);have q:=Kept.only q E aC;have g:=hb;refine Yd fun a z=>?_;refine Xt<|Xp ?_;exact ⟨(H||!rOk (rRoot m.num),⟨sRing (rRoot m.num),m.exp+1⟩),⟨z.sb,(X79 I aA),(by dsimp only;omega),e,g,k,i,q⟩,(by first|omega|(dsimp only;omega))⟩
 have aF:=A;have A:=of_decide_eq_false A;have aG:=X7f I A;refine wp_exit<|Xl<|Xl<|X0a ?_;refine aS _ _<|wp_seq_k fun _ aW=>?_;refine wp_block<|X0b (σ:=Bool×Dy) (fun (s:Bool×Dy) (a:Act) (w:World)=>match s with|(f2,p)=>Fr a 45 [(0,.pointer (some ⟨bV,0,none⟩)),(4,.pointer (some ⟨b2,0,none⟩)),(5,.pointer (some ⟨b3,0,none⟩)),(6,.pointer (some ⟨b4,0,none⟩))]∧(sRaiseN (m.exp-p.exp).toNat f2 p=sRaiseN (m.exp-y.exp).toNat H y)∧(0≤p.exp∧p.exp≤60)∧Blk w bV 148 [.bool f2]∧Blk w b2 95 [vi m.num.a,vi m.num.b,vi m.num.c,vi m.num.d,vi m.exp]∧Blk w b3 95 [vi p.num.a,vi p.num.b,vi p.num.c,vi p.num.d,vi p.exp]∧Blk w b4 95 [vi 0,vi 0,vi 0,vi 0,vi 0]∧Kept bV w0.heap.size w0 w) (fun (s:Bool×Dy)=>match s with|(f2,p)=>(m.exp-p.exp).toNat) (H,y) ?_ ?_
 ·exact ⟨z.sb,rfl,hy,e,g,k,i,q⟩
 rintro ⟨f2,p⟩ a w9 ⟨z,G,aZ,e,g,k,i,q⟩;refine wp_seq_k fun _ aH=>?_;refine Zs z fun _ aI=>?_;refine Ze (Vd rfl X1c 4)<|Ze (X0 rfl X7 (k.at 4))<|Ze (Vd rfl X1c 4)<|Ze (X0 rfl X7 (g.at 4))<|Ze (X10 rfl rfl) ?_;refine Zt aI fun a z=>?_
 refine Xk z rfl (fun t=>?_) (fun t=>?_)
 ·have aB:=t;have t:=of_decide_eq_true t
  have aA:p.exp<m.exp:=t
  refine wp_skip<|aH _ _<|wp_block<|X0h (some bV) (fun j=>[9].contains j) mixed ?_;intro b0 n;have e:=e.below n;have g:=g.below n;have k:=k.below n;have i:=i.below n;have q:=ktr q n;refine Yb z<|Yo 0 rfl (fun _=>Xa rfl)<|Yo 1 rfl (fun _=>Vd rfl X1e 0) ?_;refine Yw 2 rfl trivial (fun w1 D=>X07 (l:=[vi p.num.a,vi p.num.b,vi p.num.c,vi p.num.d]) rfl X0c (((k.only D (Blk.ne k e rfl)).at 0).take 4) rfl) ?_;refine Yo 5 rfl (fun _=>Vd rfl X1c 4) ?_;refine Yw 6 rfl trivial (fun w1 D=>X0 rfl X7 ((k.only D (Blk.ne k e rfl)).at 4)) ?_;refine Yo 7 rfl (fun _=>X06 rfl rfl (by omega) (by omega))<|Y1 3 ?_;refine Yf rfl trivial (EfW.mono (Vc (Xtx _ p.num) Xf4) (fun _ _ h=>⟨fun _=>by obtain ⟨rfl,n⟩:=h;exact Keep.of_below n,h⟩)) ?_;rintro _ b1 ⟨rfl,n⟩;have e:=e.below n;have g:=g.below n;have k:=k.below n;have i:=i.below n;have q:=ktr q n;refine Y1 4<|Yf rfl trivial (EfW.mono (Vc (Xpq _ bV f2 e (rRoot p.num)) Xaw) (fun _ _ h=>⟨fun _=>by obtain ⟨rfl,C,u⟩:=h;exact C.keep,h⟩)) ?_;rintro _ b5 ⟨rfl,C,u⟩;obtain ⟨wm,B,hm,n⟩:=C.mid;clear hm;have o:=e;have g:=g.only B (Blk.ne g o rfl);have k:=k.only B (Blk.ne k o rfl);have i:=i.only B (Blk.ne i o rfl);have q:=q.self B;have g:=g.below n;have k:=k.below n;have i:=i.below n;have q:=ktr q n
  clear o n B C;have e:=u;clear u;refine Yo 8 rfl (fun _=>Xg (ps:=[(0,.agg #[vi ((sRing (rRoot p.num)).a),vi ((sRing (rRoot p.num)).b),vi ((sRing (rRoot p.num)).c),vi ((sRing (rRoot p.num)).d)]),(1,vi (p.exp+1))]) (cs:=[vi ((sRing (rRoot p.num)).a),vi ((sRing (rRoot p.num)).b),vi ((sRing (rRoot p.num)).c),vi ((sRing (rRoot p.num)).d),vi (p.exp+1)]) rfl (fun _=>by first|rfl|kernel_rfl))<|Y1 9 ?_;refine Yh rfl trivial rfl (Vw [vi ((sRing (rRoot p.num)).a),vi ((sRing (rRoot p.num)).b),vi ((sRing (rRoot p.num)).c),vi ((sRing (rRoot p.num)).d),vi (p.exp+1)] X01 k) ?_;rintro _ b6 ⟨E,hb⟩;have o:=k;have e:=e.only E (Blk.ne e o rfl);have g:=g.only E (by omega);have i:=i.only E (by omega);have q:=Kept.only q E aD;have k:=hb;refine Yd fun a z=>?_;refine Xt<|Xp ?_;exact ⟨(f2||!rOk (rRoot p.num),⟨sRing (rRoot p.num),p.exp+1⟩),⟨z.sb,(X79 G aA),(by dsimp only;omega),e,g,k,i,q⟩,(by first|omega|(dsimp only;omega))⟩
 have aB:=t;have t:=of_decide_eq_false t;have aJ:=X7f G t;refine wp_exit<|Xl<|Xl<|X0a ?_;refine aW _ _<|wp_seq_k fun _ aK=>?_;refine X0h (some bV) (fun j=>[10].contains j) mixed ?_;intro b7 n;have e:=e.below n;have g:=g.below n;have k:=k.below n;have i:=i.below n;have q:=ktr q n;refine Yb z<|Yo 0 rfl (fun _=>Xa rfl)<|Yo 1 rfl (fun _=>Vd rfl X1e 0) ?_;refine Yw 2 rfl trivial (fun w1 D=>X07 (l:=[vi m.num.a,vi m.num.b,vi m.num.c,vi m.num.d]) rfl X0c (((g.only D (Blk.ne g e rfl)).at 0).take 4) rfl) ?_;refine Yo 3 rfl (fun _=>Vd rfl X1e 0) ?_;refine Yw 4 rfl trivial (fun w1 D=>X07 (l:=[vi p.num.a,vi p.num.b,vi p.num.c,vi p.num.d]) rfl X0c (((k.only D (Blk.ne k e rfl)).at 0).take 4) rfl) ?_;refine Yo 7 rfl (fun _=>Vd rfl X1c 4) ?_;refine Yw 8 rfl trivial (fun w1 D=>X0 rfl X7 ((g.only D (Blk.ne g e rfl)).at 4)) ?_;refine Y1 5<|Yf rfl trivial (EfW.mono (Vc (Xye _ m.num p.num) Xv3) (fun _ _ h=>⟨fun _=>by obtain ⟨rfl,n⟩:=h;exact Keep.of_below n,h⟩)) ?_;rintro _ b8 ⟨rfl,n⟩;have e:=e.below n;have i:=i.below n;have q:=ktr q n;refine Y1 6<|Yf rfl trivial (EfW.mono (Vc (Xpq _ bV f2 e (rAdd m.num p.num)) Xaw) (fun _ _ h=>⟨fun _=>by obtain ⟨rfl,C,u⟩:=h;exact C.keep,h⟩)) ?_;rintro _ b9 ⟨rfl,C,u⟩;obtain ⟨wm,B,hm,n⟩:=C.mid;clear hm;have o:=e;have i:=i.only B (Blk.ne i o rfl);have q:=q.self B;have i:=i.below n;have q:=ktr q n
 clear o n B C;have e:=u;clear u;refine Y1 9<|Yf rfl trivial (EfW.mono (Vc (Xx9 _ (sRing (rAdd m.num p.num)) m.exp (by omega)) Xjw) (fun _ _ h=>⟨fun _=>by obtain ⟨rfl,n⟩:=h;exact Keep.of_below n,h⟩)) ?_;rintro _ bC ⟨rfl,n⟩;have e:=e.below n;have i:=i.below n;have q:=ktr q n;refine Y1 10<|Yh rfl trivial rfl (Vw [vi ((dLow (sRing (rAdd m.num p.num)) m.exp).num.a),vi ((dLow (sRing (rAdd m.num p.num)) m.exp).num.b),vi ((dLow (sRing (rAdd m.num p.num)) m.exp).num.c),vi ((dLow (sRing (rAdd m.num p.num)) m.exp).num.d),vi ((dLow (sRing (rAdd m.num p.num)) m.exp).exp)] X01 i) ?_;rintro _ bD ⟨E,hb⟩;have o:=i;have e:=e.only E (Blk.ne e o rfl);have q:=Kept.only q E aE;have i:=hb;refine Yd fun a z=>?_;refine aK _ _ ?_
 refine wp_ret (X2 z (Xv z rfl (ResV.cellN (l:=[vi ((dLow (sRing (rAdd m.num p.num)) m.exp).num.a),vi ((dLow (sRing (rAdd m.num p.num)) m.exp).num.b),vi ((dLow (sRing (rAdd m.num p.num)) m.exp).num.c),vi ((dLow (sRing (rAdd m.num p.num)) m.exp).num.d),vi ((dLow (sRing (rAdd m.num p.num)) m.exp).exp)]) rfl Xm (i.at 0) rfl)) ?_)
 exact ⟨by rw [sAdd,aG];dsimp only;rw [aJ],q,by rw [sAdd,aG];dsimp only;rw [aJ];exact e⟩
theorem Xjh(w0:World)(n:Int)(s:Int)(q:Int)(h0:0≤q)(h1:q<n)(h2:n≤5) : Ret Tryz.prog 130 [vi n,vi s,vi q] w0 (fun v w=>v=vi (bitF n s q)∧w0=w):=by
 refine enter Tryz.func130 rfl 14 rfl rfl ?_;intro a hf
 have hW:=bz w0
 refine Zs hf fun _ aA=>?_;refine Za rfl<|Zx aA fun a hf _ aB=>?_;refine Zm rfl<|Zm rfl<|Ze (X1h rfl rfl (by omega) (by omega))<|Zm rfl<|Ze (X1h rfl rfl (by omega) (by omega)) ?_;refine Ze (Xx7 (m:=(n-1-q).toNat) rfl rfl (by omega) (by omega))<|Ze (Xug rfl rfl)<|Za rfl<|Zt aB fun a hf=>?_
 refine wp_ret (X2 hf (Xv hf rfl rfl) ?_)
 exact ⟨rfl,rfl⟩
theorem Xog(w0:World)(n:Int)(s:Int)(q:Int)(h0:0≤q)(h1:q<n)(h2:n≤5) : Ret Tryz.prog 131 [vi n,vi s,vi q] w0 (fun v w=>v=vi (flipF n s q)∧w0=w):=by
 refine enter Tryz.func131 rfl 14 rfl rfl ?_;intro a hf
 have hW:=bz w0
 refine Zs hf fun _ aA=>?_;refine Za rfl<|Zx aA fun a hf _ aB=>?_;refine Zm rfl<|Zm rfl<|Ze (X1h rfl rfl (by omega) (by omega))<|Zm rfl<|Ze (X1h rfl rfl (by omega) (by omega)) ?_;refine Ze (Xl0 (m:=(n-1-q).toNat) rfl rfl (by omega) (by omega))<|Ze (Xlg rfl rfl)<|Za rfl<|Zt aB fun a hf=>?_
 refine wp_ret (X2 hf (Xv hf rfl rfl) ?_)
 exact ⟨rfl,rfl⟩
theorem Xfb(w0:World)(n:Int)(s:Int)(q:Int)(h0:0≤q)(h1:q<n)(h2:n≤5) : Ret Tryz.prog 201 [vi n,vi s,vi q] w0 (fun v w=>v=vi (bitF n s q)∧w0=w):=by
 refine enter Tryz.func201 rfl 15 rfl rfl ?_;intro a hf
 have hW:=bz w0
 refine Zs hf fun _ aA=>?_;refine Za rfl<|Zx aA fun a hf _ aB=>?_;refine Zm rfl<|Zm rfl<|Ze (X1h rfl rfl (by omega) (by omega))<|Zm rfl<|Ze (X1h rfl rfl (by omega) (by omega)) ?_;refine Ze (Xf1 (m:=(n-1-q).toNat) Tryz.underlying3 Tryz.underlying185 rfl (by omega) (by omega))<|Ze (Xx7 (m:=(n-1-q).toNat) rfl rfl rfl (by omega))<|Ze (Xug rfl rfl)<|Za rfl<|Zt aB fun a hf=>?_
 refine wp_ret (X2 hf (Xv hf rfl rfl) ?_)
 exact ⟨rfl,rfl⟩
theorem Xz8(w0:World)(k:Int)(hk:1≤k∧k≤8) : Ret Tryz.prog 202 [vi k] w0 (fun v w=>∃ A c,v=.slice A (oneL k).length c∧Own w w0.heap.size 95 5 encD A c (oneL k)∧Below w0.heap.size w0 w):=by
 refine enter Tryz.func202 rfl 43 rfl rfl ?_;intro a j
 have i:=bz w0
 refine Zs j fun _ bJ=>?_;refine Za rfl<|Zx bJ fun a j _ bK=>?_;refine Zf (Vc (Xdm _ 0) X4h) ?_;rintro _ w1 ⟨rfl,g⟩;have i:=btr i g;refine Ze (Xg (ps:=[]) (cs:=[vi 0,vi 0,vi 0,vi 0,vi 0]) rfl (fun _=>by first|rfl|kernel_rfl))<|Zf (X8 (zs:=[vi 0,vi 0,vi 0,vi 0,vi 0]) X1i rfl) ?_;rintro _ w2 ⟨b4,rfl,bL,g,e⟩;have aI:=Nat.le_trans i.size bL;have i:=btr i g;refine Zf (X8 (zs:=[vi 0,vi 0,vi 0,vi 0,vi 0]) X1i rfl) ?_;rintro _ w3 ⟨b5,rfl,bM,g,f⟩
 have bG:b4≠b5:=by have:=e.lt;omega
 have aJ:=Nat.le_trans i.size bM;have e:=e.below g;have i:=btr i g;refine Zo (Vw [vi ((dPow 0).num.a),vi ((dPow 0).num.b),vi ((dPow 0).num.c),vi ((dPow 0).num.d),vi ((dPow 0).exp)] X01 e) ?_;rintro _ w4 ⟨q,hb⟩;have x:=e;have f:=f.only q (by omega);have i:=Below.only i q aI;have e:=hb;refine Zo (Vw [vi 0,vi 0,vi 0,vi 0,vi 0] X01 f) ?_;rintro _ w5 ⟨q,hb⟩;have x:=f;have e:=e.only q (by omega);have i:=Below.only i q aJ;have f:=hb;refine Zx bK fun a j _ bN=>?_;refine Ze (Xg (ps:=[(0,vi 1)]) (cs:=[vi 1,vi 0,vi 0,vi 0]) rfl (fun _=>by first|rfl|kernel_rfl))<|Ze (Xg (ps:=[(0,.agg #[vi 1,vi 0,vi 0,vi 0]),(1,vi 1)]) (cs:=[vi 1,vi 0,vi 0,vi 0,vi 1]) rfl (fun _=>by first|rfl|kernel_rfl))<|Zf (X8 (zs:=[vi 0,vi 0,vi 0,vi 0,vi 0]) X1i rfl) ?_;rintro _ w6 ⟨b7,rfl,bO,g,m⟩
 have bH:b4≠b7:=by have:=e.lt;omega
 have bI:b5≠b7:=by have:=f.lt;omega
 have aK:=Nat.le_trans i.size bO;have e:=e.below g;have f:=f.below g;have i:=btr i g;refine Zo (Vw [vi 1,vi 0,vi 0,vi 0,vi 1] X01 m) ?_;rintro _ w7 ⟨q,hb⟩;have x:=m;have e:=e.only q (by omega);have f:=f.only q (by omega);have i:=Below.only i q aK;have m:=hb;refine ZX bN fun a j _ bP=>?_;refine Zs j fun _ bQ=>?_;refine Zm rfl<|Zt bQ fun a j=>?_;refine wp_block<|Zs j fun _ aL=>?_;refine Ze (X13 rfl rfl)<|Za rfl<|Zt aL fun a j=>?_
 refine Xk j rfl (fun n=>?_) (fun n=>?_)
 ·have aA:=n
  have t:k=1:=by simpa using n
  refine wp_seq_k fun _ aM=>?_;refine X0h none (fun _=>false) mixed ?_;intro w8 g;have e:=e.below g;have f:=f.below g;have m:=m.below g;have i:=btr i g;refine Yb j<|Ye 0 rfl (Vn Xm m)<|Ye 1 rfl (Vn Xm m)<|Ye 2 rfl (Vn Xm m)<|Ye 3 rfl (Vn Xm m)<|Y1 4 ?_;refine Yk rfl trivial (Vc (Xza _ (⟨(⟨1,0,0,0⟩ : Rg),1⟩ : Dy)) Xtp) (fun _ _ ⟨_,g⟩=>g) ?_;rintro _ w9 ⟨rfl,g⟩;have e:=e.below g;have f:=f.below g;have m:=m.below g;have i:=btr i g;refine Y1 5<|Yk rfl trivial (X5 (k:=4) (vs:=[.agg #[vi 1,vi 0,vi 0,vi 0,vi 1],.agg #[vi 1,vi 0,vi 0,vi 0,vi 1],.agg #[vi 1,vi 0,vi 0,vi 0,vi 1],.agg #[vi ((dNeg (⟨(⟨1,0,0,0⟩ : Rg),1⟩ : Dy)).num.a),vi ((dNeg (⟨(⟨1,0,0,0⟩ : Rg),1⟩ : Dy)).num.b),vi ((dNeg (⟨(⟨1,0,0,0⟩ : Rg),1⟩ : Dy)).num.c),vi ((dNeg (⟨(⟨1,0,0,0⟩ : Rg),1⟩ : Dy)).num.d),vi ((dNeg (⟨(⟨1,0,0,0⟩ : Rg),1⟩ : Dy)).exp)]]) (zs:=[vi 1,vi 0,vi 0,vi 0,vi 1,vi 1,vi 0,vi 0,vi 0,vi 1,vi 1,vi 0,vi 0,vi 0,vi 1,vi ((dNeg (⟨(⟨1,0,0,0⟩ : Rg),1⟩ : Dy)).num.a),vi ((dNeg (⟨(⟨1,0,0,0⟩ : Rg),1⟩ : Dy)).num.b),vi ((dNeg (⟨(⟨1,0,0,0⟩ : Rg),1⟩ : Dy)).num.c),vi ((dNeg (⟨(⟨1,0,0,0⟩ : Rg),1⟩ : Dy)).num.d),vi ((dNeg (⟨(⟨1,0,0,0⟩ : Rg),1⟩ : Dy)).exp)]) rfl X1d X2f rfl rfl) (fun _ _ ⟨_,_,_,h,_⟩=>h) ?_;rintro _ bS ⟨b13,rfl,aN,g,aO⟩
  have aP:b4≠b13:=by have:=e.lt;omega
  have aQ:b5≠b13:=by have:=f.lt;omega
  have aR:b7≠b13:=by have:=m.lt;omega
  have aB:=Nat.le_trans i.size aN;have i:=btr i g;refine Yo 6 rfl (fun _=>X18 rfl) ?_;refine Yd fun a j=>?_;refine aM _ _<|wp_ret<|Xr<|X3 ?_;refine X2 j (Xv j rfl rfl) ?_;exact ⟨(some ⟨b13,0,none⟩),4,by rw [oneL,if_pos t];rfl,by rw [oneL,if_pos t];exact (Own.of_blkL X19 aO aB rfl rfl (by decide)),i⟩
 have aA:=n
 have t:¬ k=1:=by simpa using n
 refine Zs j fun _ aS=>?_;refine Ze (X13 rfl rfl)<|Za rfl<|Zt aS fun a j=>?_
 refine Xk j rfl (fun o=>?_) (fun o=>?_)
 ·have aC:=o
  have e2:k=2:=by simpa using o
  refine Zs j fun _ aT=>?_;refine Ze (Vn Xm f)<|Ze (Vn Xm e)<|Ze (Vn Xm e)<|Ze (Vn Xm f)<|Zf (X5 (k:=4) (vs:=[.agg #[vi 0,vi 0,vi 0,vi 0,vi 0],.agg #[vi ((dPow 0).num.a),vi ((dPow 0).num.b),vi ((dPow 0).num.c),vi ((dPow 0).num.d),vi ((dPow 0).exp)],.agg #[vi ((dPow 0).num.a),vi ((dPow 0).num.b),vi ((dPow 0).num.c),vi ((dPow 0).num.d),vi ((dPow 0).exp)],.agg #[vi 0,vi 0,vi 0,vi 0,vi 0]]) (zs:=[vi 0,vi 0,vi 0,vi 0,vi 0,vi ((dPow 0).num.a),vi ((dPow 0).num.b),vi ((dPow 0).num.c),vi ((dPow 0).num.d),vi ((dPow 0).exp),vi ((dPow 0).num.a),vi ((dPow 0).num.b),vi ((dPow 0).num.c),vi ((dPow 0).num.d),vi ((dPow 0).exp),vi 0,vi 0,vi 0,vi 0,vi 0]) rfl X1d X2f rfl rfl) ?_;rintro _ bU ⟨b18,rfl,aU,g,aW⟩
  have aX:b4≠b18:=by have:=e.lt;omega
  have aY:b5≠b18:=by have:=f.lt;omega
  have aD:=Nat.le_trans i.size aU;have i:=btr i g;refine Za rfl<|Zt aT fun a j=>?_;refine wp_ret<|Xr<|X3<|X2 j (Xv j rfl rfl) ?_;exact ⟨(some ⟨b18,0,none⟩),4,by rw [oneL,if_neg t,if_pos e2];rfl,by rw [oneL,if_neg t,if_pos e2];exact (Own.of_blkL X19 aW aD rfl rfl (by decide)),i⟩
 have aC:=o
 have e2:¬ k=2:=by simpa using o
 refine Zs j fun _ aZ=>?_;refine Ze (X13 rfl rfl)<|Za rfl<|Zt aZ fun a j=>?_
 refine Xk j rfl (fun p=>?_) (fun p=>?_)
 ·have aE:=p
  have e3:k=3:=by simpa using p
  refine wp_seq_k fun _ b0=>?_;refine X0h none (fun _=>false) mixed ?_;intro bW g;have e:=e.below g;have f:=f.below g;have i:=btr i g;refine Yb j<|Ye 0 rfl (Vn Xm f)<|Ye 3 rfl (Vn Xm f)<|Y1 1 ?_;refine Yk rfl trivial (Vc (Xdm _ 6) X4h) (fun _ _ ⟨_,g⟩=>g) ?_;rintro _ bX ⟨rfl,g⟩;have e:=e.below g;have f:=f.below g;have i:=btr i g;refine Y1 2<|Yk rfl trivial (Vc (Xdm _ 2) X4h) (fun _ _ ⟨_,g⟩=>g) ?_;rintro _ bY ⟨rfl,g⟩;have e:=e.below g;have f:=f.below g;have i:=btr i g;refine Y1 4<|Yk rfl trivial (X5 (k:=4) (vs:=[.agg #[vi 0,vi 0,vi 0,vi 0,vi 0],.agg #[vi ((dPow 6).num.a),vi ((dPow 6).num.b),vi ((dPow 6).num.c),vi ((dPow 6).num.d),vi ((dPow 6).exp)],.agg #[vi ((dPow 2).num.a),vi ((dPow 2).num.b),vi ((dPow 2).num.c),vi ((dPow 2).num.d),vi ((dPow 2).exp)],.agg #[vi 0,vi 0,vi 0,vi 0,vi 0]]) (zs:=[vi 0,vi 0,vi 0,vi 0,vi 0,vi ((dPow 6).num.a),vi ((dPow 6).num.b),vi ((dPow 6).num.c),vi ((dPow 6).num.d),vi ((dPow 6).exp),vi ((dPow 2).num.a),vi ((dPow 2).num.b),vi ((dPow 2).num.c),vi ((dPow 2).num.d),vi ((dPow 2).exp),vi 0,vi 0,vi 0,vi 0,vi 0]) rfl X1d X2f rfl rfl) (fun _ _ ⟨_,_,_,h,_⟩=>h) ?_;rintro _ bZ ⟨b23,rfl,b1,g,b2⟩
  have b3:b4≠b23:=by have:=e.lt;omega
  have b6:b5≠b23:=by have:=f.lt;omega
  have aF:=Nat.le_trans i.size b1;have i:=btr i g;refine Yo 5 rfl (fun _=>X18 rfl) ?_;refine Yd fun a j=>?_;refine b0 _ _<|wp_ret<|Xr<|X3 ?_;refine X2 j (Xv j rfl rfl) ?_;exact ⟨(some ⟨b23,0,none⟩),4,by rw [oneL,if_neg t,if_neg e2,if_pos e3];rfl,by rw [oneL,if_neg t,if_neg e2,if_pos e3];exact (Own.of_blkL X19 b2 aF rfl rfl (by decide)),i⟩
 have aE:=p
 have e3:¬ k=3:=by simpa using p
 refine wp_skip<|Xt<|bP _ _<|wp_seq_k fun _ b8=>?_;refine X0h none (fun _=>false) mixed ?_;intro c4 g;have e:=e.below g;have f:=f.below g;have i:=btr i g;refine Yb j<|Ye 0 rfl (Vn Xm e)<|Ye 1 rfl (Vn Xm f)<|Ye 2 rfl (Vn Xm f)<|Yo 4 rfl (fun _=>Xa rfl)<|Yo 5 rfl (fun _=>X1h rfl rfl (by omega) (by omega)) ?_;refine Y1 3<|Yk rfl trivial (X5 (k:=5) (vs:=[vi 4,vi 2,vi 6,vi 1,vi 7]) (zs:=[vi 4,vi 2,vi 6,vi 1,vi 7]) rfl X08 X1o rfl rfl) (fun _ _ ⟨_,_,_,h,_⟩=>h) ?_;rintro _ cA ⟨cB,rfl,b9,g,y⟩;have bR:=Nat.le_trans i.size b9;have e:=e.below g;have f:=f.below g;have i:=btr i g;refine Yi (k:=(k-4).toNat) (u:=(turnOf k)) (enc:=encI) (l:=[4,2,6,1,7]) 6 rfl trivial rfl rfl X08 X1j X02 (Rd.of_blk y rfl _ y.lt) (Xmo (by omega) (by omega)) (by omega) ?_;intro cC aG;refine Ye 7 rfl (X0 rfl X7 aG)<|Y1 8 ?_;refine Yk rfl trivial (Vc (Xdm _ (turnOf k)) X4h) (fun _ _ ⟨_,g⟩=>g) ?_;rintro _ cD ⟨rfl,g⟩;have e:=e.below g;have f:=f.below g;have i:=btr i g;refine Y1 9<|Yk rfl trivial (X5 (k:=4) (vs:=[.agg #[vi ((dPow 0).num.a),vi ((dPow 0).num.b),vi ((dPow 0).num.c),vi ((dPow 0).num.d),vi ((dPow 0).exp)],.agg #[vi 0,vi 0,vi 0,vi 0,vi 0],.agg #[vi 0,vi 0,vi 0,vi 0,vi 0],.agg #[vi ((dPow (turnOf k)).num.a),vi ((dPow (turnOf k)).num.b),vi ((dPow (turnOf k)).num.c),vi ((dPow (turnOf k)).num.d),vi ((dPow (turnOf k)).exp)]]) (zs:=[vi ((dPow 0).num.a),vi ((dPow 0).num.b),vi ((dPow 0).num.c),vi ((dPow 0).num.d),vi ((dPow 0).exp),vi 0,vi 0,vi 0,vi 0,vi 0,vi 0,vi 0,vi 0,vi 0,vi 0,vi ((dPow (turnOf k)).num.a),vi ((dPow (turnOf k)).num.b),vi ((dPow (turnOf k)).num.c),vi ((dPow (turnOf k)).num.d),vi ((dPow (turnOf k)).exp)]) rfl X1d X2f rfl rfl) (fun _ _ ⟨_,_,_,h,_⟩=>h) ?_;rintro _ cE ⟨b30,rfl,bC,g,bD⟩
 have bE:b4≠b30:=by have:=e.lt;omega
 have bF:b5≠b30:=by have:=f.lt;omega
 have aH:=Nat.le_trans i.size bC;have i:=btr i g;refine Yo 10 rfl (fun _=>X18 rfl) ?_;refine Yd fun a j=>?_;refine b8 _ _ ?_
 refine wp_ret (X2 j (Xv j rfl rfl) ?_)
 exact ⟨(some ⟨b30,0,none⟩),4,by rw [oneL,if_neg t,if_neg e2,if_neg e3];rfl,by rw [oneL,if_neg t,if_neg e2,if_neg e3];exact (Own.of_blkL X19 bD aH rfl rfl (by decide)),i⟩
theorem Xz7(w0:World)(n:Int)(g:Gt)(row:Int)(col:Int)(hg:gOk n g=true) : Ret Tryz.prog 165 [vi n,.agg #[vi g.k,vi g.a,vi g.b],vi row,vi col] w0 (fun v w=>v=dV (cellS n g row col)∧Below w0.heap.size w0 w):=by
 have d6:=X1f hg;have d7:=X2o n row g.a;have d8:=X2o n col g.a;refine enter Tryz.func165 rfl 119 rfl rfl ?_;intro a f
 have o:=bz w0
 refine Zs f fun _ cP=>?_;refine Zf (X0i (zs:=[vi g.k,vi g.a,vi g.b]) rfl rfl) ?_;rintro _ w1 ⟨b2,rfl,cQ,A,q⟩;have d5:=Nat.le_trans o.size cQ;have o:=btr o A;refine Zf (X8 (zs:=[vi 0,vi 0,vi 0,vi 0,vi 0]) X1i rfl) ?_;rintro _ w2 ⟨b3,rfl,cR,A,e⟩;have z:=Nat.le_trans o.size cR;have q:=q.below A;have o:=btr o A;refine Zx cP fun a f _ cS=>?_;refine Zf (Vc (Xdm _ 0) X4h) ?_;rintro _ w3 ⟨rfl,A⟩;have q:=q.below A;have e:=e.below A;have o:=btr o A;refine Ze (Xg (ps:=[]) (cs:=[vi 0,vi 0,vi 0,vi 0,vi 0]) rfl (fun _=>by first|rfl|kernel_rfl))<|Zf (X8 (zs:=[vi 0,vi 0,vi 0,vi 0,vi 0]) X1i rfl) ?_;rintro _ w4 ⟨b5,rfl,cT,A,x⟩
 have cM:b3≠b5:=by have:=e.lt;omega
 have aJ:=Nat.le_trans o.size cT;have q:=q.below A;have e:=e.below A;have o:=btr o A;refine Zf (X8 (zs:=[vi 0,vi 0,vi 0,vi 0,vi 0]) X1i rfl) ?_;rintro _ w5 ⟨b6,rfl,cU,A,y⟩
 have cN:b3≠b6:=by have:=e.lt;omega
 have cO:b5≠b6:=by have:=x.lt;omega
 have aY:=Nat.le_trans o.size cU;have q:=q.below A;have e:=e.below A;have x:=x.below A;have o:=btr o A;refine Zo (Vw [vi ((dPow 0).num.a),vi ((dPow 0).num.b),vi ((dPow 0).num.c),vi ((dPow 0).num.d),vi ((dPow 0).exp)] X01 x) ?_;rintro _ w6 ⟨h,B⟩;have p:=x;have q:=q.only h (Blk.ne q p rfl);have e:=e.only h (by omega);have y:=y.only h (by omega);have o:=Below.only o h aJ;have x:=B;refine Zo (Vw [vi 0,vi 0,vi 0,vi 0,vi 0] X01 y) ?_;rintro _ w7 ⟨h,B⟩;have p:=y;have q:=q.only h (Blk.ne q p rfl);have e:=e.only h (by omega);have x:=x.only h (by omega);have o:=Below.only o h aY;have y:=B;refine Zx cS fun a f _ cV=>?_;refine Zm rfl<|Za rfl<|ZX cV fun a f _ aI=>?_;refine Zs f fun _ cW=>?_;refine Ze (Vd rfl X0n 0)<|Ze (X0 rfl X7 (q.at 0))<|Zt cW fun a f=>?_;refine wp_block<|Zs f fun _ aZ=>?_;refine Ze (X13 rfl rfl)<|Za rfl<|Zt aZ fun a f=>?_
 refine Xk f rfl (fun J=>?_) (fun J=>?_)
 ·have D:=J;have hk:=eq_of_beq J
  have H:¬ g.k≤8:=by omega
  have C:toS n g col=col:=by simp [toS,hk]
  have hv:valS n g col=dPow 1:=by simp [valS,hk]
  refine Zr f<|Zf (Vc (Xdm _ 1) X4h) ?_;rintro _ w8 ⟨rfl,A⟩;have e:=e.below A;have x:=x.below A;have y:=y.below A;have o:=btr o A;refine Zo (Vw [vi ((dPow 1).num.a),vi ((dPow 1).num.b),vi ((dPow 1).num.c),vi ((dPow 1).num.d),vi ((dPow 1).exp)] X01 x) ?_;rintro _ w9 ⟨h,B⟩;have p:=x;have e:=e.only h (by omega);have y:=y.only h (by omega);have o:=Below.only o h aJ;have x:=B;refine Zn fun a f=>?_;refine Xt<|aI _ _<|wp_seq_k fun _ b0=>?_;refine Zs f fun _ b1=>?_;refine Zm rfl<|Zm rfl<|Ze (X13 rfl rfl)<|Zt b1 fun a f=>?_
  refine Xk f rfl (fun L=>?_) (fun L=>?_)
  ·have aK:=L
   have i:cellS n g row col=valS n g col:=by rw [cellS,if_neg H,if_pos ((eq_of_beq L).trans C.symm)]
   rw [hv] at i
   refine Zs f fun _ b4=>?_;refine Ze (Vn Xm x)<|Zo (Vw [vi ((dPow 1).num.a),vi ((dPow 1).num.b),vi ((dPow 1).num.c),vi ((dPow 1).num.d),vi ((dPow 1).exp)] X01 e) ?_;rintro _ d9 ⟨h,B⟩;have p:=e;have o:=Below.only o h z;have e:=B;refine Zt b4 fun a f=>?_;refine wp_ret<|X3<|X2 f (Xv f rfl (ResV.cellN (l:=[vi ((dPow 1).num.a),vi ((dPow 1).num.b),vi ((dPow 1).num.c),vi ((dPow 1).num.d),vi ((dPow 1).exp)]) rfl Xm (e.at 0) rfl)) ?_;exact ⟨(by rw [i];try rfl),o⟩
  have aK:=L
  have i:cellS n g row col=dZ:=by rw [cellS,if_neg H,if_neg (fun e9=>X1b L (e9.trans C))]
  refine wp_skip<|b0 _ _<|Zs f fun _ b7=>?_;refine Ze (Vn Xm y)<|Zo (Vw [vi 0,vi 0,vi 0,vi 0,vi 0] X01 e) ?_;rintro _ dA ⟨h,B⟩;have p:=e;have o:=Below.only o h z;have e:=B;refine Zt b7 fun a f=>?_
  refine wp_ret (X2 f (Xv f rfl (ResV.cellN (l:=[vi 0,vi 0,vi 0,vi 0,vi 0]) rfl Xm (e.at 0) rfl)) ?_)
  exact ⟨(by rw [i];try rfl),o⟩
 have D:=J;have dB:=X1b J;refine Zs f fun _ b8=>?_;refine Ze (X13 rfl rfl)<|Za rfl<|Zt b8 fun a f=>?_
 refine Xk f rfl (fun M=>?_) (fun M=>?_)
 ·have E:=M;have hk:=eq_of_beq M
  have H:¬ g.k≤8:=by omega
  have hv:valS n g col=dPow 0:=by simp [valS,hk]
  refine Zs f fun _ b9=>?_;refine Zm rfl<|Zm rfl<|Ze (Vd rfl X0f 1)<|Ze (X0 rfl X7 (q.at 1))<|Zf (Vc (Xfb _ n col g.a (by omega) (by omega) (by omega)) X5r) ?_;rintro _ _ ⟨rfl,rfl⟩;refine Ze (X13 rfl rfl)<|Zt b9 fun a f=>?_
  refine Xk f rfl (fun N=>?_) (fun N=>?_)
  ·have aL:=N
   have C:toS n g col=flipF n col g.b:=by rw [toS,if_pos hk,if_pos (eq_of_beq N)]
   refine Zr f<|Zm rfl<|Zm rfl<|Ze (X1h rfl rfl (by omega) (by omega))<|Ze (Vd rfl X0s 2)<|Ze (X0 rfl X7 (q.at 2)) ?_;refine Ze (X1h rfl rfl (by omega) (by omega))<|Ze (Xf1 (m:=(n-1-g.b).toNat) Tryz.underlying3 Tryz.underlying185 rfl (by omega) (by omega))<|Ze (Xl0 (m:=(n-1-g.b).toNat) rfl rfl rfl (by omega))<|Ze (Xlg rfl rfl)<|Za rfl ?_;refine Zn fun a f=>?_;refine Xt<|aI _ _<|wp_seq_k fun _ bC=>?_;refine Zs f fun _ bD=>?_;refine Zm rfl<|Zm rfl<|Ze (X13 rfl rfl)<|Zt bD fun a f=>?_
   refine Xk f rfl (fun Q=>?_) (fun Q=>?_)
   ·have aM:=Q
    have i:cellS n g row col=valS n g col:=by rw [cellS,if_neg H,if_pos ((eq_of_beq Q).trans C.symm)]
    rw [hv] at i
    refine Zs f fun _ bE=>?_;refine Ze (Vn Xm x)<|Zo (Vw [vi ((dPow 0).num.a),vi ((dPow 0).num.b),vi ((dPow 0).num.c),vi ((dPow 0).num.d),vi ((dPow 0).exp)] X01 e) ?_;rintro _ dC ⟨h,B⟩;have p:=e;have o:=Below.only o h z;have e:=B;refine Zt bE fun a f=>?_;refine wp_ret<|X3<|X2 f (Xv f rfl (ResV.cellN (l:=[vi ((dPow 0).num.a),vi ((dPow 0).num.b),vi ((dPow 0).num.c),vi ((dPow 0).num.d),vi ((dPow 0).exp)]) rfl Xm (e.at 0) rfl)) ?_;exact ⟨(by rw [i];try rfl),o⟩
   have aM:=Q
   have i:cellS n g row col=dZ:=by rw [cellS,if_neg H,if_neg (fun e9=>X1b Q (e9.trans C))]
   refine wp_skip<|bC _ _<|Zs f fun _ bF=>?_;refine Ze (Vn Xm y)<|Zo (Vw [vi 0,vi 0,vi 0,vi 0,vi 0] X01 e) ?_;rintro _ dD ⟨h,B⟩;have p:=e;have o:=Below.only o h z;have e:=B;refine Zt bF fun a f=>?_
   refine wp_ret (X2 f (Xv f rfl (ResV.cellN (l:=[vi 0,vi 0,vi 0,vi 0,vi 0]) rfl Xm (e.at 0) rfl)) ?_)
   exact ⟨(by rw [i];try rfl),o⟩
  have aL:=N
  have C:toS n g col=col:=by rw [toS,if_pos hk,if_neg (X1b N)]
  refine wp_skip<|Xt<|aI _ _<|wp_seq_k fun _ bG=>?_;refine Zs f fun _ bH=>?_;refine Zm rfl<|Zm rfl<|Ze (X13 rfl rfl)<|Zt bH fun a f=>?_
  refine Xk f rfl (fun U=>?_) (fun U=>?_)
  ·have aN:=U
   have i:cellS n g row col=valS n g col:=by rw [cellS,if_neg H,if_pos ((eq_of_beq U).trans C.symm)]
   rw [hv] at i
   refine Zs f fun _ bI=>?_;refine Ze (Vn Xm x)<|Zo (Vw [vi ((dPow 0).num.a),vi ((dPow 0).num.b),vi ((dPow 0).num.c),vi ((dPow 0).num.d),vi ((dPow 0).exp)] X01 e) ?_;rintro _ dE ⟨h,B⟩;have p:=e;have o:=Below.only o h z;have e:=B;refine Zt bI fun a f=>?_;refine wp_ret<|X3<|X2 f (Xv f rfl (ResV.cellN (l:=[vi ((dPow 0).num.a),vi ((dPow 0).num.b),vi ((dPow 0).num.c),vi ((dPow 0).num.d),vi ((dPow 0).exp)]) rfl Xm (e.at 0) rfl)) ?_;exact ⟨(by rw [i];try rfl),o⟩
  have aN:=U
  have i:cellS n g row col=dZ:=by rw [cellS,if_neg H,if_neg (fun e9=>X1b U (e9.trans C))]
  refine wp_skip<|bG _ _<|Zs f fun _ bJ=>?_;refine Ze (Vn Xm y)<|Zo (Vw [vi 0,vi 0,vi 0,vi 0,vi 0] X01 e) ?_;rintro _ dF ⟨h,B⟩;have p:=e;have o:=Below.only o h z;have e:=B;refine Zt bJ fun a f=>?_
  refine wp_ret (X2 f (Xv f rfl (ResV.cellN (l:=[vi 0,vi 0,vi 0,vi 0,vi 0]) rfl Xm (e.at 0) rfl)) ?_)
  exact ⟨(by rw [i];try rfl),o⟩
 have E:=M;have h9:=X1b M;refine Zs f fun _ bK=>?_;refine Ze (X13 rfl rfl)<|Za rfl<|Zt bK fun a f=>?_
 refine Xk f rfl (fun W=>?_) (fun W=>?_)
 ·have G:=W;have hk:=eq_of_beq W
  have H:¬ g.k≤8:=by omega
  have C:toS n g col=col:=by simp [toS,hk]
  refine wp_seq_k fun _ bL=>?_;refine X0o (fun a w=>Fr a 119 [(2,vi row),(8,.pointer (some ⟨b3,0,none⟩)),(9,.pointer (some ⟨b5,0,none⟩)),(10,.pointer (some ⟨b6,0,none⟩)),(11,vi col),(82,.bool (((bitF n col g.a)==1)&&((bitF n col g.b)==1)))]∧w7=w) ?_ ?_
  ·refine Zr f<|Zm rfl<|Zm rfl<|Ze (Vd rfl X0f 1)<|Ze (X0 rfl X7 (q.at 1))<|Zf (Vc (Xfb _ n col g.a (by omega) (by omega) (by omega)) X5r) ?_;rintro _ _ ⟨rfl,rfl⟩;refine Ze (X13 rfl rfl)<|Zm rfl ?_
   refine Zg 75 rfl (fun t=>?_) (fun t=>?_)
   ·refine Zv (gW t) (Xa rfl) ?_;refine Zv (gW t) (Xa rfl) ?_;refine Zv (gW t) (Vd rfl X0s 2) ?_;refine Zv (gW t) (X0 rfl X7 (q.at 2)) ?_;refine Zk (gW t) (Vc (Xfb _ n col g.b (by omega) (by omega) (by omega)) X5r) ?_;rintro _ _ ⟨rfl,rfl⟩;refine Zv (gW t) (X13 rfl rfl) ?_;refine Ze (Xn rfl t rfl) ?_;refine Zn fun a f=>?_;exact ⟨f.sub ⟨rfl,rfl,rfl,rfl,rfl,X1 rfl (by first|rfl|(simp only [D,E,G,t,bs];done)|simp [D,E,G,t]),trivial⟩,rfl⟩
   refine Zp (gP t) ?_;refine Zp (gP t) ?_;refine Zp (gP t) ?_;refine Zp (gP t) ?_;refine Zp (gP t) ?_;refine Zp (gP t) ?_;refine Ze (Xj rfl t rfl) ?_;refine Zn fun a f=>?_;exact ⟨f.sub ⟨rfl,rfl,rfl,rfl,rfl,X1 rfl (by first|rfl|(simp only [D,E,G,t,bs];done)|simp [D,E,G,t]),trivial⟩,rfl⟩
  rintro a _ ⟨f,rfl⟩;refine bL _ _ ?_
  refine Xk f rfl (fun aA=>?_) (fun aA=>?_)
  ·have aO:=aA
   have hv:valS n g col=dPow 4:=by have h9:bitF n col g.a=1∧bitF n col g.b=1:=(by simpa using aA);simp [valS,hk,h9]
   refine Zr f<|Zf (Vc (Xdm _ 4) X4h) ?_;rintro _ dG ⟨rfl,A⟩;have e:=e.below A;have x:=x.below A;have y:=y.below A;have o:=btr o A;refine Zo (Vw [vi ((dPow 4).num.a),vi ((dPow 4).num.b),vi ((dPow 4).num.c),vi ((dPow 4).num.d),vi ((dPow 4).exp)] X01 x) ?_;rintro _ dH ⟨h,B⟩;have p:=x;have e:=e.only h (by omega);have y:=y.only h (by omega);have o:=Below.only o h aJ;have x:=B;refine Zn fun a f=>?_;refine Xt<|aI _ _<|wp_seq_k fun _ bM=>?_;refine Zs f fun _ bN=>?_;refine Zm rfl<|Zm rfl<|Ze (X13 rfl rfl)<|Zt bN fun a f=>?_
   refine Xk f rfl (fun aB=>?_) (fun aB=>?_)
   ·have aP:=aB
    have i:cellS n g row col=valS n g col:=by rw [cellS,if_neg H,if_pos ((eq_of_beq aB).trans C.symm)]
    rw [hv] at i
    refine Zs f fun _ bO=>?_;refine Ze (Vn Xm x)<|Zo (Vw [vi ((dPow 4).num.a),vi ((dPow 4).num.b),vi ((dPow 4).num.c),vi ((dPow 4).num.d),vi ((dPow 4).exp)] X01 e) ?_;rintro _ dI ⟨h,B⟩;have p:=e;have o:=Below.only o h z;have e:=B;refine Zt bO fun a f=>?_;refine wp_ret<|X3<|X2 f (Xv f rfl (ResV.cellN (l:=[vi ((dPow 4).num.a),vi ((dPow 4).num.b),vi ((dPow 4).num.c),vi ((dPow 4).num.d),vi ((dPow 4).exp)]) rfl Xm (e.at 0) rfl)) ?_;exact ⟨(by rw [i];try rfl),o⟩
   have aP:=aB
   have i:cellS n g row col=dZ:=by rw [cellS,if_neg H,if_neg (fun e9=>X1b aB (e9.trans C))]
   refine wp_skip<|bM _ _<|Zs f fun _ bP=>?_;refine Ze (Vn Xm y)<|Zo (Vw [vi 0,vi 0,vi 0,vi 0,vi 0] X01 e) ?_;rintro _ dJ ⟨h,B⟩;have p:=e;have o:=Below.only o h z;have e:=B;refine Zt bP fun a f=>?_
   refine wp_ret (X2 f (Xv f rfl (ResV.cellN (l:=[vi 0,vi 0,vi 0,vi 0,vi 0]) rfl Xm (e.at 0) rfl)) ?_)
   exact ⟨(by rw [i];try rfl),o⟩
  have aO:=aA
  have hv:valS n g col=dPow 0:=by have h9:¬ (bitF n col g.a=1∧bitF n col g.b=1):=(by simpa using aA);simp only [valS,hk,h9];simp
  refine wp_skip<|Xt<|aI _ _<|wp_seq_k fun _ bQ=>?_;refine Zs f fun _ bR=>?_;refine Zm rfl<|Zm rfl<|Ze (X13 rfl rfl)<|Zt bR fun a f=>?_
  refine Xk f rfl (fun aC=>?_) (fun aC=>?_)
  ·have aQ:=aC
   have i:cellS n g row col=valS n g col:=by rw [cellS,if_neg H,if_pos ((eq_of_beq aC).trans C.symm)]
   rw [hv] at i
   refine Zs f fun _ bS=>?_;refine Ze (Vn Xm x)<|Zo (Vw [vi ((dPow 0).num.a),vi ((dPow 0).num.b),vi ((dPow 0).num.c),vi ((dPow 0).num.d),vi ((dPow 0).exp)] X01 e) ?_;rintro _ dK ⟨h,B⟩;have p:=e;have o:=Below.only o h z;have e:=B;refine Zt bS fun a f=>?_;refine wp_ret<|X3<|X2 f (Xv f rfl (ResV.cellN (l:=[vi ((dPow 0).num.a),vi ((dPow 0).num.b),vi ((dPow 0).num.c),vi ((dPow 0).num.d),vi ((dPow 0).exp)]) rfl Xm (e.at 0) rfl)) ?_;exact ⟨(by rw [i];try rfl),o⟩
  have aQ:=aC
  have i:cellS n g row col=dZ:=by rw [cellS,if_neg H,if_neg (fun e9=>X1b aC (e9.trans C))]
  refine wp_skip<|bQ _ _<|Zs f fun _ bU=>?_;refine Ze (Vn Xm y)<|Zo (Vw [vi 0,vi 0,vi 0,vi 0,vi 0] X01 e) ?_;rintro _ dL ⟨h,B⟩;have p:=e;have o:=Below.only o h z;have e:=B;refine Zt bU fun a f=>?_
  refine wp_ret (X2 f (Xv f rfl (ResV.cellN (l:=[vi 0,vi 0,vi 0,vi 0,vi 0]) rfl Xm (e.at 0) rfl)) ?_)
  exact ⟨(by rw [i];try rfl),o⟩
 have G:=W;have dM:=X1b W;refine Zs f fun _ bW=>?_;refine Ze (X13 rfl rfl)<|Za rfl<|Zt bW fun a f=>?_
 refine Xk f rfl (fun aD=>?_) (fun aD=>?_)
 ·have aR:=aD;have hk:=eq_of_beq aD
  have H:¬ g.k≤8:=by omega
  have hv:valS n g col=dPow 0:=by simp [valS,hk]
  refine wp_seq_k fun _ bX=>?_;refine X0h none (fun _=>false) mixed ?_;intro dN A;have q:=q.below A;have e:=e.below A;have x:=x.below A;have y:=y.below A;have o:=btr o A;refine Yb f<|Yo 0 rfl (fun _=>Xa rfl)<|Yo 1 rfl (fun _=>Xa rfl)<|Yo 2 rfl (fun _=>Vd rfl X0f 1)<|Ye 3 rfl (X0 rfl X7 (q.at 1))<|Yo 5 rfl (fun _=>Xa rfl) ?_;refine Yo 6 rfl (fun _=>Xa rfl)<|Yo 7 rfl (fun _=>Vd rfl X0s 2)<|Ye 8 rfl (X0 rfl X7 (q.at 2))<|Y1 4 ?_;refine Yz rfl trivial (Vc (Xfb _ n col g.a (by omega) (by omega) (by omega)) X5r) ?_;refine Y1 9<|Yz rfl trivial (Vc (Xfb _ n col g.b (by omega) (by omega) (by omega)) X5r) ?_;refine Yo 10 rfl (fun _=>X2h rfl rfl) ?_;refine Yd fun a f=>?_;refine bX _ _ ?_
  refine Xk f rfl (fun aE=>?_) (fun aE=>?_)
  ·have aS:=aE
   have C:toS n g col=flipF n (flipF n col g.a) g.b:=by have h9:bitF n col g.a≠bitF n col g.b:=(by simpa using aE);simp [toS,hk,h9]
   refine Zr f<|Zm rfl<|Zm rfl<|Ze (X1h rfl rfl (by omega) (by omega))<|Ze (Vd rfl X0f 1)<|Ze (X0 rfl X7 (q.at 1)) ?_;refine Ze (X1h rfl rfl (by omega) (by omega))<|Ze (Xf1 (m:=(n-1-g.a).toNat) Tryz.underlying3 Tryz.underlying185 rfl (by omega) (by omega))<|Ze (Xl0 (m:=(n-1-g.a).toNat) rfl rfl rfl (by omega))<|Ze (Xlg rfl rfl)<|Zm rfl ?_;refine Ze (X1h rfl rfl (by omega) (by omega))<|Ze (Vd rfl X0s 2)<|Ze (X0 rfl X7 (q.at 2))<|Ze (X1h rfl rfl (by omega) (by omega))<|Ze (Xf1 (m:=(n-1-g.b).toNat) Tryz.underlying3 Tryz.underlying185 rfl (by omega) (by omega)) ?_;refine Ze (Xl0 (m:=(n-1-g.b).toNat) rfl rfl rfl (by omega))<|Ze (Xlg rfl rfl)<|Za rfl ?_;refine Zn fun a f=>?_;refine Xt<|aI _ _<|wp_seq_k fun _ bY=>?_;refine Zs f fun _ bZ=>?_;refine Zm rfl<|Zm rfl<|Ze (X13 rfl rfl)<|Zt bZ fun a f=>?_
   refine Xk f rfl (fun aF=>?_) (fun aF=>?_)
   ·have aT:=aF
    have i:cellS n g row col=valS n g col:=by rw [cellS,if_neg H,if_pos ((eq_of_beq aF).trans C.symm)]
    rw [hv] at i
    refine Zs f fun _ c4=>?_;refine Ze (Vn Xm x)<|Zo (Vw [vi ((dPow 0).num.a),vi ((dPow 0).num.b),vi ((dPow 0).num.c),vi ((dPow 0).num.d),vi ((dPow 0).exp)] X01 e) ?_;rintro _ dO ⟨h,B⟩;have p:=e;have o:=Below.only o h z;have e:=B;refine Zt c4 fun a f=>?_;refine wp_ret<|X3<|X2 f (Xv f rfl (ResV.cellN (l:=[vi ((dPow 0).num.a),vi ((dPow 0).num.b),vi ((dPow 0).num.c),vi ((dPow 0).num.d),vi ((dPow 0).exp)]) rfl Xm (e.at 0) rfl)) ?_;exact ⟨(by rw [i];try rfl),o⟩
   have aT:=aF
   have i:cellS n g row col=dZ:=by rw [cellS,if_neg H,if_neg (fun e9=>X1b aF (e9.trans C))]
   refine wp_skip<|bY _ _<|Zs f fun _ cA=>?_;refine Ze (Vn Xm y)<|Zo (Vw [vi 0,vi 0,vi 0,vi 0,vi 0] X01 e) ?_;rintro _ dP ⟨h,B⟩;have p:=e;have o:=Below.only o h z;have e:=B;refine Zt cA fun a f=>?_
   refine wp_ret (X2 f (Xv f rfl (ResV.cellN (l:=[vi 0,vi 0,vi 0,vi 0,vi 0]) rfl Xm (e.at 0) rfl)) ?_)
   exact ⟨(by rw [i];try rfl),o⟩
  have aS:=aE
  have C:toS n g col=col:=by have h9:bitF n col g.a=bitF n col g.b:=(by simpa using aE);simp [toS,hk,h9]
  refine wp_skip<|Xt<|aI _ _<|wp_seq_k fun _ cB=>?_;refine Zs f fun _ cC=>?_;refine Zm rfl<|Zm rfl<|Ze (X13 rfl rfl)<|Zt cC fun a f=>?_
  refine Xk f rfl (fun aG=>?_) (fun aG=>?_)
  ·have aU:=aG
   have i:cellS n g row col=valS n g col:=by rw [cellS,if_neg H,if_pos ((eq_of_beq aG).trans C.symm)]
   rw [hv] at i
   refine Zs f fun _ cD=>?_;refine Ze (Vn Xm x)<|Zo (Vw [vi ((dPow 0).num.a),vi ((dPow 0).num.b),vi ((dPow 0).num.c),vi ((dPow 0).num.d),vi ((dPow 0).exp)] X01 e) ?_;rintro _ dQ ⟨h,B⟩;have p:=e;have o:=Below.only o h z;have e:=B;refine Zt cD fun a f=>?_;refine wp_ret<|X3<|X2 f (Xv f rfl (ResV.cellN (l:=[vi ((dPow 0).num.a),vi ((dPow 0).num.b),vi ((dPow 0).num.c),vi ((dPow 0).num.d),vi ((dPow 0).exp)]) rfl Xm (e.at 0) rfl)) ?_;exact ⟨(by rw [i];try rfl),o⟩
  have aU:=aG
  have i:cellS n g row col=dZ:=by rw [cellS,if_neg H,if_neg (fun e9=>X1b aG (e9.trans C))]
  refine wp_skip<|cB _ _<|Zs f fun _ cE=>?_;refine Ze (Vn Xm y)<|Zo (Vw [vi 0,vi 0,vi 0,vi 0,vi 0] X01 e) ?_;rintro _ dR ⟨h,B⟩;have p:=e;have o:=Below.only o h z;have e:=B;refine Zt cE fun a f=>?_
  refine wp_ret (X2 f (Xv f rfl (ResV.cellN (l:=[vi 0,vi 0,vi 0,vi 0,vi 0]) rfl Xm (e.at 0) rfl)) ?_)
  exact ⟨(by rw [i];try rfl),o⟩
 have aR:=aD;have dS:=X1b aD
 have H:g.k≤8:=by omega
 refine wp_seq_k fun _ cF=>?_;refine Zs f fun _ cG=>?_;refine Zm rfl<|Zm rfl<|Ze (Xlg rfl rfl)<|Zm rfl<|Ze (X1h rfl rfl (by omega) (by omega)) ?_;refine Ze (Vd rfl X0f 1)<|Ze (X0 rfl X7 (q.at 1))<|Ze (X1h rfl rfl (by omega) (by omega))<|Ze (Xf1 (m:=(n-1-g.a).toNat) Tryz.underlying3 Tryz.underlying185 rfl (by omega) (by omega))<|Ze (Xl0 (m:=(n-1-g.a).toNat) rfl rfl rfl (by omega)) ?_;refine Ze (Xod rfl rfl)<|Ze (X2h rfl rfl)<|Zt cG fun a f=>?_
 refine Xk f rfl (fun aH=>?_) (fun aH=>?_)
 ·have aW:=aH
  have i:cellS n g row col=dZ:=by rw [cellS,if_pos H,if_pos (by simpa using aH)]
  refine Zs f fun _ cH=>?_;refine Ze (Vn Xm y)<|Zo (Vw [vi 0,vi 0,vi 0,vi 0,vi 0] X01 e) ?_;rintro _ dT ⟨h,B⟩;have p:=e;have o:=Below.only o h z;have e:=B;refine Zt cH fun a f=>?_;refine wp_ret<|X3<|Xr<|X3 ?_;refine X2 f (Xv f rfl (ResV.cellN (l:=[vi 0,vi 0,vi 0,vi 0,vi 0]) rfl Xm (e.at 0) rfl)) ?_;exact ⟨(by rw [i];try rfl),o⟩
 have aW:=aH
 have i:cellS n g row col=(oneL g.k).getD (2*bitF n row g.a+bitF n col g.a).toNat dZ:=by rw [cellS,if_pos H,if_neg (by simpa using aH)]
 refine wp_skip<|cF _ _<|wp_seq_k fun _ cJ=>?_;refine X0h none (fun j=>[17].contains j) mixed ?_;intro dU A;have q:=q.below A;have e:=e.below A;have y:=y.below A;have o:=btr o A;refine Yb f<|Yo 0 rfl (fun _=>Vd rfl X0n 0)<|Ye 1 rfl (X0 rfl X7 (q.at 0))<|Yo 3 rfl (fun _=>Xa rfl)<|Yo 4 rfl (fun _=>Xa rfl)<|Yo 5 rfl (fun _=>Vd rfl X0f 1) ?_;refine Ye 6 rfl (X0 rfl X7 (q.at 1))<|Yo 9 rfl (fun _=>Xa rfl)<|Yo 10 rfl (fun _=>Xa rfl)<|Yo 11 rfl (fun _=>Vd rfl X0f 1)<|Ye 12 rfl (X0 rfl X7 (q.at 1)) ?_;refine Y1 2<|Yk rfl trivial (Vc (Xz8 _ g.k (by omega)) Xsj) (fun _ _ ⟨cX,cY,_,I,A⟩=>A) ?_;rintro _ dW ⟨cX,cY,rfl,I,A⟩;have cK:=I.awayNew e.lt;have cL:=I.awayNew y.lt;have I:=I.lower o.size;have e:=e.below A;have o:=btr o A;refine Y1 7<|Yz rfl trivial (Vc (Xfb _ n row g.a (by omega) (by omega) (by omega)) X5r) ?_;refine Yo 8 rfl (fun _=>Xcp rfl rfl (by omega) (by omega))<|Y1 13 ?_;refine Yz rfl trivial (Vc (Xfb _ n col g.a (by omega) (by omega) (by omega)) X5r) ?_;refine Yo 14 rfl (fun _=>X06 rfl rfl (by omega) (by omega))<|Yi (k:=(2*bitF n row g.a+bitF n col g.a).toNat) (u:=((oneL g.k).getD (2*bitF n row g.a+bitF n col g.a).toNat dZ)) (enc:=encD) (l:=(oneL g.k)) 15 rfl trivial rfl rfl X1d X01 X19 I.rd (Xn5 (by omega)) (by omega) ?_;intro dX aX;refine Ye 16 rfl (X07 (l:=[vi (((oneL g.k).getD (2*bitF n row g.a+bitF n col g.a).toNat dZ).num.a),vi (((oneL g.k).getD (2*bitF n row g.a+bitF n col g.a).toNat dZ).num.b),vi (((oneL g.k).getD (2*bitF n row g.a+bitF n col g.a).toNat dZ).num.c),vi (((oneL g.k).getD (2*bitF n row g.a+bitF n col g.a).toNat dZ).num.d),vi (((oneL g.k).getD (2*bitF n row g.a+bitF n col g.a).toNat dZ).exp)]) rfl Xm aX rfl)<|Y1 17 ?_
 refine Yh rfl trivial rfl (Vw [vi (((oneL g.k).getD (2*bitF n row g.a+bitF n col g.a).toNat dZ).num.a),vi (((oneL g.k).getD (2*bitF n row g.a+bitF n col g.a).toNat dZ).num.b),vi (((oneL g.k).getD (2*bitF n row g.a+bitF n col g.a).toNat dZ).num.c),vi (((oneL g.k).getD (2*bitF n row g.a+bitF n col g.a).toNat dZ).num.d),vi (((oneL g.k).getD (2*bitF n row g.a+bitF n col g.a).toNat dZ).exp)] X01 e) ?_;rintro _ dY ⟨h,B⟩;have p:=e;have o:=Below.only o h z;have e:=B;refine Yd fun a f=>?_;refine cJ _ _<|wp_ret<|Xr<|X3 ?_;refine X2 f (Xv f rfl (ResV.cellN (l:=[vi (((oneL g.k).getD (2*bitF n row g.a+bitF n col g.a).toNat dZ).num.a),vi (((oneL g.k).getD (2*bitF n row g.a+bitF n col g.a).toNat dZ).num.b),vi (((oneL g.k).getD (2*bitF n row g.a+bitF n col g.a).toNat dZ).num.c),vi (((oneL g.k).getD (2*bitF n row g.a+bitF n col g.a).toNat dZ).num.d),vi (((oneL g.k).getD (2*bitF n row g.a+bitF n col g.a).toNat dZ).exp)]) rfl Xm (e.at 0) rfl)) ?_;exact ⟨(by rw [i];try rfl),o⟩
theorem Xw1(H:World)(n:Int)(g:Gt)(W:gOk n g=true) : Ret Tryz.prog 107 [vi n,.agg #[vi g.k,vi g.a,vi g.b]] H (fun v w=>∃ A c,v=mV A c (gateS n g)∧Own w H.heap.size 95 5 encD A c (gateS n g).cells∧Below H.heap.size H w):=by
 have aZ:=X1f W
 obtain ⟨d,hd⟩ : ∃ d:Nat,d=2^n.toNat:=⟨_,rfl⟩
 have aI:d≤32:=by rw [hd];exact X43 aZ.1.2
 refine enter Tryz.func107 rfl 36 rfl rfl ?_;intro a t
 have p:=bz H
 refine Zs t fun _ b0=>?_;refine Zf (X0i (zs:=[vi g.k,vi g.a,vi g.b]) rfl rfl) ?_;rintro _ w1 ⟨b2,rfl,J,y,e⟩;have b8:=Nat.le_trans p.size J;have p:=btr p y;refine Zf (X8 (zs:=[vi 0,vi 0,.slice none 0 0]) X1n rfl) ?_;rintro _ w2 ⟨b4,rfl,b1,y,f⟩;have aJ:=Nat.le_trans p.size b1;have e:=e.below y;have p:=btr p y;refine Zx b0 fun a t _ b3=>?_;refine Zm rfl<|Ze (Xf1 (m:=n.toNat) Tryz.underlying3 Tryz.underlying185 rfl (by omega) (by omega))<|Ze (Xaq (m:=n.toNat) (D:=d) rfl rfl rfl ⟨hd,by omega⟩)<|Za rfl<|Zx b3 fun a t _ b5=>?_;refine Zm rfl<|Zm rfl<|Ze (Xg (ps:=[(0,vi (d:Int)),(1,vi (d:Int))]) (cs:=[vi (d:Int),vi (d:Int),.slice none 0 0]) rfl (fun _=>by first|rfl|kernel_rfl))<|Zf (X8 (zs:=[vi 0,vi 0,.slice none 0 0]) X1n rfl) ?_;rintro _ w3 ⟨b9,rfl,b6,y,o⟩
 have aY:b4≠b9:=by have:=f.lt;omega
 have aA:=Nat.le_trans p.size b6;have e:=e.below y;have f:=f.below y;have p:=btr p y;refine Zo (Vw [vi (d:Int),vi (d:Int),.slice none 0 0] X17 o) ?_;rintro _ w4 ⟨L,hb⟩;have z:=o;have e:=e.only L (Blk.ne e z rfl);have f:=f.only L (by omega);have p:=Below.only p L aA;have o:=hb;refine ZX b5 fun a t _ aK=>?_;refine Zs t fun _ aL=>?_;refine Za rfl<|Zt aL fun a t=>?_;refine wp_block<|X0b (σ:=Nat×(List Dy)) (fun (s:Nat×(List Dy)) (a:Act) (w:World)=>match s with|(i,l)=>∃ C E,Fr a 36 [(0,vi n),(3,.pointer (some ⟨b2,0,none⟩)),(4,.pointer (some ⟨b4,0,none⟩)),(5,vi (d:Int)),(6,.pointer (some ⟨b9,0,none⟩)),(7,vi (i:Int))]∧(i≤d)∧(gridL (fun i j=>cellS n g (i:Int) (j:Int)) d (i*d)=l)∧Blk w b2 115 [vi g.k,vi g.a,vi g.b]∧Blk w b4 33 [vi 0,vi 0,.slice none 0 0]∧Blk w b9 33 [vi (d:Int),vi (d:Int),.slice C l.length E]∧Own w H.heap.size 95 5 encD C E l∧Below H.heap.size H w) (fun (s:Nat×(List Dy))=>match s with|(i,l)=>d-i) (0,[]) ?_ ?_
 ·exact ⟨none,0,t.sb,(Nat.zero_le _),(by rw [Nat.zero_mul];rfl),e,f,o,(Own.nil _ _ _ _ _),p⟩
 rintro ⟨i,l⟩ a w5 ⟨C,E,t,bD,hl,e,f,o,G,p⟩;refine wp_seq_k fun _ aM=>?_;refine Zs t fun _ aN=>?_;refine Zm rfl<|Zm rfl<|Ze (X10 rfl rfl)<|Zt aN fun a t=>?_
 refine Xk t rfl (fun u=>?_) (fun u=>?_)
 ·have aC:=u;have u:=of_decide_eq_true u
  have aO:i<d:=by have:=u;omega
  have bE:i*d≤1024:=Nat.le_trans (Nat.mul_le_mul (show i≤32 by omega) aI) (by decide)
  refine wp_skip<|aM _ _<|wp_seq_k fun _ aP=>?_;refine wp_block<|Zs t fun _ aQ=>?_;refine Za rfl<|Zt aQ fun a t=>?_;refine wp_block<|X0b (σ:=Nat×(List Dy)) (fun (s:Nat×(List Dy)) (a:Act) (w:World)=>match s with|(j,l2)=>∃ Q U,Fr a 36 [(0,vi n),(3,.pointer (some ⟨b2,0,none⟩)),(4,.pointer (some ⟨b4,0,none⟩)),(5,vi (d:Int)),(6,.pointer (some ⟨b9,0,none⟩)),(7,vi (i:Int)),(8,vi (j:Int))]∧(j≤d)∧(gridL (fun i j=>cellS n g (i:Int) (j:Int)) d (i*d+j)=l2)∧Blk w b2 115 [vi g.k,vi g.a,vi g.b]∧Blk w b4 33 [vi 0,vi 0,.slice none 0 0]∧Blk w b9 33 [vi (d:Int),vi (d:Int),.slice Q l2.length U]∧Own w H.heap.size 95 5 encD Q U l2∧Below H.heap.size H w) (fun (s:Nat×(List Dy))=>match s with|(j,l2)=>d-j) (0,l) ?_ ?_
  ·exact ⟨C,E,t.sb,(Nat.zero_le _),hl,e,f,o,G,p⟩
  rintro ⟨j,l2⟩ a w6 ⟨Q,U,t,bF,J,e,f,o,q,p⟩;refine wp_seq_k fun _ aR=>?_;refine Zs t fun _ aS=>?_;refine Zm rfl<|Zm rfl<|Ze (X10 rfl rfl)<|Zt aS fun a t=>?_
  refine Xk t rfl (fun x=>?_) (fun x=>?_)
  ·have aD:=x;have x:=of_decide_eq_true x
   have aE:j<d:=by have:=x;omega
   have bC:l2.length=i*d+j:=by rw [← J,X57]
   refine wp_skip<|aR _ _<|wp_seq_k fun _ aT=>?_;refine wp_block<|X0h none (fun j=>[8,10].contains j) mixed ?_;intro w7 y;have e:=e.below y;have f:=f.below y;have o:=o.below y;have q:=q.below y;have p:=btr p y;refine Yb t<|Yo 0 rfl (fun _=>Vd rfl X1g 2)<|Ye 1 rfl (X0 rfl X2a (o.at 2))<|Yo 2 rfl (fun _=>Xa rfl)<|Ye 3 rfl (Vn X0g e)<|Yo 4 rfl (fun _=>Xa rfl) ?_;refine Yo 5 rfl (fun _=>Xa rfl)<|Y1 6 ?_;refine Yk rfl trivial (Vc (Xz7 _ n g (i:Int) (j:Int) W) Xuj) (fun _ _ ⟨_,y⟩=>y) ?_;rintro _ w8 ⟨rfl,y⟩;have e:=e.below y;have f:=f.below y;have o:=o.below y;have q:=q.below y;have p:=btr p y;refine Y1 7<|Yk rfl trivial (X5 (k:=1) (vs:=[.agg #[vi ((cellS n g (i:Int) (j:Int)).num.a),vi ((cellS n g (i:Int) (j:Int)).num.b),vi ((cellS n g (i:Int) (j:Int)).num.c),vi ((cellS n g (i:Int) (j:Int)).num.d),vi ((cellS n g (i:Int) (j:Int)).exp)]]) (zs:=[vi ((cellS n g (i:Int) (j:Int)).num.a),vi ((cellS n g (i:Int) (j:Int)).num.b),vi ((cellS n g (i:Int) (j:Int)).num.c),vi ((cellS n g (i:Int) (j:Int)).num.d),vi ((cellS n g (i:Int) (j:Int)).exp)]) rfl X1d X2f rfl rfl) (fun _ _ ⟨_,_,_,h,_⟩=>h) ?_;rintro _ w9 ⟨bG,rfl,aB,y,M⟩;have b7:=Nat.le_trans p.size aB;have I:=q.away aB;have e:=e.below y;have f:=f.below y;have o:=o.below y;have q:=q.below y;have p:=btr p y;refine Y1 8<|Yt rfl trivial rfl (X11 (enc:=encD) (l:=(l2)) (l2:=([(cellS n g (i:Int) (j:Int))])) (B0:=H.heap.size) rfl rfl X1d X2f X19 X61 q (Rd.of_blk M rfl _ M.lt) (by simp only [maxLen];simp;omega) (by simp;omega) p.size) ?_;rintro _ bH ⟨aF,aG,rfl,N,W,aU⟩
   have B:Own _ H.heap.size 95 5 encD _ _ (l2):=q
   have aH:=aU _ M.lt I;clear aU;have e:=e.appT B W rfl;have f:=f.appT B W rfl;have o:=o.appT B W rfl;have p:=Below.app p B W (Nat.le_refl _) p.size;clear B W;refine Yo 9 rfl (fun _=>Vd rfl X1g 2)<|Y1 10 ?_;refine Yh rfl trivial rfl (Vu (vs:=[.slice aF (l2++([(cellS n g (i:Int) (j:Int))])).length aG]) (l':=[vi (d:Int),vi (d:Int),.slice aF (l2++([(cellS n g (i:Int) (j:Int))])).length aG]) rfl rfl Xfj o) ?_;rintro _ bI ⟨L,hb⟩;have z:=o;have e:=e.only L (Blk.ne e z rfl);have f:=f.only L (by omega);have N:=N.onlyT L z rfl;have p:=Below.only p L aA;have o:=hb;refine Yd fun a t=>?_;refine Xt<|aT _ _<|Zr t<|Zm rfl<|Ze (X06 rfl rfl (by omega) (by omega))<|Za rfl ?_;refine Zn fun a t=>?_;refine Xp ?_;exact ⟨(j+1,l2++[(cellS n g (i:Int) (j:Int))]),⟨aF,aG,t.sb,(by omega),(by rw [Xep aE,J]),e,f,o,N,p⟩,(by first|omega|(dsimp only;omega))⟩
  have aD:=x;have x:=of_decide_eq_false x
  have aE:j=d:=by have:=x;omega
  refine wp_exit<|Xl<|Xl<|X0a ?_;refine Xt<|aP _ _<|Zr t<|Zm rfl<|Ze (X06 rfl rfl (by omega) (by omega))<|Za rfl ?_;refine Zn fun a t=>?_;refine Xp ?_;exact ⟨(i+1,l2),⟨Q,U,t.sb,(by omega),(by rw [Nat.add_mul,Nat.one_mul,← J,aE]),e,f,o,q,p⟩,(by first|omega|(dsimp only;omega))⟩
 have aC:=u;have u:=of_decide_eq_false u
 have aO:i=d:=by have:=u;omega
 refine wp_exit<|Xl<|Xl<|X0a ?_;refine aK _ _<|Zs t fun _ aW=>?_;refine Ze (Vn X0e o)<|Zo (Vw [vi (d:Int),vi (d:Int),.slice C l.length E] X17 f) ?_;rintro _ bJ ⟨L,hb⟩;have z:=f;have G:=G.onlyT L z rfl;have p:=Below.only p L aJ;have f:=hb;refine Zt aW fun a t=>?_
 refine wp_ret (X2 t (Xv t rfl (ResV.cellN (l:=[vi (d:Int),vi (d:Int),.slice C l.length E]) rfl X0e (f.at 0) rfl)) ?_)
 have aX:gateS n g=⟨(d:Int),(d:Int),l⟩:=by rw [gateS,← hl,aO,hd]
 rw [aX]
 exact ⟨C,E,rfl,G,p⟩
theorem Xzo(D:World)(p:Mx)(Ap:Option Addr)(cp:Nat)(G:Rd D D.heap.size 95 encD Ap p.cells)(q:Mx)(Aq:Option Addr)(cq:Nat)(H:Rd D D.heap.size 95 encD Aq q.cells)(k:Int)(b8:p.cells.length=q.cells.length)(b9:q.cells.length≤2305843009213693951) : Ret Tryz.prog 162 [.agg #[vi p.rows,vi p.cols,.slice Ap p.cells.length cp],.agg #[vi q.rows,vi q.cols,.slice Aq q.cells.length cq],vi k] D (fun v w=>v=.bool (turnedS p q k)∧Below D.heap.size D w):=by
 refine enter Tryz.func162 rfl 42 rfl rfl ?_;intro a j
 have n:=bz D
 refine Zs j fun _ aX=>?_;refine Zf (X0i (zs:=[vi p.rows,vi p.cols,.slice Ap p.cells.length cp]) rfl rfl) ?_;rintro _ w1 ⟨b4,rfl,aY,x,e⟩;have b6:=Nat.le_trans n.size aY;have n:=btr n x;refine Zf (X0i (zs:=[vi q.rows,vi q.cols,.slice Aq q.cells.length cq]) rfl rfl) ?_;rintro _ w2 ⟨b5,rfl,aZ,x,aA⟩
 have aW:b4≠b5:=by have:=e.lt;omega
 have b7:=Nat.le_trans n.size aZ;have e:=e.below x;have n:=btr n x;refine Za rfl<|ZX aX fun a j _ b0=>?_;refine wp_seq_k fun _ b1=>?_;refine X0o (fun a w=>Fr a 42 [(2,vi k),(3,.pointer (some ⟨b4,0,none⟩)),(4,.pointer (some ⟨b5,0,none⟩)),(20,.bool ((p.rows != q.rows)||(p.cols != q.cols)))]∧w2=w) ?_ ?_
 ·refine Zr j<|Ze (Vd rfl X1w 0)<|Ze (X0 rfl X7 (e.at 0))<|Ze (Vd rfl X1w 0)<|Ze (X0 rfl X7 (aA.at 0))<|Ze (X2h rfl rfl) ?_;refine Zm rfl ?_
  refine Zg 14 rfl (fun m=>?_) (fun m=>?_)
  ·refine Zp (gP m) ?_;refine Zp (gP m) ?_;refine Zp (gP m) ?_;refine Zp (gP m) ?_;refine Zp (gP m) ?_;refine Ze (Xn rfl m rfl) ?_;refine Zn fun a j=>?_;exact ⟨j.sub ⟨rfl,rfl,rfl,X1 rfl (by first|rfl|(simp only [m,bs];done)|simp [m]),trivial⟩,rfl⟩
  refine Zv (gW m) (Vd rfl X1p 1) ?_;refine Zv (gW m) (X0 rfl X7 (e.at 1)) ?_;refine Zv (gW m) (Vd rfl X1p 1) ?_;refine Zv (gW m) (X0 rfl X7 (aA.at 1)) ?_;refine Zv (gW m) (X2h rfl rfl) ?_;refine Ze (Xj rfl m rfl) ?_;refine Zn fun a j=>?_;exact ⟨j.sub ⟨rfl,rfl,rfl,X1 rfl (by first|rfl|(simp only [m,bs];done)|simp [m]),trivial⟩,rfl⟩
 rintro a _ ⟨j,rfl⟩;refine b1 _ _ ?_
 refine Xk j rfl (fun y=>?_) (fun y=>?_)
 ·have aG:=y
  have hn:turnedS p q k=false:=by have h9:¬ (p.rows=q.rows∧p.cols=q.cols):=(by intro h8;revert y;simp [h8.1,h8.2]);unfold turnedS;revert h9;by_cases e1:p.rows=q.rows<;>by_cases e2:p.cols=q.cols<;>simp [e1,e2]
  refine Zs j fun _ aH=>?_;refine Za rfl<|Zt aH fun a j=>?_;refine wp_ret<|X3<|X2 j (Xv j rfl rfl) ?_;exact ⟨by rw [hn],n⟩
 have aG:=y
 have aI:p.rows=q.rows∧p.cols=q.cols:=by revert y;by_cases e1:p.rows=q.rows<;>by_cases e2:p.cols=q.cols<;>simp [e1,e2]
 refine wp_skip<|b0 _ _<|wp_seq_k fun _ aJ=>?_;refine Zs j fun _ aK=>?_;refine Ze (Vd rfl X1g 2)<|Ze (X0 rfl X2a (aA.at 2))<|Ze (X0x rfl X1d)<|Zm rfl<|Zt aK fun a j=>?_;refine wp_block<|X0b (σ:=Nat) (fun (i:Nat) (a:Act) (w:World)=>Fr a 42 [(2,vi k),(3,.pointer (some ⟨b4,0,none⟩)),(22,.slice Aq q.cells.length cq),(23,vi (q.cells.length:Int)),(24,vi (i:Int))]∧(i≤q.cells.length)∧(p.cells.take i=(q.cells.map (dTurn k)).take i)∧Blk w b4 33 [vi p.rows,vi p.cols,.slice Ap p.cells.length cp]∧Below D.heap.size D w) (fun (i:Nat)=>q.cells.length-i) 0 ?_ ?_
 ·exact ⟨j.sb,(Nat.zero_le _),(by simp),e,n⟩
 rintro i a w3 ⟨j,hi,z,e,n⟩;refine Zs j fun _ aL=>?_;refine Ze (X10 rfl rfl)<|ZX aL fun a j _ aM=>?_
 refine Xk j rfl (fun o=>?_) (fun o=>?_)
 ·have aB:=o;have o:=of_decide_eq_true o
  obtain ⟨u16,h⟩:=Xi (l:=q.cells) (k:=i) (by omega)
  obtain ⟨E,aC⟩:=Xi (l:=p.cells) (k:=i) (by omega)
  refine wp_skip<|aM _ _<|wp_seq_k fun _ aN=>?_;refine wp_block<|Zs j fun _ aO=>?_;refine Zm rfl<|Zi (k:=i) (u:=u16) (enc:=encD) (l:=q.cells) trivial rfl rfl X1d X01 X19 (H.below' n) h rfl ?_;intro bC aD;refine Ze (X07 (l:=[vi u16.num.a,vi u16.num.b,vi u16.num.c,vi u16.num.d,vi u16.exp]) rfl Xm aD rfl)<|Zf (X8 (zs:=[vi 0,vi 0,vi 0,vi 0,vi 0]) X1i rfl) ?_;rintro _ w4 ⟨bD,rfl,A,x,g⟩;have B:=Nat.le_trans n.size A;have aP:=(G.below' n).away A;have aQ:=(H.below' n).away A;have e:=e.below x;have n:=btr n x;refine Za rfl<|Zo (Vw [vi u16.num.a,vi u16.num.b,vi u16.num.c,vi u16.num.d,vi u16.exp] X01 g) ?_;rintro _ w5 ⟨ho,hb⟩;have C:=g;have e:=e.only ho (Blk.ne e C rfl);have n:=Below.only n ho B;have g:=hb;refine Zx aO fun a j _ aR=>?_;refine Ze (Vd rfl X1e 0)<|Ze (X07 (l:=[vi u16.num.a,vi u16.num.b,vi u16.num.c,vi u16.num.d]) rfl X0c ((g.at 0).take 4) rfl)<|Zm rfl<|Zf (Vc (Xx4 _ u16.num k) Xls) ?_;rintro _ w6 ⟨rfl,x⟩;have e:=e.below x;have g:=g.below x;have n:=btr n x;refine Ze (Vd rfl X1e 0)<|Zo (Vu (vs:=[vi ((rTurn u16.num k).a),vi ((rTurn u16.num k).b),vi ((rTurn u16.num k).c),vi ((rTurn u16.num k).d)]) (l':=[vi ((rTurn u16.num k).a),vi ((rTurn u16.num k).b),vi ((rTurn u16.num k).c),vi ((rTurn u16.num k).d),vi u16.exp]) rfl rfl X16 g) ?_;rintro _ w7 ⟨ho,hb⟩;have C:=g;have e:=e.only ho (Blk.ne e C rfl);have n:=Below.only n ho B;have g:=hb;refine ZX aR fun a j _ aS=>?_;refine X0h none (fun _=>false) mixed ?_;intro w8 x;have e:=e.below x;have g:=g.below x;have n:=btr n x
  refine Yb j<|Yo 0 rfl (fun _=>Vd rfl X1g 2)<|Ye 1 rfl (X0 rfl X2a (e.at 2))<|Yo 2 rfl (fun _=>Xa rfl)<|Yi (k:=i) (u:=E) (enc:=encD) (l:=p.cells) 3 rfl trivial rfl rfl X1d X01 X19 (G.below' n) aC rfl ?_;intro bE aE;refine Ye 4 rfl (X07 (l:=[vi E.num.a,vi E.num.b,vi E.num.c,vi E.num.d,vi E.exp]) rfl Xm aE rfl)<|Ye 5 rfl (Vn Xm g)<|Yo 6 rfl (fun _=>Xsc rfl rfl Xkt (fun w=>eqD 9997 E (⟨(rTurn u16.num k),u16.exp⟩ : Dy) w)) ?_;refine Yd fun a j=>?_;refine aS _ _ ?_
  refine Xk j rfl (fun t=>?_) (fun t=>?_)
  ·have aF:=t
   have b2:¬ E=dTurn k u16:=by intro e9;revert t;rw [e9];simp [dTurn]
   have hn:turnedS p q k=false:=by have h8:¬ p.cells=q.cells.map (dTurn k):=(by intro e9;have h7:=Xht (f:=dTurn k) h;rw [← e9,aC] at h7;injection h7 with h7;exact b2 h7);simp [turnedS,h8]
   refine Zs j fun _ aT=>?_;refine Za rfl<|Zt aT fun a j=>?_;refine wp_ret<|Xr<|X3<|X3 ?_;refine Xr<|X3<|X2 j (Xv j rfl rfl) ?_;exact ⟨by rw [hn],n⟩
  have aF:=t
  have b3:E=dTurn k u16:=by simpa [dTurn] using t
  refine wp_skip<|Xt<|aN _ _<|Zr j ?_;refine Ze (X06 rfl rfl (by omega) (by omega))<|Zm rfl ?_;refine Zn fun a j=>?_;refine Xp ?_;exact ⟨i+1,⟨j.sb,(by omega),(Xgv z aC (Xht h) b3),e,n⟩,(by omega)⟩
 have aB:=o;have o:=of_decide_eq_false o;refine wp_exit<|Xl<|Xl<|X0a ?_;refine aJ _ _<|Zs j fun _ aU=>?_;refine Za rfl<|Zt aU fun a j=>?_
 refine wp_ret (X2 j (Xv j rfl rfl) ?_)
 have he:p.cells=q.cells.map (dTurn k):=by rw [List.take_of_length_le (by omega),List.take_of_length_le (by simp;omega)] at z;exact z
 exact ⟨by simp [turnedS,aI.1,aI.2,← he],n⟩
theorem Xzg(m:World)(p:Mx)(Ap:Option Addr)(cp:Nat)(aC:Rd m m.heap.size 95 encD Ap p.cells)(q:Mx)(Aq:Option Addr)(cq:Nat)(aD:Rd m m.heap.size 95 encD Aq q.cells)(aJ:p.cells.length=q.cells.length)(aK:q.cells.length≤2305843009213693951) : Ret Tryz.prog 104 [.agg #[vi p.rows,vi p.cols,.slice Ap p.cells.length cp],.agg #[vi q.rows,vi q.cols,.slice Aq q.cells.length cq]] m (fun v w=>∃ i:Int,v=.tuple #[vi i,.bool (phaseS p q)]∧Below m.heap.size m w):=by
 refine enter Tryz.func104 rfl 16 rfl rfl ?_;intro a c
 have g:=bz m
 refine Zs c fun _ aL=>?_;refine Zf (X0i (zs:=[vi p.rows,vi p.cols,.slice Ap p.cells.length cp]) rfl rfl) ?_;rintro _ w1 ⟨b4,rfl,aM,n,d⟩;have aS:=Nat.le_trans g.size aM;have g:=btr g n;refine Zf (X0i (zs:=[vi q.rows,vi q.cols,.slice Aq q.cells.length cq]) rfl rfl) ?_;rintro _ w2 ⟨b5,rfl,aN,n,l⟩
 have aI:b4≠b5:=by have:=d.lt;omega
 have aT:=Nat.le_trans g.size aN;have d:=d.below n;have g:=btr g n;refine Za rfl<|Za rfl<|ZX aL fun a c _ aO=>?_;refine Zs c fun _ aP=>?_;refine Za rfl<|Zt aP fun a c=>?_;refine wp_block<|X0b (σ:=Nat) (fun (k:Nat) (a:Act) (w:World)=>Fr a 16 [(2,.pointer (some ⟨b4,0,none⟩)),(3,.pointer (some ⟨b5,0,none⟩)),(6,vi (k:Int))]∧(k≤8)∧(∀ j<k,turnedS p q ((j:Nat) : Int)=false)∧Blk w b4 33 [vi p.rows,vi p.cols,.slice Ap p.cells.length cp]∧Blk w b5 33 [vi q.rows,vi q.cols,.slice Aq q.cells.length cq]∧Below m.heap.size m w) (fun (k:Nat)=>8-k) 0 ?_ ?_
 ·exact ⟨c.sb,(by omega),(fun j hj=>by omega),d,l,g⟩
 rintro k a w3 ⟨c,hk,o,d,l,g⟩;refine wp_seq_k fun _ aQ=>?_;refine Zs c fun _ aR=>?_;refine Zm rfl<|Ze (X10 rfl rfl)<|Zt aR fun a c=>?_
 refine Xk c rfl (fun b=>?_) (fun b=>?_)
 ·have aA:=b;have b:=of_decide_eq_true b
  have aU:(k:Int)<8:=b
  refine wp_skip<|aQ _ _<|wp_seq_k fun _ aE=>?_;refine wp_block<|Zs c fun _ aF=>?_;refine Ze (Vn X0e d)<|Ze (Vn X0e l)<|Zm rfl<|Zf (Vc (Xzo _ p Ap cp (aC.below' g).top q Aq cq (aD.below' g).top (k:Int) aJ aK) Xuy) ?_;rintro _ w4 ⟨rfl,n⟩;have d:=d.below n;have l:=l.below n;have g:=btr g n;refine Zt aF fun a c=>?_
  refine Xk c rfl (fun e=>?_) (fun e=>?_)
  ·have aB:=e
   have hT:turnedS p q (k:Int)=true:=e
   refine Zs c fun _ aG=>?_;refine Zm rfl<|Za rfl<|Za rfl<|Zt aG fun a c=>?_;refine wp_ret<|Xr<|X3<|X3 ?_;refine Xr<|X3<|X2 c (X0w c rfl rfl rfl) ?_;exact ⟨_,by rw [phaseS,Xj8 (f:=fun k=>turnedS p q ((k:Nat) : Int)) (k:=k) (by omega) hT],g⟩
  have aB:=e
  have hT:turnedS p q (k:Int)=false:=e
  refine wp_skip<|Xt<|aE _ _<|Zr c ?_;refine Zm rfl<|Ze (X06 rfl rfl (by omega) (by omega))<|Za rfl ?_;refine Zn fun a c=>?_;refine Xp ?_;exact ⟨k+1,⟨c.sb,(by omega),(fun j hj=>by rcases Nat.lt_or_ge j k with h9|h9;exact o j h9;obtain rfl:j=k:=(by omega);exact hT),d,l,g⟩,(by omega)⟩
 have aA:=b;have b:=of_decide_eq_false b;refine wp_exit<|Xl<|Xl<|X0a ?_;refine aO _ _<|Zs c fun _ aH=>?_;refine Za rfl<|Za rfl<|Zt aH fun a c=>?_
 refine wp_ret (X2 c (X0w c rfl rfl rfl) ?_)
 exact ⟨_,by rw [phaseS,Xfs (fun j hj=>o j (by omega))],g⟩
theorem Xvz(w0:World)(n:Int)(g:Gt)(hn:1≤n∧n≤5) : Ret Tryz.prog 75 [vi n,.agg #[vi g.k,vi g.a,vi g.b]] w0 (fun v w=>v=.bool (gOk n g)∧Below w0.heap.size w0 w):=by
 refine enter Tryz.func75 rfl 55 rfl rfl ?_;intro a l
 have hW:=bz w0
 refine Zs l fun _ aC=>?_;refine Zf (X0i (zs:=[vi g.k,vi g.a,vi g.b]) rfl rfl) ?_;rintro _ w1 ⟨b2,rfl,aD,hE,o⟩;have aJ:=Nat.le_trans hW.size aD;have hW:=btr hW hE;refine Za rfl<|ZX aC fun a l _ aE=>?_;refine wp_block<|Zs l fun _ aF=>?_;refine Ze (Vd rfl X0n 0)<|Ze (X0 rfl X7 (o.at 0))<|Zf (Vc (F85 _ g.k 1 8) X40) ?_;rintro _ _ ⟨rfl,rfl⟩;refine Za rfl<|Zt aF fun a l=>?_
 refine Xk l rfl (fun p=>?_) (fun p=>?_)
 ·have d:=p;have q:=Xz1 hn p;refine wp_seq_k fun _ aG=>?_;refine X0o (fun a w=>Fr a 55 [(4,.bool ((inR g.a 0 (n-1))&&(g.b==0)))]∧w1=w) ?_ ?_
  ·refine Zr l<|Ze (Vd rfl X0f 1)<|Ze (X0 rfl X7 (o.at 1))<|Zm rfl<|Ze (X1h rfl rfl (by omega) (by omega))<|Zf (Vc (F85 _ g.a 0 (n-1)) X40) ?_;rintro _ _ ⟨rfl,rfl⟩;refine Zm rfl ?_
   refine Zg 14 rfl (fun m=>?_) (fun m=>?_)
   ·refine Zv (gW m) (Vd rfl X0s 2) ?_;refine Zv (gW m) (X0 rfl X7 (o.at 2)) ?_;refine Zv (gW m) (X13 rfl rfl) ?_;refine Ze (Xn rfl m rfl)<|Za rfl ?_;refine Zn fun a l=>?_;exact ⟨l.sub ⟨X1 rfl (by first|rfl|(simp only [d,m,bs];done)|simp [d,m]),trivial⟩,rfl⟩
   refine Zp (gP m) ?_;refine Zp (gP m) ?_;refine Zp (gP m) ?_;refine Ze (Xj rfl m rfl)<|Za rfl ?_;refine Zn fun a l=>?_;exact ⟨l.sub ⟨X1 rfl (by first|rfl|(simp only [d,m,bs];done)|simp [d,m]),trivial⟩,rfl⟩
  rintro a _ ⟨l,rfl⟩;refine aG _ _<|wp_ret<|Xr<|X3 ?_;refine X2 l (Xv l rfl rfl) ?_;exact ⟨by rw [q],hW⟩
 have d:=p;have aH:=p;refine Zs l fun _ aI=>?_;refine Ze (Vd rfl X0n 0)<|Ze (X0 rfl X7 (o.at 0))<|Zf (Vc (F85 _ g.k 9 11) X40) ?_;rintro _ _ ⟨rfl,rfl⟩;refine Za rfl<|Zt aI fun a l=>?_
 refine Xk l rfl (fun t=>?_) (fun t=>?_)
 ·have i:=t;have q:=Xzl hn t;refine wp_seq_k fun _ aA=>?_;refine X0o (fun a w=>Fr a 55 [(4,.bool (((inR g.a 0 (n-1))&&(inR g.b 0 (n-1)))&&(g.a != g.b)))]∧w1=w) ?_ ?_
  ·refine Zr l<|Ze (Vd rfl X0f 1)<|Ze (X0 rfl X7 (o.at 1))<|Zm rfl<|Ze (X1h rfl rfl (by omega) (by omega))<|Zf (Vc (F85 _ g.a 0 (n-1)) X40) ?_;rintro _ _ ⟨rfl,rfl⟩;refine Zm rfl ?_
   refine Zg 28 rfl (fun c=>?_) (fun c=>?_)
   ·refine Zv (gW c) (Vd rfl X0s 2) ?_;refine Zv (gW c) (X0 rfl X7 (o.at 2)) ?_;refine Zv (gW c) (Xa rfl) ?_;refine Zv (gW c) (X1h rfl rfl (by omega) (by omega)) ?_;refine Zk (gW c) (Vc (F85 _ g.b 0 (n-1)) X40) ?_;rintro _ _ ⟨rfl,rfl⟩;refine Ze (Xn rfl c rfl)<|Zm rfl ?_
    refine Zg 35 rfl (fun e=>?_) (fun e=>?_)
    ·refine Zv (gW e) (Vd rfl X0f 1) ?_;refine Zv (gW e) (X0 rfl X7 (o.at 1)) ?_;refine Zv (gW e) (Vd rfl X0s 2) ?_;refine Zv (gW e) (X0 rfl X7 (o.at 2)) ?_;refine Zv (gW e) (X2h rfl rfl) ?_;refine Ze (Xn rfl e rfl)<|Za rfl ?_;refine Zn fun a l=>?_;exact ⟨l.sub ⟨X1 rfl (by first|rfl|(simp only [d,i,c,e,bs];done)|simp [d,i,c,e]),trivial⟩,rfl⟩
    refine Zp (gP e) ?_;refine Zp (gP e) ?_;refine Zp (gP e) ?_;refine Zp (gP e) ?_;refine Zp (gP e) ?_;refine Ze (Xj rfl e rfl)<|Za rfl ?_;refine Zn fun a l=>?_;exact ⟨l.sub ⟨X1 rfl (by first|rfl|(simp only [d,i,c,e,bs];done)|simp [d,i,c,e]),trivial⟩,rfl⟩
   refine Zp (gP c) ?_;refine Zp (gP c) ?_;refine Zp (gP c) ?_;refine Zp (gP c) ?_;refine Zp (gP c) ?_;refine Ze (Xj rfl c rfl)<|Zm rfl<|Zp (gP rfl) ?_;refine Zp (gP rfl) ?_;refine Zp (gP rfl) ?_;refine Zp (gP rfl) ?_;refine Zp (gP rfl) ?_;refine Ze (Xj rfl rfl rfl)<|Za rfl ?_;refine Zn fun a l=>?_;exact ⟨l.sub ⟨X1 rfl (by first|rfl|(simp only [d,i,c,bs];done)|simp [d,i,c]),trivial⟩,rfl⟩
  rintro a _ ⟨l,rfl⟩;refine aA _ _<|wp_ret<|Xr<|X3 ?_;refine X2 l (Xv l rfl rfl) ?_;exact ⟨by rw [q],hW⟩
 have i:=t;have q:=Xyx hn aH t;refine wp_skip<|Xt<|aE _ _<|wp_seq_k fun _ aB=>?_;refine X0o (fun a w=>Fr a 55 [(4,.bool (((g.k==12)&&(g.a==0))&&(g.b==0)))]∧w1=w) ?_ ?_
 ·refine Zr l<|Ze (Vd rfl X0n 0)<|Ze (X0 rfl X7 (o.at 0))<|Ze (X13 rfl rfl)<|Zm rfl ?_
  refine Zg 45 rfl (fun f=>?_) (fun f=>?_)
  ·refine Zv (gW f) (Vd rfl X0f 1) ?_;refine Zv (gW f) (X0 rfl X7 (o.at 1)) ?_;refine Zv (gW f) (X13 rfl rfl) ?_;refine Ze (Xn rfl f rfl)<|Zm rfl ?_
   refine Zg 50 rfl (fun j=>?_) (fun j=>?_)
   ·refine Zv (gW j) (Vd rfl X0s 2) ?_;refine Zv (gW j) (X0 rfl X7 (o.at 2)) ?_;refine Zv (gW j) (X13 rfl rfl) ?_;refine Ze (Xn rfl j rfl)<|Za rfl ?_;refine Zn fun a l=>?_;exact ⟨l.sub ⟨X1 rfl (by first|rfl|(simp only [d,i,f,j,bs];done)|simp [d,i,f,j]),trivial⟩,rfl⟩
   refine Zp (gP j) ?_;refine Zp (gP j) ?_;refine Zp (gP j) ?_;refine Ze (Xj rfl j rfl)<|Za rfl ?_;refine Zn fun a l=>?_;exact ⟨l.sub ⟨X1 rfl (by first|rfl|(simp only [d,i,f,j,bs];done)|simp [d,i,f,j]),trivial⟩,rfl⟩
  refine Zp (gP f) ?_;refine Zp (gP f) ?_;refine Zp (gP f) ?_;refine Ze (Xj rfl f rfl)<|Zm rfl<|Zp (gP rfl) ?_;refine Zp (gP rfl) ?_;refine Zp (gP rfl) ?_;refine Ze (Xj rfl rfl rfl)<|Za rfl ?_;refine Zn fun a l=>?_;exact ⟨l.sub ⟨X1 rfl (by first|rfl|(simp only [d,i,f,bs];done)|simp [d,i,f]),trivial⟩,rfl⟩
 rintro a _ ⟨l,rfl⟩;refine aB _ _ ?_
 refine wp_ret (X2 l (Xv l rfl rfl) ?_)
 exact ⟨by rw [q],hW⟩
theorem F53(t:World)(c:Cx)(Ac:Option Addr)(cc:Nat)(y:Rd t t.heap.size 115 encG Ac c.gs) : Ret Tryz.prog 46 [.agg #[vi c.n,.slice Ac c.gs.length cc]] t (fun v w=>v=.bool (cOk c)∧Below t.heap.size t w):=by
 refine enter Tryz.func46 rfl 28 rfl rfl ?_;intro a d
 have j:=bz t
 refine Zs d fun _ aR=>?_;refine Zf (X0i (zs:=[vi c.n,.slice Ac c.gs.length cc]) rfl rfl) ?_;rintro _ w1 ⟨b3,rfl,aS,hE,f⟩;have aZ:=Nat.le_trans j.size aS;have j:=btr j hE;refine Za rfl<|ZX aR fun a d _ aT=>?_;refine wp_seq_k fun _ aU=>?_;refine X0o (fun a w=>Fr a 28 [(1,.pointer (some ⟨b3,0,none⟩)),(14,.bool ((!(inR c.n 1 5))||(decide (400<(c.gs.length:Int)))))]∧w1=w) ?_ ?_
 ·refine Zr d<|Ze (Vd rfl X1u 0)<|Ze (X0 rfl X7 (f.at 0))<|Zf (Vc (F85 _ c.n 1 5) X40) ?_;rintro _ _ ⟨rfl,rfl⟩;refine Ze (X0z rfl)<|Zm rfl ?_
  refine Zg 9 rfl (fun e=>?_) (fun e=>?_)
  ·refine Zp (gP e) ?_;refine Zp (gP e) ?_;refine Zp (gP e) ?_;refine Zp (gP e) ?_;refine Ze (Xn rfl e rfl) ?_;refine Zn fun a d=>?_;exact ⟨d.sub ⟨rfl,X1 rfl (by first|rfl|(simp only [e,bs];done)|simp [e]),trivial⟩,rfl⟩
  refine Zv (gW e) (Vd rfl X0v 1) ?_;refine Zv (gW e) (X0 rfl X15 (f.at 1)) ?_;refine Zv (gW e) (X0x rfl Xf) ?_;refine Zv (gW e) (X3a rfl rfl) ?_;refine Ze (Xj rfl e rfl) ?_;refine Zn fun a d=>?_;exact ⟨d.sub ⟨rfl,X1 rfl (by first|rfl|(simp only [e,bs];done)|simp [e]),trivial⟩,rfl⟩
 rintro a _ ⟨d,rfl⟩;refine aU _ _ ?_
 refine Xk d rfl (fun p=>?_) (fun p=>?_)
 ·have aF:=p
  have hn:(inR c.n 1 5&&decide ((c.gs.length:Int)≤400))=false:=by revert p;cases inR c.n 1 5<;>simp
  refine Zs d fun _ aW=>?_;refine Za rfl<|Zt aW fun a d=>?_;refine wp_ret<|X3<|X2 d (Xv d rfl rfl) ?_;exact ⟨by rw [cOk,hn];rfl,j⟩
 have aF:=p
 have hy:(inR c.n 1 5&&decide ((c.gs.length:Int)≤400))=true:=by revert p;cases inR c.n 1 5<;>simp
 have aG:=(Bool.and_eq_true _ _▸hy:inR c.n 1 5=true∧decide ((c.gs.length:Int)≤400)=true);have hn:=X03.1 aG.1;have b0:=of_decide_eq_true aG.2;refine wp_skip<|aT _ _<|wp_seq_k fun _ aX=>?_;refine Zs d fun _ aH=>?_;refine Ze (Vd rfl X0v 1)<|Ze (X0 rfl X15 (f.at 1))<|Ze (X0x rfl Xf)<|Zm rfl<|Zt aH fun a d=>?_;refine wp_block<|X0b (σ:=Nat) (fun (k:Nat) (a:Act) (w:World)=>Fr a 28 [(1,.pointer (some ⟨b3,0,none⟩)),(16,.slice Ac c.gs.length cc),(17,vi (c.gs.length:Int)),(18,vi (k:Int))]∧(k≤c.gs.length)∧((c.gs.take k).all (fun x=>gOk c.n x)=true)∧Blk w b3 28 [vi c.n,.slice Ac c.gs.length cc]∧Below t.heap.size t w) (fun (k:Nat)=>c.gs.length+1-k) 0 ?_ ?_
 ·exact ⟨d.sb,(Nat.zero_le _),(by simp),f,j⟩
 rintro k a w2 ⟨d,hk,z,f,j⟩;refine Zs d fun _ aI=>?_;refine Ze (X10 rfl rfl)<|ZX aI fun a d _ aJ=>?_
 refine Xk d rfl (fun g=>?_) (fun g=>?_)
 ·have aA:=g;have g:=of_decide_eq_true g
  obtain ⟨i,q⟩:=Xi (l:=c.gs) (k:=k) (by omega)
  refine wp_skip<|aJ _ _<|wp_seq_k fun _ aK=>?_;refine wp_block<|Zs d fun _ aL=>?_;refine Zi (k:=k) (u:=i) (enc:=encG) (l:=c.gs) trivial rfl rfl Xf X0p Xb (y.below' j) q rfl ?_;intro b1 aB;refine Ze (X07 (l:=[vi i.k,vi i.a,vi i.b]) rfl X0g aB rfl)<|Zf (X8 (zs:=[vi 0,vi 0,vi 0]) X2i rfl) ?_;rintro _ w3 ⟨b2,rfl,h,hE,o⟩;have aC:=Nat.le_trans j.size h;have aM:=(y.below' j).away h;have f:=f.below hE;have j:=btr j hE;refine Zo (Vw [vi i.k,vi i.a,vi i.b] X0p o) ?_;rintro _ w4 ⟨ho,hb⟩;have aN:=o;have f:=f.only ho (Blk.ne f aN rfl);have j:=Below.only j ho aC;have o:=hb;refine Zx aL fun a d _ aO=>?_;refine Ze (Vd rfl X1u 0)<|Ze (X0 rfl X7 (f.at 0))<|Ze (Vn X0g o)<|Zf (Vc (Xvz _ c.n i hn) Xn1) ?_;rintro _ w5 ⟨rfl,hE⟩;have f:=f.below hE;have j:=btr j hE;refine Ze (X0z rfl)<|Zt aO fun a d=>?_
  refine Xk d rfl (fun m=>?_) (fun m=>?_)
  ·have aD:=m
   have aE:(c.gs.any fun x=>!gOk c.n x)=true:=X3g q m
   refine Zs d fun _ aP=>?_;refine Za rfl<|Zt aP fun a d=>?_;refine wp_ret<|Xr<|X3<|X3 ?_;refine Xr<|X3<|X2 d (Xv d rfl rfl) ?_;exact ⟨by rw [cOk,hy,aE];rfl,j⟩
  have aD:=m
  have aY:gOk c.n i=true:=by revert m;cases gOk c.n i<;>simp
  refine wp_skip<|Xt<|aK _ _<|Zr d ?_;refine Ze (X06 rfl rfl (by omega) (by omega))<|Zm rfl ?_;refine Zn fun a d=>?_;refine Xp ?_;exact ⟨k+1,⟨d.sb,(by omega),(X28 z q aY),f,j⟩,(by omega)⟩
 have aA:=g;have g:=of_decide_eq_false g;refine wp_exit<|Xl<|Xl<|X0a ?_;refine aX _ _<|Zs d fun _ aQ=>?_;refine Za rfl<|Zt aQ fun a d=>?_
 refine wp_ret (X2 d (Xv d rfl rfl) ?_)
 have aE:(c.gs.any fun x=>!gOk c.n x)=false:=X2j (by simpa using X1z z (by omega))
 exact ⟨by rw [cOk,hy,aE];rfl,j⟩
theorem Xyp(w0:World)(x:Gt)(y:Gt) : Ret Tryz.prog 72 [.agg #[vi x.k,vi x.a,vi x.b],.agg #[vi y.k,vi y.a,vi y.b]] w0 (fun v w=>v=.bool (decide (x=y))∧Below w0.heap.size w0 w):=by
 refine enter Tryz.func72 rfl 20 rfl rfl ?_;intro a c
 have j:=bz w0
 refine Zs c fun _ aK=>?_;refine Zf (X0i (zs:=[vi x.k,vi x.a,vi x.b]) rfl rfl) ?_;rintro _ w1 ⟨b2,rfl,aL,hE,f⟩;have aS:=Nat.le_trans j.size aL;have j:=btr j hE;refine Zf (X0i (zs:=[vi y.k,vi y.a,vi y.b]) rfl rfl) ?_;rintro _ w2 ⟨b3,rfl,aM,hE,aA⟩
 have aJ:b2≠b3:=by have:=f.lt;omega
 have aT:=Nat.le_trans j.size aM;have f:=f.below hE;have j:=btr j hE;refine Za rfl<|ZX aK fun a c _ aN=>?_;refine Zs c fun _ aO=>?_;refine Ze (Vd rfl X0n 0)<|Ze (X0 rfl X7 (f.at 0))<|Ze (Vd rfl X0n 0)<|Ze (X0 rfl X7 (aA.at 0))<|Ze (X2h rfl rfl) ?_;refine Zt aO fun a c=>?_
 refine Xk c rfl (fun g=>?_) (fun g=>?_)
 ·have aD:=g
  have i:¬ x=y:=by rintro rfl;simp at g
  refine Zs c fun _ aP=>?_;refine Za rfl<|Zt aP fun a c=>?_;refine wp_ret<|X3<|X2 c (Xv c rfl rfl) ?_;exact ⟨by simp [i],j⟩
 have aD:=g
 have e1:x.k=y.k:=by simpa using g
 refine wp_skip<|aN _ _<|wp_seq_k fun _ aQ=>?_;refine Zs c fun _ aR=>?_;refine Ze (Vd rfl X0f 1)<|Ze (X0 rfl X7 (f.at 1))<|Ze (Vd rfl X0f 1)<|Ze (X0 rfl X7 (aA.at 1))<|Ze (X2h rfl rfl) ?_;refine Zt aR fun a c=>?_
 refine Xk c rfl (fun d=>?_) (fun d=>?_)
 ·have aB:=d
  have i:¬ x=y:=by rintro rfl;simp at d
  refine Zs c fun _ aE=>?_;refine Za rfl<|Zt aE fun a c=>?_;refine wp_ret<|X3<|X2 c (Xv c rfl rfl) ?_;exact ⟨by simp [i],j⟩
 have aB:=d
 have e2:x.a=y.a:=by simpa using d
 refine wp_skip<|aQ _ _<|wp_seq_k fun _ aF=>?_;refine Zs c fun _ aG=>?_;refine Ze (Vd rfl X0s 2)<|Ze (X0 rfl X7 (f.at 2))<|Ze (Vd rfl X0s 2)<|Ze (X0 rfl X7 (aA.at 2))<|Ze (X2h rfl rfl) ?_;refine Zt aG fun a c=>?_
 refine Xk c rfl (fun e=>?_) (fun e=>?_)
 ·have aC:=e
  have i:¬ x=y:=by rintro rfl;simp at e
  refine Zs c fun _ aH=>?_;refine Za rfl<|Zt aH fun a c=>?_;refine wp_ret<|X3<|X2 c (Xv c rfl rfl) ?_;exact ⟨by simp [i],j⟩
 have aC:=e
 have e3:x.b=y.b:=by simpa using e
 refine wp_skip<|aF _ _<|Zs c fun _ aI=>?_;refine Za rfl<|Zt aI fun a c=>?_
 refine wp_ret (X2 c (Xv c rfl rfl) ?_)
 have he:x=y:=by cases x;cases y;simp_all
 exact ⟨by simp [he],j⟩
theorem F52(n:World)(Ap:Option Addr)(cp:Nat)(p:List Gt)(aF:Rd n n.heap.size 115 encG Ap p)(Aq:Option Addr)(cq:Nat)(q:List Gt)(aG:Rd n n.heap.size 115 encG Aq q)(aW:p.length≤2305843009213693951) : Ret Tryz.prog 40 [.slice Ap p.length cp,.slice Aq q.length cq] n (fun v w=>v=.bool (decide (p=q))∧Below n.heap.size n w):=by
 refine enter Tryz.func40 rfl 27 rfl rfl ?_;intro a c
 have i:=bz n
 refine Zs c fun _ aO=>?_;refine Za rfl<|ZX aO fun a c _ aP=>?_;refine Zs c fun _ aQ=>?_;refine Zm rfl<|Ze (X0x rfl Xf)<|Zm rfl<|Ze (X0x rfl Xf)<|Ze (X2h rfl rfl) ?_;refine Zt aQ fun a c=>?_
 refine Xk c rfl (fun f=>?_) (fun f=>?_)
 ·have aH:=f
  have aA:¬ p=q:=by intro h9;rw [h9] at f;simp at f
  refine Zs c fun _ aR=>?_;refine Za rfl<|Zt aR fun a c=>?_;refine wp_ret<|X3<|X2 c (Xv c rfl rfl) ?_;exact ⟨by simp [aA],i⟩
 have aH:=f
 have aX:p.length=q.length:=by have h9:(p.length:Int)=q.length:=(by simpa using f);omega
 refine wp_skip<|aP _ _<|wp_seq_k fun _ aS=>?_;refine Zs c fun _ aT=>?_;refine Za rfl<|Zt aT fun a c=>?_;refine wp_block<|X0b (σ:=Nat) (fun (k:Nat) (a:Act) (w:World)=>Fr a 27 [(0,.slice Ap p.length cp),(1,.slice Aq q.length cq),(5,vi (k:Int))]∧(k≤p.length)∧(p.take k=q.take k)∧Below n.heap.size n w) (fun (k:Nat)=>p.length-k) 0 ?_ ?_
 ·exact ⟨c.sb,(Nat.zero_le _),(by simp),i⟩
 rintro k a w1 ⟨c,hk,j,i⟩;refine wp_seq_k fun _ aI=>?_;refine Zs c fun _ aJ=>?_;refine Zm rfl<|Zm rfl<|Ze (X0x rfl Xf)<|Ze (X10 rfl rfl)<|Zt aJ fun a c=>?_
 refine Xk c rfl (fun d=>?_) (fun d=>?_)
 ·have aB:=d;have d:=of_decide_eq_true d
  obtain ⟨g,m⟩:=Xi (l:=p) (k:=k) (by omega)
  obtain ⟨v9,o⟩:=Xi (l:=q) (k:=k) (by omega)
  refine wp_skip<|aI _ _<|wp_seq_k fun _ aK=>?_;refine wp_block<|wp_seq_k fun _ aL=>?_;refine X0h none (fun _=>false) mixed ?_;intro w2 hE;have i:=btr i hE;refine Yb c<|Yo 0 rfl (fun _=>Xa rfl)<|Yo 1 rfl (fun _=>Xa rfl)<|Yi (k:=k) (u:=g) (enc:=encG) (l:=p) 2 rfl trivial rfl rfl Xf X0p Xb (aF.below' i) m rfl ?_;intro aY aC;refine Ye 3 rfl (X07 (l:=[vi g.k,vi g.a,vi g.b]) rfl X0g aC rfl)<|Yo 4 rfl (fun _=>Xa rfl)<|Yo 5 rfl (fun _=>Xa rfl)<|Yi (k:=k) (u:=v9) (enc:=encG) (l:=q) 6 rfl trivial rfl rfl Xf X0p Xb (aG.below' i) o rfl ?_;intro aZ aD;refine Ye 7 rfl (X07 (l:=[vi v9.k,vi v9.a,vi v9.b]) rfl X0g aD rfl)<|Y1 8 ?_;refine Yk rfl trivial (Vc (Xyp _ g v9) Xui) (fun _ _ ⟨_,hE⟩=>hE) ?_;rintro _ w3 ⟨rfl,hE⟩;have i:=btr i hE;refine Yo 9 rfl (fun _=>X0z rfl) ?_;refine Yd fun a c=>?_;refine aL _ _ ?_
  refine Xk c rfl (fun e=>?_) (fun e=>?_)
  ·have aE:=e
   have aA:¬ p=q:=by rintro rfl;rw [m] at o;injection o with e9;revert e;simp [e9]
   refine Zs c fun _ aM=>?_;refine Za rfl<|Zt aM fun a c=>?_;refine wp_ret<|Xr<|X3<|X3 ?_;refine Xr<|X3<|X2 c (Xv c rfl rfl) ?_;exact ⟨by simp [aA],i⟩
  have aE:=e
  have aU:g=v9:=by revert e;simp
  refine wp_skip<|Xt<|aK _ _<|Zr c ?_;refine Zm rfl<|Ze (X06 rfl rfl (by omega) (by omega))<|Za rfl ?_;refine Zn fun a c=>?_;refine Xp ?_;exact ⟨k+1,⟨c.sb,(by omega),(Xgv j m o aU),i⟩,(by omega)⟩
 have aB:=d;have d:=of_decide_eq_false d;refine wp_exit<|Xl<|Xl<|X0a ?_;refine aS _ _<|Zs c fun _ aN=>?_;refine Za rfl<|Zt aN fun a c=>?_
 refine wp_ret (X2 c (Xv c rfl rfl) ?_)
 have he:p=q:=by rw [List.take_of_length_le (by omega),List.take_of_length_le (by omega)] at j;exact j
 exact ⟨by simp [he],i⟩
theorem Xzi(w0:World)(n:Int)(g:Gt)(s0:Int)(hg:gOk n g=true)(aF:9≤g.k∧g.k≤11) : Ret Tryz.prog 128 [vi n,.agg #[vi g.k,vi g.a,vi g.b],vi s0] w0 (fun v w=>v=vi (toS n g s0)∧Below w0.heap.size w0 w):=by
 have aB:=X1f hg
 have aO:=aB.2.2.1 (by omega)
 have aP:=aB.2.2.2 aF;refine enter Tryz.func128 rfl 51 rfl rfl ?_;intro a d
 have m:=bz w0
 refine Zs d fun _ aG=>?_;refine Zf (X0i (zs:=[vi g.k,vi g.a,vi g.b]) rfl rfl) ?_;rintro _ w1 ⟨b2,rfl,aH,hE,e⟩;have aN:=Nat.le_trans m.size aH;have m:=btr m hE;refine Za rfl<|ZX aG fun a d _ aI=>?_;refine X0h none (fun _=>false) mixed ?_;intro w2 hE;have e:=e.below hE;have m:=btr m hE;refine Yb d<|Yo 0 rfl (fun _=>Xa rfl)<|Yo 1 rfl (fun _=>Xa rfl)<|Yo 2 rfl (fun _=>Vd rfl X0f 1)<|Ye 3 rfl (X0 rfl X7 (e.at 1))<|Yo 5 rfl (fun _=>Xa rfl) ?_;refine Yo 6 rfl (fun _=>Xa rfl)<|Yo 7 rfl (fun _=>Vd rfl X0s 2)<|Ye 8 rfl (X0 rfl X7 (e.at 2))<|Y1 4 ?_;refine Yz rfl trivial (Vc (Xjh _ n s0 g.a (by omega) (by omega) (by omega)) X6n) ?_;refine Y1 9<|Yz rfl trivial (Vc (Xjh _ n s0 g.b (by omega) (by omega) (by omega)) X6n) ?_;refine Yo 10 rfl (fun _=>X18 rfl)<|Yo 11 rfl (fun _=>X18 rfl) ?_;refine Yd fun a d=>?_;refine aI _ _<|wp_seq_k fun _ aJ=>?_;refine wp_block<|wp_seq_k fun _ aK=>?_;refine X0o (fun a w=>Fr a 51 [(0,vi n),(2,vi s0),(4,.pointer (some ⟨b2,0,none⟩)),(7,vi (bitF n s0 g.a)),(8,vi (bitF n s0 g.b)),(19,.bool ((g.k==9)&&((bitF n s0 g.a)==1)))]∧w2=w) ?_ ?_
 ·refine Zr d<|Ze (Vd rfl X0n 0)<|Ze (X0 rfl X7 (e.at 0))<|Ze (X13 rfl rfl)<|Zm rfl ?_
  refine Zg 23 rfl (fun f=>?_) (fun f=>?_)
  ·refine Zv (gW f) (Xa rfl) ?_;refine Zv (gW f) (X13 rfl rfl) ?_;refine Ze (Xn rfl f rfl)<|Za rfl ?_;refine Zn fun a d=>?_;exact ⟨d.sub ⟨rfl,rfl,rfl,rfl,rfl,X1 rfl (by first|rfl|(simp only [f,bs];done)|simp [f]),trivial⟩,rfl⟩
  refine Zp (gP f) ?_;refine Zp (gP f) ?_;refine Ze (Xj rfl f rfl)<|Za rfl ?_;refine Zn fun a d=>?_;exact ⟨d.sub ⟨rfl,rfl,rfl,rfl,rfl,X1 rfl (by first|rfl|(simp only [f,bs];done)|simp [f]),trivial⟩,rfl⟩
 rintro a _ ⟨d,rfl⟩;refine aK _ _ ?_
 refine Xk d rfl (fun l=>?_) (fun l=>?_)
 ·have i:=l
  have h9:g.k=9∧bitF n s0 g.a=1:=by simpa using l
  refine Zs d fun _ aL=>?_;refine Zm rfl<|Zm rfl<|Ze (Vd rfl X0s 2)<|Ze (X0 rfl X7 (e.at 2))<|Zf (Vc (Xog _ n s0 g.b (by omega) (by omega) (by omega)) Xb7) ?_;rintro _ _ ⟨rfl,rfl⟩;refine Za rfl<|Zt aL fun a d=>?_;refine wp_ret<|Xr<|X3<|X2 d (Xv d rfl rfl) ?_;exact ⟨by rw [toS,if_pos h9.1,if_pos h9.2],m⟩
 have i:=l
 have h9:g.k=9→¬ bitF n s0 g.a=1:=by simpa using l
 refine wp_seq_k fun _ aM=>?_;refine X0o (fun a w=>Fr a 51 [(0,vi n),(2,vi s0),(4,.pointer (some ⟨b2,0,none⟩)),(32,.bool ((g.k==11)&&((bitF n s0 g.a) != (bitF n s0 g.b))))]∧w2=w) ?_ ?_
 ·refine Zr d<|Ze (Vd rfl X0n 0)<|Ze (X0 rfl X7 (e.at 0))<|Ze (X13 rfl rfl)<|Zm rfl ?_
  refine Zg 36 rfl (fun c=>?_) (fun c=>?_)
  ·refine Zv (gW c) (Xa rfl) ?_;refine Zv (gW c) (Xa rfl) ?_;refine Zv (gW c) (X2h rfl rfl) ?_;refine Ze (Xn rfl c rfl)<|Za rfl ?_;refine Zn fun a d=>?_;exact ⟨d.sub ⟨rfl,rfl,rfl,X1 rfl (by first|rfl|(simp only [i,c,bs];done)|simp [i,c]),trivial⟩,rfl⟩
  refine Zp (gP c) ?_;refine Zp (gP c) ?_;refine Zp (gP c) ?_;refine Ze (Xj rfl c rfl)<|Za rfl ?_;refine Zn fun a d=>?_;exact ⟨d.sub ⟨rfl,rfl,rfl,X1 rfl (by first|rfl|(simp only [i,c,bs];done)|simp [i,c]),trivial⟩,rfl⟩
 rintro a _ ⟨d,rfl⟩;refine aM _ _ ?_
 refine Xk d rfl (fun j=>?_) (fun j=>?_)
 ·have aA:=j
  have o:g.k=11∧¬ bitF n s0 g.a=bitF n s0 g.b:=by simpa using j
  refine wp_seq_k fun _ aC=>?_;refine X0h none (fun _=>false) mixed ?_;intro w3 hE;have e:=e.below hE;have m:=btr m hE;refine Yb d<|Yo 0 rfl (fun _=>Xa rfl)<|Yo 1 rfl (fun _=>Xa rfl)<|Yo 2 rfl (fun _=>Xa rfl)<|Yo 3 rfl (fun _=>Vd rfl X0f 1)<|Ye 4 rfl (X0 rfl X7 (e.at 1)) ?_;refine Yo 6 rfl (fun _=>Vd rfl X0s 2)<|Ye 7 rfl (X0 rfl X7 (e.at 2))<|Y1 5 ?_;refine Yz rfl trivial (Vc (Xog _ n s0 g.a (by omega) (by omega) (by omega)) Xb7) ?_;refine Y1 8<|Yz rfl trivial (Vc (Xog _ n (flipF n s0 g.a) g.b (by omega) (by omega) (by omega)) Xb7) ?_;refine Yo 9 rfl (fun _=>X18 rfl) ?_;refine Yd fun a d=>?_;refine aC _ _<|wp_ret<|Xr<|X3 ?_;refine X2 d (Xv d rfl rfl) ?_;exact ⟨by rw [toS,if_neg (by omega),if_pos o.1,if_pos o.2],m⟩
 have aA:=j
 have o:g.k=11→bitF n s0 g.a=bitF n s0 g.b:=by simpa using j
 refine wp_skip<|Xt<|aJ _ _<|Zs d fun _ aD=>?_;refine Zm rfl<|Za rfl<|Zt aD fun a d=>?_
 refine wp_ret (X2 d (Xv d rfl rfl) ?_)
 have aE:toS n g s0=s0:=by unfold toS;split;rw [if_neg (h9 (by assumption))];split;rw [if_neg (by simpa using o (by assumption))];rfl
 exact ⟨by rw [aE],m⟩
def entI(p:Int×Int×Nat) : MapEntry:={ key:=.int .i64 p.1,val:=.int .i64 p.2.1,born:=p.2.2 }
def MapI(w:World)(b:Nat)(l:List (Int×Int×Nat))(clock:Nat) : Prop:=w.heap[b]? = some (.map (l.map entI).toArray clock)
theorem X68{k:IntKind}{x:Int} : ∀ (l:List (Int×Int×Nat)) (i:Nat),(l.all fun p=>p.1 != x)=true→Instr.findNow (.int k) (.int .i64 x) (l.map entI) i=some none
 | [],_,_=>rfl
 | p::l,i,h=>by
  simp only [List.all_cons,Bool.and_eq_true,bne_iff_ne] at h
  have h1:(x==p.1)=false:=by simpa using Ne.symm h.1
  simp only [List.map_cons,Instr.findNow,entI,Instr.sameNow,if_true,h1]
  exact X68 l (i+1) h.2
theorem X67{k:IntKind}{x v:Int} : ∀ (l:List (Int×Int×Nat)) (i:Nat),(l.find? fun p=>p.1==x).map (fun p=>p.2.1)=some v→∃ j,Instr.findNow (.int k) (.int .i64 x) (l.map entI) i=some (some (j,.int .i64 v))
 | [],_,h=>by cases h
 | p::l,i,h=>by
  by_cases hx:p.1=x
  ·refine ⟨i,?_⟩
   have h1:(p.1==x)=true:=by simpa using hx
   simp only [List.find?_cons,h1,Option.map_some,Option.some.injEq] at h
   have h2:(x==p.1)=true:=by simpa using hx.symm
   simp only [List.map_cons,Instr.findNow,entI,Instr.sameNow,if_true,h2,h]
  ·have h1:(p.1==x)=false:=by simpa using hx
   simp only [List.find?_cons,h1] at h
   obtain ⟨j,hj⟩:=X67 (k:=k) l (i+1) h
   refine ⟨j,?_⟩
   have h2:(x==p.1)=false:=by simpa using fun e=>hx e.symm
   simp only [List.map_cons,Instr.findNow,entI,Instr.sameNow,if_true,h2]
   exact hj
theorem MapI.below{w w':World}{b clock:Nat}{l:List (Int×Int×Nat)}(h:MapI w b l clock)(hb:Below w.heap.size w w') : MapI w' b l clock:=by
 have hlt:b<w.heap.size:=by
  rcases Nat.lt_or_ge b w.heap.size with h'|h'
  ·exact h'
  ·simp [MapI,Array.getElem?_eq_none h'] at h
 exact (hb.block b hlt).trans h
theorem MapI.only{w w':World}{b b' clock:Nat}{l:List (Int×Int×Nat)}(h:MapI w b l clock)(ho:Only b' w w')(hne:b≠b') : MapI w' b l clock:=(ho.block b hne).trans h
theorem MapI.ne{w:World}{b b' clock:Nat}{l:List (Int×Int×Nat)}{T:TypeId}{cs:List Value}(h:MapI w b l clock)(hb:Blk w b' T cs) : b≠b':=by
 rintro rfl
 unfold MapI at h
 unfold Blk at hb
 rw [h] at hb
 cases hb
section
variable {P : Program} {a : Act} {w : World} {n : Nat} {e : Env} {ty : TypeId} {pos : String} {af : Array Edge} {g : Option (Nat × Bool)} {d : Option Tmp}
theorem X8t{T:TypeId} : Ef P ⟨d,.makeMap T none,ty,pos,af,g⟩ a w (fun v w'=>∃ b,v=.map (some b)∧w.heap.size≤b∧Below w.heap.size w w'∧MapI w' b [] 0):=by
 refine (Ef.of_run (v:=.map (some w.heap.size)) (w':=w.alloc (.map #[] 0)) ?_).mono fun v w' ⟨e1,e2⟩=>?_
 ·rfl
 ·subst e1;subst e2
  exact ⟨_,rfl,Nat.le_refl _,(Below.refl _ _).alloc (Nat.le_refl _) _,heap_alloc_new w _⟩
theorem Xk5{n:Nat}{e:List (Nat×Value)}{T:TypeId} : EfW P ⟨d,.makeMap T none,ty,pos,af,g⟩ n e w (fun v w'=>∃ b,v=.map (some b)∧w.heap.size≤b∧Below w.heap.size w w'∧MapI w' b [] 0):=fun a _=>X8t
theorem Xjb{T K E:TypeId}{m x y:Operand}{b clock:Nat}{l:List (Int×Int×Nat)}{i j:Int}(hf:Fr a n e)(hm:ev e m=some (.map (some b)))(hx:ev e x=some (.int .i64 i))(hy:ev e y=some (.int .i64 j))(hT:P.underlying T=some (.map K E))(hK:P.underlying K=some (.int .i64))(hM:MapI w b l clock)(hnew:(l.all fun p=>p.1 != i)=true) :
  Ef P ⟨d,.insert T m x y,ty,pos,af,g⟩ a w (fun _ w'=>Only b w w'∧MapI w' b (l++[(i,j,clock)]) (clock+1)):=by
 have hfind:=X68 (k:=.i64) l 0 hnew
 have hck:(Instr.checkKey false 10000 K (.int .i64 i)).run P w=.ok () w:=MapKept.run_checkKey hK (show MapKept.IsKey (.int .i64) (.int .i64 i) from rfl) false 9999
 have hlt:b<w.heap.size:=by
  rcases Nat.lt_or_ge b w.heap.size with h'|h'
  ·exact h'
  ·simp [MapI,Array.getElem?_eq_none h'] at hM
 unfold MapI at hM
 refine (Ef.of_skip (w':={ w with heap:=w.heap.setIfInBounds b (.map ((l++[(i,j,clock)]).map entI).toArray (clock+1)) }) ?_).mono fun v w' ⟨_,e2⟩=>?_
 ·simp [execOp,Instr.mapUpdate,hf.ev hm,hf.ev hx,hf.ev hy,X0t hT,getObj,hM,hck,Instr.findKey,X0t hK,hfind,setObj,Sem.run,entI]
 ·subst e2
  refine ⟨⟨rfl,rfl,rfl,by simp,fun k hk=>?_⟩,?_⟩
  ·show (w.heap.setIfInBounds b _)[k]? = _
   rw [Array.getElem?_setIfInBounds_ne (Ne.symm hk)]
  ·show (w.heap.setIfInBounds b _)[b]? = _
   simp [hlt]
theorem X5u{T K E:TypeId}{m x y:Operand}{b clock:Nat}{l:List (Int×Int×Nat)}{i j:Int}(hm:ev e m=some (.map (some b)))(hx:ev e x=some (.int .i64 i))(hy:ev e y=some (.int .i64 j))(hT:P.underlying T=some (.map K E))(hK:P.underlying K=some (.int .i64))(hM:MapI w b l clock)(hnew:(l.all fun p=>p.1 != i)=true) : EfW P ⟨d,.insert T m x y,ty,pos,af,g⟩ n e w (fun _ w'=>Only b w w'∧MapI w' b (l++[(i,j,clock)]) (clock+1)):=fun a hf=>Xjb hf hm hx hy hT hK hM hnew
theorem Xjr{T K E:TypeId}{m x:Operand}{b clock:Nat}{l:List (Int×Int×Nat)}{i v:Int}(hf:Fr a n e)(hm:ev e m=some (.map (some b)))(hx:ev e x=some (.int .i64 i))(hT:P.underlying T=some (.map K E))(hK:P.underlying K=some (.int .i64))(hM:MapI w b l clock)(hv:(l.find? fun p=>p.1==i).map (fun p=>p.2.1)=some v) :
  Ev P ⟨d,.lookup T m x false,ty,pos,af,g⟩ a w (.int .i64 v):=fun w' hw=>by
 obtain ⟨j,hj⟩:=X67 (k:=.i64) l 0 hv
 have hM':=hM.below hw
 have hck:∀ em,(Instr.checkKey em 10000 K (.int .i64 i)).run P w'=.ok () w':=fun em=>MapKept.run_checkKey hK (show MapKept.IsKey (.int .i64) (.int .i64 i) from rfl) em 9999
 unfold MapI at hM'
 simp [execOp,Instr.lookup,hf.ev hm,hf.ev hx,X0t hT,getObj,Sem.run,hM',hck,Instr.findKey,X0t hK,hj]
theorem Xoa{T K E:TypeId}{m x:Operand}{b clock:Nat}{l:List (Int×Int×Nat)}{i v:Int}(hm:ev e m=some (.map (some b)))(hx:ev e x=some (.int .i64 i))(hT:P.underlying T=some (.map K E))(hK:P.underlying K=some (.int .i64))(hM:MapI w b l clock)(hv:(l.find? fun p=>p.1==i).map (fun p=>p.2.1)=some v) : EvW P ⟨d,.lookup T m x false,ty,pos,af,g⟩ n e w (.int .i64 v):=fun a hf=>Xjr hf hm hx hT hK hM hv
end
theorem Xyr(w0:World)(k:Int)(i:Int)(j:Int)(hk:1≤k∧k≤8)(hj:j=0∨j=1) : Ret Tryz.prog 132 [vi k,vi i,vi j] w0 (fun v w=>v=dV (entryI k i j)∧Below w0.heap.size w0 w):=by
 refine enter Tryz.func132 rfl 67 rfl rfl ?_;intro a f
 have m:=bz w0
 refine Zs f fun _ aR=>?_;refine Zf (X8 (zs:=[vi 0,vi 0,vi 0,vi 0,vi 0]) X1i rfl) ?_;rintro _ w1 ⟨b2,rfl,aS,E,e⟩;have D:=Nat.le_trans m.size aS;have m:=btr m E;refine Zx aR fun a f _ aT=>?_;refine Ze (Xg (ps:=[(0,vi 1)]) (cs:=[vi 1,vi 0,vi 0,vi 0]) rfl (fun _=>by first|rfl|kernel_rfl))<|Ze (Xg (ps:=[(0,.agg #[vi 1,vi 0,vi 0,vi 0]),(1,vi 1)]) (cs:=[vi 1,vi 0,vi 0,vi 0,vi 1]) rfl (fun _=>by first|rfl|kernel_rfl))<|Zf (X8 (zs:=[vi 0,vi 0,vi 0,vi 0,vi 0]) X1i rfl) ?_;rintro _ w2 ⟨b4,rfl,aU,E,n⟩
 have aQ:b2≠b4:=by have:=e.lt;omega
 have U:=Nat.le_trans m.size aU;have e:=e.below E;have m:=btr m E;refine Zo (Vw [vi 1,vi 0,vi 0,vi 0,vi 1] X01 n) ?_;rintro _ w3 ⟨p,G⟩;have C:=n;have e:=e.only p (by omega);have m:=Below.only m p U;have n:=G;refine Zx aT fun a f _ aW=>?_;refine Zf (Xk5) ?_;rintro _ w4 ⟨b6,rfl,aX,E,t⟩;have H:=Nat.le_trans m.size aX;have e:=e.below E;have n:=n.below E;have m:=btr m E;refine Zo (X5u (l:=[]) (clock:=0) rfl rfl rfl Tryz.underlying206 Tryz.underlying3 t rfl) ?_;rintro _ w5 ⟨p,q⟩;have e:=e.only p (Ne.symm (t.ne e));have n:=n.only p (Ne.symm (t.ne n));have m:=Below.only m p H
 have t:=q;clear q p;refine Zo (X5u (l:=[(4,4,0)]) (clock:=1) rfl rfl rfl Tryz.underlying206 Tryz.underlying3 t rfl) ?_;rintro _ w6 ⟨p,q⟩;have e:=e.only p (Ne.symm (t.ne e));have n:=n.only p (Ne.symm (t.ne n));have m:=Below.only m p H
 have t:=q;clear q p;refine Zo (X5u (l:=[(4,4,0),(5,2,1)]) (clock:=2) rfl rfl rfl Tryz.underlying206 Tryz.underlying3 t rfl) ?_;rintro _ w7 ⟨p,q⟩;have e:=e.only p (Ne.symm (t.ne e));have n:=n.only p (Ne.symm (t.ne n));have m:=Below.only m p H
 have t:=q;clear q p;refine Zo (X5u (l:=[(4,4,0),(5,2,1),(6,6,2)]) (clock:=3) rfl rfl rfl Tryz.underlying206 Tryz.underlying3 t rfl) ?_;rintro _ w8 ⟨p,q⟩;have e:=e.only p (Ne.symm (t.ne e));have n:=n.only p (Ne.symm (t.ne n));have m:=Below.only m p H
 have t:=q;clear q p;refine Zo (X5u (l:=[(4,4,0),(5,2,1),(6,6,2),(7,1,3)]) (clock:=4) rfl rfl rfl Tryz.underlying206 Tryz.underlying3 t rfl) ?_;rintro _ w9 ⟨p,q⟩;have e:=e.only p (Ne.symm (t.ne e));have n:=n.only p (Ne.symm (t.ne n));have m:=Below.only m p H
 have t:=q;clear q p;refine Zm rfl<|Za rfl<|ZX aW fun a f _ aY=>?_;refine wp_block<|Zs f fun _ aZ=>?_;refine Zm rfl<|Ze (X13 rfl rfl)<|Za rfl<|Zt aZ fun a f=>?_
 refine Xk f rfl (fun Q=>?_) (fun Q=>?_)
 ·have g:=Q
  have W:k=1:=by simpa using Q
  refine wp_seq_k fun _ aA=>?_;refine wp_seq_k fun _ aE=>?_;refine X0o (fun a w=>Fr a 67 [(6,.pointer (some ⟨b2,0,none⟩)),(7,.pointer (some ⟨b4,0,none⟩)),(21,.bool ((i==1)&&(j==1)))]∧w9=w) ?_ ?_
  ·refine Zr f<|Zm rfl<|Ze (X13 rfl rfl)<|Zm rfl ?_
   refine Zg 18 rfl (fun A=>?_) (fun A=>?_)
   ·refine Zv (gW A) (Xa rfl) ?_;refine Zv (gW A) (X13 rfl rfl) ?_;refine Ze (Xn rfl A rfl) ?_;refine Zn fun a f=>?_;exact ⟨f.sub ⟨rfl,rfl,X1 rfl (by first|rfl|(simp only [g,A,bs];done)|simp [g,A]),trivial⟩,rfl⟩
   refine Zp (gP A) ?_;refine Zp (gP A) ?_;refine Ze (Xj rfl A rfl) ?_;refine Zn fun a f=>?_;exact ⟨f.sub ⟨rfl,rfl,X1 rfl (by first|rfl|(simp only [g,A,bs];done)|simp [g,A]),trivial⟩,rfl⟩
  rintro a _ ⟨f,rfl⟩;refine aE _ _ ?_
  refine Xk f rfl (fun I=>?_) (fun I=>?_)
  ·have aB:=I
   have u:entryI k i j=⟨⟨-1,0,0,0⟩,1⟩:=by rw [entryI,if_pos W,if_pos (by simpa using I)]
   refine Zr f<|Ze (Vd rfl X1e 0)<|Ze (Vd rfl X0j 0)<|Zo (Vu (vs:=[vi (-1)]) (l':=[vi (-1),vi 0,vi 0,vi 0,vi 1]) rfl rfl X1j n) ?_;rintro _ b1 ⟨p,G⟩;have C:=n;have e:=e.only p (by omega);have m:=Below.only m p U;have n:=G;refine Zx aA fun a f _ aF=>?_;refine Ze (Vn Xm n)<|Zo (Vw [vi (-1),vi 0,vi 0,vi 0,vi 1] X01 e) ?_;rintro _ b3 ⟨p,G⟩;have C:=e;have m:=Below.only m p D;have e:=G;refine Zt aF fun a f=>?_;refine wp_ret<|Xr<|X3<|X2 f (Xv f rfl (ResV.cellN (l:=[vi (-1),vi 0,vi 0,vi 0,vi 1]) rfl Xm (e.at 0) rfl)) ?_;exact ⟨(by rw [u];try rfl),m⟩
  have aB:=I
  have u:entryI k i j=dHalf:=by rw [entryI,if_pos W,if_neg (by simpa using I)]
  refine wp_skip<|aA _ _<|Zs f fun _ aG=>?_;refine Ze (Vn Xm n)<|Zo (Vw [vi 1,vi 0,vi 0,vi 0,vi 1] X01 e) ?_;rintro _ b5 ⟨p,G⟩;have C:=e;have m:=Below.only m p D;have e:=G;refine Zt aG fun a f=>?_;refine wp_ret<|Xr<|X3<|X2 f (Xv f rfl (ResV.cellN (l:=[vi 1,vi 0,vi 0,vi 0,vi 1]) rfl Xm (e.at 0) rfl)) ?_;exact ⟨(by rw [u];try rfl),m⟩
 have g:=Q
 have W:¬ k=1:=by simpa using Q
 refine wp_seq_k fun _ aH=>?_;refine X0o (fun a w=>Fr a 67 [(0,vi k),(1,vi i),(2,vi j),(6,.pointer (some ⟨b2,0,none⟩)),(8,.map (some b6)),(25,.bool ((k==2)&&(i != j)))]∧w9=w) ?_ ?_
 ·refine Zr f<|Zm rfl<|Ze (X13 rfl rfl)<|Zm rfl ?_
  refine Zg 28 rfl (fun x=>?_) (fun x=>?_)
  ·refine Zv (gW x) (Xa rfl) ?_;refine Zv (gW x) (Xa rfl) ?_;refine Zv (gW x) (X2h rfl rfl) ?_;refine Ze (Xn rfl x rfl)<|Za rfl ?_;refine Zn fun a f=>?_;exact ⟨f.sub ⟨rfl,rfl,rfl,rfl,rfl,X1 rfl (by first|rfl|(simp only [g,x,bs];done)|simp [g,x]),trivial⟩,rfl⟩
  refine Zp (gP x) ?_;refine Zp (gP x) ?_;refine Zp (gP x) ?_;refine Ze (Xj rfl x rfl)<|Za rfl ?_;refine Zn fun a f=>?_;exact ⟨f.sub ⟨rfl,rfl,rfl,rfl,rfl,X1 rfl (by first|rfl|(simp only [g,x,bs];done)|simp [g,x]),trivial⟩,rfl⟩
 rintro a _ ⟨f,rfl⟩;refine aH _ _ ?_
 refine Xk f rfl (fun J=>?_) (fun J=>?_)
 ·have o:=J
  have u:entryI k i j=⟨⟨1,0,0,0⟩,0⟩:=by rw [entryI,if_neg W,if_pos (by simpa using J)]
  refine Zs f fun _ aI=>?_;refine Zf (Vc (Xta _ 1) Xf6) ?_;rintro _ b7 ⟨rfl,E⟩;have e:=e.below E;have m:=btr m E;refine Zo (Vw [vi ((⟨⟨1,0,0,0⟩,0⟩ : Dy).num.a),vi ((⟨⟨1,0,0,0⟩,0⟩ : Dy).num.b),vi ((⟨⟨1,0,0,0⟩,0⟩ : Dy).num.c),vi ((⟨⟨1,0,0,0⟩,0⟩ : Dy).num.d),vi ((⟨⟨1,0,0,0⟩,0⟩ : Dy).exp)] X01 e) ?_;rintro _ b8 ⟨p,G⟩;have C:=e;have m:=Below.only m p D;have e:=G;refine Zt aI fun a f=>?_;refine wp_ret<|Xr<|X3<|X2 f (Xv f rfl (ResV.cellN (l:=[vi ((⟨⟨1,0,0,0⟩,0⟩ : Dy).num.a),vi ((⟨⟨1,0,0,0⟩,0⟩ : Dy).num.b),vi ((⟨⟨1,0,0,0⟩,0⟩ : Dy).num.c),vi ((⟨⟨1,0,0,0⟩,0⟩ : Dy).num.d),vi ((⟨⟨1,0,0,0⟩,0⟩ : Dy).exp)]) rfl Xm (e.at 0) rfl)) ?_;exact ⟨(by rw [u];try rfl),m⟩
 have o:=J
 have e2:¬ (k=2∧i≠j):=by simpa using J
 refine wp_seq_k fun _ aJ=>?_;refine X0o (fun a w=>Fr a 67 [(0,vi k),(1,vi i),(2,vi j),(6,.pointer (some ⟨b2,0,none⟩)),(8,.map (some b6)),(34,.bool ((k==3)&&(i != j)))]∧w9=w) ?_ ?_
 ·refine Zr f<|Zm rfl<|Ze (X13 rfl rfl)<|Zm rfl ?_
  refine Zg 37 rfl (fun y=>?_) (fun y=>?_)
  ·refine Zv (gW y) (Xa rfl) ?_;refine Zv (gW y) (Xa rfl) ?_;refine Zv (gW y) (X2h rfl rfl) ?_;refine Ze (Xn rfl y rfl)<|Za rfl ?_;refine Zn fun a f=>?_;exact ⟨f.sub ⟨rfl,rfl,rfl,rfl,rfl,X1 rfl (by first|rfl|(simp only [g,o,y,bs];done)|simp [g,o,y]),trivial⟩,rfl⟩
  refine Zp (gP y) ?_;refine Zp (gP y) ?_;refine Zp (gP y) ?_;refine Ze (Xj rfl y rfl)<|Za rfl ?_;refine Zn fun a f=>?_;exact ⟨f.sub ⟨rfl,rfl,rfl,rfl,rfl,X1 rfl (by first|rfl|(simp only [g,o,y,bs];done)|simp [g,o,y]),trivial⟩,rfl⟩
 rintro a _ ⟨f,rfl⟩;refine aJ _ _ ?_
 refine Xk f rfl (fun L=>?_) (fun L=>?_)
 ·have B:=L
  have b0:k=3∧i≠j:=(by simpa using L)
  have u:entryI k i j=dPow (2+4*j):=by rw [entryI,if_neg W,if_neg e2,if_pos b0]
  refine Zs f fun _ aK=>?_;refine Zm rfl<|Ze (Xcp rfl rfl (by omega) (by omega))<|Ze (X06 rfl rfl (by omega) (by omega))<|Zf (Vc (Xcf _ (2+(4*j)) (X03.2 ⟨by omega,by omega⟩)) X47) ?_;rintro _ b9 ⟨rfl,E⟩;have e:=e.below E;have m:=btr m E;refine Zo (Vw [vi ((dPow (2+(4*j))).num.a),vi ((dPow (2+(4*j))).num.b),vi ((dPow (2+(4*j))).num.c),vi ((dPow (2+(4*j))).num.d),vi ((dPow (2+(4*j))).exp)] X01 e) ?_;rintro _ bC ⟨p,G⟩;have C:=e;have m:=Below.only m p D;have e:=G;refine Zt aK fun a f=>?_;refine wp_ret<|Xr<|X3<|X2 f (Xv f rfl (ResV.cellN (l:=[vi ((dPow (2+(4*j))).num.a),vi ((dPow (2+(4*j))).num.b),vi ((dPow (2+(4*j))).num.c),vi ((dPow (2+(4*j))).num.d),vi ((dPow (2+(4*j))).exp)]) rfl Xm (e.at 0) rfl)) ?_;exact ⟨(by rw [u];try rfl),m⟩
 have B:=L
 have e3:¬ (k=3∧i≠j):=by simpa using L
 refine wp_seq_k fun _ aL=>?_;refine X0o (fun a w=>Fr a 67 [(0,vi k),(1,vi i),(6,.pointer (some ⟨b2,0,none⟩)),(8,.map (some b6)),(46,.bool (((k==2)||(k==3))||(i != j)))]∧w9=w) ?_ ?_
 ·refine Zr f<|Zm rfl<|Ze (X13 rfl rfl)<|Zm rfl ?_
  refine Zg 49 rfl (fun z=>?_) (fun z=>?_)
  ·refine Zp (gP z) ?_;refine Zp (gP z) ?_;refine Ze (Xn rfl z rfl)<|Zm rfl<|Zp (gP rfl) ?_;refine Zp (gP rfl) ?_;refine Zp (gP rfl) ?_;refine Ze (Xn rfl rfl rfl)<|Za rfl ?_;refine Zn fun a f=>?_;exact ⟨f.sub ⟨rfl,rfl,rfl,rfl,X1 rfl (by first|rfl|(simp only [g,o,B,z,bs];done)|simp [g,o,B,z]),trivial⟩,rfl⟩
  refine Zv (gW z) (Xa rfl) ?_;refine Zv (gW z) (X13 rfl rfl) ?_;refine Ze (Xj rfl z rfl)<|Zm rfl ?_
  refine Zg 53 rfl (fun h=>?_) (fun h=>?_)
  ·refine Zp (gP h) ?_;refine Zp (gP h) ?_;refine Zp (gP h) ?_;refine Ze (Xn rfl h rfl)<|Za rfl ?_;refine Zn fun a f=>?_;exact ⟨f.sub ⟨rfl,rfl,rfl,rfl,X1 rfl (by first|rfl|(simp only [g,o,B,z,h,bs];done)|simp [g,o,B,z,h]),trivial⟩,rfl⟩
  refine Zv (gW h) (Xa rfl) ?_;refine Zv (gW h) (Xa rfl) ?_;refine Zv (gW h) (X2h rfl rfl) ?_;refine Ze (Xj rfl h rfl)<|Za rfl ?_;refine Zn fun a f=>?_;exact ⟨f.sub ⟨rfl,rfl,rfl,rfl,X1 rfl (by first|rfl|(simp only [g,o,B,z,h,bs];done)|simp [g,o,B,z,h]),trivial⟩,rfl⟩
 rintro a _ ⟨f,rfl⟩;refine aL _ _ ?_
 refine Xk f rfl (fun M=>?_) (fun M=>?_)
 ·have aC:=M
  have u:entryI k i j=dZ:=by rw [entryI,if_neg W,if_neg e2,if_neg e3,if_pos (by simpa [or_assoc] using M)]
  refine Zs f fun _ aM=>?_;refine Ze (Xg (ps:=[]) (cs:=[vi 0,vi 0,vi 0,vi 0,vi 0]) rfl (fun _=>by first|rfl|kernel_rfl))<|Zo (Vw [vi 0,vi 0,vi 0,vi 0,vi 0] X01 e) ?_;rintro _ bD ⟨p,G⟩;have C:=e;have m:=Below.only m p D;have e:=G;refine Zt aM fun a f=>?_;refine wp_ret<|Xr<|X3<|X2 f (Xv f rfl (ResV.cellN (l:=[vi 0,vi 0,vi 0,vi 0,vi 0]) rfl Xm (e.at 0) rfl)) ?_;exact ⟨(by rw [u];try rfl),m⟩
 have aC:=M
 have e4:¬ (k=2∨k=3∨i≠j):=by simpa [not_or,and_assoc] using M
 refine Zs f fun _ aN=>?_;refine Zm rfl<|Ze (X13 rfl rfl)<|Za rfl<|Zt aN fun a f=>?_
 refine Xk f rfl (fun N=>?_) (fun N=>?_)
 ·have aD:=N
  have u:entryI k i j=⟨⟨1,0,0,0⟩,0⟩:=by rw [entryI,if_neg W,if_neg e2,if_neg e3,if_neg e4,if_pos (by simpa using N)]
  refine Zs f fun _ aO=>?_;refine Zf (Vc (Xta _ 1) Xf6) ?_;rintro _ bE ⟨rfl,E⟩;have e:=e.below E;have m:=btr m E;refine Zo (Vw [vi ((⟨⟨1,0,0,0⟩,0⟩ : Dy).num.a),vi ((⟨⟨1,0,0,0⟩,0⟩ : Dy).num.b),vi ((⟨⟨1,0,0,0⟩,0⟩ : Dy).num.c),vi ((⟨⟨1,0,0,0⟩,0⟩ : Dy).num.d),vi ((⟨⟨1,0,0,0⟩,0⟩ : Dy).exp)] X01 e) ?_;rintro _ bF ⟨p,G⟩;have C:=e;have m:=Below.only m p D;have e:=G;refine Zt aO fun a f=>?_;refine wp_ret<|Xr<|X3<|X2 f (Xv f rfl (ResV.cellN (l:=[vi ((⟨⟨1,0,0,0⟩,0⟩ : Dy).num.a),vi ((⟨⟨1,0,0,0⟩,0⟩ : Dy).num.b),vi ((⟨⟨1,0,0,0⟩,0⟩ : Dy).num.c),vi ((⟨⟨1,0,0,0⟩,0⟩ : Dy).num.d),vi ((⟨⟨1,0,0,0⟩,0⟩ : Dy).exp)]) rfl Xm (e.at 0) rfl)) ?_;exact ⟨(by rw [u];try rfl),m⟩
 have aD:=N
 have u:entryI k i j=dPow (turnOf k):=by rw [entryI,if_neg W,if_neg e2,if_neg e3,if_neg e4,if_neg (by simpa using N)]
 refine wp_skip<|Xt<|aY _ _<|Zs f fun _ aP=>?_;refine Zm rfl<|Zm rfl<|Ze (Xoa (v:=(turnOf k)) rfl rfl Tryz.underlying206 Tryz.underlying3 t (Xit (by omega) (by omega)))<|Zf (Vc (Xcf _ (turnOf k) (Xje k)) X47) ?_;rintro _ bG ⟨rfl,E⟩;have e:=e.below E;have m:=btr m E;refine Zo (Vw [vi ((dPow (turnOf k)).num.a),vi ((dPow (turnOf k)).num.b),vi ((dPow (turnOf k)).num.c),vi ((dPow (turnOf k)).num.d),vi ((dPow (turnOf k)).exp)] X01 e) ?_;rintro _ bH ⟨p,G⟩;have C:=e;have m:=Below.only m p D;have e:=G;refine Zt aP fun a f=>?_
 refine wp_ret (X2 f (Xv f rfl (ResV.cellN (l:=[vi ((dPow (turnOf k)).num.a),vi ((dPow (turnOf k)).num.b),vi ((dPow (turnOf k)).num.c),vi ((dPow (turnOf k)).num.d),vi ((dPow (turnOf k)).exp)]) rfl Xm (e.at 0) rfl)) ?_)
 exact ⟨(by rw [u];try rfl),m⟩
theorem Xyi(U:World)(g:Gt)(n:Int)(ba bb:Nat)(f:Blk U ba 115 (encG g))(m:Blk U bb 3 [vi n])(hg:gOk n g=true)(i j:Int) : Ret Tryz.prog 126 [vi i,vi j,.pointer (some ⟨ba,0,none⟩),.pointer (some ⟨bb,0,none⟩)] U (fun v w=>v=.tuple #[dV (cellI n g i j),.bool true]∧Below U.heap.size U w):=by
 have aM:=f.lt;have aN:=m.lt
 unfold encG at f
 have aC:=X1f hg;have aD:=X2o n j g.a;refine enter Tryz.func126 rfl 75 rfl rfl ?_;intro a t
 have u:=bz U
 refine Zs t fun _ aO=>?_;refine Zf (X8 (zs:=[vi 0,vi 0,vi 0,vi 0,vi 0]) X1i rfl) ?_;rintro _ w1 ⟨b2,rfl,aP,y,e⟩;have B:=Nat.le_trans u.size aP;have f:=f.below y;have m:=m.below y;have u:=btr u y;refine Za rfl<|ZX aO fun a t _ aA=>?_;refine wp_block<|Zs t fun _ aQ=>?_;refine Ze (Vd rfl X0n 0)<|Ze (X0 rfl X7 (f.at 0))<|Ze (X13 rfl rfl)<|Za rfl<|Zt aQ fun a t=>?_
 refine Xk t rfl (fun M=>?_) (fun M=>?_)
 ·have C:=M;have W:=eq_of_beq M;refine Zs t fun _ aR=>?_;refine Zm rfl<|Zm rfl<|Ze (X13 rfl rfl)<|Zt aR fun a t=>?_
  refine Xk t rfl (fun N=>?_) (fun N=>?_)
  ·have aE:=N
   have z:cellI n g i j=dPow 1:=by rw [cellI,if_pos W,if_pos (eq_of_beq N)]
   refine Zs t fun _ aS=>?_;refine Zf (Vc (Xcf _ 1 (by rfl)) X47) ?_;rintro _ w2 ⟨rfl,y⟩;have e:=e.below y;have u:=btr u y;refine Zo (Vw [vi ((dPow 1).num.a),vi ((dPow 1).num.b),vi ((dPow 1).num.c),vi ((dPow 1).num.d),vi ((dPow 1).exp)] X01 e) ?_;rintro _ w3 ⟨D,L⟩;have x:=e;have u:=Below.only u D B;have e:=L;refine Za rfl<|Zt aS fun a t=>?_;refine wp_ret<|Xr<|X3<|X2 t (X0w t rfl (ResV.cellN (l:=[vi ((dPow 1).num.a),vi ((dPow 1).num.b),vi ((dPow 1).num.c),vi ((dPow 1).num.d),vi ((dPow 1).exp)]) rfl Xm (e.at 0) rfl) rfl) ?_;exact ⟨(by rw [z];try rfl),u⟩
  have aE:=N
  have z:cellI n g i j=dZ:=by rw [cellI,if_pos W,if_neg (X1b N)]
  refine wp_skip<|Xt<|aA _ _<|Zs t fun _ aT=>?_;refine Ze (Xg (ps:=[]) (cs:=[vi 0,vi 0,vi 0,vi 0,vi 0]) rfl (fun _=>by first|rfl|kernel_rfl))<|Zo (Vw [vi 0,vi 0,vi 0,vi 0,vi 0] X01 e) ?_;rintro _ w4 ⟨D,L⟩;have x:=e;have u:=Below.only u D B;have e:=L;refine Za rfl<|Zt aT fun a t=>?_
  refine wp_ret (X2 t (X0w t rfl (ResV.cellN (l:=[vi 0,vi 0,vi 0,vi 0,vi 0]) rfl Xm (e.at 0) rfl) rfl) ?_)
  exact ⟨(by rw [z];try rfl),u⟩
 have C:=M;have W:=X1b M;have aW:=aC.2.2.1 W;refine Zs t fun _ aF=>?_;refine Ze (Vd rfl X0n 0)<|Ze (X0 rfl X7 (f.at 0))<|Zf (Vc (F99 _ g.k) X8v) ?_;rintro _ _ ⟨rfl,rfl⟩;refine Za rfl<|Zt aF fun a t=>?_
 refine Xk t rfl (fun G=>?_) (fun G=>?_)
 ·have A:=G;have H:=G;have aX:=aC.2.2.2 (X03.1 H);refine Zs t fun _ aG=>?_;refine Ze (X0 rfl X7 (m.at 0))<|Ze (X07 (l:=[vi g.k,vi g.a,vi g.b]) rfl X0g (f.at 0) rfl)<|Zm rfl<|Zf (Vc (Xzi _ n g i hg (X03.1 H)) Xtr) ?_;rintro _ w5 ⟨rfl,y⟩;have f:=f.below y;have m:=m.below y;have e:=e.below y;have u:=btr u y;refine Zm rfl<|Ze (X13 rfl rfl)<|Zt aG fun a t=>?_
  refine Xk t rfl (fun I=>?_) (fun I=>?_)
  ·have E:=I
   have z:cellI n g i j=dPow (4*(if czI n g i=true then 1 else 0)):=by rw [cellI,if_neg W,if_pos H,if_pos (eq_of_beq I)]
   refine wp_seq_k fun _ aH=>?_;refine X0o (fun a w=>Fr a 75 [(6,.pointer (some ⟨b2,0,none⟩)),(7,.bool true)]∧Blk w ba 115 [vi g.k,vi g.a,vi g.b]∧Blk w bb 3 [vi n]∧Blk w b2 95 [vi ((dPow (4*(if (((g.k==10)&&((bitF n i g.a)==1))&&((bitF n i g.b)==1))=true then 1 else 0))).num.a),vi ((dPow (4*(if (((g.k==10)&&((bitF n i g.a)==1))&&((bitF n i g.b)==1))=true then 1 else 0))).num.b),vi ((dPow (4*(if (((g.k==10)&&((bitF n i g.a)==1))&&((bitF n i g.b)==1))=true then 1 else 0))).num.c),vi ((dPow (4*(if (((g.k==10)&&((bitF n i g.a)==1))&&((bitF n i g.b)==1))=true then 1 else 0))).num.d),vi ((dPow (4*(if (((g.k==10)&&((bitF n i g.a)==1))&&((bitF n i g.b)==1))=true then 1 else 0))).exp)]∧Below U.heap.size U w) ?_ ?_
   ·refine Zr t<|Ze (Vd rfl X0n 0)<|Ze (X0 rfl X7 (f.at 0))<|Ze (X13 rfl rfl)<|Zm rfl ?_
    refine Zg 29 rfl (fun p=>?_) (fun p=>?_)
    ·refine Zv (gW p) (X0 rfl X7 (m.at 0)) ?_;refine Zv (gW p) (Xa rfl) ?_;refine Zv (gW p) (Vd rfl X0f 1) ?_;refine Zv (gW p) (X0 rfl X7 (f.at 1)) ?_;refine Zk (gW p) (Vc (Xjh _ n i g.a (by omega) (by omega) (by omega)) X6n) ?_;rintro _ _ ⟨rfl,rfl⟩;refine Zv (gW p) (X13 rfl rfl) ?_;refine Ze (Xn rfl p rfl)<|Zm rfl ?_
     refine Zg 37 rfl (fun q=>?_) (fun q=>?_)
     ·refine Zv (gW q) (X0 rfl X7 (m.at 0)) ?_;refine Zv (gW q) (Xa rfl) ?_;refine Zv (gW q) (Vd rfl X0s 2) ?_;refine Zv (gW q) (X0 rfl X7 (f.at 2)) ?_;refine Zk (gW q) (Vc (Xjh _ n i g.b (by omega) (by omega) (by omega)) X6n) ?_;rintro _ _ ⟨rfl,rfl⟩;refine Zv (gW q) (X13 rfl rfl) ?_;refine Ze (Xn rfl q rfl)<|Zf (Vc (F59 _ ((bitF n i g.b)==1)) Xgi) ?_;rintro _ _ ⟨rfl,rfl⟩;refine Ze (Xcp rfl rfl (by split<;>decide) (by split<;>decide))<|Zf (Vc (Xcf _ (4*(if ((bitF n i g.b)==1)=true then 1 else 0)) (by split<;>rfl)) X47) ?_;rintro _ w6 ⟨rfl,y⟩;have f:=f.below y;have m:=m.below y;have e:=e.below y;have u:=btr u y;refine Zo (Vw [vi ((dPow (4*(if ((bitF n i g.b)==1)=true then 1 else 0))).num.a),vi ((dPow (4*(if ((bitF n i g.b)==1)=true then 1 else 0))).num.b),vi ((dPow (4*(if ((bitF n i g.b)==1)=true then 1 else 0))).num.c),vi ((dPow (4*(if ((bitF n i g.b)==1)=true then 1 else 0))).num.d),vi ((dPow (4*(if ((bitF n i g.b)==1)=true then 1 else 0))).exp)] X01 e) ?_;rintro _ w7 ⟨D,L⟩;have x:=e;have f:=f.only D (Blk.ne f x rfl);have m:=m.only D (Blk.ne m x rfl);have u:=Below.only u D B;have e:=L;refine Za rfl ?_;refine Zn fun a t=>?_
      have Q:(((g.k==10)&&((bitF n i g.a)==1))&&((bitF n i g.b)==1))=((bitF n i g.b)==1):=by simp [C,A,E,p,q]
      have e:Blk w7 b2 95 [vi ((dPow (4*(if (((g.k==10)&&((bitF n i g.a)==1))&&((bitF n i g.b)==1))=true then 1 else 0))).num.a),vi ((dPow (4*(if (((g.k==10)&&((bitF n i g.a)==1))&&((bitF n i g.b)==1))=true then 1 else 0))).num.b),vi ((dPow (4*(if (((g.k==10)&&((bitF n i g.a)==1))&&((bitF n i g.b)==1))=true then 1 else 0))).num.c),vi ((dPow (4*(if (((g.k==10)&&((bitF n i g.a)==1))&&((bitF n i g.b)==1))=true then 1 else 0))).num.d),vi ((dPow (4*(if (((g.k==10)&&((bitF n i g.a)==1))&&((bitF n i g.b)==1))=true then 1 else 0))).exp)]:=by rw [Q];exact e
      exact ⟨t.sb,f,m,e,u⟩
     refine Zp (gP q) ?_;refine Zp (gP q) ?_;refine Zp (gP q) ?_;refine Zp (gP q) ?_;refine Zp (gP q) ?_;refine Zp (gP q) ?_;refine Ze (Xj rfl q rfl)<|Zf (Vc (F59 _ false) Xgi) ?_;rintro _ _ ⟨rfl,rfl⟩;refine Ze (Xcp rfl rfl (by split<;>decide) (by split<;>decide))<|Zf (Vc (Xcf _ (4*(if false=true then 1 else 0)) (by split<;>rfl)) X47) ?_;rintro _ w8 ⟨rfl,y⟩;have f:=f.below y;have m:=m.below y;have e:=e.below y;have u:=btr u y;refine Zo (Vw [vi ((dPow (4*(if false=true then 1 else 0))).num.a),vi ((dPow (4*(if false=true then 1 else 0))).num.b),vi ((dPow (4*(if false=true then 1 else 0))).num.c),vi ((dPow (4*(if false=true then 1 else 0))).num.d),vi ((dPow (4*(if false=true then 1 else 0))).exp)] X01 e) ?_;rintro _ w9 ⟨D,L⟩;have x:=e;have f:=f.only D (Blk.ne f x rfl);have m:=m.only D (Blk.ne m x rfl);have u:=Below.only u D B;have e:=L;refine Za rfl ?_;refine Zn fun a t=>?_
     have Q:(((g.k==10)&&((bitF n i g.a)==1))&&((bitF n i g.b)==1))=(false):=by simp [C,A,E,p,q]
     have e:Blk w9 b2 95 [vi ((dPow (4*(if (((g.k==10)&&((bitF n i g.a)==1))&&((bitF n i g.b)==1))=true then 1 else 0))).num.a),vi ((dPow (4*(if (((g.k==10)&&((bitF n i g.a)==1))&&((bitF n i g.b)==1))=true then 1 else 0))).num.b),vi ((dPow (4*(if (((g.k==10)&&((bitF n i g.a)==1))&&((bitF n i g.b)==1))=true then 1 else 0))).num.c),vi ((dPow (4*(if (((g.k==10)&&((bitF n i g.a)==1))&&((bitF n i g.b)==1))=true then 1 else 0))).num.d),vi ((dPow (4*(if (((g.k==10)&&((bitF n i g.a)==1))&&((bitF n i g.b)==1))=true then 1 else 0))).exp)]:=by rw [Q];exact e
     exact ⟨t.sb,f,m,e,u⟩
    refine Zp (gP p) ?_;refine Zp (gP p) ?_;refine Zp (gP p) ?_;refine Zp (gP p) ?_;refine Zp (gP p) ?_;refine Zp (gP p) ?_;refine Ze (Xj rfl p rfl)<|Zm rfl<|Zp (gP rfl) ?_;refine Zp (gP rfl) ?_;refine Zp (gP rfl) ?_;refine Zp (gP rfl) ?_;refine Zp (gP rfl) ?_;refine Zp (gP rfl) ?_;refine Ze (Xj rfl rfl rfl)<|Zf (Vc (F59 _ false) Xgi) ?_;rintro _ _ ⟨rfl,rfl⟩;refine Ze (Xcp rfl rfl (by split<;>decide) (by split<;>decide))<|Zf (Vc (Xcf _ (4*(if false=true then 1 else 0)) (by split<;>rfl)) X47) ?_;rintro _ aY ⟨rfl,y⟩;have f:=f.below y;have m:=m.below y;have e:=e.below y;have u:=btr u y;refine Zo (Vw [vi ((dPow (4*(if false=true then 1 else 0))).num.a),vi ((dPow (4*(if false=true then 1 else 0))).num.b),vi ((dPow (4*(if false=true then 1 else 0))).num.c),vi ((dPow (4*(if false=true then 1 else 0))).num.d),vi ((dPow (4*(if false=true then 1 else 0))).exp)] X01 e) ?_;rintro _ aU ⟨D,L⟩;have x:=e;have f:=f.only D (Blk.ne f x rfl);have m:=m.only D (Blk.ne m x rfl);have u:=Below.only u D B;have e:=L;refine Za rfl ?_;refine Zn fun a t=>?_
    have Q:(((g.k==10)&&((bitF n i g.a)==1))&&((bitF n i g.b)==1))=(false):=by simp [C,A,E,p]
    have e:Blk aU b2 95 [vi ((dPow (4*(if (((g.k==10)&&((bitF n i g.a)==1))&&((bitF n i g.b)==1))=true then 1 else 0))).num.a),vi ((dPow (4*(if (((g.k==10)&&((bitF n i g.a)==1))&&((bitF n i g.b)==1))=true then 1 else 0))).num.b),vi ((dPow (4*(if (((g.k==10)&&((bitF n i g.a)==1))&&((bitF n i g.b)==1))=true then 1 else 0))).num.c),vi ((dPow (4*(if (((g.k==10)&&((bitF n i g.a)==1))&&((bitF n i g.b)==1))=true then 1 else 0))).num.d),vi ((dPow (4*(if (((g.k==10)&&((bitF n i g.a)==1))&&((bitF n i g.b)==1))=true then 1 else 0))).exp)]:=by rw [Q];exact e
    exact ⟨t.sb,f,m,e,u⟩
   rintro a aZ ⟨t,f,m,e,u⟩;refine aH _ _<|wp_ret<|Xr<|X3 ?_;refine X2 t (X0w t rfl (ResV.cellN (l:=[vi ((dPow (4*(if (((g.k==10)&&((bitF n i g.a)==1))&&((bitF n i g.b)==1))=true then 1 else 0))).num.a),vi ((dPow (4*(if (((g.k==10)&&((bitF n i g.a)==1))&&((bitF n i g.b)==1))=true then 1 else 0))).num.b),vi ((dPow (4*(if (((g.k==10)&&((bitF n i g.a)==1))&&((bitF n i g.b)==1))=true then 1 else 0))).num.c),vi ((dPow (4*(if (((g.k==10)&&((bitF n i g.a)==1))&&((bitF n i g.b)==1))=true then 1 else 0))).num.d),vi ((dPow (4*(if (((g.k==10)&&((bitF n i g.a)==1))&&((bitF n i g.b)==1))=true then 1 else 0))).exp)]) rfl Xm (e.at 0) rfl) rfl) ?_;exact ⟨(by rw [z];try rfl),u⟩
  have E:=I
  have z:cellI n g i j=dZ:=by rw [cellI,if_neg W,if_pos H,if_neg (X1b I)]
  refine wp_skip<|Xt<|aA _ _<|Zs t fun _ aI=>?_;refine Ze (Xg (ps:=[]) (cs:=[vi 0,vi 0,vi 0,vi 0,vi 0]) rfl (fun _=>by first|rfl|kernel_rfl))<|Zo (Vw [vi 0,vi 0,vi 0,vi 0,vi 0] X01 e) ?_;rintro _ b0 ⟨D,L⟩;have x:=e;have u:=Below.only u D B;have e:=L;refine Za rfl<|Zt aI fun a t=>?_
  refine wp_ret (X2 t (X0w t rfl (ResV.cellN (l:=[vi 0,vi 0,vi 0,vi 0,vi 0]) rfl Xm (e.at 0) rfl) rfl) ?_)
  exact ⟨(by rw [z];try rfl),u⟩
 have A:=G
 have H:¬ inR g.k 9 11=true:=by rw [G];simp
 have b1:g.k≤8:=by have h9:¬ (9≤g.k∧g.k≤11):=(fun h=>H (X03.2 h));omega
 refine wp_seq_k fun _ aJ=>?_;refine X0o (fun a w=>Fr a 75 [(0,vi i),(1,vi j),(2,.pointer (some ⟨ba,0,none⟩)),(3,.pointer (some ⟨bb,0,none⟩)),(6,.pointer (some ⟨b2,0,none⟩)),(48,.bool ((i==j)||((flipF n i g.a)==j)))]∧w1=w) ?_ ?_
 ·refine Zr t<|Zm rfl<|Zm rfl<|Ze (X13 rfl rfl)<|Zm rfl ?_
  refine Zg 52 rfl (fun o=>?_) (fun o=>?_)
  ·refine Zp (gP o) ?_;refine Zp (gP o) ?_;refine Zp (gP o) ?_;refine Zp (gP o) ?_;refine Zp (gP o) ?_;refine Zp (gP o) ?_;refine Zp (gP o) ?_;refine Ze (Xn rfl o rfl)<|Za rfl ?_;refine Zn fun a t=>?_;exact ⟨t.sub ⟨rfl,rfl,rfl,rfl,rfl,X1 rfl (by first|rfl|(simp only [C,A,o,bs];done)|simp [C,A,o]),trivial⟩,rfl⟩
  refine Zv (gW o) (X0 rfl X7 (m.at 0)) ?_;refine Zv (gW o) (Xa rfl) ?_;refine Zv (gW o) (Vd rfl X0f 1) ?_;refine Zv (gW o) (X0 rfl X7 (f.at 1)) ?_;refine Zk (gW o) (Vc (Xog _ n i g.a (by omega) (by omega) (by omega)) Xb7) ?_;rintro _ _ ⟨rfl,rfl⟩;refine Zv (gW o) (Xa rfl) ?_;refine Zv (gW o) (X13 rfl rfl) ?_;refine Ze (Xj rfl o rfl)<|Za rfl ?_;refine Zn fun a t=>?_;exact ⟨t.sub ⟨rfl,rfl,rfl,rfl,rfl,X1 rfl (by first|rfl|(simp only [C,A,o,bs];done)|simp [C,A,o]),trivial⟩,rfl⟩
 rintro a _ ⟨t,rfl⟩;refine aJ _ _ ?_
 refine Xk t rfl (fun J=>?_) (fun J=>?_)
 ·have aB:=J
  have z:cellI n g i j=entryI g.k (bitF n i g.a) (bitF n j g.a):=by rw [cellI,if_neg W,if_neg H,if_pos (by simpa using J)]
  refine wp_seq_k fun _ aK=>?_;refine X0h none (fun j=>[13].contains j) mixed ?_;intro b3 y;have f:=f.below y;have m:=m.below y;have e:=e.below y;have u:=btr u y;refine Yb t<|Yo 0 rfl (fun _=>Vd rfl X0n 0)<|Ye 1 rfl (X0 rfl X7 (f.at 0))<|Ye 2 rfl (X0 rfl X7 (m.at 0))<|Yo 3 rfl (fun _=>Xa rfl)<|Yo 4 rfl (fun _=>Vd rfl X0f 1) ?_;refine Ye 5 rfl (X0 rfl X7 (f.at 1))<|Ye 7 rfl (X0 rfl X7 (m.at 0))<|Yo 8 rfl (fun _=>Xa rfl)<|Yo 9 rfl (fun _=>Vd rfl X0f 1)<|Ye 10 rfl (X0 rfl X7 (f.at 1)) ?_;refine Y1 6<|Yz rfl trivial (Vc (Xjh _ n i g.a (by omega) (by omega) (by omega)) X6n) ?_;refine Y1 11<|Yz rfl trivial (Vc (Xjh _ n j g.a (by omega) (by omega) (by omega)) X6n) ?_;refine Y1 12<|Yk rfl trivial (Vc (Xyr _ g.k (bitF n i g.a) (bitF n j g.a) (by omega) aD) Xss) (fun _ _ ⟨_,y⟩=>y) ?_;rintro _ b4 ⟨rfl,y⟩;have e:=e.below y;have u:=btr u y;refine Y1 13<|Yh rfl trivial rfl (Vw [vi ((entryI g.k (bitF n i g.a) (bitF n j g.a)).num.a),vi ((entryI g.k (bitF n i g.a) (bitF n j g.a)).num.b),vi ((entryI g.k (bitF n i g.a) (bitF n j g.a)).num.c),vi ((entryI g.k (bitF n i g.a) (bitF n j g.a)).num.d),vi ((entryI g.k (bitF n i g.a) (bitF n j g.a)).exp)] X01 e) ?_;rintro _ b5 ⟨D,L⟩;have x:=e;have u:=Below.only u D B;have e:=L;refine Yo 14 rfl (fun _=>X18 rfl) ?_;refine Yd fun a t=>?_;refine aK _ _<|wp_ret<|Xr<|X3 ?_;refine X2 t (X0w t rfl (ResV.cellN (l:=[vi ((entryI g.k (bitF n i g.a) (bitF n j g.a)).num.a),vi ((entryI g.k (bitF n i g.a) (bitF n j g.a)).num.b),vi ((entryI g.k (bitF n i g.a) (bitF n j g.a)).num.c),vi ((entryI g.k (bitF n i g.a) (bitF n j g.a)).num.d),vi ((entryI g.k (bitF n i g.a) (bitF n j g.a)).exp)]) rfl Xm (e.at 0) rfl) rfl) ?_
  exact ⟨(by rw [z];try rfl),u⟩
 have aB:=J
 have z:cellI n g i j=dZ:=by rw [cellI,if_neg W,if_neg H,if_neg (by simpa using J)]
 refine wp_skip<|Xt<|aA _ _<|Zs t fun _ aL=>?_;refine Ze (Xg (ps:=[]) (cs:=[vi 0,vi 0,vi 0,vi 0,vi 0]) rfl (fun _=>by first|rfl|kernel_rfl))<|Zo (Vw [vi 0,vi 0,vi 0,vi 0,vi 0] X01 e) ?_;rintro _ b6 ⟨D,L⟩;have x:=e;have u:=Below.only u D B;have e:=L;refine Za rfl<|Zt aL fun a t=>?_
 refine wp_ret (X2 t (X0w t rfl (ResV.cellN (l:=[vi 0,vi 0,vi 0,vi 0,vi 0]) rfl Xm (e.at 0) rfl) rfl) ?_)
 exact ⟨(by rw [z];try rfl),u⟩
theorem Xt1(w0:World)(n:Int)(g:Gt) : Ret Tryz.prog 69 [vi n,.agg #[vi g.k,vi g.a,vi g.b]] w0 (fun v w=>∃ A c,v=.tuple #[mV A c ((gateI n g).getD mZ),.bool (gateI n g).isSome]∧Own w w0.heap.size 95 5 encD A c ((gateI n g).getD mZ).cells∧Below w0.heap.size w0 w):=by
 refine enter Tryz.func69 rfl 19 rfl rfl ?_;intro a u
 have p:=bz w0
 refine Zs u fun _ aD=>?_;refine Zf (X0i (zs:=[vi n]) rfl rfl) ?_;rintro _ w1 ⟨b2,rfl,aE,o,f⟩;have aK:=Nat.le_trans p.size aE;have p:=btr p o;refine Zf (X0i (zs:=[vi g.k,vi g.a,vi g.b]) rfl rfl) ?_;rintro _ w2 ⟨b3,rfl,aF,o,t⟩;have aL:=Nat.le_trans p.size aF;have f:=f.below o;have p:=btr p o;refine Zf (X8 (zs:=[vi 0,vi 0,.slice none 0 0]) X1n rfl) ?_;rintro _ w3 ⟨b5,rfl,aG,o,e⟩;have h:=Nat.le_trans p.size aG;have f:=f.below o;have t:=t.below o;have p:=btr p o;refine Za rfl<|ZX aD fun a u _ aH=>?_;refine Zs u fun _ aI=>?_;refine Ze (X0 rfl X7 (f.at 0))<|Ze (Vn X0g t)<|Zf (Vc (Xsi _ n g) Xfy) ?_;rintro _ w4 ⟨rfl,o⟩;have f:=f.below o;have t:=t.below o;have e:=e.below o;have p:=btr p o;refine Ze (X0z rfl)<|Zt aI fun a u=>?_
 refine Xk u rfl (fun z=>?_) (fun z=>?_)
 ·have aA:=z
  have hn:¬ gOk n g=true:=by revert z;cases gOk n g<;>simp
  refine Zs u fun _ aJ=>?_;refine Ze (Xg (ps:=[]) (cs:=[vi 0,vi 0,.slice none 0 0]) rfl (fun _=>by first|rfl|kernel_rfl))<|Zo (Vw [vi 0,vi 0,.slice none 0 0] X17 e) ?_;rintro _ w5 ⟨ho,hb⟩;have B:=e;have p:=Below.only p ho h;have e:=hb;refine Za rfl<|Zt aJ fun a u=>?_;refine wp_ret<|X3<|X2 u (X0w u rfl (ResV.cellN (l:=[vi 0,vi 0,.slice none 0 0]) rfl X0e (e.at 0) rfl) rfl) ?_;exact ⟨none,0,by rw [gateI,if_neg hn];rfl,by rw [gateI,if_neg hn];exact (Own.nil _ _ _ _ _),p⟩
 have aA:=z
 have hg:gOk n g=true:=by revert z;cases gOk n g<;>simp
 have aM:=X1f hg
 obtain ⟨d,hd⟩ : ∃ d:Nat,d=2^n.toNat:=⟨_,rfl⟩
 refine wp_skip<|aH _ _<|wp_seq_k fun _ aB=>?_;refine X0h none (fun j=>[8].contains j) mixed ?_;intro w6 o;have f:=f.below o;have t:=t.below o;have e:=e.below o;have p:=btr p o;refine Yb u<|Ye 0 rfl (X0 rfl X7 (f.at 0))<|Yo 1 rfl (fun _=>Xaq (m:=n.toNat) (D:=d) rfl rfl (by omega) ⟨hd,by omega⟩)<|Ye 2 rfl (X0 rfl X7 (f.at 0))<|Yo 3 rfl (fun _=>Xaq (m:=n.toNat) (D:=d) rfl rfl (by omega) ⟨hd,by omega⟩)<|Yo 4 rfl (fun _=>X2z (vs:=[.pointer (some ⟨b3,0,none⟩),.pointer (some ⟨b2,0,none⟩)]) rfl) ?_;refine Y1 5<|Yk rfl trivial (Vc (Xov _ (d:Int) (d:Int) 126 [.pointer (some ⟨b3,0,none⟩),.pointer (some ⟨b2,0,none⟩)] Xuv (fun i j=>some (cellI n g i j)) (fun i j w' hi hj hE'=>Xyi w' g n _ _ (t.below hE') (f.below hE') hg i j)) Xc2) (fun _ _ ⟨x,y,_,q,o⟩=>o) ?_;rintro _ w7 ⟨x,y,rfl,q,o⟩;have q:=q.lower p.size;have e:=e.below o;have p:=btr p o;refine Yo 6 rfl (fun _=>X4 (vs:=[.agg #[vi (((matOf (d:Int) (d:Int) (fun i j=>some (cellI n g i j))).getD mZ).rows),vi (((matOf (d:Int) (d:Int) (fun i j=>some (cellI n g i j))).getD mZ).cols),.slice x (((matOf (d:Int) (d:Int) (fun i j=>some (cellI n g i j))).getD mZ).cells).length y],.bool ((matOf (d:Int) (d:Int) (fun i j=>some (cellI n g i j))).isSome)]) rfl rfl)<|Yo 7 rfl (fun _=>X4 (vs:=[.agg #[vi (((matOf (d:Int) (d:Int) (fun i j=>some (cellI n g i j))).getD mZ).rows),vi (((matOf (d:Int) (d:Int) (fun i j=>some (cellI n g i j))).getD mZ).cols),.slice x (((matOf (d:Int) (d:Int) (fun i j=>some (cellI n g i j))).getD mZ).cells).length y],.bool ((matOf (d:Int) (d:Int) (fun i j=>some (cellI n g i j))).isSome)]) rfl rfl)<|Y1 8 ?_;refine Yh rfl trivial rfl (Vw [vi (((matOf (d:Int) (d:Int) (fun i j=>some (cellI n g i j))).getD mZ).rows),vi (((matOf (d:Int) (d:Int) (fun i j=>some (cellI n g i j))).getD mZ).cols),.slice x (((matOf (d:Int) (d:Int) (fun i j=>some (cellI n g i j))).getD mZ).cells).length y] X17 e) ?_;rintro _ w8 ⟨ho,hb⟩
 have B:=e;have q:=q.onlyT ho B rfl;have p:=Below.only p ho h;have e:=hb;refine Yo 9 rfl (fun _=>X18 rfl) ?_;refine Yd fun a u=>?_;refine aB _ _ ?_
 refine wp_ret (X2 u (X0w u rfl (ResV.cellN (l:=[vi (((matOf (d:Int) (d:Int) (fun i j=>some (cellI n g i j))).getD mZ).rows),vi (((matOf (d:Int) (d:Int) (fun i j=>some (cellI n g i j))).getD mZ).cols),.slice x (((matOf (d:Int) (d:Int) (fun i j=>some (cellI n g i j))).getD mZ).cells).length y]) rfl X0e (e.at 0) rfl) rfl) ?_)
 have aC:gateI n g=matOf (d:Int) (d:Int) fun i j=>some (cellI n g i j):=by rw [gateI,if_pos hg,hd]
 rw [aC]
 exact ⟨x,y,rfl,q,p⟩
end Go.Proofs.YtblmmikapnflcaaGreatDoor
namespace Go.Proofs
open Go.Shelf
def Tryz.lays189_ren:Go.Shelf.Ren:=⟨fun|189=>188|125=>213|257=>212|128=>237|129=>238|294=>228|295=>229|296=>230|297=>231|298=>232|299=>233|216=>234|300=>235|301=>236|328=>252|329=>253|330=>254|331=>255|332=>256|215=>222|343=>264|n=>n,fun|28=>43|3=>3|46=>185|0=>0|51=>255|53=>241|4=>4|183=>249|182=>248|131=>144|5=>5|9=>9|218=>271|222=>275|228=>279|229=>181|n=>n,fun|n=>n⟩
theorem Tryz.lays189:Go.Proofs.Lays.n189 Tryz.prog Tryz.lays189_ren:={
  mixed:=by kernel_rfl
  f125:=Tryz.func213.trans (congrArg some (by kernel_rfl))
  f128:=Tryz.func237.trans (congrArg some (by kernel_rfl))
  f129:=Tryz.func238.trans (congrArg some (by kernel_rfl))
  f189:=Tryz.func188.trans (congrArg some (by kernel_rfl))
  f215:=Tryz.func222.trans (congrArg some (by kernel_rfl))
  f216:=Tryz.func234.trans (congrArg some (by kernel_rfl))
  f257:=Tryz.func212.trans (congrArg some (by kernel_rfl))
  f294:=Tryz.func228.trans (congrArg some (by kernel_rfl))
  f295:=Tryz.func229.trans (congrArg some (by kernel_rfl))
  f296:=Tryz.func230.trans (congrArg some (by kernel_rfl))
  f297:=Tryz.func231.trans (congrArg some (by kernel_rfl))
  f298:=Tryz.func232.trans (congrArg some (by kernel_rfl))
  f299:=Tryz.func233.trans (congrArg some (by kernel_rfl))
  f300:=Tryz.func235.trans (congrArg some (by kernel_rfl))
  f301:=Tryz.func236.trans (congrArg some (by kernel_rfl))
  f328:=Tryz.func252.trans (congrArg some (by kernel_rfl))
  f329:=Tryz.func253.trans (congrArg some (by kernel_rfl))
  f330:=Tryz.func254.trans (congrArg some (by kernel_rfl))
  f331:=Tryz.func255.trans (congrArg some (by kernel_rfl))
  f332:=Tryz.func256.trans (congrArg some (by kernel_rfl))
  f343:=Tryz.func264.trans (congrArg some (by kernel_rfl))
  t0:=Tryz.underlying0
  a0:=Tryz.isAgg0
  z0:=Tryz.sizeOf0
  v0:=Tryz.zeroValue0
  t3:=Tryz.underlying3
  a3:=Tryz.isAgg3
  z3:=Tryz.sizeOf3
  v3:=Tryz.zeroValue3
  t4:=Tryz.underlying4
  a4:=Tryz.isAgg4
  z4:=Tryz.sizeOf4
  v4:=Tryz.zeroValue4
  t5:=Tryz.underlying5
  a5:=Tryz.isAgg5
  z5:=Tryz.sizeOf5
  v5:=Tryz.zeroValue5
  t9:=Tryz.underlying9
  a9:=Tryz.isAgg9
  z9:=Tryz.sizeOf9
  v9:=Tryz.zeroValue9
  t28:=Tryz.underlying43
  a28:=Tryz.isAgg43
  z28:=Tryz.sizeOf43
  v28:=Tryz.zeroValue43
  t46:=Tryz.underlying185
  a46:=Tryz.isAgg185
  z46:=Tryz.sizeOf185
  v46:=Tryz.zeroValue185
  t51:=Tryz.underlying255
  a51:=Tryz.isAgg255
  z51:=Tryz.sizeOf255
  v51:=Tryz.zeroValue255
  t53:=Tryz.underlying241
  a53:=Tryz.isAgg241
  z53:=Tryz.sizeOf241
  v53:=Tryz.zeroValue241
  t131:=Tryz.underlying144
  a131:=Tryz.isAgg144
  z131:=Tryz.sizeOf144
  v131:=Tryz.zeroValue144
  t182:=Tryz.underlying248
  a182:=Tryz.isAgg248
  z182:=Tryz.sizeOf248
  v182:=Tryz.zeroValue248
  t183:=Tryz.underlying249
  a183:=Tryz.isAgg249
  z183:=Tryz.sizeOf249
  v183:=Tryz.zeroValue249
  t218:=Tryz.underlying271
  a218:=Tryz.isAgg271
  z218:=Tryz.sizeOf271
  v218:=Tryz.zeroValue271
  t222:=Tryz.underlying275
  a222:=Tryz.isAgg275
  z222:=Tryz.sizeOf275
  v222:=Tryz.zeroValue275
  t228:=Tryz.underlying279
  a228:=Tryz.isAgg279
  z228:=Tryz.sizeOf279
  v228:=Tryz.zeroValue279
  t229:=Tryz.underlying181
  a229:=Tryz.isAgg181
  z229:=Tryz.sizeOf181
  v229:=Tryz.zeroValue181 }
open Go.Sort Go.RowKit in
theorem Tryz.slices_Sort_int(blk off cap:Nat)(zs:List Int)(w:World)(hH:Holds (Value.int .i64) w blk off zs.toArray)(hblk:blk<w.heap.size)(hsz:zs.length<4611686018427387904) :
    Calls Tryz.prog 188 #[.slice (some ⟨blk,off,none⟩) zs.length cap] w fun e w'=>
      e=.returned (.tuple #[])∧∃ n os,w'=grow (putRow (Value.int .i64) (Sort.ahead w n) blk off (zs.mergeSort fun x y=>decide (x≤y)).toArray) os:=Any.slices_Sort_int Tryz.lays189 blk off cap zs w hH hblk hsz
def Tryz.lays108_ren:Go.Shelf.Ren:=⟨fun|108=>186|n=>n,fun|28=>43|3=>3|0=>0|4=>4|n=>n,fun|n=>n⟩
def Tryz.lays107_ren:Go.Shelf.Ren:=⟨fun|107=>149|108=>186|n=>n,fun|28=>43|3=>3|4=>4|0=>0|n=>n,fun|n=>n⟩
def Tryz.laysNm220_ren:Go.Shelf.Ren:=⟨fun|20=>189|n=>n,fun|22=>43|3=>3|4=>4|0=>0|n=>n,fun|n=>n⟩
theorem Tryz.laysNm220:Go.Proofs.Lays2.n20 Tryz.prog Tryz.laysNm220_ren:={
  mixed:=by kernel_rfl
  f20:=Tryz.func189.trans (congrArg some (by kernel_rfl))
  t0:=Tryz.underlying0
  a0:=Tryz.isAgg0
  z0:=Tryz.sizeOf0
  v0:=Tryz.zeroValue0
  t3:=Tryz.underlying3
  a3:=Tryz.isAgg3
  z3:=Tryz.sizeOf3
  v3:=Tryz.zeroValue3
  t4:=Tryz.underlying4
  a4:=Tryz.isAgg4
  z4:=Tryz.sizeOf4
  v4:=Tryz.zeroValue4
  t22:=Tryz.underlying43
  a22:=Tryz.isAgg43
  z22:=Tryz.sizeOf43
  v22:=Tryz.zeroValue43
  i3:=by kernel_rfl }
open Go.RowKit Go.Lib Go.Sort in
theorem Tryz.slices_Compact_int(blk off cap:Nat)(zs:List Int)(w:World)(hH:Holds (Value.int .i64) w blk off zs.toArray)(hsz:zs.length≤9223372036854775807)(hcap:zs.length≤cap) :
    Calls Tryz.prog 189 #[.slice (some ⟨blk,off,none⟩) zs.length cap] w fun e w'=>e=.returned (.slice (some ⟨blk,off,none⟩) (Lib.compact zs).length cap)∧∃ q,w'=putRow (Value.int .i64) (Sort.ahead w q) blk off (Lib.compact zs++List.replicate (zs.length-(Lib.compact zs).length) 0).toArray:=Any.slices_Compact_int Tryz.laysNm220 blk off cap zs w hH hsz hcap
open Go.RowKit Go.Lib Go.Sort in
theorem Tryz.slices_Compact_int_empty(a:Option Addr)(cap:Nat)(w:World) :
    Calls Tryz.prog 189 #[.slice a 0 cap] w fun e w'=>e=.returned (.slice a 0 cap)∧w'=w:=Any.slices_Compact_int_empty Tryz.laysNm220 a cap w
end Go.Proofs
namespace Go.Proofs.YtblmmikapnflcaaGreatDoor
open Go.RowKit
section
variable {α : Type}
theorem X7d{enc:α→List Value}{sz:Nat}(hsz:∀ x,(enc x).length=sz){l:List α}{j:Nat}(hj:j<l.length*sz) : ∃ x,l[j/sz]? = some x∧(l.flatMap enc)[j]? = (enc x)[j % sz]?:=by
 have h0:0<sz:=by
  rcases Nat.eq_zero_or_pos sz with h|h
  ·subst h;simp at hj
  ·exact h
 have hk:j/sz<l.length:=Nat.div_lt_of_lt_mul (by rw [Nat.mul_comm];exact hj)
 refine ⟨l[j/sz],List.getElem?_eq_getElem hk,?_⟩
 have hm:j % sz<(enc l[j/sz]).length:=by rw [hsz];exact Nat.mod_lt _ h0
 have h1:=X3p hsz l (j/sz) _ (List.getElem?_eq_getElem hk) (j % sz) _ (List.getElem?_eq_getElem hm)
 rw [show j/sz*sz+j % sz=j from by rw [Nat.mul_comm];exact Nat.div_add_mod j sz] at h1
 rw [h1,List.getElem?_eq_getElem hm]
theorem X9c{enc:α→List Value}{sz:Nat}(hsz:∀ x,(enc x).length=sz){z:Value}{z0:α}(hz:z.cells.toList=enc z0)(n:Nat) : madeCells z.cells (n*sz)=((List.replicate n z0).flatMap enc).toArray:=by
 have hs:z.cells.size=sz:=by rw [← hsz z0,← hz];simp
 apply Array.ext'
 apply List.ext_getElem?
 intro j
 by_cases hj:j<n*sz
 ·obtain ⟨x,hx,h1⟩:=X7d hsz (l:=List.replicate n z0) (j:=j) (by simpa using hj)
  obtain rfl:x=z0:=(List.eq_of_mem_replicate (List.mem_of_getElem? hx))
  have h0:0<sz:=by
   rcases Nat.eq_zero_or_pos sz with h|h
   ·subst h;simp at hj
   ·exact h
  have hm:j % sz<z.cells.size:=by rw [hs];exact Nat.mod_lt _ h0
  rw [List.toList_toArray,h1,← hz]
  simp only [madeCells,Array.getElem?_toList,Array.getElem?_map,Array.getElem?_range,hj,if_true,Option.map_some,hs]
  rw [getElem!_pos z.cells (j % sz) hm,Array.getElem?_eq_getElem hm]
 ·rw [List.getElem?_eq_none (by simp [madeCells];omega),List.toList_toArray,List.getElem?_eq_none (by rw [Xz hsz];simp;omega)]
theorem X4g{enc:α→List Value}{sz:Nat}(hsz:∀ x,(enc x).length=sz) : ∀ (l:List α) (k:Nat) (x:α),k<l.length→splice (l.flatMap enc) (k*sz) (enc x)=(l.set k x).flatMap enc
 | [],k,x,h=>by simp at h
 | y::l,0,x,h=>by
  simp only [splice,Nat.zero_mul,List.take_zero,List.nil_append,Nat.zero_add,List.flatMap_cons,List.set_cons_zero]
  rw [hsz,← hsz y,List.drop_left]
 | y::l,k+1,x,h=>by
  have ih:=X4g hsz l k x (by simpa using h)
  unfold splice at ih ⊢
  have h1:(k+1)*sz=(enc y).length+k*sz:=by rw [hsz,Nat.add_mul];omega
  rw [h1]
  simp only [List.flatMap_cons,List.set_cons_succ]
  rw [List.take_length_add_append,show (enc y).length+k*sz+(enc x).length=(enc y).length+(k*sz+(enc x).length) from by omega,List.drop_length_add_append,List.append_assoc,List.append_assoc]
  rw [← ih,List.append_assoc]
end
section
variable {α : Type} {P : Program} {a : Act} {w : World} {n : Nat} {e : Env} {ty : TypeId} {pos : String} {af : Array Edge} {g : Option (Nat × Bool)} {d : Option Tmp}
theorem Xb0{T E sz bytes m:Nat}{x y:Operand}{enc:α→List Value}{z:Value}{z0:α}(hf:Fr a n e)(hx:ev e x=some (.int .i64 (m:Int)))(hy:ev e y=some (.int .i64 (m:Int)))(hT:SliceT P T E)(hi:InfoT P E sz bytes)(hz:ZeroT P E z)(hz0:z.cells.toList=enc z0)(hsz:∀ x,(enc x).length=sz)(hb:bytes*m≤281474976710656)(hm:m≤4611686018427387904) :
  Ef P ⟨d,.makeSlice T x y,ty,pos,af,g⟩ a w (fun v w'=>∃ b,v=.slice (some ⟨b,0,none⟩) m m∧w.heap.size≤b∧Below w.heap.size w w'∧Blk w' b E ((List.replicate m z0).flatMap enc)):=by
 obtain ⟨i,z1,hi1,hi2,hi3,hi4,hi5,hi6⟩:=hi;obtain ⟨i',hi1',hz1⟩:=hz
 rw [hi1] at hi1'
 injection hi1' with hi1'
 subst hi1'
 rw [hi2] at hz1
 injection hz1 with hz1
 subst hz1
 have hb':(i.bytes:Int)*(m:Int)≤281474976710656:=by
  have h:((i.bytes*m:Nat) : Int)≤281474976710656:=by rw [hi4];omega
  rwa [Int.natCast_mul] at h
 have hr:=run_make (P:=P) w T E i z1 hT hi1 hi2 .i64 .i64 m m (by omega) (Int.le_refl _) hb' (by omega)
 refine (Ef.of_run (v:=.slice (some ⟨w.heap.size,0,none⟩) m m) (w':=w.alloc (.cells ((List.replicate m z0).flatMap enc).toArray E)) ?_).mono fun v w' ⟨e1,e2⟩=>?_
 ·rw [hi3,Int.toNat_natCast,X9c hsz hz0] at hr
  simp [execOp,hf.ev hx,hf.ev hy,hr]
 ·subst e1;subst e2
  exact ⟨_,rfl,Nat.le_refl _,(Below.refl _ _).alloc (Nat.le_refl _) _,X75 w E _⟩
theorem X5o{T E sz bytes m:Nat}{x y:Operand}{enc:α→List Value}{z:Value}{z0:α}(hx:ev e x=some (.int .i64 (m:Int)))(hy:ev e y=some (.int .i64 (m:Int)))(hT:SliceT P T E)(hi:InfoT P E sz bytes)(hz:ZeroT P E z)(hz0:z.cells.toList=enc z0)(hsz:∀ x,(enc x).length=sz)(hb:bytes*m≤281474976710656)(hm:m≤4611686018427387904) : EfW P ⟨d,.makeSlice T x y,ty,pos,af,g⟩ n e w (fun v w'=>∃ b,v=.slice (some ⟨b,0,none⟩) m m∧w.heap.size≤b∧Below w.heap.size w w'∧Blk w' b E ((List.replicate m z0).flatMap enc)):=fun a hf=>Xb0 hf hx hy hT hi hz hz0 hsz hb hm
theorem Xas{T E sz b m c k off:Nat}{x y:Operand}{i:Int}(hf:Fr a n e)(hx:ev e x=some (.slice (some ⟨b,0,none⟩) m c))(hy:ev e y=some (.int .i64 i))(hT:SliceT P T E)(hs:SizeT P E sz)(hi:i=(k:Int))(hk:k<m)(ho:k*sz=off) :
  Ev P ⟨d,.indexAddr T x y,ty,pos,af,g⟩ a w (.pointer (some ⟨b,off,none⟩)):=by
 have h:=X6d (P:=P) (w:=w) (d:=d) (ty:=ty) (pos:=pos) (af:=af) (g:=g) hf hx hy hT hs hi hk
 rwa [X1m,Nat.zero_add,ho] at h
theorem Xax{T E sz b m c k off:Nat}{x y:Operand}{i:Int}(hx:ev e x=some (.slice (some ⟨b,0,none⟩) m c))(hy:ev e y=some (.int .i64 i))(hT:SliceT P T E)(hs:SizeT P E sz)(hi:i=(k:Int))(hk:k<m)(ho:k*sz=off) : EvW P ⟨d,.indexAddr T x y,ty,pos,af,g⟩ n e w (.pointer (some ⟨b,off,none⟩)):=fun a hf=>Xas hf hx hy hT hs hi hk ho
theorem Xiv{t T b k sz:Nat}{x y:Operand}{v:Value}{enc:α→List Value}{l:List α}{u:α}(hf:Fr a n e)(hx:ev e x=some (.pointer (some ⟨b,k*sz,none⟩)))(hy:ev e y=some v)(hs:SizeT P t sz)(hb:Blk w b T (l.flatMap enc))(hsz:∀ x,(enc x).length=sz)(hone:∀ x,(enc x).all one=true)(hv:v.cells.toList=enc u)(hk:k<l.length) :
  Ef P ⟨d,.store t x y,ty,pos,af,g⟩ a w (Stored w b T ((l.set k u).flatMap enc)):=by
 have hl:k*sz+sz≤(l.flatMap enc).length:=by
  rw [Xz hsz]
  have:=Nat.mul_le_mul_right sz (show k+1≤l.length by omega)
  rwa [Nat.add_mul,Nat.one_mul] at this
 exact X88 (vs:=enc u) hf hx hy hs hb hv (by rw [hsz];simp) (hone u) (by rw [Nat.ble_eq];exact hl) (X4g hsz l k u hk)
theorem Xcb{t T b k sz:Nat}{x y:Operand}{v:Value}{enc:α→List Value}{l:List α}{u:α}(hx:ev e x=some (.pointer (some ⟨b,k*sz,none⟩)))(hy:ev e y=some v)(hs:SizeT P t sz)(hb:Blk w b T (l.flatMap enc))(hsz:∀ x,(enc x).length=sz)(hone:∀ x,(enc x).all one=true)(hv:v.cells.toList=enc u)(hk:k<l.length) : EfW P ⟨d,.store t x y,ty,pos,af,g⟩ n e w (Stored w b T ((l.set k u).flatMap enc)):=fun a hf=>Xiv hf hx hy hs hb hsz hone hv hk
theorem Xf2{T E sz m c k:Nat}{x y:Operand}{A:Option Addr}{i:Int}(hf:Fr a n e)(hx:ev e x=some (.slice A m c))(hy:ev e y=some (.int .i64 i))(hT:SliceT P T E)(hs:SizeT P E sz)(hi:i=(k:Int))(hk:k≤c) :
  Ev P ⟨d,.slice T x none (some y) none,ty,pos,af,g⟩ a w (.slice A k c):=fun w' _=>by
 subst hi
 have h0:∀ p:Addr,p.add 0=p:=fun p=>by simp [Addr.add]
 simp [execOp,Instr.sliceAt,Instr.slice,Instr.sliceBounds,run_sliceBound,X0t hT,run_sizeOf' hs,hf.ev hx,hf.ev hy,hk,h0]
theorem Xbr{T E sz m c k:Nat}{x y:Operand}{A:Option Addr}{i:Int}(hf:Fr a n e)(hx:ev e x=some (.slice A m c))(hy:ev e y=some (.int .i64 i))(hT:SliceT P T E)(hs:SizeT P E sz)(hi:i=(k:Int))(hk:k≤m) :
  Ev P ⟨d,.slice T x (some y) none none,ty,pos,af,g⟩ a w (.slice (if c=k then A else A.map (·.add (k*sz))) (m-k) (c-k)):=fun w' _=>by
 subst hi
 simp [execOp,Instr.sliceAt,Instr.slice,Instr.sliceBounds,run_sliceBound,X0t hT,run_sizeOf' hs,hf.ev hx,hf.ev hy,hk]
end
section
variable {α : Type} {w : World} {B B0 : Nat} {E : TypeId} {sz : Nat} {enc : α → List Value} {A : Option Addr} {c : Nat} {l : List α}
theorem Xbu(hsz:∀ x,(enc x).length=sz)(k:Nat) : (l.take k).flatMap enc=(l.flatMap enc).take (k*sz):=by
 conv=>rhs;rw [← List.take_append_drop k l]
 rw [List.flatMap_append]
 by_cases hk:k≤l.length
 ·have:((l.take k).flatMap enc).length=k*sz:=by rw [Xz hsz,List.length_take,Nat.min_eq_left hk]
  rw [← this,List.take_left]
 ·rw [List.take_of_length_le (by omega),List.drop_of_length_le (by omega)]
  simp only [List.flatMap_nil,List.append_nil]
  rw [List.take_of_length_le (by rw [Xz hsz];exact Nat.mul_le_mul_right _ (by omega))]
theorem Xbj(hsz:∀ x,(enc x).length=sz)(k:Nat) : (l.drop k).flatMap enc=(l.flatMap enc).drop (k*sz):=by
 conv=>rhs;rw [← List.take_append_drop k l]
 rw [List.flatMap_append]
 by_cases hk:k≤l.length
 ·have:((l.take k).flatMap enc).length=k*sz:=by rw [Xz hsz,List.length_take,Nat.min_eq_left hk]
  rw [← this,List.drop_left]
 ·have h1:l.drop k=[]:=List.drop_of_length_le (by omega)
  rw [h1,List.flatMap_nil,List.append_nil,List.drop_of_length_le (by rw [Xz hsz,List.length_take];exact Nat.mul_le_mul_right _ (by omega))]
theorem Rd.takeK(hsz:∀ x,(enc x).length=sz)(h:Rd w B E enc A l)(k:Nat) : Rd w B E enc A (l.take k):=fun hl=>by
 have hl':l≠[]:=by rintro rfl;simp at hl
 obtain ⟨b,off,cs,fz,h1,h2,h3,h4⟩:=h hl'
 refine ⟨b,off,cs,fz,h1,h2,h3,fun j v hj=>h4 j v ?_⟩
 rw [Xbu hsz,List.getElem?_take] at hj
 split at hj
 ·exact hj
 ·cases hj
theorem Rd.dropK(hsz:∀ x,(enc x).length=sz)(h:Rd w B E enc A l)(hc:l.length≤c)(k:Nat) : Rd w B E enc (if c=k then A else A.map (·.add (k*sz))) (l.drop k):=fun hl=>by
 have hk:k<l.length:=by
  rcases Nat.lt_or_ge k l.length with h'|h'
  ·exact h'
  ·exact absurd (List.drop_of_length_le h') hl
 have hl':l≠[]:=by rintro rfl;simp at hk
 obtain ⟨b,off,cs,fz,h1,h2,h3,h4⟩:=h hl'
 rw [if_neg (by omega),h1]
 refine ⟨b,off+k*sz,cs,fz,by rw [Option.map_some,X1m],h2,h3,fun j v hj=>?_⟩
 rw [Xbj hsz,List.getElem?_drop] at hj
 rw [Nat.add_assoc]
 exact h4 _ v hj
theorem Xo6{P:Program}{a:Act}{n:Nat}{e:Env}{ty:TypeId}{pos:String}{af:Array Edge}{g:Option (Nat×Bool)}{d:Option Tmp}{T k:Nat}{x y:Operand}{i:Int}(hf:Fr a n e)(hx:ev e x=some (.slice A l.length c))(hy:ev e y=some (.int .i64 i))(hT:SliceT P T E)(hs:SizeT P E sz)(hi:i=(k:Int))(hk:k≤l.length)(hc:l.length≤c) :
  Ev P ⟨d,.slice T x none (some y) none,ty,pos,af,g⟩ a w (.slice A (l.take k).length c):=by
 rw [List.length_take,Nat.min_eq_left hk]
 exact Xf2 hf hx hy hT hs hi (by omega)
theorem Xtm{P:Program}{n:Nat}{e:Env}{ty:TypeId}{pos:String}{af:Array Edge}{g:Option (Nat×Bool)}{d:Option Tmp}{T k:Nat}{x y:Operand}{i:Int}(hx:ev e x=some (.slice A l.length c))(hy:ev e y=some (.int .i64 i))(hT:SliceT P T E)(hs:SizeT P E sz)(hi:i=(k:Int))(hk:k≤l.length)(hc:l.length≤c) : EvW P ⟨d,.slice T x none (some y) none,ty,pos,af,g⟩ n e w (.slice A (l.take k).length c):=fun a hf=>Xo6 hf hx hy hT hs hi hk hc
theorem Xn7{P:Program}{a:Act}{n:Nat}{e:Env}{ty:TypeId}{pos:String}{af:Array Edge}{g:Option (Nat×Bool)}{d:Option Tmp}{T k:Nat}{x y:Operand}{i:Int}(hf:Fr a n e)(hx:ev e x=some (.slice A l.length c))(hy:ev e y=some (.int .i64 i))(hT:SliceT P T E)(hs:SizeT P E sz)(hi:i=(k:Int))(hk:k≤l.length) :
  Ev P ⟨d,.slice T x (some y) none none,ty,pos,af,g⟩ a w (.slice (if c=k then A else A.map (·.add (k*sz))) (l.drop k).length (c-k)):=by
 rw [List.length_drop]
 exact Xbr hf hx hy hT hs hi hk
theorem Xeu{P:Program}{n:Nat}{e:Env}{ty:TypeId}{pos:String}{af:Array Edge}{g:Option (Nat×Bool)}{d:Option Tmp}{T k:Nat}{x y:Operand}{i:Int}(hx:ev e x=some (.slice A l.length c))(hy:ev e y=some (.int .i64 i))(hT:SliceT P T E)(hs:SizeT P E sz)(hi:i=(k:Int))(hk:k≤l.length) : EvW P ⟨d,.slice T x (some y) none none,ty,pos,af,g⟩ n e w (.slice (if c=k then A else A.map (·.add (k*sz))) (l.drop k).length (c-k)):=fun a hf=>Xn7 hf hx hy hT hs hi hk
theorem Xho(hc:l.length≤c)(k:Nat) : (l.take k).length≤c:=Nat.le_trans (List.length_take_le' _ _) hc
theorem Xr6{P:Program}{a:Act}{n:Nat}{e:Env}{ty:TypeId}{pos:String}{af:Array Edge}{g:Option (Nat×Bool)}{d:Option Tmp}{T k m:Nat}{x y z:Operand}{i j:Int}(hf:Fr a n e)(hx:ev e x=some (.slice A l.length c))(hy:ev e y=some (.int .i64 i))(hz:ev e z=some (.int .i64 j))(hT:SliceT P T E)(hs:SizeT P E sz)(hi:i=(k:Int))(hj:j=(m:Int))(hk:k≤m)(hm:m≤l.length)(hc:l.length≤c) :
  Ev P ⟨d,.slice T x (some y) (some z) none,ty,pos,af,g⟩ a w (.slice (if c=k then A else A.map (·.add (k*sz))) ((l.take m).drop k).length (c-k)):=fun w' _=>by
 subst hi;subst hj
 have h1:m≤c:=by omega
 have h2:((l.take m).drop k).length=m-k:=by rw [List.length_drop,List.length_take,Nat.min_eq_left hm]
 rw [h2]
 simp [execOp,Instr.sliceAt,Instr.slice,Instr.sliceBounds,run_sliceBound,X0t hT,run_sizeOf' hs,hf.ev hx,hf.ev hy,hf.ev hz,hk,h1]
theorem Xrp{P:Program}{n:Nat}{e:Env}{ty:TypeId}{pos:String}{af:Array Edge}{g:Option (Nat×Bool)}{d:Option Tmp}{T k m:Nat}{x y z:Operand}{i j:Int}(hx:ev e x=some (.slice A l.length c))(hy:ev e y=some (.int .i64 i))(hz:ev e z=some (.int .i64 j))(hT:SliceT P T E)(hs:SizeT P E sz)(hi:i=(k:Int))(hj:j=(m:Int))(hk:k≤m)(hm:m≤l.length)(hc:l.length≤c) : EvW P ⟨d,.slice T x (some y) (some z) none,ty,pos,af,g⟩ n e w (.slice (if c=k then A else A.map (·.add (k*sz))) ((l.take m).drop k).length (c-k)):=fun a hf=>Xr6 hf hx hy hz hT hs hi hj hk hm hc
theorem Own.cap(h:Own w B0 E sz enc A c l) : l.length≤c:=by
 rcases h.2 with ⟨h1,h2⟩|⟨g,cap,cur,h1,h2,h3,h4,h5,h6⟩
 ·omega
 ·injection h1 with _ _ h1
  omega
theorem Own.of_flat(hsz:∀ x,(enc x).length=sz){b m:Nat}(h:Blk w b E (l.flatMap enc))(hb:B0≤b)(hl:l.length=m)(hk:m≤maxLen) : Own w B0 E sz enc (some ⟨b,0,none⟩) m l:=Own.of_blkL hsz h hb rfl hl hk
end
theorem Kept.app{α:Type}{b B B0:Nat}{w0 w w':World}{E:TypeId}{sz:Nat}{enc:α→List Value}{A:Option Addr}{c:Nat}{l:List α}(h:Kept b B w0 w)(ho:Own w B0 E sz enc A c l)(hg:w.grownBy w' (Value.slice A l.length c).ownBlock)(hB:B≤B0)(hs:B≤w.heap.size) : Kept b B w0 w':=
 ⟨hg.os.trans h.os,hg.tape.trans h.tape,hg.output.trans h.output,Nat.le_trans h.size hg.size,fun k hk hne=>(hg.block k (by omega) fun hk'=>by have:=(ho.block hk'.symm).1;omega).trans (h.block k hk hne)⟩
theorem Xf5{α:Type}{P:Program}{a:Act}{w:World}{n:Nat}{e:Env}{ty:TypeId}{pos:String}{af:Array Edge}{g:Option (Nat×Bool)}{d:Option Tmp}{T E:TypeId}{sz bytes B b0:Nat}{x y:Operand}{enc:α→List Value}{A2:Option Addr}{c2:Nat}{l2:List α}(hf:Fr a n e)(hx:ev e x=some (.slice (some ⟨b0,0,none⟩) 0 0))(hy:ev e y=some (.slice A2 l2.length c2))
  (hT:SliceT P T E) (hi:InfoT P E sz bytes) (hsz:∀ x,(enc x).length=sz) (hone:∀ x,(enc x).all one=true) (hb:Blk w b0 E []) (hr:Rd w B E enc A2 l2) (h63:l2.length≤maxLen) (hbytes:l2.length*bytes≤140737488355328) :
  Ef P ⟨d,.call ⟨.builtin .append,#[x,y],#[T,T]⟩,ty,pos,af,g⟩ a w (fun v w'=>∃ A' c',v=.slice A' l2.length c'∧Own w' b0 E sz enc A' c' l2∧Below w.heap.size w w'):=by
 by_cases hl2:l2=[]
 ·subst hl2
  obtain ⟨i,z,hi1,hi2,hi3,hi4,hi5,hi6⟩:=hi
  have hrun:(Builtin.append_ #[T,T] ty #[.slice (some ⟨b0,0,none⟩) 0 0,.slice A2 0 c2]).run P w=.ok (.slice (some ⟨b0,0,none⟩) 0 0) w:=by
   cases A2<;>simp [Builtin.append_,X0t hT,sizeOf,typeInfo,hi1,Builtin.lenOf,Builtin.firstCells,loadCells,loadCellsFrom,storeCells]
  refine (Ef.of_run (v:=.slice (some ⟨b0,0,none⟩) 0 0) (w':=w) ?_).mono fun v w' ⟨e1,e2⟩=>?_
  ·simp only [List.length_nil] at hy
   simp [execOp,resolve,invoke,builtin,hf.ev hx,hf.ev hy,hrun]
  ·subst e1;subst e2
   exact ⟨_,_,rfl,Own.empty hb (Nat.le_refl _),Below.refl _ _⟩
 ·have hown:Own w b0 E sz enc (some ⟨b0,0,none⟩) 0 ([] : List α):=Own.empty hb (Nat.le_refl _)
  obtain ⟨i,z,hi1,hi2,rfl,rfl,hi5,hi6⟩:=hi;obtain ⟨b,off,cs,fz,rfl,h2,h3,h4⟩:=hr hl2;have hlen2:=Xz hsz l2
  have hpos:0<l2.length:=List.length_pos_iff.2 hl2
  have h:=run_append_grow (P:=P) w T ty E i z hT hi1 hi2 ⟨b0,0,none⟩ 0 0 [] (by simp) (fun j u hu=>by simp at hu)
   ⟨b,off,none⟩ l2.length c2 (l2.flatMap enc) hlen2 (fun j u hu=>by
    have:=h4 j u hu
    rw [X1m]
    simp [World.cell?,h3,this])
   (by omega) (by simp only [maxLen] at h63;omega) (growslice_fits (by omega) (by simpa using hbytes))
  simp only [Nat.zero_add] at h
  refine (Ef.of_run (w':=w.drew.alloc (.cells (([] : List Value).toArray++(l2.flatMap enc).toArray++Builtin.zeroCells z.cells (grownCap w l2.length 0 E-l2.length)) E)) (v:=.slice (some ⟨w.heap.size,0,none⟩) l2.length (grownCap w l2.length 0 E)) ?_).mono fun v w' ⟨e1,e2⟩=>?_
  ·simp [execOp,resolve,invoke,builtin,hf.ev hx,hf.ev hy,h]
  ·subst e1;subst e2
   have hb0:=hb.lt;have hge:=grownCap_ge w l2.length 0 E
   refine ⟨_,_,rfl,?_,((Below.refl _ _).drew).alloc (Nat.le_refl _) _⟩
   refine ⟨Xz hsz _,.inr ⟨w.heap.size,_,_,rfl,by omega,heap_alloc_new w.drew _,hge,grownCap_le_maxLen w _ _ E h63,?_,?_⟩⟩
   ·simp only [Array.size_append,List.size_toArray,size_zeroCells,hi5,hlen2,List.length_nil,Nat.zero_add,← Nat.add_mul]
    congr 1
    omega
   ·rw [← hlen2]
    simp only [Array.toList_append,List.append_assoc,List.nil_append]
    exact List.take_left
theorem Xkd{α:Type}{P:Program}{w:World}{n:Nat}{e:Env}{ty:TypeId}{pos:String}{af:Array Edge}{g:Option (Nat×Bool)}{d:Option Tmp}{T E:TypeId}{sz bytes B b0:Nat}{x y:Operand}{enc:α→List Value}{A2:Option Addr}{c2:Nat}{l2:List α}(hx:ev e x=some (.slice (some ⟨b0,0,none⟩) 0 0))(hy:ev e y=some (.slice A2 l2.length c2))(hT:SliceT P T E)(hi:InfoT P E sz bytes)(hsz:∀ x,(enc x).length=sz)(hone:∀ x,(enc x).all one=true)(hb:Blk w b0 E [])(hr:Rd w B E enc A2 l2)(h63:l2.length≤maxLen)(hbytes:l2.length*bytes≤140737488355328) : EfW P ⟨d,.call ⟨.builtin .append,#[x,y],#[T,T]⟩,ty,pos,af,g⟩ n e w (fun v w'=>∃ A' c',v=.slice A' l2.length c'∧Own w' b0 E sz enc A' c' l2∧Below w.heap.size w w'):=fun a hf=>Xf5 hf hx hy hT hi hsz hone hb hr h63 hbytes
end Go.Proofs.YtblmmikapnflcaaGreatDoor
namespace Go.Proofs.YtblmmikapnflcaaGreatDoor
open Go.RowKit Go.Sort
theorem X58{w:World}{g n:Nat}{os:Array Obj}{cur:Array Value}{e:TypeId}{fr:Nat×Nat}(d:Array Int)(hb:w.heap[g]? = some (.cells cur e fr)) :
  (grow (putRow (Value.int .i64) (Sort.ahead w n) g 0 d) os).heap[g]? = some (.cells (putCells (Value.int .i64) 0 d cur) e fr):=by
 have hg:g<w.heap.size:=(Array.getElem?_eq_some_iff.1 hb).1
 rw [heap_grow_old _ _ (by simpa using hg)]
 simp [putRow,mapBlock,Sort.ahead,Array.getElem?_modify,hb,onCells]
theorem X42{w:World}{g n:Nat}{os:Array Obj}(d:Array Int) : w.grownBy (grow (putRow (Value.int .i64) (Sort.ahead w n) g 0 d) os) (some g):=by
 refine ⟨rfl,rfl,rfl,by simp,fun k hk hne=>?_⟩
 rw [heap_grow_old _ _ (by simpa using hk)]
 have:g≠k:=fun e=>hne (by rw [e])
 simp [putRow,mapBlock,Sort.ahead,Array.getElem?_modify,this]
theorem Xa4(l:List Int) : l.flatMap encI=l.map (Value.int .i64):=by
 induction l with
 | nil=>rfl
 | cons x l ih=>simp only [List.flatMap_cons,List.map_cons,ih];rfl
theorem Xe1(cur:Array Value)(d ts:List Int)(h:d.length≤cur.size)(ht:d.take ts.length=ts) : (putCells (Value.int .i64) 0 d.toArray cur).toList.take (ts.length*1)=ts.flatMap encI:=by
 have hl:ts.length≤d.length:=by
  have:=congrArg List.length ht
  rw [List.length_take] at this
  omega
 rw [Xa4,Nat.mul_one]
 apply List.ext_getElem?
 intro j
 by_cases hj:j<ts.length
 ·rw [List.getElem?_take_of_lt hj,Array.getElem?_toList]
  have h1:ts[j]? = d[j]?:=by
   conv=>lhs;rw [← ht]
   rw [List.getElem?_take_of_lt hj]
  have h2:j<d.length:=by omega
  rw [List.getElem?_map,h1]
  simp [putCells,h2,show j<cur.size by omega]
 ·rw [List.getElem?_take_eq_none (by omega),List.getElem?_eq_none (by simp;omega)]
theorem Xab{w:World}{g:Nat}{cur:Array Value}{e:TypeId}{l:List Int}(hb:w.heap[g]? = some (.cells cur e (0,0)))(ht:cur.toList.take (l.length*1)=l.flatMap encI) : Holds (Value.int .i64) w g 0 l.toArray:=by
 intro j hj
 have hj':j<l.length:=by simpa using hj
 refine ⟨?_,by simp [World.frozen?,hb]⟩
 rw [Xa4,Nat.mul_one] at ht
 have h1:(cur.toList.take l.length)[j]? = (l.map (Value.int .i64))[j]?:=by rw [ht]
 rw [List.getElem?_take_of_lt hj'] at h1
 simp only [World.cell?,hb,Nat.zero_add]
 simp only [Option.isSome_none,Bool.false_eq_true,if_false]
 rw [← Array.getElem?_toList,h1]
 simp [hj']
def sortI(l:List Int) : List Int:=l.mergeSort fun x y=>decide (x≤y)
theorem F94(w0:World)(B0:Nat)(A:Option Addr)(c:Nat)(l:List Int)(ho:Own w0 B0 3 1 encI A c l)(hl:l.length≤1000000000) :
  Ret Tryz.prog 188 [.slice A l.length c] w0 (fun _ w=>Own w B0 3 1 encI A c (sortI l)∧w0.grownBy w (Value.slice A l.length c).ownBlock):=by
 by_cases h0:l=[]
 ·subst h0
  refine Calls.mono (Any.slices_Sort_int_none Tryz.lays189 A c w0) fun e w ⟨e1,e2⟩=>⟨_,e1,?_⟩
  subst e2
  exact ⟨by simpa [sortI] using ho,World.grownBy.refl w _⟩
 ·rcases ho.2 with ⟨h1,h2⟩|⟨g,cap,cur,h1,h2,h3,h4,h5,h6,h7⟩
  ·exact absurd (List.eq_nil_of_length_eq_zero h2) h0
  ·injection h1 with h1 _ h1''
   subst h1;subst h1''
   have hs:(sortI l).length=l.length:=by simp [sortI]
   refine Calls.mono (Tryz.slices_Sort_int g 0 c l w0 (Xab h3 h7) (Array.getElem?_eq_some_iff.1 h3).1 (by omega)) fun e w ⟨e1,n,os,e2⟩=>⟨_,e1,?_⟩
   subst e2
   refine ⟨⟨Xz X02 _,.inr ⟨g,c,_,by rw [hs],h2,X58 _ h3,by omega,h5,by simp [putCells,h6],?_⟩⟩,?_⟩
   ·exact Xe1 cur (sortI l) (sortI l) (by omega) List.take_length
   ·exact X42 _
theorem Xdg(l:List Int) : (Lib.compact l).length≤l.length:=by
 unfold Lib.compact Lib.compactUpTo
 rw [List.length_map]
 exact Nat.le_trans (List.length_filter_le _ _) (by simp)
theorem F95(w0:World)(B0:Nat)(A:Option Addr)(c:Nat)(l:List Int)(ho:Own w0 B0 3 1 encI A c l)(hl:l.length≤1000000000) :
  Ret Tryz.prog 189 [.slice A l.length c] w0 (fun v w=>v=.slice A (Lib.compact l).length c∧Own w B0 3 1 encI A c (Lib.compact l)∧w0.grownBy w (Value.slice A l.length c).ownBlock):=by
 by_cases h0:l=[]
 ·subst h0
  refine Calls.mono (Tryz.slices_Compact_int_empty A c w0) fun e w ⟨e1,e2⟩=>⟨_,e1,?_⟩
  subst e2
  exact ⟨rfl,ho,World.grownBy.refl w _⟩
 ·rcases ho.2 with ⟨h1,h2⟩|⟨g,cap,cur,h1,h2,h3,h4,h5,h6,h7⟩
  ·exact absurd (List.eq_nil_of_length_eq_zero h2) h0
  ·injection h1 with h1 _ h1''
   subst h1;subst h1''
   have hc:=Xdg l
   refine Calls.mono (Tryz.slices_Compact_int g 0 c l w0 (Xab h3 h7) (by omega) h4) fun e w ⟨e1,q,e2⟩=>⟨_,e1,rfl,?_⟩
   have e3:w=grow (putRow (Value.int .i64) (Sort.ahead w0 q) g 0 (Lib.compact l++List.replicate (l.length-(Lib.compact l).length) 0).toArray) #[]:=by rw [grow_empty];exact e2
   subst e3
   refine ⟨⟨Xz X02 _,.inr ⟨g,c,_,rfl,h2,X58 _ h3,by omega,h5,by simp [putCells,h6],?_⟩⟩,?_⟩
   ·exact Xe1 cur _ (Lib.compact l) (by simp;omega) List.take_left
   ·exact X42 _
theorem Xyo(w0:World)(B0:Nat)(A:Option Addr)(c:Nat)(l:List Int)(m:Nat)(hm:m=l.length)(ho:Own w0 B0 3 1 encI A c l)(hl:l.length≤1000000000) :
  Ret Tryz.prog 189 [.slice A m c] w0 (fun v w=>v=.slice A (Lib.compact l).length c∧Own w B0 3 1 encI A c (Lib.compact l)∧w0.grownBy w (Value.slice A l.length c).ownBlock):=by
 subst hm
 exact F95 w0 B0 A c l ho hl
def growRen:Go.Shelf.Ren:=⟨fun|4=>211|n=>n,fun|22=>43|25=>3|n=>n,fun|n=>n⟩
theorem Xg9:Lays8.n4 Tryz.prog growRen:={
 mixed:=by kernel_rfl
 f4:=⟨Tryz.f211.name,by decide,Tryz.func211.trans (congrArg some (by kernel_rfl))⟩
 t0:=Tryz.underlying0
 a0:=Tryz.isAgg0
 z0:=Tryz.sizeOf0
 v0:=Tryz.zeroValue0
 t3:=Tryz.underlying3
 a3:=Tryz.isAgg3
 z3:=Tryz.sizeOf3
 v3:=Tryz.zeroValue3
 t4:=Tryz.underlying4
 a4:=Tryz.isAgg4
 z4:=Tryz.sizeOf4
 v4:=Tryz.zeroValue4
 t9:=Tryz.underlying9
 a9:=Tryz.isAgg9
 z9:=Tryz.sizeOf9
 v9:=Tryz.zeroValue9
 t20:=Tryz.underlying20
 a20:=Tryz.isAgg20
 z20:=Tryz.sizeOf20
 v20:=Tryz.zeroValue20
 t22:=Tryz.underlying43
 a22:=Tryz.isAgg43
 z22:=Tryz.sizeOf43
 v22:=Tryz.zeroValue43 }
theorem Xyy(w0:World)(n:Nat)(hn:n≤1000000000) : Ret Tryz.prog 211 [.slice none 0 0,.int .i64 (n:Int)] w0 (fun v w=>∃ A c,v=.slice A 0 c∧Own w w0.heap.size 3 1 encI A c ([] : List Int)∧Below w0.heap.size w0 w):=by
 by_cases h0:n=0
 ·subst h0
  refine Calls.mono (Any8.slices_Grow_room Xg9 none 0 0 0 w0 (by omega) (by omega) (by omega) (by omega)) fun e w ⟨e1,e2⟩=>⟨_,e1,none,0,rfl,?_⟩
  subst e2
  exact ⟨Own.nil _ _ _ _ _,Below.refl _ _⟩
 ·obtain ⟨i,z,hi1,hi2,hi3,hi4,hi5,hi6⟩:=X1o
  refine Calls.mono (Any8.slices_Grow_grow Xg9 i z hi1 hi2 (by omega) none 0 0 n [] w0 (by omega) (by omega) (by rw [hi4];omega) (by omega) (by simp) (fun _=>rfl) (fun a h=>by cases h)) fun e w ⟨e1,e2⟩=>⟨_,e1,_,_,rfl,?_⟩
  subst e2
  have hge:=grownCap_ge w0 (0+n) 0 (growRen.t 25)
  refine ⟨⟨rfl,.inr ⟨w0.heap.size,_,_,rfl,Nat.le_refl _,heap_alloc_new w0.drew _,Nat.zero_le _,grownCap_le_maxLen w0 _ _ _ (by simp only [maxLen];omega),?_,by simp⟩⟩,((Below.refl _ _).drew).alloc (Nat.le_refl _) _⟩
  simp only [Array.size_append,List.size_toArray,size_zeroCells,hi5,List.length_nil,Nat.zero_add,Nat.mul_one] at hge ⊢
  omega
end Go.Proofs.YtblmmikapnflcaaGreatDoor
namespace Go.Proofs.YtblmmikapnflcaaGreatDoor
open Go.RowKit
structure Sl where (A:Option Addr) (c:Nat) (l:List Int)
def encS(s:Sl) : List Value:=[.slice s.A s.l.length s.c]
theorem X35:∀ x,(encS x).length=1:=fun _=>rfl
theorem Xku:∀ x,(encS x).all one=true:=fun _=>rfl
structure Rp where (pos:Int) (old new:List Gt)
theorem X9n{α β:Type}{f:α→List β}{l:List α}{k:Nat}{u:α}(h:l[k]? = some u) : (l.take (k+1)).flatMap f=(l.take k).flatMap f++f u:=by
 rw [List.take_add_one,h]
 simp
theorem Xb4{α β:Type}(f:α→List β)(l:List α)(k:Nat) : ((l.take k).flatMap f).length≤(l.flatMap f).length:=by
 conv=>rhs;rw [← List.take_append_drop k l]
 rw [List.flatMap_append,List.length_append]
 omega
theorem Xjs{α β:Type}(f:α→List β){l:List α}{k:Nat}(h:l.length≤k) : (l.take k).flatMap f=l.flatMap f:=by rw [List.take_of_length_le h]
def unionI(p q:List Int) : List Int:=Lib.compact (sortI (p++(q++[])))
def qubI(g:Gt) : List Int:=if g.k=12 then [] else if inR g.k 9 11=true then [g.a,g.b] else [g.a]
def usedI(l:List Gt) : List Int:=unionI (l.flatMap qubI) []
theorem X36(g:Gt) : (qubI g).length≤2:=by unfold qubI;split<;>(try split)<;>simp
def setAll:List Int→Nat→List Int→List Int
 | [],_,to=>to
 | q::l,i,to=>setAll l (i+1) (to.set q.toNat (i:Int))
def numbI(l:List Int) : List Int:=setAll l 0 [0,0,0,0,0]
theorem X8n:∀ (l:List Int) (i:Nat) (to:List Int),(setAll l i to).length=to.length
 | [],_,_=>rfl
 | _::l,i,to=>by rw [setAll,X8n l];simp
theorem X7i:∀ (l:List Int) (q:Int) (i:Nat) (to:List Int),setAll (l++[q]) i to=(setAll l i to).set q.toNat ((i+l.length:Nat) : Int)
 | [],q,i,to=>by simp [setAll]
 | x::l,q,i,to=>by
  rw [List.cons_append,setAll,setAll,X7i l]
  congr 2
  simp only [List.length_cons]
  omega
theorem Xal{l:List Int}{k:Nat}{u:Int}(h:l[k]? = some u) : numbI (l.take (k+1))=(numbI (l.take k)).set u.toNat (k:Int):=by
 have hk:=(List.getElem?_eq_some_iff.1 h).1
 unfold numbI
 rw [List.take_add_one,h,Option.toList_some,X7i,List.length_take,Nat.min_eq_left (by omega),Nat.zero_add]
theorem X6h(l:List Int) : (numbI l).length=5:=by rw [numbI,X8n];rfl
def mapG(to:List Int)(g:Gt) : Gt:=⟨g.k,if g.k=12 then g.a else to.getD g.a.toNat 0,if inR g.k 9 11=true then to.getD g.b.toNat 0 else g.b⟩
def mapI(l:List Gt)(to:List Int) : List Gt:=l.map (mapG to)
theorem Xl2{α β:Type}{f:α→β}{l:List α}{k:Nat}{u:α}(h:l[k]? = some u) : (l.take (k+1)).map f=(l.take k).map f++[f u]:=by
 rw [List.take_add_one,h]
 simp
theorem X5t{l:List Int}{k:Nat}(h:k<l.length) : l[k]? = some (l.getD k 0):=by
 rw [List.getD_eq_getElem?_getD,List.getElem?_eq_getElem h];rfl
def vrI(n:Int)(r:Rp) : Bool:=inR n 1 5&&inR r.pos 0 400&&decide ((r.old.length:Int)≤40)&&decide ((r.new.length:Int)≤40)&&!(r.old.any fun x=>!gOk n x)&&!(r.new.any fun x=>!gOk n x)
def oA(A:Option Addr)(m:Nat) : Addr:=match A with
 | some p=>⟨p.block,m,none⟩
 | none=>⟨0,m,none⟩
theorem X34{l vs:List Value}{off:Nat}(h:off+vs.length≤l.length)(i:Nat) : (splice l off vs)[i]? = if i<off then l[i]? else if i<off+vs.length then vs[i-off]? else l[i]?:=by
 unfold splice
 have h1:(l.take off).length=off:=by rw [List.length_take];omega
 by_cases h2:i<off
 ·rw [if_pos h2,List.append_assoc,List.getElem?_append_left (by omega),List.getElem?_take_of_lt h2]
 ·rw [if_neg h2]
  by_cases h3:i<off+vs.length
  ·rw [if_pos h3,List.getElem?_append_left (by rw [List.length_append];omega),List.getElem?_append_right (by omega),h1]
  ·rw [if_neg h3,List.getElem?_append_right (by rw [List.length_append];omega),List.length_append,h1,List.getElem?_drop]
   congr 1
   omega
theorem X3e{l vs:List Value}{off:Nat}(h:off+vs.length≤l.length) : (splice l off vs).length=l.length:=by
 unfold splice
 simp only [List.length_append,List.length_take,List.length_drop]
 omega
theorem Xdk{l x vs:List Value}{o j:Nat}(hx:∀ i,i<x.length→l[o+i]? = x[i]?)(h1:o+x.length≤l.length)(h2:j+vs.length≤x.length) : splice l (o+j) vs=splice l o (splice x j vs):=by
 have h3:=X3e h2
 apply List.ext_getElem?
 intro i
 rw [X34 (by omega),X34 (by omega),h3]
 by_cases a1:i<o
 ·rw [if_pos (by omega),if_pos a1]
 ·rw [if_neg a1]
  by_cases a2:i<o+x.length
  ·rw [if_pos a2,X34 h2]
   by_cases a3:i<o+j
   ·rw [if_pos a3,if_pos (show i-o<j by omega),← hx (i-o) (by omega)];congr 1;omega
   ·rw [if_neg a3,if_neg (show ¬ i-o<j by omega)]
    by_cases a4:i<o+j+vs.length
    ·rw [if_pos a4,if_pos (show i-o<j+vs.length by omega)];congr 1;omega
    ·rw [if_neg a4,if_neg (show ¬ i-o<j+vs.length by omega),← hx (i-o) (by omega)];congr 1;omega
  ·rw [if_neg a2,if_neg (by omega),if_neg (by omega)]
theorem Xcx{l vs:List Value}{off N:Nat}(h:off+vs.length≤N)(hN:N≤l.length) : (splice l off vs).take N=splice (l.take N) off vs:=by
 apply List.ext_getElem?
 intro i
 by_cases hi:i<N
 ·rw [List.getElem?_take_of_lt hi,X34 (by omega),X34 (by rw [List.length_take];omega),List.getElem?_take_of_lt hi]
 ·rw [List.getElem?_take_eq_none (by omega),List.getElem?_eq_none]
  rw [X3e (by rw [List.length_take];omega),List.length_take];omega
theorem Xgb{α:Type}{enc:α→List Value}{sz:Nat}(hsz:∀ x,(enc x).length=sz) : ∀ (l:List α) (k i:Nat) (x:α),l[k]? = some x→i<sz→(l.flatMap enc)[k*sz+i]? = (enc x)[i]?
 | [],k,i,x,h,_=>by simp at h
 | y::l,0,i,x,h,hi=>by
  simp at h;subst h
  rw [List.flatMap_cons,Nat.zero_mul,Nat.zero_add,List.getElem?_append_left (by rw [hsz];exact hi)]
 | y::l,k+1,i,x,h,hi=>by
  have h':l[k]? = some x:=by simpa using h
  have e:(k+1)*sz+i=sz+(k*sz+i):=by rw [Nat.add_mul];omega
  rw [List.flatMap_cons,e,List.getElem?_append_right (by rw [hsz];omega),hsz,Nat.add_sub_cancel_left]
  exact Xgb hsz l k i x h' hi
section
variable {P : Program} {a : Act} {w w' : World} {n : Nat} {e : Env} {ty : TypeId} {pos : String} {af : Array Edge} {g : Option (Nat × Bool)} {d : Option Tmp} {α : Type}
theorem Xdw{T E:TypeId}{sz B0 k m:Nat}{x y:Operand}{enc:α→List Value}{A:Option Addr}{c:Nat}{l:List α}{i:Int}(hf:Fr a n e)(hx:ev e x=some (.slice A m c))(hy:ev e y=some (.int .i64 i))(hT:SliceT P T E)(hs:SizeT P E sz)
  (ho:Own w' B0 E sz enc A c l) (hm:m=l.length) (hi:i=(k:Int)) (hk:k<l.length) : Ev P ⟨d,.indexAddr T x y,ty,pos,af,g⟩ a w (.pointer (some (oA A (k*sz)))):=by
 subst hm
 rcases ho.2 with ⟨h1,h2⟩|⟨b,cap,cur,h1,h2,h3,h4⟩
 ·omega
 ·injection h1 with h1
  rw [h1] at hx ⊢
  exact Xas (b:=b) (off:=k*sz) hf hx hy hT hs hi hk rfl
theorem X6l{T E:TypeId}{sz B0 k m:Nat}{x y:Operand}{enc:α→List Value}{A:Option Addr}{c:Nat}{l:List α}{i:Int}(hx:ev e x=some (.slice A m c))(hy:ev e y=some (.int .i64 i))(hT:SliceT P T E)(hs:SizeT P E sz)(ho:Own w' B0 E sz enc A c l)(hm:m=l.length)(hi:i=(k:Int))(hk:k<l.length) : EvW P ⟨d,.indexAddr T x y,ty,pos,af,g⟩ n e w (.pointer (some (oA A (k*sz)))):=fun a hf=>Xdw hf hx hy hT hs ho hm hi hk
theorem Xdr{T f k m:Nat}{x:Operand}{A:Option Addr}(hf:Fr a n e)(hx:ev e x=some (.pointer (some (oA A m))))(hF:FieldT P T f k){m':Nat}(hm:m+k=m') : Ev P ⟨d,.fieldAddr T x f,ty,pos,af,g⟩ a w (.pointer (some (oA A m'))):=by
 subst hm
 have h:=X90 (P:=P) (w:=w) (d:=d) (ty:=ty) (pos:=pos) (af:=af) (g:=g) hf hx hF
 have e:(oA A m).add k=oA A (m+k):=by cases A<;>simp [oA,Addr.add]
 rw [e] at h
 exact h
theorem X70{T f k m:Nat}{x:Operand}{A:Option Addr}(hx:ev e x=some (.pointer (some (oA A m))))(hF:FieldT P T f k){m':Nat}(hm:m+k=m') : EvW P ⟨d,.fieldAddr T x f,ty,pos,af,g⟩ n e w (.pointer (some (oA A m'))):=fun a hf=>Xdr hf hx hF hm
theorem Xd7{t E:TypeId}{sz B0 k j m n1:Nat}{x y:Operand}{enc:α→List Value}{A:Option Addr}{c:Nat}{l:List α}{v:Value}{vs:List Value}{x0 u:α}(hf:Fr a n e)(hx:ev e x=some (.pointer (some (oA A m))))(hy:ev e y=some v)(hs:SizeT P t n1)
  (ho:Own w B0 E sz enc A c l) (hsz:∀ x,(enc x).length=sz) (hv:v.cells.toList=vs) (hn:Nat.beq vs.length n1=true) (h1:vs.all one=true) (hm:k*sz+j=m) (hj:j+n1≤sz) (hk:l[k]? = some x0) (hu:splice (enc x0) j vs=enc u) :
  Ef P ⟨d,.store t x y,ty,pos,af,g⟩ a w (fun _ w'=>Own w' B0 E sz enc A c (l.set k u)∧w.grownBy w' (Value.slice A l.length c).ownBlock):=by
 have hkl:k<l.length:=(List.getElem?_eq_some_iff.1 hk).1
 rcases ho.2 with ⟨e1,e2⟩|⟨b,cap,cur,e1,e2,e3,e4,e5,e6,e7⟩
 ·omega
 ·injection e1 with e1 _ e1'
  subst hm;subst e1'
  have hcl:cur.toList.length=c*sz:=Array.length_toList.trans e6
  have hN:l.length*sz≤cur.toList.length:=by rw [hcl];exact Nat.mul_le_mul_right _ e4
  have hks:k*sz+sz≤l.length*sz:=by
   have:=Nat.mul_le_mul_right sz (show k+1≤l.length by omega)
   rwa [Nat.add_mul,Nat.one_mul] at this
  have hn':vs.length=n1:=Nat.eq_of_beq_eq_true hn
  rw [e1] at hx
  have hb:Blk w b E cur.toList:=by unfold Blk;rw [e3]
  refine (X88 (b:=b) (off:=k*sz+j) (vs:=vs) hf hx hy hs hb hv hn h1 (by rw [Nat.ble_eq];omega) rfl).mono fun _ w' ⟨hO,hB⟩=>?_
  have hlen:((l.set k u).flatMap enc).length=(l.set k u).length*sz:=Xz hsz _
  refine ⟨⟨hlen,.inr ⟨b,c,_,by rw [e1],e2,hB,by simp;omega,e5,?_,?_⟩⟩,?_⟩
  ·rw [List.size_toArray,X3e (by omega),hcl]
  ·simp only [List.length_set]
   rw [Xcx (by omega) hN,e7,Xdk (x:=enc x0) (fun i hi=>?_) (by rw [Xz hsz,hsz];omega) (by rw [hsz];omega),hu]
   ·exact X4g hsz l k u hkl
   ·exact Xgb hsz l k i x0 hk (by rw [← hsz x0];exact hi)
  ·rw [e1]
   exact ⟨hO.os,hO.tape,hO.output,by rw [hO.size];exact Nat.le_refl _,fun q _ hne=>hO.block q fun e=>hne (by rw [e];rfl)⟩
theorem X71{t E:TypeId}{sz B0 k j m n1:Nat}{x y:Operand}{enc:α→List Value}{A:Option Addr}{c:Nat}{l:List α}{v:Value}{vs:List Value}{x0 u:α}(hx:ev e x=some (.pointer (some (oA A m))))(hy:ev e y=some v)(hs:SizeT P t n1)(ho:Own w B0 E sz enc A c l)(hsz:∀ x,(enc x).length=sz)(hv:v.cells.toList=vs)(hn:Nat.beq vs.length n1=true)(h1:vs.all one=true)(hm:k*sz+j=m)(hj:j+n1≤sz)(hk:l[k]? = some x0)(hu:splice (enc x0) j vs=enc u) : EfW P ⟨d,.store t x y,ty,pos,af,g⟩ n e w (fun _ w'=>Own w' B0 E sz enc A c (l.set k u)∧w.grownBy w' (Value.slice A l.length c).ownBlock):=fun a hf=>Xd7 hf hx hy hs ho hsz hv hn h1 hm hj hk hu
end
section
variable {P : Program} {ops : Array Oper} {a : Act} {w : World} {n d : Nat} {e : Env} {ty : TypeId} {pos : String} {af : Array Edge} {g : Option (Nat × Bool)} {α : Type}
end
def Apart(A A':Option Addr) : Prop:=∀ p q,A=some p→A'=some q→p.block≠q.block
section
variable {α β : Type} {w w' : World} {B B0 B1 : Nat} {E E' : TypeId} {sz sz' : Nat} {enc : α → List Value} {enc' : β → List Value} {A A' : Option Addr} {c c' : Nat} {l : List α} {l' : List β}
theorem Own.apart(h:Own w B E sz enc A c l)(h':Own w' B0 E' sz' enc' A' c' l')(hB:w.heap.size≤B0) : Apart A A':=fun p q hp hq=>by
 rcases h.2 with ⟨h1,_⟩|⟨g,cap,cur,h1,h2,h3,_⟩
 ·injection h1 with h1;rw [h1] at hp;cases hp
 ·rcases h'.2 with ⟨k1,_⟩|⟨g',cap',cur',k1,k2,k3,_⟩
  ·injection k1 with k1;rw [k1] at hq;cases hq
  ·injection h1 with h1
   injection k1 with k1
   rw [h1] at hp
   rw [k1] at hq
   injection hp with hp
   injection hq with hq
   subst hp;subst hq
   have:=(Array.getElem?_eq_some_iff.1 h3).1
   intro e
   simp only at e
   omega
theorem Own.appP(h:Own w B1 E' sz' enc' A' c' l')(hg:w.grownBy w' (Value.slice A l.length c).ownBlock)(ha:Apart A' A) : Own w' B1 E' sz' enc' A' c' l':=by
 refine ⟨h.1,?_⟩
 rcases h.2 with h1|⟨g,cap,cur,h1,h2,h3,h4⟩
 ·exact .inl h1
 ·refine .inr ⟨g,cap,cur,h1,h2,(hg.block g (Array.getElem?_eq_some_iff.1 h3).1 fun hk=>?_).trans h3,h4⟩
  injection h1 with h1
  cases A with
  | none=>simp [Value.ownBlock] at hk
  | some q=>
   simp only [Value.ownBlock,Option.some.injEq] at hk
   exact ha _ q h1 rfl hk
theorem gbel{r:Option Nat}{w0 w w':World}(h:w0.grownBy w r)(hE:Below w.heap.size w w') : w0.grownBy w' r:=
 ⟨hE.os.trans h.os,hE.tape.trans h.tape,hE.output.trans h.output,Nat.le_trans h.size hE.size,fun k hk hn=>(hE.block k (Nat.lt_of_lt_of_le hk h.size)).trans (h.block k hk hn)⟩
theorem Xcc(A:Option Addr)(n m c d:Nat) : (Value.slice A n c).ownBlock=(Value.slice A m d).ownBlock:=by cases A<;>rfl
theorem gtr{A:Option Addr}{n m c d:Nat}{w0 w w':World}(h:w0.grownBy w (Value.slice A n c).ownBlock)(k:w.grownBy w' (Value.slice A m d).ownBlock) : w0.grownBy w' (Value.slice A n c).ownBlock:=
 ⟨k.os.trans h.os,k.tape.trans h.tape,k.output.trans h.output,Nat.le_trans h.size k.size,fun q hq hn=>(k.block q (Nat.lt_of_lt_of_le hq h.size) (by rw [Xcc A m n d c];exact hn)).trans (h.block q hq hn)⟩
theorem Own.len{m:Nat}(h:Own w B E sz enc A c l)(hm:m=l.length) : Own w B E sz enc A c l∧Value.slice A m c=Value.slice A l.length c:=⟨h,by rw [hm]⟩
theorem Apart.symm(h:Apart A A') : Apart A' A:=fun p q hp hq e=>h q p hq hp e.symm
end
def DeepI(w:World)(B:Nat)(l:List Sl) : Prop:=∀ s ∈ l,Rd w B 3 encI s.A s.l
section
variable {w w' : World} {B : Nat} {l : List Sl}
theorem DeepI.below(h:DeepI w B l)(hb:Below w.heap.size w w') : DeepI w' B l:=fun s hs=>(h s hs).below hb
theorem DeepI.top(h:DeepI w B l) : DeepI w w.heap.size l:=fun s hs=>(h s hs).top
theorem DeepI.only{b:Nat}(h:DeepI w B l)(ho:Only b w w')(hB:B≤b) : DeepI w' B l:=fun s hs=>(h s hs).only ho hB
theorem DeepI.onlyT{b:Nat}{T:TypeId}{lc:List Value}(h:DeepI w B l)(ho:Only b w w')(hb:Blk w b T lc)(hT:Nat.beq 3 T=false) : DeepI w' B l:=fun s hs=>(h s hs).onlyT ho hb hT
theorem DeepI.appB{B0:Nat}{E':TypeId}{sz:Nat}{α:Type}{enc:α→List Value}{A:Option Addr}{c:Nat}{m:List α}(h:DeepI w B l)(ho:Own w B0 E' sz enc A c m)(hg:w.grownBy w' (Value.slice A m.length c).ownBlock)(hB:B≤B0) : DeepI w' B l:=fun s hs=>(h s hs).appB ho hg hB
theorem DeepI.appT{B0:Nat}{E':TypeId}{sz:Nat}{α:Type}{enc:α→List Value}{A:Option Addr}{c:Nat}{m:List α}(h:DeepI w B l)(ho:Own w B0 E' sz enc A c m)(hg:w.grownBy w' (Value.slice A m.length c).ownBlock)(hT:Nat.beq E' 3=false) : DeepI w' B l:=fun s hs=>(h s hs).appT ho hg hT
theorem DeepI.nil(w:World)(B:Nat) : DeepI w B []:=fun s hs=>by cases hs
theorem DeepI.snoc{s:Sl}(h:DeepI w B l)(hr:Rd w B 3 encI s.A s.l) : DeepI w B (l++[s]):=fun t ht=>by
 rcases List.mem_append.1 ht with h1|h1
 ·exact h t h1
 ·rw [List.mem_singleton] at h1;subst h1;exact hr
theorem DeepI.eq{l':List Sl}(h:DeepI w B l)(e:l'=l) : DeepI w B l':=by rw [e];exact h
end
def LowI(B:Nat)(l:List Sl) : Prop:=∀ s ∈ l,∀ p,s.A=some p→B≤p.block
def Und(A:Option Addr)(B:Nat) : Prop:=∀ p,A=some p→p.block<B
theorem LowI.nil(B:Nat) : LowI B []:=fun s hs=>by cases hs
theorem LowI.snoc{B:Nat}{l:List Sl}{s:Sl}(h:LowI B l)(hs:∀ p,s.A=some p→B≤p.block) : LowI B (l++[s]):=fun t ht=>by
 rcases List.mem_append.1 ht with h1|h1
 ·exact h t h1
 ·rw [List.mem_singleton] at h1;subst h1;exact hs
section
variable {α : Type} {w w' : World} {B B1 : Nat} {E : TypeId} {sz : Nat} {enc : α → List Value} {A : Option Addr} {c : Nat} {l : List α} {m : List Sl}
end
theorem Apart.of_away{A:Option Addr}{b:Nat}(h:Away A b) : Apart A (some ⟨b,0,none⟩):=fun p q hp hq e=>h p hp (by injection hq with hq;rw [e,← hq])
theorem Apart.app{α:Type}{w:World}{B:Nat}{E:TypeId}{sz:Nat}{enc:α→List Value}{A A1 A2:Option Addr}{c:Nat}{l:List α}(h:Own w B E sz enc A c l)(ha:Apart A A1)(hat:∀ b,b<w.heap.size→Away A1 b→Away A2 b) : Apart A A2:=by
 intro p q hp hq
 rcases h.2 with ⟨h1,_⟩|⟨g,cap,cur,h1,_,h3,_⟩
 ·injection h1 with h1;rw [h1] at hp;cases hp
 ·injection h1 with h1
  rw [h1] at hp
  injection hp with hp
  have hlt:p.block<w.heap.size:=by rw [← hp];exact (Array.getElem?_eq_some_iff.1 h3).1
  have haw:Away A1 p.block:=fun r hr e=>ha p r (by rw [h1,hp]) hr e.symm
  exact fun e=>hat _ hlt haw q hq e.symm
theorem Xda{α:Type}{P:Program}{a:Act}{w:World}{n:Nat}{e:Env}{ty:TypeId}{pos:String}{af:Array Edge}{g:Option (Nat×Bool)}{d:Option Tmp}{T E:TypeId}{sz bytes B b0:Nat}{x y:Operand}{enc:α→List Value}{A2:Option Addr}{c2:Nat}{l2:List α}(hf:Fr a n e)(hx:ev e x=some (.slice (some ⟨b0,0,none⟩) 0 0))(hy:ev e y=some (.slice A2 l2.length c2))
  (hT:SliceT P T E) (hi:InfoT P E sz bytes) (hsz:∀ x,(enc x).length=sz) (hone:∀ x,(enc x).all one=true) (hb:Blk w b0 E []) (hr:Rd w B E enc A2 l2) (h63:l2.length≤maxLen) (hbytes:l2.length*bytes≤140737488355328) :
  Ef P ⟨d,.call ⟨.builtin .append,#[x,y],#[T,T]⟩,ty,pos,af,g⟩ a w (fun v w'=>∃ A' c',v=.slice A' l2.length c'∧Own w' b0 E sz enc A' c' l2∧Below w.heap.size w w'∧∀ b,b<w.heap.size→b≠b0→Away A' b):=by
 by_cases hl2:l2=[]
 ·subst hl2
  obtain ⟨i,z,hi1,hi2,hi3,hi4,hi5,hi6⟩:=hi
  have hrun:(Builtin.append_ #[T,T] ty #[.slice (some ⟨b0,0,none⟩) 0 0,.slice A2 0 c2]).run P w=.ok (.slice (some ⟨b0,0,none⟩) 0 0) w:=by
   cases A2<;>simp [Builtin.append_,X0t hT,sizeOf,typeInfo,hi1,Builtin.lenOf,Builtin.firstCells,loadCells,loadCellsFrom,storeCells]
  refine (Ef.of_run (v:=.slice (some ⟨b0,0,none⟩) 0 0) (w':=w) ?_).mono fun v w' ⟨e1,e2⟩=>?_
  ·simp only [List.length_nil] at hy
   simp [execOp,resolve,invoke,builtin,hf.ev hx,hf.ev hy,hrun]
  ·subst e1;subst e2
   exact ⟨_,_,rfl,Own.empty hb (Nat.le_refl _),Below.refl _ _,fun b _ hne=>Away.ne hne⟩
 ·have hown:Own w b0 E sz enc (some ⟨b0,0,none⟩) 0 ([] : List α):=Own.empty hb (Nat.le_refl _)
  obtain ⟨i,z,hi1,hi2,rfl,rfl,hi5,hi6⟩:=hi;obtain ⟨b,off,cs,fz,rfl,h2,h3,h4⟩:=hr hl2;have hlen2:=Xz hsz l2
  have hpos:0<l2.length:=List.length_pos_iff.2 hl2
  have h:=run_append_grow (P:=P) w T ty E i z hT hi1 hi2 ⟨b0,0,none⟩ 0 0 [] (by simp) (fun j u hu=>by simp at hu)
   ⟨b,off,none⟩ l2.length c2 (l2.flatMap enc) hlen2 (fun j u hu=>by
    have:=h4 j u hu
    rw [X1m]
    simp [World.cell?,h3,this])
   (by omega) (by simp only [maxLen] at h63;omega) (growslice_fits (by omega) (by simpa using hbytes))
  simp only [Nat.zero_add] at h
  refine (Ef.of_run (w':=w.drew.alloc (.cells (([] : List Value).toArray++(l2.flatMap enc).toArray++Builtin.zeroCells z.cells (grownCap w l2.length 0 E-l2.length)) E)) (v:=.slice (some ⟨w.heap.size,0,none⟩) l2.length (grownCap w l2.length 0 E)) ?_).mono fun v w' ⟨e1,e2⟩=>?_
  ·simp [execOp,resolve,invoke,builtin,hf.ev hx,hf.ev hy,h]
  ·subst e1;subst e2
   have hb0:=hb.lt;have hge:=grownCap_ge w l2.length 0 E
   refine ⟨_,_,rfl,?_,((Below.refl _ _).drew).alloc (Nat.le_refl _) _,fun b hb _=>Away.ne (by omega)⟩
   refine ⟨Xz hsz _,.inr ⟨w.heap.size,_,_,rfl,by omega,heap_alloc_new w.drew _,hge,grownCap_le_maxLen w _ _ E h63,?_,?_⟩⟩
   ·simp only [Array.size_append,List.size_toArray,size_zeroCells,hi5,hlen2,List.length_nil,Nat.zero_add,← Nat.add_mul]
    congr 1
    omega
   ·rw [← hlen2]
    simp only [Array.toList_append,List.append_assoc,List.nil_append]
    exact List.take_left
theorem X0u{α:Type}{P:Program}{w:World}{n:Nat}{e:Env}{ty:TypeId}{pos:String}{af:Array Edge}{g:Option (Nat×Bool)}{d:Option Tmp}{T E:TypeId}{sz bytes B b0:Nat}{x y:Operand}{enc:α→List Value}{A2:Option Addr}{c2:Nat}{l2:List α}(hx:ev e x=some (.slice (some ⟨b0,0,none⟩) 0 0))(hy:ev e y=some (.slice A2 l2.length c2))(hT:SliceT P T E)(hi:InfoT P E sz bytes)(hsz:∀ x,(enc x).length=sz)(hone:∀ x,(enc x).all one=true)(hb:Blk w b0 E [])(hr:Rd w B E enc A2 l2)(h63:l2.length≤maxLen)(hbytes:l2.length*bytes≤140737488355328) : EfW P ⟨d,.call ⟨.builtin .append,#[x,y],#[T,T]⟩,ty,pos,af,g⟩ n e w (fun v w'=>∃ A' c',v=.slice A' l2.length c'∧Own w' b0 E sz enc A' c' l2∧Below w.heap.size w w'∧∀ b,b<w.heap.size→b≠b0→Away A' b):=fun a hf=>Xda hf hx hy hT hi hsz hone hb hr h63 hbytes
theorem Apart.new0{α:Type}{w:World}{B b0:Nat}{E:TypeId}{sz:Nat}{enc:α→List Value}{A A':Option Addr}{c:Nat}{l:List α}(h:Own w B E sz enc A c l)(ha:Away A b0)(hat:∀ b,b<w.heap.size→b≠b0→Away A' b) : Apart A A':=fun p q hp hq e=>by
 rcases h.2 with ⟨h1,_⟩|⟨g,cap,cur,h1,_,h3,_⟩
 ·injection h1 with h1;rw [h1] at hp;cases hp
 ·injection h1 with h1
  rw [h1] at hp
  injection hp with hp
  have hlt:p.block<w.heap.size:=by rw [← hp];exact (Array.getElem?_eq_some_iff.1 h3).1
  exact hat _ hlt (ha p (by rw [h1,hp])) q hq e.symm
section
variable {P : Program} {ops : Array Oper} {V : Option Nat} {tl : Nat → Bool} {Q : Act → World → Prop} {fuel : Nat} {done : List Nat} {w : World} {o : Oper} {op : Op} {ty : TypeId} {pos : String} {af : Array Edge} {g : Option (Nat × Bool)} {n d : Nat} {e : Env} {v : Value} {R : Value → World → Prop} {x : Operand}
theorem Xuf{a:Act}(i j k l:Nat)(hr:Region.ready .any ops (mask ops done)=[i,j,k,l])(hi:wpR P ops V tl i (wpS P ops V tl Q fuel (mask ops (i::done))) a w)
  (hj:wpR P ops V tl j (wpS P ops V tl Q fuel (mask ops (j::done))) a w) (hk:wpR P ops V tl k (wpS P ops V tl Q fuel (mask ops (k::done))) a w) (hl:wpR P ops V tl l (wpS P ops V tl Q fuel (mask ops (l::done))) a w) : wpS P ops V tl Q (fuel+1) (mask ops done) a w:=by
 refine ⟨fun h0=>(by rw [hr] at h0;cases h0),fun m hm=>?_⟩
 rw [hr] at hm
 rw [X33]
 simp only [List.mem_cons,List.not_mem_nil,or_false] at hm
 rcases hm with rfl|rfl|rfl|rfl
 ·exact hi
 ·exact hj
 ·exact hk
 ·exact hl
theorem Y4(i j k l:Nat)(hi:WR P ops V tl Q i fuel done n e w)(hj:WR P ops V tl Q j fuel done n e w)(hk:WR P ops V tl Q k fuel done n e w)(hl:WR P ops V tl Q l fuel done n e w)(hr:Region.ready .any ops (mask ops done)=[i,j,k,l]:=by kernel_rfl) : WS P ops V tl Q (fuel+1) done n e w:=fun a hf=>Xuf i j k l hr (hi a hf) (hj a hf) (hk a hf) (hl a hf)
end
def markI(k:Int)(n:Nat) : List Int:=(List.range n).map fun (j:Nat)=>k+(j:Int)
def markG(k:Int)(n:Nat) : List Gt:=(List.range n).map fun (j:Nat)=>⟨k+3*(j:Int),k+3*(j:Int)+1,k+3*(j:Int)+2⟩
theorem X9b{α:Type}{m:List α}{j:Nat}{x:α}(h:j<m.length) : (m.set j x).take (j+1)=m.take j++[x]:=by
 rw [List.take_succ_eq_append_getElem (by simpa using h),List.take_set_of_le (Nat.le_refl _),List.getElem_set_self]
theorem Xff{m:List Gt}{k:Int}{x:Gt}{j:Nat}(h:m.take j=markG k j)(hj:j<m.length)(h1:x.k=k+3*(j:Int))(h2:x.a=k+3*(j:Int)+1)(h3:x.b=k+3*(j:Int)+2) : (m.set j x).take (j+1)=markG k (j+1):=by
 have hx:x=⟨k+3*(j:Int),k+3*(j:Int)+1,k+3*(j:Int)+2⟩:=by cases x;simp at h1 h2 h3;simp [h1,h2,h3]
 rw [X9b hj,h,markG,markG,List.range_succ,List.map_append,hx];rfl
theorem X2d(k:Int)(n:Nat) : (markG k n).length=n:=by simp [markG]
theorem Xhl{α:Type}{m:List α}{j:Nat}{x:α}(h:j<m.length) : (m.set j x)[j]? = some x:=List.getElem?_set_self h
def heldI:List Int→Int→Int
 | [],k=>k
 | x::l,k=>if x=k then heldI l (k+1) else -1
def heldG:List Gt→Int→Int
 | [],k=>k
 | x::l,k=>if x.k=k∧x.a=k+1∧x.b=k+2 then heldG l (k+3) else -1
theorem Xpn{α:Type}{l:List α}{j:Nat}{u:α}(h:l[j]? = some u) : l.drop j=u::l.drop (j+1):=by
 obtain ⟨h1,h2⟩:=List.getElem?_eq_some_iff.1 h
 rw [List.drop_eq_getElem_cons h1,h2]
theorem Xij{l:List Gt}{j:Nat}{u:Gt}{k:Int}(h:l[j]? = some u) : heldG (l.drop j) k=if u.k=k∧u.a=k+1∧u.b=k+2 then heldG (l.drop (j+1)) (k+3) else -1:=by rw [Xpn h];rfl
theorem Xj9{l:List Gt}{j:Nat}{k:Int}(h:l.length≤j) : heldG (l.drop j) k=k:=by rw [List.drop_of_length_le h];rfl
theorem Xfi(k:Int)(n:Nat) : markG k (n+1)=⟨k,k+1,k+2⟩::markG (k+3) n:=by
 unfold markG
 rw [List.range_succ_eq_map,List.map_cons,List.map_map]
 congr 1
 ·simp
 ·apply List.map_congr_left
  intro j _
  simp only [Function.comp_apply,Nat.succ_eq_add_one,Gt.mk.injEq]
  refine ⟨?_,?_,?_⟩<;>push_cast<;>omega
theorem X5h:∀ (n:Nat) (k:Int),heldG (markG k n) k=k+3*(n:Int)
 | 0,k=>by simp [markG,heldG]
 | n+1,k=>by rw [Xfi,heldG,if_pos ⟨rfl,rfl,rfl⟩,X5h n];push_cast;omega
theorem X1k{x:Dy} : dOk x=true↔rOk x.num=true∧(0≤x.exp∧x.exp≤60)∧(x.exp=0∨rEven x.num=false):=by
 simp only [dOk,Bool.and_eq_true,X03,Bool.or_eq_true,beq_iff_eq,Bool.not_eq_true',and_assoc]
theorem Xi1:∀ (m:Nat) (x:Rg),rOk x=true→m≤60→dOk (dLow x m)=true
 | 0,x,h,_=>by
  rw [X21 (by omega)]
  exact X1k.2 ⟨h,by simp,.inl rfl⟩
 | m+1,x,h,hm=>by
  by_cases he:rEven x=true
  ·rw [X3j (by omega) he,show ((m+1:Nat) : Int)-1=(m:Int) from by omega]
   exact Xi1 m _ (X5x h) (by omega)
  ·have he':rEven x=false:=by simpa using he
   rw [X21 fun _=>he']
   exact X1k.2 ⟨h,by dsimp only;omega,.inr he'⟩
theorem X8i{x:Rg}{e:Int}(h:rOk x=true)(h0:0≤e)(h1:e≤60) : dOk (dLow x e)=true:=by
 obtain ⟨m,rfl⟩ : ∃ m:Nat,e=m:=⟨e.toNat,by omega⟩
 exact Xi1 m x h (by omega)
def Agree(o:Option Dy)(p:Bool×Dy) : Prop:=(∀ z,o=some z→p=(false,z)∧dOk z=true)∧(o=none→p.1=true)
theorem X49{x y z:Rg}(hx:rOk x=true)(hy:rOk y=true) : rIf2 z [x,y]=rOk z:=by simp [rIf2,hx,hy]
theorem X6o{x z:Rg}(hx:rOk x=true) : rIf2 z [x]=rOk z:=by simp [rIf2,hx]
theorem Xim{x y:Dy}(hx:dOk x=true)(hy:dOk y=true) : Agree (dMulI x y) (sMul false x y):=by
 have kx:=X1k.1 hx
 have ky:=X1k.1 hy
 unfold dMulI sMul
 rw [hx,hy,X49 kx.1 ky.1,rIf1,X49 kx.1 ky.1,Bool.true_and,Bool.true_and]
 by_cases hr:rOk (rMul x.num y.num)=true
 ·rw [if_pos hr,if_pos hr]
  unfold dOf
  rw [hr,Bool.true_and]
  by_cases he:60<x.exp+y.exp
  ·have h1:¬ inR (x.exp+y.exp) 0 60=true:=fun h=>by have:=X03.1 h;omega
   rw [if_neg h1,if_pos he]
   exact ⟨fun z h=>(by cases h),fun _=>rfl⟩
  ·have h1:inR (x.exp+y.exp) 0 60=true:=X03.2 (by omega)
   rw [if_pos h1,if_neg he,sRing,if_pos hr]
   exact ⟨fun z h=>(by injection h with h;subst h;exact ⟨rfl,X8i hr (by omega) (by omega)⟩),fun h=>by cases h⟩
 ·have hr':rOk (rMul x.num y.num)=false:=by simpa using hr
  rw [if_neg hr]
  refine ⟨fun z h=>(by cases h),fun _=>?_⟩
  by_cases he:60<x.exp+y.exp
  ·rw [if_pos he]
  ·rw [if_neg he,hr'];rfl
theorem X5g:∀ (n:Nat) (f:Bool) (x:Dy),(sRaiseN n f x).2.exp=x.exp+n
 | 0,f,x=>by simp [sRaiseN]
 | n+1,f,x=>by rw [sRaiseN,X5g n];dsimp only;omega
theorem X31:∀ (n:Nat) (x:Dy),(sRaiseN n true x).1=true
 | 0,x=>rfl
 | n+1,x=>by rw [sRaiseN];exact X31 n _
theorem X4b:∀ (n:Nat) (x:Dy),rOk x.num=true→(raiseI n x.num).2=true→sRaiseN n false x=(false,⟨(raiseI n x.num).1,x.exp+n⟩)∧rOk (raiseI n x.num).1=true
 | 0,x,h,_=>⟨by simp [sRaiseN,raiseI],h⟩
 | n+1,x,h,hr=>by
  unfold raiseI at hr ⊢
  rw [X6o h] at hr ⊢
  by_cases h1:rOk (rRoot x.num)=true
  ·rw [if_pos h1] at hr ⊢
   rw [sRaiseN,h1,sRing,if_pos h1]
   have:=X4b n ⟨rRoot x.num,x.exp+1⟩ h1 hr
   refine ⟨?_,this.2⟩
   simp only [Bool.not_true,Bool.or_false]
   rw [this.1]
   dsimp only
   congr 2
   omega
  ·rw [if_neg h1] at hr
   cases hr
theorem X4c:∀ (n:Nat) (x:Dy),rOk x.num=true→(raiseI n x.num).2=false→(sRaiseN n false x).1=true
 | 0,x,h,hr=>by cases hr
 | n+1,x,h,hr=>by
  unfold raiseI at hr
  rw [X6o h] at hr
  by_cases h1:rOk (rRoot x.num)=true
  ·rw [if_pos h1] at hr
   rw [sRaiseN,h1,sRing,if_pos h1]
   simp only [Bool.not_true,Bool.or_false]
   exact X4c n ⟨rRoot x.num,x.exp+1⟩ h1 hr
  ·have h2:rOk (rRoot x.num)=false:=by simpa using h1
   rw [sRaiseN,h2]
   exact X31 n _
theorem Xiy{x y:Dy}(hx:dOk x=true)(hy:dOk y=true) : Agree (dAddI x y) (sAdd false x y):=by
 have kx:=X1k.1 hx
 have ky:=X1k.1 hy
 obtain ⟨m,hm⟩ : ∃ m,m=max x.exp y.exp:=⟨_,rfl⟩
 have e1:(m-x.exp).toNat=(y.exp-x.exp).toNat:=by omega
 have e3:x.exp+((y.exp-x.exp).toNat:Int)=m:=by omega
 have ed1:dRaise x m=raiseI (y.exp-x.exp).toNat x.num:=by rw [dRaise,e1]
 unfold dAddI sAdd
 rw [hx,hy,Bool.and_self,if_pos rfl,← hm,X5g,e3]
 cases h1:(dRaise x m).2 with
 | false=>
  have hb:=X4c _ x kx.1 (by rw [← ed1];exact h1)
  rw [hb,X31]
  simp only [Bool.false_and,Bool.false_eq_true,if_false,Bool.true_or]
  exact ⟨fun z h=>(by cases h),fun _=>rfl⟩
 | true=>
  obtain ⟨g1,g2⟩:=X4b _ x kx.1 (by rw [← ed1];exact h1)
  rw [g1]
  rw [← ed1] at g2 ⊢
  dsimp only
  have ed2:dRaise y m=raiseI (m-y.exp).toNat y.num:=rfl
  cases h2:(dRaise y m).2 with
  | false=>
   have hb:=X4c _ y ky.1 (by rw [← ed2];exact h2)
   rw [hb]
   simp only [Bool.and_false,Bool.false_and,Bool.false_eq_true,if_false,Bool.true_or]
   exact ⟨fun z h=>(by cases h),fun _=>rfl⟩
  | true=>
   obtain ⟨k1,k2⟩:=X4b _ y ky.1 (by rw [← ed2];exact h2)
   rw [k1]
   rw [← ed2] at k2 ⊢
   dsimp only
   rw [X49 g2 k2,rIf1,X49 g2 k2,Bool.true_and,Bool.true_and,Bool.false_or]
   by_cases hr:rOk (rAdd (dRaise x m).1 (dRaise y m).1)=true
   ·have h3:inR m 0 60=true:=X03.2 (by omega)
    rw [if_pos hr,if_pos hr,dOf,hr,h3,sRing,if_pos hr]
    exact ⟨fun z h=>(by simp only [Bool.and_self,if_true] at h;injection h with h;subst h;exact ⟨rfl,X8i hr (by omega) (by omega)⟩),fun h=>by simp at h⟩
   ·have hr':rOk (rAdd (dRaise x m).1 (dRaise y m).1)=false:=by simpa using hr
    rw [if_neg hr,hr']
    exact ⟨fun z h=>(by cases h),fun _=>rfl⟩
def dotS(f:Bool)(a b:Mx)(i j:Nat) : Nat→Bool×Dy
 | 0=>(f,dZ)
 | n+1=>if (dotS f a b i j n).1=true then dotS f a b i j n else
   sAdd (sMul false (a.at i n) (b.at n j)).1 (dotS f a b i j n).2 (sMul false (a.at i n) (b.at n j)).2
theorem X8h{f:Bool}{a b:Mx}{i j n:Nat}(h:(dotS f a b i j n).1=true) : ∀ m,n≤m→dotS f a b i j m=dotS f a b i j n
 | 0,h'=>by
  obtain rfl:n=0:=by omega
  rfl
 | m+1,h'=>by
  by_cases hm:n=m+1
  ·subst hm;rfl
  ·rw [dotS,X8h h m (by omega),if_pos h]
theorem Xic(a b:Mx)(i j n:Nat) : dotS true a b i j n=(true,dZ):=X8h (n:=0) rfl n (Nat.zero_le _)
theorem Xrs:dOk dZ=true:=by decide
theorem Xkl(x y:Dy) : (sAdd true x y).1=true:=by
 unfold sAdd
 rw [show (sRaiseN (y.exp-x.exp).toNat true x).1=true from X31 _ _,X31]
 rfl
def AllOk(m:Mx) : Prop:=∀ x ∈ m.cells,dOk x=true
theorem Mx.at_ok{m:Mx}(h:AllOk m)(i j:Nat) : dOk (m.at i j)=true:=by
 unfold Mx.at
 rw [List.getD_eq_getElem?_getD]
 cases hx:m.cells[i*m.cols.toNat+j]? with
 | none=>exact Xrs
 | some x=>exact h x (List.mem_of_getElem? hx)
theorem Xai{a b:Mx}(ha:AllOk a)(hb:AllOk b)(i j:Nat) : ∀ n,Agree (dotI a b i j n) (dotS false a b i j n)
 | 0=>⟨fun z h=>(by injection h with h;subst h;exact ⟨rfl,Xrs⟩),fun h=>by cases h⟩
 | n+1=>by
  have ih:=Xai ha hb i j n
  have hm:=Xim (Mx.at_ok ha i n) (Mx.at_ok hb n j)
  unfold dotI dotS
  cases h1:dotI a b i j n with
  | none=>
   have h2:=ih.2 h1
   rw [if_pos h2]
   exact ⟨fun z h=>(by cases h),fun _=>h2⟩
  | some s=>
   obtain ⟨h2,h3⟩:=ih.1 s h1
   rw [h2]
   simp only [Bool.false_eq_true,if_false,Option.bind_some]
   cases h4:dMulI (a.at i n) (b.at n j) with
   | none=>
    rw [hm.2 h4]
    exact ⟨fun z h=>(by cases h),fun _=>Xkl _ _⟩
   | some x=>
    obtain ⟨h5,h6⟩:=hm.1 x h4
    rw [h5]
    exact Xiy h3 h6
def timesL(f:Bool)(a b:Mx) : Nat→Bool×List Dy
 | 0=>(f,[])
 | n+1=>((dotS (timesL f a b n).1 a b (n/b.cols.toNat) (n % b.cols.toNat) a.cols.toNat).1,(timesL f a b n).2++[(dotS (timesL f a b n).1 a b (n/b.cols.toNat) (n % b.cols.toNat) a.cols.toNat).2])
def timesS(f:Bool)(a b:Mx) : Bool×Mx:=((timesL f a b (a.rows.toNat*b.cols.toNat)).1,⟨a.rows,b.cols,(timesL f a b (a.rows.toNat*b.cols.toNat)).2⟩)
theorem X98(f:Bool)(a b:Mx) : ∀ n,(timesL f a b n).2.length=n
 | 0=>rfl
 | n+1=>by simp [timesL,X98 f a b n]
theorem Xd5{f:Bool}{a b:Mx}{i j:Nat}(hj:j<b.cols.toNat) : timesL f a b (i*b.cols.toNat+(j+1))=((dotS (timesL f a b (i*b.cols.toNat+j)).1 a b i j a.cols.toNat).1,(timesL f a b (i*b.cols.toNat+j)).2++[(dotS (timesL f a b (i*b.cols.toNat+j)).1 a b i j a.cols.toNat).2]):=by
 have h1:(i*b.cols.toNat+j)/b.cols.toNat=i:=by rw [Nat.mul_comm,Nat.mul_add_div (by omega),Nat.div_eq_of_lt hj];omega
 have h2:(i*b.cols.toNat+j) % b.cols.toNat=j:=by rw [Nat.mul_comm,Nat.mul_add_mod,Nat.mod_eq_of_lt hj]
 rw [show i*b.cols.toNat+(j+1)=(i*b.cols.toNat+j)+1 from rfl,timesL,h1,h2]
theorem X7c{a b:Mx}(ha:AllOk a)(hb:AllOk b) : ∀ n,(∀ l,seqO (gridG (fun i j=>dotI a b i j a.cols.toNat) b.cols.toNat) n=some l→timesL false a b n=(false,l)∧∀ x ∈ l,dOk x=true)∧
  (seqO (gridG (fun i j=>dotI a b i j a.cols.toNat) b.cols.toNat) n=none→(timesL false a b n).1=true)
 | 0=>⟨fun l h=>(by injection h with h;subst h;exact ⟨rfl,fun x hx=>by cases hx⟩),fun h=>by cases h⟩
 | n+1=>by
  have ih:=X7c ha hb n
  have hd:=Xai ha hb (n/b.cols.toNat) (n % b.cols.toNat) a.cols.toNat
  unfold seqO timesL
  cases h1:seqO (gridG (fun i j=>dotI a b i j a.cols.toNat) b.cols.toNat) n with
  | none=>
   rw [ih.2 h1,Xic]
   exact ⟨fun l h=>(by cases h),fun _=>rfl⟩
  | some l=>
   obtain ⟨h2,h3⟩:=ih.1 l h1
   rw [h2]
   dsimp only
   rw [show gridG (fun i j=>dotI a b i j a.cols.toNat) b.cols.toNat n=dotI a b (n/b.cols.toNat) (n % b.cols.toNat) a.cols.toNat from rfl]
   cases h4:dotI a b (n/b.cols.toNat) (n % b.cols.toNat) a.cols.toNat with
   | none=>exact ⟨fun l h=>(by cases h),fun _=>hd.2 h4⟩
   | some x=>
    obtain ⟨h5,h6⟩:=hd.1 x h4
    rw [h5]
    refine ⟨fun l' h=>?_,fun h=>by cases h⟩
    injection h with h
    subst h
    exact ⟨rfl,fun y hy=>by
     rcases List.mem_append.1 hy with hy|hy
     ·exact h3 y hy
     ·rw [List.mem_singleton.1 hy];exact h6⟩
theorem X1t{m:Mx}(h:mOk m=true) : AllOk m:=by
 simp only [mOk,Bool.and_eq_true,Bool.not_eq_true',List.any_eq_false] at h
 intro x hx
 have:=h.2 x hx
 simpa using this
theorem X4a{m:Mx}(h:mOk m=true) : isDimB m.rows=true∧isDimB m.cols=true:=by
 simp only [mOk,Bool.and_eq_true] at h
 exact ⟨h.1.1.1,h.1.1.2⟩
theorem Xfv{m:Mx}(hr:isDimB m.rows=true)(hc:isDimB m.cols=true)(hl:m.cells.length=m.rows.toNat*m.cols.toNat)(ha:AllOk m) : mOk m=true:=by
 have h1:=X29 hr;have h2:=X29 hc
 have h3:(m.cells.any fun x=>!dOk x)=false:=by
  rw [List.any_eq_false]
  intro x hx
  simp [ha x hx]
 have h4:wr (m.rows*m.cols)=(m.cells.length:Int):=by
  obtain ⟨r,hr⟩ : ∃ r:Nat,m.rows=r:=⟨m.rows.toNat,by omega⟩
  obtain ⟨c,hc⟩ : ∃ c:Nat,m.cols=c:=⟨m.cols.toNat,by omega⟩
  rw [hr] at h1
  rw [hc] at h2
  rw [hl,hr,hc]
  have h5:r*c≤32*32:=Nat.mul_le_mul (by omega) (by omega)
  rw [← Int.natCast_mul,X0q (by omega) (by omega)]
  simp
 unfold mOk
 rw [hr,hc,h3,h4]
 simp
theorem X1y{n:Int}(h:1≤n∧n≤5) : isDimB ((2^n.toNat:Nat) : Int)=true:=by
 have:n=1∨n=2∨n=3∨n=4∨n=5:=by omega
 rcases this with rfl|rfl|rfl|rfl|rfl<;>decide
theorem X3i{a b:Mx}(ha:mOk a=true)(hb:mOk b=true)(hab:a.cols=b.rows) : (∀ m,mulI a b=some m→timesS false a b=(false,m)∧mOk m=true∧m.rows=a.rows∧m.cols=b.cols)∧(mulI a b=none→(timesS false a b).1=true):=by
 have hd1:=(X4a ha).1;have hd2:=(X4a hb).2;have h:=X7c (X1t ha) (X1t hb) (a.rows.toNat*b.cols.toNat)
 unfold mulI matOf timesS
 rw [ha,hb,hd1,hd2,if_pos (by simp [hab]),if_pos (show (true&&true)=true from rfl)]
 cases h1:seqO (gridG (fun i j=>dotI a b i j a.cols.toNat) b.cols.toNat) (a.rows.toNat*b.cols.toNat) with
 | none=>exact ⟨fun m h=>(by cases h),fun _=>h.2 h1⟩
 | some l=>
  obtain ⟨h2,h3⟩:=h.1 l h1
  rw [h2]
  refine ⟨fun m hm=>?_,fun hm=>by cases hm⟩
  injection hm with hm
  subst hm
  exact ⟨rfl,Xfv hd1 hd2 (X44 h1) h3,rfl,rfl⟩
theorem Xaf{f:Nat→Dy} : ∀ n,seqO (fun m=>some (f m)) n=some ((List.range n).map f)
 | 0=>rfl
 | n+1=>by simp [seqO,Xaf n,List.range_succ]
theorem X5q{R C:Int}(hR:isDimB R=true)(hC:isDimB C=true)(f:Nat→Nat→Dy) : matOf R C (fun i j=>some (f i j))=some ⟨R,C,gridL f C.toNat (R.toNat*C.toNat)⟩:=by
 unfold matOf
 rw [hR,hC,if_pos (show (true&&true)=true from rfl)]
 have:gridG (fun i j=>some (f i j)) C.toNat=fun m=>some (gridF f C.toNat m):=rfl
 rw [this,Xaf]
 rfl
theorem Xdx{f g:Nat→Nat→Dy}{R C:Nat}(h:∀ i j,i<R→j<C→f i j=g i j) : gridL f C (R*C)=gridL g C (R*C):=by
 unfold gridL
 refine List.map_congr_left fun m hm=>?_
 have hm':=List.mem_range.1 hm
 have hC:0<C:=by
  rcases Nat.eq_zero_or_pos C with h0|h0
  ·subst h0;simp at hm'
  ·exact h0
 exact h _ _ (Nat.div_lt_of_lt_mul (by rw [Nat.mul_comm];exact hm')) (Nat.mod_lt _ hC)
theorem Xa8{f:Nat→Nat→Dy}{R C:Nat}{x:Dy}(h:x ∈ gridL f C (R*C)) : ∃ i j,i<R∧j<C∧x=f i j:=by
 unfold gridL at h
 obtain ⟨m,hm,rfl⟩:=List.mem_map.1 h
 have hm':=List.mem_range.1 hm
 have hC:0<C:=by
  rcases Nat.eq_zero_or_pos C with h0|h0
  ·subst h0;simp at hm'
  ·exact h0
 exact ⟨_,_,Nat.div_lt_of_lt_mul (by rw [Nat.mul_comm];exact hm'),Nat.mod_lt _ hC,rfl⟩
def unitS(d:Nat) : Mx:=⟨(d:Int),(d:Int),gridL (fun i j=>if i=j then dPow 0 else dZ) d (d*d)⟩
theorem X2w{d:Nat}(h:isDimB (d:Int)=true) : idI (d:Int)=some (unitS d)∧mOk (unitS d)=true:=by
 refine ⟨?_,?_⟩
 ·unfold idI
  rw [X5q h h (fun i j=>if i=j then ⟨⟨1,0,0,0⟩,0⟩ else dZ)]
  rfl
 ·refine Xfv h h (by simp [unitS,X57]) fun x hx=>?_;obtain ⟨i,j,_,_,rfl⟩:=Xa8 hx
  split
  ·rfl
  ·rfl
def bitT(p s:Nat) : Int:=bits .and .i64 ((s:Int)/2^p) 1
def flipT(p s:Nat) : Int:=bits .xor .i64 (s:Int) (wr (1*2^p))
def chkBits:Bool:=(List.range 5).all fun p=>(List.range 32).all fun s=>
 let f:=flipT p s
 Nat.blt f.toNat 32&&f==(f.toNat:Int)&&flipT p f.toNat==(s:Int)&&(bitT p f.toNat==1-bitT p s)&&(bitT p s==0||bitT p s==1) &&
 (List.range 5).all (fun q=>(q==p)||bitT q f.toNat==bitT q s) &&
 (List.range 5).all (fun q=>let g:=flipT q s;flipT p g.toNat==flipT q f.toNat) &&
 (List.range 32).all fun t=>(((t:Int)==s||f==(t:Int))==(bits .andNot .i64 (bits .xor .i64 (s:Int) (t:Int)) (wr (1*2^p))==0))
theorem Xc8:chkBits=true:=by kernel_rfl
def chkSmall:Bool:=(List.range 6).all fun n=>(List.range n).all fun q=>(List.range (2^n)).all fun s=>Nat.blt (flipT (n-1-q) s).toNat (2^n)
theorem X9d:chkSmall=true:=by kernel_rfl
structure BitsOk (p s:Nat) : Prop where
 nat:flipT p s=((flipT p s).toNat:Int)
 lt:(flipT p s).toNat<32
 back:flipT p (flipT p s).toNat=(s:Int)
 bit:bitT p (flipT p s).toNat=1-bitT p s
 other:∀ q<5,q≠p→bitT q (flipT p s).toNat=bitT q s
 comm:∀ q<5,flipT p (flipT q s).toNat=flipT q (flipT p s).toNat
 sel:∀ t:Nat,t<32→(((t:Int)=s∨flipT p s=(t:Int))↔bits .andNot .i64 (bits .xor .i64 (s:Int) (t:Int)) (wr (1*2^p))=0)
theorem X3o{p s:Nat}(hp:p<5)(hs:s<32) : BitsOk p s:=by
 have h:=Xc8
 simp only [chkBits,List.all_eq_true,List.mem_range] at h
 have h:=h p hp s hs
 simp only [Bool.and_eq_true,List.all_eq_true,List.mem_range,beq_iff_eq,Bool.or_eq_true,Nat.blt_eq] at h
 obtain ⟨⟨⟨⟨⟨⟨⟨h1,h2⟩,h3⟩,h4⟩,_⟩,h6⟩,h7⟩,h8⟩:=h
 refine ⟨h2,h1,h3,h4,fun q hq hne=>(h6 q hq).resolve_left hne,h7,fun t ht=>?_⟩
 have h9:=h8 t ht
 rw [Bool.eq_iff_iff] at h9
 simpa using h9
theorem X3l{n q s:Nat}(hn:n≤5)(hq:q<n)(hs:s<2^n) : (flipT (n-1-q) s).toNat<2^n:=by
 have h:=X9d
 simp only [chkSmall,List.all_eq_true,List.mem_range] at h
 have h:=h n (by omega) q hq s hs
 simpa [Nat.blt_eq] using h
theorem Xfh{n q:Int}(s:Nat) : bitF n (s:Int) q=bitT (n-1-q).toNat s:=rfl
theorem X4r{n q:Int}(s:Nat) : flipF n (s:Int) q=flipT (n-1-q).toNat s:=rfl
theorem X9f{n q:Int}(hq:0≤q)(hqn:q<n) : (n-1-q).toNat=n.toNat-1-q.toNat:=by omega
theorem Xc3{n:Int}{g:Gt}(hg:gOk n g=true){s:Nat}(hs:s<2^n.toNat)(hk:9≤g.k∧g.k≤11) : ∃ t:Nat,t<2^n.toNat∧toS n g s=(t:Int)∧toS n g t=(s:Int)∧(g.k=10→t=s):=by
 obtain ⟨hn,hk0,ha,hb⟩:=X1f hg
 have ha:=ha (by omega)
 have hb:=hb hk
 have h32:2^n.toNat≤32:=X43 hn.2
 obtain ⟨p,hp⟩ : ∃ p,p=(n-1-g.a).toNat:=⟨_,rfl⟩
 obtain ⟨q,hq⟩ : ∃ q,q=(n-1-g.b).toNat:=⟨_,rfl⟩
 have hp5:p<5:=by omega
 have hq5:q<5:=by omega
 have hpq:p≠q:=by omega
 have hsm:∀ s,s<2^n.toNat→(flipT p s).toNat<2^n.toNat:=fun s hs=>by
  rw [hp,X9f (by omega) (by omega)]
  exact X3l (by omega) (by omega) hs
 have hsm2:∀ s,s<2^n.toNat→(flipT q s).toNat<2^n.toNat:=fun s hs=>by
  rw [hq,X9f (by omega) (by omega)]
  exact X3l (by omega) (by omega) hs
 unfold toS
 simp only [Xfh,X4r,← hp,← hq]
 have Bp:=X3o (p:=p) (s:=s) hp5 (by omega)
 have Bq:=X3o (p:=q) (s:=s) hq5 (by omega)
 by_cases h9:g.k=9
 ·simp only [h9,if_true]
  by_cases hb1:bitT p s=1
  ·refine ⟨(flipT q s).toNat,hsm2 s hs,by rw [if_pos hb1];exact Bq.nat,?_,by omega⟩
   rw [if_pos (by rw [Bq.other p hp5 hpq];exact hb1)]
   exact Bq.back
  ·exact ⟨s,hs,by rw [if_neg hb1],by rw [if_neg hb1],by omega⟩
 ·simp only [h9,if_false]
  by_cases h11:g.k=11
  ·simp only [h11,if_true]
   by_cases hb1:bitT p s=bitT q s
   ·exact ⟨s,hs,by rw [if_neg (by simpa using hb1)],by rw [if_neg (by simpa using hb1)],by omega⟩
   ·have Bf:=X3o (p:=q) (s:=(flipT p s).toNat) hq5 Bp.lt
    have Bg:=X3o (p:=p) (s:=(flipT q (flipT p s).toNat).toNat) hp5 Bf.lt
    have e1:flipF n (flipT p s) g.b=flipT q (flipT p s).toNat:=by rw [Bp.nat,X4r,← hq,Int.toNat_natCast]
    refine ⟨(flipT q (flipT p s).toNat).toNat,hsm2 _ (hsm _ hs),?_,?_,by omega⟩
    ·rw [if_pos hb1,e1];exact Bf.nat
    ·have e2:bitT p (flipT q (flipT p s).toNat).toNat=1-bitT p s:=by rw [Bf.other p hp5 hpq,Bp.bit]
     have e3:bitT q (flipT q (flipT p s).toNat).toNat=1-bitT q s:=by rw [Bf.bit,Bp.other q hq5 (Ne.symm hpq)]
     have e4:flipT p (flipT q (flipT p s).toNat).toNat=flipT q (flipT p (flipT p s).toNat).toNat:=(X3o (p:=p) (s:=(flipT p s).toNat) hp5 Bp.lt).comm q hq5
     rw [if_pos (by rw [e2,e3];omega),e4,Bp.back,Int.toNat_natCast,Bq.nat,X4r,← hq,Bq.back]
  ·exact ⟨s,hs,by rw [if_neg h11],by rw [if_neg h11],fun _=>rfl⟩
theorem Xp5{k:Int}(h:1≤k∧k≤8){i j:Int}(hi:i=0∨i=1)(hj:j=0∨j=1) : (oneL k).getD (2*i+j).toNat dZ=entryI k i j:=by
 have:k=1∨k=2∨k=3∨k=4∨k=5∨k=6∨k=7∨k=8:=by omega
 rcases this with rfl|rfl|rfl|rfl|rfl|rfl|rfl|rfl<;>rcases hi with rfl|rfl<;>rcases hj with rfl|rfl<;>rfl
theorem Xqx{n:Int}{g:Gt}(hg:gOk n g=true){i j:Nat}(hi:i<2^n.toNat)(hj:j<2^n.toNat) : cellI n g i j=cellS n g i j:=by
 obtain ⟨hn,hk0,ha,hb⟩:=X1f hg
 have h32:2^n.toNat≤32:=X43 hn.2
 unfold cellI cellS
 by_cases h12:g.k=12
 ·rw [if_pos h12,if_neg (show ¬ g.k≤8 by omega)]
  have e1:toS n g j=j:=by unfold toS;rw [if_neg (show ¬ g.k=9 by omega),if_neg (show ¬ g.k=11 by omega)]
  rw [e1]
  by_cases hij:(i:Int)=j
  ·rw [if_pos hij,if_pos hij,valS,if_pos h12]
  ·rw [if_neg hij,if_neg hij]
 ·rw [if_neg h12]
  by_cases h2:9≤g.k∧g.k≤11
  ·rw [if_pos (X03.2 h2),if_neg (show ¬ g.k≤8 by omega)]
   obtain ⟨t,ht,e1,e2,e3⟩:=Xc3 hg hi h2;obtain ⟨t',ht',e1',e2',e3'⟩:=Xc3 hg hj h2
   by_cases hij:toS n g i=j
   ·have hts:(i:Int)=toS n g j:=by rw [← e2,← e1,hij]
    rw [if_pos hij,if_pos hts,valS,if_neg h12]
    by_cases h10:g.k=10
    ·have hij2:i=j:=by rw [e1] at hij;have:=e3 h10;omega
     subst hij2
     by_cases hc:bitF n i g.a=1∧bitF n i g.b=1
     ·rw [if_pos (by simp [czI,h10,hc]),if_pos ⟨h10,hc⟩];rfl
     ·have hc':¬ czI n g i=true:=by simp only [czI,h10,Bool.and_eq_true,beq_iff_eq,true_and,and_assoc];exact hc
      rw [if_neg hc',if_neg (fun h=>hc h.2)];rfl
    ·have hc':¬ czI n g i=true:=by simp [czI,h10]
     rw [if_neg hc',if_neg (fun h=>h10 h.1)];rfl
   ·have hts:¬ (i:Int)=toS n g j:=fun h=>by
     rw [e1'] at h
     have h:i=t':=by omega
     subst h
     exact hij e2'
    rw [if_neg hij,if_neg hts]
  ·have h8:g.k≤8:=by omega
   have ha:=ha h12
   rw [if_neg (fun h=>h2 (X03.1 h)),if_pos h8]
   have B:=X3o (p:=(n-1-g.a).toNat) (s:=i) (by omega) (by omega)
   have hs:=B.sel j (by omega)
   rw [X4r]
   have e0:((i:Int)=j∨flipT (n-1-g.a).toNat i=(j:Int))↔((j:Int)=i∨flipT (n-1-g.a).toNat i=(j:Int)):=by
    constructor<;>rintro (h|h)<;>first|exact .inl h.symm|exact .inr h
   by_cases hz:bits .andNot .i64 (bits .xor .i64 (i:Int) (j:Int)) (wr (1*2^(n-1-g.a).toNat))=0
   ·rw [if_pos (e0.2 (hs.2 hz)),if_neg (fun h=>h hz)]
    exact (Xp5 ⟨hk0.1,h8⟩ (X2o _ _ _) (X2o _ _ _)).symm
   ·rw [if_neg (fun h=>hz (hs.1 (e0.1 h))),if_pos hz]
theorem Xlv{k:Int}(h:1≤k∧k≤8){i j:Int}(hi:i=0∨i=1)(hj:j=0∨j=1) : dOk (entryI k i j)=true:=by
 have:k=1∨k=2∨k=3∨k=4∨k=5∨k=6∨k=7∨k=8:=by omega
 rcases this with rfl|rfl|rfl|rfl|rfl|rfl|rfl|rfl<;>rcases hi with rfl|rfl<;>rcases hj with rfl|rfl<;>rfl
theorem Xpx{n:Int}{g:Gt}(hg:gOk n g=true)(i j:Int) : dOk (cellI n g i j)=true:=by
 obtain ⟨hn,hk0,ha,hb⟩:=X1f hg
 unfold cellI
 split
 ·split<;>rfl
 ·split
  ·split
   ·split<;>rfl
   ·rfl
  ·rename_i h1 h2
   split
   ·exact Xlv (by have h3:¬ (9≤g.k∧g.k≤11):=fun h=>h2 (X03.2 h);omega) (X2o _ _ _) (X2o _ _ _)
   ·rfl
theorem X2q{n:Int}{g:Gt}(hg:gOk n g=true) : gateI n g=some (gateS n g)∧mOk (gateS n g)=true:=by
 have hn:=(X1f hg).1;have hd:=X1y hn
 have he:gridL (fun i j=>cellI n g i j) (2^n.toNat) (2^n.toNat*2^n.toNat)=gridL (fun i j=>cellS n g i j) (2^n.toNat) (2^n.toNat*2^n.toNat):=Xdx fun i j hi hj=>Xqx hg hi hj
 refine ⟨?_,?_⟩
 ·unfold gateI
  rw [if_pos hg,X5q hd hd (fun i j=>cellI n g i j)]
  simp only [Int.toNat_natCast]
  rw [he]
  rfl
 ·refine Xfv hd hd (by simp only [gateS,X57,Int.toNat_natCast]) fun x hx=>?_
  simp only [gateS] at hx
  rw [← he] at hx
  obtain ⟨i,j,_,_,rfl⟩:=Xa8 hx;exact Xpx hg _ _
def applI(n:Int) : List Gt→Mx→Option Mx
 | [],m=>some m
 | g::l,m=>(mulI ((gateI n g).getD mZ) m).bind (applI n l)
def runS(n:Int)(f:Bool) : List Gt→Mx→Bool×Mx
 | [],m=>(f,m)
 | g::l,m=>if f=true then (f,m) else runS n (timesS false (gateS n g) m).1 l (timesS false (gateS n g) m).2
theorem X77(n:Int) : ∀ (l:List Gt) (m:Mx),runS n true l m=(true,m)
 | [],_=>rfl
 | _::_,_=>rfl
theorem X9k{n:Int} : ∀ (l:List Gt) (m:Mx),(∀ g ∈ l,gOk n g=true)→mOk m=true→m.rows=((2^n.toNat:Nat) : Int)→
  (∀ m',applI n l m=some m'→runS n false l m=(false,m')∧mOk m'=true∧m'.rows=((2^n.toNat:Nat) : Int))∧(applI n l m=none→(runS n false l m).1=true)
 | [],m,_,hm,hr=>⟨fun m' h=>(by injection h with h;subst h;exact ⟨rfl,hm,hr⟩),fun h=>by cases h⟩
 | g::l,m,hg,hm,hr=>by
  obtain ⟨h1,h2⟩:=X2q (hg g (by simp))
  have h3:=X3i h2 hm (by rw [hr];rfl)
  unfold applI runS
  rw [h1,Option.getD_some,if_neg (by decide)]
  cases h4:mulI (gateS n g) m with
  | none=>
   rw [h3.2 h4,X77]
   exact ⟨fun m' h=>(by cases h),fun _=>rfl⟩
  | some m1=>
   obtain ⟨h5,h6,h7,h8⟩:=h3.1 m1 h4
   rw [h5]
   exact X9k l m1 (fun g hg'=>hg g (by simp [hg'])) h6 (by rw [h7];rfl)
def opI(c:Cx) : Option Mx:=if cOk c=true then (idI ((2^c.n.toNat:Nat) : Int)).bind (applI c.n c.gs) else none
def opS(c:Cx) : Option Mx:=if cOk c=true then (if (runS c.n false c.gs (unitS (2^c.n.toNat))).1=true then none else some (runS c.n false c.gs (unitS (2^c.n.toNat))).2) else none
theorem X12{c:Cx}(h:cOk c=true) : (1≤c.n∧c.n≤5)∧c.gs.length≤400∧∀ g ∈ c.gs,gOk c.n g=true:=by
 simp only [cOk,Bool.and_eq_true,X03,decide_eq_true_eq,Bool.not_eq_true',List.any_eq_false] at h
 exact ⟨h.1.1,by omega,fun g hg=>by simpa using h.2 g hg⟩
theorem Xro(c:Cx) : opI c=opS c∧∀ m,opS c=some m→mOk m=true∧m.rows=((2^c.n.toNat:Nat) : Int):=by
 unfold opI opS
 by_cases hc:cOk c=true
 ·obtain ⟨hn,_,hg⟩:=X12 hc;obtain ⟨h1,h2⟩:=X2w (X1y hn);have h3:=X9k c.gs _ hg h2 rfl
  rw [if_pos hc,if_pos hc,h1,Option.bind_some]
  cases h4:applI c.n c.gs (unitS (2^c.n.toNat)) with
  | none=>rw [h3.2 h4,if_pos rfl];exact ⟨rfl,fun m h=>by cases h⟩
  | some m'=>
   obtain ⟨h5,h6,h7⟩:=h3.1 m' h4
   rw [h5,if_neg (show ¬ (false=true) by decide)]
   exact ⟨rfl,fun m h=>(by injection h with h;subst h;exact ⟨h6,h7⟩)⟩
 ·rw [if_neg hc,if_neg hc]
  exact ⟨rfl,fun m h=>by cases h⟩
theorem Xfr{x:Rg}(h:rOk x=true) : rOk (rOm x)=true∧rOm x=⟨-x.d,x.a,x.b,x.c⟩:=by
 rw [X20] at h
 have e:rOm x=⟨-x.d,x.a,x.b,x.c⟩:=by unfold rOm;rw [X0q (by omega) (by omega)]
 refine ⟨?_,e⟩
 rw [e,X20]
 dsimp only
 omega
theorem X55{x:Rg}(h:rOk x=true) : rEven x=true↔(x.a+x.c) % 2=0∧(x.b+x.d) % 2=0:=by
 rw [X20] at h
 unfold rEven
 rw [X0q (by omega) (by omega),X0q (by omega) (by omega)]
 simp only [Bool.and_eq_true,beq_iff_eq]
 have key:∀ i:Int,i.tmod 2=0↔i % 2=0:=fun i=>by
  rw [← Int.dvd_iff_tmod_eq_zero,← Int.dvd_iff_emod_eq_zero]
 rw [key,key]
theorem Xne{x:Rg}(h:rOk x=true) : rEven (rOm x)=rEven x:=by
 obtain ⟨h1,h2⟩:=Xfr h
 rw [Bool.eq_iff_iff,X55 h1,X55 h,h2]
 dsimp only
 omega
theorem X53:∀ (k:Nat) (x:Rg),rOk x=true→rOk (rTurnN k x)=true∧rEven (rTurnN k x)=rEven x
 | 0,_,h=>⟨h,rfl⟩
 | k+1,x,h=>by
  obtain ⟨h1,h2⟩:=X53 k (rOm x) (Xfr h).1;exact ⟨h1,h2.trans (Xne h)⟩
theorem X66{x:Rg}(h:rOk x=true)(k:Int) : rOk (rTurn x k)=true∧rEven (rTurn x k)=rEven x:=X53 _ _ h
theorem wr0:wr 0=0:=rfl
theorem Xlr{x:Rg}(h:rOk x=true){k:Nat}(hk:k<8) : rMul x (rTurn ⟨1,0,0,0⟩ k)=rTurn x k:=by
 have h':=X20.1 h
 obtain ⟨a,b,c,d⟩:=x
 dsimp only at h'
 have wa:wr a=a:=X0q (by omega) (by omega)
 have wb:wr b=b:=X0q (by omega) (by omega)
 have wc:wr c=c:=X0q (by omega) (by omega)
 have wd:wr d=d:=X0q (by omega) (by omega)
 have na:wr (-a) = -a:=X0q (by omega) (by omega)
 have nb:wr (-b) = -b:=X0q (by omega) (by omega)
 have nc:wr (-c) = -c:=X0q (by omega) (by omega)
 have nd:wr (-d) = -d:=X0q (by omega) (by omega)
 have:k=0∨k=1∨k=2∨k=3∨k=4∨k=5∨k=6∨k=7:=by omega
 have s0:rTurn ⟨1,0,0,0⟩ ((0:Nat) : Int)=⟨1,0,0,0⟩:=by decide
 have s1:rTurn ⟨1,0,0,0⟩ ((1:Nat) : Int)=⟨0,1,0,0⟩:=by decide
 have s2:rTurn ⟨1,0,0,0⟩ ((2:Nat) : Int)=⟨0,0,1,0⟩:=by decide
 have s3:rTurn ⟨1,0,0,0⟩ ((3:Nat) : Int)=⟨0,0,0,1⟩:=by decide
 have s4:rTurn ⟨1,0,0,0⟩ ((4:Nat) : Int)=⟨-1,0,0,0⟩:=by decide
 have s5:rTurn ⟨1,0,0,0⟩ ((5:Nat) : Int)=⟨0,-1,0,0⟩:=by decide
 have s6:rTurn ⟨1,0,0,0⟩ ((6:Nat) : Int)=⟨0,0,-1,0⟩:=by decide
 have s7:rTurn ⟨1,0,0,0⟩ ((7:Nat) : Int)=⟨0,0,0,-1⟩:=by decide
 have T:∀ j:Nat,j<8→rTurn ⟨a,b,c,d⟩ (j:Int)=rTurnN j ⟨a,b,c,d⟩:=fun j hj=>by
  have:(turns (j:Int)).toNat=j:=by
   have:j=0∨j=1∨j=2∨j=3∨j=4∨j=5∨j=6∨j=7:=by omega
   rcases this with rfl|rfl|rfl|rfl|rfl|rfl|rfl|rfl<;>decide
  rw [rTurn,this]
 rcases this with rfl|rfl|rfl|rfl|rfl|rfl|rfl|rfl
 ·rw [T 0 (by omega),s0];simp [rMul,rTurnN,rOm,wr0,wa,wb,wc,wd,na,nb,nc,nd]
 ·rw [T 1 (by omega),s1];simp [rMul,rTurnN,rOm,wr0,wa,wb,wc,wd,na,nb,nc,nd]
 ·rw [T 2 (by omega),s2];simp [rMul,rTurnN,rOm,wr0,wa,wb,wc,wd,na,nb,nc,nd]
 ·rw [T 3 (by omega),s3];simp [rMul,rTurnN,rOm,wr0,wa,wb,wc,wd,na,nb,nc,nd]
 ·rw [T 4 (by omega),s4];simp [rMul,rTurnN,rOm,wr0,wa,wb,wc,wd,na,nb,nc,nd]
 ·rw [T 5 (by omega),s5];simp [rMul,rTurnN,rOm,wr0,wa,wb,wc,wd,na,nb,nc,nd]
 ·rw [T 6 (by omega),s6];simp [rMul,rTurnN,rOm,wr0,wa,wb,wc,wd,na,nb,nc,nd]
 ·rw [T 7 (by omega),s7];simp [rMul,rTurnN,rOm,wr0,wa,wb,wc,wd,na,nb,nc,nd]
theorem X9p{z:Dy}(h:dOk z=true){k:Nat}(hk:k<8) : dMulI z (dPow k)=some (dTurn k z):=by
 have hz:=X1k.1 h
 have h1:rOk (rTurn ⟨1,0,0,0⟩ k)=true:=(X66 (by decide) _).1
 have hp:dOk (dPow k)=true:=X1k.2 ⟨h1,by simp [dPow],.inl rfl⟩
 obtain ⟨h2,h3⟩:=X66 hz.1 (k:Int)
 unfold dMulI
 rw [h,hp,show (dPow k).num=rTurn ⟨1,0,0,0⟩ k from rfl,rIf1,X49 hz.1 h1,Xlr hz.1 hk,h2]
 simp only [Bool.and_self,if_true]
 unfold dOf
 rw [h2,show z.exp+(dPow k).exp=z.exp from by simp [dPow],X03.2 hz.2.1]
 simp only [Bool.and_self,if_true]
 rw [X21 fun h0=>by rw [h3];rcases hz.2.2 with h4|h4;exact absurd h4 (by omega);exact h4]
 rfl
theorem Xez{q:Mx}(h:mOk q=true){k:Nat}(hk:k<8) : scaleI q (dPow k)=some ⟨q.rows,q.cols,q.cells.map (dTurn k)⟩:=by
 have h1:rOk (rTurn ⟨1,0,0,0⟩ k)=true:=(X66 (by decide) _).1
 have hp:dOk (dPow k)=true:=X1k.2 ⟨h1,by simp [dPow],.inl rfl⟩
 have hd:=X4a h;have hl:=X2n h;have ha:=X1t h
 have hf:(fun i j=>dMulI (q.at i j) (dPow k))=fun i j=>some (dTurn k (q.at i j)):=by
  funext i j
  exact X9p (Mx.at_ok ha i j) hk
 unfold scaleI
 rw [h,hp,if_pos (show (true&&true)=true from rfl),hf,X5q hd.1 hd.2 (fun i j=>dTurn k (q.at i j))]
 congr 2
 unfold gridL
 apply List.ext_getElem
 ·simp [hl.2.2]
 ·intro m h1 h2
  simp only [List.length_map,List.length_range] at h1
  simp only [List.getElem_map,List.getElem_range]
  unfold gridF Mx.at
  dsimp only
  have:m/q.cols.toNat*q.cols.toNat+m % q.cols.toNat=m:=by rw [Nat.mul_comm];exact Nat.div_add_mod m _
  rw [this,List.getD_eq_getElem?_getD,List.getElem?_eq_getElem (by rw [hl.2.2];exact h1)]
  rfl
def sameI(a b:Cx) : Bool×Bool:=
 if ((opI a).isSome&&(opI b).isSome&&a.n==b.n)=true then
  (mOk ((opI a).getD mZ)&&mOk ((opI b).getD mZ)&&eqPh ((opI a).getD mZ) ((opI b).getD mZ),mOk ((opI a).getD mZ)&&mOk ((opI b).getD mZ)) else (false,false)
def sameS(a b:Cx) : Bool×Bool:=
 if ((opS a).isSome&&(opS b).isSome&&a.n==b.n)=true then (phaseS ((opS a).getD mZ) ((opS b).getD mZ),true) else (false,false)
theorem Xnl{n:Int}(hn:1≤n∧n≤5){g:Gt} : (gateS n g).cells.length≤2305843009213693951:=by
 have h:=X43 hn.2
 have h2:2^n.toNat*2^n.toNat≤32*32:=Nat.mul_le_mul h h
 simp only [gateS,X57]
 omega
theorem Xsh{m:Mx}(h:mOk m=true) : m.cells.length≤2305843009213693951:=by
 have h1:=X2n h
 have h2:m.rows.toNat*m.cols.toNat≤32*32:=Nat.mul_le_mul (by omega) (by omega)
 omega
theorem Xdi{α:Type}{l:List α}{i:Nat}{u:α}(h:l[i]? = some u) : l.drop i=u::l.drop (i+1):=by
 obtain ⟨h1,h2⟩:=List.getElem?_eq_some_iff.1 h
 rw [List.drop_eq_getElem_cons h1,h2]
def unitP(d i:Nat) : List Dy:=(List.range (d*d)).map fun m=>if m/d=m % d∧m/d<i then dPow 0 else dZ
theorem X9y(d i:Nat) : (unitP d i).length=d*d:=by simp [unitP]
theorem Xfl(d:Nat) : List.replicate (d*d) dZ=unitP d 0:=by
 unfold unitP
 apply List.ext_getElem
 ·simp
 ·intro k h1 h2
  simp
theorem Xf3{d i:Nat}(h:i<d) : (unitP d i).set (i*d+i) (dPow 0)=unitP d (i+1):=by
 have e1:(i*d+i)/d=i:=by rw [Nat.mul_comm,Nat.mul_add_div (by omega),Nat.div_eq_of_lt h];omega
 have e2:(i*d+i) % d=i:=by rw [Nat.mul_comm,Nat.mul_add_mod,Nat.mod_eq_of_lt h]
 unfold unitP
 apply List.ext_getElem
 ·simp
 ·intro k h1 h2
  simp only [List.length_set,List.length_map,List.length_range] at h1
  rw [List.getElem_set]
  split
  ·rename_i hk
   subst hk
   simp [e1,e2]
  ·rename_i hk
   simp only [List.getElem_map,List.getElem_range]
   have:(k/d=k % d∧k/d<i)↔(k/d=k % d∧k/d<i+1):=by
    constructor
    ·rintro ⟨h3,h4⟩;exact ⟨h3,by omega⟩
    ·rintro ⟨h3,h4⟩
     refine ⟨h3,?_⟩
     rcases Nat.lt_or_ge (k/d) i with h5|h5
     ·exact h5
     ·have h6:k/d=i:=by omega
      have h7:=Nat.div_add_mod k d
      rw [← h3,h6] at h7
      exact absurd (show i*d+i=k by rw [Nat.mul_comm i d];exact h7) hk
   by_cases hc:k/d=k % d∧k/d<i
   ·rw [if_pos hc,if_pos (this.1 hc)]
   ·rw [if_neg hc,if_neg (fun h=>hc (this.2 h))]
theorem Xfc{d:Nat} : (unitS d).cells=unitP d d:=by
 unfold unitP unitS gridL
 refine List.map_congr_left fun m hm=>?_
 have hm':=List.mem_range.1 hm
 have h1:m/d<d:=Nat.div_lt_of_lt_mul hm'
 unfold gridF
 dsimp only
 by_cases hc:m/d=m % d
 ·rw [if_pos hc,if_pos ⟨hc,h1⟩]
 ·rw [if_neg hc,if_neg (fun h=>hc h.1)]
theorem Xd4:∀ (m:Nat) (x:Rg),0≤(dLow x m).exp∧(dLow x m).exp≤m
 | 0,x=>by rw [X21 (by omega)];simp
 | m+1,x=>by
  by_cases he:rEven x=true
  ·rw [X3j (by omega) he,show ((m+1:Nat) : Int)-1=(m:Int) from by omega]
   have:=Xd4 m (rHalf x)
   omega
  ·rw [X21 fun _=>by simpa using he]
   dsimp only
   omega
theorem Xa2{x:Rg}{e:Int}(h0:0≤e) : 0≤(dLow x e).exp∧(dLow x e).exp≤e:=by
 obtain ⟨m,rfl⟩ : ∃ m:Nat,e=m:=⟨e.toNat,by omega⟩
 exact Xd4 m x
theorem Xd1{f:Bool}{x y:Dy}(hx:0≤x.exp∧x.exp≤60)(hy:0≤y.exp∧y.exp≤60) : 0≤(sMul f x y).2.exp∧(sMul f x y).2.exp≤60:=by
 unfold sMul
 split
 ·exact ⟨Int.le_refl _,by decide⟩
 ·have:=Xa2 (x:=sRing (rMul x.num y.num)) (e:=x.exp+y.exp) (by omega)
  dsimp only
  omega
theorem Xka{f:Bool}{x y:Dy}(hx:0≤x.exp∧x.exp≤60)(hy:0≤y.exp∧y.exp≤60) : 0≤(sAdd f x y).2.exp∧(sAdd f x y).2.exp≤60:=by
 unfold sAdd
 dsimp only
 rw [X5g]
 have:=fun z=>Xa2 (x:=z) (e:=x.exp+((y.exp-x.exp).toNat:Int)) (by omega)
 have h:=this (sRing (rAdd (sRaiseN (y.exp-x.exp).toNat f x).2.num (sRaiseN (x.exp+((y.exp-x.exp).toNat:Int)-y.exp).toNat (sRaiseN (y.exp-x.exp).toNat f x).1 y).2.num))
 omega
theorem X96{a b:Mx}(ha:AllOk a)(hb:AllOk b)(f:Bool)(i j:Nat) : ∀ n,0≤(dotS f a b i j n).2.exp∧(dotS f a b i j n).2.exp≤60
 | 0=>⟨Int.le_refl _,show (0:Int)≤60 by decide⟩
 | n+1=>by
  rw [dotS]
  split
  ·exact X96 ha hb f i j n
  ·exact Xka (X96 ha hb f i j n) (Xd1 (X2s (Mx.at_ok ha i n)) (X2s (Mx.at_ok hb n j)))
theorem Xpp{a b:Mx}{f f3:Bool}{i j k n:Nat}{s:Dy}(h:dotS f a b i j k=(f3,s))(hk:k≤n)(he:f3=true∨k=n) : dotS f a b i j n=(f3,s):=by
 rcases he with he|he
 ·subst he
  rw [X8h (n:=k) (by rw [h]) n hk,h]
 ·subst he;exact h
theorem Xmz{a b:Mx}{f f3:Bool}{i j k:Nat}{s:Dy}(h:dotS f a b i j k=(f3,s))(hf:f3=false) :
  dotS f a b i j (k+1)=((sAdd (sMul f3 (a.at i k) (b.at k j)).1 s (sMul f3 (a.at i k) (b.at k j)).2).1,(sAdd (sMul f3 (a.at i k) (b.at k j)).1 s (sMul f3 (a.at i k) (b.at k j)).2).2):=by
 subst hf
 rw [dotS,h,if_neg (show ¬ (false=true) by decide)]
theorem X2m{a b:Nat}(ha:a≤32)(hb:b≤32) : a*b≤1024:=Nat.le_trans (Nat.mul_le_mul ha hb) (by decide)
theorem X9z{l:List Int}{k:Nat}(h:decide ((k:Int)<(l.length:Int))=true) : l[k]? = some (l.getD k 0):=X5t (by simpa using h)
def putI:List Int→Int→List Int
 | [],n=>[n]
 | x::l,n=>if x<n then x::putI l n else if x=n then x::l else n::x::l
theorem Xh0:∀ (l:List Int) (n:Int),(putI l n).length≤l.length+1
 | [],n=>by simp [putI]
 | x::l,n=>by
  unfold putI
  split
  ·have:=Xh0 l n;simp only [List.length_cons];omega
  ·split<;>simp
theorem Xmt:∀ (l:List Int) (n:Int) (k:Nat),(l.take k).all (fun x=>decide (x<n))=true→k≤l.length→(k<l.length→¬ l.getD k 0<n)→
  (k<l.length∧l.getD k 0=n→putI l n=l)∧(¬ (k<l.length∧l.getD k 0=n)→putI l n=l.take k++[n]++l.drop k)
 | [],n,k,_,hk,_=>by
  have:k=0:=by simpa using hk
  subst this
  exact ⟨fun h=>by simp at h,fun _=>rfl⟩
 | x::l,n,0,_,_,h=>by
  have h:=h (by simp)
  simp only [List.getD_cons_zero] at h
  refine ⟨fun h1=>?_,fun h1=>?_⟩
  ·have h2:=h1.2
   simp only [List.getD_cons_zero] at h2
   rw [putI,if_neg h,if_pos h2]
  ·have h2:¬ x=n:=fun e=>h1 ⟨by simp,by simpa using e⟩
   rw [putI,if_neg h,if_neg h2]
   rfl
 | x::l,n,k+1,ha,hk,h=>by
  simp only [List.take_succ_cons,List.all_cons,Bool.and_eq_true,decide_eq_true_eq] at ha
  have ih:=Xmt l n k ha.2 (by simpa using hk) (fun h1=>by have:=h (by simpa using h1);simpa using this)
  simp only [List.length_cons,Nat.add_lt_add_iff_right,List.getD_cons_succ,List.take_succ_cons,List.drop_succ_cons,List.cons_append] at *
  rw [putI,if_pos ha.1]
  exact ⟨fun h1=>by rw [ih.1 h1],fun h1=>by rw [ih.2 h1]⟩
def usedStep(m:List Int)(g:Gt) : List Int:=if g.k=12 then m else if inR g.k 9 11=true then putI (putI m g.a) g.b else putI m g.a
def usedS(l:List Gt) : List Int:=l.foldl usedStep []
def lastN(l:List Int)(q:Int) : Nat→Int
 | 0=>0
 | k+1=>if l.getD k 0=q then (k:Int) else lastN l q k
theorem X8p{l:List Int}{q u:Int}{k:Nat}(h:l[k]? = some u) : lastN l q (k+1)=if u=q then (k:Int) else lastN l q k:=by
 have:l.getD k 0=u:=by rw [List.getD_eq_getElem?_getD,h];rfl
 rw [lastN,this]
section
variable {us : List Int} {j : Nat} {v q x k : Int}
end
def smallG(used:List Int)(g:Gt) : Gt:=⟨g.k,if g.k=12 then 0 else lastN used g.a used.length,if inR g.k 9 11=true then lastN used g.b used.length else 0⟩
def validS(n:Int)(r:Rp) : Bool:=inR n 1 5&&inR r.pos 0 400&&(!(r.old.any fun x=>!gOk n x)&&decide ((r.old.length:Int)≤40))&&(!(r.new.any fun x=>!gOk n x)&&decide ((r.new.length:Int)≤40))
theorem Xl7(n:Int)(r:Rp) : validS n r=vrI n r:=by
 unfold validS vrI
 cases inR n 1 5<;>cases inR r.pos 0 400<;>cases (r.old.any fun x=>!gOk n x)<;>cases (r.new.any fun x=>!gOk n x)<;>cases decide ((r.old.length:Int)≤40)<;>cases decide ((r.new.length:Int)≤40)<;>rfl
end Go.Proofs.YtblmmikapnflcaaGreatDoor
