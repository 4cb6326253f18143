/-
  What is proved: for every circuit, the program's PeepholePass answers as the reference's does, leaves its argument as it was and hands out memory of its own, and the argument reads as before. Conditions: none beside the table of powers of ten that the card ties to the program's text.
-/
import Derived.Test.YtblmmikapnflcaaGreatDoorS1
import Derived.MapKept
import Derived.Shelf.Sort.Plain
import Derived.Shelf.Slices.Turned
import Derived.Ground.Names2Prog
import Derived.Shelf.Slices.Clone
import Derived.Shelf.Slices.CompactI
import Derived.Shelf.Slices.Cells
import Derived.Test.YtblmmikapnflcaaGreatDoorProg
import Derived.Shelf.Spec.SlicesGrow
import Derived.Laws.MakeOwn
import Derived.Laws.Slices
import Derived.Shelf.Slices.In.SortNone
set_option linter.unusedVariables false
set_option linter.unusedSimpArgs false
set_option maxRecDepth 4000
set_option linter.unusedSectionVars false
namespace Go.Proofs.YtblmmikapnflcaaGreatDoor
open Go.RowKit
theorem Xpy(f:World)(m:Mx)(Am:Option Addr)(cm:Nat)(hm:Rd f f.heap.size 95 encD Am m.cells)(i j:Nat)(aG:mOk m=true)(hi:(i:Int)<m.rows)(hj:(j:Int)<m.cols) : Ret Tryz.prog 135 [.agg #[vi m.rows,vi m.cols,.slice Am m.cells.length cm],vi (i:Int),vi (j:Int)] f (fun v w=>v=dV (m.at i j)∧Below f.heap.size f w):=by
 have aA:=X32 aG
 have aH:i*m.cols.toNat+j<m.cells.length:=by rw [aA.2.2];exact X3o (by omega) (by omega)
 have aO:m.cells.length≤1024:=by rw [aA.2.2];exact Q0 (Nat.mul_le_mul (show m.rows.toNat≤32 by omega) (show m.cols.toNat≤32 by omega)) (by decide)
 have aB:=Mx.at_get aH
 have aI:m.cols=(m.cols.toNat:Int):=by omega
 suffices hgoal:Ret Tryz.prog 135 [.agg #[vi m.rows,vi (m.cols.toNat:Int),.slice Am m.cells.length cm],vi (i:Int),vi (j:Int)] f (fun v w=>v=dV (m.at i j)∧Below f.heap.size f w) by rw [← aI] at hgoal;exact hgoal
 refine enter Tryz.func135 rfl 17 rfl rfl ?_;intro a hf
 have e:=bz f
 refine Zs hf fun _ aJ=>?_;refine Zf (X0i (zs:=[vi m.rows,vi (m.cols.toNat:Int),.slice Am m.cells.length cm]) rfl rfl) ?_;rintro _ w1 ⟨b3,rfl,aK,hE,g⟩;have aM:=Q0 e.size aK;have e:=btr e hE;refine Zf (X8 (zs:=[vi 0,vi 0,vi 0,vi 0,vi 0]) X1l rfl) ?_;rintro _ w2 ⟨b4,rfl,aC,hE,n⟩;have aD:=Q0 e.size aC;have aF:=(hm.below' e).away aC;have g:=g.below hE;have e:=btr e hE;refine Zx aJ fun a hf _ aL=>?_;refine Ze (Vd rfl X1g 2)<|Ze (X0 rfl X2n (g.at 2))<|Zm rfl<|Ze (Vd rfl X1r 1)<|Ze (X0 rfl X7 (g.at 1))<|Ze (Xf0 (m:=i) (k:=m.cols.toNat) rfl rfl (by omega))<|Zm rfl<|Ze (X00 rfl rfl (by omega) (by omega))<|Zi (k:=(i*m.cols.toNat+j)) (u:=(m.at i j)) (enc:=encD) (l:=m.cells) trivial rfl rfl X1d X04 X1a (hm.below' e) aB (by omega) ?_;intro p7 aE;refine Ze (Xw (l:=[vi ((m.at i j).num.a),vi ((m.at i j).num.b),vi ((m.at i j).num.c),vi ((m.at i j).num.d),vi ((m.at i j).exp)]) rfl Xr aE rfl)<|Zo (Vw [vi ((m.at i j).num.a),vi ((m.at i j).num.b),vi ((m.at i j).num.c),vi ((m.at i j).num.d),vi ((m.at i j).exp)] X04 n) ?_;rintro _ w3 ⟨ho,hb⟩;have aN:=n;have e:=Below.only e ho aD;have n:=hb;refine Zt aL fun a hf=>?_
 refine Q6 (X3 hf (Xs hf rfl (ResV.cellN (l:=[vi ((m.at i j).num.a),vi ((m.at i j).num.b),vi ((m.at i j).num.c),vi ((m.at i j).num.d),vi ((m.at i j).exp)]) rfl Xr (n.at 0) rfl)) ?_)
 exact ⟨rfl,e⟩
theorem Xqz(E:World)(R C:Int)(k:FuncId)(caps:List Value)(hF:FuncF Tryz.prog k)(f:Nat→Nat→Option Dy)(aG:∀ (i j:Nat) w,(i:Int)<R→(j:Int)<C→Below E.heap.size E w→Ret Tryz.prog k ([vi (i:Int),vi (j:Int)]++caps) w (fun v w'=>v=.tuple #[dV ((f i j).getD dZ),.bool (f i j).isSome]∧Below w.heap.size w w')) : Ret Tryz.prog 123 [vi R,vi C,.func (.func k) #[] caps.toArray] E (fun v w=>∃ A c,v=.tuple #[mV A c ((matOf R C f).getD mZ),.bool (matOf R C f).isSome]∧Own w E.heap.size 95 5 encD A c ((matOf R C f).getD mZ).cells∧Below E.heap.size E w):=by
 refine enter Tryz.func123 rfl 52 rfl rfl ?_;intro a g
 have p:=bz E
 refine Zs g fun _ bH=>?_;refine Zf (X8 (zs:=[vi 0,vi 0,.slice none 0 0]) X1o rfl) ?_;rintro _ w1 ⟨b3,rfl,bI,y,e⟩;have M:=Q0 p.size bI;have p:=btr p y;refine Za rfl<|Zx bH fun a g _ bJ=>?_;refine Zm rfl<|Zm rfl<|Ze (Xg (ps:=[(0,vi R),(1,vi C)]) (cs:=[vi R,vi C,.slice none 0 0]) rfl (fun _=>by first|rfl|kernel_rfl))<|Zf (X8 (zs:=[vi 0,vi 0,.slice none 0 0]) X1o rfl) ?_;rintro _ w2 ⟨b7,rfl,bK,y,m⟩
 have bG:b3≠b7:=by have:=e.lt;omega
 have aD:=Q0 p.size bK;have e:=e.below y;have p:=btr p y;refine Zo (Vw [vi R,vi C,.slice none 0 0] X18 m) ?_;rintro _ w3 ⟨h,N⟩;have q:=m;have e:=e.only h (by omega);have p:=Below.only p h aD;have m:=N;refine ZX bJ fun a g _ bL=>?_;refine Q5 fun _ bM=>?_;refine X0l (fun a w=>Fr a 52 [(0,vi R),(1,vi C),(2,.func (.func k) #[] caps.toArray),(6,.pointer (some ⟨b3,0,none⟩)),(8,.pointer (some ⟨b7,0,none⟩)),(23,.bool ((!(isDimB R))||(!(isDimB C))))]∧w3=w) ?_ ?_
 ·refine Zr g<|Zm rfl<|Zf (Vc (Xt5 _ R) Xcc) ?_;rintro _ _ ⟨rfl,rfl⟩;refine Ze (X0x rfl)<|Zm rfl ?_
  refine Zg 19 rfl (fun n=>?_) (fun n=>?_)
  ·refine Zp (gP n) ?_;refine Zp (gP n) ?_;refine Zp (gP n) ?_;refine Ze (Xl rfl n rfl) ?_;refine Zn fun a g=>?_;exact ⟨g.sub ⟨rfl,rfl,rfl,rfl,rfl,X1 rfl (by first|rfl|(simp only [n,bs];done)|simp [n]),trivial⟩,rfl⟩
  refine Zv (gW n) (Xa rfl) ?_;refine Zk (gW n) (Vc (Xt5 _ C) Xcc) ?_;rintro _ _ ⟨rfl,rfl⟩;refine Zv (gW n) (X0x rfl) ?_;refine Ze (Xe rfl n rfl) ?_;refine Zn fun a g=>?_;exact ⟨g.sub ⟨rfl,rfl,rfl,rfl,rfl,X1 rfl (by first|rfl|(simp only [n,bs];done)|simp [n]),trivial⟩,rfl⟩
 rintro a _ ⟨g,rfl⟩;refine bM _ _ ?_
 refine Xj g rfl (fun B=>?_) (fun B=>?_)
 ·have aH:=B;have hn:=X7f B;refine Zs g fun _ aT=>?_;refine Ze (Xg (ps:=[]) (cs:=[vi 0,vi 0,.slice none 0 0]) rfl (fun _=>by first|rfl|kernel_rfl))<|Zo (Vw [vi 0,vi 0,.slice none 0 0] X18 e) ?_;rintro _ w4 ⟨h,N⟩;have q:=e;have p:=Below.only p h M;have e:=N;refine Za rfl<|Zt aT fun a g=>?_;refine Q6<|X2<|X3 g (X0w g rfl (ResV.cellN (l:=[vi 0,vi 0,.slice none 0 0]) rfl X0j (e.at 0) rfl) rfl) ?_
  have he:matOf R C f=none:=by rw [matOf,hn];rfl
  rw [he]
  exact ⟨none,0,rfl,(Own.nil _ _ _ _ _),p⟩
 have aH:=B;have hy:=Xa4 B;have aU:=(Qd _ _▸hy:isDimB R=true∧isDimB C=true);have hR:=X2k aU.1;have hC:=X2k aU.2;refine Q7<|bL _ _<|Q5 fun _ aW=>?_;refine Zs g fun _ aX=>?_;refine Zm rfl<|Zm rfl<|Zt aX fun a g=>?_;refine Q8<|X0a (σ:=Nat×(List Dy)) (fun (s:Nat×(List Dy)) (a:Act) (w:World)=>match s with|(i,l)=>∃ G H,Fr a 52 [(1,vi C),(2,.func (.func k) #[] caps.toArray),(6,.pointer (some ⟨b3,0,none⟩)),(8,.pointer (some ⟨b7,0,none⟩)),(25,vi R),(26,vi (i:Int))]∧((i:Int)≤R)∧(seqO (gridG f C.toNat) (i*C.toNat)=some l)∧Blk w b3 33 [vi 0,vi 0,.slice none 0 0]∧Blk w b7 33 [vi R,vi C,.slice G l.length H]∧Own w E.heap.size 95 5 encD G H l∧Below E.heap.size E w) (fun (s:Nat×(List Dy))=>match s with|(i,l)=>(R-i).toNat) (0,[]) ?_ ?_
 ·exact ⟨none,0,g.sb,(by omega),(by rw [Nat.zero_mul];rfl),e,m,(Own.nil _ _ _ _ _),p⟩
 rintro ⟨i,l⟩ a w5 ⟨G,H,g,bQ,hl,e,m,I,p⟩;refine Zs g fun _ aY=>?_;refine Ze (X11 rfl rfl)<|ZX aY fun a g _ aZ=>?_
 refine Xj g rfl (fun t=>?_) (fun t=>?_)
 ·have aI:=t;have t:=Q2 t
  have aJ:(i:Int)<R:=t
  have bR:i*C.toNat≤1024:=Q0 (Nat.mul_le_mul (show i≤32 by omega) (show C.toNat≤32 by omega)) (by decide)
  refine Q7<|aZ _ _<|Q5 fun _ b0=>?_;refine Q8<|Zs g fun _ b1=>?_;refine Zm rfl<|Za rfl<|Zx b1 fun a g _ b2=>?_;refine Zm rfl<|Zm rfl<|Zt b2 fun a g=>?_;refine Q8<|X0a (σ:=Nat×(List Dy)) (fun (s:Nat×(List Dy)) (a:Act) (w:World)=>match s with|(j,l2)=>∃ W aA,Fr a 52 [(1,vi C),(2,.func (.func k) #[] caps.toArray),(6,.pointer (some ⟨b3,0,none⟩)),(8,.pointer (some ⟨b7,0,none⟩)),(9,vi (i:Int)),(25,vi R),(26,vi (i:Int)),(29,vi C),(30,vi (j:Int))]∧((j:Int)≤C)∧(seqO (gridG f C.toNat) (i*C.toNat+j)=some l2)∧Blk w b3 33 [vi 0,vi 0,.slice none 0 0]∧Blk w b7 33 [vi R,vi C,.slice W l2.length aA]∧Own w E.heap.size 95 5 encD W aA l2∧Below E.heap.size E w) (fun (s:Nat×(List Dy))=>match s with|(j,l2)=>(C-j).toNat) (0,l) ?_ ?_
  ·exact ⟨G,H,g.sb,(by omega),hl,e,m,I,p⟩
  rintro ⟨j,l2⟩ a w6 ⟨W,aA,g,bS,aB,e,m,o,p⟩;refine Zs g fun _ b4=>?_;refine Ze (X11 rfl rfl)<|ZX b4 fun a g _ b5=>?_
  refine Xj g rfl (fun u=>?_) (fun u=>?_)
  ·have aK:=u;have u:=Q2 u
   have aC:(j:Int)<C:=u
   have bP:=X4l aB;refine Q7<|b5 _ _<|Q5 fun _ b6=>?_;refine Q8<|Zs g fun _ b8=>?_;refine Zm rfl<|Za rfl<|Zx b8 fun a g _ b9=>?_;refine Zm rfl<|Zm rfl<|Zm rfl<|Zf (X7k (cs:=caps) (vs:=[vi (i:Int),vi (j:Int)]) rfl rfl hF (aG i j _ aJ aC p)) ?_;rintro _ w7 ⟨rfl,y⟩;have e:=e.below y;have m:=m.below y;have o:=o.below y;have p:=btr p y;refine Zm rfl<|Ze (X4 (vs:=[.agg #[vi (((f i j).getD dZ).num.a),vi (((f i j).getD dZ).num.b),vi (((f i j).getD dZ).num.c),vi (((f i j).getD dZ).num.d),vi (((f i j).getD dZ).exp)],.bool ((f i j).isSome)]) rfl rfl)<|Ze (X4 (vs:=[.agg #[vi (((f i j).getD dZ).num.a),vi (((f i j).getD dZ).num.b),vi (((f i j).getD dZ).num.c),vi (((f i j).getD dZ).num.d),vi (((f i j).getD dZ).exp)],.bool ((f i j).isSome)]) rfl rfl)<|Zf (X8 (zs:=[vi 0,vi 0,vi 0,vi 0,vi 0]) X1l rfl) ?_;rintro _ w8 ⟨bN,rfl,aE,y,x⟩;have aL:=Q0 p.size aE;have z:=o.away aE;have e:=e.below y;have m:=m.below y;have o:=o.below y;have p:=btr p y;refine Zo (Vw [vi (((f i j).getD dZ).num.a),vi (((f i j).getD dZ).num.b),vi (((f i j).getD dZ).num.c),vi (((f i j).getD dZ).num.d),vi (((f i j).getD dZ).exp)] X04 x) ?_;rintro _ w9 ⟨h,N⟩;have q:=x;have e:=e.only h (Blk.ne e q rfl);have m:=m.only h (Blk.ne m q rfl);have o:=o.onlyA h z;have p:=Below.only p h aL;have x:=N;refine Za rfl<|ZX b9 fun a g _ bC=>?_;refine Zs g fun _ bD=>?_;refine Zm rfl<|Ze (X0x rfl)<|Zt bD fun a g=>?_
   refine Xj g rfl (fun D=>?_) (fun D=>?_)
   ·have aM:=D
    have hn:gridG f C.toNat (i*C.toNat+j)=none:=by rw [X99 (by omega)];revert D;cases f i j<;>simp
    refine Zs g fun _ bE=>?_;refine Ze (Xg (ps:=[]) (cs:=[vi 0,vi 0,.slice none 0 0]) rfl (fun _=>by first|rfl|kernel_rfl))<|Zo (Vw [vi 0,vi 0,.slice none 0 0] X18 e) ?_;rintro _ bU ⟨h,N⟩;have q:=e;have p:=Below.only p h M;have e:=N;refine Za rfl<|Zt bE fun a g=>?_;refine Q6<|X2<|Xm<|X2 ?_;refine X2<|Xm<|Xm<|X2 ?_;refine X2<|Xm<|X2<|X3 g (X0w g rfl (ResV.cellN (l:=[vi 0,vi 0,.slice none 0 0]) rfl X0j (e.at 0) rfl) rfl) ?_
    have he:matOf R C f=none:=by rw [matOf,Q4 hy,Xbm hn _ (X3o (by omega) (by omega))];rfl
    rw [he]
    exact ⟨none,0,rfl,(Own.nil _ _ _ _ _),p⟩
   have aM:=D
   have hx:gridG f C.toNat (i*C.toNat+j)=some ((f i j).getD dZ):=by rw [X99 (by omega)];revert D;cases f i j<;>simp
   refine Q7<|bC _ _<|Zr g<|Ze (Vd rfl X1g 2)<|Ze (X0 rfl X2n (m.at 2))<|Ze (Vn Xr x)<|Zf (X5 (k:=1) (vs:=[.agg #[vi (((f i j).getD dZ).num.a),vi (((f i j).getD dZ).num.b),vi (((f i j).getD dZ).num.c),vi (((f i j).getD dZ).num.d),vi (((f i j).getD dZ).exp)]]) (zs:=[vi (((f i j).getD dZ).num.a),vi (((f i j).getD dZ).num.b),vi (((f i j).getD dZ).num.c),vi (((f i j).getD dZ).num.d),vi (((f i j).getD dZ).exp)]) rfl X1d X2u rfl rfl) ?_;rintro _ bW ⟨b36,rfl,aF,y,Q⟩
   have aQ:bN≠b36:=by have:=x.lt;omega
   have bO:=Q0 p.size aF;have L:=o.away aF;have e:=e.below y;have m:=m.below y;have x:=x.below y;have o:=o.below y;have p:=btr p y;refine Zf (X0v (enc:=encD) (l:=(l2)) (l2:=([((f i j).getD dZ)])) (B0:=E.heap.size) rfl rfl X1d X2u X1a X76 o (Rd.of_blk Q rfl _ Q.lt) (by simp only [maxLen];simp;omega) (by simp;omega) p.size) ?_;rintro _ bX ⟨aN,aO,rfl,U,hg,aP⟩
   have J:Own _ E.heap.size 95 5 encD _ _ (l2):=o
   have aR:=aP _ x.lt z;have aS:=aP _ Q.lt L;clear aP;have e:=e.appT J hg rfl;have m:=m.appT J hg rfl;have p:=Below.app p J hg (Qb _) p.size;clear J hg;refine Ze (Vd rfl X1g 2)<|Zo (Vu (vs:=[.slice aN (l2++([((f i j).getD dZ)])).length aO]) (l':=[vi R,vi C,.slice aN (l2++([((f i j).getD dZ)])).length aO]) rfl rfl Xh1 m) ?_;rintro _ bY ⟨h,N⟩;have q:=m;have e:=e.only h (by omega);have U:=U.onlyT h q rfl;have p:=Below.only p h aD;have m:=N;refine Zn fun a g=>?_;refine Xq<|b6 _ _<|Zr g<|Ze (X00 rfl rfl (by omega) (by omega))<|Zm rfl ?_;refine Zn fun a g=>?_;refine Xo ?_;exact ⟨(j+1,l2++[((f i j).getD dZ)]),⟨aN,aO,g.sb,(by omega),(Xap aB hx),e,m,U,p⟩,(by first|omega|(dsimp only;omega))⟩
  have aK:=u;have u:=Q1 u
  have aC:j=C.toNat:=by omega
  refine Q9<|Xn<|Xn<|X06 ?_;refine Xq<|b0 _ _<|Zr g<|Ze (X00 rfl rfl (by omega) (by omega))<|Zm rfl ?_;refine Zn fun a g=>?_;refine Xo ?_;exact ⟨(i+1,l2),⟨W,aA,g.sb,(by omega),(by rw [Wb,Nat.one_mul,← aC];rw [← aC] at aB;exact aB),e,m,o,p⟩,(by first|omega|(dsimp only;omega))⟩
 have aI:=t;have t:=Q1 t
 have aJ:i=R.toNat:=by omega
 refine Q9<|Xn<|Xn<|X06 ?_;refine aW _ _<|Zs g fun _ bF=>?_;refine Ze (Vn X0j m)<|Zo (Vw [vi R,vi C,.slice G l.length H] X18 e) ?_;rintro _ bZ ⟨h,N⟩;have q:=e;have I:=I.onlyT h q rfl;have p:=Below.only p h M;have e:=N;refine Za rfl<|Zt bF fun a g=>?_
 refine Q6 (X3 g (X0w g rfl (ResV.cellN (l:=[vi R,vi C,.slice G l.length H]) rfl X0j (e.at 0) rfl) rfl) ?_)
 have he:matOf R C f=some ⟨R,C,l⟩:=by rw [matOf,Q4 hy,← aJ,hl];rfl
 rw [he]
 exact ⟨G,H,rfl,I,p⟩
theorem Y1v(w0:World)(i:Int)(j:Int) : Ret Tryz.prog 124 [vi i,vi j] w0 (fun v w=>v=.tuple #[dV (if i=j then (⟨⟨1,0,0,0⟩,0⟩ : Dy) else dZ),.bool true]∧Below w0.heap.size w0 w):=by
 refine enter Tryz.func124 rfl 11 rfl rfl ?_;intro a f
 have g:=bz w0
 refine Zs f fun _ aD=>?_;refine Zf (X8 (zs:=[vi 0,vi 0,vi 0,vi 0,vi 0]) X1l rfl) ?_;rintro _ w1 ⟨b2,rfl,aE,hE,e⟩;have m:=Q0 g.size aE;have g:=btr g hE;refine Za rfl<|ZX aD fun a f _ aF=>?_;refine Zs f fun _ aG=>?_;refine Zm rfl<|Zm rfl<|Ze (X16 rfl rfl)<|Zt aG fun a f=>?_
 refine Xj f rfl (fun k=>?_) (fun k=>?_)
 ·have aB:=k
  have aA:i=j:=by revert k;simp
  refine Zs f fun _ aH=>?_;refine Zf (Vc (Xw1 _ 1) Xg7) ?_;rintro _ w2 ⟨rfl,hE⟩;have e:=e.below hE;have g:=btr g hE;refine Zo (Vw [vi ((⟨⟨1,0,0,0⟩,0⟩ : Dy).num.a),vi ((⟨⟨1,0,0,0⟩,0⟩ : Dy).num.b),vi ((⟨⟨1,0,0,0⟩,0⟩ : Dy).num.c),vi ((⟨⟨1,0,0,0⟩,0⟩ : Dy).num.d),vi ((⟨⟨1,0,0,0⟩,0⟩ : Dy).exp)] X04 e) ?_;rintro _ w3 ⟨ho,hb⟩;have aC:=e;have g:=Below.only g ho m;have e:=hb;refine Za rfl<|Zt aH fun a f=>?_;refine Q6<|X2<|X3 f (X0w f rfl (ResV.cellN (l:=[vi ((⟨⟨1,0,0,0⟩,0⟩ : Dy).num.a),vi ((⟨⟨1,0,0,0⟩,0⟩ : Dy).num.b),vi ((⟨⟨1,0,0,0⟩,0⟩ : Dy).num.c),vi ((⟨⟨1,0,0,0⟩,0⟩ : Dy).num.d),vi ((⟨⟨1,0,0,0⟩,0⟩ : Dy).exp)]) rfl Xr (e.at 0) rfl) rfl) ?_;exact ⟨by rw [Q4 aA],g⟩
 have aB:=k
 have aA:¬ i=j:=by revert k;simp
 refine Q7<|aF _ _<|Zs f fun _ aI=>?_;refine Ze (Xg (ps:=[]) (cs:=[vi 0,vi 0,vi 0,vi 0,vi 0]) rfl (fun _=>by first|rfl|kernel_rfl))<|Zo (Vw [vi 0,vi 0,vi 0,vi 0,vi 0] X04 e) ?_;rintro _ w4 ⟨ho,hb⟩;have aC:=e;have g:=Below.only g ho m;have e:=hb;refine Za rfl<|Zt aI fun a f=>?_
 refine Q6 (X3 f (X0w f rfl (ResV.cellN (l:=[vi 0,vi 0,vi 0,vi 0,vi 0]) rfl Xr (e.at 0) rfl) rfl) ?_)
 exact ⟨by rw [Q3 aA];rfl,g⟩
theorem Xz5(w0:World)(n:Int) : Ret Tryz.prog 67 [vi n] w0 (fun v w=>∃ A c,v=.tuple #[mV A c ((idI n).getD mZ),.bool (idI n).isSome]∧Own w w0.heap.size 95 5 encD A c ((idI n).getD mZ).cells∧Below w0.heap.size w0 w):=by
 refine enter Tryz.func67 rfl 9 rfl rfl ?_;intro a hf
 have e:=bz w0
 refine Zs hf fun _ aC=>?_;refine Zf (X8 (zs:=[vi 0,vi 0,.slice none 0 0]) X1o rfl) ?_;rintro _ w1 ⟨b3,rfl,aD,hE,b⟩;have aA:=Q0 e.size aD;have e:=btr e hE;refine Za rfl<|Zx aC fun a hf _ aE=>?_;refine Zm rfl<|Zm rfl<|Zf (Vc (Xqz _ n n 124 [] Xy2 (fun i j=>some (if i=j then ⟨⟨1,0,0,0⟩,0⟩ else dZ)) (fun i j w' hi hj hE'=>(Y1v w' (i:Int) (j:Int)).mono fun v w'' ⟨h1,h2⟩=>⟨by rw [h1];simp only [Int.natCast_inj];rfl,h2⟩)) Xcd) ?_;rintro _ w2 ⟨A5,c5,rfl,d,hE⟩;have d:=d.lower e.size;have b:=b.below hE;have e:=btr e hE;refine Ze (X4 (vs:=[.agg #[vi (((matOf n n (fun i j=>some (if i=j then ⟨⟨1,0,0,0⟩,0⟩ else dZ))).getD mZ).rows),vi (((matOf n n (fun i j=>some (if i=j then ⟨⟨1,0,0,0⟩,0⟩ else dZ))).getD mZ).cols),.slice A5 (((matOf n n (fun i j=>some (if i=j then ⟨⟨1,0,0,0⟩,0⟩ else dZ))).getD mZ).cells).length c5],.bool ((matOf n n (fun i j=>some (if i=j then ⟨⟨1,0,0,0⟩,0⟩ else dZ))).isSome)]) rfl rfl)<|Ze (X4 (vs:=[.agg #[vi (((matOf n n (fun i j=>some (if i=j then ⟨⟨1,0,0,0⟩,0⟩ else dZ))).getD mZ).rows),vi (((matOf n n (fun i j=>some (if i=j then ⟨⟨1,0,0,0⟩,0⟩ else dZ))).getD mZ).cols),.slice A5 (((matOf n n (fun i j=>some (if i=j then ⟨⟨1,0,0,0⟩,0⟩ else dZ))).getD mZ).cells).length c5],.bool ((matOf n n (fun i j=>some (if i=j then ⟨⟨1,0,0,0⟩,0⟩ else dZ))).isSome)]) rfl rfl)<|Zo (Vw [vi (((matOf n n (fun i j=>some (if i=j then ⟨⟨1,0,0,0⟩,0⟩ else dZ))).getD mZ).rows),vi (((matOf n n (fun i j=>some (if i=j then ⟨⟨1,0,0,0⟩,0⟩ else dZ))).getD mZ).cols),.slice A5 (((matOf n n (fun i j=>some (if i=j then ⟨⟨1,0,0,0⟩,0⟩ else dZ))).getD mZ).cells).length c5] X18 b) ?_;rintro _ w3 ⟨ho,hb⟩;have aB:=b;have d:=d.onlyT ho aB rfl;have e:=Below.only e ho aA;have b:=hb;refine Za rfl<|Zt aE fun a hf=>?_
 refine Q6 (X3 hf (X0w hf rfl (ResV.cellN (l:=[vi (((matOf n n (fun i j=>some (if i=j then ⟨⟨1,0,0,0⟩,0⟩ else dZ))).getD mZ).rows),vi (((matOf n n (fun i j=>some (if i=j then ⟨⟨1,0,0,0⟩,0⟩ else dZ))).getD mZ).cols),.slice A5 (((matOf n n (fun i j=>some (if i=j then ⟨⟨1,0,0,0⟩,0⟩ else dZ))).getD mZ).cells).length c5]) rfl X0j (b.at 0) rfl) rfl) ?_)
 exact ⟨A5,c5,rfl,d,e⟩
theorem Y17(w0:World)(p q:Mx)(Aa Ab:Option Addr)(ca cb:Nat)(ba bb:Nat)(I:Rd w0 w0.heap.size 95 encD Aa p.cells)(J:Rd w0 w0.heap.size 95 encD Ab q.cells)(u:Blk w0 ba 33 [vi p.rows,vi p.cols,.slice Aa p.cells.length ca])(x:Blk w0 bb 33 [vi q.rows,vi q.cols,.slice Ab q.cells.length cb])(bG:mOk p=true)(cH:mOk q=true)(dO:p.cols=q.rows)(i j:Nat)(hi:(i:Int)<p.rows)(hj:(j:Int)<q.cols) : Ret Tryz.prog 133 [vi (i:Int),vi (j:Int),.pointer (some ⟨ba,0,none⟩),.pointer (some ⟨bb,0,none⟩)] w0 (fun v w=>v=.tuple #[dV ((dotI p q i j p.cols.toNat).getD dZ),.bool (dotI p q i j p.cols.toNat).isSome]∧Below w0.heap.size w0 w):=by
 have dP:=X32 bG;have dD:=u.lt;have dE:=x.lt
 have dQ:p.cols=(p.cols.toNat:Int):=by omega
 refine enter Tryz.func133 rfl 48 rfl rfl ?_;intro a t
 have f:=bz w0
 refine Zs t fun _ dF=>?_;refine Zf (X8 (zs:=[vi 0,vi 0,vi 0,vi 0,vi 0]) X1l rfl) ?_;rintro _ w1 ⟨L,rfl,bH,e,g⟩;have b9:=Q0 f.size bH;have d8:=(I.below' f).away bH;have d9:=(J.below' f).away bH;have u:=u.below e;have x:=x.below e;have f:=btr f e;refine Za rfl<|Zx dF fun a t _ dG=>?_;refine Ze (Xg (ps:=[]) (cs:=[vi 0,vi 0,vi 0,vi 0,vi 0]) rfl (fun _=>by first|rfl|kernel_rfl))<|Zf (X8 (zs:=[vi 0,vi 0,vi 0,vi 0,vi 0]) X1l rfl) ?_;rintro _ w2 ⟨b6,rfl,bI,e,o⟩
 have dA:L≠b6:=by have:=g.lt;omega
 have bC:=Q0 f.size bI;have dB:=(I.below' f).away bI;have dC:=(J.below' f).away bI;have u:=u.below e;have x:=x.below e;have g:=g.below e;have f:=btr f e;refine Zo (Vw [vi 0,vi 0,vi 0,vi 0,vi 0] X04 o) ?_;rintro _ w3 ⟨D,hb⟩;have z:=o;have u:=u.only D (Blk.ne u z rfl);have x:=x.only D (Blk.ne x z rfl);have g:=g.only D (by omega);have f:=Below.only f D bC;have o:=hb;refine ZX dG fun a t _ dH=>?_;refine Zs t fun _ dI=>?_;refine Ze (Vd rfl X1r 1)<|Ze (X0 rfl X7 (u.at 1))<|Zm rfl<|Zt dI fun a t=>?_;refine Q8<|X0a (σ:=Nat×Dy) (fun (s:Nat×Dy) (a:Act) (w:World)=>match s with|(k,sum)=>Fr a 48 [(0,vi (i:Int)),(1,vi (j:Int)),(2,.pointer (some ⟨ba,0,none⟩)),(3,.pointer (some ⟨bb,0,none⟩)),(6,.pointer (some ⟨L,0,none⟩)),(8,.pointer (some ⟨b6,0,none⟩)),(16,vi p.cols),(17,vi (k:Int))]∧((k:Int)≤p.cols)∧(dotI p q i j k=some sum)∧Blk w ba 33 [vi p.rows,vi p.cols,.slice Aa p.cells.length ca]∧Blk w bb 33 [vi q.rows,vi q.cols,.slice Ab q.cells.length cb]∧Blk w L 95 [vi 0,vi 0,vi 0,vi 0,vi 0]∧Blk w b6 95 [vi sum.num.a,vi sum.num.b,vi sum.num.c,vi sum.num.d,vi sum.exp]∧Below w0.heap.size w0 w) (fun (s:Nat×Dy)=>match s with|(k,sum)=>(p.cols-k).toNat) (0,dZ) ?_ ?_
 ·exact ⟨t.sb,(by omega),rfl,u,x,g,o,f⟩
 rintro ⟨k,sum⟩ a w4 ⟨t,hk,hs,u,x,g,o,f⟩;refine Zs t fun _ dJ=>?_;refine Ze (X11 rfl rfl)<|ZX dJ fun a t _ cJ=>?_
 refine Xj t rfl (fun C=>?_) (fun C=>?_)
 ·have E:=C;have C:=Q2 C
  have cK:(k:Int)<p.cols:=C
  refine Q7<|cJ _ _<|Q5 fun _ cL=>?_;refine Q8<|Zs t fun _ cM=>?_;refine Zm rfl<|Za rfl<|ZX cM fun a t _ cN=>?_;refine X0l (fun a w=>∃ y,Fr a 48 [(0,vi (i:Int)),(1,vi (j:Int)),(2,.pointer (some ⟨ba,0,none⟩)),(3,.pointer (some ⟨bb,0,none⟩)),(6,.pointer (some ⟨L,0,none⟩)),(8,.pointer (some ⟨b6,0,none⟩)),(10,.pointer (some ⟨y,0,none⟩)),(11,.bool ((dMulI (p.at i k) (q.at k j)).isSome)),(16,vi p.cols),(17,vi (k:Int))]∧w0.heap.size≤y∧Blk w y 95 [vi ((Za5 p q i k k j).num.a),vi ((Za5 p q i k k j).num.b),vi ((Za5 p q i k k j).num.c),vi ((Za5 p q i k k j).num.d),vi ((Za5 p q i k k j).exp)]∧L≠y∧b6≠y∧Below w4.heap.size w4 w) ?_ ?_
  ·have n:Below w4.heap.size w4 w4:=Below.refl _ _
   refine X0d none (fun j=>[13].contains j) mixed ?_;intro w5 e;have u:=u.below e;have x:=x.below e;have g:=g.below e;have o:=o.below e;have f:=btr f e;have n:=btr n e;refine Yb t<|Ye 0 rfl (Xw (l:=[vi p.rows,vi p.cols,.slice Aa p.cells.length ca]) rfl X0j (u.at 0) rfl)<|Yo 1 rfl (fun _=>Xa rfl)<|Yo 2 rfl (fun _=>Xa rfl)<|Ye 4 rfl (Xw (l:=[vi q.rows,vi q.cols,.slice Ab q.cells.length cb]) rfl X0j (x.at 0) rfl)<|Yo 5 rfl (fun _=>Xa rfl)<|Yo 6 rfl (fun _=>Xa rfl) ?_
   have m:Below w5.heap.size w5 w5:=Below.refl _ _
   refine Yc [0,1,2,3,4,5,6,7,8,9,10,11,12] 2 (fun a w=>∃ y,Fr a 48 [(0,vi (i:Int)),(1,vi (j:Int)),(2,.pointer (some ⟨ba,0,none⟩)),(3,.pointer (some ⟨bb,0,none⟩)),(6,.pointer (some ⟨L,0,none⟩)),(8,.pointer (some ⟨b6,0,none⟩)),(10,.pointer (some ⟨y,0,none⟩)),(16,vi p.cols),(17,vi (k:Int)),(30,.agg #[vi ((Za5 p q i k k j).num.a),vi ((Za5 p q i k k j).num.b),vi ((Za5 p q i k k j).num.c),vi ((Za5 p q i k k j).num.d),vi ((Za5 p q i k k j).exp)]),(31,.bool ((dMulI (p.at i k) (q.at k j)).isSome))]∧w0.heap.size≤y∧Blk w y 95 [vi 0,vi 0,vi 0,vi 0,vi 0]∧L≠y∧b6≠y∧w5.heap.size≤y∧w4.heap.size≤y∧AwayR p.cells Aa y∧AwayR q.cells Ab y∧Below w5.heap.size w5 w) ?_ ?_
   ·rintro a w6 ⟨y,t,aC,B,M,N,bJ,bK,cO,cP,e⟩;clear m;have m:=e;have f:=btr f e;have n:=btr n e;refine Yb t<|Y1 13<|Yh rfl trivial rfl (Vw [vi ((Za5 p q i k k j).num.a),vi ((Za5 p q i k k j).num.b),vi ((Za5 p q i k k j).num.c),vi ((Za5 p q i k k j).num.d),vi ((Za5 p q i k k j).exp)] X04 B) ?_;rintro _ w7 ⟨D,hb⟩;have z:=B;have n:=Below.only n D bK;have m:=Below.only m D bJ;have f:=Below.only f D aC;have B:=hb;refine Yo 14 rfl (fun _=>X19 rfl) ?_;refine Yd fun a t=>?_
    have dK:Below w4.heap.size w4 w7:=n
    exact ⟨y,t.sb,aC,B,M,N,dK⟩
   intro bD;refine Yc [0,1,2,3,4,5,6,7,12] 6 (fun a w=>∃ G,Fr a 48 [(0,vi (i:Int)),(1,vi (j:Int)),(2,.pointer (some ⟨ba,0,none⟩)),(3,.pointer (some ⟨bb,0,none⟩)),(6,.pointer (some ⟨L,0,none⟩)),(8,.pointer (some ⟨b6,0,none⟩)),(10,.pointer (some ⟨G,0,none⟩)),(16,vi p.cols),(17,vi (k:Int)),(24,.agg #[vi ((p.at i k).num.a),vi ((p.at i k).num.b),vi ((p.at i k).num.c),vi ((p.at i k).num.d),vi ((p.at i k).exp)]),(28,.agg #[vi ((q.at k j).num.a),vi ((q.at k j).num.b),vi ((q.at k j).num.c),vi ((q.at k j).num.d),vi ((q.at k j).exp)])]∧w0.heap.size≤G∧Blk w G 95 [vi 0,vi 0,vi 0,vi 0,vi 0]∧L≠G∧b6≠G∧w5.heap.size≤G∧w4.heap.size≤G∧AwayR p.cells Aa G∧AwayR q.cells Ab G∧Below w5.heap.size w5 w) ?_ ?_
   ·rintro a w8 ⟨G,t,bL,aE,aF,aG,bM,bN,aH,aI,e⟩;clear m;have m:=e;have f:=btr f e;have n:=btr n e;refine Yb t<|Y1 8<|Yk rfl trivial (Vc (Xwx _ (p.at i k) (q.at k j)) Xg8) (fun _ _ ⟨_,e⟩=>e) ?_;rintro _ w9 ⟨rfl,e⟩;have aE:=aE.below e;have f:=btr f e;have n:=btr n e;have m:=btr m e;refine Yo 9 rfl (fun _=>Xa rfl)<|Yo 10 rfl (fun _=>X4 (vs:=[.agg #[vi ((Za5 p q i k k j).num.a),vi ((Za5 p q i k k j).num.b),vi ((Za5 p q i k k j).num.c),vi ((Za5 p q i k k j).num.d),vi ((Za5 p q i k k j).exp)],.bool ((dMulI (p.at i k) (q.at k j)).isSome)]) rfl rfl)<|Yo 11 rfl (fun _=>X4 (vs:=[.agg #[vi ((Za5 p q i k k j).num.a),vi ((Za5 p q i k k j).num.b),vi ((Za5 p q i k k j).num.c),vi ((Za5 p q i k k j).num.d),vi ((Za5 p q i k k j).exp)],.bool ((dMulI (p.at i k) (q.at k j)).isSome)]) rfl rfl) ?_;exact fun a t=>bD _ a _ rfl ⟨G,t.sb,bL,aE,aF,aG,bM,bN,aH,aI,m⟩
   intro bE;refine Yc [0,1,2,3,4,5,6,12] 7 (fun a w=>∃ H,Fr a 48 [(0,vi (i:Int)),(1,vi (j:Int)),(2,.pointer (some ⟨ba,0,none⟩)),(3,.pointer (some ⟨bb,0,none⟩)),(6,.pointer (some ⟨L,0,none⟩)),(8,.pointer (some ⟨b6,0,none⟩)),(10,.pointer (some ⟨H,0,none⟩)),(16,vi p.cols),(17,vi (k:Int)),(24,.agg #[vi ((p.at i k).num.a),vi ((p.at i k).num.b),vi ((p.at i k).num.c),vi ((p.at i k).num.d),vi ((p.at i k).exp)]),(25,.agg #[vi q.rows,vi q.cols,.slice Ab q.cells.length cb]),(26,vi (k:Int)),(27,vi (j:Int))]∧w0.heap.size≤H∧Blk w H 95 [vi 0,vi 0,vi 0,vi 0,vi 0]∧L≠H∧b6≠H∧w5.heap.size≤H∧w4.heap.size≤H∧AwayR p.cells Aa H∧AwayR q.cells Ab H∧Below w5.heap.size w5 w) ?_ ?_
   ·rintro a dR ⟨H,t,bO,aJ,aK,aL,bP,bQ,aM,aN,e⟩;clear m;have m:=e;have f:=btr f e;have n:=btr n e;refine Yb t<|Y1 7<|Yk rfl trivial (Vc (Xpy _ q Ab cb (J.below' f).top k j cH (by omega) hj) X98) (fun _ _ ⟨_,e⟩=>e) ?_;rintro _ dS ⟨rfl,e⟩;have aJ:=aJ.below e;have f:=btr f e;have n:=btr n e;have m:=btr m e;exact fun a t=>bE _ a _ rfl ⟨H,t.sb,bO,aJ,aK,aL,bP,bQ,aM,aN,m⟩
   intro bF;refine Y2 3 12 ?_ ?_
   ·refine Yk rfl trivial (Vc (Xpy _ p Aa ca (I.below' f).top i k bG hi (by omega)) X98) (fun _ _ ⟨_,e⟩=>e) ?_;rintro _ dT ⟨rfl,e⟩;have g:=g.below e;have o:=o.below e;have f:=btr f e;have n:=btr n e;have m:=btr m e;refine Y2 7 12 ?_ ?_
    ·refine Yk rfl trivial (Vc (Xpy _ q Ab cb (J.below' f).top k j cH (by omega) hj) X98) (fun _ _ ⟨_,e⟩=>e) ?_;rintro _ dU ⟨rfl,e⟩;have g:=g.below e;have o:=o.below e;have f:=btr f e;have n:=btr n e;have m:=btr m e;refine Y2 8 12 ?_ ?_
     ·refine Yk rfl trivial (Vc (Xwx _ (p.at i k) (q.at k j)) Xg8) (fun _ _ ⟨_,e⟩=>e) ?_;rintro _ dW ⟨rfl,e⟩;have g:=g.below e;have o:=o.below e;have f:=btr f e;have n:=btr n e;have m:=btr m e;refine Yo 9 rfl (fun _=>Xa rfl)<|Yo 10 rfl (fun _=>X4 (vs:=[.agg #[vi ((Za5 p q i k k j).num.a),vi ((Za5 p q i k k j).num.b),vi ((Za5 p q i k k j).num.c),vi ((Za5 p q i k k j).num.d),vi ((Za5 p q i k k j).exp)],.bool ((dMulI (p.at i k) (q.at k j)).isSome)]) rfl rfl)<|Yo 11 rfl (fun _=>X4 (vs:=[.agg #[vi ((Za5 p q i k k j).num.a),vi ((Za5 p q i k k j).num.b),vi ((Za5 p q i k k j).num.c),vi ((Za5 p q i k k j).num.d),vi ((Za5 p q i k k j).exp)],.bool ((dMulI (p.at i k) (q.at k j)).isSome)]) rfl rfl)<|Y1 12 ?_;refine Yk rfl trivial (X8 (zs:=[vi 0,vi 0,vi 0,vi 0,vi 0]) X1l rfl) (fun _ _ ⟨_,_,_,h,_⟩=>h) ?_;rintro _ dX ⟨b21,rfl,Q,e,cQ⟩
      have aO:L≠b21:=by have:=g.lt;omega
      have aP:b6≠b21:=by have:=o.lt;omega
      have bR:=Q0 f.size Q;have bS:=Q0 n.size Q;have bU:=Q0 m.size Q;have aQ:=(I.below' f).away Q;have aR:=(J.below' f).away Q;have f:=btr f e;have n:=btr n e;have m:=btr m e;exact fun a t=>bD _ a _ rfl ⟨b21,t.sb,bR,cQ,aO,aP,bU,bS,aQ,aR,m⟩
     refine Yk rfl trivial (X8 (zs:=[vi 0,vi 0,vi 0,vi 0,vi 0]) X1l rfl) (fun _ _ ⟨_,_,_,h,_⟩=>h) ?_;rintro _ dY ⟨b22,rfl,U,e,cR⟩
     have aS:L≠b22:=by have:=g.lt;omega
     have aT:b6≠b22:=by have:=o.lt;omega
     have bW:=Q0 f.size U;have bX:=Q0 n.size U;have bY:=Q0 m.size U;have aU:=(I.below' f).away U;have aW:=(J.below' f).away U;have f:=btr f e;have n:=btr n e;have m:=btr m e;exact fun a t=>bE _ a _ rfl ⟨b22,t.sb,bW,cR,aS,aT,bY,bX,aU,aW,m⟩
    refine Yk rfl trivial (X8 (zs:=[vi 0,vi 0,vi 0,vi 0,vi 0]) X1l rfl) (fun _ _ ⟨_,_,_,h,_⟩=>h) ?_;rintro _ eA ⟨b23,rfl,W,e,cS⟩
    have aX:L≠b23:=by have:=g.lt;omega
    have aY:b6≠b23:=by have:=o.lt;omega
    have bZ:=Q0 f.size W;have c4:=Q0 n.size W;have cA:=Q0 m.size W;have aZ:=(I.below' f).away W;have b0:=(J.below' f).away W;have f:=btr f e;have n:=btr n e;have m:=btr m e;exact fun a t=>bF _ a _ rfl ⟨b23,t.sb,bZ,cS,aX,aY,cA,c4,aZ,b0,m⟩
   refine Yk rfl trivial (X8 (zs:=[vi 0,vi 0,vi 0,vi 0,vi 0]) X1l rfl) (fun _ _ ⟨_,_,_,h,_⟩=>h) ?_;rintro _ eB ⟨b24,rfl,aA,e,b1⟩
   have b2:L≠b24:=by have:=g.lt;omega
   have b3:b6≠b24:=by have:=o.lt;omega
   have cB:=Q0 f.size aA;have cC:=Q0 n.size aA;have cD:=Q0 m.size aA;have b5:=(I.below' f).away aA;have b7:=(J.below' f).away aA;have f:=btr f e;have n:=btr n e;have m:=btr m e;refine Y1 3<|Yk rfl trivial (Vc (Xpy _ p Aa ca (I.below' f).top i k bG hi (by omega)) X98) (fun _ _ ⟨_,e⟩=>e) ?_;rintro _ eC ⟨rfl,e⟩;have b1:=b1.below e;have f:=btr f e;have n:=btr n e;have m:=btr m e;exact fun a t=>bF _ a _ rfl ⟨b24,t.sb,cB,b1,b2,b3,cD,cC,b5,b7,m⟩
  rintro a eD ⟨y,t,aC,B,M,N,e⟩;have u:=u.below e;have x:=x.below e;have g:=g.below e;have o:=o.below e;have f:=btr f e;refine cN _ _<|Zs t fun _ cT=>?_;refine Ze (Vn Xr o)<|Ze (Vn Xr B)<|Zf (Vc (Y1g _ sum (Za5 p q i k k j)) Xxr) ?_;rintro _ eE ⟨rfl,e⟩;have u:=u.below e;have x:=x.below e;have g:=g.below e;have o:=o.below e;have B:=B.below e;have f:=btr f e;refine Zm rfl<|Ze (X4 (vs:=[.agg #[vi (((dAddI sum (Za5 p q i k k j)).getD dZ).num.a),vi (((dAddI sum (Za5 p q i k k j)).getD dZ).num.b),vi (((dAddI sum (Za5 p q i k k j)).getD dZ).num.c),vi (((dAddI sum (Za5 p q i k k j)).getD dZ).num.d),vi (((dAddI sum (Za5 p q i k k j)).getD dZ).exp)],.bool ((dAddI sum (Za5 p q i k k j)).isSome)]) rfl rfl)<|Ze (X4 (vs:=[.agg #[vi (((dAddI sum (Za5 p q i k k j)).getD dZ).num.a),vi (((dAddI sum (Za5 p q i k k j)).getD dZ).num.b),vi (((dAddI sum (Za5 p q i k k j)).getD dZ).num.c),vi (((dAddI sum (Za5 p q i k k j)).getD dZ).num.d),vi (((dAddI sum (Za5 p q i k k j)).getD dZ).exp)],.bool ((dAddI sum (Za5 p q i k k j)).isSome)]) rfl rfl)<|Zf (X8 (zs:=[vi 0,vi 0,vi 0,vi 0,vi 0]) X1l rfl) ?_;rintro _ eF ⟨b26,rfl,b8,e,aD⟩
  have cU:L≠b26:=by have:=g.lt;omega
  have cV:b6≠b26:=by have:=o.lt;omega
  have cG:y≠b26:=by have:=B.lt;omega
  have cE:=Q0 f.size b8;have cW:=(I.below' f).away b8;have cX:=(J.below' f).away b8;have u:=u.below e;have x:=x.below e;have g:=g.below e;have o:=o.below e;have f:=btr f e;refine Zo (Vw [vi (((dAddI sum (Za5 p q i k k j)).getD dZ).num.a),vi (((dAddI sum (Za5 p q i k k j)).getD dZ).num.b),vi (((dAddI sum (Za5 p q i k k j)).getD dZ).num.c),vi (((dAddI sum (Za5 p q i k k j)).getD dZ).num.d),vi (((dAddI sum (Za5 p q i k k j)).getD dZ).exp)] X04 aD) ?_;rintro _ dL ⟨D,hb⟩;have z:=aD;have u:=u.only D (Blk.ne u z rfl);have x:=x.only D (Blk.ne x z rfl);have g:=g.only D (by omega);have o:=o.only D (by omega);have f:=Below.only f D cE;have aD:=hb;refine Za rfl<|ZX cT fun a t _ cY=>?_;refine Q5 fun _ d5=>?_;refine X0l (fun a w=>Fr a 48 [(0,vi (i:Int)),(1,vi (j:Int)),(2,.pointer (some ⟨ba,0,none⟩)),(3,.pointer (some ⟨bb,0,none⟩)),(6,.pointer (some ⟨L,0,none⟩)),(8,.pointer (some ⟨b6,0,none⟩)),(12,.pointer (some ⟨b26,0,none⟩)),(16,vi p.cols),(17,vi (k:Int)),(43,.bool ((!((dMulI (p.at i k) (q.at k j)).isSome))||(!((dAddI sum (Za5 p q i k k j)).isSome))))]∧dL=w) ?_ ?_
  ·refine Zr t<|Zm rfl<|Ze (X0x rfl)<|Zm rfl ?_
   refine Zg 40 rfl (fun A=>?_) (fun A=>?_)
   ·refine Zp (gP A) ?_;refine Zp (gP A) ?_;refine Ze (Xl rfl A rfl) ?_;refine Zn fun a t=>?_;exact ⟨t.sub ⟨rfl,rfl,rfl,rfl,rfl,rfl,rfl,rfl,rfl,X1 rfl (by first|rfl|(simp only [E,A,bs];done)|simp [E,A]),trivial⟩,rfl⟩
   refine Zv (gW A) (Xa rfl) ?_;refine Zv (gW A) (X0x rfl) ?_;refine Ze (Xe rfl A rfl) ?_;refine Zn fun a t=>?_;exact ⟨t.sub ⟨rfl,rfl,rfl,rfl,rfl,rfl,rfl,rfl,rfl,X1 rfl (by first|rfl|(simp only [E,A,bs];done)|simp [E,A]),trivial⟩,rfl⟩
  rintro a _ ⟨t,rfl⟩;refine d5 _ _ ?_
  refine Xj t rfl (fun aB=>?_) (fun aB=>?_)
  ·have cF:=aB;have hn:=X7f aB
   have dM:dotI p q i j (k+1)=none:=by rw [dotI,hs];simp only [Qz];revert hn;unfold Za5;cases dMulI (p.at i k) (q.at k j)<;>simp
   have dN:=Xbx dM p.cols.toNat (by omega)
   refine Zs t fun _ d6=>?_;refine Ze (Xg (ps:=[]) (cs:=[vi 0,vi 0,vi 0,vi 0,vi 0]) rfl (fun _=>by first|rfl|kernel_rfl))<|Zo (Vw [vi 0,vi 0,vi 0,vi 0,vi 0] X04 g) ?_;rintro _ eG ⟨D,hb⟩;have z:=g;have f:=Below.only f D b9;have g:=hb;refine Za rfl<|Zt d6 fun a t=>?_;refine Q6<|X2<|Xm<|X2 ?_;refine X2<|Xm<|X2<|X3 t (X0w t rfl (ResV.cellN (l:=[vi 0,vi 0,vi 0,vi 0,vi 0]) rfl Xr (g.at 0) rfl) rfl) ?_;exact ⟨by rw [dN];rfl,f⟩
  have cF:=aB;have hy:=Xa4 aB;refine Q7<|cY _ _<|Zr t<|Ze (Vn Xr aD)<|Zo (Vw [vi (((dAddI sum (Za5 p q i k k j)).getD dZ).num.a),vi (((dAddI sum (Za5 p q i k k j)).getD dZ).num.b),vi (((dAddI sum (Za5 p q i k k j)).getD dZ).num.c),vi (((dAddI sum (Za5 p q i k k j)).getD dZ).num.d),vi (((dAddI sum (Za5 p q i k k j)).getD dZ).exp)] X04 o) ?_;rintro _ eH ⟨D,hb⟩;have z:=o;have u:=u.only D (Blk.ne u z rfl);have x:=x.only D (Blk.ne x z rfl);have g:=g.only D (by omega);have f:=Below.only f D bC;have o:=hb;refine Zn fun a t=>?_;refine Xq<|cL _ _<|Zr t<|Ze (X00 rfl rfl (by omega) (by omega))<|Zm rfl ?_;refine Zn fun a t=>?_;refine Xo ?_;exact ⟨(k+1,((dAddI sum (Za5 p q i k k j)).getD dZ)),⟨t.sb,(by omega),(by rw [dotI,hs];simp only [Qz];revert hy;unfold Za5;cases dMulI (p.at i k) (q.at k j)<;>simp;intro hy;revert hy;cases dAddI sum _<;>simp),u,x,g,o,f⟩,(by first|omega|(dsimp only;omega))⟩
 have E:=C;have C:=Q1 C
 have cK:k=p.cols.toNat:=by omega
 refine Q9<|Xn<|Xn<|X06 ?_;refine dH _ _<|Zs t fun _ d7=>?_;refine Ze (Vn Xr o)<|Zo (Vw [vi sum.num.a,vi sum.num.b,vi sum.num.c,vi sum.num.d,vi sum.exp] X04 g) ?_;rintro _ eI ⟨D,hb⟩;have z:=g;have f:=Below.only f D b9;have g:=hb;refine Za rfl<|Zt d7 fun a t=>?_
 refine Q6 (X3 t (X0w t rfl (ResV.cellN (l:=[vi sum.num.a,vi sum.num.b,vi sum.num.c,vi sum.num.d,vi sum.exp]) rfl Xr (g.at 0) rfl) rfl) ?_)
 exact ⟨by rw [← cK,hs];rfl,f⟩
theorem Xyq(h:World)(p:Mx)(Ap:Option Addr)(cp:Nat)(B:Rd h h.heap.size 95 encD Ap p.cells)(q:Mx)(Aq:Option Addr)(cq:Nat)(C:Rd h h.heap.size 95 encD Aq q.cells)(aH:p.cells.length≤2305843009213693951)(aI:q.cells.length≤2305843009213693951) : Ret Tryz.prog 70 [.agg #[vi p.rows,vi p.cols,.slice Ap p.cells.length cp],.agg #[vi q.rows,vi q.cols,.slice Aq q.cells.length cq]] h (fun v w=>∃ A c,v=.tuple #[mV A c ((mulI p q).getD mZ),.bool (mulI p q).isSome]∧Own w h.heap.size 95 5 encD A c ((mulI p q).getD mZ).cells∧Below h.heap.size h w):=by
 refine enter Tryz.func70 rfl 30 rfl rfl ?_;intro a n
 have f:=bz h
 refine Zs n fun _ aJ=>?_;refine Zf (X0i (zs:=[vi p.rows,vi p.cols,.slice Ap p.cells.length cp]) rfl rfl) ?_;rintro _ w1 ⟨b4,rfl,aK,k,e⟩;have aQ:=Q0 f.size aK;have f:=btr f k;refine Zf (X0i (zs:=[vi q.rows,vi q.cols,.slice Aq q.cells.length cq]) rfl rfl) ?_;rintro _ w2 ⟨b5,rfl,aL,k,g⟩
 have aE:b4≠b5:=by have:=e.lt;omega
 have aR:=Q0 f.size aL;have e:=e.below k;have f:=btr f k;refine Zf (X8 (zs:=[vi 0,vi 0,.slice none 0 0]) X1o rfl) ?_;rintro _ w3 ⟨b7,rfl,aM,k,m⟩
 have aF:b4≠b7:=by have:=e.lt;omega
 have aG:b5≠b7:=by have:=g.lt;omega
 have D:=Q0 f.size aM;have e:=e.below k;have g:=g.below k;have f:=btr f k;refine Za rfl<|ZX aJ fun a n _ aN=>?_;refine Q5 fun _ aO=>?_;refine X0l (fun a w=>Fr a 30 [(2,.pointer (some ⟨b4,0,none⟩)),(3,.pointer (some ⟨b5,0,none⟩)),(4,.pointer (some ⟨b7,0,none⟩)),(20,.bool (((!(mOk p))||(!(mOk q)))||(p.cols != q.rows)))]∧Below w3.heap.size w3 w) ?_ ?_
 ·have u:Below w3.heap.size w3 w3:=Below.refl _ _
  refine Zr n<|Ze (Vn X0j e)<|Zf (Vc (Xq5 _ p Ap cp (B.below' f).top aH) Xdi) ?_;rintro _ w4 ⟨rfl,k⟩;have e:=e.below k;have g:=g.below k;have f:=btr f k;have u:=btr u k;refine Ze (X0x rfl)<|Zm rfl ?_
  refine Zg 9 rfl (fun d=>?_) (fun d=>?_)
  ·refine Zp (gP d) ?_;refine Zp (gP d) ?_;refine Zp (gP d) ?_;refine Ze (Xl rfl d rfl)<|Zm rfl<|Zp (gP rfl) ?_;refine Zp (gP rfl) ?_;refine Zp (gP rfl) ?_;refine Zp (gP rfl) ?_;refine Zp (gP rfl) ?_;refine Ze (Xl rfl rfl rfl) ?_;refine Zn fun a n=>?_
   have x:Below w3.heap.size w3 w4:=u
   exact ⟨n.sub ⟨rfl,rfl,rfl,X1 rfl (by first|rfl|(simp only [d,bs];done)|simp [d]),trivial⟩,x⟩
  refine Zv (gW d) (Vn X0j g) ?_;refine Zk (gW d) (Vc (Xq5 _ q Aq cq (C.below' f).top aI) Xdi) ?_;rintro _ w5 ⟨rfl,k⟩;have e:=e.below k;have g:=g.below k;have f:=btr f k;have u:=btr u k;refine Zv (gW d) (X0x rfl) ?_;refine Ze (Xe rfl d rfl)<|Zm rfl ?_
  refine Zg 14 rfl (fun b=>?_) (fun b=>?_)
  ·refine Zp (gP b) ?_;refine Zp (gP b) ?_;refine Zp (gP b) ?_;refine Zp (gP b) ?_;refine Zp (gP b) ?_;refine Ze (Xl rfl b rfl) ?_;refine Zn fun a n=>?_
   have x:Below w3.heap.size w3 w5:=u
   exact ⟨n.sub ⟨rfl,rfl,rfl,X1 rfl (by first|rfl|(simp only [d,b,bs];done)|simp [d,b]),trivial⟩,x⟩
  refine Zv (gW b) (Vd rfl X1r 1) ?_;refine Zv (gW b) (X0 rfl X7 (e.at 1)) ?_;refine Zv (gW b) (Vd rfl X25 0) ?_;refine Zv (gW b) (X0 rfl X7 (g.at 0)) ?_;refine Zv (gW b) (X2m rfl rfl) ?_;refine Ze (Xe rfl b rfl) ?_;refine Zn fun a n=>?_
  have x:Below w3.heap.size w3 w5:=u
  exact ⟨n.sub ⟨rfl,rfl,rfl,X1 rfl (by first|rfl|(simp only [d,b,bs];done)|simp [d,b]),trivial⟩,x⟩
 rintro a w6 ⟨n,k⟩;have e:=e.below k;have g:=g.below k;have m:=m.below k;have f:=btr f k;refine aO _ _ ?_
 refine Xj n rfl (fun o=>?_) (fun o=>?_)
 ·have aA:=o
  have hn:(mOk p&&mOk q&&p.cols==q.rows)=false:=by revert o;cases mOk p<;>cases mOk q<;>simp
  refine Zs n fun _ aC=>?_;refine Ze (Xg (ps:=[]) (cs:=[vi 0,vi 0,.slice none 0 0]) rfl (fun _=>by first|rfl|kernel_rfl))<|Zo (Vw [vi 0,vi 0,.slice none 0 0] X18 m) ?_;rintro _ w7 ⟨ho,hb⟩;have E:=m;have f:=Below.only f ho D;have m:=hb;refine Za rfl<|Zt aC fun a n=>?_;refine Q6<|X2<|X3 n (X0w n rfl (ResV.cellN (l:=[vi 0,vi 0,.slice none 0 0]) rfl X0j (m.at 0) rfl) rfl) ?_;exact ⟨none,0,by rw [mulI,hn];rfl,by rw [mulI,hn];exact (Own.nil _ _ _ _ _),f⟩
 have aA:=o
 have hy:(mOk p&&mOk q&&p.cols==q.rows)=true:=by revert o;cases mOk p<;>cases mOk q<;>simp
 have aB:=Xzi hy
 have aP:p.cols=q.rows:=by simpa using aB.2.2
 refine Q7<|aN _ _<|Zs n fun _ aD=>?_;refine Ze (Vd rfl X25 0)<|Ze (X0 rfl X7 (e.at 0))<|Ze (Vd rfl X1r 1)<|Ze (X0 rfl X7 (g.at 1))<|Ze (X2w (vs:=[.pointer (some ⟨b4,0,none⟩),.pointer (some ⟨b5,0,none⟩)]) rfl)<|Zf (Vc (Xqz _ p.rows q.cols 133 [.pointer (some ⟨b4,0,none⟩),.pointer (some ⟨b5,0,none⟩)] Xxx (fun i j=>dotI p q i j p.cols.toNat) (fun i j w' hi hj hE'=>Y17 w' p q _ _ _ _ _ _ ((B.below' f).below hE').top ((C.below' f).below hE').top (e.below hE') (g.below hE') aB.1 aB.2.1 aP i j hi hj)) Xcd) ?_;rintro _ w8 ⟨y,z,rfl,t,k⟩;have t:=t.lower f.size;have m:=m.below k;have f:=btr f k;refine Ze (X4 (vs:=[.agg #[vi (((matOf p.rows q.cols (fun i j=>dotI p q i j p.cols.toNat)).getD mZ).rows),vi (((matOf p.rows q.cols (fun i j=>dotI p q i j p.cols.toNat)).getD mZ).cols),.slice y (((matOf p.rows q.cols (fun i j=>dotI p q i j p.cols.toNat)).getD mZ).cells).length z],.bool ((matOf p.rows q.cols (fun i j=>dotI p q i j p.cols.toNat)).isSome)]) rfl rfl)<|Ze (X4 (vs:=[.agg #[vi (((matOf p.rows q.cols (fun i j=>dotI p q i j p.cols.toNat)).getD mZ).rows),vi (((matOf p.rows q.cols (fun i j=>dotI p q i j p.cols.toNat)).getD mZ).cols),.slice y (((matOf p.rows q.cols (fun i j=>dotI p q i j p.cols.toNat)).getD mZ).cells).length z],.bool ((matOf p.rows q.cols (fun i j=>dotI p q i j p.cols.toNat)).isSome)]) rfl rfl)<|Zo (Vw [vi (((matOf p.rows q.cols (fun i j=>dotI p q i j p.cols.toNat)).getD mZ).rows),vi (((matOf p.rows q.cols (fun i j=>dotI p q i j p.cols.toNat)).getD mZ).cols),.slice y (((matOf p.rows q.cols (fun i j=>dotI p q i j p.cols.toNat)).getD mZ).cells).length z] X18 m) ?_;rintro _ w9 ⟨ho,hb⟩;have E:=m;have t:=t.onlyT ho E rfl;have f:=Below.only f ho D;have m:=hb;refine Za rfl<|Zt aD fun a n=>?_
 refine Q6 (X3 n (X0w n rfl (ResV.cellN (l:=[vi (((matOf p.rows q.cols (fun i j=>dotI p q i j p.cols.toNat)).getD mZ).rows),vi (((matOf p.rows q.cols (fun i j=>dotI p q i j p.cols.toNat)).getD mZ).cols),.slice y (((matOf p.rows q.cols (fun i j=>dotI p q i j p.cols.toNat)).getD mZ).cells).length z]) rfl X0j (m.at 0) rfl) rfl) ?_)
 exact ⟨y,z,by rw [mulI,Q4 hy],by rw [mulI,Q4 hy];exact t,f⟩
theorem Y1q(n:World)(p:Mx)(x:Dy)(Aa:Option Addr)(ca:Nat)(ba bb:Nat)(aA:Rd n n.heap.size 95 encD Aa p.cells)(m:Blk n ba 33 [vi p.rows,vi p.cols,.slice Aa p.cells.length ca])(g:Blk n bb 95 (encD x))(aF:mOk p=true)(i j:Nat)(hi:(i:Int)<p.rows)(hj:(j:Int)<p.cols) : Ret Tryz.prog 172 [vi (i:Int),vi (j:Int),.pointer (some ⟨ba,0,none⟩),.pointer (some ⟨bb,0,none⟩)] n (fun v w=>v=.tuple #[dV ((dMulI (p.at i j) x).getD dZ),.bool (dMulI (p.at i j) x).isSome]∧Below n.heap.size n w):=by
 have aG:=m.lt;have aH:=g.lt
 unfold encD at g
 refine enter Tryz.func172 rfl 16 rfl rfl ?_;intro a hf
 have k:=bz n
 refine Zs hf fun _ aI=>?_;refine Zf (X8 (zs:=[vi 0,vi 0,vi 0,vi 0,vi 0]) X1l rfl) ?_;rintro _ w1 ⟨b3,rfl,aB,f,e⟩
 have aD:bb≠b3:=by have:=g.lt;omega
 have aC:=Q0 k.size aB;have aE:=(aA.below' k).away aB;have m:=m.below f;have g:=g.below f;have k:=btr k f;refine Za rfl<|ZX aI fun a hf _ aJ=>?_;refine X0d none (fun j=>[8].contains j) mixed ?_;intro w2 f;have m:=m.below f;have g:=g.below f;have e:=e.below f;have k:=btr k f;refine Yb hf<|Ye 0 rfl (Xw (l:=[vi p.rows,vi p.cols,.slice Aa p.cells.length ca]) rfl X0j (m.at 0) rfl)<|Yo 1 rfl (fun _=>Xa rfl)<|Yo 2 rfl (fun _=>Xa rfl)<|Ye 4 rfl (Xw (l:=[vi x.num.a,vi x.num.b,vi x.num.c,vi x.num.d,vi x.exp]) rfl Xr (g.at 0) rfl)<|Y1 3 ?_;refine Yk rfl trivial (Vc (Xpy _ p Aa ca (aA.below' k).top i j aF hi hj) X98) (fun _ _ ⟨_,f⟩=>f) ?_;rintro _ w3 ⟨rfl,f⟩;have e:=e.below f;have k:=btr k f;refine Y1 5<|Yk rfl trivial (Vc (Xwx _ (p.at i j) x) Xg8) (fun _ _ ⟨_,f⟩=>f) ?_;rintro _ w4 ⟨rfl,f⟩;have e:=e.below f;have k:=btr k f;refine Yo 6 rfl (fun _=>X4 (vs:=[.agg #[vi (((dMulI (p.at i j) x).getD dZ).num.a),vi (((dMulI (p.at i j) x).getD dZ).num.b),vi (((dMulI (p.at i j) x).getD dZ).num.c),vi (((dMulI (p.at i j) x).getD dZ).num.d),vi (((dMulI (p.at i j) x).getD dZ).exp)],.bool ((dMulI (p.at i j) x).isSome)]) rfl rfl)<|Yo 7 rfl (fun _=>X4 (vs:=[.agg #[vi (((dMulI (p.at i j) x).getD dZ).num.a),vi (((dMulI (p.at i j) x).getD dZ).num.b),vi (((dMulI (p.at i j) x).getD dZ).num.c),vi (((dMulI (p.at i j) x).getD dZ).num.d),vi (((dMulI (p.at i j) x).getD dZ).exp)],.bool ((dMulI (p.at i j) x).isSome)]) rfl rfl)<|Y1 8 ?_;refine Yh rfl trivial rfl (Vw [vi (((dMulI (p.at i j) x).getD dZ).num.a),vi (((dMulI (p.at i j) x).getD dZ).num.b),vi (((dMulI (p.at i j) x).getD dZ).num.c),vi (((dMulI (p.at i j) x).getD dZ).num.d),vi (((dMulI (p.at i j) x).getD dZ).exp)] X04 e) ?_;rintro _ w5 ⟨ho,hb⟩
 have aK:=e;have k:=Below.only k ho aC;have e:=hb;refine Yo 9 rfl (fun _=>X19 rfl) ?_;refine Yd fun a hf=>?_;refine aJ _ _ ?_
 refine Q6 (X3 hf (X0w hf rfl (ResV.cellN (l:=[vi (((dMulI (p.at i j) x).getD dZ).num.a),vi (((dMulI (p.at i j) x).getD dZ).num.b),vi (((dMulI (p.at i j) x).getD dZ).num.c),vi (((dMulI (p.at i j) x).getD dZ).num.d),vi (((dMulI (p.at i j) x).getD dZ).exp)]) rfl Xr (e.at 0) rfl) rfl) ?_)
 exact ⟨rfl,k⟩
theorem Xz0(w0:World)(p:Mx)(Ap:Option Addr)(cp:Nat)(y:Rd w0 w0.heap.size 95 encD Ap p.cells)(x:Dy)(aI:p.cells.length≤2305843009213693951) : Ret Tryz.prog 115 [.agg #[vi p.rows,vi p.cols,.slice Ap p.cells.length cp],.agg #[vi x.num.a,vi x.num.b,vi x.num.c,vi x.num.d,vi x.exp]] w0 (fun v w=>∃ A c,v=.tuple #[mV A c ((scaleI p x).getD mZ),.bool (scaleI p x).isSome]∧Own w w0.heap.size 95 5 encD A c ((scaleI p x).getD mZ).cells∧Below w0.heap.size w0 w):=by
 refine enter Tryz.func115 rfl 23 rfl rfl ?_;intro a q
 have e:=bz w0
 refine Zs q fun _ aJ=>?_;refine Zf (X0i (zs:=[vi p.rows,vi p.cols,.slice Ap p.cells.length cp]) rfl rfl) ?_;rintro _ w1 ⟨b3,rfl,aK,k,m⟩;have aP:=Q0 e.size aK;have e:=btr e k;refine Zf (X0i (zs:=[vi x.num.a,vi x.num.b,vi x.num.c,vi x.num.d,vi x.exp]) rfl rfl) ?_;rintro _ w2 ⟨b4,rfl,aC,k,o⟩;have aQ:=Q0 e.size aC;have aG:=(y.below' e).away aC;have m:=m.below k;have e:=btr e k;refine Zf (X8 (zs:=[vi 0,vi 0,.slice none 0 0]) X1o rfl) ?_;rintro _ w3 ⟨b6,rfl,aL,k,g⟩
 have aH:b3≠b6:=by have:=m.lt;omega
 have B:=Q0 e.size aL;have m:=m.below k;have o:=o.below k;have e:=btr e k;refine Za rfl<|ZX aJ fun a q _ aM=>?_;refine Q5 fun _ aN=>?_;refine X0l (fun a w=>Fr a 23 [(2,.pointer (some ⟨b3,0,none⟩)),(3,.pointer (some ⟨b4,0,none⟩)),(4,.pointer (some ⟨b6,0,none⟩)),(13,.bool ((!(mOk p))||(!(dOk x))))]∧Below w3.heap.size w3 w) ?_ ?_
 ·have u:Below w3.heap.size w3 w3:=Below.refl _ _
  refine Zr q<|Ze (Vn X0j m)<|Zf (Vc (Xq5 _ p Ap cp (y.below' e).top aI) Xdi) ?_;rintro _ w4 ⟨rfl,k⟩;have o:=o.below k;have e:=btr e k;have u:=btr u k;refine Ze (X0x rfl)<|Zm rfl ?_
  refine Zg 9 rfl (fun f=>?_) (fun f=>?_)
  ·refine Zp (gP f) ?_;refine Zp (gP f) ?_;refine Zp (gP f) ?_;refine Ze (Xl rfl f rfl) ?_;refine Zn fun a q=>?_
   have aA:Below w3.heap.size w3 w4:=u
   exact ⟨q.sub ⟨rfl,rfl,rfl,X1 rfl (by first|rfl|(simp only [f,bs];done)|simp [f]),trivial⟩,aA⟩
  refine Zv (gW f) (Vn Xr o) ?_;refine Zk (gW f) (Vc (Xga _ x) X6f) ?_;rintro _ w5 ⟨rfl,k⟩;have e:=btr e k;have u:=btr u k;refine Zv (gW f) (X0x rfl) ?_;refine Ze (Xe rfl f rfl) ?_;refine Zn fun a q=>?_
  have aA:Below w3.heap.size w3 w5:=u
  exact ⟨q.sub ⟨rfl,rfl,rfl,X1 rfl (by first|rfl|(simp only [f,bs];done)|simp [f]),trivial⟩,aA⟩
 rintro a w6 ⟨q,k⟩;have m:=m.below k;have o:=o.below k;have g:=g.below k;have e:=btr e k;refine aN _ _ ?_
 refine Xj q rfl (fun t=>?_) (fun t=>?_)
 ·have aB:=t
  have hn:(mOk p&&dOk x)=false:=by revert t;cases mOk p<;>cases dOk x<;>simp
  refine Zs q fun _ aD=>?_;refine Ze (Xg (ps:=[]) (cs:=[vi 0,vi 0,.slice none 0 0]) rfl (fun _=>by first|rfl|kernel_rfl))<|Zo (Vw [vi 0,vi 0,.slice none 0 0] X18 g) ?_;rintro _ w7 ⟨ho,hb⟩;have C:=g;have e:=Below.only e ho B;have g:=hb;refine Za rfl<|Zt aD fun a q=>?_;refine Q6<|X2<|X3 q (X0w q rfl (ResV.cellN (l:=[vi 0,vi 0,.slice none 0 0]) rfl X0j (g.at 0) rfl) rfl) ?_;exact ⟨none,0,by rw [scaleI,hn];rfl,by rw [scaleI,hn];exact (Own.nil _ _ _ _ _),e⟩
 have aB:=t
 have hy:(mOk p&&dOk x)=true:=by revert t;cases mOk p<;>cases dOk x<;>simp
 have aO:=(Qd _ _▸hy:mOk p=true∧dOk x=true);refine Q7<|aM _ _<|Zs q fun _ aE=>?_;refine Ze (Vd rfl X25 0)<|Ze (X0 rfl X7 (m.at 0))<|Ze (Vd rfl X1r 1)<|Ze (X0 rfl X7 (m.at 1))<|Ze (X2w (vs:=[.pointer (some ⟨b3,0,none⟩),.pointer (some ⟨b4,0,none⟩)]) rfl)<|Zf (Vc (Xqz _ p.rows p.cols 172 [.pointer (some ⟨b3,0,none⟩),.pointer (some ⟨b4,0,none⟩)] Xuk (fun i j=>dMulI (p.at i j) x) (fun i j w' hi hj hE'=>Y1q w' p x _ _ _ _ ((y.below' e).below hE').top (m.below hE') (o.below hE') aO.1 i j hi hj)) Xcd) ?_;rintro _ w8 ⟨z,h,rfl,n,k⟩;have aF:=n.awayNew o.lt;have n:=n.lower e.size;have g:=g.below k;have e:=btr e k;refine Ze (X4 (vs:=[.agg #[vi (((matOf p.rows p.cols (fun i j=>dMulI (p.at i j) x)).getD mZ).rows),vi (((matOf p.rows p.cols (fun i j=>dMulI (p.at i j) x)).getD mZ).cols),.slice z (((matOf p.rows p.cols (fun i j=>dMulI (p.at i j) x)).getD mZ).cells).length h],.bool ((matOf p.rows p.cols (fun i j=>dMulI (p.at i j) x)).isSome)]) rfl rfl)<|Ze (X4 (vs:=[.agg #[vi (((matOf p.rows p.cols (fun i j=>dMulI (p.at i j) x)).getD mZ).rows),vi (((matOf p.rows p.cols (fun i j=>dMulI (p.at i j) x)).getD mZ).cols),.slice z (((matOf p.rows p.cols (fun i j=>dMulI (p.at i j) x)).getD mZ).cells).length h],.bool ((matOf p.rows p.cols (fun i j=>dMulI (p.at i j) x)).isSome)]) rfl rfl)<|Zo (Vw [vi (((matOf p.rows p.cols (fun i j=>dMulI (p.at i j) x)).getD mZ).rows),vi (((matOf p.rows p.cols (fun i j=>dMulI (p.at i j) x)).getD mZ).cols),.slice z (((matOf p.rows p.cols (fun i j=>dMulI (p.at i j) x)).getD mZ).cells).length h] X18 g) ?_;rintro _ w9 ⟨ho,hb⟩;have C:=g;have n:=n.onlyT ho C rfl;have e:=Below.only e ho B;have g:=hb;refine Za rfl<|Zt aE fun a q=>?_
 refine Q6 (X3 q (X0w q rfl (ResV.cellN (l:=[vi (((matOf p.rows p.cols (fun i j=>dMulI (p.at i j) x)).getD mZ).rows),vi (((matOf p.rows p.cols (fun i j=>dMulI (p.at i j) x)).getD mZ).cols),.slice z (((matOf p.rows p.cols (fun i j=>dMulI (p.at i j) x)).getD mZ).cells).length h]) rfl X0j (g.at 0) rfl) rfl) ?_)
 exact ⟨z,h,by rw [scaleI,Q4 hy],by rw [scaleI,Q4 hy];exact n,e⟩
theorem Xqh(w0:World)(n:Int)(x:Gt) : Ret Tryz.prog 95 [vi n,.agg #[vi x.k,vi x.a,vi x.b]] w0 (fun v w=>v=.bool (gOk n x)∧Below w0.heap.size w0 w):=by
 refine enter Tryz.func95 rfl 60 rfl rfl ?_;intro a i
 have hW:=bz w0
 refine Zs i fun _ aF=>?_;refine Zf (X0i (zs:=[vi x.k,vi x.a,vi x.b]) rfl rfl) ?_;rintro _ w1 ⟨b2,rfl,aG,hE,o⟩;have aM:=Q0 hW.size aG;have hW:=btr hW hE;refine Za rfl<|ZX aF fun a i _ aH=>?_;refine Q8<|Q5 fun _ aI=>?_;refine X0l (fun a w=>Fr a 60 [(0,vi n),(3,.pointer (some ⟨b2,0,none⟩)),(5,.bool ((!(inR n 1 5))||(!(inR x.k 1 12))))]∧w1=w) ?_ ?_
 ·refine Zr i<|Zm rfl<|Zf (Vc (F91 _ n 1 5) X35) ?_;rintro _ _ ⟨rfl,rfl⟩;refine Ze (X0x rfl)<|Zm rfl ?_
  refine Zg 9 rfl (fun m=>?_) (fun m=>?_)
  ·refine Zp (gP m) ?_;refine Zp (gP m) ?_;refine Zp (gP m) ?_;refine Zp (gP m) ?_;refine Ze (Xl rfl m rfl)<|Za rfl ?_;refine Zn fun a i=>?_;exact ⟨i.sub ⟨rfl,rfl,X1 rfl (by first|rfl|(simp only [m,bs];done)|simp [m]),trivial⟩,rfl⟩
  refine Zv (gW m) (Vd rfl X0o 0) ?_;refine Zv (gW m) (X0 rfl X7 (o.at 0)) ?_;refine Zk (gW m) (Vc (F91 _ x.k 1 12) X35) ?_;rintro _ _ ⟨rfl,rfl⟩;refine Zv (gW m) (X0x rfl) ?_;refine Ze (Xe rfl m rfl)<|Za rfl ?_;refine Zn fun a i=>?_;exact ⟨i.sub ⟨rfl,rfl,X1 rfl (by first|rfl|(simp only [m,bs];done)|simp [m]),trivial⟩,rfl⟩
 rintro a _ ⟨i,rfl⟩;refine aI _ _ ?_
 refine Xj i rfl (fun q=>?_) (fun q=>?_)
 ·have e:=q;have hn:=X7f q;refine Zs i fun _ aJ=>?_;refine Za rfl<|Zt aJ fun a i=>?_;refine Q6<|Xm<|X2<|X3 i (Xs i rfl rfl) ?_;exact ⟨by rw [gOk,hn];rfl,hW⟩
 have e:=q;have hy:=Xa4 q;have aK:=(Qd _ _▸hy:inR n 1 5=true∧inR x.k 1 12=true);have aN:=X01.1 aK.1;refine Zs i fun _ aL=>?_;refine Ze (Vd rfl X0o 0)<|Ze (X0 rfl X7 (o.at 0))<|Ze (X16 rfl rfl)<|Za rfl<|Zt aL fun a i=>?_
 refine Xj i rfl (fun t=>?_) (fun t=>?_)
 ·have f:=t
  have hk:x.k=12:=by simpa using t
  refine Q5 fun _ aB=>?_;refine X0l (fun a w=>Fr a 60 [(4,.bool ((x.a==0)&&(x.b==0)))]∧w1=w) ?_ ?_
  ·refine Zr i<|Ze (Vd rfl X0k 1)<|Ze (X0 rfl X7 (o.at 1))<|Ze (X16 rfl rfl)<|Zm rfl ?_
   refine Zg 22 rfl (fun j=>?_) (fun j=>?_)
   ·refine Zv (gW j) (Vd rfl X10 2) ?_;refine Zv (gW j) (X0 rfl X7 (o.at 2)) ?_;refine Zv (gW j) (X16 rfl rfl) ?_;refine Ze (Xl rfl j rfl)<|Za rfl ?_;refine Zn fun a i=>?_;exact ⟨i.sub ⟨X1 rfl (by first|rfl|(simp only [e,f,j,bs];done)|simp [e,f,j]),trivial⟩,rfl⟩
   refine Zp (gP j) ?_;refine Zp (gP j) ?_;refine Zp (gP j) ?_;refine Ze (Xe rfl j rfl)<|Za rfl ?_;refine Zn fun a i=>?_;exact ⟨i.sub ⟨X1 rfl (by first|rfl|(simp only [e,f,j,bs];done)|simp [e,f,j]),trivial⟩,rfl⟩
  rintro a _ ⟨i,rfl⟩;refine aB _ _<|Q6<|Xm<|X2 ?_;refine X3 i (Xs i rfl rfl) ?_;exact ⟨by rw [gOk,hy,Q4 hk,Qw],hW⟩
 have f:=t
 have hk:¬ x.k=12:=by simpa using t
 refine Zs i fun _ aC=>?_;refine Ze (Vd rfl X0o 0)<|Ze (X0 rfl X7 (o.at 0))<|Zf (Vc (F99 _ x.k) Xaa) ?_;rintro _ _ ⟨rfl,rfl⟩;refine Za rfl<|Zt aC fun a i=>?_
 refine Xj i rfl (fun p=>?_) (fun p=>?_)
 ·have g:=p;have aA:=p;refine Q5 fun _ aD=>?_;refine X0l (fun a w=>Fr a 60 [(4,.bool (((inR x.a 0 (n-1))&&(inR x.b 0 (n-1)))&&(x.a != x.b)))]∧w1=w) ?_ ?_
  ·refine Zr i<|Ze (Vd rfl X0k 1)<|Ze (X0 rfl X7 (o.at 1))<|Zm rfl<|Ze (X1j rfl rfl (by omega) (by omega))<|Zf (Vc (F91 _ x.a 0 (n-1)) X35) ?_;rintro _ _ ⟨rfl,rfl⟩;refine Zm rfl ?_
   refine Zg 36 rfl (fun c=>?_) (fun c=>?_)
   ·refine Zv (gW c) (Vd rfl X10 2) ?_;refine Zv (gW c) (X0 rfl X7 (o.at 2)) ?_;refine Zv (gW c) (Xa rfl) ?_;refine Zv (gW c) (X1j rfl rfl (by omega) (by omega)) ?_;refine Zk (gW c) (Vc (F91 _ x.b 0 (n-1)) X35) ?_;rintro _ _ ⟨rfl,rfl⟩;refine Ze (Xl rfl c rfl)<|Zm rfl ?_
    refine Zg 43 rfl (fun d=>?_) (fun d=>?_)
    ·refine Zv (gW d) (Vd rfl X0k 1) ?_;refine Zv (gW d) (X0 rfl X7 (o.at 1)) ?_;refine Zv (gW d) (Vd rfl X10 2) ?_;refine Zv (gW d) (X0 rfl X7 (o.at 2)) ?_;refine Zv (gW d) (X2m rfl rfl) ?_;refine Ze (Xl rfl d rfl)<|Za rfl ?_;refine Zn fun a i=>?_;exact ⟨i.sub ⟨X1 rfl (by first|rfl|(simp only [e,f,g,c,d,bs];done)|simp [e,f,g,c,d]),trivial⟩,rfl⟩
    refine Zp (gP d) ?_;refine Zp (gP d) ?_;refine Zp (gP d) ?_;refine Zp (gP d) ?_;refine Zp (gP d) ?_;refine Ze (Xe rfl d rfl)<|Za rfl ?_;refine Zn fun a i=>?_;exact ⟨i.sub ⟨X1 rfl (by first|rfl|(simp only [e,f,g,c,d,bs];done)|simp [e,f,g,c,d]),trivial⟩,rfl⟩
   refine Zp (gP c) ?_;refine Zp (gP c) ?_;refine Zp (gP c) ?_;refine Zp (gP c) ?_;refine Zp (gP c) ?_;refine Ze (Xe rfl c rfl)<|Zm rfl<|Zp (gP rfl) ?_;refine Zp (gP rfl) ?_;refine Zp (gP rfl) ?_;refine Zp (gP rfl) ?_;refine Zp (gP rfl) ?_;refine Ze (Xe rfl rfl rfl)<|Za rfl ?_;refine Zn fun a i=>?_;exact ⟨i.sub ⟨X1 rfl (by first|rfl|(simp only [e,f,g,c,bs];done)|simp [e,f,g,c]),trivial⟩,rfl⟩
  rintro a _ ⟨i,rfl⟩;refine aD _ _<|Q6<|Xm<|X2 ?_;refine X3 i (Xs i rfl rfl) ?_;exact ⟨by rw [gOk,hy,Q3 hk,Q4 aA,Qw],hW⟩
 have g:=p
 have aA:¬ inR x.k 9 11=true:=by rw [p];simp
 refine Q7<|Xq<|aH _ _<|Q5 fun _ aE=>?_;refine X0l (fun a w=>Fr a 60 [(4,.bool ((inR x.a 0 (n-1))&&(x.b==0)))]∧w1=w) ?_ ?_
 ·refine Zr i<|Ze (Vd rfl X0k 1)<|Ze (X0 rfl X7 (o.at 1))<|Zm rfl<|Ze (X1j rfl rfl (by omega) (by omega))<|Zf (Vc (F91 _ x.a 0 (n-1)) X35) ?_;rintro _ _ ⟨rfl,rfl⟩;refine Zm rfl ?_
  refine Zg 55 rfl (fun l=>?_) (fun l=>?_)
  ·refine Zv (gW l) (Vd rfl X10 2) ?_;refine Zv (gW l) (X0 rfl X7 (o.at 2)) ?_;refine Zv (gW l) (X16 rfl rfl) ?_;refine Ze (Xl rfl l rfl)<|Za rfl ?_;refine Zn fun a i=>?_;exact ⟨i.sub ⟨X1 rfl (by first|rfl|(simp only [e,f,g,l,bs];done)|simp [e,f,g,l]),trivial⟩,rfl⟩
  refine Zp (gP l) ?_;refine Zp (gP l) ?_;refine Zp (gP l) ?_;refine Ze (Xe rfl l rfl)<|Za rfl ?_;refine Zn fun a i=>?_;exact ⟨i.sub ⟨X1 rfl (by first|rfl|(simp only [e,f,g,l,bs];done)|simp [e,f,g,l]),trivial⟩,rfl⟩
 rintro a _ ⟨i,rfl⟩;refine aE _ _ ?_
 refine Q6 (X3 i (Xs i rfl rfl) ?_)
 exact ⟨by rw [gOk,hy,Q3 hk,Q3 aA,Qw],hW⟩
theorem Y0w(f:World)(Al:Option Addr)(cl:Nat)(l:List Gt)(aE:Rd f f.heap.size 115 encG Al l)(kq:FuncId)(pq:List Value)(Fq:FuncF Tryz.prog kq)(q:Gt→Bool)(hq:∀ x w,Below f.heap.size f w→Ret Tryz.prog kq ([gV x]++pq) w (fun v w'=>v=.bool (q x)∧Below w.heap.size w w'))(aR:l.length≤2305843009213693951) : Ret Tryz.prog 154 [.slice Al l.length cl,.func (.func kq) #[] pq.toArray] f (fun v w=>∃ i:Int,v=vi i∧decide (0≤i)=l.any q∧Below f.heap.size f w):=by
 refine enter Tryz.func154 rfl 19 rfl rfl ?_;intro a c
 have j:=bz f
 refine Zs c fun _ aK=>?_;refine Za rfl<|ZX aK fun a c _ aL=>?_;refine Zs c fun _ aM=>?_;refine Zm rfl<|Ze (X0p rfl Xb)<|Zm rfl<|Zt aM fun a c=>?_;refine Q8<|X0a (σ:=Nat) (fun (k:Nat) (a:Act) (w:World)=>Fr a 19 [(0,.slice Al l.length cl),(1,.func (.func kq) #[] pq.toArray),(7,vi (l.length:Int)),(8,vi (k:Int))]∧(k≤l.length)∧((l.take k).all (fun x=>!q x)=true)∧Below f.heap.size f w) (fun (k:Nat)=>l.length+1-k) 0 ?_ ?_
 ·exact ⟨c.sb,(Qf _),(by simp),j⟩
 rintro k a w1 ⟨c,hk,m,j⟩;refine Zs c fun _ aN=>?_;refine Ze (X11 rfl rfl)<|ZX aN fun a c _ aO=>?_
 refine Xj c rfl (fun e=>?_) (fun e=>?_)
 ·have aF:=e;have e:=Q2 e
  obtain ⟨g,aA⟩:=Xf (l:=l) (k:=k) (by omega)
  refine Q7<|aO _ _<|Q5 fun _ aP=>?_;refine Q8<|Zs c fun _ aG=>?_;refine Zm rfl<|Za rfl<|Zx aG fun a c _ aH=>?_;refine Zm rfl<|Zm rfl<|Zm rfl<|Zi (k:=k) (u:=g) (enc:=encG) (l:=l) trivial rfl rfl Xb X0h X9 (aE.below' j) aA rfl ?_;intro aS aB;refine Ze (Xw (l:=[vi g.k,vi g.a,vi g.b]) rfl X0f aB rfl)<|Zf (X7k (cs:=pq) (vs:=[.agg #[vi g.k,vi g.a,vi g.b]]) rfl rfl Fq (hq g _ j)) ?_;rintro _ w2 ⟨rfl,hE⟩;have j:=btr j hE;refine Zt aH fun a c=>?_
  refine Xj c rfl (fun d=>?_) (fun d=>?_)
  ·have aC:=d
   have aD:l.any q=true:=X3f aA d
   refine Zs c fun _ aI=>?_;refine Zm rfl<|Za rfl<|Zt aI fun a c=>?_;refine Q6<|Xm<|X2<|X2 ?_;refine Xm<|X2<|X3 c (Xs c rfl rfl) ?_;exact ⟨_,rfl,by rw [aD];simp,j⟩
  have aC:=d
  have aQ:(!q g)=true:=by revert d;cases q g<;>simp
  refine Q7<|Xq<|aP _ _<|Zr c ?_;refine Ze (X00 rfl rfl (by omega) (by omega))<|Zm rfl ?_;refine Zn fun a c=>?_;refine Xo ?_;exact ⟨k+1,⟨c.sb,(by omega),(X24 m aA aQ),j⟩,(by omega)⟩
 have aF:=e;have e:=Q1 e;refine Q9<|Xn<|Xn<|X06 ?_;refine aL _ _<|Zs c fun _ aJ=>?_;refine Za rfl<|Zt aJ fun a c=>?_
 refine Q6 (X3 c (Xs c rfl rfl) ?_)
 have aD:l.any q=false:=X2o (X22 m (by omega))
 exact ⟨_,rfl,by rw [aD];rfl,j⟩
theorem Xys(b:World)(Al:Option Addr)(cl:Nat)(l:List Gt)(aA:Rd b b.heap.size 115 encG Al l)(kq:FuncId)(pq:List Value)(Fq:FuncF Tryz.prog kq)(q:Gt→Bool)(hq:∀ x w,Below b.heap.size b w→Ret Tryz.prog kq ([gV x]++pq) w (fun v w'=>v=.bool (q x)∧Below w.heap.size w w'))(aB:l.length≤2305843009213693951) : Ret Tryz.prog 93 [.slice Al l.length cl,.func (.func kq) #[] pq.toArray] b (fun v w=>v=.bool (l.any q)∧Below b.heap.size b w):=by
 refine enter Tryz.func93 rfl 9 rfl rfl ?_;intro a hf
 have hW:=bz b
 refine Zs hf fun _ aC=>?_;refine Za rfl<|Zx aC fun a hf _ aD=>?_;refine Zm rfl<|Zm rfl<|Zf (Vc (Y0w _ Al cl l (aA.below' hW).top kq pq Fq q (fun x w' hE'=>hq x w' (hW.trans (hE'.mono hW.size))) aB) Xvi) ?_;rintro _ w1 ⟨ix,rfl,aE,hE⟩;have hW:=btr hW hE;refine Ze (Xae rfl rfl)<|Za rfl<|Zt aD fun a hf=>?_
 refine Q6 (X3 hf (Xs hf rfl rfl) ?_)
 exact ⟨by rw [← aE],hW⟩
theorem Y1u(w0:World)(x:Gt)(n:Int)(ba:Nat)(v1:Value)(c:Blk w0 ba 28 [vi n,v1]) : Ret Tryz.prog 94 [.agg #[vi x.k,vi x.a,vi x.b],.pointer (some ⟨ba,0,none⟩)] w0 (fun v w=>v=.bool (!gOk n x)∧Below w0.heap.size w0 w):=by
 have aA:=c.lt;refine enter Tryz.func94 rfl 9 rfl rfl ?_;intro a hf
 have hW:=bz w0
 refine Zs hf fun _ aB=>?_;refine Zf (X0i (zs:=[vi x.k,vi x.a,vi x.b]) rfl rfl) ?_;rintro _ w1 ⟨b2,rfl,aC,hE,aD⟩;have aF:=Q0 hW.size aC;have c:=c.below hE;have hW:=btr hW hE;refine Za rfl<|Zx aB fun a hf _ aE=>?_;refine Ze (Vd rfl X1e 0)<|Ze (X0 rfl X7 (c.at 0))<|Ze (Vn X0f aD)<|Zf (Vc (Xqh _ n x) Xca) ?_;rintro _ w2 ⟨rfl,hE⟩;have hW:=btr hW hE;refine Ze (X0x rfl)<|Za rfl<|Zt aE fun a hf=>?_
 refine Q6 (X3 hf (Xs hf rfl rfl) ?_)
 exact ⟨rfl,hW⟩
theorem Y1e(w0:World)(x:Gt)(n:Int)(ba:Nat)(c:Blk w0 ba 3 [vi n]) : Ret Tryz.prog 219 [.agg #[vi x.k,vi x.a,vi x.b],.pointer (some ⟨ba,0,none⟩)] w0 (fun v w=>v=.bool (!gOk n x)∧Below w0.heap.size w0 w):=by
 have aA:=c.lt;refine enter Tryz.func219 rfl 8 rfl rfl ?_;intro a hf
 have hW:=bz w0
 refine Zs hf fun _ aB=>?_;refine Zf (X0i (zs:=[vi x.k,vi x.a,vi x.b]) rfl rfl) ?_;rintro _ w1 ⟨b2,rfl,aC,hE,aD⟩;have aF:=Q0 hW.size aC;have c:=c.below hE;have hW:=btr hW hE;refine Za rfl<|Zx aB fun a hf _ aE=>?_;refine Ze (X0 rfl X7 (c.at 0))<|Ze (Vn X0f aD)<|Zf (Vc (Xqh _ n x) Xca) ?_;rintro _ w2 ⟨rfl,hE⟩;have hW:=btr hW hE;refine Ze (X0x rfl)<|Za rfl<|Zt aE fun a hf=>?_
 refine Q6 (X3 hf (Xs hf rfl rfl) ?_)
 exact ⟨rfl,hW⟩
theorem F92(w0:World)(n:Int)(Al:Option Addr)(cl:Nat)(l:List Gt)(aA:Rd w0 w0.heap.size 115 encG Al l)(aB:l.length≤2305843009213693951) : Ret Tryz.prog 194 [vi n,.slice Al l.length cl] w0 (fun v w=>v=.bool (!(l.any fun x=>!gOk n x))∧Below w0.heap.size w0 w):=by
 refine enter Tryz.func194 rfl 9 rfl rfl ?_;intro a hf
 have hW:=bz w0
 refine Zs hf fun _ aC=>?_;refine Zf (X0i (zs:=[vi n]) rfl rfl) ?_;rintro _ w1 ⟨b3,rfl,aD,hE,aE⟩;have aG:=Q0 hW.size aD;have hW:=btr hW hE;refine Za rfl<|Zx aC fun a hf _ aF=>?_;refine Zm rfl<|Ze (X2w (vs:=[.pointer (some ⟨b3,0,none⟩)]) rfl)<|Zf (Vc (Xys _ Al cl l (aA.below' hW).top 219 [.pointer (some ⟨b3,0,none⟩)] Xwm (fun x=>!gOk n x) (fun x w' hE'=>Y1e w' x n _ (aE.below hE')) aB) Xog) ?_;rintro _ w2 ⟨rfl,hE⟩;have hW:=btr hW hE;refine Ze (X0x rfl)<|Za rfl<|Zt aF fun a hf=>?_
 refine Q6 (X3 hf (Xs hf rfl rfl) ?_)
 exact ⟨rfl,hW⟩
theorem F55(w0:World)(c:Cx)(Ac:Option Addr)(cc:Nat)(aA:Rd w0 w0.heap.size 115 encG Ac c.gs)(aB:c.gs.length≤2305843009213693951) : Ret Tryz.prog 52 [.agg #[vi c.n,.slice Ac c.gs.length cc]] w0 (fun v w=>v=.bool (cOk c)∧Below w0.heap.size w0 w):=by
 refine enter Tryz.func52 rfl 19 rfl rfl ?_;intro a e
 have i:=bz w0
 refine Zs e fun _ aC=>?_;refine Zf (X0i (zs:=[vi c.n,.slice Ac c.gs.length cc]) rfl rfl) ?_;rintro _ w1 ⟨b3,rfl,aD,hE,j⟩;have aF:=Q0 i.size aD;have i:=btr i hE;refine Za rfl<|ZX aC fun a e _ aE=>?_;refine X0l (fun a w=>Fr a 19 [(2,.bool (((inR c.n 1 5)&&(decide ((c.gs.length:Int)≤400)))&&(!(c.gs.any (fun x=>!gOk c.n x)))))]∧Below w1.heap.size w1 w) ?_ ?_
 ·have f:Below w1.heap.size w1 w1:=Below.refl _ _
  refine Zr e<|Ze (Vd rfl X1e 0)<|Ze (X0 rfl X7 (j.at 0))<|Zf (Vc (F91 _ c.n 1 5) X35) ?_;rintro _ _ ⟨rfl,rfl⟩;refine Zm rfl ?_
  refine Zg 6 rfl (fun b=>?_) (fun b=>?_)
  ·refine Zv (gW b) (Vd rfl X0g 1) ?_;refine Zv (gW b) (X0 rfl X0m (j.at 1)) ?_;refine Zv (gW b) (X0p rfl Xb) ?_;refine Zv (gW b) (Xa9 rfl rfl) ?_;refine Ze (Xl rfl b rfl)<|Zm rfl ?_
   refine Zg 12 rfl (fun d=>?_) (fun d=>?_)
   ·refine Zv (gW d) (Vd rfl X0g 1) ?_;refine Zv (gW d) (X0 rfl X0m (j.at 1)) ?_;refine Zv (gW d) (X2w (vs:=[.pointer (some ⟨b3,0,none⟩)]) rfl) ?_;refine Zk (gW d) (Vc (Xys _ Ac cc c.gs (aA.below' i).top 94 [.pointer (some ⟨b3,0,none⟩)] Xv1 (fun x=>!gOk c.n x) (fun x w' hE'=>Y1u w' x c.n _ _ (j.below hE')) aB) Xog) ?_;rintro _ w2 ⟨rfl,hE⟩;have i:=btr i hE;have f:=btr f hE;refine Zv (gW d) (X0x rfl) ?_;refine Ze (Xl rfl d rfl)<|Za rfl ?_;refine Zn fun a e=>?_
    have g:Below w1.heap.size w1 w2:=f
    exact ⟨e.sub ⟨X1 rfl (by first|rfl|(simp only [b,d,bs];done)|simp [b,d]),trivial⟩,g⟩
   refine Zp (gP d) ?_;refine Zp (gP d) ?_;refine Zp (gP d) ?_;refine Zp (gP d) ?_;refine Zp (gP d) ?_;refine Ze (Xe rfl d rfl)<|Za rfl ?_;refine Zn fun a e=>?_
   have g:Below w1.heap.size w1 w1:=f
   exact ⟨e.sub ⟨X1 rfl (by first|rfl|(simp only [b,d,bs];done)|simp [b,d]),trivial⟩,g⟩
  refine Zp (gP b) ?_;refine Zp (gP b) ?_;refine Zp (gP b) ?_;refine Zp (gP b) ?_;refine Ze (Xe rfl b rfl)<|Zm rfl<|Zp (gP rfl) ?_;refine Zp (gP rfl) ?_;refine Zp (gP rfl) ?_;refine Zp (gP rfl) ?_;refine Zp (gP rfl) ?_;refine Ze (Xe rfl rfl rfl)<|Za rfl ?_;refine Zn fun a e=>?_
  have g:Below w1.heap.size w1 w1:=f
  exact ⟨e.sub ⟨X1 rfl (by first|rfl|(simp only [b,bs];done)|simp [b]),trivial⟩,g⟩
 rintro a w3 ⟨e,hE⟩;have i:=btr i hE;refine aE _ _ ?_
 refine Q6 (X3 e (Xs e rfl rfl) ?_)
 exact ⟨by simp [cOk, *],i⟩
theorem Xtb(w0:World)(bV:Nat)(f:Bool)(e:Blk w0 bV 148 [.bool f])(x:Rg) : Ret Tryz.prog 196 [.pointer (some ⟨bV,0,none⟩),.agg #[vi x.a,vi x.b,vi x.c,vi x.d]] w0 (fun v w=>v=rV (sRing x)∧Kept bV w0.heap.size w0 w∧Blk w bV 148 [.bool (f||!rOk x)]):=by
 have aK:=e.lt;refine enter Tryz.func196 rfl 13 rfl rfl ?_;intro a n
 have k:Kept bV w0.heap.size w0 w0:=Kept.refl _ _ _
 refine Zs n fun _ aC=>?_;refine Zf (X0i (zs:=[vi x.a,vi x.b,vi x.c,vi x.d]) rfl rfl) ?_;rintro _ w1 ⟨b2,rfl,aD,o,m⟩;have aL:=Q0 k.size aD;have e:=e.below o;have k:=ktr k o;refine Zf (X8 (zs:=[vi 0,vi 0,vi 0,vi 0]) X23 rfl) ?_;rintro _ w2 ⟨b3,rfl,aE,o,g⟩
 have aB:b2≠b3:=by have:=m.lt;omega
 have q:=Q0 k.size aE;have e:=e.below o;have m:=m.below o;have k:=ktr k o;refine ZX aC fun a n _ aF=>?_;refine Zs n fun _ aG=>?_;refine Ze (Vn X0e m)<|Zf (Vc (Y22 _ x) Xxh) ?_;rintro _ w3 ⟨rfl,o⟩;have e:=e.below o;have m:=m.below o;have g:=g.below o;have k:=ktr k o;refine Ze (X0x rfl)<|Zt aG fun a n=>?_
 refine Xj n rfl (fun p=>?_) (fun p=>?_)
 ·have aA:=p
  have j:rOk x=false:=by revert p;cases rOk x<;>simp
  refine Zs n fun _ aH=>?_;refine Zm rfl<|Ze (Xt2 rfl)<|Ze (Vd rfl X6x 0)<|Zo (Xcy (vs:=[.bool true]) (l':=[.bool true]) rfl rfl Y0b e rfl rfl rfl rfl rfl) ?_;rintro _ w4 ⟨j,t⟩;have i:=e;have g:=g.only j (Blk.ne g i rfl);have k:=k.self j;clear i;have e:=t;clear t j;refine Zx aH fun a n _ aI=>?_;refine Ze (Xg (ps:=[]) (cs:=[vi 0,vi 0,vi 0,vi 0]) rfl (fun _=>by first|rfl|kernel_rfl))<|Zo (Vw [vi 0,vi 0,vi 0,vi 0] X17 g) ?_;rintro _ w5 ⟨j,t⟩;have i:=g;have e:=e.only j (Blk.ne e i rfl);have k:=Kept.only k j q;clear i;have g:=t;clear t j;refine Zt aI fun a n=>?_;refine Q6<|X2<|X3 n (Xs n rfl (ResV.cellN (l:=[vi 0,vi 0,vi 0,vi 0]) rfl X0e (g.at 0) rfl)) ?_;exact ⟨by simp [sRing,j],k,by simpa [j] using e⟩
 have aA:=p
 have j:rOk x=true:=by revert p;cases rOk x<;>simp
 refine Q7<|aF _ _<|Zs n fun _ aJ=>?_;refine Ze (Vn X0e m)<|Zo (Vw [vi x.a,vi x.b,vi x.c,vi x.d] X17 g) ?_;rintro _ w6 ⟨j,t⟩;have i:=g;have e:=e.only j (Blk.ne e i rfl);have k:=Kept.only k j q;clear i;have g:=t;clear t j;refine Zt aJ fun a n=>?_
 refine Q6 (X3 n (Xs n rfl (ResV.cellN (l:=[vi x.a,vi x.b,vi x.c,vi x.d]) rfl X0e (g.at 0) rfl)) ?_)
 exact ⟨by simp [sRing,j],k,by simpa [j] using e⟩
theorem Y25(w0:World)(bV:Nat)(f:Bool)(e:Blk w0 bV 148 [.bool f])(x:Dy)(y:Dy)(hx:0≤x.exp∧x.exp≤60)(hy:0≤y.exp∧y.exp≤60) : Ret Tryz.prog 164 [.pointer (some ⟨bV,0,none⟩),.agg #[vi x.num.a,vi x.num.b,vi x.num.c,vi x.num.d,vi x.exp],.agg #[vi y.num.a,vi y.num.b,vi y.num.c,vi y.num.d,vi y.exp]] w0 (fun v w=>v=dV ((sMul f x y).2)∧Kept bV w0.heap.size w0 w∧Blk w bV 148 [.bool ((sMul f x y).1)]):=by
 have aO:=e.lt;refine enter Tryz.func164 rfl 30 rfl rfl ?_;intro a q
 have k:Kept bV w0.heap.size w0 w0:=Kept.refl _ _ _
 refine Zs q fun _ aG=>?_;refine Zf (X0i (zs:=[vi x.num.a,vi x.num.b,vi x.num.c,vi x.num.d,vi x.exp]) rfl rfl) ?_;rintro _ w1 ⟨b2,rfl,aH,i,m⟩;have aP:=Q0 k.size aH;have e:=e.below i;have k:=ktr k i;refine Zf (X0i (zs:=[vi y.num.a,vi y.num.b,vi y.num.c,vi y.num.d,vi y.exp]) rfl rfl) ?_;rintro _ w2 ⟨b3,rfl,aI,i,o⟩
 have aD:b2≠b3:=by have:=m.lt;omega
 have aQ:=Q0 k.size aI;have e:=e.below i;have m:=m.below i;have k:=ktr k i;refine Zf (X8 (zs:=[vi 0,vi 0,vi 0,vi 0,vi 0]) X1l rfl) ?_;rintro _ w3 ⟨b4,rfl,aJ,i,g⟩
 have aE:b2≠b4:=by have:=m.lt;omega
 have aF:b3≠b4:=by have:=o.lt;omega
 have t:=Q0 k.size aJ;have e:=e.below i;have m:=m.below i;have o:=o.below i;have k:=ktr k i;refine ZX aG fun a q _ aK=>?_;refine Zs q fun _ aL=>?_;refine Ze (Vd rfl X1c 4)<|Ze (X0 rfl X7 (m.at 4))<|Ze (Vd rfl X1c 4)<|Ze (X0 rfl X7 (o.at 4))<|Ze (X00 rfl rfl (by omega) (by omega))<|Ze (X36 rfl rfl)<|Zt aL fun a q=>?_
 refine Xj q rfl (fun p=>?_) (fun p=>?_)
 ·have aB:=p;have p:=Q2 p
  have hm:60<x.exp+y.exp:=p
  refine Zs q fun _ aM=>?_;refine Zm rfl<|Ze (Xt2 rfl)<|Ze (Vd rfl X6x 0)<|Zo (Xcy (vs:=[.bool true]) (l':=[.bool true]) rfl rfl Y0b e rfl rfl rfl rfl rfl) ?_;rintro _ w4 ⟨u,hb⟩;have n:=e;have g:=g.only u (Blk.ne g n rfl);have k:=k.self u;have e:=hb;refine Zx aM fun a q _ aN=>?_;refine Ze (Xg (ps:=[]) (cs:=[vi 0,vi 0,vi 0,vi 0,vi 0]) rfl (fun _=>by first|rfl|kernel_rfl))<|Zo (Vw [vi 0,vi 0,vi 0,vi 0,vi 0] X04 g) ?_;rintro _ w5 ⟨u,hb⟩;have n:=g;have e:=e.only u (Blk.ne e n rfl);have k:=Kept.only k u t;have g:=hb;refine Zt aN fun a q=>?_;refine Q6<|X2<|X3 q (Xs q rfl (ResV.cellN (l:=[vi 0,vi 0,vi 0,vi 0,vi 0]) rfl Xr (g.at 0) rfl)) ?_;exact ⟨by rw [sMul,Q4 hm];rfl,k,by rw [sMul,Q4 hm];exact e⟩
 have aB:=p;have p:=Q1 p
 have hm:¬ 60<x.exp+y.exp:=p
 refine Q7<|aK _ _<|Q5 fun _ aC=>?_;refine X0d (some bV) (fun j=>[13].contains j) mixed ?_;intro w6 i;have e:=e.below i;have m:=m.below i;have o:=o.below i;have g:=g.below i;have k:=ktr k i;refine Yb q<|Yo 0 rfl (fun _=>Xa rfl)<|Yo 1 rfl (fun _=>Vd rfl X1f 0) ?_;refine Yw 2 rfl trivial (fun w1 h1=>Xw (l:=[vi x.num.a,vi x.num.b,vi x.num.c,vi x.num.d]) rfl X0e (((m.only h1 (Blk.ne m e rfl)).at 0).take 4) rfl) ?_;refine Yo 3 rfl (fun _=>Vd rfl X1f 0) ?_;refine Yw 4 rfl trivial (fun w1 h1=>Xw (l:=[vi y.num.a,vi y.num.b,vi y.num.c,vi y.num.d]) rfl X0e (((o.only h1 (Blk.ne o e rfl)).at 0).take 4) rfl) ?_;refine Yo 7 rfl (fun _=>Vd rfl X1c 4) ?_;refine Yw 8 rfl trivial (fun w1 h1=>X0 rfl X7 ((m.only h1 (Blk.ne m e rfl)).at 4)) ?_;refine Yo 9 rfl (fun _=>Vd rfl X1c 4) ?_;refine Yw 10 rfl trivial (fun w1 h1=>X0 rfl X7 ((o.only h1 (Blk.ne o e rfl)).at 4)) ?_;refine Yo 11 rfl (fun _=>X00 rfl rfl (by omega) (by omega))<|Y1 5 ?_;refine Yf rfl trivial (EfW.mono (Vc (Y20 _ x.num y.num) Xxq) (fun _ _ h=>⟨fun _=>by obtain ⟨rfl,i⟩:=h;exact Keep.of_below i,h⟩)) ?_;rintro _ w7 ⟨rfl,i⟩;have e:=e.below i;have g:=g.below i;have k:=ktr k i;refine Y1 6<|Yf rfl trivial (EfW.mono (Vc (Xtb _ bV f e (rMul x.num y.num)) Xch) (fun _ _ h=>⟨fun _=>by obtain ⟨rfl,hK,aA⟩:=h;exact hK.keep,h⟩)) ?_;rintro _ w8 ⟨rfl,hK,aA⟩;obtain ⟨wm,hO,hm,i⟩:=hK.mid;clear hm;have n:=e;have g:=g.only hO (Blk.ne g n rfl);have k:=k.self hO;have g:=g.below i;have k:=ktr k i
 clear n i hO hK;have e:=aA;clear aA;refine Y1 12<|Yf rfl trivial (EfW.mono (Vc (Xzv _ (sRing (rMul x.num y.num)) (x.exp+y.exp) (by omega)) Xq1) (fun _ _ h=>⟨fun _=>by obtain ⟨rfl,i⟩:=h;exact Keep.of_below i,h⟩)) ?_;rintro _ w9 ⟨rfl,i⟩;have e:=e.below i;have g:=g.below i;have k:=ktr k i;refine Y1 13<|Yh rfl trivial rfl (Vw [vi ((dLow (sRing (rMul x.num y.num)) (x.exp+y.exp)).num.a),vi ((dLow (sRing (rMul x.num y.num)) (x.exp+y.exp)).num.b),vi ((dLow (sRing (rMul x.num y.num)) (x.exp+y.exp)).num.c),vi ((dLow (sRing (rMul x.num y.num)) (x.exp+y.exp)).num.d),vi ((dLow (sRing (rMul x.num y.num)) (x.exp+y.exp)).exp)] X04 g) ?_;rintro _ aR ⟨u,hb⟩;have n:=g;have e:=e.only u (Blk.ne e n rfl);have k:=Kept.only k u t;have g:=hb;refine Yd fun a q=>?_;refine aC _ _ ?_
 refine Q6 (X3 q (Xs q rfl (ResV.cellN (l:=[vi ((dLow (sRing (rMul x.num y.num)) (x.exp+y.exp)).num.a),vi ((dLow (sRing (rMul x.num y.num)) (x.exp+y.exp)).num.b),vi ((dLow (sRing (rMul x.num y.num)) (x.exp+y.exp)).num.c),vi ((dLow (sRing (rMul x.num y.num)) (x.exp+y.exp)).num.d),vi ((dLow (sRing (rMul x.num y.num)) (x.exp+y.exp)).exp)]) rfl Xr (g.at 0) rfl)) ?_)
 exact ⟨by rw [sMul,Q3 hm],k,by rw [sMul,Q3 hm];exact e⟩
theorem Y12(w0:World)(bV:Nat)(f:Bool)(e:Blk w0 bV 148 [.bool f])(x:Dy)(y:Dy)(hx:0≤x.exp∧x.exp≤60)(hy:0≤y.exp∧y.exp≤60) : Ret Tryz.prog 163 [.pointer (some ⟨bV,0,none⟩),.agg #[vi x.num.a,vi x.num.b,vi x.num.c,vi x.num.d,vi x.exp],.agg #[vi y.num.a,vi y.num.b,vi y.num.c,vi y.num.d,vi y.exp]] w0 (fun v w=>v=dV ((sAdd f x y).2)∧Kept bV w0.heap.size w0 w∧Blk w bV 148 [.bool ((sAdd f x y).1)]):=by
 have aX:=e.lt;refine enter Tryz.func163 rfl 45 rfl rfl ?_;intro a z
 have q:Kept bV w0.heap.size w0 w0:=Kept.refl _ _ _
 refine Zs z fun _ aO=>?_;refine Zf (X0i (zs:=[vi x.num.a,vi x.num.b,vi x.num.c,vi x.num.d,vi x.exp]) rfl rfl) ?_;rintro _ w1 ⟨b2,rfl,aP,n,g⟩;have aC:=Q0 q.size aP;have e:=e.below n;have q:=ktr q n;refine Zf (X0i (zs:=[vi y.num.a,vi y.num.b,vi y.num.c,vi y.num.d,vi y.exp]) rfl rfl) ?_;rintro _ w2 ⟨b3,rfl,aQ,n,k⟩
 have aL:b2≠b3:=by have:=g.lt;omega
 have aD:=Q0 q.size aQ;have e:=e.below n;have g:=g.below n;have q:=ktr q n;refine Zf (X8 (zs:=[vi 0,vi 0,vi 0,vi 0,vi 0]) X1l rfl) ?_;rintro _ w3 ⟨b4,rfl,aR,n,i⟩
 have aM:b2≠b4:=by have:=g.lt;omega
 have aN:b3≠b4:=by have:=k.lt;omega
 have aE:=Q0 q.size aR;have e:=e.below n;have g:=g.below n;have k:=k.below n;have q:=ktr q n;refine ZX aO fun a z _ aS=>?_;refine Q8<|X0a (σ:=Bool×Dy) (fun (s:Bool×Dy) (a:Act) (w:World)=>match s with|(H,m)=>Fr a 45 [(0,.pointer (some ⟨bV,0,none⟩)),(4,.pointer (some ⟨b2,0,none⟩)),(5,.pointer (some ⟨b3,0,none⟩)),(6,.pointer (some ⟨b4,0,none⟩))]∧(sRaiseN (y.exp-m.exp).toNat H m=sRaiseN (y.exp-x.exp).toNat f x)∧(0≤m.exp∧m.exp≤60)∧Blk w bV 148 [.bool H]∧Blk w b2 95 [vi m.num.a,vi m.num.b,vi m.num.c,vi m.num.d,vi m.exp]∧Blk w b3 95 [vi y.num.a,vi y.num.b,vi y.num.c,vi y.num.d,vi y.exp]∧Blk w b4 95 [vi 0,vi 0,vi 0,vi 0,vi 0]∧Kept bV w0.heap.size w0 w) (fun (s:Bool×Dy)=>match s with|(H,m)=>(y.exp-m.exp).toNat) (f,x) ?_ ?_
 ·exact ⟨z.sb,rfl,hx,e,g,k,i,q⟩
 rintro ⟨H,m⟩ a w4 ⟨z,I,aY,e,g,k,i,q⟩;refine Q5 fun _ aT=>?_;refine Zs z fun _ aU=>?_;refine Ze (Vd rfl X1c 4)<|Ze (X0 rfl X7 (g.at 4))<|Ze (Vd rfl X1c 4)<|Ze (X0 rfl X7 (k.at 4))<|Ze (X11 rfl rfl)<|Zt aU fun a z=>?_
 refine Xj z rfl (fun A=>?_) (fun A=>?_)
 ·have aF:=A;have A:=Q2 A
  have aA:m.exp<y.exp:=A
  refine Q7<|aT _ _<|Q8<|X0d (some bV) (fun j=>[9].contains j) mixed ?_;intro w5 n;have e:=e.below n;have g:=g.below n;have k:=k.below n;have i:=i.below n;have q:=ktr q n;refine Yb z<|Yo 0 rfl (fun _=>Xa rfl)<|Yo 1 rfl (fun _=>Vd rfl X1f 0) ?_;refine Yw 2 rfl trivial (fun w1 D=>Xw (l:=[vi m.num.a,vi m.num.b,vi m.num.c,vi m.num.d]) rfl X0e (((g.only D (Blk.ne g e rfl)).at 0).take 4) rfl) ?_;refine Yo 5 rfl (fun _=>Vd rfl X1c 4) ?_;refine Yw 6 rfl trivial (fun w1 D=>X0 rfl X7 ((g.only D (Blk.ne g e rfl)).at 4)) ?_;refine Yo 7 rfl (fun _=>X00 rfl rfl (by omega) (by omega))<|Y1 3 ?_;refine Yf rfl trivial (EfW.mono (Vc (Xw6 _ m.num) Xhj) (fun _ _ h=>⟨fun _=>by obtain ⟨rfl,n⟩:=h;exact Keep.of_below n,h⟩)) ?_;rintro _ w6 ⟨rfl,n⟩;have e:=e.below n;have g:=g.below n;have k:=k.below n;have i:=i.below n;have q:=ktr q n;refine Y1 4<|Yf rfl trivial (EfW.mono (Vc (Xtb _ bV H e (rRoot m.num)) Xch) (fun _ _ h=>⟨fun _=>by obtain ⟨rfl,C,u⟩:=h;exact C.keep,h⟩)) ?_;rintro _ w7 ⟨rfl,C,u⟩;obtain ⟨wm,B,hm,n⟩:=C.mid;clear hm;have o:=e;have g:=g.only B (Blk.ne g o rfl);have k:=k.only B (Blk.ne k o rfl);have i:=i.only B (Blk.ne i o rfl);have q:=q.self B;have g:=g.below n;have k:=k.below n;have i:=i.below n;have q:=ktr q n
  clear o n B C;have e:=u;clear u;refine Yo 8 rfl (fun _=>Xg (ps:=[(0,.agg #[vi ((sRing (rRoot m.num)).a),vi ((sRing (rRoot m.num)).b),vi ((sRing (rRoot m.num)).c),vi ((sRing (rRoot m.num)).d)]),(1,vi (m.exp+1))]) (cs:=[vi ((sRing (rRoot m.num)).a),vi ((sRing (rRoot m.num)).b),vi ((sRing (rRoot m.num)).c),vi ((sRing (rRoot m.num)).d),vi (m.exp+1)]) rfl (fun _=>by first|rfl|kernel_rfl))<|Y1 9 ?_;refine Yh rfl trivial rfl (Vw [vi ((sRing (rRoot m.num)).a),vi ((sRing (rRoot m.num)).b),vi ((sRing (rRoot m.num)).c),vi ((sRing (rRoot m.num)).d),vi (m.exp+1)] X04 g) ?_;rintro _ w8 ⟨E,hb⟩;have o:=g;have e:=e.only E (Blk.ne e o rfl);have k:=k.only E (by omega);have i:=i.only E (by omega);have q:=Kept.only q E aC;have g:=hb;refine Yd fun a z=>?_;refine Xq<|Xo ?_;exact ⟨(H||!rOk (rRoot m.num),⟨sRing (rRoot m.num),m.exp+1⟩),⟨z.sb,(X87 I aA),(by dsimp only;omega),e,g,k,i,q⟩,(by first|omega|(dsimp only;omega))⟩
 have aF:=A;have A:=Q1 A;have aG:=X81 I A;refine Q9<|Xn<|Xn<|X06 ?_;refine aS _ _<|Q5 fun _ aW=>?_;refine Q8<|X0a (σ:=Bool×Dy) (fun (s:Bool×Dy) (a:Act) (w:World)=>match s with|(f2,p)=>Fr a 45 [(0,.pointer (some ⟨bV,0,none⟩)),(4,.pointer (some ⟨b2,0,none⟩)),(5,.pointer (some ⟨b3,0,none⟩)),(6,.pointer (some ⟨b4,0,none⟩))]∧(sRaiseN (m.exp-p.exp).toNat f2 p=sRaiseN (m.exp-y.exp).toNat H y)∧(0≤p.exp∧p.exp≤60)∧Blk w bV 148 [.bool f2]∧Blk w b2 95 [vi m.num.a,vi m.num.b,vi m.num.c,vi m.num.d,vi m.exp]∧Blk w b3 95 [vi p.num.a,vi p.num.b,vi p.num.c,vi p.num.d,vi p.exp]∧Blk w b4 95 [vi 0,vi 0,vi 0,vi 0,vi 0]∧Kept bV w0.heap.size w0 w) (fun (s:Bool×Dy)=>match s with|(f2,p)=>(m.exp-p.exp).toNat) (H,y) ?_ ?_
 ·exact ⟨z.sb,rfl,hy,e,g,k,i,q⟩
 rintro ⟨f2,p⟩ a w9 ⟨z,G,aZ,e,g,k,i,q⟩;refine Q5 fun _ aH=>?_;refine Zs z fun _ aI=>?_;refine Ze (Vd rfl X1c 4)<|Ze (X0 rfl X7 (k.at 4))<|Ze (Vd rfl X1c 4)<|Ze (X0 rfl X7 (g.at 4))<|Ze (X11 rfl rfl)<|Zt aI fun a z=>?_
 refine Xj z rfl (fun t=>?_) (fun t=>?_)
 ·have aB:=t;have t:=Q2 t
  have aA:p.exp<m.exp:=t
  refine Q7<|aH _ _<|Q8<|X0d (some bV) (fun j=>[9].contains j) mixed ?_;intro b0 n;have e:=e.below n;have g:=g.below n;have k:=k.below n;have i:=i.below n;have q:=ktr q n;refine Yb z<|Yo 0 rfl (fun _=>Xa rfl)<|Yo 1 rfl (fun _=>Vd rfl X1f 0) ?_;refine Yw 2 rfl trivial (fun w1 D=>Xw (l:=[vi p.num.a,vi p.num.b,vi p.num.c,vi p.num.d]) rfl X0e (((k.only D (Blk.ne k e rfl)).at 0).take 4) rfl) ?_;refine Yo 5 rfl (fun _=>Vd rfl X1c 4) ?_;refine Yw 6 rfl trivial (fun w1 D=>X0 rfl X7 ((k.only D (Blk.ne k e rfl)).at 4)) ?_;refine Yo 7 rfl (fun _=>X00 rfl rfl (by omega) (by omega))<|Y1 3 ?_;refine Yf rfl trivial (EfW.mono (Vc (Xw6 _ p.num) Xhj) (fun _ _ h=>⟨fun _=>by obtain ⟨rfl,n⟩:=h;exact Keep.of_below n,h⟩)) ?_;rintro _ b1 ⟨rfl,n⟩;have e:=e.below n;have g:=g.below n;have k:=k.below n;have i:=i.below n;have q:=ktr q n;refine Y1 4<|Yf rfl trivial (EfW.mono (Vc (Xtb _ bV f2 e (rRoot p.num)) Xch) (fun _ _ h=>⟨fun _=>by obtain ⟨rfl,C,u⟩:=h;exact C.keep,h⟩)) ?_;rintro _ b5 ⟨rfl,C,u⟩;obtain ⟨wm,B,hm,n⟩:=C.mid;clear hm;have o:=e;have g:=g.only B (Blk.ne g o rfl);have k:=k.only B (Blk.ne k o rfl);have i:=i.only B (Blk.ne i o rfl);have q:=q.self B;have g:=g.below n;have k:=k.below n;have i:=i.below n;have q:=ktr q n
  clear o n B C;have e:=u;clear u;refine Yo 8 rfl (fun _=>Xg (ps:=[(0,.agg #[vi ((sRing (rRoot p.num)).a),vi ((sRing (rRoot p.num)).b),vi ((sRing (rRoot p.num)).c),vi ((sRing (rRoot p.num)).d)]),(1,vi (p.exp+1))]) (cs:=[vi ((sRing (rRoot p.num)).a),vi ((sRing (rRoot p.num)).b),vi ((sRing (rRoot p.num)).c),vi ((sRing (rRoot p.num)).d),vi (p.exp+1)]) rfl (fun _=>by first|rfl|kernel_rfl))<|Y1 9 ?_;refine Yh rfl trivial rfl (Vw [vi ((sRing (rRoot p.num)).a),vi ((sRing (rRoot p.num)).b),vi ((sRing (rRoot p.num)).c),vi ((sRing (rRoot p.num)).d),vi (p.exp+1)] X04 k) ?_;rintro _ b6 ⟨E,hb⟩;have o:=k;have e:=e.only E (Blk.ne e o rfl);have g:=g.only E (by omega);have i:=i.only E (by omega);have q:=Kept.only q E aD;have k:=hb;refine Yd fun a z=>?_;refine Xq<|Xo ?_;exact ⟨(f2||!rOk (rRoot p.num),⟨sRing (rRoot p.num),p.exp+1⟩),⟨z.sb,(X87 G aA),(by dsimp only;omega),e,g,k,i,q⟩,(by first|omega|(dsimp only;omega))⟩
 have aB:=t;have t:=Q1 t;have aJ:=X81 G t;refine Q9<|Xn<|Xn<|X06 ?_;refine aW _ _<|Q5 fun _ aK=>?_;refine X0d (some bV) (fun j=>[10].contains j) mixed ?_;intro b7 n;have e:=e.below n;have g:=g.below n;have k:=k.below n;have i:=i.below n;have q:=ktr q n;refine Yb z<|Yo 0 rfl (fun _=>Xa rfl)<|Yo 1 rfl (fun _=>Vd rfl X1f 0) ?_;refine Yw 2 rfl trivial (fun w1 D=>Xw (l:=[vi m.num.a,vi m.num.b,vi m.num.c,vi m.num.d]) rfl X0e (((g.only D (Blk.ne g e rfl)).at 0).take 4) rfl) ?_;refine Yo 3 rfl (fun _=>Vd rfl X1f 0) ?_;refine Yw 4 rfl trivial (fun w1 D=>Xw (l:=[vi p.num.a,vi p.num.b,vi p.num.c,vi p.num.d]) rfl X0e (((k.only D (Blk.ne k e rfl)).at 0).take 4) rfl) ?_;refine Yo 7 rfl (fun _=>Vd rfl X1c 4) ?_;refine Yw 8 rfl trivial (fun w1 D=>X0 rfl X7 ((g.only D (Blk.ne g e rfl)).at 4)) ?_;refine Y1 5<|Yf rfl trivial (EfW.mono (Vc (Y29 _ m.num p.num) Xv9) (fun _ _ h=>⟨fun _=>by obtain ⟨rfl,n⟩:=h;exact Keep.of_below n,h⟩)) ?_;rintro _ b8 ⟨rfl,n⟩;have e:=e.below n;have i:=i.below n;have q:=ktr q n;refine Y1 6<|Yf rfl trivial (EfW.mono (Vc (Xtb _ bV f2 e (rAdd m.num p.num)) Xch) (fun _ _ h=>⟨fun _=>by obtain ⟨rfl,C,u⟩:=h;exact C.keep,h⟩)) ?_;rintro _ b9 ⟨rfl,C,u⟩;obtain ⟨wm,B,hm,n⟩:=C.mid;clear hm;have o:=e;have i:=i.only B (Blk.ne i o rfl);have q:=q.self B;have i:=i.below n;have q:=ktr q n
 clear o n B C;have e:=u;clear u;refine Y1 9<|Yf rfl trivial (EfW.mono (Vc (Xzv _ (sRing (rAdd m.num p.num)) m.exp (by omega)) Xq1) (fun _ _ h=>⟨fun _=>by obtain ⟨rfl,n⟩:=h;exact Keep.of_below n,h⟩)) ?_;rintro _ bC ⟨rfl,n⟩;have e:=e.below n;have i:=i.below n;have q:=ktr q n;refine Y1 10<|Yh rfl trivial rfl (Vw [vi ((dLow (sRing (rAdd m.num p.num)) m.exp).num.a),vi ((dLow (sRing (rAdd m.num p.num)) m.exp).num.b),vi ((dLow (sRing (rAdd m.num p.num)) m.exp).num.c),vi ((dLow (sRing (rAdd m.num p.num)) m.exp).num.d),vi ((dLow (sRing (rAdd m.num p.num)) m.exp).exp)] X04 i) ?_;rintro _ bD ⟨E,hb⟩;have o:=i;have e:=e.only E (Blk.ne e o rfl);have q:=Kept.only q E aE;have i:=hb;refine Yd fun a z=>?_;refine aK _ _ ?_
 refine Q6 (X3 z (Xs z rfl (ResV.cellN (l:=[vi ((dLow (sRing (rAdd m.num p.num)) m.exp).num.a),vi ((dLow (sRing (rAdd m.num p.num)) m.exp).num.b),vi ((dLow (sRing (rAdd m.num p.num)) m.exp).num.c),vi ((dLow (sRing (rAdd m.num p.num)) m.exp).num.d),vi ((dLow (sRing (rAdd m.num p.num)) m.exp).exp)]) rfl Xr (i.at 0) rfl)) ?_)
 exact ⟨by rw [sAdd,aG];dsimp only;rw [aJ],q,by rw [sAdd,aG];dsimp only;rw [aJ];exact e⟩
theorem Xk4(w0:World)(n:Int)(s:Int)(q:Int)(h0:0≤q)(h1:q<n)(h2:n≤5) : Ret Tryz.prog 130 [vi n,vi s,vi q] w0 (fun v w=>v=vi (bitF n s q)∧w0=w):=by
 refine enter Tryz.func130 rfl 14 rfl rfl ?_;intro a hf
 have hW:=bz w0
 refine Zs hf fun _ aA=>?_;refine Za rfl<|Zx aA fun a hf _ aB=>?_;refine Zm rfl<|Zm rfl<|Ze (X1j rfl rfl (by omega) (by omega))<|Zm rfl<|Ze (X1j rfl rfl (by omega) (by omega))<|Ze (Xyo (m:=(n-1-q).toNat) rfl rfl (by omega) (by omega))<|Ze (Xwn rfl rfl)<|Za rfl<|Zt aB fun a hf=>?_
 refine Q6 (X3 hf (Xs hf rfl rfl) ?_)
 exact ⟨rfl,rfl⟩
theorem Xsp(w0:World)(n:Int)(s:Int)(q:Int)(h0:0≤q)(h1:q<n)(h2:n≤5) : Ret Tryz.prog 131 [vi n,vi s,vi q] w0 (fun v w=>v=vi (flipF n s q)∧w0=w):=by
 refine enter Tryz.func131 rfl 14 rfl rfl ?_;intro a hf
 have hW:=bz w0
 refine Zs hf fun _ aA=>?_;refine Za rfl<|Zx aA fun a hf _ aB=>?_;refine Zm rfl<|Zm rfl<|Ze (X1j rfl rfl (by omega) (by omega))<|Zm rfl<|Ze (X1j rfl rfl (by omega) (by omega))<|Ze (Xos (m:=(n-1-q).toNat) rfl rfl (by omega) (by omega))<|Ze (Xn1 rfl rfl)<|Za rfl<|Zt aB fun a hf=>?_
 refine Q6 (X3 hf (Xs hf rfl rfl) ?_)
 exact ⟨rfl,rfl⟩
theorem Xgg(w0:World)(n:Int)(s:Int)(q:Int)(h0:0≤q)(h1:q<n)(h2:n≤5) : Ret Tryz.prog 201 [vi n,vi s,vi q] w0 (fun v w=>v=vi (bitF n s q)∧w0=w):=by
 refine enter Tryz.func201 rfl 15 rfl rfl ?_;intro a hf
 have hW:=bz w0
 refine Zs hf fun _ aA=>?_;refine Za rfl<|Zx aA fun a hf _ aB=>?_;refine Zm rfl<|Zm rfl<|Ze (X1j rfl rfl (by omega) (by omega))<|Zm rfl<|Ze (X1j rfl rfl (by omega) (by omega))<|Ze (Xh2 (m:=(n-1-q).toNat) Tryz.underlying3 Tryz.underlying185 rfl (by omega) (by omega))<|Ze (Xyo (m:=(n-1-q).toNat) rfl rfl rfl (by omega))<|Ze (Xwn rfl rfl)<|Za rfl<|Zt aB fun a hf=>?_
 refine Q6 (X3 hf (Xs hf rfl rfl) ?_)
 exact ⟨rfl,rfl⟩
theorem Y1j(w0:World)(k:Int)(hk:1≤k∧k≤8) : Ret Tryz.prog 202 [vi k] w0 (fun v w=>∃ A c,v=.slice A (oneL k).length c∧Own w w0.heap.size 95 5 encD A c (oneL k)∧Below w0.heap.size w0 w):=by
 refine enter Tryz.func202 rfl 43 rfl rfl ?_;intro a j
 have i:=bz w0
 refine Zs j fun _ bJ=>?_;refine Za rfl<|Zx bJ fun a j _ bK=>?_;refine Zf (Vc (Xfr _ 0) X50) ?_;rintro _ w1 ⟨rfl,g⟩;have i:=btr i g;refine Ze (Xg (ps:=[]) (cs:=[vi 0,vi 0,vi 0,vi 0,vi 0]) rfl (fun _=>by first|rfl|kernel_rfl))<|Zf (X8 (zs:=[vi 0,vi 0,vi 0,vi 0,vi 0]) X1l rfl) ?_;rintro _ w2 ⟨b4,rfl,bL,g,e⟩;have aI:=Q0 i.size bL;have i:=btr i g;refine Zf (X8 (zs:=[vi 0,vi 0,vi 0,vi 0,vi 0]) X1l rfl) ?_;rintro _ w3 ⟨b5,rfl,bM,g,f⟩
 have bG:b4≠b5:=by have:=e.lt;omega
 have aJ:=Q0 i.size bM;have e:=e.below g;have i:=btr i g;refine Zo (Vw [vi ((dPow 0).num.a),vi ((dPow 0).num.b),vi ((dPow 0).num.c),vi ((dPow 0).num.d),vi ((dPow 0).exp)] X04 e) ?_;rintro _ w4 ⟨q,hb⟩;have x:=e;have f:=f.only q (by omega);have i:=Below.only i q aI;have e:=hb;refine Zo (Vw [vi 0,vi 0,vi 0,vi 0,vi 0] X04 f) ?_;rintro _ w5 ⟨q,hb⟩;have x:=f;have e:=e.only q (by omega);have i:=Below.only i q aJ;have f:=hb;refine Zx bK fun a j _ bN=>?_;refine Ze (Xg (ps:=[(0,vi 1)]) (cs:=[vi 1,vi 0,vi 0,vi 0]) rfl (fun _=>by first|rfl|kernel_rfl))<|Ze (Xg (ps:=[(0,.agg #[vi 1,vi 0,vi 0,vi 0]),(1,vi 1)]) (cs:=[vi 1,vi 0,vi 0,vi 0,vi 1]) rfl (fun _=>by first|rfl|kernel_rfl))<|Zf (X8 (zs:=[vi 0,vi 0,vi 0,vi 0,vi 0]) X1l rfl) ?_;rintro _ w6 ⟨b7,rfl,bO,g,m⟩
 have bH:b4≠b7:=by have:=e.lt;omega
 have bI:b5≠b7:=by have:=f.lt;omega
 have aK:=Q0 i.size bO;have e:=e.below g;have f:=f.below g;have i:=btr i g;refine Zo (Vw [vi 1,vi 0,vi 0,vi 0,vi 1] X04 m) ?_;rintro _ w7 ⟨q,hb⟩;have x:=m;have e:=e.only q (by omega);have f:=f.only q (by omega);have i:=Below.only i q aK;have m:=hb;refine ZX bN fun a j _ bP=>?_;refine Zs j fun _ bQ=>?_;refine Zm rfl<|Zt bQ fun a j=>?_;refine Q8<|Zs j fun _ aL=>?_;refine Ze (X16 rfl rfl)<|Za rfl<|Zt aL fun a j=>?_
 refine Xj j rfl (fun n=>?_) (fun n=>?_)
 ·have aA:=n
  have t:k=1:=by simpa using n
  refine Q5 fun _ aM=>?_;refine X0d none (fun _=>false) mixed ?_;intro w8 g;have e:=e.below g;have f:=f.below g;have m:=m.below g;have i:=btr i g;refine Yb j<|Ye 0 rfl (Vn Xr m)<|Ye 1 rfl (Vn Xr m)<|Ye 2 rfl (Vn Xr m)<|Ye 3 rfl (Vn Xr m)<|Y1 4 ?_;refine Yk rfl trivial (Vc (Y1f _ (⟨(⟨1,0,0,0⟩ : Rg),1⟩ : Dy)) Xxn) (fun _ _ ⟨_,g⟩=>g) ?_;rintro _ w9 ⟨rfl,g⟩;have e:=e.below g;have f:=f.below g;have m:=m.below g;have i:=btr i g;refine Y1 5<|Yk rfl trivial (X5 (k:=4) (vs:=[.agg #[vi 1,vi 0,vi 0,vi 0,vi 1],.agg #[vi 1,vi 0,vi 0,vi 0,vi 1],.agg #[vi 1,vi 0,vi 0,vi 0,vi 1],.agg #[vi ((dNeg (⟨(⟨1,0,0,0⟩ : Rg),1⟩ : Dy)).num.a),vi ((dNeg (⟨(⟨1,0,0,0⟩ : Rg),1⟩ : Dy)).num.b),vi ((dNeg (⟨(⟨1,0,0,0⟩ : Rg),1⟩ : Dy)).num.c),vi ((dNeg (⟨(⟨1,0,0,0⟩ : Rg),1⟩ : Dy)).num.d),vi ((dNeg (⟨(⟨1,0,0,0⟩ : Rg),1⟩ : Dy)).exp)]]) (zs:=[vi 1,vi 0,vi 0,vi 0,vi 1,vi 1,vi 0,vi 0,vi 0,vi 1,vi 1,vi 0,vi 0,vi 0,vi 1,vi ((dNeg (⟨(⟨1,0,0,0⟩ : Rg),1⟩ : Dy)).num.a),vi ((dNeg (⟨(⟨1,0,0,0⟩ : Rg),1⟩ : Dy)).num.b),vi ((dNeg (⟨(⟨1,0,0,0⟩ : Rg),1⟩ : Dy)).num.c),vi ((dNeg (⟨(⟨1,0,0,0⟩ : Rg),1⟩ : Dy)).num.d),vi ((dNeg (⟨(⟨1,0,0,0⟩ : Rg),1⟩ : Dy)).exp)]) rfl X1d X2u rfl rfl) (fun _ _ ⟨_,_,_,h,_⟩=>h) ?_;rintro _ bS ⟨b13,rfl,aN,g,aO⟩
  have aP:b4≠b13:=by have:=e.lt;omega
  have aQ:b5≠b13:=by have:=f.lt;omega
  have aR:b7≠b13:=by have:=m.lt;omega
  have aB:=Q0 i.size aN;have i:=btr i g;refine Yo 6 rfl (fun _=>X19 rfl) ?_;refine Yd fun a j=>?_;refine aM _ _<|Q6<|Xm<|X2 ?_;refine X3 j (Xs j rfl rfl) ?_;exact ⟨(some ⟨b13,0,none⟩),4,by rw [oneL,Q4 t];rfl,by rw [oneL,Q4 t];exact (Own.of_blkL X1a aO aB rfl rfl (by decide)),i⟩
 have aA:=n
 have t:¬ k=1:=by simpa using n
 refine Zs j fun _ aS=>?_;refine Ze (X16 rfl rfl)<|Za rfl<|Zt aS fun a j=>?_
 refine Xj j rfl (fun o=>?_) (fun o=>?_)
 ·have aC:=o
  have e2:k=2:=by simpa using o
  refine Zs j fun _ aT=>?_;refine Ze (Vn Xr f)<|Ze (Vn Xr e)<|Ze (Vn Xr e)<|Ze (Vn Xr f)<|Zf (X5 (k:=4) (vs:=[.agg #[vi 0,vi 0,vi 0,vi 0,vi 0],.agg #[vi ((dPow 0).num.a),vi ((dPow 0).num.b),vi ((dPow 0).num.c),vi ((dPow 0).num.d),vi ((dPow 0).exp)],.agg #[vi ((dPow 0).num.a),vi ((dPow 0).num.b),vi ((dPow 0).num.c),vi ((dPow 0).num.d),vi ((dPow 0).exp)],.agg #[vi 0,vi 0,vi 0,vi 0,vi 0]]) (zs:=[vi 0,vi 0,vi 0,vi 0,vi 0,vi ((dPow 0).num.a),vi ((dPow 0).num.b),vi ((dPow 0).num.c),vi ((dPow 0).num.d),vi ((dPow 0).exp),vi ((dPow 0).num.a),vi ((dPow 0).num.b),vi ((dPow 0).num.c),vi ((dPow 0).num.d),vi ((dPow 0).exp),vi 0,vi 0,vi 0,vi 0,vi 0]) rfl X1d X2u rfl rfl) ?_;rintro _ bU ⟨b18,rfl,aU,g,aW⟩
  have aX:b4≠b18:=by have:=e.lt;omega
  have aY:b5≠b18:=by have:=f.lt;omega
  have aD:=Q0 i.size aU;have i:=btr i g;refine Za rfl<|Zt aT fun a j=>?_;refine Q6<|Xm<|X2<|X3 j (Xs j rfl rfl) ?_;exact ⟨(some ⟨b18,0,none⟩),4,by rw [oneL,Q3 t,Q4 e2];rfl,by rw [oneL,Q3 t,Q4 e2];exact (Own.of_blkL X1a aW aD rfl rfl (by decide)),i⟩
 have aC:=o
 have e2:¬ k=2:=by simpa using o
 refine Zs j fun _ aZ=>?_;refine Ze (X16 rfl rfl)<|Za rfl<|Zt aZ fun a j=>?_
 refine Xj j rfl (fun p=>?_) (fun p=>?_)
 ·have aE:=p
  have e3:k=3:=by simpa using p
  refine Q5 fun _ b0=>?_;refine X0d none (fun _=>false) mixed ?_;intro bW g;have e:=e.below g;have f:=f.below g;have i:=btr i g;refine Yb j<|Ye 0 rfl (Vn Xr f)<|Ye 3 rfl (Vn Xr f)<|Y1 1 ?_;refine Yk rfl trivial (Vc (Xfr _ 6) X50) (fun _ _ ⟨_,g⟩=>g) ?_;rintro _ bX ⟨rfl,g⟩;have e:=e.below g;have f:=f.below g;have i:=btr i g;refine Y1 2<|Yk rfl trivial (Vc (Xfr _ 2) X50) (fun _ _ ⟨_,g⟩=>g) ?_;rintro _ bY ⟨rfl,g⟩;have e:=e.below g;have f:=f.below g;have i:=btr i g;refine Y1 4<|Yk rfl trivial (X5 (k:=4) (vs:=[.agg #[vi 0,vi 0,vi 0,vi 0,vi 0],.agg #[vi ((dPow 6).num.a),vi ((dPow 6).num.b),vi ((dPow 6).num.c),vi ((dPow 6).num.d),vi ((dPow 6).exp)],.agg #[vi ((dPow 2).num.a),vi ((dPow 2).num.b),vi ((dPow 2).num.c),vi ((dPow 2).num.d),vi ((dPow 2).exp)],.agg #[vi 0,vi 0,vi 0,vi 0,vi 0]]) (zs:=[vi 0,vi 0,vi 0,vi 0,vi 0,vi ((dPow 6).num.a),vi ((dPow 6).num.b),vi ((dPow 6).num.c),vi ((dPow 6).num.d),vi ((dPow 6).exp),vi ((dPow 2).num.a),vi ((dPow 2).num.b),vi ((dPow 2).num.c),vi ((dPow 2).num.d),vi ((dPow 2).exp),vi 0,vi 0,vi 0,vi 0,vi 0]) rfl X1d X2u rfl rfl) (fun _ _ ⟨_,_,_,h,_⟩=>h) ?_;rintro _ bZ ⟨b23,rfl,b1,g,b2⟩
  have b3:b4≠b23:=by have:=e.lt;omega
  have b6:b5≠b23:=by have:=f.lt;omega
  have aF:=Q0 i.size b1;have i:=btr i g;refine Yo 5 rfl (fun _=>X19 rfl) ?_;refine Yd fun a j=>?_;refine b0 _ _<|Q6<|Xm<|X2 ?_;refine X3 j (Xs j rfl rfl) ?_;exact ⟨(some ⟨b23,0,none⟩),4,by rw [oneL,Q3 t,Q3 e2,Q4 e3];rfl,by rw [oneL,Q3 t,Q3 e2,Q4 e3];exact (Own.of_blkL X1a b2 aF rfl rfl (by decide)),i⟩
 have aE:=p
 have e3:¬ k=3:=by simpa using p
 refine Q7<|Xq<|bP _ _<|Q5 fun _ b8=>?_;refine X0d none (fun _=>false) mixed ?_;intro c4 g;have e:=e.below g;have f:=f.below g;have i:=btr i g;refine Yb j<|Ye 0 rfl (Vn Xr e)<|Ye 1 rfl (Vn Xr f)<|Ye 2 rfl (Vn Xr f)<|Yo 4 rfl (fun _=>Xa rfl)<|Yo 5 rfl (fun _=>X1j rfl rfl (by omega) (by omega))<|Y1 3 ?_;refine Yk rfl trivial (X5 (k:=5) (vs:=[vi 4,vi 2,vi 6,vi 1,vi 7]) (zs:=[vi 4,vi 2,vi 6,vi 1,vi 7]) rfl X0b X1u rfl rfl) (fun _ _ ⟨_,_,_,h,_⟩=>h) ?_;rintro _ cA ⟨cB,rfl,b9,g,y⟩;have bR:=Q0 i.size b9;have e:=e.below g;have f:=f.below g;have i:=btr i g;refine Yi (k:=(k-4).toNat) (u:=(turnOf k)) (enc:=encI) (l:=[4,2,6,1,7]) 6 rfl trivial rfl rfl X0b X1k X05 (Rd.of_blk y rfl _ y.lt) (Xlv (by omega) (by omega)) (by omega) ?_;intro cC aG;refine Ye 7 rfl (X0 rfl X7 aG)<|Y1 8 ?_;refine Yk rfl trivial (Vc (Xfr _ (turnOf k)) X50) (fun _ _ ⟨_,g⟩=>g) ?_;rintro _ cD ⟨rfl,g⟩;have e:=e.below g;have f:=f.below g;have i:=btr i g;refine Y1 9<|Yk rfl trivial (X5 (k:=4) (vs:=[.agg #[vi ((dPow 0).num.a),vi ((dPow 0).num.b),vi ((dPow 0).num.c),vi ((dPow 0).num.d),vi ((dPow 0).exp)],.agg #[vi 0,vi 0,vi 0,vi 0,vi 0],.agg #[vi 0,vi 0,vi 0,vi 0,vi 0],.agg #[vi ((dPow (turnOf k)).num.a),vi ((dPow (turnOf k)).num.b),vi ((dPow (turnOf k)).num.c),vi ((dPow (turnOf k)).num.d),vi ((dPow (turnOf k)).exp)]]) (zs:=[vi ((dPow 0).num.a),vi ((dPow 0).num.b),vi ((dPow 0).num.c),vi ((dPow 0).num.d),vi ((dPow 0).exp),vi 0,vi 0,vi 0,vi 0,vi 0,vi 0,vi 0,vi 0,vi 0,vi 0,vi ((dPow (turnOf k)).num.a),vi ((dPow (turnOf k)).num.b),vi ((dPow (turnOf k)).num.c),vi ((dPow (turnOf k)).num.d),vi ((dPow (turnOf k)).exp)]) rfl X1d X2u rfl rfl) (fun _ _ ⟨_,_,_,h,_⟩=>h) ?_;rintro _ cE ⟨b30,rfl,bC,g,bD⟩
 have bE:b4≠b30:=by have:=e.lt;omega
 have bF:b5≠b30:=by have:=f.lt;omega
 have aH:=Q0 i.size bC;have i:=btr i g;refine Yo 10 rfl (fun _=>X19 rfl) ?_;refine Yd fun a j=>?_;refine b8 _ _ ?_
 refine Q6 (X3 j (Xs j rfl rfl) ?_)
 exact ⟨(some ⟨b30,0,none⟩),4,by rw [oneL,Q3 t,Q3 e2,Q3 e3];rfl,by rw [oneL,Q3 t,Q3 e2,Q3 e3];exact (Own.of_blkL X1a bD aH rfl rfl (by decide)),i⟩
theorem Y14(w0:World)(n:Int)(g:Gt)(row:Int)(col:Int)(hg:gOk n g=true) : Ret Tryz.prog 165 [vi n,.agg #[vi g.k,vi g.a,vi g.b],vi row,vi col] w0 (fun v w=>v=dV (cellS n g row col)∧Below w0.heap.size w0 w):=by
 have d6:=X1i hg;have d7:=X2z n row g.a;have d8:=X2z n col g.a;refine enter Tryz.func165 rfl 119 rfl rfl ?_;intro a f
 have o:=bz w0
 refine Zs f fun _ cP=>?_;refine Zf (X0i (zs:=[vi g.k,vi g.a,vi g.b]) rfl rfl) ?_;rintro _ w1 ⟨b2,rfl,cQ,A,q⟩;have d5:=Q0 o.size cQ;have o:=btr o A;refine Zf (X8 (zs:=[vi 0,vi 0,vi 0,vi 0,vi 0]) X1l rfl) ?_;rintro _ w2 ⟨b3,rfl,cR,A,e⟩;have z:=Q0 o.size cR;have q:=q.below A;have o:=btr o A;refine Zx cP fun a f _ cS=>?_;refine Zf (Vc (Xfr _ 0) X50) ?_;rintro _ w3 ⟨rfl,A⟩;have q:=q.below A;have e:=e.below A;have o:=btr o A;refine Ze (Xg (ps:=[]) (cs:=[vi 0,vi 0,vi 0,vi 0,vi 0]) rfl (fun _=>by first|rfl|kernel_rfl))<|Zf (X8 (zs:=[vi 0,vi 0,vi 0,vi 0,vi 0]) X1l rfl) ?_;rintro _ w4 ⟨b5,rfl,cT,A,x⟩
 have cM:b3≠b5:=by have:=e.lt;omega
 have aJ:=Q0 o.size cT;have q:=q.below A;have e:=e.below A;have o:=btr o A;refine Zf (X8 (zs:=[vi 0,vi 0,vi 0,vi 0,vi 0]) X1l rfl) ?_;rintro _ w5 ⟨b6,rfl,cU,A,y⟩
 have cN:b3≠b6:=by have:=e.lt;omega
 have cO:b5≠b6:=by have:=x.lt;omega
 have aY:=Q0 o.size cU;have q:=q.below A;have e:=e.below A;have x:=x.below A;have o:=btr o A;refine Zo (Vw [vi ((dPow 0).num.a),vi ((dPow 0).num.b),vi ((dPow 0).num.c),vi ((dPow 0).num.d),vi ((dPow 0).exp)] X04 x) ?_;rintro _ w6 ⟨h,B⟩;have p:=x;have q:=q.only h (Blk.ne q p rfl);have e:=e.only h (by omega);have y:=y.only h (by omega);have o:=Below.only o h aJ;have x:=B;refine Zo (Vw [vi 0,vi 0,vi 0,vi 0,vi 0] X04 y) ?_;rintro _ w7 ⟨h,B⟩;have p:=y;have q:=q.only h (Blk.ne q p rfl);have e:=e.only h (by omega);have x:=x.only h (by omega);have o:=Below.only o h aY;have y:=B;refine Zx cS fun a f _ cV=>?_;refine Zm rfl<|Za rfl<|ZX cV fun a f _ aI=>?_;refine Zs f fun _ cW=>?_;refine Ze (Vd rfl X0o 0)<|Ze (X0 rfl X7 (q.at 0))<|Zt cW fun a f=>?_;refine Q8<|Zs f fun _ aZ=>?_;refine Ze (X16 rfl rfl)<|Za rfl<|Zt aZ fun a f=>?_
 refine Xj f rfl (fun J=>?_) (fun J=>?_)
 ·have D:=J;have hk:=eq_of_beq J
  have H:¬ g.k≤8:=by omega
  have C:toS n g col=col:=by simp [toS,hk]
  have hv:valS n g col=dPow 1:=by simp [valS,hk]
  refine Zr f<|Zf (Vc (Xfr _ 1) X50) ?_;rintro _ w8 ⟨rfl,A⟩;have e:=e.below A;have x:=x.below A;have y:=y.below A;have o:=btr o A;refine Zo (Vw [vi ((dPow 1).num.a),vi ((dPow 1).num.b),vi ((dPow 1).num.c),vi ((dPow 1).num.d),vi ((dPow 1).exp)] X04 x) ?_;rintro _ w9 ⟨h,B⟩;have p:=x;have e:=e.only h (by omega);have y:=y.only h (by omega);have o:=Below.only o h aJ;have x:=B;refine Zn fun a f=>?_;refine Xq<|aI _ _<|Q5 fun _ b0=>?_;refine Zs f fun _ b1=>?_;refine Zm rfl<|Zm rfl<|Ze (X16 rfl rfl)<|Zt b1 fun a f=>?_
  refine Xj f rfl (fun L=>?_) (fun L=>?_)
  ·have aK:=L
   have i:cellS n g row col=valS n g col:=by rw [cellS,Q3 H,Q4 ((eq_of_beq L).trans C.symm)]
   rw [hv] at i
   refine Zs f fun _ b4=>?_;refine Ze (Vn Xr x)<|Zo (Vw [vi ((dPow 1).num.a),vi ((dPow 1).num.b),vi ((dPow 1).num.c),vi ((dPow 1).num.d),vi ((dPow 1).exp)] X04 e) ?_;rintro _ d9 ⟨h,B⟩;have p:=e;have o:=Below.only o h z;have e:=B;refine Zt b4 fun a f=>?_;refine Q6<|X2<|X3 f (Xs f rfl (ResV.cellN (l:=[vi ((dPow 1).num.a),vi ((dPow 1).num.b),vi ((dPow 1).num.c),vi ((dPow 1).num.d),vi ((dPow 1).exp)]) rfl Xr (e.at 0) rfl)) ?_;exact ⟨(by rw [i];try rfl),o⟩
  have aK:=L
  have i:cellS n g row col=dZ:=by rw [cellS,Q3 H,Q3 (fun e9=>X1b L (e9.trans C))]
  refine Q7<|b0 _ _<|Zs f fun _ b7=>?_;refine Ze (Vn Xr y)<|Zo (Vw [vi 0,vi 0,vi 0,vi 0,vi 0] X04 e) ?_;rintro _ dA ⟨h,B⟩;have p:=e;have o:=Below.only o h z;have e:=B;refine Zt b7 fun a f=>?_
  refine Q6 (X3 f (Xs f rfl (ResV.cellN (l:=[vi 0,vi 0,vi 0,vi 0,vi 0]) rfl Xr (e.at 0) rfl)) ?_)
  exact ⟨(by rw [i];try rfl),o⟩
 have D:=J;have dB:=X1b J;refine Zs f fun _ b8=>?_;refine Ze (X16 rfl rfl)<|Za rfl<|Zt b8 fun a f=>?_
 refine Xj f rfl (fun M=>?_) (fun M=>?_)
 ·have E:=M;have hk:=eq_of_beq M
  have H:¬ g.k≤8:=by omega
  have hv:valS n g col=dPow 0:=by simp [valS,hk]
  refine Zs f fun _ b9=>?_;refine Zm rfl<|Zm rfl<|Ze (Vd rfl X0k 1)<|Ze (X0 rfl X7 (q.at 1))<|Zf (Vc (Xgg _ n col g.a (by omega) (by omega) (by omega)) X67) ?_;rintro _ _ ⟨rfl,rfl⟩;refine Ze (X16 rfl rfl)<|Zt b9 fun a f=>?_
  refine Xj f rfl (fun N=>?_) (fun N=>?_)
  ·have aL:=N
   have C:toS n g col=flipF n col g.b:=by rw [toS,Q4 hk,Q4 (eq_of_beq N)]
   refine Zr f<|Zm rfl<|Zm rfl<|Ze (X1j rfl rfl (by omega) (by omega))<|Ze (Vd rfl X10 2)<|Ze (X0 rfl X7 (q.at 2))<|Ze (X1j rfl rfl (by omega) (by omega))<|Ze (Xh2 (m:=(n-1-g.b).toNat) Tryz.underlying3 Tryz.underlying185 rfl (by omega) (by omega))<|Ze (Xos (m:=(n-1-g.b).toNat) rfl rfl rfl (by omega))<|Ze (Xn1 rfl rfl)<|Za rfl ?_;refine Zn fun a f=>?_;refine Xq<|aI _ _<|Q5 fun _ bC=>?_;refine Zs f fun _ bD=>?_;refine Zm rfl<|Zm rfl<|Ze (X16 rfl rfl)<|Zt bD fun a f=>?_
   refine Xj f rfl (fun Q=>?_) (fun Q=>?_)
   ·have aM:=Q
    have i:cellS n g row col=valS n g col:=by rw [cellS,Q3 H,Q4 ((eq_of_beq Q).trans C.symm)]
    rw [hv] at i
    refine Zs f fun _ bE=>?_;refine Ze (Vn Xr x)<|Zo (Vw [vi ((dPow 0).num.a),vi ((dPow 0).num.b),vi ((dPow 0).num.c),vi ((dPow 0).num.d),vi ((dPow 0).exp)] X04 e) ?_;rintro _ dC ⟨h,B⟩;have p:=e;have o:=Below.only o h z;have e:=B;refine Zt bE fun a f=>?_;refine Q6<|X2<|X3 f (Xs f rfl (ResV.cellN (l:=[vi ((dPow 0).num.a),vi ((dPow 0).num.b),vi ((dPow 0).num.c),vi ((dPow 0).num.d),vi ((dPow 0).exp)]) rfl Xr (e.at 0) rfl)) ?_;exact ⟨(by rw [i];try rfl),o⟩
   have aM:=Q
   have i:cellS n g row col=dZ:=by rw [cellS,Q3 H,Q3 (fun e9=>X1b Q (e9.trans C))]
   refine Q7<|bC _ _<|Zs f fun _ bF=>?_;refine Ze (Vn Xr y)<|Zo (Vw [vi 0,vi 0,vi 0,vi 0,vi 0] X04 e) ?_;rintro _ dD ⟨h,B⟩;have p:=e;have o:=Below.only o h z;have e:=B;refine Zt bF fun a f=>?_
   refine Q6 (X3 f (Xs f rfl (ResV.cellN (l:=[vi 0,vi 0,vi 0,vi 0,vi 0]) rfl Xr (e.at 0) rfl)) ?_)
   exact ⟨(by rw [i];try rfl),o⟩
  have aL:=N
  have C:toS n g col=col:=by rw [toS,Q4 hk,Q3 (X1b N)]
  refine Q7<|Xq<|aI _ _<|Q5 fun _ bG=>?_;refine Zs f fun _ bH=>?_;refine Zm rfl<|Zm rfl<|Ze (X16 rfl rfl)<|Zt bH fun a f=>?_
  refine Xj f rfl (fun U=>?_) (fun U=>?_)
  ·have aN:=U
   have i:cellS n g row col=valS n g col:=by rw [cellS,Q3 H,Q4 ((eq_of_beq U).trans C.symm)]
   rw [hv] at i
   refine Zs f fun _ bI=>?_;refine Ze (Vn Xr x)<|Zo (Vw [vi ((dPow 0).num.a),vi ((dPow 0).num.b),vi ((dPow 0).num.c),vi ((dPow 0).num.d),vi ((dPow 0).exp)] X04 e) ?_;rintro _ dE ⟨h,B⟩;have p:=e;have o:=Below.only o h z;have e:=B;refine Zt bI fun a f=>?_;refine Q6<|X2<|X3 f (Xs f rfl (ResV.cellN (l:=[vi ((dPow 0).num.a),vi ((dPow 0).num.b),vi ((dPow 0).num.c),vi ((dPow 0).num.d),vi ((dPow 0).exp)]) rfl Xr (e.at 0) rfl)) ?_;exact ⟨(by rw [i];try rfl),o⟩
  have aN:=U
  have i:cellS n g row col=dZ:=by rw [cellS,Q3 H,Q3 (fun e9=>X1b U (e9.trans C))]
  refine Q7<|bG _ _<|Zs f fun _ bJ=>?_;refine Ze (Vn Xr y)<|Zo (Vw [vi 0,vi 0,vi 0,vi 0,vi 0] X04 e) ?_;rintro _ dF ⟨h,B⟩;have p:=e;have o:=Below.only o h z;have e:=B;refine Zt bJ fun a f=>?_
  refine Q6 (X3 f (Xs f rfl (ResV.cellN (l:=[vi 0,vi 0,vi 0,vi 0,vi 0]) rfl Xr (e.at 0) rfl)) ?_)
  exact ⟨(by rw [i];try rfl),o⟩
 have E:=M;have h9:=X1b M;refine Zs f fun _ bK=>?_;refine Ze (X16 rfl rfl)<|Za rfl<|Zt bK fun a f=>?_
 refine Xj f rfl (fun W=>?_) (fun W=>?_)
 ·have G:=W;have hk:=eq_of_beq W
  have H:¬ g.k≤8:=by omega
  have C:toS n g col=col:=by simp [toS,hk]
  refine Q5 fun _ bL=>?_;refine X0l (fun a w=>Fr a 119 [(2,vi row),(8,.pointer (some ⟨b3,0,none⟩)),(9,.pointer (some ⟨b5,0,none⟩)),(10,.pointer (some ⟨b6,0,none⟩)),(11,vi col),(82,.bool (((bitF n col g.a)==1)&&((bitF n col g.b)==1)))]∧w7=w) ?_ ?_
  ·refine Zr f<|Zm rfl<|Zm rfl<|Ze (Vd rfl X0k 1)<|Ze (X0 rfl X7 (q.at 1))<|Zf (Vc (Xgg _ n col g.a (by omega) (by omega) (by omega)) X67) ?_;rintro _ _ ⟨rfl,rfl⟩;refine Ze (X16 rfl rfl)<|Zm rfl ?_
   refine Zg 75 rfl (fun t=>?_) (fun t=>?_)
   ·refine Zv (gW t) (Xa rfl) ?_;refine Zv (gW t) (Xa rfl) ?_;refine Zv (gW t) (Vd rfl X10 2) ?_;refine Zv (gW t) (X0 rfl X7 (q.at 2)) ?_;refine Zk (gW t) (Vc (Xgg _ n col g.b (by omega) (by omega) (by omega)) X67) ?_;rintro _ _ ⟨rfl,rfl⟩;refine Zv (gW t) (X16 rfl rfl) ?_;refine Ze (Xl rfl t rfl) ?_;refine Zn fun a f=>?_;exact ⟨f.sub ⟨rfl,rfl,rfl,rfl,rfl,X1 rfl (by first|rfl|(simp only [D,E,G,t,bs];done)|simp [D,E,G,t]),trivial⟩,rfl⟩
   refine Zp (gP t) ?_;refine Zp (gP t) ?_;refine Zp (gP t) ?_;refine Zp (gP t) ?_;refine Zp (gP t) ?_;refine Zp (gP t) ?_;refine Ze (Xe rfl t rfl) ?_;refine Zn fun a f=>?_;exact ⟨f.sub ⟨rfl,rfl,rfl,rfl,rfl,X1 rfl (by first|rfl|(simp only [D,E,G,t,bs];done)|simp [D,E,G,t]),trivial⟩,rfl⟩
  rintro a _ ⟨f,rfl⟩;refine bL _ _ ?_
  refine Xj f rfl (fun aA=>?_) (fun aA=>?_)
  ·have aO:=aA
   have hv:valS n g col=dPow 4:=by have h9:bitF n col g.a=1∧bitF n col g.b=1:=(by simpa using aA);simp [valS,hk,h9]
   refine Zr f<|Zf (Vc (Xfr _ 4) X50) ?_;rintro _ dG ⟨rfl,A⟩;have e:=e.below A;have x:=x.below A;have y:=y.below A;have o:=btr o A;refine Zo (Vw [vi ((dPow 4).num.a),vi ((dPow 4).num.b),vi ((dPow 4).num.c),vi ((dPow 4).num.d),vi ((dPow 4).exp)] X04 x) ?_;rintro _ dH ⟨h,B⟩;have p:=x;have e:=e.only h (by omega);have y:=y.only h (by omega);have o:=Below.only o h aJ;have x:=B;refine Zn fun a f=>?_;refine Xq<|aI _ _<|Q5 fun _ bM=>?_;refine Zs f fun _ bN=>?_;refine Zm rfl<|Zm rfl<|Ze (X16 rfl rfl)<|Zt bN fun a f=>?_
   refine Xj f rfl (fun aB=>?_) (fun aB=>?_)
   ·have aP:=aB
    have i:cellS n g row col=valS n g col:=by rw [cellS,Q3 H,Q4 ((eq_of_beq aB).trans C.symm)]
    rw [hv] at i
    refine Zs f fun _ bO=>?_;refine Ze (Vn Xr x)<|Zo (Vw [vi ((dPow 4).num.a),vi ((dPow 4).num.b),vi ((dPow 4).num.c),vi ((dPow 4).num.d),vi ((dPow 4).exp)] X04 e) ?_;rintro _ dI ⟨h,B⟩;have p:=e;have o:=Below.only o h z;have e:=B;refine Zt bO fun a f=>?_;refine Q6<|X2<|X3 f (Xs f rfl (ResV.cellN (l:=[vi ((dPow 4).num.a),vi ((dPow 4).num.b),vi ((dPow 4).num.c),vi ((dPow 4).num.d),vi ((dPow 4).exp)]) rfl Xr (e.at 0) rfl)) ?_;exact ⟨(by rw [i];try rfl),o⟩
   have aP:=aB
   have i:cellS n g row col=dZ:=by rw [cellS,Q3 H,Q3 (fun e9=>X1b aB (e9.trans C))]
   refine Q7<|bM _ _<|Zs f fun _ bP=>?_;refine Ze (Vn Xr y)<|Zo (Vw [vi 0,vi 0,vi 0,vi 0,vi 0] X04 e) ?_;rintro _ dJ ⟨h,B⟩;have p:=e;have o:=Below.only o h z;have e:=B;refine Zt bP fun a f=>?_
   refine Q6 (X3 f (Xs f rfl (ResV.cellN (l:=[vi 0,vi 0,vi 0,vi 0,vi 0]) rfl Xr (e.at 0) rfl)) ?_)
   exact ⟨(by rw [i];try rfl),o⟩
  have aO:=aA
  have hv:valS n g col=dPow 0:=by have h9:¬ (bitF n col g.a=1∧bitF n col g.b=1):=(by simpa using aA);simp only [valS,hk,h9];simp
  refine Q7<|Xq<|aI _ _<|Q5 fun _ bQ=>?_;refine Zs f fun _ bR=>?_;refine Zm rfl<|Zm rfl<|Ze (X16 rfl rfl)<|Zt bR fun a f=>?_
  refine Xj f rfl (fun aC=>?_) (fun aC=>?_)
  ·have aQ:=aC
   have i:cellS n g row col=valS n g col:=by rw [cellS,Q3 H,Q4 ((eq_of_beq aC).trans C.symm)]
   rw [hv] at i
   refine Zs f fun _ bS=>?_;refine Ze (Vn Xr x)<|Zo (Vw [vi ((dPow 0).num.a),vi ((dPow 0).num.b),vi ((dPow 0).num.c),vi ((dPow 0).num.d),vi ((dPow 0).exp)] X04 e) ?_;rintro _ dK ⟨h,B⟩;have p:=e;have o:=Below.only o h z;have e:=B;refine Zt bS fun a f=>?_;refine Q6<|X2<|X3 f (Xs f rfl (ResV.cellN (l:=[vi ((dPow 0).num.a),vi ((dPow 0).num.b),vi ((dPow 0).num.c),vi ((dPow 0).num.d),vi ((dPow 0).exp)]) rfl Xr (e.at 0) rfl)) ?_;exact ⟨(by rw [i];try rfl),o⟩
  have aQ:=aC
  have i:cellS n g row col=dZ:=by rw [cellS,Q3 H,Q3 (fun e9=>X1b aC (e9.trans C))]
  refine Q7<|bQ _ _<|Zs f fun _ bU=>?_;refine Ze (Vn Xr y)<|Zo (Vw [vi 0,vi 0,vi 0,vi 0,vi 0] X04 e) ?_;rintro _ dL ⟨h,B⟩;have p:=e;have o:=Below.only o h z;have e:=B;refine Zt bU fun a f=>?_
  refine Q6 (X3 f (Xs f rfl (ResV.cellN (l:=[vi 0,vi 0,vi 0,vi 0,vi 0]) rfl Xr (e.at 0) rfl)) ?_)
  exact ⟨(by rw [i];try rfl),o⟩
 have G:=W;have dM:=X1b W;refine Zs f fun _ bW=>?_;refine Ze (X16 rfl rfl)<|Za rfl<|Zt bW fun a f=>?_
 refine Xj f rfl (fun aD=>?_) (fun aD=>?_)
 ·have aR:=aD;have hk:=eq_of_beq aD
  have H:¬ g.k≤8:=by omega
  have hv:valS n g col=dPow 0:=by simp [valS,hk]
  refine Q5 fun _ bX=>?_;refine X0d none (fun _=>false) mixed ?_;intro dN A;have q:=q.below A;have e:=e.below A;have x:=x.below A;have y:=y.below A;have o:=btr o A;refine Yb f<|Yo 0 rfl (fun _=>Xa rfl)<|Yo 1 rfl (fun _=>Xa rfl)<|Yo 2 rfl (fun _=>Vd rfl X0k 1)<|Ye 3 rfl (X0 rfl X7 (q.at 1))<|Yo 5 rfl (fun _=>Xa rfl)<|Yo 6 rfl (fun _=>Xa rfl)<|Yo 7 rfl (fun _=>Vd rfl X10 2)<|Ye 8 rfl (X0 rfl X7 (q.at 2))<|Y1 4 ?_;refine Yz rfl trivial (Vc (Xgg _ n col g.a (by omega) (by omega) (by omega)) X67) ?_;refine Y1 9<|Yz rfl trivial (Vc (Xgg _ n col g.b (by omega) (by omega) (by omega)) X67) ?_;refine Yo 10 rfl (fun _=>X2m rfl rfl) ?_;refine Yd fun a f=>?_;refine bX _ _ ?_
  refine Xj f rfl (fun aE=>?_) (fun aE=>?_)
  ·have aS:=aE
   have C:toS n g col=flipF n (flipF n col g.a) g.b:=by have h9:bitF n col g.a≠bitF n col g.b:=(by simpa using aE);simp [toS,hk,h9]
   refine Zr f<|Zm rfl<|Zm rfl<|Ze (X1j rfl rfl (by omega) (by omega))<|Ze (Vd rfl X0k 1)<|Ze (X0 rfl X7 (q.at 1))<|Ze (X1j rfl rfl (by omega) (by omega))<|Ze (Xh2 (m:=(n-1-g.a).toNat) Tryz.underlying3 Tryz.underlying185 rfl (by omega) (by omega))<|Ze (Xos (m:=(n-1-g.a).toNat) rfl rfl rfl (by omega))<|Ze (Xn1 rfl rfl)<|Zm rfl ?_;refine Ze (X1j rfl rfl (by omega) (by omega))<|Ze (Vd rfl X10 2)<|Ze (X0 rfl X7 (q.at 2))<|Ze (X1j rfl rfl (by omega) (by omega))<|Ze (Xh2 (m:=(n-1-g.b).toNat) Tryz.underlying3 Tryz.underlying185 rfl (by omega) (by omega))<|Ze (Xos (m:=(n-1-g.b).toNat) rfl rfl rfl (by omega))<|Ze (Xn1 rfl rfl)<|Za rfl ?_;refine Zn fun a f=>?_;refine Xq<|aI _ _<|Q5 fun _ bY=>?_;refine Zs f fun _ bZ=>?_;refine Zm rfl<|Zm rfl<|Ze (X16 rfl rfl)<|Zt bZ fun a f=>?_
   refine Xj f rfl (fun aF=>?_) (fun aF=>?_)
   ·have aT:=aF
    have i:cellS n g row col=valS n g col:=by rw [cellS,Q3 H,Q4 ((eq_of_beq aF).trans C.symm)]
    rw [hv] at i
    refine Zs f fun _ c4=>?_;refine Ze (Vn Xr x)<|Zo (Vw [vi ((dPow 0).num.a),vi ((dPow 0).num.b),vi ((dPow 0).num.c),vi ((dPow 0).num.d),vi ((dPow 0).exp)] X04 e) ?_;rintro _ dO ⟨h,B⟩;have p:=e;have o:=Below.only o h z;have e:=B;refine Zt c4 fun a f=>?_;refine Q6<|X2<|X3 f (Xs f rfl (ResV.cellN (l:=[vi ((dPow 0).num.a),vi ((dPow 0).num.b),vi ((dPow 0).num.c),vi ((dPow 0).num.d),vi ((dPow 0).exp)]) rfl Xr (e.at 0) rfl)) ?_;exact ⟨(by rw [i];try rfl),o⟩
   have aT:=aF
   have i:cellS n g row col=dZ:=by rw [cellS,Q3 H,Q3 (fun e9=>X1b aF (e9.trans C))]
   refine Q7<|bY _ _<|Zs f fun _ cA=>?_;refine Ze (Vn Xr y)<|Zo (Vw [vi 0,vi 0,vi 0,vi 0,vi 0] X04 e) ?_;rintro _ dP ⟨h,B⟩;have p:=e;have o:=Below.only o h z;have e:=B;refine Zt cA fun a f=>?_
   refine Q6 (X3 f (Xs f rfl (ResV.cellN (l:=[vi 0,vi 0,vi 0,vi 0,vi 0]) rfl Xr (e.at 0) rfl)) ?_)
   exact ⟨(by rw [i];try rfl),o⟩
  have aS:=aE
  have C:toS n g col=col:=by have h9:bitF n col g.a=bitF n col g.b:=(by simpa using aE);simp [toS,hk,h9]
  refine Q7<|Xq<|aI _ _<|Q5 fun _ cB=>?_;refine Zs f fun _ cC=>?_;refine Zm rfl<|Zm rfl<|Ze (X16 rfl rfl)<|Zt cC fun a f=>?_
  refine Xj f rfl (fun aG=>?_) (fun aG=>?_)
  ·have aU:=aG
   have i:cellS n g row col=valS n g col:=by rw [cellS,Q3 H,Q4 ((eq_of_beq aG).trans C.symm)]
   rw [hv] at i
   refine Zs f fun _ cD=>?_;refine Ze (Vn Xr x)<|Zo (Vw [vi ((dPow 0).num.a),vi ((dPow 0).num.b),vi ((dPow 0).num.c),vi ((dPow 0).num.d),vi ((dPow 0).exp)] X04 e) ?_;rintro _ dQ ⟨h,B⟩;have p:=e;have o:=Below.only o h z;have e:=B;refine Zt cD fun a f=>?_;refine Q6<|X2<|X3 f (Xs f rfl (ResV.cellN (l:=[vi ((dPow 0).num.a),vi ((dPow 0).num.b),vi ((dPow 0).num.c),vi ((dPow 0).num.d),vi ((dPow 0).exp)]) rfl Xr (e.at 0) rfl)) ?_;exact ⟨(by rw [i];try rfl),o⟩
  have aU:=aG
  have i:cellS n g row col=dZ:=by rw [cellS,Q3 H,Q3 (fun e9=>X1b aG (e9.trans C))]
  refine Q7<|cB _ _<|Zs f fun _ cE=>?_;refine Ze (Vn Xr y)<|Zo (Vw [vi 0,vi 0,vi 0,vi 0,vi 0] X04 e) ?_;rintro _ dR ⟨h,B⟩;have p:=e;have o:=Below.only o h z;have e:=B;refine Zt cE fun a f=>?_
  refine Q6 (X3 f (Xs f rfl (ResV.cellN (l:=[vi 0,vi 0,vi 0,vi 0,vi 0]) rfl Xr (e.at 0) rfl)) ?_)
  exact ⟨(by rw [i];try rfl),o⟩
 have aR:=aD;have dS:=X1b aD
 have H:g.k≤8:=by omega
 refine Q5 fun _ cF=>?_;refine Zs f fun _ cG=>?_;refine Zm rfl<|Zm rfl<|Ze (Xn1 rfl rfl)<|Zm rfl<|Ze (X1j rfl rfl (by omega) (by omega))<|Ze (Vd rfl X0k 1)<|Ze (X0 rfl X7 (q.at 1))<|Ze (X1j rfl rfl (by omega) (by omega))<|Ze (Xh2 (m:=(n-1-g.a).toNat) Tryz.underlying3 Tryz.underlying185 rfl (by omega) (by omega))<|Ze (Xos (m:=(n-1-g.a).toNat) rfl rfl rfl (by omega)) ?_;refine Ze (Xqk rfl rfl)<|Ze (X2m rfl rfl)<|Zt cG fun a f=>?_
 refine Xj f rfl (fun aH=>?_) (fun aH=>?_)
 ·have aW:=aH
  have i:cellS n g row col=dZ:=by rw [cellS,Q4 H,Q4 (by simpa using aH)]
  refine Zs f fun _ cH=>?_;refine Ze (Vn Xr y)<|Zo (Vw [vi 0,vi 0,vi 0,vi 0,vi 0] X04 e) ?_;rintro _ dT ⟨h,B⟩;have p:=e;have o:=Below.only o h z;have e:=B;refine Zt cH fun a f=>?_;refine Q6<|X2<|Xm<|X2 ?_;refine X3 f (Xs f rfl (ResV.cellN (l:=[vi 0,vi 0,vi 0,vi 0,vi 0]) rfl Xr (e.at 0) rfl)) ?_;exact ⟨(by rw [i];try rfl),o⟩
 have aW:=aH
 have i:cellS n g row col=(oneL g.k).getD (2*bitF n row g.a+bitF n col g.a).toNat dZ:=by rw [cellS,Q4 H,Q3 (by simpa using aH)]
 refine Q7<|cF _ _<|Q5 fun _ cJ=>?_;refine X0d none (fun j=>[17].contains j) mixed ?_;intro dU A;have q:=q.below A;have e:=e.below A;have y:=y.below A;have o:=btr o A;refine Yb f<|Yo 0 rfl (fun _=>Vd rfl X0o 0)<|Ye 1 rfl (X0 rfl X7 (q.at 0))<|Yo 3 rfl (fun _=>Xa rfl)<|Yo 4 rfl (fun _=>Xa rfl)<|Yo 5 rfl (fun _=>Vd rfl X0k 1)<|Ye 6 rfl (X0 rfl X7 (q.at 1))<|Yo 9 rfl (fun _=>Xa rfl)<|Yo 10 rfl (fun _=>Xa rfl)<|Yo 11 rfl (fun _=>Vd rfl X0k 1)<|Ye 12 rfl (X0 rfl X7 (q.at 1)) ?_;refine Y1 2<|Yk rfl trivial (Vc (Y1j _ g.k (by omega)) Xw2) (fun _ _ ⟨cX,cY,_,I,A⟩=>A) ?_;rintro _ dW ⟨cX,cY,rfl,I,A⟩;have cK:=I.awayNew e.lt;have cL:=I.awayNew y.lt;have I:=I.lower o.size;have e:=e.below A;have o:=btr o A;refine Y1 7<|Yz rfl trivial (Vc (Xgg _ n row g.a (by omega) (by omega) (by omega)) X67) ?_;refine Yo 8 rfl (fun _=>Xfb rfl rfl (by omega) (by omega))<|Y1 13 ?_;refine Yz rfl trivial (Vc (Xgg _ n col g.a (by omega) (by omega) (by omega)) X67) ?_;refine Yo 14 rfl (fun _=>X00 rfl rfl (by omega) (by omega))<|Yi (k:=(2*bitF n row g.a+bitF n col g.a).toNat) (u:=((oneL g.k).getD (2*bitF n row g.a+bitF n col g.a).toNat dZ)) (enc:=encD) (l:=(oneL g.k)) 15 rfl trivial rfl rfl X1d X04 X1a I.rd (Xop (by omega)) (by omega) ?_;intro dX aX;refine Ye 16 rfl (Xw (l:=[vi (((oneL g.k).getD (2*bitF n row g.a+bitF n col g.a).toNat dZ).num.a),vi (((oneL g.k).getD (2*bitF n row g.a+bitF n col g.a).toNat dZ).num.b),vi (((oneL g.k).getD (2*bitF n row g.a+bitF n col g.a).toNat dZ).num.c),vi (((oneL g.k).getD (2*bitF n row g.a+bitF n col g.a).toNat dZ).num.d),vi (((oneL g.k).getD (2*bitF n row g.a+bitF n col g.a).toNat dZ).exp)]) rfl Xr aX rfl)<|Y1 17 ?_
 refine Yh rfl trivial rfl (Vw [vi (((oneL g.k).getD (2*bitF n row g.a+bitF n col g.a).toNat dZ).num.a),vi (((oneL g.k).getD (2*bitF n row g.a+bitF n col g.a).toNat dZ).num.b),vi (((oneL g.k).getD (2*bitF n row g.a+bitF n col g.a).toNat dZ).num.c),vi (((oneL g.k).getD (2*bitF n row g.a+bitF n col g.a).toNat dZ).num.d),vi (((oneL g.k).getD (2*bitF n row g.a+bitF n col g.a).toNat dZ).exp)] X04 e) ?_;rintro _ dY ⟨h,B⟩;have p:=e;have o:=Below.only o h z;have e:=B;refine Yd fun a f=>?_;refine cJ _ _<|Q6<|Xm<|X2 ?_;refine X3 f (Xs f rfl (ResV.cellN (l:=[vi (((oneL g.k).getD (2*bitF n row g.a+bitF n col g.a).toNat dZ).num.a),vi (((oneL g.k).getD (2*bitF n row g.a+bitF n col g.a).toNat dZ).num.b),vi (((oneL g.k).getD (2*bitF n row g.a+bitF n col g.a).toNat dZ).num.c),vi (((oneL g.k).getD (2*bitF n row g.a+bitF n col g.a).toNat dZ).num.d),vi (((oneL g.k).getD (2*bitF n row g.a+bitF n col g.a).toNat dZ).exp)]) rfl Xr (e.at 0) rfl)) ?_;exact ⟨(by rw [i];try rfl),o⟩
theorem Xyb(H:World)(n:Int)(g:Gt)(W:gOk n g=true) : Ret Tryz.prog 107 [vi n,.agg #[vi g.k,vi g.a,vi g.b]] H (fun v w=>∃ A c,v=mV A c (gateS n g)∧Own w H.heap.size 95 5 encD A c (gateS n g).cells∧Below H.heap.size H w):=by
 have aZ:=X1i W
 obtain ⟨d,hd⟩ : ∃ d:Nat,d=2^n.toNat:=⟨_,rfl⟩
 have aI:d≤32:=by rw [hd];exact X4m aZ.1.2
 refine enter Tryz.func107 rfl 36 rfl rfl ?_;intro a t
 have p:=bz H
 refine Zs t fun _ b0=>?_;refine Zf (X0i (zs:=[vi g.k,vi g.a,vi g.b]) rfl rfl) ?_;rintro _ w1 ⟨b2,rfl,J,y,e⟩;have b8:=Q0 p.size J;have p:=btr p y;refine Zf (X8 (zs:=[vi 0,vi 0,.slice none 0 0]) X1o rfl) ?_;rintro _ w2 ⟨b4,rfl,b1,y,f⟩;have aJ:=Q0 p.size b1;have e:=e.below y;have p:=btr p y;refine Zx b0 fun a t _ b3=>?_;refine Zm rfl<|Ze (Xh2 (m:=n.toNat) Tryz.underlying3 Tryz.underlying185 rfl (by omega) (by omega))<|Ze (Xbq (m:=n.toNat) (D:=d) rfl rfl rfl ⟨hd,by omega⟩)<|Za rfl<|Zx b3 fun a t _ b5=>?_;refine Zm rfl<|Zm rfl<|Ze (Xg (ps:=[(0,vi (d:Int)),(1,vi (d:Int))]) (cs:=[vi (d:Int),vi (d:Int),.slice none 0 0]) rfl (fun _=>by first|rfl|kernel_rfl))<|Zf (X8 (zs:=[vi 0,vi 0,.slice none 0 0]) X1o rfl) ?_;rintro _ w3 ⟨b9,rfl,b6,y,o⟩
 have aY:b4≠b9:=by have:=f.lt;omega
 have aA:=Q0 p.size b6;have e:=e.below y;have f:=f.below y;have p:=btr p y;refine Zo (Vw [vi (d:Int),vi (d:Int),.slice none 0 0] X18 o) ?_;rintro _ w4 ⟨L,hb⟩;have z:=o;have e:=e.only L (Blk.ne e z rfl);have f:=f.only L (by omega);have p:=Below.only p L aA;have o:=hb;refine ZX b5 fun a t _ aK=>?_;refine Zs t fun _ aL=>?_;refine Za rfl<|Zt aL fun a t=>?_;refine Q8<|X0a (σ:=Nat×(List Dy)) (fun (s:Nat×(List Dy)) (a:Act) (w:World)=>match s with|(i,l)=>∃ C E,Fr a 36 [(0,vi n),(3,.pointer (some ⟨b2,0,none⟩)),(4,.pointer (some ⟨b4,0,none⟩)),(5,vi (d:Int)),(6,.pointer (some ⟨b9,0,none⟩)),(7,vi (i:Int))]∧(i≤d)∧(gridL (fun i j=>cellS n g (i:Int) (j:Int)) d (i*d)=l)∧Blk w b2 115 [vi g.k,vi g.a,vi g.b]∧Blk w b4 33 [vi 0,vi 0,.slice none 0 0]∧Blk w b9 33 [vi (d:Int),vi (d:Int),.slice C l.length E]∧Own w H.heap.size 95 5 encD C E l∧Below H.heap.size H w) (fun (s:Nat×(List Dy))=>match s with|(i,l)=>d-i) (0,[]) ?_ ?_
 ·exact ⟨none,0,t.sb,(Qf _),(by rw [Nat.zero_mul];rfl),e,f,o,(Own.nil _ _ _ _ _),p⟩
 rintro ⟨i,l⟩ a w5 ⟨C,E,t,bD,hl,e,f,o,G,p⟩;refine Q5 fun _ aM=>?_;refine Zs t fun _ aN=>?_;refine Zm rfl<|Zm rfl<|Ze (X11 rfl rfl)<|Zt aN fun a t=>?_
 refine Xj t rfl (fun u=>?_) (fun u=>?_)
 ·have aC:=u;have u:=Q2 u
  have aO:i<d:=by have:=u;omega
  have bE:i*d≤1024:=Q0 (Nat.mul_le_mul (show i≤32 by omega) aI) (by decide)
  refine Q7<|aM _ _<|Q5 fun _ aP=>?_;refine Q8<|Zs t fun _ aQ=>?_;refine Za rfl<|Zt aQ fun a t=>?_;refine Q8<|X0a (σ:=Nat×(List Dy)) (fun (s:Nat×(List Dy)) (a:Act) (w:World)=>match s with|(j,l2)=>∃ Q U,Fr a 36 [(0,vi n),(3,.pointer (some ⟨b2,0,none⟩)),(4,.pointer (some ⟨b4,0,none⟩)),(5,vi (d:Int)),(6,.pointer (some ⟨b9,0,none⟩)),(7,vi (i:Int)),(8,vi (j:Int))]∧(j≤d)∧(gridL (fun i j=>cellS n g (i:Int) (j:Int)) d (i*d+j)=l2)∧Blk w b2 115 [vi g.k,vi g.a,vi g.b]∧Blk w b4 33 [vi 0,vi 0,.slice none 0 0]∧Blk w b9 33 [vi (d:Int),vi (d:Int),.slice Q l2.length U]∧Own w H.heap.size 95 5 encD Q U l2∧Below H.heap.size H w) (fun (s:Nat×(List Dy))=>match s with|(j,l2)=>d-j) (0,l) ?_ ?_
  ·exact ⟨C,E,t.sb,(Qf _),hl,e,f,o,G,p⟩
  rintro ⟨j,l2⟩ a w6 ⟨Q,U,t,bF,J,e,f,o,q,p⟩;refine Q5 fun _ aR=>?_;refine Zs t fun _ aS=>?_;refine Zm rfl<|Zm rfl<|Ze (X11 rfl rfl)<|Zt aS fun a t=>?_
  refine Xj t rfl (fun x=>?_) (fun x=>?_)
  ·have aD:=x;have x:=Q2 x
   have aE:j<d:=by have:=x;omega
   have bC:l2.length=i*d+j:=by rw [← J,X5v]
   refine Q7<|aR _ _<|Q5 fun _ aT=>?_;refine Q8<|X0d none (fun j=>[8,10].contains j) mixed ?_;intro w7 y;have e:=e.below y;have f:=f.below y;have o:=o.below y;have q:=q.below y;have p:=btr p y;refine Yb t<|Yo 0 rfl (fun _=>Vd rfl X1g 2)<|Ye 1 rfl (X0 rfl X2n (o.at 2))<|Yo 2 rfl (fun _=>Xa rfl)<|Ye 3 rfl (Vn X0f e)<|Yo 4 rfl (fun _=>Xa rfl)<|Yo 5 rfl (fun _=>Xa rfl)<|Y1 6 ?_;refine Yk rfl trivial (Vc (Y14 _ n g (i:Int) (j:Int) W) Xx2) (fun _ _ ⟨_,y⟩=>y) ?_;rintro _ w8 ⟨rfl,y⟩;have e:=e.below y;have f:=f.below y;have o:=o.below y;have q:=q.below y;have p:=btr p y;refine Y1 7<|Yk rfl trivial (X5 (k:=1) (vs:=[.agg #[vi ((cellS n g (i:Int) (j:Int)).num.a),vi ((cellS n g (i:Int) (j:Int)).num.b),vi ((cellS n g (i:Int) (j:Int)).num.c),vi ((cellS n g (i:Int) (j:Int)).num.d),vi ((cellS n g (i:Int) (j:Int)).exp)]]) (zs:=[vi ((cellS n g (i:Int) (j:Int)).num.a),vi ((cellS n g (i:Int) (j:Int)).num.b),vi ((cellS n g (i:Int) (j:Int)).num.c),vi ((cellS n g (i:Int) (j:Int)).num.d),vi ((cellS n g (i:Int) (j:Int)).exp)]) rfl X1d X2u rfl rfl) (fun _ _ ⟨_,_,_,h,_⟩=>h) ?_;rintro _ w9 ⟨bG,rfl,aB,y,M⟩;have b7:=Q0 p.size aB;have I:=q.away aB;have e:=e.below y;have f:=f.below y;have o:=o.below y;have q:=q.below y;have p:=btr p y;refine Y1 8<|Yt rfl trivial rfl (X0v (enc:=encD) (l:=(l2)) (l2:=([(cellS n g (i:Int) (j:Int))])) (B0:=H.heap.size) rfl rfl X1d X2u X1a X76 q (Rd.of_blk M rfl _ M.lt) (by simp only [maxLen];simp;omega) (by simp;omega) p.size) ?_;rintro _ bH ⟨aF,aG,rfl,N,W,aU⟩
   have B:Own _ H.heap.size 95 5 encD _ _ (l2):=q
   have aH:=aU _ M.lt I;clear aU;have e:=e.appT B W rfl;have f:=f.appT B W rfl;have o:=o.appT B W rfl;have p:=Below.app p B W (Qb _) p.size;clear B W;refine Yo 9 rfl (fun _=>Vd rfl X1g 2)<|Y1 10 ?_;refine Yh rfl trivial rfl (Vu (vs:=[.slice aF (l2++([(cellS n g (i:Int) (j:Int))])).length aG]) (l':=[vi (d:Int),vi (d:Int),.slice aF (l2++([(cellS n g (i:Int) (j:Int))])).length aG]) rfl rfl Xh1 o) ?_;rintro _ bI ⟨L,hb⟩;have z:=o;have e:=e.only L (Blk.ne e z rfl);have f:=f.only L (by omega);have N:=N.onlyT L z rfl;have p:=Below.only p L aA;have o:=hb;refine Yd fun a t=>?_;refine Xq<|aT _ _<|Zr t<|Zm rfl<|Ze (X00 rfl rfl (by omega) (by omega))<|Za rfl ?_;refine Zn fun a t=>?_;refine Xo ?_;exact ⟨(j+1,l2++[(cellS n g (i:Int) (j:Int))]),⟨aF,aG,t.sb,(by omega),(by rw [Xgu aE,J]),e,f,o,N,p⟩,(by first|omega|(dsimp only;omega))⟩
  have aD:=x;have x:=Q1 x
  have aE:j=d:=by have:=x;omega
  refine Q9<|Xn<|Xn<|X06 ?_;refine Xq<|aP _ _<|Zr t<|Zm rfl<|Ze (X00 rfl rfl (by omega) (by omega))<|Za rfl ?_;refine Zn fun a t=>?_;refine Xo ?_;exact ⟨(i+1,l2),⟨Q,U,t.sb,(by omega),(by rw [Wb,Nat.one_mul,← J,aE]),e,f,o,q,p⟩,(by first|omega|(dsimp only;omega))⟩
 have aC:=u;have u:=Q1 u
 have aO:i=d:=by have:=u;omega
 refine Q9<|Xn<|Xn<|X06 ?_;refine aK _ _<|Zs t fun _ aW=>?_;refine Ze (Vn X0j o)<|Zo (Vw [vi (d:Int),vi (d:Int),.slice C l.length E] X18 f) ?_;rintro _ bJ ⟨L,hb⟩;have z:=f;have G:=G.onlyT L z rfl;have p:=Below.only p L aJ;have f:=hb;refine Zt aW fun a t=>?_
 refine Q6 (X3 t (Xs t rfl (ResV.cellN (l:=[vi (d:Int),vi (d:Int),.slice C l.length E]) rfl X0j (f.at 0) rfl)) ?_)
 have aX:gateS n g=⟨(d:Int),(d:Int),l⟩:=by rw [gateS,← hl,aO,hd]
 rw [aX]
 exact ⟨C,E,rfl,G,p⟩
theorem Y1s(D:World)(p:Mx)(Ap:Option Addr)(cp:Nat)(G:Rd D D.heap.size 95 encD Ap p.cells)(q:Mx)(Aq:Option Addr)(cq:Nat)(H:Rd D D.heap.size 95 encD Aq q.cells)(k:Int)(b8:p.cells.length=q.cells.length)(b9:q.cells.length≤2305843009213693951) : Ret Tryz.prog 162 [.agg #[vi p.rows,vi p.cols,.slice Ap p.cells.length cp],.agg #[vi q.rows,vi q.cols,.slice Aq q.cells.length cq],vi k] D (fun v w=>v=.bool (turnedS p q k)∧Below D.heap.size D w):=by
 refine enter Tryz.func162 rfl 42 rfl rfl ?_;intro a j
 have n:=bz D
 refine Zs j fun _ aX=>?_;refine Zf (X0i (zs:=[vi p.rows,vi p.cols,.slice Ap p.cells.length cp]) rfl rfl) ?_;rintro _ w1 ⟨b4,rfl,aY,x,e⟩;have b6:=Q0 n.size aY;have n:=btr n x;refine Zf (X0i (zs:=[vi q.rows,vi q.cols,.slice Aq q.cells.length cq]) rfl rfl) ?_;rintro _ w2 ⟨b5,rfl,aZ,x,aA⟩
 have aW:b4≠b5:=by have:=e.lt;omega
 have b7:=Q0 n.size aZ;have e:=e.below x;have n:=btr n x;refine Za rfl<|ZX aX fun a j _ b0=>?_;refine Q5 fun _ b1=>?_;refine X0l (fun a w=>Fr a 42 [(2,vi k),(3,.pointer (some ⟨b4,0,none⟩)),(4,.pointer (some ⟨b5,0,none⟩)),(20,.bool ((p.rows != q.rows)||(p.cols != q.cols)))]∧w2=w) ?_ ?_
 ·refine Zr j<|Ze (Vd rfl X25 0)<|Ze (X0 rfl X7 (e.at 0))<|Ze (Vd rfl X25 0)<|Ze (X0 rfl X7 (aA.at 0))<|Ze (X2m rfl rfl)<|Zm rfl ?_
  refine Zg 14 rfl (fun m=>?_) (fun m=>?_)
  ·refine Zp (gP m) ?_;refine Zp (gP m) ?_;refine Zp (gP m) ?_;refine Zp (gP m) ?_;refine Zp (gP m) ?_;refine Ze (Xl rfl m rfl) ?_;refine Zn fun a j=>?_;exact ⟨j.sub ⟨rfl,rfl,rfl,X1 rfl (by first|rfl|(simp only [m,bs];done)|simp [m]),trivial⟩,rfl⟩
  refine Zv (gW m) (Vd rfl X1r 1) ?_;refine Zv (gW m) (X0 rfl X7 (e.at 1)) ?_;refine Zv (gW m) (Vd rfl X1r 1) ?_;refine Zv (gW m) (X0 rfl X7 (aA.at 1)) ?_;refine Zv (gW m) (X2m rfl rfl) ?_;refine Ze (Xe rfl m rfl) ?_;refine Zn fun a j=>?_;exact ⟨j.sub ⟨rfl,rfl,rfl,X1 rfl (by first|rfl|(simp only [m,bs];done)|simp [m]),trivial⟩,rfl⟩
 rintro a _ ⟨j,rfl⟩;refine b1 _ _ ?_
 refine Xj j rfl (fun y=>?_) (fun y=>?_)
 ·have aG:=y
  have hn:turnedS p q k=false:=by have h9:¬ (p.rows=q.rows∧p.cols=q.cols):=(by intro h8;revert y;simp [h8.1,h8.2]);unfold turnedS;revert h9;by_cases e1:p.rows=q.rows<;>by_cases e2:p.cols=q.cols<;>simp [e1,e2]
  refine Zs j fun _ aH=>?_;refine Za rfl<|Zt aH fun a j=>?_;refine Q6<|X2<|X3 j (Xs j rfl rfl) ?_;exact ⟨by rw [hn],n⟩
 have aG:=y
 have aI:p.rows=q.rows∧p.cols=q.cols:=by revert y;by_cases e1:p.rows=q.rows<;>by_cases e2:p.cols=q.cols<;>simp [e1,e2]
 refine Q7<|b0 _ _<|Q5 fun _ aJ=>?_;refine Zs j fun _ aK=>?_;refine Ze (Vd rfl X1g 2)<|Ze (X0 rfl X2n (aA.at 2))<|Ze (X0p rfl X1d)<|Zm rfl<|Zt aK fun a j=>?_;refine Q8<|X0a (σ:=Nat) (fun (i:Nat) (a:Act) (w:World)=>Fr a 42 [(2,vi k),(3,.pointer (some ⟨b4,0,none⟩)),(22,.slice Aq q.cells.length cq),(23,vi (q.cells.length:Int)),(24,vi (i:Int))]∧(i≤q.cells.length)∧(p.cells.take i=(q.cells.map (dTurn k)).take i)∧Blk w b4 33 [vi p.rows,vi p.cols,.slice Ap p.cells.length cp]∧Below D.heap.size D w) (fun (i:Nat)=>q.cells.length-i) 0 ?_ ?_
 ·exact ⟨j.sb,(Qf _),(by simp),e,n⟩
 rintro i a w3 ⟨j,hi,z,e,n⟩;refine Zs j fun _ aL=>?_;refine Ze (X11 rfl rfl)<|ZX aL fun a j _ aM=>?_
 refine Xj j rfl (fun o=>?_) (fun o=>?_)
 ·have aB:=o;have o:=Q2 o
  obtain ⟨u16,h⟩:=Xf (l:=q.cells) (k:=i) (by omega)
  obtain ⟨E,aC⟩:=Xf (l:=p.cells) (k:=i) (by omega)
  refine Q7<|aM _ _<|Q5 fun _ aN=>?_;refine Q8<|Zs j fun _ aO=>?_;refine Zm rfl<|Zi (k:=i) (u:=u16) (enc:=encD) (l:=q.cells) trivial rfl rfl X1d X04 X1a (H.below' n) h rfl ?_;intro bC aD;refine Ze (Xw (l:=[vi u16.num.a,vi u16.num.b,vi u16.num.c,vi u16.num.d,vi u16.exp]) rfl Xr aD rfl)<|Zf (X8 (zs:=[vi 0,vi 0,vi 0,vi 0,vi 0]) X1l rfl) ?_;rintro _ w4 ⟨bD,rfl,A,x,g⟩;have B:=Q0 n.size A;have aP:=(G.below' n).away A;have aQ:=(H.below' n).away A;have e:=e.below x;have n:=btr n x;refine Za rfl<|Zo (Vw [vi u16.num.a,vi u16.num.b,vi u16.num.c,vi u16.num.d,vi u16.exp] X04 g) ?_;rintro _ w5 ⟨ho,hb⟩;have C:=g;have e:=e.only ho (Blk.ne e C rfl);have n:=Below.only n ho B;have g:=hb;refine Zx aO fun a j _ aR=>?_;refine Ze (Vd rfl X1f 0)<|Ze (Xw (l:=[vi u16.num.a,vi u16.num.b,vi u16.num.c,vi u16.num.d]) rfl X0e ((g.at 0).take 4) rfl)<|Zm rfl<|Zf (Vc (Xzw _ u16.num k) Xma) ?_;rintro _ w6 ⟨rfl,x⟩;have e:=e.below x;have g:=g.below x;have n:=btr n x;refine Ze (Vd rfl X1f 0)<|Zo (Vu (vs:=[vi ((rTurn u16.num k).a),vi ((rTurn u16.num k).b),vi ((rTurn u16.num k).c),vi ((rTurn u16.num k).d)]) (l':=[vi ((rTurn u16.num k).a),vi ((rTurn u16.num k).b),vi ((rTurn u16.num k).c),vi ((rTurn u16.num k).d),vi u16.exp]) rfl rfl X17 g) ?_;rintro _ w7 ⟨ho,hb⟩;have C:=g;have e:=e.only ho (Blk.ne e C rfl);have n:=Below.only n ho B;have g:=hb;refine ZX aR fun a j _ aS=>?_;refine X0d none (fun _=>false) mixed ?_;intro w8 x;have e:=e.below x;have g:=g.below x;have n:=btr n x
  refine Yb j<|Yo 0 rfl (fun _=>Vd rfl X1g 2)<|Ye 1 rfl (X0 rfl X2n (e.at 2))<|Yo 2 rfl (fun _=>Xa rfl)<|Yi (k:=i) (u:=E) (enc:=encD) (l:=p.cells) 3 rfl trivial rfl rfl X1d X04 X1a (G.below' n) aC rfl ?_;intro bE aE;refine Ye 4 rfl (Xw (l:=[vi E.num.a,vi E.num.b,vi E.num.c,vi E.num.d,vi E.exp]) rfl Xr aE rfl)<|Ye 5 rfl (Vn Xr g)<|Yo 6 rfl (fun _=>Xju rfl rfl Xpu (fun w=>eqD 9997 E (⟨(rTurn u16.num k),u16.exp⟩ : Dy) w)) ?_;refine Yd fun a j=>?_;refine aS _ _ ?_
  refine Xj j rfl (fun t=>?_) (fun t=>?_)
  ·have aF:=t
   have b2:¬ E=dTurn k u16:=by intro e9;revert t;rw [e9];simp [dTurn]
   have hn:turnedS p q k=false:=by have h8:¬ p.cells=q.cells.map (dTurn k):=(by intro e9;have h7:=Xik (f:=dTurn k) h;rw [← e9,aC] at h7;injection h7 with h7;exact b2 h7);simp [turnedS,h8]
   refine Zs j fun _ aT=>?_;refine Za rfl<|Zt aT fun a j=>?_;refine Q6<|Xm<|X2<|X2 ?_;refine Xm<|X2<|X3 j (Xs j rfl rfl) ?_;exact ⟨by rw [hn],n⟩
  have aF:=t
  have b3:E=dTurn k u16:=by simpa [dTurn] using t
  refine Q7<|Xq<|aN _ _<|Zr j ?_;refine Ze (X00 rfl rfl (by omega) (by omega))<|Zm rfl ?_;refine Zn fun a j=>?_;refine Xo ?_;exact ⟨i+1,⟨j.sb,(by omega),(X8k z aC (Xik h) b3),e,n⟩,(by omega)⟩
 have aB:=o;have o:=Q1 o;refine Q9<|Xn<|Xn<|X06 ?_;refine aJ _ _<|Zs j fun _ aU=>?_;refine Za rfl<|Zt aU fun a j=>?_
 refine Q6 (X3 j (Xs j rfl rfl) ?_)
 have he:p.cells=q.cells.map (dTurn k):=by rw [Qi (by omega),Qi (by simp;omega)] at z;exact z
 exact ⟨by simp [turnedS,aI.1,aI.2,← he],n⟩
theorem Y1m(m:World)(p:Mx)(Ap:Option Addr)(cp:Nat)(aC:Rd m m.heap.size 95 encD Ap p.cells)(q:Mx)(Aq:Option Addr)(cq:Nat)(aD:Rd m m.heap.size 95 encD Aq q.cells)(aJ:p.cells.length=q.cells.length)(aK:q.cells.length≤2305843009213693951) : Ret Tryz.prog 104 [.agg #[vi p.rows,vi p.cols,.slice Ap p.cells.length cp],.agg #[vi q.rows,vi q.cols,.slice Aq q.cells.length cq]] m (fun v w=>∃ i:Int,v=.tuple #[vi i,.bool (phaseS p q)]∧Below m.heap.size m w):=by
 refine enter Tryz.func104 rfl 16 rfl rfl ?_;intro a c
 have g:=bz m
 refine Zs c fun _ aL=>?_;refine Zf (X0i (zs:=[vi p.rows,vi p.cols,.slice Ap p.cells.length cp]) rfl rfl) ?_;rintro _ w1 ⟨b4,rfl,aM,n,d⟩;have aS:=Q0 g.size aM;have g:=btr g n;refine Zf (X0i (zs:=[vi q.rows,vi q.cols,.slice Aq q.cells.length cq]) rfl rfl) ?_;rintro _ w2 ⟨b5,rfl,aN,n,l⟩
 have aI:b4≠b5:=by have:=d.lt;omega
 have aT:=Q0 g.size aN;have d:=d.below n;have g:=btr g n;refine Za rfl<|Za rfl<|ZX aL fun a c _ aO=>?_;refine Zs c fun _ aP=>?_;refine Za rfl<|Zt aP fun a c=>?_;refine Q8<|X0a (σ:=Nat) (fun (k:Nat) (a:Act) (w:World)=>Fr a 16 [(2,.pointer (some ⟨b4,0,none⟩)),(3,.pointer (some ⟨b5,0,none⟩)),(6,vi (k:Int))]∧(k≤8)∧(∀ j<k,turnedS p q ((j:Nat) : Int)=false)∧Blk w b4 33 [vi p.rows,vi p.cols,.slice Ap p.cells.length cp]∧Blk w b5 33 [vi q.rows,vi q.cols,.slice Aq q.cells.length cq]∧Below m.heap.size m w) (fun (k:Nat)=>8-k) 0 ?_ ?_
 ·exact ⟨c.sb,(by omega),(fun j hj=>by omega),d,l,g⟩
 rintro k a w3 ⟨c,hk,o,d,l,g⟩;refine Q5 fun _ aQ=>?_;refine Zs c fun _ aR=>?_;refine Zm rfl<|Ze (X11 rfl rfl)<|Zt aR fun a c=>?_
 refine Xj c rfl (fun b=>?_) (fun b=>?_)
 ·have aA:=b;have b:=Q2 b
  have aU:(k:Int)<8:=b
  refine Q7<|aQ _ _<|Q5 fun _ aE=>?_;refine Q8<|Zs c fun _ aF=>?_;refine Ze (Vn X0j d)<|Ze (Vn X0j l)<|Zm rfl<|Zf (Vc (Y1s _ p Ap cp (aC.below' g).top q Aq cq (aD.below' g).top (k:Int) aJ aK) Xvd) ?_;rintro _ w4 ⟨rfl,n⟩;have d:=d.below n;have l:=l.below n;have g:=btr g n;refine Zt aF fun a c=>?_
  refine Xj c rfl (fun e=>?_) (fun e=>?_)
  ·have aB:=e
   have hT:turnedS p q (k:Int)=true:=e
   refine Zs c fun _ aG=>?_;refine Zm rfl<|Za rfl<|Za rfl<|Zt aG fun a c=>?_;refine Q6<|Xm<|X2<|X2 ?_;refine Xm<|X2<|X3 c (X0w c rfl rfl rfl) ?_;exact ⟨_,by rw [phaseS,Xl6 (f:=fun k=>turnedS p q ((k:Nat) : Int)) (k:=k) (by omega) hT],g⟩
  have aB:=e
  have hT:turnedS p q (k:Int)=false:=e
  refine Q7<|Xq<|aE _ _<|Zr c ?_;refine Zm rfl<|Ze (X00 rfl rfl (by omega) (by omega))<|Za rfl ?_;refine Zn fun a c=>?_;refine Xo ?_;exact ⟨k+1,⟨c.sb,(by omega),(fun j hj=>by rcases W4 j k with h9|h9;exact o j h9;obtain rfl:j=k:=(by omega);exact hT),d,l,g⟩,(by omega)⟩
 have aA:=b;have b:=Q1 b;refine Q9<|Xn<|Xn<|X06 ?_;refine aO _ _<|Zs c fun _ aH=>?_;refine Za rfl<|Za rfl<|Zt aH fun a c=>?_
 refine Q6 (X3 c (X0w c rfl rfl rfl) ?_)
 exact ⟨_,by rw [phaseS,Xg9 (fun j hj=>o j (by omega))],g⟩
theorem Xur(w0:World)(n:Int)(g:Gt)(hn:1≤n∧n≤5) : Ret Tryz.prog 75 [vi n,.agg #[vi g.k,vi g.a,vi g.b]] w0 (fun v w=>v=.bool (gOk n g)∧Below w0.heap.size w0 w):=by
 refine enter Tryz.func75 rfl 55 rfl rfl ?_;intro a l
 have hW:=bz w0
 refine Zs l fun _ aC=>?_;refine Zf (X0i (zs:=[vi g.k,vi g.a,vi g.b]) rfl rfl) ?_;rintro _ w1 ⟨b2,rfl,aD,hE,o⟩;have aJ:=Q0 hW.size aD;have hW:=btr hW hE;refine Za rfl<|ZX aC fun a l _ aE=>?_;refine Q8<|Zs l fun _ aF=>?_;refine Ze (Vd rfl X0o 0)<|Ze (X0 rfl X7 (o.at 0))<|Zf (Vc (F85 _ g.k 1 8) X3y) ?_;rintro _ _ ⟨rfl,rfl⟩;refine Za rfl<|Zt aF fun a l=>?_
 refine Xj l rfl (fun p=>?_) (fun p=>?_)
 ·have d:=p;have q:=Y1r hn p;refine Q5 fun _ aG=>?_;refine X0l (fun a w=>Fr a 55 [(4,.bool ((inR g.a 0 (n-1))&&(g.b==0)))]∧w1=w) ?_ ?_
  ·refine Zr l<|Ze (Vd rfl X0k 1)<|Ze (X0 rfl X7 (o.at 1))<|Zm rfl<|Ze (X1j rfl rfl (by omega) (by omega))<|Zf (Vc (F85 _ g.a 0 (n-1)) X3y) ?_;rintro _ _ ⟨rfl,rfl⟩;refine Zm rfl ?_
   refine Zg 14 rfl (fun m=>?_) (fun m=>?_)
   ·refine Zv (gW m) (Vd rfl X10 2) ?_;refine Zv (gW m) (X0 rfl X7 (o.at 2)) ?_;refine Zv (gW m) (X16 rfl rfl) ?_;refine Ze (Xl rfl m rfl)<|Za rfl ?_;refine Zn fun a l=>?_;exact ⟨l.sub ⟨X1 rfl (by first|rfl|(simp only [d,m,bs];done)|simp [d,m]),trivial⟩,rfl⟩
   refine Zp (gP m) ?_;refine Zp (gP m) ?_;refine Zp (gP m) ?_;refine Ze (Xe rfl m rfl)<|Za rfl ?_;refine Zn fun a l=>?_;exact ⟨l.sub ⟨X1 rfl (by first|rfl|(simp only [d,m,bs];done)|simp [d,m]),trivial⟩,rfl⟩
  rintro a _ ⟨l,rfl⟩;refine aG _ _<|Q6<|Xm<|X2 ?_;refine X3 l (Xs l rfl rfl) ?_;exact ⟨by rw [q],hW⟩
 have d:=p;have aH:=p;refine Zs l fun _ aI=>?_;refine Ze (Vd rfl X0o 0)<|Ze (X0 rfl X7 (o.at 0))<|Zf (Vc (F85 _ g.k 9 11) X3y) ?_;rintro _ _ ⟨rfl,rfl⟩;refine Za rfl<|Zt aI fun a l=>?_
 refine Xj l rfl (fun t=>?_) (fun t=>?_)
 ·have i:=t;have q:=Y1d hn t;refine Q5 fun _ aA=>?_;refine X0l (fun a w=>Fr a 55 [(4,.bool (((inR g.a 0 (n-1))&&(inR g.b 0 (n-1)))&&(g.a != g.b)))]∧w1=w) ?_ ?_
  ·refine Zr l<|Ze (Vd rfl X0k 1)<|Ze (X0 rfl X7 (o.at 1))<|Zm rfl<|Ze (X1j rfl rfl (by omega) (by omega))<|Zf (Vc (F85 _ g.a 0 (n-1)) X3y) ?_;rintro _ _ ⟨rfl,rfl⟩;refine Zm rfl ?_
   refine Zg 28 rfl (fun c=>?_) (fun c=>?_)
   ·refine Zv (gW c) (Vd rfl X10 2) ?_;refine Zv (gW c) (X0 rfl X7 (o.at 2)) ?_;refine Zv (gW c) (Xa rfl) ?_;refine Zv (gW c) (X1j rfl rfl (by omega) (by omega)) ?_;refine Zk (gW c) (Vc (F85 _ g.b 0 (n-1)) X3y) ?_;rintro _ _ ⟨rfl,rfl⟩;refine Ze (Xl rfl c rfl)<|Zm rfl ?_
    refine Zg 35 rfl (fun e=>?_) (fun e=>?_)
    ·refine Zv (gW e) (Vd rfl X0k 1) ?_;refine Zv (gW e) (X0 rfl X7 (o.at 1)) ?_;refine Zv (gW e) (Vd rfl X10 2) ?_;refine Zv (gW e) (X0 rfl X7 (o.at 2)) ?_;refine Zv (gW e) (X2m rfl rfl) ?_;refine Ze (Xl rfl e rfl)<|Za rfl ?_;refine Zn fun a l=>?_;exact ⟨l.sub ⟨X1 rfl (by first|rfl|(simp only [d,i,c,e,bs];done)|simp [d,i,c,e]),trivial⟩,rfl⟩
    refine Zp (gP e) ?_;refine Zp (gP e) ?_;refine Zp (gP e) ?_;refine Zp (gP e) ?_;refine Zp (gP e) ?_;refine Ze (Xe rfl e rfl)<|Za rfl ?_;refine Zn fun a l=>?_;exact ⟨l.sub ⟨X1 rfl (by first|rfl|(simp only [d,i,c,e,bs];done)|simp [d,i,c,e]),trivial⟩,rfl⟩
   refine Zp (gP c) ?_;refine Zp (gP c) ?_;refine Zp (gP c) ?_;refine Zp (gP c) ?_;refine Zp (gP c) ?_;refine Ze (Xe rfl c rfl)<|Zm rfl<|Zp (gP rfl) ?_;refine Zp (gP rfl) ?_;refine Zp (gP rfl) ?_;refine Zp (gP rfl) ?_;refine Zp (gP rfl) ?_;refine Ze (Xe rfl rfl rfl)<|Za rfl ?_;refine Zn fun a l=>?_;exact ⟨l.sub ⟨X1 rfl (by first|rfl|(simp only [d,i,c,bs];done)|simp [d,i,c]),trivial⟩,rfl⟩
  rintro a _ ⟨l,rfl⟩;refine aA _ _<|Q6<|Xm<|X2 ?_;refine X3 l (Xs l rfl rfl) ?_;exact ⟨by rw [q],hW⟩
 have i:=t;have q:=Y0z hn aH t;refine Q7<|Xq<|aE _ _<|Q5 fun _ aB=>?_;refine X0l (fun a w=>Fr a 55 [(4,.bool (((g.k==12)&&(g.a==0))&&(g.b==0)))]∧w1=w) ?_ ?_
 ·refine Zr l<|Ze (Vd rfl X0o 0)<|Ze (X0 rfl X7 (o.at 0))<|Ze (X16 rfl rfl)<|Zm rfl ?_
  refine Zg 45 rfl (fun f=>?_) (fun f=>?_)
  ·refine Zv (gW f) (Vd rfl X0k 1) ?_;refine Zv (gW f) (X0 rfl X7 (o.at 1)) ?_;refine Zv (gW f) (X16 rfl rfl) ?_;refine Ze (Xl rfl f rfl)<|Zm rfl ?_
   refine Zg 50 rfl (fun j=>?_) (fun j=>?_)
   ·refine Zv (gW j) (Vd rfl X10 2) ?_;refine Zv (gW j) (X0 rfl X7 (o.at 2)) ?_;refine Zv (gW j) (X16 rfl rfl) ?_;refine Ze (Xl rfl j rfl)<|Za rfl ?_;refine Zn fun a l=>?_;exact ⟨l.sub ⟨X1 rfl (by first|rfl|(simp only [d,i,f,j,bs];done)|simp [d,i,f,j]),trivial⟩,rfl⟩
   refine Zp (gP j) ?_;refine Zp (gP j) ?_;refine Zp (gP j) ?_;refine Ze (Xe rfl j rfl)<|Za rfl ?_;refine Zn fun a l=>?_;exact ⟨l.sub ⟨X1 rfl (by first|rfl|(simp only [d,i,f,j,bs];done)|simp [d,i,f,j]),trivial⟩,rfl⟩
  refine Zp (gP f) ?_;refine Zp (gP f) ?_;refine Zp (gP f) ?_;refine Ze (Xe rfl f rfl)<|Zm rfl<|Zp (gP rfl) ?_;refine Zp (gP rfl) ?_;refine Zp (gP rfl) ?_;refine Ze (Xe rfl rfl rfl)<|Za rfl ?_;refine Zn fun a l=>?_;exact ⟨l.sub ⟨X1 rfl (by first|rfl|(simp only [d,i,f,bs];done)|simp [d,i,f]),trivial⟩,rfl⟩
 rintro a _ ⟨l,rfl⟩;refine aB _ _ ?_
 refine Q6 (X3 l (Xs l rfl rfl) ?_)
 exact ⟨by rw [q],hW⟩
theorem F53(t:World)(c:Cx)(Ac:Option Addr)(cc:Nat)(y:Rd t t.heap.size 115 encG Ac c.gs) : Ret Tryz.prog 46 [.agg #[vi c.n,.slice Ac c.gs.length cc]] t (fun v w=>v=.bool (cOk c)∧Below t.heap.size t w):=by
 refine enter Tryz.func46 rfl 28 rfl rfl ?_;intro a d
 have j:=bz t
 refine Zs d fun _ aR=>?_;refine Zf (X0i (zs:=[vi c.n,.slice Ac c.gs.length cc]) rfl rfl) ?_;rintro _ w1 ⟨b3,rfl,aS,hE,f⟩;have aZ:=Q0 j.size aS;have j:=btr j hE;refine Za rfl<|ZX aR fun a d _ aT=>?_;refine Q5 fun _ aU=>?_;refine X0l (fun a w=>Fr a 28 [(1,.pointer (some ⟨b3,0,none⟩)),(14,.bool ((!(inR c.n 1 5))||(decide (400<(c.gs.length:Int)))))]∧w1=w) ?_ ?_
 ·refine Zr d<|Ze (Vd rfl X1e 0)<|Ze (X0 rfl X7 (f.at 0))<|Zf (Vc (F85 _ c.n 1 5) X3y) ?_;rintro _ _ ⟨rfl,rfl⟩;refine Ze (X0x rfl)<|Zm rfl ?_
  refine Zg 9 rfl (fun e=>?_) (fun e=>?_)
  ·refine Zp (gP e) ?_;refine Zp (gP e) ?_;refine Zp (gP e) ?_;refine Zp (gP e) ?_;refine Ze (Xl rfl e rfl) ?_;refine Zn fun a d=>?_;exact ⟨d.sub ⟨rfl,X1 rfl (by first|rfl|(simp only [e,bs];done)|simp [e]),trivial⟩,rfl⟩
  refine Zv (gW e) (Vd rfl X0g 1) ?_;refine Zv (gW e) (X0 rfl X0m (f.at 1)) ?_;refine Zv (gW e) (X0p rfl Xb) ?_;refine Zv (gW e) (X36 rfl rfl) ?_;refine Ze (Xe rfl e rfl) ?_;refine Zn fun a d=>?_;exact ⟨d.sub ⟨rfl,X1 rfl (by first|rfl|(simp only [e,bs];done)|simp [e]),trivial⟩,rfl⟩
 rintro a _ ⟨d,rfl⟩;refine aU _ _ ?_
 refine Xj d rfl (fun p=>?_) (fun p=>?_)
 ·have aF:=p
  have hn:(inR c.n 1 5&&decide ((c.gs.length:Int)≤400))=false:=by revert p;cases inR c.n 1 5<;>simp
  refine Zs d fun _ aW=>?_;refine Za rfl<|Zt aW fun a d=>?_;refine Q6<|X2<|X3 d (Xs d rfl rfl) ?_;exact ⟨by rw [cOk,hn];rfl,j⟩
 have aF:=p
 have hy:(inR c.n 1 5&&decide ((c.gs.length:Int)≤400))=true:=by revert p;cases inR c.n 1 5<;>simp
 have aG:=(Qd _ _▸hy:inR c.n 1 5=true∧decide ((c.gs.length:Int)≤400)=true);have hn:=X01.1 aG.1;have b0:=Q2 aG.2;refine Q7<|aT _ _<|Q5 fun _ aX=>?_;refine Zs d fun _ aH=>?_;refine Ze (Vd rfl X0g 1)<|Ze (X0 rfl X0m (f.at 1))<|Ze (X0p rfl Xb)<|Zm rfl<|Zt aH fun a d=>?_;refine Q8<|X0a (σ:=Nat) (fun (k:Nat) (a:Act) (w:World)=>Fr a 28 [(1,.pointer (some ⟨b3,0,none⟩)),(16,.slice Ac c.gs.length cc),(17,vi (c.gs.length:Int)),(18,vi (k:Int))]∧(k≤c.gs.length)∧((c.gs.take k).all (fun x=>gOk c.n x)=true)∧Blk w b3 28 [vi c.n,.slice Ac c.gs.length cc]∧Below t.heap.size t w) (fun (k:Nat)=>c.gs.length+1-k) 0 ?_ ?_
 ·exact ⟨d.sb,(Qf _),(by simp),f,j⟩
 rintro k a w2 ⟨d,hk,z,f,j⟩;refine Zs d fun _ aI=>?_;refine Ze (X11 rfl rfl)<|ZX aI fun a d _ aJ=>?_
 refine Xj d rfl (fun g=>?_) (fun g=>?_)
 ·have aA:=g;have g:=Q2 g
  obtain ⟨i,q⟩:=Xf (l:=c.gs) (k:=k) (by omega)
  refine Q7<|aJ _ _<|Q5 fun _ aK=>?_;refine Q8<|Zs d fun _ aL=>?_;refine Zi (k:=k) (u:=i) (enc:=encG) (l:=c.gs) trivial rfl rfl Xb X0h X9 (y.below' j) q rfl ?_;intro b1 aB;refine Ze (Xw (l:=[vi i.k,vi i.a,vi i.b]) rfl X0f aB rfl)<|Zf (X8 (zs:=[vi 0,vi 0,vi 0]) X2q rfl) ?_;rintro _ w3 ⟨b2,rfl,h,hE,o⟩;have aC:=Q0 j.size h;have aM:=(y.below' j).away h;have f:=f.below hE;have j:=btr j hE;refine Zo (Vw [vi i.k,vi i.a,vi i.b] X0h o) ?_;rintro _ w4 ⟨ho,hb⟩;have aN:=o;have f:=f.only ho (Blk.ne f aN rfl);have j:=Below.only j ho aC;have o:=hb;refine Zx aL fun a d _ aO=>?_;refine Ze (Vd rfl X1e 0)<|Ze (X0 rfl X7 (f.at 0))<|Ze (Vn X0f o)<|Zf (Vc (Xur _ c.n i hn) Xgi) ?_;rintro _ w5 ⟨rfl,hE⟩;have f:=f.below hE;have j:=btr j hE;refine Ze (X0x rfl)<|Zt aO fun a d=>?_
  refine Xj d rfl (fun m=>?_) (fun m=>?_)
  ·have aD:=m
   have aE:(c.gs.any fun x=>!gOk c.n x)=true:=X3f q m
   refine Zs d fun _ aP=>?_;refine Za rfl<|Zt aP fun a d=>?_;refine Q6<|Xm<|X2<|X2 ?_;refine Xm<|X2<|X3 d (Xs d rfl rfl) ?_;exact ⟨by rw [cOk,hy,aE];rfl,j⟩
  have aD:=m
  have aY:gOk c.n i=true:=by revert m;cases gOk c.n i<;>simp
  refine Q7<|Xq<|aK _ _<|Zr d ?_;refine Ze (X00 rfl rfl (by omega) (by omega))<|Zm rfl ?_;refine Zn fun a d=>?_;refine Xo ?_;exact ⟨k+1,⟨d.sb,(by omega),(X24 z q aY),f,j⟩,(by omega)⟩
 have aA:=g;have g:=Q1 g;refine Q9<|Xn<|Xn<|X06 ?_;refine aX _ _<|Zs d fun _ aQ=>?_;refine Za rfl<|Zt aQ fun a d=>?_
 refine Q6 (X3 d (Xs d rfl rfl) ?_)
 have aE:(c.gs.any fun x=>!gOk c.n x)=false:=X2o (by simpa using X22 z (by omega))
 exact ⟨by rw [cOk,hy,aE];rfl,j⟩
theorem F86(j:World)(n:Int)(Al:Option Addr)(cl:Nat)(l:List Gt)(o:Rd j j.heap.size 115 encG Al l)(m:Int)(hn:1≤n∧n≤5)(aT:l.length≤2305843009213693951) : Ret Tryz.prog 193 [vi n,.slice Al l.length cl,vi m] j (fun v w=>v=.bool (!(l.any fun x=>!gOk n x)&&decide ((l.length:Int)≤m))∧Below j.heap.size j w):=by
 refine enter Tryz.func193 rfl 24 rfl rfl ?_;intro a c
 have f:=bz j
 refine Zs c fun _ aL=>?_;refine Za rfl<|ZX aL fun a c _ aM=>?_;refine Zs c fun _ aN=>?_;refine Zm rfl<|Ze (X0p rfl Xb)<|Zm rfl<|Zt aN fun a c=>?_;refine Q8<|X0a (σ:=Nat) (fun (k:Nat) (a:Act) (w:World)=>Fr a 24 [(0,vi n),(1,.slice Al l.length cl),(2,vi m),(9,.slice Al l.length cl),(10,vi (l.length:Int)),(11,vi (k:Int))]∧(k≤l.length)∧((l.take k).all (fun x=>gOk n x)=true)∧Below j.heap.size j w) (fun (k:Nat)=>l.length+1-k) 0 ?_ ?_
 ·exact ⟨c.sb,(Qf _),(by simp),f⟩
 rintro k a w1 ⟨c,hk,p,f⟩;refine Zs c fun _ aO=>?_;refine Ze (X11 rfl rfl)<|ZX aO fun a c _ aP=>?_
 refine Xj c rfl (fun e=>?_) (fun e=>?_)
 ·have aF:=e;have e:=Q2 e
  obtain ⟨i,aA⟩:=Xf (l:=l) (k:=k) (by omega)
  refine Q7<|aP _ _<|Q5 fun _ aQ=>?_;refine Q8<|Zs c fun _ aG=>?_;refine Zi (k:=k) (u:=i) (enc:=encG) (l:=l) trivial rfl rfl Xb X0h X9 (o.below' f) aA rfl ?_;intro aU aB;refine Ze (Xw (l:=[vi i.k,vi i.a,vi i.b]) rfl X0f aB rfl)<|Zf (X8 (zs:=[vi 0,vi 0,vi 0]) X2q rfl) ?_;rintro _ w2 ⟨aW,rfl,q,hE,g⟩;have aC:=Q0 f.size q;have aH:=(o.below' f).away q;have f:=btr f hE;refine Zo (Vw [vi i.k,vi i.a,vi i.b] X0h g) ?_;rintro _ w3 ⟨ho,hb⟩;have aS:=g;have f:=Below.only f ho aC;have g:=hb;refine Zx aG fun a c _ aI=>?_;refine Zm rfl<|Ze (Vn X0f g)<|Zf (Vc (Xur _ n i hn) Xgi) ?_;rintro _ w4 ⟨rfl,hE⟩;have f:=btr f hE;refine Ze (X0x rfl)<|Zt aI fun a c=>?_
  refine Xj c rfl (fun d=>?_) (fun d=>?_)
  ·have aD:=d
   have aE:(l.any fun x=>!gOk n x)=true:=X3f aA d
   refine Zs c fun _ aJ=>?_;refine Za rfl<|Zt aJ fun a c=>?_;refine Q6<|Xm<|X2<|X2 ?_;refine Xm<|X2<|X3 c (Xs c rfl rfl) ?_;exact ⟨by rw [aE];rfl,f⟩
  have aD:=d
  have aR:gOk n i=true:=by revert d;cases gOk n i<;>simp
  refine Q7<|Xq<|aQ _ _<|Zr c ?_;refine Ze (X00 rfl rfl (by omega) (by omega))<|Zm rfl ?_;refine Zn fun a c=>?_;refine Xo ?_;exact ⟨k+1,⟨c.sb,(by omega),(X24 p aA aR),f⟩,(by omega)⟩
 have aF:=e;have e:=Q1 e;refine Q9<|Xn<|Xn<|X06 ?_;refine aM _ _<|Zs c fun _ aK=>?_;refine Zm rfl<|Ze (X0p rfl Xb)<|Zm rfl<|Ze (Xa9 rfl rfl)<|Za rfl<|Zt aK fun a c=>?_
 refine Q6 (X3 c (Xs c rfl rfl) ?_)
 have aE:(l.any fun x=>!gOk n x)=false:=X2o (by simpa using X22 p (by omega))
 exact ⟨by rw [aE];rfl,f⟩
theorem Y11(w0:World)(x:Gt)(y:Gt) : Ret Tryz.prog 72 [.agg #[vi x.k,vi x.a,vi x.b],.agg #[vi y.k,vi y.a,vi y.b]] w0 (fun v w=>v=.bool (decide (x=y))∧Below w0.heap.size w0 w):=by
 refine enter Tryz.func72 rfl 20 rfl rfl ?_;intro a c
 have j:=bz w0
 refine Zs c fun _ aK=>?_;refine Zf (X0i (zs:=[vi x.k,vi x.a,vi x.b]) rfl rfl) ?_;rintro _ w1 ⟨b2,rfl,aL,hE,f⟩;have aS:=Q0 j.size aL;have j:=btr j hE;refine Zf (X0i (zs:=[vi y.k,vi y.a,vi y.b]) rfl rfl) ?_;rintro _ w2 ⟨b3,rfl,aM,hE,aA⟩
 have aJ:b2≠b3:=by have:=f.lt;omega
 have aT:=Q0 j.size aM;have f:=f.below hE;have j:=btr j hE;refine Za rfl<|ZX aK fun a c _ aN=>?_;refine Zs c fun _ aO=>?_;refine Ze (Vd rfl X0o 0)<|Ze (X0 rfl X7 (f.at 0))<|Ze (Vd rfl X0o 0)<|Ze (X0 rfl X7 (aA.at 0))<|Ze (X2m rfl rfl)<|Zt aO fun a c=>?_
 refine Xj c rfl (fun g=>?_) (fun g=>?_)
 ·have aD:=g
  have i:¬ x=y:=by rintro rfl;simp at g
  refine Zs c fun _ aP=>?_;refine Za rfl<|Zt aP fun a c=>?_;refine Q6<|X2<|X3 c (Xs c rfl rfl) ?_;exact ⟨by simp [i],j⟩
 have aD:=g
 have e1:x.k=y.k:=by simpa using g
 refine Q7<|aN _ _<|Q5 fun _ aQ=>?_;refine Zs c fun _ aR=>?_;refine Ze (Vd rfl X0k 1)<|Ze (X0 rfl X7 (f.at 1))<|Ze (Vd rfl X0k 1)<|Ze (X0 rfl X7 (aA.at 1))<|Ze (X2m rfl rfl)<|Zt aR fun a c=>?_
 refine Xj c rfl (fun d=>?_) (fun d=>?_)
 ·have aB:=d
  have i:¬ x=y:=by rintro rfl;simp at d
  refine Zs c fun _ aE=>?_;refine Za rfl<|Zt aE fun a c=>?_;refine Q6<|X2<|X3 c (Xs c rfl rfl) ?_;exact ⟨by simp [i],j⟩
 have aB:=d
 have e2:x.a=y.a:=by simpa using d
 refine Q7<|aQ _ _<|Q5 fun _ aF=>?_;refine Zs c fun _ aG=>?_;refine Ze (Vd rfl X10 2)<|Ze (X0 rfl X7 (f.at 2))<|Ze (Vd rfl X10 2)<|Ze (X0 rfl X7 (aA.at 2))<|Ze (X2m rfl rfl)<|Zt aG fun a c=>?_
 refine Xj c rfl (fun e=>?_) (fun e=>?_)
 ·have aC:=e
  have i:¬ x=y:=by rintro rfl;simp at e
  refine Zs c fun _ aH=>?_;refine Za rfl<|Zt aH fun a c=>?_;refine Q6<|X2<|X3 c (Xs c rfl rfl) ?_;exact ⟨by simp [i],j⟩
 have aC:=e
 have e3:x.b=y.b:=by simpa using e
 refine Q7<|aF _ _<|Zs c fun _ aI=>?_;refine Za rfl<|Zt aI fun a c=>?_
 refine Q6 (X3 c (Xs c rfl rfl) ?_)
 have he:x=y:=by cases x;cases y;simp_all
 exact ⟨by simp [he],j⟩
theorem F52(n:World)(Ap:Option Addr)(cp:Nat)(p:List Gt)(aF:Rd n n.heap.size 115 encG Ap p)(Aq:Option Addr)(cq:Nat)(q:List Gt)(aG:Rd n n.heap.size 115 encG Aq q)(aW:p.length≤2305843009213693951) : Ret Tryz.prog 40 [.slice Ap p.length cp,.slice Aq q.length cq] n (fun v w=>v=.bool (decide (p=q))∧Below n.heap.size n w):=by
 refine enter Tryz.func40 rfl 27 rfl rfl ?_;intro a c
 have i:=bz n
 refine Zs c fun _ aO=>?_;refine Za rfl<|ZX aO fun a c _ aP=>?_;refine Zs c fun _ aQ=>?_;refine Zm rfl<|Ze (X0p rfl Xb)<|Zm rfl<|Ze (X0p rfl Xb)<|Ze (X2m rfl rfl)<|Zt aQ fun a c=>?_
 refine Xj c rfl (fun f=>?_) (fun f=>?_)
 ·have aH:=f
  have aA:¬ p=q:=by intro h9;rw [h9] at f;simp at f
  refine Zs c fun _ aR=>?_;refine Za rfl<|Zt aR fun a c=>?_;refine Q6<|X2<|X3 c (Xs c rfl rfl) ?_;exact ⟨by simp [aA],i⟩
 have aH:=f
 have aX:p.length=q.length:=by have h9:(p.length:Int)=q.length:=(by simpa using f);omega
 refine Q7<|aP _ _<|Q5 fun _ aS=>?_;refine Zs c fun _ aT=>?_;refine Za rfl<|Zt aT fun a c=>?_;refine Q8<|X0a (σ:=Nat) (fun (k:Nat) (a:Act) (w:World)=>Fr a 27 [(0,.slice Ap p.length cp),(1,.slice Aq q.length cq),(5,vi (k:Int))]∧(k≤p.length)∧(p.take k=q.take k)∧Below n.heap.size n w) (fun (k:Nat)=>p.length-k) 0 ?_ ?_
 ·exact ⟨c.sb,(Qf _),(by simp),i⟩
 rintro k a w1 ⟨c,hk,j,i⟩;refine Q5 fun _ aI=>?_;refine Zs c fun _ aJ=>?_;refine Zm rfl<|Zm rfl<|Ze (X0p rfl Xb)<|Ze (X11 rfl rfl)<|Zt aJ fun a c=>?_
 refine Xj c rfl (fun d=>?_) (fun d=>?_)
 ·have aB:=d;have d:=Q2 d
  obtain ⟨g,m⟩:=Xf (l:=p) (k:=k) (by omega)
  obtain ⟨v9,o⟩:=Xf (l:=q) (k:=k) (by omega)
  refine Q7<|aI _ _<|Q5 fun _ aK=>?_;refine Q8<|Q5 fun _ aL=>?_;refine X0d none (fun _=>false) mixed ?_;intro w2 hE;have i:=btr i hE;refine Yb c<|Yo 0 rfl (fun _=>Xa rfl)<|Yo 1 rfl (fun _=>Xa rfl)<|Yi (k:=k) (u:=g) (enc:=encG) (l:=p) 2 rfl trivial rfl rfl Xb X0h X9 (aF.below' i) m rfl ?_;intro aY aC;refine Ye 3 rfl (Xw (l:=[vi g.k,vi g.a,vi g.b]) rfl X0f aC rfl)<|Yo 4 rfl (fun _=>Xa rfl)<|Yo 5 rfl (fun _=>Xa rfl)<|Yi (k:=k) (u:=v9) (enc:=encG) (l:=q) 6 rfl trivial rfl rfl Xb X0h X9 (aG.below' i) o rfl ?_;intro aZ aD;refine Ye 7 rfl (Xw (l:=[vi v9.k,vi v9.a,vi v9.b]) rfl X0f aD rfl)<|Y1 8 ?_;refine Yk rfl trivial (Vc (Y11 _ g v9) Xxo) (fun _ _ ⟨_,hE⟩=>hE) ?_;rintro _ w3 ⟨rfl,hE⟩;have i:=btr i hE;refine Yo 9 rfl (fun _=>X0x rfl) ?_;refine Yd fun a c=>?_;refine aL _ _ ?_
  refine Xj c rfl (fun e=>?_) (fun e=>?_)
  ·have aE:=e
   have aA:¬ p=q:=by rintro rfl;rw [m] at o;injection o with e9;revert e;simp [e9]
   refine Zs c fun _ aM=>?_;refine Za rfl<|Zt aM fun a c=>?_;refine Q6<|Xm<|X2<|X2 ?_;refine Xm<|X2<|X3 c (Xs c rfl rfl) ?_;exact ⟨by simp [aA],i⟩
  have aE:=e
  have aU:g=v9:=by revert e;simp
  refine Q7<|Xq<|aK _ _<|Zr c ?_;refine Zm rfl<|Ze (X00 rfl rfl (by omega) (by omega))<|Za rfl ?_;refine Zn fun a c=>?_;refine Xo ?_;exact ⟨k+1,⟨c.sb,(by omega),(X8k j m o aU),i⟩,(by omega)⟩
 have aB:=d;have d:=Q1 d;refine Q9<|Xn<|Xn<|X06 ?_;refine aS _ _<|Zs c fun _ aN=>?_;refine Za rfl<|Zt aN fun a c=>?_
 refine Q6 (X3 c (Xs c rfl rfl) ?_)
 have he:p=q:=by rw [Qi (by omega),Qi (by omega)] at j;exact j
 exact ⟨by simp [he],i⟩
theorem Y1p(w0:World)(n:Int)(g:Gt)(s0:Int)(hg:gOk n g=true)(aF:9≤g.k∧g.k≤11) : Ret Tryz.prog 128 [vi n,.agg #[vi g.k,vi g.a,vi g.b],vi s0] w0 (fun v w=>v=vi (toS n g s0)∧Below w0.heap.size w0 w):=by
 have aB:=X1i hg
 have aO:=aB.2.2.1 (by omega)
 have aP:=aB.2.2.2 aF;refine enter Tryz.func128 rfl 51 rfl rfl ?_;intro a d
 have m:=bz w0
 refine Zs d fun _ aG=>?_;refine Zf (X0i (zs:=[vi g.k,vi g.a,vi g.b]) rfl rfl) ?_;rintro _ w1 ⟨b2,rfl,aH,hE,e⟩;have aN:=Q0 m.size aH;have m:=btr m hE;refine Za rfl<|ZX aG fun a d _ aI=>?_;refine X0d none (fun _=>false) mixed ?_;intro w2 hE;have e:=e.below hE;have m:=btr m hE;refine Yb d<|Yo 0 rfl (fun _=>Xa rfl)<|Yo 1 rfl (fun _=>Xa rfl)<|Yo 2 rfl (fun _=>Vd rfl X0k 1)<|Ye 3 rfl (X0 rfl X7 (e.at 1))<|Yo 5 rfl (fun _=>Xa rfl)<|Yo 6 rfl (fun _=>Xa rfl)<|Yo 7 rfl (fun _=>Vd rfl X10 2)<|Ye 8 rfl (X0 rfl X7 (e.at 2))<|Y1 4 ?_;refine Yz rfl trivial (Vc (Xk4 _ n s0 g.a (by omega) (by omega) (by omega)) X7p) ?_;refine Y1 9<|Yz rfl trivial (Vc (Xk4 _ n s0 g.b (by omega) (by omega) (by omega)) X7p) ?_;refine Yo 10 rfl (fun _=>X19 rfl)<|Yo 11 rfl (fun _=>X19 rfl) ?_;refine Yd fun a d=>?_;refine aI _ _<|Q5 fun _ aJ=>?_;refine Q8<|Q5 fun _ aK=>?_;refine X0l (fun a w=>Fr a 51 [(0,vi n),(2,vi s0),(4,.pointer (some ⟨b2,0,none⟩)),(7,vi (bitF n s0 g.a)),(8,vi (bitF n s0 g.b)),(19,.bool ((g.k==9)&&((bitF n s0 g.a)==1)))]∧w2=w) ?_ ?_
 ·refine Zr d<|Ze (Vd rfl X0o 0)<|Ze (X0 rfl X7 (e.at 0))<|Ze (X16 rfl rfl)<|Zm rfl ?_
  refine Zg 23 rfl (fun f=>?_) (fun f=>?_)
  ·refine Zv (gW f) (Xa rfl) ?_;refine Zv (gW f) (X16 rfl rfl) ?_;refine Ze (Xl rfl f rfl)<|Za rfl ?_;refine Zn fun a d=>?_;exact ⟨d.sub ⟨rfl,rfl,rfl,rfl,rfl,X1 rfl (by first|rfl|(simp only [f,bs];done)|simp [f]),trivial⟩,rfl⟩
  refine Zp (gP f) ?_;refine Zp (gP f) ?_;refine Ze (Xe rfl f rfl)<|Za rfl ?_;refine Zn fun a d=>?_;exact ⟨d.sub ⟨rfl,rfl,rfl,rfl,rfl,X1 rfl (by first|rfl|(simp only [f,bs];done)|simp [f]),trivial⟩,rfl⟩
 rintro a _ ⟨d,rfl⟩;refine aK _ _ ?_
 refine Xj d rfl (fun l=>?_) (fun l=>?_)
 ·have i:=l
  have h9:g.k=9∧bitF n s0 g.a=1:=by simpa using l
  refine Zs d fun _ aL=>?_;refine Zm rfl<|Zm rfl<|Ze (Vd rfl X10 2)<|Ze (X0 rfl X7 (e.at 2))<|Zf (Vc (Xsp _ n s0 g.b (by omega) (by omega) (by omega)) Xd3) ?_;rintro _ _ ⟨rfl,rfl⟩;refine Za rfl<|Zt aL fun a d=>?_;refine Q6<|Xm<|X2<|X3 d (Xs d rfl rfl) ?_;exact ⟨by rw [toS,Q4 h9.1,Q4 h9.2],m⟩
 have i:=l
 have h9:g.k=9→¬ bitF n s0 g.a=1:=by simpa using l
 refine Q5 fun _ aM=>?_;refine X0l (fun a w=>Fr a 51 [(0,vi n),(2,vi s0),(4,.pointer (some ⟨b2,0,none⟩)),(32,.bool ((g.k==11)&&((bitF n s0 g.a) != (bitF n s0 g.b))))]∧w2=w) ?_ ?_
 ·refine Zr d<|Ze (Vd rfl X0o 0)<|Ze (X0 rfl X7 (e.at 0))<|Ze (X16 rfl rfl)<|Zm rfl ?_
  refine Zg 36 rfl (fun c=>?_) (fun c=>?_)
  ·refine Zv (gW c) (Xa rfl) ?_;refine Zv (gW c) (Xa rfl) ?_;refine Zv (gW c) (X2m rfl rfl) ?_;refine Ze (Xl rfl c rfl)<|Za rfl ?_;refine Zn fun a d=>?_;exact ⟨d.sub ⟨rfl,rfl,rfl,X1 rfl (by first|rfl|(simp only [i,c,bs];done)|simp [i,c]),trivial⟩,rfl⟩
  refine Zp (gP c) ?_;refine Zp (gP c) ?_;refine Zp (gP c) ?_;refine Ze (Xe rfl c rfl)<|Za rfl ?_;refine Zn fun a d=>?_;exact ⟨d.sub ⟨rfl,rfl,rfl,X1 rfl (by first|rfl|(simp only [i,c,bs];done)|simp [i,c]),trivial⟩,rfl⟩
 rintro a _ ⟨d,rfl⟩;refine aM _ _ ?_
 refine Xj d rfl (fun j=>?_) (fun j=>?_)
 ·have aA:=j
  have o:g.k=11∧¬ bitF n s0 g.a=bitF n s0 g.b:=by simpa using j
  refine Q5 fun _ aC=>?_;refine X0d none (fun _=>false) mixed ?_;intro w3 hE;have e:=e.below hE;have m:=btr m hE;refine Yb d<|Yo 0 rfl (fun _=>Xa rfl)<|Yo 1 rfl (fun _=>Xa rfl)<|Yo 2 rfl (fun _=>Xa rfl)<|Yo 3 rfl (fun _=>Vd rfl X0k 1)<|Ye 4 rfl (X0 rfl X7 (e.at 1))<|Yo 6 rfl (fun _=>Vd rfl X10 2)<|Ye 7 rfl (X0 rfl X7 (e.at 2))<|Y1 5 ?_;refine Yz rfl trivial (Vc (Xsp _ n s0 g.a (by omega) (by omega) (by omega)) Xd3) ?_;refine Y1 8<|Yz rfl trivial (Vc (Xsp _ n (flipF n s0 g.a) g.b (by omega) (by omega) (by omega)) Xd3) ?_;refine Yo 9 rfl (fun _=>X19 rfl) ?_;refine Yd fun a d=>?_;refine aC _ _<|Q6<|Xm<|X2 ?_;refine X3 d (Xs d rfl rfl) ?_;exact ⟨by rw [toS,Q3 (by omega),Q4 o.1,Q4 o.2],m⟩
 have aA:=j
 have o:g.k=11→bitF n s0 g.a=bitF n s0 g.b:=by simpa using j
 refine Q7<|Xq<|aJ _ _<|Zs d fun _ aD=>?_;refine Zm rfl<|Za rfl<|Zt aD fun a d=>?_
 refine Q6 (X3 d (Xs d rfl rfl) ?_)
 have aE:toS n g s0=s0:=by unfold toS;split;rw [Q3 (h9 (by assumption))];split;rw [Q3 (by simpa using o (by assumption))];rfl
 exact ⟨by rw [aE],m⟩
def entI(p:Int×Int×Nat) : MapEntry:={ key:=.int .i64 p.1,val:=.int .i64 p.2.1,born:=p.2.2 }
def MapI(w:World)(b:Nat)(l:List (Int×Int×Nat))(clock:Nat) : Prop:=w.heap[b]? = some (.map (l.map entI).toArray clock)
theorem X7a{k:IntKind}{x:Int} : ∀ (l:List (Int×Int×Nat)) (i:Nat),(l.all fun p=>p.1 != x)=true→Instr.findNow (.int k) (.int .i64 x) (l.map entI) i=some none
 | [],_,_=>rfl
 | p::l,i,h=>by
  simp only [List.all_cons,Qd,bne_iff_ne] at h
  have h1:(x==p.1)=false:=by simpa using Ne.symm h.1
  simp only [List.map_cons,Instr.findNow,entI,Instr.sameNow,if_true,h1]
  exact X7a l (i+1) h.2
theorem X6k{k:IntKind}{x v:Int} : ∀ (l:List (Int×Int×Nat)) (i:Nat),(l.find? fun p=>p.1==x).map (fun p=>p.2.1)=some v→∃ j,Instr.findNow (.int k) (.int .i64 x) (l.map entI) i=some (some (j,.int .i64 v))
 | [],_,h=>by cases h
 | p::l,i,h=>by
  by_cases hx:p.1=x
  ·refine ⟨i,?_⟩
   have h1:(p.1==x)=true:=by simpa using hx
   simp only [List.find?_cons,h1,Option.map_some,Option.some.injEq] at h
   have h2:(x==p.1)=true:=by simpa using hx.symm
   simp only [List.map_cons,Instr.findNow,entI,Instr.sameNow,if_true,h2,h]
  ·have h1:(p.1==x)=false:=by simpa using hx
   simp only [List.find?_cons,h1] at h
   obtain ⟨j,hj⟩:=X6k (k:=k) l (i+1) h
   refine ⟨j,?_⟩
   have h2:(x==p.1)=false:=by simpa using fun e=>hx e.symm
   simp only [List.map_cons,Instr.findNow,entI,Instr.sameNow,if_true,h2]
   exact hj
theorem MapI.below{w w':World}{b clock:Nat}{l:List (Int×Int×Nat)}(h:MapI w b l clock)(hb:Below w.heap.size w w') : MapI w' b l clock:=by
 have hlt:b<w.heap.size:=by
  rcases W4 b w.heap.size with h'|h'
  ·exact h'
  ·simp [MapI,We h'] at h
 exact (hb.block b hlt).trans h
theorem MapI.only{w w':World}{b b' clock:Nat}{l:List (Int×Int×Nat)}(h:MapI w b l clock)(ho:Only b' w w')(hne:b≠b') : MapI w' b l clock:=(ho.block b hne).trans h
theorem MapI.ne{w:World}{b b' clock:Nat}{l:List (Int×Int×Nat)}{T:TypeId}{cs:List Value}(h:MapI w b l clock)(hb:Blk w b' T cs) : b≠b':=by
 rintro rfl
 unfold MapI at h
 unfold Blk at hb
 rw [h] at hb
 cases hb
section
variable {P : Program} {a : Act} {w : World} {n : Nat} {e : Env} {ty : TypeId} {pos : String} {af : Array Edge} {g : Option (Nat × Bool)} {d : Option Tmp}
theorem X9p{T:TypeId} : Ef P ⟨d,.makeMap T none,ty,pos,af,g⟩ a w (fun v w'=>∃ b,v=.map (some b)∧w.heap.size≤b∧Below w.heap.size w w'∧MapI w' b [] 0):=by
 refine (Ef.of_run (v:=.map (some w.heap.size)) (w':=w.alloc (.map #[] 0)) ?_).mono fun v w' ⟨e1,e2⟩=>?_
 ·rfl
 ·subst e1;subst e2
  exact ⟨_,rfl,Qb _,(Below.refl _ _).alloc (Qb _) _,heap_alloc_new w _⟩
theorem Xpe{n:Nat}{e:List (Nat×Value)}{T:TypeId} : EfW P ⟨d,.makeMap T none,ty,pos,af,g⟩ n e w (fun v w'=>∃ b,v=.map (some b)∧w.heap.size≤b∧Below w.heap.size w w'∧MapI w' b [] 0):=fun a _=>X9p
theorem Xl0{T K E:TypeId}{m x y:Operand}{b clock:Nat}{l:List (Int×Int×Nat)}{i j:Int}(hf:Fr a n e)(hm:ev e m=some (.map (some b)))(hx:ev e x=some (.int .i64 i))(hy:ev e y=some (.int .i64 j))(hT:P.underlying T=some (.map K E))(hK:P.underlying K=some (.int .i64))(hM:MapI w b l clock)(hnew:(l.all fun p=>p.1 != i)=true) :
  Ef P ⟨d,.insert T m x y,ty,pos,af,g⟩ a w (fun _ w'=>Only b w w'∧MapI w' b (l++[(i,j,clock)]) (clock+1)):=by
 have hfind:=X7a (k:=.i64) l 0 hnew
 have hck:(Instr.checkKey false 10000 K (.int .i64 i)).run P w=.ok () w:=MapKept.run_checkKey hK (show MapKept.IsKey (.int .i64) (.int .i64 i) from rfl) false 9999
 have hlt:b<w.heap.size:=by
  rcases W4 b w.heap.size with h'|h'
  ·exact h'
  ·simp [MapI,We h'] at hM
 unfold MapI at hM
 refine (Ef.of_skip (w':={ w with heap:=w.heap.setIfInBounds b (.map ((l++[(i,j,clock)]).map entI).toArray (clock+1)) }) ?_).mono fun v w' ⟨_,e2⟩=>?_
 ·simp [execOp,Instr.mapUpdate,hf.ev hm,hf.ev hx,hf.ev hy,X13 hT,getObj,hM,hck,Instr.findKey,X13 hK,hfind,setObj,Sem.run,entI]
 ·subst e2
  refine ⟨⟨rfl,rfl,rfl,by simp,fun k hk=>?_⟩,?_⟩
  ·show (w.heap.setIfInBounds b _)[k]? = _
   rw [Wh (Ne.symm hk)]
  ·show (w.heap.setIfInBounds b _)[b]? = _
   simp [hlt]
theorem X70{T K E:TypeId}{m x y:Operand}{b clock:Nat}{l:List (Int×Int×Nat)}{i j:Int}(hm:ev e m=some (.map (some b)))(hx:ev e x=some (.int .i64 i))(hy:ev e y=some (.int .i64 j))(hT:P.underlying T=some (.map K E))(hK:P.underlying K=some (.int .i64))(hM:MapI w b l clock)(hnew:(l.all fun p=>p.1 != i)=true) : EfW P ⟨d,.insert T m x y,ty,pos,af,g⟩ n e w (fun _ w'=>Only b w w'∧MapI w' b (l++[(i,j,clock)]) (clock+1)):=fun a hf=>Xl0 hf hm hx hy hT hK hM hnew
theorem Xlc{T K E:TypeId}{m x:Operand}{b clock:Nat}{l:List (Int×Int×Nat)}{i v:Int}(hf:Fr a n e)(hm:ev e m=some (.map (some b)))(hx:ev e x=some (.int .i64 i))(hT:P.underlying T=some (.map K E))(hK:P.underlying K=some (.int .i64))(hM:MapI w b l clock)(hv:(l.find? fun p=>p.1==i).map (fun p=>p.2.1)=some v) :
  Ev P ⟨d,.lookup T m x false,ty,pos,af,g⟩ a w (.int .i64 v):=fun w' hw=>by
 obtain ⟨j,hj⟩:=X6k (k:=.i64) l 0 hv
 have hM':=hM.below hw
 have hck:∀ em,(Instr.checkKey em 10000 K (.int .i64 i)).run P w'=.ok () w':=fun em=>MapKept.run_checkKey hK (show MapKept.IsKey (.int .i64) (.int .i64 i) from rfl) em 9999
 unfold MapI at hM'
 simp [execOp,Instr.lookup,hf.ev hm,hf.ev hx,X13 hT,getObj,Sem.run,hM',hck,Instr.findKey,X13 hK,hj]
theorem Xqj{T K E:TypeId}{m x:Operand}{b clock:Nat}{l:List (Int×Int×Nat)}{i v:Int}(hm:ev e m=some (.map (some b)))(hx:ev e x=some (.int .i64 i))(hT:P.underlying T=some (.map K E))(hK:P.underlying K=some (.int .i64))(hM:MapI w b l clock)(hv:(l.find? fun p=>p.1==i).map (fun p=>p.2.1)=some v) : EvW P ⟨d,.lookup T m x false,ty,pos,af,g⟩ n e w (.int .i64 v):=fun a hf=>Xlc hf hm hx hT hK hM hv
end
theorem Y0x(w0:World)(k:Int)(i:Int)(j:Int)(hk:1≤k∧k≤8)(hj:j=0∨j=1) : Ret Tryz.prog 132 [vi k,vi i,vi j] w0 (fun v w=>v=dV (entryI k i j)∧Below w0.heap.size w0 w):=by
 refine enter Tryz.func132 rfl 67 rfl rfl ?_;intro a f
 have m:=bz w0
 refine Zs f fun _ aR=>?_;refine Zf (X8 (zs:=[vi 0,vi 0,vi 0,vi 0,vi 0]) X1l rfl) ?_;rintro _ w1 ⟨b2,rfl,aS,E,e⟩;have D:=Q0 m.size aS;have m:=btr m E;refine Zx aR fun a f _ aT=>?_;refine Ze (Xg (ps:=[(0,vi 1)]) (cs:=[vi 1,vi 0,vi 0,vi 0]) rfl (fun _=>by first|rfl|kernel_rfl))<|Ze (Xg (ps:=[(0,.agg #[vi 1,vi 0,vi 0,vi 0]),(1,vi 1)]) (cs:=[vi 1,vi 0,vi 0,vi 0,vi 1]) rfl (fun _=>by first|rfl|kernel_rfl))<|Zf (X8 (zs:=[vi 0,vi 0,vi 0,vi 0,vi 0]) X1l rfl) ?_;rintro _ w2 ⟨b4,rfl,aU,E,n⟩
 have aQ:b2≠b4:=by have:=e.lt;omega
 have U:=Q0 m.size aU;have e:=e.below E;have m:=btr m E;refine Zo (Vw [vi 1,vi 0,vi 0,vi 0,vi 1] X04 n) ?_;rintro _ w3 ⟨p,G⟩;have C:=n;have e:=e.only p (by omega);have m:=Below.only m p U;have n:=G;refine Zx aT fun a f _ aW=>?_;refine Zf (Xpe) ?_;rintro _ w4 ⟨b6,rfl,aX,E,t⟩;have H:=Q0 m.size aX;have e:=e.below E;have n:=n.below E;have m:=btr m E;refine Zo (X70 (l:=[]) (clock:=0) rfl rfl rfl Tryz.underlying206 Tryz.underlying3 t rfl) ?_;rintro _ w5 ⟨p,q⟩;have e:=e.only p (Ne.symm (t.ne e));have n:=n.only p (Ne.symm (t.ne n));have m:=Below.only m p H
 have t:=q;clear q p;refine Zo (X70 (l:=[(4,4,0)]) (clock:=1) rfl rfl rfl Tryz.underlying206 Tryz.underlying3 t rfl) ?_;rintro _ w6 ⟨p,q⟩;have e:=e.only p (Ne.symm (t.ne e));have n:=n.only p (Ne.symm (t.ne n));have m:=Below.only m p H
 have t:=q;clear q p;refine Zo (X70 (l:=[(4,4,0),(5,2,1)]) (clock:=2) rfl rfl rfl Tryz.underlying206 Tryz.underlying3 t rfl) ?_;rintro _ w7 ⟨p,q⟩;have e:=e.only p (Ne.symm (t.ne e));have n:=n.only p (Ne.symm (t.ne n));have m:=Below.only m p H
 have t:=q;clear q p;refine Zo (X70 (l:=[(4,4,0),(5,2,1),(6,6,2)]) (clock:=3) rfl rfl rfl Tryz.underlying206 Tryz.underlying3 t rfl) ?_;rintro _ w8 ⟨p,q⟩;have e:=e.only p (Ne.symm (t.ne e));have n:=n.only p (Ne.symm (t.ne n));have m:=Below.only m p H
 have t:=q;clear q p;refine Zo (X70 (l:=[(4,4,0),(5,2,1),(6,6,2),(7,1,3)]) (clock:=4) rfl rfl rfl Tryz.underlying206 Tryz.underlying3 t rfl) ?_;rintro _ w9 ⟨p,q⟩;have e:=e.only p (Ne.symm (t.ne e));have n:=n.only p (Ne.symm (t.ne n));have m:=Below.only m p H
 have t:=q;clear q p;refine Zm rfl<|Za rfl<|ZX aW fun a f _ aY=>?_;refine Q8<|Zs f fun _ aZ=>?_;refine Zm rfl<|Ze (X16 rfl rfl)<|Za rfl<|Zt aZ fun a f=>?_
 refine Xj f rfl (fun Q=>?_) (fun Q=>?_)
 ·have g:=Q
  have W:k=1:=by simpa using Q
  refine Q5 fun _ aA=>?_;refine Q5 fun _ aE=>?_;refine X0l (fun a w=>Fr a 67 [(6,.pointer (some ⟨b2,0,none⟩)),(7,.pointer (some ⟨b4,0,none⟩)),(21,.bool ((i==1)&&(j==1)))]∧w9=w) ?_ ?_
  ·refine Zr f<|Zm rfl<|Ze (X16 rfl rfl)<|Zm rfl ?_
   refine Zg 18 rfl (fun A=>?_) (fun A=>?_)
   ·refine Zv (gW A) (Xa rfl) ?_;refine Zv (gW A) (X16 rfl rfl) ?_;refine Ze (Xl rfl A rfl) ?_;refine Zn fun a f=>?_;exact ⟨f.sub ⟨rfl,rfl,X1 rfl (by first|rfl|(simp only [g,A,bs];done)|simp [g,A]),trivial⟩,rfl⟩
   refine Zp (gP A) ?_;refine Zp (gP A) ?_;refine Ze (Xe rfl A rfl) ?_;refine Zn fun a f=>?_;exact ⟨f.sub ⟨rfl,rfl,X1 rfl (by first|rfl|(simp only [g,A,bs];done)|simp [g,A]),trivial⟩,rfl⟩
  rintro a _ ⟨f,rfl⟩;refine aE _ _ ?_
  refine Xj f rfl (fun I=>?_) (fun I=>?_)
  ·have aB:=I
   have u:entryI k i j=⟨⟨-1,0,0,0⟩,1⟩:=by rw [entryI,Q4 W,Q4 (by simpa using I)]
   refine Zr f<|Ze (Vd rfl X1f 0)<|Ze (Vd rfl X0n 0)<|Zo (Vu (vs:=[vi (-1)]) (l':=[vi (-1),vi 0,vi 0,vi 0,vi 1]) rfl rfl X1k n) ?_;rintro _ b1 ⟨p,G⟩;have C:=n;have e:=e.only p (by omega);have m:=Below.only m p U;have n:=G;refine Zx aA fun a f _ aF=>?_;refine Ze (Vn Xr n)<|Zo (Vw [vi (-1),vi 0,vi 0,vi 0,vi 1] X04 e) ?_;rintro _ b3 ⟨p,G⟩;have C:=e;have m:=Below.only m p D;have e:=G;refine Zt aF fun a f=>?_;refine Q6<|Xm<|X2<|X3 f (Xs f rfl (ResV.cellN (l:=[vi (-1),vi 0,vi 0,vi 0,vi 1]) rfl Xr (e.at 0) rfl)) ?_;exact ⟨(by rw [u];try rfl),m⟩
  have aB:=I
  have u:entryI k i j=dHalf:=by rw [entryI,Q4 W,Q3 (by simpa using I)]
  refine Q7<|aA _ _<|Zs f fun _ aG=>?_;refine Ze (Vn Xr n)<|Zo (Vw [vi 1,vi 0,vi 0,vi 0,vi 1] X04 e) ?_;rintro _ b5 ⟨p,G⟩;have C:=e;have m:=Below.only m p D;have e:=G;refine Zt aG fun a f=>?_;refine Q6<|Xm<|X2<|X3 f (Xs f rfl (ResV.cellN (l:=[vi 1,vi 0,vi 0,vi 0,vi 1]) rfl Xr (e.at 0) rfl)) ?_;exact ⟨(by rw [u];try rfl),m⟩
 have g:=Q
 have W:¬ k=1:=by simpa using Q
 refine Q5 fun _ aH=>?_;refine X0l (fun a w=>Fr a 67 [(0,vi k),(1,vi i),(2,vi j),(6,.pointer (some ⟨b2,0,none⟩)),(8,.map (some b6)),(25,.bool ((k==2)&&(i != j)))]∧w9=w) ?_ ?_
 ·refine Zr f<|Zm rfl<|Ze (X16 rfl rfl)<|Zm rfl ?_
  refine Zg 28 rfl (fun x=>?_) (fun x=>?_)
  ·refine Zv (gW x) (Xa rfl) ?_;refine Zv (gW x) (Xa rfl) ?_;refine Zv (gW x) (X2m rfl rfl) ?_;refine Ze (Xl rfl x rfl)<|Za rfl ?_;refine Zn fun a f=>?_;exact ⟨f.sub ⟨rfl,rfl,rfl,rfl,rfl,X1 rfl (by first|rfl|(simp only [g,x,bs];done)|simp [g,x]),trivial⟩,rfl⟩
  refine Zp (gP x) ?_;refine Zp (gP x) ?_;refine Zp (gP x) ?_;refine Ze (Xe rfl x rfl)<|Za rfl ?_;refine Zn fun a f=>?_;exact ⟨f.sub ⟨rfl,rfl,rfl,rfl,rfl,X1 rfl (by first|rfl|(simp only [g,x,bs];done)|simp [g,x]),trivial⟩,rfl⟩
 rintro a _ ⟨f,rfl⟩;refine aH _ _ ?_
 refine Xj f rfl (fun J=>?_) (fun J=>?_)
 ·have o:=J
  have u:entryI k i j=⟨⟨1,0,0,0⟩,0⟩:=by rw [entryI,Q3 W,Q4 (by simpa using J)]
  refine Zs f fun _ aI=>?_;refine Zf (Vc (Xw1 _ 1) Xg7) ?_;rintro _ b7 ⟨rfl,E⟩;have e:=e.below E;have m:=btr m E;refine Zo (Vw [vi ((⟨⟨1,0,0,0⟩,0⟩ : Dy).num.a),vi ((⟨⟨1,0,0,0⟩,0⟩ : Dy).num.b),vi ((⟨⟨1,0,0,0⟩,0⟩ : Dy).num.c),vi ((⟨⟨1,0,0,0⟩,0⟩ : Dy).num.d),vi ((⟨⟨1,0,0,0⟩,0⟩ : Dy).exp)] X04 e) ?_;rintro _ b8 ⟨p,G⟩;have C:=e;have m:=Below.only m p D;have e:=G;refine Zt aI fun a f=>?_;refine Q6<|Xm<|X2<|X3 f (Xs f rfl (ResV.cellN (l:=[vi ((⟨⟨1,0,0,0⟩,0⟩ : Dy).num.a),vi ((⟨⟨1,0,0,0⟩,0⟩ : Dy).num.b),vi ((⟨⟨1,0,0,0⟩,0⟩ : Dy).num.c),vi ((⟨⟨1,0,0,0⟩,0⟩ : Dy).num.d),vi ((⟨⟨1,0,0,0⟩,0⟩ : Dy).exp)]) rfl Xr (e.at 0) rfl)) ?_;exact ⟨(by rw [u];try rfl),m⟩
 have o:=J
 have e2:¬ (k=2∧i≠j):=by simpa using J
 refine Q5 fun _ aJ=>?_;refine X0l (fun a w=>Fr a 67 [(0,vi k),(1,vi i),(2,vi j),(6,.pointer (some ⟨b2,0,none⟩)),(8,.map (some b6)),(34,.bool ((k==3)&&(i != j)))]∧w9=w) ?_ ?_
 ·refine Zr f<|Zm rfl<|Ze (X16 rfl rfl)<|Zm rfl ?_
  refine Zg 37 rfl (fun y=>?_) (fun y=>?_)
  ·refine Zv (gW y) (Xa rfl) ?_;refine Zv (gW y) (Xa rfl) ?_;refine Zv (gW y) (X2m rfl rfl) ?_;refine Ze (Xl rfl y rfl)<|Za rfl ?_;refine Zn fun a f=>?_;exact ⟨f.sub ⟨rfl,rfl,rfl,rfl,rfl,X1 rfl (by first|rfl|(simp only [g,o,y,bs];done)|simp [g,o,y]),trivial⟩,rfl⟩
  refine Zp (gP y) ?_;refine Zp (gP y) ?_;refine Zp (gP y) ?_;refine Ze (Xe rfl y rfl)<|Za rfl ?_;refine Zn fun a f=>?_;exact ⟨f.sub ⟨rfl,rfl,rfl,rfl,rfl,X1 rfl (by first|rfl|(simp only [g,o,y,bs];done)|simp [g,o,y]),trivial⟩,rfl⟩
 rintro a _ ⟨f,rfl⟩;refine aJ _ _ ?_
 refine Xj f rfl (fun L=>?_) (fun L=>?_)
 ·have B:=L
  have b0:k=3∧i≠j:=(by simpa using L)
  have u:entryI k i j=dPow (2+4*j):=by rw [entryI,Q3 W,Q3 e2,Q4 b0]
  refine Zs f fun _ aK=>?_;refine Zm rfl<|Ze (Xfb rfl rfl (by omega) (by omega))<|Ze (X00 rfl rfl (by omega) (by omega))<|Zf (Vc (Xeq _ (2+(4*j)) (X01.2 ⟨by omega,by omega⟩)) X4s) ?_;rintro _ b9 ⟨rfl,E⟩;have e:=e.below E;have m:=btr m E;refine Zo (Vw [vi ((dPow (2+(4*j))).num.a),vi ((dPow (2+(4*j))).num.b),vi ((dPow (2+(4*j))).num.c),vi ((dPow (2+(4*j))).num.d),vi ((dPow (2+(4*j))).exp)] X04 e) ?_;rintro _ bC ⟨p,G⟩;have C:=e;have m:=Below.only m p D;have e:=G;refine Zt aK fun a f=>?_;refine Q6<|Xm<|X2<|X3 f (Xs f rfl (ResV.cellN (l:=[vi ((dPow (2+(4*j))).num.a),vi ((dPow (2+(4*j))).num.b),vi ((dPow (2+(4*j))).num.c),vi ((dPow (2+(4*j))).num.d),vi ((dPow (2+(4*j))).exp)]) rfl Xr (e.at 0) rfl)) ?_;exact ⟨(by rw [u];try rfl),m⟩
 have B:=L
 have e3:¬ (k=3∧i≠j):=by simpa using L
 refine Q5 fun _ aL=>?_;refine X0l (fun a w=>Fr a 67 [(0,vi k),(1,vi i),(6,.pointer (some ⟨b2,0,none⟩)),(8,.map (some b6)),(46,.bool (((k==2)||(k==3))||(i != j)))]∧w9=w) ?_ ?_
 ·refine Zr f<|Zm rfl<|Ze (X16 rfl rfl)<|Zm rfl ?_
  refine Zg 49 rfl (fun z=>?_) (fun z=>?_)
  ·refine Zp (gP z) ?_;refine Zp (gP z) ?_;refine Ze (Xl rfl z rfl)<|Zm rfl<|Zp (gP rfl) ?_;refine Zp (gP rfl) ?_;refine Zp (gP rfl) ?_;refine Ze (Xl rfl rfl rfl)<|Za rfl ?_;refine Zn fun a f=>?_;exact ⟨f.sub ⟨rfl,rfl,rfl,rfl,X1 rfl (by first|rfl|(simp only [g,o,B,z,bs];done)|simp [g,o,B,z]),trivial⟩,rfl⟩
  refine Zv (gW z) (Xa rfl) ?_;refine Zv (gW z) (X16 rfl rfl) ?_;refine Ze (Xe rfl z rfl)<|Zm rfl ?_
  refine Zg 53 rfl (fun h=>?_) (fun h=>?_)
  ·refine Zp (gP h) ?_;refine Zp (gP h) ?_;refine Zp (gP h) ?_;refine Ze (Xl rfl h rfl)<|Za rfl ?_;refine Zn fun a f=>?_;exact ⟨f.sub ⟨rfl,rfl,rfl,rfl,X1 rfl (by first|rfl|(simp only [g,o,B,z,h,bs];done)|simp [g,o,B,z,h]),trivial⟩,rfl⟩
  refine Zv (gW h) (Xa rfl) ?_;refine Zv (gW h) (Xa rfl) ?_;refine Zv (gW h) (X2m rfl rfl) ?_;refine Ze (Xe rfl h rfl)<|Za rfl ?_;refine Zn fun a f=>?_;exact ⟨f.sub ⟨rfl,rfl,rfl,rfl,X1 rfl (by first|rfl|(simp only [g,o,B,z,h,bs];done)|simp [g,o,B,z,h]),trivial⟩,rfl⟩
 rintro a _ ⟨f,rfl⟩;refine aL _ _ ?_
 refine Xj f rfl (fun M=>?_) (fun M=>?_)
 ·have aC:=M
  have u:entryI k i j=dZ:=by rw [entryI,Q3 W,Q3 e2,Q3 e3,Q4 (by simpa [or_assoc] using M)]
  refine Zs f fun _ aM=>?_;refine Ze (Xg (ps:=[]) (cs:=[vi 0,vi 0,vi 0,vi 0,vi 0]) rfl (fun _=>by first|rfl|kernel_rfl))<|Zo (Vw [vi 0,vi 0,vi 0,vi 0,vi 0] X04 e) ?_;rintro _ bD ⟨p,G⟩;have C:=e;have m:=Below.only m p D;have e:=G;refine Zt aM fun a f=>?_;refine Q6<|Xm<|X2<|X3 f (Xs f rfl (ResV.cellN (l:=[vi 0,vi 0,vi 0,vi 0,vi 0]) rfl Xr (e.at 0) rfl)) ?_;exact ⟨(by rw [u];try rfl),m⟩
 have aC:=M
 have e4:¬ (k=2∨k=3∨i≠j):=by simpa [not_or,and_assoc] using M
 refine Zs f fun _ aN=>?_;refine Zm rfl<|Ze (X16 rfl rfl)<|Za rfl<|Zt aN fun a f=>?_
 refine Xj f rfl (fun N=>?_) (fun N=>?_)
 ·have aD:=N
  have u:entryI k i j=⟨⟨1,0,0,0⟩,0⟩:=by rw [entryI,Q3 W,Q3 e2,Q3 e3,Q3 e4,Q4 (by simpa using N)]
  refine Zs f fun _ aO=>?_;refine Zf (Vc (Xw1 _ 1) Xg7) ?_;rintro _ bE ⟨rfl,E⟩;have e:=e.below E;have m:=btr m E;refine Zo (Vw [vi ((⟨⟨1,0,0,0⟩,0⟩ : Dy).num.a),vi ((⟨⟨1,0,0,0⟩,0⟩ : Dy).num.b),vi ((⟨⟨1,0,0,0⟩,0⟩ : Dy).num.c),vi ((⟨⟨1,0,0,0⟩,0⟩ : Dy).num.d),vi ((⟨⟨1,0,0,0⟩,0⟩ : Dy).exp)] X04 e) ?_;rintro _ bF ⟨p,G⟩;have C:=e;have m:=Below.only m p D;have e:=G;refine Zt aO fun a f=>?_;refine Q6<|Xm<|X2<|X3 f (Xs f rfl (ResV.cellN (l:=[vi ((⟨⟨1,0,0,0⟩,0⟩ : Dy).num.a),vi ((⟨⟨1,0,0,0⟩,0⟩ : Dy).num.b),vi ((⟨⟨1,0,0,0⟩,0⟩ : Dy).num.c),vi ((⟨⟨1,0,0,0⟩,0⟩ : Dy).num.d),vi ((⟨⟨1,0,0,0⟩,0⟩ : Dy).exp)]) rfl Xr (e.at 0) rfl)) ?_;exact ⟨(by rw [u];try rfl),m⟩
 have aD:=N
 have u:entryI k i j=dPow (turnOf k):=by rw [entryI,Q3 W,Q3 e2,Q3 e3,Q3 e4,Q3 (by simpa using N)]
 refine Q7<|Xq<|aY _ _<|Zs f fun _ aP=>?_;refine Zm rfl<|Zm rfl<|Ze (Xqj (v:=(turnOf k)) rfl rfl Tryz.underlying206 Tryz.underlying3 t (Xk7 (by omega) (by omega)))<|Zf (Vc (Xeq _ (turnOf k) (Xkf k)) X4s) ?_;rintro _ bG ⟨rfl,E⟩;have e:=e.below E;have m:=btr m E;refine Zo (Vw [vi ((dPow (turnOf k)).num.a),vi ((dPow (turnOf k)).num.b),vi ((dPow (turnOf k)).num.c),vi ((dPow (turnOf k)).num.d),vi ((dPow (turnOf k)).exp)] X04 e) ?_;rintro _ bH ⟨p,G⟩;have C:=e;have m:=Below.only m p D;have e:=G;refine Zt aP fun a f=>?_
 refine Q6 (X3 f (Xs f rfl (ResV.cellN (l:=[vi ((dPow (turnOf k)).num.a),vi ((dPow (turnOf k)).num.b),vi ((dPow (turnOf k)).num.c),vi ((dPow (turnOf k)).num.d),vi ((dPow (turnOf k)).exp)]) rfl Xr (e.at 0) rfl)) ?_)
 exact ⟨(by rw [u];try rfl),m⟩
theorem Y0u(U:World)(g:Gt)(n:Int)(ba bb:Nat)(f:Blk U ba 115 (encG g))(m:Blk U bb 3 [vi n])(hg:gOk n g=true)(i j:Int) : Ret Tryz.prog 126 [vi i,vi j,.pointer (some ⟨ba,0,none⟩),.pointer (some ⟨bb,0,none⟩)] U (fun v w=>v=.tuple #[dV (cellI n g i j),.bool true]∧Below U.heap.size U w):=by
 have aM:=f.lt;have aN:=m.lt
 unfold encG at f
 have aC:=X1i hg;have aD:=X2z n j g.a;refine enter Tryz.func126 rfl 75 rfl rfl ?_;intro a t
 have u:=bz U
 refine Zs t fun _ aO=>?_;refine Zf (X8 (zs:=[vi 0,vi 0,vi 0,vi 0,vi 0]) X1l rfl) ?_;rintro _ w1 ⟨b2,rfl,aP,y,e⟩;have B:=Q0 u.size aP;have f:=f.below y;have m:=m.below y;have u:=btr u y;refine Za rfl<|ZX aO fun a t _ aA=>?_;refine Q8<|Zs t fun _ aQ=>?_;refine Ze (Vd rfl X0o 0)<|Ze (X0 rfl X7 (f.at 0))<|Ze (X16 rfl rfl)<|Za rfl<|Zt aQ fun a t=>?_
 refine Xj t rfl (fun M=>?_) (fun M=>?_)
 ·have C:=M;have W:=eq_of_beq M;refine Zs t fun _ aR=>?_;refine Zm rfl<|Zm rfl<|Ze (X16 rfl rfl)<|Zt aR fun a t=>?_
  refine Xj t rfl (fun N=>?_) (fun N=>?_)
  ·have aE:=N
   have z:cellI n g i j=dPow 1:=by rw [cellI,Q4 W,Q4 (eq_of_beq N)]
   refine Zs t fun _ aS=>?_;refine Zf (Vc (Xeq _ 1 (by rfl)) X4s) ?_;rintro _ w2 ⟨rfl,y⟩;have e:=e.below y;have u:=btr u y;refine Zo (Vw [vi ((dPow 1).num.a),vi ((dPow 1).num.b),vi ((dPow 1).num.c),vi ((dPow 1).num.d),vi ((dPow 1).exp)] X04 e) ?_;rintro _ w3 ⟨D,L⟩;have x:=e;have u:=Below.only u D B;have e:=L;refine Za rfl<|Zt aS fun a t=>?_;refine Q6<|Xm<|X2<|X3 t (X0w t rfl (ResV.cellN (l:=[vi ((dPow 1).num.a),vi ((dPow 1).num.b),vi ((dPow 1).num.c),vi ((dPow 1).num.d),vi ((dPow 1).exp)]) rfl Xr (e.at 0) rfl) rfl) ?_;exact ⟨(by rw [z];try rfl),u⟩
  have aE:=N
  have z:cellI n g i j=dZ:=by rw [cellI,Q4 W,Q3 (X1b N)]
  refine Q7<|Xq<|aA _ _<|Zs t fun _ aT=>?_;refine Ze (Xg (ps:=[]) (cs:=[vi 0,vi 0,vi 0,vi 0,vi 0]) rfl (fun _=>by first|rfl|kernel_rfl))<|Zo (Vw [vi 0,vi 0,vi 0,vi 0,vi 0] X04 e) ?_;rintro _ w4 ⟨D,L⟩;have x:=e;have u:=Below.only u D B;have e:=L;refine Za rfl<|Zt aT fun a t=>?_
  refine Q6 (X3 t (X0w t rfl (ResV.cellN (l:=[vi 0,vi 0,vi 0,vi 0,vi 0]) rfl Xr (e.at 0) rfl) rfl) ?_)
  exact ⟨(by rw [z];try rfl),u⟩
 have C:=M;have W:=X1b M;have aW:=aC.2.2.1 W;refine Zs t fun _ aF=>?_;refine Ze (Vd rfl X0o 0)<|Ze (X0 rfl X7 (f.at 0))<|Zf (Vc (F99 _ g.k) Xaa) ?_;rintro _ _ ⟨rfl,rfl⟩;refine Za rfl<|Zt aF fun a t=>?_
 refine Xj t rfl (fun G=>?_) (fun G=>?_)
 ·have A:=G;have H:=G;have aX:=aC.2.2.2 (X01.1 H);refine Zs t fun _ aG=>?_;refine Ze (X0 rfl X7 (m.at 0))<|Ze (Xw (l:=[vi g.k,vi g.a,vi g.b]) rfl X0f (f.at 0) rfl)<|Zm rfl<|Zf (Vc (Y1p _ n g i hg (X01.1 H)) Xul) ?_;rintro _ w5 ⟨rfl,y⟩;have f:=f.below y;have m:=m.below y;have e:=e.below y;have u:=btr u y;refine Zm rfl<|Ze (X16 rfl rfl)<|Zt aG fun a t=>?_
  refine Xj t rfl (fun I=>?_) (fun I=>?_)
  ·have E:=I
   have z:cellI n g i j=dPow (4*(if czI n g i=true then 1 else 0)):=by rw [cellI,Q3 W,Q4 H,Q4 (eq_of_beq I)]
   refine Q5 fun _ aH=>?_;refine X0l (fun a w=>Fr a 75 [(6,.pointer (some ⟨b2,0,none⟩)),(7,.bool true)]∧Blk w ba 115 [vi g.k,vi g.a,vi g.b]∧Blk w bb 3 [vi n]∧Blk w b2 95 [vi ((dPow (4*(if (((g.k==10)&&((bitF n i g.a)==1))&&((bitF n i g.b)==1))=true then 1 else 0))).num.a),vi ((dPow (4*(if (((g.k==10)&&((bitF n i g.a)==1))&&((bitF n i g.b)==1))=true then 1 else 0))).num.b),vi ((dPow (4*(if (((g.k==10)&&((bitF n i g.a)==1))&&((bitF n i g.b)==1))=true then 1 else 0))).num.c),vi ((dPow (4*(if (((g.k==10)&&((bitF n i g.a)==1))&&((bitF n i g.b)==1))=true then 1 else 0))).num.d),vi ((dPow (4*(if (((g.k==10)&&((bitF n i g.a)==1))&&((bitF n i g.b)==1))=true then 1 else 0))).exp)]∧Below U.heap.size U w) ?_ ?_
   ·refine Zr t<|Ze (Vd rfl X0o 0)<|Ze (X0 rfl X7 (f.at 0))<|Ze (X16 rfl rfl)<|Zm rfl ?_
    refine Zg 29 rfl (fun p=>?_) (fun p=>?_)
    ·refine Zv (gW p) (X0 rfl X7 (m.at 0)) ?_;refine Zv (gW p) (Xa rfl) ?_;refine Zv (gW p) (Vd rfl X0k 1) ?_;refine Zv (gW p) (X0 rfl X7 (f.at 1)) ?_;refine Zk (gW p) (Vc (Xk4 _ n i g.a (by omega) (by omega) (by omega)) X7p) ?_;rintro _ _ ⟨rfl,rfl⟩;refine Zv (gW p) (X16 rfl rfl) ?_;refine Ze (Xl rfl p rfl)<|Zm rfl ?_
     refine Zg 37 rfl (fun q=>?_) (fun q=>?_)
     ·refine Zv (gW q) (X0 rfl X7 (m.at 0)) ?_;refine Zv (gW q) (Xa rfl) ?_;refine Zv (gW q) (Vd rfl X10 2) ?_;refine Zv (gW q) (X0 rfl X7 (f.at 2)) ?_;refine Zk (gW q) (Vc (Xk4 _ n i g.b (by omega) (by omega) (by omega)) X7p) ?_;rintro _ _ ⟨rfl,rfl⟩;refine Zv (gW q) (X16 rfl rfl) ?_;refine Ze (Xl rfl q rfl)<|Zf (Vc (F59 _ ((bitF n i g.b)==1)) Xjh) ?_;rintro _ _ ⟨rfl,rfl⟩;refine Ze (Xfb rfl rfl (by split<;>decide) (by split<;>decide))<|Zf (Vc (Xeq _ (4*(if ((bitF n i g.b)==1)=true then 1 else 0)) (by split<;>rfl)) X4s) ?_;rintro _ w6 ⟨rfl,y⟩;have f:=f.below y;have m:=m.below y;have e:=e.below y;have u:=btr u y;refine Zo (Vw [vi ((dPow (4*(if ((bitF n i g.b)==1)=true then 1 else 0))).num.a),vi ((dPow (4*(if ((bitF n i g.b)==1)=true then 1 else 0))).num.b),vi ((dPow (4*(if ((bitF n i g.b)==1)=true then 1 else 0))).num.c),vi ((dPow (4*(if ((bitF n i g.b)==1)=true then 1 else 0))).num.d),vi ((dPow (4*(if ((bitF n i g.b)==1)=true then 1 else 0))).exp)] X04 e) ?_;rintro _ w7 ⟨D,L⟩;have x:=e;have f:=f.only D (Blk.ne f x rfl);have m:=m.only D (Blk.ne m x rfl);have u:=Below.only u D B;have e:=L;refine Za rfl ?_;refine Zn fun a t=>?_
      have Q:(((g.k==10)&&((bitF n i g.a)==1))&&((bitF n i g.b)==1))=((bitF n i g.b)==1):=by simp [C,A,E,p,q]
      have e:Blk w7 b2 95 [vi ((dPow (4*(if (((g.k==10)&&((bitF n i g.a)==1))&&((bitF n i g.b)==1))=true then 1 else 0))).num.a),vi ((dPow (4*(if (((g.k==10)&&((bitF n i g.a)==1))&&((bitF n i g.b)==1))=true then 1 else 0))).num.b),vi ((dPow (4*(if (((g.k==10)&&((bitF n i g.a)==1))&&((bitF n i g.b)==1))=true then 1 else 0))).num.c),vi ((dPow (4*(if (((g.k==10)&&((bitF n i g.a)==1))&&((bitF n i g.b)==1))=true then 1 else 0))).num.d),vi ((dPow (4*(if (((g.k==10)&&((bitF n i g.a)==1))&&((bitF n i g.b)==1))=true then 1 else 0))).exp)]:=by rw [Q];exact e
      exact ⟨t.sb,f,m,e,u⟩
     refine Zp (gP q) ?_;refine Zp (gP q) ?_;refine Zp (gP q) ?_;refine Zp (gP q) ?_;refine Zp (gP q) ?_;refine Zp (gP q) ?_;refine Ze (Xe rfl q rfl)<|Zf (Vc (F59 _ false) Xjh) ?_;rintro _ _ ⟨rfl,rfl⟩;refine Ze (Xfb rfl rfl (by split<;>decide) (by split<;>decide))<|Zf (Vc (Xeq _ (4*(if false=true then 1 else 0)) (by split<;>rfl)) X4s) ?_;rintro _ w8 ⟨rfl,y⟩;have f:=f.below y;have m:=m.below y;have e:=e.below y;have u:=btr u y;refine Zo (Vw [vi ((dPow (4*(if false=true then 1 else 0))).num.a),vi ((dPow (4*(if false=true then 1 else 0))).num.b),vi ((dPow (4*(if false=true then 1 else 0))).num.c),vi ((dPow (4*(if false=true then 1 else 0))).num.d),vi ((dPow (4*(if false=true then 1 else 0))).exp)] X04 e) ?_;rintro _ w9 ⟨D,L⟩;have x:=e;have f:=f.only D (Blk.ne f x rfl);have m:=m.only D (Blk.ne m x rfl);have u:=Below.only u D B;have e:=L;refine Za rfl ?_;refine Zn fun a t=>?_
     have Q:(((g.k==10)&&((bitF n i g.a)==1))&&((bitF n i g.b)==1))=(false):=by simp [C,A,E,p,q]
     have e:Blk w9 b2 95 [vi ((dPow (4*(if (((g.k==10)&&((bitF n i g.a)==1))&&((bitF n i g.b)==1))=true then 1 else 0))).num.a),vi ((dPow (4*(if (((g.k==10)&&((bitF n i g.a)==1))&&((bitF n i g.b)==1))=true then 1 else 0))).num.b),vi ((dPow (4*(if (((g.k==10)&&((bitF n i g.a)==1))&&((bitF n i g.b)==1))=true then 1 else 0))).num.c),vi ((dPow (4*(if (((g.k==10)&&((bitF n i g.a)==1))&&((bitF n i g.b)==1))=true then 1 else 0))).num.d),vi ((dPow (4*(if (((g.k==10)&&((bitF n i g.a)==1))&&((bitF n i g.b)==1))=true then 1 else 0))).exp)]:=by rw [Q];exact e
     exact ⟨t.sb,f,m,e,u⟩
    refine Zp (gP p) ?_;refine Zp (gP p) ?_;refine Zp (gP p) ?_;refine Zp (gP p) ?_;refine Zp (gP p) ?_;refine Zp (gP p) ?_;refine Ze (Xe rfl p rfl)<|Zm rfl<|Zp (gP rfl) ?_;refine Zp (gP rfl) ?_;refine Zp (gP rfl) ?_;refine Zp (gP rfl) ?_;refine Zp (gP rfl) ?_;refine Zp (gP rfl) ?_;refine Ze (Xe rfl rfl rfl)<|Zf (Vc (F59 _ false) Xjh) ?_;rintro _ _ ⟨rfl,rfl⟩;refine Ze (Xfb rfl rfl (by split<;>decide) (by split<;>decide))<|Zf (Vc (Xeq _ (4*(if false=true then 1 else 0)) (by split<;>rfl)) X4s) ?_;rintro _ aY ⟨rfl,y⟩;have f:=f.below y;have m:=m.below y;have e:=e.below y;have u:=btr u y;refine Zo (Vw [vi ((dPow (4*(if false=true then 1 else 0))).num.a),vi ((dPow (4*(if false=true then 1 else 0))).num.b),vi ((dPow (4*(if false=true then 1 else 0))).num.c),vi ((dPow (4*(if false=true then 1 else 0))).num.d),vi ((dPow (4*(if false=true then 1 else 0))).exp)] X04 e) ?_;rintro _ aU ⟨D,L⟩;have x:=e;have f:=f.only D (Blk.ne f x rfl);have m:=m.only D (Blk.ne m x rfl);have u:=Below.only u D B;have e:=L;refine Za rfl ?_;refine Zn fun a t=>?_
    have Q:(((g.k==10)&&((bitF n i g.a)==1))&&((bitF n i g.b)==1))=(false):=by simp [C,A,E,p]
    have e:Blk aU b2 95 [vi ((dPow (4*(if (((g.k==10)&&((bitF n i g.a)==1))&&((bitF n i g.b)==1))=true then 1 else 0))).num.a),vi ((dPow (4*(if (((g.k==10)&&((bitF n i g.a)==1))&&((bitF n i g.b)==1))=true then 1 else 0))).num.b),vi ((dPow (4*(if (((g.k==10)&&((bitF n i g.a)==1))&&((bitF n i g.b)==1))=true then 1 else 0))).num.c),vi ((dPow (4*(if (((g.k==10)&&((bitF n i g.a)==1))&&((bitF n i g.b)==1))=true then 1 else 0))).num.d),vi ((dPow (4*(if (((g.k==10)&&((bitF n i g.a)==1))&&((bitF n i g.b)==1))=true then 1 else 0))).exp)]:=by rw [Q];exact e
    exact ⟨t.sb,f,m,e,u⟩
   rintro a aZ ⟨t,f,m,e,u⟩;refine aH _ _<|Q6<|Xm<|X2 ?_;refine X3 t (X0w t rfl (ResV.cellN (l:=[vi ((dPow (4*(if (((g.k==10)&&((bitF n i g.a)==1))&&((bitF n i g.b)==1))=true then 1 else 0))).num.a),vi ((dPow (4*(if (((g.k==10)&&((bitF n i g.a)==1))&&((bitF n i g.b)==1))=true then 1 else 0))).num.b),vi ((dPow (4*(if (((g.k==10)&&((bitF n i g.a)==1))&&((bitF n i g.b)==1))=true then 1 else 0))).num.c),vi ((dPow (4*(if (((g.k==10)&&((bitF n i g.a)==1))&&((bitF n i g.b)==1))=true then 1 else 0))).num.d),vi ((dPow (4*(if (((g.k==10)&&((bitF n i g.a)==1))&&((bitF n i g.b)==1))=true then 1 else 0))).exp)]) rfl Xr (e.at 0) rfl) rfl) ?_;exact ⟨(by rw [z];try rfl),u⟩
  have E:=I
  have z:cellI n g i j=dZ:=by rw [cellI,Q3 W,Q4 H,Q3 (X1b I)]
  refine Q7<|Xq<|aA _ _<|Zs t fun _ aI=>?_;refine Ze (Xg (ps:=[]) (cs:=[vi 0,vi 0,vi 0,vi 0,vi 0]) rfl (fun _=>by first|rfl|kernel_rfl))<|Zo (Vw [vi 0,vi 0,vi 0,vi 0,vi 0] X04 e) ?_;rintro _ b0 ⟨D,L⟩;have x:=e;have u:=Below.only u D B;have e:=L;refine Za rfl<|Zt aI fun a t=>?_
  refine Q6 (X3 t (X0w t rfl (ResV.cellN (l:=[vi 0,vi 0,vi 0,vi 0,vi 0]) rfl Xr (e.at 0) rfl) rfl) ?_)
  exact ⟨(by rw [z];try rfl),u⟩
 have A:=G
 have H:¬ inR g.k 9 11=true:=by rw [G];simp
 have b1:g.k≤8:=by have h9:¬ (9≤g.k∧g.k≤11):=(fun h=>H (X01.2 h));omega
 refine Q5 fun _ aJ=>?_;refine X0l (fun a w=>Fr a 75 [(0,vi i),(1,vi j),(2,.pointer (some ⟨ba,0,none⟩)),(3,.pointer (some ⟨bb,0,none⟩)),(6,.pointer (some ⟨b2,0,none⟩)),(48,.bool ((i==j)||((flipF n i g.a)==j)))]∧w1=w) ?_ ?_
 ·refine Zr t<|Zm rfl<|Zm rfl<|Ze (X16 rfl rfl)<|Zm rfl ?_
  refine Zg 52 rfl (fun o=>?_) (fun o=>?_)
  ·refine Zp (gP o) ?_;refine Zp (gP o) ?_;refine Zp (gP o) ?_;refine Zp (gP o) ?_;refine Zp (gP o) ?_;refine Zp (gP o) ?_;refine Zp (gP o) ?_;refine Ze (Xl rfl o rfl)<|Za rfl ?_;refine Zn fun a t=>?_;exact ⟨t.sub ⟨rfl,rfl,rfl,rfl,rfl,X1 rfl (by first|rfl|(simp only [C,A,o,bs];done)|simp [C,A,o]),trivial⟩,rfl⟩
  refine Zv (gW o) (X0 rfl X7 (m.at 0)) ?_;refine Zv (gW o) (Xa rfl) ?_;refine Zv (gW o) (Vd rfl X0k 1) ?_;refine Zv (gW o) (X0 rfl X7 (f.at 1)) ?_;refine Zk (gW o) (Vc (Xsp _ n i g.a (by omega) (by omega) (by omega)) Xd3) ?_;rintro _ _ ⟨rfl,rfl⟩;refine Zv (gW o) (Xa rfl) ?_;refine Zv (gW o) (X16 rfl rfl) ?_;refine Ze (Xe rfl o rfl)<|Za rfl ?_;refine Zn fun a t=>?_;exact ⟨t.sub ⟨rfl,rfl,rfl,rfl,rfl,X1 rfl (by first|rfl|(simp only [C,A,o,bs];done)|simp [C,A,o]),trivial⟩,rfl⟩
 rintro a _ ⟨t,rfl⟩;refine aJ _ _ ?_
 refine Xj t rfl (fun J=>?_) (fun J=>?_)
 ·have aB:=J
  have z:cellI n g i j=entryI g.k (bitF n i g.a) (bitF n j g.a):=by rw [cellI,Q3 W,Q3 H,Q4 (by simpa using J)]
  refine Q5 fun _ aK=>?_;refine X0d none (fun j=>[13].contains j) mixed ?_;intro b3 y;have f:=f.below y;have m:=m.below y;have e:=e.below y;have u:=btr u y;refine Yb t<|Yo 0 rfl (fun _=>Vd rfl X0o 0)<|Ye 1 rfl (X0 rfl X7 (f.at 0))<|Ye 2 rfl (X0 rfl X7 (m.at 0))<|Yo 3 rfl (fun _=>Xa rfl)<|Yo 4 rfl (fun _=>Vd rfl X0k 1)<|Ye 5 rfl (X0 rfl X7 (f.at 1))<|Ye 7 rfl (X0 rfl X7 (m.at 0))<|Yo 8 rfl (fun _=>Xa rfl)<|Yo 9 rfl (fun _=>Vd rfl X0k 1)<|Ye 10 rfl (X0 rfl X7 (f.at 1)) ?_;refine Y1 6<|Yz rfl trivial (Vc (Xk4 _ n i g.a (by omega) (by omega) (by omega)) X7p) ?_;refine Y1 11<|Yz rfl trivial (Vc (Xk4 _ n j g.a (by omega) (by omega) (by omega)) X7p) ?_;refine Y1 12<|Yk rfl trivial (Vc (Y0x _ g.k (bitF n i g.a) (bitF n j g.a) (by omega) aD) Xui) (fun _ _ ⟨_,y⟩=>y) ?_;rintro _ b4 ⟨rfl,y⟩;have e:=e.below y;have u:=btr u y;refine Y1 13<|Yh rfl trivial rfl (Vw [vi ((entryI g.k (bitF n i g.a) (bitF n j g.a)).num.a),vi ((entryI g.k (bitF n i g.a) (bitF n j g.a)).num.b),vi ((entryI g.k (bitF n i g.a) (bitF n j g.a)).num.c),vi ((entryI g.k (bitF n i g.a) (bitF n j g.a)).num.d),vi ((entryI g.k (bitF n i g.a) (bitF n j g.a)).exp)] X04 e) ?_;rintro _ b5 ⟨D,L⟩;have x:=e;have u:=Below.only u D B;have e:=L;refine Yo 14 rfl (fun _=>X19 rfl) ?_;refine Yd fun a t=>?_;refine aK _ _<|Q6<|Xm<|X2 ?_;refine X3 t (X0w t rfl (ResV.cellN (l:=[vi ((entryI g.k (bitF n i g.a) (bitF n j g.a)).num.a),vi ((entryI g.k (bitF n i g.a) (bitF n j g.a)).num.b),vi ((entryI g.k (bitF n i g.a) (bitF n j g.a)).num.c),vi ((entryI g.k (bitF n i g.a) (bitF n j g.a)).num.d),vi ((entryI g.k (bitF n i g.a) (bitF n j g.a)).exp)]) rfl Xr (e.at 0) rfl) rfl) ?_
  exact ⟨(by rw [z];try rfl),u⟩
 have aB:=J
 have z:cellI n g i j=dZ:=by rw [cellI,Q3 W,Q3 H,Q3 (by simpa using J)]
 refine Q7<|Xq<|aA _ _<|Zs t fun _ aL=>?_;refine Ze (Xg (ps:=[]) (cs:=[vi 0,vi 0,vi 0,vi 0,vi 0]) rfl (fun _=>by first|rfl|kernel_rfl))<|Zo (Vw [vi 0,vi 0,vi 0,vi 0,vi 0] X04 e) ?_;rintro _ b6 ⟨D,L⟩;have x:=e;have u:=Below.only u D B;have e:=L;refine Za rfl<|Zt aL fun a t=>?_
 refine Q6 (X3 t (X0w t rfl (ResV.cellN (l:=[vi 0,vi 0,vi 0,vi 0,vi 0]) rfl Xr (e.at 0) rfl) rfl) ?_)
 exact ⟨(by rw [z];try rfl),u⟩
theorem Xxl(w0:World)(n:Int)(g:Gt) : Ret Tryz.prog 69 [vi n,.agg #[vi g.k,vi g.a,vi g.b]] w0 (fun v w=>∃ A c,v=.tuple #[mV A c ((gateI n g).getD mZ),.bool (gateI n g).isSome]∧Own w w0.heap.size 95 5 encD A c ((gateI n g).getD mZ).cells∧Below w0.heap.size w0 w):=by
 refine enter Tryz.func69 rfl 19 rfl rfl ?_;intro a u
 have p:=bz w0
 refine Zs u fun _ aD=>?_;refine Zf (X0i (zs:=[vi n]) rfl rfl) ?_;rintro _ w1 ⟨b2,rfl,aE,o,f⟩;have aK:=Q0 p.size aE;have p:=btr p o;refine Zf (X0i (zs:=[vi g.k,vi g.a,vi g.b]) rfl rfl) ?_;rintro _ w2 ⟨b3,rfl,aF,o,t⟩;have aL:=Q0 p.size aF;have f:=f.below o;have p:=btr p o;refine Zf (X8 (zs:=[vi 0,vi 0,.slice none 0 0]) X1o rfl) ?_;rintro _ w3 ⟨b5,rfl,aG,o,e⟩;have h:=Q0 p.size aG;have f:=f.below o;have t:=t.below o;have p:=btr p o;refine Za rfl<|ZX aD fun a u _ aH=>?_;refine Zs u fun _ aI=>?_;refine Ze (X0 rfl X7 (f.at 0))<|Ze (Vn X0f t)<|Zf (Vc (Xqh _ n g) Xca) ?_;rintro _ w4 ⟨rfl,o⟩;have f:=f.below o;have t:=t.below o;have e:=e.below o;have p:=btr p o;refine Ze (X0x rfl)<|Zt aI fun a u=>?_
 refine Xj u rfl (fun z=>?_) (fun z=>?_)
 ·have aA:=z
  have hn:¬ gOk n g=true:=by revert z;cases gOk n g<;>simp
  refine Zs u fun _ aJ=>?_;refine Ze (Xg (ps:=[]) (cs:=[vi 0,vi 0,.slice none 0 0]) rfl (fun _=>by first|rfl|kernel_rfl))<|Zo (Vw [vi 0,vi 0,.slice none 0 0] X18 e) ?_;rintro _ w5 ⟨ho,hb⟩;have B:=e;have p:=Below.only p ho h;have e:=hb;refine Za rfl<|Zt aJ fun a u=>?_;refine Q6<|X2<|X3 u (X0w u rfl (ResV.cellN (l:=[vi 0,vi 0,.slice none 0 0]) rfl X0j (e.at 0) rfl) rfl) ?_;exact ⟨none,0,by rw [gateI,Q3 hn];rfl,by rw [gateI,Q3 hn];exact (Own.nil _ _ _ _ _),p⟩
 have aA:=z
 have hg:gOk n g=true:=by revert z;cases gOk n g<;>simp
 have aM:=X1i hg
 obtain ⟨d,hd⟩ : ∃ d:Nat,d=2^n.toNat:=⟨_,rfl⟩
 refine Q7<|aH _ _<|Q5 fun _ aB=>?_;refine X0d none (fun j=>[8].contains j) mixed ?_;intro w6 o;have f:=f.below o;have t:=t.below o;have e:=e.below o;have p:=btr p o;refine Yb u<|Ye 0 rfl (X0 rfl X7 (f.at 0))<|Yo 1 rfl (fun _=>Xbq (m:=n.toNat) (D:=d) rfl rfl (by omega) ⟨hd,by omega⟩)<|Ye 2 rfl (X0 rfl X7 (f.at 0))<|Yo 3 rfl (fun _=>Xbq (m:=n.toNat) (D:=d) rfl rfl (by omega) ⟨hd,by omega⟩)<|Yo 4 rfl (fun _=>X2w (vs:=[.pointer (some ⟨b3,0,none⟩),.pointer (some ⟨b2,0,none⟩)]) rfl)<|Y1 5 ?_;refine Yk rfl trivial (Vc (Xqz _ (d:Int) (d:Int) 126 [.pointer (some ⟨b3,0,none⟩),.pointer (some ⟨b2,0,none⟩)] Xvn (fun i j=>some (cellI n g i j)) (fun i j w' hi hj hE'=>Y0u w' g n _ _ (t.below hE') (f.below hE') hg i j)) Xcd) (fun _ _ ⟨x,y,_,q,o⟩=>o) ?_;rintro _ w7 ⟨x,y,rfl,q,o⟩;have q:=q.lower p.size;have e:=e.below o;have p:=btr p o;refine Yo 6 rfl (fun _=>X4 (vs:=[.agg #[vi (((matOf (d:Int) (d:Int) (fun i j=>some (cellI n g i j))).getD mZ).rows),vi (((matOf (d:Int) (d:Int) (fun i j=>some (cellI n g i j))).getD mZ).cols),.slice x (((matOf (d:Int) (d:Int) (fun i j=>some (cellI n g i j))).getD mZ).cells).length y],.bool ((matOf (d:Int) (d:Int) (fun i j=>some (cellI n g i j))).isSome)]) rfl rfl)<|Yo 7 rfl (fun _=>X4 (vs:=[.agg #[vi (((matOf (d:Int) (d:Int) (fun i j=>some (cellI n g i j))).getD mZ).rows),vi (((matOf (d:Int) (d:Int) (fun i j=>some (cellI n g i j))).getD mZ).cols),.slice x (((matOf (d:Int) (d:Int) (fun i j=>some (cellI n g i j))).getD mZ).cells).length y],.bool ((matOf (d:Int) (d:Int) (fun i j=>some (cellI n g i j))).isSome)]) rfl rfl)<|Y1 8 ?_;refine Yh rfl trivial rfl (Vw [vi (((matOf (d:Int) (d:Int) (fun i j=>some (cellI n g i j))).getD mZ).rows),vi (((matOf (d:Int) (d:Int) (fun i j=>some (cellI n g i j))).getD mZ).cols),.slice x (((matOf (d:Int) (d:Int) (fun i j=>some (cellI n g i j))).getD mZ).cells).length y] X18 e) ?_;rintro _ w8 ⟨ho,hb⟩
 have B:=e;have q:=q.onlyT ho B rfl;have p:=Below.only p ho h;have e:=hb;refine Yo 9 rfl (fun _=>X19 rfl) ?_;refine Yd fun a u=>?_;refine aB _ _ ?_
 refine Q6 (X3 u (X0w u rfl (ResV.cellN (l:=[vi (((matOf (d:Int) (d:Int) (fun i j=>some (cellI n g i j))).getD mZ).rows),vi (((matOf (d:Int) (d:Int) (fun i j=>some (cellI n g i j))).getD mZ).cols),.slice x (((matOf (d:Int) (d:Int) (fun i j=>some (cellI n g i j))).getD mZ).cells).length y]) rfl X0j (e.at 0) rfl) rfl) ?_)
 have aC:gateI n g=matOf (d:Int) (d:Int) fun i j=>some (cellI n g i j):=by rw [gateI,Q4 hg,hd]
 rw [aC]
 exact ⟨x,y,rfl,q,p⟩
end Go.Proofs.YtblmmikapnflcaaGreatDoor
namespace Go.Proofs
open Go.Shelf
def Tryz.lays189_ren:Go.Shelf.Ren:=⟨fun|189=>188|125=>213|257=>212|128=>237|129=>238|294=>228|295=>229|296=>230|297=>231|298=>232|299=>233|216=>234|300=>235|301=>236|328=>252|329=>253|330=>254|331=>255|332=>256|215=>222|343=>264|n=>n,fun|28=>43|3=>3|46=>185|0=>0|51=>255|53=>241|4=>4|183=>249|182=>248|131=>144|5=>5|9=>9|218=>271|222=>275|228=>279|229=>181|n=>n,fun|n=>n⟩
theorem Tryz.lays189:Go.Proofs.Lays.n189 Tryz.prog Tryz.lays189_ren:={
  mixed:=by kernel_rfl
  f125:=Tryz.func213.trans (congrArg some (by kernel_rfl))
  f128:=Tryz.func237.trans (congrArg some (by kernel_rfl))
  f129:=Tryz.func238.trans (congrArg some (by kernel_rfl))
  f189:=Tryz.func188.trans (congrArg some (by kernel_rfl))
  f215:=Tryz.func222.trans (congrArg some (by kernel_rfl))
  f216:=Tryz.func234.trans (congrArg some (by kernel_rfl))
  f257:=Tryz.func212.trans (congrArg some (by kernel_rfl))
  f294:=Tryz.func228.trans (congrArg some (by kernel_rfl))
  f295:=Tryz.func229.trans (congrArg some (by kernel_rfl))
  f296:=Tryz.func230.trans (congrArg some (by kernel_rfl))
  f297:=Tryz.func231.trans (congrArg some (by kernel_rfl))
  f298:=Tryz.func232.trans (congrArg some (by kernel_rfl))
  f299:=Tryz.func233.trans (congrArg some (by kernel_rfl))
  f300:=Tryz.func235.trans (congrArg some (by kernel_rfl))
  f301:=Tryz.func236.trans (congrArg some (by kernel_rfl))
  f328:=Tryz.func252.trans (congrArg some (by kernel_rfl))
  f329:=Tryz.func253.trans (congrArg some (by kernel_rfl))
  f330:=Tryz.func254.trans (congrArg some (by kernel_rfl))
  f331:=Tryz.func255.trans (congrArg some (by kernel_rfl))
  f332:=Tryz.func256.trans (congrArg some (by kernel_rfl))
  f343:=Tryz.func264.trans (congrArg some (by kernel_rfl))
  t0:=Tryz.underlying0
  a0:=Tryz.isAgg0
  z0:=Tryz.sizeOf0
  v0:=Tryz.zeroValue0
  t3:=Tryz.underlying3
  a3:=Tryz.isAgg3
  z3:=Tryz.sizeOf3
  v3:=Tryz.zeroValue3
  t4:=Tryz.underlying4
  a4:=Tryz.isAgg4
  z4:=Tryz.sizeOf4
  v4:=Tryz.zeroValue4
  t5:=Tryz.underlying5
  a5:=Tryz.isAgg5
  z5:=Tryz.sizeOf5
  v5:=Tryz.zeroValue5
  t9:=Tryz.underlying9
  a9:=Tryz.isAgg9
  z9:=Tryz.sizeOf9
  v9:=Tryz.zeroValue9
  t28:=Tryz.underlying43
  a28:=Tryz.isAgg43
  z28:=Tryz.sizeOf43
  v28:=Tryz.zeroValue43
  t46:=Tryz.underlying185
  a46:=Tryz.isAgg185
  z46:=Tryz.sizeOf185
  v46:=Tryz.zeroValue185
  t51:=Tryz.underlying255
  a51:=Tryz.isAgg255
  z51:=Tryz.sizeOf255
  v51:=Tryz.zeroValue255
  t53:=Tryz.underlying241
  a53:=Tryz.isAgg241
  z53:=Tryz.sizeOf241
  v53:=Tryz.zeroValue241
  t131:=Tryz.underlying144
  a131:=Tryz.isAgg144
  z131:=Tryz.sizeOf144
  v131:=Tryz.zeroValue144
  t182:=Tryz.underlying248
  a182:=Tryz.isAgg248
  z182:=Tryz.sizeOf248
  v182:=Tryz.zeroValue248
  t183:=Tryz.underlying249
  a183:=Tryz.isAgg249
  z183:=Tryz.sizeOf249
  v183:=Tryz.zeroValue249
  t218:=Tryz.underlying271
  a218:=Tryz.isAgg271
  z218:=Tryz.sizeOf271
  v218:=Tryz.zeroValue271
  t222:=Tryz.underlying275
  a222:=Tryz.isAgg275
  z222:=Tryz.sizeOf275
  v222:=Tryz.zeroValue275
  t228:=Tryz.underlying279
  a228:=Tryz.isAgg279
  z228:=Tryz.sizeOf279
  v228:=Tryz.zeroValue279
  t229:=Tryz.underlying181
  a229:=Tryz.isAgg181
  z229:=Tryz.sizeOf181
  v229:=Tryz.zeroValue181 }
open Go.Sort Go.RowKit in
theorem Tryz.slices_Sort_int(blk off cap:Nat)(zs:List Int)(w:World)(hH:Holds (Value.int .i64) w blk off zs.toArray)(hblk:blk<w.heap.size)(hsz:zs.length<4611686018427387904) :
    Calls Tryz.prog 188 #[.slice (some ⟨blk,off,none⟩) zs.length cap] w fun e w'=>
      e=.returned (.tuple #[])∧∃ n os,w'=grow (putRow (Value.int .i64) (Sort.ahead w n) blk off (zs.mergeSort fun x y=>decide (x≤y)).toArray) os:=Any.slices_Sort_int Tryz.lays189 blk off cap zs w hH hblk hsz
def Tryz.lays108_ren:Go.Shelf.Ren:=⟨fun|108=>186|n=>n,fun|28=>43|3=>3|0=>0|4=>4|n=>n,fun|n=>n⟩
def Tryz.lays107_ren:Go.Shelf.Ren:=⟨fun|107=>149|108=>186|n=>n,fun|28=>43|3=>3|4=>4|0=>0|n=>n,fun|n=>n⟩
def Tryz.laysNm220_ren:Go.Shelf.Ren:=⟨fun|20=>189|n=>n,fun|22=>43|3=>3|4=>4|0=>0|n=>n,fun|n=>n⟩
theorem Tryz.laysNm220:Go.Proofs.Lays2.n20 Tryz.prog Tryz.laysNm220_ren:={
  mixed:=by kernel_rfl
  f20:=Tryz.func189.trans (congrArg some (by kernel_rfl))
  t0:=Tryz.underlying0
  a0:=Tryz.isAgg0
  z0:=Tryz.sizeOf0
  v0:=Tryz.zeroValue0
  t3:=Tryz.underlying3
  a3:=Tryz.isAgg3
  z3:=Tryz.sizeOf3
  v3:=Tryz.zeroValue3
  t4:=Tryz.underlying4
  a4:=Tryz.isAgg4
  z4:=Tryz.sizeOf4
  v4:=Tryz.zeroValue4
  t22:=Tryz.underlying43
  a22:=Tryz.isAgg43
  z22:=Tryz.sizeOf43
  v22:=Tryz.zeroValue43
  i3:=by kernel_rfl }
open Go.RowKit Go.Lib Go.Sort in
theorem Tryz.slices_Compact_int(blk off cap:Nat)(zs:List Int)(w:World)(hH:Holds (Value.int .i64) w blk off zs.toArray)(hsz:zs.length≤9223372036854775807)(hcap:zs.length≤cap) :
    Calls Tryz.prog 189 #[.slice (some ⟨blk,off,none⟩) zs.length cap] w fun e w'=>e=.returned (.slice (some ⟨blk,off,none⟩) (Lib.compact zs).length cap)∧∃ q,w'=putRow (Value.int .i64) (Sort.ahead w q) blk off (Lib.compact zs++List.replicate (zs.length-(Lib.compact zs).length) 0).toArray:=Any.slices_Compact_int Tryz.laysNm220 blk off cap zs w hH hsz hcap
open Go.RowKit Go.Lib Go.Sort in
theorem Tryz.slices_Compact_int_empty(a:Option Addr)(cap:Nat)(w:World) :
    Calls Tryz.prog 189 #[.slice a 0 cap] w fun e w'=>e=.returned (.slice a 0 cap)∧w'=w:=Any.slices_Compact_int_empty Tryz.laysNm220 a cap w
end Go.Proofs
namespace Go.Proofs.YtblmmikapnflcaaGreatDoor
open Go.RowKit
section
variable {α : Type}
theorem X80{enc:α→List Value}{sz:Nat}(hsz:∀ x,(enc x).length=sz){l:List α}{j:Nat}(hj:j<l.length*sz) : ∃ x,l[j/sz]? = some x∧(l.flatMap enc)[j]? = (enc x)[j % sz]?:=by
 have h0:0<sz:=by
  rcases Nat.eq_zero_or_pos sz with h|h
  ·subst h;simp at hj
  ·exact h
 have hk:j/sz<l.length:=Nat.div_lt_of_lt_mul (by rw [Wi];exact hj)
 refine ⟨l[j/sz],Qc hk,?_⟩
 have hm:j % sz<(enc l[j/sz]).length:=by rw [hsz];exact Nat.mod_lt _ h0
 have h1:=X4b hsz l (j/sz) _ (Qc hk) (j % sz) _ (Qc hm)
 rw [show j/sz*sz+j % sz=j from by rw [Wi];exact Nat.div_add_mod j sz] at h1
 rw [h1,Qc hm]
theorem Xai{enc:α→List Value}{sz:Nat}(hsz:∀ x,(enc x).length=sz){z:Value}{z0:α}(hz:z.cells.toList=enc z0)(n:Nat) : madeCells z.cells (n*sz)=((List.replicate n z0).flatMap enc).toArray:=by
 have hs:z.cells.size=sz:=by rw [← hsz z0,← hz];simp
 apply Array.ext'
 apply List.ext_getElem?
 intro j
 by_cases hj:j<n*sz
 ·obtain ⟨x,hx,h1⟩:=X80 hsz (l:=List.replicate n z0) (j:=j) (by simpa using hj)
  obtain rfl:x=z0:=(List.eq_of_mem_replicate (Qe hx))
  have h0:0<sz:=by
   rcases Nat.eq_zero_or_pos sz with h|h
   ·subst h;simp at hj
   ·exact h
  have hm:j % sz<z.cells.size:=by rw [hs];exact Nat.mod_lt _ h0
  rw [List.toList_toArray,h1,← hz]
  simp only [madeCells,Array.getElem?_toList,Array.getElem?_map,Array.getElem?_range,hj,if_true,Option.map_some,hs]
  rw [getElem!_pos z.cells (j % sz) hm,Array.getElem?_eq_getElem hm]
 ·rw [List.getElem?_eq_none (by simp [madeCells];omega),List.toList_toArray,List.getElem?_eq_none (by rw [X02 hsz];simp;omega)]
theorem X4g{enc:α→List Value}{sz:Nat}(hsz:∀ x,(enc x).length=sz) : ∀ (l:List α) (k:Nat) (x:α),k<l.length→splice (l.flatMap enc) (k*sz) (enc x)=(l.set k x).flatMap enc
 | [],k,x,h=>by simp at h
 | y::l,0,x,h=>by
  simp only [splice,Nat.zero_mul,List.take_zero,List.nil_append,Nat.zero_add,Wc,List.set_cons_zero]
  rw [hsz,← hsz y,List.drop_left]
 | y::l,k+1,x,h=>by
  have ih:=X4g hsz l k x (by simpa using h)
  unfold splice at ih ⊢
  have h1:(k+1)*sz=(enc y).length+k*sz:=by rw [hsz,Wb];omega
  rw [h1]
  simp only [Wc,List.set_cons_succ]
  rw [List.take_length_add_append,show (enc y).length+k*sz+(enc x).length=(enc y).length+(k*sz+(enc x).length) from by omega,List.drop_length_add_append,Qx,Qx]
  rw [← ih,Qx]
end
section
variable {α : Type} {P : Program} {a : Act} {w : World} {n : Nat} {e : Env} {ty : TypeId} {pos : String} {af : Array Edge} {g : Option (Nat × Bool)} {d : Option Tmp}
theorem Xcr{T E sz bytes m:Nat}{x y:Operand}{enc:α→List Value}{z:Value}{z0:α}(hf:Fr a n e)(hx:ev e x=some (.int .i64 (m:Int)))(hy:ev e y=some (.int .i64 (m:Int)))(hT:SliceT P T E)(hi:InfoT P E sz bytes)(hz:ZeroT P E z)(hz0:z.cells.toList=enc z0)(hsz:∀ x,(enc x).length=sz)(hb:bytes*m≤281474976710656)(hm:m≤4611686018427387904) :
  Ef P ⟨d,.makeSlice T x y,ty,pos,af,g⟩ a w (fun v w'=>∃ b,v=.slice (some ⟨b,0,none⟩) m m∧w.heap.size≤b∧Below w.heap.size w w'∧Blk w' b E ((List.replicate m z0).flatMap enc)):=by
 obtain ⟨i,z1,hi1,hi2,hi3,hi4,hi5,hi6⟩:=hi;obtain ⟨i',hi1',hz1⟩:=hz
 rw [hi1] at hi1'
 injection hi1' with hi1'
 subst hi1'
 rw [hi2] at hz1
 injection hz1 with hz1
 subst hz1
 have hb':(i.bytes:Int)*(m:Int)≤281474976710656:=by
  have h:((i.bytes*m:Nat) : Int)≤281474976710656:=by rw [hi4];omega
  rwa [Int.natCast_mul] at h
 have hr:=run_make (P:=P) w T E i z1 hT hi1 hi2 .i64 .i64 m m (by omega) (Int.le_refl _) hb' (by omega)
 refine (Ef.of_run (v:=.slice (some ⟨w.heap.size,0,none⟩) m m) (w':=w.alloc (.cells ((List.replicate m z0).flatMap enc).toArray E)) ?_).mono fun v w' ⟨e1,e2⟩=>?_
 ·rw [hi3,Qj,Xai hsz hz0] at hr
  simp [execOp,hf.ev hx,hf.ev hy,hr]
 ·subst e1;subst e2
  exact ⟨_,rfl,Qb _,(Below.refl _ _).alloc (Qb _) _,X7w w E _⟩
theorem X66{T E sz bytes m:Nat}{x y:Operand}{enc:α→List Value}{z:Value}{z0:α}(hx:ev e x=some (.int .i64 (m:Int)))(hy:ev e y=some (.int .i64 (m:Int)))(hT:SliceT P T E)(hi:InfoT P E sz bytes)(hz:ZeroT P E z)(hz0:z.cells.toList=enc z0)(hsz:∀ x,(enc x).length=sz)(hb:bytes*m≤281474976710656)(hm:m≤4611686018427387904) : EfW P ⟨d,.makeSlice T x y,ty,pos,af,g⟩ n e w (fun v w'=>∃ b,v=.slice (some ⟨b,0,none⟩) m m∧w.heap.size≤b∧Below w.heap.size w w'∧Blk w' b E ((List.replicate m z0).flatMap enc)):=fun a hf=>Xcr hf hx hy hT hi hz hz0 hsz hb hm
theorem Xbc{T E sz b m c k off:Nat}{x y:Operand}{i:Int}(hf:Fr a n e)(hx:ev e x=some (.slice (some ⟨b,0,none⟩) m c))(hy:ev e y=some (.int .i64 i))(hT:SliceT P T E)(hs:SizeT P E sz)(hi:i=(k:Int))(hk:k<m)(ho:k*sz=off) :
  Ev P ⟨d,.indexAddr T x y,ty,pos,af,g⟩ a w (.pointer (some ⟨b,off,none⟩)):=by
 have h:=X72 (P:=P) (w:=w) (d:=d) (ty:=ty) (pos:=pos) (af:=af) (g:=g) hf hx hy hT hs hi hk
 rwa [X1n,Nat.zero_add,ho] at h
theorem Xd7{T E sz b m c k off:Nat}{x y:Operand}{i:Int}(hx:ev e x=some (.slice (some ⟨b,0,none⟩) m c))(hy:ev e y=some (.int .i64 i))(hT:SliceT P T E)(hs:SizeT P E sz)(hi:i=(k:Int))(hk:k<m)(ho:k*sz=off) : EvW P ⟨d,.indexAddr T x y,ty,pos,af,g⟩ n e w (.pointer (some ⟨b,off,none⟩)):=fun a hf=>Xbc hf hx hy hT hs hi hk ho
theorem Xkt{t T b k sz:Nat}{x y:Operand}{v:Value}{enc:α→List Value}{l:List α}{u:α}(hf:Fr a n e)(hx:ev e x=some (.pointer (some ⟨b,k*sz,none⟩)))(hy:ev e y=some v)(hs:SizeT P t sz)(hb:Blk w b T (l.flatMap enc))(hsz:∀ x,(enc x).length=sz)(hone:∀ x,(enc x).all one=true)(hv:v.cells.toList=enc u)(hk:k<l.length) :
  Ef P ⟨d,.store t x y,ty,pos,af,g⟩ a w (Stored w b T ((l.set k u).flatMap enc)):=by
 have hl:k*sz+sz≤(l.flatMap enc).length:=by
  rw [X02 hsz]
  have:=Nat.mul_le_mul_right sz (show k+1≤l.length by omega)
  rwa [Wb,Nat.one_mul] at this
 exact X9x (vs:=enc u) hf hx hy hs hb hv (by rw [hsz];simp) (hone u) (by rw [Nat.ble_eq];exact hl) (X4g hsz l k u hk)
theorem Xcv{t T b k sz:Nat}{x y:Operand}{v:Value}{enc:α→List Value}{l:List α}{u:α}(hx:ev e x=some (.pointer (some ⟨b,k*sz,none⟩)))(hy:ev e y=some v)(hs:SizeT P t sz)(hb:Blk w b T (l.flatMap enc))(hsz:∀ x,(enc x).length=sz)(hone:∀ x,(enc x).all one=true)(hv:v.cells.toList=enc u)(hk:k<l.length) : EfW P ⟨d,.store t x y,ty,pos,af,g⟩ n e w (Stored w b T ((l.set k u).flatMap enc)):=fun a hf=>Xkt hf hx hy hs hb hsz hone hv hk
theorem Xha{T E sz m c k:Nat}{x y:Operand}{A:Option Addr}{i:Int}(hf:Fr a n e)(hx:ev e x=some (.slice A m c))(hy:ev e y=some (.int .i64 i))(hT:SliceT P T E)(hs:SizeT P E sz)(hi:i=(k:Int))(hk:k≤c) :
  Ev P ⟨d,.slice T x none (some y) none,ty,pos,af,g⟩ a w (.slice A k c):=fun w' _=>by
 subst hi
 have h0:∀ p:Addr,p.add 0=p:=fun p=>by simp [Addr.add]
 simp [execOp,Instr.sliceAt,Instr.slice,Instr.sliceBounds,run_sliceBound,X13 hT,run_sizeOf' hs,hf.ev hx,hf.ev hy,hk,h0]
theorem Xcf{T E sz m c k:Nat}{x y:Operand}{A:Option Addr}{i:Int}(hf:Fr a n e)(hx:ev e x=some (.slice A m c))(hy:ev e y=some (.int .i64 i))(hT:SliceT P T E)(hs:SizeT P E sz)(hi:i=(k:Int))(hk:k≤m) :
  Ev P ⟨d,.slice T x (some y) none none,ty,pos,af,g⟩ a w (.slice (if c=k then A else A.map (·.add (k*sz))) (m-k) (c-k)):=fun w' _=>by
 subst hi
 simp [execOp,Instr.sliceAt,Instr.slice,Instr.sliceBounds,run_sliceBound,X13 hT,run_sizeOf' hs,hf.ev hx,hf.ev hy,hk]
end
section
variable {α : Type} {w : World} {B B0 : Nat} {E : TypeId} {sz : Nat} {enc : α → List Value} {A : Option Addr} {c : Nat} {l : List α}
theorem Xdc(hsz:∀ x,(enc x).length=sz)(k:Nat) : (l.take k).flatMap enc=(l.flatMap enc).take (k*sz):=by
 conv=>rhs;rw [← W9 k l]
 rw [List.flatMap_append]
 by_cases hk:k≤l.length
 ·have:((l.take k).flatMap enc).length=k*sz:=by rw [X02 hsz,Qn,Nat.min_eq_left hk]
  rw [← this,List.take_left]
 ·rw [Qi (by omega),W3 (by omega)]
  simp only [List.flatMap_nil,List.append_nil]
  rw [Qi (by rw [X02 hsz];exact Nat.mul_le_mul_right _ (by omega))]
theorem Xc5(hsz:∀ x,(enc x).length=sz)(k:Nat) : (l.drop k).flatMap enc=(l.flatMap enc).drop (k*sz):=by
 conv=>rhs;rw [← W9 k l]
 rw [List.flatMap_append]
 by_cases hk:k≤l.length
 ·have:((l.take k).flatMap enc).length=k*sz:=by rw [X02 hsz,Qn,Nat.min_eq_left hk]
  rw [← this,List.drop_left]
 ·have h1:l.drop k=[]:=W3 (by omega)
  rw [h1,List.flatMap_nil,List.append_nil,W3 (by rw [X02 hsz,Qn];exact Nat.mul_le_mul_right _ (by omega))]
theorem Rd.takeK(hsz:∀ x,(enc x).length=sz)(h:Rd w B E enc A l)(k:Nat) : Rd w B E enc A (l.take k):=fun hl=>by
 have hl':l≠[]:=by rintro rfl;simp at hl
 obtain ⟨b,off,cs,fz,h1,h2,h3,h4⟩:=h hl'
 refine ⟨b,off,cs,fz,h1,h2,h3,fun j v hj=>h4 j v ?_⟩
 rw [Xdc hsz,List.getElem?_take] at hj
 split at hj
 ·exact hj
 ·cases hj
theorem Rd.dropK(hsz:∀ x,(enc x).length=sz)(h:Rd w B E enc A l)(hc:l.length≤c)(k:Nat) : Rd w B E enc (if c=k then A else A.map (·.add (k*sz))) (l.drop k):=fun hl=>by
 have hk:k<l.length:=by
  rcases W4 k l.length with h'|h'
  ·exact h'
  ·exact absurd (W3 h') hl
 have hl':l≠[]:=by rintro rfl;simp at hk
 obtain ⟨b,off,cs,fz,h1,h2,h3,h4⟩:=h hl'
 rw [Q3 (by omega),h1]
 refine ⟨b,off+k*sz,cs,fz,by rw [Option.map_some,X1n],h2,h3,fun j v hj=>?_⟩
 rw [Xc5 hsz,List.getElem?_drop] at hj
 rw [Nat.add_assoc]
 exact h4 _ v hj
theorem Xok{P:Program}{a:Act}{n:Nat}{e:Env}{ty:TypeId}{pos:String}{af:Array Edge}{g:Option (Nat×Bool)}{d:Option Tmp}{T k:Nat}{x y:Operand}{i:Int}(hf:Fr a n e)(hx:ev e x=some (.slice A l.length c))(hy:ev e y=some (.int .i64 i))(hT:SliceT P T E)(hs:SizeT P E sz)(hi:i=(k:Int))(hk:k≤l.length)(hc:l.length≤c) :
  Ev P ⟨d,.slice T x none (some y) none,ty,pos,af,g⟩ a w (.slice A (l.take k).length c):=by
 rw [Qn,Nat.min_eq_left hk]
 exact Xha hf hx hy hT hs hi (by omega)
theorem Xgj{P:Program}{n:Nat}{e:Env}{ty:TypeId}{pos:String}{af:Array Edge}{g:Option (Nat×Bool)}{d:Option Tmp}{T k:Nat}{x y:Operand}{i:Int}(hx:ev e x=some (.slice A l.length c))(hy:ev e y=some (.int .i64 i))(hT:SliceT P T E)(hs:SizeT P E sz)(hi:i=(k:Int))(hk:k≤l.length)(hc:l.length≤c) : EvW P ⟨d,.slice T x none (some y) none,ty,pos,af,g⟩ n e w (.slice A (l.take k).length c):=fun a hf=>Xok hf hx hy hT hs hi hk hc
theorem Xm2{P:Program}{a:Act}{n:Nat}{e:Env}{ty:TypeId}{pos:String}{af:Array Edge}{g:Option (Nat×Bool)}{d:Option Tmp}{T k:Nat}{x y:Operand}{i:Int}(hf:Fr a n e)(hx:ev e x=some (.slice A l.length c))(hy:ev e y=some (.int .i64 i))(hT:SliceT P T E)(hs:SizeT P E sz)(hi:i=(k:Int))(hk:k≤l.length) :
  Ev P ⟨d,.slice T x (some y) none none,ty,pos,af,g⟩ a w (.slice (if c=k then A else A.map (·.add (k*sz))) (l.drop k).length (c-k)):=by
 rw [List.length_drop]
 exact Xcf hf hx hy hT hs hi hk
theorem Xa7{P:Program}{n:Nat}{e:Env}{ty:TypeId}{pos:String}{af:Array Edge}{g:Option (Nat×Bool)}{d:Option Tmp}{T k:Nat}{x y:Operand}{i:Int}(hx:ev e x=some (.slice A l.length c))(hy:ev e y=some (.int .i64 i))(hT:SliceT P T E)(hs:SizeT P E sz)(hi:i=(k:Int))(hk:k≤l.length) : EvW P ⟨d,.slice T x (some y) none none,ty,pos,af,g⟩ n e w (.slice (if c=k then A else A.map (·.add (k*sz))) (l.drop k).length (c-k)):=fun a hf=>Xm2 hf hx hy hT hs hi hk
theorem Xdl(hc:l.length≤c)(k:Nat) : (l.take k).length≤c:=Q0 (List.length_take_le' _ _) hc
theorem Xqw{P:Program}{a:Act}{n:Nat}{e:Env}{ty:TypeId}{pos:String}{af:Array Edge}{g:Option (Nat×Bool)}{d:Option Tmp}{T k m:Nat}{x y z:Operand}{i j:Int}(hf:Fr a n e)(hx:ev e x=some (.slice A l.length c))(hy:ev e y=some (.int .i64 i))(hz:ev e z=some (.int .i64 j))(hT:SliceT P T E)(hs:SizeT P E sz)(hi:i=(k:Int))(hj:j=(m:Int))(hk:k≤m)(hm:m≤l.length)(hc:l.length≤c) :
  Ev P ⟨d,.slice T x (some y) (some z) none,ty,pos,af,g⟩ a w (.slice (if c=k then A else A.map (·.add (k*sz))) ((l.take m).drop k).length (c-k)):=fun w' _=>by
 subst hi;subst hj
 have h1:m≤c:=by omega
 have h2:((l.take m).drop k).length=m-k:=by rw [List.length_drop,Qn,Nat.min_eq_left hm]
 rw [h2]
 simp [execOp,Instr.sliceAt,Instr.slice,Instr.sliceBounds,run_sliceBound,X13 hT,run_sizeOf' hs,hf.ev hx,hf.ev hy,hf.ev hz,hk,h1]
theorem Xq2{P:Program}{n:Nat}{e:Env}{ty:TypeId}{pos:String}{af:Array Edge}{g:Option (Nat×Bool)}{d:Option Tmp}{T k m:Nat}{x y z:Operand}{i j:Int}(hx:ev e x=some (.slice A l.length c))(hy:ev e y=some (.int .i64 i))(hz:ev e z=some (.int .i64 j))(hT:SliceT P T E)(hs:SizeT P E sz)(hi:i=(k:Int))(hj:j=(m:Int))(hk:k≤m)(hm:m≤l.length)(hc:l.length≤c) : EvW P ⟨d,.slice T x (some y) (some z) none,ty,pos,af,g⟩ n e w (.slice (if c=k then A else A.map (·.add (k*sz))) ((l.take m).drop k).length (c-k)):=fun a hf=>Xqw hf hx hy hz hT hs hi hj hk hm hc
theorem Own.cap(h:Own w B0 E sz enc A c l) : l.length≤c:=by
 rcases h.2 with ⟨h1,h2⟩|⟨g,cap,cur,h1,h2,h3,h4,h5,h6⟩
 ·omega
 ·injection h1 with _ _ h1
  omega
theorem Own.of_flat(hsz:∀ x,(enc x).length=sz){b m:Nat}(h:Blk w b E (l.flatMap enc))(hb:B0≤b)(hl:l.length=m)(hk:m≤maxLen) : Own w B0 E sz enc (some ⟨b,0,none⟩) m l:=Own.of_blkL hsz h hb rfl hl hk
end
theorem Kept.app{α:Type}{b B B0:Nat}{w0 w w':World}{E:TypeId}{sz:Nat}{enc:α→List Value}{A:Option Addr}{c:Nat}{l:List α}(h:Kept b B w0 w)(ho:Own w B0 E sz enc A c l)(hg:w.grownBy w' (Value.slice A l.length c).ownBlock)(hB:B≤B0)(hs:B≤w.heap.size) : Kept b B w0 w':=
 ⟨hg.os.trans h.os,hg.tape.trans h.tape,hg.output.trans h.output,Q0 h.size hg.size,fun k hk hne=>(hg.block k (by omega) fun hk'=>by have:=(ho.block hk'.symm).1;omega).trans (h.block k hk hne)⟩
theorem Xgm{α:Type}{P:Program}{a:Act}{w:World}{n:Nat}{e:Env}{ty:TypeId}{pos:String}{af:Array Edge}{g:Option (Nat×Bool)}{d:Option Tmp}{T E:TypeId}{sz bytes B b0:Nat}{x y:Operand}{enc:α→List Value}{A2:Option Addr}{c2:Nat}{l2:List α}(hf:Fr a n e)(hx:ev e x=some (.slice (some ⟨b0,0,none⟩) 0 0))(hy:ev e y=some (.slice A2 l2.length c2))
  (hT:SliceT P T E) (hi:InfoT P E sz bytes) (hsz:∀ x,(enc x).length=sz) (hone:∀ x,(enc x).all one=true) (hb:Blk w b0 E []) (hr:Rd w B E enc A2 l2) (h63:l2.length≤maxLen) (hbytes:l2.length*bytes≤140737488355328) :
  Ef P ⟨d,.call ⟨.builtin .append,#[x,y],#[T,T]⟩,ty,pos,af,g⟩ a w (fun v w'=>∃ A' c',v=.slice A' l2.length c'∧Own w' b0 E sz enc A' c' l2∧Below w.heap.size w w'):=by
 by_cases hl2:l2=[]
 ·subst hl2
  obtain ⟨i,z,hi1,hi2,hi3,hi4,hi5,hi6⟩:=hi
  have hrun:(Builtin.append_ #[T,T] ty #[.slice (some ⟨b0,0,none⟩) 0 0,.slice A2 0 c2]).run P w=.ok (.slice (some ⟨b0,0,none⟩) 0 0) w:=by
   cases A2<;>simp [Builtin.append_,X13 hT,sizeOf,typeInfo,hi1,Builtin.lenOf,Builtin.firstCells,loadCells,loadCellsFrom,storeCells]
  refine (Ef.of_run (v:=.slice (some ⟨b0,0,none⟩) 0 0) (w':=w) ?_).mono fun v w' ⟨e1,e2⟩=>?_
  ·simp only [List.length_nil] at hy
   simp [execOp,resolve,invoke,builtin,hf.ev hx,hf.ev hy,hrun]
  ·subst e1;subst e2
   exact ⟨_,_,rfl,Own.empty hb (Qb _),Below.refl _ _⟩
 ·have hown:Own w b0 E sz enc (some ⟨b0,0,none⟩) 0 ([] : List α):=Own.empty hb (Qb _)
  obtain ⟨i,z,hi1,hi2,rfl,rfl,hi5,hi6⟩:=hi;obtain ⟨b,off,cs,fz,rfl,h2,h3,h4⟩:=hr hl2;have hlen2:=X02 hsz l2
  have hpos:0<l2.length:=List.length_pos_iff.2 hl2
  have h:=run_append_grow (P:=P) w T ty E i z hT hi1 hi2 ⟨b0,0,none⟩ 0 0 [] (by simp) (fun j u hu=>by simp at hu)
   ⟨b,off,none⟩ l2.length c2 (l2.flatMap enc) hlen2 (fun j u hu=>by
    have:=h4 j u hu
    rw [X1n]
    simp [World.cell?,h3,this])
   (by omega) (by simp only [maxLen] at h63;omega) (growslice_fits (by omega) (by simpa using hbytes))
  simp only [Nat.zero_add] at h
  refine (Ef.of_run (w':=w.drew.alloc (.cells (([] : List Value).toArray++(l2.flatMap enc).toArray++Builtin.zeroCells z.cells (grownCap w l2.length 0 E-l2.length)) E)) (v:=.slice (some ⟨w.heap.size,0,none⟩) l2.length (grownCap w l2.length 0 E)) ?_).mono fun v w' ⟨e1,e2⟩=>?_
  ·simp [execOp,resolve,invoke,builtin,hf.ev hx,hf.ev hy,h]
  ·subst e1;subst e2
   have hb0:=hb.lt;have hge:=grownCap_ge w l2.length 0 E
   refine ⟨_,_,rfl,?_,((Below.refl _ _).drew).alloc (Qb _) _⟩
   refine ⟨X02 hsz _,.inr ⟨w.heap.size,_,_,rfl,by omega,heap_alloc_new w.drew _,hge,grownCap_le_maxLen w _ _ E h63,?_,?_⟩⟩
   ·simp only [Array.size_append,List.size_toArray,size_zeroCells,hi5,hlen2,List.length_nil,Nat.zero_add,← Wb]
    congr 1
    omega
   ·rw [← hlen2]
    simp only [Array.toList_append,Qx,List.nil_append]
    exact List.take_left
theorem X3v{α:Type}{P:Program}{w:World}{n:Nat}{e:Env}{ty:TypeId}{pos:String}{af:Array Edge}{g:Option (Nat×Bool)}{d:Option Tmp}{T E:TypeId}{sz bytes B b0:Nat}{x y:Operand}{enc:α→List Value}{A2:Option Addr}{c2:Nat}{l2:List α}(hx:ev e x=some (.slice (some ⟨b0,0,none⟩) 0 0))(hy:ev e y=some (.slice A2 l2.length c2))(hT:SliceT P T E)(hi:InfoT P E sz bytes)(hsz:∀ x,(enc x).length=sz)(hone:∀ x,(enc x).all one=true)(hb:Blk w b0 E [])(hr:Rd w B E enc A2 l2)(h63:l2.length≤maxLen)(hbytes:l2.length*bytes≤140737488355328) : EfW P ⟨d,.call ⟨.builtin .append,#[x,y],#[T,T]⟩,ty,pos,af,g⟩ n e w (fun v w'=>∃ A' c',v=.slice A' l2.length c'∧Own w' b0 E sz enc A' c' l2∧Below w.heap.size w w'):=fun a hf=>Xgm hf hx hy hT hi hsz hone hb hr h63 hbytes
end Go.Proofs.YtblmmikapnflcaaGreatDoor
namespace Go.Proofs.YtblmmikapnflcaaGreatDoor
open Go.RowKit Go.Sort
theorem X60{w:World}{g n:Nat}{os:Array Obj}{cur:Array Value}{e:TypeId}{fr:Nat×Nat}(d:Array Int)(hb:w.heap[g]? = some (.cells cur e fr)) :
  (grow (putRow (Value.int .i64) (Sort.ahead w n) g 0 d) os).heap[g]? = some (.cells (putCells (Value.int .i64) 0 d cur) e fr):=by
 have hg:g<w.heap.size:=(Qp.1 hb).1
 rw [heap_grow_old _ _ (by simpa using hg)]
 simp [putRow,mapBlock,Sort.ahead,Array.getElem?_modify,hb,onCells]
theorem X4z{w:World}{g n:Nat}{os:Array Obj}(d:Array Int) : w.grownBy (grow (putRow (Value.int .i64) (Sort.ahead w n) g 0 d) os) (some g):=by
 refine ⟨rfl,rfl,rfl,by simp,fun k hk hne=>?_⟩
 rw [heap_grow_old _ _ (by simpa using hk)]
 have:g≠k:=fun e=>hne (by rw [e])
 simp [putRow,mapBlock,Sort.ahead,Array.getElem?_modify,this]
theorem Xbv(l:List Int) : l.flatMap encI=l.map (Value.int .i64):=by
 induction l with
 | nil=>rfl
 | cons x l ih=>simp only [Wc,List.map_cons,ih];rfl
theorem Xfj(cur:Array Value)(d ts:List Int)(h:d.length≤cur.size)(ht:d.take ts.length=ts) : (putCells (Value.int .i64) 0 d.toArray cur).toList.take (ts.length*1)=ts.flatMap encI:=by
 have hl:ts.length≤d.length:=by
  have:=congrArg List.length ht
  rw [Qn] at this
  omega
 rw [Xbv,Nat.mul_one]
 apply List.ext_getElem?
 intro j
 by_cases hj:j<ts.length
 ·rw [Wg hj,Array.getElem?_toList]
  have h1:ts[j]? = d[j]?:=by
   conv=>lhs;rw [← ht]
   rw [Wg hj]
  have h2:j<d.length:=by omega
  rw [List.getElem?_map,h1]
  simp [putCells,h2,show j<cur.size by omega]
 ·rw [List.getElem?_take_eq_none (by omega),List.getElem?_eq_none (by simp;omega)]
theorem Xay{w:World}{g:Nat}{cur:Array Value}{e:TypeId}{l:List Int}(hb:w.heap[g]? = some (.cells cur e (0,0)))(ht:cur.toList.take (l.length*1)=l.flatMap encI) : Holds (Value.int .i64) w g 0 l.toArray:=by
 intro j hj
 have hj':j<l.length:=by simpa using hj
 refine ⟨?_,by simp [World.frozen?,hb]⟩
 rw [Xbv,Nat.mul_one] at ht
 have h1:(cur.toList.take l.length)[j]? = (l.map (Value.int .i64))[j]?:=by rw [ht]
 rw [Wg hj'] at h1
 simp only [World.cell?,hb,Nat.zero_add]
 simp only [Option.isSome_none,Bool.false_eq_true,if_false]
 rw [← Array.getElem?_toList,h1]
 simp [hj']
def sortI(l:List Int) : List Int:=l.mergeSort fun x y=>decide (x≤y)
theorem F94(w0:World)(B0:Nat)(A:Option Addr)(c:Nat)(l:List Int)(ho:Own w0 B0 3 1 encI A c l)(hl:l.length≤1000000000) :
  Ret Tryz.prog 188 [.slice A l.length c] w0 (fun _ w=>Own w B0 3 1 encI A c (sortI l)∧w0.grownBy w (Value.slice A l.length c).ownBlock):=by
 by_cases h0:l=[]
 ·subst h0
  refine Calls.mono (Any.slices_Sort_int_none Tryz.lays189 A c w0) fun e w ⟨e1,e2⟩=>⟨_,e1,?_⟩
  subst e2
  exact ⟨by simpa [sortI] using ho,World.grownBy.refl w _⟩
 ·rcases ho.2 with ⟨h1,h2⟩|⟨g,cap,cur,h1,h2,h3,h4,h5,h6,h7⟩
  ·exact absurd (List.eq_nil_of_length_eq_zero h2) h0
  ·injection h1 with h1 _ h1''
   subst h1;subst h1''
   have hs:(sortI l).length=l.length:=by simp [sortI]
   refine Calls.mono (Tryz.slices_Sort_int g 0 c l w0 (Xay h3 h7) (Qp.1 h3).1 (by omega)) fun e w ⟨e1,n,os,e2⟩=>⟨_,e1,?_⟩
   subst e2
   refine ⟨⟨X02 X05 _,.inr ⟨g,c,_,by rw [hs],h2,X60 _ h3,by omega,h5,by simp [putCells,h6],?_⟩⟩,?_⟩
   ·exact Xfj cur (sortI l) (sortI l) (by omega) List.take_length
   ·exact X4z _
theorem Xef(l:List Int) : (Lib.compact l).length≤l.length:=by
 unfold Lib.compact Lib.compactUpTo
 rw [Qo]
 exact Q0 (List.length_filter_le _ _) (by simp)
theorem F95(w0:World)(B0:Nat)(A:Option Addr)(c:Nat)(l:List Int)(ho:Own w0 B0 3 1 encI A c l)(hl:l.length≤1000000000) :
  Ret Tryz.prog 189 [.slice A l.length c] w0 (fun v w=>v=.slice A (Lib.compact l).length c∧Own w B0 3 1 encI A c (Lib.compact l)∧w0.grownBy w (Value.slice A l.length c).ownBlock):=by
 by_cases h0:l=[]
 ·subst h0
  refine Calls.mono (Tryz.slices_Compact_int_empty A c w0) fun e w ⟨e1,e2⟩=>⟨_,e1,?_⟩
  subst e2
  exact ⟨rfl,ho,World.grownBy.refl w _⟩
 ·rcases ho.2 with ⟨h1,h2⟩|⟨g,cap,cur,h1,h2,h3,h4,h5,h6,h7⟩
  ·exact absurd (List.eq_nil_of_length_eq_zero h2) h0
  ·injection h1 with h1 _ h1''
   subst h1;subst h1''
   have hc:=Xef l
   refine Calls.mono (Tryz.slices_Compact_int g 0 c l w0 (Xay h3 h7) (by omega) h4) fun e w ⟨e1,q,e2⟩=>⟨_,e1,rfl,?_⟩
   have e3:w=grow (putRow (Value.int .i64) (Sort.ahead w0 q) g 0 (Lib.compact l++List.replicate (l.length-(Lib.compact l).length) 0).toArray) #[]:=by rw [grow_empty];exact e2
   subst e3
   refine ⟨⟨X02 X05 _,.inr ⟨g,c,_,rfl,h2,X60 _ h3,by omega,h5,by simp [putCells,h6],?_⟩⟩,?_⟩
   ·exact Xfj cur _ (Lib.compact l) (by simp;omega) List.take_left
   ·exact X4z _
theorem Y1a(w0:World)(B0:Nat)(A:Option Addr)(c:Nat)(l:List Int)(m:Nat)(hm:m=l.length)(ho:Own w0 B0 3 1 encI A c l)(hl:l.length≤1000000000) :
  Ret Tryz.prog 189 [.slice A m c] w0 (fun v w=>v=.slice A (Lib.compact l).length c∧Own w B0 3 1 encI A c (Lib.compact l)∧w0.grownBy w (Value.slice A l.length c).ownBlock):=by
 subst hm
 exact F95 w0 B0 A c l ho hl
def growRen:Go.Shelf.Ren:=⟨fun|4=>211|n=>n,fun|22=>43|25=>3|n=>n,fun|n=>n⟩
theorem Xil:Lays8.n4 Tryz.prog growRen:={
 mixed:=by kernel_rfl
 f4:=⟨Tryz.f211.name,by decide,Tryz.func211.trans (congrArg some (by kernel_rfl))⟩
 t0:=Tryz.underlying0
 a0:=Tryz.isAgg0
 z0:=Tryz.sizeOf0
 v0:=Tryz.zeroValue0
 t3:=Tryz.underlying3
 a3:=Tryz.isAgg3
 z3:=Tryz.sizeOf3
 v3:=Tryz.zeroValue3
 t4:=Tryz.underlying4
 a4:=Tryz.isAgg4
 z4:=Tryz.sizeOf4
 v4:=Tryz.zeroValue4
 t9:=Tryz.underlying9
 a9:=Tryz.isAgg9
 z9:=Tryz.sizeOf9
 v9:=Tryz.zeroValue9
 t20:=Tryz.underlying20
 a20:=Tryz.isAgg20
 z20:=Tryz.sizeOf20
 v20:=Tryz.zeroValue20
 t22:=Tryz.underlying43
 a22:=Tryz.isAgg43
 z22:=Tryz.sizeOf43
 v22:=Tryz.zeroValue43 }
theorem Y2b(w0:World)(n:Nat)(hn:n≤1000000000) : Ret Tryz.prog 211 [.slice none 0 0,.int .i64 (n:Int)] w0 (fun v w=>∃ A c,v=.slice A 0 c∧Own w w0.heap.size 3 1 encI A c ([] : List Int)∧Below w0.heap.size w0 w):=by
 by_cases h0:n=0
 ·subst h0
  refine Calls.mono (Any8.slices_Grow_room Xil none 0 0 0 w0 (by omega) (by omega) (by omega) (by omega)) fun e w ⟨e1,e2⟩=>⟨_,e1,none,0,rfl,?_⟩
  subst e2
  exact ⟨Own.nil _ _ _ _ _,Below.refl _ _⟩
 ·obtain ⟨i,z,hi1,hi2,hi3,hi4,hi5,hi6⟩:=X1u
  refine Calls.mono (Any8.slices_Grow_grow Xil i z hi1 hi2 (by omega) none 0 0 n [] w0 (by omega) (by omega) (by rw [hi4];omega) (by omega) (by simp) (fun _=>rfl) (fun a h=>by cases h)) fun e w ⟨e1,e2⟩=>⟨_,e1,_,_,rfl,?_⟩
  subst e2
  have hge:=grownCap_ge w0 (0+n) 0 (growRen.t 25)
  refine ⟨⟨rfl,.inr ⟨w0.heap.size,_,_,rfl,Qb _,heap_alloc_new w0.drew _,Qf _,grownCap_le_maxLen w0 _ _ _ (by simp only [maxLen];omega),?_,by simp⟩⟩,((Below.refl _ _).drew).alloc (Qb _) _⟩
  simp only [Array.size_append,List.size_toArray,size_zeroCells,hi5,List.length_nil,Nat.zero_add,Nat.mul_one] at hge ⊢
  omega
end Go.Proofs.YtblmmikapnflcaaGreatDoor
namespace Go.Proofs.YtblmmikapnflcaaGreatDoor
open Go.RowKit
structure Sl where (A:Option Addr) (c:Nat) (l:List Int)
def encS(s:Sl) : List Value:=[.slice s.A s.l.length s.c]
theorem X3h:∀ x,(encS x).length=1:=fun _=>rfl
theorem Xpa:∀ x,(encS x).all one=true:=fun _=>rfl
structure Rp where (pos:Int) (old new:List Gt)
theorem X5t{α β:Type}{f:α→List β}{l:List α}{k:Nat}{u:α}(h:l[k]? = some u) : (l.take (k+1)).flatMap f=(l.take k).flatMap f++f u:=by
 rw [Qt,h]
 simp
theorem X5s{α β:Type}(f:α→List β)(l:List α)(k:Nat) : ((l.take k).flatMap f).length≤(l.flatMap f).length:=by
 conv=>rhs;rw [← W9 k l]
 rw [List.flatMap_append,Qh]
 omega
theorem Xas{α β:Type}(f:α→List β){l:List α}{k:Nat}(h:l.length≤k) : (l.take k).flatMap f=l.flatMap f:=by rw [Qi h]
def unionI(p q:List Int) : List Int:=Lib.compact (sortI (p++(q++[])))
def qubI(g:Gt) : List Int:=if g.k=12 then [] else if inR g.k 9 11=true then [g.a,g.b] else [g.a]
def usedI(l:List Gt) : List Int:=unionI (l.flatMap qubI) []
theorem X3l(g:Gt) : (qubI g).length≤2:=by unfold qubI;split<;>(try split)<;>simp
def setAll:List Int→Nat→List Int→List Int
 | [],_,to=>to
 | q::l,i,to=>setAll l (i+1) (to.set q.toNat (i:Int))
def numbI(l:List Int) : List Int:=setAll l 0 [0,0,0,0,0]
theorem X9q:∀ (l:List Int) (i:Nat) (to:List Int),(setAll l i to).length=to.length
 | [],_,_=>rfl
 | _::l,i,to=>by rw [setAll,X9q l];simp
theorem X8a:∀ (l:List Int) (q:Int) (i:Nat) (to:List Int),setAll (l++[q]) i to=(setAll l i to).set q.toNat ((i+l.length:Nat) : Int)
 | [],q,i,to=>by simp [setAll]
 | x::l,q,i,to=>by
  rw [Wa,setAll,setAll,X8a l]
  congr 2
  simp only [Qs]
  omega
theorem Xak{l:List Int}{k:Nat}{u:Int}(h:l[k]? = some u) : numbI (l.take (k+1))=(numbI (l.take k)).set u.toNat (k:Int):=by
 have hk:=(Qg.1 h).1
 unfold numbI
 rw [Qt,h,Option.toList_some,X8a,Qn,Nat.min_eq_left (by omega),Nat.zero_add]
theorem X74(l:List Int) : (numbI l).length=5:=by rw [numbI,X9q];rfl
def mapG(to:List Int)(g:Gt) : Gt:=⟨g.k,if g.k=12 then g.a else to.getD g.a.toNat 0,if inR g.k 9 11=true then to.getD g.b.toNat 0 else g.b⟩
def mapI(l:List Gt)(to:List Int) : List Gt:=l.map (mapG to)
theorem X9n{α β:Type}{f:α→β}{l:List α}{k:Nat}{u:α}(h:l[k]? = some u) : (l.take (k+1)).map f=(l.take k).map f++[f u]:=by
 rw [Qt,h]
 simp
theorem X75{l:List Int}{k:Nat}(h:k<l.length) : l[k]? = some (l.getD k 0):=by
 rw [Qa,Qc h];rfl
def vrI(n:Int)(r:Rp) : Bool:=inR n 1 5&&inR r.pos 0 400&&decide ((r.old.length:Int)≤40)&&decide ((r.new.length:Int)≤40)&&!(r.old.any fun x=>!gOk n x)&&!(r.new.any fun x=>!gOk n x)
def oA(A:Option Addr)(m:Nat) : Addr:=match A with
 | some p=>⟨p.block,m,none⟩
 | none=>⟨0,m,none⟩
theorem X3i{l vs:List Value}{off:Nat}(h:off+vs.length≤l.length)(i:Nat) : (splice l off vs)[i]? = if i<off then l[i]? else if i<off+vs.length then vs[i-off]? else l[i]?:=by
 unfold splice
 have h1:(l.take off).length=off:=by rw [Qn];omega
 by_cases h2:i<off
 ·rw [Q4 h2,Qx,List.getElem?_append_left (by omega),Wg h2]
 ·rw [Q3 h2]
  by_cases h3:i<off+vs.length
  ·rw [Q4 h3,List.getElem?_append_left (by rw [Qh];omega),W5 (by omega),h1]
  ·rw [Q3 h3,W5 (by rw [Qh];omega),Qh,h1,List.getElem?_drop]
   congr 1
   omega
theorem X3s{l vs:List Value}{off:Nat}(h:off+vs.length≤l.length) : (splice l off vs).length=l.length:=by
 unfold splice
 simp only [Qh,Qn,List.length_drop]
 omega
theorem Xdn{l x vs:List Value}{o j:Nat}(hx:∀ i,i<x.length→l[o+i]? = x[i]?)(h1:o+x.length≤l.length)(h2:j+vs.length≤x.length) : splice l (o+j) vs=splice l o (splice x j vs):=by
 have h3:=X3s h2
 apply List.ext_getElem?
 intro i
 rw [X3i (by omega),X3i (by omega),h3]
 by_cases a1:i<o
 ·rw [Q4 (by omega),Q4 a1]
 ·rw [Q3 a1]
  by_cases a2:i<o+x.length
  ·rw [Q4 a2,X3i h2]
   by_cases a3:i<o+j
   ·rw [Q4 a3,Q4 (show i-o<j by omega),← hx (i-o) (by omega)];congr 1;omega
   ·rw [Q3 a3,Q3 (show ¬ i-o<j by omega)]
    by_cases a4:i<o+j+vs.length
    ·rw [Q4 a4,Q4 (show i-o<j+vs.length by omega)];congr 1;omega
    ·rw [Q3 a4,Q3 (show ¬ i-o<j+vs.length by omega),← hx (i-o) (by omega)];congr 1;omega
  ·rw [Q3 a2,Q3 (by omega),Q3 (by omega)]
theorem Xeu{l vs:List Value}{off N:Nat}(h:off+vs.length≤N)(hN:N≤l.length) : (splice l off vs).take N=splice (l.take N) off vs:=by
 apply List.ext_getElem?
 intro i
 by_cases hi:i<N
 ·rw [Wg hi,X3i (by omega),X3i (by rw [Qn];omega),Wg hi]
 ·rw [List.getElem?_take_eq_none (by omega),List.getElem?_eq_none]
  rw [X3s (by rw [Qn];omega),Qn];omega
theorem Xi5{α:Type}{enc:α→List Value}{sz:Nat}(hsz:∀ x,(enc x).length=sz) : ∀ (l:List α) (k i:Nat) (x:α),l[k]? = some x→i<sz→(l.flatMap enc)[k*sz+i]? = (enc x)[i]?
 | [],k,i,x,h,_=>by simp at h
 | y::l,0,i,x,h,hi=>by
  simp at h;subst h
  rw [Wc,Nat.zero_mul,Nat.zero_add,List.getElem?_append_left (by rw [hsz];exact hi)]
 | y::l,k+1,i,x,h,hi=>by
  have h':l[k]? = some x:=by simpa using h
  have e:(k+1)*sz+i=sz+(k*sz+i):=by rw [Wb];omega
  rw [Wc,e,W5 (by rw [hsz];omega),hsz,Nat.add_sub_cancel_left]
  exact Xi5 hsz l k i x h' hi
section
variable {P : Program} {a : Act} {w w' : World} {n : Nat} {e : Env} {ty : TypeId} {pos : String} {af : Array Edge} {g : Option (Nat × Bool)} {d : Option Tmp} {α : Type}
theorem Xfy{T E:TypeId}{sz B0 k m:Nat}{x y:Operand}{enc:α→List Value}{A:Option Addr}{c:Nat}{l:List α}{i:Int}(hf:Fr a n e)(hx:ev e x=some (.slice A m c))(hy:ev e y=some (.int .i64 i))(hT:SliceT P T E)(hs:SizeT P E sz)
  (ho:Own w' B0 E sz enc A c l) (hm:m=l.length) (hi:i=(k:Int)) (hk:k<l.length) : Ev P ⟨d,.indexAddr T x y,ty,pos,af,g⟩ a w (.pointer (some (oA A (k*sz)))):=by
 subst hm
 rcases ho.2 with ⟨h1,h2⟩|⟨b,cap,cur,h1,h2,h3,h4⟩
 ·omega
 ·injection h1 with h1
  rw [h1] at hx ⊢
  exact Xbc (b:=b) (off:=k*sz) hf hx hy hT hs hi hk rfl
theorem X57{T E:TypeId}{sz B0 k m:Nat}{x y:Operand}{enc:α→List Value}{A:Option Addr}{c:Nat}{l:List α}{i:Int}(hx:ev e x=some (.slice A m c))(hy:ev e y=some (.int .i64 i))(hT:SliceT P T E)(hs:SizeT P E sz)(ho:Own w' B0 E sz enc A c l)(hm:m=l.length)(hi:i=(k:Int))(hk:k<l.length) : EvW P ⟨d,.indexAddr T x y,ty,pos,af,g⟩ n e w (.pointer (some (oA A (k*sz)))):=fun a hf=>Xfy hf hx hy hT hs ho hm hi hk
theorem Xff{T f k m:Nat}{x:Operand}{A:Option Addr}(hf:Fr a n e)(hx:ev e x=some (.pointer (some (oA A m))))(hF:FieldT P T f k){m':Nat}(hm:m+k=m') : Ev P ⟨d,.fieldAddr T x f,ty,pos,af,g⟩ a w (.pointer (some (oA A m'))):=by
 subst hm
 have h:=X9i (P:=P) (w:=w) (d:=d) (ty:=ty) (pos:=pos) (af:=af) (g:=g) hf hx hF
 have e:(oA A m).add k=oA A (m+k):=by cases A<;>simp [oA,Addr.add]
 rw [e] at h
 exact h
theorem X5y{T f k m:Nat}{x:Operand}{A:Option Addr}(hx:ev e x=some (.pointer (some (oA A m))))(hF:FieldT P T f k){m':Nat}(hm:m+k=m') : EvW P ⟨d,.fieldAddr T x f,ty,pos,af,g⟩ n e w (.pointer (some (oA A m'))):=fun a hf=>Xff hf hx hF hm
theorem Xdx{t E:TypeId}{sz B0 k j m n1:Nat}{x y:Operand}{enc:α→List Value}{A:Option Addr}{c:Nat}{l:List α}{v:Value}{vs:List Value}{x0 u:α}(hf:Fr a n e)(hx:ev e x=some (.pointer (some (oA A m))))(hy:ev e y=some v)(hs:SizeT P t n1)
  (ho:Own w B0 E sz enc A c l) (hsz:∀ x,(enc x).length=sz) (hv:v.cells.toList=vs) (hn:Nat.beq vs.length n1=true) (h1:vs.all one=true) (hm:k*sz+j=m) (hj:j+n1≤sz) (hk:l[k]? = some x0) (hu:splice (enc x0) j vs=enc u) :
  Ef P ⟨d,.store t x y,ty,pos,af,g⟩ a w (fun _ w'=>Own w' B0 E sz enc A c (l.set k u)∧w.grownBy w' (Value.slice A l.length c).ownBlock):=by
 have hkl:k<l.length:=(Qg.1 hk).1
 rcases ho.2 with ⟨e1,e2⟩|⟨b,cap,cur,e1,e2,e3,e4,e5,e6,e7⟩
 ·omega
 ·injection e1 with e1 _ e1'
  subst hm;subst e1'
  have hcl:cur.toList.length=c*sz:=Array.length_toList.trans e6
  have hN:l.length*sz≤cur.toList.length:=by rw [hcl];exact Nat.mul_le_mul_right _ e4
  have hks:k*sz+sz≤l.length*sz:=by
   have:=Nat.mul_le_mul_right sz (show k+1≤l.length by omega)
   rwa [Wb,Nat.one_mul] at this
  have hn':vs.length=n1:=Nat.eq_of_beq_eq_true hn
  rw [e1] at hx
  have hb:Blk w b E cur.toList:=by unfold Blk;rw [e3]
  refine (X9x (b:=b) (off:=k*sz+j) (vs:=vs) hf hx hy hs hb hv hn h1 (by rw [Nat.ble_eq];omega) rfl).mono fun _ w' ⟨hO,hB⟩=>?_
  have hlen:((l.set k u).flatMap enc).length=(l.set k u).length*sz:=X02 hsz _
  refine ⟨⟨hlen,.inr ⟨b,c,_,by rw [e1],e2,hB,by simp;omega,e5,?_,?_⟩⟩,?_⟩
  ·rw [List.size_toArray,X3s (by omega),hcl]
  ·simp only [List.length_set]
   rw [Xeu (by omega) hN,e7,Xdn (x:=enc x0) (fun i hi=>?_) (by rw [X02 hsz,hsz];omega) (by rw [hsz];omega),hu]
   ·exact X4g hsz l k u hkl
   ·exact Xi5 hsz l k i x0 hk (by rw [← hsz x0];exact hi)
  ·rw [e1]
   exact ⟨hO.os,hO.tape,hO.output,by rw [hO.size];exact Qb _,fun q _ hne=>hO.block q fun e=>hne (by rw [e];rfl)⟩
theorem X5n{t E:TypeId}{sz B0 k j m n1:Nat}{x y:Operand}{enc:α→List Value}{A:Option Addr}{c:Nat}{l:List α}{v:Value}{vs:List Value}{x0 u:α}(hx:ev e x=some (.pointer (some (oA A m))))(hy:ev e y=some v)(hs:SizeT P t n1)(ho:Own w B0 E sz enc A c l)(hsz:∀ x,(enc x).length=sz)(hv:v.cells.toList=vs)(hn:Nat.beq vs.length n1=true)(h1:vs.all one=true)(hm:k*sz+j=m)(hj:j+n1≤sz)(hk:l[k]? = some x0)(hu:splice (enc x0) j vs=enc u) : EfW P ⟨d,.store t x y,ty,pos,af,g⟩ n e w (fun _ w'=>Own w' B0 E sz enc A c (l.set k u)∧w.grownBy w' (Value.slice A l.length c).ownBlock):=fun a hf=>Xdx hf hx hy hs ho hsz hv hn h1 hm hj hk hu
end
section
variable {P : Program} {ops : Array Oper} {a : Act} {w : World} {n d : Nat} {e : Env} {ty : TypeId} {pos : String} {af : Array Edge} {g : Option (Nat × Bool)} {α : Type}
end
def Apart(A A':Option Addr) : Prop:=∀ p q,A=some p→A'=some q→p.block≠q.block
section
variable {α β : Type} {w w' : World} {B B0 B1 : Nat} {E E' : TypeId} {sz sz' : Nat} {enc : α → List Value} {enc' : β → List Value} {A A' : Option Addr} {c c' : Nat} {l : List α} {l' : List β}
theorem Own.apart(h:Own w B E sz enc A c l)(h':Own w' B0 E' sz' enc' A' c' l')(hB:w.heap.size≤B0) : Apart A A':=fun p q hp hq=>by
 rcases h.2 with ⟨h1,_⟩|⟨g,cap,cur,h1,h2,h3,_⟩
 ·injection h1 with h1;rw [h1] at hp;cases hp
 ·rcases h'.2 with ⟨k1,_⟩|⟨g',cap',cur',k1,k2,k3,_⟩
  ·injection k1 with k1;rw [k1] at hq;cases hq
  ·injection h1 with h1
   injection k1 with k1
   rw [h1] at hp
   rw [k1] at hq
   injection hp with hp
   injection hq with hq
   subst hp;subst hq
   have:=(Qp.1 h3).1
   intro e
   simp only at e
   omega
theorem Own.appP(h:Own w B1 E' sz' enc' A' c' l')(hg:w.grownBy w' (Value.slice A l.length c).ownBlock)(ha:Apart A' A) : Own w' B1 E' sz' enc' A' c' l':=by
 refine ⟨h.1,?_⟩
 rcases h.2 with h1|⟨g,cap,cur,h1,h2,h3,h4⟩
 ·exact .inl h1
 ·refine .inr ⟨g,cap,cur,h1,h2,(hg.block g (Qp.1 h3).1 fun hk=>?_).trans h3,h4⟩
  injection h1 with h1
  cases A with
  | none=>simp [Value.ownBlock] at hk
  | some q=>
   simp only [Value.ownBlock,Option.some.injEq] at hk
   exact ha _ q h1 rfl hk
theorem gbel{r:Option Nat}{w0 w w':World}(h:w0.grownBy w r)(hE:Below w.heap.size w w') : w0.grownBy w' r:=
 ⟨hE.os.trans h.os,hE.tape.trans h.tape,hE.output.trans h.output,Q0 h.size hE.size,fun k hk hn=>(hE.block k (Nat.lt_of_lt_of_le hk h.size)).trans (h.block k hk hn)⟩
theorem Xd0(A:Option Addr)(n m c d:Nat) : (Value.slice A n c).ownBlock=(Value.slice A m d).ownBlock:=by cases A<;>rfl
theorem gtr{A:Option Addr}{n m c d:Nat}{w0 w w':World}(h:w0.grownBy w (Value.slice A n c).ownBlock)(k:w.grownBy w' (Value.slice A m d).ownBlock) : w0.grownBy w' (Value.slice A n c).ownBlock:=
 ⟨k.os.trans h.os,k.tape.trans h.tape,k.output.trans h.output,Q0 h.size k.size,fun q hq hn=>(k.block q (Nat.lt_of_lt_of_le hq h.size) (by rw [Xd0 A m n d c];exact hn)).trans (h.block q hq hn)⟩
theorem Own.len{m:Nat}(h:Own w B E sz enc A c l)(hm:m=l.length) : Own w B E sz enc A c l∧Value.slice A m c=Value.slice A l.length c:=⟨h,by rw [hm]⟩
theorem Apart.symm(h:Apart A A') : Apart A' A:=fun p q hp hq e=>h q p hq hp e.symm
end
def DeepI(w:World)(B:Nat)(l:List Sl) : Prop:=∀ s ∈ l,Rd w B 3 encI s.A s.l
section
variable {w w' : World} {B : Nat} {l : List Sl}
theorem DeepI.below(h:DeepI w B l)(hb:Below w.heap.size w w') : DeepI w' B l:=fun s hs=>(h s hs).below hb
theorem DeepI.top(h:DeepI w B l) : DeepI w w.heap.size l:=fun s hs=>(h s hs).top
theorem DeepI.only{b:Nat}(h:DeepI w B l)(ho:Only b w w')(hB:B≤b) : DeepI w' B l:=fun s hs=>(h s hs).only ho hB
theorem DeepI.onlyT{b:Nat}{T:TypeId}{lc:List Value}(h:DeepI w B l)(ho:Only b w w')(hb:Blk w b T lc)(hT:Nat.beq 3 T=false) : DeepI w' B l:=fun s hs=>(h s hs).onlyT ho hb hT
theorem DeepI.appB{B0:Nat}{E':TypeId}{sz:Nat}{α:Type}{enc:α→List Value}{A:Option Addr}{c:Nat}{m:List α}(h:DeepI w B l)(ho:Own w B0 E' sz enc A c m)(hg:w.grownBy w' (Value.slice A m.length c).ownBlock)(hB:B≤B0) : DeepI w' B l:=fun s hs=>(h s hs).appB ho hg hB
theorem DeepI.appT{B0:Nat}{E':TypeId}{sz:Nat}{α:Type}{enc:α→List Value}{A:Option Addr}{c:Nat}{m:List α}(h:DeepI w B l)(ho:Own w B0 E' sz enc A c m)(hg:w.grownBy w' (Value.slice A m.length c).ownBlock)(hT:Nat.beq E' 3=false) : DeepI w' B l:=fun s hs=>(h s hs).appT ho hg hT
theorem DeepI.nil(w:World)(B:Nat) : DeepI w B []:=fun s hs=>by cases hs
theorem DeepI.snoc{s:Sl}(h:DeepI w B l)(hr:Rd w B 3 encI s.A s.l) : DeepI w B (l++[s]):=fun t ht=>by
 rcases Qu.1 ht with h1|h1
 ·exact h t h1
 ·rw [Qm] at h1;subst h1;exact hr
theorem DeepI.eq{l':List Sl}(h:DeepI w B l)(e:l'=l) : DeepI w B l':=by rw [e];exact h
end
def LowI(B:Nat)(l:List Sl) : Prop:=∀ s ∈ l,∀ p,s.A=some p→B≤p.block
def Und(A:Option Addr)(B:Nat) : Prop:=∀ p,A=some p→p.block<B
theorem LowI.nil(B:Nat) : LowI B []:=fun s hs=>by cases hs
theorem LowI.snoc{B:Nat}{l:List Sl}{s:Sl}(h:LowI B l)(hs:∀ p,s.A=some p→B≤p.block) : LowI B (l++[s]):=fun t ht=>by
 rcases Qu.1 ht with h1|h1
 ·exact h t h1
 ·rw [Qm] at h1;subst h1;exact hs
section
variable {α : Type} {w w' : World} {B B1 : Nat} {E : TypeId} {sz : Nat} {enc : α → List Value} {A : Option Addr} {c : Nat} {l : List α} {m : List Sl}
end
theorem Apart.of_away{A:Option Addr}{b:Nat}(h:Away A b) : Apart A (some ⟨b,0,none⟩):=fun p q hp hq e=>h p hp (by injection hq with hq;rw [e,← hq])
theorem Apart.app{α:Type}{w:World}{B:Nat}{E:TypeId}{sz:Nat}{enc:α→List Value}{A A1 A2:Option Addr}{c:Nat}{l:List α}(h:Own w B E sz enc A c l)(ha:Apart A A1)(hat:∀ b,b<w.heap.size→Away A1 b→Away A2 b) : Apart A A2:=by
 intro p q hp hq
 rcases h.2 with ⟨h1,_⟩|⟨g,cap,cur,h1,_,h3,_⟩
 ·injection h1 with h1;rw [h1] at hp;cases hp
 ·injection h1 with h1
  rw [h1] at hp
  injection hp with hp
  have hlt:p.block<w.heap.size:=by rw [← hp];exact (Qp.1 h3).1
  have haw:Away A1 p.block:=fun r hr e=>ha p r (by rw [h1,hp]) hr e.symm
  exact fun e=>hat _ hlt haw q hq e.symm
theorem Xex{α:Type}{P:Program}{a:Act}{w:World}{n:Nat}{e:Env}{ty:TypeId}{pos:String}{af:Array Edge}{g:Option (Nat×Bool)}{d:Option Tmp}{T E:TypeId}{sz bytes B b0:Nat}{x y:Operand}{enc:α→List Value}{A2:Option Addr}{c2:Nat}{l2:List α}(hf:Fr a n e)(hx:ev e x=some (.slice (some ⟨b0,0,none⟩) 0 0))(hy:ev e y=some (.slice A2 l2.length c2))
  (hT:SliceT P T E) (hi:InfoT P E sz bytes) (hsz:∀ x,(enc x).length=sz) (hone:∀ x,(enc x).all one=true) (hb:Blk w b0 E []) (hr:Rd w B E enc A2 l2) (h63:l2.length≤maxLen) (hbytes:l2.length*bytes≤140737488355328) :
  Ef P ⟨d,.call ⟨.builtin .append,#[x,y],#[T,T]⟩,ty,pos,af,g⟩ a w (fun v w'=>∃ A' c',v=.slice A' l2.length c'∧Own w' b0 E sz enc A' c' l2∧Below w.heap.size w w'∧∀ b,b<w.heap.size→b≠b0→Away A' b):=by
 by_cases hl2:l2=[]
 ·subst hl2
  obtain ⟨i,z,hi1,hi2,hi3,hi4,hi5,hi6⟩:=hi
  have hrun:(Builtin.append_ #[T,T] ty #[.slice (some ⟨b0,0,none⟩) 0 0,.slice A2 0 c2]).run P w=.ok (.slice (some ⟨b0,0,none⟩) 0 0) w:=by
   cases A2<;>simp [Builtin.append_,X13 hT,sizeOf,typeInfo,hi1,Builtin.lenOf,Builtin.firstCells,loadCells,loadCellsFrom,storeCells]
  refine (Ef.of_run (v:=.slice (some ⟨b0,0,none⟩) 0 0) (w':=w) ?_).mono fun v w' ⟨e1,e2⟩=>?_
  ·simp only [List.length_nil] at hy
   simp [execOp,resolve,invoke,builtin,hf.ev hx,hf.ev hy,hrun]
  ·subst e1;subst e2
   exact ⟨_,_,rfl,Own.empty hb (Qb _),Below.refl _ _,fun b _ hne=>Away.ne hne⟩
 ·have hown:Own w b0 E sz enc (some ⟨b0,0,none⟩) 0 ([] : List α):=Own.empty hb (Qb _)
  obtain ⟨i,z,hi1,hi2,rfl,rfl,hi5,hi6⟩:=hi;obtain ⟨b,off,cs,fz,rfl,h2,h3,h4⟩:=hr hl2;have hlen2:=X02 hsz l2
  have hpos:0<l2.length:=List.length_pos_iff.2 hl2
  have h:=run_append_grow (P:=P) w T ty E i z hT hi1 hi2 ⟨b0,0,none⟩ 0 0 [] (by simp) (fun j u hu=>by simp at hu)
   ⟨b,off,none⟩ l2.length c2 (l2.flatMap enc) hlen2 (fun j u hu=>by
    have:=h4 j u hu
    rw [X1n]
    simp [World.cell?,h3,this])
   (by omega) (by simp only [maxLen] at h63;omega) (growslice_fits (by omega) (by simpa using hbytes))
  simp only [Nat.zero_add] at h
  refine (Ef.of_run (w':=w.drew.alloc (.cells (([] : List Value).toArray++(l2.flatMap enc).toArray++Builtin.zeroCells z.cells (grownCap w l2.length 0 E-l2.length)) E)) (v:=.slice (some ⟨w.heap.size,0,none⟩) l2.length (grownCap w l2.length 0 E)) ?_).mono fun v w' ⟨e1,e2⟩=>?_
  ·simp [execOp,resolve,invoke,builtin,hf.ev hx,hf.ev hy,h]
  ·subst e1;subst e2
   have hb0:=hb.lt;have hge:=grownCap_ge w l2.length 0 E
   refine ⟨_,_,rfl,?_,((Below.refl _ _).drew).alloc (Qb _) _,fun b hb _=>Away.ne (by omega)⟩
   refine ⟨X02 hsz _,.inr ⟨w.heap.size,_,_,rfl,by omega,heap_alloc_new w.drew _,hge,grownCap_le_maxLen w _ _ E h63,?_,?_⟩⟩
   ·simp only [Array.size_append,List.size_toArray,size_zeroCells,hi5,hlen2,List.length_nil,Nat.zero_add,← Wb]
    congr 1
    omega
   ·rw [← hlen2]
    simp only [Array.toList_append,Qx,List.nil_append]
    exact List.take_left
theorem X12{α:Type}{P:Program}{w:World}{n:Nat}{e:Env}{ty:TypeId}{pos:String}{af:Array Edge}{g:Option (Nat×Bool)}{d:Option Tmp}{T E:TypeId}{sz bytes B b0:Nat}{x y:Operand}{enc:α→List Value}{A2:Option Addr}{c2:Nat}{l2:List α}(hx:ev e x=some (.slice (some ⟨b0,0,none⟩) 0 0))(hy:ev e y=some (.slice A2 l2.length c2))(hT:SliceT P T E)(hi:InfoT P E sz bytes)(hsz:∀ x,(enc x).length=sz)(hone:∀ x,(enc x).all one=true)(hb:Blk w b0 E [])(hr:Rd w B E enc A2 l2)(h63:l2.length≤maxLen)(hbytes:l2.length*bytes≤140737488355328) : EfW P ⟨d,.call ⟨.builtin .append,#[x,y],#[T,T]⟩,ty,pos,af,g⟩ n e w (fun v w'=>∃ A' c',v=.slice A' l2.length c'∧Own w' b0 E sz enc A' c' l2∧Below w.heap.size w w'∧∀ b,b<w.heap.size→b≠b0→Away A' b):=fun a hf=>Xex hf hx hy hT hi hsz hone hb hr h63 hbytes
theorem Apart.new0{α:Type}{w:World}{B b0:Nat}{E:TypeId}{sz:Nat}{enc:α→List Value}{A A':Option Addr}{c:Nat}{l:List α}(h:Own w B E sz enc A c l)(ha:Away A b0)(hat:∀ b,b<w.heap.size→b≠b0→Away A' b) : Apart A A':=fun p q hp hq e=>by
 rcases h.2 with ⟨h1,_⟩|⟨g,cap,cur,h1,_,h3,_⟩
 ·injection h1 with h1;rw [h1] at hp;cases hp
 ·injection h1 with h1
  rw [h1] at hp
  injection hp with hp
  have hlt:p.block<w.heap.size:=by rw [← hp];exact (Qp.1 h3).1
  exact hat _ hlt (ha p (by rw [h1,hp])) q hq e.symm
section
variable {P : Program} {ops : Array Oper} {V : Option Nat} {tl : Nat → Bool} {Q : Act → World → Prop} {fuel : Nat} {done : List Nat} {w : World} {o : Oper} {op : Op} {ty : TypeId} {pos : String} {af : Array Edge} {g : Option (Nat × Bool)} {n d : Nat} {e : Env} {v : Value} {R : Value → World → Prop} {x : Operand}
theorem Xuh{a:Act}(i j k l:Nat)(hr:Region.ready .any ops (mask ops done)=[i,j,k,l])(hi:wpR P ops V tl i (wpS P ops V tl Q fuel (mask ops (i::done))) a w)
  (hj:wpR P ops V tl j (wpS P ops V tl Q fuel (mask ops (j::done))) a w) (hk:wpR P ops V tl k (wpS P ops V tl Q fuel (mask ops (k::done))) a w) (hl:wpR P ops V tl l (wpS P ops V tl Q fuel (mask ops (l::done))) a w) : wpS P ops V tl Q (fuel+1) (mask ops done) a w:=by
 refine ⟨fun h0=>(by rw [hr] at h0;cases h0),fun m hm=>?_⟩
 rw [hr] at hm
 rw [X3k]
 simp only [Qv,List.not_mem_nil,or_false] at hm
 rcases hm with rfl|rfl|rfl|rfl
 ·exact hi
 ·exact hj
 ·exact hk
 ·exact hl
theorem Y4(i j k l:Nat)(hi:WR P ops V tl Q i fuel done n e w)(hj:WR P ops V tl Q j fuel done n e w)(hk:WR P ops V tl Q k fuel done n e w)(hl:WR P ops V tl Q l fuel done n e w)(hr:Region.ready .any ops (mask ops done)=[i,j,k,l]:=by kernel_rfl) : WS P ops V tl Q (fuel+1) done n e w:=fun a hf=>Xuh i j k l hr (hi a hf) (hj a hf) (hk a hf) (hl a hf)
end
def markI(k:Int)(n:Nat) : List Int:=(List.range n).map fun (j:Nat)=>k+(j:Int)
def markG(k:Int)(n:Nat) : List Gt:=(List.range n).map fun (j:Nat)=>⟨k+3*(j:Int),k+3*(j:Int)+1,k+3*(j:Int)+2⟩
theorem Xag{α:Type}{m:List α}{j:Nat}{x:α}(h:j<m.length) : (m.set j x).take (j+1)=m.take j++[x]:=by
 rw [Wf (by simpa using h),List.take_set_of_le (Qb _),List.getElem_set_self]
theorem Xhk{m:List Gt}{k:Int}{x:Gt}{j:Nat}(h:m.take j=markG k j)(hj:j<m.length)(h1:x.k=k+3*(j:Int))(h2:x.a=k+3*(j:Int)+1)(h3:x.b=k+3*(j:Int)+2) : (m.set j x).take (j+1)=markG k (j+1):=by
 have hx:x=⟨k+3*(j:Int),k+3*(j:Int)+1,k+3*(j:Int)+2⟩:=by cases x;simp at h1 h2 h3;simp [h1,h2,h3]
 rw [Xag hj,h,markG,markG,List.range_succ,List.map_append,hx];rfl
theorem X1x(k:Int)(n:Nat) : (markG k n).length=n:=by simp [markG]
theorem X5k{α:Type}{m:List α}{j:Nat}{x:α}(h:j<m.length) : (m.set j x)[j]? = some x:=List.getElem?_set_self h
def heldI:List Int→Int→Int
 | [],k=>k
 | x::l,k=>if x=k then heldI l (k+1) else -1
def heldG:List Gt→Int→Int
 | [],k=>k
 | x::l,k=>if x.k=k∧x.a=k+1∧x.b=k+2 then heldG l (k+3) else -1
theorem Xhm{α:Type}{l:List α}{j:Nat}{u:α}(h:l[j]? = some u) : l.drop j=u::l.drop (j+1):=by
 obtain ⟨h1,h2⟩:=Qg.1 h
 rw [Qy h1,h2]
theorem Xkg{l:List Gt}{j:Nat}{u:Gt}{k:Int}(h:l[j]? = some u) : heldG (l.drop j) k=if u.k=k∧u.a=k+1∧u.b=k+2 then heldG (l.drop (j+1)) (k+3) else -1:=by rw [Xhm h];rfl
theorem Xka{l:List Gt}{j:Nat}{k:Int}(h:l.length≤j) : heldG (l.drop j) k=k:=by rw [W3 h];rfl
theorem Xhd(k:Int)(n:Nat) : markG k (n+1)=⟨k,k+1,k+2⟩::markG (k+3) n:=by
 unfold markG
 rw [List.range_succ_eq_map,List.map_cons,List.map_map]
 congr 1
 ·simp
 ·apply List.map_congr_left
  intro j _
  simp only [Function.comp_apply,Nat.succ_eq_add_one,Gt.mk.injEq]
  refine ⟨?_,?_,?_⟩<;>push_cast<;>omega
theorem X3j:∀ (n:Nat) (k:Int),heldG (markG k n) k=k+3*(n:Int)
 | 0,k=>by simp [markG,heldG]
 | n+1,k=>by rw [Xhd,heldG,Q4 ⟨rfl,rfl,rfl⟩,X3j n];push_cast;omega
theorem X1m{x:Dy} : dOk x=true↔rOk x.num=true∧(0≤x.exp∧x.exp≤60)∧(x.exp=0∨rEven x.num=false):=by
 simp only [dOk,Qd,X01,Bool.or_eq_true,beq_iff_eq,Bool.not_eq_true',and_assoc]
theorem Xi8:∀ (m:Nat) (x:Rg),rOk x=true→m≤60→dOk (dLow x m)=true
 | 0,x,h,_=>by
  rw [X2d (by omega)]
  exact X1m.2 ⟨h,by simp,.inl rfl⟩
 | m+1,x,h,hm=>by
  by_cases he:rEven x=true
  ·rw [X3t (by omega) he,show ((m+1:Nat) : Int)-1=(m:Int) from by omega]
   exact Xi8 m _ (X6w h) (by omega)
  ·have he':rEven x=false:=by simpa using he
   rw [X2d fun _=>he']
   exact X1m.2 ⟨h,by dsimp only;omega,.inr he'⟩
theorem X97{x:Rg}{e:Int}(h:rOk x=true)(h0:0≤e)(h1:e≤60) : dOk (dLow x e)=true:=by
 obtain ⟨m,rfl⟩ : ∃ m:Nat,e=m:=⟨e.toNat,by omega⟩
 exact Xi8 m x h (by omega)
def Agree(o:Option Dy)(p:Bool×Dy) : Prop:=(∀ z,o=some z→p=(false,z)∧dOk z=true)∧(o=none→p.1=true)
theorem X4r{x y z:Rg}(hx:rOk x=true)(hy:rOk y=true) : rIf2 z [x,y]=rOk z:=by simp [rIf2,hx,hy]
theorem X7m{x z:Rg}(hx:rOk x=true) : rIf2 z [x]=rOk z:=by simp [rIf2,hx]
theorem Xkc{x y:Dy}(hx:dOk x=true)(hy:dOk y=true) : Agree (dMulI x y) (sMul false x y):=by
 have kx:=X1m.1 hx
 have ky:=X1m.1 hy
 unfold dMulI sMul
 rw [hx,hy,X4r kx.1 ky.1,rIf1,X4r kx.1 ky.1,Qw,Qw]
 by_cases hr:rOk (rMul x.num y.num)=true
 ·rw [Q4 hr,Q4 hr]
  unfold dOf
  rw [hr,Qw]
  by_cases he:60<x.exp+y.exp
  ·have h1:¬ inR (x.exp+y.exp) 0 60=true:=fun h=>by have:=X01.1 h;omega
   rw [Q3 h1,Q4 he]
   exact ⟨fun z h=>(by cases h),fun _=>rfl⟩
  ·have h1:inR (x.exp+y.exp) 0 60=true:=X01.2 (by omega)
   rw [Q4 h1,Q3 he,sRing,Q4 hr]
   exact ⟨fun z h=>(by injection h with h;subst h;exact ⟨rfl,X97 hr (by omega) (by omega)⟩),fun h=>by cases h⟩
 ·have hr':rOk (rMul x.num y.num)=false:=by simpa using hr
  rw [Q3 hr]
  refine ⟨fun z h=>(by cases h),fun _=>?_⟩
  by_cases he:60<x.exp+y.exp
  ·rw [Q4 he]
  ·rw [Q3 he,hr'];rfl
theorem X6i:∀ (n:Nat) (f:Bool) (x:Dy),(sRaiseN n f x).2.exp=x.exp+n
 | 0,f,x=>by simp [sRaiseN]
 | n+1,f,x=>by rw [sRaiseN,X6i n];dsimp only;omega
theorem X3m:∀ (n:Nat) (x:Dy),(sRaiseN n true x).1=true
 | 0,x=>rfl
 | n+1,x=>by rw [sRaiseN];exact X3m n _
theorem X4i:∀ (n:Nat) (x:Dy),rOk x.num=true→(raiseI n x.num).2=true→sRaiseN n false x=(false,⟨(raiseI n x.num).1,x.exp+n⟩)∧rOk (raiseI n x.num).1=true
 | 0,x,h,_=>⟨by simp [sRaiseN,raiseI],h⟩
 | n+1,x,h,hr=>by
  unfold raiseI at hr ⊢
  rw [X7m h] at hr ⊢
  by_cases h1:rOk (rRoot x.num)=true
  ·rw [Q4 h1] at hr ⊢
   rw [sRaiseN,h1,sRing,Q4 h1]
   have:=X4i n ⟨rRoot x.num,x.exp+1⟩ h1 hr
   refine ⟨?_,this.2⟩
   simp only [Bool.not_true,Bool.or_false]
   rw [this.1]
   dsimp only
   congr 2
   omega
  ·rw [Q3 h1] at hr
   cases hr
theorem X4j:∀ (n:Nat) (x:Dy),rOk x.num=true→(raiseI n x.num).2=false→(sRaiseN n false x).1=true
 | 0,x,h,hr=>by cases hr
 | n+1,x,h,hr=>by
  unfold raiseI at hr
  rw [X7m h] at hr
  by_cases h1:rOk (rRoot x.num)=true
  ·rw [Q4 h1] at hr
   rw [sRaiseN,h1,sRing,Q4 h1]
   simp only [Bool.not_true,Bool.or_false]
   exact X4j n ⟨rRoot x.num,x.exp+1⟩ h1 hr
  ·have h2:rOk (rRoot x.num)=false:=by simpa using h1
   rw [sRaiseN,h2]
   exact X3m n _
theorem Xkb{x y:Dy}(hx:dOk x=true)(hy:dOk y=true) : Agree (dAddI x y) (sAdd false x y):=by
 have kx:=X1m.1 hx
 have ky:=X1m.1 hy
 obtain ⟨m,hm⟩ : ∃ m,m=max x.exp y.exp:=⟨_,rfl⟩
 have e1:(m-x.exp).toNat=(y.exp-x.exp).toNat:=by omega
 have e3:x.exp+((y.exp-x.exp).toNat:Int)=m:=by omega
 have ed1:dRaise x m=raiseI (y.exp-x.exp).toNat x.num:=by rw [dRaise,e1]
 unfold dAddI sAdd
 rw [hx,hy,Bool.and_self,Q4 rfl,← hm,X6i,e3]
 cases h1:(dRaise x m).2 with
 | false=>
  have hb:=X4j _ x kx.1 (by rw [← ed1];exact h1)
  rw [hb,X3m]
  simp only [Bool.false_and,Bool.false_eq_true,if_false,Bool.true_or]
  exact ⟨fun z h=>(by cases h),fun _=>rfl⟩
 | true=>
  obtain ⟨g1,g2⟩:=X4i _ x kx.1 (by rw [← ed1];exact h1)
  rw [g1]
  rw [← ed1] at g2 ⊢
  dsimp only
  have ed2:dRaise y m=raiseI (m-y.exp).toNat y.num:=rfl
  cases h2:(dRaise y m).2 with
  | false=>
   have hb:=X4j _ y ky.1 (by rw [← ed2];exact h2)
   rw [hb]
   simp only [Bool.and_false,Bool.false_and,Bool.false_eq_true,if_false,Bool.true_or]
   exact ⟨fun z h=>(by cases h),fun _=>rfl⟩
  | true=>
   obtain ⟨k1,k2⟩:=X4i _ y ky.1 (by rw [← ed2];exact h2)
   rw [k1]
   rw [← ed2] at k2 ⊢
   dsimp only
   rw [X4r g2 k2,rIf1,X4r g2 k2,Qw,Qw,Bool.false_or]
   by_cases hr:rOk (rAdd (dRaise x m).1 (dRaise y m).1)=true
   ·have h3:inR m 0 60=true:=X01.2 (by omega)
    rw [Q4 hr,Q4 hr,dOf,hr,h3,sRing,Q4 hr]
    exact ⟨fun z h=>(by simp only [Bool.and_self,if_true] at h;injection h with h;subst h;exact ⟨rfl,X97 hr (by omega) (by omega)⟩),fun h=>by simp at h⟩
   ·have hr':rOk (rAdd (dRaise x m).1 (dRaise y m).1)=false:=by simpa using hr
    rw [Q3 hr,hr']
    exact ⟨fun z h=>(by cases h),fun _=>rfl⟩
def dotS(f:Bool)(a b:Mx)(i j:Nat) : Nat→Bool×Dy
 | 0=>(f,dZ)
 | n+1=>if (dotS f a b i j n).1=true then dotS f a b i j n else
   sAdd (sMul false (a.at i n) (b.at n j)).1 (dotS f a b i j n).2 (sMul false (a.at i n) (b.at n j)).2
theorem X9k{f:Bool}{a b:Mx}{i j n:Nat}(h:(dotS f a b i j n).1=true) : ∀ m,n≤m→dotS f a b i j m=dotS f a b i j n
 | 0,h'=>by
  obtain rfl:n=0:=by omega
  rfl
 | m+1,h'=>by
  by_cases hm:n=m+1
  ·subst hm;rfl
  ·rw [dotS,X9k h m (by omega),Q4 h]
theorem Xk1(a b:Mx)(i j n:Nat) : dotS true a b i j n=(true,dZ):=X9k (n:=0) rfl n (Qf _)
theorem Xtv:dOk dZ=true:=by decide
theorem Xq3(x y:Dy) : (sAdd true x y).1=true:=by
 unfold sAdd
 rw [show (sRaiseN (y.exp-x.exp).toNat true x).1=true from X3m _ _,X3m]
 rfl
def AllOk(m:Mx) : Prop:=∀ x ∈ m.cells,dOk x=true
theorem Mx.at_ok{m:Mx}(h:AllOk m)(i j:Nat) : dOk (m.at i j)=true:=by
 unfold Mx.at
 rw [Qa]
 cases hx:m.cells[i*m.cols.toNat+j]? with
 | none=>exact Xtv
 | some x=>exact h x (Qe hx)
theorem Xb3{a b:Mx}(ha:AllOk a)(hb:AllOk b)(i j:Nat) : ∀ n,Agree (dotI a b i j n) (dotS false a b i j n)
 | 0=>⟨fun z h=>(by injection h with h;subst h;exact ⟨rfl,Xtv⟩),fun h=>by cases h⟩
 | n+1=>by
  have ih:=Xb3 ha hb i j n
  have hm:=Xkc (Mx.at_ok ha i n) (Mx.at_ok hb n j)
  unfold dotI dotS
  cases h1:dotI a b i j n with
  | none=>
   have h2:=ih.2 h1
   rw [Q4 h2]
   exact ⟨fun z h=>(by cases h),fun _=>h2⟩
  | some s=>
   obtain ⟨h2,h3⟩:=ih.1 s h1
   rw [h2]
   simp only [Bool.false_eq_true,if_false,Qz]
   cases h4:dMulI (a.at i n) (b.at n j) with
   | none=>
    rw [hm.2 h4]
    exact ⟨fun z h=>(by cases h),fun _=>Xq3 _ _⟩
   | some x=>
    obtain ⟨h5,h6⟩:=hm.1 x h4
    rw [h5]
    exact Xkb h3 h6
def timesL(f:Bool)(a b:Mx) : Nat→Bool×List Dy
 | 0=>(f,[])
 | n+1=>((dotS (timesL f a b n).1 a b (n/b.cols.toNat) (n % b.cols.toNat) a.cols.toNat).1,(timesL f a b n).2++[(dotS (timesL f a b n).1 a b (n/b.cols.toNat) (n % b.cols.toNat) a.cols.toNat).2])
def timesS(f:Bool)(a b:Mx) : Bool×Mx:=((timesL f a b (a.rows.toNat*b.cols.toNat)).1,⟨a.rows,b.cols,(timesL f a b (a.rows.toNat*b.cols.toNat)).2⟩)
theorem X9r(f:Bool)(a b:Mx) : ∀ n,(timesL f a b n).2.length=n
 | 0=>rfl
 | n+1=>by simp [timesL,X9r f a b n]
theorem Xf2{f:Bool}{a b:Mx}{i j:Nat}(hj:j<b.cols.toNat) : timesL f a b (i*b.cols.toNat+(j+1))=((dotS (timesL f a b (i*b.cols.toNat+j)).1 a b i j a.cols.toNat).1,(timesL f a b (i*b.cols.toNat+j)).2++[(dotS (timesL f a b (i*b.cols.toNat+j)).1 a b i j a.cols.toNat).2]):=by
 have h1:(i*b.cols.toNat+j)/b.cols.toNat=i:=by rw [Wi,Nat.mul_add_div (by omega),Nat.div_eq_of_lt hj];omega
 have h2:(i*b.cols.toNat+j) % b.cols.toNat=j:=by rw [Wi,Nat.mul_add_mod,Nat.mod_eq_of_lt hj]
 rw [show i*b.cols.toNat+(j+1)=(i*b.cols.toNat+j)+1 from rfl,timesL,h1,h2]
theorem X8b{a b:Mx}(ha:AllOk a)(hb:AllOk b) : ∀ n,(∀ l,seqO (gridG (fun i j=>dotI a b i j a.cols.toNat) b.cols.toNat) n=some l→timesL false a b n=(false,l)∧∀ x ∈ l,dOk x=true)∧
  (seqO (gridG (fun i j=>dotI a b i j a.cols.toNat) b.cols.toNat) n=none→(timesL false a b n).1=true)
 | 0=>⟨fun l h=>(by injection h with h;subst h;exact ⟨rfl,fun x hx=>by cases hx⟩),fun h=>by cases h⟩
 | n+1=>by
  have ih:=X8b ha hb n
  have hd:=Xb3 ha hb (n/b.cols.toNat) (n % b.cols.toNat) a.cols.toNat
  unfold seqO timesL
  cases h1:seqO (gridG (fun i j=>dotI a b i j a.cols.toNat) b.cols.toNat) n with
  | none=>
   rw [ih.2 h1,Xk1]
   exact ⟨fun l h=>(by cases h),fun _=>rfl⟩
  | some l=>
   obtain ⟨h2,h3⟩:=ih.1 l h1
   rw [h2]
   dsimp only
   rw [show gridG (fun i j=>dotI a b i j a.cols.toNat) b.cols.toNat n=dotI a b (n/b.cols.toNat) (n % b.cols.toNat) a.cols.toNat from rfl]
   cases h4:dotI a b (n/b.cols.toNat) (n % b.cols.toNat) a.cols.toNat with
   | none=>exact ⟨fun l h=>(by cases h),fun _=>hd.2 h4⟩
   | some x=>
    obtain ⟨h5,h6⟩:=hd.1 x h4
    rw [h5]
    refine ⟨fun l' h=>?_,fun h=>by cases h⟩
    injection h with h
    subst h
    exact ⟨rfl,fun y hy=>by
     rcases Qu.1 hy with hy|hy
     ·exact h3 y hy
     ·rw [Qm.1 hy];exact h6⟩
theorem X21{m:Mx}(h:mOk m=true) : AllOk m:=by
 simp only [mOk,Qd,Bool.not_eq_true',W7] at h
 intro x hx
 have:=h.2 x hx
 simpa using this
theorem X52{m:Mx}(h:mOk m=true) : isDimB m.rows=true∧isDimB m.cols=true:=by
 simp only [mOk,Qd] at h
 exact ⟨h.1.1.1,h.1.1.2⟩
theorem Xhb{m:Mx}(hr:isDimB m.rows=true)(hc:isDimB m.cols=true)(hl:m.cells.length=m.rows.toNat*m.cols.toNat)(ha:AllOk m) : mOk m=true:=by
 have h1:=X2k hr;have h2:=X2k hc
 have h3:(m.cells.any fun x=>!dOk x)=false:=by
  rw [W7]
  intro x hx
  simp [ha x hx]
 have h4:wr (m.rows*m.cols)=(m.cells.length:Int):=by
  obtain ⟨r,hr⟩ : ∃ r:Nat,m.rows=r:=⟨m.rows.toNat,by omega⟩
  obtain ⟨c,hc⟩ : ∃ c:Nat,m.cols=c:=⟨m.cols.toNat,by omega⟩
  rw [hr] at h1
  rw [hc] at h2
  rw [hl,hr,hc]
  have h5:r*c≤32*32:=Nat.mul_le_mul (by omega) (by omega)
  rw [← Int.natCast_mul,X0u (by omega) (by omega)]
  simp
 unfold mOk
 rw [hr,hc,h3,h4]
 simp
theorem X2c{n:Int}(h:1≤n∧n≤5) : isDimB ((2^n.toNat:Nat) : Int)=true:=by
 have:n=1∨n=2∨n=3∨n=4∨n=5:=by omega
 rcases this with rfl|rfl|rfl|rfl|rfl<;>decide
theorem X3u{a b:Mx}(ha:mOk a=true)(hb:mOk b=true)(hab:a.cols=b.rows) : (∀ m,mulI a b=some m→timesS false a b=(false,m)∧mOk m=true∧m.rows=a.rows∧m.cols=b.cols)∧(mulI a b=none→(timesS false a b).1=true):=by
 have hd1:=(X52 ha).1;have hd2:=(X52 hb).2;have h:=X8b (X21 ha) (X21 hb) (a.rows.toNat*b.cols.toNat)
 unfold mulI matOf timesS
 rw [ha,hb,hd1,hd2,Q4 (by simp [hab]),Q4 (show (true&&true)=true from rfl)]
 cases h1:seqO (gridG (fun i j=>dotI a b i j a.cols.toNat) b.cols.toNat) (a.rows.toNat*b.cols.toNat) with
 | none=>exact ⟨fun m h=>(by cases h),fun _=>h.2 h1⟩
 | some l=>
  obtain ⟨h2,h3⟩:=h.1 l h1
  rw [h2]
  refine ⟨fun m hm=>?_,fun hm=>by cases hm⟩
  injection hm with hm
  subst hm
  exact ⟨rfl,Xhb hd1 hd2 (X4l h1) h3,rfl,rfl⟩
theorem Xav{f:Nat→Dy} : ∀ n,seqO (fun m=>some (f m)) n=some ((List.range n).map f)
 | 0=>rfl
 | n+1=>by simp [seqO,Xav n,List.range_succ]
theorem X6e{R C:Int}(hR:isDimB R=true)(hC:isDimB C=true)(f:Nat→Nat→Dy) : matOf R C (fun i j=>some (f i j))=some ⟨R,C,gridL f C.toNat (R.toNat*C.toNat)⟩:=by
 unfold matOf
 rw [hR,hC,Q4 (show (true&&true)=true from rfl)]
 have:gridG (fun i j=>some (f i j)) C.toNat=fun m=>some (gridF f C.toNat m):=rfl
 rw [this,Xav]
 rfl
theorem Xdz{f g:Nat→Nat→Dy}{R C:Nat}(h:∀ i j,i<R→j<C→f i j=g i j) : gridL f C (R*C)=gridL g C (R*C):=by
 unfold gridL
 refine List.map_congr_left fun m hm=>?_
 have hm':=W2.1 hm
 have hC:0<C:=by
  rcases Nat.eq_zero_or_pos C with h0|h0
  ·subst h0;simp at hm'
  ·exact h0
 exact h _ _ (Nat.div_lt_of_lt_mul (by rw [Wi];exact hm')) (Nat.mod_lt _ hC)
theorem Xc1{f:Nat→Nat→Dy}{R C:Nat}{x:Dy}(h:x ∈ gridL f C (R*C)) : ∃ i j,i<R∧j<C∧x=f i j:=by
 unfold gridL at h
 obtain ⟨m,hm,rfl⟩:=W6.1 h
 have hm':=W2.1 hm
 have hC:0<C:=by
  rcases Nat.eq_zero_or_pos C with h0|h0
  ·subst h0;simp at hm'
  ·exact h0
 exact ⟨_,_,Nat.div_lt_of_lt_mul (by rw [Wi];exact hm'),Nat.mod_lt _ hC,rfl⟩
def unitS(d:Nat) : Mx:=⟨(d:Int),(d:Int),gridL (fun i j=>if i=j then dPow 0 else dZ) d (d*d)⟩
theorem X38{d:Nat}(h:isDimB (d:Int)=true) : idI (d:Int)=some (unitS d)∧mOk (unitS d)=true:=by
 refine ⟨?_,?_⟩
 ·unfold idI
  rw [X6e h h (fun i j=>if i=j then ⟨⟨1,0,0,0⟩,0⟩ else dZ)]
  rfl
 ·refine Xhb h h (by simp [unitS,X5v]) fun x hx=>?_;obtain ⟨i,j,_,_,rfl⟩:=Xc1 hx
  split
  ·rfl
  ·rfl
def bitT(p s:Nat) : Int:=bits .and .i64 ((s:Int)/2^p) 1
def flipT(p s:Nat) : Int:=bits .xor .i64 (s:Int) (wr (1*2^p))
def chkBits:Bool:=(List.range 5).all fun p=>(List.range 32).all fun s=>
 let f:=flipT p s
 Nat.blt f.toNat 32&&f==(f.toNat:Int)&&flipT p f.toNat==(s:Int)&&(bitT p f.toNat==1-bitT p s)&&(bitT p s==0||bitT p s==1) &&
 (List.range 5).all (fun q=>(q==p)||bitT q f.toNat==bitT q s) &&
 (List.range 5).all (fun q=>let g:=flipT q s;flipT p g.toNat==flipT q f.toNat) &&
 (List.range 32).all fun t=>(((t:Int)==s||f==(t:Int))==(bits .andNot .i64 (bits .xor .i64 (s:Int) (t:Int)) (wr (1*2^p))==0))
theorem Xct:chkBits=true:=by kernel_rfl
def chkSmall:Bool:=(List.range 6).all fun n=>(List.range n).all fun q=>(List.range (2^n)).all fun s=>Nat.blt (flipT (n-1-q) s).toNat (2^n)
theorem Xah:chkSmall=true:=by kernel_rfl
structure BitsOk (p s:Nat) : Prop where
 nat:flipT p s=((flipT p s).toNat:Int)
 lt:(flipT p s).toNat<32
 back:flipT p (flipT p s).toNat=(s:Int)
 bit:bitT p (flipT p s).toNat=1-bitT p s
 other:∀ q<5,q≠p→bitT q (flipT p s).toNat=bitT q s
 comm:∀ q<5,flipT p (flipT q s).toNat=flipT q (flipT p s).toNat
 sel:∀ t:Nat,t<32→(((t:Int)=s∨flipT p s=(t:Int))↔bits .andNot .i64 (bits .xor .i64 (s:Int) (t:Int)) (wr (1*2^p))=0)
theorem X43{p s:Nat}(hp:p<5)(hs:s<32) : BitsOk p s:=by
 have h:=Xct
 simp only [chkBits,W1,W2] at h
 have h:=h p hp s hs
 simp only [Qd,W1,W2,beq_iff_eq,Bool.or_eq_true,Nat.blt_eq] at h
 obtain ⟨⟨⟨⟨⟨⟨⟨h1,h2⟩,h3⟩,h4⟩,_⟩,h6⟩,h7⟩,h8⟩:=h
 refine ⟨h2,h1,h3,h4,fun q hq hne=>(h6 q hq).resolve_left hne,h7,fun t ht=>?_⟩
 have h9:=h8 t ht
 rw [Bool.eq_iff_iff] at h9
 simpa using h9
theorem X47{n q s:Nat}(hn:n≤5)(hq:q<n)(hs:s<2^n) : (flipT (n-1-q) s).toNat<2^n:=by
 have h:=Xah
 simp only [chkSmall,W1,W2] at h
 have h:=h n (by omega) q hq s hs
 simpa [Nat.blt_eq] using h
theorem Xg4{n q:Int}(s:Nat) : bitF n (s:Int) q=bitT (n-1-q).toNat s:=rfl
theorem X5i{n q:Int}(s:Nat) : flipF n (s:Int) q=flipT (n-1-q).toNat s:=rfl
theorem Xbj{n q:Int}(hq:0≤q)(hqn:q<n) : (n-1-q).toNat=n.toNat-1-q.toNat:=by omega
theorem Xcn{n:Int}{g:Gt}(hg:gOk n g=true){s:Nat}(hs:s<2^n.toNat)(hk:9≤g.k∧g.k≤11) : ∃ t:Nat,t<2^n.toNat∧toS n g s=(t:Int)∧toS n g t=(s:Int)∧(g.k=10→t=s):=by
 obtain ⟨hn,hk0,ha,hb⟩:=X1i hg
 have ha:=ha (by omega)
 have hb:=hb hk
 have h32:2^n.toNat≤32:=X4m hn.2
 obtain ⟨p,hp⟩ : ∃ p,p=(n-1-g.a).toNat:=⟨_,rfl⟩
 obtain ⟨q,hq⟩ : ∃ q,q=(n-1-g.b).toNat:=⟨_,rfl⟩
 have hp5:p<5:=by omega
 have hq5:q<5:=by omega
 have hpq:p≠q:=by omega
 have hsm:∀ s,s<2^n.toNat→(flipT p s).toNat<2^n.toNat:=fun s hs=>by
  rw [hp,Xbj (by omega) (by omega)]
  exact X47 (by omega) (by omega) hs
 have hsm2:∀ s,s<2^n.toNat→(flipT q s).toNat<2^n.toNat:=fun s hs=>by
  rw [hq,Xbj (by omega) (by omega)]
  exact X47 (by omega) (by omega) hs
 unfold toS
 simp only [Xg4,X5i,← hp,← hq]
 have Bp:=X43 (p:=p) (s:=s) hp5 (by omega)
 have Bq:=X43 (p:=q) (s:=s) hq5 (by omega)
 by_cases h9:g.k=9
 ·simp only [h9,if_true]
  by_cases hb1:bitT p s=1
  ·refine ⟨(flipT q s).toNat,hsm2 s hs,by rw [Q4 hb1];exact Bq.nat,?_,by omega⟩
   rw [Q4 (by rw [Bq.other p hp5 hpq];exact hb1)]
   exact Bq.back
  ·exact ⟨s,hs,by rw [Q3 hb1],by rw [Q3 hb1],by omega⟩
 ·simp only [h9,if_false]
  by_cases h11:g.k=11
  ·simp only [h11,if_true]
   by_cases hb1:bitT p s=bitT q s
   ·exact ⟨s,hs,by rw [Q3 (by simpa using hb1)],by rw [Q3 (by simpa using hb1)],by omega⟩
   ·have Bf:=X43 (p:=q) (s:=(flipT p s).toNat) hq5 Bp.lt
    have Bg:=X43 (p:=p) (s:=(flipT q (flipT p s).toNat).toNat) hp5 Bf.lt
    have e1:flipF n (flipT p s) g.b=flipT q (flipT p s).toNat:=by rw [Bp.nat,X5i,← hq,Qj]
    refine ⟨(flipT q (flipT p s).toNat).toNat,hsm2 _ (hsm _ hs),?_,?_,by omega⟩
    ·rw [Q4 hb1,e1];exact Bf.nat
    ·have e2:bitT p (flipT q (flipT p s).toNat).toNat=1-bitT p s:=by rw [Bf.other p hp5 hpq,Bp.bit]
     have e3:bitT q (flipT q (flipT p s).toNat).toNat=1-bitT q s:=by rw [Bf.bit,Bp.other q hq5 (Ne.symm hpq)]
     have e4:flipT p (flipT q (flipT p s).toNat).toNat=flipT q (flipT p (flipT p s).toNat).toNat:=(X43 (p:=p) (s:=(flipT p s).toNat) hp5 Bp.lt).comm q hq5
     rw [Q4 (by rw [e2,e3];omega),e4,Bp.back,Qj,Bq.nat,X5i,← hq,Bq.back]
  ·exact ⟨s,hs,by rw [Q3 h11],by rw [Q3 h11],fun _=>rfl⟩
theorem Xss{k:Int}(h:1≤k∧k≤8){i j:Int}(hi:i=0∨i=1)(hj:j=0∨j=1) : (oneL k).getD (2*i+j).toNat dZ=entryI k i j:=by
 have:k=1∨k=2∨k=3∨k=4∨k=5∨k=6∨k=7∨k=8:=by omega
 rcases this with rfl|rfl|rfl|rfl|rfl|rfl|rfl|rfl<;>rcases hi with rfl|rfl<;>rcases hj with rfl|rfl<;>rfl
theorem Xq8{n:Int}{g:Gt}(hg:gOk n g=true){i j:Nat}(hi:i<2^n.toNat)(hj:j<2^n.toNat) : cellI n g i j=cellS n g i j:=by
 obtain ⟨hn,hk0,ha,hb⟩:=X1i hg
 have h32:2^n.toNat≤32:=X4m hn.2
 unfold cellI cellS
 by_cases h12:g.k=12
 ·rw [Q4 h12,Q3 (show ¬ g.k≤8 by omega)]
  have e1:toS n g j=j:=by unfold toS;rw [Q3 (show ¬ g.k=9 by omega),Q3 (show ¬ g.k=11 by omega)]
  rw [e1]
  by_cases hij:(i:Int)=j
  ·rw [Q4 hij,Q4 hij,valS,Q4 h12]
  ·rw [Q3 hij,Q3 hij]
 ·rw [Q3 h12]
  by_cases h2:9≤g.k∧g.k≤11
  ·rw [Q4 (X01.2 h2),Q3 (show ¬ g.k≤8 by omega)]
   obtain ⟨t,ht,e1,e2,e3⟩:=Xcn hg hi h2;obtain ⟨t',ht',e1',e2',e3'⟩:=Xcn hg hj h2
   by_cases hij:toS n g i=j
   ·have hts:(i:Int)=toS n g j:=by rw [← e2,← e1,hij]
    rw [Q4 hij,Q4 hts,valS,Q3 h12]
    by_cases h10:g.k=10
    ·have hij2:i=j:=by rw [e1] at hij;have:=e3 h10;omega
     subst hij2
     by_cases hc:bitF n i g.a=1∧bitF n i g.b=1
     ·rw [Q4 (by simp [czI,h10,hc]),Q4 ⟨h10,hc⟩];rfl
     ·have hc':¬ czI n g i=true:=by simp only [czI,h10,Qd,beq_iff_eq,true_and,and_assoc];exact hc
      rw [Q3 hc',Q3 (fun h=>hc h.2)];rfl
    ·have hc':¬ czI n g i=true:=by simp [czI,h10]
     rw [Q3 hc',Q3 (fun h=>h10 h.1)];rfl
   ·have hts:¬ (i:Int)=toS n g j:=fun h=>by
     rw [e1'] at h
     have h:i=t':=by omega
     subst h
     exact hij e2'
    rw [Q3 hij,Q3 hts]
  ·have h8:g.k≤8:=by omega
   have ha:=ha h12
   rw [Q3 (fun h=>h2 (X01.1 h)),Q4 h8]
   have B:=X43 (p:=(n-1-g.a).toNat) (s:=i) (by omega) (by omega)
   have hs:=B.sel j (by omega)
   rw [X5i]
   have e0:((i:Int)=j∨flipT (n-1-g.a).toNat i=(j:Int))↔((j:Int)=i∨flipT (n-1-g.a).toNat i=(j:Int)):=by
    constructor<;>rintro (h|h)<;>first|exact .inl h.symm|exact .inr h
   by_cases hz:bits .andNot .i64 (bits .xor .i64 (i:Int) (j:Int)) (wr (1*2^(n-1-g.a).toNat))=0
   ·rw [Q4 (e0.2 (hs.2 hz)),Q3 (fun h=>h hz)]
    exact (Xss ⟨hk0.1,h8⟩ (X2z _ _ _) (X2z _ _ _)).symm
   ·rw [Q3 (fun h=>hz (hs.1 (e0.1 h))),Q4 hz]
theorem Xof{k:Int}(h:1≤k∧k≤8){i j:Int}(hi:i=0∨i=1)(hj:j=0∨j=1) : dOk (entryI k i j)=true:=by
 have:k=1∨k=2∨k=3∨k=4∨k=5∨k=6∨k=7∨k=8:=by omega
 rcases this with rfl|rfl|rfl|rfl|rfl|rfl|rfl|rfl<;>rcases hi with rfl|rfl<;>rcases hj with rfl|rfl<;>rfl
theorem Xqp{n:Int}{g:Gt}(hg:gOk n g=true)(i j:Int) : dOk (cellI n g i j)=true:=by
 obtain ⟨hn,hk0,ha,hb⟩:=X1i hg
 unfold cellI
 split
 ·split<;>rfl
 ·split
  ·split
   ·split<;>rfl
   ·rfl
  ·rename_i h1 h2
   split
   ·exact Xof (by have h3:¬ (9≤g.k∧g.k≤11):=fun h=>h2 (X01.2 h);omega) (X2z _ _ _) (X2z _ _ _)
   ·rfl
theorem X2y{n:Int}{g:Gt}(hg:gOk n g=true) : gateI n g=some (gateS n g)∧mOk (gateS n g)=true:=by
 have hn:=(X1i hg).1;have hd:=X2c hn
 have he:gridL (fun i j=>cellI n g i j) (2^n.toNat) (2^n.toNat*2^n.toNat)=gridL (fun i j=>cellS n g i j) (2^n.toNat) (2^n.toNat*2^n.toNat):=Xdz fun i j hi hj=>Xq8 hg hi hj
 refine ⟨?_,?_⟩
 ·unfold gateI
  rw [Q4 hg,X6e hd hd (fun i j=>cellI n g i j)]
  simp only [Qj]
  rw [he]
  rfl
 ·refine Xhb hd hd (by simp only [gateS,X5v,Qj]) fun x hx=>?_
  simp only [gateS] at hx
  rw [← he] at hx
  obtain ⟨i,j,_,_,rfl⟩:=Xc1 hx;exact Xqp hg _ _
def applI(n:Int) : List Gt→Mx→Option Mx
 | [],m=>some m
 | g::l,m=>(mulI ((gateI n g).getD mZ) m).bind (applI n l)
def runS(n:Int)(f:Bool) : List Gt→Mx→Bool×Mx
 | [],m=>(f,m)
 | g::l,m=>if f=true then (f,m) else runS n (timesS false (gateS n g) m).1 l (timesS false (gateS n g) m).2
theorem X7d(n:Int) : ∀ (l:List Gt) (m:Mx),runS n true l m=(true,m)
 | [],_=>rfl
 | _::_,_=>rfl
theorem Xbg{n:Int} : ∀ (l:List Gt) (m:Mx),(∀ g ∈ l,gOk n g=true)→mOk m=true→m.rows=((2^n.toNat:Nat) : Int)→
  (∀ m',applI n l m=some m'→runS n false l m=(false,m')∧mOk m'=true∧m'.rows=((2^n.toNat:Nat) : Int))∧(applI n l m=none→(runS n false l m).1=true)
 | [],m,_,hm,hr=>⟨fun m' h=>(by injection h with h;subst h;exact ⟨rfl,hm,hr⟩),fun h=>by cases h⟩
 | g::l,m,hg,hm,hr=>by
  obtain ⟨h1,h2⟩:=X2y (hg g (by simp))
  have h3:=X3u h2 hm (by rw [hr];rfl)
  unfold applI runS
  rw [h1,Qq,Q3 (by decide)]
  cases h4:mulI (gateS n g) m with
  | none=>
   rw [h3.2 h4,X7d]
   exact ⟨fun m' h=>(by cases h),fun _=>rfl⟩
  | some m1=>
   obtain ⟨h5,h6,h7,h8⟩:=h3.1 m1 h4
   rw [h5]
   exact Xbg l m1 (fun g hg'=>hg g (by simp [hg'])) h6 (by rw [h7];rfl)
def opI(c:Cx) : Option Mx:=if cOk c=true then (idI ((2^c.n.toNat:Nat) : Int)).bind (applI c.n c.gs) else none
def opS(c:Cx) : Option Mx:=if cOk c=true then (if (runS c.n false c.gs (unitS (2^c.n.toNat))).1=true then none else some (runS c.n false c.gs (unitS (2^c.n.toNat))).2) else none
theorem X14{c:Cx}(h:cOk c=true) : (1≤c.n∧c.n≤5)∧c.gs.length≤400∧∀ g ∈ c.gs,gOk c.n g=true:=by
 simp only [cOk,Qd,X01,Qr,Bool.not_eq_true',W7] at h
 exact ⟨h.1.1,by omega,fun g hg=>by simpa using h.2 g hg⟩
theorem Xud(c:Cx) : opI c=opS c∧∀ m,opS c=some m→mOk m=true∧m.rows=((2^c.n.toNat:Nat) : Int):=by
 unfold opI opS
 by_cases hc:cOk c=true
 ·obtain ⟨hn,_,hg⟩:=X14 hc;obtain ⟨h1,h2⟩:=X38 (X2c hn);have h3:=Xbg c.gs _ hg h2 rfl
  rw [Q4 hc,Q4 hc,h1,Qz]
  cases h4:applI c.n c.gs (unitS (2^c.n.toNat)) with
  | none=>rw [h3.2 h4,Q4 rfl];exact ⟨rfl,fun m h=>by cases h⟩
  | some m'=>
   obtain ⟨h5,h6,h7⟩:=h3.1 m' h4
   rw [h5,Q3 (show ¬ (false=true) by decide)]
   exact ⟨rfl,fun m h=>(by injection h with h;subst h;exact ⟨h6,h7⟩)⟩
 ·rw [Q3 hc,Q3 hc]
  exact ⟨rfl,fun m h=>by cases h⟩
theorem Xg5{x:Rg}(h:rOk x=true) : rOk (rOm x)=true∧rOm x=⟨-x.d,x.a,x.b,x.c⟩:=by
 rw [X2f] at h
 have e:rOm x=⟨-x.d,x.a,x.b,x.c⟩:=by unfold rOm;rw [X0u (by omega) (by omega)]
 refine ⟨?_,e⟩
 rw [e,X2f]
 dsimp only
 omega
theorem X54{x:Rg}(h:rOk x=true) : rEven x=true↔(x.a+x.c) % 2=0∧(x.b+x.d) % 2=0:=by
 rw [X2f] at h
 unfold rEven
 rw [X0u (by omega) (by omega),X0u (by omega) (by omega)]
 simp only [Qd,beq_iff_eq]
 have key:∀ i:Int,i.tmod 2=0↔i % 2=0:=fun i=>by
  rw [← Int.dvd_iff_tmod_eq_zero,← Int.dvd_iff_emod_eq_zero]
 rw [key,key]
theorem Xlm{x:Rg}(h:rOk x=true) : rEven (rOm x)=rEven x:=by
 obtain ⟨h1,h2⟩:=Xg5 h
 rw [Bool.eq_iff_iff,X54 h1,X54 h,h2]
 dsimp only
 omega
theorem X5l:∀ (k:Nat) (x:Rg),rOk x=true→rOk (rTurnN k x)=true∧rEven (rTurnN k x)=rEven x
 | 0,_,h=>⟨h,rfl⟩
 | k+1,x,h=>by
  obtain ⟨h1,h2⟩:=X5l k (rOm x) (Xg5 h).1;exact ⟨h1,h2.trans (Xlm h)⟩
theorem X79{x:Rg}(h:rOk x=true)(k:Int) : rOk (rTurn x k)=true∧rEven (rTurn x k)=rEven x:=X5l _ _ h
theorem wr0:wr 0=0:=rfl
theorem Xp7{x:Rg}(h:rOk x=true){k:Nat}(hk:k<8) : rMul x (rTurn ⟨1,0,0,0⟩ k)=rTurn x k:=by
 have h':=X2f.1 h
 obtain ⟨a,b,c,d⟩:=x
 dsimp only at h'
 have wa:wr a=a:=X0u (by omega) (by omega)
 have wb:wr b=b:=X0u (by omega) (by omega)
 have wc:wr c=c:=X0u (by omega) (by omega)
 have wd:wr d=d:=X0u (by omega) (by omega)
 have na:wr (-a) = -a:=X0u (by omega) (by omega)
 have nb:wr (-b) = -b:=X0u (by omega) (by omega)
 have nc:wr (-c) = -c:=X0u (by omega) (by omega)
 have nd:wr (-d) = -d:=X0u (by omega) (by omega)
 have:k=0∨k=1∨k=2∨k=3∨k=4∨k=5∨k=6∨k=7:=by omega
 have s0:rTurn ⟨1,0,0,0⟩ ((0:Nat) : Int)=⟨1,0,0,0⟩:=by decide
 have s1:rTurn ⟨1,0,0,0⟩ ((1:Nat) : Int)=⟨0,1,0,0⟩:=by decide
 have s2:rTurn ⟨1,0,0,0⟩ ((2:Nat) : Int)=⟨0,0,1,0⟩:=by decide
 have s3:rTurn ⟨1,0,0,0⟩ ((3:Nat) : Int)=⟨0,0,0,1⟩:=by decide
 have s4:rTurn ⟨1,0,0,0⟩ ((4:Nat) : Int)=⟨-1,0,0,0⟩:=by decide
 have s5:rTurn ⟨1,0,0,0⟩ ((5:Nat) : Int)=⟨0,-1,0,0⟩:=by decide
 have s6:rTurn ⟨1,0,0,0⟩ ((6:Nat) : Int)=⟨0,0,-1,0⟩:=by decide
 have s7:rTurn ⟨1,0,0,0⟩ ((7:Nat) : Int)=⟨0,0,0,-1⟩:=by decide
 have T:∀ j:Nat,j<8→rTurn ⟨a,b,c,d⟩ (j:Int)=rTurnN j ⟨a,b,c,d⟩:=fun j hj=>by
  have:(turns (j:Int)).toNat=j:=by
   have:j=0∨j=1∨j=2∨j=3∨j=4∨j=5∨j=6∨j=7:=by omega
   rcases this with rfl|rfl|rfl|rfl|rfl|rfl|rfl|rfl<;>decide
  rw [rTurn,this]
 rcases this with rfl|rfl|rfl|rfl|rfl|rfl|rfl|rfl
 ·rw [T 0 (by omega),s0];simp [rMul,rTurnN,rOm,wr0,wa,wb,wc,wd,na,nb,nc,nd]
 ·rw [T 1 (by omega),s1];simp [rMul,rTurnN,rOm,wr0,wa,wb,wc,wd,na,nb,nc,nd]
 ·rw [T 2 (by omega),s2];simp [rMul,rTurnN,rOm,wr0,wa,wb,wc,wd,na,nb,nc,nd]
 ·rw [T 3 (by omega),s3];simp [rMul,rTurnN,rOm,wr0,wa,wb,wc,wd,na,nb,nc,nd]
 ·rw [T 4 (by omega),s4];simp [rMul,rTurnN,rOm,wr0,wa,wb,wc,wd,na,nb,nc,nd]
 ·rw [T 5 (by omega),s5];simp [rMul,rTurnN,rOm,wr0,wa,wb,wc,wd,na,nb,nc,nd]
 ·rw [T 6 (by omega),s6];simp [rMul,rTurnN,rOm,wr0,wa,wb,wc,wd,na,nb,nc,nd]
 ·rw [T 7 (by omega),s7];simp [rMul,rTurnN,rOm,wr0,wa,wb,wc,wd,na,nb,nc,nd]
theorem Xbe{z:Dy}(h:dOk z=true){k:Nat}(hk:k<8) : dMulI z (dPow k)=some (dTurn k z):=by
 have hz:=X1m.1 h
 have h1:rOk (rTurn ⟨1,0,0,0⟩ k)=true:=(X79 (by decide) _).1
 have hp:dOk (dPow k)=true:=X1m.2 ⟨h1,by simp [dPow],.inl rfl⟩
 obtain ⟨h2,h3⟩:=X79 hz.1 (k:Int)
 unfold dMulI
 rw [h,hp,show (dPow k).num=rTurn ⟨1,0,0,0⟩ k from rfl,rIf1,X4r hz.1 h1,Xp7 hz.1 hk,h2]
 simp only [Bool.and_self,if_true]
 unfold dOf
 rw [h2,show z.exp+(dPow k).exp=z.exp from by simp [dPow],X01.2 hz.2.1]
 simp only [Bool.and_self,if_true]
 rw [X2d fun h0=>by rw [h3];rcases hz.2.2 with h4|h4;exact absurd h4 (by omega);exact h4]
 rfl
theorem Xh6{q:Mx}(h:mOk q=true){k:Nat}(hk:k<8) : scaleI q (dPow k)=some ⟨q.rows,q.cols,q.cells.map (dTurn k)⟩:=by
 have h1:rOk (rTurn ⟨1,0,0,0⟩ k)=true:=(X79 (by decide) _).1
 have hp:dOk (dPow k)=true:=X1m.2 ⟨h1,by simp [dPow],.inl rfl⟩
 have hd:=X52 h;have hl:=X32 h;have ha:=X21 h
 have hf:(fun i j=>dMulI (q.at i j) (dPow k))=fun i j=>some (dTurn k (q.at i j)):=by
  funext i j
  exact Xbe (Mx.at_ok ha i j) hk
 unfold scaleI
 rw [h,hp,Q4 (show (true&&true)=true from rfl),hf,X6e hd.1 hd.2 (fun i j=>dTurn k (q.at i j))]
 congr 2
 unfold gridL
 apply List.ext_getElem
 ·simp [hl.2.2]
 ·intro m h1 h2
  simp only [Qo,List.length_range] at h1
  simp only [List.getElem_map,List.getElem_range]
  unfold gridF Mx.at
  dsimp only
  have:m/q.cols.toNat*q.cols.toNat+m % q.cols.toNat=m:=by rw [Wi];exact Nat.div_add_mod m _
  rw [this,Qa,Qc (by rw [hl.2.2];exact h1)]
  rfl
def sameI(a b:Cx) : Bool×Bool:=
 if ((opI a).isSome&&(opI b).isSome&&a.n==b.n)=true then
  (mOk ((opI a).getD mZ)&&mOk ((opI b).getD mZ)&&eqPh ((opI a).getD mZ) ((opI b).getD mZ),mOk ((opI a).getD mZ)&&mOk ((opI b).getD mZ)) else (false,false)
def sameS(a b:Cx) : Bool×Bool:=
 if ((opS a).isSome&&(opS b).isSome&&a.n==b.n)=true then (phaseS ((opS a).getD mZ) ((opS b).getD mZ),true) else (false,false)
theorem Xob{n:Int}(hn:1≤n∧n≤5){g:Gt} : (gateS n g).cells.length≤2305843009213693951:=by
 have h:=X4m hn.2
 have h2:2^n.toNat*2^n.toNat≤32*32:=Nat.mul_le_mul h h
 simp only [gateS,X5v]
 omega
theorem Xxa{m:Mx}(h:mOk m=true) : m.cells.length≤2305843009213693951:=by
 have h1:=X32 h
 have h2:m.rows.toNat*m.cols.toNat≤32*32:=Nat.mul_le_mul (by omega) (by omega)
 omega
theorem Xfk{α:Type}{l:List α}{i:Nat}{u:α}(h:l[i]? = some u) : l.drop i=u::l.drop (i+1):=by
 obtain ⟨h1,h2⟩:=Qg.1 h
 rw [Qy h1,h2]
def unitP(d i:Nat) : List Dy:=(List.range (d*d)).map fun m=>if m/d=m % d∧m/d<i then dPow 0 else dZ
theorem Xbs(d i:Nat) : (unitP d i).length=d*d:=by simp [unitP]
theorem Xhi(d:Nat) : List.replicate (d*d) dZ=unitP d 0:=by
 unfold unitP
 apply List.ext_getElem
 ·simp
 ·intro k h1 h2
  simp
theorem Xge{d i:Nat}(h:i<d) : (unitP d i).set (i*d+i) (dPow 0)=unitP d (i+1):=by
 have e1:(i*d+i)/d=i:=by rw [Wi,Nat.mul_add_div (by omega),Nat.div_eq_of_lt h];omega
 have e2:(i*d+i) % d=i:=by rw [Wi,Nat.mul_add_mod,Nat.mod_eq_of_lt h]
 unfold unitP
 apply List.ext_getElem
 ·simp
 ·intro k h1 h2
  simp only [List.length_set,Qo,List.length_range] at h1
  rw [List.getElem_set]
  split
  ·rename_i hk
   subst hk
   simp [e1,e2]
  ·rename_i hk
   simp only [List.getElem_map,List.getElem_range]
   have:(k/d=k % d∧k/d<i)↔(k/d=k % d∧k/d<i+1):=by
    constructor
    ·rintro ⟨h3,h4⟩;exact ⟨h3,by omega⟩
    ·rintro ⟨h3,h4⟩
     refine ⟨h3,?_⟩
     rcases W4 (k/d) i with h5|h5
     ·exact h5
     ·have h6:k/d=i:=by omega
      have h7:=Nat.div_add_mod k d
      rw [← h3,h6] at h7
      exact absurd (show i*d+i=k by rw [Wi i d];exact h7) hk
   by_cases hc:k/d=k % d∧k/d<i
   ·rw [Q4 hc,Q4 (this.1 hc)]
   ·rw [Q3 hc,Q3 (fun h=>hc (this.2 h))]
theorem Xgz{d:Nat} : (unitS d).cells=unitP d d:=by
 unfold unitP unitS gridL
 refine List.map_congr_left fun m hm=>?_
 have hm':=W2.1 hm
 have h1:m/d<d:=Nat.div_lt_of_lt_mul hm'
 unfold gridF
 dsimp only
 by_cases hc:m/d=m % d
 ·rw [Q4 hc,Q4 ⟨hc,h1⟩]
 ·rw [Q3 hc,Q3 (fun h=>hc h.1)]
theorem Xg1:∀ (m:Nat) (x:Rg),0≤(dLow x m).exp∧(dLow x m).exp≤m
 | 0,x=>by rw [X2d (by omega)];simp
 | m+1,x=>by
  by_cases he:rEven x=true
  ·rw [X3t (by omega) he,show ((m+1:Nat) : Int)-1=(m:Int) from by omega]
   have:=Xg1 m (rHalf x)
   omega
  ·rw [X2d fun _=>by simpa using he]
   dsimp only
   omega
theorem Xbr{x:Rg}{e:Int}(h0:0≤e) : 0≤(dLow x e).exp∧(dLow x e).exp≤e:=by
 obtain ⟨m,rfl⟩ : ∃ m:Nat,e=m:=⟨e.toNat,by omega⟩
 exact Xg1 m x
theorem Xe5{f:Bool}{x y:Dy}(hx:0≤x.exp∧x.exp≤60)(hy:0≤y.exp∧y.exp≤60) : 0≤(sMul f x y).2.exp∧(sMul f x y).2.exp≤60:=by
 unfold sMul
 split
 ·exact ⟨Int.le_refl _,by decide⟩
 ·have:=Xbr (x:=sRing (rMul x.num y.num)) (e:=x.exp+y.exp) (by omega)
  dsimp only
  omega
theorem Xmi{f:Bool}{x y:Dy}(hx:0≤x.exp∧x.exp≤60)(hy:0≤y.exp∧y.exp≤60) : 0≤(sAdd f x y).2.exp∧(sAdd f x y).2.exp≤60:=by
 unfold sAdd
 dsimp only
 rw [X6i]
 have:=fun z=>Xbr (x:=z) (e:=x.exp+((y.exp-x.exp).toNat:Int)) (by omega)
 have h:=this (sRing (rAdd (sRaiseN (y.exp-x.exp).toNat f x).2.num (sRaiseN (x.exp+((y.exp-x.exp).toNat:Int)-y.exp).toNat (sRaiseN (y.exp-x.exp).toNat f x).1 y).2.num))
 omega
theorem X96{a b:Mx}(ha:AllOk a)(hb:AllOk b)(f:Bool)(i j:Nat) : ∀ n,0≤(dotS f a b i j n).2.exp∧(dotS f a b i j n).2.exp≤60
 | 0=>⟨Int.le_refl _,show (0:Int)≤60 by decide⟩
 | n+1=>by
  rw [dotS]
  split
  ·exact X96 ha hb f i j n
  ·exact Xmi (X96 ha hb f i j n) (Xe5 (X30 (Mx.at_ok ha i n)) (X30 (Mx.at_ok hb n j)))
theorem Xs2{a b:Mx}{f f3:Bool}{i j k n:Nat}{s:Dy}(h:dotS f a b i j k=(f3,s))(hk:k≤n)(he:f3=true∨k=n) : dotS f a b i j n=(f3,s):=by
 rcases he with he|he
 ·subst he
  rw [X9k (n:=k) (by rw [h]) n hk,h]
 ·subst he;exact h
theorem Xn2{a b:Mx}{f f3:Bool}{i j k:Nat}{s:Dy}(h:dotS f a b i j k=(f3,s))(hf:f3=false) :
  dotS f a b i j (k+1)=((sAdd (sMul f3 (a.at i k) (b.at k j)).1 s (sMul f3 (a.at i k) (b.at k j)).2).1,(sAdd (sMul f3 (a.at i k) (b.at k j)).1 s (sMul f3 (a.at i k) (b.at k j)).2).2):=by
 subst hf
 rw [dotS,h,Q3 (show ¬ (false=true) by decide)]
theorem X31{a b:Nat}(ha:a≤32)(hb:b≤32) : a*b≤1024:=Q0 (Nat.mul_le_mul ha hb) (by decide)
theorem Xbp{l:List Int}{k:Nat}(h:decide ((k:Int)<(l.length:Int))=true) : l[k]? = some (l.getD k 0):=X75 (by simpa using h)
def putI:List Int→Int→List Int
 | [],n=>[n]
 | x::l,n=>if x<n then x::putI l n else if x=n then x::l else n::x::l
theorem Xi2:∀ (l:List Int) (n:Int),(putI l n).length≤l.length+1
 | [],n=>by simp [putI]
 | x::l,n=>by
  unfold putI
  split
  ·have:=Xi2 l n;simp only [Qs];omega
  ·split<;>simp
theorem Xpl:∀ (l:List Int) (n:Int) (k:Nat),(l.take k).all (fun x=>decide (x<n))=true→k≤l.length→(k<l.length→¬ l.getD k 0<n)→
  (k<l.length∧l.getD k 0=n→putI l n=l)∧(¬ (k<l.length∧l.getD k 0=n)→putI l n=l.take k++[n]++l.drop k)
 | [],n,k,_,hk,_=>by
  have:k=0:=by simpa using hk
  subst this
  exact ⟨fun h=>by simp at h,fun _=>rfl⟩
 | x::l,n,0,_,_,h=>by
  have h:=h (by simp)
  simp only [List.getD_cons_zero] at h
  refine ⟨fun h1=>?_,fun h1=>?_⟩
  ·have h2:=h1.2
   simp only [List.getD_cons_zero] at h2
   rw [putI,Q3 h,Q4 h2]
  ·have h2:¬ x=n:=fun e=>h1 ⟨by simp,by simpa using e⟩
   rw [putI,Q3 h,Q3 h2]
   rfl
 | x::l,n,k+1,ha,hk,h=>by
  simp only [List.take_succ_cons,List.all_cons,Qd,Qr] at ha
  have ih:=Xpl l n k ha.2 (by simpa using hk) (fun h1=>by have:=h (by simpa using h1);simpa using this)
  simp only [Qs,Nat.add_lt_add_iff_right,List.getD_cons_succ,List.take_succ_cons,List.drop_succ_cons,Wa] at *
  rw [putI,Q4 ha.1]
  exact ⟨fun h1=>by rw [ih.1 h1],fun h1=>by rw [ih.2 h1]⟩
def usedStep(m:List Int)(g:Gt) : List Int:=if g.k=12 then m else if inR g.k 9 11=true then putI (putI m g.a) g.b else putI m g.a
def usedS(l:List Gt) : List Int:=l.foldl usedStep []
def lastN(l:List Int)(q:Int) : Nat→Int
 | 0=>0
 | k+1=>if l.getD k 0=q then (k:Int) else lastN l q k
theorem X9l{l:List Int}{q u:Int}{k:Nat}(h:l[k]? = some u) : lastN l q (k+1)=if u=q then (k:Int) else lastN l q k:=by
 have:l.getD k 0=u:=by rw [Qa,h];rfl
 rw [lastN,this]
section
variable {us : List Int} {j : Nat} {v q x k : Int}
end
def smallG(used:List Int)(g:Gt) : Gt:=⟨g.k,if g.k=12 then 0 else lastN used g.a used.length,if inR g.k 9 11=true then lastN used g.b used.length else 0⟩
def validS(n:Int)(r:Rp) : Bool:=inR n 1 5&&inR r.pos 0 400&&(!(r.old.any fun x=>!gOk n x)&&decide ((r.old.length:Int)≤40))&&(!(r.new.any fun x=>!gOk n x)&&decide ((r.new.length:Int)≤40))
theorem X6o(n:Int)(r:Rp) : validS n r=vrI n r:=by
 unfold validS vrI
 cases inR n 1 5<;>cases inR r.pos 0 400<;>cases (r.old.any fun x=>!gOk n x)<;>cases (r.new.any fun x=>!gOk n x)<;>cases decide ((r.old.length:Int)≤40)<;>cases decide ((r.new.length:Int)≤40)<;>rfl
end Go.Proofs.YtblmmikapnflcaaGreatDoor
