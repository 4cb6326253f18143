/-
  What is proved: for every matrix, the program's ShortestWord answers as the reference's does, leaves its argument as it was and hands out memory of its own, and the argument reads as before. Conditions: none beside the table of powers of ten that the card ties to the program's text.
-/
import Derived.Test.YtblmmikapnflcaaGreatDoorO3
import Derived.Test.YtblmmikapnflcaaGreatDoorO2
import Derived.Test.YtblmmikapnflcaaGreatDoorRows
import Derived.Lib.LaidU8
import Derived.Lib.AppendIntMem
import Derived.MakeChecks
import Derived.Test.YtblmmikapnflcaaGreatDoorCards
import Derived.Test.YtblmmikapnflcaaGreatDoorTie
import Derived.Lay
set_option linter.unusedVariables false
set_option linter.unusedSimpArgs false
set_option maxHeartbeats 1000000
set_option maxRecDepth 4000
set_option linter.unusedSectionVars false
namespace Go.Proofs.YtblmmikapnflcaaGreatDoor
open Go.RowKit
theorem Xqs(i:World)(p:Mx)(Ap:Option Addr)(cp:Nat)(aD:Rd i i.heap.size 95 encD Ap p.cells)(q:Mx)(Aq:Option Addr)(cq:Nat)(aE:Rd i i.heap.size 95 encD Aq q.cells)(aO:p.cells.length≤2305843009213693951) : Ret Tryz.prog 12 [.agg #[vi p.rows,vi p.cols,.slice Ap p.cells.length cp],.agg #[vi q.rows,vi q.cols,.slice Aq q.cells.length cq]] i (fun v w=>v=.bool (eqM p q)∧Below i.heap.size i w):=by
 refine enter Tryz.func12 rfl 21 rfl rfl ?_;intro a b
 have e:=bz i
 refine Zs b fun _ aP=>?_;refine Zf (X0c (zs:=[vi p.rows,vi p.cols,.slice Ap p.cells.length cp]) rfl rfl) ?_;rintro _ w1 ⟨b4,rfl,aQ,hE,f⟩;have aW:=Nat.le_trans e.size aQ;have e:=btr e hE;refine Zf (X0c (zs:=[vi q.rows,vi q.cols,.slice Aq q.cells.length cq]) rfl rfl) ?_;rintro _ w2 ⟨b5,rfl,aR,hE,aA⟩
 have aN:b4≠b5:=by have:=f.lt;omega
 have aX:=Nat.le_trans e.size aR;have f:=f.below hE;have e:=btr e hE;refine Za rfl<|ZX aP fun a b _ aS=>?_;refine Zs b fun _ aT=>?_;refine Ze (Vd rfl X0q 0)<|Ze (X0 rfl X4 (f.at 0))<|Ze (Vd rfl X0q 0)<|Ze (X0 rfl X4 (aA.at 0))<|Ze (X1h rfl rfl) ?_;refine Zt aT fun a b=>?_
 refine Xs b rfl (fun g=>?_) (fun g=>?_)
 ·have aF:=g
  have hn:¬ p.rows=q.rows:=by simpa using g
  refine Zs b fun _ aU=>?_;refine Za rfl<|Zt aU fun a b=>?_;refine wp_ret<|X5<|X2 b (Xt b rfl rfl) ?_;exact ⟨by simp [eqM,hn],e⟩
 have aF:=g
 have e1:p.rows=q.rows:=by simpa using g
 refine wp_skip<|aS _ _<|wp_seq_k fun _ aG=>?_;refine Zs b fun _ aH=>?_;refine Ze (Vd rfl X0v 1)<|Ze (X0 rfl X4 (f.at 1))<|Ze (Vd rfl X0v 1)<|Ze (X0 rfl X4 (aA.at 1))<|Ze (X1h rfl rfl) ?_;refine Zt aH fun a b=>?_
 refine Xs b rfl (fun c=>?_) (fun c=>?_)
 ·have aB:=c
  have hn:¬ p.cols=q.cols:=by simpa using c
  refine Zs b fun _ aI=>?_;refine Za rfl<|Zt aI fun a b=>?_;refine wp_ret<|X5<|X2 b (Xt b rfl rfl) ?_;exact ⟨by simp [eqM,hn],e⟩
 have aB:=c
 have e2:p.cols=q.cols:=by simpa using c
 refine wp_skip<|aG _ _<|wp_seq_k fun _ aJ=>?_;refine Zs b fun _ aK=>?_;refine Ze (Vd rfl X0r 2)<|Ze (X0 rfl X1a (f.at 2))<|Ze (Vd rfl X0r 2)<|Ze (X0 rfl X1a (aA.at 2))<|Zf (Vc (Xrk _ Ap cp p.cells (aD.below' e).top Aq cq q.cells (aE.below' e).top aO) Xm4) ?_;rintro _ w3 ⟨rfl,hE⟩;have e:=btr e hE;refine Ze (X0z rfl)<|Zt aK fun a b=>?_
 refine Xs b rfl (fun d=>?_) (fun d=>?_)
 ·have aC:=d
  have hn:¬ p.cells=q.cells:=by simpa using d
  refine Zs b fun _ aL=>?_;refine Za rfl<|Zt aL fun a b=>?_;refine wp_ret<|X5<|X2 b (Xt b rfl rfl) ?_;exact ⟨by simp [eqM,hn],e⟩
 have aC:=d
 have e3:p.cells=q.cells:=by simpa using d
 refine wp_skip<|aJ _ _<|Zs b fun _ aM=>?_;refine Za rfl<|Zt aM fun a b=>?_
 refine wp_ret (X2 b (Xt b rfl rfl) ?_)
 exact ⟨by simp [eqM,e1,e2,e3],e⟩
theorem Xq3(w0:World){Xm:TypeId}(m:Mx)(Am:Option Addr)(cm:Nat)(aA:Rd w0 w0.heap.size Xm encD Am m.cells)(t:Int)(ht:0≤t∧t≤1048576)(aD:m.cells.length≤9223372036854775807) : Ret Tryz.prog 7 [.agg #[vi m.rows,vi m.cols,.slice Am m.cells.length cm],vi t] w0 (fun v w=>v=vi (szD m.cells t)∧Below w0.heap.size w0 w):=by
 refine enter Tryz.func7 rfl 12 rfl rfl ?_;intro a c
 have hW:=bz w0
 refine Zs c fun _ aE=>?_;refine Zf (X0c (zs:=[vi m.rows,vi m.cols,.slice Am m.cells.length cm]) rfl rfl) ?_;rintro _ w1 ⟨b3,rfl,aF,hE,aG⟩;have aM:=Nat.le_trans hW.size aF;have hW:=btr hW hE;refine Za rfl<|Zx aE fun a c _ aH=>?_;refine Ze (Vd rfl X8d 2)<|Ze (X0 rfl Xdz (aG.at 2))<|Zm rfl<|Zf (Vc (Xql _ Am cm m.cells (aA.below' hW).top t ht aD) Xmc) ?_;rintro _ _ ⟨rfl,rfl⟩;refine Za rfl<|ZX aH fun a c _ aI=>?_;refine Zs c fun _ aJ=>?_;refine Zm rfl<|Ze (X15 rfl rfl)<|Zt aJ fun a c=>?_
 refine Xs c rfl (fun b=>?_) (fun b=>?_)
 ·have aB:=b;have b:=of_decide_eq_true b
  have aC:szD m.cells t = -1:=Xkb b
  refine Zs c fun _ aK=>?_;refine Za rfl<|Zt aK fun a c=>?_;refine wp_ret<|X5<|X2 c (Xt c rfl rfl) ?_;exact ⟨by rw [aC],hW⟩
 have aB:=b;have b:=of_decide_eq_false b;have aN:=b;refine wp_skip<|aI _ _<|Zs c fun _ aL=>?_;refine Zm rfl<|Za rfl<|Zt aL fun a c=>?_
 refine wp_ret (X2 c (Xt c rfl rfl) ?_)
 exact ⟨rfl,hW⟩
theorem Xdt(w0:World){Xm:TypeId}(m:Mx)(Am:Option Addr)(cm:Nat)(aA:Rd w0 w0.heap.size Xm encD Am m.cells)(aG:m.cells.length≤1048576) : Ret Tryz.prog 9 [.agg #[vi m.rows,vi m.cols,.slice Am m.cells.length cm]] w0 (fun v w=>∃ A c,v=mV A c m∧Own w w0.heap.size 95 5 encD A c m.cells∧Below w0.heap.size w0 w):=by
 refine enter Tryz.func9 rfl 15 rfl rfl ?_;intro a q
 have i:=bz w0
 refine Zs q fun _ aH=>?_;refine Zf (X0c (zs:=[vi m.rows,vi m.cols,.slice Am m.cells.length cm]) rfl rfl) ?_;rintro _ w1 ⟨b3,rfl,aI,k,d⟩;have aN:=Nat.le_trans i.size aI;have i:=btr i k;refine Zf (Xc (zs:=[vi 0,vi 0,.slice none 0 0]) X1k rfl) ?_;rintro _ w2 ⟨b5,rfl,aJ,k,b⟩;have aB:=Nat.le_trans i.size aJ;have d:=d.below k;have i:=btr i k;refine Zx aH fun a q _ aK=>?_;refine Zf (Xc (zs:=[vi 0,vi 0,.slice none 0 0]) X1k rfl) ?_;rintro _ w3 ⟨b8,rfl,aL,k,f⟩
 have aF:b5≠b8:=by have:=b.lt;omega
 have n:=Nat.le_trans i.size aL;have d:=d.below k;have b:=b.below k;have i:=btr i k;refine Zx aK fun a q _ aM=>?_;refine Ze (Vd rfl Xf3 0)<|Ze (X0 rfl X4 (d.at 0))<|Ze (Vd rfl X0q 0)<|Zo (Vu (vs:=[vi m.rows]) (l':=[vi m.rows,vi 0,.slice none 0 0]) rfl rfl X2i f) ?_;rintro _ w4 ⟨j,hb⟩;have e:=f;have d:=d.only j (Blk.ne d e rfl);have b:=b.only j (by omega);have i:=Below.only i j n;have f:=hb;refine Zx aM fun a q _ aC=>?_;refine Ze (Vd rfl Xee 1)<|Ze (X0 rfl X4 (d.at 1))<|Ze (Vd rfl X0v 1)<|Zo (Vu (vs:=[vi m.cols]) (l':=[vi m.rows,vi m.cols,.slice none 0 0]) rfl rfl X2i f) ?_;rintro _ w5 ⟨j,hb⟩;have e:=f;have d:=d.only j (Blk.ne d e rfl);have b:=b.only j (by omega);have i:=Below.only i j n;have f:=hb;refine Zx aC fun a q _ aD=>?_;refine Ze (Vd rfl X8d 2)<|Ze (X0 rfl Xdz (d.at 2))<|Zf (Vc (Xr7 _ Am cm m.cells (aA.below' i).top aG) Xli) ?_;rintro _ w6 ⟨o,p,rfl,g,k⟩;have g:=g.lower i.size;have b:=b.below k;have f:=f.below k;have i:=btr i k;refine Ze (Vd rfl X0r 2)<|Zo (Vu (vs:=[.slice o m.cells.length p]) (l':=[vi m.rows,vi m.cols,.slice o m.cells.length p]) rfl rfl X9x f) ?_;rintro _ w7 ⟨j,hb⟩;have e:=f;have b:=b.only j (by omega);have g:=g.onlyT j e rfl;have i:=Below.only i j n;have f:=hb;refine Zx aD fun a q _ aE=>?_;refine Ze (Vn X04 f)<|Zo (Vw [vi m.rows,vi m.cols,.slice o m.cells.length p] X11 b) ?_;rintro _ w8 ⟨j,hb⟩;have e:=b;have g:=g.onlyT j e rfl;have i:=Below.only i j aB
 clear e;have b:=hb;refine Zt aE fun a q=>?_
 refine wp_ret (X2 q (Xt q rfl (ResV.cellN (l:=[vi m.rows,vi m.cols,.slice o m.cells.length p]) rfl X04 (b.at 0) rfl)) ?_)
 exact ⟨o,p,rfl,g,i⟩
theorem Xsb(n:World)(Al:Option Addr)(cl:Nat)(l:List Dy)(aD:Rd n n.heap.size 95 encD Al l)(kq:FuncId)(pq:List Value)(Fq:FuncF Tryz.prog kq)(q:Dy→Bool)(hq:∀ x w,Below n.heap.size n w→Ret Tryz.prog kq ([dV x]++pq) w (fun v w'=>v=.bool (q x)∧Below w.heap.size w w'))(aQ:l.length≤2305843009213693951) : Ret Tryz.prog 110 [.slice Al l.length cl,.func (.func kq) #[] pq.toArray] n (fun v w=>v=vi (idxF l q)∧Below n.heap.size n w):=by
 refine enter Tryz.func110 rfl 19 rfl rfl ?_;intro a e
 have o:=bz n
 refine Zs e fun _ aJ=>?_;refine Za rfl<|ZX aJ fun a e _ aK=>?_;refine Zs e fun _ aL=>?_;refine Zm rfl<|Ze (X1r rfl X0d)<|Zm rfl<|Zt aL fun a e=>?_;refine wp_block<|X0f (σ:=Nat) (fun (k:Nat) (a:Act) (w:World)=>Fr a 19 [(0,.slice Al l.length cl),(1,.func (.func kq) #[] pq.toArray),(7,vi (l.length:Int)),(8,vi (k:Int))]∧(k≤l.length)∧((l.take k).all (fun x=>!q x)=true)∧Below n.heap.size n w) (fun (k:Nat)=>l.length+1-k) 0 ?_ ?_
 ·exact ⟨e.sb,(Nat.zero_le _),(by simp),o⟩
 rintro k a w1 ⟨e,hk,j,o⟩;refine Zs e fun _ aM=>?_;refine Ze (X15 rfl rfl)<|ZX aM fun a e _ aN=>?_
 refine Xs e rfl (fun g=>?_) (fun g=>?_)
 ·have aE:=g;have g:=of_decide_eq_true g
  obtain ⟨i,aA⟩:=X05 (l:=l) (k:=k) (by omega)
  refine wp_skip<|aN _ _<|wp_seq_k fun _ aO=>?_;refine wp_block<|Zs e fun _ aF=>?_;refine Zm rfl<|Za rfl<|Zx aF fun a e _ aG=>?_;refine Zm rfl<|Zm rfl<|Zm rfl<|Zi (k:=k) (u:=i) (enc:=encD) (l:=l) trivial rfl rfl X0d Xh X09 (aD.below' o) aA rfl ?_;intro aR aB;refine Ze (X03 (l:=[vi i.num.a,vi i.num.b,vi i.num.c,vi i.num.d,vi i.exp]) rfl Xb aB rfl)<|Zf (X7o (cs:=pq) (vs:=[.agg #[vi i.num.a,vi i.num.b,vi i.num.c,vi i.num.d,vi i.exp]]) rfl rfl Fq (hq i _ o)) ?_;rintro _ w2 ⟨rfl,hE⟩;have o:=btr o hE;refine Zt aG fun a e=>?_
  refine Xs e rfl (fun f=>?_) (fun f=>?_)
  ·have aC:=f
   have m:idxF l q=(k:Int):=Xnh j aA f
   refine Zs e fun _ aH=>?_;refine Zm rfl<|Za rfl<|Zt aH fun a e=>?_;refine wp_ret<|Xz<|X5<|X5 ?_;refine Xz<|X5<|X2 e (Xt e rfl rfl) ?_;exact ⟨by rw [m],o⟩
  have aC:=f
  have aP:(!q i)=true:=by revert f;cases q i<;>simp
  refine wp_skip<|X06<|aO _ _<|Zr e ?_;refine Ze (X0b rfl rfl (by omega) (by omega))<|Zm rfl ?_;refine Zn fun a e=>?_;refine X07 ?_;exact ⟨k+1,⟨e.sb,(by omega),(X2j j aA aP),o⟩,(by omega)⟩
 have aE:=g;have g:=of_decide_eq_false g;refine wp_exit<|Xx<|Xx<|X0e ?_;refine aK _ _<|Zs e fun _ aI=>?_;refine Za rfl<|Zt aI fun a e=>?_
 refine wp_ret (X2 e (Xt e rfl rfl) ?_)
 have m:idxF l q = -1:=Xi8 (X2w (X27 j (by omega)))
 exact ⟨by rw [m],o⟩
theorem Xpu(w0:World)(m:Mx)(Am:Option Addr)(cm:Nat)(M:Rd w0 w0.heap.size 95 encD Am m.cells)(aU:m.cells.length≤2305843009213693951) : Ret Tryz.prog 64 [.agg #[vi m.rows,vi m.cols,.slice Am m.cells.length cm]] w0 (fun v w=>∃ A c,v=.tuple #[mV A c (canM m),vi (canT m),.bool (canY m)]∧Own w w0.heap.size 95 5 encD A c (canM m).cells∧Below w0.heap.size w0 w):=by
 refine enter Tryz.func64 rfl 61 rfl rfl ?_;intro a q
 have n:=bz w0
 refine Zs q fun _ cV=>?_;refine Zf (X0c (zs:=[vi m.rows,vi m.cols,.slice Am m.cells.length cm]) rfl rfl) ?_;rintro _ w1 ⟨b3,rfl,cW,e,g⟩;have dD:=Nat.le_trans n.size cW;have n:=btr n e;refine Zf (Xc (zs:=[vi 0,vi 0,.slice none 0 0]) X1k rfl) ?_;rintro _ w2 ⟨b5,rfl,cX,e,f⟩
 have cU:b3≠b5:=by have:=g.lt;omega
 have b1:=Nat.le_trans n.size cX;have g:=g.below e;have n:=btr n e;refine Za rfl<|Za rfl<|Zx cV fun a q _ cY=>?_;refine Ze (Vd rfl X0r 2)<|Ze (X0 rfl X1a (g.at 2))<|Zf (X2s (vs:=[.slice Am m.cells.length cm,.func (.func 111) #[] #[]]) rfl Xhz (Xsb _ Am cm m.cells (M.below' n).top 111 [] Xko (fun x=>decide (x≠dZ)) (fun x w1 dE=>Xq0 w1 x) aU)) ?_;rintro _ w3 ⟨rfl,e⟩;have g:=g.below e;have f:=f.below e;have n:=btr n e;refine Za rfl<|ZX cY fun a q _ d5=>?_;refine wp_seq_k fun _ d6=>?_;refine X0o (fun a w=>Fr a 61 [(1,.pointer (some ⟨b3,0,none⟩)),(2,.pointer (some ⟨b5,0,none⟩)),(5,vi (idxF m.cells (fun x=>decide (x≠dZ)))),(22,.bool ((!(mOk m))||(decide ((idxF m.cells (fun x=>decide (x≠dZ)))<0))))]∧Below w3.heap.size w3 w) ?_ ?_
 ·have p:Below w3.heap.size w3 w3:=Below.refl _ _
  refine Zr q<|Ze (Vn X04 g)<|Zf (Vc (Xkr _ m Am cm (M.below' n).top aU) X9q) ?_;rintro _ w4 ⟨rfl,e⟩;have n:=btr n e;have p:=btr p e;refine Ze (X0z rfl)<|Zm rfl ?_
  refine Zg 19 rfl (fun H=>?_) (fun H=>?_)
  ·refine Zp (gP H) ?_;refine Zp (gP H) ?_;refine Ze (Xw rfl H rfl) ?_;refine Zn fun a q=>?_
   have aE:Below w3.heap.size w3 w4:=p
   exact ⟨q.sub ⟨rfl,rfl,rfl,X1 rfl (by first|rfl|(simp only [H,bs];done)|simp [H]),trivial⟩,aE⟩
  refine Zv (gW H) (Xo rfl) ?_;refine Zv (gW H) (X15 rfl rfl) ?_;refine Ze (Xr rfl H rfl) ?_;refine Zn fun a q=>?_
  have aE:Below w3.heap.size w3 w4:=p
  exact ⟨q.sub ⟨rfl,rfl,rfl,X1 rfl (by first|rfl|(simp only [H,bs];done)|simp [H]),trivial⟩,aE⟩
 rintro a w5 ⟨q,e⟩;have g:=g.below e;have f:=f.below e;have n:=btr n e;refine d6 _ _ ?_
 refine Xs q rfl (fun W=>?_) (fun W=>?_)
 ·have b7:=W
  have cB:canM m=mZ∧canT m=0∧canY m=false:=by
   rcases (by simpa using W:mOk m=false∨idxF m.cells (fun x=>decide (x≠dZ))<0) with h9|h9
   ·exact Xlf h9
   ·exact Xiy (Xgk h9)
  refine Zs q fun _ cC=>?_;refine Ze (Xl (ps:=[]) (cs:=[vi 0,vi 0,.slice none 0 0]) rfl (fun _=>by first|rfl|kernel_rfl))<|Zo (Vw [vi 0,vi 0,.slice none 0 0] X11 f) ?_;rintro _ w6 ⟨L,hb⟩;have z:=f;have n:=Below.only n L b1;have f:=hb;refine Za rfl<|Za rfl<|Zt cC fun a q=>?_;refine wp_ret<|X5<|X2 q (Xpv q rfl (ResV.cellN (l:=[vi 0,vi 0,.slice none 0 0]) rfl X04 (f.at 0) rfl) rfl rfl) ?_;obtain ⟨aF,b8,b9⟩:=cB;exact ⟨none,0,by rw [aF,b8,b9];rfl,by rw [aF];exact (Own.nil _ _ _ _ _),n⟩
 have b7:=W
 have d7:mOk m=true∧¬ idxF m.cells (fun x=>decide (x≠dZ))<0:=by simpa using W
 obtain ⟨bC,d8⟩:=d7;obtain ⟨j0,y,bD,aW⟩:=Xk3 d8
 have cD:rOk y.num=true:=X4c (X1d bC y (List.mem_of_getElem? aW))
 have d9:=Xht bD aW;refine wp_skip<|d5 _ _<|wp_seq_k fun _ cE=>?_;refine X0n none (fun j=>[8].contains j) mixed ?_;intro w7 e;have g:=g.below e;have f:=f.below e;have n:=btr n e;refine Yb q<|Yo 0 rfl (fun _=>Vd rfl X0r 2)<|Ye 1 rfl (X0 rfl X1a (g.at 2))<|Yo 2 rfl (fun _=>Xo rfl)<|Yi (k:=j0) (u:=y) (enc:=encD) (l:=m.cells) 3 rfl trivial rfl rfl X0d Xh X09 (M.below' n) aW bD ?_;intro dF bE;refine Yo 4 rfl (fun _=>X7j rfl X0i)<|Ye 5 rfl (X03 (l:=[vi y.num.a,vi y.num.b,vi y.num.c,vi y.num.d]) rfl Xv ((bE.drop 0).take 4) rfl)<|Y1 6 ?_;refine Yk rfl trivial (Xc (zs:=[vi 0,vi 0,vi 0,vi 0]) X1c rfl) (fun _ _ ⟨_,_,_,h,_⟩=>h) ?_;rintro _ w8 ⟨bF,rfl,cF,e,o⟩;have aG:=Nat.le_trans n.size cF;have g:=g.below e;have f:=f.below e;have n:=btr n e;refine Yo 7 rfl (fun _=>X14 rfl)<|Y1 8 ?_;refine Yh rfl trivial rfl (Vw [vi y.num.a,vi y.num.b,vi y.num.c,vi y.num.d] X0m o) ?_;rintro _ w9 ⟨L,hb⟩;have z:=o;have g:=g.only L (Blk.ne g z rfl);have f:=f.only L (Blk.ne f z rfl);have n:=Below.only n L aG;have o:=hb;refine Yd fun a q=>?_;refine cE _ _<|wp_seq_k fun _ cG=>?_;refine Zs q fun _ cH=>?_;refine Za rfl<|Zt cH fun a q=>?_;refine wp_block<|X0f (σ:=Nat×Nat) (fun (s:Nat×Nat) (a:Act) (w:World)=>match s with|(i,b)=>Fr a 61 [(1,.pointer (some ⟨b3,0,none⟩)),(2,.pointer (some ⟨b5,0,none⟩)),(5,vi (idxF m.cells (fun x=>decide (x≠dZ)))),(6,vi (b:Int)),(7,.pointer (some ⟨bF,0,none⟩)),(8,vi ((i+1:Nat) : Int))]∧(i≤7)∧(b≤7)∧(b=bestT y.num i)∧Blk w b3 33 [vi m.rows,vi m.cols,.slice Am m.cells.length cm]∧Blk w b5 33 [vi 0,vi 0,.slice none 0 0]∧Blk w bF 93 [vi ((rTurnN b y.num).a),vi ((rTurnN b y.num).b),vi ((rTurnN b y.num).c),vi ((rTurnN b y.num).d)]∧Below w0.heap.size w0 w) (fun (s:Nat×Nat)=>match s with|(i,b)=>7-i) (0,0) ?_ ?_
 ·exact ⟨q.sb,(by omega),(by omega),rfl,g,f,o,n⟩
 rintro ⟨i,b⟩ a w10 ⟨q,dG,dH,bG,g,f,o,n⟩;refine wp_seq_k fun _ cJ=>?_;refine Zs q fun _ cK=>?_;refine Zm rfl<|Ze (X15 rfl rfl)<|Zt cK fun a q=>?_
 refine Xs q rfl (fun I=>?_) (fun I=>?_)
 ·have bH:=I;have I:=of_decide_eq_true I;refine wp_skip<|cJ _ _<|wp_seq_k fun _ b2=>?_;refine wp_block<|Zs q fun _ cL=>?_;refine Ze (Vd rfl X0r 2)<|Ze (X0 rfl X1a (g.at 2))<|Zm rfl<|Zi (k:=j0) (u:=y) (enc:=encD) (l:=m.cells) trivial rfl rfl X0d Xh X09 (M.below' n) aW bD ?_;intro dI bI;refine Ze (X7j rfl X0i)<|Ze (X03 (l:=[vi y.num.a,vi y.num.b,vi y.num.c,vi y.num.d]) rfl Xv ((bI.drop 0).take 4) rfl)<|Zm rfl<|Zf (X2s (vs:=[.agg #[vi y.num.a,vi y.num.b,vi y.num.c,vi y.num.d],vi ((i+1:Nat) : Int)]) rfl Xi2 (by have hq:=Xr0 w10 y.num ((i+1:Nat) : Int);rw [(Xd3 cD (by omega:i+1<8)).1,(Xd3 cD (by omega:i+1<8)).2] at hq;exact hq)) ?_;rintro _ dJ ⟨rfl,e⟩;have g:=g.below e;have f:=f.below e;have o:=o.below e;have n:=btr n e;refine Zm rfl<|Ze (X6 (vs:=[.agg #[vi ((rTurnN (i+1) y.num).a),vi ((rTurnN (i+1) y.num).b),vi ((rTurnN (i+1) y.num).c),vi ((rTurnN (i+1) y.num).d)],.bool true]) rfl rfl)<|Ze (X6 (vs:=[.agg #[vi ((rTurnN (i+1) y.num).a),vi ((rTurnN (i+1) y.num).b),vi ((rTurnN (i+1) y.num).c),vi ((rTurnN (i+1) y.num).d)],.bool true]) rfl rfl)<|Zf (Xc (zs:=[vi 0,vi 0,vi 0,vi 0]) X1c rfl) ?_;rintro _ dK ⟨b26,rfl,cM,e,C⟩
  have cA:bF≠b26:=by have:=o.lt;omega
  have bJ:=Nat.le_trans n.size cM;have g:=g.below e;have f:=f.below e;have o:=o.below e;have n:=btr n e;refine Zo (Vw [vi ((rTurnN (i+1) y.num).a),vi ((rTurnN (i+1) y.num).b),vi ((rTurnN (i+1) y.num).c),vi ((rTurnN (i+1) y.num).d)] X0m C) ?_;rintro _ dL ⟨L,hb⟩;have z:=C;have g:=g.only L (Blk.ne g z rfl);have f:=f.only L (Blk.ne f z rfl);have o:=o.only L (by omega);have n:=Below.only n L bJ;have C:=hb;refine Za rfl<|Zx cL fun a q _ cN=>?_;refine Ze (Vn Xv C)<|Ze (Vn Xv o)<|Zf (Vc (Xri _ (rTurnN (i+1) y.num) (rTurnN b y.num)) Xkj) ?_;rintro _ dM ⟨rfl,e⟩;have g:=g.below e;have f:=f.below e;have o:=o.below e;have C:=C.below e;have n:=btr n e;refine Ze (Xfx rfl rfl)<|Zt cN fun a q=>?_
  refine Xs q rfl (fun D=>?_) (fun D=>?_)
  ·have bK:=D;have D:=of_decide_eq_true D
   have bL:i+1=bestT y.num (i+1):=by subst bG;have h8:=decide_eq_true D;rw [Xd0] at h8;rw [bestT,if_pos h8]
   refine X0n none (fun j=>[3].contains j) mixed ?_;intro dN e;have g:=g.below e;have f:=f.below e;have o:=o.below e;have C:=C.below e;have n:=btr n e;refine Yb q<|Yo 0 rfl (fun _=>Xo rfl)<|Ye 1 rfl (Vn Xv C)<|Yo 2 rfl (fun _=>X14 rfl)<|Y1 3 ?_;refine Yh rfl trivial rfl (Vw [vi ((rTurnN (i+1) y.num).a),vi ((rTurnN (i+1) y.num).b),vi ((rTurnN (i+1) y.num).c),vi ((rTurnN (i+1) y.num).d)] X0m o) ?_;rintro _ dO ⟨L,hb⟩;have z:=o;have g:=g.only L (Blk.ne g z rfl);have f:=f.only L (Blk.ne f z rfl);have n:=Below.only n L aG;have o:=hb;refine Yd fun a q=>?_;refine X06<|b2 _ _<|Zr q<|Zm rfl<|Ze (X0b rfl rfl (by omega) (by omega))<|Za rfl ?_;refine Zn fun a q=>?_;refine X07 ?_;exact ⟨(i+1,i+1),⟨q.sb,(by omega),(by omega),bL,g,f,o,n⟩,(by first|omega|(dsimp only;omega))⟩
  have bK:=D;have D:=of_decide_eq_false D
  have bL:b=bestT y.num (i+1):=by subst bG;have h8:=decide_eq_false D;rw [Xd0] at h8;rw [bestT,if_neg (by rw [h8];decide)]
  refine wp_skip<|X06<|b2 _ _<|Zr q ?_;refine Zm rfl<|Ze (X0b rfl rfl (by omega) (by omega))<|Za rfl ?_;refine Zn fun a q=>?_;refine X07 ?_;exact ⟨(i+1,b),⟨q.sb,(by omega),(by omega),bL,g,f,o,n⟩,(by first|omega|(dsimp only;omega))⟩
 have bH:=I;have I:=of_decide_eq_false I
 have dA:i=7:=by omega
 have cO:turnK y.num=b:=by rw [bG,dA];rfl
 have cP:scaleI m (dPow (b:Int))=some ⟨m.rows,m.cols,m.cells.map (dTurn (b:Int))⟩:=Xcn bC (by omega)
 refine wp_exit<|Xx<|Xx<|X0e ?_;refine cG _ _<|wp_seq_k fun _ cQ=>?_;refine X0o (fun a w=>∃ B E G,Fr a 61 [(2,.pointer (some ⟨b5,0,none⟩)),(6,vi (b:Int)),(11,.pointer (some ⟨B,0,none⟩)),(12,.bool true)]∧w0.heap.size≤B∧Blk w B 33 [vi m.rows,vi m.cols,.slice E (m.cells.map (dTurn (b:Int))).length G]∧b3≠B∧b5≠B∧Own w w0.heap.size 95 5 encD E G (m.cells.map (dTurn (b:Int)))∧Below w10.heap.size w10 w) ?_ ?_
 ·have p:Below w10.heap.size w10 w10:=Below.refl _ _
  refine X0n none (fun j=>[8].contains j) mixed ?_;intro w17 e;have g:=g.below e;have f:=f.below e;have n:=btr n e;have p:=btr p e;refine Yb q<|Ye 0 rfl (Vn X04 g)<|Yo 1 rfl (fun _=>Xo rfl) ?_
  have t:Below w17.heap.size w17 w17:=Below.refl _ _
  refine Yc [0,1,2,3,4,5,6,7] 2 (fun a w=>∃ B E G,Fr a 61 [(2,.pointer (some ⟨b5,0,none⟩)),(6,vi (b:Int)),(11,.pointer (some ⟨B,0,none⟩)),(56,.agg #[vi m.rows,vi m.cols,.slice E (m.cells.map (dTurn (b:Int))).length G]),(57,.bool true)]∧w0.heap.size≤B∧Blk w B 33 [vi 0,vi 0,.slice none 0 0]∧b3≠B∧b5≠B∧w17.heap.size≤B∧w10.heap.size≤B∧Own w w0.heap.size 95 5 encD E G (m.cells.map (dTurn (b:Int)))∧Below w17.heap.size w17 w) ?_ ?_
  ·rintro a dP ⟨B,E,G,q,aC,N,aA,aB,bM,bN,J,e⟩;clear t;have t:=e;have n:=btr n e;have p:=btr p e;refine Yb q<|Y1 8<|Yh rfl trivial rfl (Vw [vi m.rows,vi m.cols,.slice E (m.cells.map (dTurn (b:Int))).length G] X11 N) ?_;rintro _ w19 ⟨L,hb⟩;have z:=N;have J:=J.onlyT L z rfl;have p:=Below.only p L bN;have t:=Below.only t L bM;have n:=Below.only n L aC;have N:=hb;refine Yo 9 rfl (fun _=>X14 rfl) ?_;refine Yd fun a q=>?_
   have aE:Below w10.heap.size w10 w19:=p
   exact ⟨B,E,G,q.sb,aC,N,aA,aB,J,aE⟩
  intro b4;refine Yc [0,1,2,7] 6 (fun a w=>∃ U,Fr a 61 [(2,.pointer (some ⟨b5,0,none⟩)),(6,vi (b:Int)),(11,.pointer (some ⟨U,0,none⟩)),(52,.agg #[vi m.rows,vi m.cols,.slice Am m.cells.length cm]),(54,.agg #[vi ((dPow (b:Int)).num.a),vi ((dPow (b:Int)).num.b),vi ((dPow (b:Int)).num.c),vi ((dPow (b:Int)).num.d),vi ((dPow (b:Int)).exp)])]∧w0.heap.size≤U∧Blk w U 33 [vi 0,vi 0,.slice none 0 0]∧b3≠U∧b5≠U∧w17.heap.size≤U∧w10.heap.size≤U∧Below w17.heap.size w17 w) ?_ ?_
  ·rintro a dB ⟨U,q,bO,aH,aI,aJ,bP,bQ,e⟩;clear t;have t:=e;have n:=btr n e;have p:=btr p e;refine Yb q<|Y1 3<|Yf rfl trivial (EfW.mono (X2s (vs:=[.agg #[vi m.rows,vi m.cols,.slice Am m.cells.length cm],.agg #[vi ((dPow (b:Int)).num.a),vi ((dPow (b:Int)).num.b),vi ((dPow (b:Int)).num.c),vi ((dPow (b:Int)).num.d),vi ((dPow (b:Int)).exp)]]) rfl Xj9 (by have hq:=Xqt dB m Am cm (M.below' n).top (dPow (b:Int)) aU;rw [cP,Option.getD_some,Option.isSome_some] at hq;exact hq)) (fun _ _ h=>⟨fun _=>by obtain ⟨aX,aY,rfl,aD,e⟩:=h;exact e,h⟩)) ?_;rintro _ dQ ⟨aX,aY,rfl,aD,e⟩;have aD:=aD.lower n.size;have aH:=aH.below e;have n:=btr n e;have p:=btr p e;have t:=btr t e;refine Yo 4 rfl (fun _=>Xo rfl)<|Yo 5 rfl (fun _=>X6 (vs:=[.agg #[vi m.rows,vi m.cols,.slice aX (m.cells.map (dTurn (b:Int))).length aY],.bool true]) rfl rfl)<|Yo 6 rfl (fun _=>X6 (vs:=[.agg #[vi m.rows,vi m.cols,.slice aX (m.cells.map (dTurn (b:Int))).length aY],.bool true]) rfl rfl) ?_;exact fun a q=>b4 _ a _ rfl ⟨U,aX,aY,q.sb,bO,aH,aI,aJ,bP,bQ,aD,t⟩
  intro b6;refine Y2 2 7 ?_ ?_
  ·refine Yk rfl trivial (Vc (Xar _ (b:Int) (by unfold inR;simp;omega)) X3v) (fun _ _ ⟨_,e⟩=>e) ?_;rintro _ dC ⟨rfl,e⟩;have g:=g.below e;have f:=f.below e;have n:=btr n e;have p:=btr p e;have t:=btr t e;refine Y2 3 7 ?_ ?_
   ·refine Yf rfl trivial (EfW.mono (X2s (vs:=[.agg #[vi m.rows,vi m.cols,.slice Am m.cells.length cm],.agg #[vi ((dPow (b:Int)).num.a),vi ((dPow (b:Int)).num.b),vi ((dPow (b:Int)).num.c),vi ((dPow (b:Int)).num.d),vi ((dPow (b:Int)).exp)]]) rfl Xj9 (by have hq:=Xqt dC m Am cm (M.below' n).top (dPow (b:Int)) aU;rw [cP,Option.getD_some,Option.isSome_some] at hq;exact hq)) (fun _ _ h=>⟨fun _=>by obtain ⟨aZ,b0,rfl,Q,e⟩:=h;exact e,h⟩)) ?_;rintro _ dR ⟨aZ,b0,rfl,Q,e⟩;have Q:=Q.lower n.size;have g:=g.below e;have f:=f.below e;have n:=btr n e;have p:=btr p e;have t:=btr t e;refine Yo 4 rfl (fun _=>Xo rfl)<|Yo 5 rfl (fun _=>X6 (vs:=[.agg #[vi m.rows,vi m.cols,.slice aZ (m.cells.map (dTurn (b:Int))).length b0],.bool true]) rfl rfl)<|Yo 6 rfl (fun _=>X6 (vs:=[.agg #[vi m.rows,vi m.cols,.slice aZ (m.cells.map (dTurn (b:Int))).length b0],.bool true]) rfl rfl)<|Y1 7 ?_;refine Yk rfl trivial (Xc (zs:=[vi 0,vi 0,.slice none 0 0]) X1k rfl) (fun _ _ ⟨_,_,_,h,_⟩=>h) ?_;rintro _ dS ⟨b37,rfl,aK,e,cR⟩
    have aL:b3≠b37:=by have:=g.lt;omega
    have aM:b5≠b37:=by have:=f.lt;omega
    have bR:=Nat.le_trans n.size aK;have bS:=Nat.le_trans p.size aK;have bU:=Nat.le_trans t.size aK;have Q:=Q.below e;have n:=btr n e;have p:=btr p e;have t:=btr t e;exact fun a q=>b4 _ a _ rfl ⟨b37,aZ,b0,q.sb,bR,cR,aL,aM,bU,bS,Q,t⟩
   refine Yk rfl trivial (Xc (zs:=[vi 0,vi 0,.slice none 0 0]) X1k rfl) (fun _ _ ⟨_,_,_,h,_⟩=>h) ?_;rintro _ dT ⟨b39,rfl,aN,e,cS⟩
   have aO:b3≠b39:=by have:=g.lt;omega
   have aP:b5≠b39:=by have:=f.lt;omega
   have bW:=Nat.le_trans n.size aN;have bX:=Nat.le_trans p.size aN;have bY:=Nat.le_trans t.size aN;have n:=btr n e;have p:=btr p e;have t:=btr t e;exact fun a q=>b6 _ a _ rfl ⟨b39,q.sb,bW,cS,aO,aP,bY,bX,t⟩
  refine Yk rfl trivial (Xc (zs:=[vi 0,vi 0,.slice none 0 0]) X1k rfl) (fun _ _ ⟨_,_,_,h,_⟩=>h) ?_;rintro _ dU ⟨b41,rfl,aQ,e,aR⟩
  have aS:b3≠b41:=by have:=g.lt;omega
  have aT:b5≠b41:=by have:=f.lt;omega
  have bZ:=Nat.le_trans n.size aQ;have c6:=Nat.le_trans p.size aQ;have c7:=Nat.le_trans t.size aQ;have n:=btr n e;have p:=btr p e;have t:=btr t e;refine Y1 2<|Yk rfl trivial (Vc (Xar _ (b:Int) (by unfold inR;simp;omega)) X3v) (fun _ _ ⟨_,e⟩=>e) ?_;rintro _ dW ⟨rfl,e⟩;have aR:=aR.below e;have n:=btr n e;have p:=btr p e;have t:=btr t e;exact fun a q=>b6 _ a _ rfl ⟨b41,q.sb,bZ,aR,aS,aT,c7,c6,t⟩
 rintro a dX ⟨B,E,G,q,aC,N,aA,aB,J,e⟩;have f:=f.below e;have n:=btr n e;refine cQ _ _<|Zs q fun _ cT=>?_;refine Ze (Vn X04 N)<|Zm rfl<|Zm rfl<|Zo (Vw [vi m.rows,vi m.cols,.slice E (m.cells.map (dTurn (b:Int))).length G] X11 f) ?_;rintro _ dY ⟨L,hb⟩;have z:=f;have J:=J.onlyT L z rfl;have n:=Below.only n L b1;have f:=hb;refine Za rfl<|Za rfl<|Zt cT fun a q=>?_
 refine wp_ret (X2 q (Xpv q rfl (ResV.cellN (l:=[vi m.rows,vi m.cols,.slice E (m.cells.map (dTurn (b:Int))).length G]) rfl X04 (f.at 0) rfl) rfl rfl) ?_)
 obtain ⟨aF,b8,b9⟩:=Xgt bC d9;exact ⟨E,G,by rw [aF,b8,b9,cO],by rw [aF,cO];exact J,n⟩
theorem Xrn(i:World)(Al:Option Addr)(cl:Nat)(l:List Int)(aE:Rd i i.heap.size 3 encI Al l)(z:ByteArray)(aO:l.length≤1000)(aP:z.size≤100)(aA:∀ n ∈ l,-9223372036854775808≤n∧n≤9223372036854775807)(aF:PowT i) : Ret Tryz.prog 174 [.slice Al l.length cl,.string z] i (fun v w=>v=.string (jnI l z)∧Below i.heap.size i w):=by
 refine enter Tryz.func174 rfl 24 rfl rfl ?_;intro a c
 have d:=bz i
 refine Zs c fun _ aQ=>?_;refine Za rfl<|Zx aQ fun a c _ aR=>?_;refine Zf (Xf (k:=0) (vs:=[]) (zs:=[]) rfl X42 X8l rfl rfl) ?_;rintro _ w1 ⟨b4,rfl,aS,o,aT⟩;have aG:=Nat.le_trans d.size aS;have d:=btr d o;refine Za rfl<|ZX aR fun a c _ aU=>?_;refine Zs c fun _ aW=>?_;refine Zm rfl<|Ze (X1r rfl X1g)<|Zm rfl<|Zt aW fun a c=>?_;refine wp_block<|X0f (σ:=Nat×(List ByteArray)) (fun (s:Nat×(List ByteArray)) (a:Act) (w:World)=>match s with|(k,q)=>∃ A8 c8,Fr a 24 [(1,.string z),(5,.slice A8 q.length c8),(9,.slice Al l.length cl),(10,vi (l.length:Int)),(11,vi (k:Int))]∧(k≤l.length)∧(q=(l.take k).map fun n=>tx (Lib.itoa n))∧(q.length=k)∧Own w i.heap.size 9 1 encTx A8 c8 q∧Below i.heap.size i w) (fun (s:Nat×(List ByteArray))=>match s with|(k,q)=>l.length-k) (0,[]) ?_ ?_
 ·exact ⟨some ⟨b4,0,none⟩,0,c.sb,(Nat.zero_le _),rfl,rfl,(Own.empty aT aG),d⟩
 rintro ⟨k,q⟩ a w2 ⟨A8,c8,c,hk,hq,aH,e,d⟩;refine Zs c fun _ aX=>?_;refine Ze (X15 rfl rfl)<|ZX aX fun a c _ aI=>?_
 refine Xs c rfl (fun b=>?_) (fun b=>?_)
 ·have aB:=b;have b:=of_decide_eq_true b
  obtain ⟨g,f⟩:=X05 (l:=l) (k:=k) (by omega)
  refine wp_skip<|aI _ _<|wp_seq_k fun _ aJ=>?_;refine wp_block<|Zs c fun _ aK=>?_;refine Zi (k:=k) (u:=g) (enc:=encI) (l:=l) trivial rfl rfl X1g X2i X22 (aE.below' d) f rfl ?_;intro b1 aC;refine Ze (X0 rfl X4 aC)<|Za rfl<|Zt aK fun a c=>?_;refine Zr c<|Zm rfl<|Zm rfl<|Zf (Vc (Xmh _ g (aA _ (List.mem_of_getElem? f)).1 (aA _ (List.mem_of_getElem? f)).2 (aF.of d)) Xd2) ?_;rintro _ w3 ⟨rfl,o⟩;have e:=e.below o;have d:=btr d o;refine Zf (Xf (k:=1) (vs:=[.string (tx (Lib.itoa g))]) (zs:=[.string (tx (Lib.itoa g))]) rfl X42 X8l rfl rfl) ?_;rintro _ w4 ⟨b2,rfl,p,o,j⟩;have aY:=Nat.le_trans d.size p;have m:=e.away p;have e:=e.below o;have d:=btr d o;refine Zf (X1e (enc:=encTx) (l:=(q)) (l2:=([tx (Lib.itoa g)])) (B0:=i.heap.size) rfl rfl X42 X8l X5w X87 e (Rd.of_blk j rfl _ j.lt) (by simp only [maxLen];simp;omega) (by simp;omega) d.size) ?_;rintro _ w5 ⟨aZ,b0,rfl,aL,hg,aM⟩
  have t:Own _ i.heap.size 9 1 encTx _ _ (q):=e
  have aD:=aM _ j.lt m;clear aM;have d:=Below.app d t hg (Nat.le_refl _) d.size;clear t hg;refine Za rfl ?_;refine Zn fun a c=>?_;refine X06<|aJ _ _<|Zr c<|Ze (X0b rfl rfl (by omega) (by omega))<|Zm rfl ?_;refine Zn fun a c=>?_;refine X07 ?_;exact ⟨(k+1,(q++[tx (Lib.itoa g)])),⟨aZ,b0,c.sb,(by omega),(Xav hq f),(by simp;exact aH),aL,d⟩,(by first|omega|(dsimp only;omega))⟩
 have aB:=b;have b:=of_decide_eq_false b
 have x:q=l.map fun n=>tx (Lib.itoa n):=by rw [hq,List.take_of_length_le (by omega)]
 refine wp_exit<|Xx<|Xx<|X0e ?_;refine aU _ _<|Zs c fun _ aN=>?_;refine Zm rfl<|Zm rfl<|Zf (Vc (Xml _ A8 c8 q z e.rd.top e.cap (by rw [aH];omega) (by rw [x];exact Xew aO aP aA)) Xda) ?_;rintro _ w6 ⟨rfl,o⟩;have d:=btr d o;refine Za rfl<|Zt aN fun a c=>?_
 refine wp_ret (X2 c (Xt c rfl rfl) ?_)
 exact ⟨by rw [x];rfl,d⟩
theorem Xqz(w0:World)(x:Rg)(aB:PowT w0) : Ret Tryz.prog 118 [.agg #[vi x.a,vi x.b,vi x.c,vi x.d]] w0 (fun v w=>v=.tuple #[.string (fmR x),.bool (rOk x)]∧Below w0.heap.size w0 w):=by
 refine enter Tryz.func118 rfl 17 rfl rfl ?_;intro a f
 have g:=bz w0
 refine Zs f fun _ aF=>?_;refine Zf (X0c (zs:=[vi x.a,vi x.b,vi x.c,vi x.d]) rfl rfl) ?_;rintro _ w1 ⟨b2,rfl,aG,j,e⟩;have aM:=Nat.le_trans g.size aG;have g:=btr g j;refine Za rfl<|Za rfl<|ZX aF fun a f _ aH=>?_;refine Zs f fun _ aI=>?_;refine Ze (Vn Xv e)<|Zf (Vc (Xek _ x) X5x) ?_;rintro _ w2 ⟨rfl,j⟩;have e:=e.below j;have g:=btr g j;refine Ze (X0z rfl)<|Zt aI fun a f=>?_
 refine Xs f rfl (fun i=>?_) (fun i=>?_)
 ·have aC:=i
  have aD:rOk x=false:=by simpa using i
  refine Zs f fun _ aJ=>?_;refine Za rfl<|Za rfl<|Zt aJ fun a f=>?_;refine wp_ret<|X5<|X2 f (X0x f rfl rfl rfl) ?_;exact ⟨by rw [Xom (by simp [aD]),aD];rfl,g⟩
 have aC:=i
 have aA:rOk x=true:=by simpa using i
 refine wp_skip<|aH _ _<|Zs f fun _ aK=>?_;refine Ze (Vd rfl Xy 0)<|Ze (X0 rfl X4 (e.at 0))<|Ze (Vd rfl X02 1)<|Ze (X0 rfl X4 (e.at 1))<|Ze (Vd rfl X01 2) ?_;refine Ze (X0 rfl X4 (e.at 2))<|Ze (Vd rfl X00 3)<|Ze (X0 rfl X4 (e.at 3))<|Zf (Xf (k:=4) (vs:=[vi x.a,vi x.b,vi x.c,vi x.d]) (zs:=[vi x.a,vi x.b,vi x.c,vi x.d]) rfl X1g X4i rfl rfl) ?_;rintro _ w3 ⟨b8,rfl,aL,j,aE⟩;have aN:=Nat.le_trans g.size aL;have g:=btr g j;refine Zf (Vc (Xrn _ (some ⟨b8,0,none⟩) 4 ([x.a,x.b,x.c,x.d]) (Rd.of_blk aE rfl _ aE.lt) (tx [32]) (by simp) (by decide) (Xg4 aA) (aB.of g)) Xjm) ?_;rintro _ w4 ⟨rfl,j⟩;have g:=btr g j;refine Za rfl<|Za rfl<|Zt aK fun a f=>?_
 refine wp_ret (X2 f (X0x f rfl rfl rfl) ?_)
 exact ⟨by rw [X9z aA,aA];rfl,g⟩
theorem Xqc(w0:World)(x:Dy)(m:PowT w0) : Ret Tryz.prog 65 [.agg #[vi x.num.a,vi x.num.b,vi x.num.c,vi x.num.d,vi x.exp]] w0 (fun v w=>v=.tuple #[.string (fmD x),.bool (dOk x)]∧Below w0.heap.size w0 w):=by
 refine enter Tryz.func65 rfl 21 rfl rfl ?_;intro a f
 have g:=bz w0
 refine Zs f fun _ aC=>?_;refine Zf (X0c (zs:=[vi x.num.a,vi x.num.b,vi x.num.c,vi x.num.d,vi x.exp]) rfl rfl) ?_;rintro _ w1 ⟨b2,rfl,aD,k,e⟩;have aJ:=Nat.le_trans g.size aD;have g:=btr g k;refine Za rfl<|Za rfl<|ZX aC fun a f _ aE=>?_;refine Zs f fun _ aF=>?_;refine Ze (Vn Xb e)<|Zf (Vc (Xc8 _ x) X4z) ?_;rintro _ w2 ⟨rfl,k⟩;have e:=e.below k;have g:=btr g k;refine Ze (X0z rfl)<|Zt aF fun a f=>?_
 refine Xs f rfl (fun j=>?_) (fun j=>?_)
 ·have aA:=j
  have aB:dOk x=false:=by simpa using j
  refine Zs f fun _ aG=>?_;refine Za rfl<|Za rfl<|Zt aG fun a f=>?_;refine wp_ret<|X5<|X2 f (X0x f rfl rfl rfl) ?_;exact ⟨by rw [Xn1 (by simp [aB]),aB];rfl,g⟩
 have aA:=j
 have i:dOk x=true:=by simpa using j
 refine wp_skip<|aE _ _<|Zs f fun _ aH=>?_;refine Ze (Vd rfl X0i 0)<|Ze (X03 (l:=[vi x.num.a,vi x.num.b,vi x.num.c,vi x.num.d]) rfl Xv ((e.at 0).take 4) rfl)<|Zf (Vc (Xqz _ x.num (m.of g)) Xkc) ?_;rintro _ w3 ⟨rfl,k⟩;have e:=e.below k;have g:=btr g k;refine Zm rfl<|Ze (X6 (vs:=[.string (fmR x.num),.bool (rOk x.num)]) rfl rfl)<|Ze (X6 (vs:=[.string (fmR x.num),.bool (rOk x.num)]) rfl rfl)<|Za rfl<|Za rfl ?_;refine Zx aH fun a f _ aI=>?_;refine Zm rfl<|Ze (Xi6 rfl rfl (Xny i))<|Ze (Vd rfl X0k 4)<|Ze (X0 rfl X4 (e.at 4))<|Zf (Vc (Xmh _ x.exp (X68 i).1 (X68 i).2 (m.of g)) Xd2) ?_;rintro _ w4 ⟨rfl,k⟩;have g:=btr g k;refine Ze (Xi6 rfl rfl (Xoo i))<|Za rfl<|Za rfl<|Zt aI fun a f=>?_
 refine wp_ret (X2 f (X0x f rfl rfl rfl) ?_)
 exact ⟨by rw [← Xjy i,i];rfl,g⟩
theorem Xhq(t:World)(m:Mx)(Am:Option Addr)(cm:Nat)(H:Rd t t.heap.size 95 encD Am m.cells)(aU:m.cells.length≤2305843009213693951)(aE:PowT t) : Ret Tryz.prog 37 [.agg #[vi m.rows,vi m.cols,.slice Am m.cells.length cm]] t (fun v w=>v=.tuple #[.string (keyM m),.bool (canY m)]∧Below t.heap.size t w):=by
 have bC:=Xgy m;refine enter Tryz.func37 rfl 39 rfl rfl ?_;intro a n
 have i:=bz t
 refine Zs n fun _ aW=>?_;refine Zf (X0c (zs:=[vi m.rows,vi m.cols,.slice Am m.cells.length cm]) rfl rfl) ?_;rintro _ w1 ⟨b3,rfl,aX,j,D⟩;have b8:=Nat.le_trans i.size aX;have i:=btr i j;refine Za rfl<|Za rfl<|Zx aW fun a n _ aY=>?_;refine Ze (Vn X04 D)<|Zf (Vc (Xpu _ m Am cm (H.below' i).top aU) Xlw) ?_;rintro _ w2 ⟨A5,c5,rfl,e,j⟩;have e:=e.lower i.size;have D:=D.below j;have i:=btr i j;refine Zm rfl<|Ze (X6 (vs:=[.agg #[vi ((canM m).rows),vi ((canM m).cols),.slice A5 ((canM m).cells).length c5],vi (canT m),.bool (canY m)]) rfl rfl)<|Ze (X6 (vs:=[.agg #[vi ((canM m).rows),vi ((canM m).cols),.slice A5 ((canM m).cells).length c5],vi (canT m),.bool (canY m)]) rfl rfl)<|Ze (X6 (vs:=[.agg #[vi ((canM m).rows),vi ((canM m).cols),.slice A5 ((canM m).cells).length c5],vi (canT m),.bool (canY m)]) rfl rfl)<|Zf (Xc (zs:=[vi 0,vi 0,.slice none 0 0]) X1k rfl) ?_;rintro _ w3 ⟨b7,rfl,aZ,j,x⟩
 have aT:b3≠b7:=by have:=D.lt;omega
 have aF:=Nat.le_trans i.size aZ;have e:=e.below j;have i:=btr i j;refine Zo (Vw [vi ((canM m).rows),vi ((canM m).cols),.slice A5 ((canM m).cells).length c5] X11 x) ?_;rintro _ w4 ⟨ho,hb⟩;have z:=x;have e:=e.onlyT ho z rfl;have i:=Below.only i ho aF;have x:=hb;refine Za rfl<|Za rfl<|Zx aY fun a n _ b0=>?_;refine Zf (Xf (k:=0) (vs:=[]) (zs:=[]) rfl X42 X8l rfl rfl) ?_;rintro _ w5 ⟨b9,rfl,b1,j,b2⟩;have aG:=Nat.le_trans i.size b1;have x:=x.below j;have e:=e.below j;have i:=btr i j;refine Za rfl<|ZX b0 fun a n _ aH=>?_;refine Zs n fun _ aI=>?_;refine Ze (Vd rfl X0r 2)<|Ze (X0 rfl X1a (x.at 2))<|Ze (X1r rfl X0d)<|Zm rfl<|Zt aI fun a n=>?_;refine wp_block<|X0f (σ:=Nat×(List ByteArray)) (fun (s:Nat×(List ByteArray)) (a:Act) (w:World)=>match s with|(k,q)=>∃ E G,Fr a 39 [(6,.bool (canY m)),(7,.slice E q.length G),(20,.slice A5 ((canM m).cells).length c5),(21,vi (((canM m).cells).length:Int)),(22,vi (k:Int))]∧(k≤(canM m).cells.length)∧(q=((canM m).cells.take k).map fmD)∧(q.length=k)∧Own w t.heap.size 9 1 encTx E G q∧Own w t.heap.size 95 5 encD A5 c5 ((canM m).cells)∧Below t.heap.size t w) (fun (s:Nat×(List ByteArray))=>match s with|(k,q)=>(canM m).cells.length-k) (0,[]) ?_ ?_
 ·exact ⟨some ⟨b9,0,none⟩,0,n.sb,(Nat.zero_le _),rfl,rfl,(Own.empty b2 aG),e,i⟩
 rintro ⟨k,q⟩ a w6 ⟨E,G,n,hk,hq,aJ,f,e,i⟩;refine Zs n fun _ aK=>?_;refine Ze (X15 rfl rfl)<|ZX aK fun a n _ aL=>?_
 refine Xs n rfl (fun o=>?_) (fun o=>?_)
 ·have aA:=o;have o:=of_decide_eq_true o
  obtain ⟨g,I⟩:=X05 (l:=((canM m).cells)) (k:=k) (by omega)
  refine wp_skip<|aL _ _<|wp_seq_k fun _ aM=>?_;refine wp_block<|Zs n fun _ aN=>?_;refine Zi (k:=k) (u:=g) (enc:=encD) (l:=(canM m).cells) trivial rfl rfl X0d Xh X09 e.rd I rfl ?_;intro bD aB;refine Ze (X03 (l:=[vi g.num.a,vi g.num.b,vi g.num.c,vi g.num.d,vi g.exp]) rfl Xb aB rfl)<|Zf (Xc (zs:=[vi 0,vi 0,vi 0,vi 0,vi 0]) X0y rfl) ?_;rintro _ w7 ⟨bE,rfl,h,j,p⟩;have aC:=Nat.le_trans i.size h;have aO:=(H.below' i).away h;have A:=e.away h;have f:=f.below j;have e:=e.below j;have i:=btr i j;refine Zo (Vw [vi g.num.a,vi g.num.b,vi g.num.c,vi g.num.d,vi g.exp] Xh p) ?_;rintro _ w8 ⟨ho,hb⟩;have z:=p;have f:=f.onlyT ho z rfl;have e:=e.onlyA ho A;have i:=Below.only i ho aC;have p:=hb;refine Zx aN fun a n _ aP=>?_;refine Ze (Vn Xb p)<|Zf (Vc (Xqc _ g (aE.of i)) Xjq) ?_;rintro _ w9 ⟨rfl,j⟩;have f:=f.below j;have e:=e.below j;have i:=btr i j;refine Zm rfl<|Ze (X6 (vs:=[.string (fmD g),.bool (dOk g)]) rfl rfl)<|Ze (X6 (vs:=[.string (fmD g),.bool (dOk g)]) rfl rfl)<|Za rfl<|Za rfl ?_;refine Zt aP fun a n=>?_;refine Zr n<|Zm rfl<|Zm rfl<|Zf (Xf (k:=1) (vs:=[.string (fmD g)]) (zs:=[.string (fmD g)]) rfl X42 X8l rfl rfl) ?_;rintro _ bF ⟨bG,rfl,J,j,B⟩;have b4:=Nat.le_trans i.size J;have y:=f.away J;have f:=f.below j;have e:=e.below j;have i:=btr i j;refine Zf (X1e (enc:=encTx) (l:=(q)) (l2:=([fmD g])) (B0:=t.heap.size) rfl rfl X42 X8l X5w X87 f (Rd.of_blk B rfl _ B.lt) (by simp only [maxLen];simp;omega) (by simp;omega) i.size) ?_;rintro _ bH ⟨b5,b6,rfl,aQ,hg,aR⟩
  have C:Own _ t.heap.size 9 1 encTx _ _ (q):=f
  have aD:=aR _ B.lt y;clear aR;have e:=e.appT C hg rfl;have i:=Below.app i C hg (Nat.le_refl _) i.size;clear C hg;refine Za rfl ?_;refine Zn fun a n=>?_;refine X06<|aM _ _<|Zr n<|Ze (X0b rfl rfl (by omega) (by omega))<|Zm rfl ?_;refine Zn fun a n=>?_;refine X07 ?_;exact ⟨(k+1,(q++[fmD g])),⟨b5,b6,n.sb,(by omega),(Xav hq I),(by simp;exact aJ),aQ,e,i⟩,(by first|omega|(dsimp only;omega))⟩
 have aA:=o;have o:=of_decide_eq_false o
 have L:q=(canM m).cells.map fmD:=by rw [hq,List.take_of_length_le (by omega)]
 refine wp_exit<|Xx<|Xx<|X0e ?_;refine aH _ _<|Zs n fun _ aS=>?_;refine Zm rfl<|Zf (Vc (Xml _ E G q (tx [44]) f.rd.top f.cap (by rw [aJ];omega) (by rw [L];exact Xc0 m (by omega))) Xda) ?_;rintro _ bI ⟨rfl,j⟩;have i:=btr i j;refine Zm rfl<|Za rfl<|Za rfl<|Zt aS fun a n=>?_
 refine wp_ret (X2 n (X0x n rfl rfl rfl) ?_)
 exact ⟨by rw [L];rfl,i⟩
theorem Xqj(x:World)(n:Nat)(hn:n=1∨n=2) : Ret Tryz.prog 68 [vi (n:Int)] x (fun v w=>∃ A c,v=.slice A (gsT n).length c∧Own w x.heap.size 115 3 encG A c (gsT n)∧Below x.heap.size x w):=by
 refine enter Tryz.func68 rfl 34 rfl rfl ?_;intro a b
 have e:=bz x
 refine Zs b fun _ aY=>?_;refine Za rfl<|Zx aY fun a b _ aZ=>?_;refine Zf (Xf (k:=0) (vs:=[]) (zs:=[]) rfl X0s X0t rfl rfl) ?_;rintro _ w1 ⟨b4,rfl,b0,h,aA⟩;have aH:=Nat.le_trans e.size b0;have e:=btr e h;refine Za rfl<|ZX aZ fun a b _ b1=>?_;refine Zs b fun _ b2=>?_;refine Zf (Xf (k:=3) (vs:=[vi 1,vi 5,vi 7]) (zs:=[vi 1,vi 5,vi 7]) rfl X1g X4i rfl rfl) ?_;rintro _ w2 ⟨b8,rfl,b3,h,f⟩;have bI:=Nat.le_trans e.size b3;have aA:=aA.below h;have e:=btr e h;refine Ze (X1r rfl X1g)<|Zm rfl<|Zt b2 fun a b=>?_;refine wp_block<|X0f (σ:=Nat×(List Gt)) (fun (s:Nat×(List Gt)) (a:Act) (w:World)=>match s with|(i,q)=>∃ B C,Fr a 34 [(0,vi (n:Int)),(3,.slice B q.length C),(8,.slice (some ⟨b8,0,none⟩) ([1,5,7]).length 3),(9,vi (([1,5,7]).length:Int)),(10,vi (i:Int))]∧(i≤3)∧(q=tgL n i 0)∧Blk w b8 3 [vi 1,vi 5,vi 7]∧Own w x.heap.size 115 3 encG B C q∧Below x.heap.size x w) (fun (s:Nat×(List Gt))=>match s with|(i,q)=>3-i) (0,[]) ?_ ?_
 ·exact ⟨some ⟨b4,0,none⟩,0,b.sb,(by omega),rfl,f,(Own.empty aA aH),e⟩
 rintro ⟨i,q⟩ a w3 ⟨B,C,b,hi,hq,f,g,e⟩;refine Zs b fun _ aI=>?_;refine Ze (X15 rfl rfl)<|ZX aI fun a b _ aJ=>?_
 refine Xs b rfl (fun d=>?_) (fun d=>?_)
 ·have aB:=d;have d:=of_decide_eq_true d
  obtain ⟨bK,bJ⟩:=X05 (l:=([1,5,7])) (k:=i) (by omega)
  obtain ⟨M,aK⟩:=X05 (l:=([1,5,7] : List Int)) (k:=i) (by have h9:=d;simp at h9;simp;omega)
  have bL:i<3:=by have h9:=d;simp at h9;omega
  refine wp_skip<|aJ _ _<|wp_seq_k fun _ aL=>?_;refine wp_block<|Zs b fun _ aM=>?_;refine Zi (k:=i) (u:=M) (enc:=encI) (l:=[1,5,7]) trivial rfl rfl X1g X2i X22 (Rd.of_blk f rfl _ f.lt) aK rfl ?_;intro bM aC;refine Ze (X0 rfl X4 aC)<|Za rfl<|Zx aM fun a b _ aN=>?_;refine Zm rfl<|Zm rfl<|Zt aN fun a b=>?_;refine wp_block<|X0f (σ:=Nat×(List Gt)) (fun (s:Nat×(List Gt)) (a:Act) (w:World)=>match s with|(j,H)=>∃ I J,Fr a 34 [(0,vi (n:Int)),(3,.slice I H.length J),(5,vi M),(8,.slice (some ⟨b8,0,none⟩) ([1,5,7]).length 3),(9,vi (([1,5,7]).length:Int)),(10,vi (i:Int)),(14,vi (n:Int)),(15,vi (j:Int))]∧(j≤n)∧(H=tgL n i j)∧Blk w b8 3 [vi 1,vi 5,vi 7]∧Own w x.heap.size 115 3 encG I J H∧Below x.heap.size x w) (fun (s:Nat×(List Gt))=>match s with|(j,H)=>n-j) (0,q) ?_ ?_
  ·exact ⟨B,C,b.sb,(Nat.zero_le _),hq,f,g,e⟩
  rintro ⟨j,H⟩ a w4 ⟨I,J,b,hj,L,f,o,e⟩;refine Zs b fun _ aO=>?_;refine Ze (X15 rfl rfl)<|ZX aO fun a b _ aP=>?_
  refine Xs b rfl (fun m=>?_) (fun m=>?_)
  ·have aD:=m;have m:=of_decide_eq_true m;refine wp_skip<|aP _ _<|wp_seq_k fun _ aQ=>?_;refine wp_block<|Zs b fun _ aR=>?_;refine Zm rfl<|Za rfl<|Zt aR fun a b=>?_;refine Zr b<|Zm rfl<|Zm rfl<|Zm rfl<|Ze (Xl (ps:=[(0,vi M),(1,vi (j:Int))]) (cs:=[vi M,vi (j:Int),vi 0]) rfl (fun _=>by first|rfl|kernel_rfl))<|Zf (Xf (k:=1) (vs:=[.agg #[vi M,vi (j:Int),vi 0]]) (zs:=[vi M,vi (j:Int),vi 0]) rfl X0s X0t rfl rfl) ?_;rintro _ w5 ⟨bN,rfl,N,h,D⟩;have b5:=Nat.le_trans e.size N;have y:=o.away N;have f:=f.below h;have o:=o.below h;have e:=btr e h;refine Zf (X1e (enc:=encG) (l:=(H)) (l2:=([(⟨M,(j:Int),0⟩ : Gt)])) (B0:=x.heap.size) rfl rfl X0s X0t X0p X23 o (Rd.of_blk D rfl _ D.lt) (by rw [L];have:=Xdx n i j;simp only [maxLen];simp;omega) (by rw [L];have:=Xdx n i j;simp;omega) e.size) ?_;rintro _ w6 ⟨b6,b7,rfl,aS,hg,E⟩
   have p:Own _ x.heap.size 115 3 encG _ _ (H):=o
   have aF:=E _ D.lt y;clear E;have f:=f.appT p hg rfl;have e:=Below.app e p hg (Nat.le_refl _) e.size;clear p hg;refine Za rfl ?_;refine Zn fun a b=>?_;refine X06<|aQ _ _<|Zr b<|Ze (X0b rfl rfl (by omega) (by omega))<|Zm rfl ?_;refine Zn fun a b=>?_;refine X07 ?_;exact ⟨(j+1,(H++[⟨M,(j:Int),0⟩])),⟨b6,b7,b.sb,(by omega),(by rw [L];exact Xh6 n aK),f,aS,e⟩,(by first|omega|(dsimp only;omega))⟩
  have aD:=m;have m:=of_decide_eq_false m
  have b9:j=n:=by omega
  refine wp_exit<|Xx<|Xx<|X0e ?_;refine X06<|aL _ _<|Zr b<|Ze (X0b rfl rfl (by omega) (by omega))<|Zm rfl ?_;refine Zn fun a b=>?_;refine X07 ?_;exact ⟨(i+1,H),⟨I,J,b.sb,(by omega),(by rw [L,b9];exact Xlg n (by omega)),f,o,e⟩,(by first|omega|(dsimp only;omega))⟩
 have aB:=d;have d:=of_decide_eq_false d
 have bC:i=3:=by have h9:=d;simp at h9;omega
 subst bC
 refine wp_exit<|Xx<|Xx<|X0e ?_;refine b1 _ _<|wp_seq_k fun _ Q=>?_;refine Zs b fun _ aT=>?_;refine Zm rfl<|Ze (X10 rfl rfl)<|Zt aT fun a b=>?_
 refine Xs b rfl (fun t=>?_) (fun t=>?_)
 ·have aE:=t
  have bD:n=2:=by have h9:(n:Int)=2:=(by simpa using t);omega
  subst bD
  refine Zr b<|Zm rfl<|Ze (Xl (ps:=[(0,vi 9),(1,vi 0),(2,vi 1)]) (cs:=[vi 9,vi 0,vi 1]) rfl (fun _=>by first|rfl|kernel_rfl))<|Ze (Xl (ps:=[(0,vi 9),(1,vi 1),(2,vi 0)]) (cs:=[vi 9,vi 1,vi 0]) rfl (fun _=>by first|rfl|kernel_rfl))<|Zf (Xf (k:=2) (vs:=[.agg #[vi 9,vi 0,vi 1],.agg #[vi 9,vi 1,vi 0]]) (zs:=[vi 9,vi 0,vi 1,vi 9,vi 1,vi 0]) rfl X0s X0t rfl rfl) ?_;rintro _ w7 ⟨bO,rfl,U,h,G⟩;have bE:=Nat.le_trans e.size U;have z:=g.away U;have g:=g.below h;have e:=btr e h;refine Zf (X1e (enc:=encG) (l:=(q)) (l2:=([(⟨9,0,1⟩ : Gt),(⟨9,1,0⟩ : Gt)])) (B0:=x.heap.size) rfl rfl X0s X0t X0p X23 g (Rd.of_blk G rfl _ G.lt) (by rw [hq];simp only [maxLen];decide) (by rw [hq];decide) e.size) ?_;rintro _ w8 ⟨bF,bG,rfl,aU,hg,E⟩
  have p:Own _ x.heap.size 115 3 encG _ _ (q):=g
  have aG:=E _ G.lt z;clear E;have e:=Below.app e p hg (Nat.le_refl _) e.size;clear p hg;refine Za rfl<|Zx Q fun a b _ aW=>?_;refine Zm rfl<|Za rfl<|Zt aW fun a b=>?_
  refine wp_ret (X2 b (Xt b rfl rfl) ?_)
  subst hq
  exact ⟨bF,bG,rfl,aU,e⟩
 have aE:=t
 have bH:n=1:=by have h9:¬ (n:Int)=2:=(by simpa using t);omega
 subst bH
 refine wp_skip<|Q _ _<|Zs b fun _ aX=>?_;refine Zm rfl<|Za rfl<|Zt aX fun a b=>?_
 refine wp_ret (X2 b (Xt b rfl rfl) ?_)
 subst hq
 exact ⟨B,C,rfl,g,e⟩
abbrev kyX(n:Nat) : List Gt→ByteArray:=fun w=>kyT (kyW n w)
theorem X72{m:Mx}(h:mOk m=true) : m.cells.length≤2305843009213693951:=by
 have hl:=X2e h;have h1:=hl.2.2
 have:m.rows.toNat*m.cols.toNat≤32*32:=Nat.mul_le_mul (by omega) (by omega)
 first|omega|(rw [h1];omega)
theorem Xdk{n:Nat}(hn:n=1∨n=2){k:Nat}(hk:k≤8){w:List Gt}(hw:w ∈ wds (gsT n) k) : keyM (valW n w)=kyX n w∧canY (valW n w)=true:=by
 obtain ⟨h1,_,_,h4⟩:=X1j hn hk hw
 refine ⟨Xdm h1,?_⟩
 unfold canY;rw [h1]
 cases e:canL (valW n w).cells with
 | none=>exact absurd e h4
 | some x=>rfl
theorem Xg6(n:Nat)(A:Option Addr)(c:Nat){s:ByteArray}(hs:s=kyX n []) : sgL (updG (fun _=>none) s ⟨A,c,[]⟩)=(tbW n 0).1:=by
 subst hs
 funext q
 rw [Xdc];rfl
theorem X6w(n:Nat) : (gsT n).length≤8:=by unfold gsT;split<;>decide
theorem Xcz{G:Type}(gs:List G)(lev:List (List G))(i j:Nat) : (rndW gs lev i j).length≤i*gs.length+j:=by
 unfold rndW
 have h:∀ l:List (List G),(l.flatMap fun u=>gs.map fun g=>u++[g]).length=l.length*gs.length:=by
  intro l;induction l with
  | nil=>simp
  | cons x l ih=>rw [List.flatMap_cons,List.length_append,ih,List.length_cons,Nat.add_mul,List.length_map];omega
 rw [List.length_append,h,List.length_map,List.length_take,List.length_take]
 have:min i lev.length*gs.length≤i*gs.length:=Nat.mul_le_mul_right _ (Nat.min_le_left ..)
 omega
theorem X6o{G K:Type}[DecidableEq K](ky:List G→K) : ∀ (l:List (List G)) (T:K→Option (List G)),(enT ky T l).2.length≤l.length
 | [],_=>by simp [enT]
 | w::l,T=>by
  simp only [enT]
  cases T (ky w) with
  | some x=>have:=X6o ky l T;simp only [List.length_cons];omega
  | none=>have:=X6o ky l (fun q=>if q=ky w then some w else T q);simp only [List.length_cons];omega
def StW(n r i j:Nat)(F:ByteArray→Option Sq)(N:List Tw) : Prop:=(sgL F,N.map Tw.w)=enT (kyX n) (tbW n r).1 (rndW (gsT n) (tbW n r).2 i j)
theorem Xm8{n r:Nat}{F:ByteArray→Option Sq}(h:sgL F=(tbW n r).1) : StW n r 0 0 F []:=by
 unfold StW;rw [Xfl,h];rfl
theorem Xhx{n r i j:Nat}{F:ByteArray→Option Sq}{N L:List Tw}{u:Gt}{t:Tw}(h:StW n r i j F N)(hL:L.map Tw.w=(tbW n r).2)(ht:L[i]? = some t)(hu:(gsT n)[j]? = some u){s:ByteArray}(hs:s=kyX n (t.w++[u]))(hk:(sgL F s).isSome=true) : StW n r i (j+1) F N:=by
 unfold StW at *
 have e:(tbW n r).2.getD i []=t.w:=by rw [← hL,List.getD_eq_getElem?_getD,List.getElem?_map,ht];rfl
 have h1:=congrArg Prod.fst h;have h2:=congrArg Prod.snd h
 simp only at h1 h2
 rw [X8m hu,e,X6q,← h1,Xfm (by rw [← hs];exact hk),← h2,List.append_nil]
theorem Xoy{n r i j:Nat}{F:ByteArray→Option Sq}{N L:List Tw}{u:Gt}{t x:Tw}{sq:Sq}(h:StW n r i j F N)(hL:L.map Tw.w=(tbW n r).2)(ht:L[i]? = some t)(hu:(gsT n)[j]? = some u){s:ByteArray}(hs:s=kyX n (t.w++[u]))(hk:(sgL F s).isSome=false)(hx:x.w=t.w++[u])(hq:sq.w=t.w++[u]) : StW n r i (j+1) (updG F s sq) (N++[x]):=by
 unfold StW at *
 have e:(tbW n r).2.getD i []=t.w:=by rw [← hL,List.getD_eq_getElem?_getD,List.getElem?_map,ht];rfl
 have h1:=congrArg Prod.fst h;have h2:=congrArg Prod.snd h
 simp only at h1 h2
 have hk2:sgL F (kyX n (t.w++[u]))=none:=by rw [← hs];simpa using hk
 rw [X8m hu,e,X6q,← h1,Xm1 hk2,← h2,Xdc,hq,List.map_append,hs]
 simp [hx]
theorem Xm6{n r i:Nat}{F:ByteArray→Option Sq}{N:List Tw}(h:StW n r i (gsT n).length F N)(hi:i<(tbW n r).2.length) : StW n r (i+1) 0 F N:=by
 unfold StW at *;rw [Xfa hi,h]
theorem Xat{n r:Nat}{F:ByteArray→Option Sq}{N:List Tw}(h:StW n r (tbW n r).2.length 0 F N) : sgL F=(tbW n (r+1)).1∧N.map Tw.w=(tbW n (r+1)).2:=by
 unfold StW at h
 rw [Xaj] at h
 have e:tbW n (r+1)=enT (kyX n) (tbW n r).1 ((tbW n r).2.flatMap fun u=>(gsT n).map fun g=>u++[g]):=rfl
 rw [e,← h];exact ⟨rfl,rfl⟩
theorem Xo1{n r i j:Nat}{F:ByteArray→Option Sq}{N:List Tw}(h:StW n r i j F N) : N.length≤i*8+j:=by
 unfold StW at h
 have h2:=congrArg Prod.snd h
 simp only at h2
 have h3:=congrArg List.length h2
 rw [List.length_map] at h3
 have:=X6o (kyX n) (rndW (gsT n) (tbW n r).2 i j) (tbW n r).1
 have:=Xcz (gsT n) (tbW n r).2 i j
 have:=Nat.mul_le_mul_left i (X6w n)
 omega
theorem Xho(n:Nat) : ∀ r,(tbW n r).2.length≤8^r
 | 0=>by simp [tbW,grT]
 | r+1=>by
  have e:tbW n (r+1)=enT (kyX n) (tbW n r).1 ((tbW n r).2.flatMap fun u=>(gsT n).map fun g=>u++[g]):=rfl
  have h1:=X6o (kyX n) ((tbW n r).2.flatMap fun u=>(gsT n).map fun g=>u++[g]) (tbW n r).1
  have h2:=Xcz (gsT n) (tbW n r).2 (tbW n r).2.length 0
  rw [Xaj] at h2
  rw [e]
  have h3:=Nat.mul_le_mul (Xho n r) (X6w n)
  rw [Nat.pow_succ];omega
theorem Xk0{n r:Nat}(hr:r≤8) : (tbW n r).2.length≤16777216:=by
 have:=Xho n r
 have h2:8^r≤8^8:=Nat.pow_le_pow_right (by decide) hr
 have h3:(8:Nat)^8=16777216:=by decide
 omega
theorem Xc9{n r:Nat}{L:List Tw}(h:L.map Tw.w=(tbW n r).2) : L.length=(tbW n r).2.length:=by rw [← h,List.length_map]
theorem Xo6{n r i:Nat}{L:List Tw}{t:Tw}(h:L.map Tw.w=(tbW n r).2)(ht:L[i]? = some t) : t.w ∈ wds (gsT n) r:=by
 apply Xl9 r
 rw [← h];exact List.mem_map.2 ⟨t,List.mem_of_getElem? ht,rfl⟩
theorem Xke{n r i j:Nat}(hn:n=1∨n=2)(hr:r<8){L:List Tw}{t:Tw}{u:Gt}(hL:L.map Tw.w=(tbW n r).2)(hv:∀ t ∈ L,t.m=valW n t.w)(ht:L[i]? = some t)(hu:(gsT n)[j]? = some u) :
  gateI (n:Int) u=some (gateS n u)∧mulI (gateS n u) t.m=some (valW n (t.w++[u]))∧keyM (valW n (t.w++[u]))=kyX n (t.w++[u])∧canY (valW n (t.w++[u]))=true∧(gateS n u).cells.length≤2305843009213693951∧t.m.cells.length≤2305843009213693951∧(valW n (t.w++[u])).cells.length≤2305843009213693951∧t.w.length≤8:=by
 have hm:=List.mem_of_getElem? hu;have hw:=Xo6 hL ht;have hg:=X2p (X64 hn u hm).1
 have e:=hv t (List.mem_of_getElem? ht)
 have hs:=X2c hw hm
 obtain ⟨k1,k2⟩:=Xdk hn (by omega:r+1≤8) hs
 refine ⟨hg.1,?_,k1,k2,X72 hg.2,?_,X72 (X1j hn (by omega:r+1≤8) hs).1,?_⟩
 ·rw [e];exact X8p hn hr hw hm
 ·rw [e];exact X72 (X1j hn (by omega:r≤8) hw).1
 ·have:=Xac _ _ _ hw;omega
theorem Xjz{n:Nat}{N:List Tw}{x:Tw}(h:∀ t ∈ N,t.m=valW n t.w)(hx:x.m=valW n x.w) : ∀ t ∈ N++[x],t.m=valW n t.w:=fun t ht=>by
 rcases List.mem_append.1 ht with ht|ht
 ·exact h t ht
 ·rw [List.mem_singleton.1 ht];exact hx
theorem X6b(w0:World)(Al:Option Addr)(cl:Nat)(l:List Gt)(d:Rd w0 w0.heap.size 115 encG Al l)(aM:l.length≤100000000) : Ret Tryz.prog 71 [.slice Al l.length cl] w0 (fun v w=>∃ A c,v=.slice A l.length c∧Own w w0.heap.size 115 3 encG A c l∧Below w0.heap.size w0 w):=by
 refine enter Tryz.func71 rfl 8 rfl rfl ?_;intro a b
 have f:=bz w0
 refine Zs b fun _ aG=>?_;refine Za rfl<|ZX aG fun a b _ aH=>?_;refine Zs b fun _ aI=>?_;refine Zm rfl<|Ze (Xet rfl rfl X0s)<|Zt aI fun a b=>?_
 refine Xs b rfl (fun g=>?_) (fun g=>?_)
 ·have aB:=g
  have aC:l=[]:=Rd.nil_of d g
  refine Zs b fun _ aJ=>?_;refine Za rfl<|Zt aJ fun a b=>?_;refine wp_ret<|X5<|X2 b (Xt b rfl rfl) ?_
  subst aC
  exact ⟨none,0,rfl,Own.nil _ _ _ _ _,f⟩
 have aB:=g;refine wp_skip<|aH _ _<|Zs b fun _ aD=>?_;refine Zf (Xf (k:=0) (vs:=[]) (zs:=[]) rfl X0s X0t rfl rfl) ?_;rintro _ w1 ⟨aN,rfl,i,hE,aE⟩;have aA:=Nat.le_trans f.size i;have aF:=(d.below' f).away i;have f:=btr f hE;refine Zm rfl<|Zf (Xjb (enc:=encG) (l2:=(l)) rfl rfl X0s X0t X0p X23 aE (d.below' f) (by simp only [maxLen];omega) (by omega)) ?_;rintro _ w2 ⟨aK,aL,rfl,e,hE⟩;have e:=e.lower aA;have f:=btr f hE;refine Za rfl<|Zt aD fun a b=>?_
 refine wp_ret (X2 b (Xt b rfl rfl) ?_)
 exact ⟨aK,aL,rfl,e,f⟩
theorem Xmi(w0:World)(n:Nat)(k:Nat)(hn:n=1∨n=2)(hk:k≤8)(kQ:PowT w0) : Ret Tryz.prog 38 [vi (n:Int),vi (k:Int)] w0 (fun v w=>∃ b F A c zs,v=.agg #[.map (some b),.slice A zs.length c]∧MapS w b (sgF F)∧DeepM w w.heap.size 115 F∧sgL F=(tbW n k).1∧Own w w0.heap.size 3 1 encI A c zs∧w0.heap.size≤b∧Below w0.heap.size w0 w):=by
 have n9:([] : List Gt) ∈ wds (gsT n) 0:=List.mem_singleton.2 rfl
 have oY:=X1j hn (by omega:0≤8) n9
 have nA:idI ((2^n:Nat) : Int)=some (valW n []):=by rw [X5l n hn];exact (X5d (d:=2^n) (X30 (n:=(n:Int)) (by omega))).1
 have pU:=X6w n
 obtain ⟨oZ,pV⟩:=Xdk hn (by omega:0≤8) n9
 refine enter Tryz.func38 rfl 125 rfl rfl ?_;intro a J
 have C:=bz w0
 refine Zs J fun _ p0=>?_;refine Zf (Xc (zs:=[.map none,.slice none 0 0]) Xhp rfl) ?_;rintro _ w1 ⟨b3,rfl,p5,o,M⟩;have nB:=Nat.le_trans C.size p5;have C:=btr C o;refine Zx p0 fun a J _ p6=>?_;refine Zm rfl<|Ze (Xdv (m:=n) (D:=(2^n:Nat)) rfl rfl rfl ⟨rfl,by omega⟩)<|Zf (X2s (vs:=[vi ((2^n:Nat) : Int)]) rfl Xp1 (by have hq:=Xss w1 ((2^n:Nat) : Int);rw [nA,Option.getD_some,Option.isSome_some] at hq;exact hq)) ?_;rintro _ w2 ⟨A5,c5,rfl,b5,o⟩;have b5:=b5.lower C.size;have M:=M.below o;have C:=btr C o;refine Zm rfl<|Ze (X6 (vs:=[.agg #[vi ((valW n []).rows),vi ((valW n []).cols),.slice A5 ((valW n []).cells).length c5],.bool true]) rfl rfl)<|Ze (X6 (vs:=[.agg #[vi ((valW n []).rows),vi ((valW n []).cols),.slice A5 ((valW n []).cells).length c5],.bool true]) rfl rfl)<|Zf (Xc (zs:=[vi 0,vi 0,.slice none 0 0]) X1k rfl) ?_;rintro _ w3 ⟨b7,rfl,p8,o,bG⟩;have nC:=Nat.le_trans C.size p8;have M:=M.below o;have b5:=b5.below o;have C:=btr C o;refine Zo (Vw [vi ((valW n []).rows),vi ((valW n []).cols),.slice A5 ((valW n []).cells).length c5] X11 bG) ?_;rintro _ w4 ⟨ho,hb⟩;have E:=bG;have M:=M.only ho (Blk.ne M E rfl);have b5:=b5.onlyT ho E rfl;have C:=Below.only C ho nC;have bG:=hb;refine Za rfl<|Zx p6 fun a J _ p9=>?_;refine Ze (Vn X04 bG)<|Zf (Vc (Xhq _ (valW n []) A5 c5 b5.rd.top (X72 oY.1) (kQ.of C)) X9o) ?_;rintro _ w5 ⟨rfl,o⟩;have M:=M.below o;have bG:=bG.below o;have b5:=b5.below o;have C:=btr C o;refine Zm rfl<|Ze (X6 (vs:=[.string (keyM (valW n [])),.bool (canY (valW n []))]) rfl rfl)<|Ze (X6 (vs:=[.string (keyM (valW n [])),.bool (canY (valW n []))]) rfl rfl)<|Za rfl<|Za rfl ?_
 refine Zx p9 fun a J _ pC=>?_;refine Zf (Xpg) ?_;rintro _ w6 ⟨c7,rfl,nD,o,q⟩;have eI:=Nat.le_trans C.size nD;have M:=M.below o;have bG:=bG.below o;have b5:=b5.below o;have C:=btr C o
 replace q:MapS w6 c7 (sgF (fun _=>none)):=q
 have Q:=DeepM.none w6 w6.heap.size 115;refine Zm rfl<|Zf (Xf (k:=0) (vs:=[]) (zs:=[]) rfl X0s X0t rfl rfl) ?_;rintro _ w7 ⟨j4,rfl,nE,o,pQ⟩;have pD:=Nat.le_trans C.size nE;have M:=M.below o;have bG:=bG.below o;have q:=q.below o;have b5:=b5.below o;have Q:=Q.below o;have C:=btr C o;refine Zo (Xpy (f:=sgF (fun _=>none)) (s:=keyM (valW n [])) rfl rfl rfl Tryz.underlying71 Tryz.underlying9 q rfl) ?_;rintro _ w8 ⟨ho,cQ⟩;have iG:=DeepM.upd (s:=keyM (valW n [])) (x:=(⟨some ⟨j4,0,none⟩,0,([] : List Gt)⟩ : Sq)) Q.top (Rd.nil _ _ _ _ _)
 clear Q;have Q:=iG;clear iG;have bD:=q.nc;have M:=M.onlyN ho bD;have bG:=bG.onlyN ho bD;have b5:=b5.onlyN ho bD;have Q:=Q.onlyN ho bD;have C:=Below.only C ho eI
 rw [show Value.slice (some ⟨j4,0,none⟩) 0 0=Sq.v (⟨some ⟨j4,0,none⟩,0,([] : List Gt)⟩ : Sq) from rfl,Xd9] at cQ
 have q:=cQ;clear cQ ho bD;refine Zm rfl<|Zf (Xf (k:=1) (vs:=[vi 1]) (zs:=[vi 1]) rfl X1g X4i rfl rfl) ?_;rintro _ w9 ⟨j5,rfl,nF,o,cN⟩;have lG:=Nat.le_trans C.size nF;have M:=M.below o;have bG:=bG.below o;have q:=q.below o;have b5:=b5.below o;have Q:=Q.below o;have C:=btr C o;refine Ze (Xl (ps:=[(0,.map (some c7)),(1,.slice (some ⟨j5,0,none⟩) ([1]).length 1)]) (cs:=[.map (some c7),.slice (some ⟨j5,0,none⟩) ([1]).length 1]) rfl (fun _=>by first|rfl|kernel_rfl))<|Zf (Xc (zs:=[.map none,.slice none 0 0]) Xhp rfl) ?_;rintro _ pW ⟨b17,rfl,nG,o,I⟩
 have nH:b3≠b17:=by have:=M.lt;omega
 have iH:=Nat.le_trans C.size nG;have M:=M.below o;have bG:=bG.below o;have q:=q.below o;have cN:=cN.below o;have b5:=b5.below o;have Q:=Q.below o;have C:=btr C o;refine Zo (Vw [.map (some c7),.slice (some ⟨j5,0,none⟩) ([1]).length 1] Xdf I) ?_;rintro _ pX ⟨ho,hb⟩;have E:=I;have M:=M.only ho (by omega);have bG:=bG.only ho (Blk.ne bG E rfl);have q:=q.only ho (q.ne E);have cN:=cN.only ho (Blk.ne cN E rfl);have b5:=b5.onlyT ho E rfl;have Q:=Q.onlyT ho E rfl;have C:=Below.only C ho iH;have I:=hb;refine Zx pC fun a J _ nI=>?_;refine Ze (Vn X04 bG)<|Ze (Xl (ps:=[(1,.agg #[vi ((valW n []).rows),vi ((valW n []).cols),.slice A5 ((valW n []).cells).length c5])]) (cs:=[.slice none 0 0,vi ((valW n []).rows),vi ((valW n []).cols),.slice A5 ((valW n []).cells).length c5]) rfl (fun _=>by first|rfl|kernel_rfl))<|Zf (Xf (k:=1) (vs:=[.agg #[.slice none 0 0,vi ((valW n []).rows),vi ((valW n []).cols),.slice A5 ((valW n []).cells).length c5]]) (zs:=[.slice none 0 0,vi ((valW n []).rows),vi ((valW n []).cols),.slice A5 ((valW n []).cells).length c5]) rfl X3c X5i rfl rfl) ?_;rintro _ pY ⟨pE,rfl,nJ,o,nK⟩;have lH:=Nat.le_trans C.size nJ;have M:=M.below o;have q:=q.below o;have cN:=cN.below o;have I:=I.below o;have b5:=b5.below o;have Q:=Q.below o;have C:=btr C o;refine Za rfl<|ZX nI fun a J _ nL=>?_;refine Zs J fun _ nM=>?_;refine Zm rfl<|Zm rfl<|Zt nM fun a J=>?_;refine wp_block<|X0f (σ:=Nat×(List Tw)×(ByteArray→Option Sq)×(List Int)) (fun (s:Nat×(List Tw)×(ByteArray→Option Sq)×(List Int)) (a:Act) (w:World)=>match s with|(r,L,Fg,zs)=>∃ b0 b8 dF dG,Fr a 125 [(0,vi (n:Int)),(4,.pointer (some ⟨b3,0,none⟩)),(9,.pointer (some ⟨b17,0,none⟩)),(10,.slice b0 L.length b8),(45,vi (k:Int)),(46,vi (r:Int))]∧(r≤k)∧(L.map Tw.w=(tbW n r).2)∧(sgL Fg=(tbW n r).1)∧(∀ t ∈ L,t.m=valW n t.w)∧(zs.length=r+1)∧Blk w b3 73 [.map none,.slice none 0 0]∧MapS w c7 (sgF Fg)∧Blk w b17 73 [.map (some c7),.slice dF zs.length dG]∧Own w w0.heap.size 111 4 encTw b0 b8 L∧Own w w0.heap.size 3 1 encI dF dG zs∧DeepT w w.heap.size 115 95 L∧DeepM w (w.heap.size) 115 Fg∧Below w0.heap.size w0 w) (fun (s:Nat×(List Tw)×(ByteArray→Option Sq)×(List Int))=>match s with|(r,L,Fg,zs)=>k-r) (0,[(⟨none,0,([] : List Gt),(valW n []),A5,c5⟩ : Tw)],(updG (fun _=>none) (keyM (valW n [])) (⟨some ⟨j4,0,none⟩,0,([] : List Gt)⟩ : Sq)),[1]) ?_ ?_
 ·exact ⟨some ⟨pE,0,none⟩,1,some ⟨j5,0,none⟩,1,J.sb,(Nat.zero_le _),rfl,(Xg6 n _ _ oZ),(fun t9 lI=>by rw [List.mem_singleton.1 lI]),rfl,M,q,I,(Own.of_blkL X5y nK lH rfl rfl (by decide)),(Own.of_blkL X22 cN lG rfl rfl (by decide)),(DeepT.one (Rd.nil _ _ _ _ _) b5.rd.top),Q.top,C⟩
 rintro ⟨r,L,Fg,zs⟩ a pZ ⟨b0,b8,dF,dG,J,hr,hL,hF,hv,q0,M,q,I,U,N,aI,Q,C⟩
 have q5:L.length≤16777216:=by rw [Xc9 hL];exact Xk0 (by omega)
 refine Zs J fun _ nN=>?_;refine Ze (X15 rfl rfl)<|ZX nN fun a J _ nO=>?_
 refine Xs J rfl (fun cR=>?_) (fun cR=>?_)
 ·have lJ:=cR;have cR:=of_decide_eq_true cR;refine wp_skip<|nO _ _<|wp_seq_k fun _ nP=>?_;refine wp_block<|Zs J fun _ nQ=>?_;refine Zf (Xf (k:=0) (vs:=[]) (zs:=[]) rfl X3c X5i rfl rfl) ?_;rintro _ q6 ⟨pF,rfl,kR,o,nR⟩;have lK:=Nat.le_trans C.size kR;have hP:=U.away kR;have M:=M.below o;have q:=q.below o;have I:=I.below o;have U:=U.below o;have N:=N.below o;have aI:=aI.below o;have Q:=Q.below o;have C:=btr C o;refine Za rfl<|ZX nQ fun a J _ nS=>?_;refine Zs J fun _ nT=>?_;refine Zm rfl<|Ze (X1r rfl X3c)<|Zm rfl<|Zt nT fun a J=>?_;refine wp_block<|X0f (σ:=Nat×(List Tw)×(ByteArray→Option Sq)) (fun (s:Nat×(List Tw)×(ByteArray→Option Sq)) (a:Act) (w:World)=>match s with|(i,N2,Fj)=>∃ hY iI,Fr a 125 [(0,vi (n:Int)),(4,.pointer (some ⟨b3,0,none⟩)),(9,.pointer (some ⟨b17,0,none⟩)),(11,.slice hY N2.length iI),(45,vi (k:Int)),(46,vi (r:Int)),(49,.slice b0 L.length b8),(50,vi (L.length:Int)),(51,vi (i:Int))]∧(i≤L.length)∧(StW n r i 0 Fj N2)∧(∀ t ∈ N2,t.m=valW n t.w)∧Blk w b3 73 [.map none,.slice none 0 0]∧MapS w c7 (sgF Fj)∧Blk w b17 73 [.map (some c7),.slice dF zs.length dG]∧Own w w0.heap.size 111 4 encTw hY iI N2∧Own w w0.heap.size 111 4 encTw b0 b8 L∧Own w w0.heap.size 3 1 encI dF dG zs∧DeepT w w.heap.size 115 95 N2∧DeepT w w.heap.size 115 95 L∧DeepM w (w.heap.size) 115 Fj∧Apart b0 hY∧Below w0.heap.size w0 w) (fun (s:Nat×(List Tw)×(ByteArray→Option Sq))=>match s with|(i,N2,Fj)=>L.length-i) (0,[],Fg) ?_ ?_
  ·exact ⟨some ⟨pF,0,none⟩,0,J.sb,(Nat.zero_le _),(Xm8 hF),(fun t9 lI=>by cases lI),M,q,I,(Own.empty nR lK),U,N,(DeepT.nil _ _ _ _),aI.top,Q.top,(Apart.of_away hP),C⟩
  rintro ⟨i,N2,Fj⟩ a q7 ⟨hY,iI,J,hi,nU,kS,M,q,I,b9,U,N,bE,aI,Q,hZ,C⟩;refine Zs J fun _ nV=>?_;refine Ze (X15 rfl rfl)<|ZX nV fun a J _ nX=>?_
  refine Xs J rfl (fun cS=>?_) (fun cS=>?_)
  ·have lL:=cS;have cS:=of_decide_eq_true cS
   obtain ⟨e,dH⟩:=X05 (l:=L) (k:=i) (by omega)
   skip
   refine wp_skip<|nX _ _<|wp_seq_k fun _ nY=>?_;refine wp_block<|Zs J fun _ nZ=>?_;refine Zi (k:=i) (u:=e) (enc:=encTw) (l:=L) trivial rfl rfl X3c X9r X5y U.rd dH rfl ?_;intro q8 lM;have y:=(aI e (List.mem_of_getElem? dH)).1;have aD:=(aI e (List.mem_of_getElem? dH)).2;refine Ze (X03 (l:=[.slice e.A e.w.length e.c,vi e.m.rows,vi e.m.cols,.slice e.B e.m.cells.length e.d]) rfl Xdd lM rfl)<|Zf (Xc (zs:=[.slice none 0 0,vi 0,vi 0,.slice none 0 0]) X2g rfl) ?_;rintro _ q9 ⟨aM,rfl,iJ,o,H⟩;have lN:=Nat.le_trans C.size iJ;have dI:=b9.away iJ;have i6:=U.away iJ;have M:=M.below o;have q:=q.below o;have I:=I.below o;have b9:=b9.below o;have U:=U.below o;have N:=N.below o;have y:=y.below o;have aD:=aD.below o;have bE:=bE.below o;have aI:=aI.below o;have Q:=Q.below o;have C:=btr C o;refine Zo (Vw [.slice e.A e.w.length e.c,vi e.m.rows,vi e.m.cols,.slice e.B e.m.cells.length e.d] X9r H) ?_;rintro _ qC ⟨ho,hb⟩;have E:=H;have M:=M.only ho (Blk.ne M E rfl);have q:=q.only ho (q.ne E);have I:=I.only ho (Blk.ne I E rfl);have b9:=b9.onlyA ho dI;have U:=U.onlyA ho i6;have N:=N.onlyT ho E rfl;have y:=y.onlyT ho E rfl;have aD:=aD.onlyT ho E rfl;have bE:=bE.onlyT ho E rfl rfl;have aI:=aI.onlyT ho E rfl rfl;have Q:=Q.onlyT ho E rfl;have C:=Below.only C ho lN;have H:=hb;refine Zx nZ fun a J _ o0=>?_;refine Zm rfl<|Zf (Vc (Xqj _ n hn) Xkt) ?_;rintro _ qD ⟨bL,bM,rfl,aB,o⟩;have aB:=aB.lower C.size
   have M:=M.below o;have q:=q.below o;have I:=I.below o;have H:=H.below o;have b9:=b9.below o;have U:=U.below o;have N:=N.below o;have y:=y.below o;have aD:=aD.below o;have bE:=bE.below o;have aI:=aI.below o;have Q:=Q.below o;have C:=btr C o;have aB:=aB.rd;refine Ze (X1r rfl X0s)<|Zm rfl<|Zt o0 fun a J=>?_;refine wp_block<|X0f (σ:=Nat×(List Tw)×(ByteArray→Option Sq)) (fun (s:Nat×(List Tw)×(ByteArray→Option Sq)) (a:Act) (w:World)=>match s with|(j,N3,Fk)=>∃ bC bF,Fr a 125 [(0,vi (n:Int)),(4,.pointer (some ⟨b3,0,none⟩)),(9,.pointer (some ⟨b17,0,none⟩)),(11,.slice bC N3.length bF),(13,.pointer (some ⟨aM,0,none⟩)),(45,vi (k:Int)),(46,vi (r:Int)),(49,.slice b0 L.length b8),(50,vi (L.length:Int)),(51,vi (i:Int)),(56,.slice bL (gsT n).length bM),(57,vi ((gsT n).length:Int)),(58,vi (j:Int))]∧(j≤(gsT n).length)∧(StW n r i j Fk N3)∧(∀ t ∈ N3,t.m=valW n t.w)∧Blk w b3 73 [.map none,.slice none 0 0]∧MapS w c7 (sgF Fk)∧Blk w b17 73 [.map (some c7),.slice dF zs.length dG]∧Blk w aM 111 [.slice e.A e.w.length e.c,vi e.m.rows,vi e.m.cols,.slice e.B e.m.cells.length e.d]∧Own w w0.heap.size 111 4 encTw bC bF N3∧Own w w0.heap.size 111 4 encTw b0 b8 L∧Own w w0.heap.size 3 1 encI dF dG zs∧Rd w w.heap.size 115 encG e.A e.w∧Rd w w.heap.size 95 encD e.B e.m.cells∧Rd w w.heap.size 115 encG bL (gsT n)∧DeepT w w.heap.size 115 95 N3∧DeepT w w.heap.size 115 95 L∧DeepM w (w.heap.size) 115 Fk∧Away bC aM∧Apart b0 bC∧Below w0.heap.size w0 w) (fun (s:Nat×(List Tw)×(ByteArray→Option Sq))=>match s with|(j,N3,Fk)=>(gsT n).length-j) (0,N2,Fj) ?_ ?_
   ·exact ⟨hY,iI,J.sb,(Nat.zero_le _),nU,kS,M,q,I,H,b9,U,N,y.top,aD.top,aB.top,bE.top,aI.top,Q.top,dI,hZ,C⟩
   rintro ⟨j,N3,Fk⟩ a qE ⟨bC,bF,J,hj,hS,lO,M,q,I,H,aF,U,N,y,aD,aB,aJ,aI,Q,cF,bO,C⟩;refine Zs J fun _ o3=>?_;refine Ze (X15 rfl rfl)<|ZX o3 fun a J _ o4=>?_
   refine Xs J rfl (fun cT=>?_) (fun cT=>?_)
   ·have lP:=cT;have cT:=of_decide_eq_true cT
    obtain ⟨g,gF⟩:=X05 (l:=(gsT n)) (k:=j) (by omega)
    obtain ⟨pG,pH,o5,pI,o6,o7,o8,pR⟩:=Xke hn (by omega:r<8) hL hv dH gF
    refine wp_skip<|o4 _ _<|wp_seq_k fun _ kT=>?_;refine wp_block<|Zs J fun _ o9=>?_;refine Zi (k:=j) (u:=g) (enc:=encG) (l:=(gsT n)) trivial rfl rfl X0s X26 X0p aB gF rfl ?_;intro qF lQ;refine Ze (X03 (l:=[vi g.k,vi g.a,vi g.b]) rfl X25 lQ rfl) ?_;have Q:=Q.top;have aJ:=aJ.top;have aI:=aI.top;have y:=y.top;have aB:=aB.top;refine Zf (Xc (zs:=[vi 0,vi 0,vi 0]) Xmr rfl) ?_;rintro _ qG ⟨aZ,rfl,dJ,o,G⟩;have lR:=Nat.le_trans C.size dJ;have i7:=y.away dJ;have i8:=aB.away dJ;have M:=M.below o;have q:=q.below o;have I:=I.below o;have H:=H.below o;have aF:=aF.below o;have U:=U.below o;have N:=N.below o;have y:=y.below o;have aD:=aD.below o;have aB:=aB.below o;have aJ:=aJ.below o;have aI:=aI.below o;have Q:=Q.below o;have C:=btr C o;refine Zo (Vw [vi g.k,vi g.a,vi g.b] X26 G) ?_;rintro _ pJ ⟨ho,hb⟩;have E:=G;have M:=M.only ho (Blk.ne M E rfl);have q:=q.only ho (q.ne E);have I:=I.only ho (Blk.ne I E rfl);have H:=H.only ho (Blk.ne H E rfl);have aF:=aF.onlyT ho E rfl;have U:=U.onlyT ho E rfl;have N:=N.onlyT ho E rfl;have y:=y.onlyA ho i7;have aD:=aD.onlyT ho E rfl;have aB:=aB.onlyA ho i8;have aJ:=aJ.only ho dJ;have aI:=aI.only ho dJ;have Q:=Q.only ho dJ;have C:=Below.only C ho lR;have G:=hb;refine Zx o9 fun a J _ oB=>?_;refine Zm rfl<|Ze (Vn X25 G)<|Zf (X2s (vs:=[vi (n:Int),.agg #[vi g.k,vi g.a,vi g.b]]) rfl Xn7 (by have hq:=Xsl pJ (n:Int) g;rw [pG,Option.getD_some,Option.isSome_some] at hq;exact hq)) ?_;rintro _ qH ⟨iK,iM,rfl,cU,o⟩
    have cU:=cU.lower C.size;have M:=M.below o;have q:=q.below o;have I:=I.below o;have H:=H.below o;have G:=G.below o;have aF:=aF.below o;have U:=U.below o;have N:=N.below o;have y:=y.below o;have aD:=aD.below o;have aB:=aB.below o;have aJ:=aJ.below o;have aI:=aI.below o;have Q:=Q.below o;have C:=btr C o;refine Zm rfl<|Ze (X6 (vs:=[.agg #[vi ((gateS n g).rows),vi ((gateS n g).cols),.slice iK ((gateS n g).cells).length iM],.bool true]) rfl rfl)<|Ze (X6 (vs:=[.agg #[vi ((gateS n g).rows),vi ((gateS n g).cols),.slice iK ((gateS n g).cells).length iM],.bool true]) rfl rfl)<|Zf (Xc (zs:=[vi 0,vi 0,.slice none 0 0]) X1k rfl) ?_;rintro _ qI ⟨pK,rfl,oC,o,cV⟩;have lS:=Nat.le_trans C.size oC;have M:=M.below o;have q:=q.below o;have I:=I.below o;have H:=H.below o;have G:=G.below o;have aF:=aF.below o;have U:=U.below o;have N:=N.below o;have y:=y.below o;have aD:=aD.below o;have aB:=aB.below o;have cU:=cU.below o;have aJ:=aJ.below o;have aI:=aI.below o;have Q:=Q.below o;have C:=btr C o;refine Zo (Vw [vi ((gateS n g).rows),vi ((gateS n g).cols),.slice iK ((gateS n g).cells).length iM] X11 cV) ?_;rintro _ pL ⟨ho,hb⟩;have E:=cV;have M:=M.only ho (Blk.ne M E rfl);have q:=q.only ho (q.ne E);have I:=I.only ho (Blk.ne I E rfl);have H:=H.only ho (Blk.ne H E rfl);have G:=G.only ho (Blk.ne G E rfl);have aF:=aF.onlyT ho E rfl;have U:=U.onlyT ho E rfl;have N:=N.onlyT ho E rfl;have y:=y.onlyT ho E rfl
    have aD:=aD.onlyT ho E rfl;have aB:=aB.onlyT ho E rfl;have cU:=cU.onlyT ho E rfl;have aJ:=aJ.onlyT ho E rfl rfl;have aI:=aI.onlyT ho E rfl rfl;have Q:=Q.onlyT ho E rfl;have C:=Below.only C ho lS;have cV:=hb;refine Za rfl<|Zx oB fun a J _ oD=>?_;refine Ze (Vn X04 cV)<|Ze (Vd rfl Xf6 1)<|Ze (X03 (l:=[vi e.m.rows,vi e.m.cols,.slice e.B e.m.cells.length e.d]) rfl X04 ((H.at 1).take 3) rfl)<|Zf (X2s (vs:=[.agg #[vi ((gateS n g).rows),vi ((gateS n g).cols),.slice iK ((gateS n g).cells).length iM],.agg #[vi e.m.rows,vi e.m.cols,.slice e.B e.m.cells.length e.d]]) rfl Xoc (by have hq:=Xt5 pL (gateS n g) iK iM cU.rd.top e.m e.B e.d aD.top o6 o7;rw [pH,Option.getD_some,Option.isSome_some] at hq;exact hq)) ?_;rintro _ qJ ⟨aN,aO,rfl,b2,o⟩;have b2:=b2.lower C.size;have M:=M.below o;have q:=q.below o;have I:=I.below o;have H:=H.below o;have G:=G.below o;have cV:=cV.below o;have aF:=aF.below o;have U:=U.below o;have N:=N.below o;have y:=y.below o;have aD:=aD.below o;have aB:=aB.below o;have aJ:=aJ.below o;have aI:=aI.below o;have Q:=Q.below o;have C:=btr C o;refine Zm rfl<|Ze (X6 (vs:=[.agg #[vi ((valW n (e.w++[g])).rows),vi ((valW n (e.w++[g])).cols),.slice aN ((valW n (e.w++[g])).cells).length aO],.bool true]) rfl rfl)<|Ze (X6 (vs:=[.agg #[vi ((valW n (e.w++[g])).rows),vi ((valW n (e.w++[g])).cols),.slice aN ((valW n (e.w++[g])).cells).length aO],.bool true]) rfl rfl)<|Zf (Xc (zs:=[vi 0,vi 0,.slice none 0 0]) X1k rfl) ?_;rintro _ qK ⟨b69,rfl,oE,o,aE⟩
    have n5:pK≠b69:=by have:=cV.lt;omega
    have lT:=Nat.le_trans C.size oE;have M:=M.below o;have q:=q.below o;have I:=I.below o;have H:=H.below o;have G:=G.below o;have aF:=aF.below o;have U:=U.below o;have N:=N.below o;have y:=y.below o;have aD:=aD.below o;have aB:=aB.below o;have b2:=b2.below o;have aJ:=aJ.below o;have aI:=aI.below o;have Q:=Q.below o;have C:=btr C o;refine Zo (Vw [vi ((valW n (e.w++[g])).rows),vi ((valW n (e.w++[g])).cols),.slice aN ((valW n (e.w++[g])).cells).length aO] X11 aE) ?_;rintro _ pM ⟨ho,hb⟩;have E:=aE;have M:=M.only ho (Blk.ne M E rfl);have q:=q.only ho (q.ne E);have I:=I.only ho (Blk.ne I E rfl);have H:=H.only ho (Blk.ne H E rfl);have G:=G.only ho (Blk.ne G E rfl);have aF:=aF.onlyT ho E rfl;have U:=U.onlyT ho E rfl;have N:=N.onlyT ho E rfl;have y:=y.onlyT ho E rfl;have aD:=aD.onlyT ho E rfl;have aB:=aB.onlyT ho E rfl;have b2:=b2.onlyT ho E rfl;have aJ:=aJ.onlyT ho E rfl rfl;have aI:=aI.onlyT ho E rfl rfl;have Q:=Q.onlyT ho E rfl;have C:=Below.only C ho lT;have aE:=hb;refine Za rfl<|Zx oD fun a J _ oF=>?_;refine Ze (Vn X04 aE)<|Zf (X2s (vs:=[.agg #[vi ((valW n (e.w++[g])).rows),vi ((valW n (e.w++[g])).cols),.slice aN ((valW n (e.w++[g])).cells).length aO]]) rfl X9o (by have hq:=Xhq pM (valW n (e.w++[g])) aN aO b2.rd.top o8 (kQ.of C);rw [pI] at hq;exact hq)) ?_;rintro _ w28 ⟨rfl,o⟩;have M:=M.below o;have q:=q.below o;have I:=I.below o;have H:=H.below o
    have G:=G.below o;have aE:=aE.below o;have aF:=aF.below o;have U:=U.below o;have N:=N.below o;have y:=y.below o;have aD:=aD.below o;have aB:=aB.below o;have b2:=b2.below o;have aJ:=aJ.below o;have aI:=aI.below o;have Q:=Q.below o;have C:=btr C o;refine Zm rfl<|Ze (X6 (vs:=[.string (keyM (valW n (e.w++[g]))),.bool true]) rfl rfl)<|Ze (X6 (vs:=[.string (keyM (valW n (e.w++[g]))),.bool true]) rfl rfl)<|Za rfl<|Za rfl ?_;refine ZX oF fun a J _ oG=>?_;refine Zs J fun _ oH=>?_;refine Ze (Vd rfl X8o 0)<|Ze (X0 rfl X73 (I.at 0))<|Zm rfl ?_;obtain ⟨oJ,oK,oL,oM,pS⟩:=X9i Q (keyM (valW n (e.w++[g])));refine Ze (Xcj (f:=Fk) rfl rfl Tryz.underlying71 Tryz.underlying9 Xjh q oL oM)<|Zm rfl<|Ze (X6 (vs:=[.slice oJ ((sgL Fk (keyM (valW n (e.w++[g])))).getD []).length oK,.bool ((sgL Fk (keyM (valW n (e.w++[g])))).isSome)]) rfl rfl)<|Ze (X6 (vs:=[.slice oJ ((sgL Fk (keyM (valW n (e.w++[g])))).getD []).length oK,.bool ((sgL Fk (keyM (valW n (e.w++[g])))).isSome)]) rfl rfl)<|Za rfl ?_;refine Za rfl<|ZX oH fun a J _ oN=>?_;refine X0o (fun a w=>Fr a 125 [(0,vi (n:Int)),(4,.pointer (some ⟨b3,0,none⟩)),(9,.pointer (some ⟨b17,0,none⟩)),(11,.slice bC N3.length bF),(13,.pointer (some ⟨aM,0,none⟩)),(15,.pointer (some ⟨aZ,0,none⟩)),(18,.pointer (some ⟨b69,0,none⟩)),(20,.string (keyM (valW n (e.w++[g])))),(45,vi (k:Int)),(46,vi (r:Int)),(49,.slice b0 L.length b8),(50,vi (L.length:Int)),(51,vi (i:Int)),(56,.slice bL (gsT n).length bM),(57,vi ((gsT n).length:Int)),(58,vi (j:Int)),(95,.bool ((sgL Fk (keyM (valW n (e.w++[g])))).isSome))]∧w28=w) ?_ ?_
    ·refine Zr J<|Zm rfl<|Ze (X0z rfl)<|Zm rfl<|Zv (gW rfl) (Xo rfl) ?_;refine Zv (gW rfl) (X0z rfl) ?_;refine Ze (Xr rfl rfl rfl)<|Zm rfl<|Zv (gW rfl) (Xo rfl) ?_;refine Ze (Xr rfl rfl rfl) ?_;refine Zn fun a J=>?_;exact ⟨J.sb,rfl⟩
    rintro a _ ⟨J,rfl⟩;refine oN _ _ ?_
    refine Xs J rfl (fun eA=>?_) (fun eA=>?_)
    ·have lU:=eA;have gG:=eA;refine wp_exit<|Xx<|X0e<|kT _ _ ?_;refine Zr J<|Ze (X0b rfl rfl (by omega) (by omega))<|Zm rfl ?_;refine Zn fun a J=>?_;refine X07 ?_;exact ⟨(j+1,N3,Fk),⟨bC,bF,J.sb,(by omega),(Xhx hS hL dH gF o5 gG),lO,M,q,I,H,aF,U,N,y.top,aD.top,aB.top,aJ.top,aI.top,Q.top,cF,bO,C⟩,(by first|omega|(dsimp only;omega))⟩
    have lU:=eA;have gG:=eA;have qL:=Xo1 hS;refine wp_skip<|oG _ _<|wp_seq_k fun _ oO=>?_;refine X0o (fun a w=>∃ bQ aS aW,Fr a 125 [(0,vi (n:Int)),(4,.pointer (some ⟨b3,0,none⟩)),(9,.pointer (some ⟨b17,0,none⟩)),(11,.slice bC N3.length bF),(13,.pointer (some ⟨aM,0,none⟩)),(20,.string (keyM (valW n (e.w++[g])))),(24,.pointer (some ⟨bQ,0,none⟩)),(45,vi (k:Int)),(46,vi (r:Int)),(49,.slice b0 L.length b8),(50,vi (L.length:Int)),(51,vi (i:Int)),(56,.slice bL (gsT n).length bM),(57,vi ((gsT n).length:Int)),(58,vi (j:Int))]∧w0.heap.size≤bQ∧Blk w bQ 111 [.slice aS (e.w++([g])).length aW,vi ((valW n (e.w++[g])).rows),vi ((valW n (e.w++[g])).cols),.slice aN ((valW n (e.w++[g])).cells).length aO]∧aM≠bQ∧Own w w0.heap.size 115 3 encG aS aW (e.w++([g]))∧w28.heap.size≤bQ∧Below w28.heap.size w28 w) ?_ ?_
    ·have z:Below w28.heap.size w28 w28:=Below.refl _ _
     have cA:=C.size;clear M;clear q;clear I;clear aF;clear aJ;clear U;clear aI;clear N;clear aB;clear Q;refine X0n none (fun j=>[5,9].contains j) mixed ?_;intro w29 o;have H:=H.below o;have G:=G.below o;have aE:=aE.below o;have y:=y.below o;have C:=btr C o;have z:=btr z o;refine Yb J<|Yo 0 rfl (fun _=>Vd rfl X88 0)<|Ye 1 rfl (X0 rfl X6i (H.at 0))<|Ye 3 rfl (Vn X25 G) ?_
     have p:Below w29.heap.size w29 w29:=Below.refl _ _
     have cA:=C.size;have gH:=z.size;refine Yc [0,1,2,3,4,5,6,7,8] 1 (fun a w=>∃ bQ aS aW,Fr a 125 [(0,vi (n:Int)),(4,.pointer (some ⟨b3,0,none⟩)),(9,.pointer (some ⟨b17,0,none⟩)),(11,.slice bC N3.length bF),(13,.pointer (some ⟨aM,0,none⟩)),(20,.string (keyM (valW n (e.w++[g])))),(24,.pointer (some ⟨bQ,0,none⟩)),(45,vi (k:Int)),(46,vi (r:Int)),(49,.slice b0 L.length b8),(50,vi (L.length:Int)),(51,vi (i:Int)),(56,.slice bL (gsT n).length bM),(57,vi ((gsT n).length:Int)),(58,vi (j:Int)),(103,.agg #[.slice aS (e.w++([g])).length aW,vi ((valW n (e.w++[g])).rows),vi ((valW n (e.w++[g])).cols),.slice aN ((valW n (e.w++[g])).cells).length aO])]∧w0.heap.size≤bQ∧Blk w bQ 111 [.slice none 0 0,vi 0,vi 0,.slice none 0 0]∧aM≠bQ∧w29.heap.size≤bQ∧w28.heap.size≤bQ∧Own w w0.heap.size 115 3 encG aS aW (e.w++([g]))∧Away aS aZ∧Below w29.heap.size w29 w) ?_ ?_
     ·rintro a qM ⟨bQ,aS,aW,J,eJ,bH,dK,lV,cW,b4,bP,o⟩;clear p;have p:=o;have C:=btr C o;have z:=btr z o;refine Yb J<|Y1 9<|Yh rfl trivial rfl (Vw [.slice aS (e.w++([g])).length aW,vi ((valW n (e.w++[g])).rows),vi ((valW n (e.w++[g])).cols),.slice aN ((valW n (e.w++[g])).cells).length aO] X9r bH) ?_;rintro _ w31 ⟨ho,hb⟩;have E:=bH;have b4:=b4.onlyT ho E rfl;have z:=Below.only z ho cW;have p:=Below.only p ho lV;have C:=Below.only C ho eJ;have bH:=hb;refine Yd fun a J=>?_
      have pN:Below w28.heap.size w28 w31:=z
      exact ⟨bQ,aS,aW,J.sb,eJ,bH,dK,b4,cW,pN⟩
     intro iN;refine Yc [0,1,2,3,4,5,6,7] 2 (fun a w=>∃ aS aW,Fr a 125 [(0,vi (n:Int)),(4,.pointer (some ⟨b3,0,none⟩)),(9,.pointer (some ⟨b17,0,none⟩)),(11,.slice bC N3.length bF),(13,.pointer (some ⟨aM,0,none⟩)),(20,.string (keyM (valW n (e.w++[g])))),(45,vi (k:Int)),(46,vi (r:Int)),(49,.slice b0 L.length b8),(50,vi (L.length:Int)),(51,vi (i:Int)),(56,.slice bL (gsT n).length bM),(57,vi ((gsT n).length:Int)),(58,vi (j:Int)),(103,.agg #[.slice aS (e.w++([g])).length aW,vi ((valW n (e.w++[g])).rows),vi ((valW n (e.w++[g])).cols),.slice aN ((valW n (e.w++[g])).cells).length aO])]∧Own w w0.heap.size 115 3 encG aS aW (e.w++([g]))∧Away aS aZ∧Below w29.heap.size w29 w) ?_ ?_
     ·rintro a qO ⟨aS,aW,J,b4,bP,o⟩;clear p;have p:=o;have H:=H.below o;have C:=btr C o;have z:=btr z o;refine Yb J<|Y1 8<|Yk rfl trivial (Xc (zs:=[.slice none 0 0,vi 0,vi 0,.slice none 0 0]) X2g rfl) (fun _ _ ⟨_,_,_,h,_⟩=>h) ?_;rintro _ qP ⟨b83,rfl,iO,o,oP⟩
      have iA:aM≠b83:=by have:=H.lt;omega
      have lW:=Nat.le_trans C.size iO;have lX:=Nat.le_trans z.size iO;have lY:=Nat.le_trans p.size iO;have b4:=b4.below o;have C:=btr C o;have z:=btr z o;have p:=btr p o;exact fun a J=>iN _ a _ rfl ⟨b83,aS,aW,J.sb,lW,oP,iA,lY,lX,b4,bP,p⟩
     intro kU;refine Yc [0,1,2,3,4,5,8] 3 (fun a w=>∃ eB aS aW,Fr a 125 [(0,vi (n:Int)),(4,.pointer (some ⟨b3,0,none⟩)),(9,.pointer (some ⟨b17,0,none⟩)),(11,.slice bC N3.length bF),(13,.pointer (some ⟨aM,0,none⟩)),(18,.pointer (some ⟨b69,0,none⟩)),(20,.string (keyM (valW n (e.w++[g])))),(24,.pointer (some ⟨eB,0,none⟩)),(45,vi (k:Int)),(46,vi (r:Int)),(49,.slice b0 L.length b8),(50,vi (L.length:Int)),(51,vi (i:Int)),(56,.slice bL (gsT n).length bM),(57,vi ((gsT n).length:Int)),(58,vi (j:Int)),(101,.slice aS (e.w++([g])).length aW)]∧w0.heap.size≤eB∧Blk w eB 111 [.slice none 0 0,vi 0,vi 0,.slice none 0 0]∧aM≠eB∧w29.heap.size≤eB∧w28.heap.size≤eB∧Own w w0.heap.size 115 3 encG aS aW (e.w++([g]))∧Away aS aZ∧Below w29.heap.size w29 w) ?_ ?_
     ·rintro a qQ ⟨eB,aS,aW,J,lZ,oQ,iB,m3,m4,b4,bP,o⟩;clear p;have p:=o;have aE:=aE.below o;have C:=btr C o;have z:=btr z o;refine Yb J<|Y1 6<|Yz rfl trivial (Uev (X03 (l:=[vi ((valW n (e.w++[g])).rows),vi ((valW n (e.w++[g])).cols),.slice aN ((valW n (e.w++[g])).cells).length aO]) rfl X04 (aE.at 0) rfl)) ?_;refine Yo 7 rfl (fun _=>Xl (ps:=[(0,.slice aS (e.w++([g])).length aW),(1,.agg #[vi ((valW n (e.w++[g])).rows),vi ((valW n (e.w++[g])).cols),.slice aN ((valW n (e.w++[g])).cells).length aO])]) (cs:=[.slice aS (e.w++([g])).length aW,vi ((valW n (e.w++[g])).rows),vi ((valW n (e.w++[g])).cols),.slice aN ((valW n (e.w++[g])).cells).length aO]) rfl (fun _=>by first|rfl|kernel_rfl)) ?_;exact fun a J=>iN _ a _ rfl ⟨eB,aS,aW,J.sb,lZ,oQ,iB,m3,m4,b4,bP,p⟩
     intro kW;refine Yc [0,1,2,3,4,6,8] 3 (fun a w=>∃ aK eC aG aQ,Fr a 125 [(0,vi (n:Int)),(4,.pointer (some ⟨b3,0,none⟩)),(9,.pointer (some ⟨b17,0,none⟩)),(11,.slice bC N3.length bF),(13,.pointer (some ⟨aM,0,none⟩)),(20,.string (keyM (valW n (e.w++[g])))),(24,.pointer (some ⟨eC,0,none⟩)),(45,vi (k:Int)),(46,vi (r:Int)),(49,.slice b0 L.length b8),(50,vi (L.length:Int)),(51,vi (i:Int)),(56,.slice bL (gsT n).length bM),(57,vi ((gsT n).length:Int)),(58,vi (j:Int)),(98,.slice aG e.w.length aQ),(100,.slice (some ⟨aK,0,none⟩) ([g]).length 1),(102,.agg #[vi ((valW n (e.w++[g])).rows),vi ((valW n (e.w++[g])).cols),.slice aN ((valW n (e.w++[g])).cells).length aO])]∧w0.heap.size≤aK∧Blk w aK 115 [vi g.k,vi g.a,vi g.b]∧aZ≠aK∧w0.heap.size≤eC∧Blk w eC 111 [.slice none 0 0,vi 0,vi 0,.slice none 0 0]∧aM≠eC∧w29.heap.size≤aK∧w28.heap.size≤aK∧w29.heap.size≤eC∧w28.heap.size≤eC∧Own w w29.heap.size 115 3 encG aG aQ e.w∧Away aG aZ∧AwayR e.w e.A aK∧Away aG aK∧Below w29.heap.size w29 w) ?_ ?_
     ·rintro a qR ⟨aK,eC,aG,aQ,J,bR,aR,aX,m5,iP,iC,bS,bU,m6,m7,aC,W,aY,aL,o⟩;clear p;have p:=o;have G:=G.below o;have C:=btr C o;have z:=btr z o;refine Yb J<|Y1 5<|Yt rfl trivial rfl (X1e (enc:=encG) (l:=(e.w)) (l2:=([g])) (B0:=w29.heap.size) rfl rfl X0s X0t X0p X23 aC (Rd.of_blk aR rfl _ aR.lt) (by simp only [maxLen];simp;omega) (by simp;omega) p.size) ?_;rintro _ qS ⟨m8,m9,rfl,iQ,hg,b6⟩
      have aA:Own _ w29.heap.size 115 3 encG _ _ (e.w):=aC
      have iD:=b6 _ G.lt W;have n6:=b6 _ aR.lt aL;clear b6;have iP:=iP.appT aA hg rfl;have C:=Below.app C aA hg cA C.size;have p:=Below.app p aA hg (Nat.le_refl _) p.size;have z:=Below.app z aA hg gH z.size;clear aA hg;have iQ:=iQ.lower cA;refine Yo 7 rfl (fun _=>Xl (ps:=[(0,.slice m8 (e.w++([g])).length m9),(1,.agg #[vi ((valW n (e.w++[g])).rows),vi ((valW n (e.w++[g])).cols),.slice aN ((valW n (e.w++[g])).cells).length aO])]) (cs:=[.slice m8 (e.w++([g])).length m9,vi ((valW n (e.w++[g])).rows),vi ((valW n (e.w++[g])).cols),.slice aN ((valW n (e.w++[g])).cells).length aO]) rfl (fun _=>by first|rfl|kernel_rfl)) ?_;exact fun a J=>iN _ a _ rfl ⟨eC,m8,m9,J.sb,m5,iP,iC,m6,m7,iQ,iD,p⟩
     intro gI;refine Yc [0,1,2,3,4,6] 4 (fun a w=>∃ aK aG aQ,Fr a 125 [(0,vi (n:Int)),(4,.pointer (some ⟨b3,0,none⟩)),(9,.pointer (some ⟨b17,0,none⟩)),(11,.slice bC N3.length bF),(13,.pointer (some ⟨aM,0,none⟩)),(20,.string (keyM (valW n (e.w++[g])))),(45,vi (k:Int)),(46,vi (r:Int)),(49,.slice b0 L.length b8),(50,vi (L.length:Int)),(51,vi (i:Int)),(56,.slice bL (gsT n).length bM),(57,vi ((gsT n).length:Int)),(58,vi (j:Int)),(98,.slice aG e.w.length aQ),(100,.slice (some ⟨aK,0,none⟩) ([g]).length 1),(102,.agg #[vi ((valW n (e.w++[g])).rows),vi ((valW n (e.w++[g])).cols),.slice aN ((valW n (e.w++[g])).cells).length aO])]∧w0.heap.size≤aK∧Blk w aK 115 [vi g.k,vi g.a,vi g.b]∧aZ≠aK∧w29.heap.size≤aK∧w28.heap.size≤aK∧Own w w29.heap.size 115 3 encG aG aQ e.w∧Away aG aZ∧AwayR e.w e.A aK∧Away aG aK∧Below w29.heap.size w29 w) ?_ ?_
     ·rintro a qT ⟨aK,aG,aQ,J,bR,aR,aX,bS,bU,aC,W,aY,aL,o⟩;clear p;have p:=o;have H:=H.below o;have G:=G.below o;have C:=btr C o;have z:=btr z o;refine Yb J<|Y2 5 8 ?_ ?_
      ·refine Yt rfl trivial rfl (X1e (enc:=encG) (l:=(e.w)) (l2:=([g])) (B0:=w29.heap.size) rfl rfl X0s X0t X0p X23 aC (Rd.of_blk aR rfl _ aR.lt) (by simp only [maxLen];simp;omega) (by simp;omega) p.size) ?_;rintro _ qU ⟨mA,mB,rfl,iS,hg,b6⟩
       have aA:Own _ w29.heap.size 115 3 encG _ _ (e.w):=aC
       have iE:=b6 _ G.lt W;have n7:=b6 _ aR.lt aL;clear b6;have C:=Below.app C aA hg cA C.size;have p:=Below.app p aA hg (Nat.le_refl _) p.size;have z:=Below.app z aA hg gH z.size;clear aA hg;have iS:=iS.lower cA;refine Yo 7 rfl (fun _=>Xl (ps:=[(0,.slice mA (e.w++([g])).length mB),(1,.agg #[vi ((valW n (e.w++[g])).rows),vi ((valW n (e.w++[g])).cols),.slice aN ((valW n (e.w++[g])).cells).length aO])]) (cs:=[.slice mA (e.w++([g])).length mB,vi ((valW n (e.w++[g])).rows),vi ((valW n (e.w++[g])).cols),.slice aN ((valW n (e.w++[g])).cells).length aO]) rfl (fun _=>by first|rfl|kernel_rfl)) ?_;exact fun a J=>kU _ a _ rfl ⟨mA,mB,J.sb,iS,iE,p⟩
      refine Yk rfl trivial (Xc (zs:=[.slice none 0 0,vi 0,vi 0,.slice none 0 0]) X2g rfl) (fun _ _ ⟨_,_,_,h,_⟩=>h) ?_;rintro _ qV ⟨b100,rfl,eK,o,mC⟩
      have eL:aM≠b100:=by have:=H.lt;omega
      have j6:=Nat.le_trans C.size eK;have j7:=Nat.le_trans z.size eK;have j8:=Nat.le_trans p.size eK;have aR:=aR.below o;have aC:=aC.below o;have C:=btr C o;have z:=btr z o;have p:=btr p o;exact fun a J=>gI _ a _ rfl ⟨aK,b100,aG,aQ,J.sb,bR,aR,aX,j6,mC,eL,bS,bU,j8,j7,aC,W,aY,aL,p⟩
     intro iT;refine Yc [0,1,2,3,4,8] 4 (fun a w=>∃ aK cB aG aQ,Fr a 125 [(0,vi (n:Int)),(4,.pointer (some ⟨b3,0,none⟩)),(9,.pointer (some ⟨b17,0,none⟩)),(11,.slice bC N3.length bF),(13,.pointer (some ⟨aM,0,none⟩)),(18,.pointer (some ⟨b69,0,none⟩)),(20,.string (keyM (valW n (e.w++[g])))),(24,.pointer (some ⟨cB,0,none⟩)),(45,vi (k:Int)),(46,vi (r:Int)),(49,.slice b0 L.length b8),(50,vi (L.length:Int)),(51,vi (i:Int)),(56,.slice bL (gsT n).length bM),(57,vi ((gsT n).length:Int)),(58,vi (j:Int)),(98,.slice aG e.w.length aQ),(100,.slice (some ⟨aK,0,none⟩) ([g]).length 1)]∧w0.heap.size≤aK∧Blk w aK 115 [vi g.k,vi g.a,vi g.b]∧aZ≠aK∧w0.heap.size≤cB∧Blk w cB 111 [.slice none 0 0,vi 0,vi 0,.slice none 0 0]∧aM≠cB∧w29.heap.size≤aK∧w28.heap.size≤aK∧w29.heap.size≤cB∧w28.heap.size≤cB∧Own w w29.heap.size 115 3 encG aG aQ e.w∧Away aG aZ∧AwayR e.w e.A aK∧Away aG aK∧Below w29.heap.size w29 w) ?_ ?_
     ·rintro a qW ⟨aK,cB,aG,aQ,J,bR,aR,aX,gJ,dL,cX,bS,bU,gK,gL,aC,W,aY,aL,o⟩;clear p;have p:=o;have G:=G.below o;have aE:=aE.below o;have C:=btr C o;have z:=btr z o;refine Yb J<|Y2 5 6 ?_ ?_
      ·refine Yt rfl trivial rfl (X1e (enc:=encG) (l:=(e.w)) (l2:=([g])) (B0:=w29.heap.size) rfl rfl X0s X0t X0p X23 aC (Rd.of_blk aR rfl _ aR.lt) (by simp only [maxLen];simp;omega) (by simp;omega) p.size) ?_;rintro _ qX ⟨oR,oS,rfl,eM,hg,b6⟩
       have aA:Own _ w29.heap.size 115 3 encG _ _ (e.w):=aC
       have eN:=b6 _ G.lt W;have mD:=b6 _ aR.lt aL;clear b6;have dL:=dL.appT aA hg rfl;have C:=Below.app C aA hg cA C.size;have p:=Below.app p aA hg (Nat.le_refl _) p.size;have z:=Below.app z aA hg gH z.size;clear aA hg;have eM:=eM.lower cA;exact fun a J=>kW _ a _ rfl ⟨cB,oR,oS,J.sb,gJ,dL,cX,gK,gL,eM,eN,p⟩
      refine Yz rfl trivial (Uev (X03 (l:=[vi ((valW n (e.w++[g])).rows),vi ((valW n (e.w++[g])).cols),.slice aN ((valW n (e.w++[g])).cells).length aO]) rfl X04 (aE.at 0) rfl)) ?_;exact fun a J=>gI _ a _ rfl ⟨aK,cB,aG,aQ,J.sb,bR,aR,aX,gJ,dL,cX,bS,bU,gK,gL,aC,W,aY,aL,p⟩
     intro eO;refine Yc [0,1,2,3,6,8] 4 (fun a w=>∃ cO aG aQ,Fr a 125 [(0,vi (n:Int)),(4,.pointer (some ⟨b3,0,none⟩)),(9,.pointer (some ⟨b17,0,none⟩)),(11,.slice bC N3.length bF),(13,.pointer (some ⟨aM,0,none⟩)),(20,.string (keyM (valW n (e.w++[g])))),(24,.pointer (some ⟨cO,0,none⟩)),(45,vi (k:Int)),(46,vi (r:Int)),(49,.slice b0 L.length b8),(50,vi (L.length:Int)),(51,vi (i:Int)),(56,.slice bL (gsT n).length bM),(57,vi ((gsT n).length:Int)),(58,vi (j:Int)),(98,.slice aG e.w.length aQ),(99,.agg #[vi g.k,vi g.a,vi g.b]),(102,.agg #[vi ((valW n (e.w++[g])).rows),vi ((valW n (e.w++[g])).cols),.slice aN ((valW n (e.w++[g])).cells).length aO])]∧w0.heap.size≤cO∧Blk w cO 111 [.slice none 0 0,vi 0,vi 0,.slice none 0 0]∧aM≠cO∧w29.heap.size≤cO∧w28.heap.size≤cO∧Own w w29.heap.size 115 3 encG aG aQ e.w∧Away aG aZ∧Below w29.heap.size w29 w) ?_ ?_
     ·rintro a qY ⟨cO,aG,aQ,J,j9,eP,eQ,jA,jB,aC,W,o⟩;clear p;have p:=o;have G:=G.below o;have y:=y.below o;have C:=btr C o;have z:=btr z o;refine Yb J<|Y1 4<|Yk rfl trivial (Xf (k:=1) (vs:=[.agg #[vi g.k,vi g.a,vi g.b]]) (zs:=[vi g.k,vi g.a,vi g.b]) rfl X0s X0t rfl rfl) (fun _ _ ⟨_,_,_,h,_⟩=>h) ?_;rintro _ qZ ⟨b106,rfl,cY,o,mE⟩
      have eR:aZ≠b106:=by have:=G.lt;omega
      have jC:=Nat.le_trans C.size cY;have jD:=Nat.le_trans z.size cY;have jE:=Nat.le_trans p.size cY;have eS:=y.away cY;have eT:=aC.away cY;have eP:=eP.below o;have aC:=aC.below o;have C:=btr C o;have z:=btr z o;have p:=btr p o;exact fun a J=>gI _ a _ rfl ⟨b106,cO,aG,aQ,J.sb,jC,mE,eR,j9,eP,eQ,jE,jD,jA,jB,aC,W,eS,eT,p⟩
     intro eU;refine Yc [0,1,3,4,6,8] 4 (fun a w=>∃ aH cP,Fr a 125 [(0,vi (n:Int)),(4,.pointer (some ⟨b3,0,none⟩)),(9,.pointer (some ⟨b17,0,none⟩)),(11,.slice bC N3.length bF),(13,.pointer (some ⟨aM,0,none⟩)),(20,.string (keyM (valW n (e.w++[g])))),(24,.pointer (some ⟨cP,0,none⟩)),(45,vi (k:Int)),(46,vi (r:Int)),(49,.slice b0 L.length b8),(50,vi (L.length:Int)),(51,vi (i:Int)),(56,.slice bL (gsT n).length bM),(57,vi ((gsT n).length:Int)),(58,vi (j:Int)),(97,.slice e.A e.w.length e.c),(100,.slice (some ⟨aH,0,none⟩) ([g]).length 1),(102,.agg #[vi ((valW n (e.w++[g])).rows),vi ((valW n (e.w++[g])).cols),.slice aN ((valW n (e.w++[g])).cells).length aO])]∧w0.heap.size≤aH∧Blk w aH 115 [vi g.k,vi g.a,vi g.b]∧aZ≠aH∧w0.heap.size≤cP∧Blk w cP 111 [.slice none 0 0,vi 0,vi 0,.slice none 0 0]∧aM≠cP∧w29.heap.size≤aH∧w28.heap.size≤aH∧w29.heap.size≤cP∧w28.heap.size≤cP∧AwayR e.w e.A aH∧Below w29.heap.size w29 w) ?_ ?_
     ·rintro a r0 ⟨aH,cP,J,bI,aP,aT,jF,eW,eX,bJ,bK,jG,jH,aU,o⟩;clear p;have p:=o;have G:=G.below o;have y:=y.below o;have C:=btr C o;have z:=btr z o;refine Yb J<|Y1 2<|Yk rfl trivial (Vc (X6b _ e.A e.c e.w y.top (by omega)) X2o) (fun _ _ ⟨kX,kY,_,cG,o⟩=>o) ?_;rintro _ r4 ⟨kX,kY,rfl,cG,o⟩;have eY:=cG.awayNew G.lt;have eD:=cG.awayNew aP.lt;have cG:=cG.lower p.size;have aP:=aP.below o;have eW:=eW.below o;have C:=btr C o;have z:=btr z o;have p:=btr p o;exact fun a J=>gI _ a _ rfl ⟨aH,cP,kX,kY,J.sb,bI,aP,aT,jF,eW,eX,bJ,bK,jG,jH,cG,eY,aU,eD,p⟩
     intro f0;refine Yc [0,1,2,3,4] 5 (fun a w=>∃ aK aG aQ,Fr a 125 [(0,vi (n:Int)),(4,.pointer (some ⟨b3,0,none⟩)),(9,.pointer (some ⟨b17,0,none⟩)),(11,.slice bC N3.length bF),(13,.pointer (some ⟨aM,0,none⟩)),(18,.pointer (some ⟨b69,0,none⟩)),(20,.string (keyM (valW n (e.w++[g])))),(45,vi (k:Int)),(46,vi (r:Int)),(49,.slice b0 L.length b8),(50,vi (L.length:Int)),(51,vi (i:Int)),(56,.slice bL (gsT n).length bM),(57,vi ((gsT n).length:Int)),(58,vi (j:Int)),(98,.slice aG e.w.length aQ),(100,.slice (some ⟨aK,0,none⟩) ([g]).length 1)]∧w0.heap.size≤aK∧Blk w aK 115 [vi g.k,vi g.a,vi g.b]∧aZ≠aK∧w29.heap.size≤aK∧w28.heap.size≤aK∧Own w w29.heap.size 115 3 encG aG aQ e.w∧Away aG aZ∧AwayR e.w e.A aK∧Away aG aK∧Below w29.heap.size w29 w) ?_ ?_
     ·rintro a r5 ⟨aK,aG,aQ,J,bR,aR,aX,bS,bU,aC,W,aY,aL,o⟩;clear p;have p:=o;have H:=H.below o;have G:=G.below o;have aE:=aE.below o;have C:=btr C o;have z:=btr z o;refine Yb J<|Y3 5 6 8 ?_ ?_ ?_
      ·refine Yt rfl trivial rfl (X1e (enc:=encG) (l:=(e.w)) (l2:=([g])) (B0:=w29.heap.size) rfl rfl X0s X0t X0p X23 aC (Rd.of_blk aR rfl _ aR.lt) (by simp only [maxLen];simp;omega) (by simp;omega) p.size) ?_;rintro _ r6 ⟨gM,gN,rfl,cH,hg,b6⟩
       have aA:Own _ w29.heap.size 115 3 encG _ _ (e.w):=aC
       have d5:=b6 _ G.lt W;have mF:=b6 _ aR.lt aL;clear b6;have H:=H.appT aA hg rfl;have aE:=aE.appT aA hg rfl;have C:=Below.app C aA hg cA C.size;have p:=Below.app p aA hg (Nat.le_refl _) p.size;have z:=Below.app z aA hg gH z.size;clear aA hg;have cH:=cH.lower cA;refine Y2 6 8 ?_ ?_
       ·refine Yz rfl trivial (Uev (X03 (l:=[vi ((valW n (e.w++[g])).rows),vi ((valW n (e.w++[g])).cols),.slice aN ((valW n (e.w++[g])).cells).length aO]) rfl X04 (aE.at 0) rfl)) ?_;refine Yo 7 rfl (fun _=>Xl (ps:=[(0,.slice gM (e.w++([g])).length gN),(1,.agg #[vi ((valW n (e.w++[g])).rows),vi ((valW n (e.w++[g])).cols),.slice aN ((valW n (e.w++[g])).cells).length aO])]) (cs:=[.slice gM (e.w++([g])).length gN,vi ((valW n (e.w++[g])).rows),vi ((valW n (e.w++[g])).cols),.slice aN ((valW n (e.w++[g])).cells).length aO]) rfl (fun _=>by first|rfl|kernel_rfl)) ?_;exact fun a J=>kU _ a _ rfl ⟨gM,gN,J.sb,cH,d5,p⟩
       refine Yk rfl trivial (Xc (zs:=[.slice none 0 0,vi 0,vi 0,.slice none 0 0]) X2g rfl) (fun _ _ ⟨_,_,_,h,_⟩=>h) ?_;rintro _ r7 ⟨b118,rfl,f4,o,mG⟩
       have f5:aM≠b118:=by have:=H.lt;omega
       have jI:=Nat.le_trans C.size f4;have jJ:=Nat.le_trans z.size f4;have jK:=Nat.le_trans p.size f4;have cH:=cH.below o;have C:=btr C o;have z:=btr z o;have p:=btr p o;exact fun a J=>kW _ a _ rfl ⟨b118,gM,gN,J.sb,jI,mG,f5,jK,jJ,cH,d5,p⟩
      ·refine Yz rfl trivial (Uev (X03 (l:=[vi ((valW n (e.w++[g])).rows),vi ((valW n (e.w++[g])).cols),.slice aN ((valW n (e.w++[g])).cells).length aO]) rfl X04 (aE.at 0) rfl)) ?_;exact fun a J=>iT _ a _ rfl ⟨aK,aG,aQ,J.sb,bR,aR,aX,bS,bU,aC,W,aY,aL,p⟩
      refine Yk rfl trivial (Xc (zs:=[.slice none 0 0,vi 0,vi 0,.slice none 0 0]) X2g rfl) (fun _ _ ⟨_,_,_,h,_⟩=>h) ?_;rintro _ r8 ⟨b121,rfl,f6,o,mH⟩
      have f7:aM≠b121:=by have:=H.lt;omega
      have jL:=Nat.le_trans C.size f6;have jM:=Nat.le_trans z.size f6;have jN:=Nat.le_trans p.size f6;have aR:=aR.below o;have aC:=aC.below o;have C:=btr C o;have z:=btr z o;have p:=btr p o;exact fun a J=>eO _ a _ rfl ⟨aK,b121,aG,aQ,J.sb,bR,aR,aX,jL,mH,f7,bS,bU,jN,jM,aC,W,aY,aL,p⟩
     intro iU;refine Yc [0,1,2,3,6] 5 (fun a w=>∃ aG aQ,Fr a 125 [(0,vi (n:Int)),(4,.pointer (some ⟨b3,0,none⟩)),(9,.pointer (some ⟨b17,0,none⟩)),(11,.slice bC N3.length bF),(13,.pointer (some ⟨aM,0,none⟩)),(20,.string (keyM (valW n (e.w++[g])))),(45,vi (k:Int)),(46,vi (r:Int)),(49,.slice b0 L.length b8),(50,vi (L.length:Int)),(51,vi (i:Int)),(56,.slice bL (gsT n).length bM),(57,vi ((gsT n).length:Int)),(58,vi (j:Int)),(98,.slice aG e.w.length aQ),(99,.agg #[vi g.k,vi g.a,vi g.b]),(102,.agg #[vi ((valW n (e.w++[g])).rows),vi ((valW n (e.w++[g])).cols),.slice aN ((valW n (e.w++[g])).cells).length aO])]∧Own w w29.heap.size 115 3 encG aG aQ e.w∧Away aG aZ∧Below w29.heap.size w29 w) ?_ ?_
     ·rintro a r9 ⟨aG,aQ,J,aC,W,o⟩;clear p;have p:=o;have H:=H.below o;have G:=G.below o;have y:=y.below o;have C:=btr C o;have z:=btr z o;refine Yb J<|Y2 4 8 ?_ ?_
      ·refine Yk rfl trivial (Xf (k:=1) (vs:=[.agg #[vi g.k,vi g.a,vi g.b]]) (zs:=[vi g.k,vi g.a,vi g.b]) rfl X0s X0t rfl rfl) (fun _ _ ⟨_,_,_,h,_⟩=>h) ?_;rintro _ rA ⟨b124,rfl,d6,o,mI⟩
       have f8:aZ≠b124:=by have:=G.lt;omega
       have jO:=Nat.le_trans C.size d6;have jP:=Nat.le_trans z.size d6;have jQ:=Nat.le_trans p.size d6;have f9:=y.away d6;have fA:=aC.away d6;have aC:=aC.below o;have C:=btr C o;have z:=btr z o;have p:=btr p o;exact fun a J=>iT _ a _ rfl ⟨b124,aG,aQ,J.sb,jO,mI,f8,jQ,jP,aC,W,f9,fA,p⟩
      refine Yk rfl trivial (Xc (zs:=[.slice none 0 0,vi 0,vi 0,.slice none 0 0]) X2g rfl) (fun _ _ ⟨_,_,_,h,_⟩=>h) ?_;rintro _ rB ⟨b128,rfl,fB,o,mJ⟩
      have fC:aM≠b128:=by have:=H.lt;omega
      have jR:=Nat.le_trans C.size fB;have jS:=Nat.le_trans z.size fB;have jT:=Nat.le_trans p.size fB;have aC:=aC.below o;have C:=btr C o;have z:=btr z o;have p:=btr p o;exact fun a J=>eU _ a _ rfl ⟨b128,aG,aQ,J.sb,jR,mJ,fC,jT,jS,aC,W,p⟩
     intro iV;refine Yc [0,1,2,3,8] 5 (fun a w=>∃ cC aG aQ,Fr a 125 [(0,vi (n:Int)),(4,.pointer (some ⟨b3,0,none⟩)),(9,.pointer (some ⟨b17,0,none⟩)),(11,.slice bC N3.length bF),(13,.pointer (some ⟨aM,0,none⟩)),(18,.pointer (some ⟨b69,0,none⟩)),(20,.string (keyM (valW n (e.w++[g])))),(24,.pointer (some ⟨cC,0,none⟩)),(45,vi (k:Int)),(46,vi (r:Int)),(49,.slice b0 L.length b8),(50,vi (L.length:Int)),(51,vi (i:Int)),(56,.slice bL (gsT n).length bM),(57,vi ((gsT n).length:Int)),(58,vi (j:Int)),(98,.slice aG e.w.length aQ),(99,.agg #[vi g.k,vi g.a,vi g.b])]∧w0.heap.size≤cC∧Blk w cC 111 [.slice none 0 0,vi 0,vi 0,.slice none 0 0]∧aM≠cC∧w29.heap.size≤cC∧w28.heap.size≤cC∧Own w w29.heap.size 115 3 encG aG aQ e.w∧Away aG aZ∧Below w29.heap.size w29 w) ?_ ?_
     ·rintro a rC ⟨cC,aG,aQ,J,gO,dM,d7,gQ,gR,aC,W,o⟩;clear p;have p:=o;have G:=G.below o;have aE:=aE.below o;have y:=y.below o;have C:=btr C o;have z:=btr z o;refine Yb J<|Y2 4 6 ?_ ?_
      ·refine Yk rfl trivial (Xf (k:=1) (vs:=[.agg #[vi g.k,vi g.a,vi g.b]]) (zs:=[vi g.k,vi g.a,vi g.b]) rfl X0s X0t rfl rfl) (fun _ _ ⟨_,_,_,h,_⟩=>h) ?_;rintro _ rD ⟨b131,rfl,d8,o,mK⟩
       have fD:aZ≠b131:=by have:=G.lt;omega
       have jU:=Nat.le_trans C.size d8;have jV:=Nat.le_trans z.size d8;have jW:=Nat.le_trans p.size d8;have fE:=y.away d8;have fF:=aC.away d8;have dM:=dM.below o;have aC:=aC.below o;have C:=btr C o;have z:=btr z o;have p:=btr p o;exact fun a J=>eO _ a _ rfl ⟨b131,cC,aG,aQ,J.sb,jU,mK,fD,gO,dM,d7,jW,jV,gQ,gR,aC,W,fE,fF,p⟩
      refine Yz rfl trivial (Uev (X03 (l:=[vi ((valW n (e.w++[g])).rows),vi ((valW n (e.w++[g])).cols),.slice aN ((valW n (e.w++[g])).cells).length aO]) rfl X04 (aE.at 0) rfl)) ?_;exact fun a J=>eU _ a _ rfl ⟨cC,aG,aQ,J.sb,gO,dM,d7,gQ,gR,aC,W,p⟩
     intro iW;refine Yc [0,1,3,4,6] 5 (fun a w=>∃ aH,Fr a 125 [(0,vi (n:Int)),(4,.pointer (some ⟨b3,0,none⟩)),(9,.pointer (some ⟨b17,0,none⟩)),(11,.slice bC N3.length bF),(13,.pointer (some ⟨aM,0,none⟩)),(20,.string (keyM (valW n (e.w++[g])))),(45,vi (k:Int)),(46,vi (r:Int)),(49,.slice b0 L.length b8),(50,vi (L.length:Int)),(51,vi (i:Int)),(56,.slice bL (gsT n).length bM),(57,vi ((gsT n).length:Int)),(58,vi (j:Int)),(97,.slice e.A e.w.length e.c),(100,.slice (some ⟨aH,0,none⟩) ([g]).length 1),(102,.agg #[vi ((valW n (e.w++[g])).rows),vi ((valW n (e.w++[g])).cols),.slice aN ((valW n (e.w++[g])).cells).length aO])]∧w0.heap.size≤aH∧Blk w aH 115 [vi g.k,vi g.a,vi g.b]∧aZ≠aH∧w29.heap.size≤aH∧w28.heap.size≤aH∧AwayR e.w e.A aH∧Below w29.heap.size w29 w) ?_ ?_
     ·rintro a rE ⟨aH,J,bI,aP,aT,bJ,bK,aU,o⟩;clear p;have p:=o;have H:=H.below o;have G:=G.below o;have y:=y.below o;have C:=btr C o;have z:=btr z o;refine Yb J<|Y2 2 8 ?_ ?_
      ·refine Yk rfl trivial (Vc (X6b _ e.A e.c e.w y.top (by omega)) X2o) (fun _ _ ⟨kZ,l3,_,cJ,o⟩=>o) ?_;rintro _ rF ⟨kZ,l3,rfl,cJ,o⟩;have fG:=cJ.awayNew G.lt;have eE:=cJ.awayNew aP.lt;have cJ:=cJ.lower p.size;have aP:=aP.below o;have C:=btr C o;have z:=btr z o;have p:=btr p o;exact fun a J=>iT _ a _ rfl ⟨aH,kZ,l3,J.sb,bI,aP,aT,bJ,bK,cJ,fG,aU,eE,p⟩
      refine Yk rfl trivial (Xc (zs:=[.slice none 0 0,vi 0,vi 0,.slice none 0 0]) X2g rfl) (fun _ _ ⟨_,_,_,h,_⟩=>h) ?_;rintro _ rG ⟨b138,rfl,fH,o,mL⟩
      have fI:aM≠b138:=by have:=H.lt;omega
      have jX:=Nat.le_trans C.size fH;have jY:=Nat.le_trans z.size fH;have jZ:=Nat.le_trans p.size fH;have aP:=aP.below o;have C:=btr C o;have z:=btr z o;have p:=btr p o;exact fun a J=>f0 _ a _ rfl ⟨aH,b138,J.sb,bI,aP,aT,jX,mL,fI,bJ,bK,jZ,jY,aU,p⟩
     intro iX;refine Yc [0,1,3,4,8] 5 (fun a w=>∃ aH cD,Fr a 125 [(0,vi (n:Int)),(4,.pointer (some ⟨b3,0,none⟩)),(9,.pointer (some ⟨b17,0,none⟩)),(11,.slice bC N3.length bF),(13,.pointer (some ⟨aM,0,none⟩)),(18,.pointer (some ⟨b69,0,none⟩)),(20,.string (keyM (valW n (e.w++[g])))),(24,.pointer (some ⟨cD,0,none⟩)),(45,vi (k:Int)),(46,vi (r:Int)),(49,.slice b0 L.length b8),(50,vi (L.length:Int)),(51,vi (i:Int)),(56,.slice bL (gsT n).length bM),(57,vi ((gsT n).length:Int)),(58,vi (j:Int)),(97,.slice e.A e.w.length e.c),(100,.slice (some ⟨aH,0,none⟩) ([g]).length 1)]∧w0.heap.size≤aH∧Blk w aH 115 [vi g.k,vi g.a,vi g.b]∧aZ≠aH∧w0.heap.size≤cD∧Blk w cD 111 [.slice none 0 0,vi 0,vi 0,.slice none 0 0]∧aM≠cD∧w29.heap.size≤aH∧w28.heap.size≤aH∧w29.heap.size≤cD∧w28.heap.size≤cD∧AwayR e.w e.A aH∧Below w29.heap.size w29 w) ?_ ?_
     ·rintro a rH ⟨aH,cD,J,bI,aP,aT,gS,dN,d9,bJ,bK,gT,gU,aU,o⟩;clear p;have p:=o;have G:=G.below o;have aE:=aE.below o;have y:=y.below o;have C:=btr C o;have z:=btr z o;refine Yb J<|Y2 2 6 ?_ ?_
      ·refine Yk rfl trivial (Vc (X6b _ e.A e.c e.w y.top (by omega)) X2o) (fun _ _ ⟨l4,l5,_,cK,o⟩=>o) ?_;rintro _ rI ⟨l4,l5,rfl,cK,o⟩;have fJ:=cK.awayNew G.lt;have eF:=cK.awayNew aP.lt;have cK:=cK.lower p.size;have aP:=aP.below o;have dN:=dN.below o;have C:=btr C o;have z:=btr z o;have p:=btr p o;exact fun a J=>eO _ a _ rfl ⟨aH,cD,l4,l5,J.sb,bI,aP,aT,gS,dN,d9,bJ,bK,gT,gU,cK,fJ,aU,eF,p⟩
      refine Yz rfl trivial (Uev (X03 (l:=[vi ((valW n (e.w++[g])).rows),vi ((valW n (e.w++[g])).cols),.slice aN ((valW n (e.w++[g])).cells).length aO]) rfl X04 (aE.at 0) rfl)) ?_;exact fun a J=>f0 _ a _ rfl ⟨aH,cD,J.sb,bI,aP,aT,gS,dN,d9,bJ,bK,gT,gU,aU,p⟩
     intro iY;refine Yc [0,1,3,6,8] 5 (fun a w=>∃ cE,Fr a 125 [(0,vi (n:Int)),(4,.pointer (some ⟨b3,0,none⟩)),(9,.pointer (some ⟨b17,0,none⟩)),(11,.slice bC N3.length bF),(13,.pointer (some ⟨aM,0,none⟩)),(20,.string (keyM (valW n (e.w++[g])))),(24,.pointer (some ⟨cE,0,none⟩)),(45,vi (k:Int)),(46,vi (r:Int)),(49,.slice b0 L.length b8),(50,vi (L.length:Int)),(51,vi (i:Int)),(56,.slice bL (gsT n).length bM),(57,vi ((gsT n).length:Int)),(58,vi (j:Int)),(97,.slice e.A e.w.length e.c),(99,.agg #[vi g.k,vi g.a,vi g.b]),(102,.agg #[vi ((valW n (e.w++[g])).rows),vi ((valW n (e.w++[g])).cols),.slice aN ((valW n (e.w++[g])).cells).length aO])]∧w0.heap.size≤cE∧Blk w cE 111 [.slice none 0 0,vi 0,vi 0,.slice none 0 0]∧aM≠cE∧w29.heap.size≤cE∧w28.heap.size≤cE∧Below w29.heap.size w29 w) ?_ ?_
     ·rintro a rJ ⟨cE,J,gX,cL,dA,gY,hG,o⟩;clear p;have p:=o;have G:=G.below o;have y:=y.below o;have C:=btr C o;have z:=btr z o;refine Yb J<|Y2 2 4 ?_ ?_
      ·refine Yk rfl trivial (Vc (X6b _ e.A e.c e.w y.top (by omega)) X2o) (fun _ _ ⟨l6,l7,_,dB,o⟩=>o) ?_;rintro _ rK ⟨l6,l7,rfl,dB,o⟩;have fK:=dB.awayNew G.lt;have dB:=dB.lower p.size;have cL:=cL.below o;have C:=btr C o;have z:=btr z o;have p:=btr p o;exact fun a J=>eU _ a _ rfl ⟨cE,l6,l7,J.sb,gX,cL,dA,gY,hG,dB,fK,p⟩
      refine Yk rfl trivial (Xf (k:=1) (vs:=[.agg #[vi g.k,vi g.a,vi g.b]]) (zs:=[vi g.k,vi g.a,vi g.b]) rfl X0s X0t rfl rfl) (fun _ _ ⟨_,_,_,h,_⟩=>h) ?_;rintro _ rL ⟨b145,rfl,dO,o,mM⟩
      have fL:aZ≠b145:=by have:=G.lt;omega
      have k0:=Nat.le_trans C.size dO;have k5:=Nat.le_trans z.size dO;have k6:=Nat.le_trans p.size dO;have fM:=y.away dO;have cL:=cL.below o;have C:=btr C o;have z:=btr z o;have p:=btr p o;exact fun a J=>f0 _ a _ rfl ⟨b145,cE,J.sb,k0,mM,fL,gX,cL,dA,k6,k5,gY,hG,fM,p⟩
     intro iZ;refine Y4 2 4 6 8 ?_ ?_ ?_ ?_
     ·refine Yk rfl trivial (Vc (X6b _ e.A e.c e.w y.top (by omega)) X2o) (fun _ _ ⟨hH,hJ,_,b1,o⟩=>o) ?_;rintro _ rM ⟨hH,hJ,rfl,b1,o⟩;have bW:=b1.awayNew G.lt;have b1:=b1.lower p.size;have H:=H.below o;have G:=G.below o;have aE:=aE.below o;have y:=y.below o;have C:=btr C o;have z:=btr z o;have p:=btr p o;refine Y3 4 6 8 ?_ ?_ ?_
      ·refine Yk rfl trivial (Xf (k:=1) (vs:=[.agg #[vi g.k,vi g.a,vi g.b]]) (zs:=[vi g.k,vi g.a,vi g.b]) rfl X0s X0t rfl rfl) (fun _ _ ⟨_,_,_,h,_⟩=>h) ?_;rintro _ rN ⟨b148,rfl,dC,o,mN⟩
       have fN:aZ≠b148:=by have:=G.lt;omega
       have k7:=Nat.le_trans C.size dC;have k8:=Nat.le_trans z.size dC;have kA:=Nat.le_trans p.size dC;have fO:=y.away dC;have eG:=b1.away dC;have b1:=b1.below o;have C:=btr C o;have z:=btr z o;have p:=btr p o;exact fun a J=>iU _ a _ rfl ⟨b148,hH,hJ,J.sb,k7,mN,fN,kA,k8,b1,bW,fO,eG,p⟩
      ·refine Yz rfl trivial (Uev (X03 (l:=[vi ((valW n (e.w++[g])).rows),vi ((valW n (e.w++[g])).cols),.slice aN ((valW n (e.w++[g])).cells).length aO]) rfl X04 (aE.at 0) rfl)) ?_;exact fun a J=>iV _ a _ rfl ⟨hH,hJ,J.sb,b1,bW,p⟩
      refine Yk rfl trivial (Xc (zs:=[.slice none 0 0,vi 0,vi 0,.slice none 0 0]) X2g rfl) (fun _ _ ⟨_,_,_,h,_⟩=>h) ?_;rintro _ rO ⟨b152,rfl,fP,o,mO⟩
      have fQ:aM≠b152:=by have:=H.lt;omega
      have kB:=Nat.le_trans C.size fP;have kC:=Nat.le_trans z.size fP;have kD:=Nat.le_trans p.size fP;have b1:=b1.below o;have C:=btr C o;have z:=btr z o;have p:=btr p o;exact fun a J=>iW _ a _ rfl ⟨b152,hH,hJ,J.sb,kB,mO,fQ,kD,kC,b1,bW,p⟩
     ·refine Yk rfl trivial (Xf (k:=1) (vs:=[.agg #[vi g.k,vi g.a,vi g.b]]) (zs:=[vi g.k,vi g.a,vi g.b]) rfl X0s X0t rfl rfl) (fun _ _ ⟨_,_,_,h,_⟩=>h) ?_;rintro _ rP ⟨b153,rfl,dP,o,bN⟩
      have bX:aZ≠b153:=by have:=G.lt;omega
      have dQ:=Nat.le_trans C.size dP;have dR:=Nat.le_trans z.size dP;have dS:=Nat.le_trans p.size dP;have bY:=y.away dP;have H:=H.below o;have G:=G.below o;have aE:=aE.below o;have y:=y.below o;have C:=btr C o;have z:=btr z o;have p:=btr p o;refine Y3 2 6 8 ?_ ?_ ?_
      ·refine Yk rfl trivial (Vc (X6b _ e.A e.c e.w y.top (by omega)) X2o) (fun _ _ ⟨l8,l9,_,cM,o⟩=>o) ?_;rintro _ rQ ⟨l8,l9,rfl,cM,o⟩;have fR:=cM.awayNew G.lt;have eH:=cM.awayNew bN.lt;have cM:=cM.lower p.size;have bN:=bN.below o;have C:=btr C o;have z:=btr z o;have p:=btr p o;exact fun a J=>iU _ a _ rfl ⟨b153,l8,l9,J.sb,dQ,bN,bX,dS,dR,cM,fR,bY,eH,p⟩
      ·refine Yz rfl trivial (Uev (X03 (l:=[vi ((valW n (e.w++[g])).rows),vi ((valW n (e.w++[g])).cols),.slice aN ((valW n (e.w++[g])).cells).length aO]) rfl X04 (aE.at 0) rfl)) ?_;exact fun a J=>iX _ a _ rfl ⟨b153,J.sb,dQ,bN,bX,dS,dR,bY,p⟩
      refine Yk rfl trivial (Xc (zs:=[.slice none 0 0,vi 0,vi 0,.slice none 0 0]) X2g rfl) (fun _ _ ⟨_,_,_,h,_⟩=>h) ?_;rintro _ rR ⟨b158,rfl,fS,o,mP⟩
      have fT:aM≠b158:=by have:=H.lt;omega
      have kE:=Nat.le_trans C.size fS;have kF:=Nat.le_trans z.size fS;have kG:=Nat.le_trans p.size fS;have bN:=bN.below o;have C:=btr C o;have z:=btr z o;have p:=btr p o;exact fun a J=>iY _ a _ rfl ⟨b153,b158,J.sb,dQ,bN,bX,kE,mP,fT,dS,dR,kG,kF,bY,p⟩
     ·refine Yz rfl trivial (Uev (X03 (l:=[vi ((valW n (e.w++[g])).rows),vi ((valW n (e.w++[g])).cols),.slice aN ((valW n (e.w++[g])).cells).length aO]) rfl X04 (aE.at 0) rfl)) ?_;refine Y3 2 4 8 ?_ ?_ ?_
      ·refine Yk rfl trivial (Vc (X6b _ e.A e.c e.w y.top (by omega)) X2o) (fun _ _ ⟨lA,lB,_,dD,o⟩=>o) ?_;rintro _ rS ⟨lA,lB,rfl,dD,o⟩;have fU:=dD.awayNew G.lt;have dD:=dD.lower p.size;have C:=btr C o;have z:=btr z o;have p:=btr p o;exact fun a J=>iV _ a _ rfl ⟨lA,lB,J.sb,dD,fU,p⟩
      ·refine Yk rfl trivial (Xf (k:=1) (vs:=[.agg #[vi g.k,vi g.a,vi g.b]]) (zs:=[vi g.k,vi g.a,vi g.b]) rfl X0s X0t rfl rfl) (fun _ _ ⟨_,_,_,h,_⟩=>h) ?_;rintro _ rT ⟨b160,rfl,dT,o,mQ⟩
       have fV:aZ≠b160:=by have:=G.lt;omega
       have kH:=Nat.le_trans C.size dT;have kI:=Nat.le_trans z.size dT;have kJ:=Nat.le_trans p.size dT;have fW:=y.away dT;have C:=btr C o;have z:=btr z o;have p:=btr p o;exact fun a J=>iX _ a _ rfl ⟨b160,J.sb,kH,mQ,fV,kJ,kI,fW,p⟩
      refine Yk rfl trivial (Xc (zs:=[.slice none 0 0,vi 0,vi 0,.slice none 0 0]) X2g rfl) (fun _ _ ⟨_,_,_,h,_⟩=>h) ?_;rintro _ rU ⟨b164,rfl,fX,o,mR⟩
      have fY:aM≠b164:=by have:=H.lt;omega
      have kK:=Nat.le_trans C.size fX;have kL:=Nat.le_trans z.size fX;have kM:=Nat.le_trans p.size fX;have C:=btr C o;have z:=btr z o;have p:=btr p o;exact fun a J=>iZ _ a _ rfl ⟨b164,J.sb,kK,mR,fY,kM,kL,p⟩
     refine Yk rfl trivial (Xc (zs:=[.slice none 0 0,vi 0,vi 0,.slice none 0 0]) X2g rfl) (fun _ _ ⟨_,_,_,h,_⟩=>h) ?_;rintro _ rW ⟨b167,rfl,fZ,o,bZ⟩
     have c6:aM≠b167:=by have:=H.lt;omega
     have dU:=Nat.le_trans C.size fZ;have dW:=Nat.le_trans z.size fZ;have dX:=Nat.le_trans p.size fZ;have G:=G.below o;have aE:=aE.below o;have y:=y.below o;have C:=btr C o;have z:=btr z o;have p:=btr p o;refine Y3 2 4 6 ?_ ?_ ?_
     ·refine Yk rfl trivial (Vc (X6b _ e.A e.c e.w y.top (by omega)) X2o) (fun _ _ ⟨lC,lD,_,dE,o⟩=>o) ?_;rintro _ rX ⟨lC,lD,rfl,dE,o⟩;have g4:=dE.awayNew G.lt;have dE:=dE.lower p.size;have bZ:=bZ.below o;have C:=btr C o;have z:=btr z o;have p:=btr p o;exact fun a J=>iW _ a _ rfl ⟨b167,lC,lD,J.sb,dU,bZ,c6,dX,dW,dE,g4,p⟩
     ·refine Yk rfl trivial (Xf (k:=1) (vs:=[.agg #[vi g.k,vi g.a,vi g.b]]) (zs:=[vi g.k,vi g.a,vi g.b]) rfl X0s X0t rfl rfl) (fun _ _ ⟨_,_,_,h,_⟩=>h) ?_;rintro _ rY ⟨b169,rfl,dY,o,mS⟩
      have g5:aZ≠b169:=by have:=G.lt;omega
      have kN:=Nat.le_trans C.size dY;have kO:=Nat.le_trans z.size dY;have kP:=Nat.le_trans p.size dY;have g6:=y.away dY;have bZ:=bZ.below o;have C:=btr C o;have z:=btr z o;have p:=btr p o;exact fun a J=>iY _ a _ rfl ⟨b169,b167,J.sb,kN,mS,g5,dU,bZ,c6,kP,kO,dX,dW,g6,p⟩
     refine Yz rfl trivial (Uev (X03 (l:=[vi ((valW n (e.w++[g])).rows),vi ((valW n (e.w++[g])).cols),.slice aN ((valW n (e.w++[g])).cells).length aO]) rfl X04 (aE.at 0) rfl)) ?_;exact fun a J=>iZ _ a _ rfl ⟨b167,J.sb,dU,bZ,c6,dX,dW,p⟩
    rintro a rZ ⟨bQ,aS,aW,J,eJ,bH,dK,b4,cW,o⟩;have iF:=aF.away cW;have n8:=U.away cW;have M:=M.below o;have q:=q.below o;have I:=I.below o;have H:=H.below o;have aF:=aF.below o;have U:=U.below o;have N:=N.below o;have y:=y.below o;have aD:=aD.below o;have aB:=aB.below o;have b2:=b2.below o;have aJ:=aJ.below o;have aI:=aI.below o;have Q:=Q.below o;have C:=btr C o;refine oO _ _<|Zs J fun _ mT=>?_;refine Ze (Vd rfl X8o 0)<|Ze (X0 rfl X73 (I.at 0))<|Zm rfl<|Ze (Vd rfl X88 0)<|Ze (X0 rfl X6i (bH.at 0)) ?_;refine Zo (Xra (f:=sgF Fk) (s:=keyM (valW n (e.w++[g]))) rfl rfl rfl Tryz.underlying71 Tryz.underlying9 q (Xgx (by simpa using gG))) ?_;rintro _ s8 ⟨ho,cQ⟩;have iG:=DeepM.upd (s:=keyM (valW n (e.w++[g]))) (x:=(⟨aS,aW,e.w++([g])⟩ : Sq)) Q.top b4.rd.top
    clear Q;have Q:=iG;clear iG;have bD:=q.nc;have M:=M.onlyN ho bD;have I:=I.onlyN ho bD;have H:=H.onlyN ho bD;have bH:=bH.onlyN ho bD;have aF:=aF.onlyN ho bD;have U:=U.onlyN ho bD;have N:=N.onlyN ho bD;have y:=y.onlyN ho bD;have aD:=aD.onlyN ho bD;have aB:=aB.onlyN ho bD;have b2:=b2.onlyN ho bD;have b4:=b4.onlyN ho bD;have aJ:=aJ.onlyN ho bD;have aI:=aI.onlyN ho bD;have Q:=Q.onlyN ho bD;have C:=Below.only C ho eI
    rw [show Value.slice aS (e.w++([g])).length aW=Sq.v (⟨aS,aW,e.w++([g])⟩ : Sq) from rfl,Xd9] at cQ
    have q:=cQ;clear cQ ho bD;refine Zt mT fun a J=>?_;refine Zr J<|Zm rfl<|Ze (Vn Xdd bH)<|Zf (Xf (k:=1) (vs:=[.agg #[.slice aS (e.w++([g])).length aW,vi ((valW n (e.w++[g])).rows),vi ((valW n (e.w++[g])).cols),.slice aN ((valW n (e.w++[g])).cells).length aO]]) (zs:=[.slice aS (e.w++([g])).length aW,vi ((valW n (e.w++[g])).rows),vi ((valW n (e.w++[g])).cols),.slice aN ((valW n (e.w++[g])).cells).length aO]) rfl X3c X5i rfl rfl) ?_;rintro _ s9 ⟨b172,rfl,g7,o,g8⟩
    have mU:aM≠b172:=by have:=H.lt;omega
    have mW:bQ≠b172:=by have:=bH.lt;omega
    have oW:=Nat.le_trans C.size g7;have g9:=aF.away g7;have mX:=U.away g7;have M:=M.below o;have q:=q.below o;have I:=I.below o;have H:=H.below o;have bH:=bH.below o;have aF:=aF.below o;have U:=U.below o;have N:=N.below o;have y:=y.below o;have aD:=aD.below o;have aB:=aB.below o;have b2:=b2.below o;have b4:=b4.below o;have aJ:=aJ.below o;have aI:=aI.below o;have Q:=Q.below o;have C:=btr C o;refine Zf (X1e (enc:=encTw) (l:=(N3)) (l2:=([(⟨aS,aW,e.w++([g]),(valW n (e.w++[g])),aN,aO⟩ : Tw)])) (B0:=w0.heap.size) rfl rfl X3c X5i X5y Xfi aF (Rd.of_blk g8 rfl _ g8.lt) (by simp only [maxLen];simp;omega) (by simp;omega) C.size) ?_;rintro _ sA ⟨oT,oU,rfl,mY,hg,b6⟩
    have aA:Own _ w0.heap.size 111 4 encTw _ _ (N3):=aF
    have gA:=b6 _ H.lt cF;have n0:=b6 _ bH.lt iF;have lE:=b6 _ g8.lt g9;have gB:=Apart.app U bO b6;clear b6;have e8:=DeepT.snoc (l:=N3) (x:=(⟨aS,aW,e.w++([g]),(valW n (e.w++[g])),aN,aO⟩ : Tw)) aJ.top b4.rd.top b2.rd.top;have M:=M.appT aA hg rfl;have q:=q.app aA hg;have I:=I.appT aA hg rfl;have H:=H.appA hg cF;have U:=U.appP hg bO;have N:=N.appT aA hg rfl;have y:=y.appT aA hg rfl;have aD:=aD.appT aA hg rfl;have aB:=aB.appT aA hg rfl;have aI:=aI.appT aA hg rfl rfl;have e8:=e8.appT aA hg rfl rfl;have Q:=Q.appT aA hg rfl;have C:=Below.app C aA hg (Nat.le_refl _) C.size;clear aA hg;refine Za rfl ?_;refine Zn fun a J=>?_;refine X06<|kT _ _<|Zr J<|Ze (X0b rfl rfl (by omega) (by omega))<|Zm rfl ?_;refine Zn fun a J=>?_;refine X07 ?_;exact ⟨(j+1,N3++([(⟨aS,aW,e.w++([g]),(valW n (e.w++[g])),aN,aO⟩ : Tw)]),(updG Fk (keyM (valW n (e.w++[g]))) (⟨aS,aW,e.w++([g])⟩ : Sq))),⟨oT,oU,J.sb,(by omega),(Xoy hS hL dH gF o5 gG rfl rfl),(Xjz lO rfl),M,q,I,H,mY,U,N,y.top,aD.top,aB.top,e8.top,aI.top,Q.top,gA,gB,C⟩,(by first|omega|(dsimp only;omega))⟩
   have lP:=cT;have cT:=of_decide_eq_false cT
   have pO:j=(gsT n).length:=by omega
   refine wp_exit<|Xx<|Xx<|X0e ?_;refine X06<|nY _ _<|Zr J<|Ze (X0b rfl rfl (by omega) (by omega))<|Zm rfl ?_;refine Zn fun a J=>?_;refine X07 ?_;exact ⟨(i+1,N3,Fk),⟨bC,bF,J.sb,(by omega),(Xm6 (by rw [← pO];exact hS) (by rw [← Xc9 hL];omega)),lO,M,q,I,aF,U,N,aJ.top,aI.top,Q.top,bO,C⟩,(by first|omega|(dsimp only;omega))⟩
  have lL:=cS;have cS:=of_decide_eq_false cS
  have pP:i=L.length:=by omega
  have oV:StW n r (tbW n r).2.length 0 Fj N2:=by rw [← Xc9 hL,← pP];exact nU
  refine wp_exit<|Xx<|Xx<|X0e ?_;refine nS _ _<|Zs J fun _ n3=>?_;refine Zm rfl<|Za rfl<|Zt n3 fun a J=>?_;refine Zr J<|Ze (Vd rfl X8w 1)<|Ze (X0 rfl Xqf (I.at 1))<|Zm rfl<|Ze (X1r rfl X3c)<|Zf (Xf (k:=1) (vs:=[vi (N2.length:Int)]) (zs:=[vi (N2.length:Int)]) rfl X1g X4i rfl rfl) ?_;rintro _ sB ⟨pT,rfl,j1,o,gC⟩;have oX:=Nat.le_trans C.size j1;have gD:=N.away j1;have M:=M.below o;have q:=q.below o;have I:=I.below o;have b9:=b9.below o;have N:=N.below o;have bE:=bE.below o;have Q:=Q.below o;have C:=btr C o;refine Zf (X1e (enc:=encI) (l:=(zs)) (l2:=([(N2.length:Int)])) (B0:=w0.heap.size) rfl rfl X1g X4i X22 Xid N (Rd.of_blk gC rfl _ gC.lt) (by simp only [maxLen];simp;omega) (by simp;omega) C.size) ?_;rintro _ sC ⟨j2,j3,rfl,gE,hg,b6⟩
  have aA:Own _ w0.heap.size 3 1 encI _ _ (zs):=N
  have lF:=b6 _ gC.lt gD;clear b6;have M:=M.appT aA hg rfl;have q:=q.app aA hg;have I:=I.appT aA hg rfl;have b9:=b9.appT aA hg rfl;have bE:=bE.appT aA hg rfl rfl;have Q:=Q.appT aA hg rfl;have C:=Below.app C aA hg (Nat.le_refl _) C.size;clear aA hg;refine Ze (Vd rfl X8w 1)<|Zo (Vu (vs:=[.slice j2 (zs++([(N2.length:Int)])).length j3]) (l':=[.map (some c7),.slice j2 (zs++([(N2.length:Int)])).length j3]) rfl rfl Xq1 I) ?_;rintro _ sD ⟨ho,hb⟩;have E:=I;have M:=M.only ho (by omega);have q:=q.only ho (q.ne E);have b9:=b9.onlyT ho E rfl;have gE:=gE.onlyT ho E rfl;have bE:=bE.onlyT ho E rfl rfl;have Q:=Q.onlyT ho E rfl;have C:=Below.only C ho iH;have I:=hb;refine Zn fun a J=>?_;refine X06<|nP _ _<|Zr J<|Ze (X0b rfl rfl (by omega) (by omega))<|Zm rfl ?_;refine Zn fun a J=>?_;refine X07 ?_;exact ⟨(r+1,N2,Fj,zs++([(N2.length:Int)])),⟨hY,iI,j2,j3,J.sb,(by omega),(Xat oV).2,(Xat oV).1,kS,(by simp;omega),M,q,I,b9,gE,bE.top,Q.top,C⟩,(by first|omega|(dsimp only;omega))⟩
 have lJ:=cR;have cR:=of_decide_eq_false cR;refine wp_exit<|Xx<|Xx<|X0e ?_;refine nL _ _<|Zs J fun _ n4=>?_;refine Ze (Vn Xdi I)<|Zo (Vw [.map (some c7),.slice dF zs.length dG] Xdf M) ?_;rintro _ sE ⟨ho,hb⟩;have E:=M;have q:=q.only ho (q.ne E);have N:=N.onlyT ho E rfl;have Q:=Q.onlyT ho E rfl;have C:=Below.only C ho nB;have M:=hb;refine Zt n4 fun a J=>?_
 refine wp_ret (X2 J (Xt J rfl (ResV.cellN (l:=[.map (some c7),.slice dF zs.length dG]) rfl Xdi (M.at 0) rfl)) ?_)
 obtain rfl:r=k:=by omega
 exact ⟨c7,Fg,dF,dG,zs,rfl,q,Q.top,hF,N,eI,C⟩
def cWd(m:Mx) : Option Cx:=(shS m).map fun w=>⟨(nW m:Int),w⟩
theorem X2y{m:Mx}(h:shS m=none) : cWd m=none:=by unfold cWd;rw [h];rfl
theorem X53{m:Mx}{w:List Gt}(h:shS m=some w) : cWd m=some ⟨(nW m:Int),w⟩∧cIf ⟨(nW m:Int),w⟩=some ⟨(nW m:Int),w⟩∧w.length≤8:=by
 refine ⟨by unfold cWd;rw [h];rfl,?_,?_⟩
 ·rw [cIf,if_pos (Xr3 h)]
 ·unfold shS at h
  split at h
  ·obtain ⟨j,hj,hw,_⟩:=Xae h
   have:=Xac _ _ _ hw
   have:=X51 (nW m);omega
  ·cases h
def shC(m:Mx) : Bool:=canY m&&(decide (m.rows=m.cols)&&(decide (m.rows=2)||decide (m.rows=4)))
theorem Xn2{m:Mx}(h:shC m=false) : shS m=none:=by
 rw [← Xmy];unfold shI
 rw [if_neg]
 unfold shC canY at h
 unfold sqW
 revert h
 cases mOk m<;>cases (canL m.cells).isSome<;>simp
theorem Xk5{m:Mx}(h:shC m=true) : mOk m=true∧(m.rows=2∨m.rows=4)∧shS m=(tbW (nW m) (mstW (nW m))).1 (keyM m):=by
 unfold shC canY at h
 simp only [Bool.and_eq_true,Bool.or_eq_true,decide_eq_true_eq] at h
 obtain ⟨⟨h1,h2⟩,h3,h4⟩:=h
 refine ⟨h1,h4,?_⟩
 rw [← Xmy,Xdm h1];unfold shI
 rw [if_pos]
 simp only [sqW,h1,h2,h3,decide_true,Bool.true_and,Bool.and_true,Bool.or_eq_true,decide_eq_true_eq]
 rw [← h3];exact h4
theorem Xiu(m:Mx) : ((!canY m||m.rows != m.cols)||(m.rows != 2&&m.rows != 4)) = !shC m:=by
 unfold shC
 cases canY m<;>by_cases h1:m.rows=m.cols<;>by_cases h2:m.rows=2<;>by_cases h3:m.rows=4<;>simp [h1,h2,h3]<;>simp_all
theorem Xib(m:Mx) : ((!mOk m||m.rows != m.cols)||(m.rows != 2&&m.rows != 4)) = !sqW m:=by
 unfold sqW
 cases mOk m<;>by_cases h1:m.rows=m.cols<;>by_cases h2:m.rows=2<;>by_cases h3:m.rows=4<;>simp [h1,h2,h3]<;>simp_all
theorem Xpr{m:Mx}(h:sqW m=false) : cWd m=none:=X2y (by unfold shS;rw [h];rfl)
theorem Xrt{m:Mx}(h:m.rows=4) : nW m=2∧mstW (nW m)=4:=by unfold nW;rw [if_pos h];exact ⟨rfl,rfl⟩
theorem Xr9{m:Mx}(h:¬ m.rows=4) : nW m=1∧mstW (nW m)=8:=by unfold nW;rw [if_neg h];exact ⟨rfl,rfl⟩
theorem Xbt{o:Option (List Gt)}(h:o.isSome=true) : o=some (o.getD []):=by
 cases o with
 | none=>cases h
 | some x=>rfl
theorem Xd8(n:Nat)(m x:Mx) : fdS n m 0 x=if phaseS x m=true then some [] else none:=rfl
def NoF(n:Nat)(m x:Mx)(k i:Nat) : Prop:=((gsT n).take i).findSome? (fun g=>(fdS n m k (timesS false (gateS n g) x).2).map (g :: ·))=none
theorem Xhv(n:Nat)(m x:Mx)(k:Nat) : NoF n m x k 0:=rfl
theorem Xh1{n:Nat}{m x:Mx}{k i:Nat}{u:Gt}(h:NoF n m x k i)(hu:(gsT n)[i]? = some u)(hn:(fdS n m k (timesS false (gateS n u) x).2).isSome=false) : NoF n m x k (i+1):=by
 unfold NoF at *
 rw [List.take_add_one,hu,List.findSome?_append,h]
 cases e:fdS n m k (timesS false (gateS n u) x).2 with
 | none=>simp [e]
 | some y=>rw [e] at hn;cases hn
theorem Xjw{n:Nat}{m x:Mx}{k i:Nat}(h:NoF n m x k i)(hi:(gsT n).length≤i) : fdS n m (k+1) x=none:=by
 unfold NoF at h
 rw [List.take_of_length_le hi] at h
 exact h
theorem Xio{n:Nat}{m x:Mx}{k i:Nat}{u:Gt}(h:NoF n m x k i)(hu:(gsT n)[i]? = some u)(hn:(fdS n m k (timesS false (gateS n u) x).2).isSome=true) : fdS n m (k+1) x=some (u::(fdS n m k (timesS false (gateS n u) x).2).getD []):=by
 unfold NoF at h
 obtain ⟨h1,h2⟩:=List.getElem?_eq_some_iff.1 hu
 have e:gsT n=(gsT n).take i++u::(gsT n).drop (i+1):=by
  rw [← h2,← List.drop_eq_getElem_cons h1,List.take_append_drop]
 have hd:fdS n m (k+1) x=(gsT n).findSome? fun g=>(fdS n m k (timesS false (gateS n g) x).2).map (g :: ·):=rfl
 rw [hd,e,List.findSome?_append,h,List.findSome?_cons]
 cases e2:fdS n m k (timesS false (gateS n u) x).2 with
 | none=>rw [e2] at hn;cases hn
 | some y=>rfl
theorem Xhw{n:Nat}{m:Mx} : ∀ {k:Nat} {x:Mx} {w:List Gt},fdS n m k x=some w→w.length=k
 | 0,x,w,h=>by
  rw [Xd8] at h
  split at h
  ·injection h with h;subst h;rfl
  ·cases h
 | k+1,x,w,h=>by
  have hd:fdS n m (k+1) x=(gsT n).findSome? fun g=>(fdS n m k (timesS false (gateS n g) x).2).map (g :: ·):=rfl
  rw [hd] at h
  obtain ⟨g,hg,h2⟩:=List.exists_of_findSome?_eq_some h;obtain ⟨y,hy,rfl⟩:=Option.map_eq_some_iff.1 h2
  rw [List.length_cons,Xhw hy]
theorem X8k{n:Nat}{m:Mx}{k:Nat}{x:Mx} : ((fdS n m k x).getD []).length≤k:=by
 cases e:fdS n m k x with
 | none=>simp
 | some w=>simp [Xhw e]
theorem Xly{n j k i:Nat}(hn:n=1∨n=2)(hjk:j+(k+1)≤8){w:List Gt}{x:Mx}{u:Gt}(hw:w ∈ wds (gsT n) j)(hx:x=valW n w)(hu:(gsT n)[i]? = some u) :
  gOk (n:Int) u=true∧mOk (gateS n u)=true∧mOk x=true∧(gateS n u).cols=x.rows∧timesS false (gateS n u) x=(false,valW n (w++[u]))∧w++[u] ∈ wds (gsT n) (j+1)∧(valW n (w++[u])).cells.length=2^n*2^n:=by
 have hm:=List.mem_of_getElem? hu;have hg:=X64 hn u hm;obtain ⟨g1,g2⟩:=X2p hg.1
 obtain ⟨h1,h2,h3,_⟩:=X1j hn (by omega:j≤8) hw
 have hs:=X2c hw hm
 refine ⟨hg.1,g2,by rw [hx];exact h1,?_,by rw [hx];exact X99 hn (by omega) hw hm,hs,X3x hn (by omega) hs⟩
 rw [hx,h2];rfl
theorem Xea{n:Nat}{m:Mx}{k:Nat}(h:∀ j,j<k→fdS n m j (unitS (2^n))=none){l:List Gt}(hl:fdS n m k (unitS (2^n))=some l) : ∀ K,k≤K→srS n m K=some l
 | 0,hK=>by
  obtain rfl:k=0:=by omega
  exact hl
 | K+1,hK=>by
  unfold srS
  by_cases e:k=K+1
  ·subst e
   have:∀ j,j<K+1→srS n m j=none:=by
    intro j
    induction j with
    | zero=>intro hj;exact h 0 (by omega)
    | succ j ih=>intro hj;unfold srS;rw [ih (by omega),h (j+1) hj];rfl
   rw [this K (by omega),hl];rfl
  ·rw [Xea h hl K (by omega)];rfl
theorem Xil{n:Nat}{m:Mx} : ∀ K,(∀ j,j≤K→fdS n m j (unitS (2^n))=none)→srS n m K=none
 | 0,h=>h 0 (by omega)
 | K+1,h=>by unfold srS;rw [Xil K fun j hj=>h j (by omega),h (K+1) (by omega)];rfl
theorem Xi7{m:Mx}(h:sqW m=true) : shS m=srS (nW m) m (mstW (nW m)):=by
 unfold shS;rw [if_pos h,Xi0 (Xbl m) m _ (X51 _)]
theorem fd0(n:Nat)(m x:Mx) : (fdS n m 0 x).getD []=[]∧(fdS n m 0 x).isSome=phaseS x m:=by
 rw [Xd8]
 cases phaseS x m<;>exact ⟨rfl,rfl⟩
theorem X91{m:Mx}{n j:Nat}(h:sqW m=true)(hn:nW m=n)(hj:j≤mstW (nW m))(h0:∀ i,i<j→fdS n m i (unitS (2^n))=none)(hs:(fdS n m j (unitS (2^n))).isSome=true) : cWd m=some ⟨(n:Int),(fdS n m j (unitS (2^n))).getD []⟩:=by
 subst hn
 have e:=Xi7 h
 rw [Xea h0 (Xbt hs) _ hj] at e
 exact (X53 e).1
theorem Xdg{m:Mx}{n j:Nat}(h:sqW m=true)(hn:nW m=n)(hj:mstW (nW m)<j)(h0:∀ i,i<j→fdS n m i (unitS (2^n))=none) : cWd m=none:=by
 subst hn
 have e:=Xi7 h
 rw [Xil _ fun i hi=>h0 i (by omega)] at e
 exact X2y e
theorem X86{n j:Nat}{m x:Mx}(h:∀ i,i<j→fdS n m i x=none)(hs:(fdS n m j x).isSome=false) : ∀ i,i<j+1→fdS n m i x=none:=fun i hi=>by
 by_cases e:i=j
 ·subst e;cases e2:fdS n m i x with
  | none=>rfl
  | some y=>rw [e2] at hs;cases hs
 ·exact h i (by omega)
theorem Xmu(w0:World)(m:Mx)(Am:Option Addr)(cm:Nat)(aU:Rd w0 w0.heap.size 95 encD Am m.cells)(bL:m.cells.length≤2305843009213693951)(C:PowT w0) : Ret Tryz.prog 10 [.agg #[vi m.rows,vi m.cols,.slice Am m.cells.length cm]] w0 (fun v w=>∃ A c1,v=.tuple #[.agg #[vi ((cWd m).getD cZ).n,.slice A ((cWd m).getD cZ).gs.length c1],.bool (cWd m).isSome]∧Own w w0.heap.size 115 3 encG A c1 ((cWd m).getD cZ).gs∧Below w0.heap.size w0 w):=by
 refine enter Tryz.func10 rfl 55 rfl rfl ?_;intro a d
 have i:=bz w0
 refine Zs d fun _ bM=>?_;refine Zf (X0c (zs:=[vi m.rows,vi m.cols,.slice Am m.cells.length cm]) rfl rfl) ?_;rintro _ w1 ⟨b3,rfl,bN,o,k⟩;have cB:=Nat.le_trans i.size bN;have i:=btr i o;refine Zf (Xc (zs:=[vi 0,.slice none 0 0]) Xbr rfl) ?_;rintro _ w2 ⟨b5,rfl,bO,o,c⟩;have q:=Nat.le_trans i.size bO;have k:=k.below o;have i:=btr i o;refine Za rfl<|Zx bM fun a d _ bP=>?_;refine Ze (Vn X04 k)<|Zf (Vc (Xhq _ m Am cm (aU.below' i).top bL (C.of i)) X9o) ?_;rintro _ w3 ⟨rfl,o⟩;have k:=k.below o;have c:=c.below o;have i:=btr i o;refine Zm rfl<|Ze (X6 (vs:=[.string (keyM m),.bool (canY m)]) rfl rfl)<|Ze (X6 (vs:=[.string (keyM m),.bool (canY m)]) rfl rfl)<|Za rfl<|Za rfl ?_;refine ZX bP fun a d _ bQ=>?_;refine wp_seq_k fun _ bR=>?_;refine X0o (fun a w=>Fr a 55 [(1,.pointer (some ⟨b3,0,none⟩)),(2,.pointer (some ⟨b5,0,none⟩)),(4,.string (keyM m)),(33,.bool (((!(canY m))||(m.rows != m.cols))||((m.rows != 2)&&(m.rows != 4))))]∧w3=w) ?_ ?_
 ·refine Zr d<|Zm rfl<|Ze (X0z rfl)<|Zm rfl ?_
  refine Zg 17 rfl (fun e=>?_) (fun e=>?_)
  ·refine Zp (gP e) ?_;refine Zp (gP e) ?_;refine Zp (gP e) ?_;refine Zp (gP e) ?_;refine Zp (gP e) ?_;refine Ze (Xw rfl e rfl)<|Zm rfl<|Zp (gP rfl) ?_;refine Zp (gP rfl) ?_;refine Zp (gP rfl) ?_;refine Zp (gP rfl) ?_;refine Zp (gP trivial) ?_;refine Zp (gP trivial) ?_;refine Zp (gP trivial) ?_;refine Zp (gP rfl) ?_;refine Ze (Xw rfl rfl rfl) ?_;refine Zn fun a d=>?_;exact ⟨d.sub ⟨rfl,rfl,rfl,X1 rfl (by first|rfl|(simp only [e,bs];done)|simp [e]),trivial⟩,rfl⟩
  refine Zv (gW e) (Vd rfl X0q 0) ?_;refine Zv (gW e) (X0 rfl X4 (k.at 0)) ?_;refine Zv (gW e) (Vd rfl X0v 1) ?_;refine Zv (gW e) (X0 rfl X4 (k.at 1)) ?_;refine Zv (gW e) (X1h rfl rfl) ?_;refine Ze (Xr rfl e rfl)<|Zm rfl ?_
  refine Zg 24 rfl (fun b=>?_) (fun b=>?_)
  ·refine Zp (gP b) ?_;refine Zp (gP b) ?_;refine Zp (gP b) ?_;refine Zp (gP b) ?_;refine Zp (gP trivial) ?_;refine Zp (gP trivial) ?_;refine Zp (gP trivial) ?_;refine Zp (gP b) ?_;refine Ze (Xw rfl b rfl) ?_;refine Zn fun a d=>?_;exact ⟨d.sub ⟨rfl,rfl,rfl,X1 rfl (by first|rfl|(simp only [e,b,bs];done)|simp [e,b]),trivial⟩,rfl⟩
  refine Zv (gW b) (Vd rfl X0q 0) ?_;refine Zv (gW b) (X0 rfl X4 (k.at 0)) ?_;refine Zv (gW b) (X1h rfl rfl) ?_;refine Zv (gW b) (Xo rfl) ?_
  refine Zg 28 rfl (fun g=>?_) (fun g=>?_)
  ·refine Zv (gW g) (Vd rfl X0q 0) ?_;refine Zv (gW g) (X0 rfl X4 (k.at 0)) ?_;refine Zv (gW g) (X1h rfl rfl) ?_;refine Zv (gW b) (Xw rfl g rfl) ?_;refine Ze (Xr rfl b rfl) ?_;refine Zn fun a d=>?_;exact ⟨d.sub ⟨rfl,rfl,rfl,X1 rfl (by first|rfl|(simp only [e,b,g,bs];done)|simp [e,b,g]),trivial⟩,rfl⟩
  refine Zp (gP g) ?_;refine Zp (gP g) ?_;refine Zp (gP g) ?_;refine Zv (gW b) (Xr rfl g rfl) ?_;refine Ze (Xr rfl b rfl) ?_;refine Zn fun a d=>?_;exact ⟨d.sub ⟨rfl,rfl,rfl,X1 rfl (by first|rfl|(simp only [e,b,g,bs];done)|simp [e,b,g]),trivial⟩,rfl⟩
 rintro a _ ⟨d,rfl⟩;refine bR _ _ ?_
 refine Xs d rfl (fun t=>?_) (fun t=>?_)
 ·have aK:=t
  have aL:shC m=false:=by have M:=t;rw [Xiu] at M;simpa using M
  have j:cWd m=none:=X2y (Xn2 aL)
  refine Zs d fun _ aW=>?_;refine Ze (Xl (ps:=[]) (cs:=[vi 0,.slice none 0 0]) rfl (fun _=>by first|rfl|kernel_rfl))<|Zo (Vw [vi 0,.slice none 0 0] X2d c) ?_;rintro _ w4 ⟨D,N⟩;have p:=c;have i:=Below.only i D q;have c:=N;refine Za rfl<|Zt aW fun a d=>?_;refine wp_ret<|X5<|X2 d (X0x d rfl (ResV.cellN (l:=[vi 0,.slice none 0 0]) rfl X1i (c.at 0) rfl) rfl) ?_
  rw [j]
  exact ⟨none,0,rfl,(Own.nil _ _ _ _ _),i⟩
 have aK:=t
 have aL:shC m=true:=by have M:=t;rw [Xiu] at M;simpa using M
 obtain ⟨cC,cD,B⟩:=Xk5 aL;refine wp_skip<|bQ _ _<|Zs d fun _ aX=>?_;refine Za rfl<|Za rfl<|ZX aX fun a d _ aB=>?_;refine Zs d fun _ aY=>?_;refine Ze (Vd rfl X0q 0)<|Ze (X0 rfl X4 (k.at 0))<|Ze (X10 rfl rfl)<|Zt aY fun a d=>?_
 refine Xs d rfl (fun u=>?_) (fun u=>?_)
 ·have aM:=u
  have aN:m.rows=4:=by simpa using u
  obtain ⟨E,aO⟩:=Xrt aN
  rw [aO,E] at B
  refine Zr d<|Za rfl<|Za rfl<|Zx aB fun a d _ aZ=>?_;refine Zm rfl<|Zm rfl<|Zf (Vc (Xmi _ 2 4 (by omega) (by omega) (C.of i)) Xdu) ?_;rintro _ w5 ⟨bS,b0,bU,bW,b1,rfl,b2,aP,b4,aC,bX,o⟩;have aC:=aC.lower i.size;have c:=c.below o;have i:=btr i o;refine Ze (Xe0 (vs:=[.map (some bS),.slice bU b1.length bW]) rfl ⟨_,_,Tryz.underlying73,rfl,rfl,X73⟩ rfl)<|Zm rfl ?_;obtain ⟨Q,U,aD,aE,aF⟩:=X9i aP (keyM m)
  rw [b4] at aD aE aF
  refine Ze (Xcj (f:=b0) rfl rfl Tryz.underlying71 Tryz.underlying9 Xjh b2 aD aE)<|Zm rfl<|Ze (X6 (vs:=[.slice Q ((((tbW 2 4).1 (keyM m))).getD []).length U,.bool ((((tbW 2 4).1 (keyM m))).isSome)]) rfl rfl)<|Ze (X6 (vs:=[.slice Q ((((tbW 2 4).1 (keyM m))).getD []).length U,.bool ((((tbW 2 4).1 (keyM m))).isSome)]) rfl rfl)<|Za rfl ?_;refine Za rfl<|ZX aZ fun a d _ b6=>?_;refine Zs d fun _ b7=>?_;refine Zm rfl<|Ze (X0z rfl)<|Zt b7 fun a d=>?_
  refine Xs d rfl (fun x=>?_) (fun x=>?_)
  ·have aQ:=x
   have M:((tbW 2 4).1 (keyM m)).isSome=false:=by simpa using x
   have j:cWd m=none:=X2y (by rw [B];simpa using M)
   refine Zs d fun _ b8=>?_;refine Ze (Xl (ps:=[]) (cs:=[vi 0,.slice none 0 0]) rfl (fun _=>by first|rfl|kernel_rfl))<|Zo (Vw [vi 0,.slice none 0 0] X2d c) ?_;rintro _ w6 ⟨D,N⟩;have p:=c;have i:=Below.only i D q;have c:=N;refine Za rfl<|Zt b8 fun a d=>?_;refine wp_ret<|X5<|X2 d (X0x d rfl (ResV.cellN (l:=[vi 0,.slice none 0 0]) rfl X1i (c.at 0) rfl) rfl) ?_
   rw [j]
   exact ⟨none,0,rfl,(Own.nil _ _ _ _ _),i⟩
  have aQ:=x
  have aR:shS m=some (((tbW 2 4).1 (keyM m)).getD []):=by rw [B];exact Xbt (by simpa using x)
  obtain ⟨j,G,bY⟩:=X53 aR
  rw [E,show ((2:Nat) : Int)=2 from rfl] at j G
  refine wp_skip<|b6 _ _<|Zs d fun _ b9=>?_;refine Zm rfl<|Zm rfl<|Zf (X2s (vs:=[vi 2,.slice Q ((((tbW 2 4).1 (keyM m))).getD []).length U]) rfl Xja (by have hq:=Xrr w5 2 Q U ((((tbW 2 4).1 (keyM m))).getD []) aF.top (by omega);rw [G,Option.getD_some,Option.isSome_some] at hq;exact hq)) ?_;rintro _ w7 ⟨H,I,rfl,y,o⟩;have y:=y.lower i.size;have c:=c.below o;have i:=btr i o;refine Ze (X6 (vs:=[.agg #[vi 2,.slice H ((((tbW 2 4).1 (keyM m))).getD []).length I],.bool true]) rfl rfl)<|Ze (X6 (vs:=[.agg #[vi 2,.slice H ((((tbW 2 4).1 (keyM m))).getD []).length I],.bool true]) rfl rfl)<|Zo (Vw [vi 2,.slice H ((((tbW 2 4).1 (keyM m))).getD []).length I] X2d c) ?_;rintro _ w8 ⟨D,N⟩;have p:=c;have y:=y.onlyT D p rfl;have i:=Below.only i D q;have c:=N;refine Za rfl<|Zt b9 fun a d=>?_
  refine wp_ret (X2 d (X0x d rfl (ResV.cellN (l:=[vi 2,.slice H ((((tbW 2 4).1 (keyM m))).getD []).length I]) rfl X1i (c.at 0) rfl) rfl) ?_)
  rw [j]
  exact ⟨H,I,rfl,y,i⟩
 have aM:=u
 have aN:¬ m.rows=4:=by simpa using u
 obtain ⟨E,aO⟩:=Xr9 aN
 rw [aO,E] at B
 refine wp_skip<|aB _ _<|Zs d fun _ bC=>?_;refine Zm rfl<|Zm rfl<|Zf (Vc (Xmi _ 1 8 (by omega) (by omega) (C.of i)) Xdu) ?_;rintro _ w9 ⟨bZ,bD,c6,c7,bE,rfl,bF,aS,bG,aG,cA,o⟩;have aG:=aG.lower i.size;have c:=c.below o;have i:=btr i o;refine Ze (Xe0 (vs:=[.map (some bZ),.slice c6 bE.length c7]) rfl ⟨_,_,Tryz.underlying73,rfl,rfl,X73⟩ rfl)<|Zm rfl ?_;obtain ⟨W,aA,aH,aI,aJ⟩:=X9i aS (keyM m)
 rw [bG] at aH aI aJ
 refine Ze (Xcj (f:=bD) rfl rfl Tryz.underlying71 Tryz.underlying9 Xjh bF aH aI)<|Zm rfl<|Ze (X6 (vs:=[.slice W ((((tbW 1 8).1 (keyM m))).getD []).length aA,.bool ((((tbW 1 8).1 (keyM m))).isSome)]) rfl rfl)<|Ze (X6 (vs:=[.slice W ((((tbW 1 8).1 (keyM m))).getD []).length aA,.bool ((((tbW 1 8).1 (keyM m))).isSome)]) rfl rfl)<|Za rfl ?_;refine Za rfl<|ZX bC fun a d _ bH=>?_;refine Zs d fun _ bI=>?_;refine Zm rfl<|Ze (X0z rfl)<|Zt bI fun a d=>?_
 refine Xs d rfl (fun z=>?_) (fun z=>?_)
 ·have aT:=z
  have M:((tbW 1 8).1 (keyM m)).isSome=false:=by simpa using z
  have j:cWd m=none:=X2y (by rw [B];simpa using M)
  refine Zs d fun _ bJ=>?_;refine Ze (Xl (ps:=[]) (cs:=[vi 0,.slice none 0 0]) rfl (fun _=>by first|rfl|kernel_rfl))<|Zo (Vw [vi 0,.slice none 0 0] X2d c) ?_;rintro _ cE ⟨D,N⟩;have p:=c;have i:=Below.only i D q;have c:=N;refine Za rfl<|Zt bJ fun a d=>?_;refine wp_ret<|X5<|X2 d (X0x d rfl (ResV.cellN (l:=[vi 0,.slice none 0 0]) rfl X1i (c.at 0) rfl) rfl) ?_
  rw [j]
  exact ⟨none,0,rfl,(Own.nil _ _ _ _ _),i⟩
 have aT:=z
 have aR:shS m=some (((tbW 1 8).1 (keyM m)).getD []):=by rw [B];exact Xbt (by simpa using z)
 obtain ⟨j,G,bY⟩:=X53 aR
 rw [E,show ((1:Nat) : Int)=1 from rfl] at j G
 refine wp_skip<|bH _ _<|Zs d fun _ bK=>?_;refine Zm rfl<|Zm rfl<|Zf (X2s (vs:=[vi 1,.slice W ((((tbW 1 8).1 (keyM m))).getD []).length aA]) rfl Xja (by have hq:=Xrr w9 1 W aA ((((tbW 1 8).1 (keyM m))).getD []) aJ.top (by omega);rw [G,Option.getD_some,Option.isSome_some] at hq;exact hq)) ?_;rintro _ cF ⟨J,L,rfl,h,o⟩;have h:=h.lower i.size;have c:=c.below o;have i:=btr i o;refine Ze (X6 (vs:=[.agg #[vi 1,.slice J ((((tbW 1 8).1 (keyM m))).getD []).length L],.bool true]) rfl rfl)<|Ze (X6 (vs:=[.agg #[vi 1,.slice J ((((tbW 1 8).1 (keyM m))).getD []).length L],.bool true]) rfl rfl)<|Zo (Vw [vi 1,.slice J ((((tbW 1 8).1 (keyM m))).getD []).length L] X2d c) ?_;rintro _ cG ⟨D,N⟩;have p:=c;have h:=h.onlyT D p rfl;have i:=Below.only i D q;have c:=N;refine Za rfl<|Zt bK fun a d=>?_
 refine wp_ret (X2 d (X0x d rfl (ResV.cellN (l:=[vi 1,.slice J ((((tbW 1 8).1 (keyM m))).getD []).length L]) rfl X1i (c.at 0) rfl) rfl) ?_)
 rw [j]
 exact ⟨J,L,rfl,h,i⟩
theorem Xnz(z:World)(n:Nat)(x:Mx)(Ax:Option Addr)(cx:Nat)(J:Rd z z.heap.size 95 encD Ax x.cells)(m:Mx)(Am:Option Addr)(cm:Nat)(L:Rd z z.heap.size 95 encD Am m.cells)(k:Nat)(hn:n=1∨n=2)(wd:List Gt)(jj:Nat)(bQ:jj+k≤8)(aF:wd ∈ wds (gsT n) jj)(hx:x=valW n wd)(aA:m.cells.length=2^n*2^n)(IH:∀ (B:Nat),B<k→∀ (z:World) (n:Nat) (x:Mx) (Ax:Option Addr) (cx:Nat) (J:Rd z z.heap.size 95 encD Ax x.cells) (m:Mx) (Am:Option Addr) (cm:Nat) (L:Rd z z.heap.size 95 encD Am m.cells) (hn:n=1∨n=2) (wd:List Gt) (jj:Nat) (bQ:jj+B≤8) (aF:wd ∈ wds (gsT n) jj) (hx:x=valW n wd) (aA:m.cells.length=2^n*2^n),Ret Tryz.prog 61 [vi (n:Int),mV Ax cx x,mV Am cm m,vi (B:Int)] z (fun v w=>∃ A c1,v=.tuple #[.slice A ((fdS n m B x).getD []).length c1,.bool (fdS n m B x).isSome]∧Own w z.heap.size 115 3 encG A c1 ((fdS n m B x).getD [])∧Below z.heap.size z w)) : Ret Tryz.prog 61 [vi (n:Int),.agg #[vi x.rows,vi x.cols,.slice Ax x.cells.length cx],.agg #[vi m.rows,vi m.cols,.slice Am m.cells.length cm],vi (k:Int)] z (fun v w=>∃ A c1,v=.tuple #[.slice A ((fdS n m k x).getD []).length c1,.bool ((fdS n m k x).isSome)]∧Own w z.heap.size 115 3 encG A c1 ((fdS n m k x).getD [])∧Below z.heap.size z w):=by
 have bR:x.cells.length=2^n*2^n:=by rw [hx];exact X3x hn (by omega) aF
 refine enter Tryz.func61 rfl 55 rfl rfl ?_;intro a q
 have p:=bz z
 refine Zs q fun _ bS=>?_;refine Zf (X0c (zs:=[vi x.rows,vi x.cols,.slice Ax x.cells.length cx]) rfl rfl) ?_;rintro _ w1 ⟨b4,rfl,bU,j,g⟩;have cH:=Nat.le_trans p.size bU;have p:=btr p j;refine Zf (X0c (zs:=[vi m.rows,vi m.cols,.slice Am m.cells.length cm]) rfl rfl) ?_;rintro _ w2 ⟨b5,rfl,bW,j,o⟩
 have bP:b4≠b5:=by have:=g.lt;omega
 have cJ:=Nat.le_trans p.size bW;have g:=g.below j;have p:=btr p j;refine Za rfl<|Za rfl<|ZX bS fun a q _ bX=>?_;refine Zs q fun _ bY=>?_;refine Zm rfl<|Ze (X10 rfl rfl)<|Zt bY fun a q=>?_
 refine Xs q rfl (fun M=>?_) (fun M=>?_)
 ·have b0:=M
  have bZ:k=0:=by have h9:(k:Int)=0:=(by simpa using M);omega
  refine Zs q fun _ b1=>?_;refine Ze (Vn X04 g)<|Ze (Vn X04 o)<|Zf (Vc (Xsh _ x Ax cx (J.below' p).top m Am cm (L.below' p).top (by rw [bR,aA]) (by rw [aA];rcases hn with rfl|rfl<;>decide)) Xo4) ?_;rintro _ w3 ⟨ix,rfl,j⟩;have p:=btr p j;refine Zm rfl<|Ze (X6 (vs:=[vi ix,.bool (phaseS x m)]) rfl rfl)<|Ze (X6 (vs:=[vi ix,.bool (phaseS x m)]) rfl rfl)<|Za rfl<|Za rfl ?_;refine Zx b1 fun a q _ b2=>?_;refine Zm rfl<|Za rfl<|Za rfl<|Zt b2 fun a q=>?_;refine wp_ret<|X5<|X2 q (X0x q rfl rfl rfl) ?_
  subst bZ
  obtain ⟨f1,f2⟩:=fd0 n m x
  rw [f1,f2]
  exact ⟨none,0,rfl,(Own.nil _ _ _ _ _),p⟩
 have b0:=M
 obtain ⟨B,b3⟩ : ∃ B,k=B+1:=⟨k-1,by have h9:¬ (k:Int)=0:=(by simpa using M);omega⟩
 refine wp_skip<|bX _ _<|Zs q fun _ b6=>?_;refine Ze (Xl (ps:=[]) (cs:=[.bool false]) rfl (fun _=>by first|rfl|kernel_rfl))<|Zf (X0c (zs:=[.bool false]) rfl rfl) ?_;rintro _ w4 ⟨N,rfl,b7,j,d⟩;have aG:=Nat.le_trans p.size b7;have g:=g.below j;have o:=o.below j;have p:=btr p j;refine Za rfl<|ZX b6 fun a q _ b8=>?_;refine Zs q fun _ b9=>?_;refine Zm rfl<|Zf (X2s (vs:=[vi (n:Int)]) rfl Xl5 (by have hq:=Xq2 w4 (n:Int) (by omega);rw [Int.toNat_natCast] at hq;exact hq)) ?_;rintro _ w5 ⟨bC,bD,rfl,e,j⟩;have e:=e.lower p.size;have g:=g.below j;have o:=o.below j;have d:=d.below j;have p:=btr p j;refine Ze (X1r rfl X0s)<|Zm rfl<|Zt b9 fun a q=>?_;refine wp_block<|X0f (σ:=Nat) (fun (i:Nat) (a:Act) (w:World)=>Fr a 55 [(0,vi (n:Int)),(3,vi (k:Int)),(5,.pointer (some ⟨b4,0,none⟩)),(6,.pointer (some ⟨b5,0,none⟩)),(12,.pointer (some ⟨N,0,none⟩)),(29,.slice bC (gsT n).length bD),(30,vi ((gsT n).length:Int)),(31,vi (i:Int))]∧(i≤(gsT n).length)∧(NoF n m x B i)∧Blk w b4 33 [vi x.rows,vi x.cols,.slice Ax x.cells.length cx]∧Blk w b5 33 [vi m.rows,vi m.cols,.slice Am m.cells.length cm]∧Blk w N 148 [.bool false]∧Own w z.heap.size 115 3 encG bC bD (gsT n)∧Below z.heap.size z w) (fun (i:Nat)=>(gsT n).length-i) 0 ?_ ?_
 ·exact ⟨q.sb,(Nat.zero_le _),(Xhv n m x B),g,o,d,e,p⟩
 rintro i a w6 ⟨q,hi,aH,g,o,d,e,p⟩;refine Zs q fun _ bE=>?_;refine Ze (X15 rfl rfl)<|ZX bE fun a q _ bF=>?_
 refine Xs q rfl (fun C=>?_) (fun C=>?_)
 ·have aI:=C;have C:=of_decide_eq_true C
  obtain ⟨c,E⟩:=X05 (l:=(gsT n)) (k:=i) (by omega)
  obtain ⟨c6,c7,cA,cB,aB,cC,cK⟩:=Xly (k:=B) hn (by omega) aF hx E
  have cL:=X6w n;refine wp_skip<|bF _ _<|wp_seq_k fun _ bG=>?_;refine wp_block<|Zs q fun _ bH=>?_;refine Zi (k:=i) (u:=c) (enc:=encG) (l:=(gsT n)) trivial rfl rfl X0s X26 X0p e.rd E rfl ?_;intro cM aJ;refine Ze (X03 (l:=[vi c.k,vi c.a,vi c.b]) rfl X25 aJ rfl)<|Zf (Xc (zs:=[vi 0,vi 0,vi 0]) Xmr rfl) ?_;rintro _ w7 ⟨cD,rfl,aC,j,f⟩;have aK:=Nat.le_trans p.size aC;have I:=e.away aC;have g:=g.below j;have o:=o.below j;have d:=d.below j;have e:=e.below j;have p:=btr p j;refine Zo (Vw [vi c.k,vi c.a,vi c.b] X26 f) ?_;rintro _ w8 ⟨ho,hb⟩;have t:=f;have g:=g.only ho (Blk.ne g t rfl);have o:=o.only ho (Blk.ne o t rfl);have d:=d.only ho (Blk.ne d t rfl);have e:=e.onlyA ho I;have p:=Below.only p ho aK;have f:=hb;refine ZX bH fun a q _ bI=>?_;refine X0n (some N) (fun _=>false) mixed ?_;intro w9 j;have g:=g.below j;have o:=o.below j;have d:=d.below j;have f:=f.below j;have e:=e.below j;have p:=btr p j;refine Yb q<|Yo 0 rfl (fun _=>Xo rfl)<|Yo 1 rfl (fun _=>Xo rfl)<|Yo 2 rfl (fun _=>Xo rfl) ?_;refine Yw 3 rfl trivial (fun w1 h1=>X03 (l:=[vi c.k,vi c.a,vi c.b]) rfl X25 ((f.only h1 (Blk.ne f d rfl)).at 0) rfl) ?_;refine Yw 5 rfl trivial (fun w1 h1=>X03 (l:=[vi x.rows,vi x.cols,.slice Ax x.cells.length cx]) rfl X04 ((g.only h1 (Blk.ne g d rfl)).at 0) rfl) ?_;refine Yw 7 rfl trivial (fun w1 h1=>X03 (l:=[vi m.rows,vi m.cols,.slice Am m.cells.length cm]) rfl X04 ((o.only h1 (Blk.ne o d rfl)).at 0) rfl) ?_;refine Yo 8 rfl (fun _=>Xo rfl)<|Yo 9 rfl (fun _=>Vx (X1l rfl rfl (by omega) (by omega)) (show _=(B:Int) from (by omega)))<|Y1 4 ?_
  refine Yf rfl trivial (EfW.mono (Vc (Xt3 _ (n:Int) c c6) Xn8) (fun _ _ h=>⟨fun _=>by obtain ⟨aL,aM,rfl,G,j⟩:=h;exact Keep.of_below j,h⟩)) ?_;rintro _ cE ⟨aL,aM,rfl,G,j⟩;have G:=G.lower p.size;have g:=g.below j;have o:=o.below j;have d:=d.below j;have f:=f.below j;have e:=e.below j;have p:=btr p j;refine Y1 6<|Yf rfl trivial (EfW.mono (X2s (vs:=[.pointer (some ⟨N,0,none⟩),.agg #[vi ((gateS (n:Int) c).rows),vi ((gateS (n:Int) c).cols),.slice aL ((gateS (n:Int) c).cells).length aM],.agg #[vi x.rows,vi x.cols,.slice Ax x.cells.length cx]]) rfl Xnn (by have hq:=Xsy cE N false d (gateS (n:Int) c) aL aM G.rd.top x Ax cx (J.below' p).top c7 cA cB;rw [aB] at hq;dsimp only at hq;exact hq)) (fun _ _ h=>⟨fun _=>by obtain ⟨aN,aO,rfl,H,hK,aP⟩:=h;exact hK.keep,h⟩)) ?_;rintro _ cN ⟨aN,aO,rfl,H,hK,aP⟩;have bJ:=p.size;obtain ⟨wm,hO,hm,j⟩:=hK.mid;clear hm;have t:=d;have g:=g.only hO (Blk.ne g t rfl);have o:=o.only hO (Blk.ne o t rfl);have f:=f.only hO (Blk.ne f t rfl);have e:=e.onlyT hO t rfl;have p:=Below.only p hO aG;have g:=g.below j;have o:=o.below j;have f:=f.below j;have e:=e.below j;have p:=btr p j
  clear t j hO hK;have d:=aP;clear aP
  have H:=H.lower bJ;clear bJ;refine Y1 10<|Yf rfl trivial (EfW.mono (X2s (vs:=[vi (n:Int),.agg #[vi ((valW n (wd++[c])).rows),vi ((valW n (wd++[c])).cols),.slice aN ((valW n (wd++[c])).cells).length aO],.agg #[vi m.rows,vi m.cols,.slice Am m.cells.length cm],vi (B:Int)]) rfl X9w (IH B (by omega) _ n (valW n (wd++[c])) aN aO H.rd.top m Am cm (L.below' p).top hn (wd++[c]) (jj+1) (by omega) cC rfl aA)) (fun _ _ h=>⟨fun _=>by obtain ⟨aQ,aR,rfl,y,j⟩:=h;exact Keep.of_below j,h⟩)) ?_;rintro _ cO ⟨aQ,aR,rfl,y,j⟩;have aU:=y.awayNew f.lt;have y:=y.lower p.size;have g:=g.below j;have o:=o.below j;have d:=d.below j;have f:=f.below j;have e:=e.below j;have p:=btr p j;refine Yo 11 rfl (fun _=>Xo rfl)<|Yo 12 rfl (fun _=>X6 (vs:=[.slice aQ ((fdS n m B (valW n (wd++[c]))).getD []).length aR,.bool ((fdS n m B (valW n (wd++[c]))).isSome)]) rfl rfl)<|Yo 13 rfl (fun _=>X6 (vs:=[.slice aQ ((fdS n m B (valW n (wd++[c]))).getD []).length aR,.bool ((fdS n m B (valW n (wd++[c]))).isSome)]) rfl rfl)<|Yo 14 rfl (fun _=>X14 rfl)<|Yo 15 rfl (fun _=>X14 rfl) ?_;refine Yd fun a q=>?_;refine bI _ _<|Zs q fun _ bK=>?_;refine Zm rfl<|Zt bK fun a q=>?_
  refine Xs q rfl (fun D=>?_) (fun D=>?_)
  ·have aS:=D;have aT:=D;refine Zs q fun _ bL=>?_;refine Ze (Vn X25 f)<|Zf (Xf (k:=1) (vs:=[.agg #[vi c.k,vi c.a,vi c.b]]) (zs:=[vi c.k,vi c.a,vi c.b]) rfl X0s X0t rfl rfl) ?_;rintro _ cP ⟨b34,rfl,Q,j,aD⟩
   have aW:cD≠b34:=by have:=f.lt;omega
   have U:=Nat.le_trans p.size Q;have aX:=e.away Q;have aY:=y.away Q;have f:=f.below j;have y:=y.below j;have p:=btr p j;refine Zm rfl<|Zf (X1e (enc:=encG) (l:=([c])) (l2:=(((fdS n m B (valW n (wd++[c]))).getD []))) (B0:=z.heap.size) rfl rfl X0s X0t X0p X23 (Own.of_blkL X0p aD U rfl rfl (Nat.le_of_ble_eq_true rfl)) y.rd (by have:=X8k (n:=n) (m:=m) (k:=B) (x:=valW n (wd++[c]));simp only [maxLen];simp;omega) (by have:=X8k (n:=n) (m:=m) (k:=B) (x:=valW n (wd++[c]));simp;omega) p.size) ?_;rintro _ cQ ⟨cF,cG,rfl,bM,hg,bN⟩
   have aE:Own _ z.heap.size 115 3 encG _ _ ([c]):=(Own.of_blkL X0p aD U rfl rfl (Nat.le_of_ble_eq_true rfl))
   have aZ:=bN _ f.lt (Away.ne (by omega))
   clear bN;have p:=Below.app p aE hg (Nat.le_refl _) p.size;clear aE hg;refine Za rfl<|Za rfl<|Zt bL fun a q=>?_;refine wp_ret<|Xz<|X5<|X5 ?_;refine Xz<|X5<|X2 q (X0x q rfl rfl rfl) ?_
   have W:fdS n m k x=some ([c]++(fdS n m B (valW n (wd++[c]))).getD []):=by rw [b3,Xio aH E (by rw [aB];exact aT),aB];rfl
   rw [W]
   exact ⟨cF,cG,rfl,bM,p⟩
  have aS:=D;have aT:=D;refine wp_skip<|X06<|bG _ _<|Zr q ?_;refine Ze (X0b rfl rfl (by omega) (by omega))<|Zm rfl ?_;refine Zn fun a q=>?_;refine X07 ?_;exact ⟨i+1,⟨q.sb,(by omega),(Xh1 aH E (by rw [aB];simpa using aT)),g,o,d,e,p⟩,(by omega)⟩
 have aI:=C;have C:=of_decide_eq_false C;refine wp_exit<|Xx<|Xx<|X0e ?_;refine b8 _ _<|Zs q fun _ bO=>?_;refine Za rfl<|Za rfl<|Zt bO fun a q=>?_
 refine wp_ret (X2 q (X0x q rfl rfl rfl) ?_)
 have W:fdS n m k x=none:=by rw [b3];exact Xjw aH (by omega)
 rw [W]
 exact ⟨none,0,rfl,(Own.nil _ _ _ _ _),p⟩
theorem Xmp(b:World)(n:Nat)(x:Mx)(Ax:Option Addr)(cx:Nat)(c:Rd b b.heap.size 95 encD Ax x.cells)(m:Mx)(Am:Option Addr)(cm:Nat)(d:Rd b b.heap.size 95 encD Am m.cells)(k:Nat)(hn:n=1∨n=2)(wd:List Gt)(jj:Nat)(aA:jj+k≤8)(aB:wd ∈ wds (gsT n) jj)(hx:x=valW n wd)(aC:m.cells.length=2^n*2^n) : Ret Tryz.prog 61 [vi (n:Int),mV Ax cx x,mV Am cm m,vi (k:Int)] b (fun v w=>∃ A c1,v=.tuple #[.slice A ((fdS n m k x).getD []).length c1,.bool (fdS n m k x).isSome]∧Own w b.heap.size 115 3 encG A c1 ((fdS n m k x).getD [])∧Below b.heap.size b w):=by
 induction k using Nat.strongRecOn generalizing b n x Ax cx m Am cm wd jj with
 | ind k ih=>exact Xnz b n x Ax cx c m Am cm d k hn wd jj aA aB hx aC fun k1 h1 b n x Ax cx c m Am cm d hn wd jj aA aB hx aC=>ih k1 h1 b n x Ax cx c m Am cm d hn wd jj aA aB hx aC
theorem Xq4(J:World)(m:Mx)(Am:Option Addr)(cm:Nat)(W:Rd J J.heap.size 95 encD Am m.cells)(L:sqW m=true) : Ret Tryz.prog 35 [.agg #[vi m.rows,vi m.cols,.slice Am m.cells.length cm]] J (fun v w=>∃ A c1,v=.tuple #[.agg #[vi ((cWd m).getD cZ).n,.slice A ((cWd m).getD cZ).gs.length c1],.bool (cWd m).isSome]∧Own w J.heap.size 115 3 encG A c1 ((cWd m).getD cZ).gs∧Below J.heap.size J w):=by
 obtain ⟨b8,aA,b9⟩:=Xb5 L;have E:=Xbu (Xbl m) b8 aA b9;refine enter Tryz.func35 rfl 32 rfl rfl ?_;intro a c
 have e:=bz J
 refine Zs c fun _ bC=>?_;refine Zf (X0c (zs:=[vi m.rows,vi m.cols,.slice Am m.cells.length cm]) rfl rfl) ?_;rintro _ w1 ⟨b3,rfl,bD,f,d⟩;have bI:=Nat.le_trans e.size bD;have e:=btr e f;refine Zf (Xc (zs:=[vi 0,.slice none 0 0]) Xbr rfl) ?_;rintro _ w2 ⟨b5,rfl,bE,f,b⟩;have G:=Nat.le_trans e.size bE;have d:=d.below f;have e:=btr e f;refine Za rfl<|Zx bC fun a c _ bF=>?_;refine Za rfl<|Za rfl<|ZX bF fun a c _ aG=>?_;refine Zs c fun _ bG=>?_;refine Ze (Vd rfl X0q 0)<|Ze (X0 rfl X4 (d.at 0))<|Ze (X10 rfl rfl)<|Zt bG fun a c=>?_
 refine Xs c rfl (fun M=>?_) (fun M=>?_)
 ·have aH:=M
  have Q:m.rows=4:=by simpa using M
  obtain ⟨C,N⟩:=Xrt Q
  rw [C] at E
  refine Zs c fun _ aI=>?_;refine Za rfl<|Zt aI fun a c=>?_;refine Zr c<|Za rfl<|ZX aG fun a c _ aJ=>?_;refine Zs c fun _ aK=>?_;refine Za rfl<|Zt aK fun a c=>?_;refine wp_block<|X0f (σ:=Nat) (fun (j:Nat) (a:Act) (w:World)=>Fr a 32 [(1,.pointer (some ⟨b3,0,none⟩)),(2,.pointer (some ⟨b5,0,none⟩)),(4,vi 2),(5,vi 4),(6,vi (j:Int))]∧(j≤5)∧(∀ i,i<j→fdS 2 m i (unitS 4)=none)∧Blk w b3 33 [vi m.rows,vi m.cols,.slice Am m.cells.length cm]∧Blk w b5 28 [vi 0,.slice none 0 0]∧Below J.heap.size J w) (fun (j:Nat)=>5-j) 0 ?_ ?_
  ·exact ⟨c.sb,(by omega),(fun i hi=>absurd hi (by omega)),d,b,e⟩
  rintro j a w3 ⟨c,hj,D,d,b,e⟩;refine wp_seq_k fun _ aL=>?_;refine Zs c fun _ aM=>?_;refine Zm rfl<|Zm rfl<|Ze (Xfr rfl rfl)<|Zt aM fun a c=>?_
  refine Xs c rfl (fun g=>?_) (fun g=>?_)
  ·have aB:=g;have g:=of_decide_eq_true g;refine wp_skip<|aL _ _<|wp_seq_k fun _ aN=>?_;refine wp_block<|wp_seq_k fun _ aO=>?_;refine X0n none (fun _=>false) mixed ?_;intro w4 f;have d:=d.below f;have b:=b.below f;have e:=btr e f;refine Yb c<|Yo 0 rfl (fun _=>Xo rfl)<|Yo 1 rfl (fun _=>Vd rfl X0q 0)<|Ye 2 rfl (Vx (X0 rfl X4 (d.at 0)) Q)<|Ye 4 rfl (Vn X04 d)<|Yo 5 rfl (fun _=>Xo rfl) ?_;refine Y1 3<|Yk rfl trivial (Vc (Xqg _ 4 (by decide)) Xj1) (fun _ _ ⟨aP,aQ,_,H,f⟩=>f) ?_;rintro _ w5 ⟨aP,aQ,rfl,H,f⟩;have H:=H.lower e.size;have d:=d.below f;have b:=b.below f;have e:=btr e f;refine Y1 6<|Yk rfl trivial (Vc (Xmp _ 2 (unitS 4) aP aQ H.rd.top m Am cm (W.below' e).top j (by omega) [] 0 (by omega) (List.mem_singleton.2 rfl) (X5l 2 (by omega)).symm E) X9w) (fun _ _ ⟨t,u,_,p,f⟩=>f) ?_;rintro _ w6 ⟨t,u,rfl,p,f⟩;have p:=p.lower e.size;have d:=d.below f;have b:=b.below f;have e:=btr e f;refine Yo 7 rfl (fun _=>Xo rfl)<|Yo 8 rfl (fun _=>X6 (vs:=[.slice t ((fdS 2 m j (unitS 4)).getD []).length u,.bool ((fdS 2 m j (unitS 4)).isSome)]) rfl rfl)<|Yo 9 rfl (fun _=>X6 (vs:=[.slice t ((fdS 2 m j (unitS 4)).getD []).length u,.bool ((fdS 2 m j (unitS 4)).isSome)]) rfl rfl)<|Yo 10 rfl (fun _=>X14 rfl)<|Yo 11 rfl (fun _=>X14 rfl) ?_;refine Yd fun a c=>?_;refine aO _ _<|Zs c fun _ aR=>?_;refine Zm rfl<|Zt aR fun a c=>?_
   refine Xs c rfl (fun x=>?_) (fun x=>?_)
   ·have aC:=x
    have k:=X91 L C (by rw [N];omega) D x
    refine Zs c fun _ aS=>?_;refine Zm rfl<|Zm rfl<|Ze (Xl (ps:=[(0,vi 2),(1,.slice t ((fdS 2 m j (unitS 4)).getD []).length u)]) (cs:=[vi 2,.slice t ((fdS 2 m j (unitS 4)).getD []).length u]) rfl (fun _=>by first|rfl|kernel_rfl))<|Zo (Vw [vi 2,.slice t ((fdS 2 m j (unitS 4)).getD []).length u] X2d b) ?_;rintro _ w7 ⟨U,hb⟩;have y:=b;have p:=p.onlyT U y rfl;have e:=Below.only e U G;have b:=hb;refine Za rfl<|Zt aS fun a c=>?_;refine wp_ret<|Xz<|X5<|X5 ?_;refine Xz<|X5<|X2 c (X0x c rfl (ResV.cellN (l:=[vi 2,.slice t ((fdS 2 m j (unitS 4)).getD []).length u]) rfl X1i (b.at 0) rfl) rfl) ?_
    rw [k]
    exact ⟨t,u,rfl,p,e⟩
   have aC:=x;have aD:=x;refine wp_skip<|X06<|aN _ _<|Zr c ?_;refine Zm rfl<|Ze (X0b rfl rfl (by omega) (by omega))<|Za rfl ?_;refine Zn fun a c=>?_;refine X07 ?_;exact ⟨j+1,⟨c.sb,(by omega),(X86 D aD),d,b,e⟩,(by omega)⟩
  have aB:=g;have g:=of_decide_eq_false g
  have k:cWd m=none:=Xdg L C (by rw [N];omega) D
  refine wp_exit<|Xx<|Xx<|X0e ?_;refine aJ _ _<|Zs c fun _ aT=>?_;refine Ze (Xl (ps:=[]) (cs:=[vi 0,.slice none 0 0]) rfl (fun _=>by first|rfl|kernel_rfl))<|Zo (Vw [vi 0,.slice none 0 0] X2d b) ?_;rintro _ w8 ⟨U,hb⟩;have y:=b;have e:=Below.only e U G;have b:=hb;refine Za rfl<|Zt aT fun a c=>?_
  refine wp_ret (X2 c (X0x c rfl (ResV.cellN (l:=[vi 0,.slice none 0 0]) rfl X1i (b.at 0) rfl) rfl) ?_)
  rw [k]
  exact ⟨none,0,rfl,(Own.nil _ _ _ _ _),e⟩
 have aH:=M
 have bH:¬ m.rows=4:=by simpa using M
 obtain ⟨C,N⟩:=Xr9 bH
 rw [C] at E aA
 have Q:m.rows=2:=by rw [aA];rfl
 refine wp_skip<|aG _ _<|wp_seq_k fun _ aU=>?_;refine Zs c fun _ aW=>?_;refine Za rfl<|Zt aW fun a c=>?_;refine wp_block<|X0f (σ:=Nat) (fun (j:Nat) (a:Act) (w:World)=>Fr a 32 [(1,.pointer (some ⟨b3,0,none⟩)),(2,.pointer (some ⟨b5,0,none⟩)),(4,vi 1),(5,vi 8),(6,vi (j:Int))]∧(j≤9)∧(∀ i,i<j→fdS 1 m i (unitS 2)=none)∧Blk w b3 33 [vi m.rows,vi m.cols,.slice Am m.cells.length cm]∧Blk w b5 28 [vi 0,.slice none 0 0]∧Below J.heap.size J w) (fun (j:Nat)=>9-j) 0 ?_ ?_
 ·exact ⟨c.sb,(by omega),(fun i hi=>absurd hi (by omega)),d,b,e⟩
 rintro j a w9 ⟨c,hj,D,d,b,e⟩;refine wp_seq_k fun _ aX=>?_;refine Zs c fun _ aY=>?_;refine Zm rfl<|Zm rfl<|Ze (Xfr rfl rfl)<|Zt aY fun a c=>?_
 refine Xs c rfl (fun o=>?_) (fun o=>?_)
 ·have aE:=o;have o:=of_decide_eq_true o;refine wp_skip<|aX _ _<|wp_seq_k fun _ aZ=>?_;refine wp_block<|wp_seq_k fun _ b0=>?_;refine X0n none (fun _=>false) mixed ?_;intro bJ f;have d:=d.below f;have b:=b.below f;have e:=btr e f;refine Yb c<|Yo 0 rfl (fun _=>Xo rfl)<|Yo 1 rfl (fun _=>Vd rfl X0q 0)<|Ye 2 rfl (Vx (X0 rfl X4 (d.at 0)) Q)<|Ye 4 rfl (Vn X04 d)<|Yo 5 rfl (fun _=>Xo rfl) ?_;refine Y1 3<|Yk rfl trivial (Vc (Xqg _ 2 (by decide)) Xj1) (fun _ _ ⟨b1,b2,_,I,f⟩=>f) ?_;rintro _ bK ⟨b1,b2,rfl,I,f⟩;have I:=I.lower e.size;have d:=d.below f;have b:=b.below f;have e:=btr e f;refine Y1 6<|Yk rfl trivial (Vc (Xmp _ 1 (unitS 2) b1 b2 I.rd.top m Am cm (W.below' e).top j (by omega) [] 0 (by omega) (List.mem_singleton.2 rfl) (X5l 1 (by omega)).symm E) X9w) (fun _ _ ⟨z,h,_,q,f⟩=>f) ?_;rintro _ bL ⟨z,h,rfl,q,f⟩;have q:=q.lower e.size;have d:=d.below f;have b:=b.below f;have e:=btr e f;refine Yo 7 rfl (fun _=>Xo rfl)<|Yo 8 rfl (fun _=>X6 (vs:=[.slice z ((fdS 1 m j (unitS 2)).getD []).length h,.bool ((fdS 1 m j (unitS 2)).isSome)]) rfl rfl)<|Yo 9 rfl (fun _=>X6 (vs:=[.slice z ((fdS 1 m j (unitS 2)).getD []).length h,.bool ((fdS 1 m j (unitS 2)).isSome)]) rfl rfl)<|Yo 10 rfl (fun _=>X14 rfl)<|Yo 11 rfl (fun _=>X14 rfl) ?_;refine Yd fun a c=>?_;refine b0 _ _<|Zs c fun _ b4=>?_;refine Zm rfl<|Zt b4 fun a c=>?_
  refine Xs c rfl (fun B=>?_) (fun B=>?_)
  ·have aF:=B
   have k:=X91 L C (by rw [N];omega) D B
   refine Zs c fun _ b6=>?_;refine Zm rfl<|Zm rfl<|Ze (Xl (ps:=[(0,vi 1),(1,.slice z ((fdS 1 m j (unitS 2)).getD []).length h)]) (cs:=[vi 1,.slice z ((fdS 1 m j (unitS 2)).getD []).length h]) rfl (fun _=>by first|rfl|kernel_rfl))<|Zo (Vw [vi 1,.slice z ((fdS 1 m j (unitS 2)).getD []).length h] X2d b) ?_;rintro _ bM ⟨U,hb⟩;have y:=b;have q:=q.onlyT U y rfl;have e:=Below.only e U G;have b:=hb;refine Za rfl<|Zt b6 fun a c=>?_;refine wp_ret<|Xz<|X5<|X5 ?_;refine Xz<|X5<|X2 c (X0x c rfl (ResV.cellN (l:=[vi 1,.slice z ((fdS 1 m j (unitS 2)).getD []).length h]) rfl X1i (b.at 0) rfl) rfl) ?_
   rw [k]
   exact ⟨z,h,rfl,q,e⟩
  have aF:=B;have aD:=B;refine wp_skip<|X06<|aZ _ _<|Zr c ?_;refine Zm rfl<|Ze (X0b rfl rfl (by omega) (by omega))<|Za rfl ?_;refine Zn fun a c=>?_;refine X07 ?_;exact ⟨j+1,⟨c.sb,(by omega),(X86 D aD),d,b,e⟩,(by omega)⟩
 have aE:=o;have o:=of_decide_eq_false o
 have k:cWd m=none:=Xdg L C (by rw [N];omega) D
 refine wp_exit<|Xx<|Xx<|X0e ?_;refine aU _ _<|Zs c fun _ b7=>?_;refine Ze (Xl (ps:=[]) (cs:=[vi 0,.slice none 0 0]) rfl (fun _=>by first|rfl|kernel_rfl))<|Zo (Vw [vi 0,.slice none 0 0] X2d b) ?_;rintro _ bN ⟨U,hb⟩;have y:=b;have e:=Below.only e U G;have b:=hb;refine Za rfl<|Zt b7 fun a c=>?_
 refine wp_ret (X2 c (X0x c rfl (ResV.cellN (l:=[vi 0,.slice none 0 0]) rfl X1i (b.at 0) rfl) rfl) ?_)
 rw [k]
 exact ⟨none,0,rfl,(Own.nil _ _ _ _ _),e⟩
theorem Xr6(w0:World)(m:Mx)(Am:Option Addr)(cm:Nat)(x:Rd w0 w0.heap.size 95 encD Am m.cells)(aF:m.cells.length≤2305843009213693951) : Ret Tryz.prog 8 [.agg #[vi m.rows,vi m.cols,.slice Am m.cells.length cm]] w0 (fun v w=>∃ A c1,v=.tuple #[.agg #[vi ((cWd m).getD cZ).n,.slice A ((cWd m).getD cZ).gs.length c1],.bool (cWd m).isSome]∧Own w w0.heap.size 115 3 encG A c1 ((cWd m).getD cZ).gs∧Below w0.heap.size w0 w):=by
 refine enter Tryz.func8 rfl 29 rfl rfl ?_;intro a g
 have i:=bz w0
 refine Zs g fun _ aG=>?_;refine Zf (X0c (zs:=[vi m.rows,vi m.cols,.slice Am m.cells.length cm]) rfl rfl) ?_;rintro _ w1 ⟨b3,rfl,aH,o,e⟩;have aL:=Nat.le_trans i.size aH;have i:=btr i o;refine Zf (Xc (zs:=[vi 0,.slice none 0 0]) Xbr rfl) ?_;rintro _ w2 ⟨b5,rfl,aI,o,f⟩;have y:=Nat.le_trans i.size aI;have e:=e.below o;have i:=btr i o;refine Za rfl<|ZX aG fun a g _ aJ=>?_;refine wp_seq_k fun _ aK=>?_;refine X0o (fun a w=>Fr a 29 [(1,.pointer (some ⟨b3,0,none⟩)),(2,.pointer (some ⟨b5,0,none⟩)),(23,.bool (((!(mOk m))||(m.rows != m.cols))||((m.rows != 2)&&(m.rows != 4))))]∧Below w2.heap.size w2 w) ?_ ?_
 ·have q:Below w2.heap.size w2 w2:=Below.refl _ _
  refine Zr g<|Ze (Vn X04 e)<|Zf (Vc (Xqb _ m Am cm (x.below' i).top aF) Xkm) ?_;rintro _ w3 ⟨rfl,o⟩;have e:=e.below o;have i:=btr i o;have q:=btr q o;refine Ze (X0z rfl)<|Zm rfl ?_
  refine Zg 7 rfl (fun b=>?_) (fun b=>?_)
  ·refine Zp (gP b) ?_;refine Zp (gP b) ?_;refine Zp (gP b) ?_;refine Zp (gP b) ?_;refine Zp (gP b) ?_;refine Ze (Xw rfl b rfl)<|Zm rfl<|Zp (gP rfl) ?_;refine Zp (gP rfl) ?_;refine Zp (gP rfl) ?_;refine Zp (gP rfl) ?_;refine Zp (gP trivial) ?_;refine Zp (gP trivial) ?_;refine Zp (gP trivial) ?_;refine Zp (gP rfl) ?_;refine Ze (Xw rfl rfl rfl) ?_;refine Zn fun a g=>?_
   have p:Below w2.heap.size w2 w3:=q
   exact ⟨g.sub ⟨rfl,rfl,X1 rfl (by first|rfl|(simp only [b,bs];done)|simp [b]),trivial⟩,p⟩
  refine Zv (gW b) (Vd rfl X0q 0) ?_;refine Zv (gW b) (X0 rfl X4 (e.at 0)) ?_;refine Zv (gW b) (Vd rfl X0v 1) ?_;refine Zv (gW b) (X0 rfl X4 (e.at 1)) ?_;refine Zv (gW b) (X1h rfl rfl) ?_;refine Ze (Xr rfl b rfl)<|Zm rfl ?_
  refine Zg 14 rfl (fun c=>?_) (fun c=>?_)
  ·refine Zp (gP c) ?_;refine Zp (gP c) ?_;refine Zp (gP c) ?_;refine Zp (gP c) ?_;refine Zp (gP trivial) ?_;refine Zp (gP trivial) ?_;refine Zp (gP trivial) ?_;refine Zp (gP c) ?_;refine Ze (Xw rfl c rfl) ?_;refine Zn fun a g=>?_
   have p:Below w2.heap.size w2 w3:=q
   exact ⟨g.sub ⟨rfl,rfl,X1 rfl (by first|rfl|(simp only [b,c,bs];done)|simp [b,c]),trivial⟩,p⟩
  refine Zv (gW c) (Vd rfl X0q 0) ?_;refine Zv (gW c) (X0 rfl X4 (e.at 0)) ?_;refine Zv (gW c) (X1h rfl rfl) ?_;refine Zv (gW c) (Xo rfl) ?_
  refine Zg 18 rfl (fun d=>?_) (fun d=>?_)
  ·refine Zv (gW d) (Vd rfl X0q 0) ?_;refine Zv (gW d) (X0 rfl X4 (e.at 0)) ?_;refine Zv (gW d) (X1h rfl rfl) ?_;refine Zv (gW c) (Xw rfl d rfl) ?_;refine Ze (Xr rfl c rfl) ?_;refine Zn fun a g=>?_
   have p:Below w2.heap.size w2 w3:=q
   exact ⟨g.sub ⟨rfl,rfl,X1 rfl (by first|rfl|(simp only [b,c,d,bs];done)|simp [b,c,d]),trivial⟩,p⟩
  refine Zp (gP d) ?_;refine Zp (gP d) ?_;refine Zp (gP d) ?_;refine Zv (gW c) (Xr rfl d rfl) ?_;refine Ze (Xr rfl c rfl) ?_;refine Zn fun a g=>?_
  have p:Below w2.heap.size w2 w3:=q
  exact ⟨g.sub ⟨rfl,rfl,X1 rfl (by first|rfl|(simp only [b,c,d,bs];done)|simp [b,c,d]),trivial⟩,p⟩
 rintro a w4 ⟨g,o⟩;have e:=e.below o;have f:=f.below o;have i:=btr i o;refine aK _ _ ?_
 refine Xs g rfl (fun j=>?_) (fun j=>?_)
 ·have aA:=j
  have aB:sqW m=false:=by have h9:=j;rw [Xib] at h9;simpa using h9
  have aC:=Xpr aB;refine Zs g fun _ aD=>?_;refine Ze (Xl (ps:=[]) (cs:=[vi 0,.slice none 0 0]) rfl (fun _=>by first|rfl|kernel_rfl))<|Zo (Vw [vi 0,.slice none 0 0] X2d f) ?_;rintro _ w5 ⟨ho,hb⟩;have z:=f;have i:=Below.only i ho y;have f:=hb;refine Za rfl<|Zt aD fun a g=>?_;refine wp_ret<|X5<|X2 g (X0x g rfl (ResV.cellN (l:=[vi 0,.slice none 0 0]) rfl X1i (f.at 0) rfl) rfl) ?_
  rw [aC]
  exact ⟨none,0,rfl,(Own.nil _ _ _ _ _),i⟩
 have aA:=j
 have aB:sqW m=true:=by have h9:=j;rw [Xib] at h9;simpa using h9
 refine wp_skip<|aJ _ _<|Zs g fun _ aE=>?_;refine Ze (Vn X04 e)<|Zf (Vc (Xq4 _ m Am cm (x.below' i).top aB) Xk4) ?_;rintro _ w6 ⟨t,u,rfl,k,o⟩;have k:=k.lower i.size;have f:=f.below o;have i:=btr i o;refine Ze (X6 (vs:=[.agg #[vi (((cWd m).getD cZ).n),.slice t (((cWd m).getD cZ).gs).length u],.bool ((cWd m).isSome)]) rfl rfl)<|Ze (X6 (vs:=[.agg #[vi (((cWd m).getD cZ).n),.slice t (((cWd m).getD cZ).gs).length u],.bool ((cWd m).isSome)]) rfl rfl)<|Zo (Vw [vi (((cWd m).getD cZ).n),.slice t (((cWd m).getD cZ).gs).length u] X2d f) ?_;rintro _ w7 ⟨ho,hb⟩;have z:=f;have k:=k.onlyT ho z rfl;have i:=Below.only i ho y;have f:=hb;refine Za rfl<|Zt aE fun a g=>?_
 refine wp_ret (X2 g (X0x g rfl (ResV.cellN (l:=[vi (((cWd m).getD cZ).n),.slice t (((cWd m).getD cZ).gs).length u]) rfl X1i (f.at 0) rfl) rfl) ?_)
 exact ⟨t,u,rfl,k,i⟩
def markD(k:Int)(n:Nat) : List Dy:=(List.range n).map fun (j:Nat)=>⟨⟨k+5*(j:Int),k+5*(j:Int)+1,k+5*(j:Int)+2,k+5*(j:Int)+3⟩,k+5*(j:Int)+4⟩
theorem Xco{m:List Dy}{k:Int}{x:Dy}{j:Nat}(h:m.take j=markD k j)(hj:j<m.length)(h1:x.num.a=k+5*(j:Int))(h2:x.num.b=k+5*(j:Int)+1)(h3:x.num.c=k+5*(j:Int)+2)(h4:x.num.d=k+5*(j:Int)+3)(h5:x.exp=k+5*(j:Int)+4) : (m.set j x).take (j+1)=markD k (j+1):=by
 have hx:x=⟨⟨k+5*(j:Int),k+5*(j:Int)+1,k+5*(j:Int)+2,k+5*(j:Int)+3⟩,k+5*(j:Int)+4⟩:=by
  obtain ⟨⟨a,b,c,d⟩,e⟩:=x;simp at h1 h2 h3 h4 h5;simp [h1,h2,h3,h4,h5]
 rw [X4l hj,h,markD,markD,List.range_succ,List.map_append,hx];rfl
theorem X5p(m:Mx) : ((cWd m).getD cZ).gs.length≤1000:=by
 cases e:shS m with
 | none=>rw [X2y e];exact Nat.zero_le _
 | some w=>
  obtain ⟨h1,_,h3⟩:=X53 e
  rw [h1];show w.length≤1000;omega
theorem Xre(w0:World)(B0:Nat)(A:Option Addr)(c:Nat)(l:List Dy)(f:Own w0 B0 95 5 encD A c l)(k:Int)(hk:0≤k∧k≤1000000000000)(aW:l.length≤1000000000) : Ret Tryz.prog 42 [.slice A l.length c,vi k] w0 (fun v w=>v=vi (k+5*(l.length:Int))∧Own w B0 95 5 encD A c (markD k l.length)∧w0.grownBy w (Value.slice A l.length c).ownBlock):=by
 refine enter Tryz.func42 rfl 52 rfl rfl ?_;intro a i
 have o:w0.grownBy w0 (Value.slice A l.length c).ownBlock:=World.grownBy.refl _ _
 refine Zs i fun _ aN=>?_;refine Za rfl<|ZX aN fun a i _ aO=>?_;refine Zs i fun _ aP=>?_;refine Za rfl<|Zt aP fun a i=>?_;refine wp_block<|X0f (σ:=Nat×Int×(List Dy)) (fun (s:Nat×Int×(List Dy)) (a:Act) (w:World)=>match s with|(j,q,m)=>Fr a 52 [(0,.slice A l.length c),(1,vi q),(5,vi (j:Int))]∧(q=k+5*(j:Int))∧(j≤l.length)∧(m.length=l.length)∧(m.take j=markD k j)∧Own w B0 95 5 encD A c m∧w0.grownBy w (Value.slice A l.length c).ownBlock) (fun (s:Nat×Int×(List Dy))=>match s with|(j,q,m)=>l.length-j) (0,k,l) ?_ ?_
 ·exact ⟨i.sb,(by simp),(Nat.zero_le _),rfl,rfl,f,o⟩
 rintro ⟨j,q,m⟩ a w1 ⟨i,hq,hj,aA,hp,f,o⟩;refine wp_seq_k fun _ aQ=>?_;refine Zs i fun _ aR=>?_;refine Zm rfl<|Zm rfl<|Ze (X1r rfl X0d)<|Ze (X15 rfl rfl)<|Zt aR fun a i=>?_
 refine Xs i rfl (fun n=>?_) (fun n=>?_)
 ·have aB:=n;have n:=of_decide_eq_true n
  obtain ⟨u8,aX⟩:=X05 (l:=l) (k:=j) (by omega)
  obtain ⟨x0,aS⟩:=X05 (l:=m) (k:=j) (by omega)
  refine wp_skip<|aQ _ _<|wp_seq_k fun _ aT=>?_;refine wp_block<|Zs i fun _ aC=>?_;refine Zm rfl<|Zm rfl<|Zm rfl<|Ze (X1x (k:=j) rfl rfl X0d Xh f aA.symm rfl (by omega))<|Ze (X17 rfl X0i (m':=j*5+0) rfl) ?_;refine Ze (X17 rfl Xy (m':=j*5+0+0) rfl)<|Zo (X1y (enc:=encD) (l:=m) (vs:=[vi q]) (x0:=x0) (u:=(⟨(⟨q,x0.num.b,x0.num.c,x0.num.d⟩ : Rg),x0.exp⟩ : Dy)) (k:=j) (j:=0) (n1:=1) rfl rfl X2i f X09 rfl rfl rfl rfl (by decide) aS rfl) ?_;rintro _ w2 ⟨e,p⟩;have g:=f;have o:=gtr o p
  clear g p;clear f;have f:=e;clear e;refine Zx aC fun a i _ aD=>?_;refine Zm rfl<|Ze (X0b rfl rfl (by omega) (by omega))<|Za rfl<|Zx aD fun a i _ aE=>?_;refine Zm rfl<|Zm rfl<|Zm rfl<|Ze (X1x (k:=j) rfl rfl X0d Xh f (by simp;omega) rfl (by simp;omega))<|Ze (X17 rfl X0i (m':=j*5+0) rfl) ?_;refine Ze (X17 rfl X02 (m':=j*5+0+1) rfl)<|Zo (X1y (enc:=encD) (l:=(m.set j (⟨(⟨q,x0.num.b,x0.num.c,x0.num.d⟩ : Rg),x0.exp⟩ : Dy))) (vs:=[vi (q+1)]) (x0:=(⟨⟨q,x0.num.b,x0.num.c,x0.num.d⟩,x0.exp⟩ : Dy)) (u:=(⟨(⟨(⟨⟨q,x0.num.b,x0.num.c,x0.num.d⟩,x0.exp⟩ : Dy).num.a,q+1,(⟨⟨q,x0.num.b,x0.num.c,x0.num.d⟩,x0.exp⟩ : Dy).num.c,(⟨⟨q,x0.num.b,x0.num.c,x0.num.d⟩,x0.exp⟩ : Dy).num.d⟩ : Rg),(⟨⟨q,x0.num.b,x0.num.c,x0.num.d⟩,x0.exp⟩ : Dy).exp⟩ : Dy)) (k:=j) (j:=1) (n1:=1) rfl rfl X2i f X09 rfl rfl rfl rfl (by decide) (X45 (by omega)) rfl) ?_;rintro _ w3 ⟨e,p⟩;have g:=f;have o:=gtr o p
  clear g p;clear f;have f:=e;clear e;refine Zx aE fun a i _ aF=>?_;refine Zm rfl<|Ze (X0b rfl rfl (by omega) (by omega))<|Za rfl<|Zx aF fun a i _ aG=>?_;refine Zm rfl<|Zm rfl<|Zm rfl<|Ze (X1x (k:=j) rfl rfl X0d Xh f (by simp;omega) rfl (by simp;omega))<|Ze (X17 rfl X0i (m':=j*5+0) rfl) ?_;refine Ze (X17 rfl X01 (m':=j*5+0+2) rfl)<|Zo (X1y (enc:=encD) (l:=((m.set j (⟨(⟨q,x0.num.b,x0.num.c,x0.num.d⟩ : Rg),x0.exp⟩ : Dy)).set j (⟨(⟨(⟨⟨q,x0.num.b,x0.num.c,x0.num.d⟩,x0.exp⟩ : Dy).num.a,q+1,(⟨⟨q,x0.num.b,x0.num.c,x0.num.d⟩,x0.exp⟩ : Dy).num.c,(⟨⟨q,x0.num.b,x0.num.c,x0.num.d⟩,x0.exp⟩ : Dy).num.d⟩ : Rg),(⟨⟨q,x0.num.b,x0.num.c,x0.num.d⟩,x0.exp⟩ : Dy).exp⟩ : Dy))) (vs:=[vi ((q+1)+1)]) (x0:=(⟨⟨q,q+1,x0.num.c,x0.num.d⟩,x0.exp⟩ : Dy)) (u:=(⟨(⟨(⟨⟨q,q+1,x0.num.c,x0.num.d⟩,x0.exp⟩ : Dy).num.a,(⟨⟨q,q+1,x0.num.c,x0.num.d⟩,x0.exp⟩ : Dy).num.b,(q+1)+1,(⟨⟨q,q+1,x0.num.c,x0.num.d⟩,x0.exp⟩ : Dy).num.d⟩ : Rg),(⟨⟨q,q+1,x0.num.c,x0.num.d⟩,x0.exp⟩ : Dy).exp⟩ : Dy)) (k:=j) (j:=2) (n1:=1) rfl rfl X2i f X09 rfl rfl rfl rfl (by decide) (X45 (by simp;omega)) rfl) ?_;rintro _ w4 ⟨e,p⟩;have g:=f;have o:=gtr o p
  clear g p;clear f;have f:=e;clear e;refine Zx aG fun a i _ aH=>?_;refine Zm rfl<|Ze (X0b rfl rfl (by omega) (by omega))<|Za rfl<|Zx aH fun a i _ aI=>?_;refine Zm rfl<|Zm rfl<|Zm rfl<|Ze (X1x (k:=j) rfl rfl X0d Xh f (by simp;omega) rfl (by simp;omega))<|Ze (X17 rfl X0i (m':=j*5+0) rfl) ?_;refine Ze (X17 rfl X00 (m':=j*5+0+3) rfl)<|Zo (X1y (enc:=encD) (l:=(((m.set j (⟨(⟨q,x0.num.b,x0.num.c,x0.num.d⟩ : Rg),x0.exp⟩ : Dy)).set j (⟨(⟨(⟨⟨q,x0.num.b,x0.num.c,x0.num.d⟩,x0.exp⟩ : Dy).num.a,q+1,(⟨⟨q,x0.num.b,x0.num.c,x0.num.d⟩,x0.exp⟩ : Dy).num.c,(⟨⟨q,x0.num.b,x0.num.c,x0.num.d⟩,x0.exp⟩ : Dy).num.d⟩ : Rg),(⟨⟨q,x0.num.b,x0.num.c,x0.num.d⟩,x0.exp⟩ : Dy).exp⟩ : Dy)).set j (⟨(⟨(⟨⟨q,q+1,x0.num.c,x0.num.d⟩,x0.exp⟩ : Dy).num.a,(⟨⟨q,q+1,x0.num.c,x0.num.d⟩,x0.exp⟩ : Dy).num.b,(q+1)+1,(⟨⟨q,q+1,x0.num.c,x0.num.d⟩,x0.exp⟩ : Dy).num.d⟩ : Rg),(⟨⟨q,q+1,x0.num.c,x0.num.d⟩,x0.exp⟩ : Dy).exp⟩ : Dy))) (vs:=[vi (((q+1)+1)+1)]) (x0:=(⟨⟨q,q+1,q+1+1,x0.num.d⟩,x0.exp⟩ : Dy)) (u:=(⟨(⟨(⟨⟨q,q+1,q+1+1,x0.num.d⟩,x0.exp⟩ : Dy).num.a,(⟨⟨q,q+1,q+1+1,x0.num.d⟩,x0.exp⟩ : Dy).num.b,(⟨⟨q,q+1,q+1+1,x0.num.d⟩,x0.exp⟩ : Dy).num.c,((q+1)+1)+1⟩ : Rg),(⟨⟨q,q+1,q+1+1,x0.num.d⟩,x0.exp⟩ : Dy).exp⟩ : Dy)) (k:=j) (j:=3) (n1:=1) rfl rfl X2i f X09 rfl rfl rfl rfl (by decide) (X45 (by simp;omega)) rfl) ?_;rintro _ w5 ⟨e,p⟩;have g:=f;have o:=gtr o p
  clear g p;clear f;have f:=e;clear e;refine Zx aI fun a i _ aJ=>?_;refine Zm rfl<|Ze (X0b rfl rfl (by omega) (by omega))<|Za rfl<|Zx aJ fun a i _ aK=>?_;refine Zm rfl<|Zm rfl<|Zm rfl<|Ze (X1x (k:=j) rfl rfl X0d Xh f (by simp;omega) rfl (by simp;omega))<|Ze (X17 rfl X0k (m':=j*5+4) rfl) ?_;refine Zo (X1y (enc:=encD) (l:=((((m.set j (⟨(⟨q,x0.num.b,x0.num.c,x0.num.d⟩ : Rg),x0.exp⟩ : Dy)).set j (⟨(⟨(⟨⟨q,x0.num.b,x0.num.c,x0.num.d⟩,x0.exp⟩ : Dy).num.a,q+1,(⟨⟨q,x0.num.b,x0.num.c,x0.num.d⟩,x0.exp⟩ : Dy).num.c,(⟨⟨q,x0.num.b,x0.num.c,x0.num.d⟩,x0.exp⟩ : Dy).num.d⟩ : Rg),(⟨⟨q,x0.num.b,x0.num.c,x0.num.d⟩,x0.exp⟩ : Dy).exp⟩ : Dy)).set j (⟨(⟨(⟨⟨q,q+1,x0.num.c,x0.num.d⟩,x0.exp⟩ : Dy).num.a,(⟨⟨q,q+1,x0.num.c,x0.num.d⟩,x0.exp⟩ : Dy).num.b,(q+1)+1,(⟨⟨q,q+1,x0.num.c,x0.num.d⟩,x0.exp⟩ : Dy).num.d⟩ : Rg),(⟨⟨q,q+1,x0.num.c,x0.num.d⟩,x0.exp⟩ : Dy).exp⟩ : Dy)).set j (⟨(⟨(⟨⟨q,q+1,q+1+1,x0.num.d⟩,x0.exp⟩ : Dy).num.a,(⟨⟨q,q+1,q+1+1,x0.num.d⟩,x0.exp⟩ : Dy).num.b,(⟨⟨q,q+1,q+1+1,x0.num.d⟩,x0.exp⟩ : Dy).num.c,((q+1)+1)+1⟩ : Rg),(⟨⟨q,q+1,q+1+1,x0.num.d⟩,x0.exp⟩ : Dy).exp⟩ : Dy))) (vs:=[vi ((((q+1)+1)+1)+1)]) (x0:=(⟨⟨q,q+1,q+1+1,q+1+1+1⟩,x0.exp⟩ : Dy)) (u:=(⟨((⟨⟨q,q+1,q+1+1,q+1+1+1⟩,x0.exp⟩ : Dy).num),(((q+1)+1)+1)+1⟩ : Dy)) (k:=j) (j:=4) (n1:=1) rfl rfl X2i f X09 rfl rfl rfl rfl (by decide) (X45 (by simp;omega)) rfl) ?_;rintro _ w6 ⟨e,p⟩;have g:=f;have o:=gtr o p
  clear g p;clear f;have f:=e;clear e;refine Zt aK fun a i=>?_;refine Zr i<|Zm rfl<|Ze (X0b rfl rfl (by omega) (by omega))<|Za rfl ?_;refine Zn fun a i=>?_;refine X06<|aT _ _<|Zr i<|Zm rfl<|Ze (X0b rfl rfl (by omega) (by omega))<|Za rfl ?_;refine Zn fun a i=>?_;refine X07 ?_;exact ⟨(j+1,q+1+1+1+1+1,(((((m.set j (⟨(⟨q,x0.num.b,x0.num.c,x0.num.d⟩ : Rg),x0.exp⟩ : Dy)).set j (⟨(⟨(⟨⟨q,x0.num.b,x0.num.c,x0.num.d⟩,x0.exp⟩ : Dy).num.a,q+1,(⟨⟨q,x0.num.b,x0.num.c,x0.num.d⟩,x0.exp⟩ : Dy).num.c,(⟨⟨q,x0.num.b,x0.num.c,x0.num.d⟩,x0.exp⟩ : Dy).num.d⟩ : Rg),(⟨⟨q,x0.num.b,x0.num.c,x0.num.d⟩,x0.exp⟩ : Dy).exp⟩ : Dy)).set j (⟨(⟨(⟨⟨q,q+1,x0.num.c,x0.num.d⟩,x0.exp⟩ : Dy).num.a,(⟨⟨q,q+1,x0.num.c,x0.num.d⟩,x0.exp⟩ : Dy).num.b,(q+1)+1,(⟨⟨q,q+1,x0.num.c,x0.num.d⟩,x0.exp⟩ : Dy).num.d⟩ : Rg),(⟨⟨q,q+1,x0.num.c,x0.num.d⟩,x0.exp⟩ : Dy).exp⟩ : Dy)).set j (⟨(⟨(⟨⟨q,q+1,q+1+1,x0.num.d⟩,x0.exp⟩ : Dy).num.a,(⟨⟨q,q+1,q+1+1,x0.num.d⟩,x0.exp⟩ : Dy).num.b,(⟨⟨q,q+1,q+1+1,x0.num.d⟩,x0.exp⟩ : Dy).num.c,((q+1)+1)+1⟩ : Rg),(⟨⟨q,q+1,q+1+1,x0.num.d⟩,x0.exp⟩ : Dy).exp⟩ : Dy)).set j (⟨((⟨⟨q,q+1,q+1+1,q+1+1+1⟩,x0.exp⟩ : Dy).num),(((q+1)+1)+1)+1⟩ : Dy))),⟨i.sb,(by omega),(by omega),(by simp;exact aA),(by rw [List.set_set,List.set_set,List.set_set,List.set_set];exact Xco hp (by omega) hq (by dsimp only;omega) (by dsimp only;omega) (by dsimp only;omega) (by dsimp only;omega)),f,o⟩,(by first|omega|(dsimp only;omega))⟩
 have aB:=n;have n:=of_decide_eq_false n;refine wp_exit<|Xx<|Xx<|X0e ?_;refine aO _ _<|Zs i fun _ aL=>?_;refine Zm rfl<|Za rfl<|Zt aL fun a i=>?_
 refine wp_ret (X2 i (Xt i rfl rfl) ?_)
 have aM:m=markD k l.length:=by rw [← show j=l.length from by omega,← hp,List.take_of_length_le (by omega)]
 have aU:j=l.length:=by omega
 rw [aM] at f
 exact ⟨by rw [hq,aU],f,o⟩
theorem Xqr(w0:World)(B0:Nat)(A:Option Addr)(c:Nat)(l:List Dy)(ho:Own w0 B0 95 5 encD A c l)(n p k:Int)(hk:0≤k∧k≤1000000000000)(aB:l.length≤1000000000) : Ret Tryz.prog 13 [.agg #[vi n,vi p,.slice A l.length c],vi k] w0 (fun v w=>v=vi (k+5*(l.length:Int))∧Own w B0 95 5 encD A c (markD k l.length)∧w0.grownBy w (Value.slice A l.length c).ownBlock):=by
 refine enter Tryz.func13 rfl 10 rfl rfl ?_;intro a hf
 have hW:w0.grownBy w0 (Value.slice A l.length c).ownBlock:=World.grownBy.refl _ _
 refine Zs hf fun _ aC=>?_;refine Zf (X0c (zs:=[vi n,vi p,.slice A l.length c]) rfl rfl) ?_;rintro _ w1 ⟨b3,rfl,aD,hE,aE⟩;have aH:=Nat.le_trans hW.size aD;have ho:=ho.below hE;have hW:=gbel hW hE;refine Za rfl<|Zx aC fun a hf _ aF=>?_;refine Ze (Vd rfl X0r 2)<|Ze (X0 rfl X1a (aE.at 2))<|Zm rfl<|Zf (Vc (Xre _ B0 A c l ho k hk aB) Xk7) ?_;rintro _ w2 ⟨rfl,b,hg⟩;have aA:=ho;have hW:=gtr hW hg
 clear aA hg;clear ho;have ho:=b;clear b;refine Za rfl<|Zx aF fun a hf _ aG=>?_;refine Zm rfl<|Za rfl<|Zt aG fun a hf=>?_
 refine wp_ret (X2 hf (Xt hf rfl rfl) ?_)
 exact ⟨rfl,ho,hW⟩
theorem Xqx(w0:World){Xm:TypeId}(m:Mx)(Am:Option Addr)(cm:Nat)(L:Rd w0 w0.heap.size Xm encD Am m.cells)(cD:m.cells.length≤9223372036854775807)(aP:PowT w0) : Ret Tryz.prog 3 [.agg #[vi m.rows,vi m.cols,.slice Am m.cells.length cm]] w0 (fun v w=>v=.bool true∧Below w0.heap.size w0 w):=by
 refine enter Tryz.func3 rfl 96 rfl rfl ?_;intro a k
 have j:=bz w0
 refine Zs k fun _ cE=>?_;refine Zf (X0c (zs:=[vi m.rows,vi m.cols,.slice Am m.cells.length cm]) rfl rfl) ?_;rintro _ w1 ⟨b3,rfl,cF,d,g⟩;have cR:=Nat.le_trans j.size cF;have j:=btr j d;refine Za rfl<|Zx cE fun a k _ cG=>?_;refine Za rfl<|Zx cG fun a k _ cH=>?_;refine Ze (Vn X56 g)<|Zm rfl<|Zf (Vc (Xq3 _ m Am cm (L.below' j).top 1048576 (by omega) cD) Xk8) ?_;rintro _ w2 ⟨rfl,d⟩;have g:=g.below d;have j:=btr j d;refine Za rfl<|ZX cH fun a k _ cJ=>?_;refine Zs k fun _ cK=>?_;refine Zm rfl<|Ze (X15 rfl rfl)<|Zt cK fun a k=>?_
 refine Xs k rfl (fun M=>?_) (fun M=>?_)
 ·have t:=M;have M:=of_decide_eq_true M;refine Zs k fun _ cL=>?_;refine Za rfl<|Zt cL fun a k=>?_;refine wp_ret<|X5<|X2 k (Xt k rfl rfl) ?_;exact ⟨rfl,j⟩
 have t:=M;have M:=of_decide_eq_false M
 have J:m.cells.length≤1048576:=by have h9:=M;unfold szD at h9;split at h9<;>omega
 refine wp_skip<|cJ _ _<|Zs k fun _ b1=>?_;refine Ze (Vn X56 g)<|Zf (Vc (Xdt _ m Am cm (L.below' j).top J) X70) ?_;rintro _ w3 ⟨cM,cN,rfl,aI,d⟩;have aI:=aI.lower j.size;have g:=g.below d;have j:=btr j d;refine Zf (Vc (Xr6 _ m cM cN aI.rd.top (Nat.le_trans J (by decide))) Xlm) ?_;rintro _ w4 ⟨aF,aG,rfl,b,d⟩;have b:=b.lower j.size;have g:=g.below d;have j:=btr j d;refine Zm rfl<|Ze (X6 (vs:=[.agg #[vi (((cWd m).getD cZ).n),.slice aF (((cWd m).getD cZ).gs).length aG],.bool ((cWd m).isSome)]) rfl rfl)<|Ze (X6 (vs:=[.agg #[vi (((cWd m).getD cZ).n),.slice aF (((cWd m).getD cZ).gs).length aG],.bool ((cWd m).isSome)]) rfl rfl)<|Zf (Xc (zs:=[vi 0,.slice none 0 0]) Xbr rfl) ?_;rintro _ w5 ⟨aK,rfl,b2,d,c⟩;have aQ:=Nat.le_trans j.size b2;have g:=g.below d;have b:=b.below d;have j:=btr j d;refine Zo (Vw [vi (((cWd m).getD cZ).n),.slice aF (((cWd m).getD cZ).gs).length aG] X2d c) ?_;rintro _ w6 ⟨H,hb⟩;have p:=c;have g:=g.only H (Blk.ne g p rfl);have b:=b.onlyT H p rfl;have j:=Below.only j H aQ;have c:=hb;refine Za rfl<|Zx b1 fun a k _ b4=>?_;refine Ze (Vn X56 g)<|Zf (Vc (Xdt _ m Am cm (L.below' j).top J) X70) ?_;rintro _ w7 ⟨aL,aM,rfl,i,d⟩;have i:=i.lower j.size;have g:=g.below d;have c:=c.below d;have b:=b.below d;have j:=btr j d;refine Zf (Xc (zs:=[vi 0,vi 0,.slice none 0 0]) X1k rfl) ?_;rintro _ w8 ⟨cO,rfl,b5,d,l⟩;have aR:=Nat.le_trans j.size b5;have g:=g.below d;have c:=c.below d;have b:=b.below d;have i:=i.below d;have j:=btr j d;refine Zo (Vw [vi m.rows,vi m.cols,.slice aL m.cells.length aM] X11 l) ?_;rintro _ w9 ⟨H,hb⟩
 have p:=l;have g:=g.only H (Blk.ne g p rfl);have c:=c.only H (Blk.ne c p rfl);have b:=b.onlyT H p rfl;have i:=i.onlyT H p rfl;have j:=Below.only j H aR;have l:=hb;refine Zx b4 fun a k _ b6=>?_;refine Ze (Vn X04 l)<|Zf (Vc (Xmu _ m aL aM i.rd.top (Nat.le_trans J (by decide)) (aP.of j)) Xe8) ?_;rintro _ cS ⟨N,Q,rfl,e,d⟩;have aH:=b.apart e (Nat.le_refl _);have e:=e.lower j.size;have g:=g.below d;have c:=c.below d;have l:=l.below d;have b:=b.below d;have i:=i.below d;have j:=btr j d;refine Zm rfl<|Ze (X6 (vs:=[.agg #[vi (((cWd m).getD cZ).n),.slice N (((cWd m).getD cZ).gs).length Q],.bool ((cWd m).isSome)]) rfl rfl)<|Ze (X6 (vs:=[.agg #[vi (((cWd m).getD cZ).n),.slice N (((cWd m).getD cZ).gs).length Q],.bool ((cWd m).isSome)]) rfl rfl)<|Zf (Xc (zs:=[vi 0,.slice none 0 0]) Xbr rfl) ?_;rintro _ cT ⟨b22,rfl,b7,d,f⟩
 have aU:aK≠b22:=by have:=c.lt;omega
 have aS:=Nat.le_trans j.size b7;have g:=g.below d;have c:=c.below d;have l:=l.below d;have b:=b.below d;have i:=i.below d;have e:=e.below d;have j:=btr j d;refine Zo (Vw [vi (((cWd m).getD cZ).n),.slice N (((cWd m).getD cZ).gs).length Q] X2d f) ?_;rintro _ w12 ⟨H,hb⟩;have p:=f;have g:=g.only H (Blk.ne g p rfl);have c:=c.only H (by omega);have l:=l.only H (Blk.ne l p rfl);have b:=b.onlyT H p rfl;have i:=i.onlyT H p rfl;have e:=e.onlyT H p rfl;have j:=Below.only j H aS;have f:=hb;refine Za rfl<|ZX b6 fun a k _ b8=>?_;refine wp_seq_k fun _ b9=>?_;refine X0o (fun a w=>Fr a 96 [(1,.pointer (some ⟨b3,0,none⟩)),(4,.pointer (some ⟨aK,0,none⟩)),(5,.bool ((cWd m).isSome)),(6,.pointer (some ⟨cO,0,none⟩)),(7,.pointer (some ⟨b22,0,none⟩)),(8,.bool ((cWd m).isSome)),(40,.bool ((!(eqC ((cWd m).getD cZ) ((cWd m).getD cZ)))||(((cWd m).isSome) != ((cWd m).isSome))))]∧Below w12.heap.size w12 w) ?_ ?_
 ·have A:Below w12.heap.size w12 w12:=Below.refl _ _
  refine Zr k<|Ze (Vn X1i f)<|Ze (Vn X1i c)<|Zf (Vc (F19 _ ((cWd m).getD cZ) N Q e.rd.top ((cWd m).getD cZ) aF aG b.rd.top (Nat.le_trans (X5p m) (by decide))) Xi5) ?_;rintro _ w13 ⟨rfl,d⟩;have j:=btr j d;have A:=btr A d;refine Ze (X0z rfl)<|Zm rfl ?_
  refine Zg 36 rfl (fun u=>?_) (fun u=>?_)
  ·refine Zp (gP u) ?_;refine Zp (gP u) ?_;refine Zp (gP u) ?_;refine Ze (Xw rfl u rfl) ?_;refine Zn fun a k=>?_
   have C:Below w12.heap.size w12 w13:=A
   exact ⟨k.sub ⟨rfl,rfl,rfl,rfl,rfl,rfl,X1 rfl (by first|rfl|(simp only [t,u,Bool.true_and,Bool.false_and,Bool.true_or,Bool.false_or];done)|(simp [t,u];done)|(exfalso;revert u;simp)),trivial⟩,C⟩
  refine Zv (gW u) (Xo rfl) ?_;refine Zv (gW u) (Xo rfl) ?_;refine Zv (gW u) (Xgi Tryz.underlying4 rfl rfl) ?_;refine Ze (Xr rfl u rfl) ?_;refine Zn fun a k=>?_
  have C:Below w12.heap.size w12 w13:=A
  exact ⟨k.sub ⟨rfl,rfl,rfl,rfl,rfl,rfl,X1 rfl (by first|rfl|(simp only [t,u,Bool.true_and,Bool.false_and,Bool.true_or,Bool.false_or];done)|(simp [t,u];done)|(exfalso;revert u;simp)),trivial⟩,C⟩
 rintro a cU ⟨k,d⟩;have g:=g.below d;have c:=c.below d;have l:=l.below d;have f:=f.below d;have b:=b.below d;have i:=i.below d;have e:=e.below d;have j:=btr j d;refine b9 _ _ ?_
 refine Xs k rfl (fun aB=>?_) (fun aB=>?_)
 ·have q:=aB
  simp [eqC] at aB
 have q:=aB;refine wp_skip<|b8 _ _<|wp_seq_k fun _ bC=>?_;refine wp_seq_k fun _ bD=>?_;refine X0n none (fun _=>false) mixed ?_;intro cV d;have g:=g.below d;have c:=c.below d;have l:=l.below d;have f:=f.below d;have b:=b.below d;have i:=i.below d;have e:=e.below d;have j:=btr j d;refine Yb k<|Ye 0 rfl (Vn X04 l)<|Ye 1 rfl (Vn X56 g)<|Y1 2 ?_;refine Yk rfl trivial (Vc (Xdt _ m Am cm (L.below' j).top J) X70) (fun _ _ ⟨bE,bF,_,U,d⟩=>d) ?_;rintro _ cW ⟨bE,bF,rfl,U,d⟩;have aW:=i.apart U (Nat.le_refl _);have U:=U.lower j.size;have g:=g.below d;have c:=c.below d;have l:=l.below d;have f:=f.below d;have b:=b.below d;have i:=i.below d;have e:=e.below d;have j:=btr j d;refine Y1 3<|Yk rfl trivial (Vc (Xqs _ m aL aM i.rd.top m bE bF U.rd.top (Nat.le_trans J (by decide))) Xm9) (fun _ _ ⟨_,d⟩=>d) ?_;rintro _ cX ⟨rfl,d⟩;have g:=g.below d;have c:=c.below d;have l:=l.below d;have f:=f.below d;have b:=b.below d;have i:=i.below d;have e:=e.below d;have j:=btr j d;refine Yo 4 rfl (fun _=>X0z rfl) ?_;refine Yd fun a k=>?_;refine bD _ _ ?_
 refine Xs k rfl (fun aC=>?_) (fun aC=>?_)
 ·have x:=aC
  simp [eqM] at aC
 have x:=aC;refine wp_skip<|bC _ _<|Zs k fun _ bG=>?_;refine Za rfl<|Zx bG fun a k _ bH=>?_;refine Ze (Vn X04 l)<|Zm rfl<|Zf (Vc (Xqr _ w0.heap.size aL aM m.cells i m.rows m.cols 1 (by decide) (Nat.le_trans J (by decide))) Xlh) ?_;rintro _ w18 ⟨rfl,W,hg⟩;have h:=i;have g:=g.appT h hg rfl;have c:=c.appT h hg rfl;have f:=f.appT h hg rfl;have b:=b.appT h hg rfl;have e:=e.appT h hg rfl;have j:=Below.app j h hg (Nat.le_refl _) j.size
 clear h hg;clear i;have i:=W;clear W;refine Za rfl<|ZX bH fun a k _ bI=>?_;refine wp_seq_k fun _ bJ=>?_;refine X0o (fun a w=>Fr a 96 [(1,.pointer (some ⟨b3,0,none⟩)),(4,.pointer (some ⟨aK,0,none⟩)),(5,.bool ((cWd m).isSome)),(7,.pointer (some ⟨b22,0,none⟩)),(61,.bool (((decide ((1+5*(m.cells.length:Int))<0))||(!(eqC ((cWd m).getD cZ) ((cWd m).getD cZ))))||(((cWd m).isSome) != ((cWd m).isSome))))]∧Below w18.heap.size w18 w) ?_ ?_
 ·have A:Below w18.heap.size w18 w18:=Below.refl _ _
  refine Zr k<|Zm rfl<|Ze (X15 rfl rfl)<|Zm rfl ?_
  refine Zg 51 rfl (fun o=>?_) (fun o=>?_)
  ·refine Zp (gP o) ?_;refine Zp (gP o) ?_;refine Zp (gP o) ?_;refine Zp (gP o) ?_;refine Ze (Xw rfl o rfl)<|Zm rfl<|Zp (gP rfl) ?_;refine Zp (gP rfl) ?_;refine Zp (gP rfl) ?_;refine Ze (Xw rfl rfl rfl) ?_;refine Zn fun a k=>?_
   have C:Below w18.heap.size w18 w18:=A
   exact ⟨k.sub ⟨rfl,rfl,rfl,rfl,X1 rfl (by first|rfl|(simp only [t,q,x,o,Bool.true_and,Bool.false_and,Bool.true_or,Bool.false_or];done)|(simp [t,q,x,o];done)|(exfalso;revert o;simp)),trivial⟩,C⟩
  refine Zv (gW o) (Vn X1i f) ?_;refine Zv (gW o) (Vn X1i c) ?_;refine Zk (gW o) (Vc (F19 _ ((cWd m).getD cZ) N Q e.rd.top ((cWd m).getD cZ) aF aG b.rd.top (Nat.le_trans (X5p m) (by decide))) Xi5) ?_;rintro _ w19 ⟨rfl,d⟩;have j:=btr j d;have A:=btr A d;refine Zv (gW o) (X0z rfl) ?_;refine Ze (Xr rfl o rfl)<|Zm rfl ?_
  refine Zg 57 rfl (fun y=>?_) (fun y=>?_)
  ·refine Zp (gP y) ?_;refine Zp (gP y) ?_;refine Zp (gP y) ?_;refine Ze (Xw rfl y rfl) ?_;refine Zn fun a k=>?_
   have C:Below w18.heap.size w18 w19:=A
   exact ⟨k.sub ⟨rfl,rfl,rfl,rfl,X1 rfl (by first|rfl|(simp only [t,q,x,o,y,Bool.true_and,Bool.false_and,Bool.true_or,Bool.false_or];done)|(simp [t,q,x,o,y];done)|(exfalso;revert y;simp)),trivial⟩,C⟩
  refine Zv (gW y) (Xo rfl) ?_;refine Zv (gW y) (Xo rfl) ?_;refine Zv (gW y) (Xgi Tryz.underlying4 rfl rfl) ?_;refine Ze (Xr rfl y rfl) ?_;refine Zn fun a k=>?_
  have C:Below w18.heap.size w18 w19:=A
  exact ⟨k.sub ⟨rfl,rfl,rfl,rfl,X1 rfl (by first|rfl|(simp only [t,q,x,o,y,Bool.true_and,Bool.false_and,Bool.true_or,Bool.false_or];done)|(simp [t,q,x,o,y];done)|(exfalso;revert y;simp)),trivial⟩,C⟩
 rintro a cY ⟨k,d⟩;have g:=g.below d;have c:=c.below d;have f:=f.below d;have b:=b.below d;have e:=e.below d;have j:=btr j d;refine bJ _ _ ?_
 refine Xs k rfl (fun aD=>?_) (fun aD=>?_)
 ·have I:=aD
  have h9:¬ (1+5*(m.cells.length:Int)<0):=by omega
  simp [h9,eqC] at aD
 have I:=aD;refine wp_skip<|bI _ _<|Zs k fun _ bK=>?_;refine Za rfl<|Zx bK fun a k _ bL=>?_;refine Ze (Vn X1i f)<|Zm rfl<|Zf (Vc (F23 _ w0.heap.size N Q (((cWd m).getD cZ).gs) e (((cWd m).getD cZ).n) 1 (by decide) (Nat.le_trans (X5p m) (by decide))) Xrf) ?_;rintro _ d5 ⟨rfl,W,hg⟩;have h:=e;have g:=g.appT h hg rfl;have c:=c.appT h hg rfl;have f:=f.appT h hg rfl;have b:=b.appP hg aH;have j:=Below.app j h hg (Nat.le_refl _) j.size
 clear h hg;clear e;have e:=W;clear W;refine Za rfl<|Zx bL fun a k _ bM=>?_;refine Za rfl<|Zx bM fun a k _ bN=>?_;refine Ze (Vn X1i f)<|Zm rfl<|Zf (Vc (F33 _ N Q (((cWd m).getD cZ).gs).length (markG 1 (((cWd m).getD cZ).gs).length) (X41 _ _).symm e.rd.top (((cWd m).getD cZ).n) 1 (by decide) (by rw [X41];exact (Nat.le_trans (X5p m) (by decide)))) Xms) ?_;rintro _ d6 ⟨rfl,d⟩;have g:=g.below d;have c:=c.below d;have f:=f.below d;have b:=b.below d;have e:=e.below d;have j:=btr j d;refine Za rfl<|ZX bN fun a k _ bO=>?_;refine Zs k fun _ bP=>?_;refine Zm rfl<|Ze (X15 rfl rfl)<|Zt bP fun a k=>?_
 refine Xs k rfl (fun G=>?_) (fun G=>?_)
 ·have D:=G;have G:=of_decide_eq_true G
  rw [X4u] at G;omega
 have D:=G;have G:=of_decide_eq_false G;refine wp_skip<|bO _ _<|wp_seq_k fun _ bQ=>?_;refine Zs k fun _ bR=>?_;refine Zm rfl<|Zm rfl<|Ze (X1h rfl rfl)<|Zt bR fun a k=>?_
 refine Xs k rfl (fun aA=>?_) (fun aA=>?_)
 ·have E:=aA
  rw [X4u] at aA;simp at aA
 have E:=aA;refine wp_skip<|bQ _ _<|Zs k fun _ bS=>?_;refine Ze (Vn X56 g)<|Zf (Vc (Xdt _ m Am cm (L.below' j).top J) X70) ?_;rintro _ d7 ⟨cP,cQ,rfl,aJ,d⟩;have aJ:=aJ.lower j.size;have c:=c.below d;have f:=f.below d;have b:=b.below d;have e:=e.below d;have j:=btr j d;refine Zf (Vc (Xmu _ m cP cQ aJ.rd.top (Nat.le_trans J (by decide)) (aP.of j)) Xe8) ?_;rintro _ d8 ⟨aN,aO,rfl,B,d⟩;have aX:=b.apart B (Nat.le_refl _);have aY:=e.apart B (Nat.le_refl _);have B:=B.lower j.size;have c:=c.below d;have f:=f.below d;have b:=b.below d;have e:=e.below d;have j:=btr j d;refine Zm rfl<|Ze (X6 (vs:=[.agg #[vi (((cWd m).getD cZ).n),.slice aN (((cWd m).getD cZ).gs).length aO],.bool ((cWd m).isSome)]) rfl rfl)<|Ze (X6 (vs:=[.agg #[vi (((cWd m).getD cZ).n),.slice aN (((cWd m).getD cZ).gs).length aO],.bool ((cWd m).isSome)]) rfl rfl)<|Zf (Xc (zs:=[vi 0,.slice none 0 0]) Xbr rfl) ?_;rintro _ d9 ⟨b52,rfl,bU,d,aE⟩
 have aZ:aK≠b52:=by have:=c.lt;omega
 have b0:b22≠b52:=by have:=f.lt;omega
 have aT:=Nat.le_trans j.size bU;have c:=c.below d;have f:=f.below d;have b:=b.below d;have e:=e.below d;have B:=B.below d;have j:=btr j d;refine Zo (Vw [vi (((cWd m).getD cZ).n),.slice aN (((cWd m).getD cZ).gs).length aO] X2d aE) ?_;rintro _ w26 ⟨H,hb⟩;have p:=aE;have c:=c.only H (by omega);have f:=f.only H (by omega);have b:=b.onlyT H p rfl;have e:=e.onlyT H p rfl;have B:=B.onlyT H p rfl;have j:=Below.only j H aT;have aE:=hb;refine Za rfl<|ZX bS fun a k _ bW=>?_;refine wp_seq_k fun _ bX=>?_;refine X0o (fun a w=>Fr a 96 [(7,.pointer (some ⟨b22,0,none⟩)),(10,vi (1+3*((((cWd m).getD cZ).gs).length:Int))),(87,.bool ((!(eqC ((cWd m).getD cZ) ((cWd m).getD cZ)))||(((cWd m).isSome) != ((cWd m).isSome))))]∧Below w26.heap.size w26 w) ?_ ?_
 ·have A:Below w26.heap.size w26 w26:=Below.refl _ _
  refine Zr k<|Ze (Vn X1i aE)<|Ze (Vn X1i c)<|Zf (Vc (F19 _ ((cWd m).getD cZ) aN aO B.rd.top ((cWd m).getD cZ) aF aG b.rd.top (Nat.le_trans (X5p m) (by decide))) Xi5) ?_;rintro _ w27 ⟨rfl,d⟩;have j:=btr j d;have A:=btr A d;refine Ze (X0z rfl)<|Zm rfl ?_
  refine Zg 83 rfl (fun z=>?_) (fun z=>?_)
  ·refine Zp (gP z) ?_;refine Zp (gP z) ?_;refine Zp (gP z) ?_;refine Ze (Xw rfl z rfl) ?_;refine Zn fun a k=>?_
   have C:Below w26.heap.size w26 w27:=A
   exact ⟨k.sub ⟨rfl,rfl,X1 rfl (by first|rfl|(simp only [t,q,x,I,D,E,z,Bool.true_and,Bool.false_and,Bool.true_or,Bool.false_or];done)|(simp [t,q,x,I,D,E,z];done)|(exfalso;revert z;simp)),trivial⟩,C⟩
  refine Zv (gW z) (Xo rfl) ?_;refine Zv (gW z) (Xo rfl) ?_;refine Zv (gW z) (Xgi Tryz.underlying4 rfl rfl) ?_;refine Ze (Xr rfl z rfl) ?_;refine Zn fun a k=>?_
  have C:Below w26.heap.size w26 w27:=A
  exact ⟨k.sub ⟨rfl,rfl,X1 rfl (by first|rfl|(simp only [t,q,x,I,D,E,z,Bool.true_and,Bool.false_and,Bool.true_or,Bool.false_or];done)|(simp [t,q,x,I,D,E,z];done)|(exfalso;revert z;simp)),trivial⟩,C⟩
 rintro a dA ⟨k,d⟩;have f:=f.below d;have e:=e.below d;have j:=btr j d;refine bX _ _<|X5e k (X1 rfl q) ?_;refine wp_skip<|bW _ _<|Zs k fun _ bY=>?_;refine Za rfl<|Zx bY fun a k _ bZ=>?_;refine Ze (Vn X1i f)<|Zm rfl<|Zf (Vc (F33 _ N Q (((cWd m).getD cZ).gs).length (markG 1 (((cWd m).getD cZ).gs).length) (X41 _ _).symm e.rd.top (((cWd m).getD cZ).n) 1 (by decide) (by rw [X41];exact (Nat.le_trans (X5p m) (by decide)))) Xms) ?_;rintro _ dB ⟨rfl,d⟩;have j:=btr j d;refine Za rfl<|ZX bZ fun a k _ c6=>?_;refine Zs k fun _ c7=>?_;refine Zm rfl<|Ze (X15 rfl rfl)<|Zt c7 fun a k=>?_;refine X5e k (X1 rfl D) ?_;refine wp_skip<|c6 _ _<|wp_seq_k fun _ cA=>?_;refine Zs k fun _ cB=>?_;refine Zm rfl<|Zm rfl<|Ze (X1h rfl rfl)<|Zt cB fun a k=>?_;refine X5e k (X1 rfl E) ?_;refine wp_skip<|cA _ _<|Zs k fun _ cC=>?_;refine Za rfl<|Zt cC fun a k=>?_
 refine wp_ret (X2 k (Xt k rfl rfl) ?_)
 exact ⟨rfl,j⟩
end Go.Proofs.YtblmmikapnflcaaGreatDoor
namespace Go.Proofs.YtblmmikapnflcaaGreatDoor
open Go.RowKit Go.ChangeShapes Go.WideShapes Go.Deep Go.Joins
section
variable {H : Type} {enc : TypeId × Value → H} {w : World} {base fuel : Nat} {spare : Nat → Bool} {held : Bool}
theorem X92:Tryz.prog.cellsOf 100=4:=by kernel_rfl
theorem X9a:Tryz.prog.cellsOf 102=5:=by kernel_rfl
theorem Xeq:Tryz.prog.cellsOf 22=1:=by kernel_rfl
theorem Xel:Tryz.prog.cellsOf 24=3:=by kernel_rfl
set_option maxRecDepth 100000 in
theorem Xf4{cs:List Value}{x:DataW H×List MemPlace}(h:DataW.trod enc Tryz.prog w base spare held fuel 100 cs=some x) : ∃ g:Rg,cs=encR g:=by
 obtain ⟨y0,y1,y2,y3,n,_,hl,h0,h1,h2,h3⟩:=trod_struct4 Tryz.underlying100 h
 rw [X92] at hl
 match cs,hl with
 | [c0,c1,c2,c3],_=>
  simp only [Xck] at h0 h1 h2 h3
  obtain ⟨a,e0,_⟩:=DataW.trod_int Tryz.underlying3 h0;obtain ⟨b,e1,_⟩:=DataW.trod_int Tryz.underlying3 h1;obtain ⟨c,e2,_⟩:=DataW.trod_int Tryz.underlying3 h2;obtain ⟨d,e3,_⟩:=DataW.trod_int Tryz.underlying3 h3
  simp at e0 e1 e2 e3
  exact ⟨⟨a,b,c,d⟩,by rw [e0,e1,e2,e3];rfl⟩
set_option maxRecDepth 100000 in
theorem Xbm{cs:List Value}{x:DataW H×List MemPlace}(h:DataW.trod enc Tryz.prog w base spare held fuel 102 cs=some x) : ∃ g:Dy,cs=encD g:=by
 obtain ⟨y0,y1,n,_,hl,h0,h1⟩:=trod_struct2 Tryz.underlying102 h
 rw [X9a] at hl
 match cs,hl with
 | [c0,c1,c2,c3,c4],_=>
  simp only [X92] at h0
  simp only [Xck] at h1
  obtain ⟨z,e0⟩:=Xf4 h0;obtain ⟨a,e1,_⟩:=DataW.trod_int Tryz.underlying3 h1
  simp [encR] at e0 e1
  obtain ⟨g0,g1,g2,g3⟩:=e0;exact ⟨⟨z,a⟩,by rw [g0,g1,g2,g3,e1];rfl⟩
set_option maxRecDepth 100000 in
theorem X9f{cs:List Value}{x:DataW H×List MemPlace}(h:DataW.trod enc Tryz.prog w base spare held fuel 22 cs=some x)(hsp:∀ b,spare b=true) :
  ∃ A l c E,cs=[.slice A l.length c]∧Rd w w.heap.size E encD A l∧l.length≤9223372036854775807:=by
 rcases open_slice Tryz.underlying22 h with ⟨hcs,_⟩|⟨a,len,cap,m,n,D,Pl,hcs,hb,hl,hm,hmm,_,hi⟩
 ·exact ⟨none,[],0,0,hcs,Rd.nil _ _ _ _ _,by simp⟩
 ·rw [X9a] at hi
  have hlm:len≤m:=by rw [hmm,hsp];simpa using hl
  obtain ⟨l,h1,h2⟩:=Xmb (n:=len) (Q:=fun i g=>∀ j v,(encD g)[j]? = some v→w.cell? (a.add (i*5+j))=some v) fun i hilt=>by
   obtain ⟨cs',hc,ht⟩:=hi i (by omega)
   obtain ⟨g,rfl⟩:=Xbm ht;obtain ⟨_,_,hat⟩:=World.cells?_some hc
   refine ⟨g,fun j v hj=>?_⟩
   have hj3:j<5:=by have:=(List.getElem?_eq_some_iff.1 hj).1;simpa [encD] using this
   rw [← X5n,hat j hj3]
   exact hj
  obtain ⟨E,hr⟩:=Xag X09 (by decide) h2
  refine ⟨some a,l,cap,E,by rw [hcs,h1],hr,?_⟩
  simp only [maxLen] at hm
  omega
set_option maxRecDepth 100000 in
theorem Xga{r:Reach}{b0:Nat}{v:Value}{d:DataW H}{p:List MemPlace}(hv:Value.okWide Tryz.prog w r b0 24 v)(h:DataW.Trod enc Tryz.prog w base spare held 24 v d p)(hsp:∀ b,spare b=true) :
  ∃ (m:Mx) (A:Option Addr) (k:Nat) (E:TypeId),v=.agg #[.int .i64 m.rows,.int .i64 m.cols,.slice A m.cells.length k]∧Rd w w.heap.size E encD A m.cells∧m.cells.length≤9223372036854775807:=by
 obtain ⟨⟨cs⟩,rfl,hsz⟩:=okWide_struct Tryz.underlying24 hv
 rw [Xel] at hsz
 obtain ⟨fuel,hf⟩:=h;obtain ⟨y0,y1,y2,n,_,hl,h0,h1,h2⟩:=trod_struct3 Tryz.underlying24 hf
 match cs,hsz with
 | [c0,c1,c2],_=>
  simp only [Xck] at h0 h1
  simp only [Xeq] at h2
  obtain ⟨a,e0,_⟩:=DataW.trod_int Tryz.underlying3 h0;obtain ⟨b,e1,_⟩:=DataW.trod_int Tryz.underlying3 h1;obtain ⟨A,l,k,E,e2,hr,hl2⟩:=X9f h2 hsp
  simp [Value.cells] at e0 e1 e2
  exact ⟨⟨a,b,l⟩,A,k,E,by rw [e0,e1,e2],hr,hl2⟩
end
end Go.Proofs.YtblmmikapnflcaaGreatDoor
namespace Go.Proofs.YtblmmikapnflcaaGreatDoor
open Go.RowKit
theorem Xsn : ((Tryz.prog.globalNamed "internal/strconv.uint64pow10").bind fun g => (Tryz.prog.globals[g]?).map (·.type)) = some (269 : TypeId) := by kernel_rfl
theorem Xs8:(Rows.laid_internal_strconv_uint64pow10:DataW Unit)=Lib.tabData .u64 Lib.pow10Tab:=by kernel_rfl
theorem Xnd {W : World} (h : laidMetH Tryz.prog [("math/bits.deBruijn32tab", Rows.laid_math_bits_deBruijn32tab), ("math/bits.deBruijn64tab", Rows.laid_math_bits_deBruijn64tab), ("internal/strconv.uint64pow10", Rows.laid_internal_strconv_uint64pow10)] W) : PowT W := by
 rw [MakeChecks.laidMetH_plain _ _ _ (by kernel_rfl)] at h
 obtain ⟨g,t,cs,fuel,p,h1,h2,h3,h4⟩:=Lib.laidMet.reads h (.tail _ (.tail _ (.head _)));have h5:=Xsn
 rw [h1,Option.bind_some,h2] at h5
 injection h5 with h5
 subst h5
 rw [Xs8] at h4
 have hc:=Lib.cells_of_tab Tryz.underlying269 Tryz.underlying241 (by kernel_rfl) (by kernel_rfl) h4
 have ht : Lib.TabIs Tryz.prog W "internal/strconv.uint64pow10" .u64 Lib.pow10Tab := by
  unfold Lib.TabIs
  rw [h3,← hc]
 exact Lib.tabBelow_of_tabIs ht
end Go.Proofs.YtblmmikapnflcaaGreatDoor
namespace Go.Proofs.YtblmmikapnflcaaGreatDoor
open Go.ChangeShapes Go.WideShapes Go.ChangeAt Go.RowKit Go.Deep Go.Joins
set_option linter.unusedVariables false
set_option maxRecDepth 100000 in
theorem Xab(os:Os)(started:os.Started)(H:Type)(enc:TypeId×Value→H) :
  ReturnsInHanded {} Tryz.checked os 3 .any (fun w args=>(Rows.fnExactShortestWordSpec.pre enc Tryz.prog Tryz.f3 [] false w args∧laidMetH Tryz.prog Rows.fnExactShortestWordRow.laid w)∧sizedMet enc Tryz.prog Tryz.f3 (OpenSpec.ofChange Rows.fnExactShortestWordSpec) false w args)
   (Rows.fnExactShortestWordSpec.post enc Tryz.prog Tryz.f3 false true false false):=by
 refine returnsInHanded_of_change_and (C:=Tryz.checked) (X:=fun w _=>laidMetH Tryz.prog Rows.fnExactShortestWordRow.laid w) (fun _ _ _ hh h=>h.of_heap hh) own started (by kernel_rfl) Tryz.func3
  (ChangeSpec.witness_shaped (enc:=enc) (C:=Tryz.checked) (os:=os) (X:=fun w _=>laidMetH Tryz.prog Rows.fnExactShortestWordRow.laid w) false (World.laidAll Tryz.prog os Rows.fnExactShortestWordRow.laid) #[.agg #[.int .i64 0,.int .i64 0,.slice none 0 0]] 8 (World.laidAll_os _ _ _)
   (World.shaped_of_ZipB (by kernel_rfl) (by kernel_rfl)) (by kernel_rfl) (by kernel_rfl) (by kernel_rfl)
   (by rw [MakeChecks.laidMetH_plain _ _ _ (by kernel_rfl)];exact laidMet_laidAll _ (by kernel_rfl) (by kernel_rfl))) ?_
 intro W base args ds gs before hval0 hW _ _ hL _
 have hval:∀ (j:Nat) t v,Tryz.f3.params[j]? = some t→args[j]? = some v→Value.okWide Tryz.prog W .any base t v:=hval0
 have hW':=hW
 obtain ⟨p,q,hA0,hV,rfl,hfz,hnd⟩:=hW
 have hA:DataW.TrodAll enc Tryz.prog W 0 (fun _=>true) true Tryz.f3.params.toList args.toList ds p:=hA0
 rw [Tryz.params3] at hA hval
 obtain ⟨v0,d0,rfl,rfl,h0⟩:=trodAll_one hA;obtain ⟨rfl,rfl⟩:=trodVars_none hV;have h0k:=h0
 obtain ⟨m,A,i,E,rfl,hr0,hl0⟩:=Xga (hval 0 24 v0 rfl rfl) h0 (fun _=>rfl)
 clear hA0 hval0
 simp only [List.append_nil] at hW'
 have hlt:∀ x ∈ p,x.block<W.heap.size:=fun x hx=>hW'.lt x (by simpa using hx)
 have hPow:=Xnd hL;refine Calls.mono (Xqx W m A i hr0 hl0 hPow) fun r W' ⟨v,he,hv,hb⟩=>?_
 subst hv
 refine ⟨_,he,Xcb (pa:=p) (pv:=[]) hW' (fun _ _ _=>trodAll_mk1 (shut_bool Tryz.underlying4 true)) (fun sp hsp=>?_) (fun _ _=>rfl) (by simp) hb⟩
 exact trodAll_mk1 (WideElems.Trod_stays Xkv (by kernel_rfl) (of_decide_eq_true (by kernel_rfl)) h0k (fun x hx=>hb.same (hlt x hx)) (fun x hx=>hsp x hx))
theorem Xfc:Rows.FnExactShortestWordSaid:=
 OpenClaim.holds_of_wide 3 Tryz.f3 rfl rfl rfl rfl rfl rfl rfl ⟨rfl,rfl,rfl,rfl,rfl⟩ rfl rfl rfl rfl rfl (by kernel_rfl) Tryz.func3 (by kernel_rfl)
  (of_decide_eq_true (by kernel_rfl)) (by unfold Func.isWrapper;first|(rw [if_pos (by decide +kernel)];kernel_rfl)|(rw [if_neg (by decide +kernel)];exact ⟨rfl,rfl⟩))
  (fun os started H enc _=>Xab os started H enc)
theorem Xhl : Tryz.prog.funcNamed "loop.example/g00864/laws.FnExactShortestWord" = some 3 := by kernel_rfl
theorem Xan:Tryz.prog.wantsStandIn 24=false:=by kernel_rfl
theorem short_holds:Rows.FnExactShortestWordCardSaid:=
 Claim7.holds_tied_plain_at .later [] [.data, .data, .data] true (true, "d67b8a333686db2ad90547f7332ed44c940649eedb26d49b61633b9a266fa1e5") false
  Xfc (fun _ h=>by cases h) (by kernel_rfl) (fun _ h=>by cases h) fnExactShortestWord_row_tie rfl ⟨rfl,rfl⟩ (by kernel_rfl) rfl
  (fun f fn hf hfn=>by
   obtain rfl:f=3:=Option.some.inj (Xhl.symm.trans hf) |>.symm
   obtain rfl:fn=Tryz.f3:=(Option.some.inj (Tryz.func3.symm.trans hfn)).symm
   exact ⟨by kernel_rfl,fun j t ht=>by
    rw [Tryz.params3] at ht
    have hm:=Array.mem_of_getElem? ht
    simp only [List.mem_toArray,List.mem_cons,List.mem_nil_iff,or_false] at hm
    subst hm;exact Xan⟩)
  (by kernel_rfl)
end Go.Proofs.YtblmmikapnflcaaGreatDoor
