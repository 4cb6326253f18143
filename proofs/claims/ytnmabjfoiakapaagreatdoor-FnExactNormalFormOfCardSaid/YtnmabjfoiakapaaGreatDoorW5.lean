/-
  What is proved: for every matrix, the program's NormalFormOf answers as the reference's does and leaves its argument as it was; the argument and the variable half read as before. Conditions: none beside the variable's value, which the card ties to the program's text.
-/
import Derived.Test.YtnmabjfoiakapaaGreatDoorW4
import Derived.Test.YtnmabjfoiakapaaGreatDoorW2
import Derived.Test.YtnmabjfoiakapaaGreatDoorW3
import Derived.Test.YtnmabjfoiakapaaGreatDoorRows
import Derived.Lib.LaidU8
import Derived.ChangeVars
import Derived.MakeChecks
import Derived.Test.YtnmabjfoiakapaaGreatDoorCards
import Derived.Test.YtnmabjfoiakapaaGreatDoorTie
import Derived.Lay
set_option linter.unusedVariables false
set_option linter.unusedSimpArgs false
set_option maxHeartbeats 1000000
set_option maxRecDepth 4000
set_option linter.unusedSectionVars false
namespace Go.Proofs.YtnmabjfoiakapaaGreatDoor
open Go.RowKit
theorem Xij(w0:World)(bV:Nat)(o:Blk w0 bV 95 [.bool false])(Ap:Option Addr)(cp:Nat)(p:List Dy)(e:Rd w0 w0.heap.size 86 encD Ap p)(Aq:Option Addr)(cq:Nat)(q:List Dy)(f:Rd w0 w0.heap.size 86 encD Aq q)(cH:p.length=9)(cJ:q.length=9)(b2:∀ x ∈ p,dOk x=true)(b3:∀ x ∈ q,dOk x=true)(r:List Dy)(hr:mulBI p q=some r) : Ret Tryz.prog 63 [.pointer (some ⟨bV,0,none⟩),.agg #[.slice Ap p.length cp],.agg #[.slice Aq q.length cq]] w0 (fun v w=>∃ A c,v=.agg #[.slice A r.length c]∧Own w w0.heap.size 86 5 encD A c r∧Kept bV w0.heap.size w0 w∧Blk w bV 95 [.bool false]):=by
 have d7:=o.lt;refine enter Tryz.func63 rfl 53 rfl rfl ?_;intro a I
 have H:Kept bV w0.heap.size w0 w0:=Kept.refl _ _ _
 refine Zs I fun _ cK=>?_;refine Zf (X09 (zs:=[.slice Ap p.length cp]) rfl rfl) ?_;rintro _ w1 ⟨b4,rfl,cM,G,y⟩;have d8:=Q0 H.size cM;have o:=o.below G;have e:=e.below G;have f:=f.below G;have H:=ktr H G;refine Zf (X09 (zs:=[.slice Aq q.length cq]) rfl rfl) ?_;rintro _ w2 ⟨b5,rfl,cO,G,B⟩
 have cE:b4≠b5:=by have:=y.lt;omega
 have d9:=Q0 H.size cO;have o:=o.below G;have y:=y.below G;have e:=e.below G;have f:=f.below G;have H:=ktr H G;refine Zf (X5 (zs:=[.slice none 0 0]) X1z rfl) ?_;rintro _ w3 ⟨b7,rfl,cP,G,D⟩
 have cF:b4≠b7:=by have:=y.lt;omega
 have cG:b5≠b7:=by have:=B.lt;omega
 have b6:=Q0 H.size cP;have o:=o.below G;have y:=y.below G;have B:=B.below G;have e:=e.below G;have f:=f.below G;have H:=ktr H G;refine Zx cK fun a I _ cQ=>?_;refine Zf (X5 (zs:=[.slice none 0 0]) X1z rfl) ?_;rintro _ w4 ⟨b10,rfl,b8,G,n⟩
 have b9:b4≠b10:=by have:=y.lt;omega
 have bC:b5≠b10:=by have:=B.lt;omega
 have bD:b7≠b10:=by have:=D.lt;omega
 have aQ:=Q0 H.size b8;have o:=o.below G;have y:=y.below G;have B:=B.below G;have D:=D.below G;have e:=e.below G;have f:=f.below G;have H:=ktr H G;refine ZX cQ fun a I _ bE=>?_;refine Zs I fun _ bF=>?_;refine Za rfl<|Zt bF fun a I=>?_;refine Q8<|X03 (σ:=Nat×(List Dy)) (fun (s:Nat×(List Dy)) (a:Act) (w:World)=>match s with|(i,l)=>∃ a9 aA,Fr a 53 [(0,.pointer (some ⟨bV,0,none⟩)),(4,.pointer (some ⟨b4,0,none⟩)),(5,.pointer (some ⟨b5,0,none⟩)),(6,.pointer (some ⟨b7,0,none⟩)),(7,.pointer (some ⟨b10,0,none⟩)),(8,vi (i:Int))]∧(i≤3)∧(seqO (gridG (fun i j=>dotI (bm3 p) (bm3 q) i j 3) 3) (i*3)=some l)∧Blk w bV 95 [.bool false]∧Blk w b4 66 [.slice Ap p.length cp]∧Blk w b5 66 [.slice Aq q.length cq]∧Blk w b7 66 [.slice none 0 0]∧Blk w b10 66 [.slice a9 l.length aA]∧Rd w w0.heap.size 86 encD Ap p∧Rd w w0.heap.size 86 encD Aq q∧Own w w0.heap.size 86 5 encD a9 aA l∧Kept bV w0.heap.size w0 w) (fun (s:Nat×(List Dy))=>match s with|(i,l)=>3-i) (0,[]) ?_ ?_
 ·exact ⟨none,0,I.sb,(by omega),(by rw [Nat.zero_mul];rfl),o,y,B,D,n,e,f,(Own.nil _ _ _ _ _),H⟩
 rintro ⟨i,l⟩ a w5 ⟨a9,aA,I,hi,hl,o,y,B,D,n,e,f,aC,H⟩;refine Q5 fun _ bG=>?_;refine Zs I fun _ bH=>?_;refine Zm rfl<|Ze (X15 rfl rfl)<|Zt bH fun a I=>?_
 refine Xn I rfl (fun L=>?_) (fun L=>?_)
 ·have aR:=L;have L:=Q2 L
  have aI:i<3:=by have:=L;omega
  refine Q7<|bG _ _<|Q5 fun _ bI=>?_;refine Q8<|Zs I fun _ bJ=>?_;refine Za rfl<|Zt bJ fun a I=>?_;refine Q8<|X03 (σ:=Nat×(List Dy)) (fun (s:Nat×(List Dy)) (a:Act) (w:World)=>match s with|(j,l2)=>∃ aF aG,Fr a 53 [(0,.pointer (some ⟨bV,0,none⟩)),(4,.pointer (some ⟨b4,0,none⟩)),(5,.pointer (some ⟨b5,0,none⟩)),(6,.pointer (some ⟨b7,0,none⟩)),(7,.pointer (some ⟨b10,0,none⟩)),(8,vi (i:Int)),(9,vi (j:Int))]∧(j≤3)∧(seqO (gridG (fun i j=>dotI (bm3 p) (bm3 q) i j 3) 3) (i*3+j)=some l2)∧Blk w bV 95 [.bool false]∧Blk w b4 66 [.slice Ap p.length cp]∧Blk w b5 66 [.slice Aq q.length cq]∧Blk w b7 66 [.slice none 0 0]∧Blk w b10 66 [.slice aF l2.length aG]∧Rd w w0.heap.size 86 encD Ap p∧Rd w w0.heap.size 86 encD Aq q∧Own w w0.heap.size 86 5 encD aF aG l2∧Kept bV w0.heap.size w0 w) (fun (s:Nat×(List Dy))=>match s with|(j,l2)=>3-j) (0,l) ?_ ?_
  ·exact ⟨a9,aA,I.sb,(by omega),hl,o,y,B,D,n,e,f,aC,H⟩
  rintro ⟨j,l2⟩ a w6 ⟨aF,aG,I,hj,aN,o,y,B,D,n,e,f,E,H⟩;refine Q5 fun _ bK=>?_;refine Zs I fun _ bL=>?_;refine Zm rfl<|Ze (X15 rfl rfl)<|Zt bL fun a I=>?_
  refine Xn I rfl (fun M=>?_) (fun M=>?_)
  ·have aS:=M;have M:=Q2 M
   have aJ:j<3:=by have:=M;omega
   have dA:=X2w aN;refine Q7<|bK _ _<|Q5 fun _ bM=>?_;refine Q8<|Zs I fun _ bN=>?_;refine Ze (Xf (ps:=[]) (cs:=[vi 0,vi 0,vi 0,vi 0,vi 0]) rfl (fun _=>by first|rfl|kernel_rfl))<|Zf (X5 (zs:=[vi 0,vi 0,vi 0,vi 0,vi 0]) X0j rfl) ?_;rintro _ w7 ⟨aT,rfl,aD,G,C⟩;have U:=Q0 H.size aD;have bO:=e.away aD;have bP:=f.away aD;have W:=E.away aD;have o:=o.below G;have y:=y.below G;have B:=B.below G;have D:=D.below G;have n:=n.below G;have e:=e.below G;have f:=f.below G;have E:=E.below G;have H:=ktr H G;refine Zo (Vw [vi 0,vi 0,vi 0,vi 0,vi 0] X8 C) ?_;rintro _ w8 ⟨J,hb⟩;have g:=C;have o:=o.only J (Blk.ne o g rfl);have y:=y.only J (Blk.ne y g rfl);have B:=B.only J (Blk.ne B g rfl);have D:=D.only J (Blk.ne D g rfl);have n:=n.only J (Blk.ne n g rfl);have e:=e.only J U;have f:=f.only J U;have E:=E.onlyA J W;have H:=Kept.only H J U;have C:=hb;refine ZX bN fun a I _ bQ=>?_;refine Zs I fun _ bR=>?_;refine Za rfl<|Zt bR fun a I=>?_;refine Q8<|X03 (σ:=Nat×Dy) (fun (s:Nat×Dy) (a:Act) (w:World)=>match s with|(k,s)=>Fr a 53 [(0,.pointer (some ⟨bV,0,none⟩)),(4,.pointer (some ⟨b4,0,none⟩)),(5,.pointer (some ⟨b5,0,none⟩)),(6,.pointer (some ⟨b7,0,none⟩)),(7,.pointer (some ⟨b10,0,none⟩)),(8,vi (i:Int)),(9,vi (j:Int)),(10,.pointer (some ⟨aT,0,none⟩)),(11,vi (k:Int))]∧(k≤3)∧(dotI (bm3 p) (bm3 q) i j k=some s)∧Blk w bV 95 [.bool false]∧Blk w b4 66 [.slice Ap p.length cp]∧Blk w b5 66 [.slice Aq q.length cq]∧Blk w b7 66 [.slice none 0 0]∧Blk w b10 66 [.slice aF l2.length aG]∧Blk w aT 86 [vi s.num.a,vi s.num.b,vi s.num.c,vi s.num.d,vi s.exp]∧Rd w w0.heap.size 86 encD Ap p∧Rd w w0.heap.size 86 encD Aq q∧Own w w0.heap.size 86 5 encD aF aG l2∧Kept bV w0.heap.size w0 w) (fun (s:Nat×Dy)=>match s with|(k,s)=>3-k) (0,dZ) ?_ ?_
   ·exact ⟨I.sb,(by omega),rfl,o,y,B,D,n,C,e,f,E,H⟩
   rintro ⟨k,s⟩ a w9 ⟨I,hk,hs,o,y,B,D,n,C,e,f,E,H⟩;refine Q5 fun _ bS=>?_;refine Zs I fun _ bU=>?_;refine Zm rfl<|Ze (X15 rfl rfl)<|Zt bU fun a I=>?_
   refine Xn I rfl (fun N=>?_) (fun N=>?_)
   ·have aU:=N;have N:=Q2 N
    have aK:k<3:=by have:=N;omega
    obtain ⟨z,t,cR,cS,cT,cU,cV,dB⟩:=Xqr hr b2 b3 aI aJ aK hs;refine Q7<|bS _ _<|Q5 fun _ bW=>?_;refine Q8<|X08 (some bV) (fun j=>[21].contains j) mixed ?_;intro cW G;have o:=o.below G;have y:=y.below G;have B:=B.below G;have D:=D.below G;have n:=n.below G;have C:=C.below G;have e:=e.below G;have f:=f.below G;have E:=E.below G;have H:=ktr H G;refine Yb I<|Yo 0 rfl (fun _=>Xd rfl) ?_;refine Yw 1 rfl trivial (fun w1 h1=>Xy (l:=[vi s.num.a,vi s.num.b,vi s.num.c,vi s.num.d,vi s.exp]) rfl X3 ((C.only h1 (Blk.ne C o rfl)).at 0) rfl) ?_;refine Yo 2 rfl (fun _=>Xd rfl)<|Yo 3 rfl (fun _=>Vd rfl X0v 0) ?_;refine Yw 4 rfl trivial (fun w1 h1=>X0 rfl X0h ((y.only h1 (Blk.ne y o rfl)).at 0)) ?_;refine Yo 5 rfl (fun _=>Xd rfl)<|Yo 6 rfl (fun _=>X5r rfl rfl (by omega) (by omega))<|Yo 7 rfl (fun _=>Xd rfl)<|Yo 8 rfl (fun _=>X05 rfl rfl (by omega) (by omega)) ?_;refine Ya (k:=(3*i+k)) (u:=((bm3 p).at i k)) (enc:=encD) (l:=p) 9 rfl trivial o rfl rfl rfl Xr X8 Xs e (at9 cH aI aK) (by omega) ?_;intro dC aW aO;refine Yw 10 rfl trivial (fun w1 h1=>Xy (l:=[vi (((bm3 p).at i k).num.a),vi (((bm3 p).at i k).num.b),vi (((bm3 p).at i k).num.c),vi (((bm3 p).at i k).num.d),vi (((bm3 p).at i k).exp)]) rfl X3 (aW.only h1 aO) rfl) ?_;refine Yo 11 rfl (fun _=>Vd rfl X0v 0) ?_;refine Yw 12 rfl trivial (fun w1 h1=>X0 rfl X0h ((B.only h1 (Blk.ne B o rfl)).at 0)) ?_;refine Yo 13 rfl (fun _=>Xd rfl)<|Yo 14 rfl (fun _=>X5r rfl rfl (by omega) (by omega))<|Yo 15 rfl (fun _=>Xd rfl)<|Yo 16 rfl (fun _=>X05 rfl rfl (by omega) (by omega)) ?_;refine Ya (k:=(3*k+j)) (u:=((bm3 q).at k j)) (enc:=encD) (l:=q) 17 rfl trivial o rfl rfl rfl Xr X8 Xs f (at9 cJ aK aJ) (by omega) ?_;intro dD aX aP
    refine Yw 18 rfl trivial (fun w1 h1=>Xy (l:=[vi (((bm3 q).at k j).num.a),vi (((bm3 q).at k j).num.b),vi (((bm3 q).at k j).num.c),vi (((bm3 q).at k j).num.d),vi (((bm3 q).at k j).exp)]) rfl X3 (aX.only h1 aP) rfl) ?_;refine Y1 19<|Yf rfl trivial (EfW.mono (X1g (vs:=[.pointer (some ⟨bV,0,none⟩),.agg #[vi (((bm3 p).at i k).num.a),vi (((bm3 p).at i k).num.b),vi (((bm3 p).at i k).num.c),vi (((bm3 p).at i k).num.d),vi (((bm3 p).at i k).exp)],.agg #[vi (((bm3 q).at k j).num.a),vi (((bm3 q).at k j).num.b),vi (((bm3 q).at k j).num.c),vi (((bm3 q).at k j).num.d),vi (((bm3 q).at k j).exp)]]) rfl Xem (by have hq:=Xr1 cW bV false o ((bm3 p).at i k) ((bm3 q).at k j) (X1m (Mx.at_ok (m:=bm3 p) b2 i k)) (X1m (Mx.at_ok (m:=bm3 q) b3 k j));rw [cR] at hq;exact hq)) (fun _ _ h=>⟨fun _=>by obtain ⟨rfl,hK,aB⟩:=h;exact hK.keep,h⟩)) ?_;rintro _ cX ⟨rfl,hK,aB⟩;obtain ⟨wm,hO,hm,G⟩:=hK.mid;clear hm;have g:=o;have y:=y.only hO (Blk.ne y g rfl);have B:=B.only hO (Blk.ne B g rfl);have D:=D.only hO (Blk.ne D g rfl);have n:=n.only hO (Blk.ne n g rfl);have C:=C.only hO (Blk.ne C g rfl);have e:=e.onlyT hO g rfl;have f:=f.onlyT hO g rfl;have E:=E.onlyT hO g rfl;have H:=H.self hO;have y:=y.below G;have B:=B.below G;have D:=D.below G;have n:=n.below G;have C:=C.below G;have e:=e.below G;have f:=f.below G;have E:=E.below G;have H:=ktr H G
    clear g G hO hK;have o:=aB;clear aB;refine Y1 20<|Yf rfl trivial (EfW.mono (X1g (vs:=[.pointer (some ⟨bV,0,none⟩),.agg #[vi s.num.a,vi s.num.b,vi s.num.c,vi s.num.d,vi s.exp],.agg #[vi z.num.a,vi z.num.b,vi z.num.c,vi z.num.d,vi z.exp]]) rfl Xbx (by have hq:=Xp2 cX bV false o s z cV cU;rw [cS] at hq;exact hq)) (fun _ _ h=>⟨fun _=>by obtain ⟨rfl,hK,aB⟩:=h;exact hK.keep,h⟩)) ?_;rintro _ dE ⟨rfl,hK,aB⟩;obtain ⟨wm,hO,hm,G⟩:=hK.mid;clear hm;have g:=o;have y:=y.only hO (Blk.ne y g rfl);have B:=B.only hO (Blk.ne B g rfl);have D:=D.only hO (Blk.ne D g rfl);have n:=n.only hO (Blk.ne n g rfl);have C:=C.only hO (Blk.ne C g rfl);have e:=e.onlyT hO g rfl;have f:=f.onlyT hO g rfl;have E:=E.onlyT hO g rfl;have H:=H.self hO;have y:=y.below G;have B:=B.below G;have D:=D.below G;have n:=n.below G;have C:=C.below G;have e:=e.below G;have f:=f.below G;have E:=E.below G;have H:=ktr H G
    clear g G hO hK;have o:=aB;clear aB;refine Y1 21<|Yh rfl trivial rfl (Vw [vi t.num.a,vi t.num.b,vi t.num.c,vi t.num.d,vi t.exp] X8 C) ?_;rintro _ dF ⟨J,hb⟩;have g:=C;have o:=o.only J (Blk.ne o g rfl);have y:=y.only J (Blk.ne y g rfl);have B:=B.only J (Blk.ne B g rfl);have D:=D.only J (Blk.ne D g rfl);have n:=n.only J (Blk.ne n g rfl);have e:=e.only J U;have f:=f.only J U;have E:=E.onlyA J W;have H:=Kept.only H J U;have C:=hb;refine Yd fun a I=>?_;refine Xo<|bW _ _<|Zr I<|Zm rfl<|Ze (X05 rfl rfl (by omega) (by omega))<|Za rfl ?_;refine Zn fun a I=>?_;refine Xk ?_;exact ⟨(k+1,t),⟨I.sb,(by omega),cT,o,y,B,D,n,C,e,f,E,H⟩,(by first|omega|(dsimp only;omega))⟩
   have aU:=N;have N:=Q1 N
   have aK:k=3:=by have:=N;omega
   subst aK
   have d5:=Xju hr aJ aI aN hs;refine Q9<|Xj<|Xj<|X06 ?_;refine bQ _ _<|Zr I<|Ze (Vd rfl X0v 0)<|Ze (X0 rfl X0h (n.at 0))<|Ze (Vn X3 C)<|Zf (Xc (k:=1) (vs:=[.agg #[vi s.num.a,vi s.num.b,vi s.num.c,vi s.num.d,vi s.exp]]) (zs:=[vi s.num.a,vi s.num.b,vi s.num.c,vi s.num.d,vi s.exp]) rfl Xr X0w rfl rfl) ?_;rintro _ dG ⟨b36,rfl,aE,G,aL⟩
   have aZ:aT≠b36:=by have:=C.lt;omega
   have d6:=Q0 H.size aE;have bZ:=e.away aE;have cA:=f.away aE;have aH:=E.away aE;have o:=o.below G;have y:=y.below G;have B:=B.below G;have D:=D.below G;have n:=n.below G;have C:=C.below G;have e:=e.below G;have f:=f.below G;have E:=E.below G;have H:=ktr H G;refine Zf (X0m (enc:=encD) (l:=(l2)) (l2:=([s])) (B0:=w0.heap.size) rfl rfl Xr X0w Xs X1w E (Rd.of_blk aL rfl _ aL.lt) (by simp only [maxLen];simp;omega) (by simp;omega) H.size) ?_;rintro _ dH ⟨cB,cC,rfl,aM,hg,aY⟩
   have Q:Own _ w0.heap.size 86 5 encD _ _ (l2):=E
   have b0:=aY _ C.lt W;have b1:=aY _ aL.lt aH;clear aY;have o:=o.appT Q hg rfl;have y:=y.appT Q hg rfl;have B:=B.appT Q hg rfl;have D:=D.appT Q hg rfl;have n:=n.appT Q hg rfl;have e:=e.appB Q hg (Qb _);have f:=f.appB Q hg (Qb _);have H:=Kept.app H Q hg (Qb _) H.size;clear Q hg;refine Ze (Vd rfl X0v 0)<|Zo (Vw [.slice cB (l2++([s])).length cC] X32 n) ?_;rintro _ dI ⟨J,hb⟩;have g:=n;have o:=o.only J (Blk.ne o g rfl);have y:=y.only J (by omega);have B:=B.only J (by omega);have D:=D.only J (by omega);have e:=e.onlyT J g rfl;have f:=f.onlyT J g rfl;have aM:=aM.onlyT J g rfl;have H:=Kept.only H J aQ;have n:=hb;refine Zn fun a I=>?_;refine Xo<|bM _ _<|Zr I<|Zm rfl<|Ze (X05 rfl rfl (by omega) (by omega))<|Za rfl ?_;refine Zn fun a I=>?_;refine Xk ?_;exact ⟨(j+1,l2++[s]),⟨cB,cC,I.sb,(by omega),d5,o,y,B,D,n,e,f,aM,H⟩,(by first|omega|(dsimp only;omega))⟩
  have aS:=M;have M:=Q1 M
  have aJ:j=3:=by have:=M;omega
  refine Q9<|Xj<|Xj<|X06 ?_;refine Xo<|bI _ _<|Zr I<|Zm rfl<|Ze (X05 rfl rfl (by omega) (by omega))<|Za rfl ?_;refine Zn fun a I=>?_;refine Xk ?_;exact ⟨(i+1,l2),⟨aF,aG,I.sb,(by omega),(by rw [Wb,Nat.one_mul];rw [aJ] at aN;exact aN),o,y,B,D,n,e,f,E,H⟩,(by first|omega|(dsimp only;omega))⟩
 have aR:=L;have L:=Q1 L
 have aI:i=3:=by have:=L;omega
 refine Q9<|Xj<|Xj<|X06 ?_;refine bE _ _<|Zs I fun _ cD=>?_;refine Ze (Vn X13 n)<|Zo (Vw [.slice a9 l.length aA] X1d D) ?_;rintro _ dJ ⟨J,hb⟩;have g:=D;have o:=o.only J (Blk.ne o g rfl);have aC:=aC.onlyT J g rfl;have H:=Kept.only H J b6;have D:=hb;refine Zt cD fun a I=>?_
 refine Q6 (X4 I (Xx I rfl (ResV.cellN (l:=[.slice a9 l.length aA]) rfl X13 (D.at 0) rfl)) ?_)
 have he:r=l:=by rw [aI] at hl;exact Option.some.inj (hr.symm.trans hl)
 rw [he]
 exact ⟨a9,aA,rfl,aC,H,o⟩
theorem Xwp(D:World)(Ap:Option Addr)(cp:Nat)(p:List Dy)(J:Rd D D.heap.size 86 encD Ap p)(aR:p.length=9) : Ret Tryz.prog 112 [.agg #[.slice Ap p.length cp]] D (fun v w=>∃ A c,v=.agg #[.slice A (trB p).length c]∧Own w D.heap.size 86 5 encD A c (trB p)∧Below D.heap.size D w):=by
 refine enter Tryz.func112 rfl 25 rfl rfl ?_;intro a x
 have q:=bz D
 refine Zs x fun _ aS=>?_;refine Zf (X09 (zs:=[.slice Ap p.length cp]) rfl rfl) ?_;rintro _ w1 ⟨b3,rfl,aT,t,e⟩;have b0:=Q0 q.size aT;have q:=btr q t;refine Zf (X5 (zs:=[.slice none 0 0]) X1z rfl) ?_;rintro _ w2 ⟨b5,rfl,aU,t,f⟩
 have aO:b3≠b5:=by have:=e.lt;omega
 have aD:=Q0 q.size aU;have e:=e.below t;have q:=btr q t;refine Zx aS fun a x _ aW=>?_;refine Zf (X5 (zs:=[.slice none 0 0]) X1z rfl) ?_;rintro _ w3 ⟨b8,rfl,aX,t,m⟩
 have aP:b3≠b8:=by have:=e.lt;omega
 have aQ:b5≠b8:=by have:=f.lt;omega
 have aE:=Q0 q.size aX;have e:=e.below t;have f:=f.below t;have q:=btr q t;refine ZX aW fun a x _ aY=>?_;refine Zs x fun _ aF=>?_;refine Za rfl<|Zt aF fun a x=>?_;refine Q8<|X03 (σ:=Nat×(List Dy)) (fun (s:Nat×(List Dy)) (a:Act) (w:World)=>match s with|(n,l)=>∃ z B,Fr a 25 [(1,.pointer (some ⟨b3,0,none⟩)),(2,.pointer (some ⟨b5,0,none⟩)),(3,.pointer (some ⟨b8,0,none⟩)),(4,vi (n:Int))]∧(n≤9)∧(gridL (fun i j=>(bm3 p).at j i) 3 n=l)∧Blk w b3 66 [.slice Ap p.length cp]∧Blk w b5 66 [.slice none 0 0]∧Blk w b8 66 [.slice z l.length B]∧Own w D.heap.size 86 5 encD z B l∧Below D.heap.size D w) (fun (s:Nat×(List Dy))=>match s with|(n,l)=>9-n) (0,[]) ?_ ?_
 ·exact ⟨none,0,x.sb,(by omega),rfl,e,f,m,(Own.nil _ _ _ _ _),q⟩
 rintro ⟨n,l⟩ a w4 ⟨z,B,x,hn,hl,e,f,m,g,q⟩;refine Q5 fun _ aG=>?_;refine Zs x fun _ aH=>?_;refine Zm rfl<|Ze (X15 rfl rfl)<|Zt aH fun a x=>?_
 refine Xn x rfl (fun o=>?_) (fun o=>?_)
 ·have a9:=o;have o:=Q2 o
  have aA:n<9:=by have:=o;omega
  have b1:l.length=n:=by rw [← hl,X2b]
  refine Q7<|aG _ _<|Q5 fun _ aI=>?_;refine Q8<|X08 none (fun j=>[13,15].contains j) mixed ?_;intro w5 t;have e:=e.below t;have f:=f.below t;have m:=m.below t;have g:=g.below t;have q:=btr q t;refine Yb x<|Yo 0 rfl (fun _=>Vd rfl X0v 0)<|Ye 1 rfl (X0 rfl X0h (m.at 0))<|Yo 2 rfl (fun _=>Vd rfl X0v 0)<|Ye 3 rfl (X0 rfl X0h (e.at 0))<|Yo 4 rfl (fun _=>Xd rfl)<|Yo 5 rfl (fun _=>Vx (X9k rfl rfl rfl) (tm3 n).1)<|Yo 6 rfl (fun _=>X5r rfl rfl (by have:=tm3 n;omega) (by have:=tm3 n;omega))<|Yo 7 rfl (fun _=>Xd rfl)<|Yo 8 rfl (fun _=>Vx (Xcf rfl rfl rfl) (Xxp aA))<|Yo 9 rfl (fun _=>X05 rfl rfl (by omega) (by omega)) ?_;refine Yi (k:=(n % 3*3+n/3)) (u:=((bm3 p).at (n % 3) (n/3))) (enc:=encD) (l:=p) 10 rfl trivial rfl rfl Xr X8 Xs (J.below' q) (Xyb aR (by omega) (by omega)) (by have:=tm3 n;omega) ?_;intro b2 aB;refine Ye 11 rfl (Xy (l:=[vi (((bm3 p).at (n % 3) (n/3)).num.a),vi (((bm3 p).at (n % 3) (n/3)).num.b),vi (((bm3 p).at (n % 3) (n/3)).num.c),vi (((bm3 p).at (n % 3) (n/3)).num.d),vi (((bm3 p).at (n % 3) (n/3)).exp)]) rfl X3 aB rfl)<|Y1 12 ?_;refine Yk rfl trivial (Xc (k:=1) (vs:=[.agg #[vi (((bm3 p).at (n % 3) (n/3)).num.a),vi (((bm3 p).at (n % 3) (n/3)).num.b),vi (((bm3 p).at (n % 3) (n/3)).num.c),vi (((bm3 p).at (n % 3) (n/3)).num.d),vi (((bm3 p).at (n % 3) (n/3)).exp)]]) (zs:=[vi (((bm3 p).at (n % 3) (n/3)).num.a),vi (((bm3 p).at (n % 3) (n/3)).num.b),vi (((bm3 p).at (n % 3) (n/3)).num.c),vi (((bm3 p).at (n % 3) (n/3)).num.d),vi (((bm3 p).at (n % 3) (n/3)).exp)]) rfl Xr X0w rfl rfl) (fun _ _ ⟨_,_,_,h,_⟩=>h) ?_;rintro _ w6 ⟨b4,rfl,E,t,G⟩;have aZ:=Q0 q.size E;have aJ:=(J.below' q).away E
  have C:=g.away E;have e:=e.below t;have f:=f.below t;have m:=m.below t;have g:=g.below t;have q:=btr q t;refine Y1 13<|Yt rfl trivial rfl (X0m (enc:=encD) (l:=(l)) (l2:=([((bm3 p).at (n % 3) (n/3))])) (B0:=D.heap.size) rfl rfl Xr X0w Xs X1w g (Rd.of_blk G rfl _ G.lt) (by simp only [maxLen];simp;omega) (by simp;omega) q.size) ?_;rintro _ w7 ⟨aK,aL,rfl,H,hg,aM⟩
  have y:Own _ D.heap.size 86 5 encD _ _ (l):=g
  have aC:=aM _ G.lt C;clear aM;have e:=e.appT y hg rfl;have f:=f.appT y hg rfl;have m:=m.appT y hg rfl;have q:=Below.app q y hg (Qb _) q.size;clear y hg;refine Yo 14 rfl (fun _=>Vd rfl X0v 0)<|Y1 15 ?_;refine Yh rfl trivial rfl (Vw [.slice aK (l++([((bm3 p).at (n % 3) (n/3))])).length aL] X32 m) ?_;rintro _ w8 ⟨ho,hb⟩;have I:=m;have e:=e.only ho (by omega);have f:=f.only ho (by omega);have H:=H.onlyT ho I rfl;have q:=Below.only q ho aE;have m:=hb;refine Yd fun a x=>?_;refine Xo<|aI _ _<|Zr x<|Zm rfl<|Ze (X05 rfl rfl (by omega) (by omega))<|Za rfl ?_;refine Zn fun a x=>?_;refine Xk ?_;exact ⟨(n+1,l++[((bm3 p).at (n % 3) (n/3))]),⟨aK,aL,x.sb,(by omega),(by rw [← hl];exact (Xl9 n).symm),e,f,m,H,q⟩,(by first|omega|(dsimp only;omega))⟩
 have a9:=o;have o:=Q1 o
 have aA:n=9:=by have:=o;omega
 refine Q9<|Xj<|Xj<|X06 ?_;refine aY _ _<|Zs x fun _ aN=>?_;refine Ze (Vn X13 m)<|Zo (Vw [.slice z l.length B] X1d f) ?_;rintro _ w9 ⟨ho,hb⟩;have I:=f;have g:=g.onlyT ho I rfl;have q:=Below.only q ho aD;have f:=hb;refine Zt aN fun a x=>?_
 refine Q6 (X4 x (Xx x rfl (ResV.cellN (l:=[.slice z l.length B]) rfl X13 (f.at 0) rfl)) ?_)
 have he:trB p=l:=by rw [aA] at hl;exact hl
 rw [he]
 exact ⟨z,B,rfl,g,q⟩
theorem Xpy(o:World)(Ap:Option Addr)(cp:Nat)(p:List Dy)(aE:Rd o o.heap.size 86 encD Ap p)(Aq:Option Addr)(cq:Nat)(q:List Dy)(aF:Rd o o.heap.size 86 encD Aq q)(aZ:p.length=q.length)(b0:p.length≤2305843009213693951) : Ret Tryz.prog 114 [.agg #[.slice Ap p.length cp],.agg #[.slice Aq q.length cq]] o (fun v w=>v=.bool (decide (p=q))∧Below o.heap.size o w):=by
 refine enter Tryz.func114 rfl 24 rfl rfl ?_;intro a f
 have j:=bz o
 refine Zs f fun _ aM=>?_;refine Zf (X09 (zs:=[.slice Ap p.length cp]) rfl rfl) ?_;rintro _ w1 ⟨b4,rfl,aN,x,g⟩;have aW:=Q0 j.size aN;have j:=btr j x;refine Zf (X09 (zs:=[.slice Aq q.length cq]) rfl rfl) ?_;rintro _ w2 ⟨b5,rfl,aO,x,m⟩
 have aL:b4≠b5:=by have:=g.lt;omega
 have aX:=Q0 j.size aO;have g:=g.below x;have j:=btr j x;refine Za rfl<|ZX aM fun a f _ aP=>?_;refine Zs f fun _ aQ=>?_;refine Ze (Vd rfl X0v 0)<|Ze (X0 rfl X0h (g.at 0))<|Ze (X27 rfl Xr)<|Zm rfl<|Zt aQ fun a f=>?_;refine Q8<|X03 (σ:=Nat) (fun (k:Nat) (a:Act) (w:World)=>Fr a 24 [(2,.pointer (some ⟨b4,0,none⟩)),(3,.pointer (some ⟨b5,0,none⟩)),(8,vi (p.length:Int)),(9,vi (k:Int))]∧(k≤p.length)∧(p.take k=q.take k)∧Blk w b4 66 [.slice Ap p.length cp]∧Blk w b5 66 [.slice Aq q.length cq]∧Below o.heap.size o w) (fun (k:Nat)=>p.length-k) 0 ?_ ?_
 ·exact ⟨f.sb,(Qf _),(by simp),g,m,j⟩
 rintro k a w3 ⟨f,hk,n,g,m,j⟩;refine Zs f fun _ aR=>?_;refine Ze (X15 rfl rfl)<|ZX aR fun a f _ aS=>?_
 refine Xn f rfl (fun e=>?_) (fun e=>?_)
 ·have a9:=e;have e:=Q2 e
  obtain ⟨b1,aY⟩:=Xv (l:=p) (k:=k) (by omega)
  obtain ⟨y,aA⟩:=Xv (l:=p) (k:=k) (by have:=e;omega)
  obtain ⟨v9,t⟩:=Xv (l:=q) (k:=k) (by have:=e;omega)
  refine Q7<|aS _ _<|Q5 fun _ aG=>?_;refine Q8<|Zs f fun _ aH=>?_;refine Zm rfl<|Za rfl<|ZX aH fun a f _ aI=>?_;refine X08 none (fun _=>false) mixed ?_;intro w4 x;have g:=g.below x;have m:=m.below x;have j:=btr j x;refine Yb f<|Yo 0 rfl (fun _=>Vd rfl X0v 0)<|Ye 1 rfl (X0 rfl X0h (g.at 0))<|Yo 2 rfl (fun _=>Xd rfl)<|Yi (k:=k) (u:=y) (enc:=encD) (l:=p) 3 rfl trivial rfl rfl Xr X8 Xs (aE.below' j) aA rfl ?_;intro b2 aB;refine Ye 4 rfl (Xy (l:=[vi y.num.a,vi y.num.b,vi y.num.c,vi y.num.d,vi y.exp]) rfl X3 aB rfl)<|Yo 5 rfl (fun _=>Vd rfl X0v 0)<|Ye 6 rfl (X0 rfl X0h (m.at 0))<|Yo 7 rfl (fun _=>Xd rfl)<|Yi (k:=k) (u:=v9) (enc:=encD) (l:=q) 8 rfl trivial rfl rfl Xr X8 Xs (aF.below' j) t rfl ?_;intro b3 aC;refine Ye 9 rfl (Xy (l:=[vi v9.num.a,vi v9.num.b,vi v9.num.c,vi v9.num.d,vi v9.exp]) rfl X3 aC rfl)<|Yo 10 rfl (fun _=>Xat rfl rfl X7w (fun w=>eqD 9997 y v9 w)) ?_;refine Yd fun a f=>?_;refine aI _ _ ?_
  refine Xn f rfl (fun i=>?_) (fun i=>?_)
  ·have aD:=i
   have aT:¬ p=q:=by rintro rfl;rw [aA] at t;injection t with e9;revert i;simp [e9]
   refine Zs f fun _ aJ=>?_;refine Za rfl<|Zt aJ fun a f=>?_;refine Q6<|X04<|Xa<|Xa ?_;refine X04<|Xa<|X4 f (Xx f rfl rfl) ?_;exact ⟨by simp [aT],j⟩
  have aD:=i
  have aU:y=v9:=by revert i;simp
  refine Q7<|Xo<|aG _ _<|Zr f ?_;refine Ze (X05 rfl rfl (by omega) (by omega))<|Zm rfl ?_;refine Zn fun a f=>?_;refine Xk ?_;exact ⟨k+1,⟨f.sb,(by omega),(X6z n aA t aU),g,m,j⟩,(by omega)⟩
 have a9:=e;have e:=Q1 e;refine Q9<|Xj<|Xj<|X06 ?_;refine aP _ _<|Zs f fun _ aK=>?_;refine Za rfl<|Zt aK fun a f=>?_
 refine Q6 (X4 f (Xx f rfl rfl) ?_)
 have he:p=q:=by rw [Qi (by omega),Qi (by omega)] at n;exact n
 exact ⟨by simp [he],j⟩
theorem Xpw(w0:World)(u:UInt8)(s:Nat)(a9:s<3)(aA:u=sylT s) : Ret Tryz.prog 75 [.int .u8 (u.toNat:Int)] w0 (fun v w=>∃ A c,v=.slice A (sylG s).length c∧Own w w0.heap.size 90 3 encG A c (sylG s)∧Below w0.heap.size w0 w):=by
 refine enter Tryz.func75 rfl 17 rfl rfl ?_;intro a b
 have e:=bz w0
 refine Zs b fun _ aN=>?_;refine Za rfl<|ZX aN fun a b _ aO=>?_;refine Zs b fun _ aP=>?_;refine Zm rfl<|Zt aP fun a b=>?_;refine Q8<|Zs b fun _ aQ=>?_;refine Ze (X9q rfl rfl)<|Za rfl<|Zt aQ fun a b=>?_
 refine Xn b rfl (fun f=>?_) (fun f=>?_)
 ·have aE:=f;have aR:=Xus a9 aA f
  subst aR
  refine Zs b fun _ aS=>?_;refine Ze (Xf (ps:=[(0,vi 7)]) (cs:=[vi 7,vi 0,vi 0]) rfl (fun _=>by first|rfl|kernel_rfl))<|Ze (Xf (ps:=[(0,vi 1)]) (cs:=[vi 1,vi 0,vi 0]) rfl (fun _=>by first|rfl|kernel_rfl))<|Zf (Xc (k:=2) (vs:=[.agg #[vi 7,vi 0,vi 0],.agg #[vi 1,vi 0,vi 0]]) (zs:=[vi 7,vi 0,vi 0,vi 1,vi 0,vi 0]) rfl X1o X19 rfl rfl) ?_;rintro _ w1 ⟨b8,rfl,aT,hE,aU⟩;have aF:=Q0 e.size aT;have e:=btr e hE;refine Za rfl<|Zt aS fun a b=>?_;refine Q6<|X04<|Xa<|X4 b (Xx b rfl rfl) ?_;exact ⟨(some ⟨b8,0,none⟩),2,rfl,((Own.of_blkL X1b aU aF rfl rfl (by decide)) : Own _ _ _ _ encG _ _ (sylG 1)),e⟩
 have aE:=f;have aW:=f;refine Zs b fun _ aG=>?_;refine Ze (X9q rfl rfl)<|Za rfl<|Zt aG fun a b=>?_
 refine Xn b rfl (fun d=>?_) (fun d=>?_)
 ·have aB:=d;have aX:=Xpu a9 aA d
  subst aX
  refine Zs b fun _ aH=>?_;refine Ze (Xf (ps:=[(0,vi 7)]) (cs:=[vi 7,vi 0,vi 0]) rfl (fun _=>by first|rfl|kernel_rfl))<|Ze (Xf (ps:=[(0,vi 1)]) (cs:=[vi 1,vi 0,vi 0]) rfl (fun _=>by first|rfl|kernel_rfl))<|Ze (Xf (ps:=[(0,vi 5)]) (cs:=[vi 5,vi 0,vi 0]) rfl (fun _=>by first|rfl|kernel_rfl))<|Zf (Xc (k:=3) (vs:=[.agg #[vi 7,vi 0,vi 0],.agg #[vi 1,vi 0,vi 0],.agg #[vi 5,vi 0,vi 0]]) (zs:=[vi 7,vi 0,vi 0,vi 1,vi 0,vi 0,vi 5,vi 0,vi 0]) rfl X1o X19 rfl rfl) ?_;rintro _ w2 ⟨aY,rfl,aI,hE,aJ⟩;have aC:=Q0 e.size aI;have e:=btr e hE;refine Za rfl<|Zt aH fun a b=>?_;refine Q6<|X04<|Xa<|X4 b (Xx b rfl rfl) ?_;exact ⟨(some ⟨aY,0,none⟩),3,rfl,((Own.of_blkL X1b aJ aC rfl rfl (by decide)) : Own _ _ _ _ encG _ _ (sylG 2)),e⟩
 have aB:=d;have aZ:=Xvg a9 aA aW d
 subst aZ
 refine Q7<|Xo<|aO _ _<|Zs b fun _ aK=>?_;refine Ze (Xf (ps:=[(0,vi 7)]) (cs:=[vi 7,vi 0,vi 0]) rfl (fun _=>by first|rfl|kernel_rfl))<|Zf (Xc (k:=1) (vs:=[.agg #[vi 7,vi 0,vi 0]]) (zs:=[vi 7,vi 0,vi 0]) rfl X1o X19 rfl rfl) ?_;rintro _ w3 ⟨b0,rfl,aL,hE,aM⟩;have aD:=Q0 e.size aL;have e:=btr e hE;refine Za rfl<|Zt aK fun a b=>?_
 refine Q6 (X4 b (Xx b rfl rfl) ?_)
 exact ⟨(some ⟨b0,0,none⟩),1,rfl,((Own.of_blkL X1b aM aD rfl rfl (by decide)) : Own _ _ _ _ encG _ _ (sylG 0)),e⟩
theorem Xpn(t:World)(u:UInt8)(s:Nat)(x:s<3)(y:u=sylT s) : Ret Tryz.prog 83 [.int .u8 (u.toNat:Int)] t (fun v w=>∃ A c,v=.slice A (sylG s).length c∧Own w t.heap.size 90 3 encG A c (sylG s)∧Below t.heap.size t w):=by
 refine enter Tryz.func83 rfl 19 rfl rfl ?_;intro a b
 have d:=bz t
 refine Zs b fun _ aO=>?_;refine Za rfl<|Zx aO fun a b _ aP=>?_;refine Ze (Xf (ps:=[(0,vi 7)]) (cs:=[vi 7,vi 0,vi 0]) rfl (fun _=>by first|rfl|kernel_rfl))<|Zf (Xc (k:=1) (vs:=[.agg #[vi 7,vi 0,vi 0]]) (zs:=[vi 7,vi 0,vi 0]) rfl X1o X19 rfl rfl) ?_;rintro _ w1 ⟨b4,rfl,aQ,hE,j⟩;have o:=Q0 d.size aQ;have d:=btr d hE;refine Za rfl<|ZX aP fun a b _ aD=>?_;refine Zs b fun _ aR=>?_;refine Zm rfl<|Ze (Xgk rfl rfl)<|Zt aR fun a b=>?_
 refine Xn b rfl (fun m=>?_) (fun m=>?_)
 ·have aE:=m
  have aS:s≠0:=by rcases Xsc x y with h9|h9;exact h9.2;rw [h9.1] at m;simp at m
  refine Zr b<|Zm rfl<|Ze (Xf (ps:=[(0,vi 1)]) (cs:=[vi 1,vi 0,vi 0]) rfl (fun _=>by first|rfl|kernel_rfl))<|Zf (Xc (k:=1) (vs:=[.agg #[vi 1,vi 0,vi 0]]) (zs:=[vi 1,vi 0,vi 0]) rfl X1o X19 rfl rfl) ?_;rintro _ w2 ⟨b9,rfl,aT,hE,a9⟩
  have aN:b4≠b9:=by have:=j.lt;omega
  have b5:=Q0 d.size aT;have j:=j.below hE;have d:=btr d hE;refine Zf (X0m (enc:=encG) (l:=([(⟨7,0,0⟩ : Gt)])) (l2:=([(⟨1,0,0⟩ : Gt)])) (B0:=t.heap.size) rfl rfl X1o X19 X1b X2g (Own.of_blkL X1b j o rfl rfl (Nat.le_of_ble_eq_true rfl)) (Rd.of_blk a9 rfl _ a9.lt) (by decide) (by decide) d.size) ?_;rintro _ w3 ⟨aU,aW,rfl,e,hg,p⟩
  have f:Own _ t.heap.size 90 3 encG _ _ ([(⟨7,0,0⟩ : Gt)]):=(Own.of_blkL X1b j o rfl rfl (Nat.le_of_ble_eq_true rfl))
  have aF:=p _ a9.lt (Away.ne (by omega))
  clear p;have d:=Below.app d f hg (Qb _) d.size;clear f hg;refine Za rfl<|ZX aD fun a b _ z=>?_;refine Zs b fun _ aG=>?_;refine Zm rfl<|Ze (X9q rfl rfl)<|Zt aG fun a b=>?_
  refine Xn b rfl (fun g=>?_) (fun g=>?_)
  ·have aA:=g;have aX:=Xpu x y g
   subst aX
   refine Zr b<|Zm rfl<|Ze (Xf (ps:=[(0,vi 5)]) (cs:=[vi 5,vi 0,vi 0]) rfl (fun _=>by first|rfl|kernel_rfl))<|Zf (Xc (k:=1) (vs:=[.agg #[vi 5,vi 0,vi 0]]) (zs:=[vi 5,vi 0,vi 0]) rfl X1o X19 rfl rfl) ?_;rintro _ w4 ⟨b6,rfl,h,hE,q⟩;have aY:=Q0 d.size h;have n:=e.away h;have e:=e.below hE;have d:=btr d hE;refine Zf (X0m (enc:=encG) (l:=(([(⟨7,0,0⟩ : Gt)])++([(⟨1,0,0⟩ : Gt)]))) (l2:=([(⟨5,0,0⟩ : Gt)])) (B0:=t.heap.size) rfl rfl X1o X19 X1b X2g e (Rd.of_blk q rfl _ q.lt) (by decide) (by decide) d.size) ?_;rintro _ w5 ⟨aZ,b0,rfl,aH,hg,p⟩
   have f:Own _ t.heap.size 90 3 encG _ _ (([(⟨7,0,0⟩ : Gt)])++([(⟨1,0,0⟩ : Gt)])):=e
   have aC:=p _ q.lt n;clear p;have d:=Below.app d f hg (Qb _) d.size;clear f hg;refine Za rfl<|Zx z fun a b _ aI=>?_;refine Zm rfl<|Za rfl<|Zt aI fun a b=>?_
   refine Q6 (X4 b (Xx b rfl rfl) ?_)
   exact ⟨aZ,b0,rfl,aH,d⟩
  have aA:=g;have b1:=Xsg x y aS g
  subst b1
  refine Q7<|z _ _<|Zs b fun _ aJ=>?_;refine Zm rfl<|Za rfl<|Zt aJ fun a b=>?_
  refine Q6 (X4 b (Xx b rfl rfl) ?_)
  exact ⟨aU,aW,rfl,e,d⟩
 have aE:=m;obtain ⟨b2,b3⟩:=Xtw x y m
 subst b2
 refine Q7<|aD _ _<|Q5 fun _ aK=>?_;refine Zs b fun _ aL=>?_;refine Zm rfl<|Ze (X9q rfl rfl)<|Zt aL fun a b=>?_
 refine Xn b rfl (fun i=>?_) (fun i=>?_)
 ·have aB:=i
  rw [b3] at i;simp at i
 have aB:=i
 skip
 refine Q7<|aK _ _<|Zs b fun _ aM=>?_;refine Zm rfl<|Za rfl<|Zt aM fun a b=>?_
 refine Q6 (X4 b (Xx b rfl rfl) ?_)
 exact ⟨(some ⟨b4,0,none⟩),1,rfl,(Own.of_blkL X1b j o rfl rfl (by decide)),d⟩
theorem X7k{m:Mx}{l:List Dy}(h:blochI m=some l) : oneQ m=true:=by unfold blochI at h;split at h;assumption;cases h
theorem Xl7{gs:List Gt}{M:Mx}(h:opI ⟨1,gs⟩=some M) : mOk M=true:=by
 have:=(Xfe ⟨1,gs⟩).2 M (by rw [← (Xfe ⟨1,gs⟩).1];exact h)
 exact this.1
theorem Xez{gs:List Gt}{M:Mx}(h:opI ⟨1,gs⟩=some M) : cOk ⟨1,gs⟩=true:=by unfold opI at h;split at h;assumption;cases h
theorem Xjw{s:Nat}(_:s<3) : opI ⟨1,sylG s⟩=some (opM (sylG s))∧mOk (opM (sylG s))=true∧(sylG s).length≤3:=by
 obtain ⟨M,a,_,_⟩:=Xas (Xc4 s) (Q0 (X53 s) (by decide)) (by rw [X97];have:=Xkn s;omega)
 rw [X7g a]
 exact ⟨a,Xl7 a,X53 s⟩
theorem Xie{l r:List Dy}(h:Gd l){s:Nat}(hs:s<3)(hr:mulBI (bkC s) l=some r) : bexp r≤bexp l+1:=by
 obtain ⟨Z,h1,_⟩:=h
 have:=(X7i hs hr h1).exps
 have:=X26 l
 omega
theorem Xgs{l r:List Dy}{i:Nat}(hno:∀ j,j<i→∀ r,mulBI (bkC j) l=some r→bexp r≠bexp l-1)(h:mulBI (bkC i) l=some r)(hn:bexp r≠bexp l-1) : ∀ j,j<i+1→∀ r,mulBI (bkC j) l=some r→bexp r≠bexp l-1:=fun j hj q hq=>by
 by_cases e:j=i
 ·subst e;rw [h] at hq;injection hq with hq;rw [← hq];exact hn
 ·exact hno j (by omega) q hq
theorem Xuh{q:List UInt8}(h:q.length≤9) : opI ⟨1,wdG q⟩=some (opM (wdG q))∧mOk (opM (wdG q))=true:=by
 have hl:(wdG q).length≤9:=by simpa [wdG] using h
 have:=Xps (wdG q)
 obtain ⟨M,a,_,_⟩:=Xas (X8x q) (by omega) (by omega)
 rw [X7g a]
 exact ⟨a,Xl7 a⟩
theorem Xvv{u:UInt8}{n:Nat}(h:((u.toNat:Int)==(n:Int))=true) : u.toNat=n:=by
 have:=eq_of_beq h;omega
theorem Xev{u:UInt8}(h:((u.toNat:Int)==83)=true) : letG u=⟨5,0,0⟩:=by
 have h1:u.toNat=83:=Xvv h
 have:u=83:=UInt8.toNat_inj.1 h1
 rw [this];rfl
theorem Xeu{u:UInt8}(h:((u.toNat:Int)==83)=false) : letG u=⟨1,0,0⟩:=by
 unfold letG
 rw [Q3]
 rintro rfl
 revert h;decide
theorem X69{q:List UInt8}{k:Nat}{u:UInt8}(h:q[k]? = some u) : wdG (q.take (k+1))=wdG (q.take k)++[letG u]:=by
 unfold wdG;rw [Qt,h,List.map_append];rfl
structure FrmOk (ss:List UInt8) : Prop where
 at':∀ (i:Nat) (u:UInt8),ss[i]? = some u→u=72∨u=83∨(u=84∧i=0)
 len:ss.length≤40
theorem Xtj{ss:List UInt8}(h:FrmOk ss){i:Nat}{u:UInt8}(hu:ss[i]? = some u)(hc:((u.toNat:Int) != 72&&(u.toNat:Int) != 83&&((u.toNat:Int) != 84||decide (0<(i:Int))))=true) : False:=by
 rcases h.at' i u hu with rfl|rfl|⟨rfl,rfl⟩
 ·simp at hc
 ·simp at hc
 ·simp at hc
theorem Xmv{ss:List UInt8}(h:ss.length≤40){fc fp:Int}(hc:0≤fc∧fc≤23)(hp:0≤fp∧fp≤7) : (decide ((ss.length:Int)≤40)&&inR fc 0 23&&inR fp 0 7)=true:=by
 rw [decide_eq_true (by omega),X0l.2 hc,X0l.2 hp];rfl
theorem Xp7{l:List Dy}(h:Gd l)(hb:bexp l≤40) : FrmOk ((nfS l).map sylT):=by
 have hn:=X26 l;obtain ⟨h1,h2⟩:=X8j h hb
 refine ⟨fun i u hu=>?_,by rw [Qo];omega⟩
 rw [List.getElem?_map] at hu
 cases e:(nfS l)[i]? with
 | none=>rw [e] at hu;cases hu
 | some s=>
  rw [e] at hu
  injection hu with hu
  have hs:=h2 s (Qe e)
  have ht:=Xqh h hb (bexp l).toNat (by omega) i s e
  rcases lt3 hs with rfl|rfl|rfl
  ·refine .inr (.inr ⟨hu.symm,?_⟩)
   by_cases h0:i=0
   ·exact h0
   ·exact absurd rfl (ht (by omega))
  ·exact .inl hu.symm
  ·exact .inr (.inl hu.symm)
theorem Xqe(w0:World)(k:Int)(i:Nat)(aH:i<2)(aI:k=letK i)(aJ:HalfT w0) : Ret Tryz.prog 130 [vi k] w0 (fun v w=>∃ A c,v=.agg #[.slice A (clB (letR i)).length c]∧Own w w0.heap.size 86 5 encD A c (clB (letR i))∧Below w0.heap.size w0 w):=by
 obtain ⟨aA,aB⟩:=Xj9 aH
 have aK:gateI 1 ⟨k,0,0⟩=some (gateS 1 ⟨letK i,0,0⟩):=by rw [aI];exact aA
 have aL:=Xdn (n:=1) (by decide) (g:=⟨letK i,0,0⟩)
 refine enter Tryz.func130 rfl 19 rfl rfl ?_;intro a hf
 have d:=bz w0
 refine Zs hf fun _ aM=>?_;refine Zf (X5 (zs:=[.slice none 0 0]) X1z rfl) ?_;rintro _ w1 ⟨b3,rfl,aN,j,b⟩;have aC:=Q0 d.size aN;have d:=btr d j;refine Zx aM fun a hf _ aO=>?_;refine Zm rfl<|Ze (Xf (ps:=[(0,vi k)]) (cs:=[vi k,vi 0,vi 0]) rfl (fun _=>by first|rfl|kernel_rfl))<|Zf (X1g (vs:=[vi 1,.agg #[vi k,vi 0,vi 0]]) rfl X9o (by have hq:=Xkc w1 1 (⟨k,0,0⟩ : Gt);rw [aK,Qq,Option.isSome_some] at hq;exact hq)) ?_;rintro _ w2 ⟨A5,c5,rfl,m,j⟩;have m:=m.lower d.size;have b:=b.below j;have d:=btr d j;refine Zm rfl<|Ze (X1 (vs:=[.agg #[vi ((gateS 1 ⟨letK i,0,0⟩).rows),vi ((gateS 1 ⟨letK i,0,0⟩).cols),.slice A5 ((gateS 1 ⟨letK i,0,0⟩).cells).length c5],.bool true]) rfl rfl)<|Ze (X1 (vs:=[.agg #[vi ((gateS 1 ⟨letK i,0,0⟩).rows),vi ((gateS 1 ⟨letK i,0,0⟩).cols),.slice A5 ((gateS 1 ⟨letK i,0,0⟩).cells).length c5],.bool true]) rfl rfl)<|Zf (X5 (zs:=[vi 0,vi 0,.slice none 0 0]) X11 rfl) ?_;rintro _ w3 ⟨b7,rfl,aP,j,q⟩;have aD:=Q0 d.size aP;have b:=b.below j;have m:=m.below j;have d:=btr d j;refine Zo (Vw [vi ((gateS 1 ⟨letK i,0,0⟩).rows),vi ((gateS 1 ⟨letK i,0,0⟩).cols),.slice A5 ((gateS 1 ⟨letK i,0,0⟩).cells).length c5] X0g q) ?_;rintro _ w4 ⟨p,hb⟩;have e:=q;have b:=b.only p (Blk.ne b e rfl);have m:=m.onlyT p e rfl;have d:=Below.only d p aD;have q:=hb;refine Za rfl<|Zx aO fun a hf _ aQ=>?_;refine Ze (Vn Xp q)<|Zf (X1g (vs:=[.agg #[vi ((gateS 1 ⟨letK i,0,0⟩).rows),vi ((gateS 1 ⟨letK i,0,0⟩).cols),.slice A5 ((gateS 1 ⟨letK i,0,0⟩).cells).length c5]]) rfl Xbt (by have hq:=Xki w4 (gateS 1 ⟨letK i,0,0⟩) A5 c5 m.rd.top aL (aJ.of d);rw [aB,Qq,Option.isSome_some] at hq;exact hq)) ?_;rintro _ w5 ⟨A9,c9,rfl,f,j⟩
 have f:=f.lower d.size;have b:=b.below j;have d:=btr d j;refine Zm rfl<|Ze (X1 (vs:=[.agg #[.slice A9 (clB (letR i)).length c9],.bool true]) rfl rfl)<|Ze (X1 (vs:=[.agg #[.slice A9 (clB (letR i)).length c9],.bool true]) rfl rfl)<|Zf (X5 (zs:=[.slice none 0 0]) X1z rfl) ?_;rintro _ w6 ⟨b11,rfl,aE,j,o⟩
 have aF:b3≠b11:=by have:=b.lt;omega
 have a9:=Q0 d.size aE;have b:=b.below j;have f:=f.below j;have d:=btr d j;refine Zo (Vw [.slice A9 (clB (letR i)).length c9] X1d o) ?_;rintro _ w7 ⟨p,hb⟩;have e:=o;have b:=b.only p (by omega);have f:=f.onlyT p e rfl;have d:=Below.only d p a9;have o:=hb;refine Za rfl<|Zx aQ fun a hf _ aG=>?_;refine Ze (Vn X13 o)<|Zo (Vw [.slice A9 (clB (letR i)).length c9] X1d b) ?_;rintro _ w8 ⟨p,hb⟩;have e:=b;have f:=f.onlyT p e rfl;have d:=Below.only d p aC;have b:=hb;refine Zt aG fun a hf=>?_
 refine Q6 (X4 hf (Xx hf rfl (ResV.cellN (l:=[.slice A9 (clB (letR i)).length c9]) rfl X13 (b.at 0) rfl)) ?_)
 exact ⟨A9,c9,rfl,f,d⟩
theorem Xvc(j:World)(Ag:Option Addr)(cg:Nat)(g:List Gt)(aA:Rd j j.heap.size 90 encG Ag g)(s:Nat)(aB:s<3)(aC:g=sylG s)(aG:HalfT j) : Ret Tryz.prog 74 [.slice Ag g.length cg] j (fun v w=>∃ A c,v=.slice A (trB (bkC s)).length c∧Own w j.heap.size 86 5 encD A c (trB (bkC s))∧Below j.heap.size j w):=by
 obtain ⟨aH,aI,aO⟩:=Xjw aB
 have aJ:opI ⟨1,g⟩=some (opM (sylG s)):=by rw [aC];exact aH
 refine enter Tryz.func74 rfl 20 rfl rfl ?_;intro a hf
 have d:=bz j
 refine Zs hf fun _ aK=>?_;refine Za rfl<|Zx aK fun a hf _ aL=>?_;refine Zm rfl<|Ze (Xf (ps:=[(0,vi 1),(1,.slice Ag g.length cg)]) (cs:=[vi 1,.slice Ag g.length cg]) rfl (fun _=>by first|rfl|kernel_rfl))<|Zf (X1g (vs:=[.agg #[vi 1,.slice Ag g.length cg]]) rfl Xq0 (by have hq:=F97 j (⟨1,g⟩ : Cx) Ag cg (aA.below' d).top (by show g.length≤_;rw [aC];exact Q0 (X53 s) (by decide));rw [aJ,Qq,Option.isSome_some] at hq;exact hq)) ?_;rintro _ w1 ⟨A6,c6,rfl,f,k⟩;have d:=btr d k;refine Zm rfl<|Ze (X1 (vs:=[.agg #[vi ((opM (sylG s)).rows),vi ((opM (sylG s)).cols),.slice A6 ((opM (sylG s)).cells).length c6],.bool true]) rfl rfl)<|Ze (X1 (vs:=[.agg #[vi ((opM (sylG s)).rows),vi ((opM (sylG s)).cols),.slice A6 ((opM (sylG s)).cells).length c6],.bool true]) rfl rfl)<|Zf (X5 (zs:=[vi 0,vi 0,.slice none 0 0]) X11 rfl) ?_;rintro _ w2 ⟨b8,rfl,aM,k,l⟩;have aD:=Q0 d.size aM;have f:=f.below k;have d:=btr d k;refine Zo (Vw [vi ((opM (sylG s)).rows),vi ((opM (sylG s)).cols),.slice A6 ((opM (sylG s)).cells).length c6] X0g l) ?_;rintro _ w3 ⟨ho,hb⟩;have i:=l;have f:=f.onlyT ho i rfl;have d:=Below.only d ho aD;have l:=hb;refine Za rfl<|Zx aL fun a hf _ aN=>?_;refine Ze (Vn Xp l)<|Zf (X1g (vs:=[.agg #[vi ((opM (sylG s)).rows),vi ((opM (sylG s)).cols),.slice A6 ((opM (sylG s)).cells).length c6]]) rfl Xbt (by have hq:=Xki w3 (opM (sylG s)) A6 c6 f.top (X8p aI) (aG.of d);rw [(X4r aB).1,Qq,Option.isSome_some] at hq;exact hq)) ?_;rintro _ w4 ⟨m,n,rfl,b,k⟩;have b:=b.lower d.size;have d:=btr d k;refine Zm rfl<|Ze (X1 (vs:=[.agg #[.slice m (trB (bkC s)).length n],.bool true]) rfl rfl)<|Ze (X1 (vs:=[.agg #[.slice m (trB (bkC s)).length n],.bool true]) rfl rfl)<|Zf (X5 (zs:=[.slice none 0 0]) X1z rfl) ?_;rintro _ w5 ⟨aP,rfl,aE,k,e⟩
 have a9:=Q0 d.size aE;have b:=b.below k;have d:=btr d k;refine Zo (Vw [.slice m (trB (bkC s)).length n] X1d e) ?_;rintro _ w6 ⟨ho,hb⟩;have i:=e;have b:=b.onlyT ho i rfl;have d:=Below.only d ho a9;have e:=hb;refine Za rfl<|Zx aN fun a hf _ aF=>?_;refine Ze (Vd rfl X0v 0)<|Ze (X0 rfl X0h (e.at 0))<|Za rfl<|Zt aF fun a hf=>?_
 refine Q6 (X4 hf (Xx hf rfl rfl) ?_)
 exact ⟨m,n,rfl,b,d⟩
theorem Xwl(h:World)(Al:Option Addr)(cl:Nat)(l:List Dy)(C:Rd h h.heap.size 86 encD Al l)(hG:Gd l)(h0:0<bexp l)(hb:bexp l≤40)(aN:HalfT h) : Ret Tryz.prog 35 [.slice Al l.length cl] h (fun v w=>∃ s r A c1,stripI l=some (s,r)∧v=.tuple #[.string (tx [sylT s]),.slice A r.length c1,.bool true]∧Own w h.heap.size 86 5 encD A c1 r∧Below h.heap.size h w):=by
 obtain ⟨aB,b4⟩:=hG.nine;have b5:=X26 l;refine enter Tryz.func35 rfl 40 rfl rfl ?_;intro a b
 have c:=bz h
 refine Zs b fun _ aO=>?_;refine Za rfl<|Za rfl<|Za rfl<|ZX aO fun a b _ b6=>?_;refine Zs b fun _ aP=>?_;refine Zm rfl<|Zt aP fun a b=>?_;refine Q8<|X03 (σ:=Nat) (fun (i:Nat) (a:Act) (w:World)=>Fr a 40 [(0,.slice Al l.length cl),(9,vi (i:Int))]∧(i≤3)∧(∀ j,j<i→∀ r,mulBI (bkC j) l=some r→bexp r≠bexp l-1)∧Below h.heap.size h w) (fun (i:Nat)=>3-i) 0 ?_ ?_
 ·exact ⟨b.sb,(by omega),(fun j hj=>by omega),c⟩
 rintro i a w1 ⟨b,hi,a9,c⟩;refine Zs b fun _ aQ=>?_;refine Ze (X15 rfl rfl)<|ZX aQ fun a b _ aR=>?_
 refine Xn b rfl (fun e=>?_) (fun e=>?_)
 ·have aC:=e;have e:=Q2 e
  have f:i<3:=by have:=e;omega
  obtain ⟨r,B,aD⟩:=X8i hG hb f;have aS:=aD.nine.1;have b7:=aD.nine.2;have b2:=X26 r;have b3:=Xie hG f B;refine Q7<|aR _ _<|Q5 fun _ aT=>?_;refine Q8<|Zs b fun _ aE=>?_;refine Zm rfl<|Za rfl<|Zx aE fun a b _ aF=>?_;refine Zm rfl<|Zm rfl<|Ze (X05 rfl rfl (by omega) (by omega))<|Ze (Xqk (s:=[84,72,83]) (r:=[sylT i]) (k:=i) (m:=(i+1)) rfl rfl rfl Tryz.underlying9 rfl rfl (Nat.le_succ _) (by simp;omega) (Xn6 f))<|Za rfl<|Zx aF fun a b _ aG=>?_;refine Zm rfl<|Ze (X88 (s:=([sylT i])) (k:=0) (u:=(sylT i)) rfl rfl Tryz.underlying9 rfl rfl)<|Zf (Vc (Xpw _ (sylT i) i f rfl) Xfc) ?_;rintro _ w2 ⟨aU,aW,rfl,t,n⟩;have t:=t.lower c.size;have c:=btr c n;refine Zf (Vc (Xvc _ aU aW (sylG i) t.rd.top i f rfl (aN.of c)) Xo1) ?_;rintro _ w3 ⟨aH,aI,rfl,x,n⟩;have x:=x.lower c.size;have c:=btr c n;refine Zf (X1g (vs:=[.slice aH (trB (bkC i)).length aI]) rfl Xg4 (by have hq:=Xq9 w3 aH aI (trB (bkC i)) x.rd.top (X8t _);rw [(X4r f).2] at hq;exact hq)) ?_;rintro _ w4 ⟨aJ,aK,rfl,y,n⟩;have y:=y.lower c.size;have c:=btr c n;refine Zm rfl<|Zf (X1g (vs:=[.slice aJ (bkC i).length aK,.slice Al l.length cl]) rfl Xbq (by have hq:=Xkj w4 aJ aK (bkC i) y.rd.top Al cl l (C.below' c).top (Xbo f).1 aB;rw [B,Qq,Option.isSome_some] at hq;exact hq)) ?_;rintro _ w5 ⟨o,p,rfl,d,n⟩;have d:=d.lower c.size;have c:=btr c n;refine Zm rfl<|Ze (X1 (vs:=[.slice o r.length p,.bool true]) rfl rfl)<|Ze (X1 (vs:=[.slice o r.length p,.bool true]) rfl rfl)<|Za rfl<|Za rfl<|ZX aG fun a b _ aL=>?_;refine X0e (fun a w=>Fr a 40 [(0,.slice Al l.length cl),(6,.string (tx ([sylT i]))),(7,.slice o r.length p),(9,vi (i:Int)),(36,.bool ((bexp r)==((bexp l)-1)))]∧Below w5.heap.size w5 w) ?_ ?_
  ·have z:Below w5.heap.size w5 w5:=Below.refl _ _
   refine Zr b<|Zm rfl<|Zm rfl<|Zv (gW rfl) (Xd rfl) ?_;refine Zv (gW rfl) (Xf (ps:=[(0,.slice o r.length p)]) (cs:=[.slice o r.length p]) rfl (fun _=>by first|rfl|kernel_rfl)) ?_;refine Zk (gW rfl) (Vc (Xfj _ o p r d.rd.top (by rw [aS];decide)) X8r) ?_;rintro _ w6 ⟨rfl,n⟩;have c:=btr c n;have z:=btr z n;refine Zv (gW rfl) (Xd rfl) ?_;refine Zv (gW rfl) (Xf (ps:=[(0,.slice Al l.length cl)]) (cs:=[.slice Al l.length cl]) rfl (fun _=>by first|rfl|kernel_rfl)) ?_;refine Zk (gW rfl) (Vc (Xfj _ Al cl l (C.below' c).top (by rw [aB];decide)) X8r) ?_;rintro _ w7 ⟨rfl,n⟩;have c:=btr c n;have z:=btr z n;refine Zv (gW rfl) (X1v rfl rfl (by omega) (by omega)) ?_;refine Zv (gW rfl) (X1c rfl rfl) ?_;refine Ze (Xi rfl rfl rfl) ?_;refine Zn fun a b=>?_
   have aX:Below w5.heap.size w5 w7:=z
   exact ⟨b.sb,aX⟩
  rintro a w8 ⟨b,n⟩;have d:=d.below n;have c:=btr c n;refine aL _ _ ?_
  refine Xn b rfl (fun g=>?_) (fun g=>?_)
  ·have aA:=g
   have aY:=Xde f a9 B (by have h9:=g;simpa using h9)
   refine Zs b fun _ aM=>?_;refine Zm rfl<|Zm rfl<|Za rfl<|Za rfl<|Za rfl<|Zt aM fun a b=>?_;refine Q6<|X04<|Xa<|Xa ?_;refine X04<|Xa<|X4 b (Xnz b rfl rfl rfl rfl) ?_;exact ⟨i,r,o,p,aY,rfl,d,c⟩
  have aA:=g
  have aZ:bexp r≠bexp l-1:=by have h9:=g;simpa using h9
  refine Q7<|Xo<|aT _ _<|Zr b ?_;refine Ze (X05 rfl rfl (by omega) (by omega))<|Zm rfl ?_;refine Zn fun a b=>?_;refine Xk ?_;exact ⟨i+1,⟨b.sb,(by omega),(Xgs a9 B aZ),c⟩,(by omega)⟩
 have aC:=e;have e:=Q1 e
 have f:i=3:=by have:=e;omega
 obtain ⟨q,r,b8,b0,b1⟩:=X95 hG h0 hb;exact (a9 q (by omega) r b0 b1).elim
theorem Xpz(w0:World)(u:UInt8)(s:Nat)(j:s<3)(aI:u=sylT s) : Ret Tryz.prog 64 [.int .u8 (u.toNat:Int)] w0 (fun v w=>∃ A c,v=.agg #[.slice A (bkC s).length c]∧Own w w0.heap.size 86 5 encD A c (bkC s)∧Below w0.heap.size w0 w):=by
 obtain ⟨a9,aN,aO⟩:=Xjw j;refine enter Tryz.func64 rfl 15 rfl rfl ?_;intro a hf
 have d:=bz w0
 refine Zs hf fun _ aJ=>?_;refine Zf (X5 (zs:=[.slice none 0 0]) X1z rfl) ?_;rintro _ w1 ⟨b3,rfl,aK,e,b⟩;have aE:=Q0 d.size aK;have d:=btr d e;refine Zx aJ fun a hf _ aL=>?_;refine Zm rfl<|Zf (Vc (Xpn _ u s j aI) Xg9) ?_;rintro _ w2 ⟨A5,c5,rfl,aA,e⟩;have aA:=aA.lower d.size;have b:=b.below e;have d:=btr d e;refine Ze (Xf (ps:=[(0,vi 1),(1,.slice A5 (sylG s).length c5)]) (cs:=[vi 1,.slice A5 (sylG s).length c5]) rfl (fun _=>by first|rfl|kernel_rfl))<|Zf (X1g (vs:=[.agg #[vi 1,.slice A5 (sylG s).length c5]]) rfl Xbp (by have m:=Xj0 w2 (⟨1,(sylG s)⟩ : Cx) A5 c5 aA.rd.top (Xez a9) (opM (sylG s)) a9;rw [show opI _=some (opM (sylG s)) from a9,Qq] at m;exact m)) ?_;rintro _ w3 ⟨A7,c7,rfl,aM,e⟩;have b:=b.below e;have d:=btr d e;refine Zf (X1g (vs:=[.agg #[vi ((opM (sylG s)).rows),vi ((opM (sylG s)).cols),.slice A7 ((opM (sylG s)).cells).length c7]]) rfl X8c (by have m:=Xfg w3 (opM (sylG s)) A7 c7 aM.top (X7k (X4r j).1);rw [(X4r j).1,Qq,Option.isSome_some] at m;exact m)) ?_;rintro _ w4 ⟨A8,c8,rfl,g,e⟩;have g:=g.lower d.size;have b:=b.below e;have d:=btr d e;refine Zm rfl<|Ze (X1 (vs:=[.agg #[.slice A8 (trB (bkC s)).length c8],.bool true]) rfl rfl)<|Ze (X1 (vs:=[.agg #[.slice A8 (trB (bkC s)).length c8],.bool true]) rfl rfl)<|Zf (X5 (zs:=[.slice none 0 0]) X1z rfl) ?_;rintro _ w5 ⟨b10,rfl,aF,e,i⟩
 have aG:b3≠b10:=by have:=b.lt;omega
 have aB:=Q0 d.size aF;have b:=b.below e;have g:=g.below e;have d:=btr d e;refine Zo (Vw [.slice A8 (trB (bkC s)).length c8] X1d i) ?_;rintro _ w6 ⟨ho,hb⟩;have k:=i;have b:=b.only ho (by omega);have g:=g.onlyT ho k rfl;have d:=Below.only d ho aB;have i:=hb;refine Za rfl<|Zx aL fun a hf _ aH=>?_;refine Ze (Vn X13 i)<|Zf (X1g (vs:=[.agg #[.slice A8 (trB (bkC s)).length c8]]) rfl Xn8 (by have m:=Xwp w6 A8 c8 (trB (bkC s)) g.rd.top (X8t _);rw [(X4r j).2] at m;exact m)) ?_;rintro _ w7 ⟨aC,aD,rfl,f,e⟩;have f:=f.lower d.size;have b:=b.below e;have d:=btr d e;refine Zo (Vw [.slice aC (bkC s).length aD] X1d b) ?_;rintro _ w8 ⟨ho,hb⟩;have k:=b;have f:=f.onlyT ho k rfl;have d:=Below.only d ho aE;have b:=hb;refine Zt aH fun a hf=>?_
 refine Q6 (X4 hf (Xx hf rfl (ResV.cellN (l:=[.slice aC (bkC s).length aD]) rfl X13 (b.at 0) rfl)) ?_)
 exact ⟨aC,aD,rfl,f,d⟩
theorem Xpl(y:World)(q:List UInt8)(aS:q.length≤9) : Ret Tryz.prog 113 [.string (tx q)] y (fun v w=>∃ A c1,v=mV A c1 (opM (wdG q))∧Rd w w.heap.size 86 encD A (opM (wdG q)).cells∧Below y.heap.size y w):=by
 obtain ⟨aT,b5⟩:=Xuh aS;refine enter Tryz.func113 rfl 26 rfl rfl ?_;intro a f
 have d:=bz y
 refine Zs f fun _ aU=>?_;refine Zf (X5 (zs:=[vi 0,vi 0,.slice none 0 0]) X11 rfl) ?_;rintro _ w1 ⟨b3,rfl,aW,m,b⟩;have aL:=Q0 d.size aW;have d:=btr d m;refine Zx aU fun a f _ aX=>?_;refine Ze (Xf (ps:=[(0,vi 1)]) (cs:=[vi 1,.slice none 0 0]) rfl (fun _=>by first|rfl|kernel_rfl))<|Zf (X5 (zs:=[vi 0,.slice none 0 0]) Xt2 rfl) ?_;rintro _ w2 ⟨b7,rfl,aY,m,c⟩;have z:=Q0 d.size aY;have b:=b.below m;have d:=btr d m;refine Zo (Vw [vi 1,.slice none 0 0] Xl5 c) ?_;rintro _ w3 ⟨p,hb⟩;have g:=c;have b:=b.only p (Blk.ne b g rfl);have d:=Below.only d p z;have c:=hb;refine ZX aX fun a f _ aZ=>?_;refine Zs f fun _ b0=>?_;refine Za rfl<|Zt b0 fun a f=>?_;refine Q8<|X03 (σ:=Nat×(List Gt)) (fun (s:Nat×(List Gt)) (a:Act) (w:World)=>match s with|(k,gs)=>∃ h B,Fr a 26 [(0,.string (tx q)),(2,.pointer (some ⟨b3,0,none⟩)),(3,.pointer (some ⟨b7,0,none⟩)),(4,vi (k:Int))]∧(k≤q.length)∧(gs=wdG (q.take k))∧Blk w b3 32 [vi 0,vi 0,.slice none 0 0]∧Blk w b7 43 [vi 1,.slice h gs.length B]∧Own w y.heap.size 90 3 encG h B gs∧Below y.heap.size y w) (fun (s:Nat×(List Gt))=>match s with|(k,gs)=>q.length-k) (0,[]) ?_ ?_
 ·exact ⟨none,0,f.sb,(Qf _),rfl,b,c,(Own.nil _ _ _ _ _),d⟩
 rintro ⟨k,gs⟩ a w4 ⟨h,B,f,hk,o,b,c,e,d⟩
 have b6:gs.length≤9:=by rw [o];simp [wdG];omega
 refine Q5 fun _ aM=>?_;refine Zs f fun _ aN=>?_;refine Zm rfl<|Zm rfl<|Ze (X9h (s:=q) rfl Tryz.underlying9)<|Ze (X15 rfl rfl)<|Zt aN fun a f=>?_
 refine Xn f rfl (fun j=>?_) (fun j=>?_)
 ·have a9:=j;have j:=Q2 j
  obtain ⟨b8,b4⟩:=Xv (l:=q) (k:=k) (by omega)
  obtain ⟨u7,aA⟩:=Xv (l:=q) (k:=k) (by have:=j;omega)
  refine Q7<|aM _ _<|Q5 fun _ L=>?_;refine Q8<|Zs f fun _ aO=>?_;refine Za rfl<|ZX aO fun a f _ M=>?_;refine Zs f fun _ aP=>?_;refine Zm rfl<|Zm rfl<|Ze (X88 (s:=q) (k:=k) (u:=u7) rfl rfl Tryz.underlying9 rfl aA)<|Ze (X9q rfl rfl)<|Zt aP fun a f=>?_
  refine Xn f rfl (fun n=>?_) (fun n=>?_)
  ·have aB:=n;have aC:=Xev n;refine Zr f<|Za rfl<|Zt M fun a f=>?_;refine Zr f<|Ze (Vd rfl X1x 1)<|Ze (X0 rfl X5p (c.at 1))<|Zm rfl<|Ze (Xf (ps:=[(0,vi 5)]) (cs:=[vi 5,vi 0,vi 0]) rfl (fun _=>by first|rfl|kernel_rfl))<|Zf (Xc (k:=1) (vs:=[.agg #[vi 5,vi 0,vi 0]]) (zs:=[vi 5,vi 0,vi 0]) rfl X1o X19 rfl rfl) ?_;rintro _ w5 ⟨b9,rfl,N,m,C⟩;have b1:=Q0 d.size N;have t:=e.away N;have b:=b.below m;have c:=c.below m;have e:=e.below m;have d:=btr d m;refine Zf (X0m (enc:=encG) (l:=(gs)) (l2:=([(⟨5,0,0⟩ : Gt)])) (B0:=y.heap.size) rfl rfl X1o X19 X1b X2g e (Rd.of_blk C rfl _ C.lt) (by simp only [maxLen];simp;omega) (by simp;omega) d.size) ?_;rintro _ w6 ⟨aD,aE,rfl,D,o,E⟩
   have i:Own _ y.heap.size 90 3 encG _ _ (gs):=e
   have aJ:=E _ C.lt t;clear E;have b:=b.appT i o rfl;have c:=c.appT i o rfl;have d:=Below.app d i o (Qb _) d.size;clear i o;refine Ze (Vd rfl X1x 1)<|Zo (Vu (vs:=[.slice aD (gs++([(⟨5,0,0⟩ : Gt)])).length aE]) (l':=[vi 1,.slice aD (gs++([(⟨5,0,0⟩ : Gt)])).length aE]) rfl rfl Xam c) ?_;rintro _ w7 ⟨p,hb⟩;have g:=c;have b:=b.only p (Blk.ne b g rfl);have D:=D.onlyT p g rfl;have d:=Below.only d p z;have c:=hb;refine Zn fun a f=>?_;refine Xo<|L _ _<|Zr f<|Zm rfl<|Ze (X05 rfl rfl (by omega) (by omega))<|Za rfl ?_;refine Zn fun a f=>?_;refine Xk ?_;exact ⟨(k+1,gs++([(⟨5,0,0⟩ : Gt)])),⟨aD,aE,f.sb,(by omega),(by rw [o,X69 aA,aC]),b,c,D,d⟩,(by first|omega|(dsimp only;omega))⟩
  have aB:=n;have aC:=Xeu n;refine Q7<|M _ _<|Zr f<|Ze (Vd rfl X1x 1)<|Ze (X0 rfl X5p (c.at 1))<|Zm rfl<|Ze (Xf (ps:=[(0,vi 1)]) (cs:=[vi 1,vi 0,vi 0]) rfl (fun _=>by first|rfl|kernel_rfl))<|Zf (Xc (k:=1) (vs:=[.agg #[vi 1,vi 0,vi 0]]) (zs:=[vi 1,vi 0,vi 0]) rfl X1o X19 rfl rfl) ?_;rintro _ w8 ⟨bC,rfl,Q,m,G⟩;have b2:=Q0 d.size Q;have x:=e.away Q;have b:=b.below m;have c:=c.below m;have e:=e.below m;have d:=btr d m;refine Zf (X0m (enc:=encG) (l:=(gs)) (l2:=([(⟨1,0,0⟩ : Gt)])) (B0:=y.heap.size) rfl rfl X1o X19 X1b X2g e (Rd.of_blk G rfl _ G.lt) (by simp only [maxLen];simp;omega) (by simp;omega) d.size) ?_;rintro _ w9 ⟨aF,aG,rfl,H,o,E⟩
  have i:Own _ y.heap.size 90 3 encG _ _ (gs):=e
  have aK:=E _ G.lt x;clear E;have b:=b.appT i o rfl;have c:=c.appT i o rfl;have d:=Below.app d i o (Qb _) d.size;clear i o;refine Ze (Vd rfl X1x 1)<|Zo (Vu (vs:=[.slice aF (gs++([(⟨1,0,0⟩ : Gt)])).length aG]) (l':=[vi 1,.slice aF (gs++([(⟨1,0,0⟩ : Gt)])).length aG]) rfl rfl Xam c) ?_;rintro _ bD ⟨p,hb⟩;have g:=c;have b:=b.only p (Blk.ne b g rfl);have H:=H.onlyT p g rfl;have d:=Below.only d p z;have c:=hb;refine Zn fun a f=>?_;refine Xo<|L _ _<|Zr f<|Zm rfl<|Ze (X05 rfl rfl (by omega) (by omega))<|Za rfl ?_;refine Zn fun a f=>?_;refine Xk ?_;exact ⟨(k+1,gs++([(⟨1,0,0⟩ : Gt)])),⟨aF,aG,f.sb,(by omega),(by rw [o,X69 aA,aC]),b,c,H,d⟩,(by first|omega|(dsimp only;omega))⟩
 have a9:=j;have j:=Q1 j
 have aQ:gs=wdG q:=by rw [o,Qi (by omega)]
 have I:opI ⟨1,gs⟩=some (opM (wdG q)):=by rw [aQ];exact aT
 refine Q9<|Xj<|Xj<|X06 ?_;refine aZ _ _<|Zs f fun _ aR=>?_;refine Ze (Vn Xae c)<|Zf (X1g (vs:=[.agg #[vi 1,.slice h gs.length B]]) rfl Xbp (by have hq:=Xj0 w4 (⟨1,gs⟩ : Cx) h B e.rd.top (Xez I) (opM (wdG q)) I;rw [show opI _=some (opM (wdG q)) from I,Qq] at hq;exact hq)) ?_;rintro _ bE ⟨aH,aI,rfl,J,m⟩;have b:=b.below m;have d:=btr d m;refine Zo (Vw [vi ((opM (wdG q)).rows),vi ((opM (wdG q)).cols),.slice aH ((opM (wdG q)).cells).length aI] X0g b) ?_;rintro _ bF ⟨p,hb⟩;have g:=b;have J:=J.onlyT p g rfl;have d:=Below.only d p aL;have b:=hb;refine Zt aR fun a f=>?_
 refine Q6 (X4 f (Xx f rfl (ResV.cellN (l:=[vi ((opM (wdG q)).rows),vi ((opM (wdG q)).cols),.slice aH ((opM (wdG q)).cells).length aI]) rfl Xp (b.at 0) rfl)) ?_)
 exact ⟨aH,aI,rfl,J.top,d⟩
theorem Xqf(w0:World)(ss:List UInt8)(fc fp:Int)(hF:FrmOk ss)(aE:0≤fc∧fc≤23)(aF:0≤fp∧fp≤7) : Ret Tryz.prog 24 [.agg #[.string (tx ss),vi fc,vi fp]] w0 (fun v w=>v=.bool true∧Below w0.heap.size w0 w):=by
 have aG:=hF.len;refine enter Tryz.func24 rfl 44 rfl rfl ?_;intro a g
 have hW:=bz w0
 refine Zs g fun _ aH=>?_;refine Zf (X09 (zs:=[.string (tx ss),vi fc,vi fp]) rfl rfl) ?_;rintro _ w1 ⟨b2,rfl,aI,hE,m⟩;have aO:=Q0 hW.size aI;have hW:=btr hW hE;refine Za rfl<|ZX aH fun a g _ aJ=>?_;refine Zs g fun _ aK=>?_;refine Za rfl<|Zt aK fun a g=>?_;refine Q8<|X03 (σ:=Nat) (fun (i:Nat) (a:Act) (w:World)=>Fr a 44 [(1,.pointer (some ⟨b2,0,none⟩)),(3,vi (i:Int))]∧(i≤ss.length)∧Blk w b2 27 [.string (tx ss),vi fc,vi fp]∧Below w0.heap.size w0 w) (fun (i:Nat)=>ss.length-i) 0 ?_ ?_
 ·exact ⟨g.sb,(Qf _),m,hW⟩
 rintro i a w2 ⟨g,hi,m,hW⟩;refine Q5 fun _ aL=>?_;refine Zs g fun _ aM=>?_;refine Zm rfl<|Ze (Vd rfl X1q 0)<|Ze (X0 rfl X6c (m.at 0))<|Ze (X9h (s:=ss) rfl Tryz.underlying9)<|Ze (X15 rfl rfl)<|Zt aM fun a g=>?_
 refine Xn g rfl (fun n=>?_) (fun n=>?_)
 ·have c:=n;have n:=Q2 n
  obtain ⟨u8,aP⟩:=Xv (l:=ss) (k:=i) (by omega)
  obtain ⟨u7,aA⟩:=Xv (l:=ss) (k:=i) (by have:=n;omega)
  refine Q7<|aL _ _<|Q5 fun _ aN=>?_;refine Q8<|Zs g fun _ aB=>?_;refine Ze (Vd rfl X1q 0)<|Ze (X0 rfl X6c (m.at 0))<|Zm rfl<|Ze (X88 (s:=ss) (k:=i) (u:=u7) rfl rfl Tryz.underlying9 rfl aA)<|Za rfl<|ZX aB fun a g _ aC=>?_;refine X0e (fun a w=>Fr a 44 [(1,.pointer (some ⟨b2,0,none⟩)),(3,vi (i:Int)),(29,.bool ((((u7.toNat:Int) != 72)&&((u7.toNat:Int) != 83))&&(((u7.toNat:Int) != 84)||(decide (0<(i:Int))))))]∧w2=w) ?_ ?_
  ·refine Zr g<|Zm rfl<|Ze (Xgk rfl rfl)<|Zm rfl ?_
   refine Zg 18 rfl (fun d=>?_) (fun d=>?_)
   ·refine Zv (gW d) (Xd rfl) ?_;refine Zv (gW d) (Xgk rfl rfl) ?_;refine Ze (Xi rfl d rfl)<|Zm rfl ?_
    refine Zg 22 rfl (fun b=>?_) (fun b=>?_)
    ·refine Zv (gW b) (Xd rfl) ?_;refine Zv (gW b) (Xgk rfl rfl) ?_;refine Zv (gW b) (Xd rfl) ?_
     refine Zg 25 rfl (fun j=>?_) (fun j=>?_)
     ·refine Zp (gP j) ?_;refine Zp (gP j) ?_;refine Zv (gW b) (Xi rfl j rfl) ?_;refine Ze (Xi rfl b rfl) ?_;refine Zn fun a g=>?_;exact ⟨g.sub ⟨rfl,rfl,X2 rfl (by first|rfl|(simp only [c,d,b,j,bs];done)|simp [c,d,b,j]),trivial⟩,rfl⟩
     refine Zv (gW j) (Xd rfl) ?_;refine Zv (gW j) (Xa5 rfl rfl) ?_;refine Zv (gW b) (Xe rfl j rfl) ?_;refine Ze (Xi rfl b rfl) ?_;refine Zn fun a g=>?_;exact ⟨g.sub ⟨rfl,rfl,X2 rfl (by first|rfl|(simp only [c,d,b,j,bs];done)|simp [c,d,b,j]),trivial⟩,rfl⟩
    refine Zp (gP b) ?_;refine Zp (gP b) ?_;refine Zp (gP b) ?_;refine Zp (gP trivial) ?_;refine Zp (gP trivial) ?_;refine Zp (gP b) ?_;refine Ze (Xe rfl b rfl) ?_;refine Zn fun a g=>?_;exact ⟨g.sub ⟨rfl,rfl,X2 rfl (by first|rfl|(simp only [c,d,b,bs];done)|simp [c,d,b]),trivial⟩,rfl⟩
   refine Zp (gP d) ?_;refine Zp (gP d) ?_;refine Ze (Xe rfl d rfl)<|Zm rfl<|Zp (gP rfl) ?_;refine Zp (gP rfl) ?_;refine Zp (gP rfl) ?_;refine Zp (gP trivial) ?_;refine Zp (gP trivial) ?_;refine Zp (gP rfl) ?_;refine Ze (Xe rfl rfl rfl) ?_;refine Zn fun a g=>?_;exact ⟨g.sub ⟨rfl,rfl,X2 rfl (by first|rfl|(simp only [c,d,bs];done)|simp [c,d]),trivial⟩,rfl⟩
  rintro a _ ⟨g,rfl⟩;refine aC _ _ ?_
  refine Xn g rfl (fun o=>?_) (fun o=>?_)
  ·have a9:=o;exact (Xtj hF aA o).elim
  have a9:=o;refine Q7<|Xo<|aN _ _<|Zr g ?_;refine Zm rfl<|Ze (X05 rfl rfl (by omega) (by omega))<|Za rfl ?_;refine Zn fun a g=>?_;refine Xk ?_;exact ⟨i+1,⟨g.sb,(by omega),m,hW⟩,(by omega)⟩
 have c:=n;have n:=Q1 n;refine Q9<|Xj<|Xj<|X06 ?_;refine aJ _ _<|Q5 fun _ aD=>?_;refine X0e (fun a w=>Fr a 44 [(2,.bool (((decide ((ss.length:Int)≤40))&&(inR fc 0 23))&&(inR fp 0 7)))]∧w2=w) ?_ ?_
 ·refine Zr g<|Ze (Vd rfl X1q 0)<|Ze (X0 rfl X6c (m.at 0))<|Ze (X9h (s:=ss) rfl Tryz.underlying9)<|Ze (Xky rfl rfl)<|Zm rfl ?_
  refine Zg 34 rfl (fun e=>?_) (fun e=>?_)
  ·refine Zv (gW e) (Vd rfl X3e 1) ?_;refine Zv (gW e) (X0 rfl X7 (m.at 1)) ?_;refine Zk (gW e) (Vc (F91 _ fc 0 23) X44) ?_;rintro _ _ ⟨rfl,rfl⟩;refine Ze (Xi rfl e rfl)<|Zm rfl ?_
   refine Zg 39 rfl (fun f=>?_) (fun f=>?_)
   ·refine Zv (gW f) (Vd rfl X38 2) ?_;refine Zv (gW f) (X0 rfl X7 (m.at 2)) ?_;refine Zk (gW f) (Vc (F91 _ fp 0 7) X44) ?_;rintro _ _ ⟨rfl,rfl⟩;refine Ze (Xi rfl f rfl)<|Za rfl ?_;refine Zn fun a g=>?_;exact ⟨g.sub ⟨X2 rfl (by first|rfl|(simp only [c,e,f,bs];done)|simp [c,e,f]),trivial⟩,rfl⟩
   refine Zp (gP f) ?_;refine Zp (gP f) ?_;refine Zp (gP f) ?_;refine Ze (Xe rfl f rfl)<|Za rfl ?_;refine Zn fun a g=>?_;exact ⟨g.sub ⟨X2 rfl (by first|rfl|(simp only [c,e,f,bs];done)|simp [c,e,f]),trivial⟩,rfl⟩
  refine Zp (gP e) ?_;refine Zp (gP e) ?_;refine Zp (gP e) ?_;refine Ze (Xe rfl e rfl)<|Zm rfl<|Zp (gP rfl) ?_;refine Zp (gP rfl) ?_;refine Zp (gP rfl) ?_;refine Ze (Xe rfl rfl rfl)<|Za rfl ?_;refine Zn fun a g=>?_;exact ⟨g.sub ⟨X2 rfl (by first|rfl|(simp only [c,e,bs];done)|simp [c,e]),trivial⟩,rfl⟩
 rintro a _ ⟨g,rfl⟩;refine aD _ _ ?_
 refine Q6 (X4 g (Xx g rfl rfl) ?_)
 exact ⟨by rw [Xmv aG aE aF],hW⟩
structure Sd where (A:Option Addr) (c:Nat) (l:List Dy)
def encSd(s:Sd) : List Value:=[.slice s.A s.l.length s.c]
theorem X1p:∀ x,(encSd x).length=1:=fun _=>rfl
theorem X3b:∀ x,(encSd x).all one=true:=fun _=>rfl
def DeepD(w:World)(B:Nat)(l:List Sd) : Prop:=∀ s ∈ l,Rd w B 86 encD s.A s.l
section
variable {w w' : World} {B : Nat} {l : List Sd}
theorem DeepD.below(h:DeepD w B l)(hb:Below w.heap.size w w') : DeepD w' B l:=fun s hs=>(h s hs).below hb
theorem DeepD.top(h:DeepD w B l) : DeepD w w.heap.size l:=fun s hs=>(h s hs).top
theorem DeepD.onlyT{b:Nat}{T:TypeId}{lc:List Value}(h:DeepD w B l)(ho:Only b w w')(hb:Blk w b T lc)(hT:Nat.beq (86:TypeId) T=false) : DeepD w' B l:=fun s hs=>(h s hs).onlyT ho hb hT
theorem DeepD.appT{B0:Nat}{E':TypeId}{sz:Nat}{α:Type}{enc:α→List Value}{A:Option Addr}{c:Nat}{m:List α}(h:DeepD w B l)(ho:Own w B0 E' sz enc A c m)(hg:w.grownBy w' (Value.slice A m.length c).ownBlock)(hT:Nat.beq E' (86:TypeId)=false) : DeepD w' B l:=fun s hs=>(h s hs).appT ho hg hT
theorem DeepD.nil(w:World)(B:Nat) : DeepD w B []:=fun s hs=>by cases hs
theorem DeepD.snoc{s:Sd}(h:DeepD w B l)(hr:Rd w B 86 encD s.A s.l) : DeepD w B (l++[s]):=fun t ht=>by
 rcases Qu.1 ht with h1|h1
 ·exact h t h1
 ·rw [Qm] at h1;subst h1;exact hr
end
theorem Apart.nl(A:Option Addr) : Apart none A:=fun _ _ h=>by cases h
theorem Apart.nr(A:Option Addr) : Apart A none:=fun _ _ _ h=>by cases h
theorem Xrz{α:Type}{f:α→Bool}{l:List α}{k:Nat}{u:α}(h:l[k]? = some u) : (l.take (k+1)).any f=((l.take k).any f||f u):=by
 rw [Qt,h,List.any_append];simp
def letC(i:Nat) : UInt8:=if i=0 then 72 else 83
theorem Xg3{α:Type}{x y u:α}{i:Nat}(h:([x,y] : List α)[i]? = some u) : (i=0∧u=x)∨(i=1∧u=y):=by
 rcases i with _|_|i
 ·injection h with h;exact .inl ⟨rfl,h.symm⟩
 ·injection h with h;exact .inr ⟨rfl,h.symm⟩
 ·cases h
theorem Xt1{w:World}{B:Nat}{x y u:Sd}{i:Nat}(h:([x,y] : List Sd)[i]? = some u)(hx:Rd w B 86 encD x.A x.l)(hy:Rd w B 86 encD y.A y.l) : Rd w B 86 encD u.A u.l:=by
 rcases Xg3 h with ⟨_,rfl⟩|⟨_,rfl⟩<;>assumption
theorem Xwd{x y u:Sd}{i:Nat}(h:([x,y] : List Sd)[i]? = some u)(hx:x.l=clB 1)(hy:y.l=clB 2) : u.l=clB (letR i):=by
 rcases Xg3 h with ⟨rfl,rfl⟩|⟨rfl,rfl⟩<;>assumption
theorem Xm2{i:Nat}(hi:i<2) : (([72,83] : List UInt8).drop i).take (i+1-i)=[letC i]:=by
 have h:i=0∨i=1:=by omega
 rcases h with rfl|rfl<;>rfl
theorem Xpe:((List.range 24).all fun n=>(List.range 2).all fun i=>(List.range 3).all fun a=>(List.range 3).all fun b=>decide (rbN (letR i) a 0*rbN n 0 b+rbN (letR i) a 1*rbN n 1 b+rbN (letR i) a 2*rbN n 2 b=rbN (nx n (letC i)) a b))=true:=by kernel_rfl
theorem Xnu{n i:Nat}(hn:n<24)(hi:i<2) : mulBI (clB (letR i)) (clB n)=some (clB (nx n (letC i))):=by
 have hk:letR i<24:=by unfold letR;split<;>decide
 have h1:=Xpe
 simp only [W1,W2,Qr] at h1
 have hv:=X5s hk;have ht:=X5s hn
 have hz:∀ a b:Int,zI a*zI b=zI (a*b):=fun a b=>by apply X0k<;>simp [X2d,X2q,X2y,X31,zI]
 have hz2:∀ a b:Int,zI a+zI b=zI (a+b):=fun a b=>rfl
 have ho:∀ a b,a<3→b<3→∃ x,dotI (bm3 (clB (letR i))) (bm3 (clB n)) a b 3=some x:=fun a b ha hb=>X7u hv ht (by decide) (R:=16) (by decide) ha hb fun m hm=>by
  have t1:Tri (rbN (letR i) a m):=(Xfs hk).1.tri _
  have t2:Tri (rbN n m b):=(Xfs hn).1.tri _
  have t3:=X7v t1 t2
  show qN (zI _*zI _)≤16
  rw [hz]
  unfold Tri at t3
  have h5:rbN (letR i) a m*rbN n m b = -1∨rbN (letR i) a m*rbN n m b=0∨rbN (letR i) a m*rbN n m b=1:=by omega
  rcases h5 with e|e|e<;>rw [e]<;>decide
 obtain ⟨r,hr⟩ : ∃ r,mulBI (clB (letR i)) (clB n)=some r:=X63 9 fun m hm=>ho (m/3) (m % 3) (by omega) (by omega)
 rw [hr,Xix (Xc8 hr hv ht) (X5s ((Xiy hn).lt (letC i))) fun a b ha hb=>?_]
 show s2^0*(zI _*zI _+zI _*zI _+zI _*zI _)=s2^(0+0)*zI _
 rw [hz,hz,hz,hz2,hz2,h1 n hn i hi a ha b hb]
def ctT:List Nat:=[1,2,3,3,4,5,6,7,8,8,9,10,11,11,12,13,14,14,15,15,16,16,16,16,17,17,18,18,18,19,20,20,21,22,23,23,24,24,24,24,24,24,24,24,24,24,24,24,24]
def ctI(n i:Nat) : Nat:=ctT.getD (2*n+i) 0
theorem Xq2:((List.range 24).all fun n=>decide (n<ctI n 0)&&(List.range 2).all fun i=>decide (ctI n i≤24)&&decide (n<ctI n i)&&decide (nx n (letC i)≤ctI n i)&&(if nx n (letC i)=ctI n i then decide (ctI n (i+1)=ctI n i+1)&&decide (cw (ctI n i)=cw n++[letC i]) else decide (ctI n (i+1)=ctI n i)))=true:=by kernel_rfl
structure CtOk (n i:Nat) : Prop where
 le:ctI n i≤24
 lt:n<ctI n i
 nx:nx n (letC i)≤ctI n i
 new:Proofs.YtnmabjfoiakapaaGreatDoor.nx n (letC i)=ctI n i→ctI n (i+1)=ctI n i+1∧cw (ctI n i)=cw n++[letC i]
 old:Proofs.YtnmabjfoiakapaaGreatDoor.nx n (letC i)≠ctI n i→ctI n (i+1)=ctI n i
theorem Xu1{n i:Nat}(hn:n<24)(hi:i<2) : CtOk n i:=by
 have h:=Xq2
 simp only [W1,W2,Qd,Qr] at h
 obtain ⟨_,h2⟩:=h n hn;obtain ⟨⟨⟨a,b⟩,c⟩,d⟩:=h2 i hi
 refine ⟨a,b,c,fun e=>?_,fun e=>?_⟩
 ·rw [Q4 e] at d;simpa only [Qd,Qr] using d
 ·rw [Q3 e] at d;simpa only [Qr] using d
theorem Xpj{n:Nat}(hn:n<24) : n<ctI n 0:=by
 have h:=Xq2
 simp only [W1,W2,Qd,Qr] at h
 exact (h n hn).1
def wsN(C:Nat) : List ByteArray:=(List.range C).map fun k=>tx (cw k)
def lsN(C:Nat) : List (List Dy):=(List.range C).map clB
theorem X3s(C:Nat) : (wsN C).length=C:=by simp [wsN]
theorem Xfi(C:Nat) : (lsN C).length=C:=by simp [lsN]
theorem X8f{C k:Nat}(h:k<C) : (wsN C)[k]? = some (tx (cw k)):=by simp [wsN,h]
theorem Xd4(C:Nat) : wsN (C+1)=wsN C++[tx (cw C)]:=by simp [wsN,List.range_succ]
theorem Xdh(C:Nat) : lsN (C+1)=lsN C++[clB C]:=by simp [lsN,List.range_succ]
theorem Xfx{L:List Sd}{C k:Nat}{u:Sd}(h:L.map Sd.l=lsN C)(hu:L[k]? = some u) : u.l=clB k:=by
 have h1:(L.map Sd.l)[k]? = some u.l:=by rw [List.getElem?_map,hu];rfl
 rw [h] at h1
 have hk:k<C:=by have:=(Qg.1 h1).1;rwa [Xfi] at this
 simp [lsN,hk] at h1
 exact h1.symm
theorem X78{L:List Sd}{C:Nat}(h:L.map Sd.l=lsN C) : L.length=C:=by
 have:=congrArg List.length h
 rwa [Qo,Xfi] at this
theorem Xto:((List.range 24).all fun n=>(List.range 24).all fun m=>(n==m)||!decide (clB n=clB m))=true:=by kernel_rfl
theorem Xn0{n m:Nat}(hn:n<24)(hm:m<24)(h:clB n=clB m) : n=m:=by
 have h1:=Xto
 simp only [W1,W2,Bool.or_eq_true,beq_iff_eq,Bool.not_eq_true',decide_eq_false_iff_not] at h1
 exact (h1 n hn m hm).resolve_right fun h2=>h2 h
theorem Xea{L:List Sd}{C m:Nat}(h:L.map Sd.l=lsN C)(hC:C≤24)(hm:m<24) : L.any (fun s=>decide (s.l=clB m))=decide (m<C):=by
 have e:L.any (fun s=>decide (s.l=clB m))=(L.map Sd.l).any fun l=>decide (l=clB m):=by rw [List.any_map];rfl
 rw [e,h]
 by_cases hc:m<C
 ·rw [decide_eq_true hc,List.any_eq_true]
  exact ⟨clB m,W6.2 ⟨m,W2.2 hc,rfl⟩,decide_eq_true rfl⟩
 ·rw [decide_eq_false hc,W7]
  intro l hl;obtain ⟨k,hk,rfl⟩:=W6.1 hl
  rw [W2] at hk
  intro h9
  have:=Xn0 (show k<24 by omega) hm (Q2 h9)
  omega
theorem Xra{L:List Sd}{C:Nat}(h:L.map Sd.l=lsN C)(hC:C≤24){u:Sd}(hu:u ∈ L) : u.l.length≤2305843009213693951:=by
 have h1:u.l ∈ L.map Sd.l:=W6.2 ⟨u,hu,rfl⟩
 rw [h] at h1
 obtain ⟨k,hk,e⟩:=W6.1 h1
 rw [W2] at hk
 rw [← e,(X5s (show k<24 by omega)).len];decide
def uD(i:Nat) : Dy:=⟨⟨if ((i:Int).tmod 4==0)=true then 1 else 0,0,0,0⟩,0⟩
theorem Xmi:(List.range 9).map uD=clB 0:=by kernel_rfl
theorem Xm4(n:Nat) : (List.range n).map uD++[uD n]=(List.range (n+1)).map uD:=by simp [List.range_succ]
theorem X3q{k:Nat}(hk:k<24) : (clB k).length=9:=(X5s hk).len
theorem Xoc(i:Nat) : letR i<24:=by unfold letR;split<;>decide
def cdW(t:Nat) : List UInt8:=if t=0 then [] else cw ((t-1)/2)++[letC ((t-1) % 2)]
def cdB(t:Nat) : Nat:=if t=0 then 0 else nx ((t-1)/2) (letC ((t-1) % 2))
def ctC(t:Nat) : Nat:=if t=0 then 0 else ctT.getD (t-1) 0
theorem Xwx{t:Nat}(h:t≠0) : ctC t=ctI ((t-1)/2) ((t-1) % 2):=by
 unfold ctC ctI;rw [Q3 h];congr 1;omega
structure CdOk (t:Nat) : Prop where
 bl:blochI (opM (wdG (cdW t)))=some (clB (cdB t))
 len:(cdW t).length≤9
 lt:cdB t<24
 le:ctC t≤24
 nx:cdB t≤ctC t
 new:cdB t=ctC t→ctC (t+1)=ctC t+1∧cw (ctC t)=cdW t
 old:cdB t≠ctC t→ctC (t+1)=ctC t
theorem Xol{t:Nat}(ht:t<48) : CdOk t:=by
 by_cases h0:t=0
 ·subst h0
  have e1:cdW 0=cw 0:=rfl
  have e2:cdB 0=0:=rfl
  have e3:ctC 0=0:=rfl
  have e4:ctC (0+1)=1:=rfl
  refine ⟨?_,?_,?_,?_,?_,fun _=>?_,fun h=>?_⟩
  ·rw [e1,e2];exact X6q (by decide)
  ·rw [e1];decide
  ·rw [e2];decide
  ·rw [e3];decide
  ·rw [e2,e3];exact Qb _
  ·rw [e3,e4,e1];exact ⟨rfl,rfl⟩
  ·rw [e2,e3] at h;exact absurd rfl h
 ·have hk:(t-1)/2<24:=by omega
  have hi:(t-1) % 2<2:=by omega
  have hc:=Xu1 hk hi
  have e1:cdW t=cw ((t-1)/2)++[letC ((t-1) % 2)]:=Q3 h0
  have e2:cdB t=nx ((t-1)/2) (letC ((t-1) % 2)):=Q3 h0
  have e3:=Xwx h0
  have e4:ctC (t+1)=ctI ((t-1)/2) ((t-1) % 2+1):=by
   unfold ctC ctI;rw [Q3 (by omega)];congr 1;omega
  refine ⟨by rw [e1,e2];exact Xdz hk _,by rw [e1];have:=(X6d hk).2;simp;omega,by rw [e2];exact (Xiy hk).lt _,by rw [e3];exact hc.le,by rw [e2,e3];exact hc.nx,fun h=>?_,fun h=>?_⟩
  ·rw [e2,e3] at h
   rw [e1,e3,e4];exact hc.new h
  ·rw [e2,e3] at h
   rw [e3,e4];exact hc.old h
theorem Xvy:((List.range 49).all fun t=>decide (24≤ctC t)||decide (t<1+2*ctC t))=true:=by kernel_rfl
theorem Xwg{t:Nat}(ht:t<49)(h:ctC t<24) : t<1+2*ctC t:=by
 have h1:=Xvy
 simp only [W1,W2,Bool.or_eq_true,Qr] at h1
 have:=h1 t ht
 omega
def cdL(a b:Nat) : List ByteArray:=(List.range (b-a)).map fun j=>tx (cdW (a+j))
theorem Xcl(a b:Nat) : (cdL a b).length=b-a:=by simp [cdL]
theorem Xmx{a b q:Nat}(h:q<b-a) : (cdL a b)[q]? = some (tx (cdW (a+q))):=by simp [cdL,h]
theorem Xna{a C t:Nat}(ha:a≤1+2*C)(h:cw C=cdW t) : cdL a (1+2*C)++[tx (cdW t++[72]),tx (cdW t++[83])]=cdL a (1+2*(C+1)):=by
 unfold cdL
 rw [show 1+2*(C+1)-a=(1+2*C-a)+1+1 by omega,List.range_succ,List.range_succ,List.map_append,List.map_append,Qx]
 congr 1
 have e1:cdW (a+(1+2*C-a))=cdW t++[72]:=by
  rw [show a+(1+2*C-a)=1+2*C by omega,cdW,Q3 (by omega),show (1+2*C-1)/2=C by omega,show (1+2*C-1) % 2=0 by omega,h];rfl
 have e2:cdW (a+(1+2*C-a+1))=cdW t++[83]:=by
  rw [show a+(1+2*C-a+1)=2+2*C by omega,cdW,Q3 (by omega),show (2+2*C-1)/2=C by omega,show (2+2*C-1) % 2=1 by omega,h];rfl
 simp [e1,e2]
theorem Xiw{t:Nat}(ht:t<48) : ctC t≤ctC (t+1):=by
 have h:=Xol ht
 by_cases e:cdB t=ctC t
 ·have:=(h.new e).1;omega
 ·have:=h.old e;omega
theorem Xfq(k:Nat) : fmG k []=wdG (cw k):=by simp [fmG,synG]
theorem Xdk(k s:Nat)(ss:List Nat) : fmG k (s::ss)=fmG k ss++sylG s:=by unfold fmG;rw [X7z,Qx]
theorem X8k{k:Nat}(hk:k<24){ss:List Nat}(h:ss.length≤40) : (fmG k ss).length≤126:=by
 have h1:=(Xf5 ss).2;have h2:=(X6d hk).2
 unfold fmG wdG
 rw [Qh,Qo]
 omega
theorem Xjp{sl:List Nat}{j:Nat}(hj:j<sl.length) : ∃ s,sl[sl.length-1-j]? = some s∧s ∈ sl∧sl.drop (sl.length-(j+1))=s::sl.drop (sl.length-j):=by
 have h1:sl.length-1-j<sl.length:=by omega
 refine ⟨sl[sl.length-1-j],Qc h1,List.getElem_mem h1,?_⟩
 rw [show sl.length-(j+1)=sl.length-1-j from by omega,Qy h1,show sl.length-1-j+1=sl.length-j from by omega]
theorem Xjo{j k:Nat}(hj:j<24)(hk:k<24)(h:clB j=clB k) : j=k:=by rw [← Xeb hj,h,Xeb hk]
theorem Xvj(l:List Dy) : l.map (dTurn ((0:Nat) : Int))=l:=by
 induction l with
 | nil=>rfl
 | cons x t ih=>rw [List.map_cons,ih];rfl
theorem Xl3{tb:List UInt8}{sl:List Nat}(h:tb=sl.map sylT){k s:Nat}(hs:sl[k]? = some s) : tb[k]? = some (sylT s):=by rw [h,List.getElem?_map,hs];rfl
def nfM(m:Mx) : Option (List Nat×Nat×Nat):=(blochI m).bind fun l=>if bexp l≤40 then some (nfS l,clX (nfL l),nfP m l) else none
def nfs(m:Mx) : List UInt8:=match nfM m with|some p=>p.1.map sylT|none=>[]
def nfk(m:Mx) : Nat:=match nfM m with|some p=>p.2.1|none=>0
def nfp(m:Mx) : Nat:=match nfM m with|some p=>p.2.2|none=>0
structure NfN (m:Mx) : Prop where
 s:nfs m=[]
 k:nfk m=0
 p:nfp m=0
 n:(nfM m).isSome=false
theorem nfN{m:Mx}(h:(!(blochI m).isSome||decide (40<bexp ((blochI m).getD [])))=true) : NfN m:=by
 have e:nfM m=none:=by
  unfold nfM
  cases hb:blochI m with
  | none=>rfl
  | some l=>
   rw [hb] at h
   have:¬ bexp l≤40:=by simp at h;omega
   rw [Qz,Q3 this]
 exact ⟨by unfold nfs;rw [e],by unfold nfk;rw [e],by unfold nfp;rw [e],by rw [e];rfl⟩
structure NfY (m:Mx) (l:List Dy) : Prop where
 s:nfs m=(nfS l).map sylT
 k:nfk m=clX (nfL l)
 p:nfp m=nfP m l
 n:(nfM m).isSome=true
theorem nfY{m:Mx}{l:List Dy}(h:blochI m=some l)(hb:bexp l≤40) : NfY m l:=by
 have e:nfM m=some (nfS l,clX (nfL l),nfP m l):=by unfold nfM;rw [h,Qz,Q4 hb]
 exact ⟨by unfold nfs;rw [e],by unfold nfk;rw [e],by unfold nfp;rw [e],by rw [e];rfl⟩
theorem Xkf{m:Mx}(h:(!(blochI m).isSome||decide (40<bexp ((blochI m).getD [])))=false) : blochI m=some ((blochI m).getD [])∧bexp ((blochI m).getD [])≤40:=by
 cases hb:blochI m with
 | none=>rw [hb] at h;cases h
 | some l=>rw [hb] at h;simp at h;exact ⟨rfl,h⟩
theorem Xww{m:Mx}{l:List Dy}(h:NfR m l) : (mOk m&&mOk (nfW l)&&eqPh m (nfW l))=true∧(mOk m&&mOk (nfW l))=true:=by
 have h1:=h.one.1;have h2:=h.vm.1
 have h3:eqPh m (nfW l)=true:=by
  rw [Xi9 h2]
  obtain ⟨k,hk,ht⟩:=h.ph;exact List.any_eq_true.2 ⟨k,W2.2 hk,ht⟩
 rw [h1,h2,h3]
 exact ⟨rfl,rfl⟩
theorem Xu9{m:Mx}{l:List Dy}(h:NfR m l){i:Int}(hi:∃ k:Nat,k<8∧i=(k:Int)∧eqPhT m (nfW l) k=true) : i=(nfP m l:Int)∧nfP m l<8:=by
 obtain ⟨k,hk,e1,e2⟩:=hi
 have h3:turnedS m (nfW l) (k:Int)=true:=by rw [← e2,eqPhT,X4z h.vm.1 hk];rfl
 rw [Xlo h hk h3]
 exact ⟨e1,hk⟩
theorem Xkr(m:Mx) : ((blochI m).getD []).length≤9:=by
 cases hb:blochI m with
 | none=>decide
 | some l=>
  unfold blochI at hb
  split at hb
  ·rw [Qq,X2w hb];exact Qb _
  ·cases hb
section
variable {P : Program} {a : Act} {w : World} {n : Nat} {e : Env} {ty : TypeId} {pos : String} {af : Array Edge} {g : Option (Nat × Bool)} {d : Option Tmp} {t t' : TypeId}
theorem Xne{x y:Operand}{s:List UInt8}(hf:Fr a n e)(hx:ev e x=some (.string (tx s)))(hy:ev e y=some (.string (tx s))) : Ev P ⟨d,.binOp .neq t x y t',ty,pos,af,g⟩ a w (.bool false):=fun w' _=>by
 simp [execOp,hf.ev hx,hf.ev hy,eqGuard,binOp,Op.stringOp]
theorem Xw4{x y:Operand}{s:List UInt8}(hx:ev e x=some (.string (tx s)))(hy:ev e y=some (.string (tx s))) : EvW P ⟨d,.binOp .neq t x y t',ty,pos,af,g⟩ n e w (.bool false):=fun _ hf=>Xne hf hx hy
end
theorem Xno{i:Nat}(hi:i<3) : ([84,72,83] : List UInt8)[i]? = some (sylT i):=by rcases lt3 hi with rfl|rfl|rfl<;>rfl
theorem Xic{m:Mx}{l:List Dy}(h:NfR m l) : m.cells.length=(nfW l).cells.length:=by
 have h1:=(X2e h.one.1).2.2;have h2:=(X2e h.vm.1).2.2
 rw [h1,h2,h.one.2.1,h.one.2.2,h.vm.2.1,h.vm.2.2]
theorem Xwb{l:List Dy} : (nfW l).cells.length≤2305843009213693951:=Xed ⟨1,nfC l⟩
theorem Xri{m:Mx}{l:List Dy}(h:NfR m l) : phaseS m (nfW l)=true:=by
 obtain ⟨k,hk,ht⟩:=h.ph;exact List.any_eq_true.2 ⟨k,W2.2 hk,ht⟩
theorem Xt4{m:Mx}{l:List Dy}(h:NfR m l){i:Int}(hi:∃ k:Nat,k<8∧i=(k:Int)∧turnedS m (nfW l) (k:Int)=true) : i=(nfP m l:Int):=by
 obtain ⟨k,hk,e1,e2⟩:=hi
 rw [Xlo h hk e2]
 exact e1
theorem Xxt{m:Mx}(h:oneQ m=false) : NfN m:=nfN (by unfold blochI;rw [h];rfl)
def fmW(k:Nat)(ss:List Nat)(p:Nat) : List Gt:=fmG k ss++List.replicate p ⟨12,0,0⟩
theorem Xdt(k:Nat)(ss:List Nat) : fmW k ss 0=fmG k ss:=by unfold fmW;rw [List.replicate_zero,List.append_nil]
theorem Xko(k:Nat)(ss:List Nat)(p:Nat) : fmW k ss (p+1)=fmW k ss p++[⟨12,0,0⟩]:=by unfold fmW;rw [List.replicate_succ',Qx]
theorem Xmc{k:Nat}(hk:k<24){ss:List Nat}(h:ss.length≤40)(p:Nat) : (fmW k ss p).length≤126+p:=by
 have:=X8k hk h
 unfold fmW
 rw [Qh,List.length_replicate]
 omega
theorem X3l{l:List Dy}(h:Gd l){i:Nat}(hi:i<3) : (bkC i).length=9∧l.length=9∧(∀ x ∈ bkC i,dOk x=true)∧∀ x ∈ l,dOk x=true:=⟨(Xbo hi).1,h.nine.1,(Xbo hi).2,h.nine.2⟩
theorem Xuj(b:World)(Al:Option Addr)(cl:Nat)(l:List Dy)(a9:Rd b b.heap.size 86 encD Al l)(aC:l.length≤2305843009213693951)(bm:Nat)(Am:Option Addr)(cm:Nat)(m:List Dy)(aA:Rd b b.heap.size 86 encD Am m)(aB:Blk b bm 30 [.slice Am m.length cm]) : Ret Tryz.prog 132 [.slice Al l.length cl,.pointer (some ⟨bm,0,none⟩)] b (fun v w=>v=.bool (decide (l=m))∧Below b.heap.size b w):=by
 have aD:=aB.lt;refine enter Tryz.func132 rfl 7 rfl rfl ?_;intro a hf
 have hW:=bz b
 refine Zs hf fun _ aE=>?_;refine Za rfl<|Zx aE fun a hf _ aF=>?_;refine Zm rfl<|Ze (X0 rfl X0h (aB.at 0))<|Zf (Vc (Xsh _ Al cl l (a9.below' hW).top Am cm m (aA.below' hW).top aC) Xey) ?_;rintro _ w1 ⟨rfl,hE⟩;have hW:=btr hW hE;refine Za rfl<|Zt aF fun a hf=>?_
 refine Q6 (X4 hf (Xx hf rfl rfl) ?_)
 exact ⟨rfl,hW⟩
theorem Xx1(f:World)(AL:Option Addr)(cL:Nat)(L:List Sd)(aC:Rd f f.heap.size 30 encSd AL L)(aJ:DeepD f f.heap.size L)(aR:L.length≤1000)(k:FuncId)(p:List Value)(F:FuncF Tryz.prog k)(q:List Dy→Bool)(hq:∀ (s:Sd) (w:World),s ∈ L→Below f.heap.size f w→Rd w w.heap.size 86 encD s.A s.l→Ret Tryz.prog k ([.slice s.A s.l.length s.c]++p) w (fun v w'=>v=.bool (q s.l)∧Below w.heap.size w w')) : Ret Tryz.prog 173 [.slice AL L.length cL,.func (.func k) #[] p.toArray] f (fun v w=>∃ i:Int,v=vi i∧decide (0≤i)=L.any (fun s=>q s.l)∧Below f.heap.size f w):=by
 refine enter Tryz.func173 rfl 19 rfl rfl ?_;intro a b
 have m:=bz f
 refine Zs b fun _ aK=>?_;refine Za rfl<|ZX aK fun a b _ aL=>?_;refine Zs b fun _ aM=>?_;refine Zm rfl<|Ze (X27 rfl X1j)<|Zm rfl<|Zt aM fun a b=>?_;refine Q8<|X03 (σ:=Nat) (fun (j:Nat) (a:Act) (w:World)=>Fr a 19 [(0,.slice AL L.length cL),(1,.func (.func k) #[] p.toArray),(7,vi (L.length:Int)),(8,vi (j:Int))]∧(j≤L.length)∧((L.take j).all (fun s=>!q s.l)=true)∧Below f.heap.size f w) (fun (j:Nat)=>L.length-j) 0 ?_ ?_
 ·exact ⟨b.sb,(Qf _),(by simp),m⟩
 rintro j a w1 ⟨b,hj,o,m⟩;refine Zs b fun _ aN=>?_;refine Ze (X15 rfl rfl)<|ZX aN fun a b _ aO=>?_
 refine Xn b rfl (fun e=>?_) (fun e=>?_)
 ·have aD:=e;have e:=Q2 e
  obtain ⟨n,g⟩:=Xv (l:=L) (k:=j) (by omega)
  refine Q7<|aO _ _<|Q5 fun _ aP=>?_;refine Q8<|Zs b fun _ aE=>?_;refine Zm rfl<|Za rfl<|Zx aE fun a b _ aF=>?_;refine Zm rfl<|Zm rfl<|Zm rfl<|Zi (k:=j) (u:=n) (enc:=encSd) (l:=L) trivial rfl rfl X1j X32 X1p (aC.below' m) g rfl ?_;intro aS a9
  have aG:Rd w1 f.heap.size 86 encD n.A n.l:=(aJ n (Qe g)).below' m
  refine Ze (X0 rfl X0h a9)<|Zf (X5t (cs:=p) (vs:=[.slice n.A n.l.length n.c]) rfl rfl F (hq n _ (Qe g) m aG.top)) ?_;rintro _ w2 ⟨rfl,hE⟩;have m:=btr m hE;refine Zt aF fun a b=>?_
  refine Xn b rfl (fun d=>?_) (fun d=>?_)
  ·have aA:=d
   have aB:L.any (fun s=>q s.l)=true:=X5q g d
   refine Zs b fun _ aH=>?_;refine Zm rfl<|Za rfl<|Zt aH fun a b=>?_;refine Q6<|X04<|Xa<|Xa ?_;refine X04<|Xa<|X4 b (Xx b rfl rfl) ?_;exact ⟨_,rfl,by rw [aB];simp,m⟩
  have aA:=d
  have aQ:(fun s:Sd=>!q s.l) n=true:=by show (!q n.l)=true;rw [d];rfl
  refine Q7<|Xo<|aP _ _<|Zr b ?_;refine Ze (X05 rfl rfl (by omega) (by omega))<|Zm rfl ?_;refine Zn fun a b=>?_;refine Xk ?_;exact ⟨j+1,⟨b.sb,(by omega),(X3w o g aQ),m⟩,(by omega)⟩
 have aD:=e;have e:=Q1 e;refine Q9<|Xj<|Xj<|X06 ?_;refine aL _ _<|Zs b fun _ aI=>?_;refine Za rfl<|Zt aI fun a b=>?_
 refine Q6 (X4 b (Xx b rfl rfl) ?_)
 have aB:L.any (fun s=>q s.l)=false:=X4k (X3a o (by omega))
 exact ⟨_,rfl,by rw [aB];rfl,m⟩
theorem Xwr(b:World)(AL:Option Addr)(cL:Nat)(L:List Sd)(a9:Rd b b.heap.size 30 encSd AL L)(aA:DeepD b b.heap.size L)(aB:L.length≤1000)(k:FuncId)(p:List Value)(F:FuncF Tryz.prog k)(q:List Dy→Bool)(hq:∀ (s:Sd) (w:World),s ∈ L→Below b.heap.size b w→Rd w w.heap.size 86 encD s.A s.l→Ret Tryz.prog k ([.slice s.A s.l.length s.c]++p) w (fun v w'=>v=.bool (q s.l)∧Below w.heap.size w w')) : Ret Tryz.prog 131 [.slice AL L.length cL,.func (.func k) #[] p.toArray] b (fun v w=>v=.bool (L.any (fun s=>q s.l))∧Below b.heap.size b w):=by
 refine enter Tryz.func131 rfl 9 rfl rfl ?_;intro a hf
 have hW:=bz b
 refine Zs hf fun _ aC=>?_;refine Za rfl<|Zx aC fun a hf _ aD=>?_;refine Zm rfl<|Zm rfl<|Zf (Vc (Xx1 _ AL cL L (a9.below' hW).top (aA.below hW).top aB k p F q (fun u w1 hu aE aF=>hq u w1 hu (hW.trans (aE.mono hW.size)) aF)) Xlv) ?_;rintro _ w1 ⟨ix,rfl,aG,hE⟩;have hW:=btr hW hE;refine Ze (Xhh rfl rfl)<|Za rfl<|Zt aD fun a hf=>?_
 refine Q6 (X4 hf (Xx hf rfl rfl) ?_)
 exact ⟨by rw [← aG],hW⟩
theorem Xqb(M:World)(eU:HalfT M) : Ret Tryz.prog 77 [] M (fun v w=>∃ (A:Option Addr) (c:Nat) (Bq:Option Addr) (d:Nat) (L:List Sd),v=.tuple #[.slice A (wsN 24).length c,.slice Bq L.length d]∧Own w M.heap.size 9 1 encTx A c (wsN 24)∧Own w M.heap.size 30 1 encSd Bq d L∧L.map Sd.l=lsN 24∧DeepD w w.heap.size L∧Below M.heap.size M w):=by
 refine enter Tryz.func77 rfl 80 rfl rfl ?_;intro a J
 have z:=bz M
 refine Zs J fun _ g8=>?_;refine Za rfl<|Za rfl<|Zx g8 fun a J _ g9=>?_;refine Zf (Xc (k:=0) (vs:=[]) (zs:=[]) rfl Xr X0w rfl rfl) ?_;rintro _ w1 ⟨b5,rfl,gA,y,gB⟩;have eV:=Q0 z.size gA;have z:=btr z y;refine Za rfl<|ZX g9 fun a J _ gC=>?_;refine Zs J fun _ gD=>?_;refine Zm rfl<|Zt gD fun a J=>?_;refine Q8<|X03 (σ:=Nat×(List Dy)) (fun (s:Nat×(List Dy)) (a:Act) (w:World)=>match s with|(k,l)=>∃ A9 c9,Fr a 80 [(2,.slice A9 l.length c9),(14,vi (k:Int))]∧(k≤9)∧(l=(List.range k).map uD)∧(l.length=k)∧Own w M.heap.size 86 5 encD A9 c9 l∧Below M.heap.size M w) (fun (s:Nat×(List Dy))=>match s with|(k,l)=>9-k) (0,[]) ?_ ?_
 ·exact ⟨some ⟨b5,0,none⟩,0,J.sb,(by omega),rfl,rfl,(Own.empty gB eV),z⟩
 rintro ⟨k,l⟩ a w2 ⟨A9,c9,J,hk,hl,gE,aF,z⟩;refine Zs J fun _ eW=>?_;refine Ze (X15 rfl rfl)<|ZX eW fun a J _ eX=>?_
 refine Xn J rfl (fun aG=>?_) (fun aG=>?_)
 ·have Q:=aG;have aG:=Q2 aG
  have eY:k<9:=by have:=aG;omega
  refine Q7<|eX _ _<|Q5 fun _ eZ=>?_;refine Q8<|Zs J fun _ f7=>?_;refine Zm rfl<|Za rfl<|Zt f7 fun a J=>?_;refine Zr J<|Zm rfl<|Zm rfl<|Ze (X9k rfl rfl rfl)<|Ze (X1c rfl rfl)<|Zf (Vc (F59 _ (((k:Int).tmod 4)==0)) Xcz) ?_;rintro _ _ ⟨rfl,rfl⟩;refine Zf (Vc (Xhs _ (if (((k:Int).tmod 4)==0)=true then 1 else 0)) X7m) ?_;rintro _ w3 ⟨rfl,y⟩;have aF:=aF.below y;have z:=btr z y;refine Zf (Xc (k:=1) (vs:=[.agg #[vi ((⟨⟨(if (((k:Int).tmod 4)==0)=true then 1 else 0),0,0,0⟩,0⟩ : Dy).num.a),vi ((⟨⟨(if (((k:Int).tmod 4)==0)=true then 1 else 0),0,0,0⟩,0⟩ : Dy).num.b),vi ((⟨⟨(if (((k:Int).tmod 4)==0)=true then 1 else 0),0,0,0⟩,0⟩ : Dy).num.c),vi ((⟨⟨(if (((k:Int).tmod 4)==0)=true then 1 else 0),0,0,0⟩,0⟩ : Dy).num.d),vi ((⟨⟨(if (((k:Int).tmod 4)==0)=true then 1 else 0),0,0,0⟩,0⟩ : Dy).exp)]]) (zs:=[vi ((⟨⟨(if (((k:Int).tmod 4)==0)=true then 1 else 0),0,0,0⟩,0⟩ : Dy).num.a),vi ((⟨⟨(if (((k:Int).tmod 4)==0)=true then 1 else 0),0,0,0⟩,0⟩ : Dy).num.b),vi ((⟨⟨(if (((k:Int).tmod 4)==0)=true then 1 else 0),0,0,0⟩,0⟩ : Dy).num.c),vi ((⟨⟨(if (((k:Int).tmod 4)==0)=true then 1 else 0),0,0,0⟩,0⟩ : Dy).num.d),vi ((⟨⟨(if (((k:Int).tmod 4)==0)=true then 1 else 0),0,0,0⟩,0⟩ : Dy).exp)]) rfl Xr X0w rfl rfl) ?_;rintro _ w4 ⟨iU,rfl,cV,y,cA⟩;have gF:=Q0 z.size cV;have cB:=aF.away cV;have aF:=aF.below y;have z:=btr z y;refine Zf (X0m (enc:=encD) (l:=(l)) (l2:=([(⟨⟨(if (((k:Int).tmod 4)==0)=true then 1 else 0),0,0,0⟩,0⟩ : Dy)])) (B0:=M.heap.size) rfl rfl Xr X0w Xs X1w aF (Rd.of_blk cA rfl _ cA.lt) (by simp only [maxLen];simp;omega) (by simp;omega) z.size) ?_;rintro _ w5 ⟨gG,gI,rfl,f8,B,D⟩
  have e:Own _ M.heap.size 86 5 encD _ _ (l):=aF
  have dS:=D _ cA.lt cB;clear D;have z:=Below.app z e B (Qb _) z.size;clear e B;refine Za rfl ?_;refine Zn fun a J=>?_;refine Xo<|eZ _ _<|Zr J<|Ze (X05 rfl rfl (by omega) (by omega))<|Zm rfl ?_;refine Zn fun a J=>?_;refine Xk ?_;exact ⟨(k+1,l++[uD k]),⟨gG,gI,J.sb,(by omega),(by rw [hl];exact Xm4 k),(by simp;exact gE),f8,z⟩,(by first|omega|(dsimp only;omega))⟩
 have Q:=aG;have aG:=Q1 aG
 have eY:k=9:=by have:=aG;omega
 have gJ:l=clB 0:=by rw [hl,eY];exact Xmi
 refine Q9<|Xj<|Xj<|X06 ?_;refine gC _ _<|Zs J fun _ f9=>?_;refine Zf (Xc (k:=1) (vs:=[.string (tx [])]) (zs:=[.string (tx [])]) rfl X18 X43 rfl rfl) ?_;rintro _ w6 ⟨gK,rfl,fA,y,aN⟩;have dH:=Q0 z.size fA;have aF:=aF.below y;have z:=btr z y;refine Zm rfl<|Zf (Xc (k:=1) (vs:=[.slice A9 l.length c9]) (zs:=[.slice A9 l.length c9]) rfl X1j X2f rfl rfl) ?_;rintro _ w7 ⟨gL,rfl,fB,y,aT⟩;have dI:=Q0 z.size fB;have aN:=aN.below y;have aF:=aF.below y;have z:=btr z y;refine Za rfl<|Za rfl<|Zx f9 fun a J _ fC=>?_;refine Zf (Vc (Xqe _ 1 0 (by decide) rfl (eU.of z)) Xge) ?_;rintro _ w8 ⟨aA,aB,rfl,g,y⟩;have g:=g.lower z.size;have aN:=aN.below y;have aT:=aT.below y;have aF:=aF.below y;have z:=btr z y;refine Ze (Xfu (vs:=[.slice aA (clB (letR 0)).length aB]) rfl ⟨_,_,Tryz.underlying66,rfl,rfl,X0h⟩ rfl)<|Zf (Vc (Xqe _ 5 1 (by decide) rfl (eU.of z)) Xge) ?_;rintro _ w9 ⟨aC,aD,rfl,p,y⟩;have p:=p.lower z.size;have aN:=aN.below y;have aT:=aT.below y;have aF:=aF.below y;have g:=g.below y;have z:=btr z y;refine Ze (Xfu (vs:=[.slice aC (clB (letR 1)).length aD]) rfl ⟨_,_,Tryz.underlying66,rfl,rfl,X0h⟩ rfl)<|Za rfl<|Za rfl<|ZX fC fun a J _ fD=>?_;refine Zs J fun _ fE=>?_;refine Za rfl<|Zt fE fun a J=>?_;refine Q8 ?_
 have x:DeepD w9 w9.heap.size [(⟨A9,c9,l⟩ : Sd)]:=DeepD.snoc (DeepD.nil _ _) (s:=(⟨A9,c9,l⟩ : Sd)) aF.rd.top
 refine X03 (σ:=Nat×(List ByteArray)×(List Sd)) (fun (s:Nat×(List ByteArray)×(List Sd)) (a:Act) (w:World)=>match s with|(n,ws,L)=>∃ cC cD cE cF,Fr a 80 [(4,.slice cC ws.length cD),(5,.slice cE L.length cF),(6,.slice aA (clB (letR 0)).length aB),(7,.slice aC (clB (letR 1)).length aD),(8,vi (n:Int))]∧(n≤24)∧(ws=wsN (ctI n 0))∧(L.map Sd.l=lsN (ctI n 0))∧Own w M.heap.size 9 1 encTx cC cD ws∧Own w M.heap.size 30 1 encSd cE cF L∧Own w M.heap.size 86 5 encD aA aB (clB (letR 0))∧Own w M.heap.size 86 5 encD aC aD (clB (letR 1))∧DeepD w w.heap.size L∧Below M.heap.size M w) (fun (s:Nat×(List ByteArray)×(List Sd))=>match s with|(n,ws,L)=>24-n) (0,[tx []],[(⟨A9,c9,l⟩ : Sd)]) ?_ ?_
 ·exact ⟨some ⟨gK,0,none⟩,1,some ⟨gL,0,none⟩,1,J.sb,(by omega),rfl,(by show [l]=[clB 0];rw [gJ]),(Own.of_blkL X1h aN dH rfl rfl (by decide)),(Own.of_blkL X1p aT dI rfl rfl (by decide)),g,p,x,z⟩
 rintro ⟨n,ws,L⟩ a iV ⟨cC,cD,cE,cF,J,hn,hw,hL,aU,aW,g,p,x,z⟩;refine Q5 fun _ fF=>?_;refine Zs J fun _ fG=>?_;refine Zm rfl<|Zm rfl<|Ze (X27 rfl X18)<|Ze (X15 rfl rfl)<|Zt fG fun a J=>?_
 refine Xn J rfl (fun aH=>?_) (fun aH=>?_)
 ·have U:=aH;have aH:=Q2 aH
  obtain ⟨iW,iP⟩:=Xv (l:=ws) (k:=n) (by omega)
  have aX:n<24:=by
   have h9:=aH
   rw [hw,X3s] at h9
   by_cases e9:n=24
   ·exfalso;rw [e9] at h9;exact absurd h9 (by decide)
   ·omega
  refine Q7<|fF _ _<|Q5 fun _ fH=>?_;refine Q8<|Zs J fun _ fI=>?_;refine Zm rfl<|Zm rfl<|Zf (Xc (k:=2) (vs:=[.slice aA (clB (letR 0)).length aB,.slice aC (clB (letR 1)).length aD]) (zs:=[.slice aA (clB (letR 0)).length aB,.slice aC (clB (letR 1)).length aD]) rfl X1j X2f rfl rfl) ?_;rintro _ iX ⟨aJ,rfl,cW,y,f⟩;have gM:=Q0 z.size cW;have b7:=aW.away cW;have aU:=aU.below y;have aW:=aW.below y;have g:=g.below y;have p:=p.below y;have x:=(x.below y).top;have z:=btr z y;refine Ze (X27 rfl X1j)<|Zm rfl<|Zt fI fun a J=>?_;refine Q8<|X03 (σ:=Nat×(List ByteArray)×(List Sd)) (fun (s:Nat×(List ByteArray)×(List Sd)) (a:Act) (w:World)=>match s with|(i,N,L2)=>∃ cG cH b6 b8,Fr a 80 [(4,.slice cG N.length cH),(5,.slice b6 L2.length b8),(6,.slice aA (clB (letR 0)).length aB),(7,.slice aC (clB (letR 1)).length aD),(8,vi (n:Int)),(41,.slice (some ⟨aJ,0,none⟩) ([(⟨aA,aB,(clB (letR 0))⟩ : Sd),(⟨aC,aD,(clB (letR 1))⟩ : Sd)]).length 2),(42,vi (([(⟨aA,aB,(clB (letR 0))⟩ : Sd),(⟨aC,aD,(clB (letR 1))⟩ : Sd)]).length:Int)),(43,vi (i:Int))]∧(i≤2)∧(N=wsN (ctI n i))∧(L2.map Sd.l=lsN (ctI n i))∧Blk w aJ 30 [.slice aA (clB (letR 0)).length aB,.slice aC (clB (letR 1)).length aD]∧Own w M.heap.size 9 1 encTx cG cH N∧Own w M.heap.size 30 1 encSd b6 b8 L2∧Own w M.heap.size 86 5 encD aA aB (clB (letR 0))∧Own w M.heap.size 86 5 encD aC aD (clB (letR 1))∧DeepD w w.heap.size L2∧Away b6 aJ∧Below M.heap.size M w) (fun (s:Nat×(List ByteArray)×(List Sd))=>match s with|(i,N,L2)=>2-i) (0,ws,L) ?_ ?_
  ·exact ⟨cC,cD,cE,cF,J.sb,(by omega),hw,hL,f,aU,aW,g,p,x,b7,z⟩
  rintro ⟨i,N,L2⟩ a gN ⟨cG,cH,b6,b8,J,hi,cJ,aS,f,C,t,g,p,x,E,z⟩;refine Zs J fun _ fJ=>?_;refine Ze (X15 rfl rfl)<|ZX fJ fun a J _ fK=>?_
  refine Xn J rfl (fun aI=>?_) (fun aI=>?_)
  ·have W:=aI;have aI:=Q2 aI
   obtain ⟨iY,iQ⟩:=Xv (l:=([(⟨aA,aB,(clB (letR 0))⟩ : Sd),(⟨aC,aD,(clB (letR 1))⟩ : Sd)])) (k:=i) (by omega)
   have cK:i<2:=by have h9:=aI;simp at h9;omega
   obtain ⟨u6,dJ⟩:=Xv (l:=[(⟨aA,aB,(clB (letR 0))⟩ : Sd),(⟨aC,aD,(clB (letR 1))⟩ : Sd)]) (k:=i) (by simp;omega)
   have cX:=Xwd dJ rfl rfl;have b9:=Xu1 aX cK
   obtain ⟨u5,dK⟩:=Xv (l:=L2) (k:=n) (by rw [X78 aS];exact b9.lt)
   have d5:=Xfx aS dK
   have gO:mulBI u6.l u5.l=some (clB (nx n (letC i))):=by rw [cX,d5];exact Xnu aX cK
   have fL:=(Xiy aX).lt (letC i);have dL:=b9.le;have fM:=X78 aS
   have iS:N.length=ctI n i:=by rw [cJ,X3s]
   refine Q7<|fK _ _<|Q5 fun _ d6=>?_;refine Q8<|Zs J fun _ fN=>?_;refine Zm rfl<|Zi (k:=i) (u:=u6) (enc:=encSd) (l:=[(⟨aA,aB,(clB (letR 0))⟩ : Sd),(⟨aC,aD,(clB (letR 1))⟩ : Sd)]) trivial rfl rfl X1j X32 X1p (Rd.of_blk f rfl _ f.lt) dJ rfl ?_;intro iZ dM;have fO:=Xt1 dJ g.rd.top p.rd.top;refine Ze (X0 rfl X0h dM)<|Za rfl<|Za rfl<|Zx fN fun a J _ fP=>?_;refine Zm rfl<|Zm rfl<|Zm rfl<|Zi (k:=n) (u:=u5) (enc:=encSd) (l:=L2) trivial rfl rfl X1j X32 X1p t.rd dK rfl ?_;intro j0 dN;have fQ:=(x u5 (Qe dK)).top;refine Ze (X0 rfl X0h dN)<|Zf (X1g (vs:=[.slice u6.A u6.l.length u6.c,.slice u5.A u5.l.length u5.c]) rfl Xbq (by have hq:=Xkj gN u6.A u6.c u6.l fO.top u5.A u5.c u5.l fQ.top (by rw [cX];exact X3q (Xoc i)) (by rw [d5];exact X3q aX);rw [gO,Qq,Option.isSome_some] at hq;exact hq)) ?_;rintro _ j1 ⟨H,I,rfl,q,y⟩;have q:=q.lower z.size;have f:=f.below y;have C:=C.below y;have t:=t.below y;have g:=g.below y;have p:=p.below y;have x:=(x.below y).top;have z:=btr z y;refine Zm rfl<|Ze (X1 (vs:=[.slice H (clB (nx n (letC i))).length I,.bool true]) rfl rfl)<|Ze (X1 (vs:=[.slice H (clB (nx n (letC i))).length I,.bool true]) rfl rfl)<|Zf (X5 (zs:=[.slice none 0 0]) Xv0 rfl) ?_;rintro _ j4 ⟨b55,rfl,d7,y,o⟩
   have dT:aJ≠b55:=by have:=f.lt;omega
   have dP:=Q0 z.size d7;have G:=t.away d7;have f:=f.below y;have C:=C.below y;have t:=t.below y;have g:=g.below y;have p:=p.below y;have q:=q.below y;have x:=(x.below y).top;have z:=btr z y;refine Zo (Vw [.slice H (clB (nx n (letC i))).length I] X32 o) ?_;rintro _ j5 ⟨ho,hb⟩;have aY:=o;have f:=f.only ho (by omega);have C:=C.onlyT ho aY rfl;have t:=t.onlyA ho G;have g:=g.onlyT ho aY rfl;have p:=p.onlyT ho aY rfl;have q:=q.onlyT ho aY rfl;have x:=(x.onlyT ho aY rfl).top;have z:=Below.only z ho dP;have o:=hb;refine Za rfl<|Zx fP fun a J _ fR=>?_;refine Zm rfl<|Ze (X3t (vs:=[.pointer (some ⟨b55,0,none⟩)]) rfl)<|Zf (Vc (Xwr _ b6 b8 L2 t.rd.top x.top (by rw [fM];omega) 132 [.pointer (some ⟨b55,0,none⟩)] Xn4 (fun l=>decide (l=(clB (nx n (letC i))))) (fun u w1 hu fS gQ=>Xuj w1 u.A u.c u.l gQ (Xra aS dL hu) b55 H I (clB (nx n (letC i))) ((q.rd.top).below fS).top (o.below fS))) Xme) ?_;rintro _ j6 ⟨rfl,y⟩;have f:=f.below y;have o:=o.below y;have C:=C.below y;have t:=t.below y;have g:=g.below y;have p:=p.below y;have q:=q.below y;have x:=(x.below y).top;have z:=btr z y;refine Ze (X0u rfl)<|Zt fR fun a J=>?_
   refine Xn J rfl (fun aZ=>?_) (fun aZ=>?_)
   ·have a9:=aZ
    have fT:nx n (letC i)=ctI n i:=by have h9:=aZ;rw [Xea aS dL fL] at h9;have:=b9.nx;simp at h9;omega
    have dQ:=b9.new fT
    have iT:ctI n i<24:=by omega
    refine X0e (fun a w=>∃ bC bD b0 bE,Fr a 80 [(4,.slice bC (N++([tx ((cw n)++([letC i]))])).length bD),(5,.slice b0 (L2++([(⟨H,I,(clB (nx n (letC i)))⟩ : Sd)])).length bE),(6,.slice aA (clB (letR 0)).length aB),(7,.slice aC (clB (letR 1)).length aD),(8,vi (n:Int)),(41,.slice (some ⟨aJ,0,none⟩) ([(⟨aA,aB,(clB (letR 0))⟩ : Sd),(⟨aC,aD,(clB (letR 1))⟩ : Sd)]).length 2),(42,vi (([(⟨aA,aB,(clB (letR 0))⟩ : Sd),(⟨aC,aD,(clB (letR 1))⟩ : Sd)]).length:Int)),(43,vi (i:Int))]∧Own w M.heap.size 9 1 encTx bC bD (N++([tx ((cw n)++([letC i]))]))∧Own w M.heap.size 30 1 encSd b0 bE (L2++([(⟨H,I,(clB (nx n (letC i)))⟩ : Sd)]))∧Away b0 aJ∧Away b0 b55∧Blk w aJ 30 [.slice aA (clB (letR 0)).length aB,.slice aC (clB (letR 1)).length aD]∧Blk w b55 30 [.slice H (clB (nx n (letC i))).length I]∧Own w M.heap.size 86 5 encD aA aB (clB (letR 0))∧Own w M.heap.size 86 5 encD aC aD (clB (letR 1))∧Own w M.heap.size 86 5 encD H I (clB (nx n (letC i)))∧DeepD w w.heap.size (L2++([(⟨H,I,(clB (nx n (letC i)))⟩ : Sd)]))∧Below M.heap.size M w) ?_ ?_
    ·refine X08 none (fun j=>[11,15].contains j) mixed ?_;intro j7 y;have f:=f.below y;have o:=o.below y;have C:=C.below y;have t:=t.below y;have g:=g.below y;have p:=p.below y;have q:=q.below y;have x:=(x.below y).top;have z:=btr z y;refine Yb J<|Yo 0 rfl (fun _=>Xd rfl)<|Yo 1 rfl (fun _=>Xd rfl)<|Yo 2 rfl (fun _=>Xd rfl)<|Yi (k:=n) (u:=tx (cw n)) (enc:=encTx) (l:=N) 3 rfl trivial rfl rfl X18 Xeq X1h C.rd (by rw [cJ];exact X8f b9.lt) rfl ?_;intro j8 dR;refine Ye 4 rfl (X0 rfl X6c dR)<|Yo 5 rfl (fun _=>Xd rfl)<|Yo 6 rfl (fun _=>Xd rfl)<|Yo 7 rfl (fun _=>X05 rfl rfl (by omega) (by omega))<|Yo 8 rfl (fun _=>Xqk (s:=[72,83]) (r:=[letC i]) (k:=i) (m:=(i+1)) rfl rfl rfl Tryz.underlying9 rfl rfl (Nat.le_succ _) (by simp;omega) (Xm2 cK))<|Yo 9 rfl (fun _=>Xco (s:=(cw n)) (r:=([letC i])) rfl rfl (by have:=(X6d aX).2;simp;omega))<|Yo 12 rfl (fun _=>Xd rfl) ?_;refine Y2 10 13 ?_ ?_
     ·refine Yk rfl trivial (Xc (k:=1) (vs:=[.string (tx ((cw n)++([letC i])))]) (zs:=[.string (tx ((cw n)++([letC i])))]) rfl X18 X43 rfl rfl) (fun _ _ ⟨_,_,_,h,_⟩=>h) ?_;rintro _ j9 ⟨jA,rfl,d8,y,aE⟩;have gR:=Q0 z.size d8;have aK:=C.away d8;have f:=f.below y;have o:=o.below y;have C:=C.below y;have t:=t.below y;have g:=g.below y;have p:=p.below y;have q:=q.below y;have x:=(x.below y).top;have z:=btr z y;refine Y2 11 13 ?_ ?_
      ·refine Yt rfl trivial rfl (X0m (enc:=encTx) (l:=(N)) (l2:=([tx ((cw n)++([letC i]))])) (B0:=M.heap.size) rfl rfl X18 X43 X1h X30 C (Rd.of_blk aE rfl _ aE.lt) (by simp only [maxLen];simp;omega) (by simp;omega) z.size) ?_;rintro _ jB ⟨bC,bD,rfl,aO,B,D⟩
       have e:Own _ M.heap.size 9 1 encTx _ _ (N):=C
       have dU:=D _ aE.lt aK;clear D;have f:=f.appT e B rfl;have o:=o.appT e B rfl;have t:=t.appT e B rfl;have g:=g.appT e B rfl;have p:=p.appT e B rfl;have q:=q.appT e B rfl;have x:=(x.appT e B rfl).top;have z:=Below.app z e B (Qb _) z.size;clear e B;refine Y1 13<|Yz rfl trivial (Uev (X0 rfl X0h (o.at 0))) ?_;refine Y1 14<|Yk rfl trivial (Xc (k:=1) (vs:=[.slice H (clB (nx n (letC i))).length I]) (zs:=[.slice H (clB (nx n (letC i))).length I]) rfl X1j X2f rfl rfl) (fun _ _ ⟨_,_,_,h,_⟩=>h) ?_;rintro _ jC ⟨b63,rfl,d9,y,cM⟩
       have dW:aJ≠b63:=by have:=f.lt;omega
       have dX:b55≠b63:=by have:=o.lt;omega
       have gU:=Q0 z.size d9;have bF:=t.away d9;have f:=f.below y;have o:=o.below y;have t:=t.below y;have g:=g.below y;have p:=p.below y;have q:=q.below y;have aO:=aO.below y;have x:=(x.below y).top;have z:=btr z y;refine Y1 15<|Yt rfl trivial rfl (X0m (enc:=encSd) (l:=(L2)) (l2:=([(⟨H,I,(clB (nx n (letC i)))⟩ : Sd)])) (B0:=M.heap.size) rfl rfl X1j X2f X1p X3b t (Rd.of_blk cM rfl _ cM.lt) (by simp only [maxLen];simp;omega) (by simp;omega) z.size) ?_;rintro _ jD ⟨b0,bE,rfl,cO,B,D⟩
       have e:Own _ M.heap.size 30 1 encSd _ _ (L2):=t
       have aL:=D _ f.lt E;have aQ:=D _ o.lt G;have dY:=D _ cM.lt bF;clear D;have f:=f.appA B E;have o:=o.appA B G;have g:=g.appT e B rfl;have p:=p.appT e B rfl;have q:=q.appT e B rfl;have aO:=aO.appT e B rfl;have x:=(x.appT e B rfl).top;have z:=Below.app z e B (Qb _) z.size;clear e B
       have x:=DeepD.snoc (s:=(⟨H,I,(clB (nx n (letC i)))⟩ : Sd)) x.top q.rd.top
       refine Yo 16 rfl (fun _=>X0p rfl)<|Yo 17 rfl (fun _=>X0p rfl) ?_;refine Yd fun a J=>?_;exact ⟨bC,bD,b0,bE,J.sb,aO,cO,aL,aQ,f,o,g,p,q,x,z⟩
      refine Yz rfl trivial (Uev (X0 rfl X0h (o.at 0))) ?_;refine Y2 11 14 ?_ ?_
      ·refine Yt rfl trivial rfl (X0m (enc:=encTx) (l:=(N)) (l2:=([tx ((cw n)++([letC i]))])) (B0:=M.heap.size) rfl rfl X18 X43 X1h X30 C (Rd.of_blk aE rfl _ aE.lt) (by simp only [maxLen];simp;omega) (by simp;omega) z.size) ?_;rintro _ jE ⟨gX,hH,rfl,b1,B,D⟩
       have e:Own _ M.heap.size 9 1 encTx _ _ (N):=C
       have e7:=D _ aE.lt aK;clear D;have f:=f.appT e B rfl;have o:=o.appT e B rfl;have t:=t.appT e B rfl;have g:=g.appT e B rfl;have p:=p.appT e B rfl;have q:=q.appT e B rfl;have x:=(x.appT e B rfl).top;have z:=Below.app z e B (Qb _) z.size;clear e B;refine Y1 14<|Yk rfl trivial (Xc (k:=1) (vs:=[.slice H (clB (nx n (letC i))).length I]) (zs:=[.slice H (clB (nx n (letC i))).length I]) rfl X1j X2f rfl rfl) (fun _ _ ⟨_,_,_,h,_⟩=>h) ?_;rintro _ jF ⟨b67,rfl,dA,y,cP⟩
       have e8:aJ≠b67:=by have:=f.lt;omega
       have eA:b55≠b67:=by have:=o.lt;omega
       have hJ:=Q0 z.size dA;have bG:=t.away dA;have f:=f.below y;have o:=o.below y;have t:=t.below y;have g:=g.below y;have p:=p.below y;have q:=q.below y;have b1:=b1.below y;have x:=(x.below y).top;have z:=btr z y;refine Y1 15<|Yt rfl trivial rfl (X0m (enc:=encSd) (l:=(L2)) (l2:=([(⟨H,I,(clB (nx n (letC i)))⟩ : Sd)])) (B0:=M.heap.size) rfl rfl X1j X2f X1p X3b t (Rd.of_blk cP rfl _ cP.lt) (by simp only [maxLen];simp;omega) (by simp;omega) z.size) ?_;rintro _ jG ⟨hP,hU,rfl,fU,B,D⟩
       have e:Own _ M.heap.size 30 1 encSd _ _ (L2):=t
       have bH:=D _ f.lt E;have bI:=D _ o.lt G;have eB:=D _ cP.lt bG;clear D;have f:=f.appA B E;have o:=o.appA B G;have g:=g.appT e B rfl;have p:=p.appT e B rfl;have q:=q.appT e B rfl;have b1:=b1.appT e B rfl;have x:=(x.appT e B rfl).top;have z:=Below.app z e B (Qb _) z.size;clear e B
       have x:=DeepD.snoc (s:=(⟨H,I,(clB (nx n (letC i)))⟩ : Sd)) x.top q.rd.top
       refine Yo 16 rfl (fun _=>X0p rfl)<|Yo 17 rfl (fun _=>X0p rfl) ?_;refine Yd fun a J=>?_;exact ⟨gX,hH,hP,hU,J.sub ⟨(by first|rfl|(simp [look,Q,U,W,a9])),(by first|rfl|(simp [look,Q,U,W,a9])),rfl,rfl,rfl,rfl,rfl,rfl,trivial⟩,b1,fU,bH,bI,f,o,g,p,q,x,z⟩
      refine Yk rfl trivial (Xc (k:=1) (vs:=[.slice H (clB (nx n (letC i))).length I]) (zs:=[.slice H (clB (nx n (letC i))).length I]) rfl X1j X2f rfl rfl) (fun _ _ ⟨_,_,_,h,_⟩=>h) ?_;rintro _ jH ⟨b70,rfl,dB,y,b2⟩
      have eC:aJ≠b70:=by have:=f.lt;omega
      have eD:b55≠b70:=by have:=o.lt;omega
      have i0:=Q0 z.size dB;have bJ:=t.away dB;have f:=f.below y;have o:=o.below y;have aE:=aE.below y;have C:=C.below y;have t:=t.below y;have g:=g.below y;have p:=p.below y;have q:=q.below y;have x:=(x.below y).top;have z:=btr z y;refine Y1 11<|Yt rfl trivial rfl (X0m (enc:=encTx) (l:=(N)) (l2:=([tx ((cw n)++([letC i]))])) (B0:=M.heap.size) rfl rfl X18 X43 X1h X30 C (Rd.of_blk aE rfl _ aE.lt) (by simp only [maxLen];simp;omega) (by simp;omega) z.size) ?_;rintro _ jI ⟨i1,i3,rfl,cQ,B,D⟩
      have e:Own _ M.heap.size 9 1 encTx _ _ (N):=C
      have eE:=D _ aE.lt aK;clear D;have f:=f.appT e B rfl;have o:=o.appT e B rfl;have b2:=b2.appT e B rfl;have t:=t.appT e B rfl;have g:=g.appT e B rfl;have p:=p.appT e B rfl;have q:=q.appT e B rfl;have x:=(x.appT e B rfl).top;have z:=Below.app z e B (Qb _) z.size;clear e B;refine Y1 15<|Yt rfl trivial rfl (X0m (enc:=encSd) (l:=(L2)) (l2:=([(⟨H,I,(clB (nx n (letC i)))⟩ : Sd)])) (B0:=M.heap.size) rfl rfl X1j X2f X1p X3b t (Rd.of_blk b2 rfl _ b2.lt) (by simp only [maxLen];simp;omega) (by simp;omega) z.size) ?_;rintro _ jJ ⟨i4,i5,rfl,fV,B,D⟩
      have e:Own _ M.heap.size 30 1 encSd _ _ (L2):=t
      have bK:=D _ f.lt E;have bL:=D _ o.lt G;have eF:=D _ b2.lt bJ;clear D;have f:=f.appA B E;have o:=o.appA B G;have g:=g.appT e B rfl;have p:=p.appT e B rfl;have q:=q.appT e B rfl;have cQ:=cQ.appT e B rfl;have x:=(x.appT e B rfl).top;have z:=Below.app z e B (Qb _) z.size;clear e B
      have x:=DeepD.snoc (s:=(⟨H,I,(clB (nx n (letC i)))⟩ : Sd)) x.top q.rd.top
      refine Yo 16 rfl (fun _=>X0p rfl)<|Yo 17 rfl (fun _=>X0p rfl) ?_;refine Yd fun a J=>?_;exact ⟨i1,i3,i4,i5,J.sub ⟨(by first|rfl|(simp [look,Q,U,W,a9])),(by first|rfl|(simp [look,Q,U,W,a9])),rfl,rfl,rfl,rfl,rfl,rfl,trivial⟩,cQ,fV,bK,bL,f,o,g,p,q,x,z⟩
     refine Yz rfl trivial (Uev (X0 rfl X0h (o.at 0))) ?_;refine Y2 10 14 ?_ ?_
     ·refine Yk rfl trivial (Xc (k:=1) (vs:=[.string (tx ((cw n)++([letC i])))]) (zs:=[.string (tx ((cw n)++([letC i])))]) rfl X18 X43 rfl rfl) (fun _ _ ⟨_,_,_,h,_⟩=>h) ?_;rintro _ jK ⟨jL,rfl,dC,y,aM⟩;have i6:=Q0 z.size dC;have aR:=C.away dC;have f:=f.below y;have o:=o.below y;have C:=C.below y;have t:=t.below y;have g:=g.below y;have p:=p.below y;have q:=q.below y;have x:=(x.below y).top;have z:=btr z y;refine Y2 11 14 ?_ ?_
      ·refine Yt rfl trivial rfl (X0m (enc:=encTx) (l:=(N)) (l2:=([tx ((cw n)++([letC i]))])) (B0:=M.heap.size) rfl rfl X18 X43 X1h X30 C (Rd.of_blk aM rfl _ aM.lt) (by simp only [maxLen];simp;omega) (by simp;omega) z.size) ?_;rintro _ jM ⟨i7,i8,rfl,b3,B,D⟩
       have e:Own _ M.heap.size 9 1 encTx _ _ (N):=C
       have eH:=D _ aM.lt aR;clear D;have f:=f.appT e B rfl;have o:=o.appT e B rfl;have t:=t.appT e B rfl;have g:=g.appT e B rfl;have p:=p.appT e B rfl;have q:=q.appT e B rfl;have x:=(x.appT e B rfl).top;have z:=Below.app z e B (Qb _) z.size;clear e B;refine Y1 14<|Yk rfl trivial (Xc (k:=1) (vs:=[.slice H (clB (nx n (letC i))).length I]) (zs:=[.slice H (clB (nx n (letC i))).length I]) rfl X1j X2f rfl rfl) (fun _ _ ⟨_,_,_,h,_⟩=>h) ?_;rintro _ jN ⟨b77,rfl,dD,y,cR⟩
       have eI:aJ≠b77:=by have:=f.lt;omega
       have eJ:b55≠b77:=by have:=o.lt;omega
       have i9:=Q0 z.size dD;have bM:=t.away dD;have f:=f.below y;have o:=o.below y;have t:=t.below y;have g:=g.below y;have p:=p.below y;have q:=q.below y;have b3:=b3.below y;have x:=(x.below y).top;have z:=btr z y;refine Y1 15<|Yt rfl trivial rfl (X0m (enc:=encSd) (l:=(L2)) (l2:=([(⟨H,I,(clB (nx n (letC i)))⟩ : Sd)])) (B0:=M.heap.size) rfl rfl X1j X2f X1p X3b t (Rd.of_blk cR rfl _ cR.lt) (by simp only [maxLen];simp;omega) (by simp;omega) z.size) ?_;rintro _ jO ⟨iA,iB,rfl,fW,B,D⟩
       have e:Own _ M.heap.size 30 1 encSd _ _ (L2):=t
       have bN:=D _ f.lt E;have bO:=D _ o.lt G;have eK:=D _ cR.lt bM;clear D;have f:=f.appA B E;have o:=o.appA B G;have g:=g.appT e B rfl;have p:=p.appT e B rfl;have q:=q.appT e B rfl;have b3:=b3.appT e B rfl;have x:=(x.appT e B rfl).top;have z:=Below.app z e B (Qb _) z.size;clear e B
       have x:=DeepD.snoc (s:=(⟨H,I,(clB (nx n (letC i)))⟩ : Sd)) x.top q.rd.top
       refine Yo 16 rfl (fun _=>X0p rfl)<|Yo 17 rfl (fun _=>X0p rfl) ?_;refine Yd fun a J=>?_;exact ⟨i7,i8,iA,iB,J.sub ⟨(by first|rfl|(simp [look,Q,U,W,a9])),(by first|rfl|(simp [look,Q,U,W,a9])),rfl,rfl,rfl,rfl,rfl,rfl,trivial⟩,b3,fW,bN,bO,f,o,g,p,q,x,z⟩
      refine Yk rfl trivial (Xc (k:=1) (vs:=[.slice H (clB (nx n (letC i))).length I]) (zs:=[.slice H (clB (nx n (letC i))).length I]) rfl X1j X2f rfl rfl) (fun _ _ ⟨_,_,_,h,_⟩=>h) ?_;rintro _ jP ⟨b80,rfl,dE,y,b4⟩
      have eL:aJ≠b80:=by have:=f.lt;omega
      have eM:b55≠b80:=by have:=o.lt;omega
      have iC:=Q0 z.size dE;have bP:=t.away dE;have f:=f.below y;have o:=o.below y;have aM:=aM.below y;have C:=C.below y;have t:=t.below y;have g:=g.below y;have p:=p.below y;have q:=q.below y;have x:=(x.below y).top;have z:=btr z y;refine Y1 11<|Yt rfl trivial rfl (X0m (enc:=encTx) (l:=(N)) (l2:=([tx ((cw n)++([letC i]))])) (B0:=M.heap.size) rfl rfl X18 X43 X1h X30 C (Rd.of_blk aM rfl _ aM.lt) (by simp only [maxLen];simp;omega) (by simp;omega) z.size) ?_;rintro _ jQ ⟨iD,iE,rfl,cS,B,D⟩
      have e:Own _ M.heap.size 9 1 encTx _ _ (N):=C
      have eO:=D _ aM.lt aR;clear D;have f:=f.appT e B rfl;have o:=o.appT e B rfl;have b4:=b4.appT e B rfl;have t:=t.appT e B rfl;have g:=g.appT e B rfl;have p:=p.appT e B rfl;have q:=q.appT e B rfl;have x:=(x.appT e B rfl).top;have z:=Below.app z e B (Qb _) z.size;clear e B;refine Y1 15<|Yt rfl trivial rfl (X0m (enc:=encSd) (l:=(L2)) (l2:=([(⟨H,I,(clB (nx n (letC i)))⟩ : Sd)])) (B0:=M.heap.size) rfl rfl X1j X2f X1p X3b t (Rd.of_blk b4 rfl _ b4.lt) (by simp only [maxLen];simp;omega) (by simp;omega) z.size) ?_;rintro _ jR ⟨iF,iG,rfl,fX,B,D⟩
      have e:Own _ M.heap.size 30 1 encSd _ _ (L2):=t
      have bQ:=D _ f.lt E;have bR:=D _ o.lt G;have eP:=D _ b4.lt bP;clear D;have f:=f.appA B E;have o:=o.appA B G;have g:=g.appT e B rfl;have p:=p.appT e B rfl;have q:=q.appT e B rfl;have cS:=cS.appT e B rfl;have x:=(x.appT e B rfl).top;have z:=Below.app z e B (Qb _) z.size;clear e B
      have x:=DeepD.snoc (s:=(⟨H,I,(clB (nx n (letC i)))⟩ : Sd)) x.top q.rd.top
      refine Yo 16 rfl (fun _=>X0p rfl)<|Yo 17 rfl (fun _=>X0p rfl) ?_;refine Yd fun a J=>?_;exact ⟨iD,iE,iF,iG,J.sub ⟨(by first|rfl|(simp [look,Q,U,W,a9])),(by first|rfl|(simp [look,Q,U,W,a9])),rfl,rfl,rfl,rfl,rfl,rfl,trivial⟩,cS,fX,bQ,bR,f,o,g,p,q,x,z⟩
     refine Yk rfl trivial (Xc (k:=1) (vs:=[.slice H (clB (nx n (letC i))).length I]) (zs:=[.slice H (clB (nx n (letC i))).length I]) rfl X1j X2f rfl rfl) (fun _ _ ⟨_,_,_,h,_⟩=>h) ?_;rintro _ jS ⟨b84,rfl,dF,y,aP⟩
     have eQ:aJ≠b84:=by have:=f.lt;omega
     have eR:b55≠b84:=by have:=o.lt;omega
     have iH:=Q0 z.size dF;have bS:=t.away dF;have f:=f.below y;have o:=o.below y;have C:=C.below y;have t:=t.below y;have g:=g.below y;have p:=p.below y;have q:=q.below y;have x:=(x.below y).top;have z:=btr z y;refine Y1 10<|Yk rfl trivial (Xc (k:=1) (vs:=[.string (tx ((cw n)++([letC i])))]) (zs:=[.string (tx ((cw n)++([letC i])))]) rfl X18 X43 rfl rfl) (fun _ _ ⟨_,_,_,h,_⟩=>h) ?_;rintro _ jT ⟨jU,rfl,dG,y,cT⟩;have iI:=Q0 z.size dG;have bU:=C.away dG;have f:=f.below y;have o:=o.below y;have aP:=aP.below y;have C:=C.below y;have t:=t.below y;have g:=g.below y;have p:=p.below y;have q:=q.below y;have x:=(x.below y).top;have z:=btr z y;refine Y1 11<|Yt rfl trivial rfl (X0m (enc:=encTx) (l:=(N)) (l2:=([tx ((cw n)++([letC i]))])) (B0:=M.heap.size) rfl rfl X18 X43 X1h X30 C (Rd.of_blk cT rfl _ cT.lt) (by simp only [maxLen];simp;omega) (by simp;omega) z.size) ?_;rintro _ jV ⟨iJ,iK,rfl,cU,B,D⟩
     have e:Own _ M.heap.size 9 1 encTx _ _ (N):=C
     have eS:=D _ cT.lt bU;clear D;have f:=f.appT e B rfl;have o:=o.appT e B rfl;have aP:=aP.appT e B rfl;have t:=t.appT e B rfl;have g:=g.appT e B rfl;have p:=p.appT e B rfl;have q:=q.appT e B rfl;have x:=(x.appT e B rfl).top;have z:=Below.app z e B (Qb _) z.size;clear e B;refine Y1 15<|Yt rfl trivial rfl (X0m (enc:=encSd) (l:=(L2)) (l2:=([(⟨H,I,(clB (nx n (letC i)))⟩ : Sd)])) (B0:=M.heap.size) rfl rfl X1j X2f X1p X3b t (Rd.of_blk aP rfl _ aP.lt) (by simp only [maxLen];simp;omega) (by simp;omega) z.size) ?_;rintro _ jW ⟨iM,iN,rfl,fY,B,D⟩
     have e:Own _ M.heap.size 30 1 encSd _ _ (L2):=t
     have bW:=D _ f.lt E;have bZ:=D _ o.lt G;have eT:=D _ aP.lt bS;clear D;have f:=f.appA B E;have o:=o.appA B G;have g:=g.appT e B rfl;have p:=p.appT e B rfl;have q:=q.appT e B rfl;have cU:=cU.appT e B rfl;have x:=(x.appT e B rfl).top;have z:=Below.app z e B (Qb _) z.size;clear e B
     have x:=DeepD.snoc (s:=(⟨H,I,(clB (nx n (letC i)))⟩ : Sd)) x.top q.rd.top
     refine Yo 16 rfl (fun _=>X0p rfl)<|Yo 17 rfl (fun _=>X0p rfl) ?_;refine Yd fun a J=>?_;exact ⟨iJ,iK,iM,iN,J.sub ⟨(by first|rfl|(simp [look,Q,U,W,a9])),(by first|rfl|(simp [look,Q,U,W,a9])),rfl,rfl,rfl,rfl,rfl,rfl,trivial⟩,cU,fY,bW,bZ,f,o,g,p,q,x,z⟩
    rintro a jX ⟨bC,bD,b0,bE,J,aO,cO,aL,aQ,f,o,g,p,q,x,z⟩;refine Xo<|d6 _ _<|Zr J<|Ze (X05 rfl rfl (by omega) (by omega))<|Zm rfl ?_;refine Zn fun a J=>?_;refine Xk ?_;exact ⟨(i+1,N++([tx ((cw n)++([letC i]))]),L2++([(⟨H,I,(clB (nx n (letC i)))⟩ : Sd)])),⟨bC,bD,b0,bE,J.sb,(by omega),(by rw [dQ.1,Xd4,← cJ,dQ.2]),(by rw [List.map_append,aS,dQ.1,Xdh,← fT];rfl),f,aO,cO,g,p,x,aL,z⟩,(by first|omega|(dsimp only;omega))⟩
   have a9:=aZ
   have fZ:=b9.old (by have h9:=aZ;rw [Xea aS dL fL] at h9;simp at h9;omega)
   refine Q7<|Xo<|d6 _ _<|Zr J ?_;refine Ze (X05 rfl rfl (by omega) (by omega))<|Zm rfl ?_;refine Zn fun a J=>?_;refine Xk ?_;exact ⟨(i+1,N,L2),⟨cG,cH,b6,b8,J.sb,(by omega),(by rw [fZ,cJ]),(by rw [fZ,aS]),f,C,t,g,p,x,E,z⟩,(by first|omega|(dsimp only;omega))⟩
  have W:=aI;have aI:=Q1 aI
  have cK:i=2:=by have h9:=aI;simp at h9;omega
  subst cK
  refine Q9<|Xj<|Xj<|X06 ?_;refine Xo<|fH _ _<|Zr J<|Zm rfl<|Ze (X05 rfl rfl (by omega) (by omega))<|Za rfl ?_;refine Zn fun a J=>?_;refine Xk ?_;exact ⟨(n+1,N,L2),⟨cG,cH,b6,b8,J.sb,(by omega),cJ,aS,C,t,g,p,x,z⟩,(by first|omega|(dsimp only;omega))⟩
 have U:=aH;have aH:=Q1 aH
 have iO:n=24:=by have h9:=aH;rw [hw,X3s] at h9;by_cases e9:n<24;(have:=Xpj e9;omega);omega
 refine Q9<|Xj<|Xj<|X06 ?_;refine fD _ _<|Zs J fun _ g7=>?_;refine Zm rfl<|Zm rfl<|Za rfl<|Za rfl<|Zt g7 fun a J=>?_
 refine Q6 (X4 J (X0z J rfl rfl rfl) ?_)
 rw [iO] at hw hL
 rw [hw]
 rw [hw] at aU
 exact ⟨cC,cD,cE,cF,L,rfl,aU,aW,hL,x.top,z⟩
theorem Xpv(E:World) : Ret Tryz.prog 82 [] E (fun v w=>∃ (A:Option Addr) (c:Nat),v=.slice A (wsN 24).length c∧Own w E.heap.size 9 1 encTx A c (wsN 24)∧Below E.heap.size E w):=by
 refine enter Tryz.func82 rfl 61 rfl rfl ?_;intro a n
 have y:=bz E
 refine Zs n fun _ dQ=>?_;refine Za rfl<|Zx dQ fun a n _ dR=>?_;refine Za rfl<|Zx dR fun a n _ dS=>?_;refine Za rfl<|Zx dS fun a n _ dT=>?_;refine Zf (Xc (k:=1) (vs:=[.string (tx [])]) (zs:=[.string (tx [])]) rfl X18 X43 rfl rfl) ?_;rintro _ w1 ⟨b8,rfl,dU,j,dW⟩;have cO:=Q0 y.size dU;have y:=btr y j;refine Za rfl<|ZX dT fun a n _ cP=>?_;refine Q8 ?_
 have f:DeepD w1 w1.heap.size []:=DeepD.nil _ _
 refine X03 (σ:=Nat×(List ByteArray)×(List Sd)×(List ByteArray)) (fun (s:Nat×(List ByteArray)×(List Sd)×(List ByteArray)) (a:Act) (w:World)=>match s with|(T,ws,L,vv)=>∃ aU b4 bF bG J aJ,Fr a 61 [(1,.slice aU ws.length b4),(2,.slice bF L.length bG),(3,.slice J vv.length aJ)]∧(T<49)∧(ctC T≤24)∧(ws=wsN (ctC T))∧(L.map Sd.l=lsN (ctC T))∧(vv=cdL T (1+2*ctC T))∧Own w E.heap.size 9 1 encTx aU b4 ws∧Own w E.heap.size 66 1 encSd bF bG L∧Own w E.heap.size 9 1 encTx J aJ vv∧DeepD w w.heap.size L∧Apart aU J∧Below E.heap.size E w) (fun (s:Nat×(List ByteArray)×(List Sd)×(List ByteArray))=>match s with|(T,ws,L,vv)=>50-T) (0,[],[],[tx []]) ?_ ?_
 ·exact ⟨none,0,none,0,some ⟨b8,0,none⟩,1,n.sb,(by omega),(by decide),rfl,rfl,rfl,(Own.nil _ _ _ _ _),(Own.nil _ _ _ _ _),(Own.of_blkL X1h dW cO rfl rfl (by decide)),f,(Apart.nl _),y⟩
 rintro ⟨T,ws,L,vv⟩ a w2 ⟨aU,b4,bF,bG,J,aJ,n,hT,dX,hw,hL,hv,bK,cQ,b,f,aW,y⟩;refine Q5 fun _ cR=>?_;refine Zs n fun _ cS=>?_;refine Zm rfl<|Ze (X27 rfl X18)<|Ze (X15 rfl rfl)<|Zt cS fun a n=>?_
 refine Xn n rfl (fun G=>?_) (fun G=>?_)
 ·have aA:=G;have G:=Q2 G
  have b5:ctC T<24:=by have h9:=G;rw [hw,X3s] at h9;omega
  have eQ:=Xwg hT b5;refine Q7<|cR _ _<|Q8<|Zs n fun _ cT=>?_;refine Za rfl<|ZX cT fun a n _ cU=>?_;refine Zs n fun _ cV=>?_;refine Zm rfl<|Ze (X27 rfl X18)<|Zm rfl<|Zt cV fun a n=>?_;refine Q8<|X03 (σ:=Nat×(List ByteArray)×(List Sd)×(List ByteArray)) (fun (s:Nat×(List ByteArray)×(List Sd)×(List ByteArray)) (a:Act) (w:World)=>match s with|(q,H,L2,x2)=>∃ U aK aF aG W aL,Fr a 61 [(1,.slice U H.length aK),(2,.slice aF L2.length aG),(4,.slice W x2.length aL),(16,.slice J vv.length aJ),(17,vi (vv.length:Int)),(18,vi (q:Int))]∧(q≤1+2*ctC T-T)∧(H=wsN (ctC (T+q)))∧(L2.map Sd.l=lsN (ctC (T+q)))∧(x2=cdL (1+2*ctC T) (1+2*ctC (T+q)))∧(ctC (T+q)≤24)∧(ctC T≤ctC (T+q))∧Own w E.heap.size 9 1 encTx U aK H∧Own w E.heap.size 66 1 encSd aF aG L2∧Own w E.heap.size 9 1 encTx W aL x2∧Own w E.heap.size 9 1 encTx J aJ vv∧DeepD w w.heap.size L2∧Apart J U∧Apart J W∧Apart U W∧Below E.heap.size E w) (fun (s:Nat×(List ByteArray)×(List Sd)×(List ByteArray))=>match s with|(q,H,L2,x2)=>1+2*ctC T-T-q) (0,ws,L,[]) ?_ ?_
  ·exact ⟨aU,b4,bF,bG,none,0,n.sb,(Qf _),hw,hL,(by show []=cdL (1+2*ctC T) (1+2*ctC T);unfold cdL;rw [Nat.sub_self];rfl),dX,(Qb _),bK,cQ,(Own.nil _ _ _ _ _),b,f,aW.symm,(Apart.nr _),(Apart.nr _),y⟩
  rintro ⟨q,H,L2,x2⟩ a w3 ⟨U,aK,aF,aG,W,aL,n,hq,bH,aQ,b6,dY,eK,i,e,d,b,f,z,h,x,y⟩;refine Zs n fun _ cW=>?_;refine Ze (X15 rfl rfl)<|ZX cW fun a n _ cX=>?_
  refine Xn n rfl (fun I=>?_) (fun I=>?_)
  ·have aB:=I;have I:=Q2 I
   obtain ⟨eR,eL⟩:=Xv (l:=vv) (k:=q) (by omega)
   have e7:q<1+2*ctC T-T:=by have h9:=I;rw [hv,Xcl] at h9;omega
   have a9:=Xol (t:=(T+q)) (by omega)
   have d5:=Xiw (t:=(T+q)) (by omega)
   have eM:H.length=ctC (T+q):=by rw [bH,X3s]
   have eO:=X78 aQ
   have eP:x2.length≤100:=by rw [b6,Xcl];have:=a9.le;omega
   have e8:=a9.le;refine Q7<|cX _ _<|Q5 fun _ bL=>?_;refine Q8<|Zs n fun _ d6=>?_;refine Zi (k:=q) (u:=tx (cdW (T+q))) (enc:=encTx) (l:=vv) trivial rfl rfl X18 Xeq X1h b.rd (by rw [hv];exact Xmx (by omega)) rfl ?_;intro eS bQ;refine Ze (X0 rfl X6c bQ)<|Za rfl<|Zx d6 fun a n _ d7=>?_;refine Zm rfl<|Zf (Vc (Xpl _ (cdW (T+q)) a9.len) Xga) ?_;rintro _ w4 ⟨d8,d9,rfl,dA,j⟩;have i:=i.below j;have e:=e.below j;have d:=d.below j;have b:=b.below j;have f:=(f.below j).top;have y:=btr y j;refine Zf (X1g (vs:=[.agg #[vi ((opM (wdG (cdW (T+q)))).rows),vi ((opM (wdG (cdW (T+q)))).cols),.slice d8 ((opM (wdG (cdW (T+q)))).cells).length d9]]) rfl X8c (by have hq:=Xfg w4 (opM (wdG (cdW (T+q)))) d8 d9 dA.top (X7k a9.bl);rw [a9.bl,Qq,Option.isSome_some] at hq;exact hq)) ?_;rintro _ w5 ⟨aC,aD,rfl,g,j⟩;have g:=g.lower y.size;have i:=i.below j;have e:=e.below j;have d:=d.below j;have b:=b.below j;have f:=(f.below j).top;have y:=btr y j;refine Zm rfl<|Ze (X1 (vs:=[.agg #[.slice aC (clB (cdB (T+q))).length aD],.bool true]) rfl rfl)<|Ze (X1 (vs:=[.agg #[.slice aC (clB (cdB (T+q))).length aD],.bool true]) rfl rfl)<|Zf (X5 (zs:=[.slice none 0 0]) X1z rfl) ?_;rintro _ w6 ⟨b7,rfl,bM,j,m⟩;have bR:=Q0 y.size bM;have aH:=e.away bM;have i:=i.below j;have e:=e.below j;have d:=d.below j;have b:=b.below j;have g:=g.below j;have f:=(f.below j).top;have y:=btr y j;refine Zo (Vw [.slice aC (clB (cdB (T+q))).length aD] X1d m) ?_;rintro _ w7 ⟨ho,hb⟩
   have C:=m;have i:=i.onlyT ho C rfl;have e:=e.onlyA ho aH;have d:=d.onlyT ho C rfl;have b:=b.onlyT ho C rfl;have g:=g.onlyT ho C rfl;have f:=(f.onlyT ho C rfl).top;have y:=Below.only y ho bR;have m:=hb;refine Za rfl<|Zx d7 fun a n _ dB=>?_;refine Za rfl<|ZX dB fun a n _ dC=>?_;refine Zs n fun _ dD=>?_;refine Zm rfl<|Ze (X27 rfl X8h)<|Zm rfl<|Zt dD fun a n=>?_;refine Q8<|X03 (σ:=Nat×Bool) (fun (s:Nat×Bool) (a:Act) (w:World)=>match s with|(p,kn)=>Fr a 61 [(1,.slice U H.length aK),(2,.slice aF L2.length aG),(4,.slice W x2.length aL),(6,.string (tx (cdW (T+q)))),(7,.pointer (some ⟨b7,0,none⟩)),(9,.bool kn),(16,.slice J vv.length aJ),(17,vi (vv.length:Int)),(18,vi (q:Int)),(28,.slice aF L2.length aG),(29,vi (L2.length:Int)),(30,vi (p:Int))]∧(p≤L2.length)∧(kn=(L2.take p).any (fun s=>decide (s.l=clB (cdB (T+q)))))∧Blk w b7 66 [.slice aC (clB (cdB (T+q))).length aD]∧Own w E.heap.size 9 1 encTx U aK H∧Own w E.heap.size 66 1 encSd aF aG L2∧Own w E.heap.size 9 1 encTx W aL x2∧Own w E.heap.size 9 1 encTx J aJ vv∧Own w E.heap.size 86 5 encD aC aD (clB (cdB (T+q)))∧DeepD w w.heap.size L2∧Apart J U∧Apart J W∧Apart U W∧Below E.heap.size E w) (fun (s:Nat×Bool)=>match s with|(p,kn)=>L2.length-p) (0,false) ?_ ?_
   ·exact ⟨n.sb,(Qf _),rfl,m,i,e,d,b,g,f,z,h,x,y⟩
   rintro ⟨p,kn⟩ a w8 ⟨n,hp,dE,m,i,e,d,b,g,f,z,h,x,y⟩;refine Zs n fun _ dF=>?_;refine Ze (X15 rfl rfl)<|ZX dF fun a n _ dG=>?_
   refine Xn n rfl (fun Q=>?_) (fun Q=>?_)
   ·have aE:=Q;have Q:=Q2 Q
    obtain ⟨M,aM⟩:=Xv (l:=L2) (k:=p) (by omega)
    have eT:p<ctC (T+q):=by have h9:=Q;omega
    refine Q7<|dG _ _<|Q5 fun _ dH=>?_;refine Q8<|Zs n fun _ dI=>?_;refine Zi (k:=p) (u:=M) (enc:=encSd) (l:=L2) trivial rfl rfl X8h X1d X1p e.rd aM rfl ?_;intro eU bS;have aN:=(f M (Qe aM)).top;refine Ze (Xy (l:=[.slice M.A M.l.length M.c]) rfl X13 bS rfl)<|Zf (X5 (zs:=[.slice none 0 0]) X1z rfl) ?_;rintro _ w9 ⟨b50,rfl,bN,j,aR⟩
    have cB:b7≠b50:=by have:=m.lt;omega
    have bU:=Q0 y.size bN;have aX:=e.away bN;have m:=m.below j;have i:=i.below j;have e:=e.below j;have d:=d.below j;have b:=b.below j;have g:=g.below j;have aN:=aN.below j;have f:=(f.below j).top;have y:=btr y j;refine Zo (Vw [.slice M.A M.l.length M.c] X1d aR) ?_;rintro _ w10 ⟨ho,hb⟩;have C:=aR;have m:=m.only ho (by omega);have i:=i.onlyT ho C rfl;have e:=e.onlyA ho aX;have d:=d.onlyT ho C rfl;have b:=b.onlyT ho C rfl;have g:=g.onlyT ho C rfl;have aN:=aN.onlyT ho C rfl;have f:=(f.onlyT ho C rfl).top;have y:=Below.only y ho bU;have aR:=hb;refine Zt dI fun a n=>?_;refine X0e (fun a w=>Fr a 61 [(1,.slice U H.length aK),(2,.slice aF L2.length aG),(4,.slice W x2.length aL),(6,.string (tx (cdW (T+q)))),(7,.pointer (some ⟨b7,0,none⟩)),(9,.bool (kn||(decide (M.l=(clB (cdB (T+q))))))),(16,.slice J vv.length aJ),(17,vi (vv.length:Int)),(18,vi (q:Int)),(28,.slice aF L2.length aG),(29,vi (L2.length:Int)),(30,vi (p:Int))]∧Below w10.heap.size w10 w) ?_ ?_
    ·have bI:Below w10.heap.size w10 w10:=Below.refl _ _
     refine Zr n<|Zm rfl<|Zm rfl ?_
     refine Zg 35 rfl (fun B=>?_) (fun B=>?_)
     ·refine Zp (gP B) ?_;refine Zp (gP B) ?_;refine Zp (gP B) ?_;refine Ze (Xi rfl B rfl)<|Za rfl ?_;refine Zn fun a n=>?_
      have bW:Below w10.heap.size w10 w10:=bI
      exact ⟨n.sub ⟨rfl,rfl,rfl,rfl,rfl,X2 rfl (by first|rfl|(simp only [aA,aB,aE,B,bs];done)|simp [aA,aB,aE,B]),rfl,rfl,rfl,rfl,rfl,rfl,trivial⟩,bW⟩
     refine Zv (gW B) (Vn X13 aR) ?_;refine Zv (gW B) (Vn X13 m) ?_;refine Zk (gW B) (Vc (Xpy _ M.A M.c M.l aN.top aC aD (clB (cdB (T+q))) g.rd.top (by rw [Xfx aQ aM,X3q (by omega),X3q a9.lt]) (by rw [Xfx aQ aM,X3q (by omega)];decide)) Xgb) ?_;rintro _ w11 ⟨rfl,j⟩;have f:=(f.below j).top;have y:=btr y j;have bI:=btr bI j;refine Ze (Xe rfl B rfl)<|Za rfl ?_;refine Zn fun a n=>?_
     have bW:Below w10.heap.size w10 w11:=bI
     exact ⟨n.sub ⟨rfl,rfl,rfl,rfl,rfl,X2 rfl (by first|rfl|(simp only [aA,aB,aE,B,bs];done)|simp [aA,aB,aE,B]),rfl,rfl,rfl,rfl,rfl,rfl,trivial⟩,bW⟩
    rintro a eV ⟨n,j⟩;have m:=m.below j;have i:=i.below j;have e:=e.below j;have d:=d.below j;have b:=b.below j;have g:=g.below j;have f:=(f.below j).top;have y:=btr y j;refine Xo<|dH _ _<|Zr n<|Ze (X05 rfl rfl (by omega) (by omega))<|Zm rfl ?_;refine Zn fun a n=>?_;refine Xk ?_;exact ⟨(p+1,kn||(decide (M.l=(clB (cdB (T+q)))))),⟨n.sb,(by omega),(by rw [dE,Xrz aM]),m,i,e,d,b,g,f,z,h,x,y⟩,(by first|omega|(dsimp only;omega))⟩
   have aE:=Q;have Q:=Q1 Q
   have bO:kn=decide (cdB (T+q)<ctC (T+q)):=by rw [dE,Qi (by omega),Xea aQ e8 a9.lt]
   refine Q9<|Xj<|Xj<|X06 ?_;refine dC _ _<|Zs n fun _ dJ=>?_;refine Zm rfl<|Ze (X0u rfl)<|Zt dJ fun a n=>?_
   refine Xn n rfl (fun aO=>?_) (fun aO=>?_)
   ·have bZ:=aO
    have dK:cdB (T+q)=ctC (T+q):=by have h9:=aO;rw [bO] at h9;have:=a9.nx;simp at h9;omega
    have b9:=a9.new dK;refine Zs n fun _ dL=>?_;refine Zm rfl<|Zm rfl<|Zf (Xc (k:=1) (vs:=[.string (tx (cdW (T+q)))]) (zs:=[.string (tx (cdW (T+q)))]) rfl X18 X43 rfl rfl) ?_;rintro _ eW ⟨eX,rfl,aS,j,bC⟩;have eA:=Q0 y.size aS;have aY:=i.away aS;have cC:=d.away aS;have cD:=b.away aS;have m:=m.below j;have i:=i.below j;have e:=e.below j;have d:=d.below j;have b:=b.below j;have g:=g.below j;have f:=(f.below j).top;have y:=btr y j;refine Zf (X0m (enc:=encTx) (l:=(H)) (l2:=([tx (cdW (T+q))])) (B0:=E.heap.size) rfl rfl X18 X43 X1h X30 i (Rd.of_blk bC rfl _ bC.lt) (by simp only [maxLen];simp;omega) (by simp;omega) y.size) ?_;rintro _ eY ⟨eB,eC,rfl,D,hg,N⟩
    have o:Own _ E.heap.size 9 1 encTx _ _ (H):=i
    have cE:=N _ bC.lt aY;have aZ:=Apart.app b z N;have aI:=Apart.app d x.symm N;clear N;have m:=m.appT o hg rfl;have e:=e.appT o hg rfl;have d:=d.appP hg x.symm;have b:=b.appP hg z;have g:=g.appT o hg rfl;have f:=(f.appT o hg rfl).top;have y:=Below.app y o hg (Qb _) y.size;clear o hg;refine Za rfl<|Zx dL fun a n _ dM=>?_;refine Zm rfl<|Ze (Vn X13 m)<|Zf (Xc (k:=1) (vs:=[.agg #[.slice aC (clB (cdB (T+q))).length aD]]) (zs:=[.slice aC (clB (cdB (T+q))).length aD]) rfl X8h Xd9 rfl rfl) ?_;rintro _ eZ ⟨b59,rfl,bP,j,bD⟩
    have cF:b7≠b59:=by have:=m.lt;omega
    have eD:=Q0 y.size bP;have b0:=e.away bP;have m:=m.below j;have e:=e.below j;have d:=d.below j;have b:=b.below j;have g:=g.below j;have D:=D.below j;have f:=(f.below j).top;have y:=btr y j;refine Zf (X0m (enc:=encSd) (l:=(L2)) (l2:=([(⟨aC,aD,(clB (cdB (T+q)))⟩ : Sd)])) (B0:=E.heap.size) rfl rfl X8h Xd9 X1p X3b e (Rd.of_blk bD rfl _ bD.lt) (by simp only [maxLen];simp;omega) (by simp;omega) y.size) ?_;rintro _ f7 ⟨eE,eF,rfl,aP,hg,N⟩
    have o:Own _ E.heap.size 66 1 encSd _ _ (L2):=e
    have cG:=N _ m.lt aH;have cH:=N _ bD.lt b0;clear N;have d:=d.appT o hg rfl;have b:=b.appT o hg rfl;have g:=g.appT o hg rfl;have D:=D.appT o hg rfl;have f:=(f.appT o hg rfl).top;have y:=Below.app y o hg (Qb _) y.size;clear o hg
    have f:=DeepD.snoc (s:=(⟨aC,aD,(clB (cdB (T+q)))⟩ : Sd)) f.top g.rd.top
    refine Za rfl<|Zt dM fun a n=>?_;refine Zr n<|Zm rfl<|Zm rfl<|Ze (Xco (s:=(cdW (T+q))) (r:=[72]) rfl rfl (by have:=a9.len;simp;omega))<|Zm rfl<|Ze (Xco (s:=(cdW (T+q))) (r:=[83]) rfl rfl (by have:=a9.len;simp;omega))<|Zf (Xc (k:=2) (vs:=[.string (tx ((cdW (T+q))++[72])),.string (tx ((cdW (T+q))++[83]))]) (zs:=[.string (tx ((cdW (T+q))++[72])),.string (tx ((cdW (T+q))++[83]))]) rfl X18 X43 rfl rfl) ?_;rintro _ f8 ⟨f9,rfl,aT,j,bE⟩;have eH:=Q0 y.size aT;have b1:=d.away aT;have cJ:=b.away aT;have cK:=D.away aT;have d:=d.below j;have b:=b.below j;have D:=D.below j;have aP:=aP.below j;have f:=(f.below j).top;have y:=btr y j;refine Zf (X0m (enc:=encTx) (l:=(x2)) (l2:=([tx ((cdW (T+q))++[72]),tx ((cdW (T+q))++[83])])) (B0:=E.heap.size) rfl rfl X18 X43 X1h X30 d (Rd.of_blk bE rfl _ bE.lt) (by simp only [maxLen];simp;omega) (by simp;omega) y.size) ?_;rintro _ fA ⟨eI,eJ,rfl,dN,hg,N⟩
    have o:Own _ E.heap.size 9 1 encTx _ _ (x2):=d
    have cM:=N _ bE.lt b1;have b2:=Apart.app b h N;have b3:=Apart.app D aI.symm N;clear N;have b:=b.appP hg h;have D:=D.appP hg aI.symm;have aP:=aP.appT o hg rfl;have f:=(f.appT o hg rfl).top;have y:=Below.app y o hg (Qb _) y.size;clear o hg;refine Za rfl ?_;refine Zn fun a n=>?_;refine Xo<|bL _ _<|Zr n<|Ze (X05 rfl rfl (by omega) (by omega))<|Zm rfl ?_;refine Zn fun a n=>?_;refine Xk ?_;exact ⟨(q+1,H++([tx (cdW (T+q))]),L2++([(⟨aC,aD,(clB (cdB (T+q)))⟩ : Sd)]),x2++([tx ((cdW (T+q))++[72]),tx ((cdW (T+q))++[83])])),⟨eB,eC,eE,eF,eI,eJ,n.sb,(by omega),(by show _=wsN (ctC (T+q+1));rw [b9.1,Xd4,← bH,b9.2]),(by show _=lsN (ctC (T+q+1));rw [List.map_append,aQ,b9.1,Xdh,← dK];rfl),(by show _=cdL _ (1+2*ctC (T+q+1));rw [b9.1,b6];exact Xna (by omega) b9.2),(Xol (t:=T+q+1) (by omega)).le,(by have h9:ctC (T+q)≤ctC (T+q+1):=d5;show ctC T≤ctC (T+q+1);omega),D,aP,dN,b,f,aZ,b2,b3,y⟩,(by first|omega|(dsimp only;omega))⟩
   have bZ:=aO
   have cA:=a9.old (by have h9:=aO;rw [bO] at h9;simp at h9;omega)
   refine Q7<|Xo<|bL _ _<|Zr n ?_;refine Ze (X05 rfl rfl (by omega) (by omega))<|Zm rfl ?_;refine Zn fun a n=>?_;refine Xk ?_;exact ⟨(q+1,H,L2,x2),⟨U,aK,aF,aG,W,aL,n.sb,(by omega),(by show _=wsN (ctC (T+q+1));rw [cA,bH]),(by show _=lsN (ctC (T+q+1));rw [cA,aQ]),(by show _=cdL _ (1+2*ctC (T+q+1));rw [cA,b6]),(Xol (t:=T+q+1) (by omega)).le,(by have h9:ctC (T+q)≤ctC (T+q+1):=d5;show ctC T≤ctC (T+q+1);omega),i,e,d,b,f,z,h,x,y⟩,(by first|omega|(dsimp only;omega))⟩
  have aB:=I;have I:=Q1 I
  have e7:q=1+2*ctC T-T:=by have h9:=I;rw [hv,Xcl] at h9;omega
  have bJ:(T+q)=1+2*ctC T:=by omega
  refine Q9<|Xj<|Xj<|X06 ?_;refine cU _ _<|Zr n<|Zm rfl<|Za rfl ?_;refine Zn fun a n=>?_;refine Xo<|Xk ?_;exact ⟨(1+2*ctC T,H,L2,x2),⟨U,aK,aF,aG,W,aL,n.sb,(by omega),(by rw [← bJ];exact dY),(by rw [← bJ];exact bH),(by rw [← bJ];exact aQ),(by rw [← bJ] at b6 ⊢;exact b6),i,e,d,f,x,y⟩,(by first|omega|(dsimp only;omega))⟩
 have aA:=G;have G:=Q1 G
 have b5:ctC T=24:=by have h9:=G;rw [hw,X3s] at h9;omega
 refine Q9<|Xj<|Xj<|X06 ?_;refine cP _ _<|Zs n fun _ dP=>?_;refine Zm rfl<|Za rfl<|Zt dP fun a n=>?_
 refine Q6 (X4 n (Xx n rfl rfl) ?_)
 rw [b5] at hw
 subst hw
 exact ⟨aU,b4,rfl,bK,y⟩
theorem Xut(w0:World)(k:Nat)(aA:k<24)(aE:HalfT w0) : Ret Tryz.prog 143 [vi (k:Int)] w0 (fun v w=>v=.tuple #[.string (tx (cw k)),.bool true]∧Below w0.heap.size w0 w):=by
 have aK:(wsN 24).length=24:=X3s 24
 refine enter Tryz.func143 rfl 20 rfl rfl ?_;intro a b
 have hW:=bz w0
 refine Zs b fun _ aF=>?_;refine Za rfl<|Za rfl<|Zx aF fun a b _ aG=>?_;refine Zf (Vc (Xqb _ (aE.of hW)) Xgn) ?_;rintro _ w1 ⟨A3,c3,A4,c4,L9,rfl,a9,aB,aL,aM,hE⟩;have a9:=a9.lower hW.size;have aB:=aB.lower hW.size;have hW:=btr hW hE;refine Zm rfl<|Ze (X1 (vs:=[.slice A3 (wsN 24).length c3,.slice A4 L9.length c4]) rfl rfl)<|Ze (X1 (vs:=[.slice A3 (wsN 24).length c3,.slice A4 L9.length c4]) rfl rfl)<|Za rfl<|Za rfl<|ZX aG fun a b _ aH=>?_;refine Zs b fun _ aI=>?_;refine Zm rfl<|Zm rfl<|Ze (X27 rfl X18)<|Ze (X1v rfl rfl (by omega) (by omega))<|Zf (Vc (F91 _ (k:Int) 0 (((wsN 24).length:Int)-1)) X44) ?_;rintro _ _ ⟨rfl,rfl⟩;refine Ze (X0u rfl)<|Zt aI fun a b=>?_
 refine Xn b rfl (fun c=>?_) (fun c=>?_)
 ·have aC:=c
  have h9:=c;rw [X0l.2 ⟨by omega,by omega⟩] at h9;simp at h9
 have aC:=c;refine Q7<|aH _ _<|Zs b fun _ aJ=>?_;refine Zm rfl<|Zm rfl<|Zi (k:=k) (u:=tx (cw k)) (enc:=encTx) (l:=(wsN 24)) trivial rfl rfl X18 Xeq X1h a9.rd (X8f aA) rfl ?_;intro aN aD;refine Ze (X0 rfl X6c aD)<|Za rfl<|Za rfl<|Zt aJ fun a b=>?_
 refine Q6 (X4 b (X0z b rfl rfl rfl) ?_)
 exact ⟨rfl,hW⟩
theorem Xvr(m:World)(k:Nat)(z:k<24)(aP:HalfT m) : Ret Tryz.prog 90 [vi (k:Int)] m (fun v w=>∃ A c,v=.slice A (wdG (cw k)).length c∧Own w m.heap.size 90 3 encG A c (wdG (cw k))∧Below m.heap.size m w):=by
 have b5:=(X6d z).2;refine enter Tryz.func90 rfl 30 rfl rfl ?_;intro a b
 have e:=bz m
 refine Zs b fun _ aQ=>?_;refine Za rfl<|Zx aQ fun a b _ aR=>?_;refine Zf (Xc (k:=0) (vs:=[]) (zs:=[]) rfl X1o X19 rfl rfl) ?_;rintro _ w1 ⟨b4,rfl,aS,x,a9⟩;have aG:=Q0 e.size aS;have e:=btr e x;refine Za rfl<|Zx aR fun a b _ aT=>?_;refine Zm rfl<|Zf (Vc (Xut _ k z (aP.of e)) Xoh) ?_;rintro _ w2 ⟨rfl,x⟩;have a9:=a9.below x;have e:=btr e x;refine Zm rfl<|Ze (X1 (vs:=[.string (tx (cw k)),.bool true]) rfl rfl)<|Ze (X1 (vs:=[.string (tx (cw k)),.bool true]) rfl rfl)<|Za rfl<|Za rfl<|ZX aT fun a b _ aU=>?_;refine Zs b fun _ aW=>?_;refine Za rfl<|Zt aW fun a b=>?_;refine Q8<|X03 (σ:=Nat×(List Gt)) (fun (s:Nat×(List Gt)) (a:Act) (w:World)=>match s with|(j,gs)=>∃ A9 c9,Fr a 30 [(3,.slice A9 gs.length c9),(4,.string (tx (cw k))),(6,vi (j:Int))]∧(j≤(cw k).length)∧(gs=wdG ((cw k).take j))∧Own w m.heap.size 90 3 encG A9 c9 gs∧Below m.heap.size m w) (fun (s:Nat×(List Gt))=>match s with|(j,gs)=>(cw k).length-j) (0,[]) ?_ ?_
 ·exact ⟨some ⟨b4,0,none⟩,0,b.sb,(Qf _),rfl,(Own.empty a9 aG),e⟩
 rintro ⟨j,gs⟩ a w3 ⟨A9,c9,b,hj,y,f,e⟩
 have b6:gs.length≤9:=by rw [y];simp [wdG];omega
 refine Q5 fun _ aH=>?_;refine Zs b fun _ aI=>?_;refine Zm rfl<|Zm rfl<|Ze (X9h (s:=(cw k)) rfl Tryz.underlying9)<|Ze (X15 rfl rfl)<|Zt aI fun a b=>?_
 refine Xn b rfl (fun d=>?_) (fun d=>?_)
 ·have aA:=d;have d:=Q2 d
  obtain ⟨b7,b3⟩:=Xv (l:=(cw k)) (k:=j) (by omega)
  obtain ⟨u7,aB⟩:=Xv (l:=cw k) (k:=j) (by have:=d;omega)
  refine Q7<|aH _ _<|Q5 fun _ h=>?_;refine Q8<|Zs b fun _ aJ=>?_;refine Za rfl<|ZX aJ fun a b _ B=>?_;refine Zs b fun _ aK=>?_;refine Zm rfl<|Zm rfl<|Ze (X88 (s:=(cw k)) (k:=j) (u:=u7) rfl rfl Tryz.underlying9 rfl aB)<|Ze (X9q rfl rfl)<|Zt aK fun a b=>?_
  refine Xn b rfl (fun g=>?_) (fun g=>?_)
  ·have aC:=g;have aD:=Xev g;refine Zr b<|Za rfl<|Zt B fun a b=>?_;refine Zr b<|Zm rfl<|Zm rfl<|Ze (Xf (ps:=[(0,vi 5)]) (cs:=[vi 5,vi 0,vi 0]) rfl (fun _=>by first|rfl|kernel_rfl))<|Zf (Xc (k:=1) (vs:=[.agg #[vi 5,vi 0,vi 0]]) (zs:=[vi 5,vi 0,vi 0]) rfl X1o X19 rfl rfl) ?_;rintro _ w4 ⟨b8,rfl,C,x,n⟩;have aX:=Q0 e.size C;have o:=f.away C;have f:=f.below x;have e:=btr e x;refine Zf (X0m (enc:=encG) (l:=(gs)) (l2:=([(⟨5,0,0⟩ : Gt)])) (B0:=m.heap.size) rfl rfl X1o X19 X1b X2g f (Rd.of_blk n rfl _ n.lt) (by simp only [maxLen];simp;omega) (by simp;omega) e.size) ?_;rintro _ w5 ⟨aY,aZ,rfl,aL,y,p⟩
   have i:Own _ m.heap.size 90 3 encG _ _ (gs):=f
   have aE:=p _ n.lt o;clear p;have e:=Below.app e i y (Qb _) e.size;clear i y;refine Za rfl ?_;refine Zn fun a b=>?_;refine Xo<|h _ _<|Zr b<|Zm rfl<|Ze (X05 rfl rfl (by omega) (by omega))<|Za rfl ?_;refine Zn fun a b=>?_;refine Xk ?_;exact ⟨(j+1,gs++([(⟨5,0,0⟩ : Gt)])),⟨aY,aZ,b.sb,(by omega),(by rw [y,X69 aB,aD]),aL,e⟩,(by first|omega|(dsimp only;omega))⟩
  have aC:=g;have aD:=Xeu g;refine Q7<|B _ _<|Zr b<|Zm rfl<|Zm rfl<|Ze (Xf (ps:=[(0,vi 1)]) (cs:=[vi 1,vi 0,vi 0]) rfl (fun _=>by first|rfl|kernel_rfl))<|Zf (Xc (k:=1) (vs:=[.agg #[vi 1,vi 0,vi 0]]) (zs:=[vi 1,vi 0,vi 0]) rfl X1o X19 rfl rfl) ?_;rintro _ w6 ⟨b9,rfl,D,x,q⟩;have b0:=Q0 e.size D;have t:=f.away D;have f:=f.below x;have e:=btr e x;refine Zf (X0m (enc:=encG) (l:=(gs)) (l2:=([(⟨1,0,0⟩ : Gt)])) (B0:=m.heap.size) rfl rfl X1o X19 X1b X2g f (Rd.of_blk q rfl _ q.lt) (by simp only [maxLen];simp;omega) (by simp;omega) e.size) ?_;rintro _ w7 ⟨b1,b2,rfl,aM,y,p⟩
  have i:Own _ m.heap.size 90 3 encG _ _ (gs):=f
  have aF:=p _ q.lt t;clear p;have e:=Below.app e i y (Qb _) e.size;clear i y;refine Za rfl ?_;refine Zn fun a b=>?_;refine Xo<|h _ _<|Zr b<|Zm rfl<|Ze (X05 rfl rfl (by omega) (by omega))<|Za rfl ?_;refine Zn fun a b=>?_;refine Xk ?_;exact ⟨(j+1,gs++([(⟨1,0,0⟩ : Gt)])),⟨b1,b2,b.sb,(by omega),(by rw [y,X69 aB,aD]),aM,e⟩,(by first|omega|(dsimp only;omega))⟩
 have aA:=d;have d:=Q1 d
 have aN:gs=wdG (cw k):=by rw [y,Qi (by omega)]
 refine Q9<|Xj<|Xj<|X06 ?_;refine aU _ _<|Zs b fun _ aO=>?_;refine Zm rfl<|Za rfl<|Zt aO fun a b=>?_
 refine Q6 (X4 b (Xx b rfl rfl) ?_)
 subst aN
 exact ⟨A9,c9,rfl,f,e⟩
theorem Xub(g:World)(tb:List UInt8)(sl:List Nat)(k p:Nat)(m:k<24)(aB:tb=sl.map sylT)(aH:∀ s ∈ sl,s<3)(aX:sl.length≤40)(aI:HalfT g) : Ret Tryz.prog 47 [.agg #[.string (tx tb),vi (k:Int),vi (p:Int)]] g (fun v w=>∃ A c,v=.slice A (fmG k sl).length c∧Own w g.heap.size 90 3 encG A c (fmG k sl)∧Below g.heap.size g w):=by
 have aZ:=(X6d m).2
 have b0:tb.length=sl.length:=by rw [aB,Qo]
 refine enter Tryz.func47 rfl 24 rfl rfl ?_;intro a e
 have f:=bz g
 refine Zs e fun _ aJ=>?_;refine Zf (X09 (zs:=[.string (tx tb),vi (k:Int),vi (p:Int)]) rfl rfl) ?_;rintro _ w1 ⟨b2,rfl,aK,t,d⟩;have aY:=Q0 f.size aK;have f:=btr f t;refine Za rfl<|Zx aJ fun a e _ aL=>?_;refine Ze (Vd rfl X3e 1)<|Ze (X0 rfl X7 (d.at 1))<|Zf (Vc (Xvr _ k m (aI.of f)) Xov) ?_;rintro _ w2 ⟨A5,c5,rfl,a9,t⟩;have a9:=a9.lower f.size;have d:=d.below t;have f:=btr f t;refine Za rfl<|ZX aL fun a e _ aM=>?_;refine Zs e fun _ aN=>?_;refine Ze (Vd rfl X1q 0)<|Ze (X0 rfl X6c (d.at 0))<|Ze (X9h (s:=tb) rfl Tryz.underlying9)<|Ze (X1v rfl rfl (by omega) (by omega))<|Za rfl<|Zt aN fun a e=>?_;refine Q8<|X03 (σ:=Nat×Int×(List Gt)) (fun (s:Nat×Int×(List Gt)) (a:Act) (w:World)=>match s with|(j,i,gs)=>∃ A8 c8,Fr a 24 [(1,.pointer (some ⟨b2,0,none⟩)),(3,.slice A8 gs.length c8),(4,vi i)]∧(j≤sl.length)∧(i=(sl.length:Int)-1-(j:Int))∧(gs=fmG k (sl.drop (sl.length-j)))∧Blk w b2 27 [.string (tx tb),vi (k:Int),vi (p:Int)]∧Own w g.heap.size 90 3 encG A8 c8 gs∧Below g.heap.size g w) (fun (s:Nat×Int×(List Gt))=>match s with|(j,i,gs)=>sl.length-j) (0,((tb.length:Int)-1),(wdG (cw k))) ?_ ?_
 ·exact ⟨A5,c5,e.sb,(Qf _),(by omega),(by rw [Nat.sub_zero,List.drop_length,Xfq]),d,a9,f⟩
 rintro ⟨j,i,gs⟩ a w3 ⟨A8,c8,e,hj,hi,hg,d,n,f⟩
 have b1:gs.length≤126:=by rw [hg];exact X8k m (by rw [List.length_drop];omega)
 refine Q5 fun _ aO=>?_;refine Zs e fun _ aC=>?_;refine Zm rfl<|Ze (Xhh rfl rfl)<|Zt aC fun a e=>?_
 refine Xn e rfl (fun b=>?_) (fun b=>?_)
 ·have aA:=b;have b:=Q2 b
  obtain ⟨s,aP,aQ,aR⟩:=Xjp (sl:=sl) (j:=j) (by have:=b;omega)
  have aS:=Xl3 aB aP;have b3:=X53 s;refine Q7<|aO _ _<|Q5 fun _ aD=>?_;refine Q8<|Zr e<|Zm rfl<|Ze (Vd rfl X1q 0)<|Ze (X0 rfl X6c (d.at 0))<|Zm rfl<|Ze (X88 (s:=tb) (k:=(sl.length-1-j)) (u:=(sylT s)) rfl rfl Tryz.underlying9 (by omega) aS)<|Zf (Vc (Xpw _ (sylT s) s (aH s aQ) rfl) Xfc) ?_;rintro _ w4 ⟨b4,b5,rfl,o,t⟩;have o:=o.lower f.size;have d:=d.below t;have n:=n.below t;have f:=btr f t;refine Zf (X0m (enc:=encG) (l:=(gs)) (l2:=((sylG s))) (B0:=g.heap.size) rfl rfl X1o X19 X1b X2g n o.rd (by simp only [maxLen];omega) (by omega) f.size) ?_;rintro _ w5 ⟨aT,aU,rfl,aE,hg,aW⟩
  have q:Own _ g.heap.size 90 3 encG _ _ (gs):=n
  clear aW;have d:=d.appT q hg rfl;have f:=Below.app f q hg (Qb _) f.size;clear q hg;refine Za rfl ?_;refine Zn fun a e=>?_;refine Xo<|aD _ _<|Zr e<|Zm rfl<|Ze (X1v rfl rfl (by omega) (by omega))<|Za rfl ?_;refine Zn fun a e=>?_;refine Xk ?_;exact ⟨(j+1,(i-1),gs++(sylG s)),⟨aT,aU,e.sb,(by omega),(by omega),(by rw [hg,aR,Xdk]),d,aE,f⟩,(by first|omega|(dsimp only;omega))⟩
 have aA:=b;have b:=Q1 b
 have aF:gs=fmG k sl:=by rw [hg,show sl.length-j=0 from by have:=b;omega,List.drop_zero]
 refine Q9<|Xj<|Xj<|X06 ?_;refine aM _ _<|Zs e fun _ aG=>?_;refine Zm rfl<|Za rfl<|Zt aG fun a e=>?_
 refine Q6 (X4 e (Xx e rfl rfl) ?_)
 subst aF
 exact ⟨A8,c8,rfl,n,f⟩
theorem Xuw(w0:World)(tb:List UInt8)(sl:List Nat)(k p:Nat)(y:k<24)(aI:tb=sl.map sylT)(aJ:∀ s ∈ sl,s<3)(z:sl.length≤40)(aK:p<8)(hF:FrmOk tb)(aL:HalfT w0) : Ret Tryz.prog 21 [.agg #[.string (tx tb),vi (k:Int),vi (p:Int)]] w0 (fun v w=>∃ A c,v=.tuple #[mV A c ⟨(opM (fmG k sl)).rows,(opM (fmG k sl)).cols,((opM (fmG k sl)).cells.map (dTurn (p:Int)))⟩,.bool true]∧Own w w0.heap.size 86 5 encD A c ((opM (fmG k sl)).cells.map (dTurn (p:Int)))∧Below w0.heap.size w0 w):=by
 obtain ⟨aB,_,_⟩:=Xqg y z;have aM:=Xl7 aB;have aU:=X8k y z;refine enter Tryz.func21 rfl 27 rfl rfl ?_;intro a q
 have i:=bz w0
 refine Zs q fun _ aN=>?_;refine Zf (X09 (zs:=[.string (tx tb),vi (k:Int),vi (p:Int)]) rfl rfl) ?_;rintro _ w1 ⟨b2,rfl,aO,f,g⟩;have aT:=Q0 i.size aO;have i:=btr i f;refine Zf (X5 (zs:=[vi 0,vi 0,.slice none 0 0]) X11 rfl) ?_;rintro _ w2 ⟨b4,rfl,aP,f,e⟩;have aC:=Q0 i.size aP;have g:=g.below f;have i:=btr i f;refine Za rfl<|ZX aN fun a q _ aQ=>?_;refine Zs q fun _ aR=>?_;refine Ze (Vn X25 g)<|Zf (Vc (Xqf _ tb (k:Int) (p:Int) hF ⟨by omega,by omega⟩ ⟨by omega,by omega⟩) Xgm) ?_;rintro _ w3 ⟨rfl,f⟩;have g:=g.below f;have e:=e.below f;have i:=btr i f;refine Ze (X0u rfl)<|Zt aR fun a q=>?_;refine X46 q rfl ?_;refine Q7<|aQ _ _<|Zs q fun _ aS=>?_;refine Ze (Vn X25 g)<|Zf (Vc (Xub _ tb sl k p  y aI aJ z (aL.of i)) Xnc) ?_;rintro _ w4 ⟨A8,c8,rfl,a9,f⟩;have a9:=a9.lower i.size;have g:=g.below f;have e:=e.below f;have i:=btr i f;refine Ze (Xf (ps:=[(0,vi 1),(1,.slice A8 (fmG k sl).length c8)]) (cs:=[vi 1,.slice A8 (fmG k sl).length c8]) rfl (fun _=>by first|rfl|kernel_rfl))<|Zf (X1g (vs:=[.agg #[vi 1,.slice A8 (fmG k sl).length c8]]) rfl Xq0 (by have hq:=F97 w4 (⟨1,(fmG k sl)⟩ : Cx) A8 c8 a9.rd.top (by show (fmG k sl).length≤_;omega);rw [aB,Qq,Option.isSome_some] at hq;exact hq)) ?_;rintro _ w5 ⟨B,C,rfl,m,f⟩;have g:=g.below f;have e:=e.below f;have i:=btr i f;refine Zm rfl<|Ze (X1 (vs:=[.agg #[vi ((opM (fmG k sl)).rows),vi ((opM (fmG k sl)).cols),.slice B ((opM (fmG k sl)).cells).length C],.bool true]) rfl rfl)<|Ze (X1 (vs:=[.agg #[vi ((opM (fmG k sl)).rows),vi ((opM (fmG k sl)).cols),.slice B ((opM (fmG k sl)).cells).length C],.bool true]) rfl rfl)<|Zf (X5 (zs:=[vi 0,vi 0,.slice none 0 0]) X11 rfl) ?_;rintro _ w6 ⟨b12,rfl,aD,f,n⟩
 have aE:b4≠b12:=by have:=e.lt;omega
 have aA:=Q0 i.size aD;have g:=g.below f;have e:=e.below f;have m:=m.below f;have i:=btr i f;refine Zo (Vw [vi ((opM (fmG k sl)).rows),vi ((opM (fmG k sl)).cols),.slice B ((opM (fmG k sl)).cells).length C] X0g n) ?_;rintro _ w7 ⟨ho,hb⟩;have t:=n;have g:=g.only ho (Blk.ne g t rfl);have e:=e.only ho (by omega);have m:=m.onlyT ho t rfl;have i:=Below.only i ho aA;have n:=hb;refine Za rfl<|ZX aS fun a q _ aF=>?_;refine Zs q fun _ aG=>?_;refine Zm rfl<|Ze (X0u rfl)<|Zt aG fun a q=>?_;refine X46 q rfl ?_;refine Q7<|aF _ _<|Q5 fun _ aH=>?_;refine X08 none (fun j=>[7].contains j) mixed ?_;intro w8 f;have g:=g.below f;have e:=e.below f;have n:=n.below f;have m:=m.below f;have i:=btr i f;refine Yb q<|Ye 0 rfl (Vn Xp n)<|Yo 1 rfl (fun _=>Vd rfl X38 2)<|Ye 2 rfl (X0 rfl X7 (g.at 2))<|Y1 3 ?_;refine Yk rfl trivial (Vc (Xbr _ (p:Int) (X0l.2 ⟨by omega,by omega⟩)) X5a) (fun _ _ ⟨_,f⟩=>f) ?_;rintro _ w9 ⟨rfl,f⟩;have e:=e.below f;have m:=m.below f;have i:=btr i f;refine Y1 4<|Yf rfl trivial (EfW.mono (X1g (vs:=[.agg #[vi ((opM (fmG k sl)).rows),vi ((opM (fmG k sl)).cols),.slice B ((opM (fmG k sl)).cells).length C],.agg #[vi ((dPow (p:Int)).num.a),vi ((dPow (p:Int)).num.b),vi ((dPow (p:Int)).num.c),vi ((dPow (p:Int)).num.d),vi ((dPow (p:Int)).exp)]]) rfl Xeh (by have hq:=Xsr w9 (opM (fmG k sl)) B C m.top (dPow (p:Int)) (Xed ⟨1,fmG k sl⟩);rw [X4z aM aK,Qq,Option.isSome_some] at hq;exact hq)) (fun _ _ h=>⟨fun _=>by obtain ⟨u,x,rfl,o,f⟩:=h;exact f,h⟩)) ?_;rintro _ aW ⟨u,x,rfl,o,f⟩
 have o:=o.lower i.size;have e:=e.below f;have i:=btr i f;refine Yo 5 rfl (fun _=>X1 (vs:=[.agg #[vi ((opM (fmG k sl)).rows),vi ((opM (fmG k sl)).cols),.slice u ((opM (fmG k sl)).cells.map (dTurn (p:Int))).length x],.bool true]) rfl rfl)<|Yo 6 rfl (fun _=>X1 (vs:=[.agg #[vi ((opM (fmG k sl)).rows),vi ((opM (fmG k sl)).cols),.slice u ((opM (fmG k sl)).cells.map (dTurn (p:Int))).length x],.bool true]) rfl rfl)<|Y1 7 ?_;refine Yh rfl trivial rfl (Vw [vi ((opM (fmG k sl)).rows),vi ((opM (fmG k sl)).cols),.slice u ((opM (fmG k sl)).cells.map (dTurn (p:Int))).length x] X0g e) ?_;rintro _ aX ⟨ho,hb⟩;have t:=e;have o:=o.onlyT ho t rfl;have i:=Below.only i ho aC;have e:=hb;refine Yo 8 rfl (fun _=>X0p rfl) ?_;refine Yd fun a q=>?_;refine aH _ _ ?_
 refine Q6 (X4 q (X0z q rfl (ResV.cellN (l:=[vi ((opM (fmG k sl)).rows),vi ((opM (fmG k sl)).cols),.slice u ((opM (fmG k sl)).cells.map (dTurn (p:Int))).length x]) rfl Xp (e.at 0) rfl) rfl) ?_)
 exact ⟨u,x,rfl,o,i⟩
theorem Xx9(p:World)(Al:Option Addr)(cl:Nat)(l:List Dy)(t:Rd p p.heap.size 86 encD Al l)(k:Nat)(x:k<24)(a9:l=clB k)(aP:HalfT p) : Ret Tryz.prog 36 [.agg #[.slice Al l.length cl]] p (fun v w=>v=.tuple #[vi (k:Int),.bool true]∧Below p.heap.size p w):=by
 refine enter Tryz.func36 rfl 28 rfl rfl ?_;intro a e
 have g:=bz p
 refine Zs e fun _ aQ=>?_;refine Zf (X09 (zs:=[.slice Al l.length cl]) rfl rfl) ?_;rintro _ w1 ⟨b3,rfl,aR,n,f⟩;have aY:=Q0 g.size aR;have g:=btr g n;refine Za rfl<|Za rfl<|ZX aQ fun a e _ aS=>?_;refine Zs e fun _ aT=>?_;refine Ze (Vn X13 f)<|Zf (Vc (Xwf _ Al cl l (t.below' g).top k x a9) Xms) ?_;rintro _ w2 ⟨rfl,n⟩;have f:=f.below n;have g:=btr g n;refine Ze (X0u rfl)<|Zt aT fun a e=>?_;refine X46 e rfl ?_;refine Q7<|aS _ _<|Zs e fun _ aU=>?_;refine Zf (Vc (Xqb _ (aP.of g)) Xgn) ?_;rintro _ w3 ⟨A7,c7,A8,c8,q,rfl,aF,i,aA,m,n⟩;have aF:=aF.lower g.size;have i:=i.lower g.size;have f:=f.below n;have g:=btr g n;refine Zm rfl<|Ze (X1 (vs:=[.slice A7 (wsN 24).length c7,.slice A8 q.length c8]) rfl rfl)<|Ze (X1 (vs:=[.slice A7 (wsN 24).length c7,.slice A8 q.length c8]) rfl rfl)<|Za rfl<|Za rfl<|ZX aU fun a e _ b0=>?_;refine Zs e fun _ aG=>?_;refine Zm rfl<|Ze (X27 rfl X1j)<|Zm rfl<|Zt aG fun a e=>?_;refine Q8<|X03 (σ:=Nat) (fun (j:Nat) (a:Act) (w:World)=>Fr a 28 [(1,.pointer (some ⟨b3,0,none⟩)),(15,.slice A8 q.length c8),(16,vi (q.length:Int)),(17,vi (j:Int))]∧(j≤k)∧Blk w b3 66 [.slice Al l.length cl]∧Own w p.heap.size 30 1 encSd A8 c8 q∧DeepD w w.heap.size q∧Below p.heap.size p w) (fun (j:Nat)=>24-j) 0 ?_ ?_
 ·exact ⟨e.sb,(Qf _),f,i,m,g⟩
 rintro j a w4 ⟨e,hj,f,i,m,g⟩;refine Zs e fun _ aH=>?_;refine Ze (X15 rfl rfl)<|ZX aH fun a e _ aI=>?_
 refine Xn e rfl (fun d=>?_) (fun d=>?_)
 ·have aB:=d;have d:=Q2 d
  obtain ⟨b1,aZ⟩:=Xv (l:=q) (k:=j) (by omega)
  have aW:=X78 aA
  have y:j<24:=by have:=d;omega
  obtain ⟨u5,aC⟩:=Xv (l:=q) (k:=j) (by omega)
  have o:=Xfx aA aC
  have aX:u5.l.length=9:=by rw [o,X3q y]
  refine Q7<|aI _ _<|Q5 fun _ aJ=>?_;refine Q8<|Zs e fun _ aK=>?_;refine Zm rfl<|Zi (k:=j) (u:=u5) (enc:=encSd) (l:=q) trivial rfl rfl X1j X32 X1p i.rd aC rfl ?_;intro b2 aD;have aL:=(m u5 (Qe aC)).top;refine Ze (X0 rfl X0h aD)<|Za rfl<|Za rfl<|Zx aK fun a e _ aM=>?_;refine Zm rfl<|Ze (Vd rfl X0v 0)<|Ze (X0 rfl X0h (f.at 0))<|Zf (Vc (Xsh _ u5.A u5.c u5.l aL.top Al cl l (t.below' g).top (by rw [aX];decide)) Xey) ?_;rintro _ w5 ⟨rfl,n⟩;have f:=f.below n;have i:=i.below n;have m:=(m.below n).top;have g:=btr g n;refine Zt aM fun a e=>?_
  refine Xn e rfl (fun b=>?_) (fun b=>?_)
  ·have aE:=b;have b:=Q2 b
   have aN:j=k:=Xjo y x (by rw [← o,← a9];exact b)
   refine Zs e fun _ aO=>?_;refine Zm rfl<|Za rfl<|Za rfl<|Zt aO fun a e=>?_;refine Q6<|X04<|Xa<|Xa ?_;refine X04<|Xa<|X4 e (X0z e rfl rfl rfl) ?_;exact ⟨by rw [aN],g⟩
  have aE:=b;have b:=Q1 b
  have aN:j≠k:=fun h8=>b (by rw [o,a9,h8])
  refine Q7<|Xo<|aJ _ _<|Zr e ?_;refine Ze (X05 rfl rfl (by omega) (by omega))<|Zm rfl ?_;refine Zn fun a e=>?_;refine Xk ?_;exact ⟨j+1,⟨e.sb,(by omega),f,i,m,g⟩,(by omega)⟩
 have aB:=d;have d:=Q1 d;have aW:=X78 aA
 omega
theorem Xue(w0:World)(Am:Option Addr)(cm:Nat)(m:Mx)(aQ:Rd w0 w0.heap.size 86 encD Am m.cells)(b5:m.cells.length≤2305843009213693951)(aN:HalfT w0) : Ret Tryz.prog 9 [.agg #[vi m.rows,vi m.cols,.slice Am m.cells.length cm]] w0 (fun v w=>v=.tuple #[.agg #[.string (tx (nfs m)),vi (nfk m:Int),vi (nfp m:Int)],.bool (nfM m).isSome]∧Below w0.heap.size w0 w):=by
 have b6:=Xkr m;refine enter Tryz.func9 rfl 93 rfl rfl ?_;intro a i
 have e:=bz w0
 refine Zs i fun _ cJ=>?_;refine Zf (X09 (zs:=[vi m.rows,vi m.cols,.slice Am m.cells.length cm]) rfl rfl) ?_;rintro _ w1 ⟨b3,rfl,cK,d,f⟩;have d7:=Q0 e.size cK;have e:=btr e d;refine Zf (X5 (zs:=[.string (tx []),vi 0,vi 0]) X5w rfl) ?_;rintro _ w2 ⟨b4,rfl,cM,d,c⟩;have aR:=Q0 e.size cM;have f:=f.below d;have e:=btr e d;refine Za rfl<|Zx cJ fun a i _ cO=>?_;refine Ze (Vn Xp f)<|Zf (Vc (Xki _ m Am cm (aQ.below' e).top b5 (aN.of e)) Xbt) ?_;rintro _ w3 ⟨A6,c6,rfl,B,d⟩;have B:=B.lower e.size;have f:=f.below d;have c:=c.below d;have e:=btr e d;refine Zm rfl<|Ze (X1 (vs:=[.agg #[.slice A6 ((blochI m).getD []).length c6],.bool ((blochI m).isSome)]) rfl rfl)<|Ze (X1 (vs:=[.agg #[.slice A6 ((blochI m).getD []).length c6],.bool ((blochI m).isSome)]) rfl rfl)<|Zf (X5 (zs:=[.slice none 0 0]) X1z rfl) ?_;rintro _ w4 ⟨b8,rfl,cP,d,x⟩;have b7:=Q0 e.size cP;have f:=f.below d;have c:=c.below d;have B:=B.below d;have e:=btr e d;refine Zo (Vw [.slice A6 ((blochI m).getD []).length c6] X1d x) ?_;rintro _ w5 ⟨t,I⟩;have g:=x;have f:=f.only t (Blk.ne f g rfl);have c:=c.only t (Blk.ne c g rfl);have B:=B.onlyT t g rfl;have e:=Below.only e t b7;have x:=I;refine Za rfl<|ZX cO fun a i _ cQ=>?_;refine Q5 fun _ b9=>?_;refine X0e (fun a w=>Fr a 93 [(1,.pointer (some ⟨b3,0,none⟩)),(2,.pointer (some ⟨b4,0,none⟩)),(4,.pointer (some ⟨b8,0,none⟩)),(27,.bool ((!((blochI m).isSome))||(decide (40<(bexp ((blochI m).getD []))))))]∧Below w5.heap.size w5 w) ?_ ?_
 ·have o:Below w5.heap.size w5 w5:=Below.refl _ _
  refine Zr i<|Zm rfl<|Ze (X0u rfl)<|Zm rfl ?_
  refine Zg 23 rfl (fun q=>?_) (fun q=>?_)
  ·refine Zp (gP q) ?_;refine Zp (gP q) ?_;refine Zp (gP q) ?_;refine Ze (Xi rfl q rfl) ?_;refine Zn fun a i=>?_
   have H:Below w5.heap.size w5 w5:=o
   exact ⟨i.sub ⟨rfl,rfl,rfl,X2 rfl (by first|rfl|(simp only [q,bs];done)|simp [q]),trivial⟩,H⟩
  refine Zv (gW q) (Vn X13 x) ?_;refine Zk (gW q) (Vc (Xfj _ A6 c6 ((blochI m).getD []) B.rd.top b6) X8r) ?_;rintro _ w6 ⟨rfl,d⟩;have e:=btr e d;have o:=btr o d;refine Zv (gW q) (Xa5 rfl rfl) ?_;refine Ze (Xe rfl q rfl) ?_;refine Zn fun a i=>?_
  have H:Below w5.heap.size w5 w6:=o
  exact ⟨i.sub ⟨rfl,rfl,rfl,X2 rfl (by first|rfl|(simp only [q,bs];done)|simp [q]),trivial⟩,H⟩
 rintro a w7 ⟨i,d⟩;have f:=f.below d;have c:=c.below d;have x:=x.below d;have B:=B.below d;have e:=btr e d;refine b9 _ _ ?_
 refine Xn i rfl (fun J=>?_) (fun J=>?_)
 ·have aC:=J;have hN:=nfN J;refine Zs i fun _ bC=>?_;refine Ze (Xf (ps:=[]) (cs:=[.string (tx []),vi 0,vi 0]) rfl (fun _=>by first|rfl|kernel_rfl))<|Zo (Vw [.string (tx []),vi 0,vi 0] X35 c) ?_;rintro _ w8 ⟨t,I⟩;have g:=c;have e:=Below.only e t aR;have c:=I;refine Za rfl<|Zt bC fun a i=>?_;refine Q6<|Xa<|X4 i (X0z i rfl (ResV.cellN (l:=[.string (tx []),vi 0,vi 0]) rfl X25 (c.at 0) rfl) rfl) ?_;exact ⟨by rw [hN.s,hN.k,hN.p,hN.n];rfl,e⟩
 have aC:=J;obtain ⟨bD,W⟩:=Xkf J;have hR:=nfR bD W;have hY:=nfY bD W;have d8:=X26 ((blochI m).getD []);refine Q7<|cQ _ _<|Q5 fun _ bE=>?_;refine X0e (fun a w=>∃ u,Fr a 93 [(1,.pointer (some ⟨b3,0,none⟩)),(2,.pointer (some ⟨b4,0,none⟩)),(6,.pointer (some ⟨u,0,none⟩)),(7,.slice A6 ((blochI m).getD []).length c6)]∧w0.heap.size≤u∧Blk w u 27 [.string (tx []),vi 0,vi 0]∧b4≠u∧Below w7.heap.size w7 w) ?_ ?_
 ·have o:Below w7.heap.size w7 w7:=Below.refl _ _
  refine X08 none (fun j=>[4].contains j) mixed ?_;intro w9 d;have c:=c.below d;have x:=x.below d;have e:=btr e d;have o:=btr o d;refine Yb i<|Yo 0 rfl (fun _=>Xf (ps:=[]) (cs:=[.string (tx []),vi 0,vi 0]) rfl (fun _=>by first|rfl|kernel_rfl))<|Yo 1 rfl (fun _=>Vd rfl X0v 0) ?_
  have y:Below w9.heap.size w9 w9:=Below.refl _ _
  refine Yc [0,1,2,3] 2 (fun a w=>∃ u,Fr a 93 [(1,.pointer (some ⟨b3,0,none⟩)),(2,.pointer (some ⟨b4,0,none⟩)),(6,.pointer (some ⟨u,0,none⟩)),(29,.agg #[.string (tx []),vi 0,vi 0]),(31,.slice A6 ((blochI m).getD []).length c6)]∧w0.heap.size≤u∧Blk w u 27 [.string (tx []),vi 0,vi 0]∧b4≠u∧w9.heap.size≤u∧w7.heap.size≤u∧Below w9.heap.size w9 w) ?_ ?_
  ·rintro a d9 ⟨u,i,A,b,L,aT,aU,d⟩;clear y;have y:=d;have e:=btr e d;have o:=btr o d;refine Yb i<|Y1 4<|Yh rfl trivial rfl (Vw [.string (tx []),vi 0,vi 0] X35 b) ?_;rintro _ w11 ⟨t,I⟩;have g:=b;have o:=Below.only o t aU;have y:=Below.only y t aT;have e:=Below.only e t A;have b:=I;refine Yo 5 rfl (fun _=>X0p rfl) ?_;refine Yd fun a i=>?_
   have H:Below w7.heap.size w7 w11:=o
   exact ⟨u,i.sb,A,b,L,H⟩
  intro aS;refine Y2 2 3 ?_ ?_
  ·refine Yz rfl trivial (Uev (X0 rfl X0h (x.at 0))) ?_;refine Y1 3<|Yk rfl trivial (X5 (zs:=[.string (tx []),vi 0,vi 0]) X5w rfl) (fun _ _ ⟨_,_,_,h,_⟩=>h) ?_;rintro _ dA ⟨b17,rfl,aD,d,bF⟩
   have aE:b4≠b17:=by have:=c.lt;omega
   have aW:=Q0 e.size aD;have aX:=Q0 o.size aD;have aY:=Q0 y.size aD;have e:=btr e d;have o:=btr o d;have y:=btr y d;exact fun a i=>aS _ a _ rfl ⟨b17,i.sb,aW,bF,aE,aY,aX,y⟩
  refine Yk rfl trivial (X5 (zs:=[.string (tx []),vi 0,vi 0]) X5w rfl) (fun _ _ ⟨_,_,_,h,_⟩=>h) ?_;rintro _ dB ⟨b18,rfl,aF,d,M⟩
  have N:b4≠b18:=by have:=c.lt;omega
  have a9:=Q0 e.size aF;have aG:=Q0 o.size aF;have aH:=Q0 y.size aF;have x:=x.below d;have e:=btr e d;have o:=btr o d;have y:=btr y d;refine Y2 2 4 ?_ ?_
  ·refine Yz rfl trivial (Uev (X0 rfl X0h (x.at 0))) ?_;exact fun a i=>aS _ a _ rfl ⟨b18,i.sb,a9,M,N,aH,aG,y⟩
  refine Yh rfl trivial rfl (Vw [.string (tx []),vi 0,vi 0] X35 M) ?_;rintro _ w14 ⟨t,I⟩;have g:=M;have x:=x.only t (Blk.ne x g rfl);have o:=Below.only o t aG;have y:=Below.only y t aH;have e:=Below.only e t a9;have M:=I;refine Y1 2<|Yz rfl trivial (Uev (X0 rfl X0h (x.at 0))) ?_;refine Yo 5 rfl (fun _=>X0p rfl) ?_;refine Yd fun a i=>?_
  have H:Below w7.heap.size w7 w14:=o
  exact ⟨b18,i.sub ⟨rfl,rfl,(by first|rfl|(simp [look,aC])),rfl,trivial⟩,a9,M,N,H⟩
 rintro a dC ⟨u,i,A,b,L,d⟩;have f:=f.below d;have c:=c.below d;have B:=B.below d;have e:=btr e d;refine bE _ _<|Q5 fun _ bG=>?_;refine Q8<|X03 (σ:=Nat×(List Dy)×(List UInt8)) (fun (s:Nat×(List Dy)×(List UInt8)) (a:Act) (w:World)=>match s with|(n,lc,tb)=>∃ E G,Fr a 93 [(1,.pointer (some ⟨b3,0,none⟩)),(2,.pointer (some ⟨b4,0,none⟩)),(6,.pointer (some ⟨u,0,none⟩)),(7,.slice E lc.length G)]∧((n:Int)≤bexp ((blochI m).getD []))∧(lc=(stN ((blochI m).getD []) n).2)∧(tb=(stN ((blochI m).getD []) n).1.map sylT)∧Blk w b3 32 [vi m.rows,vi m.cols,.slice Am m.cells.length cm]∧Blk w b4 27 [.string (tx []),vi 0,vi 0]∧Blk w u 27 [.string (tx tb),vi 0,vi 0]∧Own w w0.heap.size 86 5 encD E G lc∧Below w0.heap.size w0 w) (fun (s:Nat×(List Dy)×(List UInt8))=>match s with|(n,lc,tb)=>(bexp ((blochI m).getD [])).toNat-n) (0,((blochI m).getD []),[]) ?_ ?_
 ·exact ⟨A6,c6,i.sb,(by omega),rfl,rfl,f,c,b,B,e⟩
 rintro ⟨n,lc,tb⟩ a dD ⟨E,G,i,hn,aI,aZ,f,c,b,Q,e⟩;obtain ⟨cR,cS,cT,dE⟩:=X4b hR.gd W n hn
 have bH:Gd lc:=by rw [aI];exact cR
 have dF:bexp lc=bexp ((blochI m).getD [])-(n:Int):=by rw [aI];exact cS
 have dG:tb.length=n:=by rw [aZ,Qo];exact cT
 refine Q5 fun _ bI=>?_;refine Zs i fun _ bJ=>?_;refine Zm rfl<|Ze (Xf (ps:=[(0,.slice E lc.length G)]) (cs:=[.slice E lc.length G]) rfl (fun _=>by first|rfl|kernel_rfl))<|Zf (Vc (Xfj _ E G lc Q.rd.top (Nat.le_of_eq bH.nine.1)) X8r) ?_;rintro _ dH ⟨rfl,d⟩;have f:=f.below d;have c:=c.below d;have b:=b.below d;have Q:=Q.below d;have e:=btr e d;refine Ze (Xa5 rfl rfl)<|Zt bJ fun a i=>?_
 refine Xn i rfl (fun z=>?_) (fun z=>?_)
 ·have b0:=z;have z:=Q2 z
  have cU:0<bexp lc:=z
  obtain ⟨p9,dI⟩:=X7a hR.gd W (n:=n) (by omega)
  refine Q7<|bI _ _<|Q8<|Zs i fun _ bK=>?_;refine Zm rfl<|Zf (Vc (Xwl _ E G lc Q.rd.top bH cU (by omega) (aN.of e)) Xnh) ?_;rintro _ dJ ⟨C,aA,aO,aP,aJ,rfl,U,d⟩;have U:=U.lower e.size;have f:=f.below d;have c:=c.below d;have b:=b.below d;have e:=btr e d;refine Zm rfl<|Ze (X1 (vs:=[.string (tx [sylT C]),.slice aO aA.length aP,.bool true]) rfl rfl)<|Ze (X1 (vs:=[.string (tx [sylT C]),.slice aO aA.length aP,.bool true]) rfl rfl)<|Ze (X1 (vs:=[.string (tx [sylT C]),.slice aO aA.length aP,.bool true]) rfl rfl)<|Za rfl<|Za rfl<|Za rfl<|ZX bK fun a i _ bL=>?_;refine Zs i fun _ bM=>?_;refine Zm rfl<|Ze (X0u rfl)<|Zt bM fun a i=>?_;refine X46 i rfl ?_;refine Q7<|bL _ _<|Zs i fun _ bN=>?_;refine Ze (Vd rfl X1q 0)<|Ze (X0 rfl X6c (b.at 0))<|Zm rfl<|Ze (Xco (s:=tb) (r:=[sylT C]) rfl rfl (by simp;omega))<|Ze (Vd rfl X1q 0)<|Zo (Vu (vs:=[.string (tx (tb++[sylT C]))]) (l':=[.string (tx (tb++[sylT C])),vi 0,vi 0]) rfl rfl Xeq b) ?_;rintro _ dK ⟨t,I⟩;have g:=b;have f:=f.only t (Blk.ne f g rfl);have c:=c.only t (by omega);have U:=U.onlyT t g rfl;have e:=Below.only e t A;have b:=I;refine Zt bN fun a i=>?_;refine Zr i<|Zm rfl<|Za rfl ?_;refine Zn fun a i=>?_;refine Xo<|Xk ?_;exact ⟨(n+1,aA,(tb++[sylT C])),⟨aO,aP,i.sb,(by omega),(by rw [X3i (by rw [← aI];exact aJ)]),(by rw [X3i (by rw [← aI];exact aJ),List.map_append,aZ];rfl),f,c,b,U,e⟩,(by first|omega|(dsimp only;omega))⟩
 have b0:=z;have z:=Q1 z
 have bO:n=(bexp ((blochI m).getD [])).toNat:=by have:=z;omega
 have bP:lc=nfL ((blochI m).getD []):=by rw [aI,bO];rfl
 have aK:tb=(nfS ((blochI m).getD [])).map sylT:=by rw [aZ,bO];rfl
 obtain ⟨bQ,bR⟩:=Xbj hR.gd W
 have cV:lc=clB (clX (nfL ((blochI m).getD []))):=bP.trans bR
 obtain ⟨dL,bS⟩:=X8j hR.gd W
 have b1:(nfS ((blochI m).getD [])).length≤40:=by omega
 have bU:FrmOk tb:=by rw [aK];exact Xp7 hR.gd W
 have bW:=Xww hR;refine Q9<|Xj<|Xj<|X06 ?_;refine bG _ _<|Zs i fun _ bZ=>?_;refine Zm rfl<|Ze (Xf (ps:=[(0,.slice E lc.length G)]) (cs:=[.slice E lc.length G]) rfl (fun _=>by first|rfl|kernel_rfl))<|Zf (Vc (Xx9 _ E G lc Q.rd.top (clX (nfL ((blochI m).getD []))) bQ cV (aN.of e)) Xmz) ?_;rintro _ dM ⟨rfl,d⟩;have f:=f.below d;have c:=c.below d;have b:=b.below d;have e:=btr e d;refine Zm rfl<|Ze (X1 (vs:=[vi ((clX (nfL ((blochI m).getD []))) : Int),.bool true]) rfl rfl)<|Ze (X1 (vs:=[vi ((clX (nfL ((blochI m).getD []))) : Int),.bool true]) rfl rfl)<|Ze (Vd rfl X3e 1)<|Zo (Vu (vs:=[vi ((clX (nfL ((blochI m).getD []))) : Int)]) (l':=[.string (tx tb),vi ((clX (nfL ((blochI m).getD []))) : Int),vi 0]) rfl rfl X5m b) ?_;rintro _ cW ⟨t,I⟩;have g:=b;have f:=f.only t (Blk.ne f g rfl);have c:=c.only t (by omega);have e:=Below.only e t A;have b:=I;refine Za rfl<|Zx bZ fun a i _ cA=>?_;refine Ze (Vn X25 b)<|Zf (X1g (vs:=[.agg #[.string (tx tb),vi ((clX (nfL ((blochI m).getD []))) : Int),vi 0]]) rfl Xny (by have hq:=Xuw cW tb (nfS ((blochI m).getD [])) (clX (nfL ((blochI m).getD []))) 0 bQ aK bS b1 (by decide) bU (aN.of e);rw [Xvj] at hq;exact hq)) ?_;rintro _ dN ⟨aL,aM,rfl,D,d⟩;have D:=D.lower e.size;have f:=f.below d;have c:=c.below d;have b:=b.below d;have e:=btr e d;refine Zm rfl<|Ze (X1 (vs:=[.agg #[vi ((nfW ((blochI m).getD [])).rows),vi ((nfW ((blochI m).getD [])).cols),.slice aL ((nfW ((blochI m).getD [])).cells).length aM],.bool true]) rfl rfl)<|Ze (X1 (vs:=[.agg #[vi ((nfW ((blochI m).getD [])).rows),vi ((nfW ((blochI m).getD [])).cols),.slice aL ((nfW ((blochI m).getD [])).cells).length aM],.bool true]) rfl rfl)<|Zf (X5 (zs:=[vi 0,vi 0,.slice none 0 0]) X11 rfl) ?_;rintro _ dP ⟨b35,rfl,cB,d,aB⟩
 have cC:b3≠b35:=by have:=f.lt;omega
 have b2:=Q0 e.size cB;have f:=f.below d;have c:=c.below d;have b:=b.below d;have D:=D.below d;have e:=btr e d;refine Zo (Vw [vi ((nfW ((blochI m).getD [])).rows),vi ((nfW ((blochI m).getD [])).cols),.slice aL ((nfW ((blochI m).getD [])).cells).length aM] X0g aB) ?_;rintro _ cX ⟨t,I⟩;have g:=aB;have f:=f.only t (by omega);have c:=c.only t (Blk.ne c g rfl);have b:=b.only t (Blk.ne b g rfl);have D:=D.onlyT t g rfl;have e:=Below.only e t b2;have aB:=I;refine Za rfl<|Zx cA fun a i _ cD=>?_;refine Ze (Vn Xp f)<|Ze (Vn Xp aB)<|Zf (X1g (vs:=[.agg #[vi m.rows,vi m.cols,.slice Am m.cells.length cm],.agg #[vi ((nfW ((blochI m).getD [])).rows),vi ((nfW ((blochI m).getD [])).cols),.slice aL ((nfW ((blochI m).getD [])).cells).length aM]]) rfl Xvh (by have hq:=G98 cX m Am cm (aQ.below' e).top (nfW ((blochI m).getD [])) aL aM D.rd.top b5 (Xed _);rw [bW.1,bW.2] at hq;exact hq)) ?_;rintro _ dQ ⟨ix,rfl,d5,d⟩;have c:=c.below d;have b:=b.below d;have e:=btr e d;obtain ⟨d6,dR⟩:=Xu9 hR (d5 rfl);refine Zm rfl<|Ze (X1 (vs:=[vi ix,.bool true,.bool true]) rfl rfl)<|Ze (X1 (vs:=[vi ix,.bool true,.bool true]) rfl rfl)<|Ze (X1 (vs:=[vi ix,.bool true,.bool true]) rfl rfl)<|Za rfl<|Za rfl<|Za rfl<|Zx cD fun a i _ cE=>?_;refine Zm rfl<|Ze (Vd rfl X38 2)<|Zo (Vu (vs:=[vi ix]) (l':=[.string (tx tb),vi ((clX (nfL ((blochI m).getD []))) : Int),vi ix]) rfl rfl X5m b) ?_;rintro _ w26 ⟨t,I⟩;have g:=b;have c:=c.only t (by omega);have e:=Below.only e t A;have b:=I;refine ZX cE fun a i _ cF=>?_;refine Q5 fun _ cG=>?_
 refine X0e (fun a w=>Fr a 93 [(2,.pointer (some ⟨b4,0,none⟩)),(6,.pointer (some ⟨u,0,none⟩)),(90,.bool false)]∧Below w26.heap.size w26 w) ?_ ?_
 ·have o:Below w26.heap.size w26 w26:=Below.refl _ _
  refine Zr i<|Zm rfl<|Ze (X0u rfl)<|Zm rfl<|Zv (gW rfl) (Xd rfl) ?_;refine Zv (gW rfl) (X0u rfl) ?_;refine Ze (Xe rfl rfl rfl)<|Zm rfl<|Zv (gW rfl) (Xd rfl) ?_;refine Zv (gW rfl) (X0u rfl) ?_;refine Ze (Xe rfl rfl rfl)<|Zm rfl<|Zv (gW rfl) (Xd rfl) ?_;refine Zv (gW rfl) (X0u rfl) ?_;refine Ze (Xe rfl rfl rfl)<|Zm rfl<|Zv (gW rfl) (Vn X25 b) ?_;refine Zk (gW rfl) (Vc (Xqf _ tb ((clX (nfL ((blochI m).getD []))) : Int) ix bU ⟨by omega,by omega⟩ ⟨by omega,by omega⟩) Xgm) ?_;rintro _ w27 ⟨rfl,d⟩;have e:=btr e d;have o:=btr o d;refine Zv (gW rfl) (X0u rfl) ?_;refine Ze (Xe rfl rfl rfl) ?_;refine Zn fun a i=>?_
  have H:Below w26.heap.size w26 w27:=o
  exact ⟨i.sb,H⟩
 rintro a dS ⟨i,d⟩;have c:=c.below d;have b:=b.below d;have e:=btr e d;refine cG _ _<|X46 i rfl ?_;refine Q7<|cF _ _<|Zs i fun _ cH=>?_;refine Ze (Vn X25 b)<|Zo (Vw [.string (tx tb),vi ((clX (nfL ((blochI m).getD []))) : Int),vi ix] X35 c) ?_;rintro _ dT ⟨t,I⟩;have g:=c;have e:=Below.only e t aR;have c:=I;refine Za rfl<|Zt cH fun a i=>?_
 refine Q6 (X4 i (X0z i rfl (ResV.cellN (l:=[.string (tx tb),vi ((clX (nfL ((blochI m).getD []))) : Int),vi ix]) rfl X25 (c.at 0) rfl) rfl) ?_)
 exact ⟨by rw [hY.s,hY.k,hY.p,hY.n,← aK,← d6],e⟩
theorem Xxf(n:World)(p:Mx)(Ap:Option Addr)(cp:Nat)(aB:Rd n n.heap.size 86 encD Ap p.cells)(q:Mx)(Aq:Option Addr)(cq:Nat)(aC:Rd n n.heap.size 86 encD Aq q.cells)(aI:p.cells.length=q.cells.length)(aJ:q.cells.length≤2305843009213693951) : Ret Tryz.prog 66 [.agg #[vi p.rows,vi p.cols,.slice Ap p.cells.length cp],.agg #[vi q.rows,vi q.cols,.slice Aq q.cells.length cq]] n (fun v w=>∃ i:Int,v=.tuple #[vi i,.bool (phaseS p q)]∧(phaseS p q=true→∃ k:Nat,k<8∧i=(k:Int)∧turnedS p q (k:Int)=true)∧Below n.heap.size n w):=by
 refine enter Tryz.func66 rfl 16 rfl rfl ?_;intro a c
 have g:=bz n
 refine Zs c fun _ aK=>?_;refine Zf (X09 (zs:=[vi p.rows,vi p.cols,.slice Ap p.cells.length cp]) rfl rfl) ?_;rintro _ w1 ⟨b4,rfl,aL,o,d⟩;have aR:=Q0 g.size aL;have g:=btr g o;refine Zf (X09 (zs:=[vi q.rows,vi q.cols,.slice Aq q.cells.length cq]) rfl rfl) ?_;rintro _ w2 ⟨b5,rfl,aM,o,l⟩
 have aH:b4≠b5:=by have:=d.lt;omega
 have aS:=Q0 g.size aM;have d:=d.below o;have g:=btr g o;refine Za rfl<|Za rfl<|ZX aK fun a c _ aN=>?_;refine Zs c fun _ aO=>?_;refine Za rfl<|Zt aO fun a c=>?_;refine Q8<|X03 (σ:=Nat) (fun (k:Nat) (a:Act) (w:World)=>Fr a 16 [(2,.pointer (some ⟨b4,0,none⟩)),(3,.pointer (some ⟨b5,0,none⟩)),(6,vi (k:Int))]∧(k≤8)∧(∀ j<k,turnedS p q ((j:Nat) : Int)=false)∧Blk w b4 32 [vi p.rows,vi p.cols,.slice Ap p.cells.length cp]∧Blk w b5 32 [vi q.rows,vi q.cols,.slice Aq q.cells.length cq]∧Below n.heap.size n w) (fun (k:Nat)=>8-k) 0 ?_ ?_
 ·exact ⟨c.sb,(by omega),(fun j hj=>by omega),d,l,g⟩
 rintro k a w3 ⟨c,hk,m,d,l,g⟩;refine Q5 fun _ aP=>?_;refine Zs c fun _ aQ=>?_;refine Zm rfl<|Ze (X15 rfl rfl)<|Zt aQ fun a c=>?_
 refine Xn c rfl (fun b=>?_) (fun b=>?_)
 ·have a9:=b;have b:=Q2 b
  have aT:(k:Int)<8:=b
  refine Q7<|aP _ _<|Q5 fun _ aD=>?_;refine Q8<|Zs c fun _ aE=>?_;refine Ze (Vn Xp d)<|Ze (Vn Xp l)<|Zm rfl<|Zf (Vc (Xxg _ p Ap cp (aB.below' g).top q Aq cq (aC.below' g).top (k:Int) aI aJ) Xsq) ?_;rintro _ w4 ⟨rfl,o⟩;have d:=d.below o;have l:=l.below o;have g:=btr g o;refine Zt aE fun a c=>?_
  refine Xn c rfl (fun e=>?_) (fun e=>?_)
  ·have aA:=e
   have hT:turnedS p q (k:Int)=true:=e
   refine Zs c fun _ aF=>?_;refine Zm rfl<|Za rfl<|Za rfl<|Zt aF fun a c=>?_;refine Q6<|X04<|Xa<|Xa ?_;refine X04<|Xa<|X4 c (X0z c rfl rfl rfl) ?_;exact ⟨_,by rw [phaseS,Xag (f:=fun k=>turnedS p q ((k:Nat) : Int)) (k:=k) (by omega) hT],fun _=>⟨k,by omega,rfl,hT⟩,g⟩
  have aA:=e
  have hT:turnedS p q (k:Int)=false:=e
  refine Q7<|Xo<|aD _ _<|Zr c ?_;refine Zm rfl<|Ze (X05 rfl rfl (by omega) (by omega))<|Za rfl ?_;refine Zn fun a c=>?_;refine Xk ?_;exact ⟨k+1,⟨c.sb,(by omega),(fun j hj=>by rcases W4 j k with h9|h9;exact m j h9;obtain rfl:j=k:=(by omega);exact hT),d,l,g⟩,(by omega)⟩
 have a9:=b;have b:=Q1 b;refine Q9<|Xj<|Xj<|X06 ?_;refine aN _ _<|Zs c fun _ aG=>?_;refine Za rfl<|Za rfl<|Zt aG fun a c=>?_
 refine Q6 (X4 c (X0z c rfl rfl rfl) ?_)
 exact ⟨_,by rw [phaseS,X59 (fun j hj=>m j (by omega))],fun h9=>(by rw [phaseS,X59 (fun j hj=>m j (by omega))] at h9;cases h9),g⟩
theorem Xfd(m:World)(Ap:Option Addr)(cp:Nat)(p:List Dy)(n:Rd m m.heap.size 86 encD Ap p)(aR:p.length≤9) : Ret Tryz.prog 62 [.agg #[.slice Ap p.length cp]] m (fun v w=>v=vi (bexp p)∧Below m.heap.size m w):=by
 refine enter Tryz.func62 rfl 19 rfl rfl ?_;intro a f
 have i:=bz m
 refine Zs f fun _ aH=>?_;refine Zf (X09 (zs:=[.slice Ap p.length cp]) rfl rfl) ?_;rintro _ w1 ⟨b3,rfl,aI,hE,aJ⟩;have aP:=Q0 i.size aI;have i:=btr i hE;refine Za rfl<|Zx aH fun a f _ aK=>?_;refine Za rfl<|ZX aK fun a f _ aL=>?_;refine Zs f fun _ aM=>?_;refine Ze (Vd rfl X0v 0)<|Ze (X0 rfl X0h (aJ.at 0))<|Ze (X27 rfl Xr)<|Zm rfl<|Zt aM fun a f=>?_;refine Q8<|X03 (σ:=Nat) (fun (k:Nat) (a:Act) (w:World)=>Fr a 19 [(3,vi (bexp (p.take k))),(7,.slice Ap p.length cp),(8,vi (p.length:Int)),(9,vi (k:Int))]∧(k≤p.length)∧Below m.heap.size m w) (fun (k:Nat)=>p.length-k) 0 ?_ ?_
 ·exact ⟨f.sb,(Qf _),i⟩
 rintro k a w2 ⟨f,hk,i⟩;refine Zs f fun _ aN=>?_;refine Ze (X15 rfl rfl)<|ZX aN fun a f _ aO=>?_
 refine Xn f rfl (fun g=>?_) (fun g=>?_)
 ·have aB:=g;have g:=Q2 g
  obtain ⟨e,o⟩:=Xv (l:=p) (k:=k) (by omega)
  refine Q7<|aO _ _<|Q5 fun _ aC=>?_;refine Q8<|Zs f fun _ aD=>?_;refine Zi (k:=k) (u:=e) (enc:=encD) (l:=p) trivial rfl rfl Xr X8 Xs (n.below' i) o rfl ?_;intro aS a9;refine Ze (Xy (l:=[vi e.num.a,vi e.num.b,vi e.num.c,vi e.num.d,vi e.exp]) rfl X3 a9 rfl)<|Zf (X5 (zs:=[vi 0,vi 0,vi 0,vi 0,vi 0]) X0j rfl) ?_;rintro _ w3 ⟨aT,rfl,q,hE,j⟩;have aA:=Q0 i.size q;have aE:=(n.below' i).away q;have i:=btr i hE;refine Zo (Vw [vi e.num.a,vi e.num.b,vi e.num.c,vi e.num.d,vi e.exp] X8 j) ?_;rintro _ w4 ⟨ho,hb⟩;have aQ:=j;have i:=Below.only i ho aA;have j:=hb;refine Zt aD fun a f=>?_;refine Zr f<|Zm rfl<|Ze (Vd rfl X0q 4)<|Ze (X0 rfl X7 (j.at 4))<|Zf (X1g (vs:=[vi (bexp (p.take k)),vi e.exp]) rfl Xsd (by have hq:=Xxc w4 (bexp (p.take k)) e.exp;rw [← Xah o] at hq;exact hq)) ?_;rintro _ _ ⟨rfl,rfl⟩;refine Za rfl ?_;refine Zn fun a f=>?_;refine Xo<|aC _ _<|Zr f<|Ze (X05 rfl rfl (by omega) (by omega))<|Zm rfl ?_;refine Zn fun a f=>?_;refine Xk ?_;exact ⟨k+1,⟨f.sb,(by omega),i⟩,(by omega)⟩
 have aB:=g;have g:=Q1 g
 have aF:bexp (p.take k)=bexp p:=by rw [Qi (by omega)]
 refine Q9<|Xj<|Xj<|X06 ?_;refine aL _ _<|Zs f fun _ aG=>?_;refine Zm rfl<|Za rfl<|Zt aG fun a f=>?_
 refine Q6 (X4 f (Xx f rfl rfl) ?_)
 exact ⟨by rw [aF],i⟩
theorem Xvx(p:World)(Al:Option Addr)(cl:Nat)(l:List Dy)(aD:Rd p p.heap.size 86 encD Al l)(k:Nat)(x:k<24)(a9:l=clB k) : Ret Tryz.prog 65 [.agg #[.slice Al l.length cl]] p (fun v w=>v=vi (k:Int)∧Below p.heap.size p w):=by
 have aY:(wsN 24).length=24:=X3s 24
 refine enter Tryz.func65 rfl 25 rfl rfl ?_;intro a i
 have e:=bz p
 refine Zs i fun _ aQ=>?_;refine Zf (X09 (zs:=[.slice Al l.length cl]) rfl rfl) ?_;rintro _ w1 ⟨b3,rfl,aR,m,b⟩;have aW:=Q0 e.size aR;have e:=btr e m;refine Za rfl<|ZX aQ fun a i _ aZ=>?_;refine Zs i fun _ aS=>?_;refine Zf (Vc (Xpv _) Xfw) ?_;rintro _ w2 ⟨A6,c6,rfl,c,m⟩;have c:=c.lower e.size;have b:=b.below m;have e:=btr e m;refine Ze (X27 rfl X18)<|Zm rfl<|Zt aS fun a i=>?_;refine Q8<|X03 (σ:=Nat) (fun (j:Nat) (a:Act) (w:World)=>Fr a 25 [(1,.pointer (some ⟨b3,0,none⟩)),(7,.slice A6 (wsN 24).length c6),(8,vi ((wsN 24).length:Int)),(9,vi (j:Int))]∧(j≤k)∧Blk w b3 66 [.slice Al l.length cl]∧Own w p.heap.size 9 1 encTx A6 c6 (wsN 24)∧Below p.heap.size p w) (fun (j:Nat)=>24-j) 0 ?_ ?_
 ·exact ⟨i.sb,(Qf _),b,c,e⟩
 rintro j a w3 ⟨i,hj,b,c,e⟩;refine Zs i fun _ aT=>?_;refine Ze (X15 rfl rfl)<|ZX aT fun a i _ aU=>?_
 refine Xn i rfl (fun n=>?_) (fun n=>?_)
 ·have aE:=n;have n:=Q2 n
  obtain ⟨b0,aX⟩:=Xv (l:=(wsN 24)) (k:=j) (by omega)
  have f:j<24:=by have:=n;omega
  refine Q7<|aU _ _<|Q5 fun _ aF=>?_;refine Q8<|Zs i fun _ aG=>?_;refine Zm rfl<|Zi (k:=j) (u:=tx (cw j)) (enc:=encTx) (l:=(wsN 24)) trivial rfl rfl X18 Xeq X1h c.rd (X8f f) rfl ?_;intro b1 aA;refine Ze (X0 rfl X6c aA)<|Za rfl<|Za rfl<|Zx aG fun a i _ aH=>?_;refine Zm rfl<|Zf (Vc (Xpl _ (cw j) (by have:=(X6d f).2;omega)) Xga) ?_;rintro _ w4 ⟨aI,aJ,rfl,aK,m⟩;have b:=b.below m;have c:=c.below m;have e:=btr e m;refine Zf (X1g (vs:=[.agg #[vi ((opM (wdG (cw j))).rows),vi ((opM (wdG (cw j))).cols),.slice aI ((opM (wdG (cw j))).cells).length aJ]]) rfl X8c (by have hq:=Xfg w4 (opM (wdG (cw j))) aI aJ aK.top (X7k (X6q f));rw [X6q f,Qq,Option.isSome_some] at hq;exact hq)) ?_;rintro _ w5 ⟨q,t,rfl,g,m⟩;have g:=g.lower e.size;have b:=b.below m;have c:=c.below m;have e:=btr e m;refine Zm rfl<|Ze (X1 (vs:=[.agg #[.slice q (clB j).length t],.bool true]) rfl rfl)<|Ze (X1 (vs:=[.agg #[.slice q (clB j).length t],.bool true]) rfl rfl)<|Zf (X5 (zs:=[.slice none 0 0]) X1z rfl) ?_;rintro _ w6 ⟨b19,rfl,aL,m,o⟩
  have aM:b3≠b19:=by have:=b.lt;omega
  have aB:=Q0 e.size aL;have b:=b.below m;have c:=c.below m;have g:=g.below m;have e:=btr e m;refine Zo (Vw [.slice q (clB j).length t] X1d o) ?_;rintro _ w7 ⟨ho,hb⟩;have y:=o;have b:=b.only ho (by omega);have c:=c.onlyT ho y rfl;have g:=g.onlyT ho y rfl;have e:=Below.only e ho aB;have o:=hb;refine Za rfl<|Zx aH fun a i _ aN=>?_;refine Ze (Vn X13 o)<|Ze (Vn X13 b)<|Zf (Vc (Xpy _ q t (clB j) g.rd.top Al cl l (aD.below' e).top (by rw [a9,X3q f,X3q x]) (by rw [X3q f];decide)) Xgb) ?_;rintro _ w8 ⟨rfl,m⟩;have b:=b.below m;have c:=c.below m;have e:=btr e m;refine Zt aN fun a i=>?_
  refine Xn i rfl (fun d=>?_) (fun d=>?_)
  ·have aC:=d;have d:=Q2 d
   have aO:j=k:=Xjo f x (by rw [← a9];exact d)
   refine Zs i fun _ aP=>?_;refine Zm rfl<|Za rfl<|Zt aP fun a i=>?_;refine Q6<|X04<|Xa<|Xa ?_;refine X04<|Xa<|X4 i (Xx i rfl rfl) ?_;exact ⟨by rw [aO],e⟩
  have aC:=d;have d:=Q1 d
  have aO:j≠k:=fun h8=>d (by rw [a9,h8])
  refine Q7<|Xo<|aF _ _<|Zr i ?_;refine Ze (X05 rfl rfl (by omega) (by omega))<|Zm rfl ?_;refine Zn fun a i=>?_;refine Xk ?_;exact ⟨j+1,⟨i.sb,(by omega),b,c,e⟩,(by omega)⟩
 have aE:=n;have n:=Q1 n
 omega
theorem Xup(G:World)(tb:List UInt8)(sl:List Nat)(k p:Nat)(L:k<24)(bJ:tb=sl.map sylT)(cK:∀ s ∈ sl,s<3)(bK:sl.length≤40)(dE:p<8) : Ret Tryz.prog 40 [.agg #[.string (tx tb),vi (k:Int),vi (p:Int)]] G (fun v w=>∃ A c,v=.agg #[vi 1,.slice A (fmW k sl p).length c]∧Own w G.heap.size 90 3 encG A c (fmW k sl p)∧Below G.heap.size G w):=by
 have dF:(wsN 24).length=24:=X3s 24
 have dG:=(X6d L).2
 have dH:tb.length=sl.length:=by rw [bJ,Qo]
 refine enter Tryz.func40 rfl 62 rfl rfl ?_;intro a m
 have g:=bz G
 refine Zs m fun _ cM=>?_;refine Zf (X09 (zs:=[.string (tx tb),vi (k:Int),vi (p:Int)]) rfl rfl) ?_;rintro _ w1 ⟨b2,rfl,cO,n,b⟩;have dA:=Q0 g.size cO;have g:=btr g n;refine Zf (X5 (zs:=[vi 0,.slice none 0 0]) Xt2 rfl) ?_;rintro _ w2 ⟨b4,rfl,cP,n,e⟩;have bL:=Q0 g.size cP;have b:=b.below n;have g:=btr g n;refine Zx cM fun a m _ cQ=>?_;refine Ze (Xf (ps:=[(0,vi 1)]) (cs:=[vi 1,.slice none 0 0]) rfl (fun _=>by first|rfl|kernel_rfl))<|Zf (X5 (zs:=[vi 0,.slice none 0 0]) Xt2 rfl) ?_;rintro _ w3 ⟨b8,rfl,cR,n,d⟩
 have cJ:b4≠b8:=by have:=e.lt;omega
 have I:=Q0 g.size cR;have b:=b.below n;have e:=e.below n;have g:=btr g n;refine Zo (Vw [vi 1,.slice none 0 0] Xl5 d) ?_;rintro _ w4 ⟨h,hb⟩;have o:=d;have b:=b.only h (Blk.ne b o rfl);have e:=e.only h (by omega);have g:=Below.only g h I;have d:=hb;refine ZX cQ fun a m _ cS=>?_;refine X08 none (fun _=>false) mixed ?_;intro w5 n;have b:=b.below n;have e:=e.below n;have d:=d.below n;have g:=btr g n;refine Yb m<|Yo 1 rfl (fun _=>Vd rfl X3e 1)<|Ye 2 rfl (X0 rfl X7 (b.at 1))<|Y1 0 ?_;refine Yk rfl trivial (Vc (Xpv _) Xfw) (fun _ _ ⟨cT,cU,_,M,n⟩=>n) ?_;rintro _ w6 ⟨cT,cU,rfl,M,n⟩;have M:=M.lower g.size;have b:=b.below n;have e:=e.below n;have d:=d.below n;have g:=btr g n;refine Yi (k:=k) (u:=tx (cw k)) (enc:=encTx) (l:=(wsN 24)) 3 rfl trivial rfl rfl X18 Xeq X1h M.rd (X8f L) rfl ?_;intro dI aS;refine Ye 4 rfl (X0 rfl X6c aS)<|Yo 5 rfl (fun _=>X0p rfl) ?_;refine Yd fun a m=>?_;refine cS _ _<|Q5 fun _ bM=>?_;refine Zs m fun _ bN=>?_;refine Za rfl<|Zt bN fun a m=>?_;refine Q8<|X03 (σ:=Nat×(List Gt)) (fun (s:Nat×(List Gt)) (a:Act) (w:World)=>match s with|(j,gs)=>∃ aJ aK,Fr a 62 [(1,.pointer (some ⟨b2,0,none⟩)),(2,.pointer (some ⟨b4,0,none⟩)),(3,.pointer (some ⟨b8,0,none⟩)),(4,.string (tx (cw k))),(5,vi (j:Int))]∧(j≤(cw k).length)∧(gs=wdG ((cw k).take j))∧Blk w b2 27 [.string (tx tb),vi (k:Int),vi (p:Int)]∧Blk w b4 43 [vi 0,.slice none 0 0]∧Blk w b8 43 [vi 1,.slice aJ gs.length aK]∧Own w G.heap.size 90 3 encG aJ aK gs∧Below G.heap.size G w) (fun (s:Nat×(List Gt))=>match s with|(j,gs)=>(cw k).length-j) (0,[]) ?_ ?_
 ·exact ⟨none,0,m.sb,(Qf _),rfl,b,e,d,(Own.nil _ _ _ _ _),g⟩
 rintro ⟨j,gs⟩ a w7 ⟨aJ,aK,m,hj,y,b,e,d,q,g⟩
 have dJ:gs.length≤9:=by rw [y];simp [wdG];omega
 refine Q5 fun _ bO=>?_;refine Zs m fun _ bP=>?_;refine Zm rfl<|Zm rfl<|Ze (X9h (s:=(cw k)) rfl Tryz.underlying9)<|Ze (X15 rfl rfl)<|Zt bP fun a m=>?_
 refine Xn m rfl (fun B=>?_) (fun B=>?_)
 ·have aT:=B;have B:=Q2 B
  obtain ⟨dK,dB⟩:=Xv (l:=(cw k)) (k:=j) (by omega)
  obtain ⟨u7,aB⟩:=Xv (l:=cw k) (k:=j) (by have:=B;omega)
  refine Q7<|bO _ _<|Q5 fun _ aN=>?_;refine Q8<|Zs m fun _ bQ=>?_;refine Za rfl<|ZX bQ fun a m _ aO=>?_;refine Zs m fun _ bR=>?_;refine Zm rfl<|Zm rfl<|Ze (X88 (s:=(cw k)) (k:=j) (u:=u7) rfl rfl Tryz.underlying9 rfl aB)<|Ze (X9q rfl rfl)<|Zt bR fun a m=>?_
  refine Xn m rfl (fun J=>?_) (fun J=>?_)
  ·have aU:=J;have aW:=Xev J;refine Zr m<|Za rfl<|Zt aO fun a m=>?_;refine Zr m<|Ze (Vd rfl X1x 1)<|Ze (X0 rfl X5p (d.at 1))<|Zm rfl<|Ze (Xf (ps:=[(0,vi 5)]) (cs:=[vi 5,vi 0,vi 0]) rfl (fun _=>by first|rfl|kernel_rfl))<|Zf (Xc (k:=1) (vs:=[.agg #[vi 5,vi 0,vi 0]]) (zs:=[vi 5,vi 0,vi 0]) rfl X1o X19 rfl rfl) ?_;rintro _ w8 ⟨dL,rfl,aP,n,aC⟩;have cV:=Q0 g.size aP;have Q:=q.away aP;have b:=b.below n;have e:=e.below n;have d:=d.below n;have q:=q.below n;have g:=btr g n;refine Zf (X0m (enc:=encG) (l:=(gs)) (l2:=([(⟨5,0,0⟩ : Gt)])) (B0:=G.heap.size) rfl rfl X1o X19 X1b X2g q (Rd.of_blk aC rfl _ aC.lt) (by simp only [maxLen];simp;omega) (by simp;omega) g.size) ?_;rintro _ w9 ⟨aX,aY,rfl,aD,y,H⟩
   have f:Own _ G.heap.size 90 3 encG _ _ (gs):=q
   have bG:=H _ aC.lt Q;clear H;have b:=b.appT f y rfl;have e:=e.appT f y rfl;have d:=d.appT f y rfl;have g:=Below.app g f y (Qb _) g.size;clear f y;refine Ze (Vd rfl X1x 1)<|Zo (Vu (vs:=[.slice aX (gs++([(⟨5,0,0⟩ : Gt)])).length aY]) (l':=[vi 1,.slice aX (gs++([(⟨5,0,0⟩ : Gt)])).length aY]) rfl rfl Xam d) ?_;rintro _ dM ⟨h,hb⟩;have o:=d;have b:=b.only h (Blk.ne b o rfl);have e:=e.only h (by omega);have aD:=aD.onlyT h o rfl;have g:=Below.only g h I;have d:=hb;refine Zn fun a m=>?_;refine Xo<|aN _ _<|Zr m<|Zm rfl<|Ze (X05 rfl rfl (by omega) (by omega))<|Za rfl ?_;refine Zn fun a m=>?_;refine Xk ?_;exact ⟨(j+1,gs++([(⟨5,0,0⟩ : Gt)])),⟨aX,aY,m.sb,(by omega),(by rw [y,X69 aB,aW]),b,e,d,aD,g⟩,(by first|omega|(dsimp only;omega))⟩
  have aU:=J;have aW:=Xeu J;refine Q7<|aO _ _<|Zr m<|Ze (Vd rfl X1x 1)<|Ze (X0 rfl X5p (d.at 1))<|Zm rfl<|Ze (Xf (ps:=[(0,vi 1)]) (cs:=[vi 1,vi 0,vi 0]) rfl (fun _=>by first|rfl|kernel_rfl))<|Zf (Xc (k:=1) (vs:=[.agg #[vi 1,vi 0,vi 0]]) (zs:=[vi 1,vi 0,vi 0]) rfl X1o X19 rfl rfl) ?_;rintro _ dN ⟨dP,rfl,aQ,n,aE⟩;have cW:=Q0 g.size aQ;have U:=q.away aQ;have b:=b.below n;have e:=e.below n;have d:=d.below n;have q:=q.below n;have g:=btr g n;refine Zf (X0m (enc:=encG) (l:=(gs)) (l2:=([(⟨1,0,0⟩ : Gt)])) (B0:=G.heap.size) rfl rfl X1o X19 X1b X2g q (Rd.of_blk aE rfl _ aE.lt) (by simp only [maxLen];simp;omega) (by simp;omega) g.size) ?_;rintro _ dQ ⟨aZ,b0,rfl,aF,y,H⟩
  have f:Own _ G.heap.size 90 3 encG _ _ (gs):=q
  have bH:=H _ aE.lt U;clear H;have b:=b.appT f y rfl;have e:=e.appT f y rfl;have d:=d.appT f y rfl;have g:=Below.app g f y (Qb _) g.size;clear f y;refine Ze (Vd rfl X1x 1)<|Zo (Vu (vs:=[.slice aZ (gs++([(⟨1,0,0⟩ : Gt)])).length b0]) (l':=[vi 1,.slice aZ (gs++([(⟨1,0,0⟩ : Gt)])).length b0]) rfl rfl Xam d) ?_;rintro _ dR ⟨h,hb⟩;have o:=d;have b:=b.only h (Blk.ne b o rfl);have e:=e.only h (by omega);have aF:=aF.onlyT h o rfl;have g:=Below.only g h I;have d:=hb;refine Zn fun a m=>?_;refine Xo<|aN _ _<|Zr m<|Zm rfl<|Ze (X05 rfl rfl (by omega) (by omega))<|Za rfl ?_;refine Zn fun a m=>?_;refine Xk ?_;exact ⟨(j+1,gs++([(⟨1,0,0⟩ : Gt)])),⟨aZ,b0,m.sb,(by omega),(by rw [y,X69 aB,aW]),b,e,d,aF,g⟩,(by first|omega|(dsimp only;omega))⟩
 have aT:=B;have B:=Q1 B
 have bS:gs=wdG (cw k):=by rw [y,Qi (by omega)]
 refine Q9<|Xj<|Xj<|X06 ?_;refine bM _ _<|Q5 fun _ bU=>?_;refine Zs m fun _ bW=>?_;refine Ze (Vd rfl X1q 0)<|Ze (X0 rfl X6c (b.at 0))<|Ze (X9h (s:=tb) rfl Tryz.underlying9)<|Ze (X1v rfl rfl (by omega) (by omega))<|Za rfl<|Zt bW fun a m=>?_;refine Q8<|X03 (σ:=Nat×Int×(List Gt)) (fun (s:Nat×Int×(List Gt)) (a:Act) (w:World)=>match s with|(j2,i,z)=>∃ aL aM,Fr a 62 [(1,.pointer (some ⟨b2,0,none⟩)),(2,.pointer (some ⟨b4,0,none⟩)),(3,.pointer (some ⟨b8,0,none⟩)),(7,vi i)]∧(j2≤sl.length)∧(i=(sl.length:Int)-1-(j2:Int))∧(z=fmG k (sl.drop (sl.length-j2)))∧Blk w b2 27 [.string (tx tb),vi (k:Int),vi (p:Int)]∧Blk w b4 43 [vi 0,.slice none 0 0]∧Blk w b8 43 [vi 1,.slice aL z.length aM]∧Own w G.heap.size 90 3 encG aL aM z∧Below G.heap.size G w) (fun (s:Nat×Int×(List Gt))=>match s with|(j2,i,z)=>sl.length-j2) (0,((tb.length:Int)-1),gs) ?_ ?_
 ·exact ⟨aJ,aK,m.sb,(Qf _),(by omega),(by rw [bS,Nat.sub_zero,List.drop_length,Xfq]),b,e,d,q,g⟩
 rintro ⟨j2,i,z⟩ a dS ⟨aL,aM,m,dT,hi,b1,b,e,d,E,g⟩
 have dC:z.length≤126:=by rw [b1];exact X8k L (by rw [List.length_drop];omega)
 refine Q5 fun _ bZ=>?_;refine Zs m fun _ cA=>?_;refine Zm rfl<|Ze (Xhh rfl rfl)<|Zt cA fun a m=>?_
 refine Xn m rfl (fun t=>?_) (fun t=>?_)
 ·have b3:=t;have t:=Q2 t
  obtain ⟨s,cX,d5,d6⟩:=Xjp (sl:=sl) (j:=j2) (by have:=t;omega)
  have aB:=Xl3 bJ cX;have dU:=X53 s;refine Q7<|bZ _ _<|Q5 fun _ cB=>?_;refine Q8<|X08 none (fun j=>[7,9].contains j) mixed ?_;intro dW n;have b:=b.below n;have e:=e.below n;have d:=d.below n;have E:=E.below n;have g:=btr g n;refine Yb m<|Yo 0 rfl (fun _=>Vd rfl X1x 1)<|Ye 1 rfl (X0 rfl X5p (d.at 1))<|Yo 2 rfl (fun _=>Vd rfl X1q 0)<|Ye 3 rfl (X0 rfl X6c (b.at 0))<|Yo 4 rfl (fun _=>Xd rfl)<|Yo 5 rfl (fun _=>X88 (s:=tb) (k:=(sl.length-1-j2)) (u:=(sylT s)) rfl rfl Tryz.underlying9 (by omega) aB)<|Y1 6 ?_;refine Yk rfl trivial (Vc (Xpn _ (sylT s) s (cK s d5) rfl) Xg9) (fun _ _ ⟨d7,d8,_,N,n⟩=>n) ?_;rintro _ dX ⟨d7,d8,rfl,N,n⟩;have N:=N.lower g.size;have b:=b.below n;have e:=e.below n;have d:=d.below n;have E:=E.below n;have g:=btr g n;refine Y1 7<|Yt rfl trivial rfl (X0m (enc:=encG) (l:=(z)) (l2:=((sylG s))) (B0:=G.heap.size) rfl rfl X1o X19 X1b X2g E N.rd (by simp only [maxLen];omega) (by omega) g.size) ?_;rintro _ dY ⟨b5,b6,rfl,aG,y,H⟩
  have f:Own _ G.heap.size 90 3 encG _ _ (z):=E
  clear H;have b:=b.appT f y rfl;have e:=e.appT f y rfl;have d:=d.appT f y rfl;have g:=Below.app g f y (Qb _) g.size;clear f y;refine Yo 8 rfl (fun _=>Vd rfl X1x 1)<|Y1 9 ?_;refine Yh rfl trivial rfl (Vu (vs:=[.slice b5 (z++(sylG s)).length b6]) (l':=[vi 1,.slice b5 (z++(sylG s)).length b6]) rfl rfl Xam d) ?_;rintro _ e7 ⟨h,hb⟩;have o:=d;have b:=b.only h (Blk.ne b o rfl);have e:=e.only h (by omega);have aG:=aG.onlyT h o rfl;have g:=Below.only g h I;have d:=hb;refine Yd fun a m=>?_;refine Xo<|cB _ _<|Zr m<|Zm rfl<|Ze (X1v rfl rfl (by omega) (by omega))<|Za rfl ?_;refine Zn fun a m=>?_;refine Xk ?_;exact ⟨(j2+1,(i-1),z++(sylG s)),⟨b5,b6,m.sb,(by omega),(by omega),(by rw [b1,d6,Xdk]),b,e,d,aG,g⟩,(by first|omega|(dsimp only;omega))⟩
 have b3:=t;have t:=Q1 t
 have b7:z=fmG k sl:=by rw [b1,show sl.length-j2=0 from by have:=t;omega,List.drop_zero]
 refine Q9<|Xj<|Xj<|X06 ?_;refine bU _ _<|Q5 fun _ cC=>?_;refine Zs m fun _ cD=>?_;refine Za rfl<|Zt cD fun a m=>?_;refine Q8<|X03 (σ:=Nat×(List Gt)) (fun (s:Nat×(List Gt)) (a:Act) (w:World)=>match s with|(j3,x)=>∃ W a9,Fr a 62 [(1,.pointer (some ⟨b2,0,none⟩)),(2,.pointer (some ⟨b4,0,none⟩)),(3,.pointer (some ⟨b8,0,none⟩)),(8,vi (j3:Int))]∧(j3≤p)∧(x=fmW k sl j3)∧Blk w b2 27 [.string (tx tb),vi (k:Int),vi (p:Int)]∧Blk w b4 43 [vi 0,.slice none 0 0]∧Blk w b8 43 [vi 1,.slice W x.length a9]∧Own w G.heap.size 90 3 encG W a9 x∧Below G.heap.size G w) (fun (s:Nat×(List Gt))=>match s with|(j3,x)=>p-j3) (0,z) ?_ ?_
 ·exact ⟨aL,aM,m.sb,(Qf _),(by rw [Xdt,b7]),b,e,d,E,g⟩
 rintro ⟨j3,x⟩ a e8 ⟨W,a9,m,eA,b9,b,e,d,C,g⟩
 have dD:x.length≤126+j3:=by rw [b9];exact Xmc L bK j3
 refine Q5 fun _ cE=>?_;refine Zs m fun _ cF=>?_;refine Zm rfl<|Ze (Vd rfl X38 2)<|Ze (X0 rfl X7 (b.at 2))<|Ze (X15 rfl rfl)<|Zt cF fun a m=>?_
 refine Xn m rfl (fun D=>?_) (fun D=>?_)
 ·have bC:=D;have D:=Q2 D;refine Q7<|cE _ _<|Q5 fun _ cG=>?_;refine Q8<|Zr m<|Ze (Vd rfl X1x 1)<|Ze (X0 rfl X5p (d.at 1))<|Ze (Xf (ps:=[(0,vi 12)]) (cs:=[vi 12,vi 0,vi 0]) rfl (fun _=>by first|rfl|kernel_rfl))<|Zf (Xc (k:=1) (vs:=[.agg #[vi 12,vi 0,vi 0]]) (zs:=[vi 12,vi 0,vi 0]) rfl X1o X19 rfl rfl) ?_;rintro _ eB ⟨eC,rfl,aR,n,aH⟩;have d9:=Q0 g.size aR;have aA:=C.away aR;have b:=b.below n;have e:=e.below n;have d:=d.below n;have C:=C.below n;have g:=btr g n;refine Zf (X0m (enc:=encG) (l:=(x)) (l2:=([(⟨12,0,0⟩ : Gt)])) (B0:=G.heap.size) rfl rfl X1o X19 X1b X2g C (Rd.of_blk aH rfl _ aH.lt) (by simp only [maxLen];simp;omega) (by simp;omega) g.size) ?_;rintro _ eD ⟨bD,bE,rfl,aI,y,H⟩
  have f:Own _ G.heap.size 90 3 encG _ _ (x):=C
  have bI:=H _ aH.lt aA;clear H;have b:=b.appT f y rfl;have e:=e.appT f y rfl;have d:=d.appT f y rfl;have g:=Below.app g f y (Qb _) g.size;clear f y;refine Ze (Vd rfl X1x 1)<|Zo (Vu (vs:=[.slice bD (x++([(⟨12,0,0⟩ : Gt)])).length bE]) (l':=[vi 1,.slice bD (x++([(⟨12,0,0⟩ : Gt)])).length bE]) rfl rfl Xam d) ?_;rintro _ eE ⟨h,hb⟩;have o:=d;have b:=b.only h (Blk.ne b o rfl);have e:=e.only h (by omega);have aI:=aI.onlyT h o rfl;have g:=Below.only g h I;have d:=hb;refine Zn fun a m=>?_;refine Xo<|cG _ _<|Zr m<|Zm rfl<|Ze (X05 rfl rfl (by omega) (by omega))<|Za rfl ?_;refine Zn fun a m=>?_;refine Xk ?_;exact ⟨(j3+1,x++([(⟨12,0,0⟩ : Gt)])),⟨bD,bE,m.sb,(by omega),(by rw [b9,Xko]),b,e,d,aI,g⟩,(by first|omega|(dsimp only;omega))⟩
 have bC:=D;have D:=Q1 D
 have bF:x=fmW k sl p:=by rw [b9,show j3=p from by have:=D;omega]
 refine Q9<|Xj<|Xj<|X06 ?_;refine cC _ _<|Zs m fun _ cH=>?_;refine Ze (Vn Xae d)<|Zo (Vw [vi 1,.slice W x.length a9] Xl5 e) ?_;rintro _ eF ⟨h,hb⟩;have o:=e;have C:=C.onlyT h o rfl;have g:=Below.only g h bL;have e:=hb;refine Zt cH fun a m=>?_
 refine Q6 (X4 m (Xx m rfl (ResV.cellN (l:=[vi 1,.slice W x.length a9]) rfl Xae (e.at 0) rfl)) ?_)
 subst bF
 exact ⟨W,a9,rfl,C,g⟩
theorem Xuo(w0:World)(Am:Option Addr)(cm:Nat)(m:Mx)(b0:Rd w0 w0.heap.size 86 encD Am m.cells)(dG:oneQ m=true) : Ret Tryz.prog 31 [.agg #[vi m.rows,vi m.cols,.slice Am m.cells.length cm]] w0 (fun v w=>v=.tuple #[.agg #[.string (tx (nfs m)),vi (nfk m:Int),vi (nfp m:Int)],.bool (nfM m).isSome]∧Below w0.heap.size w0 w):=by
 have bQ:=Xkr m;refine enter Tryz.func31 rfl 68 rfl rfl ?_;intro a A
 have x:=bz w0
 refine Zs A fun _ dH=>?_;refine Zf (X09 (zs:=[vi m.rows,vi m.cols,.slice Am m.cells.length cm]) rfl rfl) ?_;rintro _ w1 ⟨b3,rfl,dI,d,f⟩;have eC:=Q0 x.size dI;have x:=btr x d;refine Zf (X5 (zs:=[.string (tx []),vi 0,vi 0]) X5w rfl) ?_;rintro _ w2 ⟨b4,rfl,dJ,d,e⟩;have b1:=Q0 x.size dJ;have f:=f.below d;have x:=btr x d;refine Za rfl<|Zx dH fun a A _ dK=>?_;refine Ze (Vn Xp f)<|Zf (Vc (Xfg _ m Am cm (b0.below' x).top dG) X8c) ?_;rintro _ w3 ⟨A6,c6,rfl,H,d⟩;have H:=H.lower x.size;have f:=f.below d;have e:=e.below d;have x:=btr x d;refine Zm rfl<|Ze (X1 (vs:=[.agg #[.slice A6 ((blochI m).getD []).length c6],.bool ((blochI m).isSome)]) rfl rfl)<|Ze (X1 (vs:=[.agg #[.slice A6 ((blochI m).getD []).length c6],.bool ((blochI m).isSome)]) rfl rfl)<|Zf (X5 (zs:=[.slice none 0 0]) X1z rfl) ?_;rintro _ w4 ⟨b8,rfl,dL,d,o⟩;have b2:=Q0 x.size dL;have f:=f.below d;have e:=e.below d;have H:=H.below d;have x:=btr x d;refine Zo (Vw [.slice A6 ((blochI m).getD []).length c6] X1d o) ?_;rintro _ w5 ⟨z,hb⟩;have c:=o;have f:=f.only z (Blk.ne f c rfl);have e:=e.only z (Blk.ne e c rfl);have H:=H.onlyT z c rfl;have x:=Below.only x z b2;have o:=hb;refine Za rfl<|ZX dK fun a A _ dM=>?_;refine Q5 fun _ bR=>?_;refine X0e (fun a w=>Fr a 68 [(1,.pointer (some ⟨b3,0,none⟩)),(2,.pointer (some ⟨b4,0,none⟩)),(4,.pointer (some ⟨b8,0,none⟩)),(22,.bool ((!((blochI m).isSome))||(decide (40<(bexp ((blochI m).getD []))))))]∧Below w5.heap.size w5 w) ?_ ?_
 ·have aZ:Below w5.heap.size w5 w5:=Below.refl _ _
  refine Zr A<|Zm rfl<|Ze (X0u rfl)<|Zm rfl ?_
  refine Zg 18 rfl (fun C=>?_) (fun C=>?_)
  ·refine Zp (gP C) ?_;refine Zp (gP C) ?_;refine Zp (gP C) ?_;refine Ze (Xi rfl C rfl) ?_;refine Zn fun a A=>?_
   have b9:Below w5.heap.size w5 w5:=aZ
   exact ⟨A.sub ⟨rfl,rfl,rfl,X2 rfl (by first|rfl|(simp only [C,bs];done)|simp [C]),trivial⟩,b9⟩
  refine Zv (gW C) (Vn X13 o) ?_;refine Zk (gW C) (Vc (Xfd _ A6 c6 ((blochI m).getD []) H.rd.top bQ) X91) ?_;rintro _ w6 ⟨rfl,d⟩;have x:=btr x d;have aZ:=btr aZ d;refine Zv (gW C) (Xa5 rfl rfl) ?_;refine Ze (Xe rfl C rfl) ?_;refine Zn fun a A=>?_
  have b9:Below w5.heap.size w5 w6:=aZ
  exact ⟨A.sub ⟨rfl,rfl,rfl,X2 rfl (by first|rfl|(simp only [C,bs];done)|simp [C]),trivial⟩,b9⟩
 rintro a w7 ⟨A,d⟩;have f:=f.below d;have e:=e.below d;have o:=o.below d;have H:=H.below d;have x:=btr x d;refine bR _ _ ?_
 refine Xn A rfl (fun aF=>?_) (fun aF=>?_)
 ·have aJ:=aF;have hN:=nfN aF;refine Zs A fun _ bS=>?_;refine Ze (Xf (ps:=[]) (cs:=[.string (tx []),vi 0,vi 0]) rfl (fun _=>by first|rfl|kernel_rfl))<|Zo (Vw [.string (tx []),vi 0,vi 0] X35 e) ?_;rintro _ w8 ⟨z,hb⟩;have c:=e;have x:=Below.only x z b1;have e:=hb;refine Za rfl<|Zt bS fun a A=>?_;refine Q6<|Xa<|X4 A (X0z A rfl (ResV.cellN (l:=[.string (tx []),vi 0,vi 0]) rfl X25 (e.at 0) rfl) rfl) ?_;exact ⟨by rw [hN.s,hN.k,hN.p,hN.n];rfl,x⟩
 have aJ:=aF;obtain ⟨bU,aR⟩:=Xkf aF;have hR:=nfR bU aR;have hY:=nfY bU aR;have Q:=X26 ((blochI m).getD []);refine Q7<|dM _ _<|Zs A fun _ bW=>?_;refine Ze (Xf (ps:=[]) (cs:=[.string (tx []),vi 0,vi 0]) rfl (fun _=>by first|rfl|kernel_rfl))<|Zf (X5 (zs:=[.string (tx []),vi 0,vi 0]) X5w rfl) ?_;rintro _ w9 ⟨b15,rfl,bZ,d,b⟩
 have cA:b4≠b15:=by have:=e.lt;omega
 have aE:=Q0 x.size bZ;have f:=f.below d;have e:=e.below d;have o:=o.below d;have H:=H.below d;have x:=btr x d;refine Zo (Vw [.string (tx []),vi 0,vi 0] X35 b) ?_;rintro _ eF ⟨z,hb⟩;have c:=b;have f:=f.only z (Blk.ne f c rfl);have e:=e.only z (by omega);have o:=o.only z (Blk.ne o c rfl);have H:=H.onlyT z c rfl;have x:=Below.only x z aE;have b:=hb;refine Zx bW fun a A _ cB=>?_;refine Ze (Xf (ps:=[]) (cs:=[.bool false]) rfl (fun _=>by first|rfl|kernel_rfl))<|Zf (X09 (zs:=[.bool false]) rfl rfl) ?_;rintro _ eH ⟨a9,rfl,cC,d,g⟩;have aK:=Q0 x.size cC;have f:=f.below d;have e:=e.below d;have o:=o.below d;have b:=b.below d;have H:=H.below d;have x:=btr x d;refine Za rfl<|ZX cB fun a A _ cD=>?_;refine Q8<|X03 (σ:=Nat×(List Dy)×(List UInt8)) (fun (s:Nat×(List Dy)×(List UInt8)) (a:Act) (w:World)=>match s with|(n,lc,tb)=>∃ I J,Fr a 68 [(1,.pointer (some ⟨b3,0,none⟩)),(2,.pointer (some ⟨b4,0,none⟩)),(4,.pointer (some ⟨b8,0,none⟩)),(6,.pointer (some ⟨b15,0,none⟩)),(7,.pointer (some ⟨a9,0,none⟩))]∧((n:Int)≤bexp ((blochI m).getD []))∧(lc=(stN ((blochI m).getD []) n).2)∧(tb=(stN ((blochI m).getD []) n).1.map sylT)∧Blk w b3 32 [vi m.rows,vi m.cols,.slice Am m.cells.length cm]∧Blk w b4 27 [.string (tx []),vi 0,vi 0]∧Blk w b8 66 [.slice I lc.length J]∧Blk w b15 27 [.string (tx tb),vi 0,vi 0]∧Blk w a9 95 [.bool false]∧Own w w0.heap.size 86 5 encD I J lc∧Below w0.heap.size w0 w) (fun (s:Nat×(List Dy)×(List UInt8))=>match s with|(n,lc,tb)=>(bexp ((blochI m).getD [])).toNat-n) (0,((blochI m).getD []),[]) ?_ ?_
 ·exact ⟨A6,c6,A.sb,(by omega),rfl,rfl,f,e,o,b,g,H,x⟩
 rintro ⟨n,lc,tb⟩ a eI ⟨I,J,A,hn,aS,bC,f,e,o,b,g,t,x⟩;obtain ⟨dN,dP,dQ,eJ⟩:=X4b hR.gd aR n hn
 have E:Gd lc:=by rw [aS];exact dN
 have eK:bexp lc=bexp ((blochI m).getD [])-(n:Int):=by rw [aS];exact dP
 have eL:tb.length=n:=by rw [bC,Qo];exact dQ
 refine Q5 fun _ cE=>?_;refine Zs A fun _ cF=>?_;refine Ze (Vn X13 o)<|Zf (Vc (Xfd _ I J lc t.rd.top (Nat.le_of_eq E.nine.1)) X91) ?_;rintro _ eM ⟨rfl,d⟩;have f:=f.below d;have e:=e.below d;have o:=o.below d;have b:=b.below d;have g:=g.below d;have t:=t.below d;have x:=btr x d;refine Ze (Xa5 rfl rfl)<|Zt cF fun a A=>?_
 refine Xn A rfl (fun L=>?_) (fun L=>?_)
 ·have aL:=L;have L:=Q2 L
  have dR:0<bexp lc:=L
  have b5:bexp lc≤40:=by omega
  refine Q7<|cE _ _<|Q8<|Zs A fun _ cG=>?_;refine Za rfl<|Zt cG fun a A=>?_;refine Q8<|X03 (σ:=Nat) (fun (i:Nat) (a:Act) (w:World)=>Fr a 68 [(1,.pointer (some ⟨b3,0,none⟩)),(2,.pointer (some ⟨b4,0,none⟩)),(4,.pointer (some ⟨b8,0,none⟩)),(6,.pointer (some ⟨b15,0,none⟩)),(7,.pointer (some ⟨a9,0,none⟩)),(8,vi (i:Int))]∧(i≤3)∧(∀ j,j<i→∀ r,mulBI (bkC j) lc=some r→bexp r≠bexp lc-1)∧Blk w b3 32 [vi m.rows,vi m.cols,.slice Am m.cells.length cm]∧Blk w b4 27 [.string (tx []),vi 0,vi 0]∧Blk w b8 66 [.slice I lc.length J]∧Blk w b15 27 [.string (tx tb),vi 0,vi 0]∧Blk w a9 95 [.bool false]∧Own w w0.heap.size 86 5 encD I J lc∧Below w0.heap.size w0 w) (fun (i:Nat)=>3-i) 0 ?_ ?_
  ·exact ⟨A.sb,(by omega),(fun j hj=>by omega),f,e,o,b,g,t,x⟩
  rintro i a eO ⟨A,hi,bD,f,e,o,b,g,t,x⟩;refine Q5 fun _ cH=>?_;refine Zs A fun _ cJ=>?_;refine Zm rfl<|Ze (X15 rfl rfl)<|Zt cJ fun a A=>?_
  refine Xn A rfl (fun M=>?_) (fun M=>?_)
  ·have aM:=M;have M:=Q2 M
   have D:i<3:=by have:=M;omega
   obtain ⟨r,aQ,dS⟩:=X8i E b5 D;have eD:=X26 r;have eE:=Xie E D aQ;refine Q7<|cH _ _<|Q5 fun _ cK=>?_;refine Q8<|Zs A fun _ cM=>?_;refine Zm rfl<|Ze (X88 (s:=[84,72,83]) (k:=i) (u:=(sylT i)) rfl rfl Tryz.underlying9 rfl (Xno D))<|Za rfl<|ZX cM fun a A _ cO=>?_;refine X0e (fun a w=>∃ b33 aA aB,Fr a 68 [(1,.pointer (some ⟨b3,0,none⟩)),(2,.pointer (some ⟨b4,0,none⟩)),(4,.pointer (some ⟨b8,0,none⟩)),(6,.pointer (some ⟨b15,0,none⟩)),(7,.pointer (some ⟨a9,0,none⟩)),(8,vi (i:Int)),(9,.int .u8 ((sylT i).toNat:Int)),(10,.pointer (some ⟨b33,0,none⟩))]∧w0.heap.size≤b33∧Blk w b33 66 [.slice aA r.length aB]∧b8≠b33∧Own w w0.heap.size 86 5 encD aA aB r∧Blk w b3 32 [vi m.rows,vi m.cols,.slice Am m.cells.length cm]∧Blk w b4 27 [.string (tx []),vi 0,vi 0]∧Blk w b8 66 [.slice I lc.length J]∧Blk w b15 27 [.string (tx tb),vi 0,vi 0]∧Blk w a9 95 [.bool false]∧Own w w0.heap.size 86 5 encD I J lc∧Below w0.heap.size w0 w) ?_ ?_
   ·refine X08 (some a9) (fun j=>[6].contains j) mixed ?_;intro eP d;have f:=f.below d;have e:=e.below d;have o:=o.below d;have b:=b.below d;have g:=g.below d;have t:=t.below d;have x:=btr x d;refine Yb A<|Yo 0 rfl (fun _=>Xd rfl)<|Yo 1 rfl (fun _=>Xd rfl) ?_;refine Yw 3 rfl trivial (fun w1 h1=>Xy (l:=[.slice I lc.length J]) rfl X13 ((o.only h1 (Blk.ne o g rfl)).at 0) rfl) ?_;refine Y2 2 5 ?_ ?_
    ·refine Yf rfl trivial (EfW.mono (Vc (Xpz _ (sylT i) i D rfl) Xgi) (fun _ _ h=>⟨fun _=>by obtain ⟨bE,bF,rfl,W,d⟩:=h;exact Keep.of_below d,h⟩)) ?_;rintro _ eQ ⟨bE,bF,rfl,W,d⟩;have W:=W.lower x.size;have f:=f.below d;have e:=e.below d;have o:=o.below d;have b:=b.below d;have g:=g.below d;have t:=t.below d;have x:=btr x d;refine Y2 4 5 ?_ ?_
     ·refine Yf rfl trivial (EfW.mono (Vc (Xij _ a9 g bE bF (bkC i) W.rd.top I J lc t.rd.top (X3l E D).1 (X3l E D).2.1 (X3l E D).2.2.1 (X3l E D).2.2.2 r aQ) Xbe) (fun _ _ h=>⟨fun _=>by obtain ⟨aA,aB,rfl,y,hK,Q⟩:=h;exact hK.keep,h⟩)) ?_;rintro _ eR ⟨aA,aB,rfl,y,hK,Q⟩;have aG:=x.size;obtain ⟨wm,U,hm,d⟩:=hK.mid;clear hm;have c:=g;have f:=f.only U (Blk.ne f c rfl);have e:=e.only U (Blk.ne e c rfl);have o:=o.only U (Blk.ne o c rfl);have b:=b.only U (Blk.ne b c rfl);have t:=t.onlyT U c rfl;have x:=Below.only x U aK;have f:=f.below d;have e:=e.below d;have o:=o.below d;have b:=b.below d;have t:=t.below d;have x:=btr x d
      clear c d U hK;have g:=Q;clear Q
      have y:=y.lower aG;clear aG;refine Y1 5<|Yf rfl trivial (EfW.mono (X5 (zs:=[.slice none 0 0]) X1z rfl) (fun _ _ h=>⟨fun _=>by obtain ⟨_,_,_,d,_⟩:=h;exact Keep.of_below d,h⟩)) ?_;rintro _ eS ⟨b33,rfl,cP,d,B⟩
      have aH:b8≠b33:=by have:=o.lt;omega
      have aN:=Q0 x.size cP;have f:=f.below d;have e:=e.below d;have o:=o.below d;have b:=b.below d;have g:=g.below d;have t:=t.below d;have y:=y.below d;have x:=btr x d;refine Y1 6<|Yh rfl trivial rfl (Vw [.slice aA r.length aB] X1d B) ?_;rintro _ eT ⟨z,hb⟩;have c:=B;have f:=f.only z (Blk.ne f c rfl);have e:=e.only z (Blk.ne e c rfl);have o:=o.only z (by omega);have b:=b.only z (Blk.ne b c rfl);have g:=g.only z (Blk.ne g c rfl);have t:=t.onlyT z c rfl;have y:=y.onlyT z c rfl;have x:=Below.only x z aN;have B:=hb;refine Yd fun a A=>?_;exact ⟨b33,aA,aB,A.sb,aN,B,aH,y,f,e,o,b,g,t,x⟩
     refine Yf rfl trivial (EfW.mono (X5 (zs:=[.slice none 0 0]) X1z rfl) (fun _ _ h=>⟨fun _=>by obtain ⟨_,_,_,d,_⟩:=h;exact Keep.of_below d,h⟩)) ?_;rintro _ eU ⟨b35,rfl,cQ,d,N⟩
     have aT:b8≠b35:=by have:=o.lt;omega
     have aU:=Q0 x.size cQ;have f:=f.below d;have e:=e.below d;have o:=o.below d;have b:=b.below d;have g:=g.below d;have t:=t.below d;have W:=W.below d;have x:=btr x d;refine Y1 4<|Yf rfl trivial (EfW.mono (Vc (Xij _ a9 g bE bF (bkC i) W.rd.top I J lc t.rd.top (X3l E D).1 (X3l E D).2.1 (X3l E D).2.2.1 (X3l E D).2.2.2 r aQ) Xbe) (fun _ _ h=>⟨fun _=>by obtain ⟨bG,bH,rfl,aC,hK,Q⟩:=h;exact hK.keep,h⟩)) ?_;rintro _ eV ⟨bG,bH,rfl,aC,hK,Q⟩;have aG:=x.size;obtain ⟨wm,U,hm,d⟩:=hK.mid;clear hm;have c:=g;have f:=f.only U (Blk.ne f c rfl);have e:=e.only U (Blk.ne e c rfl);have o:=o.only U (Blk.ne o c rfl);have b:=b.only U (Blk.ne b c rfl);have N:=N.only U (Blk.ne N c rfl);have t:=t.onlyT U c rfl;have x:=Below.only x U aK;have f:=f.below d;have e:=e.below d;have o:=o.below d;have b:=b.below d;have N:=N.below d;have t:=t.below d;have x:=btr x d
     clear c d U hK;have g:=Q;clear Q
     have aC:=aC.lower aG;clear aG;refine Y1 6<|Yh rfl trivial rfl (Vw [.slice bG r.length bH] X1d N) ?_;rintro _ eW ⟨z,hb⟩;have c:=N;have f:=f.only z (Blk.ne f c rfl);have e:=e.only z (Blk.ne e c rfl);have o:=o.only z (by omega);have b:=b.only z (Blk.ne b c rfl);have g:=g.only z (Blk.ne g c rfl);have t:=t.onlyT z c rfl;have aC:=aC.onlyT z c rfl;have x:=Below.only x z aU;have N:=hb;refine Yd fun a A=>?_;exact ⟨b35,bG,bH,A.sub ⟨rfl,rfl,rfl,rfl,rfl,rfl,rfl,(by first|rfl|(simp [look,aJ,aL,aM])),trivial⟩,aU,N,aT,aC,f,e,o,b,g,t,x⟩
    refine Yf rfl trivial (EfW.mono (X5 (zs:=[.slice none 0 0]) X1z rfl) (fun _ _ h=>⟨fun _=>by obtain ⟨_,_,_,d,_⟩:=h;exact Keep.of_below d,h⟩)) ?_;rintro _ eX ⟨b38,rfl,cR,d,G⟩
    have aW:b8≠b38:=by have:=o.lt;omega
    have aX:=Q0 x.size cR;have f:=f.below d;have e:=e.below d;have o:=o.below d;have b:=b.below d;have g:=g.below d;have t:=t.below d;have x:=btr x d;refine Y1 2<|Yf rfl trivial (EfW.mono (Vc (Xpz _ (sylT i) i D rfl) Xgi) (fun _ _ h=>⟨fun _=>by obtain ⟨cS,cT,rfl,aO,d⟩:=h;exact Keep.of_below d,h⟩)) ?_;rintro _ eY ⟨cS,cT,rfl,aO,d⟩;have aO:=aO.lower x.size;have f:=f.below d;have e:=e.below d;have o:=o.below d;have b:=b.below d;have g:=g.below d;have G:=G.below d;have t:=t.below d;have x:=btr x d;refine Y1 4<|Yf rfl trivial (EfW.mono (Vc (Xij _ a9 g cS cT (bkC i) aO.rd.top I J lc t.rd.top (X3l E D).1 (X3l E D).2.1 (X3l E D).2.2.1 (X3l E D).2.2.2 r aQ) Xbe) (fun _ _ h=>⟨fun _=>by obtain ⟨bI,bJ,rfl,aD,hK,Q⟩:=h;exact hK.keep,h⟩)) ?_;rintro _ eZ ⟨bI,bJ,rfl,aD,hK,Q⟩;have aG:=x.size;obtain ⟨wm,U,hm,d⟩:=hK.mid;clear hm;have c:=g;have f:=f.only U (Blk.ne f c rfl);have e:=e.only U (Blk.ne e c rfl);have o:=o.only U (Blk.ne o c rfl);have b:=b.only U (Blk.ne b c rfl);have G:=G.only U (Blk.ne G c rfl);have t:=t.onlyT U c rfl;have x:=Below.only x U aK;have f:=f.below d;have e:=e.below d;have o:=o.below d;have b:=b.below d;have G:=G.below d;have t:=t.below d;have x:=btr x d
    clear c d U hK;have g:=Q;clear Q
    have aD:=aD.lower aG;clear aG;refine Y1 6<|Yh rfl trivial rfl (Vw [.slice bI r.length bJ] X1d G) ?_;rintro _ f7 ⟨z,hb⟩;have c:=G;have f:=f.only z (Blk.ne f c rfl);have e:=e.only z (Blk.ne e c rfl);have o:=o.only z (by omega);have b:=b.only z (Blk.ne b c rfl);have g:=g.only z (Blk.ne g c rfl);have t:=t.onlyT z c rfl;have aD:=aD.onlyT z c rfl;have x:=Below.only x z aX;have G:=hb;refine Yd fun a A=>?_;exact ⟨b38,bI,bJ,A.sub ⟨rfl,rfl,rfl,rfl,rfl,rfl,rfl,(by first|rfl|(simp [look,aJ,aL,aM])),trivial⟩,aX,G,aW,aD,f,e,o,b,g,t,x⟩
   rintro a f8 ⟨b33,aA,aB,A,aN,B,aH,y,f,e,o,b,g,t,x⟩;refine cO _ _<|Q5 fun _ cU=>?_;refine X08 none (fun _=>false) mixed ?_;intro f9 d;have f:=f.below d;have e:=e.below d;have o:=o.below d;have b:=b.below d;have g:=g.below d;have B:=B.below d;have t:=t.below d;have y:=y.below d;have x:=btr x d;refine Yb A<|Ye 0 rfl (Vn X13 B)<|Ye 2 rfl (Vn X13 o)<|Y1 1 ?_;refine Yk rfl trivial (Vc (Xfd _ aA aB r y.rd.top (Nat.le_of_eq dS.nine.1)) X91) (fun _ _ ⟨_,d⟩=>d) ?_;rintro _ fA ⟨rfl,d⟩;have f:=f.below d;have e:=e.below d;have o:=o.below d;have b:=b.below d;have g:=g.below d;have B:=B.below d;have t:=t.below d;have y:=y.below d;have x:=btr x d;refine Y1 3<|Yk rfl trivial (Vc (Xfd _ I J lc t.rd.top (Nat.le_of_eq E.nine.1)) X91) (fun _ _ ⟨_,d⟩=>d) ?_;rintro _ fB ⟨rfl,d⟩;have f:=f.below d;have e:=e.below d;have o:=o.below d;have b:=b.below d;have g:=g.below d;have B:=B.below d;have t:=t.below d;have y:=y.below d;have x:=btr x d;refine Yo 4 rfl (fun _=>X1v rfl rfl (by omega) (by omega))<|Yo 5 rfl (fun _=>X1c rfl rfl) ?_;refine Yd fun a A=>?_;refine cU _ _ ?_
   refine Xn A rfl (fun aI=>?_) (fun aI=>?_)
   ·have bK:=aI
    have cV:=Xde D bD aQ (by have h9:=aI;simpa using h9)
    refine Zs A fun _ cW=>?_;refine Ze (Vd rfl X1q 0)<|Ze (X0 rfl X6c (b.at 0))<|Zm rfl<|Zf (Xc (k:=1) (vs:=[.int .u8 ((sylT i).toNat:Int)]) (zs:=[.int .u8 ((sylT i).toNat:Int)]) rfl Xpd Xwu rfl rfl) ?_;rintro _ fC ⟨fD,rfl,cX,d,d5⟩;have dT:=Q0 x.size cX;have f:=f.below d;have e:=e.below d;have o:=o.below d;have b:=b.below d;have g:=g.below d;have B:=B.below d;have y:=y.below d;have x:=btr x d;refine Ze (Xtu (u:=(sylT i)) rfl Tryz.underlying50 Tryz.underlying5 Tryz.underlying9 d5)<|Ze (Xco (s:=tb) (r:=[(sylT i)]) rfl rfl (by simp;omega))<|Ze (Vd rfl X1q 0)<|Zo (Vu (vs:=[.string (tx (tb++[(sylT i)]))]) (l':=[.string (tx (tb++[(sylT i)])),vi 0,vi 0]) rfl rfl Xeq b) ?_;rintro _ fE ⟨z,hb⟩;have c:=b;have f:=f.only z (Blk.ne f c rfl);have e:=e.only z (by omega);have o:=o.only z (Blk.ne o c rfl);have g:=g.only z (Blk.ne g c rfl);have B:=B.only z (Blk.ne B c rfl);have y:=y.onlyT z c rfl;have x:=Below.only x z aE;have b:=hb;refine Zx cW fun a A _ d6=>?_;refine Ze (Vn X13 B)<|Zo (Vw [.slice aA r.length aB] X1d o) ?_;rintro _ fF ⟨z,hb⟩;have c:=o;have f:=f.only z (Blk.ne f c rfl);have e:=e.only z (Blk.ne e c rfl);have b:=b.only z (Blk.ne b c rfl);have g:=g.only z (Blk.ne g c rfl);have y:=y.onlyT z c rfl;have x:=Below.only x z b2;have o:=hb;refine Zt d6 fun a A=>?_;refine Q9<|Xod rfl ?_;refine Xj<|Xj<|X06<|Xo ?_;refine Xk ?_;exact ⟨(n+1,r,(tb++[sylT i])),⟨aA,aB,A.sb,(by omega),(by rw [X3i (by rw [← aS];exact cV)]),(by rw [X3i (by rw [← aS];exact cV),List.map_append,bC];rfl),f,e,o,b,g,y,x⟩,(by first|omega|(dsimp only;omega))⟩
   have bK:=aI
   have dU:bexp r≠bexp lc-1:=by have h9:=aI;simpa using h9
   refine Q7<|Xo<|cK _ _<|Zr A ?_;refine Zm rfl<|Ze (X05 rfl rfl (by omega) (by omega))<|Za rfl ?_;refine Zn fun a A=>?_;refine Xk ?_;exact ⟨i+1,⟨A.sb,(by omega),(Xgs bD aQ dU),f,e,o,b,g,t,x⟩,(by omega)⟩
  have aM:=M;have M:=Q1 M
  have D:i=3:=by have:=M;omega
  obtain ⟨q,r,fG,dW,dX⟩:=X95 E dR b5;exact (bD q (by omega) r dW dX).elim
 have aL:=L;have L:=Q1 L
 have d7:n=(bexp ((blochI m).getD [])).toNat:=by have:=L;omega
 have d8:lc=nfL ((blochI m).getD []):=by rw [aS,d7];rfl
 have b6:tb=(nfS ((blochI m).getD [])).map sylT:=by rw [bC,d7];rfl
 obtain ⟨d9,dA⟩:=Xbj hR.gd aR
 have dY:lc=clB (clX (nfL ((blochI m).getD []))):=d8.trans dA
 obtain ⟨fH,dB⟩:=X8j hR.gd aR
 have bL:(nfS ((blochI m).getD [])).length≤40:=by omega
 have aY:opI ⟨1,fmG (clX (nfL ((blochI m).getD []))) (nfS ((blochI m).getD []))⟩=some (nfW ((blochI m).getD [])):=hR.op
 refine Q9<|Xj<|Xj<|X06 ?_;refine cD _ _<|Zs A fun _ dC=>?_;refine Ze (Vn X13 o)<|Zf (Vc (Xvx _ I J lc t.rd.top (clX (nfL ((blochI m).getD []))) d9 dY) Xmm) ?_;rintro _ fI ⟨rfl,d⟩;have f:=f.below d;have e:=e.below d;have b:=b.below d;have x:=btr x d;refine Ze (Vd rfl X3e 1)<|Zo (Vu (vs:=[vi ((clX (nfL ((blochI m).getD []))) : Int)]) (l':=[.string (tx tb),vi ((clX (nfL ((blochI m).getD []))) : Int),vi 0]) rfl rfl X5m b) ?_;rintro _ fJ ⟨z,hb⟩;have c:=b;have f:=f.only z (Blk.ne f c rfl);have e:=e.only z (by omega);have x:=Below.only x z aE;have b:=hb;refine ZX dC fun a A _ dD=>?_;refine X08 none (fun j=>[9].contains j) mixed ?_;intro e7 d;have f:=f.below d;have e:=e.below d;have b:=b.below d;have x:=btr x d;refine Yb A<|Ye 0 rfl (Vn Xp f)<|Ye 1 rfl (Vn X25 b)<|Y1 2 ?_;refine Yf rfl trivial (EfW.mono (X1g (vs:=[.agg #[.string (tx tb),vi ((clX (nfL ((blochI m).getD []))) : Int),vi 0]]) rfl Xnf (by have hq:=Xup e7 tb (nfS ((blochI m).getD [])) (clX (nfL ((blochI m).getD []))) 0 d9 b6 dB bL (by decide);rw [Xdt] at hq;exact hq)) (fun _ _ h=>⟨fun _=>by obtain ⟨bM,bN,rfl,aP,d⟩:=h;exact d,h⟩)) ?_;rintro _ e8 ⟨bM,bN,rfl,aP,d⟩;have aP:=aP.lower x.size;have e:=e.below d;have b:=b.below d;have x:=btr x d;refine Y1 3<|Yf rfl trivial (EfW.mono (X1g (vs:=[.agg #[vi 1,.slice bM (fmG (clX (nfL ((blochI m).getD []))) (nfS ((blochI m).getD []))).length bN]]) rfl Xbp (by have hq:=Xj0 e8 (⟨1,(fmG (clX (nfL ((blochI m).getD []))) (nfS ((blochI m).getD [])))⟩ : Cx) bM bN aP.rd.top (Xez aY) (nfW ((blochI m).getD [])) aY;rw [show opI _=some (nfW ((blochI m).getD [])) from aY,Qq] at hq;exact hq)) (fun _ _ h=>⟨fun _=>by obtain ⟨bO,bP,rfl,b7,d⟩:=h;exact d,h⟩)) ?_;rintro _ eA ⟨bO,bP,rfl,b7,d⟩
 have e:=e.below d;have b:=b.below d;have x:=btr x d;refine Y1 4<|Yf rfl trivial (EfW.mono (X1g (vs:=[.agg #[vi m.rows,vi m.cols,.slice Am m.cells.length cm],.agg #[vi ((nfW ((blochI m).getD [])).rows),vi ((nfW ((blochI m).getD [])).cols),.slice bO ((nfW ((blochI m).getD [])).cells).length bP]]) rfl Xtb (by have hq:=Xxf eA m Am cm (b0.below' x).top (nfW ((blochI m).getD [])) bO bP b7.top (Xic hR) Xwb;rw [Xri hR] at hq;exact hq)) (fun _ _ h=>⟨fun _=>by obtain ⟨ix,rfl,dE,d⟩:=h;exact d,h⟩)) ?_;rintro _ fK ⟨ix,rfl,dE,d⟩;have e:=e.below d;have b:=b.below d;have x:=btr x d;have eB:=Xt4 hR (dE rfl);refine Yo 5 rfl (fun _=>Xd rfl)<|Yo 6 rfl (fun _=>X1 (vs:=[vi ix,.bool true]) rfl rfl)<|Yo 7 rfl (fun _=>X1 (vs:=[vi ix,.bool true]) rfl rfl)<|Yo 8 rfl (fun _=>Vd rfl X38 2)<|Y1 9 ?_;refine Yh rfl trivial rfl (Vu (vs:=[vi ix]) (l':=[.string (tx tb),vi ((clX (nfL ((blochI m).getD []))) : Int),vi ix]) rfl rfl X5m b) ?_;rintro _ fL ⟨z,hb⟩;have c:=b;have e:=e.only z (by omega);have x:=Below.only x z aE;have b:=hb;refine Yd fun a A=>?_;refine dD _ _<|Zs A fun _ dF=>?_;refine Ze (Vn X25 b)<|Zo (Vw [.string (tx tb),vi ((clX (nfL ((blochI m).getD []))) : Int),vi ix] X35 e) ?_;rintro _ fM ⟨z,hb⟩;have c:=e;have x:=Below.only x z b1;have e:=hb;refine Za rfl<|Zt dF fun a A=>?_
 refine Q6 (X4 A (X0z A rfl (ResV.cellN (l:=[.string (tx tb),vi ((clX (nfL ((blochI m).getD []))) : Int),vi ix]) rfl X25 (e.at 0) rfl) rfl) ?_)
 exact ⟨by rw [hY.s,hY.k,hY.p,hY.n,← b6,← eB],x⟩
theorem Xx3(w0:World)(Am:Option Addr)(cm:Nat)(m:Mx)(i:Rd w0 w0.heap.size 86 encD Am m.cells)(aB:m.cells.length≤2305843009213693951) : Ret Tryz.prog 7 [.agg #[vi m.rows,vi m.cols,.slice Am m.cells.length cm]] w0 (fun v w=>v=.tuple #[.agg #[.string (tx (nfs m)),vi (nfk m:Int),vi (nfp m:Int)],.bool (nfM m).isSome]∧Below w0.heap.size w0 w):=by
 refine enter Tryz.func7 rfl 12 rfl rfl ?_;intro a d
 have c:=bz w0
 refine Zs d fun _ aC=>?_;refine Zf (X09 (zs:=[vi m.rows,vi m.cols,.slice Am m.cells.length cm]) rfl rfl) ?_;rintro _ w1 ⟨b3,rfl,aD,f,e⟩;have aK:=Q0 c.size aD;have c:=btr c f;refine Zf (X5 (zs:=[.string (tx []),vi 0,vi 0]) X5w rfl) ?_;rintro _ w2 ⟨b4,rfl,aE,f,b⟩;have j:=Q0 c.size aE;have e:=e.below f;have c:=btr c f;refine Za rfl<|ZX aC fun a d _ aF=>?_;refine Zs d fun _ aG=>?_;refine Ze (Vn Xp e)<|Zf (Vc (Xvq _ m Am cm (i.below' c).top aB) Xlr) ?_;rintro _ w3 ⟨rfl,f⟩;have e:=e.below f;have b:=b.below f;have c:=btr c f;refine Ze (X0u rfl)<|Zt aG fun a d=>?_
 refine Xn d rfl (fun g=>?_) (fun g=>?_)
 ·have a9:=g
  have hN:=Xxt (m:=m) (by have h9:=g;simpa using h9)
  refine Zs d fun _ aH=>?_;refine Ze (Xf (ps:=[]) (cs:=[.string (tx []),vi 0,vi 0]) rfl (fun _=>by first|rfl|kernel_rfl))<|Zo (Vw [.string (tx []),vi 0,vi 0] X35 b) ?_;rintro _ w4 ⟨ho,hb⟩;have aA:=b;have c:=Below.only c ho j;have b:=hb;refine Za rfl<|Zt aH fun a d=>?_;refine Q6<|Xa<|X4 d (X0z d rfl (ResV.cellN (l:=[.string (tx []),vi 0,vi 0]) rfl X25 (b.at 0) rfl) rfl) ?_;exact ⟨by rw [hN.s,hN.k,hN.p,hN.n];rfl,c⟩
 have a9:=g
 have aI:oneQ m=true:=by have h9:=g;simpa using h9
 refine Q7<|aF _ _<|Zs d fun _ aJ=>?_;refine Ze (Vn Xp e)<|Zf (Vc (Xuo _ Am cm m (i.below' c).top aI) Xoj) ?_;rintro _ w5 ⟨rfl,f⟩;have b:=b.below f;have c:=btr c f;refine Ze (X1 (vs:=[.agg #[.string (tx (nfs m)),vi (nfk m:Int),vi (nfp m:Int)],.bool ((nfM m).isSome)]) rfl rfl)<|Ze (X1 (vs:=[.agg #[.string (tx (nfs m)),vi (nfk m:Int),vi (nfp m:Int)],.bool ((nfM m).isSome)]) rfl rfl)<|Zo (Vw [.string (tx (nfs m)),vi (nfk m:Int),vi (nfp m:Int)] X35 b) ?_;rintro _ w6 ⟨ho,hb⟩;have aA:=b;have c:=Below.only c ho j;have b:=hb;refine Za rfl<|Zt aJ fun a d=>?_
 refine Q6 (X4 d (X0z d rfl (ResV.cellN (l:=[.string (tx (nfs m)),vi (nfk m:Int),vi (nfp m:Int)]) rfl X25 (b.at 0) rfl) rfl) ?_)
 exact ⟨rfl,c⟩
theorem Xx8(w0:World)(s:List UInt8)(k p:Int) : Ret Tryz.prog 10 [.agg #[.string (tx s),vi k,vi p],.agg #[.string (tx s),vi k,vi p]] w0 (fun v w=>v=.bool true∧Below w0.heap.size w0 w):=by
 refine enter Tryz.func10 rfl 20 rfl rfl ?_;intro a b
 have hW:=bz w0
 refine Zs b fun _ aF=>?_;refine Zf (X09 (zs:=[.string (tx s),vi k,vi p]) rfl rfl) ?_;rintro _ w1 ⟨b2,rfl,aG,hE,d⟩;have aN:=Q0 hW.size aG;have hW:=btr hW hE;refine Zf (X09 (zs:=[.string (tx s),vi k,vi p]) rfl rfl) ?_;rintro _ w2 ⟨b3,rfl,aH,hE,a9⟩
 have aE:b2≠b3:=by have:=d.lt;omega
 have aO:=Q0 hW.size aH;have d:=d.below hE;have hW:=btr hW hE;refine Za rfl<|ZX aF fun a b _ aI=>?_;refine Zs b fun _ aJ=>?_;refine Ze (Vd rfl X1q 0)<|Ze (X0 rfl X6c (d.at 0))<|Ze (Vd rfl X1q 0)<|Ze (X0 rfl X6c (a9.at 0))<|Ze (Xw4 rfl rfl)<|Zt aJ fun a b=>?_;refine X46 b rfl ?_;refine Q7<|aI _ _<|Q5 fun _ aK=>?_;refine Zs b fun _ aL=>?_;refine Ze (Vd rfl X3e 1)<|Ze (X0 rfl X7 (d.at 1))<|Ze (Vd rfl X3e 1)<|Ze (X0 rfl X7 (a9.at 1))<|Ze (X2v rfl rfl)<|Zt aL fun a b=>?_
 refine Xn b rfl (fun e=>?_) (fun e=>?_)
 ·have aB:=e
  simp at e
 have aB:=e;refine Q7<|aK _ _<|Q5 fun _ aM=>?_;refine Zs b fun _ aC=>?_;refine Ze (Vd rfl X38 2)<|Ze (X0 rfl X7 (d.at 2))<|Ze (Vd rfl X38 2)<|Ze (X0 rfl X7 (a9.at 2))<|Ze (X2v rfl rfl)<|Zt aC fun a b=>?_
 refine Xn b rfl (fun c=>?_) (fun c=>?_)
 ·have aA:=c
  simp at c
 have aA:=c;refine Q7<|aM _ _<|Zs b fun _ aD=>?_;refine Za rfl<|Zt aD fun a b=>?_
 refine Q6 (X4 b (Xx b rfl rfl) ?_)
 exact ⟨rfl,hW⟩
theorem Xu6(w0:World){Xm:TypeId}(m:Mx)(Am:Option Addr)(cm:Nat)(n:Rd w0 w0.heap.size Xm encD Am m.cells)(aY:m.cells.length≤9223372036854775807)(aZ:HalfT w0) : Ret Tryz.prog 3 [.agg #[vi m.rows,vi m.cols,.slice Am m.cells.length cm]] w0 (fun v w=>v=.bool true∧Below w0.heap.size w0 w):=by
 refine enter Tryz.func3 rfl 41 rfl rfl ?_;intro a j
 have g:=bz w0
 refine Zs j fun _ b0=>?_;refine Zf (X09 (zs:=[vi m.rows,vi m.cols,.slice Am m.cells.length cm]) rfl rfl) ?_;rintro _ w1 ⟨b3,rfl,b1,d,b⟩;have bF:=Q0 g.size b1;have g:=btr g d;refine Za rfl<|Zx b0 fun a j _ b2=>?_;refine Za rfl<|Zx b2 fun a j _ b4=>?_;refine Ze (Vn X8y b)<|Zm rfl<|Zf (Vc (Xvn _ m Am cm (n.below' g).top 1048576 (by omega) aY) Xlt) ?_;rintro _ w2 ⟨rfl,d⟩;have b:=b.below d;have g:=btr g d;refine Za rfl<|ZX b4 fun a j _ b5=>?_;refine Zs j fun _ b6=>?_;refine Zm rfl<|Ze (X15 rfl rfl)<|Zt b6 fun a j=>?_
 refine Xn j rfl (fun k=>?_) (fun k=>?_)
 ·have aJ:=k;have k:=Q2 k;refine Zs j fun _ b7=>?_;refine Za rfl<|Zt b7 fun a j=>?_;refine Q6<|Xa<|X4 j (Xx j rfl rfl) ?_;exact ⟨rfl,g⟩
 have aJ:=k;have k:=Q1 k
 have t:m.cells.length≤1048576:=by have h9:=k;unfold szD at h9;split at h9<;>omega
 refine Q7<|b5 _ _<|Zs j fun _ aK=>?_;refine Ze (Vn X8y b)<|Zf (Vc (Xiv _ m Am cm (n.below' g).top t) Xc5) ?_;rintro _ w3 ⟨b8,b9,rfl,x,d⟩;have x:=x.lower g.size;have b:=b.below d;have g:=btr g d;refine Zf (Vc (Xx3 _ b8 b9 m x.rd.top (Q0 t (by decide))) Xmk) ?_;rintro _ w4 ⟨rfl,d⟩;have b:=b.below d;have g:=btr g d;refine Zm rfl<|Ze (X1 (vs:=[.agg #[.string (tx (nfs m)),vi (nfk m:Int),vi (nfp m:Int)],.bool ((nfM m).isSome)]) rfl rfl)<|Ze (X1 (vs:=[.agg #[.string (tx (nfs m)),vi (nfk m:Int),vi (nfp m:Int)],.bool ((nfM m).isSome)]) rfl rfl)<|Zf (X5 (zs:=[.string (tx []),vi 0,vi 0]) X5w rfl) ?_;rintro _ w5 ⟨bC,rfl,aL,d,e⟩;have a9:=Q0 g.size aL;have b:=b.below d;have g:=btr g d;refine Zo (Vw [.string (tx (nfs m)),vi (nfk m:Int),vi (nfp m:Int)] X35 e) ?_;rintro _ w6 ⟨u,hb⟩;have i:=e;have b:=b.only u (Blk.ne b i rfl);have g:=Below.only g u a9;have e:=hb;refine Za rfl<|Zx aK fun a j _ aM=>?_;refine Ze (Vn X8y b)<|Zf (Vc (Xiv _ m Am cm (n.below' g).top t) Xc5) ?_;rintro _ w7 ⟨aA,aB,rfl,c,d⟩;have c:=c.lower g.size;have b:=b.below d;have e:=e.below d;have g:=btr g d;refine Zf (X5 (zs:=[vi 0,vi 0,.slice none 0 0]) X11 rfl) ?_;rintro _ w8 ⟨bD,rfl,aN,d,f⟩;have aC:=Q0 g.size aN;have b:=b.below d;have e:=e.below d;have c:=c.below d;have g:=btr g d;refine Zo (Vw [vi m.rows,vi m.cols,.slice aA m.cells.length aB] X0g f) ?_;rintro _ w9 ⟨u,hb⟩;have i:=f;have b:=b.only u (Blk.ne b i rfl);have e:=e.only u (Blk.ne e i rfl)
 have c:=c.onlyT u i rfl;have g:=Below.only g u aC;have f:=hb;refine Zx aM fun a j _ aO=>?_;refine Ze (Vn Xp f)<|Zf (Vc (Xue _ aA aB m c.rd.top (Q0 t (by decide)) (aZ.of g)) Xnl) ?_;rintro _ bG ⟨rfl,d⟩;have b:=b.below d;have e:=e.below d;have f:=f.below d;have c:=c.below d;have g:=btr g d;refine Zm rfl<|Ze (X1 (vs:=[.agg #[.string (tx (nfs m)),vi (nfk m:Int),vi (nfp m:Int)],.bool ((nfM m).isSome)]) rfl rfl)<|Ze (X1 (vs:=[.agg #[.string (tx (nfs m)),vi (nfk m:Int),vi (nfp m:Int)],.bool ((nfM m).isSome)]) rfl rfl)<|Zf (X5 (zs:=[.string (tx []),vi 0,vi 0]) X5w rfl) ?_;rintro _ bH ⟨b18,rfl,aP,d,o⟩
 have aH:bC≠b18:=by have:=e.lt;omega
 have aD:=Q0 g.size aP;have b:=b.below d;have e:=e.below d;have f:=f.below d;have c:=c.below d;have g:=btr g d;refine Zo (Vw [.string (tx (nfs m)),vi (nfk m:Int),vi (nfp m:Int)] X35 o) ?_;rintro _ w12 ⟨u,hb⟩;have i:=o;have b:=b.only u (Blk.ne b i rfl);have e:=e.only u (by omega);have f:=f.only u (Blk.ne f i rfl);have c:=c.onlyT u i rfl;have g:=Below.only g u aD;have o:=hb;refine Za rfl<|ZX aO fun a j _ aQ=>?_;refine Q5 fun _ aR=>?_;refine X0e (fun a w=>Fr a 41 [(1,.pointer (some ⟨b3,0,none⟩)),(6,.pointer (some ⟨bD,0,none⟩)),(35,.bool (((nfM m).isSome) != ((nfM m).isSome)))]∧Below w12.heap.size w12 w) ?_ ?_
 ·have aE:Below w12.heap.size w12 w12:=Below.refl _ _
  refine Zr j<|Ze (Vn X25 o)<|Ze (Vn X25 e)<|Zf (Vc (Xx8 _ (nfs m) (nfk m:Int) (nfp m:Int)) Xlx) ?_;rintro _ w13 ⟨rfl,d⟩;have g:=btr g d;have aE:=btr aE d;refine Ze (X0u rfl)<|Zm rfl<|Zv (gW rfl) (Xd rfl) ?_;refine Zv (gW rfl) (Xd rfl) ?_;refine Zv (gW rfl) (Xvw Tryz.underlying4 rfl rfl) ?_;refine Ze (Xe rfl rfl rfl) ?_;refine Zn fun a j=>?_
  have bE:Below w12.heap.size w12 w13:=aE
  exact ⟨j.sb,bE⟩
 rintro a bI ⟨j,d⟩;have b:=b.below d;have f:=f.below d;have c:=c.below d;have g:=btr g d;refine aR _ _ ?_
 refine Xn j rfl (fun p=>?_) (fun p=>?_)
 ·have aF:=p
  simp at p
 have aF:=p;refine Q7<|aQ _ _<|Q5 fun _ aS=>?_;refine Q5 fun _ aT=>?_;refine X08 none (fun _=>false) mixed ?_;intro bJ d;have b:=b.below d;have f:=f.below d;have c:=c.below d;have g:=btr g d;refine Yb j<|Ye 0 rfl (Vn Xp f)<|Ye 1 rfl (Vn X8y b)<|Y1 2 ?_;refine Yk rfl trivial (Vc (Xiv _ m Am cm (n.below' g).top t) Xc5) (fun _ _ ⟨aU,aW,_,l,d⟩=>d) ?_;rintro _ bK ⟨aU,aW,rfl,l,d⟩;have aI:=c.apart l (Qb _);have l:=l.lower g.size;have c:=c.below d;have g:=btr g d;refine Y1 3<|Yk rfl trivial (Vc (Xvt _ m aA aB c.rd.top m aU aW l.rd.top (Q0 t (by decide))) Xnn) (fun _ _ ⟨_,d⟩=>d) ?_;rintro _ bL ⟨rfl,d⟩;have g:=btr g d;refine Yo 4 rfl (fun _=>X0u rfl) ?_;refine Yd fun a j=>?_;refine aT _ _ ?_
 refine Xn j rfl (fun q=>?_) (fun q=>?_)
 ·have aG:=q
  simp [eqM] at q
 have aG:=q;refine Q7<|aS _ _<|Zs j fun _ aX=>?_;refine Za rfl<|Zt aX fun a j=>?_
 refine Q6 (X4 j (Xx j rfl rfl) ?_)
 exact ⟨rfl,g⟩
end Go.Proofs.YtnmabjfoiakapaaGreatDoor
namespace Go.Proofs.YtnmabjfoiakapaaGreatDoor
open Go.ChangeShapes Go.WideShapes Go.ChangeAt Go.RowKit Go.Deep Go.Joins
set_option linter.unusedVariables false
theorem Xgr : Tryz.prog.globalNamed "loop.example/g00864/impl.half" = some 0 := by kernel_rfl
theorem Xq5:(Tryz.prog.globals[0]?).map (·.type)=some (86:TypeId):=by kernel_rfl
theorem Xcr:Tryz.prog.cellsOf 84=4:=by kernel_rfl
theorem Xjq:Tryz.prog.cellsOf 86=5:=by kernel_rfl
section
variable {H : Type} {enc : TypeId × Value → H} {w : World} {base fuel : Nat} {spare : Nat → Bool} {held : Bool}
set_option maxRecDepth 100000 in
theorem Xnd{cs:List Value}{a b c d:Int}{p:List MemPlace}(h:DataW.trod enc Tryz.prog w base spare held fuel 84 cs=some (.agg [.lit (.int .i64 a),.lit (.int .i64 b),.lit (.int .i64 c),.lit (.int .i64 d)],p)) : cs=encR ⟨a,b,c,d⟩:=by
 obtain ⟨y0,y1,y2,y3,n,hx,hl,h0,h1,h2,h3⟩:=trod_struct4 Tryz.underlying84 h
 rw [Xcr] at hl
 match cs,hl with
 | [c0,c1,c2,c3],_=>
  simp only [X9p] at h0 h1 h2 h3
  obtain ⟨a',e0,rfl,_⟩:=DataW.trod_int Tryz.underlying3 h0;obtain ⟨b',e1,rfl,_⟩:=DataW.trod_int Tryz.underlying3 h1;obtain ⟨c',e2,rfl,_⟩:=DataW.trod_int Tryz.underlying3 h2;obtain ⟨d',e3,rfl,_⟩:=DataW.trod_int Tryz.underlying3 h3
  simp at e0 e1 e2 e3 hx
  obtain ⟨⟨rfl,rfl,rfl,rfl⟩,_⟩:=hx
  rw [e0,e1,e2,e3]
  rfl
set_option maxRecDepth 100000 in
theorem Xnm{cs:List Value}{p:List MemPlace}(h:DataW.trod enc Tryz.prog w base spare held fuel 86 cs=some (Rows.laid_loop_example_g00864_impl_half,p)) : cs=encD dHf:=by
 obtain ⟨y0,y1,n,hx,hl,h0,h1⟩:=trod_struct2 Tryz.underlying86 h
 rw [Xjq] at hl
 match cs,hl with
 | [c0,c1,c2,c3,c4],_=>
  simp only [Xcr] at h0
  simp only [X9p] at h1
  obtain ⟨z,e1,rfl,_⟩:=DataW.trod_int Tryz.underlying3 h1
  unfold Rows.laid_loop_example_g00864_impl_half at hx
  obtain ⟨y,py⟩:=y0
  simp at e1 hx
  obtain ⟨⟨rfl,rfl⟩,_⟩:=hx
  have e0:=Xnd h0
  simp [encR] at e0
  obtain ⟨g0,g1,g2,g3⟩:=e0
  rw [g0,g1,g2,g3,e1]
  rfl
end
theorem Xm0 {W : World} (h : laidMetH Tryz.prog [("loop.example/g00864/impl.half", Rows.laid_loop_example_g00864_impl_half)] W) : HalfT W := by
 rw [MakeChecks.laidMetH_plain _ _ _ (by kernel_rfl)] at h
 obtain ⟨g,t,cs,fuel,p,h1,h2,h3,h4⟩:=Lib.laidMet.reads h (.head _)
 rw [Xgr] at h1
 obtain rfl:=Option.some.inj h1
 rw [Xq5] at h2
 obtain rfl:=Option.some.inj h2
 have hc:=Xnm h4
 unfold World.var? at h3
 rw [Xgr,Qz] at h3
 cases hh:W.heap[0]? with
 | none=>rw [hh] at h3;cases h3
 | some r=>
  rw [hh] at h3
  cases r with
  | cells cs' T F=>
   simp only [Option.some.injEq] at h3
   subst h3
   exact ⟨T,F,by rw [hh,← hc]⟩
  | _=>cases h3
theorem Xek {H : Type} {enc : TypeId × Value → H} {W W' : World} {gs : List (DataW H)} {q : List MemPlace} (h : DataW.TrodVars enc Tryz.prog W (fun _ => true) ["loop.example/g00864/impl.half"] gs q) (hlt : ∀ x ∈ q, x.block < W.heap.size) (hb : Below W.heap.size W W') {sp : Nat → Bool} (hs : ∀ x ∈ q, sp x.block = true) : DataW.TrodVars enc Tryz.prog W' sp ["loop.example/g00864/impl.half"] gs q := by
 obtain ⟨g,t,cs,fuel,d,p,rfl,h1,h2,h3,h4,rfl⟩:=trodVars_one h
 have h1':=h1
 have h2':=h2
 rw [Xgr] at h1'
 obtain rfl:=Option.some.inj h1'
 rw [Xq5] at h2'
 obtain rfl:=Option.some.inj h2'
 have h3' : W'.var? Tryz.prog "loop.example/g00864/impl.half" = some cs := by
  unfold World.var? at h3 ⊢
  rw [Xgr,Qz] at h3 ⊢
  cases hh:W.heap[0]? with
  | none=>rw [hh] at h3;cases h3
  | some r=>rw [hb.block 0 (Qp.1 hh).1];exact h3
 exact trodVars_mk1 (fuel:=fuel) h1 h2 h3' (DataW.trod_stays (kids_book Xg1 (by kernel_rfl)) (book_sized (by kernel_rfl)) (fun h=>by cases h) ⟨Q2 (by kernel_rfl),book_self _⟩ h4 (fun x hx=>hb.same (hlt x (Qu.2 (.inr hx)))) (fun x hx=>hs x (Qu.2 (.inr hx))))
set_option linter.unusedVariables false
set_option maxRecDepth 100000 in
theorem Xc1(os:Os)(started:os.Started)(H:Type)(enc:TypeId×Value→H) :
  ReturnsInHanded {} Tryz.checked os 3 .any (fun w args=>(Rows.fnExactNormalFormOfSpec.pre enc Tryz.prog Tryz.f3 [] false w args∧laidMetH Tryz.prog Rows.fnExactNormalFormOfRow.laid w)∧sizedMet enc Tryz.prog Tryz.f3 (OpenSpec.ofChange Rows.fnExactNormalFormOfSpec) false w args)
   (Rows.fnExactNormalFormOfSpec.post enc Tryz.prog Tryz.f3 false true false false):=by
 refine returnsInHanded_of_change_and (C:=Tryz.checked) (X:=fun w _=>laidMetH Tryz.prog Rows.fnExactNormalFormOfRow.laid w) (fun _ _ _ hh h=>h.of_heap hh) own started (by kernel_rfl) Tryz.func3
  (ChangeSpec.witness_shaped (enc:=enc) (C:=Tryz.checked) (os:=os) (X:=fun w _=>laidMetH Tryz.prog Rows.fnExactNormalFormOfRow.laid w) false (World.laidAll Tryz.prog os Rows.fnExactNormalFormOfRow.laid) #[.agg #[.int .i64 0,.int .i64 0,.slice none 0 0]] 8 (World.laidAll_os _ _ _)
   (World.shaped_of_ZipB (by kernel_rfl) (by kernel_rfl)) (by kernel_rfl) (by kernel_rfl) (by kernel_rfl)
   (by rw [MakeChecks.laidMetH_plain _ _ _ (by kernel_rfl)];exact laidMet_laidAll _ (by kernel_rfl) (by kernel_rfl))) ?_
 intro W base args ds gs before hval0 hW _ _ hL _
 have hval:∀ (j:Nat) t v,Tryz.f3.params[j]? = some t→args[j]? = some v→Value.okWide Tryz.prog W .any base t v:=hval0
 have hW':=hW
 obtain ⟨p,q,hA0,hV,rfl,hfz,hnd⟩:=hW
 have hA:DataW.TrodAll enc Tryz.prog W 0 (fun _=>true) true Tryz.f3.params.toList args.toList ds p:=hA0
 rw [Tryz.params3] at hA hval
 obtain ⟨v0,d0,rfl,rfl,h0⟩:=trodAll_one hA
 have hV' : DataW.TrodVars enc Tryz.prog W (fun _ => true) ["loop.example/g00864/impl.half"] gs q := hV
 obtain ⟨_,_,_,_,g1,_,hgs,_⟩:=trodVars_one hV'
 subst hgs
 have h0k:=h0
 obtain ⟨m,A,i,E,rfl,hr0,hl0⟩:=Xjf (hval 0 24 v0 rfl rfl) h0 (fun _=>rfl)
 clear hA0 hval0
 have hlt:∀ x ∈ p++q,x.block<W.heap.size:=fun x hx=>hW'.lt x hx
 refine Calls.mono (Xu6 W m A i hr0 hl0 (Xm0 hL)) fun r W' ⟨v,he,hv,hb⟩=>?_
 subst hv
 refine ⟨_,he,Xen (pa:=p) (pv:=q) hW' (fun _ _ _=>trodAll_mk1 (shut_bool Tryz.underlying4 true)) (fun sp hsp=>?_) (fun sp hsp=>Xek hV' (fun x hx=>hlt x (Qu.2 (.inr hx))) hb (fun x hx=>hsp x (Qu.2 (.inr hx)))) rfl hb⟩
 exact trodAll_mk1 (WideElems.Trod_stays Xg1 (by kernel_rfl) (Q2 (by kernel_rfl)) h0k (fun x hx=>hb.same (hlt x (Qu.2 (.inl hx)))) (fun x hx=>hsp x (Qu.2 (.inl hx))))
theorem Xhm:Rows.FnExactNormalFormOfSaid:=
 OpenClaim.holds_of_wide 3 Tryz.f3 rfl rfl rfl rfl rfl rfl rfl ⟨rfl,rfl,rfl,rfl,rfl⟩ rfl rfl rfl rfl rfl (by kernel_rfl) Tryz.func3 (by kernel_rfl)
  (Q2 (by kernel_rfl)) (by unfold Func.isWrapper;first|(rw [Q4 (by decide +kernel)];kernel_rfl)|(rw [Q3 (by decide +kernel)];exact ⟨rfl,rfl⟩))
  (fun os started H enc _=>Xc1 os started H enc)
theorem Xkp : Tryz.prog.funcNamed "loop.example/g00864/laws.FnExactNormalFormOf" = some 3 := by kernel_rfl
theorem Xdi:Tryz.prog.wantsStandIn 24=false:=by kernel_rfl
theorem nform_holds:Rows.FnExactNormalFormOfCardSaid:=
 Claim7.holds_tied_plain_at .later [] [.data] true (true, "d8f154f7491da93ed7e14c1fbf7b480e067dc0778ba72b2cde086a8153ae0209") false
  Xhm (fun _ h=>by cases h) (by kernel_rfl) (fun _ h=>by cases h) fnExactNormalFormOf_row_tie rfl ⟨rfl,rfl⟩ (by kernel_rfl) rfl
  (fun f fn hf hfn=>by
   obtain rfl:f=3:=Option.some.inj (Xkp.symm.trans hf) |>.symm
   obtain rfl:fn=Tryz.f3:=(Option.some.inj (Tryz.func3.symm.trans hfn)).symm
   exact ⟨by kernel_rfl,fun j t ht=>by
    rw [Tryz.params3] at ht
    have hm:=Array.mem_of_getElem? ht
    simp only [List.mem_toArray,Qv,List.mem_nil_iff,or_false] at hm
    subst hm;exact Xdi⟩)
  (by kernel_rfl)
end Go.Proofs.YtnmabjfoiakapaaGreatDoor
