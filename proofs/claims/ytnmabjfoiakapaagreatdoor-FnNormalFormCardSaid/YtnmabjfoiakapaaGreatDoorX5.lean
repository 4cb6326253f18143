/-
  What is proved: for every drawn matrix and circuit, the normal form, its matrix, its circuit and the count of T bear each other out, in the code as in the reference; a reduced circuit has the operator and no more T than before; the arguments and the variable half read as before. Conditions: none beside the variable's value, which the card ties to the program's text.
-/
import Derived.Test.YtnmabjfoiakapaaGreatDoorX4
import Derived.Test.YtnmabjfoiakapaaGreatDoorX2
import Derived.Laws.StructEq
import Derived.Test.YtnmabjfoiakapaaGreatDoorX3
set_option linter.unusedVariables false
set_option linter.unusedSimpArgs false
set_option maxHeartbeats 1000000
set_option maxRecDepth 4000
set_option linter.unusedSectionVars false
namespace Go.Proofs.YtnmabjfoiakapaaGreatDoor
open Go.RowKit
theorem Xgt(w0:World)(m:Mx)(Am:Option Addr)(cm:Nat)(a9:Rd w0 w0.heap.size 86 encD Am m.cells)(eF:oneQ m=true) : Ret Tryz.prog 61 [.agg #[vi m.rows,vi m.cols,.slice Am m.cells.length cm]] w0 (fun v w=>∃ A c1,v=.tuple #[.agg #[.slice A ((blochI m).getD []).length c1],.bool ((blochI m).isSome)]∧Own w w0.heap.size 86 5 encD A c1 ((blochI m).getD [])∧Below w0.heap.size w0 w):=by
 obtain ⟨_,aA,eH,eI⟩:=X4a eF;refine enter Tryz.func61 rfl 59 rfl rfl ?_;intro a J
 have x:=bz w0
 refine Zs J fun _ gM=>?_;refine Zf (X0b (zs:=[vi m.rows,vi m.cols,.slice Am m.cells.length cm]) rfl rfl) ?_;rintro _ w1 ⟨b3,rfl,gN,o,q⟩;have hP:=Q0 x.size gN;have x:=btr x o;refine Zf (X3 (zs:=[.slice none 0 0]) X23 rfl) ?_;rintro _ w2 ⟨b5,rfl,gO,o,p⟩;have dB:=Q0 x.size gO;have q:=q.below o;have x:=btr x o;refine Za rfl<|Zx gM fun a J _ gQ=>?_;refine Ze (Xf (ps:=[]) (cs:=[.bool false]) rfl (fun _=>by first|rfl|kernel_rfl))<|Zf (X0b (zs:=[.bool false]) rfl rfl) ?_;rintro _ w3 ⟨b7,rfl,gR,o,t⟩;have L:=Q0 x.size gR;have q:=q.below o;have p:=p.below o;have x:=btr x o;refine Za rfl<|Zx gQ fun a J _ gU=>?_;refine Zf (X3 (zs:=[.slice none 0 0]) X23 rfl) ?_;rintro _ w4 ⟨b10,rfl,eJ,o,f⟩
 have eK:b5≠b10:=by have:=p.lt;omega
 have dC:=Q0 x.size eJ;have q:=q.below o;have p:=p.below o;have t:=t.below o;have x:=btr x o;refine ZX gU fun a J _ eL=>?_;refine Zs J fun _ eM=>?_;refine Za rfl<|Zt eM fun a J=>?_;refine Q8<|X04 (σ:=Nat×(List Dy)×Bool) (fun (s:Nat×(List Dy)×Bool) (a:Act) (w:World)=>match s with|(i,l,f1)=>∃ bI bJ,Fr a 59 [(1,.pointer (some ⟨b3,0,none⟩)),(2,.pointer (some ⟨b5,0,none⟩)),(4,.pointer (some ⟨b7,0,none⟩)),(5,.pointer (some ⟨b10,0,none⟩)),(6,vi (i:Int))]∧(i≤3)∧(BlS m (i*3) f1 l)∧Blk w b3 32 [vi m.rows,vi m.cols,.slice Am m.cells.length cm]∧Blk w b5 66 [.slice none 0 0]∧Blk w b7 95 [.bool f1]∧Blk w b10 66 [.slice bI l.length bJ]∧Own w w0.heap.size 86 5 encD bI bJ l∧Below w0.heap.size w0 w) (fun (s:Nat×(List Dy)×Bool)=>match s with|(i,l,f1)=>3-i) (0,[],false) ?_ ?_
 ·exact ⟨none,0,J.sb,(by omega),⟨fun _=>rfl,fun h=>(by cases h),rfl⟩,q,p,t,f,(Own.nil _ _ _ _ _),x⟩
 rintro ⟨i,l,f1⟩ a w5 ⟨bI,bJ,J,hi,hl,q,p,t,f,bM,x⟩;refine Q5 fun _ eO=>?_;refine Zs J fun _ eP=>?_;refine Zm rfl<|Ze (X19 rfl rfl)<|Zt eP fun a J=>?_
 refine Xi J rfl (fun aF=>?_) (fun aF=>?_)
 ·have aB:=aF;have aF:=Q2 aF
  have b9:i<3:=by have:=aF;omega
  refine Q7<|eO _ _<|Q5 fun _ eQ=>?_;refine Q8<|Zs J fun _ eR=>?_;refine Za rfl<|Zt eR fun a J=>?_;refine Q8<|X04 (σ:=Nat×(List Dy)×Bool) (fun (s:Nat×(List Dy)×Bool) (a:Act) (w:World)=>match s with|(j,l2,e)=>∃ bC bE,Fr a 59 [(1,.pointer (some ⟨b3,0,none⟩)),(2,.pointer (some ⟨b5,0,none⟩)),(4,.pointer (some ⟨b7,0,none⟩)),(5,.pointer (some ⟨b10,0,none⟩)),(6,vi (i:Int)),(7,vi (j:Int))]∧(j≤3)∧(BlS m (i*3+j) e l2)∧Blk w b3 32 [vi m.rows,vi m.cols,.slice Am m.cells.length cm]∧Blk w b5 66 [.slice none 0 0]∧Blk w b7 95 [.bool e]∧Blk w b10 66 [.slice bC l2.length bE]∧Own w w0.heap.size 86 5 encD bC bE l2∧Below w0.heap.size w0 w) (fun (s:Nat×(List Dy)×Bool)=>match s with|(j,l2,e)=>3-j) (0,l,f1) ?_ ?_
  ·exact ⟨bI,bJ,J.sb,(by omega),hl,q,p,t,f,bM,x⟩
  rintro ⟨j,l2,e⟩ a w6 ⟨bC,bE,J,hj,dD,q,p,t,f,n,x⟩;refine Q5 fun _ eS=>?_;refine Zs J fun _ eT=>?_;refine Zm rfl<|Ze (X19 rfl rfl)<|Zt eT fun a J=>?_
  refine Xi J rfl (fun aG=>?_) (fun aG=>?_)
  ·have aC:=aG;have aG:=Q2 aG
   have aJ:j<3:=by have:=aG;omega
   have hU:l2.length=i*3+j:=dD.2.2
   obtain ⟨x1,x2,x3,x4,x5,x6,x7⟩:=Xhl aA eH eI e b9 aJ;have gX:=Xm0 aA eH eI b9 aJ dD;refine Q7<|eS _ _<|Q5 fun _ eU=>?_;refine Q8<|Q5 fun _ eV=>?_;refine X09 (fun a w=>∃ b32 aO bD,Fr a 59 [(1,.pointer (some ⟨b3,0,none⟩)),(2,.pointer (some ⟨b5,0,none⟩)),(4,.pointer (some ⟨b7,0,none⟩)),(5,.pointer (some ⟨b10,0,none⟩)),(6,vi (i:Int)),(7,vi (j:Int)),(8,.pointer (some ⟨b32,0,none⟩))]∧w0.heap.size≤b32∧Blk w b32 32 [vi (((timesS ((timesS ((timesS e (pauM i) m).1) ((timesS e (pauM i) m).2) (pauM j)).1) ((timesS ((timesS e (pauM i) m).1) ((timesS e (pauM i) m).2) (pauM j)).2) (adjS m)).2).rows),vi (((timesS ((timesS ((timesS e (pauM i) m).1) ((timesS e (pauM i) m).2) (pauM j)).1) ((timesS ((timesS e (pauM i) m).1) ((timesS e (pauM i) m).2) (pauM j)).2) (adjS m)).2).cols),.slice aO (((timesS ((timesS ((timesS e (pauM i) m).1) ((timesS e (pauM i) m).2) (pauM j)).1) ((timesS ((timesS e (pauM i) m).1) ((timesS e (pauM i) m).2) (pauM j)).2) (adjS m)).2).cells).length bD]∧b3≠b32∧Own w w0.heap.size 86 5 encD aO bD (((timesS ((timesS ((timesS e (pauM i) m).1) ((timesS e (pauM i) m).2) (pauM j)).1) ((timesS ((timesS e (pauM i) m).1) ((timesS e (pauM i) m).2) (pauM j)).2) (adjS m)).2).cells)∧Blk w b3 32 [vi m.rows,vi m.cols,.slice Am m.cells.length cm]∧Blk w b5 66 [.slice none 0 0]∧Blk w b7 95 [.bool ((timesS ((timesS ((timesS e (pauM i) m).1) ((timesS e (pauM i) m).2) (pauM j)).1) ((timesS ((timesS e (pauM i) m).1) ((timesS e (pauM i) m).2) (pauM j)).2) (adjS m)).1)]∧Blk w b10 66 [.slice bC l2.length bE]∧Own w w0.heap.size 86 5 encD bC bE l2∧Below w0.heap.size w0 w) ?_ ?_
   ·refine Xy (some b7) (fun j=>[14].contains j) mixed ?_;intro w7 o;have q:=q.below o;have p:=p.below o;have t:=t.below o;have f:=f.below o;have n:=n.below o;have x:=btr x o;refine Yb J<|Yo 0 rfl (fun _=>Xa rfl)<|Yo 1 rfl (fun _=>Xa rfl)<|Yo 2 rfl (fun _=>Xa rfl)<|Yo 3 rfl (fun _=>Xa rfl) ?_;refine Yw 5 rfl trivial (fun w1 h1=>Xz (l:=[vi m.rows,vi m.cols,.slice Am m.cells.length cm]) rfl Xg ((q.only h1 (Blk.ne q t rfl)).at 0) rfl) ?_;refine Yo 7 rfl (fun _=>Xa rfl) ?_;refine Yw 10 rfl trivial (fun w1 h1=>Xz (l:=[vi m.rows,vi m.cols,.slice Am m.cells.length cm]) rfl Xg ((q.only h1 (Blk.ne q t rfl)).at 0) rfl) ?_;refine Y2 4 13 ?_ ?_
    ·refine Yf rfl trivial (EfW.mono (Vc (Xbr _ i b9) X6v) (fun _ _ h=>⟨fun _=>by obtain ⟨dE,dF,rfl,aL,o⟩:=h;exact Keep.of_below o,h⟩)) ?_;rintro _ w8 ⟨dE,dF,rfl,aL,o⟩;have aL:=aL.lower x.size;have q:=q.below o;have p:=p.below o;have t:=t.below o;have f:=f.below o;have n:=n.below o;have x:=btr x o;refine Y2 6 13 ?_ ?_
     ·refine Yf rfl trivial (EfW.mono (Vc (X5g _ b7 e t (pauM i) dE dF aL.rd.top m Am cm (a9.below' x).top (X3z b9) aA x5) X2g) (fun _ _ h=>⟨fun _=>by obtain ⟨d5,d6,rfl,U,D,y⟩:=h;exact D.keep,h⟩)) ?_;rintro _ w9 ⟨d5,d6,rfl,U,D,y⟩;have E:=x.size;obtain ⟨wm,z,hm,o⟩:=D.mid;clear hm;have g:=t;have q:=q.only z (Blk.ne q g rfl);have p:=p.only z (Blk.ne p g rfl);have f:=f.only z (Blk.ne f g rfl);have n:=n.onlyT z g rfl;have x:=Below.only x z L;have q:=q.below o;have p:=p.below o;have f:=f.below o;have n:=n.below o;have x:=btr x o
      clear g o z D;have t:=y;clear y
      have U:=U.lower E;clear E;refine Y2 8 13 ?_ ?_
      ·refine Yf rfl trivial (EfW.mono (Vc (Xbr _ j aJ) X6v) (fun _ _ h=>⟨fun _=>by obtain ⟨dG,dH,rfl,aM,o⟩:=h;exact Keep.of_below o,h⟩)) ?_;rintro _ i0 ⟨dG,dH,rfl,aM,o⟩;have aM:=aM.lower x.size;have q:=q.below o;have p:=p.below o;have t:=t.below o;have f:=f.below o;have n:=n.below o;have U:=U.below o;have x:=btr x o;refine Y2 9 13 ?_ ?_
       ·refine Yf rfl trivial (EfW.mono (Vc (X5g _ b7 ((timesS e (pauM i) m).1) t ((timesS e (pauM i) m).2) d5 d6 U.rd.top (pauM j) dG dH aM.rd.top x1 (X3z aJ) x2) X2g) (fun _ _ h=>⟨fun _=>by obtain ⟨d7,d8,rfl,W,D,y⟩:=h;exact D.keep,h⟩)) ?_;rintro _ i1 ⟨d7,d8,rfl,W,D,y⟩;have E:=x.size;obtain ⟨wm,z,hm,o⟩:=D.mid;clear hm;have g:=t;have q:=q.only z (Blk.ne q g rfl);have p:=p.only z (Blk.ne p g rfl);have f:=f.only z (Blk.ne f g rfl);have n:=n.onlyT z g rfl;have x:=Below.only x z L;have q:=q.below o;have p:=p.below o;have f:=f.below o;have n:=n.below o;have x:=btr x o
        clear g o z D;have t:=y;clear y
        have W:=W.lower E;clear E;refine Y2 11 13 ?_ ?_
        ·refine Yf rfl trivial (EfW.mono (Vc (X96 _ m Am cm (a9.below' x).top aA) X4o) (fun _ _ h=>⟨fun _=>by obtain ⟨dI,dJ,rfl,aN,o⟩:=h;exact Keep.of_below o,h⟩)) ?_;rintro _ i3 ⟨dI,dJ,rfl,aN,o⟩;have aN:=aN.lower x.size;have q:=q.below o;have p:=p.below o;have t:=t.below o;have f:=f.below o;have n:=n.below o;have W:=W.below o;have x:=btr x o;refine Y2 12 13 ?_ ?_
         ·refine Yf rfl trivial (EfW.mono (Vc (X5g _ b7 ((timesS ((timesS e (pauM i) m).1) ((timesS e (pauM i) m).2) (pauM j)).1) t ((timesS ((timesS e (pauM i) m).1) ((timesS e (pauM i) m).2) (pauM j)).2) d7 d8 W.rd.top (adjS m) dI dJ aN.rd.top x3 (X2t aA) x4) X2g) (fun _ _ h=>⟨fun _=>by obtain ⟨aO,bD,rfl,B,D,y⟩:=h;exact D.keep,h⟩)) ?_;rintro _ i4 ⟨aO,bD,rfl,B,D,y⟩;have E:=x.size;obtain ⟨wm,z,hm,o⟩:=D.mid;clear hm;have g:=t;have q:=q.only z (Blk.ne q g rfl);have p:=p.only z (Blk.ne p g rfl);have f:=f.only z (Blk.ne f g rfl);have n:=n.onlyT z g rfl;have x:=Below.only x z L;have q:=q.below o;have p:=p.below o;have f:=f.below o;have n:=n.below o;have x:=btr x o
          clear g o z D;have t:=y;clear y
          have B:=B.lower E;clear E;refine Y1 13<|Yf rfl trivial (EfW.mono (X3 (zs:=[vi 0,vi 0,.slice none 0 0]) X0n rfl) (fun _ _ h=>⟨fun _=>by obtain ⟨_,_,_,o,_⟩:=h;exact Keep.of_below o,h⟩)) ?_;rintro _ i5 ⟨b32,rfl,eW,o,C⟩
          have bF:b3≠b32:=by have:=q.lt;omega
          have bK:=Q0 x.size eW;have q:=q.below o;have p:=p.below o;have t:=t.below o;have f:=f.below o;have n:=n.below o;have B:=B.below o;have x:=btr x o;refine Y1 14<|Yh rfl trivial rfl (Vw [vi (((timesS ((timesS ((timesS e (pauM i) m).1) ((timesS e (pauM i) m).2) (pauM j)).1) ((timesS ((timesS e (pauM i) m).1) ((timesS e (pauM i) m).2) (pauM j)).2) (adjS m)).2).rows),vi (((timesS ((timesS ((timesS e (pauM i) m).1) ((timesS e (pauM i) m).2) (pauM j)).1) ((timesS ((timesS e (pauM i) m).1) ((timesS e (pauM i) m).2) (pauM j)).2) (adjS m)).2).cols),.slice aO (((timesS ((timesS ((timesS e (pauM i) m).1) ((timesS e (pauM i) m).2) (pauM j)).1) ((timesS ((timesS e (pauM i) m).1) ((timesS e (pauM i) m).2) (pauM j)).2) (adjS m)).2).cells).length bD] Xt C) ?_;rintro _ i6 ⟨G,hb⟩;have g:=C;have q:=q.only G (by omega);have p:=p.only G (Blk.ne p g rfl);have t:=t.only G (Blk.ne t g rfl);have f:=f.only G (Blk.ne f g rfl);have n:=n.onlyT G g rfl;have B:=B.onlyT G g rfl;have x:=Below.only x G bK;have C:=hb;refine Yd fun a J=>?_;exact ⟨b32,aO,bD,J.sb,bK,C,bF,B,q,p,t,f,n,x⟩
         refine Yf rfl trivial (EfW.mono (X3 (zs:=[vi 0,vi 0,.slice none 0 0]) X0n rfl) (fun _ _ h=>⟨fun _=>by obtain ⟨_,_,_,o,_⟩:=h;exact Keep.of_below o,h⟩)) ?_;rintro _ i7 ⟨b34,rfl,eX,o,aH⟩
         have cD:b3≠b34:=by have:=q.lt;omega
         have cE:=Q0 x.size eX;have q:=q.below o;have p:=p.below o;have t:=t.below o;have f:=f.below o;have n:=n.below o;have W:=W.below o;have aN:=aN.below o;have x:=btr x o;refine Y1 12<|Yf rfl trivial (EfW.mono (Vc (X5g _ b7 ((timesS ((timesS e (pauM i) m).1) ((timesS e (pauM i) m).2) (pauM j)).1) t ((timesS ((timesS e (pauM i) m).1) ((timesS e (pauM i) m).2) (pauM j)).2) d7 d8 W.rd.top (adjS m) dI dJ aN.rd.top x3 (X2t aA) x4) X2g) (fun _ _ h=>⟨fun _=>by obtain ⟨dK,dL,rfl,aQ,D,y⟩:=h;exact D.keep,h⟩)) ?_;rintro _ i8 ⟨dK,dL,rfl,aQ,D,y⟩;have E:=x.size;obtain ⟨wm,z,hm,o⟩:=D.mid;clear hm;have g:=t;have q:=q.only z (Blk.ne q g rfl);have p:=p.only z (Blk.ne p g rfl);have f:=f.only z (Blk.ne f g rfl);have aH:=aH.only z (Blk.ne aH g rfl);have n:=n.onlyT z g rfl;have x:=Below.only x z L;have q:=q.below o;have p:=p.below o;have f:=f.below o;have aH:=aH.below o;have n:=n.below o;have x:=btr x o
         clear g o z D;have t:=y;clear y
         have aQ:=aQ.lower E;clear E;refine Y1 14<|Yh rfl trivial rfl (Vw [vi (((timesS ((timesS ((timesS e (pauM i) m).1) ((timesS e (pauM i) m).2) (pauM j)).1) ((timesS ((timesS e (pauM i) m).1) ((timesS e (pauM i) m).2) (pauM j)).2) (adjS m)).2).rows),vi (((timesS ((timesS ((timesS e (pauM i) m).1) ((timesS e (pauM i) m).2) (pauM j)).1) ((timesS ((timesS e (pauM i) m).1) ((timesS e (pauM i) m).2) (pauM j)).2) (adjS m)).2).cols),.slice dK (((timesS ((timesS ((timesS e (pauM i) m).1) ((timesS e (pauM i) m).2) (pauM j)).1) ((timesS ((timesS e (pauM i) m).1) ((timesS e (pauM i) m).2) (pauM j)).2) (adjS m)).2).cells).length dL] Xt aH) ?_;rintro _ i9 ⟨G,hb⟩;have g:=aH;have q:=q.only G (by omega);have p:=p.only G (Blk.ne p g rfl);have t:=t.only G (Blk.ne t g rfl);have f:=f.only G (Blk.ne f g rfl);have n:=n.onlyT G g rfl;have aQ:=aQ.onlyT G g rfl;have x:=Below.only x G cE;have aH:=hb;refine Yd fun a J=>?_;exact ⟨b34,dK,dL,J.sub ⟨rfl,rfl,rfl,rfl,rfl,rfl,(by first|rfl|(simp [look,aB,aC])),trivial⟩,cE,aH,cD,aQ,q,p,t,f,n,x⟩
        refine Yf rfl trivial (EfW.mono (X3 (zs:=[vi 0,vi 0,.slice none 0 0]) X0n rfl) (fun _ _ h=>⟨fun _=>by obtain ⟨_,_,_,o,_⟩:=h;exact Keep.of_below o,h⟩)) ?_;rintro _ iA ⟨b37,rfl,eY,o,aD⟩
        have cF:b3≠b37:=by have:=q.lt;omega
        have cG:=Q0 x.size eY;have q:=q.below o;have p:=p.below o;have t:=t.below o;have f:=f.below o;have n:=n.below o;have W:=W.below o;have x:=btr x o;refine Y1 11<|Yf rfl trivial (EfW.mono (Vc (X96 _ m Am cm (a9.below' x).top aA) X4o) (fun _ _ h=>⟨fun _=>by obtain ⟨eZ,f7,rfl,bN,o⟩:=h;exact Keep.of_below o,h⟩)) ?_;rintro _ iB ⟨eZ,f7,rfl,bN,o⟩;have bN:=bN.lower x.size;have q:=q.below o;have p:=p.below o;have t:=t.below o;have f:=f.below o;have aD:=aD.below o;have n:=n.below o;have W:=W.below o;have x:=btr x o;refine Y1 12<|Yf rfl trivial (EfW.mono (Vc (X5g _ b7 ((timesS ((timesS e (pauM i) m).1) ((timesS e (pauM i) m).2) (pauM j)).1) t ((timesS ((timesS e (pauM i) m).1) ((timesS e (pauM i) m).2) (pauM j)).2) d7 d8 W.rd.top (adjS m) eZ f7 bN.rd.top x3 (X2t aA) x4) X2g) (fun _ _ h=>⟨fun _=>by obtain ⟨dM,dN,rfl,aR,D,y⟩:=h;exact D.keep,h⟩)) ?_;rintro _ iC ⟨dM,dN,rfl,aR,D,y⟩;have E:=x.size;obtain ⟨wm,z,hm,o⟩:=D.mid;clear hm;have g:=t;have q:=q.only z (Blk.ne q g rfl);have p:=p.only z (Blk.ne p g rfl);have f:=f.only z (Blk.ne f g rfl);have aD:=aD.only z (Blk.ne aD g rfl);have n:=n.onlyT z g rfl;have x:=Below.only x z L;have q:=q.below o;have p:=p.below o;have f:=f.below o;have aD:=aD.below o;have n:=n.below o;have x:=btr x o
        clear g o z D;have t:=y;clear y
        have aR:=aR.lower E;clear E;refine Y1 14<|Yh rfl trivial rfl (Vw [vi (((timesS ((timesS ((timesS e (pauM i) m).1) ((timesS e (pauM i) m).2) (pauM j)).1) ((timesS ((timesS e (pauM i) m).1) ((timesS e (pauM i) m).2) (pauM j)).2) (adjS m)).2).rows),vi (((timesS ((timesS ((timesS e (pauM i) m).1) ((timesS e (pauM i) m).2) (pauM j)).1) ((timesS ((timesS e (pauM i) m).1) ((timesS e (pauM i) m).2) (pauM j)).2) (adjS m)).2).cols),.slice dM (((timesS ((timesS ((timesS e (pauM i) m).1) ((timesS e (pauM i) m).2) (pauM j)).1) ((timesS ((timesS e (pauM i) m).1) ((timesS e (pauM i) m).2) (pauM j)).2) (adjS m)).2).cells).length dN] Xt aD) ?_;rintro _ iD ⟨G,hb⟩;have g:=aD;have q:=q.only G (by omega);have p:=p.only G (Blk.ne p g rfl);have t:=t.only G (Blk.ne t g rfl);have f:=f.only G (Blk.ne f g rfl);have n:=n.onlyT G g rfl;have aR:=aR.onlyT G g rfl;have x:=Below.only x G cG;have aD:=hb;refine Yd fun a J=>?_;exact ⟨b37,dM,dN,J.sub ⟨rfl,rfl,rfl,rfl,rfl,rfl,(by first|rfl|(simp [look,aB,aC])),trivial⟩,cG,aD,cF,aR,q,p,t,f,n,x⟩
       refine Yf rfl trivial (EfW.mono (X3 (zs:=[vi 0,vi 0,.slice none 0 0]) X0n rfl) (fun _ _ h=>⟨fun _=>by obtain ⟨_,_,_,o,_⟩:=h;exact Keep.of_below o,h⟩)) ?_;rintro _ iE ⟨b41,rfl,f8,o,Q⟩
       have cH:b3≠b41:=by have:=q.lt;omega
       have cJ:=Q0 x.size f8;have q:=q.below o;have p:=p.below o;have t:=t.below o;have f:=f.below o;have n:=n.below o;have U:=U.below o;have aM:=aM.below o;have x:=btr x o;refine Y1 9<|Yf rfl trivial (EfW.mono (Vc (X5g _ b7 ((timesS e (pauM i) m).1) t ((timesS e (pauM i) m).2) d5 d6 U.rd.top (pauM j) dG dH aM.rd.top x1 (X3z aJ) x2) X2g) (fun _ _ h=>⟨fun _=>by obtain ⟨f9,fA,rfl,aS,D,y⟩:=h;exact D.keep,h⟩)) ?_;rintro _ iF ⟨f9,fA,rfl,aS,D,y⟩;have E:=x.size;obtain ⟨wm,z,hm,o⟩:=D.mid;clear hm;have g:=t;have q:=q.only z (Blk.ne q g rfl);have p:=p.only z (Blk.ne p g rfl);have f:=f.only z (Blk.ne f g rfl);have Q:=Q.only z (Blk.ne Q g rfl);have n:=n.onlyT z g rfl;have x:=Below.only x z L;have q:=q.below o;have p:=p.below o;have f:=f.below o;have Q:=Q.below o;have n:=n.below o;have x:=btr x o
       clear g o z D;have t:=y;clear y
       have aS:=aS.lower E;clear E;refine Y1 11<|Yf rfl trivial (EfW.mono (Vc (X96 _ m Am cm (a9.below' x).top aA) X4o) (fun _ _ h=>⟨fun _=>by obtain ⟨fB,fC,rfl,bO,o⟩:=h;exact Keep.of_below o,h⟩)) ?_;rintro _ iG ⟨fB,fC,rfl,bO,o⟩;have bO:=bO.lower x.size;have q:=q.below o;have p:=p.below o;have t:=t.below o;have f:=f.below o;have Q:=Q.below o;have n:=n.below o;have aS:=aS.below o;have x:=btr x o;refine Y1 12<|Yf rfl trivial (EfW.mono (Vc (X5g _ b7 ((timesS ((timesS e (pauM i) m).1) ((timesS e (pauM i) m).2) (pauM j)).1) t ((timesS ((timesS e (pauM i) m).1) ((timesS e (pauM i) m).2) (pauM j)).2) f9 fA aS.rd.top (adjS m) fB fC bO.rd.top x3 (X2t aA) x4) X2g) (fun _ _ h=>⟨fun _=>by obtain ⟨dP,dQ,rfl,aT,D,y⟩:=h;exact D.keep,h⟩)) ?_;rintro _ iH ⟨dP,dQ,rfl,aT,D,y⟩;have E:=x.size;obtain ⟨wm,z,hm,o⟩:=D.mid;clear hm;have g:=t;have q:=q.only z (Blk.ne q g rfl);have p:=p.only z (Blk.ne p g rfl);have f:=f.only z (Blk.ne f g rfl);have Q:=Q.only z (Blk.ne Q g rfl);have n:=n.onlyT z g rfl;have x:=Below.only x z L;have q:=q.below o;have p:=p.below o;have f:=f.below o;have Q:=Q.below o;have n:=n.below o;have x:=btr x o
       clear g o z D;have t:=y;clear y
       have aT:=aT.lower E;clear E;refine Y1 14<|Yh rfl trivial rfl (Vw [vi (((timesS ((timesS ((timesS e (pauM i) m).1) ((timesS e (pauM i) m).2) (pauM j)).1) ((timesS ((timesS e (pauM i) m).1) ((timesS e (pauM i) m).2) (pauM j)).2) (adjS m)).2).rows),vi (((timesS ((timesS ((timesS e (pauM i) m).1) ((timesS e (pauM i) m).2) (pauM j)).1) ((timesS ((timesS e (pauM i) m).1) ((timesS e (pauM i) m).2) (pauM j)).2) (adjS m)).2).cols),.slice dP (((timesS ((timesS ((timesS e (pauM i) m).1) ((timesS e (pauM i) m).2) (pauM j)).1) ((timesS ((timesS e (pauM i) m).1) ((timesS e (pauM i) m).2) (pauM j)).2) (adjS m)).2).cells).length dQ] Xt Q) ?_;rintro _ iI ⟨G,hb⟩;have g:=Q;have q:=q.only G (by omega);have p:=p.only G (Blk.ne p g rfl);have t:=t.only G (Blk.ne t g rfl);have f:=f.only G (Blk.ne f g rfl);have n:=n.onlyT G g rfl;have aT:=aT.onlyT G g rfl;have x:=Below.only x G cJ;have Q:=hb;refine Yd fun a J=>?_;exact ⟨b41,dP,dQ,J.sub ⟨rfl,rfl,rfl,rfl,rfl,rfl,(by first|rfl|(simp [look,aB,aC])),trivial⟩,cJ,Q,cH,aT,q,p,t,f,n,x⟩
      refine Yf rfl trivial (EfW.mono (X3 (zs:=[vi 0,vi 0,.slice none 0 0]) X0n rfl) (fun _ _ h=>⟨fun _=>by obtain ⟨_,_,_,o,_⟩:=h;exact Keep.of_below o,h⟩)) ?_;rintro _ iJ ⟨b46,rfl,fD,o,M⟩
      have cK:b3≠b46:=by have:=q.lt;omega
      have cM:=Q0 x.size fD;have q:=q.below o;have p:=p.below o;have t:=t.below o;have f:=f.below o;have n:=n.below o;have U:=U.below o;have x:=btr x o;refine Y1 8<|Yf rfl trivial (EfW.mono (Vc (Xbr _ j aJ) X6v) (fun _ _ h=>⟨fun _=>by obtain ⟨fE,fF,rfl,bP,o⟩:=h;exact Keep.of_below o,h⟩)) ?_;rintro _ iK ⟨fE,fF,rfl,bP,o⟩;have bP:=bP.lower x.size;have q:=q.below o;have p:=p.below o;have t:=t.below o;have f:=f.below o;have M:=M.below o;have n:=n.below o;have U:=U.below o;have x:=btr x o;refine Y1 9<|Yf rfl trivial (EfW.mono (Vc (X5g _ b7 ((timesS e (pauM i) m).1) t ((timesS e (pauM i) m).2) d5 d6 U.rd.top (pauM j) fE fF bP.rd.top x1 (X3z aJ) x2) X2g) (fun _ _ h=>⟨fun _=>by obtain ⟨fG,fH,rfl,aU,D,y⟩:=h;exact D.keep,h⟩)) ?_;rintro _ iM ⟨fG,fH,rfl,aU,D,y⟩;have E:=x.size;obtain ⟨wm,z,hm,o⟩:=D.mid;clear hm;have g:=t;have q:=q.only z (Blk.ne q g rfl);have p:=p.only z (Blk.ne p g rfl);have f:=f.only z (Blk.ne f g rfl);have M:=M.only z (Blk.ne M g rfl);have n:=n.onlyT z g rfl;have x:=Below.only x z L;have q:=q.below o;have p:=p.below o;have f:=f.below o;have M:=M.below o;have n:=n.below o;have x:=btr x o
      clear g o z D;have t:=y;clear y
      have aU:=aU.lower E;clear E;refine Y1 11<|Yf rfl trivial (EfW.mono (Vc (X96 _ m Am cm (a9.below' x).top aA) X4o) (fun _ _ h=>⟨fun _=>by obtain ⟨fI,fJ,rfl,bQ,o⟩:=h;exact Keep.of_below o,h⟩)) ?_;rintro _ iN ⟨fI,fJ,rfl,bQ,o⟩;have bQ:=bQ.lower x.size;have q:=q.below o;have p:=p.below o;have t:=t.below o;have f:=f.below o;have M:=M.below o;have n:=n.below o;have aU:=aU.below o;have x:=btr x o;refine Y1 12<|Yf rfl trivial (EfW.mono (Vc (X5g _ b7 ((timesS ((timesS e (pauM i) m).1) ((timesS e (pauM i) m).2) (pauM j)).1) t ((timesS ((timesS e (pauM i) m).1) ((timesS e (pauM i) m).2) (pauM j)).2) fG fH aU.rd.top (adjS m) fI fJ bQ.rd.top x3 (X2t aA) x4) X2g) (fun _ _ h=>⟨fun _=>by obtain ⟨dR,dS,rfl,aW,D,y⟩:=h;exact D.keep,h⟩)) ?_;rintro _ iO ⟨dR,dS,rfl,aW,D,y⟩;have E:=x.size;obtain ⟨wm,z,hm,o⟩:=D.mid;clear hm;have g:=t;have q:=q.only z (Blk.ne q g rfl);have p:=p.only z (Blk.ne p g rfl);have f:=f.only z (Blk.ne f g rfl);have M:=M.only z (Blk.ne M g rfl);have n:=n.onlyT z g rfl;have x:=Below.only x z L;have q:=q.below o;have p:=p.below o;have f:=f.below o;have M:=M.below o;have n:=n.below o;have x:=btr x o
      clear g o z D;have t:=y;clear y
      have aW:=aW.lower E;clear E;refine Y1 14<|Yh rfl trivial rfl (Vw [vi (((timesS ((timesS ((timesS e (pauM i) m).1) ((timesS e (pauM i) m).2) (pauM j)).1) ((timesS ((timesS e (pauM i) m).1) ((timesS e (pauM i) m).2) (pauM j)).2) (adjS m)).2).rows),vi (((timesS ((timesS ((timesS e (pauM i) m).1) ((timesS e (pauM i) m).2) (pauM j)).1) ((timesS ((timesS e (pauM i) m).1) ((timesS e (pauM i) m).2) (pauM j)).2) (adjS m)).2).cols),.slice dR (((timesS ((timesS ((timesS e (pauM i) m).1) ((timesS e (pauM i) m).2) (pauM j)).1) ((timesS ((timesS e (pauM i) m).1) ((timesS e (pauM i) m).2) (pauM j)).2) (adjS m)).2).cells).length dS] Xt M) ?_;rintro _ iP ⟨G,hb⟩;have g:=M;have q:=q.only G (by omega);have p:=p.only G (Blk.ne p g rfl);have t:=t.only G (Blk.ne t g rfl);have f:=f.only G (Blk.ne f g rfl);have n:=n.onlyT G g rfl;have aW:=aW.onlyT G g rfl;have x:=Below.only x G cM;have M:=hb;refine Yd fun a J=>?_;exact ⟨b46,dR,dS,J.sub ⟨rfl,rfl,rfl,rfl,rfl,rfl,(by first|rfl|(simp [look,aB,aC])),trivial⟩,cM,M,cK,aW,q,p,t,f,n,x⟩
     refine Yf rfl trivial (EfW.mono (X3 (zs:=[vi 0,vi 0,.slice none 0 0]) X0n rfl) (fun _ _ h=>⟨fun _=>by obtain ⟨_,_,_,o,_⟩:=h;exact Keep.of_below o,h⟩)) ?_;rintro _ iQ ⟨b52,rfl,fK,o,I⟩
     have cO:b3≠b52:=by have:=q.lt;omega
     have cP:=Q0 x.size fK;have q:=q.below o;have p:=p.below o;have t:=t.below o;have f:=f.below o;have n:=n.below o;have aL:=aL.below o;have x:=btr x o;refine Y1 6<|Yf rfl trivial (EfW.mono (Vc (X5g _ b7 e t (pauM i) dE dF aL.rd.top m Am cm (a9.below' x).top (X3z b9) aA x5) X2g) (fun _ _ h=>⟨fun _=>by obtain ⟨fL,fM,rfl,aX,D,y⟩:=h;exact D.keep,h⟩)) ?_;rintro _ iS ⟨fL,fM,rfl,aX,D,y⟩;have E:=x.size;obtain ⟨wm,z,hm,o⟩:=D.mid;clear hm;have g:=t;have q:=q.only z (Blk.ne q g rfl);have p:=p.only z (Blk.ne p g rfl);have f:=f.only z (Blk.ne f g rfl);have I:=I.only z (Blk.ne I g rfl);have n:=n.onlyT z g rfl;have x:=Below.only x z L;have q:=q.below o;have p:=p.below o;have f:=f.below o;have I:=I.below o;have n:=n.below o;have x:=btr x o
     clear g o z D;have t:=y;clear y
     have aX:=aX.lower E;clear E;refine Y1 8<|Yf rfl trivial (EfW.mono (Vc (Xbr _ j aJ) X6v) (fun _ _ h=>⟨fun _=>by obtain ⟨fN,fO,rfl,bR,o⟩:=h;exact Keep.of_below o,h⟩)) ?_;rintro _ iT ⟨fN,fO,rfl,bR,o⟩;have bR:=bR.lower x.size;have q:=q.below o;have p:=p.below o;have t:=t.below o;have f:=f.below o;have I:=I.below o;have n:=n.below o;have aX:=aX.below o;have x:=btr x o;refine Y1 9<|Yf rfl trivial (EfW.mono (Vc (X5g _ b7 ((timesS e (pauM i) m).1) t ((timesS e (pauM i) m).2) fL fM aX.rd.top (pauM j) fN fO bR.rd.top x1 (X3z aJ) x2) X2g) (fun _ _ h=>⟨fun _=>by obtain ⟨fP,fQ,rfl,aY,D,y⟩:=h;exact D.keep,h⟩)) ?_;rintro _ iU ⟨fP,fQ,rfl,aY,D,y⟩;have E:=x.size;obtain ⟨wm,z,hm,o⟩:=D.mid;clear hm;have g:=t;have q:=q.only z (Blk.ne q g rfl);have p:=p.only z (Blk.ne p g rfl);have f:=f.only z (Blk.ne f g rfl);have I:=I.only z (Blk.ne I g rfl);have n:=n.onlyT z g rfl;have x:=Below.only x z L;have q:=q.below o;have p:=p.below o;have f:=f.below o;have I:=I.below o;have n:=n.below o;have x:=btr x o
     clear g o z D;have t:=y;clear y
     have aY:=aY.lower E;clear E;refine Y1 11<|Yf rfl trivial (EfW.mono (Vc (X96 _ m Am cm (a9.below' x).top aA) X4o) (fun _ _ h=>⟨fun _=>by obtain ⟨fR,fS,rfl,bS,o⟩:=h;exact Keep.of_below o,h⟩)) ?_;rintro _ iV ⟨fR,fS,rfl,bS,o⟩;have bS:=bS.lower x.size;have q:=q.below o;have p:=p.below o;have t:=t.below o;have f:=f.below o;have I:=I.below o;have n:=n.below o;have aY:=aY.below o;have x:=btr x o;refine Y1 12<|Yf rfl trivial (EfW.mono (Vc (X5g _ b7 ((timesS ((timesS e (pauM i) m).1) ((timesS e (pauM i) m).2) (pauM j)).1) t ((timesS ((timesS e (pauM i) m).1) ((timesS e (pauM i) m).2) (pauM j)).2) fP fQ aY.rd.top (adjS m) fR fS bS.rd.top x3 (X2t aA) x4) X2g) (fun _ _ h=>⟨fun _=>by obtain ⟨dT,dU,rfl,aZ,D,y⟩:=h;exact D.keep,h⟩)) ?_;rintro _ iW ⟨dT,dU,rfl,aZ,D,y⟩;have E:=x.size;obtain ⟨wm,z,hm,o⟩:=D.mid;clear hm;have g:=t;have q:=q.only z (Blk.ne q g rfl);have p:=p.only z (Blk.ne p g rfl);have f:=f.only z (Blk.ne f g rfl);have I:=I.only z (Blk.ne I g rfl);have n:=n.onlyT z g rfl;have x:=Below.only x z L;have q:=q.below o;have p:=p.below o;have f:=f.below o;have I:=I.below o;have n:=n.below o;have x:=btr x o
     clear g o z D;have t:=y;clear y
     have aZ:=aZ.lower E;clear E;refine Y1 14<|Yh rfl trivial rfl (Vw [vi (((timesS ((timesS ((timesS e (pauM i) m).1) ((timesS e (pauM i) m).2) (pauM j)).1) ((timesS ((timesS e (pauM i) m).1) ((timesS e (pauM i) m).2) (pauM j)).2) (adjS m)).2).rows),vi (((timesS ((timesS ((timesS e (pauM i) m).1) ((timesS e (pauM i) m).2) (pauM j)).1) ((timesS ((timesS e (pauM i) m).1) ((timesS e (pauM i) m).2) (pauM j)).2) (adjS m)).2).cols),.slice dT (((timesS ((timesS ((timesS e (pauM i) m).1) ((timesS e (pauM i) m).2) (pauM j)).1) ((timesS ((timesS e (pauM i) m).1) ((timesS e (pauM i) m).2) (pauM j)).2) (adjS m)).2).cells).length dU] Xt I) ?_;rintro _ iX ⟨G,hb⟩;have g:=I;have q:=q.only G (by omega);have p:=p.only G (Blk.ne p g rfl);have t:=t.only G (Blk.ne t g rfl);have f:=f.only G (Blk.ne f g rfl);have n:=n.onlyT G g rfl;have aZ:=aZ.onlyT G g rfl;have x:=Below.only x G cP;have I:=hb;refine Yd fun a J=>?_;exact ⟨b52,dT,dU,J.sub ⟨rfl,rfl,rfl,rfl,rfl,rfl,(by first|rfl|(simp [look,aB,aC])),trivial⟩,cP,I,cO,aZ,q,p,t,f,n,x⟩
    refine Yf rfl trivial (EfW.mono (X3 (zs:=[vi 0,vi 0,.slice none 0 0]) X0n rfl) (fun _ _ h=>⟨fun _=>by obtain ⟨_,_,_,o,_⟩:=h;exact Keep.of_below o,h⟩)) ?_;rintro _ iY ⟨b59,rfl,fT,o,H⟩
    have cQ:b3≠b59:=by have:=q.lt;omega
    have cR:=Q0 x.size fT;have q:=q.below o;have p:=p.below o;have t:=t.below o;have f:=f.below o;have n:=n.below o;have x:=btr x o;refine Y1 4<|Yf rfl trivial (EfW.mono (Vc (Xbr _ i b9) X6v) (fun _ _ h=>⟨fun _=>by obtain ⟨fU,fV,rfl,bU,o⟩:=h;exact Keep.of_below o,h⟩)) ?_;rintro _ iZ ⟨fU,fV,rfl,bU,o⟩;have bU:=bU.lower x.size;have q:=q.below o;have p:=p.below o;have t:=t.below o;have f:=f.below o;have H:=H.below o;have n:=n.below o;have x:=btr x o;refine Y1 6<|Yf rfl trivial (EfW.mono (Vc (X5g _ b7 e t (pauM i) fU fV bU.rd.top m Am cm (a9.below' x).top (X3z b9) aA x5) X2g) (fun _ _ h=>⟨fun _=>by obtain ⟨fW,fX,rfl,b0,D,y⟩:=h;exact D.keep,h⟩)) ?_;rintro _ j0 ⟨fW,fX,rfl,b0,D,y⟩;have E:=x.size;obtain ⟨wm,z,hm,o⟩:=D.mid;clear hm;have g:=t;have q:=q.only z (Blk.ne q g rfl);have p:=p.only z (Blk.ne p g rfl);have f:=f.only z (Blk.ne f g rfl);have H:=H.only z (Blk.ne H g rfl);have n:=n.onlyT z g rfl;have x:=Below.only x z L;have q:=q.below o;have p:=p.below o;have f:=f.below o;have H:=H.below o;have n:=n.below o;have x:=btr x o
    clear g o z D;have t:=y;clear y
    have b0:=b0.lower E;clear E;refine Y1 8<|Yf rfl trivial (EfW.mono (Vc (Xbr _ j aJ) X6v) (fun _ _ h=>⟨fun _=>by obtain ⟨fY,fZ,rfl,bW,o⟩:=h;exact Keep.of_below o,h⟩)) ?_;rintro _ j1 ⟨fY,fZ,rfl,bW,o⟩;have bW:=bW.lower x.size;have q:=q.below o;have p:=p.below o;have t:=t.below o;have f:=f.below o;have H:=H.below o;have n:=n.below o;have b0:=b0.below o;have x:=btr x o;refine Y1 9<|Yf rfl trivial (EfW.mono (Vc (X5g _ b7 ((timesS e (pauM i) m).1) t ((timesS e (pauM i) m).2) fW fX b0.rd.top (pauM j) fY fZ bW.rd.top x1 (X3z aJ) x2) X2g) (fun _ _ h=>⟨fun _=>by obtain ⟨g7,g8,rfl,b1,D,y⟩:=h;exact D.keep,h⟩)) ?_;rintro _ j4 ⟨g7,g8,rfl,b1,D,y⟩;have E:=x.size;obtain ⟨wm,z,hm,o⟩:=D.mid;clear hm;have g:=t;have q:=q.only z (Blk.ne q g rfl);have p:=p.only z (Blk.ne p g rfl);have f:=f.only z (Blk.ne f g rfl);have H:=H.only z (Blk.ne H g rfl);have n:=n.onlyT z g rfl;have x:=Below.only x z L;have q:=q.below o;have p:=p.below o;have f:=f.below o;have H:=H.below o;have n:=n.below o;have x:=btr x o
    clear g o z D;have t:=y;clear y
    have b1:=b1.lower E;clear E;refine Y1 11<|Yf rfl trivial (EfW.mono (Vc (X96 _ m Am cm (a9.below' x).top aA) X4o) (fun _ _ h=>⟨fun _=>by obtain ⟨g9,gA,rfl,bZ,o⟩:=h;exact Keep.of_below o,h⟩)) ?_;rintro _ j5 ⟨g9,gA,rfl,bZ,o⟩;have bZ:=bZ.lower x.size;have q:=q.below o;have p:=p.below o;have t:=t.below o;have f:=f.below o;have H:=H.below o;have n:=n.below o;have b1:=b1.below o;have x:=btr x o;refine Y1 12<|Yf rfl trivial (EfW.mono (Vc (X5g _ b7 ((timesS ((timesS e (pauM i) m).1) ((timesS e (pauM i) m).2) (pauM j)).1) t ((timesS ((timesS e (pauM i) m).1) ((timesS e (pauM i) m).2) (pauM j)).2) g7 g8 b1.rd.top (adjS m) g9 gA bZ.rd.top x3 (X2t aA) x4) X2g) (fun _ _ h=>⟨fun _=>by obtain ⟨dW,dX,rfl,b2,D,y⟩:=h;exact D.keep,h⟩)) ?_;rintro _ j6 ⟨dW,dX,rfl,b2,D,y⟩;have E:=x.size;obtain ⟨wm,z,hm,o⟩:=D.mid;clear hm;have g:=t;have q:=q.only z (Blk.ne q g rfl);have p:=p.only z (Blk.ne p g rfl);have f:=f.only z (Blk.ne f g rfl);have H:=H.only z (Blk.ne H g rfl);have n:=n.onlyT z g rfl;have x:=Below.only x z L;have q:=q.below o;have p:=p.below o;have f:=f.below o;have H:=H.below o;have n:=n.below o;have x:=btr x o
    clear g o z D;have t:=y;clear y
    have b2:=b2.lower E;clear E;refine Y1 14<|Yh rfl trivial rfl (Vw [vi (((timesS ((timesS ((timesS e (pauM i) m).1) ((timesS e (pauM i) m).2) (pauM j)).1) ((timesS ((timesS e (pauM i) m).1) ((timesS e (pauM i) m).2) (pauM j)).2) (adjS m)).2).rows),vi (((timesS ((timesS ((timesS e (pauM i) m).1) ((timesS e (pauM i) m).2) (pauM j)).1) ((timesS ((timesS e (pauM i) m).1) ((timesS e (pauM i) m).2) (pauM j)).2) (adjS m)).2).cols),.slice dW (((timesS ((timesS ((timesS e (pauM i) m).1) ((timesS e (pauM i) m).2) (pauM j)).1) ((timesS ((timesS e (pauM i) m).1) ((timesS e (pauM i) m).2) (pauM j)).2) (adjS m)).2).cells).length dX] Xt H) ?_;rintro _ j7 ⟨G,hb⟩;have g:=H;have q:=q.only G (by omega);have p:=p.only G (Blk.ne p g rfl);have t:=t.only G (Blk.ne t g rfl);have f:=f.only G (Blk.ne f g rfl);have n:=n.onlyT G g rfl;have b2:=b2.onlyT G g rfl;have x:=Below.only x G cR;have H:=hb;refine Yd fun a J=>?_;exact ⟨b59,dW,dX,J.sub ⟨rfl,rfl,rfl,rfl,rfl,rfl,(by first|rfl|(simp [look,aB,aC])),trivial⟩,cR,H,cQ,b2,q,p,t,f,n,x⟩
   rintro a j8 ⟨b32,aO,bD,J,bK,C,bF,B,q,p,t,f,n,x⟩;refine eV _ _<|Q5 fun _ gB=>?_;refine X09 (fun a w=>∃ aP,Fr a 59 [(1,.pointer (some ⟨b3,0,none⟩)),(2,.pointer (some ⟨b5,0,none⟩)),(4,.pointer (some ⟨b7,0,none⟩)),(5,.pointer (some ⟨b10,0,none⟩)),(6,vi (i:Int)),(7,vi (j:Int)),(9,.pointer (some ⟨aP,0,none⟩))]∧w0.heap.size≤aP∧Blk w aP 86 [vi (((sAdd ((timesS ((timesS ((timesS e (pauM i) m).1) ((timesS e (pauM i) m).2) (pauM j)).1) ((timesS ((timesS e (pauM i) m).1) ((timesS e (pauM i) m).2) (pauM j)).2) (adjS m)).1) (((timesS ((timesS ((timesS e (pauM i) m).1) ((timesS e (pauM i) m).2) (pauM j)).1) ((timesS ((timesS e (pauM i) m).1) ((timesS e (pauM i) m).2) (pauM j)).2) (adjS m)).2).cells.getD 0 dZ) (((timesS ((timesS ((timesS e (pauM i) m).1) ((timesS e (pauM i) m).2) (pauM j)).1) ((timesS ((timesS e (pauM i) m).1) ((timesS e (pauM i) m).2) (pauM j)).2) (adjS m)).2).cells.getD 3 dZ)).2).num.a),vi (((sAdd ((timesS ((timesS ((timesS e (pauM i) m).1) ((timesS e (pauM i) m).2) (pauM j)).1) ((timesS ((timesS e (pauM i) m).1) ((timesS e (pauM i) m).2) (pauM j)).2) (adjS m)).1) (((timesS ((timesS ((timesS e (pauM i) m).1) ((timesS e (pauM i) m).2) (pauM j)).1) ((timesS ((timesS e (pauM i) m).1) ((timesS e (pauM i) m).2) (pauM j)).2) (adjS m)).2).cells.getD 0 dZ) (((timesS ((timesS ((timesS e (pauM i) m).1) ((timesS e (pauM i) m).2) (pauM j)).1) ((timesS ((timesS e (pauM i) m).1) ((timesS e (pauM i) m).2) (pauM j)).2) (adjS m)).2).cells.getD 3 dZ)).2).num.b),vi (((sAdd ((timesS ((timesS ((timesS e (pauM i) m).1) ((timesS e (pauM i) m).2) (pauM j)).1) ((timesS ((timesS e (pauM i) m).1) ((timesS e (pauM i) m).2) (pauM j)).2) (adjS m)).1) (((timesS ((timesS ((timesS e (pauM i) m).1) ((timesS e (pauM i) m).2) (pauM j)).1) ((timesS ((timesS e (pauM i) m).1) ((timesS e (pauM i) m).2) (pauM j)).2) (adjS m)).2).cells.getD 0 dZ) (((timesS ((timesS ((timesS e (pauM i) m).1) ((timesS e (pauM i) m).2) (pauM j)).1) ((timesS ((timesS e (pauM i) m).1) ((timesS e (pauM i) m).2) (pauM j)).2) (adjS m)).2).cells.getD 3 dZ)).2).num.c),vi (((sAdd ((timesS ((timesS ((timesS e (pauM i) m).1) ((timesS e (pauM i) m).2) (pauM j)).1) ((timesS ((timesS e (pauM i) m).1) ((timesS e (pauM i) m).2) (pauM j)).2) (adjS m)).1) (((timesS ((timesS ((timesS e (pauM i) m).1) ((timesS e (pauM i) m).2) (pauM j)).1) ((timesS ((timesS e (pauM i) m).1) ((timesS e (pauM i) m).2) (pauM j)).2) (adjS m)).2).cells.getD 0 dZ) (((timesS ((timesS ((timesS e (pauM i) m).1) ((timesS e (pauM i) m).2) (pauM j)).1) ((timesS ((timesS e (pauM i) m).1) ((timesS e (pauM i) m).2) (pauM j)).2) (adjS m)).2).cells.getD 3 dZ)).2).num.d),vi (((sAdd ((timesS ((timesS ((timesS e (pauM i) m).1) ((timesS e (pauM i) m).2) (pauM j)).1) ((timesS ((timesS e (pauM i) m).1) ((timesS e (pauM i) m).2) (pauM j)).2) (adjS m)).1) (((timesS ((timesS ((timesS e (pauM i) m).1) ((timesS e (pauM i) m).2) (pauM j)).1) ((timesS ((timesS e (pauM i) m).1) ((timesS e (pauM i) m).2) (pauM j)).2) (adjS m)).2).cells.getD 0 dZ) (((timesS ((timesS ((timesS e (pauM i) m).1) ((timesS e (pauM i) m).2) (pauM j)).1) ((timesS ((timesS e (pauM i) m).1) ((timesS e (pauM i) m).2) (pauM j)).2) (adjS m)).2).cells.getD 3 dZ)).2).exp)]∧AwayR m.cells Am aP∧Away bC aP∧Away aO aP∧Blk w b3 32 [vi m.rows,vi m.cols,.slice Am m.cells.length cm]∧Blk w b5 66 [.slice none 0 0]∧Blk w b7 95 [.bool ((sAdd ((timesS ((timesS ((timesS e (pauM i) m).1) ((timesS e (pauM i) m).2) (pauM j)).1) ((timesS ((timesS e (pauM i) m).1) ((timesS e (pauM i) m).2) (pauM j)).2) (adjS m)).1) (((timesS ((timesS ((timesS e (pauM i) m).1) ((timesS e (pauM i) m).2) (pauM j)).1) ((timesS ((timesS e (pauM i) m).1) ((timesS e (pauM i) m).2) (pauM j)).2) (adjS m)).2).cells.getD 0 dZ) (((timesS ((timesS ((timesS e (pauM i) m).1) ((timesS e (pauM i) m).2) (pauM j)).1) ((timesS ((timesS e (pauM i) m).1) ((timesS e (pauM i) m).2) (pauM j)).2) (adjS m)).2).cells.getD 3 dZ)).1)]∧Blk w b10 66 [.slice bC l2.length bE]∧Blk w b32 32 [vi (((timesS ((timesS ((timesS e (pauM i) m).1) ((timesS e (pauM i) m).2) (pauM j)).1) ((timesS ((timesS e (pauM i) m).1) ((timesS e (pauM i) m).2) (pauM j)).2) (adjS m)).2).rows),vi (((timesS ((timesS ((timesS e (pauM i) m).1) ((timesS e (pauM i) m).2) (pauM j)).1) ((timesS ((timesS e (pauM i) m).1) ((timesS e (pauM i) m).2) (pauM j)).2) (adjS m)).2).cols),.slice aO (((timesS ((timesS ((timesS e (pauM i) m).1) ((timesS e (pauM i) m).2) (pauM j)).1) ((timesS ((timesS e (pauM i) m).1) ((timesS e (pauM i) m).2) (pauM j)).2) (adjS m)).2).cells).length bD]∧Own w w0.heap.size 86 5 encD bC bE l2∧Own w w0.heap.size 86 5 encD aO bD (((timesS ((timesS ((timesS e (pauM i) m).1) ((timesS e (pauM i) m).2) (pauM j)).1) ((timesS ((timesS e (pauM i) m).1) ((timesS e (pauM i) m).2) (pauM j)).2) (adjS m)).2).cells)∧Below w0.heap.size w0 w) ?_ ?_
   ·refine Xy (some b7) (fun j=>[11].contains j) mixed ?_;intro j9 o;have q:=q.below o;have p:=p.below o;have t:=t.below o;have f:=f.below o;have C:=C.below o;have n:=n.below o;have B:=B.below o;have x:=btr x o;refine Yb J<|Yo 0 rfl (fun _=>Xa rfl)<|Yo 1 rfl (fun _=>Vd rfl X0m 2) ?_;refine Yw 2 rfl trivial (fun w1 h1=>X0 rfl X0c ((C.only h1 (Blk.ne C t rfl)).at 2)) ?_;refine Ya (k:=0) (u:=(((timesS ((timesS ((timesS e (pauM i) m).1) ((timesS e (pauM i) m).2) (pauM j)).1) ((timesS ((timesS e (pauM i) m).1) ((timesS e (pauM i) m).2) (pauM j)).2) (adjS m)).2).cells.getD 0 dZ)) (enc:=encD) (l:=((timesS ((timesS ((timesS e (pauM i) m).1) ((timesS e (pauM i) m).2) (pauM j)).1) ((timesS ((timesS e (pauM i) m).1) ((timesS e (pauM i) m).2) (pauM j)).2) (adjS m)).2).cells) 3 rfl trivial t rfl rfl rfl Xs Xb Xw B.rd (Xeo x6 (by decide)) rfl ?_;intro jA dY d9;refine Yw 4 rfl trivial (fun w1 h1=>Xz (l:=[vi ((((timesS ((timesS ((timesS e (pauM i) m).1) ((timesS e (pauM i) m).2) (pauM j)).1) ((timesS ((timesS e (pauM i) m).1) ((timesS e (pauM i) m).2) (pauM j)).2) (adjS m)).2).cells.getD 0 dZ).num.a),vi ((((timesS ((timesS ((timesS e (pauM i) m).1) ((timesS e (pauM i) m).2) (pauM j)).1) ((timesS ((timesS e (pauM i) m).1) ((timesS e (pauM i) m).2) (pauM j)).2) (adjS m)).2).cells.getD 0 dZ).num.b),vi ((((timesS ((timesS ((timesS e (pauM i) m).1) ((timesS e (pauM i) m).2) (pauM j)).1) ((timesS ((timesS e (pauM i) m).1) ((timesS e (pauM i) m).2) (pauM j)).2) (adjS m)).2).cells.getD 0 dZ).num.c),vi ((((timesS ((timesS ((timesS e (pauM i) m).1) ((timesS e (pauM i) m).2) (pauM j)).1) ((timesS ((timesS e (pauM i) m).1) ((timesS e (pauM i) m).2) (pauM j)).2) (adjS m)).2).cells.getD 0 dZ).num.d),vi ((((timesS ((timesS ((timesS e (pauM i) m).1) ((timesS e (pauM i) m).2) (pauM j)).1) ((timesS ((timesS e (pauM i) m).1) ((timesS e (pauM i) m).2) (pauM j)).2) (adjS m)).2).cells.getD 0 dZ).exp)]) rfl X6 (dY.only h1 d9) rfl) ?_
    refine Yo 5 rfl (fun _=>Vd rfl X0m 2) ?_;refine Yw 6 rfl trivial (fun w1 h1=>X0 rfl X0c ((C.only h1 (Blk.ne C t rfl)).at 2)) ?_;refine Ya (k:=3) (u:=(((timesS ((timesS ((timesS e (pauM i) m).1) ((timesS e (pauM i) m).2) (pauM j)).1) ((timesS ((timesS e (pauM i) m).1) ((timesS e (pauM i) m).2) (pauM j)).2) (adjS m)).2).cells.getD 3 dZ)) (enc:=encD) (l:=((timesS ((timesS ((timesS e (pauM i) m).1) ((timesS e (pauM i) m).2) (pauM j)).1) ((timesS ((timesS e (pauM i) m).1) ((timesS e (pauM i) m).2) (pauM j)).2) (adjS m)).2).cells) 7 rfl trivial t rfl rfl rfl Xs Xb Xw B.rd (Xeo x6 (by decide)) rfl ?_;intro jB e8 dA;refine Yw 8 rfl trivial (fun w1 h1=>Xz (l:=[vi ((((timesS ((timesS ((timesS e (pauM i) m).1) ((timesS e (pauM i) m).2) (pauM j)).1) ((timesS ((timesS e (pauM i) m).1) ((timesS e (pauM i) m).2) (pauM j)).2) (adjS m)).2).cells.getD 3 dZ).num.a),vi ((((timesS ((timesS ((timesS e (pauM i) m).1) ((timesS e (pauM i) m).2) (pauM j)).1) ((timesS ((timesS e (pauM i) m).1) ((timesS e (pauM i) m).2) (pauM j)).2) (adjS m)).2).cells.getD 3 dZ).num.b),vi ((((timesS ((timesS ((timesS e (pauM i) m).1) ((timesS e (pauM i) m).2) (pauM j)).1) ((timesS ((timesS e (pauM i) m).1) ((timesS e (pauM i) m).2) (pauM j)).2) (adjS m)).2).cells.getD 3 dZ).num.c),vi ((((timesS ((timesS ((timesS e (pauM i) m).1) ((timesS e (pauM i) m).2) (pauM j)).1) ((timesS ((timesS e (pauM i) m).1) ((timesS e (pauM i) m).2) (pauM j)).2) (adjS m)).2).cells.getD 3 dZ).num.d),vi ((((timesS ((timesS ((timesS e (pauM i) m).1) ((timesS e (pauM i) m).2) (pauM j)).1) ((timesS ((timesS e (pauM i) m).1) ((timesS e (pauM i) m).2) (pauM j)).2) (adjS m)).2).cells.getD 3 dZ).exp)]) rfl X6 (e8.only h1 dA) rfl) ?_;refine Y2 9 10 ?_ ?_
    ·refine Yf rfl trivial (EfW.mono (Vc (Xpm _ b7 ((timesS ((timesS ((timesS e (pauM i) m).1) ((timesS e (pauM i) m).2) (pauM j)).1) ((timesS ((timesS e (pauM i) m).1) ((timesS e (pauM i) m).2) (pauM j)).2) (adjS m)).1) t (((timesS ((timesS ((timesS e (pauM i) m).1) ((timesS e (pauM i) m).2) (pauM j)).1) ((timesS ((timesS e (pauM i) m).1) ((timesS e (pauM i) m).2) (pauM j)).2) (adjS m)).2).cells.getD 0 dZ) (((timesS ((timesS ((timesS e (pauM i) m).1) ((timesS e (pauM i) m).2) (pauM j)).1) ((timesS ((timesS e (pauM i) m).1) ((timesS e (pauM i) m).2) (pauM j)).2) (adjS m)).2).cells.getD 3 dZ) (X5d x7 0) (X5d x7 3)) Xd1) (fun _ _ h=>⟨fun _=>by obtain ⟨rfl,D,y⟩:=h;exact D.keep,h⟩)) ?_;rintro _ jC ⟨rfl,D,y⟩;obtain ⟨wm,z,hm,o⟩:=D.mid;clear hm;have g:=t;have q:=q.only z (Blk.ne q g rfl);have p:=p.only z (Blk.ne p g rfl);have f:=f.only z (Blk.ne f g rfl);have C:=C.only z (Blk.ne C g rfl);have n:=n.onlyT z g rfl;have B:=B.onlyT z g rfl;have x:=Below.only x z L;have q:=q.below o;have p:=p.below o;have f:=f.below o;have C:=C.below o;have n:=n.below o;have B:=B.below o;have x:=btr x o
     clear g o z D;have t:=y;clear y;refine Y1 10<|Yf rfl trivial (EfW.mono (X3 (zs:=[vi 0,vi 0,vi 0,vi 0,vi 0]) X0l rfl) (fun _ _ h=>⟨fun _=>by obtain ⟨_,_,_,o,_⟩:=h;exact Keep.of_below o,h⟩)) ?_;rintro _ jD ⟨aP,rfl,cA,o,N⟩;have bL:=Q0 x.size cA;have bG:=(a9.below' x).away cA;have aE:=n.away cA;have aK:=B.away cA;have q:=q.below o;have p:=p.below o;have t:=t.below o;have f:=f.below o;have C:=C.below o;have n:=n.below o;have B:=B.below o;have x:=btr x o;refine Y1 11<|Yh rfl trivial rfl (Vw [vi (((sAdd ((timesS ((timesS ((timesS e (pauM i) m).1) ((timesS e (pauM i) m).2) (pauM j)).1) ((timesS ((timesS e (pauM i) m).1) ((timesS e (pauM i) m).2) (pauM j)).2) (adjS m)).1) (((timesS ((timesS ((timesS e (pauM i) m).1) ((timesS e (pauM i) m).2) (pauM j)).1) ((timesS ((timesS e (pauM i) m).1) ((timesS e (pauM i) m).2) (pauM j)).2) (adjS m)).2).cells.getD 0 dZ) (((timesS ((timesS ((timesS e (pauM i) m).1) ((timesS e (pauM i) m).2) (pauM j)).1) ((timesS ((timesS e (pauM i) m).1) ((timesS e (pauM i) m).2) (pauM j)).2) (adjS m)).2).cells.getD 3 dZ)).2).num.a),vi (((sAdd ((timesS ((timesS ((timesS e (pauM i) m).1) ((timesS e (pauM i) m).2) (pauM j)).1) ((timesS ((timesS e (pauM i) m).1) ((timesS e (pauM i) m).2) (pauM j)).2) (adjS m)).1) (((timesS ((timesS ((timesS e (pauM i) m).1) ((timesS e (pauM i) m).2) (pauM j)).1) ((timesS ((timesS e (pauM i) m).1) ((timesS e (pauM i) m).2) (pauM j)).2) (adjS m)).2).cells.getD 0 dZ) (((timesS ((timesS ((timesS e (pauM i) m).1) ((timesS e (pauM i) m).2) (pauM j)).1) ((timesS ((timesS e (pauM i) m).1) ((timesS e (pauM i) m).2) (pauM j)).2) (adjS m)).2).cells.getD 3 dZ)).2).num.b),vi (((sAdd ((timesS ((timesS ((timesS e (pauM i) m).1) ((timesS e (pauM i) m).2) (pauM j)).1) ((timesS ((timesS e (pauM i) m).1) ((timesS e (pauM i) m).2) (pauM j)).2) (adjS m)).1) (((timesS ((timesS ((timesS e (pauM i) m).1) ((timesS e (pauM i) m).2) (pauM j)).1) ((timesS ((timesS e (pauM i) m).1) ((timesS e (pauM i) m).2) (pauM j)).2) (adjS m)).2).cells.getD 0 dZ) (((timesS ((timesS ((timesS e (pauM i) m).1) ((timesS e (pauM i) m).2) (pauM j)).1) ((timesS ((timesS e (pauM i) m).1) ((timesS e (pauM i) m).2) (pauM j)).2) (adjS m)).2).cells.getD 3 dZ)).2).num.c),vi (((sAdd ((timesS ((timesS ((timesS e (pauM i) m).1) ((timesS e (pauM i) m).2) (pauM j)).1) ((timesS ((timesS e (pauM i) m).1) ((timesS e (pauM i) m).2) (pauM j)).2) (adjS m)).1) (((timesS ((timesS ((timesS e (pauM i) m).1) ((timesS e (pauM i) m).2) (pauM j)).1) ((timesS ((timesS e (pauM i) m).1) ((timesS e (pauM i) m).2) (pauM j)).2) (adjS m)).2).cells.getD 0 dZ) (((timesS ((timesS ((timesS e (pauM i) m).1) ((timesS e (pauM i) m).2) (pauM j)).1) ((timesS ((timesS e (pauM i) m).1) ((timesS e (pauM i) m).2) (pauM j)).2) (adjS m)).2).cells.getD 3 dZ)).2).num.d),vi (((sAdd ((timesS ((timesS ((timesS e (pauM i) m).1) ((timesS e (pauM i) m).2) (pauM j)).1) ((timesS ((timesS e (pauM i) m).1) ((timesS e (pauM i) m).2) (pauM j)).2) (adjS m)).1) (((timesS ((timesS ((timesS e (pauM i) m).1) ((timesS e (pauM i) m).2) (pauM j)).1) ((timesS ((timesS e (pauM i) m).1) ((timesS e (pauM i) m).2) (pauM j)).2) (adjS m)).2).cells.getD 0 dZ) (((timesS ((timesS ((timesS e (pauM i) m).1) ((timesS e (pauM i) m).2) (pauM j)).1) ((timesS ((timesS e (pauM i) m).1) ((timesS e (pauM i) m).2) (pauM j)).2) (adjS m)).2).cells.getD 3 dZ)).2).exp)] Xb N) ?_;rintro _ jE ⟨G,hb⟩
     have g:=N;have q:=q.only G (Blk.ne q g rfl);have p:=p.only G (Blk.ne p g rfl);have t:=t.only G (Blk.ne t g rfl);have f:=f.only G (Blk.ne f g rfl);have C:=C.only G (Blk.ne C g rfl);have n:=n.onlyA G aE;have B:=B.onlyA G aK;have x:=Below.only x G bL;have N:=hb;refine Yd fun a J=>?_;exact ⟨aP,J.sb,bL,N,bG,aE,aK,q,p,t,f,C,n,B,x⟩
    refine Yf rfl trivial (EfW.mono (X3 (zs:=[vi 0,vi 0,vi 0,vi 0,vi 0]) X0l rfl) (fun _ _ h=>⟨fun _=>by obtain ⟨_,_,_,o,_⟩:=h;exact Keep.of_below o,h⟩)) ?_;rintro _ jF ⟨hH,rfl,cB,o,aI⟩;have cS:=Q0 x.size cB;have cU:=(a9.below' x).away cB;have b4:=n.away cB;have b6:=B.away cB;have q:=q.below o;have p:=p.below o;have t:=t.below o;have f:=f.below o;have C:=C.below o;have n:=n.below o;have B:=B.below o;have x:=btr x o;refine Y1 9<|Yf rfl trivial (EfW.mono (Vc (Xpm _ b7 ((timesS ((timesS ((timesS e (pauM i) m).1) ((timesS e (pauM i) m).2) (pauM j)).1) ((timesS ((timesS e (pauM i) m).1) ((timesS e (pauM i) m).2) (pauM j)).2) (adjS m)).1) t (((timesS ((timesS ((timesS e (pauM i) m).1) ((timesS e (pauM i) m).2) (pauM j)).1) ((timesS ((timesS e (pauM i) m).1) ((timesS e (pauM i) m).2) (pauM j)).2) (adjS m)).2).cells.getD 0 dZ) (((timesS ((timesS ((timesS e (pauM i) m).1) ((timesS e (pauM i) m).2) (pauM j)).1) ((timesS ((timesS e (pauM i) m).1) ((timesS e (pauM i) m).2) (pauM j)).2) (adjS m)).2).cells.getD 3 dZ) (X5d x7 0) (X5d x7 3)) Xd1) (fun _ _ h=>⟨fun _=>by obtain ⟨rfl,D,y⟩:=h;exact D.keep,h⟩)) ?_;rintro _ jG ⟨rfl,D,y⟩;obtain ⟨wm,z,hm,o⟩:=D.mid;clear hm;have g:=t;have q:=q.only z (Blk.ne q g rfl);have p:=p.only z (Blk.ne p g rfl);have f:=f.only z (Blk.ne f g rfl);have C:=C.only z (Blk.ne C g rfl);have aI:=aI.only z (Blk.ne aI g rfl);have n:=n.onlyT z g rfl;have B:=B.onlyT z g rfl;have x:=Below.only x z L;have q:=q.below o;have p:=p.below o;have f:=f.below o;have C:=C.below o;have aI:=aI.below o;have n:=n.below o
    have B:=B.below o;have x:=btr x o
    clear g o z D;have t:=y;clear y;refine Y1 11<|Yh rfl trivial rfl (Vw [vi (((sAdd ((timesS ((timesS ((timesS e (pauM i) m).1) ((timesS e (pauM i) m).2) (pauM j)).1) ((timesS ((timesS e (pauM i) m).1) ((timesS e (pauM i) m).2) (pauM j)).2) (adjS m)).1) (((timesS ((timesS ((timesS e (pauM i) m).1) ((timesS e (pauM i) m).2) (pauM j)).1) ((timesS ((timesS e (pauM i) m).1) ((timesS e (pauM i) m).2) (pauM j)).2) (adjS m)).2).cells.getD 0 dZ) (((timesS ((timesS ((timesS e (pauM i) m).1) ((timesS e (pauM i) m).2) (pauM j)).1) ((timesS ((timesS e (pauM i) m).1) ((timesS e (pauM i) m).2) (pauM j)).2) (adjS m)).2).cells.getD 3 dZ)).2).num.a),vi (((sAdd ((timesS ((timesS ((timesS e (pauM i) m).1) ((timesS e (pauM i) m).2) (pauM j)).1) ((timesS ((timesS e (pauM i) m).1) ((timesS e (pauM i) m).2) (pauM j)).2) (adjS m)).1) (((timesS ((timesS ((timesS e (pauM i) m).1) ((timesS e (pauM i) m).2) (pauM j)).1) ((timesS ((timesS e (pauM i) m).1) ((timesS e (pauM i) m).2) (pauM j)).2) (adjS m)).2).cells.getD 0 dZ) (((timesS ((timesS ((timesS e (pauM i) m).1) ((timesS e (pauM i) m).2) (pauM j)).1) ((timesS ((timesS e (pauM i) m).1) ((timesS e (pauM i) m).2) (pauM j)).2) (adjS m)).2).cells.getD 3 dZ)).2).num.b),vi (((sAdd ((timesS ((timesS ((timesS e (pauM i) m).1) ((timesS e (pauM i) m).2) (pauM j)).1) ((timesS ((timesS e (pauM i) m).1) ((timesS e (pauM i) m).2) (pauM j)).2) (adjS m)).1) (((timesS ((timesS ((timesS e (pauM i) m).1) ((timesS e (pauM i) m).2) (pauM j)).1) ((timesS ((timesS e (pauM i) m).1) ((timesS e (pauM i) m).2) (pauM j)).2) (adjS m)).2).cells.getD 0 dZ) (((timesS ((timesS ((timesS e (pauM i) m).1) ((timesS e (pauM i) m).2) (pauM j)).1) ((timesS ((timesS e (pauM i) m).1) ((timesS e (pauM i) m).2) (pauM j)).2) (adjS m)).2).cells.getD 3 dZ)).2).num.c),vi (((sAdd ((timesS ((timesS ((timesS e (pauM i) m).1) ((timesS e (pauM i) m).2) (pauM j)).1) ((timesS ((timesS e (pauM i) m).1) ((timesS e (pauM i) m).2) (pauM j)).2) (adjS m)).1) (((timesS ((timesS ((timesS e (pauM i) m).1) ((timesS e (pauM i) m).2) (pauM j)).1) ((timesS ((timesS e (pauM i) m).1) ((timesS e (pauM i) m).2) (pauM j)).2) (adjS m)).2).cells.getD 0 dZ) (((timesS ((timesS ((timesS e (pauM i) m).1) ((timesS e (pauM i) m).2) (pauM j)).1) ((timesS ((timesS e (pauM i) m).1) ((timesS e (pauM i) m).2) (pauM j)).2) (adjS m)).2).cells.getD 3 dZ)).2).num.d),vi (((sAdd ((timesS ((timesS ((timesS e (pauM i) m).1) ((timesS e (pauM i) m).2) (pauM j)).1) ((timesS ((timesS e (pauM i) m).1) ((timesS e (pauM i) m).2) (pauM j)).2) (adjS m)).1) (((timesS ((timesS ((timesS e (pauM i) m).1) ((timesS e (pauM i) m).2) (pauM j)).1) ((timesS ((timesS e (pauM i) m).1) ((timesS e (pauM i) m).2) (pauM j)).2) (adjS m)).2).cells.getD 0 dZ) (((timesS ((timesS ((timesS e (pauM i) m).1) ((timesS e (pauM i) m).2) (pauM j)).1) ((timesS ((timesS e (pauM i) m).1) ((timesS e (pauM i) m).2) (pauM j)).2) (adjS m)).2).cells.getD 3 dZ)).2).exp)] Xb aI) ?_;rintro _ jH ⟨G,hb⟩
    have g:=aI;have q:=q.only G (Blk.ne q g rfl);have p:=p.only G (Blk.ne p g rfl);have t:=t.only G (Blk.ne t g rfl);have f:=f.only G (Blk.ne f g rfl);have C:=C.only G (Blk.ne C g rfl);have n:=n.onlyA G b4;have B:=B.onlyA G b6;have x:=Below.only x G cS;have aI:=hb;refine Yd fun a J=>?_;exact ⟨hH,J.sub ⟨rfl,rfl,rfl,rfl,rfl,rfl,(by first|rfl|(simp [look,aB,aC])),trivial⟩,cS,aI,cU,b4,b6,q,p,t,f,C,n,B,x⟩
   rintro a jI ⟨aP,J,bL,N,bG,aE,aK,q,p,t,f,C,n,B,x⟩;refine gB _ _<|Xy (some b7) (fun j=>[8,10].contains j) mixed ?_;intro jJ o;have q:=q.below o;have p:=p.below o;have t:=t.below o;have f:=f.below o;have N:=N.below o;have n:=n.below o;have x:=btr x o;refine Yb J<|Yo 0 rfl (fun _=>Vd rfl X0v 0) ?_;refine Yw 1 rfl trivial (fun w1 h1=>X0 rfl X0c ((f.only h1 (Blk.ne f t rfl)).at 0)) ?_;refine Yo 2 rfl (fun _=>Xa rfl) ?_;refine Yw 3 rfl trivial (fun w1 h1=>Xz (l:=[vi (((sAdd ((timesS ((timesS ((timesS e (pauM i) m).1) ((timesS e (pauM i) m).2) (pauM j)).1) ((timesS ((timesS e (pauM i) m).1) ((timesS e (pauM i) m).2) (pauM j)).2) (adjS m)).1) (((timesS ((timesS ((timesS e (pauM i) m).1) ((timesS e (pauM i) m).2) (pauM j)).1) ((timesS ((timesS e (pauM i) m).1) ((timesS e (pauM i) m).2) (pauM j)).2) (adjS m)).2).cells.getD 0 dZ) (((timesS ((timesS ((timesS e (pauM i) m).1) ((timesS e (pauM i) m).2) (pauM j)).1) ((timesS ((timesS e (pauM i) m).1) ((timesS e (pauM i) m).2) (pauM j)).2) (adjS m)).2).cells.getD 3 dZ)).2).num.a),vi (((sAdd ((timesS ((timesS ((timesS e (pauM i) m).1) ((timesS e (pauM i) m).2) (pauM j)).1) ((timesS ((timesS e (pauM i) m).1) ((timesS e (pauM i) m).2) (pauM j)).2) (adjS m)).1) (((timesS ((timesS ((timesS e (pauM i) m).1) ((timesS e (pauM i) m).2) (pauM j)).1) ((timesS ((timesS e (pauM i) m).1) ((timesS e (pauM i) m).2) (pauM j)).2) (adjS m)).2).cells.getD 0 dZ) (((timesS ((timesS ((timesS e (pauM i) m).1) ((timesS e (pauM i) m).2) (pauM j)).1) ((timesS ((timesS e (pauM i) m).1) ((timesS e (pauM i) m).2) (pauM j)).2) (adjS m)).2).cells.getD 3 dZ)).2).num.b),vi (((sAdd ((timesS ((timesS ((timesS e (pauM i) m).1) ((timesS e (pauM i) m).2) (pauM j)).1) ((timesS ((timesS e (pauM i) m).1) ((timesS e (pauM i) m).2) (pauM j)).2) (adjS m)).1) (((timesS ((timesS ((timesS e (pauM i) m).1) ((timesS e (pauM i) m).2) (pauM j)).1) ((timesS ((timesS e (pauM i) m).1) ((timesS e (pauM i) m).2) (pauM j)).2) (adjS m)).2).cells.getD 0 dZ) (((timesS ((timesS ((timesS e (pauM i) m).1) ((timesS e (pauM i) m).2) (pauM j)).1) ((timesS ((timesS e (pauM i) m).1) ((timesS e (pauM i) m).2) (pauM j)).2) (adjS m)).2).cells.getD 3 dZ)).2).num.c),vi (((sAdd ((timesS ((timesS ((timesS e (pauM i) m).1) ((timesS e (pauM i) m).2) (pauM j)).1) ((timesS ((timesS e (pauM i) m).1) ((timesS e (pauM i) m).2) (pauM j)).2) (adjS m)).1) (((timesS ((timesS ((timesS e (pauM i) m).1) ((timesS e (pauM i) m).2) (pauM j)).1) ((timesS ((timesS e (pauM i) m).1) ((timesS e (pauM i) m).2) (pauM j)).2) (adjS m)).2).cells.getD 0 dZ) (((timesS ((timesS ((timesS e (pauM i) m).1) ((timesS e (pauM i) m).2) (pauM j)).1) ((timesS ((timesS e (pauM i) m).1) ((timesS e (pauM i) m).2) (pauM j)).2) (adjS m)).2).cells.getD 3 dZ)).2).num.d),vi (((sAdd ((timesS ((timesS ((timesS e (pauM i) m).1) ((timesS e (pauM i) m).2) (pauM j)).1) ((timesS ((timesS e (pauM i) m).1) ((timesS e (pauM i) m).2) (pauM j)).2) (adjS m)).1) (((timesS ((timesS ((timesS e (pauM i) m).1) ((timesS e (pauM i) m).2) (pauM j)).1) ((timesS ((timesS e (pauM i) m).1) ((timesS e (pauM i) m).2) (pauM j)).2) (adjS m)).2).cells.getD 0 dZ) (((timesS ((timesS ((timesS e (pauM i) m).1) ((timesS e (pauM i) m).2) (pauM j)).1) ((timesS ((timesS e (pauM i) m).1) ((timesS e (pauM i) m).2) (pauM j)).2) (adjS m)).2).cells.getD 3 dZ)).2).exp)]) rfl X6 ((N.only h1 (Blk.ne N t rfl)).at 0) rfl) ?_
   refine Yo 4 rfl (fun _=>Xf (ps:=[(0,vi 1)]) (cs:=[vi 1,vi 0,vi 0,vi 0]) rfl (fun _=>by first|rfl|kernel_rfl))<|Yo 5 rfl (fun _=>Xf (ps:=[(0,.agg #[vi 1,vi 0,vi 0,vi 0]),(1,vi 2)]) (cs:=[vi 1,vi 0,vi 0,vi 0,vi 2]) rfl (fun _=>by first|rfl|kernel_rfl))<|Y1 6 ?_;refine Yf rfl trivial (EfW.mono (Vc (Xtl _ b7 ((sAdd ((timesS ((timesS ((timesS e (pauM i) m).1) ((timesS e (pauM i) m).2) (pauM j)).1) ((timesS ((timesS e (pauM i) m).1) ((timesS e (pauM i) m).2) (pauM j)).2) (adjS m)).1) (((timesS ((timesS ((timesS e (pauM i) m).1) ((timesS e (pauM i) m).2) (pauM j)).1) ((timesS ((timesS e (pauM i) m).1) ((timesS e (pauM i) m).2) (pauM j)).2) (adjS m)).2).cells.getD 0 dZ) (((timesS ((timesS ((timesS e (pauM i) m).1) ((timesS e (pauM i) m).2) (pauM j)).1) ((timesS ((timesS e (pauM i) m).1) ((timesS e (pauM i) m).2) (pauM j)).2) (adjS m)).2).cells.getD 3 dZ)).1) t ((sAdd ((timesS ((timesS ((timesS e (pauM i) m).1) ((timesS e (pauM i) m).2) (pauM j)).1) ((timesS ((timesS e (pauM i) m).1) ((timesS e (pauM i) m).2) (pauM j)).2) (adjS m)).1) (((timesS ((timesS ((timesS e (pauM i) m).1) ((timesS e (pauM i) m).2) (pauM j)).1) ((timesS ((timesS e (pauM i) m).1) ((timesS e (pauM i) m).2) (pauM j)).2) (adjS m)).2).cells.getD 0 dZ) (((timesS ((timesS ((timesS e (pauM i) m).1) ((timesS e (pauM i) m).2) (pauM j)).1) ((timesS ((timesS e (pauM i) m).1) ((timesS e (pauM i) m).2) (pauM j)).2) (adjS m)).2).cells.getD 3 dZ)).2) (⟨(⟨1,0,0,0⟩ : Rg),2⟩ : Dy) (Xeb (X5d x7 0) (X5d x7 3)) (by decide)) Xfp) (fun _ _ h=>⟨fun _=>by obtain ⟨rfl,D,y⟩:=h;exact D.keep,h⟩)) ?_;rintro _ jK ⟨rfl,D,y⟩;obtain ⟨wm,z,hm,o⟩:=D.mid;clear hm;have g:=t;have q:=q.only z (Blk.ne q g rfl);have p:=p.only z (Blk.ne p g rfl);have f:=f.only z (Blk.ne f g rfl);have N:=N.only z (Blk.ne N g rfl);have n:=n.onlyT z g rfl
   have x:=Below.only x z L;have q:=q.below o;have p:=p.below o;have f:=f.below o;have N:=N.below o;have n:=n.below o;have x:=btr x o
   clear g o z D;have t:=y;clear y;refine Y1 7<|Yf rfl trivial (EfW.mono (X7 (k:=1) (vs:=[.agg #[vi (((sMul ((sAdd ((timesS ((timesS ((timesS e (pauM i) m).1) ((timesS e (pauM i) m).2) (pauM j)).1) ((timesS ((timesS e (pauM i) m).1) ((timesS e (pauM i) m).2) (pauM j)).2) (adjS m)).1) (((timesS ((timesS ((timesS e (pauM i) m).1) ((timesS e (pauM i) m).2) (pauM j)).1) ((timesS ((timesS e (pauM i) m).1) ((timesS e (pauM i) m).2) (pauM j)).2) (adjS m)).2).cells.getD 0 dZ) (((timesS ((timesS ((timesS e (pauM i) m).1) ((timesS e (pauM i) m).2) (pauM j)).1) ((timesS ((timesS e (pauM i) m).1) ((timesS e (pauM i) m).2) (pauM j)).2) (adjS m)).2).cells.getD 3 dZ)).1) ((sAdd ((timesS ((timesS ((timesS e (pauM i) m).1) ((timesS e (pauM i) m).2) (pauM j)).1) ((timesS ((timesS e (pauM i) m).1) ((timesS e (pauM i) m).2) (pauM j)).2) (adjS m)).1) (((timesS ((timesS ((timesS e (pauM i) m).1) ((timesS e (pauM i) m).2) (pauM j)).1) ((timesS ((timesS e (pauM i) m).1) ((timesS e (pauM i) m).2) (pauM j)).2) (adjS m)).2).cells.getD 0 dZ) (((timesS ((timesS ((timesS e (pauM i) m).1) ((timesS e (pauM i) m).2) (pauM j)).1) ((timesS ((timesS e (pauM i) m).1) ((timesS e (pauM i) m).2) (pauM j)).2) (adjS m)).2).cells.getD 3 dZ)).2) (⟨(⟨1,0,0,0⟩ : Rg),2⟩ : Dy)).2).num.a),vi (((sMul ((sAdd ((timesS ((timesS ((timesS e (pauM i) m).1) ((timesS e (pauM i) m).2) (pauM j)).1) ((timesS ((timesS e (pauM i) m).1) ((timesS e (pauM i) m).2) (pauM j)).2) (adjS m)).1) (((timesS ((timesS ((timesS e (pauM i) m).1) ((timesS e (pauM i) m).2) (pauM j)).1) ((timesS ((timesS e (pauM i) m).1) ((timesS e (pauM i) m).2) (pauM j)).2) (adjS m)).2).cells.getD 0 dZ) (((timesS ((timesS ((timesS e (pauM i) m).1) ((timesS e (pauM i) m).2) (pauM j)).1) ((timesS ((timesS e (pauM i) m).1) ((timesS e (pauM i) m).2) (pauM j)).2) (adjS m)).2).cells.getD 3 dZ)).1) ((sAdd ((timesS ((timesS ((timesS e (pauM i) m).1) ((timesS e (pauM i) m).2) (pauM j)).1) ((timesS ((timesS e (pauM i) m).1) ((timesS e (pauM i) m).2) (pauM j)).2) (adjS m)).1) (((timesS ((timesS ((timesS e (pauM i) m).1) ((timesS e (pauM i) m).2) (pauM j)).1) ((timesS ((timesS e (pauM i) m).1) ((timesS e (pauM i) m).2) (pauM j)).2) (adjS m)).2).cells.getD 0 dZ) (((timesS ((timesS ((timesS e (pauM i) m).1) ((timesS e (pauM i) m).2) (pauM j)).1) ((timesS ((timesS e (pauM i) m).1) ((timesS e (pauM i) m).2) (pauM j)).2) (adjS m)).2).cells.getD 3 dZ)).2) (⟨(⟨1,0,0,0⟩ : Rg),2⟩ : Dy)).2).num.b),vi (((sMul ((sAdd ((timesS ((timesS ((timesS e (pauM i) m).1) ((timesS e (pauM i) m).2) (pauM j)).1) ((timesS ((timesS e (pauM i) m).1) ((timesS e (pauM i) m).2) (pauM j)).2) (adjS m)).1) (((timesS ((timesS ((timesS e (pauM i) m).1) ((timesS e (pauM i) m).2) (pauM j)).1) ((timesS ((timesS e (pauM i) m).1) ((timesS e (pauM i) m).2) (pauM j)).2) (adjS m)).2).cells.getD 0 dZ) (((timesS ((timesS ((timesS e (pauM i) m).1) ((timesS e (pauM i) m).2) (pauM j)).1) ((timesS ((timesS e (pauM i) m).1) ((timesS e (pauM i) m).2) (pauM j)).2) (adjS m)).2).cells.getD 3 dZ)).1) ((sAdd ((timesS ((timesS ((timesS e (pauM i) m).1) ((timesS e (pauM i) m).2) (pauM j)).1) ((timesS ((timesS e (pauM i) m).1) ((timesS e (pauM i) m).2) (pauM j)).2) (adjS m)).1) (((timesS ((timesS ((timesS e (pauM i) m).1) ((timesS e (pauM i) m).2) (pauM j)).1) ((timesS ((timesS e (pauM i) m).1) ((timesS e (pauM i) m).2) (pauM j)).2) (adjS m)).2).cells.getD 0 dZ) (((timesS ((timesS ((timesS e (pauM i) m).1) ((timesS e (pauM i) m).2) (pauM j)).1) ((timesS ((timesS e (pauM i) m).1) ((timesS e (pauM i) m).2) (pauM j)).2) (adjS m)).2).cells.getD 3 dZ)).2) (⟨(⟨1,0,0,0⟩ : Rg),2⟩ : Dy)).2).num.c),vi (((sMul ((sAdd ((timesS ((timesS ((timesS e (pauM i) m).1) ((timesS e (pauM i) m).2) (pauM j)).1) ((timesS ((timesS e (pauM i) m).1) ((timesS e (pauM i) m).2) (pauM j)).2) (adjS m)).1) (((timesS ((timesS ((timesS e (pauM i) m).1) ((timesS e (pauM i) m).2) (pauM j)).1) ((timesS ((timesS e (pauM i) m).1) ((timesS e (pauM i) m).2) (pauM j)).2) (adjS m)).2).cells.getD 0 dZ) (((timesS ((timesS ((timesS e (pauM i) m).1) ((timesS e (pauM i) m).2) (pauM j)).1) ((timesS ((timesS e (pauM i) m).1) ((timesS e (pauM i) m).2) (pauM j)).2) (adjS m)).2).cells.getD 3 dZ)).1) ((sAdd ((timesS ((timesS ((timesS e (pauM i) m).1) ((timesS e (pauM i) m).2) (pauM j)).1) ((timesS ((timesS e (pauM i) m).1) ((timesS e (pauM i) m).2) (pauM j)).2) (adjS m)).1) (((timesS ((timesS ((timesS e (pauM i) m).1) ((timesS e (pauM i) m).2) (pauM j)).1) ((timesS ((timesS e (pauM i) m).1) ((timesS e (pauM i) m).2) (pauM j)).2) (adjS m)).2).cells.getD 0 dZ) (((timesS ((timesS ((timesS e (pauM i) m).1) ((timesS e (pauM i) m).2) (pauM j)).1) ((timesS ((timesS e (pauM i) m).1) ((timesS e (pauM i) m).2) (pauM j)).2) (adjS m)).2).cells.getD 3 dZ)).2) (⟨(⟨1,0,0,0⟩ : Rg),2⟩ : Dy)).2).num.d),vi (((sMul ((sAdd ((timesS ((timesS ((timesS e (pauM i) m).1) ((timesS e (pauM i) m).2) (pauM j)).1) ((timesS ((timesS e (pauM i) m).1) ((timesS e (pauM i) m).2) (pauM j)).2) (adjS m)).1) (((timesS ((timesS ((timesS e (pauM i) m).1) ((timesS e (pauM i) m).2) (pauM j)).1) ((timesS ((timesS e (pauM i) m).1) ((timesS e (pauM i) m).2) (pauM j)).2) (adjS m)).2).cells.getD 0 dZ) (((timesS ((timesS ((timesS e (pauM i) m).1) ((timesS e (pauM i) m).2) (pauM j)).1) ((timesS ((timesS e (pauM i) m).1) ((timesS e (pauM i) m).2) (pauM j)).2) (adjS m)).2).cells.getD 3 dZ)).1) ((sAdd ((timesS ((timesS ((timesS e (pauM i) m).1) ((timesS e (pauM i) m).2) (pauM j)).1) ((timesS ((timesS e (pauM i) m).1) ((timesS e (pauM i) m).2) (pauM j)).2) (adjS m)).1) (((timesS ((timesS ((timesS e (pauM i) m).1) ((timesS e (pauM i) m).2) (pauM j)).1) ((timesS ((timesS e (pauM i) m).1) ((timesS e (pauM i) m).2) (pauM j)).2) (adjS m)).2).cells.getD 0 dZ) (((timesS ((timesS ((timesS e (pauM i) m).1) ((timesS e (pauM i) m).2) (pauM j)).1) ((timesS ((timesS e (pauM i) m).1) ((timesS e (pauM i) m).2) (pauM j)).2) (adjS m)).2).cells.getD 3 dZ)).2) (⟨(⟨1,0,0,0⟩ : Rg),2⟩ : Dy)).2).exp)]]) (zs:=[vi (((sMul ((sAdd ((timesS ((timesS ((timesS e (pauM i) m).1) ((timesS e (pauM i) m).2) (pauM j)).1) ((timesS ((timesS e (pauM i) m).1) ((timesS e (pauM i) m).2) (pauM j)).2) (adjS m)).1) (((timesS ((timesS ((timesS e (pauM i) m).1) ((timesS e (pauM i) m).2) (pauM j)).1) ((timesS ((timesS e (pauM i) m).1) ((timesS e (pauM i) m).2) (pauM j)).2) (adjS m)).2).cells.getD 0 dZ) (((timesS ((timesS ((timesS e (pauM i) m).1) ((timesS e (pauM i) m).2) (pauM j)).1) ((timesS ((timesS e (pauM i) m).1) ((timesS e (pauM i) m).2) (pauM j)).2) (adjS m)).2).cells.getD 3 dZ)).1) ((sAdd ((timesS ((timesS ((timesS e (pauM i) m).1) ((timesS e (pauM i) m).2) (pauM j)).1) ((timesS ((timesS e (pauM i) m).1) ((timesS e (pauM i) m).2) (pauM j)).2) (adjS m)).1) (((timesS ((timesS ((timesS e (pauM i) m).1) ((timesS e (pauM i) m).2) (pauM j)).1) ((timesS ((timesS e (pauM i) m).1) ((timesS e (pauM i) m).2) (pauM j)).2) (adjS m)).2).cells.getD 0 dZ) (((timesS ((timesS ((timesS e (pauM i) m).1) ((timesS e (pauM i) m).2) (pauM j)).1) ((timesS ((timesS e (pauM i) m).1) ((timesS e (pauM i) m).2) (pauM j)).2) (adjS m)).2).cells.getD 3 dZ)).2) (⟨(⟨1,0,0,0⟩ : Rg),2⟩ : Dy)).2).num.a),vi (((sMul ((sAdd ((timesS ((timesS ((timesS e (pauM i) m).1) ((timesS e (pauM i) m).2) (pauM j)).1) ((timesS ((timesS e (pauM i) m).1) ((timesS e (pauM i) m).2) (pauM j)).2) (adjS m)).1) (((timesS ((timesS ((timesS e (pauM i) m).1) ((timesS e (pauM i) m).2) (pauM j)).1) ((timesS ((timesS e (pauM i) m).1) ((timesS e (pauM i) m).2) (pauM j)).2) (adjS m)).2).cells.getD 0 dZ) (((timesS ((timesS ((timesS e (pauM i) m).1) ((timesS e (pauM i) m).2) (pauM j)).1) ((timesS ((timesS e (pauM i) m).1) ((timesS e (pauM i) m).2) (pauM j)).2) (adjS m)).2).cells.getD 3 dZ)).1) ((sAdd ((timesS ((timesS ((timesS e (pauM i) m).1) ((timesS e (pauM i) m).2) (pauM j)).1) ((timesS ((timesS e (pauM i) m).1) ((timesS e (pauM i) m).2) (pauM j)).2) (adjS m)).1) (((timesS ((timesS ((timesS e (pauM i) m).1) ((timesS e (pauM i) m).2) (pauM j)).1) ((timesS ((timesS e (pauM i) m).1) ((timesS e (pauM i) m).2) (pauM j)).2) (adjS m)).2).cells.getD 0 dZ) (((timesS ((timesS ((timesS e (pauM i) m).1) ((timesS e (pauM i) m).2) (pauM j)).1) ((timesS ((timesS e (pauM i) m).1) ((timesS e (pauM i) m).2) (pauM j)).2) (adjS m)).2).cells.getD 3 dZ)).2) (⟨(⟨1,0,0,0⟩ : Rg),2⟩ : Dy)).2).num.b),vi (((sMul ((sAdd ((timesS ((timesS ((timesS e (pauM i) m).1) ((timesS e (pauM i) m).2) (pauM j)).1) ((timesS ((timesS e (pauM i) m).1) ((timesS e (pauM i) m).2) (pauM j)).2) (adjS m)).1) (((timesS ((timesS ((timesS e (pauM i) m).1) ((timesS e (pauM i) m).2) (pauM j)).1) ((timesS ((timesS e (pauM i) m).1) ((timesS e (pauM i) m).2) (pauM j)).2) (adjS m)).2).cells.getD 0 dZ) (((timesS ((timesS ((timesS e (pauM i) m).1) ((timesS e (pauM i) m).2) (pauM j)).1) ((timesS ((timesS e (pauM i) m).1) ((timesS e (pauM i) m).2) (pauM j)).2) (adjS m)).2).cells.getD 3 dZ)).1) ((sAdd ((timesS ((timesS ((timesS e (pauM i) m).1) ((timesS e (pauM i) m).2) (pauM j)).1) ((timesS ((timesS e (pauM i) m).1) ((timesS e (pauM i) m).2) (pauM j)).2) (adjS m)).1) (((timesS ((timesS ((timesS e (pauM i) m).1) ((timesS e (pauM i) m).2) (pauM j)).1) ((timesS ((timesS e (pauM i) m).1) ((timesS e (pauM i) m).2) (pauM j)).2) (adjS m)).2).cells.getD 0 dZ) (((timesS ((timesS ((timesS e (pauM i) m).1) ((timesS e (pauM i) m).2) (pauM j)).1) ((timesS ((timesS e (pauM i) m).1) ((timesS e (pauM i) m).2) (pauM j)).2) (adjS m)).2).cells.getD 3 dZ)).2) (⟨(⟨1,0,0,0⟩ : Rg),2⟩ : Dy)).2).num.c),vi (((sMul ((sAdd ((timesS ((timesS ((timesS e (pauM i) m).1) ((timesS e (pauM i) m).2) (pauM j)).1) ((timesS ((timesS e (pauM i) m).1) ((timesS e (pauM i) m).2) (pauM j)).2) (adjS m)).1) (((timesS ((timesS ((timesS e (pauM i) m).1) ((timesS e (pauM i) m).2) (pauM j)).1) ((timesS ((timesS e (pauM i) m).1) ((timesS e (pauM i) m).2) (pauM j)).2) (adjS m)).2).cells.getD 0 dZ) (((timesS ((timesS ((timesS e (pauM i) m).1) ((timesS e (pauM i) m).2) (pauM j)).1) ((timesS ((timesS e (pauM i) m).1) ((timesS e (pauM i) m).2) (pauM j)).2) (adjS m)).2).cells.getD 3 dZ)).1) ((sAdd ((timesS ((timesS ((timesS e (pauM i) m).1) ((timesS e (pauM i) m).2) (pauM j)).1) ((timesS ((timesS e (pauM i) m).1) ((timesS e (pauM i) m).2) (pauM j)).2) (adjS m)).1) (((timesS ((timesS ((timesS e (pauM i) m).1) ((timesS e (pauM i) m).2) (pauM j)).1) ((timesS ((timesS e (pauM i) m).1) ((timesS e (pauM i) m).2) (pauM j)).2) (adjS m)).2).cells.getD 0 dZ) (((timesS ((timesS ((timesS e (pauM i) m).1) ((timesS e (pauM i) m).2) (pauM j)).1) ((timesS ((timesS e (pauM i) m).1) ((timesS e (pauM i) m).2) (pauM j)).2) (adjS m)).2).cells.getD 3 dZ)).2) (⟨(⟨1,0,0,0⟩ : Rg),2⟩ : Dy)).2).num.d),vi (((sMul ((sAdd ((timesS ((timesS ((timesS e (pauM i) m).1) ((timesS e (pauM i) m).2) (pauM j)).1) ((timesS ((timesS e (pauM i) m).1) ((timesS e (pauM i) m).2) (pauM j)).2) (adjS m)).1) (((timesS ((timesS ((timesS e (pauM i) m).1) ((timesS e (pauM i) m).2) (pauM j)).1) ((timesS ((timesS e (pauM i) m).1) ((timesS e (pauM i) m).2) (pauM j)).2) (adjS m)).2).cells.getD 0 dZ) (((timesS ((timesS ((timesS e (pauM i) m).1) ((timesS e (pauM i) m).2) (pauM j)).1) ((timesS ((timesS e (pauM i) m).1) ((timesS e (pauM i) m).2) (pauM j)).2) (adjS m)).2).cells.getD 3 dZ)).1) ((sAdd ((timesS ((timesS ((timesS e (pauM i) m).1) ((timesS e (pauM i) m).2) (pauM j)).1) ((timesS ((timesS e (pauM i) m).1) ((timesS e (pauM i) m).2) (pauM j)).2) (adjS m)).1) (((timesS ((timesS ((timesS e (pauM i) m).1) ((timesS e (pauM i) m).2) (pauM j)).1) ((timesS ((timesS e (pauM i) m).1) ((timesS e (pauM i) m).2) (pauM j)).2) (adjS m)).2).cells.getD 0 dZ) (((timesS ((timesS ((timesS e (pauM i) m).1) ((timesS e (pauM i) m).2) (pauM j)).1) ((timesS ((timesS e (pauM i) m).1) ((timesS e (pauM i) m).2) (pauM j)).2) (adjS m)).2).cells.getD 3 dZ)).2) (⟨(⟨1,0,0,0⟩ : Rg),2⟩ : Dy)).2).exp)]) rfl Xs X0u rfl rfl) (fun _ _ h=>⟨fun _=>by obtain ⟨_,_,_,o,_⟩:=h;exact Keep.of_below o,h⟩)) ?_;rintro _ jL ⟨b73,rfl,cV,o,cW⟩
   have eC:aP≠b73:=by have:=N.lt;omega
   have hJ:=Q0 x.size cV;have gC:=(a9.below' x).away cV;have cC:=n.away cV;have q:=q.below o;have p:=p.below o;have t:=t.below o;have f:=f.below o;have N:=N.below o;have n:=n.below o;have x:=btr x o;refine Y1 8<|Yt rfl trivial rfl (X0k (enc:=encD) (l:=(l2)) (l2:=([((sMul ((sAdd ((timesS ((timesS ((timesS e (pauM i) m).1) ((timesS e (pauM i) m).2) (pauM j)).1) ((timesS ((timesS e (pauM i) m).1) ((timesS e (pauM i) m).2) (pauM j)).2) (adjS m)).1) (((timesS ((timesS ((timesS e (pauM i) m).1) ((timesS e (pauM i) m).2) (pauM j)).1) ((timesS ((timesS e (pauM i) m).1) ((timesS e (pauM i) m).2) (pauM j)).2) (adjS m)).2).cells.getD 0 dZ) (((timesS ((timesS ((timesS e (pauM i) m).1) ((timesS e (pauM i) m).2) (pauM j)).1) ((timesS ((timesS e (pauM i) m).1) ((timesS e (pauM i) m).2) (pauM j)).2) (adjS m)).2).cells.getD 3 dZ)).1) ((sAdd ((timesS ((timesS ((timesS e (pauM i) m).1) ((timesS e (pauM i) m).2) (pauM j)).1) ((timesS ((timesS e (pauM i) m).1) ((timesS e (pauM i) m).2) (pauM j)).2) (adjS m)).1) (((timesS ((timesS ((timesS e (pauM i) m).1) ((timesS e (pauM i) m).2) (pauM j)).1) ((timesS ((timesS e (pauM i) m).1) ((timesS e (pauM i) m).2) (pauM j)).2) (adjS m)).2).cells.getD 0 dZ) (((timesS ((timesS ((timesS e (pauM i) m).1) ((timesS e (pauM i) m).2) (pauM j)).1) ((timesS ((timesS e (pauM i) m).1) ((timesS e (pauM i) m).2) (pauM j)).2) (adjS m)).2).cells.getD 3 dZ)).2) (⟨(⟨1,0,0,0⟩ : Rg),2⟩ : Dy)).2)])) (B0:=w0.heap.size) rfl rfl Xs X0u Xw X28 n (Rd.of_blk cW rfl _ cW.lt) (by simp only [maxLen];simp;omega) (by simp;omega) x.size) ?_;rintro _ jM ⟨gD,gE,rfl,cX,hg,eA⟩
   have b8:Own _ w0.heap.size 86 5 encD _ _ (l2):=n
   have eD:=eA _ N.lt aE;have eE:=eA _ cW.lt cC;clear eA;have q:=q.appT b8 hg rfl;have p:=p.appT b8 hg rfl;have t:=t.appT b8 hg rfl;have f:=f.appT b8 hg rfl;have x:=Below.app x b8 hg (Qb _) x.size;clear b8 hg;refine Yo 9 rfl (fun _=>Vd rfl X0v 0)<|Y1 10 ?_;refine Yh rfl trivial rfl (Vw [.slice gD (l2++([((sMul ((sAdd ((timesS ((timesS ((timesS e (pauM i) m).1) ((timesS e (pauM i) m).2) (pauM j)).1) ((timesS ((timesS e (pauM i) m).1) ((timesS e (pauM i) m).2) (pauM j)).2) (adjS m)).1) (((timesS ((timesS ((timesS e (pauM i) m).1) ((timesS e (pauM i) m).2) (pauM j)).1) ((timesS ((timesS e (pauM i) m).1) ((timesS e (pauM i) m).2) (pauM j)).2) (adjS m)).2).cells.getD 0 dZ) (((timesS ((timesS ((timesS e (pauM i) m).1) ((timesS e (pauM i) m).2) (pauM j)).1) ((timesS ((timesS e (pauM i) m).1) ((timesS e (pauM i) m).2) (pauM j)).2) (adjS m)).2).cells.getD 3 dZ)).1) ((sAdd ((timesS ((timesS ((timesS e (pauM i) m).1) ((timesS e (pauM i) m).2) (pauM j)).1) ((timesS ((timesS e (pauM i) m).1) ((timesS e (pauM i) m).2) (pauM j)).2) (adjS m)).1) (((timesS ((timesS ((timesS e (pauM i) m).1) ((timesS e (pauM i) m).2) (pauM j)).1) ((timesS ((timesS e (pauM i) m).1) ((timesS e (pauM i) m).2) (pauM j)).2) (adjS m)).2).cells.getD 0 dZ) (((timesS ((timesS ((timesS e (pauM i) m).1) ((timesS e (pauM i) m).2) (pauM j)).1) ((timesS ((timesS e (pauM i) m).1) ((timesS e (pauM i) m).2) (pauM j)).2) (adjS m)).2).cells.getD 3 dZ)).2) (⟨(⟨1,0,0,0⟩ : Rg),2⟩ : Dy)).2)])).length gE] X3a f) ?_;rintro _ jN ⟨G,hb⟩;have g:=f;have q:=q.only G (Blk.ne q g rfl);have p:=p.only G (by omega);have t:=t.only G (Blk.ne t g rfl);have cX:=cX.onlyT G g rfl;have x:=Below.only x G dC;have f:=hb;refine Yd fun a J=>?_;refine Xk<|eU _ _ ?_
   refine Zr J<|Zm rfl<|Ze (X02 rfl rfl (by omega) (by omega))<|Za rfl ?_;refine Zn fun a J=>?_;refine Xn ?_;exact ⟨(j+1,l2++([((sMul ((sAdd ((timesS ((timesS ((timesS e (pauM i) m).1) ((timesS e (pauM i) m).2) (pauM j)).1) ((timesS ((timesS e (pauM i) m).1) ((timesS e (pauM i) m).2) (pauM j)).2) (adjS m)).1) (((timesS ((timesS ((timesS e (pauM i) m).1) ((timesS e (pauM i) m).2) (pauM j)).1) ((timesS ((timesS e (pauM i) m).1) ((timesS e (pauM i) m).2) (pauM j)).2) (adjS m)).2).cells.getD 0 dZ) (((timesS ((timesS ((timesS e (pauM i) m).1) ((timesS e (pauM i) m).2) (pauM j)).1) ((timesS ((timesS e (pauM i) m).1) ((timesS e (pauM i) m).2) (pauM j)).2) (adjS m)).2).cells.getD 3 dZ)).1) ((sAdd ((timesS ((timesS ((timesS e (pauM i) m).1) ((timesS e (pauM i) m).2) (pauM j)).1) ((timesS ((timesS e (pauM i) m).1) ((timesS e (pauM i) m).2) (pauM j)).2) (adjS m)).1) (((timesS ((timesS ((timesS e (pauM i) m).1) ((timesS e (pauM i) m).2) (pauM j)).1) ((timesS ((timesS e (pauM i) m).1) ((timesS e (pauM i) m).2) (pauM j)).2) (adjS m)).2).cells.getD 0 dZ) (((timesS ((timesS ((timesS e (pauM i) m).1) ((timesS e (pauM i) m).2) (pauM j)).1) ((timesS ((timesS e (pauM i) m).1) ((timesS e (pauM i) m).2) (pauM j)).2) (adjS m)).2).cells.getD 3 dZ)).2) (⟨(⟨1,0,0,0⟩ : Rg),2⟩ : Dy)).2)]),(sMul ((sAdd ((timesS ((timesS ((timesS e (pauM i) m).1) ((timesS e (pauM i) m).2) (pauM j)).1) ((timesS ((timesS e (pauM i) m).1) ((timesS e (pauM i) m).2) (pauM j)).2) (adjS m)).1) (((timesS ((timesS ((timesS e (pauM i) m).1) ((timesS e (pauM i) m).2) (pauM j)).1) ((timesS ((timesS e (pauM i) m).1) ((timesS e (pauM i) m).2) (pauM j)).2) (adjS m)).2).cells.getD 0 dZ) (((timesS ((timesS ((timesS e (pauM i) m).1) ((timesS e (pauM i) m).2) (pauM j)).1) ((timesS ((timesS e (pauM i) m).1) ((timesS e (pauM i) m).2) (pauM j)).2) (adjS m)).2).cells.getD 3 dZ)).1) ((sAdd ((timesS ((timesS ((timesS e (pauM i) m).1) ((timesS e (pauM i) m).2) (pauM j)).1) ((timesS ((timesS e (pauM i) m).1) ((timesS e (pauM i) m).2) (pauM j)).2) (adjS m)).1) (((timesS ((timesS ((timesS e (pauM i) m).1) ((timesS e (pauM i) m).2) (pauM j)).1) ((timesS ((timesS e (pauM i) m).1) ((timesS e (pauM i) m).2) (pauM j)).2) (adjS m)).2).cells.getD 0 dZ) (((timesS ((timesS ((timesS e (pauM i) m).1) ((timesS e (pauM i) m).2) (pauM j)).1) ((timesS ((timesS e (pauM i) m).1) ((timesS e (pauM i) m).2) (pauM j)).2) (adjS m)).2).cells.getD 3 dZ)).2) (⟨(⟨1,0,0,0⟩ : Rg),2⟩ : Dy)).1),⟨gD,gE,J.sb,(by omega),gX,q,p,t,f,cX,x⟩,(by first|omega|(dsimp only;omega))⟩
  have aC:=aG;have aG:=Q1 aG
  have aJ:j=3:=by have:=aG;omega
  subst aJ
  refine Q9<|Xm<|Xm<|X06 ?_;refine Xk<|eQ _ _<|Zr J<|Zm rfl<|Ze (X02 rfl rfl (by omega) (by omega))<|Za rfl ?_;refine Zn fun a J=>?_;refine Xn ?_;exact ⟨(i+1,l2,e),⟨bC,bE,J.sb,(by omega),(by rw [Wb,Nat.one_mul];exact dD),q,p,t,f,n,x⟩,(by first|omega|(dsimp only;omega))⟩
 have aB:=aF;have aF:=Q1 aF
 have b9:i=3:=by have:=aF;omega
 subst b9
 obtain ⟨gF,gG⟩:=Xr1 eF hl;refine Q9<|Xm<|Xm<|X06 ?_;refine eL _ _<|Q5 fun _ gI=>?_;refine Zs J fun _ gJ=>?_;refine Zm rfl<|Ze (X3s rfl)<|Ze (Vd rfl X3u 0)<|Ze (X0 rfl Xjb (t.at 0))<|Zt gJ fun a J=>?_
 refine Xi J rfl (fun bH=>?_) (fun bH=>?_)
 ·have eB:=bH;have he:=gF bH;refine Zs J fun _ gK=>?_;refine Ze (Xf (ps:=[]) (cs:=[.slice none 0 0]) rfl (fun _=>by first|rfl|kernel_rfl))<|Zo (Vw [.slice none 0 0] X1l p) ?_;rintro _ jO ⟨G,hb⟩;have g:=p;have x:=Below.only x G dB;have p:=hb;refine Za rfl<|Zt gK fun a J=>?_;refine Q6<|X8<|X4 J (X0s J rfl (ResV.cellN (l:=[.slice none 0 0]) rfl X16 (p.at 0) rfl) rfl) ?_
  rw [he]
  exact ⟨none,0,rfl,(Own.nil _ _ _ _ _),x⟩
 have eB:=bH;have he:=gG bH;refine Q7<|gI _ _<|Zs J fun _ gL=>?_;refine Ze (Vn X16 f)<|Zo (Vw [.slice bI l.length bJ] X1l p) ?_;rintro _ jP ⟨G,hb⟩;have g:=p;have bM:=bM.onlyT G g rfl;have x:=Below.only x G dB;have p:=hb;refine Za rfl<|Zt gL fun a J=>?_
 refine Q6 (X4 J (X0s J rfl (ResV.cellN (l:=[.slice bI l.length bJ]) rfl X16 (p.at 0) rfl) rfl) ?_)
 rw [he]
 exact ⟨bI,bJ,rfl,bM,x⟩
theorem tm3(n:Nat) : (n:Int).tmod 3=((n % 3:Nat) : Int)∧n % 3<3:=⟨rfl,Nat.mod_lt _ (by decide)⟩
theorem Y09{n:Nat}(h:n<9) : wr ((n:Int).tdiv 3)=((n/3:Nat) : Int):=X0i (i:=((n/3:Nat) : Int)) (by omega) (by omega)
theorem Y01{l:List Dy}(h:l.length=9){i j:Nat}(hi:i<3)(hj:j<3) : l[i*3+j]? = some ((bm3 l).at i j):=by
 rw [Wi];exact at9 h hi hj
theorem Xma{f:Nat→Nat→Dy}(n:Nat) : gridL f 3 n++[f (n/3) (n % 3)]=gridL f 3 (n+1):=by
 unfold gridL;rw [List.range_succ,List.map_append];rfl
theorem Xjl(w0:World)(bV:Nat)(o:Blk w0 bV 95 [.bool false])(Ap:Option Addr)(cp:Nat)(p:List Dy)(e:Rd w0 w0.heap.size 86 encD Ap p)(Aq:Option Addr)(cq:Nat)(q:List Dy)(f:Rd w0 w0.heap.size 86 encD Aq q)(cH:p.length=9)(cJ:q.length=9)(b2:∀ x ∈ p,dOk x=true)(b3:∀ x ∈ q,dOk x=true)(r:List Dy)(hr:mulBI p q=some r) : Ret Tryz.prog 63 [.pointer (some ⟨bV,0,none⟩),.agg #[.slice Ap p.length cp],.agg #[.slice Aq q.length cq]] w0 (fun v w=>∃ A c,v=.agg #[.slice A r.length c]∧Own w w0.heap.size 86 5 encD A c r∧Kept bV w0.heap.size w0 w∧Blk w bV 95 [.bool false]):=by
 have d8:=o.lt;refine enter Tryz.func63 rfl 53 rfl rfl ?_;intro a I
 have H:Kept bV w0.heap.size w0 w0:=Kept.refl _ _ _
 refine Zs I fun _ cK=>?_;refine Zf (X0b (zs:=[.slice Ap p.length cp]) rfl rfl) ?_;rintro _ w1 ⟨b4,rfl,cM,G,y⟩;have d9:=Q0 H.size cM;have o:=o.below G;have e:=e.below G;have f:=f.below G;have H:=ktr H G;refine Zf (X0b (zs:=[.slice Aq q.length cq]) rfl rfl) ?_;rintro _ w2 ⟨b5,rfl,cO,G,B⟩
 have cE:b4≠b5:=by have:=y.lt;omega
 have dA:=Q0 H.size cO;have o:=o.below G;have y:=y.below G;have e:=e.below G;have f:=f.below G;have H:=ktr H G;refine Zf (X3 (zs:=[.slice none 0 0]) X23 rfl) ?_;rintro _ w3 ⟨b7,rfl,cP,G,D⟩
 have cF:b4≠b7:=by have:=y.lt;omega
 have cG:b5≠b7:=by have:=B.lt;omega
 have b6:=Q0 H.size cP;have o:=o.below G;have y:=y.below G;have B:=B.below G;have e:=e.below G;have f:=f.below G;have H:=ktr H G;refine Zx cK fun a I _ cQ=>?_;refine Zf (X3 (zs:=[.slice none 0 0]) X23 rfl) ?_;rintro _ w4 ⟨b10,rfl,b8,G,n⟩
 have b9:b4≠b10:=by have:=y.lt;omega
 have bC:b5≠b10:=by have:=B.lt;omega
 have bD:b7≠b10:=by have:=D.lt;omega
 have aQ:=Q0 H.size b8;have o:=o.below G;have y:=y.below G;have B:=B.below G;have D:=D.below G;have e:=e.below G;have f:=f.below G;have H:=ktr H G;refine ZX cQ fun a I _ bE=>?_;refine Zs I fun _ bF=>?_;refine Za rfl<|Zt bF fun a I=>?_;refine Q8<|X04 (σ:=Nat×(List Dy)) (fun (s:Nat×(List Dy)) (a:Act) (w:World)=>match s with|(i,l)=>∃ a9 aA,Fr a 53 [(0,.pointer (some ⟨bV,0,none⟩)),(4,.pointer (some ⟨b4,0,none⟩)),(5,.pointer (some ⟨b5,0,none⟩)),(6,.pointer (some ⟨b7,0,none⟩)),(7,.pointer (some ⟨b10,0,none⟩)),(8,vi (i:Int))]∧(i≤3)∧(seqO (gridG (fun i j=>dotI (bm3 p) (bm3 q) i j 3) 3) (i*3)=some l)∧Blk w bV 95 [.bool false]∧Blk w b4 66 [.slice Ap p.length cp]∧Blk w b5 66 [.slice Aq q.length cq]∧Blk w b7 66 [.slice none 0 0]∧Blk w b10 66 [.slice a9 l.length aA]∧Rd w w0.heap.size 86 encD Ap p∧Rd w w0.heap.size 86 encD Aq q∧Own w w0.heap.size 86 5 encD a9 aA l∧Kept bV w0.heap.size w0 w) (fun (s:Nat×(List Dy))=>match s with|(i,l)=>3-i) (0,[]) ?_ ?_
 ·exact ⟨none,0,I.sb,(by omega),(by rw [Nat.zero_mul];rfl),o,y,B,D,n,e,f,(Own.nil _ _ _ _ _),H⟩
 rintro ⟨i,l⟩ a w5 ⟨a9,aA,I,hi,hl,o,y,B,D,n,e,f,aC,H⟩;refine Q5 fun _ bG=>?_;refine Zs I fun _ bH=>?_;refine Zm rfl<|Ze (X19 rfl rfl)<|Zt bH fun a I=>?_
 refine Xi I rfl (fun L=>?_) (fun L=>?_)
 ·have aR:=L;have L:=Q2 L
  have aI:i<3:=by have:=L;omega
  refine Q7<|bG _ _<|Q5 fun _ bI=>?_;refine Q8<|Zs I fun _ bJ=>?_;refine Za rfl<|Zt bJ fun a I=>?_;refine Q8<|X04 (σ:=Nat×(List Dy)) (fun (s:Nat×(List Dy)) (a:Act) (w:World)=>match s with|(j,l2)=>∃ aF aG,Fr a 53 [(0,.pointer (some ⟨bV,0,none⟩)),(4,.pointer (some ⟨b4,0,none⟩)),(5,.pointer (some ⟨b5,0,none⟩)),(6,.pointer (some ⟨b7,0,none⟩)),(7,.pointer (some ⟨b10,0,none⟩)),(8,vi (i:Int)),(9,vi (j:Int))]∧(j≤3)∧(seqO (gridG (fun i j=>dotI (bm3 p) (bm3 q) i j 3) 3) (i*3+j)=some l2)∧Blk w bV 95 [.bool false]∧Blk w b4 66 [.slice Ap p.length cp]∧Blk w b5 66 [.slice Aq q.length cq]∧Blk w b7 66 [.slice none 0 0]∧Blk w b10 66 [.slice aF l2.length aG]∧Rd w w0.heap.size 86 encD Ap p∧Rd w w0.heap.size 86 encD Aq q∧Own w w0.heap.size 86 5 encD aF aG l2∧Kept bV w0.heap.size w0 w) (fun (s:Nat×(List Dy))=>match s with|(j,l2)=>3-j) (0,l) ?_ ?_
  ·exact ⟨a9,aA,I.sb,(by omega),hl,o,y,B,D,n,e,f,aC,H⟩
  rintro ⟨j,l2⟩ a w6 ⟨aF,aG,I,hj,aN,o,y,B,D,n,e,f,E,H⟩;refine Q5 fun _ bK=>?_;refine Zs I fun _ bL=>?_;refine Zm rfl<|Ze (X19 rfl rfl)<|Zt bL fun a I=>?_
  refine Xi I rfl (fun M=>?_) (fun M=>?_)
  ·have aS:=M;have M:=Q2 M
   have aJ:j<3:=by have:=M;omega
   have dB:=X36 aN;refine Q7<|bK _ _<|Q5 fun _ bM=>?_;refine Q8<|Zs I fun _ bN=>?_;refine Ze (Xf (ps:=[]) (cs:=[vi 0,vi 0,vi 0,vi 0,vi 0]) rfl (fun _=>by first|rfl|kernel_rfl))<|Zf (X3 (zs:=[vi 0,vi 0,vi 0,vi 0,vi 0]) X0l rfl) ?_;rintro _ w7 ⟨aT,rfl,aD,G,C⟩;have U:=Q0 H.size aD;have bO:=e.away aD;have bP:=f.away aD;have W:=E.away aD;have o:=o.below G;have y:=y.below G;have B:=B.below G;have D:=D.below G;have n:=n.below G;have e:=e.below G;have f:=f.below G;have E:=E.below G;have H:=ktr H G;refine Zo (Vw [vi 0,vi 0,vi 0,vi 0,vi 0] Xb C) ?_;rintro _ w8 ⟨J,hb⟩;have g:=C;have o:=o.only J (Blk.ne o g rfl);have y:=y.only J (Blk.ne y g rfl);have B:=B.only J (Blk.ne B g rfl);have D:=D.only J (Blk.ne D g rfl);have n:=n.only J (Blk.ne n g rfl);have e:=e.only J U;have f:=f.only J U;have E:=E.onlyA J W;have H:=Kept.only H J U;have C:=hb;refine ZX bN fun a I _ bQ=>?_;refine Zs I fun _ bR=>?_;refine Za rfl<|Zt bR fun a I=>?_;refine Q8<|X04 (σ:=Nat×Dy) (fun (s:Nat×Dy) (a:Act) (w:World)=>match s with|(k,s)=>Fr a 53 [(0,.pointer (some ⟨bV,0,none⟩)),(4,.pointer (some ⟨b4,0,none⟩)),(5,.pointer (some ⟨b5,0,none⟩)),(6,.pointer (some ⟨b7,0,none⟩)),(7,.pointer (some ⟨b10,0,none⟩)),(8,vi (i:Int)),(9,vi (j:Int)),(10,.pointer (some ⟨aT,0,none⟩)),(11,vi (k:Int))]∧(k≤3)∧(dotI (bm3 p) (bm3 q) i j k=some s)∧Blk w bV 95 [.bool false]∧Blk w b4 66 [.slice Ap p.length cp]∧Blk w b5 66 [.slice Aq q.length cq]∧Blk w b7 66 [.slice none 0 0]∧Blk w b10 66 [.slice aF l2.length aG]∧Blk w aT 86 [vi s.num.a,vi s.num.b,vi s.num.c,vi s.num.d,vi s.exp]∧Rd w w0.heap.size 86 encD Ap p∧Rd w w0.heap.size 86 encD Aq q∧Own w w0.heap.size 86 5 encD aF aG l2∧Kept bV w0.heap.size w0 w) (fun (s:Nat×Dy)=>match s with|(k,s)=>3-k) (0,dZ) ?_ ?_
   ·exact ⟨I.sb,(by omega),rfl,o,y,B,D,n,C,e,f,E,H⟩
   rintro ⟨k,s⟩ a w9 ⟨I,hk,hs,o,y,B,D,n,C,e,f,E,H⟩;refine Q5 fun _ bS=>?_;refine Zs I fun _ bU=>?_;refine Zm rfl<|Ze (X19 rfl rfl)<|Zt bU fun a I=>?_
   refine Xi I rfl (fun N=>?_) (fun N=>?_)
   ·have aU:=N;have N:=Q2 N
    have aK:k<3:=by have:=N;omega
    obtain ⟨z,t,cR,cS,cU,cV,cW,dC⟩:=Xtz hr b2 b3 aI aJ aK hs;refine Q7<|bS _ _<|Q5 fun _ bW=>?_;refine Q8<|Xy (some bV) (fun j=>[21].contains j) mixed ?_;intro cX G;have o:=o.below G;have y:=y.below G;have B:=B.below G;have D:=D.below G;have n:=n.below G;have C:=C.below G;have e:=e.below G;have f:=f.below G;have E:=E.below G;have H:=ktr H G;refine Yb I<|Yo 0 rfl (fun _=>Xa rfl) ?_;refine Yw 1 rfl trivial (fun w1 h1=>Xz (l:=[vi s.num.a,vi s.num.b,vi s.num.c,vi s.num.d,vi s.exp]) rfl X6 ((C.only h1 (Blk.ne C o rfl)).at 0) rfl) ?_;refine Yo 2 rfl (fun _=>Xa rfl)<|Yo 3 rfl (fun _=>Vd rfl X0v 0) ?_;refine Yw 4 rfl trivial (fun w1 h1=>X0 rfl X0c ((y.only h1 (Blk.ne y o rfl)).at 0)) ?_;refine Yo 5 rfl (fun _=>Xa rfl)<|Yo 6 rfl (fun _=>X4r rfl rfl (by omega) (by omega))<|Yo 7 rfl (fun _=>Xa rfl)<|Yo 8 rfl (fun _=>X02 rfl rfl (by omega) (by omega)) ?_;refine Ya (k:=(3*i+k)) (u:=((bm3 p).at i k)) (enc:=encD) (l:=p) 9 rfl trivial o rfl rfl rfl Xs Xb Xw e (at9 cH aI aK) (by omega) ?_;intro dD aW aO;refine Yw 10 rfl trivial (fun w1 h1=>Xz (l:=[vi (((bm3 p).at i k).num.a),vi (((bm3 p).at i k).num.b),vi (((bm3 p).at i k).num.c),vi (((bm3 p).at i k).num.d),vi (((bm3 p).at i k).exp)]) rfl X6 (aW.only h1 aO) rfl) ?_;refine Yo 11 rfl (fun _=>Vd rfl X0v 0) ?_;refine Yw 12 rfl trivial (fun w1 h1=>X0 rfl X0c ((B.only h1 (Blk.ne B o rfl)).at 0)) ?_;refine Yo 13 rfl (fun _=>Xa rfl)<|Yo 14 rfl (fun _=>X4r rfl rfl (by omega) (by omega))<|Yo 15 rfl (fun _=>Xa rfl)<|Yo 16 rfl (fun _=>X02 rfl rfl (by omega) (by omega)) ?_;refine Ya (k:=(3*k+j)) (u:=((bm3 q).at k j)) (enc:=encD) (l:=q) 17 rfl trivial o rfl rfl rfl Xs Xb Xw f (at9 cJ aK aJ) (by omega) ?_;intro dE aX aP
    refine Yw 18 rfl trivial (fun w1 h1=>Xz (l:=[vi (((bm3 q).at k j).num.a),vi (((bm3 q).at k j).num.b),vi (((bm3 q).at k j).num.c),vi (((bm3 q).at k j).num.d),vi (((bm3 q).at k j).exp)]) rfl X6 (aX.only h1 aP) rfl) ?_;refine Y1 19<|Yf rfl trivial (EfW.mono (X0x (vs:=[.pointer (some ⟨bV,0,none⟩),.agg #[vi (((bm3 p).at i k).num.a),vi (((bm3 p).at i k).num.b),vi (((bm3 p).at i k).num.c),vi (((bm3 p).at i k).num.d),vi (((bm3 p).at i k).exp)],.agg #[vi (((bm3 q).at k j).num.a),vi (((bm3 q).at k j).num.b),vi (((bm3 q).at k j).num.c),vi (((bm3 q).at k j).num.d),vi (((bm3 q).at k j).exp)]]) rfl Xfp (by have hq:=Xtl cX bV false o ((bm3 p).at i k) ((bm3 q).at k j) (X1u (Mx.at_ok (m:=bm3 p) b2 i k)) (X1u (Mx.at_ok (m:=bm3 q) b3 k j));rw [cR] at hq;exact hq)) (fun _ _ h=>⟨fun _=>by obtain ⟨rfl,hK,aB⟩:=h;exact hK.keep,h⟩)) ?_;rintro _ d5 ⟨rfl,hK,aB⟩;obtain ⟨wm,hO,hm,G⟩:=hK.mid;clear hm;have g:=o;have y:=y.only hO (Blk.ne y g rfl);have B:=B.only hO (Blk.ne B g rfl);have D:=D.only hO (Blk.ne D g rfl);have n:=n.only hO (Blk.ne n g rfl);have C:=C.only hO (Blk.ne C g rfl);have e:=e.onlyT hO g rfl;have f:=f.onlyT hO g rfl;have E:=E.onlyT hO g rfl;have H:=H.self hO;have y:=y.below G;have B:=B.below G;have D:=D.below G;have n:=n.below G;have C:=C.below G;have e:=e.below G;have f:=f.below G;have E:=E.below G;have H:=ktr H G
    clear g G hO hK;have o:=aB;clear aB;refine Y1 20<|Yf rfl trivial (EfW.mono (X0x (vs:=[.pointer (some ⟨bV,0,none⟩),.agg #[vi s.num.a,vi s.num.b,vi s.num.c,vi s.num.d,vi s.exp],.agg #[vi z.num.a,vi z.num.b,vi z.num.c,vi z.num.d,vi z.exp]]) rfl Xd1 (by have hq:=Xpm d5 bV false o s z cW cV;rw [cS] at hq;exact hq)) (fun _ _ h=>⟨fun _=>by obtain ⟨rfl,hK,aB⟩:=h;exact hK.keep,h⟩)) ?_;rintro _ dF ⟨rfl,hK,aB⟩;obtain ⟨wm,hO,hm,G⟩:=hK.mid;clear hm;have g:=o;have y:=y.only hO (Blk.ne y g rfl);have B:=B.only hO (Blk.ne B g rfl);have D:=D.only hO (Blk.ne D g rfl);have n:=n.only hO (Blk.ne n g rfl);have C:=C.only hO (Blk.ne C g rfl);have e:=e.onlyT hO g rfl;have f:=f.onlyT hO g rfl;have E:=E.onlyT hO g rfl;have H:=H.self hO;have y:=y.below G;have B:=B.below G;have D:=D.below G;have n:=n.below G;have C:=C.below G;have e:=e.below G;have f:=f.below G;have E:=E.below G;have H:=ktr H G
    clear g G hO hK;have o:=aB;clear aB;refine Y1 21<|Yh rfl trivial rfl (Vw [vi t.num.a,vi t.num.b,vi t.num.c,vi t.num.d,vi t.exp] Xb C) ?_;rintro _ dG ⟨J,hb⟩;have g:=C;have o:=o.only J (Blk.ne o g rfl);have y:=y.only J (Blk.ne y g rfl);have B:=B.only J (Blk.ne B g rfl);have D:=D.only J (Blk.ne D g rfl);have n:=n.only J (Blk.ne n g rfl);have e:=e.only J U;have f:=f.only J U;have E:=E.onlyA J W;have H:=Kept.only H J U;have C:=hb;refine Yd fun a I=>?_;refine Xk<|bW _ _<|Zr I<|Zm rfl<|Ze (X02 rfl rfl (by omega) (by omega))<|Za rfl ?_;refine Zn fun a I=>?_;refine Xn ?_;exact ⟨(k+1,t),⟨I.sb,(by omega),cU,o,y,B,D,n,C,e,f,E,H⟩,(by first|omega|(dsimp only;omega))⟩
   have aU:=N;have N:=Q1 N
   have aK:k=3:=by have:=N;omega
   subst aK
   have d6:=Xlp hr aJ aI aN hs;refine Q9<|Xm<|Xm<|X06 ?_;refine bQ _ _<|Zr I<|Ze (Vd rfl X0v 0)<|Ze (X0 rfl X0c (n.at 0))<|Ze (Vn X6 C)<|Zf (X7 (k:=1) (vs:=[.agg #[vi s.num.a,vi s.num.b,vi s.num.c,vi s.num.d,vi s.exp]]) (zs:=[vi s.num.a,vi s.num.b,vi s.num.c,vi s.num.d,vi s.exp]) rfl Xs X0u rfl rfl) ?_;rintro _ dH ⟨b36,rfl,aE,G,aL⟩
   have aZ:aT≠b36:=by have:=C.lt;omega
   have d7:=Q0 H.size aE;have bZ:=e.away aE;have cA:=f.away aE;have aH:=E.away aE;have o:=o.below G;have y:=y.below G;have B:=B.below G;have D:=D.below G;have n:=n.below G;have C:=C.below G;have e:=e.below G;have f:=f.below G;have E:=E.below G;have H:=ktr H G;refine Zf (X0k (enc:=encD) (l:=(l2)) (l2:=([s])) (B0:=w0.heap.size) rfl rfl Xs X0u Xw X28 E (Rd.of_blk aL rfl _ aL.lt) (by simp only [maxLen];simp;omega) (by simp;omega) H.size) ?_;rintro _ dI ⟨cB,cC,rfl,aM,hg,aY⟩
   have Q:Own _ w0.heap.size 86 5 encD _ _ (l2):=E
   have b0:=aY _ C.lt W;have b1:=aY _ aL.lt aH;clear aY;have o:=o.appT Q hg rfl;have y:=y.appT Q hg rfl;have B:=B.appT Q hg rfl;have D:=D.appT Q hg rfl;have n:=n.appT Q hg rfl;have e:=e.appB Q hg (Qb _);have f:=f.appB Q hg (Qb _);have H:=Kept.app H Q hg (Qb _) H.size;clear Q hg;refine Ze (Vd rfl X0v 0)<|Zo (Vw [.slice cB (l2++([s])).length cC] X3a n) ?_;rintro _ dJ ⟨J,hb⟩;have g:=n;have o:=o.only J (Blk.ne o g rfl);have y:=y.only J (by omega);have B:=B.only J (by omega);have D:=D.only J (by omega);have e:=e.onlyT J g rfl;have f:=f.onlyT J g rfl;have aM:=aM.onlyT J g rfl;have H:=Kept.only H J aQ;have n:=hb;refine Zn fun a I=>?_;refine Xk<|bM _ _<|Zr I<|Zm rfl<|Ze (X02 rfl rfl (by omega) (by omega))<|Za rfl ?_;refine Zn fun a I=>?_;refine Xn ?_;exact ⟨(j+1,l2++[s]),⟨cB,cC,I.sb,(by omega),d6,o,y,B,D,n,e,f,aM,H⟩,(by first|omega|(dsimp only;omega))⟩
  have aS:=M;have M:=Q1 M
  have aJ:j=3:=by have:=M;omega
  refine Q9<|Xm<|Xm<|X06 ?_;refine Xk<|bI _ _<|Zr I<|Zm rfl<|Ze (X02 rfl rfl (by omega) (by omega))<|Za rfl ?_;refine Zn fun a I=>?_;refine Xn ?_;exact ⟨(i+1,l2),⟨aF,aG,I.sb,(by omega),(by rw [Wb,Nat.one_mul];rw [aJ] at aN;exact aN),o,y,B,D,n,e,f,E,H⟩,(by first|omega|(dsimp only;omega))⟩
 have aR:=L;have L:=Q1 L
 have aI:i=3:=by have:=L;omega
 refine Q9<|Xm<|Xm<|X06 ?_;refine bE _ _<|Zs I fun _ cD=>?_;refine Ze (Vn X16 n)<|Zo (Vw [.slice a9 l.length aA] X1l D) ?_;rintro _ dK ⟨J,hb⟩;have g:=D;have o:=o.only J (Blk.ne o g rfl);have aC:=aC.onlyT J g rfl;have H:=Kept.only H J b6;have D:=hb;refine Zt cD fun a I=>?_
 refine Q6 (X4 I (Xp I rfl (ResV.cellN (l:=[.slice a9 l.length aA]) rfl X16 (D.at 0) rfl)) ?_)
 have he:r=l:=by rw [aI] at hl;exact Option.some.inj (hr.symm.trans hl)
 rw [he]
 exact ⟨a9,aA,rfl,aC,H,o⟩
theorem Xx9(D:World)(Ap:Option Addr)(cp:Nat)(p:List Dy)(J:Rd D D.heap.size 86 encD Ap p)(aR:p.length=9) : Ret Tryz.prog 112 [.agg #[.slice Ap p.length cp]] D (fun v w=>∃ A c,v=.agg #[.slice A (trB p).length c]∧Own w D.heap.size 86 5 encD A c (trB p)∧Below D.heap.size D w):=by
 refine enter Tryz.func112 rfl 25 rfl rfl ?_;intro a x
 have q:=bz D
 refine Zs x fun _ aS=>?_;refine Zf (X0b (zs:=[.slice Ap p.length cp]) rfl rfl) ?_;rintro _ w1 ⟨b3,rfl,aT,t,e⟩;have b0:=Q0 q.size aT;have q:=btr q t;refine Zf (X3 (zs:=[.slice none 0 0]) X23 rfl) ?_;rintro _ w2 ⟨b5,rfl,aU,t,f⟩
 have aO:b3≠b5:=by have:=e.lt;omega
 have aD:=Q0 q.size aU;have e:=e.below t;have q:=btr q t;refine Zx aS fun a x _ aW=>?_;refine Zf (X3 (zs:=[.slice none 0 0]) X23 rfl) ?_;rintro _ w3 ⟨b8,rfl,aX,t,m⟩
 have aP:b3≠b8:=by have:=e.lt;omega
 have aQ:b5≠b8:=by have:=f.lt;omega
 have aE:=Q0 q.size aX;have e:=e.below t;have f:=f.below t;have q:=btr q t;refine ZX aW fun a x _ aY=>?_;refine Zs x fun _ aF=>?_;refine Za rfl<|Zt aF fun a x=>?_;refine Q8<|X04 (σ:=Nat×(List Dy)) (fun (s:Nat×(List Dy)) (a:Act) (w:World)=>match s with|(n,l)=>∃ z B,Fr a 25 [(1,.pointer (some ⟨b3,0,none⟩)),(2,.pointer (some ⟨b5,0,none⟩)),(3,.pointer (some ⟨b8,0,none⟩)),(4,vi (n:Int))]∧(n≤9)∧(gridL (fun i j=>(bm3 p).at j i) 3 n=l)∧Blk w b3 66 [.slice Ap p.length cp]∧Blk w b5 66 [.slice none 0 0]∧Blk w b8 66 [.slice z l.length B]∧Own w D.heap.size 86 5 encD z B l∧Below D.heap.size D w) (fun (s:Nat×(List Dy))=>match s with|(n,l)=>9-n) (0,[]) ?_ ?_
 ·exact ⟨none,0,x.sb,(by omega),rfl,e,f,m,(Own.nil _ _ _ _ _),q⟩
 rintro ⟨n,l⟩ a w4 ⟨z,B,x,hn,hl,e,f,m,g,q⟩;refine Q5 fun _ aG=>?_;refine Zs x fun _ aH=>?_;refine Zm rfl<|Ze (X19 rfl rfl)<|Zt aH fun a x=>?_
 refine Xi x rfl (fun o=>?_) (fun o=>?_)
 ·have a9:=o;have o:=Q2 o
  have aA:n<9:=by have:=o;omega
  have b1:l.length=n:=by rw [← hl,X2o]
  refine Q7<|aG _ _<|Q5 fun _ aI=>?_;refine Q8<|Xy none (fun j=>[13,15].contains j) mixed ?_;intro w5 t;have e:=e.below t;have f:=f.below t;have m:=m.below t;have g:=g.below t;have q:=btr q t;refine Yb x<|Yo 0 rfl (fun _=>Vd rfl X0v 0)<|Ye 1 rfl (X0 rfl X0c (m.at 0))<|Yo 2 rfl (fun _=>Vd rfl X0v 0)<|Ye 3 rfl (X0 rfl X0c (e.at 0))<|Yo 4 rfl (fun _=>Xa rfl)<|Yo 5 rfl (fun _=>Vx (X89 rfl rfl rfl) (tm3 n).1)<|Yo 6 rfl (fun _=>X4r rfl rfl (by have:=tm3 n;omega) (by have:=tm3 n;omega))<|Yo 7 rfl (fun _=>Xa rfl)<|Yo 8 rfl (fun _=>Vx (Xck rfl rfl rfl) (Y09 aA))<|Yo 9 rfl (fun _=>X02 rfl rfl (by omega) (by omega)) ?_;refine Yi (k:=(n % 3*3+n/3)) (u:=((bm3 p).at (n % 3) (n/3))) (enc:=encD) (l:=p) 10 rfl trivial rfl rfl Xs Xb Xw (J.below' q) (Y01 aR (by omega) (by omega)) (by have:=tm3 n;omega) ?_;intro b2 aB;refine Ye 11 rfl (Xz (l:=[vi (((bm3 p).at (n % 3) (n/3)).num.a),vi (((bm3 p).at (n % 3) (n/3)).num.b),vi (((bm3 p).at (n % 3) (n/3)).num.c),vi (((bm3 p).at (n % 3) (n/3)).num.d),vi (((bm3 p).at (n % 3) (n/3)).exp)]) rfl X6 aB rfl)<|Y1 12 ?_;refine Yk rfl trivial (X7 (k:=1) (vs:=[.agg #[vi (((bm3 p).at (n % 3) (n/3)).num.a),vi (((bm3 p).at (n % 3) (n/3)).num.b),vi (((bm3 p).at (n % 3) (n/3)).num.c),vi (((bm3 p).at (n % 3) (n/3)).num.d),vi (((bm3 p).at (n % 3) (n/3)).exp)]]) (zs:=[vi (((bm3 p).at (n % 3) (n/3)).num.a),vi (((bm3 p).at (n % 3) (n/3)).num.b),vi (((bm3 p).at (n % 3) (n/3)).num.c),vi (((bm3 p).at (n % 3) (n/3)).num.d),vi (((bm3 p).at (n % 3) (n/3)).exp)]) rfl Xs X0u rfl rfl) (fun _ _ ⟨_,_,_,h,_⟩=>h) ?_;rintro _ w6 ⟨b4,rfl,E,t,G⟩;have aZ:=Q0 q.size E;have aJ:=(J.below' q).away E
  have C:=g.away E;have e:=e.below t;have f:=f.below t;have m:=m.below t;have g:=g.below t;have q:=btr q t;refine Y1 13<|Yt rfl trivial rfl (X0k (enc:=encD) (l:=(l)) (l2:=([((bm3 p).at (n % 3) (n/3))])) (B0:=D.heap.size) rfl rfl Xs X0u Xw X28 g (Rd.of_blk G rfl _ G.lt) (by simp only [maxLen];simp;omega) (by simp;omega) q.size) ?_;rintro _ w7 ⟨aK,aL,rfl,H,hg,aM⟩
  have y:Own _ D.heap.size 86 5 encD _ _ (l):=g
  have aC:=aM _ G.lt C;clear aM;have e:=e.appT y hg rfl;have f:=f.appT y hg rfl;have m:=m.appT y hg rfl;have q:=Below.app q y hg (Qb _) q.size;clear y hg;refine Yo 14 rfl (fun _=>Vd rfl X0v 0)<|Y1 15 ?_;refine Yh rfl trivial rfl (Vw [.slice aK (l++([((bm3 p).at (n % 3) (n/3))])).length aL] X3a m) ?_;rintro _ w8 ⟨ho,hb⟩;have I:=m;have e:=e.only ho (by omega);have f:=f.only ho (by omega);have H:=H.onlyT ho I rfl;have q:=Below.only q ho aE;have m:=hb;refine Yd fun a x=>?_;refine Xk<|aI _ _<|Zr x<|Zm rfl<|Ze (X02 rfl rfl (by omega) (by omega))<|Za rfl ?_;refine Zn fun a x=>?_;refine Xn ?_;exact ⟨(n+1,l++[((bm3 p).at (n % 3) (n/3))]),⟨aK,aL,x.sb,(by omega),(by rw [← hl];exact (Xma n).symm),e,f,m,H,q⟩,(by first|omega|(dsimp only;omega))⟩
 have a9:=o;have o:=Q1 o
 have aA:n=9:=by have:=o;omega
 refine Q9<|Xm<|Xm<|X06 ?_;refine aY _ _<|Zs x fun _ aN=>?_;refine Ze (Vn X16 m)<|Zo (Vw [.slice z l.length B] X1l f) ?_;rintro _ w9 ⟨ho,hb⟩;have I:=f;have g:=g.onlyT ho I rfl;have q:=Below.only q ho aD;have f:=hb;refine Zt aN fun a x=>?_
 refine Q6 (X4 x (Xp x rfl (ResV.cellN (l:=[.slice z l.length B]) rfl X16 (f.at 0) rfl)) ?_)
 have he:trB p=l:=by rw [aA] at hl;exact hl
 rw [he]
 exact ⟨z,B,rfl,g,q⟩
theorem Xrc(o:World)(Ap:Option Addr)(cp:Nat)(p:List Dy)(aE:Rd o o.heap.size 86 encD Ap p)(Aq:Option Addr)(cq:Nat)(q:List Dy)(aF:Rd o o.heap.size 86 encD Aq q)(aZ:p.length=q.length)(b0:p.length≤2305843009213693951) : Ret Tryz.prog 114 [.agg #[.slice Ap p.length cp],.agg #[.slice Aq q.length cq]] o (fun v w=>v=.bool (decide (p=q))∧Below o.heap.size o w):=by
 refine enter Tryz.func114 rfl 24 rfl rfl ?_;intro a f
 have j:=bz o
 refine Zs f fun _ aM=>?_;refine Zf (X0b (zs:=[.slice Ap p.length cp]) rfl rfl) ?_;rintro _ w1 ⟨b4,rfl,aN,x,g⟩;have aW:=Q0 j.size aN;have j:=btr j x;refine Zf (X0b (zs:=[.slice Aq q.length cq]) rfl rfl) ?_;rintro _ w2 ⟨b5,rfl,aO,x,m⟩
 have aL:b4≠b5:=by have:=g.lt;omega
 have aX:=Q0 j.size aO;have g:=g.below x;have j:=btr j x;refine Za rfl<|ZX aM fun a f _ aP=>?_;refine Zs f fun _ aQ=>?_;refine Ze (Vd rfl X0v 0)<|Ze (X0 rfl X0c (g.at 0))<|Ze (X22 rfl Xs)<|Zm rfl<|Zt aQ fun a f=>?_;refine Q8<|X04 (σ:=Nat) (fun (k:Nat) (a:Act) (w:World)=>Fr a 24 [(2,.pointer (some ⟨b4,0,none⟩)),(3,.pointer (some ⟨b5,0,none⟩)),(8,vi (p.length:Int)),(9,vi (k:Int))]∧(k≤p.length)∧(p.take k=q.take k)∧Blk w b4 66 [.slice Ap p.length cp]∧Blk w b5 66 [.slice Aq q.length cq]∧Below o.heap.size o w) (fun (k:Nat)=>p.length-k) 0 ?_ ?_
 ·exact ⟨f.sb,(Qf _),(by simp),g,m,j⟩
 rintro k a w3 ⟨f,hk,n,g,m,j⟩;refine Zs f fun _ aR=>?_;refine Ze (X19 rfl rfl)<|ZX aR fun a f _ aS=>?_
 refine Xi f rfl (fun e=>?_) (fun e=>?_)
 ·have a9:=e;have e:=Q2 e
  obtain ⟨b1,aY⟩:=Xr (l:=p) (k:=k) (by omega)
  obtain ⟨y,aA⟩:=Xr (l:=p) (k:=k) (by have:=e;omega)
  obtain ⟨v9,t⟩:=Xr (l:=q) (k:=k) (by have:=e;omega)
  refine Q7<|aS _ _<|Q5 fun _ aG=>?_;refine Q8<|Zs f fun _ aH=>?_;refine Zm rfl<|Za rfl<|ZX aH fun a f _ aI=>?_;refine Xy none (fun _=>false) mixed ?_;intro w4 x;have g:=g.below x;have m:=m.below x;have j:=btr j x;refine Yb f<|Yo 0 rfl (fun _=>Vd rfl X0v 0)<|Ye 1 rfl (X0 rfl X0c (g.at 0))<|Yo 2 rfl (fun _=>Xa rfl)<|Yi (k:=k) (u:=y) (enc:=encD) (l:=p) 3 rfl trivial rfl rfl Xs Xb Xw (aE.below' j) aA rfl ?_;intro b2 aB;refine Ye 4 rfl (Xz (l:=[vi y.num.a,vi y.num.b,vi y.num.c,vi y.num.d,vi y.exp]) rfl X6 aB rfl)<|Yo 5 rfl (fun _=>Vd rfl X0v 0)<|Ye 6 rfl (X0 rfl X0c (m.at 0))<|Yo 7 rfl (fun _=>Xa rfl)<|Yi (k:=k) (u:=v9) (enc:=encD) (l:=q) 8 rfl trivial rfl rfl Xs Xb Xw (aF.below' j) t rfl ?_;intro b3 aC;refine Ye 9 rfl (Xz (l:=[vi v9.num.a,vi v9.num.b,vi v9.num.c,vi v9.num.d,vi v9.exp]) rfl X6 aC rfl)<|Yo 10 rfl (fun _=>Xaq rfl rfl X8m (fun w=>eqD 9997 y v9 w)) ?_;refine Yd fun a f=>?_;refine aI _ _ ?_
  refine Xi f rfl (fun i=>?_) (fun i=>?_)
  ·have aD:=i
   have aT:¬ p=q:=by rintro rfl;rw [aA] at t;injection t with e9;revert i;simp [e9]
   refine Zs f fun _ aJ=>?_;refine Za rfl<|Zt aJ fun a f=>?_;refine Q6<|X00<|X8<|X8 ?_;refine X00<|X8<|X4 f (Xp f rfl rfl) ?_;exact ⟨by simp [aT],j⟩
  have aD:=i
  have aU:y=v9:=by revert i;simp
  refine Q7<|Xk<|aG _ _<|Zr f ?_;refine Ze (X02 rfl rfl (by omega) (by omega))<|Zm rfl ?_;refine Zn fun a f=>?_;refine Xn ?_;exact ⟨k+1,⟨f.sb,(by omega),(X9h n aA t aU),g,m,j⟩,(by omega)⟩
 have a9:=e;have e:=Q1 e;refine Q9<|Xm<|Xm<|X06 ?_;refine aP _ _<|Zs f fun _ aK=>?_;refine Za rfl<|Zt aK fun a f=>?_
 refine Q6 (X4 f (Xp f rfl rfl) ?_)
 have he:p=q:=by rw [Qi (by omega),Qi (by omega)] at n;exact n
 exact ⟨by simp [he],j⟩
theorem Xst(w0:World)(u:UInt8)(s:Nat)(a9:s<3)(aA:u=sylT s) : Ret Tryz.prog 75 [.int .u8 (u.toNat:Int)] w0 (fun v w=>∃ A c,v=.slice A (sylG s).length c∧Own w w0.heap.size 90 3 encG A c (sylG s)∧Below w0.heap.size w0 w):=by
 refine enter Tryz.func75 rfl 17 rfl rfl ?_;intro a b
 have e:=bz w0
 refine Zs b fun _ aN=>?_;refine Za rfl<|ZX aN fun a b _ aO=>?_;refine Zs b fun _ aP=>?_;refine Zm rfl<|Zt aP fun a b=>?_;refine Q8<|Zs b fun _ aQ=>?_;refine Ze (Xaf rfl rfl)<|Za rfl<|Zt aQ fun a b=>?_
 refine Xi b rfl (fun f=>?_) (fun f=>?_)
 ·have aE:=f;have aR:=Xwk a9 aA f
  subst aR
  refine Zs b fun _ aS=>?_;refine Ze (Xf (ps:=[(0,vi 7)]) (cs:=[vi 7,vi 0,vi 0]) rfl (fun _=>by first|rfl|kernel_rfl))<|Ze (Xf (ps:=[(0,vi 1)]) (cs:=[vi 1,vi 0,vi 0]) rfl (fun _=>by first|rfl|kernel_rfl))<|Zf (X7 (k:=2) (vs:=[.agg #[vi 7,vi 0,vi 0],.agg #[vi 1,vi 0,vi 0]]) (zs:=[vi 7,vi 0,vi 0,vi 1,vi 0,vi 0]) rfl X17 X0y rfl rfl) ?_;rintro _ w1 ⟨b8,rfl,aT,hE,aU⟩;have aF:=Q0 e.size aT;have e:=btr e hE;refine Za rfl<|Zt aS fun a b=>?_;refine Q6<|X00<|X8<|X4 b (Xp b rfl rfl) ?_;exact ⟨(some ⟨b8,0,none⟩),2,rfl,((Own.of_blkL X10 aU aF rfl rfl (by decide)) : Own _ _ _ _ encG _ _ (sylG 1)),e⟩
 have aE:=f;have aW:=f;refine Zs b fun _ aG=>?_;refine Ze (Xaf rfl rfl)<|Za rfl<|Zt aG fun a b=>?_
 refine Xi b rfl (fun d=>?_) (fun d=>?_)
 ·have aB:=d;have aX:=Xsi a9 aA d
  subst aX
  refine Zs b fun _ aH=>?_;refine Ze (Xf (ps:=[(0,vi 7)]) (cs:=[vi 7,vi 0,vi 0]) rfl (fun _=>by first|rfl|kernel_rfl))<|Ze (Xf (ps:=[(0,vi 1)]) (cs:=[vi 1,vi 0,vi 0]) rfl (fun _=>by first|rfl|kernel_rfl))<|Ze (Xf (ps:=[(0,vi 5)]) (cs:=[vi 5,vi 0,vi 0]) rfl (fun _=>by first|rfl|kernel_rfl))<|Zf (X7 (k:=3) (vs:=[.agg #[vi 7,vi 0,vi 0],.agg #[vi 1,vi 0,vi 0],.agg #[vi 5,vi 0,vi 0]]) (zs:=[vi 7,vi 0,vi 0,vi 1,vi 0,vi 0,vi 5,vi 0,vi 0]) rfl X17 X0y rfl rfl) ?_;rintro _ w2 ⟨aY,rfl,aI,hE,aJ⟩;have aC:=Q0 e.size aI;have e:=btr e hE;refine Za rfl<|Zt aH fun a b=>?_;refine Q6<|X00<|X8<|X4 b (Xp b rfl rfl) ?_;exact ⟨(some ⟨aY,0,none⟩),3,rfl,((Own.of_blkL X10 aJ aC rfl rfl (by decide)) : Own _ _ _ _ encG _ _ (sylG 2)),e⟩
 have aB:=d;have aZ:=Xyg a9 aA aW d
 subst aZ
 refine Q7<|Xk<|aO _ _<|Zs b fun _ aK=>?_;refine Ze (Xf (ps:=[(0,vi 7)]) (cs:=[vi 7,vi 0,vi 0]) rfl (fun _=>by first|rfl|kernel_rfl))<|Zf (X7 (k:=1) (vs:=[.agg #[vi 7,vi 0,vi 0]]) (zs:=[vi 7,vi 0,vi 0]) rfl X17 X0y rfl rfl) ?_;rintro _ w3 ⟨b0,rfl,aL,hE,aM⟩;have aD:=Q0 e.size aL;have e:=btr e hE;refine Za rfl<|Zt aK fun a b=>?_
 refine Q6 (X4 b (Xp b rfl rfl) ?_)
 exact ⟨(some ⟨b0,0,none⟩),1,rfl,((Own.of_blkL X10 aM aD rfl rfl (by decide)) : Own _ _ _ _ encG _ _ (sylG 0)),e⟩
theorem Xsh(t:World)(u:UInt8)(s:Nat)(x:s<3)(y:u=sylT s) : Ret Tryz.prog 83 [.int .u8 (u.toNat:Int)] t (fun v w=>∃ A c,v=.slice A (sylG s).length c∧Own w t.heap.size 90 3 encG A c (sylG s)∧Below t.heap.size t w):=by
 refine enter Tryz.func83 rfl 19 rfl rfl ?_;intro a b
 have d:=bz t
 refine Zs b fun _ aO=>?_;refine Za rfl<|Zx aO fun a b _ aP=>?_;refine Ze (Xf (ps:=[(0,vi 7)]) (cs:=[vi 7,vi 0,vi 0]) rfl (fun _=>by first|rfl|kernel_rfl))<|Zf (X7 (k:=1) (vs:=[.agg #[vi 7,vi 0,vi 0]]) (zs:=[vi 7,vi 0,vi 0]) rfl X17 X0y rfl rfl) ?_;rintro _ w1 ⟨b4,rfl,aQ,hE,j⟩;have o:=Q0 d.size aQ;have d:=btr d hE;refine Za rfl<|ZX aP fun a b _ aD=>?_;refine Zs b fun _ aR=>?_;refine Zm rfl<|Ze (Xib rfl rfl)<|Zt aR fun a b=>?_
 refine Xi b rfl (fun m=>?_) (fun m=>?_)
 ·have aE:=m
  have aS:s≠0:=by rcases Xv6 x y with h9|h9;exact h9.2;rw [h9.1] at m;simp at m
  refine Zr b<|Zm rfl<|Ze (Xf (ps:=[(0,vi 1)]) (cs:=[vi 1,vi 0,vi 0]) rfl (fun _=>by first|rfl|kernel_rfl))<|Zf (X7 (k:=1) (vs:=[.agg #[vi 1,vi 0,vi 0]]) (zs:=[vi 1,vi 0,vi 0]) rfl X17 X0y rfl rfl) ?_;rintro _ w2 ⟨b9,rfl,aT,hE,a9⟩
  have aN:b4≠b9:=by have:=j.lt;omega
  have b5:=Q0 d.size aT;have j:=j.below hE;have d:=btr d hE;refine Zf (X0k (enc:=encG) (l:=([(⟨7,0,0⟩ : Gt)])) (l2:=([(⟨1,0,0⟩ : Gt)])) (B0:=t.heap.size) rfl rfl X17 X0y X10 X20 (Own.of_blkL X10 j o rfl rfl (Nat.le_of_ble_eq_true rfl)) (Rd.of_blk a9 rfl _ a9.lt) (by decide) (by decide) d.size) ?_;rintro _ w3 ⟨aU,aW,rfl,e,hg,p⟩
  have f:Own _ t.heap.size 90 3 encG _ _ ([(⟨7,0,0⟩ : Gt)]):=(Own.of_blkL X10 j o rfl rfl (Nat.le_of_ble_eq_true rfl))
  have aF:=p _ a9.lt (Away.ne (by omega))
  clear p;have d:=Below.app d f hg (Qb _) d.size;clear f hg;refine Za rfl<|ZX aD fun a b _ z=>?_;refine Zs b fun _ aG=>?_;refine Zm rfl<|Ze (Xaf rfl rfl)<|Zt aG fun a b=>?_
  refine Xi b rfl (fun g=>?_) (fun g=>?_)
  ·have aA:=g;have aX:=Xsi x y g
   subst aX
   refine Zr b<|Zm rfl<|Ze (Xf (ps:=[(0,vi 5)]) (cs:=[vi 5,vi 0,vi 0]) rfl (fun _=>by first|rfl|kernel_rfl))<|Zf (X7 (k:=1) (vs:=[.agg #[vi 5,vi 0,vi 0]]) (zs:=[vi 5,vi 0,vi 0]) rfl X17 X0y rfl rfl) ?_;rintro _ w4 ⟨b6,rfl,h,hE,q⟩;have aY:=Q0 d.size h;have n:=e.away h;have e:=e.below hE;have d:=btr d hE;refine Zf (X0k (enc:=encG) (l:=(([(⟨7,0,0⟩ : Gt)])++([(⟨1,0,0⟩ : Gt)]))) (l2:=([(⟨5,0,0⟩ : Gt)])) (B0:=t.heap.size) rfl rfl X17 X0y X10 X20 e (Rd.of_blk q rfl _ q.lt) (by decide) (by decide) d.size) ?_;rintro _ w5 ⟨aZ,b0,rfl,aH,hg,p⟩
   have f:Own _ t.heap.size 90 3 encG _ _ (([(⟨7,0,0⟩ : Gt)])++([(⟨1,0,0⟩ : Gt)])):=e
   have aC:=p _ q.lt n;clear p;have d:=Below.app d f hg (Qb _) d.size;clear f hg;refine Za rfl<|Zx z fun a b _ aI=>?_;refine Zm rfl<|Za rfl<|Zt aI fun a b=>?_
   refine Q6 (X4 b (Xp b rfl rfl) ?_)
   exact ⟨aZ,b0,rfl,aH,d⟩
  have aA:=g;have b1:=Xw0 x y aS g
  subst b1
  refine Q7<|z _ _<|Zs b fun _ aJ=>?_;refine Zm rfl<|Za rfl<|Zt aJ fun a b=>?_
  refine Q6 (X4 b (Xp b rfl rfl) ?_)
  exact ⟨aU,aW,rfl,e,d⟩
 have aE:=m;obtain ⟨b2,b3⟩:=Xtj x y m
 subst b2
 refine Q7<|aD _ _<|Q5 fun _ aK=>?_;refine Zs b fun _ aL=>?_;refine Zm rfl<|Ze (Xaf rfl rfl)<|Zt aL fun a b=>?_
 refine Xi b rfl (fun i=>?_) (fun i=>?_)
 ·have aB:=i
  rw [b3] at i;simp at i
 have aB:=i
 skip
 refine Q7<|aK _ _<|Zs b fun _ aM=>?_;refine Zm rfl<|Za rfl<|Zt aM fun a b=>?_
 refine Q6 (X4 b (Xp b rfl rfl) ?_)
 exact ⟨(some ⟨b4,0,none⟩),1,rfl,(Own.of_blkL X10 j o rfl rfl (by decide)),d⟩
theorem X8v{m:Mx}{l:List Dy}(h:blochI m=some l) : oneQ m=true:=by unfold blochI at h;split at h;assumption;cases h
theorem Xks{gs:List Gt}{M:Mx}(h:opI ⟨1,gs⟩=some M) : mOk M=true:=by
 have:=(Xad ⟨1,gs⟩).2 M (by rw [← (Xad ⟨1,gs⟩).1];exact h)
 exact this.1
theorem Xdk{gs:List Gt}{M:Mx}(h:opI ⟨1,gs⟩=some M) : cOk ⟨1,gs⟩=true:=by unfold opI at h;split at h;assumption;cases h
theorem Xk8{s:Nat}(_:s<3) : opI ⟨1,sylG s⟩=some (opM (sylG s))∧mOk (opM (sylG s))=true∧(sylG s).length≤3:=by
 obtain ⟨M,a,_,_⟩:=Xae (Xdd s) (Q0 (X5m s) (by decide)) (by rw [Xay];have:=Xko s;omega)
 rw [X8b a]
 exact ⟨a,Xks a,X5m s⟩
theorem Xk2{l r:List Dy}(h:Gd l){s:Nat}(hs:s<3)(hr:mulBI (bkC s) l=some r) : bexp r≤bexp l+1:=by
 obtain ⟨Z,h1,_⟩:=h
 have:=(X8i hs hr h1).exps
 have:=X21 l
 omega
theorem Xil{l r:List Dy}{i:Nat}(hno:∀ j,j<i→∀ r,mulBI (bkC j) l=some r→bexp r≠bexp l-1)(h:mulBI (bkC i) l=some r)(hn:bexp r≠bexp l-1) : ∀ j,j<i+1→∀ r,mulBI (bkC j) l=some r→bexp r≠bexp l-1:=fun j hj q hq=>by
 by_cases e:j=i
 ·subst e;rw [h] at hq;injection hq with hq;rw [← hq];exact hn
 ·exact hno j (by omega) q hq
theorem Xwv{q:List UInt8}(h:q.length≤9) : opI ⟨1,wdG q⟩=some (opM (wdG q))∧mOk (opM (wdG q))=true:=by
 have hl:(wdG q).length≤9:=by simpa [wdG] using h
 have:=Xsu (wdG q)
 obtain ⟨M,a,_,_⟩:=Xae (X99 q) (by omega) (by omega)
 rw [X8b a]
 exact ⟨a,Xks a⟩
theorem Xym{u:UInt8}{n:Nat}(h:((u.toNat:Int)==(n:Int))=true) : u.toNat=n:=by
 have:=eq_of_beq h;omega
theorem Xgf{u:UInt8}(h:((u.toNat:Int)==83)=true) : letG u=⟨5,0,0⟩:=by
 have h1:u.toNat=83:=Xym h
 have:u=83:=UInt8.toNat_inj.1 h1
 rw [this];rfl
theorem Xgl{u:UInt8}(h:((u.toNat:Int)==83)=false) : letG u=⟨1,0,0⟩:=by
 unfold letG
 rw [Q3]
 rintro rfl
 revert h;decide
theorem X6x{q:List UInt8}{k:Nat}{u:UInt8}(h:q[k]? = some u) : wdG (q.take (k+1))=wdG (q.take k)++[letG u]:=by
 unfold wdG;rw [Qt,h,List.map_append];rfl
structure FrmOk (ss:List UInt8) : Prop where
 at':∀ (i:Nat) (u:UInt8),ss[i]? = some u→u=72∨u=83∨(u=84∧i=0)
 len:ss.length≤40
theorem Xv5{ss:List UInt8}(h:FrmOk ss){i:Nat}{u:UInt8}(hu:ss[i]? = some u)(hc:((u.toNat:Int) != 72&&(u.toNat:Int) != 83&&((u.toNat:Int) != 84||decide (0<(i:Int))))=true) : False:=by
 rcases h.at' i u hu with rfl|rfl|⟨rfl,rfl⟩
 ·simp at hc
 ·simp at hc
 ·simp at hc
theorem Xqf{ss:List UInt8}(h:ss.length≤40){fc fp:Int}(hc:0≤fc∧fc≤23)(hp:0≤fp∧fp≤7) : (decide ((ss.length:Int)≤40)&&inR fc 0 23&&inR fp 0 7)=true:=by
 rw [decide_eq_true (by omega),X0a.2 hc,X0a.2 hp];rfl
theorem Xi7{l:List Dy}(h:Gd l)(hb:bexp l≤40) : FrmOk ((nfS l).map sylT):=by
 have hn:=X21 l;obtain ⟨h1,h2⟩:=X5u h hb
 refine ⟨fun i u hu=>?_,by rw [Qo];omega⟩
 rw [List.getElem?_map] at hu
 cases e:(nfS l)[i]? with
 | none=>rw [e] at hu;cases hu
 | some s=>
  rw [e] at hu
  injection hu with hu
  have hs:=h2 s (Qe e)
  have ht:=Xrh h hb (bexp l).toNat (by omega) i s e
  rcases lt3 hs with rfl|rfl|rfl
  ·refine .inr (.inr ⟨hu.symm,?_⟩)
   by_cases h0:i=0
   ·exact h0
   ·exact absurd rfl (ht (by omega))
  ·exact .inl hu.symm
  ·exact .inr (.inl hu.symm)
theorem Xs8(w0:World)(k:Int)(i:Nat)(aH:i<2)(aI:k=letK i)(aJ:HalfT w0) : Ret Tryz.prog 130 [vi k] w0 (fun v w=>∃ A c,v=.agg #[.slice A (clB (letR i)).length c]∧Own w w0.heap.size 86 5 encD A c (clB (letR i))∧Below w0.heap.size w0 w):=by
 obtain ⟨aA,aB⟩:=Xlt aH
 have aK:gateI 1 ⟨k,0,0⟩=some (gateS 1 ⟨letK i,0,0⟩):=by rw [aI];exact aA
 have aL:=Xe8 (n:=1) (by decide) (g:=⟨letK i,0,0⟩)
 refine enter Tryz.func130 rfl 19 rfl rfl ?_;intro a hf
 have d:=bz w0
 refine Zs hf fun _ aM=>?_;refine Zf (X3 (zs:=[.slice none 0 0]) X23 rfl) ?_;rintro _ w1 ⟨b3,rfl,aN,j,b⟩;have aC:=Q0 d.size aN;have d:=btr d j;refine Zx aM fun a hf _ aO=>?_;refine Zm rfl<|Ze (Xf (ps:=[(0,vi k)]) (cs:=[vi k,vi 0,vi 0]) rfl (fun _=>by first|rfl|kernel_rfl))<|Zf (X0x (vs:=[vi 1,.agg #[vi k,vi 0,vi 0]]) rfl Xar (by have hq:=Xlu w1 1 (⟨k,0,0⟩ : Gt);rw [aK,Qq,Option.isSome_some] at hq;exact hq)) ?_;rintro _ w2 ⟨A5,c5,rfl,m,j⟩;have m:=m.lower d.size;have b:=b.below j;have d:=btr d j;refine Zm rfl<|Ze (X1 (vs:=[.agg #[vi ((gateS 1 ⟨letK i,0,0⟩).rows),vi ((gateS 1 ⟨letK i,0,0⟩).cols),.slice A5 ((gateS 1 ⟨letK i,0,0⟩).cells).length c5],.bool true]) rfl rfl)<|Ze (X1 (vs:=[.agg #[vi ((gateS 1 ⟨letK i,0,0⟩).rows),vi ((gateS 1 ⟨letK i,0,0⟩).cols),.slice A5 ((gateS 1 ⟨letK i,0,0⟩).cells).length c5],.bool true]) rfl rfl)<|Zf (X3 (zs:=[vi 0,vi 0,.slice none 0 0]) X0n rfl) ?_;rintro _ w3 ⟨b7,rfl,aP,j,q⟩;have aD:=Q0 d.size aP;have b:=b.below j;have m:=m.below j;have d:=btr d j;refine Zo (Vw [vi ((gateS 1 ⟨letK i,0,0⟩).rows),vi ((gateS 1 ⟨letK i,0,0⟩).cols),.slice A5 ((gateS 1 ⟨letK i,0,0⟩).cells).length c5] Xt q) ?_;rintro _ w4 ⟨p,hb⟩;have e:=q;have b:=b.only p (Blk.ne b e rfl);have m:=m.onlyT p e rfl;have d:=Below.only d p aD;have q:=hb;refine Za rfl<|Zx aO fun a hf _ aQ=>?_;refine Ze (Vn Xg q)<|Zf (X0x (vs:=[.agg #[vi ((gateS 1 ⟨letK i,0,0⟩).rows),vi ((gateS 1 ⟨letK i,0,0⟩).cols),.slice A5 ((gateS 1 ⟨letK i,0,0⟩).cells).length c5]]) rfl X9e (by have hq:=Xia w4 (gateS 1 ⟨letK i,0,0⟩) A5 c5 m.rd.top aL (aJ.of d);rw [aB,Qq,Option.isSome_some] at hq;exact hq)) ?_;rintro _ w5 ⟨A9,c9,rfl,f,j⟩
 have f:=f.lower d.size;have b:=b.below j;have d:=btr d j;refine Zm rfl<|Ze (X1 (vs:=[.agg #[.slice A9 (clB (letR i)).length c9],.bool true]) rfl rfl)<|Ze (X1 (vs:=[.agg #[.slice A9 (clB (letR i)).length c9],.bool true]) rfl rfl)<|Zf (X3 (zs:=[.slice none 0 0]) X23 rfl) ?_;rintro _ w6 ⟨b11,rfl,aE,j,o⟩
 have aF:b3≠b11:=by have:=b.lt;omega
 have a9:=Q0 d.size aE;have b:=b.below j;have f:=f.below j;have d:=btr d j;refine Zo (Vw [.slice A9 (clB (letR i)).length c9] X1l o) ?_;rintro _ w7 ⟨p,hb⟩;have e:=o;have b:=b.only p (by omega);have f:=f.onlyT p e rfl;have d:=Below.only d p a9;have o:=hb;refine Za rfl<|Zx aQ fun a hf _ aG=>?_;refine Ze (Vn X16 o)<|Zo (Vw [.slice A9 (clB (letR i)).length c9] X1l b) ?_;rintro _ w8 ⟨p,hb⟩;have e:=b;have f:=f.onlyT p e rfl;have d:=Below.only d p aC;have b:=hb;refine Zt aG fun a hf=>?_
 refine Q6 (X4 hf (Xp hf rfl (ResV.cellN (l:=[.slice A9 (clB (letR i)).length c9]) rfl X16 (b.at 0) rfl)) ?_)
 exact ⟨A9,c9,rfl,f,d⟩
theorem Xzl(j:World)(Ag:Option Addr)(cg:Nat)(g:List Gt)(aA:Rd j j.heap.size 90 encG Ag g)(s:Nat)(aB:s<3)(aC:g=sylG s)(aG:HalfT j) : Ret Tryz.prog 74 [.slice Ag g.length cg] j (fun v w=>∃ A c,v=.slice A (trB (bkC s)).length c∧Own w j.heap.size 86 5 encD A c (trB (bkC s))∧Below j.heap.size j w):=by
 obtain ⟨aH,aI,aO⟩:=Xk8 aB
 have aJ:opI ⟨1,g⟩=some (opM (sylG s)):=by rw [aC];exact aH
 refine enter Tryz.func74 rfl 20 rfl rfl ?_;intro a hf
 have d:=bz j
 refine Zs hf fun _ aK=>?_;refine Za rfl<|Zx aK fun a hf _ aL=>?_;refine Zm rfl<|Ze (Xf (ps:=[(0,vi 1),(1,.slice Ag g.length cg)]) (cs:=[vi 1,.slice Ag g.length cg]) rfl (fun _=>by first|rfl|kernel_rfl))<|Zf (X0x (vs:=[.agg #[vi 1,.slice Ag g.length cg]]) rfl Xjz (by have hq:=F97 j (⟨1,g⟩ : Cx) Ag cg (aA.below' d).top (by show g.length≤_;rw [aC];exact Q0 (X5m s) (by decide));rw [aJ,Qq,Option.isSome_some] at hq;exact hq)) ?_;rintro _ w1 ⟨A6,c6,rfl,f,k⟩;have d:=btr d k;refine Zm rfl<|Ze (X1 (vs:=[.agg #[vi ((opM (sylG s)).rows),vi ((opM (sylG s)).cols),.slice A6 ((opM (sylG s)).cells).length c6],.bool true]) rfl rfl)<|Ze (X1 (vs:=[.agg #[vi ((opM (sylG s)).rows),vi ((opM (sylG s)).cols),.slice A6 ((opM (sylG s)).cells).length c6],.bool true]) rfl rfl)<|Zf (X3 (zs:=[vi 0,vi 0,.slice none 0 0]) X0n rfl) ?_;rintro _ w2 ⟨b8,rfl,aM,k,l⟩;have aD:=Q0 d.size aM;have f:=f.below k;have d:=btr d k;refine Zo (Vw [vi ((opM (sylG s)).rows),vi ((opM (sylG s)).cols),.slice A6 ((opM (sylG s)).cells).length c6] Xt l) ?_;rintro _ w3 ⟨ho,hb⟩;have i:=l;have f:=f.onlyT ho i rfl;have d:=Below.only d ho aD;have l:=hb;refine Za rfl<|Zx aL fun a hf _ aN=>?_;refine Ze (Vn Xg l)<|Zf (X0x (vs:=[.agg #[vi ((opM (sylG s)).rows),vi ((opM (sylG s)).cols),.slice A6 ((opM (sylG s)).cells).length c6]]) rfl X9e (by have hq:=Xia w3 (opM (sylG s)) A6 c6 f.top (X9q aI) (aG.of d);rw [(X59 aB).1,Qq,Option.isSome_some] at hq;exact hq)) ?_;rintro _ w4 ⟨m,n,rfl,b,k⟩;have b:=b.lower d.size;have d:=btr d k;refine Zm rfl<|Ze (X1 (vs:=[.agg #[.slice m (trB (bkC s)).length n],.bool true]) rfl rfl)<|Ze (X1 (vs:=[.agg #[.slice m (trB (bkC s)).length n],.bool true]) rfl rfl)<|Zf (X3 (zs:=[.slice none 0 0]) X23 rfl) ?_;rintro _ w5 ⟨aP,rfl,aE,k,e⟩
 have a9:=Q0 d.size aE;have b:=b.below k;have d:=btr d k;refine Zo (Vw [.slice m (trB (bkC s)).length n] X1l e) ?_;rintro _ w6 ⟨ho,hb⟩;have i:=e;have b:=b.onlyT ho i rfl;have d:=Below.only d ho a9;have e:=hb;refine Za rfl<|Zx aN fun a hf _ aF=>?_;refine Ze (Vd rfl X0v 0)<|Ze (X0 rfl X0c (e.at 0))<|Za rfl<|Zt aF fun a hf=>?_
 refine Q6 (X4 hf (Xp hf rfl rfl) ?_)
 exact ⟨m,n,rfl,b,d⟩
theorem Xwj(h:World)(Al:Option Addr)(cl:Nat)(l:List Dy)(C:Rd h h.heap.size 86 encD Al l)(hG:Gd l)(h0:0<bexp l)(hb:bexp l≤40)(aN:HalfT h) : Ret Tryz.prog 35 [.slice Al l.length cl] h (fun v w=>∃ s r A c1,stripI l=some (s,r)∧v=.tuple #[.string (tx [sylT s]),.slice A r.length c1,.bool true]∧Own w h.heap.size 86 5 encD A c1 r∧Below h.heap.size h w):=by
 obtain ⟨aB,b4⟩:=hG.nine;have b5:=X21 l;refine enter Tryz.func35 rfl 40 rfl rfl ?_;intro a b
 have c:=bz h
 refine Zs b fun _ aO=>?_;refine Za rfl<|Za rfl<|Za rfl<|ZX aO fun a b _ b6=>?_;refine Zs b fun _ aP=>?_;refine Zm rfl<|Zt aP fun a b=>?_;refine Q8<|X04 (σ:=Nat) (fun (i:Nat) (a:Act) (w:World)=>Fr a 40 [(0,.slice Al l.length cl),(9,vi (i:Int))]∧(i≤3)∧(∀ j,j<i→∀ r,mulBI (bkC j) l=some r→bexp r≠bexp l-1)∧Below h.heap.size h w) (fun (i:Nat)=>3-i) 0 ?_ ?_
 ·exact ⟨b.sb,(by omega),(fun j hj=>by omega),c⟩
 rintro i a w1 ⟨b,hi,a9,c⟩;refine Zs b fun _ aQ=>?_;refine Ze (X19 rfl rfl)<|ZX aQ fun a b _ aR=>?_
 refine Xi b rfl (fun e=>?_) (fun e=>?_)
 ·have aC:=e;have e:=Q2 e
  have f:i<3:=by have:=e;omega
  obtain ⟨r,B,aD⟩:=X9u hG hb f;have aS:=aD.nine.1;have b7:=aD.nine.2;have b2:=X21 r;have b3:=Xk2 hG f B;refine Q7<|aR _ _<|Q5 fun _ aT=>?_;refine Q8<|Zs b fun _ aE=>?_;refine Zm rfl<|Za rfl<|Zx aE fun a b _ aF=>?_;refine Zm rfl<|Zm rfl<|Ze (X02 rfl rfl (by omega) (by omega))<|Ze (Xs4 (s:=[84,72,83]) (r:=[sylT i]) (k:=i) (m:=(i+1)) rfl rfl rfl Tryz.underlying9 rfl rfl (Nat.le_succ _) (by simp;omega) (Xpg f))<|Za rfl<|Zx aF fun a b _ aG=>?_;refine Zm rfl<|Ze (X90 (s:=([sylT i])) (k:=0) (u:=(sylT i)) rfl rfl Tryz.underlying9 rfl rfl)<|Zf (Vc (Xst _ (sylT i) i f rfl) Xhb) ?_;rintro _ w2 ⟨aU,aW,rfl,t,n⟩;have t:=t.lower c.size;have c:=btr c n;refine Zf (Vc (Xzl _ aU aW (sylG i) t.rd.top i f rfl (aN.of c)) Xou) ?_;rintro _ w3 ⟨aH,aI,rfl,x,n⟩;have x:=x.lower c.size;have c:=btr c n;refine Zf (X0x (vs:=[.slice aH (trB (bkC i)).length aI]) rfl Xhs (by have hq:=Xse w3 aH aI (trB (bkC i)) x.rd.top (X9j _);rw [(X59 f).2] at hq;exact hq)) ?_;rintro _ w4 ⟨aJ,aK,rfl,y,n⟩;have y:=y.lower c.size;have c:=btr c n;refine Zm rfl<|Zf (X0x (vs:=[.slice aJ (bkC i).length aK,.slice Al l.length cl]) rfl Xde (by have hq:=Xn1 w4 aJ aK (bkC i) y.rd.top Al cl l (C.below' c).top (Xcv f).1 aB;rw [B,Qq,Option.isSome_some] at hq;exact hq)) ?_;rintro _ w5 ⟨o,p,rfl,d,n⟩;have d:=d.lower c.size;have c:=btr c n;refine Zm rfl<|Ze (X1 (vs:=[.slice o r.length p,.bool true]) rfl rfl)<|Ze (X1 (vs:=[.slice o r.length p,.bool true]) rfl rfl)<|Za rfl<|Za rfl<|ZX aG fun a b _ aL=>?_;refine X09 (fun a w=>Fr a 40 [(0,.slice Al l.length cl),(6,.string (tx ([sylT i]))),(7,.slice o r.length p),(9,vi (i:Int)),(36,.bool ((bexp r)==((bexp l)-1)))]∧Below w5.heap.size w5 w) ?_ ?_
  ·have z:Below w5.heap.size w5 w5:=Below.refl _ _
   refine Zr b<|Zm rfl<|Zm rfl<|Zv (gW rfl) (Xa rfl) ?_;refine Zv (gW rfl) (Xf (ps:=[(0,.slice o r.length p)]) (cs:=[.slice o r.length p]) rfl (fun _=>by first|rfl|kernel_rfl)) ?_;refine Zk (gW rfl) (Vc (Xez _ o p r d.rd.top (by rw [aS];decide)) X7y) ?_;rintro _ w6 ⟨rfl,n⟩;have c:=btr c n;have z:=btr z n;refine Zv (gW rfl) (Xa rfl) ?_;refine Zv (gW rfl) (Xf (ps:=[(0,.slice Al l.length cl)]) (cs:=[.slice Al l.length cl]) rfl (fun _=>by first|rfl|kernel_rfl)) ?_;refine Zk (gW rfl) (Vc (Xez _ Al cl l (C.below' c).top (by rw [aB];decide)) X7y) ?_;rintro _ w7 ⟨rfl,n⟩;have c:=btr c n;have z:=btr z n;refine Zv (gW rfl) (X1j rfl rfl (by omega) (by omega)) ?_;refine Zv (gW rfl) (X15 rfl rfl) ?_;refine Ze (Xh rfl rfl rfl) ?_;refine Zn fun a b=>?_
   have aX:Below w5.heap.size w5 w7:=z
   exact ⟨b.sb,aX⟩
  rintro a w8 ⟨b,n⟩;have d:=d.below n;have c:=btr c n;refine aL _ _ ?_
  refine Xi b rfl (fun g=>?_) (fun g=>?_)
  ·have aA:=g
   have aY:=Xex f a9 B (by have h9:=g;simpa using h9)
   refine Zs b fun _ aM=>?_;refine Zm rfl<|Zm rfl<|Za rfl<|Za rfl<|Za rfl<|Zt aM fun a b=>?_;refine Q6<|X00<|X8<|X8 ?_;refine X00<|X8<|X4 b (Xqg b rfl rfl rfl rfl) ?_;exact ⟨i,r,o,p,aY,rfl,d,c⟩
  have aA:=g
  have aZ:bexp r≠bexp l-1:=by have h9:=g;simpa using h9
  refine Q7<|Xk<|aT _ _<|Zr b ?_;refine Ze (X02 rfl rfl (by omega) (by omega))<|Zm rfl ?_;refine Zn fun a b=>?_;refine Xn ?_;exact ⟨i+1,⟨b.sb,(by omega),(Xil a9 B aZ),c⟩,(by omega)⟩
 have aC:=e;have e:=Q1 e
 have f:i=3:=by have:=e;omega
 obtain ⟨q,r,b8,b0,b1⟩:=Xax hG h0 hb;exact (a9 q (by omega) r b0 b1).elim
theorem Xs9(w0:World)(u:UInt8)(s:Nat)(j:s<3)(aI:u=sylT s) : Ret Tryz.prog 64 [.int .u8 (u.toNat:Int)] w0 (fun v w=>∃ A c,v=.agg #[.slice A (bkC s).length c]∧Own w w0.heap.size 86 5 encD A c (bkC s)∧Below w0.heap.size w0 w):=by
 obtain ⟨a9,aN,aO⟩:=Xk8 j;refine enter Tryz.func64 rfl 15 rfl rfl ?_;intro a hf
 have d:=bz w0
 refine Zs hf fun _ aJ=>?_;refine Zf (X3 (zs:=[.slice none 0 0]) X23 rfl) ?_;rintro _ w1 ⟨b3,rfl,aK,e,b⟩;have aE:=Q0 d.size aK;have d:=btr d e;refine Zx aJ fun a hf _ aL=>?_;refine Zm rfl<|Zf (Vc (Xsh _ u s j aI) Xi3) ?_;rintro _ w2 ⟨A5,c5,rfl,aA,e⟩;have aA:=aA.lower d.size;have b:=b.below e;have d:=btr d e;refine Ze (Xf (ps:=[(0,vi 1),(1,.slice A5 (sylG s).length c5)]) (cs:=[vi 1,.slice A5 (sylG s).length c5]) rfl (fun _=>by first|rfl|kernel_rfl))<|Zf (X0x (vs:=[.agg #[vi 1,.slice A5 (sylG s).length c5]]) rfl Xa4 (by have m:=Xkx w2 (⟨1,(sylG s)⟩ : Cx) A5 c5 aA.rd.top (Xdk a9) (opM (sylG s)) a9;rw [show opI _=some (opM (sylG s)) from a9,Qq] at m;exact m)) ?_;rintro _ w3 ⟨A7,c7,rfl,aM,e⟩;have b:=b.below e;have d:=btr d e;refine Zf (X0x (vs:=[.agg #[vi ((opM (sylG s)).rows),vi ((opM (sylG s)).cols),.slice A7 ((opM (sylG s)).cells).length c7]]) rfl X9b (by have m:=Xgt w3 (opM (sylG s)) A7 c7 aM.top (X8v (X59 j).1);rw [(X59 j).1,Qq,Option.isSome_some] at m;exact m)) ?_;rintro _ w4 ⟨A8,c8,rfl,g,e⟩;have g:=g.lower d.size;have b:=b.below e;have d:=btr d e;refine Zm rfl<|Ze (X1 (vs:=[.agg #[.slice A8 (trB (bkC s)).length c8],.bool true]) rfl rfl)<|Ze (X1 (vs:=[.agg #[.slice A8 (trB (bkC s)).length c8],.bool true]) rfl rfl)<|Zf (X3 (zs:=[.slice none 0 0]) X23 rfl) ?_;rintro _ w5 ⟨b10,rfl,aF,e,i⟩
 have aG:b3≠b10:=by have:=b.lt;omega
 have aB:=Q0 d.size aF;have b:=b.below e;have g:=g.below e;have d:=btr d e;refine Zo (Vw [.slice A8 (trB (bkC s)).length c8] X1l i) ?_;rintro _ w6 ⟨ho,hb⟩;have k:=i;have b:=b.only ho (by omega);have g:=g.onlyT ho k rfl;have d:=Below.only d ho aB;have i:=hb;refine Za rfl<|Zx aL fun a hf _ aH=>?_;refine Ze (Vn X16 i)<|Zf (X0x (vs:=[.agg #[.slice A8 (trB (bkC s)).length c8]]) rfl Xon (by have m:=Xx9 w6 A8 c8 (trB (bkC s)) g.rd.top (X9j _);rw [(X59 j).2] at m;exact m)) ?_;rintro _ w7 ⟨aC,aD,rfl,f,e⟩;have f:=f.lower d.size;have b:=b.below e;have d:=btr d e;refine Zo (Vw [.slice aC (bkC s).length aD] X1l b) ?_;rintro _ w8 ⟨ho,hb⟩;have k:=b;have f:=f.onlyT ho k rfl;have d:=Below.only d ho aE;have b:=hb;refine Zt aH fun a hf=>?_
 refine Q6 (X4 hf (Xp hf rfl (ResV.cellN (l:=[.slice aC (bkC s).length aD]) rfl X16 (b.at 0) rfl)) ?_)
 exact ⟨aC,aD,rfl,f,d⟩
theorem Xsc(y:World)(q:List UInt8)(aS:q.length≤9) : Ret Tryz.prog 113 [.string (tx q)] y (fun v w=>∃ A c1,v=mV A c1 (opM (wdG q))∧Rd w w.heap.size 86 encD A (opM (wdG q)).cells∧Below y.heap.size y w):=by
 obtain ⟨aT,b5⟩:=Xwv aS;refine enter Tryz.func113 rfl 26 rfl rfl ?_;intro a f
 have d:=bz y
 refine Zs f fun _ aU=>?_;refine Zf (X3 (zs:=[vi 0,vi 0,.slice none 0 0]) X0n rfl) ?_;rintro _ w1 ⟨b3,rfl,aW,m,b⟩;have aL:=Q0 d.size aW;have d:=btr d m;refine Zx aU fun a f _ aX=>?_;refine Ze (Xf (ps:=[(0,vi 1)]) (cs:=[vi 1,.slice none 0 0]) rfl (fun _=>by first|rfl|kernel_rfl))<|Zf (X3 (zs:=[vi 0,.slice none 0 0]) X64 rfl) ?_;rintro _ w2 ⟨b7,rfl,aY,m,c⟩;have z:=Q0 d.size aY;have b:=b.below m;have d:=btr d m;refine Zo (Vw [vi 1,.slice none 0 0] X2s c) ?_;rintro _ w3 ⟨p,hb⟩;have g:=c;have b:=b.only p (Blk.ne b g rfl);have d:=Below.only d p z;have c:=hb;refine ZX aX fun a f _ aZ=>?_;refine Zs f fun _ b0=>?_;refine Za rfl<|Zt b0 fun a f=>?_;refine Q8<|X04 (σ:=Nat×(List Gt)) (fun (s:Nat×(List Gt)) (a:Act) (w:World)=>match s with|(k,gs)=>∃ h B,Fr a 26 [(0,.string (tx q)),(2,.pointer (some ⟨b3,0,none⟩)),(3,.pointer (some ⟨b7,0,none⟩)),(4,vi (k:Int))]∧(k≤q.length)∧(gs=wdG (q.take k))∧Blk w b3 32 [vi 0,vi 0,.slice none 0 0]∧Blk w b7 43 [vi 1,.slice h gs.length B]∧Own w y.heap.size 90 3 encG h B gs∧Below y.heap.size y w) (fun (s:Nat×(List Gt))=>match s with|(k,gs)=>q.length-k) (0,[]) ?_ ?_
 ·exact ⟨none,0,f.sb,(Qf _),rfl,b,c,(Own.nil _ _ _ _ _),d⟩
 rintro ⟨k,gs⟩ a w4 ⟨h,B,f,hk,o,b,c,e,d⟩
 have b6:gs.length≤9:=by rw [o];simp [wdG];omega
 refine Q5 fun _ aM=>?_;refine Zs f fun _ aN=>?_;refine Zm rfl<|Zm rfl<|Ze (X8z (s:=q) rfl Tryz.underlying9)<|Ze (X19 rfl rfl)<|Zt aN fun a f=>?_
 refine Xi f rfl (fun j=>?_) (fun j=>?_)
 ·have a9:=j;have j:=Q2 j
  obtain ⟨b8,b4⟩:=Xr (l:=q) (k:=k) (by omega)
  obtain ⟨u7,aA⟩:=Xr (l:=q) (k:=k) (by have:=j;omega)
  refine Q7<|aM _ _<|Q5 fun _ L=>?_;refine Q8<|Zs f fun _ aO=>?_;refine Za rfl<|ZX aO fun a f _ M=>?_;refine Zs f fun _ aP=>?_;refine Zm rfl<|Zm rfl<|Ze (X90 (s:=q) (k:=k) (u:=u7) rfl rfl Tryz.underlying9 rfl aA)<|Ze (Xaf rfl rfl)<|Zt aP fun a f=>?_
  refine Xi f rfl (fun n=>?_) (fun n=>?_)
  ·have aB:=n;have aC:=Xgf n;refine Zr f<|Za rfl<|Zt M fun a f=>?_;refine Zr f<|Ze (Vd rfl X1h 1)<|Ze (X0 rfl X3t (c.at 1))<|Zm rfl<|Ze (Xf (ps:=[(0,vi 5)]) (cs:=[vi 5,vi 0,vi 0]) rfl (fun _=>by first|rfl|kernel_rfl))<|Zf (X7 (k:=1) (vs:=[.agg #[vi 5,vi 0,vi 0]]) (zs:=[vi 5,vi 0,vi 0]) rfl X17 X0y rfl rfl) ?_;rintro _ w5 ⟨b9,rfl,N,m,C⟩;have b1:=Q0 d.size N;have t:=e.away N;have b:=b.below m;have c:=c.below m;have e:=e.below m;have d:=btr d m;refine Zf (X0k (enc:=encG) (l:=(gs)) (l2:=([(⟨5,0,0⟩ : Gt)])) (B0:=y.heap.size) rfl rfl X17 X0y X10 X20 e (Rd.of_blk C rfl _ C.lt) (by simp only [maxLen];simp;omega) (by simp;omega) d.size) ?_;rintro _ w6 ⟨aD,aE,rfl,D,o,E⟩
   have i:Own _ y.heap.size 90 3 encG _ _ (gs):=e
   have aJ:=E _ C.lt t;clear E;have b:=b.appT i o rfl;have c:=c.appT i o rfl;have d:=Below.app d i o (Qb _) d.size;clear i o;refine Ze (Vd rfl X1h 1)<|Zo (Vu (vs:=[.slice aD (gs++([(⟨5,0,0⟩ : Gt)])).length aE]) (l':=[vi 1,.slice aD (gs++([(⟨5,0,0⟩ : Gt)])).length aE]) rfl rfl X95 c) ?_;rintro _ w7 ⟨p,hb⟩;have g:=c;have b:=b.only p (Blk.ne b g rfl);have D:=D.onlyT p g rfl;have d:=Below.only d p z;have c:=hb;refine Zn fun a f=>?_;refine Xk<|L _ _<|Zr f<|Zm rfl<|Ze (X02 rfl rfl (by omega) (by omega))<|Za rfl ?_;refine Zn fun a f=>?_;refine Xn ?_;exact ⟨(k+1,gs++([(⟨5,0,0⟩ : Gt)])),⟨aD,aE,f.sb,(by omega),(by rw [o,X6x aA,aC]),b,c,D,d⟩,(by first|omega|(dsimp only;omega))⟩
  have aB:=n;have aC:=Xgl n;refine Q7<|M _ _<|Zr f<|Ze (Vd rfl X1h 1)<|Ze (X0 rfl X3t (c.at 1))<|Zm rfl<|Ze (Xf (ps:=[(0,vi 1)]) (cs:=[vi 1,vi 0,vi 0]) rfl (fun _=>by first|rfl|kernel_rfl))<|Zf (X7 (k:=1) (vs:=[.agg #[vi 1,vi 0,vi 0]]) (zs:=[vi 1,vi 0,vi 0]) rfl X17 X0y rfl rfl) ?_;rintro _ w8 ⟨bC,rfl,Q,m,G⟩;have b2:=Q0 d.size Q;have x:=e.away Q;have b:=b.below m;have c:=c.below m;have e:=e.below m;have d:=btr d m;refine Zf (X0k (enc:=encG) (l:=(gs)) (l2:=([(⟨1,0,0⟩ : Gt)])) (B0:=y.heap.size) rfl rfl X17 X0y X10 X20 e (Rd.of_blk G rfl _ G.lt) (by simp only [maxLen];simp;omega) (by simp;omega) d.size) ?_;rintro _ w9 ⟨aF,aG,rfl,H,o,E⟩
  have i:Own _ y.heap.size 90 3 encG _ _ (gs):=e
  have aK:=E _ G.lt x;clear E;have b:=b.appT i o rfl;have c:=c.appT i o rfl;have d:=Below.app d i o (Qb _) d.size;clear i o;refine Ze (Vd rfl X1h 1)<|Zo (Vu (vs:=[.slice aF (gs++([(⟨1,0,0⟩ : Gt)])).length aG]) (l':=[vi 1,.slice aF (gs++([(⟨1,0,0⟩ : Gt)])).length aG]) rfl rfl X95 c) ?_;rintro _ bD ⟨p,hb⟩;have g:=c;have b:=b.only p (Blk.ne b g rfl);have H:=H.onlyT p g rfl;have d:=Below.only d p z;have c:=hb;refine Zn fun a f=>?_;refine Xk<|L _ _<|Zr f<|Zm rfl<|Ze (X02 rfl rfl (by omega) (by omega))<|Za rfl ?_;refine Zn fun a f=>?_;refine Xn ?_;exact ⟨(k+1,gs++([(⟨1,0,0⟩ : Gt)])),⟨aF,aG,f.sb,(by omega),(by rw [o,X6x aA,aC]),b,c,H,d⟩,(by first|omega|(dsimp only;omega))⟩
 have a9:=j;have j:=Q1 j
 have aQ:gs=wdG q:=by rw [o,Qi (by omega)]
 have I:opI ⟨1,gs⟩=some (opM (wdG q)):=by rw [aQ];exact aT
 refine Q9<|Xm<|Xm<|X06 ?_;refine aZ _ _<|Zs f fun _ aR=>?_;refine Ze (Vn X1i c)<|Zf (X0x (vs:=[.agg #[vi 1,.slice h gs.length B]]) rfl Xa4 (by have hq:=Xkx w4 (⟨1,gs⟩ : Cx) h B e.rd.top (Xdk I) (opM (wdG q)) I;rw [show opI _=some (opM (wdG q)) from I,Qq] at hq;exact hq)) ?_;rintro _ bE ⟨aH,aI,rfl,J,m⟩;have b:=b.below m;have d:=btr d m;refine Zo (Vw [vi ((opM (wdG q)).rows),vi ((opM (wdG q)).cols),.slice aH ((opM (wdG q)).cells).length aI] Xt b) ?_;rintro _ bF ⟨p,hb⟩;have g:=b;have J:=J.onlyT p g rfl;have d:=Below.only d p aL;have b:=hb;refine Zt aR fun a f=>?_
 refine Q6 (X4 f (Xp f rfl (ResV.cellN (l:=[vi ((opM (wdG q)).rows),vi ((opM (wdG q)).cols),.slice aH ((opM (wdG q)).cells).length aI]) rfl Xg (b.at 0) rfl)) ?_)
 exact ⟨aH,aI,rfl,J.top,d⟩
theorem Xij(w0:World)(ss:List UInt8)(fc fp:Int)(hF:FrmOk ss)(aE:0≤fc∧fc≤23)(aF:0≤fp∧fp≤7) : Ret Tryz.prog 24 [.agg #[.string (tx ss),vi fc,vi fp]] w0 (fun v w=>v=.bool true∧Below w0.heap.size w0 w):=by
 have aG:=hF.len;refine enter Tryz.func24 rfl 44 rfl rfl ?_;intro a g
 have hW:=bz w0
 refine Zs g fun _ aH=>?_;refine Zf (X0b (zs:=[.string (tx ss),vi fc,vi fp]) rfl rfl) ?_;rintro _ w1 ⟨b2,rfl,aI,hE,m⟩;have aO:=Q0 hW.size aI;have hW:=btr hW hE;refine Za rfl<|ZX aH fun a g _ aJ=>?_;refine Zs g fun _ aK=>?_;refine Za rfl<|Zt aK fun a g=>?_;refine Q8<|X04 (σ:=Nat) (fun (i:Nat) (a:Act) (w:World)=>Fr a 44 [(1,.pointer (some ⟨b2,0,none⟩)),(3,vi (i:Int))]∧(i≤ss.length)∧Blk w b2 27 [.string (tx ss),vi fc,vi fp]∧Below w0.heap.size w0 w) (fun (i:Nat)=>ss.length-i) 0 ?_ ?_
 ·exact ⟨g.sb,(Qf _),m,hW⟩
 rintro i a w2 ⟨g,hi,m,hW⟩;refine Q5 fun _ aL=>?_;refine Zs g fun _ aM=>?_;refine Zm rfl<|Ze (Vd rfl X27 0)<|Ze (X0 rfl X71 (m.at 0))<|Ze (X8z (s:=ss) rfl Tryz.underlying9)<|Ze (X19 rfl rfl)<|Zt aM fun a g=>?_
 refine Xi g rfl (fun n=>?_) (fun n=>?_)
 ·have c:=n;have n:=Q2 n
  obtain ⟨u8,aP⟩:=Xr (l:=ss) (k:=i) (by omega)
  obtain ⟨u7,aA⟩:=Xr (l:=ss) (k:=i) (by have:=n;omega)
  refine Q7<|aL _ _<|Q5 fun _ aN=>?_;refine Q8<|Zs g fun _ aB=>?_;refine Ze (Vd rfl X27 0)<|Ze (X0 rfl X71 (m.at 0))<|Zm rfl<|Ze (X90 (s:=ss) (k:=i) (u:=u7) rfl rfl Tryz.underlying9 rfl aA)<|Za rfl<|ZX aB fun a g _ aC=>?_;refine X09 (fun a w=>Fr a 44 [(1,.pointer (some ⟨b2,0,none⟩)),(3,vi (i:Int)),(29,.bool ((((u7.toNat:Int) != 72)&&((u7.toNat:Int) != 83))&&(((u7.toNat:Int) != 84)||(decide (0<(i:Int))))))]∧w2=w) ?_ ?_
  ·refine Zr g<|Zm rfl<|Ze (Xib rfl rfl)<|Zm rfl ?_
   refine Zg 18 rfl (fun d=>?_) (fun d=>?_)
   ·refine Zv (gW d) (Xa rfl) ?_;refine Zv (gW d) (Xib rfl rfl) ?_;refine Ze (Xh rfl d rfl)<|Zm rfl ?_
    refine Zg 22 rfl (fun b=>?_) (fun b=>?_)
    ·refine Zv (gW b) (Xa rfl) ?_;refine Zv (gW b) (Xib rfl rfl) ?_;refine Zv (gW b) (Xa rfl) ?_
     refine Zg 25 rfl (fun j=>?_) (fun j=>?_)
     ·refine Zp (gP j) ?_;refine Zp (gP j) ?_;refine Zv (gW b) (Xh rfl j rfl) ?_;refine Ze (Xh rfl b rfl) ?_;refine Zn fun a g=>?_;exact ⟨g.sub ⟨rfl,rfl,X2 rfl (by first|rfl|(simp only [c,d,b,j,bs];done)|simp [c,d,b,j]),trivial⟩,rfl⟩
     refine Zv (gW j) (Xa rfl) ?_;refine Zv (gW j) (X7h rfl rfl) ?_;refine Zv (gW b) (Xd rfl j rfl) ?_;refine Ze (Xh rfl b rfl) ?_;refine Zn fun a g=>?_;exact ⟨g.sub ⟨rfl,rfl,X2 rfl (by first|rfl|(simp only [c,d,b,j,bs];done)|simp [c,d,b,j]),trivial⟩,rfl⟩
    refine Zp (gP b) ?_;refine Zp (gP b) ?_;refine Zp (gP b) ?_;refine Zp (gP trivial) ?_;refine Zp (gP trivial) ?_;refine Zp (gP b) ?_;refine Ze (Xd rfl b rfl) ?_;refine Zn fun a g=>?_;exact ⟨g.sub ⟨rfl,rfl,X2 rfl (by first|rfl|(simp only [c,d,b,bs];done)|simp [c,d,b]),trivial⟩,rfl⟩
   refine Zp (gP d) ?_;refine Zp (gP d) ?_;refine Ze (Xd rfl d rfl)<|Zm rfl<|Zp (gP rfl) ?_;refine Zp (gP rfl) ?_;refine Zp (gP rfl) ?_;refine Zp (gP trivial) ?_;refine Zp (gP trivial) ?_;refine Zp (gP rfl) ?_;refine Ze (Xd rfl rfl rfl) ?_;refine Zn fun a g=>?_;exact ⟨g.sub ⟨rfl,rfl,X2 rfl (by first|rfl|(simp only [c,d,bs];done)|simp [c,d]),trivial⟩,rfl⟩
  rintro a _ ⟨g,rfl⟩;refine aC _ _ ?_
  refine Xi g rfl (fun o=>?_) (fun o=>?_)
  ·have a9:=o;exact (Xv5 hF aA o).elim
  have a9:=o;refine Q7<|Xk<|aN _ _<|Zr g ?_;refine Zm rfl<|Ze (X02 rfl rfl (by omega) (by omega))<|Za rfl ?_;refine Zn fun a g=>?_;refine Xn ?_;exact ⟨i+1,⟨g.sb,(by omega),m,hW⟩,(by omega)⟩
 have c:=n;have n:=Q1 n;refine Q9<|Xm<|Xm<|X06 ?_;refine aJ _ _<|Q5 fun _ aD=>?_;refine X09 (fun a w=>Fr a 44 [(2,.bool (((decide ((ss.length:Int)≤40))&&(inR fc 0 23))&&(inR fp 0 7)))]∧w2=w) ?_ ?_
 ·refine Zr g<|Ze (Vd rfl X27 0)<|Ze (X0 rfl X71 (m.at 0))<|Ze (X8z (s:=ss) rfl Tryz.underlying9)<|Ze (Xbd rfl rfl)<|Zm rfl ?_
  refine Zg 34 rfl (fun e=>?_) (fun e=>?_)
  ·refine Zv (gW e) (Vd rfl X54 1) ?_;refine Zv (gW e) (X0 rfl X9 (m.at 1)) ?_;refine Zk (gW e) (Vc (F91 _ fc 0 23) X4e) ?_;rintro _ _ ⟨rfl,rfl⟩;refine Ze (Xh rfl e rfl)<|Zm rfl ?_
   refine Zg 39 rfl (fun f=>?_) (fun f=>?_)
   ·refine Zv (gW f) (Vd rfl X4d 2) ?_;refine Zv (gW f) (X0 rfl X9 (m.at 2)) ?_;refine Zk (gW f) (Vc (F91 _ fp 0 7) X4e) ?_;rintro _ _ ⟨rfl,rfl⟩;refine Ze (Xh rfl f rfl)<|Za rfl ?_;refine Zn fun a g=>?_;exact ⟨g.sub ⟨X2 rfl (by first|rfl|(simp only [c,e,f,bs];done)|simp [c,e,f]),trivial⟩,rfl⟩
   refine Zp (gP f) ?_;refine Zp (gP f) ?_;refine Zp (gP f) ?_;refine Ze (Xd rfl f rfl)<|Za rfl ?_;refine Zn fun a g=>?_;exact ⟨g.sub ⟨X2 rfl (by first|rfl|(simp only [c,e,f,bs];done)|simp [c,e,f]),trivial⟩,rfl⟩
  refine Zp (gP e) ?_;refine Zp (gP e) ?_;refine Zp (gP e) ?_;refine Ze (Xd rfl e rfl)<|Zm rfl<|Zp (gP rfl) ?_;refine Zp (gP rfl) ?_;refine Zp (gP rfl) ?_;refine Ze (Xd rfl rfl rfl)<|Za rfl ?_;refine Zn fun a g=>?_;exact ⟨g.sub ⟨X2 rfl (by first|rfl|(simp only [c,e,bs];done)|simp [c,e]),trivial⟩,rfl⟩
 rintro a _ ⟨g,rfl⟩;refine aD _ _ ?_
 refine Q6 (X4 g (Xp g rfl rfl) ?_)
 exact ⟨by rw [Xqf aG aE aF],hW⟩
structure Sd where (A:Option Addr) (c:Nat) (l:List Dy)
def encSd(s:Sd) : List Value:=[.slice s.A s.l.length s.c]
theorem X1x:∀ x,(encSd x).length=1:=fun _=>rfl
theorem X3m:∀ x,(encSd x).all one=true:=fun _=>rfl
def DeepD(w:World)(B:Nat)(l:List Sd) : Prop:=∀ s ∈ l,Rd w B 86 encD s.A s.l
section
variable {w w' : World} {B : Nat} {l : List Sd}
theorem DeepD.below(h:DeepD w B l)(hb:Below w.heap.size w w') : DeepD w' B l:=fun s hs=>(h s hs).below hb
theorem DeepD.top(h:DeepD w B l) : DeepD w w.heap.size l:=fun s hs=>(h s hs).top
theorem DeepD.onlyT{b:Nat}{T:TypeId}{lc:List Value}(h:DeepD w B l)(ho:Only b w w')(hb:Blk w b T lc)(hT:Nat.beq (86:TypeId) T=false) : DeepD w' B l:=fun s hs=>(h s hs).onlyT ho hb hT
theorem DeepD.appT{B0:Nat}{E':TypeId}{sz:Nat}{α:Type}{enc:α→List Value}{A:Option Addr}{c:Nat}{m:List α}(h:DeepD w B l)(ho:Own w B0 E' sz enc A c m)(hg:w.grownBy w' (Value.slice A m.length c).ownBlock)(hT:Nat.beq E' (86:TypeId)=false) : DeepD w' B l:=fun s hs=>(h s hs).appT ho hg hT
theorem DeepD.nil(w:World)(B:Nat) : DeepD w B []:=fun s hs=>by cases hs
theorem DeepD.snoc{s:Sd}(h:DeepD w B l)(hr:Rd w B 86 encD s.A s.l) : DeepD w B (l++[s]):=fun t ht=>by
 rcases Qu.1 ht with h1|h1
 ·exact h t h1
 ·rw [Qm] at h1;subst h1;exact hr
end
theorem Apart.nl(A:Option Addr) : Apart none A:=fun _ _ h=>by cases h
theorem Apart.nr(A:Option Addr) : Apart A none:=fun _ _ _ h=>by cases h
theorem Xvy{α:Type}{f:α→Bool}{l:List α}{k:Nat}{u:α}(h:l[k]? = some u) : (l.take (k+1)).any f=((l.take k).any f||f u):=by
 rw [Qt,h,List.any_append];simp
def letC(i:Nat) : UInt8:=if i=0 then 72 else 83
theorem Xhr{α:Type}{x y u:α}{i:Nat}(h:([x,y] : List α)[i]? = some u) : (i=0∧u=x)∨(i=1∧u=y):=by
 rcases i with _|_|i
 ·injection h with h;exact .inl ⟨rfl,h.symm⟩
 ·injection h with h;exact .inr ⟨rfl,h.symm⟩
 ·cases h
theorem Xt0{w:World}{B:Nat}{x y u:Sd}{i:Nat}(h:([x,y] : List Sd)[i]? = some u)(hx:Rd w B 86 encD x.A x.l)(hy:Rd w B 86 encD y.A y.l) : Rd w B 86 encD u.A u.l:=by
 rcases Xhr h with ⟨_,rfl⟩|⟨_,rfl⟩<;>assumption
theorem Xxc{x y u:Sd}{i:Nat}(h:([x,y] : List Sd)[i]? = some u)(hx:x.l=clB 1)(hy:y.l=clB 2) : u.l=clB (letR i):=by
 rcases Xhr h with ⟨rfl,rfl⟩|⟨rfl,rfl⟩<;>assumption
theorem Xo3{i:Nat}(hi:i<2) : (([72,83] : List UInt8).drop i).take (i+1-i)=[letC i]:=by
 have h:i=0∨i=1:=by omega
 rcases h with rfl|rfl<;>rfl
theorem Xoj:((List.range 24).all fun n=>(List.range 2).all fun i=>(List.range 3).all fun a=>(List.range 3).all fun b=>decide (rbN (letR i) a 0*rbN n 0 b+rbN (letR i) a 1*rbN n 1 b+rbN (letR i) a 2*rbN n 2 b=rbN (nx n (letC i)) a b))=true:=by kernel_rfl
theorem Xow{n i:Nat}(hn:n<24)(hi:i<2) : mulBI (clB (letR i)) (clB n)=some (clB (nx n (letC i))):=by
 have hk:letR i<24:=by unfold letR;split<;>decide
 have h1:=Xoj
 simp only [W1,W2,Qr] at h1
 have hv:=X6m hk;have ht:=X6m hn
 have hz:∀ a b:Int,zI a*zI b=zI (a*b):=fun a b=>by apply X0o<;>simp [X2q,X32,X3b,X3c,zI]
 have hz2:∀ a b:Int,zI a+zI b=zI (a+b):=fun a b=>rfl
 have ho:∀ a b,a<3→b<3→∃ x,dotI (bm3 (clB (letR i))) (bm3 (clB n)) a b 3=some x:=fun a b ha hb=>X8o hv ht (by decide) (R:=16) (by decide) ha hb fun m hm=>by
  have t1:Tri (rbN (letR i) a m):=(Xhp hk).1.tri _
  have t2:Tri (rbN n m b):=(Xhp hn).1.tri _
  have t3:=X8d t1 t2
  show qN (zI _*zI _)≤16
  rw [hz]
  unfold Tri at t3
  have h5:rbN (letR i) a m*rbN n m b = -1∨rbN (letR i) a m*rbN n m b=0∨rbN (letR i) a m*rbN n m b=1:=by omega
  rcases h5 with e|e|e<;>rw [e]<;>decide
 obtain ⟨r,hr⟩ : ∃ r,mulBI (clB (letR i)) (clB n)=some r:=X6s 9 fun m hm=>ho (m/3) (m % 3) (by omega) (by omega)
 rw [hr,Xn5 (Xdw hr hv ht) (X6m ((Xmq hn).lt (letC i))) fun a b ha hb=>?_]
 show s2^0*(zI _*zI _+zI _*zI _+zI _*zI _)=s2^(0+0)*zI _
 rw [hz,hz,hz,hz2,hz2,h1 n hn i hi a ha b hb]
def ctT:List Nat:=[1,2,3,3,4,5,6,7,8,8,9,10,11,11,12,13,14,14,15,15,16,16,16,16,17,17,18,18,18,19,20,20,21,22,23,23,24,24,24,24,24,24,24,24,24,24,24,24,24]
def ctI(n i:Nat) : Nat:=ctT.getD (2*n+i) 0
theorem Xrz:((List.range 24).all fun n=>decide (n<ctI n 0)&&(List.range 2).all fun i=>decide (ctI n i≤24)&&decide (n<ctI n i)&&decide (nx n (letC i)≤ctI n i)&&(if nx n (letC i)=ctI n i then decide (ctI n (i+1)=ctI n i+1)&&decide (cw (ctI n i)=cw n++[letC i]) else decide (ctI n (i+1)=ctI n i)))=true:=by kernel_rfl
structure CtOk (n i:Nat) : Prop where
 le:ctI n i≤24
 lt:n<ctI n i
 nx:nx n (letC i)≤ctI n i
 new:Proofs.YtnmabjfoiakapaaGreatDoor.nx n (letC i)=ctI n i→ctI n (i+1)=ctI n i+1∧cw (ctI n i)=cw n++[letC i]
 old:Proofs.YtnmabjfoiakapaaGreatDoor.nx n (letC i)≠ctI n i→ctI n (i+1)=ctI n i
theorem Xxs{n i:Nat}(hn:n<24)(hi:i<2) : CtOk n i:=by
 have h:=Xrz
 simp only [W1,W2,Qd,Qr] at h
 obtain ⟨_,h2⟩:=h n hn;obtain ⟨⟨⟨a,b⟩,c⟩,d⟩:=h2 i hi
 refine ⟨a,b,c,fun e=>?_,fun e=>?_⟩
 ·rw [Q4 e] at d;simpa only [Qd,Qr] using d
 ·rw [Q3 e] at d;simpa only [Qr] using d
theorem Xpf{n:Nat}(hn:n<24) : n<ctI n 0:=by
 have h:=Xrz
 simp only [W1,W2,Qd,Qr] at h
 exact (h n hn).1
def wsN(C:Nat) : List ByteArray:=(List.range C).map fun k=>tx (cw k)
def lsN(C:Nat) : List (List Dy):=(List.range C).map clB
theorem X47(C:Nat) : (wsN C).length=C:=by simp [wsN]
theorem Xhh(C:Nat) : (lsN C).length=C:=by simp [lsN]
theorem X9l{C k:Nat}(h:k<C) : (wsN C)[k]? = some (tx (cw k)):=by simp [wsN,h]
theorem Xe3(C:Nat) : wsN (C+1)=wsN C++[tx (cw C)]:=by simp [wsN,List.range_succ]
theorem Xf3(C:Nat) : lsN (C+1)=lsN C++[clB C]:=by simp [lsN,List.range_succ]
theorem Xgs{L:List Sd}{C k:Nat}{u:Sd}(h:L.map Sd.l=lsN C)(hu:L[k]? = some u) : u.l=clB k:=by
 have h1:(L.map Sd.l)[k]? = some u.l:=by rw [List.getElem?_map,hu];rfl
 rw [h] at h1
 have hk:k<C:=by have:=(Qg.1 h1).1;rwa [Xhh] at this
 simp [lsN,hk] at h1
 exact h1.symm
theorem X84{L:List Sd}{C:Nat}(h:L.map Sd.l=lsN C) : L.length=C:=by
 have:=congrArg List.length h
 rwa [Qo,Xhh] at this
theorem Xuq:((List.range 24).all fun n=>(List.range 24).all fun m=>(n==m)||!decide (clB n=clB m))=true:=by kernel_rfl
theorem Xqn{n m:Nat}(hn:n<24)(hm:m<24)(h:clB n=clB m) : n=m:=by
 have h1:=Xuq
 simp only [W1,W2,Bool.or_eq_true,beq_iff_eq,Bool.not_eq_true',decide_eq_false_iff_not] at h1
 exact (h1 n hn m hm).resolve_right fun h2=>h2 h
theorem Xfj{L:List Sd}{C m:Nat}(h:L.map Sd.l=lsN C)(hC:C≤24)(hm:m<24) : L.any (fun s=>decide (s.l=clB m))=decide (m<C):=by
 have e:L.any (fun s=>decide (s.l=clB m))=(L.map Sd.l).any fun l=>decide (l=clB m):=by rw [List.any_map];rfl
 rw [e,h]
 by_cases hc:m<C
 ·rw [decide_eq_true hc,List.any_eq_true]
  exact ⟨clB m,W6.2 ⟨m,W2.2 hc,rfl⟩,decide_eq_true rfl⟩
 ·rw [decide_eq_false hc,W7]
  intro l hl;obtain ⟨k,hk,rfl⟩:=W6.1 hl
  rw [W2] at hk
  intro h9
  have:=Xqn (show k<24 by omega) hm (Q2 h9)
  omega
theorem Xvz{L:List Sd}{C:Nat}(h:L.map Sd.l=lsN C)(hC:C≤24){u:Sd}(hu:u ∈ L) : u.l.length≤2305843009213693951:=by
 have h1:u.l ∈ L.map Sd.l:=W6.2 ⟨u,hu,rfl⟩
 rw [h] at h1
 obtain ⟨k,hk,e⟩:=W6.1 h1
 rw [W2] at hk
 rw [← e,(X6m (show k<24 by omega)).len];decide
def uD(i:Nat) : Dy:=⟨⟨if ((i:Int).tmod 4==0)=true then 1 else 0,0,0,0⟩,0⟩
theorem Xqw:(List.range 9).map uD=clB 0:=by kernel_rfl
theorem Xor(n:Nat) : (List.range n).map uD++[uD n]=(List.range (n+1)).map uD:=by simp [List.range_succ]
theorem X43{k:Nat}(hk:k<24) : (clB k).length=9:=(X6m hk).len
theorem Xom(i:Nat) : letR i<24:=by unfold letR;split<;>decide
def cdW(t:Nat) : List UInt8:=if t=0 then [] else cw ((t-1)/2)++[letC ((t-1) % 2)]
def cdB(t:Nat) : Nat:=if t=0 then 0 else nx ((t-1)/2) (letC ((t-1) % 2))
def ctC(t:Nat) : Nat:=if t=0 then 0 else ctT.getD (t-1) 0
theorem Xxg{t:Nat}(h:t≠0) : ctC t=ctI ((t-1)/2) ((t-1) % 2):=by
 unfold ctC ctI;rw [Q3 h];congr 1;omega
structure CdOk (t:Nat) : Prop where
 bl:blochI (opM (wdG (cdW t)))=some (clB (cdB t))
 len:(cdW t).length≤9
 lt:cdB t<24
 le:ctC t≤24
 nx:cdB t≤ctC t
 new:cdB t=ctC t→ctC (t+1)=ctC t+1∧cw (ctC t)=cdW t
 old:cdB t≠ctC t→ctC (t+1)=ctC t
theorem Xpa{t:Nat}(ht:t<48) : CdOk t:=by
 by_cases h0:t=0
 ·subst h0
  have e1:cdW 0=cw 0:=rfl
  have e2:cdB 0=0:=rfl
  have e3:ctC 0=0:=rfl
  have e4:ctC (0+1)=1:=rfl
  refine ⟨?_,?_,?_,?_,?_,fun _=>?_,fun h=>?_⟩
  ·rw [e1,e2];exact X7c (by decide)
  ·rw [e1];decide
  ·rw [e2];decide
  ·rw [e3];decide
  ·rw [e2,e3];exact Qb _
  ·rw [e3,e4,e1];exact ⟨rfl,rfl⟩
  ·rw [e2,e3] at h;exact absurd rfl h
 ·have hk:(t-1)/2<24:=by omega
  have hi:(t-1) % 2<2:=by omega
  have hc:=Xxs hk hi
  have e1:cdW t=cw ((t-1)/2)++[letC ((t-1) % 2)]:=Q3 h0
  have e2:cdB t=nx ((t-1)/2) (letC ((t-1) % 2)):=Q3 h0
  have e3:=Xxg h0
  have e4:ctC (t+1)=ctI ((t-1)/2) ((t-1) % 2+1):=by
   unfold ctC ctI;rw [Q3 (by omega)];congr 1;omega
  refine ⟨by rw [e1,e2];exact Xfv hk _,by rw [e1];have:=(X67 hk).2;simp;omega,by rw [e2];exact (Xmq hk).lt _,by rw [e3];exact hc.le,by rw [e2,e3];exact hc.nx,fun h=>?_,fun h=>?_⟩
  ·rw [e2,e3] at h
   rw [e1,e3,e4];exact hc.new h
  ·rw [e2,e3] at h
   rw [e3,e4];exact hc.old h
theorem Xx4:((List.range 49).all fun t=>decide (24≤ctC t)||decide (t<1+2*ctC t))=true:=by kernel_rfl
theorem Xye{t:Nat}(ht:t<49)(h:ctC t<24) : t<1+2*ctC t:=by
 have h1:=Xx4
 simp only [W1,W2,Bool.or_eq_true,Qr] at h1
 have:=h1 t ht
 omega
def cdL(a b:Nat) : List ByteArray:=(List.range (b-a)).map fun j=>tx (cdW (a+j))
theorem Xco(a b:Nat) : (cdL a b).length=b-a:=by simp [cdL]
theorem Xr3{a b q:Nat}(h:q<b-a) : (cdL a b)[q]? = some (tx (cdW (a+q))):=by simp [cdL,h]
theorem Xq5{a C t:Nat}(ha:a≤1+2*C)(h:cw C=cdW t) : cdL a (1+2*C)++[tx (cdW t++[72]),tx (cdW t++[83])]=cdL a (1+2*(C+1)):=by
 unfold cdL
 rw [show 1+2*(C+1)-a=(1+2*C-a)+1+1 by omega,List.range_succ,List.range_succ,List.map_append,List.map_append,Qx]
 congr 1
 have e1:cdW (a+(1+2*C-a))=cdW t++[72]:=by
  rw [show a+(1+2*C-a)=1+2*C by omega,cdW,Q3 (by omega),show (1+2*C-1)/2=C by omega,show (1+2*C-1) % 2=0 by omega,h];rfl
 have e2:cdW (a+(1+2*C-a+1))=cdW t++[83]:=by
  rw [show a+(1+2*C-a+1)=2+2*C by omega,cdW,Q3 (by omega),show (2+2*C-1)/2=C by omega,show (2+2*C-1) % 2=1 by omega,h];rfl
 simp [e1,e2]
theorem Xm8{t:Nat}(ht:t<48) : ctC t≤ctC (t+1):=by
 have h:=Xpa ht
 by_cases e:cdB t=ctC t
 ·have:=(h.new e).1;omega
 ·have:=h.old e;omega
theorem Xhg(k:Nat) : fmG k []=wdG (cw k):=by simp [fmG,synG]
theorem Xet(k s:Nat)(ss:List Nat) : fmG k (s::ss)=fmG k ss++sylG s:=by unfold fmG;rw [X6w,Qx]
theorem Xa2{k:Nat}(hk:k<24){ss:List Nat}(h:ss.length≤40) : (fmG k ss).length≤126:=by
 have h1:=(Xdj ss).2;have h2:=(X67 hk).2
 unfold fmG wdG
 rw [Qh,Qo]
 omega
theorem Xmn{sl:List Nat}{j:Nat}(hj:j<sl.length) : ∃ s,sl[sl.length-1-j]? = some s∧s ∈ sl∧sl.drop (sl.length-(j+1))=s::sl.drop (sl.length-j):=by
 have h1:sl.length-1-j<sl.length:=by omega
 refine ⟨sl[sl.length-1-j],Qc h1,List.getElem_mem h1,?_⟩
 rw [show sl.length-(j+1)=sl.length-1-j from by omega,Qy h1,show sl.length-1-j+1=sl.length-j from by omega]
theorem Xm9{j k:Nat}(hj:j<24)(hk:k<24)(h:clB j=clB k) : j=k:=by rw [← Xfz hj,h,Xfz hk]
theorem Xyw(l:List Dy) : l.map (dTurn ((0:Nat) : Int))=l:=by
 induction l with
 | nil=>rfl
 | cons x t ih=>rw [List.map_cons,ih];rfl
theorem Xlg{tb:List UInt8}{sl:List Nat}(h:tb=sl.map sylT){k s:Nat}(hs:sl[k]? = some s) : tb[k]? = some (sylT s):=by rw [h,List.getElem?_map,hs];rfl
def nfM(m:Mx) : Option (List Nat×Nat×Nat):=(blochI m).bind fun l=>if bexp l≤40 then some (nfS l,clX (nfL l),nfP m l) else none
def nfs(m:Mx) : List UInt8:=match nfM m with|some p=>p.1.map sylT|none=>[]
def nfk(m:Mx) : Nat:=match nfM m with|some p=>p.2.1|none=>0
def nfp(m:Mx) : Nat:=match nfM m with|some p=>p.2.2|none=>0
structure NfN (m:Mx) : Prop where
 s:nfs m=[]
 k:nfk m=0
 p:nfp m=0
 n:(nfM m).isSome=false
theorem nfN{m:Mx}(h:(!(blochI m).isSome||decide (40<bexp ((blochI m).getD [])))=true) : NfN m:=by
 have e:nfM m=none:=by
  unfold nfM
  cases hb:blochI m with
  | none=>rfl
  | some l=>
   rw [hb] at h
   have:¬ bexp l≤40:=by simp at h;omega
   rw [Qz,Q3 this]
 exact ⟨by unfold nfs;rw [e],by unfold nfk;rw [e],by unfold nfp;rw [e],by rw [e];rfl⟩
structure NfY (m:Mx) (l:List Dy) : Prop where
 s:nfs m=(nfS l).map sylT
 k:nfk m=clX (nfL l)
 p:nfp m=nfP m l
 n:(nfM m).isSome=true
theorem nfY{m:Mx}{l:List Dy}(h:blochI m=some l)(hb:bexp l≤40) : NfY m l:=by
 have e:nfM m=some (nfS l,clX (nfL l),nfP m l):=by unfold nfM;rw [h,Qz,Q4 hb]
 exact ⟨by unfold nfs;rw [e],by unfold nfk;rw [e],by unfold nfp;rw [e],by rw [e];rfl⟩
theorem Xly{m:Mx}(h:(!(blochI m).isSome||decide (40<bexp ((blochI m).getD [])))=false) : blochI m=some ((blochI m).getD [])∧bexp ((blochI m).getD [])≤40:=by
 cases hb:blochI m with
 | none=>rw [hb] at h;cases h
 | some l=>rw [hb] at h;simp at h;exact ⟨rfl,h⟩
theorem Xxp{m:Mx}{l:List Dy}(h:NfR m l) : (mOk m&&mOk (nfW l)&&eqPh m (nfW l))=true∧(mOk m&&mOk (nfW l))=true:=by
 have h1:=h.one.1;have h2:=h.vm.1
 have h3:eqPh m (nfW l)=true:=by
  rw [Xk1 h2]
  obtain ⟨k,hk,ht⟩:=h.ph;exact List.any_eq_true.2 ⟨k,W2.2 hk,ht⟩
 rw [h1,h2,h3]
 exact ⟨rfl,rfl⟩
theorem Xxa{m:Mx}{l:List Dy}(h:NfR m l){i:Int}(hi:∃ k:Nat,k<8∧i=(k:Int)∧eqPhT m (nfW l) k=true) : i=(nfP m l:Int)∧nfP m l<8:=by
 obtain ⟨k,hk,e1,e2⟩:=hi
 have h3:turnedS m (nfW l) (k:Int)=true:=by rw [← e2,eqPhT,X60 h.vm.1 hk];rfl
 rw [Xfo h hk h3]
 exact ⟨e1,hk⟩
theorem Xg8(m:Mx) : ((blochI m).getD []).length≤9:=by
 cases hb:blochI m with
 | none=>decide
 | some l=>
  unfold blochI at hb
  split at hb
  ·rw [Qq,X36 hb];exact Qb _
  ·cases hb
section
variable {P : Program} {a : Act} {w : World} {n : Nat} {e : Env} {ty : TypeId} {pos : String} {af : Array Edge} {g : Option (Nat × Bool)} {d : Option Tmp} {t t' : TypeId}
end
theorem Xop{i:Nat}(hi:i<3) : ([84,72,83] : List UInt8)[i]? = some (sylT i):=by rcases lt3 hi with rfl|rfl|rfl<;>rfl
theorem Xl3{m:Mx}{l:List Dy}(h:NfR m l) : m.cells.length=(nfW l).cells.length:=by
 have h1:=(X2d h.one.1).2.2;have h2:=(X2d h.vm.1).2.2
 rw [h1,h2,h.one.2.1,h.one.2.2,h.vm.2.1,h.vm.2.2]
theorem Xyj{l:List Dy} : (nfW l).cells.length≤2305843009213693951:=Xb6 ⟨1,nfC l⟩
theorem Xtu{m:Mx}{l:List Dy}(h:NfR m l) : phaseS m (nfW l)=true:=by
 obtain ⟨k,hk,ht⟩:=h.ph;exact List.any_eq_true.2 ⟨k,W2.2 hk,ht⟩
theorem Xtx{m:Mx}{l:List Dy}(h:NfR m l){i:Int}(hi:∃ k:Nat,k<8∧i=(k:Int)∧turnedS m (nfW l) (k:Int)=true) : i=(nfP m l:Int):=by
 obtain ⟨k,hk,e1,e2⟩:=hi
 rw [Xfo h hk e2]
 exact e1
theorem Y0n{m:Mx}(h:oneQ m=false) : NfN m:=nfN (by unfold blochI;rw [h];rfl)
def fmW(k:Nat)(ss:List Nat)(p:Nat) : List Gt:=fmG k ss++List.replicate p ⟨12,0,0⟩
theorem Xam(k:Nat)(ss:List Nat) : fmW k ss 0=fmG k ss:=by unfold fmW;rw [List.replicate_zero,List.append_nil]
theorem Xef(k:Nat)(ss:List Nat)(p:Nat) : fmW k ss (p+1)=fmW k ss p++[⟨12,0,0⟩]:=by unfold fmW;rw [List.replicate_succ',Qx]
theorem X9a{k:Nat}(hk:k<24){ss:List Nat}(h:ss.length≤40)(p:Nat) : (fmW k ss p).length≤126+p:=by
 have:=Xa2 hk h
 unfold fmW
 rw [Qh,List.length_replicate]
 omega
theorem X3y{l:List Dy}(h:Gd l){i:Nat}(hi:i<3) : (bkC i).length=9∧l.length=9∧(∀ x ∈ bkC i,dOk x=true)∧∀ x ∈ l,dOk x=true:=⟨(Xcv hi).1,h.nine.1,(Xcv hi).2,h.nine.2⟩
def nfl(m:Mx) : List Nat:=match nfM m with|some p=>p.1|none=>[]
theorem Xl6(m:Mx)(l:List Dy) : nfP m l<8:=by
 unfold nfP
 cases h:(List.range 8).find? fun (k:Nat)=>turnedS m (nfW l) (k:Int) with
 | none=>decide
 | some k=>exact W2.1 (List.mem_of_find?_eq_some h)
structure NfA (m:Mx) : Prop where
 s:nfs m=(nfl m).map sylT
 k:nfk m<24
 p:nfp m<8
 l:(nfl m).length≤40
 t:∀ s ∈ nfl m,s<3
 f:FrmOk (nfs m)
theorem nfA{m:Mx}(h:(nfM m).isSome=true) : NfA m:=by
 cases hb:blochI m with
 | none=>unfold nfM at h;rw [hb] at h;cases h
 | some l=>
  by_cases h40:bexp l≤40
  ·have hY:=nfY hb h40;have hR:=nfR hb h40
   have e:nfl m=nfS l:=by unfold nfl nfM;rw [hb,Qz,Q4 h40]
   obtain ⟨n1,n2⟩:=X5u hR.gd h40;have hn:=X21 l;exact ⟨by rw [hY.s,e],by rw [hY.k];exact (X8h hR.gd h40).1,by rw [hY.p];exact Xl6 m l,by rw [e];omega,by rw [e];exact n2,by rw [hY.s];exact Xi7 hR.gd h40⟩
  ·unfold nfM at h
   rw [hb,Qz,Q3 h40] at h
   cases h
theorem Xcu{k:Nat}(hk:k<24){ss:List Nat}(hs:ss.length≤40){p:Nat}(hp:p<8) : cOk ⟨1,fmW k ss p⟩=true:=by
 have h0:=X1z (Xdk (Xi5 hk hs).1);have h1:=X9a hk hs p;refine Xg1 rfl (by show (fmW k ss p).length≤400;omega) fun g hg=>?_
 have hg':g ∈ fmG k ss++List.replicate p (⟨12,0,0⟩ : Gt):=hg
 rcases Qu.1 hg' with h|h
 ·exact h0.2.2 g h
 ·rw [List.eq_of_mem_replicate h];rfl
theorem Xos{k:Nat}(hk:k<24){ss:List Nat}(hs:ss.length≤40){p:Nat}(hp:p<8) : cIf ⟨1,fmW k ss p⟩=some ⟨1,fmW k ss p⟩:=by rw [cIf,Q4 (Xcu hk hs hp)]
def rdC(c:Cx) : Option Cx:=if ((opI c).isSome&&c.n==1&&(nfM ((opI c).getD mZ)).isSome)=true then some ⟨1,fmW (nfk ((opI c).getD mZ)) (nfl ((opI c).getD mZ)) (nfp ((opI c).getD mZ))⟩ else none
theorem Xyl{c:Cx}(h:(!(opI c).isSome||c.n != 1)=true) : rdC c=none:=by
 rw [rdC,Q3]
 intro h9
 simp only [Qd] at h9
 rw [h9.1.1,bne,h9.1.2] at h
 cases h
theorem Xup{c:Cx}(h:(nfM ((opI c).getD mZ)).isSome=false) : rdC c=none:=by
 rw [rdC,Q3]
 rw [h,Bool.and_false]
 decide
theorem Xtf{c:Cx}(h:(!(opI c).isSome||c.n != 1)=false)(h2:(nfM ((opI c).getD mZ)).isSome=true) : rdC c=some ⟨1,fmW (nfk ((opI c).getD mZ)) (nfl ((opI c).getD mZ)) (nfp ((opI c).getD mZ))⟩:=by
 rw [rdC,Q4]
 rw [h2,Bool.and_true]
 revert h
 unfold bne
 cases (opI c).isSome<;>cases (c.n==1)<;>simp
theorem Xjo(c:Cx) : ((rdC c).getD cZ).gs.length≤400:=by
 unfold rdC
 split
 ·rename_i h
  simp only [Qd] at h
  have hA:=nfA h.2;exact (X1z (Xcu hA.k hA.l hA.p)).2.1
 ·decide
def g1a(k:Int) : M2:=if k=1 then gH else if k=2 then pl 0 else if k=3 then pl 1 else if k=4 then pl 2 else if k=5 then gS else if k=6 then dg gS else if k=7 then gT else if k=8 then dg gT else sm om i2
def tN(g:Gt) : Nat:=if inR g.k 7 8=true then 1 else 0
def cT:List Gt→Nat
 | []=>0
 | g::l=>tN g+cT l
theorem Xag:∀ a b:List Gt,cT (a++b)=cT a+cT b
 | [],b=>by simp [cT]
 | g::a,b=>by show tN g+cT (a++b)=_;rw [Xag a b,cT];omega
def G9:List Gt:=[⟨1,0,0⟩,⟨2,0,0⟩,⟨3,0,0⟩,⟨4,0,0⟩,⟨5,0,0⟩,⟨6,0,0⟩,⟨7,0,0⟩,⟨8,0,0⟩,⟨12,0,0⟩]
theorem Xzh{g:Gt}(h:gOk 1 g=true) : g ∈ G9:=by
 obtain ⟨k,a,b⟩:=g
 unfold gOk at h
 simp only [Qd] at h
 obtain ⟨⟨_,h1⟩,h2⟩:=h;have hk:=X0a.1 h1
 have hc:k=1∨k=2∨k=3∨k=4∨k=5∨k=6∨k=7∨k=8∨k=9∨k=10∨k=11∨k=12:=by omega
 have h3:∀ x:Int,inR x 0 (1-1)=true→x=0:=fun x hx=>by have:=X0a.1 hx;omega
 rcases hc with rfl|rfl|rfl|rfl|rfl|rfl|rfl|rfl|rfl|rfl|rfl|rfl<;>simp [inR] at h2<;>first
  | (obtain ⟨h4,h5⟩:=h2;obtain rfl:a=0:=(by omega);obtain rfl:b=0:=(by omega);decide)
  | (exfalso;omega)
theorem Xs2:(G9.all fun g=>chkVM (gateS 1 g) (hN g) (g1a g.k))=true:=by kernel_rfl
def rotL:List (Rg×Rg×Rg):=[(0:Rg),1,-1].flatMap fun a=>[(0:Rg),1,-1].flatMap fun b=>[(0:Rg),1,-1,s2].map fun c=>(a,b,c)
def rotM(r:Rg×Rg×Rg) : M2:=⟨r.1*(pl 0).a+r.2.1*(pl 1).a+r.2.2*(pl 2).a,r.1*(pl 0).b+r.2.1*(pl 1).b+r.2.2*(pl 2).b,r.1*(pl 0).c+r.2.1*(pl 1).c+r.2.2*(pl 2).c,r.1*(pl 0).d+r.2.1*(pl 1).d+r.2.2*(pl 2).d⟩
def rotOk(g:Gt)(i:Nat)(r:Rg×Rg×Rg) : Bool:=decide (sm (s2^tN g) (dg (g1a g.k)*pl i*g1a g.k)=sm (s2^hN g*s2^hN g) (rotM r))
theorem Xu2:(G9.all fun g=>(List.range 3).all fun i=>rotL.any (rotOk g i))=true:=by kernel_rfl
theorem Xuv(r:Rg×Rg×Rg)(B:M2) : tr2 (rotM r*B)=r.1*tr2 (pl 0*B)+r.2.1*tr2 (pl 1*B)+r.2.2*tr2 (pl 2*B):=by
 obtain ⟨x,y,z⟩:=r;obtain ⟨a,b,c,d⟩:=B
 simp only [tr2,rotM,X5q,X65]
 generalize pl 0=p,pl 1=q,pl 2=t
 obtain ⟨p1,p2,p3,p4⟩:=p;obtain ⟨q1,q2,q3,q4⟩:=q;obtain ⟨t1,t2,t3,t4⟩:=t
 simp only [rgs]
theorem X6l{g:Gt}(hg:g ∈ G9)(X:M2){i:Nat}(hi:i<3) : ∃ r:Rg×Rg×Rg,∀ j,s2^tN g*tV (g1a g.k*X) i j=s2^hN g*s2^hN g*(r.1*tV X 0 j+r.2.1*tV X 1 j+r.2.2*tV X 2 j):=by
 have h1:=W1.1 (W1.1 Xu2 g hg) i (W2.2 hi);obtain ⟨r,_,hr⟩:=List.any_eq_true.1 h1
 have e:=Q2 hr
 refine ⟨r,fun j=>?_⟩
 rw [X9p,← X58,← X2u,e,X2u,X58,Xuv]
 rw [X3j,X3j,X3j]
 rfl
theorem Xh5:∀ (l:List Gt) {e T:Nat} {M0 M:Mx} {X:M2},(∀ g ∈ l,gOk 1 g=true)→VM M0 e X→(∃ Z:Nat→Nat→Rg,∀ i j,i<3→j<3→s2^T*tV X i j=s2^(2*e+2)*Z i j)→applI 1 l M0=some M→
  ∃ e' X',VM M e' X'∧∃ Z:Nat→Nat→Rg,∀ i j,i<3→j<3→s2^(T+cT l)*tV X' i j=s2^(2*e'+2)*Z i j
 | [],e,T,M0,M,X,_,h0,hz,h=>by
  rw [applI] at h
  injection h with h
  subst h
  exact ⟨e,X,h0,hz⟩
 | g::l,e,T,M0,M,X,hg,h0,hz,h=>by
  have k2:=hg g (by simp)
  have hm:=Xzh k2
  have k1:VM (gateS 1 g) (hN g) (g1a g.k):=X74 (W1.1 Xs2 g hm)
  rw [applI,show gateI 1 g=some (gateS 1 g) from (X3h k2).1,Qq] at h
  cases hM:mulI (gateS 1 g) M0 with
  | none=>rw [hM] at h;cases h
  | some M1=>
   rw [hM,Qz] at h
   have hv:=VM.mul hM k1 h0;obtain ⟨Z,hZ⟩:=hz
   have hz':∃ Z':Nat→Nat→Rg,∀ i j,i<3→j<3→s2^(T+tN g)*tV (g1a g.k*X) i j=s2^(2*(hN g+e)+2)*Z' i j:=by
    refine ⟨fun i j=>if hi:i<3 then (Classical.choose (X6l hm X hi)).1*Z 0 j+(Classical.choose (X6l hm X hi)).2.1*Z 1 j+(Classical.choose (X6l hm X hi)).2.2*Z 2 j else 0,fun i j hi hj=>?_⟩
    have hr:=Classical.choose_spec (X6l hm X hi) j
    show _=_*(if hi:i<3 then _ else _)
    rw [dif_pos hi]
    generalize Classical.choose (X6l hm X hi)=r at hr ⊢
    rw [X0r,Xc,hr]
    have h0':=hZ 0 j (by decide) hj
    have h1':=hZ 1 j (by decide) hj
    have h2':=hZ 2 j (by decide) hj
    have e1:s2^T*(s2^hN g*s2^hN g*(r.1*tV X 0 j+r.2.1*tV X 1 j+r.2.2*tV X 2 j))=s2^hN g*s2^hN g*(r.1*(s2^T*tV X 0 j)+r.2.1*(s2^T*tV X 1 j)+r.2.2*(s2^T*tV X 2 j)):=by simp only [rgs]
    have e2:s2^(2*(hN g+e)+2)=s2^hN g*s2^hN g*s2^(2*e+2):=by rw [← X0r,← X0r,show 2*(hN g+e)+2=hN g+hN g+(2*e+2) by omega]
    rw [e1,h0',h1',h2',e2]
    simp only [rgs]
   obtain ⟨e',X',v,w⟩:=Xh5 l (fun g' hg'=>hg g' (by simp [hg'])) hv hz' h
   rw [Nat.add_assoc] at w
   exact ⟨e',X',v,w⟩
theorem Xr9{c:Cx}(hn:c.n=1){m:Mx}(h:opI c=some m){l:List Dy}(hl:blochI m=some l) : bexp l≤(cT c.gs:Int):=by
 have hc:cOk c=true:=by unfold opI at h;split at h;assumption;cases h
 unfold opI at h
 rw [Q4 hc,hn,show ((2^(1:Int).toNat:Nat) : Int)=((2^1:Nat) : Int) from rfl,(X2m (d:=2^1) (X26 (n:=1) (by decide))).1,Qz] at h
 have hv:VM (unitS (2^1)) 0 i2:=X74 (by kernel_rfl)
 have hg:=(X1z hc).2.2
 rw [hn] at hg
 have hbase:∃ Z:Nat→Nat→Rg,∀ i j,i<3→j<3→s2^0*tV i2 i j=s2^(2*0+2)*Z i j:=by
  refine ⟨fun i j=>if i=j then 1 else 0,fun i j hi hj=>?_⟩
  rcases lt3 hi with rfl|rfl|rfl<;>rcases lt3 hj with rfl|rfl|rfl<;>decide
 obtain ⟨e,X,hX,Z,hZ⟩:=Xh5 c.gs hg hv hbase h
 rw [Nat.zero_add] at hZ
 obtain ⟨_,vX⟩:=Xav hl hX;refine Xcn (by omega) fun x hx=>?_;obtain ⟨i,j,hi,hj,rfl⟩:=Xht vX.len hx;exact (Xge (vX.at_ok i j) (vX.v i j hi hj) (hZ i j hi hj)).le
theorem Xsz(p:Nat) : cT (List.replicate p ⟨12,0,0⟩)=0:=by
 induction p with
 | zero=>rfl
 | succ p ih=>rw [List.replicate_succ,cT,ih];rfl
theorem Xsk:∀ w:List UInt8,cT (wdG w)=0
 | []=>rfl
 | u::w=>by
  show tN (letG u)+cT (wdG w)=0
  rw [Xsk w]
  unfold letG
  split<;>rfl
theorem Xvp{s:Nat}(h:s<3) : cT (sylG s)=1:=by rcases lt3 h with rfl|rfl|rfl<;>rfl
theorem Xlq:∀ {ss:List Nat},(∀ s ∈ ss,s<3)→cT (synG ss)=ss.length
 | [],_=>rfl
 | s::ss,h=>by
  rw [X6w,Xag,Xlq fun t ht=>h t (by simp [ht]),Xvp (h s (by simp))]
  rfl
theorem Xy5{k:Nat}{ss:List Nat}(h:∀ s ∈ ss,s<3)(p:Nat) : cT (fmW k ss p)=ss.length:=by
 unfold fmW fmG
 rw [Xag,Xag,Xsk,Xlq h,Xsz]
 omega
theorem Xkv{m:Mx}{l:List Dy}(h:NfR m l) : m=⟨(nfW l).rows,(nfW l).cols,(nfW l).cells.map (dTurn (nfP m l:Int))⟩:=by
 obtain ⟨k,hk,ht⟩:=h.ph
 rw [Xfo h hk ht]
 unfold turnedS at ht
 simp only [Qd,Qr] at ht
 obtain ⟨r,c,cs⟩:=m;obtain ⟨⟨h1,h2⟩,h3⟩:=ht
 simp only at h1 h2 h3
 rw [h1,h2,h3]
theorem Xcg:∀ (p:Nat) (X:M2),prodG (List.replicate p ⟨12,0,0⟩) X=sm (om^p) X
 | 0,X=>by apply X3i<;>simp only [List.replicate,prodG,sm]<;>exact (Xe _).symm
 | p+1,X=>by
  rw [List.replicate_succ,prodG,show g1 (12:Int)=sm om i2 from rfl,X2u,Xep,Xcg p,X7s]
  rfl
theorem Xt4(p:Nat) : hs (List.replicate p ⟨12,0,0⟩)=0:=by
 induction p with
 | zero=>rfl
 | succ p ih=>rw [List.replicate_succ,hs,ih];rfl
theorem Xu4{m:Mx}{l:List Dy}(h:NfR m l)(hb:bexp l≤40) : opI ⟨1,fmW (clX (nfL l)) (nfS l) (nfP m l)⟩=some m:=by
 obtain ⟨c1,_⟩:=X8h h.gd hb;obtain ⟨n1,_⟩:=X5u h.gd hb;have hn:=X21 l;have hp:=Xl6 m l
 have hl40:(nfS l).length≤40:=by omega
 obtain ⟨o1,o2,_⟩:=Xi5 c1 hl40
 have hmem:∀ g ∈ fmW (clX (nfL l)) (nfS l) (nfP m l),g ∈ G4:=fun g hg=>by
  rcases Qu.1 hg with h1|h1
  ·exact Xi9 _ _ g h1
  ·rw [List.eq_of_mem_replicate h1];decide
 have hsW:hs (fmW (clX (nfL l)) (nfS l) (nfP m l))=hs (fmG (clX (nfL l)) (nfS l)):=by unfold fmW;rw [Xej,Xt4];rfl
 have hs50:hs (fmG (clX (nfL l)) (nfS l))≤50:=by
  have a1:=(X67 c1).1
  have a2:=(Xdj (nfS l)).1
  unfold fmG
  rw [Xej]
  omega
 obtain ⟨M,hM,vM,_⟩:=Xae hmem (Q0 (X9a c1 hl40 _) (by omega)) (by rw [hsW];exact hs50)
 rw [hsW,show fmW (clX (nfL l)) (nfS l) (nfP m l)=fmG (clX (nfL l)) (nfS l)++List.replicate (nfP m l) ⟨12,0,0⟩ from rfl,X8n,Xcg] at vM
 have o2:VM (nfW l) (hs (fmG (clX (nfL l)) (nfS l))) (prodG (fmG (clX (nfL l)) (nfS l)) i2):=o2
 generalize prodG (fmG (clX (nfL l)) (nfS l)) i2=Y at vM o2
 rw [hM]
 have lW:=(X2d o2.ok).2.2
 rw [o2.r,o2.c] at lW
 have hm:=Xkv h
 have e:M.cells=m.cells:=Xfx vM.ok h.one.1 vM.r vM.c h.one.2.1 h.one.2.2 fun i j hi hj=>by
  have oW:=Mx.at_ok (X0z o2.ok) i j
  have ea:m.at i j=dTurn (nfP m l:Int) ((nfW l).at i j):=by
   have:=Xcl (W:=nfW l) lW o2.c (nfP m l:Int) hi hj
   rw [← this]
   conv=>lhs;rw [hm,o2.r,o2.c]
  rw [ea]
  refine Xoe (Mx.at_ok (X0z vM.ok) i j) (Xb1 oW _) (vM.v i j hi hj) (Xd6 oW (o2.v i j hi hj) hp) ?_
  have e9:(sm (om^nfP m l) Y).at i j=om^nfP m l*Y.at i j:=by
   rcases lt2 hi with rfl|rfl<;>rcases lt2 hj with rfl|rfl<;>rfl
  rw [e9]
 obtain ⟨r,c,cs⟩:=M
 have hr:r=m.rows:=vM.r.trans h.one.2.1.symm
 have hc:c=m.cols:=vM.c.trans h.one.2.2.symm
 have e:cs=m.cells:=e
 rw [hr,hc,e]
theorem Xrl:∀ g ∈ G9,gOk 1 g=true:=by decide
theorem Xzk{g:Gt}(h:g ∈ G9) : VM (gateS 1 g) (hN g) (g1a g.k):=X74 (W1.1 Xs2 g h)
theorem Xyx{g:Gt}(h:g ∈ G9) : UnL (hN g) (g1a g.k)∧∀ i j,Un ((g1a g.k).at i j):=by
 simp only [G9,Qv,List.not_mem_nil,or_false] at h
 have hu:∀ X:M2,Un X.a→Un X.b→Un X.c→Un X.d→∀ i j,Un (X.at i j):=fun X ha hb hc hd i j=>by unfold M2.at;split<;>split<;>assumption
 rcases h with rfl|rfl|rfl|rfl|rfl|rfl|rfl|rfl|rfl
 ·exact ⟨Xwr,hu _ X2b X2b X2b Xd0⟩
 ·exact ⟨by show UnL 0 (pl 0);unfold UnL Un2;decide,hu _ X1e X2b X2b X1e⟩
 ·exact ⟨by show UnL 0 (pl 1);unfold UnL Un2;decide,hu _ X1e (.inr ⟨6,by rfl⟩) (.inr ⟨2,by rfl⟩) X1e⟩
 ·exact ⟨by show UnL 0 (pl 2);unfold UnL Un2;decide,hu _ X2b X1e X1e Xd0⟩
 ·exact ⟨Xwx,hu _ X2b X1e X1e (.inr ⟨2,by rfl⟩)⟩
 ·exact ⟨by show UnL 0 (dg gS);unfold UnL Un2;decide,hu _ X2b (.inl (by rfl)) (.inl (by rfl)) (.inr ⟨6,by rfl⟩)⟩
 ·exact ⟨Xwz,hu _ X2b X1e X1e (.inr ⟨1,by rfl⟩)⟩
 ·exact ⟨by show UnL 0 (dg gT);unfold UnL Un2;decide,hu _ X2b (.inl (by rfl)) (.inl (by rfl)) (.inr ⟨7,by rfl⟩)⟩
 ·exact ⟨by show UnL 0 (sm om i2);unfold UnL Un2;decide,hu _ (.inr ⟨1,by rfl⟩) X1e X1e (.inr ⟨1,by rfl⟩)⟩
theorem Xsj:∀ (l:List Gt) {e:Nat} {M0:Mx} {X:M2},(∀ g ∈ l,g ∈ G9)→VM M0 e X→UnL e X→e+hs l≤50→
  ∃ M Y,applI 1 l M0=some M∧VM M (e+hs l) Y∧UnL (e+hs l) Y
 | [],e,M0,X,_,h0,hu,_=>⟨M0,X,rfl,h0,hu⟩
 | g::l,e,M0,X,hg,h0,hu,hh=>by
  have hg1:=hg g (by simp)
  have k1:=Xzk hg1
  have k2:=Xrl g hg1
  obtain ⟨k3,k4⟩:=Xyx hg1;have hge:=X3h k2
  have h1:hN g≤1:=by unfold hN;split<;>omega
  rw [hs] at hh
  have q1:(2:Int)^e≤2^50:=X7j (by omega)
  have hcell:∀ i j,i<2→j<2→∃ s,dotI (gateS 1 g) M0 i j 2=some s:=fun i j hi hj=>by
   obtain ⟨s,h,_⟩:=X70 (a:=gateS 1 g) (b:=M0) (i:=i) (j:=j) (m:=hN g) (m':=e) (za:=fun k=>(g1a g.k).at i k) (zb:=fun k=>X.at k j) (r:=2^25) (by decide) (by omega) 2
    (fun k hk=>⟨k1.v i k hi hk,Mx.at_ok (X0z k1.ok) i k,k4 i k⟩)
    (fun k hk=>⟨h0.v k j hk hj,Mx.at_ok (X0z h0.ok) k j,Int.le_trans (hu.qN k j) (Int.le_trans q1 (by decide))⟩)
    (by decide)
   exact ⟨s,h⟩
  obtain ⟨M1,hM1⟩ : ∃ M1,mulI (gateS 1 g) M0=some M1:=by
   unfold mulI
   rw [Q4 (by rw [k1.ok,h0.ok,k1.c,h0.r];rfl),k1.c]
   exact X7u (X1n k1.ok).1 (X1n h0.ok).2 fun i j hi hj=>hcell i j (by rw [k1.r] at hi;exact hi) (by rw [h0.c] at hj;exact hj)
  have hv:=VM.mul hM1 k1 h0
  obtain ⟨M,Y,e1,e2,e3⟩:=Xsj l (fun g' hg'=>hg g' (by simp [hg'])) hv (k3.mul hu) (by omega)
  have ee:hN g+e+hs l=e+(hN g+hs l):=by omega
  rw [ee] at e2 e3
  exact ⟨M,Y,by rw [applI,show gateI 1 g=some (gateS 1 g) from hge.1,Qq,hM1,Qz];exact e1,e2,e3⟩
theorem Xmh:∀ l:List Gt,hs l≤l.length
 | []=>Qb _
 | g::l=>by
  have:=Xmh l
  have h1:hN g≤1:=by unfold hN;split<;>omega
  rw [hs,Qs]
  omega
theorem op9{gs:List Gt}(h:∀ g ∈ gs,g ∈ G9)(hl:gs.length≤50) : ∃ M,opI ⟨1,gs⟩=some M∧M.rows=2∧M.cols=2∧M.cells.length=4:=by
 have hu:=X2m (d:=2^1) (X26 (n:=1) (by decide))
 have hv:VM (unitS (2^1)) 0 i2:=X74 (by kernel_rfl)
 have hh:=Xmh gs
 obtain ⟨M,Y,h1,h2,_⟩:=Xsj gs h hv Xn8 (by omega)
 refine ⟨M,?_,h2.r,h2.c,by have:=(X2d h2.ok).2.2;rw [h2.r,h2.c] at this;exact this⟩
 unfold opI
 rw [Q4 (Xg1 (show inR 1 1 5=true from rfl) (show gs.length≤400 by omega) fun g hg=>Xrl g (h g hg)),show ((2^(1:Int).toNat:Nat) : Int)=((2^1:Nat) : Int) from rfl,hu.1,Qz]
 exact h1
def K9(l:List Int) : Prop:=∀ k ∈ l,(⟨k,0,0⟩ : Gt) ∈ G9
theorem Xnl:K9 [1,1,7,7,5,3,8,12,2]:=by unfold K9;decide
theorem Xq3{gs:List Gt}{x:Gt}(h:∀ g ∈ gs,g ∈ G9)(hx:x ∈ G9) : ∀ g ∈ gs++[x],g ∈ G9:=fun g hg=>by
 rcases Qu.1 hg with h1|h1
 ·exact h g h1
 ·rw [Qm.1 h1];exact hx
theorem Xgy{c:Cx}{M:Mx}(h:opI c=some M) : cOk c=true:=by unfold opI at h;split at h;assumption;cases h
theorem Y0z{c:Cx}(hn:c.n=1)(h:∀ g ∈ c.gs,g ∈ G9)(hl:c.gs.length≤50) : ∃ M,opI c=some M∧M.rows=2∧M.cols=2∧M.cells.length=4:=by
 obtain ⟨n,gs⟩:=c
 have hn:n=1:=hn
 subst hn
 exact op9 h hl
theorem Xs3{r q:Int}(hr:1≤r∧r≤4)(hq:1≤q∧q≤4) : 1≤r*q∧r*q≤16:=by
 have hc:r=1∨r=2∨r=3∨r=4:=by omega
 rcases hc with rfl|rfl|rfl|rfl<;>omega
theorem Xvt{x:Int}(h:x ∈ [(1:Int),2,4]) : (0≤x∧x.toNat≤32)∧(unitS x.toNat).cells.length≤1000:=by
 simp at h
 rcases h with rfl|rfl|rfl<;>exact ⟨by decide,by decide⟩
theorem Xp5:Tryz.prog.eqGuardType Tryz.prog.depth 27=false:=by kernel_rfl
theorem Xf4 {P : Program} {w : World} {d : Nat} {xs ys : Array Value} {f : Field} {fs : List Field} {s : List UInt8} (hn : f.name ≠ "_") (hT : OneT P f.type) (hu : P.underlying f.type = some .string) (hx : xs[f.offset]? = some (.string (tx s))) (hy : ys[f.offset]? = some (.string (tx s)))
  {r:Bool} (h:(Op.eqFields (d+1) xs ys fs).run P w=.ok r w) : (Op.eqFields (d+1) xs ys (f::fs)).run P w=.ok r w:=by
 simp only [Op.eqFields,hn,ne_eq,not_false_eq_true,if_true,Sem.run_bind,X6y hT hx,X6y hT hy,Result.andThen_ok,run_equalIn_string _ _ _ _ _ hu]
 simp [h]
theorem Y0p(d:Nat)(s:List UInt8)(k p:Int)(w:World) : (Op.equalIn (d+2) 27 (.agg #[.string (tx s),.int .i64 k,.int .i64 p]) (.agg #[.string (tx s),.int .i64 k,.int .i64 p])).run Tryz.prog w=.ok true w:=by
 have hf:=X8w Tryz.underlying27;refine (run_equalIn_struct w (d+1) 27 _ _ (by rw [hf];exact Tryz.underlying27) (by kernel_rfl)).trans ?_
 rw [hf]
 refine (show _=Result.ok (decide (k=k)&&(decide (p=p)&&true)) w from ?_).trans (by simp)
 refine Xf4 (by decide) X71 Tryz.underlying9 rfl rfl ?_;refine X2i (by decide) X9 Tryz.underlying3 rfl rfl fun _=>?_;exact X2i (by decide) X9 Tryz.underlying3 rfl rfl fun _=>rfl
theorem Xnd{l:List Gt} : ∀ {k:Nat} {u:Gt},l[k]? = some u→cT (l.take (k+1))=cT (l.take k)+tN u:=fun {k u} h=>by
 rw [Qt,h]
 show cT (l.take k++[u])=_
 rw [Xag]
 rfl
theorem Xrd:∀ l:List Gt,cT l≤l.length
 | []=>Qb _
 | g::l=>by
  have:=Xrd l
  have h1:tN g≤1:=by unfold tN;split<;>omega
  rw [cT,Qs]
  omega
theorem Xlh{m:Mx}(h:(nfM m).isSome=true) : blochI m=some ((blochI m).getD [])∧bexp ((blochI m).getD [])≤40:=by
 cases hb:blochI m with
 | none=>unfold nfM at h;rw [hb] at h;cases h
 | some l=>
  by_cases h40:bexp l≤40
  ·exact ⟨rfl,h40⟩
  ·unfold nfM at h
   rw [hb,Qz,Q3 h40] at h
   cases h
structure NfL (m:Mx) : Prop where
 a:NfA m
 b:(blochI m).isSome=true
 r:(opM (fmG (nfk m) (nfl m))).rows=m.rows
 c:(opM (fmG (nfk m) (nfl m))).cols=m.cols
 cs:(opM (fmG (nfk m) (nfl m))).cells.map (dTurn (nfp m:Int))=m.cells
 len:bexp ((blochI m).getD [])=((nfs m).length:Int)
 ll:bexp ((blochI m).getD [])=((nfl m).length:Int)
 op:opI ⟨1,fmW (nfk m) (nfl m) (nfp m)⟩=some m
theorem Xsl{m:Mx}(h:(nfM m).isSome=true) : NfL m:=by
 obtain ⟨hb,h40⟩:=Xlh h;have hA:=nfA h;have hR:=nfR hb h40;have hY:=nfY hb h40;obtain ⟨n1,_⟩:=X5u hR.gd h40;have hn:=X21 ((blochI m).getD [])
 have hbs:(blochI m).isSome=true:=by rw [hb];rfl
 generalize hl:(blochI m).getD []=l at hb h40 hR hY n1 hn ⊢
 have e:nfl m=nfS l:=by
  unfold nfl nfM
  rw [hb,Qz,Q4 h40]
 have hm:=Xkv hR
 have e2:opM (fmG (nfk m) (nfl m))=nfW l:=by rw [hY.k,e];rfl
 refine ⟨hA,hbs,?_,?_,?_,?_,?_,?_⟩
 ·rw [e2];exact (congrArg Mx.rows hm).symm
 ·rw [e2];exact (congrArg Mx.cols hm).symm
 ·rw [e2,hY.p];exact (congrArg Mx.cells hm).symm
 ·rw [hl,hY.s,Qo];omega
 ·rw [hl,e];omega
 ·rw [hY.k,hY.p,e];exact Xu4 hR h40
structure RdL (c d:Cx) (M:Mx) : Prop where
 c1:cOk c=true
 c2:cOk d=true
 o1:opS c=some M
 o2:opS d=some M
 t:cT d.gs≤cT c.gs
 m:M.cells.length≤2305843009213693951
theorem Xsp{c:Cx}(h:(rdC c).isSome=true) : RdL c ((rdC c).getD cZ) ((opI c).getD mZ):=by
 have hcond:((opI c).isSome&&c.n==1&&(nfM ((opI c).getD mZ)).isSome)=true:=by
  unfold rdC at h
  split at h
  ·assumption
  ·cases h
 have hd:(rdC c).getD cZ=⟨1,fmW (nfk ((opI c).getD mZ)) (nfl ((opI c).getD mZ)) (nfp ((opI c).getD mZ))⟩:=by rw [rdC,Q4 hcond];rfl
 simp only [Qd,beq_iff_eq] at hcond
 obtain ⟨⟨h1,hn⟩,h3⟩:=hcond
 have hM:opI c=some ((opI c).getD mZ):=by
  cases e:opI c with
  | none=>rw [e] at h1;cases h1
  | some m=>rfl
 have hL:=Xsl h3;obtain ⟨hb,_⟩:=Xlh h3
 rw [hd]
 refine ⟨Xgy hM,Xcu hL.a.k hL.a.l hL.a.p,(Xad c).1.symm.trans hM,(Xad _).1.symm.trans hL.op,?_,Xb6 c⟩
 have ht:=Xr9 hn hM hb
 rw [hL.ll] at ht
 show cT (fmW _ _ _)≤_
 rw [Xy5 hL.a.t]
 omega
theorem Xx0(b:World)(Al:Option Addr)(cl:Nat)(l:List Dy)(a9:Rd b b.heap.size 86 encD Al l)(aC:l.length≤2305843009213693951)(bm:Nat)(Am:Option Addr)(cm:Nat)(m:List Dy)(aA:Rd b b.heap.size 86 encD Am m)(aB:Blk b bm 30 [.slice Am m.length cm]) : Ret Tryz.prog 132 [.slice Al l.length cl,.pointer (some ⟨bm,0,none⟩)] b (fun v w=>v=.bool (decide (l=m))∧Below b.heap.size b w):=by
 have aD:=aB.lt;refine enter Tryz.func132 rfl 7 rfl rfl ?_;intro a hf
 have hW:=bz b
 refine Zs hf fun _ aE=>?_;refine Za rfl<|Zx aE fun a hf _ aF=>?_;refine Zm rfl<|Ze (X0 rfl X0c (aB.at 0))<|Zf (Vc (Xtw _ Al cl l (a9.below' hW).top Am cm m (aA.below' hW).top aC) Xft) ?_;rintro _ w1 ⟨rfl,hE⟩;have hW:=btr hW hE;refine Za rfl<|Zt aF fun a hf=>?_
 refine Q6 (X4 hf (Xp hf rfl rfl) ?_)
 exact ⟨rfl,hW⟩
theorem Xwp(f:World)(AL:Option Addr)(cL:Nat)(L:List Sd)(aC:Rd f f.heap.size 30 encSd AL L)(aJ:DeepD f f.heap.size L)(aR:L.length≤1000)(k:FuncId)(p:List Value)(F:FuncF Tryz.prog k)(q:List Dy→Bool)(hq:∀ (s:Sd) (w:World),s ∈ L→Below f.heap.size f w→Rd w w.heap.size 86 encD s.A s.l→Ret Tryz.prog k ([.slice s.A s.l.length s.c]++p) w (fun v w'=>v=.bool (q s.l)∧Below w.heap.size w w')) : Ret Tryz.prog 173 [.slice AL L.length cL,.func (.func k) #[] p.toArray] f (fun v w=>∃ i:Int,v=vi i∧decide (0≤i)=L.any (fun s=>q s.l)∧Below f.heap.size f w):=by
 refine enter Tryz.func173 rfl 19 rfl rfl ?_;intro a b
 have m:=bz f
 refine Zs b fun _ aK=>?_;refine Za rfl<|ZX aK fun a b _ aL=>?_;refine Zs b fun _ aM=>?_;refine Zm rfl<|Ze (X22 rfl X1r)<|Zm rfl<|Zt aM fun a b=>?_;refine Q8<|X04 (σ:=Nat) (fun (j:Nat) (a:Act) (w:World)=>Fr a 19 [(0,.slice AL L.length cL),(1,.func (.func k) #[] p.toArray),(7,vi (L.length:Int)),(8,vi (j:Int))]∧(j≤L.length)∧((L.take j).all (fun s=>!q s.l)=true)∧Below f.heap.size f w) (fun (j:Nat)=>L.length-j) 0 ?_ ?_
 ·exact ⟨b.sb,(Qf _),(by simp),m⟩
 rintro j a w1 ⟨b,hj,o,m⟩;refine Zs b fun _ aN=>?_;refine Ze (X19 rfl rfl)<|ZX aN fun a b _ aO=>?_
 refine Xi b rfl (fun e=>?_) (fun e=>?_)
 ·have aD:=e;have e:=Q2 e
  obtain ⟨n,g⟩:=Xr (l:=L) (k:=j) (by omega)
  refine Q7<|aO _ _<|Q5 fun _ aP=>?_;refine Q8<|Zs b fun _ aE=>?_;refine Zm rfl<|Za rfl<|Zx aE fun a b _ aF=>?_;refine Zm rfl<|Zm rfl<|Zm rfl<|Zi (k:=j) (u:=n) (enc:=encSd) (l:=L) trivial rfl rfl X1r X3a X1x (aC.below' m) g rfl ?_;intro aS a9
  have aG:Rd w1 f.heap.size 86 encD n.A n.l:=(aJ n (Qe g)).below' m
  refine Ze (X0 rfl X0c a9)<|Zf (X6h (cs:=p) (vs:=[.slice n.A n.l.length n.c]) rfl rfl F (hq n _ (Qe g) m aG.top)) ?_;rintro _ w2 ⟨rfl,hE⟩;have m:=btr m hE;refine Zt aF fun a b=>?_
  refine Xi b rfl (fun d=>?_) (fun d=>?_)
  ·have aA:=d
   have aB:L.any (fun s=>q s.l)=true:=X5f g d
   refine Zs b fun _ aH=>?_;refine Zm rfl<|Za rfl<|Zt aH fun a b=>?_;refine Q6<|X00<|X8<|X8 ?_;refine X00<|X8<|X4 b (Xp b rfl rfl) ?_;exact ⟨_,rfl,by rw [aB];simp,m⟩
  have aA:=d
  have aQ:(fun s:Sd=>!q s.l) n=true:=by show (!q n.l)=true;rw [d];rfl
  refine Q7<|Xk<|aP _ _<|Zr b ?_;refine Ze (X02 rfl rfl (by omega) (by omega))<|Zm rfl ?_;refine Zn fun a b=>?_;refine Xn ?_;exact ⟨j+1,⟨b.sb,(by omega),(X3p o g aQ),m⟩,(by omega)⟩
 have aD:=e;have e:=Q1 e;refine Q9<|Xm<|Xm<|X06 ?_;refine aL _ _<|Zs b fun _ aI=>?_;refine Za rfl<|Zt aI fun a b=>?_
 refine Q6 (X4 b (Xp b rfl rfl) ?_)
 have aB:L.any (fun s=>q s.l)=false:=X4c (X3e o (by omega))
 exact ⟨_,rfl,by rw [aB];rfl,m⟩
theorem Xxu(b:World)(AL:Option Addr)(cL:Nat)(L:List Sd)(a9:Rd b b.heap.size 30 encSd AL L)(aA:DeepD b b.heap.size L)(aB:L.length≤1000)(k:FuncId)(p:List Value)(F:FuncF Tryz.prog k)(q:List Dy→Bool)(hq:∀ (s:Sd) (w:World),s ∈ L→Below b.heap.size b w→Rd w w.heap.size 86 encD s.A s.l→Ret Tryz.prog k ([.slice s.A s.l.length s.c]++p) w (fun v w'=>v=.bool (q s.l)∧Below w.heap.size w w')) : Ret Tryz.prog 131 [.slice AL L.length cL,.func (.func k) #[] p.toArray] b (fun v w=>v=.bool (L.any (fun s=>q s.l))∧Below b.heap.size b w):=by
 refine enter Tryz.func131 rfl 9 rfl rfl ?_;intro a hf
 have hW:=bz b
 refine Zs hf fun _ aC=>?_;refine Za rfl<|Zx aC fun a hf _ aD=>?_;refine Zm rfl<|Zm rfl<|Zf (Vc (Xwp _ AL cL L (a9.below' hW).top (aA.below hW).top aB k p F q (fun u w1 hu aE aF=>hq u w1 hu (hW.trans (aE.mono hW.size)) aF)) Xqp) ?_;rintro _ w1 ⟨ix,rfl,aG,hE⟩;have hW:=btr hW hE;refine Ze (Xjc rfl rfl)<|Za rfl<|Zt aD fun a hf=>?_
 refine Q6 (X4 hf (Xp hf rfl rfl) ?_)
 exact ⟨by rw [← aG],hW⟩
theorem Xrp(M:World)(eW:HalfT M) : Ret Tryz.prog 77 [] M (fun v w=>∃ (A:Option Addr) (c:Nat) (Bq:Option Addr) (d:Nat) (L:List Sd),v=.tuple #[.slice A (wsN 24).length c,.slice Bq L.length d]∧Own w M.heap.size 9 1 encTx A c (wsN 24)∧Own w M.heap.size 30 1 encSd Bq d L∧L.map Sd.l=lsN 24∧DeepD w w.heap.size L∧Below M.heap.size M w):=by
 refine enter Tryz.func77 rfl 80 rfl rfl ?_;intro a J
 have z:=bz M
 refine Zs J fun _ gA=>?_;refine Za rfl<|Za rfl<|Zx gA fun a J _ gB=>?_;refine Zf (X7 (k:=0) (vs:=[]) (zs:=[]) rfl Xs X0u rfl rfl) ?_;rintro _ w1 ⟨b5,rfl,gC,y,gD⟩;have eX:=Q0 z.size gC;have z:=btr z y;refine Za rfl<|ZX gB fun a J _ gE=>?_;refine Zs J fun _ gF=>?_;refine Zm rfl<|Zt gF fun a J=>?_;refine Q8<|X04 (σ:=Nat×(List Dy)) (fun (s:Nat×(List Dy)) (a:Act) (w:World)=>match s with|(k,l)=>∃ A9 c9,Fr a 80 [(2,.slice A9 l.length c9),(14,vi (k:Int))]∧(k≤9)∧(l=(List.range k).map uD)∧(l.length=k)∧Own w M.heap.size 86 5 encD A9 c9 l∧Below M.heap.size M w) (fun (s:Nat×(List Dy))=>match s with|(k,l)=>9-k) (0,[]) ?_ ?_
 ·exact ⟨some ⟨b5,0,none⟩,0,J.sb,(by omega),rfl,rfl,(Own.empty gD eX),z⟩
 rintro ⟨k,l⟩ a w2 ⟨A9,c9,J,hk,hl,gG,aF,z⟩;refine Zs J fun _ eY=>?_;refine Ze (X19 rfl rfl)<|ZX eY fun a J _ eZ=>?_
 refine Xi J rfl (fun aG=>?_) (fun aG=>?_)
 ·have Q:=aG;have aG:=Q2 aG
  have f7:k<9:=by have:=aG;omega
  refine Q7<|eZ _ _<|Q5 fun _ f8=>?_;refine Q8<|Zs J fun _ f9=>?_;refine Zm rfl<|Za rfl<|Zt f9 fun a J=>?_;refine Zr J<|Zm rfl<|Zm rfl<|Ze (X89 rfl rfl rfl)<|Ze (X15 rfl rfl)<|Zf (Vc (F59 _ (((k:Int).tmod 4)==0)) Xev) ?_;rintro _ _ ⟨rfl,rfl⟩;refine Zf (Vc (Xj7 _ (if (((k:Int).tmod 4)==0)=true then 1 else 0)) X8q) ?_;rintro _ w3 ⟨rfl,y⟩;have aF:=aF.below y;have z:=btr z y;refine Zf (X7 (k:=1) (vs:=[.agg #[vi ((⟨⟨(if (((k:Int).tmod 4)==0)=true then 1 else 0),0,0,0⟩,0⟩ : Dy).num.a),vi ((⟨⟨(if (((k:Int).tmod 4)==0)=true then 1 else 0),0,0,0⟩,0⟩ : Dy).num.b),vi ((⟨⟨(if (((k:Int).tmod 4)==0)=true then 1 else 0),0,0,0⟩,0⟩ : Dy).num.c),vi ((⟨⟨(if (((k:Int).tmod 4)==0)=true then 1 else 0),0,0,0⟩,0⟩ : Dy).num.d),vi ((⟨⟨(if (((k:Int).tmod 4)==0)=true then 1 else 0),0,0,0⟩,0⟩ : Dy).exp)]]) (zs:=[vi ((⟨⟨(if (((k:Int).tmod 4)==0)=true then 1 else 0),0,0,0⟩,0⟩ : Dy).num.a),vi ((⟨⟨(if (((k:Int).tmod 4)==0)=true then 1 else 0),0,0,0⟩,0⟩ : Dy).num.b),vi ((⟨⟨(if (((k:Int).tmod 4)==0)=true then 1 else 0),0,0,0⟩,0⟩ : Dy).num.c),vi ((⟨⟨(if (((k:Int).tmod 4)==0)=true then 1 else 0),0,0,0⟩,0⟩ : Dy).num.d),vi ((⟨⟨(if (((k:Int).tmod 4)==0)=true then 1 else 0),0,0,0⟩,0⟩ : Dy).exp)]) rfl Xs X0u rfl rfl) ?_;rintro _ w4 ⟨iW,rfl,cW,y,cA⟩;have gI:=Q0 z.size cW;have cB:=aF.away cW;have aF:=aF.below y;have z:=btr z y;refine Zf (X0k (enc:=encD) (l:=(l)) (l2:=([(⟨⟨(if (((k:Int).tmod 4)==0)=true then 1 else 0),0,0,0⟩,0⟩ : Dy)])) (B0:=M.heap.size) rfl rfl Xs X0u Xw X28 aF (Rd.of_blk cA rfl _ cA.lt) (by simp only [maxLen];simp;omega) (by simp;omega) z.size) ?_;rintro _ w5 ⟨gJ,gK,rfl,fA,B,D⟩
  have e:Own _ M.heap.size 86 5 encD _ _ (l):=aF
  have dT:=D _ cA.lt cB;clear D;have z:=Below.app z e B (Qb _) z.size;clear e B;refine Za rfl ?_;refine Zn fun a J=>?_;refine Xk<|f8 _ _<|Zr J<|Ze (X02 rfl rfl (by omega) (by omega))<|Zm rfl ?_;refine Zn fun a J=>?_;refine Xn ?_;exact ⟨(k+1,l++[uD k]),⟨gJ,gK,J.sb,(by omega),(by rw [hl];exact Xor k),(by simp;exact gG),fA,z⟩,(by first|omega|(dsimp only;omega))⟩
 have Q:=aG;have aG:=Q1 aG
 have f7:k=9:=by have:=aG;omega
 have gL:l=clB 0:=by rw [hl,f7];exact Xqw
 refine Q9<|Xm<|Xm<|X06 ?_;refine gE _ _<|Zs J fun _ fB=>?_;refine Zf (X7 (k:=1) (vs:=[.string (tx [])]) (zs:=[.string (tx [])]) rfl X1g X4h rfl rfl) ?_;rintro _ w6 ⟨gM,rfl,fC,y,aN⟩;have dI:=Q0 z.size fC;have aF:=aF.below y;have z:=btr z y;refine Zm rfl<|Zf (X7 (k:=1) (vs:=[.slice A9 l.length c9]) (zs:=[.slice A9 l.length c9]) rfl X1r X2p rfl rfl) ?_;rintro _ w7 ⟨gN,rfl,fD,y,aT⟩;have dJ:=Q0 z.size fD;have aN:=aN.below y;have aF:=aF.below y;have z:=btr z y;refine Za rfl<|Za rfl<|Zx fB fun a J _ fE=>?_;refine Zf (Vc (Xs8 _ 1 0 (by decide) rfl (eW.of z)) Xhf) ?_;rintro _ w8 ⟨aA,aB,rfl,g,y⟩;have g:=g.lower z.size;have aN:=aN.below y;have aT:=aT.below y;have aF:=aF.below y;have z:=btr z y;refine Ze (Xhd (vs:=[.slice aA (clB (letR 0)).length aB]) rfl ⟨_,_,Tryz.underlying66,rfl,rfl,X0c⟩ rfl)<|Zf (Vc (Xs8 _ 5 1 (by decide) rfl (eW.of z)) Xhf) ?_;rintro _ w9 ⟨aC,aD,rfl,p,y⟩;have p:=p.lower z.size;have aN:=aN.below y;have aT:=aT.below y;have aF:=aF.below y;have g:=g.below y;have z:=btr z y;refine Ze (Xhd (vs:=[.slice aC (clB (letR 1)).length aD]) rfl ⟨_,_,Tryz.underlying66,rfl,rfl,X0c⟩ rfl)<|Za rfl<|Za rfl<|ZX fE fun a J _ fF=>?_;refine Zs J fun _ fG=>?_;refine Za rfl<|Zt fG fun a J=>?_;refine Q8 ?_
 have x:DeepD w9 w9.heap.size [(⟨A9,c9,l⟩ : Sd)]:=DeepD.snoc (DeepD.nil _ _) (s:=(⟨A9,c9,l⟩ : Sd)) aF.rd.top
 refine X04 (σ:=Nat×(List ByteArray)×(List Sd)) (fun (s:Nat×(List ByteArray)×(List Sd)) (a:Act) (w:World)=>match s with|(n,ws,L)=>∃ cC cD cE cF,Fr a 80 [(4,.slice cC ws.length cD),(5,.slice cE L.length cF),(6,.slice aA (clB (letR 0)).length aB),(7,.slice aC (clB (letR 1)).length aD),(8,vi (n:Int))]∧(n≤24)∧(ws=wsN (ctI n 0))∧(L.map Sd.l=lsN (ctI n 0))∧Own w M.heap.size 9 1 encTx cC cD ws∧Own w M.heap.size 30 1 encSd cE cF L∧Own w M.heap.size 86 5 encD aA aB (clB (letR 0))∧Own w M.heap.size 86 5 encD aC aD (clB (letR 1))∧DeepD w w.heap.size L∧Below M.heap.size M w) (fun (s:Nat×(List ByteArray)×(List Sd))=>match s with|(n,ws,L)=>24-n) (0,[tx []],[(⟨A9,c9,l⟩ : Sd)]) ?_ ?_
 ·exact ⟨some ⟨gM,0,none⟩,1,some ⟨gN,0,none⟩,1,J.sb,(by omega),rfl,(by show [l]=[clB 0];rw [gL]),(Own.of_blkL X1o aN dI rfl rfl (by decide)),(Own.of_blkL X1x aT dJ rfl rfl (by decide)),g,p,x,z⟩
 rintro ⟨n,ws,L⟩ a iX ⟨cC,cD,cE,cF,J,hn,hw,hL,aU,aW,g,p,x,z⟩;refine Q5 fun _ fH=>?_;refine Zs J fun _ fI=>?_;refine Zm rfl<|Zm rfl<|Ze (X22 rfl X1g)<|Ze (X19 rfl rfl)<|Zt fI fun a J=>?_
 refine Xi J rfl (fun aH=>?_) (fun aH=>?_)
 ·have U:=aH;have aH:=Q2 aH
  obtain ⟨iY,iS⟩:=Xr (l:=ws) (k:=n) (by omega)
  have aX:n<24:=by
   have h9:=aH
   rw [hw,X47] at h9
   by_cases e9:n=24
   ·exfalso;rw [e9] at h9;exact absurd h9 (by decide)
   ·omega
  refine Q7<|fH _ _<|Q5 fun _ fJ=>?_;refine Q8<|Zs J fun _ fK=>?_;refine Zm rfl<|Zm rfl<|Zf (X7 (k:=2) (vs:=[.slice aA (clB (letR 0)).length aB,.slice aC (clB (letR 1)).length aD]) (zs:=[.slice aA (clB (letR 0)).length aB,.slice aC (clB (letR 1)).length aD]) rfl X1r X2p rfl rfl) ?_;rintro _ iZ ⟨aJ,rfl,cX,y,f⟩;have gO:=Q0 z.size cX;have b7:=aW.away cX;have aU:=aU.below y;have aW:=aW.below y;have g:=g.below y;have p:=p.below y;have x:=(x.below y).top;have z:=btr z y;refine Ze (X22 rfl X1r)<|Zm rfl<|Zt fK fun a J=>?_;refine Q8<|X04 (σ:=Nat×(List ByteArray)×(List Sd)) (fun (s:Nat×(List ByteArray)×(List Sd)) (a:Act) (w:World)=>match s with|(i,N,L2)=>∃ cG cH b6 b8,Fr a 80 [(4,.slice cG N.length cH),(5,.slice b6 L2.length b8),(6,.slice aA (clB (letR 0)).length aB),(7,.slice aC (clB (letR 1)).length aD),(8,vi (n:Int)),(41,.slice (some ⟨aJ,0,none⟩) ([(⟨aA,aB,(clB (letR 0))⟩ : Sd),(⟨aC,aD,(clB (letR 1))⟩ : Sd)]).length 2),(42,vi (([(⟨aA,aB,(clB (letR 0))⟩ : Sd),(⟨aC,aD,(clB (letR 1))⟩ : Sd)]).length:Int)),(43,vi (i:Int))]∧(i≤2)∧(N=wsN (ctI n i))∧(L2.map Sd.l=lsN (ctI n i))∧Blk w aJ 30 [.slice aA (clB (letR 0)).length aB,.slice aC (clB (letR 1)).length aD]∧Own w M.heap.size 9 1 encTx cG cH N∧Own w M.heap.size 30 1 encSd b6 b8 L2∧Own w M.heap.size 86 5 encD aA aB (clB (letR 0))∧Own w M.heap.size 86 5 encD aC aD (clB (letR 1))∧DeepD w w.heap.size L2∧Away b6 aJ∧Below M.heap.size M w) (fun (s:Nat×(List ByteArray)×(List Sd))=>match s with|(i,N,L2)=>2-i) (0,ws,L) ?_ ?_
  ·exact ⟨cC,cD,cE,cF,J.sb,(by omega),hw,hL,f,aU,aW,g,p,x,b7,z⟩
  rintro ⟨i,N,L2⟩ a gQ ⟨cG,cH,b6,b8,J,hi,cJ,aS,f,C,t,g,p,x,E,z⟩;refine Zs J fun _ fL=>?_;refine Ze (X19 rfl rfl)<|ZX fL fun a J _ fM=>?_
  refine Xi J rfl (fun aI=>?_) (fun aI=>?_)
  ·have W:=aI;have aI:=Q2 aI
   obtain ⟨j0,iT⟩:=Xr (l:=([(⟨aA,aB,(clB (letR 0))⟩ : Sd),(⟨aC,aD,(clB (letR 1))⟩ : Sd)])) (k:=i) (by omega)
   have cK:i<2:=by have h9:=aI;simp at h9;omega
   obtain ⟨u6,dK⟩:=Xr (l:=[(⟨aA,aB,(clB (letR 0))⟩ : Sd),(⟨aC,aD,(clB (letR 1))⟩ : Sd)]) (k:=i) (by simp;omega)
   have d5:=Xxc dK rfl rfl;have b9:=Xxs aX cK
   obtain ⟨u5,dL⟩:=Xr (l:=L2) (k:=n) (by rw [X84 aS];exact b9.lt)
   have d6:=Xgs aS dL
   have gR:mulBI u6.l u5.l=some (clB (nx n (letC i))):=by rw [d5,d6];exact Xow aX cK
   have fN:=(Xmq aX).lt (letC i);have dM:=b9.le;have fO:=X84 aS
   have iU:N.length=ctI n i:=by rw [cJ,X47]
   refine Q7<|fM _ _<|Q5 fun _ d7=>?_;refine Q8<|Zs J fun _ fP=>?_;refine Zm rfl<|Zi (k:=i) (u:=u6) (enc:=encSd) (l:=[(⟨aA,aB,(clB (letR 0))⟩ : Sd),(⟨aC,aD,(clB (letR 1))⟩ : Sd)]) trivial rfl rfl X1r X3a X1x (Rd.of_blk f rfl _ f.lt) dK rfl ?_;intro j1 dN;have fQ:=Xt0 dK g.rd.top p.rd.top;refine Ze (X0 rfl X0c dN)<|Za rfl<|Za rfl<|Zx fP fun a J _ fR=>?_;refine Zm rfl<|Zm rfl<|Zm rfl<|Zi (k:=n) (u:=u5) (enc:=encSd) (l:=L2) trivial rfl rfl X1r X3a X1x t.rd dL rfl ?_;intro j4 dP;have fS:=(x u5 (Qe dL)).top;refine Ze (X0 rfl X0c dP)<|Zf (X0x (vs:=[.slice u6.A u6.l.length u6.c,.slice u5.A u5.l.length u5.c]) rfl Xde (by have hq:=Xn1 gQ u6.A u6.c u6.l fQ.top u5.A u5.c u5.l fS.top (by rw [d5];exact X43 (Xom i)) (by rw [d6];exact X43 aX);rw [gR,Qq,Option.isSome_some] at hq;exact hq)) ?_;rintro _ j5 ⟨H,I,rfl,q,y⟩;have q:=q.lower z.size;have f:=f.below y;have C:=C.below y;have t:=t.below y;have g:=g.below y;have p:=p.below y;have x:=(x.below y).top;have z:=btr z y;refine Zm rfl<|Ze (X1 (vs:=[.slice H (clB (nx n (letC i))).length I,.bool true]) rfl rfl)<|Ze (X1 (vs:=[.slice H (clB (nx n (letC i))).length I,.bool true]) rfl rfl)<|Zf (X3 (zs:=[.slice none 0 0]) Xwm rfl) ?_;rintro _ j6 ⟨b55,rfl,d8,y,o⟩
   have dU:aJ≠b55:=by have:=f.lt;omega
   have dQ:=Q0 z.size d8;have G:=t.away d8;have f:=f.below y;have C:=C.below y;have t:=t.below y;have g:=g.below y;have p:=p.below y;have q:=q.below y;have x:=(x.below y).top;have z:=btr z y;refine Zo (Vw [.slice H (clB (nx n (letC i))).length I] X3a o) ?_;rintro _ j7 ⟨ho,hb⟩;have aY:=o;have f:=f.only ho (by omega);have C:=C.onlyT ho aY rfl;have t:=t.onlyA ho G;have g:=g.onlyT ho aY rfl;have p:=p.onlyT ho aY rfl;have q:=q.onlyT ho aY rfl;have x:=(x.onlyT ho aY rfl).top;have z:=Below.only z ho dQ;have o:=hb;refine Za rfl<|Zx fR fun a J _ fT=>?_;refine Zm rfl<|Ze (X4b (vs:=[.pointer (some ⟨b55,0,none⟩)]) rfl)<|Zf (Vc (Xxu _ b6 b8 L2 t.rd.top x.top (by rw [fO];omega) 132 [.pointer (some ⟨b55,0,none⟩)] Xnh (fun l=>decide (l=(clB (nx n (letC i))))) (fun u w1 hu fU gU=>Xx0 w1 u.A u.c u.l gU (Xvz aS dM hu) b55 H I (clB (nx n (letC i))) ((q.rd.top).below fU).top (o.below fU))) Xpd) ?_;rintro _ j8 ⟨rfl,y⟩;have f:=f.below y;have o:=o.below y;have C:=C.below y;have t:=t.below y;have g:=g.below y;have p:=p.below y;have q:=q.below y;have x:=(x.below y).top;have z:=btr z y;refine Ze (X0p rfl)<|Zt fT fun a J=>?_
   refine Xi J rfl (fun aZ=>?_) (fun aZ=>?_)
   ·have a9:=aZ
    have fV:nx n (letC i)=ctI n i:=by have h9:=aZ;rw [Xfj aS dM fN] at h9;have:=b9.nx;simp at h9;omega
    have dR:=b9.new fV
    have iV:ctI n i<24:=by omega
    refine X09 (fun a w=>∃ bC bD b0 bE,Fr a 80 [(4,.slice bC (N++([tx ((cw n)++([letC i]))])).length bD),(5,.slice b0 (L2++([(⟨H,I,(clB (nx n (letC i)))⟩ : Sd)])).length bE),(6,.slice aA (clB (letR 0)).length aB),(7,.slice aC (clB (letR 1)).length aD),(8,vi (n:Int)),(41,.slice (some ⟨aJ,0,none⟩) ([(⟨aA,aB,(clB (letR 0))⟩ : Sd),(⟨aC,aD,(clB (letR 1))⟩ : Sd)]).length 2),(42,vi (([(⟨aA,aB,(clB (letR 0))⟩ : Sd),(⟨aC,aD,(clB (letR 1))⟩ : Sd)]).length:Int)),(43,vi (i:Int))]∧Own w M.heap.size 9 1 encTx bC bD (N++([tx ((cw n)++([letC i]))]))∧Own w M.heap.size 30 1 encSd b0 bE (L2++([(⟨H,I,(clB (nx n (letC i)))⟩ : Sd)]))∧Away b0 aJ∧Away b0 b55∧Blk w aJ 30 [.slice aA (clB (letR 0)).length aB,.slice aC (clB (letR 1)).length aD]∧Blk w b55 30 [.slice H (clB (nx n (letC i))).length I]∧Own w M.heap.size 86 5 encD aA aB (clB (letR 0))∧Own w M.heap.size 86 5 encD aC aD (clB (letR 1))∧Own w M.heap.size 86 5 encD H I (clB (nx n (letC i)))∧DeepD w w.heap.size (L2++([(⟨H,I,(clB (nx n (letC i)))⟩ : Sd)]))∧Below M.heap.size M w) ?_ ?_
    ·refine Xy none (fun j=>[11,15].contains j) mixed ?_;intro j9 y;have f:=f.below y;have o:=o.below y;have C:=C.below y;have t:=t.below y;have g:=g.below y;have p:=p.below y;have q:=q.below y;have x:=(x.below y).top;have z:=btr z y;refine Yb J<|Yo 0 rfl (fun _=>Xa rfl)<|Yo 1 rfl (fun _=>Xa rfl)<|Yo 2 rfl (fun _=>Xa rfl)<|Yi (k:=n) (u:=tx (cw n)) (enc:=encTx) (l:=N) 3 rfl trivial rfl rfl X1g Xfy X1o C.rd (by rw [cJ];exact X9l b9.lt) rfl ?_;intro jA dS;refine Ye 4 rfl (X0 rfl X71 dS)<|Yo 5 rfl (fun _=>Xa rfl)<|Yo 6 rfl (fun _=>Xa rfl)<|Yo 7 rfl (fun _=>X02 rfl rfl (by omega) (by omega))<|Yo 8 rfl (fun _=>Xs4 (s:=[72,83]) (r:=[letC i]) (k:=i) (m:=(i+1)) rfl rfl rfl Tryz.underlying9 rfl rfl (Nat.le_succ _) (by simp;omega) (Xo3 cK))<|Yo 9 rfl (fun _=>Xf6 (s:=(cw n)) (r:=([letC i])) rfl rfl (by have:=(X67 aX).2;simp;omega))<|Yo 12 rfl (fun _=>Xa rfl) ?_;refine Y2 10 13 ?_ ?_
     ·refine Yk rfl trivial (X7 (k:=1) (vs:=[.string (tx ((cw n)++([letC i])))]) (zs:=[.string (tx ((cw n)++([letC i])))]) rfl X1g X4h rfl rfl) (fun _ _ ⟨_,_,_,h,_⟩=>h) ?_;rintro _ jB ⟨jC,rfl,d9,y,aE⟩;have gX:=Q0 z.size d9;have aK:=C.away d9;have f:=f.below y;have o:=o.below y;have C:=C.below y;have t:=t.below y;have g:=g.below y;have p:=p.below y;have q:=q.below y;have x:=(x.below y).top;have z:=btr z y;refine Y2 11 13 ?_ ?_
      ·refine Yt rfl trivial rfl (X0k (enc:=encTx) (l:=(N)) (l2:=([tx ((cw n)++([letC i]))])) (B0:=M.heap.size) rfl rfl X1g X4h X1o X3d C (Rd.of_blk aE rfl _ aE.lt) (by simp only [maxLen];simp;omega) (by simp;omega) z.size) ?_;rintro _ jD ⟨bC,bD,rfl,aO,B,D⟩
       have e:Own _ M.heap.size 9 1 encTx _ _ (N):=C
       have dW:=D _ aE.lt aK;clear D;have f:=f.appT e B rfl;have o:=o.appT e B rfl;have t:=t.appT e B rfl;have g:=g.appT e B rfl;have p:=p.appT e B rfl;have q:=q.appT e B rfl;have x:=(x.appT e B rfl).top;have z:=Below.app z e B (Qb _) z.size;clear e B;refine Y1 13<|Yz rfl trivial (Uev (X0 rfl X0c (o.at 0))) ?_;refine Y1 14<|Yk rfl trivial (X7 (k:=1) (vs:=[.slice H (clB (nx n (letC i))).length I]) (zs:=[.slice H (clB (nx n (letC i))).length I]) rfl X1r X2p rfl rfl) (fun _ _ ⟨_,_,_,h,_⟩=>h) ?_;rintro _ jE ⟨b63,rfl,dA,y,cM⟩
       have dX:aJ≠b63:=by have:=f.lt;omega
       have dY:b55≠b63:=by have:=o.lt;omega
       have hH:=Q0 z.size dA;have bF:=t.away dA;have f:=f.below y;have o:=o.below y;have t:=t.below y;have g:=g.below y;have p:=p.below y;have q:=q.below y;have aO:=aO.below y;have x:=(x.below y).top;have z:=btr z y;refine Y1 15<|Yt rfl trivial rfl (X0k (enc:=encSd) (l:=(L2)) (l2:=([(⟨H,I,(clB (nx n (letC i)))⟩ : Sd)])) (B0:=M.heap.size) rfl rfl X1r X2p X1x X3m t (Rd.of_blk cM rfl _ cM.lt) (by simp only [maxLen];simp;omega) (by simp;omega) z.size) ?_;rintro _ jF ⟨b0,bE,rfl,cO,B,D⟩
       have e:Own _ M.heap.size 30 1 encSd _ _ (L2):=t
       have aL:=D _ f.lt E;have aQ:=D _ o.lt G;have e8:=D _ cM.lt bF;clear D;have f:=f.appA B E;have o:=o.appA B G;have g:=g.appT e B rfl;have p:=p.appT e B rfl;have q:=q.appT e B rfl;have aO:=aO.appT e B rfl;have x:=(x.appT e B rfl).top;have z:=Below.app z e B (Qb _) z.size;clear e B
       have x:=DeepD.snoc (s:=(⟨H,I,(clB (nx n (letC i)))⟩ : Sd)) x.top q.rd.top
       refine Yo 16 rfl (fun _=>X0q rfl)<|Yo 17 rfl (fun _=>X0q rfl) ?_;refine Yd fun a J=>?_;exact ⟨bC,bD,b0,bE,J.sb,aO,cO,aL,aQ,f,o,g,p,q,x,z⟩
      refine Yz rfl trivial (Uev (X0 rfl X0c (o.at 0))) ?_;refine Y2 11 14 ?_ ?_
      ·refine Yt rfl trivial rfl (X0k (enc:=encTx) (l:=(N)) (l2:=([tx ((cw n)++([letC i]))])) (B0:=M.heap.size) rfl rfl X1g X4h X1o X3d C (Rd.of_blk aE rfl _ aE.lt) (by simp only [maxLen];simp;omega) (by simp;omega) z.size) ?_;rintro _ jG ⟨hJ,hP,rfl,b1,B,D⟩
       have e:Own _ M.heap.size 9 1 encTx _ _ (N):=C
       have eA:=D _ aE.lt aK;clear D;have f:=f.appT e B rfl;have o:=o.appT e B rfl;have t:=t.appT e B rfl;have g:=g.appT e B rfl;have p:=p.appT e B rfl;have q:=q.appT e B rfl;have x:=(x.appT e B rfl).top;have z:=Below.app z e B (Qb _) z.size;clear e B;refine Y1 14<|Yk rfl trivial (X7 (k:=1) (vs:=[.slice H (clB (nx n (letC i))).length I]) (zs:=[.slice H (clB (nx n (letC i))).length I]) rfl X1r X2p rfl rfl) (fun _ _ ⟨_,_,_,h,_⟩=>h) ?_;rintro _ jH ⟨b67,rfl,dB,y,cP⟩
       have eB:aJ≠b67:=by have:=f.lt;omega
       have eC:b55≠b67:=by have:=o.lt;omega
       have hU:=Q0 z.size dB;have bG:=t.away dB;have f:=f.below y;have o:=o.below y;have t:=t.below y;have g:=g.below y;have p:=p.below y;have q:=q.below y;have b1:=b1.below y;have x:=(x.below y).top;have z:=btr z y;refine Y1 15<|Yt rfl trivial rfl (X0k (enc:=encSd) (l:=(L2)) (l2:=([(⟨H,I,(clB (nx n (letC i)))⟩ : Sd)])) (B0:=M.heap.size) rfl rfl X1r X2p X1x X3m t (Rd.of_blk cP rfl _ cP.lt) (by simp only [maxLen];simp;omega) (by simp;omega) z.size) ?_;rintro _ jI ⟨i0,i1,rfl,fW,B,D⟩
       have e:Own _ M.heap.size 30 1 encSd _ _ (L2):=t
       have bH:=D _ f.lt E;have bI:=D _ o.lt G;have eD:=D _ cP.lt bG;clear D;have f:=f.appA B E;have o:=o.appA B G;have g:=g.appT e B rfl;have p:=p.appT e B rfl;have q:=q.appT e B rfl;have b1:=b1.appT e B rfl;have x:=(x.appT e B rfl).top;have z:=Below.app z e B (Qb _) z.size;clear e B
       have x:=DeepD.snoc (s:=(⟨H,I,(clB (nx n (letC i)))⟩ : Sd)) x.top q.rd.top
       refine Yo 16 rfl (fun _=>X0q rfl)<|Yo 17 rfl (fun _=>X0q rfl) ?_;refine Yd fun a J=>?_;exact ⟨hJ,hP,i0,i1,J.sub ⟨(by first|rfl|(simp [look,Q,U,W,a9])),(by first|rfl|(simp [look,Q,U,W,a9])),rfl,rfl,rfl,rfl,rfl,rfl,trivial⟩,b1,fW,bH,bI,f,o,g,p,q,x,z⟩
      refine Yk rfl trivial (X7 (k:=1) (vs:=[.slice H (clB (nx n (letC i))).length I]) (zs:=[.slice H (clB (nx n (letC i))).length I]) rfl X1r X2p rfl rfl) (fun _ _ ⟨_,_,_,h,_⟩=>h) ?_;rintro _ jJ ⟨b70,rfl,dC,y,b2⟩
      have eE:aJ≠b70:=by have:=f.lt;omega
      have eF:b55≠b70:=by have:=o.lt;omega
      have i3:=Q0 z.size dC;have bJ:=t.away dC;have f:=f.below y;have o:=o.below y;have aE:=aE.below y;have C:=C.below y;have t:=t.below y;have g:=g.below y;have p:=p.below y;have q:=q.below y;have x:=(x.below y).top;have z:=btr z y;refine Y1 11<|Yt rfl trivial rfl (X0k (enc:=encTx) (l:=(N)) (l2:=([tx ((cw n)++([letC i]))])) (B0:=M.heap.size) rfl rfl X1g X4h X1o X3d C (Rd.of_blk aE rfl _ aE.lt) (by simp only [maxLen];simp;omega) (by simp;omega) z.size) ?_;rintro _ jK ⟨i4,i5,rfl,cQ,B,D⟩
      have e:Own _ M.heap.size 9 1 encTx _ _ (N):=C
      have eH:=D _ aE.lt aK;clear D;have f:=f.appT e B rfl;have o:=o.appT e B rfl;have b2:=b2.appT e B rfl;have t:=t.appT e B rfl;have g:=g.appT e B rfl;have p:=p.appT e B rfl;have q:=q.appT e B rfl;have x:=(x.appT e B rfl).top;have z:=Below.app z e B (Qb _) z.size;clear e B;refine Y1 15<|Yt rfl trivial rfl (X0k (enc:=encSd) (l:=(L2)) (l2:=([(⟨H,I,(clB (nx n (letC i)))⟩ : Sd)])) (B0:=M.heap.size) rfl rfl X1r X2p X1x X3m t (Rd.of_blk b2 rfl _ b2.lt) (by simp only [maxLen];simp;omega) (by simp;omega) z.size) ?_;rintro _ jL ⟨i6,i7,rfl,fX,B,D⟩
      have e:Own _ M.heap.size 30 1 encSd _ _ (L2):=t
      have bK:=D _ f.lt E;have bL:=D _ o.lt G;have eI:=D _ b2.lt bJ;clear D;have f:=f.appA B E;have o:=o.appA B G;have g:=g.appT e B rfl;have p:=p.appT e B rfl;have q:=q.appT e B rfl;have cQ:=cQ.appT e B rfl;have x:=(x.appT e B rfl).top;have z:=Below.app z e B (Qb _) z.size;clear e B
      have x:=DeepD.snoc (s:=(⟨H,I,(clB (nx n (letC i)))⟩ : Sd)) x.top q.rd.top
      refine Yo 16 rfl (fun _=>X0q rfl)<|Yo 17 rfl (fun _=>X0q rfl) ?_;refine Yd fun a J=>?_;exact ⟨i4,i5,i6,i7,J.sub ⟨(by first|rfl|(simp [look,Q,U,W,a9])),(by first|rfl|(simp [look,Q,U,W,a9])),rfl,rfl,rfl,rfl,rfl,rfl,trivial⟩,cQ,fX,bK,bL,f,o,g,p,q,x,z⟩
     refine Yz rfl trivial (Uev (X0 rfl X0c (o.at 0))) ?_;refine Y2 10 14 ?_ ?_
     ·refine Yk rfl trivial (X7 (k:=1) (vs:=[.string (tx ((cw n)++([letC i])))]) (zs:=[.string (tx ((cw n)++([letC i])))]) rfl X1g X4h rfl rfl) (fun _ _ ⟨_,_,_,h,_⟩=>h) ?_;rintro _ jM ⟨jN,rfl,dD,y,aM⟩;have i8:=Q0 z.size dD;have aR:=C.away dD;have f:=f.below y;have o:=o.below y;have C:=C.below y;have t:=t.below y;have g:=g.below y;have p:=p.below y;have q:=q.below y;have x:=(x.below y).top;have z:=btr z y;refine Y2 11 14 ?_ ?_
      ·refine Yt rfl trivial rfl (X0k (enc:=encTx) (l:=(N)) (l2:=([tx ((cw n)++([letC i]))])) (B0:=M.heap.size) rfl rfl X1g X4h X1o X3d C (Rd.of_blk aM rfl _ aM.lt) (by simp only [maxLen];simp;omega) (by simp;omega) z.size) ?_;rintro _ jO ⟨i9,iA,rfl,b3,B,D⟩
       have e:Own _ M.heap.size 9 1 encTx _ _ (N):=C
       have eJ:=D _ aM.lt aR;clear D;have f:=f.appT e B rfl;have o:=o.appT e B rfl;have t:=t.appT e B rfl;have g:=g.appT e B rfl;have p:=p.appT e B rfl;have q:=q.appT e B rfl;have x:=(x.appT e B rfl).top;have z:=Below.app z e B (Qb _) z.size;clear e B;refine Y1 14<|Yk rfl trivial (X7 (k:=1) (vs:=[.slice H (clB (nx n (letC i))).length I]) (zs:=[.slice H (clB (nx n (letC i))).length I]) rfl X1r X2p rfl rfl) (fun _ _ ⟨_,_,_,h,_⟩=>h) ?_;rintro _ jP ⟨b77,rfl,dE,y,cR⟩
       have eK:aJ≠b77:=by have:=f.lt;omega
       have eL:b55≠b77:=by have:=o.lt;omega
       have iB:=Q0 z.size dE;have bM:=t.away dE;have f:=f.below y;have o:=o.below y;have t:=t.below y;have g:=g.below y;have p:=p.below y;have q:=q.below y;have b3:=b3.below y;have x:=(x.below y).top;have z:=btr z y;refine Y1 15<|Yt rfl trivial rfl (X0k (enc:=encSd) (l:=(L2)) (l2:=([(⟨H,I,(clB (nx n (letC i)))⟩ : Sd)])) (B0:=M.heap.size) rfl rfl X1r X2p X1x X3m t (Rd.of_blk cR rfl _ cR.lt) (by simp only [maxLen];simp;omega) (by simp;omega) z.size) ?_;rintro _ jQ ⟨iC,iD,rfl,fY,B,D⟩
       have e:Own _ M.heap.size 30 1 encSd _ _ (L2):=t
       have bN:=D _ f.lt E;have bO:=D _ o.lt G;have eM:=D _ cR.lt bM;clear D;have f:=f.appA B E;have o:=o.appA B G;have g:=g.appT e B rfl;have p:=p.appT e B rfl;have q:=q.appT e B rfl;have b3:=b3.appT e B rfl;have x:=(x.appT e B rfl).top;have z:=Below.app z e B (Qb _) z.size;clear e B
       have x:=DeepD.snoc (s:=(⟨H,I,(clB (nx n (letC i)))⟩ : Sd)) x.top q.rd.top
       refine Yo 16 rfl (fun _=>X0q rfl)<|Yo 17 rfl (fun _=>X0q rfl) ?_;refine Yd fun a J=>?_;exact ⟨i9,iA,iC,iD,J.sub ⟨(by first|rfl|(simp [look,Q,U,W,a9])),(by first|rfl|(simp [look,Q,U,W,a9])),rfl,rfl,rfl,rfl,rfl,rfl,trivial⟩,b3,fY,bN,bO,f,o,g,p,q,x,z⟩
      refine Yk rfl trivial (X7 (k:=1) (vs:=[.slice H (clB (nx n (letC i))).length I]) (zs:=[.slice H (clB (nx n (letC i))).length I]) rfl X1r X2p rfl rfl) (fun _ _ ⟨_,_,_,h,_⟩=>h) ?_;rintro _ jR ⟨b80,rfl,dF,y,b4⟩
      have eO:aJ≠b80:=by have:=f.lt;omega
      have eP:b55≠b80:=by have:=o.lt;omega
      have iE:=Q0 z.size dF;have bP:=t.away dF;have f:=f.below y;have o:=o.below y;have aM:=aM.below y;have C:=C.below y;have t:=t.below y;have g:=g.below y;have p:=p.below y;have q:=q.below y;have x:=(x.below y).top;have z:=btr z y;refine Y1 11<|Yt rfl trivial rfl (X0k (enc:=encTx) (l:=(N)) (l2:=([tx ((cw n)++([letC i]))])) (B0:=M.heap.size) rfl rfl X1g X4h X1o X3d C (Rd.of_blk aM rfl _ aM.lt) (by simp only [maxLen];simp;omega) (by simp;omega) z.size) ?_;rintro _ jS ⟨iF,iG,rfl,cS,B,D⟩
      have e:Own _ M.heap.size 9 1 encTx _ _ (N):=C
      have eQ:=D _ aM.lt aR;clear D;have f:=f.appT e B rfl;have o:=o.appT e B rfl;have b4:=b4.appT e B rfl;have t:=t.appT e B rfl;have g:=g.appT e B rfl;have p:=p.appT e B rfl;have q:=q.appT e B rfl;have x:=(x.appT e B rfl).top;have z:=Below.app z e B (Qb _) z.size;clear e B;refine Y1 15<|Yt rfl trivial rfl (X0k (enc:=encSd) (l:=(L2)) (l2:=([(⟨H,I,(clB (nx n (letC i)))⟩ : Sd)])) (B0:=M.heap.size) rfl rfl X1r X2p X1x X3m t (Rd.of_blk b4 rfl _ b4.lt) (by simp only [maxLen];simp;omega) (by simp;omega) z.size) ?_;rintro _ jT ⟨iH,iI,rfl,fZ,B,D⟩
      have e:Own _ M.heap.size 30 1 encSd _ _ (L2):=t
      have bQ:=D _ f.lt E;have bR:=D _ o.lt G;have eR:=D _ b4.lt bP;clear D;have f:=f.appA B E;have o:=o.appA B G;have g:=g.appT e B rfl;have p:=p.appT e B rfl;have q:=q.appT e B rfl;have cS:=cS.appT e B rfl;have x:=(x.appT e B rfl).top;have z:=Below.app z e B (Qb _) z.size;clear e B
      have x:=DeepD.snoc (s:=(⟨H,I,(clB (nx n (letC i)))⟩ : Sd)) x.top q.rd.top
      refine Yo 16 rfl (fun _=>X0q rfl)<|Yo 17 rfl (fun _=>X0q rfl) ?_;refine Yd fun a J=>?_;exact ⟨iF,iG,iH,iI,J.sub ⟨(by first|rfl|(simp [look,Q,U,W,a9])),(by first|rfl|(simp [look,Q,U,W,a9])),rfl,rfl,rfl,rfl,rfl,rfl,trivial⟩,cS,fZ,bQ,bR,f,o,g,p,q,x,z⟩
     refine Yk rfl trivial (X7 (k:=1) (vs:=[.slice H (clB (nx n (letC i))).length I]) (zs:=[.slice H (clB (nx n (letC i))).length I]) rfl X1r X2p rfl rfl) (fun _ _ ⟨_,_,_,h,_⟩=>h) ?_;rintro _ jU ⟨b84,rfl,dG,y,aP⟩
     have eS:aJ≠b84:=by have:=f.lt;omega
     have eT:b55≠b84:=by have:=o.lt;omega
     have iJ:=Q0 z.size dG;have bS:=t.away dG;have f:=f.below y;have o:=o.below y;have C:=C.below y;have t:=t.below y;have g:=g.below y;have p:=p.below y;have q:=q.below y;have x:=(x.below y).top;have z:=btr z y;refine Y1 10<|Yk rfl trivial (X7 (k:=1) (vs:=[.string (tx ((cw n)++([letC i])))]) (zs:=[.string (tx ((cw n)++([letC i])))]) rfl X1g X4h rfl rfl) (fun _ _ ⟨_,_,_,h,_⟩=>h) ?_;rintro _ jV ⟨jW,rfl,dH,y,cU⟩;have iK:=Q0 z.size dH;have bU:=C.away dH;have f:=f.below y;have o:=o.below y;have aP:=aP.below y;have C:=C.below y;have t:=t.below y;have g:=g.below y;have p:=p.below y;have q:=q.below y;have x:=(x.below y).top;have z:=btr z y;refine Y1 11<|Yt rfl trivial rfl (X0k (enc:=encTx) (l:=(N)) (l2:=([tx ((cw n)++([letC i]))])) (B0:=M.heap.size) rfl rfl X1g X4h X1o X3d C (Rd.of_blk cU rfl _ cU.lt) (by simp only [maxLen];simp;omega) (by simp;omega) z.size) ?_;rintro _ jX ⟨iM,iN,rfl,cV,B,D⟩
     have e:Own _ M.heap.size 9 1 encTx _ _ (N):=C
     have eU:=D _ cU.lt bU;clear D;have f:=f.appT e B rfl;have o:=o.appT e B rfl;have aP:=aP.appT e B rfl;have t:=t.appT e B rfl;have g:=g.appT e B rfl;have p:=p.appT e B rfl;have q:=q.appT e B rfl;have x:=(x.appT e B rfl).top;have z:=Below.app z e B (Qb _) z.size;clear e B;refine Y1 15<|Yt rfl trivial rfl (X0k (enc:=encSd) (l:=(L2)) (l2:=([(⟨H,I,(clB (nx n (letC i)))⟩ : Sd)])) (B0:=M.heap.size) rfl rfl X1r X2p X1x X3m t (Rd.of_blk aP rfl _ aP.lt) (by simp only [maxLen];simp;omega) (by simp;omega) z.size) ?_;rintro _ jY ⟨iO,iP,rfl,g7,B,D⟩
     have e:Own _ M.heap.size 30 1 encSd _ _ (L2):=t
     have bW:=D _ f.lt E;have bZ:=D _ o.lt G;have eV:=D _ aP.lt bS;clear D;have f:=f.appA B E;have o:=o.appA B G;have g:=g.appT e B rfl;have p:=p.appT e B rfl;have q:=q.appT e B rfl;have cV:=cV.appT e B rfl;have x:=(x.appT e B rfl).top;have z:=Below.app z e B (Qb _) z.size;clear e B
     have x:=DeepD.snoc (s:=(⟨H,I,(clB (nx n (letC i)))⟩ : Sd)) x.top q.rd.top
     refine Yo 16 rfl (fun _=>X0q rfl)<|Yo 17 rfl (fun _=>X0q rfl) ?_;refine Yd fun a J=>?_;exact ⟨iM,iN,iO,iP,J.sub ⟨(by first|rfl|(simp [look,Q,U,W,a9])),(by first|rfl|(simp [look,Q,U,W,a9])),rfl,rfl,rfl,rfl,rfl,rfl,trivial⟩,cV,g7,bW,bZ,f,o,g,p,q,x,z⟩
    rintro a jZ ⟨bC,bD,b0,bE,J,aO,cO,aL,aQ,f,o,g,p,q,x,z⟩;refine Xk<|d7 _ _<|Zr J<|Ze (X02 rfl rfl (by omega) (by omega))<|Zm rfl ?_;refine Zn fun a J=>?_;refine Xn ?_;exact ⟨(i+1,N++([tx ((cw n)++([letC i]))]),L2++([(⟨H,I,(clB (nx n (letC i)))⟩ : Sd)])),⟨bC,bD,b0,bE,J.sb,(by omega),(by rw [dR.1,Xe3,← cJ,dR.2]),(by rw [List.map_append,aS,dR.1,Xf3,← fV];rfl),f,aO,cO,g,p,x,aL,z⟩,(by first|omega|(dsimp only;omega))⟩
   have a9:=aZ
   have g8:=b9.old (by have h9:=aZ;rw [Xfj aS dM fN] at h9;simp at h9;omega)
   refine Q7<|Xk<|d7 _ _<|Zr J ?_;refine Ze (X02 rfl rfl (by omega) (by omega))<|Zm rfl ?_;refine Zn fun a J=>?_;refine Xn ?_;exact ⟨(i+1,N,L2),⟨cG,cH,b6,b8,J.sb,(by omega),(by rw [g8,cJ]),(by rw [g8,aS]),f,C,t,g,p,x,E,z⟩,(by first|omega|(dsimp only;omega))⟩
  have W:=aI;have aI:=Q1 aI
  have cK:i=2:=by have h9:=aI;simp at h9;omega
  subst cK
  refine Q9<|Xm<|Xm<|X06 ?_;refine Xk<|fJ _ _<|Zr J<|Zm rfl<|Ze (X02 rfl rfl (by omega) (by omega))<|Za rfl ?_;refine Zn fun a J=>?_;refine Xn ?_;exact ⟨(n+1,N,L2),⟨cG,cH,b6,b8,J.sb,(by omega),cJ,aS,C,t,g,p,x,z⟩,(by first|omega|(dsimp only;omega))⟩
 have U:=aH;have aH:=Q1 aH
 have iQ:n=24:=by have h9:=aH;rw [hw,X47] at h9;by_cases e9:n<24;(have:=Xpf e9;omega);omega
 refine Q9<|Xm<|Xm<|X06 ?_;refine fF _ _<|Zs J fun _ g9=>?_;refine Zm rfl<|Zm rfl<|Za rfl<|Za rfl<|Zt g9 fun a J=>?_
 refine Q6 (X4 J (X0s J rfl rfl rfl) ?_)
 rw [iQ] at hw hL
 rw [hw]
 rw [hw] at aU
 exact ⟨cC,cD,cE,cF,L,rfl,aU,aW,hL,x.top,z⟩
theorem Xs7(E:World) : Ret Tryz.prog 82 [] E (fun v w=>∃ (A:Option Addr) (c:Nat),v=.slice A (wsN 24).length c∧Own w E.heap.size 9 1 encTx A c (wsN 24)∧Below E.heap.size E w):=by
 refine enter Tryz.func82 rfl 61 rfl rfl ?_;intro a n
 have y:=bz E
 refine Zs n fun _ dR=>?_;refine Za rfl<|Zx dR fun a n _ dS=>?_;refine Za rfl<|Zx dS fun a n _ dT=>?_;refine Za rfl<|Zx dT fun a n _ dU=>?_;refine Zf (X7 (k:=1) (vs:=[.string (tx [])]) (zs:=[.string (tx [])]) rfl X1g X4h rfl rfl) ?_;rintro _ w1 ⟨b8,rfl,dW,j,dX⟩;have cO:=Q0 y.size dW;have y:=btr y j;refine Za rfl<|ZX dU fun a n _ cP=>?_;refine Q8 ?_
 have f:DeepD w1 w1.heap.size []:=DeepD.nil _ _
 refine X04 (σ:=Nat×(List ByteArray)×(List Sd)×(List ByteArray)) (fun (s:Nat×(List ByteArray)×(List Sd)×(List ByteArray)) (a:Act) (w:World)=>match s with|(T,ws,L,vv)=>∃ aU b4 bF bG J aJ,Fr a 61 [(1,.slice aU ws.length b4),(2,.slice bF L.length bG),(3,.slice J vv.length aJ)]∧(T<49)∧(ctC T≤24)∧(ws=wsN (ctC T))∧(L.map Sd.l=lsN (ctC T))∧(vv=cdL T (1+2*ctC T))∧Own w E.heap.size 9 1 encTx aU b4 ws∧Own w E.heap.size 66 1 encSd bF bG L∧Own w E.heap.size 9 1 encTx J aJ vv∧DeepD w w.heap.size L∧Apart aU J∧Below E.heap.size E w) (fun (s:Nat×(List ByteArray)×(List Sd)×(List ByteArray))=>match s with|(T,ws,L,vv)=>50-T) (0,[],[],[tx []]) ?_ ?_
 ·exact ⟨none,0,none,0,some ⟨b8,0,none⟩,1,n.sb,(by omega),(by decide),rfl,rfl,rfl,(Own.nil _ _ _ _ _),(Own.nil _ _ _ _ _),(Own.of_blkL X1o dX cO rfl rfl (by decide)),f,(Apart.nl _),y⟩
 rintro ⟨T,ws,L,vv⟩ a w2 ⟨aU,b4,bF,bG,J,aJ,n,hT,dY,hw,hL,hv,bK,cQ,b,f,aW,y⟩;refine Q5 fun _ cR=>?_;refine Zs n fun _ cS=>?_;refine Zm rfl<|Ze (X22 rfl X1g)<|Ze (X19 rfl rfl)<|Zt cS fun a n=>?_
 refine Xi n rfl (fun G=>?_) (fun G=>?_)
 ·have aA:=G;have G:=Q2 G
  have b5:ctC T<24:=by have h9:=G;rw [hw,X47] at h9;omega
  have eS:=Xye hT b5;refine Q7<|cR _ _<|Q8<|Zs n fun _ cU=>?_;refine Za rfl<|ZX cU fun a n _ cV=>?_;refine Zs n fun _ cW=>?_;refine Zm rfl<|Ze (X22 rfl X1g)<|Zm rfl<|Zt cW fun a n=>?_;refine Q8<|X04 (σ:=Nat×(List ByteArray)×(List Sd)×(List ByteArray)) (fun (s:Nat×(List ByteArray)×(List Sd)×(List ByteArray)) (a:Act) (w:World)=>match s with|(q,H,L2,x2)=>∃ U aK aF aG W aL,Fr a 61 [(1,.slice U H.length aK),(2,.slice aF L2.length aG),(4,.slice W x2.length aL),(16,.slice J vv.length aJ),(17,vi (vv.length:Int)),(18,vi (q:Int))]∧(q≤1+2*ctC T-T)∧(H=wsN (ctC (T+q)))∧(L2.map Sd.l=lsN (ctC (T+q)))∧(x2=cdL (1+2*ctC T) (1+2*ctC (T+q)))∧(ctC (T+q)≤24)∧(ctC T≤ctC (T+q))∧Own w E.heap.size 9 1 encTx U aK H∧Own w E.heap.size 66 1 encSd aF aG L2∧Own w E.heap.size 9 1 encTx W aL x2∧Own w E.heap.size 9 1 encTx J aJ vv∧DeepD w w.heap.size L2∧Apart J U∧Apart J W∧Apart U W∧Below E.heap.size E w) (fun (s:Nat×(List ByteArray)×(List Sd)×(List ByteArray))=>match s with|(q,H,L2,x2)=>1+2*ctC T-T-q) (0,ws,L,[]) ?_ ?_
  ·exact ⟨aU,b4,bF,bG,none,0,n.sb,(Qf _),hw,hL,(by show []=cdL (1+2*ctC T) (1+2*ctC T);unfold cdL;rw [Nat.sub_self];rfl),dY,(Qb _),bK,cQ,(Own.nil _ _ _ _ _),b,f,aW.symm,(Apart.nr _),(Apart.nr _),y⟩
  rintro ⟨q,H,L2,x2⟩ a w3 ⟨U,aK,aF,aG,W,aL,n,hq,bH,aQ,b6,e8,eM,i,e,d,b,f,z,h,x,y⟩;refine Zs n fun _ cX=>?_;refine Ze (X19 rfl rfl)<|ZX cX fun a n _ d5=>?_
  refine Xi n rfl (fun I=>?_) (fun I=>?_)
  ·have aB:=I;have I:=Q2 I
   obtain ⟨eT,eO⟩:=Xr (l:=vv) (k:=q) (by omega)
   have eA:q<1+2*ctC T-T:=by have h9:=I;rw [hv,Xco] at h9;omega
   have a9:=Xpa (t:=(T+q)) (by omega)
   have d6:=Xm8 (t:=(T+q)) (by omega)
   have eP:H.length=ctC (T+q):=by rw [bH,X47]
   have eQ:=X84 aQ
   have eR:x2.length≤100:=by rw [b6,Xco];have:=a9.le;omega
   have eB:=a9.le;refine Q7<|d5 _ _<|Q5 fun _ bL=>?_;refine Q8<|Zs n fun _ d7=>?_;refine Zi (k:=q) (u:=tx (cdW (T+q))) (enc:=encTx) (l:=vv) trivial rfl rfl X1g Xfy X1o b.rd (by rw [hv];exact Xr3 (by omega)) rfl ?_;intro eU bQ;refine Ze (X0 rfl X71 bQ)<|Za rfl<|Zx d7 fun a n _ d8=>?_;refine Zm rfl<|Zf (Vc (Xsc _ (cdW (T+q)) a9.len) Xhi) ?_;rintro _ w4 ⟨d9,dA,rfl,dB,j⟩;have i:=i.below j;have e:=e.below j;have d:=d.below j;have b:=b.below j;have f:=(f.below j).top;have y:=btr y j;refine Zf (X0x (vs:=[.agg #[vi ((opM (wdG (cdW (T+q)))).rows),vi ((opM (wdG (cdW (T+q)))).cols),.slice d9 ((opM (wdG (cdW (T+q)))).cells).length dA]]) rfl X9b (by have hq:=Xgt w4 (opM (wdG (cdW (T+q)))) d9 dA dB.top (X8v a9.bl);rw [a9.bl,Qq,Option.isSome_some] at hq;exact hq)) ?_;rintro _ w5 ⟨aC,aD,rfl,g,j⟩;have g:=g.lower y.size;have i:=i.below j;have e:=e.below j;have d:=d.below j;have b:=b.below j;have f:=(f.below j).top;have y:=btr y j;refine Zm rfl<|Ze (X1 (vs:=[.agg #[.slice aC (clB (cdB (T+q))).length aD],.bool true]) rfl rfl)<|Ze (X1 (vs:=[.agg #[.slice aC (clB (cdB (T+q))).length aD],.bool true]) rfl rfl)<|Zf (X3 (zs:=[.slice none 0 0]) X23 rfl) ?_;rintro _ w6 ⟨b7,rfl,bM,j,m⟩;have bR:=Q0 y.size bM;have aH:=e.away bM;have i:=i.below j;have e:=e.below j;have d:=d.below j;have b:=b.below j;have g:=g.below j;have f:=(f.below j).top;have y:=btr y j;refine Zo (Vw [.slice aC (clB (cdB (T+q))).length aD] X1l m) ?_;rintro _ w7 ⟨ho,hb⟩
   have C:=m;have i:=i.onlyT ho C rfl;have e:=e.onlyA ho aH;have d:=d.onlyT ho C rfl;have b:=b.onlyT ho C rfl;have g:=g.onlyT ho C rfl;have f:=(f.onlyT ho C rfl).top;have y:=Below.only y ho bR;have m:=hb;refine Za rfl<|Zx d8 fun a n _ dC=>?_;refine Za rfl<|ZX dC fun a n _ dD=>?_;refine Zs n fun _ dE=>?_;refine Zm rfl<|Ze (X22 rfl X9t)<|Zm rfl<|Zt dE fun a n=>?_;refine Q8<|X04 (σ:=Nat×Bool) (fun (s:Nat×Bool) (a:Act) (w:World)=>match s with|(p,kn)=>Fr a 61 [(1,.slice U H.length aK),(2,.slice aF L2.length aG),(4,.slice W x2.length aL),(6,.string (tx (cdW (T+q)))),(7,.pointer (some ⟨b7,0,none⟩)),(9,.bool kn),(16,.slice J vv.length aJ),(17,vi (vv.length:Int)),(18,vi (q:Int)),(28,.slice aF L2.length aG),(29,vi (L2.length:Int)),(30,vi (p:Int))]∧(p≤L2.length)∧(kn=(L2.take p).any (fun s=>decide (s.l=clB (cdB (T+q)))))∧Blk w b7 66 [.slice aC (clB (cdB (T+q))).length aD]∧Own w E.heap.size 9 1 encTx U aK H∧Own w E.heap.size 66 1 encSd aF aG L2∧Own w E.heap.size 9 1 encTx W aL x2∧Own w E.heap.size 9 1 encTx J aJ vv∧Own w E.heap.size 86 5 encD aC aD (clB (cdB (T+q)))∧DeepD w w.heap.size L2∧Apart J U∧Apart J W∧Apart U W∧Below E.heap.size E w) (fun (s:Nat×Bool)=>match s with|(p,kn)=>L2.length-p) (0,false) ?_ ?_
   ·exact ⟨n.sb,(Qf _),rfl,m,i,e,d,b,g,f,z,h,x,y⟩
   rintro ⟨p,kn⟩ a w8 ⟨n,hp,dF,m,i,e,d,b,g,f,z,h,x,y⟩;refine Zs n fun _ dG=>?_;refine Ze (X19 rfl rfl)<|ZX dG fun a n _ dH=>?_
   refine Xi n rfl (fun Q=>?_) (fun Q=>?_)
   ·have aE:=Q;have Q:=Q2 Q
    obtain ⟨M,aM⟩:=Xr (l:=L2) (k:=p) (by omega)
    have eV:p<ctC (T+q):=by have h9:=Q;omega
    refine Q7<|dH _ _<|Q5 fun _ dI=>?_;refine Q8<|Zs n fun _ dJ=>?_;refine Zi (k:=p) (u:=M) (enc:=encSd) (l:=L2) trivial rfl rfl X9t X1l X1x e.rd aM rfl ?_;intro eW bS;have aN:=(f M (Qe aM)).top;refine Ze (Xz (l:=[.slice M.A M.l.length M.c]) rfl X16 bS rfl)<|Zf (X3 (zs:=[.slice none 0 0]) X23 rfl) ?_;rintro _ w9 ⟨b50,rfl,bN,j,aR⟩
    have cB:b7≠b50:=by have:=m.lt;omega
    have bU:=Q0 y.size bN;have aX:=e.away bN;have m:=m.below j;have i:=i.below j;have e:=e.below j;have d:=d.below j;have b:=b.below j;have g:=g.below j;have aN:=aN.below j;have f:=(f.below j).top;have y:=btr y j;refine Zo (Vw [.slice M.A M.l.length M.c] X1l aR) ?_;rintro _ w10 ⟨ho,hb⟩;have C:=aR;have m:=m.only ho (by omega);have i:=i.onlyT ho C rfl;have e:=e.onlyA ho aX;have d:=d.onlyT ho C rfl;have b:=b.onlyT ho C rfl;have g:=g.onlyT ho C rfl;have aN:=aN.onlyT ho C rfl;have f:=(f.onlyT ho C rfl).top;have y:=Below.only y ho bU;have aR:=hb;refine Zt dJ fun a n=>?_;refine X09 (fun a w=>Fr a 61 [(1,.slice U H.length aK),(2,.slice aF L2.length aG),(4,.slice W x2.length aL),(6,.string (tx (cdW (T+q)))),(7,.pointer (some ⟨b7,0,none⟩)),(9,.bool (kn||(decide (M.l=(clB (cdB (T+q))))))),(16,.slice J vv.length aJ),(17,vi (vv.length:Int)),(18,vi (q:Int)),(28,.slice aF L2.length aG),(29,vi (L2.length:Int)),(30,vi (p:Int))]∧Below w10.heap.size w10 w) ?_ ?_
    ·have bI:Below w10.heap.size w10 w10:=Below.refl _ _
     refine Zr n<|Zm rfl<|Zm rfl ?_
     refine Zg 35 rfl (fun B=>?_) (fun B=>?_)
     ·refine Zp (gP B) ?_;refine Zp (gP B) ?_;refine Zp (gP B) ?_;refine Ze (Xh rfl B rfl)<|Za rfl ?_;refine Zn fun a n=>?_
      have bW:Below w10.heap.size w10 w10:=bI
      exact ⟨n.sub ⟨rfl,rfl,rfl,rfl,rfl,X2 rfl (by first|rfl|(simp only [aA,aB,aE,B,bs];done)|simp [aA,aB,aE,B]),rfl,rfl,rfl,rfl,rfl,rfl,trivial⟩,bW⟩
     refine Zv (gW B) (Vn X16 aR) ?_;refine Zv (gW B) (Vn X16 m) ?_;refine Zk (gW B) (Vc (Xrc _ M.A M.c M.l aN.top aC aD (clB (cdB (T+q))) g.rd.top (by rw [Xgs aQ aM,X43 (by omega),X43 a9.lt]) (by rw [Xgs aQ aM,X43 (by omega)];decide)) Xgu) ?_;rintro _ w11 ⟨rfl,j⟩;have f:=(f.below j).top;have y:=btr y j;have bI:=btr bI j;refine Ze (Xd rfl B rfl)<|Za rfl ?_;refine Zn fun a n=>?_
     have bW:Below w10.heap.size w10 w11:=bI
     exact ⟨n.sub ⟨rfl,rfl,rfl,rfl,rfl,X2 rfl (by first|rfl|(simp only [aA,aB,aE,B,bs];done)|simp [aA,aB,aE,B]),rfl,rfl,rfl,rfl,rfl,rfl,trivial⟩,bW⟩
    rintro a eX ⟨n,j⟩;have m:=m.below j;have i:=i.below j;have e:=e.below j;have d:=d.below j;have b:=b.below j;have g:=g.below j;have f:=(f.below j).top;have y:=btr y j;refine Xk<|dI _ _<|Zr n<|Ze (X02 rfl rfl (by omega) (by omega))<|Zm rfl ?_;refine Zn fun a n=>?_;refine Xn ?_;exact ⟨(p+1,kn||(decide (M.l=(clB (cdB (T+q)))))),⟨n.sb,(by omega),(by rw [dF,Xvy aM]),m,i,e,d,b,g,f,z,h,x,y⟩,(by first|omega|(dsimp only;omega))⟩
   have aE:=Q;have Q:=Q1 Q
   have bO:kn=decide (cdB (T+q)<ctC (T+q)):=by rw [dF,Qi (by omega),Xfj aQ eB a9.lt]
   refine Q9<|Xm<|Xm<|X06 ?_;refine dD _ _<|Zs n fun _ dK=>?_;refine Zm rfl<|Ze (X0p rfl)<|Zt dK fun a n=>?_
   refine Xi n rfl (fun aO=>?_) (fun aO=>?_)
   ·have bZ:=aO
    have dL:cdB (T+q)=ctC (T+q):=by have h9:=aO;rw [bO] at h9;have:=a9.nx;simp at h9;omega
    have b9:=a9.new dL;refine Zs n fun _ dM=>?_;refine Zm rfl<|Zm rfl<|Zf (X7 (k:=1) (vs:=[.string (tx (cdW (T+q)))]) (zs:=[.string (tx (cdW (T+q)))]) rfl X1g X4h rfl rfl) ?_;rintro _ eY ⟨eZ,rfl,aS,j,bC⟩;have eC:=Q0 y.size aS;have aY:=i.away aS;have cC:=d.away aS;have cD:=b.away aS;have m:=m.below j;have i:=i.below j;have e:=e.below j;have d:=d.below j;have b:=b.below j;have g:=g.below j;have f:=(f.below j).top;have y:=btr y j;refine Zf (X0k (enc:=encTx) (l:=(H)) (l2:=([tx (cdW (T+q))])) (B0:=E.heap.size) rfl rfl X1g X4h X1o X3d i (Rd.of_blk bC rfl _ bC.lt) (by simp only [maxLen];simp;omega) (by simp;omega) y.size) ?_;rintro _ f7 ⟨eD,eE,rfl,D,hg,N⟩
    have o:Own _ E.heap.size 9 1 encTx _ _ (H):=i
    have cE:=N _ bC.lt aY;have aZ:=Apart.app b z N;have aI:=Apart.app d x.symm N;clear N;have m:=m.appT o hg rfl;have e:=e.appT o hg rfl;have d:=d.appP hg x.symm;have b:=b.appP hg z;have g:=g.appT o hg rfl;have f:=(f.appT o hg rfl).top;have y:=Below.app y o hg (Qb _) y.size;clear o hg;refine Za rfl<|Zx dM fun a n _ dN=>?_;refine Zm rfl<|Ze (Vn X16 m)<|Zf (X7 (k:=1) (vs:=[.agg #[.slice aC (clB (cdB (T+q))).length aD]]) (zs:=[.slice aC (clB (cdB (T+q))).length aD]) rfl X9t Xen rfl rfl) ?_;rintro _ f8 ⟨b59,rfl,bP,j,bD⟩
    have cF:b7≠b59:=by have:=m.lt;omega
    have eF:=Q0 y.size bP;have b0:=e.away bP;have m:=m.below j;have e:=e.below j;have d:=d.below j;have b:=b.below j;have g:=g.below j;have D:=D.below j;have f:=(f.below j).top;have y:=btr y j;refine Zf (X0k (enc:=encSd) (l:=(L2)) (l2:=([(⟨aC,aD,(clB (cdB (T+q)))⟩ : Sd)])) (B0:=E.heap.size) rfl rfl X9t Xen X1x X3m e (Rd.of_blk bD rfl _ bD.lt) (by simp only [maxLen];simp;omega) (by simp;omega) y.size) ?_;rintro _ f9 ⟨eH,eI,rfl,aP,hg,N⟩
    have o:Own _ E.heap.size 66 1 encSd _ _ (L2):=e
    have cG:=N _ m.lt aH;have cH:=N _ bD.lt b0;clear N;have d:=d.appT o hg rfl;have b:=b.appT o hg rfl;have g:=g.appT o hg rfl;have D:=D.appT o hg rfl;have f:=(f.appT o hg rfl).top;have y:=Below.app y o hg (Qb _) y.size;clear o hg
    have f:=DeepD.snoc (s:=(⟨aC,aD,(clB (cdB (T+q)))⟩ : Sd)) f.top g.rd.top
    refine Za rfl<|Zt dN fun a n=>?_;refine Zr n<|Zm rfl<|Zm rfl<|Ze (Xf6 (s:=(cdW (T+q))) (r:=[72]) rfl rfl (by have:=a9.len;simp;omega))<|Zm rfl<|Ze (Xf6 (s:=(cdW (T+q))) (r:=[83]) rfl rfl (by have:=a9.len;simp;omega))<|Zf (X7 (k:=2) (vs:=[.string (tx ((cdW (T+q))++[72])),.string (tx ((cdW (T+q))++[83]))]) (zs:=[.string (tx ((cdW (T+q))++[72])),.string (tx ((cdW (T+q))++[83]))]) rfl X1g X4h rfl rfl) ?_;rintro _ fA ⟨fB,rfl,aT,j,bE⟩;have eJ:=Q0 y.size aT;have b1:=d.away aT;have cJ:=b.away aT;have cK:=D.away aT;have d:=d.below j;have b:=b.below j;have D:=D.below j;have aP:=aP.below j;have f:=(f.below j).top;have y:=btr y j;refine Zf (X0k (enc:=encTx) (l:=(x2)) (l2:=([tx ((cdW (T+q))++[72]),tx ((cdW (T+q))++[83])])) (B0:=E.heap.size) rfl rfl X1g X4h X1o X3d d (Rd.of_blk bE rfl _ bE.lt) (by simp only [maxLen];simp;omega) (by simp;omega) y.size) ?_;rintro _ fC ⟨eK,eL,rfl,dP,hg,N⟩
    have o:Own _ E.heap.size 9 1 encTx _ _ (x2):=d
    have cM:=N _ bE.lt b1;have b2:=Apart.app b h N;have b3:=Apart.app D aI.symm N;clear N;have b:=b.appP hg h;have D:=D.appP hg aI.symm;have aP:=aP.appT o hg rfl;have f:=(f.appT o hg rfl).top;have y:=Below.app y o hg (Qb _) y.size;clear o hg;refine Za rfl ?_;refine Zn fun a n=>?_;refine Xk<|bL _ _<|Zr n<|Ze (X02 rfl rfl (by omega) (by omega))<|Zm rfl ?_;refine Zn fun a n=>?_;refine Xn ?_;exact ⟨(q+1,H++([tx (cdW (T+q))]),L2++([(⟨aC,aD,(clB (cdB (T+q)))⟩ : Sd)]),x2++([tx ((cdW (T+q))++[72]),tx ((cdW (T+q))++[83])])),⟨eD,eE,eH,eI,eK,eL,n.sb,(by omega),(by show _=wsN (ctC (T+q+1));rw [b9.1,Xe3,← bH,b9.2]),(by show _=lsN (ctC (T+q+1));rw [List.map_append,aQ,b9.1,Xf3,← dL];rfl),(by show _=cdL _ (1+2*ctC (T+q+1));rw [b9.1,b6];exact Xq5 (by omega) b9.2),(Xpa (t:=T+q+1) (by omega)).le,(by have h9:ctC (T+q)≤ctC (T+q+1):=d6;show ctC T≤ctC (T+q+1);omega),D,aP,dP,b,f,aZ,b2,b3,y⟩,(by first|omega|(dsimp only;omega))⟩
   have bZ:=aO
   have cA:=a9.old (by have h9:=aO;rw [bO] at h9;simp at h9;omega)
   refine Q7<|Xk<|bL _ _<|Zr n ?_;refine Ze (X02 rfl rfl (by omega) (by omega))<|Zm rfl ?_;refine Zn fun a n=>?_;refine Xn ?_;exact ⟨(q+1,H,L2,x2),⟨U,aK,aF,aG,W,aL,n.sb,(by omega),(by show _=wsN (ctC (T+q+1));rw [cA,bH]),(by show _=lsN (ctC (T+q+1));rw [cA,aQ]),(by show _=cdL _ (1+2*ctC (T+q+1));rw [cA,b6]),(Xpa (t:=T+q+1) (by omega)).le,(by have h9:ctC (T+q)≤ctC (T+q+1):=d6;show ctC T≤ctC (T+q+1);omega),i,e,d,b,f,z,h,x,y⟩,(by first|omega|(dsimp only;omega))⟩
  have aB:=I;have I:=Q1 I
  have eA:q=1+2*ctC T-T:=by have h9:=I;rw [hv,Xco] at h9;omega
  have bJ:(T+q)=1+2*ctC T:=by omega
  refine Q9<|Xm<|Xm<|X06 ?_;refine cV _ _<|Zr n<|Zm rfl<|Za rfl ?_;refine Zn fun a n=>?_;refine Xk<|Xn ?_;exact ⟨(1+2*ctC T,H,L2,x2),⟨U,aK,aF,aG,W,aL,n.sb,(by omega),(by rw [← bJ];exact e8),(by rw [← bJ];exact bH),(by rw [← bJ];exact aQ),(by rw [← bJ] at b6 ⊢;exact b6),i,e,d,f,x,y⟩,(by first|omega|(dsimp only;omega))⟩
 have aA:=G;have G:=Q1 G
 have b5:ctC T=24:=by have h9:=G;rw [hw,X47] at h9;omega
 refine Q9<|Xm<|Xm<|X06 ?_;refine cP _ _<|Zs n fun _ dQ=>?_;refine Zm rfl<|Za rfl<|Zt dQ fun a n=>?_
 refine Q6 (X4 n (Xp n rfl rfl) ?_)
 rw [b5] at hw
 subst hw
 exact ⟨aU,b4,rfl,bK,y⟩
theorem Xwu(w0:World)(k:Nat)(aA:k<24)(aE:HalfT w0) : Ret Tryz.prog 143 [vi (k:Int)] w0 (fun v w=>v=.tuple #[.string (tx (cw k)),.bool true]∧Below w0.heap.size w0 w):=by
 have aK:(wsN 24).length=24:=X47 24
 refine enter Tryz.func143 rfl 20 rfl rfl ?_;intro a b
 have hW:=bz w0
 refine Zs b fun _ aF=>?_;refine Za rfl<|Za rfl<|Zx aF fun a b _ aG=>?_;refine Zf (Vc (Xrp _ (aE.of hW)) Xid) ?_;rintro _ w1 ⟨A3,c3,A4,c4,L9,rfl,a9,aB,aL,aM,hE⟩;have a9:=a9.lower hW.size;have aB:=aB.lower hW.size;have hW:=btr hW hE;refine Zm rfl<|Ze (X1 (vs:=[.slice A3 (wsN 24).length c3,.slice A4 L9.length c4]) rfl rfl)<|Ze (X1 (vs:=[.slice A3 (wsN 24).length c3,.slice A4 L9.length c4]) rfl rfl)<|Za rfl<|Za rfl<|ZX aG fun a b _ aH=>?_;refine Zs b fun _ aI=>?_;refine Zm rfl<|Zm rfl<|Ze (X22 rfl X1g)<|Ze (X1j rfl rfl (by omega) (by omega))<|Zf (Vc (F91 _ (k:Int) 0 (((wsN 24).length:Int)-1)) X4e) ?_;rintro _ _ ⟨rfl,rfl⟩;refine Ze (X0p rfl)<|Zt aI fun a b=>?_
 refine Xi b rfl (fun c=>?_) (fun c=>?_)
 ·have aC:=c
  have h9:=c;rw [X0a.2 ⟨by omega,by omega⟩] at h9;simp at h9
 have aC:=c;refine Q7<|aH _ _<|Zs b fun _ aJ=>?_;refine Zm rfl<|Zm rfl<|Zi (k:=k) (u:=tx (cw k)) (enc:=encTx) (l:=(wsN 24)) trivial rfl rfl X1g Xfy X1o a9.rd (X9l aA) rfl ?_;intro aN aD;refine Ze (X0 rfl X71 aD)<|Za rfl<|Za rfl<|Zt aJ fun a b=>?_
 refine Q6 (X4 b (X0s b rfl rfl rfl) ?_)
 exact ⟨rfl,hW⟩
theorem Xz8(m:World)(k:Nat)(z:k<24)(aP:HalfT m) : Ret Tryz.prog 90 [vi (k:Int)] m (fun v w=>∃ A c,v=.slice A (wdG (cw k)).length c∧Own w m.heap.size 90 3 encG A c (wdG (cw k))∧Below m.heap.size m w):=by
 have b5:=(X67 z).2;refine enter Tryz.func90 rfl 30 rfl rfl ?_;intro a b
 have e:=bz m
 refine Zs b fun _ aQ=>?_;refine Za rfl<|Zx aQ fun a b _ aR=>?_;refine Zf (X7 (k:=0) (vs:=[]) (zs:=[]) rfl X17 X0y rfl rfl) ?_;rintro _ w1 ⟨b4,rfl,aS,x,a9⟩;have aG:=Q0 e.size aS;have e:=btr e x;refine Za rfl<|Zx aR fun a b _ aT=>?_;refine Zm rfl<|Zf (Vc (Xwu _ k z (aP.of e)) Xqh) ?_;rintro _ w2 ⟨rfl,x⟩;have a9:=a9.below x;have e:=btr e x;refine Zm rfl<|Ze (X1 (vs:=[.string (tx (cw k)),.bool true]) rfl rfl)<|Ze (X1 (vs:=[.string (tx (cw k)),.bool true]) rfl rfl)<|Za rfl<|Za rfl<|ZX aT fun a b _ aU=>?_;refine Zs b fun _ aW=>?_;refine Za rfl<|Zt aW fun a b=>?_;refine Q8<|X04 (σ:=Nat×(List Gt)) (fun (s:Nat×(List Gt)) (a:Act) (w:World)=>match s with|(j,gs)=>∃ A9 c9,Fr a 30 [(3,.slice A9 gs.length c9),(4,.string (tx (cw k))),(6,vi (j:Int))]∧(j≤(cw k).length)∧(gs=wdG ((cw k).take j))∧Own w m.heap.size 90 3 encG A9 c9 gs∧Below m.heap.size m w) (fun (s:Nat×(List Gt))=>match s with|(j,gs)=>(cw k).length-j) (0,[]) ?_ ?_
 ·exact ⟨some ⟨b4,0,none⟩,0,b.sb,(Qf _),rfl,(Own.empty a9 aG),e⟩
 rintro ⟨j,gs⟩ a w3 ⟨A9,c9,b,hj,y,f,e⟩
 have b6:gs.length≤9:=by rw [y];simp [wdG];omega
 refine Q5 fun _ aH=>?_;refine Zs b fun _ aI=>?_;refine Zm rfl<|Zm rfl<|Ze (X8z (s:=(cw k)) rfl Tryz.underlying9)<|Ze (X19 rfl rfl)<|Zt aI fun a b=>?_
 refine Xi b rfl (fun d=>?_) (fun d=>?_)
 ·have aA:=d;have d:=Q2 d
  obtain ⟨b7,b3⟩:=Xr (l:=(cw k)) (k:=j) (by omega)
  obtain ⟨u7,aB⟩:=Xr (l:=cw k) (k:=j) (by have:=d;omega)
  refine Q7<|aH _ _<|Q5 fun _ h=>?_;refine Q8<|Zs b fun _ aJ=>?_;refine Za rfl<|ZX aJ fun a b _ B=>?_;refine Zs b fun _ aK=>?_;refine Zm rfl<|Zm rfl<|Ze (X90 (s:=(cw k)) (k:=j) (u:=u7) rfl rfl Tryz.underlying9 rfl aB)<|Ze (Xaf rfl rfl)<|Zt aK fun a b=>?_
  refine Xi b rfl (fun g=>?_) (fun g=>?_)
  ·have aC:=g;have aD:=Xgf g;refine Zr b<|Za rfl<|Zt B fun a b=>?_;refine Zr b<|Zm rfl<|Zm rfl<|Ze (Xf (ps:=[(0,vi 5)]) (cs:=[vi 5,vi 0,vi 0]) rfl (fun _=>by first|rfl|kernel_rfl))<|Zf (X7 (k:=1) (vs:=[.agg #[vi 5,vi 0,vi 0]]) (zs:=[vi 5,vi 0,vi 0]) rfl X17 X0y rfl rfl) ?_;rintro _ w4 ⟨b8,rfl,C,x,n⟩;have aX:=Q0 e.size C;have o:=f.away C;have f:=f.below x;have e:=btr e x;refine Zf (X0k (enc:=encG) (l:=(gs)) (l2:=([(⟨5,0,0⟩ : Gt)])) (B0:=m.heap.size) rfl rfl X17 X0y X10 X20 f (Rd.of_blk n rfl _ n.lt) (by simp only [maxLen];simp;omega) (by simp;omega) e.size) ?_;rintro _ w5 ⟨aY,aZ,rfl,aL,y,p⟩
   have i:Own _ m.heap.size 90 3 encG _ _ (gs):=f
   have aE:=p _ n.lt o;clear p;have e:=Below.app e i y (Qb _) e.size;clear i y;refine Za rfl ?_;refine Zn fun a b=>?_;refine Xk<|h _ _<|Zr b<|Zm rfl<|Ze (X02 rfl rfl (by omega) (by omega))<|Za rfl ?_;refine Zn fun a b=>?_;refine Xn ?_;exact ⟨(j+1,gs++([(⟨5,0,0⟩ : Gt)])),⟨aY,aZ,b.sb,(by omega),(by rw [y,X6x aB,aD]),aL,e⟩,(by first|omega|(dsimp only;omega))⟩
  have aC:=g;have aD:=Xgl g;refine Q7<|B _ _<|Zr b<|Zm rfl<|Zm rfl<|Ze (Xf (ps:=[(0,vi 1)]) (cs:=[vi 1,vi 0,vi 0]) rfl (fun _=>by first|rfl|kernel_rfl))<|Zf (X7 (k:=1) (vs:=[.agg #[vi 1,vi 0,vi 0]]) (zs:=[vi 1,vi 0,vi 0]) rfl X17 X0y rfl rfl) ?_;rintro _ w6 ⟨b9,rfl,D,x,q⟩;have b0:=Q0 e.size D;have t:=f.away D;have f:=f.below x;have e:=btr e x;refine Zf (X0k (enc:=encG) (l:=(gs)) (l2:=([(⟨1,0,0⟩ : Gt)])) (B0:=m.heap.size) rfl rfl X17 X0y X10 X20 f (Rd.of_blk q rfl _ q.lt) (by simp only [maxLen];simp;omega) (by simp;omega) e.size) ?_;rintro _ w7 ⟨b1,b2,rfl,aM,y,p⟩
  have i:Own _ m.heap.size 90 3 encG _ _ (gs):=f
  have aF:=p _ q.lt t;clear p;have e:=Below.app e i y (Qb _) e.size;clear i y;refine Za rfl ?_;refine Zn fun a b=>?_;refine Xk<|h _ _<|Zr b<|Zm rfl<|Ze (X02 rfl rfl (by omega) (by omega))<|Za rfl ?_;refine Zn fun a b=>?_;refine Xn ?_;exact ⟨(j+1,gs++([(⟨1,0,0⟩ : Gt)])),⟨b1,b2,b.sb,(by omega),(by rw [y,X6x aB,aD]),aM,e⟩,(by first|omega|(dsimp only;omega))⟩
 have aA:=d;have d:=Q1 d
 have aN:gs=wdG (cw k):=by rw [y,Qi (by omega)]
 refine Q9<|Xm<|Xm<|X06 ?_;refine aU _ _<|Zs b fun _ aO=>?_;refine Zm rfl<|Za rfl<|Zt aO fun a b=>?_
 refine Q6 (X4 b (Xp b rfl rfl) ?_)
 subst aN
 exact ⟨A9,c9,rfl,f,e⟩
theorem Xsq(g:World)(tb:List UInt8)(sl:List Nat)(k p:Nat)(m:k<24)(aB:tb=sl.map sylT)(aH:∀ s ∈ sl,s<3)(aX:sl.length≤40)(aI:HalfT g) : Ret Tryz.prog 47 [.agg #[.string (tx tb),vi (k:Int),vi (p:Int)]] g (fun v w=>∃ A c,v=.slice A (fmG k sl).length c∧Own w g.heap.size 90 3 encG A c (fmG k sl)∧Below g.heap.size g w):=by
 have aZ:=(X67 m).2
 have b0:tb.length=sl.length:=by rw [aB,Qo]
 refine enter Tryz.func47 rfl 24 rfl rfl ?_;intro a e
 have f:=bz g
 refine Zs e fun _ aJ=>?_;refine Zf (X0b (zs:=[.string (tx tb),vi (k:Int),vi (p:Int)]) rfl rfl) ?_;rintro _ w1 ⟨b2,rfl,aK,t,d⟩;have aY:=Q0 f.size aK;have f:=btr f t;refine Za rfl<|Zx aJ fun a e _ aL=>?_;refine Ze (Vd rfl X54 1)<|Ze (X0 rfl X9 (d.at 1))<|Zf (Vc (Xz8 _ k m (aI.of f)) Xo8) ?_;rintro _ w2 ⟨A5,c5,rfl,a9,t⟩;have a9:=a9.lower f.size;have d:=d.below t;have f:=btr f t;refine Za rfl<|ZX aL fun a e _ aM=>?_;refine Zs e fun _ aN=>?_;refine Ze (Vd rfl X27 0)<|Ze (X0 rfl X71 (d.at 0))<|Ze (X8z (s:=tb) rfl Tryz.underlying9)<|Ze (X1j rfl rfl (by omega) (by omega))<|Za rfl<|Zt aN fun a e=>?_;refine Q8<|X04 (σ:=Nat×Int×(List Gt)) (fun (s:Nat×Int×(List Gt)) (a:Act) (w:World)=>match s with|(j,i,gs)=>∃ A8 c8,Fr a 24 [(1,.pointer (some ⟨b2,0,none⟩)),(3,.slice A8 gs.length c8),(4,vi i)]∧(j≤sl.length)∧(i=(sl.length:Int)-1-(j:Int))∧(gs=fmG k (sl.drop (sl.length-j)))∧Blk w b2 27 [.string (tx tb),vi (k:Int),vi (p:Int)]∧Own w g.heap.size 90 3 encG A8 c8 gs∧Below g.heap.size g w) (fun (s:Nat×Int×(List Gt))=>match s with|(j,i,gs)=>sl.length-j) (0,((tb.length:Int)-1),(wdG (cw k))) ?_ ?_
 ·exact ⟨A5,c5,e.sb,(Qf _),(by omega),(by rw [Nat.sub_zero,List.drop_length,Xhg]),d,a9,f⟩
 rintro ⟨j,i,gs⟩ a w3 ⟨A8,c8,e,hj,hi,hg,d,n,f⟩
 have b1:gs.length≤126:=by rw [hg];exact Xa2 m (by rw [List.length_drop];omega)
 refine Q5 fun _ aO=>?_;refine Zs e fun _ aC=>?_;refine Zm rfl<|Ze (Xjc rfl rfl)<|Zt aC fun a e=>?_
 refine Xi e rfl (fun b=>?_) (fun b=>?_)
 ·have aA:=b;have b:=Q2 b
  obtain ⟨s,aP,aQ,aR⟩:=Xmn (sl:=sl) (j:=j) (by have:=b;omega)
  have aS:=Xlg aB aP;have b3:=X5m s;refine Q7<|aO _ _<|Q5 fun _ aD=>?_;refine Q8<|Zr e<|Zm rfl<|Ze (Vd rfl X27 0)<|Ze (X0 rfl X71 (d.at 0))<|Zm rfl<|Ze (X90 (s:=tb) (k:=(sl.length-1-j)) (u:=(sylT s)) rfl rfl Tryz.underlying9 (by omega) aS)<|Zf (Vc (Xst _ (sylT s) s (aH s aQ) rfl) Xhb) ?_;rintro _ w4 ⟨b4,b5,rfl,o,t⟩;have o:=o.lower f.size;have d:=d.below t;have n:=n.below t;have f:=btr f t;refine Zf (X0k (enc:=encG) (l:=(gs)) (l2:=((sylG s))) (B0:=g.heap.size) rfl rfl X17 X0y X10 X20 n o.rd (by simp only [maxLen];omega) (by omega) f.size) ?_;rintro _ w5 ⟨aT,aU,rfl,aE,hg,aW⟩
  have q:Own _ g.heap.size 90 3 encG _ _ (gs):=n
  clear aW;have d:=d.appT q hg rfl;have f:=Below.app f q hg (Qb _) f.size;clear q hg;refine Za rfl ?_;refine Zn fun a e=>?_;refine Xk<|aD _ _<|Zr e<|Zm rfl<|Ze (X1j rfl rfl (by omega) (by omega))<|Za rfl ?_;refine Zn fun a e=>?_;refine Xn ?_;exact ⟨(j+1,(i-1),gs++(sylG s)),⟨aT,aU,e.sb,(by omega),(by omega),(by rw [hg,aR,Xet]),d,aE,f⟩,(by first|omega|(dsimp only;omega))⟩
 have aA:=b;have b:=Q1 b
 have aF:gs=fmG k sl:=by rw [hg,show sl.length-j=0 from by have:=b;omega,List.drop_zero]
 refine Q9<|Xm<|Xm<|X06 ?_;refine aM _ _<|Zs e fun _ aG=>?_;refine Zm rfl<|Za rfl<|Zt aG fun a e=>?_
 refine Q6 (X4 e (Xp e rfl rfl) ?_)
 subst aF
 exact ⟨A8,c8,rfl,n,f⟩
theorem Xrw(w0:World)(tb:List UInt8)(sl:List Nat)(k p:Nat)(y:k<24)(aI:tb=sl.map sylT)(aJ:∀ s ∈ sl,s<3)(z:sl.length≤40)(aK:p<8)(hF:FrmOk tb)(aL:HalfT w0) : Ret Tryz.prog 21 [.agg #[.string (tx tb),vi (k:Int),vi (p:Int)]] w0 (fun v w=>∃ A c,v=.tuple #[mV A c ⟨(opM (fmG k sl)).rows,(opM (fmG k sl)).cols,((opM (fmG k sl)).cells.map (dTurn (p:Int)))⟩,.bool true]∧Own w w0.heap.size 86 5 encD A c ((opM (fmG k sl)).cells.map (dTurn (p:Int)))∧Below w0.heap.size w0 w):=by
 obtain ⟨aB,_,_⟩:=Xi5 y z;have aM:=Xks aB;have aU:=Xa2 y z;refine enter Tryz.func21 rfl 27 rfl rfl ?_;intro a q
 have i:=bz w0
 refine Zs q fun _ aN=>?_;refine Zf (X0b (zs:=[.string (tx tb),vi (k:Int),vi (p:Int)]) rfl rfl) ?_;rintro _ w1 ⟨b2,rfl,aO,f,g⟩;have aT:=Q0 i.size aO;have i:=btr i f;refine Zf (X3 (zs:=[vi 0,vi 0,.slice none 0 0]) X0n rfl) ?_;rintro _ w2 ⟨b4,rfl,aP,f,e⟩;have aC:=Q0 i.size aP;have g:=g.below f;have i:=btr i f;refine Za rfl<|ZX aN fun a q _ aQ=>?_;refine Zs q fun _ aR=>?_;refine Ze (Vn X1q g)<|Zf (Vc (Xij _ tb (k:Int) (p:Int) hF ⟨by omega,by omega⟩ ⟨by omega,by omega⟩) X9o) ?_;rintro _ w3 ⟨rfl,f⟩;have g:=g.below f;have e:=e.below f;have i:=btr i f;refine Ze (X0p rfl)<|Zt aR fun a q=>?_;refine X4p q rfl ?_;refine Q7<|aQ _ _<|Zs q fun _ aS=>?_;refine Ze (Vn X1q g)<|Zf (Vc (Xsq _ tb sl k p  y aI aJ z (aL.of i)) Xhx) ?_;rintro _ w4 ⟨A8,c8,rfl,a9,f⟩;have a9:=a9.lower i.size;have g:=g.below f;have e:=e.below f;have i:=btr i f;refine Ze (Xf (ps:=[(0,vi 1),(1,.slice A8 (fmG k sl).length c8)]) (cs:=[vi 1,.slice A8 (fmG k sl).length c8]) rfl (fun _=>by first|rfl|kernel_rfl))<|Zf (X0x (vs:=[.agg #[vi 1,.slice A8 (fmG k sl).length c8]]) rfl Xjz (by have hq:=F97 w4 (⟨1,(fmG k sl)⟩ : Cx) A8 c8 a9.rd.top (by show (fmG k sl).length≤_;omega);rw [aB,Qq,Option.isSome_some] at hq;exact hq)) ?_;rintro _ w5 ⟨B,C,rfl,m,f⟩;have g:=g.below f;have e:=e.below f;have i:=btr i f;refine Zm rfl<|Ze (X1 (vs:=[.agg #[vi ((opM (fmG k sl)).rows),vi ((opM (fmG k sl)).cols),.slice B ((opM (fmG k sl)).cells).length C],.bool true]) rfl rfl)<|Ze (X1 (vs:=[.agg #[vi ((opM (fmG k sl)).rows),vi ((opM (fmG k sl)).cols),.slice B ((opM (fmG k sl)).cells).length C],.bool true]) rfl rfl)<|Zf (X3 (zs:=[vi 0,vi 0,.slice none 0 0]) X0n rfl) ?_;rintro _ w6 ⟨b12,rfl,aD,f,n⟩
 have aE:b4≠b12:=by have:=e.lt;omega
 have aA:=Q0 i.size aD;have g:=g.below f;have e:=e.below f;have m:=m.below f;have i:=btr i f;refine Zo (Vw [vi ((opM (fmG k sl)).rows),vi ((opM (fmG k sl)).cols),.slice B ((opM (fmG k sl)).cells).length C] Xt n) ?_;rintro _ w7 ⟨ho,hb⟩;have t:=n;have g:=g.only ho (Blk.ne g t rfl);have e:=e.only ho (by omega);have m:=m.onlyT ho t rfl;have i:=Below.only i ho aA;have n:=hb;refine Za rfl<|ZX aS fun a q _ aF=>?_;refine Zs q fun _ aG=>?_;refine Zm rfl<|Ze (X0p rfl)<|Zt aG fun a q=>?_;refine X4p q rfl ?_;refine Q7<|aF _ _<|Q5 fun _ aH=>?_;refine Xy none (fun j=>[7].contains j) mixed ?_;intro w8 f;have g:=g.below f;have e:=e.below f;have n:=n.below f;have m:=m.below f;have i:=btr i f;refine Yb q<|Ye 0 rfl (Vn Xg n)<|Yo 1 rfl (fun _=>Vd rfl X4d 2)<|Ye 2 rfl (X0 rfl X9 (g.at 2))<|Y1 3 ?_;refine Yk rfl trivial (Vc (Xdh _ (p:Int) (X0a.2 ⟨by omega,by omega⟩)) X5r) (fun _ _ ⟨_,f⟩=>f) ?_;rintro _ w9 ⟨rfl,f⟩;have e:=e.below f;have m:=m.below f;have i:=btr i f;refine Y1 4<|Yf rfl trivial (EfW.mono (X0x (vs:=[.agg #[vi ((opM (fmG k sl)).rows),vi ((opM (fmG k sl)).cols),.slice B ((opM (fmG k sl)).cells).length C],.agg #[vi ((dPow (p:Int)).num.a),vi ((dPow (p:Int)).num.b),vi ((dPow (p:Int)).num.c),vi ((dPow (p:Int)).num.d),vi ((dPow (p:Int)).exp)]]) rfl Xgn (by have hq:=Xv0 w9 (opM (fmG k sl)) B C m.top (dPow (p:Int)) (Xb6 ⟨1,fmG k sl⟩);rw [X60 aM aK,Qq,Option.isSome_some] at hq;exact hq)) (fun _ _ h=>⟨fun _=>by obtain ⟨u,x,rfl,o,f⟩:=h;exact f,h⟩)) ?_;rintro _ aW ⟨u,x,rfl,o,f⟩
 have o:=o.lower i.size;have e:=e.below f;have i:=btr i f;refine Yo 5 rfl (fun _=>X1 (vs:=[.agg #[vi ((opM (fmG k sl)).rows),vi ((opM (fmG k sl)).cols),.slice u ((opM (fmG k sl)).cells.map (dTurn (p:Int))).length x],.bool true]) rfl rfl)<|Yo 6 rfl (fun _=>X1 (vs:=[.agg #[vi ((opM (fmG k sl)).rows),vi ((opM (fmG k sl)).cols),.slice u ((opM (fmG k sl)).cells.map (dTurn (p:Int))).length x],.bool true]) rfl rfl)<|Y1 7 ?_;refine Yh rfl trivial rfl (Vw [vi ((opM (fmG k sl)).rows),vi ((opM (fmG k sl)).cols),.slice u ((opM (fmG k sl)).cells.map (dTurn (p:Int))).length x] Xt e) ?_;rintro _ aX ⟨ho,hb⟩;have t:=e;have o:=o.onlyT ho t rfl;have i:=Below.only i ho aC;have e:=hb;refine Yo 8 rfl (fun _=>X0q rfl) ?_;refine Yd fun a q=>?_;refine aH _ _ ?_
 refine Q6 (X4 q (X0s q rfl (ResV.cellN (l:=[vi ((opM (fmG k sl)).rows),vi ((opM (fmG k sl)).cols),.slice u ((opM (fmG k sl)).cells.map (dTurn (p:Int))).length x]) rfl Xg (e.at 0) rfl) rfl) ?_)
 exact ⟨u,x,rfl,o,i⟩
theorem Xxh(p:World)(Al:Option Addr)(cl:Nat)(l:List Dy)(t:Rd p p.heap.size 86 encD Al l)(k:Nat)(x:k<24)(a9:l=clB k)(aP:HalfT p) : Ret Tryz.prog 36 [.agg #[.slice Al l.length cl]] p (fun v w=>v=.tuple #[vi (k:Int),.bool true]∧Below p.heap.size p w):=by
 refine enter Tryz.func36 rfl 28 rfl rfl ?_;intro a e
 have g:=bz p
 refine Zs e fun _ aQ=>?_;refine Zf (X0b (zs:=[.slice Al l.length cl]) rfl rfl) ?_;rintro _ w1 ⟨b3,rfl,aR,n,f⟩;have aY:=Q0 g.size aR;have g:=btr g n;refine Za rfl<|Za rfl<|ZX aQ fun a e _ aS=>?_;refine Zs e fun _ aT=>?_;refine Ze (Vn X16 f)<|Zf (Vc (Xyd _ Al cl l (t.below' g).top k x a9) Xog) ?_;rintro _ w2 ⟨rfl,n⟩;have f:=f.below n;have g:=btr g n;refine Ze (X0p rfl)<|Zt aT fun a e=>?_;refine X4p e rfl ?_;refine Q7<|aS _ _<|Zs e fun _ aU=>?_;refine Zf (Vc (Xrp _ (aP.of g)) Xid) ?_;rintro _ w3 ⟨A7,c7,A8,c8,q,rfl,aF,i,aA,m,n⟩;have aF:=aF.lower g.size;have i:=i.lower g.size;have f:=f.below n;have g:=btr g n;refine Zm rfl<|Ze (X1 (vs:=[.slice A7 (wsN 24).length c7,.slice A8 q.length c8]) rfl rfl)<|Ze (X1 (vs:=[.slice A7 (wsN 24).length c7,.slice A8 q.length c8]) rfl rfl)<|Za rfl<|Za rfl<|ZX aU fun a e _ b0=>?_;refine Zs e fun _ aG=>?_;refine Zm rfl<|Ze (X22 rfl X1r)<|Zm rfl<|Zt aG fun a e=>?_;refine Q8<|X04 (σ:=Nat) (fun (j:Nat) (a:Act) (w:World)=>Fr a 28 [(1,.pointer (some ⟨b3,0,none⟩)),(15,.slice A8 q.length c8),(16,vi (q.length:Int)),(17,vi (j:Int))]∧(j≤k)∧Blk w b3 66 [.slice Al l.length cl]∧Own w p.heap.size 30 1 encSd A8 c8 q∧DeepD w w.heap.size q∧Below p.heap.size p w) (fun (j:Nat)=>24-j) 0 ?_ ?_
 ·exact ⟨e.sb,(Qf _),f,i,m,g⟩
 rintro j a w4 ⟨e,hj,f,i,m,g⟩;refine Zs e fun _ aH=>?_;refine Ze (X19 rfl rfl)<|ZX aH fun a e _ aI=>?_
 refine Xi e rfl (fun d=>?_) (fun d=>?_)
 ·have aB:=d;have d:=Q2 d
  obtain ⟨b1,aZ⟩:=Xr (l:=q) (k:=j) (by omega)
  have aW:=X84 aA
  have y:j<24:=by have:=d;omega
  obtain ⟨u5,aC⟩:=Xr (l:=q) (k:=j) (by omega)
  have o:=Xgs aA aC
  have aX:u5.l.length=9:=by rw [o,X43 y]
  refine Q7<|aI _ _<|Q5 fun _ aJ=>?_;refine Q8<|Zs e fun _ aK=>?_;refine Zm rfl<|Zi (k:=j) (u:=u5) (enc:=encSd) (l:=q) trivial rfl rfl X1r X3a X1x i.rd aC rfl ?_;intro b2 aD;have aL:=(m u5 (Qe aC)).top;refine Ze (X0 rfl X0c aD)<|Za rfl<|Za rfl<|Zx aK fun a e _ aM=>?_;refine Zm rfl<|Ze (Vd rfl X0v 0)<|Ze (X0 rfl X0c (f.at 0))<|Zf (Vc (Xtw _ u5.A u5.c u5.l aL.top Al cl l (t.below' g).top (by rw [aX];decide)) Xft) ?_;rintro _ w5 ⟨rfl,n⟩;have f:=f.below n;have i:=i.below n;have m:=(m.below n).top;have g:=btr g n;refine Zt aM fun a e=>?_
  refine Xi e rfl (fun b=>?_) (fun b=>?_)
  ·have aE:=b;have b:=Q2 b
   have aN:j=k:=Xm9 y x (by rw [← o,← a9];exact b)
   refine Zs e fun _ aO=>?_;refine Zm rfl<|Za rfl<|Za rfl<|Zt aO fun a e=>?_;refine Q6<|X00<|X8<|X8 ?_;refine X00<|X8<|X4 e (X0s e rfl rfl rfl) ?_;exact ⟨by rw [aN],g⟩
  have aE:=b;have b:=Q1 b
  have aN:j≠k:=fun h8=>b (by rw [o,a9,h8])
  refine Q7<|Xk<|aJ _ _<|Zr e ?_;refine Ze (X02 rfl rfl (by omega) (by omega))<|Zm rfl ?_;refine Zn fun a e=>?_;refine Xn ?_;exact ⟨j+1,⟨e.sb,(by omega),f,i,m,g⟩,(by omega)⟩
 have aB:=d;have d:=Q1 d;have aW:=X84 aA
 omega
theorem Xrj(w0:World)(Am:Option Addr)(cm:Nat)(m:Mx)(aQ:Rd w0 w0.heap.size 86 encD Am m.cells)(b5:m.cells.length≤2305843009213693951)(aN:HalfT w0) : Ret Tryz.prog 9 [.agg #[vi m.rows,vi m.cols,.slice Am m.cells.length cm]] w0 (fun v w=>v=.tuple #[.agg #[.string (tx (nfs m)),vi (nfk m:Int),vi (nfp m:Int)],.bool (nfM m).isSome]∧Below w0.heap.size w0 w):=by
 have b6:=Xg8 m;refine enter Tryz.func9 rfl 93 rfl rfl ?_;intro a i
 have e:=bz w0
 refine Zs i fun _ cJ=>?_;refine Zf (X0b (zs:=[vi m.rows,vi m.cols,.slice Am m.cells.length cm]) rfl rfl) ?_;rintro _ w1 ⟨b3,rfl,cK,d,f⟩;have d8:=Q0 e.size cK;have e:=btr e d;refine Zf (X3 (zs:=[.string (tx []),vi 0,vi 0]) X5o rfl) ?_;rintro _ w2 ⟨b4,rfl,cM,d,c⟩;have aR:=Q0 e.size cM;have f:=f.below d;have e:=btr e d;refine Za rfl<|Zx cJ fun a i _ cO=>?_;refine Ze (Vn Xg f)<|Zf (Vc (Xia _ m Am cm (aQ.below' e).top b5 (aN.of e)) X9e) ?_;rintro _ w3 ⟨A6,c6,rfl,B,d⟩;have B:=B.lower e.size;have f:=f.below d;have c:=c.below d;have e:=btr e d;refine Zm rfl<|Ze (X1 (vs:=[.agg #[.slice A6 ((blochI m).getD []).length c6],.bool ((blochI m).isSome)]) rfl rfl)<|Ze (X1 (vs:=[.agg #[.slice A6 ((blochI m).getD []).length c6],.bool ((blochI m).isSome)]) rfl rfl)<|Zf (X3 (zs:=[.slice none 0 0]) X23 rfl) ?_;rintro _ w4 ⟨b8,rfl,cP,d,x⟩;have b7:=Q0 e.size cP;have f:=f.below d;have c:=c.below d;have B:=B.below d;have e:=btr e d;refine Zo (Vw [.slice A6 ((blochI m).getD []).length c6] X1l x) ?_;rintro _ w5 ⟨t,I⟩;have g:=x;have f:=f.only t (Blk.ne f g rfl);have c:=c.only t (Blk.ne c g rfl);have B:=B.onlyT t g rfl;have e:=Below.only e t b7;have x:=I;refine Za rfl<|ZX cO fun a i _ cQ=>?_;refine Q5 fun _ b9=>?_;refine X09 (fun a w=>Fr a 93 [(1,.pointer (some ⟨b3,0,none⟩)),(2,.pointer (some ⟨b4,0,none⟩)),(4,.pointer (some ⟨b8,0,none⟩)),(27,.bool ((!((blochI m).isSome))||(decide (40<(bexp ((blochI m).getD []))))))]∧Below w5.heap.size w5 w) ?_ ?_
 ·have o:Below w5.heap.size w5 w5:=Below.refl _ _
  refine Zr i<|Zm rfl<|Ze (X0p rfl)<|Zm rfl ?_
  refine Zg 23 rfl (fun q=>?_) (fun q=>?_)
  ·refine Zp (gP q) ?_;refine Zp (gP q) ?_;refine Zp (gP q) ?_;refine Ze (Xh rfl q rfl) ?_;refine Zn fun a i=>?_
   have H:Below w5.heap.size w5 w5:=o
   exact ⟨i.sub ⟨rfl,rfl,rfl,X2 rfl (by first|rfl|(simp only [q,bs];done)|simp [q]),trivial⟩,H⟩
  refine Zv (gW q) (Vn X16 x) ?_;refine Zk (gW q) (Vc (Xez _ A6 c6 ((blochI m).getD []) B.rd.top b6) X7y) ?_;rintro _ w6 ⟨rfl,d⟩;have e:=btr e d;have o:=btr o d;refine Zv (gW q) (X7h rfl rfl) ?_;refine Ze (Xd rfl q rfl) ?_;refine Zn fun a i=>?_
  have H:Below w5.heap.size w5 w6:=o
  exact ⟨i.sub ⟨rfl,rfl,rfl,X2 rfl (by first|rfl|(simp only [q,bs];done)|simp [q]),trivial⟩,H⟩
 rintro a w7 ⟨i,d⟩;have f:=f.below d;have c:=c.below d;have x:=x.below d;have B:=B.below d;have e:=btr e d;refine b9 _ _ ?_
 refine Xi i rfl (fun J=>?_) (fun J=>?_)
 ·have aC:=J;have hN:=nfN J;refine Zs i fun _ bC=>?_;refine Ze (Xf (ps:=[]) (cs:=[.string (tx []),vi 0,vi 0]) rfl (fun _=>by first|rfl|kernel_rfl))<|Zo (Vw [.string (tx []),vi 0,vi 0] X38 c) ?_;rintro _ w8 ⟨t,I⟩;have g:=c;have e:=Below.only e t aR;have c:=I;refine Za rfl<|Zt bC fun a i=>?_;refine Q6<|X8<|X4 i (X0s i rfl (ResV.cellN (l:=[.string (tx []),vi 0,vi 0]) rfl X1q (c.at 0) rfl) rfl) ?_;exact ⟨by rw [hN.s,hN.k,hN.p,hN.n];rfl,e⟩
 have aC:=J;obtain ⟨bD,W⟩:=Xly J;have hR:=nfR bD W;have hY:=nfY bD W;have d9:=X21 ((blochI m).getD []);refine Q7<|cQ _ _<|Q5 fun _ bE=>?_;refine X09 (fun a w=>∃ u,Fr a 93 [(1,.pointer (some ⟨b3,0,none⟩)),(2,.pointer (some ⟨b4,0,none⟩)),(6,.pointer (some ⟨u,0,none⟩)),(7,.slice A6 ((blochI m).getD []).length c6)]∧w0.heap.size≤u∧Blk w u 27 [.string (tx []),vi 0,vi 0]∧b4≠u∧Below w7.heap.size w7 w) ?_ ?_
 ·have o:Below w7.heap.size w7 w7:=Below.refl _ _
  refine Xy none (fun j=>[4].contains j) mixed ?_;intro w9 d;have c:=c.below d;have x:=x.below d;have e:=btr e d;have o:=btr o d;refine Yb i<|Yo 0 rfl (fun _=>Xf (ps:=[]) (cs:=[.string (tx []),vi 0,vi 0]) rfl (fun _=>by first|rfl|kernel_rfl))<|Yo 1 rfl (fun _=>Vd rfl X0v 0) ?_
  have y:Below w9.heap.size w9 w9:=Below.refl _ _
  refine Yc [0,1,2,3] 2 (fun a w=>∃ u,Fr a 93 [(1,.pointer (some ⟨b3,0,none⟩)),(2,.pointer (some ⟨b4,0,none⟩)),(6,.pointer (some ⟨u,0,none⟩)),(29,.agg #[.string (tx []),vi 0,vi 0]),(31,.slice A6 ((blochI m).getD []).length c6)]∧w0.heap.size≤u∧Blk w u 27 [.string (tx []),vi 0,vi 0]∧b4≠u∧w9.heap.size≤u∧w7.heap.size≤u∧Below w9.heap.size w9 w) ?_ ?_
  ·rintro a dA ⟨u,i,A,b,L,aT,aU,d⟩;clear y;have y:=d;have e:=btr e d;have o:=btr o d;refine Yb i<|Y1 4<|Yh rfl trivial rfl (Vw [.string (tx []),vi 0,vi 0] X38 b) ?_;rintro _ w11 ⟨t,I⟩;have g:=b;have o:=Below.only o t aU;have y:=Below.only y t aT;have e:=Below.only e t A;have b:=I;refine Yo 5 rfl (fun _=>X0q rfl) ?_;refine Yd fun a i=>?_
   have H:Below w7.heap.size w7 w11:=o
   exact ⟨u,i.sb,A,b,L,H⟩
  intro aS;refine Y2 2 3 ?_ ?_
  ·refine Yz rfl trivial (Uev (X0 rfl X0c (x.at 0))) ?_;refine Y1 3<|Yk rfl trivial (X3 (zs:=[.string (tx []),vi 0,vi 0]) X5o rfl) (fun _ _ ⟨_,_,_,h,_⟩=>h) ?_;rintro _ dB ⟨b17,rfl,aD,d,bF⟩
   have aE:b4≠b17:=by have:=c.lt;omega
   have aW:=Q0 e.size aD;have aX:=Q0 o.size aD;have aY:=Q0 y.size aD;have e:=btr e d;have o:=btr o d;have y:=btr y d;exact fun a i=>aS _ a _ rfl ⟨b17,i.sb,aW,bF,aE,aY,aX,y⟩
  refine Yk rfl trivial (X3 (zs:=[.string (tx []),vi 0,vi 0]) X5o rfl) (fun _ _ ⟨_,_,_,h,_⟩=>h) ?_;rintro _ dC ⟨b18,rfl,aF,d,M⟩
  have N:b4≠b18:=by have:=c.lt;omega
  have a9:=Q0 e.size aF;have aG:=Q0 o.size aF;have aH:=Q0 y.size aF;have x:=x.below d;have e:=btr e d;have o:=btr o d;have y:=btr y d;refine Y2 2 4 ?_ ?_
  ·refine Yz rfl trivial (Uev (X0 rfl X0c (x.at 0))) ?_;exact fun a i=>aS _ a _ rfl ⟨b18,i.sb,a9,M,N,aH,aG,y⟩
  refine Yh rfl trivial rfl (Vw [.string (tx []),vi 0,vi 0] X38 M) ?_;rintro _ w14 ⟨t,I⟩;have g:=M;have x:=x.only t (Blk.ne x g rfl);have o:=Below.only o t aG;have y:=Below.only y t aH;have e:=Below.only e t a9;have M:=I;refine Y1 2<|Yz rfl trivial (Uev (X0 rfl X0c (x.at 0))) ?_;refine Yo 5 rfl (fun _=>X0q rfl) ?_;refine Yd fun a i=>?_
  have H:Below w7.heap.size w7 w14:=o
  exact ⟨b18,i.sub ⟨rfl,rfl,(by first|rfl|(simp [look,aC])),rfl,trivial⟩,a9,M,N,H⟩
 rintro a dD ⟨u,i,A,b,L,d⟩;have f:=f.below d;have c:=c.below d;have B:=B.below d;have e:=btr e d;refine bE _ _<|Q5 fun _ bG=>?_;refine Q8<|X04 (σ:=Nat×(List Dy)×(List UInt8)) (fun (s:Nat×(List Dy)×(List UInt8)) (a:Act) (w:World)=>match s with|(n,lc,tb)=>∃ E G,Fr a 93 [(1,.pointer (some ⟨b3,0,none⟩)),(2,.pointer (some ⟨b4,0,none⟩)),(6,.pointer (some ⟨u,0,none⟩)),(7,.slice E lc.length G)]∧((n:Int)≤bexp ((blochI m).getD []))∧(lc=(stN ((blochI m).getD []) n).2)∧(tb=(stN ((blochI m).getD []) n).1.map sylT)∧Blk w b3 32 [vi m.rows,vi m.cols,.slice Am m.cells.length cm]∧Blk w b4 27 [.string (tx []),vi 0,vi 0]∧Blk w u 27 [.string (tx tb),vi 0,vi 0]∧Own w w0.heap.size 86 5 encD E G lc∧Below w0.heap.size w0 w) (fun (s:Nat×(List Dy)×(List UInt8))=>match s with|(n,lc,tb)=>(bexp ((blochI m).getD [])).toNat-n) (0,((blochI m).getD []),[]) ?_ ?_
 ·exact ⟨A6,c6,i.sb,(by omega),rfl,rfl,f,c,b,B,e⟩
 rintro ⟨n,lc,tb⟩ a dE ⟨E,G,i,hn,aI,aZ,f,c,b,Q,e⟩;obtain ⟨cR,cS,cU,dF⟩:=X4s hR.gd W n hn
 have bH:Gd lc:=by rw [aI];exact cR
 have dG:bexp lc=bexp ((blochI m).getD [])-(n:Int):=by rw [aI];exact cS
 have dH:tb.length=n:=by rw [aZ,Qo];exact cU
 refine Q5 fun _ bI=>?_;refine Zs i fun _ bJ=>?_;refine Zm rfl<|Ze (Xf (ps:=[(0,.slice E lc.length G)]) (cs:=[.slice E lc.length G]) rfl (fun _=>by first|rfl|kernel_rfl))<|Zf (Vc (Xez _ E G lc Q.rd.top (Nat.le_of_eq bH.nine.1)) X7y) ?_;rintro _ dI ⟨rfl,d⟩;have f:=f.below d;have c:=c.below d;have b:=b.below d;have Q:=Q.below d;have e:=btr e d;refine Ze (X7h rfl rfl)<|Zt bJ fun a i=>?_
 refine Xi i rfl (fun z=>?_) (fun z=>?_)
 ·have b0:=z;have z:=Q2 z
  have cV:0<bexp lc:=z
  obtain ⟨p9,dJ⟩:=X80 hR.gd W (n:=n) (by omega)
  refine Q7<|bI _ _<|Q8<|Zs i fun _ bK=>?_;refine Zm rfl<|Zf (Vc (Xwj _ E G lc Q.rd.top bH cV (by omega) (aN.of e)) Xnf) ?_;rintro _ dK ⟨C,aA,aO,aP,aJ,rfl,U,d⟩;have U:=U.lower e.size;have f:=f.below d;have c:=c.below d;have b:=b.below d;have e:=btr e d;refine Zm rfl<|Ze (X1 (vs:=[.string (tx [sylT C]),.slice aO aA.length aP,.bool true]) rfl rfl)<|Ze (X1 (vs:=[.string (tx [sylT C]),.slice aO aA.length aP,.bool true]) rfl rfl)<|Ze (X1 (vs:=[.string (tx [sylT C]),.slice aO aA.length aP,.bool true]) rfl rfl)<|Za rfl<|Za rfl<|Za rfl<|ZX bK fun a i _ bL=>?_;refine Zs i fun _ bM=>?_;refine Zm rfl<|Ze (X0p rfl)<|Zt bM fun a i=>?_;refine X4p i rfl ?_;refine Q7<|bL _ _<|Zs i fun _ bN=>?_;refine Ze (Vd rfl X27 0)<|Ze (X0 rfl X71 (b.at 0))<|Zm rfl<|Ze (Xf6 (s:=tb) (r:=[sylT C]) rfl rfl (by simp;omega))<|Ze (Vd rfl X27 0)<|Zo (Vu (vs:=[.string (tx (tb++[sylT C]))]) (l':=[.string (tx (tb++[sylT C])),vi 0,vi 0]) rfl rfl Xfy b) ?_;rintro _ dL ⟨t,I⟩;have g:=b;have f:=f.only t (Blk.ne f g rfl);have c:=c.only t (by omega);have U:=U.onlyT t g rfl;have e:=Below.only e t A;have b:=I;refine Zt bN fun a i=>?_;refine Zr i<|Zm rfl<|Za rfl ?_;refine Zn fun a i=>?_;refine Xk<|Xn ?_;exact ⟨(n+1,aA,(tb++[sylT C])),⟨aO,aP,i.sb,(by omega),(by rw [X3r (by rw [← aI];exact aJ)]),(by rw [X3r (by rw [← aI];exact aJ),List.map_append,aZ];rfl),f,c,b,U,e⟩,(by first|omega|(dsimp only;omega))⟩
 have b0:=z;have z:=Q1 z
 have bO:n=(bexp ((blochI m).getD [])).toNat:=by have:=z;omega
 have bP:lc=nfL ((blochI m).getD []):=by rw [aI,bO];rfl
 have aK:tb=(nfS ((blochI m).getD [])).map sylT:=by rw [aZ,bO];rfl
 obtain ⟨bQ,bR⟩:=X8h hR.gd W
 have cW:lc=clB (clX (nfL ((blochI m).getD []))):=bP.trans bR
 obtain ⟨dM,bS⟩:=X5u hR.gd W
 have b1:(nfS ((blochI m).getD [])).length≤40:=by omega
 have bU:FrmOk tb:=by rw [aK];exact Xi7 hR.gd W
 have bW:=Xxp hR;refine Q9<|Xm<|Xm<|X06 ?_;refine bG _ _<|Zs i fun _ bZ=>?_;refine Zm rfl<|Ze (Xf (ps:=[(0,.slice E lc.length G)]) (cs:=[.slice E lc.length G]) rfl (fun _=>by first|rfl|kernel_rfl))<|Zf (Vc (Xxh _ E G lc Q.rd.top (clX (nfL ((blochI m).getD []))) bQ cW (aN.of e)) Xo6) ?_;rintro _ dN ⟨rfl,d⟩;have f:=f.below d;have c:=c.below d;have b:=b.below d;have e:=btr e d;refine Zm rfl<|Ze (X1 (vs:=[vi ((clX (nfL ((blochI m).getD []))) : Int),.bool true]) rfl rfl)<|Ze (X1 (vs:=[vi ((clX (nfL ((blochI m).getD []))) : Int),.bool true]) rfl rfl)<|Ze (Vd rfl X54 1)<|Zo (Vu (vs:=[vi ((clX (nfL ((blochI m).getD []))) : Int)]) (l':=[.string (tx tb),vi ((clX (nfL ((blochI m).getD []))) : Int),vi 0]) rfl rfl X66 b) ?_;rintro _ cX ⟨t,I⟩;have g:=b;have f:=f.only t (Blk.ne f g rfl);have c:=c.only t (by omega);have e:=Below.only e t A;have b:=I;refine Za rfl<|Zx bZ fun a i _ cA=>?_;refine Ze (Vn X1q b)<|Zf (X0x (vs:=[.agg #[.string (tx tb),vi ((clX (nfL ((blochI m).getD []))) : Int),vi 0]]) rfl Xh3 (by have hq:=Xrw cX tb (nfS ((blochI m).getD [])) (clX (nfL ((blochI m).getD []))) 0 bQ aK bS b1 (by decide) bU (aN.of e);rw [Xyw] at hq;exact hq)) ?_;rintro _ dP ⟨aL,aM,rfl,D,d⟩;have D:=D.lower e.size;have f:=f.below d;have c:=c.below d;have b:=b.below d;have e:=btr e d;refine Zm rfl<|Ze (X1 (vs:=[.agg #[vi ((nfW ((blochI m).getD [])).rows),vi ((nfW ((blochI m).getD [])).cols),.slice aL ((nfW ((blochI m).getD [])).cells).length aM],.bool true]) rfl rfl)<|Ze (X1 (vs:=[.agg #[vi ((nfW ((blochI m).getD [])).rows),vi ((nfW ((blochI m).getD [])).cols),.slice aL ((nfW ((blochI m).getD [])).cells).length aM],.bool true]) rfl rfl)<|Zf (X3 (zs:=[vi 0,vi 0,.slice none 0 0]) X0n rfl) ?_;rintro _ dQ ⟨b35,rfl,cB,d,aB⟩
 have cC:b3≠b35:=by have:=f.lt;omega
 have b2:=Q0 e.size cB;have f:=f.below d;have c:=c.below d;have b:=b.below d;have D:=D.below d;have e:=btr e d;refine Zo (Vw [vi ((nfW ((blochI m).getD [])).rows),vi ((nfW ((blochI m).getD [])).cols),.slice aL ((nfW ((blochI m).getD [])).cells).length aM] Xt aB) ?_;rintro _ d5 ⟨t,I⟩;have g:=aB;have f:=f.only t (by omega);have c:=c.only t (Blk.ne c g rfl);have b:=b.only t (Blk.ne b g rfl);have D:=D.onlyT t g rfl;have e:=Below.only e t b2;have aB:=I;refine Za rfl<|Zx cA fun a i _ cD=>?_;refine Ze (Vn Xg f)<|Ze (Vn Xg aB)<|Zf (X0x (vs:=[.agg #[vi m.rows,vi m.cols,.slice Am m.cells.length cm],.agg #[vi ((nfW ((blochI m).getD [])).rows),vi ((nfW ((blochI m).getD [])).cols),.slice aL ((nfW ((blochI m).getD [])).cells).length aM]]) rfl Xzg (by have hq:=G98 d5 m Am cm (aQ.below' e).top (nfW ((blochI m).getD [])) aL aM D.rd.top b5 (Xb6 _);rw [bW.1,bW.2] at hq;exact hq)) ?_;rintro _ dR ⟨ix,rfl,d6,d⟩;have c:=c.below d;have b:=b.below d;have e:=btr e d;obtain ⟨d7,dS⟩:=Xxa hR (d6 rfl);refine Zm rfl<|Ze (X1 (vs:=[vi ix,.bool true,.bool true]) rfl rfl)<|Ze (X1 (vs:=[vi ix,.bool true,.bool true]) rfl rfl)<|Ze (X1 (vs:=[vi ix,.bool true,.bool true]) rfl rfl)<|Za rfl<|Za rfl<|Za rfl<|Zx cD fun a i _ cE=>?_;refine Zm rfl<|Ze (Vd rfl X4d 2)<|Zo (Vu (vs:=[vi ix]) (l':=[.string (tx tb),vi ((clX (nfL ((blochI m).getD []))) : Int),vi ix]) rfl rfl X66 b) ?_;rintro _ w26 ⟨t,I⟩;have g:=b;have c:=c.only t (by omega);have e:=Below.only e t A;have b:=I;refine ZX cE fun a i _ cF=>?_;refine Q5 fun _ cG=>?_
 refine X09 (fun a w=>Fr a 93 [(2,.pointer (some ⟨b4,0,none⟩)),(6,.pointer (some ⟨u,0,none⟩)),(90,.bool false)]∧Below w26.heap.size w26 w) ?_ ?_
 ·have o:Below w26.heap.size w26 w26:=Below.refl _ _
  refine Zr i<|Zm rfl<|Ze (X0p rfl)<|Zm rfl<|Zv (gW rfl) (Xa rfl) ?_;refine Zv (gW rfl) (X0p rfl) ?_;refine Ze (Xd rfl rfl rfl)<|Zm rfl<|Zv (gW rfl) (Xa rfl) ?_;refine Zv (gW rfl) (X0p rfl) ?_;refine Ze (Xd rfl rfl rfl)<|Zm rfl<|Zv (gW rfl) (Xa rfl) ?_;refine Zv (gW rfl) (X0p rfl) ?_;refine Ze (Xd rfl rfl rfl)<|Zm rfl<|Zv (gW rfl) (Vn X1q b) ?_;refine Zk (gW rfl) (Vc (Xij _ tb ((clX (nfL ((blochI m).getD []))) : Int) ix bU ⟨by omega,by omega⟩ ⟨by omega,by omega⟩) X9o) ?_;rintro _ w27 ⟨rfl,d⟩;have e:=btr e d;have o:=btr o d;refine Zv (gW rfl) (X0p rfl) ?_;refine Ze (Xd rfl rfl rfl) ?_;refine Zn fun a i=>?_
  have H:Below w26.heap.size w26 w27:=o
  exact ⟨i.sb,H⟩
 rintro a dT ⟨i,d⟩;have c:=c.below d;have b:=b.below d;have e:=btr e d;refine cG _ _<|X4p i rfl ?_;refine Q7<|cF _ _<|Zs i fun _ cH=>?_;refine Ze (Vn X1q b)<|Zo (Vw [.string (tx tb),vi ((clX (nfL ((blochI m).getD []))) : Int),vi ix] X38 c) ?_;rintro _ dU ⟨t,I⟩;have g:=c;have e:=Below.only e t aR;have c:=I;refine Za rfl<|Zt cH fun a i=>?_
 refine Q6 (X4 i (X0s i rfl (ResV.cellN (l:=[.string (tx tb),vi ((clX (nfL ((blochI m).getD []))) : Int),vi ix]) rfl X1q (c.at 0) rfl) rfl) ?_)
 exact ⟨by rw [hY.s,hY.k,hY.p,hY.n,← aK,← d7],e⟩
theorem Y0a(n:World)(p:Mx)(Ap:Option Addr)(cp:Nat)(aB:Rd n n.heap.size 86 encD Ap p.cells)(q:Mx)(Aq:Option Addr)(cq:Nat)(aC:Rd n n.heap.size 86 encD Aq q.cells)(aI:p.cells.length=q.cells.length)(aJ:q.cells.length≤2305843009213693951) : Ret Tryz.prog 66 [.agg #[vi p.rows,vi p.cols,.slice Ap p.cells.length cp],.agg #[vi q.rows,vi q.cols,.slice Aq q.cells.length cq]] n (fun v w=>∃ i:Int,v=.tuple #[vi i,.bool (phaseS p q)]∧(phaseS p q=true→∃ k:Nat,k<8∧i=(k:Int)∧turnedS p q (k:Int)=true)∧Below n.heap.size n w):=by
 refine enter Tryz.func66 rfl 16 rfl rfl ?_;intro a c
 have g:=bz n
 refine Zs c fun _ aK=>?_;refine Zf (X0b (zs:=[vi p.rows,vi p.cols,.slice Ap p.cells.length cp]) rfl rfl) ?_;rintro _ w1 ⟨b4,rfl,aL,o,d⟩;have aR:=Q0 g.size aL;have g:=btr g o;refine Zf (X0b (zs:=[vi q.rows,vi q.cols,.slice Aq q.cells.length cq]) rfl rfl) ?_;rintro _ w2 ⟨b5,rfl,aM,o,l⟩
 have aH:b4≠b5:=by have:=d.lt;omega
 have aS:=Q0 g.size aM;have d:=d.below o;have g:=btr g o;refine Za rfl<|Za rfl<|ZX aK fun a c _ aN=>?_;refine Zs c fun _ aO=>?_;refine Za rfl<|Zt aO fun a c=>?_;refine Q8<|X04 (σ:=Nat) (fun (k:Nat) (a:Act) (w:World)=>Fr a 16 [(2,.pointer (some ⟨b4,0,none⟩)),(3,.pointer (some ⟨b5,0,none⟩)),(6,vi (k:Int))]∧(k≤8)∧(∀ j<k,turnedS p q ((j:Nat) : Int)=false)∧Blk w b4 32 [vi p.rows,vi p.cols,.slice Ap p.cells.length cp]∧Blk w b5 32 [vi q.rows,vi q.cols,.slice Aq q.cells.length cq]∧Below n.heap.size n w) (fun (k:Nat)=>8-k) 0 ?_ ?_
 ·exact ⟨c.sb,(by omega),(fun j hj=>by omega),d,l,g⟩
 rintro k a w3 ⟨c,hk,m,d,l,g⟩;refine Q5 fun _ aP=>?_;refine Zs c fun _ aQ=>?_;refine Zm rfl<|Ze (X19 rfl rfl)<|Zt aQ fun a c=>?_
 refine Xi c rfl (fun b=>?_) (fun b=>?_)
 ·have a9:=b;have b:=Q2 b
  have aT:(k:Int)<8:=b
  refine Q7<|aP _ _<|Q5 fun _ aD=>?_;refine Q8<|Zs c fun _ aE=>?_;refine Ze (Vn Xg d)<|Ze (Vn Xg l)<|Zm rfl<|Zf (Vc (Y0l _ p Ap cp (aB.below' g).top q Aq cq (aC.below' g).top (k:Int) aI aJ) Xv9) ?_;rintro _ w4 ⟨rfl,o⟩;have d:=d.below o;have l:=l.below o;have g:=btr g o;refine Zt aE fun a c=>?_
  refine Xi c rfl (fun e=>?_) (fun e=>?_)
  ·have aA:=e
   have hT:turnedS p q (k:Int)=true:=e
   refine Zs c fun _ aF=>?_;refine Zm rfl<|Za rfl<|Za rfl<|Zt aF fun a c=>?_;refine Q6<|X00<|X8<|X8 ?_;refine X00<|X8<|X4 c (X0s c rfl rfl rfl) ?_;exact ⟨_,by rw [phaseS,Xc9 (f:=fun k=>turnedS p q ((k:Nat) : Int)) (k:=k) (by omega) hT],fun _=>⟨k,by omega,rfl,hT⟩,g⟩
  have aA:=e
  have hT:turnedS p q (k:Int)=false:=e
  refine Q7<|Xk<|aD _ _<|Zr c ?_;refine Zm rfl<|Ze (X02 rfl rfl (by omega) (by omega))<|Za rfl ?_;refine Zn fun a c=>?_;refine Xn ?_;exact ⟨k+1,⟨c.sb,(by omega),(fun j hj=>by rcases W4 j k with h9|h9;exact m j h9;obtain rfl:j=k:=(by omega);exact hT),d,l,g⟩,(by omega)⟩
 have a9:=b;have b:=Q1 b;refine Q9<|Xm<|Xm<|X06 ?_;refine aN _ _<|Zs c fun _ aG=>?_;refine Za rfl<|Za rfl<|Zt aG fun a c=>?_
 refine Q6 (X4 c (X0s c rfl rfl rfl) ?_)
 exact ⟨_,by rw [phaseS,X5n (fun j hj=>m j (by omega))],fun h9=>(by rw [phaseS,X5n (fun j hj=>m j (by omega))] at h9;cases h9),g⟩
theorem Xhu(m:World)(Ap:Option Addr)(cp:Nat)(p:List Dy)(n:Rd m m.heap.size 86 encD Ap p)(aR:p.length≤9) : Ret Tryz.prog 62 [.agg #[.slice Ap p.length cp]] m (fun v w=>v=vi (bexp p)∧Below m.heap.size m w):=by
 refine enter Tryz.func62 rfl 19 rfl rfl ?_;intro a f
 have i:=bz m
 refine Zs f fun _ aH=>?_;refine Zf (X0b (zs:=[.slice Ap p.length cp]) rfl rfl) ?_;rintro _ w1 ⟨b3,rfl,aI,hE,aJ⟩;have aP:=Q0 i.size aI;have i:=btr i hE;refine Za rfl<|Zx aH fun a f _ aK=>?_;refine Za rfl<|ZX aK fun a f _ aL=>?_;refine Zs f fun _ aM=>?_;refine Ze (Vd rfl X0v 0)<|Ze (X0 rfl X0c (aJ.at 0))<|Ze (X22 rfl Xs)<|Zm rfl<|Zt aM fun a f=>?_;refine Q8<|X04 (σ:=Nat) (fun (k:Nat) (a:Act) (w:World)=>Fr a 19 [(3,vi (bexp (p.take k))),(7,.slice Ap p.length cp),(8,vi (p.length:Int)),(9,vi (k:Int))]∧(k≤p.length)∧Below m.heap.size m w) (fun (k:Nat)=>p.length-k) 0 ?_ ?_
 ·exact ⟨f.sb,(Qf _),i⟩
 rintro k a w2 ⟨f,hk,i⟩;refine Zs f fun _ aN=>?_;refine Ze (X19 rfl rfl)<|ZX aN fun a f _ aO=>?_
 refine Xi f rfl (fun g=>?_) (fun g=>?_)
 ·have aB:=g;have g:=Q2 g
  obtain ⟨e,o⟩:=Xr (l:=p) (k:=k) (by omega)
  refine Q7<|aO _ _<|Q5 fun _ aC=>?_;refine Q8<|Zs f fun _ aD=>?_;refine Zi (k:=k) (u:=e) (enc:=encD) (l:=p) trivial rfl rfl Xs Xb Xw (n.below' i) o rfl ?_;intro aS a9;refine Ze (Xz (l:=[vi e.num.a,vi e.num.b,vi e.num.c,vi e.num.d,vi e.exp]) rfl X6 a9 rfl)<|Zf (X3 (zs:=[vi 0,vi 0,vi 0,vi 0,vi 0]) X0l rfl) ?_;rintro _ w3 ⟨aT,rfl,q,hE,j⟩;have aA:=Q0 i.size q;have aE:=(n.below' i).away q;have i:=btr i hE;refine Zo (Vw [vi e.num.a,vi e.num.b,vi e.num.c,vi e.num.d,vi e.exp] Xb j) ?_;rintro _ w4 ⟨ho,hb⟩;have aQ:=j;have i:=Below.only i ho aA;have j:=hb;refine Zt aD fun a f=>?_;refine Zr f<|Zm rfl<|Ze (Vd rfl X11 4)<|Ze (X0 rfl X9 (j.at 4))<|Zf (X0x (vs:=[vi (bexp (p.take k)),vi e.exp]) rfl Xux (by have hq:=Y0e w4 (bexp (p.take k)) e.exp;rw [← Xcb o] at hq;exact hq)) ?_;rintro _ _ ⟨rfl,rfl⟩;refine Za rfl ?_;refine Zn fun a f=>?_;refine Xk<|aC _ _<|Zr f<|Ze (X02 rfl rfl (by omega) (by omega))<|Zm rfl ?_;refine Zn fun a f=>?_;refine Xn ?_;exact ⟨k+1,⟨f.sb,(by omega),i⟩,(by omega)⟩
 have aB:=g;have g:=Q1 g
 have aF:bexp (p.take k)=bexp p:=by rw [Qi (by omega)]
 refine Q9<|Xm<|Xm<|X06 ?_;refine aL _ _<|Zs f fun _ aG=>?_;refine Zm rfl<|Za rfl<|Zt aG fun a f=>?_
 refine Q6 (X4 f (Xp f rfl rfl) ?_)
 exact ⟨by rw [aF],i⟩
theorem Xzu(p:World)(Al:Option Addr)(cl:Nat)(l:List Dy)(aD:Rd p p.heap.size 86 encD Al l)(k:Nat)(x:k<24)(a9:l=clB k) : Ret Tryz.prog 65 [.agg #[.slice Al l.length cl]] p (fun v w=>v=vi (k:Int)∧Below p.heap.size p w):=by
 have aY:(wsN 24).length=24:=X47 24
 refine enter Tryz.func65 rfl 25 rfl rfl ?_;intro a i
 have e:=bz p
 refine Zs i fun _ aQ=>?_;refine Zf (X0b (zs:=[.slice Al l.length cl]) rfl rfl) ?_;rintro _ w1 ⟨b3,rfl,aR,m,b⟩;have aW:=Q0 e.size aR;have e:=btr e m;refine Za rfl<|ZX aQ fun a i _ aZ=>?_;refine Zs i fun _ aS=>?_;refine Zf (Vc (Xs7 _) Xhk) ?_;rintro _ w2 ⟨A6,c6,rfl,c,m⟩;have c:=c.lower e.size;have b:=b.below m;have e:=btr e m;refine Ze (X22 rfl X1g)<|Zm rfl<|Zt aS fun a i=>?_;refine Q8<|X04 (σ:=Nat) (fun (j:Nat) (a:Act) (w:World)=>Fr a 25 [(1,.pointer (some ⟨b3,0,none⟩)),(7,.slice A6 (wsN 24).length c6),(8,vi ((wsN 24).length:Int)),(9,vi (j:Int))]∧(j≤k)∧Blk w b3 66 [.slice Al l.length cl]∧Own w p.heap.size 9 1 encTx A6 c6 (wsN 24)∧Below p.heap.size p w) (fun (j:Nat)=>24-j) 0 ?_ ?_
 ·exact ⟨i.sb,(Qf _),b,c,e⟩
 rintro j a w3 ⟨i,hj,b,c,e⟩;refine Zs i fun _ aT=>?_;refine Ze (X19 rfl rfl)<|ZX aT fun a i _ aU=>?_
 refine Xi i rfl (fun n=>?_) (fun n=>?_)
 ·have aE:=n;have n:=Q2 n
  obtain ⟨b0,aX⟩:=Xr (l:=(wsN 24)) (k:=j) (by omega)
  have f:j<24:=by have:=n;omega
  refine Q7<|aU _ _<|Q5 fun _ aF=>?_;refine Q8<|Zs i fun _ aG=>?_;refine Zm rfl<|Zi (k:=j) (u:=tx (cw j)) (enc:=encTx) (l:=(wsN 24)) trivial rfl rfl X1g Xfy X1o c.rd (X9l f) rfl ?_;intro b1 aA;refine Ze (X0 rfl X71 aA)<|Za rfl<|Za rfl<|Zx aG fun a i _ aH=>?_;refine Zm rfl<|Zf (Vc (Xsc _ (cw j) (by have:=(X67 f).2;omega)) Xhi) ?_;rintro _ w4 ⟨aI,aJ,rfl,aK,m⟩;have b:=b.below m;have c:=c.below m;have e:=btr e m;refine Zf (X0x (vs:=[.agg #[vi ((opM (wdG (cw j))).rows),vi ((opM (wdG (cw j))).cols),.slice aI ((opM (wdG (cw j))).cells).length aJ]]) rfl X9b (by have hq:=Xgt w4 (opM (wdG (cw j))) aI aJ aK.top (X8v (X7c f));rw [X7c f,Qq,Option.isSome_some] at hq;exact hq)) ?_;rintro _ w5 ⟨q,t,rfl,g,m⟩;have g:=g.lower e.size;have b:=b.below m;have c:=c.below m;have e:=btr e m;refine Zm rfl<|Ze (X1 (vs:=[.agg #[.slice q (clB j).length t],.bool true]) rfl rfl)<|Ze (X1 (vs:=[.agg #[.slice q (clB j).length t],.bool true]) rfl rfl)<|Zf (X3 (zs:=[.slice none 0 0]) X23 rfl) ?_;rintro _ w6 ⟨b19,rfl,aL,m,o⟩
  have aM:b3≠b19:=by have:=b.lt;omega
  have aB:=Q0 e.size aL;have b:=b.below m;have c:=c.below m;have g:=g.below m;have e:=btr e m;refine Zo (Vw [.slice q (clB j).length t] X1l o) ?_;rintro _ w7 ⟨ho,hb⟩;have y:=o;have b:=b.only ho (by omega);have c:=c.onlyT ho y rfl;have g:=g.onlyT ho y rfl;have e:=Below.only e ho aB;have o:=hb;refine Za rfl<|Zx aH fun a i _ aN=>?_;refine Ze (Vn X16 o)<|Ze (Vn X16 b)<|Zf (Vc (Xrc _ q t (clB j) g.rd.top Al cl l (aD.below' e).top (by rw [a9,X43 f,X43 x]) (by rw [X43 f];decide)) Xgu) ?_;rintro _ w8 ⟨rfl,m⟩;have b:=b.below m;have c:=c.below m;have e:=btr e m;refine Zt aN fun a i=>?_
  refine Xi i rfl (fun d=>?_) (fun d=>?_)
  ·have aC:=d;have d:=Q2 d
   have aO:j=k:=Xm9 f x (by rw [← a9];exact d)
   refine Zs i fun _ aP=>?_;refine Zm rfl<|Za rfl<|Zt aP fun a i=>?_;refine Q6<|X00<|X8<|X8 ?_;refine X00<|X8<|X4 i (Xp i rfl rfl) ?_;exact ⟨by rw [aO],e⟩
  have aC:=d;have d:=Q1 d
  have aO:j≠k:=fun h8=>d (by rw [a9,h8])
  refine Q7<|Xk<|aF _ _<|Zr i ?_;refine Ze (X02 rfl rfl (by omega) (by omega))<|Zm rfl ?_;refine Zn fun a i=>?_;refine Xn ?_;exact ⟨j+1,⟨i.sb,(by omega),b,c,e⟩,(by omega)⟩
 have aE:=n;have n:=Q1 n
 omega
theorem Xwt(G:World)(tb:List UInt8)(sl:List Nat)(k p:Nat)(L:k<24)(bJ:tb=sl.map sylT)(cK:∀ s ∈ sl,s<3)(bK:sl.length≤40)(dF:p<8) : Ret Tryz.prog 40 [.agg #[.string (tx tb),vi (k:Int),vi (p:Int)]] G (fun v w=>∃ A c,v=.agg #[vi 1,.slice A (fmW k sl p).length c]∧Own w G.heap.size 90 3 encG A c (fmW k sl p)∧Below G.heap.size G w):=by
 have dG:(wsN 24).length=24:=X47 24
 have dH:=(X67 L).2
 have dI:tb.length=sl.length:=by rw [bJ,Qo]
 refine enter Tryz.func40 rfl 62 rfl rfl ?_;intro a m
 have g:=bz G
 refine Zs m fun _ cM=>?_;refine Zf (X0b (zs:=[.string (tx tb),vi (k:Int),vi (p:Int)]) rfl rfl) ?_;rintro _ w1 ⟨b2,rfl,cO,n,b⟩;have dB:=Q0 g.size cO;have g:=btr g n;refine Zf (X3 (zs:=[vi 0,.slice none 0 0]) X64 rfl) ?_;rintro _ w2 ⟨b4,rfl,cP,n,e⟩;have bL:=Q0 g.size cP;have b:=b.below n;have g:=btr g n;refine Zx cM fun a m _ cQ=>?_;refine Ze (Xf (ps:=[(0,vi 1)]) (cs:=[vi 1,.slice none 0 0]) rfl (fun _=>by first|rfl|kernel_rfl))<|Zf (X3 (zs:=[vi 0,.slice none 0 0]) X64 rfl) ?_;rintro _ w3 ⟨b8,rfl,cR,n,d⟩
 have cJ:b4≠b8:=by have:=e.lt;omega
 have I:=Q0 g.size cR;have b:=b.below n;have e:=e.below n;have g:=btr g n;refine Zo (Vw [vi 1,.slice none 0 0] X2s d) ?_;rintro _ w4 ⟨h,hb⟩;have o:=d;have b:=b.only h (Blk.ne b o rfl);have e:=e.only h (by omega);have g:=Below.only g h I;have d:=hb;refine ZX cQ fun a m _ cS=>?_;refine Xy none (fun _=>false) mixed ?_;intro w5 n;have b:=b.below n;have e:=e.below n;have d:=d.below n;have g:=btr g n;refine Yb m<|Yo 1 rfl (fun _=>Vd rfl X54 1)<|Ye 2 rfl (X0 rfl X9 (b.at 1))<|Y1 0 ?_;refine Yk rfl trivial (Vc (Xs7 _) Xhk) (fun _ _ ⟨cU,cV,_,M,n⟩=>n) ?_;rintro _ w6 ⟨cU,cV,rfl,M,n⟩;have M:=M.lower g.size;have b:=b.below n;have e:=e.below n;have d:=d.below n;have g:=btr g n;refine Yi (k:=k) (u:=tx (cw k)) (enc:=encTx) (l:=(wsN 24)) 3 rfl trivial rfl rfl X1g Xfy X1o M.rd (X9l L) rfl ?_;intro dJ aS;refine Ye 4 rfl (X0 rfl X71 aS)<|Yo 5 rfl (fun _=>X0q rfl) ?_;refine Yd fun a m=>?_;refine cS _ _<|Q5 fun _ bM=>?_;refine Zs m fun _ bN=>?_;refine Za rfl<|Zt bN fun a m=>?_;refine Q8<|X04 (σ:=Nat×(List Gt)) (fun (s:Nat×(List Gt)) (a:Act) (w:World)=>match s with|(j,gs)=>∃ aJ aK,Fr a 62 [(1,.pointer (some ⟨b2,0,none⟩)),(2,.pointer (some ⟨b4,0,none⟩)),(3,.pointer (some ⟨b8,0,none⟩)),(4,.string (tx (cw k))),(5,vi (j:Int))]∧(j≤(cw k).length)∧(gs=wdG ((cw k).take j))∧Blk w b2 27 [.string (tx tb),vi (k:Int),vi (p:Int)]∧Blk w b4 43 [vi 0,.slice none 0 0]∧Blk w b8 43 [vi 1,.slice aJ gs.length aK]∧Own w G.heap.size 90 3 encG aJ aK gs∧Below G.heap.size G w) (fun (s:Nat×(List Gt))=>match s with|(j,gs)=>(cw k).length-j) (0,[]) ?_ ?_
 ·exact ⟨none,0,m.sb,(Qf _),rfl,b,e,d,(Own.nil _ _ _ _ _),g⟩
 rintro ⟨j,gs⟩ a w7 ⟨aJ,aK,m,hj,y,b,e,d,q,g⟩
 have dK:gs.length≤9:=by rw [y];simp [wdG];omega
 refine Q5 fun _ bO=>?_;refine Zs m fun _ bP=>?_;refine Zm rfl<|Zm rfl<|Ze (X8z (s:=(cw k)) rfl Tryz.underlying9)<|Ze (X19 rfl rfl)<|Zt bP fun a m=>?_
 refine Xi m rfl (fun B=>?_) (fun B=>?_)
 ·have aT:=B;have B:=Q2 B
  obtain ⟨dL,dC⟩:=Xr (l:=(cw k)) (k:=j) (by omega)
  obtain ⟨u7,aB⟩:=Xr (l:=cw k) (k:=j) (by have:=B;omega)
  refine Q7<|bO _ _<|Q5 fun _ aN=>?_;refine Q8<|Zs m fun _ bQ=>?_;refine Za rfl<|ZX bQ fun a m _ aO=>?_;refine Zs m fun _ bR=>?_;refine Zm rfl<|Zm rfl<|Ze (X90 (s:=(cw k)) (k:=j) (u:=u7) rfl rfl Tryz.underlying9 rfl aB)<|Ze (Xaf rfl rfl)<|Zt bR fun a m=>?_
  refine Xi m rfl (fun J=>?_) (fun J=>?_)
  ·have aU:=J;have aW:=Xgf J;refine Zr m<|Za rfl<|Zt aO fun a m=>?_;refine Zr m<|Ze (Vd rfl X1h 1)<|Ze (X0 rfl X3t (d.at 1))<|Zm rfl<|Ze (Xf (ps:=[(0,vi 5)]) (cs:=[vi 5,vi 0,vi 0]) rfl (fun _=>by first|rfl|kernel_rfl))<|Zf (X7 (k:=1) (vs:=[.agg #[vi 5,vi 0,vi 0]]) (zs:=[vi 5,vi 0,vi 0]) rfl X17 X0y rfl rfl) ?_;rintro _ w8 ⟨dM,rfl,aP,n,aC⟩;have cW:=Q0 g.size aP;have Q:=q.away aP;have b:=b.below n;have e:=e.below n;have d:=d.below n;have q:=q.below n;have g:=btr g n;refine Zf (X0k (enc:=encG) (l:=(gs)) (l2:=([(⟨5,0,0⟩ : Gt)])) (B0:=G.heap.size) rfl rfl X17 X0y X10 X20 q (Rd.of_blk aC rfl _ aC.lt) (by simp only [maxLen];simp;omega) (by simp;omega) g.size) ?_;rintro _ w9 ⟨aX,aY,rfl,aD,y,H⟩
   have f:Own _ G.heap.size 90 3 encG _ _ (gs):=q
   have bG:=H _ aC.lt Q;clear H;have b:=b.appT f y rfl;have e:=e.appT f y rfl;have d:=d.appT f y rfl;have g:=Below.app g f y (Qb _) g.size;clear f y;refine Ze (Vd rfl X1h 1)<|Zo (Vu (vs:=[.slice aX (gs++([(⟨5,0,0⟩ : Gt)])).length aY]) (l':=[vi 1,.slice aX (gs++([(⟨5,0,0⟩ : Gt)])).length aY]) rfl rfl X95 d) ?_;rintro _ dN ⟨h,hb⟩;have o:=d;have b:=b.only h (Blk.ne b o rfl);have e:=e.only h (by omega);have aD:=aD.onlyT h o rfl;have g:=Below.only g h I;have d:=hb;refine Zn fun a m=>?_;refine Xk<|aN _ _<|Zr m<|Zm rfl<|Ze (X02 rfl rfl (by omega) (by omega))<|Za rfl ?_;refine Zn fun a m=>?_;refine Xn ?_;exact ⟨(j+1,gs++([(⟨5,0,0⟩ : Gt)])),⟨aX,aY,m.sb,(by omega),(by rw [y,X6x aB,aW]),b,e,d,aD,g⟩,(by first|omega|(dsimp only;omega))⟩
  have aU:=J;have aW:=Xgl J;refine Q7<|aO _ _<|Zr m<|Ze (Vd rfl X1h 1)<|Ze (X0 rfl X3t (d.at 1))<|Zm rfl<|Ze (Xf (ps:=[(0,vi 1)]) (cs:=[vi 1,vi 0,vi 0]) rfl (fun _=>by first|rfl|kernel_rfl))<|Zf (X7 (k:=1) (vs:=[.agg #[vi 1,vi 0,vi 0]]) (zs:=[vi 1,vi 0,vi 0]) rfl X17 X0y rfl rfl) ?_;rintro _ dP ⟨dQ,rfl,aQ,n,aE⟩;have cX:=Q0 g.size aQ;have U:=q.away aQ;have b:=b.below n;have e:=e.below n;have d:=d.below n;have q:=q.below n;have g:=btr g n;refine Zf (X0k (enc:=encG) (l:=(gs)) (l2:=([(⟨1,0,0⟩ : Gt)])) (B0:=G.heap.size) rfl rfl X17 X0y X10 X20 q (Rd.of_blk aE rfl _ aE.lt) (by simp only [maxLen];simp;omega) (by simp;omega) g.size) ?_;rintro _ dR ⟨aZ,b0,rfl,aF,y,H⟩
  have f:Own _ G.heap.size 90 3 encG _ _ (gs):=q
  have bH:=H _ aE.lt U;clear H;have b:=b.appT f y rfl;have e:=e.appT f y rfl;have d:=d.appT f y rfl;have g:=Below.app g f y (Qb _) g.size;clear f y;refine Ze (Vd rfl X1h 1)<|Zo (Vu (vs:=[.slice aZ (gs++([(⟨1,0,0⟩ : Gt)])).length b0]) (l':=[vi 1,.slice aZ (gs++([(⟨1,0,0⟩ : Gt)])).length b0]) rfl rfl X95 d) ?_;rintro _ dS ⟨h,hb⟩;have o:=d;have b:=b.only h (Blk.ne b o rfl);have e:=e.only h (by omega);have aF:=aF.onlyT h o rfl;have g:=Below.only g h I;have d:=hb;refine Zn fun a m=>?_;refine Xk<|aN _ _<|Zr m<|Zm rfl<|Ze (X02 rfl rfl (by omega) (by omega))<|Za rfl ?_;refine Zn fun a m=>?_;refine Xn ?_;exact ⟨(j+1,gs++([(⟨1,0,0⟩ : Gt)])),⟨aZ,b0,m.sb,(by omega),(by rw [y,X6x aB,aW]),b,e,d,aF,g⟩,(by first|omega|(dsimp only;omega))⟩
 have aT:=B;have B:=Q1 B
 have bS:gs=wdG (cw k):=by rw [y,Qi (by omega)]
 refine Q9<|Xm<|Xm<|X06 ?_;refine bM _ _<|Q5 fun _ bU=>?_;refine Zs m fun _ bW=>?_;refine Ze (Vd rfl X27 0)<|Ze (X0 rfl X71 (b.at 0))<|Ze (X8z (s:=tb) rfl Tryz.underlying9)<|Ze (X1j rfl rfl (by omega) (by omega))<|Za rfl<|Zt bW fun a m=>?_;refine Q8<|X04 (σ:=Nat×Int×(List Gt)) (fun (s:Nat×Int×(List Gt)) (a:Act) (w:World)=>match s with|(j2,i,z)=>∃ aL aM,Fr a 62 [(1,.pointer (some ⟨b2,0,none⟩)),(2,.pointer (some ⟨b4,0,none⟩)),(3,.pointer (some ⟨b8,0,none⟩)),(7,vi i)]∧(j2≤sl.length)∧(i=(sl.length:Int)-1-(j2:Int))∧(z=fmG k (sl.drop (sl.length-j2)))∧Blk w b2 27 [.string (tx tb),vi (k:Int),vi (p:Int)]∧Blk w b4 43 [vi 0,.slice none 0 0]∧Blk w b8 43 [vi 1,.slice aL z.length aM]∧Own w G.heap.size 90 3 encG aL aM z∧Below G.heap.size G w) (fun (s:Nat×Int×(List Gt))=>match s with|(j2,i,z)=>sl.length-j2) (0,((tb.length:Int)-1),gs) ?_ ?_
 ·exact ⟨aJ,aK,m.sb,(Qf _),(by omega),(by rw [bS,Nat.sub_zero,List.drop_length,Xhg]),b,e,d,q,g⟩
 rintro ⟨j2,i,z⟩ a dT ⟨aL,aM,m,dU,hi,b1,b,e,d,E,g⟩
 have dD:z.length≤126:=by rw [b1];exact Xa2 L (by rw [List.length_drop];omega)
 refine Q5 fun _ bZ=>?_;refine Zs m fun _ cA=>?_;refine Zm rfl<|Ze (Xjc rfl rfl)<|Zt cA fun a m=>?_
 refine Xi m rfl (fun t=>?_) (fun t=>?_)
 ·have b3:=t;have t:=Q2 t
  obtain ⟨s,d5,d6,d7⟩:=Xmn (sl:=sl) (j:=j2) (by have:=t;omega)
  have aB:=Xlg bJ d5;have dW:=X5m s;refine Q7<|bZ _ _<|Q5 fun _ cB=>?_;refine Q8<|Xy none (fun j=>[7,9].contains j) mixed ?_;intro dX n;have b:=b.below n;have e:=e.below n;have d:=d.below n;have E:=E.below n;have g:=btr g n;refine Yb m<|Yo 0 rfl (fun _=>Vd rfl X1h 1)<|Ye 1 rfl (X0 rfl X3t (d.at 1))<|Yo 2 rfl (fun _=>Vd rfl X27 0)<|Ye 3 rfl (X0 rfl X71 (b.at 0))<|Yo 4 rfl (fun _=>Xa rfl)<|Yo 5 rfl (fun _=>X90 (s:=tb) (k:=(sl.length-1-j2)) (u:=(sylT s)) rfl rfl Tryz.underlying9 (by omega) aB)<|Y1 6 ?_;refine Yk rfl trivial (Vc (Xsh _ (sylT s) s (cK s d6) rfl) Xi3) (fun _ _ ⟨d8,d9,_,N,n⟩=>n) ?_;rintro _ dY ⟨d8,d9,rfl,N,n⟩;have N:=N.lower g.size;have b:=b.below n;have e:=e.below n;have d:=d.below n;have E:=E.below n;have g:=btr g n;refine Y1 7<|Yt rfl trivial rfl (X0k (enc:=encG) (l:=(z)) (l2:=((sylG s))) (B0:=G.heap.size) rfl rfl X17 X0y X10 X20 E N.rd (by simp only [maxLen];omega) (by omega) g.size) ?_;rintro _ e8 ⟨b5,b6,rfl,aG,y,H⟩
  have f:Own _ G.heap.size 90 3 encG _ _ (z):=E
  clear H;have b:=b.appT f y rfl;have e:=e.appT f y rfl;have d:=d.appT f y rfl;have g:=Below.app g f y (Qb _) g.size;clear f y;refine Yo 8 rfl (fun _=>Vd rfl X1h 1)<|Y1 9 ?_;refine Yh rfl trivial rfl (Vu (vs:=[.slice b5 (z++(sylG s)).length b6]) (l':=[vi 1,.slice b5 (z++(sylG s)).length b6]) rfl rfl X95 d) ?_;rintro _ eA ⟨h,hb⟩;have o:=d;have b:=b.only h (Blk.ne b o rfl);have e:=e.only h (by omega);have aG:=aG.onlyT h o rfl;have g:=Below.only g h I;have d:=hb;refine Yd fun a m=>?_;refine Xk<|cB _ _<|Zr m<|Zm rfl<|Ze (X1j rfl rfl (by omega) (by omega))<|Za rfl ?_;refine Zn fun a m=>?_;refine Xn ?_;exact ⟨(j2+1,(i-1),z++(sylG s)),⟨b5,b6,m.sb,(by omega),(by omega),(by rw [b1,d7,Xet]),b,e,d,aG,g⟩,(by first|omega|(dsimp only;omega))⟩
 have b3:=t;have t:=Q1 t
 have b7:z=fmG k sl:=by rw [b1,show sl.length-j2=0 from by have:=t;omega,List.drop_zero]
 refine Q9<|Xm<|Xm<|X06 ?_;refine bU _ _<|Q5 fun _ cC=>?_;refine Zs m fun _ cD=>?_;refine Za rfl<|Zt cD fun a m=>?_;refine Q8<|X04 (σ:=Nat×(List Gt)) (fun (s:Nat×(List Gt)) (a:Act) (w:World)=>match s with|(j3,x)=>∃ W a9,Fr a 62 [(1,.pointer (some ⟨b2,0,none⟩)),(2,.pointer (some ⟨b4,0,none⟩)),(3,.pointer (some ⟨b8,0,none⟩)),(8,vi (j3:Int))]∧(j3≤p)∧(x=fmW k sl j3)∧Blk w b2 27 [.string (tx tb),vi (k:Int),vi (p:Int)]∧Blk w b4 43 [vi 0,.slice none 0 0]∧Blk w b8 43 [vi 1,.slice W x.length a9]∧Own w G.heap.size 90 3 encG W a9 x∧Below G.heap.size G w) (fun (s:Nat×(List Gt))=>match s with|(j3,x)=>p-j3) (0,z) ?_ ?_
 ·exact ⟨aL,aM,m.sb,(Qf _),(by rw [Xam,b7]),b,e,d,E,g⟩
 rintro ⟨j3,x⟩ a eB ⟨W,a9,m,eC,b9,b,e,d,C,g⟩
 have dE:x.length≤126+j3:=by rw [b9];exact X9a L bK j3
 refine Q5 fun _ cE=>?_;refine Zs m fun _ cF=>?_;refine Zm rfl<|Ze (Vd rfl X4d 2)<|Ze (X0 rfl X9 (b.at 2))<|Ze (X19 rfl rfl)<|Zt cF fun a m=>?_
 refine Xi m rfl (fun D=>?_) (fun D=>?_)
 ·have bC:=D;have D:=Q2 D;refine Q7<|cE _ _<|Q5 fun _ cG=>?_;refine Q8<|Zr m<|Ze (Vd rfl X1h 1)<|Ze (X0 rfl X3t (d.at 1))<|Ze (Xf (ps:=[(0,vi 12)]) (cs:=[vi 12,vi 0,vi 0]) rfl (fun _=>by first|rfl|kernel_rfl))<|Zf (X7 (k:=1) (vs:=[.agg #[vi 12,vi 0,vi 0]]) (zs:=[vi 12,vi 0,vi 0]) rfl X17 X0y rfl rfl) ?_;rintro _ eD ⟨eE,rfl,aR,n,aH⟩;have dA:=Q0 g.size aR;have aA:=C.away aR;have b:=b.below n;have e:=e.below n;have d:=d.below n;have C:=C.below n;have g:=btr g n;refine Zf (X0k (enc:=encG) (l:=(x)) (l2:=([(⟨12,0,0⟩ : Gt)])) (B0:=G.heap.size) rfl rfl X17 X0y X10 X20 C (Rd.of_blk aH rfl _ aH.lt) (by simp only [maxLen];simp;omega) (by simp;omega) g.size) ?_;rintro _ eF ⟨bD,bE,rfl,aI,y,H⟩
  have f:Own _ G.heap.size 90 3 encG _ _ (x):=C
  have bI:=H _ aH.lt aA;clear H;have b:=b.appT f y rfl;have e:=e.appT f y rfl;have d:=d.appT f y rfl;have g:=Below.app g f y (Qb _) g.size;clear f y;refine Ze (Vd rfl X1h 1)<|Zo (Vu (vs:=[.slice bD (x++([(⟨12,0,0⟩ : Gt)])).length bE]) (l':=[vi 1,.slice bD (x++([(⟨12,0,0⟩ : Gt)])).length bE]) rfl rfl X95 d) ?_;rintro _ eH ⟨h,hb⟩;have o:=d;have b:=b.only h (Blk.ne b o rfl);have e:=e.only h (by omega);have aI:=aI.onlyT h o rfl;have g:=Below.only g h I;have d:=hb;refine Zn fun a m=>?_;refine Xk<|cG _ _<|Zr m<|Zm rfl<|Ze (X02 rfl rfl (by omega) (by omega))<|Za rfl ?_;refine Zn fun a m=>?_;refine Xn ?_;exact ⟨(j3+1,x++([(⟨12,0,0⟩ : Gt)])),⟨bD,bE,m.sb,(by omega),(by rw [b9,Xef]),b,e,d,aI,g⟩,(by first|omega|(dsimp only;omega))⟩
 have bC:=D;have D:=Q1 D
 have bF:x=fmW k sl p:=by rw [b9,show j3=p from by have:=D;omega]
 refine Q9<|Xm<|Xm<|X06 ?_;refine cC _ _<|Zs m fun _ cH=>?_;refine Ze (Vn X1i d)<|Zo (Vw [vi 1,.slice W x.length a9] X2s e) ?_;rintro _ eI ⟨h,hb⟩;have o:=e;have C:=C.onlyT h o rfl;have g:=Below.only g h bL;have e:=hb;refine Zt cH fun a m=>?_
 refine Q6 (X4 m (Xp m rfl (ResV.cellN (l:=[vi 1,.slice W x.length a9]) rfl X1i (e.at 0) rfl)) ?_)
 subst bF
 exact ⟨W,a9,rfl,C,g⟩
end Go.Proofs.YtnmabjfoiakapaaGreatDoor
