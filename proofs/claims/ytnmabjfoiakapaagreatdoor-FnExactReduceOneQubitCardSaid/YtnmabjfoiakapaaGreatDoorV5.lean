/-
  What is proved: for every circuit, the program's ReduceOneQubit answers as the reference's does, leaves its argument as it was and hands out memory of its own; the argument and the variable half read as before. Conditions: none beside the variable's value, which the card ties to the program's text.
-/
import Derived.Test.YtnmabjfoiakapaaGreatDoorV4
import Derived.Test.YtnmabjfoiakapaaGreatDoorV2
import Derived.Test.YtnmabjfoiakapaaGreatDoorV3
set_option linter.unusedVariables false
set_option linter.unusedSimpArgs false
set_option maxHeartbeats 1000000
set_option maxRecDepth 4000
set_option linter.unusedSectionVars false
namespace Go.Proofs.YtnmabjfoiakapaaGreatDoor
open Go.RowKit
theorem Xgb(w0:World)(m:Mx)(Am:Option Addr)(cm:Nat)(a9:Rd w0 w0.heap.size 86 encD Am m.cells)(eE:oneQ m=true) : Ret Tryz.prog 61 [.agg #[vi m.rows,vi m.cols,.slice Am m.cells.length cm]] w0 (fun v w=>∃ A c1,v=.tuple #[.agg #[.slice A ((blochI m).getD []).length c1],.bool ((blochI m).isSome)]∧Own w w0.heap.size 86 5 encD A c1 ((blochI m).getD [])∧Below w0.heap.size w0 w):=by
 obtain ⟨_,aA,eF,eH⟩:=X43 eE;refine enter Tryz.func61 rfl 59 rfl rfl ?_;intro a J
 have x:=bz w0
 refine Zs J fun _ gL=>?_;refine Zf (X09 (zs:=[vi m.rows,vi m.cols,.slice Am m.cells.length cm]) rfl rfl) ?_;rintro _ w1 ⟨b3,rfl,gM,o,q⟩;have hJ:=Q0 x.size gM;have x:=btr x o;refine Zf (X4 (zs:=[.slice none 0 0]) X22 rfl) ?_;rintro _ w2 ⟨b5,rfl,gN,o,p⟩;have dA:=Q0 x.size gN;have q:=q.below o;have x:=btr x o;refine Za rfl<|Zx gL fun a J _ gO=>?_;refine Ze (Xg (ps:=[]) (cs:=[.bool false]) rfl (fun _=>by first|rfl|kernel_rfl))<|Zf (X09 (zs:=[.bool false]) rfl rfl) ?_;rintro _ w3 ⟨b7,rfl,gQ,o,t⟩;have L:=Q0 x.size gQ;have q:=q.below o;have p:=p.below o;have x:=btr x o;refine Za rfl<|Zx gO fun a J _ gR=>?_;refine Zf (X4 (zs:=[.slice none 0 0]) X22 rfl) ?_;rintro _ w4 ⟨b10,rfl,eI,o,f⟩
 have eJ:b5≠b10:=by have:=p.lt;omega
 have dB:=Q0 x.size eI;have q:=q.below o;have p:=p.below o;have t:=t.below o;have x:=btr x o;refine ZX gR fun a J _ eK=>?_;refine Zs J fun _ eL=>?_;refine Za rfl<|Zt eL fun a J=>?_;refine Q8<|X03 (σ:=Nat×(List Dy)×Bool) (fun (s:Nat×(List Dy)×Bool) (a:Act) (w:World)=>match s with|(i,l,f1)=>∃ bI bJ,Fr a 59 [(1,.pointer (some ⟨b3,0,none⟩)),(2,.pointer (some ⟨b5,0,none⟩)),(4,.pointer (some ⟨b7,0,none⟩)),(5,.pointer (some ⟨b10,0,none⟩)),(6,vi (i:Int))]∧(i≤3)∧(BlS m (i*3) f1 l)∧Blk w b3 32 [vi m.rows,vi m.cols,.slice Am m.cells.length cm]∧Blk w b5 66 [.slice none 0 0]∧Blk w b7 95 [.bool f1]∧Blk w b10 66 [.slice bI l.length bJ]∧Own w w0.heap.size 86 5 encD bI bJ l∧Below w0.heap.size w0 w) (fun (s:Nat×(List Dy)×Bool)=>match s with|(i,l,f1)=>3-i) (0,[],false) ?_ ?_
 ·exact ⟨none,0,J.sb,(by omega),⟨fun _=>rfl,fun h=>(by cases h),rfl⟩,q,p,t,f,(Own.nil _ _ _ _ _),x⟩
 rintro ⟨i,l,f1⟩ a w5 ⟨bI,bJ,J,hi,hl,q,p,t,f,bM,x⟩;refine Q5 fun _ eM=>?_;refine Zs J fun _ eO=>?_;refine Zm rfl<|Ze (X14 rfl rfl)<|Zt eO fun a J=>?_
 refine Xl J rfl (fun aF=>?_) (fun aF=>?_)
 ·have aB:=aF;have aF:=Q2 aF
  have b9:i<3:=by have:=aF;omega
  refine Q7<|eM _ _<|Q5 fun _ eP=>?_;refine Q8<|Zs J fun _ eQ=>?_;refine Za rfl<|Zt eQ fun a J=>?_;refine Q8<|X03 (σ:=Nat×(List Dy)×Bool) (fun (s:Nat×(List Dy)×Bool) (a:Act) (w:World)=>match s with|(j,l2,e)=>∃ bC bE,Fr a 59 [(1,.pointer (some ⟨b3,0,none⟩)),(2,.pointer (some ⟨b5,0,none⟩)),(4,.pointer (some ⟨b7,0,none⟩)),(5,.pointer (some ⟨b10,0,none⟩)),(6,vi (i:Int)),(7,vi (j:Int))]∧(j≤3)∧(BlS m (i*3+j) e l2)∧Blk w b3 32 [vi m.rows,vi m.cols,.slice Am m.cells.length cm]∧Blk w b5 66 [.slice none 0 0]∧Blk w b7 95 [.bool e]∧Blk w b10 66 [.slice bC l2.length bE]∧Own w w0.heap.size 86 5 encD bC bE l2∧Below w0.heap.size w0 w) (fun (s:Nat×(List Dy)×Bool)=>match s with|(j,l2,e)=>3-j) (0,l,f1) ?_ ?_
  ·exact ⟨bI,bJ,J.sb,(by omega),hl,q,p,t,f,bM,x⟩
  rintro ⟨j,l2,e⟩ a w6 ⟨bC,bE,J,hj,dC,q,p,t,f,n,x⟩;refine Q5 fun _ eR=>?_;refine Zs J fun _ eS=>?_;refine Zm rfl<|Ze (X14 rfl rfl)<|Zt eS fun a J=>?_
  refine Xl J rfl (fun aG=>?_) (fun aG=>?_)
  ·have aC:=aG;have aG:=Q2 aG
   have aJ:j<3:=by have:=aG;omega
   have hP:l2.length=i*3+j:=dC.2.2
   obtain ⟨x1,x2,x3,x4,x5,x6,x7⟩:=Xgf aA eF eH e b9 aJ;have gU:=Xl1 aA eF eH b9 aJ dC;refine Q7<|eR _ _<|Q5 fun _ eT=>?_;refine Q8<|Q5 fun _ eU=>?_;refine X0a (fun a w=>∃ b32 aO bD,Fr a 59 [(1,.pointer (some ⟨b3,0,none⟩)),(2,.pointer (some ⟨b5,0,none⟩)),(4,.pointer (some ⟨b7,0,none⟩)),(5,.pointer (some ⟨b10,0,none⟩)),(6,vi (i:Int)),(7,vi (j:Int)),(8,.pointer (some ⟨b32,0,none⟩))]∧w0.heap.size≤b32∧Blk w b32 32 [vi (((timesS ((timesS ((timesS e (pauM i) m).1) ((timesS e (pauM i) m).2) (pauM j)).1) ((timesS ((timesS e (pauM i) m).1) ((timesS e (pauM i) m).2) (pauM j)).2) (adjS m)).2).rows),vi (((timesS ((timesS ((timesS e (pauM i) m).1) ((timesS e (pauM i) m).2) (pauM j)).1) ((timesS ((timesS e (pauM i) m).1) ((timesS e (pauM i) m).2) (pauM j)).2) (adjS m)).2).cols),.slice aO (((timesS ((timesS ((timesS e (pauM i) m).1) ((timesS e (pauM i) m).2) (pauM j)).1) ((timesS ((timesS e (pauM i) m).1) ((timesS e (pauM i) m).2) (pauM j)).2) (adjS m)).2).cells).length bD]∧b3≠b32∧Own w w0.heap.size 86 5 encD aO bD (((timesS ((timesS ((timesS e (pauM i) m).1) ((timesS e (pauM i) m).2) (pauM j)).1) ((timesS ((timesS e (pauM i) m).1) ((timesS e (pauM i) m).2) (pauM j)).2) (adjS m)).2).cells)∧Blk w b3 32 [vi m.rows,vi m.cols,.slice Am m.cells.length cm]∧Blk w b5 66 [.slice none 0 0]∧Blk w b7 95 [.bool ((timesS ((timesS ((timesS e (pauM i) m).1) ((timesS e (pauM i) m).2) (pauM j)).1) ((timesS ((timesS e (pauM i) m).1) ((timesS e (pauM i) m).2) (pauM j)).2) (adjS m)).1)]∧Blk w b10 66 [.slice bC l2.length bE]∧Own w w0.heap.size 86 5 encD bC bE l2∧Below w0.heap.size w0 w) ?_ ?_
   ·refine X07 (some b7) (fun j=>[14].contains j) mixed ?_;intro w7 o;have q:=q.below o;have p:=p.below o;have t:=t.below o;have f:=f.below o;have n:=n.below o;have x:=btr x o;refine Yb J<|Yo 0 rfl (fun _=>Xb rfl)<|Yo 1 rfl (fun _=>Xb rfl)<|Yo 2 rfl (fun _=>Xb rfl)<|Yo 3 rfl (fun _=>Xb rfl) ?_;refine Yw 5 rfl trivial (fun w1 h1=>Xy (l:=[vi m.rows,vi m.cols,.slice Am m.cells.length cm]) rfl Xp ((q.only h1 (Blk.ne q t rfl)).at 0) rfl) ?_;refine Yo 7 rfl (fun _=>Xb rfl) ?_;refine Yw 10 rfl trivial (fun w1 h1=>Xy (l:=[vi m.rows,vi m.cols,.slice Am m.cells.length cm]) rfl Xp ((q.only h1 (Blk.ne q t rfl)).at 0) rfl) ?_;refine Y2 4 13 ?_ ?_
    ·refine Yf rfl trivial (EfW.mono (Vc (Xbf _ i b9) X6f) (fun _ _ h=>⟨fun _=>by obtain ⟨dD,dE,rfl,aL,o⟩:=h;exact Keep.of_below o,h⟩)) ?_;rintro _ w8 ⟨dD,dE,rfl,aL,o⟩;have aL:=aL.lower x.size;have q:=q.below o;have p:=p.below o;have t:=t.below o;have f:=f.below o;have n:=n.below o;have x:=btr x o;refine Y2 6 13 ?_ ?_
     ·refine Yf rfl trivial (EfW.mono (Vc (X5k _ b7 e t (pauM i) dD dE aL.rd.top m Am cm (a9.below' x).top (X3s b9) aA x5) X2a) (fun _ _ h=>⟨fun _=>by obtain ⟨cX,d5,rfl,U,D,y⟩:=h;exact D.keep,h⟩)) ?_;rintro _ w9 ⟨cX,d5,rfl,U,D,y⟩;have E:=x.size;obtain ⟨wm,z,hm,o⟩:=D.mid;clear hm;have g:=t;have q:=q.only z (Blk.ne q g rfl);have p:=p.only z (Blk.ne p g rfl);have f:=f.only z (Blk.ne f g rfl);have n:=n.onlyT z g rfl;have x:=Below.only x z L;have q:=q.below o;have p:=p.below o;have f:=f.below o;have n:=n.below o;have x:=btr x o
      clear g o z D;have t:=y;clear y
      have U:=U.lower E;clear E;refine Y2 8 13 ?_ ?_
      ·refine Yf rfl trivial (EfW.mono (Vc (Xbf _ j aJ) X6f) (fun _ _ h=>⟨fun _=>by obtain ⟨dF,dG,rfl,aM,o⟩:=h;exact Keep.of_below o,h⟩)) ?_;rintro _ hU ⟨dF,dG,rfl,aM,o⟩;have aM:=aM.lower x.size;have q:=q.below o;have p:=p.below o;have t:=t.below o;have f:=f.below o;have n:=n.below o;have U:=U.below o;have x:=btr x o;refine Y2 9 13 ?_ ?_
       ·refine Yf rfl trivial (EfW.mono (Vc (X5k _ b7 ((timesS e (pauM i) m).1) t ((timesS e (pauM i) m).2) cX d5 U.rd.top (pauM j) dF dG aM.rd.top x1 (X3s aJ) x2) X2a) (fun _ _ h=>⟨fun _=>by obtain ⟨d6,d7,rfl,W,D,y⟩:=h;exact D.keep,h⟩)) ?_;rintro _ i0 ⟨d6,d7,rfl,W,D,y⟩;have E:=x.size;obtain ⟨wm,z,hm,o⟩:=D.mid;clear hm;have g:=t;have q:=q.only z (Blk.ne q g rfl);have p:=p.only z (Blk.ne p g rfl);have f:=f.only z (Blk.ne f g rfl);have n:=n.onlyT z g rfl;have x:=Below.only x z L;have q:=q.below o;have p:=p.below o;have f:=f.below o;have n:=n.below o;have x:=btr x o
        clear g o z D;have t:=y;clear y
        have W:=W.lower E;clear E;refine Y2 11 13 ?_ ?_
        ·refine Yf rfl trivial (EfW.mono (Vc (X8l _ m Am cm (a9.below' x).top aA) X4j) (fun _ _ h=>⟨fun _=>by obtain ⟨dH,dI,rfl,aN,o⟩:=h;exact Keep.of_below o,h⟩)) ?_;rintro _ i1 ⟨dH,dI,rfl,aN,o⟩;have aN:=aN.lower x.size;have q:=q.below o;have p:=p.below o;have t:=t.below o;have f:=f.below o;have n:=n.below o;have W:=W.below o;have x:=btr x o;refine Y2 12 13 ?_ ?_
         ·refine Yf rfl trivial (EfW.mono (Vc (X5k _ b7 ((timesS ((timesS e (pauM i) m).1) ((timesS e (pauM i) m).2) (pauM j)).1) t ((timesS ((timesS e (pauM i) m).1) ((timesS e (pauM i) m).2) (pauM j)).2) d6 d7 W.rd.top (adjS m) dH dI aN.rd.top x3 (X2o aA) x4) X2a) (fun _ _ h=>⟨fun _=>by obtain ⟨aO,bD,rfl,B,D,y⟩:=h;exact D.keep,h⟩)) ?_;rintro _ i3 ⟨aO,bD,rfl,B,D,y⟩;have E:=x.size;obtain ⟨wm,z,hm,o⟩:=D.mid;clear hm;have g:=t;have q:=q.only z (Blk.ne q g rfl);have p:=p.only z (Blk.ne p g rfl);have f:=f.only z (Blk.ne f g rfl);have n:=n.onlyT z g rfl;have x:=Below.only x z L;have q:=q.below o;have p:=p.below o;have f:=f.below o;have n:=n.below o;have x:=btr x o
          clear g o z D;have t:=y;clear y
          have B:=B.lower E;clear E;refine Y1 13<|Yf rfl trivial (EfW.mono (X4 (zs:=[vi 0,vi 0,.slice none 0 0]) X12 rfl) (fun _ _ h=>⟨fun _=>by obtain ⟨_,_,_,o,_⟩:=h;exact Keep.of_below o,h⟩)) ?_;rintro _ i4 ⟨b32,rfl,eV,o,C⟩
          have bF:b3≠b32:=by have:=q.lt;omega
          have bK:=Q0 x.size eV;have q:=q.below o;have p:=p.below o;have t:=t.below o;have f:=f.below o;have n:=n.below o;have B:=B.below o;have x:=btr x o;refine Y1 14<|Yh rfl trivial rfl (Vw [vi (((timesS ((timesS ((timesS e (pauM i) m).1) ((timesS e (pauM i) m).2) (pauM j)).1) ((timesS ((timesS e (pauM i) m).1) ((timesS e (pauM i) m).2) (pauM j)).2) (adjS m)).2).rows),vi (((timesS ((timesS ((timesS e (pauM i) m).1) ((timesS e (pauM i) m).2) (pauM j)).1) ((timesS ((timesS e (pauM i) m).1) ((timesS e (pauM i) m).2) (pauM j)).2) (adjS m)).2).cols),.slice aO (((timesS ((timesS ((timesS e (pauM i) m).1) ((timesS e (pauM i) m).2) (pauM j)).1) ((timesS ((timesS e (pauM i) m).1) ((timesS e (pauM i) m).2) (pauM j)).2) (adjS m)).2).cells).length bD] X0c C) ?_;rintro _ i5 ⟨G,hb⟩;have g:=C;have q:=q.only G (by omega);have p:=p.only G (Blk.ne p g rfl);have t:=t.only G (Blk.ne t g rfl);have f:=f.only G (Blk.ne f g rfl);have n:=n.onlyT G g rfl;have B:=B.onlyT G g rfl;have x:=Below.only x G bK;have C:=hb;refine Yd fun a J=>?_;exact ⟨b32,aO,bD,J.sb,bK,C,bF,B,q,p,t,f,n,x⟩
         refine Yf rfl trivial (EfW.mono (X4 (zs:=[vi 0,vi 0,.slice none 0 0]) X12 rfl) (fun _ _ h=>⟨fun _=>by obtain ⟨_,_,_,o,_⟩:=h;exact Keep.of_below o,h⟩)) ?_;rintro _ i6 ⟨b34,rfl,eW,o,aH⟩
         have cD:b3≠b34:=by have:=q.lt;omega
         have cE:=Q0 x.size eW;have q:=q.below o;have p:=p.below o;have t:=t.below o;have f:=f.below o;have n:=n.below o;have W:=W.below o;have aN:=aN.below o;have x:=btr x o;refine Y1 12<|Yf rfl trivial (EfW.mono (Vc (X5k _ b7 ((timesS ((timesS e (pauM i) m).1) ((timesS e (pauM i) m).2) (pauM j)).1) t ((timesS ((timesS e (pauM i) m).1) ((timesS e (pauM i) m).2) (pauM j)).2) d6 d7 W.rd.top (adjS m) dH dI aN.rd.top x3 (X2o aA) x4) X2a) (fun _ _ h=>⟨fun _=>by obtain ⟨dJ,dK,rfl,aQ,D,y⟩:=h;exact D.keep,h⟩)) ?_;rintro _ i7 ⟨dJ,dK,rfl,aQ,D,y⟩;have E:=x.size;obtain ⟨wm,z,hm,o⟩:=D.mid;clear hm;have g:=t;have q:=q.only z (Blk.ne q g rfl);have p:=p.only z (Blk.ne p g rfl);have f:=f.only z (Blk.ne f g rfl);have aH:=aH.only z (Blk.ne aH g rfl);have n:=n.onlyT z g rfl;have x:=Below.only x z L;have q:=q.below o;have p:=p.below o;have f:=f.below o;have aH:=aH.below o;have n:=n.below o;have x:=btr x o
         clear g o z D;have t:=y;clear y
         have aQ:=aQ.lower E;clear E;refine Y1 14<|Yh rfl trivial rfl (Vw [vi (((timesS ((timesS ((timesS e (pauM i) m).1) ((timesS e (pauM i) m).2) (pauM j)).1) ((timesS ((timesS e (pauM i) m).1) ((timesS e (pauM i) m).2) (pauM j)).2) (adjS m)).2).rows),vi (((timesS ((timesS ((timesS e (pauM i) m).1) ((timesS e (pauM i) m).2) (pauM j)).1) ((timesS ((timesS e (pauM i) m).1) ((timesS e (pauM i) m).2) (pauM j)).2) (adjS m)).2).cols),.slice dJ (((timesS ((timesS ((timesS e (pauM i) m).1) ((timesS e (pauM i) m).2) (pauM j)).1) ((timesS ((timesS e (pauM i) m).1) ((timesS e (pauM i) m).2) (pauM j)).2) (adjS m)).2).cells).length dK] X0c aH) ?_;rintro _ i8 ⟨G,hb⟩;have g:=aH;have q:=q.only G (by omega);have p:=p.only G (Blk.ne p g rfl);have t:=t.only G (Blk.ne t g rfl);have f:=f.only G (Blk.ne f g rfl);have n:=n.onlyT G g rfl;have aQ:=aQ.onlyT G g rfl;have x:=Below.only x G cE;have aH:=hb;refine Yd fun a J=>?_;exact ⟨b34,dJ,dK,J.sub ⟨rfl,rfl,rfl,rfl,rfl,rfl,(by first|rfl|(simp [look,aB,aC])),trivial⟩,cE,aH,cD,aQ,q,p,t,f,n,x⟩
        refine Yf rfl trivial (EfW.mono (X4 (zs:=[vi 0,vi 0,.slice none 0 0]) X12 rfl) (fun _ _ h=>⟨fun _=>by obtain ⟨_,_,_,o,_⟩:=h;exact Keep.of_below o,h⟩)) ?_;rintro _ i9 ⟨b37,rfl,eX,o,aD⟩
        have cF:b3≠b37:=by have:=q.lt;omega
        have cG:=Q0 x.size eX;have q:=q.below o;have p:=p.below o;have t:=t.below o;have f:=f.below o;have n:=n.below o;have W:=W.below o;have x:=btr x o;refine Y1 11<|Yf rfl trivial (EfW.mono (Vc (X8l _ m Am cm (a9.below' x).top aA) X4j) (fun _ _ h=>⟨fun _=>by obtain ⟨eY,eZ,rfl,bN,o⟩:=h;exact Keep.of_below o,h⟩)) ?_;rintro _ iA ⟨eY,eZ,rfl,bN,o⟩;have bN:=bN.lower x.size;have q:=q.below o;have p:=p.below o;have t:=t.below o;have f:=f.below o;have aD:=aD.below o;have n:=n.below o;have W:=W.below o;have x:=btr x o;refine Y1 12<|Yf rfl trivial (EfW.mono (Vc (X5k _ b7 ((timesS ((timesS e (pauM i) m).1) ((timesS e (pauM i) m).2) (pauM j)).1) t ((timesS ((timesS e (pauM i) m).1) ((timesS e (pauM i) m).2) (pauM j)).2) d6 d7 W.rd.top (adjS m) eY eZ bN.rd.top x3 (X2o aA) x4) X2a) (fun _ _ h=>⟨fun _=>by obtain ⟨dL,dM,rfl,aR,D,y⟩:=h;exact D.keep,h⟩)) ?_;rintro _ iB ⟨dL,dM,rfl,aR,D,y⟩;have E:=x.size;obtain ⟨wm,z,hm,o⟩:=D.mid;clear hm;have g:=t;have q:=q.only z (Blk.ne q g rfl);have p:=p.only z (Blk.ne p g rfl);have f:=f.only z (Blk.ne f g rfl);have aD:=aD.only z (Blk.ne aD g rfl);have n:=n.onlyT z g rfl;have x:=Below.only x z L;have q:=q.below o;have p:=p.below o;have f:=f.below o;have aD:=aD.below o;have n:=n.below o;have x:=btr x o
        clear g o z D;have t:=y;clear y
        have aR:=aR.lower E;clear E;refine Y1 14<|Yh rfl trivial rfl (Vw [vi (((timesS ((timesS ((timesS e (pauM i) m).1) ((timesS e (pauM i) m).2) (pauM j)).1) ((timesS ((timesS e (pauM i) m).1) ((timesS e (pauM i) m).2) (pauM j)).2) (adjS m)).2).rows),vi (((timesS ((timesS ((timesS e (pauM i) m).1) ((timesS e (pauM i) m).2) (pauM j)).1) ((timesS ((timesS e (pauM i) m).1) ((timesS e (pauM i) m).2) (pauM j)).2) (adjS m)).2).cols),.slice dL (((timesS ((timesS ((timesS e (pauM i) m).1) ((timesS e (pauM i) m).2) (pauM j)).1) ((timesS ((timesS e (pauM i) m).1) ((timesS e (pauM i) m).2) (pauM j)).2) (adjS m)).2).cells).length dM] X0c aD) ?_;rintro _ iC ⟨G,hb⟩;have g:=aD;have q:=q.only G (by omega);have p:=p.only G (Blk.ne p g rfl);have t:=t.only G (Blk.ne t g rfl);have f:=f.only G (Blk.ne f g rfl);have n:=n.onlyT G g rfl;have aR:=aR.onlyT G g rfl;have x:=Below.only x G cG;have aD:=hb;refine Yd fun a J=>?_;exact ⟨b37,dL,dM,J.sub ⟨rfl,rfl,rfl,rfl,rfl,rfl,(by first|rfl|(simp [look,aB,aC])),trivial⟩,cG,aD,cF,aR,q,p,t,f,n,x⟩
       refine Yf rfl trivial (EfW.mono (X4 (zs:=[vi 0,vi 0,.slice none 0 0]) X12 rfl) (fun _ _ h=>⟨fun _=>by obtain ⟨_,_,_,o,_⟩:=h;exact Keep.of_below o,h⟩)) ?_;rintro _ iD ⟨b41,rfl,f7,o,Q⟩
       have cH:b3≠b41:=by have:=q.lt;omega
       have cJ:=Q0 x.size f7;have q:=q.below o;have p:=p.below o;have t:=t.below o;have f:=f.below o;have n:=n.below o;have U:=U.below o;have aM:=aM.below o;have x:=btr x o;refine Y1 9<|Yf rfl trivial (EfW.mono (Vc (X5k _ b7 ((timesS e (pauM i) m).1) t ((timesS e (pauM i) m).2) cX d5 U.rd.top (pauM j) dF dG aM.rd.top x1 (X3s aJ) x2) X2a) (fun _ _ h=>⟨fun _=>by obtain ⟨f8,f9,rfl,aS,D,y⟩:=h;exact D.keep,h⟩)) ?_;rintro _ iE ⟨f8,f9,rfl,aS,D,y⟩;have E:=x.size;obtain ⟨wm,z,hm,o⟩:=D.mid;clear hm;have g:=t;have q:=q.only z (Blk.ne q g rfl);have p:=p.only z (Blk.ne p g rfl);have f:=f.only z (Blk.ne f g rfl);have Q:=Q.only z (Blk.ne Q g rfl);have n:=n.onlyT z g rfl;have x:=Below.only x z L;have q:=q.below o;have p:=p.below o;have f:=f.below o;have Q:=Q.below o;have n:=n.below o;have x:=btr x o
       clear g o z D;have t:=y;clear y
       have aS:=aS.lower E;clear E;refine Y1 11<|Yf rfl trivial (EfW.mono (Vc (X8l _ m Am cm (a9.below' x).top aA) X4j) (fun _ _ h=>⟨fun _=>by obtain ⟨fA,fB,rfl,bO,o⟩:=h;exact Keep.of_below o,h⟩)) ?_;rintro _ iF ⟨fA,fB,rfl,bO,o⟩;have bO:=bO.lower x.size;have q:=q.below o;have p:=p.below o;have t:=t.below o;have f:=f.below o;have Q:=Q.below o;have n:=n.below o;have aS:=aS.below o;have x:=btr x o;refine Y1 12<|Yf rfl trivial (EfW.mono (Vc (X5k _ b7 ((timesS ((timesS e (pauM i) m).1) ((timesS e (pauM i) m).2) (pauM j)).1) t ((timesS ((timesS e (pauM i) m).1) ((timesS e (pauM i) m).2) (pauM j)).2) f8 f9 aS.rd.top (adjS m) fA fB bO.rd.top x3 (X2o aA) x4) X2a) (fun _ _ h=>⟨fun _=>by obtain ⟨dN,dP,rfl,aT,D,y⟩:=h;exact D.keep,h⟩)) ?_;rintro _ iG ⟨dN,dP,rfl,aT,D,y⟩;have E:=x.size;obtain ⟨wm,z,hm,o⟩:=D.mid;clear hm;have g:=t;have q:=q.only z (Blk.ne q g rfl);have p:=p.only z (Blk.ne p g rfl);have f:=f.only z (Blk.ne f g rfl);have Q:=Q.only z (Blk.ne Q g rfl);have n:=n.onlyT z g rfl;have x:=Below.only x z L;have q:=q.below o;have p:=p.below o;have f:=f.below o;have Q:=Q.below o;have n:=n.below o;have x:=btr x o
       clear g o z D;have t:=y;clear y
       have aT:=aT.lower E;clear E;refine Y1 14<|Yh rfl trivial rfl (Vw [vi (((timesS ((timesS ((timesS e (pauM i) m).1) ((timesS e (pauM i) m).2) (pauM j)).1) ((timesS ((timesS e (pauM i) m).1) ((timesS e (pauM i) m).2) (pauM j)).2) (adjS m)).2).rows),vi (((timesS ((timesS ((timesS e (pauM i) m).1) ((timesS e (pauM i) m).2) (pauM j)).1) ((timesS ((timesS e (pauM i) m).1) ((timesS e (pauM i) m).2) (pauM j)).2) (adjS m)).2).cols),.slice dN (((timesS ((timesS ((timesS e (pauM i) m).1) ((timesS e (pauM i) m).2) (pauM j)).1) ((timesS ((timesS e (pauM i) m).1) ((timesS e (pauM i) m).2) (pauM j)).2) (adjS m)).2).cells).length dP] X0c Q) ?_;rintro _ iH ⟨G,hb⟩;have g:=Q;have q:=q.only G (by omega);have p:=p.only G (Blk.ne p g rfl);have t:=t.only G (Blk.ne t g rfl);have f:=f.only G (Blk.ne f g rfl);have n:=n.onlyT G g rfl;have aT:=aT.onlyT G g rfl;have x:=Below.only x G cJ;have Q:=hb;refine Yd fun a J=>?_;exact ⟨b41,dN,dP,J.sub ⟨rfl,rfl,rfl,rfl,rfl,rfl,(by first|rfl|(simp [look,aB,aC])),trivial⟩,cJ,Q,cH,aT,q,p,t,f,n,x⟩
      refine Yf rfl trivial (EfW.mono (X4 (zs:=[vi 0,vi 0,.slice none 0 0]) X12 rfl) (fun _ _ h=>⟨fun _=>by obtain ⟨_,_,_,o,_⟩:=h;exact Keep.of_below o,h⟩)) ?_;rintro _ iI ⟨b46,rfl,fC,o,M⟩
      have cK:b3≠b46:=by have:=q.lt;omega
      have cM:=Q0 x.size fC;have q:=q.below o;have p:=p.below o;have t:=t.below o;have f:=f.below o;have n:=n.below o;have U:=U.below o;have x:=btr x o;refine Y1 8<|Yf rfl trivial (EfW.mono (Vc (Xbf _ j aJ) X6f) (fun _ _ h=>⟨fun _=>by obtain ⟨fD,fE,rfl,bP,o⟩:=h;exact Keep.of_below o,h⟩)) ?_;rintro _ iJ ⟨fD,fE,rfl,bP,o⟩;have bP:=bP.lower x.size;have q:=q.below o;have p:=p.below o;have t:=t.below o;have f:=f.below o;have M:=M.below o;have n:=n.below o;have U:=U.below o;have x:=btr x o;refine Y1 9<|Yf rfl trivial (EfW.mono (Vc (X5k _ b7 ((timesS e (pauM i) m).1) t ((timesS e (pauM i) m).2) cX d5 U.rd.top (pauM j) fD fE bP.rd.top x1 (X3s aJ) x2) X2a) (fun _ _ h=>⟨fun _=>by obtain ⟨fF,fG,rfl,aU,D,y⟩:=h;exact D.keep,h⟩)) ?_;rintro _ iK ⟨fF,fG,rfl,aU,D,y⟩;have E:=x.size;obtain ⟨wm,z,hm,o⟩:=D.mid;clear hm;have g:=t;have q:=q.only z (Blk.ne q g rfl);have p:=p.only z (Blk.ne p g rfl);have f:=f.only z (Blk.ne f g rfl);have M:=M.only z (Blk.ne M g rfl);have n:=n.onlyT z g rfl;have x:=Below.only x z L;have q:=q.below o;have p:=p.below o;have f:=f.below o;have M:=M.below o;have n:=n.below o;have x:=btr x o
      clear g o z D;have t:=y;clear y
      have aU:=aU.lower E;clear E;refine Y1 11<|Yf rfl trivial (EfW.mono (Vc (X8l _ m Am cm (a9.below' x).top aA) X4j) (fun _ _ h=>⟨fun _=>by obtain ⟨fH,fI,rfl,bQ,o⟩:=h;exact Keep.of_below o,h⟩)) ?_;rintro _ iM ⟨fH,fI,rfl,bQ,o⟩;have bQ:=bQ.lower x.size;have q:=q.below o;have p:=p.below o;have t:=t.below o;have f:=f.below o;have M:=M.below o;have n:=n.below o;have aU:=aU.below o;have x:=btr x o;refine Y1 12<|Yf rfl trivial (EfW.mono (Vc (X5k _ b7 ((timesS ((timesS e (pauM i) m).1) ((timesS e (pauM i) m).2) (pauM j)).1) t ((timesS ((timesS e (pauM i) m).1) ((timesS e (pauM i) m).2) (pauM j)).2) fF fG aU.rd.top (adjS m) fH fI bQ.rd.top x3 (X2o aA) x4) X2a) (fun _ _ h=>⟨fun _=>by obtain ⟨dQ,dR,rfl,aW,D,y⟩:=h;exact D.keep,h⟩)) ?_;rintro _ iN ⟨dQ,dR,rfl,aW,D,y⟩;have E:=x.size;obtain ⟨wm,z,hm,o⟩:=D.mid;clear hm;have g:=t;have q:=q.only z (Blk.ne q g rfl);have p:=p.only z (Blk.ne p g rfl);have f:=f.only z (Blk.ne f g rfl);have M:=M.only z (Blk.ne M g rfl);have n:=n.onlyT z g rfl;have x:=Below.only x z L;have q:=q.below o;have p:=p.below o;have f:=f.below o;have M:=M.below o;have n:=n.below o;have x:=btr x o
      clear g o z D;have t:=y;clear y
      have aW:=aW.lower E;clear E;refine Y1 14<|Yh rfl trivial rfl (Vw [vi (((timesS ((timesS ((timesS e (pauM i) m).1) ((timesS e (pauM i) m).2) (pauM j)).1) ((timesS ((timesS e (pauM i) m).1) ((timesS e (pauM i) m).2) (pauM j)).2) (adjS m)).2).rows),vi (((timesS ((timesS ((timesS e (pauM i) m).1) ((timesS e (pauM i) m).2) (pauM j)).1) ((timesS ((timesS e (pauM i) m).1) ((timesS e (pauM i) m).2) (pauM j)).2) (adjS m)).2).cols),.slice dQ (((timesS ((timesS ((timesS e (pauM i) m).1) ((timesS e (pauM i) m).2) (pauM j)).1) ((timesS ((timesS e (pauM i) m).1) ((timesS e (pauM i) m).2) (pauM j)).2) (adjS m)).2).cells).length dR] X0c M) ?_;rintro _ iO ⟨G,hb⟩;have g:=M;have q:=q.only G (by omega);have p:=p.only G (Blk.ne p g rfl);have t:=t.only G (Blk.ne t g rfl);have f:=f.only G (Blk.ne f g rfl);have n:=n.onlyT G g rfl;have aW:=aW.onlyT G g rfl;have x:=Below.only x G cM;have M:=hb;refine Yd fun a J=>?_;exact ⟨b46,dQ,dR,J.sub ⟨rfl,rfl,rfl,rfl,rfl,rfl,(by first|rfl|(simp [look,aB,aC])),trivial⟩,cM,M,cK,aW,q,p,t,f,n,x⟩
     refine Yf rfl trivial (EfW.mono (X4 (zs:=[vi 0,vi 0,.slice none 0 0]) X12 rfl) (fun _ _ h=>⟨fun _=>by obtain ⟨_,_,_,o,_⟩:=h;exact Keep.of_below o,h⟩)) ?_;rintro _ iP ⟨b52,rfl,fJ,o,I⟩
     have cO:b3≠b52:=by have:=q.lt;omega
     have cP:=Q0 x.size fJ;have q:=q.below o;have p:=p.below o;have t:=t.below o;have f:=f.below o;have n:=n.below o;have aL:=aL.below o;have x:=btr x o;refine Y1 6<|Yf rfl trivial (EfW.mono (Vc (X5k _ b7 e t (pauM i) dD dE aL.rd.top m Am cm (a9.below' x).top (X3s b9) aA x5) X2a) (fun _ _ h=>⟨fun _=>by obtain ⟨fK,fL,rfl,aX,D,y⟩:=h;exact D.keep,h⟩)) ?_;rintro _ iQ ⟨fK,fL,rfl,aX,D,y⟩;have E:=x.size;obtain ⟨wm,z,hm,o⟩:=D.mid;clear hm;have g:=t;have q:=q.only z (Blk.ne q g rfl);have p:=p.only z (Blk.ne p g rfl);have f:=f.only z (Blk.ne f g rfl);have I:=I.only z (Blk.ne I g rfl);have n:=n.onlyT z g rfl;have x:=Below.only x z L;have q:=q.below o;have p:=p.below o;have f:=f.below o;have I:=I.below o;have n:=n.below o;have x:=btr x o
     clear g o z D;have t:=y;clear y
     have aX:=aX.lower E;clear E;refine Y1 8<|Yf rfl trivial (EfW.mono (Vc (Xbf _ j aJ) X6f) (fun _ _ h=>⟨fun _=>by obtain ⟨fM,fN,rfl,bR,o⟩:=h;exact Keep.of_below o,h⟩)) ?_;rintro _ iS ⟨fM,fN,rfl,bR,o⟩;have bR:=bR.lower x.size;have q:=q.below o;have p:=p.below o;have t:=t.below o;have f:=f.below o;have I:=I.below o;have n:=n.below o;have aX:=aX.below o;have x:=btr x o;refine Y1 9<|Yf rfl trivial (EfW.mono (Vc (X5k _ b7 ((timesS e (pauM i) m).1) t ((timesS e (pauM i) m).2) fK fL aX.rd.top (pauM j) fM fN bR.rd.top x1 (X3s aJ) x2) X2a) (fun _ _ h=>⟨fun _=>by obtain ⟨fO,fP,rfl,aY,D,y⟩:=h;exact D.keep,h⟩)) ?_;rintro _ iT ⟨fO,fP,rfl,aY,D,y⟩;have E:=x.size;obtain ⟨wm,z,hm,o⟩:=D.mid;clear hm;have g:=t;have q:=q.only z (Blk.ne q g rfl);have p:=p.only z (Blk.ne p g rfl);have f:=f.only z (Blk.ne f g rfl);have I:=I.only z (Blk.ne I g rfl);have n:=n.onlyT z g rfl;have x:=Below.only x z L;have q:=q.below o;have p:=p.below o;have f:=f.below o;have I:=I.below o;have n:=n.below o;have x:=btr x o
     clear g o z D;have t:=y;clear y
     have aY:=aY.lower E;clear E;refine Y1 11<|Yf rfl trivial (EfW.mono (Vc (X8l _ m Am cm (a9.below' x).top aA) X4j) (fun _ _ h=>⟨fun _=>by obtain ⟨fQ,fR,rfl,bS,o⟩:=h;exact Keep.of_below o,h⟩)) ?_;rintro _ iU ⟨fQ,fR,rfl,bS,o⟩;have bS:=bS.lower x.size;have q:=q.below o;have p:=p.below o;have t:=t.below o;have f:=f.below o;have I:=I.below o;have n:=n.below o;have aY:=aY.below o;have x:=btr x o;refine Y1 12<|Yf rfl trivial (EfW.mono (Vc (X5k _ b7 ((timesS ((timesS e (pauM i) m).1) ((timesS e (pauM i) m).2) (pauM j)).1) t ((timesS ((timesS e (pauM i) m).1) ((timesS e (pauM i) m).2) (pauM j)).2) fO fP aY.rd.top (adjS m) fQ fR bS.rd.top x3 (X2o aA) x4) X2a) (fun _ _ h=>⟨fun _=>by obtain ⟨dS,dT,rfl,aZ,D,y⟩:=h;exact D.keep,h⟩)) ?_;rintro _ iV ⟨dS,dT,rfl,aZ,D,y⟩;have E:=x.size;obtain ⟨wm,z,hm,o⟩:=D.mid;clear hm;have g:=t;have q:=q.only z (Blk.ne q g rfl);have p:=p.only z (Blk.ne p g rfl);have f:=f.only z (Blk.ne f g rfl);have I:=I.only z (Blk.ne I g rfl);have n:=n.onlyT z g rfl;have x:=Below.only x z L;have q:=q.below o;have p:=p.below o;have f:=f.below o;have I:=I.below o;have n:=n.below o;have x:=btr x o
     clear g o z D;have t:=y;clear y
     have aZ:=aZ.lower E;clear E;refine Y1 14<|Yh rfl trivial rfl (Vw [vi (((timesS ((timesS ((timesS e (pauM i) m).1) ((timesS e (pauM i) m).2) (pauM j)).1) ((timesS ((timesS e (pauM i) m).1) ((timesS e (pauM i) m).2) (pauM j)).2) (adjS m)).2).rows),vi (((timesS ((timesS ((timesS e (pauM i) m).1) ((timesS e (pauM i) m).2) (pauM j)).1) ((timesS ((timesS e (pauM i) m).1) ((timesS e (pauM i) m).2) (pauM j)).2) (adjS m)).2).cols),.slice dS (((timesS ((timesS ((timesS e (pauM i) m).1) ((timesS e (pauM i) m).2) (pauM j)).1) ((timesS ((timesS e (pauM i) m).1) ((timesS e (pauM i) m).2) (pauM j)).2) (adjS m)).2).cells).length dT] X0c I) ?_;rintro _ iW ⟨G,hb⟩;have g:=I;have q:=q.only G (by omega);have p:=p.only G (Blk.ne p g rfl);have t:=t.only G (Blk.ne t g rfl);have f:=f.only G (Blk.ne f g rfl);have n:=n.onlyT G g rfl;have aZ:=aZ.onlyT G g rfl;have x:=Below.only x G cP;have I:=hb;refine Yd fun a J=>?_;exact ⟨b52,dS,dT,J.sub ⟨rfl,rfl,rfl,rfl,rfl,rfl,(by first|rfl|(simp [look,aB,aC])),trivial⟩,cP,I,cO,aZ,q,p,t,f,n,x⟩
    refine Yf rfl trivial (EfW.mono (X4 (zs:=[vi 0,vi 0,.slice none 0 0]) X12 rfl) (fun _ _ h=>⟨fun _=>by obtain ⟨_,_,_,o,_⟩:=h;exact Keep.of_below o,h⟩)) ?_;rintro _ iX ⟨b59,rfl,fS,o,H⟩
    have cQ:b3≠b59:=by have:=q.lt;omega
    have cR:=Q0 x.size fS;have q:=q.below o;have p:=p.below o;have t:=t.below o;have f:=f.below o;have n:=n.below o;have x:=btr x o;refine Y1 4<|Yf rfl trivial (EfW.mono (Vc (Xbf _ i b9) X6f) (fun _ _ h=>⟨fun _=>by obtain ⟨fT,fU,rfl,bU,o⟩:=h;exact Keep.of_below o,h⟩)) ?_;rintro _ iY ⟨fT,fU,rfl,bU,o⟩;have bU:=bU.lower x.size;have q:=q.below o;have p:=p.below o;have t:=t.below o;have f:=f.below o;have H:=H.below o;have n:=n.below o;have x:=btr x o;refine Y1 6<|Yf rfl trivial (EfW.mono (Vc (X5k _ b7 e t (pauM i) fT fU bU.rd.top m Am cm (a9.below' x).top (X3s b9) aA x5) X2a) (fun _ _ h=>⟨fun _=>by obtain ⟨fV,fW,rfl,b0,D,y⟩:=h;exact D.keep,h⟩)) ?_;rintro _ iZ ⟨fV,fW,rfl,b0,D,y⟩;have E:=x.size;obtain ⟨wm,z,hm,o⟩:=D.mid;clear hm;have g:=t;have q:=q.only z (Blk.ne q g rfl);have p:=p.only z (Blk.ne p g rfl);have f:=f.only z (Blk.ne f g rfl);have H:=H.only z (Blk.ne H g rfl);have n:=n.onlyT z g rfl;have x:=Below.only x z L;have q:=q.below o;have p:=p.below o;have f:=f.below o;have H:=H.below o;have n:=n.below o;have x:=btr x o
    clear g o z D;have t:=y;clear y
    have b0:=b0.lower E;clear E;refine Y1 8<|Yf rfl trivial (EfW.mono (Vc (Xbf _ j aJ) X6f) (fun _ _ h=>⟨fun _=>by obtain ⟨fX,fY,rfl,bW,o⟩:=h;exact Keep.of_below o,h⟩)) ?_;rintro _ j0 ⟨fX,fY,rfl,bW,o⟩;have bW:=bW.lower x.size;have q:=q.below o;have p:=p.below o;have t:=t.below o;have f:=f.below o;have H:=H.below o;have n:=n.below o;have b0:=b0.below o;have x:=btr x o;refine Y1 9<|Yf rfl trivial (EfW.mono (Vc (X5k _ b7 ((timesS e (pauM i) m).1) t ((timesS e (pauM i) m).2) fV fW b0.rd.top (pauM j) fX fY bW.rd.top x1 (X3s aJ) x2) X2a) (fun _ _ h=>⟨fun _=>by obtain ⟨fZ,g7,rfl,b1,D,y⟩:=h;exact D.keep,h⟩)) ?_;rintro _ j1 ⟨fZ,g7,rfl,b1,D,y⟩;have E:=x.size;obtain ⟨wm,z,hm,o⟩:=D.mid;clear hm;have g:=t;have q:=q.only z (Blk.ne q g rfl);have p:=p.only z (Blk.ne p g rfl);have f:=f.only z (Blk.ne f g rfl);have H:=H.only z (Blk.ne H g rfl);have n:=n.onlyT z g rfl;have x:=Below.only x z L;have q:=q.below o;have p:=p.below o;have f:=f.below o;have H:=H.below o;have n:=n.below o;have x:=btr x o
    clear g o z D;have t:=y;clear y
    have b1:=b1.lower E;clear E;refine Y1 11<|Yf rfl trivial (EfW.mono (Vc (X8l _ m Am cm (a9.below' x).top aA) X4j) (fun _ _ h=>⟨fun _=>by obtain ⟨g8,g9,rfl,bZ,o⟩:=h;exact Keep.of_below o,h⟩)) ?_;rintro _ j4 ⟨g8,g9,rfl,bZ,o⟩;have bZ:=bZ.lower x.size;have q:=q.below o;have p:=p.below o;have t:=t.below o;have f:=f.below o;have H:=H.below o;have n:=n.below o;have b1:=b1.below o;have x:=btr x o;refine Y1 12<|Yf rfl trivial (EfW.mono (Vc (X5k _ b7 ((timesS ((timesS e (pauM i) m).1) ((timesS e (pauM i) m).2) (pauM j)).1) t ((timesS ((timesS e (pauM i) m).1) ((timesS e (pauM i) m).2) (pauM j)).2) fZ g7 b1.rd.top (adjS m) g8 g9 bZ.rd.top x3 (X2o aA) x4) X2a) (fun _ _ h=>⟨fun _=>by obtain ⟨dU,dW,rfl,b2,D,y⟩:=h;exact D.keep,h⟩)) ?_;rintro _ j5 ⟨dU,dW,rfl,b2,D,y⟩;have E:=x.size;obtain ⟨wm,z,hm,o⟩:=D.mid;clear hm;have g:=t;have q:=q.only z (Blk.ne q g rfl);have p:=p.only z (Blk.ne p g rfl);have f:=f.only z (Blk.ne f g rfl);have H:=H.only z (Blk.ne H g rfl);have n:=n.onlyT z g rfl;have x:=Below.only x z L;have q:=q.below o;have p:=p.below o;have f:=f.below o;have H:=H.below o;have n:=n.below o;have x:=btr x o
    clear g o z D;have t:=y;clear y
    have b2:=b2.lower E;clear E;refine Y1 14<|Yh rfl trivial rfl (Vw [vi (((timesS ((timesS ((timesS e (pauM i) m).1) ((timesS e (pauM i) m).2) (pauM j)).1) ((timesS ((timesS e (pauM i) m).1) ((timesS e (pauM i) m).2) (pauM j)).2) (adjS m)).2).rows),vi (((timesS ((timesS ((timesS e (pauM i) m).1) ((timesS e (pauM i) m).2) (pauM j)).1) ((timesS ((timesS e (pauM i) m).1) ((timesS e (pauM i) m).2) (pauM j)).2) (adjS m)).2).cols),.slice dU (((timesS ((timesS ((timesS e (pauM i) m).1) ((timesS e (pauM i) m).2) (pauM j)).1) ((timesS ((timesS e (pauM i) m).1) ((timesS e (pauM i) m).2) (pauM j)).2) (adjS m)).2).cells).length dW] X0c H) ?_;rintro _ j6 ⟨G,hb⟩;have g:=H;have q:=q.only G (by omega);have p:=p.only G (Blk.ne p g rfl);have t:=t.only G (Blk.ne t g rfl);have f:=f.only G (Blk.ne f g rfl);have n:=n.onlyT G g rfl;have b2:=b2.onlyT G g rfl;have x:=Below.only x G cR;have H:=hb;refine Yd fun a J=>?_;exact ⟨b59,dU,dW,J.sub ⟨rfl,rfl,rfl,rfl,rfl,rfl,(by first|rfl|(simp [look,aB,aC])),trivial⟩,cR,H,cQ,b2,q,p,t,f,n,x⟩
   rintro a j7 ⟨b32,aO,bD,J,bK,C,bF,B,q,p,t,f,n,x⟩;refine eU _ _<|Q5 fun _ gA=>?_;refine X0a (fun a w=>∃ aP,Fr a 59 [(1,.pointer (some ⟨b3,0,none⟩)),(2,.pointer (some ⟨b5,0,none⟩)),(4,.pointer (some ⟨b7,0,none⟩)),(5,.pointer (some ⟨b10,0,none⟩)),(6,vi (i:Int)),(7,vi (j:Int)),(9,.pointer (some ⟨aP,0,none⟩))]∧w0.heap.size≤aP∧Blk w aP 86 [vi (((sAdd ((timesS ((timesS ((timesS e (pauM i) m).1) ((timesS e (pauM i) m).2) (pauM j)).1) ((timesS ((timesS e (pauM i) m).1) ((timesS e (pauM i) m).2) (pauM j)).2) (adjS m)).1) (((timesS ((timesS ((timesS e (pauM i) m).1) ((timesS e (pauM i) m).2) (pauM j)).1) ((timesS ((timesS e (pauM i) m).1) ((timesS e (pauM i) m).2) (pauM j)).2) (adjS m)).2).cells.getD 0 dZ) (((timesS ((timesS ((timesS e (pauM i) m).1) ((timesS e (pauM i) m).2) (pauM j)).1) ((timesS ((timesS e (pauM i) m).1) ((timesS e (pauM i) m).2) (pauM j)).2) (adjS m)).2).cells.getD 3 dZ)).2).num.a),vi (((sAdd ((timesS ((timesS ((timesS e (pauM i) m).1) ((timesS e (pauM i) m).2) (pauM j)).1) ((timesS ((timesS e (pauM i) m).1) ((timesS e (pauM i) m).2) (pauM j)).2) (adjS m)).1) (((timesS ((timesS ((timesS e (pauM i) m).1) ((timesS e (pauM i) m).2) (pauM j)).1) ((timesS ((timesS e (pauM i) m).1) ((timesS e (pauM i) m).2) (pauM j)).2) (adjS m)).2).cells.getD 0 dZ) (((timesS ((timesS ((timesS e (pauM i) m).1) ((timesS e (pauM i) m).2) (pauM j)).1) ((timesS ((timesS e (pauM i) m).1) ((timesS e (pauM i) m).2) (pauM j)).2) (adjS m)).2).cells.getD 3 dZ)).2).num.b),vi (((sAdd ((timesS ((timesS ((timesS e (pauM i) m).1) ((timesS e (pauM i) m).2) (pauM j)).1) ((timesS ((timesS e (pauM i) m).1) ((timesS e (pauM i) m).2) (pauM j)).2) (adjS m)).1) (((timesS ((timesS ((timesS e (pauM i) m).1) ((timesS e (pauM i) m).2) (pauM j)).1) ((timesS ((timesS e (pauM i) m).1) ((timesS e (pauM i) m).2) (pauM j)).2) (adjS m)).2).cells.getD 0 dZ) (((timesS ((timesS ((timesS e (pauM i) m).1) ((timesS e (pauM i) m).2) (pauM j)).1) ((timesS ((timesS e (pauM i) m).1) ((timesS e (pauM i) m).2) (pauM j)).2) (adjS m)).2).cells.getD 3 dZ)).2).num.c),vi (((sAdd ((timesS ((timesS ((timesS e (pauM i) m).1) ((timesS e (pauM i) m).2) (pauM j)).1) ((timesS ((timesS e (pauM i) m).1) ((timesS e (pauM i) m).2) (pauM j)).2) (adjS m)).1) (((timesS ((timesS ((timesS e (pauM i) m).1) ((timesS e (pauM i) m).2) (pauM j)).1) ((timesS ((timesS e (pauM i) m).1) ((timesS e (pauM i) m).2) (pauM j)).2) (adjS m)).2).cells.getD 0 dZ) (((timesS ((timesS ((timesS e (pauM i) m).1) ((timesS e (pauM i) m).2) (pauM j)).1) ((timesS ((timesS e (pauM i) m).1) ((timesS e (pauM i) m).2) (pauM j)).2) (adjS m)).2).cells.getD 3 dZ)).2).num.d),vi (((sAdd ((timesS ((timesS ((timesS e (pauM i) m).1) ((timesS e (pauM i) m).2) (pauM j)).1) ((timesS ((timesS e (pauM i) m).1) ((timesS e (pauM i) m).2) (pauM j)).2) (adjS m)).1) (((timesS ((timesS ((timesS e (pauM i) m).1) ((timesS e (pauM i) m).2) (pauM j)).1) ((timesS ((timesS e (pauM i) m).1) ((timesS e (pauM i) m).2) (pauM j)).2) (adjS m)).2).cells.getD 0 dZ) (((timesS ((timesS ((timesS e (pauM i) m).1) ((timesS e (pauM i) m).2) (pauM j)).1) ((timesS ((timesS e (pauM i) m).1) ((timesS e (pauM i) m).2) (pauM j)).2) (adjS m)).2).cells.getD 3 dZ)).2).exp)]∧AwayR m.cells Am aP∧Away bC aP∧Away aO aP∧Blk w b3 32 [vi m.rows,vi m.cols,.slice Am m.cells.length cm]∧Blk w b5 66 [.slice none 0 0]∧Blk w b7 95 [.bool ((sAdd ((timesS ((timesS ((timesS e (pauM i) m).1) ((timesS e (pauM i) m).2) (pauM j)).1) ((timesS ((timesS e (pauM i) m).1) ((timesS e (pauM i) m).2) (pauM j)).2) (adjS m)).1) (((timesS ((timesS ((timesS e (pauM i) m).1) ((timesS e (pauM i) m).2) (pauM j)).1) ((timesS ((timesS e (pauM i) m).1) ((timesS e (pauM i) m).2) (pauM j)).2) (adjS m)).2).cells.getD 0 dZ) (((timesS ((timesS ((timesS e (pauM i) m).1) ((timesS e (pauM i) m).2) (pauM j)).1) ((timesS ((timesS e (pauM i) m).1) ((timesS e (pauM i) m).2) (pauM j)).2) (adjS m)).2).cells.getD 3 dZ)).1)]∧Blk w b10 66 [.slice bC l2.length bE]∧Blk w b32 32 [vi (((timesS ((timesS ((timesS e (pauM i) m).1) ((timesS e (pauM i) m).2) (pauM j)).1) ((timesS ((timesS e (pauM i) m).1) ((timesS e (pauM i) m).2) (pauM j)).2) (adjS m)).2).rows),vi (((timesS ((timesS ((timesS e (pauM i) m).1) ((timesS e (pauM i) m).2) (pauM j)).1) ((timesS ((timesS e (pauM i) m).1) ((timesS e (pauM i) m).2) (pauM j)).2) (adjS m)).2).cols),.slice aO (((timesS ((timesS ((timesS e (pauM i) m).1) ((timesS e (pauM i) m).2) (pauM j)).1) ((timesS ((timesS e (pauM i) m).1) ((timesS e (pauM i) m).2) (pauM j)).2) (adjS m)).2).cells).length bD]∧Own w w0.heap.size 86 5 encD bC bE l2∧Own w w0.heap.size 86 5 encD aO bD (((timesS ((timesS ((timesS e (pauM i) m).1) ((timesS e (pauM i) m).2) (pauM j)).1) ((timesS ((timesS e (pauM i) m).1) ((timesS e (pauM i) m).2) (pauM j)).2) (adjS m)).2).cells)∧Below w0.heap.size w0 w) ?_ ?_
   ·refine X07 (some b7) (fun j=>[11].contains j) mixed ?_;intro j8 o;have q:=q.below o;have p:=p.below o;have t:=t.below o;have f:=f.below o;have C:=C.below o;have n:=n.below o;have B:=B.below o;have x:=btr x o;refine Yb J<|Yo 0 rfl (fun _=>Xb rfl)<|Yo 1 rfl (fun _=>Vd rfl X0v 2) ?_;refine Yw 2 rfl trivial (fun w1 h1=>X0 rfl X0j ((C.only h1 (Blk.ne C t rfl)).at 2)) ?_;refine Ya (k:=0) (u:=(((timesS ((timesS ((timesS e (pauM i) m).1) ((timesS e (pauM i) m).2) (pauM j)).1) ((timesS ((timesS e (pauM i) m).1) ((timesS e (pauM i) m).2) (pauM j)).2) (adjS m)).2).cells.getD 0 dZ)) (enc:=encD) (l:=((timesS ((timesS ((timesS e (pauM i) m).1) ((timesS e (pauM i) m).2) (pauM j)).1) ((timesS ((timesS e (pauM i) m).1) ((timesS e (pauM i) m).2) (pauM j)).2) (adjS m)).2).cells) 3 rfl trivial t rfl rfl rfl Xv Xa Xz B.rd (Xen x6 (by decide)) rfl ?_;intro j9 dX d8;refine Yw 4 rfl trivial (fun w1 h1=>Xy (l:=[vi ((((timesS ((timesS ((timesS e (pauM i) m).1) ((timesS e (pauM i) m).2) (pauM j)).1) ((timesS ((timesS e (pauM i) m).1) ((timesS e (pauM i) m).2) (pauM j)).2) (adjS m)).2).cells.getD 0 dZ).num.a),vi ((((timesS ((timesS ((timesS e (pauM i) m).1) ((timesS e (pauM i) m).2) (pauM j)).1) ((timesS ((timesS e (pauM i) m).1) ((timesS e (pauM i) m).2) (pauM j)).2) (adjS m)).2).cells.getD 0 dZ).num.b),vi ((((timesS ((timesS ((timesS e (pauM i) m).1) ((timesS e (pauM i) m).2) (pauM j)).1) ((timesS ((timesS e (pauM i) m).1) ((timesS e (pauM i) m).2) (pauM j)).2) (adjS m)).2).cells.getD 0 dZ).num.c),vi ((((timesS ((timesS ((timesS e (pauM i) m).1) ((timesS e (pauM i) m).2) (pauM j)).1) ((timesS ((timesS e (pauM i) m).1) ((timesS e (pauM i) m).2) (pauM j)).2) (adjS m)).2).cells.getD 0 dZ).num.d),vi ((((timesS ((timesS ((timesS e (pauM i) m).1) ((timesS e (pauM i) m).2) (pauM j)).1) ((timesS ((timesS e (pauM i) m).1) ((timesS e (pauM i) m).2) (pauM j)).2) (adjS m)).2).cells.getD 0 dZ).exp)]) rfl X6 (dX.only h1 d8) rfl) ?_
    refine Yo 5 rfl (fun _=>Vd rfl X0v 2) ?_;refine Yw 6 rfl trivial (fun w1 h1=>X0 rfl X0j ((C.only h1 (Blk.ne C t rfl)).at 2)) ?_;refine Ya (k:=3) (u:=(((timesS ((timesS ((timesS e (pauM i) m).1) ((timesS e (pauM i) m).2) (pauM j)).1) ((timesS ((timesS e (pauM i) m).1) ((timesS e (pauM i) m).2) (pauM j)).2) (adjS m)).2).cells.getD 3 dZ)) (enc:=encD) (l:=((timesS ((timesS ((timesS e (pauM i) m).1) ((timesS e (pauM i) m).2) (pauM j)).1) ((timesS ((timesS e (pauM i) m).1) ((timesS e (pauM i) m).2) (pauM j)).2) (adjS m)).2).cells) 7 rfl trivial t rfl rfl rfl Xv Xa Xz B.rd (Xen x6 (by decide)) rfl ?_;intro jA dY d9;refine Yw 8 rfl trivial (fun w1 h1=>Xy (l:=[vi ((((timesS ((timesS ((timesS e (pauM i) m).1) ((timesS e (pauM i) m).2) (pauM j)).1) ((timesS ((timesS e (pauM i) m).1) ((timesS e (pauM i) m).2) (pauM j)).2) (adjS m)).2).cells.getD 3 dZ).num.a),vi ((((timesS ((timesS ((timesS e (pauM i) m).1) ((timesS e (pauM i) m).2) (pauM j)).1) ((timesS ((timesS e (pauM i) m).1) ((timesS e (pauM i) m).2) (pauM j)).2) (adjS m)).2).cells.getD 3 dZ).num.b),vi ((((timesS ((timesS ((timesS e (pauM i) m).1) ((timesS e (pauM i) m).2) (pauM j)).1) ((timesS ((timesS e (pauM i) m).1) ((timesS e (pauM i) m).2) (pauM j)).2) (adjS m)).2).cells.getD 3 dZ).num.c),vi ((((timesS ((timesS ((timesS e (pauM i) m).1) ((timesS e (pauM i) m).2) (pauM j)).1) ((timesS ((timesS e (pauM i) m).1) ((timesS e (pauM i) m).2) (pauM j)).2) (adjS m)).2).cells.getD 3 dZ).num.d),vi ((((timesS ((timesS ((timesS e (pauM i) m).1) ((timesS e (pauM i) m).2) (pauM j)).1) ((timesS ((timesS e (pauM i) m).1) ((timesS e (pauM i) m).2) (pauM j)).2) (adjS m)).2).cells.getD 3 dZ).exp)]) rfl X6 (dY.only h1 d9) rfl) ?_;refine Y2 9 10 ?_ ?_
    ·refine Yf rfl trivial (EfW.mono (Vc (Xps _ b7 ((timesS ((timesS ((timesS e (pauM i) m).1) ((timesS e (pauM i) m).2) (pauM j)).1) ((timesS ((timesS e (pauM i) m).1) ((timesS e (pauM i) m).2) (pauM j)).2) (adjS m)).1) t (((timesS ((timesS ((timesS e (pauM i) m).1) ((timesS e (pauM i) m).2) (pauM j)).1) ((timesS ((timesS e (pauM i) m).1) ((timesS e (pauM i) m).2) (pauM j)).2) (adjS m)).2).cells.getD 0 dZ) (((timesS ((timesS ((timesS e (pauM i) m).1) ((timesS e (pauM i) m).2) (pauM j)).1) ((timesS ((timesS e (pauM i) m).1) ((timesS e (pauM i) m).2) (pauM j)).2) (adjS m)).2).cells.getD 3 dZ) (X55 x7 0) (X55 x7 3)) Xct) (fun _ _ h=>⟨fun _=>by obtain ⟨rfl,D,y⟩:=h;exact D.keep,h⟩)) ?_;rintro _ jB ⟨rfl,D,y⟩;obtain ⟨wm,z,hm,o⟩:=D.mid;clear hm;have g:=t;have q:=q.only z (Blk.ne q g rfl);have p:=p.only z (Blk.ne p g rfl);have f:=f.only z (Blk.ne f g rfl);have C:=C.only z (Blk.ne C g rfl);have n:=n.onlyT z g rfl;have B:=B.onlyT z g rfl;have x:=Below.only x z L;have q:=q.below o;have p:=p.below o;have f:=f.below o;have C:=C.below o;have n:=n.below o;have B:=B.below o;have x:=btr x o
     clear g o z D;have t:=y;clear y;refine Y1 10<|Yf rfl trivial (EfW.mono (X4 (zs:=[vi 0,vi 0,vi 0,vi 0,vi 0]) X0l rfl) (fun _ _ h=>⟨fun _=>by obtain ⟨_,_,_,o,_⟩:=h;exact Keep.of_below o,h⟩)) ?_;rintro _ jC ⟨aP,rfl,cA,o,N⟩;have bL:=Q0 x.size cA;have bG:=(a9.below' x).away cA;have aE:=n.away cA;have aK:=B.away cA;have q:=q.below o;have p:=p.below o;have t:=t.below o;have f:=f.below o;have C:=C.below o;have n:=n.below o;have B:=B.below o;have x:=btr x o;refine Y1 11<|Yh rfl trivial rfl (Vw [vi (((sAdd ((timesS ((timesS ((timesS e (pauM i) m).1) ((timesS e (pauM i) m).2) (pauM j)).1) ((timesS ((timesS e (pauM i) m).1) ((timesS e (pauM i) m).2) (pauM j)).2) (adjS m)).1) (((timesS ((timesS ((timesS e (pauM i) m).1) ((timesS e (pauM i) m).2) (pauM j)).1) ((timesS ((timesS e (pauM i) m).1) ((timesS e (pauM i) m).2) (pauM j)).2) (adjS m)).2).cells.getD 0 dZ) (((timesS ((timesS ((timesS e (pauM i) m).1) ((timesS e (pauM i) m).2) (pauM j)).1) ((timesS ((timesS e (pauM i) m).1) ((timesS e (pauM i) m).2) (pauM j)).2) (adjS m)).2).cells.getD 3 dZ)).2).num.a),vi (((sAdd ((timesS ((timesS ((timesS e (pauM i) m).1) ((timesS e (pauM i) m).2) (pauM j)).1) ((timesS ((timesS e (pauM i) m).1) ((timesS e (pauM i) m).2) (pauM j)).2) (adjS m)).1) (((timesS ((timesS ((timesS e (pauM i) m).1) ((timesS e (pauM i) m).2) (pauM j)).1) ((timesS ((timesS e (pauM i) m).1) ((timesS e (pauM i) m).2) (pauM j)).2) (adjS m)).2).cells.getD 0 dZ) (((timesS ((timesS ((timesS e (pauM i) m).1) ((timesS e (pauM i) m).2) (pauM j)).1) ((timesS ((timesS e (pauM i) m).1) ((timesS e (pauM i) m).2) (pauM j)).2) (adjS m)).2).cells.getD 3 dZ)).2).num.b),vi (((sAdd ((timesS ((timesS ((timesS e (pauM i) m).1) ((timesS e (pauM i) m).2) (pauM j)).1) ((timesS ((timesS e (pauM i) m).1) ((timesS e (pauM i) m).2) (pauM j)).2) (adjS m)).1) (((timesS ((timesS ((timesS e (pauM i) m).1) ((timesS e (pauM i) m).2) (pauM j)).1) ((timesS ((timesS e (pauM i) m).1) ((timesS e (pauM i) m).2) (pauM j)).2) (adjS m)).2).cells.getD 0 dZ) (((timesS ((timesS ((timesS e (pauM i) m).1) ((timesS e (pauM i) m).2) (pauM j)).1) ((timesS ((timesS e (pauM i) m).1) ((timesS e (pauM i) m).2) (pauM j)).2) (adjS m)).2).cells.getD 3 dZ)).2).num.c),vi (((sAdd ((timesS ((timesS ((timesS e (pauM i) m).1) ((timesS e (pauM i) m).2) (pauM j)).1) ((timesS ((timesS e (pauM i) m).1) ((timesS e (pauM i) m).2) (pauM j)).2) (adjS m)).1) (((timesS ((timesS ((timesS e (pauM i) m).1) ((timesS e (pauM i) m).2) (pauM j)).1) ((timesS ((timesS e (pauM i) m).1) ((timesS e (pauM i) m).2) (pauM j)).2) (adjS m)).2).cells.getD 0 dZ) (((timesS ((timesS ((timesS e (pauM i) m).1) ((timesS e (pauM i) m).2) (pauM j)).1) ((timesS ((timesS e (pauM i) m).1) ((timesS e (pauM i) m).2) (pauM j)).2) (adjS m)).2).cells.getD 3 dZ)).2).num.d),vi (((sAdd ((timesS ((timesS ((timesS e (pauM i) m).1) ((timesS e (pauM i) m).2) (pauM j)).1) ((timesS ((timesS e (pauM i) m).1) ((timesS e (pauM i) m).2) (pauM j)).2) (adjS m)).1) (((timesS ((timesS ((timesS e (pauM i) m).1) ((timesS e (pauM i) m).2) (pauM j)).1) ((timesS ((timesS e (pauM i) m).1) ((timesS e (pauM i) m).2) (pauM j)).2) (adjS m)).2).cells.getD 0 dZ) (((timesS ((timesS ((timesS e (pauM i) m).1) ((timesS e (pauM i) m).2) (pauM j)).1) ((timesS ((timesS e (pauM i) m).1) ((timesS e (pauM i) m).2) (pauM j)).2) (adjS m)).2).cells.getD 3 dZ)).2).exp)] Xa N) ?_;rintro _ jD ⟨G,hb⟩
     have g:=N;have q:=q.only G (Blk.ne q g rfl);have p:=p.only G (Blk.ne p g rfl);have t:=t.only G (Blk.ne t g rfl);have f:=f.only G (Blk.ne f g rfl);have C:=C.only G (Blk.ne C g rfl);have n:=n.onlyA G aE;have B:=B.onlyA G aK;have x:=Below.only x G bL;have N:=hb;refine Yd fun a J=>?_;exact ⟨aP,J.sb,bL,N,bG,aE,aK,q,p,t,f,C,n,B,x⟩
    refine Yf rfl trivial (EfW.mono (X4 (zs:=[vi 0,vi 0,vi 0,vi 0,vi 0]) X0l rfl) (fun _ _ h=>⟨fun _=>by obtain ⟨_,_,_,o,_⟩:=h;exact Keep.of_below o,h⟩)) ?_;rintro _ jE ⟨gX,rfl,cB,o,aI⟩;have cS:=Q0 x.size cB;have cT:=(a9.below' x).away cB;have b4:=n.away cB;have b6:=B.away cB;have q:=q.below o;have p:=p.below o;have t:=t.below o;have f:=f.below o;have C:=C.below o;have n:=n.below o;have B:=B.below o;have x:=btr x o;refine Y1 9<|Yf rfl trivial (EfW.mono (Vc (Xps _ b7 ((timesS ((timesS ((timesS e (pauM i) m).1) ((timesS e (pauM i) m).2) (pauM j)).1) ((timesS ((timesS e (pauM i) m).1) ((timesS e (pauM i) m).2) (pauM j)).2) (adjS m)).1) t (((timesS ((timesS ((timesS e (pauM i) m).1) ((timesS e (pauM i) m).2) (pauM j)).1) ((timesS ((timesS e (pauM i) m).1) ((timesS e (pauM i) m).2) (pauM j)).2) (adjS m)).2).cells.getD 0 dZ) (((timesS ((timesS ((timesS e (pauM i) m).1) ((timesS e (pauM i) m).2) (pauM j)).1) ((timesS ((timesS e (pauM i) m).1) ((timesS e (pauM i) m).2) (pauM j)).2) (adjS m)).2).cells.getD 3 dZ) (X55 x7 0) (X55 x7 3)) Xct) (fun _ _ h=>⟨fun _=>by obtain ⟨rfl,D,y⟩:=h;exact D.keep,h⟩)) ?_;rintro _ jF ⟨rfl,D,y⟩;obtain ⟨wm,z,hm,o⟩:=D.mid;clear hm;have g:=t;have q:=q.only z (Blk.ne q g rfl);have p:=p.only z (Blk.ne p g rfl);have f:=f.only z (Blk.ne f g rfl);have C:=C.only z (Blk.ne C g rfl);have aI:=aI.only z (Blk.ne aI g rfl);have n:=n.onlyT z g rfl;have B:=B.onlyT z g rfl;have x:=Below.only x z L;have q:=q.below o;have p:=p.below o;have f:=f.below o;have C:=C.below o;have aI:=aI.below o;have n:=n.below o
    have B:=B.below o;have x:=btr x o
    clear g o z D;have t:=y;clear y;refine Y1 11<|Yh rfl trivial rfl (Vw [vi (((sAdd ((timesS ((timesS ((timesS e (pauM i) m).1) ((timesS e (pauM i) m).2) (pauM j)).1) ((timesS ((timesS e (pauM i) m).1) ((timesS e (pauM i) m).2) (pauM j)).2) (adjS m)).1) (((timesS ((timesS ((timesS e (pauM i) m).1) ((timesS e (pauM i) m).2) (pauM j)).1) ((timesS ((timesS e (pauM i) m).1) ((timesS e (pauM i) m).2) (pauM j)).2) (adjS m)).2).cells.getD 0 dZ) (((timesS ((timesS ((timesS e (pauM i) m).1) ((timesS e (pauM i) m).2) (pauM j)).1) ((timesS ((timesS e (pauM i) m).1) ((timesS e (pauM i) m).2) (pauM j)).2) (adjS m)).2).cells.getD 3 dZ)).2).num.a),vi (((sAdd ((timesS ((timesS ((timesS e (pauM i) m).1) ((timesS e (pauM i) m).2) (pauM j)).1) ((timesS ((timesS e (pauM i) m).1) ((timesS e (pauM i) m).2) (pauM j)).2) (adjS m)).1) (((timesS ((timesS ((timesS e (pauM i) m).1) ((timesS e (pauM i) m).2) (pauM j)).1) ((timesS ((timesS e (pauM i) m).1) ((timesS e (pauM i) m).2) (pauM j)).2) (adjS m)).2).cells.getD 0 dZ) (((timesS ((timesS ((timesS e (pauM i) m).1) ((timesS e (pauM i) m).2) (pauM j)).1) ((timesS ((timesS e (pauM i) m).1) ((timesS e (pauM i) m).2) (pauM j)).2) (adjS m)).2).cells.getD 3 dZ)).2).num.b),vi (((sAdd ((timesS ((timesS ((timesS e (pauM i) m).1) ((timesS e (pauM i) m).2) (pauM j)).1) ((timesS ((timesS e (pauM i) m).1) ((timesS e (pauM i) m).2) (pauM j)).2) (adjS m)).1) (((timesS ((timesS ((timesS e (pauM i) m).1) ((timesS e (pauM i) m).2) (pauM j)).1) ((timesS ((timesS e (pauM i) m).1) ((timesS e (pauM i) m).2) (pauM j)).2) (adjS m)).2).cells.getD 0 dZ) (((timesS ((timesS ((timesS e (pauM i) m).1) ((timesS e (pauM i) m).2) (pauM j)).1) ((timesS ((timesS e (pauM i) m).1) ((timesS e (pauM i) m).2) (pauM j)).2) (adjS m)).2).cells.getD 3 dZ)).2).num.c),vi (((sAdd ((timesS ((timesS ((timesS e (pauM i) m).1) ((timesS e (pauM i) m).2) (pauM j)).1) ((timesS ((timesS e (pauM i) m).1) ((timesS e (pauM i) m).2) (pauM j)).2) (adjS m)).1) (((timesS ((timesS ((timesS e (pauM i) m).1) ((timesS e (pauM i) m).2) (pauM j)).1) ((timesS ((timesS e (pauM i) m).1) ((timesS e (pauM i) m).2) (pauM j)).2) (adjS m)).2).cells.getD 0 dZ) (((timesS ((timesS ((timesS e (pauM i) m).1) ((timesS e (pauM i) m).2) (pauM j)).1) ((timesS ((timesS e (pauM i) m).1) ((timesS e (pauM i) m).2) (pauM j)).2) (adjS m)).2).cells.getD 3 dZ)).2).num.d),vi (((sAdd ((timesS ((timesS ((timesS e (pauM i) m).1) ((timesS e (pauM i) m).2) (pauM j)).1) ((timesS ((timesS e (pauM i) m).1) ((timesS e (pauM i) m).2) (pauM j)).2) (adjS m)).1) (((timesS ((timesS ((timesS e (pauM i) m).1) ((timesS e (pauM i) m).2) (pauM j)).1) ((timesS ((timesS e (pauM i) m).1) ((timesS e (pauM i) m).2) (pauM j)).2) (adjS m)).2).cells.getD 0 dZ) (((timesS ((timesS ((timesS e (pauM i) m).1) ((timesS e (pauM i) m).2) (pauM j)).1) ((timesS ((timesS e (pauM i) m).1) ((timesS e (pauM i) m).2) (pauM j)).2) (adjS m)).2).cells.getD 3 dZ)).2).exp)] Xa aI) ?_;rintro _ jG ⟨G,hb⟩
    have g:=aI;have q:=q.only G (Blk.ne q g rfl);have p:=p.only G (Blk.ne p g rfl);have t:=t.only G (Blk.ne t g rfl);have f:=f.only G (Blk.ne f g rfl);have C:=C.only G (Blk.ne C g rfl);have n:=n.onlyA G b4;have B:=B.onlyA G b6;have x:=Below.only x G cS;have aI:=hb;refine Yd fun a J=>?_;exact ⟨gX,J.sub ⟨rfl,rfl,rfl,rfl,rfl,rfl,(by first|rfl|(simp [look,aB,aC])),trivial⟩,cS,aI,cT,b4,b6,q,p,t,f,C,n,B,x⟩
   rintro a jH ⟨aP,J,bL,N,bG,aE,aK,q,p,t,f,C,n,B,x⟩;refine gA _ _<|X07 (some b7) (fun j=>[8,10].contains j) mixed ?_;intro jI o;have q:=q.below o;have p:=p.below o;have t:=t.below o;have f:=f.below o;have N:=N.below o;have n:=n.below o;have x:=btr x o;refine Yb J<|Yo 0 rfl (fun _=>Vd rfl X0t 0) ?_;refine Yw 1 rfl trivial (fun w1 h1=>X0 rfl X0j ((f.only h1 (Blk.ne f t rfl)).at 0)) ?_;refine Yo 2 rfl (fun _=>Xb rfl) ?_;refine Yw 3 rfl trivial (fun w1 h1=>Xy (l:=[vi (((sAdd ((timesS ((timesS ((timesS e (pauM i) m).1) ((timesS e (pauM i) m).2) (pauM j)).1) ((timesS ((timesS e (pauM i) m).1) ((timesS e (pauM i) m).2) (pauM j)).2) (adjS m)).1) (((timesS ((timesS ((timesS e (pauM i) m).1) ((timesS e (pauM i) m).2) (pauM j)).1) ((timesS ((timesS e (pauM i) m).1) ((timesS e (pauM i) m).2) (pauM j)).2) (adjS m)).2).cells.getD 0 dZ) (((timesS ((timesS ((timesS e (pauM i) m).1) ((timesS e (pauM i) m).2) (pauM j)).1) ((timesS ((timesS e (pauM i) m).1) ((timesS e (pauM i) m).2) (pauM j)).2) (adjS m)).2).cells.getD 3 dZ)).2).num.a),vi (((sAdd ((timesS ((timesS ((timesS e (pauM i) m).1) ((timesS e (pauM i) m).2) (pauM j)).1) ((timesS ((timesS e (pauM i) m).1) ((timesS e (pauM i) m).2) (pauM j)).2) (adjS m)).1) (((timesS ((timesS ((timesS e (pauM i) m).1) ((timesS e (pauM i) m).2) (pauM j)).1) ((timesS ((timesS e (pauM i) m).1) ((timesS e (pauM i) m).2) (pauM j)).2) (adjS m)).2).cells.getD 0 dZ) (((timesS ((timesS ((timesS e (pauM i) m).1) ((timesS e (pauM i) m).2) (pauM j)).1) ((timesS ((timesS e (pauM i) m).1) ((timesS e (pauM i) m).2) (pauM j)).2) (adjS m)).2).cells.getD 3 dZ)).2).num.b),vi (((sAdd ((timesS ((timesS ((timesS e (pauM i) m).1) ((timesS e (pauM i) m).2) (pauM j)).1) ((timesS ((timesS e (pauM i) m).1) ((timesS e (pauM i) m).2) (pauM j)).2) (adjS m)).1) (((timesS ((timesS ((timesS e (pauM i) m).1) ((timesS e (pauM i) m).2) (pauM j)).1) ((timesS ((timesS e (pauM i) m).1) ((timesS e (pauM i) m).2) (pauM j)).2) (adjS m)).2).cells.getD 0 dZ) (((timesS ((timesS ((timesS e (pauM i) m).1) ((timesS e (pauM i) m).2) (pauM j)).1) ((timesS ((timesS e (pauM i) m).1) ((timesS e (pauM i) m).2) (pauM j)).2) (adjS m)).2).cells.getD 3 dZ)).2).num.c),vi (((sAdd ((timesS ((timesS ((timesS e (pauM i) m).1) ((timesS e (pauM i) m).2) (pauM j)).1) ((timesS ((timesS e (pauM i) m).1) ((timesS e (pauM i) m).2) (pauM j)).2) (adjS m)).1) (((timesS ((timesS ((timesS e (pauM i) m).1) ((timesS e (pauM i) m).2) (pauM j)).1) ((timesS ((timesS e (pauM i) m).1) ((timesS e (pauM i) m).2) (pauM j)).2) (adjS m)).2).cells.getD 0 dZ) (((timesS ((timesS ((timesS e (pauM i) m).1) ((timesS e (pauM i) m).2) (pauM j)).1) ((timesS ((timesS e (pauM i) m).1) ((timesS e (pauM i) m).2) (pauM j)).2) (adjS m)).2).cells.getD 3 dZ)).2).num.d),vi (((sAdd ((timesS ((timesS ((timesS e (pauM i) m).1) ((timesS e (pauM i) m).2) (pauM j)).1) ((timesS ((timesS e (pauM i) m).1) ((timesS e (pauM i) m).2) (pauM j)).2) (adjS m)).1) (((timesS ((timesS ((timesS e (pauM i) m).1) ((timesS e (pauM i) m).2) (pauM j)).1) ((timesS ((timesS e (pauM i) m).1) ((timesS e (pauM i) m).2) (pauM j)).2) (adjS m)).2).cells.getD 0 dZ) (((timesS ((timesS ((timesS e (pauM i) m).1) ((timesS e (pauM i) m).2) (pauM j)).1) ((timesS ((timesS e (pauM i) m).1) ((timesS e (pauM i) m).2) (pauM j)).2) (adjS m)).2).cells.getD 3 dZ)).2).exp)]) rfl X6 ((N.only h1 (Blk.ne N t rfl)).at 0) rfl) ?_
   refine Yo 4 rfl (fun _=>Xg (ps:=[(0,vi 1)]) (cs:=[vi 1,vi 0,vi 0,vi 0]) rfl (fun _=>by first|rfl|kernel_rfl))<|Yo 5 rfl (fun _=>Xg (ps:=[(0,.agg #[vi 1,vi 0,vi 0,vi 0]),(1,vi 2)]) (cs:=[vi 1,vi 0,vi 0,vi 0,vi 2]) rfl (fun _=>by first|rfl|kernel_rfl))<|Y1 6 ?_;refine Yf rfl trivial (EfW.mono (Vc (Xrv _ b7 ((sAdd ((timesS ((timesS ((timesS e (pauM i) m).1) ((timesS e (pauM i) m).2) (pauM j)).1) ((timesS ((timesS e (pauM i) m).1) ((timesS e (pauM i) m).2) (pauM j)).2) (adjS m)).1) (((timesS ((timesS ((timesS e (pauM i) m).1) ((timesS e (pauM i) m).2) (pauM j)).1) ((timesS ((timesS e (pauM i) m).1) ((timesS e (pauM i) m).2) (pauM j)).2) (adjS m)).2).cells.getD 0 dZ) (((timesS ((timesS ((timesS e (pauM i) m).1) ((timesS e (pauM i) m).2) (pauM j)).1) ((timesS ((timesS e (pauM i) m).1) ((timesS e (pauM i) m).2) (pauM j)).2) (adjS m)).2).cells.getD 3 dZ)).1) t ((sAdd ((timesS ((timesS ((timesS e (pauM i) m).1) ((timesS e (pauM i) m).2) (pauM j)).1) ((timesS ((timesS e (pauM i) m).1) ((timesS e (pauM i) m).2) (pauM j)).2) (adjS m)).1) (((timesS ((timesS ((timesS e (pauM i) m).1) ((timesS e (pauM i) m).2) (pauM j)).1) ((timesS ((timesS e (pauM i) m).1) ((timesS e (pauM i) m).2) (pauM j)).2) (adjS m)).2).cells.getD 0 dZ) (((timesS ((timesS ((timesS e (pauM i) m).1) ((timesS e (pauM i) m).2) (pauM j)).1) ((timesS ((timesS e (pauM i) m).1) ((timesS e (pauM i) m).2) (pauM j)).2) (adjS m)).2).cells.getD 3 dZ)).2) (⟨(⟨1,0,0,0⟩ : Rg),2⟩ : Dy) (Xe1 (X55 x7 0) (X55 x7 3)) (by decide)) Xes) (fun _ _ h=>⟨fun _=>by obtain ⟨rfl,D,y⟩:=h;exact D.keep,h⟩)) ?_;rintro _ jJ ⟨rfl,D,y⟩;obtain ⟨wm,z,hm,o⟩:=D.mid;clear hm;have g:=t;have q:=q.only z (Blk.ne q g rfl);have p:=p.only z (Blk.ne p g rfl);have f:=f.only z (Blk.ne f g rfl);have N:=N.only z (Blk.ne N g rfl);have n:=n.onlyT z g rfl
   have x:=Below.only x z L;have q:=q.below o;have p:=p.below o;have f:=f.below o;have N:=N.below o;have n:=n.below o;have x:=btr x o
   clear g o z D;have t:=y;clear y;refine Y1 7<|Yf rfl trivial (EfW.mono (Xd (k:=1) (vs:=[.agg #[vi (((sMul ((sAdd ((timesS ((timesS ((timesS e (pauM i) m).1) ((timesS e (pauM i) m).2) (pauM j)).1) ((timesS ((timesS e (pauM i) m).1) ((timesS e (pauM i) m).2) (pauM j)).2) (adjS m)).1) (((timesS ((timesS ((timesS e (pauM i) m).1) ((timesS e (pauM i) m).2) (pauM j)).1) ((timesS ((timesS e (pauM i) m).1) ((timesS e (pauM i) m).2) (pauM j)).2) (adjS m)).2).cells.getD 0 dZ) (((timesS ((timesS ((timesS e (pauM i) m).1) ((timesS e (pauM i) m).2) (pauM j)).1) ((timesS ((timesS e (pauM i) m).1) ((timesS e (pauM i) m).2) (pauM j)).2) (adjS m)).2).cells.getD 3 dZ)).1) ((sAdd ((timesS ((timesS ((timesS e (pauM i) m).1) ((timesS e (pauM i) m).2) (pauM j)).1) ((timesS ((timesS e (pauM i) m).1) ((timesS e (pauM i) m).2) (pauM j)).2) (adjS m)).1) (((timesS ((timesS ((timesS e (pauM i) m).1) ((timesS e (pauM i) m).2) (pauM j)).1) ((timesS ((timesS e (pauM i) m).1) ((timesS e (pauM i) m).2) (pauM j)).2) (adjS m)).2).cells.getD 0 dZ) (((timesS ((timesS ((timesS e (pauM i) m).1) ((timesS e (pauM i) m).2) (pauM j)).1) ((timesS ((timesS e (pauM i) m).1) ((timesS e (pauM i) m).2) (pauM j)).2) (adjS m)).2).cells.getD 3 dZ)).2) (⟨(⟨1,0,0,0⟩ : Rg),2⟩ : Dy)).2).num.a),vi (((sMul ((sAdd ((timesS ((timesS ((timesS e (pauM i) m).1) ((timesS e (pauM i) m).2) (pauM j)).1) ((timesS ((timesS e (pauM i) m).1) ((timesS e (pauM i) m).2) (pauM j)).2) (adjS m)).1) (((timesS ((timesS ((timesS e (pauM i) m).1) ((timesS e (pauM i) m).2) (pauM j)).1) ((timesS ((timesS e (pauM i) m).1) ((timesS e (pauM i) m).2) (pauM j)).2) (adjS m)).2).cells.getD 0 dZ) (((timesS ((timesS ((timesS e (pauM i) m).1) ((timesS e (pauM i) m).2) (pauM j)).1) ((timesS ((timesS e (pauM i) m).1) ((timesS e (pauM i) m).2) (pauM j)).2) (adjS m)).2).cells.getD 3 dZ)).1) ((sAdd ((timesS ((timesS ((timesS e (pauM i) m).1) ((timesS e (pauM i) m).2) (pauM j)).1) ((timesS ((timesS e (pauM i) m).1) ((timesS e (pauM i) m).2) (pauM j)).2) (adjS m)).1) (((timesS ((timesS ((timesS e (pauM i) m).1) ((timesS e (pauM i) m).2) (pauM j)).1) ((timesS ((timesS e (pauM i) m).1) ((timesS e (pauM i) m).2) (pauM j)).2) (adjS m)).2).cells.getD 0 dZ) (((timesS ((timesS ((timesS e (pauM i) m).1) ((timesS e (pauM i) m).2) (pauM j)).1) ((timesS ((timesS e (pauM i) m).1) ((timesS e (pauM i) m).2) (pauM j)).2) (adjS m)).2).cells.getD 3 dZ)).2) (⟨(⟨1,0,0,0⟩ : Rg),2⟩ : Dy)).2).num.b),vi (((sMul ((sAdd ((timesS ((timesS ((timesS e (pauM i) m).1) ((timesS e (pauM i) m).2) (pauM j)).1) ((timesS ((timesS e (pauM i) m).1) ((timesS e (pauM i) m).2) (pauM j)).2) (adjS m)).1) (((timesS ((timesS ((timesS e (pauM i) m).1) ((timesS e (pauM i) m).2) (pauM j)).1) ((timesS ((timesS e (pauM i) m).1) ((timesS e (pauM i) m).2) (pauM j)).2) (adjS m)).2).cells.getD 0 dZ) (((timesS ((timesS ((timesS e (pauM i) m).1) ((timesS e (pauM i) m).2) (pauM j)).1) ((timesS ((timesS e (pauM i) m).1) ((timesS e (pauM i) m).2) (pauM j)).2) (adjS m)).2).cells.getD 3 dZ)).1) ((sAdd ((timesS ((timesS ((timesS e (pauM i) m).1) ((timesS e (pauM i) m).2) (pauM j)).1) ((timesS ((timesS e (pauM i) m).1) ((timesS e (pauM i) m).2) (pauM j)).2) (adjS m)).1) (((timesS ((timesS ((timesS e (pauM i) m).1) ((timesS e (pauM i) m).2) (pauM j)).1) ((timesS ((timesS e (pauM i) m).1) ((timesS e (pauM i) m).2) (pauM j)).2) (adjS m)).2).cells.getD 0 dZ) (((timesS ((timesS ((timesS e (pauM i) m).1) ((timesS e (pauM i) m).2) (pauM j)).1) ((timesS ((timesS e (pauM i) m).1) ((timesS e (pauM i) m).2) (pauM j)).2) (adjS m)).2).cells.getD 3 dZ)).2) (⟨(⟨1,0,0,0⟩ : Rg),2⟩ : Dy)).2).num.c),vi (((sMul ((sAdd ((timesS ((timesS ((timesS e (pauM i) m).1) ((timesS e (pauM i) m).2) (pauM j)).1) ((timesS ((timesS e (pauM i) m).1) ((timesS e (pauM i) m).2) (pauM j)).2) (adjS m)).1) (((timesS ((timesS ((timesS e (pauM i) m).1) ((timesS e (pauM i) m).2) (pauM j)).1) ((timesS ((timesS e (pauM i) m).1) ((timesS e (pauM i) m).2) (pauM j)).2) (adjS m)).2).cells.getD 0 dZ) (((timesS ((timesS ((timesS e (pauM i) m).1) ((timesS e (pauM i) m).2) (pauM j)).1) ((timesS ((timesS e (pauM i) m).1) ((timesS e (pauM i) m).2) (pauM j)).2) (adjS m)).2).cells.getD 3 dZ)).1) ((sAdd ((timesS ((timesS ((timesS e (pauM i) m).1) ((timesS e (pauM i) m).2) (pauM j)).1) ((timesS ((timesS e (pauM i) m).1) ((timesS e (pauM i) m).2) (pauM j)).2) (adjS m)).1) (((timesS ((timesS ((timesS e (pauM i) m).1) ((timesS e (pauM i) m).2) (pauM j)).1) ((timesS ((timesS e (pauM i) m).1) ((timesS e (pauM i) m).2) (pauM j)).2) (adjS m)).2).cells.getD 0 dZ) (((timesS ((timesS ((timesS e (pauM i) m).1) ((timesS e (pauM i) m).2) (pauM j)).1) ((timesS ((timesS e (pauM i) m).1) ((timesS e (pauM i) m).2) (pauM j)).2) (adjS m)).2).cells.getD 3 dZ)).2) (⟨(⟨1,0,0,0⟩ : Rg),2⟩ : Dy)).2).num.d),vi (((sMul ((sAdd ((timesS ((timesS ((timesS e (pauM i) m).1) ((timesS e (pauM i) m).2) (pauM j)).1) ((timesS ((timesS e (pauM i) m).1) ((timesS e (pauM i) m).2) (pauM j)).2) (adjS m)).1) (((timesS ((timesS ((timesS e (pauM i) m).1) ((timesS e (pauM i) m).2) (pauM j)).1) ((timesS ((timesS e (pauM i) m).1) ((timesS e (pauM i) m).2) (pauM j)).2) (adjS m)).2).cells.getD 0 dZ) (((timesS ((timesS ((timesS e (pauM i) m).1) ((timesS e (pauM i) m).2) (pauM j)).1) ((timesS ((timesS e (pauM i) m).1) ((timesS e (pauM i) m).2) (pauM j)).2) (adjS m)).2).cells.getD 3 dZ)).1) ((sAdd ((timesS ((timesS ((timesS e (pauM i) m).1) ((timesS e (pauM i) m).2) (pauM j)).1) ((timesS ((timesS e (pauM i) m).1) ((timesS e (pauM i) m).2) (pauM j)).2) (adjS m)).1) (((timesS ((timesS ((timesS e (pauM i) m).1) ((timesS e (pauM i) m).2) (pauM j)).1) ((timesS ((timesS e (pauM i) m).1) ((timesS e (pauM i) m).2) (pauM j)).2) (adjS m)).2).cells.getD 0 dZ) (((timesS ((timesS ((timesS e (pauM i) m).1) ((timesS e (pauM i) m).2) (pauM j)).1) ((timesS ((timesS e (pauM i) m).1) ((timesS e (pauM i) m).2) (pauM j)).2) (adjS m)).2).cells.getD 3 dZ)).2) (⟨(⟨1,0,0,0⟩ : Rg),2⟩ : Dy)).2).exp)]]) (zs:=[vi (((sMul ((sAdd ((timesS ((timesS ((timesS e (pauM i) m).1) ((timesS e (pauM i) m).2) (pauM j)).1) ((timesS ((timesS e (pauM i) m).1) ((timesS e (pauM i) m).2) (pauM j)).2) (adjS m)).1) (((timesS ((timesS ((timesS e (pauM i) m).1) ((timesS e (pauM i) m).2) (pauM j)).1) ((timesS ((timesS e (pauM i) m).1) ((timesS e (pauM i) m).2) (pauM j)).2) (adjS m)).2).cells.getD 0 dZ) (((timesS ((timesS ((timesS e (pauM i) m).1) ((timesS e (pauM i) m).2) (pauM j)).1) ((timesS ((timesS e (pauM i) m).1) ((timesS e (pauM i) m).2) (pauM j)).2) (adjS m)).2).cells.getD 3 dZ)).1) ((sAdd ((timesS ((timesS ((timesS e (pauM i) m).1) ((timesS e (pauM i) m).2) (pauM j)).1) ((timesS ((timesS e (pauM i) m).1) ((timesS e (pauM i) m).2) (pauM j)).2) (adjS m)).1) (((timesS ((timesS ((timesS e (pauM i) m).1) ((timesS e (pauM i) m).2) (pauM j)).1) ((timesS ((timesS e (pauM i) m).1) ((timesS e (pauM i) m).2) (pauM j)).2) (adjS m)).2).cells.getD 0 dZ) (((timesS ((timesS ((timesS e (pauM i) m).1) ((timesS e (pauM i) m).2) (pauM j)).1) ((timesS ((timesS e (pauM i) m).1) ((timesS e (pauM i) m).2) (pauM j)).2) (adjS m)).2).cells.getD 3 dZ)).2) (⟨(⟨1,0,0,0⟩ : Rg),2⟩ : Dy)).2).num.a),vi (((sMul ((sAdd ((timesS ((timesS ((timesS e (pauM i) m).1) ((timesS e (pauM i) m).2) (pauM j)).1) ((timesS ((timesS e (pauM i) m).1) ((timesS e (pauM i) m).2) (pauM j)).2) (adjS m)).1) (((timesS ((timesS ((timesS e (pauM i) m).1) ((timesS e (pauM i) m).2) (pauM j)).1) ((timesS ((timesS e (pauM i) m).1) ((timesS e (pauM i) m).2) (pauM j)).2) (adjS m)).2).cells.getD 0 dZ) (((timesS ((timesS ((timesS e (pauM i) m).1) ((timesS e (pauM i) m).2) (pauM j)).1) ((timesS ((timesS e (pauM i) m).1) ((timesS e (pauM i) m).2) (pauM j)).2) (adjS m)).2).cells.getD 3 dZ)).1) ((sAdd ((timesS ((timesS ((timesS e (pauM i) m).1) ((timesS e (pauM i) m).2) (pauM j)).1) ((timesS ((timesS e (pauM i) m).1) ((timesS e (pauM i) m).2) (pauM j)).2) (adjS m)).1) (((timesS ((timesS ((timesS e (pauM i) m).1) ((timesS e (pauM i) m).2) (pauM j)).1) ((timesS ((timesS e (pauM i) m).1) ((timesS e (pauM i) m).2) (pauM j)).2) (adjS m)).2).cells.getD 0 dZ) (((timesS ((timesS ((timesS e (pauM i) m).1) ((timesS e (pauM i) m).2) (pauM j)).1) ((timesS ((timesS e (pauM i) m).1) ((timesS e (pauM i) m).2) (pauM j)).2) (adjS m)).2).cells.getD 3 dZ)).2) (⟨(⟨1,0,0,0⟩ : Rg),2⟩ : Dy)).2).num.b),vi (((sMul ((sAdd ((timesS ((timesS ((timesS e (pauM i) m).1) ((timesS e (pauM i) m).2) (pauM j)).1) ((timesS ((timesS e (pauM i) m).1) ((timesS e (pauM i) m).2) (pauM j)).2) (adjS m)).1) (((timesS ((timesS ((timesS e (pauM i) m).1) ((timesS e (pauM i) m).2) (pauM j)).1) ((timesS ((timesS e (pauM i) m).1) ((timesS e (pauM i) m).2) (pauM j)).2) (adjS m)).2).cells.getD 0 dZ) (((timesS ((timesS ((timesS e (pauM i) m).1) ((timesS e (pauM i) m).2) (pauM j)).1) ((timesS ((timesS e (pauM i) m).1) ((timesS e (pauM i) m).2) (pauM j)).2) (adjS m)).2).cells.getD 3 dZ)).1) ((sAdd ((timesS ((timesS ((timesS e (pauM i) m).1) ((timesS e (pauM i) m).2) (pauM j)).1) ((timesS ((timesS e (pauM i) m).1) ((timesS e (pauM i) m).2) (pauM j)).2) (adjS m)).1) (((timesS ((timesS ((timesS e (pauM i) m).1) ((timesS e (pauM i) m).2) (pauM j)).1) ((timesS ((timesS e (pauM i) m).1) ((timesS e (pauM i) m).2) (pauM j)).2) (adjS m)).2).cells.getD 0 dZ) (((timesS ((timesS ((timesS e (pauM i) m).1) ((timesS e (pauM i) m).2) (pauM j)).1) ((timesS ((timesS e (pauM i) m).1) ((timesS e (pauM i) m).2) (pauM j)).2) (adjS m)).2).cells.getD 3 dZ)).2) (⟨(⟨1,0,0,0⟩ : Rg),2⟩ : Dy)).2).num.c),vi (((sMul ((sAdd ((timesS ((timesS ((timesS e (pauM i) m).1) ((timesS e (pauM i) m).2) (pauM j)).1) ((timesS ((timesS e (pauM i) m).1) ((timesS e (pauM i) m).2) (pauM j)).2) (adjS m)).1) (((timesS ((timesS ((timesS e (pauM i) m).1) ((timesS e (pauM i) m).2) (pauM j)).1) ((timesS ((timesS e (pauM i) m).1) ((timesS e (pauM i) m).2) (pauM j)).2) (adjS m)).2).cells.getD 0 dZ) (((timesS ((timesS ((timesS e (pauM i) m).1) ((timesS e (pauM i) m).2) (pauM j)).1) ((timesS ((timesS e (pauM i) m).1) ((timesS e (pauM i) m).2) (pauM j)).2) (adjS m)).2).cells.getD 3 dZ)).1) ((sAdd ((timesS ((timesS ((timesS e (pauM i) m).1) ((timesS e (pauM i) m).2) (pauM j)).1) ((timesS ((timesS e (pauM i) m).1) ((timesS e (pauM i) m).2) (pauM j)).2) (adjS m)).1) (((timesS ((timesS ((timesS e (pauM i) m).1) ((timesS e (pauM i) m).2) (pauM j)).1) ((timesS ((timesS e (pauM i) m).1) ((timesS e (pauM i) m).2) (pauM j)).2) (adjS m)).2).cells.getD 0 dZ) (((timesS ((timesS ((timesS e (pauM i) m).1) ((timesS e (pauM i) m).2) (pauM j)).1) ((timesS ((timesS e (pauM i) m).1) ((timesS e (pauM i) m).2) (pauM j)).2) (adjS m)).2).cells.getD 3 dZ)).2) (⟨(⟨1,0,0,0⟩ : Rg),2⟩ : Dy)).2).num.d),vi (((sMul ((sAdd ((timesS ((timesS ((timesS e (pauM i) m).1) ((timesS e (pauM i) m).2) (pauM j)).1) ((timesS ((timesS e (pauM i) m).1) ((timesS e (pauM i) m).2) (pauM j)).2) (adjS m)).1) (((timesS ((timesS ((timesS e (pauM i) m).1) ((timesS e (pauM i) m).2) (pauM j)).1) ((timesS ((timesS e (pauM i) m).1) ((timesS e (pauM i) m).2) (pauM j)).2) (adjS m)).2).cells.getD 0 dZ) (((timesS ((timesS ((timesS e (pauM i) m).1) ((timesS e (pauM i) m).2) (pauM j)).1) ((timesS ((timesS e (pauM i) m).1) ((timesS e (pauM i) m).2) (pauM j)).2) (adjS m)).2).cells.getD 3 dZ)).1) ((sAdd ((timesS ((timesS ((timesS e (pauM i) m).1) ((timesS e (pauM i) m).2) (pauM j)).1) ((timesS ((timesS e (pauM i) m).1) ((timesS e (pauM i) m).2) (pauM j)).2) (adjS m)).1) (((timesS ((timesS ((timesS e (pauM i) m).1) ((timesS e (pauM i) m).2) (pauM j)).1) ((timesS ((timesS e (pauM i) m).1) ((timesS e (pauM i) m).2) (pauM j)).2) (adjS m)).2).cells.getD 0 dZ) (((timesS ((timesS ((timesS e (pauM i) m).1) ((timesS e (pauM i) m).2) (pauM j)).1) ((timesS ((timesS e (pauM i) m).1) ((timesS e (pauM i) m).2) (pauM j)).2) (adjS m)).2).cells.getD 3 dZ)).2) (⟨(⟨1,0,0,0⟩ : Rg),2⟩ : Dy)).2).exp)]) rfl Xv X0x rfl rfl) (fun _ _ h=>⟨fun _=>by obtain ⟨_,_,_,o,_⟩:=h;exact Keep.of_below o,h⟩)) ?_;rintro _ jK ⟨b73,rfl,cU,o,cV⟩
   have eB:aP≠b73:=by have:=N.lt;omega
   have hH:=Q0 x.size cU;have gB:=(a9.below' x).away cU;have cC:=n.away cU;have q:=q.below o;have p:=p.below o;have t:=t.below o;have f:=f.below o;have N:=N.below o;have n:=n.below o;have x:=btr x o;refine Y1 8<|Yt rfl trivial rfl (X0n (enc:=encD) (l:=(l2)) (l2:=([((sMul ((sAdd ((timesS ((timesS ((timesS e (pauM i) m).1) ((timesS e (pauM i) m).2) (pauM j)).1) ((timesS ((timesS e (pauM i) m).1) ((timesS e (pauM i) m).2) (pauM j)).2) (adjS m)).1) (((timesS ((timesS ((timesS e (pauM i) m).1) ((timesS e (pauM i) m).2) (pauM j)).1) ((timesS ((timesS e (pauM i) m).1) ((timesS e (pauM i) m).2) (pauM j)).2) (adjS m)).2).cells.getD 0 dZ) (((timesS ((timesS ((timesS e (pauM i) m).1) ((timesS e (pauM i) m).2) (pauM j)).1) ((timesS ((timesS e (pauM i) m).1) ((timesS e (pauM i) m).2) (pauM j)).2) (adjS m)).2).cells.getD 3 dZ)).1) ((sAdd ((timesS ((timesS ((timesS e (pauM i) m).1) ((timesS e (pauM i) m).2) (pauM j)).1) ((timesS ((timesS e (pauM i) m).1) ((timesS e (pauM i) m).2) (pauM j)).2) (adjS m)).1) (((timesS ((timesS ((timesS e (pauM i) m).1) ((timesS e (pauM i) m).2) (pauM j)).1) ((timesS ((timesS e (pauM i) m).1) ((timesS e (pauM i) m).2) (pauM j)).2) (adjS m)).2).cells.getD 0 dZ) (((timesS ((timesS ((timesS e (pauM i) m).1) ((timesS e (pauM i) m).2) (pauM j)).1) ((timesS ((timesS e (pauM i) m).1) ((timesS e (pauM i) m).2) (pauM j)).2) (adjS m)).2).cells.getD 3 dZ)).2) (⟨(⟨1,0,0,0⟩ : Rg),2⟩ : Dy)).2)])) (B0:=w0.heap.size) rfl rfl Xv X0x Xz X28 n (Rd.of_blk cV rfl _ cV.lt) (by simp only [maxLen];simp;omega) (by simp;omega) x.size) ?_;rintro _ jL ⟨gC,gD,rfl,cW,hg,e8⟩
   have b8:Own _ w0.heap.size 86 5 encD _ _ (l2):=n
   have eC:=e8 _ N.lt aE;have eD:=e8 _ cV.lt cC;clear e8;have q:=q.appT b8 hg rfl;have p:=p.appT b8 hg rfl;have t:=t.appT b8 hg rfl;have f:=f.appT b8 hg rfl;have x:=Below.app x b8 hg (Qb _) x.size;clear b8 hg;refine Yo 9 rfl (fun _=>Vd rfl X0t 0)<|Y1 10 ?_;refine Yh rfl trivial rfl (Vw [.slice gC (l2++([((sMul ((sAdd ((timesS ((timesS ((timesS e (pauM i) m).1) ((timesS e (pauM i) m).2) (pauM j)).1) ((timesS ((timesS e (pauM i) m).1) ((timesS e (pauM i) m).2) (pauM j)).2) (adjS m)).1) (((timesS ((timesS ((timesS e (pauM i) m).1) ((timesS e (pauM i) m).2) (pauM j)).1) ((timesS ((timesS e (pauM i) m).1) ((timesS e (pauM i) m).2) (pauM j)).2) (adjS m)).2).cells.getD 0 dZ) (((timesS ((timesS ((timesS e (pauM i) m).1) ((timesS e (pauM i) m).2) (pauM j)).1) ((timesS ((timesS e (pauM i) m).1) ((timesS e (pauM i) m).2) (pauM j)).2) (adjS m)).2).cells.getD 3 dZ)).1) ((sAdd ((timesS ((timesS ((timesS e (pauM i) m).1) ((timesS e (pauM i) m).2) (pauM j)).1) ((timesS ((timesS e (pauM i) m).1) ((timesS e (pauM i) m).2) (pauM j)).2) (adjS m)).1) (((timesS ((timesS ((timesS e (pauM i) m).1) ((timesS e (pauM i) m).2) (pauM j)).1) ((timesS ((timesS e (pauM i) m).1) ((timesS e (pauM i) m).2) (pauM j)).2) (adjS m)).2).cells.getD 0 dZ) (((timesS ((timesS ((timesS e (pauM i) m).1) ((timesS e (pauM i) m).2) (pauM j)).1) ((timesS ((timesS e (pauM i) m).1) ((timesS e (pauM i) m).2) (pauM j)).2) (adjS m)).2).cells.getD 3 dZ)).2) (⟨(⟨1,0,0,0⟩ : Rg),2⟩ : Dy)).2)])).length gD] X3g f) ?_;rintro _ jM ⟨G,hb⟩;have g:=f;have q:=q.only G (Blk.ne q g rfl);have p:=p.only G (by omega);have t:=t.only G (Blk.ne t g rfl);have cW:=cW.onlyT G g rfl;have x:=Below.only x G dB;have f:=hb;refine Yd fun a J=>?_;refine Xn<|eT _ _ ?_
   refine Zr J<|Zm rfl<|Ze (X01 rfl rfl (by omega) (by omega))<|Za rfl ?_;refine Zn fun a J=>?_;refine Xm ?_;exact ⟨(j+1,l2++([((sMul ((sAdd ((timesS ((timesS ((timesS e (pauM i) m).1) ((timesS e (pauM i) m).2) (pauM j)).1) ((timesS ((timesS e (pauM i) m).1) ((timesS e (pauM i) m).2) (pauM j)).2) (adjS m)).1) (((timesS ((timesS ((timesS e (pauM i) m).1) ((timesS e (pauM i) m).2) (pauM j)).1) ((timesS ((timesS e (pauM i) m).1) ((timesS e (pauM i) m).2) (pauM j)).2) (adjS m)).2).cells.getD 0 dZ) (((timesS ((timesS ((timesS e (pauM i) m).1) ((timesS e (pauM i) m).2) (pauM j)).1) ((timesS ((timesS e (pauM i) m).1) ((timesS e (pauM i) m).2) (pauM j)).2) (adjS m)).2).cells.getD 3 dZ)).1) ((sAdd ((timesS ((timesS ((timesS e (pauM i) m).1) ((timesS e (pauM i) m).2) (pauM j)).1) ((timesS ((timesS e (pauM i) m).1) ((timesS e (pauM i) m).2) (pauM j)).2) (adjS m)).1) (((timesS ((timesS ((timesS e (pauM i) m).1) ((timesS e (pauM i) m).2) (pauM j)).1) ((timesS ((timesS e (pauM i) m).1) ((timesS e (pauM i) m).2) (pauM j)).2) (adjS m)).2).cells.getD 0 dZ) (((timesS ((timesS ((timesS e (pauM i) m).1) ((timesS e (pauM i) m).2) (pauM j)).1) ((timesS ((timesS e (pauM i) m).1) ((timesS e (pauM i) m).2) (pauM j)).2) (adjS m)).2).cells.getD 3 dZ)).2) (⟨(⟨1,0,0,0⟩ : Rg),2⟩ : Dy)).2)]),(sMul ((sAdd ((timesS ((timesS ((timesS e (pauM i) m).1) ((timesS e (pauM i) m).2) (pauM j)).1) ((timesS ((timesS e (pauM i) m).1) ((timesS e (pauM i) m).2) (pauM j)).2) (adjS m)).1) (((timesS ((timesS ((timesS e (pauM i) m).1) ((timesS e (pauM i) m).2) (pauM j)).1) ((timesS ((timesS e (pauM i) m).1) ((timesS e (pauM i) m).2) (pauM j)).2) (adjS m)).2).cells.getD 0 dZ) (((timesS ((timesS ((timesS e (pauM i) m).1) ((timesS e (pauM i) m).2) (pauM j)).1) ((timesS ((timesS e (pauM i) m).1) ((timesS e (pauM i) m).2) (pauM j)).2) (adjS m)).2).cells.getD 3 dZ)).1) ((sAdd ((timesS ((timesS ((timesS e (pauM i) m).1) ((timesS e (pauM i) m).2) (pauM j)).1) ((timesS ((timesS e (pauM i) m).1) ((timesS e (pauM i) m).2) (pauM j)).2) (adjS m)).1) (((timesS ((timesS ((timesS e (pauM i) m).1) ((timesS e (pauM i) m).2) (pauM j)).1) ((timesS ((timesS e (pauM i) m).1) ((timesS e (pauM i) m).2) (pauM j)).2) (adjS m)).2).cells.getD 0 dZ) (((timesS ((timesS ((timesS e (pauM i) m).1) ((timesS e (pauM i) m).2) (pauM j)).1) ((timesS ((timesS e (pauM i) m).1) ((timesS e (pauM i) m).2) (pauM j)).2) (adjS m)).2).cells.getD 3 dZ)).2) (⟨(⟨1,0,0,0⟩ : Rg),2⟩ : Dy)).1),⟨gC,gD,J.sb,(by omega),gU,q,p,t,f,cW,x⟩,(by first|omega|(dsimp only;omega))⟩
  have aC:=aG;have aG:=Q1 aG
  have aJ:j=3:=by have:=aG;omega
  subst aJ
  refine Q9<|Xk<|Xk<|X05 ?_;refine Xn<|eP _ _<|Zr J<|Zm rfl<|Ze (X01 rfl rfl (by omega) (by omega))<|Za rfl ?_;refine Zn fun a J=>?_;refine Xm ?_;exact ⟨(i+1,l2,e),⟨bC,bE,J.sb,(by omega),(by rw [Wb,Nat.one_mul];exact dC),q,p,t,f,n,x⟩,(by first|omega|(dsimp only;omega))⟩
 have aB:=aF;have aF:=Q1 aF
 have b9:i=3:=by have:=aF;omega
 subst b9
 obtain ⟨gE,gF⟩:=Xni eE hl;refine Q9<|Xk<|Xk<|X05 ?_;refine eK _ _<|Q5 fun _ gG=>?_;refine Zs J fun _ gI=>?_;refine Zm rfl<|Ze (Xf0 rfl)<|Ze (Vd rfl X45 0)<|Ze (X0 rfl Xm8 (t.at 0))<|Zt gI fun a J=>?_
 refine Xl J rfl (fun bH=>?_) (fun bH=>?_)
 ·have eA:=bH;have he:=gE bH;refine Zs J fun _ gJ=>?_;refine Ze (Xg (ps:=[]) (cs:=[.slice none 0 0]) rfl (fun _=>by first|rfl|kernel_rfl))<|Zo (Vw [.slice none 0 0] X1i p) ?_;rintro _ jN ⟨G,hb⟩;have g:=p;have x:=Below.only x G dA;have p:=hb;refine Za rfl<|Zt gJ fun a J=>?_;refine Q6<|X7<|X3 J (X0r J rfl (ResV.cellN (l:=[.slice none 0 0]) rfl X16 (p.at 0) rfl) rfl) ?_
  rw [he]
  exact ⟨none,0,rfl,(Own.nil _ _ _ _ _),x⟩
 have eA:=bH;have he:=gF bH;refine Q7<|gG _ _<|Zs J fun _ gK=>?_;refine Ze (Vn X16 f)<|Zo (Vw [.slice bI l.length bJ] X1i p) ?_;rintro _ jO ⟨G,hb⟩;have g:=p;have bM:=bM.onlyT G g rfl;have x:=Below.only x G dA;have p:=hb;refine Za rfl<|Zt gK fun a J=>?_
 refine Q6 (X3 J (X0r J rfl (ResV.cellN (l:=[.slice bI l.length bJ]) rfl X16 (p.at 0) rfl) rfl) ?_)
 rw [he]
 exact ⟨bI,bJ,rfl,bM,x⟩
theorem tm3(n:Nat) : (n:Int).tmod 3=((n % 3:Nat) : Int)∧n % 3<3:=⟨rfl,Nat.mod_lt _ (by decide)⟩
theorem Xzc{n:Nat}(h:n<9) : wr ((n:Int).tdiv 3)=((n/3:Nat) : Int):=X0i (i:=((n/3:Nat) : Int)) (by omega) (by omega)
theorem Xyy{l:List Dy}(h:l.length=9){i j:Nat}(hi:i<3)(hj:j<3) : l[i*3+j]? = some ((bm3 l).at i j):=by
 rw [Wi];exact at9 h hi hj
theorem Xjt{f:Nat→Nat→Dy}(n:Nat) : gridL f 3 n++[f (n/3) (n % 3)]=gridL f 3 (n+1):=by
 unfold gridL;rw [List.range_succ,List.map_append];rfl
theorem Xle(w0:World)(bV:Nat)(o:Blk w0 bV 95 [.bool false])(Ap:Option Addr)(cp:Nat)(p:List Dy)(e:Rd w0 w0.heap.size 86 encD Ap p)(Aq:Option Addr)(cq:Nat)(q:List Dy)(f:Rd w0 w0.heap.size 86 encD Aq q)(cH:p.length=9)(cJ:q.length=9)(b2:∀ x ∈ p,dOk x=true)(b3:∀ x ∈ q,dOk x=true)(r:List Dy)(hr:mulBI p q=some r) : Ret Tryz.prog 63 [.pointer (some ⟨bV,0,none⟩),.agg #[.slice Ap p.length cp],.agg #[.slice Aq q.length cq]] w0 (fun v w=>∃ A c,v=.agg #[.slice A r.length c]∧Own w w0.heap.size 86 5 encD A c r∧Kept bV w0.heap.size w0 w∧Blk w bV 95 [.bool false]):=by
 have d7:=o.lt;refine enter Tryz.func63 rfl 53 rfl rfl ?_;intro a I
 have H:Kept bV w0.heap.size w0 w0:=Kept.refl _ _ _
 refine Zs I fun _ cK=>?_;refine Zf (X09 (zs:=[.slice Ap p.length cp]) rfl rfl) ?_;rintro _ w1 ⟨b4,rfl,cM,G,y⟩;have d8:=Q0 H.size cM;have o:=o.below G;have e:=e.below G;have f:=f.below G;have H:=ktr H G;refine Zf (X09 (zs:=[.slice Aq q.length cq]) rfl rfl) ?_;rintro _ w2 ⟨b5,rfl,cO,G,B⟩
 have cE:b4≠b5:=by have:=y.lt;omega
 have d9:=Q0 H.size cO;have o:=o.below G;have y:=y.below G;have e:=e.below G;have f:=f.below G;have H:=ktr H G;refine Zf (X4 (zs:=[.slice none 0 0]) X22 rfl) ?_;rintro _ w3 ⟨b7,rfl,cP,G,D⟩
 have cF:b4≠b7:=by have:=y.lt;omega
 have cG:b5≠b7:=by have:=B.lt;omega
 have b6:=Q0 H.size cP;have o:=o.below G;have y:=y.below G;have B:=B.below G;have e:=e.below G;have f:=f.below G;have H:=ktr H G;refine Zx cK fun a I _ cQ=>?_;refine Zf (X4 (zs:=[.slice none 0 0]) X22 rfl) ?_;rintro _ w4 ⟨b10,rfl,b8,G,n⟩
 have b9:b4≠b10:=by have:=y.lt;omega
 have bC:b5≠b10:=by have:=B.lt;omega
 have bD:b7≠b10:=by have:=D.lt;omega
 have aQ:=Q0 H.size b8;have o:=o.below G;have y:=y.below G;have B:=B.below G;have D:=D.below G;have e:=e.below G;have f:=f.below G;have H:=ktr H G;refine ZX cQ fun a I _ bE=>?_;refine Zs I fun _ bF=>?_;refine Za rfl<|Zt bF fun a I=>?_;refine Q8<|X03 (σ:=Nat×(List Dy)) (fun (s:Nat×(List Dy)) (a:Act) (w:World)=>match s with|(i,l)=>∃ a9 aA,Fr a 53 [(0,.pointer (some ⟨bV,0,none⟩)),(4,.pointer (some ⟨b4,0,none⟩)),(5,.pointer (some ⟨b5,0,none⟩)),(6,.pointer (some ⟨b7,0,none⟩)),(7,.pointer (some ⟨b10,0,none⟩)),(8,vi (i:Int))]∧(i≤3)∧(seqO (gridG (fun i j=>dotI (bm3 p) (bm3 q) i j 3) 3) (i*3)=some l)∧Blk w bV 95 [.bool false]∧Blk w b4 66 [.slice Ap p.length cp]∧Blk w b5 66 [.slice Aq q.length cq]∧Blk w b7 66 [.slice none 0 0]∧Blk w b10 66 [.slice a9 l.length aA]∧Rd w w0.heap.size 86 encD Ap p∧Rd w w0.heap.size 86 encD Aq q∧Own w w0.heap.size 86 5 encD a9 aA l∧Kept bV w0.heap.size w0 w) (fun (s:Nat×(List Dy))=>match s with|(i,l)=>3-i) (0,[]) ?_ ?_
 ·exact ⟨none,0,I.sb,(by omega),(by rw [Nat.zero_mul];rfl),o,y,B,D,n,e,f,(Own.nil _ _ _ _ _),H⟩
 rintro ⟨i,l⟩ a w5 ⟨a9,aA,I,hi,hl,o,y,B,D,n,e,f,aC,H⟩;refine Q5 fun _ bG=>?_;refine Zs I fun _ bH=>?_;refine Zm rfl<|Ze (X14 rfl rfl)<|Zt bH fun a I=>?_
 refine Xl I rfl (fun L=>?_) (fun L=>?_)
 ·have aR:=L;have L:=Q2 L
  have aI:i<3:=by have:=L;omega
  refine Q7<|bG _ _<|Q5 fun _ bI=>?_;refine Q8<|Zs I fun _ bJ=>?_;refine Za rfl<|Zt bJ fun a I=>?_;refine Q8<|X03 (σ:=Nat×(List Dy)) (fun (s:Nat×(List Dy)) (a:Act) (w:World)=>match s with|(j,l2)=>∃ aF aG,Fr a 53 [(0,.pointer (some ⟨bV,0,none⟩)),(4,.pointer (some ⟨b4,0,none⟩)),(5,.pointer (some ⟨b5,0,none⟩)),(6,.pointer (some ⟨b7,0,none⟩)),(7,.pointer (some ⟨b10,0,none⟩)),(8,vi (i:Int)),(9,vi (j:Int))]∧(j≤3)∧(seqO (gridG (fun i j=>dotI (bm3 p) (bm3 q) i j 3) 3) (i*3+j)=some l2)∧Blk w bV 95 [.bool false]∧Blk w b4 66 [.slice Ap p.length cp]∧Blk w b5 66 [.slice Aq q.length cq]∧Blk w b7 66 [.slice none 0 0]∧Blk w b10 66 [.slice aF l2.length aG]∧Rd w w0.heap.size 86 encD Ap p∧Rd w w0.heap.size 86 encD Aq q∧Own w w0.heap.size 86 5 encD aF aG l2∧Kept bV w0.heap.size w0 w) (fun (s:Nat×(List Dy))=>match s with|(j,l2)=>3-j) (0,l) ?_ ?_
  ·exact ⟨a9,aA,I.sb,(by omega),hl,o,y,B,D,n,e,f,aC,H⟩
  rintro ⟨j,l2⟩ a w6 ⟨aF,aG,I,hj,aN,o,y,B,D,n,e,f,E,H⟩;refine Q5 fun _ bK=>?_;refine Zs I fun _ bL=>?_;refine Zm rfl<|Ze (X14 rfl rfl)<|Zt bL fun a I=>?_
  refine Xl I rfl (fun M=>?_) (fun M=>?_)
  ·have aS:=M;have M:=Q2 M
   have aJ:j<3:=by have:=M;omega
   have dA:=X31 aN;refine Q7<|bK _ _<|Q5 fun _ bM=>?_;refine Q8<|Zs I fun _ bN=>?_;refine Ze (Xg (ps:=[]) (cs:=[vi 0,vi 0,vi 0,vi 0,vi 0]) rfl (fun _=>by first|rfl|kernel_rfl))<|Zf (X4 (zs:=[vi 0,vi 0,vi 0,vi 0,vi 0]) X0l rfl) ?_;rintro _ w7 ⟨aT,rfl,aD,G,C⟩;have U:=Q0 H.size aD;have bO:=e.away aD;have bP:=f.away aD;have W:=E.away aD;have o:=o.below G;have y:=y.below G;have B:=B.below G;have D:=D.below G;have n:=n.below G;have e:=e.below G;have f:=f.below G;have E:=E.below G;have H:=ktr H G;refine Zo (Vw [vi 0,vi 0,vi 0,vi 0,vi 0] Xa C) ?_;rintro _ w8 ⟨J,hb⟩;have g:=C;have o:=o.only J (Blk.ne o g rfl);have y:=y.only J (Blk.ne y g rfl);have B:=B.only J (Blk.ne B g rfl);have D:=D.only J (Blk.ne D g rfl);have n:=n.only J (Blk.ne n g rfl);have e:=e.only J U;have f:=f.only J U;have E:=E.onlyA J W;have H:=Kept.only H J U;have C:=hb;refine ZX bN fun a I _ bQ=>?_;refine Zs I fun _ bR=>?_;refine Za rfl<|Zt bR fun a I=>?_;refine Q8<|X03 (σ:=Nat×Dy) (fun (s:Nat×Dy) (a:Act) (w:World)=>match s with|(k,s)=>Fr a 53 [(0,.pointer (some ⟨bV,0,none⟩)),(4,.pointer (some ⟨b4,0,none⟩)),(5,.pointer (some ⟨b5,0,none⟩)),(6,.pointer (some ⟨b7,0,none⟩)),(7,.pointer (some ⟨b10,0,none⟩)),(8,vi (i:Int)),(9,vi (j:Int)),(10,.pointer (some ⟨aT,0,none⟩)),(11,vi (k:Int))]∧(k≤3)∧(dotI (bm3 p) (bm3 q) i j k=some s)∧Blk w bV 95 [.bool false]∧Blk w b4 66 [.slice Ap p.length cp]∧Blk w b5 66 [.slice Aq q.length cq]∧Blk w b7 66 [.slice none 0 0]∧Blk w b10 66 [.slice aF l2.length aG]∧Blk w aT 86 [vi s.num.a,vi s.num.b,vi s.num.c,vi s.num.d,vi s.exp]∧Rd w w0.heap.size 86 encD Ap p∧Rd w w0.heap.size 86 encD Aq q∧Own w w0.heap.size 86 5 encD aF aG l2∧Kept bV w0.heap.size w0 w) (fun (s:Nat×Dy)=>match s with|(k,s)=>3-k) (0,dZ) ?_ ?_
   ·exact ⟨I.sb,(by omega),rfl,o,y,B,D,n,C,e,f,E,H⟩
   rintro ⟨k,s⟩ a w9 ⟨I,hk,hs,o,y,B,D,n,C,e,f,E,H⟩;refine Q5 fun _ bS=>?_;refine Zs I fun _ bU=>?_;refine Zm rfl<|Ze (X14 rfl rfl)<|Zt bU fun a I=>?_
   refine Xl I rfl (fun N=>?_) (fun N=>?_)
   ·have aU:=N;have N:=Q2 N
    have aK:k<3:=by have:=N;omega
    obtain ⟨z,t,cR,cS,cT,cU,cV,dB⟩:=Xrt hr b2 b3 aI aJ aK hs;refine Q7<|bS _ _<|Q5 fun _ bW=>?_;refine Q8<|X07 (some bV) (fun j=>[21].contains j) mixed ?_;intro cW G;have o:=o.below G;have y:=y.below G;have B:=B.below G;have D:=D.below G;have n:=n.below G;have C:=C.below G;have e:=e.below G;have f:=f.below G;have E:=E.below G;have H:=ktr H G;refine Yb I<|Yo 0 rfl (fun _=>Xb rfl) ?_;refine Yw 1 rfl trivial (fun w1 h1=>Xy (l:=[vi s.num.a,vi s.num.b,vi s.num.c,vi s.num.d,vi s.exp]) rfl X6 ((C.only h1 (Blk.ne C o rfl)).at 0) rfl) ?_;refine Yo 2 rfl (fun _=>Xb rfl)<|Yo 3 rfl (fun _=>Vd rfl X0t 0) ?_;refine Yw 4 rfl trivial (fun w1 h1=>X0 rfl X0j ((y.only h1 (Blk.ne y o rfl)).at 0)) ?_;refine Yo 5 rfl (fun _=>Xb rfl)<|Yo 6 rfl (fun _=>X5v rfl rfl (by omega) (by omega))<|Yo 7 rfl (fun _=>Xb rfl)<|Yo 8 rfl (fun _=>X01 rfl rfl (by omega) (by omega)) ?_;refine Ya (k:=(3*i+k)) (u:=((bm3 p).at i k)) (enc:=encD) (l:=p) 9 rfl trivial o rfl rfl rfl Xv Xa Xz e (at9 cH aI aK) (by omega) ?_;intro dC aW aO;refine Yw 10 rfl trivial (fun w1 h1=>Xy (l:=[vi (((bm3 p).at i k).num.a),vi (((bm3 p).at i k).num.b),vi (((bm3 p).at i k).num.c),vi (((bm3 p).at i k).num.d),vi (((bm3 p).at i k).exp)]) rfl X6 (aW.only h1 aO) rfl) ?_;refine Yo 11 rfl (fun _=>Vd rfl X0t 0) ?_;refine Yw 12 rfl trivial (fun w1 h1=>X0 rfl X0j ((B.only h1 (Blk.ne B o rfl)).at 0)) ?_;refine Yo 13 rfl (fun _=>Xb rfl)<|Yo 14 rfl (fun _=>X5v rfl rfl (by omega) (by omega))<|Yo 15 rfl (fun _=>Xb rfl)<|Yo 16 rfl (fun _=>X01 rfl rfl (by omega) (by omega)) ?_;refine Ya (k:=(3*k+j)) (u:=((bm3 q).at k j)) (enc:=encD) (l:=q) 17 rfl trivial o rfl rfl rfl Xv Xa Xz f (at9 cJ aK aJ) (by omega) ?_;intro dD aX aP
    refine Yw 18 rfl trivial (fun w1 h1=>Xy (l:=[vi (((bm3 q).at k j).num.a),vi (((bm3 q).at k j).num.b),vi (((bm3 q).at k j).num.c),vi (((bm3 q).at k j).num.d),vi (((bm3 q).at k j).exp)]) rfl X6 (aX.only h1 aP) rfl) ?_;refine Y1 19<|Yf rfl trivial (EfW.mono (X1j (vs:=[.pointer (some ⟨bV,0,none⟩),.agg #[vi (((bm3 p).at i k).num.a),vi (((bm3 p).at i k).num.b),vi (((bm3 p).at i k).num.c),vi (((bm3 p).at i k).num.d),vi (((bm3 p).at i k).exp)],.agg #[vi (((bm3 q).at k j).num.a),vi (((bm3 q).at k j).num.b),vi (((bm3 q).at k j).num.c),vi (((bm3 q).at k j).num.d),vi (((bm3 q).at k j).exp)]]) rfl Xes (by have hq:=Xrv cW bV false o ((bm3 p).at i k) ((bm3 q).at k j) (X1r (Mx.at_ok (m:=bm3 p) b2 i k)) (X1r (Mx.at_ok (m:=bm3 q) b3 k j));rw [cR] at hq;exact hq)) (fun _ _ h=>⟨fun _=>by obtain ⟨rfl,hK,aB⟩:=h;exact hK.keep,h⟩)) ?_;rintro _ cX ⟨rfl,hK,aB⟩;obtain ⟨wm,hO,hm,G⟩:=hK.mid;clear hm;have g:=o;have y:=y.only hO (Blk.ne y g rfl);have B:=B.only hO (Blk.ne B g rfl);have D:=D.only hO (Blk.ne D g rfl);have n:=n.only hO (Blk.ne n g rfl);have C:=C.only hO (Blk.ne C g rfl);have e:=e.onlyT hO g rfl;have f:=f.onlyT hO g rfl;have E:=E.onlyT hO g rfl;have H:=H.self hO;have y:=y.below G;have B:=B.below G;have D:=D.below G;have n:=n.below G;have C:=C.below G;have e:=e.below G;have f:=f.below G;have E:=E.below G;have H:=ktr H G
    clear g G hO hK;have o:=aB;clear aB;refine Y1 20<|Yf rfl trivial (EfW.mono (X1j (vs:=[.pointer (some ⟨bV,0,none⟩),.agg #[vi s.num.a,vi s.num.b,vi s.num.c,vi s.num.d,vi s.exp],.agg #[vi z.num.a,vi z.num.b,vi z.num.c,vi z.num.d,vi z.exp]]) rfl Xct (by have hq:=Xps cX bV false o s z cV cU;rw [cS] at hq;exact hq)) (fun _ _ h=>⟨fun _=>by obtain ⟨rfl,hK,aB⟩:=h;exact hK.keep,h⟩)) ?_;rintro _ dE ⟨rfl,hK,aB⟩;obtain ⟨wm,hO,hm,G⟩:=hK.mid;clear hm;have g:=o;have y:=y.only hO (Blk.ne y g rfl);have B:=B.only hO (Blk.ne B g rfl);have D:=D.only hO (Blk.ne D g rfl);have n:=n.only hO (Blk.ne n g rfl);have C:=C.only hO (Blk.ne C g rfl);have e:=e.onlyT hO g rfl;have f:=f.onlyT hO g rfl;have E:=E.onlyT hO g rfl;have H:=H.self hO;have y:=y.below G;have B:=B.below G;have D:=D.below G;have n:=n.below G;have C:=C.below G;have e:=e.below G;have f:=f.below G;have E:=E.below G;have H:=ktr H G
    clear g G hO hK;have o:=aB;clear aB;refine Y1 21<|Yh rfl trivial rfl (Vw [vi t.num.a,vi t.num.b,vi t.num.c,vi t.num.d,vi t.exp] Xa C) ?_;rintro _ dF ⟨J,hb⟩;have g:=C;have o:=o.only J (Blk.ne o g rfl);have y:=y.only J (Blk.ne y g rfl);have B:=B.only J (Blk.ne B g rfl);have D:=D.only J (Blk.ne D g rfl);have n:=n.only J (Blk.ne n g rfl);have e:=e.only J U;have f:=f.only J U;have E:=E.onlyA J W;have H:=Kept.only H J U;have C:=hb;refine Yd fun a I=>?_;refine Xn<|bW _ _<|Zr I<|Zm rfl<|Ze (X01 rfl rfl (by omega) (by omega))<|Za rfl ?_;refine Zn fun a I=>?_;refine Xm ?_;exact ⟨(k+1,t),⟨I.sb,(by omega),cT,o,y,B,D,n,C,e,f,E,H⟩,(by first|omega|(dsimp only;omega))⟩
   have aU:=N;have N:=Q1 N
   have aK:k=3:=by have:=N;omega
   subst aK
   have d5:=Xmh hr aJ aI aN hs;refine Q9<|Xk<|Xk<|X05 ?_;refine bQ _ _<|Zr I<|Ze (Vd rfl X0t 0)<|Ze (X0 rfl X0j (n.at 0))<|Ze (Vn X6 C)<|Zf (Xd (k:=1) (vs:=[.agg #[vi s.num.a,vi s.num.b,vi s.num.c,vi s.num.d,vi s.exp]]) (zs:=[vi s.num.a,vi s.num.b,vi s.num.c,vi s.num.d,vi s.exp]) rfl Xv X0x rfl rfl) ?_;rintro _ dG ⟨b36,rfl,aE,G,aL⟩
   have aZ:aT≠b36:=by have:=C.lt;omega
   have d6:=Q0 H.size aE;have bZ:=e.away aE;have cA:=f.away aE;have aH:=E.away aE;have o:=o.below G;have y:=y.below G;have B:=B.below G;have D:=D.below G;have n:=n.below G;have C:=C.below G;have e:=e.below G;have f:=f.below G;have E:=E.below G;have H:=ktr H G;refine Zf (X0n (enc:=encD) (l:=(l2)) (l2:=([s])) (B0:=w0.heap.size) rfl rfl Xv X0x Xz X28 E (Rd.of_blk aL rfl _ aL.lt) (by simp only [maxLen];simp;omega) (by simp;omega) H.size) ?_;rintro _ dH ⟨cB,cC,rfl,aM,hg,aY⟩
   have Q:Own _ w0.heap.size 86 5 encD _ _ (l2):=E
   have b0:=aY _ C.lt W;have b1:=aY _ aL.lt aH;clear aY;have o:=o.appT Q hg rfl;have y:=y.appT Q hg rfl;have B:=B.appT Q hg rfl;have D:=D.appT Q hg rfl;have n:=n.appT Q hg rfl;have e:=e.appB Q hg (Qb _);have f:=f.appB Q hg (Qb _);have H:=Kept.app H Q hg (Qb _) H.size;clear Q hg;refine Ze (Vd rfl X0t 0)<|Zo (Vw [.slice cB (l2++([s])).length cC] X3g n) ?_;rintro _ dI ⟨J,hb⟩;have g:=n;have o:=o.only J (Blk.ne o g rfl);have y:=y.only J (by omega);have B:=B.only J (by omega);have D:=D.only J (by omega);have e:=e.onlyT J g rfl;have f:=f.onlyT J g rfl;have aM:=aM.onlyT J g rfl;have H:=Kept.only H J aQ;have n:=hb;refine Zn fun a I=>?_;refine Xn<|bM _ _<|Zr I<|Zm rfl<|Ze (X01 rfl rfl (by omega) (by omega))<|Za rfl ?_;refine Zn fun a I=>?_;refine Xm ?_;exact ⟨(j+1,l2++[s]),⟨cB,cC,I.sb,(by omega),d5,o,y,B,D,n,e,f,aM,H⟩,(by first|omega|(dsimp only;omega))⟩
  have aS:=M;have M:=Q1 M
  have aJ:j=3:=by have:=M;omega
  refine Q9<|Xk<|Xk<|X05 ?_;refine Xn<|bI _ _<|Zr I<|Zm rfl<|Ze (X01 rfl rfl (by omega) (by omega))<|Za rfl ?_;refine Zn fun a I=>?_;refine Xm ?_;exact ⟨(i+1,l2),⟨aF,aG,I.sb,(by omega),(by rw [Wb,Nat.one_mul];rw [aJ] at aN;exact aN),o,y,B,D,n,e,f,E,H⟩,(by first|omega|(dsimp only;omega))⟩
 have aR:=L;have L:=Q1 L
 have aI:i=3:=by have:=L;omega
 refine Q9<|Xk<|Xk<|X05 ?_;refine bE _ _<|Zs I fun _ cD=>?_;refine Ze (Vn X16 n)<|Zo (Vw [.slice a9 l.length aA] X1i D) ?_;rintro _ dJ ⟨J,hb⟩;have g:=D;have o:=o.only J (Blk.ne o g rfl);have aC:=aC.onlyT J g rfl;have H:=Kept.only H J b6;have D:=hb;refine Zt cD fun a I=>?_
 refine Q6 (X3 I (Xt I rfl (ResV.cellN (l:=[.slice a9 l.length aA]) rfl X16 (D.at 0) rfl)) ?_)
 have he:r=l:=by rw [aI] at hl;exact Option.some.inj (hr.symm.trans hl)
 rw [he]
 exact ⟨a9,aA,rfl,aC,H,o⟩
theorem Xy2(D:World)(Ap:Option Addr)(cp:Nat)(p:List Dy)(J:Rd D D.heap.size 86 encD Ap p)(aR:p.length=9) : Ret Tryz.prog 112 [.agg #[.slice Ap p.length cp]] D (fun v w=>∃ A c,v=.agg #[.slice A (trB p).length c]∧Own w D.heap.size 86 5 encD A c (trB p)∧Below D.heap.size D w):=by
 refine enter Tryz.func112 rfl 25 rfl rfl ?_;intro a x
 have q:=bz D
 refine Zs x fun _ aS=>?_;refine Zf (X09 (zs:=[.slice Ap p.length cp]) rfl rfl) ?_;rintro _ w1 ⟨b3,rfl,aT,t,e⟩;have b0:=Q0 q.size aT;have q:=btr q t;refine Zf (X4 (zs:=[.slice none 0 0]) X22 rfl) ?_;rintro _ w2 ⟨b5,rfl,aU,t,f⟩
 have aO:b3≠b5:=by have:=e.lt;omega
 have aD:=Q0 q.size aU;have e:=e.below t;have q:=btr q t;refine Zx aS fun a x _ aW=>?_;refine Zf (X4 (zs:=[.slice none 0 0]) X22 rfl) ?_;rintro _ w3 ⟨b8,rfl,aX,t,m⟩
 have aP:b3≠b8:=by have:=e.lt;omega
 have aQ:b5≠b8:=by have:=f.lt;omega
 have aE:=Q0 q.size aX;have e:=e.below t;have f:=f.below t;have q:=btr q t;refine ZX aW fun a x _ aY=>?_;refine Zs x fun _ aF=>?_;refine Za rfl<|Zt aF fun a x=>?_;refine Q8<|X03 (σ:=Nat×(List Dy)) (fun (s:Nat×(List Dy)) (a:Act) (w:World)=>match s with|(n,l)=>∃ z B,Fr a 25 [(1,.pointer (some ⟨b3,0,none⟩)),(2,.pointer (some ⟨b5,0,none⟩)),(3,.pointer (some ⟨b8,0,none⟩)),(4,vi (n:Int))]∧(n≤9)∧(gridL (fun i j=>(bm3 p).at j i) 3 n=l)∧Blk w b3 66 [.slice Ap p.length cp]∧Blk w b5 66 [.slice none 0 0]∧Blk w b8 66 [.slice z l.length B]∧Own w D.heap.size 86 5 encD z B l∧Below D.heap.size D w) (fun (s:Nat×(List Dy))=>match s with|(n,l)=>9-n) (0,[]) ?_ ?_
 ·exact ⟨none,0,x.sb,(by omega),rfl,e,f,m,(Own.nil _ _ _ _ _),q⟩
 rintro ⟨n,l⟩ a w4 ⟨z,B,x,hn,hl,e,f,m,g,q⟩;refine Q5 fun _ aG=>?_;refine Zs x fun _ aH=>?_;refine Zm rfl<|Ze (X14 rfl rfl)<|Zt aH fun a x=>?_
 refine Xl x rfl (fun o=>?_) (fun o=>?_)
 ·have a9:=o;have o:=Q2 o
  have aA:n<9:=by have:=o;omega
  have b1:l.length=n:=by rw [← hl,X2f]
  refine Q7<|aG _ _<|Q5 fun _ aI=>?_;refine Q8<|X07 none (fun j=>[13,15].contains j) mixed ?_;intro w5 t;have e:=e.below t;have f:=f.below t;have m:=m.below t;have g:=g.below t;have q:=btr q t;refine Yb x<|Yo 0 rfl (fun _=>Vd rfl X0t 0)<|Ye 1 rfl (X0 rfl X0j (m.at 0))<|Yo 2 rfl (fun _=>Vd rfl X0t 0)<|Ye 3 rfl (X0 rfl X0j (e.at 0))<|Yo 4 rfl (fun _=>Xb rfl)<|Yo 5 rfl (fun _=>Vx (X9o rfl rfl rfl) (tm3 n).1)<|Yo 6 rfl (fun _=>X5v rfl rfl (by have:=tm3 n;omega) (by have:=tm3 n;omega))<|Yo 7 rfl (fun _=>Xb rfl)<|Yo 8 rfl (fun _=>Vx (Xcq rfl rfl rfl) (Xzc aA))<|Yo 9 rfl (fun _=>X01 rfl rfl (by omega) (by omega)) ?_;refine Yi (k:=(n % 3*3+n/3)) (u:=((bm3 p).at (n % 3) (n/3))) (enc:=encD) (l:=p) 10 rfl trivial rfl rfl Xv Xa Xz (J.below' q) (Xyy aR (by omega) (by omega)) (by have:=tm3 n;omega) ?_;intro b2 aB;refine Ye 11 rfl (Xy (l:=[vi (((bm3 p).at (n % 3) (n/3)).num.a),vi (((bm3 p).at (n % 3) (n/3)).num.b),vi (((bm3 p).at (n % 3) (n/3)).num.c),vi (((bm3 p).at (n % 3) (n/3)).num.d),vi (((bm3 p).at (n % 3) (n/3)).exp)]) rfl X6 aB rfl)<|Y1 12 ?_;refine Yk rfl trivial (Xd (k:=1) (vs:=[.agg #[vi (((bm3 p).at (n % 3) (n/3)).num.a),vi (((bm3 p).at (n % 3) (n/3)).num.b),vi (((bm3 p).at (n % 3) (n/3)).num.c),vi (((bm3 p).at (n % 3) (n/3)).num.d),vi (((bm3 p).at (n % 3) (n/3)).exp)]]) (zs:=[vi (((bm3 p).at (n % 3) (n/3)).num.a),vi (((bm3 p).at (n % 3) (n/3)).num.b),vi (((bm3 p).at (n % 3) (n/3)).num.c),vi (((bm3 p).at (n % 3) (n/3)).num.d),vi (((bm3 p).at (n % 3) (n/3)).exp)]) rfl Xv X0x rfl rfl) (fun _ _ ⟨_,_,_,h,_⟩=>h) ?_;rintro _ w6 ⟨b4,rfl,E,t,G⟩;have aZ:=Q0 q.size E;have aJ:=(J.below' q).away E
  have C:=g.away E;have e:=e.below t;have f:=f.below t;have m:=m.below t;have g:=g.below t;have q:=btr q t;refine Y1 13<|Yt rfl trivial rfl (X0n (enc:=encD) (l:=(l)) (l2:=([((bm3 p).at (n % 3) (n/3))])) (B0:=D.heap.size) rfl rfl Xv X0x Xz X28 g (Rd.of_blk G rfl _ G.lt) (by simp only [maxLen];simp;omega) (by simp;omega) q.size) ?_;rintro _ w7 ⟨aK,aL,rfl,H,hg,aM⟩
  have y:Own _ D.heap.size 86 5 encD _ _ (l):=g
  have aC:=aM _ G.lt C;clear aM;have e:=e.appT y hg rfl;have f:=f.appT y hg rfl;have m:=m.appT y hg rfl;have q:=Below.app q y hg (Qb _) q.size;clear y hg;refine Yo 14 rfl (fun _=>Vd rfl X0t 0)<|Y1 15 ?_;refine Yh rfl trivial rfl (Vw [.slice aK (l++([((bm3 p).at (n % 3) (n/3))])).length aL] X3g m) ?_;rintro _ w8 ⟨ho,hb⟩;have I:=m;have e:=e.only ho (by omega);have f:=f.only ho (by omega);have H:=H.onlyT ho I rfl;have q:=Below.only q ho aE;have m:=hb;refine Yd fun a x=>?_;refine Xn<|aI _ _<|Zr x<|Zm rfl<|Ze (X01 rfl rfl (by omega) (by omega))<|Za rfl ?_;refine Zn fun a x=>?_;refine Xm ?_;exact ⟨(n+1,l++[((bm3 p).at (n % 3) (n/3))]),⟨aK,aL,x.sb,(by omega),(by rw [← hl];exact (Xjt n).symm),e,f,m,H,q⟩,(by first|omega|(dsimp only;omega))⟩
 have a9:=o;have o:=Q1 o
 have aA:n=9:=by have:=o;omega
 refine Q9<|Xk<|Xk<|X05 ?_;refine aY _ _<|Zs x fun _ aN=>?_;refine Ze (Vn X16 m)<|Zo (Vw [.slice z l.length B] X1i f) ?_;rintro _ w9 ⟨ho,hb⟩;have I:=f;have g:=g.onlyT ho I rfl;have q:=Below.only q ho aD;have f:=hb;refine Zt aN fun a x=>?_
 refine Q6 (X3 x (Xt x rfl (ResV.cellN (l:=[.slice z l.length B]) rfl X16 (f.at 0) rfl)) ?_)
 have he:trB p=l:=by rw [aA] at hl;exact hl
 rw [he]
 exact ⟨z,B,rfl,g,q⟩
theorem Xrl(o:World)(Ap:Option Addr)(cp:Nat)(p:List Dy)(aE:Rd o o.heap.size 86 encD Ap p)(Aq:Option Addr)(cq:Nat)(q:List Dy)(aF:Rd o o.heap.size 86 encD Aq q)(aZ:p.length=q.length)(b0:p.length≤2305843009213693951) : Ret Tryz.prog 114 [.agg #[.slice Ap p.length cp],.agg #[.slice Aq q.length cq]] o (fun v w=>v=.bool (decide (p=q))∧Below o.heap.size o w):=by
 refine enter Tryz.func114 rfl 24 rfl rfl ?_;intro a f
 have j:=bz o
 refine Zs f fun _ aM=>?_;refine Zf (X09 (zs:=[.slice Ap p.length cp]) rfl rfl) ?_;rintro _ w1 ⟨b4,rfl,aN,x,g⟩;have aW:=Q0 j.size aN;have j:=btr j x;refine Zf (X09 (zs:=[.slice Aq q.length cq]) rfl rfl) ?_;rintro _ w2 ⟨b5,rfl,aO,x,m⟩
 have aL:b4≠b5:=by have:=g.lt;omega
 have aX:=Q0 j.size aO;have g:=g.below x;have j:=btr j x;refine Za rfl<|ZX aM fun a f _ aP=>?_;refine Zs f fun _ aQ=>?_;refine Ze (Vd rfl X0t 0)<|Ze (X0 rfl X0j (g.at 0))<|Ze (X23 rfl Xv)<|Zm rfl<|Zt aQ fun a f=>?_;refine Q8<|X03 (σ:=Nat) (fun (k:Nat) (a:Act) (w:World)=>Fr a 24 [(2,.pointer (some ⟨b4,0,none⟩)),(3,.pointer (some ⟨b5,0,none⟩)),(8,vi (p.length:Int)),(9,vi (k:Int))]∧(k≤p.length)∧(p.take k=q.take k)∧Blk w b4 66 [.slice Ap p.length cp]∧Blk w b5 66 [.slice Aq q.length cq]∧Below o.heap.size o w) (fun (k:Nat)=>p.length-k) 0 ?_ ?_
 ·exact ⟨f.sb,(Qf _),(by simp),g,m,j⟩
 rintro k a w3 ⟨f,hk,n,g,m,j⟩;refine Zs f fun _ aR=>?_;refine Ze (X14 rfl rfl)<|ZX aR fun a f _ aS=>?_
 refine Xl f rfl (fun e=>?_) (fun e=>?_)
 ·have a9:=e;have e:=Q2 e
  obtain ⟨b1,aY⟩:=Xq (l:=p) (k:=k) (by omega)
  obtain ⟨y,aA⟩:=Xq (l:=p) (k:=k) (by have:=e;omega)
  obtain ⟨v9,t⟩:=Xq (l:=q) (k:=k) (by have:=e;omega)
  refine Q7<|aS _ _<|Q5 fun _ aG=>?_;refine Q8<|Zs f fun _ aH=>?_;refine Zm rfl<|Za rfl<|ZX aH fun a f _ aI=>?_;refine X07 none (fun _=>false) mixed ?_;intro w4 x;have g:=g.below x;have m:=m.below x;have j:=btr j x;refine Yb f<|Yo 0 rfl (fun _=>Vd rfl X0t 0)<|Ye 1 rfl (X0 rfl X0j (g.at 0))<|Yo 2 rfl (fun _=>Xb rfl)<|Yi (k:=k) (u:=y) (enc:=encD) (l:=p) 3 rfl trivial rfl rfl Xv Xa Xz (aE.below' j) aA rfl ?_;intro b2 aB;refine Ye 4 rfl (Xy (l:=[vi y.num.a,vi y.num.b,vi y.num.c,vi y.num.d,vi y.exp]) rfl X6 aB rfl)<|Yo 5 rfl (fun _=>Vd rfl X0t 0)<|Ye 6 rfl (X0 rfl X0j (m.at 0))<|Yo 7 rfl (fun _=>Xb rfl)<|Yi (k:=k) (u:=v9) (enc:=encD) (l:=q) 8 rfl trivial rfl rfl Xv Xa Xz (aF.below' j) t rfl ?_;intro b3 aC;refine Ye 9 rfl (Xy (l:=[vi v9.num.a,vi v9.num.b,vi v9.num.c,vi v9.num.d,vi v9.exp]) rfl X6 aC rfl)<|Yo 10 rfl (fun _=>Xb7 rfl rfl X86 (fun w=>eqD 9997 y v9 w)) ?_;refine Yd fun a f=>?_;refine aI _ _ ?_
  refine Xl f rfl (fun i=>?_) (fun i=>?_)
  ·have aD:=i
   have aT:¬ p=q:=by rintro rfl;rw [aA] at t;injection t with e9;revert i;simp [e9]
   refine Zs f fun _ aJ=>?_;refine Za rfl<|Zt aJ fun a f=>?_;refine Q6<|Xw<|X7<|X7 ?_;refine Xw<|X7<|X3 f (Xt f rfl rfl) ?_;exact ⟨by simp [aT],j⟩
  have aD:=i
  have aU:y=v9:=by revert i;simp
  refine Q7<|Xn<|aG _ _<|Zr f ?_;refine Ze (X01 rfl rfl (by omega) (by omega))<|Zm rfl ?_;refine Zn fun a f=>?_;refine Xm ?_;exact ⟨k+1,⟨f.sb,(by omega),(X78 n aA t aU),g,m,j⟩,(by omega)⟩
 have a9:=e;have e:=Q1 e;refine Q9<|Xk<|Xk<|X05 ?_;refine aP _ _<|Zs f fun _ aK=>?_;refine Za rfl<|Zt aK fun a f=>?_
 refine Q6 (X3 f (Xt f rfl rfl) ?_)
 have he:p=q:=by rw [Qi (by omega),Qi (by omega)] at n;exact n
 exact ⟨by simp [he],j⟩
theorem Xqz(w0:World)(u:UInt8)(s:Nat)(a9:s<3)(aA:u=sylT s) : Ret Tryz.prog 75 [.int .u8 (u.toNat:Int)] w0 (fun v w=>∃ A c,v=.slice A (sylG s).length c∧Own w w0.heap.size 90 3 encG A c (sylG s)∧Below w0.heap.size w0 w):=by
 refine enter Tryz.func75 rfl 17 rfl rfl ?_;intro a b
 have e:=bz w0
 refine Zs b fun _ aN=>?_;refine Za rfl<|ZX aN fun a b _ aO=>?_;refine Zs b fun _ aP=>?_;refine Zm rfl<|Zt aP fun a b=>?_;refine Q8<|Zs b fun _ aQ=>?_;refine Ze (Xa8 rfl rfl)<|Za rfl<|Zt aQ fun a b=>?_
 refine Xl b rfl (fun f=>?_) (fun f=>?_)
 ·have aE:=f;have aR:=Xvd a9 aA f
  subst aR
  refine Zs b fun _ aS=>?_;refine Ze (Xg (ps:=[(0,vi 7)]) (cs:=[vi 7,vi 0,vi 0]) rfl (fun _=>by first|rfl|kernel_rfl))<|Ze (Xg (ps:=[(0,vi 1)]) (cs:=[vi 1,vi 0,vi 0]) rfl (fun _=>by first|rfl|kernel_rfl))<|Zf (Xd (k:=2) (vs:=[.agg #[vi 7,vi 0,vi 0],.agg #[vi 1,vi 0,vi 0]]) (zs:=[vi 7,vi 0,vi 0,vi 1,vi 0,vi 0]) rfl X0z X15 rfl rfl) ?_;rintro _ w1 ⟨b8,rfl,aT,hE,aU⟩;have aF:=Q0 e.size aT;have e:=btr e hE;refine Za rfl<|Zt aS fun a b=>?_;refine Q6<|Xw<|X7<|X3 b (Xt b rfl rfl) ?_;exact ⟨(some ⟨b8,0,none⟩),2,rfl,((Own.of_blkL X0k aU aF rfl rfl (by decide)) : Own _ _ _ _ encG _ _ (sylG 1)),e⟩
 have aE:=f;have aW:=f;refine Zs b fun _ aG=>?_;refine Ze (Xa8 rfl rfl)<|Za rfl<|Zt aG fun a b=>?_
 refine Xl b rfl (fun d=>?_) (fun d=>?_)
 ·have aB:=d;have aX:=Xrp a9 aA d
  subst aX
  refine Zs b fun _ aH=>?_;refine Ze (Xg (ps:=[(0,vi 7)]) (cs:=[vi 7,vi 0,vi 0]) rfl (fun _=>by first|rfl|kernel_rfl))<|Ze (Xg (ps:=[(0,vi 1)]) (cs:=[vi 1,vi 0,vi 0]) rfl (fun _=>by first|rfl|kernel_rfl))<|Ze (Xg (ps:=[(0,vi 5)]) (cs:=[vi 5,vi 0,vi 0]) rfl (fun _=>by first|rfl|kernel_rfl))<|Zf (Xd (k:=3) (vs:=[.agg #[vi 7,vi 0,vi 0],.agg #[vi 1,vi 0,vi 0],.agg #[vi 5,vi 0,vi 0]]) (zs:=[vi 7,vi 0,vi 0,vi 1,vi 0,vi 0,vi 5,vi 0,vi 0]) rfl X0z X15 rfl rfl) ?_;rintro _ w2 ⟨aY,rfl,aI,hE,aJ⟩;have aC:=Q0 e.size aI;have e:=btr e hE;refine Za rfl<|Zt aH fun a b=>?_;refine Q6<|Xw<|X7<|X3 b (Xt b rfl rfl) ?_;exact ⟨(some ⟨aY,0,none⟩),3,rfl,((Own.of_blkL X0k aJ aC rfl rfl (by decide)) : Own _ _ _ _ encG _ _ (sylG 2)),e⟩
 have aB:=d;have aZ:=Xw8 a9 aA aW d
 subst aZ
 refine Q7<|Xn<|aO _ _<|Zs b fun _ aK=>?_;refine Ze (Xg (ps:=[(0,vi 7)]) (cs:=[vi 7,vi 0,vi 0]) rfl (fun _=>by first|rfl|kernel_rfl))<|Zf (Xd (k:=1) (vs:=[.agg #[vi 7,vi 0,vi 0]]) (zs:=[vi 7,vi 0,vi 0]) rfl X0z X15 rfl rfl) ?_;rintro _ w3 ⟨b0,rfl,aL,hE,aM⟩;have aD:=Q0 e.size aL;have e:=btr e hE;refine Za rfl<|Zt aK fun a b=>?_
 refine Q6 (X3 b (Xt b rfl rfl) ?_)
 exact ⟨(some ⟨b0,0,none⟩),1,rfl,((Own.of_blkL X0k aM aD rfl rfl (by decide)) : Own _ _ _ _ encG _ _ (sylG 0)),e⟩
theorem Xqn(t:World)(u:UInt8)(s:Nat)(x:s<3)(y:u=sylT s) : Ret Tryz.prog 83 [.int .u8 (u.toNat:Int)] t (fun v w=>∃ A c,v=.slice A (sylG s).length c∧Own w t.heap.size 90 3 encG A c (sylG s)∧Below t.heap.size t w):=by
 refine enter Tryz.func83 rfl 19 rfl rfl ?_;intro a b
 have d:=bz t
 refine Zs b fun _ aO=>?_;refine Za rfl<|Zx aO fun a b _ aP=>?_;refine Ze (Xg (ps:=[(0,vi 7)]) (cs:=[vi 7,vi 0,vi 0]) rfl (fun _=>by first|rfl|kernel_rfl))<|Zf (Xd (k:=1) (vs:=[.agg #[vi 7,vi 0,vi 0]]) (zs:=[vi 7,vi 0,vi 0]) rfl X0z X15 rfl rfl) ?_;rintro _ w1 ⟨b4,rfl,aQ,hE,j⟩;have o:=Q0 d.size aQ;have d:=btr d hE;refine Za rfl<|ZX aP fun a b _ aD=>?_;refine Zs b fun _ aR=>?_;refine Zm rfl<|Ze (Xi1 rfl rfl)<|Zt aR fun a b=>?_
 refine Xl b rfl (fun m=>?_) (fun m=>?_)
 ·have aE:=m
  have aS:s≠0:=by rcases Xty x y with h9|h9;exact h9.2;rw [h9.1] at m;simp at m
  refine Zr b<|Zm rfl<|Ze (Xg (ps:=[(0,vi 1)]) (cs:=[vi 1,vi 0,vi 0]) rfl (fun _=>by first|rfl|kernel_rfl))<|Zf (Xd (k:=1) (vs:=[.agg #[vi 1,vi 0,vi 0]]) (zs:=[vi 1,vi 0,vi 0]) rfl X0z X15 rfl rfl) ?_;rintro _ w2 ⟨b9,rfl,aT,hE,a9⟩
  have aN:b4≠b9:=by have:=j.lt;omega
  have b5:=Q0 d.size aT;have j:=j.below hE;have d:=btr d hE;refine Zf (X0n (enc:=encG) (l:=([(⟨7,0,0⟩ : Gt)])) (l2:=([(⟨1,0,0⟩ : Gt)])) (B0:=t.heap.size) rfl rfl X0z X15 X0k X20 (Own.of_blkL X0k j o rfl rfl (Nat.le_of_ble_eq_true rfl)) (Rd.of_blk a9 rfl _ a9.lt) (by decide) (by decide) d.size) ?_;rintro _ w3 ⟨aU,aW,rfl,e,hg,p⟩
  have f:Own _ t.heap.size 90 3 encG _ _ ([(⟨7,0,0⟩ : Gt)]):=(Own.of_blkL X0k j o rfl rfl (Nat.le_of_ble_eq_true rfl))
  have aF:=p _ a9.lt (Away.ne (by omega))
  clear p;have d:=Below.app d f hg (Qb _) d.size;clear f hg;refine Za rfl<|ZX aD fun a b _ z=>?_;refine Zs b fun _ aG=>?_;refine Zm rfl<|Ze (Xa8 rfl rfl)<|Zt aG fun a b=>?_
  refine Xl b rfl (fun g=>?_) (fun g=>?_)
  ·have aA:=g;have aX:=Xrp x y g
   subst aX
   refine Zr b<|Zm rfl<|Ze (Xg (ps:=[(0,vi 5)]) (cs:=[vi 5,vi 0,vi 0]) rfl (fun _=>by first|rfl|kernel_rfl))<|Zf (Xd (k:=1) (vs:=[.agg #[vi 5,vi 0,vi 0]]) (zs:=[vi 5,vi 0,vi 0]) rfl X0z X15 rfl rfl) ?_;rintro _ w4 ⟨b6,rfl,h,hE,q⟩;have aY:=Q0 d.size h;have n:=e.away h;have e:=e.below hE;have d:=btr d hE;refine Zf (X0n (enc:=encG) (l:=(([(⟨7,0,0⟩ : Gt)])++([(⟨1,0,0⟩ : Gt)]))) (l2:=([(⟨5,0,0⟩ : Gt)])) (B0:=t.heap.size) rfl rfl X0z X15 X0k X20 e (Rd.of_blk q rfl _ q.lt) (by decide) (by decide) d.size) ?_;rintro _ w5 ⟨aZ,b0,rfl,aH,hg,p⟩
   have f:Own _ t.heap.size 90 3 encG _ _ (([(⟨7,0,0⟩ : Gt)])++([(⟨1,0,0⟩ : Gt)])):=e
   have aC:=p _ q.lt n;clear p;have d:=Below.app d f hg (Qb _) d.size;clear f hg;refine Za rfl<|Zx z fun a b _ aI=>?_;refine Zm rfl<|Za rfl<|Zt aI fun a b=>?_
   refine Q6 (X3 b (Xt b rfl rfl) ?_)
   exact ⟨aZ,b0,rfl,aH,d⟩
  have aA:=g;have b1:=Xu5 x y aS g
  subst b1
  refine Q7<|z _ _<|Zs b fun _ aJ=>?_;refine Zm rfl<|Za rfl<|Zt aJ fun a b=>?_
  refine Q6 (X3 b (Xt b rfl rfl) ?_)
  exact ⟨aU,aW,rfl,e,d⟩
 have aE:=m;obtain ⟨b2,b3⟩:=Xrx x y m
 subst b2
 refine Q7<|aD _ _<|Q5 fun _ aK=>?_;refine Zs b fun _ aL=>?_;refine Zm rfl<|Ze (Xa8 rfl rfl)<|Zt aL fun a b=>?_
 refine Xl b rfl (fun i=>?_) (fun i=>?_)
 ·have aB:=i
  rw [b3] at i;simp at i
 have aB:=i
 skip
 refine Q7<|aK _ _<|Zs b fun _ aM=>?_;refine Zm rfl<|Za rfl<|Zt aM fun a b=>?_
 refine Q6 (X3 b (Xt b rfl rfl) ?_)
 exact ⟨(some ⟨b4,0,none⟩),1,rfl,(Own.of_blkL X0k j o rfl rfl (by decide)),d⟩
theorem X89{m:Mx}{l:List Dy}(h:blochI m=some l) : oneQ m=true:=by unfold blochI at h;split at h;assumption;cases h
theorem Xji{gs:List Gt}{M:Mx}(h:opI ⟨1,gs⟩=some M) : mOk M=true:=by
 have:=(Xeo ⟨1,gs⟩).2 M (by rw [← (Xeo ⟨1,gs⟩).1];exact h)
 exact this.1
theorem Xc8{gs:List Gt}{M:Mx}(h:opI ⟨1,gs⟩=some M) : cOk ⟨1,gs⟩=true:=by unfold opI at h;split at h;assumption;cases h
theorem Xls{s:Nat}(_:s<3) : opI ⟨1,sylG s⟩=some (opM (sylG s))∧mOk (opM (sylG s))=true∧(sylG s).length≤3:=by
 obtain ⟨M,a,_,_⟩:=Xbg (Xcm s) (Q0 (X5n s) (by decide)) (by rw [Xa2];have:=Xlq s;omega)
 rw [X88 a]
 exact ⟨a,Xji a,X5n s⟩
theorem Xku{l r:List Dy}(h:Gd l){s:Nat}(hs:s<3)(hr:mulBI (bkC s) l=some r) : bexp r≤bexp l+1:=by
 obtain ⟨Z,h1,_⟩:=h
 have:=(X84 hs hr h1).exps
 have:=X24 l
 omega
theorem Xhm{l r:List Dy}{i:Nat}(hno:∀ j,j<i→∀ r,mulBI (bkC j) l=some r→bexp r≠bexp l-1)(h:mulBI (bkC i) l=some r)(hn:bexp r≠bexp l-1) : ∀ j,j<i+1→∀ r,mulBI (bkC j) l=some r→bexp r≠bexp l-1:=fun j hj q hq=>by
 by_cases e:j=i
 ·subst e;rw [h] at hq;injection hq with hq;rw [← hq];exact hn
 ·exact hno j (by omega) q hq
theorem Xvt{q:List UInt8}(h:q.length≤9) : opI ⟨1,wdG q⟩=some (opM (wdG q))∧mOk (opM (wdG q))=true:=by
 have hl:(wdG q).length≤9:=by simpa [wdG] using h
 have:=Xr5 (wdG q)
 obtain ⟨M,a,_,_⟩:=Xbg (X96 q) (by omega) (by omega)
 rw [X88 a]
 exact ⟨a,Xji a⟩
theorem Xvy{u:UInt8}{n:Nat}(h:((u.toNat:Int)==(n:Int))=true) : u.toNat=n:=by
 have:=eq_of_beq h;omega
theorem Xfi{u:UInt8}(h:((u.toNat:Int)==83)=true) : letG u=⟨5,0,0⟩:=by
 have h1:u.toNat=83:=Xvy h
 have:u=83:=UInt8.toNat_inj.1 h1
 rw [this];rfl
theorem Xfb{u:UInt8}(h:((u.toNat:Int)==83)=false) : letG u=⟨1,0,0⟩:=by
 unfold letG
 rw [Q3]
 rintro rfl
 revert h;decide
theorem X6j{q:List UInt8}{k:Nat}{u:UInt8}(h:q[k]? = some u) : wdG (q.take (k+1))=wdG (q.take k)++[letG u]:=by
 unfold wdG;rw [Qt,h,List.map_append];rfl
structure FrmOk (ss:List UInt8) : Prop where
 at':∀ (i:Nat) (u:UInt8),ss[i]? = some u→u=72∨u=83∨(u=84∧i=0)
 len:ss.length≤40
theorem Xuz{ss:List UInt8}(h:FrmOk ss){i:Nat}{u:UInt8}(hu:ss[i]? = some u)(hc:((u.toNat:Int) != 72&&(u.toNat:Int) != 83&&((u.toNat:Int) != 84||decide (0<(i:Int))))=true) : False:=by
 rcases h.at' i u hu with rfl|rfl|⟨rfl,rfl⟩
 ·simp at hc
 ·simp at hc
 ·simp at hc
theorem Xnu{ss:List UInt8}(h:ss.length≤40){fc fp:Int}(hc:0≤fc∧fc≤23)(hp:0≤fp∧fp≤7) : (decide ((ss.length:Int)≤40)&&inR fc 0 23&&inR fp 0 7)=true:=by
 rw [decide_eq_true (by omega),X0b.2 hc,X0b.2 hp];rfl
theorem Xgn{l:List Dy}(h:Gd l)(hb:bexp l≤40) : FrmOk ((nfS l).map sylT):=by
 have hn:=X24 l;obtain ⟨h1,h2⟩:=X7q h hb
 refine ⟨fun i u hu=>?_,by rw [Qo];omega⟩
 rw [List.getElem?_map] at hu
 cases e:(nfS l)[i]? with
 | none=>rw [e] at hu;cases hu
 | some s=>
  rw [e] at hu
  injection hu with hu
  have hs:=h2 s (Qe e)
  have ht:=Xqq h hb (bexp l).toNat (by omega) i s e
  rcases lt3 hs with rfl|rfl|rfl
  ·refine .inr (.inr ⟨hu.symm,?_⟩)
   by_cases h0:i=0
   ·exact h0
   ·exact absurd rfl (ht (by omega))
  ·exact .inl hu.symm
  ·exact .inr (.inl hu.symm)
theorem Xqu(w0:World)(k:Int)(i:Nat)(aH:i<2)(aI:k=letK i)(aJ:HalfT w0) : Ret Tryz.prog 130 [vi k] w0 (fun v w=>∃ A c,v=.agg #[.slice A (clB (letR i)).length c]∧Own w w0.heap.size 86 5 encD A c (clB (letR i))∧Below w0.heap.size w0 w):=by
 obtain ⟨aA,aB⟩:=Xlr aH
 have aK:gateI 1 ⟨k,0,0⟩=some (gateS 1 ⟨letK i,0,0⟩):=by rw [aI];exact aA
 have aL:=Xdm (n:=1) (by decide) (g:=⟨letK i,0,0⟩)
 refine enter Tryz.func130 rfl 19 rfl rfl ?_;intro a hf
 have d:=bz w0
 refine Zs hf fun _ aM=>?_;refine Zf (X4 (zs:=[.slice none 0 0]) X22 rfl) ?_;rintro _ w1 ⟨b3,rfl,aN,j,b⟩;have aC:=Q0 d.size aN;have d:=btr d j;refine Zx aM fun a hf _ aO=>?_;refine Zm rfl<|Ze (Xg (ps:=[(0,vi k)]) (cs:=[vi k,vi 0,vi 0]) rfl (fun _=>by first|rfl|kernel_rfl))<|Zf (X1j (vs:=[vi 1,.agg #[vi k,vi 0,vi 0]]) rfl Xa4 (by have hq:=Xjp w1 1 (⟨k,0,0⟩ : Gt);rw [aK,Qq,Option.isSome_some] at hq;exact hq)) ?_;rintro _ w2 ⟨A5,c5,rfl,m,j⟩;have m:=m.lower d.size;have b:=b.below j;have d:=btr d j;refine Zm rfl<|Ze (X2 (vs:=[.agg #[vi ((gateS 1 ⟨letK i,0,0⟩).rows),vi ((gateS 1 ⟨letK i,0,0⟩).cols),.slice A5 ((gateS 1 ⟨letK i,0,0⟩).cells).length c5],.bool true]) rfl rfl)<|Ze (X2 (vs:=[.agg #[vi ((gateS 1 ⟨letK i,0,0⟩).rows),vi ((gateS 1 ⟨letK i,0,0⟩).cols),.slice A5 ((gateS 1 ⟨letK i,0,0⟩).cells).length c5],.bool true]) rfl rfl)<|Zf (X4 (zs:=[vi 0,vi 0,.slice none 0 0]) X12 rfl) ?_;rintro _ w3 ⟨b7,rfl,aP,j,q⟩;have aD:=Q0 d.size aP;have b:=b.below j;have m:=m.below j;have d:=btr d j;refine Zo (Vw [vi ((gateS 1 ⟨letK i,0,0⟩).rows),vi ((gateS 1 ⟨letK i,0,0⟩).cols),.slice A5 ((gateS 1 ⟨letK i,0,0⟩).cells).length c5] X0c q) ?_;rintro _ w4 ⟨p,hb⟩;have e:=q;have b:=b.only p (Blk.ne b e rfl);have m:=m.onlyT p e rfl;have d:=Below.only d p aD;have q:=hb;refine Za rfl<|Zx aO fun a hf _ aQ=>?_;refine Ze (Vn Xp q)<|Zf (X1j (vs:=[.agg #[vi ((gateS 1 ⟨letK i,0,0⟩).rows),vi ((gateS 1 ⟨letK i,0,0⟩).cols),.slice A5 ((gateS 1 ⟨letK i,0,0⟩).cells).length c5]]) rfl Xc0 (by have hq:=Xk7 w4 (gateS 1 ⟨letK i,0,0⟩) A5 c5 m.rd.top aL (aJ.of d);rw [aB,Qq,Option.isSome_some] at hq;exact hq)) ?_;rintro _ w5 ⟨A9,c9,rfl,f,j⟩
 have f:=f.lower d.size;have b:=b.below j;have d:=btr d j;refine Zm rfl<|Ze (X2 (vs:=[.agg #[.slice A9 (clB (letR i)).length c9],.bool true]) rfl rfl)<|Ze (X2 (vs:=[.agg #[.slice A9 (clB (letR i)).length c9],.bool true]) rfl rfl)<|Zf (X4 (zs:=[.slice none 0 0]) X22 rfl) ?_;rintro _ w6 ⟨b11,rfl,aE,j,o⟩
 have aF:b3≠b11:=by have:=b.lt;omega
 have a9:=Q0 d.size aE;have b:=b.below j;have f:=f.below j;have d:=btr d j;refine Zo (Vw [.slice A9 (clB (letR i)).length c9] X1i o) ?_;rintro _ w7 ⟨p,hb⟩;have e:=o;have b:=b.only p (by omega);have f:=f.onlyT p e rfl;have d:=Below.only d p a9;have o:=hb;refine Za rfl<|Zx aQ fun a hf _ aG=>?_;refine Ze (Vn X16 o)<|Zo (Vw [.slice A9 (clB (letR i)).length c9] X1i b) ?_;rintro _ w8 ⟨p,hb⟩;have e:=b;have f:=f.onlyT p e rfl;have d:=Below.only d p aC;have b:=hb;refine Zt aG fun a hf=>?_
 refine Q6 (X3 hf (Xt hf rfl (ResV.cellN (l:=[.slice A9 (clB (letR i)).length c9]) rfl X16 (b.at 0) rfl)) ?_)
 exact ⟨A9,c9,rfl,f,d⟩
theorem Xxg(j:World)(Ag:Option Addr)(cg:Nat)(g:List Gt)(aA:Rd j j.heap.size 90 encG Ag g)(s:Nat)(aB:s<3)(aC:g=sylG s)(aG:HalfT j) : Ret Tryz.prog 74 [.slice Ag g.length cg] j (fun v w=>∃ A c,v=.slice A (trB (bkC s)).length c∧Own w j.heap.size 86 5 encD A c (trB (bkC s))∧Below j.heap.size j w):=by
 obtain ⟨aH,aI,aO⟩:=Xls aB
 have aJ:opI ⟨1,g⟩=some (opM (sylG s)):=by rw [aC];exact aH
 refine enter Tryz.func74 rfl 20 rfl rfl ?_;intro a hf
 have d:=bz j
 refine Zs hf fun _ aK=>?_;refine Za rfl<|Zx aK fun a hf _ aL=>?_;refine Zm rfl<|Ze (Xg (ps:=[(0,vi 1),(1,.slice Ag g.length cg)]) (cs:=[vi 1,.slice Ag g.length cg]) rfl (fun _=>by first|rfl|kernel_rfl))<|Zf (X1j (vs:=[.agg #[vi 1,.slice Ag g.length cg]]) rfl Xlz (by have hq:=F97 j (⟨1,g⟩ : Cx) Ag cg (aA.below' d).top (by show g.length≤_;rw [aC];exact Q0 (X5n s) (by decide));rw [aJ,Qq,Option.isSome_some] at hq;exact hq)) ?_;rintro _ w1 ⟨A6,c6,rfl,f,k⟩;have d:=btr d k;refine Zm rfl<|Ze (X2 (vs:=[.agg #[vi ((opM (sylG s)).rows),vi ((opM (sylG s)).cols),.slice A6 ((opM (sylG s)).cells).length c6],.bool true]) rfl rfl)<|Ze (X2 (vs:=[.agg #[vi ((opM (sylG s)).rows),vi ((opM (sylG s)).cols),.slice A6 ((opM (sylG s)).cells).length c6],.bool true]) rfl rfl)<|Zf (X4 (zs:=[vi 0,vi 0,.slice none 0 0]) X12 rfl) ?_;rintro _ w2 ⟨b8,rfl,aM,k,l⟩;have aD:=Q0 d.size aM;have f:=f.below k;have d:=btr d k;refine Zo (Vw [vi ((opM (sylG s)).rows),vi ((opM (sylG s)).cols),.slice A6 ((opM (sylG s)).cells).length c6] X0c l) ?_;rintro _ w3 ⟨ho,hb⟩;have i:=l;have f:=f.onlyT ho i rfl;have d:=Below.only d ho aD;have l:=hb;refine Za rfl<|Zx aL fun a hf _ aN=>?_;refine Ze (Vn Xp l)<|Zf (X1j (vs:=[.agg #[vi ((opM (sylG s)).rows),vi ((opM (sylG s)).cols),.slice A6 ((opM (sylG s)).cells).length c6]]) rfl Xc0 (by have hq:=Xk7 w3 (opM (sylG s)) A6 c6 f.top (X95 aI) (aG.of d);rw [(X4r aB).1,Qq,Option.isSome_some] at hq;exact hq)) ?_;rintro _ w4 ⟨m,n,rfl,b,k⟩;have b:=b.lower d.size;have d:=btr d k;refine Zm rfl<|Ze (X2 (vs:=[.agg #[.slice m (trB (bkC s)).length n],.bool true]) rfl rfl)<|Ze (X2 (vs:=[.agg #[.slice m (trB (bkC s)).length n],.bool true]) rfl rfl)<|Zf (X4 (zs:=[.slice none 0 0]) X22 rfl) ?_;rintro _ w5 ⟨aP,rfl,aE,k,e⟩
 have a9:=Q0 d.size aE;have b:=b.below k;have d:=btr d k;refine Zo (Vw [.slice m (trB (bkC s)).length n] X1i e) ?_;rintro _ w6 ⟨ho,hb⟩;have i:=e;have b:=b.onlyT ho i rfl;have d:=Below.only d ho a9;have e:=hb;refine Za rfl<|Zx aN fun a hf _ aF=>?_;refine Ze (Vd rfl X0t 0)<|Ze (X0 rfl X0j (e.at 0))<|Za rfl<|Zt aF fun a hf=>?_
 refine Q6 (X3 hf (Xt hf rfl rfl) ?_)
 exact ⟨m,n,rfl,b,d⟩
theorem Xwn(h:World)(Al:Option Addr)(cl:Nat)(l:List Dy)(C:Rd h h.heap.size 86 encD Al l)(hG:Gd l)(h0:0<bexp l)(hb:bexp l≤40)(aN:HalfT h) : Ret Tryz.prog 35 [.slice Al l.length cl] h (fun v w=>∃ s r A c1,stripI l=some (s,r)∧v=.tuple #[.string (tx [sylT s]),.slice A r.length c1,.bool true]∧Own w h.heap.size 86 5 encD A c1 r∧Below h.heap.size h w):=by
 obtain ⟨aB,b4⟩:=hG.nine;have b5:=X24 l;refine enter Tryz.func35 rfl 40 rfl rfl ?_;intro a b
 have c:=bz h
 refine Zs b fun _ aO=>?_;refine Za rfl<|Za rfl<|Za rfl<|ZX aO fun a b _ b6=>?_;refine Zs b fun _ aP=>?_;refine Zm rfl<|Zt aP fun a b=>?_;refine Q8<|X03 (σ:=Nat) (fun (i:Nat) (a:Act) (w:World)=>Fr a 40 [(0,.slice Al l.length cl),(9,vi (i:Int))]∧(i≤3)∧(∀ j,j<i→∀ r,mulBI (bkC j) l=some r→bexp r≠bexp l-1)∧Below h.heap.size h w) (fun (i:Nat)=>3-i) 0 ?_ ?_
 ·exact ⟨b.sb,(by omega),(fun j hj=>by omega),c⟩
 rintro i a w1 ⟨b,hi,a9,c⟩;refine Zs b fun _ aQ=>?_;refine Ze (X14 rfl rfl)<|ZX aQ fun a b _ aR=>?_
 refine Xl b rfl (fun e=>?_) (fun e=>?_)
 ·have aC:=e;have e:=Q2 e
  have f:i<3:=by have:=e;omega
  obtain ⟨r,B,aD⟩:=X9h hG hb f;have aS:=aD.nine.1;have b7:=aD.nine.2;have b2:=X24 r;have b3:=Xku hG f B;refine Q7<|aR _ _<|Q5 fun _ aT=>?_;refine Q8<|Zs b fun _ aE=>?_;refine Zm rfl<|Za rfl<|Zx aE fun a b _ aF=>?_;refine Zm rfl<|Zm rfl<|Ze (X01 rfl rfl (by omega) (by omega))<|Ze (Xqs (s:=[84,72,83]) (r:=[sylT i]) (k:=i) (m:=(i+1)) rfl rfl rfl Tryz.underlying9 rfl rfl (Nat.le_succ _) (by simp;omega) (Xol f))<|Za rfl<|Zx aF fun a b _ aG=>?_;refine Zm rfl<|Ze (X8o (s:=([sylT i])) (k:=0) (u:=(sylT i)) rfl rfl Tryz.underlying9 rfl rfl)<|Zf (Vc (Xqz _ (sylT i) i f rfl) Xgj) ?_;rintro _ w2 ⟨aU,aW,rfl,t,n⟩;have t:=t.lower c.size;have c:=btr c n;refine Zf (Vc (Xxg _ aU aW (sylG i) t.rd.top i f rfl (aN.of c)) Xoy) ?_;rintro _ w3 ⟨aH,aI,rfl,x,n⟩;have x:=x.lower c.size;have c:=btr c n;refine Zf (X1j (vs:=[.slice aH (trB (bkC i)).length aI]) rfl Xhq (by have hq:=Xre w3 aH aI (trB (bkC i)) x.rd.top (X97 _);rw [(X4r f).2] at hq;exact hq)) ?_;rintro _ w4 ⟨aJ,aK,rfl,y,n⟩;have y:=y.lower c.size;have c:=btr c n;refine Zm rfl<|Zf (X1j (vs:=[.slice aJ (bkC i).length aK,.slice Al l.length cl]) rfl Xd9 (by have hq:=Xl8 w4 aJ aK (bkC i) y.rd.top Al cl l (C.below' c).top (Xcs f).1 aB;rw [B,Qq,Option.isSome_some] at hq;exact hq)) ?_;rintro _ w5 ⟨o,p,rfl,d,n⟩;have d:=d.lower c.size;have c:=btr c n;refine Zm rfl<|Ze (X2 (vs:=[.slice o r.length p,.bool true]) rfl rfl)<|Ze (X2 (vs:=[.slice o r.length p,.bool true]) rfl rfl)<|Za rfl<|Za rfl<|ZX aG fun a b _ aL=>?_;refine X0a (fun a w=>Fr a 40 [(0,.slice Al l.length cl),(6,.string (tx ([sylT i]))),(7,.slice o r.length p),(9,vi (i:Int)),(36,.bool ((bexp r)==((bexp l)-1)))]∧Below w5.heap.size w5 w) ?_ ?_
  ·have z:Below w5.heap.size w5 w5:=Below.refl _ _
   refine Zr b<|Zm rfl<|Zm rfl<|Zv (gW rfl) (Xb rfl) ?_;refine Zv (gW rfl) (Xg (ps:=[(0,.slice o r.length p)]) (cs:=[.slice o r.length p]) rfl (fun _=>by first|rfl|kernel_rfl)) ?_;refine Zk (gW rfl) (Vc (Xgl _ o p r d.rd.top (by rw [aS];decide)) X8y) ?_;rintro _ w6 ⟨rfl,n⟩;have c:=btr c n;have z:=btr z n;refine Zv (gW rfl) (Xb rfl) ?_;refine Zv (gW rfl) (Xg (ps:=[(0,.slice Al l.length cl)]) (cs:=[.slice Al l.length cl]) rfl (fun _=>by first|rfl|kernel_rfl)) ?_;refine Zk (gW rfl) (Vc (Xgl _ Al cl l (C.below' c).top (by rw [aB];decide)) X8y) ?_;rintro _ w7 ⟨rfl,n⟩;have c:=btr c n;have z:=btr z n;refine Zv (gW rfl) (X1s rfl rfl (by omega) (by omega)) ?_;refine Zv (gW rfl) (X1d rfl rfl) ?_;refine Ze (Xh rfl rfl rfl) ?_;refine Zn fun a b=>?_
   have aX:Below w5.heap.size w5 w7:=z
   exact ⟨b.sb,aX⟩
  rintro a w8 ⟨b,n⟩;have d:=d.below n;have c:=btr c n;refine aL _ _ ?_
  refine Xl b rfl (fun g=>?_) (fun g=>?_)
  ·have aA:=g
   have aY:=Xei f a9 B (by have h9:=g;simpa using h9)
   refine Zs b fun _ aM=>?_;refine Zm rfl<|Zm rfl<|Za rfl<|Za rfl<|Za rfl<|Zt aM fun a b=>?_;refine Q6<|Xw<|X7<|X7 ?_;refine Xw<|X7<|X3 b (Xn8 b rfl rfl rfl rfl) ?_;exact ⟨i,r,o,p,aY,rfl,d,c⟩
  have aA:=g
  have aZ:bexp r≠bexp l-1:=by have h9:=g;simpa using h9
  refine Q7<|Xn<|aT _ _<|Zr b ?_;refine Ze (X01 rfl rfl (by omega) (by omega))<|Zm rfl ?_;refine Zn fun a b=>?_;refine Xm ?_;exact ⟨i+1,⟨b.sb,(by omega),(Xhm a9 B aZ),c⟩,(by omega)⟩
 have aC:=e;have e:=Q1 e
 have f:i=3:=by have:=e;omega
 obtain ⟨q,r,b8,b0,b1⟩:=X9r hG h0 hb;exact (a9 q (by omega) r b0 b1).elim
theorem Xqt(w0:World)(u:UInt8)(s:Nat)(j:s<3)(aI:u=sylT s) : Ret Tryz.prog 64 [.int .u8 (u.toNat:Int)] w0 (fun v w=>∃ A c,v=.agg #[.slice A (bkC s).length c]∧Own w w0.heap.size 86 5 encD A c (bkC s)∧Below w0.heap.size w0 w):=by
 obtain ⟨a9,aN,aO⟩:=Xls j;refine enter Tryz.func64 rfl 15 rfl rfl ?_;intro a hf
 have d:=bz w0
 refine Zs hf fun _ aJ=>?_;refine Zf (X4 (zs:=[.slice none 0 0]) X22 rfl) ?_;rintro _ w1 ⟨b3,rfl,aK,e,b⟩;have aE:=Q0 d.size aK;have d:=btr d e;refine Zx aJ fun a hf _ aL=>?_;refine Zm rfl<|Zf (Vc (Xqn _ u s j aI) Xhw) ?_;rintro _ w2 ⟨A5,c5,rfl,aA,e⟩;have aA:=aA.lower d.size;have b:=b.below e;have d:=btr d e;refine Ze (Xg (ps:=[(0,vi 1),(1,.slice A5 (sylG s).length c5)]) (cs:=[vi 1,.slice A5 (sylG s).length c5]) rfl (fun _=>by first|rfl|kernel_rfl))<|Zf (X1j (vs:=[.agg #[vi 1,.slice A5 (sylG s).length c5]]) rfl Xc6 (by have m:=Xmd w2 (⟨1,(sylG s)⟩ : Cx) A5 c5 aA.rd.top (Xc8 a9) (opM (sylG s)) a9;rw [show opI _=some (opM (sylG s)) from a9,Qq] at m;exact m)) ?_;rintro _ w3 ⟨A7,c7,rfl,aM,e⟩;have b:=b.below e;have d:=btr d e;refine Zf (X1j (vs:=[.agg #[vi ((opM (sylG s)).rows),vi ((opM (sylG s)).cols),.slice A7 ((opM (sylG s)).cells).length c7]]) rfl X9g (by have m:=Xgb w3 (opM (sylG s)) A7 c7 aM.top (X89 (X4r j).1);rw [(X4r j).1,Qq,Option.isSome_some] at m;exact m)) ?_;rintro _ w4 ⟨A8,c8,rfl,g,e⟩;have g:=g.lower d.size;have b:=b.below e;have d:=btr d e;refine Zm rfl<|Ze (X2 (vs:=[.agg #[.slice A8 (trB (bkC s)).length c8],.bool true]) rfl rfl)<|Ze (X2 (vs:=[.agg #[.slice A8 (trB (bkC s)).length c8],.bool true]) rfl rfl)<|Zf (X4 (zs:=[.slice none 0 0]) X22 rfl) ?_;rintro _ w5 ⟨b10,rfl,aF,e,i⟩
 have aG:b3≠b10:=by have:=b.lt;omega
 have aB:=Q0 d.size aF;have b:=b.below e;have g:=g.below e;have d:=btr d e;refine Zo (Vw [.slice A8 (trB (bkC s)).length c8] X1i i) ?_;rintro _ w6 ⟨ho,hb⟩;have k:=i;have b:=b.only ho (by omega);have g:=g.onlyT ho k rfl;have d:=Below.only d ho aB;have i:=hb;refine Za rfl<|Zx aL fun a hf _ aH=>?_;refine Ze (Vn X16 i)<|Zf (X1j (vs:=[.agg #[.slice A8 (trB (bkC s)).length c8]]) rfl Xnf (by have m:=Xy2 w6 A8 c8 (trB (bkC s)) g.rd.top (X97 _);rw [(X4r j).2] at m;exact m)) ?_;rintro _ w7 ⟨aC,aD,rfl,f,e⟩;have f:=f.lower d.size;have b:=b.below e;have d:=btr d e;refine Zo (Vw [.slice aC (bkC s).length aD] X1i b) ?_;rintro _ w8 ⟨ho,hb⟩;have k:=b;have f:=f.onlyT ho k rfl;have d:=Below.only d ho aE;have b:=hb;refine Zt aH fun a hf=>?_
 refine Q6 (X3 hf (Xt hf rfl (ResV.cellN (l:=[.slice aC (bkC s).length aD]) rfl X16 (b.at 0) rfl)) ?_)
 exact ⟨aC,aD,rfl,f,d⟩
theorem Xqp(y:World)(q:List UInt8)(aS:q.length≤9) : Ret Tryz.prog 113 [.string (tx q)] y (fun v w=>∃ A c1,v=mV A c1 (opM (wdG q))∧Rd w w.heap.size 86 encD A (opM (wdG q)).cells∧Below y.heap.size y w):=by
 obtain ⟨aT,b5⟩:=Xvt aS;refine enter Tryz.func113 rfl 26 rfl rfl ?_;intro a f
 have d:=bz y
 refine Zs f fun _ aU=>?_;refine Zf (X4 (zs:=[vi 0,vi 0,.slice none 0 0]) X12 rfl) ?_;rintro _ w1 ⟨b3,rfl,aW,m,b⟩;have aL:=Q0 d.size aW;have d:=btr d m;refine Zx aU fun a f _ aX=>?_;refine Ze (Xg (ps:=[(0,vi 1)]) (cs:=[vi 1,.slice none 0 0]) rfl (fun _=>by first|rfl|kernel_rfl))<|Zf (X4 (zs:=[vi 0,.slice none 0 0]) X7h rfl) ?_;rintro _ w2 ⟨b7,rfl,aY,m,c⟩;have z:=Q0 d.size aY;have b:=b.below m;have d:=btr d m;refine Zo (Vw [vi 1,.slice none 0 0] X3d c) ?_;rintro _ w3 ⟨p,hb⟩;have g:=c;have b:=b.only p (Blk.ne b g rfl);have d:=Below.only d p z;have c:=hb;refine ZX aX fun a f _ aZ=>?_;refine Zs f fun _ b0=>?_;refine Za rfl<|Zt b0 fun a f=>?_;refine Q8<|X03 (σ:=Nat×(List Gt)) (fun (s:Nat×(List Gt)) (a:Act) (w:World)=>match s with|(k,gs)=>∃ h B,Fr a 26 [(0,.string (tx q)),(2,.pointer (some ⟨b3,0,none⟩)),(3,.pointer (some ⟨b7,0,none⟩)),(4,vi (k:Int))]∧(k≤q.length)∧(gs=wdG (q.take k))∧Blk w b3 32 [vi 0,vi 0,.slice none 0 0]∧Blk w b7 43 [vi 1,.slice h gs.length B]∧Own w y.heap.size 90 3 encG h B gs∧Below y.heap.size y w) (fun (s:Nat×(List Gt))=>match s with|(k,gs)=>q.length-k) (0,[]) ?_ ?_
 ·exact ⟨none,0,f.sb,(Qf _),rfl,b,c,(Own.nil _ _ _ _ _),d⟩
 rintro ⟨k,gs⟩ a w4 ⟨h,B,f,hk,o,b,c,e,d⟩
 have b6:gs.length≤9:=by rw [o];simp [wdG];omega
 refine Q5 fun _ aM=>?_;refine Zs f fun _ aN=>?_;refine Zm rfl<|Zm rfl<|Ze (Xai (s:=q) rfl Tryz.underlying9)<|Ze (X14 rfl rfl)<|Zt aN fun a f=>?_
 refine Xl f rfl (fun j=>?_) (fun j=>?_)
 ·have a9:=j;have j:=Q2 j
  obtain ⟨b8,b4⟩:=Xq (l:=q) (k:=k) (by omega)
  obtain ⟨u7,aA⟩:=Xq (l:=q) (k:=k) (by have:=j;omega)
  refine Q7<|aM _ _<|Q5 fun _ L=>?_;refine Q8<|Zs f fun _ aO=>?_;refine Za rfl<|ZX aO fun a f _ M=>?_;refine Zs f fun _ aP=>?_;refine Zm rfl<|Zm rfl<|Ze (X8o (s:=q) (k:=k) (u:=u7) rfl rfl Tryz.underlying9 rfl aA)<|Ze (Xa8 rfl rfl)<|Zt aP fun a f=>?_
  refine Xl f rfl (fun n=>?_) (fun n=>?_)
  ·have aB:=n;have aC:=Xfi n;refine Zr f<|Za rfl<|Zt M fun a f=>?_;refine Zr f<|Ze (Vd rfl X1g 1)<|Ze (X0 rfl X3n (c.at 1))<|Zm rfl<|Ze (Xg (ps:=[(0,vi 5)]) (cs:=[vi 5,vi 0,vi 0]) rfl (fun _=>by first|rfl|kernel_rfl))<|Zf (Xd (k:=1) (vs:=[.agg #[vi 5,vi 0,vi 0]]) (zs:=[vi 5,vi 0,vi 0]) rfl X0z X15 rfl rfl) ?_;rintro _ w5 ⟨b9,rfl,N,m,C⟩;have b1:=Q0 d.size N;have t:=e.away N;have b:=b.below m;have c:=c.below m;have e:=e.below m;have d:=btr d m;refine Zf (X0n (enc:=encG) (l:=(gs)) (l2:=([(⟨5,0,0⟩ : Gt)])) (B0:=y.heap.size) rfl rfl X0z X15 X0k X20 e (Rd.of_blk C rfl _ C.lt) (by simp only [maxLen];simp;omega) (by simp;omega) d.size) ?_;rintro _ w6 ⟨aD,aE,rfl,D,o,E⟩
   have i:Own _ y.heap.size 90 3 encG _ _ (gs):=e
   have aJ:=E _ C.lt t;clear E;have b:=b.appT i o rfl;have c:=c.appT i o rfl;have d:=Below.app d i o (Qb _) d.size;clear i o;refine Ze (Vd rfl X1g 1)<|Zo (Vu (vs:=[.slice aD (gs++([(⟨5,0,0⟩ : Gt)])).length aE]) (l':=[vi 1,.slice aD (gs++([(⟨5,0,0⟩ : Gt)])).length aE]) rfl rfl X9u c) ?_;rintro _ w7 ⟨p,hb⟩;have g:=c;have b:=b.only p (Blk.ne b g rfl);have D:=D.onlyT p g rfl;have d:=Below.only d p z;have c:=hb;refine Zn fun a f=>?_;refine Xn<|L _ _<|Zr f<|Zm rfl<|Ze (X01 rfl rfl (by omega) (by omega))<|Za rfl ?_;refine Zn fun a f=>?_;refine Xm ?_;exact ⟨(k+1,gs++([(⟨5,0,0⟩ : Gt)])),⟨aD,aE,f.sb,(by omega),(by rw [o,X6j aA,aC]),b,c,D,d⟩,(by first|omega|(dsimp only;omega))⟩
  have aB:=n;have aC:=Xfb n;refine Q7<|M _ _<|Zr f<|Ze (Vd rfl X1g 1)<|Ze (X0 rfl X3n (c.at 1))<|Zm rfl<|Ze (Xg (ps:=[(0,vi 1)]) (cs:=[vi 1,vi 0,vi 0]) rfl (fun _=>by first|rfl|kernel_rfl))<|Zf (Xd (k:=1) (vs:=[.agg #[vi 1,vi 0,vi 0]]) (zs:=[vi 1,vi 0,vi 0]) rfl X0z X15 rfl rfl) ?_;rintro _ w8 ⟨bC,rfl,Q,m,G⟩;have b2:=Q0 d.size Q;have x:=e.away Q;have b:=b.below m;have c:=c.below m;have e:=e.below m;have d:=btr d m;refine Zf (X0n (enc:=encG) (l:=(gs)) (l2:=([(⟨1,0,0⟩ : Gt)])) (B0:=y.heap.size) rfl rfl X0z X15 X0k X20 e (Rd.of_blk G rfl _ G.lt) (by simp only [maxLen];simp;omega) (by simp;omega) d.size) ?_;rintro _ w9 ⟨aF,aG,rfl,H,o,E⟩
  have i:Own _ y.heap.size 90 3 encG _ _ (gs):=e
  have aK:=E _ G.lt x;clear E;have b:=b.appT i o rfl;have c:=c.appT i o rfl;have d:=Below.app d i o (Qb _) d.size;clear i o;refine Ze (Vd rfl X1g 1)<|Zo (Vu (vs:=[.slice aF (gs++([(⟨1,0,0⟩ : Gt)])).length aG]) (l':=[vi 1,.slice aF (gs++([(⟨1,0,0⟩ : Gt)])).length aG]) rfl rfl X9u c) ?_;rintro _ bD ⟨p,hb⟩;have g:=c;have b:=b.only p (Blk.ne b g rfl);have H:=H.onlyT p g rfl;have d:=Below.only d p z;have c:=hb;refine Zn fun a f=>?_;refine Xn<|L _ _<|Zr f<|Zm rfl<|Ze (X01 rfl rfl (by omega) (by omega))<|Za rfl ?_;refine Zn fun a f=>?_;refine Xm ?_;exact ⟨(k+1,gs++([(⟨1,0,0⟩ : Gt)])),⟨aF,aG,f.sb,(by omega),(by rw [o,X6j aA,aC]),b,c,H,d⟩,(by first|omega|(dsimp only;omega))⟩
 have a9:=j;have j:=Q1 j
 have aQ:gs=wdG q:=by rw [o,Qi (by omega)]
 have I:opI ⟨1,gs⟩=some (opM (wdG q)):=by rw [aQ];exact aT
 refine Q9<|Xk<|Xk<|X05 ?_;refine aZ _ _<|Zs f fun _ aR=>?_;refine Ze (Vn X1p c)<|Zf (X1j (vs:=[.agg #[vi 1,.slice h gs.length B]]) rfl Xc6 (by have hq:=Xmd w4 (⟨1,gs⟩ : Cx) h B e.rd.top (Xc8 I) (opM (wdG q)) I;rw [show opI _=some (opM (wdG q)) from I,Qq] at hq;exact hq)) ?_;rintro _ bE ⟨aH,aI,rfl,J,m⟩;have b:=b.below m;have d:=btr d m;refine Zo (Vw [vi ((opM (wdG q)).rows),vi ((opM (wdG q)).cols),.slice aH ((opM (wdG q)).cells).length aI] X0c b) ?_;rintro _ bF ⟨p,hb⟩;have g:=b;have J:=J.onlyT p g rfl;have d:=Below.only d p aL;have b:=hb;refine Zt aR fun a f=>?_
 refine Q6 (X3 f (Xt f rfl (ResV.cellN (l:=[vi ((opM (wdG q)).rows),vi ((opM (wdG q)).cols),.slice aH ((opM (wdG q)).cells).length aI]) rfl Xp (b.at 0) rfl)) ?_)
 exact ⟨aH,aI,rfl,J.top,d⟩
theorem Xk6(w0:World)(ss:List UInt8)(fc fp:Int)(hF:FrmOk ss)(aE:0≤fc∧fc≤23)(aF:0≤fp∧fp≤7) : Ret Tryz.prog 24 [.agg #[.string (tx ss),vi fc,vi fp]] w0 (fun v w=>v=.bool true∧Below w0.heap.size w0 w):=by
 have aG:=hF.len;refine enter Tryz.func24 rfl 44 rfl rfl ?_;intro a g
 have hW:=bz w0
 refine Zs g fun _ aH=>?_;refine Zf (X09 (zs:=[.string (tx ss),vi fc,vi fp]) rfl rfl) ?_;rintro _ w1 ⟨b2,rfl,aI,hE,m⟩;have aO:=Q0 hW.size aI;have hW:=btr hW hE;refine Za rfl<|ZX aH fun a g _ aJ=>?_;refine Zs g fun _ aK=>?_;refine Za rfl<|Zt aK fun a g=>?_;refine Q8<|X03 (σ:=Nat) (fun (i:Nat) (a:Act) (w:World)=>Fr a 44 [(1,.pointer (some ⟨b2,0,none⟩)),(3,vi (i:Int))]∧(i≤ss.length)∧Blk w b2 27 [.string (tx ss),vi fc,vi fp]∧Below w0.heap.size w0 w) (fun (i:Nat)=>ss.length-i) 0 ?_ ?_
 ·exact ⟨g.sb,(Qf _),m,hW⟩
 rintro i a w2 ⟨g,hi,m,hW⟩;refine Q5 fun _ aL=>?_;refine Zs g fun _ aM=>?_;refine Zm rfl<|Ze (Vd rfl X29 0)<|Ze (X0 rfl X7k (m.at 0))<|Ze (Xai (s:=ss) rfl Tryz.underlying9)<|Ze (X14 rfl rfl)<|Zt aM fun a g=>?_
 refine Xl g rfl (fun n=>?_) (fun n=>?_)
 ·have c:=n;have n:=Q2 n
  obtain ⟨u8,aP⟩:=Xq (l:=ss) (k:=i) (by omega)
  obtain ⟨u7,aA⟩:=Xq (l:=ss) (k:=i) (by have:=n;omega)
  refine Q7<|aL _ _<|Q5 fun _ aN=>?_;refine Q8<|Zs g fun _ aB=>?_;refine Ze (Vd rfl X29 0)<|Ze (X0 rfl X7k (m.at 0))<|Zm rfl<|Ze (X8o (s:=ss) (k:=i) (u:=u7) rfl rfl Tryz.underlying9 rfl aA)<|Za rfl<|ZX aB fun a g _ aC=>?_;refine X0a (fun a w=>Fr a 44 [(1,.pointer (some ⟨b2,0,none⟩)),(3,vi (i:Int)),(29,.bool ((((u7.toNat:Int) != 72)&&((u7.toNat:Int) != 83))&&(((u7.toNat:Int) != 84)||(decide (0<(i:Int))))))]∧w2=w) ?_ ?_
  ·refine Zr g<|Zm rfl<|Ze (Xi1 rfl rfl)<|Zm rfl ?_
   refine Zg 18 rfl (fun d=>?_) (fun d=>?_)
   ·refine Zv (gW d) (Xb rfl) ?_;refine Zv (gW d) (Xi1 rfl rfl) ?_;refine Ze (Xh rfl d rfl)<|Zm rfl ?_
    refine Zg 22 rfl (fun b=>?_) (fun b=>?_)
    ·refine Zv (gW b) (Xb rfl) ?_;refine Zv (gW b) (Xi1 rfl rfl) ?_;refine Zv (gW b) (Xb rfl) ?_
     refine Zg 25 rfl (fun j=>?_) (fun j=>?_)
     ·refine Zp (gP j) ?_;refine Zp (gP j) ?_;refine Zv (gW b) (Xh rfl j rfl) ?_;refine Ze (Xh rfl b rfl) ?_;refine Zn fun a g=>?_;exact ⟨g.sub ⟨rfl,rfl,X1 rfl (by first|rfl|(simp only [c,d,b,j,bs];done)|simp [c,d,b,j]),trivial⟩,rfl⟩
     refine Zv (gW j) (Xb rfl) ?_;refine Zv (gW j) (X9k rfl rfl) ?_;refine Zv (gW b) (Xf rfl j rfl) ?_;refine Ze (Xh rfl b rfl) ?_;refine Zn fun a g=>?_;exact ⟨g.sub ⟨rfl,rfl,X1 rfl (by first|rfl|(simp only [c,d,b,j,bs];done)|simp [c,d,b,j]),trivial⟩,rfl⟩
    refine Zp (gP b) ?_;refine Zp (gP b) ?_;refine Zp (gP b) ?_;refine Zp (gP trivial) ?_;refine Zp (gP trivial) ?_;refine Zp (gP b) ?_;refine Ze (Xf rfl b rfl) ?_;refine Zn fun a g=>?_;exact ⟨g.sub ⟨rfl,rfl,X1 rfl (by first|rfl|(simp only [c,d,b,bs];done)|simp [c,d,b]),trivial⟩,rfl⟩
   refine Zp (gP d) ?_;refine Zp (gP d) ?_;refine Ze (Xf rfl d rfl)<|Zm rfl<|Zp (gP rfl) ?_;refine Zp (gP rfl) ?_;refine Zp (gP rfl) ?_;refine Zp (gP trivial) ?_;refine Zp (gP trivial) ?_;refine Zp (gP rfl) ?_;refine Ze (Xf rfl rfl rfl) ?_;refine Zn fun a g=>?_;exact ⟨g.sub ⟨rfl,rfl,X1 rfl (by first|rfl|(simp only [c,d,bs];done)|simp [c,d]),trivial⟩,rfl⟩
  rintro a _ ⟨g,rfl⟩;refine aC _ _ ?_
  refine Xl g rfl (fun o=>?_) (fun o=>?_)
  ·have a9:=o;exact (Xuz hF aA o).elim
  have a9:=o;refine Q7<|Xn<|aN _ _<|Zr g ?_;refine Zm rfl<|Ze (X01 rfl rfl (by omega) (by omega))<|Za rfl ?_;refine Zn fun a g=>?_;refine Xm ?_;exact ⟨i+1,⟨g.sb,(by omega),m,hW⟩,(by omega)⟩
 have c:=n;have n:=Q1 n;refine Q9<|Xk<|Xk<|X05 ?_;refine aJ _ _<|Q5 fun _ aD=>?_;refine X0a (fun a w=>Fr a 44 [(2,.bool (((decide ((ss.length:Int)≤40))&&(inR fc 0 23))&&(inR fp 0 7)))]∧w2=w) ?_ ?_
 ·refine Zr g<|Ze (Vd rfl X29 0)<|Ze (X0 rfl X7k (m.at 0))<|Ze (Xai (s:=ss) rfl Tryz.underlying9)<|Ze (Xkx rfl rfl)<|Zm rfl ?_
  refine Zg 34 rfl (fun e=>?_) (fun e=>?_)
  ·refine Zv (gW e) (Vd rfl X4s 1) ?_;refine Zv (gW e) (X0 rfl X8 (m.at 1)) ?_;refine Zk (gW e) (Vc (F91 _ fc 0 23) X4c) ?_;rintro _ _ ⟨rfl,rfl⟩;refine Ze (Xh rfl e rfl)<|Zm rfl ?_
   refine Zg 39 rfl (fun f=>?_) (fun f=>?_)
   ·refine Zv (gW f) (Vd rfl X44 2) ?_;refine Zv (gW f) (X0 rfl X8 (m.at 2)) ?_;refine Zk (gW f) (Vc (F91 _ fp 0 7) X4c) ?_;rintro _ _ ⟨rfl,rfl⟩;refine Ze (Xh rfl f rfl)<|Za rfl ?_;refine Zn fun a g=>?_;exact ⟨g.sub ⟨X1 rfl (by first|rfl|(simp only [c,e,f,bs];done)|simp [c,e,f]),trivial⟩,rfl⟩
   refine Zp (gP f) ?_;refine Zp (gP f) ?_;refine Zp (gP f) ?_;refine Ze (Xf rfl f rfl)<|Za rfl ?_;refine Zn fun a g=>?_;exact ⟨g.sub ⟨X1 rfl (by first|rfl|(simp only [c,e,f,bs];done)|simp [c,e,f]),trivial⟩,rfl⟩
  refine Zp (gP e) ?_;refine Zp (gP e) ?_;refine Zp (gP e) ?_;refine Ze (Xf rfl e rfl)<|Zm rfl<|Zp (gP rfl) ?_;refine Zp (gP rfl) ?_;refine Zp (gP rfl) ?_;refine Ze (Xf rfl rfl rfl)<|Za rfl ?_;refine Zn fun a g=>?_;exact ⟨g.sub ⟨X1 rfl (by first|rfl|(simp only [c,e,bs];done)|simp [c,e]),trivial⟩,rfl⟩
 rintro a _ ⟨g,rfl⟩;refine aD _ _ ?_
 refine Q6 (X3 g (Xt g rfl rfl) ?_)
 exact ⟨by rw [Xnu aG aE aF],hW⟩
structure Sd where (A:Option Addr) (c:Nat) (l:List Dy)
def encSd(s:Sd) : List Value:=[.slice s.A s.l.length s.c]
theorem X1u:∀ x,(encSd x).length=1:=fun _=>rfl
theorem X3i:∀ x,(encSd x).all one=true:=fun _=>rfl
def DeepD(w:World)(B:Nat)(l:List Sd) : Prop:=∀ s ∈ l,Rd w B 86 encD s.A s.l
section
variable {w w' : World} {B : Nat} {l : List Sd}
theorem DeepD.below(h:DeepD w B l)(hb:Below w.heap.size w w') : DeepD w' B l:=fun s hs=>(h s hs).below hb
theorem DeepD.top(h:DeepD w B l) : DeepD w w.heap.size l:=fun s hs=>(h s hs).top
theorem DeepD.onlyT{b:Nat}{T:TypeId}{lc:List Value}(h:DeepD w B l)(ho:Only b w w')(hb:Blk w b T lc)(hT:Nat.beq (86:TypeId) T=false) : DeepD w' B l:=fun s hs=>(h s hs).onlyT ho hb hT
theorem DeepD.appT{B0:Nat}{E':TypeId}{sz:Nat}{α:Type}{enc:α→List Value}{A:Option Addr}{c:Nat}{m:List α}(h:DeepD w B l)(ho:Own w B0 E' sz enc A c m)(hg:w.grownBy w' (Value.slice A m.length c).ownBlock)(hT:Nat.beq E' (86:TypeId)=false) : DeepD w' B l:=fun s hs=>(h s hs).appT ho hg hT
theorem DeepD.nil(w:World)(B:Nat) : DeepD w B []:=fun s hs=>by cases hs
theorem DeepD.snoc{s:Sd}(h:DeepD w B l)(hr:Rd w B 86 encD s.A s.l) : DeepD w B (l++[s]):=fun t ht=>by
 rcases Qu.1 ht with h1|h1
 ·exact h t h1
 ·rw [Qm] at h1;subst h1;exact hr
end
theorem Apart.nl(A:Option Addr) : Apart none A:=fun _ _ h=>by cases h
theorem Apart.nr(A:Option Addr) : Apart A none:=fun _ _ _ h=>by cases h
theorem Xti{α:Type}{f:α→Bool}{l:List α}{k:Nat}{u:α}(h:l[k]? = some u) : (l.take (k+1)).any f=((l.take k).any f||f u):=by
 rw [Qt,h,List.any_append];simp
def letC(i:Nat) : UInt8:=if i=0 then 72 else 83
theorem Xgz{α:Type}{x y u:α}{i:Nat}(h:([x,y] : List α)[i]? = some u) : (i=0∧u=x)∨(i=1∧u=y):=by
 rcases i with _|_|i
 ·injection h with h;exact .inl ⟨rfl,h.symm⟩
 ·injection h with h;exact .inr ⟨rfl,h.symm⟩
 ·cases h
theorem Xtg{w:World}{B:Nat}{x y u:Sd}{i:Nat}(h:([x,y] : List Sd)[i]? = some u)(hx:Rd w B 86 encD x.A x.l)(hy:Rd w B 86 encD y.A y.l) : Rd w B 86 encD u.A u.l:=by
 rcases Xgz h with ⟨_,rfl⟩|⟨_,rfl⟩<;>assumption
theorem Xxb{x y u:Sd}{i:Nat}(h:([x,y] : List Sd)[i]? = some u)(hx:x.l=clB 1)(hy:y.l=clB 2) : u.l=clB (letR i):=by
 rcases Xgz h with ⟨rfl,rfl⟩|⟨rfl,rfl⟩<;>assumption
theorem Xq5{i:Nat}(hi:i<2) : (([72,83] : List UInt8).drop i).take (i+1-i)=[letC i]:=by
 have h:i=0∨i=1:=by omega
 rcases h with rfl|rfl<;>rfl
theorem Xp2:((List.range 24).all fun n=>(List.range 2).all fun i=>(List.range 3).all fun a=>(List.range 3).all fun b=>decide (rbN (letR i) a 0*rbN n 0 b+rbN (letR i) a 1*rbN n 1 b+rbN (letR i) a 2*rbN n 2 b=rbN (nx n (letC i)) a b))=true:=by kernel_rfl
theorem Xnx{n i:Nat}(hn:n<24)(hi:i<2) : mulBI (clB (letR i)) (clB n)=some (clB (nx n (letC i))):=by
 have hk:letR i<24:=by unfold letR;split<;>decide
 have h1:=Xp2
 simp only [W1,W2,Qr] at h1
 have hv:=X5z hk;have ht:=X5z hn
 have hz:∀ a b:Int,zI a*zI b=zI (a*b):=fun a b=>by apply X0m<;>simp [X2k,X2w,X33,X35,zI]
 have hz2:∀ a b:Int,zI a+zI b=zI (a+b):=fun a b=>rfl
 have ho:∀ a b,a<3→b<3→∃ x,dotI (bm3 (clB (letR i))) (bm3 (clB n)) a b 3=some x:=fun a b ha hb=>X8i hv ht (by decide) (R:=16) (by decide) ha hb fun m hm=>by
  have t1:Tri (rbN (letR i) a m):=(Xho hk).1.tri _
  have t2:Tri (rbN n m b):=(Xho hn).1.tri _
  have t3:=X7u t1 t2
  show qN (zI _*zI _)≤16
  rw [hz]
  unfold Tri at t3
  have h5:rbN (letR i) a m*rbN n m b = -1∨rbN (letR i) a m*rbN n m b=0∨rbN (letR i) a m*rbN n m b=1:=by omega
  rcases h5 with e|e|e<;>rw [e]<;>decide
 obtain ⟨r,hr⟩ : ∃ r,mulBI (clB (letR i)) (clB n)=some r:=X6c 9 fun m hm=>ho (m/3) (m % 3) (by omega) (by omega)
 rw [hr,Xjr (Xd6 hr hv ht) (X5z ((Xl6 hn).lt (letC i))) fun a b ha hb=>?_]
 show s2^0*(zI _*zI _+zI _*zI _+zI _*zI _)=s2^(0+0)*zI _
 rw [hz,hz,hz,hz2,hz2,h1 n hn i hi a ha b hb]
def ctT:List Nat:=[1,2,3,3,4,5,6,7,8,8,9,10,11,11,12,13,14,14,15,15,16,16,16,16,17,17,18,18,18,19,20,20,21,22,23,23,24,24,24,24,24,24,24,24,24,24,24,24,24]
def ctI(n i:Nat) : Nat:=ctT.getD (2*n+i) 0
theorem Xrn:((List.range 24).all fun n=>decide (n<ctI n 0)&&(List.range 2).all fun i=>decide (ctI n i≤24)&&decide (n<ctI n i)&&decide (nx n (letC i)≤ctI n i)&&(if nx n (letC i)=ctI n i then decide (ctI n (i+1)=ctI n i+1)&&decide (cw (ctI n i)=cw n++[letC i]) else decide (ctI n (i+1)=ctI n i)))=true:=by kernel_rfl
structure CtOk (n i:Nat) : Prop where
 le:ctI n i≤24
 lt:n<ctI n i
 nx:nx n (letC i)≤ctI n i
 new:Proofs.YtnmabjfoiakapaaGreatDoor.nx n (letC i)=ctI n i→ctI n (i+1)=ctI n i+1∧cw (ctI n i)=cw n++[letC i]
 old:Proofs.YtnmabjfoiakapaaGreatDoor.nx n (letC i)≠ctI n i→ctI n (i+1)=ctI n i
theorem Xy3{n i:Nat}(hn:n<24)(hi:i<2) : CtOk n i:=by
 have h:=Xrn
 simp only [W1,W2,Qd,Qr] at h
 obtain ⟨_,h2⟩:=h n hn;obtain ⟨⟨⟨a,b⟩,c⟩,d⟩:=h2 i hi
 refine ⟨a,b,c,fun e=>?_,fun e=>?_⟩
 ·rw [Q4 e] at d;simpa only [Qd,Qr] using d
 ·rw [Q3 e] at d;simpa only [Qr] using d
theorem Xpm{n:Nat}(hn:n<24) : n<ctI n 0:=by
 have h:=Xrn
 simp only [W1,W2,Qd,Qr] at h
 exact (h n hn).1
def wsN(C:Nat) : List ByteArray:=(List.range C).map fun k=>tx (cw k)
def lsN(C:Nat) : List (List Dy):=(List.range C).map clB
theorem X3x(C:Nat) : (wsN C).length=C:=by simp [wsN]
theorem Xgh(C:Nat) : (lsN C).length=C:=by simp [lsN]
theorem X9a{C k:Nat}(h:k<C) : (wsN C)[k]? = some (tx (cw k)):=by simp [wsN,h]
theorem Xe5(C:Nat) : wsN (C+1)=wsN C++[tx (cw C)]:=by simp [wsN,List.range_succ]
theorem Xdu(C:Nat) : lsN (C+1)=lsN C++[clB C]:=by simp [lsN,List.range_succ]
theorem Xga{L:List Sd}{C k:Nat}{u:Sd}(h:L.map Sd.l=lsN C)(hu:L[k]? = some u) : u.l=clB k:=by
 have h1:(L.map Sd.l)[k]? = some u.l:=by rw [List.getElem?_map,hu];rfl
 rw [h] at h1
 have hk:k<C:=by have:=(Qg.1 h1).1;rwa [Xgh] at this
 simp [lsN,hk] at h1
 exact h1.symm
theorem X73{L:List Sd}{C:Nat}(h:L.map Sd.l=lsN C) : L.length=C:=by
 have:=congrArg List.length h
 rwa [Qo,Xgh] at this
theorem Xtk:((List.range 24).all fun n=>(List.range 24).all fun m=>(n==m)||!decide (clB n=clB m))=true:=by kernel_rfl
theorem Xor{n m:Nat}(hn:n<24)(hm:m<24)(h:clB n=clB m) : n=m:=by
 have h1:=Xtk
 simp only [W1,W2,Bool.or_eq_true,beq_iff_eq,Bool.not_eq_true',decide_eq_false_iff_not] at h1
 exact (h1 n hn m hm).resolve_right fun h2=>h2 h
theorem Xf7{L:List Sd}{C m:Nat}(h:L.map Sd.l=lsN C)(hC:C≤24)(hm:m<24) : L.any (fun s=>decide (s.l=clB m))=decide (m<C):=by
 have e:L.any (fun s=>decide (s.l=clB m))=(L.map Sd.l).any fun l=>decide (l=clB m):=by rw [List.any_map];rfl
 rw [e,h]
 by_cases hc:m<C
 ·rw [decide_eq_true hc,List.any_eq_true]
  exact ⟨clB m,W6.2 ⟨m,W2.2 hc,rfl⟩,decide_eq_true rfl⟩
 ·rw [decide_eq_false hc,W7]
  intro l hl;obtain ⟨k,hk,rfl⟩:=W6.1 hl
  rw [W2] at hk
  intro h9
  have:=Xor (show k<24 by omega) hm (Q2 h9)
  omega
theorem Xu1{L:List Sd}{C:Nat}(h:L.map Sd.l=lsN C)(hC:C≤24){u:Sd}(hu:u ∈ L) : u.l.length≤2305843009213693951:=by
 have h1:u.l ∈ L.map Sd.l:=W6.2 ⟨u,hu,rfl⟩
 rw [h] at h1
 obtain ⟨k,hk,e⟩:=W6.1 h1
 rw [W2] at hk
 rw [← e,(X5z (show k<24 by omega)).len];decide
def uD(i:Nat) : Dy:=⟨⟨if ((i:Int).tmod 4==0)=true then 1 else 0,0,0,0⟩,0⟩
theorem Xpy:(List.range 9).map uD=clB 0:=by kernel_rfl
theorem Xpn(n:Nat) : (List.range n).map uD++[uD n]=(List.range (n+1)).map uD:=by simp [List.range_succ]
theorem X3y{k:Nat}(hk:k<24) : (clB k).length=9:=(X5z hk).len
theorem Xoo(i:Nat) : letR i<24:=by unfold letR;split<;>decide
def cdW(t:Nat) : List UInt8:=if t=0 then [] else cw ((t-1)/2)++[letC ((t-1) % 2)]
def cdB(t:Nat) : Nat:=if t=0 then 0 else nx ((t-1)/2) (letC ((t-1) % 2))
def ctC(t:Nat) : Nat:=if t=0 then 0 else ctT.getD (t-1) 0
theorem Xyd{t:Nat}(h:t≠0) : ctC t=ctI ((t-1)/2) ((t-1) % 2):=by
 unfold ctC ctI;rw [Q3 h];congr 1;omega
structure CdOk (t:Nat) : Prop where
 bl:blochI (opM (wdG (cdW t)))=some (clB (cdB t))
 len:(cdW t).length≤9
 lt:cdB t<24
 le:ctC t≤24
 nx:cdB t≤ctC t
 new:cdB t=ctC t→ctC (t+1)=ctC t+1∧cw (ctC t)=cdW t
 old:cdB t≠ctC t→ctC (t+1)=ctC t
theorem Xoh{t:Nat}(ht:t<48) : CdOk t:=by
 by_cases h0:t=0
 ·subst h0
  have e1:cdW 0=cw 0:=rfl
  have e2:cdB 0=0:=rfl
  have e3:ctC 0=0:=rfl
  have e4:ctC (0+1)=1:=rfl
  refine ⟨?_,?_,?_,?_,?_,fun _=>?_,fun h=>?_⟩
  ·rw [e1,e2];exact X6r (by decide)
  ·rw [e1];decide
  ·rw [e2];decide
  ·rw [e3];decide
  ·rw [e2,e3];exact Qb _
  ·rw [e3,e4,e1];exact ⟨rfl,rfl⟩
  ·rw [e2,e3] at h;exact absurd rfl h
 ·have hk:(t-1)/2<24:=by omega
  have hi:(t-1) % 2<2:=by omega
  have hc:=Xy3 hk hi
  have e1:cdW t=cw ((t-1)/2)++[letC ((t-1) % 2)]:=Q3 h0
  have e2:cdB t=nx ((t-1)/2) (letC ((t-1) % 2)):=Q3 h0
  have e3:=Xyd h0
  have e4:ctC (t+1)=ctI ((t-1)/2) ((t-1) % 2+1):=by
   unfold ctC ctI;rw [Q3 (by omega)];congr 1;omega
  refine ⟨by rw [e1,e2];exact Xey hk _,by rw [e1];have:=(X6n hk).2;simp;omega,by rw [e2];exact (Xl6 hk).lt _,by rw [e3];exact hc.le,by rw [e2,e3];exact hc.nx,fun h=>?_,fun h=>?_⟩
  ·rw [e2,e3] at h
   rw [e1,e3,e4];exact hc.new h
  ·rw [e2,e3] at h
   rw [e3,e4];exact hc.old h
theorem Xw1:((List.range 49).all fun t=>decide (24≤ctC t)||decide (t<1+2*ctC t))=true:=by kernel_rfl
theorem Xxe{t:Nat}(ht:t<49)(h:ctC t<24) : t<1+2*ctC t:=by
 have h1:=Xw1
 simp only [W1,W2,Bool.or_eq_true,Qr] at h1
 have:=h1 t ht
 omega
def cdL(a b:Nat) : List ByteArray:=(List.range (b-a)).map fun j=>tx (cdW (a+j))
theorem Xcu(a b:Nat) : (cdL a b).length=b-a:=by simp [cdL]
theorem Xnk{a b q:Nat}(h:q<b-a) : (cdL a b)[q]? = some (tx (cdW (a+q))):=by simp [cdL,h]
theorem Xn2{a C t:Nat}(ha:a≤1+2*C)(h:cw C=cdW t) : cdL a (1+2*C)++[tx (cdW t++[72]),tx (cdW t++[83])]=cdL a (1+2*(C+1)):=by
 unfold cdL
 rw [show 1+2*(C+1)-a=(1+2*C-a)+1+1 by omega,List.range_succ,List.range_succ,List.map_append,List.map_append,Qx]
 congr 1
 have e1:cdW (a+(1+2*C-a))=cdW t++[72]:=by
  rw [show a+(1+2*C-a)=1+2*C by omega,cdW,Q3 (by omega),show (1+2*C-1)/2=C by omega,show (1+2*C-1) % 2=0 by omega,h];rfl
 have e2:cdW (a+(1+2*C-a+1))=cdW t++[83]:=by
  rw [show a+(1+2*C-a+1)=2+2*C by omega,cdW,Q3 (by omega),show (2+2*C-1)/2=C by omega,show (2+2*C-1) % 2=1 by omega,h];rfl
 simp [e1,e2]
theorem Xml{t:Nat}(ht:t<48) : ctC t≤ctC (t+1):=by
 have h:=Xoh ht
 by_cases e:cdB t=ctC t
 ·have:=(h.new e).1;omega
 ·have:=h.old e;omega
theorem Xgw(k:Nat) : fmG k []=wdG (cw k):=by simp [fmG,synG]
theorem Xe7(k s:Nat)(ss:List Nat) : fmG k (s::ss)=fmG k ss++sylG s:=by unfold fmG;rw [X7t,Qx]
theorem X90{k:Nat}(hk:k<24){ss:List Nat}(h:ss.length≤40) : (fmG k ss).length≤126:=by
 have h1:=(Xex ss).2;have h2:=(X6n hk).2
 unfold fmG wdG
 rw [Qh,Qo]
 omega
theorem Xk1{sl:List Nat}{j:Nat}(hj:j<sl.length) : ∃ s,sl[sl.length-1-j]? = some s∧s ∈ sl∧sl.drop (sl.length-(j+1))=s::sl.drop (sl.length-j):=by
 have h1:sl.length-1-j<sl.length:=by omega
 refine ⟨sl[sl.length-1-j],Qc h1,List.getElem_mem h1,?_⟩
 rw [show sl.length-(j+1)=sl.length-1-j from by omega,Qy h1,show sl.length-1-j+1=sl.length-j from by omega]
theorem Xlj{j k:Nat}(hj:j<24)(hk:k<24)(h:clB j=clB k) : j=k:=by rw [← Xft hj,h,Xft hk]
theorem Xvg(l:List Dy) : l.map (dTurn ((0:Nat) : Int))=l:=by
 induction l with
 | nil=>rfl
 | cons x t ih=>rw [List.map_cons,ih];rfl
theorem Xko{tb:List UInt8}{sl:List Nat}(h:tb=sl.map sylT){k s:Nat}(hs:sl[k]? = some s) : tb[k]? = some (sylT s):=by rw [h,List.getElem?_map,hs];rfl
def nfM(m:Mx) : Option (List Nat×Nat×Nat):=(blochI m).bind fun l=>if bexp l≤40 then some (nfS l,clX (nfL l),nfP m l) else none
def nfs(m:Mx) : List UInt8:=match nfM m with|some p=>p.1.map sylT|none=>[]
def nfk(m:Mx) : Nat:=match nfM m with|some p=>p.2.1|none=>0
def nfp(m:Mx) : Nat:=match nfM m with|some p=>p.2.2|none=>0
structure NfN (m:Mx) : Prop where
 s:nfs m=[]
 k:nfk m=0
 p:nfp m=0
 n:(nfM m).isSome=false
theorem nfN{m:Mx}(h:(!(blochI m).isSome||decide (40<bexp ((blochI m).getD [])))=true) : NfN m:=by
 have e:nfM m=none:=by
  unfold nfM
  cases hb:blochI m with
  | none=>rfl
  | some l=>
   rw [hb] at h
   have:¬ bexp l≤40:=by simp at h;omega
   rw [Qz,Q3 this]
 exact ⟨by unfold nfs;rw [e],by unfold nfk;rw [e],by unfold nfp;rw [e],by rw [e];rfl⟩
structure NfY (m:Mx) (l:List Dy) : Prop where
 s:nfs m=(nfS l).map sylT
 k:nfk m=clX (nfL l)
 p:nfp m=nfP m l
 n:(nfM m).isSome=true
theorem nfY{m:Mx}{l:List Dy}(h:blochI m=some l)(hb:bexp l≤40) : NfY m l:=by
 have e:nfM m=some (nfS l,clX (nfL l),nfP m l):=by unfold nfM;rw [h,Qz,Q4 hb]
 exact ⟨by unfold nfs;rw [e],by unfold nfk;rw [e],by unfold nfp;rw [e],by rw [e];rfl⟩
theorem Xl4{m:Mx}(h:(!(blochI m).isSome||decide (40<bexp ((blochI m).getD [])))=false) : blochI m=some ((blochI m).getD [])∧bexp ((blochI m).getD [])≤40:=by
 cases hb:blochI m with
 | none=>rw [hb] at h;cases h
 | some l=>rw [hb] at h;simp at h;exact ⟨rfl,h⟩
theorem Xy7{m:Mx}{l:List Dy}(h:NfR m l) : (mOk m&&mOk (nfW l)&&eqPh m (nfW l))=true∧(mOk m&&mOk (nfW l))=true:=by
 have h1:=h.one.1;have h2:=h.vm.1
 have h3:eqPh m (nfW l)=true:=by
  rw [Xjq h2]
  obtain ⟨k,hk,ht⟩:=h.ph;exact List.any_eq_true.2 ⟨k,W2.2 hk,ht⟩
 rw [h1,h2,h3]
 exact ⟨rfl,rfl⟩
theorem Xxr{m:Mx}{l:List Dy}(h:NfR m l){i:Int}(hi:∃ k:Nat,k<8∧i=(k:Int)∧eqPhT m (nfW l) k=true) : i=(nfP m l:Int)∧nfP m l<8:=by
 obtain ⟨k,hk,e1,e2⟩:=hi
 have h3:turnedS m (nfW l) (k:Int)=true:=by rw [← e2,eqPhT,X5h h.vm.1 hk];rfl
 rw [Xkl h hk h3]
 exact ⟨e1,hk⟩
theorem Xjb(m:Mx) : ((blochI m).getD []).length≤9:=by
 cases hb:blochI m with
 | none=>decide
 | some l=>
  unfold blochI at hb
  split at hb
  ·rw [Qq,X31 hb];exact Qb _
  ·cases hb
section
variable {P : Program} {a : Act} {w : World} {n : Nat} {e : Env} {ty : TypeId} {pos : String} {af : Array Edge} {g : Option (Nat × Bool)} {d : Option Tmp} {t t' : TypeId}
end
theorem Xqf{i:Nat}(hi:i<3) : ([84,72,83] : List UInt8)[i]? = some (sylT i):=by rcases lt3 hi with rfl|rfl|rfl<;>rfl
theorem Xj7{m:Mx}{l:List Dy}(h:NfR m l) : m.cells.length=(nfW l).cells.length:=by
 have h1:=(X2h h.one.1).2.2;have h2:=(X2h h.vm.1).2.2
 rw [h1,h2,h.one.2.1,h.one.2.2,h.vm.2.1,h.vm.2.2]
theorem Xvw{l:List Dy} : (nfW l).cells.length≤2305843009213693951:=Xag ⟨1,nfC l⟩
theorem Xuo{m:Mx}{l:List Dy}(h:NfR m l) : phaseS m (nfW l)=true:=by
 obtain ⟨k,hk,ht⟩:=h.ph;exact List.any_eq_true.2 ⟨k,W2.2 hk,ht⟩
theorem Xsc{m:Mx}{l:List Dy}(h:NfR m l){i:Int}(hi:∃ k:Nat,k<8∧i=(k:Int)∧turnedS m (nfW l) (k:Int)=true) : i=(nfP m l:Int):=by
 obtain ⟨k,hk,e1,e2⟩:=hi
 rw [Xkl h hk e2]
 exact e1
theorem Xza{m:Mx}(h:oneQ m=false) : NfN m:=nfN (by unfold blochI;rw [h];rfl)
def fmW(k:Nat)(ss:List Nat)(p:Nat) : List Gt:=fmG k ss++List.replicate p ⟨12,0,0⟩
theorem Xa3(k:Nat)(ss:List Nat) : fmW k ss 0=fmG k ss:=by unfold fmW;rw [List.replicate_zero,List.append_nil]
theorem Xda(k:Nat)(ss:List Nat)(p:Nat) : fmW k ss (p+1)=fmW k ss p++[⟨12,0,0⟩]:=by unfold fmW;rw [List.replicate_succ',Qx]
theorem Xd4{k:Nat}(hk:k<24){ss:List Nat}(h:ss.length≤40)(p:Nat) : (fmW k ss p).length≤126+p:=by
 have:=X90 hk h
 unfold fmW
 rw [Qh,List.length_replicate]
 omega
theorem X3t{l:List Dy}(h:Gd l){i:Nat}(hi:i<3) : (bkC i).length=9∧l.length=9∧(∀ x ∈ bkC i,dOk x=true)∧∀ x ∈ l,dOk x=true:=⟨(Xcs hi).1,h.nine.1,(Xcs hi).2,h.nine.2⟩
def nfl(m:Mx) : List Nat:=match nfM m with|some p=>p.1|none=>[]
theorem Xu7(m:Mx)(l:List Dy) : nfP m l<8:=by
 unfold nfP
 cases h:(List.range 8).find? fun (k:Nat)=>turnedS m (nfW l) (k:Int) with
 | none=>decide
 | some k=>exact W2.1 (List.mem_of_find?_eq_some h)
structure NfA (m:Mx) : Prop where
 s:nfs m=(nfl m).map sylT
 k:nfk m<24
 p:nfp m<8
 l:(nfl m).length≤40
 t:∀ s ∈ nfl m,s<3
 f:FrmOk (nfs m)
theorem nfA{m:Mx}(h:(nfM m).isSome=true) : NfA m:=by
 cases hb:blochI m with
 | none=>unfold nfM at h;rw [hb] at h;cases h
 | some l=>
  by_cases h40:bexp l≤40
  ·have hY:=nfY hb h40;have hR:=nfR hb h40
   have e:nfl m=nfS l:=by unfold nfl nfM;rw [hb,Qz,Q4 h40]
   obtain ⟨n1,n2⟩:=X7q hR.gd h40;have hn:=X24 l;exact ⟨by rw [hY.s,e],by rw [hY.k];exact (X9w hR.gd h40).1,by rw [hY.p];exact Xu7 m l,by rw [e];omega,by rw [e];exact n2,by rw [hY.s];exact Xgn hR.gd h40⟩
  ·unfold nfM at h
   rw [hb,Qz,Q3 h40] at h
   cases h
theorem Xhi{k:Nat}(hk:k<24){ss:List Nat}(hs:ss.length≤40){p:Nat}(hp:p<8) : cOk ⟨1,fmW k ss p⟩=true:=by
 have h0:=X2c (Xc8 (Xkh hk hs).1);have h1:=Xd4 hk hs p;refine Xkp rfl (by show (fmW k ss p).length≤400;omega) fun g hg=>?_
 have hg':g ∈ fmG k ss++List.replicate p (⟨12,0,0⟩ : Gt):=hg
 rcases Qu.1 hg' with h|h
 ·exact h0.2.2 g h
 ·rw [List.eq_of_mem_replicate h];rfl
theorem Xns{k:Nat}(hk:k<24){ss:List Nat}(hs:ss.length≤40){p:Nat}(hp:p<8) : cIf ⟨1,fmW k ss p⟩=some ⟨1,fmW k ss p⟩:=by rw [cIf,Q4 (Xhi hk hs hp)]
def rdC(c:Cx) : Option Cx:=if ((opI c).isSome&&c.n==1&&(nfM ((opI c).getD mZ)).isSome)=true then some ⟨1,fmW (nfk ((opI c).getD mZ)) (nfl ((opI c).getD mZ)) (nfp ((opI c).getD mZ))⟩ else none
theorem Xr9{c:Cx}(h:(!(opI c).isSome||c.n != 1)=true) : rdC c=none:=by
 rw [rdC,Q3]
 intro h9
 simp only [Qd] at h9
 rw [h9.1.1,bne,h9.1.2] at h
 cases h
theorem Xk5{c:Cx}(h:(nfM ((opI c).getD mZ)).isSome=false) : rdC c=none:=by
 rw [rdC,Q3]
 rw [h,Bool.and_false]
 decide
theorem Xmq{c:Cx}(h:(!(opI c).isSome||c.n != 1)=false)(h2:(nfM ((opI c).getD mZ)).isSome=true) : rdC c=some ⟨1,fmW (nfk ((opI c).getD mZ)) (nfl ((opI c).getD mZ)) (nfp ((opI c).getD mZ))⟩:=by
 rw [rdC,Q4]
 rw [h2,Bool.and_true]
 revert h
 unfold bne
 cases (opI c).isSome<;>cases (c.n==1)<;>simp
theorem X7w(c:Cx) : ((rdC c).getD cZ).gs.length≤400:=by
 unfold rdC
 split
 ·rename_i h
  simp only [Qd] at h
  have hA:=nfA h.2;exact (X2c (Xhi hA.k hA.l hA.p)).2.1
 ·decide
theorem Xvs(b:World)(Al:Option Addr)(cl:Nat)(l:List Dy)(a9:Rd b b.heap.size 86 encD Al l)(aC:l.length≤2305843009213693951)(bm:Nat)(Am:Option Addr)(cm:Nat)(m:List Dy)(aA:Rd b b.heap.size 86 encD Am m)(aB:Blk b bm 30 [.slice Am m.length cm]) : Ret Tryz.prog 132 [.slice Al l.length cl,.pointer (some ⟨bm,0,none⟩)] b (fun v w=>v=.bool (decide (l=m))∧Below b.heap.size b w):=by
 have aD:=aB.lt;refine enter Tryz.func132 rfl 7 rfl rfl ?_;intro a hf
 have hW:=bz b
 refine Zs hf fun _ aE=>?_;refine Za rfl<|Zx aE fun a hf _ aF=>?_;refine Zm rfl<|Ze (X0 rfl X0j (aB.at 0))<|Zf (Vc (Xsh _ Al cl l (a9.below' hW).top Am cm m (aA.below' hW).top aC) Xfn) ?_;rintro _ w1 ⟨rfl,hE⟩;have hW:=btr hW hE;refine Za rfl<|Zt aF fun a hf=>?_
 refine Q6 (X3 hf (Xt hf rfl rfl) ?_)
 exact ⟨rfl,hW⟩
theorem Xxk(f:World)(AL:Option Addr)(cL:Nat)(L:List Sd)(aC:Rd f f.heap.size 30 encSd AL L)(aJ:DeepD f f.heap.size L)(aR:L.length≤1000)(k:FuncId)(p:List Value)(F:FuncF Tryz.prog k)(q:List Dy→Bool)(hq:∀ (s:Sd) (w:World),s ∈ L→Below f.heap.size f w→Rd w w.heap.size 86 encD s.A s.l→Ret Tryz.prog k ([.slice s.A s.l.length s.c]++p) w (fun v w'=>v=.bool (q s.l)∧Below w.heap.size w w')) : Ret Tryz.prog 173 [.slice AL L.length cL,.func (.func k) #[] p.toArray] f (fun v w=>∃ i:Int,v=vi i∧decide (0≤i)=L.any (fun s=>q s.l)∧Below f.heap.size f w):=by
 refine enter Tryz.func173 rfl 19 rfl rfl ?_;intro a b
 have m:=bz f
 refine Zs b fun _ aK=>?_;refine Za rfl<|ZX aK fun a b _ aL=>?_;refine Zs b fun _ aM=>?_;refine Zm rfl<|Ze (X23 rfl X1o)<|Zm rfl<|Zt aM fun a b=>?_;refine Q8<|X03 (σ:=Nat) (fun (j:Nat) (a:Act) (w:World)=>Fr a 19 [(0,.slice AL L.length cL),(1,.func (.func k) #[] p.toArray),(7,vi (L.length:Int)),(8,vi (j:Int))]∧(j≤L.length)∧((L.take j).all (fun s=>!q s.l)=true)∧Below f.heap.size f w) (fun (j:Nat)=>L.length-j) 0 ?_ ?_
 ·exact ⟨b.sb,(Qf _),(by simp),m⟩
 rintro j a w1 ⟨b,hj,o,m⟩;refine Zs b fun _ aN=>?_;refine Ze (X14 rfl rfl)<|ZX aN fun a b _ aO=>?_
 refine Xl b rfl (fun e=>?_) (fun e=>?_)
 ·have aD:=e;have e:=Q2 e
  obtain ⟨n,g⟩:=Xq (l:=L) (k:=j) (by omega)
  refine Q7<|aO _ _<|Q5 fun _ aP=>?_;refine Q8<|Zs b fun _ aE=>?_;refine Zm rfl<|Za rfl<|Zx aE fun a b _ aF=>?_;refine Zm rfl<|Zm rfl<|Zm rfl<|Zi (k:=j) (u:=n) (enc:=encSd) (l:=L) trivial rfl rfl X1o X3g X1u (aC.below' m) g rfl ?_;intro aS a9
  have aG:Rd w1 f.heap.size 86 encD n.A n.l:=(aJ n (Qe g)).below' m
  refine Ze (X0 rfl X0j a9)<|Zf (X67 (cs:=p) (vs:=[.slice n.A n.l.length n.c]) rfl rfl F (hq n _ (Qe g) m aG.top)) ?_;rintro _ w2 ⟨rfl,hE⟩;have m:=btr m hE;refine Zt aF fun a b=>?_
  refine Xl b rfl (fun d=>?_) (fun d=>?_)
  ·have aA:=d
   have aB:L.any (fun s=>q s.l)=true:=X51 g d
   refine Zs b fun _ aH=>?_;refine Zm rfl<|Za rfl<|Zt aH fun a b=>?_;refine Q6<|Xw<|X7<|X7 ?_;refine Xw<|X7<|X3 b (Xt b rfl rfl) ?_;exact ⟨_,rfl,by rw [aB];simp,m⟩
  have aA:=d
  have aQ:(fun s:Sd=>!q s.l) n=true:=by show (!q n.l)=true;rw [d];rfl
  refine Q7<|Xn<|aP _ _<|Zr b ?_;refine Ze (X01 rfl rfl (by omega) (by omega))<|Zm rfl ?_;refine Zn fun a b=>?_;refine Xm ?_;exact ⟨j+1,⟨b.sb,(by omega),(X3o o g aQ),m⟩,(by omega)⟩
 have aD:=e;have e:=Q1 e;refine Q9<|Xk<|Xk<|X05 ?_;refine aL _ _<|Zs b fun _ aI=>?_;refine Za rfl<|Zt aI fun a b=>?_
 refine Q6 (X3 b (Xt b rfl rfl) ?_)
 have aB:L.any (fun s=>q s.l)=false:=X40 (X36 o (by omega))
 exact ⟨_,rfl,by rw [aB];rfl,m⟩
theorem Xve(b:World)(AL:Option Addr)(cL:Nat)(L:List Sd)(a9:Rd b b.heap.size 30 encSd AL L)(aA:DeepD b b.heap.size L)(aB:L.length≤1000)(k:FuncId)(p:List Value)(F:FuncF Tryz.prog k)(q:List Dy→Bool)(hq:∀ (s:Sd) (w:World),s ∈ L→Below b.heap.size b w→Rd w w.heap.size 86 encD s.A s.l→Ret Tryz.prog k ([.slice s.A s.l.length s.c]++p) w (fun v w'=>v=.bool (q s.l)∧Below w.heap.size w w')) : Ret Tryz.prog 131 [.slice AL L.length cL,.func (.func k) #[] p.toArray] b (fun v w=>v=.bool (L.any (fun s=>q s.l))∧Below b.heap.size b w):=by
 refine enter Tryz.func131 rfl 9 rfl rfl ?_;intro a hf
 have hW:=bz b
 refine Zs hf fun _ aC=>?_;refine Za rfl<|Zx aC fun a hf _ aD=>?_;refine Zm rfl<|Zm rfl<|Zf (Vc (Xxk _ AL cL L (a9.below' hW).top (aA.below hW).top aB k p F q (fun u w1 hu aE aF=>hq u w1 hu (hW.trans (aE.mono hW.size)) aF)) Xq7) ?_;rintro _ w1 ⟨ix,rfl,aG,hE⟩;have hW:=btr hW hE;refine Ze (Xid rfl rfl)<|Za rfl<|Zt aD fun a hf=>?_
 refine Q6 (X3 hf (Xt hf rfl rfl) ?_)
 exact ⟨by rw [← aG],hW⟩
theorem Xr8(M:World)(eV:HalfT M) : Ret Tryz.prog 77 [] M (fun v w=>∃ (A:Option Addr) (c:Nat) (Bq:Option Addr) (d:Nat) (L:List Sd),v=.tuple #[.slice A (wsN 24).length c,.slice Bq L.length d]∧Own w M.heap.size 9 1 encTx A c (wsN 24)∧Own w M.heap.size 30 1 encSd Bq d L∧L.map Sd.l=lsN 24∧DeepD w w.heap.size L∧Below M.heap.size M w):=by
 refine enter Tryz.func77 rfl 80 rfl rfl ?_;intro a J
 have z:=bz M
 refine Zs J fun _ g9=>?_;refine Za rfl<|Za rfl<|Zx g9 fun a J _ gA=>?_;refine Zf (Xd (k:=0) (vs:=[]) (zs:=[]) rfl Xv X0x rfl rfl) ?_;rintro _ w1 ⟨b5,rfl,gB,y,gC⟩;have eW:=Q0 z.size gB;have z:=btr z y;refine Za rfl<|ZX gA fun a J _ gD=>?_;refine Zs J fun _ gE=>?_;refine Zm rfl<|Zt gE fun a J=>?_;refine Q8<|X03 (σ:=Nat×(List Dy)) (fun (s:Nat×(List Dy)) (a:Act) (w:World)=>match s with|(k,l)=>∃ A9 c9,Fr a 80 [(2,.slice A9 l.length c9),(14,vi (k:Int))]∧(k≤9)∧(l=(List.range k).map uD)∧(l.length=k)∧Own w M.heap.size 86 5 encD A9 c9 l∧Below M.heap.size M w) (fun (s:Nat×(List Dy))=>match s with|(k,l)=>9-k) (0,[]) ?_ ?_
 ·exact ⟨some ⟨b5,0,none⟩,0,J.sb,(by omega),rfl,rfl,(Own.empty gC eW),z⟩
 rintro ⟨k,l⟩ a w2 ⟨A9,c9,J,hk,hl,gF,aF,z⟩;refine Zs J fun _ eX=>?_;refine Ze (X14 rfl rfl)<|ZX eX fun a J _ eY=>?_
 refine Xl J rfl (fun aG=>?_) (fun aG=>?_)
 ·have Q:=aG;have aG:=Q2 aG
  have eZ:k<9:=by have:=aG;omega
  refine Q7<|eY _ _<|Q5 fun _ f7=>?_;refine Q8<|Zs J fun _ f8=>?_;refine Zm rfl<|Za rfl<|Zt f8 fun a J=>?_;refine Zr J<|Zm rfl<|Zm rfl<|Ze (X9o rfl rfl rfl)<|Ze (X1d rfl rfl)<|Zf (Vc (F59 _ (((k:Int).tmod 4)==0)) Xed) ?_;rintro _ _ ⟨rfl,rfl⟩;refine Zf (Vc (Xil _ (if (((k:Int).tmod 4)==0)=true then 1 else 0)) X8f) ?_;rintro _ w3 ⟨rfl,y⟩;have aF:=aF.below y;have z:=btr z y;refine Zf (Xd (k:=1) (vs:=[.agg #[vi ((⟨⟨(if (((k:Int).tmod 4)==0)=true then 1 else 0),0,0,0⟩,0⟩ : Dy).num.a),vi ((⟨⟨(if (((k:Int).tmod 4)==0)=true then 1 else 0),0,0,0⟩,0⟩ : Dy).num.b),vi ((⟨⟨(if (((k:Int).tmod 4)==0)=true then 1 else 0),0,0,0⟩,0⟩ : Dy).num.c),vi ((⟨⟨(if (((k:Int).tmod 4)==0)=true then 1 else 0),0,0,0⟩,0⟩ : Dy).num.d),vi ((⟨⟨(if (((k:Int).tmod 4)==0)=true then 1 else 0),0,0,0⟩,0⟩ : Dy).exp)]]) (zs:=[vi ((⟨⟨(if (((k:Int).tmod 4)==0)=true then 1 else 0),0,0,0⟩,0⟩ : Dy).num.a),vi ((⟨⟨(if (((k:Int).tmod 4)==0)=true then 1 else 0),0,0,0⟩,0⟩ : Dy).num.b),vi ((⟨⟨(if (((k:Int).tmod 4)==0)=true then 1 else 0),0,0,0⟩,0⟩ : Dy).num.c),vi ((⟨⟨(if (((k:Int).tmod 4)==0)=true then 1 else 0),0,0,0⟩,0⟩ : Dy).num.d),vi ((⟨⟨(if (((k:Int).tmod 4)==0)=true then 1 else 0),0,0,0⟩,0⟩ : Dy).exp)]) rfl Xv X0x rfl rfl) ?_;rintro _ w4 ⟨iV,rfl,cV,y,cA⟩;have gG:=Q0 z.size cV;have cB:=aF.away cV;have aF:=aF.below y;have z:=btr z y;refine Zf (X0n (enc:=encD) (l:=(l)) (l2:=([(⟨⟨(if (((k:Int).tmod 4)==0)=true then 1 else 0),0,0,0⟩,0⟩ : Dy)])) (B0:=M.heap.size) rfl rfl Xv X0x Xz X28 aF (Rd.of_blk cA rfl _ cA.lt) (by simp only [maxLen];simp;omega) (by simp;omega) z.size) ?_;rintro _ w5 ⟨gI,gJ,rfl,f9,B,D⟩
  have e:Own _ M.heap.size 86 5 encD _ _ (l):=aF
  have dS:=D _ cA.lt cB;clear D;have z:=Below.app z e B (Qb _) z.size;clear e B;refine Za rfl ?_;refine Zn fun a J=>?_;refine Xn<|f7 _ _<|Zr J<|Ze (X01 rfl rfl (by omega) (by omega))<|Zm rfl ?_;refine Zn fun a J=>?_;refine Xm ?_;exact ⟨(k+1,l++[uD k]),⟨gI,gJ,J.sb,(by omega),(by rw [hl];exact Xpn k),(by simp;exact gF),f9,z⟩,(by first|omega|(dsimp only;omega))⟩
 have Q:=aG;have aG:=Q1 aG
 have eZ:k=9:=by have:=aG;omega
 have gK:l=clB 0:=by rw [hl,eZ];exact Xpy
 refine Q9<|Xk<|Xk<|X05 ?_;refine gD _ _<|Zs J fun _ fA=>?_;refine Zf (Xd (k:=1) (vs:=[.string (tx [])]) (zs:=[.string (tx [])]) rfl X1e X4b rfl rfl) ?_;rintro _ w6 ⟨gL,rfl,fB,y,aN⟩;have dH:=Q0 z.size fB;have aF:=aF.below y;have z:=btr z y;refine Zm rfl<|Zf (Xd (k:=1) (vs:=[.slice A9 l.length c9]) (zs:=[.slice A9 l.length c9]) rfl X1o X2j rfl rfl) ?_;rintro _ w7 ⟨gM,rfl,fC,y,aT⟩;have dI:=Q0 z.size fC;have aN:=aN.below y;have aF:=aF.below y;have z:=btr z y;refine Za rfl<|Za rfl<|Zx fA fun a J _ fD=>?_;refine Zf (Vc (Xqu _ 1 0 (by decide) rfl (eV.of z)) Xg9) ?_;rintro _ w8 ⟨aA,aB,rfl,g,y⟩;have g:=g.lower z.size;have aN:=aN.below y;have aT:=aT.below y;have aF:=aF.below y;have z:=btr z y;refine Ze (Xgk (vs:=[.slice aA (clB (letR 0)).length aB]) rfl ⟨_,_,Tryz.underlying66,rfl,rfl,X0j⟩ rfl)<|Zf (Vc (Xqu _ 5 1 (by decide) rfl (eV.of z)) Xg9) ?_;rintro _ w9 ⟨aC,aD,rfl,p,y⟩;have p:=p.lower z.size;have aN:=aN.below y;have aT:=aT.below y;have aF:=aF.below y;have g:=g.below y;have z:=btr z y;refine Ze (Xgk (vs:=[.slice aC (clB (letR 1)).length aD]) rfl ⟨_,_,Tryz.underlying66,rfl,rfl,X0j⟩ rfl)<|Za rfl<|Za rfl<|ZX fD fun a J _ fE=>?_;refine Zs J fun _ fF=>?_;refine Za rfl<|Zt fF fun a J=>?_;refine Q8 ?_
 have x:DeepD w9 w9.heap.size [(⟨A9,c9,l⟩ : Sd)]:=DeepD.snoc (DeepD.nil _ _) (s:=(⟨A9,c9,l⟩ : Sd)) aF.rd.top
 refine X03 (σ:=Nat×(List ByteArray)×(List Sd)) (fun (s:Nat×(List ByteArray)×(List Sd)) (a:Act) (w:World)=>match s with|(n,ws,L)=>∃ cC cD cE cF,Fr a 80 [(4,.slice cC ws.length cD),(5,.slice cE L.length cF),(6,.slice aA (clB (letR 0)).length aB),(7,.slice aC (clB (letR 1)).length aD),(8,vi (n:Int))]∧(n≤24)∧(ws=wsN (ctI n 0))∧(L.map Sd.l=lsN (ctI n 0))∧Own w M.heap.size 9 1 encTx cC cD ws∧Own w M.heap.size 30 1 encSd cE cF L∧Own w M.heap.size 86 5 encD aA aB (clB (letR 0))∧Own w M.heap.size 86 5 encD aC aD (clB (letR 1))∧DeepD w w.heap.size L∧Below M.heap.size M w) (fun (s:Nat×(List ByteArray)×(List Sd))=>match s with|(n,ws,L)=>24-n) (0,[tx []],[(⟨A9,c9,l⟩ : Sd)]) ?_ ?_
 ·exact ⟨some ⟨gL,0,none⟩,1,some ⟨gM,0,none⟩,1,J.sb,(by omega),rfl,(by show [l]=[clB 0];rw [gK]),(Own.of_blkL X1n aN dH rfl rfl (by decide)),(Own.of_blkL X1u aT dI rfl rfl (by decide)),g,p,x,z⟩
 rintro ⟨n,ws,L⟩ a iW ⟨cC,cD,cE,cF,J,hn,hw,hL,aU,aW,g,p,x,z⟩;refine Q5 fun _ fG=>?_;refine Zs J fun _ fH=>?_;refine Zm rfl<|Zm rfl<|Ze (X23 rfl X1e)<|Ze (X14 rfl rfl)<|Zt fH fun a J=>?_
 refine Xl J rfl (fun aH=>?_) (fun aH=>?_)
 ·have U:=aH;have aH:=Q2 aH
  obtain ⟨iX,iQ⟩:=Xq (l:=ws) (k:=n) (by omega)
  have aX:n<24:=by
   have h9:=aH
   rw [hw,X3x] at h9
   by_cases e9:n=24
   ·exfalso;rw [e9] at h9;exact absurd h9 (by decide)
   ·omega
  refine Q7<|fG _ _<|Q5 fun _ fI=>?_;refine Q8<|Zs J fun _ fJ=>?_;refine Zm rfl<|Zm rfl<|Zf (Xd (k:=2) (vs:=[.slice aA (clB (letR 0)).length aB,.slice aC (clB (letR 1)).length aD]) (zs:=[.slice aA (clB (letR 0)).length aB,.slice aC (clB (letR 1)).length aD]) rfl X1o X2j rfl rfl) ?_;rintro _ iY ⟨aJ,rfl,cW,y,f⟩;have gN:=Q0 z.size cW;have b7:=aW.away cW;have aU:=aU.below y;have aW:=aW.below y;have g:=g.below y;have p:=p.below y;have x:=(x.below y).top;have z:=btr z y;refine Ze (X23 rfl X1o)<|Zm rfl<|Zt fJ fun a J=>?_;refine Q8<|X03 (σ:=Nat×(List ByteArray)×(List Sd)) (fun (s:Nat×(List ByteArray)×(List Sd)) (a:Act) (w:World)=>match s with|(i,N,L2)=>∃ cG cH b6 b8,Fr a 80 [(4,.slice cG N.length cH),(5,.slice b6 L2.length b8),(6,.slice aA (clB (letR 0)).length aB),(7,.slice aC (clB (letR 1)).length aD),(8,vi (n:Int)),(41,.slice (some ⟨aJ,0,none⟩) ([(⟨aA,aB,(clB (letR 0))⟩ : Sd),(⟨aC,aD,(clB (letR 1))⟩ : Sd)]).length 2),(42,vi (([(⟨aA,aB,(clB (letR 0))⟩ : Sd),(⟨aC,aD,(clB (letR 1))⟩ : Sd)]).length:Int)),(43,vi (i:Int))]∧(i≤2)∧(N=wsN (ctI n i))∧(L2.map Sd.l=lsN (ctI n i))∧Blk w aJ 30 [.slice aA (clB (letR 0)).length aB,.slice aC (clB (letR 1)).length aD]∧Own w M.heap.size 9 1 encTx cG cH N∧Own w M.heap.size 30 1 encSd b6 b8 L2∧Own w M.heap.size 86 5 encD aA aB (clB (letR 0))∧Own w M.heap.size 86 5 encD aC aD (clB (letR 1))∧DeepD w w.heap.size L2∧Away b6 aJ∧Below M.heap.size M w) (fun (s:Nat×(List ByteArray)×(List Sd))=>match s with|(i,N,L2)=>2-i) (0,ws,L) ?_ ?_
  ·exact ⟨cC,cD,cE,cF,J.sb,(by omega),hw,hL,f,aU,aW,g,p,x,b7,z⟩
  rintro ⟨i,N,L2⟩ a gO ⟨cG,cH,b6,b8,J,hi,cJ,aS,f,C,t,g,p,x,E,z⟩;refine Zs J fun _ fK=>?_;refine Ze (X14 rfl rfl)<|ZX fK fun a J _ fL=>?_
  refine Xl J rfl (fun aI=>?_) (fun aI=>?_)
  ·have W:=aI;have aI:=Q2 aI
   obtain ⟨iZ,iS⟩:=Xq (l:=([(⟨aA,aB,(clB (letR 0))⟩ : Sd),(⟨aC,aD,(clB (letR 1))⟩ : Sd)])) (k:=i) (by omega)
   have cK:i<2:=by have h9:=aI;simp at h9;omega
   obtain ⟨u6,dJ⟩:=Xq (l:=[(⟨aA,aB,(clB (letR 0))⟩ : Sd),(⟨aC,aD,(clB (letR 1))⟩ : Sd)]) (k:=i) (by simp;omega)
   have cX:=Xxb dJ rfl rfl;have b9:=Xy3 aX cK
   obtain ⟨u5,dK⟩:=Xq (l:=L2) (k:=n) (by rw [X73 aS];exact b9.lt)
   have d5:=Xga aS dK
   have gQ:mulBI u6.l u5.l=some (clB (nx n (letC i))):=by rw [cX,d5];exact Xnx aX cK
   have fM:=(Xl6 aX).lt (letC i);have dL:=b9.le;have fN:=X73 aS
   have iT:N.length=ctI n i:=by rw [cJ,X3x]
   refine Q7<|fL _ _<|Q5 fun _ d6=>?_;refine Q8<|Zs J fun _ fO=>?_;refine Zm rfl<|Zi (k:=i) (u:=u6) (enc:=encSd) (l:=[(⟨aA,aB,(clB (letR 0))⟩ : Sd),(⟨aC,aD,(clB (letR 1))⟩ : Sd)]) trivial rfl rfl X1o X3g X1u (Rd.of_blk f rfl _ f.lt) dJ rfl ?_;intro j0 dM;have fP:=Xtg dJ g.rd.top p.rd.top;refine Ze (X0 rfl X0j dM)<|Za rfl<|Za rfl<|Zx fO fun a J _ fQ=>?_;refine Zm rfl<|Zm rfl<|Zm rfl<|Zi (k:=n) (u:=u5) (enc:=encSd) (l:=L2) trivial rfl rfl X1o X3g X1u t.rd dK rfl ?_;intro j1 dN;have fR:=(x u5 (Qe dK)).top;refine Ze (X0 rfl X0j dN)<|Zf (X1j (vs:=[.slice u6.A u6.l.length u6.c,.slice u5.A u5.l.length u5.c]) rfl Xd9 (by have hq:=Xl8 gO u6.A u6.c u6.l fP.top u5.A u5.c u5.l fR.top (by rw [cX];exact X3y (Xoo i)) (by rw [d5];exact X3y aX);rw [gQ,Qq,Option.isSome_some] at hq;exact hq)) ?_;rintro _ j4 ⟨H,I,rfl,q,y⟩;have q:=q.lower z.size;have f:=f.below y;have C:=C.below y;have t:=t.below y;have g:=g.below y;have p:=p.below y;have x:=(x.below y).top;have z:=btr z y;refine Zm rfl<|Ze (X2 (vs:=[.slice H (clB (nx n (letC i))).length I,.bool true]) rfl rfl)<|Ze (X2 (vs:=[.slice H (clB (nx n (letC i))).length I,.bool true]) rfl rfl)<|Zf (X4 (zs:=[.slice none 0 0]) Xx7 rfl) ?_;rintro _ j5 ⟨b55,rfl,d7,y,o⟩
   have dT:aJ≠b55:=by have:=f.lt;omega
   have dP:=Q0 z.size d7;have G:=t.away d7;have f:=f.below y;have C:=C.below y;have t:=t.below y;have g:=g.below y;have p:=p.below y;have q:=q.below y;have x:=(x.below y).top;have z:=btr z y;refine Zo (Vw [.slice H (clB (nx n (letC i))).length I] X3g o) ?_;rintro _ j6 ⟨ho,hb⟩;have aY:=o;have f:=f.only ho (by omega);have C:=C.onlyT ho aY rfl;have t:=t.onlyA ho G;have g:=g.onlyT ho aY rfl;have p:=p.onlyT ho aY rfl;have q:=q.onlyT ho aY rfl;have x:=(x.onlyT ho aY rfl).top;have z:=Below.only z ho dP;have o:=hb;refine Za rfl<|Zx fQ fun a J _ fS=>?_;refine Zm rfl<|Ze (X41 (vs:=[.pointer (some ⟨b55,0,none⟩)]) rfl)<|Zf (Vc (Xve _ b6 b8 L2 t.rd.top x.top (by rw [fN];omega) 132 [.pointer (some ⟨b55,0,none⟩)] Xqa (fun l=>decide (l=(clB (nx n (letC i))))) (fun u w1 hu fT gR=>Xvs w1 u.A u.c u.l gR (Xu1 aS dL hu) b55 H I (clB (nx n (letC i))) ((q.rd.top).below fT).top (o.below fT))) Xpf) ?_;rintro _ j7 ⟨rfl,y⟩;have f:=f.below y;have o:=o.below y;have C:=C.below y;have t:=t.below y;have g:=g.below y;have p:=p.below y;have q:=q.below y;have x:=(x.below y).top;have z:=btr z y;refine Ze (X0o rfl)<|Zt fS fun a J=>?_
   refine Xl J rfl (fun aZ=>?_) (fun aZ=>?_)
   ·have a9:=aZ
    have fU:nx n (letC i)=ctI n i:=by have h9:=aZ;rw [Xf7 aS dL fM] at h9;have:=b9.nx;simp at h9;omega
    have dQ:=b9.new fU
    have iU:ctI n i<24:=by omega
    refine X0a (fun a w=>∃ bC bD b0 bE,Fr a 80 [(4,.slice bC (N++([tx ((cw n)++([letC i]))])).length bD),(5,.slice b0 (L2++([(⟨H,I,(clB (nx n (letC i)))⟩ : Sd)])).length bE),(6,.slice aA (clB (letR 0)).length aB),(7,.slice aC (clB (letR 1)).length aD),(8,vi (n:Int)),(41,.slice (some ⟨aJ,0,none⟩) ([(⟨aA,aB,(clB (letR 0))⟩ : Sd),(⟨aC,aD,(clB (letR 1))⟩ : Sd)]).length 2),(42,vi (([(⟨aA,aB,(clB (letR 0))⟩ : Sd),(⟨aC,aD,(clB (letR 1))⟩ : Sd)]).length:Int)),(43,vi (i:Int))]∧Own w M.heap.size 9 1 encTx bC bD (N++([tx ((cw n)++([letC i]))]))∧Own w M.heap.size 30 1 encSd b0 bE (L2++([(⟨H,I,(clB (nx n (letC i)))⟩ : Sd)]))∧Away b0 aJ∧Away b0 b55∧Blk w aJ 30 [.slice aA (clB (letR 0)).length aB,.slice aC (clB (letR 1)).length aD]∧Blk w b55 30 [.slice H (clB (nx n (letC i))).length I]∧Own w M.heap.size 86 5 encD aA aB (clB (letR 0))∧Own w M.heap.size 86 5 encD aC aD (clB (letR 1))∧Own w M.heap.size 86 5 encD H I (clB (nx n (letC i)))∧DeepD w w.heap.size (L2++([(⟨H,I,(clB (nx n (letC i)))⟩ : Sd)]))∧Below M.heap.size M w) ?_ ?_
    ·refine X07 none (fun j=>[11,15].contains j) mixed ?_;intro j8 y;have f:=f.below y;have o:=o.below y;have C:=C.below y;have t:=t.below y;have g:=g.below y;have p:=p.below y;have q:=q.below y;have x:=(x.below y).top;have z:=btr z y;refine Yb J<|Yo 0 rfl (fun _=>Xb rfl)<|Yo 1 rfl (fun _=>Xb rfl)<|Yo 2 rfl (fun _=>Xb rfl)<|Yi (k:=n) (u:=tx (cw n)) (enc:=encTx) (l:=N) 3 rfl trivial rfl rfl X1e Xff X1n C.rd (by rw [cJ];exact X9a b9.lt) rfl ?_;intro j9 dR;refine Ye 4 rfl (X0 rfl X7k dR)<|Yo 5 rfl (fun _=>Xb rfl)<|Yo 6 rfl (fun _=>Xb rfl)<|Yo 7 rfl (fun _=>X01 rfl rfl (by omega) (by omega))<|Yo 8 rfl (fun _=>Xqs (s:=[72,83]) (r:=[letC i]) (k:=i) (m:=(i+1)) rfl rfl rfl Tryz.underlying9 rfl rfl (Nat.le_succ _) (by simp;omega) (Xq5 cK))<|Yo 9 rfl (fun _=>Xdy (s:=(cw n)) (r:=([letC i])) rfl rfl (by have:=(X6n aX).2;simp;omega))<|Yo 12 rfl (fun _=>Xb rfl) ?_;refine Y2 10 13 ?_ ?_
     ·refine Yk rfl trivial (Xd (k:=1) (vs:=[.string (tx ((cw n)++([letC i])))]) (zs:=[.string (tx ((cw n)++([letC i])))]) rfl X1e X4b rfl rfl) (fun _ _ ⟨_,_,_,h,_⟩=>h) ?_;rintro _ jA ⟨jB,rfl,d8,y,aE⟩;have gU:=Q0 z.size d8;have aK:=C.away d8;have f:=f.below y;have o:=o.below y;have C:=C.below y;have t:=t.below y;have g:=g.below y;have p:=p.below y;have q:=q.below y;have x:=(x.below y).top;have z:=btr z y;refine Y2 11 13 ?_ ?_
      ·refine Yt rfl trivial rfl (X0n (enc:=encTx) (l:=(N)) (l2:=([tx ((cw n)++([letC i]))])) (B0:=M.heap.size) rfl rfl X1e X4b X1n X34 C (Rd.of_blk aE rfl _ aE.lt) (by simp only [maxLen];simp;omega) (by simp;omega) z.size) ?_;rintro _ jC ⟨bC,bD,rfl,aO,B,D⟩
       have e:Own _ M.heap.size 9 1 encTx _ _ (N):=C
       have dU:=D _ aE.lt aK;clear D;have f:=f.appT e B rfl;have o:=o.appT e B rfl;have t:=t.appT e B rfl;have g:=g.appT e B rfl;have p:=p.appT e B rfl;have q:=q.appT e B rfl;have x:=(x.appT e B rfl).top;have z:=Below.app z e B (Qb _) z.size;clear e B;refine Y1 13<|Yz rfl trivial (Uev (X0 rfl X0j (o.at 0))) ?_;refine Y1 14<|Yk rfl trivial (Xd (k:=1) (vs:=[.slice H (clB (nx n (letC i))).length I]) (zs:=[.slice H (clB (nx n (letC i))).length I]) rfl X1o X2j rfl rfl) (fun _ _ ⟨_,_,_,h,_⟩=>h) ?_;rintro _ jD ⟨b63,rfl,d9,y,cM⟩
       have dW:aJ≠b63:=by have:=f.lt;omega
       have dX:b55≠b63:=by have:=o.lt;omega
       have gX:=Q0 z.size d9;have bF:=t.away d9;have f:=f.below y;have o:=o.below y;have t:=t.below y;have g:=g.below y;have p:=p.below y;have q:=q.below y;have aO:=aO.below y;have x:=(x.below y).top;have z:=btr z y;refine Y1 15<|Yt rfl trivial rfl (X0n (enc:=encSd) (l:=(L2)) (l2:=([(⟨H,I,(clB (nx n (letC i)))⟩ : Sd)])) (B0:=M.heap.size) rfl rfl X1o X2j X1u X3i t (Rd.of_blk cM rfl _ cM.lt) (by simp only [maxLen];simp;omega) (by simp;omega) z.size) ?_;rintro _ jE ⟨b0,bE,rfl,cO,B,D⟩
       have e:Own _ M.heap.size 30 1 encSd _ _ (L2):=t
       have aL:=D _ f.lt E;have aQ:=D _ o.lt G;have dY:=D _ cM.lt bF;clear D;have f:=f.appA B E;have o:=o.appA B G;have g:=g.appT e B rfl;have p:=p.appT e B rfl;have q:=q.appT e B rfl;have aO:=aO.appT e B rfl;have x:=(x.appT e B rfl).top;have z:=Below.app z e B (Qb _) z.size;clear e B
       have x:=DeepD.snoc (s:=(⟨H,I,(clB (nx n (letC i)))⟩ : Sd)) x.top q.rd.top
       refine Yo 16 rfl (fun _=>X0p rfl)<|Yo 17 rfl (fun _=>X0p rfl) ?_;refine Yd fun a J=>?_;exact ⟨bC,bD,b0,bE,J.sb,aO,cO,aL,aQ,f,o,g,p,q,x,z⟩
      refine Yz rfl trivial (Uev (X0 rfl X0j (o.at 0))) ?_;refine Y2 11 14 ?_ ?_
      ·refine Yt rfl trivial rfl (X0n (enc:=encTx) (l:=(N)) (l2:=([tx ((cw n)++([letC i]))])) (B0:=M.heap.size) rfl rfl X1e X4b X1n X34 C (Rd.of_blk aE rfl _ aE.lt) (by simp only [maxLen];simp;omega) (by simp;omega) z.size) ?_;rintro _ jF ⟨hH,hJ,rfl,b1,B,D⟩
       have e:Own _ M.heap.size 9 1 encTx _ _ (N):=C
       have e8:=D _ aE.lt aK;clear D;have f:=f.appT e B rfl;have o:=o.appT e B rfl;have t:=t.appT e B rfl;have g:=g.appT e B rfl;have p:=p.appT e B rfl;have q:=q.appT e B rfl;have x:=(x.appT e B rfl).top;have z:=Below.app z e B (Qb _) z.size;clear e B;refine Y1 14<|Yk rfl trivial (Xd (k:=1) (vs:=[.slice H (clB (nx n (letC i))).length I]) (zs:=[.slice H (clB (nx n (letC i))).length I]) rfl X1o X2j rfl rfl) (fun _ _ ⟨_,_,_,h,_⟩=>h) ?_;rintro _ jG ⟨b67,rfl,dA,y,cP⟩
       have eA:aJ≠b67:=by have:=f.lt;omega
       have eB:b55≠b67:=by have:=o.lt;omega
       have hP:=Q0 z.size dA;have bG:=t.away dA;have f:=f.below y;have o:=o.below y;have t:=t.below y;have g:=g.below y;have p:=p.below y;have q:=q.below y;have b1:=b1.below y;have x:=(x.below y).top;have z:=btr z y;refine Y1 15<|Yt rfl trivial rfl (X0n (enc:=encSd) (l:=(L2)) (l2:=([(⟨H,I,(clB (nx n (letC i)))⟩ : Sd)])) (B0:=M.heap.size) rfl rfl X1o X2j X1u X3i t (Rd.of_blk cP rfl _ cP.lt) (by simp only [maxLen];simp;omega) (by simp;omega) z.size) ?_;rintro _ jH ⟨hU,i0,rfl,fV,B,D⟩
       have e:Own _ M.heap.size 30 1 encSd _ _ (L2):=t
       have bH:=D _ f.lt E;have bI:=D _ o.lt G;have eC:=D _ cP.lt bG;clear D;have f:=f.appA B E;have o:=o.appA B G;have g:=g.appT e B rfl;have p:=p.appT e B rfl;have q:=q.appT e B rfl;have b1:=b1.appT e B rfl;have x:=(x.appT e B rfl).top;have z:=Below.app z e B (Qb _) z.size;clear e B
       have x:=DeepD.snoc (s:=(⟨H,I,(clB (nx n (letC i)))⟩ : Sd)) x.top q.rd.top
       refine Yo 16 rfl (fun _=>X0p rfl)<|Yo 17 rfl (fun _=>X0p rfl) ?_;refine Yd fun a J=>?_;exact ⟨hH,hJ,hU,i0,J.sub ⟨(by first|rfl|(simp [look,Q,U,W,a9])),(by first|rfl|(simp [look,Q,U,W,a9])),rfl,rfl,rfl,rfl,rfl,rfl,trivial⟩,b1,fV,bH,bI,f,o,g,p,q,x,z⟩
      refine Yk rfl trivial (Xd (k:=1) (vs:=[.slice H (clB (nx n (letC i))).length I]) (zs:=[.slice H (clB (nx n (letC i))).length I]) rfl X1o X2j rfl rfl) (fun _ _ ⟨_,_,_,h,_⟩=>h) ?_;rintro _ jI ⟨b70,rfl,dB,y,b2⟩
      have eD:aJ≠b70:=by have:=f.lt;omega
      have eE:b55≠b70:=by have:=o.lt;omega
      have i1:=Q0 z.size dB;have bJ:=t.away dB;have f:=f.below y;have o:=o.below y;have aE:=aE.below y;have C:=C.below y;have t:=t.below y;have g:=g.below y;have p:=p.below y;have q:=q.below y;have x:=(x.below y).top;have z:=btr z y;refine Y1 11<|Yt rfl trivial rfl (X0n (enc:=encTx) (l:=(N)) (l2:=([tx ((cw n)++([letC i]))])) (B0:=M.heap.size) rfl rfl X1e X4b X1n X34 C (Rd.of_blk aE rfl _ aE.lt) (by simp only [maxLen];simp;omega) (by simp;omega) z.size) ?_;rintro _ jJ ⟨i3,i4,rfl,cQ,B,D⟩
      have e:Own _ M.heap.size 9 1 encTx _ _ (N):=C
      have eF:=D _ aE.lt aK;clear D;have f:=f.appT e B rfl;have o:=o.appT e B rfl;have b2:=b2.appT e B rfl;have t:=t.appT e B rfl;have g:=g.appT e B rfl;have p:=p.appT e B rfl;have q:=q.appT e B rfl;have x:=(x.appT e B rfl).top;have z:=Below.app z e B (Qb _) z.size;clear e B;refine Y1 15<|Yt rfl trivial rfl (X0n (enc:=encSd) (l:=(L2)) (l2:=([(⟨H,I,(clB (nx n (letC i)))⟩ : Sd)])) (B0:=M.heap.size) rfl rfl X1o X2j X1u X3i t (Rd.of_blk b2 rfl _ b2.lt) (by simp only [maxLen];simp;omega) (by simp;omega) z.size) ?_;rintro _ jK ⟨i5,i6,rfl,fW,B,D⟩
      have e:Own _ M.heap.size 30 1 encSd _ _ (L2):=t
      have bK:=D _ f.lt E;have bL:=D _ o.lt G;have eH:=D _ b2.lt bJ;clear D;have f:=f.appA B E;have o:=o.appA B G;have g:=g.appT e B rfl;have p:=p.appT e B rfl;have q:=q.appT e B rfl;have cQ:=cQ.appT e B rfl;have x:=(x.appT e B rfl).top;have z:=Below.app z e B (Qb _) z.size;clear e B
      have x:=DeepD.snoc (s:=(⟨H,I,(clB (nx n (letC i)))⟩ : Sd)) x.top q.rd.top
      refine Yo 16 rfl (fun _=>X0p rfl)<|Yo 17 rfl (fun _=>X0p rfl) ?_;refine Yd fun a J=>?_;exact ⟨i3,i4,i5,i6,J.sub ⟨(by first|rfl|(simp [look,Q,U,W,a9])),(by first|rfl|(simp [look,Q,U,W,a9])),rfl,rfl,rfl,rfl,rfl,rfl,trivial⟩,cQ,fW,bK,bL,f,o,g,p,q,x,z⟩
     refine Yz rfl trivial (Uev (X0 rfl X0j (o.at 0))) ?_;refine Y2 10 14 ?_ ?_
     ·refine Yk rfl trivial (Xd (k:=1) (vs:=[.string (tx ((cw n)++([letC i])))]) (zs:=[.string (tx ((cw n)++([letC i])))]) rfl X1e X4b rfl rfl) (fun _ _ ⟨_,_,_,h,_⟩=>h) ?_;rintro _ jL ⟨jM,rfl,dC,y,aM⟩;have i7:=Q0 z.size dC;have aR:=C.away dC;have f:=f.below y;have o:=o.below y;have C:=C.below y;have t:=t.below y;have g:=g.below y;have p:=p.below y;have q:=q.below y;have x:=(x.below y).top;have z:=btr z y;refine Y2 11 14 ?_ ?_
      ·refine Yt rfl trivial rfl (X0n (enc:=encTx) (l:=(N)) (l2:=([tx ((cw n)++([letC i]))])) (B0:=M.heap.size) rfl rfl X1e X4b X1n X34 C (Rd.of_blk aM rfl _ aM.lt) (by simp only [maxLen];simp;omega) (by simp;omega) z.size) ?_;rintro _ jN ⟨i8,i9,rfl,b3,B,D⟩
       have e:Own _ M.heap.size 9 1 encTx _ _ (N):=C
       have eI:=D _ aM.lt aR;clear D;have f:=f.appT e B rfl;have o:=o.appT e B rfl;have t:=t.appT e B rfl;have g:=g.appT e B rfl;have p:=p.appT e B rfl;have q:=q.appT e B rfl;have x:=(x.appT e B rfl).top;have z:=Below.app z e B (Qb _) z.size;clear e B;refine Y1 14<|Yk rfl trivial (Xd (k:=1) (vs:=[.slice H (clB (nx n (letC i))).length I]) (zs:=[.slice H (clB (nx n (letC i))).length I]) rfl X1o X2j rfl rfl) (fun _ _ ⟨_,_,_,h,_⟩=>h) ?_;rintro _ jO ⟨b77,rfl,dD,y,cR⟩
       have eJ:aJ≠b77:=by have:=f.lt;omega
       have eK:b55≠b77:=by have:=o.lt;omega
       have iA:=Q0 z.size dD;have bM:=t.away dD;have f:=f.below y;have o:=o.below y;have t:=t.below y;have g:=g.below y;have p:=p.below y;have q:=q.below y;have b3:=b3.below y;have x:=(x.below y).top;have z:=btr z y;refine Y1 15<|Yt rfl trivial rfl (X0n (enc:=encSd) (l:=(L2)) (l2:=([(⟨H,I,(clB (nx n (letC i)))⟩ : Sd)])) (B0:=M.heap.size) rfl rfl X1o X2j X1u X3i t (Rd.of_blk cR rfl _ cR.lt) (by simp only [maxLen];simp;omega) (by simp;omega) z.size) ?_;rintro _ jP ⟨iB,iC,rfl,fX,B,D⟩
       have e:Own _ M.heap.size 30 1 encSd _ _ (L2):=t
       have bN:=D _ f.lt E;have bO:=D _ o.lt G;have eL:=D _ cR.lt bM;clear D;have f:=f.appA B E;have o:=o.appA B G;have g:=g.appT e B rfl;have p:=p.appT e B rfl;have q:=q.appT e B rfl;have b3:=b3.appT e B rfl;have x:=(x.appT e B rfl).top;have z:=Below.app z e B (Qb _) z.size;clear e B
       have x:=DeepD.snoc (s:=(⟨H,I,(clB (nx n (letC i)))⟩ : Sd)) x.top q.rd.top
       refine Yo 16 rfl (fun _=>X0p rfl)<|Yo 17 rfl (fun _=>X0p rfl) ?_;refine Yd fun a J=>?_;exact ⟨i8,i9,iB,iC,J.sub ⟨(by first|rfl|(simp [look,Q,U,W,a9])),(by first|rfl|(simp [look,Q,U,W,a9])),rfl,rfl,rfl,rfl,rfl,rfl,trivial⟩,b3,fX,bN,bO,f,o,g,p,q,x,z⟩
      refine Yk rfl trivial (Xd (k:=1) (vs:=[.slice H (clB (nx n (letC i))).length I]) (zs:=[.slice H (clB (nx n (letC i))).length I]) rfl X1o X2j rfl rfl) (fun _ _ ⟨_,_,_,h,_⟩=>h) ?_;rintro _ jQ ⟨b80,rfl,dE,y,b4⟩
      have eM:aJ≠b80:=by have:=f.lt;omega
      have eO:b55≠b80:=by have:=o.lt;omega
      have iD:=Q0 z.size dE;have bP:=t.away dE;have f:=f.below y;have o:=o.below y;have aM:=aM.below y;have C:=C.below y;have t:=t.below y;have g:=g.below y;have p:=p.below y;have q:=q.below y;have x:=(x.below y).top;have z:=btr z y;refine Y1 11<|Yt rfl trivial rfl (X0n (enc:=encTx) (l:=(N)) (l2:=([tx ((cw n)++([letC i]))])) (B0:=M.heap.size) rfl rfl X1e X4b X1n X34 C (Rd.of_blk aM rfl _ aM.lt) (by simp only [maxLen];simp;omega) (by simp;omega) z.size) ?_;rintro _ jR ⟨iE,iF,rfl,cS,B,D⟩
      have e:Own _ M.heap.size 9 1 encTx _ _ (N):=C
      have eP:=D _ aM.lt aR;clear D;have f:=f.appT e B rfl;have o:=o.appT e B rfl;have b4:=b4.appT e B rfl;have t:=t.appT e B rfl;have g:=g.appT e B rfl;have p:=p.appT e B rfl;have q:=q.appT e B rfl;have x:=(x.appT e B rfl).top;have z:=Below.app z e B (Qb _) z.size;clear e B;refine Y1 15<|Yt rfl trivial rfl (X0n (enc:=encSd) (l:=(L2)) (l2:=([(⟨H,I,(clB (nx n (letC i)))⟩ : Sd)])) (B0:=M.heap.size) rfl rfl X1o X2j X1u X3i t (Rd.of_blk b4 rfl _ b4.lt) (by simp only [maxLen];simp;omega) (by simp;omega) z.size) ?_;rintro _ jS ⟨iG,iH,rfl,fY,B,D⟩
      have e:Own _ M.heap.size 30 1 encSd _ _ (L2):=t
      have bQ:=D _ f.lt E;have bR:=D _ o.lt G;have eQ:=D _ b4.lt bP;clear D;have f:=f.appA B E;have o:=o.appA B G;have g:=g.appT e B rfl;have p:=p.appT e B rfl;have q:=q.appT e B rfl;have cS:=cS.appT e B rfl;have x:=(x.appT e B rfl).top;have z:=Below.app z e B (Qb _) z.size;clear e B
      have x:=DeepD.snoc (s:=(⟨H,I,(clB (nx n (letC i)))⟩ : Sd)) x.top q.rd.top
      refine Yo 16 rfl (fun _=>X0p rfl)<|Yo 17 rfl (fun _=>X0p rfl) ?_;refine Yd fun a J=>?_;exact ⟨iE,iF,iG,iH,J.sub ⟨(by first|rfl|(simp [look,Q,U,W,a9])),(by first|rfl|(simp [look,Q,U,W,a9])),rfl,rfl,rfl,rfl,rfl,rfl,trivial⟩,cS,fY,bQ,bR,f,o,g,p,q,x,z⟩
     refine Yk rfl trivial (Xd (k:=1) (vs:=[.slice H (clB (nx n (letC i))).length I]) (zs:=[.slice H (clB (nx n (letC i))).length I]) rfl X1o X2j rfl rfl) (fun _ _ ⟨_,_,_,h,_⟩=>h) ?_;rintro _ jT ⟨b84,rfl,dF,y,aP⟩
     have eR:aJ≠b84:=by have:=f.lt;omega
     have eS:b55≠b84:=by have:=o.lt;omega
     have iI:=Q0 z.size dF;have bS:=t.away dF;have f:=f.below y;have o:=o.below y;have C:=C.below y;have t:=t.below y;have g:=g.below y;have p:=p.below y;have q:=q.below y;have x:=(x.below y).top;have z:=btr z y;refine Y1 10<|Yk rfl trivial (Xd (k:=1) (vs:=[.string (tx ((cw n)++([letC i])))]) (zs:=[.string (tx ((cw n)++([letC i])))]) rfl X1e X4b rfl rfl) (fun _ _ ⟨_,_,_,h,_⟩=>h) ?_;rintro _ jU ⟨jV,rfl,dG,y,cT⟩;have iJ:=Q0 z.size dG;have bU:=C.away dG;have f:=f.below y;have o:=o.below y;have aP:=aP.below y;have C:=C.below y;have t:=t.below y;have g:=g.below y;have p:=p.below y;have q:=q.below y;have x:=(x.below y).top;have z:=btr z y;refine Y1 11<|Yt rfl trivial rfl (X0n (enc:=encTx) (l:=(N)) (l2:=([tx ((cw n)++([letC i]))])) (B0:=M.heap.size) rfl rfl X1e X4b X1n X34 C (Rd.of_blk cT rfl _ cT.lt) (by simp only [maxLen];simp;omega) (by simp;omega) z.size) ?_;rintro _ jW ⟨iK,iM,rfl,cU,B,D⟩
     have e:Own _ M.heap.size 9 1 encTx _ _ (N):=C
     have eT:=D _ cT.lt bU;clear D;have f:=f.appT e B rfl;have o:=o.appT e B rfl;have aP:=aP.appT e B rfl;have t:=t.appT e B rfl;have g:=g.appT e B rfl;have p:=p.appT e B rfl;have q:=q.appT e B rfl;have x:=(x.appT e B rfl).top;have z:=Below.app z e B (Qb _) z.size;clear e B;refine Y1 15<|Yt rfl trivial rfl (X0n (enc:=encSd) (l:=(L2)) (l2:=([(⟨H,I,(clB (nx n (letC i)))⟩ : Sd)])) (B0:=M.heap.size) rfl rfl X1o X2j X1u X3i t (Rd.of_blk aP rfl _ aP.lt) (by simp only [maxLen];simp;omega) (by simp;omega) z.size) ?_;rintro _ jX ⟨iN,iO,rfl,fZ,B,D⟩
     have e:Own _ M.heap.size 30 1 encSd _ _ (L2):=t
     have bW:=D _ f.lt E;have bZ:=D _ o.lt G;have eU:=D _ aP.lt bS;clear D;have f:=f.appA B E;have o:=o.appA B G;have g:=g.appT e B rfl;have p:=p.appT e B rfl;have q:=q.appT e B rfl;have cU:=cU.appT e B rfl;have x:=(x.appT e B rfl).top;have z:=Below.app z e B (Qb _) z.size;clear e B
     have x:=DeepD.snoc (s:=(⟨H,I,(clB (nx n (letC i)))⟩ : Sd)) x.top q.rd.top
     refine Yo 16 rfl (fun _=>X0p rfl)<|Yo 17 rfl (fun _=>X0p rfl) ?_;refine Yd fun a J=>?_;exact ⟨iK,iM,iN,iO,J.sub ⟨(by first|rfl|(simp [look,Q,U,W,a9])),(by first|rfl|(simp [look,Q,U,W,a9])),rfl,rfl,rfl,rfl,rfl,rfl,trivial⟩,cU,fZ,bW,bZ,f,o,g,p,q,x,z⟩
    rintro a jY ⟨bC,bD,b0,bE,J,aO,cO,aL,aQ,f,o,g,p,q,x,z⟩;refine Xn<|d6 _ _<|Zr J<|Ze (X01 rfl rfl (by omega) (by omega))<|Zm rfl ?_;refine Zn fun a J=>?_;refine Xm ?_;exact ⟨(i+1,N++([tx ((cw n)++([letC i]))]),L2++([(⟨H,I,(clB (nx n (letC i)))⟩ : Sd)])),⟨bC,bD,b0,bE,J.sb,(by omega),(by rw [dQ.1,Xe5,← cJ,dQ.2]),(by rw [List.map_append,aS,dQ.1,Xdu,← fU];rfl),f,aO,cO,g,p,x,aL,z⟩,(by first|omega|(dsimp only;omega))⟩
   have a9:=aZ
   have g7:=b9.old (by have h9:=aZ;rw [Xf7 aS dL fM] at h9;simp at h9;omega)
   refine Q7<|Xn<|d6 _ _<|Zr J ?_;refine Ze (X01 rfl rfl (by omega) (by omega))<|Zm rfl ?_;refine Zn fun a J=>?_;refine Xm ?_;exact ⟨(i+1,N,L2),⟨cG,cH,b6,b8,J.sb,(by omega),(by rw [g7,cJ]),(by rw [g7,aS]),f,C,t,g,p,x,E,z⟩,(by first|omega|(dsimp only;omega))⟩
  have W:=aI;have aI:=Q1 aI
  have cK:i=2:=by have h9:=aI;simp at h9;omega
  subst cK
  refine Q9<|Xk<|Xk<|X05 ?_;refine Xn<|fI _ _<|Zr J<|Zm rfl<|Ze (X01 rfl rfl (by omega) (by omega))<|Za rfl ?_;refine Zn fun a J=>?_;refine Xm ?_;exact ⟨(n+1,N,L2),⟨cG,cH,b6,b8,J.sb,(by omega),cJ,aS,C,t,g,p,x,z⟩,(by first|omega|(dsimp only;omega))⟩
 have U:=aH;have aH:=Q1 aH
 have iP:n=24:=by have h9:=aH;rw [hw,X3x] at h9;by_cases e9:n<24;(have:=Xpm e9;omega);omega
 refine Q9<|Xk<|Xk<|X05 ?_;refine fE _ _<|Zs J fun _ g8=>?_;refine Zm rfl<|Zm rfl<|Za rfl<|Za rfl<|Zt g8 fun a J=>?_
 refine Q6 (X3 J (X0r J rfl rfl rfl) ?_)
 rw [iP] at hw hL
 rw [hw]
 rw [hw] at aU
 exact ⟨cC,cD,cE,cF,L,rfl,aU,aW,hL,x.top,z⟩
theorem Xr7(E:World) : Ret Tryz.prog 82 [] E (fun v w=>∃ (A:Option Addr) (c:Nat),v=.slice A (wsN 24).length c∧Own w E.heap.size 9 1 encTx A c (wsN 24)∧Below E.heap.size E w):=by
 refine enter Tryz.func82 rfl 61 rfl rfl ?_;intro a n
 have y:=bz E
 refine Zs n fun _ dQ=>?_;refine Za rfl<|Zx dQ fun a n _ dR=>?_;refine Za rfl<|Zx dR fun a n _ dS=>?_;refine Za rfl<|Zx dS fun a n _ dT=>?_;refine Zf (Xd (k:=1) (vs:=[.string (tx [])]) (zs:=[.string (tx [])]) rfl X1e X4b rfl rfl) ?_;rintro _ w1 ⟨b8,rfl,dU,j,dW⟩;have cO:=Q0 y.size dU;have y:=btr y j;refine Za rfl<|ZX dT fun a n _ cP=>?_;refine Q8 ?_
 have f:DeepD w1 w1.heap.size []:=DeepD.nil _ _
 refine X03 (σ:=Nat×(List ByteArray)×(List Sd)×(List ByteArray)) (fun (s:Nat×(List ByteArray)×(List Sd)×(List ByteArray)) (a:Act) (w:World)=>match s with|(T,ws,L,vv)=>∃ aU b4 bF bG J aJ,Fr a 61 [(1,.slice aU ws.length b4),(2,.slice bF L.length bG),(3,.slice J vv.length aJ)]∧(T<49)∧(ctC T≤24)∧(ws=wsN (ctC T))∧(L.map Sd.l=lsN (ctC T))∧(vv=cdL T (1+2*ctC T))∧Own w E.heap.size 9 1 encTx aU b4 ws∧Own w E.heap.size 66 1 encSd bF bG L∧Own w E.heap.size 9 1 encTx J aJ vv∧DeepD w w.heap.size L∧Apart aU J∧Below E.heap.size E w) (fun (s:Nat×(List ByteArray)×(List Sd)×(List ByteArray))=>match s with|(T,ws,L,vv)=>50-T) (0,[],[],[tx []]) ?_ ?_
 ·exact ⟨none,0,none,0,some ⟨b8,0,none⟩,1,n.sb,(by omega),(by decide),rfl,rfl,rfl,(Own.nil _ _ _ _ _),(Own.nil _ _ _ _ _),(Own.of_blkL X1n dW cO rfl rfl (by decide)),f,(Apart.nl _),y⟩
 rintro ⟨T,ws,L,vv⟩ a w2 ⟨aU,b4,bF,bG,J,aJ,n,hT,dX,hw,hL,hv,bK,cQ,b,f,aW,y⟩;refine Q5 fun _ cR=>?_;refine Zs n fun _ cS=>?_;refine Zm rfl<|Ze (X23 rfl X1e)<|Ze (X14 rfl rfl)<|Zt cS fun a n=>?_
 refine Xl n rfl (fun G=>?_) (fun G=>?_)
 ·have aA:=G;have G:=Q2 G
  have b5:ctC T<24:=by have h9:=G;rw [hw,X3x] at h9;omega
  have eR:=Xxe hT b5;refine Q7<|cR _ _<|Q8<|Zs n fun _ cT=>?_;refine Za rfl<|ZX cT fun a n _ cU=>?_;refine Zs n fun _ cV=>?_;refine Zm rfl<|Ze (X23 rfl X1e)<|Zm rfl<|Zt cV fun a n=>?_;refine Q8<|X03 (σ:=Nat×(List ByteArray)×(List Sd)×(List ByteArray)) (fun (s:Nat×(List ByteArray)×(List Sd)×(List ByteArray)) (a:Act) (w:World)=>match s with|(q,H,L2,x2)=>∃ U aK aF aG W aL,Fr a 61 [(1,.slice U H.length aK),(2,.slice aF L2.length aG),(4,.slice W x2.length aL),(16,.slice J vv.length aJ),(17,vi (vv.length:Int)),(18,vi (q:Int))]∧(q≤1+2*ctC T-T)∧(H=wsN (ctC (T+q)))∧(L2.map Sd.l=lsN (ctC (T+q)))∧(x2=cdL (1+2*ctC T) (1+2*ctC (T+q)))∧(ctC (T+q)≤24)∧(ctC T≤ctC (T+q))∧Own w E.heap.size 9 1 encTx U aK H∧Own w E.heap.size 66 1 encSd aF aG L2∧Own w E.heap.size 9 1 encTx W aL x2∧Own w E.heap.size 9 1 encTx J aJ vv∧DeepD w w.heap.size L2∧Apart J U∧Apart J W∧Apart U W∧Below E.heap.size E w) (fun (s:Nat×(List ByteArray)×(List Sd)×(List ByteArray))=>match s with|(q,H,L2,x2)=>1+2*ctC T-T-q) (0,ws,L,[]) ?_ ?_
  ·exact ⟨aU,b4,bF,bG,none,0,n.sb,(Qf _),hw,hL,(by show []=cdL (1+2*ctC T) (1+2*ctC T);unfold cdL;rw [Nat.sub_self];rfl),dX,(Qb _),bK,cQ,(Own.nil _ _ _ _ _),b,f,aW.symm,(Apart.nr _),(Apart.nr _),y⟩
  rintro ⟨q,H,L2,x2⟩ a w3 ⟨U,aK,aF,aG,W,aL,n,hq,bH,aQ,b6,dY,eL,i,e,d,b,f,z,h,x,y⟩;refine Zs n fun _ cW=>?_;refine Ze (X14 rfl rfl)<|ZX cW fun a n _ cX=>?_
  refine Xl n rfl (fun I=>?_) (fun I=>?_)
  ·have aB:=I;have I:=Q2 I
   obtain ⟨eS,eM⟩:=Xq (l:=vv) (k:=q) (by omega)
   have e8:q<1+2*ctC T-T:=by have h9:=I;rw [hv,Xcu] at h9;omega
   have a9:=Xoh (t:=(T+q)) (by omega)
   have d5:=Xml (t:=(T+q)) (by omega)
   have eO:H.length=ctC (T+q):=by rw [bH,X3x]
   have eP:=X73 aQ
   have eQ:x2.length≤100:=by rw [b6,Xcu];have:=a9.le;omega
   have eA:=a9.le;refine Q7<|cX _ _<|Q5 fun _ bL=>?_;refine Q8<|Zs n fun _ d6=>?_;refine Zi (k:=q) (u:=tx (cdW (T+q))) (enc:=encTx) (l:=vv) trivial rfl rfl X1e Xff X1n b.rd (by rw [hv];exact Xnk (by omega)) rfl ?_;intro eT bQ;refine Ze (X0 rfl X7k bQ)<|Za rfl<|Zx d6 fun a n _ d7=>?_;refine Zm rfl<|Zf (Vc (Xqp _ (cdW (T+q)) a9.len) Xh1) ?_;rintro _ w4 ⟨d8,d9,rfl,dA,j⟩;have i:=i.below j;have e:=e.below j;have d:=d.below j;have b:=b.below j;have f:=(f.below j).top;have y:=btr y j;refine Zf (X1j (vs:=[.agg #[vi ((opM (wdG (cdW (T+q)))).rows),vi ((opM (wdG (cdW (T+q)))).cols),.slice d8 ((opM (wdG (cdW (T+q)))).cells).length d9]]) rfl X9g (by have hq:=Xgb w4 (opM (wdG (cdW (T+q)))) d8 d9 dA.top (X89 a9.bl);rw [a9.bl,Qq,Option.isSome_some] at hq;exact hq)) ?_;rintro _ w5 ⟨aC,aD,rfl,g,j⟩;have g:=g.lower y.size;have i:=i.below j;have e:=e.below j;have d:=d.below j;have b:=b.below j;have f:=(f.below j).top;have y:=btr y j;refine Zm rfl<|Ze (X2 (vs:=[.agg #[.slice aC (clB (cdB (T+q))).length aD],.bool true]) rfl rfl)<|Ze (X2 (vs:=[.agg #[.slice aC (clB (cdB (T+q))).length aD],.bool true]) rfl rfl)<|Zf (X4 (zs:=[.slice none 0 0]) X22 rfl) ?_;rintro _ w6 ⟨b7,rfl,bM,j,m⟩;have bR:=Q0 y.size bM;have aH:=e.away bM;have i:=i.below j;have e:=e.below j;have d:=d.below j;have b:=b.below j;have g:=g.below j;have f:=(f.below j).top;have y:=btr y j;refine Zo (Vw [.slice aC (clB (cdB (T+q))).length aD] X1i m) ?_;rintro _ w7 ⟨ho,hb⟩
   have C:=m;have i:=i.onlyT ho C rfl;have e:=e.onlyA ho aH;have d:=d.onlyT ho C rfl;have b:=b.onlyT ho C rfl;have g:=g.onlyT ho C rfl;have f:=(f.onlyT ho C rfl).top;have y:=Below.only y ho bR;have m:=hb;refine Za rfl<|Zx d7 fun a n _ dB=>?_;refine Za rfl<|ZX dB fun a n _ dC=>?_;refine Zs n fun _ dD=>?_;refine Zm rfl<|Ze (X23 rfl X98)<|Zm rfl<|Zt dD fun a n=>?_;refine Q8<|X03 (σ:=Nat×Bool) (fun (s:Nat×Bool) (a:Act) (w:World)=>match s with|(p,kn)=>Fr a 61 [(1,.slice U H.length aK),(2,.slice aF L2.length aG),(4,.slice W x2.length aL),(6,.string (tx (cdW (T+q)))),(7,.pointer (some ⟨b7,0,none⟩)),(9,.bool kn),(16,.slice J vv.length aJ),(17,vi (vv.length:Int)),(18,vi (q:Int)),(28,.slice aF L2.length aG),(29,vi (L2.length:Int)),(30,vi (p:Int))]∧(p≤L2.length)∧(kn=(L2.take p).any (fun s=>decide (s.l=clB (cdB (T+q)))))∧Blk w b7 66 [.slice aC (clB (cdB (T+q))).length aD]∧Own w E.heap.size 9 1 encTx U aK H∧Own w E.heap.size 66 1 encSd aF aG L2∧Own w E.heap.size 9 1 encTx W aL x2∧Own w E.heap.size 9 1 encTx J aJ vv∧Own w E.heap.size 86 5 encD aC aD (clB (cdB (T+q)))∧DeepD w w.heap.size L2∧Apart J U∧Apart J W∧Apart U W∧Below E.heap.size E w) (fun (s:Nat×Bool)=>match s with|(p,kn)=>L2.length-p) (0,false) ?_ ?_
   ·exact ⟨n.sb,(Qf _),rfl,m,i,e,d,b,g,f,z,h,x,y⟩
   rintro ⟨p,kn⟩ a w8 ⟨n,hp,dE,m,i,e,d,b,g,f,z,h,x,y⟩;refine Zs n fun _ dF=>?_;refine Ze (X14 rfl rfl)<|ZX dF fun a n _ dG=>?_
   refine Xl n rfl (fun Q=>?_) (fun Q=>?_)
   ·have aE:=Q;have Q:=Q2 Q
    obtain ⟨M,aM⟩:=Xq (l:=L2) (k:=p) (by omega)
    have eU:p<ctC (T+q):=by have h9:=Q;omega
    refine Q7<|dG _ _<|Q5 fun _ dH=>?_;refine Q8<|Zs n fun _ dI=>?_;refine Zi (k:=p) (u:=M) (enc:=encSd) (l:=L2) trivial rfl rfl X98 X1i X1u e.rd aM rfl ?_;intro eV bS;have aN:=(f M (Qe aM)).top;refine Ze (Xy (l:=[.slice M.A M.l.length M.c]) rfl X16 bS rfl)<|Zf (X4 (zs:=[.slice none 0 0]) X22 rfl) ?_;rintro _ w9 ⟨b50,rfl,bN,j,aR⟩
    have cB:b7≠b50:=by have:=m.lt;omega
    have bU:=Q0 y.size bN;have aX:=e.away bN;have m:=m.below j;have i:=i.below j;have e:=e.below j;have d:=d.below j;have b:=b.below j;have g:=g.below j;have aN:=aN.below j;have f:=(f.below j).top;have y:=btr y j;refine Zo (Vw [.slice M.A M.l.length M.c] X1i aR) ?_;rintro _ w10 ⟨ho,hb⟩;have C:=aR;have m:=m.only ho (by omega);have i:=i.onlyT ho C rfl;have e:=e.onlyA ho aX;have d:=d.onlyT ho C rfl;have b:=b.onlyT ho C rfl;have g:=g.onlyT ho C rfl;have aN:=aN.onlyT ho C rfl;have f:=(f.onlyT ho C rfl).top;have y:=Below.only y ho bU;have aR:=hb;refine Zt dI fun a n=>?_;refine X0a (fun a w=>Fr a 61 [(1,.slice U H.length aK),(2,.slice aF L2.length aG),(4,.slice W x2.length aL),(6,.string (tx (cdW (T+q)))),(7,.pointer (some ⟨b7,0,none⟩)),(9,.bool (kn||(decide (M.l=(clB (cdB (T+q))))))),(16,.slice J vv.length aJ),(17,vi (vv.length:Int)),(18,vi (q:Int)),(28,.slice aF L2.length aG),(29,vi (L2.length:Int)),(30,vi (p:Int))]∧Below w10.heap.size w10 w) ?_ ?_
    ·have bI:Below w10.heap.size w10 w10:=Below.refl _ _
     refine Zr n<|Zm rfl<|Zm rfl ?_
     refine Zg 35 rfl (fun B=>?_) (fun B=>?_)
     ·refine Zp (gP B) ?_;refine Zp (gP B) ?_;refine Zp (gP B) ?_;refine Ze (Xh rfl B rfl)<|Za rfl ?_;refine Zn fun a n=>?_
      have bW:Below w10.heap.size w10 w10:=bI
      exact ⟨n.sub ⟨rfl,rfl,rfl,rfl,rfl,X1 rfl (by first|rfl|(simp only [aA,aB,aE,B,bs];done)|simp [aA,aB,aE,B]),rfl,rfl,rfl,rfl,rfl,rfl,trivial⟩,bW⟩
     refine Zv (gW B) (Vn X16 aR) ?_;refine Zv (gW B) (Vn X16 m) ?_;refine Zk (gW B) (Vc (Xrl _ M.A M.c M.l aN.top aC aD (clB (cdB (T+q))) g.rd.top (by rw [Xga aQ aM,X3y (by omega),X3y a9.lt]) (by rw [Xga aQ aM,X3y (by omega)];decide)) Xge) ?_;rintro _ w11 ⟨rfl,j⟩;have f:=(f.below j).top;have y:=btr y j;have bI:=btr bI j;refine Ze (Xf rfl B rfl)<|Za rfl ?_;refine Zn fun a n=>?_
     have bW:Below w10.heap.size w10 w11:=bI
     exact ⟨n.sub ⟨rfl,rfl,rfl,rfl,rfl,X1 rfl (by first|rfl|(simp only [aA,aB,aE,B,bs];done)|simp [aA,aB,aE,B]),rfl,rfl,rfl,rfl,rfl,rfl,trivial⟩,bW⟩
    rintro a eW ⟨n,j⟩;have m:=m.below j;have i:=i.below j;have e:=e.below j;have d:=d.below j;have b:=b.below j;have g:=g.below j;have f:=(f.below j).top;have y:=btr y j;refine Xn<|dH _ _<|Zr n<|Ze (X01 rfl rfl (by omega) (by omega))<|Zm rfl ?_;refine Zn fun a n=>?_;refine Xm ?_;exact ⟨(p+1,kn||(decide (M.l=(clB (cdB (T+q)))))),⟨n.sb,(by omega),(by rw [dE,Xti aM]),m,i,e,d,b,g,f,z,h,x,y⟩,(by first|omega|(dsimp only;omega))⟩
   have aE:=Q;have Q:=Q1 Q
   have bO:kn=decide (cdB (T+q)<ctC (T+q)):=by rw [dE,Qi (by omega),Xf7 aQ eA a9.lt]
   refine Q9<|Xk<|Xk<|X05 ?_;refine dC _ _<|Zs n fun _ dJ=>?_;refine Zm rfl<|Ze (X0o rfl)<|Zt dJ fun a n=>?_
   refine Xl n rfl (fun aO=>?_) (fun aO=>?_)
   ·have bZ:=aO
    have dK:cdB (T+q)=ctC (T+q):=by have h9:=aO;rw [bO] at h9;have:=a9.nx;simp at h9;omega
    have b9:=a9.new dK;refine Zs n fun _ dL=>?_;refine Zm rfl<|Zm rfl<|Zf (Xd (k:=1) (vs:=[.string (tx (cdW (T+q)))]) (zs:=[.string (tx (cdW (T+q)))]) rfl X1e X4b rfl rfl) ?_;rintro _ eX ⟨eY,rfl,aS,j,bC⟩;have eB:=Q0 y.size aS;have aY:=i.away aS;have cC:=d.away aS;have cD:=b.away aS;have m:=m.below j;have i:=i.below j;have e:=e.below j;have d:=d.below j;have b:=b.below j;have g:=g.below j;have f:=(f.below j).top;have y:=btr y j;refine Zf (X0n (enc:=encTx) (l:=(H)) (l2:=([tx (cdW (T+q))])) (B0:=E.heap.size) rfl rfl X1e X4b X1n X34 i (Rd.of_blk bC rfl _ bC.lt) (by simp only [maxLen];simp;omega) (by simp;omega) y.size) ?_;rintro _ eZ ⟨eC,eD,rfl,D,hg,N⟩
    have o:Own _ E.heap.size 9 1 encTx _ _ (H):=i
    have cE:=N _ bC.lt aY;have aZ:=Apart.app b z N;have aI:=Apart.app d x.symm N;clear N;have m:=m.appT o hg rfl;have e:=e.appT o hg rfl;have d:=d.appP hg x.symm;have b:=b.appP hg z;have g:=g.appT o hg rfl;have f:=(f.appT o hg rfl).top;have y:=Below.app y o hg (Qb _) y.size;clear o hg;refine Za rfl<|Zx dL fun a n _ dM=>?_;refine Zm rfl<|Ze (Vn X16 m)<|Zf (Xd (k:=1) (vs:=[.agg #[.slice aC (clB (cdB (T+q))).length aD]]) (zs:=[.slice aC (clB (cdB (T+q))).length aD]) rfl X98 Xej rfl rfl) ?_;rintro _ f7 ⟨b59,rfl,bP,j,bD⟩
    have cF:b7≠b59:=by have:=m.lt;omega
    have eE:=Q0 y.size bP;have b0:=e.away bP;have m:=m.below j;have e:=e.below j;have d:=d.below j;have b:=b.below j;have g:=g.below j;have D:=D.below j;have f:=(f.below j).top;have y:=btr y j;refine Zf (X0n (enc:=encSd) (l:=(L2)) (l2:=([(⟨aC,aD,(clB (cdB (T+q)))⟩ : Sd)])) (B0:=E.heap.size) rfl rfl X98 Xej X1u X3i e (Rd.of_blk bD rfl _ bD.lt) (by simp only [maxLen];simp;omega) (by simp;omega) y.size) ?_;rintro _ f8 ⟨eF,eH,rfl,aP,hg,N⟩
    have o:Own _ E.heap.size 66 1 encSd _ _ (L2):=e
    have cG:=N _ m.lt aH;have cH:=N _ bD.lt b0;clear N;have d:=d.appT o hg rfl;have b:=b.appT o hg rfl;have g:=g.appT o hg rfl;have D:=D.appT o hg rfl;have f:=(f.appT o hg rfl).top;have y:=Below.app y o hg (Qb _) y.size;clear o hg
    have f:=DeepD.snoc (s:=(⟨aC,aD,(clB (cdB (T+q)))⟩ : Sd)) f.top g.rd.top
    refine Za rfl<|Zt dM fun a n=>?_;refine Zr n<|Zm rfl<|Zm rfl<|Ze (Xdy (s:=(cdW (T+q))) (r:=[72]) rfl rfl (by have:=a9.len;simp;omega))<|Zm rfl<|Ze (Xdy (s:=(cdW (T+q))) (r:=[83]) rfl rfl (by have:=a9.len;simp;omega))<|Zf (Xd (k:=2) (vs:=[.string (tx ((cdW (T+q))++[72])),.string (tx ((cdW (T+q))++[83]))]) (zs:=[.string (tx ((cdW (T+q))++[72])),.string (tx ((cdW (T+q))++[83]))]) rfl X1e X4b rfl rfl) ?_;rintro _ f9 ⟨fA,rfl,aT,j,bE⟩;have eI:=Q0 y.size aT;have b1:=d.away aT;have cJ:=b.away aT;have cK:=D.away aT;have d:=d.below j;have b:=b.below j;have D:=D.below j;have aP:=aP.below j;have f:=(f.below j).top;have y:=btr y j;refine Zf (X0n (enc:=encTx) (l:=(x2)) (l2:=([tx ((cdW (T+q))++[72]),tx ((cdW (T+q))++[83])])) (B0:=E.heap.size) rfl rfl X1e X4b X1n X34 d (Rd.of_blk bE rfl _ bE.lt) (by simp only [maxLen];simp;omega) (by simp;omega) y.size) ?_;rintro _ fB ⟨eJ,eK,rfl,dN,hg,N⟩
    have o:Own _ E.heap.size 9 1 encTx _ _ (x2):=d
    have cM:=N _ bE.lt b1;have b2:=Apart.app b h N;have b3:=Apart.app D aI.symm N;clear N;have b:=b.appP hg h;have D:=D.appP hg aI.symm;have aP:=aP.appT o hg rfl;have f:=(f.appT o hg rfl).top;have y:=Below.app y o hg (Qb _) y.size;clear o hg;refine Za rfl ?_;refine Zn fun a n=>?_;refine Xn<|bL _ _<|Zr n<|Ze (X01 rfl rfl (by omega) (by omega))<|Zm rfl ?_;refine Zn fun a n=>?_;refine Xm ?_;exact ⟨(q+1,H++([tx (cdW (T+q))]),L2++([(⟨aC,aD,(clB (cdB (T+q)))⟩ : Sd)]),x2++([tx ((cdW (T+q))++[72]),tx ((cdW (T+q))++[83])])),⟨eC,eD,eF,eH,eJ,eK,n.sb,(by omega),(by show _=wsN (ctC (T+q+1));rw [b9.1,Xe5,← bH,b9.2]),(by show _=lsN (ctC (T+q+1));rw [List.map_append,aQ,b9.1,Xdu,← dK];rfl),(by show _=cdL _ (1+2*ctC (T+q+1));rw [b9.1,b6];exact Xn2 (by omega) b9.2),(Xoh (t:=T+q+1) (by omega)).le,(by have h9:ctC (T+q)≤ctC (T+q+1):=d5;show ctC T≤ctC (T+q+1);omega),D,aP,dN,b,f,aZ,b2,b3,y⟩,(by first|omega|(dsimp only;omega))⟩
   have bZ:=aO
   have cA:=a9.old (by have h9:=aO;rw [bO] at h9;simp at h9;omega)
   refine Q7<|Xn<|bL _ _<|Zr n ?_;refine Ze (X01 rfl rfl (by omega) (by omega))<|Zm rfl ?_;refine Zn fun a n=>?_;refine Xm ?_;exact ⟨(q+1,H,L2,x2),⟨U,aK,aF,aG,W,aL,n.sb,(by omega),(by show _=wsN (ctC (T+q+1));rw [cA,bH]),(by show _=lsN (ctC (T+q+1));rw [cA,aQ]),(by show _=cdL _ (1+2*ctC (T+q+1));rw [cA,b6]),(Xoh (t:=T+q+1) (by omega)).le,(by have h9:ctC (T+q)≤ctC (T+q+1):=d5;show ctC T≤ctC (T+q+1);omega),i,e,d,b,f,z,h,x,y⟩,(by first|omega|(dsimp only;omega))⟩
  have aB:=I;have I:=Q1 I
  have e8:q=1+2*ctC T-T:=by have h9:=I;rw [hv,Xcu] at h9;omega
  have bJ:(T+q)=1+2*ctC T:=by omega
  refine Q9<|Xk<|Xk<|X05 ?_;refine cU _ _<|Zr n<|Zm rfl<|Za rfl ?_;refine Zn fun a n=>?_;refine Xn<|Xm ?_;exact ⟨(1+2*ctC T,H,L2,x2),⟨U,aK,aF,aG,W,aL,n.sb,(by omega),(by rw [← bJ];exact dY),(by rw [← bJ];exact bH),(by rw [← bJ];exact aQ),(by rw [← bJ] at b6 ⊢;exact b6),i,e,d,f,x,y⟩,(by first|omega|(dsimp only;omega))⟩
 have aA:=G;have G:=Q1 G
 have b5:ctC T=24:=by have h9:=G;rw [hw,X3x] at h9;omega
 refine Q9<|Xk<|Xk<|X05 ?_;refine cP _ _<|Zs n fun _ dP=>?_;refine Zm rfl<|Za rfl<|Zt dP fun a n=>?_
 refine Q6 (X3 n (Xt n rfl rfl) ?_)
 rw [b5] at hw
 subst hw
 exact ⟨aU,b4,rfl,bK,y⟩
theorem Xw2(w0:World)(k:Nat)(aA:k<24)(aE:HalfT w0) : Ret Tryz.prog 143 [vi (k:Int)] w0 (fun v w=>v=.tuple #[.string (tx (cw k)),.bool true]∧Below w0.heap.size w0 w):=by
 have aK:(wsN 24).length=24:=X3x 24
 refine enter Tryz.func143 rfl 20 rfl rfl ?_;intro a b
 have hW:=bz w0
 refine Zs b fun _ aF=>?_;refine Za rfl<|Za rfl<|Zx aF fun a b _ aG=>?_;refine Zf (Vc (Xr8 _ (aE.of hW)) Xhn) ?_;rintro _ w1 ⟨A3,c3,A4,c4,L9,rfl,a9,aB,aL,aM,hE⟩;have a9:=a9.lower hW.size;have aB:=aB.lower hW.size;have hW:=btr hW hE;refine Zm rfl<|Ze (X2 (vs:=[.slice A3 (wsN 24).length c3,.slice A4 L9.length c4]) rfl rfl)<|Ze (X2 (vs:=[.slice A3 (wsN 24).length c3,.slice A4 L9.length c4]) rfl rfl)<|Za rfl<|Za rfl<|ZX aG fun a b _ aH=>?_;refine Zs b fun _ aI=>?_;refine Zm rfl<|Zm rfl<|Ze (X23 rfl X1e)<|Ze (X1s rfl rfl (by omega) (by omega))<|Zf (Vc (F91 _ (k:Int) 0 (((wsN 24).length:Int)-1)) X4c) ?_;rintro _ _ ⟨rfl,rfl⟩;refine Ze (X0o rfl)<|Zt aI fun a b=>?_
 refine Xl b rfl (fun c=>?_) (fun c=>?_)
 ·have aC:=c
  have h9:=c;rw [X0b.2 ⟨by omega,by omega⟩] at h9;simp at h9
 have aC:=c;refine Q7<|aH _ _<|Zs b fun _ aJ=>?_;refine Zm rfl<|Zm rfl<|Zi (k:=k) (u:=tx (cw k)) (enc:=encTx) (l:=(wsN 24)) trivial rfl rfl X1e Xff X1n a9.rd (X9a aA) rfl ?_;intro aN aD;refine Ze (X0 rfl X7k aD)<|Za rfl<|Za rfl<|Zt aJ fun a b=>?_
 refine Q6 (X3 b (X0r b rfl rfl rfl) ?_)
 exact ⟨rfl,hW⟩
theorem Xwg(m:World)(k:Nat)(z:k<24)(aP:HalfT m) : Ret Tryz.prog 90 [vi (k:Int)] m (fun v w=>∃ A c,v=.slice A (wdG (cw k)).length c∧Own w m.heap.size 90 3 encG A c (wdG (cw k))∧Below m.heap.size m w):=by
 have b5:=(X6n z).2;refine enter Tryz.func90 rfl 30 rfl rfl ?_;intro a b
 have e:=bz m
 refine Zs b fun _ aQ=>?_;refine Za rfl<|Zx aQ fun a b _ aR=>?_;refine Zf (Xd (k:=0) (vs:=[]) (zs:=[]) rfl X0z X15 rfl rfl) ?_;rintro _ w1 ⟨b4,rfl,aS,x,a9⟩;have aG:=Q0 e.size aS;have e:=btr e x;refine Za rfl<|Zx aR fun a b _ aT=>?_;refine Zm rfl<|Zf (Vc (Xw2 _ k z (aP.of e)) Xoi) ?_;rintro _ w2 ⟨rfl,x⟩;have a9:=a9.below x;have e:=btr e x;refine Zm rfl<|Ze (X2 (vs:=[.string (tx (cw k)),.bool true]) rfl rfl)<|Ze (X2 (vs:=[.string (tx (cw k)),.bool true]) rfl rfl)<|Za rfl<|Za rfl<|ZX aT fun a b _ aU=>?_;refine Zs b fun _ aW=>?_;refine Za rfl<|Zt aW fun a b=>?_;refine Q8<|X03 (σ:=Nat×(List Gt)) (fun (s:Nat×(List Gt)) (a:Act) (w:World)=>match s with|(j,gs)=>∃ A9 c9,Fr a 30 [(3,.slice A9 gs.length c9),(4,.string (tx (cw k))),(6,vi (j:Int))]∧(j≤(cw k).length)∧(gs=wdG ((cw k).take j))∧Own w m.heap.size 90 3 encG A9 c9 gs∧Below m.heap.size m w) (fun (s:Nat×(List Gt))=>match s with|(j,gs)=>(cw k).length-j) (0,[]) ?_ ?_
 ·exact ⟨some ⟨b4,0,none⟩,0,b.sb,(Qf _),rfl,(Own.empty a9 aG),e⟩
 rintro ⟨j,gs⟩ a w3 ⟨A9,c9,b,hj,y,f,e⟩
 have b6:gs.length≤9:=by rw [y];simp [wdG];omega
 refine Q5 fun _ aH=>?_;refine Zs b fun _ aI=>?_;refine Zm rfl<|Zm rfl<|Ze (Xai (s:=(cw k)) rfl Tryz.underlying9)<|Ze (X14 rfl rfl)<|Zt aI fun a b=>?_
 refine Xl b rfl (fun d=>?_) (fun d=>?_)
 ·have aA:=d;have d:=Q2 d
  obtain ⟨b7,b3⟩:=Xq (l:=(cw k)) (k:=j) (by omega)
  obtain ⟨u7,aB⟩:=Xq (l:=cw k) (k:=j) (by have:=d;omega)
  refine Q7<|aH _ _<|Q5 fun _ h=>?_;refine Q8<|Zs b fun _ aJ=>?_;refine Za rfl<|ZX aJ fun a b _ B=>?_;refine Zs b fun _ aK=>?_;refine Zm rfl<|Zm rfl<|Ze (X8o (s:=(cw k)) (k:=j) (u:=u7) rfl rfl Tryz.underlying9 rfl aB)<|Ze (Xa8 rfl rfl)<|Zt aK fun a b=>?_
  refine Xl b rfl (fun g=>?_) (fun g=>?_)
  ·have aC:=g;have aD:=Xfi g;refine Zr b<|Za rfl<|Zt B fun a b=>?_;refine Zr b<|Zm rfl<|Zm rfl<|Ze (Xg (ps:=[(0,vi 5)]) (cs:=[vi 5,vi 0,vi 0]) rfl (fun _=>by first|rfl|kernel_rfl))<|Zf (Xd (k:=1) (vs:=[.agg #[vi 5,vi 0,vi 0]]) (zs:=[vi 5,vi 0,vi 0]) rfl X0z X15 rfl rfl) ?_;rintro _ w4 ⟨b8,rfl,C,x,n⟩;have aX:=Q0 e.size C;have o:=f.away C;have f:=f.below x;have e:=btr e x;refine Zf (X0n (enc:=encG) (l:=(gs)) (l2:=([(⟨5,0,0⟩ : Gt)])) (B0:=m.heap.size) rfl rfl X0z X15 X0k X20 f (Rd.of_blk n rfl _ n.lt) (by simp only [maxLen];simp;omega) (by simp;omega) e.size) ?_;rintro _ w5 ⟨aY,aZ,rfl,aL,y,p⟩
   have i:Own _ m.heap.size 90 3 encG _ _ (gs):=f
   have aE:=p _ n.lt o;clear p;have e:=Below.app e i y (Qb _) e.size;clear i y;refine Za rfl ?_;refine Zn fun a b=>?_;refine Xn<|h _ _<|Zr b<|Zm rfl<|Ze (X01 rfl rfl (by omega) (by omega))<|Za rfl ?_;refine Zn fun a b=>?_;refine Xm ?_;exact ⟨(j+1,gs++([(⟨5,0,0⟩ : Gt)])),⟨aY,aZ,b.sb,(by omega),(by rw [y,X6j aB,aD]),aL,e⟩,(by first|omega|(dsimp only;omega))⟩
  have aC:=g;have aD:=Xfb g;refine Q7<|B _ _<|Zr b<|Zm rfl<|Zm rfl<|Ze (Xg (ps:=[(0,vi 1)]) (cs:=[vi 1,vi 0,vi 0]) rfl (fun _=>by first|rfl|kernel_rfl))<|Zf (Xd (k:=1) (vs:=[.agg #[vi 1,vi 0,vi 0]]) (zs:=[vi 1,vi 0,vi 0]) rfl X0z X15 rfl rfl) ?_;rintro _ w6 ⟨b9,rfl,D,x,q⟩;have b0:=Q0 e.size D;have t:=f.away D;have f:=f.below x;have e:=btr e x;refine Zf (X0n (enc:=encG) (l:=(gs)) (l2:=([(⟨1,0,0⟩ : Gt)])) (B0:=m.heap.size) rfl rfl X0z X15 X0k X20 f (Rd.of_blk q rfl _ q.lt) (by simp only [maxLen];simp;omega) (by simp;omega) e.size) ?_;rintro _ w7 ⟨b1,b2,rfl,aM,y,p⟩
  have i:Own _ m.heap.size 90 3 encG _ _ (gs):=f
  have aF:=p _ q.lt t;clear p;have e:=Below.app e i y (Qb _) e.size;clear i y;refine Za rfl ?_;refine Zn fun a b=>?_;refine Xn<|h _ _<|Zr b<|Zm rfl<|Ze (X01 rfl rfl (by omega) (by omega))<|Za rfl ?_;refine Zn fun a b=>?_;refine Xm ?_;exact ⟨(j+1,gs++([(⟨1,0,0⟩ : Gt)])),⟨b1,b2,b.sb,(by omega),(by rw [y,X6j aB,aD]),aM,e⟩,(by first|omega|(dsimp only;omega))⟩
 have aA:=d;have d:=Q1 d
 have aN:gs=wdG (cw k):=by rw [y,Qi (by omega)]
 refine Q9<|Xk<|Xk<|X05 ?_;refine aU _ _<|Zs b fun _ aO=>?_;refine Zm rfl<|Za rfl<|Zt aO fun a b=>?_
 refine Q6 (X3 b (Xt b rfl rfl) ?_)
 subst aN
 exact ⟨A9,c9,rfl,f,e⟩
theorem Xqj(g:World)(tb:List UInt8)(sl:List Nat)(k p:Nat)(m:k<24)(aB:tb=sl.map sylT)(aH:∀ s ∈ sl,s<3)(aX:sl.length≤40)(aI:HalfT g) : Ret Tryz.prog 47 [.agg #[.string (tx tb),vi (k:Int),vi (p:Int)]] g (fun v w=>∃ A c,v=.slice A (fmG k sl).length c∧Own w g.heap.size 90 3 encG A c (fmG k sl)∧Below g.heap.size g w):=by
 have aZ:=(X6n m).2
 have b0:tb.length=sl.length:=by rw [aB,Qo]
 refine enter Tryz.func47 rfl 24 rfl rfl ?_;intro a e
 have f:=bz g
 refine Zs e fun _ aJ=>?_;refine Zf (X09 (zs:=[.string (tx tb),vi (k:Int),vi (p:Int)]) rfl rfl) ?_;rintro _ w1 ⟨b2,rfl,aK,t,d⟩;have aY:=Q0 f.size aK;have f:=btr f t;refine Za rfl<|Zx aJ fun a e _ aL=>?_;refine Ze (Vd rfl X4s 1)<|Ze (X0 rfl X8 (d.at 1))<|Zf (Vc (Xwg _ k m (aI.of f)) Xnj) ?_;rintro _ w2 ⟨A5,c5,rfl,a9,t⟩;have a9:=a9.lower f.size;have d:=d.below t;have f:=btr f t;refine Za rfl<|ZX aL fun a e _ aM=>?_;refine Zs e fun _ aN=>?_;refine Ze (Vd rfl X29 0)<|Ze (X0 rfl X7k (d.at 0))<|Ze (Xai (s:=tb) rfl Tryz.underlying9)<|Ze (X1s rfl rfl (by omega) (by omega))<|Za rfl<|Zt aN fun a e=>?_;refine Q8<|X03 (σ:=Nat×Int×(List Gt)) (fun (s:Nat×Int×(List Gt)) (a:Act) (w:World)=>match s with|(j,i,gs)=>∃ A8 c8,Fr a 24 [(1,.pointer (some ⟨b2,0,none⟩)),(3,.slice A8 gs.length c8),(4,vi i)]∧(j≤sl.length)∧(i=(sl.length:Int)-1-(j:Int))∧(gs=fmG k (sl.drop (sl.length-j)))∧Blk w b2 27 [.string (tx tb),vi (k:Int),vi (p:Int)]∧Own w g.heap.size 90 3 encG A8 c8 gs∧Below g.heap.size g w) (fun (s:Nat×Int×(List Gt))=>match s with|(j,i,gs)=>sl.length-j) (0,((tb.length:Int)-1),(wdG (cw k))) ?_ ?_
 ·exact ⟨A5,c5,e.sb,(Qf _),(by omega),(by rw [Nat.sub_zero,List.drop_length,Xgw]),d,a9,f⟩
 rintro ⟨j,i,gs⟩ a w3 ⟨A8,c8,e,hj,hi,hg,d,n,f⟩
 have b1:gs.length≤126:=by rw [hg];exact X90 m (by rw [List.length_drop];omega)
 refine Q5 fun _ aO=>?_;refine Zs e fun _ aC=>?_;refine Zm rfl<|Ze (Xid rfl rfl)<|Zt aC fun a e=>?_
 refine Xl e rfl (fun b=>?_) (fun b=>?_)
 ·have aA:=b;have b:=Q2 b
  obtain ⟨s,aP,aQ,aR⟩:=Xk1 (sl:=sl) (j:=j) (by have:=b;omega)
  have aS:=Xko aB aP;have b3:=X5n s;refine Q7<|aO _ _<|Q5 fun _ aD=>?_;refine Q8<|Zr e<|Zm rfl<|Ze (Vd rfl X29 0)<|Ze (X0 rfl X7k (d.at 0))<|Zm rfl<|Ze (X8o (s:=tb) (k:=(sl.length-1-j)) (u:=(sylT s)) rfl rfl Tryz.underlying9 (by omega) aS)<|Zf (Vc (Xqz _ (sylT s) s (aH s aQ) rfl) Xgj) ?_;rintro _ w4 ⟨b4,b5,rfl,o,t⟩;have o:=o.lower f.size;have d:=d.below t;have n:=n.below t;have f:=btr f t;refine Zf (X0n (enc:=encG) (l:=(gs)) (l2:=((sylG s))) (B0:=g.heap.size) rfl rfl X0z X15 X0k X20 n o.rd (by simp only [maxLen];omega) (by omega) f.size) ?_;rintro _ w5 ⟨aT,aU,rfl,aE,hg,aW⟩
  have q:Own _ g.heap.size 90 3 encG _ _ (gs):=n
  clear aW;have d:=d.appT q hg rfl;have f:=Below.app f q hg (Qb _) f.size;clear q hg;refine Za rfl ?_;refine Zn fun a e=>?_;refine Xn<|aD _ _<|Zr e<|Zm rfl<|Ze (X1s rfl rfl (by omega) (by omega))<|Za rfl ?_;refine Zn fun a e=>?_;refine Xm ?_;exact ⟨(j+1,(i-1),gs++(sylG s)),⟨aT,aU,e.sb,(by omega),(by omega),(by rw [hg,aR,Xe7]),d,aE,f⟩,(by first|omega|(dsimp only;omega))⟩
 have aA:=b;have b:=Q1 b
 have aF:gs=fmG k sl:=by rw [hg,show sl.length-j=0 from by have:=b;omega,List.drop_zero]
 refine Q9<|Xk<|Xk<|X05 ?_;refine aM _ _<|Zs e fun _ aG=>?_;refine Zm rfl<|Za rfl<|Zt aG fun a e=>?_
 refine Q6 (X3 e (Xt e rfl rfl) ?_)
 subst aF
 exact ⟨A8,c8,rfl,n,f⟩
theorem Xwu(w0:World)(tb:List UInt8)(sl:List Nat)(k p:Nat)(y:k<24)(aI:tb=sl.map sylT)(aJ:∀ s ∈ sl,s<3)(z:sl.length≤40)(aK:p<8)(hF:FrmOk tb)(aL:HalfT w0) : Ret Tryz.prog 21 [.agg #[.string (tx tb),vi (k:Int),vi (p:Int)]] w0 (fun v w=>∃ A c,v=.tuple #[mV A c ⟨(opM (fmG k sl)).rows,(opM (fmG k sl)).cols,((opM (fmG k sl)).cells.map (dTurn (p:Int)))⟩,.bool true]∧Own w w0.heap.size 86 5 encD A c ((opM (fmG k sl)).cells.map (dTurn (p:Int)))∧Below w0.heap.size w0 w):=by
 obtain ⟨aB,_,_⟩:=Xkh y z;have aM:=Xji aB;have aU:=X90 y z;refine enter Tryz.func21 rfl 27 rfl rfl ?_;intro a q
 have i:=bz w0
 refine Zs q fun _ aN=>?_;refine Zf (X09 (zs:=[.string (tx tb),vi (k:Int),vi (p:Int)]) rfl rfl) ?_;rintro _ w1 ⟨b2,rfl,aO,f,g⟩;have aT:=Q0 i.size aO;have i:=btr i f;refine Zf (X4 (zs:=[vi 0,vi 0,.slice none 0 0]) X12 rfl) ?_;rintro _ w2 ⟨b4,rfl,aP,f,e⟩;have aC:=Q0 i.size aP;have g:=g.below f;have i:=btr i f;refine Za rfl<|ZX aN fun a q _ aQ=>?_;refine Zs q fun _ aR=>?_;refine Ze (Vn X1w g)<|Zf (Vc (Xk6 _ tb (k:Int) (p:Int) hF ⟨by omega,by omega⟩ ⟨by omega,by omega⟩) Xc9) ?_;rintro _ w3 ⟨rfl,f⟩;have g:=g.below f;have e:=e.below f;have i:=btr i f;refine Ze (X0o rfl)<|Zt aR fun a q=>?_;refine X3c q rfl ?_;refine Q7<|aQ _ _<|Zs q fun _ aS=>?_;refine Ze (Vn X1w g)<|Zf (Vc (Xqj _ tb sl k p  y aI aJ z (aL.of i)) Xhr) ?_;rintro _ w4 ⟨A8,c8,rfl,a9,f⟩;have a9:=a9.lower i.size;have g:=g.below f;have e:=e.below f;have i:=btr i f;refine Ze (Xg (ps:=[(0,vi 1),(1,.slice A8 (fmG k sl).length c8)]) (cs:=[vi 1,.slice A8 (fmG k sl).length c8]) rfl (fun _=>by first|rfl|kernel_rfl))<|Zf (X1j (vs:=[.agg #[vi 1,.slice A8 (fmG k sl).length c8]]) rfl Xlz (by have hq:=F97 w4 (⟨1,(fmG k sl)⟩ : Cx) A8 c8 a9.rd.top (by show (fmG k sl).length≤_;omega);rw [aB,Qq,Option.isSome_some] at hq;exact hq)) ?_;rintro _ w5 ⟨B,C,rfl,m,f⟩;have g:=g.below f;have e:=e.below f;have i:=btr i f;refine Zm rfl<|Ze (X2 (vs:=[.agg #[vi ((opM (fmG k sl)).rows),vi ((opM (fmG k sl)).cols),.slice B ((opM (fmG k sl)).cells).length C],.bool true]) rfl rfl)<|Ze (X2 (vs:=[.agg #[vi ((opM (fmG k sl)).rows),vi ((opM (fmG k sl)).cols),.slice B ((opM (fmG k sl)).cells).length C],.bool true]) rfl rfl)<|Zf (X4 (zs:=[vi 0,vi 0,.slice none 0 0]) X12 rfl) ?_;rintro _ w6 ⟨b12,rfl,aD,f,n⟩
 have aE:b4≠b12:=by have:=e.lt;omega
 have aA:=Q0 i.size aD;have g:=g.below f;have e:=e.below f;have m:=m.below f;have i:=btr i f;refine Zo (Vw [vi ((opM (fmG k sl)).rows),vi ((opM (fmG k sl)).cols),.slice B ((opM (fmG k sl)).cells).length C] X0c n) ?_;rintro _ w7 ⟨ho,hb⟩;have t:=n;have g:=g.only ho (Blk.ne g t rfl);have e:=e.only ho (by omega);have m:=m.onlyT ho t rfl;have i:=Below.only i ho aA;have n:=hb;refine Za rfl<|ZX aS fun a q _ aF=>?_;refine Zs q fun _ aG=>?_;refine Zm rfl<|Ze (X0o rfl)<|Zt aG fun a q=>?_;refine X3c q rfl ?_;refine Q7<|aF _ _<|Q5 fun _ aH=>?_;refine X07 none (fun j=>[7].contains j) mixed ?_;intro w8 f;have g:=g.below f;have e:=e.below f;have n:=n.below f;have m:=m.below f;have i:=btr i f;refine Yb q<|Ye 0 rfl (Vn Xp n)<|Yo 1 rfl (fun _=>Vd rfl X44 2)<|Ye 2 rfl (X0 rfl X8 (g.at 2))<|Y1 3 ?_;refine Yk rfl trivial (Vc (Xc1 _ (p:Int) (X0b.2 ⟨by omega,by omega⟩)) X5f) (fun _ _ ⟨_,f⟩=>f) ?_;rintro _ w9 ⟨rfl,f⟩;have e:=e.below f;have m:=m.below f;have i:=btr i f;refine Y1 4<|Yf rfl trivial (EfW.mono (X1j (vs:=[.agg #[vi ((opM (fmG k sl)).rows),vi ((opM (fmG k sl)).cols),.slice B ((opM (fmG k sl)).cells).length C],.agg #[vi ((dPow (p:Int)).num.a),vi ((dPow (p:Int)).num.b),vi ((dPow (p:Int)).num.c),vi ((dPow (p:Int)).num.d),vi ((dPow (p:Int)).exp)]]) rfl Xg1 (by have hq:=Xrs w9 (opM (fmG k sl)) B C m.top (dPow (p:Int)) (Xag ⟨1,fmG k sl⟩);rw [X5h aM aK,Qq,Option.isSome_some] at hq;exact hq)) (fun _ _ h=>⟨fun _=>by obtain ⟨u,x,rfl,o,f⟩:=h;exact f,h⟩)) ?_;rintro _ aW ⟨u,x,rfl,o,f⟩
 have o:=o.lower i.size;have e:=e.below f;have i:=btr i f;refine Yo 5 rfl (fun _=>X2 (vs:=[.agg #[vi ((opM (fmG k sl)).rows),vi ((opM (fmG k sl)).cols),.slice u ((opM (fmG k sl)).cells.map (dTurn (p:Int))).length x],.bool true]) rfl rfl)<|Yo 6 rfl (fun _=>X2 (vs:=[.agg #[vi ((opM (fmG k sl)).rows),vi ((opM (fmG k sl)).cols),.slice u ((opM (fmG k sl)).cells.map (dTurn (p:Int))).length x],.bool true]) rfl rfl)<|Y1 7 ?_;refine Yh rfl trivial rfl (Vw [vi ((opM (fmG k sl)).rows),vi ((opM (fmG k sl)).cols),.slice u ((opM (fmG k sl)).cells.map (dTurn (p:Int))).length x] X0c e) ?_;rintro _ aX ⟨ho,hb⟩;have t:=e;have o:=o.onlyT ho t rfl;have i:=Below.only i ho aC;have e:=hb;refine Yo 8 rfl (fun _=>X0p rfl) ?_;refine Yd fun a q=>?_;refine aH _ _ ?_
 refine Q6 (X3 q (X0r q rfl (ResV.cellN (l:=[vi ((opM (fmG k sl)).rows),vi ((opM (fmG k sl)).cols),.slice u ((opM (fmG k sl)).cells.map (dTurn (p:Int))).length x]) rfl Xp (e.at 0) rfl) rfl) ?_)
 exact ⟨u,x,rfl,o,i⟩
theorem Xwc(p:World)(Al:Option Addr)(cl:Nat)(l:List Dy)(t:Rd p p.heap.size 86 encD Al l)(k:Nat)(x:k<24)(a9:l=clB k)(aP:HalfT p) : Ret Tryz.prog 36 [.agg #[.slice Al l.length cl]] p (fun v w=>v=.tuple #[vi (k:Int),.bool true]∧Below p.heap.size p w):=by
 refine enter Tryz.func36 rfl 28 rfl rfl ?_;intro a e
 have g:=bz p
 refine Zs e fun _ aQ=>?_;refine Zf (X09 (zs:=[.slice Al l.length cl]) rfl rfl) ?_;rintro _ w1 ⟨b3,rfl,aR,n,f⟩;have aY:=Q0 g.size aR;have g:=btr g n;refine Za rfl<|Za rfl<|ZX aQ fun a e _ aS=>?_;refine Zs e fun _ aT=>?_;refine Ze (Vn X16 f)<|Zf (Vc (Xxm _ Al cl l (t.below' g).top k x a9) Xo0) ?_;rintro _ w2 ⟨rfl,n⟩;have f:=f.below n;have g:=btr g n;refine Ze (X0o rfl)<|Zt aT fun a e=>?_;refine X3c e rfl ?_;refine Q7<|aS _ _<|Zs e fun _ aU=>?_;refine Zf (Vc (Xr8 _ (aP.of g)) Xhn) ?_;rintro _ w3 ⟨A7,c7,A8,c8,q,rfl,aF,i,aA,m,n⟩;have aF:=aF.lower g.size;have i:=i.lower g.size;have f:=f.below n;have g:=btr g n;refine Zm rfl<|Ze (X2 (vs:=[.slice A7 (wsN 24).length c7,.slice A8 q.length c8]) rfl rfl)<|Ze (X2 (vs:=[.slice A7 (wsN 24).length c7,.slice A8 q.length c8]) rfl rfl)<|Za rfl<|Za rfl<|ZX aU fun a e _ b0=>?_;refine Zs e fun _ aG=>?_;refine Zm rfl<|Ze (X23 rfl X1o)<|Zm rfl<|Zt aG fun a e=>?_;refine Q8<|X03 (σ:=Nat) (fun (j:Nat) (a:Act) (w:World)=>Fr a 28 [(1,.pointer (some ⟨b3,0,none⟩)),(15,.slice A8 q.length c8),(16,vi (q.length:Int)),(17,vi (j:Int))]∧(j≤k)∧Blk w b3 66 [.slice Al l.length cl]∧Own w p.heap.size 30 1 encSd A8 c8 q∧DeepD w w.heap.size q∧Below p.heap.size p w) (fun (j:Nat)=>24-j) 0 ?_ ?_
 ·exact ⟨e.sb,(Qf _),f,i,m,g⟩
 rintro j a w4 ⟨e,hj,f,i,m,g⟩;refine Zs e fun _ aH=>?_;refine Ze (X14 rfl rfl)<|ZX aH fun a e _ aI=>?_
 refine Xl e rfl (fun d=>?_) (fun d=>?_)
 ·have aB:=d;have d:=Q2 d
  obtain ⟨b1,aZ⟩:=Xq (l:=q) (k:=j) (by omega)
  have aW:=X73 aA
  have y:j<24:=by have:=d;omega
  obtain ⟨u5,aC⟩:=Xq (l:=q) (k:=j) (by omega)
  have o:=Xga aA aC
  have aX:u5.l.length=9:=by rw [o,X3y y]
  refine Q7<|aI _ _<|Q5 fun _ aJ=>?_;refine Q8<|Zs e fun _ aK=>?_;refine Zm rfl<|Zi (k:=j) (u:=u5) (enc:=encSd) (l:=q) trivial rfl rfl X1o X3g X1u i.rd aC rfl ?_;intro b2 aD;have aL:=(m u5 (Qe aC)).top;refine Ze (X0 rfl X0j aD)<|Za rfl<|Za rfl<|Zx aK fun a e _ aM=>?_;refine Zm rfl<|Ze (Vd rfl X0t 0)<|Ze (X0 rfl X0j (f.at 0))<|Zf (Vc (Xsh _ u5.A u5.c u5.l aL.top Al cl l (t.below' g).top (by rw [aX];decide)) Xfn) ?_;rintro _ w5 ⟨rfl,n⟩;have f:=f.below n;have i:=i.below n;have m:=(m.below n).top;have g:=btr g n;refine Zt aM fun a e=>?_
  refine Xl e rfl (fun b=>?_) (fun b=>?_)
  ·have aE:=b;have b:=Q2 b
   have aN:j=k:=Xlj y x (by rw [← o,← a9];exact b)
   refine Zs e fun _ aO=>?_;refine Zm rfl<|Za rfl<|Za rfl<|Zt aO fun a e=>?_;refine Q6<|Xw<|X7<|X7 ?_;refine Xw<|X7<|X3 e (X0r e rfl rfl rfl) ?_;exact ⟨by rw [aN],g⟩
  have aE:=b;have b:=Q1 b
  have aN:j≠k:=fun h8=>b (by rw [o,a9,h8])
  refine Q7<|Xn<|aJ _ _<|Zr e ?_;refine Ze (X01 rfl rfl (by omega) (by omega))<|Zm rfl ?_;refine Zn fun a e=>?_;refine Xm ?_;exact ⟨j+1,⟨e.sb,(by omega),f,i,m,g⟩,(by omega)⟩
 have aB:=d;have d:=Q1 d;have aW:=X73 aA
 omega
theorem Xw6(w0:World)(Am:Option Addr)(cm:Nat)(m:Mx)(aQ:Rd w0 w0.heap.size 86 encD Am m.cells)(b5:m.cells.length≤2305843009213693951)(aN:HalfT w0) : Ret Tryz.prog 9 [.agg #[vi m.rows,vi m.cols,.slice Am m.cells.length cm]] w0 (fun v w=>v=.tuple #[.agg #[.string (tx (nfs m)),vi (nfk m:Int),vi (nfp m:Int)],.bool (nfM m).isSome]∧Below w0.heap.size w0 w):=by
 have b6:=Xjb m;refine enter Tryz.func9 rfl 93 rfl rfl ?_;intro a i
 have e:=bz w0
 refine Zs i fun _ cJ=>?_;refine Zf (X09 (zs:=[vi m.rows,vi m.cols,.slice Am m.cells.length cm]) rfl rfl) ?_;rintro _ w1 ⟨b3,rfl,cK,d,f⟩;have d7:=Q0 e.size cK;have e:=btr e d;refine Zf (X4 (zs:=[.string (tx []),vi 0,vi 0]) X60 rfl) ?_;rintro _ w2 ⟨b4,rfl,cM,d,c⟩;have aR:=Q0 e.size cM;have f:=f.below d;have e:=btr e d;refine Za rfl<|Zx cJ fun a i _ cO=>?_;refine Ze (Vn Xp f)<|Zf (Vc (Xk7 _ m Am cm (aQ.below' e).top b5 (aN.of e)) Xc0) ?_;rintro _ w3 ⟨A6,c6,rfl,B,d⟩;have B:=B.lower e.size;have f:=f.below d;have c:=c.below d;have e:=btr e d;refine Zm rfl<|Ze (X2 (vs:=[.agg #[.slice A6 ((blochI m).getD []).length c6],.bool ((blochI m).isSome)]) rfl rfl)<|Ze (X2 (vs:=[.agg #[.slice A6 ((blochI m).getD []).length c6],.bool ((blochI m).isSome)]) rfl rfl)<|Zf (X4 (zs:=[.slice none 0 0]) X22 rfl) ?_;rintro _ w4 ⟨b8,rfl,cP,d,x⟩;have b7:=Q0 e.size cP;have f:=f.below d;have c:=c.below d;have B:=B.below d;have e:=btr e d;refine Zo (Vw [.slice A6 ((blochI m).getD []).length c6] X1i x) ?_;rintro _ w5 ⟨t,I⟩;have g:=x;have f:=f.only t (Blk.ne f g rfl);have c:=c.only t (Blk.ne c g rfl);have B:=B.onlyT t g rfl;have e:=Below.only e t b7;have x:=I;refine Za rfl<|ZX cO fun a i _ cQ=>?_;refine Q5 fun _ b9=>?_;refine X0a (fun a w=>Fr a 93 [(1,.pointer (some ⟨b3,0,none⟩)),(2,.pointer (some ⟨b4,0,none⟩)),(4,.pointer (some ⟨b8,0,none⟩)),(27,.bool ((!((blochI m).isSome))||(decide (40<(bexp ((blochI m).getD []))))))]∧Below w5.heap.size w5 w) ?_ ?_
 ·have o:Below w5.heap.size w5 w5:=Below.refl _ _
  refine Zr i<|Zm rfl<|Ze (X0o rfl)<|Zm rfl ?_
  refine Zg 23 rfl (fun q=>?_) (fun q=>?_)
  ·refine Zp (gP q) ?_;refine Zp (gP q) ?_;refine Zp (gP q) ?_;refine Ze (Xh rfl q rfl) ?_;refine Zn fun a i=>?_
   have H:Below w5.heap.size w5 w5:=o
   exact ⟨i.sub ⟨rfl,rfl,rfl,X1 rfl (by first|rfl|(simp only [q,bs];done)|simp [q]),trivial⟩,H⟩
  refine Zv (gW q) (Vn X16 x) ?_;refine Zk (gW q) (Vc (Xgl _ A6 c6 ((blochI m).getD []) B.rd.top b6) X8y) ?_;rintro _ w6 ⟨rfl,d⟩;have e:=btr e d;have o:=btr o d;refine Zv (gW q) (X9k rfl rfl) ?_;refine Ze (Xf rfl q rfl) ?_;refine Zn fun a i=>?_
  have H:Below w5.heap.size w5 w6:=o
  exact ⟨i.sub ⟨rfl,rfl,rfl,X1 rfl (by first|rfl|(simp only [q,bs];done)|simp [q]),trivial⟩,H⟩
 rintro a w7 ⟨i,d⟩;have f:=f.below d;have c:=c.below d;have x:=x.below d;have B:=B.below d;have e:=btr e d;refine b9 _ _ ?_
 refine Xl i rfl (fun J=>?_) (fun J=>?_)
 ·have aC:=J;have hN:=nfN J;refine Zs i fun _ bC=>?_;refine Ze (Xg (ps:=[]) (cs:=[.string (tx []),vi 0,vi 0]) rfl (fun _=>by first|rfl|kernel_rfl))<|Zo (Vw [.string (tx []),vi 0,vi 0] X3a c) ?_;rintro _ w8 ⟨t,I⟩;have g:=c;have e:=Below.only e t aR;have c:=I;refine Za rfl<|Zt bC fun a i=>?_;refine Q6<|X7<|X3 i (X0r i rfl (ResV.cellN (l:=[.string (tx []),vi 0,vi 0]) rfl X1w (c.at 0) rfl) rfl) ?_;exact ⟨by rw [hN.s,hN.k,hN.p,hN.n];rfl,e⟩
 have aC:=J;obtain ⟨bD,W⟩:=Xl4 J;have hR:=nfR bD W;have hY:=nfY bD W;have d8:=X24 ((blochI m).getD []);refine Q7<|cQ _ _<|Q5 fun _ bE=>?_;refine X0a (fun a w=>∃ u,Fr a 93 [(1,.pointer (some ⟨b3,0,none⟩)),(2,.pointer (some ⟨b4,0,none⟩)),(6,.pointer (some ⟨u,0,none⟩)),(7,.slice A6 ((blochI m).getD []).length c6)]∧w0.heap.size≤u∧Blk w u 27 [.string (tx []),vi 0,vi 0]∧b4≠u∧Below w7.heap.size w7 w) ?_ ?_
 ·have o:Below w7.heap.size w7 w7:=Below.refl _ _
  refine X07 none (fun j=>[4].contains j) mixed ?_;intro w9 d;have c:=c.below d;have x:=x.below d;have e:=btr e d;have o:=btr o d;refine Yb i<|Yo 0 rfl (fun _=>Xg (ps:=[]) (cs:=[.string (tx []),vi 0,vi 0]) rfl (fun _=>by first|rfl|kernel_rfl))<|Yo 1 rfl (fun _=>Vd rfl X0t 0) ?_
  have y:Below w9.heap.size w9 w9:=Below.refl _ _
  refine Yc [0,1,2,3] 2 (fun a w=>∃ u,Fr a 93 [(1,.pointer (some ⟨b3,0,none⟩)),(2,.pointer (some ⟨b4,0,none⟩)),(6,.pointer (some ⟨u,0,none⟩)),(29,.agg #[.string (tx []),vi 0,vi 0]),(31,.slice A6 ((blochI m).getD []).length c6)]∧w0.heap.size≤u∧Blk w u 27 [.string (tx []),vi 0,vi 0]∧b4≠u∧w9.heap.size≤u∧w7.heap.size≤u∧Below w9.heap.size w9 w) ?_ ?_
  ·rintro a d9 ⟨u,i,A,b,L,aT,aU,d⟩;clear y;have y:=d;have e:=btr e d;have o:=btr o d;refine Yb i<|Y1 4<|Yh rfl trivial rfl (Vw [.string (tx []),vi 0,vi 0] X3a b) ?_;rintro _ w11 ⟨t,I⟩;have g:=b;have o:=Below.only o t aU;have y:=Below.only y t aT;have e:=Below.only e t A;have b:=I;refine Yo 5 rfl (fun _=>X0p rfl) ?_;refine Yd fun a i=>?_
   have H:Below w7.heap.size w7 w11:=o
   exact ⟨u,i.sb,A,b,L,H⟩
  intro aS;refine Y2 2 3 ?_ ?_
  ·refine Yz rfl trivial (Uev (X0 rfl X0j (x.at 0))) ?_;refine Y1 3<|Yk rfl trivial (X4 (zs:=[.string (tx []),vi 0,vi 0]) X60 rfl) (fun _ _ ⟨_,_,_,h,_⟩=>h) ?_;rintro _ dA ⟨b17,rfl,aD,d,bF⟩
   have aE:b4≠b17:=by have:=c.lt;omega
   have aW:=Q0 e.size aD;have aX:=Q0 o.size aD;have aY:=Q0 y.size aD;have e:=btr e d;have o:=btr o d;have y:=btr y d;exact fun a i=>aS _ a _ rfl ⟨b17,i.sb,aW,bF,aE,aY,aX,y⟩
  refine Yk rfl trivial (X4 (zs:=[.string (tx []),vi 0,vi 0]) X60 rfl) (fun _ _ ⟨_,_,_,h,_⟩=>h) ?_;rintro _ dB ⟨b18,rfl,aF,d,M⟩
  have N:b4≠b18:=by have:=c.lt;omega
  have a9:=Q0 e.size aF;have aG:=Q0 o.size aF;have aH:=Q0 y.size aF;have x:=x.below d;have e:=btr e d;have o:=btr o d;have y:=btr y d;refine Y2 2 4 ?_ ?_
  ·refine Yz rfl trivial (Uev (X0 rfl X0j (x.at 0))) ?_;exact fun a i=>aS _ a _ rfl ⟨b18,i.sb,a9,M,N,aH,aG,y⟩
  refine Yh rfl trivial rfl (Vw [.string (tx []),vi 0,vi 0] X3a M) ?_;rintro _ w14 ⟨t,I⟩;have g:=M;have x:=x.only t (Blk.ne x g rfl);have o:=Below.only o t aG;have y:=Below.only y t aH;have e:=Below.only e t a9;have M:=I;refine Y1 2<|Yz rfl trivial (Uev (X0 rfl X0j (x.at 0))) ?_;refine Yo 5 rfl (fun _=>X0p rfl) ?_;refine Yd fun a i=>?_
  have H:Below w7.heap.size w7 w14:=o
  exact ⟨b18,i.sub ⟨rfl,rfl,(by first|rfl|(simp [look,aC])),rfl,trivial⟩,a9,M,N,H⟩
 rintro a dC ⟨u,i,A,b,L,d⟩;have f:=f.below d;have c:=c.below d;have B:=B.below d;have e:=btr e d;refine bE _ _<|Q5 fun _ bG=>?_;refine Q8<|X03 (σ:=Nat×(List Dy)×(List UInt8)) (fun (s:Nat×(List Dy)×(List UInt8)) (a:Act) (w:World)=>match s with|(n,lc,tb)=>∃ E G,Fr a 93 [(1,.pointer (some ⟨b3,0,none⟩)),(2,.pointer (some ⟨b4,0,none⟩)),(6,.pointer (some ⟨u,0,none⟩)),(7,.slice E lc.length G)]∧((n:Int)≤bexp ((blochI m).getD []))∧(lc=(stN ((blochI m).getD []) n).2)∧(tb=(stN ((blochI m).getD []) n).1.map sylT)∧Blk w b3 32 [vi m.rows,vi m.cols,.slice Am m.cells.length cm]∧Blk w b4 27 [.string (tx []),vi 0,vi 0]∧Blk w u 27 [.string (tx tb),vi 0,vi 0]∧Own w w0.heap.size 86 5 encD E G lc∧Below w0.heap.size w0 w) (fun (s:Nat×(List Dy)×(List UInt8))=>match s with|(n,lc,tb)=>(bexp ((blochI m).getD [])).toNat-n) (0,((blochI m).getD []),[]) ?_ ?_
 ·exact ⟨A6,c6,i.sb,(by omega),rfl,rfl,f,c,b,B,e⟩
 rintro ⟨n,lc,tb⟩ a dD ⟨E,G,i,hn,aI,aZ,f,c,b,Q,e⟩;obtain ⟨cR,cS,cT,dE⟩:=X4k hR.gd W n hn
 have bH:Gd lc:=by rw [aI];exact cR
 have dF:bexp lc=bexp ((blochI m).getD [])-(n:Int):=by rw [aI];exact cS
 have dG:tb.length=n:=by rw [aZ,Qo];exact cT
 refine Q5 fun _ bI=>?_;refine Zs i fun _ bJ=>?_;refine Zm rfl<|Ze (Xg (ps:=[(0,.slice E lc.length G)]) (cs:=[.slice E lc.length G]) rfl (fun _=>by first|rfl|kernel_rfl))<|Zf (Vc (Xgl _ E G lc Q.rd.top (Nat.le_of_eq bH.nine.1)) X8y) ?_;rintro _ dH ⟨rfl,d⟩;have f:=f.below d;have c:=c.below d;have b:=b.below d;have Q:=Q.below d;have e:=btr e d;refine Ze (X9k rfl rfl)<|Zt bJ fun a i=>?_
 refine Xl i rfl (fun z=>?_) (fun z=>?_)
 ·have b0:=z;have z:=Q2 z
  have cU:0<bexp lc:=z
  obtain ⟨p9,dI⟩:=X7f hR.gd W (n:=n) (by omega)
  refine Q7<|bI _ _<|Q8<|Zs i fun _ bK=>?_;refine Zm rfl<|Zf (Vc (Xwn _ E G lc Q.rd.top bH cU (by omega) (aN.of e)) Xqb) ?_;rintro _ dJ ⟨C,aA,aO,aP,aJ,rfl,U,d⟩;have U:=U.lower e.size;have f:=f.below d;have c:=c.below d;have b:=b.below d;have e:=btr e d;refine Zm rfl<|Ze (X2 (vs:=[.string (tx [sylT C]),.slice aO aA.length aP,.bool true]) rfl rfl)<|Ze (X2 (vs:=[.string (tx [sylT C]),.slice aO aA.length aP,.bool true]) rfl rfl)<|Ze (X2 (vs:=[.string (tx [sylT C]),.slice aO aA.length aP,.bool true]) rfl rfl)<|Za rfl<|Za rfl<|Za rfl<|ZX bK fun a i _ bL=>?_;refine Zs i fun _ bM=>?_;refine Zm rfl<|Ze (X0o rfl)<|Zt bM fun a i=>?_;refine X3c i rfl ?_;refine Q7<|bL _ _<|Zs i fun _ bN=>?_;refine Ze (Vd rfl X29 0)<|Ze (X0 rfl X7k (b.at 0))<|Zm rfl<|Ze (Xdy (s:=tb) (r:=[sylT C]) rfl rfl (by simp;omega))<|Ze (Vd rfl X29 0)<|Zo (Vu (vs:=[.string (tx (tb++[sylT C]))]) (l':=[.string (tx (tb++[sylT C])),vi 0,vi 0]) rfl rfl Xff b) ?_;rintro _ dK ⟨t,I⟩;have g:=b;have f:=f.only t (Blk.ne f g rfl);have c:=c.only t (by omega);have U:=U.onlyT t g rfl;have e:=Below.only e t A;have b:=I;refine Zt bN fun a i=>?_;refine Zr i<|Zm rfl<|Za rfl ?_;refine Zn fun a i=>?_;refine Xn<|Xm ?_;exact ⟨(n+1,aA,(tb++[sylT C])),⟨aO,aP,i.sb,(by omega),(by rw [X3m (by rw [← aI];exact aJ)]),(by rw [X3m (by rw [← aI];exact aJ),List.map_append,aZ];rfl),f,c,b,U,e⟩,(by first|omega|(dsimp only;omega))⟩
 have b0:=z;have z:=Q1 z
 have bO:n=(bexp ((blochI m).getD [])).toNat:=by have:=z;omega
 have bP:lc=nfL ((blochI m).getD []):=by rw [aI,bO];rfl
 have aK:tb=(nfS ((blochI m).getD [])).map sylT:=by rw [aZ,bO];rfl
 obtain ⟨bQ,bR⟩:=X9w hR.gd W
 have cV:lc=clB (clX (nfL ((blochI m).getD []))):=bP.trans bR
 obtain ⟨dL,bS⟩:=X7q hR.gd W
 have b1:(nfS ((blochI m).getD [])).length≤40:=by omega
 have bU:FrmOk tb:=by rw [aK];exact Xgn hR.gd W
 have bW:=Xy7 hR;refine Q9<|Xk<|Xk<|X05 ?_;refine bG _ _<|Zs i fun _ bZ=>?_;refine Zm rfl<|Ze (Xg (ps:=[(0,.slice E lc.length G)]) (cs:=[.slice E lc.length G]) rfl (fun _=>by first|rfl|kernel_rfl))<|Zf (Vc (Xwc _ E G lc Q.rd.top (clX (nfL ((blochI m).getD []))) bQ cV (aN.of e)) Xnc) ?_;rintro _ dM ⟨rfl,d⟩;have f:=f.below d;have c:=c.below d;have b:=b.below d;have e:=btr e d;refine Zm rfl<|Ze (X2 (vs:=[vi ((clX (nfL ((blochI m).getD []))) : Int),.bool true]) rfl rfl)<|Ze (X2 (vs:=[vi ((clX (nfL ((blochI m).getD []))) : Int),.bool true]) rfl rfl)<|Ze (Vd rfl X4s 1)<|Zo (Vu (vs:=[vi ((clX (nfL ((blochI m).getD []))) : Int)]) (l':=[.string (tx tb),vi ((clX (nfL ((blochI m).getD []))) : Int),vi 0]) rfl rfl X5w b) ?_;rintro _ cW ⟨t,I⟩;have g:=b;have f:=f.only t (Blk.ne f g rfl);have c:=c.only t (by omega);have e:=Below.only e t A;have b:=I;refine Za rfl<|Zx bZ fun a i _ cA=>?_;refine Ze (Vn X1w b)<|Zf (X1j (vs:=[.agg #[.string (tx tb),vi ((clX (nfL ((blochI m).getD []))) : Int),vi 0]]) rfl Xnd (by have hq:=Xwu cW tb (nfS ((blochI m).getD [])) (clX (nfL ((blochI m).getD []))) 0 bQ aK bS b1 (by decide) bU (aN.of e);rw [Xvg] at hq;exact hq)) ?_;rintro _ dN ⟨aL,aM,rfl,D,d⟩;have D:=D.lower e.size;have f:=f.below d;have c:=c.below d;have b:=b.below d;have e:=btr e d;refine Zm rfl<|Ze (X2 (vs:=[.agg #[vi ((nfW ((blochI m).getD [])).rows),vi ((nfW ((blochI m).getD [])).cols),.slice aL ((nfW ((blochI m).getD [])).cells).length aM],.bool true]) rfl rfl)<|Ze (X2 (vs:=[.agg #[vi ((nfW ((blochI m).getD [])).rows),vi ((nfW ((blochI m).getD [])).cols),.slice aL ((nfW ((blochI m).getD [])).cells).length aM],.bool true]) rfl rfl)<|Zf (X4 (zs:=[vi 0,vi 0,.slice none 0 0]) X12 rfl) ?_;rintro _ dP ⟨b35,rfl,cB,d,aB⟩
 have cC:b3≠b35:=by have:=f.lt;omega
 have b2:=Q0 e.size cB;have f:=f.below d;have c:=c.below d;have b:=b.below d;have D:=D.below d;have e:=btr e d;refine Zo (Vw [vi ((nfW ((blochI m).getD [])).rows),vi ((nfW ((blochI m).getD [])).cols),.slice aL ((nfW ((blochI m).getD [])).cells).length aM] X0c aB) ?_;rintro _ cX ⟨t,I⟩;have g:=aB;have f:=f.only t (by omega);have c:=c.only t (Blk.ne c g rfl);have b:=b.only t (Blk.ne b g rfl);have D:=D.onlyT t g rfl;have e:=Below.only e t b2;have aB:=I;refine Za rfl<|Zx cA fun a i _ cD=>?_;refine Ze (Vn Xp f)<|Ze (Vn Xp aB)<|Zf (X1j (vs:=[.agg #[vi m.rows,vi m.cols,.slice Am m.cells.length cm],.agg #[vi ((nfW ((blochI m).getD [])).rows),vi ((nfW ((blochI m).getD [])).cols),.slice aL ((nfW ((blochI m).getD [])).cells).length aM]]) rfl Xyf (by have hq:=G98 cX m Am cm (aQ.below' e).top (nfW ((blochI m).getD [])) aL aM D.rd.top b5 (Xag _);rw [bW.1,bW.2] at hq;exact hq)) ?_;rintro _ dQ ⟨ix,rfl,d5,d⟩;have c:=c.below d;have b:=b.below d;have e:=btr e d;obtain ⟨d6,dR⟩:=Xxr hR (d5 rfl);refine Zm rfl<|Ze (X2 (vs:=[vi ix,.bool true,.bool true]) rfl rfl)<|Ze (X2 (vs:=[vi ix,.bool true,.bool true]) rfl rfl)<|Ze (X2 (vs:=[vi ix,.bool true,.bool true]) rfl rfl)<|Za rfl<|Za rfl<|Za rfl<|Zx cD fun a i _ cE=>?_;refine Zm rfl<|Ze (Vd rfl X44 2)<|Zo (Vu (vs:=[vi ix]) (l':=[.string (tx tb),vi ((clX (nfL ((blochI m).getD []))) : Int),vi ix]) rfl rfl X5w b) ?_;rintro _ w26 ⟨t,I⟩;have g:=b;have c:=c.only t (by omega);have e:=Below.only e t A;have b:=I;refine ZX cE fun a i _ cF=>?_;refine Q5 fun _ cG=>?_
 refine X0a (fun a w=>Fr a 93 [(2,.pointer (some ⟨b4,0,none⟩)),(6,.pointer (some ⟨u,0,none⟩)),(90,.bool false)]∧Below w26.heap.size w26 w) ?_ ?_
 ·have o:Below w26.heap.size w26 w26:=Below.refl _ _
  refine Zr i<|Zm rfl<|Ze (X0o rfl)<|Zm rfl<|Zv (gW rfl) (Xb rfl) ?_;refine Zv (gW rfl) (X0o rfl) ?_;refine Ze (Xf rfl rfl rfl)<|Zm rfl<|Zv (gW rfl) (Xb rfl) ?_;refine Zv (gW rfl) (X0o rfl) ?_;refine Ze (Xf rfl rfl rfl)<|Zm rfl<|Zv (gW rfl) (Xb rfl) ?_;refine Zv (gW rfl) (X0o rfl) ?_;refine Ze (Xf rfl rfl rfl)<|Zm rfl<|Zv (gW rfl) (Vn X1w b) ?_;refine Zk (gW rfl) (Vc (Xk6 _ tb ((clX (nfL ((blochI m).getD []))) : Int) ix bU ⟨by omega,by omega⟩ ⟨by omega,by omega⟩) Xc9) ?_;rintro _ w27 ⟨rfl,d⟩;have e:=btr e d;have o:=btr o d;refine Zv (gW rfl) (X0o rfl) ?_;refine Ze (Xf rfl rfl rfl) ?_;refine Zn fun a i=>?_
  have H:Below w26.heap.size w26 w27:=o
  exact ⟨i.sb,H⟩
 rintro a dS ⟨i,d⟩;have c:=c.below d;have b:=b.below d;have e:=btr e d;refine cG _ _<|X3c i rfl ?_;refine Q7<|cF _ _<|Zs i fun _ cH=>?_;refine Ze (Vn X1w b)<|Zo (Vw [.string (tx tb),vi ((clX (nfL ((blochI m).getD []))) : Int),vi ix] X3a c) ?_;rintro _ dT ⟨t,I⟩;have g:=c;have e:=Below.only e t aR;have c:=I;refine Za rfl<|Zt cH fun a i=>?_
 refine Q6 (X3 i (X0r i rfl (ResV.cellN (l:=[.string (tx tb),vi ((clX (nfL ((blochI m).getD []))) : Int),vi ix]) rfl X1w (c.at 0) rfl) rfl) ?_)
 exact ⟨by rw [hY.s,hY.k,hY.p,hY.n,← aK,← d6],e⟩
theorem Xzq(n:World)(p:Mx)(Ap:Option Addr)(cp:Nat)(aB:Rd n n.heap.size 86 encD Ap p.cells)(q:Mx)(Aq:Option Addr)(cq:Nat)(aC:Rd n n.heap.size 86 encD Aq q.cells)(aI:p.cells.length=q.cells.length)(aJ:q.cells.length≤2305843009213693951) : Ret Tryz.prog 66 [.agg #[vi p.rows,vi p.cols,.slice Ap p.cells.length cp],.agg #[vi q.rows,vi q.cols,.slice Aq q.cells.length cq]] n (fun v w=>∃ i:Int,v=.tuple #[vi i,.bool (phaseS p q)]∧(phaseS p q=true→∃ k:Nat,k<8∧i=(k:Int)∧turnedS p q (k:Int)=true)∧Below n.heap.size n w):=by
 refine enter Tryz.func66 rfl 16 rfl rfl ?_;intro a c
 have g:=bz n
 refine Zs c fun _ aK=>?_;refine Zf (X09 (zs:=[vi p.rows,vi p.cols,.slice Ap p.cells.length cp]) rfl rfl) ?_;rintro _ w1 ⟨b4,rfl,aL,o,d⟩;have aR:=Q0 g.size aL;have g:=btr g o;refine Zf (X09 (zs:=[vi q.rows,vi q.cols,.slice Aq q.cells.length cq]) rfl rfl) ?_;rintro _ w2 ⟨b5,rfl,aM,o,l⟩
 have aH:b4≠b5:=by have:=d.lt;omega
 have aS:=Q0 g.size aM;have d:=d.below o;have g:=btr g o;refine Za rfl<|Za rfl<|ZX aK fun a c _ aN=>?_;refine Zs c fun _ aO=>?_;refine Za rfl<|Zt aO fun a c=>?_;refine Q8<|X03 (σ:=Nat) (fun (k:Nat) (a:Act) (w:World)=>Fr a 16 [(2,.pointer (some ⟨b4,0,none⟩)),(3,.pointer (some ⟨b5,0,none⟩)),(6,vi (k:Int))]∧(k≤8)∧(∀ j<k,turnedS p q ((j:Nat) : Int)=false)∧Blk w b4 32 [vi p.rows,vi p.cols,.slice Ap p.cells.length cp]∧Blk w b5 32 [vi q.rows,vi q.cols,.slice Aq q.cells.length cq]∧Below n.heap.size n w) (fun (k:Nat)=>8-k) 0 ?_ ?_
 ·exact ⟨c.sb,(by omega),(fun j hj=>by omega),d,l,g⟩
 rintro k a w3 ⟨c,hk,m,d,l,g⟩;refine Q5 fun _ aP=>?_;refine Zs c fun _ aQ=>?_;refine Zm rfl<|Ze (X14 rfl rfl)<|Zt aQ fun a c=>?_
 refine Xl c rfl (fun b=>?_) (fun b=>?_)
 ·have a9:=b;have b:=Q2 b
  have aT:(k:Int)<8:=b
  refine Q7<|aP _ _<|Q5 fun _ aD=>?_;refine Q8<|Zs c fun _ aE=>?_;refine Ze (Vn Xp d)<|Ze (Vn Xp l)<|Zm rfl<|Zf (Vc (Xz4 _ p Ap cp (aB.below' g).top q Aq cq (aC.below' g).top (k:Int) aI aJ) Xum) ?_;rintro _ w4 ⟨rfl,o⟩;have d:=d.below o;have l:=l.below o;have g:=btr g o;refine Zt aE fun a c=>?_
  refine Xl c rfl (fun e=>?_) (fun e=>?_)
  ·have aA:=e
   have hT:turnedS p q (k:Int)=true:=e
   refine Zs c fun _ aF=>?_;refine Zm rfl<|Za rfl<|Za rfl<|Zt aF fun a c=>?_;refine Q6<|Xw<|X7<|X7 ?_;refine Xw<|X7<|X3 c (X0r c rfl rfl rfl) ?_;exact ⟨_,by rw [phaseS,Xbo (f:=fun k=>turnedS p q ((k:Nat) : Int)) (k:=k) (by omega) hT],fun _=>⟨k,by omega,rfl,hT⟩,g⟩
  have aA:=e
  have hT:turnedS p q (k:Int)=false:=e
  refine Q7<|Xn<|aD _ _<|Zr c ?_;refine Zm rfl<|Ze (X01 rfl rfl (by omega) (by omega))<|Za rfl ?_;refine Zn fun a c=>?_;refine Xm ?_;exact ⟨k+1,⟨c.sb,(by omega),(fun j hj=>by rcases W4 j k with h9|h9;exact m j h9;obtain rfl:j=k:=(by omega);exact hT),d,l,g⟩,(by omega)⟩
 have a9:=b;have b:=Q1 b;refine Q9<|Xk<|Xk<|X05 ?_;refine aN _ _<|Zs c fun _ aG=>?_;refine Za rfl<|Za rfl<|Zt aG fun a c=>?_
 refine Q6 (X3 c (X0r c rfl rfl rfl) ?_)
 exact ⟨_,by rw [phaseS,X5c (fun j hj=>m j (by omega))],fun h9=>(by rw [phaseS,X5c (fun j hj=>m j (by omega))] at h9;cases h9),g⟩
theorem Xhj(m:World)(Ap:Option Addr)(cp:Nat)(p:List Dy)(n:Rd m m.heap.size 86 encD Ap p)(aR:p.length≤9) : Ret Tryz.prog 62 [.agg #[.slice Ap p.length cp]] m (fun v w=>v=vi (bexp p)∧Below m.heap.size m w):=by
 refine enter Tryz.func62 rfl 19 rfl rfl ?_;intro a f
 have i:=bz m
 refine Zs f fun _ aH=>?_;refine Zf (X09 (zs:=[.slice Ap p.length cp]) rfl rfl) ?_;rintro _ w1 ⟨b3,rfl,aI,hE,aJ⟩;have aP:=Q0 i.size aI;have i:=btr i hE;refine Za rfl<|Zx aH fun a f _ aK=>?_;refine Za rfl<|ZX aK fun a f _ aL=>?_;refine Zs f fun _ aM=>?_;refine Ze (Vd rfl X0t 0)<|Ze (X0 rfl X0j (aJ.at 0))<|Ze (X23 rfl Xv)<|Zm rfl<|Zt aM fun a f=>?_;refine Q8<|X03 (σ:=Nat) (fun (k:Nat) (a:Act) (w:World)=>Fr a 19 [(3,vi (bexp (p.take k))),(7,.slice Ap p.length cp),(8,vi (p.length:Int)),(9,vi (k:Int))]∧(k≤p.length)∧Below m.heap.size m w) (fun (k:Nat)=>p.length-k) 0 ?_ ?_
 ·exact ⟨f.sb,(Qf _),i⟩
 rintro k a w2 ⟨f,hk,i⟩;refine Zs f fun _ aN=>?_;refine Ze (X14 rfl rfl)<|ZX aN fun a f _ aO=>?_
 refine Xl f rfl (fun g=>?_) (fun g=>?_)
 ·have aB:=g;have g:=Q2 g
  obtain ⟨e,o⟩:=Xq (l:=p) (k:=k) (by omega)
  refine Q7<|aO _ _<|Q5 fun _ aC=>?_;refine Q8<|Zs f fun _ aD=>?_;refine Zi (k:=k) (u:=e) (enc:=encD) (l:=p) trivial rfl rfl Xv Xa Xz (n.below' i) o rfl ?_;intro aS a9;refine Ze (Xy (l:=[vi e.num.a,vi e.num.b,vi e.num.c,vi e.num.d,vi e.exp]) rfl X6 a9 rfl)<|Zf (X4 (zs:=[vi 0,vi 0,vi 0,vi 0,vi 0]) X0l rfl) ?_;rintro _ w3 ⟨aT,rfl,q,hE,j⟩;have aA:=Q0 i.size q;have aE:=(n.below' i).away q;have i:=btr i hE;refine Zo (Vw [vi e.num.a,vi e.num.b,vi e.num.c,vi e.num.d,vi e.exp] Xa j) ?_;rintro _ w4 ⟨ho,hb⟩;have aQ:=j;have i:=Below.only i ho aA;have j:=hb;refine Zt aD fun a f=>?_;refine Zr f<|Zm rfl<|Ze (Vd rfl X0y 4)<|Ze (X0 rfl X8 (j.at 4))<|Zf (X1j (vs:=[vi (bexp (p.take k)),vi e.exp]) rfl Xsj (by have hq:=Xz8 w4 (bexp (p.take k)) e.exp;rw [← Xb4 o] at hq;exact hq)) ?_;rintro _ _ ⟨rfl,rfl⟩;refine Za rfl ?_;refine Zn fun a f=>?_;refine Xn<|aC _ _<|Zr f<|Ze (X01 rfl rfl (by omega) (by omega))<|Zm rfl ?_;refine Zn fun a f=>?_;refine Xm ?_;exact ⟨k+1,⟨f.sb,(by omega),i⟩,(by omega)⟩
 have aB:=g;have g:=Q1 g
 have aF:bexp (p.take k)=bexp p:=by rw [Qi (by omega)]
 refine Q9<|Xk<|Xk<|X05 ?_;refine aL _ _<|Zs f fun _ aG=>?_;refine Zm rfl<|Za rfl<|Zt aG fun a f=>?_
 refine Q6 (X3 f (Xt f rfl rfl) ?_)
 exact ⟨by rw [aF],i⟩
theorem Xw0(p:World)(Al:Option Addr)(cl:Nat)(l:List Dy)(aD:Rd p p.heap.size 86 encD Al l)(k:Nat)(x:k<24)(a9:l=clB k) : Ret Tryz.prog 65 [.agg #[.slice Al l.length cl]] p (fun v w=>v=vi (k:Int)∧Below p.heap.size p w):=by
 have aY:(wsN 24).length=24:=X3x 24
 refine enter Tryz.func65 rfl 25 rfl rfl ?_;intro a i
 have e:=bz p
 refine Zs i fun _ aQ=>?_;refine Zf (X09 (zs:=[.slice Al l.length cl]) rfl rfl) ?_;rintro _ w1 ⟨b3,rfl,aR,m,b⟩;have aW:=Q0 e.size aR;have e:=btr e m;refine Za rfl<|ZX aQ fun a i _ aZ=>?_;refine Zs i fun _ aS=>?_;refine Zf (Vc (Xr7 _) Xh2) ?_;rintro _ w2 ⟨A6,c6,rfl,c,m⟩;have c:=c.lower e.size;have b:=b.below m;have e:=btr e m;refine Ze (X23 rfl X1e)<|Zm rfl<|Zt aS fun a i=>?_;refine Q8<|X03 (σ:=Nat) (fun (j:Nat) (a:Act) (w:World)=>Fr a 25 [(1,.pointer (some ⟨b3,0,none⟩)),(7,.slice A6 (wsN 24).length c6),(8,vi ((wsN 24).length:Int)),(9,vi (j:Int))]∧(j≤k)∧Blk w b3 66 [.slice Al l.length cl]∧Own w p.heap.size 9 1 encTx A6 c6 (wsN 24)∧Below p.heap.size p w) (fun (j:Nat)=>24-j) 0 ?_ ?_
 ·exact ⟨i.sb,(Qf _),b,c,e⟩
 rintro j a w3 ⟨i,hj,b,c,e⟩;refine Zs i fun _ aT=>?_;refine Ze (X14 rfl rfl)<|ZX aT fun a i _ aU=>?_
 refine Xl i rfl (fun n=>?_) (fun n=>?_)
 ·have aE:=n;have n:=Q2 n
  obtain ⟨b0,aX⟩:=Xq (l:=(wsN 24)) (k:=j) (by omega)
  have f:j<24:=by have:=n;omega
  refine Q7<|aU _ _<|Q5 fun _ aF=>?_;refine Q8<|Zs i fun _ aG=>?_;refine Zm rfl<|Zi (k:=j) (u:=tx (cw j)) (enc:=encTx) (l:=(wsN 24)) trivial rfl rfl X1e Xff X1n c.rd (X9a f) rfl ?_;intro b1 aA;refine Ze (X0 rfl X7k aA)<|Za rfl<|Za rfl<|Zx aG fun a i _ aH=>?_;refine Zm rfl<|Zf (Vc (Xqp _ (cw j) (by have:=(X6n f).2;omega)) Xh1) ?_;rintro _ w4 ⟨aI,aJ,rfl,aK,m⟩;have b:=b.below m;have c:=c.below m;have e:=btr e m;refine Zf (X1j (vs:=[.agg #[vi ((opM (wdG (cw j))).rows),vi ((opM (wdG (cw j))).cols),.slice aI ((opM (wdG (cw j))).cells).length aJ]]) rfl X9g (by have hq:=Xgb w4 (opM (wdG (cw j))) aI aJ aK.top (X89 (X6r f));rw [X6r f,Qq,Option.isSome_some] at hq;exact hq)) ?_;rintro _ w5 ⟨q,t,rfl,g,m⟩;have g:=g.lower e.size;have b:=b.below m;have c:=c.below m;have e:=btr e m;refine Zm rfl<|Ze (X2 (vs:=[.agg #[.slice q (clB j).length t],.bool true]) rfl rfl)<|Ze (X2 (vs:=[.agg #[.slice q (clB j).length t],.bool true]) rfl rfl)<|Zf (X4 (zs:=[.slice none 0 0]) X22 rfl) ?_;rintro _ w6 ⟨b19,rfl,aL,m,o⟩
  have aM:b3≠b19:=by have:=b.lt;omega
  have aB:=Q0 e.size aL;have b:=b.below m;have c:=c.below m;have g:=g.below m;have e:=btr e m;refine Zo (Vw [.slice q (clB j).length t] X1i o) ?_;rintro _ w7 ⟨ho,hb⟩;have y:=o;have b:=b.only ho (by omega);have c:=c.onlyT ho y rfl;have g:=g.onlyT ho y rfl;have e:=Below.only e ho aB;have o:=hb;refine Za rfl<|Zx aH fun a i _ aN=>?_;refine Ze (Vn X16 o)<|Ze (Vn X16 b)<|Zf (Vc (Xrl _ q t (clB j) g.rd.top Al cl l (aD.below' e).top (by rw [a9,X3y f,X3y x]) (by rw [X3y f];decide)) Xge) ?_;rintro _ w8 ⟨rfl,m⟩;have b:=b.below m;have c:=c.below m;have e:=btr e m;refine Zt aN fun a i=>?_
  refine Xl i rfl (fun d=>?_) (fun d=>?_)
  ·have aC:=d;have d:=Q2 d
   have aO:j=k:=Xlj f x (by rw [← a9];exact d)
   refine Zs i fun _ aP=>?_;refine Zm rfl<|Za rfl<|Zt aP fun a i=>?_;refine Q6<|Xw<|X7<|X7 ?_;refine Xw<|X7<|X3 i (Xt i rfl rfl) ?_;exact ⟨by rw [aO],e⟩
  have aC:=d;have d:=Q1 d
  have aO:j≠k:=fun h8=>d (by rw [a9,h8])
  refine Q7<|Xn<|aF _ _<|Zr i ?_;refine Ze (X01 rfl rfl (by omega) (by omega))<|Zm rfl ?_;refine Zn fun a i=>?_;refine Xm ?_;exact ⟨j+1,⟨i.sb,(by omega),b,c,e⟩,(by omega)⟩
 have aE:=n;have n:=Q1 n
 omega
theorem Xrf(G:World)(tb:List UInt8)(sl:List Nat)(k p:Nat)(L:k<24)(bJ:tb=sl.map sylT)(cK:∀ s ∈ sl,s<3)(bK:sl.length≤40)(dE:p<8) : Ret Tryz.prog 40 [.agg #[.string (tx tb),vi (k:Int),vi (p:Int)]] G (fun v w=>∃ A c,v=.agg #[vi 1,.slice A (fmW k sl p).length c]∧Own w G.heap.size 90 3 encG A c (fmW k sl p)∧Below G.heap.size G w):=by
 have dF:(wsN 24).length=24:=X3x 24
 have dG:=(X6n L).2
 have dH:tb.length=sl.length:=by rw [bJ,Qo]
 refine enter Tryz.func40 rfl 62 rfl rfl ?_;intro a m
 have g:=bz G
 refine Zs m fun _ cM=>?_;refine Zf (X09 (zs:=[.string (tx tb),vi (k:Int),vi (p:Int)]) rfl rfl) ?_;rintro _ w1 ⟨b2,rfl,cO,n,b⟩;have dA:=Q0 g.size cO;have g:=btr g n;refine Zf (X4 (zs:=[vi 0,.slice none 0 0]) X7h rfl) ?_;rintro _ w2 ⟨b4,rfl,cP,n,e⟩;have bL:=Q0 g.size cP;have b:=b.below n;have g:=btr g n;refine Zx cM fun a m _ cQ=>?_;refine Ze (Xg (ps:=[(0,vi 1)]) (cs:=[vi 1,.slice none 0 0]) rfl (fun _=>by first|rfl|kernel_rfl))<|Zf (X4 (zs:=[vi 0,.slice none 0 0]) X7h rfl) ?_;rintro _ w3 ⟨b8,rfl,cR,n,d⟩
 have cJ:b4≠b8:=by have:=e.lt;omega
 have I:=Q0 g.size cR;have b:=b.below n;have e:=e.below n;have g:=btr g n;refine Zo (Vw [vi 1,.slice none 0 0] X3d d) ?_;rintro _ w4 ⟨h,hb⟩;have o:=d;have b:=b.only h (Blk.ne b o rfl);have e:=e.only h (by omega);have g:=Below.only g h I;have d:=hb;refine ZX cQ fun a m _ cS=>?_;refine X07 none (fun _=>false) mixed ?_;intro w5 n;have b:=b.below n;have e:=e.below n;have d:=d.below n;have g:=btr g n;refine Yb m<|Yo 1 rfl (fun _=>Vd rfl X4s 1)<|Ye 2 rfl (X0 rfl X8 (b.at 1))<|Y1 0 ?_;refine Yk rfl trivial (Vc (Xr7 _) Xh2) (fun _ _ ⟨cT,cU,_,M,n⟩=>n) ?_;rintro _ w6 ⟨cT,cU,rfl,M,n⟩;have M:=M.lower g.size;have b:=b.below n;have e:=e.below n;have d:=d.below n;have g:=btr g n;refine Yi (k:=k) (u:=tx (cw k)) (enc:=encTx) (l:=(wsN 24)) 3 rfl trivial rfl rfl X1e Xff X1n M.rd (X9a L) rfl ?_;intro dI aS;refine Ye 4 rfl (X0 rfl X7k aS)<|Yo 5 rfl (fun _=>X0p rfl) ?_;refine Yd fun a m=>?_;refine cS _ _<|Q5 fun _ bM=>?_;refine Zs m fun _ bN=>?_;refine Za rfl<|Zt bN fun a m=>?_;refine Q8<|X03 (σ:=Nat×(List Gt)) (fun (s:Nat×(List Gt)) (a:Act) (w:World)=>match s with|(j,gs)=>∃ aJ aK,Fr a 62 [(1,.pointer (some ⟨b2,0,none⟩)),(2,.pointer (some ⟨b4,0,none⟩)),(3,.pointer (some ⟨b8,0,none⟩)),(4,.string (tx (cw k))),(5,vi (j:Int))]∧(j≤(cw k).length)∧(gs=wdG ((cw k).take j))∧Blk w b2 27 [.string (tx tb),vi (k:Int),vi (p:Int)]∧Blk w b4 43 [vi 0,.slice none 0 0]∧Blk w b8 43 [vi 1,.slice aJ gs.length aK]∧Own w G.heap.size 90 3 encG aJ aK gs∧Below G.heap.size G w) (fun (s:Nat×(List Gt))=>match s with|(j,gs)=>(cw k).length-j) (0,[]) ?_ ?_
 ·exact ⟨none,0,m.sb,(Qf _),rfl,b,e,d,(Own.nil _ _ _ _ _),g⟩
 rintro ⟨j,gs⟩ a w7 ⟨aJ,aK,m,hj,y,b,e,d,q,g⟩
 have dJ:gs.length≤9:=by rw [y];simp [wdG];omega
 refine Q5 fun _ bO=>?_;refine Zs m fun _ bP=>?_;refine Zm rfl<|Zm rfl<|Ze (Xai (s:=(cw k)) rfl Tryz.underlying9)<|Ze (X14 rfl rfl)<|Zt bP fun a m=>?_
 refine Xl m rfl (fun B=>?_) (fun B=>?_)
 ·have aT:=B;have B:=Q2 B
  obtain ⟨dK,dB⟩:=Xq (l:=(cw k)) (k:=j) (by omega)
  obtain ⟨u7,aB⟩:=Xq (l:=cw k) (k:=j) (by have:=B;omega)
  refine Q7<|bO _ _<|Q5 fun _ aN=>?_;refine Q8<|Zs m fun _ bQ=>?_;refine Za rfl<|ZX bQ fun a m _ aO=>?_;refine Zs m fun _ bR=>?_;refine Zm rfl<|Zm rfl<|Ze (X8o (s:=(cw k)) (k:=j) (u:=u7) rfl rfl Tryz.underlying9 rfl aB)<|Ze (Xa8 rfl rfl)<|Zt bR fun a m=>?_
  refine Xl m rfl (fun J=>?_) (fun J=>?_)
  ·have aU:=J;have aW:=Xfi J;refine Zr m<|Za rfl<|Zt aO fun a m=>?_;refine Zr m<|Ze (Vd rfl X1g 1)<|Ze (X0 rfl X3n (d.at 1))<|Zm rfl<|Ze (Xg (ps:=[(0,vi 5)]) (cs:=[vi 5,vi 0,vi 0]) rfl (fun _=>by first|rfl|kernel_rfl))<|Zf (Xd (k:=1) (vs:=[.agg #[vi 5,vi 0,vi 0]]) (zs:=[vi 5,vi 0,vi 0]) rfl X0z X15 rfl rfl) ?_;rintro _ w8 ⟨dL,rfl,aP,n,aC⟩;have cV:=Q0 g.size aP;have Q:=q.away aP;have b:=b.below n;have e:=e.below n;have d:=d.below n;have q:=q.below n;have g:=btr g n;refine Zf (X0n (enc:=encG) (l:=(gs)) (l2:=([(⟨5,0,0⟩ : Gt)])) (B0:=G.heap.size) rfl rfl X0z X15 X0k X20 q (Rd.of_blk aC rfl _ aC.lt) (by simp only [maxLen];simp;omega) (by simp;omega) g.size) ?_;rintro _ w9 ⟨aX,aY,rfl,aD,y,H⟩
   have f:Own _ G.heap.size 90 3 encG _ _ (gs):=q
   have bG:=H _ aC.lt Q;clear H;have b:=b.appT f y rfl;have e:=e.appT f y rfl;have d:=d.appT f y rfl;have g:=Below.app g f y (Qb _) g.size;clear f y;refine Ze (Vd rfl X1g 1)<|Zo (Vu (vs:=[.slice aX (gs++([(⟨5,0,0⟩ : Gt)])).length aY]) (l':=[vi 1,.slice aX (gs++([(⟨5,0,0⟩ : Gt)])).length aY]) rfl rfl X9u d) ?_;rintro _ dM ⟨h,hb⟩;have o:=d;have b:=b.only h (Blk.ne b o rfl);have e:=e.only h (by omega);have aD:=aD.onlyT h o rfl;have g:=Below.only g h I;have d:=hb;refine Zn fun a m=>?_;refine Xn<|aN _ _<|Zr m<|Zm rfl<|Ze (X01 rfl rfl (by omega) (by omega))<|Za rfl ?_;refine Zn fun a m=>?_;refine Xm ?_;exact ⟨(j+1,gs++([(⟨5,0,0⟩ : Gt)])),⟨aX,aY,m.sb,(by omega),(by rw [y,X6j aB,aW]),b,e,d,aD,g⟩,(by first|omega|(dsimp only;omega))⟩
  have aU:=J;have aW:=Xfb J;refine Q7<|aO _ _<|Zr m<|Ze (Vd rfl X1g 1)<|Ze (X0 rfl X3n (d.at 1))<|Zm rfl<|Ze (Xg (ps:=[(0,vi 1)]) (cs:=[vi 1,vi 0,vi 0]) rfl (fun _=>by first|rfl|kernel_rfl))<|Zf (Xd (k:=1) (vs:=[.agg #[vi 1,vi 0,vi 0]]) (zs:=[vi 1,vi 0,vi 0]) rfl X0z X15 rfl rfl) ?_;rintro _ dN ⟨dP,rfl,aQ,n,aE⟩;have cW:=Q0 g.size aQ;have U:=q.away aQ;have b:=b.below n;have e:=e.below n;have d:=d.below n;have q:=q.below n;have g:=btr g n;refine Zf (X0n (enc:=encG) (l:=(gs)) (l2:=([(⟨1,0,0⟩ : Gt)])) (B0:=G.heap.size) rfl rfl X0z X15 X0k X20 q (Rd.of_blk aE rfl _ aE.lt) (by simp only [maxLen];simp;omega) (by simp;omega) g.size) ?_;rintro _ dQ ⟨aZ,b0,rfl,aF,y,H⟩
  have f:Own _ G.heap.size 90 3 encG _ _ (gs):=q
  have bH:=H _ aE.lt U;clear H;have b:=b.appT f y rfl;have e:=e.appT f y rfl;have d:=d.appT f y rfl;have g:=Below.app g f y (Qb _) g.size;clear f y;refine Ze (Vd rfl X1g 1)<|Zo (Vu (vs:=[.slice aZ (gs++([(⟨1,0,0⟩ : Gt)])).length b0]) (l':=[vi 1,.slice aZ (gs++([(⟨1,0,0⟩ : Gt)])).length b0]) rfl rfl X9u d) ?_;rintro _ dR ⟨h,hb⟩;have o:=d;have b:=b.only h (Blk.ne b o rfl);have e:=e.only h (by omega);have aF:=aF.onlyT h o rfl;have g:=Below.only g h I;have d:=hb;refine Zn fun a m=>?_;refine Xn<|aN _ _<|Zr m<|Zm rfl<|Ze (X01 rfl rfl (by omega) (by omega))<|Za rfl ?_;refine Zn fun a m=>?_;refine Xm ?_;exact ⟨(j+1,gs++([(⟨1,0,0⟩ : Gt)])),⟨aZ,b0,m.sb,(by omega),(by rw [y,X6j aB,aW]),b,e,d,aF,g⟩,(by first|omega|(dsimp only;omega))⟩
 have aT:=B;have B:=Q1 B
 have bS:gs=wdG (cw k):=by rw [y,Qi (by omega)]
 refine Q9<|Xk<|Xk<|X05 ?_;refine bM _ _<|Q5 fun _ bU=>?_;refine Zs m fun _ bW=>?_;refine Ze (Vd rfl X29 0)<|Ze (X0 rfl X7k (b.at 0))<|Ze (Xai (s:=tb) rfl Tryz.underlying9)<|Ze (X1s rfl rfl (by omega) (by omega))<|Za rfl<|Zt bW fun a m=>?_;refine Q8<|X03 (σ:=Nat×Int×(List Gt)) (fun (s:Nat×Int×(List Gt)) (a:Act) (w:World)=>match s with|(j2,i,z)=>∃ aL aM,Fr a 62 [(1,.pointer (some ⟨b2,0,none⟩)),(2,.pointer (some ⟨b4,0,none⟩)),(3,.pointer (some ⟨b8,0,none⟩)),(7,vi i)]∧(j2≤sl.length)∧(i=(sl.length:Int)-1-(j2:Int))∧(z=fmG k (sl.drop (sl.length-j2)))∧Blk w b2 27 [.string (tx tb),vi (k:Int),vi (p:Int)]∧Blk w b4 43 [vi 0,.slice none 0 0]∧Blk w b8 43 [vi 1,.slice aL z.length aM]∧Own w G.heap.size 90 3 encG aL aM z∧Below G.heap.size G w) (fun (s:Nat×Int×(List Gt))=>match s with|(j2,i,z)=>sl.length-j2) (0,((tb.length:Int)-1),gs) ?_ ?_
 ·exact ⟨aJ,aK,m.sb,(Qf _),(by omega),(by rw [bS,Nat.sub_zero,List.drop_length,Xgw]),b,e,d,q,g⟩
 rintro ⟨j2,i,z⟩ a dS ⟨aL,aM,m,dT,hi,b1,b,e,d,E,g⟩
 have dC:z.length≤126:=by rw [b1];exact X90 L (by rw [List.length_drop];omega)
 refine Q5 fun _ bZ=>?_;refine Zs m fun _ cA=>?_;refine Zm rfl<|Ze (Xid rfl rfl)<|Zt cA fun a m=>?_
 refine Xl m rfl (fun t=>?_) (fun t=>?_)
 ·have b3:=t;have t:=Q2 t
  obtain ⟨s,cX,d5,d6⟩:=Xk1 (sl:=sl) (j:=j2) (by have:=t;omega)
  have aB:=Xko bJ cX;have dU:=X5n s;refine Q7<|bZ _ _<|Q5 fun _ cB=>?_;refine Q8<|X07 none (fun j=>[7,9].contains j) mixed ?_;intro dW n;have b:=b.below n;have e:=e.below n;have d:=d.below n;have E:=E.below n;have g:=btr g n;refine Yb m<|Yo 0 rfl (fun _=>Vd rfl X1g 1)<|Ye 1 rfl (X0 rfl X3n (d.at 1))<|Yo 2 rfl (fun _=>Vd rfl X29 0)<|Ye 3 rfl (X0 rfl X7k (b.at 0))<|Yo 4 rfl (fun _=>Xb rfl)<|Yo 5 rfl (fun _=>X8o (s:=tb) (k:=(sl.length-1-j2)) (u:=(sylT s)) rfl rfl Tryz.underlying9 (by omega) aB)<|Y1 6 ?_;refine Yk rfl trivial (Vc (Xqn _ (sylT s) s (cK s d5) rfl) Xhw) (fun _ _ ⟨d7,d8,_,N,n⟩=>n) ?_;rintro _ dX ⟨d7,d8,rfl,N,n⟩;have N:=N.lower g.size;have b:=b.below n;have e:=e.below n;have d:=d.below n;have E:=E.below n;have g:=btr g n;refine Y1 7<|Yt rfl trivial rfl (X0n (enc:=encG) (l:=(z)) (l2:=((sylG s))) (B0:=G.heap.size) rfl rfl X0z X15 X0k X20 E N.rd (by simp only [maxLen];omega) (by omega) g.size) ?_;rintro _ dY ⟨b5,b6,rfl,aG,y,H⟩
  have f:Own _ G.heap.size 90 3 encG _ _ (z):=E
  clear H;have b:=b.appT f y rfl;have e:=e.appT f y rfl;have d:=d.appT f y rfl;have g:=Below.app g f y (Qb _) g.size;clear f y;refine Yo 8 rfl (fun _=>Vd rfl X1g 1)<|Y1 9 ?_;refine Yh rfl trivial rfl (Vu (vs:=[.slice b5 (z++(sylG s)).length b6]) (l':=[vi 1,.slice b5 (z++(sylG s)).length b6]) rfl rfl X9u d) ?_;rintro _ e8 ⟨h,hb⟩;have o:=d;have b:=b.only h (Blk.ne b o rfl);have e:=e.only h (by omega);have aG:=aG.onlyT h o rfl;have g:=Below.only g h I;have d:=hb;refine Yd fun a m=>?_;refine Xn<|cB _ _<|Zr m<|Zm rfl<|Ze (X1s rfl rfl (by omega) (by omega))<|Za rfl ?_;refine Zn fun a m=>?_;refine Xm ?_;exact ⟨(j2+1,(i-1),z++(sylG s)),⟨b5,b6,m.sb,(by omega),(by omega),(by rw [b1,d6,Xe7]),b,e,d,aG,g⟩,(by first|omega|(dsimp only;omega))⟩
 have b3:=t;have t:=Q1 t
 have b7:z=fmG k sl:=by rw [b1,show sl.length-j2=0 from by have:=t;omega,List.drop_zero]
 refine Q9<|Xk<|Xk<|X05 ?_;refine bU _ _<|Q5 fun _ cC=>?_;refine Zs m fun _ cD=>?_;refine Za rfl<|Zt cD fun a m=>?_;refine Q8<|X03 (σ:=Nat×(List Gt)) (fun (s:Nat×(List Gt)) (a:Act) (w:World)=>match s with|(j3,x)=>∃ W a9,Fr a 62 [(1,.pointer (some ⟨b2,0,none⟩)),(2,.pointer (some ⟨b4,0,none⟩)),(3,.pointer (some ⟨b8,0,none⟩)),(8,vi (j3:Int))]∧(j3≤p)∧(x=fmW k sl j3)∧Blk w b2 27 [.string (tx tb),vi (k:Int),vi (p:Int)]∧Blk w b4 43 [vi 0,.slice none 0 0]∧Blk w b8 43 [vi 1,.slice W x.length a9]∧Own w G.heap.size 90 3 encG W a9 x∧Below G.heap.size G w) (fun (s:Nat×(List Gt))=>match s with|(j3,x)=>p-j3) (0,z) ?_ ?_
 ·exact ⟨aL,aM,m.sb,(Qf _),(by rw [Xa3,b7]),b,e,d,E,g⟩
 rintro ⟨j3,x⟩ a eA ⟨W,a9,m,eB,b9,b,e,d,C,g⟩
 have dD:x.length≤126+j3:=by rw [b9];exact Xd4 L bK j3
 refine Q5 fun _ cE=>?_;refine Zs m fun _ cF=>?_;refine Zm rfl<|Ze (Vd rfl X44 2)<|Ze (X0 rfl X8 (b.at 2))<|Ze (X14 rfl rfl)<|Zt cF fun a m=>?_
 refine Xl m rfl (fun D=>?_) (fun D=>?_)
 ·have bC:=D;have D:=Q2 D;refine Q7<|cE _ _<|Q5 fun _ cG=>?_;refine Q8<|Zr m<|Ze (Vd rfl X1g 1)<|Ze (X0 rfl X3n (d.at 1))<|Ze (Xg (ps:=[(0,vi 12)]) (cs:=[vi 12,vi 0,vi 0]) rfl (fun _=>by first|rfl|kernel_rfl))<|Zf (Xd (k:=1) (vs:=[.agg #[vi 12,vi 0,vi 0]]) (zs:=[vi 12,vi 0,vi 0]) rfl X0z X15 rfl rfl) ?_;rintro _ eC ⟨eD,rfl,aR,n,aH⟩;have d9:=Q0 g.size aR;have aA:=C.away aR;have b:=b.below n;have e:=e.below n;have d:=d.below n;have C:=C.below n;have g:=btr g n;refine Zf (X0n (enc:=encG) (l:=(x)) (l2:=([(⟨12,0,0⟩ : Gt)])) (B0:=G.heap.size) rfl rfl X0z X15 X0k X20 C (Rd.of_blk aH rfl _ aH.lt) (by simp only [maxLen];simp;omega) (by simp;omega) g.size) ?_;rintro _ eE ⟨bD,bE,rfl,aI,y,H⟩
  have f:Own _ G.heap.size 90 3 encG _ _ (x):=C
  have bI:=H _ aH.lt aA;clear H;have b:=b.appT f y rfl;have e:=e.appT f y rfl;have d:=d.appT f y rfl;have g:=Below.app g f y (Qb _) g.size;clear f y;refine Ze (Vd rfl X1g 1)<|Zo (Vu (vs:=[.slice bD (x++([(⟨12,0,0⟩ : Gt)])).length bE]) (l':=[vi 1,.slice bD (x++([(⟨12,0,0⟩ : Gt)])).length bE]) rfl rfl X9u d) ?_;rintro _ eF ⟨h,hb⟩;have o:=d;have b:=b.only h (Blk.ne b o rfl);have e:=e.only h (by omega);have aI:=aI.onlyT h o rfl;have g:=Below.only g h I;have d:=hb;refine Zn fun a m=>?_;refine Xn<|cG _ _<|Zr m<|Zm rfl<|Ze (X01 rfl rfl (by omega) (by omega))<|Za rfl ?_;refine Zn fun a m=>?_;refine Xm ?_;exact ⟨(j3+1,x++([(⟨12,0,0⟩ : Gt)])),⟨bD,bE,m.sb,(by omega),(by rw [b9,Xda]),b,e,d,aI,g⟩,(by first|omega|(dsimp only;omega))⟩
 have bC:=D;have D:=Q1 D
 have bF:x=fmW k sl p:=by rw [b9,show j3=p from by have:=D;omega]
 refine Q9<|Xk<|Xk<|X05 ?_;refine cC _ _<|Zs m fun _ cH=>?_;refine Ze (Vn X1p d)<|Zo (Vw [vi 1,.slice W x.length a9] X3d e) ?_;rintro _ eH ⟨h,hb⟩;have o:=e;have C:=C.onlyT h o rfl;have g:=Below.only g h bL;have e:=hb;refine Zt cH fun a m=>?_
 refine Q6 (X3 m (Xt m rfl (ResV.cellN (l:=[vi 1,.slice W x.length a9]) rfl X1p (e.at 0) rfl)) ?_)
 subst bF
 exact ⟨W,a9,rfl,C,g⟩
theorem Xwo(w0:World)(Am:Option Addr)(cm:Nat)(m:Mx)(b0:Rd w0 w0.heap.size 86 encD Am m.cells)(dG:oneQ m=true) : Ret Tryz.prog 31 [.agg #[vi m.rows,vi m.cols,.slice Am m.cells.length cm]] w0 (fun v w=>v=.tuple #[.agg #[.string (tx (nfs m)),vi (nfk m:Int),vi (nfp m:Int)],.bool (nfM m).isSome]∧Below w0.heap.size w0 w):=by
 have bQ:=Xjb m;refine enter Tryz.func31 rfl 68 rfl rfl ?_;intro a A
 have x:=bz w0
 refine Zs A fun _ dH=>?_;refine Zf (X09 (zs:=[vi m.rows,vi m.cols,.slice Am m.cells.length cm]) rfl rfl) ?_;rintro _ w1 ⟨b3,rfl,dI,d,f⟩;have eD:=Q0 x.size dI;have x:=btr x d;refine Zf (X4 (zs:=[.string (tx []),vi 0,vi 0]) X60 rfl) ?_;rintro _ w2 ⟨b4,rfl,dJ,d,e⟩;have b1:=Q0 x.size dJ;have f:=f.below d;have x:=btr x d;refine Za rfl<|Zx dH fun a A _ dK=>?_;refine Ze (Vn Xp f)<|Zf (Vc (Xgb _ m Am cm (b0.below' x).top dG) X9g) ?_;rintro _ w3 ⟨A6,c6,rfl,H,d⟩;have H:=H.lower x.size;have f:=f.below d;have e:=e.below d;have x:=btr x d;refine Zm rfl<|Ze (X2 (vs:=[.agg #[.slice A6 ((blochI m).getD []).length c6],.bool ((blochI m).isSome)]) rfl rfl)<|Ze (X2 (vs:=[.agg #[.slice A6 ((blochI m).getD []).length c6],.bool ((blochI m).isSome)]) rfl rfl)<|Zf (X4 (zs:=[.slice none 0 0]) X22 rfl) ?_;rintro _ w4 ⟨b8,rfl,dL,d,o⟩;have b2:=Q0 x.size dL;have f:=f.below d;have e:=e.below d;have H:=H.below d;have x:=btr x d;refine Zo (Vw [.slice A6 ((blochI m).getD []).length c6] X1i o) ?_;rintro _ w5 ⟨z,hb⟩;have c:=o;have f:=f.only z (Blk.ne f c rfl);have e:=e.only z (Blk.ne e c rfl);have H:=H.onlyT z c rfl;have x:=Below.only x z b2;have o:=hb;refine Za rfl<|ZX dK fun a A _ dM=>?_;refine Q5 fun _ bR=>?_;refine X0a (fun a w=>Fr a 68 [(1,.pointer (some ⟨b3,0,none⟩)),(2,.pointer (some ⟨b4,0,none⟩)),(4,.pointer (some ⟨b8,0,none⟩)),(22,.bool ((!((blochI m).isSome))||(decide (40<(bexp ((blochI m).getD []))))))]∧Below w5.heap.size w5 w) ?_ ?_
 ·have aZ:Below w5.heap.size w5 w5:=Below.refl _ _
  refine Zr A<|Zm rfl<|Ze (X0o rfl)<|Zm rfl ?_
  refine Zg 18 rfl (fun C=>?_) (fun C=>?_)
  ·refine Zp (gP C) ?_;refine Zp (gP C) ?_;refine Zp (gP C) ?_;refine Ze (Xh rfl C rfl) ?_;refine Zn fun a A=>?_
   have b9:Below w5.heap.size w5 w5:=aZ
   exact ⟨A.sub ⟨rfl,rfl,rfl,X1 rfl (by first|rfl|(simp only [C,bs];done)|simp [C]),trivial⟩,b9⟩
  refine Zv (gW C) (Vn X16 o) ?_;refine Zk (gW C) (Vc (Xhj _ A6 c6 ((blochI m).getD []) H.rd.top bQ) X92) ?_;rintro _ w6 ⟨rfl,d⟩;have x:=btr x d;have aZ:=btr aZ d;refine Zv (gW C) (X9k rfl rfl) ?_;refine Ze (Xf rfl C rfl) ?_;refine Zn fun a A=>?_
  have b9:Below w5.heap.size w5 w6:=aZ
  exact ⟨A.sub ⟨rfl,rfl,rfl,X1 rfl (by first|rfl|(simp only [C,bs];done)|simp [C]),trivial⟩,b9⟩
 rintro a w7 ⟨A,d⟩;have f:=f.below d;have e:=e.below d;have o:=o.below d;have H:=H.below d;have x:=btr x d;refine bR _ _ ?_
 refine Xl A rfl (fun aF=>?_) (fun aF=>?_)
 ·have aJ:=aF;have hN:=nfN aF;refine Zs A fun _ bS=>?_;refine Ze (Xg (ps:=[]) (cs:=[.string (tx []),vi 0,vi 0]) rfl (fun _=>by first|rfl|kernel_rfl))<|Zo (Vw [.string (tx []),vi 0,vi 0] X3a e) ?_;rintro _ w8 ⟨z,hb⟩;have c:=e;have x:=Below.only x z b1;have e:=hb;refine Za rfl<|Zt bS fun a A=>?_;refine Q6<|X7<|X3 A (X0r A rfl (ResV.cellN (l:=[.string (tx []),vi 0,vi 0]) rfl X1w (e.at 0) rfl) rfl) ?_;exact ⟨by rw [hN.s,hN.k,hN.p,hN.n];rfl,x⟩
 have aJ:=aF;obtain ⟨bU,aR⟩:=Xl4 aF;have hR:=nfR bU aR;have hY:=nfY bU aR;have Q:=X24 ((blochI m).getD []);refine Q7<|dM _ _<|Zs A fun _ bW=>?_;refine Ze (Xg (ps:=[]) (cs:=[.string (tx []),vi 0,vi 0]) rfl (fun _=>by first|rfl|kernel_rfl))<|Zf (X4 (zs:=[.string (tx []),vi 0,vi 0]) X60 rfl) ?_;rintro _ w9 ⟨b15,rfl,bZ,d,b⟩
 have cA:b4≠b15:=by have:=e.lt;omega
 have aE:=Q0 x.size bZ;have f:=f.below d;have e:=e.below d;have o:=o.below d;have H:=H.below d;have x:=btr x d;refine Zo (Vw [.string (tx []),vi 0,vi 0] X3a b) ?_;rintro _ eH ⟨z,hb⟩;have c:=b;have f:=f.only z (Blk.ne f c rfl);have e:=e.only z (by omega);have o:=o.only z (Blk.ne o c rfl);have H:=H.onlyT z c rfl;have x:=Below.only x z aE;have b:=hb;refine Zx bW fun a A _ cB=>?_;refine Ze (Xg (ps:=[]) (cs:=[.bool false]) rfl (fun _=>by first|rfl|kernel_rfl))<|Zf (X09 (zs:=[.bool false]) rfl rfl) ?_;rintro _ eI ⟨a9,rfl,cC,d,g⟩;have aK:=Q0 x.size cC;have f:=f.below d;have e:=e.below d;have o:=o.below d;have b:=b.below d;have H:=H.below d;have x:=btr x d;refine Za rfl<|ZX cB fun a A _ cD=>?_;refine Q8<|X03 (σ:=Nat×(List Dy)×(List UInt8)) (fun (s:Nat×(List Dy)×(List UInt8)) (a:Act) (w:World)=>match s with|(n,lc,tb)=>∃ I J,Fr a 68 [(1,.pointer (some ⟨b3,0,none⟩)),(2,.pointer (some ⟨b4,0,none⟩)),(4,.pointer (some ⟨b8,0,none⟩)),(6,.pointer (some ⟨b15,0,none⟩)),(7,.pointer (some ⟨a9,0,none⟩))]∧((n:Int)≤bexp ((blochI m).getD []))∧(lc=(stN ((blochI m).getD []) n).2)∧(tb=(stN ((blochI m).getD []) n).1.map sylT)∧Blk w b3 32 [vi m.rows,vi m.cols,.slice Am m.cells.length cm]∧Blk w b4 27 [.string (tx []),vi 0,vi 0]∧Blk w b8 66 [.slice I lc.length J]∧Blk w b15 27 [.string (tx tb),vi 0,vi 0]∧Blk w a9 95 [.bool false]∧Own w w0.heap.size 86 5 encD I J lc∧Below w0.heap.size w0 w) (fun (s:Nat×(List Dy)×(List UInt8))=>match s with|(n,lc,tb)=>(bexp ((blochI m).getD [])).toNat-n) (0,((blochI m).getD []),[]) ?_ ?_
 ·exact ⟨A6,c6,A.sb,(by omega),rfl,rfl,f,e,o,b,g,H,x⟩
 rintro ⟨n,lc,tb⟩ a eJ ⟨I,J,A,hn,aS,bC,f,e,o,b,g,t,x⟩;obtain ⟨dN,dP,dQ,eK⟩:=X4k hR.gd aR n hn
 have E:Gd lc:=by rw [aS];exact dN
 have eL:bexp lc=bexp ((blochI m).getD [])-(n:Int):=by rw [aS];exact dP
 have eM:tb.length=n:=by rw [bC,Qo];exact dQ
 refine Q5 fun _ cE=>?_;refine Zs A fun _ cF=>?_;refine Ze (Vn X16 o)<|Zf (Vc (Xhj _ I J lc t.rd.top (Nat.le_of_eq E.nine.1)) X92) ?_;rintro _ eO ⟨rfl,d⟩;have f:=f.below d;have e:=e.below d;have o:=o.below d;have b:=b.below d;have g:=g.below d;have t:=t.below d;have x:=btr x d;refine Ze (X9k rfl rfl)<|Zt cF fun a A=>?_
 refine Xl A rfl (fun L=>?_) (fun L=>?_)
 ·have aL:=L;have L:=Q2 L
  have dR:0<bexp lc:=L
  have b5:bexp lc≤40:=by omega
  refine Q7<|cE _ _<|Q8<|Zs A fun _ cG=>?_;refine Za rfl<|Zt cG fun a A=>?_;refine Q8<|X03 (σ:=Nat) (fun (i:Nat) (a:Act) (w:World)=>Fr a 68 [(1,.pointer (some ⟨b3,0,none⟩)),(2,.pointer (some ⟨b4,0,none⟩)),(4,.pointer (some ⟨b8,0,none⟩)),(6,.pointer (some ⟨b15,0,none⟩)),(7,.pointer (some ⟨a9,0,none⟩)),(8,vi (i:Int))]∧(i≤3)∧(∀ j,j<i→∀ r,mulBI (bkC j) lc=some r→bexp r≠bexp lc-1)∧Blk w b3 32 [vi m.rows,vi m.cols,.slice Am m.cells.length cm]∧Blk w b4 27 [.string (tx []),vi 0,vi 0]∧Blk w b8 66 [.slice I lc.length J]∧Blk w b15 27 [.string (tx tb),vi 0,vi 0]∧Blk w a9 95 [.bool false]∧Own w w0.heap.size 86 5 encD I J lc∧Below w0.heap.size w0 w) (fun (i:Nat)=>3-i) 0 ?_ ?_
  ·exact ⟨A.sb,(by omega),(fun j hj=>by omega),f,e,o,b,g,t,x⟩
  rintro i a eP ⟨A,hi,bD,f,e,o,b,g,t,x⟩;refine Q5 fun _ cH=>?_;refine Zs A fun _ cJ=>?_;refine Zm rfl<|Ze (X14 rfl rfl)<|Zt cJ fun a A=>?_
  refine Xl A rfl (fun M=>?_) (fun M=>?_)
  ·have aM:=M;have M:=Q2 M
   have D:i<3:=by have:=M;omega
   obtain ⟨r,aQ,dS⟩:=X9h E b5 D;have eE:=X24 r;have eF:=Xku E D aQ;refine Q7<|cH _ _<|Q5 fun _ cK=>?_;refine Q8<|Zs A fun _ cM=>?_;refine Zm rfl<|Ze (X8o (s:=[84,72,83]) (k:=i) (u:=(sylT i)) rfl rfl Tryz.underlying9 rfl (Xqf D))<|Za rfl<|ZX cM fun a A _ cO=>?_;refine X0a (fun a w=>∃ b33 aA aB,Fr a 68 [(1,.pointer (some ⟨b3,0,none⟩)),(2,.pointer (some ⟨b4,0,none⟩)),(4,.pointer (some ⟨b8,0,none⟩)),(6,.pointer (some ⟨b15,0,none⟩)),(7,.pointer (some ⟨a9,0,none⟩)),(8,vi (i:Int)),(9,.int .u8 ((sylT i).toNat:Int)),(10,.pointer (some ⟨b33,0,none⟩))]∧w0.heap.size≤b33∧Blk w b33 66 [.slice aA r.length aB]∧b8≠b33∧Own w w0.heap.size 86 5 encD aA aB r∧Blk w b3 32 [vi m.rows,vi m.cols,.slice Am m.cells.length cm]∧Blk w b4 27 [.string (tx []),vi 0,vi 0]∧Blk w b8 66 [.slice I lc.length J]∧Blk w b15 27 [.string (tx tb),vi 0,vi 0]∧Blk w a9 95 [.bool false]∧Own w w0.heap.size 86 5 encD I J lc∧Below w0.heap.size w0 w) ?_ ?_
   ·refine X07 (some a9) (fun j=>[6].contains j) mixed ?_;intro eQ d;have f:=f.below d;have e:=e.below d;have o:=o.below d;have b:=b.below d;have g:=g.below d;have t:=t.below d;have x:=btr x d;refine Yb A<|Yo 0 rfl (fun _=>Xb rfl)<|Yo 1 rfl (fun _=>Xb rfl) ?_;refine Yw 3 rfl trivial (fun w1 h1=>Xy (l:=[.slice I lc.length J]) rfl X16 ((o.only h1 (Blk.ne o g rfl)).at 0) rfl) ?_;refine Y2 2 5 ?_ ?_
    ·refine Yf rfl trivial (EfW.mono (Vc (Xqt _ (sylT i) i D rfl) Xh8) (fun _ _ h=>⟨fun _=>by obtain ⟨bE,bF,rfl,W,d⟩:=h;exact Keep.of_below d,h⟩)) ?_;rintro _ eR ⟨bE,bF,rfl,W,d⟩;have W:=W.lower x.size;have f:=f.below d;have e:=e.below d;have o:=o.below d;have b:=b.below d;have g:=g.below d;have t:=t.below d;have x:=btr x d;refine Y2 4 5 ?_ ?_
     ·refine Yf rfl trivial (EfW.mono (Vc (Xle _ a9 g bE bF (bkC i) W.rd.top I J lc t.rd.top (X3t E D).1 (X3t E D).2.1 (X3t E D).2.2.1 (X3t E D).2.2.2 r aQ) Xbz) (fun _ _ h=>⟨fun _=>by obtain ⟨aA,aB,rfl,y,hK,Q⟩:=h;exact hK.keep,h⟩)) ?_;rintro _ eS ⟨aA,aB,rfl,y,hK,Q⟩;have aG:=x.size;obtain ⟨wm,U,hm,d⟩:=hK.mid;clear hm;have c:=g;have f:=f.only U (Blk.ne f c rfl);have e:=e.only U (Blk.ne e c rfl);have o:=o.only U (Blk.ne o c rfl);have b:=b.only U (Blk.ne b c rfl);have t:=t.onlyT U c rfl;have x:=Below.only x U aK;have f:=f.below d;have e:=e.below d;have o:=o.below d;have b:=b.below d;have t:=t.below d;have x:=btr x d
      clear c d U hK;have g:=Q;clear Q
      have y:=y.lower aG;clear aG;refine Y1 5<|Yf rfl trivial (EfW.mono (X4 (zs:=[.slice none 0 0]) X22 rfl) (fun _ _ h=>⟨fun _=>by obtain ⟨_,_,_,d,_⟩:=h;exact Keep.of_below d,h⟩)) ?_;rintro _ eT ⟨b33,rfl,cP,d,B⟩
      have aH:b8≠b33:=by have:=o.lt;omega
      have aN:=Q0 x.size cP;have f:=f.below d;have e:=e.below d;have o:=o.below d;have b:=b.below d;have g:=g.below d;have t:=t.below d;have y:=y.below d;have x:=btr x d;refine Y1 6<|Yh rfl trivial rfl (Vw [.slice aA r.length aB] X1i B) ?_;rintro _ eU ⟨z,hb⟩;have c:=B;have f:=f.only z (Blk.ne f c rfl);have e:=e.only z (Blk.ne e c rfl);have o:=o.only z (by omega);have b:=b.only z (Blk.ne b c rfl);have g:=g.only z (Blk.ne g c rfl);have t:=t.onlyT z c rfl;have y:=y.onlyT z c rfl;have x:=Below.only x z aN;have B:=hb;refine Yd fun a A=>?_;exact ⟨b33,aA,aB,A.sb,aN,B,aH,y,f,e,o,b,g,t,x⟩
     refine Yf rfl trivial (EfW.mono (X4 (zs:=[.slice none 0 0]) X22 rfl) (fun _ _ h=>⟨fun _=>by obtain ⟨_,_,_,d,_⟩:=h;exact Keep.of_below d,h⟩)) ?_;rintro _ eV ⟨b35,rfl,cQ,d,N⟩
     have aT:b8≠b35:=by have:=o.lt;omega
     have aU:=Q0 x.size cQ;have f:=f.below d;have e:=e.below d;have o:=o.below d;have b:=b.below d;have g:=g.below d;have t:=t.below d;have W:=W.below d;have x:=btr x d;refine Y1 4<|Yf rfl trivial (EfW.mono (Vc (Xle _ a9 g bE bF (bkC i) W.rd.top I J lc t.rd.top (X3t E D).1 (X3t E D).2.1 (X3t E D).2.2.1 (X3t E D).2.2.2 r aQ) Xbz) (fun _ _ h=>⟨fun _=>by obtain ⟨bG,bH,rfl,aC,hK,Q⟩:=h;exact hK.keep,h⟩)) ?_;rintro _ eW ⟨bG,bH,rfl,aC,hK,Q⟩;have aG:=x.size;obtain ⟨wm,U,hm,d⟩:=hK.mid;clear hm;have c:=g;have f:=f.only U (Blk.ne f c rfl);have e:=e.only U (Blk.ne e c rfl);have o:=o.only U (Blk.ne o c rfl);have b:=b.only U (Blk.ne b c rfl);have N:=N.only U (Blk.ne N c rfl);have t:=t.onlyT U c rfl;have x:=Below.only x U aK;have f:=f.below d;have e:=e.below d;have o:=o.below d;have b:=b.below d;have N:=N.below d;have t:=t.below d;have x:=btr x d
     clear c d U hK;have g:=Q;clear Q
     have aC:=aC.lower aG;clear aG;refine Y1 6<|Yh rfl trivial rfl (Vw [.slice bG r.length bH] X1i N) ?_;rintro _ eX ⟨z,hb⟩;have c:=N;have f:=f.only z (Blk.ne f c rfl);have e:=e.only z (Blk.ne e c rfl);have o:=o.only z (by omega);have b:=b.only z (Blk.ne b c rfl);have g:=g.only z (Blk.ne g c rfl);have t:=t.onlyT z c rfl;have aC:=aC.onlyT z c rfl;have x:=Below.only x z aU;have N:=hb;refine Yd fun a A=>?_;exact ⟨b35,bG,bH,A.sub ⟨rfl,rfl,rfl,rfl,rfl,rfl,rfl,(by first|rfl|(simp [look,aJ,aL,aM])),trivial⟩,aU,N,aT,aC,f,e,o,b,g,t,x⟩
    refine Yf rfl trivial (EfW.mono (X4 (zs:=[.slice none 0 0]) X22 rfl) (fun _ _ h=>⟨fun _=>by obtain ⟨_,_,_,d,_⟩:=h;exact Keep.of_below d,h⟩)) ?_;rintro _ eY ⟨b38,rfl,cR,d,G⟩
    have aW:b8≠b38:=by have:=o.lt;omega
    have aX:=Q0 x.size cR;have f:=f.below d;have e:=e.below d;have o:=o.below d;have b:=b.below d;have g:=g.below d;have t:=t.below d;have x:=btr x d;refine Y1 2<|Yf rfl trivial (EfW.mono (Vc (Xqt _ (sylT i) i D rfl) Xh8) (fun _ _ h=>⟨fun _=>by obtain ⟨cS,cT,rfl,aO,d⟩:=h;exact Keep.of_below d,h⟩)) ?_;rintro _ eZ ⟨cS,cT,rfl,aO,d⟩;have aO:=aO.lower x.size;have f:=f.below d;have e:=e.below d;have o:=o.below d;have b:=b.below d;have g:=g.below d;have G:=G.below d;have t:=t.below d;have x:=btr x d;refine Y1 4<|Yf rfl trivial (EfW.mono (Vc (Xle _ a9 g cS cT (bkC i) aO.rd.top I J lc t.rd.top (X3t E D).1 (X3t E D).2.1 (X3t E D).2.2.1 (X3t E D).2.2.2 r aQ) Xbz) (fun _ _ h=>⟨fun _=>by obtain ⟨bI,bJ,rfl,aD,hK,Q⟩:=h;exact hK.keep,h⟩)) ?_;rintro _ f7 ⟨bI,bJ,rfl,aD,hK,Q⟩;have aG:=x.size;obtain ⟨wm,U,hm,d⟩:=hK.mid;clear hm;have c:=g;have f:=f.only U (Blk.ne f c rfl);have e:=e.only U (Blk.ne e c rfl);have o:=o.only U (Blk.ne o c rfl);have b:=b.only U (Blk.ne b c rfl);have G:=G.only U (Blk.ne G c rfl);have t:=t.onlyT U c rfl;have x:=Below.only x U aK;have f:=f.below d;have e:=e.below d;have o:=o.below d;have b:=b.below d;have G:=G.below d;have t:=t.below d;have x:=btr x d
    clear c d U hK;have g:=Q;clear Q
    have aD:=aD.lower aG;clear aG;refine Y1 6<|Yh rfl trivial rfl (Vw [.slice bI r.length bJ] X1i G) ?_;rintro _ f8 ⟨z,hb⟩;have c:=G;have f:=f.only z (Blk.ne f c rfl);have e:=e.only z (Blk.ne e c rfl);have o:=o.only z (by omega);have b:=b.only z (Blk.ne b c rfl);have g:=g.only z (Blk.ne g c rfl);have t:=t.onlyT z c rfl;have aD:=aD.onlyT z c rfl;have x:=Below.only x z aX;have G:=hb;refine Yd fun a A=>?_;exact ⟨b38,bI,bJ,A.sub ⟨rfl,rfl,rfl,rfl,rfl,rfl,rfl,(by first|rfl|(simp [look,aJ,aL,aM])),trivial⟩,aX,G,aW,aD,f,e,o,b,g,t,x⟩
   rintro a f9 ⟨b33,aA,aB,A,aN,B,aH,y,f,e,o,b,g,t,x⟩;refine cO _ _<|Q5 fun _ cU=>?_;refine X07 none (fun _=>false) mixed ?_;intro fA d;have f:=f.below d;have e:=e.below d;have o:=o.below d;have b:=b.below d;have g:=g.below d;have B:=B.below d;have t:=t.below d;have y:=y.below d;have x:=btr x d;refine Yb A<|Ye 0 rfl (Vn X16 B)<|Ye 2 rfl (Vn X16 o)<|Y1 1 ?_;refine Yk rfl trivial (Vc (Xhj _ aA aB r y.rd.top (Nat.le_of_eq dS.nine.1)) X92) (fun _ _ ⟨_,d⟩=>d) ?_;rintro _ fB ⟨rfl,d⟩;have f:=f.below d;have e:=e.below d;have o:=o.below d;have b:=b.below d;have g:=g.below d;have B:=B.below d;have t:=t.below d;have y:=y.below d;have x:=btr x d;refine Y1 3<|Yk rfl trivial (Vc (Xhj _ I J lc t.rd.top (Nat.le_of_eq E.nine.1)) X92) (fun _ _ ⟨_,d⟩=>d) ?_;rintro _ fC ⟨rfl,d⟩;have f:=f.below d;have e:=e.below d;have o:=o.below d;have b:=b.below d;have g:=g.below d;have B:=B.below d;have t:=t.below d;have y:=y.below d;have x:=btr x d;refine Yo 4 rfl (fun _=>X1s rfl rfl (by omega) (by omega))<|Yo 5 rfl (fun _=>X1d rfl rfl) ?_;refine Yd fun a A=>?_;refine cU _ _ ?_
   refine Xl A rfl (fun aI=>?_) (fun aI=>?_)
   ·have bK:=aI
    have cV:=Xei D bD aQ (by have h9:=aI;simpa using h9)
    refine Zs A fun _ cW=>?_;refine Ze (Vd rfl X29 0)<|Ze (X0 rfl X7k (b.at 0))<|Zm rfl<|Zf (Xd (k:=1) (vs:=[.int .u8 ((sylT i).toNat:Int)]) (zs:=[.int .u8 ((sylT i).toNat:Int)]) rfl Xpo Xxt rfl rfl) ?_;rintro _ fD ⟨fE,rfl,cX,d,d5⟩;have dT:=Q0 x.size cX;have f:=f.below d;have e:=e.below d;have o:=o.below d;have b:=b.below d;have g:=g.below d;have B:=B.below d;have y:=y.below d;have x:=btr x d;refine Ze (Xsz (u:=(sylT i)) rfl Tryz.underlying50 Tryz.underlying5 Tryz.underlying9 d5)<|Ze (Xdy (s:=tb) (r:=[(sylT i)]) rfl rfl (by simp;omega))<|Ze (Vd rfl X29 0)<|Zo (Vu (vs:=[.string (tx (tb++[(sylT i)]))]) (l':=[.string (tx (tb++[(sylT i)])),vi 0,vi 0]) rfl rfl Xff b) ?_;rintro _ fF ⟨z,hb⟩;have c:=b;have f:=f.only z (Blk.ne f c rfl);have e:=e.only z (by omega);have o:=o.only z (Blk.ne o c rfl);have g:=g.only z (Blk.ne g c rfl);have B:=B.only z (Blk.ne B c rfl);have y:=y.onlyT z c rfl;have x:=Below.only x z aE;have b:=hb;refine Zx cW fun a A _ d6=>?_;refine Ze (Vn X16 B)<|Zo (Vw [.slice aA r.length aB] X1i o) ?_;rintro _ fG ⟨z,hb⟩;have c:=o;have f:=f.only z (Blk.ne f c rfl);have e:=e.only z (Blk.ne e c rfl);have b:=b.only z (Blk.ne b c rfl);have g:=g.only z (Blk.ne g c rfl);have y:=y.onlyT z c rfl;have x:=Below.only x z b2;have o:=hb;refine Zt d6 fun a A=>?_;refine Q9<|Xos rfl ?_;refine Xk<|Xk<|X05<|Xn ?_;refine Xm ?_;exact ⟨(n+1,r,(tb++[sylT i])),⟨aA,aB,A.sb,(by omega),(by rw [X3m (by rw [← aS];exact cV)]),(by rw [X3m (by rw [← aS];exact cV),List.map_append,bC];rfl),f,e,o,b,g,y,x⟩,(by first|omega|(dsimp only;omega))⟩
   have bK:=aI
   have dU:bexp r≠bexp lc-1:=by have h9:=aI;simpa using h9
   refine Q7<|Xn<|cK _ _<|Zr A ?_;refine Zm rfl<|Ze (X01 rfl rfl (by omega) (by omega))<|Za rfl ?_;refine Zn fun a A=>?_;refine Xm ?_;exact ⟨i+1,⟨A.sb,(by omega),(Xhm bD aQ dU),f,e,o,b,g,t,x⟩,(by omega)⟩
  have aM:=M;have M:=Q1 M
  have D:i=3:=by have:=M;omega
  obtain ⟨q,r,fH,dW,dX⟩:=X9r E dR b5;exact (bD q (by omega) r dW dX).elim
 have aL:=L;have L:=Q1 L
 have d7:n=(bexp ((blochI m).getD [])).toNat:=by have:=L;omega
 have d8:lc=nfL ((blochI m).getD []):=by rw [aS,d7];rfl
 have b6:tb=(nfS ((blochI m).getD [])).map sylT:=by rw [bC,d7];rfl
 obtain ⟨d9,dA⟩:=X9w hR.gd aR
 have dY:lc=clB (clX (nfL ((blochI m).getD []))):=d8.trans dA
 obtain ⟨fI,dB⟩:=X7q hR.gd aR
 have bL:(nfS ((blochI m).getD [])).length≤40:=by omega
 have aY:opI ⟨1,fmG (clX (nfL ((blochI m).getD []))) (nfS ((blochI m).getD []))⟩=some (nfW ((blochI m).getD [])):=hR.op
 refine Q9<|Xk<|Xk<|X05 ?_;refine cD _ _<|Zs A fun _ dC=>?_;refine Ze (Vn X16 o)<|Zf (Vc (Xw0 _ I J lc t.rd.top (clX (nfL ((blochI m).getD []))) d9 dY) Xon) ?_;rintro _ fJ ⟨rfl,d⟩;have f:=f.below d;have e:=e.below d;have b:=b.below d;have x:=btr x d;refine Ze (Vd rfl X4s 1)<|Zo (Vu (vs:=[vi ((clX (nfL ((blochI m).getD []))) : Int)]) (l':=[.string (tx tb),vi ((clX (nfL ((blochI m).getD []))) : Int),vi 0]) rfl rfl X5w b) ?_;rintro _ fK ⟨z,hb⟩;have c:=b;have f:=f.only z (Blk.ne f c rfl);have e:=e.only z (by omega);have x:=Below.only x z aE;have b:=hb;refine ZX dC fun a A _ dD=>?_;refine X07 none (fun j=>[9].contains j) mixed ?_;intro e8 d;have f:=f.below d;have e:=e.below d;have b:=b.below d;have x:=btr x d;refine Yb A<|Ye 0 rfl (Vn Xp f)<|Ye 1 rfl (Vn X1w b)<|Y1 2 ?_;refine Yf rfl trivial (EfW.mono (X1j (vs:=[.agg #[.string (tx tb),vi ((clX (nfL ((blochI m).getD []))) : Int),vi 0]]) rfl Xgi (by have hq:=Xrf e8 tb (nfS ((blochI m).getD [])) (clX (nfL ((blochI m).getD []))) 0 d9 b6 dB bL (by decide);rw [Xa3] at hq;exact hq)) (fun _ _ h=>⟨fun _=>by obtain ⟨bM,bN,rfl,aP,d⟩:=h;exact d,h⟩)) ?_;rintro _ eA ⟨bM,bN,rfl,aP,d⟩;have aP:=aP.lower x.size;have e:=e.below d;have b:=b.below d;have x:=btr x d;refine Y1 3<|Yf rfl trivial (EfW.mono (X1j (vs:=[.agg #[vi 1,.slice bM (fmG (clX (nfL ((blochI m).getD []))) (nfS ((blochI m).getD []))).length bN]]) rfl Xc6 (by have hq:=Xmd eA (⟨1,(fmG (clX (nfL ((blochI m).getD []))) (nfS ((blochI m).getD [])))⟩ : Cx) bM bN aP.rd.top (Xc8 aY) (nfW ((blochI m).getD [])) aY;rw [show opI _=some (nfW ((blochI m).getD [])) from aY,Qq] at hq;exact hq)) (fun _ _ h=>⟨fun _=>by obtain ⟨bO,bP,rfl,b7,d⟩:=h;exact d,h⟩)) ?_;rintro _ eB ⟨bO,bP,rfl,b7,d⟩
 have e:=e.below d;have b:=b.below d;have x:=btr x d;refine Y1 4<|Yf rfl trivial (EfW.mono (X1j (vs:=[.agg #[vi m.rows,vi m.cols,.slice Am m.cells.length cm],.agg #[vi ((nfW ((blochI m).getD [])).rows),vi ((nfW ((blochI m).getD [])).cols),.slice bO ((nfW ((blochI m).getD [])).cells).length bP]]) rfl Xsk (by have hq:=Xzq eB m Am cm (b0.below' x).top (nfW ((blochI m).getD [])) bO bP b7.top (Xj7 hR) Xvw;rw [Xuo hR] at hq;exact hq)) (fun _ _ h=>⟨fun _=>by obtain ⟨ix,rfl,dE,d⟩:=h;exact d,h⟩)) ?_;rintro _ fL ⟨ix,rfl,dE,d⟩;have e:=e.below d;have b:=b.below d;have x:=btr x d;have eC:=Xsc hR (dE rfl);refine Yo 5 rfl (fun _=>Xb rfl)<|Yo 6 rfl (fun _=>X2 (vs:=[vi ix,.bool true]) rfl rfl)<|Yo 7 rfl (fun _=>X2 (vs:=[vi ix,.bool true]) rfl rfl)<|Yo 8 rfl (fun _=>Vd rfl X44 2)<|Y1 9 ?_;refine Yh rfl trivial rfl (Vu (vs:=[vi ix]) (l':=[.string (tx tb),vi ((clX (nfL ((blochI m).getD []))) : Int),vi ix]) rfl rfl X5w b) ?_;rintro _ fM ⟨z,hb⟩;have c:=b;have e:=e.only z (by omega);have x:=Below.only x z aE;have b:=hb;refine Yd fun a A=>?_;refine dD _ _<|Zs A fun _ dF=>?_;refine Ze (Vn X1w b)<|Zo (Vw [.string (tx tb),vi ((clX (nfL ((blochI m).getD []))) : Int),vi ix] X3a e) ?_;rintro _ fN ⟨z,hb⟩;have c:=e;have x:=Below.only x z b1;have e:=hb;refine Za rfl<|Zt dF fun a A=>?_
 refine Q6 (X3 A (X0r A rfl (ResV.cellN (l:=[.string (tx tb),vi ((clX (nfL ((blochI m).getD []))) : Int),vi ix]) rfl X1w (e.at 0) rfl) rfl) ?_)
 exact ⟨by rw [hY.s,hY.k,hY.p,hY.n,← b6,← eC],x⟩
theorem Xwi(w0:World)(Am:Option Addr)(cm:Nat)(m:Mx)(i:Rd w0 w0.heap.size 86 encD Am m.cells)(aB:m.cells.length≤2305843009213693951) : Ret Tryz.prog 7 [.agg #[vi m.rows,vi m.cols,.slice Am m.cells.length cm]] w0 (fun v w=>v=.tuple #[.agg #[.string (tx (nfs m)),vi (nfk m:Int),vi (nfp m:Int)],.bool (nfM m).isSome]∧Below w0.heap.size w0 w):=by
 refine enter Tryz.func7 rfl 12 rfl rfl ?_;intro a d
 have c:=bz w0
 refine Zs d fun _ aC=>?_;refine Zf (X09 (zs:=[vi m.rows,vi m.cols,.slice Am m.cells.length cm]) rfl rfl) ?_;rintro _ w1 ⟨b3,rfl,aD,f,e⟩;have aK:=Q0 c.size aD;have c:=btr c f;refine Zf (X4 (zs:=[.string (tx []),vi 0,vi 0]) X60 rfl) ?_;rintro _ w2 ⟨b4,rfl,aE,f,b⟩;have j:=Q0 c.size aE;have e:=e.below f;have c:=btr c f;refine Za rfl<|ZX aC fun a d _ aF=>?_;refine Zs d fun _ aG=>?_;refine Ze (Vn Xp e)<|Zf (Vc (Xwl _ m Am cm (i.below' c).top aB) Xov) ?_;rintro _ w3 ⟨rfl,f⟩;have e:=e.below f;have b:=b.below f;have c:=btr c f;refine Ze (X0o rfl)<|Zt aG fun a d=>?_
 refine Xl d rfl (fun g=>?_) (fun g=>?_)
 ·have a9:=g
  have hN:=Xza (m:=m) (by have h9:=g;simpa using h9)
  refine Zs d fun _ aH=>?_;refine Ze (Xg (ps:=[]) (cs:=[.string (tx []),vi 0,vi 0]) rfl (fun _=>by first|rfl|kernel_rfl))<|Zo (Vw [.string (tx []),vi 0,vi 0] X3a b) ?_;rintro _ w4 ⟨ho,hb⟩;have aA:=b;have c:=Below.only c ho j;have b:=hb;refine Za rfl<|Zt aH fun a d=>?_;refine Q6<|X7<|X3 d (X0r d rfl (ResV.cellN (l:=[.string (tx []),vi 0,vi 0]) rfl X1w (b.at 0) rfl) rfl) ?_;exact ⟨by rw [hN.s,hN.k,hN.p,hN.n];rfl,c⟩
 have a9:=g
 have aI:oneQ m=true:=by have h9:=g;simpa using h9
 refine Q7<|aF _ _<|Zs d fun _ aJ=>?_;refine Ze (Vn Xp e)<|Zf (Vc (Xwo _ Am cm m (i.below' c).top aI) Xpq) ?_;rintro _ w5 ⟨rfl,f⟩;have b:=b.below f;have c:=btr c f;refine Ze (X2 (vs:=[.agg #[.string (tx (nfs m)),vi (nfk m:Int),vi (nfp m:Int)],.bool ((nfM m).isSome)]) rfl rfl)<|Ze (X2 (vs:=[.agg #[.string (tx (nfs m)),vi (nfk m:Int),vi (nfp m:Int)],.bool ((nfM m).isSome)]) rfl rfl)<|Zo (Vw [.string (tx (nfs m)),vi (nfk m:Int),vi (nfp m:Int)] X3a b) ?_;rintro _ w6 ⟨ho,hb⟩;have aA:=b;have c:=Below.only c ho j;have b:=hb;refine Za rfl<|Zt aJ fun a d=>?_
 refine Q6 (X3 d (X0r d rfl (ResV.cellN (l:=[.string (tx (nfs m)),vi (nfk m:Int),vi (nfp m:Int)]) rfl X1w (b.at 0) rfl) rfl) ?_)
 exact ⟨rfl,c⟩
theorem Xvu(q:World)(tb:List UInt8)(sl:List Nat)(k p:Nat)(t:k<24)(aN:tb=sl.map sylT)(aO:∀ s ∈ sl,s<3)(u:sl.length≤40)(aP:p<8)(hF:FrmOk tb)(aQ:HalfT q) : Ret Tryz.prog 25 [.agg #[.string (tx tb),vi (k:Int),vi (p:Int)]] q (fun v w=>∃ A c,v=.tuple #[.agg #[vi 1,.slice A (fmW k sl p).length c],.bool true]∧Own w q.heap.size 90 3 encG A c (fmW k sl p)∧Below q.heap.size q w):=by
 refine enter Tryz.func25 rfl 24 rfl rfl ?_;intro a f
 have d:=bz q
 refine Zs f fun _ aR=>?_;refine Zf (X09 (zs:=[.string (tx tb),vi (k:Int),vi (p:Int)]) rfl rfl) ?_;rintro _ w1 ⟨b2,rfl,aS,i,m⟩;have b5:=Q0 d.size aS;have d:=btr d i;refine Zf (X4 (zs:=[vi 0,.slice none 0 0]) X7h rfl) ?_;rintro _ w2 ⟨b4,rfl,aT,i,b⟩;have aC:=Q0 d.size aT;have m:=m.below i;have d:=btr d i;refine Za rfl<|ZX aR fun a f _ aU=>?_;refine Zs f fun _ aW=>?_;refine Ze (Vn X1w m)<|Zf (Vc (Xk6 _ tb (k:Int) (p:Int) hF ⟨by omega,by omega⟩ ⟨by omega,by omega⟩) Xc9) ?_;rintro _ w3 ⟨rfl,i⟩;have m:=m.below i;have b:=b.below i;have d:=btr d i;refine Ze (X0o rfl)<|Zt aW fun a f=>?_;refine X3c f rfl ?_;refine Q7<|aU _ _<|Zs f fun _ aX=>?_;refine Ze (Vn X1w m)<|Zf (Vc (Xqj _ tb sl k p  t aN aO u (aQ.of d)) Xhr) ?_;rintro _ w4 ⟨A8,c8,rfl,a9,i⟩;have a9:=a9.lower d.size;have m:=m.below i;have b:=b.below i;have d:=btr d i;refine Za rfl<|ZX aX fun a f _ aY=>?_;refine Zs f fun _ aD=>?_;refine Ze (Vd rfl X44 2)<|Ze (X0 rfl X8 (m.at 2))<|Zm rfl<|Zt aD fun a f=>?_;refine Q8<|X03 (σ:=Nat×(List Gt)) (fun (s:Nat×(List Gt)) (a:Act) (w:World)=>match s with|(j,gs)=>∃ x y,Fr a 24 [(2,.pointer (some ⟨b4,0,none⟩)),(4,.slice x gs.length y),(12,vi (p:Int)),(13,vi (j:Int))]∧(j≤p)∧(gs=fmW k sl j)∧Blk w b4 43 [vi 0,.slice none 0 0]∧Own w q.heap.size 90 3 encG x y gs∧Below q.heap.size q w) (fun (s:Nat×(List Gt))=>match s with|(j,gs)=>p-j) (0,(fmG k sl)) ?_ ?_
 ·exact ⟨A8,c8,f.sb,(Qf _),(by rw [Xa3]),b,a9,d⟩
 rintro ⟨j,gs⟩ a w5 ⟨x,y,f,hj,D,b,g,d⟩
 have b6:gs.length≤126+j:=by rw [D];exact Xd4 t u j
 refine Zs f fun _ aE=>?_;refine Ze (X14 rfl rfl)<|ZX aE fun a f _ aF=>?_
 refine Xl f rfl (fun e=>?_) (fun e=>?_)
 ·have aA:=e;have e:=Q2 e;refine Q7<|aF _ _<|Q5 fun _ aG=>?_;refine Q8<|Zr f<|Zm rfl<|Ze (Xg (ps:=[(0,vi 12)]) (cs:=[vi 12,vi 0,vi 0]) rfl (fun _=>by first|rfl|kernel_rfl))<|Zf (Xd (k:=1) (vs:=[.agg #[vi 12,vi 0,vi 0]]) (zs:=[vi 12,vi 0,vi 0]) rfl X0z X15 rfl rfl) ?_;rintro _ w6 ⟨b7,rfl,E,i,z⟩;have aZ:=Q0 d.size E;have o:=g.away E;have b:=b.below i;have g:=g.below i;have d:=btr d i;refine Zf (X0n (enc:=encG) (l:=(gs)) (l2:=([(⟨12,0,0⟩ : Gt)])) (B0:=q.heap.size) rfl rfl X0z X15 X0k X20 g (Rd.of_blk z rfl _ z.lt) (by simp only [maxLen];simp;omega) (by simp;omega) d.size) ?_;rintro _ w7 ⟨b0,b1,rfl,aH,D,aI⟩
  have h:Own _ q.heap.size 90 3 encG _ _ (gs):=g
  have aB:=aI _ z.lt o;clear aI;have b:=b.appT h D rfl;have d:=Below.app d h D (Qb _) d.size;clear h D;refine Za rfl ?_;refine Zn fun a f=>?_;refine Xn<|aG _ _<|Zr f<|Ze (X01 rfl rfl (by omega) (by omega))<|Zm rfl ?_;refine Zn fun a f=>?_;refine Xm ?_;exact ⟨(j+1,gs++([(⟨12,0,0⟩ : Gt)])),⟨b0,b1,f.sb,(by omega),(by rw [D,Xda]),b,aH,d⟩,(by first|omega|(dsimp only;omega))⟩
 have aA:=e;have e:=Q1 e
 have aJ:j=p:=by have:=e;omega
 have aK:=Xns t u aP
 rw [← aJ,← D] at aK
 have b3:gs=fmW k sl p:=by rw [D,aJ]
 refine Q9<|Xk<|Xk<|X05 ?_;refine aY _ _<|Zs f fun _ aL=>?_;refine Zm rfl<|Zf (X1j (vs:=[vi 1,.slice x gs.length y]) rfl Xtp (by have hq:=Xyr w5 1 x y gs g.rd.top (by omega);rw [aK] at hq;exact hq)) ?_;rintro _ w8 ⟨B,C,rfl,n,i⟩;have n:=n.lower d.size;have b:=b.below i;have d:=btr d i;refine Ze (X2 (vs:=[.agg #[vi 1,.slice B gs.length C],.bool true]) rfl rfl)<|Ze (X2 (vs:=[.agg #[vi 1,.slice B gs.length C],.bool true]) rfl rfl)<|Zo (Vw [vi 1,.slice B gs.length C] X3d b) ?_;rintro _ w9 ⟨ho,hb⟩;have aM:=b;have n:=n.onlyT ho aM rfl;have d:=Below.only d ho aC;have b:=hb;refine Za rfl<|Zt aL fun a f=>?_
 refine Q6 (X3 f (X0r f rfl (ResV.cellN (l:=[vi 1,.slice B gs.length C]) rfl X1p (b.at 0) rfl) rfl) ?_)
 rw [← b3]
 exact ⟨B,C,rfl,n,d⟩
end Go.Proofs.YtnmabjfoiakapaaGreatDoor
