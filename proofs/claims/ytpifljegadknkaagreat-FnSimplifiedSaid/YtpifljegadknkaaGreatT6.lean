/-
  For all drawn diagrams, the simplified diagram admits no further step, is reached by the log, and has the same meaning. Conditions: none.
-/
import Derived.Test.YtpifljegadknkaaGreatT5
import Derived.Test.YtpifljegadknkaaGreatT4
import Derived.Test.YtpifljegadknkaaGreatT2
import Derived.Test.YtpifljegadknkaaGreatT1
import Derived.Test.YtpifljegadknkaaGreatRows
set_option linter.unusedVariables false
set_option linter.unusedSimpArgs false
set_option maxHeartbeats 1000000
set_option maxRecDepth 4000
set_option linter.unusedSectionVars false
namespace Go.Proofs.YtpifljegadknkaaGreat
open Go.RowKit
theorem Xwu{d:Dg}(h:ExL d) : (goodD d==goodD d&&(!goodD d||decide (d.r < -30)||decide (30<d.r)||ivD (sbD d [1])&&(ivD (sbD d [1])&&glD (sbD d [1]))))=true:=by
 cases hG:goodD d with
 | false=>rfl
 | true=>
  by_cases h1:d.r < -30
  ·rw [decide_eq_true h1];simp
  by_cases h2:30<d.r
  ·rw [decide_eq_true h2];simp
  have hx:=Xzh hG [1];have hg:=X6s [1] hG
  have hl:glD (siD d [1])=true:=by
   unfold glD
   rw [Bool.not_eq_true',W7]
   intro x hm
   rw [Xvh hg (by have:=h (by omega) (by omega);omega) (Xdy [1] (spN d.ns) hG (Qb _)) x hm]
   decide
  rw [(Xbc hG).1,X4x,hg,hl]
  simp
theorem X7e{d:Dg}{l:List Int} : InD (sbD d l):=by
 cases h:goodD d with
 | false=>rw [(Xj4 h).1];exact Xt7
 | true=>rw [(Xbc h).1];exact X0e (X6s l h)
theorem Xuk{d:Dg}{l:List Int}(h:goodD d=true){M N:Mx}(h1:mnO d=some M)(h2:mnO (sbD d l)=some N) : M=N:=by
 rw [(Xbc h).1] at h2
 exact Xv3 l h h1 h2
theorem Xwd{d:Dg}(h:goodD d=true) : goodD (sbD d alR5)=true/\(fsF (sbD d alR5) alR5).isSome=false/\siD d alR5=sbD d alR5:=by
 rw [(Xbc h).1]
 exact ⟨X6s _ h,by rw [Xdy alR5 (spN d.ns) h (Qb _)];rfl,rfl⟩
theorem Y3q(w0:World){eB:TypeId}(bW:Option Addr)(cD:Nat)(aO:List Int)(D:Rd w0 w0.heap.size eB encU bW aO)(eC:∀ x ∈ aO,0<=x/\x<=255){eD:TypeId}(aP:Option Addr)(aY:Nat)(more:List Int)(E:Rd w0 w0.heap.size eD encU aP more)(eE:∀ x ∈ more,0<=x/\x<=255) : Ret Tryz.prog 4 [.slice bW aO.length cD,.slice aP more.length aY] w0 (fun v w=>v=.bool true/\Below w0.heap.size w0 w):=by
 refine enter Tryz.func4 rfl 143 rfl rfl ?_;intro a h
 have j:=bz w0
 refine Zs h fun _ eF=>?_;refine Za rfl<|ZX eF fun a h _ eG=>?_;refine Zs h fun _ eH=>?_;refine Zm rfl<|Zm rfl<|Zf (Vc (Y3z _ bW cD aO (D.bx j).top aP aY more (E.bx j).top) Xp2) ?_;rintro _ w1 ⟨rfl,e⟩;have j:=btr j e;refine Zt eH fun a h=>?_
 refine Xi h rfl (fun cE=>?_) (fun cE=>?_)
 ·have B:=cE;refine Zs h fun _ eI=>?_;refine Za rfl<|Zt eI fun a h=>?_;refine Q6<|X8<|X6 h (Xp h rfl rfl) ?_;exact ⟨rfl,j⟩
 have B:=cE;refine Q7<|eG _ _<|Zs h fun _ eJ=>?_;refine Zm rfl<|Zf (Vc (Xyp _ bW cD aO (D.bx j).top eC) Xo2) ?_;rintro _ w2 ⟨b,aH,aI,aJ,aK,rfl,aL,f,g,aM,e⟩;have j:=btr j e;refine Zf (Xq (zs:=[vi 0,.slice none 0 0,.slice none 0 0,vi 0,vi 0]) X0h rfl) ?_;rintro _ w3 ⟨bX,rfl,bD,e,k⟩;have cF:=Q0 j.size bD;have cX:=(D.bx j).away bD;have cY:=(E.bx j).away bD;have f:=f.bw e;have g:=g.bw e;have j:=btr j e;refine Zo (Vw [vi b.n,.slice aH b.ns.length aI,.slice aJ b.ws.length aK,vi b.t,vi b.r] Xh k) ?_;rintro _ w4 ⟨Q,hb⟩;have i:=k;have f:=f.oT Q i rfl;have g:=g.oT Q i rfl;have j:=Below.oy j Q cF;have k:=hb;refine Zx eJ fun a h _ cZ=>?_;refine Ze (Vn X2 k)<|Zf (X1k (vs:=[.agg #[vi b.n,.slice aH b.ns.length aI,.slice aJ b.ws.length aK,vi b.t,vi b.r]]) rfl Xpx (Y28 _ b b.ns.length rfl aH aI f.top aJ aK g.top aM (by omega) (by omega))) ?_;rintro _ w5 ⟨aQ,aR,aS,aT,bE,bF,rfl,p,q,b3,H,e⟩;have H:=H.lower j.size;have k:=k.bw e;have f:=f.bw e;have g:=g.bw e;have j:=btr j e;refine Zm rfl<|Ze (Xo (vs:=[.agg #[vi ((sbD b alR5).n),.slice aQ ((sbD b alR5).ns).length aR,.slice aS ((sbD b alR5).ws).length aT,vi ((sbD b alR5).t),vi ((sbD b alR5).r)],.slice bE (sbL b alR5).length bF,.bool (goodD b)]) rfl rfl)<|Ze (Xo (vs:=[.agg #[vi ((sbD b alR5).n),.slice aQ ((sbD b alR5).ns).length aR,.slice aS ((sbD b alR5).ws).length aT,vi ((sbD b alR5).t),vi ((sbD b alR5).r)],.slice bE (sbL b alR5).length bF,.bool (goodD b)]) rfl rfl)<|Ze (Xo (vs:=[.agg #[vi ((sbD b alR5).n),.slice aQ ((sbD b alR5).ns).length aR,.slice aS ((sbD b alR5).ws).length aT,vi ((sbD b alR5).t),vi ((sbD b alR5).r)],.slice bE (sbL b alR5).length bF,.bool (goodD b)]) rfl rfl)<|Zf (Xq (zs:=[vi 0,.slice none 0 0,.slice none 0 0,vi 0,vi 0]) X0h rfl) ?_;rintro _ w6 ⟨b20,rfl,bG,e,o⟩
 have cS:bX≠b20:=by have:=k.lt;omega
 have cG:=Q0 j.size bG;have d5:=(D.bx j).away bG;have d6:=(E.bx j).away bG;have k:=k.bw e;have f:=f.bw e;have g:=g.bw e;have p:=p.bw e;have q:=q.bw e;have H:=H.bw e;have j:=btr j e;refine Zo (Vw [vi ((sbD b alR5).n),.slice aQ ((sbD b alR5).ns).length aR,.slice aS ((sbD b alR5).ws).length aT,vi ((sbD b alR5).t),vi ((sbD b alR5).r)] Xh o) ?_;rintro _ w7 ⟨Q,hb⟩;have i:=o;have k:=k.oy Q (by omega);have f:=f.oT Q i rfl;have g:=g.oT Q i rfl;have p:=p.oT Q i rfl;have q:=q.oT Q i rfl;have H:=H.oT Q i rfl;have j:=Below.oy j Q cG;have o:=hb;refine Za rfl<|Za rfl<|Zx cZ fun a h _ d7=>?_;refine Ze (Vn X2 k)<|Zf (Vc (Xzp _ b b.ns.length rfl aH aI f.top aJ aK g.top aM (by omega) aL.2.2.1) Xpm) ?_;rintro _ w8 ⟨bH,bJ,bK,bL,cH,cI,rfl,aU,aV,d8,cB,e⟩;have cB:=cB.lower j.size;have k:=k.bw e;have o:=o.bw e;have f:=f.bw e;have g:=g.bw e;have p:=p.bw e;have q:=q.bw e;have H:=H.bw e;have j:=btr j e;refine Zm rfl<|Ze (Xo (vs:=[.agg #[vi ((sbD b alR5).n),.slice bH ((sbD b alR5).ns).length bJ,.slice bK ((sbD b alR5).ws).length bL,vi ((sbD b alR5).t),vi ((sbD b alR5).r)],.slice cH (sbL b alR5).length cI,.bool (goodD b)]) rfl rfl)<|Ze (Xo (vs:=[.agg #[vi ((sbD b alR5).n),.slice bH ((sbD b alR5).ns).length bJ,.slice bK ((sbD b alR5).ws).length bL,vi ((sbD b alR5).t),vi ((sbD b alR5).r)],.slice cH (sbL b alR5).length cI,.bool (goodD b)]) rfl rfl)<|Ze (Xo (vs:=[.agg #[vi ((sbD b alR5).n),.slice bH ((sbD b alR5).ns).length bJ,.slice bK ((sbD b alR5).ws).length bL,vi ((sbD b alR5).t),vi ((sbD b alR5).r)],.slice cH (sbL b alR5).length cI,.bool (goodD b)]) rfl rfl)<|Zf (Xq (zs:=[vi 0,.slice none 0 0,.slice none 0 0,vi 0,vi 0]) X0h rfl) ?_;rintro _ w9 ⟨b27,rfl,bM,e,b4⟩
 have cT:bX≠b27:=by have:=k.lt;omega
 have cU:b20≠b27:=by have:=o.lt;omega
 have cJ:=Q0 j.size bM;have d9:=(D.bx j).away bM;have dA:=(E.bx j).away bM;have k:=k.bw e;have o:=o.bw e;have f:=f.bw e;have g:=g.bw e;have p:=p.bw e;have q:=q.bw e;have H:=H.bw e;have aU:=aU.bw e;have aV:=aV.bw e;have j:=btr j e;refine Zo (Vw [vi ((sbD b alR5).n),.slice bH ((sbD b alR5).ns).length bJ,.slice bK ((sbD b alR5).ws).length bL,vi ((sbD b alR5).t),vi ((sbD b alR5).r)] Xh b4) ?_;rintro _ w10 ⟨Q,hb⟩;have i:=b4;have k:=k.oy Q (by omega);have o:=o.oy Q (by omega);have f:=f.oT Q i rfl;have g:=g.oT Q i rfl;have p:=p.oT Q i rfl;have q:=q.oT Q i rfl;have H:=H.oT Q i rfl;have aU:=aU.oT Q i rfl;have aV:=aV.oT Q i rfl;have j:=Below.oy j Q cJ;have b4:=hb;refine Za rfl<|Za rfl<|ZX d7 fun a h _ dB=>?_;refine Q5 fun _ dC=>?_;refine X0a (fun a w=>Fr a 143 [(1,.slice aP more.length aY),(5,(pZ9 bX)),(6,(pZ9 b20)),(7,.slice bE (sbL b alR5).length bF),(8,.bool (goodD b)),(58,.bool ((((goodD b) != (goodD b))||(((sbL b alR5).length:Int) != ((sbL b alR5).length:Int)))||(!(decide ((sbD b alR5)=(sbD b alR5))))))]/\Below w10.heap.size w10 w) ?_ ?_
 ·have a7:Below w10.heap.size w10 w10:=Below.refl _ _
  refine Zr h<|Zm rfl<|Zm rfl<|Ze (X93 Tryz.underlying4 rfl rfl)<|Zm rfl ?_
  refine Zg 46 rfl (fun C=>?_) (fun C=>?_)
  ·(iterate 5 refine Zp (gP C) ?_);refine Ze (X5 rfl C rfl)<|Zm rfl<|Zp (gP rfl) ?_;(iterate 3 refine Zp (gP rfl) ?_);refine Ze (X5 rfl rfl rfl) ?_;refine Zn fun a h=>?_
   have J:Below w10.heap.size w10 w10:=a7
   exact ⟨h.sub ⟨rfl,rfl,rfl,rfl,rfl,X1 rfl (by first|rfl|(simp only [C,Qw,Bool.false_and,Bool.true_or,Bool.false_or];done)|(simp only [B,C,Qw,Bool.false_and,Bool.true_or,Bool.false_or];done)|(simp [B,C];done)|(exfalso;revert C;simp)),trivial⟩,J⟩
  refine Zv (gW C) (X3 rfl) ?_;refine Zv (gW C) (X09 rfl X13) ?_;refine Zv (gW C) (X3 rfl) ?_;refine Zv (gW C) (X09 rfl X13) ?_;refine Zv (gW C) (X1e rfl rfl) ?_;refine Ze (Xb rfl C rfl)<|Zm rfl ?_
  refine Zg 53 rfl (fun I=>?_) (fun I=>?_)
  ·(iterate 4 refine Zp (gP I) ?_);refine Ze (X5 rfl I rfl) ?_;refine Zn fun a h=>?_
   have J:Below w10.heap.size w10 w10:=a7
   exact ⟨h.sub ⟨rfl,rfl,rfl,rfl,rfl,X1 rfl (by first|rfl|(simp only [C,I,Qw,Bool.false_and,Bool.true_or,Bool.false_or];done)|(simp only [B,C,I,Qw,Bool.false_and,Bool.true_or,Bool.false_or];done)|(simp [B,C,I];done)|(exfalso;revert I;simp)),trivial⟩,J⟩
  refine Zv (gW I) (Vn X2 o) ?_;refine Zv (gW I) (Vn X2 b4) ?_;refine Zk (gW I) (Vc (Y0d _ (sbD b alR5) (((sbD b alR5).ns).length) rfl aQ aR p.top aS aT q.top b3 (sbD b alR5) (((sbD b alR5).ns).length) rfl bH bJ aU.top bK bL aV.top d8 (Q0 X7e.len (by decide)) (Q0 X7e.m (by decide))) Xrs) ?_;rintro _ w11 ⟨rfl,e⟩;have j:=btr j e;have a7:=btr a7 e;refine Zv (gW I) (X0w rfl) ?_;refine Ze (Xb rfl I rfl) ?_;refine Zn fun a h=>?_
  have J:Below w10.heap.size w10 w11:=a7
  exact ⟨h.sub ⟨rfl,rfl,rfl,rfl,rfl,X1 rfl (by simp [B,C,I]),trivial⟩,J⟩
 rintro a eO ⟨h,e⟩;have k:=k.bw e;have o:=o.bw e;have f:=f.bw e;have g:=g.bw e;have p:=p.bw e;have q:=q.bw e;have H:=H.bw e;have j:=btr j e;refine dC _ _ ?_
 refine Xi h rfl (fun b5=>?_) (fun b5=>?_)
 ·have A:=b5
  simp at b5
 have A:=b5;refine Q7<|dB _ _<|Q5 fun _ dD=>?_;refine Zs h fun _ dE=>?_;refine Zm rfl<|Zt dE fun a h=>?_;refine X0a (fun a w=>Fr a 143 [(1,.slice aP more.length aY)]/\Below w0.heap.size w0 w) ?_ ?_
 ·refine Xi h rfl (fun b6=>?_) (fun b6=>?_)
  ·have aC:=b6
   have hG:goodD b=true:=b6
   have cK:=Xwd hG;refine Zs h fun _ dF=>?_;refine Ze (Vn X2 o)<|Zf (Vc (Xzy _ (sbD b alR5) (((sbD b alR5).ns).length) rfl aQ aR p.top aS aT q.top b3 (Q0 X7e.len (by decide)) X7e.m) Xqt) ?_;rintro _ eP ⟨rfl,e⟩;have k:=k.bw e;have o:=o.bw e;have f:=f.bw e;have g:=g.bw e;have p:=p.bw e;have q:=q.bw e;have H:=H.bw e;have j:=btr j e;refine Zm rfl<|Ze (Xo (vs:=[.bool (goodD (sbD b alR5)&&!(fsF (sbD b alR5) alR5).isSome),.bool (goodD (sbD b alR5))]) rfl rfl)<|Ze (Xo (vs:=[.bool (goodD (sbD b alR5)&&!(fsF (sbD b alR5) alR5).isSome),.bool (goodD (sbD b alR5))]) rfl rfl)<|Za rfl<|Za rfl<|Zx dF fun a h _ dG=>?_;refine Ze (Vn X2 k)<|Zm rfl<|Ze (Vn X2 o)<|Zf (Vc (Y0e _ b b.ns.length rfl aH aI f.top aJ aK g.top aM bE bF (sbL b alR5) H.rd.top (sbD b alR5) (((sbD b alR5).ns).length) rfl aQ aR p.top aS aT q.top b3 hG (Xbc hG).2 aL.1) Xp7) ?_;rintro _ eK ⟨rfl,e⟩;have k:=k.bw e;have o:=o.bw e;have f:=f.bw e;have g:=g.bw e;have p:=p.bw e;have q:=q.bw e;have j:=btr j e;refine Zm rfl<|Ze (Xo (vs:=[.bool (decide (siD b alR5=(sbD b alR5))),.bool true]) rfl rfl)<|Ze (Xo (vs:=[.bool (decide (siD b alR5=(sbD b alR5))),.bool true]) rfl rfl)<|Za rfl<|Za rfl<|ZX dG fun a h _ dH=>?_;refine Q5 fun _ dI=>?_;refine X0a (fun a w=>Fr a 143 [(1,.slice aP more.length aY),(5,(pZ9 bX)),(6,(pZ9 b20)),(85,.bool ((((!(goodD (sbD b alR5)))&&true)||(!(goodD (sbD b alR5)&&!(fsF (sbD b alR5) alR5).isSome)))||(!(decide (siD b alR5=(sbD b alR5))))))]/\eK=w) ?_ ?_
   ·refine Zr h<|Zm rfl<|Ze (X0w rfl)<|Zm rfl ?_
    refine Zg 74 rfl (fun U=>?_) (fun U=>?_)
    ·(iterate 2 refine Zp (gP U) ?_);refine Ze (X5 rfl U rfl)<|Zm rfl<|Zp (gP rfl) ?_;refine Zp (gP rfl) ?_;refine Ze (X5 rfl rfl rfl)<|Zm rfl<|Zp (gP rfl) ?_;refine Zp (gP rfl) ?_;refine Ze (X5 rfl rfl rfl) ?_;refine Zn fun a h=>?_;exact ⟨h.sub ⟨rfl,rfl,rfl,X1 rfl (by simp [B,A,aC,U]),trivial⟩,rfl⟩
    refine Zv (gW U) (X3 rfl) ?_;refine Zv (gW U) (X0w rfl) ?_;refine Ze (Xb rfl U rfl)<|Zm rfl<|Zv (gW rfl) (X3 rfl) ?_;refine Zv (gW rfl) (X0w rfl) ?_;refine Ze (Xb rfl rfl rfl)<|Zm rfl ?_
    refine Zg 82 rfl (fun L=>?_) (fun L=>?_)
    ·(iterate 2 refine Zp (gP L) ?_);refine Ze (X5 rfl L rfl) ?_;refine Zn fun a h=>?_;exact ⟨h.sub ⟨rfl,rfl,rfl,X1 rfl (by first|rfl|(simp only [U,L,Qw,Bool.false_and,Bool.true_or,Bool.false_or];done)|(simp only [B,A,aC,U,L,Qw,Bool.false_and,Bool.true_or,Bool.false_or];done)|(simp [B,A,aC,U,L];done)|(exfalso;revert L;simp)),trivial⟩,rfl⟩
    refine Zv (gW L) (X3 rfl) ?_;refine Zv (gW L) (X0w rfl) ?_;refine Ze (Xb rfl L rfl) ?_;refine Zn fun a h=>?_;exact ⟨h.sub ⟨rfl,rfl,rfl,X1 rfl (by first|rfl|(simp only [U,L,Qw,Bool.false_and,Bool.true_or,Bool.false_or];done)|(simp only [B,A,aC,U,L,Qw,Bool.false_and,Bool.true_or,Bool.false_or];done)|(simp [B,A,aC,U,L];done)|(exfalso;revert L;simp)),trivial⟩,rfl⟩
   rintro a _ ⟨h,rfl⟩;refine dI _ _ ?_
   refine Xi h rfl (fun b7=>?_) (fun b7=>?_)
   ·have aN:=b7;have h8:=b7;rw [cK.1,cK.2.1,cK.2.2] at h8;simp at h8
   have aN:=b7;refine Q7<|dH _ _<|Zs h fun _ dJ=>?_;refine Ze (Vn X2 k)<|Zf (Vc (Xtm _ b b.ns.length rfl aH aI f.top aJ aK g.top aM (by omega) aL.2.2.1 aL.1) Xfk) ?_;rintro _ eQ ⟨bY,bZ,rfl,a8,e⟩;have a8:=a8.lower j.size;have o:=o.bw e;have p:=p.bw e;have q:=q.bw e;have j:=btr j e;refine Zm rfl<|Ze (Xo (vs:=[.agg #[vi ((((mnO b)).getD mZ).rows),vi ((((mnO b)).getD mZ).cols),.slice bY ((((mnO b)).getD mZ).cells).length bZ],.bool (((mnO b)).isSome)]) rfl rfl)<|Ze (Xo (vs:=[.agg #[vi ((((mnO b)).getD mZ).rows),vi ((((mnO b)).getD mZ).cols),.slice bY ((((mnO b)).getD mZ).cells).length bZ],.bool (((mnO b)).isSome)]) rfl rfl)<|Zf (Xq (zs:=[vi 0,vi 0,.slice none 0 0]) Xa7 rfl) ?_;rintro _ eR ⟨eL,rfl,bN,e,aD⟩;have cL:=Q0 j.size bN;have dK:=(D.bx j).away bN;have dL:=(E.bx j).away bN;have o:=o.bw e;have p:=p.bw e;have q:=q.bw e;have a8:=a8.bw e;have j:=btr j e;refine Zo (Vw [vi ((((mnO b)).getD mZ).rows),vi ((((mnO b)).getD mZ).cols),.slice bY ((((mnO b)).getD mZ).cells).length bZ] X5a aD) ?_;rintro _ eS ⟨Q,hb⟩;have i:=aD;have o:=o.oz Q i rfl;have p:=p.oT Q i rfl;have q:=q.oT Q i rfl;have a8:=a8.oT Q i rfl;have j:=Below.oy j Q cL;have aD:=hb;refine Za rfl<|Zx dJ fun a h _ dM=>?_;refine Ze (Vn X2 o)<|Zf (Vc (Xtm _ (sbD b alR5) (((sbD b alR5).ns).length) rfl aQ aR p.top aS aT q.top b3 (Q0 X7e.len (by decide)) (Xex X7e) X7e.m) Xfk) ?_;rintro _ eT ⟨c5,cA,rfl,aF,e⟩
   have aF:=aF.lower j.size;have aD:=aD.bw e;have a8:=a8.bw e;have j:=btr j e;refine Zm rfl<|Ze (Xo (vs:=[.agg #[vi ((((mnO (sbD b alR5))).getD mZ).rows),vi ((((mnO (sbD b alR5))).getD mZ).cols),.slice c5 ((((mnO (sbD b alR5))).getD mZ).cells).length cA],.bool (((mnO (sbD b alR5))).isSome)]) rfl rfl)<|Ze (Xo (vs:=[.agg #[vi ((((mnO (sbD b alR5))).getD mZ).rows),vi ((((mnO (sbD b alR5))).getD mZ).cols),.slice c5 ((((mnO (sbD b alR5))).getD mZ).cells).length cA],.bool (((mnO (sbD b alR5))).isSome)]) rfl rfl)<|Zf (Xq (zs:=[vi 0,vi 0,.slice none 0 0]) Xa7 rfl) ?_;rintro _ eU ⟨b50,rfl,bO,e,b8⟩
   have cV:eL≠b50:=by have:=aD.lt;omega
   have cM:=Q0 j.size bO;have dN:=(D.bx j).away bO;have dO:=(E.bx j).away bO;have aD:=aD.bw e;have a8:=a8.bw e;have aF:=aF.bw e;have j:=btr j e;refine Zo (Vw [vi ((((mnO (sbD b alR5))).getD mZ).rows),vi ((((mnO (sbD b alR5))).getD mZ).cols),.slice c5 ((((mnO (sbD b alR5))).getD mZ).cells).length cA] X5a b8) ?_;rintro _ w20 ⟨Q,hb⟩;have i:=b8;have aD:=aD.oy Q (by omega);have a8:=a8.oT Q i rfl;have aF:=aF.oT Q i rfl;have j:=Below.oy j Q cM;have b8:=hb;refine Za rfl<|ZX dM fun a h _ dP=>?_;refine X0a (fun a w=>Fr a 143 [(1,.slice aP more.length aY),(105,.bool (((((mnO b)).isSome)&&(((mnO (sbD b alR5))).isSome))&&(!(decide ((((mnO b)).getD mZ).rows=(((mnO (sbD b alR5))).getD mZ).rows)&&decide ((((mnO b)).getD mZ).cols=(((mnO (sbD b alR5))).getD mZ).cols)&&decide ((((mnO b)).getD mZ).cells=(((mnO (sbD b alR5))).getD mZ).cells)))))]/\Below w20.heap.size w20 w) ?_ ?_
   ·have a7:Below w20.heap.size w20 w20:=Below.refl _ _
    refine Zr h<|Zm rfl<|Zm rfl ?_
    refine Zg 97 rfl (fun aE=>?_) (fun aE=>?_)
    ·refine Zv (gW aE) (X3 rfl) ?_;refine Ze (X5 rfl aE rfl)<|Zm rfl ?_
     refine Zg 100 rfl (fun aA=>?_) (fun aA=>?_)
     ·refine Zv (gW aA) (Vn X5d aD) ?_;refine Zv (gW aA) (Vn X5d b8) ?_;refine Zk (gW aA) (Vc (Y4i _ (((mnO b)).getD mZ) bY bZ a8.rd.top (((mnO (sbD b alR5))).getD mZ) c5 cA aF.rd.top (Q0 (Xx5 _) (by decide))) Xu4) ?_;rintro _ w21 ⟨rfl,e⟩;have j:=btr j e;have a7:=btr a7 e;refine Zv (gW aA) (X0w rfl) ?_;refine Ze (X5 rfl aA rfl) ?_;refine Zn fun a h=>?_
      have J:Below w20.heap.size w20 w21:=a7
      exact ⟨h.sub ⟨rfl,X1 rfl (by simp [B,A,aC,aN,aE,aA]),trivial⟩,J⟩
     (iterate 4 refine Zp (gP aA) ?_);refine Ze (Xb rfl aA rfl) ?_;refine Zn fun a h=>?_
     have J:Below w20.heap.size w20 w20:=a7
     exact ⟨h.sub ⟨rfl,X1 rfl (by simp [B,A,aC,aN,aE,aA]),trivial⟩,J⟩
    refine Zp (gP aE) ?_;refine Ze (Xb rfl aE rfl)<|Zm rfl<|Zp (gP rfl) ?_;(iterate 3 refine Zp (gP rfl) ?_);refine Ze (Xb rfl rfl rfl) ?_;refine Zn fun a h=>?_
    have J:Below w20.heap.size w20 w20:=a7
    exact ⟨h.sub ⟨rfl,X1 rfl (by simp [B,A,aC,aN,aE]),trivial⟩,J⟩
   rintro a eV ⟨h,e⟩;have j:=btr j e;refine dP _ _ ?_
   refine Xi h rfl (fun b9=>?_) (fun b9=>?_)
   ·have cN:=b9;have h8:=b9;cases e9:mnO b with|none=>rw [e9] at h8;simp at h8|some M=>cases e8:mnO (sbD b alR5) with|none=>rw [e9,e8] at h8;simp at h8|some N=>have h7:=Xuk hG e9 e8;subst h7;rw [e9,e8] at h8;simp at h8
   have cN:=b9;refine Q7<|Xc ?_;exact ⟨h.sb,j⟩
  have aC:=b6;refine Q7<|Xc ?_;exact ⟨h.sb,j⟩
 rintro a eX ⟨h,j⟩;refine dD _ _<|Zs h fun _ dQ=>?_;refine Zm rfl<|Zf (Vc (Y2a _ aP aY more (E.bx j).top eE) Xqi) ?_;rintro _ eY ⟨c,aZ,b0,b1,b2,rfl,bA,u,y,bB,e⟩;have j:=btr j e;refine Zf (Xq (zs:=[vi 0,.slice none 0 0,.slice none 0 0,vi 0,vi 0]) X0h rfl) ?_;rintro _ eZ ⟨eM,rfl,bP,e,G⟩;have cO:=Q0 j.size bP;have dR:=(D.bx j).away bP;have dS:=(E.bx j).away bP;have u:=u.bw e;have y:=y.bw e;have j:=btr j e;refine Zo (Vw [vi c.n,.slice aZ c.ns.length b0,.slice b1 c.ws.length b2,vi c.t,vi c.r] Xh G) ?_;rintro _ f0 ⟨Q,hb⟩;have i:=G;have u:=u.oT Q i rfl;have y:=y.oT Q i rfl;have j:=Below.oy j Q cO;have G:=hb;refine Zx dQ fun a h _ dT=>?_;refine Ze (Vn X2 G)<|Zf (Vc (Y0b _ c c.ns.length rfl aZ b0 u.top b1 b2 y.top bB (by omega) (by omega)) Xr2) ?_;rintro _ f3 ⟨bQ,bR,bS,bT,cP,cQ,rfl,aW,aX,dU,cC,e⟩;have cC:=cC.lower j.size;have G:=G.bw e;have u:=u.bw e;have y:=y.bw e;have j:=btr j e;refine Zm rfl<|Ze (Xo (vs:=[.agg #[vi ((sbD c ([1])).n),.slice bQ ((sbD c ([1])).ns).length bR,.slice bS ((sbD c ([1])).ws).length bT,vi ((sbD c ([1])).t),vi ((sbD c ([1])).r)],.slice cP (sbL c ([1])).length cQ,.bool (goodD c)]) rfl rfl)<|Ze (Xo (vs:=[.agg #[vi ((sbD c ([1])).n),.slice bQ ((sbD c ([1])).ns).length bR,.slice bS ((sbD c ([1])).ws).length bT,vi ((sbD c ([1])).t),vi ((sbD c ([1])).r)],.slice cP (sbL c ([1])).length cQ,.bool (goodD c)]) rfl rfl)<|Ze (Xo (vs:=[.agg #[vi ((sbD c ([1])).n),.slice bQ ((sbD c ([1])).ns).length bR,.slice bS ((sbD c ([1])).ws).length bT,vi ((sbD c ([1])).t),vi ((sbD c ([1])).r)],.slice cP (sbL c ([1])).length cQ,.bool (goodD c)]) rfl rfl)<|Zf (Xq (zs:=[vi 0,.slice none 0 0,.slice none 0 0,vi 0,vi 0]) X0h rfl) ?_;rintro _ f5 ⟨b67,rfl,bU,e,bC⟩
 have cW:eM≠b67:=by have:=G.lt;omega
 have cR:=Q0 j.size bU;have dW:=(D.bx j).away bU;have dX:=(E.bx j).away bU;have G:=G.bw e;have u:=u.bw e;have y:=y.bw e;have aW:=aW.bw e;have aX:=aX.bw e;have j:=btr j e;refine Zo (Vw [vi ((sbD c ([1])).n),.slice bQ ((sbD c ([1])).ns).length bR,.slice bS ((sbD c ([1])).ws).length bT,vi ((sbD c ([1])).t),vi ((sbD c ([1])).r)] Xh bC) ?_;rintro _ f7 ⟨Q,hb⟩;have i:=bC;have G:=G.oy Q (by omega);have u:=u.oT Q i rfl;have y:=y.oT Q i rfl;have aW:=aW.oT Q i rfl;have aX:=aX.oT Q i rfl;have j:=Below.oy j Q cR;have bC:=hb;refine Za rfl<|Za rfl<|Zx dT fun a h _ dY=>?_;refine Ze (Vn X2 bC)<|Zf (Vc (Y2i _ (sbD c ([1])) (((sbD c ([1])).ns).length) rfl bQ bR aW.top bS bT aX.top dU (Q0 X7e.len (by decide)) X7e.m) Xri) ?_;rintro _ w30 ⟨rfl,e⟩;have G:=G.bw e;have u:=u.bw e;have y:=y.bw e;have j:=btr j e;refine Zm rfl<|Ze (Xo (vs:=[.bool (ivD (sbD c ([1]))&&glD (sbD c ([1]))),.bool (ivD (sbD c ([1])))]) rfl rfl)<|Ze (Xo (vs:=[.bool (ivD (sbD c ([1]))&&glD (sbD c ([1]))),.bool (ivD (sbD c ([1])))]) rfl rfl)<|Za rfl<|Za rfl<|ZX dY fun a h _ eA=>?_;refine X0a (fun a w=>Fr a 143 [(4,.bool (((goodD c)==(goodD c))&&((((!(goodD c))||(decide (c.r<(-30))))||(decide (30<c.r)))||((ivD (sbD c ([1])))&&(ivD (sbD c ([1]))&&glD (sbD c ([1])))))))]/\Below w30.heap.size w30 w) ?_ ?_
 ·have a7:Below w30.heap.size w30 w30:=Below.refl _ _
  refine Zr h<|Zm rfl<|Ze (Vn X2 G)<|Zf (Vc (Xyi _ c c.ns.length rfl aZ b0 u.top b1 b2 y.top bB (by omega) bA.2.2.1) Xpq) ?_;rintro _ w31 ⟨rfl,e⟩;have G:=G.bw e;have j:=btr j e;have a7:=btr a7 e;refine Ze (Y34 Tryz.underlying4 rfl rfl)<|Zm rfl ?_
  refine Zg 123 rfl (fun d=>?_) (fun d=>?_)
  ·refine Zv (gW d) (X3 rfl) ?_;refine Zv (gW d) (X0w rfl) ?_;refine Zv (gW d) (X3 rfl) ?_
   refine Zg 126 rfl (fun W=>?_) (fun W=>?_)
   ·(iterate 3 refine Zp (gP W) ?_);refine Zv (gW d) (X5 rfl W rfl) ?_;refine Zv (gW d) (X3 rfl) ?_;(iterate 3 refine Zp (gP rfl) ?_);refine Zv (gW d) (X5 rfl rfl rfl) ?_;refine Zv (gW d) (X3 rfl) ?_;(iterate 2 refine Zp (gP rfl) ?_);refine Zp (gP tv0) ?_;refine Zp (gP rfl) ?_;refine Zv (gW d) (X5 rfl rfl rfl) ?_;refine Ze (X5 rfl d rfl)<|Za rfl ?_;refine Zn fun a h=>?_
    have J:Below w30.heap.size w30 w31:=a7
    exact ⟨h.sub ⟨X1 rfl (by simp [B,A,d,W]),trivial⟩,J⟩
   refine Zv (gW W) (Vd rfl X00 4) ?_;refine Zv (gW W) (X0 rfl X9 (G.at 4)) ?_;refine Zv (gW W) (X0n rfl rfl) ?_;refine Zv (gW d) (Xb rfl W rfl) ?_;refine Zv (gW d) (X3 rfl) ?_
   refine Zg 131 rfl (fun aB=>?_) (fun aB=>?_)
   ·(iterate 3 refine Zp (gP aB) ?_);refine Zv (gW d) (X5 rfl aB rfl) ?_;refine Zv (gW d) (X3 rfl) ?_;(iterate 2 refine Zp (gP rfl) ?_);refine Zp (gP tv0) ?_;refine Zp (gP rfl) ?_;refine Zv (gW d) (X5 rfl rfl rfl) ?_;refine Ze (X5 rfl d rfl)<|Za rfl ?_;refine Zn fun a h=>?_
    have J:Below w30.heap.size w30 w31:=a7
    exact ⟨h.sub ⟨X1 rfl (by simp [B,A,d,W,aB]),trivial⟩,J⟩
   refine Zv (gW aB) (Vd rfl X00 4) ?_;refine Zv (gW aB) (X0 rfl X9 (G.at 4)) ?_;refine Zv (gW aB) (X2y rfl rfl) ?_;refine Zv (gW d) (Xb rfl aB rfl) ?_;refine Zv (gW d) (X3 rfl) ?_
   refine Zg 136 rfl (fun a6=>?_) (fun a6=>?_)
   ·(iterate 2 refine Zp (gP a6) ?_);refine Zp (gP tv0) ?_;refine Zp (gP a6) ?_;refine Zv (gW d) (X5 rfl a6 rfl) ?_;refine Ze (X5 rfl d rfl)<|Za rfl ?_;refine Zn fun a h=>?_
    have J:Below w30.heap.size w30 w31:=a7
    exact ⟨h.sub ⟨X1 rfl (by simp [B,A,d,W,aB,a6]),trivial⟩,J⟩
   refine Zv (gW a6) (X3 rfl) ?_;refine Zv (gW a6) (X3 rfl) ?_
   refine Zg 138 rfl (fun aG=>?_) (fun aG=>?_)
   ·refine Zv (gW aG) (X3 rfl) ?_;refine Zv (gW a6) (X5 rfl aG rfl) ?_;refine Zv (gW d) (Xb rfl a6 rfl) ?_;refine Ze (X5 rfl d rfl)<|Za rfl ?_;refine Zn fun a h=>?_
    have J:Below w30.heap.size w30 w31:=a7
    exact ⟨h.sub ⟨X1 rfl (by simp [B,A,d,W,aB,a6,aG]),trivial⟩,J⟩
   refine Zp (gP aG) ?_;refine Zv (gW a6) (Xb rfl aG rfl) ?_;refine Zv (gW d) (Xb rfl a6 rfl) ?_;refine Ze (X5 rfl d rfl)<|Za rfl ?_;refine Zn fun a h=>?_
   have J:Below w30.heap.size w30 w31:=a7
   exact ⟨h.sub ⟨X1 rfl (by simp [B,A,d,W,aB,a6,aG]),trivial⟩,J⟩
  (iterate 3 refine Zp (gP d) ?_);(iterate 3 refine Zp (gP tv0) ?_);(iterate 2 refine Zp (gP d) ?_);(iterate 3 refine Zp (gP tv0) ?_);(iterate 2 refine Zp (gP d) ?_);(iterate 4 refine Zp (gP tv0) ?_);refine Zp (gP d) ?_;refine Ze (Xb rfl d rfl)<|Za rfl ?_;refine Zn fun a h=>?_
  have J:Below w30.heap.size w30 w31:=a7
  exact ⟨h.sub ⟨X1 rfl (by first|rfl|(simp only [d,Qw,Bool.false_and,Bool.true_or,Bool.false_or];done)|(simp only [B,A,d,Qw,Bool.false_and,Bool.true_or,Bool.false_or];done)|(simp [B,A,d];done)|(exfalso;revert d;simp)),trivial⟩,J⟩
 rintro a f8 ⟨h,e⟩;have j:=btr j e;refine eA _ _ ?_
 refine Q6 (X6 h (Xp h rfl rfl) ?_)
 exact ⟨congrArg Value.bool (Xwu bA.2.2.2),j⟩
end Go.Proofs.YtpifljegadknkaaGreat
namespace Go.Proofs.YtpifljegadknkaaGreat
open Go.ChangeShapes Go.WideShapes Go.ChangeAt Go.RowKit Go.Deep Go.Joins
set_option linter.unusedVariables false
set_option maxRecDepth 100000 in
theorem Xdh(os:Os)(started:os.Started)(H:Type)(enc:TypeId×Value->H) :
  ReturnsInHanded {} Tryz.checked os 4 .any (Rows.fnSimplifiedSpec.pre6 enc Tryz.prog Tryz.f4 Rows.fnSimplifiedRow.domain false) (Rows.fnSimplifiedSpec.post enc Tryz.prog Tryz.f4 false true false false):=by
 refine returnsInHanded_of_change (C:=Tryz.checked) own started (by kernel_rfl) Tryz.func4
  (ChangeSpec.witness6 (enc:=enc) (C:=Tryz.checked) false ⟨#[],#[.slice none 0 0,.slice none 0 0],[]⟩ 8 (by kernel_rfl) (by kernel_rfl) (by kernel_rfl) (by kernel_rfl)) ?_
 intro W base args ds gs before hval0 hW hcnd _
 have hval:∀ (j:Nat) t v,Tryz.f4.params[j]? = some t->args[j]? = some v->Value.okWide Tryz.prog W .any base t v:=hval0
 have hW':=hW
 obtain ⟨p,q,hA0,hV,rfl,hfz,hnd⟩:=hW
 have hA:DataW.TrodAll enc Tryz.prog W 0 (fun _=>true) true Tryz.f4.params.toList args.toList ds p:=hA0
 rw [Tryz.params4] at hA hval
 obtain ⟨v0,v1,d0,d1,p0,p1,rfl,rfl,rfl,h0,h1⟩:=trodAll_two hA;obtain ⟨rfl,rfl⟩:=trodVars_none hV;have h0k:=h0;have h1k:=h1
 obtain ⟨A,c,i,E,rfl,hr0,hc0⟩:=X97 (hval 0 34 v0 rfl rfl) h0 (fun _=>rfl)
 obtain ⟨B,l,k,F,rfl,hr1,hc1⟩:=X97 (hval 1 34 v1 rfl rfl) h1 (fun _=>rfl)
 clear hA0 hval0
 simp only [List.append_nil] at hW'
 have hlt:∀ x ∈ p0++p1,x.block<W.heap.size:=fun x hx=>hW'.lt x (by simpa using hx)
 refine Calls.mono (Y3q W A i c hr0 hc0 B k l hr1 hc1) fun r W' ⟨v,he,hv,hb⟩=>?_
 subst hv
 refine ⟨_,he,Xds (pa:=p0++p1) (pv:=[]) hW' (fun _ _ _=>trodAll_mk1 (shut_bool Tryz.underlying4 true)) (fun sp hsp=>?_) (fun _ _=>rfl) (by simp) hb⟩
 exact trodAll_mk2 (WideElems.Trod_stays Xh6 (by kernel_rfl) (Q2 (by kernel_rfl)) h0k (fun x hx=>hb.same (hlt x (List.mem_append_left _ hx))) (fun x hx=>hsp x (by simp [hx])))
  (WideElems.Trod_stays Xh6 (by kernel_rfl) (Q2 (by kernel_rfl)) h1k (fun x hx=>hb.same (hlt x (List.mem_append_right _ hx))) (fun x hx=>hsp x (by simp [hx])))
theorem fsim_holds:Rows.FnSimplifiedSaid:=
 OpenClaim.holds_of_wide 4 Tryz.f4 rfl rfl rfl rfl rfl rfl rfl ⟨rfl,rfl,rfl,rfl,rfl⟩ rfl rfl rfl rfl rfl (by kernel_rfl) Tryz.func4 (by kernel_rfl)
  (Q2 (by kernel_rfl)) (by unfold Func.isWrapper;first|(rw [Q4 (by decide +kernel)];kernel_rfl)|(rw [Q3 (by decide +kernel)];exact ⟨rfl,rfl⟩))
  (fun os started H enc _=>Xdh os started H enc)
end Go.Proofs.YtpifljegadknkaaGreat
