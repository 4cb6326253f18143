/-
  For every two circuits, the program's VerifyByRewriting returns what the reference's returns and leaves its arguments as they were.
-/
import Derived.Test.YtpifljegadknkaaGreatQ5
import Derived.Test.YtpifljegadknkaaGreatQ2
import Derived.Test.YtpifljegadknkaaGreatQ4
import Derived.Test.YtpifljegadknkaaGreatQ1
import Derived.Test.YtpifljegadknkaaGreatRows
set_option linter.unusedVariables false
set_option linter.unusedSimpArgs false
set_option maxHeartbeats 1000000
set_option maxRecDepth 4000
set_option linter.unusedSectionVars false
namespace Go.Proofs.YtpifljegadknkaaGreat
open Go.RowKit
theorem Xux(L:World)(p:Cx)(Ap:Option Addr)(cp:Nat)(aF:Rd L L.heap.size 123 encG Ap p.gs)(q:Cx)(Aq:Option Addr)(cq:Nat)(aG:Rd L L.heap.size 123 encG Aq q.gs)(aY:p.gs.length≤2000000)(aZ:q.gs.length≤2000000) : Ret Tryz.prog 26 [.agg #[vi p.n,.slice Ap p.gs.length cp],.agg #[vi q.n,.slice Aq q.gs.length cq]] L (fun v w=>v=.tuple #[.bool (vfV p q),.bool (vfO p q)]∧Below L.heap.size L w):=by
 refine enter Tryz.func26 rfl 42 rfl rfl ?_;intro a g
 have b:=bz L
 refine Zs g fun _ b0=>?_;refine Zf (X0c (zs:=[vi p.n,.slice Ap p.gs.length cp]) rfl rfl) ?_;rintro _ w1 ⟨b4,rfl,b1,d,o⟩;have bB:=Q0 b.size b1;have b:=btr b d;refine Zf (X0c (zs:=[vi q.n,.slice Aq q.gs.length cq]) rfl rfl) ?_;rintro _ w2 ⟨b5,rfl,b2,d,D⟩
 have aU:b4≠b5:=by have:=o.lt;omega
 have bC:=Q0 b.size b2;have o:=o.below d;have b:=btr b d;refine Za rfl<|Za rfl<|Zx b0 fun a g _ b3=>?_;refine Ze (Vn X12 o)<|Ze (Vn X12 D)<|Zf (Vc (Xv4 _ p Ap cp (aF.below' b).top q Aq cq (aG.below' b).top aY aZ) Xme) ?_;rintro _ w3 ⟨A7,c7,rfl,u,d⟩;have u:=u.lower b.size;have o:=o.below d;have D:=D.below d;have b:=btr b d;refine Zm rfl<|Ze (Xn (vs:=[.agg #[vi (((((invO q).bind (conO p))).getD cZ).n),.slice A7 (((((invO q).bind (conO p))).getD cZ).gs).length c7],.bool ((((invO q).bind (conO p))).isSome)]) rfl rfl)<|Ze (Xn (vs:=[.agg #[vi (((((invO q).bind (conO p))).getD cZ).n),.slice A7 (((((invO q).bind (conO p))).getD cZ).gs).length c7],.bool ((((invO q).bind (conO p))).isSome)]) rfl rfl)<|Zf (Xu (zs:=[vi 0,.slice none 0 0]) X4e rfl) ?_;rintro _ w4 ⟨b9,rfl,b6,d,E⟩
 have aW:b4≠b9:=by have:=o.lt;omega
 have aX:b5≠b9:=by have:=D.lt;omega
 have aH:=Q0 b.size b6;have u:=u.below d;have b:=btr b d;refine Zo (Vw [vi (((((invO q).bind (conO p))).getD cZ).n),.slice A7 (((((invO q).bind (conO p))).getD cZ).gs).length c7] X1w E) ?_;rintro _ w5 ⟨C,hb⟩;have e:=E;have u:=u.onlyT C e rfl;have b:=Below.only b C aH;have E:=hb;refine Za rfl<|Zx b3 fun a g _ aI=>?_;refine Ze (Vn X12 E)<|Zf (Vc (Xtu _ ((((invO q).bind (conO p))).getD cZ) A7 c7 u.rd.top (Q0 (Xlh p q) (by decide))) Xn6) ?_;rintro _ w6 ⟨G,H,I,J,rfl,i,j,aJ,d⟩;have b:=btr b d;refine Zm rfl<|Ze (Xn (vs:=[.agg #[vi ((if (dgC ((((invO q).bind (conO p))).getD cZ))=true then ofD ((((invO q).bind (conO p))).getD cZ) else zD).n),.slice G ((if (dgC ((((invO q).bind (conO p))).getD cZ))=true then ofD ((((invO q).bind (conO p))).getD cZ) else zD).ns).length H,.slice I ((if (dgC ((((invO q).bind (conO p))).getD cZ))=true then ofD ((((invO q).bind (conO p))).getD cZ) else zD).ws).length J,vi ((if (dgC ((((invO q).bind (conO p))).getD cZ))=true then ofD ((((invO q).bind (conO p))).getD cZ) else zD).t),vi ((if (dgC ((((invO q).bind (conO p))).getD cZ))=true then ofD ((((invO q).bind (conO p))).getD cZ) else zD).r)],.bool (dgC ((((invO q).bind (conO p))).getD cZ))]) rfl rfl)<|Ze (Xn (vs:=[.agg #[vi ((if (dgC ((((invO q).bind (conO p))).getD cZ))=true then ofD ((((invO q).bind (conO p))).getD cZ) else zD).n),.slice G ((if (dgC ((((invO q).bind (conO p))).getD cZ))=true then ofD ((((invO q).bind (conO p))).getD cZ) else zD).ns).length H,.slice I ((if (dgC ((((invO q).bind (conO p))).getD cZ))=true then ofD ((((invO q).bind (conO p))).getD cZ) else zD).ws).length J,vi ((if (dgC ((((invO q).bind (conO p))).getD cZ))=true then ofD ((((invO q).bind (conO p))).getD cZ) else zD).t),vi ((if (dgC ((((invO q).bind (conO p))).getD cZ))=true then ofD ((((invO q).bind (conO p))).getD cZ) else zD).r)],.bool (dgC ((((invO q).bind (conO p))).getD cZ))]) rfl rfl)<|Zf (Xu (zs:=[vi 0,.slice none 0 0,.slice none 0 0,vi 0,vi 0]) X0s rfl) ?_;rintro _ w7 ⟨aK,rfl,aL,d,f⟩
 have a6:=Q0 b.size aL;have i:=i.below d;have j:=j.below d;have b:=btr b d;refine Zo (Vw [vi ((if (dgC ((((invO q).bind (conO p))).getD cZ))=true then ofD ((((invO q).bind (conO p))).getD cZ) else zD).n),.slice G ((if (dgC ((((invO q).bind (conO p))).getD cZ))=true then ofD ((((invO q).bind (conO p))).getD cZ) else zD).ns).length H,.slice I ((if (dgC ((((invO q).bind (conO p))).getD cZ))=true then ofD ((((invO q).bind (conO p))).getD cZ) else zD).ws).length J,vi ((if (dgC ((((invO q).bind (conO p))).getD cZ))=true then ofD ((((invO q).bind (conO p))).getD cZ) else zD).t),vi ((if (dgC ((((invO q).bind (conO p))).getD cZ))=true then ofD ((((invO q).bind (conO p))).getD cZ) else zD).r)] Xp f) ?_;rintro _ w8 ⟨C,hb⟩;have e:=f;have i:=i.onlyT C e rfl;have j:=j.onlyT C e rfl;have b:=Below.only b C a6;have f:=hb;refine Za rfl<|ZX aI fun a g _ aM=>?_;refine Q5 fun _ aN=>?_;refine X0a (fun a w=>Fr a 42 [(8,.pointer (some ⟨aK,0,none⟩)),(29,.bool ((!((((invO q).bind (conO p))).isSome))||(!(dgC ((((invO q).bind (conO p))).getD cZ)))))]∧w8=w) ?_ ?_
 ·refine Zr g<|Zm rfl<|Ze (X0y rfl)<|Zm rfl ?_
  refine Zg 26 rfl (fun c=>?_) (fun c=>?_)
  ·refine Zp (gP c) ?_;refine Zp (gP c) ?_;refine Ze (X7 rfl c rfl) ?_;refine Zn fun a g=>?_;exact ⟨g.sub ⟨rfl,X1 rfl (by first|rfl|(simp only [c,bs];done)|simp [c]),trivial⟩,rfl⟩
  refine Zv (gW c) (X3 rfl) ?_;refine Zv (gW c) (X0y rfl) ?_;refine Ze (Xe rfl c rfl) ?_;refine Zn fun a g=>?_;exact ⟨g.sub ⟨rfl,X1 rfl (by first|rfl|(simp only [c,bs];done)|simp [c]),trivial⟩,rfl⟩
 rintro a _ ⟨g,rfl⟩;refine aN _ _ ?_
 refine Xg g rfl (fun k=>?_) (fun k=>?_)
 ·have a7:=k
  have b7:vfO p q=false:=Xte k
  refine Zs g fun _ aO=>?_;refine Za rfl<|Za rfl<|Zt aO fun a g=>?_;refine Q6<|X6<|X4 g (X17 g rfl rfl rfl) ?_;exact ⟨by unfold vfV;rw [b7];rfl,b⟩
 have a7:=k;obtain ⟨b8,a8⟩:=Xqw k
 have aA:(if dgC (((invO q).bind (conO p)).getD cZ)=true then ofD (((invO q).bind (conO p)).getD cZ) else zD)=ofD (((invO q).bind (conO p)).getD cZ):=Q4 a8
 have aP:=X7h alR5 (X3v a8);have bA:=Xlb aP;refine Q7<|aM _ _<|Zs g fun _ aQ=>?_;refine Ze (Vn X2 f)<|Zf (Vc (Xus _ (if (dgC ((((invO q).bind (conO p))).getD cZ))=true then ofD ((((invO q).bind (conO p))).getD cZ) else zD) (((if (dgC ((((invO q).bind (conO p))).getD cZ))=true then ofD ((((invO q).bind (conO p))).getD cZ) else zD).ns).length) rfl G H i.top I J j.top aJ (by rw [aA];exact X3v a8)) Xm0) ?_;rintro _ w9 ⟨y,h,A,B,aB,aC,rfl,l,m,aR,M,d⟩;have M:=M.lower b.size;have f:=f.below d;have b:=btr b d;refine Zm rfl<|Ze (Xn (vs:=[.agg #[vi ((siD (if (dgC ((((invO q).bind (conO p))).getD cZ))=true then ofD ((((invO q).bind (conO p))).getD cZ) else zD) alR5).n),.slice y ((siD (if (dgC ((((invO q).bind (conO p))).getD cZ))=true then ofD ((((invO q).bind (conO p))).getD cZ) else zD) alR5).ns).length h,.slice A ((siD (if (dgC ((((invO q).bind (conO p))).getD cZ))=true then ofD ((((invO q).bind (conO p))).getD cZ) else zD) alR5).ws).length B,vi ((siD (if (dgC ((((invO q).bind (conO p))).getD cZ))=true then ofD ((((invO q).bind (conO p))).getD cZ) else zD) alR5).t),vi ((siD (if (dgC ((((invO q).bind (conO p))).getD cZ))=true then ofD ((((invO q).bind (conO p))).getD cZ) else zD) alR5).r)],.slice aB (siL (if (dgC ((((invO q).bind (conO p))).getD cZ))=true then ofD ((((invO q).bind (conO p))).getD cZ) else zD) alR5).length aC,.bool true]) rfl rfl)<|Ze (Xn (vs:=[.agg #[vi ((siD (if (dgC ((((invO q).bind (conO p))).getD cZ))=true then ofD ((((invO q).bind (conO p))).getD cZ) else zD) alR5).n),.slice y ((siD (if (dgC ((((invO q).bind (conO p))).getD cZ))=true then ofD ((((invO q).bind (conO p))).getD cZ) else zD) alR5).ns).length h,.slice A ((siD (if (dgC ((((invO q).bind (conO p))).getD cZ))=true then ofD ((((invO q).bind (conO p))).getD cZ) else zD) alR5).ws).length B,vi ((siD (if (dgC ((((invO q).bind (conO p))).getD cZ))=true then ofD ((((invO q).bind (conO p))).getD cZ) else zD) alR5).t),vi ((siD (if (dgC ((((invO q).bind (conO p))).getD cZ))=true then ofD ((((invO q).bind (conO p))).getD cZ) else zD) alR5).r)],.slice aB (siL (if (dgC ((((invO q).bind (conO p))).getD cZ))=true then ofD ((((invO q).bind (conO p))).getD cZ) else zD) alR5).length aC,.bool true]) rfl rfl)<|Ze (Xn (vs:=[.agg #[vi ((siD (if (dgC ((((invO q).bind (conO p))).getD cZ))=true then ofD ((((invO q).bind (conO p))).getD cZ) else zD) alR5).n),.slice y ((siD (if (dgC ((((invO q).bind (conO p))).getD cZ))=true then ofD ((((invO q).bind (conO p))).getD cZ) else zD) alR5).ns).length h,.slice A ((siD (if (dgC ((((invO q).bind (conO p))).getD cZ))=true then ofD ((((invO q).bind (conO p))).getD cZ) else zD) alR5).ws).length B,vi ((siD (if (dgC ((((invO q).bind (conO p))).getD cZ))=true then ofD ((((invO q).bind (conO p))).getD cZ) else zD) alR5).t),vi ((siD (if (dgC ((((invO q).bind (conO p))).getD cZ))=true then ofD ((((invO q).bind (conO p))).getD cZ) else zD) alR5).r)],.slice aB (siL (if (dgC ((((invO q).bind (conO p))).getD cZ))=true then ofD ((((invO q).bind (conO p))).getD cZ) else zD) alR5).length aC,.bool true]) rfl rfl)<|Zf (Xu (zs:=[vi 0,.slice none 0 0,.slice none 0 0,vi 0,vi 0]) X0s rfl) ?_;rintro _ bD ⟨b27,rfl,aS,d,x⟩
 have aE:aK≠b27:=by have:=f.lt;omega
 have aD:=Q0 b.size aS;have l:=l.below d;have m:=m.below d;have b:=btr b d;refine Zo (Vw [vi ((siD (if (dgC ((((invO q).bind (conO p))).getD cZ))=true then ofD ((((invO q).bind (conO p))).getD cZ) else zD) alR5).n),.slice y ((siD (if (dgC ((((invO q).bind (conO p))).getD cZ))=true then ofD ((((invO q).bind (conO p))).getD cZ) else zD) alR5).ns).length h,.slice A ((siD (if (dgC ((((invO q).bind (conO p))).getD cZ))=true then ofD ((((invO q).bind (conO p))).getD cZ) else zD) alR5).ws).length B,vi ((siD (if (dgC ((((invO q).bind (conO p))).getD cZ))=true then ofD ((((invO q).bind (conO p))).getD cZ) else zD) alR5).t),vi ((siD (if (dgC ((((invO q).bind (conO p))).getD cZ))=true then ofD ((((invO q).bind (conO p))).getD cZ) else zD) alR5).r)] Xp x) ?_;rintro _ bE ⟨C,hb⟩;have e:=x;have l:=l.onlyT C e rfl;have m:=m.onlyT C e rfl;have b:=Below.only b C aD;have x:=hb;refine Za rfl<|Za rfl<|Zx aQ fun a g _ aT=>?_;refine Zm rfl<|Zm rfl<|Zv (gW rfl) (Vn X2 x) ?_;refine Zk (gW rfl) (Vc (Xt2 _ (siD (if (dgC ((((invO q).bind (conO p))).getD cZ))=true then ofD ((((invO q).bind (conO p))).getD cZ) else zD) alR5) (((siD (if (dgC ((((invO q).bind (conO p))).getD cZ))=true then ofD ((((invO q).bind (conO p))).getD cZ) else zD) alR5).ns).length) rfl y h l.top A B m.top aR (by rw [aA];exact aP)) Xm5) ?_;rintro _ bF ⟨rfl,d⟩;have b:=btr b d;refine Ze (X7 rfl rfl rfl)<|Zm rfl<|Za rfl<|Za rfl<|Zt aT fun a g=>?_
 refine Q6 (X4 g (X17 g rfl rfl rfl) ?_)
 exact ⟨by unfold vfV vfC;rw [b8,Qw,aA,bA],b⟩
theorem Xtr(M:World){Xc:TypeId}(c:Cx)(Ac:Option Addr)(cc:Nat)(q:Rd M M.heap.size Xc encG Ac c.gs){Xd:TypeId}(d:Cx)(Ad:Option Addr)(cd:Nat)(A:Rd M M.heap.size Xd encG Ad d.gs)(bH:c.gs.length≤9223372036854775807)(bJ:d.gs.length≤9223372036854775807) : Ret Tryz.prog 5 [.agg #[vi c.n,.slice Ac c.gs.length cc],.agg #[vi d.n,.slice Ad d.gs.length cd]] M (fun v w=>v=.bool true∧Below M.heap.size M w):=by
 refine enter Tryz.func5 rfl 58 rfl rfl ?_;intro a o
 have g:=bz M
 refine Zs o fun _ bK=>?_;refine Zf (X0c (zs:=[vi c.n,.slice Ac c.gs.length cc]) rfl rfl) ?_;rintro _ w1 ⟨b4,rfl,aH,b,f⟩;have bR:=Q0 g.size aH;have bE:=(q.below' g).away aH;have g:=btr g b;refine Zf (X0c (zs:=[vi d.n,.slice Ad d.gs.length cd]) rfl rfl) ?_;rintro _ w2 ⟨b5,rfl,aI,b,e⟩
 have bF:b4≠b5:=by have:=f.lt;omega
 have bS:=Q0 g.size aI;have bG:=(q.below' g).away aI;have f:=f.below b;have g:=btr g b;refine Za rfl<|Zx bK fun a o _ bL=>?_;refine Za rfl<|Zx bL fun a o _ bM=>?_;refine Ze (Vn X7a f)<|Zm rfl<|Zf (Vc (F14 _ c Ac cc (q.below' g).top 1048576 (by omega) bH) Xou) ?_;rintro _ w3 ⟨rfl,b⟩;have f:=f.below b;have e:=e.below b;have g:=btr g b;refine Za rfl<|ZX bM fun a o _ bN=>?_;refine Zs o fun _ bO=>?_;refine Zm rfl<|Ze (X0l rfl rfl)<|Zt bO fun a o=>?_
 refine Xg o rfl (fun p=>?_) (fun p=>?_)
 ·have x:=p;have p:=Q2 p;refine Zs o fun _ aJ=>?_;refine Za rfl<|Zt aJ fun a o=>?_;refine Q6<|X6<|X4 o (Xt o rfl rfl) ?_;exact ⟨rfl,g⟩
 have x:=p;have p:=Q1 p;have aK:=p
 have I:c.gs.length≤1048576:=by have:=Xb4 p;omega
 refine Q7<|bN _ _<|Zs o fun _ aL=>?_;refine Ze (Vn X7a e)<|Zm rfl<|Zf (Vc (F14 _ d Ad cd (A.below' g).top (szG c.gs 1048576) (by have:=Xb4 aK;omega) bJ) Xou) ?_;rintro _ w4 ⟨rfl,b⟩;have f:=f.below b;have e:=e.below b;have g:=btr g b;refine Za rfl<|ZX aL fun a o _ aM=>?_;refine Zs o fun _ aN=>?_;refine Zm rfl<|Ze (X0l rfl rfl)<|Zt aN fun a o=>?_
 refine Xg o rfl (fun t=>?_) (fun t=>?_)
 ·have y:=t;have t:=Q2 t;refine Zs o fun _ aO=>?_;refine Za rfl<|Zt aO fun a o=>?_;refine Q6<|X6<|X4 o (Xt o rfl rfl) ?_;exact ⟨rfl,g⟩
 have y:=t;have t:=Q1 t
 have J:d.gs.length≤1048576:=by have:=Xb4 aK;have:=Xb4 t;omega
 refine Q7<|aM _ _<|Q5 fun _ aP=>?_;refine X05 none (fun _=>false) mixed ?_;intro w5 b;have f:=f.below b;have e:=e.below b;have g:=btr g b;refine Yb o<|Ye 0 rfl (Vn X7a f)<|Ye 2 rfl (Vn X7a e)<|Y1 1 ?_;refine Yk rfl trivial (Vc (F16 _ c Ac cc (q.below' g).top I) X93) (fun _ _ ⟨aQ,aR,_,h,b⟩=>b) ?_;rintro _ w6 ⟨aQ,aR,rfl,h,b⟩;have h:=h.lower g.size;have f:=f.below b;have e:=e.below b;have g:=btr g b;refine Y1 3<|Yk rfl trivial (Vc (F16 _ d Ad cd (A.below' g).top J) X93) (fun _ _ ⟨aS,aT,_,B,b⟩=>b) ?_;rintro _ w7 ⟨aS,aT,rfl,B,b⟩;have B:=B.lower g.size;have f:=f.below b;have e:=e.below b;have h:=h.below b;have g:=btr g b;refine Y1 4<|Yk rfl trivial (Vc (Xvv _ c aQ aR h.rd.top d aS aT B.rd.top (Q0 I (by decide)) (Q0 J (by decide))) Xnr) (fun _ _ ⟨_,b⟩=>b) ?_;rintro _ w8 ⟨rfl,b⟩;have f:=f.below b;have e:=e.below b;have g:=btr g b;refine Yo 5 rfl (fun _=>X3 rfl)<|Yo 6 rfl (fun _=>Xn (vs:=[.bool (vfV c d),.bool (vfO c d)]) rfl rfl)<|Yo 7 rfl (fun _=>Xn (vs:=[.bool (vfV c d),.bool (vfO c d)]) rfl rfl)<|Yo 8 rfl (fun _=>X11 rfl)<|Yo 9 rfl (fun _=>X11 rfl) ?_;refine Yd fun a o=>?_;refine aP _ _<|Zs o fun _ aU=>?_;refine Ze (Vn X7a f)<|Zf (Vc (F16 _ c Ac cc (q.below' g).top I) X93) ?_;rintro _ w9 ⟨a6,a7,rfl,i,b⟩;have i:=i.lower g.size;have f:=f.below b;have e:=e.below b;have g:=btr g b;refine Zf (Xu (zs:=[vi 0,.slice none 0 0]) X4e rfl) ?_;rintro _ bT ⟨aW,rfl,N,b,k⟩;have a8:=Q0 g.size N;have aX:=(q.below' g).away N;have f:=f.below b
 have e:=e.below b;have i:=i.below b;have g:=btr g b;refine Zo (Vw [vi c.n,.slice a6 c.gs.length a7] X1w k) ?_;rintro _ bU ⟨L,hb⟩;have u:=k;have f:=f.only L (Blk.ne f u rfl);have e:=e.only L (Blk.ne e u rfl);have i:=i.onlyT L u rfl;have g:=Below.only g L a8;have k:=hb;refine Zx aU fun a o _ aY=>?_;refine Ze (Vn X7a e)<|Zf (Vc (F16 _ d Ad cd (A.below' g).top J) X93) ?_;rintro _ bW ⟨aA,aB,rfl,j,b⟩;have j:=j.lower g.size;have f:=f.below b;have e:=e.below b;have k:=k.below b;have i:=i.below b;have g:=btr g b;refine Zf (Xu (zs:=[vi 0,.slice none 0 0]) X4e rfl) ?_;rintro _ bX ⟨b27,rfl,Q,b,l⟩
 have aG:aW≠b27:=by have:=k.lt;omega
 have aC:=Q0 g.size Q;have aZ:=(q.below' g).away Q;have f:=f.below b;have e:=e.below b;have k:=k.below b;have i:=i.below b;have j:=j.below b;have g:=btr g b;refine Zo (Vw [vi d.n,.slice aA d.gs.length aB] X1w l) ?_;rintro _ bY ⟨L,hb⟩;have u:=l;have f:=f.only L (Blk.ne f u rfl);have e:=e.only L (Blk.ne e u rfl);have k:=k.only L (by omega);have i:=i.onlyT L u rfl;have j:=j.onlyT L u rfl;have g:=Below.only g L aC;have l:=hb;refine Zx aY fun a o _ b0=>?_;refine Ze (Vn X12 k)<|Ze (Vn X12 l)<|Zf (Vc (Xux _ c a6 a7 i.rd.top d aA aB j.rd.top (Q0 I (by decide)) (Q0 J (by decide))) Xku) ?_;rintro _ bP ⟨rfl,b⟩;have f:=f.below b;have e:=e.below b;have k:=k.below b;have l:=l.below b;have i:=i.below b;have j:=j.below b;have g:=btr g b;refine Zm rfl<|Ze (Xn (vs:=[.bool (vfV c d),.bool (vfO c d)]) rfl rfl)<|Ze (Xn (vs:=[.bool (vfV c d),.bool (vfO c d)]) rfl rfl)<|Za rfl<|Za rfl<|ZX b0 fun a o _ b1=>?_;refine Q5 fun _ b2=>?_;refine X0a (fun a w=>Fr a 58 [(2,.pointer (some ⟨b4,0,none⟩)),(3,.pointer (some ⟨b5,0,none⟩)),(8,.pointer (some ⟨aW,0,none⟩)),(9,.pointer (some ⟨b27,0,none⟩)),(47,.bool (((vfV c d) != (vfV c d))||((vfO c d) != (vfO c d))))]∧bP=w) ?_ ?_
 ·refine Zr o<|Zm rfl<|Zm rfl<|Ze (X77 Tryz.underlying4 rfl rfl)<|Zm rfl ?_
  refine Zg 43 rfl (fun m=>?_) (fun m=>?_)
  ·refine Zp (gP m) ?_;refine Zp (gP m) ?_;refine Zp (gP m) ?_;refine Ze (X7 rfl m rfl) ?_;refine Zn fun a o=>?_;exact ⟨o.sub ⟨rfl,rfl,rfl,rfl,X1 rfl (by first|rfl|(simp only [x,y,m,Qw,Bool.false_and,Bool.true_or,Bool.false_or];done)|(simp [x,y,m];done)|(exfalso;revert m;simp)),trivial⟩,rfl⟩
  refine Zv (gW m) (X3 rfl) ?_;refine Zv (gW m) (X3 rfl) ?_;refine Zv (gW m) (X77 Tryz.underlying4 rfl rfl) ?_;refine Ze (Xe rfl m rfl) ?_;refine Zn fun a o=>?_;exact ⟨o.sub ⟨rfl,rfl,rfl,rfl,X1 rfl (by first|rfl|(simp only [x,y,m,Qw,Bool.false_and,Bool.true_or,Bool.false_or];done)|(simp [x,y,m];done)|(exfalso;revert m;simp)),trivial⟩,rfl⟩
 rintro a _ ⟨o,rfl⟩;refine b2 _ _ ?_
 refine Xg o rfl (fun C=>?_) (fun C=>?_)
 ·have aD:=C
  simp at C
 have aD:=C;refine Q7<|b1 _ _<|Q5 fun _ b3=>?_;refine Q5 fun _ b6=>?_;refine X05 none (fun _=>false) mixed ?_;intro c4 b;have f:=f.below b;have e:=e.below b;have k:=k.below b;have l:=l.below b;have i:=i.below b;have j:=j.below b;have g:=btr g b;refine Yb o<|Ye 0 rfl (Vn X12 k)<|Ye 1 rfl (Vn X7a f)<|Y1 2 ?_;refine Yk rfl trivial (Vc (F16 _ c Ac cc (q.below' g).top I) X93) (fun _ _ ⟨b7,b8,_,D,b⟩=>b) ?_;rintro _ c5 ⟨b7,b8,rfl,D,b⟩;have D:=D.lower g.size;have e:=e.below b;have l:=l.below b;have i:=i.below b;have j:=j.below b;have g:=btr g b;refine Y1 3<|Yk rfl trivial (Vc (F19 _ c a6 a7 i.rd.top c b7 b8 D.rd.top (Q0 I (by decide))) Xpo) (fun _ _ ⟨_,b⟩=>b) ?_;rintro _ cA ⟨rfl,b⟩;have e:=e.below b;have l:=l.below b;have j:=j.below b;have g:=btr g b;refine Yo 4 rfl (fun _=>X0y rfl) ?_;refine Yd fun a o=>?_;refine b6 _ _ ?_
 refine Xg o rfl (fun E=>?_) (fun E=>?_)
 ·have aE:=E
  simp [eqC] at E
 have aE:=E;refine Q7<|b3 _ _<|Q5 fun _ b9=>?_;refine Q5 fun _ bA=>?_;refine X05 none (fun _=>false) mixed ?_;intro cB b;have e:=e.below b;have l:=l.below b;have j:=j.below b;have g:=btr g b;refine Yb o<|Ye 0 rfl (Vn X12 l)<|Ye 1 rfl (Vn X7a e)<|Y1 2 ?_;refine Yk rfl trivial (Vc (F16 _ d Ad cd (A.below' g).top J) X93) (fun _ _ ⟨bB,bC,_,G,b⟩=>b) ?_;rintro _ cC ⟨bB,bC,rfl,G,b⟩;have G:=G.lower g.size;have j:=j.below b;have g:=btr g b;refine Y1 3<|Yk rfl trivial (Vc (F19 _ d aA aB j.rd.top d bB bC G.rd.top (Q0 J (by decide))) Xpo) (fun _ _ ⟨_,b⟩=>b) ?_;rintro _ cD ⟨rfl,b⟩;have g:=btr g b;refine Yo 4 rfl (fun _=>X0y rfl) ?_;refine Yd fun a o=>?_;refine bA _ _ ?_
 refine Xg o rfl (fun H=>?_) (fun H=>?_)
 ·have aF:=H
  simp [eqC] at H
 have aF:=H;refine Q7<|b9 _ _<|Zs o fun _ bD=>?_;refine Za rfl<|Zt bD fun a o=>?_
 refine Q6 (X4 o (Xt o rfl rfl) ?_)
 exact ⟨rfl,g⟩
end Go.Proofs.YtpifljegadknkaaGreat
namespace Go.Proofs.YtpifljegadknkaaGreat
open Go.ChangeShapes Go.WideShapes Go.ChangeAt Go.RowKit Go.Deep Go.Joins
set_option linter.unusedVariables false
set_option maxRecDepth 100000 in
theorem Xcw(os:Os)(started:os.Started)(H:Type)(enc:TypeId×Value→H) :
  ReturnsInHanded {} Tryz.checked os 5 .any (Rows.fnExactVerifyByRewritingSpec.pre6 enc Tryz.prog Tryz.f5 Rows.fnExactVerifyByRewritingRow.domain false) (Rows.fnExactVerifyByRewritingSpec.post enc Tryz.prog Tryz.f5 false true false false):=by
 refine returnsInHanded_of_change (C:=Tryz.checked) own started (by kernel_rfl) Tryz.func5
  (ChangeSpec.witness6 (enc:=enc) (C:=Tryz.checked) false ⟨#[],#[.agg #[.int .i64 0,.slice none 0 0],.agg #[.int .i64 0,.slice none 0 0]],[]⟩ 8 (by kernel_rfl) (by kernel_rfl) (by kernel_rfl) (by kernel_rfl)) ?_
 intro W base args ds gs before hval0 hW hcnd _
 have hval:∀ (j:Nat) t v,Tryz.f5.params[j]? = some t→args[j]? = some v→Value.okWide Tryz.prog W .any base t v:=hval0
 have hW':=hW
 obtain ⟨p,q,hA0,hV,rfl,hfz,hnd⟩:=hW
 have hA:DataW.TrodAll enc Tryz.prog W 0 (fun _=>true) true Tryz.f5.params.toList args.toList ds p:=hA0
 rw [Tryz.params5] at hA hval
 obtain ⟨v0,v1,d0,d1,p0,p1,rfl,rfl,rfl,h0,h1⟩:=trodAll_two hA;obtain ⟨rfl,rfl⟩:=trodVars_none hV;have h0k:=h0;have h1k:=h1
 obtain ⟨c,A,i,E,rfl,hr0,hl0⟩:=X8u (hval 0 24 v0 rfl rfl) h0 (fun _=>rfl)
 obtain ⟨d,B,k,F,rfl,hr1,hl1⟩:=X8u (hval 1 24 v1 rfl rfl) h1 (fun _=>rfl)
 clear hA0 hval0
 simp only [List.append_nil] at hW'
 have hlt:∀ x ∈ p0++p1,x.block<W.heap.size:=fun x hx=>hW'.lt x (by simpa using hx)
 refine Calls.mono (Xtr W c A i hr0 d B k hr1 hl0 hl1) fun r W' ⟨v,he,hv,hb⟩=>?_
 subst hv
 refine ⟨_,he,Xdp (pa:=p0++p1) (pv:=[]) hW' (fun _ _ _=>trodAll_mk1 (shut_bool Tryz.underlying4 true)) (fun sp hsp=>?_) (fun _ _=>rfl) (by simp) hb⟩
 exact trodAll_mk2 (WideElems.Trod_stays Xdq (by kernel_rfl) (Q2 (by kernel_rfl)) h0k (fun x hx=>hb.same (hlt x (List.mem_append_left _ hx))) (fun x hx=>hsp x (by simp [hx])))
  (WideElems.Trod_stays Xdq (by kernel_rfl) (Q2 (by kernel_rfl)) h1k (fun x hx=>hb.same (hlt x (List.mem_append_right _ hx))) (fun x hx=>hsp x (by simp [hx])))
theorem vbr_holds:Rows.FnExactVerifyByRewritingSaid:=
 OpenClaim.holds_of_wide 5 Tryz.f5 rfl rfl rfl rfl rfl rfl rfl ⟨rfl,rfl,rfl,rfl,rfl⟩ rfl rfl rfl rfl rfl (by kernel_rfl) Tryz.func5 (by kernel_rfl)
  (Q2 (by kernel_rfl)) (by unfold Func.isWrapper;first|(rw [Q4 (by decide +kernel)];kernel_rfl)|(rw [Q3 (by decide +kernel)];exact ⟨rfl,rfl⟩))
  (fun os started H enc _=>Xcw os started H enc)
end Go.Proofs.YtpifljegadknkaaGreat
