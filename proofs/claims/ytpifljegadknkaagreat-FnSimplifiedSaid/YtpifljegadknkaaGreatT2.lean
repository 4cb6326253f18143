/-
  For all drawn diagrams, the simplified diagram admits no further step, is reached by the log, and has the same meaning. Conditions: none.
-/
import Derived.Test.YtpifljegadknkaaGreatT1
import Derived.WalkSpells
import Derived.Maps.RangeRun
import Derived.Laws.Strings2
import Derived.Laws.IdiomStrings
import Derived.Shelf.SlSortCmp.WholeK
import Derived.Shelf.SlSortCmp.NoneTotal
import Derived.Shelf.SlGeneric
import Derived.Lib.ItoaNum
import Derived.Lib.Join
set_option linter.unusedVariables false
set_option linter.unusedSimpArgs false
set_option maxHeartbeats 1000000
set_option maxRecDepth 20000
set_option linter.unusedSectionVars false
namespace Go.Proofs.YtpifljegadknkaaGreat
open Go.RowKit
theorem Xti(w0:World)(bV:Nat){aQ:TypeId}(j:Option Addr)(o:Nat)(d:List Int)(e:Rd w0 w0.heap.size aQ encU j d)(aA:∀ x ∈ d,0<=x/\x<=255)(aV:AwayR d j bV)(t:Nat)(sd:Int)(b:Blk w0 bV 103 [.slice j d.length o,vi (t:Int),.int .u64 sd])(ht:t+1<=100000000) : Ret Tryz.prog 169 [(pZ9 bV)] w0 (fun v w=>∃ (x:Int) (t1:Nat) (s1:Int),v=vi x/\(0<=x/\x<=255)/\(t<=t1/\t1<=t+1)/\Kept bV w0.heap.size w0 w/\Blk w bV 103 [.slice j d.length o,vi (t1:Int),.int .u64 s1]):=by
 have aU:=b.lt;refine enter Tryz.func169 rfl 62 rfl rfl ?_;intro a c
 have i:Kept bV w0.heap.size w0 w0:=Kept.refl _ _ _
 refine Zs c fun _ aR=>?_;refine Za rfl<|Zx aR fun a c _ aS=>?_;refine Za rfl<|ZX aS fun a c _ aB=>?_;refine Q5 fun _ aT=>?_;refine X04 none (fun _=>false) mixed ?_;intro w1 p;have b:=b.bw p;have e:=e.bw p;have i:=ktr i p;refine Yb c<|Yo 0 rfl (fun _=>X3 rfl)<|Yo 1 rfl (fun _=>X08 rfl)<|Yo 2 rfl (fun _=>Vd rfl X2n 1)<|Ye 3 rfl (X0 rfl X9 (b.at 1))<|Yo 4 rfl (fun _=>X3 rfl)<|Yo 5 rfl (fun _=>X08 rfl)<|Yo 6 rfl (fun _=>Vd rfl X5z 0)<|Ye 7 rfl (X0 rfl X8i (b.at 0))<|Yo 8 rfl (fun _=>X09 rfl X4j)<|Yo 9 rfl (fun _=>X0n rfl rfl) ?_;refine Yd fun a c=>?_;refine aT _ _ ?_
 refine Xi c rfl (fun n=>?_) (fun n=>?_)
 ·have aC:=n;have n:=Q2 n
  obtain ⟨u7,a6⟩:=X4 (l:=d) (k:=t) (by omega)
  have aW:=aA _ (Qe a6);refine X04 none (fun _=>false) mixed ?_;intro w2 p;have b:=b.bw p;have e:=e.bw p;have i:=ktr i p;refine Yb c<|Yo 0 rfl (fun _=>X3 rfl)<|Yo 1 rfl (fun _=>X08 rfl)<|Yo 2 rfl (fun _=>Vd rfl X5z 0)<|Ye 3 rfl (X0 rfl X8i (b.at 0))<|Yo 4 rfl (fun _=>X3 rfl)<|Yo 5 rfl (fun _=>X08 rfl)<|Yo 6 rfl (fun _=>Vd rfl X2n 1)<|Ye 7 rfl (X0 rfl X9 (b.at 1))<|Yi (k:=t) (u:=u7) (enc:=encU) (l:=d) 8 rfl tv0 rfl rfl X4j Y4v Xdn e a6 rfl ?_;intro p9 aD;refine Ye 9 rfl (X0 rfl Y49 aD)<|Yo 10 rfl (fun _=>Y52 Tryz.underlying5 Tryz.underlying3 rfl (aA _ (Qe a6)))<|Yo 11 rfl (fun _=>X0u rfl) ?_;refine Yd fun a c=>?_;refine aB _ _<|Zs c fun _ aE=>?_;refine Zm rfl<|Ze (X08 rfl)<|Ze (Vd rfl X2n 1)<|Ze (X0 rfl X9 (b.at 1))<|Ze (Xs rfl rfl (by omega) (by omega))<|Ze (X08 rfl)<|Ze (Vd rfl X2n 1)<|Zo (X15 (vs:=[vi ((t:Int)+1)]) (l':=[.slice j d.length o,vi ((t:Int)+1),.int .u64 sd]) rfl rfl X0b b rfl rfl rfl rfl rfl) ?_;rintro _ w3 ⟨ho,hb⟩;have q:=b;have i:=i.self ho;have b:=hb;refine Zx aE fun a c _ aF=>?_;refine Zm rfl<|Zm rfl<|Ze (X08 rfl)<|Ze (Vd rfl X3o 2)<|Ze (X0 rfl Xc4 (b.at 2))<|Ze (Xt0 rfl rfl)<|Zm rfl<|Ze (Y2u Tryz.underlying3 Tryz.underlying101 rfl)<|Ze (Xfg rfl rfl)<|Ze (Xfg rfl rfl) ?_;refine Ze (X08 rfl)<|Ze (Vd rfl X3o 2)<|Zo (X15 (vs:=[.int .u64 (wu ((wu ((wu (sd*6364136223846793005))+(wu u7)))+1442695040888963407))]) (l':=[.slice j d.length o,vi ((t:Int)+1),.int .u64 (wu ((wu ((wu (sd*6364136223846793005))+(wu u7)))+1442695040888963407))]) rfl rfl Xir b rfl rfl rfl rfl rfl) ?_;rintro _ w4 ⟨ho,hb⟩
  have q:=b;have i:=i.self ho;have b:=hb;refine ZX aF fun a c _ aG=>?_;refine Q5 fun _ aH=>?_;refine X04 none (fun _=>false) mixed ?_;intro w5 p;have b:=b.bw p;have i:=ktr i p;refine Yb c<|Yo 0 rfl (fun _=>X3 rfl)<|Yo 1 rfl (fun _=>X08 rfl)<|Yo 2 rfl (fun _=>Vd rfl X2n 1)<|Ye 3 rfl (X0 rfl X9 (b.at 1))<|Yo 4 rfl (fun _=>X3 rfl)<|Yo 5 rfl (fun _=>X08 rfl)<|Yo 6 rfl (fun _=>Vd rfl X5z 0)<|Ye 7 rfl (X0 rfl X8i (b.at 0))<|Yo 8 rfl (fun _=>X09 rfl X4j)<|Yo 9 rfl (fun _=>Xdx rfl rfl) ?_;refine Yd fun a c=>?_;refine aH _ _ ?_
  refine Xi c rfl (fun f=>?_) (fun f=>?_)
  ·have a7:=f;have f:=Q2 f;refine Zs c fun _ aI=>?_;refine Zm rfl<|Za rfl<|Zt aI fun a c=>?_;refine Q6<|X8<|X6 c (Xp c rfl rfl) ?_;exact ⟨_,t+1,_,rfl,(by first|omega|exact X7x _),⟨by omega,by omega⟩,i,b⟩
  have a7:=f;have f:=Q1 f;refine Q7<|aG _ _<|Zs c fun _ aJ=>?_;refine Zm rfl<|Ze (X08 rfl)<|Ze (Vd rfl X3o 2)<|Ze (X0 rfl Xc4 (b.at 2))<|Ze (Xt4 (m:=40) rfl rfl rfl (by decide))<|Ze (Xtw rfl rfl)<|Ze (Xz9 Tryz.underlying101 Tryz.underlying3 rfl (Xhh _))<|Za rfl<|Zt aJ fun a c=>?_
  refine Q6 (X6 c (Xp c rfl rfl) ?_)
  exact ⟨_,t+1,_,rfl,(by first|omega|exact X7x _),⟨by omega,by omega⟩,i,b⟩
 have aC:=n;have n:=Q1 n;refine Q7<|aB _ _<|Zs c fun _ aK=>?_;refine Zm rfl<|Ze (X08 rfl)<|Ze (Vd rfl X2n 1)<|Ze (X0 rfl X9 (b.at 1))<|Ze (Xs rfl rfl (by omega) (by omega))<|Ze (X08 rfl)<|Ze (Vd rfl X2n 1)<|Zo (X15 (vs:=[vi ((t:Int)+1)]) (l':=[.slice j d.length o,vi ((t:Int)+1),.int .u64 sd]) rfl rfl X0b b rfl rfl rfl rfl rfl) ?_;rintro _ w6 ⟨ho,hb⟩;have q:=b;have i:=i.self ho;have b:=hb;refine Zx aK fun a c _ aL=>?_;refine Zm rfl<|Zm rfl<|Ze (X08 rfl)<|Ze (Vd rfl X3o 2)<|Ze (X0 rfl Xc4 (b.at 2))<|Ze (Xt0 rfl rfl)<|Zm rfl<|Ze (Y2u Tryz.underlying3 Tryz.underlying101 rfl)<|Ze (Xfg rfl rfl)<|Ze (Xfg rfl rfl) ?_;refine Ze (X08 rfl)<|Ze (Vd rfl X3o 2)<|Zo (X15 (vs:=[.int .u64 (wu ((wu ((wu (sd*6364136223846793005))+(wu 0)))+1442695040888963407))]) (l':=[.slice j d.length o,vi ((t:Int)+1),.int .u64 (wu ((wu ((wu (sd*6364136223846793005))+(wu 0)))+1442695040888963407))]) rfl rfl Xir b rfl rfl rfl rfl rfl) ?_;rintro _ w7 ⟨ho,hb⟩;have q:=b;have i:=i.self ho;have b:=hb;refine ZX aL fun a c _ aM=>?_;refine Q5 fun _ aN=>?_;refine X04 none (fun _=>false) mixed ?_;intro w8 p;have b:=b.bw p;have i:=ktr i p;refine Yb c<|Yo 0 rfl (fun _=>X3 rfl)<|Yo 1 rfl (fun _=>X08 rfl)<|Yo 2 rfl (fun _=>Vd rfl X2n 1)<|Ye 3 rfl (X0 rfl X9 (b.at 1))<|Yo 4 rfl (fun _=>X3 rfl)<|Yo 5 rfl (fun _=>X08 rfl)<|Yo 6 rfl (fun _=>Vd rfl X5z 0)<|Ye 7 rfl (X0 rfl X8i (b.at 0))<|Yo 8 rfl (fun _=>X09 rfl X4j)<|Yo 9 rfl (fun _=>Xdx rfl rfl) ?_;refine Yd fun a c=>?_;refine aN _ _ ?_
 refine Xi c rfl (fun g=>?_) (fun g=>?_)
 ·have a8:=g;have g:=Q2 g;refine Zs c fun _ aO=>?_;refine Zm rfl<|Za rfl<|Zt aO fun a c=>?_;refine Q6<|X8<|X6 c (Xp c rfl rfl) ?_;exact ⟨_,t+1,_,rfl,(by first|omega|exact X7x _),⟨by omega,by omega⟩,i,b⟩
 have a8:=g;have g:=Q1 g;refine Q7<|aM _ _<|Zs c fun _ aP=>?_;refine Zm rfl<|Ze (X08 rfl)<|Ze (Vd rfl X3o 2)<|Ze (X0 rfl Xc4 (b.at 2))<|Ze (Xt4 (m:=40) rfl rfl rfl (by decide))<|Ze (Xtw rfl rfl)<|Ze (Xz9 Tryz.underlying101 Tryz.underlying3 rfl (Xhh _))<|Za rfl<|Zt aP fun a c=>?_
 refine Q6 (X6 c (Xp c rfl rfl) ?_)
 exact ⟨_,t+1,_,rfl,(by first|omega|exact X7x _),⟨by omega,by omega⟩,i,b⟩
theorem X26(w0:World)(bV:Nat){aF:TypeId}(i:Option Addr)(o:Nat)(c:List Int)(b:Rd w0 w0.heap.size aF encU i c)(aA:∀ x ∈ c,0<=x/\x<=255)(a6:AwayR c i bV)(t:Nat)(sd:Int)(f:Blk w0 bV 103 [.slice i c.length o,vi (t:Int),.int .u64 sd])(n:Int)(ht:t+2<=100000000) : Ret Tryz.prog 119 [(pZ9 bV),vi n] w0 (fun v w=>∃ (x:Int) (t1:Nat) (s1:Int),v=vi x/\(0<=x/\(x=0∨x<n))/\(t<=t1/\t1<=t+2)/\Kept bV w0.heap.size w0 w/\Blk w bV 103 [.slice i c.length o,vi (t1:Int),.int .u64 s1]):=by
 have aQ:=f.lt;refine enter Tryz.func119 rfl 20 rfl rfl ?_;intro a d
 have j:Kept bV w0.heap.size w0 w0:=Kept.refl _ _ _
 refine Zs d fun _ aG=>?_;refine Za rfl<|ZX aG fun a d _ aH=>?_;refine Zs d fun _ aI=>?_;refine Zm rfl<|Ze (Xdx rfl rfl)<|Zt aI fun a d=>?_
 refine Xi d rfl (fun g=>?_) (fun g=>?_)
 ·have aB:=g;have g:=Q2 g
  have a7:n<=1:=g
  refine Zs d fun _ aJ=>?_;refine Za rfl<|Zt aJ fun a d=>?_;refine Q6<|X8<|X6 d (Xp d rfl rfl) ?_;exact ⟨0,t,sd,rfl,⟨by omega,.inl rfl⟩,⟨by omega,by omega⟩,j,f⟩
 have aB:=g;have g:=Q1 g
 have a7:1<n:=by have:=g;omega
 refine Q7<|aH _ _<|Zs d fun _ aK=>?_;refine Zm rfl<|Zf (Vc (Xti _ bV i o c b.top aA a6 t sd f (by omega)) Xgq) ?_;rintro _ w1 ⟨aW,aL,aM,rfl,aR,aS,hK,k⟩;obtain ⟨wm,hO,hm,hE⟩:=hK.mid;clear hm;have m:=f;have b:=b.onlyA hO a6;have j:=j.self hO;have b:=b.bw hE;have j:=ktr j hE
 clear m hE hO hK;have f:=k;clear k;refine Za rfl<|ZX aK fun a d _ aC=>?_;refine Zs d fun _ aN=>?_;refine Zm rfl<|Ze (X2y rfl rfl)<|Zt aN fun a d=>?_
 refine Xi d rfl (fun e=>?_) (fun e=>?_)
 ·have a8:=e;have e:=Q2 e;refine Zr d<|Zm rfl<|Ze (X62 rfl rfl (by omega) (by omega))<|Zm rfl<|Zf (Vc (Xti _ bV i o c b.top aA a6 aL aM f (by omega)) Xgq) ?_;rintro _ w2 ⟨aT,aU,aV,rfl,aO,aP,hK,k⟩;obtain ⟨wm,hO,hm,hE⟩:=hK.mid;clear hm;have m:=f;have j:=j.self hO;have j:=ktr j hE
  clear m hE hO hK;have f:=k;clear k;refine Ze (Xs rfl rfl (by omega) (by omega))<|Za rfl<|Zx aC fun a d _ aD=>?_;refine Zm rfl<|Zm rfl<|Ze (X3k rfl rfl (by simp;omega))<|Za rfl<|Zt aD fun a d=>?_
  refine Q6 (X6 d (Xp d rfl rfl) ?_)
  exact ⟨_,_,_,rfl,pk (by omega) a7,⟨by omega,by omega⟩,j,f⟩
 have a8:=e;have e:=Q1 e;refine Q7<|aC _ _<|Zs d fun _ aE=>?_;refine Zm rfl<|Zm rfl<|Ze (X3k rfl rfl (by simp;omega))<|Za rfl<|Zt aE fun a d=>?_
 refine Q6 (X6 d (Xp d rfl rfl) ?_)
 exact ⟨_,_,_,rfl,pk (by omega) a7,⟨by omega,by omega⟩,j,f⟩
theorem Y3p(w0:World)(bV:Nat){aA:TypeId}(c:Option Addr)(a6:Nat)(b:List Int)(d:Rd w0 w0.heap.size aA encU c b)(aB:∀ x ∈ b,0<=x/\x<=255)(aC:AwayR b c bV)(t:Nat)(sd:Int)(e:Blk w0 bV 103 [.slice c b.length a6,vi (t:Int),.int .u64 sd])(n:Int)(ht:t+2<=100000000) : Ret Tryz.prog 65 [(pZ9 bV),vi n] w0 (fun v w=>∃ (x:Bool) (t1:Nat) (s1:Int),v=.bool x/\(True)/\(t<=t1/\t1<=t+2)/\Kept bV w0.heap.size w0 w/\Blk w bV 103 [.slice c b.length a6,vi (t1:Int),.int .u64 s1]):=by
 have aF:=e.lt;refine enter Tryz.func65 rfl 9 rfl rfl ?_;intro a hf
 have hW:Kept bV w0.heap.size w0 w0:=Kept.refl _ _ _
 refine Zs hf fun _ aD=>?_;refine Za rfl<|Zx aD fun a hf _ aE=>?_;refine Zm rfl<|Zm rfl<|Zf (Vc (X26 _ bV c a6 b d.top aB aC t sd e n (by omega)) X14) ?_;rintro _ w1 ⟨aI,aJ,aK,rfl,aG,aH,hK,a7⟩;obtain ⟨wm,hO,hm,hE⟩:=hK.mid;clear hm;have a8:=e;have hW:=hW.self hO;have hW:=ktr hW hE
 clear a8 hE hO hK;have e:=a7;clear a7;refine Ze (X0k rfl rfl)<|Za rfl<|Zt aE fun a hf=>?_
 refine Q6 (X6 hf (Xp hf rfl rfl) ?_)
 exact ⟨_,_,_,rfl,trivial,⟨by omega,by omega⟩,hW,e⟩
theorem Xg7(w0:World)(bV:Nat){aB:TypeId}(d:Option Addr)(a6:Nat)(b:List Int)(e:Rd w0 w0.heap.size aB encU d b)(aC:∀ x ∈ b,0<=x/\x<=255)(aD:AwayR b d bV)(t:Nat)(sd:Int)(f:Blk w0 bV 103 [.slice d b.length a6,vi (t:Int),.int .u64 sd])(Al:Option Addr)(cl:Nat)(l:List Int)(c:Rd w0 w0.heap.size 3 encI Al l)(aJ:0<l.length)(aK:l.length<=1000)(ht:t+2<=100000000) : Ret Tryz.prog 121 [(pZ9 bV),.slice Al l.length cl] w0 (fun v w=>∃ (x:Int) (t1:Nat) (s1:Int),v=vi x/\(x ∈ l)/\(t<=t1/\t1<=t+2)/\Kept bV w0.heap.size w0 w/\Blk w bV 103 [.slice d b.length a6,vi (t1:Int),.int .u64 s1]):=by
 have aG:=f.lt;refine enter Tryz.func121 rfl 12 rfl rfl ?_;intro a hf
 have hW:Kept bV w0.heap.size w0 w0:=Kept.refl _ _ _
 refine Zs hf fun _ aE=>?_;refine Za rfl<|Zx aE fun a hf _ aF=>?_;refine Zm rfl<|Zm rfl<|Zm rfl<|Ze (X09 rfl Xj)<|Zf (Vc (X26 _ bV d a6 b e.top aC aD t sd f (l.length:Int) (by omega)) X14) ?_;rintro _ w1 ⟨a7,aL,aM,rfl,aH,aI,hK,a8⟩;obtain ⟨wm,hO,hm,hE⟩:=hK.mid;clear hm;have g:=f;have c:=c.oT hO g rfl;have hW:=hW.self hO;have c:=c.bw hE;have hW:=ktr hW hE
 clear g hE hO hK;have f:=a8;clear a8;refine Zi (k:=a7.toNat) (u:=(l.getD a7.toNat 0)) (enc:=encI) (l:=l) tv0 rfl rfl Xj X0b Xd c (X9a (by omega)) (by omega) ?_;intro p6 aA;refine Ze (X0 rfl X9 aA)<|Za rfl<|Zt aF fun a hf=>?_
 refine Q6 (X6 hf (Xp hf rfl rfl) ?_)
 exact ⟨_,_,_,rfl,Xa4 (by omega),⟨by omega,by omega⟩,hW,f⟩
section
end
section
end
end Go.Proofs.YtpifljegadknkaaGreat
namespace Go.Proofs.YtpifljegadknkaaGreat
open Go.RowKit Go.ChangeShapes Go.WideShapes Go.Deep Go.Joins
theorem Xy1:Tryz.prog.cellsOf 5=1:=by kernel_rfl
theorem Xms{n:Int}(h:(Lit.int .u8 n).wf=true) : 0<=n/\n<=255:=by
 have h1:IntKind.u8.min=0:=rfl
 have h2:IntKind.u8.max=255:=rfl
 simp [Lit.wf] at h
 omega
set_option maxRecDepth 100000 in
theorem X97{H:Type}{enc:TypeId×Value->H}{w:World}{base b0:Nat}{spare:Nat->Bool}{held:Bool}{r:Reach}{v:Value}{d:DataW H}{p:List MemPlace}(hv:Value.okWide Tryz.prog w r b0 34 v)(h:DataW.Trod enc Tryz.prog w base spare held 34 v d p)(hsp:∀ b,spare b=true) :
  ∃ (A:Option Addr) (l:List Int) (k:Nat) (E:TypeId),v=.slice A l.length k/\Rd w w.heap.size E encU A l/\(∀ x ∈ l,0<=x/\x<=255):=by
 obtain ⟨a1,n1,k1,rfl⟩:=okWide_slice Tryz.underlying34 hv;obtain ⟨fuel,hf⟩:=h
 have key:∃ (A:Option Addr) (l:List Int) (c:Nat) (E:TypeId),(Value.slice a1 n1 k1).cells.toList=[Value.slice A l.length c]/\Rd w w.heap.size E encU A l/\(∀ x ∈ l,0<=x/\x<=255):=by
  rcases open_slice Tryz.underlying34 hf with ⟨hcs,_⟩|⟨a,len,cap,m,n,D,Pl,hcs,hb,hl,hm,hmm,_,hi⟩
  ·exact ⟨none,[],0,0,hcs,Rd.nil _ _ _ _ _,by simp⟩
  ·rw [Xy1] at hi
   have hlm:len<=m:=by rw [hmm,hsp];simpa using hl
   obtain ⟨l,h1,h2⟩:=Xo4 (n:=len) (Q:=fun i g=>(0<=g/\g<=255)/\∀ j v,(encU g)[j]? = some v->w.cell? (a.add (i*1+j))=some v) fun i hilt=>by
    obtain ⟨cs',hc,ht⟩:=hi i (by omega)
    obtain ⟨g,rfl,_,hwf⟩:=DataW.trod_int Tryz.underlying5 ht;obtain ⟨_,_,hat⟩:=World.cells?_some hc
    refine ⟨g,Xms hwf,fun j v hj=>?_⟩
    have hj3:j<1:=by have:=(Qg.1 hj).1;simpa [encU] using this
    rw [<- X7d,hat j hj3]
    exact hj
   obtain ⟨E,hr⟩:=Xcl Xdn (by decide) fun i g hig=>(h2 i g hig).2
   refine ⟨some a,l,cap,E,by rw [hcs,h1],hr,fun x hx=>?_⟩
   obtain ⟨i,hi9,e⟩:=List.getElem_of_mem hx;exact (h2 i x (by rw [Qc hi9,e])).1
 obtain ⟨A,l,c,E,e0,hr,hb⟩:=key
 simp [Value.cells] at e0
 obtain ⟨rfl,rfl,rfl⟩:=e0;exact ⟨_,l,_,E,rfl,hr,hb⟩
end Go.Proofs.YtpifljegadknkaaGreat
namespace Go.Proofs.YtpifljegadknkaaGreat
open Go.RowKit
section
end
end Go.Proofs.YtpifljegadknkaaGreat
namespace Go.Proofs.YtpifljegadknkaaGreat
def oneK(k:Int) : Bool:=decide (k≠12/\¬ (9<=k/\k<=11))
def c0(g:Gt)(β:Nat->Bool) : Rg:=
 if g.k=12 then om else if g.k=9 then 1 else if g.k=10 then (if β g.a.toNat&&β g.b.toNat then om^4 else 1) else if g.k=11 then 1 else u1 g.k (β g.a.toNat) (β g.a.toNat)
def c1(g:Gt)(β:Nat->Bool) : Rg:=if oneK g.k=true then u1 g.k (β g.a.toNat) (!β g.a.toNat) else 0
end Go.Proofs.YtpifljegadknkaaGreat
namespace Go.Proofs.YtpifljegadknkaaGreat
open Go.RowKit
section
end
def upd(f:Int->Int)(m v:Int) : Int->Int:=fun x=>if x=m then v else f x
section
variable {w w' : World} {b b' : Nat} {f : Int -> Int}
end
section
variable {α : Type} {w w' : World} {b B : Nat} {E : TypeId} {enc : α -> List Value} {A : Option Addr} {l : List α}
end
section
variable {a : Act} {w : World} {n : Nat} {e : Env} {ty : TypeId} {pos : String} {af : Array Edge} {g : Option (Nat × Bool)} {d : Option Tmp} {b : Nat} {f : Int -> Int} {T : TypeId}
theorem Xj2{f:Int->Int}{m v x:Int}(h:x≠m) : upd f m v x=f x:=Q3 h
theorem Xuu{f:Int->Int}{m v:Int} : upd f m v m=v:=Q4 rfl
end
section
end
section
end
structure Tm where (m c:Int) deriving DecidableEq
structure Af where (m t:Int) deriving DecidableEq
def padd(f:Int->Int)(m k:Int) : Int->Int:=upd f m ((f m+k) % 8)
def PO(f:Int->Int) : Prop:=∀ x,0<=f x/\f x<8
theorem PO.padd{f:Int->Int}(h:PO f)(m k:Int) : PO (padd f m k):=fun x=>by
 unfold Proofs.YtpifljegadknkaaGreat.padd upd
 split
 ·omega
 ·exact h x
theorem PO.zero:PO (fun _=>0):=fun _=>⟨by show (0:Int)<=0;omega,by show (0:Int)<8;omega⟩
def Rise(T:List Tm) : Prop:=T.Pairwise fun x y=>x.m<y.m
structure IsT (f:Int->Int) (T:List Tm) : Prop where
 rise:Rise T
 mem:∀ t:Tm,t ∈ T↔0<t.m/\t.m<16777216/\t.c=f t.m/\f t.m≠0
theorem Xha:∀ {T U:List Tm},Rise T->Rise U->(∀ t,t ∈ T↔t ∈ U)->T=U
 | [],[],_,_,_=>rfl
 | [],u::U,_,_,h=>absurd ((h u).2 (by simp)) (by simp)
 | t::T,[],_,_,h=>absurd ((h t).1 (by simp)) (by simp)
 | t::T,u::U,hT,hU,h=>by
  unfold Rise at hT hU
  rw [W8] at hT hU
  have htu:t=u:=by
   rcases Qv.1 ((h t).1 (by simp)) with e|e
   ·exact e
   ·rcases Qv.1 ((h u).2 (by simp)) with e'|e'
    ·exact e'.symm
    ·have h1:=hT.1 u e';have h2:=hU.1 t e
     omega
  subst htu
  congr 1
  refine Xha hT.2 hU.2 fun x=>⟨fun hx=>?_,fun hx=>?_⟩
  ·rcases Qv.1 ((h x).1 (Ql _ hx)) with e|e
   ·have:=hT.1 x hx;rw [e] at this;omega
   ·exact e
  ·rcases Qv.1 ((h x).2 (Ql _ hx)) with e|e
   ·have:=hU.1 x hx;rw [e] at this;omega
   ·exact e
def tmN(f:Int->Int) : Nat->List Tm
 | 0=>[]
 | n+1=>if 0<(n:Int)/\f n≠0 then tmN f n++[⟨n,f n⟩] else tmN f n
theorem Xe0(f:Int->Int) : ∀ N:Nat,Rise (tmN f N)/\∀ t:Tm,t ∈ tmN f N↔0<t.m/\t.m<(N:Int)/\t.c=f t.m/\f t.m≠0
 | 0=>⟨List.Pairwise.nil,fun t=>by simp [tmN];omega⟩
 | n+1=>by
  obtain ⟨h1,h2⟩:=Xe0 f n
  unfold tmN
  by_cases hn:0<(n:Int)/\f n≠0
  ·rw [Q4 hn]
   refine ⟨?_,fun t=>?_⟩
   ·unfold Rise
    rw [List.pairwise_append]
    refine ⟨h1,List.pairwise_singleton _ _,fun x hx y hy=>?_⟩
    rw [Qm.1 hy]
    exact ((h2 x).1 hx).2.1
   ·rw [Qu,h2,Qm]
    constructor
    ·rintro (⟨a,b,c⟩|rfl)
     ·exact ⟨a,by omega,c⟩
     ·exact ⟨hn.1,by show (n:Int)<_;omega,rfl,hn.2⟩
    ·rintro ⟨a,b,c,d⟩
     by_cases e:t.m=n
     ·right
      obtain ⟨m,c'⟩:=t
      simp only at e c
      rw [c,e]
     ·left
      exact ⟨a,by omega,c,d⟩
  ·rw [Q3 hn]
   refine ⟨h1,fun t=>?_⟩
   rw [h2]
   constructor
   ·rintro ⟨a,b,c⟩;exact ⟨a,by omega,c⟩
   ·rintro ⟨a,b,c,d⟩
    refine ⟨a,?_,c,d⟩
    by_cases e:t.m=n
    ·rw [e] at a d;exact absurd ⟨a,d⟩ hn
    ·omega
@[irreducible] def tms (f:Int->Int) : List Tm:=tmN f 16777216
theorem Xkw(f:Int->Int) : IsT f (tms f):=by
 unfold tms
 exact ⟨(Xe0 f 16777216).1,(Xe0 f 16777216).2⟩
theorem IsT.eq{f:Int->Int}{T:List Tm}(h:IsT f T) : T=tms f:=Xha h.rise (Xkw f).rise fun t=>(h.mem t).trans ((Xkw f).mem t).symm
def oI(a b:Int) : Int:=bits .or .i64 a b
section
variable {P : Program} {a : Act} {w : World} {n : Nat} {e : Env} {ty : TypeId} {pos : String} {af : Array Edge} {g : Option (Nat × Bool)} {d : Option Tmp} {t t' : TypeId}
end
theorem Vx{P:Program}{o:Oper}{n:Nat}{e:List (Nat×Value)}{w:World}{k:IntKind}{a b:Int}(h:EvW P o n e w (.int k a))(e2:a=b) : EvW P o n e w (.int k b):=e2▸h
abbrev Sm:=Int×Int
def foldA(L:List Sm)(f:Int->Int) : Int->Int:=L.foldl (fun f p=>padd f p.1 p.2) f
def sumA(L:List Sm)(x:Int) : Int:=(L.map fun p=>if p.1=x then p.2 else 0).sum
theorem PO.foldA:∀ (L:List Sm) {f:Int->Int},PO f->PO (foldA L f)
 | [],_,h=>h
 | p::L,_,h=>PO.foldA L (h.padd p.1 p.2)
theorem X7w(p:Sm)(L:List Sm)(x:Int) : sumA (p::L) x=(if p.1=x then p.2 else 0)+sumA L x:=by simp [sumA]
theorem Xo1(f:Int->Int)(h:PO f)(m k x:Int) : padd f m k x=(f x+if m=x then k else 0) % 8:=by
 unfold padd upd
 by_cases e:x=m
 ·subst e;simp
 ·have:=h x
  rw [Q3 e,Q3 (Ne.symm e)];omega
theorem X7g:∀ (L:List Sm) {f:Int->Int},PO f->∀ x,foldA L f x=(f x+sumA L x) % 8
 | [],f,h,x=>by
  have:=h x
  show f x=_
  simp [sumA];omega
 | p::L,f,h,x=>by
  show foldA L (padd f p.1 p.2) x=_
  rw [X7g L (h.padd p.1 p.2),Xo1 f h,X7w]
  omega
structure TurnS (S:Nat->Prop) (w w':World) : Prop where
 os:w'.os=w.os
 tape:w'.tape=w.tape
 output:w'.output=w.output
 size:w.heap.size<=w'.heap.size
 block:∀ k,k<w.heap.size->¬ S k->w'.heap[k]? = w.heap[k]?
theorem TurnS.refl(S:Nat->Prop)(w:World) : TurnS S w w:=⟨rfl,rfl,rfl,Qb _,fun _ _ _=>rfl⟩
def ownB(A:Option Addr) : Option Nat:=(Value.slice A 0 0).ownBlock
theorem X4u(A:Option Addr)(n c:Nat) : (Value.slice A n c).ownBlock=ownB A:=Xh5 A n 0 c 0
section
variable {S S' : Nat -> Prop} {w0 w w' : World} {b : Nat} {A : Option Addr} {n c : Nat}
theorem tsbel(h:TurnS S w0 w)(hE:Below w.heap.size w w') : TurnS S w0 w':=
 ⟨hE.os.trans h.os,hE.tape.trans h.tape,hE.output.trans h.output,Q0 h.size hE.size,fun k hk h1=>(hE.block k (Nat.lt_of_lt_of_le hk h.size)).trans (h.block k hk h1)⟩
theorem tsonly(h:TurnS S w0 w)(ho:Only b w w')(hb:S b∨w0.heap.size<=b) : TurnS S w0 w':=
 ⟨ho.os.trans h.os,ho.tape.trans h.tape,ho.output.trans h.output,by rw [ho.size];exact h.size,fun k hk h1=>(ho.block k (fun e=>by
  subst e
  rcases hb with hb|hb
  ·exact h1 hb
  ·omega)).trans (h.block k hk h1)⟩
theorem tsrow(h:TurnS S w0 w)(hg:w.grownBy w' (Value.slice A n c).ownBlock)(hs:∀ k,ownB A=some k->S k∨w0.heap.size<=k) : TurnS S w0 w':=
 ⟨hg.os.trans h.os,hg.tape.trans h.tape,hg.output.trans h.output,Q0 h.size hg.size,fun k hk h1=>(hg.block k (Nat.lt_of_lt_of_le hk h.size) (fun e=>by
  rw [X4u] at e
  rcases hs k e.symm with hb|hb
  ·exact h1 hb
  ·omega)).trans (h.block k hk h1)⟩
theorem tstr(h:TurnS S w0 w)(k:TurnS S' w w')(hs:∀ k,S' k->S k∨w0.heap.size<=k) : TurnS S w0 w':=
 ⟨k.os.trans h.os,k.tape.trans h.tape,k.output.trans h.output,Q0 h.size k.size,fun q hq h1=>(k.block q (Nat.lt_of_lt_of_le hq h.size) (fun e=>by
  rcases hs q e with hb|hb
  ·exact h1 hb
  ·omega)).trans (h.block q hq h1)⟩
theorem Below.ts{B:Nat}(h:Below B w0 w)(k:TurnS S w w')(hs:∀ k,S k->B<=k)(hB:B<=w.heap.size) : Below B w0 w':=
 h.trans ⟨k.os,k.tape,k.output,k.size,fun q hq=>k.block q (Nat.lt_of_lt_of_le hq hB) fun e=>by have:=hs q e;omega⟩
end
section
variable {α : Type} {w : World} {B0 : Nat} {E : TypeId} {enc : α -> List Value} {A : Option Addr} {l : List α} {sz c : Nat}
theorem X2i(h:Own w B0 E sz enc A c l){k:Nat}(hk:ownB A=some k) : B0<=k:=(h.block (k:=k) (by rw [X4u];exact hk)).1
theorem X0x(ho:Own w B0 E sz enc A c l)(hsz:∀ x,(enc x).length=sz){k:Nat}{u:α}(hk:l[k]? = some u)(j:Nat){m:Nat}(hm:k*sz+j=m) : At w (oA A m) ((enc u).drop j):=by
 subst hm
 rcases ho.2 with ⟨e1,e2⟩|⟨b,cap,cur,e1,e2,e3,e4,e5,e6,e7⟩
 ·have:l=[]:=List.eq_nil_of_length_eq_zero e2
  rw [this] at hk;cases hk
 ·injection e1 with e1 _ e1'
  obtain ⟨p,hp,h⟩:=Rd.at hsz ho.rd hk
  rw [e1] at hp ⊢
  injection hp with hp
  subst hp
  intro i v hv
  rw [List.getElem?_drop] at hv
  have h2:=h _ v hv
  show w.cell? ((⟨b,k*sz+j,none⟩ : Addr).add i)=_
  rw [X1s] at h2 ⊢
  rw [X1s] at h2
  rw [<- h2]
  congr 2
  omega
end
structure Ps where (ins vars root phase:Int) (ts:List Tm) (out:List Af)
structure Pst where (f:Int->Int) (v:Nat) (out:List Af)
def afZ:Af:=⟨0,0⟩
def aAt(l:List Af)(i:Int) : Af:=l.getD i.toNat afZ
def rotC(k:Int) : Int:=if k=4 then 4 else if k=5 then 2 else if k=6 then 6 else if k=7 then 1 else if k=8 then 7 else 0
def Mk(m:Int) : Prop:=0<=m/\m<16777216
def AO(a:Af) : Prop:=Mk a.m/\(a.t=0∨a.t=1)
theorem Mk.nat{m:Int}(h:Mk m) : ∃ x:Nat,x<2^24/\m=x:=⟨m.toNat,by have:=h.1;have:=h.2;omega,by have:=h.1;omega⟩
theorem Mk.of{x:Nat}(h:x<2^24) : Mk (x:Int):=⟨by omega,by omega⟩
theorem Xkr{x:Nat}(h:x<2^24) : x<2^62:=Nat.lt_of_lt_of_le h (by decide)
theorem Mk.or{a b:Int}(ha:Mk a)(hb:Mk b) : Mk (oI a b):=by
 obtain ⟨x,hx,rfl⟩:=ha.nat;obtain ⟨y,hy,rfl⟩:=hb.nat
 unfold oI
 rw [Xia (Xkr hx) (Xkr hy)]
 exact Mk.of (Nat.or_lt_two_pow hx hy)
theorem Mk.zero:Mk 0:=⟨by omega,by omega⟩
theorem AO.z:AO afZ:=⟨Mk.zero,.inl rfl⟩
theorem AO.one:AO ⟨0,1⟩:=⟨Mk.zero,.inr rfl⟩
theorem AO.at{l:List Af}(h:∀ a ∈ l,AO a)(i:Int) : AO (aAt l i):=by
 unfold aAt
 rw [Qa]
 cases e:l[i.toNat]? with
 | none=>exact AO.z
 | some a=>exact h a (Qe e)
def drN(v x:Nat) : Nat:=x % 2^v+2^v*(x/2^(v+1))
theorem Xu6(v x:Nat) : drN v x<=x:=by
 unfold drN
 have h1:=Nat.div_add_mod x (2^v)
 have h2:x/2^(v+1)<=x/2^v:=by
  rw [Nat.pow_succ,<- Nat.div_div_eq_div_mul];exact Nat.div_le_self _ _
 have:=Nat.mul_le_mul_left (2^v) h2
 omega
def bitQ(v:Nat)(m:Int) : Bool:=m.toNat.testBit v
def drI(v:Nat)(m:Int) : Int:=((drN v m.toNat:Nat) : Int)
theorem Xd4(v x:Nat) : bitQ v (x:Int)=x.testBit v:=rfl
theorem Mk.dr{v:Nat}{m:Int}(h:Mk m) : Mk (drI v m):=by
 obtain ⟨x,hx,rfl⟩:=h.nat;exact Mk.of (Nat.lt_of_le_of_lt (Xu6 v x) hx)
section
variable {Q : Int -> Prop} (hq : ∀ a b, Q a -> Q b -> Q (oI a b)) (h0 : Q 0) {l : List Int} (hl : ∀ x ∈ l, Q x)
include h0 hl
include hq
end
section
variable {Q : Int -> Prop} {φ : Int -> Int} (hq : ∀ a b, Q a -> Q b -> Q (oI a b)) (hφ : ∀ a b, Q a -> Q b -> φ (oI a b) = oI (φ a) (φ b)) (h0 : Q 0) (hφ0 : φ 0 = 0) {l : List Int} (hl : ∀ x ∈ l, Q x)
include hφ0
include h0 hl hφ hq
end
def cPh(ph:Int) : Int->Int:=upd (fun _=>0) 0 ph
theorem PO.cPh{ph:Int}(h:0<=ph/\ph<8) : PO (cPh ph):=fun x=>by
 show 0<=upd _ 0 ph x/\upd _ 0 ph x<8
 unfold upd
 split
 ·exact h
 ·exact ⟨by show (0:Int)<=0;omega,by show (0:Int)<8;omega⟩
theorem X7q{L:List Sm}{x:Int}(h:∀ p ∈ L,p.1≠x) : sumA L x=0:=by
 induction L with
 | nil=>rfl
 | cons p L ih=>rw [X7w,Q3 (h p (by simp)),ih fun q hq=>h q (Ql _ hq)];rfl
theorem Xr7{L:List Sm}{ph x:Int}(hph:0<=ph/\ph<8)(hx:x≠0)(h:foldA L (cPh ph) x≠0) : ∃ p ∈ L,p.1=x:=by
 refine Classical.byContradiction fun hn=>h ?_
 rw [X7g L (PO.cPh hph),X7q fun p hp e=>hn ⟨p,hp,e⟩]
 show (upd _ 0 ph x+0) % 8=0
 rw [Xj2 hx];rfl
def sm(ts:List Tm) : List Sm:=ts.map fun t=>(t.m,t.c)
structure OkT (ts:List Tm) : Prop where
 rise:Rise ts
 all:∀ t ∈ ts,0<t.m/\t.m<16777216/\0<t.c/\t.c<8
theorem Xcq:∀ {ts:List Tm},Rise ts->∀ t ∈ ts,sumA (sm ts) t.m=t.c
 | [],_,t,h=>by cases h
 | u::l,hr,t,h=>by
  unfold Rise at hr
  rw [W8] at hr
  show sumA ((u.m,u.c)::sm l) t.m=t.c
  rw [X7w]
  rcases Qv.1 h with e|h
  ·subst e
   rw [Q4 rfl,X7q fun p hp e=>?_]
   ·omega
   ·obtain ⟨q,hq,rfl⟩:=W6.1 hp
    have:=hr.1 q hq
    have e:q.m=t.m:=e
    omega
  ·have:=hr.1 t h
   rw [Q3 (by show ¬ u.m=t.m;omega),Xcq hr.2 t h];omega
theorem OkT.val{ts:List Tm}(h:OkT ts){ph:Int}(hph:0<=ph/\ph<8){t:Tm}(ht:t ∈ ts) : foldA (sm ts) (cPh ph) t.m=t.c:=by
 have h1:=h.all t ht
 rw [X7g _ (PO.cPh hph),Xcq h.rise t ht]
 unfold cPh
 rw [Xj2 (by omega)]
 omega
theorem OkT.tms{ts:List Tm}(h:OkT ts){ph:Int}(hph:0<=ph/\ph<8) : tms (foldA (sm ts) (cPh ph))=ts:=by
 refine (IsT.eq ⟨h.rise,fun t=>?_⟩).symm
 constructor
 ·intro ht;have h1:=h.all t ht;have h2:=h.val hph ht;exact ⟨h1.1,h1.2.1,h2.symm,by rw [h2];omega⟩
 ·rintro ⟨h1,h2,h3,h4⟩
  obtain ⟨p,hp,e⟩:=Xr7 hph (by omega) h4
  obtain ⟨q,hq,rfl⟩:=W6.1 hp
  have e:q.m=t.m:=e
  have h5:=h.val hph hq
  rw [e,<- h3] at h5
  have:q=t:=by
   obtain ⟨a,b⟩:=q;obtain ⟨c,d⟩:=t
   simp only at e h5
   rw [e,h5]
  rw [<- this];exact hq
theorem Xl3{ts:List Tm}(h:∀ t ∈ ts,0<t.m) : sumA (sm ts) 0=0:=X7q fun p hp e=>by
 obtain ⟨q,hq,rfl⟩:=W6.1 hp
 have:=h q hq
 have e:q.m=0:=e
 omega
theorem OkT.zero{ts:List Tm}(h:OkT ts){ph:Int}(hph:0<=ph/\ph<8) : foldA (sm ts) (cPh ph) 0=ph:=by
 rw [X7g _ (PO.cPh hph),Xl3 fun t ht=>(h.all t ht).1]
 show (upd _ 0 ph 0+0) % 8=ph
 rw [Xuu];omega
theorem Xtu{x:Int}(h:-1000000000<=x/\x<=1000000000) : wr x=x:=IntWalk.i64_in _ ⟨by omega,by omega⟩
section
end
section
variable {n : Nat} {g : Gt}
theorem Xcx(h:gOk (n:Int) g=true) : 0<=g.a/\g.a.toNat<n:=by
 simp only [gOk,inR,Qd,Qr] at h
 obtain ⟨⟨h1,h2⟩,h3⟩:=h
 split at h3
 ·simp at h3;omega
 ·split at h3<;>simp at h3<;>omega
theorem Xdr(h:gOk (n:Int) g=true) : 0<=g.b/\g.b.toNat<n:=by
 simp only [gOk,inR,Qd,Qr] at h
 obtain ⟨⟨h1,h2⟩,h3⟩:=h
 split at h3
 ·simp at h3;omega
 ·split at h3<;>simp at h3<;>omega
end
section
variable {n : Nat} {ps : Pst} {g : Gt}
end
end Go.Proofs.YtpifljegadknkaaGreat
namespace Go.Proofs.YtpifljegadknkaaGreat
open Go.RowKit Go.Sort Go.Shelf Go.Lib
structure Mt where (v:Tm) (h:0<=v.m/\v.m<16777216)
instance:Inhabited Mt:=⟨⟨⟨0,0⟩,by decide,by decide⟩⟩
theorem X9c{α:Type}[Inhabited α]{enc:α->List Value}{k:Nat}(hk:∀ x,(enc x).length=k)(L:List α) : (flatK enc k L.toArray).toList=L.flatMap enc:=by
 apply List.ext_getElem?
 intro t
 by_cases h:t<L.length*k
 ·obtain ⟨x,h1,h2⟩:=X58 hk h
  have hk0:0<k:=by
   rcases Nat.eq_zero_or_pos k with e|e
   ·subst e;simp at h
   ·exact e
  have h3:t % k<(enc x).length:=by rw [hk];exact Nat.mod_lt _ hk0
  have h4:t/k<L.length:=(Qg.1 h1).1
  rw [h2,Array.getElem?_toList]
  have e1:L[t/k]! = x:=by rw [List.getElem!_eq_getElem?_getD,h1];rfl
  have e2:L[t/k]?.getD default=x:=by rw [h1];rfl
  simp [flatK,h,e2,h3]
 ·rw [List.getElem?_eq_none (by simp [flatK];omega),List.getElem?_eq_none (by rw [Xu hk];omega)]
theorem Xib{w:World}{g n:Nat}{os:Array Obj}{cur:Array Value}{e:TypeId}{fr:Nat×Nat}(d:Array Value)(hb:w.heap[g]? = some (.cells cur e fr)) :
  (grow (putRow id (Sort.ahead w n) g 0 d) os).heap[g]? = some (.cells (putCells id 0 d cur) e fr):=by
 have hg:g<w.heap.size:=(Qp.1 hb).1
 rw [heap_grow_old _ _ (by simpa using hg)]
 simp [putRow,mapBlock,Sort.ahead,Array.getElem?_modify,hb,onCells]
theorem Xea{w:World}{g n:Nat}{os:Array Obj}(d:Array Value) : w.grownBy (grow (putRow id (Sort.ahead w n) g 0 d) os) (some g):=by
 refine ⟨rfl,rfl,rfl,by simp,fun k hk hne=>?_⟩
 rw [heap_grow_old _ _ (by simpa using hk)]
 have:g≠k:=fun e=>hne (by rw [e])
 simp [putRow,mapBlock,Sort.ahead,Array.getElem?_modify,this]
theorem Xhq(cur F:Array Value)(h:F.size<=cur.size) : (putCells id 0 F cur).toList.take F.size=F.toList:=by
 apply List.ext_getElem?
 intro j
 by_cases hj:j<F.size
 ·rw [Wg hj,Array.getElem?_toList,Array.getElem?_toList]
  simp [putCells,hj,show j<cur.size by omega]
 ·rw [List.getElem?_take_eq_none (by omega),List.getElem?_eq_none (by simp;omega)]
theorem Xxf{w:World}{g:Nat}{cur:Array Value}{e:TypeId}{F:Array Value}(hb:w.heap[g]? = some (.cells cur e (0,0)))(ht:cur.toList.take F.size=F.toList) : Holds id w g 0 F:=by
 intro j hj
 refine ⟨?_,by simp [World.frozen?,hb]⟩
 have h1:(cur.toList.take F.size)[j]? = F.toList[j]?:=by rw [ht]
 rw [Wg hj] at h1
 simp only [World.cell?,hb,Nat.zero_add]
 simp only [Option.isSome_none,Bool.false_eq_true,if_false]
 rw [<- Array.getElem?_toList,h1]
 simp [hj]
end Go.Proofs.YtpifljegadknkaaGreat
namespace Go.Proofs.YtpifljegadknkaaGreat
open Go.RowKit
theorem Xa6{c:Cx}(h:cOk c=true) : ∃ n:Nat,c.n=(n:Int)/\1<=n/\n<=5:=by
 simp only [cOk,inR,Qd,Qr] at h
 exact ⟨c.n.toNat,by omega,by omega,by omega⟩
theorem Xo7{c:Cx}(h:cOk c=true) : c.gs.length<=400:=by
 simp only [cOk,inR,Qd,Qr] at h
 omega
theorem Xn4{c:Cx}{n i:Nat}{u:Gt}(h:cOk c=true)(hn:c.n=(n:Int))(hu:c.gs[i]? = some u) : gOk (n:Int) u=true:=by
 simp only [cOk,Qd] at h
 have h2:=h.2
 rw [Bool.not_eq_true',W7] at h2
 have:=h2 u (Qe hu)
 rw [<- hn]
 simpa using this
def tZ:Tm:=⟨0,0⟩
section
variable {f : Int -> Int} {m k : Int} {i : Nat}
end
theorem Y5c(x k:Nat) : (x:Int)/2^k=((x/2^k:Nat) : Int):=by
 rw [Int.natCast_ediv];simp
def szI(m:Int) : Nat:=(setN m.toNat).length
def okTa(n:Nat)(ts:List Tm)(i:Nat) : Bool:=
 inR (ts.getD i tZ).m 1 (((2^n:Nat) : Int)-1)&&decide (szI (ts.getD i tZ).m<=3)&&inR (ts.getD i tZ).c 1 7&&((ts.getD i tZ).c % ((2^(szI (ts.getD i tZ).m-1) : Nat) : Int)==0)&&(decide (i=0)||decide ((ts.getD (i-1) tZ).m<(ts.getD i tZ).m))
def okHd(p:Ps) : Bool:=inR p.ins 1 5&&inR p.vars 0 (24-p.ins)&&inR p.root (-60) 60&&inR p.phase 0 7&&decide ((p.out.length:Int)=p.ins)
def okAf(n:Nat)(a:Af) : Bool:=inR a.m 0 (((2^n:Nat) : Int)-1)&&inR a.t 0 1
def okTs(n:Nat)(ts:List Tm)(k:Nat) : Bool:=(List.range k).all (okTa n ts)
def validP(p:Ps) : Bool:=okHd p&&okTs (p.ins+p.vars).toNat p.ts p.ts.length&&p.out.all (okAf (p.ins+p.vars).toNat)
theorem Y0f{n:Nat}(h:n<=24) : 1<=2^n/\2^n<=16777216:=⟨Nat.two_pow_pos n,Q0 (Nat.pow_le_pow_right (by decide) h) (by decide)⟩
theorem Xk0{m:Nat}(h:m<=30) : wr (1*2^m)=((2^m:Nat) : Int):=Xon (by omega)
structure VPs (p:Ps) : Prop where
 ins:1<=p.ins/\p.ins<=5
 vars:0<=p.vars/\p.ins+p.vars<=24
 ph:0<=p.phase/\p.phase<8
 ts:OkT p.ts
 out:∀ a ∈ p.out,AO a/\a.m<((2^(p.ins+p.vars).toNat:Nat) : Int)
 tb:∀ t ∈ p.ts,t.m<((2^(p.ins+p.vars).toNat:Nat) : Int)
 sz:∀ t ∈ p.ts,szI t.m<=3
theorem VPs.of{p:Ps}(h:validP p=true) : VPs p:=by
 simp only [validP,okHd,Qd] at h
 obtain ⟨⟨⟨⟨⟨⟨h1,h2⟩,h3⟩,h4⟩,h5⟩,h6⟩,h7⟩:=h
 simp only [inR,Qd,Qr] at h1 h2 h3 h4
 have hn:=Y0f (n:=(p.ins+p.vars).toNat) (by omega)
 have hT:∀ i,i<p.ts.length->(1<=(p.ts.getD i tZ).m/\(p.ts.getD i tZ).m<=((2^(p.ins+p.vars).toNat:Nat) : Int)-1)/\szI (p.ts.getD i tZ).m<=3/\(1<=(p.ts.getD i tZ).c/\(p.ts.getD i tZ).c<=7)/\(i=0∨(p.ts.getD (i-1) tZ).m<(p.ts.getD i tZ).m):=fun i hi=>by
  unfold okTs at h6
  have:=W1.1 h6 i (W2.2 hi)
  simp only [okTa,inR,Qd,Bool.or_eq_true,Qr] at this
  exact ⟨this.1.1.1.1,this.1.1.1.2,this.1.1.2,this.2⟩
 have hM:∀ t ∈ p.ts,(1<=t.m/\t.m<=((2^(p.ins+p.vars).toNat:Nat) : Int)-1)/\szI t.m<=3/\1<=t.c/\t.c<=7:=fun t ht=>by
  obtain ⟨i,hi,e⟩:=List.mem_iff_getElem.1 ht
  have:=hT i hi
  rw [show p.ts.getD i tZ=t from by rw [Qa,Qc hi,e];rfl] at this
  exact ⟨this.1,this.2.1,this.2.2.1⟩
 have hR:∀ j i,i<j->j<p.ts.length->(p.ts.getD i tZ).m<(p.ts.getD j tZ).m:=fun j=>by
  induction j with
  | zero=>intro i h;omega
  | succ j ih=>
   intro i hij hj;have h9:=(hT (j+1) hj).2.2.2
   rw [show j+1-1=j from rfl] at h9
   rcases h9 with h9|h9
   ·omega
   ·rcases W4 i j with h10|h10
    ·exact Int.lt_trans (ih i h10 (by omega)) h9
    ·rw [show i=j from by omega];exact h9
 refine ⟨h1,⟨h2.1,by omega⟩,⟨h4.1,by omega⟩,⟨?_,fun t ht=>?_⟩,fun a ha=>?_,fun t ht=>?_,fun t ht=>(hM t ht).2.1⟩
 ·unfold Rise
  rw [W0]
  intro i j hi hj hij
  have:=hR j i hij hj
  rw [Qa,Qa,Qc hi,Qc hj] at this
  exact this
 ·have:=hM t ht
  exact ⟨by omega,by omega,by omega,by omega⟩
 ·have:=W1.1 h7 a ha
  simp only [okAf,inR,Qd,Qr] at this
  exact ⟨⟨⟨this.1.1,by omega⟩,by omega⟩,by omega⟩
 ·have:=hM t ht
  omega
def bI(v:Nat)(m:Int) : Int:=if bitQ v m then 1 else 0
theorem Xq6{m:Int}(h:Mk m)(v:Nat) : bits .and .i64 (m/2^v) 1=bI v m:=by
 obtain ⟨x,hx,rfl⟩:=h.nat
 have hd:x/2^v<2^62:=Nat.lt_of_le_of_lt (Nat.div_le_self _ _) (Xkr hx)
 rw [Y5c,show (1:Int)=((1:Nat) : Int) from rfl,Xe2 hd (by decide),Nat.and_one_is_mod]
 unfold bI
 rw [Xd4,Nat.testBit_eq_decide_div_mod_eq]
 by_cases e:x/2^v % 2=1
 ·rw [decide_eq_true e,e];rfl
 ·rw [decide_eq_false e,show x/2^v % 2=0 from by omega];rfl
structure Ar where (c z:Int) (any pl:Bool)
def outB(y:Nat)(l:List Af) : Bool:=l.any fun a=>bitQ y a.m
section
end
section
end
section
variable {P : Program} {a : Act} {w : World} {n : Nat} {e : Env} {ty : TypeId} {pos : String} {af : Array Edge} {g : Option (Nat × Bool)} {d : Option Tmp} {t t' : TypeId} {x y : Operand} {i j : Int}
theorem Xob{T E:TypeId}{len k:Nat}{vs:List Value}{v:Value}(hf:Fr a n e)(hx:ev e x=some (.agg vs.toArray))(hy:ev e y=some (.int .i64 i))(hT:P.underlying T=some (.array len E))(hs:SizeT P E 1)(h1:OneT P E)(hi:i=(k:Int))(hk:k<len)(hv:vs[k]? = some v) : Ev P ⟨d,.index T x y,ty,pos,af,g⟩ a w v:=fun w' _=>by
 subst hi
 have h4:=X0g (P:=P) hT w';have h5:=run_sizeOf' hs w';have h6:=X41 (P:=P) (w:=w') h1
 simp [execOp,hf.ev hx,hf.ev hy,Instr.index,asIntOf,h4,h5,h6,part,hk,hv]
theorem Y0i{T E:TypeId}{len k:Nat}{vs:List Value}{v:Value}(hx:ev e x=some (.agg vs.toArray))(hy:ev e y=some (.int .i64 i))(hT:P.underlying T=some (.array len E))(hs:SizeT P E 1)(h1:OneT P E)(hi:i=(k:Int))(hk:k<len)(hv:vs[k]? = some v) : EvW P ⟨d,.index T x y,ty,pos,af,g⟩ n e w v:=fun a hf=>Xob hf hx hy hT hs h1 hi hk hv
end
section
variable {j : Nat} {s : Ar} {u : Tm}
end
section
variable {ins : Int} {s : Ar} (hp : s.pl = true)
include hp
end
section
end
section
end
def Cg(x y:Int) : Prop:=∃ q:Int,x=y+8*q
theorem Cg.refl(x:Int) : Cg x x:=⟨0,by omega⟩
theorem Cg.of{x y:Int}(h:x=y) : Cg x y:=⟨0,by omega⟩
theorem Cg.symm{x y:Int}(h:Cg x y) : Cg y x:=by obtain ⟨q,h⟩:=h;exact ⟨-q,by omega⟩
theorem Cg.trans{x y z:Int}(h:Cg x y)(k:Cg y z) : Cg x z:=by obtain ⟨q,h⟩:=h;obtain ⟨r,k⟩:=k;exact ⟨q+r,by omega⟩
theorem Cg.add{x y z w:Int}(h:Cg x y)(k:Cg z w) : Cg (x+z) (y+w):=by obtain ⟨q,h⟩:=h;obtain ⟨r,k⟩:=k;exact ⟨q+r,by omega⟩
theorem Cg.mod(x:Int) : Cg (x % 8) x:=⟨-(x/8),by omega⟩
theorem Cg.mul{x y:Int}(k:Int)(h:Cg x y) : Cg (k*x) (k*y):=by
 obtain ⟨q,h⟩:=h;exact ⟨k*q,by rw [h,Int.mul_add,Int.mul_left_comm]⟩
def omZ(k:Int) : Rg:=om^(k % 8).toNat
theorem X2u{x y:Int}(h:Cg x y) : omZ x=omZ y:=by
 obtain ⟨q,h⟩:=h
 unfold omZ
 rw [show x % 8=y % 8 from by omega]
theorem X19(x y:Int) : omZ (x+y)=omZ x*omZ y:=by
 unfold omZ
 rw [<- X2t,Xhv ((x % 8).toNat+(y % 8).toNat)]
 congr 1
 omega
theorem X2p:omZ 0=1:=rfl
def subI(a:Nat->Bool)(m:Int) : Int:=if (List.range 62).all (fun i=>!m.toNat.testBit i||a i) then 1 else 0
theorem sub_zero(a:Nat->Bool) : subI a 0=1:=by
 unfold subI
 rw [Q4]
 rw [W1]
 intro i _
 simp
def T2:Nat->Nat
 | 0=>0
 | c+1=>T2 c+c
def Wl(l:List Int) : Prop:=∀ x ∈ l,∃ n:Nat,n<2^62/\x=(n:Int)
theorem Wl.at{l:List Int}(h:Wl l)(n:Nat) : ∃ k:Nat,k<2^62/\l.getD n 0=(k:Int):=by
 rw [Qa]
 cases e:l[n]? with
 | none=>exact ⟨0,by decide,rfl⟩
 | some x=>exact h x (Qe e)
section
variable {a : Nat -> Bool} {l : List Int} (hl : Wl l) {k : Int}
include hl
end
def upB(a:Nat->Bool)(i:Nat)(b:Bool) : Nat->Bool:=fun j=>if j=i then b else a j
def lift(v:Nat)(a:Nat->Bool)(b:Bool) : Nat->Bool:=fun i=>if i<v then a i else if i=v then b else a (i-1)
theorem Xqd(b:Int)(hb:b=0∨b=1) : 1+omZ (2+4*b)=s2*omZ (1+6*b)/\1+omZ (6+4*b)=s2*omZ (7+2*b):=by
 rcases hb with rfl|rfl<;>decide
section
variable {p : Ps} {y : Nat} (h : VPs p) (hy : p.ins.toNat <= y /\ y < p.ins.toNat + p.vars.toNat) (ho : outB y p.out = false)
include h hy ho
end
section
end
def rZ:Rg:=⟨0,0,0,0⟩
def sclI(z:Rg)(e:Int) : Option Dy:=if z=rZ then some dZ else if (raiseI (-e).toNat z).2&&dOk (dLow (raiseI (-e).toNat z).1 (max e 0)) then some (dLow (raiseI (-e).toNat z).1 (max e 0)) else none
def sm4(z:Rg)(n:Int) : Prop:=(-n<=z.a/\z.a<=n)/\(-n<=z.b/\z.b<=n)/\(-n<=z.c/\z.c<=n)/\(-n<=z.d/\z.d<=n)
theorem Xmb(k:Int) : sm4 (omZ k) 1:=by
 unfold omZ
 have hm:(k % 8).toNat<8:=by omega
 revert hm
 generalize (k % 8).toNat=m
 intro hm
 have:m=0∨m=1∨m=2∨m=3∨m=4∨m=5∨m=6∨m=7:=by omega
 unfold sm4
 rcases this with rfl|rfl|rfl|rfl|rfl|rfl|rfl|rfl<;>decide
theorem Xke{f:Nat->Rg}(h:∀ k,sm4 (f k) 1) : ∀ n:Nat,sm4 (sumN f n) (n:Int)
 | 0=>by show sm4 (0:Rg) 0;unfold sm4;decide
 | n+1=>by
  have h1:=Xke h n;have h2:=h n
  unfold sm4 at *
  have ea:(sumN f (n+1)).a=(sumN f n).a+(f n).a:=rfl
  have eb:(sumN f (n+1)).b=(sumN f n).b+(f n).b:=rfl
  have ec:(sumN f (n+1)).c=(sumN f n).c+(f n).c:=rfl
  have ed:(sumN f (n+1)).d=(sumN f n).d+(f n).d:=rfl
  rw [ea,eb,ec,ed]
  omega
theorem Xga{z:Rg}{e:Int}{d:Dy}(hz:rOk z=true)(h:sclI z e=some d) : V d e.toNat (s2^(-e).toNat*z)/\dOk d=true:=by
 unfold sclI at h
 split at h
 ·rename_i h0
  injection h with h
  subst h0 h
  have:s2^(-e).toNat*rZ=0:=X18 _
  rw [this]
  exact ⟨Xw8 _,by decide⟩
 ·split at h
  ·rename_i h1
   injection h with h
   simp only [Qd] at h1
   obtain ⟨e1,e2⟩:=Xdg _ _ hz h1.1
   have hv:=Xxw (e:=max e 0) e2 (by omega)
   rw [h] at hv h1
   rw [e1,show (max e 0).toNat=e.toNat from by omega] at hv
   exact ⟨hv,h1.2⟩
  ·cases h
theorem Xxe{p q:Mx}{R C:Nat}(hr:p.rows=(R:Int))(hr2:q.rows=(R:Int))(hc:p.cols=(C:Int))(hc2:q.cols=(C:Int))(hp:p.cells.length=R*C)(hq:q.cells.length=R*C)(h:∀ i j,i<R->j<C->p.at i j=q.at i j) : p=q:=by
 obtain ⟨pr,pc,pl⟩:=p;obtain ⟨qr,qc,ql⟩:=q
 simp only at hr hr2 hc hc2 hp hq
 subst hr hc hr2 hc2
 congr 1
 apply List.ext_getElem
 ·omega
 ·intro m h1 h2
  have hC:0<C:=by
   rcases Nat.eq_zero_or_pos C with e|e
   ·rw [e,Nat.mul_zero] at hp;omega
   ·exact e
  have h3:=h (m/C) (m % C) (Nat.div_lt_of_lt_mul (by rw [Wi];omega)) (Nat.mod_lt _ hC)
  unfold Mx.at at h3
  simp only [Qj] at h3
  rw [show m/C*C+m % C=m from by rw [Wi];exact Nat.div_add_mod m _] at h3
  rw [Qa,Qa,Qc h1,Qc h2] at h3
  exact h3
section
end
section
end
theorem Xu8:Tryz.prog.eqGuardType Tryz.prog.depth 94=false:=by kernel_rfl
section
variable {z x y : Rg} {m i j : Int} {b : Bool} (hz0 : ¬ z = rZ) (h : (if b = true then raiseI (-j).toNat y else (y, false)) = raiseI (-m).toNat z) (hjb : b = true -> 0 <= j)
variable (hjm : -60 <= j /\ j <= 60 /\ (j = m ∨ m < 0 /\ j <= 0)) (hin : dLow x i = dLow y j) (hst : dLow x i = ⟨x, i⟩)
include hz0 h hjb hjm hin hst
end
theorem Y4n{n k:Int}(hn:1<=n/\n<=5)(hk:k=12) : gOk n ⟨k,0,0⟩=true:=by
 subst hk
 simp only [gOk,Qd,X0o]
 exact ⟨⟨hn,by omega⟩,rfl⟩
theorem Y4c{n:Int}(hn:1<=n/\n<=5) : gOk n ⟨1,0,0⟩=true:=by
 simp only [gOk,Qd,X0o]
 refine ⟨⟨hn,by omega⟩,?_⟩
 rw [Q3 (by decide),Q3 (by decide)]
 simp only [Qd,X0o]
 exact ⟨by omega,rfl⟩
theorem Y5b{n k a:Int}(hn:1<=n/\n<=5)(hk:1<=k/\k<=12)(h12:¬ k=12)(h9:inR k 9 11=false)(ha:0<=a/\(a=0∨a<n)) : gOk n ⟨k,a,0⟩=true:=by
 simp only [gOk,Qd,X0o]
 refine ⟨⟨hn,hk⟩,?_⟩
 rw [Q3 h12,Q3 (fun h=>by rw [<- X0o,h9] at h;cases h)]
 simp only [Qd,X0o]
 exact ⟨by omega,rfl⟩
theorem Y4w{n k a b:Int}(hn:1<=n/\n<=5)(hk:1<=k/\k<=12)(h12:¬ k=12)(h9:inR k 9 11=true)(h1:¬ n=1)(ha:0<=a/\(a=0∨a<n))(hb:0<=b/\(b=0∨b<n-1)) : gOk n ⟨k,a,(a+1+b).tmod n⟩=true:=by
 have e:(a+1+b).tmod n=if a+1+b<n then a+1+b else a+1+b-n:=by
  rw [Int.tmod_eq_emod_of_nonneg (by omega)]
  split
  ·exact Int.emod_eq_of_lt (by omega) (by omega)
  ·rw [<- Int.sub_emod_right]
   exact Int.emod_eq_of_lt (by omega) (by omega)
 simp only [gOk,Qd,X0o]
 refine ⟨⟨hn,hk⟩,?_⟩
 rw [Q3 h12,Q4 (X0o.1 h9)]
 simp only [Qd,X0o,bne_iff_ne,ne_eq]
 rw [e]
 split<;>omega
theorem Xid{n:Int}{l:List Gt}{g:Gt}(h:∀ x ∈ l,gOk n x=true)(hg:gOk n g=true) : ∀ x ∈ l++[g],gOk n x=true:=fun x hx=>by
 rcases Qu.1 hx with hx|hx
 ·exact h x hx
 ·rw [Qm.1 hx];exact hg
theorem Y26(w0:World)(bV:Nat){b1:TypeId}(J:Option Addr)(N:Nat)(q:List Int)(b:Rd w0 w0.heap.size b1 encU J q)(a8:∀ x ∈ q,0<=x/\x<=255)(Q:AwayR q J bV)(t:Nat)(sd:Int)(c:Blk w0 bV 103 [.slice J q.length N,vi (t:Int),.int .u64 sd])(n:Int)(Al:Option Addr)(cl:Nat)(l:List Int)(A:Rd w0 w0.heap.size 3 encI Al l)(hn:1<=n/\n<=5)(aE:∀ k ∈ l,1<=k/\k<=12)(bB:0<l.length)(bC:l.length<=1000)(ht:t+6<=100000000) : Ret Tryz.prog 200 [(pZ9 bV),vi n,.slice Al l.length cl] w0 (fun v w=>∃ (x:Gt) (t1:Nat) (s1:Int),v=gV x/\(gOk n x=true)/\(t<=t1/\t1<=t+6)/\Kept bV w0.heap.size w0 w/\Blk w bV 103 [.slice J q.length N,vi (t1:Int),.int .u64 s1]):=by
 have bA:=c.lt;refine enter Tryz.func200 rfl 42 rfl rfl ?_;intro a o
 have i:Kept bV w0.heap.size w0 w0:=Kept.refl _ _ _
 refine Zs o fun _ b2=>?_;refine Zf (Xq (zs:=[vi 0,vi 0,vi 0]) Xln rfl) ?_;rintro _ w1 ⟨b4,rfl,aF,p,d⟩;have L:=Q0 i.size aF;have aY:=b.away aF;have c:=c.bw p;have b:=b.bw p;have A:=A.bw p;have i:=ktr i p;refine Zx b2 fun a o _ b3=>?_;refine Zm rfl<|Zm rfl<|Zm rfl<|Ze (X09 rfl Xj)<|Zf (Vc (X26 _ bV J N q b.top a8 Q t sd c (l.length:Int) (by omega)) X14) ?_;rintro _ w2 ⟨f,aG,aH,rfl,b5,b6,hK,B⟩;obtain ⟨wm,I,hm,p⟩:=hK.mid;clear hm;have e:=c;have d:=d.oz I e rfl;have b:=b.onlyA I Q;have A:=A.oT I e rfl;have i:=i.self I;have d:=d.bw p;have b:=b.bw p;have A:=A.bw p;have i:=ktr i p
 clear e p I hK;have c:=B;clear B;refine Zi (k:=f.toNat) (u:=(l.getD f.toNat 0)) (enc:=encI) (l:=l) tv0 rfl rfl Xj X0b Xd A (X9a (by omega)) (by omega) ?_;intro p7 aI;refine Ze (X0 rfl X9 aI)<|Ze (X0s (ps:=[(0,vi (l.getD f.toNat 0))]) (cs:=[vi (l.getD f.toNat 0),vi 0,vi 0]) rfl (fun _=>by first|rfl|kernel_rfl))<|Zf (Xq (zs:=[vi 0,vi 0,vi 0]) Xln rfl) ?_;rintro _ w3 ⟨b8,rfl,aJ,p,g⟩
 have aZ:b4≠b8:=by have:=d.lt;omega
 have C:=Q0 i.size aJ;have b0:=b.away aJ;have c:=c.bw p;have d:=d.bw p;have b:=b.bw p;have i:=ktr i p;refine Zo (Vw [vi (l.getD f.toNat 0),vi 0,vi 0] X6e g) ?_;rintro _ w4 ⟨y,M⟩;have e:=g;have c:=c.oz y e rfl;have d:=d.oy y (by omega);have b:=b.oy y C;have i:=Kept.oy i y C;have g:=M;refine ZX b3 fun a o _ b7=>?_;refine Zs o fun _ aK=>?_;refine Ze (Vd rfl X74 0)<|Ze (X0 rfl X9 (g.at 0))<|Ze (X0k rfl rfl)<|Zt aK fun a o=>?_
 refine Xi o rfl (fun D=>?_) (fun D=>?_)
 ·have aA:=D
  have a6:l.getD f.toNat 0=12:=by have:=D;simpa using this
  refine Zs o fun _ aL=>?_;refine Ze (Vn X4p g)<|Zo (Vw [vi (l.getD f.toNat 0),vi 0,vi 0] X6e d) ?_;rintro _ w5 ⟨y,M⟩;have e:=d;have c:=c.oz y e rfl;have i:=Kept.oy i y L;have d:=M;refine Zt aL fun a o=>?_;refine Q6<|X8<|X6 o (Xp o rfl (ResV.cellN (l:=[vi (l.getD f.toNat 0),vi 0,vi 0]) rfl X4p (d.at 0) rfl)) ?_;exact ⟨⟨_,_,_⟩,_,_,rfl,Y4n hn a6,⟨by omega,by omega⟩,i,c⟩
 have aA:=D
 have a6:¬ l.getD f.toNat 0=12:=by have:=D;simpa using this
 have aM:=aE (l.getD f.toNat 0) (Xa4 (by omega))
 refine Q7<|b7 _ _<|Zs o fun _ aN=>?_;refine Zm rfl<|Zm rfl<|Zf (Vc (X26 _ bV J N q b.top a8 Q aG aH c n (by omega)) X14) ?_;rintro _ w6 ⟨m,aO,aP,rfl,U,b9,hK,B⟩;obtain ⟨wm,I,hm,p⟩:=hK.mid;clear hm;have e:=c;have d:=d.oz I e rfl;have g:=g.oz I e rfl;have b:=b.onlyA I Q;have i:=i.self I;have d:=d.bw p;have g:=g.bw p;have b:=b.bw p;have i:=ktr i p
 clear e p I hK;have c:=B;clear B;refine Ze (Vd rfl X1d 1)<|Zo (Vu (vs:=[vi m]) (l':=[vi (l.getD f.toNat 0),vi m,vi 0]) rfl rfl X0b g) ?_;rintro _ w7 ⟨y,M⟩;have e:=g;have c:=c.oz y e rfl;have d:=d.oy y (by omega);have b:=b.oy y C;have i:=Kept.oy i y C;have g:=M;refine ZX aN fun a o _ a7=>?_;refine Zs o fun _ aQ=>?_;refine Ze (Vd rfl X74 0)<|Ze (X0 rfl X9 (g.at 0))<|Zf (Vc (F85 _ (l.getD f.toNat 0) 9 11) X64) ?_;rintro _ _ ⟨rfl,rfl⟩;refine Zt aQ fun a o=>?_
 refine Xi o rfl (fun E=>?_) (fun E=>?_)
 ·have aB:=E
  have h9:inR (l.getD f.toNat 0) 9 11=true:=E
  refine Q5 fun _ aR=>?_;refine Zs o fun _ aS=>?_;refine Zm rfl<|Ze (X0k rfl rfl)<|Zt aS fun a o=>?_
  refine Xi o rfl (fun G=>?_) (fun G=>?_)
  ·have aC:=G
   have h1:n=1:=by have:=G;simpa using this
   refine Zs o fun _ aT=>?_;refine Ze (X0s (ps:=[(0,vi 1)]) (cs:=[vi 1,vi 0,vi 0]) rfl (fun _=>by first|rfl|kernel_rfl))<|Zo (Vw [vi 1,vi 0,vi 0] X6e d) ?_;rintro _ w8 ⟨y,M⟩;have e:=d;have c:=c.oz y e rfl;have i:=Kept.oy i y L;have d:=M;refine Zt aT fun a o=>?_;refine Q6<|X8<|X8<|X6 o (Xp o rfl (ResV.cellN (l:=[vi 1,vi 0,vi 0]) rfl X4p (d.at 0) rfl)) ?_;exact ⟨⟨_,_,_⟩,_,_,rfl,Y4c hn,⟨by omega,by omega⟩,i,c⟩
  have aC:=G
  have h1:¬ n=1:=by have:=G;simpa using this
  refine Q7<|aR _ _<|X04 (some bV) (fun j=>[11].contains j) mixed ?_;intro w9 p;have c:=c.bw p;have d:=d.bw p;have g:=g.bw p;have b:=b.bw p;have i:=ktr i p;refine Yb o<|Yo 0 rfl (fun _=>Vd rfl X1d 1) ?_;refine Yw 1 rfl tv0 (fun w1 h1=>X0 rfl X9 ((g.oz h1 c rfl).at 1)) ?_;refine Yo 2 rfl (fun _=>Xs rfl rfl (by omega) (by omega))<|Yo 3 rfl (fun _=>X3 rfl)<|Yo 4 rfl (fun _=>X3 rfl)<|Yo 5 rfl (fun _=>X1h rfl rfl (by omega) (by omega))<|Yo 8 rfl (fun _=>X3 rfl)<|Y1 6 ?_;refine Yf rfl tv0 (EfW.mono (Vc (X26 _ bV J N q b.top a8 Q aO aP c (n-1) (by omega)) X14) (fun _ _ h=>⟨fun _=>by obtain ⟨H,aU,aV,rfl,W,aD,hK,B⟩:=h;exact hK.keep,h⟩)) ?_;rintro _ bD ⟨H,aU,aV,rfl,W,aD,hK,B⟩;obtain ⟨wm,I,hm,p⟩:=hK.mid;clear hm;have e:=c;have d:=d.oz I e rfl;have g:=g.oz I e rfl;have i:=i.self I;have d:=d.bw p;have g:=g.bw p;have i:=ktr i p
  clear e p I hK;have c:=B;clear B;refine Yo 7 rfl (fun _=>Xs rfl rfl (by omega) (by omega))<|Yo 9 rfl (fun _=>X3k rfl rfl (by simp;omega))<|Yo 10 rfl (fun _=>Vd rfl X2v 2)<|Y1 11 ?_;refine Yh rfl tv0 rfl (Vu (vs:=[vi (((m+1)+H).tmod n)]) (l':=[vi (l.getD f.toNat 0),vi m,vi (((m+1)+H).tmod n)]) rfl rfl X0b g) ?_;rintro _ bE ⟨y,M⟩;have e:=g;have c:=c.oz y e rfl;have d:=d.oy y (by omega);have i:=Kept.oy i y C;have g:=M;refine Yd fun a o=>?_;refine a7 _ _<|Zs o fun _ aW=>?_;refine Ze (Vn X4p g)<|Zo (Vw [vi (l.getD f.toNat 0),vi m,vi (((m+1)+H).tmod n)] X6e d) ?_;rintro _ bF ⟨y,M⟩;have e:=d;have c:=c.oz y e rfl;have i:=Kept.oy i y L;have d:=M;refine Zt aW fun a o=>?_
  refine Q6 (X6 o (Xp o rfl (ResV.cellN (l:=[vi (l.getD f.toNat 0),vi m,vi (((m+1)+H).tmod n)]) rfl X4p (d.at 0) rfl)) ?_)
  exact ⟨⟨_,_,_⟩,_,_,rfl,Y4w hn aM a6 h9 h1 U W,⟨by omega,by omega⟩,i,c⟩
 have aB:=E
 have h9:inR (l.getD f.toNat 0) 9 11=false:=E
 refine Q7<|a7 _ _<|Zs o fun _ aX=>?_;refine Ze (Vn X4p g)<|Zo (Vw [vi (l.getD f.toNat 0),vi m,vi 0] X6e d) ?_;rintro _ bG ⟨y,M⟩;have e:=d;have c:=c.oz y e rfl;have i:=Kept.oy i y L;have d:=M;refine Zt aX fun a o=>?_
 refine Q6 (X6 o (Xp o rfl (ResV.cellN (l:=[vi (l.getD f.toNat 0),vi m,vi 0]) rfl X4p (d.at 0) rfl)) ?_)
 exact ⟨⟨_,_,_⟩,_,_,rfl,Y5b hn aM a6 h9 U,⟨by omega,by omega⟩,i,c⟩
theorem Xym(w0:World)(bV:Nat){aJ:TypeId}(H:Option Addr)(W:Nat)(C:List Int)(d:Rd w0 w0.heap.size aJ encU H C)(aK:∀ x ∈ C,0<=x/\x<=255)(aB:AwayR C H bV)(t:Nat)(sd:Int)(i:Blk w0 bV 103 [.slice H C.length W,vi (t:Int),.int .u64 sd])(n:Int)(most:Int)(Al:Option Addr)(cl:Nat)(l:List Int)(f:Rd w0 w0.heap.size 3 encI Al l)(hn:1<=n/\n<=5)(aL:∀ k ∈ l,1<=k/\k<=12)(hm:0<=most/\most<=1000)(b4:0<l.length)(b6:l.length<=1000)(ht:t+(2+6*most.toNat)<=100000000) : Ret Tryz.prog 168 [(pZ9 bV),vi n,vi most,.slice Al l.length cl] w0 (fun v w=>∃ (c:Cx) (A:Option Addr) (e:Nat) (t1:Nat) (s1:Int),v=.agg #[vi c.n,.slice A c.gs.length e]/\(c.n=n/\(c.gs.length:Int)<=most/\∀ g ∈ c.gs,gOk n g=true)/\(t<=t1/\t1<=t+(2+6*most.toNat))/\Own w w0.heap.size 123 3 encG A e c.gs/\Kept bV w0.heap.size w0 w/\Blk w bV 103 [.slice H C.length W,vi (t1:Int),.int .u64 s1]):=by
 have bD:=i.lt;refine enter Tryz.func168 rfl 31 rfl rfl ?_;intro a G
 have B:Kept bV w0.heap.size w0 w0:=Kept.refl _ _ _
 refine Zs G fun _ b7=>?_;refine Zf (Xq (zs:=[vi 0,.slice none 0 0]) Y1a rfl) ?_;rintro _ w1 ⟨b5,rfl,aM,u,o⟩;have aN:=Q0 B.size aM;have b1:=d.away aM;have i:=i.bw u;have d:=d.bw u;have f:=f.bw u;have B:=ktr B u;refine Zx b7 fun a G _ b8=>?_;refine Zm rfl<|Ze (X0s (ps:=[(0,vi n)]) (cs:=[vi n,.slice none 0 0]) rfl (fun _=>by first|rfl|kernel_rfl))<|Zf (Xq (zs:=[vi 0,.slice none 0 0]) Y1a rfl) ?_;rintro _ w2 ⟨b9,rfl,aO,u,p⟩
 have b2:b5≠b9:=by have:=o.lt;omega
 have J:=Q0 B.size aO;have b3:=d.away aO;have i:=i.bw u;have o:=o.bw u;have d:=d.bw u;have f:=f.bw u;have B:=ktr B u;refine Zo (Vw [vi n,.slice none 0 0] Xu2 p) ?_;rintro _ w3 ⟨I,hb⟩;have m:=p;have i:=i.oz I m rfl;have o:=o.oy I (by omega);have d:=d.oy I J;have f:=f.oT I m rfl;have B:=Kept.oy B I J;have p:=hb;refine ZX b8 fun a G _ aP=>?_;refine Zs G fun _ aQ=>?_;refine Zm rfl<|Zm rfl<|Ze (Xs rfl rfl (by omega) (by omega))<|Zf (Vc (X26 _ bV H W C d.top aK aB t sd i (most+1) (by omega)) X14) ?_;rintro _ w4 ⟨aR,aS,aT,rfl,bA,bB,hK,M⟩;obtain ⟨wm,L,hm,u⟩:=hK.mid;clear hm;have m:=i;have o:=o.oz L m rfl;have p:=p.oz L m rfl;have d:=d.onlyA L aB;have f:=f.oT L m rfl;have B:=B.self L;have o:=o.bw u;have p:=p.bw u;have d:=d.bw u;have f:=f.bw u;have B:=ktr B u
 clear m u L hK;have i:=M;clear M;refine Za rfl<|Zt aQ fun a G=>?_;refine Q8<|X01 (σ:=Int×(List Gt)×Nat×Int) (fun (s:Int×(List Gt)×Nat×Int) (a:Act) (w:World)=>match s with|(j,gs,t2,s2)=>∃ N Q,Fr a 31 [(0,(pZ9 bV)),(1,vi n),(3,.slice Al l.length cl),(8,(pZ9 b5)),(9,(pZ9 b9)),(10,vi j)]/\(0<=j/\j+gs.length<=most)/\(t<=t2/\t2+6*j.toNat<=t+(2+6*most.toNat))/\(∀ g ∈ gs,gOk n g=true)/\Blk w bV 103 [.slice H C.length W,vi (t2:Int),.int .u64 s2]/\Blk w b5 30 [vi 0,.slice none 0 0]/\Blk w b9 30 [vi n,.slice N gs.length Q]/\Rd w w0.heap.size aJ encU H C/\Rd w w0.heap.size 3 encI Al l/\Own w w0.heap.size 123 3 encG N Q gs/\Kept bV w0.heap.size w0 w) (fun (s:Int×(List Gt)×Nat×Int)=>match s with|(j,gs,t2,s2)=>j.toNat) (aR,[],aS,aT) ?_ ?_
 ·exact ⟨none,0,G.sb,(by simp;omega),(by omega),(by simp),i,o,p,d,f,(Own.nil _ _ _ _ _),B⟩
 rintro ⟨j,gs,t2,s2⟩ a w5 ⟨N,Q,G,hj,bE,aU,i,o,p,d,f,q,B⟩;refine Q5 fun _ aV=>?_;refine Zs G fun _ aW=>?_;refine Zm rfl<|Ze (X2y rfl rfl)<|Zt aW fun a G=>?_
 refine Xi G rfl (fun D=>?_) (fun D=>?_)
 ·have aE:=D;have D:=Q2 D;refine Q7<|aV _ _<|Q5 fun _ aX=>?_;refine Q8<|X04 (some bV) (fun j=>[7,9].contains j) mixed ?_;intro w6 u;have i:=i.bw u;have o:=o.bw u;have p:=p.bw u;have d:=d.bw u;have f:=f.bw u;have q:=q.bw u;have B:=ktr B u;refine Yb G<|Yo 0 rfl (fun _=>Vd rfl Xb9 1) ?_;refine Yw 1 rfl tv0 (fun w1 h1=>X0 rfl Xsi ((p.oz h1 i rfl).at 1)) ?_;refine Yo 2 rfl (fun _=>X3 rfl)<|Yo 3 rfl (fun _=>X3 rfl)<|Yo 4 rfl (fun _=>X3 rfl)<|Y1 5 ?_;refine Yf rfl tv0 (EfW.mono (X1k (vs:=[(pZ9 bV),vi n,.slice Al l.length cl]) rfl Xo8 (Y26 _ bV H W C d.top aK aB t2 s2 i n Al cl l f.top hn aL b4 b6 (by omega))) (fun _ _ h=>⟨fun _=>by obtain ⟨y,aC,aD,rfl,a6,aF,hK,M⟩:=h;exact hK.keep,h⟩)) ?_;rintro _ w7 ⟨y,aC,aD,rfl,a6,aF,hK,M⟩;obtain ⟨wm,L,hm,u⟩:=hK.mid;clear hm;have m:=i;have o:=o.oz L m rfl;have p:=p.oz L m rfl;have d:=d.onlyA L aB;have f:=f.oT L m rfl;have q:=q.oT L m rfl;have B:=B.self L;have o:=o.bw u;have p:=p.bw u;have d:=d.bw u;have f:=f.bw u;have q:=q.bw u;have B:=ktr B u
  clear m u L hK;have i:=M;clear M;refine Y1 6<|Yf rfl tv0 (EfW.mono (Xn (k:=1) (vs:=[.agg #[vi y.k,vi y.a,vi y.b]]) (zs:=[vi y.k,vi y.a,vi y.b]) rfl Xhj Xf0 rfl rfl) (fun _ _ h=>⟨fun _=>by obtain ⟨_,_,_,u,_⟩:=h;exact Keep.of_below u,h⟩)) ?_;rintro _ w8 ⟨bF,rfl,a7,u,a8⟩;have bC:=Q0 B.size a7;have aY:=d.away a7;have U:=q.away a7;have i:=i.bw u;have o:=o.bw u;have p:=p.bw u;have d:=d.bw u;have f:=f.bw u;have q:=q.bw u;have B:=ktr B u;refine Y1 7<|Yt rfl tv0 rfl (X0t (enc:=encG) (l:=(gs)) (l2:=([y])) (B0:=w0.heap.size) rfl rfl Xhj Xf0 Xcy Xk5 q (Rd.of_blk a8 rfl _ a8.lt) (by simp only [maxLen];simp;omega) (by simp;omega) B.size) ?_;rintro _ w9 ⟨aG,aH,rfl,aA,hg,aZ⟩
  have E:Own _ w0.heap.size 123 3 encG _ _ (gs):=q
  have aI:=aZ _ a8.lt U;clear aZ;have i:=i.appT E hg rfl;have o:=o.appT E hg rfl;have p:=p.appT E hg rfl;have d:=d.appB E hg (Qb _);have f:=f.appT E hg rfl;have B:=Kept.app B E hg (Qb _) B.size;clear E hg;refine Yo 8 rfl (fun _=>Vd rfl Xb9 1)<|Y1 9 ?_;refine Yh rfl tv0 rfl (Vu (vs:=[.slice aG (gs++([y])).length aH]) (l':=[vi n,.slice aG (gs++([y])).length aH]) rfl rfl Y0l p) ?_;rintro _ bG ⟨I,hb⟩;have m:=p;have i:=i.oz I m rfl;have o:=o.oy I (by omega);have d:=d.oy I J;have f:=f.oT I m rfl;have aA:=aA.oT I m rfl;have B:=Kept.oy B I J;have p:=hb;refine Yd fun a G=>?_;refine Xa<|aX _ _<|Zr G<|Zm rfl<|Ze (X1h rfl rfl (by omega) (by omega))<|Za rfl ?_;refine Zn fun a G=>?_;refine Xc ?_;exact ⟨(j-1,gs++[y],aC,aD),⟨aG,aH,G.sb,(by simp;omega),(by omega),(Xid aU a6),i,o,p,d,f,aA,B⟩,(by first|omega|(dsimp only;omega))⟩
 have aE:=D;have D:=Q1 D;refine Q9<|Xk<|Xk<|X02 ?_;refine aP _ _<|Zs G fun _ b0=>?_;refine Ze (Vn Xsz p)<|Zo (Vw [vi n,.slice N gs.length Q] Xu2 o) ?_;rintro _ bH ⟨I,hb⟩;have m:=o;have i:=i.oz I m rfl;have q:=q.oT I m rfl;have B:=Kept.oy B I aN;have o:=hb;refine Zt b0 fun a G=>?_
 refine Q6 (X6 G (Xp G rfl (ResV.cellN (l:=[vi n,.slice N gs.length Q]) rfl Xsz (o.at 0) rfl)) ?_)
 exact ⟨⟨n,gs⟩,N,Q,_,_,rfl,⟨rfl,(by show (gs.length:Int)<=most;omega),aU⟩,⟨by omega,by omega⟩,q,B,i⟩
end Go.Proofs.YtpifljegadknkaaGreat
namespace Go.Proofs.YtpifljegadknkaaGreat
section
end
end Go.Proofs.YtpifljegadknkaaGreat
namespace Go.Proofs.YtpifljegadknkaaGreat
open Go
end Go.Proofs.YtpifljegadknkaaGreat
namespace Go.Proofs.YtpifljegadknkaaGreat
open Go.RowKit
section
end
section
end
section
end
end Go.Proofs.YtpifljegadknkaaGreat
namespace Go.Proofs.YtpifljegadknkaaGreat
def cmI(x y:Int) : Int:=if x<y then -1 else if y<x then 1 else 0
def idxF{α:Type}(l:List α)(q:α->Bool) : Int:=match l.findIdx? q with
 | some k=>(k:Int)
 | none=>-1
theorem X8t{α:Type}{q:α->Bool} : ∀ {l:List α} {k:Nat} {u:α},((l.take k).all fun x=>!q x)=true->l[k]? = some u->q u=true->idxF l q=(k:Int):=by
 intro l k u h1 h2 h3;obtain ⟨h4,h5⟩:=Qg.1 h2
 have:l.findIdx? q=some k:=by
  rw [List.findIdx?_eq_some_iff_getElem]
  refine ⟨h4,by rw [h5];exact h3,fun j hj=>?_⟩
  have:=W1.1 h1 l[j] (by rw [List.mem_iff_getElem];exact ⟨j,by simp;omega,by simp⟩)
  simpa using this
 unfold idxF;rw [this]
end Go.Proofs.YtpifljegadknkaaGreat
namespace Go.Proofs.YtpifljegadknkaaGreat
open Go.RowKit
theorem Xza(w0:World)(x:Int) : Ret Tryz.prog 194 [vi x] w0 (fun v w=>v=.bool false/\w0=w):=by
 refine enter Tryz.func194 rfl 6 rfl rfl ?_;intro a hf
 have hW:=bz w0
 refine Zs hf fun _ a6=>?_;refine Za rfl<|Zx a6 fun a hf _ a7=>?_;refine Zm rfl<|Zm rfl<|Ze (X1e rfl rfl)<|Za rfl<|Zt a7 fun a hf=>?_
 refine Q6 (X6 hf (Xp hf rfl rfl) ?_)
 exact ⟨by simp,rfl⟩
theorem Xh4(w0:World)(x:Int)(y:Int) : Ret Tryz.prog 150 [vi x,vi y] w0 (fun v w=>v=vi (cmI x y)/\w0=w):=by
 refine enter Tryz.func150 rfl 20 rfl rfl ?_;intro a d
 have hW:=bz w0
 refine Zs d fun _ aF=>?_;refine Za rfl<|Zx aF fun a d _ aG=>?_;refine Zm rfl<|Zf (Vc (Xza _ x) Xl9) ?_;rintro _ _ ⟨rfl,rfl⟩;refine Za rfl<|Zx aG fun a d _ aH=>?_;refine Zm rfl<|Zf (Vc (Xza _ y) Xl9) ?_;rintro _ _ ⟨rfl,rfl⟩;refine Za rfl<|ZX aH fun a d _ aI=>?_;refine Zs d fun _ aJ=>?_;refine Zm rfl<|Zt aJ fun a d=>?_;refine Xbu d rfl ?_;refine Q7<|aI _ _<|Q5 fun _ aK=>?_;refine Zs d fun _ aL=>?_;refine Zm rfl<|Zt aL fun a d=>?_;refine Xbu d rfl ?_;refine Q7<|aK _ _<|Q5 fun _ aM=>?_;refine Zs d fun _ aN=>?_;refine Zm rfl<|Zm rfl<|Ze (X0n rfl rfl)<|Zt aN fun a d=>?_
 refine Xi d rfl (fun b=>?_) (fun b=>?_)
 ·have a6:=b;have b:=Q2 b
  have e:cmI x y = -1:=by rw [cmI,Q4 b]
  refine Zs d fun _ a8=>?_;refine Za rfl<|Zt a8 fun a d=>?_;refine Q6<|X8<|X6 d (Xp d rfl rfl) ?_;exact ⟨by rw [e],rfl⟩
 have a6:=b;have b:=Q1 b;have aA:=b;refine Q7<|aM _ _<|Q5 fun _ aB=>?_;refine Zs d fun _ aC=>?_;refine Zm rfl<|Zm rfl<|Ze (X2y rfl rfl)<|Zt aC fun a d=>?_
 refine Xi d rfl (fun c=>?_) (fun c=>?_)
 ·have a7:=c;have c:=Q2 c
  have e:cmI x y=1:=by rw [cmI,Q3 aA,Q4 c]
  refine Zs d fun _ aD=>?_;refine Za rfl<|Zt aD fun a d=>?_;refine Q6<|X8<|X6 d (Xp d rfl rfl) ?_;exact ⟨by rw [e],rfl⟩
 have a7:=c;have c:=Q1 c
 have e:cmI x y=0:=by rw [cmI,Q3 aA,Q3 c]
 refine Q7<|aB _ _<|Zs d fun _ aE=>?_;refine Za rfl<|Zt aE fun a d=>?_
 refine Q6 (X6 d (Xp d rfl rfl) ?_)
 exact ⟨by rw [e],rfl⟩
theorem Xn6(w0:World)(x:Int)(y:Int) : Ret Tryz.prog 186 [vi x,vi y] w0 (fun v w=>v=vi (min x y)/\Below w0.heap.size w0 w):=by
 refine enter Tryz.func186 rfl 10 rfl rfl ?_;intro a c
 have hW:=bz w0
 refine Zs c fun _ a7=>?_;refine Za rfl<|ZX a7 fun a c _ a8=>?_;refine Zs c fun _ aA=>?_;refine Zm rfl<|Zm rfl<|Ze (X0n rfl rfl)<|Zt aA fun a c=>?_
 refine Xi c rfl (fun b=>?_) (fun b=>?_)
 ·have a6:=b;have b:=Q2 b;refine Zs c fun _ aB=>?_;refine Zm rfl<|Za rfl<|Zt aB fun a c=>?_;refine Q6<|X8<|X6 c (Xp c rfl rfl) ?_;exact ⟨by rw [Int.min_eq_left (by omega)],hW⟩
 have a6:=b;have b:=Q1 b;refine Q7<|a8 _ _<|Zs c fun _ aC=>?_;refine Zm rfl<|Za rfl<|Zt aC fun a c=>?_
 refine Q6 (X6 c (Xp c rfl rfl) ?_)
 exact ⟨by rw [Int.min_eq_right (by omega)],hW⟩
theorem Y3z(d:World){a6 a7:TypeId}(Ap:Option Addr)(cp:Nat)(p:List Int)(aB:Rd d d.heap.size a6 encU Ap p)(Aq:Option Addr)(cq:Nat)(q:List Int)(aC:Rd d d.heap.size a7 encU Aq q) : Ret Tryz.prog 12 [.slice Ap p.length cp,.slice Aq q.length cq] d (fun v w=>v=.bool (decide (1048576<(p.length:Int))||decide (wr (1048576-(p.length:Int))<(q.length:Int)))/\Below d.heap.size d w):=by
 refine enter Tryz.func12 rfl 16 rfl rfl ?_;intro a c
 have hW:=bz d
 refine Zs c fun _ a8=>?_;refine Za rfl<|ZX a8 fun a c _ aA=>?_;refine X0a (fun a w=>Fr a 16 [(4,.bool ((decide (1048576<(p.length:Int)))||(decide ((wr (1048576-(p.length:Int)))<(q.length:Int)))))]/\d=w) ?_ ?_
 ·refine Zr c<|Zm rfl<|Ze (X09 rfl X4j)<|Ze (X2y rfl rfl)<|Zm rfl ?_
  refine Zg 8 rfl (fun b=>?_) (fun b=>?_)
  ·(iterate 6 refine Zp (gP b) ?_);refine Ze (X5 rfl b rfl)<|Za rfl ?_;refine Zn fun a c=>?_;exact ⟨c.sub ⟨X1 rfl (by simp [b]),trivial⟩,rfl⟩
  refine Zv (gW b) (X3 rfl) ?_;refine Zv (gW b) (X09 rfl X4j) ?_;refine Zv (gW b) (X3 rfl) ?_;refine Zv (gW b) (X09 rfl X4j) ?_;refine Zv (gW b) (X9m rfl rfl) ?_;refine Zv (gW b) (X2y rfl rfl) ?_;refine Ze (Xb rfl b rfl)<|Za rfl ?_;refine Zn fun a c=>?_;exact ⟨c.sub ⟨X1 rfl (by simp [b]),trivial⟩,rfl⟩
 rintro a _ ⟨c,rfl⟩;refine aA _ _ ?_
 refine Q6 (X6 c (Xp c rfl rfl) ?_)
 exact ⟨rfl,hW⟩
theorem gapp{α:Type}{w0 w w':World}{R:Option Nat}{E:TypeId}{sz c:Nat}{enc:α->List Value}{A:Option Addr}{l:List α}(h:w0.grownBy w R)(ho:Own w w0.heap.size E sz enc A c l)(hg:w.grownBy w' (Value.slice A l.length c).ownBlock) : w0.grownBy w' R:=
 ⟨hg.os.trans h.os,hg.tape.trans h.tape,hg.output.trans h.output,Q0 h.size hg.size,fun k hk h1=>(hg.block k (Nat.lt_of_lt_of_le hk h.size) (fun e=>by have:=(ho.block e.symm).1;omega)).trans (h.block k hk h1)⟩
structure Nd where
 k:Int
 p:Int
deriving DecidableEq
structure Wr where
 a:Int
 b:Int
 h:Bool
deriving DecidableEq
structure Dg where
 n:Int
 ns:List Nd
 ws:List Wr
 t:Int
 r:Int
deriving DecidableEq
def nZ:Nd:=⟨0,0⟩
def wZ:Wr:=⟨0,0,false⟩
def encNd(x:Nd) : List Value:=[.int .i64 x.k,.int .i64 x.p]
def encWr(x:Wr) : List Value:=[.int .i64 x.a,.int .i64 x.b,.bool x.h]
theorem Xv:∀ x,(encNd x).length=2:=fun _=>rfl
theorem X33:∀ x,(encNd x).all one=true:=fun _=>rfl
theorem Xy:∀ x,(encWr x).length=3:=fun _=>rfl
theorem X1p:∀ x,(encWr x).all one=true:=fun _=>rfl
def wlt(x y:Wr) : Bool:=decide (x.a<y.a)||(x.a==y.a&&decide (x.b<y.b))
abbrev WSd(l:List Wr) : Prop:=l.Pairwise fun x y=>wlt x y=true
theorem X3y{x y:Wr} : wlt x y=true↔x.a<y.a∨(x.a=y.a/\x.b<y.b):=by unfold wlt;simp
theorem X5i{x y:Wr} : wlt x y=false↔y.a<x.a∨(x.a=y.a/\y.b<=x.b):=by
 have h:=@X3y x y
 cases hw:wlt x y with
 | true=>simp only [Bool.true_eq_false,false_iff];have:=h.1 hw;omega
 | false=>
  simp only [true_iff]
  have h2:¬ (x.a<y.a∨(x.a=y.a/\x.b<y.b)):=fun h9=>by rw [h.2 h9] at hw;cases hw
  omega
theorem Xem{x y z:Wr}(h1:wlt x y=true)(h2:wlt y z=true) : wlt x z=true:=by rw [X3y] at *;omega
def isW(a b:Int)(w:Wr) : Bool:=w.a==min a b&&w.b==max a b
theorem X1w{a b:Int}{w:Wr} : isW a b w=true↔w.a=min a b/\w.b=max a b:=by unfold isW;simp
def fdW(l:List Wr)(a b:Int) : Int:=idxF l (isW a b)
theorem Xlr(a b:Int)(w:Wr) : isW a b w=isW b a w:=by unfold isW;rw [Int.min_comm,Int.max_comm]
theorem Xfc(l:List Wr)(a b:Int) : fdW l a b=fdW l b a:=by
 unfold fdW
 rw [show isW a b=isW b a from funext (Xlr a b)]
theorem X4i{α:Type}(l:List α)(q:α->Bool) : (idxF l q = -1/\∀ x ∈ l,q x=false)∨∃ k:Nat,∃ x,idxF l q=(k:Int)/\l[k]? = some x/\q x=true:=by
 unfold idxF
 cases h:l.findIdx? q with
 | none=>exact .inl ⟨rfl,fun x hx=>by have:=List.findIdx?_eq_none_iff.1 h x hx;simpa using this⟩
 | some k=>
  obtain ⟨h1,h2,_⟩:=List.findIdx?_eq_some_iff_getElem.1 h;exact .inr ⟨k,l[k],rfl,Qc h1,h2⟩
theorem X4d(l:List Wr)(a b:Int) : (fdW l a b = -1/\∀ w ∈ l,isW a b w=false)∨∃ k:Nat,∃ w,fdW l a b=(k:Int)/\l[k]? = some w/\isW a b w=true:=X4i l (isW a b)
theorem Xso{l:List Wr}{a b:Int}(h:∀ w ∈ l,isW a b w=false) : fdW l a b = -1:=by
 rcases X4d l a b with h1|⟨k,w,_,h2,h3⟩
 ·exact h1.1
 ·rw [h w (Qe h2)] at h3;cases h3
theorem Xdz{l:List Wr}{a b:Int}(h:fdW l a b<0) : ∀ w ∈ l,isW a b w=false:=by
 rcases X4d l a b with h1|⟨k,w,h1,_⟩
 ·exact h1.2
 ·omega
def insW:List Wr->Wr->List Wr
 | [],x=>[x]
 | y::l,x=>if wlt y x=true then y::insW l x else x::y::l
def jnW(l:List Wr)(a b:Int)(h:Bool) : List Wr:=insW l ⟨min a b,max a b,h⟩
def ctW(l:List Wr)(i:Nat) : List Wr:=l.take i++l.drop (i+1)
def tyW(l:List Wr)(a b:Int) : Int:=if fdW l a b<0 then 0 else if (l.getD (fdW l a b).toNat wZ).h=true then 2 else 1
theorem X88(l:List Wr)(a b:Int) : tyW l a b=tyW l b a:=by unfold tyW;rw [Xfc]
theorem Xfi:∀ (l:List Wr) (x:Wr),(insW l x).length=l.length+1
 | [],x=>rfl
 | y::l,x=>by
  unfold insW
  split
  ·rw [Qs,Xfi l x];rfl
  ·rfl
theorem Xbb{z:Wr} : ∀ {l:List Wr} {x:Wr},z ∈ insW l x↔z=x∨z ∈ l
 | [],x=>by simp [insW]
 | y::l,x=>by
  unfold insW
  split
  ·rw [Qv,Xbb (l:=l),Qv]
   constructor
   ·rintro (h|h|h)
    ·exact .inr (.inl h)
    ·exact .inl h
    ·exact .inr (.inr h)
   ·rintro (h|h|h)
    ·exact .inr (.inl h)
    ·exact .inl h
    ·exact .inr (.inr h)
  ·rw [Qv,Qv]
theorem Xla:∀ (l:List Wr) (x:Wr) (k:Nat),((l.take k).all fun y=>wlt y x)=true->(∀ y,l[k]? = some y->wlt y x=false)->insW l x=l.take k++[x]++l.drop k
 | [],x,k,_,_=>by simp [insW]
 | y::l,x,0,_,h=>by
  have h:=h y rfl
  unfold insW
  rw [Q3 (by rw [h];decide)]
  rfl
 | y::l,x,k+1,ha,h=>by
  simp only [List.take_succ_cons,List.all_cons,Qd] at ha
  have ih:=Xla l x k ha.2 (fun z hz=>h z (by simpa using hz))
  unfold insW
  rw [Q4 ha.1,ih]
  simp
theorem Xe9:∀ {l:List Wr} {x:Wr},WSd l->(∀ y ∈ l,¬ (y.a=x.a/\y.b=x.b))->WSd (insW l x)
 | [],x,_,_=>by simp [insW]
 | y::l,x,hl,hx=>by
  have hl':=W8.1 hl
  unfold insW
  split
  ·rename_i hy
   refine W8.2 ⟨fun z hz=>?_,Xe9 hl'.2 fun z hz=>hx z (by simp [hz])⟩
   rcases Xbb.1 hz with rfl|hz
   ·exact hy
   ·exact hl'.1 z hz
  ·rename_i hy
   have hxy:wlt x y=true:=by
    rw [Bool.not_eq_true] at hy
    have h1:=X5i.1 hy
    have h2:=hx y (by simp)
    rw [X3y]
    omega
   refine W8.2 ⟨fun z hz=>?_,hl⟩
   rcases Qv.1 hz with rfl|hz
   ·exact hxy
   ·exact Xem hxy (hl'.1 z hz)
theorem X9e{l:List Wr}{a b:Int}{h:Bool}(hl:WSd l)(hf:fdW l a b<0) : WSd (jnW l a b h):=
 Xe9 hl fun y hy h9=>by
  have:=Xdz hf y hy
  rw [X1w.2 h9] at this
  cases this
theorem X6c{z:Wr}{l:List Wr}{a b:Int}{h:Bool} : z ∈ jnW l a b h↔z=⟨min a b,max a b,h⟩∨z ∈ l:=Xbb
theorem X3f(l:List Wr)(i:Nat) : (ctW l i).Sublist l:=by
 unfold ctW
 rw [<- List.eraseIdx_eq_take_drop_succ]
 exact List.eraseIdx_sublist l i
theorem Xdp{l:List Wr}(hl:WSd l)(i:Nat) : WSd (ctW l i):=hl.sublist (X3f l i)
theorem Xxi{l:List Wr}{i:Nat}(h:i<l.length) : (ctW l i).length+1=l.length:=by
 unfold ctW
 rw [Qh,Qn,List.length_drop]
 omega
theorem Xe7{l:List Wr}(hl:WSd l){i j:Nat}{x y:Wr}(hi:l[i]? = some x)(hj:l[j]? = some y)(ha:x.a=y.a)(hb:x.b=y.b) : i=j:=by
 obtain ⟨h1,rfl⟩:=Qg.1 hi;obtain ⟨h2,rfl⟩:=Qg.1 hj;have hp:=W0.1 hl
 rcases Nat.lt_trichotomy i j with h|h|h
 ·have:=hp i j h1 h2 h;rw [X3y] at this;omega
 ·exact h
 ·have:=hp j i h2 h1 h;rw [X3y] at this;omega
theorem Xh2{l:List Wr}(hl:WSd l){a b:Int}{i:Nat}{w:Wr}(hi:l[i]? = some w)(hw:isW a b w=true) : fdW (ctW l i) a b = -1:=by
 refine Xso fun z hz=>?_
 cases hq:isW a b z with
 | false=>rfl
 | true=>
  exfalso
  have e1:=X1w.1 hw
  have e2:=X1w.1 hq
  unfold ctW at hz
  rcases Qu.1 hz with h|h
  ·obtain ⟨j,hj⟩:=List.mem_iff_getElem?.1 h
   rw [List.getElem?_take] at hj
   split at hj
   ·have:=Xe7 hl hi hj (by omega) (by omega);omega
   ·cases hj
  ·obtain ⟨j,hj⟩:=List.mem_iff_getElem?.1 h
   rw [List.getElem?_drop] at hj
   have:=Xe7 hl hi hj (by omega) (by omega);omega
def spI(ns:List Nd)(k:Int) : Bool:=inR k 0 ((ns.length:Int)-1)&&(ns.getD k.toNat nZ).k==3
def adN(ns:List Nd)(k by_:Int) : List Nd:=ns.set k.toNat ⟨(ns.getD k.toNat nZ).k,((ns.getD k.toNat nZ).p+by_) % 8⟩
def dpN(ns:List Nd)(k:Int) : List Nd:=ns.set k.toNat nZ
def dpW(ws:List Wr)(k:Int) : List Wr:=ws.filter fun w=>w.a != k&&w.b != k
theorem X1r(ns:List Nd)(k m:Int) : (adN ns k m).length=ns.length:=List.length_set
theorem X1j(ns:List Nd)(k:Int) : (dpN ns k).length=ns.length:=List.length_set
def otW(k:Int)(w:Wr) : Option Int:=if k=w.a then some w.b else if k=w.b then some w.a else none
def nearW(ws:List Wr)(k:Int) : List Int:=ws.filterMap (otW k)
structure InW (ws:List Wr) : Prop where
 s:WSd ws
 l:∀ w ∈ ws,w.a<w.b
theorem X35{k v:Int}{w:Wr}(h:otW k w=some v) : (k=w.a/\v=w.b)∨(k=w.b/\v=w.a):=by
 unfold otW at h
 split at h
 ·injection h with h;exact .inl ⟨by assumption,h.symm⟩
 ·split at h
  ·injection h with h;exact .inr ⟨by assumption,h.symm⟩
  ·cases h
theorem Xnl{ws:List Wr}(h:InW ws){k x v:Int}{i j:Nat}{w' w:Wr}(hi:ws[i]? = some w')(hj:ws[j]? = some w)(hij:i<j)(h1:otW k w'=some x)(h2:otW k w=some v) : x<v:=by
 obtain ⟨e1,e1'⟩:=Qg.1 hi;obtain ⟨e2,e2'⟩:=Qg.1 hj;have hp:=W0.1 h.s i j e1 e2 hij
 have l1:=h.l w' (Qe hi)
 have l2:=h.l w (Qe hj)
 rw [e1',e2',X3y] at hp
 rcases X35 h1 with ⟨a1,a2⟩|⟨a1,a2⟩<;>rcases X35 h2 with ⟨b1,b2⟩|⟨b1,b2⟩<;>omega
theorem X2g{k:Int} : ∀ {ws:List Wr},InW ws->Inc (nearW ws k)
 | [],_=>List.Pairwise.nil
 | w::ws,h=>by
  have h':InW ws:=⟨(W8.1 h.s).2,fun x hx=>h.l x (by simp [hx])⟩
  have ih:=X2g (k:=k) h'
  unfold nearW at *
  rw [List.filterMap_cons]
  cases hw:otW k w with
  | none=>exact ih
  | some v=>
   refine W8.2 ⟨fun x hx=>?_,ih⟩
   obtain ⟨w',hw',he⟩:=List.mem_filterMap.1 hx;obtain ⟨j,hj⟩:=List.mem_iff_getElem?.1 hw';exact Xnl h (i:=0) (j:=j+1) rfl (by simpa using hj) (by omega) hw he
theorem Xgp:∀ {l:List Int} {v:Int},(∀ x ∈ l,x<v)->putI l v=l++[v]
 | [],v,_=>rfl
 | x::l,v,h=>by
  unfold putI
  rw [Q4 (h x (by simp)),Xgp fun y hy=>h y (by simp [hy])]
  rfl
theorem X7s{ws:List Wr}{k:Int}{j:Nat}{w:Wr}(hj:ws[j]? = some w) : nearW (ws.take (j+1)) k=nearW (ws.take j) k++(otW k w).toList:=by
 unfold nearW
 rw [Qt,hj,Option.toList_some,List.filterMap_append]
 cases h:otW k w<;>simp [h]
theorem Xai{ws:List Wr}{k:Int}{j:Nat}{w:Wr}(hj:ws[j]? = some w)(h1:(k==w.a)=false)(h2:(k==w.b)=false) : nearW (ws.take (j+1)) k=nearW (ws.take j) k:=by
 have e1:¬ k=w.a:=by simpa using h1
 have e2:¬ k=w.b:=by simpa using h2
 rw [X7s hj]
 unfold otW
 rw [Q3 e1,Q3 e2]
 simp
theorem Xcr{ws:List Wr}{k:Int}{j:Nat}{w:Wr}(hj:ws[j]? = some w)(h1:(k==w.a)=true) : nearW (ws.take (j+1)) k=nearW (ws.take j) k++[w.b]:=by
 have e1:k=w.a:=by simpa using h1
 rw [X7s hj]
 unfold otW
 rw [Q4 e1]
 rfl
theorem Xdo{ws:List Wr}{k:Int}{j:Nat}{w:Wr}(hj:ws[j]? = some w)(h1:(k==w.a)=false)(h2:(k==w.b)=true) : nearW (ws.take (j+1)) k=nearW (ws.take j) k++[w.a]:=by
 have e1:¬ k=w.a:=by simpa using h1
 have e2:k=w.b:=by simpa using h2
 rw [X7s hj]
 unfold otW
 rw [Q3 e1,Q4 e2]
 rfl
theorem Xco{ws:List Wr}(h:InW ws){k v:Int}{j:Nat}(hj:nearW (ws.take (j+1)) k=nearW (ws.take j) k++[v]) : putI (nearW (ws.take j) k) v=nearW (ws.take j) k++[v]:=by
 have hi:=X2g (k:=k) (ws:=ws.take (j+1)) ⟨h.s.sublist (List.take_sublist _ _),fun w hw=>h.l w (Wd hw)⟩
 rw [hj] at hi
 refine Xgp fun x hx=>?_;exact (List.pairwise_append.1 hi).2.2 x hx v (by simp)
theorem X1y(ws:List Wr)(k:Int) : (nearW ws k).length<=ws.length:=List.length_filterMap_le _ _
theorem X3b{ws:List Wr}{k v:Int} : v ∈ nearW ws k↔∃ w ∈ ws,otW k w=some v:=List.mem_filterMap
theorem X72{α:Type}{l:List α}{q:α->Bool}{k:Nat}{u:α}(h:((l.take k).all fun x=>!q x)=true)(hu:l[k]? = some u)(hq:q u=false) : ((l.take (k+1)).all fun x=>!q x)=true:=by
 rw [Qt,hu,Option.toList_some,List.all_append,h]
 simp [hq]
theorem X9j{α:Type}{l:List α}{q:α->Bool}{k:Nat}(h:((l.take k).all fun x=>!q x)=true)(hk:l.length<=k) : idxF l q = -1:=by
 rw [Qi hk] at h
 rcases X4i l q with h1|⟨j,x,_,h2,h3⟩
 ·exact h1.1
 ·have:=W1.1 h x (Qe h2)
  rw [h3] at this
  cases this
theorem X49{l:List Wr}{a b:Int}(h:0<=fdW l a b) : ∃ w,l[(fdW l a b).toNat]? = some w/\isW a b w=true/\(fdW l a b).toNat<l.length:=by
 rcases X4d l a b with ⟨h1,_⟩|⟨k,w,h1,h2,h3⟩
 ·omega
 ·rw [h1]
  exact ⟨w,h2,h3,(Qg.1 h2).1⟩
theorem Xaf(l:List Wr)(a b:Int) : fdW l a b<l.length:=by
 rcases X4d l a b with ⟨h1,_⟩|⟨k,w,h1,h2,_⟩
 ·omega
 ·have:=(Qg.1 h2).1;omega
theorem X3u(l:List Wr)(a b:Int)(h:Bool) : (jnW l a b h).length=l.length+1:=Xfi _ _
theorem Xg{α:Type}{l:List α}{k:Nat}{d:α}(h:k<l.length) : l[k]? = some (l.getD k d):=by
 rw [Qa,Qc h]
 rfl
theorem Xrr{α:Type}{l:List α}{k:Nat}{d:α}(h:decide ((k:Int)<(l.length:Int))=true) : l[k]? = some (l.getD k d):=Xg (by simpa using h)
theorem Xqo{l:List Wr}{x:Wr}{k:Nat}(ha:((l.take k).all fun y=>wlt y x)=true)(h:(decide ((k:Int)<(l.length:Int))&&wlt (l.getD k wZ) x)=false) : insW l x=l.take k++[x]++l.drop k:=by
 refine Xla l x k ha fun y hy=>?_;have h1:=(Qg.1 hy).1
 have e:l.getD k wZ=y:=by rw [Qa,hy];rfl
 rw [e,decide_eq_true (by omega),Qw] at h
 exact h
theorem Xoz{l:List Wr}{x:Wr}{k:Nat}(ha:((l.take k).all fun y=>wlt y x)=true)(h:(decide ((k:Int)<(l.length:Int))&&wlt (l.getD k wZ) x)=true) : ((l.take (k+1)).all fun y=>wlt y x)=true/\k+1<=l.length:=by
 rw [Qd,Qr] at h
 have hk:k<l.length:=by omega
 refine ⟨?_,by omega⟩
 rw [Qt,Xg (d:=wZ) hk,Option.toList_some,List.all_append,ha,List.all_cons,h.2]
 rfl
def lkD(d:Dg)(a b:Int)(h:Bool) : Dg:=
 if fdW d.ws a b<0 then { d with ws:=jnW d.ws a b h }
 else if ((d.ws.getD (fdW d.ws a b).toNat wZ).h&&h)=true then { d with ws:=ctW d.ws (fdW d.ws a b).toNat,r:=wr (d.r-2) }
 else if ((d.ws.getD (fdW d.ws a b).toNat wZ).h != h)=true then { d with ns:=adN d.ns (min a b) 4,ws:=jnW (ctW d.ws (fdW d.ws a b).toNat) a b false,r:=wr (d.r-1) }
 else d
def tgD(d:Dg)(a b:Int) : Dg:=
 if 0<=fdW d.ws a b then { d with ws:=ctW d.ws (fdW d.ws a b).toNat,r:=wr (d.r-1) } else { d with ws:=jnW d.ws a b true,r:=wr (d.r+1) }
def mtD(d:Dg)(a b:Int)(h:Bool) : Dg:=if (spI d.ns a&&spI d.ns b)=true then lkD d a b h else { d with ws:=jnW d.ws a b h }
theorem Y0y{d:Dg}{a b:Int}(h:0<=fdW d.ws a b) : tgD d a b = { d with ws:=ctW d.ws (fdW d.ws a b).toNat,r:=wr (d.r-1) }:=Q4 h
theorem Y2j{d:Dg}{a b:Int}(h:¬ 0<=fdW d.ws a b) : tgD d a b = { d with ws:=jnW d.ws a b true,r:=wr (d.r+1) }:=Q3 h
theorem Y0r{d:Dg}{a b:Int}{h:Bool}(h1:fdW d.ws a b<0) : lkD d a b h = { d with ws:=jnW d.ws a b h }:=Q4 h1
theorem Y3j{d:Dg}{a b:Int}{h:Bool}(h1:¬ fdW d.ws a b<0)(h2:((d.ws.getD (fdW d.ws a b).toNat wZ).h&&h)=true) : lkD d a b h = { d with ws:=ctW d.ws (fdW d.ws a b).toNat,r:=wr (d.r-2) }:=by
 unfold lkD;rw [Q3 h1,Q4 h2]
theorem Xw7{d:Dg}{a b:Int}{h:Bool}(h1:¬ fdW d.ws a b<0)(h2:((d.ws.getD (fdW d.ws a b).toNat wZ).h&&h)=false)(h3:((d.ws.getD (fdW d.ws a b).toNat wZ).h != h)=true) : lkD d a b h = { d with ns:=adN d.ns (min a b) 4,ws:=jnW (ctW d.ws (fdW d.ws a b).toNat) a b false,r:=wr (d.r-1) }:=by
 unfold lkD;rw [Q3 h1,Q3 (by rw [h2];decide),Q4 h3]
theorem Y21{d:Dg}{a b:Int}{h:Bool}(h1:¬ fdW d.ws a b<0)(h2:((d.ws.getD (fdW d.ws a b).toNat wZ).h&&h)=false)(h3:((d.ws.getD (fdW d.ws a b).toNat wZ).h != h)=false) : lkD d a b h=d:=by
 unfold lkD;rw [Q3 h1,Q3 (by rw [h2];decide),Q3 (by rw [h3];decide)]
theorem Xz2{d:Dg}{a b:Int}{h:Bool}(h1:(spI d.ns a&&spI d.ns b)=true) : mtD d a b h=lkD d a b h:=Q4 h1
theorem Y03{d:Dg}{a b:Int}{h:Bool}(h1:(spI d.ns a&&spI d.ns b)=false) : mtD d a b h = { d with ws:=jnW d.ws a b h }:=Q3 (by rw [h1];decide)
theorem X3e{α:Type}{l:List α}{q:α->Bool}{j:Nat}{u:α}(hu:l[j]? = some u) : (l.take (j+1)).filter q=(l.take j).filter q++(if q u=true then [u] else []):=by
 rw [Qt,hu,Option.toList_some,List.filter_append]
 cases h:q u<;>simp [h]
theorem Xm8{α:Type}{l:List α}{q:α->Bool}{k:Nat}{u:α}(h:(l.take k).all q=true)(hu:l[k]? = some u)(hq:q u=true) : (l.take (k+1)).all q=true:=by
 rw [Qt,hu,Option.toList_some,List.all_append,h]
 simp [hq]
theorem Xnh{α:Type}{l:List α}{q:α->Bool}{k:Nat}{u:α}(hu:l[k]? = some u)(hq:q u=false) : l.all q=false:=by
 rw [List.all_eq_false]
 exact ⟨u,Qe hu,by rw [hq];decide⟩
theorem Xfb{α:Type}{l:List α}{q:α->Bool}{k:Nat}(h:(l.take k).all q=true)(hk:l.length<=k) : l.all q=true:=by rwa [Qi hk] at h
def rdQ(d:Dg)(l:List Int)(i:Nat) : Bool:=spI d.ns (l.getD i 0)&&(l.take i).all fun y=>tyW d.ws (l.getD i 0) y != 1
def rdyD(d:Dg)(l:List Int) : Bool:=(List.range l.length).all (rdQ d l)
def othW(ws:List Wr)(k c:Int) : List Int:=(nearW ws k).filter fun v=>v != c
def hadD(d:Dg)(k:Int) : Bool:=(nearW d.ws k).all fun v=>tyW d.ws k v==2
theorem X5e{q:Nat->Bool}{n k:Nat}(hk:k<n)(hq:q k=false) : (List.range n).all q=false:=by
 rw [List.all_eq_false]
 exact ⟨k,W2.2 hk,by rw [hq];decide⟩
theorem X4s{q:Nat->Bool}{n:Nat}(h:∀ j,j<n->q j=true) : (List.range n).all q=true:=W1.2 fun j hj=>h j (W2.1 hj)
theorem Xn9{N:Nat}{w w':World}{A:Option Addr}{n c:Nat}(hg:w.grownBy w' (Value.slice A n c).ownBlock)(hb:∀ k,ownB A=some k->N<=k) : Keep (some (.base N)) w w':=
 ⟨hg.os,hg.tape,hg.output,hg.size,fun k hk=>hg.block k (by omega) fun e=>by rw [X4u] at e;have:=hb k e.symm;omega⟩
theorem Xaa{N:Nat}{w w':World}{A:Option Addr}{n c:Nat}(hg:w.grownBy w' (Value.slice A n c).ownBlock)(hb:∀ k,ownB A=some k->N<=k)(hN:N<=w.heap.size) : Below N w w':=
 ⟨hg.os,hg.tape,hg.output,hg.size,fun k hk=>hg.block k (by omega) fun e=>by rw [X4u] at e;have:=hb k e.symm;omega⟩
def PhN(ns:List Nd) : Prop:=∀ x ∈ ns,0<=x.p/\x.p<=7
theorem X1l{ns:List Nd}(h:PhN ns)(k:Nat) : 0<=(ns.getD k nZ).p/\(ns.getD k nZ).p<=7:=by
 rw [Qa]
 cases hk:ns[k]? with
 | none=>exact ⟨by decide,by decide⟩
 | some x=>exact h x (Qe hk)
theorem Xeg{ns:List Nd}(h:PhN ns)(k:Nat){x:Nd}(hx:0<=x.p/\x.p<=7) : PhN (ns.set k x):=fun y hy=>by
 rcases List.mem_or_eq_of_mem_set hy with h1|h1
 ·exact h y h1
 ·rw [h1];exact hx
theorem X61{ns:List Nd}(h:PhN ns)(k m:Int) : PhN (adN ns k m):=Xeg h _ ⟨by show 0<=_ % 8;omega,by show _ % 8<=7;omega⟩
theorem X55{ns:List Nd}(h:PhN ns)(k:Int) : PhN (dpN ns k):=Xeg h _ ⟨by decide,by decide⟩
theorem Xlw{n:Nat}{p q:Int}(h:(0<=p/\p.toNat<n)/\(0<=q/\q.toNat<n)) : 0<=min p q/\(min p q).toNat<n:=by
 rcases Int.le_total p q with h1|h1
 ·rw [Int.min_eq_left h1];exact h.1
 ·rw [Int.min_eq_right h1];exact h.2
theorem Y4t{ns:List Nd}(h:PhN ns)(k:Nat){m:Int}(h0:0<=m)(h1:m<=900) : 0<=(ns.getD k nZ).p+m/\(ns.getD k nZ).p+m<=1000:=by have:=X1l h k;omega
theorem tm8{x:Int}(h:0<=x) : x.tmod 8=x % 8:=Int.tmod_eq_emod_of_nonneg h
theorem Y4l{x:Int}(h:0<=x+8) : (x+8).tmod 8=x % 8:=by rw [Int.tmod_eq_emod_of_nonneg h];omega
theorem X0f{ns:List Nd}{k:Int}(h:spI ns k=true) : 0<=k/\k.toNat<ns.length/\(ns.getD k.toNat nZ).k=3:=by
 unfold spI at h
 rw [Qd] at h
 have h1:=X0o.1 h.1;exact ⟨h1.1,by omega,by simpa using h.2⟩
theorem Xa0{ns:List Nd}(a m k:Int) : spI (adN ns a m) k=spI ns k:=by
 unfold spI
 rw [X1r]
 congr 2
 unfold adN
 rw [Qa,Qa,List.getElem?_set]
 split
 ·rename_i h
  split
  ·rename_i h2
   rw [<- h,Qc h2]
   simp [Qa,h2]
  ·rename_i h2
   rw [Qa,List.getElem?_eq_none (l:=ns) (i:=k.toNat) (by omega)]
 ·rw [Qa]
theorem Xto(w0:World)(x:Wr)(y:Wr) : Ret Tryz.prog 106 [.agg #[vi x.a,vi x.b,.bool x.h],.agg #[vi y.a,vi y.b,.bool y.h]] w0 (fun v w=>v=.bool (wlt x y)/\Below w0.heap.size w0 w):=by
 refine enter Tryz.func106 rfl 24 rfl rfl ?_;intro a f
 have hW:=bz w0
 refine Zs f fun _ a8=>?_;refine Zf (X0l (zs:=[vi x.a,vi x.b,.bool x.h]) rfl rfl) ?_;rintro _ w1 ⟨b2,rfl,aA,hE,e⟩;have aD:=Q0 hW.size aA;have hW:=btr hW hE;refine Zf (X0l (zs:=[vi y.a,vi y.b,.bool y.h]) rfl rfl) ?_;rintro _ w2 ⟨b3,rfl,aB,hE,a6⟩
 have a7:b2≠b3:=by have:=e.lt;omega
 have aE:=Q0 hW.size aB;have e:=e.bw hE;have hW:=btr hW hE;refine Za rfl<|ZX a8 fun a f _ aC=>?_;refine X0a (fun a w=>Fr a 24 [(4,.bool ((decide (x.a<y.a))||((x.a==y.a)&&(decide (x.b<y.b)))))]/\w2=w) ?_ ?_
 ·refine Zr f<|Ze (Vd rfl X0p 0)<|Ze (X0 rfl X9 (e.at 0))<|Ze (Vd rfl X0p 0)<|Ze (X0 rfl X9 (a6.at 0))<|Ze (X0n rfl rfl)<|Zm rfl ?_
  refine Zg 10 rfl (fun c=>?_) (fun c=>?_)
  ·(iterate 6 refine Zp (gP c) ?_);(iterate 5 refine Zp (gP tv0) ?_);refine Zp (gP c) ?_;refine Ze (X5 rfl c rfl)<|Za rfl ?_;refine Zn fun a f=>?_;exact ⟨f.sub ⟨X1 rfl (by simp [c]),trivial⟩,rfl⟩
  refine Zv (gW c) (Vd rfl X0p 0) ?_;refine Zv (gW c) (X0 rfl X9 (e.at 0)) ?_;refine Zv (gW c) (Vd rfl X0p 0) ?_;refine Zv (gW c) (X0 rfl X9 (a6.at 0)) ?_;refine Zv (gW c) (X0k rfl rfl) ?_;refine Zv (gW c) (X3 rfl) ?_
  refine Zg 16 rfl (fun d=>?_) (fun d=>?_)
  ·refine Zv (gW d) (Vd rfl X0r 1) ?_;refine Zv (gW d) (X0 rfl X9 (e.at 1)) ?_;refine Zv (gW d) (Vd rfl X0r 1) ?_;refine Zv (gW d) (X0 rfl X9 (a6.at 1)) ?_;refine Zv (gW d) (X0n rfl rfl) ?_;refine Zv (gW c) (X5 rfl d rfl) ?_;refine Ze (Xb rfl c rfl)<|Za rfl ?_;refine Zn fun a f=>?_;exact ⟨f.sub ⟨X1 rfl (by simp [c,d]),trivial⟩,rfl⟩
  (iterate 5 refine Zp (gP d) ?_);refine Zv (gW c) (Xb rfl d rfl) ?_;refine Ze (Xb rfl c rfl)<|Za rfl ?_;refine Zn fun a f=>?_;exact ⟨f.sub ⟨X1 rfl (by simp [c,d]),trivial⟩,rfl⟩
 rintro a _ ⟨f,rfl⟩;refine aC _ _ ?_
 refine Q6 (X6 f (Xp f rfl rfl) ?_)
 exact ⟨rfl,hW⟩
theorem Xd0(A:World)(Al:Option Addr)(cl:Nat)(l:List Wr)(B:Rd A A.heap.size 83 encWr Al l)(p:Int)(q:Int)(aQ:l.length<=1000000000) : Ret Tryz.prog 132 [.slice Al l.length cl,vi p,vi q] A (fun v w=>v=vi (fdW l p q)/\Below A.heap.size A w):=by
 refine enter Tryz.func132 rfl 32 rfl rfl ?_;intro a d
 have g:=bz A
 refine Zs d fun _ aI=>?_;refine Za rfl<|ZX aI fun a d _ aJ=>?_;refine Zs d fun _ aK=>?_;refine Zm rfl<|Ze (X09 rfl Xr)<|Zm rfl<|Zt aK fun a d=>?_;refine Q8<|X01 (σ:=Nat) (fun (k:Nat) (a:Act) (w:World)=>Fr a 32 [(1,vi p),(2,vi q),(9,.slice Al l.length cl),(10,vi (l.length:Int)),(11,vi (k:Int))]/\(k<=l.length)/\(((l.take k).all fun x=>!isW p q x)=true)/\Below A.heap.size A w) (fun (k:Nat)=>l.length-k) 0 ?_ ?_
 ·exact ⟨d.sb,(Qf _),(by simp),g⟩
 rintro k a w1 ⟨d,hk,n,g⟩;refine Zs d fun _ aL=>?_;refine Ze (X0n rfl rfl)<|ZX aL fun a d _ aM=>?_
 refine Xi d rfl (fun f=>?_) (fun f=>?_)
 ·have o:=f;have f:=Q2 f
  obtain ⟨u8,aR⟩:=X4 (l:=l) (k:=k) (by omega)
  obtain ⟨t,a6⟩:=X4 (l:=l) (k:=k) (by have:=f;omega)
  refine Q7<|aM _ _<|Q5 fun _ aN=>?_;refine Q8<|Zs d fun _ aC=>?_;refine Zm rfl<|Zi (k:=k) (u:=t) (enc:=encWr) (l:=l) tv0 rfl rfl Xr X0c Xy (B.bx g) a6 rfl ?_;intro aS a7;refine Ze (X03 (l:=[vi t.a,vi t.b,.bool t.h]) rfl X10 a7 rfl)<|Zf (Xq (zs:=[vi 0,vi 0,.bool false]) X2s rfl) ?_;rintro _ w2 ⟨aT,rfl,C,j,e⟩;have a8:=Q0 g.size C;have aD:=(B.bx g).away C;have g:=btr g j;refine Za rfl<|Zo (Vw [vi t.a,vi t.b,.bool t.h] X0c e) ?_;rintro _ w3 ⟨ho,hb⟩;have aP:=e;have g:=Below.oy g ho a8;have e:=hb;refine ZX aC fun a d _ aE=>?_;refine X0a (fun a w=>Fr a 32 [(1,vi p),(2,vi q),(7,vi (k:Int)),(9,.slice Al l.length cl),(10,vi (l.length:Int)),(11,vi (k:Int)),(29,.bool ((t.a==(min p q))&&(t.b==(max p q))))]/\Below w3.heap.size w3 w) ?_ ?_
  ·have m:Below w3.heap.size w3 w3:=Below.refl _ _
   refine X04 none (fun _=>false) mixed ?_;intro w4 j;have e:=e.bw j;have g:=btr g j;have m:=btr m j;refine Yb d<|Yo 0 rfl (fun _=>Vd rfl X0p 0)<|Ye 1 rfl (X0 rfl X9 (e.at 0))<|Yo 2 rfl (fun _=>X3 rfl)<|Yo 3 rfl (fun _=>X3 rfl)<|Y1 4 ?_;refine Yk rfl tv0 (Vc (Xn6 _ p q) Xbw) (fun _ _ ⟨_,j⟩=>j) ?_;rintro _ w5 ⟨rfl,j⟩;have e:=e.bw j;have g:=btr g j;have m:=btr m j;refine Yo 5 rfl (fun _=>X0k rfl rfl)<|Yo 6 rfl (fun _=>X3 rfl) ?_
   refine Yl 22 rfl (fun c=>?_) (fun c=>?_)
   ·refine Yu 7 rfl (gW c) (fun _=>Vd rfl X0r 1) ?_;refine Yv 8 rfl (gW c) (X0 rfl X9 (e.at 1)) ?_;refine Yu 9 rfl (gW c) (fun _=>X3 rfl) ?_;refine Yu 10 rfl (gW c) (fun _=>X3 rfl) ?_;refine Y1 11<|Yz rfl ⟨_,_,rfl,rfl,c⟩ (Vc (Y2b _ p q) Xjk) ?_;refine Yu 12 rfl (gW c) (fun _=>X0k rfl rfl) ?_;refine Yo 13 rfl (fun _=>X5 rfl c rfl) ?_;refine Yd fun a d=>?_
    have aA:Below w3.heap.size w3 w5:=m
    exact ⟨d.sub ⟨rfl,rfl,rfl,rfl,rfl,rfl,X1 rfl (by simp [o,c]),trivial⟩,aA⟩
   refine Yp 7 rfl (gP c) ?_;refine Yp 8 rfl (gP c) ?_;refine Yp 9 rfl (gP c) ?_;refine Yp 10 rfl (gP c) ?_;refine Y1 11<|Yq rfl ⟨_,_,rfl,rfl,c⟩ ?_;refine Yp 12 rfl (gP c) ?_;refine Yo 13 rfl (fun _=>Xb rfl c rfl) ?_;refine Yd fun a d=>?_
   have aA:Below w3.heap.size w3 w5:=m
   exact ⟨d.sub ⟨rfl,rfl,rfl,rfl,rfl,rfl,X1 rfl (by simp [o,c]),trivial⟩,aA⟩
  rintro a w6 ⟨d,j⟩;have g:=btr g j;refine aE _ _ ?_
  refine Xi d rfl (fun i=>?_) (fun i=>?_)
  ·have aB:=i
   have aF:isW p q t=true:=i
   have y:fdW l p q=(k:Int):=X8t n a6 aF
   refine Zs d fun _ aG=>?_;refine Zm rfl<|Za rfl<|Zt aG fun a d=>?_;refine Q6<|Xw<|X8<|X8 ?_;refine Xw<|X8<|X6 d (Xp d rfl rfl) ?_;exact ⟨by rw [y],g⟩
  have aB:=i
  have aO:isW p q t=false:=i
  refine Q7<|Xa<|aN _ _<|Zr d ?_;refine Ze (Xs rfl rfl (by omega) (by omega))<|Zm rfl ?_;refine Zn fun a d=>?_;refine Xc ?_;exact ⟨k+1,⟨d.sb,(by omega),(X72 n a6 aO),g⟩,(by omega)⟩
 have o:=f;have f:=Q1 f
 have y:fdW l p q = -1:=X9j n (by have:=f;omega)
 refine Q9<|Xk<|Xk<|X02 ?_;refine aJ _ _<|Zs d fun _ aH=>?_;refine Za rfl<|Zt aH fun a d=>?_
 refine Q6 (X6 d (Xp d rfl rfl) ?_)
 exact ⟨by rw [y],g⟩
theorem X94(B:World)(Al:Option Addr)(cl:Nat)(l:List Wr)(m:Rd B B.heap.size 83 encWr Al l)(p:Int)(q:Int)(x:Bool)(b2:l.length<=1000000000)(aB:l.length<=cl) : Ret Tryz.prog 134 [.slice Al l.length cl,vi p,vi q,.bool x] B (fun v w=>∃ A c,v=.slice A (jnW l p q x).length c/\Own w B.heap.size 83 3 encWr A c (jnW l p q x)/\Below B.heap.size B w):=by
 refine enter Tryz.func134 rfl 48 rfl rfl ?_;intro a i
 have f:=bz B
 refine Zs i fun _ aR=>?_;refine Za rfl<|Zx aR fun a i _ aS=>?_;refine Zm rfl<|Zm rfl<|Zf (Vc (Xn6 _ p q) Xbw) ?_;rintro _ w1 ⟨rfl,j⟩;have f:=btr f j;refine Zm rfl<|Zm rfl<|Zf (Vc (Y2b _ p q) Xjk) ?_;rintro _ _ ⟨rfl,rfl⟩;refine Zm rfl<|Ze (X0s (ps:=[(0,vi (min p q)),(1,vi (max p q)),(2,.bool x)]) (cs:=[vi (min p q),vi (max p q),.bool x]) rfl (fun _=>by first|rfl|kernel_rfl))<|Zf (Xq (zs:=[vi 0,vi 0,.bool false]) X2s rfl) ?_;rintro _ w2 ⟨b5,rfl,aC,j,e⟩;have aD:=Q0 f.size aC;have aQ:=(m.bx f).away aC;have f:=btr f j;refine Zo (Vw [vi (min p q),vi (max p q),.bool x] X0c e) ?_;rintro _ w3 ⟨ho,hb⟩;have b1:=e;have f:=Below.oy f ho aD;have e:=hb;refine Zx aS fun a i _ aT=>?_;refine Za rfl<|ZX aT fun a i _ aU=>?_;refine Q8<|X01 (σ:=Nat) (fun (k:Nat) (a:Act) (w:World)=>Fr a 48 [(0,.slice Al l.length cl),(9,(pZ9 b5)),(10,vi (k:Int))]/\(k<=l.length)/\(((l.take k).all fun y=>wlt y ⟨min p q,max p q,x⟩)=true)/\Blk w b5 83 [vi (min p q),vi (max p q),.bool x]/\Below B.heap.size B w) (fun (k:Nat)=>l.length-k) 0 ?_ ?_
 ·exact ⟨i.sb,(Qf _),rfl,e,f⟩
 rintro k a w4 ⟨i,hk,L,e,f⟩;refine Q5 fun _ aV=>?_;refine Q5 fun _ aW=>?_;refine X0a (fun a w=>Fr a 48 [(0,.slice Al l.length cl),(9,(pZ9 b5)),(10,vi (k:Int)),(31,.bool (decide ((k:Int)<(l.length:Int))&&wlt (l.getD k wZ) ⟨min p q,max p q,x⟩))]/\Below w4.heap.size w4 w) ?_ ?_
 ·have C:Below w4.heap.size w4 w4:=Below.refl _ _
  refine X04 none (fun _=>false) mixed ?_;intro w5 j;have e:=e.bw j;have f:=btr f j;have C:=btr C j;refine Yb i<|Yo 0 rfl (fun _=>X3 rfl)<|Yo 1 rfl (fun _=>X3 rfl)<|Yo 2 rfl (fun _=>X09 rfl Xr)<|Yo 3 rfl (fun _=>X0n rfl rfl)<|Yo 4 rfl (fun _=>X3 rfl) ?_
  refine Yl 24 rfl (fun d=>?_) (fun d=>?_)
  ·refine Yu 5 rfl (gW d) (fun _=>X3 rfl) ?_;refine Yu 6 rfl (gW d) (fun _=>X3 rfl) ?_;refine Yi (k:=k) (u:=(l.getD k wZ)) (enc:=encWr) (l:=l) 7 rfl ⟨_,_,rfl,rfl,d⟩ rfl rfl Xr X0c Xy (m.bx f) (Xrr (by assumption)) rfl ?_;intro b3 a6;refine Yv 8 rfl (gW d) (X03 (l:=[vi ((l.getD k wZ).a),vi ((l.getD k wZ).b),.bool ((l.getD k wZ).h)]) rfl X10 a6 rfl) ?_;refine Yv 9 rfl (gW d) (Vn X10 e) ?_;refine Y1 10<|Yk rfl ⟨_,_,rfl,rfl,d⟩ (Vc (Xto _ (l.getD k wZ) (⟨min p q,max p q,x⟩ : Wr)) Xfj) (fun _ _ ⟨_,j⟩=>j) ?_;rintro _ w6 ⟨rfl,j⟩;have f:=btr f j;have C:=btr C j;refine Yo 11 rfl (fun _=>X5 rfl d rfl) ?_;refine Yd fun a i=>?_
   have a7:Below w4.heap.size w4 w6:=C
   exact ⟨i.sub ⟨rfl,rfl,rfl,X1 rfl (by first|rfl|(simp only [d,bs];done)|simp [d]),trivial⟩,a7⟩
  refine Yp 5 rfl (gP d) ?_;refine Yp 6 rfl (gP d) ?_;refine Yp 7 rfl (gP d) ?_;refine Yp 8 rfl (gP d) ?_;refine Yp 9 rfl (gP d) ?_;refine Y1 10<|Yq rfl ⟨_,_,rfl,rfl,d⟩ ?_;refine Yo 11 rfl (fun _=>Xb rfl d rfl) ?_;refine Yd fun a i=>?_
  have a7:Below w4.heap.size w4 w5:=C
  exact ⟨i.sub ⟨rfl,rfl,rfl,X1 rfl (by first|rfl|(simp only [d,bs];done)|simp [d]),trivial⟩,a7⟩
 rintro a w7 ⟨i,j⟩;have e:=e.bw j;have f:=btr f j;refine aW _ _ ?_
 refine Xi i rfl (fun o=>?_) (fun o=>?_)
 ·have a8:=o;obtain ⟨aX,b4⟩:=Xoz L o;refine Q7<|aV _ _<|Q8<|Zr i ?_;refine Zm rfl<|Ze (Xs rfl rfl (by omega) (by omega))<|Za rfl ?_;refine Zn fun a i=>?_;refine Xa<|Xc ?_;exact ⟨k+1,⟨i.sb,(by omega),aX,e,f⟩,(by omega)⟩
 have a8:=o
 have aE:jnW l p q x=_:=Xqo L o
 refine Q9<|Xk<|Xk<|X02 ?_;refine aU _ _<|Zs i fun _ aF=>?_;refine Zf (Xn (k:=0) (vs:=[]) (zs:=[]) rfl Xr X0z rfl rfl) ?_;rintro _ w8 ⟨b15,rfl,M,j,N⟩
 have aG:b5≠b15:=by have:=e.lt;omega
 have E:=Q0 f.size M;have aH:=(m.bx f).away M;have e:=e.bw j;have f:=btr f j;refine Zm rfl<|Zm rfl ?_;have aI:=((m.bx f).top).takeK Xy k;refine Ze (X2r (l:=l) (k:=k) rfl rfl Xr X0c rfl hk aB)<|Zf (X0t (enc:=encWr) (l:=([] : List Wr)) (l2:=((l.take k))) (B0:=B.heap.size) rfl rfl Xr X0z Xy X1p (Own.empty N E) aI (by simp only [maxLen];simp;omega) (by simp;omega) f.size) ?_;rintro _ w9 ⟨b6,b7,rfl,n,J,t⟩
 have g:Own _ B.heap.size 83 3 encWr _ _ ([] : List Wr):=(Own.empty N E)
 have G:=t _ e.lt (Away.ne (by omega))
 clear t;have e:=e.appA J (Away.ne (by omega));have f:=Below.app f g J (Qb _) f.size;clear g J
 simp only [List.nil_append] at n
 refine Za rfl<|Zx aF fun a i _ aJ=>?_;refine Zm rfl<|Ze (Vn X10 e)<|Zf (Xn (k:=1) (vs:=[.agg #[vi (min p q),vi (max p q),.bool x]]) (zs:=[vi (min p q),vi (max p q),.bool x]) rfl Xr X0z rfl rfl) ?_;rintro _ b8 ⟨b20,rfl,H,j,I⟩
 have aK:b5≠b20:=by have:=e.lt;omega
 have aY:=Q0 f.size H;have aL:=(m.bx f).away H;have D:=n.away H;have e:=e.bw j;have n:=n.bw j;have f:=btr f j;refine Zf (X0t (enc:=encWr) (l:=((l.take k))) (l2:=([(⟨min p q,max p q,x⟩ : Wr)])) (B0:=B.heap.size) rfl rfl Xr X0z Xy X1p n (Rd.of_blk I rfl _ I.lt) (by simp only [maxLen];simp;omega) (by simp;omega) f.size) ?_;rintro _ b9 ⟨bA,bB,rfl,Q,J,t⟩
 have g:Own _ B.heap.size 83 3 encWr _ _ ((l.take k)):=n
 have aM:=t _ e.lt G;have aA:=t _ I.lt D;clear t;have f:=Below.app f g J (Qb _) f.size;clear g J;refine Za rfl<|Zx aJ fun a i _ aN=>?_;refine Zm rfl<|Zm rfl<|Zm rfl ?_;have aO:=((m.bx f).top).dropK Xy (c:=cl) aB k;refine Ze (X6f (l:=l) (k:=k) rfl rfl Xr X0c rfl hk)<|Zf (X0t (enc:=encWr) (l:=((l.take k)++([(⟨min p q,max p q,x⟩ : Wr)]))) (l2:=((l.drop k))) (B0:=B.heap.size) rfl rfl Xr X0z Xy X1p Q aO (by simp only [maxLen];simp;omega) (by simp;omega) f.size) ?_;rintro _ bC ⟨aZ,b0,rfl,aP,J,t⟩
 have g:Own _ B.heap.size 83 3 encWr _ _ ((l.take k)++([(⟨min p q,max p q,x⟩ : Wr)])):=Q
 clear t;have f:=Below.app f g J (Qb _) f.size;clear g J;refine Za rfl<|Zt aN fun a i=>?_
 refine Q6 (X6 i (Xp i rfl rfl) ?_)
 rw [aE]
 exact ⟨aZ,b0,rfl,aP,f⟩
theorem Xfe(e:World)(Al:Option Addr)(cl:Nat)(l:List Wr)(f:Rd e e.heap.size 83 encWr Al l)(p:Int)(aL:l.length<=1000000000)(a8:l.length<=cl)(aM:0<=p/\p<(l.length:Int)) : Ret Tryz.prog 133 [.slice Al l.length cl,vi p] e (fun v w=>∃ A c,v=.slice A (ctW l p.toNat).length c/\Own w e.heap.size 83 3 encWr A c (ctW l p.toNat)/\Below e.heap.size e w):=by
 refine enter Tryz.func133 rfl 17 rfl rfl ?_;intro a hf
 have d:=bz e
 refine Zs hf fun _ aF=>?_;refine Za rfl<|Zx aF fun a hf _ aG=>?_;refine Zf (Xn (k:=0) (vs:=[]) (zs:=[]) rfl Xr X0z rfl rfl) ?_;rintro _ w1 ⟨b5,rfl,aA,hE,aB⟩;have g:=Q0 d.size aA;have aE:=(f.bx d).away aA;have d:=btr d hE;refine Zm rfl<|Zm rfl ?_;have aH:=((f.bx d).top).takeK Xy p.toNat;refine Ze (X2r (l:=l) (k:=p.toNat) rfl rfl Xr X0c (by omega) (by omega) a8)<|Zf (X0t (enc:=encWr) (l:=([] : List Wr)) (l2:=((l.take p.toNat))) (B0:=e.heap.size) rfl rfl Xr X0z Xy X1p (Own.empty aB g) aH (by simp only [maxLen];simp;omega) (by simp;omega) d.size) ?_;rintro _ w2 ⟨A8,c8,rfl,a6,hg,a7⟩
 have b:Own _ e.heap.size 83 3 encWr _ _ ([] : List Wr):=(Own.empty aB g)
 clear a7;have d:=Below.app d b hg (Qb _) d.size;clear b hg
 simp only [List.nil_append] at a6
 refine Za rfl<|Zx aG fun a hf _ aI=>?_;refine Zm rfl<|Zm rfl<|Zm rfl<|Ze (Xs rfl rfl (by omega) (by omega)) ?_;have aC:=((f.bx d).top).dropK Xy (c:=cl) a8 (p.toNat+1);refine Ze (X6f (l:=l) (k:=(p.toNat+1)) rfl rfl Xr X0c (by omega) (by omega))<|Zf (X0t (enc:=encWr) (l:=((l.take p.toNat))) (l2:=((l.drop (p.toNat+1)))) (B0:=e.heap.size) rfl rfl Xr X0z Xy X1p a6 aC (by simp only [maxLen];simp;omega) (by simp;omega) d.size) ?_;rintro _ w3 ⟨aJ,aK,rfl,aD,hg,a7⟩
 have b:Own _ e.heap.size 83 3 encWr _ _ ((l.take p.toNat)):=a6
 clear a7;have d:=Below.app d b hg (Qb _) d.size;clear b hg;refine Za rfl<|Zt aI fun a hf=>?_
 refine Q6 (X6 hf (Xp hf rfl rfl) ?_)
 exact ⟨aJ,aK,rfl,aD,d⟩
theorem X9s(x:World)(d:Dg)(md:Nat)(o:md=d.ns.length)(Ad:Option Addr)(cd:Nat)(a6:Nat)(b:Own x a6 81 2 encNd Ad cd d.ns)(aJ:a6<=x.heap.size)(Bd:Option Addr)(dd:Nat)(c:Rd x x.heap.size 83 encWr Bd d.ws)(a7:d.ws.length<=dd)(p:Int)(q:Int)(a8:0<=p/\p.toNat<d.ns.length)(aE:0<=(d.ns.getD p.toNat nZ).p+q/\(d.ns.getD p.toNat nZ).p+q<=1000) : Ret Tryz.prog 211 [.agg #[vi d.n,.slice Ad md cd,.slice Bd d.ws.length dd,vi d.t,vi d.r],vi p,vi q] x (fun v w=>∃ A' c',v=.agg #[vi ({ d with ns:=adN d.ns p q } : Dg).n,.slice Ad md cd,.slice A' ({ d with ns:=adN d.ns p q } : Dg).ws.length c',vi ({ d with ns:=adN d.ns p q } : Dg).t,vi ({ d with ns:=adN d.ns p q } : Dg).r]/\Own w a6 81 2 encNd Ad cd ({ d with ns:=adN d.ns p q } : Dg).ns/\Rd w w.heap.size 83 encWr A' ({ d with ns:=adN d.ns p q } : Dg).ws/\({ d with ns:=adN d.ns p q } : Dg).ws.length<=c'/\md=({ d with ns:=adN d.ns p q } : Dg).ns.length/\x.grownBy w (Value.slice Ad d.ns.length cd).ownBlock):=by
 refine enter Tryz.func211 rfl 22 rfl rfl ?_;intro a y
 have m:x.grownBy x (Value.slice Ad d.ns.length cd).ownBlock:=World.grownBy.refl _ _
 refine Zs y fun _ aF=>?_;refine Zf (X0l (zs:=[vi d.n,.slice Ad md cd,.slice Bd d.ws.length dd,vi d.t,vi d.r]) rfl rfl) ?_;rintro _ w1 ⟨b4,rfl,aG,g,e⟩;have aK:=Q0 m.size aG;have b:=b.bw g;have c:=c.bw g;have m:=gbel m g;refine Zf (Xq (zs:=[vi 0,.slice none 0 0,.slice none 0 0,vi 0,vi 0]) X0h rfl) ?_;rintro _ w2 ⟨b7,rfl,aH,g,f⟩
 have aD:b4≠b7:=by have:=e.lt;omega
 have aA:=Q0 m.size aH;have e:=e.bw g;have b:=b.bw g;have c:=c.bw g;have m:=gbel m g;refine ZX aF fun a y _ aI=>?_;refine X04 none (fun j=>[14].contains j) mixed ?_;intro w3 g;have e:=e.bw g;have f:=f.bw g;have b:=b.bw g;have c:=c.bw g;have m:=gbel m g;refine Yb y<|Yo 0 rfl (fun _=>Vd rfl Xf 1)<|Ye 1 rfl (X0 rfl Xz (e.at 1))<|Yo 2 rfl (fun _=>X3 rfl)<|Yo 3 rfl (fun _=>Vd rfl Xf 1)<|Ye 4 rfl (X0 rfl Xz (e.at 1))<|Yo 5 rfl (fun _=>X3 rfl)<|Yj (k:=p.toNat) (u:=(d.ns.getD p.toNat nZ)) (enc:=encNd) (l:=d.ns) 6 rfl tv0 rfl o rfl Xm X06 Xv b.rd (Xg a8.2) (by omega) ?_;intro aL aB;refine Yo 7 rfl (fun _=>X2j rfl X07)<|Ye 8 rfl (X0 rfl X9 (aB.drop 1))<|Yo 9 rfl (fun _=>X3 rfl)<|Yo 10 rfl (fun _=>Xs rfl rfl (by omega) (by omega))<|Yo 11 rfl (fun _=>Vx (X3k rfl rfl rfl) (tm8 aE.1))<|Yo 12 rfl (fun _=>Xx (k:=p.toNat) rfl rfl Xm X06 b o (by omega) (by omega))<|Yo 13 rfl (fun _=>X0y rfl X07 (m':=p.toNat*2+1) rfl)<|Y1 14 ?_;refine Yh rfl tv0 rfl (X11 (enc:=encNd) (l:=d.ns) (vs:=[vi (((d.ns.getD p.toNat nZ).p+q) % 8)]) (x0:=(d.ns.getD p.toNat nZ)) (u:=(⟨(d.ns.getD p.toNat nZ).k,(((d.ns.getD p.toNat nZ).p+q) % 8)⟩ : Nd)) (k:=p.toNat) (j:=1) (n1:=1) rfl rfl X0b b Xv rfl rfl rfl rfl (by decide) (Xg a8.2) rfl) ?_;rintro _ w4 ⟨h,hg⟩;have i:=b;have e:=e.appT i hg rfl;have f:=f.appT i hg rfl;have c:=c.appT i hg rfl;have m:=gtr m hg
 clear i hg;clear b;have b:=h;clear h;refine Yd fun a y=>?_;refine aI _ _<|Zs y fun _ aC=>?_;refine Ze (Vn X2 e)<|Zo (Vw [vi d.n,.slice Ad md cd,.slice Bd d.ws.length dd,vi d.t,vi d.r] Xh f) ?_;rintro _ w5 ⟨ho,hb⟩;have A:=f;have c:=c.oT ho A rfl;have b:=b.oT ho A rfl;have m:=gonly m ho aA;have f:=hb;refine Zt aC fun a y=>?_
 refine Q6 (X6 y (Xp y rfl (ResV.cellN (l:=[vi d.n,.slice Ad md cd,.slice Bd d.ws.length dd,vi d.t,vi d.r]) rfl X2 (f.at 0) rfl)) ?_)
 exact ⟨Bd,dd,rfl,b,c.top,a7,o.trans (X1r _ _ _).symm,m⟩
theorem Xaj(p:World)(d:Dg)(md:Nat)(a7:md=d.ns.length)(Ad:Option Addr)(cd:Nat)(G:Rd p p.heap.size 81 encNd Ad d.ns)(Bd:Option Addr)(dd:Nat)(H:Rd p p.heap.size 83 encWr Bd d.ws)(aL:d.ws.length<=dd)(aM:d.ns.length<=1000000000/\d.ws.length<=1000000000) : Ret Tryz.prog 82 [.agg #[vi d.n,.slice Ad md cd,.slice Bd d.ws.length dd,vi d.t,vi d.r]] p (fun v w=>∃ A c B e,v=.agg #[vi d.n,.slice A d.ns.length c,.slice B d.ws.length e,vi d.t,vi d.r]/\Own w p.heap.size 81 2 encNd A c d.ns/\Own w p.heap.size 83 3 encWr B e d.ws/\Below p.heap.size p w):=by
 subst a7
 refine enter Tryz.func82 rfl 14 rfl rfl ?_;intro a hf
 have j:=bz p
 refine Zs hf fun _ aH=>?_;refine Zf (X0l (zs:=[vi d.n,.slice Ad d.ns.length cd,.slice Bd d.ws.length dd,vi d.t,vi d.r]) rfl rfl) ?_;rintro _ w1 ⟨b4,rfl,aI,q,b⟩;have I:=Q0 j.size aI;have j:=btr j q;refine Zf (Xq (zs:=[vi 0,.slice none 0 0,.slice none 0 0,vi 0,vi 0]) X0h rfl) ?_;rintro _ w2 ⟨b7,rfl,aJ,q,g⟩
 have aF:b4≠b7:=by have:=b.lt;omega
 have a8:=Q0 j.size aJ;have b:=b.bw q;have j:=btr j q;refine Zx aH fun a hf _ aK=>?_;refine Zf (Xn (k:=0) (vs:=[]) (zs:=[]) rfl Xm X1x rfl rfl) ?_;rintro _ w3 ⟨b9,rfl,aA,q,aB⟩;have J:=Q0 j.size aA;have aG:=(G.bx j).away aA;have b:=b.bw q;have g:=g.bw q;have j:=btr j q;refine Ze (Vd rfl Xf 1)<|Ze (X0 rfl Xz (b.at 1))<|Zf (X0t (enc:=encNd) (l:=([] : List Nd)) (l2:=(d.ns)) (B0:=p.heap.size) rfl rfl Xm X1x Xv X33 (Own.empty aB J) (G.bx j) (by simp only [maxLen];simp;omega) (by simp;omega) j.size) ?_;rintro _ w4 ⟨u,x,rfl,f,E,a6⟩
 have i:Own _ p.heap.size 81 2 encNd _ _ ([] : List Nd):=(Own.empty aB J)
 clear a6;have b:=b.appT i E rfl;have g:=g.appT i E rfl;have j:=Below.app j i E (Qb _) j.size;clear i E
 simp only [List.nil_append] at f
 refine Ze (Vd rfl Xf 1)<|Zo (Vu (vs:=[.slice u d.ns.length x]) (l':=[vi d.n,.slice u d.ns.length x,.slice Bd d.ws.length dd,vi d.t,vi d.r]) rfl rfl X4m b) ?_;rintro _ w5 ⟨y,hb⟩;have m:=b;have g:=g.oy y (by omega);have f:=f.oT y m rfl;have j:=Below.oy j y I;have b:=hb;refine Zx aK fun a hf _ aC=>?_;refine Zf (Xn (k:=0) (vs:=[]) (zs:=[]) rfl Xr X0z rfl rfl) ?_;rintro _ w6 ⟨aN,rfl,L,q,M⟩;have h:=Q0 j.size L;have aD:=(H.bx j).away L;have b:=b.bw q;have g:=g.bw q;have f:=f.bw q;have j:=btr j q;refine Ze (Vd rfl Xl 2)<|Ze (X0 rfl X0d (b.at 2))<|Zf (X0t (enc:=encWr) (l:=([] : List Wr)) (l2:=(d.ws)) (B0:=p.heap.size) rfl rfl Xr X0z Xy X1p (Own.empty M h) (H.bx j) (by simp only [maxLen];simp;omega) (by simp;omega) j.size) ?_;rintro _ w7 ⟨C,D,rfl,o,E,a6⟩
 have i:Own _ p.heap.size 83 3 encWr _ _ ([] : List Wr):=(Own.empty M h)
 clear a6;have b:=b.appT i E rfl;have g:=g.appT i E rfl;have f:=f.appT i E rfl;have j:=Below.app j i E (Qb _) j.size;clear i E
 simp only [List.nil_append] at o
 refine Ze (Vd rfl Xl 2)<|Zo (Vu (vs:=[.slice C d.ws.length D]) (l':=[vi d.n,.slice u d.ns.length x,.slice C d.ws.length D,vi d.t,vi d.r]) rfl rfl X1f b) ?_;rintro _ w8 ⟨y,hb⟩;have m:=b;have g:=g.oy y (by omega);have f:=f.oT y m rfl;have o:=o.oT y m rfl;have j:=Below.oy j y I;have b:=hb;refine Zx aC fun a hf _ aE=>?_;refine Ze (Vn X2 b)<|Zo (Vw [vi d.n,.slice u d.ns.length x,.slice C d.ws.length D,vi d.t,vi d.r] Xh g) ?_;rintro _ w9 ⟨y,hb⟩;have m:=g;have f:=f.oT y m rfl;have o:=o.oT y m rfl;have j:=Below.oy j y a8;have g:=hb;refine Zt aE fun a hf=>?_
 refine Q6 (X6 hf (Xp hf rfl (ResV.cellN (l:=[vi d.n,.slice u d.ns.length x,.slice C d.ws.length D,vi d.t,vi d.r]) rfl X2 (g.at 0) rfl)) ?_)
 exact ⟨u,x,C,D,rfl,f,o,j⟩
theorem X69(e:World)(d:Dg)(md:Nat)(f:md=d.ns.length)(Ad:Option Addr)(cd:Nat)(a6:Rd e e.heap.size 81 encNd Ad d.ns)(Bd:Option Addr)(dd:Nat)(aD:Rd e e.heap.size 83 encWr Bd d.ws)(aE:d.ws.length<=dd)(p:Int)(hN:md<=1000) : Ret Tryz.prog 78 [.agg #[vi d.n,.slice Ad md cd,.slice Bd d.ws.length dd,vi d.t,vi d.r],vi p] e (fun v w=>v=.bool (spI d.ns p)/\Below e.heap.size e w):=by
 refine enter Tryz.func78 rfl 20 rfl rfl ?_;intro a c
 have hW:=bz e
 refine Zs c fun _ aA=>?_;refine Zf (X0l (zs:=[vi d.n,.slice Ad md cd,.slice Bd d.ws.length dd,vi d.t,vi d.r]) rfl rfl) ?_;rintro _ w1 ⟨b4,rfl,aB,hE,a7⟩;have aF:=Q0 hW.size aB;have hW:=btr hW hE;refine Za rfl<|ZX aA fun a c _ aC=>?_;refine X0a (fun a w=>Fr a 20 [(4,.bool ((inR p 0 ((md:Int)-1))&&(((d.ns.getD p.toNat nZ).k)==3)))]/\w1=w) ?_ ?_
 ·refine Zr c<|Zm rfl<|Ze (Vd rfl Xf 1)<|Ze (X0 rfl Xz (a7.at 1))<|Ze (X09 rfl Xm)<|Ze (X1h rfl rfl (by omega) (by omega))<|Zf (Vc (F85 _ p 0 ((md:Int)-1)) X64) ?_;rintro _ _ ⟨rfl,rfl⟩;refine Zm rfl ?_
  refine Zg 11 rfl (fun b=>?_) (fun b=>?_)
  ·have aG:=X0o.1 b;refine Zv (gW b) (Vd rfl Xf 1) ?_;refine Zv (gW b) (X0 rfl Xz (a7.at 1)) ?_;refine Zv (gW b) (X3 rfl) ?_;refine Zj (k:=p.toNat) (u:=(d.ns.getD p.toNat nZ)) (enc:=encNd) (l:=d.ns) ⟨_,_,rfl,rfl,b⟩ rfl f rfl Xm X06 Xv (a6.bx hW) (Xg (by omega)) (by omega) ?_;intro p8 a8;refine Zv (gW b) (X2j rfl X12) ?_;refine Zv (gW b) (X0 rfl X9 (a8.drop 0)) ?_;refine Zv (gW b) (X0k rfl rfl) ?_;refine Ze (X5 rfl b rfl)<|Za rfl ?_;refine Zn fun a c=>?_;exact ⟨c.sub ⟨X1 rfl (by simp [b]),trivial⟩,rfl⟩
  (iterate 7 refine Zp (gP b) ?_);refine Ze (Xb rfl b rfl)<|Za rfl ?_;refine Zn fun a c=>?_;exact ⟨c.sub ⟨X1 rfl (by simp [b]),trivial⟩,rfl⟩
 rintro a _ ⟨c,rfl⟩;refine aC _ _ ?_
 refine Q6 (X6 c (Xp c rfl rfl) ?_)
 exact ⟨by unfold spI;rw [f],hW⟩
theorem X9i(i:World)(d:Dg)(md:Nat)(aL:md=d.ns.length)(Ad:Option Addr)(cd:Nat)(aM:Rd i i.heap.size 81 encNd Ad d.ns)(Bd:Option Addr)(dd:Nat)(j:Rd i i.heap.size 83 encWr Bd d.ws)(aN:d.ws.length<=dd)(p:Int)(q:Int)(aE:d.ws.length<=1000000000) : Ret Tryz.prog 79 [.agg #[vi d.n,.slice Ad md cd,.slice Bd d.ws.length dd,vi d.t,vi d.r],vi p,vi q] i (fun v w=>v=vi (tyW d.ws p q)/\Below i.heap.size i w):=by
 have aO:=Xaf d.ws p q;refine enter Tryz.func79 rfl 23 rfl rfl ?_;intro a b
 have f:=bz i
 refine Zs b fun _ aF=>?_;refine Zf (X0l (zs:=[vi d.n,.slice Ad md cd,.slice Bd d.ws.length dd,vi d.t,vi d.r]) rfl rfl) ?_;rintro _ w1 ⟨b4,rfl,aG,hE,g⟩;have aP:=Q0 f.size aG;have f:=btr f hE;refine Za rfl<|Zx aF fun a b _ aH=>?_;refine Ze (Vd rfl Xl 2)<|Ze (X0 rfl X0d (g.at 2))<|Zm rfl<|Zm rfl<|Zf (Vc (Xd0 _ Bd dd d.ws (j.bx f).top p q aE) X6x) ?_;rintro _ w2 ⟨rfl,hE⟩;have g:=g.bw hE;have f:=btr f hE;refine Za rfl<|ZX aH fun a b _ aI=>?_;refine Q8<|Zs b fun _ aJ=>?_;refine Zm rfl<|Ze (X0n rfl rfl)<|Za rfl<|Zt aJ fun a b=>?_
 refine Xi b rfl (fun c=>?_) (fun c=>?_)
 ·have a8:=c;have c:=Q2 c
  have hz:tyW d.ws p q=0:=by unfold tyW;exact Q4 (by simpa using c)
  refine Zs b fun _ aK=>?_;refine Za rfl<|Zt aK fun a b=>?_;refine Q6<|Xw<|X8<|X6 b (Xp b rfl rfl) ?_;exact ⟨by rw [hz],f⟩
 have a8:=c;have c:=Q1 c
 have aQ:0<=fdW d.ws p q:=by have h9:=c;simp at h9;omega
 have aA:tyW d.ws p q=if (d.ws.getD (fdW d.ws p q).toNat wZ).h=true then 2 else 1:=by unfold tyW;exact Q3 (by omega)
 refine Zs b fun _ aB=>?_;refine Ze (Vd rfl Xl 2)<|Ze (X0 rfl X0d (g.at 2))<|Zm rfl<|Zi (k:=(fdW d.ws p q).toNat) (u:=(d.ws.getD (fdW d.ws p q).toNat wZ)) (enc:=encWr) (l:=d.ws) tv0 rfl rfl Xr X0c Xy (j.bx f) (Xg (by omega)) (by omega) ?_;intro aR a6;refine Ze (X2j rfl X3n)<|Ze (X0 rfl X6q (a6.drop 2))<|Za rfl<|Zt aB fun a b=>?_
 refine Xi b rfl (fun e=>?_) (fun e=>?_)
 ·have a7:=e
  have hz:tyW d.ws p q=2:=by rw [aA];exact Q4 e
  refine Zs b fun _ aC=>?_;refine Za rfl<|Zt aC fun a b=>?_;refine Q6<|Xw<|X8<|X6 b (Xp b rfl rfl) ?_;exact ⟨by rw [hz],f⟩
 have a7:=e
 have hz:tyW d.ws p q=1:=by rw [aA];exact Q3 (by rw [e];decide)
 refine Q7<|Xa<|aI _ _<|Zs b fun _ aD=>?_;refine Za rfl<|Zt aD fun a b=>?_
 refine Q6 (X6 b (Xp b rfl rfl) ?_)
 exact ⟨by rw [hz],f⟩
theorem Xs1(E:World)(d:Dg)(md:Nat)(G:md=d.ns.length)(Ad:Option Addr)(cd:Nat)(a6:Nat)(b:Own E a6 81 2 encNd Ad cd d.ns)(aO:a6<=E.heap.size)(Bd:Option Addr)(dd:Nat)(j:Rd E E.heap.size 83 encWr Bd d.ws)(H:d.ws.length<=dd)(p:Int)(q:Int)(aP:d.ws.length<=999999999) : Ret Tryz.prog 81 [.agg #[vi d.n,.slice Ad md cd,.slice Bd d.ws.length dd,vi d.t,vi d.r],vi p,vi q] E (fun v w=>∃ A' c',v=.agg #[vi (tgD d p q).n,.slice Ad md cd,.slice A' (tgD d p q).ws.length c',vi (tgD d p q).t,vi (tgD d p q).r]/\Own w a6 81 2 encNd Ad cd (tgD d p q).ns/\Rd w w.heap.size 83 encWr A' (tgD d p q).ws/\(tgD d p q).ws.length<=c'/\md=(tgD d p q).ns.length/\E.grownBy w (Value.slice Ad d.ns.length cd).ownBlock):=by
 have aA:=Xaf d.ws p q;refine enter Tryz.func81 rfl 36 rfl rfl ?_;intro a x
 have m:E.grownBy E (Value.slice Ad d.ns.length cd).ownBlock:=World.grownBy.refl _ _
 refine Zs x fun _ aJ=>?_;refine Zf (X0l (zs:=[vi d.n,.slice Ad md cd,.slice Bd d.ws.length dd,vi d.t,vi d.r]) rfl rfl) ?_;rintro _ w1 ⟨b4,rfl,aK,u,c⟩;have y:=Q0 m.size aK;have b:=b.bw u;have j:=j.bw u;have m:=gbel m u;refine Zf (Xq (zs:=[vi 0,.slice none 0 0,.slice none 0 0,vi 0,vi 0]) X0h rfl) ?_;rintro _ w2 ⟨b7,rfl,aL,u,f⟩
 have aI:b4≠b7:=by have:=c.lt;omega
 have I:=Q0 m.size aL;have c:=c.bw u;have b:=b.bw u;have j:=j.bw u;have m:=gbel m u;refine ZX aJ fun a x _ aM=>?_;refine Zs x fun _ aN=>?_;refine Ze (Vd rfl Xl 2)<|Ze (X0 rfl X0d (c.at 2))<|Zm rfl<|Zm rfl<|Zf (Vc (Xd0 _ Bd dd d.ws j.top p q (by omega)) X6x) ?_;rintro _ w3 ⟨rfl,u⟩;have c:=c.bw u;have f:=f.bw u;have b:=b.bw u;have j:=j.bw u;have m:=gbel m u;refine Za rfl<|Zx aN fun a x _ aB=>?_;refine Zm rfl<|Ze (X5h rfl rfl)<|Zt aB fun a x=>?_
 refine Xi x rfl (fun k=>?_) (fun k=>?_)
 ·have a7:=k;have k:=Q2 k;have a8:=Y0y k;refine Zs x fun _ aC=>?_;refine Ze (Vd rfl Xl 2)<|Ze (X0 rfl X0d (c.at 2))<|Zm rfl<|Zf (Vc (Xfe _ Bd dd d.ws j.top (fdW d.ws p q) (by omega) H ⟨by omega,aA⟩) X86) ?_;rintro _ w4 ⟨h,A,rfl,g,u⟩;have g:=g.lower m.size;have c:=c.bw u;have f:=f.bw u;have b:=b.bw u;have m:=gbel m u;refine Ze (Vd rfl Xl 2)<|Zo (Vu (vs:=[.slice h (ctW d.ws (fdW d.ws p q).toNat).length A]) (l':=[vi d.n,.slice Ad md cd,.slice h (ctW d.ws (fdW d.ws p q).toNat).length A,vi d.t,vi d.r]) rfl rfl X1f c) ?_;rintro _ w5 ⟨o,D⟩;have e:=c;have f:=f.oy o (by omega);have b:=b.oT o e rfl;have g:=g.oT o e rfl;have m:=gonly m o y;have c:=D;refine Zx aC fun a x _ aD=>?_;refine Ze (Vd rfl X00 4)<|Ze (X0 rfl X9 (c.at 4))<|Ze (X9m rfl rfl)<|Ze (Vd rfl X00 4)<|Zo (Vu (vs:=[vi (wr (d.r-1))]) (l':=[vi d.n,.slice Ad md cd,.slice h (ctW d.ws (fdW d.ws p q).toNat).length A,vi d.t,vi (wr (d.r-1))]) rfl rfl X0b c) ?_;rintro _ w6 ⟨o,D⟩;have e:=c;have f:=f.oy o (by omega);have b:=b.oT o e rfl;have g:=g.oT o e rfl;have m:=gonly m o y;have c:=D;refine Zx aD fun a x _ aE=>?_;refine Ze (Vn X2 c)<|Zo (Vw [vi d.n,.slice Ad md cd,.slice h (ctW d.ws (fdW d.ws p q).toNat).length A,vi d.t,vi (wr (d.r-1))] Xh f) ?_;rintro _ w7 ⟨o,D⟩;have e:=f;have b:=b.oT o e rfl;have g:=g.oT o e rfl;have m:=gonly m o I;have f:=D;refine Zt aE fun a x=>?_;refine Q6<|X8 ?_
  refine X6 x (Xp x rfl (ResV.cellN (l:=[vi d.n,.slice Ad md cd,.slice h (ctW d.ws (fdW d.ws p q).toNat).length A,vi d.t,vi (wr (d.r-1))]) rfl X2 (f.at 0) rfl)) ?_
  rw [a8]
  exact ⟨h,A,rfl,b,g.rd.top,g.cap,G,m⟩
 have a7:=k;have k:=Q1 k;have a8:=Y2j k;refine Q7<|aM _ _<|Zs x fun _ aF=>?_;refine Ze (Vd rfl Xl 2)<|Ze (X0 rfl X0d (c.at 2))<|Zm rfl<|Zm rfl<|Zf (Vc (X94 _ Bd dd d.ws j.top p q true (by omega) H) X4q) ?_;rintro _ w8 ⟨B,C,rfl,i,u⟩;have i:=i.lower m.size;have c:=c.bw u;have f:=f.bw u;have b:=b.bw u;have m:=gbel m u;refine Ze (Vd rfl Xl 2)<|Zo (Vu (vs:=[.slice B (jnW d.ws p q true).length C]) (l':=[vi d.n,.slice Ad md cd,.slice B (jnW d.ws p q true).length C,vi d.t,vi d.r]) rfl rfl X1f c) ?_;rintro _ w9 ⟨o,D⟩;have e:=c;have f:=f.oy o (by omega);have b:=b.oT o e rfl;have i:=i.oT o e rfl;have m:=gonly m o y;have c:=D;refine Zx aF fun a x _ aG=>?_;refine Ze (Vd rfl X00 4)<|Ze (X0 rfl X9 (c.at 4))<|Ze (X2z rfl rfl)<|Ze (Vd rfl X00 4)<|Zo (Vu (vs:=[vi (wr (d.r+1))]) (l':=[vi d.n,.slice Ad md cd,.slice B (jnW d.ws p q true).length C,vi d.t,vi (wr (d.r+1))]) rfl rfl X0b c) ?_;rintro _ aQ ⟨o,D⟩;have e:=c;have f:=f.oy o (by omega);have b:=b.oT o e rfl;have i:=i.oT o e rfl;have m:=gonly m o y;have c:=D;refine Zx aG fun a x _ aH=>?_;refine Ze (Vn X2 c)<|Zo (Vw [vi d.n,.slice Ad md cd,.slice B (jnW d.ws p q true).length C,vi d.t,vi (wr (d.r+1))] Xh f) ?_;rintro _ aR ⟨o,D⟩;have e:=f;have b:=b.oT o e rfl;have i:=i.oT o e rfl;have m:=gonly m o I;have f:=D;refine Zt aH fun a x=>?_
 refine Q6 (X6 x (Xp x rfl (ResV.cellN (l:=[vi d.n,.slice Ad md cd,.slice B (jnW d.ws p q true).length C,vi d.t,vi (wr (d.r+1))]) rfl X2 (f.at 0) rfl)) ?_)
 rw [a8]
 exact ⟨B,C,rfl,b,i.rd.top,i.cap,G,m⟩
theorem Xzc(w0:World)(d:Dg)(md:Nat)(D:md=d.ns.length)(Ad:Option Addr)(cd:Nat)(aG:Nat)(b:Own w0 aG 81 2 encNd Ad cd d.ns)(aP:aG<=w0.heap.size)(Bd:Option Addr)(dd:Nat)(y:Rd w0 w0.heap.size 83 encWr Bd d.ws)(U:d.ws.length<=dd)(p:Int)(q:Int)(x:Bool)(bG:d.ws.length<=999999999)(b6:(0<=p/\p.toNat<d.ns.length)/\(0<=q/\q.toNat<d.ns.length))(hP:PhN d.ns) : Ret Tryz.prog 232 [.agg #[vi d.n,.slice Ad md cd,.slice Bd d.ws.length dd,vi d.t,vi d.r],vi p,vi q,.bool x] w0 (fun v w=>∃ A' c',v=.agg #[vi (lkD d p q x).n,.slice Ad md cd,.slice A' (lkD d p q x).ws.length c',vi (lkD d p q x).t,vi (lkD d p q x).r]/\Own w aG 81 2 encNd Ad cd (lkD d p q x).ns/\Rd w w.heap.size 83 encWr A' (lkD d p q x).ws/\(lkD d p q x).ws.length<=c'/\md=(lkD d p q x).ns.length/\w0.grownBy w (Value.slice Ad d.ns.length cd).ownBlock):=by
 have aH:=Xaf d.ws p q;refine enter Tryz.func232 rfl 68 rfl rfl ?_;intro a m
 have g:w0.grownBy w0 (Value.slice Ad d.ns.length cd).ownBlock:=World.grownBy.refl _ _
 refine Zs m fun _ b8=>?_;refine Zf (X0l (zs:=[vi d.n,.slice Ad md cd,.slice Bd d.ws.length dd,vi d.t,vi d.r]) rfl rfl) ?_;rintro _ w1 ⟨b4,rfl,b9,i,c⟩;have J:=Q0 g.size b9;have b:=b.bw i;have y:=y.bw i;have g:=gbel g i;refine Zf (Xq (zs:=[vi 0,.slice none 0 0,.slice none 0 0,vi 0,vi 0]) X0h rfl) ?_;rintro _ w2 ⟨b7,rfl,bA,i,e⟩
 have b5:b4≠b7:=by have:=c.lt;omega
 have W:=Q0 g.size bA;have c:=c.bw i;have b:=b.bw i;have y:=y.bw i;have g:=gbel g i;refine Zx b8 fun a m _ bB=>?_;refine Ze (Vd rfl Xl 2)<|Ze (X0 rfl X0d (c.at 2))<|Zm rfl<|Zm rfl<|Zf (Vc (Xd0 _ Bd dd d.ws y.top p q (by omega)) X6x) ?_;rintro _ w3 ⟨rfl,i⟩;have c:=c.bw i;have e:=e.bw i;have b:=b.bw i;have y:=y.bw i;have g:=gbel g i;refine Za rfl<|ZX bB fun a m _ bC=>?_;refine Zs m fun _ aQ=>?_;refine Zm rfl<|Ze (X0n rfl rfl)<|Zt aQ fun a m=>?_
 refine Xi m rfl (fun A=>?_) (fun A=>?_)
 ·have H:=A;have A:=Q2 A;have Q:=Y0r (h:=x) A;refine Zs m fun _ aR=>?_;refine Ze (Vd rfl Xl 2)<|Ze (X0 rfl X0d (c.at 2))<|Zm rfl<|Zm rfl<|Zm rfl<|Zf (Vc (X94 _ Bd dd d.ws y.top p q x (by omega) U) X4q) ?_;rintro _ w4 ⟨aA,aB,rfl,G,i⟩;have G:=G.lower g.size;have c:=c.bw i;have e:=e.bw i;have b:=b.bw i;have g:=gbel g i;refine Ze (Vd rfl Xl 2)<|Zo (Vu (vs:=[.slice aA (jnW d.ws p q x).length aB]) (l':=[vi d.n,.slice Ad md cd,.slice aA (jnW d.ws p q x).length aB,vi d.t,vi d.r]) rfl rfl X1f c) ?_;rintro _ w5 ⟨o,L⟩;have f:=c;have e:=e.oy o (by omega);have b:=b.oT o f rfl;have G:=G.oT o f rfl;have g:=gonly g o J;have c:=L;refine Zx aR fun a m _ aS=>?_;refine Ze (Vn X2 c)<|Zo (Vw [vi d.n,.slice Ad md cd,.slice aA (jnW d.ws p q x).length aB,vi d.t,vi d.r] Xh e) ?_;rintro _ w6 ⟨o,L⟩;have f:=e;have b:=b.oT o f rfl;have G:=G.oT o f rfl;have g:=gonly g o W;have e:=L;refine Zt aS fun a m=>?_;refine Q6<|X8<|X6 m (Xp m rfl (ResV.cellN (l:=[vi d.n,.slice Ad md cd,.slice aA (jnW d.ws p q x).length aB,vi d.t,vi d.r]) rfl X2 (e.at 0) rfl)) ?_
  rw [Q]
  exact ⟨aA,aB,rfl,b,G.rd.top,G.cap,by first|exact D|exact D.trans (X1r _ _ _).symm,g⟩
 have H:=A;have A:=Q1 A;have aJ:=A
 have bH:0<=fdW d.ws p q:=by have h9:=A;omega
 refine Q7<|bC _ _<|Zs m fun _ aT=>?_;refine Ze (Vd rfl Xl 2)<|Ze (X0 rfl X0d (c.at 2))<|Zm rfl<|Zi (k:=(fdW d.ws p q).toNat) (u:=(d.ws.getD (fdW d.ws p q).toNat wZ)) (enc:=encWr) (l:=d.ws) tv0 rfl rfl Xr X0c Xy y (Xg (by omega)) (by omega) ?_;intro bJ aK;refine Ze (X2j rfl X3n)<|Ze (X0 rfl X6q (aK.drop 2))<|Za rfl<|ZX aT fun a m _ aC=>?_;refine Q8<|Q5 fun _ aU=>?_;refine X0a (fun a w=>Fr a 68 [(1,vi p),(2,vi q),(3,.bool x),(4,(pZ9 b4)),(8,(pZ9 b7)),(9,vi (fdW d.ws p q)),(10,.bool ((d.ws.getD (fdW d.ws p q).toNat wZ).h)),(32,.bool (((d.ws.getD (fdW d.ws p q).toNat wZ).h)&&x))]/\w3=w) ?_ ?_
 ·refine Zr m<|Zm rfl<|Zm rfl ?_
  refine Zg 34 rfl (fun E=>?_) (fun E=>?_)
  ·refine Zv (gW E) (X3 rfl) ?_;refine Ze (X5 rfl E rfl)<|Za rfl ?_;refine Zn fun a m=>?_;exact ⟨m.sub ⟨rfl,rfl,rfl,rfl,rfl,rfl,rfl,X1 rfl (by first|rfl|(simp only [H,E,bs];done)|simp [H,E]),trivial⟩,rfl⟩
  refine Zp (gP E) ?_;refine Ze (Xb rfl E rfl)<|Za rfl ?_;refine Zn fun a m=>?_;exact ⟨m.sub ⟨rfl,rfl,rfl,rfl,rfl,rfl,rfl,X1 rfl (by first|rfl|(simp only [H,E,bs];done)|simp [H,E]),trivial⟩,rfl⟩
 rintro a _ ⟨m,rfl⟩;refine aU _ _ ?_
 refine Xi m rfl (fun M=>?_) (fun M=>?_)
 ·have aL:=M;have Q:=Y3j aJ M;refine Zs m fun _ aV=>?_;refine Ze (Vd rfl Xl 2)<|Ze (X0 rfl X0d (c.at 2))<|Zm rfl<|Zf (Vc (Xfe _ Bd dd d.ws y.top (fdW d.ws p q) (by omega) U ⟨by omega,aH⟩) X86) ?_;rintro _ w7 ⟨a7,a8,rfl,B,i⟩;have B:=B.lower g.size;have c:=c.bw i;have e:=e.bw i;have b:=b.bw i;have g:=gbel g i;refine Ze (Vd rfl Xl 2)<|Zo (Vu (vs:=[.slice a7 (ctW d.ws (fdW d.ws p q).toNat).length a8]) (l':=[vi d.n,.slice Ad md cd,.slice a7 (ctW d.ws (fdW d.ws p q).toNat).length a8,vi d.t,vi d.r]) rfl rfl X1f c) ?_;rintro _ w8 ⟨o,L⟩;have f:=c;have e:=e.oy o (by omega);have b:=b.oT o f rfl;have B:=B.oT o f rfl;have g:=gonly g o J;have c:=L;refine Zt aV fun a m=>?_;refine Zr m<|Ze (Vd rfl X00 4)<|Ze (X0 rfl X9 (c.at 4))<|Ze (X9m rfl rfl)<|Ze (Vd rfl X00 4)<|Zo (Vu (vs:=[vi (wr (d.r-2))]) (l':=[vi d.n,.slice Ad md cd,.slice a7 (ctW d.ws (fdW d.ws p q).toNat).length a8,vi d.t,vi (wr (d.r-2))]) rfl rfl X0b c) ?_;rintro _ w9 ⟨o,L⟩;have f:=c;have e:=e.oy o (by omega);have b:=b.oT o f rfl;have B:=B.oT o f rfl;have g:=gonly g o J;have c:=L;refine Zn fun a m=>?_;refine Xa<|aC _ _<|Zs m fun _ aW=>?_;refine Ze (Vn X2 c)<|Zo (Vw [vi d.n,.slice Ad md cd,.slice a7 (ctW d.ws (fdW d.ws p q).toNat).length a8,vi d.t,vi (wr (d.r-2))] Xh e) ?_;rintro _ bK ⟨o,L⟩;have f:=e;have b:=b.oT o f rfl;have B:=B.oT o f rfl;have g:=gonly g o W;have e:=L;refine Zt aW fun a m=>?_
  refine Q6 (X6 m (Xp m rfl (ResV.cellN (l:=[vi d.n,.slice Ad md cd,.slice a7 (ctW d.ws (fdW d.ws p q).toNat).length a8,vi d.t,vi (wr (d.r-2))]) rfl X2 (e.at 0) rfl)) ?_)
  rw [Q]
  exact ⟨a7,a8,rfl,b,B.rd.top,B.cap,by first|exact D|exact D.trans (X1r _ _ _).symm,g⟩
 have aL:=M;have aX:=M;refine Zs m fun _ aY=>?_;refine Zm rfl<|Zm rfl<|Ze (X93 Tryz.underlying4 rfl rfl)<|Za rfl<|Zt aY fun a m=>?_
 refine Xi m rfl (fun N=>?_) (fun N=>?_)
 ·have aM:=N;have Q:=Xw7 aJ aX N;refine Zs m fun _ aZ=>?_;refine Ze (Vd rfl Xl 2)<|Ze (X0 rfl X0d (c.at 2))<|Zm rfl<|Zf (Vc (Xfe _ Bd dd d.ws y.top (fdW d.ws p q) (by omega) U ⟨by omega,aH⟩) X86) ?_;rintro _ bL ⟨bD,bE,rfl,a6,i⟩;have a6:=a6.lower g.size;have c:=c.bw i;have e:=e.bw i;have b:=b.bw i;have g:=gbel g i;refine Zm rfl<|Zm rfl<|Zf (Vc (X94 _ bD bE (ctW d.ws (fdW d.ws p q).toNat) a6.rd.top p q false (Q0 (X3f _ _).length_le (by omega)) a6.cap) X4q) ?_;rintro _ bM ⟨aN,aO,rfl,C,i⟩;have C:=C.lower g.size;have c:=c.bw i;have e:=e.bw i;have b:=b.bw i;have g:=gbel g i;refine Ze (Vd rfl Xl 2)<|Zo (Vu (vs:=[.slice aN (jnW (ctW d.ws (fdW d.ws p q).toNat) p q false).length aO]) (l':=[vi d.n,.slice Ad md cd,.slice aN (jnW (ctW d.ws (fdW d.ws p q).toNat) p q false).length aO,vi d.t,vi d.r]) rfl rfl X1f c) ?_;rintro _ bN ⟨o,L⟩;have f:=c;have e:=e.oy o (by omega);have b:=b.oT o f rfl;have C:=C.oT o f rfl;have g:=gonly g o J;have c:=L;refine ZX aZ fun a m _ b0=>?_;refine X04 none (fun j=>[4,5].contains j) mixed ?_;intro bO i;have c:=c.bw i;have e:=e.bw i;have b:=b.bw i;have C:=C.bw i;have g:=gbel g i;refine Yb m<|Ye 0 rfl (Vn X2 c)<|Yo 1 rfl (fun _=>X3 rfl)<|Yo 2 rfl (fun _=>X3 rfl)<|Y1 3 ?_;refine Yk rfl tv0 (Vc (Xn6 _ p q) Xbw) (fun _ _ ⟨_,i⟩=>i) ?_;rintro _ bP ⟨rfl,i⟩;have c:=c.bw i;have e:=e.bw i;have b:=b.bw i;have C:=C.bw i;have g:=gbel g i;refine Y1 4<|Yt rfl tv0 rfl (Vc (X9s _ (⟨d.n,d.ns,(jnW (ctW d.ws (fdW d.ws p q).toNat) p q false),d.t,d.r⟩ : Dg) md D Ad cd aG b (Q0 aP g.size) aN aO C.rd.top C.cap (min p q) 4 (Xlw b6) (Y4t hP _ (by decide) (by decide))) X5o) ?_;rintro _ bQ ⟨aD,aE,rfl,aI,I,b1,bF,hg⟩
  have aF:=b;have c:=c.appT aF hg rfl;have e:=e.appT aF hg rfl;have g:=gtr g hg
  clear aF hg;clear b;have b:=aI;clear aI;refine Y1 5<|Yh rfl tv0 rfl (Vw [vi (({ (⟨d.n,d.ns,(jnW (ctW d.ws (fdW d.ws p q).toNat) p q false),d.t,d.r⟩ : Dg) with ns:=adN (⟨d.n,d.ns,(jnW (ctW d.ws (fdW d.ws p q).toNat) p q false),d.t,d.r⟩ : Dg).ns (min p q) 4 } : Dg).n),.slice Ad md cd,.slice aD (({ (⟨d.n,d.ns,(jnW (ctW d.ws (fdW d.ws p q).toNat) p q false),d.t,d.r⟩ : Dg) with ns:=adN (⟨d.n,d.ns,(jnW (ctW d.ws (fdW d.ws p q).toNat) p q false),d.t,d.r⟩ : Dg).ns (min p q) 4 } : Dg).ws).length aE,vi (({ (⟨d.n,d.ns,(jnW (ctW d.ws (fdW d.ws p q).toNat) p q false),d.t,d.r⟩ : Dg) with ns:=adN (⟨d.n,d.ns,(jnW (ctW d.ws (fdW d.ws p q).toNat) p q false),d.t,d.r⟩ : Dg).ns (min p q) 4 } : Dg).t),vi (({ (⟨d.n,d.ns,(jnW (ctW d.ws (fdW d.ws p q).toNat) p q false),d.t,d.r⟩ : Dg) with ns:=adN (⟨d.n,d.ns,(jnW (ctW d.ws (fdW d.ws p q).toNat) p q false),d.t,d.r⟩ : Dg).ns (min p q) 4 } : Dg).r)] Xh c) ?_;rintro _ bR ⟨o,L⟩;have f:=c;have e:=e.oy o (by omega);have b:=b.oT o f rfl;have I:=I.oT o f rfl;have g:=gonly g o J;have c:=L;refine Yd fun a m=>?_;refine b0 _ _<|Zr m<|Ze (Vd rfl X00 4)<|Ze (X0 rfl X9 (c.at 4))<|Ze (X9m rfl rfl)<|Ze (Vd rfl X00 4)<|Zo (Vu (vs:=[vi (wr ((({ (⟨d.n,d.ns,(jnW (ctW d.ws (fdW d.ws p q).toNat) p q false),d.t,d.r⟩ : Dg) with ns:=adN (⟨d.n,d.ns,(jnW (ctW d.ws (fdW d.ws p q).toNat) p q false),d.t,d.r⟩ : Dg).ns (min p q) 4 } : Dg).r)-1))]) (l':=[vi (({ (⟨d.n,d.ns,(jnW (ctW d.ws (fdW d.ws p q).toNat) p q false),d.t,d.r⟩ : Dg) with ns:=adN (⟨d.n,d.ns,(jnW (ctW d.ws (fdW d.ws p q).toNat) p q false),d.t,d.r⟩ : Dg).ns (min p q) 4 } : Dg).n),.slice Ad md cd,.slice aD (({ (⟨d.n,d.ns,(jnW (ctW d.ws (fdW d.ws p q).toNat) p q false),d.t,d.r⟩ : Dg) with ns:=adN (⟨d.n,d.ns,(jnW (ctW d.ws (fdW d.ws p q).toNat) p q false),d.t,d.r⟩ : Dg).ns (min p q) 4 } : Dg).ws).length aE,vi (({ (⟨d.n,d.ns,(jnW (ctW d.ws (fdW d.ws p q).toNat) p q false),d.t,d.r⟩ : Dg) with ns:=adN (⟨d.n,d.ns,(jnW (ctW d.ws (fdW d.ws p q).toNat) p q false),d.t,d.r⟩ : Dg).ns (min p q) 4 } : Dg).t),vi (wr ((({ (⟨d.n,d.ns,(jnW (ctW d.ws (fdW d.ws p q).toNat) p q false),d.t,d.r⟩ : Dg) with ns:=adN (⟨d.n,d.ns,(jnW (ctW d.ws (fdW d.ws p q).toNat) p q false),d.t,d.r⟩ : Dg).ns (min p q) 4 } : Dg).r)-1))]) rfl rfl X0b c) ?_;rintro _ bS ⟨o,L⟩
  have f:=c;have e:=e.oy o (by omega);have b:=b.oT o f rfl;have I:=I.oT o f rfl;have g:=gonly g o J;have c:=L;refine Zn fun a m=>?_;refine Xa<|aC _ _<|Zs m fun _ b2=>?_;refine Ze (Vn X2 c)<|Zo (Vw [vi (({ (⟨d.n,d.ns,(jnW (ctW d.ws (fdW d.ws p q).toNat) p q false),d.t,d.r⟩ : Dg) with ns:=adN (⟨d.n,d.ns,(jnW (ctW d.ws (fdW d.ws p q).toNat) p q false),d.t,d.r⟩ : Dg).ns (min p q) 4 } : Dg).n),.slice Ad md cd,.slice aD (({ (⟨d.n,d.ns,(jnW (ctW d.ws (fdW d.ws p q).toNat) p q false),d.t,d.r⟩ : Dg) with ns:=adN (⟨d.n,d.ns,(jnW (ctW d.ws (fdW d.ws p q).toNat) p q false),d.t,d.r⟩ : Dg).ns (min p q) 4 } : Dg).ws).length aE,vi (({ (⟨d.n,d.ns,(jnW (ctW d.ws (fdW d.ws p q).toNat) p q false),d.t,d.r⟩ : Dg) with ns:=adN (⟨d.n,d.ns,(jnW (ctW d.ws (fdW d.ws p q).toNat) p q false),d.t,d.r⟩ : Dg).ns (min p q) 4 } : Dg).t),vi (wr ((({ (⟨d.n,d.ns,(jnW (ctW d.ws (fdW d.ws p q).toNat) p q false),d.t,d.r⟩ : Dg) with ns:=adN (⟨d.n,d.ns,(jnW (ctW d.ws (fdW d.ws p q).toNat) p q false),d.t,d.r⟩ : Dg).ns (min p q) 4 } : Dg).r)-1))] Xh e) ?_;rintro _ bT ⟨o,L⟩;have f:=e;have b:=b.oT o f rfl;have I:=I.oT o f rfl;have g:=gonly g o W;have e:=L;refine Zt b2 fun a m=>?_
  refine Q6 (X6 m (Xp m rfl (ResV.cellN (l:=[vi (({ (⟨d.n,d.ns,(jnW (ctW d.ws (fdW d.ws p q).toNat) p q false),d.t,d.r⟩ : Dg) with ns:=adN (⟨d.n,d.ns,(jnW (ctW d.ws (fdW d.ws p q).toNat) p q false),d.t,d.r⟩ : Dg).ns (min p q) 4 } : Dg).n),.slice Ad md cd,.slice aD (({ (⟨d.n,d.ns,(jnW (ctW d.ws (fdW d.ws p q).toNat) p q false),d.t,d.r⟩ : Dg) with ns:=adN (⟨d.n,d.ns,(jnW (ctW d.ws (fdW d.ws p q).toNat) p q false),d.t,d.r⟩ : Dg).ns (min p q) 4 } : Dg).ws).length aE,vi (({ (⟨d.n,d.ns,(jnW (ctW d.ws (fdW d.ws p q).toNat) p q false),d.t,d.r⟩ : Dg) with ns:=adN (⟨d.n,d.ns,(jnW (ctW d.ws (fdW d.ws p q).toNat) p q false),d.t,d.r⟩ : Dg).ns (min p q) 4 } : Dg).t),vi (wr ((({ (⟨d.n,d.ns,(jnW (ctW d.ws (fdW d.ws p q).toNat) p q false),d.t,d.r⟩ : Dg) with ns:=adN (⟨d.n,d.ns,(jnW (ctW d.ws (fdW d.ws p q).toNat) p q false),d.t,d.r⟩ : Dg).ns (min p q) 4 } : Dg).r)-1))]) rfl X2 (e.at 0) rfl)) ?_)
  rw [Q]
  exact ⟨aD,aE,rfl,b,I.top,b1,by first|exact D|exact D.trans (X1r _ _ _).symm,g⟩
 have aM:=N;have Q:=Y21 aJ aX N;refine Q7<|Xa<|aC _ _<|Zs m fun _ b3=>?_;refine Ze (Vn X2 c)<|Zo (Vw [vi d.n,.slice Ad md cd,.slice Bd d.ws.length dd,vi d.t,vi d.r] Xh e) ?_;rintro _ bU ⟨o,L⟩;have f:=e;have b:=b.oT o f rfl;have y:=y.oT o f rfl;have g:=gonly g o W;have e:=L;refine Zt b3 fun a m=>?_
 refine Q6 (X6 m (Xp m rfl (ResV.cellN (l:=[vi d.n,.slice Ad md cd,.slice Bd d.ws.length dd,vi d.t,vi d.r]) rfl X2 (e.at 0) rfl)) ?_)
 rw [Q]
 exact ⟨Bd,dd,rfl,b,y.top,U,by first|exact D|exact D.trans (X1r _ _ _).symm,g⟩
theorem Xsw(I:World)(d:Dg)(md:Nat)(u:md=d.ns.length)(Ad:Option Addr)(cd:Nat)(H:Nat)(b:Own I H 81 2 encNd Ad cd d.ns)(aC:H<=I.heap.size)(Bd:Option Addr)(dd:Nat)(c:Rd I I.heap.size 83 encWr Bd d.ws)(A:d.ws.length<=dd)(p:Int)(q:Int)(x:Bool)(aJ:d.ws.length<=999999999)(aK:(0<=p/\p.toNat<d.ns.length)/\(0<=q/\q.toNat<d.ns.length))(hP:PhN d.ns)(hN:md<=1000) : Ret Tryz.prog 213 [.agg #[vi d.n,.slice Ad md cd,.slice Bd d.ws.length dd,vi d.t,vi d.r],vi p,vi q,.bool x] I (fun v w=>∃ A' c',v=.agg #[vi (mtD d p q x).n,.slice Ad md cd,.slice A' (mtD d p q x).ws.length c',vi (mtD d p q x).t,vi (mtD d p q x).r]/\Own w H 81 2 encNd Ad cd (mtD d p q x).ns/\Rd w w.heap.size 83 encWr A' (mtD d p q x).ws/\(mtD d p q x).ws.length<=c'/\md=(mtD d p q x).ns.length/\I.grownBy w (Value.slice Ad d.ns.length cd).ownBlock):=by
 refine enter Tryz.func213 rfl 30 rfl rfl ?_;intro a o
 have j:I.grownBy I (Value.slice Ad d.ns.length cd).ownBlock:=World.grownBy.refl _ _
 refine Zs o fun _ aL=>?_;refine Zf (X0l (zs:=[vi d.n,.slice Ad md cd,.slice Bd d.ws.length dd,vi d.t,vi d.r]) rfl rfl) ?_;rintro _ w1 ⟨b4,rfl,aM,i,e⟩;have aD:=Q0 j.size aM;have b:=b.bw i;have c:=c.bw i;have j:=gbel j i;refine Zf (Xq (zs:=[vi 0,.slice none 0 0,.slice none 0 0,vi 0,vi 0]) X0h rfl) ?_;rintro _ w2 ⟨b7,rfl,aN,i,g⟩
 have aI:b4≠b7:=by have:=e.lt;omega
 have J:=Q0 j.size aN;have e:=e.bw i;have b:=b.bw i;have c:=c.bw i;have j:=gbel j i;refine ZX aL fun a o _ aO=>?_;refine Q5 fun _ aP=>?_;refine X0a (fun a w=>Fr a 30 [(1,vi p),(2,vi q),(3,.bool x),(4,(pZ9 b4)),(8,(pZ9 b7)),(16,.bool ((spI d.ns p)&&(spI d.ns q)))]/\Below w2.heap.size w2 w) ?_ ?_
 ·have B:Below w2.heap.size w2 w2:=Below.refl _ _
  refine Zr o<|Ze (Vn X2 e)<|Zm rfl<|Zf (Vc (X69 _ d md u Ad cd b.rd.top Bd dd c.top A p hN) X34) ?_;rintro _ w3 ⟨rfl,i⟩;have e:=e.bw i;have b:=b.bw i;have c:=c.bw i;have j:=gbel j i;have B:=btr B i;refine Zm rfl ?_
  refine Zg 12 rfl (fun f=>?_) (fun f=>?_)
  ·refine Zv (gW f) (Vn X2 e) ?_;refine Zv (gW f) (X3 rfl) ?_;refine Zk (gW f) (Vc (X69 _ d md u Ad cd b.rd.top Bd dd c.top A q hN) X34) ?_;rintro _ w4 ⟨rfl,i⟩;have j:=gbel j i;have B:=btr B i;refine Ze (X5 rfl f rfl) ?_;refine Zn fun a o=>?_
   have a6:Below w2.heap.size w2 w4:=B
   exact ⟨o.sub ⟨rfl,rfl,rfl,rfl,rfl,X1 rfl (by simp [f]),trivial⟩,a6⟩
  (iterate 3 refine Zp (gP f) ?_);refine Ze (Xb rfl f rfl) ?_;refine Zn fun a o=>?_
  have a6:Below w2.heap.size w2 w3:=B
  exact ⟨o.sub ⟨rfl,rfl,rfl,rfl,rfl,X1 rfl (by simp [f]),trivial⟩,a6⟩
 rintro a w5 ⟨o,i⟩;have e:=e.bw i;have g:=g.bw i;have b:=b.bw i;have c:=c.bw i;have j:=gbel j i;refine aP _ _ ?_
 refine Xi o rfl (fun y=>?_) (fun y=>?_)
 ·have a7:=y;have a8:=Xz2 (h:=x) y;refine Zs o fun _ aE=>?_;refine Ze (Vn X2 e)<|Zm rfl<|Zm rfl<|Zm rfl<|Zf (Vc (Xzc _ d md u Ad cd H b (Q0 aC j.size) Bd dd c.top A p q x aJ aK hP) Xom) ?_;rintro _ w6 ⟨aA,aB,rfl,L,D,aF,aQ,hg⟩;have M:=b;have g:=g.appT M hg rfl;have j:=gtr j hg
  clear M hg;clear b;have b:=L;clear L;refine Zo (Vw [vi ((lkD d p q x).n),.slice Ad md cd,.slice aA ((lkD d p q x).ws).length aB,vi ((lkD d p q x).t),vi ((lkD d p q x).r)] Xh g) ?_;rintro _ w7 ⟨C,hb⟩;have k:=g;have b:=b.oT C k rfl;have D:=D.oT C k rfl;have j:=gonly j C J;have g:=hb;refine Zt aE fun a o=>?_;refine Q6<|X8<|X6 o (Xp o rfl (ResV.cellN (l:=[vi ((lkD d p q x).n),.slice Ad md cd,.slice aA ((lkD d p q x).ws).length aB,vi ((lkD d p q x).t),vi ((lkD d p q x).r)]) rfl X2 (g.at 0) rfl)) ?_
  rw [a8]
  exact ⟨aA,aB,rfl,b,D.top,aF,by first|exact u|assumption,j⟩
 have a7:=y;have a8:=Y03 (h:=x) y;refine Q7<|aO _ _<|Zs o fun _ aG=>?_;refine Ze (Vd rfl Xl 2)<|Ze (X0 rfl X0d (e.at 2))<|Zm rfl<|Zm rfl<|Zm rfl<|Zf (Vc (X94 _ Bd dd d.ws c.top p q x (by omega) A) X4q) ?_;rintro _ w8 ⟨E,G,rfl,m,i⟩;have m:=m.lower j.size;have e:=e.bw i;have g:=g.bw i;have b:=b.bw i;have j:=gbel j i;refine Ze (Vd rfl Xl 2)<|Zo (Vu (vs:=[.slice E (jnW d.ws p q x).length G]) (l':=[vi d.n,.slice Ad md cd,.slice E (jnW d.ws p q x).length G,vi d.t,vi d.r]) rfl rfl X1f e) ?_;rintro _ w9 ⟨C,hb⟩;have k:=e;have g:=g.oy C (by omega);have b:=b.oT C k rfl;have m:=m.oT C k rfl;have j:=gonly j C aD;have e:=hb;refine Zx aG fun a o _ aH=>?_;refine Ze (Vn X2 e)<|Zo (Vw [vi d.n,.slice Ad md cd,.slice E (jnW d.ws p q x).length G,vi d.t,vi d.r] Xh g) ?_;rintro _ aR ⟨C,hb⟩;have k:=g;have b:=b.oT C k rfl;have m:=m.oT C k rfl;have j:=gonly j C J;have g:=hb;refine Zt aH fun a o=>?_
 refine Q6 (X6 o (Xp o rfl (ResV.cellN (l:=[vi d.n,.slice Ad md cd,.slice E (jnW d.ws p q x).length G,vi d.t,vi d.r]) rfl X2 (g.at 0) rfl)) ?_)
 rw [a8]
 exact ⟨E,G,rfl,b,m.rd.top,m.cap,by first|exact u|assumption,j⟩
theorem Xa2(D:World)(d:Dg)(md:Nat)(aZ:md=d.ns.length)(Ad:Option Addr)(cd:Nat)(b0:Rd D D.heap.size 81 encNd Ad d.ns)(Bd:Option Addr)(dd:Nat)(J:Rd D D.heap.size 83 encWr Bd d.ws)(q:d.ws.length<=dd)(p:Int)(hI:InW d.ws)(b3:d.ws.length<=1000000000) : Ret Tryz.prog 212 [.agg #[vi d.n,.slice Ad md cd,.slice Bd d.ws.length dd,vi d.t,vi d.r],vi p] D (fun v w=>∃ A c,v=.slice A (nearW d.ws p).length c/\Own w D.heap.size 3 1 encI A c (nearW d.ws p)/\Below D.heap.size D w):=by
 refine enter Tryz.func212 rfl 34 rfl rfl ?_;intro a e
 have o:=bz D
 refine Zs e fun _ aP=>?_;refine Zf (X0l (zs:=[vi d.n,.slice Ad md cd,.slice Bd d.ws.length dd,vi d.t,vi d.r]) rfl rfl) ?_;rintro _ w1 ⟨b4,rfl,aQ,L,aR⟩;have b1:=Q0 o.size aQ;have o:=btr o L;refine Za rfl<|Zx aP fun a e _ aS=>?_;refine Za rfl<|ZX aS fun a e _ aT=>?_;refine Zs e fun _ aU=>?_;refine Ze (Vd rfl Xl 2)<|Ze (X0 rfl X0d (aR.at 2))<|Ze (X09 rfl Xr)<|Zm rfl<|Zt aU fun a e=>?_;refine Q8<|X01 (σ:=Nat×(List Int)) (fun (s:Nat×(List Int)) (a:Act) (w:World)=>match s with|(k,m)=>∃ B C,Fr a 34 [(1,vi p),(5,.slice B m.length C),(9,.slice Bd d.ws.length dd),(10,vi (d.ws.length:Int)),(11,vi (k:Int))]/\(k<=d.ws.length)/\(m=nearW (d.ws.take k) p)/\Own w D.heap.size 3 1 encI B C m/\d.ws.length<=dd/\Below D.heap.size D w) (fun (s:Nat×(List Int))=>match s with|(k,m)=>d.ws.length-k) (0,[]) ?_ ?_
 ·exact ⟨none,0,e.sb,(Qf _),(by simp [nearW]),(Own.nil _ _ _ _ _),q,o⟩
 rintro ⟨k,m⟩ a w2 ⟨B,C,e,hk,hm,f,q,o⟩;refine Zs e fun _ aC=>?_;refine Ze (X0n rfl rfl)<|ZX aC fun a e _ aD=>?_
 refine Xi e rfl (fun g=>?_) (fun g=>?_)
 ·have a6:=g;have g:=Q2 g
  obtain ⟨b5,b2⟩:=X4 (l:=d.ws) (k:=k) (by omega)
  obtain ⟨G,I⟩:=X4 (l:=d.ws) (k:=k) (by have:=g;omega)
  refine Q7<|aD _ _<|Q5 fun _ H=>?_;refine Q8<|Zs e fun _ aE=>?_;refine Zi (k:=k) (u:=G) (enc:=encWr) (l:=d.ws) tv0 rfl rfl Xr X0c Xy (J.bx o) I rfl ?_;intro b6 a7;refine Ze (X03 (l:=[vi G.a,vi G.b,.bool G.h]) rfl X10 a7 rfl)<|Zf (Xq (zs:=[vi 0,vi 0,.bool false]) X2s rfl) ?_;rintro _ w3 ⟨b7,rfl,M,L,j⟩;have a8:=Q0 o.size M;have aF:=(J.bx o).away M;have f:=f.bw L;have o:=btr o L;refine Zo (Vw [vi G.a,vi G.b,.bool G.h] X0c j) ?_;rintro _ w4 ⟨ho,hb⟩;have aG:=j;have f:=f.oT ho aG rfl;have o:=Below.oy o ho a8;have j:=hb;refine Zx aE fun a e _ aH=>?_;refine Zm rfl<|Zt aH fun a e=>?_;refine Q8<|Zs e fun _ aI=>?_;refine Ze (Vd rfl X0p 0)<|Ze (X0 rfl X9 (j.at 0))<|Ze (X0k rfl rfl)<|Za rfl<|Zt aI fun a e=>?_
  refine Xi e rfl (fun x=>?_) (fun x=>?_)
  ·have aA:=x;have i:=Xcr I x;have E:=Xco hI i
   rw [<- hm] at i E
   refine Zr e<|Zm rfl<|Ze (Vd rfl X0r 1)<|Ze (X0 rfl X9 (j.at 1))<|Zf (Vc (Xw4 _ B C m f.rd.top G.b D.heap.size f o.size (by have h9:=X1y (d.ws.take k) p;rw [<- hm] at h9;rw [Qn] at h9;omega)) Xdv) ?_;rintro _ w5 ⟨aV,aW,rfl,aJ,L⟩;have o:=btr o L;refine Za rfl ?_;refine Zn fun a e=>?_;refine Xa<|Xa<|H _ _<|Zr e ?_;refine Ze (Xs rfl rfl (by omega) (by omega))<|Zm rfl ?_;refine Zn fun a e=>?_;refine Xc ?_;exact ⟨(k+1,(putI m G.b)),⟨aV,aW,e.sb,(by omega),(by first|rw [E,i]|rw [i]),aJ,q,o⟩,(by first|omega|(dsimp only;omega))⟩
  have aA:=x;have aK:=x;refine Zs e fun _ aL=>?_;refine Ze (Vd rfl X0r 1)<|Ze (X0 rfl X9 (j.at 1))<|Ze (X0k rfl rfl)<|Za rfl<|Zt aL fun a e=>?_
  refine Xi e rfl (fun y=>?_) (fun y=>?_)
  ·have aB:=y;have i:=Xdo I aK y;have E:=Xco hI i
   rw [<- hm] at i E
   refine Zr e<|Zm rfl<|Ze (Vd rfl X0p 0)<|Ze (X0 rfl X9 (j.at 0))<|Zf (Vc (Xw4 _ B C m f.rd.top G.a D.heap.size f o.size (by have h9:=X1y (d.ws.take k) p;rw [<- hm] at h9;rw [Qn] at h9;omega)) Xdv) ?_;rintro _ w6 ⟨aX,aY,rfl,aM,L⟩;have o:=btr o L;refine Za rfl ?_;refine Zn fun a e=>?_;refine Xa<|Xa<|H _ _<|Zr e ?_;refine Ze (Xs rfl rfl (by omega) (by omega))<|Zm rfl ?_;refine Zn fun a e=>?_;refine Xc ?_;exact ⟨(k+1,(putI m G.a)),⟨aX,aY,e.sb,(by omega),(by first|rw [E,i]|rw [i]),aM,q,o⟩,(by first|omega|(dsimp only;omega))⟩
  have aB:=y;have i:=Xai I aK y
  rw [<- hm] at i
  refine Q7<|Xa<|Xa<|H _ _ ?_;refine Zr e<|Ze (Xs rfl rfl (by omega) (by omega))<|Zm rfl ?_;refine Zn fun a e=>?_;refine Xc ?_;exact ⟨(k+1,m),⟨B,C,e.sb,(by omega),(by first|rw [E,i]|rw [i]),f,q,o⟩,(by first|omega|(dsimp only;omega))⟩
 have a6:=g;have g:=Q1 g
 have aN:m=nearW d.ws p:=by rw [hm,Qi (by have:=g;omega)]
 refine Q9<|Xk<|Xk<|X02 ?_;refine aT _ _<|Zs e fun _ aO=>?_;refine Zm rfl<|Za rfl<|Zt aO fun a e=>?_
 refine Q6 (X6 e (Xp e rfl rfl) ?_)
 rw [<- aN]
 exact ⟨B,C,rfl,f,o⟩
theorem Xte(y:World)(d:Dg)(md:Nat)(aF:md=d.ns.length)(Ad:Option Addr)(cd:Nat)(aG:Rd y y.heap.size 81 encNd Ad d.ns)(Bd:Option Addr)(dd:Nat)(aH:Rd y y.heap.size 83 encWr Bd d.ws)(o:d.ws.length<=dd)(p:Int)(q:Int)(hI:InW d.ws)(aQ:d.ws.length<=1000000000) : Ret Tryz.prog 214 [.agg #[vi d.n,.slice Ad md cd,.slice Bd d.ws.length dd,vi d.t,vi d.r],vi p,vi q] y (fun v w=>∃ A c,v=.slice A (othW d.ws p q).length c/\Own w y.heap.size 3 1 encI A c (othW d.ws p q)/\Below y.heap.size y w):=by
 have b2:=X1y d.ws p;refine enter Tryz.func214 rfl 27 rfl rfl ?_;intro a g
 have j:=bz y
 refine Zs g fun _ aR=>?_;refine Zf (X0l (zs:=[vi d.n,.slice Ad md cd,.slice Bd d.ws.length dd,vi d.t,vi d.r]) rfl rfl) ?_;rintro _ w1 ⟨b4,rfl,aS,hE,aT⟩;have b0:=Q0 j.size aS;have j:=btr j hE;refine Za rfl<|Zx aR fun a g _ aU=>?_;refine Za rfl<|ZX aU fun a g _ aV=>?_;refine Zs g fun _ aW=>?_;refine Ze (Vn X2 aT)<|Zm rfl<|Zf (Vc (Xa2 _ d md aF Ad cd (aG.bx j).top Bd dd (aH.bx j).top o p hI aQ) X60) ?_;rintro _ w2 ⟨a6,aI,rfl,b,hE⟩;have b:=b.lower j.size;have j:=btr j hE;refine Ze (X09 rfl Xj)<|Zm rfl<|Zt aW fun a g=>?_;refine Q8<|X01 (σ:=Nat×(List Int)) (fun (s:Nat×(List Int)) (a:Act) (w:World)=>match s with|(k,m)=>∃ h D,Fr a 27 [(2,vi q),(7,.slice h m.length D),(12,.slice a6 (nearW d.ws p).length aI),(13,vi ((nearW d.ws p).length:Int)),(14,vi (k:Int))]/\(k<=(nearW d.ws p).length)/\(m=((nearW d.ws p).take k).filter (fun v=>v != q))/\Own w y.heap.size 3 1 encI h D m/\Own w y.heap.size 3 1 encI a6 aI (nearW d.ws p)/\d.ws.length<=dd/\Apart a6 h/\Below y.heap.size y w) (fun (s:Nat×(List Int))=>match s with|(k,m)=>(nearW d.ws p).length-k) (0,[]) ?_ ?_
 ·exact ⟨none,0,g.sb,(Qf _),rfl,(Own.nil _ _ _ _ _),b,o,(Apart.nr _),j⟩
 rintro ⟨k,m⟩ a w3 ⟨h,D,g,hk,hm,i,b,o,f,j⟩
 have b3:m.length<=d.ws.length:=by rw [hm];exact Q0 (List.length_filter_le _ _) (by rw [Qn];omega)
 refine Zs g fun _ aJ=>?_;refine Ze (X0n rfl rfl)<|ZX aJ fun a g _ aK=>?_
 refine Xi g rfl (fun e=>?_) (fun e=>?_)
 ·have a7:=e;have e:=Q2 e
  obtain ⟨b5,b1⟩:=X4 (l:=(nearW d.ws p)) (k:=k) (by omega)
  obtain ⟨u9,a8⟩:=X4 (l:=nearW d.ws p) (k:=k) (by have:=e;omega)
  refine Q7<|aK _ _<|Q5 fun _ I=>?_;refine Q8<|Zs g fun _ aL=>?_;refine Zi (k:=k) (u:=u9) (enc:=encI) (l:=(nearW d.ws p)) tv0 rfl rfl Xj X0b Xd b.rd a8 rfl ?_;intro b6 aA;refine Ze (X0 rfl X9 aA)<|Za rfl<|Zx aL fun a g _ aM=>?_;refine Zm rfl<|Zm rfl<|Ze (X1e rfl rfl)<|Zt aM fun a g=>?_
  refine Xi g rfl (fun x=>?_) (fun x=>?_)
  ·have aB:=x
   have E:=X3e (q:=fun v=>v != q) a8
   rw [Q4 x,<- hm] at E
   refine Zr g<|Zm rfl<|Zm rfl<|Zf (Xn (k:=1) (vs:=[vi u9]) (zs:=[vi u9]) rfl Xj X1g rfl rfl) ?_;rintro _ w4 ⟨b7,rfl,G,hE,H⟩;have aX:=Q0 j.size G;have B:=i.away G;have aD:=b.away G;have i:=i.bw hE;have b:=b.bw hE;have j:=btr j hE;refine Zf (X0t (enc:=encI) (l:=(m)) (l2:=([u9])) (B0:=y.heap.size) rfl rfl Xj X1g Xd X1z i (Rd.of_blk H rfl _ H.lt) (by simp only [maxLen];simp;omega) (by simp;omega) j.size) ?_;rintro _ w5 ⟨aY,aZ,rfl,aN,hg,aC⟩
   have J:Own _ y.heap.size 3 1 encI _ _ (m):=i
   have aE:=aC _ H.lt B;have C:=Apart.app b f aC;clear aC;have b:=b.appP hg f;have j:=Below.app j J hg (Qb _) j.size;clear J hg;refine Za rfl ?_;refine Zn fun a g=>?_;refine Xa<|I _ _<|Zr g<|Ze (Xs rfl rfl (by omega) (by omega))<|Zm rfl ?_;refine Zn fun a g=>?_;refine Xc ?_;exact ⟨(k+1,m++([u9])),⟨aY,aZ,g.sb,(by omega),(by rw [E]),aN,b,o,C,j⟩,(by first|omega|(dsimp only;omega))⟩
  have aB:=x
  have E:=X3e (q:=fun v=>v != q) a8
  rw [Q3 (by rw [x];decide),List.append_nil,<- hm] at E
  refine Q7<|Xa<|I _ _<|Zr g ?_;refine Ze (Xs rfl rfl (by omega) (by omega))<|Zm rfl ?_;refine Zn fun a g=>?_;refine Xc ?_;exact ⟨(k+1,m),⟨h,D,g.sb,(by omega),(by rw [E]),i,b,o,f,j⟩,(by first|omega|(dsimp only;omega))⟩
 have a7:=e;have e:=Q1 e
 have aO:m=(nearW d.ws p).filter (fun v=>v != q):=by rw [hm,Qi (by have:=e;omega)]
 refine Q9<|Xk<|Xk<|X02 ?_;refine aV _ _<|Zs g fun _ aP=>?_;refine Zm rfl<|Za rfl<|Zt aP fun a g=>?_
 refine Q6 (X6 g (Xp g rfl rfl) ?_)
 rw [show othW d.ws p q=m from aO.symm]
 exact ⟨h,D,rfl,i,j⟩
theorem Xko(m:World)(d:Dg)(md:Nat)(q:md=d.ns.length)(Ad:Option Addr)(cd:Nat)(x:Rd m m.heap.size 81 encNd Ad d.ns)(Bd:Option Addr)(dd:Nat)(y:Rd m m.heap.size 83 encWr Bd d.ws)(f:d.ws.length<=dd)(p:Int)(hI:InW d.ws)(aB:d.ws.length<=1000000000) : Ret Tryz.prog 217 [.agg #[vi d.n,.slice Ad md cd,.slice Bd d.ws.length dd,vi d.t,vi d.r],vi p] m (fun v w=>v=.bool (hadD d p)/\Below m.heap.size m w):=by
 have aQ:=X1y d.ws p;refine enter Tryz.func217 rfl 21 rfl rfl ?_;intro a c
 have g:=bz m
 refine Zs c fun _ aH=>?_;refine Zf (X0l (zs:=[vi d.n,.slice Ad md cd,.slice Bd d.ws.length dd,vi d.t,vi d.r]) rfl rfl) ?_;rintro _ w1 ⟨b4,rfl,aI,h,e⟩;have aO:=Q0 g.size aI;have g:=btr g h;refine Za rfl<|ZX aH fun a c _ aJ=>?_;refine Zs c fun _ aK=>?_;refine Ze (Vn X2 e)<|Zm rfl<|Zf (Vc (Xa2 _ d md q Ad cd (x.bx g).top Bd dd (y.bx g).top f p hI aB) X60) ?_;rintro _ w2 ⟨A7,c7,rfl,i,h⟩;have i:=i.lower g.size;have e:=e.bw h;have g:=btr g h;refine Ze (X09 rfl Xj)<|Zm rfl<|Zt aK fun a c=>?_;refine Q8<|X01 (σ:=Nat) (fun (k:Nat) (a:Act) (w:World)=>Fr a 21 [(1,vi p),(2,(pZ9 b4)),(9,.slice A7 (nearW d.ws p).length c7),(10,vi ((nearW d.ws p).length:Int)),(11,vi (k:Int))]/\(k<=(nearW d.ws p).length)/\(((nearW d.ws p).take k).all (fun v=>tyW d.ws p v==2)=true)/\Blk w b4 39 [vi d.n,.slice Ad md cd,.slice Bd d.ws.length dd,vi d.t,vi d.r]/\Own w m.heap.size 3 1 encI A7 c7 (nearW d.ws p)/\d.ws.length<=dd/\Below m.heap.size m w) (fun (k:Nat)=>(nearW d.ws p).length-k) 0 ?_ ?_
 ·exact ⟨c.sb,(Qf _),rfl,e,i,f,g⟩
 rintro k a w3 ⟨c,hk,A,e,i,f,g⟩;refine Zs c fun _ aL=>?_;refine Ze (X0n rfl rfl)<|ZX aL fun a c _ aM=>?_
 refine Xi c rfl (fun b=>?_) (fun b=>?_)
 ·have a6:=b;have b:=Q2 b
  obtain ⟨aR,aP⟩:=X4 (l:=(nearW d.ws p)) (k:=k) (by omega)
  obtain ⟨u9,a7⟩:=X4 (l:=nearW d.ws p) (k:=k) (by have:=b;omega)
  refine Q7<|aM _ _<|Q5 fun _ aC=>?_;refine Q8<|Zs c fun _ aD=>?_;refine Zi (k:=k) (u:=u9) (enc:=encI) (l:=(nearW d.ws p)) tv0 rfl rfl Xj X0b Xd i.rd a7 rfl ?_;intro aS a8;refine Ze (X0 rfl X9 a8)<|Za rfl<|Zx aD fun a c _ aE=>?_;refine Ze (Vn X2 e)<|Zm rfl<|Zm rfl<|Zf (Vc (X9i _ d md q Ad cd (x.bx g).top Bd dd (y.bx g).top f p u9 aB) X4v) ?_;rintro _ w4 ⟨rfl,h⟩;have e:=e.bw h;have i:=i.bw h;have g:=btr g h;refine Ze (X1e rfl rfl)<|Zt aE fun a c=>?_
  refine Xi c rfl (fun j=>?_) (fun j=>?_)
  ·have aA:=j
   have o:hadD d p=false:=Xnh a7 (by have h9:=j;simpa using h9)
   refine Zs c fun _ aF=>?_;refine Za rfl<|Zt aF fun a c=>?_;refine Q6<|Xw<|X8<|X8 ?_;refine Xw<|X8<|X6 c (Xp c rfl rfl) ?_;exact ⟨by rw [o],g⟩
  have aA:=j
  have aN:(tyW d.ws p u9==2)=true:=by have h9:=j;simpa using h9
  refine Q7<|Xa<|aC _ _<|Zr c ?_;refine Ze (Xs rfl rfl (by omega) (by omega))<|Zm rfl ?_;refine Zn fun a c=>?_;refine Xc ?_;exact ⟨k+1,⟨c.sb,(by omega),(Xm8 A a7 aN),e,i,f,g⟩,(by omega)⟩
 have a6:=b;have b:=Q1 b
 have o:hadD d p=true:=Xfb A (by have:=b;omega)
 refine Q9<|Xk<|Xk<|X02 ?_;refine aJ _ _<|Zs c fun _ aG=>?_;refine Za rfl<|Zt aG fun a c=>?_
 refine Q6 (X6 c (Xp c rfl rfl) ?_)
 exact ⟨by rw [o],g⟩
theorem Xsv(h:World)(d:Dg)(md:Nat)(C:md=d.ns.length)(Ad:Option Addr)(cd:Nat)(D:Rd h h.heap.size 81 encNd Ad d.ns)(Bd:Option Addr)(dd:Nat)(E:Rd h h.heap.size 83 encWr Bd d.ws)(f:d.ws.length<=dd)(Al:Option Addr)(cl:Nat)(l:List Int)(G:Rd h h.heap.size 3 encI Al l)(hN:md<=1000)(aT:d.ws.length<=1000000000)(b7:l.length<=1000000000)(aU:l.length<=cl) : Ret Tryz.prog 218 [.agg #[vi d.n,.slice Ad md cd,.slice Bd d.ws.length dd,vi d.t,vi d.r],.slice Al l.length cl] h (fun v w=>v=.bool (rdyD d l)/\Below h.heap.size h w):=by
 refine enter Tryz.func218 rfl 35 rfl rfl ?_;intro a b
 have m:=bz h
 refine Zs b fun _ aV=>?_;refine Zf (X0l (zs:=[vi d.n,.slice Ad md cd,.slice Bd d.ws.length dd,vi d.t,vi d.r]) rfl rfl) ?_;rintro _ w1 ⟨b5,rfl,aW,H,g⟩;have b3:=Q0 m.size aW;have m:=btr m H;refine Za rfl<|ZX aV fun a b _ aX=>?_;refine Zs b fun _ aY=>?_;refine Zm rfl<|Ze (X09 rfl Xj)<|Zm rfl<|Zt aY fun a b=>?_;refine Q8<|X01 (σ:=Nat) (fun (k:Nat) (a:Act) (w:World)=>Fr a 35 [(1,.slice Al l.length cl),(2,(pZ9 b5)),(9,.slice Al l.length cl),(10,vi (l.length:Int)),(11,vi (k:Int))]/\(k<=l.length)/\(∀ j:Nat,j<k->rdQ d l j=true)/\Blk w b5 39 [vi d.n,.slice Ad md cd,.slice Bd d.ws.length dd,vi d.t,vi d.r]/\d.ws.length<=dd/\Below h.heap.size h w) (fun (k:Nat)=>l.length-k) 0 ?_ ?_
 ·exact ⟨b.sb,(Qf _),(fun j hj=>by omega),g,f,m⟩
 rintro k a w2 ⟨b,hk,I,g,f,m⟩;refine Zs b fun _ aZ=>?_;refine Ze (X0n rfl rfl)<|ZX aZ fun a b _ b0=>?_
 refine Xi b rfl (fun c=>?_) (fun c=>?_)
 ·have a6:=c;have c:=Q2 c
  obtain ⟨b8,b4⟩:=X4 (l:=l) (k:=k) (by omega)
  obtain ⟨u9,B⟩:=X4 (l:=l) (k:=k) (by have:=c;omega)
  have a7:l.getD k 0=u9:=by rw [Qa,B];rfl
  refine Q7<|b0 _ _<|Q5 fun _ aF=>?_;refine Q8<|Zs b fun _ aG=>?_;refine Zm rfl<|Zi (k:=k) (u:=u9) (enc:=encI) (l:=l) tv0 rfl rfl Xj X0b Xd (G.bx m) B rfl ?_;intro b9 a8;refine Ze (X0 rfl X9 a8)<|Za rfl<|Za rfl<|ZX aG fun a b _ aH=>?_;refine Zs b fun _ aI=>?_;refine Ze (Vn X2 g)<|Zm rfl<|Zf (Vc (X69 _ d md C Ad cd (D.bx m).top Bd dd (E.bx m).top f u9 hN) X34) ?_;rintro _ w3 ⟨rfl,H⟩;have g:=g.bw H;have m:=btr m H;refine Ze (X0w rfl)<|Zt aI fun a b=>?_
  refine Xi b rfl (fun p=>?_) (fun p=>?_)
  ·have aA:=p
   have q:rdyD d l=false:=X5e (k:=k) (by have:=(Qg.1 B).1;omega) (by unfold rdQ;rw [a7];have A:=p;simp only [Bool.not_eq_true'] at A;rw [A];rfl)
   refine Zs b fun _ aJ=>?_;refine Za rfl<|Zt aJ fun a b=>?_;refine Q6<|X8<|Xw<|X8 ?_;refine X8<|Xw<|X8<|X6 b (Xp b rfl rfl) ?_;exact ⟨by rw [q],m⟩
  have aA:=p
  have aK:spI d.ns u9=true:=by have A:=p;simpa using A
  refine Q7<|aH _ _<|Zs b fun _ aL=>?_;refine Zm rfl<|Zm rfl ?_;have o:=((G.bx m).top).takeK Xd k;refine Ze (X2r (l:=l) (k:=k) rfl rfl Xj X0b rfl hk aU)<|Ze (X09 rfl Xj)<|Zm rfl<|Zt aL fun a b=>?_;refine Q8<|X01 (σ:=Nat) (fun (j:Nat) (a:Act) (w:World)=>Fr a 35 [(1,.slice Al l.length cl),(2,(pZ9 b5)),(6,vi u9),(9,.slice Al l.length cl),(10,vi (l.length:Int)),(11,vi (k:Int)),(22,.slice Al (l.take k).length cl),(23,vi ((l.take k).length:Int)),(24,vi (j:Int))]/\(j<=(l.take k).length)/\(((l.take k).take j).all (fun y=>tyW d.ws u9 y != 1)=true)/\Blk w b5 39 [vi d.n,.slice Ad md cd,.slice Bd d.ws.length dd,vi d.t,vi d.r]/\Rd w w3.heap.size 3 encI Al (l.take k)/\d.ws.length<=dd/\Below h.heap.size h w) (fun (j:Nat)=>(l.take k).length-j) 0 ?_ ?_
  ·exact ⟨b.sb,(Qf _),rfl,g,o,f,m⟩
  rintro j a w4 ⟨b,hj,J,g,o,f,m⟩;refine Zs b fun _ aM=>?_;refine Ze (X0n rfl rfl)<|ZX aM fun a b _ aN=>?_
  refine Xi b rfl (fun e=>?_) (fun e=>?_)
  ·have aB:=e;have e:=Q2 e
   obtain ⟨bA,b6⟩:=X4 (l:=(l.take k)) (k:=j) (by omega)
   have bB:(l.take k).length<=1000000000:=by rw [Qn];omega
   obtain ⟨v9,aC⟩:=X4 (l:=l.take k) (k:=j) (by have:=e;omega)
   refine Q7<|aN _ _<|Q5 fun _ aO=>?_;refine Q8<|Zs b fun _ aP=>?_;refine Zi (k:=j) (u:=v9) (enc:=encI) (l:=(l.take k)) tv0 rfl rfl Xj X0b Xd o aC rfl ?_;intro bC aD;refine Ze (X0 rfl X9 aD)<|Za rfl<|Zx aP fun a b _ aQ=>?_;refine Ze (Vn X2 g)<|Zm rfl<|Zm rfl<|Zf (Vc (X9i _ d md C Ad cd (D.bx m).top Bd dd (E.bx m).top f u9 v9 aT) X4v) ?_;rintro _ w5 ⟨rfl,H⟩;have g:=g.bw H;have o:=o.bw H;have m:=btr m H;refine Ze (X0k rfl rfl)<|Zt aQ fun a b=>?_
   refine Xi b rfl (fun x=>?_) (fun x=>?_)
   ·have aE:=x
    have q:rdyD d l=false:=X5e (k:=k) (by have:=(Qg.1 B).1;omega) (by unfold rdQ;rw [a7,aK,Qw];exact Xnh aC (by have A:=x;simp only [beq_iff_eq] at A;rw [A];rfl))
    refine Zs b fun _ aR=>?_;refine Za rfl<|Zt aR fun a b=>?_;refine Q6<|Xw<|X8<|X8 ?_;refine Xw<|Xw<|X8<|X8 ?_;refine Xw<|X8<|X6 b (Xp b rfl rfl) ?_;exact ⟨by rw [q],m⟩
   have aE:=x
   have b1:(tyW d.ws u9 v9 != 1)=true:=by have A:=x;simpa using A
   refine Q7<|Xa<|aO _ _<|Zr b ?_;refine Ze (Xs rfl rfl (by omega) (by omega))<|Zm rfl ?_;refine Zn fun a b=>?_;refine Xc ?_;exact ⟨j+1,⟨b.sb,(by omega),(Xm8 J aC b1),g,o,f,m⟩,(by omega)⟩
  have aB:=e;have e:=Q1 e
  have b2:rdQ d l k=true:=by unfold rdQ;rw [a7,aK,Xfb J (by have:=e;omega)];rfl
  refine Q9<|Xk<|Xk<|X02 ?_;refine Xa<|aF _ _<|Zr b<|Ze (Xs rfl rfl (by omega) (by omega))<|Zm rfl ?_;refine Zn fun a b=>?_;refine Xc ?_;exact ⟨k+1,⟨b.sb,(by omega),(fun i hi=>by by_cases A:i=k;rw [A];exact b2;exact I i (by omega)),g,f,m⟩,(by omega)⟩
 have a6:=c;have c:=Q1 c
 have q:rdyD d l=true:=X4s fun j hj=>I j (by have:=c;omega)
 refine Q9<|Xk<|Xk<|X02 ?_;refine aX _ _<|Zs b fun _ aS=>?_;refine Za rfl<|Zt aS fun a b=>?_
 refine Q6 (X6 b (Xp b rfl rfl) ?_)
 exact ⟨by rw [q],m⟩
theorem Xac(U:World)(d:Dg)(md:Nat)(aD:md=d.ns.length)(Ad:Option Addr)(cd:Nat)(aC:Nat)(c:Own U aC 81 2 encNd Ad cd d.ns)(bE:aC<=U.heap.size)(Bd:Option Addr)(dd:Nat)(e:Rd U U.heap.size 83 encWr Bd d.ws)(Q:d.ws.length<=dd)(p:Int)(b3:0<=p/\p.toNat<d.ns.length)(bG:d.ws.length<=1000000000) : Ret Tryz.prog 210 [.agg #[vi d.n,.slice Ad md cd,.slice Bd d.ws.length dd,vi d.t,vi d.r],vi p] U (fun v w=>∃ A' c',v=.agg #[vi ({ d with ns:=dpN d.ns p,ws:=dpW d.ws p } : Dg).n,.slice Ad md cd,.slice A' ({ d with ns:=dpN d.ns p,ws:=dpW d.ws p } : Dg).ws.length c',vi ({ d with ns:=dpN d.ns p,ws:=dpW d.ws p } : Dg).t,vi ({ d with ns:=dpN d.ns p,ws:=dpW d.ws p } : Dg).r]/\Own w aC 81 2 encNd Ad cd ({ d with ns:=dpN d.ns p,ws:=dpW d.ws p } : Dg).ns/\Rd w w.heap.size 83 encWr A' ({ d with ns:=dpN d.ns p,ws:=dpW d.ws p } : Dg).ws/\({ d with ns:=dpN d.ns p,ws:=dpW d.ws p } : Dg).ws.length<=c'/\md=({ d with ns:=dpN d.ns p,ws:=dpW d.ws p } : Dg).ns.length/\U.grownBy w (Value.slice Ad d.ns.length cd).ownBlock):=by
 refine enter Tryz.func210 rfl 38 rfl rfl ?_;intro a y
 have D:U.grownBy U (Value.slice Ad d.ns.length cd).ownBlock:=World.grownBy.refl _ _
 refine Zs y fun _ b5=>?_;refine Zf (X0l (zs:=[vi d.n,.slice Ad md cd,.slice Bd d.ws.length dd,vi d.t,vi d.r]) rfl rfl) ?_;rintro _ w1 ⟨b4,rfl,b6,E,g⟩;have aN:=Q0 D.size b6;have c:=c.bw E;have e:=e.bw E;have D:=gbel D E;refine Zf (Xq (zs:=[vi 0,.slice none 0 0,.slice none 0 0,vi 0,vi 0]) X0h rfl) ?_;rintro _ w2 ⟨b7,rfl,b8,E,i⟩
 have b2:b4≠b7:=by have:=g.lt;omega
 have aO:=Q0 D.size b8;have g:=g.bw E;have c:=c.bw E;have e:=e.bw E;have D:=gbel D E;refine Zx b5 fun a y _ b9=>?_;refine Ze (Vd rfl Xf 1)<|Ze (X0 rfl Xz (g.at 1))<|Zm rfl<|Ze (X0s (ps:=[]) (cs:=[vi 0,vi 0]) rfl (fun _=>by first|rfl|kernel_rfl))<|Ze (Xx (k:=p.toNat) rfl rfl Xm X06 c aD (by omega) (by omega))<|Zo (X11 (enc:=encNd) (l:=d.ns) (vs:=[vi 0,vi 0]) (x0:=(d.ns.getD p.toNat nZ)) (u:=(⟨0,0⟩ : Nd)) (k:=p.toNat) (j:=0) (n1:=2) rfl rfl X06 c Xv rfl rfl rfl rfl (by decide) (Xg b3.2) rfl) ?_;rintro _ w3 ⟨aE,hg⟩;have x:=c;have g:=g.appT x hg rfl;have i:=i.appT x hg rfl;have e:=e.appT x hg rfl;have D:=gtr D hg
 clear x hg;clear c;have c:=aE;clear aE;refine Zx b9 fun a y _ bA=>?_;refine Za rfl<|ZX bA fun a y _ aP=>?_;refine Zs y fun _ aQ=>?_;refine Ze (Vd rfl Xl 2)<|Ze (X0 rfl X0d (g.at 2))<|Ze (X09 rfl Xr)<|Zm rfl<|Zt aQ fun a y=>?_;refine Q8<|X01 (σ:=Nat×(List Wr)) (fun (s:Nat×(List Wr)) (a:Act) (w:World)=>match s with|(k,m)=>∃ G H,Fr a 38 [(1,vi p),(2,(pZ9 b4)),(4,(pZ9 b7)),(5,.slice G m.length H),(14,.slice Bd d.ws.length dd),(15,vi (d.ws.length:Int)),(16,vi (k:Int))]/\(k<=d.ws.length)/\(m=(d.ws.take k).filter (fun w=>w.a != p&&w.b != p))/\Blk w b4 39 [vi d.n,.slice Ad md cd,.slice Bd d.ws.length dd,vi d.t,vi d.r]/\Blk w b7 39 [vi 0,.slice none 0 0,.slice none 0 0,vi 0,vi 0]/\Own w U.heap.size 83 3 encWr G H m/\Rd w U.heap.size 83 encWr Bd d.ws/\Own w aC 81 2 encNd Ad cd (d.ns.set p.toNat (⟨0,0⟩ : Nd))/\d.ws.length<=dd/\U.grownBy w (Value.slice Ad d.ns.length cd).ownBlock) (fun (s:Nat×(List Wr))=>match s with|(k,m)=>d.ws.length-k) (0,[]) ?_ ?_
 ·exact ⟨none,0,y.sb,(Qf _),rfl,g,i,(Own.nil _ _ _ _ _),e,c,Q,D⟩
 rintro ⟨k,m⟩ a w4 ⟨G,H,y,hk,hm,g,i,f,e,c,Q,D⟩
 have bH:m.length<=d.ws.length:=by rw [hm];exact Q0 (List.length_filter_le _ _) (by rw [Qn];omega)
 refine Zs y fun _ aR=>?_;refine Ze (X0n rfl rfl)<|ZX aR fun a y _ aS=>?_
 refine Xi y rfl (fun B=>?_) (fun B=>?_)
 ·have M:=B;have B:=Q2 B
  obtain ⟨bJ,bF⟩:=X4 (l:=d.ws) (k:=k) (by omega)
  obtain ⟨J,aG⟩:=X4 (l:=d.ws) (k:=k) (by have:=B;omega)
  refine Q7<|aS _ _<|Q5 fun _ aF=>?_;refine Q8<|Zs y fun _ aT=>?_;refine Zi (k:=k) (u:=J) (enc:=encWr) (l:=d.ws) tv0 rfl rfl Xr X0c Xy e aG rfl ?_;intro bK aH;refine Ze (X03 (l:=[vi J.a,vi J.b,.bool J.h]) rfl X10 aH rfl)<|Zf (Xq (zs:=[vi 0,vi 0,.bool false]) X2s rfl) ?_;rintro _ w5 ⟨aU,rfl,a6,E,A⟩;have a7:=Q0 D.size a6;have I:=f.away a6;have aV:=e.away a6;have g:=g.bw E;have i:=i.bw E;have f:=f.bw E;have e:=e.bw E;have c:=c.bw E;have D:=gbel D E;refine Zo (Vw [vi J.a,vi J.b,.bool J.h] X0c A) ?_;rintro _ w6 ⟨N,hb⟩;have C:=A;have g:=g.oz N C rfl;have i:=i.oz N C rfl;have f:=f.onlyA N I;have e:=e.oy N a7;have c:=c.oT N C rfl;have D:=gonly D N a7;have A:=hb;refine ZX aT fun a y _ aW=>?_;refine X0a (fun a w=>Fr a 38 [(1,vi p),(2,(pZ9 b4)),(4,(pZ9 b7)),(5,.slice G m.length H),(7,(pZ9 aU)),(14,.slice Bd d.ws.length dd),(15,vi (d.ws.length:Int)),(16,vi (k:Int)),(29,.bool ((J.a != p)&&(J.b != p)))]/\w6=w) ?_ ?_
  ·refine Zr y<|Ze (Vd rfl X0p 0)<|Ze (X0 rfl X9 (A.at 0))<|Zm rfl<|Ze (X1e rfl rfl)<|Zm rfl ?_
   refine Zg 24 rfl (fun o=>?_) (fun o=>?_)
   ·refine Zv (gW o) (Vd rfl X0r 1) ?_;refine Zv (gW o) (X0 rfl X9 (A.at 1)) ?_;refine Zv (gW o) (X3 rfl) ?_;refine Zv (gW o) (X1e rfl rfl) ?_;refine Ze (X5 rfl o rfl) ?_;refine Zn fun a y=>?_;exact ⟨y.sub ⟨rfl,rfl,rfl,rfl,rfl,rfl,rfl,rfl,X1 rfl (by simp [M,o]),trivial⟩,rfl⟩
   (iterate 4 refine Zp (gP o) ?_);refine Ze (Xb rfl o rfl) ?_;refine Zn fun a y=>?_;exact ⟨y.sub ⟨rfl,rfl,rfl,rfl,rfl,rfl,rfl,rfl,X1 rfl (by simp [M,o]),trivial⟩,rfl⟩
  rintro a _ ⟨y,rfl⟩;refine aW _ _ ?_
  refine Xi y rfl (fun L=>?_) (fun L=>?_)
  ·have aI:=L
   have a8:=X3e (q:=fun w=>w.a != p&&w.b != p) aG
   rw [Q4 L,<- hm] at a8
   refine Zr y<|Zm rfl<|Ze (Vn X10 A)<|Zf (Xn (k:=1) (vs:=[.agg #[vi J.a,vi J.b,.bool J.h]]) (zs:=[vi J.a,vi J.b,.bool J.h]) rfl Xr X0z rfl rfl) ?_;rintro _ w7 ⟨b26,rfl,aA,E,aB⟩
   have aK:aU≠b26:=by have:=A.lt;omega
   have bB:=Q0 D.size aA;have W:=f.away aA;have aX:=e.away aA;have g:=g.bw E;have i:=i.bw E;have A:=A.bw E;have f:=f.bw E;have e:=e.bw E;have c:=c.bw E;have D:=gbel D E;refine Zf (X0t (enc:=encWr) (l:=(m)) (l2:=([J])) (B0:=U.heap.size) rfl rfl Xr X0z Xy X1p f (Rd.of_blk aB rfl _ aB.lt) (by simp only [maxLen];simp;omega) (by simp;omega) D.size) ?_;rintro _ w8 ⟨bC,bD,rfl,aY,hg,aJ⟩
   have x:Own _ U.heap.size 83 3 encWr _ _ (m):=f
   have aL:=aJ _ A.lt I;have aM:=aJ _ aB.lt W;clear aJ;have g:=g.appT x hg rfl;have i:=i.appT x hg rfl;have e:=e.appB x hg (Qb _);have c:=c.appT x hg rfl;have D:=gapp D x hg;clear x hg;refine Za rfl ?_;refine Zn fun a y=>?_;refine Xa<|aF _ _<|Zr y<|Ze (Xs rfl rfl (by omega) (by omega))<|Zm rfl ?_;refine Zn fun a y=>?_;refine Xc ?_;exact ⟨(k+1,m++([J])),⟨bC,bD,y.sb,(by omega),(by rw [a8]),g,i,aY,e,c,Q,D⟩,(by first|omega|(dsimp only;omega))⟩
  have aI:=L
  have a8:=X3e (q:=fun w=>w.a != p&&w.b != p) aG
  rw [Q3 (by rw [L];decide),List.append_nil,<- hm] at a8
  refine Q7<|Xa<|aF _ _<|Zr y ?_;refine Ze (Xs rfl rfl (by omega) (by omega))<|Zm rfl ?_;refine Zn fun a y=>?_;refine Xc ?_;exact ⟨(k+1,m),⟨G,H,y.sb,(by omega),(by rw [a8]),g,i,f,e,c,Q,D⟩,(by first|omega|(dsimp only;omega))⟩
 have M:=B;have B:=Q1 B
 have aZ:m=dpW d.ws p:=by rw [hm,Qi (by have:=B;omega)];rfl
 refine Q9<|Xk<|Xk<|X02 ?_;refine aP _ _<|Zs y fun _ b0=>?_;refine Zm rfl<|Ze (Vd rfl Xl 2)<|Zo (Vu (vs:=[.slice G m.length H]) (l':=[vi d.n,.slice Ad md cd,.slice G m.length H,vi d.t,vi d.r]) rfl rfl X1f g) ?_;rintro _ w9 ⟨N,hb⟩;have C:=g;have i:=i.oy N (by omega);have f:=f.oT N C rfl;have c:=c.oT N C rfl;have D:=gonly D N aN;have g:=hb;refine Zx b0 fun a y _ b1=>?_;refine Ze (Vn X2 g)<|Zo (Vw [vi d.n,.slice Ad md cd,.slice G m.length H,vi d.t,vi d.r] Xh i) ?_;rintro _ bL ⟨N,hb⟩;have C:=i;have f:=f.oT N C rfl;have c:=c.oT N C rfl;have D:=gonly D N aO;have i:=hb;refine Zt b1 fun a y=>?_
 refine Q6 (X6 y (Xp y rfl (ResV.cellN (l:=[vi d.n,.slice Ad md cd,.slice G m.length H,vi d.t,vi d.r]) rfl X2 (i.at 0) rfl)) ?_)
 rw [<- aZ]
 exact ⟨G,H,rfl,c,f.rd.top,f.cap,aD.trans (X1j _ _).symm,D⟩
structure InD (d:Dg) : Prop where
 w:InW d.ws
 e:∀ x ∈ d.ws,0<=x.a/\x.b<d.ns.length
 p:PhN d.ns
 m:d.ns.length<=1000
theorem X7f:∀ {l:List Wr} (N:Nat),(∀ x ∈ l,0<=x.a/\x.a<x.b/\x.b<N)->WSd l->∀ m:Nat,(∀ x ∈ l,(m:Int)<=x.a*N+x.b)->l.length+m<=N*N+1∨l=[]
 | [],_,_,_,_,_=>.inr rfl
 | x::l,N,h,hs,m,hm=>by
  left
  have hx:=h x (by simp)
  have hmx:=hm x (by simp)
  have hs':=W8.1 hs
  have hb:x.a*N+x.b<N*N:=by
   have:x.a+1<=N:=by omega
   have h2:(x.a+1)*N<=(N:Int)*N:=Int.mul_le_mul_of_nonneg_right this (by omega)
   rw [Int.add_mul,Int.one_mul] at h2
   omega
  have hstep:∀ y ∈ l,((m+1:Nat) : Int)<=y.a*N+y.b:=fun y hy=>by
   have hl:=hs'.1 y hy
   rw [X3y] at hl
   have hy0:=h y (by simp [hy])
   have hkey:x.a*N+x.b+1<=y.a*N+y.b:=by
    rcases hl with hl|⟨hl,hl2⟩
    ·have h2:(x.a+1)*N<=y.a*N:=Int.mul_le_mul_of_nonneg_right (by omega) (by omega)
     rw [Int.add_mul,Int.one_mul] at h2
     omega
    ·rw [hl];omega
   omega
  have hN:((N*N:Nat) : Int)=(N:Int)*N:=by simp
  rcases X7f N (fun y hy=>h y (by simp [hy])) hs'.2 (m+1) hstep with h1|h1
  ·rw [Qs];omega
  ·subst h1
   simp only [Qs,List.length_nil]
   omega
theorem InD.len{d:Dg}(h:InD d) : d.ws.length<=1000001:=by
 have h1:=X7f d.ns.length (fun x hx=>⟨(h.e x hx).1,h.w.l x hx,(h.e x hx).2⟩) h.w.s 0 (fun x hx=>by
  have e:=h.e x hx
  have l:=h.w.l x hx
  have:0<=x.a*(d.ns.length:Int):=Int.mul_nonneg e.1 (by omega)
  omega)
 rcases h1 with h1|h1
 ·have:=Nat.mul_le_mul h.m h.m
  omega
 ·rw [h1];simp
theorem X1i{d:Dg}(h:InD d){k v:Int}(hv:v ∈ nearW d.ws k) : 0<=v/\v.toNat<d.ns.length:=by
 obtain ⟨w,hw,ho⟩:=X3b.1 hv
 have e:=h.e w hw
 have l:=h.w.l w hw
 rcases X35 ho with ⟨_,h2⟩|⟨_,h2⟩<;>omega
theorem X6v{d:Dg}(h:InD d){k v:Int}{j:Nat}(hv:(nearW d.ws k)[j]? = some v) : 0<=v/\v.toNat<d.ns.length:=X1i h (Qe hv)
theorem Xju(d:Dg)(a b:Int)(h:Bool) : (lkD d a b h).ns.length=d.ns.length/\(lkD d a b h).ws.length<=d.ws.length+1:=by
 have h1:=X3u d.ws a b h;have h2:=(X3f d.ws (fdW d.ws a b).toNat).length_le;have h3:=X3u (ctW d.ws (fdW d.ws a b).toNat) a b false
 unfold lkD
 split
 ·exact ⟨rfl,by dsimp only;omega⟩
 ·split
  ·exact ⟨rfl,by dsimp only;omega⟩
  ·split
   ·exact ⟨X1r _ _ _,by dsimp only;omega⟩
   ·exact ⟨rfl,by omega⟩
theorem X6n(d:Dg)(a b:Int)(h:Bool) : (mtD d a b h).ns.length=d.ns.length/\(mtD d a b h).ws.length<=d.ws.length+1:=by
 unfold mtD
 split
 ·exact Xju d a b h
 ·exact ⟨rfl,by dsimp only;rw [X3u];omega⟩
theorem X2d(d:Dg)(a b:Int) : (tgD d a b).ns=d.ns/\(tgD d a b).ws.length<=d.ws.length+1:=by
 have h2:=(X3f d.ws (fdW d.ws a b).toNat).length_le
 unfold tgD
 split
 ·exact ⟨rfl,by dsimp only;omega⟩
 ·exact ⟨rfl,by dsimp only;rw [X3u];omega⟩
theorem Y1j{d:Dg}(hp:PhN d.ns)(a b:Int)(h:Bool) : PhN (lkD d a b h).ns:=by
 unfold lkD
 split
 ·exact hp
 ·split
  ·exact hp
  ·split
   ·exact X61 hp _ _
   ·exact hp
theorem Xk2{d:Dg}(hp:PhN d.ns)(a b:Int)(h:Bool) : PhN (mtD d a b h).ns:=by
 unfold mtD
 split
 ·exact Y1j hp a b h
 ·exact hp
def fuC(d:Dg)(a b:Int) : Bool:=spI d.ns a&&spI d.ns b&&decide (a<b)&&tyW d.ws a b==1
def fu0(d:Dg)(a b:Int) : Dg:={ d with ns:=adN (dpN d.ns b) a (d.ns.getD b.toNat nZ).p,ws:=dpW d.ws b }
def fuT(d:Dg)(a b:Int)(o:Dg)(v:Int) : Dg:=if v=a then o else mtD o a v (tyW d.ws b v==2)
def fuS(d:Dg)(a b:Int)(l:List Int)(o:Dg) : Dg:=l.foldl (fuT d a b) o
def fuD(d:Dg)(a b:Int) : Dg:=fuS d a b (nearW d.ws b) (fu0 d a b)
theorem X6y{d:Dg}{a b:Int}{l:List Int}{o:Dg}{k:Nat}{v:Int}(hv:l[k]? = some v) : fuS d a b (l.take (k+1)) o=fuT d a b (fuS d a b (l.take k) o) v:=by
 unfold fuS
 rw [Qt,hv,Option.toList_some,List.foldl_append]
 rfl
theorem Xsk{d o:Dg}{a b v:Int}(h:(v != a)=true) : fuT d a b o v=mtD o a v (tyW d.ws b v==2):=by
 unfold fuT;rw [Q3 (by simpa using h)]
theorem Xsu{d o:Dg}{a b v:Int}(h:(v != a)=false) : fuT d a b o v=o:=by
 unfold fuT;rw [Q4 (by simpa using h)]
def idC(d:Dg)(a:Int) : Bool:=spI d.ns a&&(d.ns.getD a.toNat nZ).p==0&&(nearW d.ws a).length==2
def id0(d:Dg)(a:Int) : Dg:={ d with ns:=dpN d.ns a,ws:=dpW d.ws a }
def idD(d:Dg)(a:Int) : Dg:=mtD (id0 d a) ((nearW d.ws a).getD 0 0) ((nearW d.ws a).getD 1 0) (tyW d.ws a ((nearW d.ws a).getD 0 0) != tyW d.ws a ((nearW d.ws a).getD 1 0))
def loC(d:Dg)(a:Int) : Bool:=spI d.ns a&&(d.ns.getD a.toNat nZ).p==0&&(nearW d.ws a).length==0
def loD(d:Dg)(a:Int) : Dg:={ d with ns:=dpN d.ns a,ws:=dpW d.ws a,r:=wr (d.r+2) }
def tgL(o:Dg)(x:Int)(l:List Int) : Dg:=l.foldl (fun o y=>tgD o x y) o
theorem Xmz{o:Dg}{x:Int}{l:List Int}{k:Nat}{v:Int}(hv:l[k]? = some v) : tgL o x (l.take (k+1))=tgD (tgL o x (l.take k)) x v:=by
 unfold tgL
 rw [Qt,hv,Option.toList_some,List.foldl_append]
 rfl
def lcC(d:Dg)(a:Int) : Bool:=spI d.ns a&&(d.ns.getD a.toNat nZ).p % 4==2&&hadD d a&&rdyD d (nearW d.ws a)
def lcS(p:Int)(l:List Int)(o:Dg) : Nat->Dg
 | 0=>o
 | i+1=>tgL { lcS p l o i with ns:=adN (lcS p l o i).ns (l.getD i 0) (8-p) } (l.getD i 0) (l.take i)
def lcD(d:Dg)(a:Int) : Dg:=
 let o:=lcS (d.ns.getD a.toNat nZ).p (nearW d.ws a) (id0 d a) (nearW d.ws a).length
 { o with t:=wr (o.t+(if (d.ns.getD a.toNat nZ).p=2 then 1 else 7)),r:=wr (o.r+(1-((nearW d.ws a).length:Int))) }
theorem Xh3(x:Int) : ∀ (l:List Int) (o:Dg),(tgL o x l).ns=o.ns/\(tgL o x l).ws.length<=o.ws.length+l.length
 | [],o=>⟨rfl,by simp [tgL]⟩
 | v::l,o=>by
  have h:=Xh3 x l (tgD o x v);have h1:=X2d o x v
  have e:tgL o x (v::l)=tgL (tgD o x v) x l:=rfl
  rw [e]
  exact ⟨h.1.trans h1.1,by rw [Qs];omega⟩
theorem Y2f{d:Dg}{a b:Int}(h:(!(spI d.ns a)||!(spI d.ns b)||decide (b<=a)||tyW d.ws a b != 1)=true) : fuC d a b=false:=by
 unfold fuC
 cases h1:spI d.ns a<;>cases h2:spI d.ns b<;>simp [h1,h2] at h ⊢
 intro h3
 rcases h with h|h
 ·omega
 ·exact h
theorem Xuh{d:Dg}{a b:Int}(h:(!(spI d.ns a)||!(spI d.ns b)||decide (b<=a)||tyW d.ws a b != 1)=false) : fuC d a b=true:=by
 unfold fuC
 cases h1:spI d.ns a<;>cases h2:spI d.ns b<;>simp [h1,h2] at h ⊢
 exact ⟨by omega,h.2⟩
theorem X53{d:Dg}{a b:Int}(h:fuC d a b=true) : (0<=a/\a.toNat<d.ns.length)/\(0<=b/\b.toNat<d.ns.length):=by
 unfold fuC at h
 simp only [Qd] at h
 have h1:=X0f h.1.1.1;have h2:=X0f h.1.1.2;exact ⟨⟨h1.1,h1.2.1⟩,⟨h2.1,h2.2.1⟩⟩
theorem Y11{d:Dg}(h:InD d)(a b:Int) : 0<=((dpN d.ns b).getD a.toNat nZ).p+(d.ns.getD b.toNat nZ).p/\((dpN d.ns b).getD a.toNat nZ).p+(d.ns.getD b.toNat nZ).p<=1000:=by
 have h1:=X1l (X55 h.p b) a.toNat;have h2:=X1l h.p b.toNat
 omega
theorem X2b(ws:List Wr)(k:Int) : (dpW ws k).length<=ws.length:=List.length_filter_le _ _
theorem X71(d:Dg)(a b:Int) : (fu0 d a b).ns.length=d.ns.length/\(fu0 d a b).ws.length<=d.ws.length+0:=⟨(X1r _ _ _).trans (X1j _ _),X2b _ _⟩
theorem Xil{d:Dg}(h:InD d)(a b:Int) : PhN (fu0 d a b).ns:=X61 (X55 h.p b) _ _
theorem Xep{d:Dg}{a:Int}(h:(!(spI d.ns a)||(d.ns.getD a.toNat nZ).p != 0)=true) : idC d a=false/\loC d a=false:=by
 unfold idC loC
 cases h1:spI d.ns a<;>simp [h1] at h ⊢
 exact ⟨fun h2=>absurd h2 h,fun h2=>absurd h2 h⟩
theorem Xaw{d:Dg}{a:Int}(h:(!(spI d.ns a)||(d.ns.getD a.toNat nZ).p != 0)=false) : (spI d.ns a=true)/\(d.ns.getD a.toNat nZ).p=0:=by
 cases h1:spI d.ns a<;>simp [h1] at h ⊢
 exact h
theorem Xiq{d:Dg}{a:Int}(h:(((nearW d.ws a).length:Int) != 2)=true) : idC d a=false:=by
 unfold idC
 have h2:¬ (nearW d.ws a).length=2:=by have:=(bne_iff_ne.1 h);omega
 simp [h2]
theorem Xhm{d:Dg}{a:Int}(h1:(spI d.ns a=true)/\(d.ns.getD a.toNat nZ).p=0)(h:(((nearW d.ws a).length:Int) != 2)=false) : idC d a=true/\(nearW d.ws a).length=2:=by
 have h2:(nearW d.ws a).length=2:=by
  have h9:((nearW d.ws a).length:Int)=2:=by simpa using h
  omega
 refine ⟨?_,h2⟩
 unfold idC
 rw [h1.1,h1.2,h2]
 rfl
theorem Xw0{d:Dg}{a:Int}(h:0<((nearW d.ws a).length:Int)) : loC d a=false:=by
 unfold loC
 have h2:¬ (nearW d.ws a).length=0:=by omega
 rw [show ((nearW d.ws a).length==0)=false from by simpa using h2,Bool.and_false]
theorem Xns{d:Dg}{a:Int}(h1:(spI d.ns a=true)/\(d.ns.getD a.toNat nZ).p=0)(h:¬ 0<((nearW d.ws a).length:Int)) : loC d a=true:=by
 have h2:(nearW d.ws a).length=0:=by omega
 unfold loC
 rw [h1.1,h1.2,h2]
 rfl
theorem X8j{d:Dg}(h:InD d){k:Int}{j:Nat}(hj:j<(nearW d.ws k).length) : 0<=(nearW d.ws k).getD j 0/\((nearW d.ws k).getD j 0).toNat<d.ns.length:=X6v h (Xg (d:=0) hj)
theorem Xxd(d:Dg)(a:Int) : (idD d a).ns.length=d.ns.length:=(X6n (id0 d a) _ _ _).1.trans (X1j _ _)
theorem Xtp{d:Dg}{a:Int}(h:(!(spI d.ns a)||(d.ns.getD a.toNat nZ).p != 0||decide (0<((nearW d.ws a).length:Int)))=true) : loC d a=false:=by
 simp only [Bool.or_eq_true,Qr] at h
 rcases h with h|h
 ·exact (Xep (by simpa using h)).2
 ·exact Xw0 h
theorem Xjj{d:Dg}{a:Int}(h:(!(spI d.ns a)||(d.ns.getD a.toNat nZ).p != 0||decide (0<((nearW d.ws a).length:Int)))=false) : loC d a=true/\0<=a/\a.toNat<d.ns.length:=by
 rw [Bool.or_eq_false_iff] at h
 have h1:=Xaw h.1;have h3:=X0f h1.1;exact ⟨Xns h1 (Q1 h.2),h3.1,h3.2.1⟩
theorem Xhb{n:Nat} : ∀ {l:List Int} (m:Nat),Inc l->(∀ x ∈ l,(m:Int)<=x/\x<n)->l.length+m<=n∨l=[]
 | [],_,_,_=>.inr rfl
 | x::l,m,hi,h=>by
  left
  have hi':=W8.1 hi
  have hx:=h x (by simp)
  rcases Xhb (m+1) hi'.2 (fun y hy=>⟨by have:=hi'.1 y hy;omega,(h y (by simp [hy])).2⟩) with h1|h1
  ·rw [Qs];omega
  ·subst h1
   simp only [Qs,List.length_nil]
   omega
theorem X3j{d:Dg}(h:InD d)(k:Int) : (nearW d.ws k).length<=d.ns.length:=by
 rcases Xhb (n:=d.ns.length) 0 (X2g (k:=k) h.w) (fun x hx=>by have:=X1i h hx;omega) with h1|h1
 ·omega
 ·rw [h1];simp
theorem Xa9{x:Int}(h:0<=x) : x.tmod 4=x % 4:=Int.tmod_eq_emod_of_nonneg h
theorem Xm4{d:Dg}(hd:InD d){a:Int}(h:(!(spI d.ns a)||((d.ns.getD a.toNat nZ).p.tmod 4 != 2))=true) : lcC d a=false:=by
 unfold lcC
 rw [Xa9 (X1l hd.p _).1] at h
 cases h1:spI d.ns a<;>simp [h1] at h ⊢
 exact fun h2=>absurd h2 h
theorem Xhn{d:Dg}(hd:InD d){a:Int}(h:(!(spI d.ns a)||((d.ns.getD a.toNat nZ).p.tmod 4 != 2))=false) : spI d.ns a=true/\((d.ns.getD a.toNat nZ).p=2∨(d.ns.getD a.toNat nZ).p=6):=by
 rw [Xa9 (X1l hd.p _).1] at h
 have h2:=X1l hd.p a.toNat
 generalize (d.ns.getD a.toNat nZ).p=x at h h2 ⊢
 cases h1:spI d.ns a<;>simp [h1] at h ⊢
 omega
theorem Xuy{d:Dg}{a:Int}(h:(!(hadD d a)||!(rdyD d (nearW d.ws a)))=true) : lcC d a=false:=by
 unfold lcC
 cases h1:hadD d a<;>cases h2:rdyD d (nearW d.ws a)<;>simp [h1,h2] at h ⊢
theorem Xev{d:Dg}{a:Int}(h1:spI d.ns a=true/\((d.ns.getD a.toNat nZ).p=2∨(d.ns.getD a.toNat nZ).p=6))(h:(!(hadD d a)||!(rdyD d (nearW d.ws a)))=false) : lcC d a=true:=by
 unfold lcC
 have h3:((d.ns.getD a.toNat nZ).p % 4==2)=true:=by rcases h1.2 with e|e<;>rw [e]<;>rfl
 rw [h1.1,h3]
 cases h4:hadD d a<;>cases h5:rdyD d (nearW d.ws a)<;>simp [h4,h5] at h ⊢
theorem Xrl{x:Int}(h:x=2∨x=6) : wr (1+wr (wr ((x-2).tdiv 4)*6))=if x=2 then 1 else 7:=by rcases h with h|h<;>subst h<;>decide
theorem Xkl{p u:Int}{l:List Int}{o:Dg}{k:Nat}(hu:l[k]? = some u) : lcS p l o (k+1)=tgL { lcS p l o k with ns:=adN (lcS p l o k).ns u (8-p) } u (l.take k):=by
 have e:l.getD k 0=u:=by rw [Qa,hu];rfl
 show tgL { lcS p l o k with ns:=adN (lcS p l o k).ns (l.getD k 0) (8-p) } (l.getD k 0) (l.take k)=_
 rw [e]
theorem Xki{d o:Dg}{a:Int}(h:o=lcS (d.ns.getD a.toNat nZ).p (nearW d.ws a) (id0 d a) (nearW d.ws a).length) : lcD d a = { o with t:=wr (o.t+(if (d.ns.getD a.toNat nZ).p=2 then 1 else 7)),r:=wr (o.r+(1-((nearW d.ws a).length:Int))) }:=by subst h;rfl
theorem Y42(w0:World)(d:Dg)(md:Nat)(M:md=d.ns.length)(Ad:Option Addr)(cd:Nat)(W:Rd w0 w0.heap.size 81 encNd Ad d.ns)(Bd:Option Addr)(dd:Nat)(a7:Rd w0 w0.heap.size 83 encWr Bd d.ws)(N:d.ws.length<=dd)(p:Int)(q:Int)(hD:InD d) : Ret Tryz.prog 175 [.agg #[vi d.n,.slice Ad md cd,.slice Bd d.ws.length dd,vi d.t,vi d.r],vi p,vi q] w0 (fun v w=>∃ A c B e,v=.tuple #[.agg #[vi (if (fuC d p q)=true then fuD d p q else d).n,.slice A md c,.slice B (if (fuC d p q)=true then fuD d p q else d).ws.length e,vi (if (fuC d p q)=true then fuD d p q else d).t,vi (if (fuC d p q)=true then fuD d p q else d).r],.bool (fuC d p q)]/\Rd w w.heap.size 81 encNd A (if (fuC d p q)=true then fuD d p q else d).ns/\Rd w w.heap.size 83 encWr B (if (fuC d p q)=true then fuD d p q else d).ws/\(if (fuC d p q)=true then fuD d p q else d).ws.length<=e/\md=(if (fuC d p q)=true then fuD d p q else d).ns.length/\Below w0.heap.size w0 w):=by
 have cL:=hD.len;have cM:=hD.m;have cN:=X1y d.ws q;refine enter Tryz.func175 rfl 69 rfl rfl ?_;intro a I
 have x:=bz w0
 refine Zs I fun _ bZ=>?_;refine Zf (X0l (zs:=[vi d.n,.slice Ad md cd,.slice Bd d.ws.length dd,vi d.t,vi d.r]) rfl rfl) ?_;rintro _ w1 ⟨b4,rfl,c5,h,f⟩;have cH:=Q0 x.size c5;have x:=btr x h;refine Zf (Xq (zs:=[vi 0,.slice none 0 0,.slice none 0 0,vi 0,vi 0]) X0h rfl) ?_;rintro _ w2 ⟨b7,rfl,cA,h,i⟩
 have bY:b4≠b7:=by have:=f.lt;omega
 have aR:=Q0 x.size cA;have f:=f.bw h;have x:=btr x h;refine Za rfl<|ZX bZ fun a I _ cB=>?_;refine Q5 fun _ cC=>?_;refine X0a (fun a w=>Fr a 69 [(1,vi p),(2,vi q),(3,(pZ9 b4)),(6,(pZ9 b7)),(32,.bool ((((!(spI d.ns p))||(!(spI d.ns q)))||(decide (q<=p)))||((tyW d.ws p q) != 1)))]/\Below w2.heap.size w2 w) ?_ ?_
 ·have aA:Below w2.heap.size w2 w2:=Below.refl _ _
  refine Zr I<|Ze (Vn X2 f)<|Zm rfl<|Zf (Vc (X69 _ d md M Ad cd (W.bx x).top Bd dd (a7.bx x).top N p (by rw [M];exact hD.m)) X34) ?_;rintro _ w3 ⟨rfl,h⟩;have f:=f.bw h;have x:=btr x h;have aA:=btr aA h;refine Ze (X0w rfl)<|Zm rfl ?_
  refine Zg 15 rfl (fun D=>?_) (fun D=>?_)
  ·(iterate 4 refine Zp (gP D) ?_);refine Ze (X5 rfl D rfl)<|Zm rfl<|Zp (gP rfl) ?_;(iterate 2 refine Zp (gP rfl) ?_);refine Ze (X5 rfl rfl rfl)<|Zm rfl<|Zp (gP rfl) ?_;(iterate 4 refine Zp (gP rfl) ?_);refine Ze (X5 rfl rfl rfl) ?_;refine Zn fun a I=>?_
   have aI:Below w2.heap.size w2 w3:=aA
   exact ⟨I.sub ⟨rfl,rfl,rfl,rfl,X1 rfl (by simp [D]),trivial⟩,aI⟩
  refine Zv (gW D) (Vn X2 f) ?_;refine Zv (gW D) (X3 rfl) ?_;refine Zk (gW D) (Vc (X69 _ d md M Ad cd (W.bx x).top Bd dd (a7.bx x).top N q (by rw [M];exact hD.m)) X34) ?_;rintro _ w4 ⟨rfl,h⟩;have f:=f.bw h;have x:=btr x h;have aA:=btr aA h;refine Zv (gW D) (X0w rfl) ?_;refine Ze (Xb rfl D rfl)<|Zm rfl ?_
  refine Zg 21 rfl (fun L=>?_) (fun L=>?_)
  ·(iterate 3 refine Zp (gP L) ?_);refine Ze (X5 rfl L rfl)<|Zm rfl<|Zp (gP rfl) ?_;(iterate 4 refine Zp (gP rfl) ?_);refine Ze (X5 rfl rfl rfl) ?_;refine Zn fun a I=>?_
   have aI:Below w2.heap.size w2 w4:=aA
   exact ⟨I.sub ⟨rfl,rfl,rfl,rfl,X1 rfl (by simp [D,L]),trivial⟩,aI⟩
  refine Zv (gW L) (X3 rfl) ?_;refine Zv (gW L) (X3 rfl) ?_;refine Zv (gW L) (X5h rfl rfl) ?_;refine Ze (Xb rfl L rfl)<|Zm rfl ?_
  refine Zg 26 rfl (fun E=>?_) (fun E=>?_)
  ·(iterate 5 refine Zp (gP E) ?_);refine Ze (X5 rfl E rfl) ?_;refine Zn fun a I=>?_
   have aI:Below w2.heap.size w2 w4:=aA
   exact ⟨I.sub ⟨rfl,rfl,rfl,rfl,X1 rfl (by simp [D,L,E]),trivial⟩,aI⟩
  refine Zv (gW E) (Vn X2 f) ?_;refine Zv (gW E) (X3 rfl) ?_;refine Zv (gW E) (X3 rfl) ?_;refine Zk (gW E) (Vc (X9i _ d md M Ad cd (W.bx x).top Bd dd (a7.bx x).top N p q (by have:=hD.len;omega)) X4v) ?_;rintro _ w5 ⟨rfl,h⟩;have x:=btr x h;have aA:=btr aA h;refine Zv (gW E) (X1e rfl rfl) ?_;refine Ze (Xb rfl E rfl) ?_;refine Zn fun a I=>?_
  have aI:Below w2.heap.size w2 w5:=aA
  exact ⟨I.sub ⟨rfl,rfl,rfl,rfl,X1 rfl (by simp [D,L,E]),trivial⟩,aI⟩
 rintro a w6 ⟨I,h⟩;have f:=f.bw h;have i:=i.bw h;have x:=btr x h;refine cC _ _ ?_
 refine Xi I rfl (fun aD=>?_) (fun aD=>?_)
 ·have aT:=aD
  have cD:fuC d p q=false:=Y2f aD
  refine Zs I fun _ b0=>?_;refine Ze (Vn X2 f)<|Zo (Vw [vi d.n,.slice Ad md cd,.slice Bd d.ws.length dd,vi d.t,vi d.r] Xh i) ?_;rintro _ w7 ⟨ho,hb⟩;have J:=i;have x:=Below.oy x ho aR;have i:=hb;refine Za rfl<|Zt b0 fun a I=>?_;refine Q6<|X8<|X6 I (X1v I rfl (ResV.cellN (l:=[vi d.n,.slice Ad md cd,.slice Bd d.ws.length dd,vi d.t,vi d.r]) rfl X2 (i.at 0) rfl) rfl) ?_
  rw [cD,Q3 Bool.false_ne_true]
  exact ⟨Ad,cd,Bd,dd,rfl,(W.bx x).top,(a7.bx x).top,N,M,x⟩
 have aT:=aD
 have b1:fuC d p q=true:=Xuh aD
 obtain ⟨b2,b3⟩:=X53 b1;refine Q7<|cB _ _<|Zs I fun _ b5=>?_;refine Ze (Vn X2 f)<|Zf (Vc (Xaj _ d md M Ad cd (W.bx x).top Bd dd (a7.bx x).top N ⟨by have:=hD.m;omega,by have:=hD.len;omega⟩) X5y) ?_;rintro _ w8 ⟨aM,aN,cE,cF,rfl,y,aK,h⟩;have y:=y.lower x.size;have aK:=aK.lower x.size;have f:=f.bw h;have i:=i.bw h;have x:=btr x h;refine Zm rfl<|Zf (Vc (Xac _ d d.ns.length rfl aM aN _ y x.size cE cF aK.rd.top aK.cap q ⟨b3.1,by omega⟩ (by omega)) X5l) ?_;rintro _ w9 ⟨b6,b8,rfl,a6,a8,b9,bA,hg⟩;have C:=y;have f:=f.appT C hg rfl;have i:=i.appT C hg rfl;have x:=Below.app x C hg (Qb _) x.size
 clear C hg;clear y;have y:=a6;clear a6;refine Zf (Xq (zs:=[vi 0,.slice none 0 0,.slice none 0 0,vi 0,vi 0]) X0h rfl) ?_;rintro _ cO ⟨b21,rfl,bB,h,g⟩
 have bC:b4≠b21:=by have:=f.lt;omega
 have bD:b7≠b21:=by have:=i.lt;omega
 have aJ:=Q0 x.size bB;have f:=f.bw h;have i:=i.bw h;have y:=y.bw h;have a8:=a8.bw h;have x:=btr x h;refine Zo (Vw [vi (({ d with ns:=dpN d.ns q,ws:=dpW d.ws q } : Dg).n),.slice aM d.ns.length aN,.slice b6 (({ d with ns:=dpN d.ns q,ws:=dpW d.ws q } : Dg).ws).length b8,vi (({ d with ns:=dpN d.ns q,ws:=dpW d.ws q } : Dg).t),vi (({ d with ns:=dpN d.ns q,ws:=dpW d.ws q } : Dg).r)] Xh g) ?_;rintro _ cP ⟨ho,hb⟩;have J:=g;have f:=f.oy ho (by omega);have i:=i.oy ho (by omega);have y:=y.oT ho J rfl;have a8:=a8.oT ho J rfl;have x:=Below.oy x ho aJ;have g:=hb;refine ZX b5 fun a I _ bE=>?_;refine X04 none (fun j=>[8,9].contains j) mixed ?_;intro cQ h;have f:=f.bw h;have i:=i.bw h;have g:=g.bw h;have y:=y.bw h;have a8:=a8.bw h;have x:=btr x h;refine Yb I<|Ye 0 rfl (Vn X2 g)<|Yo 1 rfl (fun _=>X3 rfl)<|Yo 2 rfl (fun _=>Vd rfl Xf 1)<|Ye 3 rfl (X0 rfl Xz (f.at 1))<|Yo 4 rfl (fun _=>X3 rfl)<|Yj (k:=q.toNat) (u:=(d.ns.getD q.toNat nZ)) (enc:=encNd) (l:=d.ns) 5 rfl tv0 rfl M rfl Xm X06 Xv (W.bx x) (Xg b3.2) (by omega) ?_;intro cR aU;refine Yo 6 rfl (fun _=>X2j rfl X07)<|Ye 7 rfl (X0 rfl X9 (aU.drop 1))<|Y1 8 ?_;refine Yt rfl tv0 rfl (Vc (X9s _ ({ d with ns:=dpN d.ns q,ws:=dpW d.ws q } : Dg) d.ns.length bA aM aN _ y x.size b6 b8 a8.top b9 p ((d.ns.getD q.toNat nZ).p) ⟨b2.1,by rw [X1j];omega⟩ (Y11 hD p q)) X5o) ?_;rintro _ cS ⟨bF,bG,rfl,a6,aE,bH,cI,hg⟩;have C:=y;have f:=f.appT C hg rfl;have i:=i.appT C hg rfl;have g:=g.appT C hg rfl
 have x:=Below.app x C hg (Qb _) x.size
 clear C hg;clear y;have y:=a6;clear a6;refine Y1 9<|Yh rfl tv0 rfl (Vw [vi (({ ({ d with ns:=dpN d.ns q,ws:=dpW d.ws q } : Dg) with ns:=adN ({ d with ns:=dpN d.ns q,ws:=dpW d.ws q } : Dg).ns p ((d.ns.getD q.toNat nZ).p) } : Dg).n),.slice aM d.ns.length aN,.slice bF (({ ({ d with ns:=dpN d.ns q,ws:=dpW d.ws q } : Dg) with ns:=adN ({ d with ns:=dpN d.ns q,ws:=dpW d.ws q } : Dg).ns p ((d.ns.getD q.toNat nZ).p) } : Dg).ws).length bG,vi (({ ({ d with ns:=dpN d.ns q,ws:=dpW d.ws q } : Dg) with ns:=adN ({ d with ns:=dpN d.ns q,ws:=dpW d.ws q } : Dg).ns p ((d.ns.getD q.toNat nZ).p) } : Dg).t),vi (({ ({ d with ns:=dpN d.ns q,ws:=dpW d.ws q } : Dg) with ns:=adN ({ d with ns:=dpN d.ns q,ws:=dpW d.ws q } : Dg).ns p ((d.ns.getD q.toNat nZ).p) } : Dg).r)] Xh g) ?_;rintro _ cT ⟨ho,hb⟩;have J:=g;have f:=f.oy ho (by omega);have i:=i.oy ho (by omega);have y:=y.oT ho J rfl;have aE:=aE.oT ho J rfl;have x:=Below.oy x ho aJ;have g:=hb;refine Yd fun a I=>?_;refine bE _ _<|Q5 fun _ bJ=>?_;refine Zs I fun _ bK=>?_;refine Ze (Vn X2 f)<|Zm rfl<|Zf (Vc (Xa2 _ d md M Ad cd (W.bx x).top Bd dd (a7.bx x).top N q hD.w (by omega)) X60) ?_;rintro _ cU ⟨bL,bM,rfl,G,h⟩;have G:=G.lower x.size;have f:=f.bw h;have i:=i.bw h;have g:=g.bw h;have y:=y.bw h;have aE:=aE.bw h;have x:=btr x h;refine Ze (X09 rfl Xj)<|Zm rfl<|Zt bK fun a I=>?_;refine Q8<|X01 (σ:=Nat×Dg) (fun (s:Nat×Dg) (a:Act) (w:World)=>match s with|(k,o)=>∃ aB aC aF aG,Fr a 69 [(1,vi p),(2,vi q),(3,(pZ9 b4)),(6,(pZ9 b7)),(8,(pZ9 b21)),(49,.slice bL (nearW d.ws q).length bM),(50,vi ((nearW d.ws q).length:Int)),(51,vi (k:Int))]/\(k<=(nearW d.ws q).length)/\(o=fuS d p q ((nearW d.ws q).take k) (fu0 d p q))/\(d.ns.length=o.ns.length)/\(o.ws.length<=d.ws.length+k)/\(PhN o.ns)/\Blk w b4 39 [vi d.n,.slice Ad md cd,.slice Bd d.ws.length dd,vi d.t,vi d.r]/\Blk w b7 39 [vi 0,.slice none 0 0,.slice none 0 0,vi 0,vi 0]/\Blk w b21 39 [vi o.n,.slice aB d.ns.length aC,.slice aF o.ws.length aG,vi o.t,vi o.r]/\Own w w0.heap.size 3 1 encI bL bM (nearW d.ws q)/\Own w w0.heap.size 81 2 encNd aB aC o.ns/\Rd w w.heap.size 83 encWr aF o.ws/\d.ws.length<=dd/\o.ws.length<=aG/\Below w0.heap.size w0 w) (fun (s:Nat×Dg)=>match s with|(k,o)=>(nearW d.ws q).length-k) (0,(fu0 d p q)) ?_ ?_
 ·exact ⟨aM,aN,bF,bG,I.sb,(Qf _),rfl,(X71 d p q).1.symm,(X71 d p q).2,(Xil hD p q),f,i,g,G,y,aE.top,N,bH,x⟩
 rintro ⟨k,o⟩ a cV ⟨aB,aC,aF,aG,I,hk,bN,aL,cW,aO,f,i,g,G,H,Q,N,aV,x⟩;refine Zs I fun _ bO=>?_;refine Ze (X0n rfl rfl)<|ZX bO fun a I _ bP=>?_
 refine Xi I rfl (fun U=>?_) (fun U=>?_)
 ·have aW:=U;have U:=Q2 U
  obtain ⟨cX,cJ⟩:=X4 (l:=(nearW d.ws q)) (k:=k) (by omega)
  obtain ⟨u9,aX⟩:=X4 (l:=nearW d.ws q) (k:=k) (by have:=U;omega)
  have cG:=X6v hD aX;have aP:=X6y (d:=d) (a:=p) (b:=q) (o:=fu0 d p q) aX
  rw [<- bN] at aP
  refine Q7<|bP _ _<|Q5 fun _ aS=>?_;refine Q8<|Zs I fun _ bQ=>?_;refine Zi (k:=k) (u:=u9) (enc:=encI) (l:=(nearW d.ws q)) tv0 rfl rfl Xj X0b Xd G.rd aX rfl ?_;intro cY aY;refine Ze (X0 rfl X9 aY)<|Za rfl<|Zx bQ fun a I _ bR=>?_;refine Zm rfl<|Zm rfl<|Ze (X1e rfl rfl)<|Zt bR fun a I=>?_
  refine Xi I rfl (fun aH=>?_) (fun aH=>?_)
  ·have aZ:=aH
   rw [Xsk aH] at aP
   refine X04 none (fun j=>[8,9].contains j) mixed ?_;intro cZ h;have f:=f.bw h;have i:=i.bw h;have g:=g.bw h;have G:=G.bw h;have H:=H.bw h;have Q:=Q.bw h;have x:=btr x h;refine Yb I<|Ye 0 rfl (Vn X2 g)<|Yo 1 rfl (fun _=>X3 rfl)<|Yo 2 rfl (fun _=>X3 rfl)<|Ye 3 rfl (Vn X2 f)<|Yo 4 rfl (fun _=>X3 rfl)<|Yo 5 rfl (fun _=>X3 rfl)<|Y1 6 ?_;refine Yk rfl tv0 (Vc (X9i _ d md M Ad cd (W.bx x).top Bd dd (a7.bx x).top N q u9 (by have:=hD.len;omega)) X4v) (fun _ _ ⟨_,h⟩=>h) ?_;rintro _ d5 ⟨rfl,h⟩;have f:=f.bw h;have i:=i.bw h;have g:=g.bw h;have G:=G.bw h;have H:=H.bw h;have Q:=Q.bw h;have x:=btr x h;refine Yo 7 rfl (fun _=>X0k rfl rfl)<|Y1 8 ?_;refine Yt rfl tv0 rfl (Vc (Xsw _ o d.ns.length aL aB aC _ H x.size aF aG Q.top aV p u9 ((tyW d.ws q u9)==2) (by omega) ⟨⟨b2.1,by omega⟩,⟨cG.1,by omega⟩⟩ aO (by omega)) Xf1) ?_;rintro _ d6 ⟨bS,bT,rfl,a6,aQ,bU,cK,hg⟩;have C:=H;have f:=f.appT C hg rfl;have i:=i.appT C hg rfl;have g:=g.appT C hg rfl;have G:=G.appT C hg rfl;have x:=Below.app x C hg (Qb _) x.size
   clear C hg;clear H;have H:=a6;clear a6;refine Y1 9<|Yh rfl tv0 rfl (Vw [vi ((mtD o p u9 ((tyW d.ws q u9)==2)).n),.slice aB d.ns.length aC,.slice bS ((mtD o p u9 ((tyW d.ws q u9)==2)).ws).length bT,vi ((mtD o p u9 ((tyW d.ws q u9)==2)).t),vi ((mtD o p u9 ((tyW d.ws q u9)==2)).r)] Xh g) ?_;rintro _ d7 ⟨ho,hb⟩;have J:=g;have f:=f.oy ho (by omega);have i:=i.oy ho (by omega);have G:=G.oT ho J rfl;have H:=H.oT ho J rfl;have aQ:=aQ.oT ho J rfl;have x:=Below.oy x ho aJ;have g:=hb;refine Yd fun a I=>?_;refine Xa<|aS _ _<|Zr I<|Ze (Xs rfl rfl (by omega) (by omega))<|Zm rfl ?_;refine Zn fun a I=>?_;refine Xc ?_;exact ⟨(k+1,(mtD o p u9 ((tyW d.ws q u9)==2))),⟨aB,aC,bS,bT,I.sb,(by omega),(by rw [aP]),(by first|exact aL|exact aL.trans (X6n _ _ _ _).1.symm),(by first|omega|(have:=(X6n o p u9 (tyW d.ws q u9==2)).2;omega)),(by first|exact aO|exact Xk2 aO _ _ _),f,i,g,G,H,aQ.top,N,bU,x⟩,(by first|omega|(dsimp only;omega))⟩
  have aZ:=aH
  rw [Xsu aH] at aP
  refine Q7<|Xa<|aS _ _<|Zr I ?_;refine Ze (Xs rfl rfl (by omega) (by omega))<|Zm rfl ?_;refine Zn fun a I=>?_;refine Xc ?_;exact ⟨(k+1,o),⟨aB,aC,aF,aG,I.sb,(by omega),(by rw [aP]),(by first|exact aL|exact aL.trans (X6n _ _ _ _).1.symm),(by first|omega|(have:=(X6n o p u9 (tyW d.ws q u9==2)).2;omega)),(by first|exact aO|exact Xk2 aO _ _ _),f,i,g,G,H,Q.top,N,aV,x⟩,(by first|omega|(dsimp only;omega))⟩
 have aW:=U;have U:=Q1 U
 have bW:o=fuD d p q:=by rw [bN,Qi (by have:=U;omega)];rfl
 refine Q9<|Xk<|Xk<|X02 ?_;refine bJ _ _<|Zs I fun _ bX=>?_;refine Ze (Vn X2 g)<|Zo (Vw [vi o.n,.slice aB d.ns.length aC,.slice aF o.ws.length aG,vi o.t,vi o.r] Xh i) ?_;rintro _ d8 ⟨ho,hb⟩;have J:=i;have H:=H.oT ho J rfl;have Q:=Q.oT ho J rfl;have x:=Below.oy x ho aR;have i:=hb;refine Za rfl<|Zt bX fun a I=>?_
 refine Q6 (X6 I (X1v I rfl (ResV.cellN (l:=[vi o.n,.slice aB d.ns.length aC,.slice aF o.ws.length aG,vi o.t,vi o.r]) rfl X2 (i.at 0) rfl) rfl) ?_)
 rw [b1,Q4 rfl,<- bW,M]
 exact ⟨aB,aC,aF,aG,rfl,H.rd.top,Q.top,aV,aL,x⟩
theorem Y2h(w0:World)(d:Dg)(md:Nat)(y:md=d.ns.length)(Ad:Option Addr)(cd:Nat)(D:Rd w0 w0.heap.size 81 encNd Ad d.ns)(Bd:Option Addr)(dd:Nat)(G:Rd w0 w0.heap.size 83 encWr Bd d.ws)(I:d.ws.length<=dd)(p:Int)(hD:InD d) : Ret Tryz.prog 177 [.agg #[vi d.n,.slice Ad md cd,.slice Bd d.ws.length dd,vi d.t,vi d.r],vi p] w0 (fun v w=>∃ A c B e,v=.tuple #[.agg #[vi (if (idC d p)=true then idD d p else d).n,.slice A md c,.slice B (if (idC d p)=true then idD d p else d).ws.length e,vi (if (idC d p)=true then idD d p else d).t,vi (if (idC d p)=true then idD d p else d).r],.bool (idC d p)]/\Rd w w.heap.size 81 encNd A (if (idC d p)=true then idD d p else d).ns/\Rd w w.heap.size 83 encWr B (if (idC d p)=true then idD d p else d).ws/\(if (idC d p)=true then idD d p else d).ws.length<=e/\md=(if (idC d p)=true then idD d p else d).ns.length/\Below w0.heap.size w0 w):=by
 have bK:=hD.len;have bL:=hD.m;have bM:=X1y d.ws p;refine enter Tryz.func177 rfl 52 rfl rfl ?_;intro a H
 have i:=bz w0
 refine Zs H fun _ b6=>?_;refine Zf (X0l (zs:=[vi d.n,.slice Ad md cd,.slice Bd d.ws.length dd,vi d.t,vi d.r]) rfl rfl) ?_;rintro _ w1 ⟨b4,rfl,b8,q,C⟩;have bD:=Q0 i.size b8;have i:=btr i q;refine Zf (Xq (zs:=[vi 0,.slice none 0 0,.slice none 0 0,vi 0,vi 0]) X0h rfl) ?_;rintro _ w2 ⟨b7,rfl,b9,q,f⟩
 have b5:b4≠b7:=by have:=C.lt;omega
 have aB:=Q0 i.size b9;have C:=C.bw q;have i:=btr i q;refine Za rfl<|ZX b6 fun a H _ bA=>?_;refine Q5 fun _ bB=>?_;refine X0a (fun a w=>Fr a 52 [(1,vi p),(2,(pZ9 b4)),(4,(pZ9 b7)),(19,.bool ((!(spI d.ns p))||(((d.ns.getD p.toNat nZ).p) != 0)))]/\Below w2.heap.size w2 w) ?_ ?_
 ·have aE:Below w2.heap.size w2 w2:=Below.refl _ _
  refine Zr H<|Ze (Vn X2 C)<|Zm rfl<|Zf (Vc (X69 _ d md y Ad cd (D.bx i).top Bd dd (G.bx i).top I p (by rw [y];exact hD.m)) X34) ?_;rintro _ w3 ⟨rfl,q⟩;have C:=C.bw q;have i:=btr i q;have aE:=btr aE q;refine Ze (X0w rfl)<|Zm rfl ?_
  refine Zg 11 rfl (fun b=>?_) (fun b=>?_)
  ·(iterate 7 refine Zp (gP b) ?_);refine Ze (X5 rfl b rfl) ?_;refine Zn fun a H=>?_
   have aH:Below w2.heap.size w2 w3:=aE
   exact ⟨H.sub ⟨rfl,rfl,rfl,X1 rfl (by simp [b]),trivial⟩,aH⟩
  have aI:0<=p/\p.toNat<d.ns.length:=by have h9:=X0f (ns:=d.ns) (k:=p) (by simpa using b);exact ⟨h9.1,h9.2.1⟩
  refine Zv (gW b) (Vd rfl Xf 1) ?_;refine Zv (gW b) (X0 rfl Xz (C.at 1)) ?_;refine Zv (gW b) (X3 rfl) ?_;refine Zj (k:=p.toNat) (u:=(d.ns.getD p.toNat nZ)) (enc:=encNd) (l:=d.ns) ⟨_,_,rfl,rfl,b⟩ rfl y rfl Xm X06 Xv (D.bx i) (Xg aI.2) (by omega) ?_;intro bN aJ;refine Zv (gW b) (X2j rfl X07) ?_;refine Zv (gW b) (X0 rfl X9 (aJ.drop 1)) ?_;refine Zv (gW b) (X1e rfl rfl) ?_;refine Ze (Xb rfl b rfl) ?_;refine Zn fun a H=>?_
  have aH:Below w2.heap.size w2 w3:=aE
  exact ⟨H.sub ⟨rfl,rfl,rfl,X1 rfl (by simp [b]),trivial⟩,aH⟩
 rintro a w4 ⟨H,q⟩;have C:=C.bw q;have f:=f.bw q;have i:=btr i q;refine bB _ _ ?_
 refine Xi H rfl (fun U=>?_) (fun U=>?_)
 ·have aK:=U;obtain ⟨aL,bE⟩:=Xep U;refine Zs H fun _ aR=>?_;refine Ze (Vn X2 C)<|Zo (Vw [vi d.n,.slice Ad md cd,.slice Bd d.ws.length dd,vi d.t,vi d.r] Xh f) ?_;rintro _ w5 ⟨ho,hb⟩;have a8:=f;have i:=Below.oy i ho aB;have f:=hb;refine Za rfl<|Zt aR fun a H=>?_;refine Q6<|X8<|X6 H (X1v H rfl (ResV.cellN (l:=[vi d.n,.slice Ad md cd,.slice Bd d.ws.length dd,vi d.t,vi d.r]) rfl X2 (f.at 0) rfl) rfl) ?_
  rw [aL,Q3 Bool.false_ne_true]
  exact ⟨Ad,cd,Bd,dd,rfl,(D.bx i).top,(G.bx i).top,I,y,i⟩
 have aK:=U;have aM:=Xaw U
 have aI:0<=p/\p.toNat<d.ns.length:=⟨(X0f aM.1).1,(X0f aM.1).2.1⟩
 refine Q7<|bA _ _<|Zs H fun _ aS=>?_;refine Ze (Vn X2 C)<|Zm rfl<|Zf (Vc (Xa2 _ d md y Ad cd (D.bx i).top Bd dd (G.bx i).top I p hD.w (by omega)) X60) ?_;rintro _ w6 ⟨bO,bP,rfl,E,q⟩;have E:=E.lower i.size;have C:=C.bw q;have f:=f.bw q;have i:=btr i q;refine Za rfl<|ZX aS fun a H _ aT=>?_;refine Zs H fun _ aU=>?_;refine Zm rfl<|Ze (X09 rfl Xj)<|Ze (X1e rfl rfl)<|Zt aU fun a H=>?_
 refine Xi H rfl (fun W=>?_) (fun W=>?_)
 ·have aN:=W;have aL:=Xiq W;refine Zs H fun _ aV=>?_;refine Ze (Vn X2 C)<|Zo (Vw [vi d.n,.slice Ad md cd,.slice Bd d.ws.length dd,vi d.t,vi d.r] Xh f) ?_;rintro _ w7 ⟨ho,hb⟩;have a8:=f;have i:=Below.oy i ho aB;have f:=hb;refine Za rfl<|Zt aV fun a H=>?_;refine Q6<|X8<|X6 H (X1v H rfl (ResV.cellN (l:=[vi d.n,.slice Ad md cd,.slice Bd d.ws.length dd,vi d.t,vi d.r]) rfl X2 (f.at 0) rfl) rfl) ?_
  rw [aL,Q3 Bool.false_ne_true]
  exact ⟨Ad,cd,Bd,dd,rfl,(D.bx i).top,(G.bx i).top,I,y,i⟩
 have aN:=W;obtain ⟨bC,bQ⟩:=Xhm aM W
 have aW:=X8j hD (k:=p) (j:=0) (by omega)
 have aX:=X8j hD (k:=p) (j:=1) (by omega)
 refine Q7<|aT _ _<|Q5 fun _ aY=>?_;refine X04 (some (.base w6.heap.size)) (fun j=>[23,24].contains j) mixed ?_;have aC:=C;have bF:=f;have bG:=(D.bx i);have bH:=(G.bx i);have Q:=E;intro w8 q;have o:=q;have f:=f.bw q;have E:=E.bw q;have i:=btr i q;refine Yb H<|Yn 0 rfl tv0 o.size (fun w9 h9=>by have J:=aC.bw (o.trans h9);exact X03 (l:=[vi d.n,.slice Ad md cd,.slice Bd d.ws.length dd,vi d.t,vi d.r]) rfl X2 (J.at 0) rfl) ?_;refine Yo 2 rfl (fun _=>X3 rfl)<|Yo 4 rfl (fun _=>X3 rfl)<|Yo 5 rfl (fun _=>Xx (k:=0) rfl rfl Xj X0b E rfl rfl (by omega)) ?_;refine Yn 6 rfl tv0 o.size (fun w9 h9=>by have x:=Q.bw (o.trans h9);exact X0 rfl X9 (X0x x Xd (Xg (k:=0) (d:=(0:Int)) (by omega)) 0 rfl)) ?_;refine Yo 7 rfl (fun _=>X3 rfl)<|Yo 8 rfl (fun _=>Xx (k:=1) rfl rfl Xj X0b E rfl rfl (by omega)) ?_;refine Yn 9 rfl tv0 o.size (fun w9 h9=>by have x:=Q.bw (o.trans h9);exact X0 rfl X9 (X0x x Xd (Xg (k:=1) (d:=(0:Int)) (by omega)) 0 rfl)) ?_;refine Yn 10 rfl tv0 o.size (fun w9 h9=>by have J:=aC.bw (o.trans h9);exact X03 (l:=[vi d.n,.slice Ad md cd,.slice Bd d.ws.length dd,vi d.t,vi d.r]) rfl X2 (J.at 0) rfl) ?_;refine Yo 11 rfl (fun _=>X3 rfl)<|Yo 12 rfl (fun _=>X3 rfl)<|Yo 13 rfl (fun _=>Xx (k:=0) rfl rfl Xj X0b E rfl rfl (by omega)) ?_;refine Yn 14 rfl tv0 o.size (fun w9 h9=>by have x:=Q.bw (o.trans h9);exact X0 rfl X9 (X0x x Xd (Xg (k:=0) (d:=(0:Int)) (by omega)) 0 rfl)) ?_;refine Yn 16 rfl tv0 o.size (fun w9 h9=>by have J:=aC.bw (o.trans h9);exact X03 (l:=[vi d.n,.slice Ad md cd,.slice Bd d.ws.length dd,vi d.t,vi d.r]) rfl X2 (J.at 0) rfl) ?_
 refine Yo 17 rfl (fun _=>X3 rfl)<|Yo 18 rfl (fun _=>X3 rfl)<|Yo 19 rfl (fun _=>Xx (k:=1) rfl rfl Xj X0b E rfl rfl (by omega)) ?_;refine Yn 20 rfl tv0 o.size (fun w9 h9=>by have x:=Q.bw (o.trans h9);exact X0 rfl X9 (X0x x Xd (Xg (k:=1) (d:=(0:Int)) (by omega)) 0 rfl)) ?_;refine Y1 1<|Yf rfl tv0 (EfW.mono (Vc (Xaj _ d md y Ad cd (D.bx i).top Bd dd (G.bx i).top I ⟨by omega,by omega⟩) X5y) (fun _ _ h=>⟨fun _=>by obtain ⟨a7,aA,aZ,b0,rfl,g,a6,q⟩:=h;exact Keep.of_below q,h⟩)) ?_;rintro _ w9 ⟨a7,aA,aZ,b0,rfl,g,a6,q⟩
 have aO:∀ k,ownB a7=some k->w6.heap.size<=k:=fun k hk=>Q0 o.size (X2i g hk)
 have g:=g.lower i.size;have a6:=a6.lower i.size;have f:=f.bw q;have o:=btr o q;have i:=btr i q;refine Y1 3<|Yf rfl tv0 (EfW.mono (Vc (Xac _ d d.ns.length rfl a7 aA _ g i.size aZ b0 a6.rd.top a6.cap p aI (by omega)) X5l) (fun _ _ h=>⟨fun _=>by obtain ⟨b1,b2,rfl,M,N,aF,aG,hg⟩:=h;exact Xn9 hg aO,h⟩)) ?_;rintro _ bR ⟨b1,b2,rfl,M,N,aF,aG,hg⟩;have L:=g;have f:=f.appT L hg rfl;have o:=o.trans (Xaa hg aO o.size);have i:=Below.app i L hg (Qb _) i.size
 clear L hg;clear g;have g:=M;clear M;refine Y1 15<|Yf rfl tv0 (EfW.mono (Vc (X9i _ d md y Ad cd (D.bx i).top Bd dd (G.bx i).top I p ((nearW d.ws p).getD 0 0) (by omega)) X4v) (fun _ _ h=>⟨fun _=>by obtain ⟨rfl,q⟩:=h;exact Keep.of_below q,h⟩)) ?_;rintro _ bS ⟨rfl,q⟩;have f:=f.bw q;have g:=g.bw q;have N:=N.bw q;have o:=btr o q;have i:=btr i q;refine Y1 21<|Yf rfl tv0 (EfW.mono (Vc (X9i _ d md y Ad cd (D.bx i).top Bd dd (G.bx i).top I p ((nearW d.ws p).getD 1 0) (by omega)) X4v) (fun _ _ h=>⟨fun _=>by obtain ⟨rfl,q⟩:=h;exact Keep.of_below q,h⟩)) ?_;rintro _ bT ⟨rfl,q⟩;have f:=f.bw q;have g:=g.bw q;have N:=N.bw q;have o:=btr o q;have i:=btr i q;refine Yo 22 rfl (fun _=>X1e rfl rfl)<|Y1 23 ?_;refine Yt rfl tv0 rfl (Vc (Xsw _ ({ d with ns:=dpN d.ns p,ws:=dpW d.ws p } : Dg) d.ns.length aG a7 aA _ g i.size b1 b2 N.top aF ((nearW d.ws p).getD 0 0) ((nearW d.ws p).getD 1 0) ((tyW d.ws p ((nearW d.ws p).getD 0 0)) != (tyW d.ws p ((nearW d.ws p).getD 1 0))) (by have:=X2b d.ws p;dsimp only;omega) ⟨⟨aW.1,by rw [X1j];exact aW.2⟩,⟨aX.1,by rw [X1j];exact aX.2⟩⟩ (X55 hD.p p) (by omega)) Xf1) ?_;rintro _ bU ⟨aP,aQ,rfl,M,aD,b3,bJ,hg⟩;have L:=g;have f:=f.appT L hg rfl;have o:=o.trans (Xaa hg aO o.size);have i:=Below.app i L hg (Qb _) i.size
 clear L hg;clear g;have g:=M;clear M;refine Y1 24<|Yh rfl tv0 rfl (Vw [vi ((mtD ({ d with ns:=dpN d.ns p,ws:=dpW d.ws p } : Dg) ((nearW d.ws p).getD 0 0) ((nearW d.ws p).getD 1 0) ((tyW d.ws p ((nearW d.ws p).getD 0 0)) != (tyW d.ws p ((nearW d.ws p).getD 1 0)))).n),.slice a7 d.ns.length aA,.slice aP ((mtD ({ d with ns:=dpN d.ns p,ws:=dpW d.ws p } : Dg) ((nearW d.ws p).getD 0 0) ((nearW d.ws p).getD 1 0) ((tyW d.ws p ((nearW d.ws p).getD 0 0)) != (tyW d.ws p ((nearW d.ws p).getD 1 0)))).ws).length aQ,vi ((mtD ({ d with ns:=dpN d.ns p,ws:=dpW d.ws p } : Dg) ((nearW d.ws p).getD 0 0) ((nearW d.ws p).getD 1 0) ((tyW d.ws p ((nearW d.ws p).getD 0 0)) != (tyW d.ws p ((nearW d.ws p).getD 1 0)))).t),vi ((mtD ({ d with ns:=dpN d.ns p,ws:=dpW d.ws p } : Dg) ((nearW d.ws p).getD 0 0) ((nearW d.ws p).getD 1 0) ((tyW d.ws p ((nearW d.ws p).getD 0 0)) != (tyW d.ws p ((nearW d.ws p).getD 1 0)))).r)] Xh f) ?_;rintro _ bW ⟨ho,hb⟩;have a8:=f;have g:=g.oT ho a8 rfl;have aD:=aD.oT ho a8 rfl;have i:=Below.oy i ho aB;have f:=hb;refine Yo 25 rfl (fun _=>X0u rfl) ?_;refine Yd fun a H=>?_;refine aY _ _ ?_
 refine Q6 (X6 H (X1v H rfl (ResV.cellN (l:=[vi ((mtD ({ d with ns:=dpN d.ns p,ws:=dpW d.ws p } : Dg) ((nearW d.ws p).getD 0 0) ((nearW d.ws p).getD 1 0) ((tyW d.ws p ((nearW d.ws p).getD 0 0)) != (tyW d.ws p ((nearW d.ws p).getD 1 0)))).n),.slice a7 d.ns.length aA,.slice aP ((mtD ({ d with ns:=dpN d.ns p,ws:=dpW d.ws p } : Dg) ((nearW d.ws p).getD 0 0) ((nearW d.ws p).getD 1 0) ((tyW d.ws p ((nearW d.ws p).getD 0 0)) != (tyW d.ws p ((nearW d.ws p).getD 1 0)))).ws).length aQ,vi ((mtD ({ d with ns:=dpN d.ns p,ws:=dpW d.ws p } : Dg) ((nearW d.ws p).getD 0 0) ((nearW d.ws p).getD 1 0) ((tyW d.ws p ((nearW d.ws p).getD 0 0)) != (tyW d.ws p ((nearW d.ws p).getD 1 0)))).t),vi ((mtD ({ d with ns:=dpN d.ns p,ws:=dpW d.ws p } : Dg) ((nearW d.ws p).getD 0 0) ((nearW d.ws p).getD 1 0) ((tyW d.ws p ((nearW d.ws p).getD 0 0)) != (tyW d.ws p ((nearW d.ws p).getD 1 0)))).r)]) rfl X2 (f.at 0) rfl) rfl) ?_)
 rw [bC,Q4 rfl,y]
 exact ⟨a7,aA,aP,aQ,rfl,g.rd.top,aD.top,b3,(Xxd d p).symm,i⟩
theorem Y1z(w0:World)(d:Dg)(md:Nat)(C:md=d.ns.length)(Ad:Option Addr)(cd:Nat)(E:Rd w0 w0.heap.size 81 encNd Ad d.ns)(Bd:Option Addr)(dd:Nat)(J:Rd w0 w0.heap.size 83 encWr Bd d.ws)(L:d.ws.length<=dd)(p:Int)(hD:InD d) : Ret Tryz.prog 179 [.agg #[vi d.n,.slice Ad md cd,.slice Bd d.ws.length dd,vi d.t,vi d.r],vi p] w0 (fun v w=>∃ A c B e,v=.tuple #[.agg #[vi (if (loC d p)=true then loD d p else d).n,.slice A md c,.slice B (if (loC d p)=true then loD d p else d).ws.length e,vi (if (loC d p)=true then loD d p else d).t,vi (if (loC d p)=true then loD d p else d).r],.bool (loC d p)]/\Rd w w.heap.size 81 encNd A (if (loC d p)=true then loD d p else d).ns/\Rd w w.heap.size 83 encWr B (if (loC d p)=true then loD d p else d).ws/\(if (loC d p)=true then loD d p else d).ws.length<=e/\md=(if (loC d p)=true then loD d p else d).ns.length/\Below w0.heap.size w0 w):=by
 have b0:=hD.len;have b1:=hD.m;have b2:=X1y d.ws p;refine enter Tryz.func179 rfl 37 rfl rfl ?_;intro a D
 have i:=bz w0
 refine Zs D fun _ aP=>?_;refine Zf (X0l (zs:=[vi d.n,.slice Ad md cd,.slice Bd d.ws.length dd,vi d.t,vi d.r]) rfl rfl) ?_;rintro _ w1 ⟨b4,rfl,aQ,h,o⟩;have aY:=Q0 i.size aQ;have i:=btr i h;refine Zf (Xq (zs:=[vi 0,.slice none 0 0,.slice none 0 0,vi 0,vi 0]) X0h rfl) ?_;rintro _ w2 ⟨b7,rfl,aR,h,j⟩
 have aO:b4≠b7:=by have:=o.lt;omega
 have aA:=Q0 i.size aR;have o:=o.bw h;have i:=btr i h;refine Za rfl<|ZX aP fun a D _ aS=>?_;refine Q5 fun _ aT=>?_;refine X0a (fun a w=>Fr a 37 [(1,vi p),(2,(pZ9 b4)),(4,(pZ9 b7)),(26,.bool (((!(spI d.ns p))||(((d.ns.getD p.toNat nZ).p) != 0))||(decide (0<((nearW d.ws p).length:Int)))))]/\Below w2.heap.size w2 w) ?_ ?_
 ·have H:Below w2.heap.size w2 w2:=Below.refl _ _
  refine Zr D<|Ze (Vn X2 o)<|Zm rfl<|Zf (Vc (X69 _ d md C Ad cd (E.bx i).top Bd dd (J.bx i).top L p (by rw [C];exact hD.m)) X34) ?_;rintro _ w3 ⟨rfl,h⟩;have o:=o.bw h;have i:=btr i h;have H:=btr H h;refine Ze (X0w rfl)<|Zm rfl ?_
  refine Zg 11 rfl (fun b=>?_) (fun b=>?_)
  ·(iterate 7 refine Zp (gP b) ?_);refine Ze (X5 rfl b rfl)<|Zm rfl<|Zp (gP rfl) ?_;(iterate 4 refine Zp (gP rfl) ?_);refine Ze (X5 rfl rfl rfl) ?_;refine Zn fun a D=>?_
   have W:Below w2.heap.size w2 w3:=H
   exact ⟨D.sub ⟨rfl,rfl,rfl,X1 rfl (by simp [b]),trivial⟩,W⟩
  have aD:0<=p/\p.toNat<d.ns.length:=by have h9:=X0f (ns:=d.ns) (k:=p) (by simpa using b);exact ⟨h9.1,h9.2.1⟩
  refine Zv (gW b) (Vd rfl Xf 1) ?_;refine Zv (gW b) (X0 rfl Xz (o.at 1)) ?_;refine Zv (gW b) (X3 rfl) ?_;refine Zj (k:=p.toNat) (u:=(d.ns.getD p.toNat nZ)) (enc:=encNd) (l:=d.ns) ⟨_,_,rfl,rfl,b⟩ rfl C rfl Xm X06 Xv (E.bx i) (Xg aD.2) (by omega) ?_;intro b3 aE;refine Zv (gW b) (X2j rfl X07) ?_;refine Zv (gW b) (X0 rfl X9 (aE.drop 1)) ?_;refine Zv (gW b) (X1e rfl rfl) ?_;refine Ze (Xb rfl b rfl)<|Zm rfl ?_
  refine Zg 20 rfl (fun f=>?_) (fun f=>?_)
  ·(iterate 5 refine Zp (gP f) ?_);refine Ze (X5 rfl f rfl) ?_;refine Zn fun a D=>?_
   have W:Below w2.heap.size w2 w3:=H
   exact ⟨D.sub ⟨rfl,rfl,rfl,X1 rfl (by first|rfl|(simp only [b,f,bs];done)|simp [b,f]),trivial⟩,W⟩
  refine Zv (gW f) (Vn X2 o) ?_;refine Zv (gW f) (X3 rfl) ?_;refine Zk (gW f) (Vc (Xa2 _ d md C Ad cd (E.bx i).top Bd dd (J.bx i).top L p hD.w (by omega)) X60) ?_;rintro _ w4 ⟨b5,b6,rfl,aB,h⟩;have aB:=aB.lower i.size;have i:=btr i h;have H:=btr H h;refine Zv (gW f) (X09 rfl Xj) ?_;refine Zv (gW f) (X2y rfl rfl) ?_;refine Ze (Xb rfl f rfl) ?_;refine Zn fun a D=>?_
  have W:Below w2.heap.size w2 w4:=H
  exact ⟨D.sub ⟨rfl,rfl,rfl,X1 rfl (by first|rfl|(simp only [b,f,bs];done)|simp [b,f]),trivial⟩,W⟩
 rintro a w5 ⟨D,h⟩;have o:=o.bw h;have j:=j.bw h;have i:=btr i h;refine aT _ _ ?_
 refine Xi D rfl (fun G=>?_) (fun G=>?_)
 ·have aF:=G;have aU:=Xtp G;refine Zs D fun _ aG=>?_;refine Ze (Vn X2 o)<|Zo (Vw [vi d.n,.slice Ad md cd,.slice Bd d.ws.length dd,vi d.t,vi d.r] Xh j) ?_;rintro _ w6 ⟨I,hb⟩;have q:=j;have i:=Below.oy i I aA;have j:=hb;refine Za rfl<|Zt aG fun a D=>?_;refine Q6<|X8<|X6 D (X1v D rfl (ResV.cellN (l:=[vi d.n,.slice Ad md cd,.slice Bd d.ws.length dd,vi d.t,vi d.r]) rfl X2 (j.at 0) rfl) rfl) ?_
  rw [aU,Q3 Bool.false_ne_true]
  exact ⟨Ad,cd,Bd,dd,rfl,(E.bx i).top,(J.bx i).top,L,C,i⟩
 have aF:=G;obtain ⟨aV,aD⟩:=Xjj G;refine Q7<|aS _ _<|Zs D fun _ aH=>?_;refine Ze (Vn X2 o)<|Zf (Vc (Xaj _ d md C Ad cd (E.bx i).top Bd dd (J.bx i).top L ⟨by omega,by omega⟩) X5y) ?_;rintro _ w7 ⟨Q,U,aW,aX,rfl,g,M,h⟩;have g:=g.lower i.size;have M:=M.lower i.size;have o:=o.bw h;have j:=j.bw h;have i:=btr i h;refine Zm rfl<|Zf (Vc (Xac _ d d.ns.length rfl Q U _ g i.size aW aX M.rd.top M.cap p aD (by omega)) X5l) ?_;rintro _ w8 ⟨a6,a7,rfl,aC,x,aI,aZ,hg⟩;have N:=g;have o:=o.appT N hg rfl;have j:=j.appT N hg rfl;have i:=Below.app i N hg (Qb _) i.size
 clear N hg;clear g;have g:=aC;clear aC;refine Zf (Xq (zs:=[vi 0,.slice none 0 0,.slice none 0 0,vi 0,vi 0]) X0h rfl) ?_;rintro _ w9 ⟨b23,rfl,aJ,h,y⟩
 have aK:b4≠b23:=by have:=o.lt;omega
 have aL:b7≠b23:=by have:=j.lt;omega
 have a8:=Q0 i.size aJ;have j:=j.bw h;have g:=g.bw h;have x:=x.bw h;have i:=btr i h;refine Zo (Vw [vi (({ d with ns:=dpN d.ns p,ws:=dpW d.ws p } : Dg).n),.slice Q d.ns.length U,.slice a6 (({ d with ns:=dpN d.ns p,ws:=dpW d.ws p } : Dg).ws).length a7,vi (({ d with ns:=dpN d.ns p,ws:=dpW d.ws p } : Dg).t),vi (({ d with ns:=dpN d.ns p,ws:=dpW d.ws p } : Dg).r)] Xh y) ?_;rintro _ b8 ⟨I,hb⟩;have q:=y;have j:=j.oy I (by omega);have g:=g.oT I q rfl;have x:=x.oT I q rfl;have i:=Below.oy i I a8;have y:=hb;refine Zx aH fun a D _ aM=>?_;refine Ze (Vd rfl X00 4)<|Ze (X0 rfl X9 (y.at 4))<|Ze (X2z rfl rfl)<|Ze (Vd rfl X00 4)<|Zo (Vu (vs:=[vi (wr ((({ d with ns:=dpN d.ns p,ws:=dpW d.ws p } : Dg).r)+2))]) (l':=[vi (({ d with ns:=dpN d.ns p,ws:=dpW d.ws p } : Dg).n),.slice Q d.ns.length U,.slice a6 (({ d with ns:=dpN d.ns p,ws:=dpW d.ws p } : Dg).ws).length a7,vi (({ d with ns:=dpN d.ns p,ws:=dpW d.ws p } : Dg).t),vi (wr ((({ d with ns:=dpN d.ns p,ws:=dpW d.ws p } : Dg).r)+2))]) rfl rfl X0b y) ?_;rintro _ b9 ⟨I,hb⟩;have q:=y;have j:=j.oy I (by omega);have g:=g.oT I q rfl;have x:=x.oT I q rfl;have i:=Below.oy i I a8;have y:=hb;refine Zx aM fun a D _ aN=>?_;refine Ze (Vn X2 y)<|Zo (Vw [vi (({ d with ns:=dpN d.ns p,ws:=dpW d.ws p } : Dg).n),.slice Q d.ns.length U,.slice a6 (({ d with ns:=dpN d.ns p,ws:=dpW d.ws p } : Dg).ws).length a7,vi (({ d with ns:=dpN d.ns p,ws:=dpW d.ws p } : Dg).t),vi (wr ((({ d with ns:=dpN d.ns p,ws:=dpW d.ws p } : Dg).r)+2))] Xh j) ?_;rintro _ bA ⟨I,hb⟩
 have q:=j;have g:=g.oT I q rfl;have x:=x.oT I q rfl;have i:=Below.oy i I aA;have j:=hb;refine Za rfl<|Zt aN fun a D=>?_
 refine Q6 (X6 D (X1v D rfl (ResV.cellN (l:=[vi (({ d with ns:=dpN d.ns p,ws:=dpW d.ws p } : Dg).n),.slice Q d.ns.length U,.slice a6 (({ d with ns:=dpN d.ns p,ws:=dpW d.ws p } : Dg).ws).length a7,vi (({ d with ns:=dpN d.ns p,ws:=dpW d.ws p } : Dg).t),vi (wr ((({ d with ns:=dpN d.ns p,ws:=dpW d.ws p } : Dg).r)+2))]) rfl X2 (j.at 0) rfl) rfl) ?_)
 rw [aV,Q4 rfl,C]
 exact ⟨Q,U,a6,a7,rfl,g.rd.top,x.top,aI,(X1j _ _).symm,i⟩
theorem Y1e(w0:World)(d:Dg)(md:Nat)(J:md=d.ns.length)(Ad:Option Addr)(cd:Nat)(M:Rd w0 w0.heap.size 81 encNd Ad d.ns)(Bd:Option Addr)(dd:Nat)(a8:Rd w0 w0.heap.size 83 encWr Bd d.ws)(E:d.ws.length<=dd)(p:Int)(hD:InD d) : Ret Tryz.prog 178 [.agg #[vi d.n,.slice Ad md cd,.slice Bd d.ws.length dd,vi d.t,vi d.r],vi p] w0 (fun v w=>∃ A c B e,v=.tuple #[.agg #[vi (if (lcC d p)=true then lcD d p else d).n,.slice A md c,.slice B (if (lcC d p)=true then lcD d p else d).ws.length e,vi (if (lcC d p)=true then lcD d p else d).t,vi (if (lcC d p)=true then lcD d p else d).r],.bool (lcC d p)]/\Rd w w.heap.size 81 encNd A (if (lcC d p)=true then lcD d p else d).ns/\Rd w w.heap.size 83 encWr B (if (lcC d p)=true then lcD d p else d).ws/\(if (lcC d p)=true then lcD d p else d).ws.length<=e/\md=(if (lcC d p)=true then lcD d p else d).ns.length/\Below w0.heap.size w0 w):=by
 have dJ:=hD.len;have dK:=hD.m;have dL:=X1y d.ws p;have dC:=X3j hD p;have dM:=X1l hD.p p.toNat;refine enter Tryz.func178 rfl 95 rfl rfl ?_;intro a h
 have i:=bz w0
 refine Zs h fun _ cU=>?_;refine Zf (X0l (zs:=[vi d.n,.slice Ad md cd,.slice Bd d.ws.length dd,vi d.t,vi d.r]) rfl rfl) ?_;rintro _ w1 ⟨b4,rfl,cV,G,y⟩;have dD:=Q0 i.size cV;have i:=btr i G;refine Zf (Xq (zs:=[vi 0,.slice none 0 0,.slice none 0 0,vi 0,vi 0]) X0h rfl) ?_;rintro _ w2 ⟨b7,rfl,cW,G,g⟩
 have cT:b4≠b7:=by have:=y.lt;omega
 have aQ:=Q0 i.size cW;have y:=y.bw G;have i:=btr i G;refine Za rfl<|ZX cU fun a h _ cX=>?_;refine Q5 fun _ cY=>?_;refine X0a (fun a w=>Fr a 95 [(1,vi p),(2,(pZ9 b4)),(4,(pZ9 b7)),(26,.bool ((!(spI d.ns p))||((((d.ns.getD p.toNat nZ).p).tmod 4) != 2)))]/\Below w2.heap.size w2 w) ?_ ?_
 ·have aA:Below w2.heap.size w2 w2:=Below.refl _ _
  refine Zr h<|Ze (Vn X2 y)<|Zm rfl<|Zf (Vc (X69 _ d md J Ad cd (M.bx i).top Bd dd (a8.bx i).top E p (by rw [J];exact hD.m)) X34) ?_;rintro _ w3 ⟨rfl,G⟩;have y:=y.bw G;have i:=btr i G;have aA:=btr aA G;refine Ze (X0w rfl)<|Zm rfl ?_
  refine Zg 17 rfl (fun x=>?_) (fun x=>?_)
  ·(iterate 8 refine Zp (gP x) ?_);refine Ze (X5 rfl x rfl) ?_;refine Zn fun a h=>?_
   have aL:Below w2.heap.size w2 w3:=aA
   exact ⟨h.sub ⟨rfl,rfl,rfl,X1 rfl (by simp [x]),trivial⟩,aL⟩
  have aV:0<=p/\p.toNat<d.ns.length:=by have h9:=X0f (ns:=d.ns) (k:=p) (by simpa using x);exact ⟨h9.1,h9.2.1⟩
  refine Zv (gW x) (Vd rfl Xf 1) ?_;refine Zv (gW x) (X0 rfl Xz (y.at 1)) ?_;refine Zv (gW x) (X3 rfl) ?_;refine Zj (k:=p.toNat) (u:=(d.ns.getD p.toNat nZ)) (enc:=encNd) (l:=d.ns) ⟨_,_,rfl,rfl,x⟩ rfl J rfl Xm X06 Xv (M.bx i) (Xg aV.2) (by omega) ?_;intro dN aY;refine Zv (gW x) (X2j rfl X07) ?_;refine Zv (gW x) (X0 rfl X9 (aY.drop 1)) ?_;refine Zv (gW x) (X3k rfl rfl rfl) ?_;refine Zv (gW x) (X1e rfl rfl) ?_;refine Ze (Xb rfl x rfl) ?_;refine Zn fun a h=>?_
  have aL:Below w2.heap.size w2 w3:=aA
  exact ⟨h.sub ⟨rfl,rfl,rfl,X1 rfl (by simp [x]),trivial⟩,aL⟩
 rintro a w4 ⟨h,G⟩;have y:=y.bw G;have g:=g.bw G;have i:=btr i G;refine cY _ _ ?_
 refine Xi h rfl (fun aI=>?_) (fun aI=>?_)
 ·have aM:=aI;have aZ:=Xm4 hD aI;refine Zs h fun _ bE=>?_;refine Ze (Vn X2 y)<|Zo (Vw [vi d.n,.slice Ad md cd,.slice Bd d.ws.length dd,vi d.t,vi d.r] Xh g) ?_;rintro _ w5 ⟨I,hb⟩;have q:=g;have i:=Below.oy i I aQ;have g:=hb;refine Za rfl<|Zt bE fun a h=>?_;refine Q6<|X8<|X6 h (X1v h rfl (ResV.cellN (l:=[vi d.n,.slice Ad md cd,.slice Bd d.ws.length dd,vi d.t,vi d.r]) rfl X2 (g.at 0) rfl) rfl) ?_
  rw [aZ,Q3 Bool.false_ne_true]
  exact ⟨Ad,cd,Bd,dd,rfl,(M.bx i).top,(a8.bx i).top,E,J,i⟩
 have aM:=aI;have aW:=Xhn hD aI
 have aV:0<=p/\p.toNat<d.ns.length:=⟨(X0f aW.1).1,(X0f aW.1).2.1⟩
 refine Q7<|cX _ _<|Zs h fun _ bF=>?_;refine Ze (Vn X2 y)<|Zm rfl<|Zf (Vc (Xa2 _ d md J Ad cd (M.bx i).top Bd dd (a8.bx i).top E p hD.w (by omega)) X60) ?_;rintro _ w6 ⟨aE,aF,rfl,b,G⟩;have b:=b.lower i.size;have y:=y.bw G;have g:=g.bw G;have i:=btr i G;refine Za rfl<|ZX bF fun a h _ bG=>?_;refine Q5 fun _ bH=>?_;refine X0a (fun a w=>Fr a 95 [(1,vi p),(2,(pZ9 b4)),(4,(pZ9 b7)),(6,.slice aE (nearW d.ws p).length aF),(40,.bool ((!(hadD d p))||(!(rdyD d (nearW d.ws p)))))]/\Below w6.heap.size w6 w) ?_ ?_
 ·have aA:Below w6.heap.size w6 w6:=Below.refl _ _
  refine Zr h<|Ze (Vn X2 y)<|Zm rfl<|Zf (Vc (Xko _ d md J Ad cd (M.bx i).top Bd dd (a8.bx i).top E p hD.w (by omega)) Xal) ?_;rintro _ w7 ⟨rfl,G⟩;have y:=y.bw G;have b:=b.bw G;have i:=btr i G;have aA:=btr aA G;refine Ze (X0w rfl)<|Zm rfl ?_
  refine Zg 35 rfl (fun H=>?_) (fun H=>?_)
  ·(iterate 4 refine Zp (gP H) ?_);refine Ze (X5 rfl H rfl) ?_;refine Zn fun a h=>?_
   have aL:Below w6.heap.size w6 w7:=aA
   exact ⟨h.sub ⟨rfl,rfl,rfl,rfl,X1 rfl (by simp [aM,H]),trivial⟩,aL⟩
  refine Zv (gW H) (Vn X2 y) ?_;refine Zv (gW H) (X3 rfl) ?_;refine Zk (gW H) (Vc (Xsv _ d md J Ad cd (M.bx i).top Bd dd (a8.bx i).top E aE aF (nearW d.ws p) b.rd.top (by omega) (by omega) (by omega) b.cap) Xg6) ?_;rintro _ w8 ⟨rfl,G⟩;have i:=btr i G;have aA:=btr aA G;refine Zv (gW H) (X0w rfl) ?_;refine Ze (Xb rfl H rfl) ?_;refine Zn fun a h=>?_
  have aL:Below w6.heap.size w6 w8:=aA
  exact ⟨h.sub ⟨rfl,rfl,rfl,rfl,X1 rfl (by simp [aM,H]),trivial⟩,aL⟩
 rintro a w9 ⟨h,G⟩;have y:=y.bw G;have g:=g.bw G;have b:=b.bw G;have i:=btr i G;refine bH _ _ ?_
 refine Xi h rfl (fun aJ=>?_) (fun aJ=>?_)
 ·have b0:=aJ;have aZ:=Xuy aJ;refine Zs h fun _ bJ=>?_;refine Ze (Vn X2 y)<|Zo (Vw [vi d.n,.slice Ad md cd,.slice Bd d.ws.length dd,vi d.t,vi d.r] Xh g) ?_;rintro _ dO ⟨I,hb⟩;have q:=g;have i:=Below.oy i I aQ;have g:=hb;refine Za rfl<|Zt bJ fun a h=>?_;refine Q6<|X8<|X6 h (X1v h rfl (ResV.cellN (l:=[vi d.n,.slice Ad md cd,.slice Bd d.ws.length dd,vi d.t,vi d.r]) rfl X2 (g.at 0) rfl) rfl) ?_
  rw [aZ,Q3 Bool.false_ne_true]
  exact ⟨Ad,cd,Bd,dd,rfl,(M.bx i).top,(a8.bx i).top,E,J,i⟩
 have b0:=aJ;have cZ:=Xev aW aJ;refine Q7<|bG _ _<|Zs h fun _ bK=>?_;refine Ze (Vn X2 y)<|Zf (Vc (Xaj _ d md J Ad cd (M.bx i).top Bd dd (a8.bx i).top E ⟨by omega,by omega⟩) X5y) ?_;rintro _ dP ⟨b1,b2,d5,d6,rfl,L,aP,G⟩;have L:=L.lower i.size;have aP:=aP.lower i.size;have y:=y.bw G;have g:=g.bw G;have b:=b.bw G;have i:=btr i G;refine Zm rfl<|Zf (Vc (Xac _ d d.ns.length rfl b1 b2 _ L i.size d5 d6 aP.rd.top aP.cap p aV (by omega)) X5l) ?_;rintro _ dQ ⟨bL,bM,rfl,U,aK,bN,dE,hg⟩;have C:=L;have y:=y.appT C hg rfl;have g:=g.appT C hg rfl;have b:=b.appT C hg rfl;have i:=Below.app i C hg (Qb _) i.size
 clear C hg;clear L;have L:=U;clear U;refine Zf (Xq (zs:=[vi 0,.slice none 0 0,.slice none 0 0,vi 0,vi 0]) X0h rfl) ?_;rintro _ dR ⟨b28,rfl,bO,G,f⟩
 have bP:b4≠b28:=by have:=y.lt;omega
 have bQ:b7≠b28:=by have:=g.lt;omega
 have aB:=Q0 i.size bO;have y:=y.bw G;have g:=g.bw G;have b:=b.bw G;have L:=L.bw G;have aK:=aK.bw G;have i:=btr i G;refine Zo (Vw [vi (({ d with ns:=dpN d.ns p,ws:=dpW d.ws p } : Dg).n),.slice b1 d.ns.length b2,.slice bL (({ d with ns:=dpN d.ns p,ws:=dpW d.ws p } : Dg).ws).length bM,vi (({ d with ns:=dpN d.ns p,ws:=dpW d.ws p } : Dg).t),vi (({ d with ns:=dpN d.ns p,ws:=dpW d.ws p } : Dg).r)] Xh f) ?_;rintro _ dS ⟨I,hb⟩;have q:=f;have y:=y.oy I (by omega);have g:=g.oy I (by omega);have b:=b.oT I q rfl;have L:=L.oT I q rfl;have aK:=aK.oT I q rfl;have i:=Below.oy i I aB;have f:=hb;refine Zx bK fun a h _ bR=>?_;refine Ze (Vd rfl Xf 1)<|Ze (X0 rfl Xz (y.at 1))<|Zm rfl<|Zj (k:=p.toNat) (u:=(d.ns.getD p.toNat nZ)) (enc:=encNd) (l:=d.ns) tv0 rfl J rfl Xm X06 Xv (M.bx i) (Xg aV.2) (by omega) ?_;intro dT b3;refine Ze (X2j rfl X07)<|Ze (X0 rfl X9 (b3.drop 1))<|Za rfl<|ZX bR fun a h _ bS=>?_;refine Zs h fun _ bT=>?_;refine Zm rfl<|Ze (X09 rfl Xj)<|Zm rfl<|Zt bT fun a h=>?_;refine Q8<|X01 (σ:=Nat×Dg) (fun (s:Nat×Dg) (a:Act) (w:World)=>match s with|(k,o)=>∃ aC aD aG aH,Fr a 95 [(4,(pZ9 b7)),(6,.slice aE (nearW d.ws p).length aF),(7,(pZ9 b28)),(8,vi ((d.ns.getD p.toNat nZ).p)),(52,.slice aE (nearW d.ws p).length aF),(53,vi ((nearW d.ws p).length:Int)),(54,vi (k:Int))]/\(k<=(nearW d.ws p).length)/\(o=lcS (d.ns.getD p.toNat nZ).p (nearW d.ws p) (id0 d p) k)/\(d.ns.length=o.ns.length)/\(o.ws.length<=d.ws.length+k*1000)/\(PhN o.ns)/\Blk w b7 39 [vi 0,.slice none 0 0,.slice none 0 0,vi 0,vi 0]/\Blk w b28 39 [vi o.n,.slice aC d.ns.length aD,.slice aG o.ws.length aH,vi o.t,vi o.r]/\Own w w0.heap.size 3 1 encI aE aF (nearW d.ws p)/\Own w w0.heap.size 81 2 encNd aC aD o.ns/\Rd w w.heap.size 83 encWr aG o.ws/\d.ws.length<=dd/\o.ws.length<=aH/\Below w0.heap.size w0 w) (fun (s:Nat×Dg)=>match s with|(k,o)=>(nearW d.ws p).length-k) (0,(id0 d p)) ?_ ?_
 ·exact ⟨b1,b2,bL,bM,h.sb,(Qf _),rfl,(X1j _ _).symm,(Q0 (X2b _ _) (by omega)),(X55 hD.p p),g,f,b,L,aK.top,E,bN,i⟩
 rintro ⟨k,o⟩ a dU ⟨aC,aD,aG,aH,h,hk,bU,b5,d7,bW,g,f,b,D,W,E,bX,i⟩;refine Zs h fun _ bY=>?_;refine Ze (X0n rfl rfl)<|ZX bY fun a h _ bZ=>?_
 refine Xi h rfl (fun N=>?_) (fun N=>?_)
 ·have b6:=N;have N:=Q2 N
  obtain ⟨dW,dF⟩:=X4 (l:=(nearW d.ws p)) (k:=k) (by omega)
  obtain ⟨u9,b8⟩:=X4 (l:=(nearW d.ws p)) (k:=k) (by have:=N;omega)
  have d8:=X6v hD b8;have dX:=X1l bW u9.toNat;refine Q7<|bZ _ _<|Q5 fun _ c5=>?_;refine Q8<|Zs h fun _ cA=>?_;refine Zm rfl<|Zi (k:=k) (u:=u9) (enc:=encI) (l:=(nearW d.ws p)) tv0 rfl rfl Xj X0b Xd b.rd b8 rfl ?_;intro dY b9;refine Ze (X0 rfl X9 b9)<|Za rfl<|Za rfl<|Zx cA fun a h _ cB=>?_;refine Ze (Vn X2 f)<|Zm rfl<|Zm rfl<|Ze (X1h rfl rfl (by omega) (by omega))<|Zf (Vc (X9s _ o d.ns.length b5 aC aD _ D i.size aG aH W.top bX u9 (8-((d.ns.getD p.toNat nZ).p)) ⟨d8.1,by omega⟩ ⟨by omega,by omega⟩) X5o) ?_;rintro _ eA ⟨cC,cD,rfl,U,aR,cE,dG,hg⟩;have C:=D;have g:=g.appT C hg rfl;have f:=f.appT C hg rfl;have b:=b.appT C hg rfl;have i:=Below.app i C hg (Qb _) i.size
  clear C hg;clear D;have D:=U;clear U;refine Zo (Vw [vi (({ o with ns:=adN o.ns u9 (8-((d.ns.getD p.toNat nZ).p)) } : Dg).n),.slice aC d.ns.length aD,.slice cC (({ o with ns:=adN o.ns u9 (8-((d.ns.getD p.toNat nZ).p)) } : Dg).ws).length cD,vi (({ o with ns:=adN o.ns u9 (8-((d.ns.getD p.toNat nZ).p)) } : Dg).t),vi (({ o with ns:=adN o.ns u9 (8-((d.ns.getD p.toNat nZ).p)) } : Dg).r)] Xh f) ?_;rintro _ d9 ⟨I,hb⟩;have q:=f;have g:=g.oy I (by omega);have b:=b.oT I q rfl;have D:=D.oT I q rfl;have aR:=aR.oT I q rfl;have i:=Below.oy i I aB;have f:=hb;refine Zx cB fun a h _ cF=>?_;refine Zm rfl<|Zm rfl ?_;have a6:=(b.rd.top).takeK Xd k;refine Ze (X2r (l:=(nearW d.ws p)) (k:=k) rfl rfl Xj X0b rfl hk b.cap)<|Ze (X09 rfl Xj)<|Zm rfl<|Zt cF fun a h=>?_;refine Q8<|X01 (σ:=Nat×Dg) (fun (s:Nat×Dg) (a:Act) (w:World)=>match s with|(j,z)=>∃ aN aO aS aT,Fr a 95 [(4,(pZ9 b7)),(6,.slice aE (nearW d.ws p).length aF),(7,(pZ9 b28)),(8,vi ((d.ns.getD p.toNat nZ).p)),(10,vi u9),(52,.slice aE (nearW d.ws p).length aF),(53,vi ((nearW d.ws p).length:Int)),(54,vi (k:Int)),(66,.slice aE ((nearW d.ws p).take k).length aF),(67,vi (((nearW d.ws p).take k).length:Int)),(68,vi (j:Int))]/\(j<=((nearW d.ws p).take k).length)/\(z=tgL ({ o with ns:=adN o.ns u9 (8-(d.ns.getD p.toNat nZ).p) } : Dg) u9 (((nearW d.ws p).take k).take j))/\(d.ns.length=z.ns.length)/\(z.ws.length<=o.ws.length+j)/\(PhN z.ns)/\Blk w b7 39 [vi 0,.slice none 0 0,.slice none 0 0,vi 0,vi 0]/\Blk w b28 39 [vi z.n,.slice aN d.ns.length aO,.slice aS z.ws.length aT,vi z.t,vi z.r]/\Own w w0.heap.size 3 1 encI aE aF (nearW d.ws p)/\Rd w d9.heap.size 3 encI aE ((nearW d.ws p).take k)/\Own w w0.heap.size 81 2 encNd aN aO z.ns/\Rd w w.heap.size 83 encWr aS z.ws/\d.ws.length<=dd/\z.ws.length<=aT/\Below w0.heap.size w0 w) (fun (s:Nat×Dg)=>match s with|(j,z)=>((nearW d.ws p).take k).length-j) (0,({ o with ns:=adN o.ns u9 (8-(d.ns.getD p.toNat nZ).p) } : Dg)) ?_ ?_
  ·exact ⟨aC,aD,cC,cD,h.sb,(Qf _),rfl,(b5.trans (X1r _ _ _).symm),(Qb _),(X61 bW _ _),g,f,b,a6,D,aR.top,E,cE,i⟩
  rintro ⟨j,z⟩ a eB ⟨aN,aO,aS,aT,h,hj,hz,bA,dA,cG,g,f,b,a6,a7,aX,E,cH,i⟩;refine Zs h fun _ cI=>?_;refine Ze (X0n rfl rfl)<|ZX cI fun a h _ cJ=>?_
  refine Xi h rfl (fun Q=>?_) (fun Q=>?_)
  ·have bB:=Q;have Q:=Q2 Q
   obtain ⟨eC,dH⟩:=X4 (l:=((nearW d.ws p).take k)) (k:=j) (by omega)
   obtain ⟨v9,bC⟩:=X4 (l:=(nearW d.ws p).take k) (k:=j) (by have:=Q;omega)
   have eD:j<k:=by have:=(Qg.1 bC).1;rw [Qn] at this;omega
   refine Q7<|cJ _ _<|Q5 fun _ cK=>?_;refine Q8<|Zs h fun _ cL=>?_;refine Zi (k:=j) (u:=v9) (enc:=encI) (l:=((nearW d.ws p).take k)) tv0 rfl rfl Xj X0b Xd a6 bC rfl ?_;intro eE bD;refine Ze (X0 rfl X9 bD)<|Za rfl<|Zt cL fun a h=>?_;refine Zr h<|Ze (Vn X2 f)<|Zm rfl<|Zm rfl<|Zf (Vc (Xs1 _ z d.ns.length bA aN aO _ a7 i.size aS aT aX.top cH u9 v9 (by have:=dA;have:=d7;rw [Qn] at hj;omega)) Xh9) ?_;rintro _ eF ⟨cM,cN,rfl,U,aU,cO,dI,hg⟩;have C:=a7;have g:=g.appT C hg rfl;have f:=f.appT C hg rfl;have b:=b.appT C hg rfl;have a6:=a6.appT C hg rfl;have i:=Below.app i C hg (Qb _) i.size
   clear C hg;clear a7;have a7:=U;clear U;refine Zo (Vw [vi ((tgD z u9 v9).n),.slice aN d.ns.length aO,.slice cM ((tgD z u9 v9).ws).length cN,vi ((tgD z u9 v9).t),vi ((tgD z u9 v9).r)] Xh f) ?_;rintro _ eG ⟨I,hb⟩;have q:=f;have g:=g.oy I (by omega);have b:=b.oT I q rfl;have a6:=a6.oT I q rfl;have a7:=a7.oT I q rfl;have aU:=aU.oT I q rfl;have i:=Below.oy i I aB;have f:=hb;refine Zn fun a h=>?_;refine Xa<|cK _ _<|Zr h<|Ze (Xs rfl rfl (by omega) (by omega))<|Zm rfl ?_;refine Zn fun a h=>?_;refine Xc ?_;exact ⟨(j+1,(tgD z u9 v9)),⟨aN,aO,cM,cN,h.sb,(by omega),(by rw [Xmz bC,<- hz]),(by rw [(X2d z u9 v9).1];exact bA),(by have:=(X2d z u9 v9).2;omega),(by rw [(X2d z u9 v9).1];exact cG),g,f,b,a6,a7,aU.top,E,cO,i⟩,(by first|omega|(dsimp only;omega))⟩
  have bB:=Q;have Q:=Q1 Q
  have dB:z=lcS (d.ns.getD p.toNat nZ).p (nearW d.ws p) (id0 d p) (k+1):=by rw [hz,Qi (by have:=Q;omega),bU,Xkl b8]
  have eH:j<=k:=by rw [Qn] at hj;omega
  refine Q9<|Xk<|Xk<|X02 ?_;refine Xa<|c5 _ _<|Zr h<|Ze (Xs rfl rfl (by omega) (by omega))<|Zm rfl ?_;refine Zn fun a h=>?_;refine Xc ?_;exact ⟨(k+1,z),⟨aN,aO,aS,aT,h.sb,(by omega),dB,bA,(by omega),cG,g,f,b,a7,aX.top,E,cH,i⟩,(by first|omega|(dsimp only;omega))⟩
 have b6:=N;have N:=Q1 N
 have cP:o=lcS (d.ns.getD p.toNat nZ).p (nearW d.ws p) (id0 d p) (nearW d.ws p).length:=by rw [bU];congr 1;have:=N;omega
 refine Q9<|Xk<|Xk<|X02 ?_;refine bS _ _<|Zs h fun _ cQ=>?_;refine Ze (Vd rfl X0q 3)<|Ze (X0 rfl X9 (f.at 3))<|Zm rfl<|Ze (X1h rfl rfl (by omega) (by omega))<|Ze (Xif rfl rfl rfl)<|Ze (Y4s rfl rfl)<|Ze (Vx (X2z rfl rfl) (Xrl aW.2))<|Ze (X2z rfl rfl)<|Ze (Vd rfl X0q 3)<|Zo (Vu (vs:=[vi (wr (o.t+(if (d.ns.getD p.toNat nZ).p=2 then 1 else 7)))]) (l':=[vi o.n,.slice aC d.ns.length aD,.slice aG o.ws.length aH,vi (wr (o.t+(if (d.ns.getD p.toNat nZ).p=2 then 1 else 7))),vi o.r]) rfl rfl X0b f) ?_;rintro _ eI ⟨I,hb⟩;have q:=f;have g:=g.oy I (by omega);have D:=D.oT I q rfl;have W:=W.oT I q rfl;have i:=Below.oy i I aB;have f:=hb;refine Zx cQ fun a h _ cR=>?_;refine Ze (Vd rfl X00 4)<|Ze (X0 rfl X9 (f.at 4))<|Zm rfl<|Ze (X09 rfl Xj)<|Ze (X1h rfl rfl (by omega) (by omega))<|Ze (X2z rfl rfl)<|Ze (Vd rfl X00 4)<|Zo (Vu (vs:=[vi (wr (o.r+(1-((nearW d.ws p).length:Int))))]) (l':=[vi o.n,.slice aC d.ns.length aD,.slice aG o.ws.length aH,vi (wr (o.t+(if (d.ns.getD p.toNat nZ).p=2 then 1 else 7))),vi (wr (o.r+(1-((nearW d.ws p).length:Int))))]) rfl rfl X0b f) ?_;rintro _ eJ ⟨I,hb⟩;have q:=f;have g:=g.oy I (by omega);have D:=D.oT I q rfl;have W:=W.oT I q rfl;have i:=Below.oy i I aB;have f:=hb;refine Zx cR fun a h _ cS=>?_;refine Ze (Vn X2 f)<|Zo (Vw [vi o.n,.slice aC d.ns.length aD,.slice aG o.ws.length aH,vi (wr (o.t+(if (d.ns.getD p.toNat nZ).p=2 then 1 else 7))),vi (wr (o.r+(1-((nearW d.ws p).length:Int))))] Xh g) ?_;rintro _ eK ⟨I,hb⟩;have q:=g;have D:=D.oT I q rfl
 have W:=W.oT I q rfl;have i:=Below.oy i I aQ;have g:=hb;refine Za rfl<|Zt cS fun a h=>?_
 refine Q6 (X6 h (X1v h rfl (ResV.cellN (l:=[vi o.n,.slice aC d.ns.length aD,.slice aG o.ws.length aH,vi (wr (o.t+(if (d.ns.getD p.toNat nZ).p=2 then 1 else 7))),vi (wr (o.r+(1-((nearW d.ws p).length:Int))))]) rfl X2 (g.at 0) rfl) rfl) ?_)
 rw [cZ,Q4 rfl,Xki cP,J]
 exact ⟨aC,aD,aG,aH,rfl,D.rd.top,W.top,bX,b5,i⟩
def pvL(d:Dg)(a b:Int) : List Int:=(othW d.ws b a).foldl putI (othW d.ws a b)
def pvC(d:Dg)(a b:Int) : Bool:=spI d.ns a&&spI d.ns b&&decide (a<b)&&(d.ns.getD a.toNat nZ).p % 4==0&&(d.ns.getD b.toNat nZ).p % 4==0&&tyW d.ws a b==2&&hadD d a&&hadD d b&&rdyD d (pvL d a b)
def stN(c:Bool)(o:Dg)(x m:Int) : Dg:=if c=true then { o with ns:=adN o.ns x m } else o
def pvT(l m:List Int)(x:Int)(o:Dg)(y:Int) : Dg:=if (((l.any fun v=>v==x)&&(m.any fun v=>v==y)) != ((m.any fun v=>v==x)&&(l.any fun v=>v==y)))=true then tgD o x y else o
def pvF(l m:List Int)(x:Int)(r:List Int)(o:Dg) : Dg:=r.foldl (pvT l m x) o
def pv3(e f:Int)(l m:List Int)(x:Int)(o:Dg) : Dg:=stN ((l.any fun v=>v==x)&&(m.any fun v=>v==x)) (stN (m.any fun v=>v==x) (stN (l.any fun v=>v==x) o x f) x e) x 4
def pvM(e f:Int)(l m r:List Int)(o:Dg) : Nat->Dg
 | 0=>o
 | i+1=>pvF l m (r.getD i 0) (r.take i) (pv3 e f l m (r.getD i 0) (pvM e f l m r o i))
def pvD(d:Dg)(a b:Int) : Dg:=
 let o:=pvM (d.ns.getD a.toNat nZ).p (d.ns.getD b.toNat nZ).p (othW d.ws a b) (othW d.ws b a) (pvL d a b) (id0 (id0 d a) b) (pvL d a b).length
 { o with t:=if ((d.ns.getD a.toNat nZ).p+(d.ns.getD b.toNat nZ).p==8)=true then wr (o.t+4) else o.t,r:=wr (o.r+(1-((othW d.ws a b).length:Int)-((othW d.ws b a).length:Int))) }
theorem Xaz{d o:Dg}{a b:Int}(h:o=pvM (d.ns.getD a.toNat nZ).p (d.ns.getD b.toNat nZ).p (othW d.ws a b) (othW d.ws b a) (pvL d a b) (id0 (id0 d a) b) (pvL d a b).length) : pvD d a b = { o with t:=if ((d.ns.getD a.toNat nZ).p+(d.ns.getD b.toNat nZ).p==8)=true then wr (o.t+4) else o.t,r:=wr (o.r+(1-((othW d.ws a b).length:Int)-((othW d.ws b a).length:Int))) }:=by subst h;rfl
theorem Xj3{c:Bool}{o:Dg}{x m:Int}(h:c=true) : stN c o x m = { o with ns:=adN o.ns x m }:=Q4 h
theorem Xlj{c:Bool}{o:Dg}{x m:Int}(h:c=false) : stN c o x m=o:=Q3 (by rw [h];decide)
theorem Y0t{l m:List Int}{x y:Int}{o:Dg}(h:(((l.any fun v=>v==x)&&(m.any fun v=>v==y)) != ((m.any fun v=>v==x)&&(l.any fun v=>v==y)))=true) : pvT l m x o y=tgD o x y:=Q4 h
theorem Y38{l m:List Int}{x y:Int}{o:Dg}(h:(((l.any fun v=>v==x)&&(m.any fun v=>v==y)) != ((m.any fun v=>v==x)&&(l.any fun v=>v==y)))=false) : pvT l m x o y=o:=Q3 (by rw [h];decide)
theorem Xl8{l m:List Int}{x:Int}{r:List Int}{o:Dg}{k:Nat}{v:Int}(hv:r[k]? = some v) : pvF l m x (r.take (k+1)) o=pvT l m x (pvF l m x (r.take k) o) v:=by
 unfold pvF
 rw [Qt,hv,Option.toList_some,List.foldl_append]
 rfl
theorem Xcn{e f u:Int}{l m r:List Int}{o:Dg}{k:Nat}(hu:r[k]? = some u) : pvM e f l m r o (k+1)=pvF l m u (r.take k) (pv3 e f l m u (pvM e f l m r o k)):=by
 have h:r.getD k 0=u:=by rw [Qa,hu];rfl
 show pvF l m (r.getD k 0) (r.take k) (pv3 e f l m (r.getD k 0) (pvM e f l m r o k))=_
 rw [h]
theorem X7t{d:Dg}(h:InD d)(a b:Int) : (othW d.ws a b).length<=d.ns.length:=Q0 (List.length_filter_le _ _) (X3j h a)
theorem Xam{d:Dg}(h:InD d)(a b:Int) : (pvL d a b).length<=2*d.ns.length:=by
 have h1:=X90 (othW d.ws b a) (othW d.ws a b);have h2:=X7t h a b;have h3:=X7t h b a
 unfold pvL
 omega
theorem Xbp{d:Dg}(h:InD d){a b u:Int}{k:Nat}(hu:(pvL d a b)[k]? = some u) : 0<=u/\u.toNat<d.ns.length:=by
 have h1:=(X4h _ _ _).1 (Qe hu)
 rcases h1 with h1|h1
 ·exact X1i h (List.mem_filter.1 h1).1
 ·exact X1i h (List.mem_filter.1 h1).1
theorem Xkm{d:Dg}(hd:InD d){a b:Int}(h:(!(spI d.ns a)||!(spI d.ns b)||decide (b<=a)||((d.ns.getD a.toNat nZ).p.tmod 4 != 0)||((d.ns.getD b.toNat nZ).p.tmod 4 != 0)||(tyW d.ws a b != 2))=true) : pvC d a b=false:=by
 rw [Xa9 (X1l hd.p _).1,Xa9 (X1l hd.p _).1] at h
 unfold pvC
 generalize (d.ns.getD a.toNat nZ).p=x at h ⊢
 generalize (d.ns.getD b.toNat nZ).p=y at h ⊢
 cases h1:spI d.ns a
 ·rfl
 cases h2:spI d.ns b
 ·rfl
 cases h3:decide (a<b)
 ·rfl
 cases h4:(x % 4==0)
 ·simp
 cases h5:(y % 4==0)
 ·simp
 cases h6:(tyW d.ws a b==2)
 ·simp
 simp [h1,h2] at h h3 h4 h5 h6
 omega
theorem Xgt{d:Dg}(hd:InD d){a b:Int}(h:(!(spI d.ns a)||!(spI d.ns b)||decide (b<=a)||((d.ns.getD a.toNat nZ).p.tmod 4 != 0)||((d.ns.getD b.toNat nZ).p.tmod 4 != 0)||(tyW d.ws a b != 2))=false) : (0<=a/\a.toNat<d.ns.length)/\(0<=b/\b.toNat<d.ns.length)/\(((d.ns.getD a.toNat nZ).p=0∨(d.ns.getD a.toNat nZ).p=4)/\((d.ns.getD b.toNat nZ).p=0∨(d.ns.getD b.toNat nZ).p=4))/\(spI d.ns a&&spI d.ns b&&decide (a<b)&&(d.ns.getD a.toNat nZ).p % 4==0&&(d.ns.getD b.toNat nZ).p % 4==0&&tyW d.ws a b==2)=true:=by
 rw [Xa9 (X1l hd.p _).1,Xa9 (X1l hd.p _).1] at h
 have ha:=X1l hd.p a.toNat;have hb:=X1l hd.p b.toNat
 generalize (d.ns.getD a.toNat nZ).p=x at h ha ⊢
 generalize (d.ns.getD b.toNat nZ).p=y at h hb ⊢
 cases h1:spI d.ns a
 ·simp [h1] at h
 cases h2:spI d.ns b
 ·simp [h2] at h
 have s1:=X0f h1
 have s2:=X0f h2
 simp [h1,h2] at h
 refine ⟨⟨s1.1,s1.2.1⟩,⟨s2.1,s2.2.1⟩,⟨by omega,by omega⟩,?_⟩
 simp
 omega
theorem Xlk{d:Dg}{a b:Int}(h:(!(hadD d a)||!(hadD d b)||!(rdyD d (pvL d a b)))=true) : pvC d a b=false:=by
 unfold pvC
 cases h1:hadD d a
 ·simp
 cases h2:hadD d b
 ·simp
 cases h3:rdyD d (pvL d a b)
 ·simp
 simp [h1,h2,h3] at h
theorem Xgn{d:Dg}{a b:Int}(h1:(spI d.ns a&&spI d.ns b&&decide (a<b)&&(d.ns.getD a.toNat nZ).p % 4==0&&(d.ns.getD b.toNat nZ).p % 4==0&&tyW d.ws a b==2)=true)(h:(!(hadD d a)||!(hadD d b)||!(rdyD d (pvL d a b)))=false) : pvC d a b=true:=by
 unfold pvC
 rw [h1]
 cases h2:hadD d a
 ·simp [h2] at h
 cases h3:hadD d b
 ·simp [h3] at h
 cases h4:rdyD d (pvL d a b)
 ·simp [h4] at h
 rfl
structure Rz where
 u:Int
 a:Int
 b:Int
deriving DecidableEq
def encRz(x:Rz) : List Value:=[.int .i64 x.u,.int .i64 x.a,.int .i64 x.b]
theorem X2l:∀ x,(encRz x).length=3:=fun _=>rfl
theorem X5x:∀ x,(encRz x).all one=true:=fun _=>rfl
def doC(d:Dg)(r:Rz) : Bool:=if (r.u==1)=true then fuC d r.a r.b else if (r.u==4)=true then pvC d r.a r.b else if (r.b != 0)=true then false else if (r.u==2)=true then idC d r.a else if (r.u==3)=true then lcC d r.a else if (r.u==5)=true then loC d r.a else false
def doD(d:Dg)(r:Rz) : Dg:=if (r.u==1)=true then fuD d r.a r.b else if (r.u==4)=true then pvD d r.a r.b else if (r.u==2)=true then idD d r.a else if (r.u==3)=true then lcD d r.a else loD d r.a
theorem Xra{d:Dg}{r:Rz}(h1:(r.u==1)=true) : doC d r=fuC d r.a r.b/\doD d r=fuD d r.a r.b:=⟨Q4 h1,Q4 h1⟩
theorem Xws{d:Dg}{r:Rz}(h1:(r.u==1)=false)(h4:(r.u==4)=true) : doC d r=pvC d r.a r.b/\doD d r=pvD d r.a r.b:=by
 unfold doC doD;rw [h1,h4];exact ⟨rfl,rfl⟩
theorem Xxv{d:Dg}{r:Rz}(h1:(r.u==1)=false)(h4:(r.u==4)=false)(hb:(r.b != 0)=true) : doC d r=false:=by
 unfold doC;rw [h1,h4,hb];rfl
theorem Xv6{d:Dg}{r:Rz}(h1:(r.u==1)=false)(h4:(r.u==4)=false)(hb:(r.b != 0)=false)(h2:(r.u==2)=true) : doC d r=idC d r.a/\doD d r=idD d r.a:=by
 unfold doC doD;rw [h1,h4,hb,h2];exact ⟨rfl,rfl⟩
theorem Xwf{d:Dg}{r:Rz}(h1:(r.u==1)=false)(h4:(r.u==4)=false)(hb:(r.b != 0)=false)(h2:(r.u==2)=false)(h3:(r.u==3)=true) : doC d r=lcC d r.a/\doD d r=lcD d r.a:=by
 unfold doC doD;rw [h1,h4,hb,h2,h3];exact ⟨rfl,rfl⟩
theorem Xy0{d:Dg}{r:Rz}(h1:(r.u==1)=false)(h4:(r.u==4)=false)(hb:(r.b != 0)=false)(h2:(r.u==2)=false)(h3:(r.u==3)=false)(h5:(r.u==5)=true) : doC d r=loC d r.a/\doD d r=loD d r.a:=by
 unfold doC doD;rw [h1,h4,hb,h2,h3,h5];exact ⟨rfl,rfl⟩
theorem Y01{d:Dg}{r:Rz}(h1:(r.u==1)=false)(h4:(r.u==4)=false)(hb:(r.b != 0)=false)(h2:(r.u==2)=false)(h3:(r.u==3)=false)(h5:(r.u==5)=false) : doC d r=false:=by
 unfold doC;rw [h1,h4,hb,h2,h3,h5];rfl
theorem Xzx(w0:World)(d:Dg)(md:Nat)(a8:md=d.ns.length)(Ad:Option Addr)(cd:Nat)(aI:Rd w0 w0.heap.size 81 encNd Ad d.ns)(Bd:Option Addr)(dd:Nat)(aU:Rd w0 w0.heap.size 83 encWr Bd d.ws)(N:d.ws.length<=dd)(p:Int)(q:Int)(hD:InD d) : Ret Tryz.prog 176 [.agg #[vi d.n,.slice Ad md cd,.slice Bd d.ws.length dd,vi d.t,vi d.r],vi p,vi q] w0 (fun v w=>∃ A c B e,v=.tuple #[.agg #[vi (if (pvC d p q)=true then pvD d p q else d).n,.slice A md c,.slice B (if (pvC d p q)=true then pvD d p q else d).ws.length e,vi (if (pvC d p q)=true then pvD d p q else d).t,vi (if (pvC d p q)=true then pvD d p q else d).r],.bool (pvC d p q)]/\Rd w w.heap.size 81 encNd A (if (pvC d p q)=true then pvD d p q else d).ns/\Rd w w.heap.size 83 encWr B (if (pvC d p q)=true then pvD d p q else d).ws/\(if (pvC d p q)=true then pvD d p q else d).ws.length<=e/\md=(if (pvC d p q)=true then pvD d p q else d).ns.length/\Below w0.heap.size w0 w):=by
 have iK:=hD.len;have iM:=hD.m;have iN:=X7t hD p q;have iO:=X7t hD q p;have gG:=Xam hD p q;have iP:=X1l hD.p p.toNat;have iQ:=X1l hD.p q.toNat;have iS:=X2b d.ws p;have iT:=X2b (dpW d.ws p) q;refine enter Tryz.func176 rfl 196 rfl rfl ?_;intro a J
 have G:=bz w0
 refine Zs J fun _ gH=>?_;refine Zf (X0l (zs:=[vi d.n,.slice Ad md cd,.slice Bd d.ws.length dd,vi d.t,vi d.r]) rfl rfl) ?_;rintro _ w1 ⟨b4,rfl,gI,L,M⟩;have iA:=Q0 G.size gI;have G:=btr G L;refine Zf (Xq (zs:=[vi 0,.slice none 0 0,.slice none 0 0,vi 0,vi 0]) X0h rfl) ?_;rintro _ w2 ⟨b7,rfl,gJ,L,E⟩
 have gF:b4≠b7:=by have:=M.lt;omega
 have bW:=Q0 G.size gJ;have M:=M.bw L;have G:=btr G L;refine Za rfl<|ZX gH fun a J _ gK=>?_;refine Q5 fun _ gL=>?_;refine X0a (fun a w=>Fr a 196 [(1,vi p),(2,vi q),(3,(pZ9 b4)),(6,(pZ9 b7)),(63,.bool ((((((!(spI d.ns p))||(!(spI d.ns q)))||(decide (q<=p)))||((((d.ns.getD p.toNat nZ).p).tmod 4) != 0))||((((d.ns.getD q.toNat nZ).p).tmod 4) != 0))||((tyW d.ws p q) != 2)))]/\Below w2.heap.size w2 w) ?_ ?_
 ·have a6:Below w2.heap.size w2 w2:=Below.refl _ _
  refine Zr J<|Ze (Vn X2 M)<|Zm rfl<|Zf (Vc (X69 _ d md a8 Ad cd (aI.bx G).top Bd dd (aU.bx G).top N p (by rw [a8];exact hD.m)) X34) ?_;rintro _ w3 ⟨rfl,L⟩;have M:=M.bw L;have G:=btr G L;have a6:=btr a6 L;refine Ze (X0w rfl)<|Zm rfl ?_
  refine Zg 26 rfl (fun a7=>?_) (fun a7=>?_)
  ·(iterate 4 refine Zp (gP a7) ?_);refine Ze (X5 rfl a7 rfl)<|Zm rfl<|Zp (gP rfl) ?_;(iterate 2 refine Zp (gP rfl) ?_);refine Ze (X5 rfl rfl rfl)<|Zm rfl<|Zp (gP rfl) ?_;(iterate 7 refine Zp (gP rfl) ?_);refine Ze (X5 rfl rfl rfl)<|Zm rfl<|Zp (gP rfl) ?_;(iterate 7 refine Zp (gP rfl) ?_);refine Ze (X5 rfl rfl rfl)<|Zm rfl<|Zp (gP rfl) ?_;(iterate 4 refine Zp (gP rfl) ?_);refine Ze (X5 rfl rfl rfl) ?_;refine Zn fun a J=>?_
   have aH:Below w2.heap.size w2 w3:=a6
   exact ⟨J.sub ⟨rfl,rfl,rfl,rfl,X1 rfl (by simp [a7]),trivial⟩,aH⟩
  have cS:0<=p/\p.toNat<d.ns.length:=by have h9:=X0f (ns:=d.ns) (k:=p) (by simpa using a7);exact ⟨h9.1,h9.2.1⟩
  refine Zv (gW a7) (Vn X2 M) ?_;refine Zv (gW a7) (X3 rfl) ?_;refine Zk (gW a7) (Vc (X69 _ d md a8 Ad cd (aI.bx G).top Bd dd (aU.bx G).top N q (by rw [a8];exact hD.m)) X34) ?_;rintro _ w4 ⟨rfl,L⟩;have M:=M.bw L;have G:=btr G L;have a6:=btr a6 L;refine Zv (gW a7) (X0w rfl) ?_;refine Ze (Xb rfl a7 rfl)<|Zm rfl ?_
  refine Zg 32 rfl (fun aB=>?_) (fun aB=>?_)
  ·(iterate 3 refine Zp (gP aB) ?_);refine Ze (X5 rfl aB rfl)<|Zm rfl<|Zp (gP rfl) ?_;(iterate 7 refine Zp (gP rfl) ?_);refine Ze (X5 rfl rfl rfl)<|Zm rfl<|Zp (gP rfl) ?_;(iterate 7 refine Zp (gP rfl) ?_);refine Ze (X5 rfl rfl rfl)<|Zm rfl<|Zp (gP rfl) ?_;(iterate 4 refine Zp (gP rfl) ?_);refine Ze (X5 rfl rfl rfl) ?_;refine Zn fun a J=>?_
   have aH:Below w2.heap.size w2 w4:=a6
   exact ⟨J.sub ⟨rfl,rfl,rfl,rfl,X1 rfl (by simp [a7,aB]),trivial⟩,aH⟩
  have cC:0<=q/\q.toNat<d.ns.length:=by have h9:=X0f (ns:=d.ns) (k:=q) (by have h8:=aB;first|exact (by simpa using h8)|(simp at h8;exact h8.2));exact ⟨h9.1,h9.2.1⟩
  refine Zv (gW aB) (X3 rfl) ?_;refine Zv (gW aB) (X3 rfl) ?_;refine Zv (gW aB) (X5h rfl rfl) ?_;refine Ze (Xb rfl aB rfl)<|Zm rfl ?_
  refine Zg 37 rfl (fun Q=>?_) (fun Q=>?_)
  ·(iterate 8 refine Zp (gP Q) ?_);refine Ze (X5 rfl Q rfl)<|Zm rfl<|Zp (gP rfl) ?_;(iterate 7 refine Zp (gP rfl) ?_);refine Ze (X5 rfl rfl rfl)<|Zm rfl<|Zp (gP rfl) ?_;(iterate 4 refine Zp (gP rfl) ?_);refine Ze (X5 rfl rfl rfl) ?_;refine Zn fun a J=>?_
   have aH:Below w2.heap.size w2 w4:=a6
   exact ⟨J.sub ⟨rfl,rfl,rfl,rfl,X1 rfl (by simp [a7,aB,Q]),trivial⟩,aH⟩
  refine Zv (gW Q) (Vd rfl Xf 1) ?_;refine Zv (gW Q) (X0 rfl Xz (M.at 1)) ?_;refine Zv (gW Q) (X3 rfl) ?_;refine Zj (k:=p.toNat) (u:=(d.ns.getD p.toNat nZ)) (enc:=encNd) (l:=d.ns) ⟨_,_,rfl,rfl,Q⟩ rfl a8 rfl Xm X06 Xv (aI.bx G) (Xg cS.2) (by omega) ?_;intro iU dE;refine Zv (gW Q) (X2j rfl X07) ?_;refine Zv (gW Q) (X0 rfl X9 (dE.drop 1)) ?_;refine Zv (gW Q) (X3k rfl rfl rfl) ?_;refine Zv (gW Q) (X1e rfl rfl) ?_;refine Ze (Xb rfl Q rfl)<|Zm rfl ?_
  refine Zg 47 rfl (fun U=>?_) (fun U=>?_)
  ·(iterate 8 refine Zp (gP U) ?_);refine Ze (X5 rfl U rfl)<|Zm rfl<|Zp (gP rfl) ?_;(iterate 4 refine Zp (gP rfl) ?_);refine Ze (X5 rfl rfl rfl) ?_;refine Zn fun a J=>?_
   have aH:Below w2.heap.size w2 w4:=a6
   exact ⟨J.sub ⟨rfl,rfl,rfl,rfl,X1 rfl (by first|rfl|(simp only [a7,aB,Q,U,bs];done)|simp [a7,aB,Q,U]),trivial⟩,aH⟩
  refine Zv (gW U) (Vd rfl Xf 1) ?_;refine Zv (gW U) (X0 rfl Xz (M.at 1)) ?_;refine Zv (gW U) (X3 rfl) ?_;refine Zj (k:=q.toNat) (u:=(d.ns.getD q.toNat nZ)) (enc:=encNd) (l:=d.ns) ⟨_,_,rfl,rfl,U⟩ rfl a8 rfl Xm X06 Xv (aI.bx G) (Xg cC.2) (by omega) ?_;intro iV dF;refine Zv (gW U) (X2j rfl X07) ?_;refine Zv (gW U) (X0 rfl X9 (dF.drop 1)) ?_;refine Zv (gW U) (X3k rfl rfl rfl) ?_;refine Zv (gW U) (X1e rfl rfl) ?_;refine Ze (Xb rfl U rfl)<|Zm rfl ?_
  refine Zg 57 rfl (fun aF=>?_) (fun aF=>?_)
  ·(iterate 5 refine Zp (gP aF) ?_);refine Ze (X5 rfl aF rfl) ?_;refine Zn fun a J=>?_
   have aH:Below w2.heap.size w2 w4:=a6
   exact ⟨J.sub ⟨rfl,rfl,rfl,rfl,X1 rfl (by first|rfl|(simp only [a7,aB,Q,U,aF,bs];done)|simp [a7,aB,Q,U,aF]),trivial⟩,aH⟩
  refine Zv (gW aF) (Vn X2 M) ?_;refine Zv (gW aF) (X3 rfl) ?_;refine Zv (gW aF) (X3 rfl) ?_;refine Zk (gW aF) (Vc (X9i _ d md a8 Ad cd (aI.bx G).top Bd dd (aU.bx G).top N p q (by omega)) X4v) ?_;rintro _ w5 ⟨rfl,L⟩;have G:=btr G L;have a6:=btr a6 L;refine Zv (gW aF) (X1e rfl rfl) ?_;refine Ze (Xb rfl aF rfl) ?_;refine Zn fun a J=>?_
  have aH:Below w2.heap.size w2 w5:=a6
  exact ⟨J.sub ⟨rfl,rfl,rfl,rfl,X1 rfl (by first|rfl|(simp only [a7,aB,Q,U,aF,bs];done)|simp [a7,aB,Q,U,aF]),trivial⟩,aH⟩
 rintro a w6 ⟨J,L⟩;have M:=M.bw L;have E:=E.bw L;have G:=btr G L;refine gL _ _ ?_
 refine Xi J rfl (fun bF=>?_) (fun bF=>?_)
 ·have aN:=bF;have dG:=Xkm hD bF;refine Zs J fun _ eF=>?_;refine Ze (Vn X2 M)<|Zo (Vw [vi d.n,.slice Ad md cd,.slice Bd d.ws.length dd,vi d.t,vi d.r] Xh E) ?_;rintro _ w7 ⟨ho,hb⟩;have I:=E;have G:=Below.oy G ho bW;have E:=hb;refine Za rfl<|Zt eF fun a J=>?_;refine Q6<|X8<|X6 J (X1v J rfl (ResV.cellN (l:=[vi d.n,.slice Ad md cd,.slice Bd d.ws.length dd,vi d.t,vi d.r]) rfl X2 (E.at 0) rfl) rfl) ?_
  rw [dG,Q3 Bool.false_ne_true]
  exact ⟨Ad,cd,Bd,dd,rfl,(aI.bx G).top,(aU.bx G).top,N,a8,G⟩
 have aN:=bF;obtain ⟨cS,cC,iB,gM⟩:=Xgt hD bF;refine Q7<|gK _ _<|Zs J fun _ eG=>?_;refine Ze (Vn X2 M)<|Zm rfl<|Zm rfl<|Zf (Vc (Xte _ d md a8 Ad cd (aI.bx G).top Bd dd (aU.bx G).top N p q hD.w (by omega)) Xf3) ?_;rintro _ w8 ⟨aQ,aR,rfl,g,L⟩;have g:=g.lower G.size;have M:=M.bw L;have E:=E.bw L;have G:=btr G L;refine Za rfl<|Zx eG fun a J _ eH=>?_;refine Ze (Vn X2 M)<|Zm rfl<|Zm rfl<|Zf (Vc (Xte _ d md a8 Ad cd (aI.bx G).top Bd dd (aU.bx G).top N q p hD.w (by omega)) Xf3) ?_;rintro _ w9 ⟨aS,aT,rfl,h,L⟩;have h:=h.lower G.size;have M:=M.bw L;have E:=E.bw L;have g:=g.bw L;have G:=btr G L;refine Za rfl<|Zx eH fun a J _ eI=>?_;refine Zm rfl<|Zf (Vc (Y4q _ aQ aR (othW d.ws p q) g.rd.top (by omega)) Xxc) ?_;rintro _ iW ⟨gN,gO,rfl,cD,L⟩;have cD:=cD.lower G.size;have M:=M.bw L;have E:=E.bw L;have g:=g.bw L;have h:=h.bw L;have G:=btr G L;refine Za rfl<|ZX eI fun a J _ eJ=>?_;refine Zs J fun _ eK=>?_;refine Zm rfl<|Ze (X09 rfl Xj)<|Zm rfl<|Zt eK fun a J=>?_;refine Q8<|X01 (σ:=Nat×(List Int)) (fun (s:Nat×(List Int)) (a:Act) (w:World)=>match s with|(k,m)=>∃ aA aD,Fr a 196 [(1,vi p),(2,vi q),(3,(pZ9 b4)),(6,(pZ9 b7)),(8,.slice aQ (othW d.ws p q).length aR),(9,.slice aS (othW d.ws q p).length aT),(10,.slice aA m.length aD),(75,.slice aS (othW d.ws q p).length aT),(76,vi ((othW d.ws q p).length:Int)),(77,vi (k:Int))]/\(k<=(othW d.ws q p).length)/\(m=((othW d.ws q p).take k).foldl putI (othW d.ws p q))/\Blk w b4 39 [vi d.n,.slice Ad md cd,.slice Bd d.ws.length dd,vi d.t,vi d.r]/\Blk w b7 39 [vi 0,.slice none 0 0,.slice none 0 0,vi 0,vi 0]/\Own w w0.heap.size 3 1 encI aA aD m/\Own w w0.heap.size 3 1 encI aQ aR (othW d.ws p q)/\Own w w0.heap.size 3 1 encI aS aT (othW d.ws q p)/\d.ws.length<=dd/\Below w0.heap.size w0 w) (fun (s:Nat×(List Int))=>match s with|(k,m)=>(othW d.ws q p).length-k) (0,(othW d.ws p q)) ?_ ?_
 ·exact ⟨gN,gO,J.sb,(Qf _),rfl,M,E,cD,g,h,N,G⟩
 rintro ⟨k,m⟩ a w11 ⟨aA,aD,J,hk,hm,M,E,C,g,h,N,G⟩;refine Zs J fun _ eL=>?_;refine Ze (X0n rfl rfl)<|ZX eL fun a J _ eM=>?_
 refine Xi J rfl (fun b2=>?_) (fun b2=>?_)
 ·have aO:=b2;have b2:=Q2 b2
  obtain ⟨iX,iC⟩:=X4 (l:=(othW d.ws q p)) (k:=k) (by omega)
  obtain ⟨u9,bY⟩:=X4 (l:=(othW d.ws q p)) (k:=k) (by have:=b2;omega)
  have bG:=X3t (f:=putI) (b:=(othW d.ws p q)) bY
  rw [<- hm] at bG
  refine Q7<|eM _ _<|Q5 fun _ eO=>?_;refine Q8<|Zs J fun _ eP=>?_;refine Zi (k:=k) (u:=u9) (enc:=encI) (l:=(othW d.ws q p)) tv0 rfl rfl Xj X0b Xd h.rd bY rfl ?_;intro iY dH;refine Ze (X0 rfl X9 dH)<|Za rfl<|Zt eP fun a J=>?_;refine Zr J<|Zm rfl<|Zm rfl<|Zf (Vc (Xw4 _ aA aD m C.rd.top u9 w0.heap.size C G.size (by have h9:=X90 ((othW d.ws q p).take k) (othW d.ws p q);rw [<- hm,Qn] at h9;omega)) Xdv) ?_;rintro _ iZ ⟨gQ,gR,rfl,eQ,L⟩;have M:=M.bw L;have E:=E.bw L;have g:=g.bw L;have h:=h.bw L;have G:=btr G L;refine Za rfl ?_;refine Zn fun a J=>?_;refine Xa<|eO _ _<|Zr J<|Ze (Xs rfl rfl (by omega) (by omega))<|Zm rfl ?_;refine Zn fun a J=>?_;refine Xc ?_;exact ⟨(k+1,(putI m u9)),⟨gQ,gR,J.sb,(by omega),(by rw [bG]),M,E,eQ,g,h,N,G⟩,(by first|omega|(dsimp only;omega))⟩
 have aO:=b2;have b2:=Q1 b2
 have bZ:m=(pvL d p q):=by rw [hm,Qi (by have:=b2;omega)];rfl
 have j0:m.length<=2*d.ns.length:=by rw [bZ];exact gG
 refine Q9<|Xk<|Xk<|X02 ?_;refine eJ _ _<|Q5 fun _ eR=>?_;refine Q5 fun _ eS=>?_;refine X0a (fun a w=>Fr a 196 [(1,vi p),(2,vi q),(3,(pZ9 b4)),(6,(pZ9 b7)),(8,.slice aQ (othW d.ws p q).length aR),(9,.slice aS (othW d.ws q p).length aT),(10,.slice aA m.length aD),(100,.bool (((!(hadD d p))||(!(hadD d q)))||(!(rdyD d m))))]/\Below w11.heap.size w11 w) ?_ ?_
 ·have a6:Below w11.heap.size w11 w11:=Below.refl _ _
  refine Zr J<|Ze (Vn X2 M)<|Zm rfl<|Zf (Vc (Xko _ d md a8 Ad cd (aI.bx G).top Bd dd (aU.bx G).top N p hD.w (by omega)) Xal) ?_;rintro _ w13 ⟨rfl,L⟩;have M:=M.bw L;have C:=C.bw L;have G:=btr G L;have a6:=btr a6 L;refine Ze (X0w rfl)<|Zm rfl ?_
  refine Zg 89 rfl (fun aM=>?_) (fun aM=>?_)
  ·(iterate 4 refine Zp (gP aM) ?_);refine Ze (X5 rfl aM rfl)<|Zm rfl<|Zp (gP rfl) ?_;(iterate 3 refine Zp (gP rfl) ?_);refine Ze (X5 rfl rfl rfl) ?_;refine Zn fun a J=>?_
   have aH:Below w11.heap.size w11 w13:=a6
   exact ⟨J.sub ⟨rfl,rfl,rfl,rfl,rfl,rfl,rfl,X1 rfl (by simp [aN,aO,aM]),trivial⟩,aH⟩
  refine Zv (gW aM) (Vn X2 M) ?_;refine Zv (gW aM) (X3 rfl) ?_;refine Zk (gW aM) (Vc (Xko _ d md a8 Ad cd (aI.bx G).top Bd dd (aU.bx G).top N q hD.w (by omega)) Xal) ?_;rintro _ w14 ⟨rfl,L⟩;have M:=M.bw L;have C:=C.bw L;have G:=btr G L;have a6:=btr a6 L;refine Zv (gW aM) (X0w rfl) ?_;refine Ze (Xb rfl aM rfl)<|Zm rfl ?_
  refine Zg 95 rfl (fun aP=>?_) (fun aP=>?_)
  ·(iterate 4 refine Zp (gP aP) ?_);refine Ze (X5 rfl aP rfl) ?_;refine Zn fun a J=>?_
   have aH:Below w11.heap.size w11 w14:=a6
   exact ⟨J.sub ⟨rfl,rfl,rfl,rfl,rfl,rfl,rfl,X1 rfl (by simp [aN,aO,aM,aP]),trivial⟩,aH⟩
  refine Zv (gW aP) (Vn X2 M) ?_;refine Zv (gW aP) (X3 rfl) ?_;refine Zk (gW aP) (Vc (Xsv _ d md a8 Ad cd (aI.bx G).top Bd dd (aU.bx G).top N aA aD m C.rd.top (by omega) (by omega) (by omega) C.cap) Xg6) ?_;rintro _ w15 ⟨rfl,L⟩;have G:=btr G L;have a6:=btr a6 L;refine Zv (gW aP) (X0w rfl) ?_;refine Ze (Xb rfl aP rfl) ?_;refine Zn fun a J=>?_
  have aH:Below w11.heap.size w11 w15:=a6
  exact ⟨J.sub ⟨rfl,rfl,rfl,rfl,rfl,rfl,rfl,X1 rfl (by simp [aN,aO,aM,aP]),trivial⟩,aH⟩
 rintro a j1 ⟨J,L⟩;have M:=M.bw L;have E:=E.bw L;have C:=C.bw L;have g:=g.bw L;have h:=h.bw L;have G:=btr G L;refine eS _ _ ?_
 refine Xi J rfl (fun bH=>?_) (fun bH=>?_)
 ·have b0:=bH
  have dG:pvC d p q=false:=Xlk (by rw [<- bZ];exact bH)
  refine Zs J fun _ eT=>?_;refine Ze (Vn X2 M)<|Zo (Vw [vi d.n,.slice Ad md cd,.slice Bd d.ws.length dd,vi d.t,vi d.r] Xh E) ?_;rintro _ j3 ⟨ho,hb⟩;have I:=E;have G:=Below.oy G ho bW;have E:=hb;refine Za rfl<|Zt eT fun a J=>?_;refine Q6<|X8<|X6 J (X1v J rfl (ResV.cellN (l:=[vi d.n,.slice Ad md cd,.slice Bd d.ws.length dd,vi d.t,vi d.r]) rfl X2 (E.at 0) rfl) rfl) ?_
  rw [dG,Q3 Bool.false_ne_true]
  exact ⟨Ad,cd,Bd,dd,rfl,(aI.bx G).top,(aU.bx G).top,N,a8,G⟩
 have b0:=bH
 have eU:pvC d p q=true:=Xgn gM (by rw [<- bZ];exact bH)
 refine Q7<|eR _ _<|Q5 fun _ eV=>?_;refine X04 none (fun _=>false) mixed ?_;intro j4 L;have M:=M.bw L;have E:=E.bw L;have C:=C.bw L;have g:=g.bw L;have h:=h.bw L;have G:=btr G L;refine Yb J<|Yo 0 rfl (fun _=>Vd rfl Xf 1)<|Ye 1 rfl (X0 rfl Xz (M.at 1))<|Yo 2 rfl (fun _=>X3 rfl)<|Yj (k:=p.toNat) (u:=(d.ns.getD p.toNat nZ)) (enc:=encNd) (l:=d.ns) 3 rfl tv0 rfl a8 rfl Xm X06 Xv (aI.bx G) (Xg cS.2) (by omega) ?_;intro j5 dI;refine Yo 4 rfl (fun _=>X2j rfl X07)<|Ye 5 rfl (X0 rfl X9 (dI.drop 1))<|Yo 6 rfl (fun _=>Vd rfl Xf 1)<|Ye 7 rfl (X0 rfl Xz (M.at 1))<|Yo 8 rfl (fun _=>X3 rfl)<|Yj (k:=q.toNat) (u:=(d.ns.getD q.toNat nZ)) (enc:=encNd) (l:=d.ns) 9 rfl tv0 rfl a8 rfl Xm X06 Xv (aI.bx G) (Xg cC.2) (by omega) ?_;intro j6 dJ;refine Yo 10 rfl (fun _=>X2j rfl X07)<|Ye 11 rfl (X0 rfl X9 (dJ.drop 1))<|Yo 12 rfl (fun _=>X0u rfl)<|Yo 13 rfl (fun _=>X0u rfl) ?_;refine Yd fun a J=>?_;refine eV _ _<|Zs J fun _ eX=>?_;refine Ze (Vn X2 M)<|Zf (Vc (Xaj _ d md a8 Ad cd (aI.bx G).top Bd dd (aU.bx G).top N ⟨by omega,by omega⟩) X5y) ?_;rintro _ j7 ⟨cT,cU,gS,gT,rfl,aJ,bX,L⟩;have aJ:=aJ.lower G.size;have bX:=bX.lower G.size;have M:=M.bw L;have E:=E.bw L;have C:=C.bw L;have g:=g.bw L;have h:=h.bw L;have G:=btr G L;refine Zm rfl<|Zf (Vc (Xac _ d d.ns.length rfl cT cU _ aJ G.size gS gT bX.rd.top bX.cap p cS (by omega)) X5l) ?_;rintro _ j8 ⟨gU,gX,rfl,aG,eY,eZ,f0,hg⟩;have H:=aJ;have M:=M.appT H hg rfl;have E:=E.appT H hg rfl
 have C:=C.appT H hg rfl;have g:=g.appT H hg rfl;have h:=h.appT H hg rfl;have G:=Below.app G H hg (Qb _) G.size
 clear H hg;clear aJ;have aJ:=aG;clear aG;refine Zm rfl<|Zf (Vc (Xac _ ({ d with ns:=dpN d.ns p,ws:=dpW d.ws p } : Dg) d.ns.length f0 cT cU _ aJ G.size gU gX eY.top eZ q ⟨cC.1,by rw [X1j];exact cC.2⟩ (by dsimp only;omega)) X5l) ?_;rintro _ j9 ⟨f3,f5,rfl,aG,bJ,f7,iD,hg⟩;have H:=aJ;have M:=M.appT H hg rfl;have E:=E.appT H hg rfl;have C:=C.appT H hg rfl;have g:=g.appT H hg rfl;have h:=h.appT H hg rfl;have G:=Below.app G H hg (Qb _) G.size
 clear H hg;clear aJ;have aJ:=aG;clear aG;refine Zf (Xq (zs:=[vi 0,.slice none 0 0,.slice none 0 0,vi 0,vi 0]) X0h rfl) ?_;rintro _ jA ⟨b57,rfl,f8,L,D⟩
 have f9:b4≠b57:=by have:=M.lt;omega
 have fA:b7≠b57:=by have:=E.lt;omega
 have aV:=Q0 G.size f8;have E:=E.bw L;have C:=C.bw L;have g:=g.bw L;have h:=h.bw L;have aJ:=aJ.bw L;have bJ:=bJ.bw L;have G:=btr G L;refine Zo (Vw [vi (({ ({ d with ns:=dpN d.ns p,ws:=dpW d.ws p } : Dg) with ns:=dpN ({ d with ns:=dpN d.ns p,ws:=dpW d.ws p } : Dg).ns q,ws:=dpW ({ d with ns:=dpN d.ns p,ws:=dpW d.ws p } : Dg).ws q } : Dg).n),.slice cT d.ns.length cU,.slice f3 (({ ({ d with ns:=dpN d.ns p,ws:=dpW d.ws p } : Dg) with ns:=dpN ({ d with ns:=dpN d.ns p,ws:=dpW d.ws p } : Dg).ns q,ws:=dpW ({ d with ns:=dpN d.ns p,ws:=dpW d.ws p } : Dg).ws q } : Dg).ws).length f5,vi (({ ({ d with ns:=dpN d.ns p,ws:=dpW d.ws p } : Dg) with ns:=dpN ({ d with ns:=dpN d.ns p,ws:=dpW d.ws p } : Dg).ns q,ws:=dpW ({ d with ns:=dpN d.ns p,ws:=dpW d.ws p } : Dg).ws q } : Dg).t),vi (({ ({ d with ns:=dpN d.ns p,ws:=dpW d.ws p } : Dg) with ns:=dpN ({ d with ns:=dpN d.ns p,ws:=dpW d.ws p } : Dg).ns q,ws:=dpW ({ d with ns:=dpN d.ns p,ws:=dpW d.ws p } : Dg).ws q } : Dg).r)] Xh D) ?_;rintro _ jB ⟨ho,hb⟩;have I:=D;have E:=E.oy ho (by omega);have C:=C.oT ho I rfl;have g:=g.oT ho I rfl;have h:=h.oT ho I rfl;have aJ:=aJ.oT ho I rfl;have bJ:=bJ.oT ho I rfl;have G:=Below.oy G ho aV;have D:=hb;refine ZX eX fun a J _ fB=>?_;refine Zs J fun _ fC=>?_;refine Zm rfl<|Ze (X09 rfl Xj)<|Zm rfl<|Zt fC fun a J=>?_;refine Q8<|X01 (σ:=Nat×Dg) (fun (s:Nat×Dg) (a:Act) (w:World)=>match s with|(i,o)=>∃ aY aZ b3 b5,Fr a 196 [(6,(pZ9 b7)),(8,.slice aQ (othW d.ws p q).length aR),(9,.slice aS (othW d.ws q p).length aT),(10,.slice aA m.length aD),(13,vi ((d.ns.getD p.toNat nZ).p)),(14,vi ((d.ns.getD q.toNat nZ).p)),(15,(pZ9 b57)),(120,.slice aA m.length aD),(121,vi (m.length:Int)),(122,vi (i:Int))]/\(i<=m.length)/\(o=pvM (d.ns.getD p.toNat nZ).p (d.ns.getD q.toNat nZ).p (othW d.ws p q) (othW d.ws q p) m (id0 (id0 d p) q) i)/\(d.ns.length=o.ns.length)/\(o.ws.length<=d.ws.length+i*2000)/\(PhN o.ns)/\Blk w b7 39 [vi 0,.slice none 0 0,.slice none 0 0,vi 0,vi 0]/\Blk w b57 39 [vi o.n,.slice aY d.ns.length aZ,.slice b3 o.ws.length b5,vi o.t,vi o.r]/\Own w w0.heap.size 3 1 encI aA aD m/\Own w w0.heap.size 3 1 encI aQ aR (othW d.ws p q)/\Own w w0.heap.size 3 1 encI aS aT (othW d.ws q p)/\Own w w0.heap.size 81 2 encNd aY aZ o.ns/\Rd w w.heap.size 83 encWr b3 o.ws/\d.ws.length<=dd/\o.ws.length<=b5/\Below w0.heap.size w0 w) (fun (s:Nat×Dg)=>match s with|(i,o)=>m.length-i) (0,(id0 (id0 d p) q)) ?_ ?_
 ·exact ⟨cT,cU,f3,f5,J.sb,(Qf _),rfl,((X1j _ _).trans (X1j _ _)).symm,(Q0 (X2b _ _) (Q0 (X2b d.ws p) (Nat.le_add_right _ _))),(X55 (X55 hD.p p) q),E,D,C,g,h,aJ,bJ.top,N,f7,G⟩
 rintro ⟨i,o⟩ a jC ⟨aY,aZ,b3,b5,J,hi,fE,cE,gY,dK,E,D,C,g,h,W,aC,N,cV,G⟩;refine Zs J fun _ fF=>?_;refine Ze (X0n rfl rfl)<|ZX fF fun a J _ fG=>?_
 refine Xi J rfl (fun b6=>?_) (fun b6=>?_)
 ·have b1:=b6;have b6:=Q2 b6
  obtain ⟨jD,iE⟩:=X4 (l:=m) (k:=i) (by omega)
  obtain ⟨u9,bY⟩:=X4 (l:=m) (k:=i) (by have:=b6;omega)
  have dL:0<=u9/\u9.toNat<d.ns.length:=Xbp hD (by rw [<- bZ];exact bY)
  have jE:=X1l dK u9.toNat;refine Q7<|fG _ _<|Q5 fun _ fH=>?_;refine Q8<|Zs J fun _ fI=>?_;refine Zm rfl<|Zi (k:=i) (u:=u9) (enc:=encI) (l:=m) tv0 rfl rfl Xj X0b Xd C.rd bY rfl ?_;intro jF dM;refine Ze (X0 rfl X9 dM)<|Za rfl<|Za rfl<|Zx fI fun a J _ fJ=>?_;refine Zm rfl<|Zm rfl<|Zf (Vc (Xho _ aQ aR (othW d.ws p q) g.rd.top u9 (by omega)) X7n) ?_;rintro _ jG ⟨rfl,L⟩;have E:=E.bw L;have D:=D.bw L;have C:=C.bw L;have g:=g.bw L;have h:=h.bw L;have W:=W.bw L;have aC:=aC.bw L;have G:=btr G L;refine Zm rfl<|Zm rfl<|Zf (Vc (Xho _ aS aT (othW d.ws q p) h.rd.top u9 (by omega)) X7n) ?_;rintro _ jH ⟨rfl,L⟩;have E:=E.bw L;have D:=D.bw L;have C:=C.bw L;have g:=g.bw L;have h:=h.bw L;have W:=W.bw L;have aC:=aC.bw L;have G:=btr G L;refine Za rfl<|Za rfl<|ZX fJ fun a J _ fK=>?_;refine Zs J fun _ fL=>?_;refine Zm rfl<|Zt fL fun a J=>?_;refine X0a (fun a w=>∃ (x1:Dg),∃ bQ bR cF cG,Fr a 196 [(6,(pZ9 b7)),(8,.slice aQ (othW d.ws p q).length aR),(9,.slice aS (othW d.ws q p).length aT),(10,.slice aA m.length aD),(13,vi ((d.ns.getD p.toNat nZ).p)),(14,vi ((d.ns.getD q.toNat nZ).p)),(15,(pZ9 b57)),(16,vi (i:Int)),(17,vi u9),(18,.bool ((othW d.ws p q).any fun y=>y==u9)),(19,.bool ((othW d.ws q p).any fun y=>y==u9)),(120,.slice aA m.length aD),(121,vi (m.length:Int)),(122,vi (i:Int))]/\(x1=stN ((othW d.ws p q).any fun v=>v==u9) o u9 (d.ns.getD q.toNat nZ).p)/\(d.ns.length=x1.ns.length)/\(x1.ws.length<=o.ws.length)/\(PhN x1.ns)/\Blk w b7 39 [vi 0,.slice none 0 0,.slice none 0 0,vi 0,vi 0]/\Blk w b57 39 [vi x1.n,.slice bQ d.ns.length bR,.slice cF x1.ws.length cG,vi x1.t,vi x1.r]/\Own w w0.heap.size 3 1 encI aA aD m/\Own w w0.heap.size 3 1 encI aQ aR (othW d.ws p q)/\Own w w0.heap.size 3 1 encI aS aT (othW d.ws q p)/\Own w w0.heap.size 81 2 encNd bQ bR x1.ns/\Rd w w.heap.size 83 encWr cF x1.ws/\d.ws.length<=dd/\x1.ws.length<=cG/\Below w0.heap.size w0 w) ?_ ?_
  ·refine Xi J rfl (fun bK=>?_) (fun bK=>?_)
   ·have dN:=bK;have cH:=bK;refine Zr J<|Ze (Vn X2 D)<|Zm rfl<|Zm rfl<|Zf (Vc (X9s _ o d.ns.length cE aY aZ _ W G.size b3 b5 aC.top cV u9 ((d.ns.getD q.toNat nZ).p) ⟨dL.1,by omega⟩ ⟨by omega,by omega⟩) X5o) ?_;rintro _ jI ⟨fM,fN,rfl,aG,cI,fO,iF,hg⟩;have H:=W;have E:=E.appT H hg rfl;have D:=D.appT H hg rfl;have C:=C.appT H hg rfl;have g:=g.appT H hg rfl;have h:=h.appT H hg rfl;have G:=Below.app G H hg (Qb _) G.size
    clear H hg;clear W;have W:=aG;clear aG;refine Zo (Vw [vi (({ o with ns:=adN o.ns u9 ((d.ns.getD q.toNat nZ).p) } : Dg).n),.slice aY d.ns.length aZ,.slice fM (({ o with ns:=adN o.ns u9 ((d.ns.getD q.toNat nZ).p) } : Dg).ws).length fN,vi (({ o with ns:=adN o.ns u9 ((d.ns.getD q.toNat nZ).p) } : Dg).t),vi (({ o with ns:=adN o.ns u9 ((d.ns.getD q.toNat nZ).p) } : Dg).r)] Xh D) ?_;rintro _ jJ ⟨ho,hb⟩;have I:=D;have E:=E.oy ho (by omega);have C:=C.oT ho I rfl;have g:=g.oT ho I rfl;have h:=h.oT ho I rfl;have W:=W.oT ho I rfl;have cI:=cI.oT ho I rfl;have G:=Below.oy G ho aV;have D:=hb;refine Zn fun a J=>?_;refine Xc ?_;exact ⟨({ o with ns:=adN o.ns u9 ((d.ns.getD q.toNat nZ).p) } : Dg),aY,aZ,fM,fN,J.sb,((Xj3 cH).symm),(cE.trans (X1r _ _ _).symm),(Qb _),(X61 dK _ _),E,D,C,g,h,W,cI.top,N,fO,G⟩
   have dN:=bK;have cH:=bK;refine Q7<|Xc ?_;exact ⟨o,aY,aZ,b3,b5,J.sb,((Xlj cH).symm),cE,(Qb _),dK,E,D,C,g,h,W,aC.top,N,cV,G⟩
  rintro a jK ⟨x1,bQ,bR,cF,cG,J,gZ,dO,fP,dP,E,D,C,g,h,b9,d8,N,fQ,G⟩;refine fK _ _<|Q5 fun _ fR=>?_;refine Zs J fun _ fS=>?_;refine Zm rfl<|Zt fS fun a J=>?_;refine X0a (fun a w=>∃ (x2:Dg),∃ bS bT cJ cK,Fr a 196 [(6,(pZ9 b7)),(8,.slice aQ (othW d.ws p q).length aR),(9,.slice aS (othW d.ws q p).length aT),(10,.slice aA m.length aD),(13,vi ((d.ns.getD p.toNat nZ).p)),(14,vi ((d.ns.getD q.toNat nZ).p)),(15,(pZ9 b57)),(16,vi (i:Int)),(17,vi u9),(18,.bool ((othW d.ws p q).any fun y=>y==u9)),(19,.bool ((othW d.ws q p).any fun y=>y==u9)),(120,.slice aA m.length aD),(121,vi (m.length:Int)),(122,vi (i:Int))]/\(x2=stN ((othW d.ws q p).any fun v=>v==u9) x1 u9 (d.ns.getD p.toNat nZ).p)/\(d.ns.length=x2.ns.length)/\(x2.ws.length<=o.ws.length)/\(PhN x2.ns)/\Blk w b7 39 [vi 0,.slice none 0 0,.slice none 0 0,vi 0,vi 0]/\Blk w b57 39 [vi x2.n,.slice bS d.ns.length bT,.slice cJ x2.ws.length cK,vi x2.t,vi x2.r]/\Own w w0.heap.size 3 1 encI aA aD m/\Own w w0.heap.size 3 1 encI aQ aR (othW d.ws p q)/\Own w w0.heap.size 3 1 encI aS aT (othW d.ws q p)/\Own w w0.heap.size 81 2 encNd bS bT x2.ns/\Rd w w.heap.size 83 encWr cJ x2.ws/\d.ws.length<=dd/\x2.ws.length<=cK/\Below w0.heap.size w0 w) ?_ ?_
  ·refine Xi J rfl (fun bL=>?_) (fun bL=>?_)
   ·have dQ:=bL;have cL:=bL;refine Zr J<|Ze (Vn X2 D)<|Zm rfl<|Zm rfl<|Zf (Vc (X9s _ x1 d.ns.length dO bQ bR _ b9 G.size cF cG d8.top fQ u9 ((d.ns.getD p.toNat nZ).p) ⟨dL.1,by omega⟩ (by have:=X1l dP u9.toNat;omega)) X5o) ?_;rintro _ jL ⟨fT,fU,rfl,aG,cM,fV,iG,hg⟩;have H:=b9;have E:=E.appT H hg rfl;have D:=D.appT H hg rfl;have C:=C.appT H hg rfl;have g:=g.appT H hg rfl;have h:=h.appT H hg rfl;have G:=Below.app G H hg (Qb _) G.size
    clear H hg;clear b9;have b9:=aG;clear aG;refine Zo (Vw [vi (({ x1 with ns:=adN x1.ns u9 ((d.ns.getD p.toNat nZ).p) } : Dg).n),.slice bQ d.ns.length bR,.slice fT (({ x1 with ns:=adN x1.ns u9 ((d.ns.getD p.toNat nZ).p) } : Dg).ws).length fU,vi (({ x1 with ns:=adN x1.ns u9 ((d.ns.getD p.toNat nZ).p) } : Dg).t),vi (({ x1 with ns:=adN x1.ns u9 ((d.ns.getD p.toNat nZ).p) } : Dg).r)] Xh D) ?_;rintro _ jM ⟨ho,hb⟩;have I:=D;have E:=E.oy ho (by omega);have C:=C.oT ho I rfl;have g:=g.oT ho I rfl;have h:=h.oT ho I rfl;have b9:=b9.oT ho I rfl;have cM:=cM.oT ho I rfl;have G:=Below.oy G ho aV;have D:=hb;refine Zn fun a J=>?_;refine Xc ?_;exact ⟨({ x1 with ns:=adN x1.ns u9 ((d.ns.getD p.toNat nZ).p) } : Dg),bQ,bR,fT,fU,J.sb,((Xj3 cL).symm),(dO.trans (X1r _ _ _).symm),fP,(X61 dP _ _),E,D,C,g,h,b9,cM.top,N,fV,G⟩
   have dQ:=bL;have cL:=bL;refine Q7<|Xc ?_;exact ⟨x1,bQ,bR,cF,cG,J.sb,((Xlj cL).symm),dO,fP,dP,E,D,C,g,h,b9,d8.top,N,fQ,G⟩
  rintro a hJ ⟨x2,bS,bT,cJ,cK,J,hY,dR,fW,dS,E,D,C,g,h,bA,d9,N,fX,G⟩;refine fR _ _<|Q5 fun _ fY=>?_;refine Q5 fun _ fZ=>?_;refine X0a (fun a w=>Fr a 196 [(6,(pZ9 b7)),(8,.slice aQ (othW d.ws p q).length aR),(9,.slice aS (othW d.ws q p).length aT),(10,.slice aA m.length aD),(13,vi ((d.ns.getD p.toNat nZ).p)),(14,vi ((d.ns.getD q.toNat nZ).p)),(15,(pZ9 b57)),(16,vi (i:Int)),(17,vi u9),(18,.bool ((othW d.ws p q).any fun y=>y==u9)),(19,.bool ((othW d.ws q p).any fun y=>y==u9)),(120,.slice aA m.length aD),(121,vi (m.length:Int)),(122,vi (i:Int)),(146,.bool (((othW d.ws p q).any fun v=>v==u9)&&((othW d.ws q p).any fun v=>v==u9)))]/\hJ=w) ?_ ?_
  ·refine Zr J<|Zm rfl<|Zm rfl ?_
   refine Zg 144 rfl (fun bB=>?_) (fun bB=>?_)
   ·refine Zv (gW bB) (X3 rfl) ?_;refine Ze (X5 rfl bB rfl) ?_;refine Zn fun a J=>?_;exact ⟨J.sub ⟨rfl,rfl,rfl,rfl,rfl,rfl,rfl,rfl,rfl,rfl,rfl,rfl,rfl,rfl,X1 rfl (by simp [aN,aO,b0,b1,bB]),trivial⟩,rfl⟩
   refine Zp (gP bB) ?_;refine Ze (Xb rfl bB rfl) ?_;refine Zn fun a J=>?_;exact ⟨J.sub ⟨rfl,rfl,rfl,rfl,rfl,rfl,rfl,rfl,rfl,rfl,rfl,rfl,rfl,rfl,X1 rfl (by simp [aN,aO,b0,b1,bB]),trivial⟩,rfl⟩
  rintro a _ ⟨J,rfl⟩;refine fZ _ _<|X0a (fun a w=>∃ (x3:Dg),∃ cW cX cY cZ,Fr a 196 [(6,(pZ9 b7)),(8,.slice aQ (othW d.ws p q).length aR),(9,.slice aS (othW d.ws q p).length aT),(10,.slice aA m.length aD),(13,vi ((d.ns.getD p.toNat nZ).p)),(14,vi ((d.ns.getD q.toNat nZ).p)),(15,(pZ9 b57)),(16,vi (i:Int)),(17,vi u9),(18,.bool ((othW d.ws p q).any fun y=>y==u9)),(19,.bool ((othW d.ws q p).any fun y=>y==u9)),(120,.slice aA m.length aD),(121,vi (m.length:Int)),(122,vi (i:Int))]/\(x3=stN (((othW d.ws p q).any fun v=>v==u9)&&((othW d.ws q p).any fun v=>v==u9)) x2 u9 4)/\(d.ns.length=x3.ns.length)/\(x3.ws.length<=o.ws.length)/\(PhN x3.ns)/\Blk w b7 39 [vi 0,.slice none 0 0,.slice none 0 0,vi 0,vi 0]/\Blk w b57 39 [vi x3.n,.slice cW d.ns.length cX,.slice cY x3.ws.length cZ,vi x3.t,vi x3.r]/\Own w w0.heap.size 3 1 encI aA aD m/\Own w w0.heap.size 3 1 encI aQ aR (othW d.ws p q)/\Own w w0.heap.size 3 1 encI aS aT (othW d.ws q p)/\Own w w0.heap.size 81 2 encNd cW cX x3.ns/\Rd w w.heap.size 83 encWr cY x3.ws/\d.ws.length<=dd/\x3.ws.length<=cZ/\Below w0.heap.size w0 w) ?_ ?_
  ·refine Xi J rfl (fun bM=>?_) (fun bM=>?_)
   ·have dT:=bM;have cN:=bM;refine Zr J<|Ze (Vn X2 D)<|Zm rfl<|Zf (Vc (X9s _ x2 d.ns.length dR bS bT _ bA G.size cJ cK d9.top fX u9 4 ⟨dL.1,by omega⟩ (by have:=X1l dS u9.toNat;omega)) X5o) ?_;rintro _ jN ⟨g5,g6,rfl,aG,cO,g7,iH,hg⟩;have H:=bA;have E:=E.appT H hg rfl;have D:=D.appT H hg rfl;have C:=C.appT H hg rfl;have g:=g.appT H hg rfl;have h:=h.appT H hg rfl;have G:=Below.app G H hg (Qb _) G.size
    clear H hg;clear bA;have bA:=aG;clear aG;refine Zo (Vw [vi (({ x2 with ns:=adN x2.ns u9 4 } : Dg).n),.slice bS d.ns.length bT,.slice g5 (({ x2 with ns:=adN x2.ns u9 4 } : Dg).ws).length g6,vi (({ x2 with ns:=adN x2.ns u9 4 } : Dg).t),vi (({ x2 with ns:=adN x2.ns u9 4 } : Dg).r)] Xh D) ?_;rintro _ jO ⟨ho,hb⟩;have I:=D;have E:=E.oy ho (by omega);have C:=C.oT ho I rfl;have g:=g.oT ho I rfl;have h:=h.oT ho I rfl;have bA:=bA.oT ho I rfl;have cO:=cO.oT ho I rfl;have G:=Below.oy G ho aV;have D:=hb;refine Zn fun a J=>?_;refine Xc ?_;exact ⟨({ x2 with ns:=adN x2.ns u9 4 } : Dg),bS,bT,g5,g6,J.sb,((Xj3 cN).symm),(dR.trans (X1r _ _ _).symm),fW,(X61 dS _ _),E,D,C,g,h,bA,cO.top,N,g7,G⟩
   have dT:=bM;have cN:=bM;refine Q7<|Xc ?_;exact ⟨x2,bS,bT,cJ,cK,J.sb,((Xlj cN).symm),dR,fW,dS,E,D,C,g,h,bA,d9.top,N,fX,G⟩
  rintro a i0 ⟨x3,cW,cX,cY,cZ,J,i1,i2,i4,i5,E,D,C,g,h,g8,gA,N,i6,G⟩;refine fY _ _<|Zs J fun _ gB=>?_;refine Zm rfl<|Zm rfl ?_;have aW:=(C.rd.top).takeK Xd i;refine Ze (X2r (l:=m) (k:=i) rfl rfl Xj X0b rfl hi C.cap)<|Ze (X09 rfl Xj)<|Zm rfl<|Zt gB fun a J=>?_;refine Q8<|X01 (σ:=Nat×Dg) (fun (s:Nat×Dg) (a:Act) (w:World)=>match s with|(j,z)=>∃ bN bO c5 cA,Fr a 196 [(6,(pZ9 b7)),(8,.slice aQ (othW d.ws p q).length aR),(9,.slice aS (othW d.ws q p).length aT),(10,.slice aA m.length aD),(13,vi ((d.ns.getD p.toNat nZ).p)),(14,vi ((d.ns.getD q.toNat nZ).p)),(15,(pZ9 b57)),(17,vi u9),(18,.bool ((othW d.ws p q).any fun y=>y==u9)),(19,.bool ((othW d.ws q p).any fun y=>y==u9)),(120,.slice aA m.length aD),(121,vi (m.length:Int)),(122,vi (i:Int)),(152,.slice aA (m.take i).length aD),(153,vi ((m.take i).length:Int)),(154,vi (j:Int))]/\(j<=(m.take i).length)/\(z=pvF (othW d.ws p q) (othW d.ws q p) u9 ((m.take i).take j) x3)/\(d.ns.length=z.ns.length)/\(z.ws.length<=o.ws.length+j)/\(PhN z.ns)/\Blk w b7 39 [vi 0,.slice none 0 0,.slice none 0 0,vi 0,vi 0]/\Blk w b57 39 [vi z.n,.slice bN d.ns.length bO,.slice c5 z.ws.length cA,vi z.t,vi z.r]/\Own w w0.heap.size 3 1 encI aA aD m/\Own w w0.heap.size 3 1 encI aQ aR (othW d.ws p q)/\Own w w0.heap.size 3 1 encI aS aT (othW d.ws q p)/\Rd w i0.heap.size 3 encI aA (m.take i)/\Own w w0.heap.size 81 2 encNd bN bO z.ns/\Rd w w.heap.size 83 encWr c5 z.ws/\d.ws.length<=dd/\z.ws.length<=cA/\Below w0.heap.size w0 w) (fun (s:Nat×Dg)=>match s with|(j,z)=>(m.take i).length-j) (0,x3) ?_ ?_
  ·exact ⟨cW,cX,cY,cZ,J.sb,(Qf _),rfl,i2,i4,i5,E,D,C,g,h,aW,g8,gA.top,N,i6,G⟩
  rintro ⟨j,z⟩ a w36 ⟨bN,bO,c5,cA,J,hj,hz,cB,i7,cP,E,D,C,g,h,aW,aX,bP,N,dU,G⟩;refine Zs J fun _ gC=>?_;refine Ze (X0n rfl rfl)<|ZX gC fun a J _ gD=>?_
  refine Xi J rfl (fun b8=>?_) (fun b8=>?_)
  ·have bC:=b8;have b8:=Q2 b8
   obtain ⟨jP,iI⟩:=X4 (l:=(m.take i)) (k:=j) (by omega)
   obtain ⟨v9,dW⟩:=X4 (l:=m.take i) (k:=j) (by have:=b8;omega)
   have jQ:j<i:=by have:=(Qg.1 dW).1;rw [Qn] at this;omega
   have bG:=Xl8 (l:=(othW d.ws p q)) (m:=(othW d.ws q p)) (x:=u9) (o:=x3) dW
   rw [<- hz] at bG
   refine Q7<|gD _ _<|Q5 fun _ dA=>?_;refine Q8<|Zs J fun _ gE=>?_;refine Zi (k:=j) (u:=v9) (enc:=encI) (l:=(m.take i)) tv0 rfl rfl Xj X0b Xd aW dW rfl ?_;intro iJ d5;refine Ze (X0 rfl X9 d5)<|Za rfl<|ZX gE fun a J _ dX=>?_;refine X0a (fun a w=>Fr a 196 [(6,(pZ9 b7)),(8,.slice aQ (othW d.ws p q).length aR),(9,.slice aS (othW d.ws q p).length aT),(10,.slice aA m.length aD),(13,vi ((d.ns.getD p.toNat nZ).p)),(14,vi ((d.ns.getD q.toNat nZ).p)),(15,(pZ9 b57)),(17,vi u9),(18,.bool ((othW d.ws p q).any fun y=>y==u9)),(19,.bool ((othW d.ws q p).any fun y=>y==u9)),(21,vi v9),(120,.slice aA m.length aD),(121,vi (m.length:Int)),(122,vi (i:Int)),(152,.slice aA (m.take i).length aD),(153,vi ((m.take i).length:Int)),(154,vi (j:Int)),(170,.bool ((((othW d.ws p q).any fun y=>y==u9)&&((othW d.ws q p).any fun y=>y==v9)) != (((othW d.ws q p).any fun y=>y==u9)&&((othW d.ws p q).any fun y=>y==v9))))]/\Below w36.heap.size w36 w) ?_ ?_
   ·have a6:Below w36.heap.size w36 w36:=Below.refl _ _
    refine Zr J<|Zm rfl<|Zm rfl ?_
    refine Zg 159 rfl (fun aE=>?_) (fun aE=>?_)
    ·refine Zv (gW aE) (X3 rfl) ?_;refine Zv (gW aE) (X3 rfl) ?_;refine Zk (gW aE) (Vc (Xho _ aS aT (othW d.ws q p) h.rd.top v9 (by omega)) X7n) ?_;rintro _ w37 ⟨rfl,L⟩;have g:=g.bw L;have G:=btr G L;have a6:=btr a6 L;refine Ze (X5 rfl aE rfl)<|Zm rfl<|Zm rfl ?_
     refine Zg 165 rfl (fun aK=>?_) (fun aK=>?_)
     ·refine Zv (gW aK) (X3 rfl) ?_;refine Zv (gW aK) (X3 rfl) ?_;refine Zk (gW aK) (Vc (Xho _ aQ aR (othW d.ws p q) g.rd.top v9 (by omega)) X7n) ?_;rintro _ w38 ⟨rfl,L⟩;have G:=btr G L;have a6:=btr a6 L;refine Ze (X5 rfl aK rfl)<|Ze (X93 Tryz.underlying4 rfl rfl) ?_;refine Zn fun a J=>?_
      have aH:Below w36.heap.size w36 w38:=a6
      exact ⟨J.sub ⟨rfl,rfl,rfl,rfl,rfl,rfl,rfl,rfl,rfl,rfl,rfl,rfl,rfl,rfl,rfl,rfl,rfl,X1 rfl (by simp [aN,aO,b0,b1,bC,aE,aK]),trivial⟩,aH⟩
     (iterate 3 refine Zp (gP aK) ?_);refine Ze (Xb rfl aK rfl)<|Ze (X93 Tryz.underlying4 rfl rfl) ?_;refine Zn fun a J=>?_
     have aH:Below w36.heap.size w36 w37:=a6
     exact ⟨J.sub ⟨rfl,rfl,rfl,rfl,rfl,rfl,rfl,rfl,rfl,rfl,rfl,rfl,rfl,rfl,rfl,rfl,rfl,X1 rfl (by simp [aN,aO,b0,b1,bC,aE,aK]),trivial⟩,aH⟩
    (iterate 3 refine Zp (gP aE) ?_);refine Ze (Xb rfl aE rfl)<|Zm rfl<|Zm rfl ?_
    refine Zg 165 rfl (fun aL=>?_) (fun aL=>?_)
    ·refine Zv (gW aL) (X3 rfl) ?_;refine Zv (gW aL) (X3 rfl) ?_;refine Zk (gW aL) (Vc (Xho _ aQ aR (othW d.ws p q) g.rd.top v9 (by omega)) X7n) ?_;rintro _ w39 ⟨rfl,L⟩;have G:=btr G L;have a6:=btr a6 L;refine Ze (X5 rfl aL rfl)<|Ze (X93 Tryz.underlying4 rfl rfl) ?_;refine Zn fun a J=>?_
     have aH:Below w36.heap.size w36 w39:=a6
     exact ⟨J.sub ⟨rfl,rfl,rfl,rfl,rfl,rfl,rfl,rfl,rfl,rfl,rfl,rfl,rfl,rfl,rfl,rfl,rfl,X1 rfl (by simp [aN,aO,b0,b1,bC,aE,aL]),trivial⟩,aH⟩
    (iterate 3 refine Zp (gP aL) ?_);refine Ze (Xb rfl aL rfl)<|Ze (X93 Tryz.underlying4 rfl rfl) ?_;refine Zn fun a J=>?_
    have aH:Below w36.heap.size w36 w36:=a6
    exact ⟨J.sub ⟨rfl,rfl,rfl,rfl,rfl,rfl,rfl,rfl,rfl,rfl,rfl,rfl,rfl,rfl,rfl,rfl,rfl,X1 rfl (by simp [aN,aO,b0,b1,bC,aE,aL]),trivial⟩,aH⟩
   rintro a jR ⟨J,L⟩;have E:=E.bw L;have D:=D.bw L;have C:=C.bw L;have g:=g.bw L;have h:=h.bw L;have aW:=aW.bw L;have aX:=aX.bw L;have bP:=bP.bw L;have G:=btr G L;refine dX _ _ ?_
   refine Xi J rfl (fun bD=>?_) (fun bD=>?_)
   ·have d6:=bD
    rw [Y0t bD] at bG
    refine Zr J<|Ze (Vn X2 D)<|Zm rfl<|Zm rfl<|Zf (Vc (Xs1 _ z d.ns.length cB bN bO _ aX G.size c5 cA bP.top dU u9 v9 (by have:=i7;have:=gY;omega)) Xh9) ?_;rintro _ jS ⟨dB,dC,rfl,aG,bU,dY,i8,hg⟩;have H:=aX;have E:=E.appT H hg rfl;have D:=D.appT H hg rfl;have C:=C.appT H hg rfl;have g:=g.appT H hg rfl;have h:=h.appT H hg rfl;have aW:=aW.appT H hg rfl;have G:=Below.app G H hg (Qb _) G.size
    clear H hg;clear aX;have aX:=aG;clear aG;refine Zo (Vw [vi ((tgD z u9 v9).n),.slice bN d.ns.length bO,.slice dB ((tgD z u9 v9).ws).length dC,vi ((tgD z u9 v9).t),vi ((tgD z u9 v9).r)] Xh D) ?_;rintro _ jT ⟨ho,hb⟩;have I:=D;have E:=E.oy ho (by omega);have C:=C.oT ho I rfl;have g:=g.oT ho I rfl;have h:=h.oT ho I rfl;have aW:=aW.oT ho I rfl;have aX:=aX.oT ho I rfl;have bU:=bU.oT ho I rfl;have G:=Below.oy G ho aV;have D:=hb;refine Zn fun a J=>?_;refine Xa<|dA _ _<|Zr J<|Ze (Xs rfl rfl (by omega) (by omega))<|Zm rfl ?_;refine Zn fun a J=>?_;refine Xc ?_;exact ⟨(j+1,(tgD z u9 v9)),⟨bN,bO,dB,dC,J.sb,(by omega),(by rw [bG]),(by first|exact cB|(rw [(X2d z u9 v9).1];exact cB)),(by first|omega|(have:=(X2d z u9 v9).2;omega)),(by first|exact cP|(rw [(X2d z u9 v9).1];exact cP)),E,D,C,g,h,aW,aX,bU.top,N,dY,G⟩,(by first|omega|(dsimp only;omega))⟩
   have d6:=bD
   rw [Y38 bD] at bG
   refine Q7<|Xa<|dA _ _<|Zr J ?_;refine Ze (Xs rfl rfl (by omega) (by omega))<|Zm rfl ?_;refine Zn fun a J=>?_;refine Xc ?_;exact ⟨(j+1,z),⟨bN,bO,c5,cA,J.sb,(by omega),(by rw [bG]),(by first|exact cB|(rw [(X2d z u9 v9).1];exact cB)),(by first|omega|(have:=(X2d z u9 v9).2;omega)),(by first|exact cP|(rw [(X2d z u9 v9).1];exact cP)),E,D,C,g,h,aW,aX,bP.top,N,dU,G⟩,(by first|omega|(dsimp only;omega))⟩
  have bC:=b8;have b8:=Q1 b8
  have i9:z=pvM (d.ns.getD p.toNat nZ).p (d.ns.getD q.toNat nZ).p (othW d.ws p q) (othW d.ws q p) m (id0 (id0 d p) q) (i+1):=by rw [hz,Qi (by have:=b8;omega),Xcn bY,<- fE,i1,hY,gZ];rfl
  have jU:j<=i:=by rw [Qn] at hj;omega
  refine Q9<|Xk<|Xk<|X02 ?_;refine Xa<|fH _ _<|Zr J<|Ze (Xs rfl rfl (by omega) (by omega))<|Zm rfl ?_;refine Zn fun a J=>?_;refine Xc ?_;exact ⟨(i+1,z),⟨bN,bO,c5,cA,J.sb,(by omega),i9,cB,(by omega),cP,E,D,C,g,h,aX,bP.top,N,dU,G⟩,(by first|omega|(dsimp only;omega))⟩
 have b1:=b6;have b6:=Q1 b6
 have dD:o=pvM (d.ns.getD p.toNat nZ).p (d.ns.getD q.toNat nZ).p (othW d.ws p q) (othW d.ws q p) (pvL d p q) (id0 (id0 d p) q) (pvL d p q).length:=by rw [fE,bZ];congr 1;have:=b6;rw [bZ] at this hi;omega
 refine Q9<|Xk<|Xk<|X02 ?_;refine fB _ _<|Q5 fun _ cQ=>?_;refine Zs J fun _ eA=>?_;refine Zm rfl<|Zm rfl<|Ze (Xs rfl rfl (by omega) (by omega))<|Ze (X0k rfl rfl)<|Zt eA fun a J=>?_
 refine Xi J rfl (fun bE=>?_) (fun bE=>?_)
 ·have d7:=bE;have cR:=bE;refine Zr J<|Ze (Vd rfl X0q 3)<|Ze (X0 rfl X9 (D.at 3))<|Ze (X2z rfl rfl)<|Ze (Vd rfl X0q 3)<|Zo (Vu (vs:=[vi (wr (o.t+4))]) (l':=[vi o.n,.slice aY d.ns.length aZ,.slice b3 o.ws.length b5,vi (wr (o.t+4)),vi o.r]) rfl rfl X0b D) ?_;rintro _ jV ⟨ho,hb⟩;have I:=D;have E:=E.oy ho (by omega);have W:=W.oT ho I rfl;have aC:=aC.oT ho I rfl;have G:=Below.oy G ho aV;have D:=hb;refine Zx cQ fun a J _ eB=>?_;refine Ze (Vd rfl X00 4)<|Ze (X0 rfl X9 (D.at 4))<|Zm rfl<|Ze (X09 rfl Xj)<|Ze (X1h rfl rfl (by omega) (by omega))<|Zm rfl<|Ze (X09 rfl Xj)<|Ze (X1h rfl rfl (by omega) (by omega))<|Ze (X2z rfl rfl)<|Ze (Vd rfl X00 4) ?_;refine Zo (Vu (vs:=[vi (wr (o.r+((1-((othW d.ws p q).length:Int))-((othW d.ws q p).length:Int))))]) (l':=[vi o.n,.slice aY d.ns.length aZ,.slice b3 o.ws.length b5,vi (wr (o.t+4)),vi (wr (o.r+((1-((othW d.ws p q).length:Int))-((othW d.ws q p).length:Int))))]) rfl rfl X0b D) ?_;rintro _ jW ⟨ho,hb⟩;have I:=D;have E:=E.oy ho (by omega);have W:=W.oT ho I rfl;have aC:=aC.oT ho I rfl;have G:=Below.oy G ho aV;have D:=hb;refine Zx eB fun a J _ eC=>?_;refine Ze (Vn X2 D)<|Zo (Vw [vi o.n,.slice aY d.ns.length aZ,.slice b3 o.ws.length b5,vi (wr (o.t+4)),vi (wr (o.r+((1-((othW d.ws p q).length:Int))-((othW d.ws q p).length:Int))))] Xh E) ?_;rintro _ jX ⟨ho,hb⟩;have I:=E;have W:=W.oT ho I rfl;have aC:=aC.oT ho I rfl;have G:=Below.oy G ho bW;have E:=hb;refine Za rfl<|Zt eC fun a J=>?_
  refine Q6 (X6 J (X1v J rfl (ResV.cellN (l:=[vi o.n,.slice aY d.ns.length aZ,.slice b3 o.ws.length b5,vi (wr (o.t+4)),vi (wr (o.r+((1-((othW d.ws p q).length:Int))-((othW d.ws q p).length:Int))))]) rfl X2 (E.at 0) rfl) rfl) ?_)
  rw [eU,Q4 rfl,Xaz dD,Q4 cR,a8]
  exact ⟨aY,aZ,b3,b5,rfl,W.rd.top,aC.top,cV,cE,G⟩
 have d7:=bE;have cR:=bE;refine Q7<|cQ _ _<|Zs J fun _ eD=>?_;refine Ze (Vd rfl X00 4)<|Ze (X0 rfl X9 (D.at 4))<|Zm rfl<|Ze (X09 rfl Xj)<|Ze (X1h rfl rfl (by omega) (by omega))<|Zm rfl<|Ze (X09 rfl Xj)<|Ze (X1h rfl rfl (by omega) (by omega))<|Ze (X2z rfl rfl)<|Ze (Vd rfl X00 4) ?_;refine Zo (Vu (vs:=[vi (wr (o.r+((1-((othW d.ws p q).length:Int))-((othW d.ws q p).length:Int))))]) (l':=[vi o.n,.slice aY d.ns.length aZ,.slice b3 o.ws.length b5,vi o.t,vi (wr (o.r+((1-((othW d.ws p q).length:Int))-((othW d.ws q p).length:Int))))]) rfl rfl X0b D) ?_;rintro _ jY ⟨ho,hb⟩;have I:=D;have E:=E.oy ho (by omega);have W:=W.oT ho I rfl;have aC:=aC.oT ho I rfl;have G:=Below.oy G ho aV;have D:=hb;refine Zx eD fun a J _ eE=>?_;refine Ze (Vn X2 D)<|Zo (Vw [vi o.n,.slice aY d.ns.length aZ,.slice b3 o.ws.length b5,vi o.t,vi (wr (o.r+((1-((othW d.ws p q).length:Int))-((othW d.ws q p).length:Int))))] Xh E) ?_;rintro _ jZ ⟨ho,hb⟩;have I:=E;have W:=W.oT ho I rfl;have aC:=aC.oT ho I rfl;have G:=Below.oy G ho bW;have E:=hb;refine Za rfl<|Zt eE fun a J=>?_
 refine Q6 (X6 J (X1v J rfl (ResV.cellN (l:=[vi o.n,.slice aY d.ns.length aZ,.slice b3 o.ws.length b5,vi o.t,vi (wr (o.r+((1-((othW d.ws p q).length:Int))-((othW d.ws q p).length:Int))))]) rfl X2 (E.at 0) rfl) rfl) ?_)
 rw [eU,Q4 rfl,Xaz dD,Q3 (by rw [cR];decide),a8]
 exact ⟨aY,aZ,b3,b5,rfl,W.rd.top,aC.top,cV,cE,G⟩
theorem Y0o(w0:World)(d:Dg)(md:Nat)(p:md=d.ns.length)(Ad:Option Addr)(cd:Nat)(q:Rd w0 w0.heap.size 81 encNd Ad d.ns)(Bd:Option Addr)(dd:Nat)(y:Rd w0 w0.heap.size 83 encWr Bd d.ws)(h:d.ws.length<=dd)(x:Rz)(hD:InD d) : Ret Tryz.prog 123 [.agg #[vi d.n,.slice Ad md cd,.slice Bd d.ws.length dd,vi d.t,vi d.r],.agg #[vi x.u,vi x.a,vi x.b]] w0 (fun v w=>∃ A c B e,v=.tuple #[.agg #[vi (if (doC d x)=true then doD d x else d).n,.slice A md c,.slice B (if (doC d x)=true then doD d x else d).ws.length e,vi (if (doC d x)=true then doD d x else d).t,vi (if (doC d x)=true then doD d x else d).r],.bool (doC d x)]/\Rd w w.heap.size 81 encNd A (if (doC d x)=true then doD d x else d).ns/\Rd w w.heap.size 83 encWr B (if (doC d x)=true then doD d x else d).ws/\(if (doC d x)=true then doD d x else d).ws.length<=e/\md=(if (doC d x)=true then doD d x else d).ns.length/\Below w0.heap.size w0 w):=by
 refine enter Tryz.func123 rfl 59 rfl rfl ?_;intro a i
 have g:=bz w0
 refine Zs i fun _ bW=>?_;refine Zf (X0l (zs:=[vi d.n,.slice Ad md cd,.slice Bd d.ws.length dd,vi d.t,vi d.r]) rfl rfl) ?_;rintro _ w1 ⟨b4,rfl,bX,C,m⟩;have cA:=Q0 g.size bX;have g:=btr g C;refine Zf (X0l (zs:=[vi x.u,vi x.a,vi x.b]) rfl rfl) ?_;rintro _ w2 ⟨b5,rfl,bY,C,o⟩;have cB:=Q0 g.size bY;have m:=m.bw C;have g:=btr g C;refine Zf (Xq (zs:=[vi 0,.slice none 0 0,.slice none 0 0,vi 0,vi 0]) X0h rfl) ?_;rintro _ w3 ⟨b8,rfl,bZ,C,f⟩
 have bU:b4≠b8:=by have:=m.lt;omega
 have D:=Q0 g.size bZ;have m:=m.bw C;have o:=o.bw C;have g:=btr g C;refine Za rfl<|ZX bW fun a i _ c5=>?_;refine Zs i fun _ b6=>?_;refine Ze (Vd rfl X4c 0)<|Ze (X0 rfl X9 (o.at 0))<|Zt b6 fun a i=>?_;refine Q8<|Zs i fun _ b7=>?_;refine Ze (X0k rfl rfl)<|Za rfl<|Zt b7 fun a i=>?_
 refine Xi i rfl (fun G=>?_) (fun G=>?_)
 ·have aY:=G;have k:=Xra (d:=d) G;refine Zs i fun _ b9=>?_;refine Ze (Vn X2 m)<|Ze (Vd rfl X1o 1)<|Ze (X0 rfl X9 (o.at 1))<|Ze (Vd rfl X3l 2)<|Ze (X0 rfl X9 (o.at 2))<|Zf (Vc (Y42 _ d md p Ad cd (q.bx g).top Bd dd (y.bx g).top h x.a x.b hD) Xqn) ?_;rintro _ w4 ⟨Q,U,W,a6,rfl,a7,a8,bA,cC,C⟩;have f:=f.bw C;have g:=btr g C;refine Ze (Xo (vs:=[.agg #[vi ((if (fuC d x.a x.b)=true then fuD d x.a x.b else d).n),.slice Q md U,.slice W ((if (fuC d x.a x.b)=true then fuD d x.a x.b else d).ws).length a6,vi ((if (fuC d x.a x.b)=true then fuD d x.a x.b else d).t),vi ((if (fuC d x.a x.b)=true then fuD d x.a x.b else d).r)],.bool (fuC d x.a x.b)]) rfl rfl)<|Ze (Xo (vs:=[.agg #[vi ((if (fuC d x.a x.b)=true then fuD d x.a x.b else d).n),.slice Q md U,.slice W ((if (fuC d x.a x.b)=true then fuD d x.a x.b else d).ws).length a6,vi ((if (fuC d x.a x.b)=true then fuD d x.a x.b else d).t),vi ((if (fuC d x.a x.b)=true then fuD d x.a x.b else d).r)],.bool (fuC d x.a x.b)]) rfl rfl)<|Zo (Vw [vi ((if (fuC d x.a x.b)=true then fuD d x.a x.b else d).n),.slice Q md U,.slice W ((if (fuC d x.a x.b)=true then fuD d x.a x.b else d).ws).length a6,vi ((if (fuC d x.a x.b)=true then fuD d x.a x.b else d).t),vi ((if (fuC d x.a x.b)=true then fuD d x.a x.b else d).r)] Xh f) ?_;rintro _ w5 ⟨E,N⟩;have j:=f;have a7:=a7.oT E j rfl;have a8:=a8.oT E j rfl;have g:=Below.oy g E D;have f:=N;refine Za rfl<|Zt b9 fun a i=>?_;refine Q6<|Xw<|X8<|X6 i (X1v i rfl (ResV.cellN (l:=[vi ((if (fuC d x.a x.b)=true then fuD d x.a x.b else d).n),.slice Q md U,.slice W ((if (fuC d x.a x.b)=true then fuD d x.a x.b else d).ws).length a6,vi ((if (fuC d x.a x.b)=true then fuD d x.a x.b else d).t),vi ((if (fuC d x.a x.b)=true then fuD d x.a x.b else d).r)]) rfl X2 (f.at 0) rfl) rfl) ?_
  rw [k.1,k.2]
  exact ⟨Q,U,W,a6,rfl,a7.top,a8.top,bA,by assumption,g⟩
 have aY:=G
 have g1:=G
 refine Zs i fun _ bB=>?_;refine Ze (X0k rfl rfl)<|Za rfl<|Zt bB fun a i=>?_
 refine Xi i rfl (fun H=>?_) (fun H=>?_)
 ·have aZ:=H;have k:=Xws (d:=d) g1 H;refine Zs i fun _ bC=>?_;refine Ze (Vn X2 m)<|Ze (Vd rfl X1o 1)<|Ze (X0 rfl X9 (o.at 1))<|Ze (Vd rfl X3l 2)<|Ze (X0 rfl X9 (o.at 2))<|Zf (Vc (Xzx _ d md p Ad cd (q.bx g).top Bd dd (y.bx g).top h x.a x.b hD) Xq9) ?_;rintro _ w6 ⟨aA,aB,aC,aD,rfl,aE,aF,bD,cD,C⟩;have f:=f.bw C;have g:=btr g C;refine Ze (Xo (vs:=[.agg #[vi ((if (pvC d x.a x.b)=true then pvD d x.a x.b else d).n),.slice aA md aB,.slice aC ((if (pvC d x.a x.b)=true then pvD d x.a x.b else d).ws).length aD,vi ((if (pvC d x.a x.b)=true then pvD d x.a x.b else d).t),vi ((if (pvC d x.a x.b)=true then pvD d x.a x.b else d).r)],.bool (pvC d x.a x.b)]) rfl rfl)<|Ze (Xo (vs:=[.agg #[vi ((if (pvC d x.a x.b)=true then pvD d x.a x.b else d).n),.slice aA md aB,.slice aC ((if (pvC d x.a x.b)=true then pvD d x.a x.b else d).ws).length aD,vi ((if (pvC d x.a x.b)=true then pvD d x.a x.b else d).t),vi ((if (pvC d x.a x.b)=true then pvD d x.a x.b else d).r)],.bool (pvC d x.a x.b)]) rfl rfl)<|Zo (Vw [vi ((if (pvC d x.a x.b)=true then pvD d x.a x.b else d).n),.slice aA md aB,.slice aC ((if (pvC d x.a x.b)=true then pvD d x.a x.b else d).ws).length aD,vi ((if (pvC d x.a x.b)=true then pvD d x.a x.b else d).t),vi ((if (pvC d x.a x.b)=true then pvD d x.a x.b else d).r)] Xh f) ?_;rintro _ w7 ⟨E,N⟩;have j:=f;have aE:=aE.oT E j rfl;have aF:=aF.oT E j rfl;have g:=Below.oy g E D;have f:=N;refine Za rfl<|Zt bC fun a i=>?_;refine Q6<|Xw<|X8<|X6 i (X1v i rfl (ResV.cellN (l:=[vi ((if (pvC d x.a x.b)=true then pvD d x.a x.b else d).n),.slice aA md aB,.slice aC ((if (pvC d x.a x.b)=true then pvD d x.a x.b else d).ws).length aD,vi ((if (pvC d x.a x.b)=true then pvD d x.a x.b else d).t),vi ((if (pvC d x.a x.b)=true then pvD d x.a x.b else d).r)]) rfl X2 (f.at 0) rfl) rfl) ?_
  rw [k.1,k.2]
  exact ⟨aA,aB,aC,aD,rfl,aE.top,aF.top,bD,by assumption,g⟩
 have aZ:=H
 have g4:=H
 refine Q7<|Xa<|c5 _ _<|Q5 fun _ bE=>?_;refine Zs i fun _ bF=>?_;refine Ze (Vd rfl X3l 2)<|Ze (X0 rfl X9 (o.at 2))<|Ze (X1e rfl rfl)<|Zt bF fun a i=>?_
 refine Xi i rfl (fun I=>?_) (fun I=>?_)
 ·have b0:=I;have k:=Xxv (d:=d) g1 g4 I;refine Zs i fun _ bG=>?_;refine Ze (Vn X2 m)<|Zo (Vw [vi d.n,.slice Ad md cd,.slice Bd d.ws.length dd,vi d.t,vi d.r] Xh f) ?_;rintro _ w8 ⟨E,N⟩;have j:=f;have g:=Below.oy g E D;have f:=N;refine Za rfl<|Zt bG fun a i=>?_;refine Q6<|X8<|X6 i (X1v i rfl (ResV.cellN (l:=[vi d.n,.slice Ad md cd,.slice Bd d.ws.length dd,vi d.t,vi d.r]) rfl X2 (f.at 0) rfl) rfl) ?_
  rw [k,Q3 Bool.false_ne_true]
  exact ⟨Ad,cd,Bd,dd,rfl,(q.bx g).top,(y.bx g).top,h,p,g⟩
 have b0:=I
 have gb:=I
 refine Q7<|bE _ _<|Q5 fun _ bH=>?_;refine Zs i fun _ bJ=>?_;refine Ze (Vd rfl X4c 0)<|Ze (X0 rfl X9 (o.at 0))<|Zt bJ fun a i=>?_;refine Q8<|Zs i fun _ bK=>?_;refine Ze (X0k rfl rfl)<|Za rfl<|Zt bK fun a i=>?_
 refine Xi i rfl (fun J=>?_) (fun J=>?_)
 ·have b1:=J;have k:=Xv6 (d:=d) g1 g4 gb J;refine Zs i fun _ bL=>?_;refine Ze (Vn X2 m)<|Ze (Vd rfl X1o 1)<|Ze (X0 rfl X9 (o.at 1))<|Zf (Vc (Y2h _ d md p Ad cd (q.bx g).top Bd dd (y.bx g).top h x.a hD) Xr0) ?_;rintro _ w9 ⟨aG,aH,aI,aJ,rfl,aK,aL,bM,cE,C⟩;have f:=f.bw C;have g:=btr g C;refine Ze (Xo (vs:=[.agg #[vi ((if (idC d x.a)=true then idD d x.a else d).n),.slice aG md aH,.slice aI ((if (idC d x.a)=true then idD d x.a else d).ws).length aJ,vi ((if (idC d x.a)=true then idD d x.a else d).t),vi ((if (idC d x.a)=true then idD d x.a else d).r)],.bool (idC d x.a)]) rfl rfl)<|Ze (Xo (vs:=[.agg #[vi ((if (idC d x.a)=true then idD d x.a else d).n),.slice aG md aH,.slice aI ((if (idC d x.a)=true then idD d x.a else d).ws).length aJ,vi ((if (idC d x.a)=true then idD d x.a else d).t),vi ((if (idC d x.a)=true then idD d x.a else d).r)],.bool (idC d x.a)]) rfl rfl)<|Zo (Vw [vi ((if (idC d x.a)=true then idD d x.a else d).n),.slice aG md aH,.slice aI ((if (idC d x.a)=true then idD d x.a else d).ws).length aJ,vi ((if (idC d x.a)=true then idD d x.a else d).t),vi ((if (idC d x.a)=true then idD d x.a else d).r)] Xh f) ?_;rintro _ cH ⟨E,N⟩;have j:=f;have aK:=aK.oT E j rfl;have aL:=aL.oT E j rfl;have g:=Below.oy g E D;have f:=N;refine Za rfl<|Zt bL fun a i=>?_;refine Q6<|Xw<|X8<|X6 i (X1v i rfl (ResV.cellN (l:=[vi ((if (idC d x.a)=true then idD d x.a else d).n),.slice aG md aH,.slice aI ((if (idC d x.a)=true then idD d x.a else d).ws).length aJ,vi ((if (idC d x.a)=true then idD d x.a else d).t),vi ((if (idC d x.a)=true then idD d x.a else d).r)]) rfl X2 (f.at 0) rfl) rfl) ?_
  rw [k.1,k.2]
  exact ⟨aG,aH,aI,aJ,rfl,aK.top,aL.top,bM,by assumption,g⟩
 have b1:=J
 have g2:=J
 refine Zs i fun _ bN=>?_;refine Ze (X0k rfl rfl)<|Za rfl<|Zt bN fun a i=>?_
 refine Xi i rfl (fun L=>?_) (fun L=>?_)
 ·have b2:=L;have k:=Xwf (d:=d) g1 g4 gb g2 L;refine Zs i fun _ bO=>?_;refine Ze (Vn X2 m)<|Ze (Vd rfl X1o 1)<|Ze (X0 rfl X9 (o.at 1))<|Zf (Vc (Y1e _ d md p Ad cd (q.bx g).top Bd dd (y.bx g).top h x.a hD) Xqy) ?_;rintro _ cI ⟨aM,aN,aO,aP,rfl,aQ,aR,bP,cF,C⟩;have f:=f.bw C;have g:=btr g C;refine Ze (Xo (vs:=[.agg #[vi ((if (lcC d x.a)=true then lcD d x.a else d).n),.slice aM md aN,.slice aO ((if (lcC d x.a)=true then lcD d x.a else d).ws).length aP,vi ((if (lcC d x.a)=true then lcD d x.a else d).t),vi ((if (lcC d x.a)=true then lcD d x.a else d).r)],.bool (lcC d x.a)]) rfl rfl)<|Ze (Xo (vs:=[.agg #[vi ((if (lcC d x.a)=true then lcD d x.a else d).n),.slice aM md aN,.slice aO ((if (lcC d x.a)=true then lcD d x.a else d).ws).length aP,vi ((if (lcC d x.a)=true then lcD d x.a else d).t),vi ((if (lcC d x.a)=true then lcD d x.a else d).r)],.bool (lcC d x.a)]) rfl rfl)<|Zo (Vw [vi ((if (lcC d x.a)=true then lcD d x.a else d).n),.slice aM md aN,.slice aO ((if (lcC d x.a)=true then lcD d x.a else d).ws).length aP,vi ((if (lcC d x.a)=true then lcD d x.a else d).t),vi ((if (lcC d x.a)=true then lcD d x.a else d).r)] Xh f) ?_;rintro _ cJ ⟨E,N⟩;have j:=f;have aQ:=aQ.oT E j rfl;have aR:=aR.oT E j rfl;have g:=Below.oy g E D;have f:=N;refine Za rfl<|Zt bO fun a i=>?_;refine Q6<|Xw<|X8<|X6 i (X1v i rfl (ResV.cellN (l:=[vi ((if (lcC d x.a)=true then lcD d x.a else d).n),.slice aM md aN,.slice aO ((if (lcC d x.a)=true then lcD d x.a else d).ws).length aP,vi ((if (lcC d x.a)=true then lcD d x.a else d).t),vi ((if (lcC d x.a)=true then lcD d x.a else d).r)]) rfl X2 (f.at 0) rfl) rfl) ?_
  rw [k.1,k.2]
  exact ⟨aM,aN,aO,aP,rfl,aQ.top,aR.top,bP,by assumption,g⟩
 have b2:=L
 have g3:=L
 refine Zs i fun _ bQ=>?_;refine Ze (X0k rfl rfl)<|Za rfl<|Zt bQ fun a i=>?_
 refine Xi i rfl (fun M=>?_) (fun M=>?_)
 ·have b3:=M;have k:=Xy0 (d:=d) g1 g4 gb g2 g3 M;refine Zs i fun _ bR=>?_;refine Ze (Vn X2 m)<|Ze (Vd rfl X1o 1)<|Ze (X0 rfl X9 (o.at 1))<|Zf (Vc (Y1z _ d md p Ad cd (q.bx g).top Bd dd (y.bx g).top h x.a hD) Xp6) ?_;rintro _ cK ⟨aS,aT,aU,aV,rfl,aW,aX,bS,cG,C⟩;have f:=f.bw C;have g:=btr g C;refine Ze (Xo (vs:=[.agg #[vi ((if (loC d x.a)=true then loD d x.a else d).n),.slice aS md aT,.slice aU ((if (loC d x.a)=true then loD d x.a else d).ws).length aV,vi ((if (loC d x.a)=true then loD d x.a else d).t),vi ((if (loC d x.a)=true then loD d x.a else d).r)],.bool (loC d x.a)]) rfl rfl)<|Ze (Xo (vs:=[.agg #[vi ((if (loC d x.a)=true then loD d x.a else d).n),.slice aS md aT,.slice aU ((if (loC d x.a)=true then loD d x.a else d).ws).length aV,vi ((if (loC d x.a)=true then loD d x.a else d).t),vi ((if (loC d x.a)=true then loD d x.a else d).r)],.bool (loC d x.a)]) rfl rfl)<|Zo (Vw [vi ((if (loC d x.a)=true then loD d x.a else d).n),.slice aS md aT,.slice aU ((if (loC d x.a)=true then loD d x.a else d).ws).length aV,vi ((if (loC d x.a)=true then loD d x.a else d).t),vi ((if (loC d x.a)=true then loD d x.a else d).r)] Xh f) ?_;rintro _ cL ⟨E,N⟩;have j:=f;have aW:=aW.oT E j rfl;have aX:=aX.oT E j rfl;have g:=Below.oy g E D;have f:=N;refine Za rfl<|Zt bR fun a i=>?_;refine Q6<|Xw<|X8<|X6 i (X1v i rfl (ResV.cellN (l:=[vi ((if (loC d x.a)=true then loD d x.a else d).n),.slice aS md aT,.slice aU ((if (loC d x.a)=true then loD d x.a else d).ws).length aV,vi ((if (loC d x.a)=true then loD d x.a else d).t),vi ((if (loC d x.a)=true then loD d x.a else d).r)]) rfl X2 (f.at 0) rfl) rfl) ?_
  rw [k.1,k.2]
  exact ⟨aS,aT,aU,aV,rfl,aW.top,aX.top,bS,by assumption,g⟩
 have b3:=M;have k:=Y01 (d:=d) g1 g4 gb g2 g3 M;refine Q7<|Xa<|bH _ _<|Zs i fun _ bT=>?_;refine Ze (Vn X2 m)<|Zo (Vw [vi d.n,.slice Ad md cd,.slice Bd d.ws.length dd,vi d.t,vi d.r] Xh f) ?_;rintro _ cM ⟨E,N⟩;have j:=f;have g:=Below.oy g E D;have f:=N;refine Za rfl<|Zt bT fun a i=>?_
 refine Q6 (X6 i (X1v i rfl (ResV.cellN (l:=[vi d.n,.slice Ad md cd,.slice Bd d.ws.length dd,vi d.t,vi d.r]) rfl X2 (f.at 0) rfl) rfl) ?_)
 rw [k,Q3 Bool.false_ne_true]
 exact ⟨Ad,cd,Bd,dd,rfl,(q.bx g).top,(y.bx g).top,h,p,g⟩
def cnW(ws:List Wr)(k:Int) : Int:=((ws.filter fun w=>w.a==k||w.b==k).length:Int)
theorem Xye{ws:List Wr}{k:Int}{j:Nat}{w:Wr}(hj:ws[j]? = some w)(h:(w.a==k||w.b==k)=true) : cnW (ws.take (j+1)) k=cnW (ws.take j) k+1:=by
 unfold cnW
 rw [X3e (q:=fun w=>w.a==k||w.b==k) hj,Q4 h,Qh]
 rfl
theorem Xyk{ws:List Wr}{k:Int}{j:Nat}{w:Wr}(hj:ws[j]? = some w)(h:(w.a==k||w.b==k)=false) : cnW (ws.take (j+1)) k=cnW (ws.take j) k:=by
 unfold cnW
 rw [X3e (q:=fun w=>w.a==k||w.b==k) hj,Q3 (by rw [h];decide),List.append_nil]
theorem Xf8(ws:List Wr)(k:Int)(j:Nat) : 0<=cnW (ws.take j) k/\cnW (ws.take j) k<=j:=by
 have h1:=List.length_filter_le (fun w:Wr=>w.a==k||w.b==k) (ws.take j)
 rw [Qn] at h1
 unfold cnW
 omega
def ctN(ns:List Nd)(k p:Int) : Int:=((ns.filter fun x=>x.k==k&&x.p==p).length:Int)
theorem Y4o{ns:List Nd}{k p:Int}{j:Nat}{x:Nd}(hj:ns[j]? = some x)(h:(x.k==k&&x.p==p)=true) : ctN (ns.take (j+1)) k p=ctN (ns.take j) k p+1:=by
 unfold ctN
 rw [X3e (q:=fun x=>x.k==k&&x.p==p) hj,Q4 h,Qh]
 rfl
theorem Y4g{ns:List Nd}{k p:Int}{j:Nat}{x:Nd}(hj:ns[j]? = some x)(h:(x.k==k&&x.p==p)=false) : ctN (ns.take (j+1)) k p=ctN (ns.take j) k p:=by
 unfold ctN
 rw [X3e (q:=fun x=>x.k==k&&x.p==p) hj,Q3 (by rw [h];decide),List.append_nil]
theorem Y09(ns:List Nd)(k p:Int)(j:Nat) : 0<=ctN (ns.take j) k p/\ctN (ns.take j) k p<=j:=by
 have h1:=List.length_filter_le (fun x:Nd=>x.k==k&&x.p==p) (ns.take j)
 rw [Qn] at h1
 unfold ctN
 omega
def ndQ(d:Dg)(k:Int) : Bool:=
 if ((d.ns.getD k.toNat nZ).k==0)=true then (d.ns.getD k.toNat nZ).p==0&&cnW d.ws k==0
 else if ((d.ns.getD k.toNat nZ).k==1||(d.ns.getD k.toNat nZ).k==2)=true then inR (d.ns.getD k.toNat nZ).p 0 (d.n-1)&&cnW d.ws k==1
 else (d.ns.getD k.toNat nZ).k==3&&inR (d.ns.getD k.toNat nZ).p 0 7
theorem Y5n{d:Dg}{k:Int}(h:((d.ns.getD k.toNat nZ).k==0)=true) : ndQ d k=((d.ns.getD k.toNat nZ).p==0&&cnW d.ws k==0):=Q4 h
theorem Xy6{d:Dg}{k:Int}(h:((d.ns.getD k.toNat nZ).k==0)=false)(h2:((d.ns.getD k.toNat nZ).k==1||(d.ns.getD k.toNat nZ).k==2)=true) : ndQ d k=(inR (d.ns.getD k.toNat nZ).p 0 (d.n-1)&&cnW d.ws k==1):=by
 unfold ndQ;rw [h,h2];rfl
theorem Y4m{d:Dg}{k:Int}(h:((d.ns.getD k.toNat nZ).k==0)=false)(h2:((d.ns.getD k.toNat nZ).k==1||(d.ns.getD k.toNat nZ).k==2)=false) : ndQ d k=((d.ns.getD k.toNat nZ).k==3&&inR (d.ns.getD k.toNat nZ).p 0 7):=by
 unfold ndQ;rw [h,h2];rfl
def enQ(d:Dg)(k:Int) : Bool:=(List.range d.n.toNat).all fun (j:Nat)=>ctN d.ns k (j:Int)==1
def endQ(d:Dg) : Bool:=enQ d 1&&enQ d 2
theorem Y31{d:Dg}{e j:Nat}(h1:1<=e)(h2:e<=2)(hj:(j:Int)<d.n)(h:(ctN d.ns (e:Int) (j:Int) != 1)=true) : endQ d=false:=by
 have hx:enQ d (e:Int)=false:=X5e (k:=j) (by omega) (by simpa [bne] using h)
 unfold endQ
 rcases (by omega:e=1∨e=2) with h3|h3<;>subst h3
 ·rw [show enQ d 1=false from hx];rfl
 ·rw [show enQ d 2=false from hx,Bool.and_false]
def wrQ(d:Dg)(i:Nat) : Bool:=!(!(inR (d.ws.getD i wZ).a 0 ((d.ws.getD i wZ).b-1))||decide ((d.ns.length:Int)<=(d.ws.getD i wZ).b)||(decide (0<(i:Int))&&!(wlt (d.ws.getD (i-1) wZ) (d.ws.getD i wZ))))
def hdQ(d:Dg) : Bool:=!(!(inR d.n 1 5)||decide (40<(d.ns.length:Int))||!(inR d.t 0 7)||!(inR d.r (-60) 60))
def goodD(d:Dg) : Bool:=hdQ d&&(List.range d.ws.length).all (wrQ d)&&(List.range d.ns.length).all (fun k=>ndQ d (k:Int))&&endQ d
theorem Y3b{d:Dg}(h:(!(inR d.n 1 5)||decide (40<(d.ns.length:Int))||!(inR d.t 0 7)||!(inR d.r (-60) 60))=true) : goodD d=false:=by
 unfold goodD hdQ;rw [h];rfl
theorem Xio{d:Dg}(h:(!(inR d.n 1 5)||decide (40<(d.ns.length:Int))||!(inR d.t 0 7)||!(inR d.r (-60) 60))=false) : hdQ d=true/\(1<=d.n/\d.n<=5)/\d.ns.length<=40/\(0<=d.t/\d.t<=7)/\-60<=d.r/\d.r<=60:=by
 refine ⟨by unfold hdQ;rw [h];rfl,?_⟩
 simp only [Bool.or_eq_false_iff,Bool.not_eq_false',X0o,decide_eq_false_iff_not] at h
 omega
theorem Xf2{d:Dg}{i:Nat}{u:Wr}(hu:d.ws[i]? = some u) : wrQ d i = !(!(inR u.a 0 (u.b-1))||decide ((d.ns.length:Int)<=u.b)||(decide (0<(i:Int))&&!(wlt (d.ws.getD (i-1) wZ) u))):=by
 have h:d.ws.getD i wZ=u:=by rw [Qa,hu];rfl
 unfold wrQ
 rw [h]
theorem Xxr{d:Dg}{i:Nat}(hi:i<d.ws.length)(h:wrQ d i=false) : goodD d=false:=by
 unfold goodD
 rw [X5e (q:=wrQ d) hi h,Bool.and_false,Bool.false_and,Bool.false_and]
theorem Xun{d:Dg}{i:Nat}(hi:i<d.ns.length)(h:ndQ d (i:Int)=false) : goodD d=false:=by
 unfold goodD
 rw [X5e (q:=fun k=>ndQ d (k:Int)) hi h,Bool.and_false,Bool.false_and]
theorem Xvy{d:Dg}(h1:hdQ d=true)(h2:∀ i,i<d.ws.length->wrQ d i=true)(h3:∀ i:Nat,i<d.ns.length->ndQ d (i:Int)=true) : goodD d=endQ d:=by
 unfold goodD
 rw [h1,X4s (q:=wrQ d) h2,X4s (q:=fun k=>ndQ d (k:Int)) h3]
 rfl
end Go.Proofs.YtpifljegadknkaaGreat
