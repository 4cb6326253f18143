/-
  For all drawn pairs of circuits, the symbolic comparison of the program agrees with the operators and the phase is the one between them; conditions: none beside the table of math/bits that the card ties to the text.
-/
import Derived.Test.YtiejkplemjkjoaaGreatDoorG5
import Derived.Test.YtiejkplemjkjoaaGreatDoorG3
import Derived.Test.YtiejkplemjkjoaaGreatDoorG2
import Derived.Test.YtiejkplemjkjoaaGreatDoorRows
import Derived.Lib.LaidU8
import Derived.MakeChecks
import Derived.Test.YtiejkplemjkjoaaGreatDoorCards
import Derived.Test.YtiejkplemjkjoaaGreatDoorTie
import Derived.Lay
set_option linter.unusedVariables false
set_option linter.unusedSimpArgs false
set_option maxHeartbeats 1000000
set_option maxRecDepth 4000
set_option linter.unusedSectionVars false
namespace Go.Proofs.YtiejkplemjkjoaaGreatDoor
open Go.RowKit
def semF(p:Ps)(w:St)(x:Nat→Bool) : St:=fun a=>omZ (p.phase+evL a (sm p.ts))*w (affs p.ins.toNat p.out a x)
theorem Xha(p:Ps)(w:St)(x:Nat→Bool) : semP p w x=sumB p.ins.toNat p.vars.toNat (semF p w x) x:=rfl
theorem Xk9(ph:Int)(a:Nat→Bool) : evP (cPh ph) a=ph:=by
 have e:tms (cPh ph)=[]:=(IsT.eq ⟨List.Pairwise.nil,fun t=>⟨fun h=>(by cases h),fun h=>absurd (show cPh ph t.m=0 from by unfold cPh;exact X2u (by have:=h.1;omega)) h.2.2.2⟩⟩).symm
 unfold evP
 rw [e]
 show cPh ph 0+0=ph
 unfold cPh upd
 simp
theorem Xdk(t:Tm)(l:List Tm) : sm (t::l)=(t.m,t.c)::sm l:=rfl
theorem Xu9{v:Nat}{u:Af}(h:AO u) : AO (dA v u):=⟨h.1.dr,h.2⟩
theorem Y1c{v:Nat}{u:Af}{t:Tm}(hu:AO u)(ht:Mk t.m) : ∀ p ∈ rL v u t,Mk p.1:=fun p hp=>by
 unfold rL at hp
 split at hp
 ·exact Xe3 (Xu9 hu) ht.dr p hp
 ·rw [List.mem_singleton.1 hp];exact ht.dr
theorem Y0h{v:Nat}{u:Af}{t:Tm}(a:Nat→Bool)(hu:AO u)(ht:Mk t.m) : Cg (evL a (rL v u t)) (t.c*subI (lift v a (avI a (dA v u)==1)) t.m):=by
 rw [Xbn a _ ht]
 unfold rL
 cases e:bitQ v t.m
 ·rw [if_neg (by decide),X35,X78]
  simp only [Bool.false_and,Bool.false_eq_true,if_false,Int.add_zero]
  exact Cg.refl _
 ·rw [if_pos rfl,Bool.true_and]
  refine (Xq1 a t.c (u:=dA v u) hu.2 ht.dr).trans (Cg.of ?_)
  rcases X3r a (dA v u) with h|h<;>rw [h]
  ·simp
  ·simp
theorem Xjk{v:Nat}{u:Af}(a:Nat→Bool)(hu:AO u) : ∀ ts:List Tm,(∀ t ∈ ts,Mk t.m)→Cg (evL a (ts.flatMap (rL v u))) (evL (lift v a (avI a (dA v u)==1)) (sm ts))
 | [],_=>Cg.refl _
 | t::l,h=>by
  rw [List.flatMap_cons,X73,Xdk,X35]
  exact (Y0h a hu (h t (by simp))).add (Xjk a hu l fun x hx=>h x (by simp [hx]))
theorem Xtc{g:Af→Af}(h:g afZ=afZ)(l:List Af)(i:Int) : aAt (l.map g) i=g (aAt l i):=by
 unfold aAt
 rw [List.getD_eq_getElem?_getD,List.getD_eq_getElem?_getD,List.getElem?_map]
 cases l[i.toNat]? with
 | none=>exact h.symm
 | some x=>rfl
theorem Xja{p:Ps}{v:Nat}{u:Af}(ht:∀ t ∈ p.ts,Mk t.m)(ho:∀ a ∈ p.out,AO a)(hv:v<24)(hu:AO u)(hn:bitQ v u.m=false)(w:St)(x a:Nat→Bool) :
  semF (repP p v u) w x a=semF p w x (lift v a (avI a (dA v u)==1)):=by
 unfold semF
 have h1:Cg ((repP p v u).phase+evL a (sm (repP p v u).ts)) (p.phase+evL (lift v a (avI a (dA v u)==1)) (sm p.ts)):=by
  show Cg (evP (foldA (p.ts.flatMap (rL v u)) (cPh p.phase)) a) _
  refine (X4p _ fun q hq=>?_).trans ?_
  ·obtain ⟨t,h1,h2⟩:=List.mem_flatMap.1 hq;exact Y1c hu (ht t h1) q h2
  ·rw [Xk9]
   exact (Cg.refl _).add (Xjk a hu p.ts ht)
 rw [X5x h1]
 congr 2
 funext q
 unfold affs
 show (if q<p.ins.toNat then (avI a (aAt (p.out.map fun a=>dA v (sA v u a)) q)==1) else x q)=_
 rw [Xtc (g:=fun a=>dA v (sA v u a)) (by
  show dA v (sA v u afZ)=afZ
  unfold sA
  rw [if_neg (by show ¬ (0:Int).toNat.testBit v=true;simp)]
  unfold dA
  show (⟨drI v 0,0⟩ : Af)=afZ
  rw [X2q];rfl)]
 show (if q<p.ins.toNat then (avI a (dA v (sA v u (aAt p.out q)))==1) else x q)=_
 rw [Xw2 a (AO.at ho q) hu hv hn]
def dY(y:Nat)(a:Nat→Bool)(ts:List Tm) : Int:=(ts.map fun t=>if bitQ y t.m then t.c*subI a (drI y t.m) else 0).sum
theorem Xvc{y:Nat}(a:Nat→Bool) : ∀ ts:List Tm,(∀ t ∈ ts,Mk t.m)→evL (lift y a true) (sm ts)=evL (lift y a false) (sm ts)+dY y a ts
 | [],_=>rfl
 | t::l,h=>by
  rw [Xdk,X35,X35,Xvc a l fun x hx=>h x (by simp [hx]),Xbn a _ (h t (by simp)),Xbn a _ (h t (by simp))]
  unfold dY
  rw [List.map_cons,List.sum_cons]
  cases bitQ y t.m<;>simp<;>omega
theorem Xnq(a:Nat→Bool){x y:Nat}(hx:x<2^62)(hy:y<2^62)(h:∀ i,x.testBit i=true→y.testBit i=false) : numB a (oI x y)=numB a x+numB a y:=by
 unfold oI
 rw [X26 hx hy]
 unfold numB
 simp only [Int.toNat_natCast,Nat.testBit_or]
 induction List.range 62 with
 | nil=>rfl
 | cons i l ih=>
  simp only [List.countP_cons,ih]
  cases e:x.testBit i
  ·cases y.testBit i<;>cases a i<;>simp<;>omega
  ·rw [h i e]
   cases a i<;>simp<;>omega
theorem Xs1(a:Nat→Bool){k:Nat}(h:k<62) : (numB a ((2^k:Nat) : Int) : Int)=subI a ((2^k:Nat) : Int):=by
 have h1:=Xee a h;have hs:=Xjp a h
 rw [hs]
 have e:=Xnq a (x:=0) (y:=2^k) (by decide) (X3q h) (fun i hi=>by simp at hi)
 have h2:(numB a ((2^k:Nat) : Int))≤1:=by
  unfold numB
  rw [Int.toNat_natCast]
  refine Nat.le_trans (List.countP_mono_left (q:=fun i=>i==k) (fun i _ hi=>?_)) ?_
  ·rw [Nat.testBit_two_pow] at hi
   simp only [Bool.and_eq_true,decide_eq_true_eq] at hi
   simp [hi.1]
  ·have:(List.range 62).countP (fun i=>i==k)=1:=by
    rw [← List.count_eq_countP',List.count_range,if_pos h]
   omega
 unfold avI varA at h1
 simp only [Int.add_zero] at h1
 omega
theorem Xt8{r:Int}(h:Mk r)(h1:szI r=1) : ∃ i:Nat,i<24∧r=((2^i:Nat) : Int):=by
 obtain ⟨x,hx,rfl⟩:=h.nat
 unfold szI at h1
 rw [Int.toNat_natCast] at h1
 obtain ⟨q,hq⟩ : ∃ q,setN x=[q]:=by
  cases e:setN x with
  | nil=>rw [e] at h1;cases h1
  | cons q t=>
   rw [e] at h1
   cases t with
   | nil=>exact ⟨q,rfl⟩
   | cons z t=>simp at h1
 have ht:=Xcp (X0u hx) hq
 have hbq:x.testBit q=true:=(X1v (X0u hx)).1 (by rw [hq];simp)
 have hq24:q<24:=by
  rcases Nat.lt_or_ge q 24 with h'|h'
  ·exact h'
  ·rw [Nat.testBit_lt_two_pow (Nat.lt_of_lt_of_le hx (Nat.pow_le_pow_right (by decide) h'))] at hbq;cases hbq
 have h0:x ^^^ 2^q=0:=by
  refine Classical.byContradiction fun hn=>?_
  obtain ⟨q',t',e⟩:=X53 (M:=x ^^^ 2^q) (Nat.xor_lt_two_pow (X0u hx) (X3q (by omega))) hn
  rw [ht] at e;cases e
 refine ⟨q,hq24,?_⟩
 have:x=2^q:=by
  apply Nat.eq_of_testBit_eq
  intro i
  have:=congrArg (fun z=>z.testBit i) h0
  simp only [Nat.testBit_xor,Nat.zero_testBit] at this
  cases e1:x.testBit i<;>cases e2:(2^q).testBit i<;>rw [e1,e2] at this<;>simp_all
 rw [this]
structure DI (y:Nat) (pre:List Tm) (s:Ar) : Prop where
 c:s.c=0∨∃ t ∈ pre,t.m=pw y
 z:∀ i,i<24→bitQ i s.z=true→∃ t ∈ pre,xI t.m (pw y)=((2^i:Nat) : Int)∧bitQ y t.m=true
 d:∀ a,Cg (dY y a pre) (s.c+4*(numB a (drI y s.z) : Int))
 mz:Mk s.z
theorem Xhf(y:Nat)(a:Nat→Bool)(l:List Tm)(t:Tm) : dY y a (l++[t])=dY y a l+if bitQ y t.m then t.c*subI a (drI y t.m) else 0:=by
 unfold dY
 rw [List.map_append,List.sum_append]
 simp
theorem Xms{m m' k:Int}(h:Mk m)(h':Mk m')(hk:Mk k)(e:xI m k=xI m' k) : m=m':=by
 obtain ⟨x,hx,rfl⟩:=h.nat;obtain ⟨x',hx',rfl⟩:=h'.nat;obtain ⟨z,hz,rfl⟩:=hk.nat
 unfold xI at e
 rw [X1f (X0u hx) (X0u hz),X1f (X0u hx') (X0u hz)] at e
 have e:x ^^^ z=x' ^^^ z:=by omega
 have:x=x':=by
  have h2:=congrArg (· ^^^ z) e
  simp only [Nat.xor_assoc,Nat.xor_self,Nat.xor_zero] at h2
  exact h2
 rw [this]
theorem DI.step{y:Nat}{pre:List Tm}{s:Ar}{t:Tm}(h:DI y pre s)(hy:y<24)(ht:Mk t.m)(hpre:∀ u ∈ pre,Mk u.m∧u.m≠t.m)(hpl:(arStep y s t).pl=true) : DI y (pre++[t]) (arStep y s t):=by
 have hr:=ht.xor (X3h hy)
 unfold arStep at hpl ⊢
 cases e:bitQ y t.m
 ·rw [if_neg (by decide)]
  refine ⟨?_,fun i hi hb=>?_,fun a=>?_,h.mz⟩
  ·rcases h.c with h1|⟨u,hu,h1⟩
   ·exact .inl h1
   ·exact .inr ⟨u,List.mem_append_left _ hu,h1⟩
  ·obtain ⟨u,hu,h1⟩:=h.z i hi hb;exact ⟨u,List.mem_append_left _ hu,h1⟩
  ·rw [Xhf,e]
   simp only [Bool.false_eq_true,if_false,Int.add_zero]
   exact h.d a
 ·rw [e,if_pos rfl] at hpl
  rw [if_pos rfl]
  have hdr:drI y t.m=drI y (xI t.m (pw y)):=(Xah ht hy).symm
  by_cases h0:szI (xI t.m (pw y))=0
  ·rw [if_pos h0]
   have hx0:=(X8q hr).1 h0
   have htm:t.m=pw y:=by
    have:xI t.m (pw y)=xI (pw y) (pw y):=by
     rw [hx0]
     unfold xI pw
     rw [X1f (X3q (by omega)) (X3q (by omega)),Nat.xor_self];rfl
    exact Xms ht (X3h hy) (X3h hy) this
   have hc0:s.c=0:=by
    rcases h.c with h1|⟨u,hu,h1⟩
    ·exact h1
    ·exact absurd (h1.trans htm.symm) (hpre u hu).2
   refine ⟨.inr ⟨t,by simp,htm⟩,fun i hi hb=>?_,fun a=>?_,h.mz⟩
   ·obtain ⟨u,hu,h1⟩:=h.z i hi hb;exact ⟨u,List.mem_append_left _ hu,h1⟩
   ·rw [Xhf,e,if_pos rfl,hdr,hx0,X2q,sub_zero]
    obtain ⟨q,hq⟩:=h.d a;exact ⟨q,by show dY y a pre+t.c*1=t.c+4*(numB a (drI y s.z) : Int)+8*q;rw [hq,hc0];omega⟩
  ·rw [if_neg h0] at hpl ⊢
   by_cases h1:szI (xI t.m (pw y))=1
   ·rw [if_pos h1] at hpl ⊢
    have h4:t.c=4:=by
     have:(s.pl&&t.c==4)=true:=hpl
     rw [Bool.and_eq_true] at this
     exact eq_of_beq this.2
    obtain ⟨i,hi,hri⟩:=Xt8 hr h1
    have hiy:i≠y:=fun e2=>by
     have:=(Nb.off ht hy e).2
     rw [show ((2^y:Nat) : Int)=pw y from rfl,hri,e2,X1s,Nat.testBit_two_pow_self] at this
     cases this
    have hzi:bitQ i s.z=false:=by
     cases e2:bitQ i s.z with
     | false=>rfl
     | true=>
      obtain ⟨u,hu,h2,h3⟩:=h.z i hi e2;exact absurd (Xms (hpre u hu).1 ht (X3h hy) (h2.trans hri.symm)) (hpre u hu).2
    obtain ⟨z,hz,ez⟩:=h.mz.nat
    refine ⟨?_,fun j hj hb=>?_,fun a=>?_,h.mz.or hr⟩
    ·rcases h.c with h1|⟨u,hu,h1⟩
     ·exact .inl h1
     ·exact .inr ⟨u,List.mem_append_left _ hu,h1⟩
    ·by_cases hji:j=i
     ·subst hji
      exact ⟨t,by simp,hri,e⟩
     ·have hb':bitQ j s.z=true:=by
       have hb:bitQ j (oI s.z (xI t.m (pw y)))=true:=hb
       rw [hri,ez] at hb
       unfold oI at hb
       rw [X26 (X0u hz) (X3q (by omega)),X1s,Nat.testBit_or,Nat.testBit_two_pow,decide_eq_false (fun h=>hji h.symm),Bool.or_false] at hb
       rw [ez,X1s];exact hb
      obtain ⟨u,hu,h2⟩:=h.z j hj hb';exact ⟨u,List.mem_append_left _ hu,h2⟩
    ·rw [Xhf,e,if_pos rfl,hdr,h4]
     show Cg _ (s.c+4*(numB a (drI y (oI s.z (xI t.m (pw y)))) : Int))
     rw [Xn5 h.mz hr,hri,X1q,Xe5 hiy]
     have hs24:shN y i<24:=by unfold shN;split<;>omega
     have hn:numB a (oI (drI y s.z) ((2^shN y i:Nat) : Int))=numB a (drI y s.z)+numB a ((2^shN y i:Nat) : Int):=by
      rw [ez,X1q]
      refine Xnq a (X0u (Xaw hz)) (X3q (by omega)) fun j hj=>?_
      rw [Nat.testBit_two_pow]
      refine decide_eq_false fun e2=>?_
      rw [← e2,X2c] at hj
      rw [ez,X1s] at hzi
      unfold shN at hj
      by_cases hlt:i<y
      ·rw [if_pos hlt,if_pos hlt,hzi] at hj;cases hj
      ·rw [if_neg hlt,if_neg (by omega),show i-1+1=i from by omega,hzi] at hj;cases hj
     have hp:=Xs1 a (k:=shN y i) (by omega)
     obtain ⟨q,hq⟩:=h.d a
     refine ⟨q,?_⟩
     rw [hn,hq]
     omega
   ·rw [if_neg h1] at hpl
    cases hpl
theorem DI.fold{y:Nat}(hy:y<24) : ∀ (l pre:List Tm) {s:Ar},DI y pre s→(∀ t ∈ l,Mk t.m)→(∀ t ∈ pre,Mk t.m)→Rise (pre++l)→(l.foldl (arStep y) s).pl=true→DI y (pre++l) (l.foldl (arStep y) s)
 | [],pre,s,h,_,_,_,_=>by rw [List.append_nil];exact h
 | t::l,pre,s,h,hl,hp,hR,hpl=>by
  have h1:(arStep y s t).pl=true:=by
   cases e:(arStep y s t).pl with
   | true=>rfl
   | false=>have:=Xos y l _ e;rw [List.foldl_cons] at hpl;rw [this] at hpl;cases hpl
  have hR':=hR
  unfold Rise at hR
  rw [List.pairwise_append] at hR
  have:=DI.fold hy l (pre++[t]) (h.step hy (hl t (by simp)) (fun u hu=>⟨hp u hu,by have:=hR.2.2 u hu t (by simp);omega⟩) h1) (fun x hx=>hl x (by simp [hx]))
   (fun x hx=>by
    rcases List.mem_append.1 hx with h|h
    ·exact hp x h
    ·rw [List.mem_singleton.1 h];exact hl t (by simp)) (by rw [List.append_assoc];exact hR') hpl
  rw [List.append_assoc] at this
  exact this
theorem Xps{y:Nat}{ts:List Tm}(hy:y<24)(h:OkT ts)(hpl:(arF y ts).pl=true) : DI y ts (arF y ts):=
 DI.fold hy ts [] (s:=ar0) ⟨.inl rfl,fun i _ hb=>by
  have:(0:Int).toNat.testBit i=true:=hb
  simp at this,fun a=>by
   show Cg 0 (0+4*(numB a (drI y 0) : Int))
   rw [X2q]
   have:numB a 0=0:=by
    unfold numB
    rw [List.countP_eq_zero]
    intro i _
    simp
   rw [this];exact Cg.refl _,Mk.zero⟩ h.mks (fun t ht=>by cases ht) h.rise hpl
theorem Xzy{y:Nat}{ts:List Tm}(hy:y<24)(h:OkT ts)(hpl:(arF y ts).pl=true)(a:Nat→Bool) : Cg (dY y a ts) ((arF y ts).c+4*(numB a (drI y (arF y ts).z) : Int)):=
 (Xps hy h hpl).d a
theorem Xj8{N:Nat}{m:Int}{a b:Nat→Bool}(h:Lt N m)(hab:∀ i,i<N→a i=b i) : subI a m=subI b m:=by
 obtain ⟨M,hM,rfl⟩:=h.1.nat
 have hlt:M<2^N:=Int.ofNat_lt.1 h.2
 unfold subI
 have e:(fun j=>!((M:Int)).toNat.testBit j||a j)=(fun j=>!((M:Int)).toNat.testBit j||b j):=by
  funext j
  rw [Int.toNat_natCast]
  rcases Nat.lt_or_ge j N with h'|h'
  ·rw [hab j h']
  ·rw [Nat.testBit_lt_two_pow (Nat.lt_of_lt_of_le hlt (Nat.pow_le_pow_right (by decide) h'))];simp
 rw [e]
theorem Xdm{N:Nat}{m:Int}{a b:Nat→Bool}(h:Lt N m)(hab:∀ i,i<N→a i=b i) : numB a m=numB b m:=by
 obtain ⟨M,hM,rfl⟩:=h.1.nat
 have hlt:M<2^N:=Int.ofNat_lt.1 h.2
 unfold numB
 congr 1
 funext j
 rw [Int.toNat_natCast]
 rcases Nat.lt_or_ge j N with h'|h'
 ·rw [hab j h']
 ·rw [Nat.testBit_lt_two_pow (Nat.lt_of_lt_of_le hlt (Nat.pow_le_pow_right (by decide) h'))];simp
theorem Xfq{p:Ps}{N:Nat}(ht:∀ t ∈ p.ts,Lt N t.m)(ho:∀ u ∈ p.out,Lt N u.m)(w:St)(x:Nat→Bool){a b:Nat→Bool}(hab:∀ i,i<N→a i=b i) : semF p w x a=semF p w x b:=by
 unfold semF
 have h1:evL a (sm p.ts)=evL b (sm p.ts):=by
  unfold evL
  refine congrArg List.sum (List.map_congr_left fun q hq=>?_)
  obtain ⟨t,h1,rfl⟩:=List.mem_map.1 hq
  rw [show subI a (t.m,t.c).1=subI b (t.m,t.c).1 from Xj8 (ht t h1) hab]
 have h2:affs p.ins.toNat p.out a x=affs p.ins.toNat p.out b x:=by
  funext q
  unfold affs
  have:avI a (aAt p.out q)=avI b (aAt p.out q):=by
   unfold avI
   rw [Xdm (Lt.at ho q) hab]
  rw [this]
 rw [h1,h2]
theorem X8z{n:Nat}(c:Rg) : ∀ (k:Nat) {F:St},∀ a,sumB n k (fun b=>c*F b) a=c*sumB n k F a
 | 0,_,_=>rfl
 | k+1,F,a=>by
  show sumB n k (fun b=>c*F (upB b (n+k) false)+c*F (upB b (n+k) true)) a=_
  rw [X2l k (G:=fun b=>c*(F (upB b (n+k) false)+F (upB b (n+k) true))) fun b=>(X0e _ _ _).symm]
  exact X8z c k a
theorem Xxz{q:Ps}{k1 k z:Int}(ht:∀ t ∈ q.ts,Mk t.m)(hz:Mk z)(w:St)(x a:Nat→Bool) : semF (omR q k1 k z) w x a=omZ (k1+k*avI a ⟨z,0⟩)*semF q w x a:=by
 unfold semF
 have h1:Cg ((omR q k1 k z).phase+evL a (sm (omR q k1 k z).ts)) ((k1+k*avI a ⟨z,0⟩)+(q.phase+evL a (sm q.ts))):=by
  show Cg (evP (expP (padd (foldA (sm q.ts) (cPh q.phase)) 0 k1) k ⟨z,0⟩ 0) a) _
  refine (Xds (u:=⟨z,0⟩) ⟨hz,.inl rfl⟩ Mk.zero).trans ?_
  rw [sub_zero,Int.one_mul]
  refine ((X89 Mk.zero).add (Cg.refl _)).trans ?_
  rw [sub_zero]
  refine (((X4p (sm q.ts) (fun p hp=>by
   obtain ⟨t,h1,rfl⟩:=List.mem_map.1 hp
   exact ht t h1)).add (Cg.refl _)).add (Cg.refl _)).trans (Cg.of ?_)
  rw [Xk9]
  omega
 rw [X5x h1,X69,Xa]
 rfl
theorem Xjf(b:Int)(hb:b=0∨b=1) : 1+omZ (2+4*b)=s2*omZ (1+6*b)∧1+omZ (6+4*b)=s2*omZ (7+2*b):=by
 rcases hb with rfl|rfl<;>decide
theorem Xi6(c:Int)(n:Nat) : omZ (c+4*(n:Int))=omZ (c+4*((n:Int) % 2)):=X5x ⟨(n:Int)/2,by omega⟩
section
variable {p : Ps} {y : Nat} (h : VPs p) (hy : p.ins.toNat ≤ y ∧ y < p.ins.toNat + p.vars.toNat) (ho : outB y p.out = false)
include h hy ho
theorem y24:y<24:=by have:=h.ins;have:=h.vars;omega
theorem Xmj:∀ t ∈ p.ts,Lt (p.ins.toNat+p.vars.toNat) t.m:=fun t ht=>⟨h.ts.mks t ht,by
 have:=h.tb t ht
 have e:(p.ins+p.vars).toNat=p.ins.toNat+p.vars.toNat:=by have:=h.ins;have:=h.vars;omega
 rw [e] at this
 exact this⟩
theorem Xny:∀ u ∈ p.out,Lt (p.ins.toNat+p.vars.toNat) u.m:=fun u hu=>⟨(h.out u hu).1.1,by
 have:=(h.out u hu).2
 have e:(p.ins+p.vars).toNat=p.ins.toNat+p.vars.toNat:=by have:=h.ins;have:=h.vars;omega
 rw [e] at this
 exact this⟩
theorem Xh6:∀ u ∈ p.out,AO u:=fun u hu=>(h.out u hu).1
theorem Xdb(w:St)(x a:Nat→Bool) : semF (repP p y afZ) w x a=semF p w x (lift y a false):=by
 rw [Xja h.ts.mks (Xh6 h hy ho) (y24 h hy ho) AO.z (by show (0:Int).toNat.testBit y=false;simp)]
 have:avI a (dA y afZ)=0:=by
  unfold dA avI
  show ((numB a (drI y 0) : Int)+0) % 2=0
  rw [X2q]
  have:numB a 0=0:=by
   unfold numB
   rw [List.countP_eq_zero]
   intro i _
   simp
  rw [this];rfl
 rw [this];rfl
theorem Xpy(hpl:(arF y p.ts).pl=true)(w:St)(x a:Nat→Bool) :
  semF p w x (lift y a true)=omZ ((arF y p.ts).c+4*(numB a (drI y (arF y p.ts).z) : Int))*semF p w x (lift y a false):=by
 have hy24:=y24 h hy ho
 unfold semF
 have h1:affs p.ins.toNat p.out (lift y a true) x=affs p.ins.toNat p.out (lift y a false) x:=by
  funext q
  unfold affs
  have hb:∀ u ∈ p.out,bitQ y u.m=false:=fun u hu=>by
   unfold outB at ho
   rw [List.any_eq_false] at ho
   simpa using ho u hu
  have hA:∀ i:Int,bitQ y (aAt p.out i).m=false:=fun i=>by
   unfold aAt
   rw [List.getD_eq_getElem?_getD]
   cases e:p.out[i.toNat]? with
   | none=>show (0:Int).toNat.testBit y=false;simp
   | some u=>exact hb u (List.mem_of_getElem? e)
  rw [Xel a true (AO.at (Xh6 h hy ho) q).1 hy24,Xel a false (AO.at (Xh6 h hy ho) q).1 hy24,hA]
  rfl
 rw [h1,Xvc a p.ts h.ts.mks,← Xa,← X69]
 congr 1
 refine X5x ?_
 refine ((Cg.refl p.phase).add ((Cg.refl _).add (Xzy hy24 h.ts hpl a))).trans (Cg.of ?_)
 omega
theorem Xdq(hpl:(arF y p.ts).pl=true)(w:St)(x:Nat→Bool) :
  semP p w x=sumB p.ins.toNat (p.vars.toNat-1) (fun a=>(1+omZ ((arF y p.ts).c+4*(numB a (drI y (arF y p.ts).z) : Int)))*semF (repP p y afZ) w x a) x:=by
 rw [Xha]
 obtain ⟨k,hk⟩ : ∃ k,p.vars.toNat=k+1:=⟨p.vars.toNat-1,by omega⟩
 rw [hk,Xb3 k (F:=semF p w x) hy.1 (by omega) (fun a b hab=>Xfq (Xmj h hy ho) (Xny h hy ho) w x (by rw [hk];exact hab)) x,Nat.add_sub_cancel]
 refine X2l k (fun a=>?_) x
 rw [Xpy h hy ho hpl,Xdb h hy ho,X0t,Xg]
end
def SemR(p q:Ps) : Prop:=q.ins=p.ins∧∃ d:Nat,p.root=q.root+d∧∀ w x,semP p w x=s2^d*semP q w x
theorem SemR.refl(p:Ps) : SemR p p:=⟨rfl,0,by omega,fun w x=>by rw [X8d,Xg]⟩
theorem SemR.trans{p q r:Ps}(h:SemR p q)(k:SemR q r) : SemR p r:=by
 obtain ⟨h0,d,h1,h2⟩:=h;obtain ⟨k0,e,k1,k2⟩:=k;exact ⟨k0.trans h0,d+e,by omega,fun w x=>by rw [h2,k2,X29,Xa]⟩
theorem Xvn{ins:Int}{s:Ar}(h:ruK ins s≠0) : s.pl=true:=by
 unfold ruK at h
 cases e:s.pl with
 | true=>rfl
 | false=>rw [if_pos e] at h;exact absurd rfl h
theorem Xo6(z:Rg) : s2^2*z=(1+1)*z:=by
 rw [show s2^2=(1+1:Rg) from by decide]
theorem nobts{p:Ps}{y:Nat}(h:VPs p)(ho:outB y p.out=false) : repP p y afZ=⟨p.ins,p.vars-1,p.root,p.phase,(nob y p.ts).map (dT y),p.out.map (dA y)⟩:=
 X7h h.ph h.ts (X72 h ho)
theorem Xmd{p:Ps}{y:Nat}(h:VPs p)(ho:outB y p.out=false) : ∀ t ∈ (repP p y afZ).ts,Mk t.m:=fun t ht=>by
 rw [nobts h ho] at ht
 obtain ⟨u,hu,rfl⟩:=List.mem_map.1 ht;exact (h.ts.mks u (List.mem_filter.1 hu).1).dr
theorem Xw0{p:Ps}{y:Nat}(h:VPs p)(ho:outB y p.out=false) : ∀ t ∈ (repP p y afZ).out,AO t:=fun t ht=>by
 rw [nobts h ho] at ht
 obtain ⟨u,hu,rfl⟩:=List.mem_map.1 ht;exact Xu9 (h.out u hu).1
theorem Xnu{N y:Nat}{a b:Nat→Bool}(c:Bool)(hab:∀ i,i<N→a i=b i) : ∀ i,i<N+1→y≤N→lift y a c i=lift y b c i:=fun i hi hy=>by
 rcases Nat.lt_trichotomy i y with h1|h1|h1
 ·rw [X4b a _ h1,X4b b _ h1];exact hab i (by omega)
 ·subst h1;rw [X48,X48]
 ·obtain ⟨j,rfl⟩ : ∃ j,i=j+1:=⟨i-1,by omega⟩
  rw [X6a a _ (by omega),X6a b _ (by omega)];exact hab j (by omega)
theorem Xvz{p:Ps}{y:Nat}(h:VPs p)(hy:p.ins.toNat≤y∧y<p.ins.toNat+p.vars.toNat)(ho:outB y p.out=false)(hpl:(arF y p.ts).pl=true)(i:Nat)(hb:bitQ i (arF y p.ts).z=true) : i<p.ins.toNat+p.vars.toNat:=by
 have hy24:=y24 h hy ho;have hD:=Xps hy24 h.ts hpl;obtain ⟨z,hz,ez⟩:=hD.mz.nat
 have hi:i<24:=by
  rcases Nat.lt_or_ge i 24 with h'|h'
  ·exact h'
  ·rw [ez,X1s,Nat.testBit_lt_two_pow (Nat.lt_of_lt_of_le hz (Nat.pow_le_pow_right (by decide) h'))] at hb;cases hb
 obtain ⟨t,ht,h1,_⟩:=hD.z i hi hb
 have hpw:Lt (p.ins.toNat+p.vars.toNat) (pw y):=⟨X3h hy24,Int.ofNat_lt.2 (Nat.pow_lt_pow_right (by decide) hy.2)⟩
 have:=(Lt.xor (Xmj h hy ho t ht) hpw).2
 rw [h1] at this
 exact (Nat.pow_lt_pow_iff_right (by decide)).1 (Int.ofNat_lt.1 this)
theorem Xym{y N:Nat}{z:Int}(hz:Mk z)(hy:y<N+1)(h:∀ i,bitQ i z=true→i<N+1) : Lt N (drI y z):=by
 refine ⟨hz.dr,?_⟩
 obtain ⟨x,hx,rfl⟩:=hz.nat
 rw [X1q]
 refine Int.ofNat_lt.2 (Nat.lt_pow_two_of_testBit _ fun i hi=>?_)
 rw [X2c]
 split
 ·omega
 ·cases e:x.testBit (i+1) with
  | false=>rfl
  | true=>have:=h (i+1) e;omega
theorem Xml{p:Ps}{y:Nat}(h:VPs p)(hy:p.ins.toNat≤y∧y<p.ins.toNat+p.vars.toNat)(hr:(ruR p y).1≠0)(hv:0≤(outR p y).vars) : SemR p (outR p y):=by
 have ho:outB y p.out=false:=by
  unfold ruR at hr
  cases e:outB y p.out with
  | false=>rfl
  | true=>rw [e] at hr;exact absurd rfl hr
 have hk:ruK p.ins (arF y p.ts)≠0:=by
  unfold ruR at hr
  rw [ho,if_neg (by decide)] at hr
  intro e
  rw [if_pos e] at hr
  exact hr rfl
 have hpl:=Xvn hk;have hy24:=y24 h hy ho;have hvars:=h.vars;have hNb:=Xer hy24 h.ts
 by_cases k1:ruK p.ins (arF y p.ts)=1
 ·have e:outR p y=rqZ p y 2:=by unfold outR;rw [if_pos k1]
  rw [e]
  refine ⟨rfl,2,by show p.root=p.root-2+2;omega,fun w x=>?_⟩
  have hcz:(arF y p.ts).c=0∧(arF y p.ts).z=0:=by
   unfold ruK at k1
   rw [if_neg (by rw [hpl];decide)] at k1
   by_cases e:(arF y p.ts).c=0∧(arF y p.ts).z=0
   ·exact e
   ·rw [if_neg e] at k1
    split at k1
    ·cases k1
    ·split at k1<;>cases k1
  rw [Xdq h hy ho hpl,hcz.1,hcz.2,X2q,Xo6,← show sumB p.ins.toNat (p.vars.toNat-1) (semF (repP p y afZ) w x) x=semP (rqZ p y 2) w x from by
   show _=sumB p.ins.toNat (p.vars-1).toNat (semF (repP p y afZ) w x) x
   rw [show (p.vars-1).toNat=p.vars.toNat-1 from by omega],← X8z]
  refine X2l _ (fun a=>?_) x
  have:numB a 0=0:=by
   unfold numB
   rw [List.countP_eq_zero]
   intro i _
   simp
  rw [this];rfl
 ·by_cases k2:ruK p.ins (arF y p.ts)=2
  ·have e:outR p y=omR (rqZ p y 1) (if (arF y p.ts).c=2 then 1 else 7) (if (arF y p.ts).c=2 then 6 else 2) (drI y (arF y p.ts).z):=by
    unfold outR;rw [if_neg k1,if_pos k2]
   rw [e]
   refine ⟨rfl,1,by show p.root=p.root-1+1;omega,fun w x=>?_⟩
   have hc:(arF y p.ts).c=2∨(arF y p.ts).c=6:=by
    unfold ruK at k2
    rw [if_neg (by rw [hpl];decide)] at k2
    split at k2
    ·cases k2
    ·split at k2
     ·assumption
     ·split at k2<;>cases k2
   rw [Xdq h hy ho hpl,show s2^1=s2 from by decide,Xha]
   show _=s2*sumB p.ins.toNat (p.vars-1).toNat _ x
   rw [show (p.vars-1).toNat=p.vars.toNat-1 from by omega,← X8z]
   refine X2l _ (fun a=>?_) x
   rw [Xxz (q:=rqZ p y 1) (Xmd h ho) hNb.1.dr]
   have hs:semF (rqZ p y 1) w x a=semF (repP p y afZ) w x a:=rfl
   rw [hs,← Xa,Xi6]
   congr 1
   have hav:avI a ⟨drI y (arF y p.ts).z,0⟩=(numB a (drI y (arF y p.ts).z) : Int) % 2:=by unfold avI;rw [Int.add_zero]
   rw [hav]
   have h01:(numB a (drI y (arF y p.ts).z) : Int) % 2=0∨(numB a (drI y (arF y p.ts).z) : Int) % 2=1:=by omega
   rcases hc with e|e<;>rw [e]
   ·rw [if_pos rfl,if_pos rfl];exact (Xjf _ h01).1
   ·rw [if_neg (by decide),if_neg (by decide)];exact (Xjf _ h01).2
  ·have k3:(ruK p.ins (arF y p.ts)=3∧((arF y p.ts).c=0∨(arF y p.ts).c=4))∧0<(arF y p.ts).z/2^p.ins.toNat:=by
    revert hk k1 k2
    unfold ruK
    rw [if_neg (by rw [hpl];decide)]
    split
    ·intro _ h;exact absurd rfl h
    ·split
     ·intro _ _ h;exact absurd rfl h
     ·split
      ·rename_i h;intro _ _ _;exact ⟨⟨rfl,h.1⟩,h.2⟩
      ·intro h;exact absurd rfl h
   have e:outR p y=repP (rqZ p y 2) (vR p y) ⟨xI (drI y (arF y p.ts).z) (pw (vR p y)),(arF y p.ts).c/4⟩:=by
    unfold outR;rw [if_neg k1,if_neg k2]
   rw [e] at hv ⊢
   have hv2:2≤p.vars:=by
    have:(repP (rqZ p y 2) (vR p y) ⟨xI (drI y (arF y p.ts).z) (pw (vR p y)),(arF y p.ts).c/4⟩).vars=p.vars-1-1:=rfl
    omega
   refine ⟨rfl,2,by show p.root=p.root-2+2;omega,fun w x=>?_⟩
   obtain ⟨l1,l2,l3,l4,l5⟩:=Xdx h ⟨hy.1,hy24⟩ ho k3.2
   have hvn:p.ins.toNat≤vR p y:=Nat.le_add_left _ _
   have hu:AO ⟨xI (drI y (arF y p.ts).z) (pw (vR p y)),(arF y p.ts).c/4⟩:=⟨l5.1,by rcases k3.1.2 with e|e<;>rw [e];exact .inl rfl;exact .inr rfl⟩
   have hzb:bitQ (vR p y) (drI y (arF y p.ts).z)=true:=by
    obtain ⟨z,hz,ez⟩:=hNb.1.dr (v:=y).nat;have h5:=l5.2
    rw [ez] at h5 ⊢
    unfold xI pw at h5
    rw [X1f (X0u hz) (X3q (by omega)),X1s,Nat.testBit_xor,Nat.testBit_two_pow_self] at h5
    rw [X1s]
    revert h5
    cases z.testBit (vR p y)<;>simp
   obtain ⟨k,hk'⟩ : ∃ k,p.vars.toNat=k+2:=⟨p.vars.toNat-2,by omega⟩
   have hzL:Lt (p.ins.toNat+k+1) (drI y (arF y p.ts).z):=Xym hNb.1 (by omega) fun i hi=>by
    have:=Xvz h hy ho hpl i hi
    omega
   have hvk:vR p y≤p.ins.toNat+k:=by
    rcases Nat.lt_or_ge (p.ins.toNat+k) (vR p y) with h'|h'
    ·obtain ⟨z,hz,ez⟩:=hzL.1.nat;have hlt:=hzL.2
     rw [ez] at hlt hzb
     rw [X1s,Nat.testBit_lt_two_pow (Nat.lt_of_lt_of_le (Int.ofNat_lt.1 hlt) (Nat.pow_le_pow_right (by decide) h'))] at hzb;cases hzb
    ·exact h'
   rw [Xdq h hy ho hpl,hk',show k+2-1=k+1 from rfl,Xb3 k hvn hvk (fun a b hab=>by
    rw [Xdm hzL hab,Xdb h hy ho,Xdb h hy ho,Xfq (Xmj h hy ho) (Xny h hy ho) w x (fun i hi=>Xnu (y:=y) false hab i (by omega) (by omega))]) x,Xo6,Xha]
   show _=(1+1)*sumB p.ins.toNat (p.vars-1-1).toNat _ x
   rw [show (p.vars-1-1).toNat=k from by omega,← X8z]
   refine X2l _ (fun b=>?_) x
   rw [Xja (p:=rqZ p y 2) (Xmd h ho) (Xw0 h ho) l2 hu l5.2]
   have hs:∀ a,semF (rqZ p y 2) w x a=semF (repP p y afZ) w x a:=fun a=>rfl
   rw [hs]
   have hd:drI (vR p y) (xI (drI y (arF y p.ts).z) (pw (vR p y)))=drI (vR p y) (drI y (arF y p.ts).z):=Xah hNb.1.dr l2
   have hβ:avI b (dA (vR p y) ⟨xI (drI y (arF y p.ts).z) (pw (vR p y)),(arF y p.ts).c/4⟩)=((numB b (drI (vR p y) (drI y (arF y p.ts).z)) : Int)+(arF y p.ts).c/4) % 2:=by
    unfold avI dA
    simp only
    rw [hd]
   rw [hβ,Xb8 b false hNb.1.dr l2,Xb8 b true hNb.1.dr l2,hzb,Xi6,Xi6]
   generalize numB b (drI (vR p y) (drI y (arF y p.ts).z))=m0
   simp only [Bool.and_false,Bool.and_true,Bool.false_eq_true,if_false,if_true,Nat.add_zero,Int.natCast_add]
   have hm:(m0:Int) % 2=0∨(m0:Int) % 2=1:=by omega
   rcases hm with hm|hm<;>rcases k3.1.2 with hc|hc<;>rw [hc]
   ·rw [show ((m0:Int)+0/4) % 2=0 from by omega,show ((m0:Int)+((1:Nat) : Int)) % 2=1 from by omega,hm,show (1:Rg)+omZ (0+4*0)=1+1 from by decide,show (1:Rg)+omZ (0+4*1)=0 from by decide,Xq,X01];rfl
   ·rw [show ((m0:Int)+4/4) % 2=1 from by omega,show ((m0:Int)+((1:Nat) : Int)) % 2=1 from by omega,hm,show (1:Rg)+omZ (4+4*0)=0 from by decide,show (1:Rg)+omZ (4+4*1)=1+1 from by decide,Xq,X06];rfl
   ·rw [show ((m0:Int)+0/4) % 2=1 from by omega,show ((m0:Int)+((1:Nat) : Int)) % 2=0 from by omega,hm,show (1:Rg)+omZ (0+4*1)=0 from by decide,show (1:Rg)+omZ (0+4*0)=1+1 from by decide,Xq,X06];rfl
   ·rw [show ((m0:Int)+4/4) % 2=0 from by omega,show ((m0:Int)+((1:Nat) : Int)) % 2=0 from by omega,hm,show (1:Rg)+omZ (4+4*1)=1+1 from by decide,show (1:Rg)+omZ (4+4*0)=0 from by decide,Xq,X01];rfl
theorem Xmr{p:Ps}{q:Ps×Int}(hv:validP p=true)(h:nxtP p=some q) : SemR p q.1:=by
 have hq:=X37 h
 unfold nxtP stepP at h
 cases e:firstY p with
 | none=>rw [e] at h;cases h
 | some j=>
  rw [e] at h
  simp only [Option.map_some,Option.bind_some] at h
  split at h
  ·injection h with h
   have hj:j<p.vars.toNat:=List.mem_range.1 (List.mem_of_find?_eq_some e)
   have hne:(ruR p (p.ins.toNat+j)).1≠0:=by
    have:=List.find?_some e
    simpa using this
   rw [← h] at hq ⊢
   exact Xml (VPs.of hv) ⟨by omega,by omega⟩ hne (VPs.of hq.2.1).vars.1
  ·cases h
theorem Xgi:∀ (n:Nat) {p:Ps},validP p=true→SemR p (redN n p).1
 | 0,p,_=>SemR.refl p
 | n+1,p,h=>by
  unfold redN
  cases e:nxtP p with
  | none=>exact SemR.refl p
  | some q=>exact (Xmr h e).trans (Xgi n (X37 e).2.1)
theorem Xno{p:Ps}(h:validP p=true) : SemR p (redP p).1:=Xgi _ h
theorem Xif{n:Nat}{g:Gt}(hg:gOk (n:Int) g=true) : TwoQ g:=fun h=>X5f hg h
theorem Y08(g:Gt)(h:1≤g.k∧g.k≤12) : bkG (bkG g)=g:=by
 obtain ⟨k,a,b⟩:=g
 have h:1≤k∧k≤12:=h
 show (⟨_,a,b⟩ : Gt)=_
 congr 1
 have:k=1∨k=2∨k=3∨k=4∨k=5∨k=6∨k=7∨k=8∨k=9∨k=10∨k=11∨k=12:=by omega
 rcases this with rfl|rfl|rfl|rfl|rfl|rfl|rfl|rfl|rfl|rfl|rfl|rfl<;>rfl
theorem Xp0:(2:Rg)=s2^2:=by decide
theorem Xqd{n:Nat}{g:Gt}(hg:gOk (n:Int) g=true)(v:St) : run (invG g) (act g v)=fun β=>s2^(2*hN g)*v β:=by
 obtain ⟨_,hk,_,_⟩:=X27 hg
 funext β
 unfold invG bkN
 by_cases h12:g.k=12
 ·have hb:bkG g=⟨12,g.a,g.b⟩:=by unfold bkG;rw [h12];rfl
  have h1:hN g=0:=by unfold hN;rw [if_neg (by omega)]
  rw [h1,hb,if_pos h12]
  have a12:∀ w:St,act ⟨12,g.a,g.b⟩ w=fun β=>om*w β:=fun w=>by funext γ;unfold act;rw [if_pos rfl]
  have a12':act g v=fun β=>om*v β:=by funext γ;unfold act;rw [if_pos h12]
  show run (List.replicate 7 _) (act g v) β=_
  simp only [List.replicate,run,a12,a12',← Xa]
  congr 1
 ·rw [if_neg h12]
  show act (bkG g) (act g v) β=_
  rw [Xjr (Xif hg) (by omega)]
  unfold hN
  by_cases h1:g.k=1
  ·rw [if_pos h1,if_pos h1,Xp0]
  ·rw [if_neg h1,if_neg h1];rfl
theorem X93(g:Gt)(gs:List Gt) : invL (g::gs)=invL gs++invG g:=by
 unfold invL
 rw [List.reverse_cons,List.flatMap_append]
 simp
theorem Xj0{n:Nat} : ∀ (gs:List Gt) (v:St),(∀ g ∈ gs,gOk (n:Int) g=true)→run (invL gs) (run gs v)=fun β=>s2^(2*hs gs)*v β
 | [],v,_=>by
  funext β
  show v β=_
  exact (Xg _).symm
 | g::gs,v,h=>by
  rw [X93,Xae]
  show run (invG g) (run (invL gs) (run gs (act g v)))=_
  rw [Xj0 gs (act g v) fun x hx=>h x (by simp [hx]),X5q,Xqd (h g (by simp))]
  funext β
  rw [← Xa,← X29]
  congr 2
  show 2*hs gs+2*hN g=2*(hN g+hs gs)
  omega
theorem Xnt{n:Nat}{g:Gt}(hg:gOk (n:Int) g=true)(v:St) : act g (run (invG g) v)=fun β=>s2^(2*hN g)*v β:=by
 obtain ⟨_,hk,_,_⟩:=X27 hg
 funext β
 unfold invG bkN
 by_cases h12:g.k=12
 ·have hb:bkG g=⟨12,g.a,g.b⟩:=by unfold bkG;rw [h12];rfl
  have h1:hN g=0:=by unfold hN;rw [if_neg (by omega)]
  rw [h1,hb,if_pos h12]
  have a12:∀ w:St,act ⟨12,g.a,g.b⟩ w=fun β=>om*w β:=fun w=>by funext γ;unfold act;rw [if_pos rfl]
  have a12':∀ w:St,act g w=fun β=>om*w β:=fun w=>by funext γ;unfold act;rw [if_pos h12]
  show act g (run (List.replicate 7 _) v) β=_
  simp only [List.replicate,run,a12,a12',← Xa]
  congr 1
 ·rw [if_neg h12]
  show act g (act (bkG g) v) β=_
  have h2:=Xjr (g:=bkG g) (Xif (Xi4 hg)) (by
   have:=Xi4 hg
   obtain ⟨_,hk',_,_⟩:=X27 this
   refine ⟨hk'.1,?_⟩
   rcases Nat.lt_or_ge 0 1 with _|_
   ·rw [Xk7];unfold bkK;split<;>(try split)<;>omega
   ·omega) v β
  rw [Y08 g hk] at h2
  rw [h2]
  unfold hN
  have hk1:(bkG g).k=1↔g.k=1:=by
   rw [Xk7];unfold bkK;split<;>(try split)<;>omega
  by_cases h1:g.k=1
  ·rw [if_pos (hk1.2 h1),if_pos h1,Xp0]
  ·rw [if_neg (fun h=>h1 (hk1.1 h)),if_neg h1];rfl
theorem Xip{n:Nat} : ∀ (gs:List Gt) (v:St),(∀ g ∈ gs,gOk (n:Int) g=true)→run gs (run (invL gs) v)=fun β=>s2^(2*hs gs)*v β
 | [],v,_=>by
  funext β
  show v β=_
  exact (Xg _).symm
 | g::gs,v,h=>by
  rw [X93,Xae]
  show run gs (act g (run (invG g) (run (invL gs) v)))=_
  rw [Xnt (h g (by simp)),X5q,Xip gs v fun x hx=>h x (by simp [hx])]
  funext β
  rw [← Xa,← X29]
  congr 2
  show 2*hN g+2*hs gs=2*(hN g+hs gs)
  omega
theorem Xng{n:Nat} : ∀ gs:List Gt,(∀ g ∈ gs,gOk (n:Int) g=true)→hs (invL gs)=hs gs
 | [],_=>rfl
 | g::gs,h=>by
  rw [X93,Xhx,Xng gs fun x hx=>h x (by simp [hx])]
  have h1:hs (invG g)=hN g:=by
   obtain ⟨_,hk,_,_⟩:=X27 (h g (by simp))
   unfold invG bkN
   by_cases h12:g.k=12
   ·rw [if_pos h12]
    have hb:bkG g=⟨12,g.a,g.b⟩:=by unfold bkG;rw [h12];rfl
    have h1:hN g=0:=by unfold hN;rw [if_neg (by omega)]
    rw [h1,hb];rfl
   ·rw [if_neg h12]
    show hN (bkG g)+0=hN g
    unfold hN
    have hk1:(bkG g).k=1↔g.k=1:=by
     rw [Xk7];unfold bkK;split<;>(try split)<;>omega
    by_cases h1:g.k=1
    ·rw [if_pos (hk1.2 h1),if_pos h1]
    ·rw [if_neg (fun h=>h1 (hk1.1 h)),if_neg h1]
  rw [h1]
  show hs gs+hN g=hN g+hs gs
  omega
theorem Xea{N:Nat} : ∀ (l:List Gt) {f g:St},(∀ x ∈ l,gOk (N:Int) x=true)→(∀ i,i<2^N→f (pt N i)=g (pt N i))→∀ i,i<2^N→run l f (pt N i)=run l g (pt N i)
 | [],f,g,_,h=>h
 | x::l,f,g,hl,h=>fun i hi=>by
  refine Xea l (fun y hy=>hl y (by simp [hy])) (fun j hj=>?_) i hi
  rw [← X68 (hl x (by simp)) hj,← X68 (hl x (by simp)) hj]
  exact X5k _ fun k hk=>by rw [h k hk]
theorem Y1y{n:Nat} : ∀ (l:List Gt) {s t:Pst},psAll n l s=some t→t.v=s.v+hs l
 | [],s,t,e=>by injection e with e;subst e;rfl
 | g::l,s,t,e=>by
  have e:(psStep n s g).bind (psAll n l)=some t:=e
  cases h1:psStep n s g with
  | none=>rw [h1] at e;cases e
  | some u=>
   rw [h1] at e
   have h2:=Y1y l e
   have h3:u.v=s.v+hN g:=by
    unfold psStep at h1
    unfold hN
    split at h1
    ·rename_i hk
     rw [if_pos hk]
     split at h1
     ·cases h1
     ·injection h1 with h1;rw [← h1]
    ·rename_i hk
     rw [if_neg hk]
     repeat' split at h1
     all_goals (injection h1 with h1;rw [← h1];rfl)
   rw [h2,h3]
   show s.v+hN g+hs l=s.v+(hN g+hs l)
   omega
def PhB(N:Nat)(a b:List Gt)(k:Int) : Prop:=∀ i j,i<2^N→j<2^N→s2^hs b*run a (eb N j) (pt N i)=omZ k*(s2^hs a*run b (eb N j) (pt N i))
theorem Xmz{c:Cx}{p:Ps}{n:Nat}(h:cOk c=true)(hn:c.n=(n:Int))(hp:psC c=some p) : p.root=(hs c.gs:Int)∧p.ins=(n:Int):=by
 unfold psC at hp
 rw [hn,Int.toNat_natCast] at hp
 cases e:psAll n c.gs (ps0 n) with
 | none=>rw [e] at hp;cases hp
 | some s=>
  rw [e] at hp
  injection hp with hp
  subst hp
  have:=Y1y c.gs e
  refine ⟨?_,rfl⟩
  show ((s.v:Nat) : Int)=_
  rw [this]
  show (((0:Nat)+hs c.gs:Nat) : Int)=_
  omega
theorem Xun{q:Ps}(hv:q.vars=0)(w:St)(x:Nat→Bool) : semP q w x=omZ (q.phase+evL x (sm q.ts))*w (affs q.ins.toNat q.out x x):=by
 unfold semP
 rw [hv];rfl
theorem Xpo(a:Nat→Bool){k:Nat}(h:k<62) : (avI a (varA k)==1)=a k:=by
 rw [Xee a h]
 cases a k<;>rfl
theorem Xy1{q:Ps}{n:Nat}(hn:q.ins=(n:Int))(hn5:n≤5)(ho:q.out.length=n)(h:idP q=true)(w:St)(x:Nat→Bool) : semP q w x=omZ q.phase*w x:=by
 simp only [idP,Bool.and_eq_true,decide_eq_true_eq] at h
 obtain ⟨⟨⟨h1,h2⟩,h3⟩,h4⟩:=h
 rw [Xun h1,hn,Int.toNat_natCast,show q.ts=[] from List.eq_nil_of_length_eq_zero h2]
 congr 1
 ·rw [show evL x (sm [])=0 from rfl,Int.add_zero]
 ·congr 1
  funext i
  unfold affs
  split
  ·rename_i hi
   have:=List.all_eq_true.1 h4 i (List.mem_range.2 (by omega))
   have:q.out.getD i afZ=varA i:=by simpa using this
   unfold aAt
   rw [Int.toNat_natCast,this,Xpo x (by omega)]
  ·rfl
theorem Xiu{x y:Int}(h:omZ x=omZ y) : x % 8=y % 8:=by
 unfold omZ at h
 have hx:(x % 8).toNat<8:=by omega
 have hy:(y % 8).toNat<8:=by omega
 have:(x % 8).toNat=(y % 8).toNat:=by
  revert h
  generalize (x % 8).toNat=m at *
  generalize (y % 8).toNat=n at *
  have hm:m=0∨m=1∨m=2∨m=3∨m=4∨m=5∨m=6∨m=7:=by omega
  have hn:n=0∨n=1∨n=2∨n=3∨n=4∨n=5∨n=6∨n=7:=by omega
  rcases hm with rfl|rfl|rfl|rfl|rfl|rfl|rfl|rfl<;>rcases hn with rfl|rfl|rfl|rfl|rfl|rfl|rfl|rfl<;>decide
 omega
theorem Xk2{x y:Nat}(h:∀ i,x.testBit i=true→y.testBit i=true) : x≤y:=by
 have:x &&& y=x:=by
  apply Nat.eq_of_testBit_eq
  intro i
  rw [Nat.testBit_and]
  cases e:x.testBit i
  ·rfl
  ·rw [h i e];rfl
 rw [← this]
 exact Nat.and_le_right
theorem Xbf{a:Nat→Bool} : ∀ {L:List Sm},(∀ p ∈ L,subI a p.1=0)→evL a L=0
 | [],_=>rfl
 | p::L,h=>by
  rw [X35,h p (by simp),Int.mul_zero,Xbf fun q hq=>h q (by simp [hq])];rfl
theorem Xk1{a:Nat→Bool}{x:Nat}(hx:x<2^24)(h:subI a (x:Int)≠0) : ∀ i,x.testBit i=true→a i=true:=by
 unfold subI at h
 split at h
 ·rename_i h2
  exact (Xjm hx a).1 h2
 ·exact absurd rfl h
theorem Xs2{ts:List Tm}(h:OkT ts)(hc:∀ γ:Nat→Bool,evL γ (sm ts) % 8=evL (fun _=>false) (sm ts) % 8) : ts=[]:=by
 cases ts with
 | nil=>rfl
 | cons t l=>
  have ht:=h.all t (by simp)
  obtain ⟨x,hx,ex⟩:=(h.mks t (by simp)).nat
  have h0:evL (fun _=>false) (sm (t::l))=0:=Xbf fun p hp=>by
   obtain ⟨u,hu,rfl⟩:=List.mem_map.1 hp;obtain ⟨y,hy,ey⟩:=(h.mks u hu).nat;have hu0:=(h.all u hu).1;refine Classical.byContradiction fun hn=>?_
   have hn:subI (fun _=>false) u.m≠0:=hn
   rw [ey] at hn
   have:=Xk1 hy hn
   have hle:y≤0:=Xk2 fun i hi=>by cases this i hi
   omega
  have h1:evL (fun i=>x.testBit i) (sm (t::l))=t.c:=by
   rw [Xdk,X35,Xbf (L:=sm l) fun p hp=>by
    obtain ⟨u,hu,rfl⟩:=List.mem_map.1 hp
    obtain ⟨y,hy,ey⟩:=(h.mks u (by simp [hu])).nat
    have hlt:t.m<u.m:=(List.pairwise_cons.1 h.rise).1 u hu
    refine Classical.byContradiction fun hn=>?_
    have hn:subI (fun i=>x.testBit i) u.m≠0:=hn
    rw [ey] at hn
    have:=Xk2 (Xk1 hy hn)
    omega]
   have:subI (fun i=>x.testBit i) t.m=1:=by
    rw [ex]
    unfold subI
    exact if_pos ((Xjm hx _).2 fun i hi=>hi)
   show t.c*subI _ t.m+0=t.c
   rw [this,Int.mul_one,Int.add_zero]
  have:=hc fun i=>x.testBit i
  rw [h0,h1] at this
  omega
theorem Xs0{m x:Nat}(hx:x<62) : numB (fun i=>i==x) (m:Int)=if m.testBit x then 1 else 0:=by
 unfold numB
 rw [Int.toNat_natCast]
 have e:(fun i=>m.testBit i&&(fun i=>i==x) i)=fun i=>m.testBit x&&(fun i=>i==x) i:=by
  funext i
  by_cases e:i=x
  ·rw [e]
  ·have:(i==x)=false:=by simpa using e
   show (m.testBit i&&(i==x))=(m.testBit x&&(i==x))
   rw [this,Bool.and_false,Bool.and_false]
 rw [e]
 cases m.testBit x
 ·rw [List.countP_eq_zero.2 (fun i _=>by simp)];rfl
 ·have:(fun i=>true&&(fun i=>i==x) i)=fun i=>(i==x):=by funext i;simp
  rw [this,← List.count_eq_countP',List.count_range,if_pos hx];rfl
theorem Xw9{N i:Nat}{u:Af}(hu:AO u)(hl:Lt N u.m)(hi:i<N)(h24:N≤24)(h:∀ γ:Nat→Bool,(avI γ u==1)=γ i) : u=varA i:=by
 obtain ⟨m,t⟩:=u;obtain ⟨x,hx,ex⟩:=hu.1.nat
 have ex:m=(x:Int):=ex
 subst ex
 have hlt:x<2^N:=Int.ofNat_lt.1 hl.2
 have h0:=h fun _=>false
 have n0:numB (fun _=>false) (x:Int)=0:=by
  unfold numB
  rw [List.countP_eq_zero]
  intro i _
  simp
 have ht:t=0:=by
  unfold avI at h0
  simp only [n0] at h0
  rcases hu.2 with h2|h2
  ·exact h2
  ·have h2:t=1:=h2
   rw [h2] at h0;cases h0
 subst ht
 have hb:∀ y,y<62→x.testBit y=decide (i=y):=fun y hy=>by
  have h1:=h fun j=>j==y
  unfold avI at h1
  simp only [Xs0 hy] at h1
  cases e:x.testBit y
  ·rw [e] at h1
   have h1:(i==y)=false:=h1.symm
   exact (decide_eq_false (ne_of_beq_false h1)).symm
  ·rw [e] at h1
   have h1:(i==y)=true:=h1.symm
   exact (decide_eq_true (eq_of_beq h1)).symm
 unfold varA
 congr 1
 have:x=2^i:=by
  apply Nat.eq_of_testBit_eq
  intro y
  rw [Nat.testBit_two_pow]
  rcases Nat.lt_or_ge y 62 with h'|h'
  ·exact hb y h'
  ·rw [Nat.testBit_lt_two_pow (Nat.lt_of_lt_of_le hlt (Nat.pow_le_pow_right (by decide) (by omega))),decide_eq_false (by omega)]
 rw [this]
section
variable {N : Nat} {a b c : Cx} {p : Ps}
variable (hN : N ≤ 5) (ha : ∀ g ∈ a.gs, gOk (N : Int) g = true) (hb : ∀ g ∈ b.gs, gOk (N : Int) g = true) (hc : c.gs = a.gs ++ invL b.gs) (hcn : c.n = (N : Int)) (hok : cOk c = true) (hp : psC c = some p)
include hN ha hb hc hcn hok hp
theorem Xk8:∀ g ∈ c.gs,gOk (N:Int) g=true:=fun g hg=>by
 have:=(X2o.1 hok).2.2 g hg
 rwa [hcn] at this
theorem Xvy:hs c.gs=hs a.gs+hs b.gs:=by rw [hc,Xhx,Xng b.gs hb]
theorem Xij:∃ d:Nat,(hs a.gs+hs b.gs:Nat)=(redP p).1.root+d∧(redP p).1.ins=(N:Int)∧∀ i j,i<2^N→j<2^N→run (invL b.gs) (run a.gs (eb N j)) (pt N i)=s2^d*semP (redP p).1 (eb N i) (pt N j):=by
 have hv:=X4j hok hp;obtain ⟨h0,d,h1,h2⟩:=Xno hv;obtain ⟨r1,r2⟩:=Xmz hok hcn hp
 refine ⟨d,by rw [← h1,r1,Xvy hN ha hb hc hcn hok hp],by rw [h0,r2],fun i j hi hj=>?_⟩
 rw [← Xae,← hc,Xpq hN (Xk8 hN ha hb hc hcn hok hp) hi hj,← Xr0 hok hp,h2]
theorem Xx1(hid:idP (redP p).1=true) : PhB N a.gs b.gs (redP p).1.phase:=by
 obtain ⟨d,h1,h2,h3⟩:=Xij hN ha hb hc hcn hok hp;have hv:=X4j hok hp;have hV:=VPs.of (X3w hv)
 have hroot:(redP p).1.root=0:=by
  have h:=hid
  simp only [idP,Bool.and_eq_true,decide_eq_true_eq] at h
  exact h.1.2
 have hlen:(redP p).1.out.length=N:=by
  have h:=X3w hv
  simp only [validP,okHd,Bool.and_eq_true,decide_eq_true_eq] at h
  have:=h.1.1.2
  omega
 have hd:d=hs a.gs+hs b.gs:=by omega
 intro i j hi hj
 have key:∀ i,i<2^N→run (invL b.gs) (run a.gs (eb N j)) (pt N i)=(fun β=>(s2^(hs a.gs+hs b.gs)*omZ (redP p).1.phase)*eb N j β) (pt N i):=fun i hi=>by
  rw [h3 i j hi hj,Xy1 h2 hN hlen hid,hd,← Xa]
  simp only
  rw [X6g hN hi hj,X6g hN hj hi]
  congr 1
  by_cases e:i=j
  ·rw [if_pos e,if_pos e.symm]
  ·rw [if_neg e,if_neg fun h=>e h.symm]
 have h4:=Xea (f:=run (invL b.gs) (run a.gs (eb N j))) (g:=fun β=>(s2^(hs a.gs+hs b.gs)*omZ (redP p).1.phase)*eb N j β) b.gs hb key i hi
 rw [Xip b.gs _ hb,X5q] at h4
 simp only at h4
 refine X2d (hs b.gs) ?_
 rw [← Xa,← X29,show hs b.gs+hs b.gs=2*hs b.gs from by omega,h4,X29]
 simp only [Xa,Xj,Xv]
theorem Xef{k:Int}(hph:PhB N a.gs b.gs k) : ∀ i j,i<2^N→j<2^N→run (invL b.gs) (run a.gs (eb N j)) (pt N i)=(s2^(hs a.gs+hs b.gs)*omZ k)*eb N j (pt N i):=fun i j hi hj=>by
 refine X2d (hs b.gs) ?_
 have key:∀ i,i<2^N→(fun β=>s2^hs b.gs*run a.gs (eb N j) β) (pt N i)=(fun β=>(omZ k*s2^hs a.gs)*run b.gs (eb N j) β) (pt N i):=fun i hi=>by
  simp only
  rw [hph i j hi hj,Xa]
 have hg:∀ x ∈ invL b.gs,gOk (N:Int) x=true:=fun x hx=>Xk8 hN ha hb hc hcn hok hp x (by rw [hc];exact List.mem_append_right _ hx)
 have h4:=Xea (f:=fun β=>s2^hs b.gs*run a.gs (eb N j) β) (g:=fun β=>(omZ k*s2^hs a.gs)*run b.gs (eb N j) β) (invL b.gs) hg key i hi
 rw [X5q,X5q,Xj0 b.gs _ hb] at h4
 simp only at h4
 rw [h4,X29,show 2*hs b.gs=hs b.gs+hs b.gs from by omega,X29]
 simp only [Xa,Xj,Xv]
theorem Xsl{k k':Int}(h:PhB N a.gs b.gs k)(h':PhB N a.gs b.gs k') : k % 8=k' % 8:=by
 have e:=Xef hN ha hb hc hcn hok hp h 0 0 (Nat.two_pow_pos N) (Nat.two_pow_pos N)
 have e':=Xef hN ha hb hc hcn hok hp h' 0 0 (Nat.two_pow_pos N) (Nat.two_pow_pos N)
 rw [e,X6g hN (Nat.two_pow_pos N) (Nat.two_pow_pos N),if_pos rfl,Xx,Xx] at e'
 exact Xiu (X2d _ e')
theorem Xvt{k:Int}(hvar:(redP p).1.vars=0)(hph:PhB N a.gs b.gs k) : idP (redP p).1=true:=by
 obtain ⟨d,h1,h2,h3⟩:=Xij hN ha hb hc hcn hok hp;have hv:=X4j hok hp;have hV:=VPs.of (X3w hv)
 have hlen:(redP p).1.out.length=N:=by
  have h:=X3w hv
  simp only [validP,okHd,Bool.and_eq_true,decide_eq_true_eq] at h
  have:=h.1.1.2
  omega
 generalize (redP p).1=q at *
 have hm:=Xef hN ha hb hc hcn hok hp hph
 have hS:∀ i j,i<2^N→j<2^N→s2^d*(omZ (q.phase+evL (pt N j) (sm q.ts))*eb N i (affs N q.out (pt N j) (pt N j)))=(s2^(hs a.gs+hs b.gs)*omZ k)*eb N j (pt N i):=fun i j hi hj=>by
  rw [← hm i j hi hj,h3 i j hi hj,Xun hvar,h2,Int.toNat_natCast]
 have hq0:∀ (m:Nat) (z:Int),qN (s2^m*omZ z)=2^m:=fun m z=>by
  rw [Xpa]
  unfold omZ
  have:=Xn0 (z % 8).toNat 1
  rw [Xx] at this
  rw [this]
  show 2^m*1=_
  rw [Int.mul_one]
 have hone:∀ j,j<2^N→eb N j (affs N q.out (pt N j) (pt N j))=1∧d=hs a.gs+hs b.gs∧omZ (q.phase+evL (pt N j) (sm q.ts))=omZ k:=fun j hj=>by
  have h:=hS j j hj hj
  rw [X6g hN hj hj,if_pos rfl,Xx] at h
  have e1:eb N j (affs N q.out (pt N j) (pt N j))=1:=by
   unfold eb at h ⊢
   by_cases e:∀ x,x<N→affs N q.out (pt N j) (pt N j) x=pt N j x
   ·rw [if_pos e]
   ·rw [if_neg e,Xo,Xo] at h
    have:=hq0 (hs a.gs+hs b.gs) k
    rw [← h] at this
    have h0:qN 0=0:=rfl
    rw [h0] at this
    have hpos:(0:Int)<2^(hs a.gs+hs b.gs):=Int.pow_pos (by decide)
    omega
  rw [e1,Xx] at h
  have hd:d=hs a.gs+hs b.gs:=by
   have hq:=congrArg qN h
   rw [hq0,hq0] at hq
   have hq':(2:Nat)^d=2^(hs a.gs+hs b.gs):=by exact_mod_cast hq
   exact (Nat.pow_right_inj (by decide)).1 hq'
  refine ⟨e1,hd,?_⟩
  rw [hd] at h
  exact X2d _ h
 have hLt:∀ t ∈ q.ts,Lt N t.m:=fun t ht=>⟨hV.ts.mks t ht,by
  have:=hV.tb t ht
  rw [hvar,h2,Int.add_zero,Int.toNat_natCast] at this
  exact this⟩
 have hLo:∀ u ∈ q.out,Lt N u.m:=fun u hu=>⟨(hV.out u hu).1.1,by
  have:=(hV.out u hu).2
  rw [hvar,h2,Int.add_zero,Int.toNat_natCast] at this
  exact this⟩
 have hEv:∀ γ:Nat→Bool,(q.phase+evL γ (sm q.ts)) % 8=k % 8:=fun γ=>by
  obtain ⟨j,hj,hb'⟩:=Xoj hN γ
  have e:evL γ (sm q.ts)=evL (pt N j) (sm q.ts):=by
   unfold evL
   refine congrArg List.sum (List.map_congr_left fun r hr=>?_)
   obtain ⟨t,h1,rfl⟩:=List.mem_map.1 hr
   rw [show subI γ (t.m,t.c).1=subI (pt N j) (t.m,t.c).1 from Xj8 (hLt t h1) fun i hi=>(hb' i hi).symm]
  rw [e]
  exact Xiu (hone j hj).2.2
 have hts:q.ts=[]:=Xs2 hV.ts fun γ=>by
  have h5:=hEv γ
  have h6:=hEv fun _=>false
  omega
 have hout:∀ i,i<N→q.out.getD i afZ=varA i:=fun i hi=>by
  have hA:AO (aAt q.out i):=AO.at (fun u hu=>(hV.out u hu).1) i
  have:=Xw9 hA (Lt.at hLo i) hi (by omega) fun γ=>by
   obtain ⟨j,hj,hb'⟩:=Xoj hN γ;have h7:=(hone j hj).1
   unfold eb at h7
   split at h7
   ·rename_i h8
    have h9:=h8 i hi
    rw [X79 hi] at h9
    rw [← hb' i hi,← h9]
    have e:avI γ (aAt q.out i)=avI (pt N j) (aAt q.out i):=by
     unfold avI
     rw [Xdm (Lt.at hLo i) fun x hx=>(hb' x hx).symm]
    rw [e]
   ·cases h7
  unfold aAt at this
  rw [Int.toNat_natCast] at this
  exact this
 have hroot:q.root=0:=by
  have:=(hone 0 (Nat.two_pow_pos N)).2.1
  omega
 simp only [idP,Bool.and_eq_true,decide_eq_true_eq]
 refine ⟨⟨⟨hvar,by rw [hts];rfl⟩,hroot⟩,List.all_eq_true.2 fun i hi=>?_⟩
 rw [hout i (by rw [← hlen];exact List.mem_range.1 hi)]
 exact decide_eq_true rfl
end
theorem Y0w(w0:World)(bV:Nat){dS:TypeId}(aF:Option Addr)(aN:Nat)(a6:List Int)(g:Rd w0 w0.heap.size dS encU aF a6)(d5:∀ x ∈ a6,0≤x∧x≤255)(aO:AwayR a6 aF bV)(t:Nat)(sd:Int)(D:Blk w0 bV 69 [.slice aF a6.length aN,vi (t:Int),.int .u64 sd])(ht:t+100≤100000000) : Ret Tryz.prog 33 [.pointer (some ⟨bV,0,none⟩)] w0 (fun v w=>∃ (c:Cx) (A:Option Addr) (e:Nat) (d:Cx) (B:Option Addr) (f:Nat) (t1:Nat) (s1:Int),v=.tuple #[.agg #[vi c.n,.slice A c.gs.length e],.agg #[vi d.n,.slice B d.gs.length f]]∧((1≤c.n∧c.n≤3)∧d.n=c.n∧c.gs.length≤8∧d.gs.length≤12)∧(t≤t1∧t1≤t+100)∧Own w w0.heap.size 114 3 encG A e c.gs∧Own w w0.heap.size 114 3 encG B f d.gs∧Kept bV w0.heap.size w0 w∧Blk w bV 69 [.slice aF a6.length aN,vi (t1:Int),.int .u64 s1]):=by
 have kL:=D.lt;refine enter Tryz.func33 rfl 72 rfl rfl ?_;intro a hf
 have N:Kept bV w0.heap.size w0 w0:=Kept.refl _ _ _
 refine Zs hf fun _ jN=>?_;refine Zf (X6 (zs:=[vi 0,.slice none 0 0]) X3o rfl) ?_;rintro _ w1 ⟨b4,rfl,i4,p,C⟩;have cQ:=Nat.le_trans N.size i4;have jK:=g.away i4;have D:=D.below p;have g:=g.below p;have N:=ktr N p;refine Zf (X6 (zs:=[vi 0,.slice none 0 0]) X3o rfl) ?_;rintro _ w2 ⟨b6,rfl,i5,p,G⟩
 have jL:b4≠b6:=by have:=C.lt;omega
 have cR:=Nat.le_trans N.size i5;have jM:=g.away i5;have D:=D.below p;have C:=C.below p;have g:=g.below p;have N:=ktr N p;refine Zx jN fun a hf _ jO=>?_;refine Zm rfl<|Zf (Vc (Xu7 _ bV aF aN a6 g.top d5 aO t sd D (by omega)) Xj6) ?_;rintro _ w3 ⟨y,a7,aC,i6,i7,rfl,jP,jQ,i,hK,aG⟩;have i8:=N.size;obtain ⟨wm,hO,hm,p⟩:=hK.mid;clear hm;have q:=D;have C:=C.only hO (Blk.ne C q rfl);have G:=G.only hO (Blk.ne G q rfl);have g:=g.onlyA hO aO;have N:=N.self hO;have C:=C.below p;have G:=G.below p;have g:=g.below p;have N:=ktr N p
 clear q p hO hK;have D:=aG;clear aG
 have i:=i.lower i8;clear i8;refine Zf (X6 (zs:=[vi 0,.slice none 0 0]) X3o rfl) ?_;rintro _ w4 ⟨b10,rfl,eW,p,o⟩
 have i9:b4≠b10:=by have:=C.lt;omega
 have iA:b6≠b10:=by have:=G.lt;omega
 have dU:=Nat.le_trans N.size eW;have iB:=g.away eW;have D:=D.below p;have C:=C.below p;have G:=G.below p;have g:=g.below p;have i:=i.below p;have N:=ktr N p;refine Zo (Vw [vi y.n,.slice a7 y.gs.length aC] X1p o) ?_;rintro _ w5 ⟨U,hb⟩;have q:=o;have D:=D.only U (Blk.ne D q rfl);have C:=C.only U (by omega);have G:=G.only U (by omega);have g:=g.only U dU;have i:=i.onlyT U q rfl;have N:=Kept.only N U dU;have o:=hb;refine Zx jO fun a hf _ iC=>?_;refine Ze (Vn X0m o)<|Zf (Vc (Xur _ y a7 aC i.rd.top (by omega)) Xji) ?_;rintro _ w6 ⟨fK,fL,rfl,E,p⟩;have iD:=i.apart E (Nat.le_refl _);have E:=E.lower N.size;have D:=D.below p;have C:=C.below p;have G:=G.below p;have o:=o.below p;have g:=g.below p;have i:=i.below p;have N:=ktr N p;refine Zf (X6 (zs:=[vi 0,.slice none 0 0]) X3o rfl) ?_;rintro _ w7 ⟨b14,rfl,eX,p,m⟩
 have iE:b4≠b14:=by have:=C.lt;omega
 have iF:b6≠b14:=by have:=G.lt;omega
 have g5:b10≠b14:=by have:=o.lt;omega
 have aB:=Nat.le_trans N.size eX;have iG:=g.away eX;have D:=D.below p;have C:=C.below p;have G:=G.below p;have o:=o.below p;have g:=g.below p;have i:=i.below p;have E:=E.below p;have N:=ktr N p;refine Zo (Vw [vi y.n,.slice fK y.gs.length fL] X1p m) ?_;rintro _ w8 ⟨U,hb⟩;have q:=m;have D:=D.only U (Blk.ne D q rfl);have C:=C.only U (by omega);have G:=G.only U (by omega);have o:=o.only U (by omega);have g:=g.only U aB;have i:=i.onlyT U q rfl;have E:=E.onlyT U q rfl;have N:=Kept.only N U aB;have m:=hb;refine Zx iC fun a hf _ iH=>?_;refine Zm rfl<|Ze (Vd rfl X0x 1)<|Ze (X0 rfl X2h (m.at 1))<|Ze (X1i rfl X0y)<|Ze (Xw rfl rfl (by omega) (by omega)) ?_;refine Zf (Vc (X6v _ bV aF aN a6 g.top d5 aO i6 i7 D ((y.gs.length:Int)+1) (by omega)) X3t) ?_;rintro _ w9 ⟨Q,iI,iJ,rfl,jR,jS,hK,aG⟩;obtain ⟨wm,hO,hm,p⟩:=hK.mid;clear hm;have q:=D;have C:=C.only hO (Blk.ne C q rfl);have G:=G.only hO (Blk.ne G q rfl);have o:=o.only hO (Blk.ne o q rfl);have m:=m.only hO (Blk.ne m q rfl);have g:=g.onlyA hO aO;have i:=i.onlyT hO q rfl;have E:=E.onlyT hO q rfl;have N:=N.self hO;have C:=C.below p;have G:=G.below p;have o:=o.below p;have m:=m.below p;have g:=g.below p;have i:=i.below p;have E:=E.below p;have N:=ktr N p
 clear q p hO hK;have D:=aG;clear aG;refine Za rfl<|Zx iH fun a hf _ iK=>?_;refine Zm rfl<|Ze (Vd rfl X1z 0)<|Ze (X0 rfl X2 (m.at 0))<|Zf (Xd (k:=7) (vs:=[vi 1,vi 2,vi 4,vi 5,vi 7,vi 9,vi 10]) (zs:=[vi 1,vi 2,vi 4,vi 5,vi 7,vi 9,vi 10]) rfl X0r X4x rfl rfl) ?_;rintro _ kP ⟨jT,rfl,eY,p,f3⟩;have jU:=Nat.le_trans N.size eY;have iM:=g.away eY;have D:=D.below p;have C:=C.below p;have G:=G.below p;have o:=o.below p;have m:=m.below p;have g:=g.below p;have i:=i.below p;have E:=E.below p;have N:=ktr N p;refine Zf (Vc (Xn4 _ bV aF aN a6 g.top d5 aO iI iJ D y.n (some ⟨jT,0,none⟩) 7 ([1,2,4,5,7,9,10]) (Rd.of_blk f3 rfl _ f3.lt) (by omega) (by simp) (by simp) (by omega)) Xdc) ?_;rintro _ kQ ⟨u,f7,f8,rfl,jV,jW,hK,aG⟩;obtain ⟨wm,hO,hm,p⟩:=hK.mid;clear hm;have q:=D;have C:=C.only hO (Blk.ne C q rfl);have G:=G.only hO (Blk.ne G q rfl);have o:=o.only hO (Blk.ne o q rfl);have m:=m.only hO (Blk.ne m q rfl);have g:=g.onlyA hO aO;have i:=i.onlyT hO q rfl;have E:=E.onlyT hO q rfl;have N:=N.self hO;have C:=C.below p;have G:=G.below p;have o:=o.below p;have m:=m.below p;have g:=g.below p;have i:=i.below p;have E:=E.below p;have N:=ktr N p
 clear q p hO hK;have D:=aG;clear aG;refine Zf (X6 (zs:=[vi 0,vi 0,vi 0]) X6m rfl) ?_;rintro _ kR ⟨cD,rfl,cS,p,H⟩;have dW:=Nat.le_trans N.size cS;have iN:=g.away cS;have dX:=i.away cS;have d6:=E.away cS;have D:=D.below p;have C:=C.below p;have G:=G.below p;have o:=o.below p;have m:=m.below p;have g:=g.below p;have i:=i.below p;have E:=E.below p;have N:=ktr N p;refine Zo (Vw [vi u.k,vi u.a,vi u.b] X1o H) ?_;rintro _ kS ⟨U,hb⟩;have q:=H;have D:=D.only U (Blk.ne D q rfl);have C:=C.only U (Blk.ne C q rfl);have G:=G.only U (Blk.ne G q rfl);have o:=o.only U (Blk.ne o q rfl);have m:=m.only U (Blk.ne m q rfl);have g:=g.only U dW;have i:=i.onlyA U dX;have E:=E.onlyA U d6;have N:=Kept.only N U dW;have H:=hb;refine Zx iK fun a hf _ iO=>?_;refine Ze (Vn X0n H)<|Zf (Vc (Xv2 _ u) Xi9) ?_;rintro _ kT ⟨rfl,p⟩;have D:=D.below p;have C:=C.below p;have G:=G.below p;have o:=o.below p;have m:=m.below p;have H:=H.below p;have g:=g.below p;have i:=i.below p;have E:=E.below p;have N:=ktr N p;refine Zm rfl<|Ze (X3 (vs:=[.agg #[vi ((bkG u).k),vi ((bkG u).a),vi ((bkG u).b)],vi (bkN u)]) rfl rfl)<|Ze (X3 (vs:=[.agg #[vi ((bkG u).k),vi ((bkG u).a),vi ((bkG u).b)],vi (bkN u)]) rfl rfl)<|Zf (X6 (zs:=[vi 0,vi 0,vi 0]) X6m rfl) ?_;rintro _ kU ⟨b21,rfl,cU,p,J⟩
 have g6:cD≠b21:=by have:=H.lt;omega
 have e8:=Nat.le_trans N.size cU;have iP:=g.away cU;have eA:=i.away cU;have d7:=E.away cU;have D:=D.below p;have C:=C.below p;have G:=G.below p;have o:=o.below p;have m:=m.below p;have H:=H.below p;have g:=g.below p;have i:=i.below p;have E:=E.below p;have N:=ktr N p;refine Zo (Vw [vi ((bkG u).k),vi ((bkG u).a),vi ((bkG u).b)] X1o J) ?_;rintro _ kW ⟨U,hb⟩;have q:=J;have D:=D.only U (Blk.ne D q rfl);have C:=C.only U (Blk.ne C q rfl);have G:=G.only U (Blk.ne G q rfl);have o:=o.only U (Blk.ne o q rfl);have m:=m.only U (Blk.ne m q rfl);have H:=H.only U (by omega);have g:=g.only U e8;have i:=i.onlyA U eA;have E:=E.onlyA U d7;have N:=Kept.only N U e8;have J:=hb;refine Za rfl<|Zx iO fun a hf _ iQ=>?_;refine Zf (Xd (k:=0) (vs:=[]) (zs:=[]) rfl X0y X0o rfl rfl) ?_;rintro _ kX ⟨b23,rfl,cW,p,iS⟩
 have d8:cD≠b23:=by have:=H.lt;omega
 have dB:b21≠b23:=by have:=J.lt;omega
 have fM:=Nat.le_trans N.size cW;have iT:=g.away cW;have eB:=i.away cW;have dC:=E.away cW;have D:=D.below p;have C:=C.below p;have G:=G.below p;have o:=o.below p;have m:=m.below p;have H:=H.below p;have J:=J.below p;have g:=g.below p;have i:=i.below p;have E:=E.below p;have N:=ktr N p;refine Ze (Vd rfl X0x 1)<|Ze (X0 rfl X2h (m.at 1))<|Zm rfl ?_;have iU:=(E.rd.top).dropK X0w (c:=fL) E.cap Q.toNat;refine Ze (Xhi (l:=y.gs) (k:=Q.toNat) rfl rfl X0y X1o (by omega) (by omega))<|Zf (X3k (enc:=encG) (l2:=((y.gs.drop Q.toNat))) rfl rfl X0y X0o X0w X1l iS iU (by simp only [maxLen];simp;omega) (by simp;omega)) ?_;rintro _ kY ⟨iV,jX,rfl,L,p,M⟩;have g7:=M _ H.lt d8;have g8:=M _ J.lt dB;have iW:=Apart.new0 i eB M;have g9:=Apart.new0 E dC M;clear M;have L:=L.lower fM;have D:=D.below p;have C:=C.below p;have G:=G.below p;have o:=o.below p;have m:=m.below p;have H:=H.below p;have J:=J.below p;have g:=g.below p;have i:=i.below p;have E:=E.below p;have N:=ktr N p;refine Za rfl<|ZX iQ fun a hf _ iX=>?_;refine X09 (fun a w=>∃ aQ cE,Fr a 72 [(0,.pointer (some ⟨bV,0,none⟩)),(2,.pointer (some ⟨b4,0,none⟩)),(3,.pointer (some ⟨b6,0,none⟩)),(4,.pointer (some ⟨b10,0,none⟩)),(5,.pointer (some ⟨b14,0,none⟩))]∧Own w w0.heap.size 114 3 encG aQ cE (((y.gs.take Q.toNat)++([u,(bkG u)]))++(y.gs.drop Q.toNat))∧Apart a7 aQ∧Apart fK aQ∧Apart iV aQ∧Blk w bV 69 [.slice aF a6.length aN,vi (f7:Int),.int .u64 f8]∧Blk w b4 48 [vi 0,.slice none 0 0]∧Blk w b6 48 [vi 0,.slice none 0 0]∧Blk w b10 48 [vi y.n,.slice a7 y.gs.length aC]∧Blk w b14 48 [vi y.n,.slice aQ (((y.gs.take Q.toNat)++([u,(bkG u)]))++(y.gs.drop Q.toNat)).length cE]∧Blk w cD 114 [vi u.k,vi u.a,vi u.b]∧Blk w b21 114 [vi ((bkG u).k),vi ((bkG u).a),vi ((bkG u).b)]∧Rd w w0.heap.size dS encU aF a6∧Own w w0.heap.size 114 3 encG a7 aC y.gs∧Own w w0.heap.size 114 3 encG fK fL y.gs∧Own w w0.heap.size 114 3 encG iV jX (y.gs.drop Q.toNat)∧Kept bV w0.heap.size w0 w) ?_ ?_
 ·refine Xs none (fun j=>[9,11,13].contains j) mixed ?_;intro kZ p;have D:=D.below p;have C:=C.below p;have G:=G.below p;have o:=o.below p;have m:=m.below p;have H:=H.below p;have J:=J.below p;have g:=g.below p;have i:=i.below p;have E:=E.below p;have L:=L.below p;have N:=ktr N p;refine Yb hf<|Yo 1 rfl (fun _=>Vd rfl X0x 1)<|Ye 2 rfl (X0 rfl X2h (m.at 1))<|Yo 3 rfl (fun _=>X8 rfl) ?_;have a8:=(E.rd.top).takeK X0w Q.toNat;refine Yo 4 rfl (fun _=>X50 (l:=y.gs) (k:=Q.toNat) rfl rfl X0y X1o (by omega) (by omega) E.cap)<|Ye 6 rfl (Vn X0n H)<|Ye 7 rfl (Vn X0n J)<|Yo 10 rfl (fun _=>X8 rfl) ?_;refine Y2 0 8 ?_ ?_
  ·refine Yk rfl trivial (Xd (k:=0) (vs:=[]) (zs:=[]) rfl X0y X0o rfl rfl) (fun _ _ ⟨_,_,_,h,_⟩=>h) ?_;rintro _ l0 ⟨b29,rfl,aU,p,cF⟩
   have aW:cD≠b29:=by have:=H.lt;omega
   have aX:b21≠b29:=by have:=J.lt;omega
   have eC:=Nat.le_trans N.size aU;have iY:=g.away aU;have cG:=i.away aU;have aY:=E.away aU;have aZ:=L.away aU;have gA:=a8.away aU;have D:=D.below p;have C:=C.below p;have G:=G.below p;have o:=o.below p;have m:=m.below p;have H:=H.below p;have J:=J.below p;have g:=g.below p;have i:=i.below p;have E:=E.below p;have L:=L.below p;have a8:=a8.below p;have N:=ktr N p;refine Y2 5 8 ?_ ?_
   ·refine Yk rfl trivial (X3k (enc:=encG) (l2:=((y.gs.take Q.toNat))) rfl rfl X0y X0o X0w X1l cF a8 (by simp only [maxLen];simp;omega) (by simp;omega)) (fun _ _ ⟨jY,jZ,_,aM,p,M⟩=>p) ?_;rintro _ l6 ⟨jY,jZ,rfl,aM,p,M⟩;have b0:=M _ H.lt aW;have b1:=M _ J.lt aX;have cH:=Apart.new0 i cG M;have b2:=Apart.new0 E aY M;have b3:=Apart.new0 L aZ M;clear M;have aM:=aM.lower eC;have D:=D.below p;have C:=C.below p;have G:=G.below p;have o:=o.below p;have m:=m.below p;have H:=H.below p;have J:=J.below p;have g:=g.below p;have i:=i.below p;have E:=E.below p;have L:=L.below p;have a8:=a8.below p;have N:=ktr N p;refine Y1 8<|Yk rfl trivial (Xd (k:=2) (vs:=[.agg #[vi u.k,vi u.a,vi u.b],.agg #[vi ((bkG u).k),vi ((bkG u).a),vi ((bkG u).b)]]) (zs:=[vi u.k,vi u.a,vi u.b,vi ((bkG u).k),vi ((bkG u).a),vi ((bkG u).b)]) rfl X0y X0o rfl rfl) (fun _ _ ⟨_,_,_,h,_⟩=>h) ?_;rintro _ l7 ⟨b32,rfl,aR,p,eD⟩
    have gB:cD≠b32:=by have:=H.lt;omega
    have gC:b21≠b32:=by have:=J.lt;omega
    have k5:=Nat.le_trans N.size aR;have iZ:=g.away aR;have j0:=i.away aR;have gD:=E.away aR;have gE:=L.away aR;have gF:=a8.away aR;have dD:=aM.away aR;have D:=D.below p;have C:=C.below p;have G:=G.below p;have o:=o.below p;have m:=m.below p;have H:=H.below p;have J:=J.below p;have g:=g.below p;have i:=i.below p;have E:=E.below p;have L:=L.below p;have aM:=aM.below p;have N:=ktr N p;refine Y1 9<|Yt rfl trivial rfl (X11 (enc:=encG) (l:=((y.gs.take Q.toNat))) (l2:=([u,(bkG u)])) (B0:=w0.heap.size) rfl rfl X0y X0o X0w X1l aM (Rd.of_blk eD rfl _ eD.lt) (by simp only [maxLen];simp;omega) (by simp;omega) N.size) ?_;rintro _ l8 ⟨l9,lA,rfl,f9,W,M⟩
    have I:Own _ w0.heap.size 114 3 encG _ _ ((y.gs.take Q.toNat)):=aM
    have b5:=M _ H.lt b0;have b7:=M _ J.lt b1;have gG:=M _ eD.lt dD;have cJ:=Apart.app i cH M;have b8:=Apart.app E b2 M;have b9:=Apart.app L b3 M;clear M;have D:=D.appT I W rfl;have C:=C.appT I W rfl;have G:=G.appT I W rfl;have o:=o.appT I W rfl;have m:=m.appT I W rfl;have H:=H.appA W b0;have J:=J.appA W b1;have g:=g.appB I W (Nat.le_refl _);have i:=i.appP W cH;have E:=E.appP W b2;have L:=L.appP W b3;have N:=Kept.app N I W (Nat.le_refl _) N.size;clear I W;refine Y1 11<|Yt rfl trivial rfl (X11 (enc:=encG) (l:=((y.gs.take Q.toNat)++([u,(bkG u)]))) (l2:=((y.gs.drop Q.toNat))) (B0:=w0.heap.size) rfl rfl X0y X0o X0w X1l f9 L.rd (by simp only [maxLen];simp;omega) (by simp;omega) N.size) ?_;rintro _ lB ⟨aQ,cE,rfl,aD,W,M⟩
    have I:Own _ w0.heap.size 114 3 encG _ _ ((y.gs.take Q.toNat)++([u,(bkG u)])):=f9
    have gH:=M _ H.lt b5;have gI:=M _ J.lt b7;have aH:=Apart.app i cJ M;have bC:=Apart.app E b8 M;have bD:=Apart.app L b9 M;clear M;have D:=D.appT I W rfl;have C:=C.appT I W rfl;have G:=G.appT I W rfl;have o:=o.appT I W rfl;have m:=m.appT I W rfl;have H:=H.appA W b5;have J:=J.appA W b7;have g:=g.appB I W (Nat.le_refl _);have i:=i.appP W cJ;have E:=E.appP W b8;have L:=L.appP W b9;have N:=Kept.app N I W (Nat.le_refl _) N.size;clear I W;refine Yo 12 rfl (fun _=>Vd rfl X0x 1)<|Y1 13 ?_;refine Yh rfl trivial rfl (Vu (vs:=[.slice aQ (((y.gs.take Q.toNat)++([u,(bkG u)]))++(y.gs.drop Q.toNat)).length cE]) (l':=[vi y.n,.slice aQ (((y.gs.take Q.toNat)++([u,(bkG u)]))++(y.gs.drop Q.toNat)).length cE]) rfl rfl X6n m) ?_;rintro _ lC ⟨U,hb⟩;have q:=m;have D:=D.only U (Blk.ne D q rfl);have C:=C.only U (by omega);have G:=G.only U (by omega);have o:=o.only U (by omega);have H:=H.only U (Blk.ne H q rfl);have J:=J.only U (Blk.ne J q rfl);have g:=g.only U aB;have i:=i.onlyT U q rfl;have E:=E.onlyT U q rfl;have L:=L.onlyT U q rfl;have aD:=aD.onlyT U q rfl;have N:=Kept.only N U aB;have m:=hb;refine Yd fun a hf=>?_;exact ⟨aQ,cE,hf.sb,aD,aH,bC,bD,D,C,G,o,m,H,J,g,i,E,L,N⟩
   refine Yk rfl trivial (Xd (k:=2) (vs:=[.agg #[vi u.k,vi u.a,vi u.b],.agg #[vi ((bkG u).k),vi ((bkG u).a),vi ((bkG u).b)]]) (zs:=[vi u.k,vi u.a,vi u.b,vi ((bkG u).k),vi ((bkG u).a),vi ((bkG u).b)]) rfl X0y X0o rfl rfl) (fun _ _ ⟨_,_,_,h,_⟩=>h) ?_;rintro _ lD ⟨b36,rfl,bE,p,bF⟩
   have gJ:cD≠b36:=by have:=H.lt;omega
   have gK:b21≠b36:=by have:=J.lt;omega
   have dE:b29≠b36:=by have:=cF.lt;omega
   have k6:=Nat.le_trans N.size bE;have j1:=g.away bE;have j2:=i.away bE;have gL:=E.away bE;have gM:=L.away bE;have gN:=a8.away bE;have D:=D.below p;have C:=C.below p;have G:=G.below p;have o:=o.below p;have m:=m.below p;have H:=H.below p;have J:=J.below p;have cF:=cF.below p;have g:=g.below p;have i:=i.below p;have E:=E.below p;have L:=L.below p;have a8:=a8.below p;have N:=ktr N p;refine Y1 5<|Yk rfl trivial (X3k (enc:=encG) (l2:=((y.gs.take Q.toNat))) rfl rfl X0y X0o X0w X1l cF a8 (by simp only [maxLen];simp;omega) (by simp;omega)) (fun _ _ ⟨k7,k8,_,cK,p,M⟩=>p) ?_;rintro _ lE ⟨k7,k8,rfl,cK,p,M⟩;have bG:=M _ H.lt aW;have bH:=M _ J.lt aX;have dF:=M _ bF.lt (Ne.symm dE);have cL:=Apart.new0 i cG M;have bJ:=Apart.new0 E aY M;have bK:=Apart.new0 L aZ M;clear M;have cK:=cK.lower eC;have D:=D.below p;have C:=C.below p;have G:=G.below p;have o:=o.below p;have m:=m.below p;have H:=H.below p;have J:=J.below p;have bF:=bF.below p;have g:=g.below p;have i:=i.below p;have E:=E.below p;have L:=L.below p;have N:=ktr N p;refine Y1 9<|Yt rfl trivial rfl (X11 (enc:=encG) (l:=((y.gs.take Q.toNat))) (l2:=([u,(bkG u)])) (B0:=w0.heap.size) rfl rfl X0y X0o X0w X1l cK (Rd.of_blk bF rfl _ bF.lt) (by simp only [maxLen];simp;omega) (by simp;omega) N.size) ?_;rintro _ lF ⟨lG,lH,rfl,fA,W,M⟩
   have I:Own _ w0.heap.size 114 3 encG _ _ ((y.gs.take Q.toNat)):=cK
   have bL:=M _ H.lt bG;have bN:=M _ J.lt bH;have gO:=M _ bF.lt dF;have cM:=Apart.app i cL M;have bO:=Apart.app E bJ M;have bP:=Apart.app L bK M;clear M;have D:=D.appT I W rfl;have C:=C.appT I W rfl;have G:=G.appT I W rfl;have o:=o.appT I W rfl;have m:=m.appT I W rfl;have H:=H.appA W bG;have J:=J.appA W bH;have g:=g.appB I W (Nat.le_refl _);have i:=i.appP W cL;have E:=E.appP W bJ;have L:=L.appP W bK;have N:=Kept.app N I W (Nat.le_refl _) N.size;clear I W;refine Y1 11<|Yt rfl trivial rfl (X11 (enc:=encG) (l:=((y.gs.take Q.toNat)++([u,(bkG u)]))) (l2:=((y.gs.drop Q.toNat))) (B0:=w0.heap.size) rfl rfl X0y X0o X0w X1l fA L.rd (by simp only [maxLen];simp;omega) (by simp;omega) N.size) ?_;rintro _ lI ⟨fN,fO,rfl,eE,W,M⟩
   have I:Own _ w0.heap.size 114 3 encG _ _ ((y.gs.take Q.toNat)++([u,(bkG u)])):=fA
   have gQ:=M _ H.lt bL;have gR:=M _ J.lt bN;have eF:=Apart.app i cM M;have dG:=Apart.app E bO M;have dH:=Apart.app L bP M;clear M;have D:=D.appT I W rfl;have C:=C.appT I W rfl;have G:=G.appT I W rfl;have o:=o.appT I W rfl;have m:=m.appT I W rfl;have H:=H.appA W bL;have J:=J.appA W bN;have g:=g.appB I W (Nat.le_refl _);have i:=i.appP W cM;have E:=E.appP W bO;have L:=L.appP W bP;have N:=Kept.app N I W (Nat.le_refl _) N.size;clear I W;refine Yo 12 rfl (fun _=>Vd rfl X0x 1)<|Y1 13 ?_;refine Yh rfl trivial rfl (Vu (vs:=[.slice fN (((y.gs.take Q.toNat)++([u,(bkG u)]))++(y.gs.drop Q.toNat)).length fO]) (l':=[vi y.n,.slice fN (((y.gs.take Q.toNat)++([u,(bkG u)]))++(y.gs.drop Q.toNat)).length fO]) rfl rfl X6n m) ?_;rintro _ lJ ⟨U,hb⟩;have q:=m;have D:=D.only U (Blk.ne D q rfl);have C:=C.only U (by omega);have G:=G.only U (by omega);have o:=o.only U (by omega);have H:=H.only U (Blk.ne H q rfl);have J:=J.only U (Blk.ne J q rfl);have g:=g.only U aB;have i:=i.onlyT U q rfl;have E:=E.onlyT U q rfl;have L:=L.onlyT U q rfl;have eE:=eE.onlyT U q rfl;have N:=Kept.only N U aB;have m:=hb;refine Yd fun a hf=>?_;exact ⟨fN,fO,hf.sb,eE,eF,dG,dH,D,C,G,o,m,H,J,g,i,E,L,N⟩
  refine Yk rfl trivial (Xd (k:=2) (vs:=[.agg #[vi u.k,vi u.a,vi u.b],.agg #[vi ((bkG u).k),vi ((bkG u).a),vi ((bkG u).b)]]) (zs:=[vi u.k,vi u.a,vi u.b,vi ((bkG u).k),vi ((bkG u).a),vi ((bkG u).b)]) rfl X0y X0o rfl rfl) (fun _ _ ⟨_,_,_,h,_⟩=>h) ?_;rintro _ lK ⟨b41,rfl,bR,p,aJ⟩
  have gS:cD≠b41:=by have:=H.lt;omega
  have gT:b21≠b41:=by have:=J.lt;omega
  have kA:=Nat.le_trans N.size bR;have j3:=g.away bR;have j4:=i.away bR;have gU:=E.away bR;have gX:=L.away bR;have gY:=a8.away bR;have D:=D.below p;have C:=C.below p;have G:=G.below p;have o:=o.below p;have m:=m.below p;have H:=H.below p;have J:=J.below p;have g:=g.below p;have i:=i.below p;have E:=E.below p;have L:=L.below p;have a8:=a8.below p;have N:=ktr N p;refine Y1 0<|Yk rfl trivial (Xd (k:=0) (vs:=[]) (zs:=[]) rfl X0y X0o rfl rfl) (fun _ _ ⟨_,_,_,h,_⟩=>h) ?_;rintro _ lL ⟨b43,rfl,bS,p,j5⟩
  have dI:cD≠b43:=by have:=H.lt;omega
  have dJ:b21≠b43:=by have:=J.lt;omega
  have dK:b41≠b43:=by have:=aJ.lt;omega
  have fP:=Nat.le_trans N.size bS;have j6:=g.away bS;have eG:=i.away bS;have dL:=E.away bS;have dM:=L.away bS;have hG:=a8.away bS;have D:=D.below p;have C:=C.below p;have G:=G.below p;have o:=o.below p;have m:=m.below p;have H:=H.below p;have J:=J.below p;have aJ:=aJ.below p;have g:=g.below p;have i:=i.below p;have E:=E.below p;have L:=L.below p;have a8:=a8.below p;have N:=ktr N p;refine Y1 5<|Yk rfl trivial (X3k (enc:=encG) (l2:=((y.gs.take Q.toNat))) rfl rfl X0y X0o X0w X1l j5 a8 (by simp only [maxLen];simp;omega) (by simp;omega)) (fun _ _ ⟨kB,kC,_,cN,p,M⟩=>p) ?_;rintro _ lM ⟨kB,kC,rfl,cN,p,M⟩;have bU:=M _ H.lt dI;have bW:=M _ J.lt dJ;have dN:=M _ aJ.lt dK;have cO:=Apart.new0 i eG M;have bX:=Apart.new0 E dL M;have bY:=Apart.new0 L dM M;clear M;have cN:=cN.lower fP;have D:=D.below p;have C:=C.below p;have G:=G.below p;have o:=o.below p;have m:=m.below p;have H:=H.below p;have J:=J.below p;have aJ:=aJ.below p;have g:=g.below p;have i:=i.below p;have E:=E.below p;have L:=L.below p;have N:=ktr N p;refine Y1 9<|Yt rfl trivial rfl (X11 (enc:=encG) (l:=((y.gs.take Q.toNat))) (l2:=([u,(bkG u)])) (B0:=w0.heap.size) rfl rfl X0y X0o X0w X1l cN (Rd.of_blk aJ rfl _ aJ.lt) (by simp only [maxLen];simp;omega) (by simp;omega) N.size) ?_;rintro _ lN ⟨lO,lP,rfl,fB,W,M⟩
  have I:Own _ w0.heap.size 114 3 encG _ _ ((y.gs.take Q.toNat)):=cN
  have bZ:=M _ H.lt bU;have c4:=M _ J.lt bW;have hZ:=M _ aJ.lt dN;have cP:=Apart.app i cO M;have cA:=Apart.app E bX M;have cC:=Apart.app L bY M;clear M;have D:=D.appT I W rfl;have C:=C.appT I W rfl;have G:=G.appT I W rfl;have o:=o.appT I W rfl;have m:=m.appT I W rfl;have H:=H.appA W bU;have J:=J.appA W bW;have g:=g.appB I W (Nat.le_refl _);have i:=i.appP W cO;have E:=E.appP W bX;have L:=L.appP W bY;have N:=Kept.app N I W (Nat.le_refl _) N.size;clear I W;refine Y1 11<|Yt rfl trivial rfl (X11 (enc:=encG) (l:=((y.gs.take Q.toNat)++([u,(bkG u)]))) (l2:=((y.gs.drop Q.toNat))) (B0:=w0.heap.size) rfl rfl X0y X0o X0w X1l fB L.rd (by simp only [maxLen];simp;omega) (by simp;omega) N.size) ?_;rintro _ lQ ⟨fQ,fR,rfl,eH,W,M⟩
  have I:Own _ w0.heap.size 114 3 encG _ _ ((y.gs.take Q.toNat)++([u,(bkG u)])):=fB
  have i0:=M _ H.lt bZ;have i1:=M _ J.lt c4;have eI:=Apart.app i cP M;have dO:=Apart.app E cA M;have dP:=Apart.app L cC M;clear M;have D:=D.appT I W rfl;have C:=C.appT I W rfl;have G:=G.appT I W rfl;have o:=o.appT I W rfl;have m:=m.appT I W rfl;have H:=H.appA W bZ;have J:=J.appA W c4;have g:=g.appB I W (Nat.le_refl _);have i:=i.appP W cP;have E:=E.appP W cA;have L:=L.appP W cC;have N:=Kept.app N I W (Nat.le_refl _) N.size;clear I W;refine Yo 12 rfl (fun _=>Vd rfl X0x 1)<|Y1 13 ?_;refine Yh rfl trivial rfl (Vu (vs:=[.slice fQ (((y.gs.take Q.toNat)++([u,(bkG u)]))++(y.gs.drop Q.toNat)).length fR]) (l':=[vi y.n,.slice fQ (((y.gs.take Q.toNat)++([u,(bkG u)]))++(y.gs.drop Q.toNat)).length fR]) rfl rfl X6n m) ?_;rintro _ lR ⟨U,hb⟩;have q:=m;have D:=D.only U (Blk.ne D q rfl);have C:=C.only U (by omega);have G:=G.only U (by omega);have o:=o.only U (by omega);have H:=H.only U (Blk.ne H q rfl);have J:=J.only U (Blk.ne J q rfl);have g:=g.only U aB;have i:=i.onlyT U q rfl;have E:=E.onlyT U q rfl;have L:=L.onlyT U q rfl;have eH:=eH.onlyT U q rfl;have N:=Kept.only N U aB;have m:=hb;refine Yd fun a hf=>?_;exact ⟨fQ,fR,hf.sb,eH,eI,dO,dP,D,C,G,o,m,H,J,g,i,E,L,N⟩
 rintro a lS ⟨aQ,cE,hf,aD,aH,bC,bD,D,C,G,o,m,H,J,g,i,E,L,N⟩;refine iX _ _<|wp_seq_k fun _ j7=>?_;refine Zs hf fun _ j8=>?_;refine Zm rfl<|Zf (Vc (Xmb _ bV aF aN a6 g.top d5 aO f7 f8 D 4 (by omega)) Xei) ?_;rintro _ lT ⟨kM,fC,fD,rfl,kD,kE,hK,aG⟩;obtain ⟨wm,hO,hm,p⟩:=hK.mid;clear hm;have q:=D;have C:=C.only hO (Blk.ne C q rfl);have G:=G.only hO (Blk.ne G q rfl);have o:=o.only hO (Blk.ne o q rfl);have m:=m.only hO (Blk.ne m q rfl);have g:=g.onlyA hO aO;have i:=i.onlyT hO q rfl;have aD:=aD.onlyT hO q rfl;have N:=N.self hO;have C:=C.below p;have G:=G.below p;have o:=o.below p;have m:=m.below p;have g:=g.below p;have i:=i.below p;have aD:=aD.below p;have N:=ktr N p
 clear q p hO hK;have D:=aG;clear aG;refine Zt j8 fun a hf=>?_;refine X09 (fun a w=>∃ (aT:List Gt),∃ eJ eU,Fr a 72 [(0,.pointer (some ⟨bV,0,none⟩)),(2,.pointer (some ⟨b4,0,none⟩)),(3,.pointer (some ⟨b6,0,none⟩)),(4,.pointer (some ⟨b10,0,none⟩)),(5,.pointer (some ⟨b14,0,none⟩))]∧(aT.length≤11)∧Blk w bV 69 [.slice aF a6.length aN,vi (fC:Int),.int .u64 fD]∧Blk w b4 48 [vi 0,.slice none 0 0]∧Blk w b6 48 [vi 0,.slice none 0 0]∧Blk w b10 48 [vi y.n,.slice a7 y.gs.length aC]∧Blk w b14 48 [vi y.n,.slice eJ aT.length eU]∧Rd w w0.heap.size dS encU aF a6∧Own w w0.heap.size 114 3 encG a7 aC y.gs∧Own w w0.heap.size 114 3 encG eJ eU aT∧Apart a7 eJ∧Kept bV w0.heap.size w0 w) ?_ ?_
 ·refine Xf hf rfl (fun eK=>?_) (fun eK=>?_)
  ·have fS:=eK;refine Zr hf<|Ze (Vd rfl X0x 1)<|Ze (X0 rfl X2h (m.at 1))<|Ze (Xl (ps:=[(0,vi 12)]) (cs:=[vi 12,vi 0,vi 0]) rfl (fun _=>by first|rfl|kernel_rfl))<|Zf (Xd (k:=1) (vs:=[.agg #[vi 12,vi 0,vi 0]]) (zs:=[vi 12,vi 0,vi 0]) rfl X0y X0o rfl rfl) ?_;rintro _ lU ⟨lV,rfl,cX,p,eL⟩;have kF:=Nat.le_trans N.size cX;have j9:=g.away cX;have jA:=i.away cX;have dQ:=aD.away cX;have D:=D.below p;have C:=C.below p;have G:=G.below p;have o:=o.below p;have m:=m.below p;have g:=g.below p;have i:=i.below p;have aD:=aD.below p;have N:=ktr N p;refine Zf (X11 (enc:=encG) (l:=(((y.gs.take Q.toNat)++([u,(bkG u)]))++(y.gs.drop Q.toNat))) (l2:=([(⟨12,0,0⟩ : Gt)])) (B0:=w0.heap.size) rfl rfl X0y X0o X0w X1l aD (Rd.of_blk eL rfl _ eL.lt) (by simp only [maxLen];simp;omega) (by simp;omega) N.size) ?_;rintro _ lW ⟨fT,fU,rfl,eN,W,M⟩
   have I:Own _ w0.heap.size 114 3 encG _ _ (((y.gs.take Q.toNat)++([u,(bkG u)]))++(y.gs.drop Q.toNat)):=aD
   have i2:=M _ eL.lt dQ;have eO:=Apart.app i aH M;clear M;have D:=D.appT I W rfl;have C:=C.appT I W rfl;have G:=G.appT I W rfl;have o:=o.appT I W rfl;have m:=m.appT I W rfl;have g:=g.appB I W (Nat.le_refl _);have i:=i.appP W aH;have N:=Kept.app N I W (Nat.le_refl _) N.size;clear I W;refine Ze (Vd rfl X0x 1)<|Zo (Vu (vs:=[.slice fT ((((y.gs.take Q.toNat)++([u,(bkG u)]))++(y.gs.drop Q.toNat))++([(⟨12,0,0⟩ : Gt)])).length fU]) (l':=[vi y.n,.slice fT ((((y.gs.take Q.toNat)++([u,(bkG u)]))++(y.gs.drop Q.toNat))++([(⟨12,0,0⟩ : Gt)])).length fU]) rfl rfl X6n m) ?_;rintro _ lX ⟨U,hb⟩;have q:=m;have D:=D.only U (Blk.ne D q rfl);have C:=C.only U (by omega);have G:=G.only U (by omega);have o:=o.only U (by omega);have g:=g.only U aB;have i:=i.onlyT U q rfl;have eN:=eN.onlyT U q rfl;have N:=Kept.only N U aB;have m:=hb;refine Zn fun a hf=>?_;refine Xe ?_;exact ⟨(((y.gs.take Q.toNat)++([u,(bkG u)]))++(y.gs.drop Q.toNat))++([(⟨12,0,0⟩ : Gt)]),fT,fU,hf.sb,(by first|omega|(simp;omega)),D,C,G,o,m,g,i,eN,eO,N⟩
  have fS:=eK;refine wp_skip<|Xe ?_;exact ⟨((y.gs.take Q.toNat)++([u,(bkG u)]))++(y.gs.drop Q.toNat),aQ,cE,hf.sb,(by first|omega|(simp;omega)),D,C,G,o,m,g,i,aD,aH,N⟩
 rintro a lY ⟨aT,eJ,eU,hf,kN,D,C,G,o,m,g,i,aA,aS,N⟩;refine j7 _ _<|wp_seq_k fun _ jB=>?_;refine Zs hf fun _ jC=>?_;refine Zm rfl<|Zf (Vc (Xmb _ bV aF aN a6 g.top d5 aO fC fD D 4 (by omega)) Xei) ?_;rintro _ lZ ⟨kO,fE,fF,rfl,kG,kH,hK,aG⟩;obtain ⟨wm,hO,hm,p⟩:=hK.mid;clear hm;have q:=D;have C:=C.only hO (Blk.ne C q rfl);have G:=G.only hO (Blk.ne G q rfl);have o:=o.only hO (Blk.ne o q rfl);have m:=m.only hO (Blk.ne m q rfl);have g:=g.onlyA hO aO;have i:=i.onlyT hO q rfl;have aA:=aA.onlyT hO q rfl;have N:=N.self hO;have C:=C.below p;have G:=G.below p;have o:=o.below p;have m:=m.below p;have g:=g.below p;have i:=i.below p;have aA:=aA.below p;have N:=ktr N p
 clear q p hO hK;have D:=aG;clear aG;refine Zt jC fun a hf=>?_;refine X09 (fun a w=>∃ (aK:List Gt) (eP:Nat) (fV:Int),∃ aL aP,Fr a 72 [(2,.pointer (some ⟨b4,0,none⟩)),(3,.pointer (some ⟨b6,0,none⟩)),(4,.pointer (some ⟨b10,0,none⟩)),(5,.pointer (some ⟨b14,0,none⟩))]∧(aK.length≤12)∧(t≤eP∧eP≤t+100)∧Blk w bV 69 [.slice aF a6.length aN,vi (eP:Int),.int .u64 fV]∧Blk w b4 48 [vi 0,.slice none 0 0]∧Blk w b6 48 [vi 0,.slice none 0 0]∧Blk w b10 48 [vi y.n,.slice a7 y.gs.length aC]∧Blk w b14 48 [vi y.n,.slice aL aK.length aP]∧Rd w w0.heap.size dS encU aF a6∧Own w w0.heap.size 114 3 encG a7 aC y.gs∧Own w w0.heap.size 114 3 encG aL aP aK∧Apart a7 aL∧Kept bV w0.heap.size w0 w) ?_ ?_
 ·refine Xf hf rfl (fun eQ=>?_) (fun eQ=>?_)
  ·have fW:=eQ;refine Xs (some bV) (fun j=>[8,10].contains j) mixed ?_;intro m5 p;have D:=D.below p;have C:=C.below p;have G:=G.below p;have o:=o.below p;have m:=m.below p;have g:=g.below p;have i:=i.below p;have aA:=aA.below p;have N:=ktr N p;refine Yb hf<|Yo 0 rfl (fun _=>Vd rfl X0x 1) ?_;refine Yw 1 rfl trivial (fun w1 h1=>X0 rfl X2h ((m.only h1 (Blk.ne m D rfl)).at 1)) ?_;refine Yo 2 rfl (fun _=>X8 rfl)<|Yo 3 rfl (fun _=>Vd rfl X1z 0) ?_;refine Yw 4 rfl trivial (fun w1 h1=>X0 rfl X2 ((m.only h1 (Blk.ne m D rfl)).at 0)) ?_;refine Y1 5<|Yf rfl trivial (EfW.mono (Xd (k:=3) (vs:=[vi 4,vi 5,vi 7]) (zs:=[vi 4,vi 5,vi 7]) rfl X0r X4x rfl rfl) (fun _ _ h=>⟨fun _=>by obtain ⟨_,_,_,p,_⟩:=h;exact Keep.of_below p,h⟩)) ?_;rintro _ m6 ⟨kI,rfl,fG,p,fH⟩;have kJ:=Nat.le_trans N.size fG;have jD:=g.away fG;have D:=D.below p;have C:=C.below p;have G:=G.below p;have o:=o.below p;have m:=m.below p;have g:=g.below p;have i:=i.below p;have aA:=aA.below p;have N:=ktr N p;refine Y1 6<|Yf rfl trivial (EfW.mono (Vc (Xn4 _ bV aF aN a6 g.top d5 aO fE fF D y.n (some ⟨kI,0,none⟩) 3 ([4,5,7]) (Rd.of_blk fH rfl _ fH.lt) (by omega) (by simp) (by simp) (by omega)) Xdc) (fun _ _ h=>⟨fun _=>by obtain ⟨aI,fI,fJ,rfl,fX,fY,hK,aG⟩:=h;exact hK.keep,h⟩)) ?_;rintro _ m7 ⟨aI,fI,fJ,rfl,fX,fY,hK,aG⟩;obtain ⟨wm,hO,hm,p⟩:=hK.mid;clear hm;have q:=D;have C:=C.only hO (Blk.ne C q rfl);have G:=G.only hO (Blk.ne G q rfl);have o:=o.only hO (Blk.ne o q rfl);have m:=m.only hO (Blk.ne m q rfl)
   have g:=g.onlyA hO aO;have i:=i.onlyT hO q rfl;have aA:=aA.onlyT hO q rfl;have N:=N.self hO;have C:=C.below p;have G:=G.below p;have o:=o.below p;have m:=m.below p;have g:=g.below p;have i:=i.below p;have aA:=aA.below p;have N:=ktr N p
   clear q p hO hK;have D:=aG;clear aG;refine Y1 7<|Yf rfl trivial (EfW.mono (Xd (k:=1) (vs:=[.agg #[vi aI.k,vi aI.a,vi aI.b]]) (zs:=[vi aI.k,vi aI.a,vi aI.b]) rfl X0y X0o rfl rfl) (fun _ _ h=>⟨fun _=>by obtain ⟨_,_,_,p,_⟩:=h;exact Keep.of_below p,h⟩)) ?_;rintro _ m8 ⟨m9,rfl,cY,p,eR⟩;have kK:=Nat.le_trans N.size cY;have jE:=g.away cY;have jF:=i.away cY;have dR:=aA.away cY;have D:=D.below p;have C:=C.below p;have G:=G.below p;have o:=o.below p;have m:=m.below p;have g:=g.below p;have i:=i.below p;have aA:=aA.below p;have N:=ktr N p;refine Y1 8<|Yt rfl trivial rfl (X11 (enc:=encG) (l:=(aT)) (l2:=([aI])) (B0:=w0.heap.size) rfl rfl X0y X0o X0w X1l aA (Rd.of_blk eR rfl _ eR.lt) (by simp only [maxLen];simp;omega) (by simp;omega) N.size) ?_;rintro _ mA ⟨fZ,g4,rfl,eS,W,M⟩
   have I:Own _ w0.heap.size 114 3 encG _ _ (aT):=aA
   have i3:=M _ eR.lt dR;have eT:=Apart.app i aS M;clear M;have D:=D.appT I W rfl;have C:=C.appT I W rfl;have G:=G.appT I W rfl;have o:=o.appT I W rfl;have m:=m.appT I W rfl;have g:=g.appB I W (Nat.le_refl _);have i:=i.appP W aS;have N:=Kept.app N I W (Nat.le_refl _) N.size;clear I W;refine Yo 9 rfl (fun _=>Vd rfl X0x 1)<|Y1 10 ?_;refine Yh rfl trivial rfl (Vu (vs:=[.slice fZ (aT++([aI])).length g4]) (l':=[vi y.n,.slice fZ (aT++([aI])).length g4]) rfl rfl X6n m) ?_;rintro _ mB ⟨U,hb⟩;have q:=m;have D:=D.only U (Blk.ne D q rfl);have C:=C.only U (by omega);have G:=G.only U (by omega);have o:=o.only U (by omega);have g:=g.only U aB;have i:=i.onlyT U q rfl;have eS:=eS.onlyT U q rfl;have N:=Kept.only N U aB;have m:=hb;refine Yd fun a hf=>?_;refine Xe ?_;exact ⟨aT++([aI]),fI,fJ,fZ,g4,hf.sb,(by first|omega|(simp;omega)),(by omega),D,C,G,o,m,g,i,eS,eT,N⟩
  have fW:=eQ;refine wp_skip<|Xe ?_;exact ⟨aT,fE,fF,eJ,eU,hf.sb,(by first|omega|(simp;omega)),(by omega),D,C,G,o,m,g,i,aA,aS,N⟩
 rintro a mC ⟨aK,eP,fV,aL,aP,hf,jG,jH,D,C,G,o,m,g,i,aE,jI,N⟩;refine jB _ _<|wp_seq_k fun _ jJ=>?_;refine X09 (fun a w=>Fr a 72 [(2,.pointer (some ⟨b4,0,none⟩)),(3,.pointer (some ⟨b6,0,none⟩))]∧Blk w bV 69 [.slice aF a6.length aN,vi (eP:Int),.int .u64 fV]∧Blk w b4 48 [vi y.n,.slice a7 y.gs.length aC]∧Blk w b6 48 [vi y.n,.slice aL aK.length aP]∧Blk w b10 48 [vi y.n,.slice a7 y.gs.length aC]∧Blk w b14 48 [vi y.n,.slice aL aK.length aP]∧Rd w w0.heap.size dS encU aF a6∧Own w w0.heap.size 114 3 encG a7 aC y.gs∧Own w w0.heap.size 114 3 encG aL aP aK∧Kept bV w0.heap.size w0 w) ?_ ?_
 ·refine Xs none (fun j=>[2,3].contains j) mixed ?_;intro mD p;have D:=D.below p;have C:=C.below p;have G:=G.below p;have o:=o.below p;have m:=m.below p;have g:=g.below p;have i:=i.below p;have aE:=aE.below p;have N:=ktr N p;refine Yb hf<|Ye 0 rfl (Vn X0m o) ?_;refine Y2 1 2 ?_ ?_
  ·refine Yz rfl trivial (Uev (X0b (l:=[vi y.n,.slice aL aK.length aP]) rfl X0m (m.at 0) rfl)) ?_;refine Y1 2<|Yh rfl trivial rfl (Vw [vi y.n,.slice a7 y.gs.length aC] X1p C) ?_;rintro _ mE ⟨U,hb⟩;have q:=C;have D:=D.only U (Blk.ne D q rfl);have G:=G.only U (by omega);have o:=o.only U (by omega);have m:=m.only U (by omega);have g:=g.only U cQ;have i:=i.onlyT U q rfl;have aE:=aE.onlyT U q rfl;have N:=Kept.only N U cQ;have C:=hb;refine Y1 3<|Yh rfl trivial rfl (Vw [vi y.n,.slice aL aK.length aP] X1p G) ?_;rintro _ mF ⟨U,hb⟩;have q:=G;have D:=D.only U (Blk.ne D q rfl);have C:=C.only U (by omega);have o:=o.only U (by omega);have m:=m.only U (by omega);have g:=g.only U cR;have i:=i.onlyT U q rfl;have aE:=aE.onlyT U q rfl;have N:=Kept.only N U cR;have G:=hb;refine Yd fun a hf=>?_;exact ⟨hf.sb,D,C,G,o,m,g,i,aE,N⟩
  refine Yh rfl trivial rfl (Vw [vi y.n,.slice a7 y.gs.length aC] X1p C) ?_;rintro _ mG ⟨U,hb⟩;have q:=C;have D:=D.only U (Blk.ne D q rfl);have G:=G.only U (by omega);have o:=o.only U (by omega);have m:=m.only U (by omega);have g:=g.only U cQ;have i:=i.onlyT U q rfl;have aE:=aE.onlyT U q rfl;have N:=Kept.only N U cQ;have C:=hb;refine Y1 1<|Yz rfl trivial (Uev (X0b (l:=[vi y.n,.slice aL aK.length aP]) rfl X0m (m.at 0) rfl)) ?_;refine Y1 3<|Yh rfl trivial rfl (Vw [vi y.n,.slice aL aK.length aP] X1p G) ?_;rintro _ mH ⟨U,hb⟩;have q:=G;have D:=D.only U (Blk.ne D q rfl);have C:=C.only U (by omega);have o:=o.only U (by omega);have m:=m.only U (by omega);have g:=g.only U cR;have i:=i.onlyT U q rfl;have aE:=aE.onlyT U q rfl;have N:=Kept.only N U cR;have G:=hb;refine Yd fun a hf=>?_;exact ⟨hf.sb,D,C,G,o,m,g,i,aE,N⟩
 rintro a mI ⟨hf,D,C,G,o,m,g,i,aE,N⟩;refine jJ _ _ ?_
 refine wp_ret (X4 hf (X1e hf rfl (ResV.cellN (l:=[vi y.n,.slice a7 y.gs.length aC]) rfl X0m (C.at 0) rfl) (ResV.cellN (l:=[vi y.n,.slice aL aK.length aP]) rfl X0m (G.at 0) rfl)) ?_)
 exact ⟨⟨y.n,y.gs⟩,a7,aC,⟨y.n,aK⟩,aL,aP,_,_,rfl,⟨(by dsimp only;omega),rfl,(by dsimp only;omega),jG⟩,jH,i,aE,N,D⟩
theorem Xz4(w0:World){aX:TypeId}(L:Option Addr)(N:Nat)(o:List Int)(j:Rd w0 w0.heap.size aX encU L o)(aE:∀ x ∈ o,0≤x∧x≤255) : Ret Tryz.prog 21 [.slice L o.length N] w0 (fun v w=>∃ (c:Cx) (A:Option Addr) (e:Nat) (d:Cx) (B:Option Addr) (f:Nat),v=.tuple #[.agg #[vi c.n,.slice A c.gs.length e],.agg #[vi d.n,.slice B d.gs.length f]]∧(c.gs.length≤12∧d.gs.length≤12)∧Own w w0.heap.size 114 3 encG A e c.gs∧Own w w0.heap.size 114 3 encG B f d.gs∧Below w0.heap.size w0 w):=by
 refine enter Tryz.func21 rfl 18 rfl rfl ?_;intro a hf
 have m:=bz w0
 refine Zs hf fun _ aY=>?_;refine Zf (X6 (zs:=[vi 0,.slice none 0 0]) X3o rfl) ?_;rintro _ w1 ⟨b4,rfl,aI,h,g⟩;have aF:=Nat.le_trans m.size aI;have aT:=(j.below' m).away aI;have m:=btr m h;refine Zf (X6 (zs:=[vi 0,.slice none 0 0]) X3o rfl) ?_;rintro _ w2 ⟨b6,rfl,aJ,h,i⟩
 have aU:b4≠b6:=by have:=g.lt;omega
 have aG:=Nat.le_trans m.size aJ;have aW:=(j.below' m).away aJ;have g:=g.below h;have m:=btr m h;refine Zx aY fun a hf _ aZ=>?_;refine Zm rfl<|Ze (Xl (ps:=[(0,.slice L o.length N)]) (cs:=[.slice L o.length N,vi 0,.int .u64 0]) rfl (fun _=>by first|rfl|kernel_rfl))<|Zf (X0v (zs:=[.slice L o.length N,vi 0,.int .u64 0]) rfl rfl) ?_;rintro _ w3 ⟨b9,rfl,aK,h,C⟩;have a7:=Nat.le_trans m.size aK;have D:=(j.below' m).away aK;have g:=g.below h;have i:=i.below h;have m:=btr m h;refine Za rfl<|ZX aZ fun a hf _ aL=>?_;refine Zs hf fun _ aM=>?_;refine Zm rfl<|Zf (Vc (Xmb _ b9 L N o (j.below' m).top aE D 0 0 C 6 (by omega)) Xei) ?_;rintro _ w4 ⟨bH,aN,aO,rfl,b8,bC,hK,E⟩;obtain ⟨wm,H,hm,h⟩:=hK.mid;clear hm;have b:=C;have g:=g.only H (Blk.ne g b rfl);have i:=i.only H (Blk.ne i b rfl);have m:=Below.only m H a7;have g:=g.below h;have i:=i.below h;have m:=btr m h
 clear b h H hK;have C:=E;clear E;refine Zt aM fun a hf=>?_
 refine Xf hf rfl (fun a8=>?_) (fun a8=>?_)
 ·have aH:=a8;refine Zs hf fun _ aP=>?_;refine Zm rfl<|Zf (Vc (Xvi _ b9 L N o (j.below' m).top aE D aN aO C (by omega)) Xjy) ?_;rintro _ w5 ⟨I,aA,aB,aQ,aR,rfl,b0,b1,k,hK,E⟩;have G:=m.size;obtain ⟨wm,H,hm,h⟩:=hK.mid;clear hm;have b:=C;have g:=g.only H (Blk.ne g b rfl);have i:=i.only H (Blk.ne i b rfl);have m:=Below.only m H a7;have g:=g.below h;have i:=i.below h;have m:=btr m h
  clear b h H hK;have C:=E;clear E
  have k:=k.lower G;clear G;refine Zm rfl<|Zf (Vc (Xvi _ b9 L N o (j.below' m).top aE D aQ aR C (by omega)) Xjy) ?_;rintro _ w6 ⟨J,aC,aD,bD,bE,rfl,b2,b3,t,hK,E⟩;have G:=m.size;obtain ⟨wm,H,hm,h⟩:=hK.mid;clear hm;have b:=C;have g:=g.only H (Blk.ne g b rfl);have i:=i.only H (Blk.ne i b rfl);have k:=k.onlyT H b rfl;have m:=Below.only m H a7;have g:=g.below h;have i:=i.below h;have k:=k.below h;have m:=btr m h
  clear b h H hK;have C:=E;clear E
  have t:=t.lower G;clear G;refine Zo (Vw [vi I.n,.slice aA I.gs.length aB] X1p g) ?_;rintro _ w7 ⟨M,hb⟩;have b:=g;have i:=i.only M (by omega);have k:=k.onlyT M b rfl;have t:=t.onlyT M b rfl;have m:=Below.only m M aF;have g:=hb;refine Zo (Vw [vi J.n,.slice aC J.gs.length aD] X1p i) ?_;rintro _ w8 ⟨M,hb⟩;have b:=i;have g:=g.only M (by omega);have k:=k.onlyT M b rfl;have t:=t.onlyT M b rfl;have m:=Below.only m M aG;have i:=hb;refine Zt aP fun a hf=>?_;refine wp_ret<|X5<|X4 hf (X1e hf rfl (ResV.cellN (l:=[vi I.n,.slice aA I.gs.length aB]) rfl X0m (g.at 0) rfl) (ResV.cellN (l:=[vi J.n,.slice aC J.gs.length aD]) rfl X0m (i.at 0) rfl)) ?_;exact ⟨⟨I.n,I.gs⟩,aA,aB,⟨J.n,J.gs⟩,aC,aD,rfl,⟨(by dsimp only;omega),(by dsimp only;omega)⟩,k,t,m⟩
 have aH:=a8;refine wp_skip<|aL _ _<|Zs hf fun _ aS=>?_;refine Zm rfl<|Zf (Vc (Y0w _ b9 L N o (j.below' m).top aE D aN aO C (by omega)) Xqg) ?_;rintro _ w9 ⟨p,Q,U,q,W,a6,bF,bG,rfl,b5,b7,u,y,hK,E⟩;have G:=m.size;have G:=m.size;obtain ⟨wm,H,hm,h⟩:=hK.mid;clear hm;have b:=C;have g:=g.only H (Blk.ne g b rfl);have i:=i.only H (Blk.ne i b rfl);have m:=Below.only m H a7;have g:=g.below h;have i:=i.below h;have m:=btr m h
 clear b h H hK;have C:=E;clear E
 have u:=u.lower G;clear G
 have y:=y.lower G;clear G;refine Ze (X3 (vs:=[.agg #[vi p.n,.slice Q p.gs.length U],.agg #[vi q.n,.slice W q.gs.length a6]]) rfl rfl)<|Ze (X3 (vs:=[.agg #[vi p.n,.slice Q p.gs.length U],.agg #[vi q.n,.slice W q.gs.length a6]]) rfl rfl)<|Zo (Vw [vi p.n,.slice Q p.gs.length U] X1p g) ?_;rintro _ bJ ⟨M,hb⟩;have b:=g;have i:=i.only M (by omega);have u:=u.onlyT M b rfl;have y:=y.onlyT M b rfl;have m:=Below.only m M aF;have g:=hb;refine Zo (Vw [vi q.n,.slice W q.gs.length a6] X1p i) ?_;rintro _ bK ⟨M,hb⟩;have b:=i;have g:=g.only M (by omega);have u:=u.onlyT M b rfl;have y:=y.onlyT M b rfl;have m:=Below.only m M aG;have i:=hb;refine Zt aS fun a hf=>?_
 refine wp_ret (X4 hf (X1e hf rfl (ResV.cellN (l:=[vi p.n,.slice Q p.gs.length U]) rfl X0m (g.at 0) rfl) (ResV.cellN (l:=[vi q.n,.slice W q.gs.length a6]) rfl X0m (i.at 0) rfl)) ?_)
 exact ⟨⟨p.n,p.gs⟩,Q,U,⟨q.n,q.gs⟩,W,a6,rfl,⟨(by dsimp only;omega),(by dsimp only;omega)⟩,u,y,m⟩
theorem G98(Q:World)(p:Mx)(Ap:Option Addr)(cp:Nat)(aS:Rd Q Q.heap.size 90 encD Ap p.cells)(q:Mx)(Aq:Option Addr)(cq:Nat)(a7:Rd Q Q.heap.size 90 encD Aq q.cells)(bG:p.cells.length≤2305843009213693951)(aW:q.cells.length≤2305843009213693951) : Ret Tryz.prog 23 [.agg #[vi p.rows,vi p.cols,.slice Ap p.cells.length cp],.agg #[vi q.rows,vi q.cols,.slice Aq q.cells.length cq]] Q (fun v w=>∃ i:Int,v=.tuple #[vi i,.bool (mOk p&&mOk q&&eqPh p q),.bool (mOk p&&mOk q)]∧((mOk p&&mOk q&&eqPh p q)=true→∃ k:Nat,k<8∧i=(k:Int)∧eqPhT p q k=true)∧Below Q.heap.size Q w):=by
 refine enter Tryz.func23 rfl 36 rfl rfl ?_;intro a g
 have l:=bz Q
 refine Zs g fun _ cA=>?_;refine Zf (X0v (zs:=[vi p.rows,vi p.cols,.slice Ap p.cells.length cp]) rfl rfl) ?_;rintro _ w1 ⟨W,rfl,cC,e,n⟩;have cG:=Nat.le_trans l.size cC;have l:=btr l e;refine Zf (X0v (zs:=[vi q.rows,vi q.cols,.slice Aq q.cells.length cq]) rfl rfl) ?_;rintro _ w2 ⟨b5,rfl,cD,e,o⟩
 have c4:W≠b5:=by have:=n.lt;omega
 have cH:=Nat.le_trans l.size cD;have n:=n.below e;have l:=btr l e;refine Za rfl<|Za rfl<|Za rfl<|ZX cA fun a g _ cE=>?_;refine wp_seq_k fun _ cF=>?_;refine X09 (fun a w=>Fr a 36 [(2,.pointer (some ⟨W,0,none⟩)),(3,.pointer (some ⟨b5,0,none⟩)),(17,.bool ((!(mOk p))||(!(mOk q))))]∧Below w2.heap.size w2 w) ?_ ?_
 ·have f:Below w2.heap.size w2 w2:=Below.refl _ _
  refine Zr g<|Ze (Vn X1t n)<|Zf (Vc (Xou _ p Ap cp (aS.below' l).top bG) Xat) ?_;rintro _ w3 ⟨rfl,e⟩;have o:=o.below e;have l:=btr l e;have f:=btr f e;refine Ze (X1a rfl)<|Zm rfl ?_
  refine Zg 13 rfl (fun x=>?_) (fun x=>?_)
  ·refine Zp (gP x) ?_;refine Zp (gP x) ?_;refine Zp (gP x) ?_;refine Ze (X9 rfl x rfl) ?_;refine Zn fun a g=>?_
   have G:Below w2.heap.size w2 w3:=f
   exact ⟨g.sub ⟨rfl,rfl,X1 rfl (by first|rfl|(simp only [x,bs];done)|simp [x]),trivial⟩,G⟩
  refine Zv (gW x) (Vn X1t o) ?_;refine Zk (gW x) (Vc (Xou _ q Aq cq (a7.below' l).top aW) Xat) ?_;rintro _ w4 ⟨rfl,e⟩;have l:=btr l e;have f:=btr f e;refine Zv (gW x) (X1a rfl) ?_;refine Ze (Xc rfl x rfl) ?_;refine Zn fun a g=>?_
  have G:Below w2.heap.size w2 w4:=f
  exact ⟨g.sub ⟨rfl,rfl,X1 rfl (by first|rfl|(simp only [x,bs];done)|simp [x]),trivial⟩,G⟩
 rintro a w5 ⟨g,e⟩;have n:=n.below e;have o:=o.below e;have l:=btr l e;refine cF _ _ ?_
 refine Xf g rfl (fun a8=>?_) (fun a8=>?_)
 ·have I:=a8;have hn:=X7b a8;refine Zs g fun _ bH=>?_;refine Za rfl<|Za rfl<|Za rfl<|Zt bH fun a g=>?_;refine wp_ret<|X5<|X4 g (X2z g rfl rfl rfl rfl) ?_;exact ⟨_,by rw [hn];rfl,fun h9=>(by rw [hn] at h9;cases h9),l⟩
 have I:=a8;have hy:=X8e a8;refine wp_skip<|cE _ _<|wp_seq_k fun _ bJ=>?_;refine Zs g fun _ bK=>?_;refine Zm rfl<|Zt bK fun a g=>?_;refine wp_block<|X05 (σ:=Nat) (fun (k:Nat) (a:Act) (w:World)=>Fr a 36 [(2,.pointer (some ⟨W,0,none⟩)),(3,.pointer (some ⟨b5,0,none⟩)),(18,vi (k:Int))]∧(k≤8)∧(∀ j<k,eqPhT p q j=false)∧Blk w W 35 [vi p.rows,vi p.cols,.slice Ap p.cells.length cp]∧Blk w b5 35 [vi q.rows,vi q.cols,.slice Aq q.cells.length cq]∧Below Q.heap.size Q w) (fun (k:Nat)=>8-k) 0 ?_ ?_
 ·exact ⟨g.sb,(by omega),(fun j hj=>by omega),n,o,l⟩
 rintro k a w6 ⟨g,hk,aA,n,o,l⟩;refine Zs g fun _ bL=>?_;refine Ze (X1u rfl rfl)<|ZX bL fun a g _ bN=>?_
 refine Xf g rfl (fun y=>?_) (fun y=>?_)
 ·have A:=y;have y:=of_decide_eq_true y
  have cJ:(k:Int)<8:=y
  refine wp_skip<|bN _ _<|wp_seq_k fun _ bO=>?_;refine wp_block<|Zs g fun _ bP=>?_;refine Zm rfl<|Za rfl<|ZX bP fun a g _ bR=>?_;refine X09 (fun a w=>∃ u B C,Fr a 36 [(2,.pointer (some ⟨W,0,none⟩)),(3,.pointer (some ⟨b5,0,none⟩)),(7,vi (k:Int)),(8,.pointer (some ⟨u,0,none⟩)),(9,.bool ((scaleI q (dPow (k:Int))).isSome)),(18,vi (k:Int))]∧Q.heap.size≤u∧Blk w u 35 [vi (((scaleI q (dPow (k:Int))).getD mZ).rows),vi (((scaleI q (dPow (k:Int))).getD mZ).cols),.slice B (((scaleI q (dPow (k:Int))).getD mZ).cells).length C]∧W≠u∧b5≠u∧Own w Q.heap.size 90 5 encD B C (((scaleI q (dPow (k:Int))).getD mZ).cells)∧Below w6.heap.size w6 w) ?_ ?_
  ·have f:Below w6.heap.size w6 w6:=Below.refl _ _
   refine Xs none (fun j=>[8].contains j) mixed ?_;intro w7 e;have n:=n.below e;have o:=o.below e;have l:=btr l e;have f:=btr f e;refine Yb g<|Ye 0 rfl (Vn X1t o)<|Yo 1 rfl (fun _=>X8 rfl) ?_
   have m:Below w7.heap.size w7 w7:=Below.refl _ _
   refine Yc [0,1,2,3,4,5,6,7] 2 (fun a w=>∃ u B C,Fr a 36 [(2,.pointer (some ⟨W,0,none⟩)),(3,.pointer (some ⟨b5,0,none⟩)),(7,vi (k:Int)),(8,.pointer (some ⟨u,0,none⟩)),(18,vi (k:Int)),(26,.agg #[vi (((scaleI q (dPow (k:Int))).getD mZ).rows),vi (((scaleI q (dPow (k:Int))).getD mZ).cols),.slice B (((scaleI q (dPow (k:Int))).getD mZ).cells).length C]),(27,.bool ((scaleI q (dPow (k:Int))).isSome))]∧Q.heap.size≤u∧Blk w u 35 [vi 0,vi 0,.slice none 0 0]∧W≠u∧b5≠u∧w7.heap.size≤u∧w6.heap.size≤u∧Own w Q.heap.size 90 5 encD B C (((scaleI q (dPow (k:Int))).getD mZ).cells)∧Below w7.heap.size w7 w) ?_ ?_
   ·rintro a w8 ⟨u,B,C,g,U,D,J,L,aX,aY,M,e⟩;clear m;have m:=e;have l:=btr l e;have f:=btr f e;refine Yb g<|Y1 8<|Yh rfl trivial rfl (Vw [vi (((scaleI q (dPow (k:Int))).getD mZ).rows),vi (((scaleI q (dPow (k:Int))).getD mZ).cols),.slice B (((scaleI q (dPow (k:Int))).getD mZ).cells).length C] X2r D) ?_;rintro _ w9 ⟨ho,hb⟩;have bS:=D;have M:=M.onlyT ho bS rfl;have f:=Below.only f ho aY;have m:=Below.only m ho aX;have l:=Below.only l ho U;have D:=hb;refine Yo 9 rfl (fun _=>X1w rfl) ?_;refine Yd fun a g=>?_
    have G:Below w6.heap.size w6 w9:=f
    exact ⟨u,B,C,g.sb,U,D,J,L,M,G⟩
   intro aT;refine Yc [0,1,2,7] 6 (fun a w=>∃ H,Fr a 36 [(2,.pointer (some ⟨W,0,none⟩)),(3,.pointer (some ⟨b5,0,none⟩)),(7,vi (k:Int)),(8,.pointer (some ⟨H,0,none⟩)),(18,vi (k:Int)),(22,.agg #[vi q.rows,vi q.cols,.slice Aq q.cells.length cq]),(24,.agg #[vi ((dPow (k:Int)).num.a),vi ((dPow (k:Int)).num.b),vi ((dPow (k:Int)).num.c),vi ((dPow (k:Int)).num.d),vi ((dPow (k:Int)).exp)])]∧Q.heap.size≤H∧Blk w H 35 [vi 0,vi 0,.slice none 0 0]∧W≠H∧b5≠H∧w7.heap.size≤H∧w6.heap.size≤H∧Below w7.heap.size w7 w) ?_ ?_
   ·rintro a cK ⟨H,g,aZ,aB,aC,aD,b0,b1,e⟩;clear m;have m:=e;have l:=btr l e;have f:=btr f e;refine Yb g<|Y1 3<|Yk rfl trivial (Vc (Y0u _ q Aq cq (a7.below' l).top (dPow (k:Int)) aW) Xma) (fun _ _ ⟨aO,aP,_,a6,e⟩=>e) ?_;rintro _ cL ⟨aO,aP,rfl,a6,e⟩;have a6:=a6.lower l.size;have aB:=aB.below e;have l:=btr l e;have f:=btr f e;have m:=btr m e;refine Yo 4 rfl (fun _=>X8 rfl)<|Yo 5 rfl (fun _=>X3 (vs:=[.agg #[vi (((scaleI q (dPow (k:Int))).getD mZ).rows),vi (((scaleI q (dPow (k:Int))).getD mZ).cols),.slice aO (((scaleI q (dPow (k:Int))).getD mZ).cells).length aP],.bool ((scaleI q (dPow (k:Int))).isSome)]) rfl rfl)<|Yo 6 rfl (fun _=>X3 (vs:=[.agg #[vi (((scaleI q (dPow (k:Int))).getD mZ).rows),vi (((scaleI q (dPow (k:Int))).getD mZ).cols),.slice aO (((scaleI q (dPow (k:Int))).getD mZ).cells).length aP],.bool ((scaleI q (dPow (k:Int))).isSome)]) rfl rfl) ?_;exact fun a g=>aT _ a _ rfl ⟨H,aO,aP,g.sb,aZ,aB,aC,aD,b0,b1,a6,m⟩
   intro aU;refine Y2 2 7 ?_ ?_
   ·refine Yk rfl trivial (Vc (Xgg _ (k:Int) (X07.2 ⟨by omega,by omega⟩)) X6q) (fun _ _ ⟨_,e⟩=>e) ?_;rintro _ cM ⟨rfl,e⟩;have n:=n.below e;have o:=o.below e;have l:=btr l e;have f:=btr f e;have m:=btr m e;refine Y2 3 7 ?_ ?_
    ·refine Yk rfl trivial (Vc (Y0u _ q Aq cq (a7.below' l).top (dPow (k:Int)) aW) Xma) (fun _ _ ⟨aQ,aR,_,E,e⟩=>e) ?_;rintro _ cN ⟨aQ,aR,rfl,E,e⟩;have E:=E.lower l.size;have n:=n.below e;have o:=o.below e;have l:=btr l e;have f:=btr f e;have m:=btr m e;refine Yo 4 rfl (fun _=>X8 rfl)<|Yo 5 rfl (fun _=>X3 (vs:=[.agg #[vi (((scaleI q (dPow (k:Int))).getD mZ).rows),vi (((scaleI q (dPow (k:Int))).getD mZ).cols),.slice aQ (((scaleI q (dPow (k:Int))).getD mZ).cells).length aR],.bool ((scaleI q (dPow (k:Int))).isSome)]) rfl rfl)<|Yo 6 rfl (fun _=>X3 (vs:=[.agg #[vi (((scaleI q (dPow (k:Int))).getD mZ).rows),vi (((scaleI q (dPow (k:Int))).getD mZ).cols),.slice aQ (((scaleI q (dPow (k:Int))).getD mZ).cells).length aR],.bool ((scaleI q (dPow (k:Int))).isSome)]) rfl rfl)<|Y1 7 ?_;refine Yk rfl trivial (X6 (zs:=[vi 0,vi 0,.slice none 0 0]) X44 rfl) (fun _ _ ⟨_,_,_,h,_⟩=>h) ?_;rintro _ cO ⟨b26,rfl,aE,e,bU⟩
     have aF:W≠b26:=by have:=n.lt;omega
     have aG:b5≠b26:=by have:=o.lt;omega
     have b2:=Nat.le_trans l.size aE;have b3:=Nat.le_trans f.size aE;have b6:=Nat.le_trans m.size aE;have E:=E.below e;have l:=btr l e;have f:=btr f e;have m:=btr m e;exact fun a g=>aT _ a _ rfl ⟨b26,aQ,aR,g.sb,b2,bU,aF,aG,b6,b3,E,m⟩
    refine Yk rfl trivial (X6 (zs:=[vi 0,vi 0,.slice none 0 0]) X44 rfl) (fun _ _ ⟨_,_,_,h,_⟩=>h) ?_;rintro _ cP ⟨b28,rfl,aH,e,bW⟩
    have aI:W≠b28:=by have:=n.lt;omega
    have aJ:b5≠b28:=by have:=o.lt;omega
    have b7:=Nat.le_trans l.size aH;have b8:=Nat.le_trans f.size aH;have b9:=Nat.le_trans m.size aH;have l:=btr l e;have f:=btr f e;have m:=btr m e;exact fun a g=>aU _ a _ rfl ⟨b28,g.sb,b7,bW,aI,aJ,b9,b8,m⟩
   refine Yk rfl trivial (X6 (zs:=[vi 0,vi 0,.slice none 0 0]) X44 rfl) (fun _ _ ⟨_,_,_,h,_⟩=>h) ?_;rintro _ cQ ⟨b30,rfl,aK,e,aL⟩
   have aM:W≠b30:=by have:=n.lt;omega
   have aN:b5≠b30:=by have:=o.lt;omega
   have bC:=Nat.le_trans l.size aK;have bD:=Nat.le_trans f.size aK;have bE:=Nat.le_trans m.size aK;have l:=btr l e;have f:=btr f e;have m:=btr m e;refine Y1 2<|Yk rfl trivial (Vc (Xgg _ (k:Int) (X07.2 ⟨by omega,by omega⟩)) X6q) (fun _ _ ⟨_,e⟩=>e) ?_;rintro _ cR ⟨rfl,e⟩;have aL:=aL.below e;have l:=btr l e;have f:=btr f e;have m:=btr m e;exact fun a g=>aU _ a _ rfl ⟨b30,g.sb,bC,aL,aM,aN,bE,bD,m⟩
  rintro a w18 ⟨u,B,C,g,U,D,J,L,M,e⟩;have n:=n.below e;have o:=o.below e;have l:=btr l e;refine bR _ _<|wp_seq_k fun _ bX=>?_;refine X09 (fun a w=>Fr a 36 [(2,.pointer (some ⟨W,0,none⟩)),(3,.pointer (some ⟨b5,0,none⟩)),(7,vi (k:Int)),(18,vi (k:Int)),(33,.bool (((scaleI q (dPow (k:Int))).isSome)&&(decide (p.rows=((scaleI q (dPow (k:Int))).getD mZ).rows)&&decide (p.cols=((scaleI q (dPow (k:Int))).getD mZ).cols)&&decide (p.cells=((scaleI q (dPow (k:Int))).getD mZ).cells))))]∧Below w18.heap.size w18 w) ?_ ?_
  ·have f:Below w18.heap.size w18 w18:=Below.refl _ _
   refine Zr g<|Zm rfl<|Zm rfl ?_
   refine Zg 29 rfl (fun t=>?_) (fun t=>?_)
   ·refine Zv (gW t) (Vn X1t n) ?_;refine Zv (gW t) (Vn X1t D) ?_;refine Zk (gW t) (Vc (Y2n _ p Ap cp (aS.below' l).top ((scaleI q (dPow (k:Int))).getD mZ) B C M.rd.top bG) Xxa) ?_;rintro _ w19 ⟨rfl,e⟩;have l:=btr l e;have f:=btr f e;refine Ze (X9 rfl t rfl) ?_;refine Zn fun a g=>?_
    have G:Below w18.heap.size w18 w19:=f
    exact ⟨g.sub ⟨rfl,rfl,rfl,rfl,X1 rfl (by first|rfl|(simp only [I,A,t,bs];done)|simp [I,A,t]),trivial⟩,G⟩
   refine Zp (gP t) ?_;refine Zp (gP t) ?_;refine Zp (gP t) ?_;refine Ze (Xc rfl t rfl) ?_;refine Zn fun a g=>?_
   have G:Below w18.heap.size w18 w18:=f
   exact ⟨g.sub ⟨rfl,rfl,rfl,rfl,X1 rfl (by first|rfl|(simp only [I,A,t,bs];done)|simp [I,A,t]),trivial⟩,G⟩
  rintro a cS ⟨g,e⟩;have n:=n.below e;have o:=o.below e;have l:=btr l e;refine bX _ _ ?_
  refine Xf g rfl (fun N=>?_) (fun N=>?_)
  ·have bF:=N
   have hT:eqPhT p q k=true:=N
   refine Zs g fun _ bY=>?_;refine Zm rfl<|Za rfl<|Za rfl<|Za rfl<|Zt bY fun a g=>?_;refine wp_ret<|Xi<|X5<|X5 ?_;refine Xi<|X5<|X4 g (X2z g rfl rfl rfl rfl) ?_;exact ⟨_,by rw [hy,Bool.true_and,eqPh,Xcx (by omega) hT],fun _=>⟨k,by omega,rfl,hT⟩,l⟩
  have bF:=N
  have hT:eqPhT p q k=false:=N
  refine wp_skip<|Xb<|bO _ _<|Zr g ?_;refine Ze (Xw rfl rfl (by omega) (by omega))<|Zm rfl ?_;refine Zn fun a g=>?_;refine Xe ?_;exact ⟨k+1,⟨g.sb,(by omega),(fun j hj=>by rcases Nat.lt_or_ge j k with h9|h9;exact aA j h9;obtain rfl:j=k:=(by omega);exact hT),n,o,l⟩,(by omega)⟩
 have A:=y;have y:=of_decide_eq_false y;refine wp_exit<|Xh<|Xh<|Xz ?_;refine bJ _ _<|Zs g fun _ bZ=>?_;refine Za rfl<|Za rfl<|Za rfl<|Zt bZ fun a g=>?_
 refine wp_ret (X4 g (X2z g rfl rfl rfl rfl) ?_)
 exact ⟨_,by rw [hy,Bool.true_and,eqPh,X80 (fun j hj=>aA j (by omega))],fun h9=>(by rw [hy,Bool.true_and,eqPh,X80 (fun j hj=>aA j (by omega))] at h9;cases h9),l⟩
theorem Xkc{k:Nat}(h:k<8) : omZ (k:Int)=om^k:=by unfold omZ;congr 1;omega
theorem Xeu{c d:Cx}{N:Nat}{M M':Mx}(hc:c.n=N)(hd:d.n=N)(h1:opI c=some M)(h2:opI d=some M'){k:Nat}(hk:k<8) : eqPhT M M' k=true↔PhB N c.gs d.gs k:=by
 obtain ⟨v1,m1,r1,q1⟩:=Xdl hc h1;obtain ⟨v2,m2,r2,q2⟩:=Xdl hd h2
 have l1:=X7f m1
 have l2:=X7f m2
 rw [r1,q1,Int.toNat_natCast] at l1
 rw [r2,q2,Int.toNat_natCast] at l2
 have hcell:(∀ i j,i<2^N→j<2^N→M.at i j=dTurn k (M'.at i j))↔PhB N c.gs d.gs k:=by
  constructor
  ·intro h i j hi hj
   have e1:=v1 i j hi hj
   have e2:=Xq2 (Mx.at_ok (X6b m2) i j) (v2 i j hi hj) hk
   rw [← h i j hi hj] at e2
   have e3:=e1.cross e2
   rw [Xkc hk,e3,Xj]
  ·intro h i j hi hj
   have e1:=v1 i j hi hj
   have e2:=Xq2 (Mx.at_ok (X6b m2) i j) (v2 i j hi hj) hk
   have o2:=Mx.at_ok (X6b m2) i j
   refine Xv6 (m:=hs c.gs+hs d.gs) (z:=s2^hs d.gs*run c.gs (eb N j) (pt N i)) (Mx.at_ok (X6b m1) i j) ?_ (e1.up _) ?_
   ·have hp:V (dPow k) 0 (dPow k).num:=Xh5 (by rfl) rfl
    exact (Xut (Xd5 o2 hk) (v2 i j hi hj) hp).2
   ·have e3:=e2.up (hs c.gs)
    rw [h i j hi hj,Nat.add_comm,Xkc hk,Xj]
    exact e3
 have ht:eqPhT M M' k=turnedS M M' k:=by rw [eqPhT,Xhm m2 hk];rfl
 rw [ht,← hcell,← Xg4 l1.2.2 l2.2.2 q1 q2]
 unfold turnedS
 simp only [Bool.and_eq_true,decide_eq_true_eq]
 exact ⟨fun h=>h.2,fun h=>⟨⟨by rw [r1,r2],by rw [q1,q2]⟩,h⟩⟩
theorem Xpw{a b:Cx}(h2:(veM a b).2.2=true) : ∃ (N:Nat) (c:Cx) (p:Ps),N≤5∧a.n=(N:Int)∧b.n=(N:Int)∧(∀ g ∈ a.gs,gOk (N:Int) g=true)∧(∀ g ∈ b.gs,gOk (N:Int) g=true)∧c.gs=a.gs++invL b.gs∧c.n=(N:Int)∧cOk c=true∧psC c=some p∧veM a b=veP p:=by
 cases e:(invO b).bind (conO a) with
 | none=>unfold veM at h2;rw [e] at h2;cases h2
 | some c=>
  have hv:veM a b=veO (some c):=by unfold veM;rw [e]
  cases e2:psC c with
  | none=>rw [hv,Xp3 e2] at h2;cases h2
  | some p=>
   cases e3:invO b with
   | none=>rw [e3] at e;cases e
   | some x=>
    rw [e3,Option.bind_some] at e
    have hok:=Xbj e
    unfold invO at e3
    split at e3
    ·rename_i hb
     injection e3 with e3
     subst e3
     unfold conO at e
     split at e
     ·rename_i hc
      injection e with e
      subst e
      simp only [Bool.and_eq_true,decide_eq_true_eq] at hb hc
      obtain ⟨N,hN,h1,h5⟩:=Xfr hc.1.1.1
      have hbn:b.n=(N:Int):=by rw [← hN];exact hc.1.2.symm
      refine ⟨N,⟨a.n,a.gs++invL b.gs⟩,p,h5,hN,hbn,fun g hg=>?_,fun g hg=>?_,rfl,hN,hok,e2,hv.trans (Xnf e2)⟩
      ·rw [← hN];exact (X2o.1 hc.1.1.1).2.2 g hg
      ·rw [← hbn];exact (X2o.1 hb.1).2.2 g hg
     ·cases e
    ·cases e3
theorem Xru{a b:Cx}(h2:(veM a b).2.2=true)(h1:¬ (veM a b).1=0)(hM:(opI a).isSome=true)(hM':(opI b).isSome=true) :
  (mOk ((opI a).getD mZ)&&mOk ((opI b).getD mZ))=true∧eqPh ((opI a).getD mZ) ((opI b).getD mZ)=((veM a b).1==1)∧∀ k:Nat,k<8→eqPhT ((opI a).getD mZ) ((opI b).getD mZ) k=true→(k:Int)=(veM a b).2.1:=by
 obtain ⟨N,c,p,hN,han,hbn,ha,hb,hc,hcn,hok,hp,hv⟩:=Xpw h2;obtain ⟨M,eM⟩:=Option.isSome_iff_exists.1 hM;obtain ⟨M',eM'⟩:=Option.isSome_iff_exists.1 hM'
 rw [eM,eM',Option.getD_some,Option.getD_some]
 have m1:=(Xdl han eM).2.1
 have m2:=(Xdl hbn eM').2.1
 refine ⟨by rw [m1,m2];rfl,?_⟩
 have hph:=(VPs.of (X3w (X4j hok hp))).ph
 rw [hv] at h1 ⊢
 by_cases hid:idP (redP p).1=true
 ·rw [ve1 hid]
  have hE:=Xx1 hN ha hb hc hcn hok hp hid
  obtain ⟨k0,hk0,e0⟩ : ∃ k0:Nat,k0<8∧(redP p).1.phase=(k0:Int):=⟨(redP p).1.phase.toNat,by omega,by omega⟩
  refine ⟨Xcx hk0 ((Xeu han hbn eM eM' hk0).2 (by rw [← e0];exact hE)),fun k hk h=>?_⟩
  have:=Xsl hN ha hb hc hcn hok hp ((Xeu han hbn eM eM' hk).1 h) hE
  show (k:Int)=(redP p).1.phase
  omega
 ·have hid':idP (redP p).1=false:=by simpa using hid
  by_cases h0:(redP p).1.vars=0
  ·rw [ve2 hid' h0]
   have hno:∀ k:Nat,k<8→¬ eqPhT M M' k=true:=fun k hk h=>hid (Xvt hN ha hb hc hcn hok hp h0 ((Xeu han hbn eM eM' hk).1 h))
   exact ⟨X80 fun k hk=>by simpa using hno k hk,fun k hk h=>absurd h (hno k hk)⟩
  ·rw [ve3 hid' h0] at h1
   exact absurd rfl h1
theorem Y0q(w0:World){bX:TypeId}(aR:Option Addr)(b0:Nat)(aF:List Int)(C:Rd w0 w0.heap.size bX encU aR aF)(bY:∀ x ∈ aF,0≤x∧x≤255){bZ:TypeId}(b1:Option Addr)(c4:Nat)(more:List Int)(M:Rd w0 w0.heap.size bZ encU b1 more)(cJ:∀ x ∈ more,0≤x∧x≤255)(b2:TabAt w0)(cA:1<w0.heap.size) : Ret Tryz.prog 5 [.slice aR aF.length b0,.slice b1 more.length c4] w0 (fun v w=>v=.bool true∧Below w0.heap.size w0 w):=by
 refine enter Tryz.func5 rfl 108 rfl rfl ?_;intro a f
 have g:=bz w0
 refine Zs f fun _ cC=>?_;refine Za rfl<|ZX cC fun a f _ cD=>?_;refine Zs f fun _ cE=>?_;refine Zm rfl<|Ze (X1i rfl X7l)<|Zm rfl<|Ze (X1i rfl X7l)<|Ze (X6i rfl rfl) ?_;refine Ze (X4r rfl rfl)<|Zt cE fun a f=>?_
 refine Xf f rfl (fun aE=>?_) (fun aE=>?_)
 ·have j:=aE;have aE:=of_decide_eq_true aE;refine Zs f fun _ cF=>?_;refine Za rfl<|Zt cF fun a f=>?_;refine wp_ret<|X5<|X4 f (X00 f rfl rfl) ?_
  try exact ⟨rfl,g⟩
  all_goals exact ⟨by first|rfl|(clear aC v3 N D l aB E G;rcases W with h|h<;>simp_all),g⟩
 have j:=aE;have aE:=of_decide_eq_false aE;refine wp_skip<|cD _ _<|Zs f fun _ cG=>?_;refine Zm rfl<|Zf (Vc (Xz4 _ aR b0 aF (C.below' g).top bY) Xrd) ?_;rintro _ w1 ⟨b,a6,a7,c,a8,aA,rfl,U,e,d,q⟩;have e:=e.lower g.size;have d:=d.lower g.size;have g:=btr g q;refine Zm rfl<|Ze (X3 (vs:=[.agg #[vi b.n,.slice a6 b.gs.length a7],.agg #[vi c.n,.slice a8 c.gs.length aA]]) rfl rfl)<|Ze (X3 (vs:=[.agg #[vi b.n,.slice a6 b.gs.length a7],.agg #[vi c.n,.slice a8 c.gs.length aA]]) rfl rfl)<|Zf (X6 (zs:=[vi 0,.slice none 0 0]) X3o rfl) ?_;rintro _ w2 ⟨aS,rfl,aJ,q,m⟩;have aT:=Nat.le_trans g.size aJ;have b3:=(C.below' g).away aJ;have b4:=(M.below' g).away aJ;have e:=e.below q;have d:=d.below q;have g:=btr g q;refine Zf (X6 (zs:=[vi 0,.slice none 0 0]) X3o rfl) ?_;rintro _ w3 ⟨b14,rfl,aK,q,i⟩
 have aY:aS≠b14:=by have:=m.lt;omega
 have aU:=Nat.le_trans g.size aK;have b5:=(C.below' g).away aK;have b6:=(M.below' g).away aK;have m:=m.below q;have e:=e.below q;have d:=d.below q;have g:=btr g q;refine Zo (Vw [vi b.n,.slice a6 b.gs.length a7] X1p m) ?_;rintro _ w4 ⟨ho,hb⟩;have B:=m;have i:=i.only ho (by omega);have e:=e.onlyT ho B rfl;have d:=d.onlyT ho B rfl;have g:=Below.only g ho aT;have m:=hb;refine Zo (Vw [vi c.n,.slice a8 c.gs.length aA] X1p i) ?_;rintro _ w5 ⟨ho,hb⟩;have B:=i;have m:=m.only ho (by omega);have e:=e.onlyT ho B rfl;have d:=d.onlyT ho B rfl;have g:=Below.only g ho aU;have i:=hb;refine Zx cG fun a f _ b7=>?_;refine Ze (Vn X0m m)<|Ze (Vn X0m i)<|Zf (Vc (Y1n _ b a6 a7 e.rd.top c a8 aA d.rd.top (Nat.le_trans U.1 (by decide)) (Nat.le_trans U.2 (by decide)) (b2.up g cA) (by have:=g.size;omega)) Xrr) ?_;rintro _ w6 ⟨rfl,q⟩;have m:=m.below q;have i:=i.below q;have e:=e.below q;have d:=d.below q;have g:=btr g q;refine Zm rfl<|Ze (X3 (vs:=[vi ((veM b c).1),vi ((veM b c).2.1),.bool ((veM b c).2.2)]) rfl rfl)<|Ze (X3 (vs:=[vi ((veM b c).1),vi ((veM b c).2.1),.bool ((veM b c).2.2)]) rfl rfl)<|Ze (X3 (vs:=[vi ((veM b c).1),vi ((veM b c).2.1),.bool ((veM b c).2.2)]) rfl rfl)<|Za rfl ?_;refine Za rfl<|Za rfl<|Zx b7 fun a f _ b8=>?_;refine Ze (Vn X0m m)<|Ze (Vn X0m i)<|Zf (Vc (Y0g _ b a6 a7 e.rd.top c a8 aA d.rd.top (Nat.le_trans U.1 (by decide)) (Nat.le_trans U.2 (by decide))) Xrp) ?_;rintro _ w7 ⟨rfl,q⟩
 have m:=m.below q;have i:=i.below q;have e:=e.below q;have d:=d.below q;have g:=btr g q;refine Zm rfl<|Ze (X3 (vs:=[vi ((veM b c).1),vi ((veM b c).2.1),.bool ((veM b c).2.2)]) rfl rfl)<|Ze (X3 (vs:=[vi ((veM b c).1),vi ((veM b c).2.1),.bool ((veM b c).2.2)]) rfl rfl)<|Ze (X3 (vs:=[vi ((veM b c).1),vi ((veM b c).2.1),.bool ((veM b c).2.2)]) rfl rfl)<|Za rfl ?_;refine Za rfl<|Za rfl<|ZX b8 fun a f _ b9=>?_;refine wp_seq_k fun _ bC=>?_;refine X09 (fun a w=>Fr a 108 [(5,.pointer (some ⟨aS,0,none⟩)),(6,.pointer (some ⟨b14,0,none⟩)),(7,vi ((veM b c).1)),(8,vi ((veM b c).2.1)),(9,.bool ((veM b c).2.2)),(57,.bool (((((veM b c).2.2) != ((veM b c).2.2))||(((veM b c).1) != ((veM b c).1)))||(((veM b c).2.1) != ((veM b c).2.1))))]∧w7=w) ?_ ?_
 ·refine Zr f<|Zm rfl<|Zm rfl<|Ze (Y1w Tryz.underlying4 rfl rfl)<|Zm rfl ?_
  refine Zg 48 rfl (fun o=>?_) (fun o=>?_)
  ·refine Zp (gP o) ?_;refine Zp (gP o) ?_;refine Zp (gP o) ?_;refine Ze (X9 rfl o rfl)<|Zm rfl<|Zp (gP rfl) ?_;refine Zp (gP rfl) ?_;refine Zp (gP rfl) ?_;refine Ze (X9 rfl rfl rfl) ?_;refine Zn fun a f=>?_;exact ⟨f.sub ⟨rfl,rfl,rfl,rfl,rfl,X1 rfl (by first|rfl|(simp only [j,o,bs];done)|simp [j,o]),trivial⟩,rfl⟩
  refine Zv (gW o) (X8 rfl) ?_;refine Zv (gW o) (X8 rfl) ?_;refine Zv (gW o) (X4m rfl rfl) ?_;refine Ze (Xc rfl o rfl)<|Zm rfl ?_
  refine Zg 53 rfl (fun t=>?_) (fun t=>?_)
  ·refine Zp (gP t) ?_;refine Zp (gP t) ?_;refine Zp (gP t) ?_;refine Ze (X9 rfl t rfl) ?_;refine Zn fun a f=>?_;exact ⟨f.sub ⟨rfl,rfl,rfl,rfl,rfl,X1 rfl (by first|rfl|(simp only [j,o,t,bs];done)|simp [j,o,t]),trivial⟩,rfl⟩
  refine Zv (gW t) (X8 rfl) ?_;refine Zv (gW t) (X8 rfl) ?_;refine Zv (gW t) (X4m rfl rfl) ?_;refine Ze (Xc rfl t rfl) ?_;refine Zn fun a f=>?_;exact ⟨f.sub ⟨rfl,rfl,rfl,rfl,rfl,X1 rfl (by first|rfl|(simp only [j,o,t,bs];done)|simp [j,o,t]),trivial⟩,rfl⟩
 rintro a _ ⟨f,rfl⟩;refine bC _ _ ?_
 refine Xf f rfl (fun aG=>?_) (fun aG=>?_)
 ·have p:=aG
  simp at aG
 have p:=aG;refine wp_skip<|b9 _ _<|wp_seq_k fun _ bD=>?_;refine wp_seq_k fun _ bE=>?_;refine X09 (fun a w=>Fr a 108 [(5,.pointer (some ⟨aS,0,none⟩)),(6,.pointer (some ⟨b14,0,none⟩)),(7,vi ((veM b c).1)),(8,vi ((veM b c).2.1)),(68,.bool (((!((veM b c).2.2))||(((veM b c).1)==0))||(decide (3<b.n))))]∧w7=w) ?_ ?_
 ·refine Zr f<|Zm rfl<|Ze (X1a rfl)<|Zm rfl ?_
  refine Zg 60 rfl (fun u=>?_) (fun u=>?_)
  ·refine Zp (gP u) ?_;refine Zp (gP u) ?_;refine Ze (X9 rfl u rfl)<|Zm rfl<|Zp (gP rfl) ?_;refine Zp (gP rfl) ?_;refine Zp (gP rfl) ?_;refine Ze (X9 rfl rfl rfl) ?_;refine Zn fun a f=>?_;exact ⟨f.sub ⟨rfl,rfl,rfl,rfl,X1 rfl (by first|rfl|(simp only [j,p,u,bs];done)|simp [j,p,u]),trivial⟩,rfl⟩
  refine Zv (gW u) (X8 rfl) ?_;refine Zv (gW u) (X0d rfl rfl) ?_;refine Ze (Xc rfl u rfl)<|Zm rfl ?_
  refine Zg 64 rfl (fun y=>?_) (fun y=>?_)
  ·refine Zp (gP y) ?_;refine Zp (gP y) ?_;refine Zp (gP y) ?_;refine Ze (X9 rfl y rfl) ?_;refine Zn fun a f=>?_;exact ⟨f.sub ⟨rfl,rfl,rfl,rfl,X1 rfl (by first|rfl|(simp only [j,p,u,y,bs];done)|simp [j,p,u,y]),trivial⟩,rfl⟩
  refine Zv (gW y) (Vd rfl X1z 0) ?_;refine Zv (gW y) (X0 rfl X2 (m.at 0)) ?_;refine Zv (gW y) (X4r rfl rfl) ?_;refine Ze (Xc rfl y rfl) ?_;refine Zn fun a f=>?_;exact ⟨f.sub ⟨rfl,rfl,rfl,rfl,X1 rfl (by first|rfl|(simp only [j,p,u,y,bs];done)|simp [j,p,u,y]),trivial⟩,rfl⟩
 rintro a _ ⟨f,rfl⟩;refine bE _ _ ?_
 refine Xf f rfl (fun D=>?_) (fun D=>?_)
 ·have l:=D;refine Zs f fun _ bF=>?_;refine Za rfl<|Zt bF fun a f=>?_;refine wp_ret<|X5<|X4 f (X00 f rfl rfl) ?_
  try exact ⟨rfl,g⟩
  all_goals exact ⟨by first|rfl|(clear aC v3 N D l aB E G;rcases W with h|h<;>simp_all),g⟩
 have l:=D
 have aB:(veM b c).2.2=true∧¬ (veM b c).1=0:=by have h7:=D;revert h7;cases (veM b c).2.2<;>simp;intro h8 _;exact h8
 refine wp_skip<|bD _ _<|Zs f fun _ bG=>?_;refine Ze (Vn X0m m)<|Zf (Vc (F97 _ b a6 a7 e.rd.top (Nat.le_trans U.1 (by decide))) Xuu) ?_;rintro _ w8 ⟨aL,aM,rfl,H,q⟩;have i:=i.below q;have d:=d.below q;have g:=btr g q;refine Zm rfl<|Ze (X3 (vs:=[.agg #[vi (((opI b).getD mZ).rows),vi (((opI b).getD mZ).cols),.slice aL (((opI b).getD mZ).cells).length aM],.bool ((opI b).isSome)]) rfl rfl)<|Ze (X3 (vs:=[.agg #[vi (((opI b).getD mZ).rows),vi (((opI b).getD mZ).cols),.slice aL (((opI b).getD mZ).cells).length aM],.bool ((opI b).isSome)]) rfl rfl)<|Zf (X6 (zs:=[vi 0,vi 0,.slice none 0 0]) X44 rfl) ?_;rintro _ w9 ⟨bH,rfl,aN,q,I⟩;have aW:=Nat.le_trans g.size aN;have bJ:=(C.below' g).away aN;have bK:=(M.below' g).away aN;have i:=i.below q;have d:=d.below q;have H:=H.below q;have g:=btr g q;refine Zo (Vw [vi (((opI b).getD mZ).rows),vi (((opI b).getD mZ).cols),.slice aL (((opI b).getD mZ).cells).length aM] X2r I) ?_;rintro _ cK ⟨ho,hb⟩;have B:=I;have i:=i.only ho (Blk.ne i B rfl);have d:=d.onlyT ho B rfl;have H:=H.onlyT ho B rfl;have g:=Below.only g ho aW;have I:=hb;refine Za rfl<|Zx bG fun a f _ bL=>?_;refine Ze (Vn X0m i)<|Zf (Vc (F97 _ c a8 aA d.rd.top (Nat.le_trans U.2 (by decide))) Xuu) ?_;rintro _ cL ⟨aO,aP,rfl,aD,q⟩;have I:=I.below q;have H:=H.below q;have g:=btr g q;refine Zm rfl<|Ze (X3 (vs:=[.agg #[vi (((opI c).getD mZ).rows),vi (((opI c).getD mZ).cols),.slice aO (((opI c).getD mZ).cells).length aP],.bool ((opI c).isSome)]) rfl rfl)<|Ze (X3 (vs:=[.agg #[vi (((opI c).getD mZ).rows),vi (((opI c).getD mZ).cols),.slice aO (((opI c).getD mZ).cells).length aP],.bool ((opI c).isSome)]) rfl rfl)<|Zf (X6 (zs:=[vi 0,vi 0,.slice none 0 0]) X44 rfl) ?_;rintro _ cM ⟨b35,rfl,aQ,q,aH⟩
 have aZ:bH≠b35:=by have:=I.lt;omega
 have aX:=Nat.le_trans g.size aQ;have bN:=(C.below' g).away aQ;have bO:=(M.below' g).away aQ;have I:=I.below q;have H:=H.below q;have aD:=aD.below q;have g:=btr g q;refine Zo (Vw [vi (((opI c).getD mZ).rows),vi (((opI c).getD mZ).cols),.slice aO (((opI c).getD mZ).cells).length aP] X2r aH) ?_;rintro _ cH ⟨ho,hb⟩;have B:=aH;have I:=I.only ho (by omega);have H:=H.onlyT ho B rfl;have aD:=aD.onlyT ho B rfl;have g:=Below.only g ho aX;have aH:=hb;refine Za rfl<|ZX bL fun a f _ bP=>?_;refine wp_seq_k fun _ bR=>?_;refine X09 (fun a w=>Fr a 108 [(7,vi ((veM b c).1)),(8,vi ((veM b c).2.1)),(13,.pointer (some ⟨bH,0,none⟩)),(15,.pointer (some ⟨b35,0,none⟩)),(84,.bool ((!((opI b).isSome))||(!((opI c).isSome))))]∧cH=w) ?_ ?_
 ·refine Zr f<|Zm rfl<|Ze (X1a rfl)<|Zm rfl ?_
  refine Zg 81 rfl (fun J=>?_) (fun J=>?_)
  ·refine Zp (gP J) ?_;refine Zp (gP J) ?_;refine Ze (X9 rfl J rfl) ?_;refine Zn fun a f=>?_;exact ⟨f.sub ⟨rfl,rfl,rfl,rfl,X1 rfl (by first|rfl|(simp only [j,p,l,J,bs];done)|simp [j,p,l,J]),trivial⟩,rfl⟩
  refine Zv (gW J) (X8 rfl) ?_;refine Zv (gW J) (X1a rfl) ?_;refine Ze (Xc rfl J rfl) ?_;refine Zn fun a f=>?_;exact ⟨f.sub ⟨rfl,rfl,rfl,rfl,X1 rfl (by first|rfl|(simp only [j,p,l,J,bs];done)|simp [j,p,l,J]),trivial⟩,rfl⟩
 rintro a _ ⟨f,rfl⟩;refine bR _ _ ?_
 refine Xf f rfl (fun E=>?_) (fun E=>?_)
 ·have G:=E;refine Zs f fun _ bS=>?_;refine Za rfl<|Zt bS fun a f=>?_;refine wp_ret<|X5<|X4 f (X00 f rfl rfl) ?_
  try exact ⟨rfl,g⟩
  all_goals exact ⟨by first|rfl|(clear aC v3 N D l aB E G;rcases W with h|h<;>simp_all),g⟩
 have G:=E
 have bU:(opI b).isSome=true∧(opI c).isSome=true:=by have h7:=E;revert h7;cases (opI b).isSome<;>cases (opI c).isSome<;>simp
 obtain ⟨v1,v2,v3⟩:=Xru aB.1 aB.2 bU.1 bU.2;refine wp_skip<|bP _ _<|Zs f fun _ bW=>?_;refine Ze (Vn X1t I)<|Ze (Vn X1t aH)<|Zf (Xuh (vs:=[.agg #[vi (((opI b).getD mZ).rows),vi (((opI b).getD mZ).cols),.slice aL (((opI b).getD mZ).cells).length aM],.agg #[vi (((opI c).getD mZ).rows),vi (((opI c).getD mZ).cols),.slice aO (((opI c).getD mZ).cells).length aP]]) rfl Y1e (G98 _ ((opI b).getD mZ) aL aM H.top ((opI c).getD mZ) aO aP aD.top (Xpt _) (Xpt _))) ?_;rintro _ cN ⟨ix,rfl,aC,q⟩;have g:=btr g q
 have N:eqPh ((opI b).getD mZ) ((opI c).getD mZ)=true→ix=(veM b c).2.1:=(fun h=>by obtain ⟨k,hk,e1,e2⟩:=aC (by rw [v1,h];rfl);rw [e1];exact v3 k hk e2)
 have W:((veM b c).1==1)=false∨ix=(veM b c).2.1:=by rw [v2] at N;cases e9:((veM b c).1==1);exact .inl rfl;exact .inr (N e9)
 refine Zm rfl<|Ze (X3 (vs:=[vi ix,.bool (mOk ((opI b).getD mZ)&&mOk ((opI c).getD mZ)&&eqPh ((opI b).getD mZ) ((opI c).getD mZ)),.bool (mOk ((opI b).getD mZ)&&mOk ((opI c).getD mZ))]) rfl rfl)<|Ze (X3 (vs:=[vi ix,.bool (mOk ((opI b).getD mZ)&&mOk ((opI c).getD mZ)&&eqPh ((opI b).getD mZ) ((opI c).getD mZ)),.bool (mOk ((opI b).getD mZ)&&mOk ((opI c).getD mZ))]) rfl rfl)<|Ze (X3 (vs:=[vi ix,.bool (mOk ((opI b).getD mZ)&&mOk ((opI c).getD mZ)&&eqPh ((opI b).getD mZ) ((opI c).getD mZ)),.bool (mOk ((opI b).getD mZ)&&mOk ((opI c).getD mZ))]) rfl rfl)<|Za rfl ?_;refine Za rfl<|Za rfl<|Zx bW fun a f _ aI=>?_;refine Zm rfl<|Zm rfl ?_
 refine Zg 93 rfl (fun L=>?_) (fun L=>?_)
 ·refine Zv (gW L) (X8 rfl) ?_;refine Zv (gW L) (X8 rfl) ?_;refine Zv (gW L) (X0d rfl rfl) ?_;refine Zv (gW L) (Xz9 Tryz.underlying4 rfl rfl) ?_;refine Ze (X9 rfl L rfl)<|Zm rfl ?_
  refine Zg 99 rfl (fun A=>?_) (fun A=>?_)
  ·refine Zv (gW A) (X8 rfl) ?_;refine Zv (gW A) (X1a rfl) ?_;refine Zv (gW A) (X8 rfl) ?_
   refine Zg 102 rfl (fun Q=>?_) (fun Q=>?_)
   ·refine Zp (gP Q) ?_;refine Zp (gP Q) ?_;refine Zp (gP Q) ?_;refine Zv (gW A) (X9 rfl Q rfl) ?_;refine Ze (X9 rfl A rfl)<|Za rfl<|Zt aI fun a f=>?_
    refine wp_ret (X4 f (X00 f rfl rfl) ?_)
    try exact ⟨rfl,g⟩
    all_goals exact ⟨by first|rfl|(clear aC v3 N D l aB E G;rcases W with h|h<;>simp_all),g⟩
   refine Zv (gW Q) (X8 rfl) ?_;refine Zv (gW Q) (X8 rfl) ?_;refine Zv (gW Q) (X0d rfl rfl) ?_;refine Zv (gW A) (Xc rfl Q rfl) ?_;refine Ze (X9 rfl A rfl)<|Za rfl<|Zt aI fun a f=>?_
   refine wp_ret (X4 f (X00 f rfl rfl) ?_)
   try exact ⟨rfl,g⟩
   all_goals exact ⟨by first|rfl|(clear aC v3 N D l aB E G;rcases W with h|h<;>simp_all),g⟩
  refine Zp (gP A) ?_;refine Zp (gP A) ?_;refine Zp (gP A) ?_;refine Zp (gP trivial) ?_;refine Zp (gP trivial) ?_;refine Zp (gP trivial) ?_;refine Zp (gP A) ?_;refine Ze (Xc rfl A rfl)<|Za rfl<|Zt aI fun a f=>?_
  refine wp_ret (X4 f (X00 f rfl rfl) ?_)
  try exact ⟨rfl,g⟩
  all_goals exact ⟨by first|rfl|(clear aC v3 N D l aB E G;rcases W with h|h<;>simp_all),g⟩
 refine Zp (gP L) ?_;refine Zp (gP L) ?_;refine Zp (gP L) ?_;refine Zp (gP L) ?_;refine Ze (Xc rfl L rfl)<|Zm rfl<|Zp (gP rfl) ?_;refine Zp (gP rfl) ?_;refine Zp (gP rfl) ?_;refine Zp (gP trivial) ?_;refine Zp (gP trivial) ?_;refine Zp (gP trivial) ?_;refine Zp (gP rfl) ?_;refine Ze (Xc rfl rfl rfl)<|Za rfl<|Zt aI fun a f=>?_
 refine wp_ret (X4 f (X00 f rfl rfl) ?_)
 try exact ⟨rfl,g⟩
 all_goals exact ⟨by first|rfl|(clear aC v3 N D l aB E G;rcases W with h|h<;>simp_all),g⟩
theorem Y1h : Tryz.prog.globalNamed "math/bits.deBruijn64tab" = some 1 := by kernel_rfl
theorem Y31:(Tryz.prog.globals[1]?).map (·.type)=some 184:=by kernel_rfl
theorem Y2o:(Rows.laid_math_bits_deBruijn64tab:DataW Unit)=Lib.tabData .u8 (dbN.map fun (n:Nat)=>(n:Int)):=by kernel_rfl
theorem Xxy {W : World} (h : laidMetH Tryz.prog [("math/bits.deBruijn32tab", Rows.laid_math_bits_deBruijn32tab), ("math/bits.deBruijn64tab", Rows.laid_math_bits_deBruijn64tab)] W) : TabAt W ∧ 1 < W.heap.size := by
 rw [MakeChecks.laidMetH_plain _ _ _ (by kernel_rfl)] at h
 obtain ⟨g,t,cs,fuel,p,h1,h2,h3,h4⟩:=Lib.laidMet.reads h (.tail _ (.head _))
 obtain rfl:=Option.some.inj (Y1h.symm.trans h1)
 obtain rfl:=Option.some.inj (Y31.symm.trans h2)
 rw [Y2o] at h4
 have hc:=Lib.cells_of_tab Tryz.underlying184 Tryz.underlying5 (by kernel_rfl) (by kernel_rfl) h4
 have hcell:∀ i,W.cell? ⟨1,i,none⟩=dbL[i]?:=fun i=>by
  rw [World.var?_cell Y1h h3 i,← Array.getElem?_toList,hc,List.map_map]
  rfl
 have ht:TabAt W:=fun j v hj=>by
  rw [show (⟨1,0,none⟩ : Addr).add j=⟨1,j,none⟩ from by rw [X1x];congr 1;omega,hcell j]
  exact hj
 exact ⟨ht,World.block_lt_of_cell? _ _ (u:=.int .u8 0) ((hcell 0).trans rfl)⟩
end Go.Proofs.YtiejkplemjkjoaaGreatDoor
namespace Go.Proofs.YtiejkplemjkjoaaGreatDoor
open Go.ChangeShapes Go.WideShapes Go.ChangeAt Go.RowKit Go.Deep Go.Joins
set_option linter.unusedVariables false
set_option maxRecDepth 100000 in
theorem Xe9(os:Os)(started:os.Started)(H:Type)(enc:TypeId×Value→H) :
  ReturnsInHanded {} Tryz.checked os 5 .any (fun w args=>(Rows.fnVerificationSpec.pre enc Tryz.prog Tryz.f5 [] false w args∧laidMetH Tryz.prog Rows.fnVerificationRow.laid w)∧sizedMet enc Tryz.prog Tryz.f5 (OpenSpec.ofChange Rows.fnVerificationSpec) false w args)
   (Rows.fnVerificationSpec.post enc Tryz.prog Tryz.f5 false true false false):=by
 refine returnsInHanded_of_change_and (C:=Tryz.checked) (X:=fun w _=>laidMetH Tryz.prog Rows.fnVerificationRow.laid w) (fun _ _ _ hh h=>h.of_heap hh) own started (by kernel_rfl) Tryz.func5
  (ChangeSpec.witness_shaped (enc:=enc) (C:=Tryz.checked) (os:=os) (X:=fun w _=>laidMetH Tryz.prog Rows.fnVerificationRow.laid w) false (World.laidAll Tryz.prog os Rows.fnVerificationRow.laid) #[.slice none 0 0,.slice none 0 0] 8 (World.laidAll_os _ _ _)
   (World.shaped_of_ZipB (by kernel_rfl) (by kernel_rfl)) (by kernel_rfl) (by kernel_rfl) (by kernel_rfl)
   (by rw [MakeChecks.laidMetH_plain _ _ _ (by kernel_rfl)];exact laidMet_laidAll _ (by kernel_rfl) (by kernel_rfl))) ?_
 intro W base args ds gs before hval0 hW _ _ hL _
 have hval:∀ (j:Nat) t v,Tryz.f5.params[j]? = some t→args[j]? = some v→Value.okWide Tryz.prog W .any base t v:=hval0
 have hW':=hW
 obtain ⟨p,q,hA0,hV,rfl,hfz,hnd⟩:=hW
 have hA:DataW.TrodAll enc Tryz.prog W 0 (fun _=>true) true Tryz.f5.params.toList args.toList ds p:=hA0
 rw [Tryz.params5] at hA hval
 obtain ⟨v0,v1,d0,d1,p0,p1,rfl,rfl,rfl,h0,h1⟩:=trodAll_two hA;obtain ⟨rfl,rfl⟩:=trodVars_none hV;have h0k:=h0;have h1k:=h1
 obtain ⟨A,c,i,E,rfl,hr0,hc0⟩:=Xao (hval 0 22 v0 rfl rfl) h0 (fun _=>rfl)
 obtain ⟨B,l,k,F,rfl,hr1,hc1⟩:=Xao (hval 1 22 v1 rfl rfl) h1 (fun _=>rfl)
 clear hA0 hval0
 simp only [List.append_nil] at hW'
 have hlt:∀ x ∈ p0++p1,x.block<W.heap.size:=fun x hx=>hW'.lt x (by simpa using hx)
 obtain ⟨hTab,h1w⟩:=Xxy hL;refine Calls.mono (Y0q W A i c hr0 hc0 B k l hr1 hc1 hTab h1w) fun r W' ⟨v,he,hv,hb⟩=>?_
 subst hv
 refine ⟨_,he,Xh8 (pa:=p0++p1) (pv:=[]) hW' (fun _ _ _=>trodAll_mk1 (shut_bool Tryz.underlying4 true)) (fun sp hsp=>?_) (fun _ _=>rfl) (by simp) hb⟩
 exact trodAll_mk2 (WideElems.Trod_stays Xjl (by kernel_rfl) (of_decide_eq_true (by kernel_rfl)) h0k (fun x hx=>hb.same (hlt x (List.mem_append_left _ hx))) (fun x hx=>hsp x (by simp [hx])))
  (WideElems.Trod_stays Xjl (by kernel_rfl) (of_decide_eq_true (by kernel_rfl)) h1k (fun x hx=>hb.same (hlt x (List.mem_append_right _ hx))) (fun x hx=>hsp x (by simp [hx])))
theorem Xkz:Rows.FnVerificationSaid:=
 OpenClaim.holds_of_wide 5 Tryz.f5 rfl rfl rfl rfl rfl rfl rfl ⟨rfl,rfl,rfl,rfl,rfl⟩ rfl rfl rfl rfl rfl (by kernel_rfl) Tryz.func5 (by kernel_rfl)
  (of_decide_eq_true (by kernel_rfl)) (by unfold Func.isWrapper;first|(rw [if_pos (by decide +kernel)];kernel_rfl)|(rw [if_neg (by decide +kernel)];exact ⟨rfl,rfl⟩))
  (fun os started H enc _=>Xe9 os started H enc)
theorem Xnx : Tryz.prog.funcNamed "loop.example/g00864/laws.FnVerification" = some 5 := by kernel_rfl
theorem Xfj:Tryz.prog.wantsStandIn 22=false:=by kernel_rfl
theorem verif_holds:Rows.FnVerificationCardSaid:=
 Claim7.holds_tied_plain_at .later [] [.data, .data] true (true, "d49622009df6ece1f7faf11a605e53968dab1119d698954f967f11d3268751d3") false
  Xkz (fun _ h=>by cases h) (by kernel_rfl) (fun _ h=>by cases h) fnVerification_row_tie rfl ⟨rfl,rfl⟩ (by kernel_rfl) rfl
  (fun f fn hf hfn=>by
   obtain rfl:f=5:=Option.some.inj (Xnx.symm.trans hf) |>.symm
   obtain rfl:fn=Tryz.f5:=(Option.some.inj (Tryz.func5.symm.trans hfn)).symm
   exact ⟨by kernel_rfl,fun j t ht=>by
    rw [Tryz.params5] at ht
    have hm:=Array.mem_of_getElem? ht
    simp only [List.mem_toArray,List.mem_cons,List.mem_nil_iff,or_false] at hm
    rcases hm with rfl|rfl<;>exact Xfj⟩)
  (by kernel_rfl)
end Go.Proofs.YtiejkplemjkjoaaGreatDoor
