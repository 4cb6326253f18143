/-
  What is proved: for all drawn circuits, cancelling inverses yields an accepted certificate without remaining pairs and with no more gates: the law returns true at every input and leaves its arguments as they were. Conditions: none.
-/
import Derived.Test.YtlfjcmldfbfdbaaGreatC4
import Derived.Test.YtlfjcmldfbfdbaaGreatC5
import Derived.Test.YtlfjcmldfbfdbaaGreatRows
set_option linter.unusedVariables false
set_option linter.unusedSimpArgs false
namespace Go.Proofs.YtlfjcmldfbfdbaaGreat
def xb(β m:Nat→Bool) : Nat→Bool:=fun p=>β p != m p
def msk(g:Gt)(β:Nat→Bool) : Nat→Bool:=fun p=>
 if g.k=9 then decide (p=g.b.toNat)&&β g.a.toNat
 else if g.k=11 then (decide (p=g.a.toNat)||decide (p=g.b.toNat))&&(β g.a.toNat != β g.b.toNat)
 else false
def oneK(k:Int) : Bool:=decide (k≠12∧¬ (9≤k∧k≤11))
def flp(g:Gt) : Nat→Bool:=fun p=>oneK g.k&&decide (p=g.a.toNat)
def c0(g:Gt)(β:Nat→Bool) : Rg:=
 if g.k=12 then om else if g.k=9 then 1 else if g.k=10 then (if β g.a.toNat&&β g.b.toNat then om^4 else 1) else if g.k=11 then 1 else u1 g.k (β g.a.toNat) (β g.a.toNat)
def c1(g:Gt)(β:Nat→Bool) : Rg:=if oneK g.k=true then u1 g.k (β g.a.toNat) (!β g.a.toNat) else 0
theorem Xa9(β m:Nat→Bool)(h:∀ p,m p=false) : xb β m=β:=by
 funext p;unfold xb;rw [h];cases β p<;>rfl
theorem X69(β:Nat→Bool)(q:Nat) : flipB β q=xb β fun p=>decide (p=q):=by
 funext p
 unfold flipB xb
 by_cases e:p=q<;>simp [e]
theorem Xj3{k:Int}(h12:k≠12)(h9:¬ (9≤k∧k≤11)) : oneK k=true:=decide_eq_true ⟨h12,h9⟩
theorem X7k{k:Int}(h:k=12∨(9≤k∧k≤11)) : oneK k=false:=decide_eq_false (by omega)
def Two(g:Gt) : Prop:=9≤g.k∧g.k≤11→g.a.toNat≠g.b.toNat
theorem X31{g:Gt}(ht:Two g)(v:St)(β:Nat→Bool) : act g v β=c0 g β*v (xb β (msk g β))+c1 g β*v (xb β (flp g)):=by
 unfold act
 by_cases h12:g.k=12
 ·rw [if_pos h12,Xa9 β (msk g β) fun p=>by unfold msk;rw [if_neg (by omega),if_neg (by omega)]]
  unfold c0 c1
  rw [if_pos h12,X7k (by omega),if_neg Bool.false_ne_true]
  simp only [Xi,Xp,Xh,Xw,Xq,Xt,Xx,X03,Xf,Xd,Xn,Xk,Xb,Xr]
 ·rw [if_neg h12]
  by_cases h9:g.k=9
  ·rw [if_pos h9]
   have e:(if β g.a.toNat then flipB β g.b.toNat else β)=xb β (msk g β):=by
    funext p
    unfold msk xb
    dsimp only
    rw [if_pos h9]
    cases β g.a.toNat
    ·simp
    ·rw [if_pos rfl]
     unfold flipB
     by_cases e:p=g.b.toNat<;>simp [e]
   rw [e]
   unfold c0 c1
   rw [if_neg h12,if_pos h9,X7k (by omega),if_neg Bool.false_ne_true]
   simp only [Xi,Xp,Xh,Xw,Xq,Xt,Xx,X03,Xf,Xd,Xn,Xk,Xb,Xr]
  ·rw [if_neg h9]
   by_cases h10:g.k=10
   ·rw [if_pos h10,Xa9 β (msk g β) fun p=>by unfold msk;rw [if_neg (by omega),if_neg (by omega)]]
    unfold c0 c1
    rw [if_neg h12,if_neg h9,if_pos h10,X7k (by omega),if_neg Bool.false_ne_true]
    simp only [Xi,Xp,Xh,Xw,Xq,Xt,Xx,X03,Xf,Xd,Xn,Xk,Xb,Xr]
   ·rw [if_neg h10]
    by_cases h11:g.k=11
    ·rw [if_pos h11]
     have hab:=ht (by omega)
     have e:(if β g.a.toNat=β g.b.toNat then β else flipB (flipB β g.a.toNat) g.b.toNat)=xb β (msk g β):=by
      funext p
      unfold msk xb
      dsimp only
      rw [if_neg h9,if_pos h11]
      by_cases e0:β g.a.toNat=β g.b.toNat
      ·rw [if_pos e0,e0];simp
      ·rw [if_neg e0]
       have e1:(β g.a.toNat != β g.b.toNat)=true:=by simpa using e0
       rw [e1]
       unfold flipB
       by_cases e2:p=g.b.toNat
       ·subst e2
        rw [if_pos rfl,if_neg (fun h=>hab h.symm)]
        simp
       ·rw [if_neg e2]
        by_cases e3:p=g.a.toNat<;>simp [e2,e3]
     rw [e]
     unfold c0 c1
     rw [if_neg h12,if_neg h9,if_neg h10,if_pos h11,X7k (by omega),if_neg Bool.false_ne_true]
     simp only [Xi,Xp,Xh,Xw,Xq,Xt,Xx,X03,Xf,Xd,Xn,Xk,Xb,Xr]
    ·rw [if_neg h11]
     have ho:=Xj3 h12 (by omega)
     have e:flipB β g.a.toNat=xb β (flp g):=by
      rw [X69]
      congr 1
      funext p
      unfold flp
      rw [ho];simp
     rw [Xa9 β (msk g β) fun p=>by unfold msk;rw [if_neg h9,if_neg h11],e]
     unfold c0 c1
     rw [if_neg h12,if_neg h9,if_neg h10,if_neg h11,ho,if_pos rfl]
def Sup(g:Gt)(q:Nat) : Prop:=(g.k≠12∧q=g.a.toNat)∨((9≤g.k∧g.k≤11)∧q=g.b.toNat)
def Dis(g h:Gt) : Prop:=∀ q,Sup g q→¬ Sup h q
theorem Dis.symm{g h:Gt}(hd:Dis g h) : Dis h g:=fun q h1 h2=>hd q h2 h1
theorem Xah{g:Gt}{β γ:Nat→Bool}(h:∀ q,Sup g q→β q=γ q) : c0 g β=c0 g γ:=by
 unfold c0
 split
 ·rfl
 ·rename_i h12
  have ha:=h _ (.inl ⟨h12,rfl⟩)
  split
  ·rfl
  ·split
   ·rw [ha,h _ (.inr ⟨by omega,rfl⟩)]
   ·split
    ·rfl
    ·rw [ha]
theorem Xad{g:Gt}{β γ:Nat→Bool}(h:∀ q,Sup g q→β q=γ q) : c1 g β=c1 g γ:=by
 unfold c1
 split
 ·rename_i ho
  have:=of_decide_eq_true ho
  rw [h _ (.inl ⟨this.1,rfl⟩)]
 ·rfl
theorem X7q{g:Gt}{β γ:Nat→Bool}(h:∀ q,Sup g q→β q=γ q) : msk g β=msk g γ:=by
 funext p
 unfold msk
 split
 ·rw [h _ (.inl ⟨by omega,rfl⟩)]
 ·split
  ·rw [h _ (.inl ⟨by omega,rfl⟩),h _ (.inr ⟨by omega,rfl⟩)]
  ·rfl
theorem Xe8{g:Gt}{β:Nat→Bool}{q:Nat}(h:¬ Sup g q) : msk g β q=false:=by
 unfold msk
 split
 ·rename_i h9
  rw [decide_eq_false fun e=>h (.inr ⟨by omega,e⟩)];rfl
 ·split
  ·rename_i h11
   rw [decide_eq_false fun e=>h (.inr ⟨by omega,e⟩),decide_eq_false fun e=>h (.inl ⟨by omega,e⟩)];rfl
  ·rfl
theorem Xeb{g:Gt}{q:Nat}(h:¬ Sup g q) : flp g q=false:=by
 unfold flp
 cases ho:oneK g.k
 ·rfl
 ·have:=of_decide_eq_true ho
  rw [decide_eq_false fun e=>h (.inl ⟨this.1,e⟩)];rfl
theorem X64(β m m':Nat→Bool) : xb (xb β m) m'=xb (xb β m') m:=by
 funext p;unfold xb;cases β p<;>cases m p<;>cases m' p<;>rfl
theorem Xav{g h:Gt}(hd:Dis g h){β m:Nat→Bool}(hm:∀ q,¬ Sup g q→m q=false) : ∀ q,Sup h q→xb β m q=β q:=fun q hq=>by
 unfold xb
 rw [hm q fun h1=>hd q h1 hq]
 cases β q<;>rfl
theorem Xgm{g h:Gt}(hg:Two g)(hh:Two h)(hd:Dis g h)(v:St) : act g (act h v)=act h (act g v):=by
 funext β
 rw [X31 hg,X31 hh,X31 hh,X31 hh,X31 hg v,X31 hg v]
 have a1:=Xav hd (β:=β) (m:=msk g β) fun q hq=>Xe8 hq
 have a2:=Xav hd (β:=β) (m:=flp g) fun q hq=>Xeb hq
 have b1:=Xav hd.symm (β:=β) (m:=msk h β) fun q hq=>Xe8 hq
 have b2:=Xav hd.symm (β:=β) (m:=flp h) fun q hq=>Xeb hq
 rw [Xah a1,Xah a2,Xad a1,Xad a2,X7q a1,X7q a2,Xah b1,Xah b2,Xad b1,Xad b2,X7q b1,X7q b2]
 rw [X64 β (msk h β) (msk g β),X64 β (msk h β) (flp g),X64 β (flp h) (msk g β),X64 β (flp h) (flp g)]
 simp only [Xi,Xp,Xh,Xw,Xq,Xt,Xx,X03,Xf,Xd,Xn,Xk,Xb,Xr]
theorem Xb7{g:Gt}(hg:Two g) : ∀ (l:List Gt),(∀ h ∈ l,Two h∧Dis g h)→∀ v,act g (run l v)=run l (act g v)
 | [],_,v=>rfl
 | h::l,hl,v=>by
  obtain ⟨h1,h2⟩:=hl h (by simp)
  rw [run,run,Xb7 hg l (fun x hx=>hl x (by simp [hx])),Xgm hg h1 h2]
def bkK(k:Int) : Int:=if k=5∨k=7 then k+1 else if k=6∨k=8 then k-1 else k
theorem Xjz{k:Int}(h:1≤k∧k≤8)(x:Bool) : u1 (bkK k) x x*u1 k x x+u1 (bkK k) x (!x)*u1 k (!x) x=(if k=1 then 2 else 1)∧u1 (bkK k) x x*u1 k x (!x)+u1 (bkK k) x (!x)*u1 k (!x) (!x)=0:=by
 have:k=1∨k=2∨k=3∨k=4∨k=5∨k=6∨k=7∨k=8:=by omega
 rcases this with rfl|rfl|rfl|rfl|rfl|rfl|rfl|rfl<;>cases x<;>exact ⟨by rfl,by rfl⟩
theorem X4r(β:Nat→Bool)(q:Nat) : flipB (flipB β q) q=β:=by
 funext p
 unfold flipB
 by_cases e:p=q<;>simp [e]
theorem X6w(β:Nat→Bool)(q:Nat) : flipB β q q = !β q:=by simp [flipB]
theorem Xai(β:Nat→Bool){p q:Nat}(h:p≠q) : flipB β q p=β p:=by unfold flipB;rw [if_neg h]
theorem Xfn(β:Nat→Bool)(p q:Nat) : flipB (flipB β p) q=flipB (flipB β q) p:=by
 rw [X69,X69,X69,X69,X64]
theorem Xe2(g:Gt) : (bkG g).k=bkK g.k:=rfl
theorem Xgc(g:Gt) : (bkG g).a=g.a:=rfl
theorem Xfz(g:Gt) : (bkG g).b=g.b:=rfl
theorem Xiy{g:Gt}(ht:Two g)(hk:1≤g.k∧g.k≤11)(v:St)(β:Nat→Bool) : act (bkG g) (act g v) β=(if g.k=1 then 2 else 1)*v β:=by
 unfold act
 rw [Xe2,Xgc,Xfz]
 by_cases h8:g.k≤8
 ·have hb:bkK g.k≤8∧1≤bkK g.k:=by unfold bkK;split<;>(try split)<;>omega
  rw [if_neg (by omega),if_neg (by omega),if_neg (by omega),if_neg (by omega)]
  rw [if_neg (by omega),if_neg (by omega),if_neg (by omega),if_neg (by omega),if_neg (by omega),if_neg (by omega),if_neg (by omega),if_neg (by omega)]
  rw [X6w,X4r,Bool.not_not]
  obtain ⟨e1,e2⟩:=Xjz (k:=g.k) (by omega) (β g.a.toNat)
  generalize u1 (bkK g.k) (β g.a.toNat) (β g.a.toNat)=A at *
  generalize u1 (bkK g.k) (β g.a.toNat) (!β g.a.toNat)=B at *
  generalize u1 g.k (β g.a.toNat) (β g.a.toNat)=C at *
  generalize u1 g.k (β g.a.toNat) (!β g.a.toNat)=D at *
  generalize u1 g.k (!β g.a.toNat) (β g.a.toNat)=E at *
  generalize u1 g.k (!β g.a.toNat) (!β g.a.toNat)=F at *
  rw [← e1]
  generalize v β=x
  generalize v (flipB β g.a.toNat)=y
  have h9:A*(C*x+D*y)+B*(F*y+E*x)=(A*C+B*E)*x+(A*D+B*F)*y:=by simp only [Xi,Xp,Xh,Xw,Xq,Xt,Xx,X03,Xf,Xd,Xn,Xk,Xb,Xr]
  rw [h9,e2,Xi,Xq]
 ·have hb:bkK g.k=g.k:=by unfold bkK;rw [if_neg (by omega),if_neg (by omega)]
  have hab:=ht (by omega)
  have h12:¬ g.k=12:=by omega
  have h1:¬ g.k=1:=by omega
  by_cases h9:g.k=9
  ·simp only [hb,h12,h1,if_pos h9,if_false]
   cases hA:β g.a.toNat
   ·rw [if_neg Bool.false_ne_true]
    rw [hA,if_neg Bool.false_ne_true]
    simp only [Xi,Xp,Xh,Xw,Xq,Xt,Xx,X03,Xf,Xd,Xn,Xk,Xb,Xr]
   ·rw [if_pos rfl]
    rw [Xai β hab,hA,if_pos rfl,X4r]
    simp only [Xi,Xp,Xh,Xw,Xq,Xt,Xx,X03,Xf,Xd,Xn,Xk,Xb,Xr]
  ·by_cases h10:g.k=10
   ·simp only [hb,h12,h9,h1,if_pos h10,if_false]
    have:om^4*om^4=(1:Rg):=by rfl
    split
    ·rw [← Xf,this]
    ·rw [Xh]
   ·have h11:g.k=11:=by omega
    simp only [hb,h12,h9,h10,h1,if_pos h11,if_false]
    by_cases e:β g.a.toNat=β g.b.toNat
    ·rw [if_pos e,if_pos e]
     simp only [Xi,Xp,Xh,Xw,Xq,Xt,Xx,X03,Xf,Xd,Xn,Xk,Xb,Xr]
    ·rw [if_neg e]
     have e1:flipB (flipB β g.a.toNat) g.b.toNat g.a.toNat = !β g.a.toNat:=by rw [Xai _ hab,X6w]
     have e2:flipB (flipB β g.a.toNat) g.b.toNat g.b.toNat = !β g.b.toNat:=by rw [X6w,Xai _ (fun h=>hab h.symm)]
     rw [e1,e2,if_neg (by revert e;cases β g.a.toNat<;>cases β g.b.toNat<;>simp)]
     rw [Xfn (flipB (flipB β g.a.toNat) g.b.toNat),X4r,X4r]
     simp only [Xi,Xp,Xh,Xw,Xq,Xt,Xx,X03,Xf,Xd,Xn,Xk,Xb,Xr]
theorem Xnw:s2^2=(2:Rg):=by rfl
theorem X82{g:Gt}(ht:Two g)(hk:1≤g.k∧g.k≤11){l:List Gt}(hl:∀ h ∈ l,Two h∧Dis g h)(v:St)(β:Nat→Bool) :
  s2^hs l*run (g::l++[bkG g]) v β=s2^hs (g::l++[bkG g])*run l v β:=by
 have hb:Two (bkG g):=fun h=>by
  rw [Xe2] at h
  rw [Xgc,Xfz]
  refine ht ?_
  unfold bkK at h
  split at h
  ·omega
  ·split at h<;>omega
 have hd:∀ h ∈ l,Two h∧Dis (bkG g) h:=fun h hh=>⟨(hl h hh).1,fun q hq=>(hl h hh).2 q (by
  unfold Sup at hq ⊢
  rw [Xe2,Xgc,Xfz] at hq
  unfold bkK at hq
  split at hq
  ·rcases hq with hq|hq
   ·exact .inl ⟨by omega,hq.2⟩
   ·omega
  ·split at hq
   ·rcases hq with hq|hq
    ·exact .inl ⟨by omega,hq.2⟩
    ·omega
   ·exact hq)⟩
 have hw:∀ w:St,act (bkG g) (act g w)=fun β=>(if g.k=1 then 2 else 1)*w β:=fun w=>funext fun β=>Xiy ht hk w β
 rw [show g::l++[bkG g]=g::(l++[bkG g]) from rfl,run,Xe1,hs,Xgx]
 show s2^hs l*act (bkG g) (run l (act g v)) β=_
 rw [Xb7 hb l hd,hw v,X67]
 show _=s2^(hN g+(hs l+(hN (bkG g)+0)))*_
 have e:hN g+(hs l+(hN (bkG g)+0))=hs l+2*hN g:=by
  unfold hN
  rw [Xe2]
  unfold bkK
  split<;>split<;>(try split)<;>(try split)<;>omega
 rw [e,X1x]
 unfold hN
 split
 ·have e2:s2^(2*1)=(2:Rg):=Xnw
  rw [e2]
  simp only [Xi,Xp,Xh,Xw,Xq,Xt,Xx,X03,Xf,Xd,Xn,Xk,Xb,Xr]
 ·have e2:s2^(2*0)=(1:Rg):=rfl
  rw [e2]
  simp only [Xi,Xp,Xh,Xw,Xq,Xt,Xx,X03,Xf,Xd,Xn,Xk,Xb,Xr]
#print axioms X82
end Go.Proofs.YtlfjcmldfbfdbaaGreat
namespace Go.Proofs.YtlfjcmldfbfdbaaGreat
def qN(z:Rg) : Int:=z.a*z.a+z.b*z.b+z.c*z.c+z.d*z.d
theorem X5w(x:Int) : 0≤x*x:=by
 have:=Int.natAbs_mul_self (a:=x)
 omega
theorem Xh5(z:Rg) : 0≤qN z:=by
 have h1:=X5w z.a
 have h2:=X5w z.b
 have h3:=X5w z.c
 have h4:=X5w z.d
 unfold qN
 omega
theorem Xog(z:Rg) : qN (s2*z)=2*qN z:=by
 rw [X80]
 unfold qN
 dsimp only
 grind
theorem Xoe(z:Rg) : qN (om*z)=qN z:=by
 rw [Xhm]
 unfold qN
 dsimp only
 grind
theorem Xgq:∀ (k:Nat) (z:Rg),qN (om^k*z)=qN z
 | 0,z=>by rw [X3n,show (1:Rg)*z=z from Xh z]
 | k+1,z=>by rw [X7d,show om^k*om*z=om^k*(om*z) from Xf _ _ _,Xgq k,Xoe]
theorem Xgy:∀ (k:Nat) (z:Rg),qN (s2^k*z)=2^k*qN z
 | 0,z=>by rw [X3n,show (1:Rg)*z=z from Xh z];omega
 | k+1,z=>by
  rw [X7d,show s2^k*s2*z=s2^k*(s2*z) from Xf _ _ _,Xgy k,Xog,Int.pow_succ]
  grind
theorem Xmx(x y:Rg) : qN (x+y)≤2*qN x+2*qN y:=by
 have h:∀ p q:Int,(p+q)*(p+q)≤2*(p*p)+2*(q*q):=fun p q=>by
  have h1:=X5w (p-q)
  have e:(p-q)*(p-q)=2*(p*p)+2*(q*q)-(p+q)*(p+q):=by grind
  omega
 have h1:=h x.a y.a
 have h2:=h x.b y.b
 have h3:=h x.c y.c
 have h4:=h x.d y.d
 show (x.a+y.a)*(x.a+y.a)+(x.b+y.b)*(x.b+y.b)+(x.c+y.c)*(x.c+y.c)+(x.d+y.d)*(x.d+y.d)≤_
 unfold qN
 omega
theorem Xdn{x r:Int}(hr:0≤r)(h:x*x≤r*r) : -r≤x∧x≤r:=by
 have h1:=Int.natAbs_mul_self (a:=x)
 have h2:=Int.natAbs_mul_self (a:=r)
 have h3:x.natAbs*x.natAbs≤r.natAbs*r.natAbs:=by omega
 have h4:x.natAbs≤r.natAbs:=by
  rcases Nat.lt_or_ge r.natAbs x.natAbs with h5|h5
  ·exact absurd (Nat.mul_lt_mul'' h5 h5) (Nat.not_lt.2 h3)
  ·exact h5
 omega
def Cb(K:Int)(z:Rg) : Prop:=(-K≤z.a∧z.a≤K)∧(-K≤z.b∧z.b≤K)∧(-K≤z.c∧z.c≤K)∧(-K≤z.d∧z.d≤K)
theorem Xka{r:Int}(hr:0≤r){z:Rg}(h:qN z≤r*r) : Cb r z:=by
 have h1:=X5w z.a
 have h2:=X5w z.b
 have h3:=X5w z.c
 have h4:=X5w z.d
 unfold qN at h
 exact ⟨Xdn hr (by omega),Xdn hr (by omega),Xdn hr (by omega),Xdn hr (by omega)⟩
theorem Xej{x r:Int}(h:-r≤x∧x≤r) : x*x≤r*r:=by
 have h1:=Int.natAbs_mul_self (a:=x)
 have h2:=Int.natAbs_mul_self (a:=r)
 have:=Nat.mul_le_mul (show x.natAbs≤r.natAbs by omega) (show x.natAbs≤r.natAbs by omega)
 omega
theorem Xpa{r:Int}{z:Rg}(h:Cb r z) : qN z≤4*(r*r):=by
 have h1:=Xej h.1
 have h2:=Xej h.2.1
 have h3:=Xej h.2.2.1
 have h4:=Xej h.2.2.2
 unfold qN
 omega
theorem Xm7{r t:Int}{x y:Rg}(hx:Cb r x)(hy:Cb t y) : Cb (r+t) (x+y):=by
 obtain ⟨⟨a1,a2⟩,⟨a3,a4⟩,⟨a5,a6⟩,⟨a7,a8⟩⟩:=hx
 obtain ⟨⟨b1,b2⟩,⟨b3,b4⟩,⟨b5,b6⟩,⟨b7,b8⟩⟩:=hy
 refine ⟨?_,?_,?_,?_⟩
 ·show -(r+t)≤x.a+y.a∧x.a+y.a≤r+t;omega
 ·show -(r+t)≤x.b+y.b∧x.b+y.b≤r+t;omega
 ·show -(r+t)≤x.c+y.c∧x.c+y.c≤r+t;omega
 ·show -(r+t)≤x.d+y.d∧x.d+y.d≤r+t;omega
def BB:Int:=1000000000000000000
theorem Xab{z:Rg}(h:qN z≤BB) : rOk z=true:=by
 obtain ⟨h1,h2,h3,h4⟩:=Xka (r:=1000000000) (by decide) (z:=z) (Int.le_trans h (by decide))
 exact X27.2 ⟨h1,h2,h3,h4⟩
theorem X6d(k:Nat) : (1:Int)≤2^k:=by
 induction k with
 | zero=>decide
 | succ k ih=>rw [Int.pow_succ];omega
theorem Xit{k:Nat}{x:Int}(h:0≤x) : x≤2^k*x:=by
 have:=Int.mul_le_mul_of_nonneg_right (X6d k) h
 omega
theorem X7j{j i:Nat}{y z:Rg}(hz:z=s2^j*y)(hi:i≤j) : qN (s2^i*y)≤qN z:=by
 rw [hz,show j=(j-i)+i by omega,X1x,show s2^(j-i)*s2^i*y=s2^(j-i)*(s2^i*y) from Xf _ _ _,Xgy (j-i)]
 exact Xit (Xh5 _)
def Un(z:Rg) : Prop:=z=0∨∃ j:Nat,z=om^j
theorem Xci{z w:Rg}(h:Un z) : qN (z*w)≤qN w:=by
 rcases h with rfl|⟨j,rfl⟩
 ·rw [show (0:Rg)*w=0 from Xi w]
  have:qN 0=0:=rfl
  have:=Xh5 w
  omega
 ·rw [Xgq];exact Int.le_refl _
theorem X41:Un 0:=.inl rfl
theorem X86(j:Nat) : Un (om^j):=.inr ⟨j,rfl⟩
theorem X6n:Un 1:=.inr ⟨0,rfl⟩
theorem Xnv:Un (-1):=.inr ⟨4,by rfl⟩
theorem Xgs(k:Int)(x y:Bool) : Un (u1 k x y):=by
 unfold u1
 split
 ·split
  ·exact Xnv
  ·exact X6n
 ·split
  ·split
   ·exact X41
   ·exact X6n
  ·split
   ·split
    ·exact X41
    ·split
     ·exact X86 6
     ·exact X86 2
   ·split
    ·split
     ·exact X86 _
     ·exact X6n
    ·exact X41
theorem Xqr(g:Gt)(β:Nat→Bool) : Un (c0 g β)∧Un (c1 g β):=by
 constructor
 ·unfold c0
  split
  ·exact X86 1
  ·split
   ·exact X6n
   ·split
    ·split
     ·exact X86 4
     ·exact X6n
    ·split
     ·exact X6n
     ·exact Xgs _ _ _
 ·unfold c1
  split
  ·exact Xgs _ _ _
  ·exact X41
theorem Xmm(g:Gt)(hk:1≤g.k∧g.k≤12)(β:Nat→Bool) : g.k=1∨c0 g β=0∨c1 g β=0:=by
 by_cases h1:g.k=1
 ·exact .inl h1
 ·right
  by_cases ho:oneK g.k=true
  ·have h:=of_decide_eq_true ho
   have h9:¬ g.k=9:=by omega
   have h10:¬ g.k=10:=by omega
   have h11:¬ g.k=11:=by omega
   unfold c0 c1
   rw [if_neg h.1,if_neg h9,if_neg h10,if_neg h11,if_pos ho]
   unfold u1
   rw [if_neg h1,if_neg h1]
   by_cases h2:g.k=2
   ·left;rw [if_pos h2,if_pos rfl]
   ·rw [if_neg h2,if_neg h2]
    by_cases h3:g.k=3
    ·left;rw [if_pos h3,if_pos rfl]
    ·right
     rw [if_neg h3,if_neg (by cases β g.a.toNat<;>simp)]
  ·right
   unfold c1
   rw [if_neg ho]
theorem Xn9{g:Gt}(ht:Two g)(hk:1≤g.k∧g.k≤12){v:St}{R:Int}(hv:∀ β,qN (v β)≤R)(β:Nat→Bool) : qN (act g v β)≤4^hN g*R:=by
 rw [X31 ht]
 obtain ⟨u0,u1⟩:=Xqr g β
 have b0:=Int.le_trans (Xci (w:=v (xb β (msk g β))) u0) (hv _)
 have b1:=Int.le_trans (Xci (w:=v (xb β (flp g))) u1) (hv _)
 have hR:0≤R:=Int.le_trans (Xh5 _) (hv β)
 by_cases h1:g.k=1
 ·have:=Xmx (c0 g β*v (xb β (msk g β))) (c1 g β*v (xb β (flp g)))
  unfold hN
  rw [if_pos h1,show (4:Int)^1=4 from rfl]
  omega
 ·unfold hN
  rw [if_neg h1,show (4:Int)^0=1 from rfl]
  rcases Xmm g hk β with h|h|h
  ·exact absurd h h1
  ·rw [h,show (0:Rg)*v (xb β (msk g β))+c1 g β*v (xb β (flp g))=c1 g β*v (xb β (flp g)) by simp only [Xi,Xp,Xh,Xw,Xq,Xt,Xx,X03,Xf,Xd,Xn,Xk,Xb,Xr]]
   omega
  ·rw [h,show c0 g β*v (xb β (msk g β))+(0:Rg)*v (xb β (flp g))=c0 g β*v (xb β (msk g β)) by simp only [Xi,Xp,Xh,Xw,Xq,Xt,Xx,X03,Xf,Xd,Xn,Xk,Xb,Xr]]
   omega
theorem Xb6{n:Int}{g:Gt}(h:gOk n g=true) : Two g∧(1≤g.k∧g.k≤12):=by
 obtain ⟨_,hk,ha,hb⟩:=X1f h
 refine ⟨fun h9=>?_,by omega⟩
 have h1:=ha (by omega)
 have h2:=hb h9
 omega
theorem Xf0{x y:Dy}{m n:Nat}{z z':Rg}(hx:V x m z)(hy:V y n z')(ox:dOk x=true)(oy:dOk y=true)(he:m+n≤60)(hb:qN (z*z')≤BB) : ∃ w,dMulI x y=some w:=by
 have k1:=X23 ox
 have k2:=X23 oy
 obtain ⟨_,j,h1,h2⟩:=hx
 obtain ⟨_,l,h3,h4⟩:=hy
 have e:z*z'=s2^(j+l)*(x.num*y.num):=by rw [h2,h4,X1x];simp only [Xi,Xp,Xh,Xw,Xq,Xt,Xx,X03,Xf,Xd,Xn,Xk,Xb,Xr]
 have b:=X7j (i:=0) e (Nat.zero_le _)
 rw [X3n,show (1:Rg)*(x.num*y.num)=x.num*y.num from Xh _] at b
 have hr:rOk (rMul x.num y.num)=true:=by rw [Xe5 k1.1 k2.1];exact Xab (Int.le_trans b hb)
 have h9:rIf2 (rMul x.num y.num) [x.num,y.num]=true:=by simp [rIf2,hr,k1.1,k2.1]
 unfold dMulI
 rw [if_pos (by rw [ox,oy,h9];rfl)]
 unfold dOf
 unfold rIf1
 rw [if_pos h9,if_pos (by rw [hr];simp only [Bool.true_and,Xv];omega)]
 exact ⟨_,rfl⟩
theorem X5e:∀ (k:Nat) (y:Rg),(∀ i,i≤k→rOk (s2^i*y)=true)→(raiseI k y).2=true
 | 0,y,_=>rfl
 | k+1,y,h=>by
  have h0:=h 0 (Nat.zero_le _)
  have h1:=h 1 (by omega)
  rw [X3n,show (1:Rg)*y=y from Xh y] at h0
  rw [show s2^1*y=s2*y by rw [X7d,X3n,Xh]] at h1
  have e:=X8i h0
  unfold raiseI
  rw [e,if_pos (by simp [rIf2,h0,h1])]
  exact X5e k _ fun i hi=>by
   have:=h (i+1) (by omega)
   rw [X7d,show s2^i*s2*y=s2^i*(s2*y) from Xf _ _ _] at this
   exact this
theorem Xf9{x y:Dy}{m:Nat}{z z':Rg}(hx:V x m z)(hy:V y m z')(ox:dOk x=true)(oy:dOk y=true)(bx:qN z≤BB)(b_y:qN z'≤BB)(bs:qN (z+z')≤BB) : ∃ w,dAddI x y=some w:=by
 have k1:=X23 ox
 have k2:=X23 oy
 obtain ⟨_,j,h1,h2⟩:=hx
 obtain ⟨_,l,h3,h4⟩:=hy
 have p1:(dRaise x (max x.exp y.exp)).2=true:=X5e _ _ fun i hi=>Xab (Int.le_trans (X7j h2 (by omega)) bx)
 have p2:(dRaise y (max x.exp y.exp)).2=true:=X5e _ _ fun i hi=>Xab (Int.le_trans (X7j h4 (by omega)) b_y)
 have r1:=X4c _ _ k1.1 p1
 have r2:=X4c _ _ k2.1 p2
 have e0:rAdd (dRaise x (max x.exp y.exp)).1 (dRaise y (max x.exp y.exp)).1=(dRaise x (max x.exp y.exp)).1+(dRaise y (max x.exp y.exp)).1:=Xdr r1.2 r2.2
 obtain ⟨t,ht⟩ : ∃ t:Nat,max x.exp y.exp+t=m:=⟨(m-max x.exp y.exp).toNat,by omega⟩
 have q1:z=s2^t*(dRaise x (max x.exp y.exp)).1:=by
  have:=r1.1
  unfold dRaise
  rw [this,h2,show j=t+(max x.exp y.exp-x.exp).toNat from by omega,X1x]
  simp only [Xi,Xp,Xh,Xw,Xq,Xt,Xx,X03,Xf,Xd,Xn,Xk,Xb,Xr]
 have q2:z'=s2^t*(dRaise y (max x.exp y.exp)).1:=by
  have:=r2.1
  unfold dRaise
  rw [this,h4,show l=t+(max x.exp y.exp-y.exp).toNat from by omega,X1x]
  simp only [Xi,Xp,Xh,Xw,Xq,Xt,Xx,X03,Xf,Xd,Xn,Xk,Xb,Xr]
 have q3:z+z'=s2^t*((dRaise x (max x.exp y.exp)).1+(dRaise y (max x.exp y.exp)).1):=by rw [q1,q2];simp only [Xi,Xp,Xh,Xw,Xq,Xt,Xx,X03,Xf,Xd,Xn,Xk,Xb,Xr]
 have b:=X7j (i:=0) q3 (Nat.zero_le _)
 rw [X3n,show (1:Rg)*((dRaise x (max x.exp y.exp)).1+(dRaise y (max x.exp y.exp)).1)=(dRaise x (max x.exp y.exp)).1+(dRaise y (max x.exp y.exp)).1 from Xh _,← e0] at b
 have hr:=Xab (Int.le_trans b bs)
 have h9:rIf2 (rAdd (dRaise x (max x.exp y.exp)).1 (dRaise y (max x.exp y.exp)).1) [(dRaise x (max x.exp y.exp)).1,(dRaise y (max x.exp y.exp)).1]=true:=by
  have o1:rOk (dRaise x (max x.exp y.exp)).1=true:=r1.2
  have o2:rOk (dRaise y (max x.exp y.exp)).1=true:=r2.2
  simp [rIf2,hr,o1,o2]
 unfold dAddI
 rw [if_pos (by rw [ox,oy];rfl),if_pos (by rw [p1,p2,h9];rfl)]
 unfold dOf
 unfold rIf1
 rw [if_pos h9,if_pos (by rw [hr];simp only [Bool.true_and,Xv];omega)]
 exact ⟨_,rfl⟩
theorem Xo8:dOk dZ=true:=by decide
theorem X9l{a b:Mx}{i j m m':Nat}{za zb:Nat→Rg}{r:Int}(hr:0≤r)(hm:m+m'≤60) : ∀ n,(∀ k,k<n→V (a.at i k) m (za k)∧dOk (a.at i k)=true∧Un (za k))→(∀ k,k<n→V (b.at k j) m' (zb k)∧dOk (b.at k j)=true∧qN (zb k)≤r*r)→
  (n:Int)*r≤500000000→∃ s,dotI a b i j n=some s∧dOk s=true∧Cb (n*r) (sumN (fun k=>za k*zb k) n)
 | 0,_,_,_=>⟨dZ,rfl,Xo8,by unfold Cb sumN;simp;decide⟩
 | n+1,ha,hb,hn=>by
  have hn':((n+1:Nat) : Int)*r=(n:Int)*r+r:=by grind
  rw [hn'] at hn ⊢
  have hnr:0≤(n:Int)*r:=Int.mul_nonneg (by omega) hr
  obtain ⟨s,h1,h2,h3⟩:=X9l (a:=a) (b:=b) (i:=i) (j:=j) hr hm n (fun k hk=>ha k (by omega)) (fun k hk=>hb k (by omega)) (by omega)
  obtain ⟨va,oa,ua⟩:=ha n (by omega)
  obtain ⟨vb,ob,rb⟩:=hb n (by omega)
  have hrB:r*r≤BB:=by
   have:=Int.mul_le_mul (show r≤500000000 by omega) (show r≤500000000 by omega) hr (by decide)
   unfold BB
   omega
  have hp:=Int.le_trans (Xci (w:=zb n) ua) rb
  obtain ⟨x,h4⟩:=Xf0 va vb oa ob hm (Int.le_trans hp hrB)
  have hvx:=Xi6 h4 va vb
  have hvs:=X7n n (fun k hk=>(ha k (by omega)).1) (fun k hk=>(hb k (by omega)).1) h1
  have hc:Cb ((n:Int)*r+r) (sumN (fun k=>za k*zb k) n+za n*zb n):=Xm7 h3 (Xka hr hp)
  have big:∀ {K:Int} {z:Rg},0≤K→K≤500000000→Cb K z→qN z≤BB:=fun {K z} h0 hK h=>by
   have h5:=Xpa h
   have:=Int.mul_le_mul hK hK h0 (by decide)
   unfold BB
   omega
  obtain ⟨w,h5⟩:=Xf9 hvs hvx.1 h2 hvx.2 (big hnr (by omega) h3) (Int.le_trans hp hrB) (big (by omega) (by omega) hc)
  refine ⟨w,?_,(Xkx h5 hvs hvx.1).2,hc⟩
  rw [dotI,h1,Option.bind_some,h4,Option.bind_some,h5]
theorem Xdg{f:Nat→Option Dy} : ∀ n,(∀ k,k<n→∃ z,f k=some z)→∃ l,seqO f n=some l
 | 0,_=>⟨[],rfl⟩
 | n+1,h=>by
  obtain ⟨l,h1⟩:=Xdg n fun k hk=>h k (by omega)
  obtain ⟨z,h2⟩:=h n (by omega)
  exact ⟨_,X9n h1 h2⟩
theorem Xgk{R C:Int}{f:Nat→Nat→Option Dy}(hR:isDimB R=true)(hC:isDimB C=true)(h:∀ i j,i<R.toNat→j<C.toNat→∃ z,f i j=some z) : ∃ M,matOf R C f=some M:=by
 obtain ⟨l,hl⟩:=Xdg (f:=gridG f C.toNat) (R.toNat*C.toNat) fun k hk=>by
  have hC0:0<C.toNat:=by have:=X2d hC;omega
  exact h _ _ (Nat.div_lt_of_lt_mul (by rw [Nat.mul_comm];exact hk)) (Nat.mod_lt _ hC0)
 exact ⟨⟨R,C,l⟩,by unfold matOf;rw [if_pos (by rw [hR,hC];rfl),hl];rfl⟩
theorem Xpp{N:Nat}{g:Gt}(i k:Nat) : Un (zc N g i k):=by
 unfold zc
 split
 ·split
  ·exact X86 1
  ·exact X41
 ·split
  ·split
   ·exact X86 _
   ·exact X41
  ·split
   ·exact Xgs _ _ _
   ·exact X41
theorem Xpc(k:Nat) : (4:Int)^k=2^k*2^k:=by
 induction k with
 | zero=>rfl
 | succ k ih=>rw [Int.pow_succ,Int.pow_succ,ih];grind
theorem Xii{a b:Nat}(h:a≤b) : (2:Int)^a≤2^b:=by
 obtain ⟨c,rfl⟩ : ∃ c,b=a+c:=⟨b-a,by omega⟩
 rw [Int.pow_add]
 have h1:=X6d c
 have h2:=X6d a
 have:=Int.mul_le_mul_of_nonneg_left h1 (show 0≤(2:Int)^a by omega)
 omega
theorem X9b{N C:Nat}(hN5:1≤N∧N≤5) : ∀ (l:List Gt) {m0:Nat} {M0:Mx} {v:Nat→St},(∀ g ∈ l,gOk N g=true)→m0+hs l≤23→mOk M0=true→M0.rows=((2^N:Nat) : Int)→M0.cols=(C:Int)→
  (∀ i j,i<2^N→j<C→V (M0.at i j) m0 (v j (pt N i)))→(∀ j β,qN (v j β)≤4^m0)→∃ M,applI N l M0=some M
 | [],m0,M0,v,_,_,_,_,_,_,_=>⟨M0,rfl⟩
 | g::l,m0,M0,v,hg,hh,hk,hr,hc,h0,hb=>by
  have hg1:=hg g (by simp)
  have hge:=X4q hg1
  have e2:(gateS (N:Int) g).cols.toNat=2^N:=by
   show ((2^(N:Int).toNat:Nat) : Int).toNat=2^N
   rw [Int.toNat_natCast,Int.toNat_natCast]
  have er:(gateS (N:Int) g).rows=((2^N:Nat) : Int):=by
   show ((2^(N:Int).toNat:Nat) : Int)=_
   rw [Int.toNat_natCast]
  have ec:(gateS (N:Int) g).cols=((2^N:Nat) : Int):=by
   show ((2^(N:Int).toNat:Nat) : Int)=_
   rw [Int.toNat_natCast]
  have h1:hN g≤1:=by unfold hN;split<;>omega
  rw [hs] at hh
  have hcell:∀ i j,i<2^N→j<C→∃ s,dotI (gateS N g) M0 i j (2^N)=some s:=fun i j hi hj=>by
   have p32:=X7o hN5.2
   have q1:(2:Int)^m0≤2^23:=Xii (by omega)
   have q2:=X6d m0
   obtain ⟨s,h,_⟩:=X9l (a:=gateS N g) (b:=M0) (i:=i) (j:=j) (m:=hN g) (m':=m0) (za:=fun k=>zc N g i k) (zb:=fun k=>v j (pt N k)) (r:=2^m0) (by omega) (by omega) (2^N)
    (fun k hk'=>⟨by rw [X6u hg1 hi hk'];exact Xck hg1 i k,Mx.at_ok (X2i hge.2) i k,Xpp i k⟩)
    (fun k hk'=>⟨h0 k j hk' hj,Mx.at_ok (X2i hk) k j,by rw [← Xpc];exact hb j _⟩)
    (by
     have h5:(((2^N:Nat) : Int))*2^m0≤32*2^m0:=Int.mul_le_mul_of_nonneg_right (by omega) (by omega)
     have h6:(2:Int)^23=8388608:=rfl
     omega)
   exact ⟨s,h⟩
  have hdim:=X4k hk
  have hdg:=X4k hge.2
  obtain ⟨M1,hM1⟩ : ∃ M1,mulI (gateS N g) M0=some M1:=by
   unfold mulI
   rw [if_pos (by rw [hge.2,hk,ec,hr];simp),e2]
   refine Xgk hdg.1 hdim.2 fun i j hi hj=>hcell i j ?_ ?_
   ·rw [er,Int.toNat_natCast] at hi;exact hi
   ·rw [hc,Int.toNat_natCast] at hj;exact hj
  obtain ⟨q1,q2,q3,q4,_⟩:=X94 hM1
  have hok1:=((X52 hge.2 hk (by rw [ec,hr])).1 M1 hM1)
  rw [applI,hge.1,Option.getD_some,hM1,Option.bind_some]
  refine X9b hN5 l (m0:=m0+hN g) (v:=fun j=>act g (v j)) (fun g' hg'=>hg g' (by simp [hg'])) (by omega) hok1.2.1 (by rw [q2,er]) (by rw [q3,hc]) (fun i j hi hj=>?_) (fun j β=>?_)
  ·have q1':=q1 i j (by rw [er,Int.toNat_natCast];exact hi) (by rw [hc,Int.toNat_natCast];exact hj)
   rw [e2] at q1'
   have:=X7n (m:=hN g) (m':=m0) (za:=fun k=>zc N g i k) (zb:=fun k=>v j (pt N k)) (2^N) (fun k hk'=>by rw [X6u hg1 hi hk'];exact Xck hg1 i k) (fun k hk'=>h0 k j hk' hj) q1'
   rw [Xaj hg1 hi] at this
   rw [Nat.add_comm]
   exact this
  ·have ht:=Xb6 hg1
   have:=Xn9 ht.1 ht.2 (hb j) β
   rw [Int.pow_add,Int.mul_comm]
   exact this
theorem Xb3{c:Cx}(hc:cOk c=true)(hh:hs c.gs≤23) : ∃ M,opI c=some M:=by
 obtain ⟨hn,_,hg⟩:=X1l hc
 obtain ⟨N,hN⟩ : ∃ N:Nat,c.n=N:=⟨c.n.toNat,by omega⟩
 rw [hN] at hn hg
 have hd:=X2n (n:=(N:Int)) hn
 rw [Int.toNat_natCast] at hd
 obtain ⟨u1,u2⟩:=X3t hd
 have hu:idI (((2^N:Nat)) : Int)=some (unitS (2^N)):=u1
 unfold opI
 rw [if_pos hc,hN,Int.toNat_natCast,hu,Option.bind_some]
 unfold idI at hu
 obtain ⟨p1,p2,p3,_⟩:=X5y hu
 rw [Int.toNat_natCast] at p1
 refine X9b (C:=2^N) (by omega) c.gs (m0:=0) (v:=fun j=>eb N j) hg (by omega) u2 p2 p3 (fun i j hi hj=>?_) (fun j β=>?_)
 ·have e:=Option.some.inj (p1 i j hi hj)
  rw [← e,Xg9 (by omega) hi hj]
  by_cases e2:i=j
  ·rw [if_pos e2,if_pos e2]
   exact Xbe (by decide) (by decide)
  ·rw [if_neg e2,if_neg e2]
   exact X5g 0
 ·unfold eb
  split
  ·exact (by decide:qN 1≤4^0)
  ·exact (by decide:qN 0≤4^0)
theorem Xia:∀ l:List Gt,hs l≤l.length
 | []=>Nat.le_refl _
 | g::l=>by
  have:=Xia l
  have h1:hN g≤1:=by unfold hN;split<;>omega
  rw [hs,List.length_cons]
  omega
#print axioms Xb3
end Go.Proofs.YtlfjcmldfbfdbaaGreat
namespace Go.Proofs.YtlfjcmldfbfdbaaGreat
theorem Xi8{n:Int}{l:List Gt}(hn:1≤n∧n≤5)(hl:l.length≤400)(hg:∀ g ∈ l,gOk n g=true) : cOk ⟨n,l⟩=true:=by
 simp only [cOk,Bool.and_eq_true,Xv,decide_eq_true_eq,Bool.not_eq_true',List.any_eq_false]
 exact ⟨⟨hn,by omega⟩,fun g h=>by simp [hg g h]⟩
theorem X7w(c:Cx) : eqC c c=true:=by simp [eqC]
theorem Xja{n:Int}{r:Rp}(hv:vrI n r=true)(h1:hs r.old≤23)(h2:hs r.new≤23){us:List Int}(hus:us=usedS (r.old++r.new))
  (h:∃ k,k<8∧∀ v β,s2^hs (r.new.map (smallG us))*run (r.old.map (smallG us)) v β=om^k*(s2^hs (r.old.map (smallG us))*run (r.new.map (smallG us)) v β)) : justS r=(true,true):=by
 obtain ⟨hn,hl,ho,hw⟩:=X2r hv
 have hall:∀ g ∈ r.old++r.new,gOk n g=true:=fun g hg=>by
  rcases List.mem_append.1 hg with hg|hg
  ·exact ho g hg
  ·exact hw g hg
 have hq:=X3u hall
 have hgo:∀ g ∈ r.old++r.new,GoodG (usedS (r.old++r.new)) n g:=fun g hg=>⟨hall g hg,fun x hx=>(X21 _ x).2 ⟨g,hg,hx⟩⟩
 have hi:=X70 (r.old++r.new)
 rw [← hus] at hq hgo hi
 have h5:=Xdp hi hq
 have c1:cOk (smallC r.old us)=true:=Xi8 (by omega) (by rw [List.length_map];omega) fun g hg=>by
  obtain ⟨x,hx,rfl⟩:=List.mem_map.1 hg
  exact X6c hi hq (hgo x (List.mem_append_left _ hx))
 have c2:cOk (smallC r.new us)=true:=Xi8 (by omega) (by rw [List.length_map];omega) fun g hg=>by
  obtain ⟨x,hx,rfl⟩:=List.mem_map.1 hg
  exact X6c hi hq (hgo x (List.mem_append_right _ hx))
 obtain ⟨M,e1⟩:=Xb3 c1 (by show hs (r.old.map (smallG us))≤23;rw [X8g];exact h1)
 obtain ⟨M',e2⟩:=Xb3 c2 (by show hs (r.new.map (smallG us))≤23;rw [X8g];exact h2)
 have hN:(smallC r.old us).n=((max 1 us.length:Nat) : Int):=by
  show max 1 (us.length:Int)=_
  omega
 have hp:=(X8b hN (show (smallC r.new us).n=_ from hN) e1 e2).2 h
 rw [(X5t _).1] at e1 e2
 unfold justS
 rw [← hus]
 unfold sameS
 rw [e1,e2]
 simp only [Option.isSome_some,Bool.true_and,Option.getD_some,hp]
 rw [if_pos]
 show ((smallC r.old us).n==(smallC r.new us).n)=true
 simp [smallC]
theorem X6e{g:Gt} : ∀ (l:List Gt) (j t:Nat),j≤t→t<nextC g l j→∃ h,l[t-j]? = some h∧metS g h=false
 | [],j,t,h1,h2=>by unfold nextC at h2;omega
 | h::l,j,t,h1,h2=>by
  unfold nextC at h2
  split at h2
  ·omega
  ·rename_i hm
   by_cases e:t=j
   ·subst e
    exact ⟨h,by simp,by simpa using hm⟩
   ·obtain ⟨x,hx,hx2⟩:=X6e l (j+1) t (by omega) h2
    exact ⟨x,by rw [show t-j=(t-(j+1))+1 by omega,List.getElem?_cons_succ];exact hx,hx2⟩
theorem Xeu{us:List Int}{n:Int}{g h:Gt}(hg:GoodG us n g)(hh:GoodG us n h)(hm:metS g h=false) : Dis (smallG us g) (smallG us h):=by
 have key:∀ {x:Gt},GoodG us n x→∀ q,Sup (smallG us x) q→∃ y ∈ qubI x,(y ∈ us)∧q=(lastN us y us.length).toNat:=fun {x} hx q hq=>by
  unfold Sup smallG at hq
  dsimp only at hq
  rcases hq with ⟨h12,e⟩|⟨h9,e⟩
  ·rw [if_neg h12] at e
   have hy:x.a ∈ qubI x:=by
    unfold qubI
    rw [if_neg h12]
    split<;>simp
   exact ⟨x.a,hy,hx.use _ hy,e⟩
  ·rw [if_pos (Xv.2 h9)] at e
   have hy:x.b ∈ qubI x:=by
    unfold qubI
    rw [if_neg (by omega),if_pos (Xv.2 h9)]
    simp
   exact ⟨x.b,hy,hx.use _ hy,e⟩
 intro q h1 h2
 obtain ⟨y,y1,y2,y3⟩:=key hg q h1
 obtain ⟨z,z1,z2,z3⟩:=key hh q h2
 obtain ⟨j,_,hj,hj2⟩:=X54 y2
 obtain ⟨k,_,hk,hk2⟩:=X54 z2
 rw [hj,Int.toNat_natCast] at y3
 rw [hk,Int.toNat_natCast] at z3
 have:y=z:=by rw [← hj2,← hk2,← y3,← z3]
 subst this
 rw [Xal] at hm
 have:=Xdo.2 ⟨y,y1,z1⟩
 rw [hm] at this
 cases this
theorem Xh4(us:List Int)(g:Gt) : smallG us (bkG g)=bkG (smallG us g):=by
 have e12:bkK g.k=12↔g.k=12:=by unfold bkK;split<;>(try split)<;>omega
 have e9:inR (bkK g.k) 9 11=inR g.k 9 11:=by
  rw [Bool.eq_iff_iff,Xv,Xv]
  unfold bkK
  split<;>(try split)<;>omega
 show (⟨bkK g.k,if bkK g.k=12 then 0 else lastN us g.a us.length,if inR (bkK g.k) 9 11=true then lastN us g.b us.length else 0⟩ : Gt)=⟨bkK g.k,_,_⟩
 rw [e9]
 congr 1
 by_cases h:g.k=12
 ·rw [if_pos (e12.2 h)]
  show 0=if g.k=12 then 0 else _
  rw [if_pos h]
 ·rw [if_neg fun h'=>h (e12.1 h')]
  show _=if g.k=12 then 0 else _
  rw [if_neg h]
theorem Xgb{n:Int}{gs:List Gt}{r:Rp}(hc:cOk ⟨n,gs⟩=true)(h:canS gs=some r)(hl23:gs.length≤23) : justS r=(true,true):=by
 obtain ⟨d,hd,_,_,_,_,_⟩:=X6x hc h
 have hv:=((X49 hc).2 d hd).2.2
 obtain ⟨i,j,g,hi,hj,hk,hij,hjl,h40,hjc,rfl⟩:=X6y h
 obtain ⟨hn,hl,hg⟩:=X1l hc
 dsimp only at hn hl hg hv
 have eo:(canR gs i j).old=g::(canR gs i j).new++[bkG g]:=by
  show (gs.take (j+1)).drop i=g::(gs.take j).drop (i+1)++[bkG g]
  obtain ⟨p1,p2⟩:=List.getElem?_eq_some_iff.1 hj
  rw [List.take_succ_eq_append_getElem p1,p2,List.drop_append_of_le_length (by rw [List.length_take];omega)]
  congr 1
  exact X3o (by rw [List.getElem?_take_of_lt hij];exact hi)
 have hmid:∀ x ∈ (canR gs i j).new,metS g x=false∧gOk n x=true:=fun x hx=>by
  obtain ⟨t,ht1,ht2⟩:=List.getElem_of_mem (show x ∈ (gs.take j).drop (i+1) from hx)
  have ht3:((gs.take j).drop (i+1))[t]? = some x:=by rw [List.getElem?_eq_getElem ht1,ht2]
  rw [List.length_drop,List.length_take] at ht1
  rw [List.getElem?_drop,List.getElem?_take_of_lt (by omega)] at ht3
  obtain ⟨y,hy1,hy2⟩:=X6e (g:=g) (gs.drop (i+1)) (i+1) (i+1+t) (by omega) (by unfold canJ at hjc;omega)
  rw [show i+1+t-(i+1)=t by omega,List.getElem?_drop,ht3] at hy1
  injection hy1 with hy1
  subst hy1
  exact ⟨hy2,hg _ (List.mem_of_getElem? ht3)⟩
 have hgg:=hg _ (List.mem_of_getElem? hi)
 have lo:hs (canR gs i j).old≤23:=by
  have h1:=Xia (canR gs i j).old
  have h2:(canR gs i j).old.length≤gs.length:=by
   show ((gs.take (j+1)).drop i).length≤_
   rw [List.length_drop,List.length_take];omega
  omega
 have ln:hs (canR gs i j).new≤23:=by
  have h1:=Xia (canR gs i j).new
  have h2:(canR gs i j).new.length≤gs.length:=by
   show ((gs.take j).drop (i+1)).length≤_
   rw [List.length_drop,List.length_take];omega
  omega
 refine Xja hv lo ln rfl ⟨0,by decide,fun v β=>?_⟩
 have hgo:∀ x ∈ (canR gs i j).old++(canR gs i j).new,GoodG (usedS ((canR gs i j).old++(canR gs i j).new)) n x:=fun x hx=>⟨by
  rcases List.mem_append.1 hx with hx|hx
  ·exact (X2r hv).2.2.1 x hx
  ·exact (X2r hv).2.2.2 x hx,fun y hy=>(X21 _ y).2 ⟨x,hx,hy⟩⟩
 have hq:=X3u fun x hx=>(hgo x hx).ok
 have hinc:=X70 ((canR gs i j).old++(canR gs i j).new)
 generalize usedS ((canR gs i j).old++(canR gs i j).new)=us at *
 have gg:GoodG us n g:=hgo g (List.mem_append_left _ (by rw [eo];simp))
 rw [eo,List.map_append,List.map_cons,List.map_singleton,Xh4]
 have tk:=Xb6 (X6c hinc hq gg)
 have hk2:=Xb6 hgg
 have hw:=X82 (g:=smallG us g) tk.1 (by show 1≤g.k∧g.k≤11;omega) (l:=(canR gs i j).new.map (smallG us)) (fun x hx=>by
  obtain ⟨y,hy,rfl⟩:=List.mem_map.1 hx
  have gy:=hgo y (List.mem_append_right _ hy)
  exact ⟨(Xb6 (X6c hinc hq gy)).1,Xeu gg gy (hmid y hy).1⟩) v β
 rw [hw,X3n]
 exact (Xh _).symm
theorem Xi3{n:Int}{gs:List Gt}{r:Rp}(hc:cOk ⟨n,gs⟩=true)(h:canS gs=some r) : ∃ d,applyS ⟨n,gs⟩ r=some d∧d.n=n∧cOk ⟨n,d.gs⟩=true∧d.gs.length+2=gs.length∧d.gs.Sublist gs:=by
 obtain ⟨d,hd,e1,e2,e3,_,_⟩:=X6x hc h
 refine ⟨d,hd,e1,by rw [← e1];exact e2,e3,?_⟩
 obtain ⟨p,q,a1,a2⟩:=Xb9 hd
 obtain ⟨i,j,g,hi,hj,hk,hij,hjl,h40,hjc,rfl⟩:=X6y h
 dsimp only at a1
 rw [a1,a2]
 refine List.Sublist.append (List.Sublist.append (List.Sublist.refl _) ?_) (List.Sublist.refl _)
 show ((gs.take j).drop (i+1)).Sublist ((gs.take (j+1)).drop i)
 have s1:((gs.take j).drop (i+1)).Sublist ((gs.take j).drop i):=by
  rw [← List.drop_drop]
  exact List.drop_sublist _ _
 refine s1.trans (List.Sublist.drop ?_ i)
 obtain ⟨p1,p2⟩:=List.getElem?_eq_some_iff.1 hj
 rw [List.take_succ_eq_append_getElem p1]
 exact List.sublist_append_left _ _
theorem X9e{n:Int} : ∀ (k i:Nat) (gs:List Gt),cOk ⟨n,gs⟩=true→gs.length≤k→gs.length≤23→
  checkLS i ⟨n,gs⟩ (canRun n k gs).2 (canRun n k gs).1=0∧canS (canRun n k gs).2.gs=none∧cOk (canRun n k gs).2=true∧(canRun n k gs).2.gs.Sublist gs
 | 0,i,gs,hc,hk,_=>by
  obtain rfl:gs=[]:=List.length_eq_zero_iff.1 (by omega)
  refine ⟨?_,rfl,hc,List.Sublist.refl _⟩
  show checkLS i ⟨n,[]⟩ ⟨n,[]⟩ []=0
  unfold checkLS
  rw [if_pos (X7w _)]
 | k+1,i,gs,hc,hk,h23=>by
  cases hs:canS gs with
  | none=>
   rw [X3b hs]
   refine ⟨?_,hs,hc,List.Sublist.refl _⟩
   unfold checkLS
   rw [if_pos (X7w _)]
  | some r=>
   obtain ⟨d,hd,e1,e2,e3,e4⟩:=Xi3 hc hs
   rw [X4m hs,hd,Option.getD_some]
   obtain ⟨i1,i2,i3,i4⟩:=X9e k (i+1) d.gs e2 (by omega) (by omega)
   refine ⟨?_,i2,i3,i4.trans e4⟩
   have hj:=Xgb hc hs h23
   unfold checkLS
   rw [hd,hj]
   rw [if_pos (by rfl)]
   have ed:d=⟨n,d.gs⟩:=by cases d;simp only at e1;rw [e1]
   show checkLS (i+1) d _ _=0
   rw [ed]
   exact i1
theorem Xe9{c:Cx}(hc:cOk c=true)(h23:c.gs.length≤23) :
  checkS (canC c).1 (canC c).2.2 (canC c).2.1=(0,true)∧cOk (canC c).2.2=true∧(canC (canC c).2.2).2.1=[]∧(canC c).2.2.gs.length≤c.gs.length∧tcN (canC c).2.2.gs≤tcN c.gs∧(canC c).1=c∧(canC c).2.1.length≤400:=by
 have hd:c=⟨c.n,c.gs⟩:=rfl
 obtain ⟨i1,i2,i3,i4⟩:=X9e (n:=c.n) c.gs.length 0 c.gs hc (Nat.le_refl _) h23
 have hb:=(X3v (n:=c.n) c.gs.length c.gs hc).1
 have e:canC c=(c,canRun c.n c.gs.length c.gs):=by unfold canC;rw [if_pos hc]
 rw [e]
 dsimp only
 refine ⟨?_,i3,?_,i4.length_le,i4.countP_le,rfl,by omega⟩
 ·unfold checkS
  rw [if_pos (by rw [hc];simp only [Bool.true_and,decide_eq_true_eq];omega)]
  exact congrArg (·,true) i1
 ·unfold canC
  rw [if_pos i3,X3b i2]
#print axioms Xe9
end Go.Proofs.YtlfjcmldfbfdbaaGreat
set_option maxHeartbeats 1000000
set_option maxRecDepth 4000
namespace Go.Proofs.YtlfjcmldfbfdbaaGreat
open Go.RowKit
theorem Xot(w0:World){Xcd:TypeId}(Acd:Option Addr)(ccd:Nat)(code:List Int)(hr_code:Rd w0 w0.heap.size Xcd encU Acd code)(hcd:∀ x ∈ code,0≤x∧x≤255){Xce:TypeId}(Ace:Option Addr)(cce:Nat)(more:List Int)(hr_more:Rd w0 w0.heap.size Xce encU Ace more)(hcm:∀ x ∈ more,0≤x∧x≤255) : Ret Tryz.prog 5 [.slice Acd code.length ccd,.slice Ace more.length cce] w0 (fun v w=>v=.bool true∧Below w0.heap.size w0 w):=by
 refine enter Tryz.func5 rfl 125 rfl rfl ?_
 intro a hf
 have hW:Below w0.heap.size w0 w0:=Below.refl _ _
 refine Zs hf fun _ hK3=>?_
 refine Za rfl ?_
 refine Zt hK3 fun a hf=>?_
 refine wp_seq_k fun _ hK4=>?_
 refine Zs hf fun _ hK5=>?_
 refine Zm rfl<|Zm rfl ?_
 refine Zf (Vc (Xpx _ Acd ccd code (hr_code.below' hW).top Ace cce more (hr_more.below' hW).top) Xjw) ?_;rintro _ w1 ⟨rfl,hE⟩
 replace hW:=btr hW hE
 refine Zt hK5 fun a hf=>?_
 refine Xo hf rfl (fun hc6=>?_) (fun hc6=>?_)
 ·have hc6b:=hc6
  refine Zs hf fun _ hK7=>?_
  refine Za rfl ?_
  refine Zt hK7 fun a hf=>?_
  refine wp_ret ?_
  refine X6 ?_
  refine X2 hf (Xz hf rfl rfl) ?_
  exact ⟨by first|rfl|(rw [X88];simp),hW⟩
 have hc6b:=hc6
 refine wp_skip ?_
 refine hK4 _ _ ?_
 refine Zs hf fun _ hK8=>?_
 refine Zm rfl ?_
 refine Zf (Vc (Xoo _ Acd ccd code (hr_code.below' hW).top hcd) Xjj) ?_;rintro _ w2 ⟨cz24,Az24,ez24,rfl,hPz24,hoz24,hE⟩
 replace hoz24:=hoz24.lower hW.size
 replace hW:=btr hW hE
 refine Zf (X9 (zs:=[vi 0,.slice none 0 0]) X2x rfl) ?_;rintro _ w3 ⟨b11,rfl,hl11,hE,hB11⟩
 have hlo11:=Nat.le_trans hW.size hl11
 have haw1_11:=(hr_code.below' hW).away hl11
 have haw2_11:=(hr_more.below' hW).away hl11
 replace hoz24:=hoz24.below hE
 replace hW:=btr hW hE
 refine Zo (Vw [vi cz24.n,.slice Az24 cz24.gs.length ez24] X1c hB11) ?_;rintro _ w4 ⟨ho,hb⟩
 have hold:=hB11
 replace hoz24:=hoz24.onlyT ho hold rfl
 replace hW:=Below.only hW ho hlo11
 clear hold
 have hB11:=hb
 clear hb ho
 refine Zt hK8 fun a hf=>?_
 refine Zs hf fun _ hK12=>?_
 refine Ze (Vn X0p hB11) ?_
 refine Zf (Vc (Xom _ cz24 Az24 ez24 hoz24.rd.top hoz24.cap (by omega)) Xj5) ?_;rintro _ w5 ⟨lz27,Az27,ez27,Bz27,fz27,Dz27,gz27,rfl,hlmz27,⟨hcbz27,hcdz27⟩,hraz27,hrdz27,hoz27,hdpz27,hE⟩
 replace hoz27:=hoz27.lower hW.size
 replace hB11:=hB11.below hE
 replace hoz24:=hoz24.below hE
 replace hW:=btr hW hE
 refine Zm rfl<|Ze (X3 (vs:=[.agg #[vi ((canC cz24).1.n),.slice Az27 ((canC cz24).1.gs).length ez27,.slice Bz27 lz27.length fz27,vi ((canC cz24).2.2.n),.slice Dz27 ((canC cz24).2.2.gs).length gz27],.bool (cOk cz24)]) rfl rfl)<|Ze (X3 (vs:=[.agg #[vi ((canC cz24).1.n),.slice Az27 ((canC cz24).1.gs).length ez27,.slice Bz27 lz27.length fz27,vi ((canC cz24).2.2.n),.slice Dz27 ((canC cz24).2.2.gs).length gz27],.bool (cOk cz24)]) rfl rfl) ?_
 refine Zf (X9 (zs:=[vi 0,.slice none 0 0,.slice none 0 0,vi 0,.slice none 0 0]) Xar rfl) ?_;rintro _ w6 ⟨b19,rfl,hl19,hE,hB19⟩
 have hlo19:=Nat.le_trans hW.size hl19
 have haw1_19:=(hr_code.below' hW).away hl19
 have haw2_19:=(hr_more.below' hW).away hl19
 replace hB11:=hB11.below hE
 replace hoz24:=hoz24.below hE
 replace hraz27:=hraz27.below hE
 replace hoz27:=hoz27.below hE
 replace hrdz27:=hrdz27.below hE
 replace hdpz27:=hdpz27.below hE
 replace hW:=btr hW hE
 refine Zo (Vw [vi ((canC cz24).1.n),.slice Az27 ((canC cz24).1.gs).length ez27,.slice Bz27 lz27.length fz27,vi ((canC cz24).2.2.n),.slice Dz27 ((canC cz24).2.2.gs).length gz27] X66 hB19) ?_;rintro _ w7 ⟨ho,hb⟩
 have hold:=hB19
 replace hB11:=hB11.only ho (Blk.ne hB11 hold rfl)
 replace hoz24:=hoz24.onlyT ho hold rfl
 replace hraz27:=hraz27.onlyT ho hold rfl
 replace hoz27:=hoz27.onlyT ho hold rfl
 replace hrdz27:=hrdz27.onlyT ho hold rfl
 replace hdpz27:=hdpz27.onlyT ho hold rfl
 replace hW:=Below.only hW ho hlo19
 clear hold
 have hB19:=hb
 clear hb ho
 refine Za rfl ?_
 refine Zt hK12 fun a hf=>?_
 refine wp_seq_k fun _ hK20=>?_
 refine Zs hf fun _ hK21=>?_
 refine Zm rfl<|Ze (Vn X0p hB11) ?_
 refine Zf (Vc (Xpg _ cz24 Az24 ez24 hoz24.rd.top (by omega)) Xjc) ?_;rintro _ w8 ⟨rfl,hE⟩
 replace hB11:=hB11.below hE
 replace hB19:=hB19.below hE
 replace hoz24:=hoz24.below hE
 replace hraz27:=hraz27.below hE
 replace hoz27:=hoz27.below hE
 replace hrdz27:=hrdz27.below hE
 replace hdpz27:=hdpz27.below hE
 replace hW:=btr hW hE
 refine Ze (Xpk Tryz.underlying4 rfl rfl) ?_
 refine Zt hK21 fun a hf=>?_
 refine Xo hf rfl (fun hc22=>?_) (fun hc22=>?_)
 ·have hc22b:=hc22
  simp at hc22
 have hc22b:=hc22
 refine wp_skip ?_
 refine hK20 _ _ ?_
 refine wp_seq_k fun _ hK23=>?_
 refine Zs hf fun _ hK24=>?_
 refine Zm rfl ?_
 refine Zt hK24 fun a hf=>?_
 refine Xo hf rfl (fun hc25=>?_) (fun hc25=>?_)
 ·have hc25b:=hc25
  have hc:cOk cz24=true:=hc25
  obtain ⟨ha1,ha2,ha3,ha4,ha5,ha6,ha7⟩:=Xe9 hc (by omega)
  obtain ⟨hb1,hb2,hb3,hb4,hb5,hb6⟩:=Xcv (m:=14) (c:=cz24) hPz24.2.2 ⟨by omega,by omega⟩
  obtain ⟨hbl,hbs⟩:=Xff hlmz27 hb4
  have hcO1:cOk (canC cz24).1=true:=by rw [ha6];exact hc
  have hcO2:cOk (canC cz24).2.2=true:=ha2
  have hck:checkS (canC cz24).1 (canC cz24).2.2 (lz27.map Sr.rp)=(0,true):=by rw [hlmz27];exact ha1
  refine Zs hf fun _ hK26=>?_
  refine Ze (Vn X68 hB19) ?_
  refine Zf (Vc (F27 _ ((canC cz24).1) Az27 ez27 hraz27.top hcbz27 Bz27 fz27 lz27 hoz27.rd.top hdpz27.top ((canC cz24).2.2) Dz27 gz27 hrdz27.top (by omega) (by omega) (fun s hs=>⟨Nat.le_trans (hbs s hs).1 (by decide),Nat.le_trans (hbs s hs).2 (by decide)⟩) (by omega)) Xos) ?_;rintro _ w9 ⟨rfl,hE⟩
  replace hB11:=hB11.below hE
  replace hB19:=hB19.below hE
  replace hoz24:=hoz24.below hE
  replace hraz27:=hraz27.below hE
  replace hoz27:=hoz27.below hE
  replace hrdz27:=hrdz27.below hE
  replace hdpz27:=hdpz27.below hE
  replace hW:=btr hW hE
  refine Zm rfl<|Ze (X3 (vs:=[vi ((checkS ((canC cz24).1) ((canC cz24).2.2) (lz27.map Sr.rp)).1),.bool ((checkS ((canC cz24).1) ((canC cz24).2.2) (lz27.map Sr.rp)).2)]) rfl rfl)<|Ze (X3 (vs:=[vi ((checkS ((canC cz24).1) ((canC cz24).2.2) (lz27.map Sr.rp)).1),.bool ((checkS ((canC cz24).1) ((canC cz24).2.2) (lz27.map Sr.rp)).2)]) rfl rfl)<|Za rfl<|Za rfl ?_
  refine Zt hK26 fun a hf=>?_
  refine Zs hf fun _ hK27=>?_
  refine Ze (Vd rfl X1s 3)<|Ze (X0a (l:=[vi ((canC cz24).2.2.n),.slice Dz27 ((canC cz24).2.2.gs).length gz27]) rfl X0p ((hB19.at 3).take 2) rfl) ?_
  refine Zf (Vc (Xpd _ ((canC cz24).2.2) Dz27 gz27 hrdz27.top (by omega)) Xjo) ?_;rintro _ w10 ⟨lz43,Az43,ez43,Bz43,fz43,Dz43,gz43,rfl,hlmz43,⟨hcbz43,hcdz43⟩,hraz43,hrdz43,hoz43,hdpz43,hE⟩
  replace hoz43:=hoz43.lower hW.size
  replace hB11:=hB11.below hE
  replace hB19:=hB19.below hE
  replace hoz24:=hoz24.below hE
  replace hraz27:=hraz27.below hE
  replace hoz27:=hoz27.below hE
  replace hrdz27:=hrdz27.below hE
  replace hdpz27:=hdpz27.below hE
  replace hW:=btr hW hE
  refine Zm rfl<|Ze (X3 (vs:=[.agg #[vi ((canC ((canC cz24).2.2)).1.n),.slice Az43 ((canC ((canC cz24).2.2)).1.gs).length ez43,.slice Bz43 lz43.length fz43,vi ((canC ((canC cz24).2.2)).2.2.n),.slice Dz43 ((canC ((canC cz24).2.2)).2.2.gs).length gz43],.bool (cOk ((canC cz24).2.2))]) rfl rfl)<|Ze (X3 (vs:=[.agg #[vi ((canC ((canC cz24).2.2)).1.n),.slice Az43 ((canC ((canC cz24).2.2)).1.gs).length ez43,.slice Bz43 lz43.length fz43,vi ((canC ((canC cz24).2.2)).2.2.n),.slice Dz43 ((canC ((canC cz24).2.2)).2.2.gs).length gz43],.bool (cOk ((canC cz24).2.2))]) rfl rfl) ?_
  refine Zf (X9 (zs:=[vi 0,.slice none 0 0,.slice none 0 0,vi 0,.slice none 0 0]) Xar rfl) ?_;rintro _ w11 ⟨b34,rfl,hl34,hE,hB34⟩
  have hne19_34:b19≠b34:=by have:=hB19.lt;omega
  have hlo34:=Nat.le_trans hW.size hl34
  have haw1_34:=(hr_code.below' hW).away hl34
  have haw2_34:=(hr_more.below' hW).away hl34
  replace hB11:=hB11.below hE
  replace hB19:=hB19.below hE
  replace hoz24:=hoz24.below hE
  replace hraz27:=hraz27.below hE
  replace hoz27:=hoz27.below hE
  replace hrdz27:=hrdz27.below hE
  replace hraz43:=hraz43.below hE
  replace hoz43:=hoz43.below hE
  replace hrdz43:=hrdz43.below hE
  replace hdpz27:=hdpz27.below hE
  replace hdpz43:=hdpz43.below hE
  replace hW:=btr hW hE
  refine Zo (Vw [vi ((canC ((canC cz24).2.2)).1.n),.slice Az43 ((canC ((canC cz24).2.2)).1.gs).length ez43,.slice Bz43 lz43.length fz43,vi ((canC ((canC cz24).2.2)).2.2.n),.slice Dz43 ((canC ((canC cz24).2.2)).2.2.gs).length gz43] X66 hB34) ?_;rintro _ w12 ⟨ho,hb⟩
  have hold:=hB34
  replace hB11:=hB11.only ho (Blk.ne hB11 hold rfl)
  replace hB19:=hB19.only ho (by omega)
  replace hoz24:=hoz24.onlyT ho hold rfl
  replace hraz27:=hraz27.onlyT ho hold rfl
  replace hoz27:=hoz27.onlyT ho hold rfl
  replace hrdz27:=hrdz27.onlyT ho hold rfl
  replace hraz43:=hraz43.onlyT ho hold rfl
  replace hoz43:=hoz43.onlyT ho hold rfl
  replace hrdz43:=hrdz43.onlyT ho hold rfl
  replace hdpz27:=hdpz27.onlyT ho hold rfl
  replace hdpz43:=hdpz43.onlyT ho hold rfl
  replace hW:=Below.only hW ho hlo34
  clear hold
  have hB34:=hb
  clear hb ho
  refine Za rfl ?_
  refine Zt hK27 fun a hf=>?_
  refine Zs hf fun _ hK35=>?_
  refine Ze (Vn X68 hB19) ?_
  refine Zf (Vc (Xor _ ((canC cz24).1) Az27 ez27 hraz27.top Bz27 fz27 lz27 hoz27.rd.top hdpz27.top ((canC cz24).2.2) Dz27 gz27 hrdz27.top hcO1 hcO2 (by omega)) Xjq) ?_;rintro _ w13 ⟨rfl,hE⟩
  replace hB11:=hB11.below hE
  replace hB19:=hB19.below hE
  replace hB34:=hB34.below hE
  replace hoz24:=hoz24.below hE
  replace hraz27:=hraz27.below hE
  replace hoz27:=hoz27.below hE
  replace hrdz27:=hrdz27.below hE
  replace hraz43:=hraz43.below hE
  replace hoz43:=hoz43.below hE
  replace hrdz43:=hrdz43.below hE
  replace hdpz27:=hdpz27.below hE
  replace hdpz43:=hdpz43.below hE
  replace hW:=btr hW hE
  refine Zm rfl<|Ze (X3 (vs:=[.agg #[vi (lz27.length:Int),vi (((canC cz24).1).gs.length:Int),vi (((canC cz24).2.2).gs.length:Int),vi ((tcN ((canC cz24).1).gs:Nat) : Int),vi ((tcN ((canC cz24).2.2).gs:Nat) : Int)],.bool true]) rfl rfl)<|Ze (X3 (vs:=[.agg #[vi (lz27.length:Int),vi (((canC cz24).1).gs.length:Int),vi (((canC cz24).2.2).gs.length:Int),vi ((tcN ((canC cz24).1).gs:Nat) : Int),vi ((tcN ((canC cz24).2.2).gs:Nat) : Int)],.bool true]) rfl rfl) ?_
  refine Zf (X9 (zs:=[vi 0,vi 0,vi 0,vi 0,vi 0]) Xie rfl) ?_;rintro _ w14 ⟨b36,rfl,hl36,hE,hB36⟩
  have hlo36:=Nat.le_trans hW.size hl36
  have haw1_36:=(hr_code.below' hW).away hl36
  have haw2_36:=(hr_more.below' hW).away hl36
  replace hB11:=hB11.below hE
  replace hB19:=hB19.below hE
  replace hB34:=hB34.below hE
  replace hoz24:=hoz24.below hE
  replace hraz27:=hraz27.below hE
  replace hoz27:=hoz27.below hE
  replace hrdz27:=hrdz27.below hE
  replace hraz43:=hraz43.below hE
  replace hoz43:=hoz43.below hE
  replace hrdz43:=hrdz43.below hE
  replace hdpz27:=hdpz27.below hE
  replace hdpz43:=hdpz43.below hE
  replace hW:=btr hW hE
  refine Zo (Vw [vi (lz27.length:Int),vi (((canC cz24).1).gs.length:Int),vi (((canC cz24).2.2).gs.length:Int),vi ((tcN ((canC cz24).1).gs:Nat) : Int),vi ((tcN ((canC cz24).2.2).gs:Nat) : Int)] Xed hB36) ?_;rintro _ w15 ⟨ho,hb⟩
  have hold:=hB36
  replace hB11:=hB11.only ho (Blk.ne hB11 hold rfl)
  replace hB19:=hB19.only ho (Blk.ne hB19 hold rfl)
  replace hB34:=hB34.only ho (Blk.ne hB34 hold rfl)
  replace hoz24:=hoz24.onlyT ho hold rfl
  replace hraz27:=hraz27.onlyT ho hold rfl
  replace hoz27:=hoz27.onlyT ho hold rfl
  replace hrdz27:=hrdz27.onlyT ho hold rfl
  replace hraz43:=hraz43.onlyT ho hold rfl
  replace hoz43:=hoz43.onlyT ho hold rfl
  replace hrdz43:=hrdz43.onlyT ho hold rfl
  replace hdpz27:=hdpz27.onlyT ho hold rfl
  replace hdpz43:=hdpz43.onlyT ho hold rfl
  replace hW:=Below.only hW ho hlo36
  clear hold
  have hB36:=hb
  clear hb ho
  refine Za rfl ?_
  refine Zt hK35 fun a hf=>?_
  refine wp_seq_k fun _ hK37=>?_
  refine X0h (fun a w=>Fr a 125 [(1,.slice Ace more.length cce),(99,.bool (((((((((!((checkS ((canC cz24).1) ((canC cz24).2.2) (lz27.map Sr.rp)).2))||(((checkS ((canC cz24).1) ((canC cz24).2.2) (lz27.map Sr.rp)).1) != 0))||(!(cOk ((canC cz24).2.2))))||(decide (0<(lz43.length:Int))))&&true)||(decide ((((canC cz24).1).gs.length:Int)<(((canC cz24).2.2).gs.length:Int))))||(decide (((tcN ((canC cz24).1).gs:Nat) : Int)<((tcN ((canC cz24).2.2).gs:Nat) : Int))))||((lz27.length:Int) != (lz27.length:Int)))||(!(eqC ((canC cz24).1) cz24))))]∧Below w15.heap.size w15 w) ?_ ?_
  ·have hEc:Below w15.heap.size w15 w15:=Below.refl _ _
   refine Zr hf ?_
   refine Zm rfl<|Ze (X11 rfl)<|Zm rfl ?_
   refine Zg 53 rfl (fun hg38=>?_) (fun hg38=>?_)
   ·refine Zp ⟨_,_,rfl,rfl,hg38⟩ ?_
    refine Zp ⟨_,_,rfl,rfl,hg38⟩ ?_
    refine Ze (Xa rfl hg38 rfl)<|Zm rfl<|Zp ⟨_,_,rfl,rfl,rfl⟩ ?_
    refine Zp ⟨_,_,rfl,rfl,rfl⟩ ?_
    refine Ze (Xa rfl rfl rfl)<|Zm rfl<|Zp ⟨_,_,rfl,rfl,rfl⟩ ?_
    refine Zp ⟨_,_,rfl,rfl,rfl⟩ ?_
    refine Zp ⟨_,_,rfl,rfl,rfl⟩ ?_
    refine Zp ⟨_,_,rfl,rfl,rfl⟩ ?_
    refine Ze (Xa rfl rfl rfl)<|Zm rfl<|Zp ⟨_,_,rfl,rfl,rfl⟩ ?_
    refine Zp ⟨_,_,rfl,rfl,rfl⟩ ?_
    refine Ze (Xa rfl rfl rfl)<|Zm rfl<|Zp ⟨_,_,rfl,rfl,rfl⟩ ?_
    refine Zp ⟨_,_,rfl,rfl,rfl⟩ ?_
    refine Zp ⟨_,_,rfl,rfl,rfl⟩ ?_
    refine Zp ⟨_,_,rfl,rfl,rfl⟩ ?_
    refine Zp ⟨_,_,rfl,rfl,rfl⟩ ?_
    refine Ze (Xa rfl rfl rfl)<|Zm rfl<|Zp ⟨_,_,rfl,rfl,rfl⟩ ?_
    refine Zp ⟨_,_,rfl,rfl,rfl⟩ ?_
    refine Zp ⟨_,_,rfl,rfl,rfl⟩ ?_
    refine Zp ⟨_,_,rfl,rfl,rfl⟩ ?_
    refine Zp ⟨_,_,rfl,rfl,rfl⟩ ?_
    refine Ze (Xa rfl rfl rfl)<|Zm rfl<|Zp ⟨_,_,rfl,rfl,rfl⟩ ?_
    refine Zp ⟨_,_,rfl,rfl,rfl⟩ ?_
    refine Zp ⟨_,_,rfl,rfl,rfl⟩ ?_
    refine Zp ⟨_,_,rfl,rfl,rfl⟩ ?_
    refine Zp ⟨_,_,rfl,rfl,rfl⟩ ?_
    refine Zp ⟨_,_,rfl,rfl,rfl⟩ ?_
    refine Ze (Xa rfl rfl rfl)<|Zm rfl<|Zp ⟨_,_,rfl,rfl,rfl⟩ ?_
    refine Zp ⟨_,_,rfl,rfl,rfl⟩ ?_
    refine Zp ⟨_,_,rfl,rfl,rfl⟩ ?_
    refine Zp ⟨_,_,rfl,rfl,rfl⟩ ?_
    refine Zp ⟨_,_,rfl,rfl,rfl⟩ ?_
    refine Ze (Xa rfl rfl rfl) ?_
    refine Zn fun a hf=>?_
    have hEE:Below w15.heap.size w15 w15:=hEc
    exact ⟨hf.sub ⟨rfl,X1 rfl (by first|rfl|(simp only [hc6b,hc22b,hc25b,hg38,bs];done)|simp [hc6b,hc22b,hc25b,hg38]),trivial⟩,hEE⟩
   refine Zv ⟨_,_,rfl,rfl,hg38⟩ (X7 rfl) ?_
   refine Zv ⟨_,_,rfl,rfl,hg38⟩ (X2v rfl rfl) ?_
   refine Ze (Xc rfl hg38 rfl)<|Zm rfl ?_
   refine Zg 57 rfl (fun hg39=>?_) (fun hg39=>?_)
   ·refine Zp ⟨_,_,rfl,rfl,hg39⟩ ?_
    refine Zp ⟨_,_,rfl,rfl,hg39⟩ ?_
    refine Ze (Xa rfl hg39 rfl)<|Zm rfl<|Zp ⟨_,_,rfl,rfl,rfl⟩ ?_
    refine Zp ⟨_,_,rfl,rfl,rfl⟩ ?_
    refine Zp ⟨_,_,rfl,rfl,rfl⟩ ?_
    refine Zp ⟨_,_,rfl,rfl,rfl⟩ ?_
    refine Ze (Xa rfl rfl rfl)<|Zm rfl<|Zp ⟨_,_,rfl,rfl,rfl⟩ ?_
    refine Zp ⟨_,_,rfl,rfl,rfl⟩ ?_
    refine Ze (Xa rfl rfl rfl)<|Zm rfl<|Zp ⟨_,_,rfl,rfl,rfl⟩ ?_
    refine Zp ⟨_,_,rfl,rfl,rfl⟩ ?_
    refine Zp ⟨_,_,rfl,rfl,rfl⟩ ?_
    refine Zp ⟨_,_,rfl,rfl,rfl⟩ ?_
    refine Zp ⟨_,_,rfl,rfl,rfl⟩ ?_
    refine Ze (Xa rfl rfl rfl)<|Zm rfl<|Zp ⟨_,_,rfl,rfl,rfl⟩ ?_
    refine Zp ⟨_,_,rfl,rfl,rfl⟩ ?_
    refine Zp ⟨_,_,rfl,rfl,rfl⟩ ?_
    refine Zp ⟨_,_,rfl,rfl,rfl⟩ ?_
    refine Zp ⟨_,_,rfl,rfl,rfl⟩ ?_
    refine Ze (Xa rfl rfl rfl)<|Zm rfl<|Zp ⟨_,_,rfl,rfl,rfl⟩ ?_
    refine Zp ⟨_,_,rfl,rfl,rfl⟩ ?_
    refine Zp ⟨_,_,rfl,rfl,rfl⟩ ?_
    refine Zp ⟨_,_,rfl,rfl,rfl⟩ ?_
    refine Zp ⟨_,_,rfl,rfl,rfl⟩ ?_
    refine Zp ⟨_,_,rfl,rfl,rfl⟩ ?_
    refine Ze (Xa rfl rfl rfl)<|Zm rfl<|Zp ⟨_,_,rfl,rfl,rfl⟩ ?_
    refine Zp ⟨_,_,rfl,rfl,rfl⟩ ?_
    refine Zp ⟨_,_,rfl,rfl,rfl⟩ ?_
    refine Zp ⟨_,_,rfl,rfl,rfl⟩ ?_
    refine Zp ⟨_,_,rfl,rfl,rfl⟩ ?_
    refine Ze (Xa rfl rfl rfl) ?_
    refine Zn fun a hf=>?_
    have hEE:Below w15.heap.size w15 w15:=hEc
    exact ⟨hf.sub ⟨rfl,X1 rfl (by first|rfl|(simp only [hc6b,hc22b,hc25b,hg38,hg39,bs];done)|simp [hc6b,hc22b,hc25b,hg38,hg39]),trivial⟩,hEE⟩
   refine Zv ⟨_,_,rfl,rfl,hg39⟩ (X7 rfl) ?_
   refine Zv ⟨_,_,rfl,rfl,hg39⟩ (X11 rfl) ?_
   refine Ze (Xc rfl hg39 rfl)<|Zm rfl ?_
   refine Zg 61 rfl (fun hg40=>?_) (fun hg40=>?_)
   ·refine Zp ⟨_,_,rfl,rfl,hg40⟩ ?_
    refine Zp ⟨_,_,rfl,rfl,hg40⟩ ?_
    refine Zp ⟨_,_,rfl,rfl,hg40⟩ ?_
    refine Zp ⟨_,_,rfl,rfl,hg40⟩ ?_
    refine Ze (Xa rfl hg40 rfl)<|Zm rfl<|Zp ⟨_,_,rfl,rfl,rfl⟩ ?_
    refine Zp ⟨_,_,rfl,rfl,rfl⟩ ?_
    refine Ze (Xa rfl rfl rfl)<|Zm rfl<|Zp ⟨_,_,rfl,rfl,rfl⟩ ?_
    refine Zp ⟨_,_,rfl,rfl,rfl⟩ ?_
    refine Zp ⟨_,_,rfl,rfl,rfl⟩ ?_
    refine Zp ⟨_,_,rfl,rfl,rfl⟩ ?_
    refine Zp ⟨_,_,rfl,rfl,rfl⟩ ?_
    refine Ze (Xa rfl rfl rfl)<|Zm rfl<|Zp ⟨_,_,rfl,rfl,rfl⟩ ?_
    refine Zp ⟨_,_,rfl,rfl,rfl⟩ ?_
    refine Zp ⟨_,_,rfl,rfl,rfl⟩ ?_
    refine Zp ⟨_,_,rfl,rfl,rfl⟩ ?_
    refine Zp ⟨_,_,rfl,rfl,rfl⟩ ?_
    refine Ze (Xa rfl rfl rfl)<|Zm rfl<|Zp ⟨_,_,rfl,rfl,rfl⟩ ?_
    refine Zp ⟨_,_,rfl,rfl,rfl⟩ ?_
    refine Zp ⟨_,_,rfl,rfl,rfl⟩ ?_
    refine Zp ⟨_,_,rfl,rfl,rfl⟩ ?_
    refine Zp ⟨_,_,rfl,rfl,rfl⟩ ?_
    refine Zp ⟨_,_,rfl,rfl,rfl⟩ ?_
    refine Ze (Xa rfl rfl rfl)<|Zm rfl<|Zp ⟨_,_,rfl,rfl,rfl⟩ ?_
    refine Zp ⟨_,_,rfl,rfl,rfl⟩ ?_
    refine Zp ⟨_,_,rfl,rfl,rfl⟩ ?_
    refine Zp ⟨_,_,rfl,rfl,rfl⟩ ?_
    refine Zp ⟨_,_,rfl,rfl,rfl⟩ ?_
    refine Ze (Xa rfl rfl rfl) ?_
    refine Zn fun a hf=>?_
    have hEE:Below w15.heap.size w15 w15:=hEc
    exact ⟨hf.sub ⟨rfl,X1 rfl (by first|rfl|(simp only [hc6b,hc22b,hc25b,hg38,hg39,hg40,bs];done)|simp [hc6b,hc22b,hc25b,hg38,hg39,hg40]),trivial⟩,hEE⟩
   refine Zv ⟨_,_,rfl,rfl,hg40⟩ (Vd rfl X25 2) ?_
   refine Zv ⟨_,_,rfl,rfl,hg40⟩ (X0 rfl X5u (hB34.at 2)) ?_
   refine Zv ⟨_,_,rfl,rfl,hg40⟩ (X0y rfl X34) ?_
   refine Zv ⟨_,_,rfl,rfl,hg40⟩ (X3p rfl rfl) ?_
   refine Ze (Xc rfl hg40 rfl)<|Zm rfl ?_
   refine Zg 67 rfl (fun hg41=>?_) (fun hg41=>?_)
   ·refine Zp ⟨_,_,rfl,rfl,hg41⟩ ?_
    refine Zp ⟨_,_,rfl,rfl,hg41⟩ ?_
    refine Ze (Xa rfl hg41 rfl)<|Zm rfl<|Zp ⟨_,_,rfl,rfl,rfl⟩ ?_
    refine Zp ⟨_,_,rfl,rfl,rfl⟩ ?_
    refine Zp ⟨_,_,rfl,rfl,rfl⟩ ?_
    refine Zp ⟨_,_,rfl,rfl,rfl⟩ ?_
    refine Zp ⟨_,_,rfl,rfl,rfl⟩ ?_
    refine Ze (Xa rfl rfl rfl)<|Zm rfl<|Zp ⟨_,_,rfl,rfl,rfl⟩ ?_
    refine Zp ⟨_,_,rfl,rfl,rfl⟩ ?_
    refine Zp ⟨_,_,rfl,rfl,rfl⟩ ?_
    refine Zp ⟨_,_,rfl,rfl,rfl⟩ ?_
    refine Zp ⟨_,_,rfl,rfl,rfl⟩ ?_
    refine Ze (Xa rfl rfl rfl)<|Zm rfl<|Zp ⟨_,_,rfl,rfl,rfl⟩ ?_
    refine Zp ⟨_,_,rfl,rfl,rfl⟩ ?_
    refine Zp ⟨_,_,rfl,rfl,rfl⟩ ?_
    refine Zp ⟨_,_,rfl,rfl,rfl⟩ ?_
    refine Zp ⟨_,_,rfl,rfl,rfl⟩ ?_
    refine Zp ⟨_,_,rfl,rfl,rfl⟩ ?_
    refine Ze (Xa rfl rfl rfl)<|Zm rfl<|Zp ⟨_,_,rfl,rfl,rfl⟩ ?_
    refine Zp ⟨_,_,rfl,rfl,rfl⟩ ?_
    refine Zp ⟨_,_,rfl,rfl,rfl⟩ ?_
    refine Zp ⟨_,_,rfl,rfl,rfl⟩ ?_
    refine Zp ⟨_,_,rfl,rfl,rfl⟩ ?_
    refine Ze (Xa rfl rfl rfl) ?_
    refine Zn fun a hf=>?_
    have hEE:Below w15.heap.size w15 w15:=hEc
    exact ⟨hf.sub ⟨rfl,X1 rfl (by first|rfl|(simp only [hc6b,hc22b,hc25b,hg38,hg39,hg40,hg41,bs];done)|simp [hc6b,hc22b,hc25b,hg38,hg39,hg40,hg41]),trivial⟩,hEE⟩
   refine Zv ⟨_,_,rfl,rfl,hg41⟩ (X7 rfl) ?_
   refine Zv ⟨_,_,rfl,rfl,hg41⟩ (X11 rfl) ?_
   refine Ze (Xc rfl hg41 rfl)<|Zm rfl<|Zv ⟨_,_,rfl,rfl,rfl⟩ (Vd rfl Xf3 2) ?_
   refine Zv ⟨_,_,rfl,rfl,rfl⟩ (X0 rfl X5 (hB36.at 2)) ?_
   refine Zv ⟨_,_,rfl,rfl,rfl⟩ (Vd rfl Xfc 1) ?_
   refine Zv ⟨_,_,rfl,rfl,rfl⟩ (X0 rfl X5 (hB36.at 1)) ?_
   refine Zv ⟨_,_,rfl,rfl,rfl⟩ (X3p rfl rfl) ?_
   refine Ze (Xc rfl rfl rfl)<|Zm rfl ?_
   refine Zg 78 rfl (fun hg42=>?_) (fun hg42=>?_)
   ·refine Zp ⟨_,_,rfl,rfl,hg42⟩ ?_
    refine Zp ⟨_,_,rfl,rfl,hg42⟩ ?_
    refine Zp ⟨_,_,rfl,rfl,hg42⟩ ?_
    refine Zp ⟨_,_,rfl,rfl,hg42⟩ ?_
    refine Zp ⟨_,_,rfl,rfl,hg42⟩ ?_
    refine Ze (Xa rfl hg42 rfl)<|Zm rfl<|Zp ⟨_,_,rfl,rfl,rfl⟩ ?_
    refine Zp ⟨_,_,rfl,rfl,rfl⟩ ?_
    refine Zp ⟨_,_,rfl,rfl,rfl⟩ ?_
    refine Zp ⟨_,_,rfl,rfl,rfl⟩ ?_
    refine Zp ⟨_,_,rfl,rfl,rfl⟩ ?_
    refine Zp ⟨_,_,rfl,rfl,rfl⟩ ?_
    refine Ze (Xa rfl rfl rfl)<|Zm rfl<|Zp ⟨_,_,rfl,rfl,rfl⟩ ?_
    refine Zp ⟨_,_,rfl,rfl,rfl⟩ ?_
    refine Zp ⟨_,_,rfl,rfl,rfl⟩ ?_
    refine Zp ⟨_,_,rfl,rfl,rfl⟩ ?_
    refine Zp ⟨_,_,rfl,rfl,rfl⟩ ?_
    refine Ze (Xa rfl rfl rfl) ?_
    refine Zn fun a hf=>?_
    have hEE:Below w15.heap.size w15 w15:=hEc
    exact ⟨hf.sub ⟨rfl,X1 rfl (by first|rfl|(simp only [hc6b,hc22b,hc25b,hg38,hg39,hg40,hg41,hg42,bs];done)|simp [hc6b,hc22b,hc25b,hg38,hg39,hg40,hg41,hg42]),trivial⟩,hEE⟩
   refine Zv ⟨_,_,rfl,rfl,hg42⟩ (Vd rfl Xet 4) ?_
   refine Zv ⟨_,_,rfl,rfl,hg42⟩ (X0 rfl X5 (hB36.at 4)) ?_
   refine Zv ⟨_,_,rfl,rfl,hg42⟩ (Vd rfl Xer 3) ?_
   refine Zv ⟨_,_,rfl,rfl,hg42⟩ (X0 rfl X5 (hB36.at 3)) ?_
   refine Zv ⟨_,_,rfl,rfl,hg42⟩ (X3p rfl rfl) ?_
   refine Ze (Xc rfl hg42 rfl)<|Zm rfl ?_
   refine Zg 85 rfl (fun hg43=>?_) (fun hg43=>?_)
   ·refine Zp ⟨_,_,rfl,rfl,hg43⟩ ?_
    refine Zp ⟨_,_,rfl,rfl,hg43⟩ ?_
    refine Zp ⟨_,_,rfl,rfl,hg43⟩ ?_
    refine Zp ⟨_,_,rfl,rfl,hg43⟩ ?_
    refine Zp ⟨_,_,rfl,rfl,hg43⟩ ?_
    refine Zp ⟨_,_,rfl,rfl,hg43⟩ ?_
    refine Ze (Xa rfl hg43 rfl)<|Zm rfl<|Zp ⟨_,_,rfl,rfl,rfl⟩ ?_
    refine Zp ⟨_,_,rfl,rfl,rfl⟩ ?_
    refine Zp ⟨_,_,rfl,rfl,rfl⟩ ?_
    refine Zp ⟨_,_,rfl,rfl,rfl⟩ ?_
    refine Zp ⟨_,_,rfl,rfl,rfl⟩ ?_
    refine Ze (Xa rfl rfl rfl) ?_
    refine Zn fun a hf=>?_
    have hEE:Below w15.heap.size w15 w15:=hEc
    exact ⟨hf.sub ⟨rfl,X1 rfl (by first|rfl|(simp only [hc6b,hc22b,hc25b,hg38,hg39,hg40,hg41,hg42,hg43,bs];done)|simp [hc6b,hc22b,hc25b,hg38,hg39,hg40,hg41,hg42,hg43]),trivial⟩,hEE⟩
   refine Zv ⟨_,_,rfl,rfl,hg43⟩ (Vd rfl Xen 0) ?_
   refine Zv ⟨_,_,rfl,rfl,hg43⟩ (X0 rfl X5 (hB36.at 0)) ?_
   refine Zv ⟨_,_,rfl,rfl,hg43⟩ (Vd rfl X25 2) ?_
   refine Zv ⟨_,_,rfl,rfl,hg43⟩ (X0 rfl X5u (hB19.at 2)) ?_
   refine Zv ⟨_,_,rfl,rfl,hg43⟩ (X0y rfl X34) ?_
   refine Zv ⟨_,_,rfl,rfl,hg43⟩ (X2v rfl rfl) ?_
   refine Ze (Xc rfl hg43 rfl)<|Zm rfl ?_
   refine Zg 93 rfl (fun hg44=>?_) (fun hg44=>?_)
   ·refine Zp ⟨_,_,rfl,rfl,hg44⟩ ?_
    refine Zp ⟨_,_,rfl,rfl,hg44⟩ ?_
    refine Zp ⟨_,_,rfl,rfl,hg44⟩ ?_
    refine Zp ⟨_,_,rfl,rfl,hg44⟩ ?_
    refine Zp ⟨_,_,rfl,rfl,hg44⟩ ?_
    refine Ze (Xa rfl hg44 rfl) ?_
    refine Zn fun a hf=>?_
    have hEE:Below w15.heap.size w15 w15:=hEc
    exact ⟨hf.sub ⟨rfl,X1 rfl (by first|rfl|(simp only [hc6b,hc22b,hc25b,hg38,hg39,hg40,hg41,hg42,hg43,hg44,bs];done)|simp [hc6b,hc22b,hc25b,hg38,hg39,hg40,hg41,hg42,hg43,hg44]),trivial⟩,hEE⟩
   refine Zv ⟨_,_,rfl,rfl,hg44⟩ (Vd rfl X50 0) ?_
   refine Zv ⟨_,_,rfl,rfl,hg44⟩ (X0a (l:=[vi ((canC cz24).1.n),.slice Az27 ((canC cz24).1.gs).length ez27]) rfl X0p ((hB19.at 0).take 2) rfl) ?_
   refine Zv ⟨_,_,rfl,rfl,hg44⟩ (Vn X0p hB11) ?_
   refine Zk ⟨_,_,rfl,rfl,hg44⟩ (Vc (F64 _ ((canC cz24).1) Az27 ez27 hraz27.top cz24 Az24 ez24 hoz24.rd.top (by omega)) Xke) ?_;rintro _ w16 ⟨rfl,hE⟩
   replace hB11:=hB11.below hE
   replace hB19:=hB19.below hE
   replace hB34:=hB34.below hE
   replace hB36:=hB36.below hE
   replace hoz24:=hoz24.below hE
   replace hraz27:=hraz27.below hE
   replace hoz27:=hoz27.below hE
   replace hrdz27:=hrdz27.below hE
   replace hraz43:=hraz43.below hE
   replace hoz43:=hoz43.below hE
   replace hrdz43:=hrdz43.below hE
   replace hdpz27:=hdpz27.below hE
   replace hdpz43:=hdpz43.below hE
   replace hW:=btr hW hE
   replace hEc:=btr hEc hE
   refine Zv ⟨_,_,rfl,rfl,hg44⟩ (X11 rfl) ?_
   refine Ze (Xc rfl hg44 rfl) ?_
   refine Zn fun a hf=>?_
   have hEE:Below w15.heap.size w15 w16:=hEc
   exact ⟨hf.sub ⟨rfl,X1 rfl (by first|rfl|(simp only [hc6b,hc22b,hc25b,hg38,hg39,hg40,hg41,hg42,hg43,hg44,bs];done)|simp [hc6b,hc22b,hc25b,hg38,hg39,hg40,hg41,hg42,hg43,hg44]),trivial⟩,hEE⟩
  rintro a w17 ⟨hf,hE⟩
  replace hB11:=hB11.below hE
  replace hB19:=hB19.below hE
  replace hB34:=hB34.below hE
  replace hB36:=hB36.below hE
  replace hoz24:=hoz24.below hE
  replace hraz27:=hraz27.below hE
  replace hoz27:=hoz27.below hE
  replace hrdz27:=hrdz27.below hE
  replace hraz43:=hraz43.below hE
  replace hoz43:=hoz43.below hE
  replace hrdz43:=hrdz43.below hE
  replace hdpz27:=hdpz27.below hE
  replace hdpz43:=hdpz43.below hE
  replace hW:=btr hW hE
  refine hK37 _ _ ?_
  refine Xo hf rfl (fun hc45=>?_) (fun hc45=>?_)
  ·have hc45b:=hc45
   have h43:lz43.length=0:=by have:=congrArg List.length hlmz43;rw [ha3] at this;simpa using this
   have heq:eqC (canC cz24).1 cz24=true:=by rw [ha6];exact X7w _
   rw [hck,hcO2,h43,heq,ha6] at hc45;simp at hc45;omega
  have hc45b:=hc45
  refine wp_skip ?_
  refine hK23 _ _ ?_
  refine Zs hf fun _ hK46=>?_
  refine Zm rfl ?_
  refine Zf (Vc (Xl6 _ Ace cce more (hr_more.below' hW).top hcm) Xds) ?_;rintro _ w18 ⟨nz102,rz102,Az102,ez102,Bz102,fz102,rfl,hPz102,hroz102,hrnz102,hE⟩
  replace hW:=btr hW hE
  refine Zm rfl<|Ze (X3 (vs:=[vi nz102,.agg #[vi rz102.pos,.slice Az102 rz102.old.length ez102,.slice Bz102 rz102.new.length fz102]]) rfl rfl)<|Ze (X3 (vs:=[vi nz102,.agg #[vi rz102.pos,.slice Az102 rz102.old.length ez102,.slice Bz102 rz102.new.length fz102]]) rfl rfl) ?_
  refine Zf (X9 (zs:=[vi 0,.slice none 0 0,.slice none 0 0]) X7g rfl) ?_;rintro _ w19 ⟨b51,rfl,hl51,hE,hB51⟩
  have hlo51:=Nat.le_trans hW.size hl51
  have haw1_51:=(hr_code.below' hW).away hl51
  have haw2_51:=(hr_more.below' hW).away hl51
  replace hroz102:=hroz102.below hE
  replace hrnz102:=hrnz102.below hE
  replace hW:=btr hW hE
  refine Za rfl ?_
  refine Zo (Vw [vi rz102.pos,.slice Az102 rz102.old.length ez102,.slice Bz102 rz102.new.length fz102] X1u hB51) ?_;rintro _ w20 ⟨ho,hb⟩
  have hold:=hB51
  replace hroz102:=hroz102.onlyT ho hold rfl
  replace hrnz102:=hrnz102.onlyT ho hold rfl
  replace hW:=Below.only hW ho hlo51
  clear hold
  have hB51:=hb
  clear hb ho
  refine Zt hK46 fun a hf=>?_
  refine Zs hf fun _ hK52=>?_
  refine Zm rfl<|Ze (Vn X15 hB51) ?_
  refine Zf (Vc (F12 _ nz102 rz102 Az102 ez102 hroz102.top Bz102 fz102 hrnz102.top (Nat.le_trans hPz102.1 (by decide)) (Nat.le_trans hPz102.2 (by decide))) Xku) ?_;rintro _ w21 ⟨rfl,hE⟩
  replace hB51:=hB51.below hE
  replace hroz102:=hroz102.below hE
  replace hrnz102:=hrnz102.below hE
  replace hW:=btr hW hE
  refine Zm rfl<|Ze (X3 (vs:=[.bool ((implJ nz102 rz102).1),.bool ((implJ nz102 rz102).2)]) rfl rfl)<|Ze (X3 (vs:=[.bool ((implJ nz102 rz102).1),.bool ((implJ nz102 rz102).2)]) rfl rfl)<|Za rfl<|Za rfl ?_
  refine Zt hK52 fun a hf=>?_
  refine Zs hf fun _ hK53=>?_
  refine Zm rfl<|Ze (Vn X15 hB51) ?_
  refine Zf (Vc (F10 _ nz102 rz102 Az102 ez102 hroz102.top Bz102 fz102 hrnz102.top (Nat.le_trans hPz102.1 (by decide)) (Nat.le_trans hPz102.2 (by decide))) Xl1) ?_;rintro _ w22 ⟨rfl,hE⟩
  replace hB51:=hB51.below hE
  replace hroz102:=hroz102.below hE
  replace hrnz102:=hrnz102.below hE
  replace hW:=btr hW hE
  refine Zm rfl<|Ze (X3 (vs:=[.bool ((specJ nz102 rz102).1),.bool ((specJ nz102 rz102).2)]) rfl rfl)<|Ze (X3 (vs:=[.bool ((specJ nz102 rz102).1),.bool ((specJ nz102 rz102).2)]) rfl rfl)<|Za rfl<|Za rfl ?_
  refine Zt hK53 fun a hf=>?_
  refine wp_seq_k fun _ hK54=>?_
  refine X0h (fun a w=>Fr a 125 [(4,.bool ((((implJ nz102 rz102).2)==((specJ nz102 rz102).2))&&(((implJ nz102 rz102).1)==((specJ nz102 rz102).1))))]∧w22=w) ?_ ?_
  ·refine Zr hf ?_
   refine Zm rfl<|Zm rfl<|Ze (Xdt Tryz.underlying4 rfl rfl)<|Zm rfl ?_
   refine Zg 120 rfl (fun hg55=>?_) (fun hg55=>?_)
   ·refine Zv ⟨_,_,rfl,rfl,hg55⟩ (X7 rfl) ?_
    refine Zv ⟨_,_,rfl,rfl,hg55⟩ (X7 rfl) ?_
    refine Zv ⟨_,_,rfl,rfl,hg55⟩ (Xdt Tryz.underlying4 rfl rfl) ?_
    refine Ze (Xa rfl hg55 rfl)<|Za rfl ?_
    refine Zn fun a hf=>?_
    exact ⟨hf.sub ⟨X1 rfl (by first|rfl|(simp only [hc6b,hc22b,hc25b,hc45b,hg55,bs];done)|simp [hc6b,hc22b,hc25b,hc45b,hg55]),trivial⟩,rfl⟩
   refine Zp ⟨_,_,rfl,rfl,hg55⟩ ?_
   refine Zp ⟨_,_,rfl,rfl,hg55⟩ ?_
   refine Zp ⟨_,_,rfl,rfl,hg55⟩ ?_
   refine Ze (Xc rfl hg55 rfl)<|Za rfl ?_
   refine Zn fun a hf=>?_
   exact ⟨hf.sub ⟨X1 rfl (by first|rfl|(simp only [hc6b,hc22b,hc25b,hc45b,hg55,bs];done)|simp [hc6b,hc22b,hc25b,hc45b,hg55]),trivial⟩,rfl⟩
  rintro a _ ⟨hf,rfl⟩
  refine hK54 _ _ ?_
  refine wp_ret (X2 hf (Xz hf rfl rfl) ?_)
  exact ⟨by first|rfl|(rw [X88];simp),hW⟩
 have hc25b:=hc25
 refine wp_skip ?_
 refine hK23 _ _ ?_
 refine Zs hf fun _ hK56=>?_
 refine Zm rfl ?_
 refine Zf (Vc (Xl6 _ Ace cce more (hr_more.below' hW).top hcm) Xds) ?_;rintro _ w23 ⟨nz102,rz102,Az102,ez102,Bz102,fz102,rfl,hPz102,hroz102,hrnz102,hE⟩
 replace hB11:=hB11.below hE
 replace hB19:=hB19.below hE
 replace hoz24:=hoz24.below hE
 replace hraz27:=hraz27.below hE
 replace hoz27:=hoz27.below hE
 replace hrdz27:=hrdz27.below hE
 replace hdpz27:=hdpz27.below hE
 replace hW:=btr hW hE
 refine Zm rfl<|Ze (X3 (vs:=[vi nz102,.agg #[vi rz102.pos,.slice Az102 rz102.old.length ez102,.slice Bz102 rz102.new.length fz102]]) rfl rfl)<|Ze (X3 (vs:=[vi nz102,.agg #[vi rz102.pos,.slice Az102 rz102.old.length ez102,.slice Bz102 rz102.new.length fz102]]) rfl rfl) ?_
 refine Zf (X9 (zs:=[vi 0,.slice none 0 0,.slice none 0 0]) X7g rfl) ?_;rintro _ w24 ⟨b61,rfl,hl61,hE,hB61⟩
 have hlo61:=Nat.le_trans hW.size hl61
 have haw1_61:=(hr_code.below' hW).away hl61
 have haw2_61:=(hr_more.below' hW).away hl61
 have haw14_61:=hoz27.away hl61
 replace hB11:=hB11.below hE
 replace hB19:=hB19.below hE
 replace hoz24:=hoz24.below hE
 replace hraz27:=hraz27.below hE
 replace hoz27:=hoz27.below hE
 replace hrdz27:=hrdz27.below hE
 replace hroz102:=hroz102.below hE
 replace hrnz102:=hrnz102.below hE
 replace hdpz27:=hdpz27.below hE
 replace hW:=btr hW hE
 refine Za rfl ?_
 refine Zo (Vw [vi rz102.pos,.slice Az102 rz102.old.length ez102,.slice Bz102 rz102.new.length fz102] X1u hB61) ?_;rintro _ w25 ⟨ho,hb⟩
 have hold:=hB61
 replace hB11:=hB11.only ho (Blk.ne hB11 hold rfl)
 replace hB19:=hB19.only ho (Blk.ne hB19 hold rfl)
 replace hoz24:=hoz24.onlyT ho hold rfl
 replace hraz27:=hraz27.onlyT ho hold rfl
 replace hoz27:=hoz27.onlyA ho haw14_61
 replace hrdz27:=hrdz27.onlyT ho hold rfl
 replace hroz102:=hroz102.onlyT ho hold rfl
 replace hrnz102:=hrnz102.onlyT ho hold rfl
 replace hdpz27:=hdpz27.onlyT ho hold rfl
 replace hW:=Below.only hW ho hlo61
 clear hold
 have hB61:=hb
 clear hb ho
 refine Zt hK56 fun a hf=>?_
 refine Zs hf fun _ hK62=>?_
 refine Zm rfl<|Ze (Vn X15 hB61) ?_
 refine Zf (Vc (F12 _ nz102 rz102 Az102 ez102 hroz102.top Bz102 fz102 hrnz102.top (Nat.le_trans hPz102.1 (by decide)) (Nat.le_trans hPz102.2 (by decide))) Xku) ?_;rintro _ w26 ⟨rfl,hE⟩
 replace hB61:=hB61.below hE
 replace hroz102:=hroz102.below hE
 replace hrnz102:=hrnz102.below hE
 replace hW:=btr hW hE
 refine Zm rfl<|Ze (X3 (vs:=[.bool ((implJ nz102 rz102).1),.bool ((implJ nz102 rz102).2)]) rfl rfl)<|Ze (X3 (vs:=[.bool ((implJ nz102 rz102).1),.bool ((implJ nz102 rz102).2)]) rfl rfl)<|Za rfl<|Za rfl ?_
 refine Zt hK62 fun a hf=>?_
 refine Zs hf fun _ hK63=>?_
 refine Zm rfl<|Ze (Vn X15 hB61) ?_
 refine Zf (Vc (F10 _ nz102 rz102 Az102 ez102 hroz102.top Bz102 fz102 hrnz102.top (Nat.le_trans hPz102.1 (by decide)) (Nat.le_trans hPz102.2 (by decide))) Xl1) ?_;rintro _ w27 ⟨rfl,hE⟩
 replace hB61:=hB61.below hE
 replace hroz102:=hroz102.below hE
 replace hrnz102:=hrnz102.below hE
 replace hW:=btr hW hE
 refine Zm rfl<|Ze (X3 (vs:=[.bool ((specJ nz102 rz102).1),.bool ((specJ nz102 rz102).2)]) rfl rfl)<|Ze (X3 (vs:=[.bool ((specJ nz102 rz102).1),.bool ((specJ nz102 rz102).2)]) rfl rfl)<|Za rfl<|Za rfl ?_
 refine Zt hK63 fun a hf=>?_
 refine wp_seq_k fun _ hK64=>?_
 refine X0h (fun a w=>Fr a 125 [(4,.bool ((((implJ nz102 rz102).2)==((specJ nz102 rz102).2))&&(((implJ nz102 rz102).1)==((specJ nz102 rz102).1))))]∧w27=w) ?_ ?_
 ·refine Zr hf ?_
  refine Zm rfl<|Zm rfl<|Ze (Xdt Tryz.underlying4 rfl rfl)<|Zm rfl ?_
  refine Zg 120 rfl (fun hg65=>?_) (fun hg65=>?_)
  ·refine Zv ⟨_,_,rfl,rfl,hg65⟩ (X7 rfl) ?_
   refine Zv ⟨_,_,rfl,rfl,hg65⟩ (X7 rfl) ?_
   refine Zv ⟨_,_,rfl,rfl,hg65⟩ (Xdt Tryz.underlying4 rfl rfl) ?_
   refine Ze (Xa rfl hg65 rfl)<|Za rfl ?_
   refine Zn fun a hf=>?_
   exact ⟨hf.sub ⟨X1 rfl (by first|rfl|(simp only [hc6b,hc22b,hc25b,hg65,bs];done)|simp [hc6b,hc22b,hc25b,hg65]),trivial⟩,rfl⟩
  refine Zp ⟨_,_,rfl,rfl,hg65⟩ ?_
  refine Zp ⟨_,_,rfl,rfl,hg65⟩ ?_
  refine Zp ⟨_,_,rfl,rfl,hg65⟩ ?_
  refine Ze (Xc rfl hg65 rfl)<|Za rfl ?_
  refine Zn fun a hf=>?_
  exact ⟨hf.sub ⟨X1 rfl (by first|rfl|(simp only [hc6b,hc22b,hc25b,hg65,bs];done)|simp [hc6b,hc22b,hc25b,hg65]),trivial⟩,rfl⟩
 rintro a _ ⟨hf,rfl⟩
 refine hK64 _ _ ?_
 refine wp_ret (X2 hf (Xz hf rfl rfl) ?_)
 exact ⟨by first|rfl|(rw [X88];simp),hW⟩
end Go.Proofs.YtlfjcmldfbfdbaaGreat
namespace Go.Proofs.YtlfjcmldfbfdbaaGreat
open Go.ChangeShapes Go.WideShapes Go.ChangeAt Go.RowKit Go.Deep Go.Joins
set_option linter.unusedVariables false
set_option maxRecDepth 100000 in
theorem Xcr(os:Os)(started:os.Started)(H:Type)(enc:TypeId×Value→H) :
  ReturnsInHanded {} Tryz.checked os 5 .any (Rows.fnCancelledSpec.pre6 enc Tryz.prog Tryz.f5 Rows.fnCancelledRow.domain false) (Rows.fnCancelledSpec.post enc Tryz.prog Tryz.f5 false true false false):=by
 refine returnsInHanded_of_change (C:=Tryz.checked) own started (by kernel_rfl) Tryz.func5
  (ChangeSpec.witness6 (enc:=enc) (C:=Tryz.checked) false ⟨#[],#[.slice none 0 0,.slice none 0 0],[]⟩ 8 (by kernel_rfl) (by kernel_rfl) (by kernel_rfl) (by kernel_rfl)) ?_
 intro W base args ds gs before hval0 hW hcnd _
 have hval:∀ (j:Nat) t v,Tryz.f5.params[j]? = some t→args[j]? = some v→Value.okWide Tryz.prog W .any base t v:=hval0
 have hW':=hW
 obtain ⟨p,q,hA0,hV,rfl,hfz,hnd⟩:=hW
 have hA:DataW.TrodAll enc Tryz.prog W 0 (fun _=>true) true Tryz.f5.params.toList args.toList ds p:=hA0
 rw [Tryz.params5] at hA hval
 obtain ⟨v0,v1,d0,d1,p0,p1,rfl,rfl,rfl,h0,h1⟩:=trodAll_two hA
 obtain ⟨rfl,rfl⟩:=trodVars_none hV
 have h0k:=h0
 have h1k:=h1
 obtain ⟨A,c,i,E,rfl,hr0,hc0⟩:=X8a (hval 0 22 v0 rfl rfl) h0 (fun _=>rfl)
 obtain ⟨B,l,k,F,rfl,hr1,hc1⟩:=X8a (hval 1 22 v1 rfl rfl) h1 (fun _=>rfl)
 clear hA0 hval0
 simp only [List.append_nil] at hW'
 have hlt:∀ x ∈ p0++p1,x.block<W.heap.size:=fun x hx=>hW'.lt x (by simpa using hx)
 refine Calls.mono (Xot W A i c hr0 hc0 B k l hr1 hc1) fun r W' ⟨v,he,hv,hb⟩=>?_
 subst hv
 refine ⟨_,he,Xcp (pa:=p0++p1) (pv:=[]) hW' (fun _ _ _=>trodAll_mk1 (shut_bool Tryz.underlying4 true)) (fun sp hsp=>?_) (fun _ _=>rfl) (by simp) hb⟩
 exact trodAll_mk2 (WideElems.Trod_stays Xdj (by kernel_rfl) (of_decide_eq_true (by kernel_rfl)) h0k (fun x hx=>hb.same (hlt x (List.mem_append_left _ hx))) (fun x hx=>hsp x (by simp [hx])))
  (WideElems.Trod_stays Xdj (by kernel_rfl) (of_decide_eq_true (by kernel_rfl)) h1k (fun x hx=>hb.same (hlt x (List.mem_append_right _ hx))) (fun x hx=>hsp x (by simp [hx])))
theorem can_holds:Rows.FnCancelledSaid:=
 OpenClaim.holds_of_wide 5 Tryz.f5 rfl rfl rfl rfl rfl rfl rfl ⟨rfl,rfl,rfl,rfl,rfl⟩ rfl rfl rfl rfl rfl (by kernel_rfl) Tryz.func5 (by kernel_rfl)
  (of_decide_eq_true (by kernel_rfl)) (by unfold Func.isWrapper;first|(rw [if_pos (by decide +kernel)];kernel_rfl)|(rw [if_neg (by decide +kernel)];exact ⟨rfl,rfl⟩))
  (fun os started H enc _=>Xcr os started H enc)
end Go.Proofs.YtlfjcmldfbfdbaaGreat
