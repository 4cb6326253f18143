/-
  For every drawn circuit, the path sum has the operator of the circuit, and replacing a variable keeps a drawn path sum valid and gives what the reference gives; conditions: none.
-/
import Derived.Test.YtiejkplemjkjoaaGreatI4
import Derived.Test.YtiejkplemjkjoaaGreatI3
import Derived.Test.YtiejkplemjkjoaaGreatI1
import Derived.Test.YtiejkplemjkjoaaGreatI2
set_option linter.unusedVariables false
set_option linter.unusedSimpArgs false
set_option maxHeartbeats 1000000
set_option maxRecDepth 4000
set_option linter.unusedSectionVars false
namespace Go.Proofs.YtiejkplemjkjoaaGreat
open Go.RowKit
theorem Xsl(x:Int)(h:x=0∨x=1) : x=if (x==1)=true then 1 else 0:=by rcases h with h|h<;>rw [h]<;>rfl
theorem Xz1(b:Bool) : u1 2 b b=0∧u1 2 b (!b)=1:=by cases b<;>decide
theorem Xzq(b:Bool) : u1 3 b b=0∧u1 3 b (!b)=if b then om^2 else om^6:=by cases b<;>decide
theorem Xy0{k:Int}(h:4≤k∧k≤8)(b:Bool) : u1 k b b=omZ (rotC k*if b then 1 else 0)∧u1 k b (!b)=0:=by
 have:k=4∨k=5∨k=6∨k=7∨k=8:=by omega
 rcases this with rfl|rfl|rfl|rfl|rfl<;>cases b<;>decide
theorem Xew{n:Nat}{s t:Pst}{g:Gt}{w:St}{a x:Nat→Bool}(hg:gOk (n:Int) g=true)(h:PsV n s)(e:psStep n s g=some t)(h1:¬ g.k=1) :
  t.v=s.v∧omZ (evP t.f a)*w (affs n t.out a x)=omZ (evP s.f a)*tact g w (affs n s.out a x):=by
 have hAt:=fun i=>AO.at h.ok.all i
 have ha:=Xcs hg;have hl:=h.ok.len;obtain ⟨_,hk,_,_⟩:=X27 hg
 unfold psStep at e
 rw [if_neg h1] at e
 have hA:((g.a.toNat:Nat) : Int)=g.a:=by have:=ha.1;omega
 have bA:affs n s.out a x g.a.toNat=(avI a (aAt s.out g.a)==1):=by rw [X8f ha.2,hA]
 have vA:=Xsl _ (X4j a (aAt s.out g.a))
 by_cases h2:g.k=2
 ·rw [if_pos h2] at e;injection e with e;subst e
  refine ⟨rfl,?_⟩
  simp only
  rw [X5h ha.2 hl,Xny a (hAt g.a)]
  unfold tact act
  rw [if_neg (by omega),if_neg (by omega),if_neg (by omega),if_neg (by omega),if_neg (by omega),X7g,bA]
  rw [h2,(Xz1 _).1,(Xz1 _).2,Xy,X0c,Xf]
  congr 2
  rcases X4j a (aAt s.out g.a) with h|h<;>rw [h]<;>rfl
 ·rw [if_neg h2] at e
  by_cases h3:g.k=3
  ·rw [if_pos h3] at e;injection e with e;subst e
   refine ⟨rfl,?_⟩
   simp only
   rw [X5h ha.2 hl,Xny a (hAt g.a),Xbu ((Xi4 (hAt g.a) Mk.zero).trans ((Xb5 Mk.zero).add (Cg.refl _))),sub_zero]
   unfold tact act
   rw [if_pos h3,if_neg (by omega),if_neg (by omega),if_neg (by omega),if_neg (by omega),X7g,bA]
   rw [h3,(Xzq _).1,(Xzq _).2,Xy,X0c,Int.add_assoc,X8o,Xe]
   congr 1
   rw [← Xe]
   congr 1
   ·rcases X4j a (aAt s.out g.a) with h|h<;>rw [h]<;>decide
   ·rcases X4j a (aAt s.out g.a) with h|h<;>rw [h]<;>rfl
  ·rw [if_neg h3] at e
   have hT:tact g w=act g w:=by unfold tact;rw [if_neg h3]
   rw [hT]
   by_cases h9:g.k=9
   ·have hb:=X81 hg
    have hB:((g.b.toNat:Nat) : Int)=g.b:=by have:=hb.1;omega
    have bB:affs n s.out a x g.b.toNat=(avI a (aAt s.out g.b)==1):=by rw [X8f hb.2,hB]
    rw [if_pos h9] at e;injection e with e;subst e
    refine ⟨rfl,?_⟩
    simp only
    rw [X5h hb.2 hl,Xow a (hAt g.a) (hAt g.b)]
    unfold act
    rw [if_neg (by omega),if_pos h9,bA]
    congr 2
    rw [X7g,bB]
    rcases X4j a (aAt s.out g.a) with h|h<;>rw [h]
    ·rw [if_neg (by decide),Int.zero_add,X89]
     rw [bB]
     rcases X4j a (aAt s.out g.b) with h'|h'<;>rw [h']<;>rfl
    ·rw [if_pos (by decide)]
     rcases X4j a (aAt s.out g.b) with h'|h'<;>rw [h']<;>rfl
   ·rw [if_neg h9] at e
    by_cases h10:g.k=10
    ·have hb:=X81 hg
     have hB:((g.b.toNat:Nat) : Int)=g.b:=by have:=hb.1;omega
     have bB:affs n s.out a x g.b.toNat=(avI a (aAt s.out g.b)==1):=by rw [X8f hb.2,hB]
     rw [if_pos h10] at e;injection e with e;subst e
     refine ⟨rfl,?_⟩
     simp only
     rw [Xbu (Xfj h.ok.po (hAt g.a) (hAt g.b))]
     unfold act
     rw [if_neg (by omega),if_neg h9,if_pos h10,bA,bB,X8o,Xe]
     congr 2
     rcases X4j a (aAt s.out g.a) with h|h<;>rcases X4j a (aAt s.out g.b) with h'|h'<;>rw [h,h']<;>rfl
    ·rw [if_neg h10] at e
     by_cases h11:g.k=11
     ·have hb:=X81 hg
      have hB:((g.b.toNat:Nat) : Int)=g.b:=by have:=hb.1;omega
      have bB:affs n s.out a x g.b.toNat=(avI a (aAt s.out g.b)==1):=by rw [X8f hb.2,hB]
      rw [if_pos h11] at e;injection e with e;subst e
      refine ⟨rfl,?_⟩
      simp only
      rw [X5h hb.2 (by rw [List.length_set];exact hl),X5h ha.2 hl]
      unfold act
      rw [if_neg (by omega),if_neg h9,if_neg h10,if_pos h11,bA,bB]
      congr 2
      have hne:=X65 hg (by omega)
      split
      ·rename_i he
       rw [X89 (affs n s.out a x) _ (by rw [bA,he]),X89 _ _ (by rw [bB,he])]
      ·rename_i he
       rw [X7g,X7g,bA]
       have hbb:upB (affs n s.out a x) g.a.toNat (!(avI a (aAt s.out g.a)==1)) g.b.toNat=(avI a (aAt s.out g.b)==1):=by
        unfold upB
        rw [if_neg (fun h=>hne h.symm)]
        exact bB
       rw [hbb]
       congr 1
       ·congr 1
        revert he
        cases (avI a (aAt s.out g.a)==1)<;>cases (avI a (aAt s.out g.b)==1)<;>simp
       ·revert he
        cases (avI a (aAt s.out g.a)==1)<;>cases (avI a (aAt s.out g.b)==1)<;>simp
     ·rw [if_neg h11] at e
      by_cases h12:g.k=12
      ·rw [if_pos h12] at e;injection e with e;subst e
       refine ⟨rfl,?_⟩
       simp only
       rw [Xbu (Xb5 Mk.zero),sub_zero]
       unfold act
       rw [if_pos h12,X8o,Xe]
       rfl
      ·rw [if_neg h12] at e;injection e with e;subst e
       refine ⟨rfl,?_⟩
       simp only
       rw [Xbu (Xi4 (hAt g.a) Mk.zero),sub_zero,Int.one_mul]
       unfold act
       rw [if_neg h12,if_neg h9,if_neg h10,if_neg h11,bA]
       have hk':4≤g.k∧g.k≤8:=by omega
       rw [(Xy0 hk' _).1,(Xy0 hk' _).2,Xy,X01,X8o,Xe,← vA]
theorem Xqh{n i:Nat}{out:List Af}{a x:Nat→Bool}{b:Bool}(h:∀ u ∈ out,Lt i u.m) : affs n out (upB a i b) x=affs n out a x:=by
 funext q
 unfold affs
 rw [Xtp (Lt.at h _)]
theorem Xuu{g:Gt}(h1:g.k=1)(w:St)(β:Nat→Bool) : tact g w β=u1 1 (β g.a.toNat) (β g.a.toNat)*w β+u1 1 (β g.a.toNat) (!β g.a.toNat)*w (flipB β g.a.toNat):=by
 unfold tact act
 rw [if_neg (show ¬ g.k=3 by omega)]
 show (if g.k=12 then _ else _)=_
 rw [if_neg (show ¬ g.k=12 by omega),if_neg (show ¬ g.k=9 by omega),if_neg (show ¬ g.k=10 by omega),if_neg (show ¬ g.k=11 by omega),h1]
theorem Xtm{n:Nat}{s t:Pst}{g:Gt}{w:St}{b x:Nat→Bool}(hg:gOk (n:Int) g=true)(h:PsV n s)(e:psStep n s g=some t)(h1:g.k=1) :
  t.v=s.v+1∧(omZ (evP t.f (upB b (n+s.v) false))*w (affs n t.out (upB b (n+s.v) false) x)+omZ (evP t.f (upB b (n+s.v) true))*w (affs n t.out (upB b (n+s.v) true) x) =
   omZ (evP s.f b)*tact g w (affs n s.out b x)):=by
 have ha:=Xcs hg;have hl:=h.ok.len
 unfold psStep at e
 rw [if_pos h1] at e
 split at e
 ·cases e
 rename_i h24
 injection e with e;subst e
 refine ⟨rfl,?_⟩
 simp only
 have hu:=AO.at h.ok.all g.a
 have hvar:AO (varA (n+s.v)):=AO.var (by omega)
 have hlu:=Lt.at h.out g.a
 have hz:∀ z:Bool,avI (upB b (n+s.v) z) (varA (n+s.v))=if z then 1 else 0:=fun z=>by
  rw [Xh9 _ (by omega)]
  unfold upB
  rw [if_pos rfl]
 have he:∀ z:Bool,omZ (evP (foldA (sumS (aAt s.out g.a) (varA (n+s.v))) s.f) (upB b (n+s.v) z))=omZ (evP s.f b+4*(avI b (aAt s.out g.a)*if z then 1 else 0)):=fun z=>by
  rw [Xbu (Xfj h.ok.po hu hvar),Xwu h.sup,Xtp hlu,hz]
 have ho:∀ z:Bool,affs n (s.out.set g.a.toNat (varA (n+s.v))) (upB b (n+s.v) z) x=upB (affs n s.out b x) g.a.toNat z:=fun z=>by
  rw [X5h ha.2 hl,hz,Xqh h.out]
  cases z<;>rfl
 rw [he,he,ho,ho]
 have bA:affs n s.out b x g.a.toNat=(avI b (aAt s.out g.a)==1):=by rw [X8f ha.2,show ((g.a.toNat:Nat) : Int)=g.a from by have:=ha.1;omega]
 rw [Xuu h1,X7g,bA]
 rcases X4j b (aAt s.out g.a) with h0|h0<;>rw [h0] at bA ⊢
 ·rw [show u1 1 ((0:Int)==1) ((0:Int)==1)=1 from by decide,show u1 1 ((0:Int)==1) (!((0:Int)==1))=1 from by decide,Xf,Xf,X0g]
  rw [X89 (affs n s.out b x) _ (b:=false) (by rw [bA];rfl)]
  simp only [Int.zero_mul,Int.mul_zero,Int.add_zero]
  rfl
 ·rw [show u1 1 ((1:Int)==1) ((1:Int)==1)=om^4 from by decide,show u1 1 ((1:Int)==1) (!((1:Int)==1))=1 from by decide,Xf,X0g]
  rw [X89 (affs n s.out b x) _ (b:=true) (by rw [bA];rfl),X0e]
  congr 1
  ·rw [← Xe,X8o];rfl
  ·simp only [Bool.false_eq_true,if_false,Int.mul_zero,Int.add_zero];rfl
theorem Xnu{n:Nat}{s t:Pst}{g:Gt}{w:St}{x:Nat→Bool}(hg:gOk (n:Int) g=true)(h:PsV n s)(e:psStep n s g=some t) : semS n t w x=semS n s (tact g w) x:=by
 unfold semS
 by_cases h1:g.k=1
 ·rw [(Xtm (w:=w) (b:=x) (x:=x) hg h e h1).1]
  show sumB n s.v _ x=_
  exact X7s _ (fun b=>(Xtm hg h e h1).2) x
 ·rw [(Xew (w:=w) (a:=x) (x:=x) hg h e h1).1]
  exact X7s _ (fun b=>(Xew hg h e h1).2) x
theorem Xjo{n:Nat}{w:St}{x:Nat→Bool} : ∀ (l:List Gt) {s t:Pst},(∀ g ∈ l,gOk (n:Int) g=true)→PsV n s→psAll n l s=some t→semS n t w x=semS n s (trun l w) x
 | [],s,t,_,_,e=>by injection e with e;subst e;rfl
 | g::l,s,t,hg,h,e=>by
  have e:(psStep n s g).bind (psAll n l)=some t:=e
  cases h1:psStep n s g with
  | none=>rw [h1] at e;cases e
  | some u=>
   rw [h1] at e
   rw [Xjo l (fun g' hg'=>hg g' (by simp [hg'])) (h.step h1) e,Xnu (hg g (by simp)) h h1]
   rfl
theorem Xo2(n:Nat)(hn:n≤5)(w:St)(x:Nat→Bool) : semS n (ps0 n) w x=w x:=by
 show omZ (evP (fun _=>0) x)*w (affs n (varsN n) x x)=w x
 rw [Xbe,Xor,Xf]
 congr 1
 funext q
 unfold affs
 split
 ·rename_i h
  have:aAt (varsN n) (q:Int)=varA q:=by
   unfold aAt varsN
   rw [Int.toNat_natCast,List.getD_eq_getElem?_getD,List.getElem?_map,List.getElem?_range h]
   rfl
  rw [this,Xh9 _ (by omega)]
  cases x q<;>rfl
 ·rfl
def semP(p:Ps)(w:St) : St:=fun x=>sumB p.ins.toNat p.vars.toNat (fun a=>omZ (p.phase+evL a (sm p.ts))*w (affs p.ins.toNat p.out a x)) x
theorem Xqr{c:Cx}{p:Ps}(h:cOk c=true)(hp:psC c=some p)(w:St)(x:Nat→Bool) : semP p w x=trun c.gs w x:=by
 obtain ⟨n,hn,hn1,hn5⟩:=Xc9 h;have hp0:=hp
 unfold psC at hp
 rw [hn,Int.toNat_natCast] at hp
 cases e:psAll n c.gs (ps0 n) with
 | none=>rw [e] at hp;cases hp
 | some s=>
  rw [e] at hp
  injection hp with hp
  subst hp
  have:=Xjo (w:=w) (x:=x) c.gs (fun g hg=>by
   have:=(Xdg.1 h).2.2 g hg
   rw [hn] at this
   exact this) (PsV.zero hn5) e
  rw [Xo2 n hn5] at this
  rw [← this]
  unfold semP semS evP
  simp only
  rw [show (n:Int).toNat=n from Int.toNat_natCast n,show ((s.v:Nat) : Int).toNat=s.v from Int.toNat_natCast _]
def Agr(N:Nat)(β γ:Nat→Bool) : Prop:=∀ q,q<N→β q=γ q
theorem Agr.symm{N:Nat}{β γ:Nat→Bool}(h:Agr N β γ) : Agr N γ β:=fun q hq=>(h q hq).symm
def ebA(N:Nat)(γ:Nat→Bool) : St:=fun β=>if (∀ q,q<N→β q=γ q) then 1 else 0
theorem X7l{N:Nat}{β γ:Nat→Bool}(h:Agr N β γ) : ebA N γ β=1:=if_pos h
theorem X64{N:Nat}{β γ:Nat→Bool}(h:¬ Agr N β γ) : ebA N γ β=0:=if_neg h
theorem Xec{N:Nat}{β γ β' γ':Nat→Bool}(h:Agr N β γ↔Agr N β' γ') : ebA N γ β=ebA N γ' β':=by
 by_cases e:Agr N β γ
 ·rw [X7l e,X7l (h.1 e)]
 ·rw [X64 e,X64 fun k=>e (h.2 k)]
theorem Xe9{N:Nat}{F:(Nat→Bool)→Nat→Bool}(h1:∀ β,F (F β)=β)(h2:∀ β γ,Agr N β γ→Agr N (F β) (F γ))(β γ:Nat→Bool) : Agr N (F β) γ↔Agr N (F γ) β:=by
 constructor
 ·intro h
  have:=h2 _ _ h
  rw [h1] at this
  exact this.symm
 ·intro h
  have:=h2 _ _ h
  rw [h1] at this
  exact this.symm
theorem X8x(β:Nat→Bool)(q:Nat) : flipB β q q = !β q:=by unfold flipB;rw [if_pos rfl]
theorem Xky(β:Nat→Bool)(p q:Nat) : flipB (flipB β p) q=flipB (flipB β q) p:=by
 funext r
 unfold flipB
 split<;>split<;>rfl
theorem X8b{N q:Nat}{β γ:Nat→Bool}(h:Agr N β γ) : Agr N (flipB β q) (flipB γ q):=fun p hp=>by
 unfold flipB
 rw [h p hp]
theorem Xq2{k:Int}(h:1≤k∧k≤8)(b:Bool) : u1 k b (!b)=(if k=3 then om^4 else 1)*u1 k (!b) b:=by
 have:k=1∨k=2∨k=3∨k=4∨k=5∨k=6∨k=7∨k=8:=by omega
 rcases this with rfl|rfl|rfl|rfl|rfl|rfl|rfl|rfl<;>cases b<;>decide
theorem Xqx{k:Int}(h:1≤k∧k≤8)(b:Bool) : u1 k b b=(if k=3 then om^4 else 1)*u1 k b b:=by
 have:k=1∨k=2∨k=3∨k=4∨k=5∨k=6∨k=7∨k=8:=by omega
 rcases this with rfl|rfl|rfl|rfl|rfl|rfl|rfl|rfl<;>cases b<;>decide
theorem Xha(g:Gt)(w:St)(β:Nat→Bool) : tact g w β=(if g.k=3 then om^4 else 1)*act g w β:=by
 unfold tact
 split
 ·rfl
 ·rw [Xf]
theorem Xmd{N:Nat}{g:Gt}(hg:gOk (N:Int) g=true)(β γ:Nat→Bool) : act g (ebA N γ) β=tact g (ebA N β) γ:=by
 obtain ⟨hn,hk,ha,hb⟩:=X27 hg;have hA:=Xcs hg
 rw [Xha]
 have hsym:ebA N γ β=ebA N β γ:=Xec ⟨Agr.symm,Agr.symm⟩
 by_cases h12:g.k=12
 ·rw [if_neg (show ¬ g.k=3 by omega),Xf]
  unfold act
  rw [if_pos h12,if_pos h12,hsym]
 ·by_cases h9:g.k=9
  ·have hB:=X81 hg
   have hne:=X65 hg (by omega)
   rw [if_neg (show ¬ g.k=3 by omega),Xf]
   unfold act
   rw [if_neg h12,if_pos h9,if_neg h12,if_pos h9]
   refine Xec (Xe9 (F:=fun β=>if β g.a.toNat then flipB β g.b.toNat else β) (fun β=>?_) (fun β γ h=>?_) β γ)
   ·cases e:β g.a.toNat
    ·simp [e]
    ·simp [e,Xdm β hne,X75]
   ·show Agr N (if β g.a.toNat then _ else _) (if γ g.a.toNat then _ else _)
    rw [h _ hA.2]
    cases γ g.a.toNat
    ·exact h
    ·exact X8b h
  ·by_cases h10:g.k=10
   ·have hB:=X81 hg
    rw [if_neg (show ¬ g.k=3 by omega),Xf]
    unfold act
    rw [if_neg h12,if_neg h9,if_pos h10,if_neg h12,if_neg h9,if_pos h10,← hsym]
    by_cases e:Agr N β γ
    ·rw [e _ hA.2,e _ hB.2]
    ·rw [X64 e,Xn,Xn]
   ·by_cases h11:g.k=11
    ·have hB:=X81 hg
     have hne:=X65 hg (by omega)
     rw [if_neg (show ¬ g.k=3 by omega),Xf]
     unfold act
     rw [if_neg h12,if_neg h9,if_neg h10,if_pos h11,if_neg h12,if_neg h9,if_neg h10,if_pos h11]
     refine Xec (Xe9 (F:=fun β=>if β g.a.toNat=β g.b.toNat then β else flipB (flipB β g.a.toNat) g.b.toNat) (fun β=>?_) (fun β γ h=>?_) β γ)
     ·by_cases e:β g.a.toNat=β g.b.toNat
      ·simp [e]
      ·have e2:¬ flipB (flipB β g.a.toNat) g.b.toNat g.a.toNat=flipB (flipB β g.a.toNat) g.b.toNat g.b.toNat:=by
        rw [Xdm _ hne,X8x,X8x,Xdm _ (fun h=>hne h.symm)]
        revert e
        cases β g.a.toNat<;>cases β g.b.toNat<;>simp
       simp only [if_neg e,if_neg e2]
       rw [Xky (flipB (flipB β g.a.toNat) g.b.toNat),X75,X75]
     ·show Agr N (if β g.a.toNat=β g.b.toNat then _ else _) (if γ g.a.toNat=γ g.b.toNat then _ else _)
      rw [h _ hA.2,h _ hB.2]
      split
      ·exact h
      ·exact X8b (X8b h)
    ·have hk8:1≤g.k∧g.k≤8:=by omega
     unfold act
     rw [if_neg h12,if_neg h9,if_neg h10,if_neg h11,if_neg h12,if_neg h9,if_neg h10,if_neg h11]
     by_cases e:Agr N β γ
     ·have e2:¬ Agr N (flipB β g.a.toNat) γ:=fun h=>by
       have h1:=h _ hA.2
       rw [X8x,e _ hA.2] at h1
       cases h':γ g.a.toNat<;>rw [h'] at h1<;>cases h1
      have e3:¬ Agr N (flipB γ g.a.toNat) β:=fun h=>by
       have h1:=h _ hA.2
       rw [X8x,e _ hA.2] at h1
       cases h':γ g.a.toNat<;>rw [h'] at h1<;>cases h1
      rw [X7l e,X7l e.symm,X64 e2,X64 e3,Xn,Xn,X01,X01,X07,X07,e _ hA.2]
      exact Xqx hk8 _
     ·have e':¬ Agr N γ β:=fun h=>e h.symm
      rw [X64 e,X64 e',Xn,Xn,X0c,X0c]
      have hF:=Xe9 (N:=N) (F:=fun β=>flipB β g.a.toNat) (fun β=>X75 β _) (fun β γ h=>X8b h) β γ
      by_cases e2:Agr N (flipB β g.a.toNat) γ
      ·rw [X7l e2,X7l (hF.1 e2),X07,X07]
       have h1:=e2 _ hA.2
       rw [X8x] at h1
       rw [← h1,Bool.not_not]
       exact Xq2 hk8 _
      ·rw [X64 e2,X64 (fun h=>e2 (hF.2 h)),Xn,Xn,Xn]
theorem Xz5(N j:Nat) : eb N j=ebA N (pt N j):=rfl
theorem Xbz(f g:Nat→Rg) : ∀ n,sumN (fun k=>f k+g k) n=sumN f n+sumN g n
 | 0=>(X01 0).symm
 | n+1=>by
  rw [sumN,sumN,sumN,Xbz f g n]
  simp only [X02,Xp,X0e]
theorem Xgn(f:Nat→Nat→Rg)(m:Nat) : ∀ n,sumN (fun i=>sumN (f i) m) n=sumN (fun k=>sumN (fun i=>f i k) n) m
 | 0=>(Xba m fun _ _=>rfl).symm
 | n+1=>by
  show sumN (fun i=>sumN (f i) m) n+sumN (f n) m=sumN (fun k=>sumN (fun i=>f i k) n+f n k) m
  rw [Xgn f m n,Xbz]
theorem Xp2{N:Nat}{g:Gt}(hg:gOk (N:Int) g=true){i k:Nat}(hi:i<2^N)(hk:k<2^N) : zc N g i k=act g (eb N k) (pt N i):=by
 have hN:N≤5:=by have:=(X27 hg).1;omega
 rw [← X72 hg hi,X47 (t:=k) _ hk fun j hj hne=>by rw [X8t hN hj hk,if_neg hne,Xn],X8t hN hk hk,if_pos rfl,X07]
theorem Xmp{N:Nat}{g:Gt}(hg:gOk (N:Int) g=true)(w v:St) : sumN (fun i=>w (pt N i)*act g v (pt N i)) (2^N)=sumN (fun i=>tact g w (pt N i)*v (pt N i)) (2^N):=by
 rw [X4d _ fun i hi=>by rw [← X72 hg hi,Xap],Xgn]
 refine X4d _ fun k hk=>?_
 rw [Xha,← X72 hg hk,X00,Xap,Xap]
 refine X4d _ fun i hi=>?_
 have h1:zc N g i k=(if g.k=3 then om^4 else 1)*zc N g k i:=by
  rw [Xp2 hg hi hk,Xp2 hg hk hi,Xz5,Xz5,Xmd hg,Xha]
 rw [h1]
 simp only [Xe,Xo,X00]
theorem Xik{N:Nat}(w:St) : ∀ (l:List Gt) (v:St),(∀ g ∈ l,gOk (N:Int) g=true)→sumN (fun i=>w (pt N i)*run l v (pt N i)) (2^N)=sumN (fun i=>trun l w (pt N i)*v (pt N i)) (2^N)
 | [],v,_=>rfl
 | g::l,v,h=>by
  show sumN (fun i=>w (pt N i)*run l (act g v) (pt N i)) (2^N)=_
  rw [Xik w l (act g v) fun g' hg'=>h g' (by simp [hg']),Xmp (h g (by simp))]
  rfl
theorem Xmn{N:Nat}(hN:N≤5){l:List Gt}(h:∀ g ∈ l,gOk (N:Int) g=true){i j:Nat}(hi:i<2^N)(hj:j<2^N) : run l (eb N j) (pt N i)=trun l (eb N i) (pt N j):=by
 have:=Xik (eb N i) l (eb N j) h
 rw [X47 (t:=i) _ hi fun k hk hne=>by rw [X8t hN hk hi,if_neg hne,Xy],X47 (t:=j) _ hj fun k hk hne=>by rw [X8t hN hk hj,if_neg hne,Xn]] at this
 rw [X8t hN hi hi,X8t hN hj hj,if_pos rfl,if_pos rfl,Xf,X07] at this
 exact this
def lift(v:Nat)(a:Nat→Bool)(b:Bool) : Nat→Bool:=fun i=>if i<v then a i else if i=v then b else a (i-1)
theorem Xq0{v i:Nat}(a:Nat→Bool)(b:Bool)(h:i<v) : lift v a b i=a i:=if_pos h
theorem Xt3(v:Nat)(a:Nat→Bool)(b:Bool) : lift v a b v=b:=by unfold lift;rw [if_neg (by omega),if_pos rfl]
theorem Xsg{v i:Nat}(a:Nat→Bool)(b:Bool)(h:v≤i) : lift v a b (i+1)=a i:=by unfold lift;rw [if_neg (by omega),if_neg (by omega),Nat.add_sub_cancel]
theorem Xtz{x:Nat}(hx:x<2^24)(a:Nat→Bool) : (List.range 62).all (fun i=>!x.testBit i||a i)=true↔∀ i,x.testBit i=true→a i=true:=by
 rw [List.all_eq_true]
 constructor
 ·intro h i hi
  have hlt:i<62:=by
   rcases Nat.lt_or_ge i 62 with h'|h'
   ·exact h'
   ·rw [Nat.testBit_lt_two_pow (Nat.lt_of_lt_of_le hx (Nat.pow_le_pow_right (by decide) (by omega)))] at hi;cases hi
  have:=h i (List.mem_range.2 hlt)
  rw [hi] at this
  simpa using this
 ·intro h i _
  cases e:x.testBit i
  ·rfl
  ·rw [h i e];rfl
theorem Xob{v x:Nat}(hx:x<2^24) : drN v x<2^24:=Nat.lt_of_le_of_lt (X9t v x) hx
theorem Xgd(v x:Nat)(a:Nat→Bool)(b:Bool) : ∀ k,(List.range (v+k+1)).countP (fun i=>x.testBit i&&lift v a b i)=(List.range (v+k)).countP (fun i=>(drN v x).testBit i&&a i)+if (x.testBit v&&b)=true then 1 else 0
 | 0=>by
  rw [Nat.add_zero,List.range_succ,List.countP_append,List.countP_singleton]
  congr 1
  ·refine List.countP_congr fun i hi=>?_;have hi:=List.mem_range.1 hi
   rw [Xq0 a b hi,X2e,if_pos hi]
  ·rw [Xt3]
 | k+1=>by
  rw [List.range_succ,List.countP_append,show v+(k+1)=v+k+1 from rfl,Xgd v x a b k,List.countP_singleton,List.range_succ (n:=v+k),List.countP_append,List.countP_singleton,Xsg a b (show v≤v+k by omega),X2e,if_neg (show ¬ v+k<v by omega)]
  omega
theorem Xmk{v:Nat}{m:Int}(a:Nat→Bool)(b:Bool)(h:Mk m)(hv:v<24) : numB (lift v a b) m=numB a (drI v m)+if (bitQ v m&&b)=true then 1 else 0:=by
 obtain ⟨x,hx,rfl⟩:=h.nat
 rw [X1b,X1q]
 unfold numB
 rw [Int.toNat_natCast,Int.toNat_natCast]
 have h1:=Xgd v x a b (61-v)
 rw [show v+(61-v)=61 from by omega] at h1
 rw [h1]
 have h2:(List.range 62).countP (fun i=>(drN v x).testBit i&&a i)=(List.range 61).countP (fun i=>(drN v x).testBit i&&a i):=by
  rw [List.range_succ,List.countP_append,List.countP_singleton]
  rw [Nat.testBit_lt_two_pow (Nat.lt_of_lt_of_le (Xob hx) (Nat.pow_le_pow_right (by decide) (by decide)))]
  simp
 rw [h2]
def semF(p:Ps)(w:St)(x:Nat→Bool) : St:=fun a=>omZ (p.phase+evL a (sm p.ts))*w (affs p.ins.toNat p.out a x)
def dY(y:Nat)(a:Nat→Bool)(ts:List Tm) : Int:=(ts.map fun t=>if bitQ y t.m then t.c*subI a (drI y t.m) else 0).sum
theorem Xlw(a:Nat→Bool){x y:Nat}(hx:x<2^62)(hy:y<2^62)(h:∀ i,x.testBit i=true→y.testBit i=false) : numB a (oI x y)=numB a x+numB a y:=by
 unfold oI
 rw [X1y hx hy]
 unfold numB
 simp only [Int.toNat_natCast,Nat.testBit_or]
 induction List.range 62 with
 | nil=>rfl
 | cons i l ih=>
  simp only [List.countP_cons,ih]
  cases e:x.testBit i
  ·cases y.testBit i<;>cases a i<;>simp<;>omega
  ·rw [h i e]
   cases a i<;>simp<;>omega
theorem Xq7(a:Nat→Bool){k:Nat}(h:k<62) : (numB a ((2^k:Nat) : Int) : Int)=subI a ((2^k:Nat) : Int):=by
 have h1:=Xh9 a h;have hs:=Xjl a h
 rw [hs]
 have e:=Xlw a (x:=0) (y:=2^k) (by decide) (X37 h) (fun i hi=>by simp at hi)
 have h2:(numB a ((2^k:Nat) : Int))≤1:=by
  unfold numB
  rw [Int.toNat_natCast]
  refine Nat.le_trans (List.countP_mono_left (q:=fun i=>i==k) (fun i _ hi=>?_)) ?_
  ·rw [Nat.testBit_two_pow] at hi
   simp only [Bool.and_eq_true,decide_eq_true_eq] at hi
   simp [hi.1]
  ·have:(List.range 62).countP (fun i=>i==k)=1:=by
    rw [← List.count_eq_countP',List.count_range,if_pos h]
   omega
 unfold avI varA at h1
 simp only [Int.add_zero] at h1
 omega
theorem Xt6{r:Int}(h:Mk r)(h1:szI r=1) : ∃ i:Nat,i<24∧r=((2^i:Nat) : Int):=by
 obtain ⟨x,hx,rfl⟩:=h.nat
 unfold szI at h1
 rw [Int.toNat_natCast] at h1
 obtain ⟨q,hq⟩ : ∃ q,setN x=[q]:=by
  cases e:setN x with
  | nil=>rw [e] at h1;cases h1
  | cons q t=>
   rw [e] at h1
   cases t with
   | nil=>exact ⟨q,rfl⟩
   | cons z t=>simp at h1
 have ht:=Xcz (X0x hx) hq
 have hbq:x.testBit q=true:=(X1j (X0x hx)).1 (by rw [hq];simp)
 have hq24:q<24:=by
  rcases Nat.lt_or_ge q 24 with h'|h'
  ·exact h'
  ·rw [Nat.testBit_lt_two_pow (Nat.lt_of_lt_of_le hx (Nat.pow_le_pow_right (by decide) h'))] at hbq;cases hbq
 have h0:x ^^^ 2^q=0:=by
  refine Classical.byContradiction fun hn=>?_
  obtain ⟨q',t',e⟩:=X6r (M:=x ^^^ 2^q) (Nat.xor_lt_two_pow (X0x hx) (X37 (by omega))) hn
  rw [ht] at e;cases e
 refine ⟨q,hq24,?_⟩
 have:x=2^q:=by
  apply Nat.eq_of_testBit_eq
  intro i
  have:=congrArg (fun z=>z.testBit i) h0
  simp only [Nat.testBit_xor,Nat.zero_testBit] at this
  cases e1:x.testBit i<;>cases e2:(2^q).testBit i<;>rw [e1,e2] at this<;>simp_all
 rw [this]
structure DI (y:Nat) (pre:List Tm) (s:Ar) : Prop where
 c:s.c=0∨∃ t ∈ pre,t.m=pw y
 z:∀ i,i<24→bitQ i s.z=true→∃ t ∈ pre,xI t.m (pw y)=((2^i:Nat) : Int)∧bitQ y t.m=true
 d:∀ a,Cg (dY y a pre) (s.c+4*(numB a (drI y s.z) : Int))
 mz:Mk s.z
theorem Xh6(y:Nat)(a:Nat→Bool)(l:List Tm)(t:Tm) : dY y a (l++[t])=dY y a l+if bitQ y t.m then t.c*subI a (drI y t.m) else 0:=by
 unfold dY
 rw [List.map_append,List.sum_append]
 simp
theorem Xm4{m m' k:Int}(h:Mk m)(h':Mk m')(hk:Mk k)(e:xI m k=xI m' k) : m=m':=by
 obtain ⟨x,hx,rfl⟩:=h.nat;obtain ⟨x',hx',rfl⟩:=h'.nat;obtain ⟨z,hz,rfl⟩:=hk.nat
 unfold xI at e
 rw [X17 (X0x hx) (X0x hz),X17 (X0x hx') (X0x hz)] at e
 have e:x ^^^ z=x' ^^^ z:=by omega
 have:x=x':=by
  have h2:=congrArg (· ^^^ z) e
  simp only [Nat.xor_assoc,Nat.xor_self,Nat.xor_zero] at h2
  exact h2
 rw [this]
theorem DI.step{y:Nat}{pre:List Tm}{s:Ar}{t:Tm}(h:DI y pre s)(hy:y<24)(ht:Mk t.m)(hpre:∀ u ∈ pre,Mk u.m∧u.m≠t.m)(hpl:(arStep y s t).pl=true) : DI y (pre++[t]) (arStep y s t):=by
 have hr:=ht.xor (X3m hy)
 unfold arStep at hpl ⊢
 cases e:bitQ y t.m
 ·rw [if_neg (by decide)]
  refine ⟨?_,fun i hi hb=>?_,fun a=>?_,h.mz⟩
  ·rcases h.c with h1|⟨u,hu,h1⟩
   ·exact .inl h1
   ·exact .inr ⟨u,List.mem_append_left _ hu,h1⟩
  ·obtain ⟨u,hu,h1⟩:=h.z i hi hb;exact ⟨u,List.mem_append_left _ hu,h1⟩
  ·rw [Xh6,e]
   simp only [Bool.false_eq_true,if_false,Int.add_zero]
   exact h.d a
 ·rw [e,if_pos rfl] at hpl
  rw [if_pos rfl]
  have hdr:drI y t.m=drI y (xI t.m (pw y)):=(Xjw ht hy).symm
  by_cases h0:szI (xI t.m (pw y))=0
  ·rw [if_pos h0]
   have hx0:=(X8h hr).1 h0
   have htm:t.m=pw y:=by
    have:xI t.m (pw y)=xI (pw y) (pw y):=by
     rw [hx0]
     unfold xI pw
     rw [X17 (X37 (by omega)) (X37 (by omega)),Nat.xor_self];rfl
    exact Xm4 ht (X3m hy) (X3m hy) this
   have hc0:s.c=0:=by
    rcases h.c with h1|⟨u,hu,h1⟩
    ·exact h1
    ·exact absurd (h1.trans htm.symm) (hpre u hu).2
   refine ⟨.inr ⟨t,by simp,htm⟩,fun i hi hb=>?_,fun a=>?_,h.mz⟩
   ·obtain ⟨u,hu,h1⟩:=h.z i hi hb;exact ⟨u,List.mem_append_left _ hu,h1⟩
   ·rw [Xh6,e,if_pos rfl,hdr,hx0,X3l,sub_zero]
    obtain ⟨q,hq⟩:=h.d a;exact ⟨q,by show dY y a pre+t.c*1=t.c+4*(numB a (drI y s.z) : Int)+8*q;rw [hq,hc0];omega⟩
  ·rw [if_neg h0] at hpl ⊢
   by_cases h1:szI (xI t.m (pw y))=1
   ·rw [if_pos h1] at hpl ⊢
    have h4:t.c=4:=by
     have:(s.pl&&t.c==4)=true:=hpl
     rw [Bool.and_eq_true] at this
     exact eq_of_beq this.2
    obtain ⟨i,hi,hri⟩:=Xt6 hr h1
    have hiy:i≠y:=fun e2=>by
     have:=(Nb.off ht hy e).2
     rw [show ((2^y:Nat) : Int)=pw y from rfl,hri,e2,X1b,Nat.testBit_two_pow_self] at this
     cases this
    have hzi:bitQ i s.z=false:=by
     cases e2:bitQ i s.z with
     | false=>rfl
     | true=>
      obtain ⟨u,hu,h2,h3⟩:=h.z i hi e2;exact absurd (Xm4 (hpre u hu).1 ht (X3m hy) (h2.trans hri.symm)) (hpre u hu).2
    obtain ⟨z,hz,ez⟩:=h.mz.nat
    refine ⟨?_,fun j hj hb=>?_,fun a=>?_,h.mz.or hr⟩
    ·rcases h.c with h1|⟨u,hu,h1⟩
     ·exact .inl h1
     ·exact .inr ⟨u,List.mem_append_left _ hu,h1⟩
    ·by_cases hji:j=i
     ·subst hji
      exact ⟨t,by simp,hri,e⟩
     ·have hb':bitQ j s.z=true:=by
       have hb:bitQ j (oI s.z (xI t.m (pw y)))=true:=hb
       rw [hri,ez] at hb
       unfold oI at hb
       rw [X1y (X0x hz) (X37 (by omega)),X1b,Nat.testBit_or,Nat.testBit_two_pow,decide_eq_false (fun h=>hji h.symm),Bool.or_false] at hb
       rw [ez,X1b];exact hb
      obtain ⟨u,hu,h2⟩:=h.z j hj hb';exact ⟨u,List.mem_append_left _ hu,h2⟩
    ·rw [Xh6,e,if_pos rfl,hdr,h4]
     show Cg _ (s.c+4*(numB a (drI y (oI s.z (xI t.m (pw y)))) : Int))
     rw [Xni h.mz hr,hri,X1q,Xdy hiy]
     have hs24:shN y i<24:=by unfold shN;split<;>omega
     have hn:numB a (oI (drI y s.z) ((2^shN y i:Nat) : Int))=numB a (drI y s.z)+numB a ((2^shN y i:Nat) : Int):=by
      rw [ez,X1q]
      refine Xlw a (X0x (Xob hz)) (X37 (by omega)) fun j hj=>?_
      rw [Nat.testBit_two_pow]
      refine decide_eq_false fun e2=>?_
      rw [← e2,X2e] at hj
      rw [ez,X1b] at hzi
      unfold shN at hj
      by_cases hlt:i<y
      ·rw [if_pos hlt,if_pos hlt,hzi] at hj;cases hj
      ·rw [if_neg hlt,if_neg (by omega),show i-1+1=i from by omega,hzi] at hj;cases hj
     have hp:=Xq7 a (k:=shN y i) (by omega)
     obtain ⟨q,hq⟩:=h.d a
     refine ⟨q,?_⟩
     rw [hn,hq]
     omega
   ·rw [if_neg h1] at hpl
    cases hpl
theorem DI.fold{y:Nat}(hy:y<24) : ∀ (l pre:List Tm) {s:Ar},DI y pre s→(∀ t ∈ l,Mk t.m)→(∀ t ∈ pre,Mk t.m)→Rise (pre++l)→(l.foldl (arStep y) s).pl=true→DI y (pre++l) (l.foldl (arStep y) s)
 | [],pre,s,h,_,_,_,_=>by rw [List.append_nil];exact h
 | t::l,pre,s,h,hl,hp,hR,hpl=>by
  have h1:(arStep y s t).pl=true:=by
   cases e:(arStep y s t).pl with
   | true=>rfl
   | false=>have:=Xpc y l _ e;rw [List.foldl_cons] at hpl;rw [this] at hpl;cases hpl
  have hR':=hR
  unfold Rise at hR
  rw [List.pairwise_append] at hR
  have:=DI.fold hy l (pre++[t]) (h.step hy (hl t (by simp)) (fun u hu=>⟨hp u hu,by have:=hR.2.2 u hu t (by simp);omega⟩) h1) (fun x hx=>hl x (by simp [hx]))
   (fun x hx=>by
    rcases List.mem_append.1 hx with h|h
    ·exact hp x h
    ·rw [List.mem_singleton.1 h];exact hl t (by simp)) (by rw [List.append_assoc];exact hR') hpl
  rw [List.append_assoc] at this
  exact this
theorem Xww{y:Nat}{ts:List Tm}(hy:y<24)(h:OkT ts)(hpl:(arF y ts).pl=true) : DI y ts (arF y ts):=
 DI.fold hy ts [] (s:=ar0) ⟨.inl rfl,fun i _ hb=>by
  have:(0:Int).toNat.testBit i=true:=hb
  simp at this,fun a=>by
   show Cg 0 (0+4*(numB a (drI y 0) : Int))
   rw [X3l]
   have:numB a 0=0:=by
    unfold numB
    rw [List.countP_eq_zero]
    intro i _
    simp
   rw [this];exact Cg.refl _,Mk.zero⟩ h.mks (fun t ht=>by cases ht) h.rise hpl
section
variable {p : Ps} {y : Nat} (h : VPs p) (hy : p.ins.toNat ≤ y ∧ y < p.ins.toNat + p.vars.toNat) (ho : outB y p.out = false)
include h hy ho
theorem y24:y<24:=by have:=h.ins;have:=h.vars;omega
theorem Xye:∀ t ∈ p.ts,Lt (p.ins.toNat+p.vars.toNat) t.m:=fun t ht=>⟨h.ts.mks t ht,by
 have:=h.tb t ht
 have e:(p.ins+p.vars).toNat=p.ins.toNat+p.vars.toNat:=by have:=h.ins;have:=h.vars;omega
 rw [e] at this
 exact this⟩
end
def SemR(p q:Ps) : Prop:=q.ins=p.ins∧∃ d:Nat,p.root=q.root+d∧∀ w x,semP p w x=s2^d*semP q w x
theorem SemR.refl(p:Ps) : SemR p p:=⟨rfl,0,by omega,fun w x=>by rw [X5c,Xf]⟩
theorem SemR.trans{p q r:Ps}(h:SemR p q)(k:SemR q r) : SemR p r:=by
 obtain ⟨h0,d,h1,h2⟩:=h;obtain ⟨k0,e,k1,k2⟩:=k;exact ⟨k0.trans h0,d+e,by omega,fun w x=>by rw [h2,k2,X2a,Xe]⟩
theorem Xxf{ins:Int}{s:Ar}(h:ruK ins s≠0) : s.pl=true:=by
 unfold ruK at h
 cases e:s.pl with
 | true=>rfl
 | false=>rw [if_pos e] at h;exact absurd rfl h
theorem Xve{p:Ps}{y:Nat}(h:VPs p)(hy:p.ins.toNat≤y∧y<p.ins.toNat+p.vars.toNat)(ho:outB y p.out=false)(hpl:(arF y p.ts).pl=true)(i:Nat)(hb:bitQ i (arF y p.ts).z=true) : i<p.ins.toNat+p.vars.toNat:=by
 have hy24:=y24 h hy ho;have hD:=Xww hy24 h.ts hpl;obtain ⟨z,hz,ez⟩:=hD.mz.nat
 have hi:i<24:=by
  rcases Nat.lt_or_ge i 24 with h'|h'
  ·exact h'
  ·rw [ez,X1b,Nat.testBit_lt_two_pow (Nat.lt_of_lt_of_le hz (Nat.pow_le_pow_right (by decide) h'))] at hb;cases hb
 obtain ⟨t,ht,h1,_⟩:=hD.z i hi hb
 have hpw:Lt (p.ins.toNat+p.vars.toNat) (pw y):=⟨X3m hy24,Int.ofNat_lt.2 (Nat.pow_lt_pow_right (by decide) hy.2)⟩
 have:=(Lt.xor (Xye h hy ho t ht) hpw).2
 rw [h1] at this
 exact (Nat.pow_lt_pow_iff_right (by decide)).1 (Int.ofNat_lt.1 this)
theorem Xma{y N:Nat}{z:Int}(hz:Mk z)(hy:y<N+1)(h:∀ i,bitQ i z=true→i<N+1) : Lt N (drI y z):=by
 refine ⟨hz.dr,?_⟩
 obtain ⟨x,hx,rfl⟩:=hz.nat
 rw [X1q]
 refine Int.ofNat_lt.2 (Nat.lt_pow_two_of_testBit _ fun i hi=>?_)
 rw [X2e]
 split
 ·omega
 ·cases e:x.testBit (i+1) with
  | false=>rfl
  | true=>have:=h (i+1) e;omega
theorem Xwr{n:Nat} : ∀ (l:List Gt) {s t:Pst},psAll n l s=some t→t.v=s.v+hs l
 | [],s,t,e=>by injection e with e;subst e;rfl
 | g::l,s,t,e=>by
  have e:(psStep n s g).bind (psAll n l)=some t:=e
  cases h1:psStep n s g with
  | none=>rw [h1] at e;cases e
  | some u=>
   rw [h1] at e
   have h2:=Xwr l e
   have h3:u.v=s.v+hN g:=by
    unfold psStep at h1
    unfold hN
    split at h1
    ·rename_i hk
     rw [if_pos hk]
     split at h1
     ·cases h1
     ·injection h1 with h1;rw [← h1]
    ·rename_i hk
     rw [if_neg hk]
     repeat' split at h1
     all_goals (injection h1 with h1;rw [← h1];rfl)
   rw [h2,h3]
   show s.v+hN g+hs l=s.v+(hN g+hs l)
   omega
def PhB(N:Nat)(a b:List Gt)(k:Int) : Prop:=∀ i j,i<2^N→j<2^N→s2^hs b*run a (eb N j) (pt N i)=omZ k*(s2^hs a*run b (eb N j) (pt N i))
theorem Xbl{c:Cx}{p:Ps}{n:Nat}(h:cOk c=true)(hn:c.n=(n:Int))(hp:psC c=some p) : p.root=(hs c.gs:Int)∧p.ins=(n:Int):=by
 unfold psC at hp
 rw [hn,Int.toNat_natCast] at hp
 cases e:psAll n c.gs (ps0 n) with
 | none=>rw [e] at hp;cases hp
 | some s=>
  rw [e] at hp
  injection hp with hp
  subst hp
  have:=Xwr c.gs e
  refine ⟨?_,rfl⟩
  show ((s.v:Nat) : Int)=_
  rw [this]
  show (((0:Nat)+hs c.gs:Nat) : Int)=_
  omega
theorem Xrm{a:Nat→Bool}{x:Nat}(hx:x<2^24)(h:subI a (x:Int)≠0) : ∀ i,x.testBit i=true→a i=true:=by
 unfold subI at h
 split at h
 ·rename_i h2
  exact (Xtz hx a).1 h2
 ·exact absurd rfl h
section
variable {N : Nat} {a b c : Cx} {p : Ps}
variable (hN : N ≤ 5) (ha : ∀ g ∈ a.gs, gOk (N : Int) g = true) (hb : ∀ g ∈ b.gs, gOk (N : Int) g = true) (hc : c.gs = a.gs ++ invL b.gs) (hcn : c.n = (N : Int)) (hok : cOk c = true) (hp : psC c = some p)
include hN ha hb hc hcn hok hp
end
def asg(A:Nat) : Nat→Bool:=fun i=>A.testBit i
def powP(p:Ps)(A:Nat) : Int:=p.phase+evL (asg A) (sm p.ts)
def numQ(f:Nat→Bool) : Nat→Nat
 | 0=>0
 | n+1=>2*numQ f n+(f n).toNat
def colP(n A:Nat) : Nat:=numQ (asg A) n
def rowP(p:Ps)(A:Nat) : Nat:=numQ (fun q=>avI (asg A) (aAt p.out q)==1) p.ins.toNat
def cellP(p:Ps)(i j n:Nat) : Rg:=sumN (fun A=>if rowP p A=i∧colP p.ins.toNat A=j then omZ (powP p A) else 0) n
def rZ:Rg:=⟨0,0,0,0⟩
def sclI(z:Rg)(e:Int) : Option Dy:=if z=rZ then some dZ else if (raiseI (-e).toNat z).2&&dOk (dLow (raiseI (-e).toNat z).1 (max e 0)) then some (dLow (raiseI (-e).toNat z).1 (max e 0)) else none
def opPs(p:Ps) : Option Mx:=if validP p&&decide (p.ins+p.vars≤10) then matOf ((2^p.ins.toNat:Nat) : Int) ((2^p.ins.toNat:Nat) : Int) fun i j=>sclI (cellP p i j (2^(p.ins+p.vars).toNat)) p.root else none
theorem X7x{f g:Nat→Bool} : ∀ n,(∀ q,q<n→f q=g q)→numQ f n=numQ g n
 | 0,_=>rfl
 | n+1,h=>by rw [numQ,numQ,X7x n fun q hq=>h q (by omega),h n (by omega)]
def chkNum:Bool:=(List.range 6).all fun n=>bools.all fun a=>bools.all fun b=>bools.all fun c=>bools.all fun d=>bools.all fun e=>decide (numQ (fun q=>[a,b,c,d,e].getD q false) n<2^n)&&(List.range n).all fun q=>pt n (numQ (fun q=>[a,b,c,d,e].getD q false) n) q==[a,b,c,d,e].getD q false
theorem Xet:chkNum=true:=by kernel_rfl
theorem X86{N:Nat}(hN:N≤5)(β:Nat→Bool) : numQ β N<2^N∧∀ q,q<N→pt N (numQ β N) q=β q:=by
 have h:=Xet
 simp only [chkNum,List.all_eq_true,List.mem_range] at h
 have h:=h N (by omega) _ (X5j (β 0)) _ (X5j (β 1)) _ (X5j (β 2)) _ (X5j (β 3)) _ (X5j (β 4))
 simp only [Bool.and_eq_true,List.all_eq_true,List.mem_range,beq_iff_eq,decide_eq_true_eq] at h
 have e:∀ q,q<N→[β 0,β 1,β 2,β 3,β 4].getD q false=β q:=fun q hq=>by
  have:q=0∨q=1∨q=2∨q=3∨q=4:=by omega
  rcases this with rfl|rfl|rfl|rfl|rfl<;>rfl
 rw [X7x N e] at h
 exact ⟨h.1,fun q hq=>by rw [h.2 q hq,e q hq]⟩
theorem Xiv(f:Nat→Rg)(m:Nat) : ∀ n,sumN f (m+n)=sumN f m+sumN (fun k=>f (m+k)) n
 | 0=>(X01 _).symm
 | n+1=>by
  show sumN f (m+n)+f (m+n)=sumN f m+(sumN (fun k=>f (m+k)) n+f (m+n))
  rw [Xiv f m n,X02]
theorem Xhf{A n q:Nat}(h:A<2^n)(hq:n≤q) : asg A q=false:=Nat.testBit_lt_two_pow (Nat.lt_of_lt_of_le h (Nat.pow_le_pow_right (by decide) hq))
theorem Xoz{A n:Nat}(h:A<2^n) : asg (2^n+A)=upB (asg A) n true:=by
 funext q
 unfold asg upB
 by_cases e:q=n
 ·subst e
  rw [if_pos rfl,Nat.testBit_two_pow_add_eq,Nat.testBit_lt_two_pow h]
  rfl
 ·rw [if_neg e]
  rcases Nat.lt_or_gt_of_ne e with h1|h1
  ·rw [Nat.testBit_two_pow_add_gt h1]
  ·have ha:A.testBit q=false:=Nat.testBit_lt_two_pow (Nat.lt_of_lt_of_le h (Nat.pow_le_pow_right (by decide) (by omega)))
   rw [show (fun i=>A.testBit i) q=false from ha,Nat.testBit_lt_two_pow]
   have:2^(n+1)≤2^q:=Nat.pow_le_pow_right (by decide) (by omega)
   rw [Nat.pow_succ] at this
   omega
theorem Xvn{A n:Nat}(h:A<2^n) : asg A=upB (asg A) n false:=by
 funext q
 unfold upB
 by_cases e:q=n
 ·rw [if_pos e,e,Xhf h (Nat.le_refl _)]
 ·rw [if_neg e]
def chkBit:Bool:=(List.range 32).all fun A=>(List.range 5).all fun q=>A.testBit q==(bitT q A==1)
theorem Xg5:chkBit=true:=by kernel_rfl
theorem Xwv{N A q:Nat}(hN:N≤5)(hA:A<2^N)(hq:q<N) : asg A q=pt N A (N-1-q):=by
 have h:=Xg5
 simp only [chkBit,List.all_eq_true,List.mem_range,beq_iff_eq] at h
 have h32:A<32:=Nat.lt_of_lt_of_le hA (Nat.pow_le_pow_right (n:=2) (by decide) hN)
 unfold asg pt
 rw [h A h32 q (by omega),decide_eq_true (show N-1-q<N by omega),Bool.true_and,show N-1-(N-1-q)=q from by omega]
theorem Xjm{N j:Nat}(hN:N≤5)(hj:j<2^N) : ∀ (v:Nat) (F:St),sumB N v F (pt N j)=sumN (fun A=>if colP N A=j then F (asg A) else 0) (2^(N+v))
 | 0,F=>by
  obtain ⟨t,ht,htj⟩ : ∃ t,t<2^N∧asg t=pt N j:=by
   have h:=X86 hN fun q=>pt N j (N-1-q)
   refine ⟨numQ (fun q=>pt N j (N-1-q)) N,h.1,?_⟩
   have hb:=fun q hq=>(h.2 q hq)
   funext q
   rcases Nat.lt_or_ge q N with h1|h1
   ·have h2:=hb (N-1-q) (by omega)
    rw [show N-1-(N-1-q)=q from by omega] at h2
    rw [← h2]
    exact Xwv hN h.1 h1
   ·rw [Xhf h.1 h1]
    unfold pt
    rw [decide_eq_false (by omega)]
    rfl
  have hc:colP N t=j:=by
   refine Xgq hN (X86 hN _).1 hj fun q hq=>?_
   rw [← htj]
   exact (X86 hN _).2 q hq
  rw [Nat.add_zero,X47 (t:=t) _ ht fun k hk hne=>if_neg fun e=>hne ?_]
  ·show F (pt N j)=_
   rw [if_pos hc,htj]
  ·have h2:asg k=asg t:=by
    rw [htj,← e]
    funext q
    rcases Nat.lt_or_ge q N with h1|h1
    ·exact ((X86 hN _).2 q h1).symm
    ·rw [Xhf hk h1]
     unfold pt
     rw [decide_eq_false (by omega)]
     rfl
   exact Nat.eq_of_testBit_eq fun q=>congrFun h2 q
 | v+1,F=>by
  show sumB N v (fun b=>F (upB b (N+v) false)+F (upB b (N+v) true)) (pt N j)=_
  rw [Xjm hN hj v,← Nat.add_assoc,Nat.pow_succ,Nat.mul_two,Xiv,← Xbz]
  refine X4d _ fun A hA=>?_
  have e:colP N (2^(N+v)+A)=colP N A:=by
   unfold colP
   rw [Xoz hA]
   exact X7x N fun q hq=>by unfold upB;rw [if_neg (by omega)]
  simp only [e]
  by_cases h:colP N A=j
  ·rw [if_pos h,if_pos h,if_pos h,Xoz hA,← Xvn hA]
  ·rw [if_neg h,if_neg h,if_neg h]
   exact (X01 _).symm
theorem Xmu{p:Ps}{N i j:Nat}(hn:p.ins=(N:Int))(h0:0≤p.vars)(hN:N≤5)(hi:i<2^N)(hj:j<2^N) : cellP p i j (2^(p.ins+p.vars).toNat)=semP p (eb N i) (pt N j):=by
 unfold semP cellP
 rw [show (p.ins+p.vars).toNat=N+p.vars.toNat from by omega,show p.ins.toNat=N from by omega,Xjm hN hj]
 refine X4d _ fun A _=>?_
 by_cases h:colP N A=j
 ·rw [if_pos h]
  have hb:eb N i (affs N p.out (asg A) (pt N j))=if rowP p A=i then 1 else 0:=by
   unfold rowP
   rw [show p.ins.toNat=N from by omega]
   have hq:=X86 hN fun q=>avI (asg A) (aAt p.out q)==1
   unfold eb
   by_cases e:numQ (fun q=>avI (asg A) (aAt p.out q)==1) N=i
   ·rw [if_pos e,if_pos]
    intro q h1
    unfold affs
    rw [if_pos h1,← e,hq.2 q h1]
   ·rw [if_neg e,if_neg]
    intro h2
    refine e (Xgq hN hq.1 hi fun q h1=>?_)
    have h3:=h2 q h1
    unfold affs at h3
    rw [if_pos h1] at h3
    rw [hq.2 q h1,← h3]
  rw [hb]
  by_cases e:rowP p A=i
  ·rw [if_pos e,if_pos ⟨e,h⟩,X07];rfl
  ·rw [if_neg e,if_neg fun h2=>e h2.1,Xn]
 ·rw [if_neg h,if_neg fun h2=>h h2.2]
def sm4(z:Rg)(n:Int) : Prop:=(-n≤z.a∧z.a≤n)∧(-n≤z.b∧z.b≤n)∧(-n≤z.c∧z.c≤n)∧(-n≤z.d∧z.d≤n)
theorem Xv3(k:Int) : sm4 (omZ k) 1:=by
 unfold omZ
 have hm:(k % 8).toNat<8:=by omega
 revert hm
 generalize (k % 8).toNat=m
 intro hm
 have:m=0∨m=1∨m=2∨m=3∨m=4∨m=5∨m=6∨m=7:=by omega
 unfold sm4
 rcases this with rfl|rfl|rfl|rfl|rfl|rfl|rfl|rfl<;>decide
theorem Xot{f:Nat→Rg}(h:∀ k,sm4 (f k) 1) : ∀ n:Nat,sm4 (sumN f n) (n:Int)
 | 0=>by show sm4 (0:Rg) 0;unfold sm4;decide
 | n+1=>by
  have h1:=Xot h n;have h2:=h n
  unfold sm4 at *
  have ea:(sumN f (n+1)).a=(sumN f n).a+(f n).a:=rfl
  have eb:(sumN f (n+1)).b=(sumN f n).b+(f n).b:=rfl
  have ec:(sumN f (n+1)).c=(sumN f n).c+(f n).c:=rfl
  have ed:(sumN f (n+1)).d=(sumN f n).d+(f n).d:=rfl
  rw [ea,eb,ec,ed]
  omega
theorem Xb8(p:Ps)(i j:Nat){n:Nat}(hn:n≤10) : rOk (cellP p i j (2^n))=true:=by
 have h:sm4 (cellP p i j (2^n)) ((2^n:Nat) : Int):=Xot (fun A=>by
  split
  ·exact Xv3 _
  ·unfold sm4;decide) _
 have h2:2^n≤2^10:=Nat.pow_le_pow_right (by decide) hn
 have h3:((2^n:Nat) : Int)≤1024:=by omega
 unfold sm4 at h
 rw [X3e]
 omega
theorem Xqq{z:Rg}{e:Int}{d:Dy}(hz:rOk z=true)(h:sclI z e=some d) : V d e.toNat (s2^(-e).toNat*z)∧dOk d=true:=by
 unfold sclI at h
 split at h
 ·rename_i h0
  injection h with h
  subst h0 h
  have:s2^(-e).toNat*rZ=0:=Xn _
  rw [this]
  exact ⟨X6d _,by decide⟩
 ·split at h
  ·rename_i h1
   injection h with h
   simp only [Bool.and_eq_true] at h1
   obtain ⟨e1,e2⟩:=X5b _ _ hz h1.1
   have hv:=Xn3 (e:=max e 0) e2 (by omega)
   rw [h] at hv h1
   rw [e1,show (max e 0).toNat=e.toNat from by omega] at hv
   exact ⟨hv,h1.2⟩
  ·cases h
theorem Xf1{p:Ps}{M:Mx}(h:opPs p=some M) : ∃ N:Nat,N≤5∧p.ins=(N:Int)∧(∀ i j,i<2^N→j<2^N→V (M.at i j) p.root.toNat (s2^(-p.root).toNat*semP p (eb N i) (pt N j)))∧(∀ i j,i<2^N→j<2^N→dOk (M.at i j)=true)∧M.rows=((2^N:Nat) : Int)∧M.cols=((2^N:Nat) : Int)∧M.cells.length=2^N*2^N:=by
 unfold opPs at h
 split at h
 ·rename_i h1
  simp only [Bool.and_eq_true,decide_eq_true_eq] at h1
  have hV:=VPs.of h1.1;have hI:=hV.ins;have hvr:=hV.vars
  obtain ⟨N,hN⟩ : ∃ N:Nat,p.ins=(N:Int):=⟨p.ins.toNat,by omega⟩
  have hN5:N≤5:=by omega
  obtain ⟨h2,h3,h4,h5⟩:=X6p h
  rw [show p.ins.toNat=N from by omega] at h2 h3 h4 h5
  simp only [Int.toNat_natCast] at h2 h5
  have hv:∀ i j,i<2^N→j<2^N→V (M.at i j) p.root.toNat (s2^(-p.root).toNat*semP p (eb N i) (pt N j))∧dOk (M.at i j)=true:=fun i j hi hj=>by
   have h6:=Xqq (Xb8 p i j (by omega)) (h2 i j hi hj)
   rw [Xmu hN hvr.1 hN5 hi hj] at h6
   exact h6
  exact ⟨N,hN5,hN,fun i j hi hj=>(hv i j hi hj).1,fun i j hi hj=>(hv i j hi hj).2,h3,h4,h5⟩
 ·cases h
theorem Xw1{p q:Mx}{R C:Nat}(hr:p.rows=(R:Int))(hr2:q.rows=(R:Int))(hc:p.cols=(C:Int))(hc2:q.cols=(C:Int))(hp:p.cells.length=R*C)(hq:q.cells.length=R*C)(h:∀ i j,i<R→j<C→p.at i j=q.at i j) : p=q:=by
 obtain ⟨pr,pc,pl⟩:=p;obtain ⟨qr,qc,ql⟩:=q
 simp only at hr hr2 hc hc2 hp hq
 subst hr hc hr2 hc2
 congr 1
 apply List.ext_getElem
 ·omega
 ·intro m h1 h2
  have hC:0<C:=by
   rcases Nat.eq_zero_or_pos C with e|e
   ·rw [e,Nat.mul_zero] at hp;omega
   ·exact e
  have h3:=h (m/C) (m % C) (Nat.div_lt_of_lt_mul (by rw [Nat.mul_comm];omega)) (Nat.mod_lt _ hC)
  unfold Mx.at at h3
  simp only [Int.toNat_natCast] at h3
  rw [show m/C*C+m % C=m from by rw [Nat.mul_comm];exact Nat.div_add_mod m _] at h3
  rw [List.getD_eq_getElem?_getD,List.getD_eq_getElem?_getD,List.getElem?_eq_getElem h1,List.getElem?_eq_getElem h2] at h3
  exact h3
theorem Xk2{c:Cx}{p:Ps}{M U:Mx}(hok:cOk c=true)(hp:psC c=some p)(h:opPs p=some M)(hU:opI c=some U) : M=U:=by
 obtain ⟨N,hN,e1,v1,o1,r1,c1,l1⟩:=Xf1 h;obtain ⟨n,hn,_⟩:=Xc9 hok;obtain ⟨q1,q2⟩:=Xbl hok hn hp
 obtain rfl:N=n:=by omega
 obtain ⟨v2,m2,r2,c2⟩:=Xw0 hn hU
 have l2:=Xay m2
 rw [r2,c2,Int.toNat_natCast] at l2
 refine Xw1 r1 r2 c1 c2 l1 l2.2.2 fun i j hi hj=>?_
 have w1:=v1 i j hi hj
 have hg:∀ g ∈ c.gs,gOk (N:Int) g=true:=fun g hg=>by
  have:=(Xdg.1 hok).2.2 g hg
  rwa [hn] at this
 rw [Xqr hok hp,← Xmn hN hg hi hj,q1,show (-((hs c.gs:Nat) : Int)).toNat=0 from by omega,X5c,Xf,Int.toNat_natCast] at w1
 exact Y0f (o1 i j hi hj) (Mx.at_ok (X8j m2) i j) w1 (v2 i j hi hj)
theorem Xkk{p:Ps}(hv:validP p=true)(h10:p.ins+p.vars≤10)(hr:0≤p.root) : ∃ M,opPs p=some M:=by
 unfold opPs
 rw [if_pos (by rw [hv,decide_eq_true h10];rfl)]
 have hV:=VPs.of hv;have hI:=hV.ins;have hvr:=hV.vars
 have hr60:p.root≤60:=by
  simp only [validP,okHd,Bool.and_eq_true] at hv
  have:=hv.1.1.1.1.2
  simp only [inR,Bool.and_eq_true,decide_eq_true_eq] at this
  omega
 have hdim:isDimB ((2^p.ins.toNat:Nat) : Int)=true:=by
  have:p.ins.toNat=1∨p.ins.toNat=2∨p.ins.toNat=3∨p.ins.toNat=4∨p.ins.toNat=5:=by omega
  rcases this with e|e|e|e|e<;>rw [e]<;>decide
 refine Xfq hdim hdim fun i j _ _=>?_
 unfold sclI
 split
 ·exact ⟨_,rfl⟩
 ·have hz:=Xb8 p i j (n:=(p.ins+p.vars).toNat) (by omega)
  have he:(raiseI (-p.root).toNat (cellP p i j (2^(p.ins+p.vars).toNat)))=(cellP p i j (2^(p.ins+p.vars).toNat),true):=by
   rw [show (-p.root).toNat=0 from by omega];rfl
  rw [he,show max p.root 0=p.root from by omega]
  exact ⟨_,if_pos (by rw [X6j hz hr hr60];rfl)⟩
theorem Xhm(m:Int) : szI m=numB (fun _=>true) m:=by
 unfold szI setN numB
 rw [← List.countP_eq_length_filter]
 congr 1
 funext i
 rw [Bool.and_true]
theorem Xzn{v:Nat}{m:Int}(h:Mk m)(hv:v<24) : szI m=szI (drI v m)+if bitQ v m=true then 1 else 0:=by
 have e:=Xmk (fun _=>true) true h hv
 have e2:lift v (fun _=>true) true=fun _=>true:=by
  funext i
  unfold lift
  split
  ·rfl
  ·split<;>rfl
 rw [e2,Bool.and_true] at e
 rw [Xhm,Xhm]
 exact e
section
variable {l : List Int} (hl : ∀ x ∈ l, Mk x ∧ szI x = 1) {r : Int} {s : Nat} (hr : Mk r ∧ szI r ≤ s)
include hl hr
theorem Xjp{x y k:Int}(hk:((2^s:Nat) : Int)∣k)(hx:Mk x∧szI x≤1)(hy:Mk y∧szI y≤1) : ∀ n,∀ p ∈ exZL r x y k l n,dv p.1∣p.2
 | 0,p,h=>by cases h
 | n+1,p,h=>by
  rcases List.mem_append.1 h with h|h
  ·exact Xjp hk hx hy n p h
  ·rw [List.mem_singleton.1 h]
   have hz:=X9c hl n;have h1:=X4z hr.1 hx.1;have h2:=X4z (hr.1.or hx.1) hy.1;have h3:=X4z ((hr.1.or hx.1).or hy.1) hz.1;refine X36 (s:=s+3) (by show szI (oI (oI (oI r x) y) (l.getD n 0))≤s+3;omega) ?_
   rw [show s+3-1=s+2 from rfl,Nat.pow_add]
   show _∣4*k
   rw [Int.natCast_mul,Int.mul_comm 4 k]
   exact Int.mul_dvd_mul hk (by decide)
theorem Xhu{x k:Int}(hk:((2^s:Nat) : Int)∣k)(hx:Mk x∧szI x≤1) : ∀ n,∀ p ∈ exYL r x k l n,dv p.1∣p.2
 | 0,p,h=>by cases h
 | n+1,p,h=>by
  have hy:=X9c hl n
  rcases List.mem_append.1 h with h|h
  ·exact Xhu hk hx n p h
  ·rcases List.mem_cons.1 h with rfl|h
   ·have h1:=X4z hr.1 hx.1;have h2:=X4z (hr.1.or hx.1) hy.1;refine X36 (s:=s+2) (by show szI (oI (oI r x) (l.getD n 0))≤s+2;omega) ?_
    rw [show s+2-1=s+1 from rfl,Nat.pow_add]
    show _ ∣ -2*k
    rw [Int.natCast_mul,Int.mul_comm (-2) k]
    exact Int.mul_dvd_mul hk (by decide)
   ·exact Xjp hl hr hk hx hy n p h
theorem Xdv{k:Int}(hk:((2^s:Nat) : Int)∣k) : ∀ n,∀ p ∈ exXL r k l n,dv p.1∣p.2
 | 0,p,h=>by cases h
 | n+1,p,h=>by
  have hy:=X9c hl n
  rcases List.mem_append.1 h with h|h
  ·exact Xdv hk n p h
  ·rcases List.mem_cons.1 h with rfl|h
   ·have h1:=X4z hr.1 hy.1;exact X36 (s:=s+1) (by show szI (oI r (l.getD n 0))≤s+1;omega) hk
   ·exact Xhu hl hr hk hy n p h
end
theorem Xeb{s:Nat}{k:Int}(h:((2^s:Nat) : Int)∣k) : ((2^(s-1) : Nat) : Int)∣k:=Int.dvd_trans (Int.ofNat_dvd.2 (Nat.pow_dvd_pow 2 (by omega))) h
theorem Xpg{k r:Int}{s:Nat}{a:Af}(ha:Mk a.m)(hr:Mk r∧szI r≤s)(hk:((2^s:Nat) : Int)∣k) : ∀ p ∈ expL k a r,dv p.1∣p.2:=fun p hp=>by
 have hl:∀ x ∈ lows a.m,Mk x∧szI x=1:=fun x hx=>⟨X3z ha hx,X9j ha hx⟩
 unfold expL at hp
 split at hp
 ·rcases List.mem_cons.1 hp with rfl|hp
  ·exact X36 hr.2 (Xeb hk)
  ·exact Xdv hl hr (Int.dvd_neg.2 hk) _ p hp
 ·exact Xdv hl hr hk _ p hp
theorem Xhw{p:Ps}(h:validP p=true) : ∀ t ∈ p.ts,Lt (p.ins+p.vars).toNat t.m∧1≤szI t.m∧((2^(szI t.m-1) : Nat) : Int)∣t.c:=fun t ht=>by
 have hV:=VPs.of h
 simp only [validP,Bool.and_eq_true,okTs,List.all_eq_true,List.mem_range] at h
 obtain ⟨i,hi,e⟩:=List.getElem_of_mem ht;have h2:=h.1.2 i hi
 unfold okTa at h2
 have e2:p.ts.getD i tZ=t:=by rw [List.getD_eq_getElem?_getD,List.getElem?_eq_getElem hi,e];rfl
 rw [e2] at h2
 simp only [Bool.and_eq_true,beq_iff_eq] at h2
 refine ⟨⟨hV.ts.mks t ht,hV.tb t ht⟩,Xar (hV.ts.mks t ht) (hV.ts.all t ht).1,Int.dvd_of_emod_eq_zero h2.1.2⟩
theorem Xaa{p:Ps}(h:validP p=true){r:Int}(hr:-60≤r∧r≤60) : validP { p with root:=r }=true:=by
 simp only [validP,okHd,Bool.and_eq_true] at h ⊢
 obtain ⟨⟨⟨⟨⟨⟨h1,h2⟩,h3⟩,h4⟩,h5⟩,h6⟩,h7⟩:=h;exact ⟨⟨⟨⟨⟨⟨h1,h2⟩,by simp only [inR,Bool.and_eq_true,decide_eq_true_eq];omega⟩,h4⟩,h5⟩,h6⟩,h7⟩
theorem Xbp{n v:Nat}{root:Int}{f:Int→Int}{out:List Af}(hn:1≤n∧n≤5)(hN:n+v≤24)(hr:-60≤root∧root≤60)(hp:PO f)(hs:SupN (n+v) f)(hd:Dv f)(hl:out.length=n)(ho:∀ a ∈ out,AO a∧Lt (n+v) a.m) :
  validP ⟨(n:Int),(v:Int),root,f 0,tms f,out⟩=true:=
 Xaa (PsV.valid (s:=⟨f,v,out⟩) ⟨⟨hp,hl,fun a ha=>(ho a ha).1,hN⟩,hs,hd,fun a ha=>(ho a ha).2⟩ hn) hr
theorem SupN.cPh(N:Nat)(ph:Int) : SupN N (cPh ph):=fun x hx=>by
 unfold Proofs.YtiejkplemjkjoaaGreat.cPh upd at hx
 split at hx
 ·rename_i e;subst e;exact Lt.zero N
 ·exact absurd rfl hx
theorem Dv.cPh(ph:Int) : Dv (cPh ph):=fun x=>by
 unfold Proofs.YtiejkplemjkjoaaGreat.cPh upd
 split
 ·rename_i e;subst e;exact X8y _
 ·exact Int.dvd_zero _
theorem X44{p:Ps}(h:validP p=true) : ∃ n v:Nat,p.ins=(n:Int)∧p.vars=(v:Int)∧(1≤n∧n≤5)∧n+v≤24∧(-60≤p.root∧p.root≤60)∧p.out.length=n∧(p.ins+p.vars).toNat=n+v∧∀ a ∈ p.out,AO a∧Lt (n+v) a.m:=by
 have hV:=VPs.of h;have hI:=hV.ins;have hvr:=hV.vars
 simp only [validP,okHd,Bool.and_eq_true,inR,decide_eq_true_eq] at h
 have e:(p.ins+p.vars).toNat=p.ins.toNat+p.vars.toNat:=by omega
 refine ⟨p.ins.toNat,p.vars.toNat,by omega,by omega,by omega,by omega,by omega,by omega,e,fun a ha=>⟨(hV.out a ha).1,(hV.out a ha).1.1,?_⟩⟩
 rw [← e]
 exact (hV.out a ha).2
theorem Y0l{y N:Nat}{z:Int}(hz:Lt (N+1) z)(hy:y<N+1)(hN:N<24) : Lt N (drI y z):=Xma hz.1 hy fun i hi=>by
 refine Classical.byContradiction fun hn=>?_;obtain ⟨x,hx,rfl⟩:=hz.1.nat
 have h1:x<2^(N+1):=Int.ofNat_lt.1 hz.2
 rw [X1b,Nat.testBit_lt_two_pow (Nat.lt_of_lt_of_le h1 (Nat.pow_le_pow_right (by decide) (by omega)))] at hi
 cases hi
theorem X9v{p:Ps}{j:Nat}{u:Af}(h:validP p=true)(hj:j<(p.ins+p.vars).toNat∧p.ins.toNat≤j)(hu:AO u∧Lt (p.ins+p.vars).toNat u.m)(hb:bitQ j u.m=false) : validP (repP p j u)=true:=by
 obtain ⟨n,v,e1,e2,hn,hN,hr,hl,e3,ho⟩:=X44 h;have hV:=VPs.of h
 rw [e3] at hj hu
 obtain ⟨w,rfl⟩ : ∃ w,v=w+1:=⟨v-1,by omega⟩
 have hT:=Xhw h
 rw [e3] at hT
 have hLt:∀ m:Int,Lt (n+(w+1)) m→Lt (n+w) (drI j m):=fun m hm=>Y0l (N:=n+w) hm hj.1 (by omega)
 have hdu:Lt (n+w) (dA j u).m:=hLt _ hu.2
 have hflat:∀ q ∈ p.ts.flatMap (rL j u),Lt (n+w) q.1∧dv q.1∣q.2:=fun q hq=>by
  obtain ⟨t,ht,hq⟩:=List.mem_flatMap.1 hq;obtain ⟨t1,t2,t3⟩:=hT t ht
  have hs:=Xzn t1.1 (show j<24 by omega)
  have hd:=hLt _ t1
  unfold rL at hq
  split at hq
  ·rename_i hbt
   rw [if_pos hbt] at hs
   refine ⟨Xal hdu hd q hq,Xpg (s:=szI (drI j t.m)) hdu.1 ⟨hd.1,Nat.le_refl _⟩ ?_ q hq⟩
   rw [hs] at t3
   exact t3
  ·rename_i hbt
   rw [if_neg hbt,Nat.add_zero] at hs
   rw [List.mem_singleton.1 hq]
   exact ⟨hd,X36 (s:=szI t.m) (by rw [hs];exact Nat.le_refl _) t3⟩
 have hpo:=PO.foldA (p.ts.flatMap (rL j u)) (PO.cPh hV.ph)
 have key:=Xbp (n:=n) (v:=w) (root:=p.root) (f:=foldA (p.ts.flatMap (rL j u)) (cPh p.phase)) (out:=p.out.map fun a=>dA j (sA j u a)) hn (by omega) hr hpo
  (SupN.fold (fun q hq=>(hflat q hq).1) (PO.cPh hV.ph) (SupN.cPh _ _)) (Dv.fold (Dv.cPh _) fun q hq=>(hflat q hq).2) (by rw [List.length_map];exact hl) fun a ha=>by
   obtain ⟨b,hb',rfl⟩:=List.mem_map.1 ha;obtain ⟨b1,b2⟩:=ho b hb'
   have hsa:AO (sA j u b)∧Lt (n+(w+1)) (sA j u b).m:=by
    unfold sA
    split
    ·have hp:Lt (n+(w+1)) (pw j):=⟨X3m (by omega),Int.ofNat_lt.2 (Nat.pow_lt_pow_right (by decide) (by omega))⟩
     refine ⟨⟨(b2.xor hp).xor hu.2 |>.1,?_⟩,(b2.xor hp).xor hu.2⟩
     show xI b.t u.t=0∨xI b.t u.t=1
     rw [Xom b1.2 hu.1.2]
     rcases b1.2 with h1|h1<;>rcases hu.1.2 with h2|h2<;>rw [h1,h2]<;>decide
    ·exact ⟨b1,b2⟩
   exact ⟨⟨(hLt _ hsa.2).1,hsa.1.2⟩,hLt _ hsa.2⟩
 have e4:repP p j u=⟨(n:Int),((w:Nat) : Int),p.root,foldA (p.ts.flatMap (rL j u)) (cPh p.phase) 0,tms (foldA (p.ts.flatMap (rL j u)) (cPh p.phase)),p.out.map fun a=>dA j (sA j u a)⟩:=by
  unfold repP mkP
  rw [e1,e2,show ((w+1:Nat) : Int)-1=((w:Nat) : Int) from by omega]
 rw [e4]
 exact key
theorem X6z{p:Ps}(h:validP p=true) : PO (polF p)∧SupN (p.ins+p.vars).toNat (polF p)∧Dv (polF p):=by
 have hV:=VPs.of h;have hT:=Xhw h
 have hs:∀ q ∈ sm p.ts,Lt (p.ins+p.vars).toNat q.1∧dv q.1∣q.2:=fun q hq=>by
  obtain ⟨t,ht,rfl⟩:=List.mem_map.1 hq;exact ⟨(hT t ht).1,X36 (Nat.le_refl _) (hT t ht).2.2⟩
 exact ⟨PO.foldA _ (PO.cPh hV.ph),SupN.fold (fun q hq=>(hs q hq).1) (PO.cPh hV.ph) (SupN.cPh _ _),Dv.fold (Dv.cPh _) fun q hq=>(hs q hq).2⟩
structure Oc where f:Nat→Int
def encO(u:Oc) : List Value:=[.int .i64 (u.f 0),.int .i64 (u.f 1),.int .i64 (u.f 2),.int .i64 (u.f 3),.int .i64 (u.f 4),.int .i64 (u.f 5),.int .i64 (u.f 6),.int .i64 (u.f 7)]
theorem Xvs:ZeroT Tryz.prog 82 (.agg #[.int .i64 0,.int .i64 0,.int .i64 0,.int .i64 0,.int .i64 0,.int .i64 0,.int .i64 0,.int .i64 0]):=X2h (by kernel_rfl)
theorem X6u(u:Oc) : (encO u).length=8:=rfl
def ocZ:Oc:=⟨fun _=>0⟩
def Oc.put(u:Oc)(j:Nat)(v:Int) : Oc:=⟨fun i=>if i=j then v else u.f i⟩
theorem Xy5{w:World}{T b k j:Nat}{l:List Oc}{u:Oc}(hb:Blk w b T (l.flatMap encO))(hu:l[k]? = some u)(hj:j<8) : At w ⟨b,k*8+j,none⟩ [.int .i64 (u.f j)]:=by
 have h:=hb.at (k*8+j)
 rw [← List.drop_drop,← X8p X6u,Xge hu,List.flatMap_cons] at h
 have:j=0∨j=1∨j=2∨j=3∨j=4∨j=5∨j=6∨j=7:=by omega
 rcases this with rfl|rfl|rfl|rfl|rfl|rfl|rfl|rfl<;>exact At.take h 1
theorem Xcw:∀ (l:List Oc) (k j:Nat) (u:Oc) (v:Int),l[k]? = some u→j<8→splice (l.flatMap encO) (k*8+j) [.int .i64 v]=(l.set k (u.put j v)).flatMap encO
 | [],k,j,u,v,h,_=>by simp at h
 | y::l,0,j,u,v,h,hj=>by
  have:y=u:=by simpa using h
  subst this
  rw [List.flatMap_cons,List.set_cons_zero,List.flatMap_cons]
  have:j=0∨j=1∨j=2∨j=3∨j=4∨j=5∨j=6∨j=7:=by omega
  rcases this with rfl|rfl|rfl|rfl|rfl|rfl|rfl|rfl<;>rfl
 | y::l,k+1,j,u,v,h,hj=>by
  have ih:=Xcw l k j u v (by simpa using h) hj
  unfold splice at ih ⊢
  have h1:(k+1)*8+j=(encO y).length+(k*8+j):=by rw [X6u];omega
  rw [h1,List.flatMap_cons,List.set_cons_succ,List.flatMap_cons,List.take_length_add_append,← ih,show (encO y).length+(k*8+j)+([.int .i64 v] : List Value).length=(encO y).length+(k*8+j+([.int .i64 v] : List Value).length) from by omega,List.drop_length_add_append]
  simp only [List.append_assoc]
section
variable {P : Program} {a : Act} {w : World} {n : Nat} {e : Env} {ty : TypeId} {pos : String} {af : Array Edge} {g : Option (Nat × Bool)} {d : Option Tmp}
theorem Xpo{t b k j T:Nat}{x:Operand}{l:List Oc}{u:Oc}(hx:ev e x=some (.pointer (some ⟨b,k*8+j,none⟩)))(h1:OneT P t)(hb:Blk w b T (l.flatMap encO))(hu:l[k]? = some u)(hj:j<8) : EvW P ⟨d,.load t x,ty,pos,af,g⟩ n e w (.int .i64 (u.f j)):=
 X0 hx h1 (Xy5 hb hu hj)
theorem Xnt{t T b k j:Nat}{x y:Operand}{v:Int}{l:List Oc}{u:Oc}(hx:ev e x=some (.pointer (some ⟨b,k*8+j,none⟩)))(hy:ev e y=some (.int .i64 v))(hs:SizeT P t 1)(hb:Blk w b T (l.flatMap encO))(hu:l[k]? = some u)(hj:j<8) : EfW P ⟨d,.store t x y,ty,pos,af,g⟩ n e w (Stored w b T ((l.set k (u.put j v)).flatMap encO)):=by
 refine X2z (vs:=[.int .i64 v]) hx hy hs hb rfl rfl rfl ?_ (Xcw l k j u v hu hj)
 rw [Nat.ble_eq,Xl X6u]
 have hk:k<l.length:=by
  rcases Nat.lt_or_ge k l.length with h|h
  ·exact h
  ·rw [List.getElem?_eq_none h] at hu;cases hu
 omega
end
theorem Xoa{x:Nat}{m:Int}(hx:x<1024)(hm:Mk m) : bits .and .i64 (x:Int) m=((x &&& m.toNat:Nat) : Int):=by
 obtain ⟨y,hy,rfl⟩:=hm.nat
 rw [X4m (Nat.lt_of_lt_of_le hx (by decide)) (X0x hy)]
 rfl
theorem Xvp{x:Nat}{m:Int}(hx:x<1024) : Mk ((x &&& m.toNat:Nat) : Int):=Mk.of (Nat.lt_of_le_of_lt Nat.and_le_left (Nat.lt_of_lt_of_le hx (by decide)))
theorem Xsq{x:Nat}{m:Int} : szI ((x &&& m.toNat:Nat) : Int)=numB (asg x) m:=by
 rw [Xhm]
 unfold numB asg
 congr 1
 funext i
 rw [Int.toNat_natCast,Nat.testBit_and,Bool.and_true,Bool.and_comm]
theorem Xip{x:Nat}{m:Int}(hm:Mk m) : subI (asg x) m=if ((x &&& m.toNat:Nat) : Int)=m then 1 else 0:=by
 obtain ⟨y,hy,rfl⟩:=hm.nat
 rw [Int.toNat_natCast]
 by_cases e:x &&& y=y
 ·rw [if_pos (by rw [e])]
  unfold subI
  refine if_pos ((Xtz hy _).2 fun i hi=>?_)
  have:(x &&& y).testBit i=true:=by rw [e];exact hi
  rw [Nat.testBit_and,Bool.and_eq_true] at this
  exact this.1
 ·rw [if_neg fun h=>e (Int.ofNat_inj.1 h)]
  rcases X4y (asg x) (y:Int) with h|h
  ·exact h
  ·exfalso
   have h2:=Xrm hy (a:=asg x) (by omega)
   refine e (Nat.eq_of_testBit_eq fun i=>?_)
   rw [Nat.testBit_and]
   cases hi:y.testBit i
   ·rw [Bool.and_false]
   ·rw [show x.testBit i=true from h2 i hi];rfl
theorem Y04{x:Nat}{m:Int}(hx:x<1024)(hm:Mk m)(h:(bits .and .i64 (x:Int) m==m)=true) : subI (asg x) m=1:=by
 rw [Xoa hx hm] at h
 rw [Xip hm,if_pos (by simpa using h)]
theorem Xzf{x:Nat}{m:Int}(hx:x<1024)(hm:Mk m)(h:(bits .and .i64 (x:Int) m==m)=false) : subI (asg x) m=0:=by
 rw [Xoa hx hm] at h
 rw [Xip hm,if_neg (by simpa using h)]
def powK(p:Ps)(x k:Nat) : Int:=p.phase+evL (asg x) (sm (p.ts.take k))
theorem Xnx(p:Ps)(x:Nat) : powK p x 0=p.phase:=by
 unfold powK
 rw [List.take_zero]
 show p.phase+0=_
 omega
theorem Xfu(p:Ps)(x:Nat){k:Nat}(h:p.ts.length≤k) : powK p x k=powP p x:=by
 unfold powK powP
 rw [List.take_of_length_le h]
theorem Xck{p:Ps}{x k:Nat}{u:Tm}(h:p.ts[k]? = some u) : powK p x (k+1)=powK p x k+u.c*subI (asg x) u.m:=by
 unfold powK
 rw [List.take_add_one,h]
 show p.phase+evL _ (sm (p.ts.take k++[u]))=_
 rw [show sm (p.ts.take k++[u])=sm (p.ts.take k)++[(u.m,u.c)] from by simp [sm],X7j,X5n,X7m]
 dsimp only
 omega
theorem Xv1{p:Ps}{x k:Nat}{u:Tm}(h:p.ts[k]? = some u)(h1:subI (asg x) u.m=1) : powK p x k+u.c=powK p x (k+1):=by
 rw [Xck h,h1,Int.mul_one]
theorem Xwo{p:Ps}{x k:Nat}{u:Tm}(h:p.ts[k]? = some u)(h1:subI (asg x) u.m=0) : powK p x k=powK p x (k+1):=by
 rw [Xck h,h1,Int.mul_zero,Int.add_zero]
def rowQ(p:Ps)(x k:Nat) : Nat:=numQ (fun q=>avI (asg x) (aAt p.out q)==1) k
theorem Xe8(p:Ps)(x:Nat) : ∀ k,rowQ p x k<2^k
 | 0=>by show (0:Nat)<1;decide
 | k+1=>by
  have:=Xe8 p x k
  show 2*rowQ p x k+(avI (asg x) (aAt p.out k)==1).toNat<2^(k+1)
  have h2:(avI (asg x) (aAt p.out k)==1).toNat≤1:=Bool.toNat_le _
  rw [Nat.pow_succ]
  omega
def chkX:Bool:=(List.range 32).all fun s=>(List.range 2).all fun b=>(2*s+b) ^^^ 0==2*s+b&&(2*s+b) ^^^ 1==2*s+(1-b)
theorem Xl8:chkX=true:=by kernel_rfl
theorem Xp0{p:Ps}{x k:Nat}{u:Af}(h:p.out[k]? = some u)(hu:AO u)(hk:rowQ p x k<32) :
  bits .xor .i64 ((2*rowQ p x k+szI ((x &&& u.m.toNat:Nat) : Int) % 2:Nat) : Int) u.t=((rowQ p x (k+1) : Nat) : Int):=by
 have e:aAt p.out k=u:=by unfold aAt;rw [Int.toNat_natCast,List.getD_eq_getElem?_getD,h];rfl
 have h1:rowQ p x (k+1)=2*rowQ p x k+(avI (asg x) u==1).toNat:=by rw [← e];rfl
 rw [h1,Xsq]
 have hc:=Xl8
 simp only [chkX,List.all_eq_true,List.mem_range,Bool.and_eq_true,beq_iff_eq] at hc
 have hb:numB (asg x) u.m % 2<2:=Nat.mod_lt _ (by decide)
 obtain ⟨c1,c2⟩:=hc _ hk _ hb
 unfold avI
 rcases hu.2 with ht|ht
 ·rw [ht,show (0:Int)=((0:Nat) : Int) from rfl,X17 (Nat.lt_of_lt_of_le (show 2*rowQ p x k+numB (asg x) u.m % 2<1024 by omega) (by decide)) (by decide),c1]
  congr 2
  rcases Nat.mod_two_eq_zero_or_one (numB (asg x) u.m) with h2|h2
  ·rw [h2,show (((numB (asg x) u.m:Nat) : Int)+((0:Nat) : Int)) % 2=0 from by omega];rfl
  ·rw [h2,show (((numB (asg x) u.m:Nat) : Int)+((0:Nat) : Int)) % 2=1 from by omega];rfl
 ·rw [ht,show (1:Int)=((1:Nat) : Int) from rfl,X17 (Nat.lt_of_lt_of_le (show 2*rowQ p x k+numB (asg x) u.m % 2<1024 by omega) (by decide)) (by decide),c2]
  congr 2
  rcases Nat.mod_two_eq_zero_or_one (numB (asg x) u.m) with h2|h2
  ·rw [h2,show (((numB (asg x) u.m:Nat) : Int)+((1:Nat) : Int)) % 2=1 from by omega];rfl
  ·rw [h2,show (((numB (asg x) u.m:Nat) : Int)+((1:Nat) : Int)) % 2=0 from by omega];rfl
theorem Xfv{p:Ps}{x n:Nat}(h:p.ins=(n:Int)) : rowQ p x n=rowP p x:=by
 unfold rowQ rowP
 rw [h,Int.toNat_natCast]
theorem X9m(x:Nat) : ∀ k,colP k x<2^k
 | 0=>by show (0:Nat)<1;decide
 | k+1=>by
  have:=X9m x k
  show 2*colP k x+(asg x k).toNat<2^(k+1)
  have h2:(asg x k).toNat≤1:=Bool.toNat_le _
  rw [Nat.pow_succ]
  omega
theorem Xll{x k:Nat}(hx:x<1024) : 2*((colP k x:Nat) : Int)+bits .and .i64 ((x:Int)/2^k) 1=((colP (k+1) x:Nat) : Int):=by
 have h1:colP (k+1) x=2*colP k x+(asg x k).toNat:=rfl
 rw [h1,X4b (Mk.of (Nat.lt_of_lt_of_le hx (by decide))) k]
 unfold bI
 rw [X1b]
 unfold asg
 cases x.testBit k
 ·rw [if_neg (by decide)];simp
 ·rw [if_pos rfl];simp
def celP(p:Ps)(S A:Nat) : Nat:=rowP p A*S+colP p.ins.toNat A
def pwP(p:Ps)(A:Nat) : Nat:=(powP p A % 8).toNat
theorem Xb4(p:Ps)(A:Nat) : pwP p A<8:=by unfold pwP;omega
def cntC(p:Ps)(S n i k:Nat) : Nat:=(List.range n).countP fun A=>celP p S A==i&&pwP p A==k
theorem Xoo(p:Ps)(S n i k:Nat) : cntC p S n i k≤n:=by
 have:=List.countP_le_length (p:=fun A=>celP p S A==i&&pwP p A==k) (l:=List.range n)
 rwa [List.length_range] at this
theorem X6e(p:Ps)(S n i k:Nat) : cntC p S (n+1) i k=cntC p S n i k+if celP p S n=i∧pwP p n=k then 1 else 0:=by
 unfold cntC
 rw [List.range_succ,List.countP_append]
 congr 1
 by_cases h1:celP p S n=i<;>by_cases h2:pwP p n=k<;>simp [h1,h2]
def ocAt(p:Ps)(S n i:Nat) : Oc:=⟨fun k=>((cntC p S n i k:Nat) : Int)⟩
def cntO(p:Ps)(S n:Nat) : List Oc:=(List.range (S*S)).map (ocAt p S n)
theorem Xk5(p:Ps)(S:Nat) : List.replicate (S*S) ocZ=cntO p S 0:=by
 unfold cntO
 apply List.ext_getElem
 ·simp
 ·intro i h1 h2
  simp only [cntO,List.getElem_replicate,List.getElem_map,List.getElem_range]
  rfl
theorem Xo7(p:Ps)(S n:Nat) : (cntO p S n).length=S*S:=by simp [cntO]
theorem Xbg{p:Ps}{S n i:Nat}(h:i<S*S) : (cntO p S n)[i]? = some (ocAt p S n i):=by
 unfold cntO
 rw [List.getElem?_map,List.getElem?_range h]
 rfl
theorem Xke{p:Ps}{S n c k:Nat}(hc:celP p S n=c)(hk:pwP p n=k) : (cntO p S n).set c ((ocAt p S n c).put k ((ocAt p S n c).f k+1))=cntO p S (n+1):=by
 apply List.ext_getElem
 ·simp [cntO]
 ·intro i h1 h2
  rw [List.getElem_set]
  simp only [cntO]
  by_cases e:c=i
  ·subst e
   rw [if_pos rfl]
   simp only [List.getElem_map,List.getElem_range]
   unfold ocAt Oc.put
   congr 1
   funext j
   by_cases e2:j=k
   ·subst e2
    rw [if_pos rfl,X6e,if_pos ⟨hc,hk⟩]
    simp
   ·rw [if_neg e2,X6e,if_neg fun h=>e2 (h.2.symm.trans hk)];rfl
  ·rw [if_neg e]
   simp only [List.getElem_map,List.getElem_range]
   unfold ocAt
   congr 1
   funext j
   rw [X6e,if_neg fun h=>e (hc.symm.trans h.1)];rfl
def oSum(u:Oc) : Rg:=⟨u.f 0-u.f 4,u.f 1-u.f 5,u.f 2-u.f 6,u.f 3-u.f 7⟩
theorem Xyn(k:Int) : omZ k=if (k % 8).toNat=0 then ⟨1,0,0,0⟩ else if (k % 8).toNat=1 then ⟨0,1,0,0⟩ else if (k % 8).toNat=2 then ⟨0,0,1,0⟩ else if (k % 8).toNat=3 then ⟨0,0,0,1⟩ else if (k % 8).toNat=4 then ⟨-1,0,0,0⟩ else if (k % 8).toNat=5 then ⟨0,-1,0,0⟩ else if (k % 8).toNat=6 then ⟨0,0,-1,0⟩ else ⟨0,0,0,-1⟩:=by
 unfold omZ
 have hm:(k % 8).toNat<8:=by omega
 revert hm
 generalize (k % 8).toNat=m
 intro hm
 have:m=0∨m=1∨m=2∨m=3∨m=4∨m=5∨m=6∨m=7:=by omega
 rcases this with rfl|rfl|rfl|rfl|rfl|rfl|rfl|rfl<;>decide
theorem Xg2{p:Ps}{S i j:Nat}(hj:j<S)(hS:∀ A,colP p.ins.toNat A<S) : ∀ n,oSum (ocAt p S n (i*S+j))=cellP p i j n
 | 0=>rfl
 | n+1=>by
  have ih:=Xg2 (i:=i) hj hS n
  have hcel:celP p S n=i*S+j↔rowP p n=i∧colP p.ins.toNat n=j:=by
   unfold celP
   constructor
   ·intro h
    have h1:rowP p n=i:=by
     have a1:(rowP p n*S+colP p.ins.toNat n)/S=rowP p n:=by
      rw [Nat.add_comm,Nat.add_mul_div_right _ _ (by omega),Nat.div_eq_of_lt (hS n),Nat.zero_add]
     have a2:(i*S+j)/S=i:=by rw [Nat.add_comm,Nat.add_mul_div_right _ _ (by omega),Nat.div_eq_of_lt hj,Nat.zero_add]
     rw [← a1,h,a2]
    refine ⟨h1,?_⟩
    rw [h1] at h
    omega
   ·rintro ⟨h1,h2⟩
    rw [h1,h2]
  show _=cellP p i j n+(if rowP p n=i∧colP p.ins.toNat n=j then omZ (powP p n) else 0)
  rw [← ih]
  by_cases h:rowP p n=i∧colP p.ins.toNat n=j
  ·rw [if_pos h,Xyn]
   have h2:=hcel.2 h
   have hk:∀ k,cntC p S (n+1) (i*S+j) k=cntC p S n (i*S+j) k+if pwP p n=k then 1 else 0:=fun k=>by
    rw [X6e]
    by_cases e:pwP p n=k
    ·rw [if_pos ⟨h2,e⟩,if_pos e]
    ·rw [if_neg fun h=>e h.2,if_neg e]
   have hp:=Xb4 p n
   have e0:(powP p n % 8).toNat=pwP p n:=rfl
   rw [e0]
   unfold oSum ocAt
   simp only [hk]
   generalize pwP p n=m at *
   have:m=0∨m=1∨m=2∨m=3∨m=4∨m=5∨m=6∨m=7:=by omega
   rcases this with rfl|rfl|rfl|rfl|rfl|rfl|rfl|rfl<;>(refine X30 ?_ ?_ ?_ ?_<;>simp only [Xio,Xjn,Xiu,Xis]<;>simp<;>omega)
  ·rw [if_neg h]
   have hk:∀ k,cntC p S (n+1) (i*S+j) k=cntC p S n (i*S+j) k:=fun k=>by
    rw [X6e,if_neg fun h2=>h (hcel.1 h2.1)];rfl
   unfold oSum ocAt
   simp only [hk]
   exact (X01 _).symm
theorem Xvo:Tryz.prog.eqGuardType Tryz.prog.depth 85=false:=by kernel_rfl
theorem Xre:Tryz.prog.eqGuardType Tryz.prog.depth 76=false:=by kernel_rfl
theorem Xq4(d:Nat)(x y:Tm)(w:World) : (Op.equalIn (d+2) 76 (uV x) (uV y)).run Tryz.prog w=.ok (decide (x=y)) w:=by
 have hf:=X71 Tryz.underlying76;refine (run_equalIn_struct w (d+1) 76 _ _ (by rw [hf];exact Tryz.underlying76) (by kernel_rfl)).trans ?_
 rw [hf]
 have:decide (x=y)=(decide (x.m=y.m)&&(decide (x.c=y.c)&&true)):=by
  obtain ⟨a,b⟩:=x;obtain ⟨a',b'⟩:=y
  simp
 rw [this]
 refine X20 (by decide) X2 Tryz.underlying3 rfl rfl fun _=>?_;refine X20 (by decide) X2 Tryz.underlying3 rfl rfl fun _=>?_
 rfl
theorem Xr7(x:Rg)(l:List Rg) : rOk (rIf1 x l)=true:=by
 unfold rIf1
 split
 ·rename_i h
  unfold rIf2 at h
  rw [List.all_append,Bool.and_eq_true] at h
  simpa using h.2
 ·decide
theorem Xp6{z y:Rg}{m j:Int}{b:Bool}(h:(if b=true then raiseI (-j).toNat y else (y,false))=raiseI (-m).toNat z)(hb:b=true)(hj:j<0) :
  (if rIf2 (rRoot y) [y]=true then raiseI (-(j+1)).toNat (rIf1 (rRoot y) [y]) else (rIf1 (rRoot y) [y],false))=raiseI (-m).toNat z:=by
 rw [← h,if_pos hb]
 obtain ⟨k,hk⟩ : ∃ k,(-j).toNat=k+1:=⟨(-j).toNat-1,by omega⟩
 rw [hk,show (-(j+1)).toNat=k from by omega]
 unfold rIf1
 by_cases hh:rIf2 (rRoot y) [y]=true<;>simp [raiseI,hh]
theorem Xu4{z:Rg}{m:Int}(h:z=rZ) : sclI z m=some dZ:=by unfold sclI;rw [if_pos h]
section
variable {z x y : Rg} {m i j : Int} {b : Bool} (hz0 : ¬ z = rZ) (h : (if b = true then raiseI (-j).toNat y else (y, false)) = raiseI (-m).toNat z) (hjb : b = true → 0 ≤ j)
variable (hjm : -60 ≤ j ∧ j ≤ 60 ∧ (j = m ∨ m < 0 ∧ j ≤ 0)) (hin : dLow x i = dLow y j) (hst : dLow x i = ⟨x, i⟩)
include hz0 h hjb hjm hin hst
theorem Xox:sclI z m=if (b&&dOk ⟨x,i⟩)=true then some ⟨x,i⟩ else none:=by
 unfold sclI
 rw [if_neg hz0]
 cases b with
 | false=>
  rw [if_neg (by decide)] at h
  rw [← h]
  rfl
 | true=>
  have h0:=hjb rfl
  rw [if_pos rfl,show (-j).toNat=0 from by omega] at h
  rw [← h]
  have e:max m 0=j:=by omega
  rw [show (raiseI 0 y)=(y,true) from rfl,e,← hin,hst]
theorem Xr6:(b&&dOk ⟨x,i⟩)=(sclI z m).isSome:=by
 rw [Xox hz0 h hjb hjm hin hst]
 cases (b&&dOk ⟨x,i⟩)<;>rfl
theorem Xru{d:Dy}(hd:sclI z m=some d) : ⟨x,i⟩=d:=by
 rw [Xox hz0 h hjb hjm hin hst] at hd
 split at hd
 ·exact Option.some.inj hd
 ·cases hd
end
theorem AO.afZ:AO afZ:=⟨Mk.zero,.inl rfl⟩
theorem Xoh(j:Nat) : bitQ j afZ.m=false:=by
 show bitQ j ((0:Nat) : Int)=false
 rw [X1b,Nat.zero_testBit]
theorem Xbs{p:Ps}{y:Nat}{d:Int}(h:validP p=true)(hy:p.ins.toNat≤y∧y<p.ins.toNat+p.vars.toNat)(hd:-60≤p.root-d∧p.root-d≤60) : validP (rqZ p y d)=true:=by
 have hV:=VPs.of h;have hI:=hV.ins;have hvr:=hV.vars;exact Xaa (X9v h ⟨by omega,hy.1⟩ ⟨AO.afZ,Lt.zero _⟩ (Xoh y)) hd
theorem Xgr{p:Ps}{y:Nat}(h:validP p=true)(hy:p.ins.toNat≤y∧y<p.ins.toNat+p.vars.toNat)(hr:(ruR p y).1≠0)(hrt:-58≤p.root) :
  validP (outR p y)=true∧p.root-2≤(outR p y).root∧(outR p y).root≤p.root:=by
 have hV:=VPs.of h;have hI:=hV.ins;have hvars:=hV.vars;obtain ⟨_,_,_,_,_,_,hr60,_,_,_⟩:=X44 h
 have ho:outB y p.out=false:=by
  unfold ruR at hr
  cases e:outB y p.out with
  | false=>rfl
  | true=>rw [e] at hr;exact absurd rfl hr
 have hk:ruK p.ins (arF y p.ts)≠0:=by
  unfold ruR at hr
  rw [ho,if_neg (by decide)] at hr
  intro e
  rw [if_pos e] at hr
  exact hr rfl
 have hpl:=Xxf hk;have hy24:=y24 hV hy ho;have hNb:=Xhn hy24 hV.ts
 by_cases k1:ruK p.ins (arF y p.ts)=1
 ·have e:outR p y=rqZ p y 2:=by unfold outR;rw [if_pos k1]
  rw [e]
  exact ⟨Xbs h hy (by omega),Int.le_refl _,by show p.root-2≤p.root;omega⟩
 ·obtain ⟨k,hk'⟩ : ∃ k,p.vars.toNat=k+1:=⟨p.vars.toNat-1,by omega⟩
  have hzL:Lt (p.ins.toNat+k) (drI y (arF y p.ts).z):=Xma hNb.1 (by omega) fun i hi=>by
   have:=Xve hV hy ho hpl i hi
   omega
  by_cases k2:ruK p.ins (arF y p.ts)=2
  ·have e:outR p y=omR (rqZ p y 1) (if (arF y p.ts).c=2 then 1 else 7) (if (arF y p.ts).c=2 then 6 else 2) (drI y (arF y p.ts).z):=by
    unfold outR;rw [if_neg k1,if_pos k2]
   have hq:=Xbs (d:=1) h hy (by omega)
   generalize hQ:rqZ p y 1=q at *
   have hqi:q.ins=p.ins:=by rw [← hQ];rfl
   have hqv:q.vars=p.vars-1:=by rw [← hQ];rfl
   have hqr:q.root=p.root-1:=by rw [← hQ];rfl
   obtain ⟨n,v,e1,e2,hn,hN,hr9,hl,e3,ho9⟩:=X44 hq;obtain ⟨p1,p2,p3⟩:=X6z hq
   rw [e3] at p2
   have hz':Lt (n+v) (drI y (arF y p.ts).z):=by rw [show n+v=p.ins.toNat+k from by omega];exact hzL
   rw [e]
   generalize drI y (arF y p.ts).z=z at *
   generalize (if (arF y p.ts).c=2 then (1:Int) else 7)=a at *
   generalize (if (arF y p.ts).c=2 then (6:Int) else 2)=b at *
   have s0:SupN (n+v) (padd (polF q) 0 a):=SupN.fold (L:=[(0,a)]) (fun r hr=>by rw [List.mem_singleton.1 hr];exact Lt.zero _) p1 p2
   have d0:Dv (padd (polF q) 0 a):=p3.padd (X8y a)
   have hpo:PO (padd (polF q) 0 a):=p1.padd _ _
   have key:=Xbp (n:=n) (v:=v) (root:=q.root) (f:=expP (padd (polF q) 0 a) b ⟨z,0⟩ 0) (out:=q.out) hn hN hr9
    (by rw [X2f];exact PO.foldA _ hpo) (by rw [X2f];exact SupN.fold (Xal hz' (Lt.zero _)) hpo s0) (by rw [X2f];exact Dv.fold d0 (Xds hz'.1)) hl ho9
   have e5:omR q a b z=⟨(n:Int),((v:Nat) : Int),q.root,expP (padd (polF q) 0 a) b ⟨z,0⟩ 0 0,tms (expP (padd (polF q) 0 a) b ⟨z,0⟩ 0),q.out⟩:=by
    unfold omR
    rw [e1,e2];rfl
   rw [e5]
   exact ⟨key,by show p.root-2≤q.root;omega,by show q.root≤p.root;omega⟩
  ·have k3:(ruK p.ins (arF y p.ts)=3∧((arF y p.ts).c=0∨(arF y p.ts).c=4))∧0<(arF y p.ts).z/2^p.ins.toNat:=by
    revert hk k1 k2
    unfold ruK
    rw [if_neg (by rw [hpl];decide)]
    split
    ·intro _ h;exact absurd rfl h
    ·split
     ·intro _ _ h;exact absurd rfl h
     ·split
      ·rename_i h;intro _ _ _;exact ⟨⟨rfl,h.1⟩,h.2⟩
      ·intro h;exact absurd rfl h
   have e:outR p y=repP (rqZ p y 2) (vR p y) ⟨xI (drI y (arF y p.ts).z) (pw (vR p y)),(arF y p.ts).c/4⟩:=by
    unfold outR;rw [if_neg k1,if_neg k2]
   obtain ⟨l1,l2,l3,l4,l5⟩:=Xn4 hV ⟨hy.1,hy24⟩ ho k3.2
   have hvn:p.ins.toNat≤vR p y:=Nat.le_add_left _ _
   have hu:AO ⟨xI (drI y (arF y p.ts).z) (pw (vR p y)),(arF y p.ts).c/4⟩:=⟨l5.1,by rcases k3.1.2 with e|e<;>rw [e];exact .inl rfl;exact .inr rfl⟩
   have hzb:bitQ (vR p y) (drI y (arF y p.ts).z)=true:=by
    obtain ⟨z,hz,ez⟩:=hNb.1.dr (v:=y).nat;have h5:=l5.2
    rw [ez] at h5 ⊢
    unfold xI pw at h5
    rw [X17 (X0x hz) (X37 (by omega)),X1b,Nat.testBit_xor,Nat.testBit_two_pow_self] at h5
    rw [X1b]
    revert h5
    cases z.testBit (vR p y)<;>simp
   have hvk:vR p y<p.ins.toNat+k:=by
    rcases Nat.lt_or_ge (vR p y) (p.ins.toNat+k) with h'|h'
    ·exact h'
    ·obtain ⟨z,hz,ez⟩:=hzL.1.nat;have hlt:=hzL.2
     rw [ez] at hlt hzb
     rw [X1b,Nat.testBit_lt_two_pow (Nat.lt_of_lt_of_le (Int.ofNat_lt.1 hlt) (Nat.pow_le_pow_right (by decide) h'))] at hzb;cases hzb
   have hq:=Xbs (d:=2) h hy (by omega)
   have hN:(rqZ p y 2).ins+(rqZ p y 2).vars=p.ins+(p.vars-1):=rfl
   have hNn:((rqZ p y 2).ins+(rqZ p y 2).vars).toNat=p.ins.toNat+k:=by rw [hN];omega
   rw [e]
   refine ⟨X9v hq ⟨by rw [hNn];exact hvk,hvn⟩ ⟨hu,?_⟩ l5.2,Int.le_refl _,by show p.root-2≤p.root;omega⟩
   rw [hNn]
   exact hzL.xor ⟨X3m l2,Int.ofNat_lt.2 (Nat.pow_lt_pow_right (by decide) hvk)⟩
theorem Xgt{p:Ps}{q:Ps×Int}(h:validP p=true)(hs:stepP p=some q)(hrt:-58≤p.root) : validP q.1=true∧p.root-2≤q.1.root∧q.1.root≤p.root:=by
 unfold stepP firstY at hs
 cases e:(List.range p.vars.toNat).find? fun j=>(ruR p (p.ins.toNat+j)).1 != 0 with
 | none=>rw [e] at hs;cases hs
 | some j=>
  rw [e] at hs
  injection hs with hs
  subst hs
  have h1:=List.mem_range.1 (List.mem_of_find?_eq_some e);have h2:=List.find?_some e;exact Xgr h ⟨by omega,by omega⟩ (by simpa using h2) hrt
theorem Xmj{p:Ps}(h:validP p=true)(hs:(stepP p).isSome=true)(hrt:-58≤p.root) : validP ((stepP p).getD (psZ,0)).1=true∧p.root-2≤((stepP p).getD (psZ,0)).1.root∧((stepP p).getD (psZ,0)).1.root≤p.root:=by
 obtain ⟨q,e⟩:=Option.isSome_iff_exists.1 hs
 rw [e]
 exact Xgt h e hrt
theorem Xtu{c:Cx}(h1:1≤c.n∧c.n≤5)(h2:c.gs.length≤400)(h3:∀ g ∈ c.gs,gOk c.n g=true) : cOk c=true:=Xdg.2 ⟨Xt.2 h1,h2,h3⟩
theorem Xs9{c:Cx}(h:cOk c=true)(hs:(psC c).isSome=true) : validP ((psC c).getD psZ)=true∧0≤((psC c).getD psZ).root:=by
 obtain ⟨p,e⟩:=Option.isSome_iff_exists.1 hs
 rw [e]
 obtain ⟨n,hn,_⟩:=Xc9 h;exact ⟨X7k h e,by show 0≤p.root;rw [(Xbl h hn e).1];omega⟩
def cf4(s:Nat) : Int:=[0,1,2,4].getD s 0
theorem Xdo{s:Nat}(h:s≤3) : ([0,1,2,4] : List Int)[s]? = some (cf4 s):=by
 have:s=0∨s=1∨s=2∨s=3:=by omega
 rcases this with rfl|rfl|rfl|rfl<;>rfl
theorem X8d{s:Nat}(h:s≤3){x:Int}(hx:0≤x∧x≤7) : 0≤cf4 s*x∧cf4 s*x≤28:=by
 have:s=0∨s=1∨s=2∨s=3:=by omega
 rcases this with rfl|rfl|rfl|rfl
 ·show 0≤0*x∧0*x≤28;omega
 ·show 0≤1*x∧1*x≤28;omega
 ·show 0≤2*x∧2*x≤28;omega
 ·show 0≤4*x∧4*x≤28;omega
theorem Xgs{m x:Int}(h:szI m≤3) : dv m∣cf4 (szI m)*x:=by
 refine Int.dvd_trans ?_ (Int.dvd_mul_right _ _)
 unfold dv
 generalize szI m=s at *
 have:s=0∨s=1∨s=2∨s=3:=by omega
 rcases this with rfl|rfl|rfl|rfl<;>decide
theorem Xyz{j:Nat}(h:j<62) : szI ((2^j:Nat) : Int)=1:=by
 unfold szI
 rw [show (((2^j:Nat) : Int)).toNat=2^j from rfl]
 have:setN (2^j)=[j]:=by
  refine X8g (X3t _) (List.pairwise_singleton _ _) fun t=>?_
  rw [X1j (X37 h),Nat.testBit_two_pow,List.mem_singleton]
  simp [eq_comm]
 rw [this];rfl
theorem Xrx{N:Nat}{m:Int}{j i:Nat}(hm:Lt N m)(hs:szI m+(i+1)≤3)(hj:j<N)(hN:N≤24) : Lt N (oI m ((2^j:Nat) : Int))∧szI (oI m ((2^j:Nat) : Int))+i≤3:=by
 have hp:Lt N ((2^j:Nat) : Int):=⟨X3m (by omega),Int.ofNat_lt.2 (Nat.pow_lt_pow_right (by decide) hj)⟩
 have h1:=X4z hm.1 hp.1
 rw [Xyz (by omega)] at h1
 exact ⟨hm.or hp,by omega⟩
structure DrF (N:Nat) (f:Int→Int) : Prop where
 po:PO f
 sup:SupN N f
 dv:Dv f
theorem DrF.sp{N:Nat}{f:Int→Int}(h:DrF N f) : SupF f:=fun x hx=>(h.sup x hx).1
theorem DrF.padd{N:Nat}{f:Int→Int}(h:DrF N f){m k:Int}(hm:Lt N m)(hk:Proofs.YtiejkplemjkjoaaGreat.dv m∣k) : DrF N (padd f m k):=
 ⟨h.po.padd _ _,SupN.fold (L:=[(m,k)]) (fun r hr=>by rw [List.mem_singleton.1 hr];exact hm) h.po h.sup,h.dv.padd hk⟩
theorem DrF.of{p:Ps}(h:validP p=true) : DrF (p.ins+p.vars).toNat (polF p):=⟨(X6z h).1,(X6z h).2.1,(X6z h).2.2⟩
theorem DrF.valid{p:Ps}{f:Int→Int}(h:validP p=true)(hf:DrF (p.ins+p.vars).toNat f) : validP ⟨p.ins,p.vars,p.root,f 0,tms f,p.out⟩=true:=by
 obtain ⟨n,v,e1,e2,hn,hN,hr9,hl,e3,ho9⟩:=X44 h
 rw [e3] at hf
 have:=Xbp (root:=p.root) hn hN hr9 hf.po hf.sup hf.dv hl ho9
 rw [← e1,← e2] at this
 exact this
theorem Xyk{c:Cx}{n most:Int}(h:c.n=n∧(c.gs.length:Int)≤most∧∀ g ∈ c.gs,gOk n g=true)(hn:1≤n∧n≤5)(hm:most≤400) : cOk c=true:=by
 obtain ⟨h1,h2,h3⟩:=h
 subst h1
 exact Xtu hn (by omega) h3
abbrev BdPs(p:Ps) : Prop:=(∀ u ∈ p.ts,Mk u.m)∧(-1000≤p.ins∧p.ins≤1000)∧(-1000≤p.vars∧p.vars≤1000)∧p.ts.length≤100000000∧p.out.length≤100000000
theorem BdPs.of{p:Ps}(h:validP p=true) : BdPs p∧p.ts.length≤50000000∧p.out.length≤5:=by
 have hV:=VPs.of h;have hR:=VPr.of h;have hI:=hV.ins;have hv:=hV.vars;have hl:=hR.len;have ho:=hR.out;exact ⟨⟨hV.ts.mks,by omega,by omega,by omega,by omega⟩,by omega,by omega⟩
theorem X5q{l:List Tm}{m c:Int}(h:∀ u ∈ l,Mk u.m)(hm:0≤m∧(m=0∨m<200)) : ∀ u ∈ l++[(⟨m,c⟩ : Tm)],Mk u.m:=fun u hu=>by
 rcases List.mem_append.1 hu with hu|hu
 ·exact h u hu
 ·rw [List.mem_singleton.1 hu]
  exact ⟨hm.1,by show m<16777216;omega⟩
theorem Xp7(p:Ps) : ((opPs p).getD mZ).cells.length≤1024:=by
 cases h:opPs p with
 | none=>exact Nat.zero_le _
 | some M=>
  obtain ⟨N,hN,_,_,_,_,_,l⟩:=Xf1 h
  show M.cells.length≤1024
  rw [l]
  have:2^N≤2^5:=Nat.pow_le_pow_right (by decide) hN
  exact Nat.mul_le_mul this this
theorem Y0x{n k:Int}(hn:1≤n∧n≤5)(hk:k=12) : gOk n ⟨k,0,0⟩=true:=by
 subst hk
 simp only [gOk,Bool.and_eq_true,Xt]
 exact ⟨⟨hn,by omega⟩,rfl⟩
theorem Y1m{n:Int}(hn:1≤n∧n≤5) : gOk n ⟨1,0,0⟩=true:=by
 simp only [gOk,Bool.and_eq_true,Xt]
 refine ⟨⟨hn,by omega⟩,?_⟩
 rw [if_neg (by decide),if_neg (by decide)]
 simp only [Bool.and_eq_true,Xt]
 exact ⟨by omega,rfl⟩
theorem Y14{n k a:Int}(hn:1≤n∧n≤5)(hk:1≤k∧k≤12)(h12:¬ k=12)(h9:inR k 9 11=false)(ha:0≤a∧(a=0∨a<n)) : gOk n ⟨k,a,0⟩=true:=by
 simp only [gOk,Bool.and_eq_true,Xt]
 refine ⟨⟨hn,hk⟩,?_⟩
 rw [if_neg h12,if_neg (fun h=>by rw [← Xt,h9] at h;cases h)]
 simp only [Bool.and_eq_true,Xt]
 exact ⟨by omega,rfl⟩
theorem Y11{n k a b:Int}(hn:1≤n∧n≤5)(hk:1≤k∧k≤12)(h12:¬ k=12)(h9:inR k 9 11=true)(h1:¬ n=1)(ha:0≤a∧(a=0∨a<n))(hb:0≤b∧(b=0∨b<n-1)) : gOk n ⟨k,a,(a+1+b).tmod n⟩=true:=by
 have e:(a+1+b).tmod n=if a+1+b<n then a+1+b else a+1+b-n:=by
  rw [Int.tmod_eq_emod_of_nonneg (by omega)]
  split
  ·exact Int.emod_eq_of_lt (by omega) (by omega)
  ·rw [← Int.sub_emod_right]
   exact Int.emod_eq_of_lt (by omega) (by omega)
 simp only [gOk,Bool.and_eq_true,Xt]
 refine ⟨⟨hn,hk⟩,?_⟩
 rw [if_neg h12,if_pos (Xt.1 h9)]
 simp only [Bool.and_eq_true,Xt,bne_iff_ne,ne_eq]
 rw [e]
 split<;>omega
theorem Xkg{n:Int}{l:List Gt}{g:Gt}(h:∀ x ∈ l,gOk n x=true)(hg:gOk n g=true) : ∀ x ∈ l++[g],gOk n x=true:=fun x hx=>by
 rcases List.mem_append.1 hx with hx|hx
 ·exact h x hx
 ·rw [List.mem_singleton.1 hx];exact hg
def AllG(n:Int)(l:List Gt) : Prop:=∀ x ∈ l,gOk n x=true
theorem AllG.nil(n:Int) : AllG n []:=fun x hx=>by cases hx
theorem AllG.one{n:Int}{g:Gt}(h:gOk n g=true) : AllG n [g]:=fun x hx=>by rw [List.mem_singleton.1 hx];exact h
theorem AllG.cons{n:Int}{g:Gt}{l:List Gt}(h:gOk n g=true)(hl:AllG n l) : AllG n (g::l):=fun x hx=>by
 rcases List.mem_cons.1 hx with rfl|hx
 ·exact h
 ·exact hl x hx
theorem AllG.app{n:Int}{l m:List Gt}(hl:AllG n l)(hm:AllG n m) : AllG n (l++m):=fun x hx=>by
 rcases List.mem_append.1 hx with hx|hx
 ·exact hl x hx
 ·exact hm x hx
theorem AllG.take{n:Int}{l:List Gt}(hl:AllG n l)(k:Nat) : AllG n (l.take k):=fun x hx=>hl x (List.mem_of_mem_take hx)
theorem AllG.drop{n:Int}{l:List Gt}(hl:AllG n l)(k:Nat) : AllG n (l.drop k):=fun x hx=>hl x (List.mem_of_mem_drop hx)
theorem Xzd(w0:World)(bV:Nat){b6:TypeId}(J:Option Addr)(N:Nat)(q:List Int)(b:Rd w0 w0.heap.size b6 encU J q)(aC:∀ x ∈ q,0≤x∧x≤255)(Q:AwayR q J bV)(t:Nat)(sd:Int)(c:Blk w0 bV 51 [.slice J q.length N,vi (t:Int),.int .u64 sd])(n:Int)(Al:Option Addr)(cl:Nat)(l:List Int)(A:Rd w0 w0.heap.size 3 encI Al l)(hn:1≤n∧n≤5)(aH:∀ k ∈ l,1≤k∧k≤12)(bH:0<l.length)(bJ:l.length≤1000)(ht:t+6≤100000000) : Ret Tryz.prog 104 [.pointer (some ⟨bV,0,none⟩),vi n,.slice Al l.length cl] w0 (fun v w=>∃ (x:Gt) (t1:Nat) (s1:Int),v=gV x∧(gOk n x=true)∧(t≤t1∧t1≤t+6)∧Kept bV w0.heap.size w0 w∧Blk w bV 51 [.slice J q.length N,vi (t1:Int),.int .u64 s1]):=by
 have bG:=c.lt;refine enter Tryz.func104 rfl 42 rfl rfl ?_;intro a o
 have i:Kept bV w0.heap.size w0 w0:=Kept.refl _ _ _
 refine Zs o fun _ b7=>?_;refine Zf (X6 (zs:=[vi 0,vi 0,vi 0]) Xb9 rfl) ?_;rintro _ w1 ⟨b4,rfl,aI,p,d⟩;have L:=Nat.le_trans i.size aI;have b2:=b.away aI;have c:=c.below p;have b:=b.below p;have A:=A.below p;have i:=ktr i p;refine Zx b7 fun a o _ b9=>?_;refine Zm rfl<|Zm rfl<|Zm rfl<|Ze (X1f rfl X0f)<|Zf (Vc (X1x _ bV J N q b.top aC Q t sd c (l.length:Int) (by omega)) X10) ?_;rintro _ w2 ⟨f,aJ,aK,rfl,bC,bD,hK,B⟩;obtain ⟨wm,I,hm,p⟩:=hK.mid;clear hm;have e:=c;have d:=d.only I (Blk.ne d e rfl);have b:=b.onlyA I Q;have A:=A.onlyT I e rfl;have i:=i.self I;have d:=d.below p;have b:=b.below p;have A:=A.below p;have i:=ktr i p
 clear e p I hK;have c:=B;clear B;refine Zi (k:=f.toNat) (u:=(l.getD f.toNat 0)) (enc:=encI) (l:=l) trivial rfl rfl X0f X12 X0h A (X8u (by omega)) (by omega) ?_;intro p7 aL;refine Ze (X0 rfl X2 aL)<|Ze (Xk (ps:=[(0,vi (l.getD f.toNat 0))]) (cs:=[vi (l.getD f.toNat 0),vi 0,vi 0]) rfl (fun _=>by first|rfl|kernel_rfl))<|Zf (X6 (zs:=[vi 0,vi 0,vi 0]) Xb9 rfl) ?_;rintro _ w3 ⟨b8,rfl,aM,p,g⟩
 have b3:b4≠b8:=by have:=d.lt;omega
 have C:=Nat.le_trans i.size aM;have b5:=b.away aM;have c:=c.below p;have d:=d.below p;have b:=b.below p;have i:=ktr i p;refine Zo (Vw [vi (l.getD f.toNat 0),vi 0,vi 0] X2q g) ?_;rintro _ w4 ⟨y,M⟩;have e:=g;have c:=c.only y (Blk.ne c e rfl);have d:=d.only y (by omega);have b:=b.only y C;have i:=Kept.only i y C;have g:=M;refine ZX b9 fun a o _ bE=>?_;refine Zs o fun _ aN=>?_;refine Ze (Vd rfl X1i 0)<|Ze (X0 rfl X2 (g.at 0))<|Ze (X0l rfl rfl)<|Zt aN fun a o=>?_
 refine Xg o rfl (fun D=>?_) (fun D=>?_)
 ·have aD:=D
  have aA:l.getD f.toNat 0=12:=by have:=D;simpa using this
  refine Zs o fun _ aO=>?_;refine Ze (Vn X23 g)<|Zo (Vw [vi (l.getD f.toNat 0),vi 0,vi 0] X2q d) ?_;rintro _ w5 ⟨y,M⟩;have e:=d;have c:=c.only y (Blk.ne c e rfl);have i:=Kept.only i y L;have d:=M;refine Zt aO fun a o=>?_;refine wp_ret<|X7<|X3 o (Xz o rfl (ResV.cellN (l:=[vi (l.getD f.toNat 0),vi 0,vi 0]) rfl X23 (d.at 0) rfl)) ?_;exact ⟨⟨_,_,_⟩,_,_,rfl,Y0x hn aA,⟨by omega,by omega⟩,i,c⟩
 have aD:=D
 have aA:¬ l.getD f.toNat 0=12:=by have:=D;simpa using this
 have aP:=aH (l.getD f.toNat 0) (Xcl (by omega))
 refine wp_skip<|bE _ _<|Zs o fun _ aQ=>?_;refine Zm rfl<|Zm rfl<|Zf (Vc (X1x _ bV J N q b.top aC Q aJ aK c n (by omega)) X10) ?_;rintro _ w6 ⟨m,aR,aS,rfl,U,bF,hK,B⟩;obtain ⟨wm,I,hm,p⟩:=hK.mid;clear hm;have e:=c;have d:=d.only I (Blk.ne d e rfl);have g:=g.only I (Blk.ne g e rfl);have b:=b.onlyA I Q;have i:=i.self I;have d:=d.below p;have g:=g.below p;have b:=b.below p;have i:=ktr i p
 clear e p I hK;have c:=B;clear B;refine Ze (Vd rfl X11 1)<|Zo (Vu (vs:=[vi m]) (l':=[vi (l.getD f.toNat 0),vi m,vi 0]) rfl rfl X12 g) ?_;rintro _ w7 ⟨y,M⟩;have e:=g;have c:=c.only y (Blk.ne c e rfl);have d:=d.only y (by omega);have b:=b.only y C;have i:=Kept.only i y C;have g:=M;refine ZX aQ fun a o _ aB=>?_;refine Zs o fun _ aT=>?_;refine Ze (Vd rfl X1i 0)<|Ze (X0 rfl X2 (g.at 0))<|Zf (Vc (F85 _ (l.getD f.toNat 0) 9 11) X3f) ?_;rintro _ _ ⟨rfl,rfl⟩;refine Zt aT fun a o=>?_
 refine Xg o rfl (fun E=>?_) (fun E=>?_)
 ·have aE:=E
  have h9:inR (l.getD f.toNat 0) 9 11=true:=E
  refine wp_seq_k fun _ aU=>?_;refine Zs o fun _ aW=>?_;refine Zm rfl<|Ze (X0l rfl rfl)<|Zt aW fun a o=>?_
  refine Xg o rfl (fun G=>?_) (fun G=>?_)
  ·have aF:=G
   have h1:n=1:=by have:=G;simpa using this
   refine Zs o fun _ aX=>?_;refine Ze (Xk (ps:=[(0,vi 1)]) (cs:=[vi 1,vi 0,vi 0]) rfl (fun _=>by first|rfl|kernel_rfl))<|Zo (Vw [vi 1,vi 0,vi 0] X2q d) ?_;rintro _ w8 ⟨y,M⟩;have e:=d;have c:=c.only y (Blk.ne c e rfl);have i:=Kept.only i y L;have d:=M;refine Zt aX fun a o=>?_;refine wp_ret<|X7<|X7<|X3 o (Xz o rfl (ResV.cellN (l:=[vi 1,vi 0,vi 0]) rfl X23 (d.at 0) rfl)) ?_;exact ⟨⟨_,_,_⟩,_,_,rfl,Y1m hn,⟨by omega,by omega⟩,i,c⟩
  have aF:=G
  have h1:¬ n=1:=by have:=G;simpa using this
  refine wp_skip<|aU _ _<|Xq (some bV) (fun j=>[11].contains j) mixed ?_;intro w9 p;have c:=c.below p;have d:=d.below p;have g:=g.below p;have b:=b.below p;have i:=ktr i p;refine Yb o<|Yo 0 rfl (fun _=>Vd rfl X11 1) ?_;refine Yw 1 rfl trivial (fun w1 h1=>X0 rfl X2 ((g.only h1 (Blk.ne g c rfl)).at 1)) ?_;refine Yo 2 rfl (fun _=>Xu rfl rfl (by omega) (by omega))<|Yo 3 rfl (fun _=>X4 rfl)<|Yo 4 rfl (fun _=>X4 rfl)<|Yo 5 rfl (fun _=>X15 rfl rfl (by omega) (by omega))<|Yo 8 rfl (fun _=>X4 rfl) ?_;refine Y1 6<|Yf rfl trivial (EfW.mono (Vc (X1x _ bV J N q b.top aC Q aR aS c (n-1) (by omega)) X10) (fun _ _ h=>⟨fun _=>by obtain ⟨H,aY,aZ,rfl,W,aG,hK,B⟩:=h;exact hK.keep,h⟩)) ?_;rintro _ bK ⟨H,aY,aZ,rfl,W,aG,hK,B⟩;obtain ⟨wm,I,hm,p⟩:=hK.mid;clear hm;have e:=c;have d:=d.only I (Blk.ne d e rfl);have g:=g.only I (Blk.ne g e rfl);have i:=i.self I;have d:=d.below p;have g:=g.below p;have i:=ktr i p
  clear e p I hK;have c:=B;clear B;refine Yo 7 rfl (fun _=>Xu rfl rfl (by omega) (by omega))<|Yo 9 rfl (fun _=>X5v rfl rfl (by simp;omega))<|Yo 10 rfl (fun _=>Vd rfl X1d 2)<|Y1 11 ?_;refine Yh rfl trivial rfl (Vu (vs:=[vi (((m+1)+H).tmod n)]) (l':=[vi (l.getD f.toNat 0),vi m,vi (((m+1)+H).tmod n)]) rfl rfl X12 g) ?_;rintro _ bL ⟨y,M⟩;have e:=g;have c:=c.only y (Blk.ne c e rfl);have d:=d.only y (by omega);have i:=Kept.only i y C;have g:=M;refine Yd fun a o=>?_;refine aB _ _<|Zs o fun _ b0=>?_;refine Ze (Vn X23 g)<|Zo (Vw [vi (l.getD f.toNat 0),vi m,vi (((m+1)+H).tmod n)] X2q d) ?_;rintro _ bN ⟨y,M⟩;have e:=d;have c:=c.only y (Blk.ne c e rfl);have i:=Kept.only i y L;have d:=M;refine Zt b0 fun a o=>?_
  refine wp_ret (X3 o (Xz o rfl (ResV.cellN (l:=[vi (l.getD f.toNat 0),vi m,vi (((m+1)+H).tmod n)]) rfl X23 (d.at 0) rfl)) ?_)
  exact ⟨⟨_,_,_⟩,_,_,rfl,Y11 hn aP aA h9 h1 U W,⟨by omega,by omega⟩,i,c⟩
 have aE:=E
 have h9:inR (l.getD f.toNat 0) 9 11=false:=E
 refine wp_skip<|aB _ _<|Zs o fun _ b1=>?_;refine Ze (Vn X23 g)<|Zo (Vw [vi (l.getD f.toNat 0),vi m,vi 0] X2q d) ?_;rintro _ bO ⟨y,M⟩;have e:=d;have c:=c.only y (Blk.ne c e rfl);have i:=Kept.only i y L;have d:=M;refine Zt b1 fun a o=>?_
 refine wp_ret (X3 o (Xz o rfl (ResV.cellN (l:=[vi (l.getD f.toNat 0),vi m,vi 0]) rfl X23 (d.at 0) rfl)) ?_)
 exact ⟨⟨_,_,_⟩,_,_,rfl,Y14 hn aP aA h9 U,⟨by omega,by omega⟩,i,c⟩
theorem Xtt(w0:World)(bV:Nat){aM:TypeId}(H:Option Addr)(W:Nat)(C:List Int)(d:Rd w0 w0.heap.size aM encU H C)(aN:∀ x ∈ C,0≤x∧x≤255)(aE:AwayR C H bV)(t:Nat)(sd:Int)(i:Blk w0 bV 51 [.slice H C.length W,vi (t:Int),.int .u64 sd])(n:Int)(most:Int)(Al:Option Addr)(cl:Nat)(l:List Int)(f:Rd w0 w0.heap.size 3 encI Al l)(hn:1≤n∧n≤5)(aO:∀ k ∈ l,1≤k∧k≤12)(hm:0≤most∧most≤1000)(bC:0<l.length)(bD:l.length≤1000)(ht:t+(2+6*most.toNat)≤100000000) : Ret Tryz.prog 80 [.pointer (some ⟨bV,0,none⟩),vi n,vi most,.slice Al l.length cl] w0 (fun v w=>∃ (c:Cx) (A:Option Addr) (e:Nat) (t1:Nat) (s1:Int),v=.agg #[vi c.n,.slice A c.gs.length e]∧(c.n=n∧(c.gs.length:Int)≤most∧∀ g ∈ c.gs,gOk n g=true)∧(t≤t1∧t1≤t+(2+6*most.toNat))∧Own w w0.heap.size 55 3 encG A e c.gs∧Kept bV w0.heap.size w0 w∧Blk w bV 51 [.slice H C.length W,vi (t1:Int),.int .u64 s1]):=by
 have bK:=i.lt;refine enter Tryz.func80 rfl 31 rfl rfl ?_;intro a G
 have B:Kept bV w0.heap.size w0 w0:=Kept.refl _ _ _
 refine Zs G fun _ bE=>?_;refine Zf (X6 (zs:=[vi 0,.slice none 0 0]) Xah rfl) ?_;rintro _ w1 ⟨b5,rfl,aP,u,o⟩;have aQ:=Nat.le_trans B.size aP;have b6:=d.away aP;have i:=i.below u;have d:=d.below u;have f:=f.below u;have B:=ktr B u;refine Zx bE fun a G _ bF=>?_;refine Zm rfl<|Ze (Xk (ps:=[(0,vi n)]) (cs:=[vi n,.slice none 0 0]) rfl (fun _=>by first|rfl|kernel_rfl))<|Zf (X6 (zs:=[vi 0,.slice none 0 0]) Xah rfl) ?_;rintro _ w2 ⟨b9,rfl,aR,u,p⟩
 have b7:b5≠b9:=by have:=o.lt;omega
 have J:=Nat.le_trans B.size aR;have b8:=d.away aR;have i:=i.below u;have o:=o.below u;have d:=d.below u;have f:=f.below u;have B:=ktr B u;refine Zo (Vw [vi n,.slice none 0 0] X45 p) ?_;rintro _ w3 ⟨I,hb⟩;have m:=p;have i:=i.only I (Blk.ne i m rfl);have o:=o.only I (by omega);have d:=d.only I J;have f:=f.onlyT I m rfl;have B:=Kept.only B I J;have p:=hb;refine ZX bF fun a G _ aS=>?_;refine Zs G fun _ aT=>?_;refine Zm rfl<|Zm rfl<|Ze (Xu rfl rfl (by omega) (by omega))<|Zf (Vc (X1x _ bV H W C d.top aN aE t sd i (most+1) (by omega)) X10) ?_;rintro _ w4 ⟨aU,aW,aX,rfl,bG,bH,hK,M⟩;obtain ⟨wm,L,hm,u⟩:=hK.mid;clear hm;have m:=i;have o:=o.only L (Blk.ne o m rfl);have p:=p.only L (Blk.ne p m rfl);have d:=d.onlyA L aE;have f:=f.onlyT L m rfl;have B:=B.self L;have o:=o.below u;have p:=p.below u;have d:=d.below u;have f:=f.below u;have B:=ktr B u
 clear m u L hK;have i:=M;clear M;refine Za rfl<|Zt aT fun a G=>?_;refine wp_block<|X06 (σ:=Int×(List Gt)×Nat×Int) (fun (s:Int×(List Gt)×Nat×Int) (a:Act) (w:World)=>match s with|(j,gs,t2,s2)=>∃ N Q,Fr a 31 [(0,.pointer (some ⟨bV,0,none⟩)),(1,vi n),(3,.slice Al l.length cl),(8,.pointer (some ⟨b5,0,none⟩)),(9,.pointer (some ⟨b9,0,none⟩)),(10,vi j)]∧(0≤j∧j+gs.length≤most)∧(t≤t2∧t2+6*j.toNat≤t+(2+6*most.toNat))∧(∀ g ∈ gs,gOk n g=true)∧Blk w bV 51 [.slice H C.length W,vi (t2:Int),.int .u64 s2]∧Blk w b5 25 [vi 0,.slice none 0 0]∧Blk w b9 25 [vi n,.slice N gs.length Q]∧Rd w w0.heap.size aM encU H C∧Rd w w0.heap.size 3 encI Al l∧Own w w0.heap.size 55 3 encG N Q gs∧Kept bV w0.heap.size w0 w) (fun (s:Int×(List Gt)×Nat×Int)=>match s with|(j,gs,t2,s2)=>j.toNat) (aU,[],aW,aX) ?_ ?_
 ·exact ⟨none,0,G.sb,(by simp;omega),(by omega),(by simp),i,o,p,d,f,(Own.nil _ _ _ _ _),B⟩
 rintro ⟨j,gs,t2,s2⟩ a w5 ⟨N,Q,G,hj,bL,aY,i,o,p,d,f,q,B⟩;refine wp_seq_k fun _ aZ=>?_;refine Zs G fun _ b0=>?_;refine Zm rfl<|Ze (X42 rfl rfl)<|Zt b0 fun a G=>?_
 refine Xg G rfl (fun D=>?_) (fun D=>?_)
 ·have aH:=D;have D:=of_decide_eq_true D;refine wp_skip<|aZ _ _<|wp_seq_k fun _ b1=>?_;refine wp_block<|Xq (some bV) (fun j=>[7,9].contains j) mixed ?_;intro w6 u;have i:=i.below u;have o:=o.below u;have p:=p.below u;have d:=d.below u;have f:=f.below u;have q:=q.below u;have B:=ktr B u;refine Yb G<|Yo 0 rfl (fun _=>Vd rfl X2d 1) ?_;refine Yw 1 rfl trivial (fun w1 h1=>X0 rfl X66 ((p.only h1 (Blk.ne p i rfl)).at 1)) ?_;refine Yo 2 rfl (fun _=>X4 rfl)<|Yo 3 rfl (fun _=>X4 rfl)<|Yo 4 rfl (fun _=>X4 rfl)<|Y1 5 ?_;refine Yf rfl trivial (EfW.mono (X91 (vs:=[.pointer (some ⟨bV,0,none⟩),vi n,.slice Al l.length cl]) rfl Xil (Xzd _ bV H W C d.top aN aE t2 s2 i n Al cl l f.top hn aO bC bD (by omega))) (fun _ _ h=>⟨fun _=>by obtain ⟨y,aF,aG,rfl,aA,aI,hK,M⟩:=h;exact hK.keep,h⟩)) ?_;rintro _ w7 ⟨y,aF,aG,rfl,aA,aI,hK,M⟩;obtain ⟨wm,L,hm,u⟩:=hK.mid;clear hm;have m:=i;have o:=o.only L (Blk.ne o m rfl);have p:=p.only L (Blk.ne p m rfl);have d:=d.onlyA L aE;have f:=f.onlyT L m rfl;have q:=q.onlyT L m rfl;have B:=B.self L;have o:=o.below u;have p:=p.below u;have d:=d.below u;have f:=f.below u;have q:=q.below u;have B:=ktr B u
  clear m u L hK;have i:=M;clear M;refine Y1 6<|Yf rfl trivial (EfW.mono (Xb (k:=1) (vs:=[.agg #[vi y.k,vi y.a,vi y.b]]) (zs:=[vi y.k,vi y.a,vi y.b]) rfl X3c X4w rfl rfl) (fun _ _ h=>⟨fun _=>by obtain ⟨_,_,_,u,_⟩:=h;exact Keep.of_below u,h⟩)) ?_;rintro _ w8 ⟨bN,rfl,aB,u,aC⟩;have bJ:=Nat.le_trans B.size aB;have b2:=d.away aB;have U:=q.away aB;have i:=i.below u;have o:=o.below u;have p:=p.below u;have d:=d.below u;have f:=f.below u;have q:=q.below u;have B:=ktr B u;refine Y1 7<|Yt rfl trivial rfl (X1e (enc:=encG) (l:=(gs)) (l2:=([y])) (B0:=w0.heap.size) rfl rfl X3c X4w X3n X8k q (Rd.of_blk aC rfl _ aC.lt) (by simp only [maxLen];simp;omega) (by simp;omega) B.size) ?_;rintro _ w9 ⟨aJ,aK,rfl,aD,hg,b3⟩
  have E:Own _ w0.heap.size 55 3 encG _ _ (gs):=q
  have aL:=b3 _ aC.lt U;clear b3;have i:=i.appT E hg rfl;have o:=o.appT E hg rfl;have p:=p.appT E hg rfl;have d:=d.appB E hg (Nat.le_refl _);have f:=f.appT E hg rfl;have B:=Kept.app B E hg (Nat.le_refl _) B.size;clear E hg;refine Yo 8 rfl (fun _=>Vd rfl X2d 1)<|Y1 9 ?_;refine Yh rfl trivial rfl (Vu (vs:=[.slice aJ (gs++([y])).length aK]) (l':=[vi n,.slice aJ (gs++([y])).length aK]) rfl rfl Xhx p) ?_;rintro _ bO ⟨I,hb⟩;have m:=p;have i:=i.only I (Blk.ne i m rfl);have o:=o.only I (by omega);have d:=d.only I J;have f:=f.onlyT I m rfl;have aD:=aD.onlyT I m rfl;have B:=Kept.only B I J;have p:=hb;refine Yd fun a G=>?_;refine Xa<|b1 _ _<|Zr G<|Zm rfl<|Ze (X15 rfl rfl (by omega) (by omega))<|Za rfl ?_;refine Zn fun a G=>?_;refine Xd ?_;exact ⟨(j-1,gs++[y],aF,aG),⟨aJ,aK,G.sb,(by simp;omega),(by omega),(Xkg aY aA),i,o,p,d,f,aD,B⟩,(by first|omega|(dsimp only;omega))⟩
 have aH:=D;have D:=of_decide_eq_false D;refine wp_exit<|Xi<|Xi<|X03 ?_;refine aS _ _<|Zs G fun _ b4=>?_;refine Ze (Vn X2r p)<|Zo (Vw [vi n,.slice N gs.length Q] X45 o) ?_;rintro _ bP ⟨I,hb⟩;have m:=o;have i:=i.only I (Blk.ne i m rfl);have q:=q.onlyT I m rfl;have B:=Kept.only B I aQ;have o:=hb;refine Zt b4 fun a G=>?_
 refine wp_ret (X3 G (Xz G rfl (ResV.cellN (l:=[vi n,.slice N gs.length Q]) rfl X2r (o.at 0) rfl)) ?_)
 exact ⟨⟨n,gs⟩,N,Q,_,_,rfl,⟨rfl,(by show (gs.length:Int)≤most;omega),aY⟩,⟨by omega,by omega⟩,q,B,i⟩
theorem Xyt(w0:World)(bV:Nat){aP:TypeId}(u:Option Addr)(h:Nat)(j:List Int)(b:Rd w0 w0.heap.size aP encU u j)(aD:∀ x ∈ j,0≤x∧x≤255)(aA:AwayR j u bV)(t:Nat)(sd:Int)(f:Blk w0 bV 51 [.slice u j.length h,vi (t:Int),.int .u64 sd])(ht:t+52≤100000000) : Ret Tryz.prog 46 [.pointer (some ⟨bV,0,none⟩)] w0 (fun v w=>∃ (c:Cx) (A:Option Addr) (e:Nat) (t1:Nat) (s1:Int),v=.agg #[vi c.n,.slice A c.gs.length e]∧((1≤c.n∧c.n≤3)∧c.gs.length≤8∧∀ g ∈ c.gs,gOk c.n g=true)∧(t≤t1∧t1≤t+52)∧Own w w0.heap.size 55 3 encG A e c.gs∧Kept bV w0.heap.size w0 w∧Blk w bV 51 [.slice u j.length h,vi (t1:Int),.int .u64 s1]):=by
 have aU:=f.lt;refine enter Tryz.func46 rfl 9 rfl rfl ?_;intro a hf
 have o:Kept bV w0.heap.size w0 w0:=Kept.refl _ _ _
 refine Zs hf fun _ aQ=>?_;refine Zf (X6 (zs:=[vi 0,.slice none 0 0]) Xah rfl) ?_;rintro _ w1 ⟨b4,rfl,aE,m,d⟩;have aF:=Nat.le_trans o.size aE;have aL:=b.away aE;have f:=f.below m;have b:=b.below m;have o:=ktr o m;refine Zx aQ fun a hf _ aR=>?_;refine Zm rfl<|Zm rfl<|Zf (Xb (k:=4) (vs:=[vi 1,vi 2,vi 2,vi 3]) (zs:=[vi 1,vi 2,vi 2,vi 3]) rfl X0f X2m rfl rfl) ?_;rintro _ w2 ⟨b6,rfl,aG,m,p⟩;have aW:=Nat.le_trans o.size aG;have aM:=b.away aG;have f:=f.below m;have d:=d.below m;have b:=b.below m;have o:=ktr o m;refine Zf (Vc (X8i _ bV u h j b.top aD aA t sd f (some ⟨b6,0,none⟩) 4 ([1,2,2,3]) (Rd.of_blk p rfl _ p.lt) (by simp) (by simp) (by omega)) X49) ?_;rintro _ w3 ⟨aH,aS,aT,rfl,D,aX,hK,y⟩;obtain ⟨wm,B,hm,m⟩:=hK.mid;clear hm;have i:=f;have d:=d.only B (Blk.ne d i rfl);have p:=p.only B (Blk.ne p i rfl);have b:=b.onlyA B aA;have o:=o.self B;have d:=d.below m;have p:=p.below m;have b:=b.below m;have o:=ktr o m
 clear i m B hK;have f:=y;clear y;refine Zf (Xb (k:=15) (vs:=[vi 1,vi 2,vi 3,vi 4,vi 5,vi 6,vi 7,vi 8,vi 9,vi 9,vi 10,vi 11,vi 12,vi 7,vi 1]) (zs:=[vi 1,vi 2,vi 3,vi 4,vi 5,vi 6,vi 7,vi 8,vi 9,vi 9,vi 10,vi 11,vi 12,vi 7,vi 1]) rfl X0f X2m rfl rfl) ?_;rintro _ w4 ⟨b8,rfl,aI,m,aJ⟩
 have aN:b6≠b8:=by have:=p.lt;omega
 have aY:=Nat.le_trans o.size aI;have aO:=b.away aI;have f:=f.below m;have d:=d.below m;have b:=b.below m;have o:=ktr o m;refine Zf (X91 (vs:=[.pointer (some ⟨bV,0,none⟩),vi aH,vi 8,.slice (some ⟨b8,0,none⟩) ([1,2,3,4,5,6,7,8,9,9,10,11,12,7,1]).length 15]) rfl Xei (Xtt _ bV u h j b.top aD aA aS aT f aH 8 (some ⟨b8,0,none⟩) 15 ([1,2,3,4,5,6,7,8,9,9,10,11,12,7,1]) (Rd.of_blk aJ rfl _ aJ.lt) (by simp at D;omega) (by decide) (by omega) (by simp) (by simp) (by omega))) ?_;rintro _ w5 ⟨C,aB,aC,b0,b1,rfl,E,aZ,q,hK,y⟩;have aK:=o.size;obtain ⟨wm,B,hm,m⟩:=hK.mid;clear hm;have i:=f;have d:=d.only B (Blk.ne d i rfl);have o:=o.self B;have d:=d.below m;have o:=ktr o m
 clear i m B hK;have f:=y;clear y
 have q:=q.lower aK;clear aK;refine Zo (Vw [vi C.n,.slice aB C.gs.length aC] X45 d) ?_;rintro _ w6 ⟨ho,hb⟩;have i:=d;have f:=f.only ho (Blk.ne f i rfl);have q:=q.onlyT ho i rfl;have o:=Kept.only o ho aF;have d:=hb;refine Zt aR fun a hf=>?_
 refine wp_ret (X3 hf (Xz hf rfl (ResV.cellN (l:=[vi C.n,.slice aB C.gs.length aC]) rfl X2r (d.at 0) rfl)) ?_)
 exact ⟨_,aB,aC,_,_,rfl,⟨(by simp at D;omega),(by omega),(by rw [E.1];exact E.2.2)⟩,⟨by omega,by omega⟩,q,o,f⟩
theorem Y0m(w0:World)(m:Int)(hm:Mk m) : Ret Tryz.prog 70 [vi m] w0 (fun v w=>v=vi ((szI m % 2:Nat) : Int)∧w0=w):=by
 have aC:=hm.1;have aD:=hm.2;refine enter Tryz.func70 rfl 7 rfl rfl ?_;intro a hf
 have hW:=bz w0
 refine Zs hf fun _ aA=>?_;refine Za rfl<|Zx aA fun a hf _ aB=>?_;refine Zm rfl<|Ze (X2u (m:=m.toNat) Tryz.underlying3 Tryz.underlying67 rfl (by omega) (by omega))<|Zf (Vc (Xts _ m.toNat (by omega)) Xjq) ?_;rintro _ _ ⟨rfl,rfl⟩;refine Ze (Vx (X5v rfl rfl rfl) (show _=((szI m % 2:Nat) : Int) from (by rw [Xly (show m.toNat<2^24 by omega)];rfl)))<|Za rfl<|Zt aB fun a hf=>?_
 refine wp_ret (X3 hf (Xz hf rfl rfl) ?_)
 exact ⟨rfl,rfl⟩
theorem Y09(A:World)(p:Ps)(Ap:Option Addr)(cp:Nat)(E:Rd A A.heap.size 76 encT Ap p.ts)(Bp:Option Addr)(dp:Nat)(G:Rd A A.heap.size 34 encA Bp p.out)(x:Nat)(aA:validP p=true)(hx:x<1024) : Ret Tryz.prog 38 [.agg #[vi p.ins,vi p.vars,vi p.root,vi p.phase,.slice Ap p.ts.length cp,.slice Bp p.out.length dp],vi (x:Int)] A (fun v w=>v=.tuple #[vi ((rowP p x:Nat) : Int),vi (powP p x % 8)]∧Below A.heap.size A w):=by
 have hV:=VPs.of aA;have hR:=VPr.of aA;have bH:=hV.ph;have bJ:=hR.len;obtain ⟨n,v9,b0,bK,bL,bF,bN,bO,bP,bR⟩:=X44 aA;refine enter Tryz.func38 rfl 55 rfl rfl ?_;intro a b
 have f:=bz A
 refine Zs b fun _ b1=>?_;refine Zf (X14 (zs:=[vi p.ins,vi p.vars,vi p.root,vi p.phase,.slice Ap p.ts.length cp,.slice Bp p.out.length dp]) rfl rfl) ?_;rintro _ w1 ⟨b4,rfl,b2,D,g⟩;have bG:=Nat.le_trans f.size b2;have f:=btr f D;refine Za rfl<|Za rfl<|Zx b1 fun a b _ b3=>?_;refine Ze (Vd rfl X1g 3)<|Ze (Vx (X0 rfl X2 (g.at 3)) (Xnx p x).symm)<|Za rfl<|Za rfl<|ZX b3 fun a b _ b5=>?_;refine Zs b fun _ b6=>?_;refine Ze (Vd rfl X0o 4)<|Ze (X0 rfl X0y (g.at 4))<|Ze (X1f rfl X05)<|Zm rfl<|Zt b6 fun a b=>?_;refine wp_block<|X06 (σ:=Nat) (fun (k:Nat) (a:Act) (w:World)=>Fr a 55 [(1,vi (x:Int)),(2,.pointer (some ⟨b4,0,none⟩)),(6,vi (powK p x k)),(7,vi 0),(15,.slice Ap p.ts.length cp),(16,vi (p.ts.length:Int)),(17,vi (k:Int))]∧(k≤p.ts.length)∧(0≤powK p x k∧powK p x k≤7+7*k)∧Blk w b4 30 [vi p.ins,vi p.vars,vi p.root,vi p.phase,.slice Ap p.ts.length cp,.slice Bp p.out.length dp]∧Below A.heap.size A w) (fun (k:Nat)=>p.ts.length-k) 0 ?_ ?_
 ·exact ⟨b.sb,(Nat.zero_le _),(by rw [Xnx];omega),g,f⟩
 rintro k a w2 ⟨b,hk,b7,g,f⟩;refine Zs b fun _ b8=>?_;refine Ze (X1n rfl rfl)<|ZX b8 fun a b _ b9=>?_
 refine Xg b rfl (fun d=>?_) (fun d=>?_)
 ·have aB:=d;have d:=of_decide_eq_true d
  obtain ⟨B,q⟩:=Xm (l:=p.ts) (k:=k) (by omega)
  have aK:=hV.ts.mks _ (List.mem_of_getElem? q);have bS:=hV.ts.all _ (List.mem_of_getElem? q)
  have bU:k<p.ts.length:=by have:=d;omega
  refine wp_skip<|b9 _ _<|wp_seq_k fun _ H=>?_;refine wp_block<|Zs b fun _ aL=>?_;refine Zi (k:=k) (u:=B) (enc:=encT) (l:=p.ts) trivial rfl rfl X05 X1h X0m (E.below' f) q rfl ?_;intro bW aC;refine Ze (X0b (l:=[vi B.m,vi B.c]) rfl X46 aC rfl)<|Zf (X6 (zs:=[vi 0,vi 0]) X7u rfl) ?_;rintro _ w3 ⟨bX,rfl,I,D,o⟩;have aD:=Nat.le_trans f.size I;have aM:=(E.below' f).away I;have g:=g.below D;have f:=btr f D;refine Zo (Vw [vi B.m,vi B.c] X1h o) ?_;rintro _ w4 ⟨ho,hb⟩;have J:=o;have g:=g.only ho (Blk.ne g J rfl);have f:=Below.only f ho aD;have o:=hb;refine Zx aL fun a b _ aN=>?_;refine Zm rfl<|Ze (Vd rfl X16 0)<|Ze (X0 rfl X2 (o.at 0))<|Ze (X69 rfl rfl)<|Ze (Vd rfl X16 0) ?_;refine Ze (X0 rfl X2 (o.at 0))<|Ze (X0l rfl rfl)<|Zt aN fun a b=>?_
  refine Xg b rfl (fun y=>?_) (fun y=>?_)
  ·have aE:=y;have aF:=Y04 hx aK y;have aG:=Xv1 q aF;refine Zr b<|Zm rfl<|Ze (Vd rfl X24 1)<|Ze (X0 rfl X2 (o.at 1))<|Ze (X3p (k:=(powK p x (k+1))) rfl rfl aG (by omega) (by omega))<|Za rfl ?_;refine Zn fun a b=>?_;refine Xa<|H _ _<|Zr b<|Ze (Xu rfl rfl (by omega) (by omega))<|Zm rfl ?_;refine Zn fun a b=>?_;refine Xd ?_;exact ⟨k+1,⟨b.sb,(by omega),(by omega),g,f⟩,(by omega)⟩
  have aE:=y;have aF:=Xzf hx aK y;have aG:=Xwo q aF
  rw [aG] at b
  refine wp_skip<|Xa<|H _ _<|Zr b ?_;refine Ze (Xu rfl rfl (by omega) (by omega))<|Zm rfl ?_;refine Zn fun a b=>?_;refine Xd ?_;exact ⟨k+1,⟨b.sb,(by omega),(by omega),g,f⟩,(by omega)⟩
 have aB:=d;have d:=of_decide_eq_false d
 have aO:p.ts.length≤k:=by have:=d;omega
 have bC:0≤powP p x:=by rw [← Xfu p x aO];exact b7.1
 refine wp_exit<|Xi<|Xi<|X03 ?_;refine b5 _ _<|wp_seq_k fun _ aP=>?_;refine Zs b fun _ aQ=>?_;refine Ze (Vd rfl Xx 5)<|Ze (X0 rfl X08 (g.at 5))<|Ze (X1f rfl Xr)<|Zm rfl<|Zt aQ fun a b=>?_;refine wp_block<|X06 (σ:=Nat) (fun (j:Nat) (a:Act) (w:World)=>Fr a 55 [(1,vi (x:Int)),(6,vi (powK p x k)),(7,vi ((rowQ p x j:Nat) : Int)),(34,.slice Bp p.out.length dp),(35,vi (p.out.length:Int)),(36,vi (j:Int))]∧(j≤p.out.length)∧Below A.heap.size A w) (fun (j:Nat)=>p.out.length-j) 0 ?_ ?_
 ·exact ⟨b.sb,(Nat.zero_le _),f⟩
 rintro j a w5 ⟨b,hj,f⟩;refine Zs b fun _ aR=>?_;refine Ze (X1n rfl rfl)<|ZX aR fun a b _ aS=>?_
 refine Xg b rfl (fun e=>?_) (fun e=>?_)
 ·have aH:=e;have e:=of_decide_eq_true e
  obtain ⟨h,C⟩:=Xm (l:=p.out) (k:=j) (by omega)
  have aT:=hV.out _ (List.mem_of_getElem? C)
  have bY:j<p.out.length:=by have:=e;omega
  have bD:=Xe8 p x j
  have aU:rowQ p x j<32:=Nat.lt_of_lt_of_le bD (Nat.pow_le_pow_right (n:=2) (by decide) (show j≤5 by omega))
  refine wp_skip<|aS _ _<|wp_seq_k fun _ aW=>?_;refine wp_block<|Zs b fun _ aX=>?_;refine Zi (k:=j) (u:=h) (enc:=encA) (l:=p.out) trivial rfl rfl Xr Xj Xv (G.below' f) C rfl ?_;intro bZ aI;refine Ze (X0b (l:=[vi h.m,vi h.t]) rfl Xs aI rfl)<|Zf (X6 (zs:=[vi 0,vi 0]) X18 rfl) ?_;rintro _ w6 ⟨c4,rfl,L,D,i⟩;have aJ:=Nat.le_trans f.size L;have aY:=(G.below' f).away L;have f:=btr f D;refine Zo (Vw [vi h.m,vi h.t] Xj i) ?_;rintro _ w7 ⟨ho,hb⟩;have J:=i;have f:=Below.only f ho aJ;have i:=hb;refine Zt aX fun a b=>?_;refine Xq none (fun _=>false) mixed ?_;intro w8 D;have i:=i.below D;have f:=btr f D;refine Yb b<|Yo 0 rfl (fun _=>X4 rfl)<|Yo 1 rfl (fun _=>X2y rfl rfl (by omega) (by omega))<|Yo 2 rfl (fun _=>X4 rfl)<|Yo 3 rfl (fun _=>Vd rfl X0a 0)<|Ye 4 rfl (X0 rfl X2 (i.at 0)) ?_;refine Yo 5 rfl (fun _=>Vx (X69 rfl rfl) (Xoa hx aT.1.1))<|Yo 8 rfl (fun _=>Vd rfl X0k 1)<|Ye 9 rfl (X0 rfl X2 (i.at 1))<|Y1 6 ?_;refine Yz rfl trivial (Vc (Y0m _ ((x &&& h.m.toNat:Nat) : Int) (Xvp hx)) Xrb) ?_;refine Yo 7 rfl (fun _=>X3p (k:=((2*rowQ p x j+szI ((x &&& h.m.toNat:Nat) : Int) % 2:Nat) : Int)) rfl rfl (by omega) (by omega) (by omega))<|Yo 10 rfl (fun _=>Vx (X6b rfl rfl) (Xp0 C aT.1 aU))<|Yo 11 rfl (fun _=>X19 rfl) ?_;refine Yd fun a b=>?_;refine Xa<|aW _ _<|Zr b<|Ze (Xu rfl rfl (by omega) (by omega))<|Zm rfl ?_;refine Zn fun a b=>?_;refine Xd ?_;exact ⟨j+1,⟨b.sb,(by omega),f⟩,(by omega)⟩
 have aH:=e;have e:=of_decide_eq_false e
 have bE:j=n:=by have:=e;omega
 refine wp_exit<|Xi<|Xi<|X03 ?_;refine aP _ _<|Zs b fun _ aZ=>?_;refine Zm rfl<|Zm rfl<|Ze (Vx (X5v rfl rfl rfl) (show _=(powP p x % 8) from (by rw [Xfu p x aO];exact Xeo bC)))<|Za rfl<|Za rfl ?_;refine Zt aZ fun a b=>?_
 refine wp_ret (X3 b (X1m b rfl rfl rfl) ?_)
 exact ⟨by rw [bE,Xfv b0],f⟩
theorem Xzu(w0:World)(u:Oc)(e:∀ k,k<8→0≤u.f k∧u.f k≤1024) : Ret Tryz.prog 42 [.agg #[vi (u.f 0),vi (u.f 1),vi (u.f 2),vi (u.f 3),vi (u.f 4),vi (u.f 5),vi (u.f 6),vi (u.f 7)]] w0 (fun v w=>v=rV (oSum u)∧Below w0.heap.size w0 w):=by
 have h0:=e 0 (by decide)
 have h1:=e 1 (by decide)
 have h2:=e 2 (by decide)
 have h3:=e 3 (by decide)
 have h4:=e 4 (by decide)
 have h5:=e 5 (by decide)
 have h6:=e 6 (by decide)
 have h7:=e 7 (by decide)
 refine enter Tryz.func42 rfl 24 rfl rfl ?_;intro a hf
 have c:=bz w0
 refine Zs hf fun _ aB=>?_;refine Zf (X14 (zs:=[vi (u.f 0),vi (u.f 1),vi (u.f 2),vi (u.f 3),vi (u.f 4),vi (u.f 5),vi (u.f 6),vi (u.f 7)]) rfl rfl) ?_;rintro _ w1 ⟨b2,rfl,aC,hE,b⟩;have aF:=Nat.le_trans c.size aC;have c:=btr c hE;refine Zf (X6 (zs:=[vi 0,vi 0,vi 0,vi 0]) X4g rfl) ?_;rintro _ w2 ⟨b3,rfl,aD,hE,d⟩;have aA:=Nat.le_trans c.size aD;have b:=b.below hE;have c:=btr c hE;refine Zx aB fun a hf _ aE=>?_;refine Ze (X2o (k:=0) (sz:=1) rfl rfl Tryz.underlying82 X12 rfl (by decide) (m:=0) rfl)<|Ze (X0 rfl X2 (b.at 0))<|Ze (X2o (k:=4) (sz:=1) rfl rfl Tryz.underlying82 X12 rfl (by decide) (m:=4) rfl)<|Ze (X0 rfl X2 (b.at 4))<|Ze (X15 rfl rfl (by omega) (by omega)) ?_;refine Ze (X2o (k:=1) (sz:=1) rfl rfl Tryz.underlying82 X12 rfl (by decide) (m:=1) rfl)<|Ze (X0 rfl X2 (b.at 1))<|Ze (X2o (k:=5) (sz:=1) rfl rfl Tryz.underlying82 X12 rfl (by decide) (m:=5) rfl)<|Ze (X0 rfl X2 (b.at 5))<|Ze (X15 rfl rfl (by omega) (by omega)) ?_;refine Ze (X2o (k:=2) (sz:=1) rfl rfl Tryz.underlying82 X12 rfl (by decide) (m:=2) rfl)<|Ze (X0 rfl X2 (b.at 2))<|Ze (X2o (k:=6) (sz:=1) rfl rfl Tryz.underlying82 X12 rfl (by decide) (m:=6) rfl)<|Ze (X0 rfl X2 (b.at 6))<|Ze (X15 rfl rfl (by omega) (by omega)) ?_;refine Ze (X2o (k:=3) (sz:=1) rfl rfl Tryz.underlying82 X12 rfl (by decide) (m:=3) rfl)<|Ze (X0 rfl X2 (b.at 3))<|Ze (X2o (k:=7) (sz:=1) rfl rfl Tryz.underlying82 X12 rfl (by decide) (m:=7) rfl)<|Ze (X0 rfl X2 (b.at 7))<|Ze (X15 rfl rfl (by omega) (by omega)) ?_;refine Ze (Xk (ps:=[(0,vi ((u.f 0)-(u.f 4))),(1,vi ((u.f 1)-(u.f 5))),(2,vi ((u.f 2)-(u.f 6))),(3,vi ((u.f 3)-(u.f 7)))]) (cs:=[vi ((u.f 0)-(u.f 4)),vi ((u.f 1)-(u.f 5)),vi ((u.f 2)-(u.f 6)),vi ((u.f 3)-(u.f 7))]) rfl (fun _=>by first|rfl|kernel_rfl))<|Zo (Vw [vi ((u.f 0)-(u.f 4)),vi ((u.f 1)-(u.f 5)),vi ((u.f 2)-(u.f 6)),vi ((u.f 3)-(u.f 7))] X22 d) ?_;rintro _ w3 ⟨ho,hb⟩
 have aG:=d;have c:=Below.only c ho aA;have d:=hb;refine Zt aE fun a hf=>?_
 refine wp_ret (X3 hf (Xz hf rfl (ResV.cellN (l:=[vi ((u.f 0)-(u.f 4)),vi ((u.f 1)-(u.f 5)),vi ((u.f 2)-(u.f 6)),vi ((u.f 3)-(u.f 7))]) rfl X0r (d.at 0) rfl)) ?_)
 exact ⟨rfl,c⟩
theorem Xy1(N:World)(z:Rg)(m:Int)(hm:-60≤m∧m≤60)(aS:rOk z=true) : Ret Tryz.prog 41 [.agg #[vi z.a,vi z.b,vi z.c,vi z.d],vi m] N (fun v w=>∃ d:Dy,v=.tuple #[dV d,.bool (sclI z m).isSome]∧(∀ y,sclI z m=some y→d=y)∧Below N.heap.size N w):=by
 refine enter Tryz.func41 rfl 46 rfl rfl ?_;intro a k
 have n:=bz N
 refine Zs k fun _ aT=>?_;refine Zf (X14 (zs:=[vi z.a,vi z.b,vi z.c,vi z.d]) rfl rfl) ?_;rintro _ w1 ⟨b2,rfl,aU,h,f⟩;have W:=Nat.le_trans n.size aU;have n:=btr n h;refine Zf (X6 (zs:=[vi 0,vi 0,vi 0,vi 0,vi 0]) X2t rfl) ?_;rintro _ w2 ⟨Q,rfl,aW,h,e⟩;have I:=Nat.le_trans n.size aW;have f:=f.below h;have n:=btr n h;refine Za rfl<|ZX aT fun a k _ aX=>?_;refine Zs k fun _ aY=>?_;refine Ze (Vn X0r f)<|Ze (Xk (ps:=[]) (cs:=[vi 0,vi 0,vi 0,vi 0]) rfl (fun _=>by first|rfl|kernel_rfl))<|Ze (Xzx rfl rfl Xvo (fun w=>eqR 9998 z (⟨0,0,0,0⟩ : Rg) w))<|Zt aY fun a k=>?_
 refine Xg k rfl (fun G=>?_) (fun G=>?_)
 ·have o:=G;have G:=of_decide_eq_true G
  have J:z=rZ:=G
  refine Zs k fun _ aZ=>?_;refine Ze (Xk (ps:=[]) (cs:=[vi 0,vi 0,vi 0,vi 0,vi 0]) rfl (fun _=>by first|rfl|kernel_rfl))<|Zo (Vw [vi 0,vi 0,vi 0,vi 0,vi 0] X0u e) ?_;rintro _ w3 ⟨C,H⟩;have p:=e;have n:=Below.only n C I;clear p;have e:=H;clear H C;refine Za rfl<|Zt aZ fun a k=>?_;refine wp_ret<|X7<|X3 k (X1m k rfl (ResV.cellN (l:=[vi 0,vi 0,vi 0,vi 0,vi 0]) rfl X0i (e.at 0) rfl) rfl) ?_;exact ⟨dZ,by rw [Xu4 J];rfl,fun y hy=>(by rw [Xu4 J] at hy;exact Option.some.inj hy),n⟩
 have o:=G;have G:=of_decide_eq_false G
 have J:¬ z=rZ:=G
 refine wp_skip<|aX _ _<|Zs k fun _ b0=>?_;refine Za rfl<|ZX b0 fun a k _ b1=>?_;refine wp_block<|X06 (σ:=Rg×Int×Bool) (fun (s:Rg×Int×Bool) (a:Act) (w:World)=>match s with|(y,j,b)=>Fr a 46 [(1,vi j),(2,.pointer (some ⟨b2,0,none⟩)),(4,.pointer (some ⟨Q,0,none⟩)),(6,.bool b)]∧((if b=true then raiseI (-j).toNat y else (y,false))=raiseI (-m).toNat z)∧(-60≤j∧j≤60∧(j=m∨m<0∧j≤0))∧(rOk y=true)∧Blk w b2 85 [vi y.a,vi y.b,vi y.c,vi y.d]∧Blk w Q 87 [vi 0,vi 0,vi 0,vi 0,vi 0]∧Below N.heap.size N w) (fun (s:Rg×Int×Bool)=>match s with|(y,j,b)=>(61-j).toNat) (z,m,true) ?_ ?_
 ·exact ⟨k.sb,rfl,(by omega),aS,f,e,n⟩
 rintro ⟨y,j,b⟩ a w4 ⟨k,L,aD,b4,f,e,n⟩;refine wp_seq_k fun _ aE=>?_;refine wp_seq_k fun _ aF=>?_;refine X0j (fun a w=>Fr a 46 [(1,vi j),(2,.pointer (some ⟨b2,0,none⟩)),(4,.pointer (some ⟨Q,0,none⟩)),(6,.bool b),(16,.bool ((decide (j<0))&&b))]∧w4=w) ?_ ?_
 ·refine Zr k<|Zm rfl<|Ze (X1n rfl rfl)<|Zm rfl ?_
  refine Zg 14 rfl (fun A=>?_) (fun A=>?_)
  ·refine Zv (gW A) (X4 rfl) ?_;refine Ze (X5 rfl A rfl) ?_;refine Zn fun a k=>?_;exact ⟨k.sub ⟨rfl,rfl,rfl,rfl,X1 rfl (by first|rfl|(simp only [o,A,bs];done)|simp [o,A]),trivial⟩,rfl⟩
  refine Zp (gP A) ?_;refine Ze (Xc rfl A rfl) ?_;refine Zn fun a k=>?_;exact ⟨k.sub ⟨rfl,rfl,rfl,rfl,X1 rfl (by first|rfl|(simp only [o,A,bs];done)|simp [o,A]),trivial⟩,rfl⟩
 rintro a _ ⟨k,rfl⟩;refine aF _ _ ?_
 refine Xg k rfl (fun D=>?_) (fun D=>?_)
 ·have q:=D
  have H:b=true:=by have:=D;revert this;cases b<;>simp
  have b5:j<0:=by have:=D;revert this;cases b<;>simp
  refine wp_skip<|aE _ _<|wp_seq_k fun _ aG=>?_;refine wp_block<|Zr k<|Ze (Vn X0r f)<|Zf (Vc (Xzt _ y) Xmy) ?_;rintro _ w5 ⟨rfl,h⟩;have f:=f.below h;have e:=e.below h;have n:=btr n h;refine Zm rfl<|Ze (X8 (vs:=[.agg #[vi ((rIf1 (rRoot y) [y]).a),vi ((rIf1 (rRoot y) [y]).b),vi ((rIf1 (rRoot y) [y]).c),vi ((rIf1 (rRoot y) [y]).d)],.bool (rIf2 (rRoot y) [y])]) rfl rfl)<|Ze (X8 (vs:=[.agg #[vi ((rIf1 (rRoot y) [y]).a),vi ((rIf1 (rRoot y) [y]).b),vi ((rIf1 (rRoot y) [y]).c),vi ((rIf1 (rRoot y) [y]).d)],.bool (rIf2 (rRoot y) [y])]) rfl rfl)<|Zo (Vw [vi ((rIf1 (rRoot y) [y]).a),vi ((rIf1 (rRoot y) [y]).b),vi ((rIf1 (rRoot y) [y]).c),vi ((rIf1 (rRoot y) [y]).d)] X22 f) ?_;rintro _ w6 ⟨C,H⟩;have p:=f;have e:=e.only C (Blk.ne e p rfl);have n:=Below.only n C W;clear p;have f:=H;clear H C;refine Za rfl ?_;refine Zn fun a k=>?_;refine Xa<|aG _ _<|Zr k<|Zm rfl<|Ze (Xu rfl rfl (by omega) (by omega))<|Za rfl ?_;refine Zn fun a k=>?_;refine Xd ?_;exact ⟨(rIf1 (rRoot y) [y],j+1,rIf2 (rRoot y) [y]),⟨k.sb,(Xp6 L H b5),(by omega),(Xr7 _ _),f,e,n⟩,(by first|omega|(dsimp only;omega))⟩
 have q:=D
 have aH:b=true→0≤j:=by have:=D;revert this;cases b<;>simp
 refine wp_exit<|Xi<|Xi<|X03 ?_;refine b1 _ _<|wp_seq_k fun _ aI=>?_;refine wp_block<|X06 (σ:=Rg×Int) (fun (s:Rg×Int) (a:Act) (w:World)=>match s with|(x,i)=>Fr a 46 [(1,vi i),(2,.pointer (some ⟨b2,0,none⟩)),(4,.pointer (some ⟨Q,0,none⟩)),(6,.bool b)]∧(dLow x i=dLow y j)∧(i≤60)∧(rOk x=true)∧Blk w b2 85 [vi x.a,vi x.b,vi x.c,vi x.d]∧Blk w Q 87 [vi 0,vi 0,vi 0,vi 0,vi 0]∧Below N.heap.size N w) (fun (s:Rg×Int)=>match s with|(x,i)=>i.toNat) (y,j) ?_ ?_
 ·exact ⟨k.sb,rfl,(by omega),b4,f,e,n⟩
 rintro ⟨x,i⟩ a w7 ⟨k,M,b6,aA,f,e,n⟩;refine wp_seq_k fun _ aJ=>?_;refine wp_seq_k fun _ aK=>?_;refine X0j (fun a w=>Fr a 46 [(1,vi i),(2,.pointer (some ⟨b2,0,none⟩)),(4,.pointer (some ⟨Q,0,none⟩)),(6,.bool b),(29,.bool ((decide (0<i))&&(rEven x)))]∧Below w7.heap.size w7 w) ?_ ?_
 ·have U:Below w7.heap.size w7 w7:=Below.refl _ _
  refine Zr k<|Zm rfl<|Ze (X42 rfl rfl)<|Zm rfl ?_
  refine Zg 26 rfl (fun t=>?_) (fun t=>?_)
  ·refine Zv (gW t) (Vn X0r f) ?_;refine Zk (gW t) (Vc (Xqu _ x) Xdu) ?_;rintro _ w8 ⟨rfl,h⟩;have n:=btr n h;have U:=btr U h;refine Ze (X5 rfl t rfl) ?_;refine Zn fun a k=>?_
   have aB:Below w7.heap.size w7 w8:=U
   exact ⟨k.sub ⟨rfl,rfl,rfl,rfl,X1 rfl (by first|rfl|(simp only [o,q,t,bs];done)|simp [o,q,t]),trivial⟩,aB⟩
  refine Zp (gP t) ?_;refine Zp (gP t) ?_;refine Ze (Xc rfl t rfl) ?_;refine Zn fun a k=>?_
  have aB:Below w7.heap.size w7 w7:=U
  exact ⟨k.sub ⟨rfl,rfl,rfl,rfl,X1 rfl (by first|rfl|(simp only [o,q,t,bs];done)|simp [o,q,t]),trivial⟩,aB⟩
 rintro a w9 ⟨k,h⟩;have f:=f.below h;have e:=e.below h;have n:=btr n h;refine aK _ _ ?_
 refine Xg k rfl (fun E=>?_) (fun E=>?_)
 ·have B:=E
  have b7:0<i:=by have:=E;revert this;simp;omega
  have aL:rEven x=true:=by have:=E;revert this;cases rEven x<;>simp
  refine wp_skip<|aJ _ _<|wp_block<|Zs k fun _ aM=>?_;refine Ze (Vn X0r f)<|Zf (Vc (Xyq _ x) Xmr) ?_;rintro _ b8 ⟨rfl,h⟩;have f:=f.below h;have e:=e.below h;have n:=btr n h;refine Zm rfl<|Ze (X8 (vs:=[.agg #[vi ((rDiv1 x).a),vi ((rDiv1 x).b),vi ((rDiv1 x).c),vi ((rDiv1 x).d)],.bool (rDiv2 x)]) rfl rfl)<|Ze (X8 (vs:=[.agg #[vi ((rDiv1 x).a),vi ((rDiv1 x).b),vi ((rDiv1 x).c),vi ((rDiv1 x).d)],.bool (rDiv2 x)]) rfl rfl)<|Zo (Vw [vi ((rDiv1 x).a),vi ((rDiv1 x).b),vi ((rDiv1 x).c),vi ((rDiv1 x).d)] X22 f) ?_;rintro _ b9 ⟨C,H⟩;have p:=f;have e:=e.only C (Blk.ne e p rfl);have n:=Below.only n C W;clear p;have f:=H;clear H C;refine Zt aM fun a k=>?_;refine Zr k<|Zm rfl<|Ze (X15 rfl rfl (by omega) (by omega))<|Za rfl ?_;refine Zn fun a k=>?_;refine Xa ?_
  rw [rDiv1,rDiv2,aA,aL,Bool.and_self,if_pos rfl] at f
  refine Xd ?_;exact ⟨(rHalf x,i-1),⟨k.sb,(by rw [← M];exact (X58 (by omega) aL).symm),(by omega),(X6s aA),f,e,n⟩,(by first|omega|(dsimp only;omega))⟩
 have B:=E
 have aN:dLow x i=⟨x,i⟩:=X3d (by intro h0;have:=E;revert this;simp [h0])
 refine wp_exit<|Xi<|Xi<|X03 ?_;refine aI _ _<|Zs k fun _ aO=>?_;refine Ze (Vn X0r f)<|Zm rfl<|Ze (Xk (ps:=[(0,.agg #[vi x.a,vi x.b,vi x.c,vi x.d]),(1,vi i)]) (cs:=[vi x.a,vi x.b,vi x.c,vi x.d,vi i]) rfl (fun _=>by first|rfl|kernel_rfl))<|Zf (X6 (zs:=[vi 0,vi 0,vi 0,vi 0,vi 0]) X2t rfl) ?_;rintro _ bC ⟨b22,rfl,aP,h,g⟩
 have aQ:Q≠b22:=by have:=e.lt;omega
 have aC:=Nat.le_trans n.size aP;have e:=e.below h;have n:=btr n h;refine Zo (Vw [vi x.a,vi x.b,vi x.c,vi x.d,vi i] X0u g) ?_;rintro _ bD ⟨C,H⟩;have p:=g;have e:=e.only C (by omega);have n:=Below.only n C aC;clear p;have g:=H;clear H C;refine ZX aO fun a k _ aR=>?_;refine X0j (fun a w=>Fr a 46 [(4,.pointer (some ⟨Q,0,none⟩)),(5,.bool (b&&(dOk (⟨x,i⟩ : Dy))))]∧Blk w Q 87 [vi x.a,vi x.b,vi x.c,vi x.d,vi i]∧Blk w b22 87 [vi x.a,vi x.b,vi x.c,vi x.d,vi i]∧Below N.heap.size N w) ?_ ?_
 ·refine Xq none (fun j=>[6].contains j) mixed ?_;intro bE h;have e:=e.below h;have g:=g.below h;have n:=btr n h;refine Yb k<|Ye 0 rfl (Vn X0i g)<|Yo 1 rfl (fun _=>X4 rfl)<|Yo 2 rfl (fun _=>X4 rfl) ?_
  refine Yl 42 rfl (fun u=>?_) (fun u=>?_)
  ·refine Yv 3 rfl (gW u) (Vn X0i g) ?_;refine Y1 4<|Yk rfl ⟨_,_,rfl,rfl,u⟩ (Vc (Xkp _ (⟨x,i⟩ : Dy)) X9d) (fun _ _ ⟨_,h⟩=>h) ?_;rintro _ bF ⟨rfl,h⟩;have e:=e.below h;have g:=g.below h;have n:=btr n h;refine Yo 5 rfl (fun _=>X5 rfl u rfl)<|Y1 6 ?_;refine Yh rfl trivial rfl (Vw [vi x.a,vi x.b,vi x.c,vi x.d,vi i] X0u e) ?_;rintro _ bG ⟨C,H⟩;have p:=e;have g:=g.only C (by omega);have n:=Below.only n C I;clear p;have e:=H;clear H C;refine Yo 7 rfl (fun _=>X19 rfl) ?_;refine Yd fun a k=>?_;exact ⟨k.sub ⟨rfl,X1 rfl (by first|rfl|(simp only [o,q,B,u,bs];done)|simp [o,q,B,u]),trivial⟩,e,g,n⟩
  refine Yp 3 rfl (gP u) ?_;refine Y1 4<|Yq rfl ⟨_,_,rfl,rfl,u⟩ ?_;refine Yo 5 rfl (fun _=>Xc rfl u rfl)<|Y1 6 ?_;refine Yh rfl trivial rfl (Vw [vi x.a,vi x.b,vi x.c,vi x.d,vi i] X0u e) ?_;rintro _ bH ⟨C,H⟩;have p:=e;have g:=g.only C (by omega);have n:=Below.only n C I;clear p;have e:=H;clear H C;refine Yo 7 rfl (fun _=>X19 rfl) ?_;refine Yd fun a k=>?_;exact ⟨k.sub ⟨rfl,X1 rfl (by first|rfl|(simp only [o,q,B,u,bs];done)|simp [o,q,B,u]),trivial⟩,e,g,n⟩
 rintro a bJ ⟨k,e,g,n⟩;refine aR _ _ ?_
 refine wp_ret (X3 k (X1m k rfl (ResV.cellN (l:=[vi x.a,vi x.b,vi x.c,vi x.d,vi i]) rfl X0i (e.at 0) rfl) rfl) ?_)
 exact ⟨⟨x,i⟩,by rw [← Xr6 J L aH aD M aN],fun d hd=>Xru J L aH aD M aN hd,n⟩
theorem Xzl(o:World)(i j S:Nat)(bc:Nat)(Al:Option Addr)(cl:Nat)(l:List Oc)(aB:Rd o o.heap.size 82 encO Al l)(q:Blk o bc 79 [.slice Al l.length cl])(bs:Nat)(t:Blk o bs 3 [vi (S:Int)])(bp:Nat)(p:Ps)(Ap:Option Addr)(cp:Nat)(aP:Rd o o.heap.size 76 encT Ap p.ts)(Bp:Option Addr)(dp:Nat)(aQ:Rd o o.heap.size 34 encA Bp p.out)(x:Blk o bp 30 [vi p.ins,vi p.vars,vi p.root,vi p.phase,.slice Ap p.ts.length cp,.slice Bp p.out.length dp])(f:Nat→Nat→Rg)(hS:S≤32)(hi:(i:Int)<S)(hj:(j:Int)<S)(aG:-60≤p.root∧p.root≤60)(aC:∀ i j,rOk (f i j)=true)(hl:∀ i j:Nat,i<S→j<S→∃ u,l[i*S+j]? = some u∧(∀ k,k<8→0≤u.f k∧u.f k≤1024)∧oSum u=f i j) : Ret Tryz.prog 40 [vi (i:Int),vi (j:Int),.pointer (some ⟨bc,0,none⟩),.pointer (some ⟨bs,0,none⟩),.pointer (some ⟨bp,0,none⟩)] o (fun v w=>∃ d:Dy,v=.tuple #[dV d,.bool (sclI (f i j) p.root).isSome]∧(∀ y,sclI (f i j) p.root=some y→d=y)∧Below o.heap.size o w):=by
 have aH:=q.lt;have aI:=t.lt;have aJ:=x.lt
 have aS:i*S≤1024:=Nat.le_trans (Nat.mul_le_mul (show i≤32 by omega) hS) (by decide)
 obtain ⟨u,aK,aL,aA⟩:=hl i j (by omega) (by omega)
 refine enter Tryz.func40 rfl 23 rfl rfl ?_;intro a hf
 have h:=bz o
 refine Zs hf fun _ aM=>?_;refine Zf (X6 (zs:=[vi 0,vi 0,vi 0,vi 0,vi 0]) X2t rfl) ?_;rintro _ w1 ⟨b5,rfl,aN,n,g⟩;have aD:=Nat.le_trans h.size aN;have q:=q.below n;have t:=t.below n;have x:=x.below n;have h:=btr h n;refine Za rfl<|ZX aM fun a hf _ aO=>?_;refine Xq none (fun j=>[14].contains j) mixed ?_;intro w2 n;have q:=q.below n;have t:=t.below n;have x:=x.below n;have g:=g.below n;have h:=btr h n;refine Yb hf<|Ye 0 rfl (X0 rfl Xjv (q.at 0))<|Yo 1 rfl (fun _=>X4 rfl)<|Ye 2 rfl (X0 rfl X2 (t.at 0))<|Yo 3 rfl (fun _=>Xjb (m:=i) (k:=S) rfl rfl (by omega))<|Yo 4 rfl (fun _=>X4 rfl) ?_;refine Yo 5 rfl (fun _=>X3p (k:=((i*S+j:Nat) : Int)) rfl rfl (by omega) (by omega) (by omega))<|Yi (k:=(i*S+j)) (u:=u) (enc:=encO) (l:=l) 6 rfl trivial rfl rfl Xaj Xdt X6u (aB.below' h) aK rfl ?_;intro p8 aE;refine Ye 7 rfl (X0b (l:=[vi (u.f 0),vi (u.f 1),vi (u.f 2),vi (u.f 3),vi (u.f 4),vi (u.f 5),vi (u.f 6),vi (u.f 7)]) rfl Xsa aE rfl)<|Yo 9 rfl (fun _=>Vd rfl X1k 2)<|Ye 10 rfl (X0 rfl X2 (x.at 2))<|Y1 8 ?_;refine Yk rfl trivial (Vc (Xzu _ u aL) Xqn) (fun _ _ ⟨_,n⟩=>n) ?_;rintro _ w3 ⟨rfl,n⟩;have g:=g.below n;have h:=btr h n;refine Y1 11<|Yk rfl trivial (Vc (Xy1 _ (oSum u) p.root aG (by rw [aA];exact aC i j)) Xse) (fun _ _ ⟨e,_,aF,n⟩=>n) ?_;rintro _ w4 ⟨e,rfl,aF,n⟩;have g:=g.below n;have h:=btr h n;refine Yo 12 rfl (fun _=>X8 (vs:=[.agg #[vi e.num.a,vi e.num.b,vi e.num.c,vi e.num.d,vi e.exp],.bool ((sclI (oSum u) p.root).isSome)]) rfl rfl)<|Yo 13 rfl (fun _=>X8 (vs:=[.agg #[vi e.num.a,vi e.num.b,vi e.num.c,vi e.num.d,vi e.exp],.bool ((sclI (oSum u) p.root).isSome)]) rfl rfl)<|Y1 14 ?_
 refine Yh rfl trivial rfl (Vw [vi e.num.a,vi e.num.b,vi e.num.c,vi e.num.d,vi e.exp] X0u g) ?_;rintro _ w5 ⟨ho,hb⟩;have aR:=g;have h:=Below.only h ho aD;have g:=hb;refine Yo 15 rfl (fun _=>X19 rfl) ?_;refine Yd fun a hf=>?_;refine aO _ _ ?_
 refine wp_ret (X3 hf (X1m hf rfl (ResV.cellN (l:=[vi e.num.a,vi e.num.b,vi e.num.c,vi e.num.d,vi e.exp]) rfl X0i (g.at 0) rfl) rfl) ?_)
 exact ⟨e,by rw [aA],by rw [← aA];exact aF,h⟩
theorem Y0w(H:World)(R C:Int)(k:FuncId)(caps:List Value)(hF:FuncF Tryz.prog k)(f:Nat→Nat→Option Dy)(aI:∀ (i j:Nat) w,(i:Int)<R→(j:Int)<C→Below H.heap.size H w→Ret Tryz.prog k ([vi (i:Int),vi (j:Int)]++caps) w (fun v w'=>∃ d:Dy,v=.tuple #[dV d,.bool (f i j).isSome]∧(∀ y,f i j=some y→d=y)∧Below w.heap.size w w')) : Ret Tryz.prog 39 [vi R,vi C,.func (.func k) #[] caps.toArray] H (fun v w=>∃ A c,v=.tuple #[mV A c ((matOf R C f).getD mZ),.bool (matOf R C f).isSome]∧Own w H.heap.size 87 5 encD A c ((matOf R C f).getD mZ).cells∧Below H.heap.size H w):=by
 refine enter Tryz.func39 rfl 52 rfl rfl ?_;intro a g
 have p:=bz H
 refine Zs g fun _ bK=>?_;refine Zf (X6 (zs:=[vi 0,vi 0,.slice none 0 0]) X4q rfl) ?_;rintro _ w1 ⟨b3,rfl,bL,h,e⟩;have Q:=Nat.le_trans p.size bL;have p:=btr p h;refine Za rfl<|Zx bK fun a g _ bN=>?_;refine Zm rfl<|Zm rfl<|Ze (Xk (ps:=[(0,vi R),(1,vi C)]) (cs:=[vi R,vi C,.slice none 0 0]) rfl (fun _=>by first|rfl|kernel_rfl))<|Zf (X6 (zs:=[vi 0,vi 0,.slice none 0 0]) X4q rfl) ?_;rintro _ w2 ⟨b7,rfl,bO,h,m⟩
 have bJ:b3≠b7:=by have:=e.lt;omega
 have aF:=Nat.le_trans p.size bO;have e:=e.below h;have p:=btr p h;refine Zo (Vw [vi R,vi C,.slice none 0 0] X28 m) ?_;rintro _ w3 ⟨D,U⟩;have q:=m;have e:=e.only D (by omega);have p:=Below.only p D aF;have m:=U;refine ZX bN fun a g _ bP=>?_;refine wp_seq_k fun _ bR=>?_;refine X0j (fun a w=>Fr a 52 [(0,vi R),(1,vi C),(2,.func (.func k) #[] caps.toArray),(6,.pointer (some ⟨b3,0,none⟩)),(8,.pointer (some ⟨b7,0,none⟩)),(23,.bool ((!(isDimB R))||(!(isDimB C))))]∧w3=w) ?_ ?_
 ·refine Zr g<|Zm rfl<|Zf (Vc (Xk1 _ R) X9y) ?_;rintro _ _ ⟨rfl,rfl⟩;refine Ze (X1c rfl)<|Zm rfl ?_
  refine Zg 19 rfl (fun n=>?_) (fun n=>?_)
  ·refine Zp (gP n) ?_;refine Zp (gP n) ?_;refine Zp (gP n) ?_;refine Ze (X5 rfl n rfl) ?_;refine Zn fun a g=>?_;exact ⟨g.sub ⟨rfl,rfl,rfl,rfl,rfl,X1 rfl (by first|rfl|(simp only [n,bs];done)|simp [n]),trivial⟩,rfl⟩
  refine Zv (gW n) (X4 rfl) ?_;refine Zk (gW n) (Vc (Xk1 _ C) X9y) ?_;rintro _ _ ⟨rfl,rfl⟩;refine Zv (gW n) (X1c rfl) ?_;refine Ze (Xc rfl n rfl) ?_;refine Zn fun a g=>?_;exact ⟨g.sub ⟨rfl,rfl,rfl,rfl,rfl,X1 rfl (by first|rfl|(simp only [n,bs];done)|simp [n]),trivial⟩,rfl⟩
 rintro a _ ⟨g,rfl⟩;refine bR _ _ ?_
 refine Xg g rfl (fun E=>?_) (fun E=>?_)
 ·have aJ:=E;have hn:=X70 E;refine Zs g fun _ aW=>?_;refine Ze (Xk (ps:=[]) (cs:=[vi 0,vi 0,.slice none 0 0]) rfl (fun _=>by first|rfl|kernel_rfl))<|Zo (Vw [vi 0,vi 0,.slice none 0 0] X28 e) ?_;rintro _ w4 ⟨D,U⟩;have q:=e;have p:=Below.only p D Q;have e:=U;refine Za rfl<|Zt aW fun a g=>?_;refine wp_ret<|X7<|X3 g (X1m g rfl (ResV.cellN (l:=[vi 0,vi 0,.slice none 0 0]) rfl X1p (e.at 0) rfl) rfl) ?_
  have he:matOf R C f=none:=by rw [matOf,hn];rfl
  rw [he]
  exact ⟨none,0,rfl,(Own.nil _ _ _ _ _),p⟩
 have aJ:=E;have hy:=X8s E;have aX:=(Bool.and_eq_true _ _▸hy:isDimB R=true∧isDimB C=true);have hR:=X2k aX.1;have hC:=X2k aX.2;refine wp_skip<|bP _ _<|wp_seq_k fun _ aY=>?_;refine Zs g fun _ aZ=>?_;refine Zm rfl<|Zm rfl<|Zt aZ fun a g=>?_;refine wp_block<|X06 (σ:=Nat×(List Dy)) (fun (s:Nat×(List Dy)) (a:Act) (w:World)=>match s with|(i,l)=>∃ I J,Fr a 52 [(1,vi C),(2,.func (.func k) #[] caps.toArray),(6,.pointer (some ⟨b3,0,none⟩)),(8,.pointer (some ⟨b7,0,none⟩)),(25,vi R),(26,vi (i:Int))]∧((i:Int)≤R)∧(seqO (gridG f C.toNat) (i*C.toNat)=some l)∧Blk w b3 42 [vi 0,vi 0,.slice none 0 0]∧Blk w b7 42 [vi R,vi C,.slice I l.length J]∧Own w H.heap.size 87 5 encD I J l∧Below H.heap.size H w) (fun (s:Nat×(List Dy))=>match s with|(i,l)=>(R-i).toNat) (0,[]) ?_ ?_
 ·exact ⟨none,0,g.sb,(by omega),(by rw [Nat.zero_mul];rfl),e,m,(Own.nil _ _ _ _ _),p⟩
 rintro ⟨i,l⟩ a w5 ⟨I,J,g,bY,hl,e,m,L,p⟩;refine Zs g fun _ b0=>?_;refine Ze (X1n rfl rfl)<|ZX b0 fun a g _ b1=>?_
 refine Xg g rfl (fun t=>?_) (fun t=>?_)
 ·have aK:=t;have t:=of_decide_eq_true t
  have aL:(i:Int)<R:=t
  have bZ:i*C.toNat≤1024:=Nat.le_trans (Nat.mul_le_mul (show i≤32 by omega) (show C.toNat≤32 by omega)) (by decide)
  refine wp_skip<|b1 _ _<|wp_seq_k fun _ b2=>?_;refine wp_block<|Zs g fun _ b4=>?_;refine Zm rfl<|Za rfl<|Zx b4 fun a g _ b5=>?_;refine Zm rfl<|Zm rfl<|Zt b5 fun a g=>?_;refine wp_block<|X06 (σ:=Nat×(List Dy)) (fun (s:Nat×(List Dy)) (a:Act) (w:World)=>match s with|(j,l2)=>∃ aB aC,Fr a 52 [(1,vi C),(2,.func (.func k) #[] caps.toArray),(6,.pointer (some ⟨b3,0,none⟩)),(8,.pointer (some ⟨b7,0,none⟩)),(9,vi (i:Int)),(25,vi R),(26,vi (i:Int)),(29,vi C),(30,vi (j:Int))]∧((j:Int)≤C)∧(seqO (gridG f C.toNat) (i*C.toNat+j)=some l2)∧Blk w b3 42 [vi 0,vi 0,.slice none 0 0]∧Blk w b7 42 [vi R,vi C,.slice aB l2.length aC]∧Own w H.heap.size 87 5 encD aB aC l2∧Below H.heap.size H w) (fun (s:Nat×(List Dy))=>match s with|(j,l2)=>(C-j).toNat) (0,l) ?_ ?_
  ·exact ⟨I,J,g.sb,(by omega),hl,e,m,L,p⟩
  rintro ⟨j,l2⟩ a w6 ⟨aB,aC,g,c4,aD,e,m,o,p⟩;refine Zs g fun _ b6=>?_;refine Ze (X1n rfl rfl)<|ZX b6 fun a g _ b8=>?_
  refine Xg g rfl (fun u=>?_) (fun u=>?_)
  ·have aM:=u;have u:=of_decide_eq_true u
   have aE:(j:Int)<C:=u
   have bX:=X5i aD;refine wp_skip<|b8 _ _<|wp_seq_k fun _ b9=>?_;refine wp_block<|Zs g fun _ bC=>?_;refine Zm rfl<|Za rfl<|Zx bC fun a g _ bD=>?_;refine Zm rfl<|Zm rfl<|Zm rfl<|Zf (X98 (cs:=caps) (vs:=[vi (i:Int),vi (j:Int)]) rfl rfl hF (aI i j _ aL aE p)) ?_;rintro _ w7 ⟨d9,rfl,bS,h⟩;have e:=e.below h;have m:=m.below h;have o:=o.below h;have p:=btr p h;refine Zm rfl<|Ze (X8 (vs:=[.agg #[vi d9.num.a,vi d9.num.b,vi d9.num.c,vi d9.num.d,vi d9.exp],.bool ((f i j).isSome)]) rfl rfl)<|Ze (X8 (vs:=[.agg #[vi d9.num.a,vi d9.num.b,vi d9.num.c,vi d9.num.d,vi d9.exp],.bool ((f i j).isSome)]) rfl rfl)<|Zf (X6 (zs:=[vi 0,vi 0,vi 0,vi 0,vi 0]) X2t rfl) ?_;rintro _ w8 ⟨bU,rfl,aG,h,x⟩;have aN:=Nat.le_trans p.size aG;have B:=o.away aG;have e:=e.below h;have m:=m.below h;have o:=o.below h;have p:=btr p h;refine Zo (Vw [vi d9.num.a,vi d9.num.b,vi d9.num.c,vi d9.num.d,vi d9.exp] X0u x) ?_;rintro _ w9 ⟨D,U⟩;have q:=x;have e:=e.only D (Blk.ne e q rfl);have m:=m.only D (Blk.ne m q rfl);have o:=o.onlyA D B;have p:=Below.only p D aN;have x:=U;refine Za rfl<|ZX bD fun a g _ bE=>?_;refine Zs g fun _ bF=>?_;refine Zm rfl<|Ze (X1c rfl)<|Zt bF fun a g=>?_
   refine Xg g rfl (fun G=>?_) (fun G=>?_)
   ·have aO:=G
    have hn:gridG f C.toNat (i*C.toNat+j)=none:=by rw [X6g (by omega)];revert G;cases f i j<;>simp
    refine Zs g fun _ bG=>?_;refine Ze (Xk (ps:=[]) (cs:=[vi 0,vi 0,.slice none 0 0]) rfl (fun _=>by first|rfl|kernel_rfl))<|Zo (Vw [vi 0,vi 0,.slice none 0 0] X28 e) ?_;rintro _ cA ⟨D,U⟩;have q:=e;have p:=Below.only p D Q;have e:=U;refine Za rfl<|Zt bG fun a g=>?_;refine wp_ret<|X7<|Xw<|X7 ?_;refine X7<|Xw<|Xw<|X7 ?_;refine X7<|Xw<|X7<|X3 g (X1m g rfl (ResV.cellN (l:=[vi 0,vi 0,.slice none 0 0]) rfl X1p (e.at 0) rfl) rfl) ?_
    have he:matOf R C f=none:=by rw [matOf,if_pos hy,X9i hn _ (X77 (by omega) (by omega))];rfl
    rw [he]
    exact ⟨none,0,rfl,(Own.nil _ _ _ _ _),p⟩
   have aO:=G
   have hx:gridG f C.toNat (i*C.toNat+j)=some d9:=by rw [X6g (by omega)];have h8:=G;cases h7:f i j with
    | none=>rw [h7] at h8;simp at h8
    | some y9=>rw [bS y9 h7]
   refine wp_skip<|bE _ _<|Zr g<|Ze (Vd rfl X2n 2)<|Ze (X0 rfl X54 (m.at 2))<|Ze (Vn X0i x)<|Zf (Xb (k:=1) (vs:=[.agg #[vi d9.num.a,vi d9.num.b,vi d9.num.c,vi d9.num.d,vi d9.exp]]) (zs:=[vi d9.num.a,vi d9.num.b,vi d9.num.c,vi d9.num.d,vi d9.exp]) rfl X3v Xas rfl rfl) ?_;rintro _ cC ⟨b36,rfl,aH,h,W⟩
   have aS:bU≠b36:=by have:=x.lt;omega
   have bW:=Nat.le_trans p.size aH;have N:=o.away aH;have e:=e.below h;have m:=m.below h;have x:=x.below h;have o:=o.below h;have p:=btr p h;refine Zf (X1e (enc:=encD) (l:=(l2)) (l2:=([d9])) (B0:=H.heap.size) rfl rfl X3v Xas X5m Xgc o (Rd.of_blk W rfl _ W.lt) (by simp only [maxLen];simp;omega) (by simp;omega) p.size) ?_;rintro _ cD ⟨aP,aQ,rfl,aA,hg,aR⟩
   have M:Own _ H.heap.size 87 5 encD _ _ (l2):=o
   have aT:=aR _ x.lt B;have aU:=aR _ W.lt N;clear aR;have e:=e.appT M hg rfl;have m:=m.appT M hg rfl;have p:=Below.app p M hg (Nat.le_refl _) p.size;clear M hg;refine Ze (Vd rfl X2n 2)<|Zo (Vu (vs:=[.slice aP (l2++([d9])).length aQ]) (l':=[vi R,vi C,.slice aP (l2++([d9])).length aQ]) rfl rfl Xn1 m) ?_;rintro _ cE ⟨D,U⟩;have q:=m;have e:=e.only D (by omega);have aA:=aA.onlyT D q rfl;have p:=Below.only p D aF;have m:=U;refine Zn fun a g=>?_;refine Xa<|b9 _ _<|Zr g<|Ze (Xu rfl rfl (by omega) (by omega))<|Zm rfl ?_;refine Zn fun a g=>?_;refine Xd ?_;exact ⟨(j+1,l2++[d9]),⟨aP,aQ,g.sb,(by omega),(X7b aD hx),e,m,aA,p⟩,(by first|omega|(dsimp only;omega))⟩
  have aM:=u;have u:=of_decide_eq_false u
  have aE:j=C.toNat:=by omega
  refine wp_exit<|Xi<|Xi<|X03 ?_;refine Xa<|b2 _ _<|Zr g<|Ze (Xu rfl rfl (by omega) (by omega))<|Zm rfl ?_;refine Zn fun a g=>?_;refine Xd ?_;exact ⟨(i+1,l2),⟨aB,aC,g.sb,(by omega),(by rw [Nat.add_mul,Nat.one_mul,← aE];rw [← aE] at aD;exact aD),e,m,o,p⟩,(by first|omega|(dsimp only;omega))⟩
 have aK:=t;have t:=of_decide_eq_false t
 have aL:i=R.toNat:=by omega
 refine wp_exit<|Xi<|Xi<|X03 ?_;refine aY _ _<|Zs g fun _ bH=>?_;refine Ze (Vn X1p m)<|Zo (Vw [vi R,vi C,.slice I l.length J] X28 e) ?_;rintro _ cF ⟨D,U⟩;have q:=e;have L:=L.onlyT D q rfl;have p:=Below.only p D Q;have e:=U;refine Za rfl<|Zt bH fun a g=>?_
 refine wp_ret (X3 g (X1m g rfl (ResV.cellN (l:=[vi R,vi C,.slice I l.length J]) rfl X1p (e.at 0) rfl) rfl) ?_)
 have he:matOf R C f=some ⟨R,C,l⟩:=by rw [matOf,if_pos hy,← aL,hl];rfl
 rw [he]
 exact ⟨I,J,rfl,L,p⟩
theorem Xyj(N:World)(p:Ps)(Ap:Option Addr)(cp:Nat)(U:Rd N N.heap.size 76 encT Ap p.ts)(Bp:Option Addr)(dp:Nat)(W:Rd N N.heap.size 34 encA Bp p.out)(L:validP p=true) : Ret Tryz.prog 12 [.agg #[vi p.ins,vi p.vars,vi p.root,vi p.phase,.slice Ap p.ts.length cp,.slice Bp p.out.length dp]] N (fun v w=>∃ A c,v=.tuple #[mV A c ((opPs p).getD mZ),.bool (opPs p).isSome]∧Own w N.heap.size 87 5 encD A c ((opPs p).getD mZ).cells∧Below N.heap.size N w):=by
 have hV:=VPs.of L;have hR:=VPr.of L;have bU:=hV.ins;have cA:=hV.vars
 have cC:=X6h (show p.ins.toNat≤24 by omega)
 have bW:=X6h (show (p.ins+p.vars).toNat≤24 by omega)
 have aA:(2^p.ins.toNat)≤32:=Nat.pow_le_pow_right (n:=2) (by decide) (show p.ins.toNat≤5 by omega)
 have bG:(2^p.ins.toNat)*(2^p.ins.toNat)≤1024:=Nat.mul_le_mul aA aA
 have bH:=hR.root;have cD:=hR.len;have cE:=hR.out
 have bJ:=fun A=>X9m A p.ins.toNat
 refine enter Tryz.func12 rfl 78 rfl rfl ?_;intro a t
 have x:=bz N
 refine Zs t fun _ bK=>?_;refine Zf (X14 (zs:=[vi p.ins,vi p.vars,vi p.root,vi p.phase,.slice Ap p.ts.length cp,.slice Bp p.out.length dp]) rfl rfl) ?_;rintro _ w1 ⟨b4,rfl,bL,h,d⟩;have bX:=Nat.le_trans x.size bL;have x:=btr x h;refine Zf (X6 (zs:=[vi 0,vi 0,.slice none 0 0]) X4q rfl) ?_;rintro _ w2 ⟨b6,rfl,bN,h,e⟩;have aE:=Nat.le_trans x.size bN;have d:=d.below h;have x:=btr x h;refine Za rfl<|ZX bK fun a t _ bO=>?_;refine wp_seq_k fun _ bP=>?_;refine X0j (fun a w=>Fr a 78 [(1,.pointer (some ⟨b4,0,none⟩)),(2,.pointer (some ⟨b6,0,none⟩)),(21,.bool ((!(validP p))||(decide (10<(p.ins+p.vars)))))]∧Below w2.heap.size w2 w) ?_ ?_
 ·have aD:Below w2.heap.size w2 w2:=Below.refl _ _
  refine Zr t<|Ze (Vn Xh d)<|Zf (Vc (Xol _ p Ap cp (U.below' x).top Bp dp (W.below' x).top hV.ts.mks (by omega) (by omega) (by omega)) Xdi) ?_;rintro _ w3 ⟨rfl,h⟩;have d:=d.below h;have x:=btr x h;have aD:=btr aD h;refine Ze (X1c rfl)<|Zm rfl ?_
  refine Zg 14 rfl (fun B=>?_) (fun B=>?_)
  ·refine Zp (gP B) ?_;refine Zp (gP B) ?_;refine Zp (gP B) ?_;refine Zp (gP B) ?_;refine Zp (gP B) ?_;refine Zp (gP B) ?_;refine Ze (X5 rfl B rfl) ?_;refine Zn fun a t=>?_
   have aF:Below w2.heap.size w2 w3:=aD
   exact ⟨t.sub ⟨rfl,rfl,X1 rfl (by first|rfl|(simp only [B,bs];done)|simp [B]),trivial⟩,aF⟩
  refine Zv (gW B) (Vd rfl X09 0) ?_;refine Zv (gW B) (X0 rfl X2 (d.at 0)) ?_;refine Zv (gW B) (Vd rfl X0n 1) ?_;refine Zv (gW B) (X0 rfl X2 (d.at 1)) ?_;refine Zv (gW B) (Xu rfl rfl (by omega) (by omega)) ?_;refine Zv (gW B) (X42 rfl rfl) ?_;refine Ze (Xc rfl B rfl) ?_;refine Zn fun a t=>?_
  have aF:Below w2.heap.size w2 w3:=aD
  exact ⟨t.sub ⟨rfl,rfl,X1 rfl (by first|rfl|(simp only [B,bs];done)|simp [B]),trivial⟩,aF⟩
 rintro a w4 ⟨t,h⟩;have d:=d.below h;have e:=e.below h;have x:=btr x h;refine bP _ _ ?_
 refine Xg t rfl (fun G=>?_) (fun G=>?_)
 ·have aG:=G
  have aM:10<p.ins+p.vars:=by have:=G;rw [L] at this;simpa using this
  have he:opPs p=none:=by unfold opPs;rw [L,decide_eq_false (by omega)];rfl
  refine Zs t fun _ aN=>?_;refine Ze (Xk (ps:=[]) (cs:=[vi 0,vi 0,.slice none 0 0]) rfl (fun _=>by first|rfl|kernel_rfl))<|Zo (Vw [vi 0,vi 0,.slice none 0 0] X28 e) ?_;rintro _ w5 ⟨E,hb⟩;have y:=e;have x:=Below.only x E aE;have e:=hb;refine Za rfl<|Zt aN fun a t=>?_;refine wp_ret<|X7<|X3 t (X1m t rfl (ResV.cellN (l:=[vi 0,vi 0,.slice none 0 0]) rfl X1p (e.at 0) rfl) rfl) ?_
  rw [he]
  exact ⟨none,0,rfl,(Own.nil _ _ _ _ _),x⟩
 have aG:=G
 have aM:p.ins+p.vars≤10:=by have:=G;rw [L] at this;simp at this;omega
 have hK:2^(p.ins+p.vars).toNat≤1024:=Nat.pow_le_pow_right (n:=2) (by decide) (show (p.ins+p.vars).toNat≤10 by omega)
 refine wp_skip<|bO _ _<|Zs t fun _ aO=>?_;refine Ze (Vd rfl X09 0)<|Ze (X0 rfl X2 (d.at 0))<|Ze (Vx (X2i (m:=p.ins.toNat) rfl rfl (by omega) (by omega)) (X55 (by omega)))<|Zf (X6 (zs:=[vi 0]) z_3 rfl) ?_;rintro _ w6 ⟨H,rfl,aP,h,b⟩;have aH:=Nat.le_trans x.size aP;have d:=d.below h;have e:=e.below h;have x:=btr x h;refine Zo (Vw [vi ((2^p.ins.toNat:Nat) : Int)] X12 b) ?_;rintro _ w7 ⟨E,hb⟩;have y:=b;have d:=d.only E (Blk.ne d y rfl);have e:=e.only E (Blk.ne e y rfl);have x:=Below.only x E aH;have b:=hb;refine Zx aO fun a t _ aQ=>?_;refine Ze (X0 rfl X2 (b.at 0))<|Ze (X0 rfl X2 (b.at 0))<|Ze (Xjb (m:=(2^p.ins.toNat)) (k:=(2^p.ins.toNat)) rfl rfl (by omega))<|Zf (Xhg (m:=((2^p.ins.toNat)*(2^p.ins.toNat) : Nat)) (enc:=encO) (z0:=ocZ) rfl rfl Xaj Xlk Xvs rfl X6u (by omega) (by omega)) ?_;rintro _ w8 ⟨Q,rfl,aR,h,g⟩;have aI:=Nat.le_trans x.size aR;have d:=d.below h;have e:=e.below h;have b:=b.below h;have x:=btr x h;refine Zf (X6 (zs:=[.slice none 0 0]) Xxp rfl) ?_;rintro _ w9 ⟨I,rfl,aS,h,o⟩;have aJ:=Nat.le_trans x.size aS;have d:=d.below h;have e:=e.below h;have b:=b.below h;have g:=g.below h;have x:=btr x h;refine Zo (Vw [.slice (some ⟨Q,0,none⟩) ((2^p.ins.toNat)*(2^p.ins.toNat) : Nat) ((2^p.ins.toNat)*(2^p.ins.toNat) : Nat)] Xsb o) ?_;rintro _ cF ⟨E,hb⟩;have y:=o;have d:=d.only E (Blk.ne d y rfl);have e:=e.only E (Blk.ne e y rfl);have b:=b.only E (Blk.ne b y rfl);have g:=g.only E (Blk.ne g y rfl);have x:=Below.only x E aJ
 clear y;have o:=hb;refine ZX aQ fun a t _ aT=>?_;refine Zs t fun _ aU=>?_;refine Ze (Vd rfl X09 0)<|Ze (X0 rfl X2 (d.at 0))<|Ze (Vd rfl X0n 1)<|Ze (X0 rfl X2 (d.at 1))<|Ze (Xu rfl rfl (by omega) (by omega)) ?_;refine Ze (Vx (X2i (m:=(p.ins+p.vars).toNat) rfl rfl (by omega) (by omega)) (X55 (by omega)))<|Zm rfl<|Zt aU fun a t=>?_;refine wp_block ?_
 rw [Xk5 p (2^p.ins.toNat)] at g
 refine X06 (σ:=Nat) (fun (n:Nat) (a:Act) (w:World)=>Fr a 78 [(1,.pointer (some ⟨b4,0,none⟩)),(2,.pointer (some ⟨b6,0,none⟩)),(4,.pointer (some ⟨H,0,none⟩)),(5,.pointer (some ⟨I,0,none⟩)),(35,vi ((2^(p.ins+p.vars).toNat:Nat) : Int)),(36,vi (n:Int))]∧(n≤2^(p.ins+p.vars).toNat)∧Blk w b4 30 [vi p.ins,vi p.vars,vi p.root,vi p.phase,.slice Ap p.ts.length cp,.slice Bp p.out.length dp]∧Blk w b6 42 [vi 0,vi 0,.slice none 0 0]∧Blk w H 3 [vi ((2^p.ins.toNat:Nat) : Int)]∧Blk w Q 82 ((cntO p (2^p.ins.toNat) n).flatMap encO)∧Blk w I 79 [.slice (some ⟨Q,0,none⟩) ((2^p.ins.toNat)*(2^p.ins.toNat) : Nat) ((2^p.ins.toNat)*(2^p.ins.toNat) : Nat)]∧Below N.heap.size N w) (fun (n:Nat)=>2^(p.ins+p.vars).toNat-n) 0 ?_ ?_
 ·exact ⟨t.sb,(Nat.zero_le _),d,e,b,g,o,x⟩
 rintro n a cG ⟨t,hn,d,e,b,g,o,x⟩;refine Zs t fun _ aW=>?_;refine Ze (X1n rfl rfl)<|ZX aW fun a t _ aX=>?_
 refine Xg t rfl (fun C=>?_) (fun C=>?_)
 ·have aK:=C;have C:=of_decide_eq_true C
  have cH:n<2^(p.ins+p.vars).toNat:=by have:=C;omega
  refine wp_skip<|aX _ _<|wp_seq_k fun _ aY=>?_;refine wp_block<|Zs t fun _ aZ=>?_;refine Zm rfl<|Za rfl<|Zx aZ fun a t _ b0=>?_;refine Za rfl<|ZX b0 fun a t _ b1=>?_;refine Zs t fun _ b2=>?_;refine Ze (Vd rfl X09 0)<|Ze (X0 rfl X2 (d.at 0))<|Zm rfl<|Zt b2 fun a t=>?_;refine wp_block<|X06 (σ:=Nat) (fun (q:Nat) (a:Act) (w:World)=>Fr a 78 [(1,.pointer (some ⟨b4,0,none⟩)),(2,.pointer (some ⟨b6,0,none⟩)),(4,.pointer (some ⟨H,0,none⟩)),(5,.pointer (some ⟨I,0,none⟩)),(6,vi (n:Int)),(7,vi ((colP q n:Nat) : Int)),(35,vi ((2^(p.ins+p.vars).toNat:Nat) : Int)),(36,vi (n:Int)),(40,vi p.ins),(41,vi (q:Int))]∧((q:Int)≤p.ins)∧Blk w b4 30 [vi p.ins,vi p.vars,vi p.root,vi p.phase,.slice Ap p.ts.length cp,.slice Bp p.out.length dp]∧Blk w b6 42 [vi 0,vi 0,.slice none 0 0]∧Blk w H 3 [vi ((2^p.ins.toNat:Nat) : Int)]∧Blk w Q 82 ((cntO p (2^p.ins.toNat) n).flatMap encO)∧Blk w I 79 [.slice (some ⟨Q,0,none⟩) ((2^p.ins.toNat)*(2^p.ins.toNat) : Nat) ((2^p.ins.toNat)*(2^p.ins.toNat) : Nat)]∧Below N.heap.size N w) (fun (q:Nat)=>p.ins.toNat-q) 0 ?_ ?_
  ·exact ⟨t.sb,(by omega),d,e,b,g,o,x⟩
  rintro q a cJ ⟨t,hq,d,e,b,g,o,x⟩;refine Zs t fun _ b3=>?_;refine Ze (X1n rfl rfl)<|ZX b3 fun a t _ b5=>?_
  refine Xg t rfl (fun D=>?_) (fun D=>?_)
  ·have aL:=D;have D:=of_decide_eq_true D
   have cK:(q:Int)<p.ins:=D
   have bY:colP (q+1) n<64:=Nat.lt_of_lt_of_le (X9m n (q+1)) (Nat.pow_le_pow_right (n:=2) (by decide) (show q+1≤6 by omega))
   have bR:=X9m n q
   have bZ:colP q n<32:=Nat.lt_of_lt_of_le bR (Nat.pow_le_pow_right (n:=2) (by decide) (show q≤5 by omega))
   refine wp_skip<|b5 _ _<|wp_seq_k fun _ b7=>?_;refine wp_block<|Zs t fun _ b8=>?_;refine Zm rfl<|Za rfl<|Zt b8 fun a t=>?_;refine Zr t<|Zm rfl<|Ze (X2y rfl rfl (by omega) (by omega))<|Zm rfl<|Zm rfl<|Ze (X6v (m:=q) rfl rfl rfl (by omega)) ?_;refine Ze (X69 rfl rfl)<|Ze (X3p (k:=((colP (q+1) n:Nat) : Int)) rfl rfl (Xll (by omega)) (by omega) (by omega))<|Za rfl ?_;refine Zn fun a t=>?_;refine Xa<|b7 _ _<|Zr t<|Ze (Xu rfl rfl (by omega) (by omega))<|Zm rfl ?_;refine Zn fun a t=>?_;refine Xd ?_;exact ⟨q+1,⟨t.sb,(by omega),d,e,b,g,o,x⟩,(by omega)⟩
  have aL:=D;have D:=of_decide_eq_false D
  have b9:q=p.ins.toNat:=by have:=D;omega
  have bC:rowP p n<(2^p.ins.toNat):=by rw [← Xfv (n:=p.ins.toNat) (by omega)];exact Xe8 p n _
  have cL:colP q n<(2^p.ins.toNat):=by rw [b9];exact X9m n _
  have M:(celP p (2^p.ins.toNat) n)<(2^p.ins.toNat)*(2^p.ins.toNat):=X77 bC (X9m n _)
  have cM:rowP p n*(2^p.ins.toNat)≤1024:=Nat.le_trans (Nat.mul_le_mul (Nat.le_of_lt bC) (Nat.le_refl _)) bG
  have cN:((ocAt p (2^p.ins.toNat) n (celP p (2^p.ins.toNat) n)).f (pwP p n))=((cntC p (2^p.ins.toNat) n (celP p (2^p.ins.toNat) n) (pwP p n) : Nat) : Int):=rfl
  have c4:=Xoo p (2^p.ins.toNat) n (celP p (2^p.ins.toNat) n) (pwP p n)
  have cO:rowP p n*(2^p.ins.toNat)+colP q n=(celP p (2^p.ins.toNat) n):=by rw [b9];rfl
  have bD:powP p n % 8=((pwP p n:Nat) : Int):=by unfold pwP;omega
  refine wp_exit<|Xi<|Xi<|X03 ?_;refine b1 _ _<|Zs t fun _ bE=>?_;refine Ze (Vn Xh d)<|Zm rfl<|Zf (Vc (Y09 _ p Ap cp (U.below' x).top Bp dp (W.below' x).top n L (by omega)) Xq8) ?_;rintro _ cP ⟨rfl,h⟩;have d:=d.below h;have e:=e.below h;have b:=b.below h;have g:=g.below h;have o:=o.below h;have x:=btr x h;refine Zm rfl<|Ze (X8 (vs:=[vi ((rowP p n:Nat) : Int),vi (powP p n % 8)]) rfl rfl)<|Ze (X8 (vs:=[vi ((rowP p n:Nat) : Int),vi (powP p n % 8)]) rfl rfl)<|Za rfl<|Za rfl ?_;refine Zt bE fun a t=>?_;refine Xq none (fun j=>[13].contains j) mixed ?_;intro cQ h;have d:=d.below h;have e:=e.below h;have b:=b.below h;have g:=g.below h;have o:=o.below h;have x:=btr x h;refine Yb t<|Ye 0 rfl (X0 rfl Xjv (o.at 0))<|Yo 1 rfl (fun _=>X4 rfl)<|Ye 2 rfl (X0 rfl X2 (b.at 0))<|Yo 3 rfl (fun _=>Xjb (m:=rowP p n) (k:=(2^p.ins.toNat)) rfl rfl (by omega))<|Yo 4 rfl (fun _=>X4 rfl) ?_;refine Yo 5 rfl (fun _=>X3p (k:=((celP p (2^p.ins.toNat) n:Nat) : Int)) rfl rfl (by omega) (by omega) (by omega))<|Yo 6 rfl (fun _=>X4 rfl)<|Yo 7 rfl (fun _=>Xj5 (k:=(celP p (2^p.ins.toNat) n)) (off:=(celP p (2^p.ins.toNat) n)*8) rfl rfl Xaj Xdt rfl M rfl)<|Yo 8 rfl (fun _=>X2o (k:=(pwP p n)) (m:=(celP p (2^p.ins.toNat) n)*8+(pwP p n)) rfl rfl Tryz.underlying82 X12 bD (Xb4 p n) (by omega))<|Ye 9 rfl (Xpo (l:=(cntO p (2^p.ins.toNat) n)) (u:=(ocAt p (2^p.ins.toNat) n (celP p (2^p.ins.toNat) n))) rfl X2 g (Xbg M) (Xb4 p n)) ?_;refine Yo 10 rfl (fun _=>Xu rfl rfl (by omega) (by omega))<|Yo 11 rfl (fun _=>Xj5 (k:=(celP p (2^p.ins.toNat) n)) (off:=(celP p (2^p.ins.toNat) n)*8) rfl rfl Xaj Xdt rfl M rfl)<|Yo 12 rfl (fun _=>X2o (k:=(pwP p n)) (m:=(celP p (2^p.ins.toNat) n)*8+(pwP p n)) rfl rfl Tryz.underlying82 X12 bD (Xb4 p n) (by omega))<|Y1 13 ?_
  refine Yh rfl trivial rfl (Xnt (l:=(cntO p (2^p.ins.toNat) n)) (u:=(ocAt p (2^p.ins.toNat) n (celP p (2^p.ins.toNat) n))) rfl rfl X12 g (Xbg M) (Xb4 p n)) ?_;rintro _ cR ⟨E,hb⟩;have y:=g;have d:=d.only E (Blk.ne d y rfl);have e:=e.only E (Blk.ne e y rfl);have b:=b.only E (Blk.ne b y rfl);have o:=o.only E (Blk.ne o y rfl);have x:=Below.only x E aI;have g:=hb;refine Yd fun a t=>?_;refine Xa<|aY _ _<|Zr t<|Ze (Xu rfl rfl (by omega) (by omega))<|Zm rfl ?_;refine Zn fun a t=>?_
  rw [Xke rfl rfl] at g
  refine Xd ?_;exact ⟨n+1,⟨t.sb,(by omega),d,e,b,g,o,x⟩,(by omega)⟩
 have aK:=C;have C:=of_decide_eq_false C
 have bS:n=2^(p.ins+p.vars).toNat:=by have:=C;omega
 refine wp_exit<|Xi<|Xi<|X03 ?_;refine aT _ _<|Zs t fun _ bF=>?_;refine Ze (X0 rfl X2 (b.at 0))<|Ze (X0 rfl X2 (b.at 0))<|Ze (X5k (vs:=[.pointer (some ⟨I,0,none⟩),.pointer (some ⟨H,0,none⟩),.pointer (some ⟨b4,0,none⟩)]) rfl)<|Zf (X91 (vs:=[vi ((2^p.ins.toNat:Nat) : Int),vi ((2^p.ins.toNat:Nat) : Int),.func (.func 40) #[] #[.pointer (some ⟨I,0,none⟩),.pointer (some ⟨H,0,none⟩),.pointer (some ⟨b4,0,none⟩)]]) rfl Xee (Y0w _ ((2^p.ins.toNat:Nat) : Int) ((2^p.ins.toNat:Nat) : Int) 40 [.pointer (some ⟨I,0,none⟩),.pointer (some ⟨H,0,none⟩),.pointer (some ⟨b4,0,none⟩)] Xr1 (fun i j=>sclI (cellP p i j (2^(p.ins+p.vars).toNat)) p.root) (fun i j w' hi hj hE'=>Xzl w' i j (2^p.ins.toNat) I (some ⟨Q,0,none⟩) ((2^p.ins.toNat)*(2^p.ins.toNat) : Nat) (cntO p (2^p.ins.toNat) n) (Rd.of_blk (g.below hE') rfl _ (g.below hE').lt) (by rw [Xo7];exact o.below hE') H (b.below hE') b4 p Ap cp ((U.below' x).top.below hE').top Bp dp ((W.below' x).top.below hE').top (d.below hE') (fun i j=>cellP p i j (2^(p.ins+p.vars).toNat)) aA hi hj bH (fun i j=>Xb8 p i j (by omega)) (fun i j hi hj=>⟨_,Xbg (X77 hi hj),fun k _=>⟨Int.natCast_nonneg _,by have:=Xoo p (2^p.ins.toNat) n (i*(2^p.ins.toNat)+j) k;show ((cntC p (2^p.ins.toNat) n (i*(2^p.ins.toNat)+j) k:Nat) : Int)≤1024;omega⟩,by rw [← bS];exact Xg2 hj bJ n⟩)))) ?_;rintro _ cS ⟨aB,aC,rfl,J,h⟩;have J:=J.lower x.size;have e:=e.below h;have x:=btr x h;refine Ze (X8 (vs:=[.agg #[vi (((matOf ((2^p.ins.toNat:Nat) : Int) ((2^p.ins.toNat:Nat) : Int) (fun i j=>sclI (cellP p i j (2^(p.ins+p.vars).toNat)) p.root)).getD mZ).rows),vi (((matOf ((2^p.ins.toNat:Nat) : Int) ((2^p.ins.toNat:Nat) : Int) (fun i j=>sclI (cellP p i j (2^(p.ins+p.vars).toNat)) p.root)).getD mZ).cols),.slice aB (((matOf ((2^p.ins.toNat:Nat) : Int) ((2^p.ins.toNat:Nat) : Int) (fun i j=>sclI (cellP p i j (2^(p.ins+p.vars).toNat)) p.root)).getD mZ).cells).length aC],.bool ((matOf ((2^p.ins.toNat:Nat) : Int) ((2^p.ins.toNat:Nat) : Int) (fun i j=>sclI (cellP p i j (2^(p.ins+p.vars).toNat)) p.root)).isSome)]) rfl rfl)<|Ze (X8 (vs:=[.agg #[vi (((matOf ((2^p.ins.toNat:Nat) : Int) ((2^p.ins.toNat:Nat) : Int) (fun i j=>sclI (cellP p i j (2^(p.ins+p.vars).toNat)) p.root)).getD mZ).rows),vi (((matOf ((2^p.ins.toNat:Nat) : Int) ((2^p.ins.toNat:Nat) : Int) (fun i j=>sclI (cellP p i j (2^(p.ins+p.vars).toNat)) p.root)).getD mZ).cols),.slice aB (((matOf ((2^p.ins.toNat:Nat) : Int) ((2^p.ins.toNat:Nat) : Int) (fun i j=>sclI (cellP p i j (2^(p.ins+p.vars).toNat)) p.root)).getD mZ).cells).length aC],.bool ((matOf ((2^p.ins.toNat:Nat) : Int) ((2^p.ins.toNat:Nat) : Int) (fun i j=>sclI (cellP p i j (2^(p.ins+p.vars).toNat)) p.root)).isSome)]) rfl rfl)<|Zo (Vw [vi (((matOf ((2^p.ins.toNat:Nat) : Int) ((2^p.ins.toNat:Nat) : Int) (fun i j=>sclI (cellP p i j (2^(p.ins+p.vars).toNat)) p.root)).getD mZ).rows),vi (((matOf ((2^p.ins.toNat:Nat) : Int) ((2^p.ins.toNat:Nat) : Int) (fun i j=>sclI (cellP p i j (2^(p.ins+p.vars).toNat)) p.root)).getD mZ).cols),.slice aB (((matOf ((2^p.ins.toNat:Nat) : Int) ((2^p.ins.toNat:Nat) : Int) (fun i j=>sclI (cellP p i j (2^(p.ins+p.vars).toNat)) p.root)).getD mZ).cells).length aC] X28 e) ?_;rintro _ cU ⟨E,hb⟩
 have y:=e;have J:=J.onlyT E y rfl;have x:=Below.only x E aE;have e:=hb;refine Za rfl<|Zt bF fun a t=>?_
 refine wp_ret (X3 t (X1m t rfl (ResV.cellN (l:=[vi (((matOf ((2^p.ins.toNat:Nat) : Int) ((2^p.ins.toNat:Nat) : Int) (fun i j=>sclI (cellP p i j (2^(p.ins+p.vars).toNat)) p.root)).getD mZ).rows),vi (((matOf ((2^p.ins.toNat:Nat) : Int) ((2^p.ins.toNat:Nat) : Int) (fun i j=>sclI (cellP p i j (2^(p.ins+p.vars).toNat)) p.root)).getD mZ).cols),.slice aB (((matOf ((2^p.ins.toNat:Nat) : Int) ((2^p.ins.toNat:Nat) : Int) (fun i j=>sclI (cellP p i j (2^(p.ins+p.vars).toNat)) p.root)).getD mZ).cells).length aC]) rfl X1p (e.at 0) rfl) rfl) ?_)
 have he:opPs p=matOf ((2^p.ins.toNat:Nat) : Int) ((2^p.ins.toNat:Nat) : Int) (fun i j=>sclI (cellP p i j (2^(p.ins+p.vars).toNat)) p.root):=by unfold opPs;rw [L,decide_eq_true aM];rfl
 rw [he]
 exact ⟨aB,aC,rfl,J,x⟩
theorem Xzv(g:World)(Al:Option Addr)(cl:Nat)(l:List Tm)(aE:Rd g g.heap.size 76 encT Al l)(Am:Option Addr)(cm:Nat)(m:List Tm)(aF:Rd g g.heap.size 76 encT Am m)(aG:m=l)(aT:l.length≤2305843009213693951) : Ret Tryz.prog 33 [.slice Al l.length cl,.slice Am m.length cm] g (fun v w=>v=.bool true∧Below g.heap.size g w):=by
 refine enter Tryz.func33 rfl 26 rfl rfl ?_;intro a b
 have j:=bz g
 refine Zs b fun _ aN=>?_;refine Za rfl<|ZX aN fun a b _ aO=>?_;refine Zs b fun _ aP=>?_;refine Zm rfl<|Ze (X1f rfl X05)<|Zm rfl<|Ze (X1f rfl X05)<|Ze (X4v rfl rfl) ?_;refine Zt aP fun a b=>?_
 refine Xg b rfl (fun i=>?_) (fun i=>?_)
 ·have aH:=i;exact absurd i (by rw [aG];simp)
 have aH:=i;refine wp_skip<|aO _ _<|wp_seq_k fun _ aQ=>?_;refine Zs b fun _ aR=>?_;refine Zm rfl<|Ze (X1f rfl X05)<|Zm rfl<|Zt aR fun a b=>?_;refine wp_block<|X06 (σ:=Nat) (fun (k:Nat) (a:Act) (w:World)=>Fr a 26 [(0,.slice Al l.length cl),(1,.slice Am m.length cm),(12,vi (l.length:Int)),(13,vi (k:Int))]∧(k≤l.length)∧Below g.heap.size g w) (fun (k:Nat)=>l.length-k) 0 ?_ ?_
 ·exact ⟨b.sb,(Nat.zero_le _),j⟩
 rintro k a w1 ⟨b,hk,j⟩;refine Zs b fun _ aS=>?_;refine Ze (X1n rfl rfl)<|ZX aS fun a b _ aI=>?_
 refine Xg b rfl (fun d=>?_) (fun d=>?_)
 ·have aA:=d;have d:=of_decide_eq_true d
  obtain ⟨e,n⟩:=Xm (l:=l) (k:=k) (by omega)
  refine wp_skip<|aI _ _<|wp_seq_k fun _ aJ=>?_;refine wp_block<|Zs b fun _ aK=>?_;refine Zm rfl<|Za rfl<|ZX aK fun a b _ aL=>?_;refine Xq none (fun _=>false) mixed ?_;intro w2 hE;have j:=btr j hE;refine Yb b<|Yo 0 rfl (fun _=>X4 rfl)<|Yo 1 rfl (fun _=>X4 rfl)<|Yi (k:=k) (u:=e) (enc:=encT) (l:=l) 2 rfl trivial rfl rfl X05 X1h X0m (aE.below' j) n rfl ?_;intro aU aB;refine Ye 3 rfl (X0b (l:=[vi e.m,vi e.c]) rfl X46 aB rfl)<|Yo 4 rfl (fun _=>X4 rfl)<|Yo 5 rfl (fun _=>X4 rfl)<|Yi (k:=k) (u:=e) (enc:=encT) (l:=m) 6 rfl trivial rfl rfl X05 X1h X0m (aF.below' j) (by rw [aG];exact n) rfl ?_;intro aW aC;refine Ye 7 rfl (X0b (l:=[vi e.m,vi e.c]) rfl X46 aC rfl)<|Yo 8 rfl (fun _=>Xn6 rfl rfl Xre (fun w=>Xq4 9998 e e w)) ?_;refine Yd fun a b=>?_;refine aL _ _ ?_
  refine Xg b rfl (fun f=>?_) (fun f=>?_)
  ·have aD:=f;exact absurd f (by simp)
  have aD:=f;refine wp_skip<|Xa<|aJ _ _<|Zr b ?_;refine Ze (Xu rfl rfl (by omega) (by omega))<|Zm rfl ?_;refine Zn fun a b=>?_;refine Xd ?_;exact ⟨k+1,⟨b.sb,(by omega),j⟩,(by omega)⟩
 have aA:=d;have d:=of_decide_eq_false d;refine wp_exit<|Xi<|Xi<|X03 ?_;refine aQ _ _<|Zs b fun _ aM=>?_;refine Za rfl<|Zt aM fun a b=>?_
 refine wp_ret (X3 b (Xz b rfl rfl) ?_)
 exact ⟨rfl,j⟩
theorem Xtl(A:World)(p:Ps)(Ap:Option Addr)(cp:Nat)(aG:Rd A A.heap.size 76 encT Ap p.ts)(Bp:Option Addr)(dp:Nat)(aH:Rd A A.heap.size 34 encA Bp p.out)(q:Ps)(Aq:Option Addr)(cq:Nat)(aI:Rd A A.heap.size 76 encT Aq q.ts)(Bq:Option Addr)(dq:Nat)(aJ:Rd A A.heap.size 34 encA Bq q.out)(aA:q=p)(aT:p.ts.length≤2305843009213693951)(b2:p.out.length≤2305843009213693951) : Ret Tryz.prog 10 [.agg #[vi p.ins,vi p.vars,vi p.root,vi p.phase,.slice Ap p.ts.length cp,.slice Bp p.out.length dp],.agg #[vi q.ins,vi q.vars,vi q.root,vi q.phase,.slice Aq q.ts.length cq,.slice Bq q.out.length dq]] A (fun v w=>v=.bool true∧Below A.heap.size A w):=by
 refine enter Tryz.func10 rfl 67 rfl rfl ?_;intro a g
 have n:=bz A
 refine Zs g fun _ aU=>?_;refine Zf (X14 (zs:=[vi p.ins,vi p.vars,vi p.root,vi p.phase,.slice Ap p.ts.length cp,.slice Bp p.out.length dp]) rfl rfl) ?_;rintro _ w1 ⟨b6,rfl,aW,x,f⟩;have b0:=Nat.le_trans n.size aW;have n:=btr n x;refine Zf (X14 (zs:=[vi q.ins,vi q.vars,vi q.root,vi q.phase,.slice Aq q.ts.length cq,.slice Bq q.out.length dq]) rfl rfl) ?_;rintro _ w2 ⟨b7,rfl,aX,x,i⟩
 have aS:b6≠b7:=by have:=f.lt;omega
 have b1:=Nat.le_trans n.size aX;have f:=f.below x;have n:=btr n x;refine Za rfl<|ZX aU fun a g _ aY=>?_;refine wp_seq_k fun _ aZ=>?_;refine X0j (fun a w=>Fr a 67 [(2,.pointer (some ⟨b6,0,none⟩)),(3,.pointer (some ⟨b7,0,none⟩)),(48,.bool ((((((p.ins != q.ins)||(p.vars != q.vars))||(p.root != q.root))||(p.phase != q.phase))&&true)||((p.out.length:Int) != (q.out.length:Int))))]∧Below w2.heap.size w2 w) ?_ ?_
 ·have h:Below w2.heap.size w2 w2:=Below.refl _ _
  refine Zr g<|Ze (Vd rfl X09 0)<|Ze (X0 rfl X2 (f.at 0))<|Ze (Vd rfl X09 0)<|Ze (X0 rfl X2 (i.at 0))<|Ze (X4v rfl rfl) ?_;refine Zm rfl ?_
  refine Zg 11 rfl (fun b=>?_) (fun b=>?_)
  ·refine Zp (gP b) ?_;refine Zp (gP b) ?_;refine Zp (gP b) ?_;refine Zp (gP b) ?_;refine Zp (gP b) ?_;refine Ze (X5 rfl b rfl)<|Zm rfl<|Zp (gP rfl) ?_;refine Zp (gP rfl) ?_;refine Zp (gP rfl) ?_;refine Zp (gP rfl) ?_;refine Zp (gP rfl) ?_;refine Ze (X5 rfl rfl rfl)<|Zm rfl<|Zp (gP rfl) ?_;refine Zp (gP rfl) ?_;refine Zp (gP rfl) ?_;refine Zp (gP rfl) ?_;refine Zp (gP rfl) ?_;refine Ze (X5 rfl rfl rfl)<|Zm rfl<|Zp (gP rfl) ?_;refine Zp (gP rfl) ?_;refine Zp (gP rfl) ?_;refine Zp (gP rfl) ?_;refine Zp (gP rfl) ?_;refine Zp (gP rfl) ?_;refine Ze (X5 rfl rfl rfl)<|Zm rfl<|Zp (gP rfl) ?_;refine Zp (gP rfl) ?_;refine Zp (gP rfl) ?_;refine Zp (gP rfl) ?_;refine Zp (gP rfl) ?_;refine Zp (gP rfl) ?_;refine Zp (gP rfl) ?_;refine Ze (X5 rfl rfl rfl) ?_;refine Zn fun a g=>?_
   have o:Below w2.heap.size w2 w2:=h
   exact ⟨g.sub ⟨rfl,rfl,X1 rfl (by first|rfl|(simp only [b,bs];done)|simp [b]),trivial⟩,o⟩
  refine Zv (gW b) (Vd rfl X0n 1) ?_;refine Zv (gW b) (X0 rfl X2 (f.at 1)) ?_;refine Zv (gW b) (Vd rfl X0n 1) ?_;refine Zv (gW b) (X0 rfl X2 (i.at 1)) ?_;refine Zv (gW b) (X4v rfl rfl) ?_;refine Ze (Xc rfl b rfl)<|Zm rfl ?_
  refine Zg 18 rfl (fun c=>?_) (fun c=>?_)
  ·refine Zp (gP c) ?_;refine Zp (gP c) ?_;refine Zp (gP c) ?_;refine Zp (gP c) ?_;refine Zp (gP c) ?_;refine Ze (X5 rfl c rfl)<|Zm rfl<|Zp (gP rfl) ?_;refine Zp (gP rfl) ?_;refine Zp (gP rfl) ?_;refine Zp (gP rfl) ?_;refine Zp (gP rfl) ?_;refine Ze (X5 rfl rfl rfl)<|Zm rfl<|Zp (gP rfl) ?_;refine Zp (gP rfl) ?_;refine Zp (gP rfl) ?_;refine Zp (gP rfl) ?_;refine Zp (gP rfl) ?_;refine Zp (gP rfl) ?_;refine Ze (X5 rfl rfl rfl)<|Zm rfl<|Zp (gP rfl) ?_;refine Zp (gP rfl) ?_;refine Zp (gP rfl) ?_;refine Zp (gP rfl) ?_;refine Zp (gP rfl) ?_;refine Zp (gP rfl) ?_;refine Zp (gP rfl) ?_;refine Ze (X5 rfl rfl rfl) ?_;refine Zn fun a g=>?_
   have o:Below w2.heap.size w2 w2:=h
   exact ⟨g.sub ⟨rfl,rfl,X1 rfl (by first|rfl|(simp only [b,c,bs];done)|simp [b,c]),trivial⟩,o⟩
  refine Zv (gW c) (Vd rfl X1k 2) ?_;refine Zv (gW c) (X0 rfl X2 (f.at 2)) ?_;refine Zv (gW c) (Vd rfl X1k 2) ?_;refine Zv (gW c) (X0 rfl X2 (i.at 2)) ?_;refine Zv (gW c) (X4v rfl rfl) ?_;refine Ze (Xc rfl c rfl)<|Zm rfl ?_
  refine Zg 25 rfl (fun d=>?_) (fun d=>?_)
  ·refine Zp (gP d) ?_;refine Zp (gP d) ?_;refine Zp (gP d) ?_;refine Zp (gP d) ?_;refine Zp (gP d) ?_;refine Ze (X5 rfl d rfl)<|Zm rfl<|Zp (gP rfl) ?_;refine Zp (gP rfl) ?_;refine Zp (gP rfl) ?_;refine Zp (gP rfl) ?_;refine Zp (gP rfl) ?_;refine Zp (gP rfl) ?_;refine Ze (X5 rfl rfl rfl)<|Zm rfl<|Zp (gP rfl) ?_;refine Zp (gP rfl) ?_;refine Zp (gP rfl) ?_;refine Zp (gP rfl) ?_;refine Zp (gP rfl) ?_;refine Zp (gP rfl) ?_;refine Zp (gP rfl) ?_;refine Ze (X5 rfl rfl rfl) ?_;refine Zn fun a g=>?_
   have o:Below w2.heap.size w2 w2:=h
   exact ⟨g.sub ⟨rfl,rfl,X1 rfl (by first|rfl|(simp only [b,c,d,bs];done)|simp [b,c,d]),trivial⟩,o⟩
  refine Zv (gW d) (Vd rfl X1g 3) ?_;refine Zv (gW d) (X0 rfl X2 (f.at 3)) ?_;refine Zv (gW d) (Vd rfl X1g 3) ?_;refine Zv (gW d) (X0 rfl X2 (i.at 3)) ?_;refine Zv (gW d) (X4v rfl rfl) ?_;refine Ze (Xc rfl d rfl)<|Zm rfl ?_
  refine Zg 32 rfl (fun e=>?_) (fun e=>?_)
  ·refine Zp (gP e) ?_;refine Zp (gP e) ?_;refine Zp (gP e) ?_;refine Zp (gP e) ?_;refine Zp (gP e) ?_;refine Zp (gP e) ?_;refine Ze (X5 rfl e rfl)<|Zm rfl<|Zp (gP rfl) ?_;refine Zp (gP rfl) ?_;refine Zp (gP rfl) ?_;refine Zp (gP rfl) ?_;refine Zp (gP rfl) ?_;refine Zp (gP rfl) ?_;refine Zp (gP rfl) ?_;refine Ze (X5 rfl rfl rfl) ?_;refine Zn fun a g=>?_
   have o:Below w2.heap.size w2 w2:=h
   exact ⟨g.sub ⟨rfl,rfl,X1 rfl (by first|rfl|(simp only [b,c,d,e,bs];done)|simp [b,c,d,e]),trivial⟩,o⟩
  refine Zv (gW e) (Vd rfl X0o 4) ?_;refine Zv (gW e) (X0 rfl X0y (f.at 4)) ?_;refine Zv (gW e) (Vd rfl X0o 4) ?_;refine Zv (gW e) (X0 rfl X0y (i.at 4)) ?_;refine Zk (gW e) (Vc (Xzv _ Ap cp p.ts (aG.below' n).top Aq cq q.ts (aI.below' n).top (by rw [aA]) aT) Xro) ?_;rintro _ w3 ⟨rfl,x⟩;have f:=f.below x;have i:=i.below x;have n:=btr n x;have h:=btr h x;refine Zv (gW e) (X1c rfl) ?_;refine Ze (Xc rfl e rfl)<|Zm rfl<|Zv (gW rfl) (Vd rfl Xx 5) ?_;refine Zv (gW rfl) (X0 rfl X08 (f.at 5)) ?_;refine Zv (gW rfl) (X1f rfl Xr) ?_;refine Zv (gW rfl) (Vd rfl Xx 5) ?_;refine Zv (gW rfl) (X0 rfl X08 (i.at 5)) ?_;refine Zv (gW rfl) (X1f rfl Xr) ?_;refine Zv (gW rfl) (X4v rfl rfl) ?_;refine Ze (Xc rfl rfl rfl) ?_;refine Zn fun a g=>?_
  have o:Below w2.heap.size w2 w3:=h
  exact ⟨g.sub ⟨rfl,rfl,X1 rfl (by first|rfl|(simp only [b,c,d,e,bs];done)|simp [b,c,d,e]),trivial⟩,o⟩
 rintro a w4 ⟨g,x⟩;have f:=f.below x;have i:=i.below x;have n:=btr n x;refine aZ _ _ ?_
 refine Xg g rfl (fun B=>?_) (fun B=>?_)
 ·have aB:=B;exact absurd B (by subst aA;simp)
 have aB:=B;refine wp_skip<|aY _ _<|wp_seq_k fun _ aK=>?_;refine Zs g fun _ aL=>?_;refine Ze (Vd rfl Xx 5)<|Ze (X0 rfl X08 (f.at 5))<|Ze (X1f rfl Xr)<|Zm rfl<|Zt aL fun a g=>?_;refine wp_block<|X06 (σ:=Nat) (fun (k:Nat) (a:Act) (w:World)=>Fr a 67 [(2,.pointer (some ⟨b6,0,none⟩)),(3,.pointer (some ⟨b7,0,none⟩)),(51,vi (p.out.length:Int)),(52,vi (k:Int))]∧(k≤p.out.length)∧Blk w b6 30 [vi p.ins,vi p.vars,vi p.root,vi p.phase,.slice Ap p.ts.length cp,.slice Bp p.out.length dp]∧Blk w b7 30 [vi q.ins,vi q.vars,vi q.root,vi q.phase,.slice Aq q.ts.length cq,.slice Bq q.out.length dq]∧Below A.heap.size A w) (fun (k:Nat)=>p.out.length-k) 0 ?_ ?_
 ·exact ⟨g.sb,(Nat.zero_le _),f,i,n⟩
 rintro k a w5 ⟨g,hk,f,i,n⟩;refine Zs g fun _ aM=>?_;refine Ze (X1n rfl rfl)<|ZX aM fun a g _ aN=>?_
 refine Xg g rfl (fun j=>?_) (fun j=>?_)
 ·have aC:=j;have j:=of_decide_eq_true j
  obtain ⟨y,D⟩:=Xm (l:=p.out) (k:=k) (by omega)
  refine wp_skip<|aN _ _<|wp_seq_k fun _ aO=>?_;refine wp_block<|Zs g fun _ aP=>?_;refine Zm rfl<|Za rfl<|ZX aP fun a g _ aQ=>?_;refine Xq none (fun _=>false) mixed ?_;intro w6 x;have f:=f.below x;have i:=i.below x;have n:=btr n x;refine Yb g<|Yo 0 rfl (fun _=>Vd rfl Xx 5)<|Ye 1 rfl (X0 rfl X08 (f.at 5))<|Yo 2 rfl (fun _=>X4 rfl)<|Yi (k:=k) (u:=y) (enc:=encA) (l:=p.out) 3 rfl trivial rfl rfl Xr Xj Xv (aH.below' n) D rfl ?_;intro b3 aD;refine Ye 4 rfl (X0b (l:=[vi y.m,vi y.t]) rfl Xs aD rfl)<|Yo 5 rfl (fun _=>Vd rfl Xx 5)<|Ye 6 rfl (X0 rfl X08 (i.at 5))<|Yo 7 rfl (fun _=>X4 rfl)<|Yi (k:=k) (u:=y) (enc:=encA) (l:=q.out) 8 rfl trivial rfl rfl Xr Xj Xv (aJ.below' n) (by rw [aA];exact D) rfl ?_;intro b4 aE;refine Ye 9 rfl (X0b (l:=[vi y.m,vi y.t]) rfl Xs aE rfl)<|Yo 10 rfl (fun _=>Xn6 rfl rfl Xqg (fun w=>Xrg 9998 y y w)) ?_;refine Yd fun a g=>?_;refine aQ _ _ ?_
  refine Xg g rfl (fun C=>?_) (fun C=>?_)
  ·have aF:=C;exact absurd C (by simp)
  have aF:=C;refine wp_skip<|Xa<|aO _ _<|Zr g ?_;refine Ze (Xu rfl rfl (by omega) (by omega))<|Zm rfl ?_;refine Zn fun a g=>?_;refine Xd ?_;exact ⟨k+1,⟨g.sb,(by omega),f,i,n⟩,(by omega)⟩
 have aC:=j;have j:=of_decide_eq_false j;refine wp_exit<|Xi<|Xi<|X03 ?_;refine aK _ _<|Zs g fun _ aR=>?_;refine Za rfl<|Zt aR fun a g=>?_
 refine wp_ret (X3 g (Xz g rfl rfl) ?_)
 exact ⟨rfl,n⟩
theorem Xyw(t:World)(p:Ps)(Ap:Option Addr)(cp:Nat)(u:Rd t t.heap.size 76 encT Ap p.ts)(Bp:Option Addr)(dp:Nat)(x:Rd t t.heap.size 34 encA Bp p.out)(aP:p.ts.length≤100000000)(aQ:p.out.length≤100000000) : Ret Tryz.prog 63 [.agg #[vi p.ins,vi p.vars,vi p.root,vi p.phase,.slice Ap p.ts.length cp,.slice Bp p.out.length dp]] t (fun v w=>∃ A9 c9 B9 d9,v=psV A9 c9 B9 d9 p∧Own w t.heap.size 76 2 encT A9 c9 p.ts∧Own w t.heap.size 34 2 encA B9 d9 p.out∧Below t.heap.size t w):=by
 refine enter Tryz.func63 rfl 14 rfl rfl ?_;intro a hf
 have e:=bz t
 refine Zs hf fun _ aK=>?_;refine Zf (X14 (zs:=[vi p.ins,vi p.vars,vi p.root,vi p.phase,.slice Ap p.ts.length cp,.slice Bp p.out.length dp]) rfl rfl) ?_;rintro _ w1 ⟨b4,rfl,aL,i,b⟩;have y:=Nat.le_trans e.size aL;have e:=btr e i;refine Zf (X6 (zs:=[vi 0,vi 0,vi 0,vi 0,.slice none 0 0,.slice none 0 0]) X1o rfl) ?_;rintro _ w2 ⟨b7,rfl,aM,i,d⟩
 have aI:b4≠b7:=by have:=b.lt;omega
 have aB:=Nat.le_trans e.size aM;have b:=b.below i;have e:=btr e i;refine Zx aK fun a hf _ aN=>?_;refine Zf (Xb (k:=0) (vs:=[]) (zs:=[]) rfl X05 X1a rfl rfl) ?_;rintro _ w3 ⟨b9,rfl,aC,i,aO⟩;have aD:=Nat.le_trans e.size aC;have aJ:=(u.below' e).away aC;have b:=b.below i;have d:=d.below i;have e:=btr e i;refine Ze (Vd rfl X0o 4)<|Ze (X0 rfl X0y (b.at 4))<|Zf (Xfk (enc:=encT) (l2:=(p.ts)) rfl rfl X05 X1a X0m X2g aO (u.below' e) (by simp only [maxLen];omega) (by omega)) ?_;rintro _ w4 ⟨j,m,rfl,c,i⟩;have c:=c.lower aD;have b:=b.below i;have d:=d.below i;have e:=btr e i;refine Ze (Vd rfl X0o 4)<|Zo (Vu (vs:=[.slice j p.ts.length m]) (l':=[vi p.ins,vi p.vars,vi p.root,vi p.phase,.slice j p.ts.length m,.slice Bp p.out.length dp]) rfl rfl X29 b) ?_;rintro _ w5 ⟨n,hb⟩;have f:=b;have d:=d.only n (by omega);have c:=c.onlyT n f rfl;have e:=Below.only e n y;have b:=hb;refine Zx aN fun a hf _ aE=>?_;refine Zf (Xb (k:=0) (vs:=[]) (zs:=[]) rfl Xr X1l rfl rfl) ?_;rintro _ w6 ⟨aR,rfl,h,i,aF⟩;have aA:=Nat.le_trans e.size h;have aG:=(x.below' e).away h;have b:=b.below i;have d:=d.below i;have c:=c.below i;have e:=btr e i;refine Ze (Vd rfl Xx 5)<|Ze (X0 rfl X08 (b.at 5))<|Zf (Xfk (enc:=encA) (l2:=(p.out)) rfl rfl Xr X1l Xv X3o aF (x.below' e) (by simp only [maxLen];omega) (by omega)) ?_;rintro _ w7 ⟨o,q,rfl,g,i⟩;have g:=g.lower aA;have b:=b.below i;have d:=d.below i;have c:=c.below i
 have e:=btr e i;refine Ze (Vd rfl Xx 5)<|Zo (Vu (vs:=[.slice o p.out.length q]) (l':=[vi p.ins,vi p.vars,vi p.root,vi p.phase,.slice j p.ts.length m,.slice o p.out.length q]) rfl rfl X2s b) ?_;rintro _ w8 ⟨n,hb⟩;have f:=b;have d:=d.only n (by omega);have c:=c.onlyT n f rfl;have g:=g.onlyT n f rfl;have e:=Below.only e n y;have b:=hb;refine Zx aE fun a hf _ aH=>?_;refine Ze (Vn Xh b)<|Zo (Vw [vi p.ins,vi p.vars,vi p.root,vi p.phase,.slice j p.ts.length m,.slice o p.out.length q] X04 d) ?_;rintro _ w9 ⟨n,hb⟩;have f:=d;have c:=c.onlyT n f rfl;have g:=g.onlyT n f rfl;have e:=Below.only e n aB;have d:=hb;refine Zt aH fun a hf=>?_
 refine wp_ret (X3 hf (Xz hf rfl (ResV.cellN (l:=[vi p.ins,vi p.vars,vi p.root,vi p.phase,.slice j p.ts.length m,.slice o p.out.length q]) rfl Xh (d.at 0) rfl)) ?_)
 exact ⟨j,m,o,q,rfl,c,g,e⟩
theorem Xu5(w0:World)(c:Cx)(Ac:Option Addr)(cc:Nat)(lE:Rd w0 w0.heap.size 55 encG Ac c.gs)(jD:cOk c=true) : Ret Tryz.prog 22 [.agg #[vi c.n,.slice Ac c.gs.length cc]] w0 (fun v w=>∃ A9 c9 B9 d9,v=.tuple #[psV A9 c9 B9 d9 ((psC c).getD psZ),.bool ((psC c).isSome)]∧Rd w w.heap.size 76 encT A9 ((psC c).getD psZ).ts∧Rd w w.heap.size 34 encA B9 ((psC c).getD psZ).out∧((psC c).getD psZ).ts.length≤c9∧Below w0.heap.size w0 w):=by
 obtain ⟨n,hn,qV,qE⟩:=Xc9 jD;have qW:=Xj7 jD;refine enter Tryz.func22 rfl 167 rfl rfl ?_;intro a A
 have C:=bz w0
 refine Zs A fun _ qF=>?_;refine Zf (X14 (zs:=[vi c.n,.slice Ac c.gs.length cc]) rfl rfl) ?_;rintro _ w1 ⟨b3,rfl,qG,p,aK⟩;have qU:=Nat.le_trans C.size qG;have C:=btr C p;refine Zf (X6 (zs:=[vi 0,vi 0,vi 0,vi 0,.slice none 0 0,.slice none 0 0]) X1o rfl) ?_;rintro _ w2 ⟨b6,rfl,qH,p,E⟩;have lF:=Nat.le_trans C.size qH;have aK:=aK.below p;have C:=btr C p;refine Za rfl<|Zx qF fun a A _ qI=>?_;refine Ze (Vd rfl X3h 0)<|Ze (Vx (X0 rfl X2 (aK.at 0)) hn)<|Ze (Xk (ps:=[(0,vi (n:Int))]) (cs:=[vi (n:Int),vi 0,vi 0,vi 0,.slice none 0 0,.slice none 0 0]) rfl (fun _=>by first|rfl|kernel_rfl))<|Zf (X6 (zs:=[vi 0,vi 0,vi 0,vi 0,.slice none 0 0,.slice none 0 0]) X1o rfl) ?_;rintro _ w3 ⟨b12,rfl,oP,p,e⟩
 have oQ:b6≠b12:=by have:=E.lt;omega
 have dC:=Nat.le_trans C.size oP;have aK:=aK.below p;have E:=E.below p;have C:=btr C p;refine Zo (Vw [vi (n:Int),vi 0,vi 0,vi 0,.slice none 0 0,.slice none 0 0] X04 e) ?_;rintro _ w4 ⟨M,hb⟩;have x:=e;have aK:=aK.only M (Blk.ne aK x rfl);have E:=E.only M (by omega);have C:=Below.only C M dC;have e:=hb;refine Zx qI fun a A _ oR=>?_;refine Ze (Xk (ps:=[]) (cs:=[vi 0,.slice none 0 0]) rfl (fun _=>by first|rfl|kernel_rfl))<|Zf (X14 (zs:=[vi 0,.slice none 0 0]) rfl rfl) ?_;rintro _ w5 ⟨W,rfl,oS,p,y⟩;have dD:=Nat.le_trans C.size oS;have aK:=aK.below p;have E:=E.below p;have e:=e.below p;have C:=btr C p;refine Za rfl<|ZX oR fun a A _ oT=>?_;refine Zs A fun _ oU=>?_;refine Za rfl<|Zt oU fun a A=>?_;refine wp_block<|X06 (σ:=Nat×(List Af)) (fun (s:Nat×(List Af)) (a:Act) (w:World)=>match s with|(k,l)=>∃ jE jF,Fr a 167 [(1,.pointer (some ⟨b3,0,none⟩)),(2,.pointer (some ⟨b6,0,none⟩)),(4,.pointer (some ⟨b12,0,none⟩)),(5,.pointer (some ⟨W,0,none⟩)),(6,vi (k:Int))]∧(k≤n)∧(l=varsN k)∧Blk w b3 25 [vi c.n,.slice Ac c.gs.length cc]∧Blk w b6 30 [vi 0,vi 0,vi 0,vi 0,.slice none 0 0,.slice none 0 0]∧Blk w b12 30 [vi (n:Int),vi 0,vi 0,vi 0,.slice none 0 0,.slice jE l.length jF]∧Blk w W 105 [vi 0,.slice none 0 0]∧Own w w0.heap.size 34 2 encA jE jF l∧Below w0.heap.size w0 w) (fun (s:Nat×(List Af))=>match s with|(k,l)=>n-k) (0,[]) ?_ ?_
 ·exact ⟨none,0,A.sb,(Nat.zero_le _),rfl,aK,E,e,y,(Own.nil _ _ _ _ _),C⟩
 rintro ⟨k,l⟩ a w6 ⟨jE,jF,A,hk,hl,aK,E,e,y,bG,C⟩;refine wp_seq_k fun _ oV=>?_;refine Zs A fun _ oW=>?_;refine Zm rfl<|Ze (Vd rfl X3h 0)<|Ze (Vx (X0 rfl X2 (aK.at 0)) hn)<|Ze (X1n rfl rfl)<|Zt oW fun a A=>?_
 refine Xg A rfl (fun dJ=>?_) (fun dJ=>?_)
 ·have lZ:=dJ;have dJ:=of_decide_eq_true dJ;refine wp_skip<|oV _ _<|wp_seq_k fun _ oX=>?_;refine wp_block<|Zr A<|Ze (Vd rfl Xx 5)<|Ze (X0 rfl X08 (e.at 5))<|Zm rfl<|Ze (X5a (m:=k) Tryz.underlying3 Tryz.underlying67 rfl rfl (by omega))<|Ze (Vx (X2i (m:=k) rfl rfl rfl (by omega)) (X48 (by omega))) ?_;refine Ze (Xk (ps:=[(0,vi ((2^k:Nat) : Int))]) (cs:=[vi ((2^k:Nat) : Int),vi 0]) rfl (fun _=>by first|rfl|kernel_rfl))<|Zf (Xb (k:=1) (vs:=[.agg #[vi ((2^k:Nat) : Int),vi 0]]) (zs:=[vi ((2^k:Nat) : Int),vi 0]) rfl Xr X1l rfl rfl) ?_;rintro _ w7 ⟨qX,rfl,lG,p,jG⟩;have qJ:=Nat.le_trans C.size lG;have i8:=bG.away lG;have aK:=aK.below p;have E:=E.below p;have e:=e.below p;have y:=y.below p;have bG:=bG.below p;have C:=btr C p;refine Zf (X1e (enc:=encA) (l:=(l)) (l2:=([(⟨((2^k:Nat) : Int),0⟩ : Af)])) (B0:=w0.heap.size) rfl rfl Xr X1l Xv X3o bG (Rd.of_blk jG rfl _ jG.lt) (by simp only [maxLen];rw [hl];simp [X4c];omega) (by rw [hl];simp [X4c];omega) C.size) ?_;rintro _ w8 ⟨m5,m6,rfl,jH,hg,oY⟩
  have H:Own _ w0.heap.size 34 2 encA _ _ (l):=bG
  have oO:=oY _ jG.lt i8;clear oY;have aK:=aK.appT H hg rfl;have E:=E.appT H hg rfl;have e:=e.appT H hg rfl;have y:=y.appT H hg rfl;have C:=Below.app C H hg (Nat.le_refl _) C.size;clear H hg;refine Ze (Vd rfl Xx 5)<|Zo (Vu (vs:=[.slice m5 (l++([(⟨((2^k:Nat) : Int),0⟩ : Af)])).length m6]) (l':=[vi (n:Int),vi 0,vi 0,vi 0,.slice none 0 0,.slice m5 (l++([(⟨((2^k:Nat) : Int),0⟩ : Af)])).length m6]) rfl rfl X2s e) ?_;rintro _ w9 ⟨M,hb⟩;have x:=e;have aK:=aK.only M (Blk.ne aK x rfl);have E:=E.only M (by omega);have y:=y.only M (Blk.ne y x rfl);have jH:=jH.onlyT M x rfl;have C:=Below.only C M dC;have e:=hb;refine Zn fun a A=>?_;refine Xa<|oX _ _<|Zr A<|Zm rfl<|Ze (Xu rfl rfl (by omega) (by omega))<|Za rfl ?_;refine Zn fun a A=>?_;refine Xd ?_;exact ⟨(k+1,l++([(⟨((2^k:Nat) : Int),0⟩ : Af)])),⟨m5,m6,A.sb,(by omega),(by rw [Xb7,hl];rfl),aK,E,e,y,jH,C⟩,(by first|omega|(dsimp only;omega))⟩
 have lZ:=dJ;have dJ:=of_decide_eq_false dJ
 have qK:k=n:=by have:=dJ;omega
 refine wp_exit<|Xi<|Xi<|X03 ?_;refine oT _ _<|Zs A fun _ oZ=>?_;refine Ze (Xk (ps:=[(1,vi 1)]) (cs:=[vi 0,vi 1]) rfl (fun _=>by first|rfl|kernel_rfl))<|Zf (X6 (zs:=[vi 0,vi 0]) X18 rfl) ?_;rintro _ qY ⟨G,rfl,lH,p,o⟩;have m7:=Nat.le_trans C.size lH;have eM:=bG.away lH;have aK:=aK.below p;have E:=E.below p;have e:=e.below p;have y:=y.below p;have bG:=bG.below p;have C:=btr C p;refine Zo (Vw [vi 0,vi 1] Xj o) ?_;rintro _ k8 ⟨M,hb⟩;have x:=o;have aK:=aK.only M (Blk.ne aK x rfl);have E:=E.only M (Blk.ne E x rfl);have e:=e.only M (Blk.ne e x rfl);have y:=y.only M (Blk.ne y x rfl);have bG:=bG.onlyA M eM;have C:=Below.only C M m7;have o:=hb;refine ZX oZ fun a A _ p5=>?_;refine Zs A fun _ pC=>?_;refine Ze (Vd rfl X2d 1)<|Ze (X0 rfl X66 (aK.at 1))<|Ze (X1f rfl X3c)<|Zm rfl<|Zt pC fun a A=>?_;refine wp_block ?_
 have qL:l.length=n:=by rw [hl,X4c];omega
 replace e:Blk k8 b12 30 [vi (n:Int),vi 0,vi 0,vi 0,.slice none 0 0,.slice jE n jF]:=by have e9:=e;rw [qL] at e9;exact e9
 have qM:l=(ps0 n).out:=by rw [hl,qK];rfl
 rw [qM] at bG
 replace y:Blk k8 W 105 [vi ((ps0 n).f 0),.slice none (tms (ps0 n).f).length 0]:=by rw [show tms (ps0 n).f=[] from Xau];exact y
 have qO:Rd k8 k8.heap.size 76 encT none (tms (ps0 n).f):=by rw [show tms (ps0 n).f=[] from Xau];exact Rd.nil _ _ _ _ _
 have pD:(tms (ps0 n).f).length≤0:=by rw [show tms (ps0 n).f=[] from Xau];exact Nat.le_refl _
 refine X06 (σ:=Nat×Pst) (fun (s:Nat×Pst) (a:Act) (w:World)=>match s with|(i,ps)=>∃ J aL cS cU,Fr a 167 [(2,.pointer (some ⟨b6,0,none⟩)),(4,.pointer (some ⟨b12,0,none⟩)),(5,.pointer (some ⟨W,0,none⟩)),(7,.pointer (some ⟨G,0,none⟩)),(35,.slice Ac c.gs.length cc),(36,vi (c.gs.length:Int)),(37,vi (i:Int))]∧(i≤c.gs.length)∧(psAll n (c.gs.take i) (ps0 n)=some ps)∧(PsOk n ps)∧(SupF ps.f)∧Blk w b6 30 [vi 0,vi 0,vi 0,vi 0,.slice none 0 0,.slice none 0 0]∧Blk w b12 30 [vi (n:Int),vi (ps.v:Int),vi (ps.v:Int),vi 0,.slice none 0 0,.slice J n aL]∧Blk w W 105 [vi (ps.f 0),.slice cS (tms ps.f).length cU]∧Blk w G 34 [vi 0,vi 1]∧Own w w0.heap.size 34 2 encA J aL ps.out∧Rd w w.heap.size 76 encT cS (tms ps.f)∧(tms ps.f).length≤cU∧Away J G∧Below w0.heap.size w0 w) (fun (s:Nat×Pst)=>match s with|(i,ps)=>c.gs.length-i) (0,(ps0 n)) ?_ ?_
 ·exact ⟨jE,jF,none,0,A.sb,(Nat.zero_le _),rfl,(PsOk.zero qE),SupF.zero,E,e,y,o,bG,qO.top,pD,eM,C⟩
 rintro ⟨i,ps⟩ a qZ ⟨J,aL,cS,cU,A,hi,dN,aH,dB,E,e,y,o,d,L,bF,N,C⟩;refine Zs A fun _ pE=>?_;refine Ze (X1n rfl rfl)<|ZX pE fun a A _ pF=>?_
 refine Xg A rfl (fun dK=>?_) (fun dK=>?_)
 ·have m8:=dK;have dK:=of_decide_eq_true dK
  obtain ⟨g,bJ⟩:=Xm (l:=c.gs) (k:=i) (by omega)
  have r0:=aH.vs;have lI:=aH.len;have jI:=Xu0 jD hn bJ;have qP:=Xcs jI;have qQ:=X81 jI;have jJ:=X8c lI qP;have g7:=X8c lI qQ;have kA:=AO.at aH.all g.a;have qR:=AO.at aH.all g.b;refine wp_skip<|pF _ _<|wp_seq_k fun _ dL=>?_;refine wp_block<|Zs A fun _ pG=>?_;refine Zi (k:=i) (u:=g) (enc:=encG) (l:=c.gs) trivial rfl rfl X3c X2q X3n (lE.below' C) bJ rfl ?_;intro r4 m9;refine Ze (X0b (l:=[vi g.k,vi g.a,vi g.b]) rfl X23 m9 rfl)<|Zf (X6 (zs:=[vi 0,vi 0,vi 0]) Xb9 rfl) ?_;rintro _ r5 ⟨aI,rfl,lJ,p,D⟩;have mA:=Nat.le_trans C.size lJ;have pH:=(lE.below' C).away lJ;have E:=E.below p;have e:=e.below p;have y:=y.below p;have o:=o.below p;have d:=d.below p;have L:=L.below p;have C:=btr C p;refine Zo (Vw [vi g.k,vi g.a,vi g.b] X2q D) ?_;rintro _ w14 ⟨M,hb⟩;have x:=D;have E:=E.only M (Blk.ne E x rfl);have e:=e.only M (Blk.ne e x rfl);have y:=y.only M (Blk.ne y x rfl);have o:=o.only M (Blk.ne o x rfl);have d:=d.onlyT M x rfl;have L:=L.onlyT M x rfl;have C:=Below.only C M mA;have D:=hb;refine ZX pG fun a A _ pI=>?_;refine X0j (fun a w=>∃ U aJ,Fr a 167 [(2,.pointer (some ⟨b6,0,none⟩)),(4,.pointer (some ⟨b12,0,none⟩)),(5,.pointer (some ⟨W,0,none⟩)),(7,.pointer (some ⟨G,0,none⟩)),(9,.pointer (some ⟨aI,0,none⟩)),(10,.pointer (some ⟨U,0,none⟩)),(11,.pointer (some ⟨aJ,0,none⟩)),(35,.slice Ac c.gs.length cc),(36,vi (c.gs.length:Int)),(37,vi (i:Int))]∧w0.heap.size≤U∧Blk w U 34 [vi ((aAt ps.out g.a).m),vi ((aAt ps.out g.a).t)]∧G≠U∧w0.heap.size≤aJ∧Blk w aJ 34 [vi ((aAt ps.out g.b).m),vi ((aAt ps.out g.b).t)]∧G≠aJ∧Away J U∧Away J aJ∧Below w14.heap.size w14 w) ?_ ?_
  ·have B:Below w14.heap.size w14 w14:=Below.refl _ _
   refine Xq none (fun j=>[14,15].contains j) mixed ?_;intro w15 p;have e:=e.below p;have o:=o.below p;have D:=D.below p;have d:=d.below p;have C:=btr C p;have B:=btr B p;refine Yb A<|Yo 0 rfl (fun _=>Vd rfl Xx 5)<|Ye 1 rfl (X0 rfl X08 (e.at 5))<|Yo 2 rfl (fun _=>Vd rfl X11 1)<|Ye 3 rfl (X0 rfl X2 (D.at 1))<|Yo 4 rfl (fun _=>X0w (k:=g.a.toNat) rfl rfl Xr Xj d (by omega) (by omega) (by omega)) ?_;refine Ye 5 rfl (X0b (l:=[vi ((aAt ps.out g.a).m),vi ((aAt ps.out g.a).t)]) rfl Xs (X2j d Xv jJ 0 rfl) rfl)<|Yo 6 rfl (fun _=>Vd rfl Xx 5)<|Yo 8 rfl (fun _=>Vd rfl X1d 2) ?_
   have q:Below w15.heap.size w15 w15:=Below.refl _ _
   refine Yc [0,1,2,3,4,5,6,7,8,9,10,11,12,13,14] 1 (fun a w=>∃ U aJ,Fr a 167 [(2,.pointer (some ⟨b6,0,none⟩)),(4,.pointer (some ⟨b12,0,none⟩)),(5,.pointer (some ⟨W,0,none⟩)),(7,.pointer (some ⟨G,0,none⟩)),(9,.pointer (some ⟨aI,0,none⟩)),(10,.pointer (some ⟨U,0,none⟩)),(11,.pointer (some ⟨aJ,0,none⟩)),(35,.slice Ac c.gs.length cc),(36,vi (c.gs.length:Int)),(37,vi (i:Int)),(52,.agg #[vi ((aAt ps.out g.b).m),vi ((aAt ps.out g.b).t)])]∧w0.heap.size≤U∧Blk w U 34 [vi ((aAt ps.out g.a).m),vi ((aAt ps.out g.a).t)]∧G≠U∧w0.heap.size≤aJ∧Blk w aJ 34 [vi 0,vi 0]∧G≠aJ∧U≠aJ∧w15.heap.size≤U∧w14.heap.size≤U∧w15.heap.size≤aJ∧w14.heap.size≤aJ∧Away J U∧Away J aJ∧Below w15.heap.size w15 w) ?_ ?_
   ·rintro a r6 ⟨U,aJ,A,cW,I,aW,dO,b5,bY,eN,dP,dQ,g8,g9,aM,bZ,p⟩;clear q;have q:=p;have C:=btr C p;have B:=btr B p;refine Yb A<|Y1 15<|Yh rfl trivial rfl (Vw [vi ((aAt ps.out g.b).m),vi ((aAt ps.out g.b).t)] Xj b5) ?_;rintro _ w17 ⟨M,hb⟩;have x:=b5;have I:=I.only M (by omega);have B:=Below.only B M g9;have q:=Below.only q M g8;have C:=Below.only C M dO;have b5:=hb;refine Yd fun a A=>?_
    have qS:Below w14.heap.size w14 w17:=B
    exact ⟨U,aJ,A.sb,cW,I,aW,dO,b5,bY,aM,bZ,qS⟩
   intro lK;refine Yc [0,1,2,3,4,5,6,7,8,9,10,11,12,13] 2 (fun a w=>∃ U aJ,Fr a 167 [(2,.pointer (some ⟨b6,0,none⟩)),(4,.pointer (some ⟨b12,0,none⟩)),(5,.pointer (some ⟨W,0,none⟩)),(7,.pointer (some ⟨G,0,none⟩)),(9,.pointer (some ⟨aI,0,none⟩)),(10,.pointer (some ⟨U,0,none⟩)),(11,.pointer (some ⟨aJ,0,none⟩)),(35,.slice Ac c.gs.length cc),(36,vi (c.gs.length:Int)),(37,vi (i:Int)),(46,.agg #[vi ((aAt ps.out g.a).m),vi ((aAt ps.out g.a).t)]),(52,.agg #[vi ((aAt ps.out g.b).m),vi ((aAt ps.out g.b).t)])]∧w0.heap.size≤U∧Blk w U 34 [vi 0,vi 0]∧G≠U∧w0.heap.size≤aJ∧Blk w aJ 34 [vi 0,vi 0]∧G≠aJ∧U≠aJ∧w15.heap.size≤U∧w14.heap.size≤U∧w15.heap.size≤aJ∧w14.heap.size≤aJ∧Away J U∧Away J aJ∧Below w15.heap.size w15 w) ?_ ?_
   ·rintro a r7 ⟨U,aJ,A,cW,I,aW,dO,b5,bY,eN,dP,dQ,g8,g9,aM,bZ,p⟩;clear q;have q:=p;have C:=btr C p;have B:=btr B p;refine Yb A<|Y1 14<|Yh rfl trivial rfl (Vw [vi ((aAt ps.out g.a).m),vi ((aAt ps.out g.a).t)] Xj I) ?_;rintro _ r8 ⟨M,hb⟩;have x:=I;have b5:=b5.only M (by omega);have B:=Below.only B M dQ;have q:=Below.only q M dP;have C:=Below.only C M cW;have I:=hb;exact fun a A=>lK _ a _ rfl ⟨U,aJ,A.sb,cW,I,aW,dO,b5,bY,eN,dP,dQ,g8,g9,aM,bZ,q⟩
   intro jK;refine Yc [0,1,2,3,4,5,6,7,8,9,10,12,13,14] 2 (fun a w=>∃ aA b0,Fr a 167 [(2,.pointer (some ⟨b6,0,none⟩)),(4,.pointer (some ⟨b12,0,none⟩)),(5,.pointer (some ⟨W,0,none⟩)),(7,.pointer (some ⟨G,0,none⟩)),(9,.pointer (some ⟨aI,0,none⟩)),(10,.pointer (some ⟨aA,0,none⟩)),(11,.pointer (some ⟨b0,0,none⟩)),(35,.slice Ac c.gs.length cc),(36,vi (c.gs.length:Int)),(37,vi (i:Int)),(51,.pointer (some (oA J (g.b.toNat*2))))]∧w0.heap.size≤aA∧Blk w aA 34 [vi ((aAt ps.out g.a).m),vi ((aAt ps.out g.a).t)]∧G≠aA∧w0.heap.size≤b0∧Blk w b0 34 [vi 0,vi 0]∧G≠b0∧aA≠b0∧w15.heap.size≤aA∧w14.heap.size≤aA∧w15.heap.size≤b0∧w14.heap.size≤b0∧Away J aA∧Away J b0∧Below w15.heap.size w15 w) ?_ ?_
   ·rintro a r9 ⟨aA,b0,A,bK,bC,aN,f4,eO,c4,cA,bL,bN,f5,f7,aO,cC,p⟩;clear q;have q:=p;have d:=d.below p;have C:=btr C p;have B:=btr B p;refine Yb A<|Y1 11<|Yz rfl trivial (Uev (X0b (l:=[vi ((aAt ps.out g.b).m),vi ((aAt ps.out g.b).t)]) rfl Xs (X2j d Xv g7 0 rfl) rfl)) ?_;exact fun a A=>lK _ a _ rfl ⟨aA,b0,A.sb,bK,bC,aN,f4,eO,c4,cA,bL,bN,f5,f7,aO,cC,q⟩
   intro lL;refine Yc [0,1,2,3,4,5,6,7,8,9,10,11,12] 3 (fun a w=>∃ U,Fr a 167 [(2,.pointer (some ⟨b6,0,none⟩)),(4,.pointer (some ⟨b12,0,none⟩)),(5,.pointer (some ⟨W,0,none⟩)),(7,.pointer (some ⟨G,0,none⟩)),(9,.pointer (some ⟨aI,0,none⟩)),(10,.pointer (some ⟨U,0,none⟩)),(35,.slice Ac c.gs.length cc),(36,vi (c.gs.length:Int)),(37,vi (i:Int)),(46,.agg #[vi ((aAt ps.out g.a).m),vi ((aAt ps.out g.a).t)]),(52,.agg #[vi ((aAt ps.out g.b).m),vi ((aAt ps.out g.b).t)])]∧w0.heap.size≤U∧Blk w U 34 [vi 0,vi 0]∧G≠U∧w15.heap.size≤U∧w14.heap.size≤U∧Away J U∧Below w15.heap.size w15 w) ?_ ?_
   ·rintro a rA ⟨U,A,cW,I,aW,dP,dQ,aM,p⟩;clear q;have q:=p;have o:=o.below p;have d:=d.below p;have C:=btr C p;have B:=btr B p;refine Yb A<|Y1 13<|Yk rfl trivial (X6 (zs:=[vi 0,vi 0]) X18 rfl) (fun _ _ ⟨_,_,_,h,_⟩=>h) ?_;rintro _ rB ⟨b50,rfl,gN,p,aZ⟩
    have aB:G≠b50:=by have:=o.lt;omega
    have i9:U≠b50:=by have:=I.lt;omega
    have b7:=Nat.le_trans C.size gN;have b8:=Nat.le_trans B.size gN;have b9:=Nat.le_trans q.size gN;have aC:=d.away gN;have I:=I.below p;have C:=btr C p;have B:=btr B p;have q:=btr q p;exact fun a A=>jK _ a _ rfl ⟨U,b50,A.sb,cW,I,aW,b7,aZ,aB,i9,dP,dQ,b9,b8,aM,aC,q⟩
   intro lM;refine Yc [0,1,2,3,4,5,6,7,8,9,10,11,13] 3 (fun a w=>∃ eK,Fr a 167 [(2,.pointer (some ⟨b6,0,none⟩)),(4,.pointer (some ⟨b12,0,none⟩)),(5,.pointer (some ⟨W,0,none⟩)),(7,.pointer (some ⟨G,0,none⟩)),(9,.pointer (some ⟨aI,0,none⟩)),(11,.pointer (some ⟨eK,0,none⟩)),(35,.slice Ac c.gs.length cc),(36,vi (c.gs.length:Int)),(37,vi (i:Int)),(46,.agg #[vi ((aAt ps.out g.a).m),vi ((aAt ps.out g.a).t)]),(52,.agg #[vi ((aAt ps.out g.b).m),vi ((aAt ps.out g.b).t)])]∧w0.heap.size≤eK∧Blk w eK 34 [vi 0,vi 0]∧G≠eK∧w15.heap.size≤eK∧w14.heap.size≤eK∧Away J eK∧Below w15.heap.size w15 w) ?_ ?_
   ·rintro a rC ⟨eK,A,mB,gO,iA,mC,mD,iB,p⟩;clear q;have q:=p;have o:=o.below p;have d:=d.below p;have C:=btr C p;have B:=btr B p;refine Yb A<|Y1 12<|Yk rfl trivial (X6 (zs:=[vi 0,vi 0]) X18 rfl) (fun _ _ ⟨_,_,_,h,_⟩=>h) ?_;rintro _ rD ⟨b53,rfl,gQ,p,pJ⟩
    have iC:G≠b53:=by have:=o.lt;omega
    have iD:eK≠b53:=by have:=gO.lt;omega
    have mE:=Nat.le_trans C.size gQ;have mF:=Nat.le_trans B.size gQ;have mG:=Nat.le_trans q.size gQ;have iE:=d.away gQ;have gO:=gO.below p;have C:=btr C p;have B:=btr B p;have q:=btr q p;exact fun a A=>jK _ a _ rfl ⟨b53,eK,A.sb,mE,pJ,iC,mB,gO,iA,(Ne.symm iD),mG,mF,mC,mD,iE,iB,q⟩
   intro lN;refine Yc [0,1,2,3,4,5,6,7,8,9,10,12,13] 3 (fun a w=>∃ aA b0,Fr a 167 [(2,.pointer (some ⟨b6,0,none⟩)),(4,.pointer (some ⟨b12,0,none⟩)),(5,.pointer (some ⟨W,0,none⟩)),(7,.pointer (some ⟨G,0,none⟩)),(9,.pointer (some ⟨aI,0,none⟩)),(10,.pointer (some ⟨aA,0,none⟩)),(11,.pointer (some ⟨b0,0,none⟩)),(35,.slice Ac c.gs.length cc),(36,vi (c.gs.length:Int)),(37,vi (i:Int)),(46,.agg #[vi ((aAt ps.out g.a).m),vi ((aAt ps.out g.a).t)]),(51,.pointer (some (oA J (g.b.toNat*2))))]∧w0.heap.size≤aA∧Blk w aA 34 [vi 0,vi 0]∧G≠aA∧w0.heap.size≤b0∧Blk w b0 34 [vi 0,vi 0]∧G≠b0∧aA≠b0∧w15.heap.size≤aA∧w14.heap.size≤aA∧w15.heap.size≤b0∧w14.heap.size≤b0∧Away J aA∧Away J b0∧Below w15.heap.size w15 w) ?_ ?_
   ·rintro a rE ⟨aA,b0,A,bK,bC,aN,f4,eO,c4,cA,bL,bN,f5,f7,aO,cC,p⟩;clear q;have q:=p;have d:=d.below p;have C:=btr C p;have B:=btr B p;refine Yb A<|Y2 11 14 ?_ ?_
    ·refine Yz rfl trivial (Uev (X0b (l:=[vi ((aAt ps.out g.b).m),vi ((aAt ps.out g.b).t)]) rfl Xs (X2j d Xv g7 0 rfl) rfl)) ?_;exact fun a A=>jK _ a _ rfl ⟨aA,b0,A.sb,bK,bC,aN,f4,eO,c4,cA,bL,bN,f5,f7,aO,cC,q⟩
    refine Yh rfl trivial rfl (Vw [vi ((aAt ps.out g.a).m),vi ((aAt ps.out g.a).t)] Xj bC) ?_;rintro _ rF ⟨M,hb⟩;have x:=bC;have eO:=eO.only M (by omega);have B:=Below.only B M bN;have q:=Below.only q M bL;have C:=Below.only C M bK;have bC:=hb;exact fun a A=>lL _ a _ rfl ⟨aA,b0,A.sb,bK,bC,aN,f4,eO,c4,cA,bL,bN,f5,f7,aO,cC,q⟩
   intro jL;refine Yc [0,1,2,3,4,5,6,7,8,9,12,13,14] 3 (fun a w=>∃ b50 b1,Fr a 167 [(2,.pointer (some ⟨b6,0,none⟩)),(4,.pointer (some ⟨b12,0,none⟩)),(5,.pointer (some ⟨W,0,none⟩)),(7,.pointer (some ⟨G,0,none⟩)),(9,.pointer (some ⟨aI,0,none⟩)),(10,.pointer (some ⟨b50,0,none⟩)),(11,.pointer (some ⟨b1,0,none⟩)),(35,.slice Ac c.gs.length cc),(36,vi (c.gs.length:Int)),(37,vi (i:Int)),(48,.slice J n aL),(50,vi g.b)]∧w0.heap.size≤b50∧Blk w b50 34 [vi ((aAt ps.out g.a).m),vi ((aAt ps.out g.a).t)]∧G≠b50∧w0.heap.size≤b1∧Blk w b1 34 [vi 0,vi 0]∧G≠b1∧b50≠b1∧w15.heap.size≤b50∧w14.heap.size≤b50∧w15.heap.size≤b1∧w14.heap.size≤b1∧Away J b50∧Away J b1∧Below w15.heap.size w15 w) ?_ ?_
   ·rintro a rG ⟨b50,b1,A,b7,aZ,aB,f8,eP,cD,cE,b9,b8,f9,fA,aC,cF,p⟩;clear q;have q:=p;have d:=d.below p;have C:=btr C p;have B:=btr B p;refine Yb A<|Y1 10<|Yz rfl trivial (Uev (X0w (k:=g.b.toNat) rfl rfl Xr Xj d (by omega) (by omega) (by omega))) ?_;exact fun a A=>lL _ a _ rfl ⟨b50,b1,A.sb,b7,aZ,aB,f8,eP,cD,cE,b9,b8,f9,fA,aC,cF,q⟩
   intro jM;refine Yc [0,1,2,3,4,5,6,7,8,9,10,12] 4 (fun a w=>∃ aA,Fr a 167 [(2,.pointer (some ⟨b6,0,none⟩)),(4,.pointer (some ⟨b12,0,none⟩)),(5,.pointer (some ⟨W,0,none⟩)),(7,.pointer (some ⟨G,0,none⟩)),(9,.pointer (some ⟨aI,0,none⟩)),(10,.pointer (some ⟨aA,0,none⟩)),(35,.slice Ac c.gs.length cc),(36,vi (c.gs.length:Int)),(37,vi (i:Int)),(46,.agg #[vi ((aAt ps.out g.a).m),vi ((aAt ps.out g.a).t)]),(51,.pointer (some (oA J (g.b.toNat*2))))]∧w0.heap.size≤aA∧Blk w aA 34 [vi 0,vi 0]∧G≠aA∧w15.heap.size≤aA∧w14.heap.size≤aA∧Away J aA∧Below w15.heap.size w15 w) ?_ ?_
   ·rintro a rH ⟨aA,A,bK,bC,aN,bL,bN,aO,p⟩;clear q;have q:=p;have o:=o.below p;have d:=d.below p;have C:=btr C p;have B:=btr B p;refine Yb A<|Y2 11 13 ?_ ?_
    ·refine Yz rfl trivial (Uev (X0b (l:=[vi ((aAt ps.out g.b).m),vi ((aAt ps.out g.b).t)]) rfl Xs (X2j d Xv g7 0 rfl) rfl)) ?_;exact fun a A=>lM _ a _ rfl ⟨aA,A.sb,bK,bC,aN,bL,bN,aO,q⟩
    refine Yk rfl trivial (X6 (zs:=[vi 0,vi 0]) X18 rfl) (fun _ _ ⟨_,_,_,h,_⟩=>h) ?_;rintro _ rI ⟨b60,rfl,gR,p,dR⟩
    have cG:G≠b60:=by have:=o.lt;omega
    have iF:aA≠b60:=by have:=bC.lt;omega
    have fB:=Nat.le_trans C.size gR;have fC:=Nat.le_trans B.size gR;have fD:=Nat.le_trans q.size gR;have cH:=d.away gR;have bC:=bC.below p;have C:=btr C p;have B:=btr B p;have q:=btr q p;exact fun a A=>jL _ a _ rfl ⟨aA,b60,A.sb,bK,bC,aN,fB,dR,cG,iF,bL,bN,fD,fC,aO,cH,q⟩
   intro lO;refine Yc [0,1,2,3,4,5,6,7,8,9,10,13] 4 (fun a w=>∃ dS,Fr a 167 [(2,.pointer (some ⟨b6,0,none⟩)),(4,.pointer (some ⟨b12,0,none⟩)),(5,.pointer (some ⟨W,0,none⟩)),(7,.pointer (some ⟨G,0,none⟩)),(9,.pointer (some ⟨aI,0,none⟩)),(11,.pointer (some ⟨dS,0,none⟩)),(35,.slice Ac c.gs.length cc),(36,vi (c.gs.length:Int)),(37,vi (i:Int)),(46,.agg #[vi ((aAt ps.out g.a).m),vi ((aAt ps.out g.a).t)]),(51,.pointer (some (oA J (g.b.toNat*2))))]∧w0.heap.size≤dS∧Blk w dS 34 [vi 0,vi 0]∧G≠dS∧w15.heap.size≤dS∧w14.heap.size≤dS∧Away J dS∧Below w15.heap.size w15 w) ?_ ?_
   ·rintro a rJ ⟨dS,A,jN,fY,eQ,jO,jP,eR,p⟩;clear q;have q:=p;have o:=o.below p;have d:=d.below p;have C:=btr C p;have B:=btr B p;refine Yb A<|Y2 11 12 ?_ ?_
    ·refine Yz rfl trivial (Uev (X0b (l:=[vi ((aAt ps.out g.b).m),vi ((aAt ps.out g.b).t)]) rfl Xs (X2j d Xv g7 0 rfl) rfl)) ?_;exact fun a A=>lN _ a _ rfl ⟨dS,A.sb,jN,fY,eQ,jO,jP,eR,q⟩
    refine Yk rfl trivial (X6 (zs:=[vi 0,vi 0]) X18 rfl) (fun _ _ ⟨_,_,_,h,_⟩=>h) ?_;rintro _ rK ⟨b63,rfl,gS,p,dM⟩
    have aX:G≠b63:=by have:=o.lt;omega
    have iG:dS≠b63:=by have:=fY.lt;omega
    have dE:=Nat.le_trans C.size gS;have dF:=Nat.le_trans B.size gS;have dG:=Nat.le_trans q.size gS;have aY:=d.away gS;have fY:=fY.below p;have C:=btr C p;have B:=btr B p;have q:=btr q p;exact fun a A=>jL _ a _ rfl ⟨b63,dS,A.sb,dE,dM,aX,jN,fY,eQ,(Ne.symm iG),dG,dF,jO,jP,aY,eR,q⟩
   intro lP;refine Yc [0,1,2,3,4,5,6,7,8,9,12,13] 4 (fun a w=>∃ b50 b1,Fr a 167 [(2,.pointer (some ⟨b6,0,none⟩)),(4,.pointer (some ⟨b12,0,none⟩)),(5,.pointer (some ⟨W,0,none⟩)),(7,.pointer (some ⟨G,0,none⟩)),(9,.pointer (some ⟨aI,0,none⟩)),(10,.pointer (some ⟨b50,0,none⟩)),(11,.pointer (some ⟨b1,0,none⟩)),(35,.slice Ac c.gs.length cc),(36,vi (c.gs.length:Int)),(37,vi (i:Int)),(46,.agg #[vi ((aAt ps.out g.a).m),vi ((aAt ps.out g.a).t)]),(48,.slice J n aL),(50,vi g.b)]∧w0.heap.size≤b50∧Blk w b50 34 [vi 0,vi 0]∧G≠b50∧w0.heap.size≤b1∧Blk w b1 34 [vi 0,vi 0]∧G≠b1∧b50≠b1∧w15.heap.size≤b50∧w14.heap.size≤b50∧w15.heap.size≤b1∧w14.heap.size≤b1∧Away J b50∧Away J b1∧Below w15.heap.size w15 w) ?_ ?_
   ·rintro a rM ⟨b50,b1,A,b7,aZ,aB,f8,eP,cD,cE,b9,b8,f9,fA,aC,cF,p⟩;clear q;have q:=p;have d:=d.below p;have C:=btr C p;have B:=btr B p;refine Yb A<|Y2 10 14 ?_ ?_
    ·refine Yz rfl trivial (Uev (X0w (k:=g.b.toNat) rfl rfl Xr Xj d (by omega) (by omega) (by omega))) ?_;exact fun a A=>jL _ a _ rfl ⟨b50,b1,A.sb,b7,aZ,aB,f8,eP,cD,cE,b9,b8,f9,fA,aC,cF,q⟩
    refine Yh rfl trivial rfl (Vw [vi ((aAt ps.out g.a).m),vi ((aAt ps.out g.a).t)] Xj aZ) ?_;rintro _ rN ⟨M,hb⟩;have x:=aZ;have eP:=eP.only M (by omega);have B:=Below.only B M b8;have q:=Below.only q M b9;have C:=Below.only C M b7;have aZ:=hb;exact fun a A=>jM _ a _ rfl ⟨b50,b1,A.sb,b7,aZ,aB,f8,eP,cD,cE,b9,b8,f9,fA,aC,cF,q⟩
   intro gT;refine Yc [0,1,2,3,4,5,6,7,8,12,13,14] 4 (fun a w=>∃ aD b2,Fr a 167 [(2,.pointer (some ⟨b6,0,none⟩)),(4,.pointer (some ⟨b12,0,none⟩)),(5,.pointer (some ⟨W,0,none⟩)),(7,.pointer (some ⟨G,0,none⟩)),(9,.pointer (some ⟨aI,0,none⟩)),(10,.pointer (some ⟨aD,0,none⟩)),(11,.pointer (some ⟨b2,0,none⟩)),(35,.slice Ac c.gs.length cc),(36,vi (c.gs.length:Int)),(37,vi (i:Int)),(48,.slice J n aL),(49,.pointer (some ⟨aI,2,none⟩))]∧w0.heap.size≤aD∧Blk w aD 34 [vi ((aAt ps.out g.a).m),vi ((aAt ps.out g.a).t)]∧G≠aD∧w0.heap.size≤b2∧Blk w b2 34 [vi 0,vi 0]∧G≠b2∧aD≠b2∧w15.heap.size≤aD∧w14.heap.size≤aD∧w15.heap.size≤b2∧w14.heap.size≤b2∧Away J aD∧Away J b2∧Below w15.heap.size w15 w) ?_ ?_
   ·rintro a rO ⟨aD,b2,A,bO,bD,aP,fE,eS,cJ,cK,bP,bR,fF,fG,aQ,cL,p⟩;clear q;have q:=p;have D:=D.below p;have C:=btr C p;have B:=btr B p;refine Yb A<|Y1 9<|Yz rfl trivial (Uev (X0 rfl X2 (D.at 2))) ?_;exact fun a A=>jM _ a _ rfl ⟨aD,b2,A.sb,bO,bD,aP,fE,eS,cJ,cK,bP,bR,fF,fG,aQ,cL,q⟩
   intro lQ;refine Yc [0,1,2,3,4,5,6,8,9,12,13,14] 4 (fun a w=>∃ aE b4,Fr a 167 [(2,.pointer (some ⟨b6,0,none⟩)),(4,.pointer (some ⟨b12,0,none⟩)),(5,.pointer (some ⟨W,0,none⟩)),(7,.pointer (some ⟨G,0,none⟩)),(9,.pointer (some ⟨aI,0,none⟩)),(10,.pointer (some ⟨aE,0,none⟩)),(11,.pointer (some ⟨b4,0,none⟩)),(35,.slice Ac c.gs.length cc),(36,vi (c.gs.length:Int)),(37,vi (i:Int)),(47,.pointer (some ⟨b12,5,none⟩)),(50,vi g.b)]∧w0.heap.size≤aE∧Blk w aE 34 [vi ((aAt ps.out g.a).m),vi ((aAt ps.out g.a).t)]∧G≠aE∧w0.heap.size≤b4∧Blk w b4 34 [vi 0,vi 0]∧G≠b4∧aE≠b4∧w15.heap.size≤aE∧w14.heap.size≤aE∧w15.heap.size≤b4∧w14.heap.size≤b4∧Away J aE∧Away J b4∧Below w15.heap.size w15 w) ?_ ?_
   ·rintro a rP ⟨aE,b4,A,bS,bE,aR,fH,eT,cM,cN,bU,bW,fI,fJ,aS,cO,p⟩;clear q;have q:=p;have e:=e.below p;have C:=btr C p;have B:=btr B p;refine Yb A<|Y1 7<|Yz rfl trivial (Uev (X0 rfl X08 (e.at 5))) ?_;exact fun a A=>jM _ a _ rfl ⟨aE,b4,A.sb,bS,bE,aR,fH,eT,cM,cN,bU,bW,fI,fJ,aS,cO,q⟩
   intro lR;refine Yc [0,1,2,3,4,5,6,7,8,9,12] 5 (fun a w=>∃ b50,Fr a 167 [(2,.pointer (some ⟨b6,0,none⟩)),(4,.pointer (some ⟨b12,0,none⟩)),(5,.pointer (some ⟨W,0,none⟩)),(7,.pointer (some ⟨G,0,none⟩)),(9,.pointer (some ⟨aI,0,none⟩)),(10,.pointer (some ⟨b50,0,none⟩)),(35,.slice Ac c.gs.length cc),(36,vi (c.gs.length:Int)),(37,vi (i:Int)),(46,.agg #[vi ((aAt ps.out g.a).m),vi ((aAt ps.out g.a).t)]),(48,.slice J n aL),(50,vi g.b)]∧w0.heap.size≤b50∧Blk w b50 34 [vi 0,vi 0]∧G≠b50∧w15.heap.size≤b50∧w14.heap.size≤b50∧Away J b50∧Below w15.heap.size w15 w) ?_ ?_
   ·rintro a rQ ⟨b50,A,b7,aZ,aB,b9,b8,aC,p⟩;clear q;have q:=p;have o:=o.below p;have d:=d.below p;have C:=btr C p;have B:=btr B p;refine Yb A<|Y2 10 13 ?_ ?_
    ·refine Yz rfl trivial (Uev (X0w (k:=g.b.toNat) rfl rfl Xr Xj d (by omega) (by omega) (by omega))) ?_;exact fun a A=>lO _ a _ rfl ⟨b50,A.sb,b7,aZ,aB,b9,b8,aC,q⟩
    refine Yk rfl trivial (X6 (zs:=[vi 0,vi 0]) X18 rfl) (fun _ _ ⟨_,_,_,h,_⟩=>h) ?_;rintro _ rR ⟨b72,rfl,gU,p,pK⟩
    have iH:G≠b72:=by have:=o.lt;omega
    have iI:b50≠b72:=by have:=aZ.lt;omega
    have mH:=Nat.le_trans C.size gU;have mI:=Nat.le_trans B.size gU;have mJ:=Nat.le_trans q.size gU;have iJ:=d.away gU;have aZ:=aZ.below p;have C:=btr C p;have B:=btr B p;have q:=btr q p;exact fun a A=>gT _ a _ rfl ⟨b50,b72,A.sb,b7,aZ,aB,mH,pK,iH,iI,b9,b8,mJ,mI,aC,iJ,q⟩
   intro jQ;refine Yc [0,1,2,3,4,5,6,7,8,9,13] 5 (fun a w=>∃ dU,Fr a 167 [(2,.pointer (some ⟨b6,0,none⟩)),(4,.pointer (some ⟨b12,0,none⟩)),(5,.pointer (some ⟨W,0,none⟩)),(7,.pointer (some ⟨G,0,none⟩)),(9,.pointer (some ⟨aI,0,none⟩)),(11,.pointer (some ⟨dU,0,none⟩)),(35,.slice Ac c.gs.length cc),(36,vi (c.gs.length:Int)),(37,vi (i:Int)),(46,.agg #[vi ((aAt ps.out g.a).m),vi ((aAt ps.out g.a).t)]),(48,.slice J n aL),(50,vi g.b)]∧w0.heap.size≤dU∧Blk w dU 34 [vi 0,vi 0]∧G≠dU∧w15.heap.size≤dU∧w14.heap.size≤dU∧Away J dU∧Below w15.heap.size w15 w) ?_ ?_
   ·rintro a rS ⟨dU,A,jR,fZ,eU,jS,jT,eW,p⟩;clear q;have q:=p;have o:=o.below p;have d:=d.below p;have C:=btr C p;have B:=btr B p;refine Yb A<|Y2 10 12 ?_ ?_
    ·refine Yz rfl trivial (Uev (X0w (k:=g.b.toNat) rfl rfl Xr Xj d (by omega) (by omega) (by omega))) ?_;exact fun a A=>lP _ a _ rfl ⟨dU,A.sb,jR,fZ,eU,jS,jT,eW,q⟩
    refine Yk rfl trivial (X6 (zs:=[vi 0,vi 0]) X18 rfl) (fun _ _ ⟨_,_,_,h,_⟩=>h) ?_;rintro _ rT ⟨b75,rfl,gX,p,pL⟩
    have iK:G≠b75:=by have:=o.lt;omega
    have iM:dU≠b75:=by have:=fZ.lt;omega
    have mK:=Nat.le_trans C.size gX;have mL:=Nat.le_trans B.size gX;have mM:=Nat.le_trans q.size gX;have iN:=d.away gX;have fZ:=fZ.below p;have C:=btr C p;have B:=btr B p;have q:=btr q p;exact fun a A=>gT _ a _ rfl ⟨b75,dU,A.sb,mK,pL,iK,jR,fZ,eU,(Ne.symm iM),mM,mL,jS,jT,iN,eW,q⟩
   intro jU;refine Yc [0,1,2,3,4,5,6,7,8,12,13] 5 (fun a w=>∃ aD b2,Fr a 167 [(2,.pointer (some ⟨b6,0,none⟩)),(4,.pointer (some ⟨b12,0,none⟩)),(5,.pointer (some ⟨W,0,none⟩)),(7,.pointer (some ⟨G,0,none⟩)),(9,.pointer (some ⟨aI,0,none⟩)),(10,.pointer (some ⟨aD,0,none⟩)),(11,.pointer (some ⟨b2,0,none⟩)),(35,.slice Ac c.gs.length cc),(36,vi (c.gs.length:Int)),(37,vi (i:Int)),(46,.agg #[vi ((aAt ps.out g.a).m),vi ((aAt ps.out g.a).t)]),(48,.slice J n aL),(49,.pointer (some ⟨aI,2,none⟩))]∧w0.heap.size≤aD∧Blk w aD 34 [vi 0,vi 0]∧G≠aD∧w0.heap.size≤b2∧Blk w b2 34 [vi 0,vi 0]∧G≠b2∧aD≠b2∧w15.heap.size≤aD∧w14.heap.size≤aD∧w15.heap.size≤b2∧w14.heap.size≤b2∧Away J aD∧Away J b2∧Below w15.heap.size w15 w) ?_ ?_
   ·rintro a rU ⟨aD,b2,A,bO,bD,aP,fE,eS,cJ,cK,bP,bR,fF,fG,aQ,cL,p⟩;clear q;have q:=p;have D:=D.below p;have C:=btr C p;have B:=btr B p;refine Yb A<|Y2 9 14 ?_ ?_
    ·refine Yz rfl trivial (Uev (X0 rfl X2 (D.at 2))) ?_;exact fun a A=>gT _ a _ rfl ⟨aD,b2,A.sb,bO,bD,aP,fE,eS,cJ,cK,bP,bR,fF,fG,aQ,cL,q⟩
    refine Yh rfl trivial rfl (Vw [vi ((aAt ps.out g.a).m),vi ((aAt ps.out g.a).t)] Xj bD) ?_;rintro _ rW ⟨M,hb⟩;have x:=bD;have eS:=eS.only M (by omega);have B:=Below.only B M bR;have q:=Below.only q M bP;have C:=Below.only C M bO;have bD:=hb;exact fun a A=>lQ _ a _ rfl ⟨aD,b2,A.sb,bO,bD,aP,fE,eS,cJ,cK,bP,bR,fF,fG,aQ,cL,q⟩
   intro jV;refine Yc [0,1,2,3,4,5,6,8,9,12,13] 5 (fun a w=>∃ aE b4,Fr a 167 [(2,.pointer (some ⟨b6,0,none⟩)),(4,.pointer (some ⟨b12,0,none⟩)),(5,.pointer (some ⟨W,0,none⟩)),(7,.pointer (some ⟨G,0,none⟩)),(9,.pointer (some ⟨aI,0,none⟩)),(10,.pointer (some ⟨aE,0,none⟩)),(11,.pointer (some ⟨b4,0,none⟩)),(35,.slice Ac c.gs.length cc),(36,vi (c.gs.length:Int)),(37,vi (i:Int)),(46,.agg #[vi ((aAt ps.out g.a).m),vi ((aAt ps.out g.a).t)]),(47,.pointer (some ⟨b12,5,none⟩)),(50,vi g.b)]∧w0.heap.size≤aE∧Blk w aE 34 [vi 0,vi 0]∧G≠aE∧w0.heap.size≤b4∧Blk w b4 34 [vi 0,vi 0]∧G≠b4∧aE≠b4∧w15.heap.size≤aE∧w14.heap.size≤aE∧w15.heap.size≤b4∧w14.heap.size≤b4∧Away J aE∧Away J b4∧Below w15.heap.size w15 w) ?_ ?_
   ·rintro a rX ⟨aE,b4,A,bS,bE,aR,fH,eT,cM,cN,bU,bW,fI,fJ,aS,cO,p⟩;clear q;have q:=p;have e:=e.below p;have C:=btr C p;have B:=btr B p;refine Yb A<|Y2 7 14 ?_ ?_
    ·refine Yz rfl trivial (Uev (X0 rfl X08 (e.at 5))) ?_;exact fun a A=>gT _ a _ rfl ⟨aE,b4,A.sb,bS,bE,aR,fH,eT,cM,cN,bU,bW,fI,fJ,aS,cO,q⟩
    refine Yh rfl trivial rfl (Vw [vi ((aAt ps.out g.a).m),vi ((aAt ps.out g.a).t)] Xj bE) ?_;rintro _ rY ⟨M,hb⟩;have x:=bE;have eT:=eT.only M (by omega);have B:=Below.only B M bW;have q:=Below.only q M bU;have C:=Below.only C M bS;have bE:=hb;exact fun a A=>lR _ a _ rfl ⟨aE,b4,A.sb,bS,bE,aR,fH,eT,cM,cN,bU,bW,fI,fJ,aS,cO,q⟩
   intro jW;refine Yc [0,1,2,3,4,5,6,7,8,9] 6 (fun a w=>Fr a 167 [(2,.pointer (some ⟨b6,0,none⟩)),(4,.pointer (some ⟨b12,0,none⟩)),(5,.pointer (some ⟨W,0,none⟩)),(7,.pointer (some ⟨G,0,none⟩)),(9,.pointer (some ⟨aI,0,none⟩)),(35,.slice Ac c.gs.length cc),(36,vi (c.gs.length:Int)),(37,vi (i:Int)),(46,.agg #[vi ((aAt ps.out g.a).m),vi ((aAt ps.out g.a).t)]),(48,.slice J n aL),(50,vi g.b)]∧Below w15.heap.size w15 w) ?_ ?_
   ·rintro a s4 ⟨A,p⟩;clear q;have q:=p;have o:=o.below p;have d:=d.below p;have C:=btr C p;have B:=btr B p;refine Yb A<|Y3 10 12 13 ?_ ?_ ?_
    ·refine Yz rfl trivial (Uev (X0w (k:=g.b.toNat) rfl rfl Xr Xj d (by omega) (by omega) (by omega))) ?_;refine Y3 11 12 13 ?_ ?_ ?_
     ·refine Yz rfl trivial (Uev (X0b (l:=[vi ((aAt ps.out g.b).m),vi ((aAt ps.out g.b).t)]) rfl Xs (X2j d Xv g7 0 rfl) rfl)) ?_;refine Y2 12 13 ?_ ?_
      ·refine Yk rfl trivial (X6 (zs:=[vi 0,vi 0]) X18 rfl) (fun _ _ ⟨_,_,_,h,_⟩=>h) ?_;rintro _ s5 ⟨b82,rfl,gY,p,pM⟩
       have iO:G≠b82:=by have:=o.lt;omega
       have mN:=Nat.le_trans C.size gY;have mO:=Nat.le_trans B.size gY;have mP:=Nat.le_trans q.size gY;have iP:=d.away gY;have C:=btr C p;have B:=btr B p;have q:=btr q p;exact fun a A=>lM _ a _ rfl ⟨b82,A.sb,mN,pM,iO,mP,mO,iP,q⟩
      refine Yk rfl trivial (X6 (zs:=[vi 0,vi 0]) X18 rfl) (fun _ _ ⟨_,_,_,h,_⟩=>h) ?_;rintro _ s6 ⟨b83,rfl,hG,p,pN⟩
      have iQ:G≠b83:=by have:=o.lt;omega
      have mQ:=Nat.le_trans C.size hG;have mR:=Nat.le_trans B.size hG;have mS:=Nat.le_trans q.size hG;have iS:=d.away hG;have C:=btr C p;have B:=btr B p;have q:=btr q p;exact fun a A=>lN _ a _ rfl ⟨b83,A.sb,mQ,pN,iQ,mS,mR,iS,q⟩
     ·refine Yk rfl trivial (X6 (zs:=[vi 0,vi 0]) X18 rfl) (fun _ _ ⟨_,_,_,h,_⟩=>h) ?_;rintro _ s7 ⟨b84,rfl,hJ,p,pO⟩
      have iT:G≠b84:=by have:=o.lt;omega
      have mT:=Nat.le_trans C.size hJ;have mU:=Nat.le_trans B.size hJ;have mW:=Nat.le_trans q.size hJ;have iU:=d.away hJ;have C:=btr C p;have B:=btr B p;have q:=btr q p;exact fun a A=>lO _ a _ rfl ⟨b84,A.sb,mT,pO,iT,mW,mU,iU,q⟩
     refine Yk rfl trivial (X6 (zs:=[vi 0,vi 0]) X18 rfl) (fun _ _ ⟨_,_,_,h,_⟩=>h) ?_;rintro _ s8 ⟨b85,rfl,hZ,p,pP⟩
     have iV:G≠b85:=by have:=o.lt;omega
     have mX:=Nat.le_trans C.size hZ;have mY:=Nat.le_trans B.size hZ;have n0:=Nat.le_trans q.size hZ;have iW:=d.away hZ;have C:=btr C p;have B:=btr B p;have q:=btr q p;exact fun a A=>lP _ a _ rfl ⟨b85,A.sb,mX,pP,iV,n0,mY,iW,q⟩
    ·refine Yk rfl trivial (X6 (zs:=[vi 0,vi 0]) X18 rfl) (fun _ _ ⟨_,_,_,h,_⟩=>h) ?_;rintro _ s9 ⟨b86,rfl,i0,p,pQ⟩
     have iX:G≠b86:=by have:=o.lt;omega
     have n3:=Nat.le_trans C.size i0;have n4:=Nat.le_trans B.size i0;have n5:=Nat.le_trans q.size i0;have iY:=d.away i0;have C:=btr C p;have B:=btr B p;have q:=btr q p;exact fun a A=>jQ _ a _ rfl ⟨b86,A.sb,n3,pQ,iX,n5,n4,iY,q⟩
    refine Yk rfl trivial (X6 (zs:=[vi 0,vi 0]) X18 rfl) (fun _ _ ⟨_,_,_,h,_⟩=>h) ?_;rintro _ sB ⟨b87,rfl,i1,p,pR⟩
    have iZ:G≠b87:=by have:=o.lt;omega
    have n7:=Nat.le_trans C.size i1;have n8:=Nat.le_trans B.size i1;have n9:=Nat.le_trans q.size i1;have j0:=d.away i1;have C:=btr C p;have B:=btr B p;have q:=btr q p;exact fun a A=>jU _ a _ rfl ⟨b87,A.sb,n7,pR,iZ,n9,n8,j0,q⟩
   intro lS;refine Yc [0,1,2,3,4,5,6,7,8,12] 6 (fun a w=>∃ aD,Fr a 167 [(2,.pointer (some ⟨b6,0,none⟩)),(4,.pointer (some ⟨b12,0,none⟩)),(5,.pointer (some ⟨W,0,none⟩)),(7,.pointer (some ⟨G,0,none⟩)),(9,.pointer (some ⟨aI,0,none⟩)),(10,.pointer (some ⟨aD,0,none⟩)),(35,.slice Ac c.gs.length cc),(36,vi (c.gs.length:Int)),(37,vi (i:Int)),(46,.agg #[vi ((aAt ps.out g.a).m),vi ((aAt ps.out g.a).t)]),(48,.slice J n aL),(49,.pointer (some ⟨aI,2,none⟩))]∧w0.heap.size≤aD∧Blk w aD 34 [vi 0,vi 0]∧G≠aD∧w15.heap.size≤aD∧w14.heap.size≤aD∧Away J aD∧Below w15.heap.size w15 w) ?_ ?_
   ·rintro a sC ⟨aD,A,bO,bD,aP,bP,bR,aQ,p⟩;clear q;have q:=p;have o:=o.below p;have D:=D.below p;have d:=d.below p;have C:=btr C p;have B:=btr B p;refine Yb A<|Y2 9 13 ?_ ?_
    ·refine Yz rfl trivial (Uev (X0 rfl X2 (D.at 2))) ?_;exact fun a A=>jQ _ a _ rfl ⟨aD,A.sb,bO,bD,aP,bP,bR,aQ,q⟩
    refine Yk rfl trivial (X6 (zs:=[vi 0,vi 0]) X18 rfl) (fun _ _ ⟨_,_,_,h,_⟩=>h) ?_;rintro _ sD ⟨b90,rfl,i3,p,pS⟩
    have j1:G≠b90:=by have:=o.lt;omega
    have j2:aD≠b90:=by have:=bD.lt;omega
    have nA:=Nat.le_trans C.size i3;have nB:=Nat.le_trans B.size i3;have nC:=Nat.le_trans q.size i3;have j3:=d.away i3;have bD:=bD.below p;have C:=btr C p;have B:=btr B p;have q:=btr q p;exact fun a A=>jV _ a _ rfl ⟨aD,b90,A.sb,bO,bD,aP,nA,pS,j1,j2,bP,bR,nC,nB,aQ,j3,q⟩
   intro lT;refine Yc [0,1,2,3,4,5,6,7,8,13] 6 (fun a w=>∃ dW,Fr a 167 [(2,.pointer (some ⟨b6,0,none⟩)),(4,.pointer (some ⟨b12,0,none⟩)),(5,.pointer (some ⟨W,0,none⟩)),(7,.pointer (some ⟨G,0,none⟩)),(9,.pointer (some ⟨aI,0,none⟩)),(11,.pointer (some ⟨dW,0,none⟩)),(35,.slice Ac c.gs.length cc),(36,vi (c.gs.length:Int)),(37,vi (i:Int)),(46,.agg #[vi ((aAt ps.out g.a).m),vi ((aAt ps.out g.a).t)]),(48,.slice J n aL),(49,.pointer (some ⟨aI,2,none⟩))]∧w0.heap.size≤dW∧Blk w dW 34 [vi 0,vi 0]∧G≠dW∧w15.heap.size≤dW∧w14.heap.size≤dW∧Away J dW∧Below w15.heap.size w15 w) ?_ ?_
   ·rintro a sE ⟨dW,A,jX,g4,eX,jY,jZ,eY,p⟩;clear q;have q:=p;have o:=o.below p;have D:=D.below p;have d:=d.below p;have C:=btr C p;have B:=btr B p;refine Yb A<|Y2 9 12 ?_ ?_
    ·refine Yz rfl trivial (Uev (X0 rfl X2 (D.at 2))) ?_;exact fun a A=>jU _ a _ rfl ⟨dW,A.sb,jX,g4,eX,jY,jZ,eY,q⟩
    refine Yk rfl trivial (X6 (zs:=[vi 0,vi 0]) X18 rfl) (fun _ _ ⟨_,_,_,h,_⟩=>h) ?_;rintro _ sF ⟨b93,rfl,i4,p,pT⟩
    have j4:G≠b93:=by have:=o.lt;omega
    have j5:dW≠b93:=by have:=g4.lt;omega
    have nD:=Nat.le_trans C.size i4;have nE:=Nat.le_trans B.size i4;have nF:=Nat.le_trans q.size i4;have j6:=d.away i4;have g4:=g4.below p;have C:=btr C p;have B:=btr B p;have q:=btr q p;exact fun a A=>jV _ a _ rfl ⟨b93,dW,A.sb,nD,pT,j4,jX,g4,eX,(Ne.symm j5),nF,nE,jY,jZ,j6,eY,q⟩
   intro lU;refine Yc [0,1,2,3,4,5,6,8,9,12] 6 (fun a w=>∃ aE,Fr a 167 [(2,.pointer (some ⟨b6,0,none⟩)),(4,.pointer (some ⟨b12,0,none⟩)),(5,.pointer (some ⟨W,0,none⟩)),(7,.pointer (some ⟨G,0,none⟩)),(9,.pointer (some ⟨aI,0,none⟩)),(10,.pointer (some ⟨aE,0,none⟩)),(35,.slice Ac c.gs.length cc),(36,vi (c.gs.length:Int)),(37,vi (i:Int)),(46,.agg #[vi ((aAt ps.out g.a).m),vi ((aAt ps.out g.a).t)]),(47,.pointer (some ⟨b12,5,none⟩)),(50,vi g.b)]∧w0.heap.size≤aE∧Blk w aE 34 [vi 0,vi 0]∧G≠aE∧w15.heap.size≤aE∧w14.heap.size≤aE∧Away J aE∧Below w15.heap.size w15 w) ?_ ?_
   ·rintro a sG ⟨aE,A,bS,bE,aR,bU,bW,aS,p⟩;clear q;have q:=p;have e:=e.below p;have o:=o.below p;have d:=d.below p;have C:=btr C p;have B:=btr B p;refine Yb A<|Y2 7 13 ?_ ?_
    ·refine Yz rfl trivial (Uev (X0 rfl X08 (e.at 5))) ?_;exact fun a A=>jQ _ a _ rfl ⟨aE,A.sb,bS,bE,aR,bU,bW,aS,q⟩
    refine Yk rfl trivial (X6 (zs:=[vi 0,vi 0]) X18 rfl) (fun _ _ ⟨_,_,_,h,_⟩=>h) ?_;rintro _ sH ⟨b96,rfl,i5,p,pU⟩
    have j7:G≠b96:=by have:=o.lt;omega
    have j8:aE≠b96:=by have:=bE.lt;omega
    have nG:=Nat.le_trans C.size i5;have nH:=Nat.le_trans B.size i5;have nI:=Nat.le_trans q.size i5;have j9:=d.away i5;have bE:=bE.below p;have C:=btr C p;have B:=btr B p;have q:=btr q p;exact fun a A=>jW _ a _ rfl ⟨aE,b96,A.sb,bS,bE,aR,nG,pU,j7,j8,bU,bW,nI,nH,aS,j9,q⟩
   intro lV;refine Yc [0,1,2,3,4,5,6,8,9,13] 6 (fun a w=>∃ b60,Fr a 167 [(2,.pointer (some ⟨b6,0,none⟩)),(4,.pointer (some ⟨b12,0,none⟩)),(5,.pointer (some ⟨W,0,none⟩)),(7,.pointer (some ⟨G,0,none⟩)),(9,.pointer (some ⟨aI,0,none⟩)),(11,.pointer (some ⟨b60,0,none⟩)),(35,.slice Ac c.gs.length cc),(36,vi (c.gs.length:Int)),(37,vi (i:Int)),(46,.agg #[vi ((aAt ps.out g.a).m),vi ((aAt ps.out g.a).t)]),(47,.pointer (some ⟨b12,5,none⟩)),(50,vi g.b)]∧w0.heap.size≤b60∧Blk w b60 34 [vi 0,vi 0]∧G≠b60∧w15.heap.size≤b60∧w14.heap.size≤b60∧Away J b60∧Below w15.heap.size w15 w) ?_ ?_
   ·rintro a sI ⟨b60,A,fB,dR,cG,fD,fC,cH,p⟩;clear q;have q:=p;have e:=e.below p;have o:=o.below p;have d:=d.below p;have C:=btr C p;have B:=btr B p;refine Yb A<|Y2 7 12 ?_ ?_
    ·refine Yz rfl trivial (Uev (X0 rfl X08 (e.at 5))) ?_;exact fun a A=>jU _ a _ rfl ⟨b60,A.sb,fB,dR,cG,fD,fC,cH,q⟩
    refine Yk rfl trivial (X6 (zs:=[vi 0,vi 0]) X18 rfl) (fun _ _ ⟨_,_,_,h,_⟩=>h) ?_;rintro _ sJ ⟨b99,rfl,i6,p,pV⟩
    have jA:G≠b99:=by have:=o.lt;omega
    have jB:b60≠b99:=by have:=dR.lt;omega
    have nJ:=Nat.le_trans C.size i6;have nK:=Nat.le_trans B.size i6;have nL:=Nat.le_trans q.size i6;have jC:=d.away i6;have dR:=dR.below p;have C:=btr C p;have B:=btr B p;have q:=btr q p;exact fun a A=>jW _ a _ rfl ⟨b99,b60,A.sb,nJ,pV,jA,fB,dR,cG,(Ne.symm jB),nL,nK,fD,fC,jC,cH,q⟩
   intro lW;refine Yc [0,1,2,3,4,5,6,8,12,13] 6 (fun a w=>∃ b62 b63,Fr a 167 [(2,.pointer (some ⟨b6,0,none⟩)),(4,.pointer (some ⟨b12,0,none⟩)),(5,.pointer (some ⟨W,0,none⟩)),(7,.pointer (some ⟨G,0,none⟩)),(9,.pointer (some ⟨aI,0,none⟩)),(10,.pointer (some ⟨b62,0,none⟩)),(11,.pointer (some ⟨b63,0,none⟩)),(35,.slice Ac c.gs.length cc),(36,vi (c.gs.length:Int)),(37,vi (i:Int)),(46,.agg #[vi ((aAt ps.out g.a).m),vi ((aAt ps.out g.a).t)]),(47,.pointer (some ⟨b12,5,none⟩)),(49,.pointer (some ⟨aI,2,none⟩))]∧w0.heap.size≤b62∧Blk w b62 34 [vi 0,vi 0]∧G≠b62∧w0.heap.size≤b63∧Blk w b63 34 [vi 0,vi 0]∧G≠b63∧b62≠b63∧w15.heap.size≤b62∧w14.heap.size≤b62∧w15.heap.size≤b63∧w14.heap.size≤b63∧Away J b62∧Away J b63∧Below w15.heap.size w15 w) ?_ ?_
   ·rintro a sK ⟨b62,b63,A,dX,e8,cP,dE,dM,aX,cQ,eA,eB,dG,dF,cR,aY,p⟩;clear q;have q:=p;have e:=e.below p;have D:=D.below p;have C:=btr C p;have B:=btr B p;refine Yb A<|Y3 7 9 14 ?_ ?_ ?_
    ·refine Yz rfl trivial (Uev (X0 rfl X08 (e.at 5))) ?_;exact fun a A=>jV _ a _ rfl ⟨b62,b63,A.sb,dX,e8,cP,dE,dM,aX,cQ,eA,eB,dG,dF,cR,aY,q⟩
    ·refine Yz rfl trivial (Uev (X0 rfl X2 (D.at 2))) ?_;exact fun a A=>jW _ a _ rfl ⟨b62,b63,A.sb,dX,e8,cP,dE,dM,aX,cQ,eA,eB,dG,dF,cR,aY,q⟩
    refine Yh rfl trivial rfl (Vw [vi ((aAt ps.out g.a).m),vi ((aAt ps.out g.a).t)] Xj e8) ?_;rintro _ sM ⟨M,hb⟩;have x:=e8;have e:=e.only M (Blk.ne e x rfl);have D:=D.only M (Blk.ne D x rfl);have dM:=dM.only M (by omega);have B:=Below.only B M eB;have q:=Below.only q M eA;have C:=Below.only C M dX;have e8:=hb;refine Y2 7 9 ?_ ?_
    ·refine Yz rfl trivial (Uev (X0 rfl X08 (e.at 5))) ?_;exact fun a A=>lQ _ a _ rfl ⟨b62,b63,A.sb,dX,e8,cP,dE,dM,aX,cQ,eA,eB,dG,dF,cR,aY,q⟩
    refine Yz rfl trivial (Uev (X0 rfl X2 (D.at 2))) ?_;exact fun a A=>lR _ a _ rfl ⟨b62,b63,A.sb,dX,e8,cP,dE,dM,aX,cQ,eA,eB,dG,dF,cR,aY,q⟩
   intro k5;refine Y4 7 9 12 13 ?_ ?_ ?_ ?_
   ·refine Yz rfl trivial (Uev (X0 rfl X08 (e.at 5))) ?_;refine Y3 9 12 13 ?_ ?_ ?_
    ·refine Yz rfl trivial (Uev (X0 rfl X2 (D.at 2))) ?_;exact fun a A=>lS _ a _ rfl ⟨A.sb,q⟩
    ·refine Yk rfl trivial (X6 (zs:=[vi 0,vi 0]) X18 rfl) (fun _ _ ⟨_,_,_,h,_⟩=>h) ?_;rintro _ sO ⟨b102,rfl,fK,p,nM⟩
     have gA:G≠b102:=by have:=o.lt;omega
     have kB:=Nat.le_trans C.size fK;have kC:=Nat.le_trans B.size fK;have kD:=Nat.le_trans q.size fK;have gB:=d.away fK;have C:=btr C p;have B:=btr B p;have q:=btr q p;exact fun a A=>lT _ a _ rfl ⟨b102,A.sb,kB,nM,gA,kD,kC,gB,q⟩
    refine Yk rfl trivial (X6 (zs:=[vi 0,vi 0]) X18 rfl) (fun _ _ ⟨_,_,_,h,_⟩=>h) ?_;rintro _ sP ⟨b103,rfl,fL,p,nN⟩
    have gC:G≠b103:=by have:=o.lt;omega
    have kE:=Nat.le_trans C.size fL;have kF:=Nat.le_trans B.size fL;have kG:=Nat.le_trans q.size fL;have gD:=d.away fL;have C:=btr C p;have B:=btr B p;have q:=btr q p;exact fun a A=>lU _ a _ rfl ⟨b103,A.sb,kE,nN,gC,kG,kF,gD,q⟩
   ·refine Yz rfl trivial (Uev (X0 rfl X2 (D.at 2))) ?_;refine Y3 7 12 13 ?_ ?_ ?_
    ·refine Yz rfl trivial (Uev (X0 rfl X08 (e.at 5))) ?_;exact fun a A=>lS _ a _ rfl ⟨A.sb,q⟩
    ·refine Yk rfl trivial (X6 (zs:=[vi 0,vi 0]) X18 rfl) (fun _ _ ⟨_,_,_,h,_⟩=>h) ?_;rintro _ sQ ⟨b104,rfl,fM,p,nO⟩
     have gE:G≠b104:=by have:=o.lt;omega
     have kH:=Nat.le_trans C.size fM;have kI:=Nat.le_trans B.size fM;have kJ:=Nat.le_trans q.size fM;have gF:=d.away fM;have C:=btr C p;have B:=btr B p;have q:=btr q p;exact fun a A=>lV _ a _ rfl ⟨b104,A.sb,kH,nO,gE,kJ,kI,gF,q⟩
    refine Yk rfl trivial (X6 (zs:=[vi 0,vi 0]) X18 rfl) (fun _ _ ⟨_,_,_,h,_⟩=>h) ?_;rintro _ sR ⟨b105,rfl,fN,p,nP⟩
    have gG:G≠b105:=by have:=o.lt;omega
    have kK:=Nat.le_trans C.size fN;have kL:=Nat.le_trans B.size fN;have kM:=Nat.le_trans q.size fN;have gH:=d.away fN;have C:=btr C p;have B:=btr B p;have q:=btr q p;exact fun a A=>lW _ a _ rfl ⟨b105,A.sb,kK,nP,gG,kM,kL,gH,q⟩
   ·refine Yk rfl trivial (X6 (zs:=[vi 0,vi 0]) X18 rfl) (fun _ _ ⟨_,_,_,h,_⟩=>h) ?_;rintro _ sS ⟨b106,rfl,fO,p,dH⟩
    have cX:G≠b106:=by have:=o.lt;omega
    have fP:=Nat.le_trans C.size fO;have fQ:=Nat.le_trans B.size fO;have fR:=Nat.le_trans q.size fO;have cY:=d.away fO;have e:=e.below p;have o:=o.below p;have D:=D.below p;have d:=d.below p;have C:=btr C p;have B:=btr B p;have q:=btr q p;refine Y3 7 9 13 ?_ ?_ ?_
    ·refine Yz rfl trivial (Uev (X0 rfl X08 (e.at 5))) ?_;exact fun a A=>lT _ a _ rfl ⟨b106,A.sb,fP,dH,cX,fR,fQ,cY,q⟩
    ·refine Yz rfl trivial (Uev (X0 rfl X2 (D.at 2))) ?_;exact fun a A=>lV _ a _ rfl ⟨b106,A.sb,fP,dH,cX,fR,fQ,cY,q⟩
    refine Yk rfl trivial (X6 (zs:=[vi 0,vi 0]) X18 rfl) (fun _ _ ⟨_,_,_,h,_⟩=>h) ?_;rintro _ sT ⟨b107,rfl,fS,p,nQ⟩
    have gI:G≠b107:=by have:=o.lt;omega
    have g5:b106≠b107:=by have:=dH.lt;omega
    have kN:=Nat.le_trans C.size fS;have kO:=Nat.le_trans B.size fS;have kP:=Nat.le_trans q.size fS;have gJ:=d.away fS;have dH:=dH.below p;have C:=btr C p;have B:=btr B p;have q:=btr q p;exact fun a A=>k5 _ a _ rfl ⟨b106,b107,A.sb,fP,dH,cX,kN,nQ,gI,g5,fR,fQ,kP,kO,cY,gJ,q⟩
   refine Yk rfl trivial (X6 (zs:=[vi 0,vi 0]) X18 rfl) (fun _ _ ⟨_,_,_,h,_⟩=>h) ?_;rintro _ sU ⟨b108,rfl,fT,p,dI⟩
   have d5:G≠b108:=by have:=o.lt;omega
   have fU:=Nat.le_trans C.size fT;have fV:=Nat.le_trans B.size fT;have fW:=Nat.le_trans q.size fT;have d6:=d.away fT;have e:=e.below p;have o:=o.below p;have D:=D.below p;have d:=d.below p;have C:=btr C p;have B:=btr B p;have q:=btr q p;refine Y3 7 9 12 ?_ ?_ ?_
   ·refine Yz rfl trivial (Uev (X0 rfl X08 (e.at 5))) ?_;exact fun a A=>lU _ a _ rfl ⟨b108,A.sb,fU,dI,d5,fW,fV,d6,q⟩
   ·refine Yz rfl trivial (Uev (X0 rfl X2 (D.at 2))) ?_;exact fun a A=>lW _ a _ rfl ⟨b108,A.sb,fU,dI,d5,fW,fV,d6,q⟩
   refine Yk rfl trivial (X6 (zs:=[vi 0,vi 0]) X18 rfl) (fun _ _ ⟨_,_,_,h,_⟩=>h) ?_;rintro _ sV ⟨b109,rfl,fX,p,nR⟩
   have gK:G≠b109:=by have:=o.lt;omega
   have g6:b108≠b109:=by have:=dI.lt;omega
   have kQ:=Nat.le_trans C.size fX;have kR:=Nat.le_trans B.size fX;have kS:=Nat.le_trans q.size fX;have gL:=d.away fX;have dI:=dI.below p;have C:=btr C p;have B:=btr B p;have q:=btr q p;exact fun a A=>k5 _ a _ rfl ⟨b109,b108,A.sb,kQ,nR,gK,fU,dI,d5,(Ne.symm g6),kS,kR,fW,fV,gL,d6,q⟩
  rintro a sW ⟨U,aJ,A,cW,I,aW,dO,b5,bY,aM,bZ,p⟩;have E:=E.below p;have e:=e.below p;have y:=y.below p;have o:=o.below p;have D:=D.below p;have d:=d.below p;have L:=L.below p;have C:=btr C p;refine pI _ _<|Zs A fun _ nT=>?_;refine Ze (Vd rfl X1i 0)<|Ze (X0 rfl X2 (D.at 0))<|Zt nT fun a A=>?_;refine wp_block<|Zs A fun _ nU=>?_;refine Ze (X0l rfl rfl)<|Za rfl<|Zt nU fun a A=>?_
  refine Xg A rfl (fun eC=>?_) (fun eC=>?_)
  ·have kT:=eC
   have h1:g.k=1:=by simpa using eC
   refine wp_seq_k fun _ nV=>?_;refine Zs A fun _ nW=>?_;refine Ze (Vd rfl X09 0)<|Ze (X0 rfl X2 (e.at 0))<|Ze (Vd rfl X0n 1)<|Ze (X0 rfl X2 (e.at 1))<|Ze (X3p (k:=((n+ps.v:Nat) : Int)) rfl rfl (by omega) (by omega) (by omega)) ?_;refine Ze (X0l rfl rfl)<|Zt nW fun a A=>?_
   refine Xg A rfl (fun eD=>?_) (fun eD=>?_)
   ·have kU:=eD
    have eL:24≤n+ps.v:=by have:=eD;simp at this;omega
    refine Zs A fun _ nX=>?_;refine Ze (Xk (ps:=[]) (cs:=[vi 0,vi 0,vi 0,vi 0,.slice none 0 0,.slice none 0 0]) rfl (fun _=>by first|rfl|kernel_rfl))<|Zo (Vw [vi 0,vi 0,vi 0,vi 0,.slice none 0 0,.slice none 0 0] X04 E) ?_;rintro _ sX ⟨M,hb⟩;have x:=E;have C:=Below.only C M lF;have E:=hb;refine Za rfl<|Zt nX fun a A=>?_;refine wp_ret<|X7<|Xw<|Xw ?_;refine X7<|X7<|Xw<|X7 ?_;refine X3 A (X1m A rfl (ResV.cellN (l:=[vi 0,vi 0,vi 0,vi 0,.slice none 0 0,.slice none 0 0]) rfl Xh (E.at 0) rfl) rfl) ?_
    rw [Xf3 hn bJ dN ((X7n h1).trans (Xfh eL))]
    exact ⟨none,0,none,0,rfl,(Rd.nil _ _ _ _ _),(Rd.nil _ _ _ _ _),(Nat.zero_le _),C⟩
   have kU:=eD
   have eL:¬ 24≤n+ps.v:=by have:=eD;simp at this;omega
   refine wp_skip<|nV _ _<|Zs A fun _ nY=>?_;refine Ze (Vd rfl X09 0)<|Ze (X0 rfl X2 (e.at 0))<|Ze (Vd rfl X0n 1)<|Ze (X0 rfl X2 (e.at 1))<|Ze (X3p (k:=((n+ps.v:Nat) : Int)) rfl rfl (by omega) (by omega) (by omega)) ?_;refine Ze (X5a (m:=(n+ps.v)) Tryz.underlying3 Tryz.underlying67 rfl rfl (by omega))<|Ze (Vx (X2i (m:=(n+ps.v)) rfl rfl rfl (by omega)) (X48 (by omega)))<|Ze (Xk (ps:=[(0,vi ((2^(n+ps.v) : Nat) : Int))]) (cs:=[vi ((2^(n+ps.v) : Nat) : Int),vi 0]) rfl (fun _=>by first|rfl|kernel_rfl))<|Zf (X6 (zs:=[vi 0,vi 0]) X18 rfl) ?_;rintro _ sY ⟨b120,rfl,k6,p,aF⟩
   have nZ:G≠b120:=by have:=o.lt;omega
   have o0:U≠b120:=by have:=I.lt;omega
   have kW:=Nat.le_trans C.size k6;have gM:=d.away k6;have E:=E.below p;have e:=e.below p;have y:=y.below p;have o:=o.below p;have D:=D.below p;have I:=I.below p;have d:=d.below p;have L:=L.below p;have C:=btr C p;refine Zo (Vw [vi ((2^(n+ps.v) : Nat) : Int),vi 0] Xj aF) ?_;rintro _ sZ ⟨M,hb⟩;have x:=aF;have E:=E.only M (Blk.ne E x rfl);have e:=e.only M (Blk.ne e x rfl);have y:=y.only M (Blk.ne y x rfl);have o:=o.only M (by omega);have D:=D.only M (Blk.ne D x rfl);have I:=I.only M (by omega);have d:=d.onlyA M gM;have L:=L.onlyT M x rfl;have C:=Below.only C M kW;have aF:=hb;refine Zx nY fun a A _ o3=>?_;refine Zm rfl<|Ze (Vn Xs I)<|Ze (Vn Xs aF)<|Zf (Vc (Xtn _ W ps.f cS cU y L.top bF aH.po dB (aAt ps.out g.a) (⟨((2^(n+ps.v) : Nat) : Int),0⟩ : Af) kA (AO.var (by omega))) Xic) ?_;rintro _ t6 ⟨rfl,hK,pW,pX,bH,d7,kX⟩;obtain ⟨wm,hO,hm,p⟩:=hK.mid;clear hm;have x:=y;have E:=E.only hO (Blk.ne E x rfl);have e:=e.only hO (Blk.ne e x rfl);have o:=o.only hO (Blk.ne o x rfl);have D:=D.only hO (Blk.ne D x rfl);have aF:=aF.only hO (Blk.ne aF x rfl);have d:=d.onlyT hO x rfl;have C:=Below.only C hO dD;have E:=E.below p;have e:=e.below p;have o:=o.below p;have D:=D.below p;have aF:=aF.below p;have d:=d.below p;have C:=btr C p
   clear x p hO hK;have y:=bH;clear bH;refine Zx o3 fun a A _ o4=>?_;refine Ze (Vd rfl X0n 1)<|Ze (X0 rfl X2 (e.at 1))<|Ze (X3p (k:=((ps.v+1:Nat) : Int)) rfl rfl (by omega) (by omega) (by omega))<|Ze (Vd rfl X0n 1)<|Zo (Vu (vs:=[vi ((ps.v+1:Nat) : Int)]) (l':=[vi (n:Int),vi ((ps.v+1:Nat) : Int),vi (ps.v:Int),vi 0,.slice none 0 0,.slice J n aL]) rfl rfl X12 e) ?_;rintro _ t7 ⟨M,hb⟩;have x:=e;have E:=E.only M (by omega);have y:=y.only M (Blk.ne y x rfl);have o:=o.only M (Blk.ne o x rfl);have D:=D.only M (Blk.ne D x rfl);have aF:=aF.only M (Blk.ne aF x rfl);have d:=d.onlyT M x rfl;have d7:=d7.onlyT M x rfl;have C:=Below.only C M dC;have e:=hb;refine Zx o4 fun a A _ o5=>?_;refine Ze (Vd rfl X1k 2)<|Ze (X0 rfl X2 (e.at 2))<|Ze (X3p (k:=((ps.v+1:Nat) : Int)) rfl rfl (by omega) (by omega) (by omega))<|Ze (Vd rfl X1k 2)<|Zo (Vu (vs:=[vi ((ps.v+1:Nat) : Int)]) (l':=[vi (n:Int),vi ((ps.v+1:Nat) : Int),vi ((ps.v+1:Nat) : Int),vi 0,.slice none 0 0,.slice J n aL]) rfl rfl X12 e) ?_;rintro _ t8 ⟨M,hb⟩;have x:=e;have E:=E.only M (by omega);have y:=y.only M (Blk.ne y x rfl);have o:=o.only M (Blk.ne o x rfl);have D:=D.only M (Blk.ne D x rfl);have aF:=aF.only M (Blk.ne aF x rfl);have d:=d.onlyT M x rfl;have d7:=d7.onlyT M x rfl;have C:=Below.only C M dC;have e:=hb;refine Zt o5 fun a A=>?_;refine Zr A<|Ze (Vd rfl Xx 5)<|Ze (X0 rfl X08 (e.at 5))<|Ze (Vd rfl X11 1)<|Ze (X0 rfl X2 (D.at 1))<|Ze (Vn Xs aF) ?_
   refine Ze (X0w (k:=g.a.toNat) rfl rfl Xr Xj d (by omega) (by omega) (by omega))<|Zo (X1s (enc:=encA) (l:=ps.out) (vs:=[vi ((2^(n+ps.v) : Nat) : Int),vi 0]) (x0:=(aAt ps.out g.a)) (u:=(⟨((2^(n+ps.v) : Nat) : Int),0⟩ : Af)) (k:=g.a.toNat) (j:=0) (n1:=2) rfl rfl Xj d Xv rfl rfl rfl rfl (by decide) jJ rfl) ?_;rintro _ tA ⟨aT,hg⟩;have H:=d;have E:=E.appT H hg rfl;have e:=e.appT H hg rfl;have y:=y.appT H hg rfl;have o:=o.appA hg N;have d7:=d7.appT H hg rfl;have C:=Below.app C H hg (Nat.le_refl _) C.size
   clear H hg;clear d;have d:=aT;clear aT;refine Zn fun a A=>?_;refine Xa<|Xa<|dL _ _<|Zr A ?_;refine Ze (Xu rfl rfl (by omega) (by omega))<|Zm rfl ?_;refine Zn fun a A=>?_
   have Q:psStep n ps g=some (⟨(foldA (sumS (aAt ps.out g.a) (⟨((2^(n+ps.v) : Nat) : Int),0⟩ : Af)) ps.f),(ps.v+1:Nat),(ps.out.set g.a.toNat (⟨((2^(n+ps.v) : Nat) : Int),0⟩ : Af))⟩ : Pst):=by first|exact (X7n h1).trans (X3j eL)|exact X8r h1 h2|exact X8q h1 h2 h3|exact X8e h1 h2 h3 h9|exact X5z h1 h2 h3 h9 aG|exact X53 h1 h2 h3 h9 aG aU|exact X5s h1 h2 h3 h9 aG aU bX|exact X92 h1 h2 h3 h9 aG aU bX
   refine Xd ?_;exact ⟨(i+1,(⟨(foldA (sumS (aAt ps.out g.a) (⟨((2^(n+ps.v) : Nat) : Int),0⟩ : Af)) ps.f),(ps.v+1:Nat),(ps.out.set g.a.toNat (⟨((2^(n+ps.v) : Nat) : Int),0⟩ : Af))⟩ : Pst)),⟨J,aL,pW,pX,A.sb,(by omega),((X2b bJ dN).trans Q),(aH.step Q),(dB.step aH Q),E,e,y,o,d,d7.top,kX,N,C⟩,(by first|omega|(dsimp only;omega))⟩
  have kT:=eC
  have h1:¬ g.k=1:=by simpa using eC
  refine Zs A fun _ o6=>?_;refine Ze (X0l rfl rfl)<|Za rfl<|Zt o6 fun a A=>?_
  refine Xg A rfl (fun eE=>?_) (fun eE=>?_)
  ·have kY:=eE
   have h2:g.k=2:=by simpa using eE
   refine Xq none (fun j=>[8].contains j) mixed ?_;intro tB p;have E:=E.below p;have e:=e.below p;have y:=y.below p;have o:=o.below p;have D:=D.below p;have I:=I.below p;have d:=d.below p;have L:=L.below p;have C:=btr C p;refine Yb A<|Yo 0 rfl (fun _=>Vd rfl Xx 5)<|Ye 1 rfl (X0 rfl X08 (e.at 5))<|Yo 2 rfl (fun _=>Vd rfl X11 1)<|Ye 3 rfl (X0 rfl X2 (D.at 1))<|Ye 4 rfl (Vn Xs I) ?_;refine Ye 5 rfl (Vn Xs o)<|Y1 6 ?_;refine Yk rfl trivial (Vc (Xnp _ (aAt ps.out g.a) (⟨0,1⟩ : Af)) Xe0) (fun _ _ ⟨_,p⟩=>p) ?_;rintro _ tC ⟨rfl,p⟩;have E:=E.below p;have e:=e.below p;have y:=y.below p;have o:=o.below p;have d:=d.below p;have L:=L.below p;have C:=btr C p;refine Yo 7 rfl (fun _=>X0w (k:=g.a.toNat) rfl rfl Xr Xj d (by omega) (by omega) (by omega))<|Y1 8 ?_;refine Yh rfl trivial rfl (X1s (enc:=encA) (l:=ps.out) (vs:=[vi ((aXor (aAt ps.out g.a) (⟨0,1⟩ : Af)).m),vi ((aXor (aAt ps.out g.a) (⟨0,1⟩ : Af)).t)]) (x0:=(aAt ps.out g.a)) (u:=(aXor (aAt ps.out g.a) (⟨0,1⟩ : Af))) (k:=g.a.toNat) (j:=0) (n1:=2) rfl rfl Xj d Xv rfl rfl rfl rfl (by decide) jJ rfl) ?_;rintro _ tD ⟨aT,hg⟩;have H:=d;have E:=E.appT H hg rfl;have e:=e.appT H hg rfl;have y:=y.appT H hg rfl;have o:=o.appA hg N;have L:=L.appT H hg rfl;have C:=Below.app C H hg (Nat.le_refl _) C.size
   clear H hg;clear d;have d:=aT;clear aT;refine Yd fun a A=>?_;refine Xa<|Xa<|dL _ _<|Zr A ?_;refine Ze (Xu rfl rfl (by omega) (by omega))<|Zm rfl ?_;refine Zn fun a A=>?_
   have Q:psStep n ps g=some (⟨ps.f,ps.v,(ps.out.set g.a.toNat (aXor (aAt ps.out g.a) (⟨0,1⟩ : Af)))⟩ : Pst):=by first|exact (X7n h1).trans (X3j eL)|exact X8r h1 h2|exact X8q h1 h2 h3|exact X8e h1 h2 h3 h9|exact X5z h1 h2 h3 h9 aG|exact X53 h1 h2 h3 h9 aG aU|exact X5s h1 h2 h3 h9 aG aU bX|exact X92 h1 h2 h3 h9 aG aU bX
   refine Xd ?_;exact ⟨(i+1,(⟨ps.f,ps.v,(ps.out.set g.a.toNat (aXor (aAt ps.out g.a) (⟨0,1⟩ : Af)))⟩ : Pst)),⟨J,aL,cS,cU,A.sb,(by omega),((X2b bJ dN).trans Q),(aH.step Q),(dB.step aH Q),E,e,y,o,d,L.top,bF,N,C⟩,(by first|omega|(dsimp only;omega))⟩
  have kY:=eE
  have h2:¬ g.k=2:=by simpa using eE
  refine Zs A fun _ o7=>?_;refine Ze (X0l rfl rfl)<|Za rfl<|Zt o7 fun a A=>?_
  refine Xg A rfl (fun eF=>?_) (fun eF=>?_)
  ·have kZ:=eF
   have h3:g.k=3:=by simpa using eF
   refine Zs A fun _ o8=>?_;refine Zm rfl<|Zf (Vc (X3k _ W ps.f cS cU y L.top bF aH.po dB 0 2 Mk.zero (by omega)) X21) ?_;rintro _ tE ⟨rfl,hK,pY,pZ,bH,o9,l6⟩;obtain ⟨wm,hO,hm,p⟩:=hK.mid;clear hm;have x:=y;have E:=E.only hO (Blk.ne E x rfl);have e:=e.only hO (Blk.ne e x rfl);have o:=o.only hO (Blk.ne o x rfl);have D:=D.only hO (Blk.ne D x rfl);have I:=I.only hO (Blk.ne I x rfl);have d:=d.onlyT hO x rfl;have C:=Below.only C hO dD;have E:=E.below p;have e:=e.below p;have o:=o.below p;have D:=D.below p;have I:=I.below p;have d:=d.below p;have C:=btr C p
   clear x p hO hK;have y:=bH;clear bH;refine Zx o8 fun a A _ oB=>?_;refine Zm rfl<|Ze (Vn Xs I)<|Zf (Vc (Xgk _ W (padd ps.f 0 2) pY pZ y o9.top l6 (aH.po.padd _ _) (dB.pad aH.po Mk.zero) 0 4 (aAt ps.out g.a) Mk.zero (by omega) kA) X83) ?_;rintro _ tF ⟨rfl,hK,q5,q6,bH,d8,l7⟩;obtain ⟨wm,hO,hm,p⟩:=hK.mid;clear hm;have x:=y;have E:=E.only hO (Blk.ne E x rfl);have e:=e.only hO (Blk.ne e x rfl);have o:=o.only hO (Blk.ne o x rfl);have D:=D.only hO (Blk.ne D x rfl);have I:=I.only hO (Blk.ne I x rfl);have d:=d.onlyT hO x rfl;have C:=Below.only C hO dD;have E:=E.below p;have e:=e.below p;have o:=o.below p;have D:=D.below p;have I:=I.below p;have d:=d.below p;have C:=btr C p
   clear x p hO hK;have y:=bH;clear bH;refine Zt oB fun a A=>?_;refine Xq none (fun j=>[8].contains j) mixed ?_;intro tG p;have E:=E.below p;have e:=e.below p;have y:=y.below p;have o:=o.below p;have D:=D.below p;have I:=I.below p;have d:=d.below p;have d8:=d8.below p;have C:=btr C p;refine Yb A<|Yo 0 rfl (fun _=>Vd rfl Xx 5)<|Ye 1 rfl (X0 rfl X08 (e.at 5))<|Yo 2 rfl (fun _=>Vd rfl X11 1)<|Ye 3 rfl (X0 rfl X2 (D.at 1))<|Ye 4 rfl (Vn Xs I) ?_;refine Ye 5 rfl (Vn Xs o)<|Y1 6 ?_;refine Yk rfl trivial (Vc (Xnp _ (aAt ps.out g.a) (⟨0,1⟩ : Af)) Xe0) (fun _ _ ⟨_,p⟩=>p) ?_;rintro _ tH ⟨rfl,p⟩;have E:=E.below p;have e:=e.below p;have y:=y.below p;have o:=o.below p;have d:=d.below p;have d8:=d8.below p;have C:=btr C p;refine Yo 7 rfl (fun _=>X0w (k:=g.a.toNat) rfl rfl Xr Xj d (by omega) (by omega) (by omega))<|Y1 8 ?_;refine Yh rfl trivial rfl (X1s (enc:=encA) (l:=ps.out) (vs:=[vi ((aXor (aAt ps.out g.a) (⟨0,1⟩ : Af)).m),vi ((aXor (aAt ps.out g.a) (⟨0,1⟩ : Af)).t)]) (x0:=(aAt ps.out g.a)) (u:=(aXor (aAt ps.out g.a) (⟨0,1⟩ : Af))) (k:=g.a.toNat) (j:=0) (n1:=2) rfl rfl Xj d Xv rfl rfl rfl rfl (by decide) jJ rfl) ?_;rintro _ tI ⟨aT,hg⟩;have H:=d;have E:=E.appT H hg rfl;have e:=e.appT H hg rfl;have y:=y.appT H hg rfl;have o:=o.appA hg N;have d8:=d8.appT H hg rfl;have C:=Below.app C H hg (Nat.le_refl _) C.size
   clear H hg;clear d;have d:=aT;clear aT;refine Yd fun a A=>?_;refine Xa<|Xa<|dL _ _<|Zr A ?_;refine Ze (Xu rfl rfl (by omega) (by omega))<|Zm rfl ?_;refine Zn fun a A=>?_
   have Q:psStep n ps g=some (⟨(expP (padd ps.f 0 2) 4 (aAt ps.out g.a) 0),ps.v,(ps.out.set g.a.toNat (aXor (aAt ps.out g.a) (⟨0,1⟩ : Af)))⟩ : Pst):=by first|exact (X7n h1).trans (X3j eL)|exact X8r h1 h2|exact X8q h1 h2 h3|exact X8e h1 h2 h3 h9|exact X5z h1 h2 h3 h9 aG|exact X53 h1 h2 h3 h9 aG aU|exact X5s h1 h2 h3 h9 aG aU bX|exact X92 h1 h2 h3 h9 aG aU bX
   refine Xd ?_;exact ⟨(i+1,(⟨(expP (padd ps.f 0 2) 4 (aAt ps.out g.a) 0),ps.v,(ps.out.set g.a.toNat (aXor (aAt ps.out g.a) (⟨0,1⟩ : Af)))⟩ : Pst)),⟨J,aL,q5,q6,A.sb,(by omega),((X2b bJ dN).trans Q),(aH.step Q),(dB.step aH Q),E,e,y,o,d,d8.top,l7,N,C⟩,(by first|omega|(dsimp only;omega))⟩
  have kZ:=eF
  have h3:¬ g.k=3:=by simpa using eF
  refine Zs A fun _ oC=>?_;refine Ze (X0l rfl rfl)<|Za rfl<|Zt oC fun a A=>?_
  refine Xg A rfl (fun eG=>?_) (fun eG=>?_)
  ·have l8:=eG
   have h9:g.k=9:=by simpa using eG
   have oD:=X65 jI (by omega)
   refine Xq none (fun j=>[8].contains j) mixed ?_;intro tJ p;have E:=E.below p;have e:=e.below p;have y:=y.below p;have o:=o.below p;have D:=D.below p;have I:=I.below p;have b5:=b5.below p;have d:=d.below p;have L:=L.below p;have C:=btr C p;refine Yb A<|Yo 0 rfl (fun _=>Vd rfl Xx 5)<|Ye 1 rfl (X0 rfl X08 (e.at 5))<|Yo 2 rfl (fun _=>Vd rfl X1d 2)<|Ye 3 rfl (X0 rfl X2 (D.at 2))<|Ye 4 rfl (Vn Xs I) ?_;refine Ye 5 rfl (Vn Xs b5)<|Y1 6 ?_;refine Yk rfl trivial (Vc (Xnp _ (aAt ps.out g.a) (aAt ps.out g.b)) Xe0) (fun _ _ ⟨_,p⟩=>p) ?_;rintro _ tK ⟨rfl,p⟩;have E:=E.below p;have e:=e.below p;have y:=y.below p;have o:=o.below p;have d:=d.below p;have L:=L.below p;have C:=btr C p;refine Yo 7 rfl (fun _=>X0w (k:=g.b.toNat) rfl rfl Xr Xj d (by omega) (by omega) (by omega))<|Y1 8 ?_;refine Yh rfl trivial rfl (X1s (enc:=encA) (l:=ps.out) (vs:=[vi ((aXor (aAt ps.out g.a) (aAt ps.out g.b)).m),vi ((aXor (aAt ps.out g.a) (aAt ps.out g.b)).t)]) (x0:=(aAt ps.out g.b)) (u:=(aXor (aAt ps.out g.a) (aAt ps.out g.b))) (k:=g.b.toNat) (j:=0) (n1:=2) rfl rfl Xj d Xv rfl rfl rfl rfl (by decide) g7 rfl) ?_;rintro _ tL ⟨aT,hg⟩;have H:=d;have E:=E.appT H hg rfl;have e:=e.appT H hg rfl;have y:=y.appT H hg rfl;have o:=o.appA hg N;have L:=L.appT H hg rfl;have C:=Below.app C H hg (Nat.le_refl _) C.size
   clear H hg;clear d;have d:=aT;clear aT;refine Yd fun a A=>?_;refine Xa<|Xa<|dL _ _<|Zr A ?_;refine Ze (Xu rfl rfl (by omega) (by omega))<|Zm rfl ?_;refine Zn fun a A=>?_
   have Q:psStep n ps g=some (⟨ps.f,ps.v,(ps.out.set g.b.toNat (aXor (aAt ps.out g.a) (aAt ps.out g.b)))⟩ : Pst):=by first|exact (X7n h1).trans (X3j eL)|exact X8r h1 h2|exact X8q h1 h2 h3|exact X8e h1 h2 h3 h9|exact X5z h1 h2 h3 h9 aG|exact X53 h1 h2 h3 h9 aG aU|exact X5s h1 h2 h3 h9 aG aU bX|exact X92 h1 h2 h3 h9 aG aU bX
   refine Xd ?_;exact ⟨(i+1,(⟨ps.f,ps.v,(ps.out.set g.b.toNat (aXor (aAt ps.out g.a) (aAt ps.out g.b)))⟩ : Pst)),⟨J,aL,cS,cU,A.sb,(by omega),((X2b bJ dN).trans Q),(aH.step Q),(dB.step aH Q),E,e,y,o,d,L.top,bF,N,C⟩,(by first|omega|(dsimp only;omega))⟩
  have l8:=eG
  have h9:¬ g.k=9:=by simpa using eG
  refine Zs A fun _ oE=>?_;refine Ze (X0l rfl rfl)<|Za rfl<|Zt oE fun a A=>?_
  refine Xg A rfl (fun eH=>?_) (fun eH=>?_)
  ·have l9:=eH
   have aG:g.k=10:=by simpa using eH
   have oD:=X65 jI (by omega)
   refine Zr A<|Zm rfl<|Ze (Vn Xs I)<|Ze (Vn Xs b5)<|Zf (Vc (Xtn _ W ps.f cS cU y L.top bF aH.po dB (aAt ps.out g.a) (aAt ps.out g.b) kA qR) Xic) ?_;rintro _ tM ⟨rfl,hK,q7,q8,bH,oF,lA⟩;obtain ⟨wm,hO,hm,p⟩:=hK.mid;clear hm;have x:=y;have E:=E.only hO (Blk.ne E x rfl);have e:=e.only hO (Blk.ne e x rfl);have o:=o.only hO (Blk.ne o x rfl);have d:=d.onlyT hO x rfl;have C:=Below.only C hO dD;have E:=E.below p;have e:=e.below p;have o:=o.below p;have d:=d.below p;have C:=btr C p
   clear x p hO hK;have y:=bH;clear bH;refine Zn fun a A=>?_;refine Xa<|Xa<|dL _ _<|Zr A ?_;refine Ze (Xu rfl rfl (by omega) (by omega))<|Zm rfl ?_;refine Zn fun a A=>?_
   have Q:psStep n ps g=some (⟨(foldA (sumS (aAt ps.out g.a) (aAt ps.out g.b)) ps.f),ps.v,ps.out⟩ : Pst):=by first|exact (X7n h1).trans (X3j eL)|exact X8r h1 h2|exact X8q h1 h2 h3|exact X8e h1 h2 h3 h9|exact X5z h1 h2 h3 h9 aG|exact X53 h1 h2 h3 h9 aG aU|exact X5s h1 h2 h3 h9 aG aU bX|exact X92 h1 h2 h3 h9 aG aU bX
   refine Xd ?_;exact ⟨(i+1,(⟨(foldA (sumS (aAt ps.out g.a) (aAt ps.out g.b)) ps.f),ps.v,ps.out⟩ : Pst)),⟨J,aL,q7,q8,A.sb,(by omega),((X2b bJ dN).trans Q),(aH.step Q),(dB.step aH Q),E,e,y,o,d,oF.top,lA,N,C⟩,(by first|omega|(dsimp only;omega))⟩
  have l9:=eH
  have aG:¬ g.k=10:=by simpa using eH
  refine Zs A fun _ oG=>?_;refine Ze (X0l rfl rfl)<|Za rfl<|Zt oG fun a A=>?_
  refine Xg A rfl (fun eI=>?_) (fun eI=>?_)
  ·have lB:=eI
   have aU:g.k=11:=by simpa using eI
   have oD:=X65 jI (by omega)
   refine Zs A fun _ oH=>?_;refine Ze (Vd rfl Xx 5)<|Ze (X0 rfl X08 (e.at 5))<|Ze (Vd rfl X11 1)<|Ze (X0 rfl X2 (D.at 1))<|Ze (Vn Xs b5) ?_;refine Ze (X0w (k:=g.a.toNat) rfl rfl Xr Xj d (by omega) (by omega) (by omega))<|Zo (X1s (enc:=encA) (l:=ps.out) (vs:=[vi ((aAt ps.out g.b).m),vi ((aAt ps.out g.b).t)]) (x0:=(aAt ps.out g.a)) (u:=(aAt ps.out g.b)) (k:=g.a.toNat) (j:=0) (n1:=2) rfl rfl Xj d Xv rfl rfl rfl rfl (by decide) jJ rfl) ?_;rintro _ tN ⟨aT,hg⟩;have H:=d;have E:=E.appT H hg rfl;have e:=e.appT H hg rfl;have y:=y.appT H hg rfl;have o:=o.appA hg N;have D:=D.appT H hg rfl;have I:=I.appA hg aM;have L:=L.appT H hg rfl;have C:=Below.app C H hg (Nat.le_refl _) C.size
   clear H hg;clear d;have d:=aT;clear aT;refine Zt oH fun a A=>?_;refine Zr A<|Ze (Vd rfl Xx 5)<|Ze (X0 rfl X08 (e.at 5))<|Ze (Vd rfl X1d 2)<|Ze (X0 rfl X2 (D.at 2))<|Ze (Vn Xs I) ?_;refine Ze (X0w (k:=g.b.toNat) rfl rfl Xr Xj d (by rw [List.length_set];omega) (by omega) (by rw [List.length_set];omega))<|Zo (X1s (enc:=encA) (l:=(ps.out.set g.a.toNat (aAt ps.out g.b))) (vs:=[vi ((aAt ps.out g.a).m),vi ((aAt ps.out g.a).t)]) (x0:=(aAt ps.out g.b)) (u:=(aAt ps.out g.a)) (k:=g.b.toNat) (j:=0) (n1:=2) rfl rfl Xj d Xv rfl rfl rfl rfl (by decide) (X74 oD g7) rfl) ?_;rintro _ tO ⟨aT,hg⟩;have H:=d;have E:=E.appT H hg rfl;have e:=e.appT H hg rfl;have y:=y.appT H hg rfl;have o:=o.appA hg N;have L:=L.appT H hg rfl;have C:=Below.app C H hg (Nat.le_refl _) C.size
   clear H hg;clear d;have d:=aT;clear aT;refine Zn fun a A=>?_;refine Xa<|Xa<|dL _ _<|Zr A ?_;refine Ze (Xu rfl rfl (by omega) (by omega))<|Zm rfl ?_;refine Zn fun a A=>?_
   have Q:psStep n ps g=some (⟨ps.f,ps.v,((ps.out.set g.a.toNat (aAt ps.out g.b)).set g.b.toNat (aAt ps.out g.a))⟩ : Pst):=by first|exact (X7n h1).trans (X3j eL)|exact X8r h1 h2|exact X8q h1 h2 h3|exact X8e h1 h2 h3 h9|exact X5z h1 h2 h3 h9 aG|exact X53 h1 h2 h3 h9 aG aU|exact X5s h1 h2 h3 h9 aG aU bX|exact X92 h1 h2 h3 h9 aG aU bX
   refine Xd ?_;exact ⟨(i+1,(⟨ps.f,ps.v,((ps.out.set g.a.toNat (aAt ps.out g.b)).set g.b.toNat (aAt ps.out g.a))⟩ : Pst)),⟨J,aL,cS,cU,A.sb,(by omega),((X2b bJ dN).trans Q),(aH.step Q),(dB.step aH Q),E,e,y,o,d,L.top,bF,N,C⟩,(by first|omega|(dsimp only;omega))⟩
  have lB:=eI
  have aU:¬ g.k=11:=by simpa using eI
  refine Zs A fun _ oJ=>?_;refine Ze (X0l rfl rfl)<|Za rfl<|Zt oJ fun a A=>?_
  refine Xg A rfl (fun eJ=>?_) (fun eJ=>?_)
  ·have lC:=eJ
   have bX:g.k=12:=by simpa using eJ
   refine Zr A<|Zm rfl<|Zf (Vc (X3k _ W ps.f cS cU y L.top bF aH.po dB 0 1 Mk.zero (by omega)) X21) ?_;rintro _ tP ⟨rfl,hK,qC,qD,bH,oK,lD⟩;obtain ⟨wm,hO,hm,p⟩:=hK.mid;clear hm;have x:=y;have E:=E.only hO (Blk.ne E x rfl);have e:=e.only hO (Blk.ne e x rfl);have o:=o.only hO (Blk.ne o x rfl);have d:=d.onlyT hO x rfl;have C:=Below.only C hO dD;have E:=E.below p;have e:=e.below p;have o:=o.below p;have d:=d.below p;have C:=btr C p
   clear x p hO hK;have y:=bH;clear bH;refine Zn fun a A=>?_;refine Xa<|Xa<|dL _ _<|Zr A ?_;refine Ze (Xu rfl rfl (by omega) (by omega))<|Zm rfl ?_;refine Zn fun a A=>?_
   have Q:psStep n ps g=some (⟨(padd ps.f 0 1),ps.v,ps.out⟩ : Pst):=by first|exact (X7n h1).trans (X3j eL)|exact X8r h1 h2|exact X8q h1 h2 h3|exact X8e h1 h2 h3 h9|exact X5z h1 h2 h3 h9 aG|exact X53 h1 h2 h3 h9 aG aU|exact X5s h1 h2 h3 h9 aG aU bX|exact X92 h1 h2 h3 h9 aG aU bX
   refine Xd ?_;exact ⟨(i+1,(⟨(padd ps.f 0 1),ps.v,ps.out⟩ : Pst)),⟨J,aL,qC,qD,A.sb,(by omega),((X2b bJ dN).trans Q),(aH.step Q),(dB.step aH Q),E,e,y,o,d,oK.top,lD,N,C⟩,(by first|omega|(dsimp only;omega))⟩
  have lC:=eJ
  have bX:¬ g.k=12:=by simpa using eJ
  refine Xq (some W) (fun _=>false) mixed ?_;intro tQ p;have E:=E.below p;have e:=e.below p;have y:=y.below p;have o:=o.below p;have D:=D.below p;have I:=I.below p;have d:=d.below p;have L:=L.below p;have C:=btr C p;refine Yb A<|Yo 0 rfl (fun _=>X4 rfl)<|Yo 1 rfl (fun _=>Vd rfl X1i 0) ?_;refine Yw 2 rfl trivial (fun w1 h1=>X0 rfl X2 ((D.only h1 (Blk.ne D y rfl)).at 0)) ?_;refine Yw 4 rfl trivial (fun w1 h1=>X0b (l:=[vi ((aAt ps.out g.a).m),vi ((aAt ps.out g.a).t)]) rfl Xs ((I.only h1 (Blk.ne I y rfl)).at 0) rfl) ?_;refine Y1 3<|Yz rfl trivial (Vc (Xze _ g.k) Xqt) ?_;refine Y1 5<|Yf rfl trivial (EfW.mono (Vc (Xgk _ W ps.f cS cU y L.top bF aH.po dB 0 (rotC g.k) (aAt ps.out g.a) Mk.zero (Xjs _) kA) X83) (fun _ _ h=>⟨fun _=>by obtain ⟨rfl,hK,lX,lY,bH,k7,i7⟩:=h;exact hK.keep,h⟩)) ?_;rintro _ tR ⟨rfl,hK,lX,lY,bH,k7,i7⟩;obtain ⟨wm,hO,hm,p⟩:=hK.mid;clear hm;have x:=y;have E:=E.only hO (Blk.ne E x rfl);have e:=e.only hO (Blk.ne e x rfl);have o:=o.only hO (Blk.ne o x rfl);have d:=d.onlyT hO x rfl;have C:=Below.only C hO dD;have E:=E.below p;have e:=e.below p;have o:=o.below p;have d:=d.below p;have C:=btr C p
  clear x p hO hK;have y:=bH;clear bH;refine Yd fun a A=>?_;refine Xa<|Xa<|dL _ _<|Zr A ?_;refine Ze (Xu rfl rfl (by omega) (by omega))<|Zm rfl ?_;refine Zn fun a A=>?_
  have Q:psStep n ps g=some (⟨(expP ps.f (rotC g.k) (aAt ps.out g.a) 0),ps.v,ps.out⟩ : Pst):=by first|exact (X7n h1).trans (X3j eL)|exact X8r h1 h2|exact X8q h1 h2 h3|exact X8e h1 h2 h3 h9|exact X5z h1 h2 h3 h9 aG|exact X53 h1 h2 h3 h9 aG aU|exact X5s h1 h2 h3 h9 aG aU bX|exact X92 h1 h2 h3 h9 aG aU bX
  refine Xd ?_;exact ⟨(i+1,(⟨(expP ps.f (rotC g.k) (aAt ps.out g.a) 0),ps.v,ps.out⟩ : Pst)),⟨J,aL,lX,lY,A.sb,(by omega),((X2b bJ dN).trans Q),(aH.step Q),(dB.step aH Q),E,e,y,o,d,k7.top,i7,N,C⟩,(by first|omega|(dsimp only;omega))⟩
 have m8:=dK;have dK:=of_decide_eq_false dK
 have qT:i=c.gs.length:=by have:=dK;omega
 refine wp_exit<|Xi<|Xi<|X03 ?_;refine p5 _ _<|Zs A fun _ oL=>?_;refine Zm rfl<|Ze (X0v rfl)<|Ze (Vd rfl X3q 0)<|Ze (X0 rfl X2 (y.at 0))<|Ze (Vd rfl X1g 3) ?_;refine Zo (Vu (vs:=[vi (ps.f 0)]) (l':=[vi (n:Int),vi (ps.v:Int),vi (ps.v:Int),vi (ps.f 0),.slice none 0 0,.slice J n aL]) rfl rfl X12 e) ?_;rintro _ tS ⟨M,hb⟩;have x:=e;have E:=E.only M (by omega);have y:=y.only M (Blk.ne y x rfl);have d:=d.onlyT M x rfl;have L:=L.onlyT M x rfl;have C:=Below.only C M dC;have e:=hb;refine Zx oL fun a A _ oM=>?_;refine Zm rfl<|Ze (X0v rfl)<|Ze (Vd rfl X0z 1)<|Ze (X0 rfl X0y (y.at 1))<|Ze (Vd rfl X0o 4) ?_;refine Zo (Vu (vs:=[.slice cS (tms ps.f).length cU]) (l':=[vi (n:Int),vi (ps.v:Int),vi (ps.v:Int),vi (ps.f 0),.slice cS (tms ps.f).length cU,.slice J n aL]) rfl rfl X29 e) ?_;rintro _ tT ⟨M,hb⟩;have x:=e;have E:=E.only M (by omega);have d:=d.onlyT M x rfl;have L:=L.onlyT M x rfl;have C:=Below.only C M dC;have e:=hb;refine Zx oM fun a A _ oN=>?_;refine Ze (Vn Xh e)<|Zo (Vw [vi (n:Int),vi (ps.v:Int),vi (ps.v:Int),vi (ps.f 0),.slice cS (tms ps.f).length cU,.slice J n aL] X04 E) ?_;rintro _ tU ⟨M,hb⟩;have x:=E;have d:=d.onlyT M x rfl;have L:=L.onlyT M x rfl;have C:=Below.only C M lF;have E:=hb;refine Za rfl<|Zt oN fun a A=>?_
 refine wp_ret (X3 A (X1m A rfl (ResV.cellN (l:=[vi (n:Int),vi (ps.v:Int),vi (ps.v:Int),vi (ps.f 0),.slice cS (tms ps.f).length cU,.slice J n aL]) rfl Xh (E.at 0) rfl) rfl) ?_)
 rw [qT,List.take_length] at dN
 rw [Xg9 hn dN]
 exact ⟨cS,cU,J,aL,(by rw [← aH.len];rfl),L.top,d.rd.top,bF,C⟩
theorem Xy6(w0:World)(bV:Nat){bR:TypeId}(aA:Option Addr)(aD:Nat)(N:List Int)(b:Rd w0 w0.heap.size bR encU aA N)(aS:∀ x ∈ N,0≤x∧x≤255)(aB:AwayR N aA bV)(t:Nat)(sd:Int)(o:Blk w0 bV 51 [.slice aA N.length aD,vi (t:Int),.int .u64 sd])(ht:t+160≤100000000) : Ret Tryz.prog 64 [.pointer (some ⟨bV,0,none⟩)] w0 (fun v w=>∃ (p:Ps) (A:Option Addr) (e:Nat) (B:Option Addr) (f:Nat) (t1:Nat) (s1:Int),v=psV A e B f p∧(validP p=true)∧(t≤t1∧t1≤t+160)∧Rd w w.heap.size 76 encT A p.ts∧Rd w w.heap.size 34 encA B p.out∧Kept bV w0.heap.size w0 w∧Blk w bV 51 [.slice aA N.length aD,vi (t1:Int),.int .u64 s1]):=by
 have j4:=o.lt;refine enter Tryz.func64 rfl 104 rfl rfl ?_;intro a L
 have G:Kept bV w0.heap.size w0 w0:=Kept.refl _ _ _
 refine Zs L fun _ hG=>?_;refine Zf (X6 (zs:=[vi 0,vi 0,vi 0,vi 0,.slice none 0 0,.slice none 0 0]) X1o rfl) ?_;rintro _ w1 ⟨b5,rfl,eS,y,g⟩;have cX:=Nat.le_trans G.size eS;have gX:=b.away eS;have o:=o.below y;have b:=b.below y;have G:=ktr G y;refine Zx hG fun a L _ hJ=>?_;refine Zm rfl<|Zf (X91 (vs:=[.pointer (some ⟨bV,0,none⟩)]) rfl Xjj (Xyt _ bV aA aD N b.top aS aB t sd o (by omega))) ?_;rintro _ w2 ⟨bY,cY,d5,eT,eU,rfl,dP,hZ,aC,hK,J⟩;have bZ:=G.size;obtain ⟨wm,I,hm,y⟩:=hK.mid;clear hm;have c:=o;have g:=g.only I (Blk.ne g c rfl);have b:=b.onlyA I aB;have G:=G.self I;have g:=g.below y;have b:=b.below y;have G:=ktr G y
 clear c y I hK;have o:=J;clear J
 have aC:=aC.lower bZ;clear bZ;refine Zf (X6 (zs:=[vi 0,.slice none 0 0]) Xah rfl) ?_;rintro _ w3 ⟨b9,rfl,eW,y,W⟩;have bH:=Nat.le_trans G.size eW;have gY:=b.away eW;have o:=o.below y;have g:=g.below y;have b:=b.below y;have aC:=aC.below y;have G:=ktr G y;refine Zo (Vw [vi bY.n,.slice cY bY.gs.length d5] X45 W) ?_;rintro _ w4 ⟨U,hb⟩;have c:=W;have o:=o.only U (Blk.ne o c rfl);have g:=g.only U (Blk.ne g c rfl);have b:=b.only U bH;have aC:=aC.onlyT U c rfl;have G:=Kept.only G U bH;have W:=hb;refine ZX hJ fun a L _ eX=>?_;refine Zs L fun _ eY=>?_;refine Zm rfl<|Zf (Vc (Xlz _ bV aA aD N b.top aS aB eT eU o 2 (by omega)) Xdl) ?_;rintro _ w5 ⟨j5,d6,d7,rfl,i0,i1,hK,J⟩;obtain ⟨wm,I,hm,y⟩:=hK.mid;clear hm;have c:=o;have g:=g.only I (Blk.ne g c rfl);have W:=W.only I (Blk.ne W c rfl);have b:=b.onlyA I aB;have aC:=aC.onlyT I c rfl;have G:=G.self I;have g:=g.below y;have W:=W.below y;have b:=b.below y;have aC:=aC.below y;have G:=ktr G y
 clear c y I hK;have o:=J;clear J;refine Zt eY fun a L=>?_;refine X0j (fun a w=>∃ (Q:Cx) (c4:Nat) (dQ:Int),∃ cA cC,Fr a 104 [(0,.pointer (some ⟨bV,0,none⟩)),(2,.pointer (some ⟨b5,0,none⟩)),(3,.pointer (some ⟨b9,0,none⟩))]∧(cOk Q=true)∧(t≤c4∧c4≤t+112)∧Blk w bV 51 [.slice aA N.length aD,vi (c4:Int),.int .u64 dQ]∧Blk w b5 30 [vi 0,vi 0,vi 0,vi 0,.slice none 0 0,.slice none 0 0]∧Blk w b9 25 [vi Q.n,.slice cA Q.gs.length cC]∧Rd w w0.heap.size bR encU aA N∧Own w w0.heap.size 55 3 encG cA cC Q.gs∧Kept bV w0.heap.size w0 w) ?_ ?_
 ·refine Xg L rfl (fun cD=>?_) (fun cD=>?_)
  ·have dR:=cD;refine Zr L<|Zm rfl<|Zm rfl<|Zf (Vc (X1x _ bV aA aD N b.top aS aB d6 d7 o 2 (by omega)) X10) ?_;rintro _ w6 ⟨d8,f4,f5,rfl,i3,i4,hK,J⟩;obtain ⟨wm,I,hm,y⟩:=hK.mid;clear hm;have c:=o;have g:=g.only I (Blk.ne g c rfl);have W:=W.only I (Blk.ne W c rfl);have b:=b.onlyA I aB;have G:=G.self I;have g:=g.below y;have W:=W.below y;have b:=b.below y;have G:=ktr G y
   clear c y I hK;have o:=J;clear J;refine Ze (Xu rfl rfl (by omega) (by omega))<|Zf (Xb (k:=11) (vs:=[vi 1,vi 1,vi 1,vi 2,vi 4,vi 5,vi 6,vi 7,vi 9,vi 9,vi 10]) (zs:=[vi 1,vi 1,vi 1,vi 2,vi 4,vi 5,vi 6,vi 7,vi 9,vi 9,vi 10]) rfl X0f X2m rfl rfl) ?_;rintro _ w7 ⟨f7,rfl,dB,y,dC⟩;have i5:=Nat.le_trans G.size dB;have f8:=b.away dB;have o:=o.below y;have g:=g.below y;have W:=W.below y;have b:=b.below y;have G:=ktr G y;refine Zf (X91 (vs:=[.pointer (some ⟨bV,0,none⟩),vi (1+d8),vi 9,.slice (some ⟨f7,0,none⟩) ([1,1,1,2,4,5,6,7,9,9,10]).length 11]) rfl Xei (Xtt _ bV aA aD N b.top aS aB f4 f5 o (1+d8) 9 (some ⟨f7,0,none⟩) 11 ([1,1,1,2,4,5,6,7,9,9,10]) (Rd.of_blk dC rfl _ dC.lt) (by omega) (by decide) (by omega) (by simp) (by simp) (by omega))) ?_;rintro _ w8 ⟨cE,dD,dE,f9,fA,rfl,dS,i6,aT,hK,J⟩;have bZ:=G.size;obtain ⟨wm,I,hm,y⟩:=hK.mid;clear hm;have c:=o;have g:=g.only I (Blk.ne g c rfl);have W:=W.only I (Blk.ne W c rfl);have b:=b.onlyA I aB;have G:=G.self I;have g:=g.below y;have W:=W.below y;have b:=b.below y;have G:=ktr G y
   clear c y I hK;have o:=J;clear J
   have aT:=aT.lower bZ;clear bZ;refine Zo (Vw [vi cE.n,.slice dD cE.gs.length dE] X45 W) ?_;rintro _ w9 ⟨U,hb⟩;have c:=W;have o:=o.only U (Blk.ne o c rfl);have g:=g.only U (Blk.ne g c rfl);have b:=b.only U bH;have aT:=aT.onlyT U c rfl;have G:=Kept.only G U bH;have W:=hb;refine Zn fun a L=>?_;refine Xd ?_;exact ⟨cE,f9,fA,dD,dE,L.sb,(Xyk dS (by omega) (by omega)),(by omega),o,g,W,b,aT,G⟩
  have dR:=cD;refine wp_skip<|Xd ?_;exact ⟨bY,d6,d7,cY,d5,L.sb,(Xtu (by omega) (by omega) dP.2.2),(by omega),o,g,W,b,aC,G⟩
 rintro a jA ⟨Q,c4,dQ,cA,cC,L,fB,jB,o,g,W,b,fC,G⟩;refine eX _ _<|Zs L fun _ fD=>?_;refine Ze (Vn X2r W)<|Zf (X91 (vs:=[.agg #[vi Q.n,.slice cA Q.gs.length cC]]) rfl Xih (Xu5 _ Q cA cC fC.rd.top fB)) ?_;rintro _ cO ⟨aI,c18,aU,b3,rfl,D,C,aE,y⟩;have o:=o.below y;have g:=g.below y;have b:=b.below y;have G:=ktr G y;refine Zm rfl<|Ze (X8 (vs:=[.agg #[vi (((psC Q).getD psZ).ins),vi (((psC Q).getD psZ).vars),vi (((psC Q).getD psZ).root),vi (((psC Q).getD psZ).phase),.slice aI (((psC Q).getD psZ).ts).length c18,.slice aU (((psC Q).getD psZ).out).length b3],.bool ((psC Q).isSome)]) rfl rfl)<|Ze (X8 (vs:=[.agg #[vi (((psC Q).getD psZ).ins),vi (((psC Q).getD psZ).vars),vi (((psC Q).getD psZ).root),vi (((psC Q).getD psZ).phase),.slice aI (((psC Q).getD psZ).ts).length c18,.slice aU (((psC Q).getD psZ).out).length b3],.bool ((psC Q).isSome)]) rfl rfl)<|Zf (X6 (zs:=[vi 0,vi 0,vi 0,vi 0,.slice none 0 0,.slice none 0 0]) X1o rfl) ?_;rintro _ jC ⟨b22,rfl,dF,y,d⟩
 have fE:b5≠b22:=by have:=g.lt;omega
 have aF:=Nat.le_trans G.size dF;have fF:=b.away dF;have o:=o.below y;have g:=g.below y;have b:=b.below y;have D:=D.below y;have C:=C.below y;have G:=ktr G y;refine Zo (Vw [vi (((psC Q).getD psZ).ins),vi (((psC Q).getD psZ).vars),vi (((psC Q).getD psZ).root),vi (((psC Q).getD psZ).phase),.slice aI (((psC Q).getD psZ).ts).length c18,.slice aU (((psC Q).getD psZ).out).length b3] X04 d) ?_;rintro _ jD ⟨U,hb⟩;have c:=d;have o:=o.only U (Blk.ne o c rfl);have g:=g.only U (by omega);have b:=b.only U aF;have D:=D.onlyT U c rfl;have C:=C.onlyT U c rfl;have G:=Kept.only G U aF;have d:=hb;refine Za rfl<|ZX fD fun a L _ fG=>?_;refine Zs L fun _ fH=>?_;refine Zm rfl<|Ze (X1c rfl)<|Zt fH fun a L=>?_
 refine Xg L rfl (fun bJ=>?_) (fun bJ=>?_)
 ·have dU:=bJ;refine Zs L fun _ fI=>?_;refine Ze (Xk (ps:=[(0,vi 1)]) (cs:=[vi 1,vi 0]) rfl (fun _=>by first|rfl|kernel_rfl))<|Zf (Xb (k:=1) (vs:=[.agg #[vi 1,vi 0]]) (zs:=[vi 1,vi 0]) rfl Xr X1l rfl rfl) ?_;rintro _ jE ⟨cF,rfl,cG,y,b4⟩;have i7:=Nat.le_trans G.size cG;have fJ:=b.away cG;have eN:=C.away cG;have o:=o.below y;have g:=g.below y;have G:=ktr G y;refine Ze (Xk (ps:=[(0,vi 1),(5,.slice (some ⟨cF,0,none⟩) ([(⟨1,0⟩ : Af)]).length 1)]) (cs:=[vi 1,vi 0,vi 0,vi 0,.slice none 0 0,.slice (some ⟨cF,0,none⟩) ([(⟨1,0⟩ : Af)]).length 1]) rfl (fun _=>by first|rfl|kernel_rfl))<|Zo (Vw [vi 1,vi 0,vi 0,vi 0,.slice none 0 0,.slice (some ⟨cF,0,none⟩) ([(⟨1,0⟩ : Af)]).length 1] X04 g) ?_;rintro _ jF ⟨U,hb⟩;have c:=g;have o:=o.only U (Blk.ne o c rfl);have b4:=b4.only U (Blk.ne b4 c rfl);have G:=Kept.only G U cX;have g:=hb;refine Zt fI fun a L=>?_;refine wp_ret<|X7<|X3 L (Xz L rfl (ResV.cellN (l:=[vi 1,vi 0,vi 0,vi 0,.slice none 0 0,.slice (some ⟨cF,0,none⟩) ([(⟨1,0⟩ : Af)]).length 1]) rfl Xh (g.at 0) rfl)) ?_;exact ⟨(⟨1,0,0,0,([] : List Tm),[(⟨1,0⟩ : Af)]⟩ : Ps),none,0,(some ⟨cF,0,none⟩),1,_,_,rfl,(by decide +kernel),⟨by omega,by omega⟩,(Rd.nil _ _ _ _ _),(Rd.of_blk b4 rfl _ b4.lt),G,o⟩
 have dU:=bJ
 have i8:(psC Q).isSome=true:=by have:=bJ;simpa using this
 obtain ⟨bK,dG⟩:=Xs9 fB i8;have hV:=VPs.of bK;have j6:=hV.ins;have jG:=hV.vars;obtain ⟨jH,jI,dW,i9⟩:=Xc1 hV.ph hV.ts;refine wp_skip<|fG _ _<|wp_seq_k fun _ fK=>?_;refine Zs L fun _ fL=>?_;refine Zm rfl<|Zf (Vc (Xlz _ bV aA aD N b.top aS aB c4 dQ o 3 (by omega)) Xdl) ?_;rintro _ jJ ⟨j7,dH,dI,rfl,iA,iB,hK,J⟩;obtain ⟨wm,I,hm,y⟩:=hK.mid;clear hm;have c:=o;have g:=g.only I (Blk.ne g c rfl);have d:=d.only I (Blk.ne d c rfl);have b:=b.onlyA I aB;have D:=D.onlyT I c rfl;have C:=C.onlyT I c rfl;have G:=G.self I;have g:=g.below y;have d:=d.below y;have b:=b.below y;have D:=D.below y;have C:=C.below y;have G:=ktr G y
 clear c y I hK;have o:=J;clear J;refine Zt fL fun a L=>?_;refine X0j (fun a w=>∃ (q9:Ps) (cH:Nat) (dX:Int),∃ cP e8 cQ eA,Fr a 104 [(0,.pointer (some ⟨bV,0,none⟩)),(2,.pointer (some ⟨b5,0,none⟩)),(4,.pointer (some ⟨b22,0,none⟩))]∧(validP q9=true∧0≤q9.root)∧(t≤cH∧cH≤t+150)∧Blk w bV 51 [.slice aA N.length aD,vi (cH:Int),.int .u64 dX]∧Blk w b5 30 [vi 0,vi 0,vi 0,vi 0,.slice none 0 0,.slice none 0 0]∧Blk w b22 30 [vi q9.ins,vi q9.vars,vi q9.root,vi q9.phase,.slice cP q9.ts.length e8,.slice cQ q9.out.length eA]∧Rd w w0.heap.size bR encU aA N∧Rd w w.heap.size 76 encT cP q9.ts∧Rd w w.heap.size 34 encA cQ q9.out∧Kept bV w0.heap.size w0 w) ?_ ?_
 ·refine Xg L rfl (fun cJ=>?_) (fun cJ=>?_)
  ·have eB:=cJ;refine Zs L fun _ fM=>?_;refine Ze (Vd rfl X1g 3)<|Ze (X0 rfl X2 (d.at 3))<|Ze (Vd rfl X0o 4)<|Ze (X0 rfl X0y (d.at 4))<|Ze (Xk (ps:=[(0,vi (((psC Q).getD psZ).phase)),(1,.slice aI (((psC Q).getD psZ).ts).length c18)]) (cs:=[vi (((psC Q).getD psZ).phase),.slice aI (((psC Q).getD psZ).ts).length c18]) rfl (fun _=>by first|rfl|kernel_rfl)) ?_;refine Zf (X14 (zs:=[vi (((psC Q).getD psZ).phase),.slice aI (((psC Q).getD psZ).ts).length c18]) rfl rfl) ?_;rintro _ jK ⟨b6,rfl,dJ,y,E⟩;have aL:=Nat.le_trans G.size dJ;have fN:=b.away dJ;have o:=o.below y;have g:=g.below y;have d:=d.below y;have b:=b.below y;have D:=D.below y;have C:=C.below y;have G:=ktr G y;refine Za rfl<|ZX fM fun a L _ fO=>?_;refine Zs L fun _ fP=>?_;refine Zm rfl<|Zf (Vc (X1x _ bV aA aD N b.top aS aB dH dI o 4 (by omega)) X10) ?_;rintro _ eC ⟨fQ,fR,fS,rfl,iC,iD,hK,J⟩;obtain ⟨wm,I,hm,y⟩:=hK.mid;clear hm;have c:=o;have g:=g.only I (Blk.ne g c rfl);have d:=d.only I (Blk.ne d c rfl);have E:=E.only I (Blk.ne E c rfl);have b:=b.onlyA I aB;have D:=D.onlyT I c rfl;have C:=C.onlyT I c rfl;have G:=G.self I;have g:=g.below y;have d:=d.below y;have E:=E.below y;have b:=b.below y;have D:=D.below y;have C:=C.below y;have G:=ktr G y
   clear c y I hK;have o:=J;clear J;refine Za rfl<|Zt fP fun a L=>?_;refine wp_block ?_
   replace E:Blk eC b6 105 [vi ((polF ((psC Q).getD psZ)) 0),.slice aI (tms (polF ((psC Q).getD psZ))).length c18]:=by rw [dW,i9];exact E
   have iE:Rd eC eC.heap.size 76 encT aI (tms (polF ((psC Q).getD psZ))):=by rw [dW];exact D.top
   have fT:(tms (polF ((psC Q).getD psZ))).length≤c18:=by rw [dW];exact aE
   refine X06 (σ:=Int×(Int→Int)×Nat×Int) (fun (s:Int×(Int→Int)×Nat×Int) (a:Act) (w:World)=>match s with|(j,fp,t2,s2)=>∃ aW aX,Fr a 104 [(0,.pointer (some ⟨bV,0,none⟩)),(2,.pointer (some ⟨b5,0,none⟩)),(4,.pointer (some ⟨b22,0,none⟩)),(6,.pointer (some ⟨b6,0,none⟩)),(7,vi j)]∧(0≤j∧j≤3)∧(DrF (((psC Q).getD psZ).ins+((psC Q).getD psZ).vars).toNat fp)∧(t≤t2∧t2+10*j.toNat≤t+150)∧Blk w bV 51 [.slice aA N.length aD,vi (t2:Int),.int .u64 s2]∧Blk w b5 30 [vi 0,vi 0,vi 0,vi 0,.slice none 0 0,.slice none 0 0]∧Blk w b22 30 [vi (((psC Q).getD psZ).ins),vi (((psC Q).getD psZ).vars),vi (((psC Q).getD psZ).root),vi (((psC Q).getD psZ).phase),.slice aI (((psC Q).getD psZ).ts).length c18,.slice aU (((psC Q).getD psZ).out).length b3]∧Blk w b6 105 [vi (fp 0),.slice aW (tms fp).length aX]∧Rd w w0.heap.size bR encU aA N∧Rd w cO.heap.size 76 encT aI (((psC Q).getD psZ).ts)∧Rd w cO.heap.size 34 encA aU (((psC Q).getD psZ).out)∧Rd w w.heap.size 76 encT aW (tms fp)∧(((psC Q).getD psZ).ts).length≤c18∧(tms fp).length≤aX∧Kept bV w0.heap.size w0 w) (fun (s:Int×(Int→Int)×Nat×Int)=>match s with|(j,fp,t2,s2)=>j.toNat) (fQ,(polF ((psC Q).getD psZ)),fR,fS) ?_ ?_
   ·exact ⟨aI,c18,L.sb,(by omega),(DrF.of bK),(by omega),o,g,d,E,b,D,C,iE.top,aE,fT,G⟩
   rintro ⟨j,fp,t2,s2⟩ a iF ⟨aW,aX,L,hj,b2,jL,o,g,d,E,b,D,C,H,aE,aM,G⟩;refine wp_seq_k fun _ fU=>?_;refine Zs L fun _ fV=>?_;refine Zm rfl<|Ze (X42 rfl rfl)<|Zt fV fun a L=>?_
   refine Xg L rfl (fun aN=>?_) (fun aN=>?_)
   ·have eD:=aN;have aN:=of_decide_eq_true aN
    have jM:0<j:=by have:=aN;omega
    refine wp_skip<|fU _ _<|wp_seq_k fun _ cK=>?_;refine wp_block<|Zs L fun _ fW=>?_;refine Za rfl<|ZX fW fun a L _ fX=>?_;refine Zs L fun _ fY=>?_;refine Zm rfl<|Zf (Vc (X1x _ bV aA aD N b.top aS aB t2 s2 o 3 (by omega)) X10) ?_;rintro _ jN ⟨fZ,g4,g5,rfl,iG,iH,hK,J⟩;obtain ⟨wm,I,hm,y⟩:=hK.mid;clear hm;have c:=o;have g:=g.only I (Blk.ne g c rfl);have d:=d.only I (Blk.ne d c rfl);have E:=E.only I (Blk.ne E c rfl);have b:=b.onlyA I aB;have D:=D.onlyT I c rfl;have C:=C.onlyT I c rfl;have H:=H.onlyT I c rfl;have G:=G.self I;have g:=g.below y;have d:=d.below y;have E:=E.below y;have b:=b.below y;have D:=D.below y;have C:=C.below y;have H:=H.below y;have G:=ktr G y
    clear c y I hK;have o:=J;clear J;refine Ze (Xu rfl rfl (by omega) (by omega))<|Za rfl<|Zt fY fun a L=>?_;refine wp_block<|X06 (σ:=Int×Int×Nat×Int) (fun (s:Int×Int×Nat×Int) (a:Act) (w:World)=>match s with|(i,m,t3,s3)=>Fr a 104 [(0,.pointer (some ⟨bV,0,none⟩)),(2,.pointer (some ⟨b5,0,none⟩)),(4,.pointer (some ⟨b22,0,none⟩)),(6,.pointer (some ⟨b6,0,none⟩)),(7,vi j),(8,vi m),(9,vi i)]∧(0≤i∧i≤3)∧(Lt (((psC Q).getD psZ).ins+((psC Q).getD psZ).vars).toNat m∧szI m+i.toNat≤3)∧(t2≤t3∧t3+2*i.toNat≤t2+8)∧Blk w bV 51 [.slice aA N.length aD,vi (t3:Int),.int .u64 s3]∧Blk w b5 30 [vi 0,vi 0,vi 0,vi 0,.slice none 0 0,.slice none 0 0]∧Blk w b22 30 [vi (((psC Q).getD psZ).ins),vi (((psC Q).getD psZ).vars),vi (((psC Q).getD psZ).root),vi (((psC Q).getD psZ).phase),.slice aI (((psC Q).getD psZ).ts).length c18,.slice aU (((psC Q).getD psZ).out).length b3]∧Blk w b6 105 [vi (fp 0),.slice aW (tms fp).length aX]∧Rd w w0.heap.size bR encU aA N∧Rd w cO.heap.size 76 encT aI (((psC Q).getD psZ).ts)∧Rd w cO.heap.size 34 encA aU (((psC Q).getD psZ).out)∧Rd w iF.heap.size 76 encT aW (tms fp)∧(((psC Q).getD psZ).ts).length≤c18∧(tms fp).length≤aX∧Kept bV w0.heap.size w0 w) (fun (s:Int×Int×Nat×Int)=>match s with|(i,m,t3,s3)=>i.toNat) ((1+fZ),0,g4,g5) ?_ ?_
    ·exact ⟨L.sb,(by omega),⟨Lt.zero _,by rw [show szI 0=0 by decide +kernel];omega⟩,(by omega),o,g,d,E,b,D,C,H,aE,aM,G⟩
    rintro ⟨i,m,t3,s3⟩ a jO ⟨L,hi,hm,j8,o,g,d,E,b,D,C,H,aE,aM,G⟩;refine wp_seq_k fun _ g6=>?_;refine Zs L fun _ g7=>?_;refine Zm rfl<|Ze (X42 rfl rfl)<|Zt g7 fun a L=>?_
    refine Xg L rfl (fun aO=>?_) (fun aO=>?_)
    ·have eE:=aO;have aO:=of_decide_eq_true aO
     have jP:0<i:=by have:=aO;omega
     refine wp_skip<|g6 _ _<|wp_seq_k fun _ g8=>?_;refine wp_block<|Zr L<|Zm rfl<|Zm rfl<|Ze (Vd rfl X09 0)<|Ze (X0 rfl X2 (d.at 0))<|Ze (Vd rfl X0n 1) ?_;refine Ze (X0 rfl X2 (d.at 1))<|Ze (Xu rfl rfl (by omega) (by omega))<|Zf (Vc (X1x _ bV aA aD N b.top aS aB t3 s3 o ((((psC Q).getD psZ).ins)+(((psC Q).getD psZ).vars)) (by omega)) X10) ?_;rintro _ jQ ⟨bL,g9,gA,rfl,iI,iJ,hK,J⟩;obtain ⟨wm,I,hm,y⟩:=hK.mid;clear hm;have c:=o;have g:=g.only I (Blk.ne g c rfl);have d:=d.only I (Blk.ne d c rfl);have E:=E.only I (Blk.ne E c rfl);have b:=b.onlyA I aB;have D:=D.onlyT I c rfl;have C:=C.onlyT I c rfl;have H:=H.onlyT I c rfl;have G:=G.self I;have g:=g.below y;have d:=d.below y;have E:=E.below y;have b:=b.below y;have D:=D.below y;have C:=C.below y;have H:=H.below y;have G:=ktr G y
     clear c y I hK;have o:=J;clear J;refine Ze (X2u (m:=bL.toNat) Tryz.underlying3 Tryz.underlying67 rfl (by omega) (by omega))<|Ze (Vx (X2i (m:=bL.toNat) rfl rfl rfl (by omega)) (X48 (by omega)))<|Ze (Vx (Vor rfl rfl) (rfl:_=(oI m ((2^bL.toNat:Nat) : Int))))<|Za rfl ?_;refine Zn fun a L=>?_;refine Xa<|g8 _ _<|Zr L<|Zm rfl<|Ze (X15 rfl rfl (by omega) (by omega))<|Za rfl ?_;refine Zn fun a L=>?_;refine Xd ?_;exact ⟨(i-1,(oI m ((2^bL.toNat:Nat) : Int)),g9,gA),⟨L.sb,(by omega),(Xrx (i:=(i-1).toNat) hm.1 (by omega) (by omega) (by omega)),(by omega),o,g,d,E,b,D,C,H,aE,aM,G⟩,(by first|omega|(dsimp only;omega))⟩
    have eE:=aO;have aO:=of_decide_eq_false aO
    have aJ:szI m≤3:=by omega
    refine wp_exit<|Xi<|Xi<|X03 ?_;refine fX _ _<|Xq (some bV) (fun j=>[12].contains j) mixed ?_;intro jR y;have o:=o.below y;have g:=g.below y;have d:=d.below y;have E:=E.below y;have b:=b.below y;have D:=D.below y;have C:=C.below y;have H:=H.below y;have G:=ktr G y;refine Yb L<|Yo 0 rfl (fun _=>X4 rfl)<|Yo 1 rfl (fun _=>X4 rfl)<|Yo 3 rfl (fun _=>X4 rfl)<|Yo 8 rfl (fun _=>X4 rfl) ?_;refine Y2 2 4 ?_ ?_
    ·refine Yf rfl trivial (EfW.mono (Xb (k:=4) (vs:=[vi 0,vi 1,vi 2,vi 4]) (zs:=[vi 0,vi 1,vi 2,vi 4]) rfl X0f X2m rfl rfl) (fun _ _ h=>⟨fun _=>by obtain ⟨_,_,_,y,_⟩:=h;exact Keep.of_below y,h⟩)) ?_;rintro _ jS ⟨jT,rfl,dK,y,b7⟩;have iK:=Nat.le_trans G.size dK;have gB:=b.away dK;have o:=o.below y;have g:=g.below y;have d:=d.below y;have E:=E.below y;have b:=b.below y;have D:=D.below y;have C:=C.below y;have H:=H.below y;have G:=ktr G y;refine Y1 4<|Yf rfl trivial (EfW.mono (Vc (X56 _ m (Mk.b62 hm.1.1)) X3x) (fun _ _ h=>⟨fun _=>by obtain ⟨iM,iN,rfl,bN,y⟩:=h;exact Keep.of_below y,h⟩)) ?_;rintro _ jU ⟨iM,iN,rfl,bN,y⟩;have eO:=bN.awayNew b7.lt;have bN:=bN.lower G.size;have o:=o.below y;have g:=g.below y;have d:=d.below y;have E:=E.below y;have b7:=b7.below y;have b:=b.below y;have D:=D.below y;have C:=C.below y;have H:=H.below y;have G:=ktr G y;refine Yo 5 rfl (fun _=>Vx (X1f rfl X0f) (Xb1 m)) ?_;refine Ya (k:=(szI m)) (u:=(cf4 (szI m))) (enc:=encI) (l:=[0,1,2,4]) 6 rfl trivial o rfl rfl rfl X0f X12 X0h (Rd.of_blk b7 rfl _ b7.lt) (Xdo aJ) rfl ?_;intro jV eF cR;refine Yw 7 rfl trivial (fun w1 h1=>X0 rfl X2 (eF.only h1 cR)) ?_;refine Y1 9<|Yf rfl trivial (EfW.mono (Vc (X1x _ bV aA aD N b.top aS aB t3 s3 o 7 (by omega)) X10) (fun _ _ h=>⟨fun _=>by obtain ⟨M,aP,aQ,rfl,aY,aZ,hK,J⟩:=h;exact hK.keep,h⟩)) ?_;rintro _ jW ⟨M,aP,aQ,rfl,aY,aZ,hK,J⟩;obtain ⟨wm,I,hm,y⟩:=hK.mid;clear hm;have c:=o;have g:=g.only I (Blk.ne g c rfl)
     have d:=d.only I (Blk.ne d c rfl);have E:=E.only I (Blk.ne E c rfl);have b:=b.onlyA I aB;have D:=D.onlyT I c rfl;have C:=C.onlyT I c rfl;have H:=H.onlyT I c rfl;have G:=G.self I;have g:=g.below y;have d:=d.below y;have E:=E.below y;have b:=b.below y;have D:=D.below y;have C:=C.below y;have H:=H.below y;have G:=ktr G y
     clear c y I hK;have o:=J;clear J;refine Yo 10 rfl (fun _=>Xu rfl rfl (by omega) (by omega))<|Yo 11 rfl (fun _=>X2y rfl rfl (by have:=(X8d aJ (show 0≤1+M∧1+M≤7 by omega));omega) (by have:=(X8d aJ (show 0≤1+M∧1+M≤7 by omega));omega))<|Y1 12 ?_;refine Yt rfl trivial rfl (Vc (X3k _ b6 fp aW aX E H.top aM b2.po b2.sp m ((cf4 (szI m))*(1+M)) hm.1.1 (by have:=(X8d aJ (show 0≤1+M∧1+M≤7 by omega));omega)) X21) ?_;rintro _ jX ⟨rfl,hK,iO,iP,J,gC,eG⟩;obtain ⟨wm,I,hm,y⟩:=hK.mid;clear hm;have c:=E;have o:=o.only I (Blk.ne o c rfl);have g:=g.only I (Blk.ne g c rfl);have d:=d.only I (Blk.ne d c rfl);have b:=b.only I aL;have D:=D.onlyT I c rfl;have C:=C.onlyT I c rfl;have G:=Kept.only G I aL;have o:=o.below y;have g:=g.below y;have d:=d.below y;have b:=b.below y;have D:=D.below y;have C:=C.below y;have G:=ktr G y
     clear c y I hK;have E:=J;clear J;refine Yd fun a L=>?_;refine Xa<|cK _ _<|Zr L<|Zm rfl<|Ze (X15 rfl rfl (by omega) (by omega))<|Za rfl ?_;refine Zn fun a L=>?_;refine Xd ?_;exact ⟨(j-1,(padd fp m ((cf4 (szI m))*(1+M))),aP,aQ),⟨iO,iP,L.sb,(by omega),(b2.padd hm.1 (Xgs aJ)),(by omega),o,g,d,E,b,D,C,gC.top,aE,eG,G⟩,(by first|omega|(dsimp only;omega))⟩
    refine Yf rfl trivial (EfW.mono (Vc (X56 _ m (Mk.b62 hm.1.1)) X3x) (fun _ _ h=>⟨fun _=>by obtain ⟨iQ,iS,rfl,aK,y⟩:=h;exact Keep.of_below y,h⟩)) ?_;rintro _ jY ⟨iQ,iS,rfl,aK,y⟩;have aK:=aK.lower G.size;have o:=o.below y;have g:=g.below y;have d:=d.below y;have E:=E.below y;have b:=b.below y;have D:=D.below y;have C:=C.below y;have H:=H.below y;have G:=ktr G y;refine Yo 5 rfl (fun _=>Vx (X1f rfl X0f) (Xb1 m)) ?_;refine Y2 2 9 ?_ ?_
    ·refine Yf rfl trivial (EfW.mono (Xb (k:=4) (vs:=[vi 0,vi 1,vi 2,vi 4]) (zs:=[vi 0,vi 1,vi 2,vi 4]) rfl X0f X2m rfl rfl) (fun _ _ h=>⟨fun _=>by obtain ⟨_,_,_,y,_⟩:=h;exact Keep.of_below y,h⟩)) ?_;rintro _ jZ ⟨k5,rfl,cL,y,dL⟩;have iT:=Nat.le_trans G.size cL;have gD:=b.away cL;have eP:=aK.away cL;have o:=o.below y;have g:=g.below y;have d:=d.below y;have E:=E.below y;have b:=b.below y;have D:=D.below y;have C:=C.below y;have H:=H.below y;have G:=ktr G y;refine Ya (k:=(szI m)) (u:=(cf4 (szI m))) (enc:=encI) (l:=[0,1,2,4]) 6 rfl trivial o rfl rfl rfl X0f X12 X0h (Rd.of_blk dL rfl _ dL.lt) (Xdo aJ) rfl ?_;intro k6 eH cS;refine Yw 7 rfl trivial (fun w1 h1=>X0 rfl X2 (eH.only h1 cS)) ?_;refine Y1 9<|Yf rfl trivial (EfW.mono (Vc (X1x _ bV aA aD N b.top aS aB t3 s3 o 7 (by omega)) X10) (fun _ _ h=>⟨fun _=>by obtain ⟨M,aP,aQ,rfl,aY,aZ,hK,J⟩:=h;exact hK.keep,h⟩)) ?_;rintro _ k7 ⟨M,aP,aQ,rfl,aY,aZ,hK,J⟩;obtain ⟨wm,I,hm,y⟩:=hK.mid;clear hm;have c:=o;have g:=g.only I (Blk.ne g c rfl);have d:=d.only I (Blk.ne d c rfl);have E:=E.only I (Blk.ne E c rfl);have b:=b.onlyA I aB;have D:=D.onlyT I c rfl;have C:=C.onlyT I c rfl;have H:=H.onlyT I c rfl;have G:=G.self I;have g:=g.below y;have d:=d.below y;have E:=E.below y;have b:=b.below y;have D:=D.below y;have C:=C.below y;have H:=H.below y;have G:=ktr G y
     clear c y I hK;have o:=J;clear J;refine Yo 10 rfl (fun _=>Xu rfl rfl (by omega) (by omega))<|Yo 11 rfl (fun _=>X2y rfl rfl (by have:=(X8d aJ (show 0≤1+M∧1+M≤7 by omega));omega) (by have:=(X8d aJ (show 0≤1+M∧1+M≤7 by omega));omega))<|Y1 12 ?_;refine Yt rfl trivial rfl (Vc (X3k _ b6 fp aW aX E H.top aM b2.po b2.sp m ((cf4 (szI m))*(1+M)) hm.1.1 (by have:=(X8d aJ (show 0≤1+M∧1+M≤7 by omega));omega)) X21) ?_;rintro _ k8 ⟨rfl,hK,iU,iV,J,gE,eI⟩;obtain ⟨wm,I,hm,y⟩:=hK.mid;clear hm;have c:=E;have o:=o.only I (Blk.ne o c rfl);have g:=g.only I (Blk.ne g c rfl);have d:=d.only I (Blk.ne d c rfl);have b:=b.only I aL;have D:=D.onlyT I c rfl;have C:=C.onlyT I c rfl;have G:=Kept.only G I aL;have o:=o.below y;have g:=g.below y;have d:=d.below y;have b:=b.below y;have D:=D.below y;have C:=C.below y;have G:=ktr G y
     clear c y I hK;have E:=J;clear J;refine Yd fun a L=>?_;refine Xa<|cK _ _<|Zr L<|Zm rfl<|Ze (X15 rfl rfl (by omega) (by omega))<|Za rfl ?_;refine Zn fun a L=>?_;refine Xd ?_;exact ⟨(j-1,(padd fp m ((cf4 (szI m))*(1+M))),aP,aQ),⟨iU,iV,L.sb,(by omega),(b2.padd hm.1 (Xgs aJ)),(by omega),o,g,d,E,b,D,C,gE.top,aE,eI,G⟩,(by first|omega|(dsimp only;omega))⟩
    refine Yf rfl trivial (EfW.mono (Vc (X1x _ bV aA aD N b.top aS aB t3 s3 o 7 (by omega)) X10) (fun _ _ h=>⟨fun _=>by obtain ⟨M,aP,aQ,rfl,aY,aZ,hK,J⟩:=h;exact hK.keep,h⟩)) ?_;rintro _ kA ⟨M,aP,aQ,rfl,aY,aZ,hK,J⟩;obtain ⟨wm,I,hm,y⟩:=hK.mid;clear hm;have c:=o;have g:=g.only I (Blk.ne g c rfl);have d:=d.only I (Blk.ne d c rfl);have E:=E.only I (Blk.ne E c rfl);have b:=b.onlyA I aB;have D:=D.onlyT I c rfl;have C:=C.onlyT I c rfl;have H:=H.onlyT I c rfl;have aK:=aK.onlyT I c rfl;have G:=G.self I;have g:=g.below y;have d:=d.below y;have E:=E.below y;have b:=b.below y;have D:=D.below y;have C:=C.below y;have H:=H.below y;have aK:=aK.below y;have G:=ktr G y
    clear c y I hK;have o:=J;clear J;refine Yo 10 rfl (fun _=>Xu rfl rfl (by omega) (by omega))<|Y1 2 ?_;refine Yf rfl trivial (EfW.mono (Xb (k:=4) (vs:=[vi 0,vi 1,vi 2,vi 4]) (zs:=[vi 0,vi 1,vi 2,vi 4]) rfl X0f X2m rfl rfl) (fun _ _ h=>⟨fun _=>by obtain ⟨_,_,_,y,_⟩:=h;exact Keep.of_below y,h⟩)) ?_;rintro _ kB ⟨kC,rfl,cM,y,dM⟩;have iW:=Nat.le_trans G.size cM;have gF:=b.away cM;have eQ:=aK.away cM;have o:=o.below y;have g:=g.below y;have d:=d.below y;have E:=E.below y;have b:=b.below y;have D:=D.below y;have C:=C.below y;have H:=H.below y;have G:=ktr G y;refine Ya (k:=(szI m)) (u:=(cf4 (szI m))) (enc:=encI) (l:=[0,1,2,4]) 6 rfl trivial o rfl rfl rfl X0f X12 X0h (Rd.of_blk dM rfl _ dM.lt) (Xdo aJ) rfl ?_;intro kD eJ cU;refine Yw 7 rfl trivial (fun w1 h1=>X0 rfl X2 (eJ.only h1 cU)) ?_;refine Yo 11 rfl (fun _=>X2y rfl rfl (by have:=(X8d aJ (show 0≤1+M∧1+M≤7 by omega));omega) (by have:=(X8d aJ (show 0≤1+M∧1+M≤7 by omega));omega))<|Y1 12 ?_;refine Yt rfl trivial rfl (Vc (X3k _ b6 fp aW aX E H.top aM b2.po b2.sp m ((cf4 (szI m))*(1+M)) hm.1.1 (by have:=(X8d aJ (show 0≤1+M∧1+M≤7 by omega));omega)) X21) ?_;rintro _ kE ⟨rfl,hK,iX,iY,J,gG,eK⟩;obtain ⟨wm,I,hm,y⟩:=hK.mid;clear hm;have c:=E;have o:=o.only I (Blk.ne o c rfl);have g:=g.only I (Blk.ne g c rfl);have d:=d.only I (Blk.ne d c rfl);have b:=b.only I aL;have D:=D.onlyT I c rfl;have C:=C.onlyT I c rfl;have G:=Kept.only G I aL;have o:=o.below y;have g:=g.below y;have d:=d.below y
    have b:=b.below y;have D:=D.below y;have C:=C.below y;have G:=ktr G y
    clear c y I hK;have E:=J;clear J;refine Yd fun a L=>?_;refine Xa<|cK _ _<|Zr L<|Zm rfl<|Ze (X15 rfl rfl (by omega) (by omega))<|Za rfl ?_;refine Zn fun a L=>?_;refine Xd ?_;exact ⟨(j-1,(padd fp m ((cf4 (szI m))*(1+M))),aP,aQ),⟨iX,iY,L.sb,(by omega),(b2.padd hm.1 (Xgs aJ)),(by omega),o,g,d,E,b,D,C,gG.top,aE,eK,G⟩,(by first|omega|(dsimp only;omega))⟩
   have eD:=aN;have aN:=of_decide_eq_false aN;refine wp_exit<|Xi<|Xi<|X03 ?_;refine fO _ _<|Zs L fun _ gH=>?_;refine Zm rfl<|Ze (X0v rfl)<|Ze (Vd rfl X3q 0)<|Ze (X0 rfl X2 (E.at 0))<|Ze (Vd rfl X1g 3) ?_;refine Zo (Vu (vs:=[vi (fp 0)]) (l':=[vi (((psC Q).getD psZ).ins),vi (((psC Q).getD psZ).vars),vi (((psC Q).getD psZ).root),vi (fp 0),.slice aI (((psC Q).getD psZ).ts).length c18,.slice aU (((psC Q).getD psZ).out).length b3]) rfl rfl X12 d) ?_;rintro _ kF ⟨U,hb⟩;have c:=d;have o:=o.only U (Blk.ne o c rfl);have g:=g.only U (by omega);have E:=E.only U (Blk.ne E c rfl);have b:=b.only U aF;have C:=C.onlyT U c rfl;have H:=H.onlyT U c rfl;have G:=Kept.only G U aF;have d:=hb;refine Zt gH fun a L=>?_;refine Zr L<|Zm rfl<|Ze (X0v rfl)<|Ze (Vd rfl X0z 1)<|Ze (X0 rfl X0y (E.at 1))<|Ze (Vd rfl X0o 4) ?_;refine Zo (Vu (vs:=[.slice aW (tms fp).length aX]) (l':=[vi (((psC Q).getD psZ).ins),vi (((psC Q).getD psZ).vars),vi (((psC Q).getD psZ).root),vi (fp 0),.slice aW (tms fp).length aX,.slice aU (((psC Q).getD psZ).out).length b3]) rfl rfl X29 d) ?_;rintro _ kG ⟨U,hb⟩;have c:=d;have o:=o.only U (Blk.ne o c rfl);have g:=g.only U (by omega);have b:=b.only U aF;have C:=C.onlyT U c rfl;have H:=H.onlyT U c rfl;have G:=Kept.only G U aF;have d:=hb;refine Zn fun a L=>?_;refine Xd ?_;exact ⟨(⟨((psC Q).getD psZ).ins,((psC Q).getD psZ).vars,((psC Q).getD psZ).root,(fp 0),(tms fp),((psC Q).getD psZ).out⟩ : Ps),t2,s2,aW,aX,aU,b3,L.sb,⟨DrF.valid bK b2,dG⟩,(by omega),o,g,d,b,H.top,C.top,G⟩
  have eB:=cJ;refine wp_skip<|Xd ?_;exact ⟨((psC Q).getD psZ),dH,dI,aI,c18,aU,b3,L.sb,⟨bK,dG⟩,(by omega),o,g,d,b,D.top,C.top,G⟩
 rintro a kH ⟨q9,cH,dX,cP,e8,cQ,eA,L,iZ,j9,o,g,d,b,b8,bC,G⟩;refine fK _ _<|wp_seq_k fun _ gI=>?_;refine Zs L fun _ gJ=>?_;refine Zm rfl<|Zf (Vc (X1x _ bV aA aD N b.top aS aB cH dX o 3 (by omega)) X10) ?_;rintro _ kI ⟨gK,gL,gM,rfl,j0,j1,hK,J⟩;obtain ⟨wm,I,hm,y⟩:=hK.mid;clear hm;have c:=o;have g:=g.only I (Blk.ne g c rfl);have d:=d.only I (Blk.ne d c rfl);have b:=b.onlyA I aB;have b8:=b8.onlyT I c rfl;have bC:=bC.onlyT I c rfl;have G:=G.self I;have g:=g.below y;have d:=d.below y;have b:=b.below y;have b8:=b8.below y;have bC:=bC.below y;have G:=ktr G y
 clear c y I hK;have o:=J;clear J;refine Za rfl<|Zt gJ fun a L=>?_;refine wp_block<|X06 (σ:=Ps×Int) (fun (s:Ps×Int) (a:Act) (w:World)=>match s with|(q,i2)=>∃ bD bF bE bG,Fr a 104 [(2,.pointer (some ⟨b5,0,none⟩)),(4,.pointer (some ⟨b22,0,none⟩)),(10,vi i2)]∧(validP q=true)∧(-4+2*i2≤q.root∧i2≤2)∧Blk w bV 51 [.slice aA N.length aD,vi (gL:Int),.int .u64 gM]∧Blk w b5 30 [vi 0,vi 0,vi 0,vi 0,.slice none 0 0,.slice none 0 0]∧Blk w b22 30 [vi q.ins,vi q.vars,vi q.root,vi q.phase,.slice bD q.ts.length bF,.slice bE q.out.length bG]∧Rd w w0.heap.size bR encU aA N∧Rd w w.heap.size 76 encT bD q.ts∧Rd w w.heap.size 34 encA bE q.out∧Kept bV w0.heap.size w0 w) (fun (s:Ps×Int)=>match s with|(q,i2)=>i2.toNat) (q9,gK) ?_ ?_
 ·exact ⟨cP,e8,cQ,eA,L.sb,iZ.1,(by omega),o,g,d,b,b8.top,bC.top,G⟩
 rintro ⟨q,i2⟩ a kJ ⟨bD,bF,bE,bG,L,cW,kK,o,g,d,b,aG,aH,G⟩;have hR:=VPr.of cW;have kL:=hR.root;refine wp_seq_k fun _ gN=>?_;refine Zs L fun _ gO=>?_;refine Zm rfl<|Ze (X42 rfl rfl)<|Zt gO fun a L=>?_
 refine Xg L rfl (fun aR=>?_) (fun aR=>?_)
 ·have eL:=aR;have aR:=of_decide_eq_true aR
  have kM:0<i2:=by have:=aR;omega
  refine wp_skip<|gN _ _<|wp_seq_k fun _ dN=>?_;refine wp_block<|Zs L fun _ gQ=>?_;refine Ze (Vn Xh d)<|Zf (Vc (Y0n _ q bD bF aG.top bE bG aH.top hR.v (by omega) (Nat.le_trans hR.len (by decide)) (Nat.le_trans hR.out (by decide))) Xrq) ?_;rintro _ kN ⟨bS,bU,bW,bX,rfl,b0,b1,y⟩;have o:=o.below y;have g:=g.below y;have d:=d.below y;have b:=b.below y;have aG:=aG.below y;have aH:=aH.below y;have G:=ktr G y;refine Zm rfl<|Ze (X8 (vs:=[.agg #[vi ((((stepP q).getD (psZ,0)).1).ins),vi ((((stepP q).getD (psZ,0)).1).vars),vi ((((stepP q).getD (psZ,0)).1).root),vi ((((stepP q).getD (psZ,0)).1).phase),.slice bS ((((stepP q).getD (psZ,0)).1).ts).length bU,.slice bW ((((stepP q).getD (psZ,0)).1).out).length bX],vi (((stepP q).getD (psZ,0)).2),.bool ((stepP q).isSome)]) rfl rfl)<|Ze (X8 (vs:=[.agg #[vi ((((stepP q).getD (psZ,0)).1).ins),vi ((((stepP q).getD (psZ,0)).1).vars),vi ((((stepP q).getD (psZ,0)).1).root),vi ((((stepP q).getD (psZ,0)).1).phase),.slice bS ((((stepP q).getD (psZ,0)).1).ts).length bU,.slice bW ((((stepP q).getD (psZ,0)).1).out).length bX],vi (((stepP q).getD (psZ,0)).2),.bool ((stepP q).isSome)]) rfl rfl)<|Ze (X8 (vs:=[.agg #[vi ((((stepP q).getD (psZ,0)).1).ins),vi ((((stepP q).getD (psZ,0)).1).vars),vi ((((stepP q).getD (psZ,0)).1).root),vi ((((stepP q).getD (psZ,0)).1).phase),.slice bS ((((stepP q).getD (psZ,0)).1).ts).length bU,.slice bW ((((stepP q).getD (psZ,0)).1).out).length bX],vi (((stepP q).getD (psZ,0)).2),.bool ((stepP q).isSome)]) rfl rfl)<|Zf (X6 (zs:=[vi 0,vi 0,vi 0,vi 0,.slice none 0 0,.slice none 0 0]) X1o rfl) ?_;rintro _ kO ⟨b84,rfl,dO,y,bO⟩
  have gR:b5≠b84:=by have:=g.lt;omega
  have eR:b22≠b84:=by have:=d.lt;omega
  have cN:=Nat.le_trans G.size dO;have gS:=b.away dO;have o:=o.below y;have g:=g.below y;have d:=d.below y;have b:=b.below y;have aG:=aG.below y;have aH:=aH.below y;have b0:=b0.below y;have b1:=b1.below y;have G:=ktr G y;refine Zo (Vw [vi ((((stepP q).getD (psZ,0)).1).ins),vi ((((stepP q).getD (psZ,0)).1).vars),vi ((((stepP q).getD (psZ,0)).1).root),vi ((((stepP q).getD (psZ,0)).1).phase),.slice bS ((((stepP q).getD (psZ,0)).1).ts).length bU,.slice bW ((((stepP q).getD (psZ,0)).1).out).length bX] X04 bO) ?_;rintro _ kP ⟨U,hb⟩;have c:=bO;have o:=o.only U (Blk.ne o c rfl);have g:=g.only U (by omega);have d:=d.only U (by omega);have b:=b.only U cN;have aG:=aG.onlyT U c rfl;have aH:=aH.onlyT U c rfl;have b0:=b0.onlyT U c rfl;have b1:=b1.onlyT U c rfl;have G:=Kept.only G U cN;have bO:=hb;refine Za rfl<|Za rfl<|Zx gQ fun a L _ gT=>?_;refine Zm rfl<|Zt gT fun a L=>?_
  refine Xg L rfl (fun bP=>?_) (fun bP=>?_)
  ·have eM:=bP
   have j2:(stepP q).isSome=true:=bP
   obtain ⟨j3,kQ,kR⟩:=Xmj cW j2 (by omega)
   refine Zr L<|Ze (Vn Xh bO)<|Zo (Vw [vi ((((stepP q).getD (psZ,0)).1).ins),vi ((((stepP q).getD (psZ,0)).1).vars),vi ((((stepP q).getD (psZ,0)).1).root),vi ((((stepP q).getD (psZ,0)).1).phase),.slice bS ((((stepP q).getD (psZ,0)).1).ts).length bU,.slice bW ((((stepP q).getD (psZ,0)).1).out).length bX] X04 d) ?_;rintro _ kS ⟨U,hb⟩;have c:=d;have o:=o.only U (Blk.ne o c rfl);have g:=g.only U (by omega);have b:=b.only U aF;have b0:=b0.onlyT U c rfl;have b1:=b1.onlyT U c rfl;have G:=Kept.only G U aF;have d:=hb;refine Zn fun a L=>?_;refine Xa<|dN _ _<|Zr L<|Zm rfl<|Ze (X15 rfl rfl (by omega) (by omega))<|Za rfl ?_;refine Zn fun a L=>?_;refine Xd ?_;exact ⟨((((stepP q).getD (psZ,0)).1),i2-1),⟨bS,bU,bW,bX,L.sb,j3,(by omega),o,g,d,b,b0.top,b1.top,G⟩,(by first|omega|(dsimp only;omega))⟩
  have eM:=bP;refine wp_skip<|Xa<|dN _ _<|Zr L ?_;refine Zm rfl<|Ze (X15 rfl rfl (by omega) (by omega))<|Za rfl ?_;refine Zn fun a L=>?_;refine Xd ?_;exact ⟨(q,i2-1),⟨bD,bF,bE,bG,L.sb,cW,(by omega),o,g,d,b,aG.top,aH.top,G⟩,(by first|omega|(dsimp only;omega))⟩
 have eL:=aR;have aR:=of_decide_eq_false aR;refine wp_exit<|Xi<|Xi<|X03 ?_;refine gI _ _<|Zs L fun _ gU=>?_;refine Ze (Vn Xh d)<|Zo (Vw [vi q.ins,vi q.vars,vi q.root,vi q.phase,.slice bD q.ts.length bF,.slice bE q.out.length bG] X04 g) ?_;rintro _ kT ⟨U,hb⟩;have c:=g;have o:=o.only U (Blk.ne o c rfl);have aG:=aG.onlyT U c rfl;have aH:=aH.onlyT U c rfl;have G:=Kept.only G U cX;have g:=hb;refine Zt gU fun a L=>?_
 refine wp_ret (X3 L (Xz L rfl (ResV.cellN (l:=[vi q.ins,vi q.vars,vi q.root,vi q.phase,.slice bD q.ts.length bF,.slice bE q.out.length bG]) rfl Xh (g.at 0) rfl)) ?_)
 exact ⟨q,bD,bF,bE,bG,_,_,rfl,cW,⟨by omega,by omega⟩,aG.top,aH.top,G,o⟩
def svP(p:Ps)(j:Int)(u:Af) : Ps×Bool:=if (validP p&&inR j p.ins (p.ins+p.vars-1)&&okAf (p.ins+p.vars).toNat u&&!bitQ j.toNat u.m)=true then (repP p j.toNat u,true) else (psZ,false)
theorem X6o{n:Nat}{u:Af}(h:okAf n u=true)(hn:n≤24) : AO u∧Lt n u.m:=by
 simp only [okAf,Bool.and_eq_true,Xt] at h
 have:=X6h hn
 exact ⟨⟨⟨h.1.1,by omega⟩,by omega⟩,⟨h.1.1,by omega⟩,by omega⟩
section
variable {p : Ps} {j : Int} {u : Af} (hv : validP p = true) (hj : inR j p.ins (p.ins + p.vars - 1) = true) (hu : okAf (p.ins + p.vars).toNat u = true) (hb : bitQ j.toNat u.m = false)
include hv hj hu hb
theorem Xhi:svP p j u=(repP p j.toNat u,true):=by
 unfold svP
 rw [if_pos (by rw [hv,hj,hu,hb];rfl)]
theorem Xm8:validP (svP p j u).1=true:=by
 rw [Xhi hv hj hu hb]
 have hV:=VPs.of hv;have hI:=hV.ins;have hvr:=hV.vars
 have hj':=Xt.1 hj
 exact X9v hv ⟨by omega,by omega⟩ (X6o hu (by omega)) hb
end
theorem Xlm{p:Ps}{j:Int}{u:Af}(h:(svP p j u).2=true) : validP (svP p j u).1=true:=by
 by_cases hc:(validP p&&inR j p.ins (p.ins+p.vars-1)&&okAf (p.ins+p.vars).toNat u&&!bitQ j.toNat u.m)=true
 ·simp only [Bool.and_eq_true,Bool.not_eq_true'] at hc
  exact Xm8 hc.1.1.1 hc.1.1.2 hc.1.2 hc.2
 ·unfold svP at h
  rw [if_neg hc] at h;cases h
theorem Xnc(p:Ps)(j:Int)(u:Af) : (svP p j u).1.ts.length≤2305843009213693951∧(svP p j u).1.out.length≤2305843009213693951:=by
 cases h:(svP p j u).2 with
 | true=>
  have:=VPr.of (Xlm h)
  exact ⟨Nat.le_trans this.len (by decide),Nat.le_trans this.out (by decide)⟩
 | false=>
  have e:(svP p j u).1=psZ:=by
   unfold svP at h ⊢
   split
   ·rename_i hc;rw [if_pos hc] at h;cases h
   ·rfl
  rw [e];exact ⟨Nat.zero_le _,Nat.zero_le _⟩
theorem X9z{c:Cx}(h:(psO c).isSome=true) : cOk c=true∧psO c=psC c:=by
 unfold psO at h ⊢
 split at h
 ·rename_i hc;exact ⟨hc,if_pos hc⟩
 ·cases h
theorem Xix(c:Cx) : ((psO c).getD psZ).ts.length≤2305843009213693951∧((psO c).getD psZ).out.length≤2305843009213693951:=by
 cases h:psO c with
 | none=>exact ⟨Nat.zero_le _,Nat.zero_le _⟩
 | some p=>
  obtain ⟨h1,h2⟩:=X9z (c:=c) (by rw [h];rfl)
  have:=VPr.of (X7k h1 (h2▸h))
  exact ⟨Nat.le_trans this.len (by decide),Nat.le_trans this.out (by decide)⟩
theorem Xcx{c:Cx}(h:(psO c).isSome=true) : validP ((psO c).getD psZ)=true:=by
 obtain ⟨p,e⟩:=Option.isSome_iff_exists.1 h;obtain ⟨h1,h2⟩:=X9z h
 rw [e]
 exact X7k h1 (h2▸e)
theorem Xvh{c:Cx}(h:(psO c).isSome=true)(h10:((psO c).getD psZ).ins+((psO c).getD psZ).vars≤10) : (opPs ((psO c).getD psZ)).isSome=true∧(opI c).isSome=true∧eqM ((opPs ((psO c).getD psZ)).getD mZ) ((opI c).getD mZ)=true:=by
 obtain ⟨p,e⟩:=Option.isSome_iff_exists.1 h;obtain ⟨h1,h2⟩:=X9z h
 have hp:psC c=some p:=h2▸e
 rw [e] at h10 ⊢
 have h10:p.ins+p.vars≤10:=h10
 have hv:=X7k h1 hp;obtain ⟨n,hn,hn1,hn5⟩:=Xc9 h1;obtain ⟨q1,q2⟩:=Xbl h1 hn hp
 have hvars:p.vars=(hs c.gs:Int):=by
  unfold psC at hp
  rw [hn,Int.toNat_natCast] at hp
  cases e2:psAll n c.gs (ps0 n) with
  | none=>rw [e2] at hp;cases hp
  | some s=>
   rw [e2] at hp
   injection hp with hp
   have:=Xwr c.gs e2
   subst hp
   show ((s.v:Nat) : Int)=_
   rw [this]
   show (((0:Nat)+hs c.gs:Nat) : Int)=_
   omega
 obtain ⟨M,hM⟩:=Xkk hv h10 (by rw [q1];omega)
 obtain ⟨U,hU⟩:=Xt8 h1 (by omega)
 refine ⟨by show (opPs p).isSome=true;rw [hM];rfl,by rw [hU];rfl,?_⟩
 show eqM ((opPs p).getD mZ) ((opI c).getD mZ)=true
 rw [hM,hU,Xk2 h1 hp hM hU]
 simp [eqM]
theorem Y1u{x:Int}(h:0≤x∧x≤9) : wr (x.tdiv 9)=x/9:=by
 rw [Int.tdiv_eq_ediv_of_nonneg h.1]
 exact Xjc (by omega)
theorem Y00{m:Int}{j:Nat}(hm:Lt 24 m)(hj:j<24) : Lt 24 (oI m ((2^j:Nat) : Int)):=hm.or ⟨X3m hj,Int.ofNat_lt.2 (Nat.pow_lt_pow_right (by decide) hj)⟩
theorem Xzo(b:World)(p:Ps)(Ap:Option Addr)(cp:Nat)(aE:Rd b b.heap.size 76 encT Ap p.ts)(Bp:Option Addr)(dp:Nat)(aF:Rd b b.heap.size 34 encA Bp p.out)(j:Int)(aH:(-1000≤p.ins∧p.ins≤1000)∧-1000≤p.vars∧p.vars≤1000) : Ret Tryz.prog 27 [.agg #[vi p.ins,vi p.vars,vi p.root,vi p.phase,.slice Ap p.ts.length cp,.slice Bp p.out.length dp],vi j] b (fun v w=>v=.bool (inR j p.ins (p.ins+p.vars-1))∧Below b.heap.size b w):=by
 refine enter Tryz.func27 rfl 15 rfl rfl ?_;intro a hf
 have hW:=bz b
 refine Zs hf fun _ aB=>?_;refine Zf (X14 (zs:=[vi p.ins,vi p.vars,vi p.root,vi p.phase,.slice Ap p.ts.length cp,.slice Bp p.out.length dp]) rfl rfl) ?_;rintro _ w1 ⟨b4,rfl,aC,hE,aA⟩;have aG:=Nat.le_trans hW.size aC;have hW:=btr hW hE;refine Za rfl<|Zx aB fun a hf _ aD=>?_;refine Zm rfl<|Ze (Vd rfl X09 0)<|Ze (X0 rfl X2 (aA.at 0))<|Ze (Vd rfl X09 0)<|Ze (X0 rfl X2 (aA.at 0)) ?_;refine Ze (Vd rfl X0n 1)<|Ze (X0 rfl X2 (aA.at 1))<|Ze (Xu rfl rfl (by omega) (by omega))<|Ze (X15 rfl rfl (by omega) (by omega))<|Zf (Vc (F91 _ j p.ins ((p.ins+p.vars)-1)) X32) ?_;rintro _ _ ⟨rfl,rfl⟩;refine Za rfl<|Zt aD fun a hf=>?_
 refine wp_ret (X3 hf (Xz hf rfl rfl) ?_)
 exact ⟨rfl,hW⟩
theorem Xyo(M:World)(p:Ps)(Ap:Option Addr)(cp:Nat)(B:Rd M M.heap.size 76 encT Ap p.ts)(Bp:Option Addr)(dp:Nat)(A:Rd M M.heap.size 34 encA Bp p.out)(j:Int)(u:Af)(aO:∀ t ∈ p.ts,Mk t.m)(aF:(-1000≤p.ins∧p.ins≤1000)∧-1000≤p.vars∧p.vars≤1000)(aP:p.ts.length≤100000000)(aQ:p.out.length≤100000000) : Ret Tryz.prog 8 [.agg #[vi p.ins,vi p.vars,vi p.root,vi p.phase,.slice Ap p.ts.length cp,.slice Bp p.out.length dp],vi j,.agg #[vi u.m,vi u.t]] M (fun v w=>∃ A9 c9 B9 d9,v=.tuple #[psV A9 c9 B9 d9 ((svP p j u).1),.bool ((svP p j u).2)]∧Rd w w.heap.size 76 encT A9 ((svP p j u).1).ts∧Rd w w.heap.size 34 encA B9 ((svP p j u).1).out∧Below M.heap.size M w):=by
 refine enter Tryz.func8 rfl 40 rfl rfl ?_;intro a q
 have g:=bz M
 refine Zs q fun _ aR=>?_;refine Zf (X14 (zs:=[vi p.ins,vi p.vars,vi p.root,vi p.phase,.slice Ap p.ts.length cp,.slice Bp p.out.length dp]) rfl rfl) ?_;rintro _ w1 ⟨b4,rfl,aS,i,f⟩;have b0:=Nat.le_trans g.size aS;have g:=btr g i;refine Zf (X14 (zs:=[vi u.m,vi u.t]) rfl rfl) ?_;rintro _ w2 ⟨b5,rfl,aG,i,n⟩;have b1:=Nat.le_trans g.size aG;have aM:=(A.below' g).away aG;have f:=f.below i;have g:=btr g i;refine Zf (X6 (zs:=[vi 0,vi 0,vi 0,vi 0,.slice none 0 0,.slice none 0 0]) X1o rfl) ?_;rintro _ w3 ⟨b8,rfl,aT,i,o⟩
 have aN:b4≠b8:=by have:=f.lt;omega
 have N:=Nat.le_trans g.size aT;have f:=f.below i;have n:=n.below i;have g:=btr g i;refine Za rfl<|ZX aR fun a q _ aU=>?_;refine wp_seq_k fun _ aH=>?_;refine X0j (fun a w=>Fr a 40 [(1,vi j),(3,.pointer (some ⟨b4,0,none⟩)),(5,.pointer (some ⟨b5,0,none⟩)),(6,.pointer (some ⟨b8,0,none⟩)),(34,.bool ((((!(validP p))||(!(inR j p.ins (p.ins+p.vars-1))))||(!(okAf ((p.ins+p.vars).toNat:Nat) u)))||((bI j.toNat u.m)==1)))]∧Below w3.heap.size w3 w) ?_ ?_
 ·have x:Below w3.heap.size w3 w3:=Below.refl _ _
  refine Zr q<|Ze (Vn Xh f)<|Zf (Vc (Xol _ p Ap cp (B.below' g).top Bp dp (A.below' g).top aO aF.1 aP aQ) Xdi) ?_;rintro _ w4 ⟨rfl,i⟩;have f:=f.below i;have n:=n.below i;have g:=btr g i;have x:=btr x i;refine Ze (X1c rfl)<|Zm rfl ?_
  refine Zg 11 rfl (fun d=>?_) (fun d=>?_)
  ·refine Zp (gP d) ?_;refine Zp (gP d) ?_;refine Zp (gP d) ?_;refine Zp (gP d) ?_;refine Ze (X5 rfl d rfl)<|Zm rfl<|Zp (gP rfl) ?_;refine Zp (gP rfl) ?_;refine Zp (gP rfl) ?_;refine Zp (gP rfl) ?_;refine Zp (gP rfl) ?_;refine Zp (gP rfl) ?_;refine Zp (gP rfl) ?_;refine Zp (gP rfl) ?_;refine Ze (X5 rfl rfl rfl)<|Zm rfl<|Zp (gP rfl) ?_;refine Zp (gP rfl) ?_;refine Zp (gP rfl) ?_;refine Zp (gP rfl) ?_;refine Zp (gP rfl) ?_;refine Zp (gP rfl) ?_;refine Ze (X5 rfl rfl rfl) ?_;refine Zn fun a q=>?_
   have h:Below w3.heap.size w3 w4:=x
   exact ⟨q.sub ⟨rfl,rfl,rfl,rfl,X1 rfl (by first|rfl|(simp only [d,bs];done)|simp [d]),trivial⟩,h⟩
  have C:validP p=true:=by have:=d;simpa using this
  have aI:=VPs.of C;have b6:=aI.ins;have b2:=aI.vars;refine Zv (gW d) (Vn Xh f) ?_;refine Zv (gW d) (X4 rfl) ?_;refine Zk (gW d) (Vc (Xzo _ p Ap cp (B.below' g).top Bp dp (A.below' g).top j aF) Xr8) ?_;rintro _ w5 ⟨rfl,i⟩;have f:=f.below i;have n:=n.below i;have g:=btr g i;have x:=btr x i;refine Zv (gW d) (X1c rfl) ?_;refine Ze (Xc rfl d rfl)<|Zm rfl ?_
  refine Zg 17 rfl (fun b=>?_) (fun b=>?_)
  ·refine Zp (gP b) ?_;refine Zp (gP b) ?_;refine Zp (gP b) ?_;refine Zp (gP b) ?_;refine Zp (gP b) ?_;refine Zp (gP b) ?_;refine Zp (gP b) ?_;refine Zp (gP b) ?_;refine Ze (X5 rfl b rfl)<|Zm rfl<|Zp (gP rfl) ?_;refine Zp (gP rfl) ?_;refine Zp (gP rfl) ?_;refine Zp (gP rfl) ?_;refine Zp (gP rfl) ?_;refine Zp (gP rfl) ?_;refine Ze (X5 rfl rfl rfl) ?_;refine Zn fun a q=>?_
   have h:Below w3.heap.size w3 w5:=x
   exact ⟨q.sub ⟨rfl,rfl,rfl,rfl,X1 rfl (by first|rfl|(simp only [d,b,bs];done)|simp [d,b]),trivial⟩,h⟩
  have I:inR j p.ins (p.ins+p.vars-1)=true:=by have:=b;simpa using this
  have aW:=Xt.1 I;refine Zv (gW b) (Vn Xs n) ?_;refine Zv (gW b) (Vd rfl X09 0) ?_;refine Zv (gW b) (X0 rfl X2 (f.at 0)) ?_;refine Zv (gW b) (Vd rfl X0n 1) ?_;refine Zv (gW b) (X0 rfl X2 (f.at 1)) ?_;refine Zv (gW b) (X3p (k:=(((p.ins+p.vars).toNat:Nat) : Int)) rfl rfl (by omega) (by omega) (by omega)) ?_;refine Zk (gW b) (Vc (Xte _ u ((p.ins+p.vars).toNat:Nat) (by omega)) Xj2) ?_;rintro _ w6 ⟨rfl,i⟩;have n:=n.below i;have g:=btr g i;have x:=btr x i;refine Zv (gW b) (X1c rfl) ?_;refine Ze (Xc rfl b rfl)<|Zm rfl ?_
  refine Zg 27 rfl (fun e=>?_) (fun e=>?_)
  ·refine Zp (gP e) ?_;refine Zp (gP e) ?_;refine Zp (gP e) ?_;refine Zp (gP e) ?_;refine Zp (gP e) ?_;refine Zp (gP e) ?_;refine Ze (X5 rfl e rfl) ?_;refine Zn fun a q=>?_
   have h:Below w3.heap.size w3 w6:=x
   exact ⟨q.sub ⟨rfl,rfl,rfl,rfl,X1 rfl (by first|rfl|(simp only [d,b,e,bs];done)|simp [d,b,e]),trivial⟩,h⟩
  have J:okAf (p.ins+p.vars).toNat u=true:=by have:=e;simpa [okAf] using this
  obtain ⟨L,aX⟩:=X6o J (by omega)
  refine Zv (gW e) (Vd rfl X0a 0) ?_;refine Zv (gW e) (X0 rfl X2 (n.at 0)) ?_;refine Zv (gW e) (X4 rfl) ?_;refine Zv (gW e) (X6v (m:=j.toNat) rfl rfl (by omega) (by omega)) ?_;refine Zv (gW e) (Vx (X69 rfl rfl) (X4b L.1 j.toNat)) ?_;refine Zv (gW e) (X0l rfl rfl) ?_;refine Ze (Xc rfl e rfl) ?_;refine Zn fun a q=>?_
  have h:Below w3.heap.size w3 w6:=x
  exact ⟨q.sub ⟨rfl,rfl,rfl,rfl,X1 rfl (by first|rfl|(simp only [d,b,e,bs];done)|simp [d,b,e]),trivial⟩,h⟩
 rintro a w7 ⟨q,i⟩;have f:=f.below i;have n:=n.below i;have o:=o.below i;have g:=btr g i;refine aH _ _ ?_
 refine Xg q rfl (fun y=>?_) (fun y=>?_)
 ·have aA:=y
  have D:svP p j u=(psZ,false):=by unfold svP;rw [if_neg];have h7:=y;revert h7;unfold okAf at *;simp only [bI,bs];cases h1:validP p<;>cases h2:inR j p.ins (p.ins+p.vars-1)<;>cases h3:inR u.m 0 (((2^(p.ins+p.vars).toNat:Nat) : Int)-1)<;>cases h5:inR u.t 0 1<;>cases h4:bitQ j.toNat u.m<;>simp_all
  refine Zs q fun _ aJ=>?_;refine Ze (Xk (ps:=[]) (cs:=[vi 0,vi 0,vi 0,vi 0,.slice none 0 0,.slice none 0 0]) rfl (fun _=>by first|rfl|kernel_rfl))<|Zo (Vw [vi 0,vi 0,vi 0,vi 0,.slice none 0 0,.slice none 0 0] X04 o) ?_;rintro _ w8 ⟨ho,hb⟩;have E:=o;have g:=Below.only g ho N;have o:=hb;refine Za rfl<|Zt aJ fun a q=>?_;refine wp_ret<|X7<|X3 q (X1m q rfl (ResV.cellN (l:=[vi 0,vi 0,vi 0,vi 0,.slice none 0 0,.slice none 0 0]) rfl Xh (o.at 0) rfl) rfl) ?_
  rw [D]
  exact ⟨none,0,none,0,rfl,(Rd.nil _ _ _ _ _),(Rd.nil _ _ _ _ _),g⟩
 have aA:=y
 obtain ⟨C,I,J,aK⟩ : validP p=true∧inR j p.ins (p.ins+p.vars-1)=true∧okAf (p.ins+p.vars).toNat u=true∧bitQ j.toNat u.m=false:=by have h7:=y;revert h7;unfold okAf;simp only [bI,bs];cases h1:validP p<;>cases h2:inR j p.ins (p.ins+p.vars-1)<;>cases h3:inR u.m 0 (((2^(p.ins+p.vars).toNat:Nat) : Int)-1)<;>cases h5:inR u.t 0 1<;>cases h4:bitQ j.toNat u.m<;>simp_all
 have Q:=VPs.of C;have hR:=VPr.of C;have b3:=Q.ins;have b7:=Q.vars;have aW:=Xt.1 I
 obtain ⟨L,aX⟩:=X6o J (by omega)
 have D:=Xhi C I J aK
 have aY:∀ t9 ∈ p.ts,Mk t9.m∧0<t9.c∧t9.c<8:=fun t9 h9=>⟨Q.ts.mks t9 h9,(Q.ts.all t9 h9).2.2⟩
 have aZ:∀ a9 ∈ p.out,AO a9:=fun a9 h9=>(Q.out a9 h9).1
 refine wp_skip<|aU _ _<|Zs q fun _ aL=>?_;refine Ze (Vn Xh f)<|Ze (Vx (X4 rfl) (show _=((j.toNat:Nat) : Int) from (by omega)))<|Ze (Vn Xs n)<|Zf (Vc (Y0a _ p Ap cp (B.below' g).top Bp dp (A.below' g).top (j.toNat:Nat) u Q.ph aY aZ (by omega) L (by omega) (Nat.le_trans hR.len (by decide)) (Nat.le_trans hR.out (by decide))) Xsm) ?_;rintro _ w9 ⟨aB,aC,aD,aE,rfl,G,H,i⟩;have o:=o.below i;have g:=btr g i;refine Zo (Vw [vi ((subP p (j.toNat:Nat) u).ins),vi ((subP p (j.toNat:Nat) u).vars),vi ((subP p (j.toNat:Nat) u).root),vi ((subP p (j.toNat:Nat) u).phase),.slice aB ((subP p (j.toNat:Nat) u).ts).length aC,.slice aD ((subP p (j.toNat:Nat) u).out).length aE] X04 o) ?_;rintro _ b9 ⟨ho,hb⟩;have E:=o;have G:=G.onlyT ho E rfl;have H:=H.onlyT ho E rfl;have g:=Below.only g ho N;have o:=hb;refine Za rfl<|Zt aL fun a q=>?_
 refine wp_ret (X3 q (X1m q rfl (ResV.cellN (l:=[vi ((subP p (j.toNat:Nat) u).ins),vi ((subP p (j.toNat:Nat) u).vars),vi ((subP p (j.toNat:Nat) u).root),vi ((subP p (j.toNat:Nat) u).phase),.slice aB ((subP p (j.toNat:Nat) u).ts).length aC,.slice aD ((subP p (j.toNat:Nat) u).out).length aE]) rfl Xh (o.at 0) rfl) rfl) ?_)
 rw [D,← Xv8 Q.ph Q.ts.mks (show j.toNat<24 by omega) ⟨L.1,aK⟩]
 exact ⟨aB,aC,aD,aE,rfl,G.top,H.top,g⟩
end Go.Proofs.YtiejkplemjkjoaaGreat
