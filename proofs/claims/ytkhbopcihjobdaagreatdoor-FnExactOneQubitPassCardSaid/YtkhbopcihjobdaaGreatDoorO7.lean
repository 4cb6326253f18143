/-
  For every circuit, the program's OneQubitPass answers as the reference's does, leaves its argument as it was and hands out memory of its own; the argument and the package's variable half read as before. Conditions: none beside the variable's value that the card ties to the program's text.
-/
import Derived.Test.YtkhbopcihjobdaaGreatDoorO4
import Derived.Test.YtkhbopcihjobdaaGreatDoorO6
import Derived.Test.YtkhbopcihjobdaaGreatDoorO5
import Derived.Test.YtkhbopcihjobdaaGreatDoorO3
import Derived.Test.YtkhbopcihjobdaaGreatDoorCards
import Derived.Test.YtkhbopcihjobdaaGreatDoorTie
import Derived.Lay
set_option linter.unusedVariables false
set_option linter.defProp false
set_option linter.unusedSimpArgs false
set_option maxHeartbeats 1000000
set_option maxRecDepth 4000
set_option linter.unusedSectionVars false
namespace Go.Proofs.YtkhbopcihjobdaaGreatDoor
theorem Jc:∀ {r:List Int},r.Pairwise (· < ·)->∀ {y:Int},y ∈ r->(r.filter fun x=>decide (x<y+1))=(r.filter fun x=>decide (x<y))++[y]
 | [],_,y,h=>by cases h
 | a::r,hp,y,h=>by
  obtain ⟨h1,h2⟩:=W8.1 hp
  rcases Qv.1 h with h|h
  ·subst h
   have e1:(r.filter fun x=>decide (x<y+1))=[]:=List.filter_eq_nil_iff.2 fun x hx=>by have:=h1 x hx;simp;omega
   have e2:(r.filter fun x=>decide (x<y))=[]:=List.filter_eq_nil_iff.2 fun x hx=>by have:=h1 x hx;simp;omega
   rw [List.filter_cons_of_pos O5,List.filter_cons_of_neg O6,e1,e2]
   rfl
  ·have:=h1 y h
   rw [List.filter_cons_of_pos O5,List.filter_cons_of_pos O5,Jc h2 h]
   rfl
theorem KL{r:List Int}{y:Int}(h:y ∉ r) : (r.filter fun x=>decide (x<y+1))=(r.filter fun x=>decide (x<y)):=by
 refine List.filter_congr fun x hx=>?_
 have:x≠y:=fun e=>h (e▸hx)
 rw [decide_eq_decide]
 omega
theorem tU(l m:List Gt) : ic (l++m)=ic l+ic m:=List.countP_append
theorem MU(c:Cx)(r s:List Int) : fr c (r++s)=fr c r++fr c s:=List.map_append
theorem Fc{c:Cx}{p:Nat}{qs:List Int}(h:ib c p qs=true) : ∀ k,k<=lb (du c p qs) p->
  ic ((c.gs.drop p).take k)=ic (fr c ((du c p qs).filter fun x=>decide (x<(p:Int)+(k:Int))))+ic (lp c (du c p qs) p k)
 | 0,_=>by
  have e:((du c p qs).filter fun x=>decide (x<(p:Int)+((0:Nat) : Int)))=[]:=List.filter_eq_nil_iff.2 fun x hx=>by
   obtain ⟨j,_,_,h3,_⟩:=xO h x hx
   simp;omega
  rw [e,CR,List.take_zero]
  rfl
 | k+1,hk=>by
  have i3:=Fc h k O0
  obtain ⟨t,e1,ht,hpt,_⟩:=AA h;have hw:=yq e1 hpt
  have hkl:p+k<c.gs.length:=by omega
  have hu:c.gs[p+k]? = some (c.gs.getD (p+k) gZ):=w_ hkl
  have hT:(c.gs.drop p).take (k+1)=(c.gs.drop p).take k++[c.gs.getD (p+k) gZ]:=by
   rw [Qt,List.getElem?_drop,hu];rfl
  rw [hT,show (p:Int)+((k+1:Nat) : Int)=((p:Int)+(k:Int))+1 by omega]
  by_cases hr:(p:Int)+(k:Int) ∈ du c p qs
  ·have hg:fr c [(p:Int)+(k:Int)]=[c.gs.getD (p+k) gZ]:=by
    unfold fr
    rw [List.map_singleton,show ((p:Int)+(k:Int)).toNat=p+k by omega]
   rw [Jc (show (du c p qs).Pairwise (· < ·) from zq qs _ _ _) hr,JE (Dj.2 hr),MU,tU,tU,i3,hg]
   omega
  ·have hb:h_ (du c p qs) ((p:Int)+(k:Int))=false:=by
    cases e:h_ (du c p qs) ((p:Int)+(k:Int)) with
    | false=>rfl
    | true=>exact absurd (Dj.1 e) hr
   rw [KL hr,I5 hb (by rw [show ((p:Int)+(k:Int)).toNat=p+k by omega];exact hu),tU,tU,i3]
   omega
theorem PB{c:Cx}{p:Nat}{qs:List Int}(h:ib c p qs=true) :
  ic ((c.gs.drop p).take (lb (du c p qs) p))=ic (fr c (du c p qs))+ic (lp c (du c p qs) p (lb (du c p qs) p)):=by
 obtain ⟨t,e1,ht,hpt,_⟩:=AA h;have hw:=yq e1 hpt
 have i3:=Fc h _ (Qb _)
 have e:((du c p qs).filter fun x=>decide (x<(p:Int)+((lb (du c p qs) p:Nat) : Int)))=du c p qs:=List.filter_eq_self.2 fun x hx=>by
  have:=Lr (zq qs _ _ _) x (show x ∈ qr qs (c.gs.drop ((p:Int)).toNat) p 6 from hx)
  have h3:ia (qr qs (c.gs.drop ((p:Int)).toNat) p 6)=(t:Int):=e1
  simp;omega
 rw [e] at i3
 exact i3
def wV(c:Cx)(p:Nat)(q:Int) : Option Rp:=
 (oR (xC c (du c p [q]) [q])).bind fun y=>if ic y.gs<ic (fr c (du c p [q])) then ay c p (du c p [q]) [q] (av y.gs [q]) else none
def rc(c:Cx)(p:Nat) : Option Rp:=if (bv (c.gs.getD p gZ)).length=1 then wV c p (c.gs.getD p gZ).a else none
def jx(c:Cx) : Option Rp:=(List.range c.gs.length).findSome? (rc c)
def u_(c:Cx)(k:Nat) : Prop:=(List.range k).findSome? (rc c)=none
theorem wk{c:Cx}{k:Nat}(h:u_ c k)(h2:rc c k=none) : u_ c (k+1):=by
 unfold u_ at h ⊢
 rw [List.range_succ,List.findSome?_append,h]
 simp [h2]
theorem Hc{c:Cx}{k:Nat}(h:u_ c k)(hk:k=c.gs.length) : jx c=none:=by subst hk;exact h
theorem FP{c:Cx}{p:Nat}(h:u_ c p)(hp:p<c.gs.length)(hs:(rc c p).isSome=true) : jx c=rc c p:=by
 unfold jx
 obtain ⟨k,e⟩ : ∃ k,c.gs.length=(p+1)+k:=⟨c.gs.length-(p+1),by omega⟩
 rw [e,List.range_add,List.findSome?_append,List.range_succ,List.findSome?_append,h]
 obtain ⟨r,hr⟩:=Option.isSome_iff_exists.1 hs
 simp [hr]
theorem I6{c:Cx}(hc:gf c=true){p:Nat}{g:Gt}(hg:c.gs[p]? = some g)(h1:(bv g).length=1) : ib c p [g.a]=true/\bv g=[g.a]/\c.gs.getD p gZ=g:=by
 obtain ⟨hp,e⟩:=Qg.1 hg;have hok:=(n' hc).2.2 g (Qe hg);obtain ⟨_,_,h3,_⟩:=qe hok
 have ed:c.gs.getD p gZ=g:=by rw [Qa,hg];rfl
 have eq:¬ g.k=12/\bv g=[g.a]:=by
  unfold bv at h1 ⊢
  split at h1
  ·simp at h1
  ·rename_i h12
   split at h1
   ·simp at h1
   ·rename_i h9
    exact ⟨h12,by rw [Q3 h12,Q3 h9]⟩
 have ha:=h3 eq.1
 refine ⟨?_,eq.2,ed⟩
 unfold ib
 have e1:kw [g.a] 0 (c.n-1)=true:=by
  unfold kw
  simp only [List.length_singleton,List.range_one,List.all_cons,List.all_nil,Bool.and_true]
  rw [Qd]
  refine ⟨iw.2 (by show 0<=g.a/\g.a<=c.n-1;omega),by simp⟩
 have e2:i_ g [g.a]=true:=by
  unfold i_
  rw [eq.2]
  simp [h_]
 rw [e1,Qj,ed,e2,iw.2 (show (1:Int)<=(([g.a] : List Int).length:Int)/\(([g.a] : List Int).length:Int)<=2 by simp),iw.2 (show (0:Int)<=(p:Int)/\(p:Int)<=(c.gs.length:Int)-1 by omega)]
 rfl
theorem Cy{c:Cx}{r:Rp}(h:jx c=some r) : ∃ (p:Nat) (g:Gt) (y:Cx),c.gs[p]? = some g/\(bv g).length=1/\oR (xC c (du c p [g.a]) [g.a])=some y/\ic y.gs<ic (fr c (du c p [g.a]))/\r=ko c p (du c p [g.a]) (av y.gs [g.a])/\r.old.length<=40/\r.new.length<=40:=by
 obtain ⟨p,hp,h⟩:=List.exists_of_findSome?_eq_some h;have hpl:=W2.1 hp;have hg:=w_ hpl
 unfold rc at h
 split at h
 ·rename_i h1
  unfold wV at h
  cases e:oR (xC c (du c p [(c.gs.getD p gZ).a]) [(c.gs.getD p gZ).a]) with
  | none=>rw [e] at h;cases h
  | some y=>
   rw [e,Qz] at h
   split at h
   ·rename_i ht
    unfold ay at h
    split at h
    ·split at h
     ·rename_i h40
      injection h with h
      exact ⟨p,_,y,hg,h1,e,ht,h.symm,by rw [<- h];exact h40⟩
     ·cases h
    ·cases h
   ·cases h
 ·cases h
theorem yE{c:Cx}{r:Rp}(h:jx c=some r) : r.old.length<=40/\r.new.length<=40:=by
 obtain ⟨_,_,_,_,_,_,_,_,h1⟩:=Cy h;exact h1
theorem It{c:Cx}(hc:gf c=true){r:Rp}(h:jx c=some r) : ic r.new<ic r.old:=by
 obtain ⟨p,g,y,hg,h1,_,ht,rfl,_⟩:=Cy h;obtain ⟨hb,_,_⟩:=I6 hc hg h1;have hw:=PB hb
 show ic (av y.gs [g.a]++lp c (du c p [g.a]) p (lb (du c p [g.a]) p))<ic ((c.gs.drop ((p:Int)).toNat).take (lb (du c p [g.a]) p))
 rw [Qj,hw,tU]
 have e4:ic (av y.gs [g.a])=ic y.gs:=by
  unfold av ic
  rw [List.countP_map]
  rfl
 omega
theorem Ng{c e:Cx}(hc:gf c=true){r:Rp}(h:jx c=some r)(ha:dc c r=some e) : ic e.gs+1<=ic c.gs:=by
 obtain ⟨p,q,h1,h2⟩:=N0 ha
 have:=It hc h
 rw [h1,h2,tU,tU,tU,tU]
 omega
theorem xS(l:List Gt) : ic l<=l.length:=List.countP_le_length
theorem AK{c:Cx}(hc:gf c=true){r:Rp}(h:jx c=some r) : 1<=ic c.gs/\1<=c.gs.length:=by
 have h1:=It hc h;obtain ⟨p,g,y,hg,_,_,_,rfl,_⟩:=Cy h
 have h2:ic (ko c p (du c p [g.a]) (av y.gs [g.a])).old<=ic c.gs:=by
  have h3:(ko c p (du c p [g.a]) (av y.gs [g.a])).old.Sublist c.gs:=(List.take_sublist _ _).trans (List.drop_sublist _ _)
  exact h3.countP_le
 have:=xS c.gs
 omega
def qt:Nat->Cx->Option (List Rp×Cx)
 | 0,c=>some ([],c)
 | k+1,c=>match jx c with
  | none=>some ([],c)
  | some r=>match dc c r with
   | none=>none
   | some e=>(qt k e).map fun x=>(r::x.1,x.2)
def cv(c:Cx) : Cx×List Rp×Cx:=if gf c=true then (match qt (ic c.gs) c with|some x=>(c,x.1,x.2)|none=>(cZ,[],cZ)) else (cZ,[],cZ)
def nw(c:Cx) : Bool:=gf c&&(qt (ic c.gs) c).isSome
theorem Hr{c:Cx}(h:jx c=none) : ∀ k,qt k c=some ([],c)
 | 0=>rfl
 | k+1=>by unfold qt;rw [h]
theorem Ep{c e:Cx}{r:Rp}(h:jx c=some r)(ha:dc c r=some e)(k:Nat) : qt (k+1) c=(qt k e).map fun x=>(r::x.1,x.2):=by
 conv=>lhs;unfold qt
 rw [h];simp only [ha]
theorem IJ{c:Cx}{r:Rp}(h:jx c=some r)(ha:dc c r=none)(k:Nat) : qt (k+1) c=none:=by
 conv=>lhs;unfold qt
 rw [h];simp only [ha]
structure qY (c:Cx) (l:List Sr) (d:Cx) (k:Nat) : Prop where
 run:qt (ic c.gs) c=(qt k d).map fun x=>(l.map Sr.rp++x.1,x.2)
 ok:gf d=true
 n:d.n=c.n
 le:ic d.gs<=k
 len:l.length+ic d.gs<=ic c.gs
 small:∀ s ∈ l,s.old.length<=40/\s.new.length<=40
theorem qY.sta{c:Cx}(h:gf c=true) : qY c [] c (ic c.gs):=⟨by simp,h,rfl,Qb _,by simp,fun s hs=>by simp at hs⟩
theorem qY.nxt{c d e:Cx}{l:List Sr}{k:Nat}(h:qY c l d k){r:Rp}(hr:jx d=some r)(ha:dc d r=some e){s:Sr}(hs:s.rp=r) : ∃ k',k=k'+1/\qY c (l++[s]) e k':=by
 have h1:=(AK h.ok hr).1;have h2:=Ng h.ok hr ha;have hle:=h.le
 obtain ⟨k',rfl⟩ : ∃ k',k=k'+1:=⟨k-1,by omega⟩
 refine ⟨k',O,?_⟩
 obtain ⟨e1,e2,_⟩:=(Bh h.ok).2 e ha;have hrun:=h.run
 rw [Ep hr ha,Option.map_map] at hrun
 refine ⟨?_,e1,e2.trans h.n,by omega,by have:=h.len;simp;omega,fun x hx=>?_⟩
 ·rw [hrun,List.map_append]
  simp only [Qx,List.map_cons,List.map_nil,hs]
  rfl
 ·rcases Qu.1 hx with hx|hx
  ·exact h.small x hx
  ·rw [Qm] at hx
   subst hx
   subst hs
   exact yE hr
theorem qY.don{c d:Cx}{l:List Sr}{k:Nat}(h:qY c l d k)(hc:gf c=true)(hn:jx d=none) : cv c=(c,l.map Sr.rp,d)/\nw c=true:=by
 have e:qt (ic c.gs) c=some (l.map Sr.rp,d):=by rw [h.run,Hr hn k];simp
 unfold cv nw
 rw [Q4 hc,e,hc]
 exact ⟨O,O⟩
theorem qY.bd{c d:Cx}{l:List Sr}{k:Nat}{r:Rp}(h:qY c l d k)(hc:gf c=true)(hr:jx d=some r)(ha:dc d r=none) : cv c=(cZ,[],cZ)/\nw c=false:=by
 have h1:=(AK h.ok hr).1;have hle:=h.le
 obtain ⟨k',rfl⟩ : ∃ k',k=k'+1:=⟨k-1,by omega⟩
 have e:qt (ic c.gs) c=none:=by rw [h.run,IJ hr ha];rfl
 unfold cv nw
 rw [Q4 hc,e,hc]
 exact ⟨O,O⟩
theorem qY.b{c d:Cx}{l:List Sr}{k:Nat}(h:qY c l d k)(hc:gf c=true) : l.length<=400/\d.gs.length<=400/\(l.length=400->ic d.gs=0):=by
 have h1:=h.len;have h2:=xS c.gs;have h3:=AJ hc;have h4:=AJ h.ok;exact ⟨by omega,by omega,fun _=>by omega⟩
theorem IF{c:Cx}(hc:gf c=false) : cv c=(cZ,[],cZ)/\nw c=false:=by
 unfold cv nw
 rw [Q3 (by rw [hc];decide),hc]
 exact ⟨O,O⟩
theorem Fh:∀ (k:Nat) (c:Cx) (x:List Rp×Cx),gf c=true->qt k c=some x->gf x.2=true/\x.1.length<=k/\∀ r ∈ x.1,r.old.length<=40/\r.new.length<=40
 | 0,c,x,hc,h=>by
  unfold qt at h
  injection h with h
  subst h
  exact ⟨hc,Qb _,fun r hr=>by cases hr⟩
 | k+1,c,x,hc,h=>by
  cases e:jx c with
  | none=>
   rw [Hr e] at h
   injection h with h
   subst h
   exact ⟨hc,Qf _,fun r hr=>by cases hr⟩
  | some r=>
   cases ea:dc c r with
   | none=>rw [IJ e ea] at h;cases h
   | some d=>
    rw [Ep e ea] at h
    cases ek:qt k d with
    | none=>rw [ek] at h;cases h
    | some y=>
     rw [ek,Option.map_some] at h
     injection h with h
     subst h
     obtain ⟨i1,i2,i3⟩:=Fh k d y ((Bh hc).2 d ea).1 ek
     refine ⟨i1,by rw [Qs];omega,fun s hs=>?_⟩
     rcases Qv.1 hs with hs|hs
     ·rw [hs];exact yE e
     ·exact i3 s hs
theorem JC(c:Cx) : (cv c).1.gs.length<=400/\(cv c).2.2.gs.length<=400/\(cv c).2.1.length<=400/\∀ r ∈ (cv c).2.1,r.old.length<=40/\r.new.length<=40:=by
 unfold cv
 split
 ·rename_i hc
  have hl:=AJ hc
  cases hp:qt (ic c.gs) c with
  | none=>exact ⟨Qf _,Qf _,Qf _,fun r hr=>by cases hr⟩
  | some x=>
   obtain ⟨h1,h2,h3⟩:=Fh _ c x hc hp
   have:=xS c.gs
   have:=AJ h1
   exact ⟨by dsimp only;omega,by dsimp only;omega,by dsimp only;omega,h3⟩
 ·exact ⟨Qf _,Qf _,Qf _,fun r hr=>by cases hr⟩
theorem GQ{c:Cx}{l:List Sr}(h:l.map Sr.rp=(cv c).2.1) : l.length<=400/\∀ s ∈ l,s.old.length<=40/\s.new.length<=40:=by
 obtain ⟨_,_,h3,h4⟩:=JC c
 rw [<- h] at h3 h4
 exact ⟨by simpa using h3,fun s hs=>h4 s.rp (List.mem_map_of_mem hs)⟩
theorem Hx{c:Cx}{k:Nat}{u:Gt}(hu:c.gs[k]? = some u)(h:¬ (bv u).length=1) : rc c k=none:=by
 unfold rc
 rw [Qa,hu]
 exact Q3 h
theorem Uh{c:Cx}{k:Nat}{u:Gt}(hu:c.gs[k]? = some u)(h:u.k=12∨bq u.k 9 11=true) : rc c k=none:=by
 refine Hx hu ?_
 unfold bv
 rcases h with h|h
 ·rw [Q4 h];exact (nomatch ·)
 ·split
  ·exact (nomatch ·)
  ·intro h9;revert h9;simp [h]
structure qn (c:Cx) (k:Nat) (q:Int) (rr:List Int) : Prop where
 rl:rr=du c (k:Int) [q]
 rB:ib c (k:Int) [q]=true
 rP:dx c (k:Int) [q]=some rr
 rX:nm c (k:Int) [q]=some rr
 r6:rr.length<=6
 gl:(fr c rr).length=rr.length
 rng:∀ i ∈ rr,∃ j:Nat,i=(j:Int)/\j<c.gs.length
 gd:∀ g ∈ fr c rr,oO [q] c.n g/\i_ g [q]=true
 inc:sn [q]
 qb:∀ x ∈ [q],0<=x/\x<=4
 x9:(⟨1,av (fr c rr) (jc [q])⟩ : Cx)=xC c rr [q]
 tc:ic (xC c rr [q]).gs=ic (fr c rr)
 ot:rc c k=wV c k q
theorem GU{c:Cx}(hc:gf c=true){k:Nat}{u:Gt}(hu:c.gs[k]? = some u)(h1:(bv u).length=1) : ∃ rr,qn c k u.a rr:=by
 obtain ⟨hb,hq,hd⟩:=I6 hc hu h1;obtain ⟨_,hi,hqb⟩:=Ea hc hb
 refine ⟨du c k [u.a],O,hb,CQ (by rw [hc,hb];rfl),Dh hb,xV ..,zg ..,fun i hi=>?_,DN hc hb,hi,hqb,?_,Jz ..,?_⟩
 ·obtain ⟨j,h1,h2,_⟩:=xO hb i hi;exact ⟨j,h1,h2⟩
 ·unfold xC
  rw [(JK hc hb).2.1]
  rfl
 ·unfold rc
  rw [hd,Q4 h1]
theorem J0{c:Cx} : ∀ g ∈ ((oR c).getD cZ).gs,(g.k≠12->0<=g.a/\g.a<((1:Nat) : Int))/\(bq g.k 9 11=true->0<=g.b/\g.b<((1:Nat) : Int)):=by
 unfold oR
 split
 ·rename_i h
  simp only [Qd] at h
  have hA:=zp h.2;intro g hg;have h9:=(n' (Dw hA.k hA.l hA.p)).2.2 g hg;obtain ⟨_,_,h3,h4⟩:=qe h9;exact ⟨h3,fun h8=>⟨(h4 (iw.1 h8)).1,(h4 (iw.1 h8)).2.1⟩⟩
 ·intro g hg
  cases hg
theorem Gl{c:Cx}{k:Nat}{q:Int}{rr:List Int}(h:qn c k q rr){y:Option Cx}(hy:y=oR (xC c rr [q])){a b:Int}(ha:a=((ic (y.getD cZ).gs:Nat) : Int))(hb:b=((ic (fr c rr) : Nat) : Int))(h9:(!y.isSome||decide (b<=a))=true) : rc c k=none:=by
 rw [h.ot]
 unfold wV
 rw [<- h.rl,<- hy]
 cases y with
 | none=>rfl
 | some x=>
  subst ha
  subst hb
  have h8:((ic (fr c rr) : Nat) : Int)<=((ic x.gs:Nat) : Int):=by simpa using h9
  exact Q3 O0
theorem Ir{c:Cx}{k:Nat}{q:Int}{rr:List Int}(h:qn c k q rr){y:Option Cx}(hy:y=oR (xC c rr [q])){a b:Int}(ha:a=((ic (y.getD cZ).gs:Nat) : Int))(hb:b=((ic (fr c rr) : Nat) : Int))(h9:(!y.isSome||decide (b<=a))=false) : rc c k=ay c (k:Int) rr [q] (av (y.getD cZ).gs [q]):=by
 rw [h.ot]
 unfold wV
 rw [<- h.rl,<- hy]
 cases y with
 | none=>cases h9
 | some x=>
  subst ha
  subst hb
  have h8:((ic x.gs:Nat) : Int)<((ic (fr c rr) : Nat) : Int):=by simpa using h9
  exact Q4 O0
theorem run_bind{c:Cx}{k:Nat}{q:Int}{rr:List Int}(h:qn c k q rr)(ws:List Gt) : ((dx c (k:Int) [q]).bind fun run=>ay c (k:Int) run [q] ws)=ay c (k:Int) rr [q] ws:=by
 rw [h.rP]
 rfl
end Go.Proofs.YtkhbopcihjobdaaGreatDoor
namespace Go.Proofs.YtkhbopcihjobdaaGreatDoor
open Go.Proofs.Tryz
open Go.RowKit Go.Proofs.Tryz
theorem Rx(w0:World)(c:Cx)(Ac:Option Addr)(cc:Nat)(f:Rw w0 52 ab Ac c.gs)(Q:c.gs.length<=cc)(bU:gf c=true)(eR:ij w0) : RE 19 [.agg #[vi c.n,.slice Ac c.gs.length cc]] w0 (fun v w=>∃ A9 e9 B9 f9,v=.tuple #[.agg #[vi ((jx c).getD df).pos,.slice A9 ((jx c).getD df).old.length e9,.slice B9 ((jx c).getD df).new.length f9],.bool (jx c).isSome]/\ah w w0.heap.size 52 3 ab A9 e9 ((jx c).getD df).old/\ah w w0.heap.size 52 3 ab B9 f9 ((jx c).getD df).new/\a_ A9 B9/\Bl w0 w):=by
 obtain ⟨eS,fK,fL⟩:=n' bU;refine enter func19 O 77 O O ?_;intro a x
 have o:=bz w0
 refine ZS x fun eT=>?_;refine Zf (bt (zs:=[vi c.n,.slice Ac c.gs.length cc]) O O) ?_;rintro _ w1 ⟨b3,rfl,eU,e,q⟩;have fH:=Q0 o.size eU;have f:=f.bw e;have o:=aa o e;refine Zf (Xi (zs:=[vi 0,.slice none 0 0,.slice none 0 0]) px O) ?_;rintro _ w2 ⟨b6,rfl,eV,e,m⟩;have bW:=Q0 o.size eV;have q:=q.bw e;have f:=f.bw e;have o:=aa o e;refine Za O<|ZX eT fun a x _ eW=>?_;refine ZS x fun eX=>?_;refine Ze (Vd O is 1)<|Ze (X0 O gj (q.at 1))<|Ze (fh O Xp)<|Zm O<|Zt eX fun a x=>?_;refine Q8<|Xw (σ:=Nat) (fun (k:Nat) (a:Act) (w:World)=>Fr a 77 [(1,(ae b3)),(2,(ae b6)),(15,.slice Ac c.gs.length cc),(16,vi (c.gs.length:Int)),(17,vi (k:Int))]/\(k<=c.gs.length)/\(u_ c k)/\al w b3 28 [vi c.n,.slice Ac c.gs.length cc]/\al w b6 56 [vi 0,.slice none 0 0,.slice none 0 0]/\Rd w w0.heap.size 52 ab Ac c.gs/\c.gs.length<=cc/\Bl w0 w) (fun (k:Nat)=>c.gs.length-k) 0 ?_ ?_
 ·exact ⟨x.sb,(Qf _),O,q,m,f,Q,o⟩
 rintro k a w3 ⟨x,hk,hS,q,m,f,Q,o⟩;refine ZS x fun eY=>?_;refine Ze (ew O O)<|ZX eY fun a x _ dJ=>?_
 refine eh x O (fun C dK=>?_) (fun C dK=>?_)
 ·obtain ⟨d,aS⟩:=Xe (l:=c.gs) (k:=k) O0
  refine Q7<|dJ _ _<|Q5 fun _ aT=>?_;refine Q8<|ZS x fun dL=>?_;refine Zm O<|Zi (k:=k) (u:=d) (enc:=ab) (l:=c.gs) ad O O Xp ji Xl f aS O ?_;intro fM cC;refine Ze (Xt (l:=[vi d.k,vi d.a,vi d.b]) O jd cC O)<|Zf (Xi (zs:=[vi 0,vi 0,vi 0]) ql O) ?_;rintro _ w4 ⟨eZ,rfl,dM,e,U⟩;have aU:=Q0 o.size dM;have q:=q.bw e;have m:=m.bw e;have f:=f.bw e;have o:=aa o e;refine Za O<|Zo (Vw [vi d.k,vi d.a,vi d.b] ji U) ?_;rintro _ w5 ⟨ho,hb⟩;have q:=q.oz ho U O;have m:=m.oz ho U O;have f:=f.oy ho aU;have o:=Below.oy o ho aU;have U:=hb;refine ZX dL fun a x _ dN=>?_;refine Q5 fun _ dP=>?_;refine eo (fun a w=>Fr a 77 [(1,(ae b3)),(2,(ae b6)),(4,vi (k:Int)),(5,(ae eZ)),(15,.slice Ac c.gs.length cc),(16,vi (c.gs.length:Int)),(17,vi (k:Int)),(29,.bool ((d.k==12)||(bq d.k 9 11)))]/\w5=w) ?_ ?_
  ·refine Zr x<|Ze (Vd O mo 0)<|Ze (X0 O X8 (U.at 0))<|Ze (go O O)<|Zm O ?_
   refine Zg 25 O ?_ ?_<;>intro B
   ·(iterate 3 refine Zp (gP B) ?_);refine Ze (Xh O B O) ?_;refine Zn fun a x=>?_;exact ⟨x.sub ⟨O,O,O,O,O,O,O,X1 O (by first|rfl|(simp only [C,B,bs];done)|simp [C,B]),trivial⟩,O⟩
   refine Zv (gW B) (Vd O mo 0) ?_;refine Zv (gW B) (X0 O X8 (U.at 0)) ?_;refine Zk (gW B) (Vc (vH _ d.k) wC) ?_;rintro _ _ ⟨rfl,rfl⟩;refine Ze (X9 O B O) ?_;refine Zn fun a x=>?_;exact ⟨x.sub ⟨O,O,O,O,O,O,O,X1 O (by first|rfl|(simp only [C,B,bs];done)|simp [C,B]),trivial⟩,O⟩
  rintro a _ ⟨x,rfl⟩;refine dP _ _ ?_
  refine Xz x O ?_ ?_<;>intro W
  ·have aW:=Uh aS (by simpa using W)
   refine Q9<|Xf<|Xv<|aT _ _ ?_;refine Zr x<|Ze (Xs O O O0 O0)<|Zm O ?_;refine Zn fun a x=>?_;refine Xb ?_;exact ⟨k+1,⟨x.sb,O0,(wk hS aW),q,m,f,Q,o⟩,O0⟩
  obtain ⟨dQ,f7⟩ : ¬ d.k=12/\bq d.k 9 11=false:=by simpa using W
  have h1:(bv d).length=1:=by rw [xk dQ f7];rfl
  obtain ⟨rr,hO⟩:=GU bU aS h1;have fN:=hO.rl;have fO:=hO.rB;have f8:=hO.rP;have fP:=hO.rX;have fI:=hO.r6;have fJ:=hO.gl;have dR:=hO.rng;have fA:=hO.gd;have fQ:=hO.inc;have fB:=hO.qb
  obtain ⟨yy,aX⟩ : ∃ yy,yy=oR (xC c rr [d.a]):=⟨_,O⟩
  have dS:∀ g ∈ (yy.getD cZ).gs,(g.k≠12->0<=g.a/\g.a<((1:Nat) : Int))/\(bq g.k 9 11=true->0<=g.b/\g.b<((1:Nat) : Int)):=by rw [aX];exact J0
  have aY:(yy.getD cZ).gs.length<=400:=by rw [aX];exact IB _
  have dT:=PI (fun g hg=>(fA g hg).1) eS.2
  refine Q7<|dN _ _<|ZS x fun dU=>?_;refine Ze (Vd O lm 1)<|Ze (X0 O X8 (U.at 1))<|Zf (X6 (k:=1) (vs:=[vi d.a]) (zs:=[vi d.a]) O gq pD O O) ?_;rintro _ w6 ⟨aI,rfl,dW,e,i⟩;have fC:=Q0 o.size dW;have q:=q.bw e;have m:=m.bw e;have f:=f.bw e;have o:=aa o e;refine Za O<|Zx dU fun a x _ dX=>?_;refine Ze (Vn g_ q)<|Zm O<|Zm O<|Zf (ki (vs:=[.agg #[vi c.n,.slice Ac c.gs.length cc],vi (k:Int),.slice (some ⟨aI,0,none⟩) ([d.a]).length 1]) O I0 (by have hq:=I8 w6 c Ac cc f.top (k:Int) (some ⟨aI,0,none⟩) 1 ([d.a]) (Rd.of_blk i rfl _ i.lt) O0 O6;rw [f8] at hq;exact hq)) ?_;rintro _ w7 ⟨cD,cE,rfl,aO,e⟩;have cX:=aO.awayNew i.lt;have aO:=aO.lower o.size;have q:=q.bw e;have m:=m.bw e;have i:=i.bw e;have f:=f.bw e;have o:=aa o e;refine Zm O<|Ze (X2 (vs:=[.slice cD rr.length cE,.bool true]) O O)<|Ze (X2 (vs:=[.slice cD rr.length cE,.bool true]) O O)<|Za O<|Za O<|Zx dX fun a x _ dY=>?_;refine Ze (Vn g_ q)<|Zm O<|Zf (Vc (NS _ c Ac cc f.top cD cE rr aO.rd.top O0 dR) Ln) ?_;rintro _ w8 ⟨eA,eB,rfl,A,e⟩;have A:=A.lower o.size;have q:=q.bw e;have m:=m.bw e;have i:=i.bw e;have f:=f.bw e;have o:=aa o e;refine Za O<|Zx dY fun a x _ eC=>?_;refine Zm O<|Zm O<|Zf (Vc (V2 _ (some ⟨aI,0,none⟩) 1 ([d.a]) (Rd.of_blk i O _ i.lt) fB O6) Ru) ?_;rintro _ w9 ⟨fD,fE,rfl,aP,e⟩;have d5:=aP.awayNew i.lt;have aP:=aP.lower o.size;have q:=q.bw e
  have m:=m.bw e;have i:=i.bw e;have f:=f.bw e;have A:=A.bw e;have o:=aa o e;refine Zf (Vc (C8 _ eA eB (fr c rr) A.rd.top fD fE (jc ([d.a])) aP.rd.top 5 dT (BD _) O0) D4) ?_;rintro _ fF ⟨bG,bH,rfl,aJ,e⟩;have d6:=A.apart aJ (Qb _);have aJ:=aJ.lower o.size;have q:=q.bw e;have m:=m.bw e;have i:=i.bw e;have f:=f.bw e;have A:=A.bw e;have o:=aa o e;refine Ze (Xg (ps:=[(0,vi 1),(1,.slice bG (av (fr c rr) (jc ([d.a]))).length bH)]) (cs:=[vi 1,.slice bG (av (fr c rr) (jc ([d.a]))).length bH]) O (fun _=>by first|rfl|kernel_rfl))<|Zf (ki (vs:=[.agg #[vi 1,.slice bG (av (fr c rr) (jc ([d.a]))).length bH]]) O Rn (by have hq:=L3 fF (⟨1,(av (fr c rr) (jc ([d.a])))⟩ : Cx) bG bH aJ.rd.top (by show (av (fr c rr) _).length<=_;unfold av;rw [Qo];omega) (eR.of o);rw [show oR (⟨1,av (fr c rr) (jc [d.a])⟩ : Cx)=yy from by rw [hO.x9,aX]] at hq;exact hq)) ?_;rintro _ fR ⟨aQ,aR,rfl,p,e⟩;have d7:=A.apart p (Qb _);have d8:=aJ.apart p (Qb _);have p:=p.lower o.size;have q:=q.bw e;have m:=m.bw e;have i:=i.bw e;have f:=f.bw e;have A:=A.bw e;have o:=aa o e;refine Zm O<|Ze (X2 (vs:=[.agg #[vi ((yy.getD cZ).n),.slice aQ ((yy.getD cZ).gs).length aR],.bool yy.isSome]) O O)<|Ze (X2 (vs:=[.agg #[vi ((yy.getD cZ).n),.slice aQ ((yy.getD cZ).gs).length aR],.bool yy.isSome]) O O) ?_;refine ZB [vi ((yy.getD cZ).n),.slice aQ ((yy.getD cZ).gs).length aR] oN mc fun b35 w13 eD e aD=>?_
  have eE:b3≠b35:=by have:=q.lt;omega
  have fG:=Q0 o.size eD;have q:=q.bw e;have m:=m.bw e;have i:=i.bw e;have f:=f.bw e;have A:=A.bw e;have p:=p.bw e;have o:=aa o e;refine Za O<|ZX eC fun a x _ eF=>?_;refine Q5 fun _ eH=>?_;refine eo (fun a w=>Fr a 77 [(1,(ae b3)),(2,(ae b6)),(4,vi (k:Int)),(6,.slice (some ⟨aI,0,none⟩) ([d.a]).length 1),(10,(ae b35)),(15,.slice Ac c.gs.length cc),(16,vi (c.gs.length:Int)),(17,vi (k:Int)),(61,.bool ((!yy.isSome)||(decide (((ic (fr c rr) : Nat) : Int)<=((ic ((yy.getD cZ).gs) : Nat) : Int)))))]/\Bl w13 w) ?_ ?_
  ·have t:Bl w13 w13:=Below.refl _ _
   refine Zr x<|Zm O<|Ze (dn O)<|Zm O ?_
   refine Zg 54 O ?_ ?_<;>intro y
   ·(iterate 6 refine Zp (gP y) ?_);refine Ze (Xh O y O) ?_;refine Zn fun a x=>?_;exact ⟨x.sub ⟨O,O,O,O,O,O,O,O,X1 O (by first|rfl|(simp only [C,W,y,bs];done)|simp [C,W,y]),trivial⟩,t⟩
   refine Zv (gW y) (Vd O is 1) ?_;refine Zv (gW y) (X0 O gj (aD.at 1)) ?_;refine Zk (gW y) (Vc (GK _ aQ aR ((yy.getD cZ).gs) p.rd.top (Q0 aY O2)) I1) ?_;rintro _ fS ⟨rfl,e⟩;have A:=A.bw e;have o:=aa o e;have t:=aa t e;refine Zv (gW y) (X7 O) ?_;refine Zk (gW y) (Vc (GK _ eA eB (fr c rr) A.rd.top O0) I1) ?_;rintro _ fT ⟨rfl,e⟩;have o:=aa o e;have t:=aa t e;refine Zv (gW y) (r0 O O) ?_;refine Ze (X9 O y O) ?_;refine Zn fun a x=>?_;exact ⟨x.sub ⟨O,O,O,O,O,O,O,O,X1 O (by first|rfl|(simp only [C,W,y,bs];done)|simp [C,W,y]),trivial⟩,t⟩
  rintro a w16 ⟨x,e⟩;have q:=q.bw e;have m:=m.bw e;have i:=i.bw e;have aD:=aD.bw e;have f:=f.bw e;have p:=p.bw e;have o:=aa o e;refine eH _ _ ?_
  refine Xz x O ?_ ?_<;>intro aZ
  ·have aW:=Gl hO aX O O aZ;refine Q9<|Xf<|Xv<|aT _ _ ?_;refine Zr x<|Ze (Xs O O O0 O0)<|Zm O ?_;refine Zn fun a x=>?_;refine Xb ?_;exact ⟨k+1,⟨x.sb,O0,(wk hS aW),q,m,f,Q,o⟩,O0⟩
  have bI:=Ir hO aX O O aZ
  rw [<- run_bind hO] at bI
  refine Q7<|eF _ _<|Q5 fun _ eI=>?_;refine eo (fun a w=>∃ E G M H N,Fr a 77 [(1,(ae b3)),(2,(ae b6)),(12,(ae E)),(13,.bool (((dx c (k:Int) ([d.a])).bind fun run=>ay c (k:Int) run ([d.a]) (av ((yy.getD cZ).gs) ([d.a]))).isSome)),(15,.slice Ac c.gs.length cc),(16,vi (c.gs.length:Int)),(17,vi (k:Int))]/\w0.heap.size<=E/\al w E 56 [vi ((((dx c (k:Int) ([d.a])).bind fun run=>ay c (k:Int) run ([d.a]) (av ((yy.getD cZ).gs) ([d.a]))).getD df).pos),.slice G ((((dx c (k:Int) ([d.a])).bind fun run=>ay c (k:Int) run ([d.a]) (av ((yy.getD cZ).gs) ([d.a]))).getD df).old).length M,.slice H ((((dx c (k:Int) ([d.a])).bind fun run=>ay c (k:Int) run ([d.a]) (av ((yy.getD cZ).gs) ([d.a]))).getD df).new).length N]/\b6≠E/\ah w w0.heap.size 52 3 ab G M ((((dx c (k:Int) ([d.a])).bind fun run=>ay c (k:Int) run ([d.a]) (av ((yy.getD cZ).gs) ([d.a]))).getD df).old)/\ah w w0.heap.size 52 3 ab H N ((((dx c (k:Int) ([d.a])).bind fun run=>ay c (k:Int) run ([d.a]) (av ((yy.getD cZ).gs) ([d.a]))).getD df).new)/\a_ G H/\Bl w16 w) ?_ ?_
  ·have t:Bl w16 w16:=Below.refl _ _
   refine gx none (fun j=>[12].contains j) mixed ?_;intro w17 e;have q:=q.bw e;have m:=m.bw e;have i:=i.bw e;have aD:=aD.bw e;have f:=f.bw e;have p:=p.bw e;have o:=aa o e;have t:=aa t e;refine Yb x<|Ye 0 O (Vn g_ q)<|Yo 1 O (fun _=>X7 O)<|Yo 2 O (fun _=>X7 O)<|Yo 3 O (fun _=>Vd O is 1)<|Ye 4 O (X0 O gj (aD.at 1))<|Yo 5 O (fun _=>X7 O) ?_
   have z:Bl w17 w17:=Below.refl _ _
   refine Yc [0,1,2,3,4,5,6,7,8,9,10,11] 2 (fun a w=>∃ E G M H N,Fr a 77 [(1,(ae b3)),(2,(ae b6)),(12,(ae E)),(15,.slice Ac c.gs.length cc),(16,vi (c.gs.length:Int)),(17,vi (k:Int)),(71,.agg #[vi ((((dx c (k:Int) ([d.a])).bind fun run=>ay c (k:Int) run ([d.a]) (av ((yy.getD cZ).gs) ([d.a]))).getD df).pos),.slice G ((((dx c (k:Int) ([d.a])).bind fun run=>ay c (k:Int) run ([d.a]) (av ((yy.getD cZ).gs) ([d.a]))).getD df).old).length M,.slice H ((((dx c (k:Int) ([d.a])).bind fun run=>ay c (k:Int) run ([d.a]) (av ((yy.getD cZ).gs) ([d.a]))).getD df).new).length N]),(72,.bool (((dx c (k:Int) ([d.a])).bind fun run=>ay c (k:Int) run ([d.a]) (av ((yy.getD cZ).gs) ([d.a]))).isSome))]/\w0.heap.size<=E/\al w E 56 [vi 0,.slice none 0 0,.slice none 0 0]/\b6≠E/\w17.heap.size<=E/\w16.heap.size<=E/\ah w w0.heap.size 52 3 ab G M ((((dx c (k:Int) ([d.a])).bind fun run=>ay c (k:Int) run ([d.a]) (av ((yy.getD cZ).gs) ([d.a]))).getD df).old)/\ah w w0.heap.size 52 3 ab H N ((((dx c (k:Int) ([d.a])).bind fun run=>ay c (k:Int) run ([d.a]) (av ((yy.getD cZ).gs) ([d.a]))).getD df).new)/\a_ G H/\Bl w17 w) ?_ ?_
   ·rintro a fU ⟨E,G,M,H,N,x,aN,aA,aK,cF,cG,aB,aC,I,e⟩;clear z;have z:=e;have o:=aa o e;have t:=aa t e;refine Yb x<|Y1 12<|Yh O ad O (Vw [vi ((((dx c (k:Int) ([d.a])).bind fun run=>ay c (k:Int) run ([d.a]) (av ((yy.getD cZ).gs) ([d.a]))).getD df).pos),.slice G ((((dx c (k:Int) ([d.a])).bind fun run=>ay c (k:Int) run ([d.a]) (av ((yy.getD cZ).gs) ([d.a]))).getD df).old).length M,.slice H ((((dx c (k:Int) ([d.a])).bind fun run=>ay c (k:Int) run ([d.a]) (av ((yy.getD cZ).gs) ([d.a]))).getD df).new).length N] ml aA) ?_;rintro _ fV ⟨ho,hb⟩;have aB:=aB.oT ho aA O;have aC:=aC.oT ho aA O;have t:=Below.oy t ho cG;have z:=Below.oy z ho cF;have o:=Below.oy o ho aN;have aA:=hb;refine Yo 13 O (fun _=>kk O) ?_;refine Yd fun a x=>?_;exact ⟨E,G,M,H,N,x.sb,aN,aA,aK,aB,aC,I,t⟩
   intro bZ;refine Yc [0,1,2,3,4,5,6,11] 6 (fun a w=>∃ aL bJ bK,Fr a 77 [(1,(ae b3)),(2,(ae b6)),(12,(ae aL)),(15,.slice Ac c.gs.length cc),(16,vi (c.gs.length:Int)),(17,vi (k:Int)),(63,.agg #[vi c.n,.slice Ac c.gs.length cc]),(64,vi (k:Int)),(65,.slice (some ⟨aI,0,none⟩) ([d.a]).length 1),(69,.slice bJ (av ((yy.getD cZ).gs) ([d.a])).length bK)]/\w0.heap.size<=aL/\al w aL 56 [vi 0,.slice none 0 0,.slice none 0 0]/\b6≠aL/\w17.heap.size<=aL/\w16.heap.size<=aL/\ah w w0.heap.size 52 3 ab bJ bK (av ((yy.getD cZ).gs) ([d.a]))/\Bl w17 w) ?_ ?_
   ·rintro a fW ⟨aL,bJ,bK,x,cH,b0,b1,cI,cJ,b2,e⟩;clear z;have z:=e;have i:=i.bw e;have f:=f.bw e;have p:=p.bw e;have o:=aa o e;have t:=aa t e;refine Yb x<|Y1 7<|Yk O ad (Vc (H4 _ c Ac cc f.top Q (k:Int) (some ⟨aI,0,none⟩) 1 ([d.a]) (Rd.of_blk i O _ i.lt) bJ bK (av ((yy.getD cZ).gs) ([d.a])) b2.rd.top O0 (by unfold av;rw [Qo];exact Q0 aY O2) O6) Hp) (fun _ _ ⟨bL,bM,bN,bO,_,aE,aF,aG,e⟩=>e) ?_;rintro _ fX ⟨bL,bM,bN,bO,rfl,aE,aF,aG,e⟩;have d9:=p.apart aE (Qb _);have dA:=b2.apart aE (Qb _);have aE:=aE.lower o.size;have dB:=p.apart aF (Qb _);have dC:=b2.apart aF (Qb _);have aF:=aF.lower o.size;have b0:=b0.bw e;have o:=aa o e;have t:=aa t e;have z:=aa z e;refine Yo 8 O (fun _=>X7 O)<|Yo 9 O (fun _=>X2 (vs:=[.agg #[vi ((((dx c (k:Int) ([d.a])).bind fun run=>ay c (k:Int) run ([d.a]) (av ((yy.getD cZ).gs) ([d.a]))).getD df).pos),.slice bL ((((dx c (k:Int) ([d.a])).bind fun run=>ay c (k:Int) run ([d.a]) (av ((yy.getD cZ).gs) ([d.a]))).getD df).old).length bM,.slice bN ((((dx c (k:Int) ([d.a])).bind fun run=>ay c (k:Int) run ([d.a]) (av ((yy.getD cZ).gs) ([d.a]))).getD df).new).length bO],.bool (((dx c (k:Int) ([d.a])).bind fun run=>ay c (k:Int) run ([d.a]) (av ((yy.getD cZ).gs) ([d.a]))).isSome)]) O O)<|Yo 10 O (fun _=>X2 (vs:=[.agg #[vi ((((dx c (k:Int) ([d.a])).bind fun run=>ay c (k:Int) run ([d.a]) (av ((yy.getD cZ).gs) ([d.a]))).getD df).pos),.slice bL ((((dx c (k:Int) ([d.a])).bind fun run=>ay c (k:Int) run ([d.a]) (av ((yy.getD cZ).gs) ([d.a]))).getD df).old).length bM,.slice bN ((((dx c (k:Int) ([d.a])).bind fun run=>ay c (k:Int) run ([d.a]) (av ((yy.getD cZ).gs) ([d.a]))).getD df).new).length bO],.bool (((dx c (k:Int) ([d.a])).bind fun run=>ay c (k:Int) run ([d.a]) (av ((yy.getD cZ).gs) ([d.a]))).isSome)]) O O) ?_
    exact fun a x=>bZ _ a _ O ⟨aL,bL,bM,bN,bO,x.sb,cH,b0,b1,cI,cJ,aE,aF,aG,z⟩
   intro cA;refine Y2 6 11 ?_ ?_
   ·refine Yk O ad (Vc (C8 _ aQ aR ((yy.getD cZ).gs) p.rd.top (some ⟨aI,0,none⟩) 1 ([d.a]) (Rd.of_blk i O _ i.lt) 1 dS O (Q0 aY O2)) D4) (fun _ _ ⟨cK,cM,_,D,e⟩=>e) ?_;rintro _ fY ⟨cK,cM,rfl,D,e⟩;have dD:=p.apart D (Qb _);have D:=D.lower o.size;have m:=m.bw e;have i:=i.bw e;have f:=f.bw e;have p:=p.bw e;have o:=aa o e;have t:=aa t e;have z:=aa z e;refine Y2 7 11 ?_ ?_
    ·refine Yk O ad (Vc (H4 _ c Ac cc f.top Q (k:Int) (some ⟨aI,0,none⟩) 1 ([d.a]) (Rd.of_blk i O _ i.lt) cK cM (av ((yy.getD cZ).gs) ([d.a])) D.rd.top O0 (by unfold av;rw [Qo];exact Q0 aY O2) O6) Hp) (fun _ _ ⟨bP,bQ,bR,bS,_,J,L,aH,e⟩=>e) ?_;rintro _ fZ ⟨bP,bQ,bR,bS,rfl,J,L,aH,e⟩;have dE:=p.apart J (Qb _);have dF:=D.apart J (Qb _);have J:=J.lower o.size;have dG:=p.apart L (Qb _);have dH:=D.apart L (Qb _);have L:=L.lower o.size;have m:=m.bw e;have o:=aa o e;have t:=aa t e;have z:=aa z e;refine Yo 8 O (fun _=>X7 O)<|Yo 9 O (fun _=>X2 (vs:=[.agg #[vi ((((dx c (k:Int) ([d.a])).bind fun run=>ay c (k:Int) run ([d.a]) (av ((yy.getD cZ).gs) ([d.a]))).getD df).pos),.slice bP ((((dx c (k:Int) ([d.a])).bind fun run=>ay c (k:Int) run ([d.a]) (av ((yy.getD cZ).gs) ([d.a]))).getD df).old).length bQ,.slice bR ((((dx c (k:Int) ([d.a])).bind fun run=>ay c (k:Int) run ([d.a]) (av ((yy.getD cZ).gs) ([d.a]))).getD df).new).length bS],.bool (((dx c (k:Int) ([d.a])).bind fun run=>ay c (k:Int) run ([d.a]) (av ((yy.getD cZ).gs) ([d.a]))).isSome)]) O O)<|Yo 10 O (fun _=>X2 (vs:=[.agg #[vi ((((dx c (k:Int) ([d.a])).bind fun run=>ay c (k:Int) run ([d.a]) (av ((yy.getD cZ).gs) ([d.a]))).getD df).pos),.slice bP ((((dx c (k:Int) ([d.a])).bind fun run=>ay c (k:Int) run ([d.a]) (av ((yy.getD cZ).gs) ([d.a]))).getD df).old).length bQ,.slice bR ((((dx c (k:Int) ([d.a])).bind fun run=>ay c (k:Int) run ([d.a]) (av ((yy.getD cZ).gs) ([d.a]))).getD df).new).length bS],.bool (((dx c (k:Int) ([d.a])).bind fun run=>ay c (k:Int) run ([d.a]) (av ((yy.getD cZ).gs) ([d.a]))).isSome)]) O O)<|Y1 11 ?_
     refine Yk O ad (Xi (zs:=[vi 0,.slice none 0 0,.slice none 0 0]) px O) (fun _ _ ⟨_,_,_,h,_⟩=>h) ?_;rintro _ g7 ⟨b52,rfl,b4,e,eJ⟩
     have b5:b6≠b52:=by have:=m.lt;omega
     have cO:=Q0 o.size b4;have cP:=Q0 t.size b4;have cQ:=Q0 z.size b4;have J:=J.bw e;have L:=L.bw e;have o:=aa o e;have t:=aa t e;have z:=aa z e;exact fun a x=>bZ _ a _ O ⟨b52,bP,bQ,bR,bS,x.sb,cO,eJ,b5,cQ,cP,J,L,aH,z⟩
    refine Yk O ad (Xi (zs:=[vi 0,.slice none 0 0,.slice none 0 0]) px O) (fun _ _ ⟨_,_,_,h,_⟩=>h) ?_;rintro _ g8 ⟨b55,rfl,b7,e,eK⟩
    have b8:b6≠b55:=by have:=m.lt;omega
    have cR:=Q0 o.size b7;have cS:=Q0 t.size b7;have cT:=Q0 z.size b7;have D:=D.bw e;have o:=aa o e;have t:=aa t e;have z:=aa z e;exact fun a x=>cA _ a _ O ⟨b55,cK,cM,x.sb,cR,eK,b8,cT,cS,D,z⟩
   refine Yk O ad (Xi (zs:=[vi 0,.slice none 0 0,.slice none 0 0]) px O) (fun _ _ ⟨_,_,_,h,_⟩=>h) ?_;rintro _ gA ⟨b58,rfl,b9,e,bC⟩
   have bD:b6≠b58:=by have:=m.lt;omega
   have cU:=Q0 o.size b9;have cV:=Q0 t.size b9;have cW:=Q0 z.size b9;have i:=i.bw e;have p:=p.bw e;have o:=aa o e;have t:=aa t e;have z:=aa z e;refine Y1 6<|Yk O ad (Vc (C8 _ aQ aR ((yy.getD cZ).gs) p.rd.top (some ⟨aI,0,none⟩) 1 ([d.a]) (Rd.of_blk i O _ i.lt) 1 dS O (Q0 aY O2)) D4) (fun _ _ ⟨eL,eM,_,aM,e⟩=>e) ?_;rintro _ gB ⟨eL,eM,rfl,aM,e⟩;have dI:=p.apart aM (Qb _);have aM:=aM.lower o.size;have bC:=bC.bw e;have o:=aa o e;have t:=aa t e;have z:=aa z e;exact fun a x=>cA _ a _ O ⟨b58,eL,eM,x.sb,cU,bC,bD,cW,cV,aM,z⟩
  rintro a gC ⟨E,G,M,H,N,x,aN,aA,aK,aB,aC,I,e⟩;have q:=q.bw e;have m:=m.bw e;have f:=f.bw e;have o:=aa o e;refine eI _ _<|ZS x fun eO=>?_;refine Zm O<|Zt eO fun a x=>?_
  refine Xz x O ?_ ?_<;>intro bE
  ·have cB:((dx c (k:Int) [d.a]).bind fun run=>ay c (k:Int) run [d.a] (av (yy.getD cZ).gs [d.a])).isSome=true:=bE
   have bF:=(FP hS O0 (by rw [bI];exact cB)).trans bI
   refine ZS x fun eP=>?_;refine Ze (Vn mt aA)<|Zo (Vw [vi ((((dx c (k:Int) ([d.a])).bind fun run=>ay c (k:Int) run ([d.a]) (av ((yy.getD cZ).gs) ([d.a]))).getD df).pos),.slice G ((((dx c (k:Int) ([d.a])).bind fun run=>ay c (k:Int) run ([d.a]) (av ((yy.getD cZ).gs) ([d.a]))).getD df).old).length M,.slice H ((((dx c (k:Int) ([d.a])).bind fun run=>ay c (k:Int) run ([d.a]) (av ((yy.getD cZ).gs) ([d.a]))).getD df).new).length N] ml m) ?_;rintro _ gD ⟨ho,hb⟩;have aB:=aB.oT ho m O;have aC:=aC.oT ho m O;have o:=Below.oy o ho bW;have m:=hb;refine Za O<|Zt eP fun a x=>?_;refine Q6<|Xn<|X3<|X3 ?_;refine Xn<|X3<|X4 x (dj x O (an.cellN (l:=[vi ((((dx c (k:Int) ([d.a])).bind fun run=>ay c (k:Int) run ([d.a]) (av ((yy.getD cZ).gs) ([d.a]))).getD df).pos),.slice G ((((dx c (k:Int) ([d.a])).bind fun run=>ay c (k:Int) run ([d.a]) (av ((yy.getD cZ).gs) ([d.a]))).getD df).old).length M,.slice H ((((dx c (k:Int) ([d.a])).bind fun run=>ay c (k:Int) run ([d.a]) (av ((yy.getD cZ).gs) ([d.a]))).getD df).new).length N]) O mt (m.at 0) O) O) ?_
   rw [bF,cB]
   exact ⟨G,M,H,N,O,aB,aC,I,o⟩
  have aW:rc c k=none:=by rw [bI];have h9:((dx c (k:Int) [d.a]).bind fun run=>ay c (k:Int) run [d.a] (av (yy.getD cZ).gs [d.a])).isSome=false:=bE;revert h9;cases ((dx c (k:Int) [d.a]).bind fun run=>ay c (k:Int) run [d.a] (av (yy.getD cZ).gs [d.a]))<;>simp
  refine Q7<|Xk<|aT _ _<|Zr x ?_;refine Ze (Xs O O O0 O0)<|Zm O ?_;refine Zn fun a x=>?_;refine Xb ?_;exact ⟨k+1,⟨x.sb,O0,(wk hS aW),q,m,f,Q,o⟩,O0⟩
 have bF:=Hc hS O0
 refine Q9<|Xf<|Xf<|Xv ?_;refine eW _ _<|ZS x fun eQ=>?_;refine Ze (Xg (ps:=[]) (cs:=[vi 0,.slice none 0 0,.slice none 0 0]) O (fun _=>by first|rfl|kernel_rfl))<|Zo (Vw [vi 0,.slice none 0 0,.slice none 0 0] ml m) ?_;rintro _ gE ⟨ho,hb⟩;have o:=Below.oy o ho bW;have m:=hb;refine Za O<|Zt eQ fun a x=>?_
 refine Q6 (X4 x (dj x O (an.cellN (l:=[vi 0,.slice none 0 0,.slice none 0 0]) O mt (m.at 0) O) O) ?_)
 rw [bF]
 exact ⟨none,0,none,0,O,(ah.nil _ _ _ _ _),(ah.nil _ _ _ _ _),(a_.none_l _),o⟩
theorem Ut(w0:World)(c:Cx)(Ac:Option Addr)(cc:Nat)(f:Rw w0 52 ab Ac c.gs)(W:c.gs.length<=cc)(aF:gf c=true) : RE 30 [.agg #[vi c.n,.slice Ac c.gs.length cc]] w0 (fun v w=>∃ A9 e9 B9 f9,v=.tuple #[.agg #[vi ((jx c).getD df).pos,.slice A9 ((jx c).getD df).old.length e9,.slice B9 ((jx c).getD df).new.length f9],.bool (jx c).isSome]/\ah w w0.heap.size 52 3 ab A9 e9 ((jx c).getD df).old/\ah w w0.heap.size 52 3 ab B9 f9 ((jx c).getD df).new/\a_ A9 B9/\Bl w0 w):=by
 obtain ⟨fC,fD,fE⟩:=n' aF;refine enter func30 O 71 O O ?_;intro a z
 have o:=bz w0
 refine ZS z fun eO=>?_;refine Zf (bt (zs:=[vi c.n,.slice Ac c.gs.length cc]) O O) ?_;rintro _ w1 ⟨b3,rfl,eP,e,q⟩;have f8:=Q0 o.size eP;have f:=f.bw e;have o:=aa o e;refine Zf (Xi (zs:=[vi 0,.slice none 0 0,.slice none 0 0]) px O) ?_;rintro _ w2 ⟨b6,rfl,eQ,e,m⟩;have bU:=Q0 o.size eQ;have q:=q.bw e;have f:=f.bw e;have o:=aa o e;refine Za O<|ZX eO fun a z _ eR=>?_;refine ZS z fun eS=>?_;refine Ze (Vd O is 1)<|Ze (X0 O gj (q.at 1))<|Ze (fh O Xp)<|Zm O<|Zt eS fun a z=>?_;refine Q8<|Xw (σ:=Nat) (fun (k:Nat) (a:Act) (w:World)=>Fr a 71 [(1,(ae b3)),(2,(ae b6)),(15,.slice Ac c.gs.length cc),(16,vi (c.gs.length:Int)),(17,vi (k:Int))]/\(k<=c.gs.length)/\(u_ c k)/\al w b3 28 [vi c.n,.slice Ac c.gs.length cc]/\al w b6 56 [vi 0,.slice none 0 0,.slice none 0 0]/\Rd w w0.heap.size 52 ab Ac c.gs/\c.gs.length<=cc/\Bl w0 w) (fun (k:Nat)=>c.gs.length-k) 0 ?_ ?_
 ·exact ⟨z.sb,(Qf _),O,q,m,f,W,o⟩
 rintro k a w3 ⟨z,hk,hS,q,m,f,W,o⟩;refine ZS z fun eT=>?_;refine Ze (ew O O)<|ZX eT fun a z _ dG=>?_
 refine eh z O (fun aA dH=>?_) (fun aA dH=>?_)
 ·obtain ⟨d,aT⟩:=Xe (l:=c.gs) (k:=k) O0
  refine Q7<|dG _ _<|Q5 fun _ aU=>?_;refine Q8<|ZS z fun dI=>?_;refine Zm O<|Zi (k:=k) (u:=d) (enc:=ab) (l:=c.gs) ad O O Xp ji Xl f aT O ?_;intro fF cC;refine Ze (Xt (l:=[vi d.k,vi d.a,vi d.b]) O jd cC O)<|Zf (Xi (zs:=[vi 0,vi 0,vi 0]) ql O) ?_;rintro _ w4 ⟨fG,rfl,dJ,e,J⟩;have aW:=Q0 o.size dJ;have q:=q.bw e;have m:=m.bw e;have f:=f.bw e;have o:=aa o e;refine Za O<|Zo (Vw [vi d.k,vi d.a,vi d.b] ji J) ?_;rintro _ w5 ⟨ho,hb⟩;have q:=q.oz ho J O;have m:=m.oz ho J O;have f:=f.oy ho aW;have o:=Below.oy o ho aW;have J:=hb;refine ZX dI fun a z _ dK=>?_;refine ZS z fun dL=>?_;refine Ze (Vn jd J)<|Zf (Vc (D2 _ d) CF) ?_;rintro _ w6 ⟨fH,fI,rfl,bW,e⟩;have bW:=bW.lower o.size;have q:=q.bw e;have m:=m.bw e;have J:=J.bw e;have f:=f.bw e;have o:=aa o e;refine Ze (fh O gq)<|Ze (kz O O)<|Zt dL fun a z=>?_
  refine Xz z O ?_ ?_<;>intro aB
  ·have aX:=Hx aT (by have h9:=aB;simp at h9;omega)
   refine Q9<|Xf<|Xv<|aU _ _ ?_;refine Zr z<|Ze (Xs O O O0 O0)<|Zm O ?_;refine Zn fun a z=>?_;refine Xb ?_;exact ⟨k+1,⟨z.sb,O0,(wk hS aX),q,m,f,W,o⟩,O0⟩
  have h1:(bv d).length=1:=by have h9:=aB;simp at h9;omega
  obtain ⟨rr,hO⟩:=GU aF aT h1;have dM:=hO.rl;have dN:=hO.rB;have fJ:=hO.rP;have eU:=hO.rX;have fA:=hO.r6;have fB:=hO.gl;have dP:=hO.rng;have eV:=hO.gd;have eW:=hO.inc;have fK:=hO.qb
  obtain ⟨yy,aY⟩ : ∃ yy,yy=oR (xC c rr [d.a]):=⟨_,O⟩
  have dQ:∀ g ∈ (yy.getD cZ).gs,(g.k≠12->0<=g.a/\g.a<((1:Nat) : Int))/\(bq g.k 9 11=true->0<=g.b/\g.b<((1:Nat) : Int)):=by rw [aY];exact J0
  have aZ:(yy.getD cZ).gs.length<=400:=by rw [aY];exact IB _
  refine Q7<|dK _ _<|ZS z fun dR=>?_;refine Ze (Vd O lm 1)<|Ze (X0 O X8 (J.at 1))<|Zf (X6 (k:=1) (vs:=[vi d.a]) (zs:=[vi d.a]) O gq pD O O) ?_;rintro _ w7 ⟨aK,rfl,dS,e,i⟩;have eX:=Q0 o.size dS;have q:=q.bw e;have m:=m.bw e;have f:=f.bw e;have o:=aa o e;refine Za O<|Zx dR fun a z _ dT=>?_;refine Ze (Vn g_ q)<|Zm O<|Zm O<|Zf (ki (vs:=[.agg #[vi c.n,.slice Ac c.gs.length cc],vi (k:Int),.slice (some ⟨aK,0,none⟩) ([d.a]).length 1]) O Hj (by have hq:=H_ w7 c Ac cc f.top (k:Int) (some ⟨aK,0,none⟩) 1 ([d.a]) (Rd.of_blk i rfl _ i.lt) aF O6;rw [eU] at hq;exact hq)) ?_;rintro _ w8 ⟨aO,aP,rfl,x,e⟩;have cW:=x.awayNew i.lt;have x:=x.lower o.size;have q:=q.bw e;have m:=m.bw e;have i:=i.bw e;have f:=f.bw e;have o:=aa o e;refine Zm O<|Ze (X2 (vs:=[.slice aO rr.length aP,.bool true]) O O)<|Ze (X2 (vs:=[.slice aO rr.length aP,.bool true]) O O)<|Za O<|Za O<|Zx dT fun a z _ dU=>?_;refine Ze (Vn g_ q)<|Zm O<|Zm O<|Zf (Vc (IS _ c Ac cc f.top aO aP rr x.rd.top (some ⟨aK,0,none⟩) 1 ([d.a]) (Rd.of_blk i O _ i.lt) aF O0 dP eV eW O6) H8) ?_;rintro _ w9 ⟨bH,bI,rfl,B,e⟩;have B:=B.lower o.size;have q:=q.bw e;have m:=m.bw e;have i:=i.bw e;have f:=f.bw e;have x:=x.bw e;have o:=aa o e;refine ZB [vi ((xC c rr ([d.a])).n),.slice bH ((xC c rr ([d.a])).gs).length bI] oN mc fun b30 eY dW e D=>?_
  have dX:b3≠b30:=by have:=q.lt;omega
  have eZ:=Q0 o.size dW;have q:=q.bw e;have m:=m.bw e;have i:=i.bw e;have f:=f.bw e;have x:=x.bw e;have B:=B.bw e;have o:=aa o e;refine Zx dU fun a z _ dY=>?_;refine Ze (Vn g_ D)<|Zf (ki (vs:=[.agg #[vi ((xC c rr ([d.a])).n),.slice bH ((xC c rr ([d.a])).gs).length bI]]) O Wm (by have hq:=OJ eY (xC c rr ([d.a])) bH bI B.rd.top (by show ((fr c rr).map (en _)).length<=_;rw [Qo];omega);rw [<- aY] at hq;exact hq)) ?_;rintro _ fL ⟨aR,aS,rfl,p,e⟩;have cX:=B.apart p (Qb _);have p:=p.lower o.size;have q:=q.bw e;have m:=m.bw e;have i:=i.bw e;have D:=D.bw e;have f:=f.bw e;have x:=x.bw e;have B:=B.bw e;have o:=aa o e;refine Zm O<|Ze (X2 (vs:=[.agg #[vi ((yy.getD cZ).n),.slice aR ((yy.getD cZ).gs).length aS],.bool yy.isSome]) O O)<|Ze (X2 (vs:=[.agg #[vi ((yy.getD cZ).n),.slice aR ((yy.getD cZ).gs).length aS],.bool yy.isSome]) O O) ?_;refine ZB [vi ((yy.getD cZ).n),.slice aR ((yy.getD cZ).gs).length aS] oN mc fun b34 w14 eA e L=>?_
  have eB:b3≠b34:=by have:=q.lt;omega
  have d5:b30≠b34:=by have:=D.lt;omega
  have f7:=Q0 o.size eA;have q:=q.bw e;have m:=m.bw e;have i:=i.bw e;have D:=D.bw e;have f:=f.bw e;have x:=x.bw e;have B:=B.bw e;have p:=p.bw e;have o:=aa o e;refine Za O<|ZX dY fun a z _ eC=>?_;refine Q5 fun _ eD=>?_;refine eo (fun a w=>Fr a 71 [(1,(ae b3)),(2,(ae b6)),(6,.slice (some ⟨aK,0,none⟩) ([d.a]).length 1),(7,.slice aO rr.length aP),(10,(ae b34)),(15,.slice Ac c.gs.length cc),(16,vi (c.gs.length:Int)),(17,vi (k:Int)),(55,.bool ((!yy.isSome)||(decide (((ic ((xC c rr ([d.a])).gs) : Nat) : Int)<=((ic ((yy.getD cZ).gs) : Nat) : Int)))))]/\Bl w14 w) ?_ ?_
  ·have t:Bl w14 w14:=Below.refl _ _
   refine gx none (fun _=>false) mixed ?_;intro fM e;have D:=D.bw e;have L:=L.bw e;have B:=B.bw e;have p:=p.bw e;have o:=aa o e;have t:=aa t e;refine Yb z<|Yo 0 O (fun _=>X7 O)<|Yo 1 O (fun _=>dn O)<|Yo 2 O (fun _=>X7 O) ?_
   refine Yl 47 O ?_ ?_<;>intro y
   ·refine Yp 3 O (gP y) ?_;refine Yp 4 O (gP y) ?_;refine Yp 6 O (gP y) ?_;refine Yp 7 O (gP y) ?_;refine Y1 5<|Yq O ⟨_,_,O,O,y⟩ ?_;refine Y1 8<|Yq O ⟨_,_,O,O,y⟩ ?_;refine Yp 9 O (gP y) ?_;refine Yo 10 O (fun _=>Xh O y O) ?_;refine Yd fun a z=>?_;exact ⟨z.sub ⟨O,O,O,O,O,O,O,O,X1 O (by first|rfl|(simp only [aA,aB,y,bs];done)|simp [aA,aB,y]),trivial⟩,t⟩
   refine Yu 3 O (gW y) (fun _=>Vd O is 1) ?_;refine Yv 4 O (gW y) (X0 O gj (L.at 1)) ?_;refine Yu 6 O (gW y) (fun _=>Vd O is 1) ?_;refine Yv 7 O (gW y) (X0 O gj (D.at 1)) ?_;refine Y1 5<|Yk O ⟨_,_,O,O,y⟩ (Vc (vU _ aR aS ((yy.getD cZ).gs) p.rd.top (Q0 aZ O2)) wq) (fun _ _ ⟨_,e⟩=>e) ?_;rintro _ fN ⟨rfl,e⟩;have B:=B.bw e;have o:=aa o e;have t:=aa t e;refine Y1 8<|Yk O ⟨_,_,O,O,y⟩ (Vc (vU _ bH bI ((xC c rr ([d.a])).gs) B.rd.top (by show ((fr c rr).map (en _)).length<=_;rw [Qo];omega)) wq) (fun _ _ ⟨_,e⟩=>e) ?_;rintro _ fO ⟨rfl,e⟩;have o:=aa o e;have t:=aa t e;refine Yu 9 O (gW y) (fun _=>r0 O O) ?_;refine Yo 10 O (fun _=>X9 O y O) ?_;refine Yd fun a z=>?_;exact ⟨z.sub ⟨O,O,O,O,O,O,O,O,X1 O (by first|rfl|(simp only [aA,aB,y,bs];done)|simp [aA,aB,y]),trivial⟩,t⟩
  rintro a w18 ⟨z,e⟩;have q:=q.bw e;have m:=m.bw e;have i:=i.bw e;have L:=L.bw e;have f:=f.bw e;have x:=x.bw e;have p:=p.bw e;have o:=aa o e;refine eD _ _ ?_
  refine Xz z O ?_ ?_<;>intro b0
  ·have aX:=Gl hO aY O O (by have h9:=b0;rw [hO.tc] at h9;exact h9)
   refine Q9<|Xf<|Xv<|aU _ _ ?_;refine Zr z<|Ze (Xs O O O0 O0)<|Zm O ?_;refine Zn fun a z=>?_;refine Xb ?_;exact ⟨k+1,⟨z.sb,O0,(wk hS aX),q,m,f,W,o⟩,O0⟩
  have cD:=Ir hO aY O O (by have h9:=b0;rw [hO.tc] at h9;exact h9)
  refine Q7<|eC _ _<|Q5 fun _ eE=>?_;refine eo (fun a w=>∃ E G Q H U,Fr a 71 [(1,(ae b3)),(2,(ae b6)),(12,(ae E)),(13,.bool ((ay c (k:Int) rr ([d.a]) (av ((yy.getD cZ).gs) ([d.a]))).isSome)),(15,.slice Ac c.gs.length cc),(16,vi (c.gs.length:Int)),(17,vi (k:Int))]/\w0.heap.size<=E/\al w E 56 [vi (((ay c (k:Int) rr ([d.a]) (av ((yy.getD cZ).gs) ([d.a]))).getD df).pos),.slice G (((ay c (k:Int) rr ([d.a]) (av ((yy.getD cZ).gs) ([d.a]))).getD df).old).length Q,.slice H (((ay c (k:Int) rr ([d.a]) (av ((yy.getD cZ).gs) ([d.a]))).getD df).new).length U]/\b6≠E/\ah w w0.heap.size 52 3 ab G Q (((ay c (k:Int) rr ([d.a]) (av ((yy.getD cZ).gs) ([d.a]))).getD df).old)/\ah w w0.heap.size 52 3 ab H U (((ay c (k:Int) rr ([d.a]) (av ((yy.getD cZ).gs) ([d.a]))).getD df).new)/\a_ G H/\Bl w18 w) ?_ ?_
  ·have t:Bl w18 w18:=Below.refl _ _
   refine gx none (fun j=>[12].contains j) mixed ?_;intro w19 e;have q:=q.bw e;have m:=m.bw e;have i:=i.bw e;have L:=L.bw e;have f:=f.bw e;have x:=x.bw e;have p:=p.bw e;have o:=aa o e;have t:=aa t e;refine Yb z<|Ye 0 O (Vn g_ q)<|Yo 1 O (fun _=>X7 O)<|Yo 2 O (fun _=>X7 O)<|Yo 3 O (fun _=>Vd O is 1)<|Ye 4 O (X0 O gj (L.at 1))<|Yo 5 O (fun _=>X7 O) ?_
   have A:Bl w19 w19:=Below.refl _ _
   refine Yc [0,1,2,3,4,5,6,7,8,9,10,11] 2 (fun a w=>∃ E G Q H U,Fr a 71 [(1,(ae b3)),(2,(ae b6)),(12,(ae E)),(15,.slice Ac c.gs.length cc),(16,vi (c.gs.length:Int)),(17,vi (k:Int)),(65,.agg #[vi (((ay c (k:Int) rr ([d.a]) (av ((yy.getD cZ).gs) ([d.a]))).getD df).pos),.slice G (((ay c (k:Int) rr ([d.a]) (av ((yy.getD cZ).gs) ([d.a]))).getD df).old).length Q,.slice H (((ay c (k:Int) rr ([d.a]) (av ((yy.getD cZ).gs) ([d.a]))).getD df).new).length U]),(66,.bool ((ay c (k:Int) rr ([d.a]) (av ((yy.getD cZ).gs) ([d.a]))).isSome))]/\w0.heap.size<=E/\al w E 56 [vi 0,.slice none 0 0,.slice none 0 0]/\b6≠E/\w19.heap.size<=E/\w18.heap.size<=E/\ah w w0.heap.size 52 3 ab G Q (((ay c (k:Int) rr ([d.a]) (av ((yy.getD cZ).gs) ([d.a]))).getD df).old)/\ah w w0.heap.size 52 3 ab H U (((ay c (k:Int) rr ([d.a]) (av ((yy.getD cZ).gs) ([d.a]))).getD df).new)/\a_ G H/\Bl w19 w) ?_ ?_
   ·rintro a fP ⟨E,G,Q,H,U,z,aQ,aC,aL,cE,cF,aD,aE,I,e⟩;clear A;have A:=e;have o:=aa o e;have t:=aa t e;refine Yb z<|Y1 12<|Yh O ad O (Vw [vi (((ay c (k:Int) rr ([d.a]) (av ((yy.getD cZ).gs) ([d.a]))).getD df).pos),.slice G (((ay c (k:Int) rr ([d.a]) (av ((yy.getD cZ).gs) ([d.a]))).getD df).old).length Q,.slice H (((ay c (k:Int) rr ([d.a]) (av ((yy.getD cZ).gs) ([d.a]))).getD df).new).length U] ml aC) ?_;rintro _ fQ ⟨ho,hb⟩;have aD:=aD.oT ho aC O;have aE:=aE.oT ho aC O;have t:=Below.oy t ho cF;have A:=Below.oy A ho cE;have o:=Below.oy o ho aQ;have aC:=hb;refine Yo 13 O (fun _=>kk O) ?_;refine Yd fun a z=>?_;exact ⟨E,G,Q,H,U,z.sb,aQ,aC,aL,aD,aE,I,t⟩
   intro bZ;refine Yc [0,1,2,3,4,5,6,11] 6 (fun a w=>∃ aM bJ bK,Fr a 71 [(1,(ae b3)),(2,(ae b6)),(12,(ae aM)),(15,.slice Ac c.gs.length cc),(16,vi (c.gs.length:Int)),(17,vi (k:Int)),(57,.agg #[vi c.n,.slice Ac c.gs.length cc]),(58,.slice aO rr.length aP),(59,.slice (some ⟨aK,0,none⟩) ([d.a]).length 1),(63,.slice bJ (av ((yy.getD cZ).gs) ([d.a])).length bK)]/\w0.heap.size<=aM/\al w aM 56 [vi 0,.slice none 0 0,.slice none 0 0]/\b6≠aM/\w19.heap.size<=aM/\w18.heap.size<=aM/\ah w w0.heap.size 52 3 ab bJ bK (av ((yy.getD cZ).gs) ([d.a]))/\Bl w19 w) ?_ ?_
   ·rintro a fR ⟨aM,bJ,bK,z,cG,b1,b2,cH,cI,b4,e⟩;clear A;have A:=e;have i:=i.bw e;have f:=f.bw e;have x:=x.bw e;have p:=p.bw e;have o:=aa o e;have t:=aa t e;refine Yb z<|Y1 7<|Yk O ad (Vc (yx _ c Ac cc f.top W aO aP rr x.rd.top (some ⟨aK,0,none⟩) 1 ([d.a]) (Rd.of_blk i O _ i.lt) bJ bK (av ((yy.getD cZ).gs) ([d.a])) b4.rd.top (k:Int) aF dN dM (by unfold av;rw [Qo];exact Q0 aZ O2) O6) zF) (fun _ _ ⟨bL,bM,bN,bO,_,aG,aH,aI,e⟩=>e) ?_;rintro _ fS ⟨bL,bM,bN,bO,rfl,aG,aH,aI,e⟩;have d6:=p.apart aG (Qb _);have d7:=b4.apart aG (Qb _);have aG:=aG.lower o.size;have d8:=p.apart aH (Qb _);have d9:=b4.apart aH (Qb _);have aH:=aH.lower o.size;have b1:=b1.bw e;have o:=aa o e;have t:=aa t e;have A:=aa A e;refine Yo 8 O (fun _=>X7 O)<|Yo 9 O (fun _=>X2 (vs:=[.agg #[vi (((ay c (k:Int) rr ([d.a]) (av ((yy.getD cZ).gs) ([d.a]))).getD df).pos),.slice bL (((ay c (k:Int) rr ([d.a]) (av ((yy.getD cZ).gs) ([d.a]))).getD df).old).length bM,.slice bN (((ay c (k:Int) rr ([d.a]) (av ((yy.getD cZ).gs) ([d.a]))).getD df).new).length bO],.bool ((ay c (k:Int) rr ([d.a]) (av ((yy.getD cZ).gs) ([d.a]))).isSome)]) O O)<|Yo 10 O (fun _=>X2 (vs:=[.agg #[vi (((ay c (k:Int) rr ([d.a]) (av ((yy.getD cZ).gs) ([d.a]))).getD df).pos),.slice bL (((ay c (k:Int) rr ([d.a]) (av ((yy.getD cZ).gs) ([d.a]))).getD df).old).length bM,.slice bN (((ay c (k:Int) rr ([d.a]) (av ((yy.getD cZ).gs) ([d.a]))).getD df).new).length bO],.bool ((ay c (k:Int) rr ([d.a]) (av ((yy.getD cZ).gs) ([d.a]))).isSome)]) O O) ?_
    exact fun a z=>bZ _ a _ O ⟨aM,bL,bM,bN,bO,z.sb,cG,b1,b2,cH,cI,aG,aH,aI,A⟩
   intro cA;refine Y2 6 11 ?_ ?_
   ·refine Yk O ad (Vc (yN _ aR aS ((yy.getD cZ).gs) p.rd.top (some ⟨aK,0,none⟩) 1 ([d.a]) (Rd.of_blk i O _ i.lt) 1 dQ O (Q0 aZ O2)) AP) (fun _ _ ⟨cJ,cK,_,C,e⟩=>e) ?_;rintro _ fT ⟨cJ,cK,rfl,C,e⟩;have dA:=p.apart C (Qb _);have C:=C.lower o.size;have m:=m.bw e;have i:=i.bw e;have f:=f.bw e;have x:=x.bw e;have p:=p.bw e;have o:=aa o e;have t:=aa t e;have A:=aa A e;refine Y2 7 11 ?_ ?_
    ·refine Yk O ad (Vc (yx _ c Ac cc f.top W aO aP rr x.rd.top (some ⟨aK,0,none⟩) 1 ([d.a]) (Rd.of_blk i O _ i.lt) cJ cK (av ((yy.getD cZ).gs) ([d.a])) C.rd.top (k:Int) aF dN dM (by unfold av;rw [Qo];exact Q0 aZ O2) O6) zF) (fun _ _ ⟨bP,bQ,bR,bS,_,M,N,aJ,e⟩=>e) ?_;rintro _ fU ⟨bP,bQ,bR,bS,rfl,M,N,aJ,e⟩;have dB:=p.apart M (Qb _);have dC:=C.apart M (Qb _);have M:=M.lower o.size;have dD:=p.apart N (Qb _);have dE:=C.apart N (Qb _);have N:=N.lower o.size;have m:=m.bw e;have o:=aa o e;have t:=aa t e;have A:=aa A e;refine Yo 8 O (fun _=>X7 O)<|Yo 9 O (fun _=>X2 (vs:=[.agg #[vi (((ay c (k:Int) rr ([d.a]) (av ((yy.getD cZ).gs) ([d.a]))).getD df).pos),.slice bP (((ay c (k:Int) rr ([d.a]) (av ((yy.getD cZ).gs) ([d.a]))).getD df).old).length bQ,.slice bR (((ay c (k:Int) rr ([d.a]) (av ((yy.getD cZ).gs) ([d.a]))).getD df).new).length bS],.bool ((ay c (k:Int) rr ([d.a]) (av ((yy.getD cZ).gs) ([d.a]))).isSome)]) O O)<|Yo 10 O (fun _=>X2 (vs:=[.agg #[vi (((ay c (k:Int) rr ([d.a]) (av ((yy.getD cZ).gs) ([d.a]))).getD df).pos),.slice bP (((ay c (k:Int) rr ([d.a]) (av ((yy.getD cZ).gs) ([d.a]))).getD df).old).length bQ,.slice bR (((ay c (k:Int) rr ([d.a]) (av ((yy.getD cZ).gs) ([d.a]))).getD df).new).length bS],.bool ((ay c (k:Int) rr ([d.a]) (av ((yy.getD cZ).gs) ([d.a]))).isSome)]) O O)<|Y1 11 ?_;refine Yk O ad (Xi (zs:=[vi 0,.slice none 0 0,.slice none 0 0]) px O) (fun _ _ ⟨_,_,_,h,_⟩=>h) ?_;rintro _ fV ⟨b51,rfl,b5,e,eF⟩
     have b7:b6≠b51:=by have:=m.lt;omega
     have cM:=Q0 o.size b5;have cO:=Q0 t.size b5;have cP:=Q0 A.size b5;have M:=M.bw e;have N:=N.bw e;have o:=aa o e;have t:=aa t e;have A:=aa A e;exact fun a z=>bZ _ a _ O ⟨b51,bP,bQ,bR,bS,z.sb,cM,eF,b7,cP,cO,M,N,aJ,A⟩
    refine Yk O ad (Xi (zs:=[vi 0,.slice none 0 0,.slice none 0 0]) px O) (fun _ _ ⟨_,_,_,h,_⟩=>h) ?_;rintro _ fW ⟨b54,rfl,b8,e,eH⟩
    have b9:b6≠b54:=by have:=m.lt;omega
    have cQ:=Q0 o.size b8;have cR:=Q0 t.size b8;have cS:=Q0 A.size b8;have C:=C.bw e;have o:=aa o e;have t:=aa t e;have A:=aa A e;exact fun a z=>cA _ a _ O ⟨b54,cJ,cK,z.sb,cQ,eH,b9,cS,cR,C,A⟩
   refine Yk O ad (Xi (zs:=[vi 0,.slice none 0 0,.slice none 0 0]) px O) (fun _ _ ⟨_,_,_,h,_⟩=>h) ?_;rintro _ fX ⟨b57,rfl,bC,e,bD⟩
   have bE:b6≠b57:=by have:=m.lt;omega
   have cT:=Q0 o.size bC;have cU:=Q0 t.size bC;have cV:=Q0 A.size bC;have i:=i.bw e;have p:=p.bw e;have o:=aa o e;have t:=aa t e;have A:=aa A e;refine Y1 6<|Yk O ad (Vc (yN _ aR aS ((yy.getD cZ).gs) p.rd.top (some ⟨aK,0,none⟩) 1 ([d.a]) (Rd.of_blk i O _ i.lt) 1 dQ O (Q0 aZ O2)) AP) (fun _ _ ⟨eI,eJ,_,aN,e⟩=>e) ?_;rintro _ fY ⟨eI,eJ,rfl,aN,e⟩;have dF:=p.apart aN (Qb _);have aN:=aN.lower o.size;have bD:=bD.bw e;have o:=aa o e;have t:=aa t e;have A:=aa A e;exact fun a z=>cA _ a _ O ⟨b57,eI,eJ,z.sb,cT,bD,bE,cV,cU,aN,A⟩
  rintro a fZ ⟨E,G,Q,H,U,z,aQ,aC,aL,aD,aE,I,e⟩;have q:=q.bw e;have m:=m.bw e;have f:=f.bw e;have o:=aa o e;refine eE _ _<|ZS z fun eK=>?_;refine Zm O<|Zt eK fun a z=>?_
  refine Xz z O ?_ ?_<;>intro bF
  ·have cB:(ay c (k:Int) rr [d.a] (av (yy.getD cZ).gs [d.a])).isSome=true:=bF
   have bG:=(FP hS O0 (by rw [cD];exact cB)).trans cD
   refine ZS z fun eL=>?_;refine Ze (Vn mt aC)<|Zo (Vw [vi (((ay c (k:Int) rr ([d.a]) (av ((yy.getD cZ).gs) ([d.a]))).getD df).pos),.slice G (((ay c (k:Int) rr ([d.a]) (av ((yy.getD cZ).gs) ([d.a]))).getD df).old).length Q,.slice H (((ay c (k:Int) rr ([d.a]) (av ((yy.getD cZ).gs) ([d.a]))).getD df).new).length U] ml m) ?_;rintro _ g7 ⟨ho,hb⟩;have aD:=aD.oT ho m O;have aE:=aE.oT ho m O;have o:=Below.oy o ho bU;have m:=hb;refine Za O<|Zt eL fun a z=>?_;refine Q6<|Xn<|X3<|X3 ?_;refine Xn<|X3<|X4 z (dj z O (an.cellN (l:=[vi (((ay c (k:Int) rr ([d.a]) (av ((yy.getD cZ).gs) ([d.a]))).getD df).pos),.slice G (((ay c (k:Int) rr ([d.a]) (av ((yy.getD cZ).gs) ([d.a]))).getD df).old).length Q,.slice H (((ay c (k:Int) rr ([d.a]) (av ((yy.getD cZ).gs) ([d.a]))).getD df).new).length U]) O mt (m.at 0) O) O) ?_
   rw [bG,cB]
   exact ⟨G,Q,H,U,O,aD,aE,I,o⟩
  have aX:rc c k=none:=by rw [cD];have h9:(ay c (k:Int) rr [d.a] (av (yy.getD cZ).gs [d.a])).isSome=false:=bF;revert h9;cases (ay c (k:Int) rr [d.a] (av (yy.getD cZ).gs [d.a]))<;>simp
  refine Q7<|Xk<|aU _ _<|Zr z ?_;refine Ze (Xs O O O0 O0)<|Zm O ?_;refine Zn fun a z=>?_;refine Xb ?_;exact ⟨k+1,⟨z.sb,O0,(wk hS aX),q,m,f,W,o⟩,O0⟩
 have bG:=Hc hS O0
 refine Q9<|Xf<|Xf<|Xv ?_;refine eR _ _<|ZS z fun eM=>?_;refine Ze (Xg (ps:=[]) (cs:=[vi 0,.slice none 0 0,.slice none 0 0]) O (fun _=>by first|rfl|kernel_rfl))<|Zo (Vw [vi 0,.slice none 0 0,.slice none 0 0] ml m) ?_;rintro _ g8 ⟨ho,hb⟩;have o:=Below.oy o ho bU;have m:=hb;refine Za O<|Zt eM fun a z=>?_
 refine Q6 (X4 z (dj z O (an.cellN (l:=[vi 0,.slice none 0 0,.slice none 0 0]) O mt (m.at 0) O) O) ?_)
 rw [bG]
 exact ⟨none,0,none,0,O,(ah.nil _ _ _ _ _),(ah.nil _ _ _ _ _),(a_.none_l _),o⟩
abbrev Zd:=fun a b=>(jx (⟨a,b⟩ : Cx)).getD df
abbrev Zy:=fun a b c d e f=>(⟨(Zd a b).pos,c,d,(Zd a b).old,e,f,(Zd a b).new⟩ : Sr)
abbrev ZU:=fun a b=>(dc (⟨a,b⟩ : Cx) (Zd a b)).getD cZ
theorem Sm(w0:World)(c:Cx)(Ac:Option Addr)(cc:Nat)(C:Rw w0 52 ab Ac c.gs)(hc:gf c=true) : RE 15 [.agg #[vi c.n,.slice Ac c.gs.length cc],.bool true] w0 (fun v w=>∃ (l:List Sr) (A:Option Addr) (e:Nat) (B:Option Addr) (f:Nat) (D:Option Addr) (g:Nat),v=.tuple #[.agg #[vi (cv c).1.n,.slice A (cv c).1.gs.length e,.slice B l.length f,vi (cv c).2.2.n,.slice D (cv c).2.2.gs.length g],.bool (nw c)]/\l.map Sr.rp=(cv c).2.1/\((cv c).1.gs.length<=e/\(cv c).2.2.gs.length<=g)/\Rw w 52 ab A (cv c).1.gs/\Rw w 52 ab D (cv c).2.2.gs/\ah w w0.heap.size 56 3 dv B f l/\ci w w.heap.size 52 l/\Bl w0 w):=by
 obtain ⟨dR,dD,dS⟩:=n' hc;refine enter func15 O 56 O O ?_;intro a I
 have q:=bz w0
 refine ZS I fun dE=>?_;refine Zf (bt (zs:=[vi c.n,.slice Ac c.gs.length cc]) O O) ?_;rintro _ w1 ⟨b3,rfl,dF,i,aX⟩;have dP:=Q0 q.size dF;have C:=C.bw i;have q:=aa q i;refine Zf (Xi (zs:=[vi 0,.slice none 0 0,.slice none 0 0,vi 0,.slice none 0 0]) sy O) ?_;rintro _ w2 ⟨b7,rfl,dG,i,o⟩;have bM:=Q0 q.size dG;have aX:=aX.bw i;have C:=C.bw i;have q:=aa q i;refine Za O<|ZX dE fun a I _ dH=>?_;refine eo (fun a w=>∃ b17 A9 c9 aM aN,Fr a 56 [(1,.bool true),(4,(ae b7)),(6,(ae b17))]/\w0.heap.size<=b17/\al w b17 31 [vi c.n,.slice A9 c.gs.length c9,.slice none 0 0,vi c.n,.slice aM c.gs.length aN]/\b7≠b17/\ah w w0.heap.size 52 3 ab A9 c9 c.gs/\ah w w0.heap.size 52 3 ab aM aN c.gs/\Bl w2 w) ?_ ?_
 ·have z:Bl w2 w2:=Below.refl _ _
  refine gx none (fun j=>[6].contains j) mixed ?_;intro w3 i;have aX:=aX.bw i;have o:=o.bw i;have C:=C.bw i;have q:=aa q i;have z:=aa z i;refine Yb I<|Ye 0 O (Vn g_ aX)<|Ye 2 O (Vn g_ aX) ?_;refine Y2 1 5 ?_ ?_
  ·refine Yk O ad (Vc (wG _ c Ac cc C.top O0) ye) (fun _ _ ⟨A9,c9,_,p,i⟩=>i) ?_;rintro _ w4 ⟨A9,c9,rfl,p,i⟩;have p:=p.lower q.size;have o:=o.bw i;have C:=C.bw i;have q:=aa q i;have z:=aa z i;refine Y2 3 5 ?_ ?_
   ·refine Yk O ad (Vc (wG _ c Ac cc C.top O0) ye) (fun _ _ ⟨aM,aN,_,N,i⟩=>i) ?_;rintro _ w5 ⟨aM,aN,rfl,N,i⟩;have N:=N.lower q.size;have o:=o.bw i;have p:=p.bw i;have q:=aa q i;have z:=aa z i;refine Yo 4 O (fun _=>Xg (ps:=[(0,.agg #[vi c.n,.slice A9 c.gs.length c9]),(2,.agg #[vi c.n,.slice aM c.gs.length aN])]) (cs:=[vi c.n,.slice A9 c.gs.length c9,.slice none 0 0,vi c.n,.slice aM c.gs.length aN]) O (fun _=>by first|rfl|kernel_rfl))<|Y1 5 ?_;refine Yk O ad (Xi (zs:=[vi 0,.slice none 0 0,.slice none 0 0,vi 0,.slice none 0 0]) sy O) (fun _ _ ⟨_,_,_,h,_⟩=>h) ?_;rintro _ w6 ⟨b17,rfl,bN,i,d⟩
    have aR:b7≠b17:=by have:=o.lt;omega
    have aI:=Q0 q.size bN;have bU:=Q0 z.size bN;have p:=p.bw i;have N:=N.bw i;have q:=aa q i;have z:=aa z i;refine Y1 6<|Yh O ad O (Vw [vi c.n,.slice A9 c.gs.length c9,.slice none 0 0,vi c.n,.slice aM c.gs.length aN] rh d) ?_;rintro _ w7 ⟨G,hb⟩;have p:=p.oT G d O;have N:=N.oT G d O;have z:=Below.oy z G bU;have q:=Below.oy q G aI;have d:=hb;refine Yd fun a I=>?_;exact ⟨b17,A9,c9,aM,aN,I.sb,aI,d,aR,p,N,z⟩
   refine Yk O ad (Xi (zs:=[vi 0,.slice none 0 0,.slice none 0 0,vi 0,.slice none 0 0]) sy O) (fun _ _ ⟨_,_,_,h,_⟩=>h) ?_;rintro _ w8 ⟨b21,rfl,bO,i,aJ⟩
   have b1:b7≠b21:=by have:=o.lt;omega
   have b2:=Q0 q.size bO;have bW:=Q0 z.size bO;have C:=C.bw i;have p:=p.bw i;have q:=aa q i;have z:=aa z i;refine Y1 3<|Yk O ad (Vc (wG _ c Ac cc C.top O0) ye) (fun _ _ ⟨b4,b5,_,aO,i⟩=>i) ?_;rintro _ w9 ⟨b4,b5,rfl,aO,i⟩;have aO:=aO.lower q.size;have aJ:=aJ.bw i;have p:=p.bw i;have q:=aa q i;have z:=aa z i;refine Yo 4 O (fun _=>Xg (ps:=[(0,.agg #[vi c.n,.slice A9 c.gs.length c9]),(2,.agg #[vi c.n,.slice b4 c.gs.length b5])]) (cs:=[vi c.n,.slice A9 c.gs.length c9,.slice none 0 0,vi c.n,.slice b4 c.gs.length b5]) O (fun _=>by first|rfl|kernel_rfl))<|Y1 6 ?_;refine Yh O ad O (Vw [vi c.n,.slice A9 c.gs.length c9,.slice none 0 0,vi c.n,.slice b4 c.gs.length b5] rh aJ) ?_;rintro _ dT ⟨G,hb⟩;have p:=p.oT G aJ O;have aO:=aO.oT G aJ O;have z:=Below.oy z G bW;have q:=Below.oy q G b2;have aJ:=hb;refine Yd fun a I=>?_;exact ⟨b21,A9,c9,b4,b5,I.sub ⟨O,O,(by first|rfl|(simp [ge])),trivial⟩,b2,aJ,b1,p,aO,z⟩
  refine Yk O ad (Xi (zs:=[vi 0,.slice none 0 0,.slice none 0 0,vi 0,.slice none 0 0]) sy O) (fun _ _ ⟨_,_,_,h,_⟩=>h) ?_;rintro _ dU ⟨b29,rfl,bP,i,U⟩
  have b6:b7≠b29:=by have:=o.lt;omega
  have b8:=Q0 q.size bP;have bZ:=Q0 z.size bP;have C:=C.bw i;have q:=aa q i;have z:=aa z i;refine Y1 1<|Yk O ad (Vc (wG _ c Ac cc C.top O0) ye) (fun _ _ ⟨b9,bC,_,aD,i⟩=>i) ?_;rintro _ dW ⟨b9,bC,rfl,aD,i⟩;have aD:=aD.lower q.size;have U:=U.bw i;have C:=C.bw i;have q:=aa q i;have z:=aa z i;refine Y1 3<|Yk O ad (Vc (wG _ c Ac cc C.top O0) ye) (fun _ _ ⟨bD,bE,_,aP,i⟩=>i) ?_;rintro _ dX ⟨bD,bE,rfl,aP,i⟩;have aP:=aP.lower q.size;have U:=U.bw i;have aD:=aD.bw i;have q:=aa q i;have z:=aa z i;refine Yo 4 O (fun _=>Xg (ps:=[(0,.agg #[vi c.n,.slice b9 c.gs.length bC]),(2,.agg #[vi c.n,.slice bD c.gs.length bE])]) (cs:=[vi c.n,.slice b9 c.gs.length bC,.slice none 0 0,vi c.n,.slice bD c.gs.length bE]) O (fun _=>by first|rfl|kernel_rfl))<|Y1 6 ?_;refine Yh O ad O (Vw [vi c.n,.slice b9 c.gs.length bC,.slice none 0 0,vi c.n,.slice bD c.gs.length bE] rh U) ?_;rintro _ dY ⟨G,hb⟩;have aD:=aD.oT G U O;have aP:=aP.oT G U O;have z:=Below.oy z G bZ;have q:=Below.oy q G b8;have U:=hb;refine Yd fun a I=>?_;exact ⟨b29,b9,bC,bD,bE,I.sub ⟨O,O,(by first|rfl|(simp [ge])),trivial⟩,b8,U,b6,aD,aP,z⟩
 rintro a eA ⟨b17,A9,c9,aM,aN,I,aI,d,aR,p,N,i⟩;have o:=o.bw i;have q:=aa q i;refine dH _ _<|Q8<|Xw (σ:=(List Sr)×Int×(List Gt)×Nat) (fun (s:(List Sr)×Int×(List Gt)×Nat) (a:Act) (w:World)=>match s with|(l,m,gs,k)=>∃ bF bG aG aH,Fr a 56 [(1,.bool true),(4,(ae b7)),(6,(ae b17))]/\(qY c l ⟨m,gs⟩ k)/\al w b7 31 [vi 0,.slice none 0 0,.slice none 0 0,vi 0,.slice none 0 0]/\al w b17 31 [vi c.n,.slice A9 c.gs.length c9,.slice bF l.length bG,vi m,.slice aG gs.length aH]/\ah w w0.heap.size 52 3 ab A9 c9 c.gs/\ah w w0.heap.size 56 3 dv bF bG l/\ah w w0.heap.size 52 3 ab aG aH gs/\ci w w.heap.size 52 l/\Bl w0 w) (fun (s:(List Sr)×Int×(List Gt)×Nat)=>match s with|(l,m,gs,k)=>k) ([],c.n,c.gs,(ic c.gs)) ?_ ?_
 ·exact ⟨none,0,aM,aN,I.sb,(qY.sta hc),o,d,p,(ah.nil _ _ _ _ _),N,(ci.nil _ _ _),q⟩
 rintro ⟨l,m,gs,k⟩ a eB ⟨bF,bG,aG,aH,I,aS,o,d,p,u,E,t,q⟩;refine Q8<|ZS I fun cQ=>?_;refine Ze (Vd O qS 3)<|Ze (Xt (l:=[vi m,.slice aG gs.length aH]) O g_ ((d.at 3).take 2) O)<|Zf (Vc (VR _ (⟨m,gs⟩ : Cx) aG aH E.rd.top E.cap aS.ok) Rz) ?_;rintro _ eC ⟨cA,cB,cC,cD,rfl,bQ,bR,cJ,i⟩;have bQ:=bQ.lower q.size;have bR:=bR.lower q.size;have o:=o.bw i;have d:=d.bw i;have p:=p.bw i;have u:=u.bw i;have E:=E.bw i;have t:=t.bw i;have q:=aa q i;refine Zm O<|Ze (X2 (vs:=[.agg #[vi ((tH m gs).pos),.slice cA ((tH m gs).old).length cB,.slice cC ((tH m gs).new).length cD],.bool ((r' (⟨m,gs⟩ : Cx)).isSome)]) O O)<|Ze (X2 (vs:=[.agg #[vi ((tH m gs).pos),.slice cA ((tH m gs).old).length cB,.slice cC ((tH m gs).new).length cD],.bool ((r' (⟨m,gs⟩ : Cx)).isSome)]) O O) ?_;refine ZB [vi ((tH m gs).pos),.slice cA ((tH m gs).old).length cB,.slice cC ((tH m gs).new).length cD] px ml fun cR eD aW i y=>?_;have cE:=Q0 q.size aW;have aQ:=u.away aW;have o:=o.bw i;have d:=d.bw i;have p:=p.bw i;have u:=u.bw i;have E:=E.bw i;have t:=t.bw i;have q:=aa q i;refine Za O<|ZX cQ fun a I _ cS=>?_;refine ZS I fun cT=>?_;refine Zm O<|Zt cT fun a I=>?_;refine Nu I O ?_;refine Zr I<|Ze (Vd O qS 3)<|Ze (Xt (l:=[vi m,.slice aG gs.length aH]) O g_ ((d.at 3).take 2) O)<|Zf (Vc (Ut _ (⟨m,gs⟩ : Cx) aG aH E.rd.top E.cap aS.ok) KT) ?_;rintro _ eE ⟨W,aA,aB,aC,rfl,L,M,cK,i⟩
 have L:=L.lower q.size;have M:=M.lower q.size;have o:=o.bw i;have d:=d.bw i;have y:=y.bw i;have p:=p.bw i;have u:=u.bw i;have E:=E.bw i;have t:=t.bw i;have q:=aa q i;refine Zm O<|Ze (X2 (vs:=[.agg #[vi ((Zd m gs).pos),.slice W ((Zd m gs).old).length aA,.slice aB ((Zd m gs).new).length aC],.bool ((jx (⟨m,gs⟩ : Cx)).isSome)]) O O)<|Ze (X2 (vs:=[.agg #[vi ((Zd m gs).pos),.slice W ((Zd m gs).old).length aA,.slice aB ((Zd m gs).new).length aC],.bool ((jx (⟨m,gs⟩ : Cx)).isSome)]) O O)<|Zo (Vw [vi ((Zd m gs).pos),.slice W ((Zd m gs).old).length aA,.slice aB ((Zd m gs).new).length aC] ml y) ?_;rintro _ eF ⟨G,hb⟩;have o:=o.oz G y O;have d:=d.oz G y O;have p:=p.oT G y O;have u:=u.onlyA G aQ;have E:=E.oT G y O;have L:=L.oT G y O;have M:=M.oT G y O;have t:=t.oT G y O;have q:=Below.oy q G cE;have y:=hb;refine Za O<|ZX cS fun a I _ cU=>?_;refine ZS I fun cV=>?_;refine Zm O<|Ze (dn O)<|Zt cV fun a I=>?_
 refine Xz I O ?_ ?_<;>intro aT
 ·have aK:=aT
  have dI:jx ⟨m,gs⟩=none:=by revert aT;cases jx ⟨m,gs⟩<;>simp
  obtain ⟨bH,cF⟩:=aS.don hc dI;refine ZS I fun cW=>?_;refine Ze (Vn qj d)<|Zo (Vw [vi c.n,.slice A9 c.gs.length c9,.slice bF l.length bG,vi m,.slice aG gs.length aH] rh o) ?_;rintro _ eH ⟨G,hb⟩;have p:=p.oT G o O;have u:=u.oT G o O;have E:=E.oT G o O;have t:=t.oT G o O;have q:=Below.oy q G bM;have o:=hb;refine Za O<|Zt cW fun a I=>?_;refine Q6<|X3<|Xn<|X3 ?_;refine Xn<|X4 I (dj I O (an.cellN (l:=[vi c.n,.slice A9 c.gs.length c9,.slice bF l.length bG,vi m,.slice aG gs.length aH]) O qj (o.at 0) O) O) ?_
  rw [bH,cF]
  exact ⟨l,_,_,_,_,_,_,O,O,⟨p.cap,E.cap⟩,p.rd.top,E.rd.top,u,(t.top),q⟩
 have aK:=aT
 have dQ:l.length+ic gs<=400:=Q0 aS.len (Q0 (xS c.gs) dD)
 have eI:gs.length<=400:=(aS.b hc).2.1
 have bJ:jx ⟨m,gs⟩=some ((jx ⟨m,gs⟩).getD df):=by revert aT;cases jx ⟨m,gs⟩<;>simp
 obtain ⟨cX,aW⟩:=yE bJ
 have eJ:1<=ic gs:=(AK aS.ok bJ).1
 refine Q7<|cU _ _<|ZS I fun d5=>?_;refine Ze (Vd O qS 3)<|Ze (Xt (l:=[vi m,.slice aG gs.length aH]) O g_ ((d.at 3).take 2) O)<|Ze (Vn mt y)<|Zf (Vc (RQ _ (⟨m,gs⟩ : Cx) aG aH E.rd.top E.cap (Zd m gs) W aA L.rd.top aB aC M.rd.top (by show gs.length<=_;omega) (Q0 cX O2) (Q0 aW O2)) PY) ?_;rintro _ eK ⟨aY,aZ,rfl,J,i⟩;have J:=J.lower q.size;have o:=o.bw i;have d:=d.bw i;have y:=y.bw i;have p:=p.bw i;have u:=u.bw i;have L:=L.bw i;have M:=M.bw i;have t:=t.bw i;have q:=aa q i;refine Zm O<|Ze (X2 (vs:=[.agg #[vi ((ZU m gs).n),.slice aY ((ZU m gs).gs).length aZ],.bool ((dc (⟨m,gs⟩ : Cx) (Zd m gs)).isSome)]) O O)<|Ze (X2 (vs:=[.agg #[vi ((ZU m gs).n),.slice aY ((ZU m gs).gs).length aZ],.bool ((dc (⟨m,gs⟩ : Cx) (Zd m gs)).isSome)]) O O) ?_;refine ZB [vi ((ZU m gs).n),.slice aY ((ZU m gs).gs).length aZ] oN mc fun dJ dK d6 i aE=>?_;have dL:=Q0 q.size d6;have o:=o.bw i;have d:=d.bw i;have y:=y.bw i;have p:=p.bw i;have u:=u.bw i;have L:=L.bw i;have M:=M.bw i;have J:=J.bw i;have t:=t.bw i;have q:=aa q i;refine Za O<|ZX d5 fun a I _ d7=>?_
 refine Q5 fun _ d8=>?_;refine eo (fun a w=>Fr a 56 [(1,.bool true),(4,(ae b7)),(6,(ae b17)),(7,(ae cR)),(9,(ae dJ)),(46,.bool ((!((dc (⟨m,gs⟩ : Cx) (Zd m gs)).isSome))||((l.length:Int)==400)))]/\dK=w) ?_ ?_
 ·refine Zr I<|Zm O<|Ze (dn O)<|Zm O ?_
  refine Zg 41 O ?_ ?_<;>intro H
  ·(iterate 4 refine Zp (gP H) ?_);refine Ze (Xh O H O) ?_;refine Zn fun a I=>?_;exact ⟨I.sub ⟨O,O,O,O,O,X1 O (by first|rfl|(simp only [aK,H,bs];done)|simp [aK,H]),trivial⟩,O⟩
  refine Zv (gW H) (Vd O sM 2) ?_;refine Zv (gW H) (X0 O uI (d.at 2)) ?_;refine Zv (gW H) (fh O pR) ?_;refine Zv (gW H) (go O O) ?_;refine Ze (X9 O H O) ?_;refine Zn fun a I=>?_;exact ⟨I.sub ⟨O,O,O,O,O,X1 O (by first|rfl|(simp only [aK,H,bs];done)|simp [aK,H]),trivial⟩,O⟩
 rintro a _ ⟨I,rfl⟩;refine d8 _ _ ?_
 refine Xz I O ?_ ?_<;>intro aL
 ·have cG:=aL
  have d9:dc ⟨m,gs⟩ ((jx ⟨m,gs⟩).getD df)=none:=by
   cases cH:dc ⟨m,gs⟩ ((jx ⟨m,gs⟩).getD df) with
   | none=>rfl
   | some e8=>rw [cH] at aL;simp at aL;omega
  obtain ⟨bH,cF⟩:=aS.bd hc bJ d9;refine ZS I fun dA=>?_;refine Ze (Xg (ps:=[]) (cs:=[vi 0,.slice none 0 0,.slice none 0 0,vi 0,.slice none 0 0]) O (fun _=>by first|rfl|kernel_rfl))<|Zo (Vw [vi 0,.slice none 0 0,.slice none 0 0,vi 0,.slice none 0 0] rh o) ?_;rintro _ eL ⟨G,hb⟩;have q:=Below.oy q G bM;have o:=hb;refine Za O<|Zt dA fun a I=>?_;refine Q6<|X3<|Xn<|X3 ?_;refine Xn<|X4 I (dj I O (an.cellN (l:=[vi 0,.slice none 0 0,.slice none 0 0,vi 0,.slice none 0 0]) O qj (o.at 0) O) O) ?_
  rw [bH,cF]
  exact ⟨[],_,_,_,_,_,_,O,O,⟨(Qf _),(Qf _)⟩,(Rd.nil _ _ _ _ _),(Rd.nil _ _ _ _ _),(ah.nil _ _ _ _ _),(ci.nil _ _ _),q⟩
 have cG:=aL
 have dM:dc ⟨m,gs⟩ ((jx ⟨m,gs⟩).getD df)=some ((dc ⟨m,gs⟩ ((jx ⟨m,gs⟩).getD df)).getD cZ):=by
  cases cH:dc ⟨m,gs⟩ ((jx ⟨m,gs⟩).getD df) with
  | none=>rw [cH] at aL;simp at aL
  | some e8=>rfl
 refine Q7<|d7 _ _<|ZS I fun dB=>?_;refine Ze (Vd O sM 2)<|Ze (X0 O uI (d.at 2))<|Ze (Vn mt y)<|Zf (X6 (k:=1) (vs:=[.agg #[vi ((Zd m gs).pos),.slice W ((Zd m gs).old).length aA,.slice aB ((Zd m gs).new).length aC]]) (zs:=[vi ((Zd m gs).pos),.slice W ((Zd m gs).old).length aA,.slice aB ((Zd m gs).new).length aC]) O pR uU O O) ?_;rintro _ eM ⟨b64,rfl,bS,i,bI⟩
 have cM:cR≠b64:=by have:=y.lt;omega
 have dN:=Q0 q.size bS;have b0:=u.away bS;have o:=o.bw i;have d:=d.bw i;have y:=y.bw i;have aE:=aE.bw i;have p:=p.bw i;have u:=u.bw i;have L:=L.bw i;have M:=M.bw i;have J:=J.bw i;have t:=t.bw i;have q:=aa q i;refine Zf (jf (enc:=dv) (l:=(l)) (l2:=([(Zy m gs W aA aB aC)])) (B0:=w0.heap.size) O O pR uU sk Ao u (Rd.of_blk bI O _ bI.lt) (by simp only [maxLen];simp;omega) O5 q.size) ?_;rintro _ eO ⟨bK,bL,rfl,aU,hg,cI⟩
 have aF:ah _ w0.heap.size 56 3 dv _ _ (l):=u
 have cO:=cI _ y.lt aQ;have cP:=cI _ bI.lt b0;clear cI;have Q:=ci.snoc (l:=l) (x:=(Zy m gs W aA aB aC)) t.top L.rd.top M.rd.top;have o:=o.appT aF hg O;have d:=d.appT aF hg O;have aE:=aE.appT aF hg O;have p:=p.appT aF hg O;have J:=J.appT aF hg O;have Q:=Q.appT aF hg O;have q:=Below.app q aF hg (Qb _) q.size;clear aF hg;refine Ze (Vd O sM 2)<|Zo (Vu (vs:=[.slice bK (l++([(Zy m gs W aA aB aC)])).length bL]) (l':=[vi c.n,.slice A9 c.gs.length c9,.slice bK (l++([(Zy m gs W aA aB aC)])).length bL,vi m,.slice aG gs.length aH]) O O xq d) ?_;rintro _ eP ⟨G,hb⟩;have o:=o.oy G O0;have aE:=aE.oz G d O;have p:=p.oT G d O;have J:=J.oT G d O;have aU:=aU.oT G d O;have Q:=Q.oT G d O;have q:=Below.oy q G aI;have d:=hb;refine Zt dB fun a I=>?_;refine Zr I<|Ze (Vn g_ aE)<|Ze (Vd O qS 3)<|Zo (Vu (vs:=[vi ((ZU m gs).n),.slice aY ((ZU m gs).gs).length aZ]) (l':=[vi c.n,.slice A9 c.gs.length c9,.slice bK (l++([(Zy m gs W aA aB aC)])).length bL,vi ((ZU m gs).n),.slice aY ((ZU m gs).gs).length aZ]) O O mc d) ?_;rintro _ eQ ⟨G,hb⟩
 have o:=o.oy G O0;have p:=p.oT G d O;have J:=J.oT G d O;have aU:=aU.oT G d O;have Q:=Q.oT G d O;have q:=Below.oy q G aI;have d:=hb;refine Zn fun a I=>?_;refine Xk ?_;obtain ⟨k2,eR,dC⟩:=aS.nxt bJ dM (s:=⟨(Zd m gs).pos,W,aA,(Zd m gs).old,aB,aC,(Zd m gs).new⟩) O;refine Xb ?_;exact ⟨(l++([(Zy m gs W aA aB aC)]),(ZU m gs).n,(ZU m gs).gs,k2),⟨bK,bL,aY,aZ,I.sb,dC,o,d,p,aU,J,Q.top,q⟩,O3⟩
def UD(w0:World)(c:Cx)(Ac:Option Addr)(cc:Nat)(H:Rw w0 52 ab Ac c.gs)(aN:c.gs.length<=100000000):RE 5 [.agg #[vi c.n,.slice Ac c.gs.length cc]] w0 (fun v w=>∃ (l:List Sr) (A:Option Addr) (e:Nat) (B:Option Addr) (f:Nat) (D:Option Addr) (g:Nat),v=.tuple #[.agg #[vi (cv c).1.n,.slice A (cv c).1.gs.length e,.slice B l.length f,vi (cv c).2.2.n,.slice D (cv c).2.2.gs.length g],.bool (nw c)]/\l.map Sr.rp=(cv c).2.1/\((cv c).1.gs.length<=e/\(cv c).2.2.gs.length<=g)/\Rw w 52 ab A (cv c).1.gs/\Rw w 52 ab D (cv c).2.2.gs/\ah w w0.heap.size 56 3 dv B f l/\ci w w.heap.size 52 l/\Bl w0 w):=by
 refine enter func5 O 12 O O ?_;intro a p;have i:=bz w0;refine ZS p fun aG=>Zf (bt (zs:=[vi c.n,.slice Ac c.gs.length cc]) O O) ?_;rintro _ w1 ⟨b3,rfl,aH,t,q⟩;have aM:=Q0 i.size aH;have i:=aa i t;refine Zf (Xi (zs:=[vi 0,.slice none 0 0,.slice none 0 0,vi 0,.slice none 0 0]) sy O) ?_;rintro _ w2 ⟨b7,rfl,aI,t,d⟩;have I:=Q0 i.size aI;have q:=q.bw t;have i:=aa i t;refine Za O<|ZX aG fun a p _ aJ=>ZS p fun aK=>Ze (Vn g_ q)<|Zf (Vc (Jf _ c Ac cc (H.bx i).top) GP) ?_;rintro _ w3 ⟨rfl,t⟩;have ⟨q,d,i⟩:=bh t q d i;refine Ze (dn O)<|Zt aK fun a p=>Xz p O ?_ ?_<;>intro u
 ·have hc:gf c=false:=uT u;have ⟨aD,aL⟩:=IF hc;refine ZS p fun aE=>Ze (Xg (ps:=[]) (cs:=[vi 0,.slice none 0 0,.slice none 0 0,vi 0,.slice none 0 0]) O (fun _=>by first|rfl|kernel_rfl))<|Zo (Vw [vi 0,.slice none 0 0,.slice none 0 0,vi 0,.slice none 0 0] rh d) ?_;intro _ w4 ⟨ho,hb⟩;have i:=Below.oy i ho I;have d:=hb;refine Za O<|Zt aE fun a p=>Q6<|X3<|X4 p (dj p O (an.cellN (l:=[vi 0,.slice none 0 0,.slice none 0 0,vi 0,.slice none 0 0]) O qj (d.at 0) O) O) ?_;rw[aD,aL];exact ⟨[],_,_,_,_,_,_,O,O,⟨(Qf _),(Qf _)⟩,(Rd.nil _ _ _ _ _),(Rd.nil _ _ _ _ _),(ah.nil _ _ _ _ _),(ci.nil _ _ _),i⟩
 have hc:gf c=true:=v6 u;refine Q7<|aJ _ _<|ZS p fun aF=>Ze (Vn g_ q)<|Zf (Vc (Sm _ c Ac cc (H.bx i).top hc) Re) ?_;rintro _ w5 ⟨x,y,z,h,C,E,G,rfl,aA,⟨aB,aC⟩,k,m,j,o,t⟩;have j:=j.lower i.size;have d:=d.bw t;have i:=aa i t;refine Ze (X2 (vs:=[.agg #[vi ((cv c).1.n),.slice y ((cv c).1.gs).length z,.slice h x.length C,vi ((cv c).2.2.n),.slice E ((cv c).2.2.gs).length G],.bool (nw c)]) O O)<|Ze (X2 (vs:=[.agg #[vi ((cv c).1.n),.slice y ((cv c).1.gs).length z,.slice h x.length C,vi ((cv c).2.2.n),.slice E ((cv c).2.2.gs).length G],.bool (nw c)]) O O)<|Zo (Vw [vi ((cv c).1.n),.slice y ((cv c).1.gs).length z,.slice h x.length C,vi ((cv c).2.2.n),.slice E ((cv c).2.2.gs).length G] rh d) ?_;intro _ w6 ⟨ho,hb⟩;have k:=k.oT ho d O;have j:=j.oT ho d O;have m:=m.oT ho d O;have o:=o.oT ho d O;have i:=Below.oy i ho I;have d:=hb;refine Za O<|Zt aF fun a p=>Q6 (X4 p (dj p O (an.cellN (l:=[vi ((cv c).1.n),.slice y ((cv c).1.gs).length z,.slice h x.length C,vi ((cv c).2.2.n),.slice E ((cv c).2.2.gs).length G]) O qj (d.at 0) O) O) ?_);exact ⟨_,_,_,_,_,_,_,O,aA,⟨aB,aC⟩,k.top,m.top,j,(o.top),i⟩
abbrev Zu:=fun a b=>(jq (⟨a,b⟩ : Cx) (Zd a b)).getD cZ
theorem Tv(w0:World)(c:Cx)(Ac:Option Addr)(cc:Nat)(cJ:Rw w0 52 ab Ac c.gs)(aQ:c.gs.length<=cc)(hc:gf c=true)(dH:ij w0) : RE 18 [.agg #[vi c.n,.slice Ac c.gs.length cc],.func (.func 19) #[] #[]] w0 (fun v w=>∃ (l:List Sr) (A:Option Addr) (e:Nat) (B:Option Addr) (f:Nat) (D:Option Addr) (g:Nat),v=.tuple #[.agg #[vi (cv c).1.n,.slice A (cv c).1.gs.length e,.slice B l.length f,vi (cv c).2.2.n,.slice D (cv c).2.2.gs.length g],.bool (nw c)]/\l.map Sr.rp=(cv c).2.1/\ah w w0.heap.size 56 3 dv B f l/\bj w w0.heap.size (52:TypeId) (⟨0,A,e,(cv c).1.gs,D,g,(cv c).2.2.gs⟩::l)/\Bl w0 w):=by
 obtain ⟨eD,dI,eE⟩:=n' hc
 have dJ:gh c=some c:=by unfold gh;rw [Q4 hc]
 refine enter func18 O 62 O O ?_;intro a hf
 have H:=bz w0
 refine ZS hf fun dK=>?_;refine Zf (bt (zs:=[vi c.n,.slice Ac c.gs.length cc]) O O) ?_;rintro _ w1 ⟨b3,rfl,dL,u,q⟩;have eB:=Q0 H.size dL;have H:=aa H u;refine Zf (Xi (zs:=[vi 0,.slice none 0 0,.slice none 0 0,vi 0,.slice none 0 0]) sy O) ?_;rintro _ w2 ⟨b7,rfl,dM,u,t⟩;have bK:=Q0 H.size dM;have q:=q.bw u;have H:=aa H u;refine Za O<|Zx dK fun a hf _ dN=>?_;refine Ze (Vd O oY 0)<|Ze (X0 O X8 (q.at 0))<|Ze (Vd O is 1)<|Ze (X0 O gj (q.at 1))<|Zf (Vc (AM _ c.n Ac cc c.gs (cJ.bx H).top O0) AD) ?_;rintro _ w3 ⟨A9,c9,rfl,y,u⟩;have y:=y.lower H.size;have q:=q.bw u;have t:=t.bw u;have H:=aa H u
 have hcf':gh ⟨c.n,c.gs⟩=some c:=dJ
 refine Zm O<|Ze (X2 (vs:=[.agg #[vi (((gh ⟨c.n,c.gs⟩).getD cZ).n),.slice A9 (((gh ⟨c.n,c.gs⟩).getD cZ).gs).length c9],.bool ((gh ⟨c.n,c.gs⟩).isSome)]) O O)<|Ze (X2 (vs:=[.agg #[vi (((gh ⟨c.n,c.gs⟩).getD cZ).n),.slice A9 (((gh ⟨c.n,c.gs⟩).getD cZ).gs).length c9],.bool ((gh ⟨c.n,c.gs⟩).isSome)]) O O) ?_;refine ZB [vi (((gh ⟨c.n,c.gs⟩).getD cZ).n),.slice A9 (((gh ⟨c.n,c.gs⟩).getD cZ).gs).length c9] oN mc fun b11 w5 cK u bL=>?_
 have cM:b3≠b11:=by have:=q.lt;omega
 have dP:=Q0 H.size cK;have q:=q.bw u;have t:=t.bw u;have y:=y.bw u;have H:=aa H u;refine Za O<|Zx dN fun a hf _ cO=>?_;refine Ze (Vn g_ bL)<|Ze (Vn g_ bL)<|Ze (Xg (ps:=[(0,.agg #[vi (((gh ⟨c.n,c.gs⟩).getD cZ).n),.slice A9 (((gh ⟨c.n,c.gs⟩).getD cZ).gs).length c9]),(2,.agg #[vi (((gh ⟨c.n,c.gs⟩).getD cZ).n),.slice A9 (((gh ⟨c.n,c.gs⟩).getD cZ).gs).length c9])]) (cs:=[vi (((gh ⟨c.n,c.gs⟩).getD cZ).n),.slice A9 (((gh ⟨c.n,c.gs⟩).getD cZ).gs).length c9,.slice none 0 0,vi (((gh ⟨c.n,c.gs⟩).getD cZ).n),.slice A9 (((gh ⟨c.n,c.gs⟩).getD cZ).gs).length c9]) O (fun _=>by first|rfl|kernel_rfl)) ?_;refine ZB [vi (((gh ⟨c.n,c.gs⟩).getD cZ).n),.slice A9 (((gh ⟨c.n,c.gs⟩).getD cZ).gs).length c9,.slice none 0 0,vi (((gh ⟨c.n,c.gs⟩).getD cZ).n),.slice A9 (((gh ⟨c.n,c.gs⟩).getD cZ).gs).length c9] sy rh fun b19 w7 cP u d=>?_
 have cQ:b7≠b19:=by have:=t.lt;omega
 have aA:=Q0 H.size cP;have q:=q.bw u;have t:=t.bw u;have y:=y.bw u;have H:=aa H u;refine Zt cO fun a hf=>?_;refine Q8<|Xw (σ:=(List Sr)×Int×(List Gt)×Nat) (fun (s:(List Sr)×Int×(List Gt)×Nat) (a:Act) (w:World)=>match s with|(l,i,gs,k)=>∃ b0 b1 aJ aK,Fr a 62 [(1,.func (.func 19) #[] #[]),(2,(ae b3)),(4,(ae b7)),(8,(ae b19))]/\(qY c l ⟨i,gs⟩ k)/\al w b3 28 [vi c.n,.slice Ac c.gs.length cc]/\al w b7 31 [vi 0,.slice none 0 0,.slice none 0 0,vi 0,.slice none 0 0]/\al w b19 31 [vi (((gh ⟨c.n,c.gs⟩).getD cZ).n),.slice A9 (((gh ⟨c.n,c.gs⟩).getD cZ).gs).length c9,.slice b0 l.length b1,vi i,.slice aJ gs.length aK]/\ah w w0.heap.size 52 3 ab A9 c9 (((gh ⟨c.n,c.gs⟩).getD cZ).gs)/\ah w w0.heap.size 56 3 dv b0 b1 l/\Rw w 52 ab aJ gs/\c.gs.length<=cc/\ci w w.heap.size 52 l/\gs.length<=aK/\bj w w0.heap.size (52:TypeId) ((⟨0,A9,c9,((gh ⟨c.n,c.gs⟩).getD cZ).gs,none,0,[]⟩ : Sr)::l)/\Bl w0 w) (fun (s:(List Sr)×Int×(List Gt)×Nat)=>match s with|(l,i,gs,k)=>k) ([],((gh ⟨c.n,c.gs⟩).getD cZ).n,((gh ⟨c.n,c.gs⟩).getD cZ).gs,(ic c.gs)) ?_ ?_
 ·exact ⟨none,0,A9,c9,hf.sb,(by rw [hcf'];exact qY.sta hc),q,t,d,y,(ah.nil _ _ _ _ _),y.rd,aQ,(ci.nil _ _ _),y.cap,(bj.one (x:=(⟨0,A9,c9,((gh ⟨c.n,c.gs⟩).getD cZ).gs,none,0,[]⟩ : Sr)) y (ah.nil _ _ _ _ _) (a_.none_l _).symm),H⟩
 rintro ⟨l,i,gs,k⟩ a w8 ⟨b0,b1,aJ,aK,hf,aG,q,t,d,y,G,aM,aQ,N,b6,C,H⟩;refine Q8<|ZS hf fun cR=>?_;refine Zm O<|Ze (Vd O qS 3)<|Ze (Xt (l:=[vi i,.slice aJ gs.length aK]) O g_ ((d.at 3).take 2) O)<|Zf (ta (cs:=[]) (vs:=[.agg #[vi i,.slice aJ gs.length aK]]) O O UL (Rx _ (⟨i,gs⟩ : Cx) aJ aK aM.top b6 aG.ok (dH.of H))) ?_;rintro _ w9 ⟨I,J,L,M,rfl,m,o,aE,u⟩;have bD:=C.fresh m (Qb _);have bE:=C.fresh o (Qb _);have cS:=y.apart m (Qb _);have m:=m.lower H.size;have cT:=y.apart o (Qb _);have o:=o.lower H.size;have q:=q.bw u;have t:=t.bw u;have d:=d.bw u;have y:=y.bw u;have G:=G.bw u;have aM:=aM.bw u;have N:=N.bw u;have C:=C.bw u;have H:=aa H u;refine Zm O<|Ze (X2 (vs:=[.agg #[vi ((Zd i gs).pos),.slice I ((Zd i gs).old).length J,.slice L ((Zd i gs).new).length M],.bool ((jx (⟨i,gs⟩ : Cx)).isSome)]) O O)<|Ze (X2 (vs:=[.agg #[vi ((Zd i gs).pos),.slice I ((Zd i gs).old).length J,.slice L ((Zd i gs).new).length M],.bool ((jx (⟨i,gs⟩ : Cx)).isSome)]) O O) ?_;refine ZB [vi ((Zd i gs).pos),.slice I ((Zd i gs).old).length J,.slice L ((Zd i gs).new).length M] px ml fun cU eF bM u Q=>?_;have dQ:=Q0 H.size bM;have aL:=G.away bM;have q:=q.bw u;have t:=t.bw u;have d:=d.bw u;have y:=y.bw u;have G:=G.bw u
 have aM:=aM.bw u;have m:=m.bw u;have o:=o.bw u;have N:=N.bw u;have C:=C.bw u;have H:=aa H u;refine Za O<|ZX cR fun a hf _ cV=>?_;refine ZS hf fun cW=>?_;refine Zm O<|Ze (dn O)<|Zt cW fun a hf=>?_
 refine Xz hf O ?_ ?_<;>intro aT
 ·have bP:=aT
  have dR:jx ⟨i,gs⟩=none:=by revert aT;cases jx ⟨i,gs⟩<;>simp
  obtain ⟨b8,bQ⟩:=aG.don hc dR
  have dS:i=c.n:=aG.n
  have dT:gs.length<=400:=(aG.b hc).2.1
  refine ZS hf fun cX=>?_;refine Ze (Vd O oY 0)<|Ze (X0 O X8 (q.at 0))<|Ze (Vd O qS 3)<|Ze (Vd O is 4)<|Ze (X0 O gj (d.at 4))<|Zf (Vc (AM _ c.n aJ aK gs aM.top O0) AD) ?_;rintro _ eH ⟨b2,b4,rfl,aD,u⟩;have dU:=C.fresh aD (Qb _);have d5:=y.apart aD (Qb _);have bU:=m.apart aD (Qb _);have bW:=o.apart aD (Qb _);have aD:=aD.lower H.size;have t:=t.bw u;have d:=d.bw u;have G:=G.bw u;have C:=C.bw u;have H:=aa H u
  have dW:gh ⟨c.n,gs⟩=some ⟨c.n,gs⟩:=by unfold gh;rw [Q4 (by have:=aG.ok;have h9:=aG.n;dsimp only at h9;rw [h9] at this;exact this)]
  refine Zm O<|Ze (X2 (vs:=[.agg #[vi (((gh ⟨c.n,gs⟩).getD cZ).n),.slice b2 (((gh ⟨c.n,gs⟩).getD cZ).gs).length b4],.bool ((gh ⟨c.n,gs⟩).isSome)]) O O)<|Ze (X2 (vs:=[.agg #[vi (((gh ⟨c.n,gs⟩).getD cZ).n),.slice b2 (((gh ⟨c.n,gs⟩).getD cZ).gs).length b4],.bool ((gh ⟨c.n,gs⟩).isSome)]) O O)<|Ze (Vd O qS 3)<|Zo (Vu (vs:=[vi (((gh ⟨c.n,gs⟩).getD cZ).n),.slice b2 (((gh ⟨c.n,gs⟩).getD cZ).gs).length b4]) (l':=[vi (((gh ⟨c.n,c.gs⟩).getD cZ).n),.slice A9 (((gh ⟨c.n,c.gs⟩).getD cZ).gs).length c9,.slice b0 l.length b1,vi (((gh ⟨c.n,gs⟩).getD cZ).n),.slice b2 (((gh ⟨c.n,gs⟩).getD cZ).gs).length b4]) O O mc d) ?_;rintro _ eI ⟨E,hb⟩;have t:=t.oy E O0;have G:=G.oT E d O;have aD:=aD.oT E d O;have C:=C.oT E d O;have H:=Below.oy H E aA;have d:=hb;refine Zx cX fun a hf _ d6=>?_;refine Ze (Vn qj d)<|Zo (Vw [vi (((gh ⟨c.n,c.gs⟩).getD cZ).n),.slice A9 (((gh ⟨c.n,c.gs⟩).getD cZ).gs).length c9,.slice b0 l.length b1,vi (((gh ⟨c.n,gs⟩).getD cZ).n),.slice b2 (((gh ⟨c.n,gs⟩).getD cZ).gs).length b4] rh t) ?_;rintro _ eJ ⟨E,hb⟩;have G:=G.oT E t O;have aD:=aD.oT E t O;have C:=C.oT E t O;have H:=Below.oy H E bK;have t:=hb;refine Za O<|Zt d6 fun a hf=>?_;refine Q6<|X3<|Xn<|X3 ?_;refine Xn<|X4 hf (dj hf O (an.cellN (l:=[vi (((gh ⟨c.n,c.gs⟩).getD cZ).n),.slice A9 (((gh ⟨c.n,c.gs⟩).getD cZ).gs).length c9,.slice b0 l.length b1,vi (((gh ⟨c.n,gs⟩).getD cZ).n),.slice b2 (((gh ⟨c.n,gs⟩).getD cZ).gs).length b4]) O qj (t.at 0) O) O) ?_
  rw [b8,bQ,dS]
  rw [hcf'] at *
  rw [dW] at *
  exact ⟨l,_,_,_,_,_,_,O,O,G,(C.head aD dU),H⟩
 have bP:=aT
 have eC:l.length+ic gs<=400:=Q0 aG.len (Q0 (xS c.gs) dI)
 have dT:gs.length<=400:=(aG.b hc).2.1
 have aZ:jx ⟨i,gs⟩=some ((jx ⟨i,gs⟩).getD df):=by revert aT;cases jx ⟨i,gs⟩<;>simp
 obtain ⟨d7,d8⟩:=yE aZ
 have eK:1<=ic gs:=(AK aG.ok aZ).1
 have b9:=(Bh (r:=(jx ⟨i,gs⟩).getD df) aG.ok).1;refine Q7<|cV _ _<|ZS hf fun d9=>?_;refine Ze (Vd O qS 3)<|Ze (Xt (l:=[vi i,.slice aJ gs.length aK]) O g_ ((d.at 3).take 2) O)<|Ze (Vn mt Q)<|Zf (Vc (Vv _ (⟨i,gs⟩ : Cx) aJ aK aM.top b6 (Zd i gs) I J m.rd.top L M o.rd.top (by show gs.length<=_;omega) (Q0 d7 O2) (Q0 d8 O2)) Tx) ?_;rintro _ eL ⟨aB,aC,rfl,p,u⟩;have dA:=y.apart p (Qb _);have bZ:=m.apart p (Qb _);have cA:=o.apart p (Qb _);have p:=p.lower H.size;have q:=q.bw u;have t:=t.bw u;have d:=d.bw u;have Q:=Q.bw u;have y:=y.bw u;have G:=G.bw u;have m:=m.bw u;have o:=o.bw u;have N:=N.bw u;have C:=C.bw u;have H:=aa H u;refine Zm O<|Ze (X2 (vs:=[.agg #[vi ((Zu i gs).n),.slice aB ((Zu i gs).gs).length aC],.bool ((jq (⟨i,gs⟩ : Cx) (Zd i gs)).isSome)]) O O)<|Ze (X2 (vs:=[.agg #[vi ((Zu i gs).n),.slice aB ((Zu i gs).gs).length aC],.bool ((jq (⟨i,gs⟩ : Cx) (Zd i gs)).isSome)]) O O) ?_;refine ZB [vi ((Zu i gs).n),.slice aB ((Zu i gs).gs).length aC] oN mc fun b37 eM dB u W=>?_
 have dC:b3≠b37:=by have:=q.lt;omega
 have dX:=Q0 H.size dB;have q:=q.bw u;have t:=t.bw u;have d:=d.bw u;have Q:=Q.bw u;have y:=y.bw u;have G:=G.bw u;have m:=m.bw u;have o:=o.bw u;have p:=p.bw u;have N:=N.bw u;have C:=C.bw u;have H:=aa H u;refine Za O<|ZX d9 fun a hf _ dD=>?_;refine ZS hf fun dE=>?_;refine Zm O<|Ze (dn O)<|Zt dE fun a hf=>?_
 refine Xz hf O ?_ ?_<;>intro aN
 ·have bR:=aN
  rw [b9] at aN
  have dF:dc ⟨i,gs⟩ ((jx ⟨i,gs⟩).getD df)=none:=by
   revert aN
   cases dc ⟨i,gs⟩ ((jx ⟨i,gs⟩).getD df)<;>simp
  obtain ⟨b8,bQ⟩:=aG.bd hc aZ dF;refine ZS hf fun dG=>?_;refine Ze (Xg (ps:=[]) (cs:=[vi 0,.slice none 0 0,.slice none 0 0,vi 0,.slice none 0 0]) O (fun _=>by first|rfl|kernel_rfl))<|Zo (Vw [vi 0,.slice none 0 0,.slice none 0 0,vi 0,.slice none 0 0] rh t) ?_;rintro _ eO ⟨E,hb⟩;have H:=Below.oy H E bK;have t:=hb;refine Za O<|Zt dG fun a hf=>?_;refine Q6<|X3<|Xn<|X3 ?_;refine Xn<|X4 hf (dj hf O (an.cellN (l:=[vi 0,.slice none 0 0,.slice none 0 0,vi 0,.slice none 0 0]) O qj (t.at 0) O) O) ?_
  rw [b8,bQ]
  exact ⟨[],_,_,_,_,_,_,O,O,ah.nil _ _ _ _ _,bj.one (ah.nil _ _ _ _ _) (ah.nil _ _ _ _ _) (a_.none_l _),H⟩
 have bR:=aN
 rw [b9] at aN
 have bF:dc ⟨i,gs⟩ ((jx ⟨i,gs⟩).getD df)=some ((jq ⟨i,gs⟩ ((jx ⟨i,gs⟩).getD df)).getD cZ):=by
  rw [b9];revert aN
  cases dc ⟨i,gs⟩ ((jx ⟨i,gs⟩).getD df)<;>simp
 refine Q7<|dD _ _<|gx none (fun j=>[4,7,9].contains j) mixed ?_;intro eP u;have q:=q.bw u;have t:=t.bw u;have d:=d.bw u;have Q:=Q.bw u;have W:=W.bw u;have y:=y.bw u;have G:=G.bw u;have m:=m.bw u;have o:=o.bw u;have p:=p.bw u;have N:=N.bw u;have C:=C.bw u;have H:=aa H u;refine Yb hf<|Yo 0 O (fun _=>Vd O sM 2)<|Ye 1 O (X0 O uI (d.at 2))<|Ye 2 O (Vn mt Q) ?_;refine Y2 3 5 ?_ ?_
 ·refine Yk O ad (X6 (k:=1) (vs:=[.agg #[vi ((Zd i gs).pos),.slice I ((Zd i gs).old).length J,.slice L ((Zd i gs).new).length M]]) (zs:=[vi ((Zd i gs).pos),.slice I ((Zd i gs).old).length J,.slice L ((Zd i gs).new).length M]) O pR uU O O) (fun _ _ ⟨_,_,_,h,_⟩=>h) ?_;rintro _ eQ ⟨b45,rfl,bN,u,aR⟩
  have cB:cU≠b45:=by have:=Q.lt;omega
  have dY:=Q0 H.size bN;have aS:=G.away bN;have q:=q.bw u;have t:=t.bw u;have d:=d.bw u;have Q:=Q.bw u;have W:=W.bw u;have y:=y.bw u;have G:=G.bw u;have m:=m.bw u;have o:=o.bw u;have p:=p.bw u;have N:=N.bw u;have C:=C.bw u;have H:=aa H u;refine Y2 4 5 ?_ ?_
  ·refine Yt O ad O (jf (enc:=dv) (l:=(l)) (l2:=([(Zy i gs I J L M)])) (B0:=w0.heap.size) O O pR uU sk Ao G (Rd.of_blk aR O _ aR.lt) (by simp only [maxLen];simp;omega) O5 H.size) ?_;rintro _ eR ⟨aU,aW,rfl,aF,hg,aO⟩
   have z:ah _ w0.heap.size 56 3 dv _ _ (l):=G
   have cC:=aO _ Q.lt aL;have cD:=aO _ aR.lt aS;clear aO;have U:=ci.snoc (l:=l) (x:=(Zy i gs I J L M)) N.top m.rd.top o.rd.top;have q:=q.appT z hg O;have t:=t.appT z hg O;have d:=d.appT z hg O;have W:=W.appT z hg O;have y:=y.appT z hg O;have m:=m.appT z hg O;have o:=o.appT z hg O;have p:=p.appT z hg O;have U:=U.appT z hg O;have C:=C.appT z hg O;have H:=Below.app H z hg (Qb _) H.size;clear z hg;refine Yo 6 O (fun _=>Vd O sM 2) ?_;refine Y2 5 7 ?_ ?_
   ·refine Yz O ad (rS (Xt (l:=[vi ((Zu i gs).n),.slice aB ((Zu i gs).gs).length aC]) O g_ (W.at 0) O)) ?_;refine Y1 7<|Yh O ad O (Vu (vs:=[.slice aU (l++([(Zy i gs I J L M)])).length aW]) (l':=[vi (((gh ⟨c.n,c.gs⟩).getD cZ).n),.slice A9 (((gh ⟨c.n,c.gs⟩).getD cZ).gs).length c9,.slice aU (l++([(Zy i gs I J L M)])).length aW,vi i,.slice aJ gs.length aK]) O O xq d) ?_;rintro _ eS ⟨E,hb⟩;have q:=q.oz E d O;have t:=t.oy E O0;have y:=y.oT E d O;have m:=m.oT E d O;have o:=o.oT E d O;have p:=p.oT E d O;have aF:=aF.oT E d O;have U:=U.oT E d O;have C:=C.oT E d O;have H:=Below.oy H E aA;have d:=hb;refine Yo 8 O (fun _=>Vd O qS 3)<|Y1 9 ?_;refine Yh O ad O (Vu (vs:=[vi ((Zu i gs).n),.slice aB ((Zu i gs).gs).length aC]) (l':=[vi (((gh ⟨c.n,c.gs⟩).getD cZ).n),.slice A9 (((gh ⟨c.n,c.gs⟩).getD cZ).gs).length c9,.slice aU (l++([(Zy i gs I J L M)])).length aW,vi ((Zu i gs).n),.slice aB ((Zu i gs).gs).length aC]) O O mc d) ?_;rintro _ eT ⟨E,hb⟩
    have q:=q.oz E d O;have t:=t.oy E O0;have y:=y.oT E d O;have m:=m.oT E d O;have o:=o.oT E d O;have p:=p.oT E d O;have aF:=aF.oT E d O;have U:=U.oT E d O;have C:=C.oT E d O;have H:=Below.oy H E aA;have d:=hb;refine Yd fun a hf=>?_;refine Xk ?_;obtain ⟨k2,bS,aP⟩:=aG.nxt aZ bF (s:=⟨(Zd i gs).pos,I,J,(Zd i gs).old,L,M,(Zd i gs).new⟩) O;refine Xb ?_;exact ⟨(l++([(Zy i gs I J L M)]),(Zu i gs).n,(Zu i gs).gs,k2),⟨aU,aW,aB,aC,hf.sb,aP,q,t,d,y,aF,p.rd,aQ,U.top,p.cap,(bj.snoc (x:=⟨(Zd i gs).pos,I,J,(Zd i gs).old,L,M,(Zd i gs).new⟩) C m o aE bD bE),H⟩,O3⟩
   refine Yh O ad O (Vu (vs:=[.slice aU (l++([(Zy i gs I J L M)])).length aW]) (l':=[vi (((gh ⟨c.n,c.gs⟩).getD cZ).n),.slice A9 (((gh ⟨c.n,c.gs⟩).getD cZ).gs).length c9,.slice aU (l++([(Zy i gs I J L M)])).length aW,vi i,.slice aJ gs.length aK]) O O xq d) ?_;rintro _ eU ⟨E,hb⟩;have q:=q.oz E d O;have t:=t.oy E O0;have W:=W.oz E d O;have y:=y.oT E d O;have m:=m.oT E d O;have o:=o.oT E d O;have p:=p.oT E d O;have aF:=aF.oT E d O;have U:=U.oT E d O;have C:=C.oT E d O;have H:=Below.oy H E aA;have d:=hb;refine Y1 5<|Yz O ad (rS (Xt (l:=[vi ((Zu i gs).n),.slice aB ((Zu i gs).gs).length aC]) O g_ (W.at 0) O)) ?_;refine Yo 8 O (fun _=>Vd O qS 3)<|Y1 9 ?_;refine Yh O ad O (Vu (vs:=[vi ((Zu i gs).n),.slice aB ((Zu i gs).gs).length aC]) (l':=[vi (((gh ⟨c.n,c.gs⟩).getD cZ).n),.slice A9 (((gh ⟨c.n,c.gs⟩).getD cZ).gs).length c9,.slice aU (l++([(Zy i gs I J L M)])).length aW,vi ((Zu i gs).n),.slice aB ((Zu i gs).gs).length aC]) O O mc d) ?_;rintro _ eV ⟨E,hb⟩
   have q:=q.oz E d O;have t:=t.oy E O0;have y:=y.oT E d O;have m:=m.oT E d O;have o:=o.oT E d O;have p:=p.oT E d O;have aF:=aF.oT E d O;have U:=U.oT E d O;have C:=C.oT E d O;have H:=Below.oy H E aA;have d:=hb;refine Yd fun a hf=>?_;refine Xk ?_;obtain ⟨k2,bS,aP⟩:=aG.nxt aZ bF (s:=⟨(Zd i gs).pos,I,J,(Zd i gs).old,L,M,(Zd i gs).new⟩) O;refine Xb ?_;exact ⟨(l++([(Zy i gs I J L M)]),(Zu i gs).n,(Zu i gs).gs,k2),⟨aU,aW,aB,aC,hf.sb,aP,q,t,d,y,aF,p.rd,aQ,U.top,p.cap,(bj.snoc (x:=⟨(Zd i gs).pos,I,J,(Zd i gs).old,L,M,(Zd i gs).new⟩) C m o aE bD bE),H⟩,O3⟩
  refine Yz O ad (rS (Xt (l:=[vi ((Zu i gs).n),.slice aB ((Zu i gs).gs).length aC]) O g_ (W.at 0) O)) ?_;refine Y1 4<|Yt O ad O (jf (enc:=dv) (l:=(l)) (l2:=([(Zy i gs I J L M)])) (B0:=w0.heap.size) O O pR uU sk Ao G (Rd.of_blk aR O _ aR.lt) (by simp only [maxLen];simp;omega) O5 H.size) ?_;rintro _ eW ⟨bG,bH,rfl,aX,hg,aO⟩
  have z:ah _ w0.heap.size 56 3 dv _ _ (l):=G
  have cE:=aO _ Q.lt aL;have cF:=aO _ aR.lt aS;clear aO;have aH:=ci.snoc (l:=l) (x:=(Zy i gs I J L M)) N.top m.rd.top o.rd.top;have q:=q.appT z hg O;have t:=t.appT z hg O;have d:=d.appT z hg O;have y:=y.appT z hg O;have m:=m.appT z hg O;have o:=o.appT z hg O;have p:=p.appT z hg O;have aH:=aH.appT z hg O;have C:=C.appT z hg O;have H:=Below.app H z hg (Qb _) H.size;clear z hg;refine Yo 6 O (fun _=>Vd O sM 2)<|Y1 7 ?_;refine Yh O ad O (Vu (vs:=[.slice bG (l++([(Zy i gs I J L M)])).length bH]) (l':=[vi (((gh ⟨c.n,c.gs⟩).getD cZ).n),.slice A9 (((gh ⟨c.n,c.gs⟩).getD cZ).gs).length c9,.slice bG (l++([(Zy i gs I J L M)])).length bH,vi i,.slice aJ gs.length aK]) O O xq d) ?_;rintro _ eX ⟨E,hb⟩;have q:=q.oz E d O;have t:=t.oy E O0;have y:=y.oT E d O;have m:=m.oT E d O;have o:=o.oT E d O;have p:=p.oT E d O;have aX:=aX.oT E d O;have aH:=aH.oT E d O;have C:=C.oT E d O;have H:=Below.oy H E aA;have d:=hb;refine Yo 8 O (fun _=>Vd O qS 3)<|Y1 9 ?_;refine Yh O ad O (Vu (vs:=[vi ((Zu i gs).n),.slice aB ((Zu i gs).gs).length aC]) (l':=[vi (((gh ⟨c.n,c.gs⟩).getD cZ).n),.slice A9 (((gh ⟨c.n,c.gs⟩).getD cZ).gs).length c9,.slice bG (l++([(Zy i gs I J L M)])).length bH,vi ((Zu i gs).n),.slice aB ((Zu i gs).gs).length aC]) O O mc d) ?_;rintro _ eY ⟨E,hb⟩
  have q:=q.oz E d O;have t:=t.oy E O0;have y:=y.oT E d O;have m:=m.oT E d O;have o:=o.oT E d O;have p:=p.oT E d O;have aX:=aX.oT E d O;have aH:=aH.oT E d O;have C:=C.oT E d O;have H:=Below.oy H E aA;have d:=hb;refine Yd fun a hf=>?_;refine Xk ?_;obtain ⟨k2,bS,aP⟩:=aG.nxt aZ bF (s:=⟨(Zd i gs).pos,I,J,(Zd i gs).old,L,M,(Zd i gs).new⟩) O;refine Xb ?_;exact ⟨(l++([(Zy i gs I J L M)]),(Zu i gs).n,(Zu i gs).gs,k2),⟨bG,bH,aB,aC,hf.sb,aP,q,t,d,y,aX,p.rd,aQ,aH.top,p.cap,(bj.snoc (x:=⟨(Zd i gs).pos,I,J,(Zd i gs).old,L,M,(Zd i gs).new⟩) C m o aE bD bE),H⟩,O3⟩
 refine Yz O ad (rS (Xt (l:=[vi ((Zu i gs).n),.slice aB ((Zu i gs).gs).length aC]) O g_ (W.at 0) O)) ?_;refine Y1 3<|Yk O ad (X6 (k:=1) (vs:=[.agg #[vi ((Zd i gs).pos),.slice I ((Zd i gs).old).length J,.slice L ((Zd i gs).new).length M]]) (zs:=[vi ((Zd i gs).pos),.slice I ((Zd i gs).old).length J,.slice L ((Zd i gs).new).length M]) O pR uU O O) (fun _ _ ⟨_,_,_,h,_⟩=>h) ?_;rintro _ eZ ⟨b49,rfl,bO,u,bC⟩
 have cG:cU≠b49:=by have:=Q.lt;omega
 have eA:=Q0 H.size bO;have b5:=G.away bO;have q:=q.bw u;have t:=t.bw u;have d:=d.bw u;have Q:=Q.bw u;have y:=y.bw u;have G:=G.bw u;have m:=m.bw u;have o:=o.bw u;have p:=p.bw u;have N:=N.bw u;have C:=C.bw u;have H:=aa H u;refine Y1 4<|Yt O ad O (jf (enc:=dv) (l:=(l)) (l2:=([(Zy i gs I J L M)])) (B0:=w0.heap.size) O O pR uU sk Ao G (Rd.of_blk bC O _ bC.lt) (by simp only [maxLen];simp;omega) O5 H.size) ?_;rintro _ f7 ⟨bI,bJ,rfl,aY,hg,aO⟩
 have z:ah _ w0.heap.size 56 3 dv _ _ (l):=G
 have cH:=aO _ Q.lt aL;have cI:=aO _ bC.lt b5;clear aO;have aI:=ci.snoc (l:=l) (x:=(Zy i gs I J L M)) N.top m.rd.top o.rd.top;have q:=q.appT z hg O;have t:=t.appT z hg O;have d:=d.appT z hg O;have y:=y.appT z hg O;have m:=m.appT z hg O;have o:=o.appT z hg O;have p:=p.appT z hg O;have aI:=aI.appT z hg O;have C:=C.appT z hg O;have H:=Below.app H z hg (Qb _) H.size;clear z hg;refine Yo 6 O (fun _=>Vd O sM 2)<|Y1 7 ?_;refine Yh O ad O (Vu (vs:=[.slice bI (l++([(Zy i gs I J L M)])).length bJ]) (l':=[vi (((gh ⟨c.n,c.gs⟩).getD cZ).n),.slice A9 (((gh ⟨c.n,c.gs⟩).getD cZ).gs).length c9,.slice bI (l++([(Zy i gs I J L M)])).length bJ,vi i,.slice aJ gs.length aK]) O O xq d) ?_;rintro _ f8 ⟨E,hb⟩;have q:=q.oz E d O;have t:=t.oy E O0;have y:=y.oT E d O;have m:=m.oT E d O;have o:=o.oT E d O;have p:=p.oT E d O;have aY:=aY.oT E d O;have aI:=aI.oT E d O;have C:=C.oT E d O;have H:=Below.oy H E aA;have d:=hb;refine Yo 8 O (fun _=>Vd O qS 3)<|Y1 9 ?_;refine Yh O ad O (Vu (vs:=[vi ((Zu i gs).n),.slice aB ((Zu i gs).gs).length aC]) (l':=[vi (((gh ⟨c.n,c.gs⟩).getD cZ).n),.slice A9 (((gh ⟨c.n,c.gs⟩).getD cZ).gs).length c9,.slice bI (l++([(Zy i gs I J L M)])).length bJ,vi ((Zu i gs).n),.slice aB ((Zu i gs).gs).length aC]) O O mc d) ?_;rintro _ fA ⟨E,hb⟩
 have q:=q.oz E d O;have t:=t.oy E O0;have y:=y.oT E d O;have m:=m.oT E d O;have o:=o.oT E d O;have p:=p.oT E d O;have aY:=aY.oT E d O;have aI:=aI.oT E d O;have C:=C.oT E d O;have H:=Below.oy H E aA;have d:=hb;refine Yd fun a hf=>?_;refine Xk ?_;obtain ⟨k2,bS,aP⟩:=aG.nxt aZ bF (s:=⟨(Zd i gs).pos,I,J,(Zd i gs).old,L,M,(Zd i gs).new⟩) O;refine Xb ?_;exact ⟨(l++([(Zy i gs I J L M)]),(Zu i gs).n,(Zu i gs).gs,k2),⟨bI,bJ,aB,aC,hf.sb,aP,q,t,d,y,aY,p.rd,aQ,aI.top,p.cap,(bj.snoc (x:=⟨(Zd i gs).pos,I,J,(Zd i gs).old,L,M,(Zd i gs).new⟩) C m o aE bD bE),H⟩,O3⟩
def GW(u:World)(c:Cx)(Ac:Option Addr)(cc:Nat)(i:Rw u 52 ab Ac c.gs)(aB:c.gs.length<=cc)(aF:c.gs.length<=1000000000)(aG:ij u):RE 7 [.agg #[vi c.n,.slice Ac c.gs.length cc]] u (fun v w=>∃ (l:List Sr) (A:Option Addr) (e:Nat) (B:Option Addr) (f:Nat) (D:Option Addr) (g:Nat),v=.tuple #[.agg #[vi (cv c).1.n,.slice A (cv c).1.gs.length e,.slice B l.length f,vi (cv c).2.2.n,.slice D (cv c).2.2.gs.length g],.bool (nw c)]/\l.map Sr.rp=(cv c).2.1/\ah w u.heap.size 56 3 dv B f l/\bj w u.heap.size (52:TypeId) (⟨0,A,e,(cv c).1.gs,D,g,(cv c).2.2.gs⟩::l)/\Bl u w):=by
 refine enter func7 O 12 O O ?_;intro a p;have k:=bz u;refine ZS p fun aH=>Zf (bt (zs:=[vi c.n,.slice Ac c.gs.length cc]) O O) ?_;rintro _ w1 ⟨b3,rfl,aI,o,q⟩;have aQ:=Q0 k.size aI;have i:=i.bw o;have k:=aa k o;refine Zf (Xi (zs:=[vi 0,.slice none 0 0,.slice none 0 0,vi 0,.slice none 0 0]) sy O) ?_;rintro _ w2 ⟨b7,rfl,aJ,o,j⟩;have H:=Q0 k.size aJ;have ⟨q,i,k⟩:=bh o q i k;refine Za O<|ZX aH fun a p _ aK=>ZS p fun aL=>Ze (Vn g_ q)<|Zf (Vc (xY _ c Ac cc i.top (Q0 aF O2)) xT) ?_;rintro _ w3 ⟨rfl,o⟩;have ⟨q,j,i,k⟩:=dk o q j i k;refine Ze (dn O)<|Zt aL fun a p=>Xz p O ?_ ?_<;>intro t
 ·have hc:gf c=false:=uT t;have ⟨aC,aM⟩:=IF hc;refine ZS p fun aD=>Ze (Xg (ps:=[]) (cs:=[vi 0,.slice none 0 0,.slice none 0 0,vi 0,.slice none 0 0]) O (fun _=>by first|rfl|kernel_rfl))<|Zo (Vw [vi 0,.slice none 0 0,.slice none 0 0,vi 0,.slice none 0 0] rh j) ?_;intro _ w4 ⟨ho,hb⟩;have k:=Below.oy k ho H;have j:=hb;refine Za O<|Zt aD fun a p=>Q6<|X3<|X4 p (dj p O (an.cellN (l:=[vi 0,.slice none 0 0,.slice none 0 0,vi 0,.slice none 0 0]) O qj (j.at 0) O) O) ?_;rw[aC,aM];exact ⟨[],_,_,_,_,_,_,O,O,ah.nil _ _ _ _ _,bj.one (ah.nil _ _ _ _ _) (ah.nil _ _ _ _ _) (a_.none_l _),k⟩
 have hc:gf c=true:=v6 t;refine Q7<|aK _ _<|ZS p fun aE=>Ze (Vn g_ q)<|Zf (Vc (Tv _ c Ac cc i.top aB hc (aG.of k)) OT) ?_;rintro _ w5 ⟨x,y,z,h,C,E,G,rfl,aA,m,d,o⟩;have aN:=(d.1 _ (Qk ..)).1.rd;have aO:=(d.1 _ (Qk ..)).2.1.rd;have aP:=d.tail.rd;have d:=d.lower k.size;have m:=m.lower k.size;have j:=j.bw o;have k:=aa k o;refine Ze (X2 (vs:=[.agg #[vi ((cv c).1.n),.slice y ((cv c).1.gs).length z,.slice h x.length C,vi ((cv c).2.2.n),.slice E ((cv c).2.2.gs).length G],.bool (nw c)]) O O)<|Ze (X2 (vs:=[.agg #[vi ((cv c).1.n),.slice y ((cv c).1.gs).length z,.slice h x.length C,vi ((cv c).2.2.n),.slice E ((cv c).2.2.gs).length G],.bool (nw c)]) O O)<|Zo (Vw [vi ((cv c).1.n),.slice y ((cv c).1.gs).length z,.slice h x.length C,vi ((cv c).2.2.n),.slice E ((cv c).2.2.gs).length G] rh j) ?_;intro _ w6 ⟨ho,hb⟩;have m:=m.oT ho j O;have d:=d.oT ho j O;have k:=Below.oy k ho H;have j:=hb;refine Za O<|Zt aE fun a p=>Q6 (X4 p (dj p O (an.cellN (l:=[vi ((cv c).1.n),.slice y ((cv c).1.gs).length z,.slice h x.length C,vi ((cv c).2.2.n),.slice E ((cv c).2.2.gs).length G]) O qj (j.at 0) O) O) ?_);exact ⟨_,_,_,_,_,_,_,O,aA,m,d,k⟩
theorem PO(w0:World){Xc:TypeId}(c:Cx)(Ac:Option Addr)(cc:Nat)(b1:Rw w0 Xc ab Ac c.gs)(dS:c.gs.length<=9223372036854775807)(cE:ij w0) : RE 3 [.agg #[vi c.n,.slice Ac c.gs.length cc]] w0 (fun v w=>v=.bool true/\Bl w0 w):=by
 obtain ⟨bI,bJ,eT,eU⟩:=JC c;refine enter func3 O 96 O O ?_;intro a h
 have z:=bz w0
 refine ZS h fun dT=>?_;refine Zf (bt (zs:=[vi c.n,.slice Ac c.gs.length cc]) O O) ?_;rintro _ w1 ⟨b3,rfl,dU,e,u⟩;have eS:=Q0 z.size dU;have z:=aa z e;refine Za O<|Zx dT fun a h _ dW=>?_;refine Za O<|Zx dW fun a h _ dX=>?_;refine Ze (Vn wF u)<|Zm O<|Zf (Vc (Km _ c Ac cc (b1.bx z).top 1048576 O0 dS) MD) ?_;rintro _ w2 ⟨rfl,e⟩;have u:=u.bw e;have z:=aa z e;refine Za O<|ZX dX fun a h _ dY=>?_;refine ZS h fun eA=>?_;refine Zm O<|Ze (ew O O)<|Zt eA fun a h=>?_
 refine eh h O (fun E cF=>?_) (fun E cF=>?_)
 ·refine ZS h fun eB=>?_;refine Za O<|Zt eB fun a h=>?_;refine Q6<|X3<|X4 h (Xu h O O) ?_;exact ⟨O,z⟩
 have aX:c.gs.length<=1048576:=by have:=U2 cF;omega
 refine Q7<|dY _ _<|ZS h fun cG=>?_;refine Ze (Vn wF u)<|Zf (Vc (Ak _ c Ac cc (b1.bx z).top aX) yH) ?_;rintro _ w3 ⟨eC,eD,rfl,bK,e⟩;have bK:=bK.lower z.size;have u:=u.bw e;have z:=aa z e;refine Zf (Vc (UD _ c eC eD bK.rd.top (Q0 aX O2)) Rk) ?_;rintro _ w4 ⟨lz22,aQ,aR,aS,aT,aU,aW,rfl,aY,⟨dQ,dR⟩,f,g,bL,d,e⟩;have i:=bL.rd;clear bL;have u:=u.bw e;have z:=aa z e;refine Zm O<|Ze (X2 (vs:=[.agg #[vi ((cv c).1.n),.slice aQ ((cv c).1.gs).length aR,.slice aS lz22.length aT,vi ((cv c).2.2.n),.slice aU ((cv c).2.2.gs).length aW],.bool (nw c)]) O O)<|Ze (X2 (vs:=[.agg #[vi ((cv c).1.n),.slice aQ ((cv c).1.gs).length aR,.slice aS lz22.length aT,vi ((cv c).2.2.n),.slice aU ((cv c).2.2.gs).length aW],.bool (nw c)]) O O) ?_;refine ZB [vi ((cv c).1.n),.slice aQ ((cv c).1.gs).length aR,.slice aS lz22.length aT,vi ((cv c).2.2.n),.slice aU ((cv c).2.2.gs).length aW] sy rh fun bM w6 cH e q=>?_;have eE:=Q0 z.size cH;have u:=u.bw e;have f:=f.bw e;have i:=i.bw e;have g:=g.bw e;have d:=d.bw e;have z:=aa z e;refine Za O<|Zx cG fun a h _ cI=>?_;refine Ze (Vn wF u)<|Zf (Vc (Ak _ c Ac cc (b1.bx z).top aX) yH) ?_;rintro _ w7 ⟨A20,bN,rfl,x,e⟩;have bO:=z.size
 have t:w6.heap.size<=w6.heap.size:=Qb _
 have f:=f.top;have i:=i.top;have d:=d.top;have g:=g.top;have u:=u.bw e;have q:=q.bw e;have f:=f.bw e;have i:=i.bw e;have g:=g.bw e;have d:=d.bw e;have t:=Q0 t (e).size;have z:=aa z e;refine Zf (Xi (zs:=[vi 0,.slice none 0 0]) oN O) ?_;rintro _ w8 ⟨eF,rfl,cJ,e,y⟩;have bS:=Q0 z.size cJ;have u:=u.bw e;have q:=q.bw e;have f:=f.bw e;have i:=i.bw e;have g:=g.bw e;have x:=x.bw e;have d:=d.bw e;have t:=Q0 t (e).size;have z:=aa z e;refine Zo (Vw [vi c.n,.slice A20 c.gs.length bN] mc y) ?_;rintro _ w9 ⟨M,hb⟩;have u:=u.oz M y O;have q:=q.oz M y O;have f:=f.oT M y O;have i:=i.oT M y O;have g:=g.oT M y O;have x:=x.oT M y O;have d:=d.oT M y O;have t:=Q0 t (Nat.le_of_eq (M).size.symm);have z:=Below.oy z M bS;have y:=hb;refine Zx cI fun a h _ cK=>?_;refine Ze (Vn g_ y)<|Zf (Vc (GW _ c A20 bN x.rd.top x.cap (Q0 aX O2) (cE.of z)) Jh) ?_;rintro _ eV ⟨C,aA,aB,aL,aM,aC,aD,rfl,aZ,m,o,e⟩;have j:=(o.1 _ (Qk ..)).1.rd;have k:=(o.1 _ (Qk ..)).2.1.rd;have l:=o.tail.rd
 have eH:∀ s9 ∈ ((⟨0,aA,aB,(cv c).1.gs,aC,aD,(cv c).2.2.gs⟩ : Sr)::C:List Sr),a_ s9.A A20/\a_ s9.B A20:=fun s9 aE=>⟨(x.apart (o.1 s9 aE).1 (Qb _)).symm,(x.apart (o.1 s9 aE).2.1 (Qb _)).symm⟩
 have o:=o.lower t;have m:=m.lower t;have u:=u.bw e;have q:=q.bw e;have y:=y.bw e;have f:=f.bw e;have i:=i.bw e;have g:=g.bw e;have x:=x.bw e;have d:=d.bw e;have t:=Q0 t (e).size;have z:=aa z e;obtain ⟨b2,aO⟩:=GQ aZ;refine Zm O<|Ze (X2 (vs:=[.agg #[vi ((cv c).1.n),.slice aA ((cv c).1.gs).length aB,.slice aL C.length aM,vi ((cv c).2.2.n),.slice aC ((cv c).2.2.gs).length aD],.bool (nw c)]) O O)<|Ze (X2 (vs:=[.agg #[vi ((cv c).1.n),.slice aA ((cv c).1.gs).length aB,.slice aL C.length aM,vi ((cv c).2.2.n),.slice aC ((cv c).2.2.gs).length aD],.bool (nw c)]) O O)<|Zf (Xi (zs:=[vi 0,.slice none 0 0,.slice none 0 0,vi 0,.slice none 0 0]) sy O) ?_;rintro _ eW ⟨b30,rfl,cM,e,p⟩
 have bZ:bM≠b30:=by have:=q.lt;omega
 have bU:=Q0 z.size cM;have u:=u.bw e;have q:=q.bw e;have y:=y.bw e;have f:=f.bw e;have i:=i.bw e;have g:=g.bw e;have x:=x.bw e;have j:=j.bw e;have m:=m.bw e;have k:=k.bw e;have d:=d.bw e;have l:=l.bw e;have t:=Q0 t (e).size;have o:=o.bw e;have z:=aa z e;refine Zo (Vw [vi ((cv c).1.n),.slice aA ((cv c).1.gs).length aB,.slice aL C.length aM,vi ((cv c).2.2.n),.slice aC ((cv c).2.2.gs).length aD] rh p) ?_;rintro _ w12 ⟨M,hb⟩;have u:=u.oz M p O;have q:=q.oy M O0;have y:=y.oz M p O;have f:=f.oT M p O;have i:=i.oT M p O;have g:=g.oT M p O;have x:=x.oT M p O;have j:=j.oT M p O;have m:=m.oT M p O;have k:=k.oT M p O;have d:=d.oT M p O;have l:=l.oT M p O;have t:=Q0 t (Nat.le_of_eq (M).size.symm);have o:=o.oT M p O;have z:=Below.oy z M bU;have p:=hb;refine Za O<|ZX cK fun a h _ cO=>?_;refine Q5 fun _ cP=>?_;refine eo (fun a w=>Fr a 96 [(1,(ae b3)),(4,(ae bM)),(5,.bool (nw c)),(6,(ae eF)),(7,(ae b30)),(8,.bool (nw c)),(40,.bool ((!(p' ((cv c).1) ((cv c).1)&&decide (C.map Sr.rp=lz22.map Sr.rp)&&p' ((cv c).2.2) ((cv c).2.2)))||((nw c) != (nw c))))]/\Bl w12 w) ?_ ?_
 ·have W:Bl w12 w12:=Below.refl _ _
  refine Zr h<|Ze (Vn qj p)<|Ze (Vn qj q)<|Zf (Vc (Cl _ ((cv c).1) aA aB j.top aL aM C m.rd.top l.top ((cv c).2.2) aC aD k.top ((cv c).1) aQ aR f.top aS aT lz22 i.top d.top ((cv c).2.2) aU aW g.top (Q0 bI O2) (Q0 b2 O2) (fun s9 aE=>⟨Q0 (aO s9 aE).1 O2,Q0 (aO s9 aE).2 O2⟩) (Q0 bJ O2)) B3) ?_;rintro _ eX ⟨rfl,e⟩;have t:=Q0 t (e).size;have z:=aa z e;have W:=aa W e;refine Ze (dn O)<|Zm O ?_
  refine Zg 36 O ?_ ?_<;>intro G
  ·(iterate 3 refine Zp (gP G) ?_);refine Ze (Xh O G O) ?_;refine Zn fun a h=>?_;exact ⟨h.sub ⟨O,O,O,O,O,O,X1 O (by first|rfl|(simp only [E,G,Qw,Bool.false_and,Bool.true_or,Bool.false_or];done)|(simp [E,G];done)|(exfalso;revert G;simp)),trivial⟩,W⟩
  refine Zv (gW G) (X7 O) ?_;refine Zv (gW G) (X7 O) ?_;refine Zv (gW G) (Cd underlying4 O O) ?_;refine Ze (X9 O G O) ?_;refine Zn fun a h=>?_;exact ⟨h.sub ⟨O,O,O,O,O,O,X1 O (by first|rfl|(simp only [E,G,Qw,Bool.false_and,Bool.true_or,Bool.false_or];done)|(simp [E,G];done)|(exfalso;revert G;simp)),trivial⟩,W⟩
 rintro a eY ⟨h,e⟩;have u:=u.bw e;have q:=q.bw e;have y:=y.bw e;have p:=p.bw e;have f:=f.bw e;have i:=i.bw e;have g:=g.bw e;have x:=x.bw e;have j:=j.bw e;have m:=m.bw e;have k:=k.bw e;have d:=d.bw e;have l:=l.bw e;have t:=Q0 t (e).size;have o:=o.bw e;have z:=aa z e;refine cP _ _ ?_
 refine Xz h O ?_ ?_<;>intro L
 ·have eI:=L
  rw [aZ,aY] at L;simp [p'] at L
 refine Q7<|cO _ _<|Q5 fun _ cQ=>?_;refine Q5 fun _ cR=>?_;refine gx none (fun _=>false) mixed ?_;intro eZ e;have u:=u.bw e;have q:=q.bw e;have y:=y.bw e;have p:=p.bw e;have f:=f.bw e;have i:=i.bw e;have g:=g.bw e;have x:=x.bw e;have j:=j.bw e;have m:=m.bw e;have k:=k.bw e;have d:=d.bw e;have l:=l.bw e;have t:=Q0 t (e).size;have o:=o.bw e;have z:=aa z e;refine Yb h<|Ye 0 O (Vn g_ y)<|Ye 1 O (Vn wF u)<|Y1 2 ?_;refine Yk O ad (Vc (Ak _ c Ac cc (b1.bx z).top aX) yH) (fun _ _ ⟨cS,cT,_,b4,e⟩=>e) ?_;rintro _ f7 ⟨cS,cT,rfl,b4,e⟩;have cA:=x.apart b4 (Qb _);have b4:=b4.lower z.size;have u:=u.bw e;have q:=q.bw e;have y:=y.bw e;have p:=p.bw e;have f:=f.bw e;have i:=i.bw e;have g:=g.bw e;have x:=x.bw e;have j:=j.bw e;have m:=m.bw e;have k:=k.bw e;have d:=d.bw e;have l:=l.bw e;have t:=Q0 t (e).size;have o:=o.bw e;have z:=aa z e;refine Y1 3<|Yk O ad (Vc (Cw _ c A20 bN x.rd.top c cS cT b4.rd.top (Q0 aX O2)) CO) (fun _ _ ⟨_,e⟩=>e) ?_;rintro _ f8 ⟨rfl,e⟩;have u:=u.bw e;have q:=q.bw e;have y:=y.bw e;have p:=p.bw e;have f:=f.bw e;have i:=i.bw e;have g:=g.bw e;have x:=x.bw e
 have j:=j.bw e;have m:=m.bw e;have k:=k.bw e;have d:=d.bw e;have l:=l.bw e;have t:=Q0 t (e).size;have o:=o.bw e;have z:=aa z e;refine Yo 4 O (fun _=>dn O) ?_;refine Yd fun a h=>?_;refine cR _ _ ?_
 refine Xz h O ?_ ?_<;>intro N
 ·have eJ:=N
  simp [p'] at N
 refine Q7<|cQ _ _<|ZS h fun cU=>?_;refine Za O<|Zx cU fun a h _ cV=>?_;refine Ze (Vn g_ y)<|Zm O ?_;clear j;clear k;clear l;refine Zf (Vc (Di _ w6.heap.size A20 bN c.gs x c.n 1 O2 (Q0 aX O2)) B_) ?_;rintro _ w18 ⟨rfl,b5,hg⟩;have U:=x;have u:=u.appT U hg O;have q:=q.appT U hg O;have p:=p.appT U hg O;have f:=f.appB U hg (Qb _);have i:=i.appT U hg O;have g:=g.appB U hg (Qb _);have m:=m.appT U hg O;have d:=d.appB U hg (Qb _);have t:=Q0 t (hg).size;have o:=o.appP hg eH;have z:=Below.app z U hg bO z.size
 clear U hg;clear x;have x:=b5;clear b5;refine Za O<|ZX cV fun a h _ cW=>?_;refine Q5 fun _ cX=>?_;refine eo (fun a w=>Fr a 96 [(1,(ae b3)),(4,(ae bM)),(5,.bool (nw c)),(7,(ae b30)),(61,.bool (((decide ((1+3*(c.gs.length:Int))<0))||(!(p' ((cv c).1) ((cv c).1)&&decide (C.map Sr.rp=lz22.map Sr.rp)&&p' ((cv c).2.2) ((cv c).2.2))))||((nw c) != (nw c))))]/\Bl w18 w) ?_ ?_
 ·have W:Bl w18 w18:=Below.refl _ _
  refine Zr h<|Zm O<|Ze (ew O O)<|Zm O ?_
  refine Zg 51 O ?_ ?_<;>intro D
  ·(iterate 4 refine Zp (gP D) ?_);refine Ze (Xh O D O)<|Zm O<|Zp (gP O) ?_;(iterate 2 refine Zp (gP O) ?_);refine Ze (Xh O O O) ?_;refine Zn fun a h=>?_;exact ⟨h.sub ⟨O,O,O,O,X1 O (by first|rfl|(simp only [E,L,N,D,Qw,Bool.false_and,Bool.true_or,Bool.false_or];done)|(simp [E,L,N,D];done)|(exfalso;revert D;simp)),trivial⟩,W⟩
  refine Zv (gW D) (Vn qj p) ?_;refine Zv (gW D) (Vn qj q) ?_;have j:=(o.1 _ (Qk ..)).1.rd;have k:=(o.1 _ (Qk ..)).2.1.rd;have l:=o.tail.rd;refine Zk (gW D) (Vc (Cl _ ((cv c).1) aA aB j.top aL aM C m.rd.top l.top ((cv c).2.2) aC aD k.top ((cv c).1) aQ aR f.top aS aT lz22 i.top d.top ((cv c).2.2) aU aW g.top (Q0 bI O2) (Q0 b2 O2) (fun s9 aE=>⟨Q0 (aO s9 aE).1 O2,Q0 (aO s9 aE).2 O2⟩) (Q0 bJ O2)) B3) ?_;rintro _ fA ⟨rfl,e⟩;have t:=Q0 t (e).size;have z:=aa z e;have W:=aa W e;refine Zv (gW D) (dn O) ?_;refine Ze (X9 O D O)<|Zm O ?_
  refine Zg 57 O ?_ ?_<;>intro H
  ·(iterate 3 refine Zp (gP H) ?_);refine Ze (Xh O H O) ?_;refine Zn fun a h=>?_;exact ⟨h.sub ⟨O,O,O,O,X1 O (by first|rfl|(simp only [E,L,N,D,H,Qw,Bool.false_and,Bool.true_or,Bool.false_or];done)|(simp [E,L,N,D,H];done)|(exfalso;revert H;simp)),trivial⟩,W⟩
  refine Zv (gW H) (X7 O) ?_;refine Zv (gW H) (X7 O) ?_;refine Zv (gW H) (Cd underlying4 O O) ?_;refine Ze (X9 O H O) ?_;refine Zn fun a h=>?_;exact ⟨h.sub ⟨O,O,O,O,X1 O (by first|rfl|(simp only [E,L,N,D,H,Qw,Bool.false_and,Bool.true_or,Bool.false_or];done)|(simp [E,L,N,D,H];done)|(exfalso;revert H;simp)),trivial⟩,W⟩
 rintro a fB ⟨h,e⟩;have u:=u.bw e;have q:=q.bw e;have p:=p.bw e;have f:=f.bw e;have i:=i.bw e;have g:=g.bw e;have m:=m.bw e;have d:=d.bw e;have t:=Q0 t (e).size;have o:=o.bw e;have z:=aa z e;refine cX _ _ ?_
 refine Xz h O ?_ ?_<;>intro aN
 ·have eK:=aN
  have h9:¬ (1+3*(c.gs.length:Int)<0):=by omega
  rw [aZ,aY] at aN
  simp [h9,p'] at aN
 refine Q7<|cW _ _<|ZS h fun d5=>?_;refine Za O<|Zx d5 fun a h _ d6=>?_;refine Ze (Vn qj p)<|Zm O<|Zf (Vc (MW _ w6.heap.size t ((cv c).1.n) ((cv c).2.2.n) aA aB ((cv c).1.gs) aL aM C aC aD ((cv c).2.2.gs) m o 1 O2 (Q0 bI O2) (Q0 bJ O2) b2 aO) KW) ?_;rintro _ eL ⟨rfl,b5,b0,aP⟩;have u:=aP.kept _ _ _ u O O;have q:=aP.kept _ _ _ q O O;have p:=aP.kept _ _ _ p O O;have f:=f.bx aP.bel;have i:=i.bx aP.bel
 have bP:ci eL w6.heap.size (52:TypeId) lz22:=fun s9 aE=>⟨(d s9 aE).1.bx aP.bel,(d s9 aE).2.bx aP.bel⟩
 clear d;have d:=bP;clear bP;have g:=g.bx aP.bel;have z:=z.trans (aP.bel.mono bO);have t:=Q0 t aP.size
 clear m o;have j:=(b0.1 _ (Qk ..)).1.rd;have k:=(b0.1 _ (Qk ..)).2.1.rd;have l:=b0.tail.rd;have m:=b5;clear b5 b0 aP;refine Za O<|Zx d6 fun a h _ d7=>?_;refine Za O<|Zx d7 fun a h _ d8=>?_;refine Ze (Vn qj p)<|Zm O<|Zf (Vc (FZ _ ((cv c).1.n) ((cv c).2.2.n) aA aB ((cv c).1.gs).length (bu 1 (cv c).1.gs.length) (sH _ _).symm j.top aL aM C.length (gt (1+3*((cv c).1.gs.length:Int)) C) (tF _ _).symm m.rd.top l.top aC aD ((cv c).2.2.gs).length (bu ((1+3*((cv c).1.gs.length:Int))+lx C) (cv c).2.2.gs.length) (sH _ _).symm k.top 1 O2 (by rw [sH];exact Q0 bI O2) (by rw [sH];exact Q0 bJ O2) (by rw [tF];exact b2) (D0 aO)) Jl) ?_;rintro _ fC ⟨rfl,e⟩;have u:=u.bw e;have q:=q.bw e;have p:=p.bw e;have f:=f.bw e;have i:=i.bw e;have g:=g.bw e;have j:=j.bw e;have m:=m.bw e;have k:=k.bw e;have d:=d.bw e;have l:=l.bw e;have t:=Q0 t (e).size;have z:=aa z e;refine Za O<|ZX d8 fun a h _ d9=>?_;refine ZS h fun dA=>?_;refine Zm O<|Ze (ew O O)<|Zt dA fun a h=>?_
 refine eh h O (fun aK bQ=>?_) (fun aK bQ=>?_)
 ·have eM:=tZ C
  rw [G_ _ _ _ O2] at bQ;omega
 refine Q7<|d9 _ _<|Q5 fun _ dB=>?_;refine ZS h fun dC=>?_;refine Zm O<|Zm O<|Ze (kz O O)<|Zt dC fun a h=>?_
 refine Xz h O ?_ ?_<;>intro aF
 ·have eO:=aF;have eM:=tZ C
  rw [G_ _ _ _ O2] at aF;simp at aF
 refine Q7<|dB _ _<|ZS h fun dD=>?_;refine Ze (Vn wF u)<|Zf (Vc (Ak _ c Ac cc (b1.bx z).top aX) yH) ?_;rintro _ fD ⟨eP,eQ,rfl,b7,e⟩;have b7:=b7.lower z.size;have q:=q.bw e;have p:=p.bw e;have f:=f.bw e;have i:=i.bw e;have g:=g.bw e;have j:=j.bw e;have m:=m.bw e;have k:=k.bw e;have d:=d.bw e;have l:=l.bw e;have t:=Q0 t (e).size;have z:=aa z e;refine Zf (Vc (GW _ c eP eQ b7.rd.top b7.cap (Q0 aX O2) (cE.of z)) Jh) ?_;rintro _ fE ⟨b6,b8,b9,bC,bD,bE,bF,rfl,bG,Q,aG,e⟩;have aH:=(aG.1 _ (Qk ..)).1.rd;have aI:=(aG.1 _ (Qk ..)).2.1.rd;have aJ:=aG.tail.rd;have aG:=aG.lower z.size;have cB:=m.apart Q (Qb _);have Q:=Q.lower z.size;have q:=q.bw e;have p:=p.bw e;have f:=f.bw e;have i:=i.bw e;have g:=g.bw e;have j:=j.bw e;have m:=m.bw e;have k:=k.bw e;have d:=d.bw e;have l:=l.bw e;have t:=Q0 t (e).size;have z:=aa z e;obtain ⟨dE,bR⟩:=GQ bG;refine Zm O<|Ze (X2 (vs:=[.agg #[vi ((cv c).1.n),.slice b8 ((cv c).1.gs).length b9,.slice bC b6.length bD,vi ((cv c).2.2.n),.slice bE ((cv c).2.2.gs).length bF],.bool (nw c)]) O O)<|Ze (X2 (vs:=[.agg #[vi ((cv c).1.n),.slice b8 ((cv c).1.gs).length b9,.slice bC b6.length bD,vi ((cv c).2.2.n),.slice bE ((cv c).2.2.gs).length bF],.bool (nw c)]) O O)<|Zf (Xi (zs:=[vi 0,.slice none 0 0,.slice none 0 0,vi 0,.slice none 0 0]) sy O) ?_;rintro _ fF ⟨b64,rfl,dF,e,I⟩
 have cC:bM≠b64:=by have:=q.lt;omega
 have cD:b30≠b64:=by have:=p.lt;omega
 have bW:=Q0 z.size dF;have q:=q.bw e;have p:=p.bw e;have f:=f.bw e;have i:=i.bw e;have g:=g.bw e;have j:=j.bw e;have m:=m.bw e;have k:=k.bw e;have aH:=aH.bw e;have Q:=Q.bw e;have aI:=aI.bw e;have d:=d.bw e;have l:=l.bw e;have aJ:=aJ.bw e;have t:=Q0 t (e).size;have z:=aa z e;refine Zo (Vw [vi ((cv c).1.n),.slice b8 ((cv c).1.gs).length b9,.slice bC b6.length bD,vi ((cv c).2.2.n),.slice bE ((cv c).2.2.gs).length bF] rh I) ?_;rintro _ w26 ⟨M,hb⟩;have q:=q.oy M O0;have p:=p.oy M O0;have f:=f.oT M I O;have i:=i.oT M I O;have g:=g.oT M I O;have j:=j.oT M I O;have m:=m.oT M I O;have k:=k.oT M I O;have aH:=aH.oT M I O;have Q:=Q.oT M I O;have aI:=aI.oT M I O;have d:=d.oT M I O;have l:=l.oT M I O;have aJ:=aJ.oT M I O;have t:=Q0 t (Nat.le_of_eq (M).size.symm);have z:=Below.oy z M bW;have I:=hb;refine Za O<|ZX dD fun a h _ dG=>?_;refine Q5 fun _ dH=>?_;refine eo (fun a w=>Fr a 96 [(7,(ae b30)),(10,vi (((1+3*((cv c).1.gs.length:Int))+lx C)+3*((cv c).2.2.gs.length:Int))),(87,.bool ((!(p' ((cv c).1) ((cv c).1)&&decide (b6.map Sr.rp=lz22.map Sr.rp)&&p' ((cv c).2.2) ((cv c).2.2)))||((nw c) != (nw c))))]/\Bl w26 w) ?_ ?_
 ·have W:Bl w26 w26:=Below.refl _ _
  refine Zr h<|Ze (Vn qj I)<|Ze (Vn qj q)<|Zf (Vc (Cl _ ((cv c).1) b8 b9 aH.top bC bD b6 Q.rd.top aJ.top ((cv c).2.2) bE bF aI.top ((cv c).1) aQ aR f.top aS aT lz22 i.top d.top ((cv c).2.2) aU aW g.top (Q0 bI O2) (Q0 dE O2) (fun s9 aE=>⟨Q0 (bR s9 aE).1 O2,Q0 (bR s9 aE).2 O2⟩) (Q0 bJ O2)) B3) ?_;rintro _ fG ⟨rfl,e⟩;have t:=Q0 t (e).size;have z:=aa z e;have W:=aa W e;refine Ze (dn O)<|Zm O ?_
  refine Zg 83 O ?_ ?_<;>intro J
  ·(iterate 3 refine Zp (gP J) ?_);refine Ze (Xh O J O) ?_;refine Zn fun a h=>?_;exact ⟨h.sub ⟨O,O,X1 O (by first|rfl|(simp only [E,L,N,aN,aK,aF,J,Qw,Bool.false_and,Bool.true_or,Bool.false_or];done)|(simp [E,L,N,aN,aK,aF,J];done)|(exfalso;revert J;simp)),trivial⟩,W⟩
  refine Zv (gW J) (X7 O) ?_;refine Zv (gW J) (X7 O) ?_;refine Zv (gW J) (Cd underlying4 O O) ?_;refine Ze (X9 O J O) ?_;refine Zn fun a h=>?_;exact ⟨h.sub ⟨O,O,X1 O (by first|rfl|(simp only [E,L,N,aN,aK,aF,J,Qw,Bool.false_and,Bool.true_or,Bool.false_or];done)|(simp [E,L,N,aN,aK,aF,J];done)|(exfalso;revert J;simp)),trivial⟩,W⟩
 rintro a fH ⟨h,e⟩;have p:=p.bw e;have j:=j.bw e;have m:=m.bw e;have k:=k.bw e;have l:=l.bw e;have t:=Q0 t (e).size;have z:=aa z e;refine dH _ _ ?_
 refine Xz h O ?_ ?_<;>intro bH
 ·have eR:=bH
  rw [bG,aY] at bH;simp [p'] at bH
 refine Q7<|dG _ _<|ZS h fun dI=>?_;refine Za O<|Zx dI fun a h _ dJ=>?_;refine Ze (Vn qj p)<|Zm O<|Zf (Vc (FZ _ ((cv c).1.n) ((cv c).2.2.n) aA aB ((cv c).1.gs).length (bu 1 (cv c).1.gs.length) (sH _ _).symm j.top aL aM C.length (gt (1+3*((cv c).1.gs.length:Int)) C) (tF _ _).symm m.rd.top l.top aC aD ((cv c).2.2.gs).length (bu ((1+3*((cv c).1.gs.length:Int))+lx C) (cv c).2.2.gs.length) (sH _ _).symm k.top 1 O2 (by rw [sH];exact Q0 bI O2) (by rw [sH];exact Q0 bJ O2) (by rw [tF];exact b2) (D0 aO)) Jl) ?_;rintro _ fI ⟨rfl,e⟩;have t:=Q0 t (e).size;have z:=aa z e;refine Za O<|ZX dJ fun a h _ dK=>?_;refine ZS h fun dL=>?_;refine Zm O<|Ze (ew O O)<|Zt dL fun a h=>?_;refine th h (X1 O aK) ?_;refine Q7<|dK _ _<|Q5 fun _ dM=>?_;refine ZS h fun dN=>?_;refine Zm O<|Zm O<|Ze (kz O O)<|Zt dN fun a h=>?_;refine th h (X1 O aF) ?_;refine Q7<|dM _ _<|ZS h fun dP=>?_;refine Za O<|Zt dP fun a h=>?_
 refine Q6 (X4 h (Xu h O O) ?_)
 exact ⟨O,z⟩
end Go.Proofs.YtkhbopcihjobdaaGreatDoor
namespace Go.Proofs.YtkhbopcihjobdaaGreatDoor
open Go.Proofs.Tryz
open Go.ChangeShapes Go.WideShapes Go.ChangeAt Go.RowKit Go.Deep Go.Joins Go.Proofs.Tryz
set_option linter.unusedVariables false
set_option maxRecDepth 100000 in
def OU(os:Os)(started:os.Started)(H:Type)(enc:TypeId×Value->H) :
  ReturnsInHanded {} Tryz.checked os 3 .any (fun w args=>(Rows.fnExactOneQubitPassSpec.pre enc prog Tryz.f3 [] false w args/\laidMetH prog Rows.fnExactOneQubitPassRow.laid w)/\sizedMet enc prog Tryz.f3 (OpenSpec.ofChange Rows.fnExactOneQubitPassSpec) false w args)
   (Rows.fnExactOneQubitPassSpec.post enc prog Tryz.f3 false true false false):=by
 refine returnsInHanded_of_change_and (C:=Tryz.checked) (X:=fun w _=>laidMetH prog Rows.fnExactOneQubitPassRow.laid w) (fun _ _ _ hh h=>h.of_heap hh) ut started O4 func3
  (ChangeSpec.witness_shaped (enc:=enc) (C:=Tryz.checked) (os:=os) (X:=fun w _=>laidMetH prog Rows.fnExactOneQubitPassRow.laid w) false (World.laidAll prog os Rows.fnExactOneQubitPassRow.laid) #[.agg #[.int .i64 0,.slice none 0 0]] 8 (World.laidAll_os _ _ _)
   (World.shaped_of_ZipB O4 O4) O4 O4 O4
   (by rw[MakeChecks.laidMetH_plain _ _ _ O4];exact laidMet_laidAll _ O4 O4)) ?_
 intro W base args ds gs before hval0 hW _ _ hL _;have hval:∀ (j:Nat) t v,Tryz.f3.params[j]? = some t->args[j]? = some v->Value.okWide prog W .any base t v:=hval0;have hW':=hW;obtain ⟨p,q,hA0,hV,rfl,hfz,hnd⟩:=hW;have hA:DataW.TrodAll enc prog W 0 (fun _=>true) true Tryz.f3.params.toList args.toList ds p:=hA0;rw[Tryz.params3] at hA hval;obtain ⟨v0,d0,rfl,rfl,h0⟩:=trodAll_one hA;have hV' : DataW.TrodVars enc prog W (fun _ => true) ["loop.example/g00864/impl.half"] gs q := hV;have ⟨_,_,_,_,g1,_,hgs,_⟩:=trodVars_one hV';subst hgs;have h0k:=h0;obtain ⟨c,A,i,E,rfl,hr0,hl0⟩:=RO (hval 0 24 v0 O O) h0 (fun _=>rfl);clear hA0 hval0;have hlt:∀ x ∈ p++q,x.block<W.heap.size:=fun x hx=>hW'.lt x hx;refine Calls.mono (PO W c A i hr0 hl0 (Mp hL)) fun r W' ⟨v,he,hv,hb⟩=>?_;subst hv;refine ⟨_,he,SL (pa:=p) (pv:=q) hW' (fun _ _ _=>trodAll_mk1 (shut_bool underlying4 true)) (fun sp hsp=>?_) (fun sp hsp=>P' hV' (fun x hx=>hlt x (Qu.2 (.inr hx))) hb (fun x hx=>hsp x (Qu.2 (.inr hx)))) O hb⟩;exact trodAll_mk1 (WideElems.Trod_stays Jr O4 (Q2 O4) h0k (fun x hx=>hb.same (hlt x (Qu.2 (.inl hx)))) (fun x hx=>hsp x (Qu.2 (.inl hx))))
def QV:Rows.FnExactOneQubitPassSaid:=
 OpenClaim.holds_of_wide 3 Tryz.f3 rfl rfl rfl rfl rfl rfl rfl ⟨rfl,rfl,rfl,rfl,rfl⟩ rfl rfl rfl rfl rfl O4 func3 O4
  (Q2 O4) (by unfold Func.isWrapper;first|(rw[Q4 O1];kernel_rfl)|(rw[Q3 O1];exact ⟨rfl,rfl⟩))
  (fun os started H enc _=>OU os started H enc)
def Le:prog.funcNamed "loop.example/g00864/laws.FnExactOneQubitPass" = some 3 := by kernel_rfl
def V9:prog.wantsStandIn 24=false:=by kernel_rfl
theorem opas_holds:Rows.FnExactOneQubitPassCardSaid:=
 Claim7.holds_tied_plain_at .later [] [.data] true (true, "b22f9e9e439683717fab402a184d1fb446242b633d22d4969a3c86ecb428531e") false
  QV (fun _ h=>by cases h) O4 (fun _ h=>by cases h) fnExactOneQubitPass_row_tie rfl ⟨rfl,rfl⟩ O4 rfl
  (fun f fn hf hfn=>by
   obtain rfl:f=3:=Option.some.inj (Le.symm.trans hf) |>.symm;obtain rfl:fn=Tryz.f3:=(Option.some.inj (func3.symm.trans hfn)).symm;exact ⟨by kernel_rfl,fun j t ht=>by
    rw[Tryz.params3] at ht;have hm:=Array.mem_of_getElem? ht;simp only[List.mem_toArray,Qv,List.mem_nil_iff,or_false] at hm;subst hm;exact V9⟩)
  O4
end Go.Proofs.YtkhbopcihjobdaaGreatDoor
