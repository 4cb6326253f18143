/-
  What is proved: for every circuit, the program's PeepholePass answers as the reference's does, leaves its argument as it was and hands out memory of its own, and the argument reads as before. Conditions: none beside the table of powers of ten that the card ties to the program's text.
-/
import Derived.Test.YtblmmikapnflcaaGreatDoorS4
import Derived.Test.YtblmmikapnflcaaGreatDoorS3
import Derived.Test.YtblmmikapnflcaaGreatDoorS2
set_option linter.unusedVariables false
set_option linter.unusedSimpArgs false
set_option maxHeartbeats 1000000
set_option maxRecDepth 4000
set_option linter.unusedSectionVars false
namespace Go.Proofs.YtblmmikapnflcaaGreatDoor
open Go.RowKit
def hasB(qs:List Int)(q:Int) : Bool:=qs.any fun y=>y==q
theorem Xcl(qs:List Int)(q:Int) : (qs.any fun y=>q==y)=hasB qs q:=by
 unfold hasB;congr 1;funext y
 by_cases h:q=y
 ·subst h;rfl
 ·have h2:¬ y=q:=fun e=>h e.symm
  rw [beq_eq_false_iff_ne.2 h,beq_eq_false_iff_ne.2 h2]
theorem X8v{qs:List Int}{q:Int} : hasB qs q=true↔q ∈ qs:=by
 unfold hasB;simp
def insB(g:Gt)(qs:List Int) : Bool:=decide (0<((qubI g).length:Int))&&!((qubI g).any fun q=>!hasB qs q)
def tchB(g:Gt)(qs:List Int) : Bool:=(qubI g).any (hasB qs)
def inN(g:Gt)(qs:List Int) : Nat:=(qubI g).countP (hasB qs)
def ouN(g:Gt)(qs:List Int) : Nat:=(qubI g).countP fun q=>!hasB qs q
theorem X94(g:Gt)(qs:List Int) : decide (0<(inN g qs:Int))=tchB g qs:=by
 unfold inN tchB
 rw [Bool.eq_iff_iff,Qr,List.any_eq_true]
 constructor
 ·intro h
  have h2:0<(qubI g).countP (hasB qs):=by omega
  exact List.countP_pos_iff.1 h2
 ·intro h
  have:=List.countP_pos_iff.2 h;omega
theorem Xel(g:Gt)(qs:List Int) : decide (0<(ouN g qs:Int))=(qubI g).any fun q=>!hasB qs q:=by
 unfold ouN
 rw [Bool.eq_iff_iff,Qr,List.any_eq_true]
 constructor
 ·intro h
  have h2:0<(qubI g).countP (fun q=>!hasB qs q):=by omega
  exact List.countP_pos_iff.1 h2
 ·intro h
  have:=List.countP_pos_iff.2 h;omega
theorem X9d(g:Gt)(qs:List Int) : insB g qs=(tchB g qs&&!decide (0<(ouN g qs:Int))):=by
 rw [Xel]
 unfold insB tchB
 cases e:qubI g with
 | nil=>simp
 | cons x l=>
  cases e2:(x::l).any fun q=>!hasB qs q with
  | true=>simp
  | false=>
   have hx:hasB qs x=true:=by
    have:=W7.1 e2 x (Qk ..)
    simpa using this
   have h1:(x::l).any (hasB qs)=true:=List.any_eq_true.2 ⟨x,Qk ..,hx⟩
   rw [h1];simp
theorem Xm5(g:Gt)(qs:List Int) : (decide (0<(inN g qs:Int))&&decide (0<(ouN g qs:Int)))=(tchB g qs&&!insB g qs):=by
 rw [X94,X9d]
 cases tchB g qs<;>simp
def incF(l:List Int)(lo hi:Int) : Bool:=(List.range l.length).all fun i=>inR (l.getD i 0) lo hi&&!(decide (0<(i:Int))&&decide (l.getD i 0≤l.getD (i-1) 0))
theorem Xo0{l:List Int}{lo hi:Int}(h:incF l lo hi=true) : ∀ x ∈ l,lo≤x∧x≤hi:=fun x hx=>by
 obtain ⟨i,hi⟩:=List.getElem?_of_mem hx;have hl:=(Qg.1 hi).1
 unfold incF at h
 have h2:=W1.1 h i (W2.2 hl)
 rw [Qa,hi] at h2
 simp only [Qd,Qq] at h2
 exact X01.1 h2.1
theorem Xpt{l:List Int}{lo hi:Int}(h:incF l lo hi=true)(h2:l.length≤2) : Inc l:=by
 match l,h2 with
 | [],_=>exact List.Pairwise.nil
 | [x],_=>simp [Inc]
 | [x,y],_=>
  unfold incF at h
  have:=W1.1 h 1 (by simp)
  simp at this
  have hxy:x<y:=by have:=this.2;omega
  simp [Inc];exact hxy
def IncU(l:List Int)(lo hi:Int)(k:Nat) : Prop:=((List.range k).all fun i=>inR (l.getD i 0) lo hi&&!(decide (0<(i:Int))&&decide (l.getD i 0≤l.getD (i-1) 0)))=true
theorem Xal(l:List Int)(lo hi:Int) : IncU l lo hi 0:=rfl
theorem Xaz{l:List Int}{lo hi:Int}{k:Nat}{u:Int}(h:IncU l lo hi k)(hu:l[k]? = some u)(hs:(!inR u lo hi||(decide (0<(k:Int))&&decide (u≤l.getD (k-1) 0)))=false) : IncU l lo hi (k+1):=by
 unfold IncU at *
 rw [List.range_succ,List.all_append,h]
 simp only [List.all_cons,List.all_nil,Bool.and_true,Qw,Qa,hu,Qq]
 simp only [Qa] at hs
 revert hs
 cases inR u lo hi<;>simp
 intro h;rcases Nat.eq_zero_or_pos k with e|e
 ·exact .inl e
 ·exact .inr (h e)
theorem Xdu{l:List Int}{lo hi:Int}{k:Nat}(h:IncU l lo hi k)(hk:k=l.length) : incF l lo hi=true:=by subst hk;exact h
theorem Xfv{l:List Int}{lo hi:Int}{k:Nat}{u:Int}(hu:l[k]? = some u)(hs:(!inR u lo hi||(decide (0<(k:Int))&&decide (u≤l.getD (k-1) 0)))=true) : incF l lo hi=false:=by
 have hk:=(Qg.1 hu).1
 rw [Bool.eq_false_iff]
 intro h
 unfold incF at h
 have h2:=W1.1 h k (W2.2 hk)
 simp only [Qa,hu,Qq] at h2 hs
 revert h2 hs
 cases inR u lo hi<;>simp
 intro h1 h2;rcases h1 with h1|h1
 ·omega
 ·exact h1
def rnL(qs:List Int) : List Gt→Int→Nat→List Int
 | [],_,_=>[]
 | _::_,_,0=>[]
 | g::l,i,m+1=>if insB g qs=true then i::rnL qs l (i+1) m else if tchB g qs=true then [] else rnL qs l (i+1) (m+1)
theorem Xj2(qs:List Int)(l:List Gt)(i:Int) : rnL qs l i 0=[]:=by cases l<;>rfl
theorem Xgy(qs:List Int) : ∀ (l:List Gt) (i:Int) (m:Nat),(rnL qs l i m).length≤m
 | [],_,_=>Qf _
 | _::_,_,0=>Qb _
 | g::l,i,m+1=>by
  unfold rnL
  split
  ·have:=Xgy qs l (i+1) m;simp;omega
  ·split
   ·exact Qf _
   ·exact Xgy qs l (i+1) (m+1)
theorem Xdm(qs:List Int) : ∀ (l:List Gt) (i:Int) (m:Nat),∀ x ∈ rnL qs l i m,∃ j:Nat,x=i+(j:Int)∧∃ g,l[j]? = some g∧insB g qs=true
 | [],_,_=>fun x h=>by cases h
 | _::_,_,0=>fun x h=>by cases h
 | g::l,i,m+1=>fun x h=>by
  unfold rnL at h
  split at h
  ·rename_i hg
   rcases Qv.1 h with h|h
   ·exact ⟨0,by simp [h],g,rfl,hg⟩
   ·obtain ⟨j,h1,g2,h2,h3⟩:=Xdm qs l (i+1) m x h;exact ⟨j+1,by rw [h1];simp;omega,g2,by simpa using h2,h3⟩
  ·split at h
   ·cases h
   ·obtain ⟨j,h1,g2,h2,h3⟩:=Xdm qs l (i+1) (m+1) x h;exact ⟨j+1,by rw [h1];simp;omega,g2,by simpa using h2,h3⟩
def runB(c:Cx)(p:Int)(qs:List Int) : Bool:=inR (qs.length:Int) 1 2&&(incF qs 0 (c.n-1)&&(inR p 0 ((c.gs.length:Int)-1)&&insB (c.gs.getD p.toNat gZ) qs))
def runL(c:Cx)(p:Int)(qs:List Int) : List Int:=rnL qs (c.gs.drop p.toNat) p 6
def runX(c:Cx)(p:Int)(qs:List Int) : Option (List Int):=if runB c p qs=true then some (runL c p qs) else none
theorem Xdp{c:Cx}{p:Int}{qs:List Int}(h:runB c p qs=true) : runX c p qs=some (runL c p qs):=Q4 h
theorem Xdj{c:Cx}{p:Int}{qs:List Int}(h:runB c p qs=false) : runX c p qs=none:=Q3 (by rw [h];decide)
def runP(c:Cx)(p:Int)(qs:List Int) : Option (List Int):=if (cOk c&&runB c p qs)=true then some (runL c p qs) else none
theorem Xfq{c:Cx}{p:Int}{qs:List Int}(h:(cOk c&&runB c p qs)=true) : runP c p qs=some (runL c p qs):=Q4 h
theorem Xjk{c:Cx}{p:Int}{qs:List Int}(h:(cOk c&&runB c p qs)=false) : runP c p qs=none:=Q3 (by rw [h];decide)
theorem X29{c:Cx}{p:Int}{qs:List Int}(h:runB c p qs=true) : (1≤qs.length∧qs.length≤2)∧incF qs 0 (c.n-1)=true∧∃ k:Nat,p=(k:Int)∧k<c.gs.length∧∃ g,c.gs[k]? = some g∧insB g qs=true:=by
 unfold runB at h
 simp only [Qd,X01] at h
 obtain ⟨h1,h2,h3,h4⟩:=h
 refine ⟨by omega,h2,p.toNat,by omega,by omega,c.gs.getD p.toNat gZ,?_,h4⟩
 rw [Qa,Qc (by omega)];rfl
theorem Xft{c:Cx}{p:Int}{qs:List Int}(h:runB c p qs=true) : ∃ r,runL c p qs=p::r:=by
 obtain ⟨_,_,k,rfl,hk,g,hg,hi⟩:=X29 h
 unfold runL
 have hk2:((k:Int)).toNat=k:=Qj k
 obtain ⟨h1,h2⟩:=Qg.1 hg
 rw [hk2,Qy h1,h2]
 unfold rnL
 rw [Q4 hi]
 exact ⟨_,rfl⟩
theorem X8e{c:Cx}{p:Int}{qs:List Int}(h:runB c p qs=true) : 1≤(runL c p qs).length:=by
 obtain ⟨r,e⟩:=Xft h;rw [e];simp
theorem X7s(c:Cx)(p:Int)(qs:List Int) : (runL c p qs).length≤6:=Xgy ..
theorem X53{c:Cx}{p:Int}{qs:List Int}(h:runB c p qs=true) : ∀ x ∈ runL c p qs,∃ j:Nat,x=(j:Int)∧j<c.gs.length∧p≤(j:Int)∧∃ g,c.gs[j]? = some g∧insB g qs=true:=fun x hx=>by
 obtain ⟨_,_,k,rfl,hk,_⟩:=X29 h;obtain ⟨j,h1,g,h2,h3⟩:=Xdm _ _ _ _ x hx
 rw [Qj,List.getElem?_drop] at h2
 exact ⟨k+j,by omega,(Qg.1 h2).1,by omega,g,h2,h3⟩
theorem X77{l:List Int}{k:Nat}(h:k<l.length) : l[k]? = some (l.getD k 0):=by rw [Qa,Qc h];rfl
theorem Xcu{l:List Gt}{k:Nat}(h:k<l.length) : l[k]? = some (l.getD k gZ):=by rw [Qa,Qc h];rfl
theorem Xjc{f:Int→Bool}{l:List Int}{k p:Nat}{u:Int}(h:p=(l.take k).countP f)(hu:l[k]? = some u)(hf:f u=true) : p+1=(l.take (k+1)).countP f:=by
 rw [Qt,hu,List.countP_append,← h];simp [hf]
theorem Xnr{f:Int→Bool}{l:List Int}{k p:Nat}{u:Int}(h:p=(l.take k).countP f)(hu:l[k]? = some u)(hf:f u=false) : p=(l.take (k+1)).countP f:=by
 rw [Qt,hu,List.countP_append,← h];simp [hf]
theorem Xlr{c:Cx}{run:List Int}{k j:Nat}{q:List Gt}{u:Int}(h:q=(run.take k).map fun i=>c.gs.getD i.toNat gZ)(hu:run[k]? = some u)(hj:u=(j:Int)) : q++[c.gs.getD j gZ]=(run.take (k+1)).map fun i=>c.gs.getD i.toNat gZ:=by
 rw [h,Qt,hu];simp [hj]
theorem Xep(c:Cx)(p:Int)(qs:List Int) : (((((!cOk c)||!inR (qs.length:Int) 1 2)||!incF qs 0 (c.n-1))||!inR p 0 ((c.gs.length:Int)-1))||!insB (c.gs.getD p.toNat gZ) qs) = !(cOk c&&runB c p qs):=by
 unfold runB
 cases cOk c<;>cases inR (qs.length:Int) 1 2<;>cases incF qs 0 (c.n-1)<;>cases inR p 0 ((c.gs.length:Int)-1)<;>simp
def RnS(c:Cx)(p:Int)(qs:List Int)(k:Nat)(q:List Int) : Prop:=p.toNat+k≤c.gs.length∧q.length≤6∧q++rnL qs (c.gs.drop (p.toNat+k)) (p+(k:Int)) (6-q.length)=runL c p qs
theorem Xfo{c:Cx}{p:Int}{qs:List Int}(h:runB c p qs=true) : RnS c p qs 0 []:=by
 obtain ⟨_,_,k,rfl,hk,_⟩:=X29 h
 refine ⟨by omega,by simp,?_⟩
 simp [runL]
theorem Xvs{c:Cx}{p:Int}{qs:List Int}{k:Nat}{q:List Int}{u:Gt}(h:RnS c p qs k q)(hu:c.gs[p.toNat+k]? = some u)(hq:q.length<6)(hi:insB u qs=true) : RnS c p qs (k+1) (q++[p+(k:Int)]):=by
 obtain ⟨h1,h2,h3⟩:=h;obtain ⟨h4,h5⟩:=Qg.1 hu
 refine ⟨by omega,by simp;omega,?_⟩
 rw [← h3,Qy h4,h5,show 6-q.length=(5-q.length)+1 from by omega,rnL,Q4 hi]
 simp only [Qx,List.singleton_append,Qh,Qs,List.length_nil]
 rw [show 6-(q.length+(0+1))=5-q.length from by omega,show p+((k+1:Nat) : Int)=p+(k:Int)+1 from by omega,← Nat.add_assoc]
theorem Xif{c:Cx}{p x:Int}{qs:List Int}{k:Nat}{q:List Int}{u:Gt}(hx:x=p+(k:Int))(h:RnS c p qs k q)(hu:c.gs[p.toNat+k]? = some u)(hq:q.length<6)(hi:insB u qs=true) : RnS c p qs (k+1) (q++[x]):=by
 rw [hx];exact Xvs h hu hq hi
theorem bn1{b:Bool}(h:(!b)=true) : b=false:=by cases b with
 | false=>rfl
 | true=>cases h
theorem bn2{b:Bool}(h:(!b)=false) : b=true:=by cases b with
 | false=>cases h
 | true=>rfl
theorem Xpz{c:Cx}{p:Int}{qs:List Int}{k:Nat}{q:List Int}{u:Gt}(h:RnS c p qs k q)(hu:c.gs[p.toNat+k]? = some u)(hq:q.length<6)(hi:insB u qs=false)(ht:tchB u qs=false) : RnS c p qs (k+1) q:=by
 obtain ⟨h1,h2,h3⟩:=h;obtain ⟨h4,h5⟩:=Qg.1 hu
 refine ⟨by omega,by omega,?_⟩
 rw [← h3,Qy h4,h5,show 6-q.length=(5-q.length)+1 from by omega,rnL,Q3 (by rw [hi];decide),Q3 (by rw [ht];decide)]
 rw [show p+((k+1:Nat) : Int)=p+(k:Int)+1 from by omega,← Nat.add_assoc]
theorem Xf5{c:Cx}{p:Int}{qs:List Int}{k:Nat}{q:List Int}{u:Gt}(h:RnS c p qs k q)(hu:c.gs[p.toNat+k]? = some u)(hq:q.length<6)(hi:insB u qs=false)(ht:tchB u qs=true) : q=runL c p qs:=by
 obtain ⟨h1,h2,h3⟩:=h;obtain ⟨h4,h5⟩:=Qg.1 hu
 rw [Qy h4,h5,show 6-q.length=(5-q.length)+1 from by omega,rnL,Q3 (by rw [hi];decide),Q4 ht,List.append_nil] at h3
 exact h3
theorem Xhr{c:Cx}{p:Int}{qs:List Int}{k:Nat}{q:List Int}(h:RnS c p qs k q)(he:c.gs.length≤p.toNat+k∨6≤q.length) : q=runL c p qs:=by
 obtain ⟨h1,h2,h3⟩:=h
 rcases he with he|he
 ·rw [W3 he,rnL,List.append_nil] at h3;exact h3
 ·rw [show 6-q.length=0 from by omega,Xj2,List.append_nil] at h3;exact h3
def gatL(c:Cx)(run:List Int) : List Gt:=run.map fun i=>c.gs.getD i.toNat gZ
theorem Xnt{n:Int}{g:Gt}{qs:List Int}(hg:gOk n g=true)(h:insB g qs=true) : GoodG qs n g:=by
 refine ⟨hg,fun x hx=>?_⟩
 unfold insB at h
 simp only [Qd,Bool.not_eq_true',W7] at h
 have:=h.2 x hx
 exact X8v.1 (by simpa using this)
theorem Xi6{g:Gt}{qs:List Int}(h:insB g qs=true) : ¬ g.k=12:=by
 intro e
 unfold insB qubI at h
 rw [Q4 e] at h
 simp at h
theorem X6q{c:Cx}(hc:cOk c=true){p:Int}{qs:List Int}(h:runB c p qs=true) : ∀ g ∈ gatL c (runL c p qs),GoodG qs c.n g∧insB g qs=true:=fun g hg=>by
 obtain ⟨i,hi,rfl⟩:=W6.1 hg;obtain ⟨j,rfl,hj,_,g,h1,h2⟩:=X53 h i hi
 rw [Qj,Qa,h1]
 exact ⟨Xnt ((X14 hc).2.2 g (Qe h1)) h2,h2⟩
def gapL(c:Cx)(run:List Int)(p:Int)(k:Nat) : List Gt:=((List.range k).filter fun (j:Nat)=>!hasB run (p+(j:Int))).map fun (j:Nat)=>c.gs.getD (p+(j:Int)).toNat gZ
theorem Xej(c:Cx)(run:List Int)(p:Int) : gapL c run p 0=[]:=rfl
theorem Xqb{c:Cx}{run:List Int}{p:Int}{k:Nat}(h:hasB run (p+(k:Int))=true) : gapL c run p (k+1)=gapL c run p k:=by
 unfold gapL;rw [List.range_succ,List.filter_append];simp [h]
theorem Xww{c:Cx}{run:List Int}{p:Int}{k:Nat}{u:Gt}(h:hasB run (p+(k:Int))=false)(hu:c.gs[(p+(k:Int)).toNat]? = some u) : gapL c run p (k+1)=gapL c run p k++[u]:=by
 unfold gapL;rw [List.range_succ,List.filter_append,List.map_append];simp [h,Qa,hu]
theorem X92(c:Cx)(run:List Int)(p:Int)(k:Nat) : (gapL c run p k).length≤k:=by
 unfold gapL;rw [Qo]
 exact Q0 (List.length_filter_le ..) (by simp)
def lastI(run:List Int) : Int:=run.getD (run.length-1) 0
def winN(run:List Int)(p:Int) : Nat:=(lastI run-p+1).toNat
def ftB(n:Int)(qs:List Int)(g:Gt) : Bool:=gOk n g&&!decide (0<(ouN g qs:Int))
def newR(c:Cx)(p:Int)(run:List Int)(gates:List Gt) : Rp:=⟨p,(c.gs.drop p.toNat).take (winN run p),gates++gapL c run p (winN run p)⟩
def repX(c:Cx)(p:Int)(run:List Int)(qs:List Int)(gates:List Gt) : Option Rp:=
 if gates.all (ftB c.n qs)=true then (if ((newR c p run gates).old.length≤40∧(newR c p run gates).new.length≤40) then some (newR c p run gates) else none) else none
theorem X7c{c:Cx}{p:Int}{qs:List Int}(h:runB c p qs=true) : ∃ j:Nat,lastI (runL c p qs)=(j:Int)∧j<c.gs.length∧p≤(j:Int)∧(runL c p qs)[(runL c p qs).length-1]? = some (lastI (runL c p qs)):=by
 have h1:=X8e h
 have h2:(runL c p qs).length-1<(runL c p qs).length:=by omega
 have h3:lastI (runL c p qs) ∈ runL c p qs:=by
  unfold lastI;rw [Qa,Qc h2];exact List.getElem_mem h2
 obtain ⟨j,e,hj,hp,_⟩:=X53 h _ h3
 refine ⟨j,e,hj,hp,?_⟩
 unfold lastI;rw [Qa,Qc h2];rfl
def ftI(n:Int)(qs:List Int)(g:Gt) : Bool:=gOk n g&&!(decide (g.k≠12)&&!insB g qs)
theorem Y0n(n:Int)(qs:List Int)(g:Gt) : ftI n qs g=ftB n qs g:=by
 unfold ftI ftB
 cases hg:gOk n g with
 | false=>rfl
 | true=>
  simp only [Qw]
  rw [X9d]
  by_cases h:g.k=12
  ·have e:qubI g=[]:=by unfold qubI;rw [Q4 h]
   have e2:ouN g qs=0:=by unfold ouN;rw [e];rfl
   simp [h,e2]
  ·have e:qubI g≠[]:=by unfold qubI;rw [Q3 h];split<;>simp
   rw [Xel]
   unfold tchB
   cases e2:(qubI g).any fun q=>!hasB qs q with
   | true=>simp [h]
   | false=>
    obtain ⟨x,l,e3⟩:=List.exists_cons_of_ne_nil e
    have hx:hasB qs x=true:=by
     have:=W7.1 e2 x (by rw [e3];exact Qk ..)
     simpa using this
    have:(qubI g).any (hasB qs)=true:=List.any_eq_true.2 ⟨x,by rw [e3];exact Qk ..,hx⟩
    simp [h,this]
theorem Xj1(n:Int)(qs:List Int)(g:Gt) : ((!gOk n g)||((g.k != 12)&&!insB g qs)) = !ftB n qs g:=by
 rw [← Y0n];unfold ftI
 cases gOk n g<;>by_cases h:g.k=12<;>simp [h]
theorem Xgt{n:Int}{qs:List Int}{l:List Gt}{k:Nat}{u:Gt}(hu:l[k]? = some u)(h:ftB n qs u=false) : l.all (ftB n qs)=false:=by
 rw [Bool.eq_false_iff];intro h2
 have:=W1.1 h2 u (Qe hu)
 rw [h] at this;cases this
theorem Xie{n:Int}{qs:List Int}{l:List Gt}{k:Nat}{u:Gt}(h:(l.take k).all (ftB n qs)=true)(hu:l[k]? = some u)(hf:ftB n qs u=true) : (l.take (k+1)).all (ftB n qs)=true:=by
 rw [Qt,hu,List.all_append,h];simp [hf]
theorem Xd4{c:Cx}{p:Int}{run qs:List Int}{ws:List Gt}(h:ws.all (ftB c.n qs)=false) : repX c p run qs ws=none:=Q3 (by rw [h];decide)
theorem Xjf{c:Cx}{p:Int}{run qs:List Int}{ws:List Gt}(h:ws.all (ftB c.n qs)=true)(h2:40<(newR c p run ws).old.length∨40<(newR c p run ws).new.length) : repX c p run qs ws=none:=by
 unfold repX;rw [Q4 h,Q3 (by omega)]
theorem Xj4{c:Cx}{p:Int}{run qs:List Int}{ws:List Gt}(h:ws.all (ftB c.n qs)=true)(h2:¬ (40<(newR c p run ws).old.length∨40<(newR c p run ws).new.length)) : repX c p run qs ws=some (newR c p run ws):=by
 unfold repX;rw [Q4 h,Q4 (by omega)]
theorem Xxz{c:Cx}{p:Int}{run:List Int}{j:Nat}(hp:0≤p)(hj:lastI run=(j:Int))(hpj:p≤(j:Int)) : (c.gs.take (j+1)).drop p.toNat=(c.gs.drop p.toNat).take (winN run p):=by
 rw [List.drop_take];congr 1
 unfold winN;rw [hj];omega
theorem Xf3{c:Cx}{p:Int}{run:List Int}{ws:List Gt}{j:Nat}(hp:0≤p)(hj:lastI run=(j:Int))(hpj:p≤(j:Int)) : (newR c p run ws).old=(c.gs.take (j+1)).drop p.toNat:=(Xxz hp hj hpj).symm
theorem Xfw{c:Cx}{p:Int}{run:List Int}{ws q:List Gt}{k:Nat}(hq:q=ws++gapL c run p k)(hk:k=winN run p) : (newR c p run ws).new=q:=by subst hk;rw [hq];rfl
theorem Xad{run:List Int}{p:Int}{j:Nat}(hj:lastI run=(j:Int))(hpj:p≤(j:Int)) : ((winN run p:Nat) : Int)=(j:Int)-p+1:=by unfold winN;rw [hj];omega
theorem Xdt{c:Cx}{run:List Int}{p:Int}{k:Nat}{q ws:List Gt}(hq:q=ws++gapL c run p k)(h:hasB run (p+(k:Int))=true) : q=ws++gapL c run p (k+1):=by rw [hq,Xqb h]
theorem Xij{c:Cx}{run:List Int}{p:Int}{k:Nat}{q ws:List Gt}{u:Gt}(hp:0≤p)(hq:q=ws++gapL c run p k)(h:hasB run (p+(k:Int))=false)(hu:c.gs[p.toNat+k]? = some u) : q++[u]=ws++gapL c run p (k+1):=by
 rw [hq,Xww h (by rw [show (p+(k:Int)).toNat=p.toNat+k from by omega];exact hu),Qx]
theorem Apart.none_l(B:Option Addr) : Apart none B:=fun _ _ h=>by cases h
theorem X8g{c:Cx}{p:Int}{qs:List Int}(h:(runP c p qs).isSome=true) : cOk c=true∧runB c p qs=true∧runP c p qs=some (runL c p qs):=by
 cases e:cOk c&&runB c p qs with
 | false=>rw [Xjk e] at h;cases h
 | true=>exact ⟨((Qd _ _▸e:cOk c=true∧runB c p qs=true)).1,((Qd _ _▸e:cOk c=true∧runB c p qs=true)).2,Xfq e⟩
theorem X9e{c:Cx}{p:Int}{qs:List Int}(h:(runP c p qs).isSome=false) : runP c p qs=none:=by
 cases e:runP c p qs with
 | none=>rfl
 | some x=>rw [e] at h;cases h
def xC(c:Cx)(run qs:List Int) : Cx:=⟨(qs.length:Int),(gatL c run).map (smallG qs)⟩
def KN(n:Nat) : Nat:=if n=2 then 3 else 5
def srW(n:Nat)(M:Mx) : Option (List Gt):=lsW (gsT n) (fun w=>phaseS (valW n w) M) (KN n)
theorem X9j(n:Nat) : KN n≤8:=by unfold KN;split<;>decide
def plX(c:Cx)(p:Int)(qs run:List Int) : Option Rp:=(srW qs.length ((opI (xC c run qs)).getD mZ)).bind fun w=>if w.length<run.length∧tcN w≤tcN (gatL c run) then repX c p run qs (mapI w qs) else none
def shrX(c:Cx)(p:Int)(qs:List Int) : Option Rp:=(runX c p qs).bind (plX c p qs)
def shrI(c:Cx)(p:Int)(qs:List Int) : Option Rp:=(runP c p qs).bind (plX c p qs)
theorem Xum{c:Cx}(hc:cOk c=true)(p:Int)(qs:List Int) : shrI c p qs=shrX c p qs:=by
 unfold shrI shrX runP runX
 rw [hc,Qw]
theorem X39(c:Cx)(run:List Int) : (gatL c run).length=run.length:=by unfold gatL;rw [Qo]
theorem X8n{c:Cx}(hc:cOk c=true){p:Int}{qs:List Int}(h:runB c p qs=true) : (qs.length=1∨qs.length=2)∧Inc qs∧∀ x ∈ qs,0≤x∧x≤4:=by
 obtain ⟨h1,h2,_⟩:=X29 h;have hn:=(X14 hc).1
 refine ⟨by omega,Xpt h2 h1.2,fun x hx=>?_⟩
 have:=Xo0 h2 x hx;omega
theorem Xo2{c:Cx}(hc:cOk c=true){p:Int}{qs:List Int}(h:runB c p qs=true) : cOk (xC c (runL c p qs) qs)=true∧mapI (gatL c (runL c p qs)) (numbI qs)=(gatL c (runL c p qs)).map (smallG qs)∧∃ M,opI (xC c (runL c p qs) qs)=some M∧mOk M=true∧M.rows=((2^qs.length:Nat) : Int)∧M.cols=((2^qs.length:Nat) : Int)∧canL M.cells≠none∧M.cells.length=2^qs.length*2^qs.length:=by
 obtain ⟨hq,hi,hb⟩:=X8n hc h;have hg:=X6q hc h;have hl:=X39 c (runL c p qs);have h6:=X7s c p qs
 have hok:cOk (xC c (runL c p qs) qs)=true:=by
  unfold cOk xC
  simp only [Qd,X01,Qr,Bool.not_eq_true',W7,Qo]
  refine ⟨⟨by omega,by omega⟩,fun g hg'=>?_⟩
  obtain ⟨g0,h0,rfl⟩:=W6.1 hg'
  have:=Xnw hi hb (hg g0 h0).1
  rw [show max 1 (qs.length:Int)=(qs.length:Int) from by omega] at this
  simp [this]
 have hmap:mapI (gatL c (runL c p qs)) (numbI qs)=(gatL c (runL c p qs)).map (smallG qs):=List.map_congr_left fun g hg'=>Xk8 hb (hg g hg').1
 obtain ⟨M,hM⟩:=Xdh hok (by
  have:=Xns (xC c (runL c p qs) qs).gs;have:(xC c (runL c p qs) qs).gs.length=(runL c p qs).length:=by unfold xC;rw [Qo,hl]
  omega)
 have hk:∀ g ∈ (xC c (runL c p qs) qs).gs,g.k≤11:=fun g hg'=>by
  obtain ⟨g0,h0,rfl⟩:=W6.1 hg';have h1:=Xi6 (hg g0 h0).2;have h2:=(X1i (hg g0 h0).1.ok).2.1
  show g0.k≤11;omega
 obtain ⟨_,h2,h3,h4⟩:=X9t (N:=qs.length) rfl hM;exact ⟨hok,hmap,M,hM,h2,h3,h4,Xub (N:=qs.length) rfl hM hk,Xgn hq h2 h3 h4⟩
theorem Xo8{n:Nat}(hn:n=1∨n=2){M:Mx}(h2:mOk M=true)(h3:M.rows=((2^n:Nat) : Int))(h4:M.cols=((2^n:Nat) : Int))(h5:canL M.cells≠none) : (tbW n (KN n)).1 (keyM M)=srW n M∧canY M=true:=by
 refine ⟨?_,?_⟩
 ·rw [Xjn h2];exact Xm0 hn h2 h3 h4 h5 (X9j n)
 ·unfold canY;rw [h2]
  cases e:canL M.cells with
  | none=>exact absurd e h5
  | some x=>rfl
theorem X5q{n:Nat}{M:Mx}{w:List Gt}(h:srW n M=some w) : w.length≤KN n∧∀ g ∈ w,g ∈ gsT n:=by
 obtain ⟨j,hj,hw,_⟩:=Xc3 h;exact ⟨by have:=X8h _ _ _ hw;omega,Xco _ _ _ hw⟩
theorem Xd8{n:Nat}(hn:n=1∨n=2){w:List Gt}(h:∀ g ∈ w,g ∈ gsT n) : ∀ g ∈ w,(g.k≠12→0≤g.a∧g.a<(n:Int))∧(inR g.k 9 11=true→0≤g.b∧g.b<(n:Int)):=fun g hg=>by
 have hok:=(X65 hn g (h g hg)).1;obtain ⟨_,_,ha,hb⟩:=X1i hok;exact ⟨fun h9=>by have:=ha h9;omega,fun h9=>by have:=hb (X01.1 h9);omega⟩
theorem Xfs{us:List Int}{n:Int}{l:List Gt}(h:∀ g ∈ l,GoodG us n g)(hn:n≤5) : ∀ g ∈ l,(g.k≠12→0≤g.a∧g.a<((5:Nat) : Int))∧(inR g.k 9 11=true→0≤g.b∧g.b<((5:Nat) : Int)):=fun g hg=>by
 obtain ⟨_,_,ha,hb⟩:=X1i (h g hg).ok;exact ⟨fun h9=>by have:=ha h9;omega,fun h9=>by have:=hb (X01.1 h9);omega⟩
theorem Xnq(us:List Int)(l:List Gt) : tcN (l.map (smallG us))=tcN l:=by
 unfold tcN;rw [List.countP_map];rfl
theorem Xe3{n j:Nat}(hn:n=1∨n=2){M:Mx}(hj:j≤KN n)(h0:∀ i,i<j→fdS n M i (unitS (2^n))=none)(hs:(fdS n M j (unitS (2^n))).isSome=true) : srW n M=some ((fdS n M j (unitS (2^n))).getD [])∧((fdS n M j (unitS (2^n))).getD []).length=j:=by
 have e:=Xp2 hn M _ (X9j n)
 rw [Xhz h0 (Xdf hs) _ hj] at e
 exact ⟨e.symm,Xhh (Xdf hs)⟩
theorem Xpn{n j:Nat}(hn:n=1∨n=2){M:Mx}(h0:∀ i,i<j→fdS n M i (unitS (2^n))=none) : ∀ w,srW n M=some w→j≤w.length:=fun w hw=>by
 rcases W4 w.length j with h|h
 ·exfalso
  obtain ⟨i,hi,hm,hp⟩:=Xc3 hw;have hl:=X8h _ _ _ hm
  have h1:=h0 i (by omega)
  rw [X9s hn M (Q0 hi (X9j n)),List.find?_eq_none] at h1
  exact h1 w hm hp
 ·exact h
theorem X5m{c:Cx}{p:Int}{qs run:List Int}{M:Mx}(hM:opI (xC c run qs)=some M)(h:∀ w,srW qs.length M=some w→¬ (w.length<run.length∧tcN w≤tcN (gatL c run))) : plX c p qs run=none:=by
 unfold plX;rw [hM,Qq]
 cases e:srW qs.length M with
 | none=>rfl
 | some w=>rw [Qz,Q3 (h w e)]
theorem X8p{c:Cx}{p:Int}{qs run:List Int}{M:Mx}{w:List Gt}(hM:opI (xC c run qs)=some M)(hw:srW qs.length M=some w)(h:w.length<run.length∧tcN w≤tcN (gatL c run)) : plX c p qs run=repX c p run qs (mapI w qs):=by
 unfold plX;rw [hM,Qq,hw,Qz,Q4 h]
theorem Xo1(l:List Gt) : (l.countP fun g=>inR g.k 7 8)=tcN l:=by
 unfold tcN
 apply List.countP_congr
 intro g _
 unfold isTk
 rw [X01];simp;omega
theorem Xte{c:Cx}{rr:List Int}{k j:Nat}{i:Int}{u:Gt}(h:rr[k]? = some i)(hj:i=(j:Int))(hl:j<c.gs.length)(hu:(gatL c rr)[k]? = some u) : c.gs[j]? = some u:=by
 unfold gatL at hu
 rw [List.getElem?_map,h,Option.map_some,hj,Qj,Qa,Qc hl,Qq] at hu
 rw [Qc hl];exact hu
theorem Xoe{us:List Int}{l q:List Gt}{k:Nat}{u:Gt}(h:q=(l.take k).map (smallG us))(hu:l[k]? = some u) : q++[smallG us u]=(l.take (k+1)).map (smallG us):=by
 rw [h,Qt,hu];simp
theorem Xzk{g:Gt}(h:¬ g.k=12) : g.a ∈ qubI g:=by unfold qubI;rw [Q3 h];split<;>simp
theorem Xzy{g:Gt}(h:¬ g.k=12)(h9:inR g.k 9 11=true) : g.b ∈ qubI g:=by unfold qubI;rw [Q3 h,Q4 h9];simp
theorem Xws{x:Cx}{M:Mx}(hx:cOk x=true)(h:opI x=some M) : runS x.n false x.gs (unitS (2^x.n.toNat))=(false,M):=by
 rw [(Xud x).1,opS,Q4 hx] at h
 cases e:(runS x.n false x.gs (unitS (2^x.n.toNat))).1 with
 | true=>rw [Q4 e] at h;cases h
 | false=>
  rw [Q3 (by rw [e];decide)] at h
  injection h with h
  exact Prod.ext e h
theorem X5w{qs:List Int}{l q:List Gt}{k:Nat}{u v:Gt}(h:q=(l.take k).map (mapG qs))(hu:l[k]? = some u)(hv:v=mapG qs u) : q++[v]=(l.take (k+1)).map (mapG qs):=by
 rw [h,Qt,hu,hv];simp
theorem Xr5{c:Cx}{p:Int}{qs:List Int}(h:(runX c p qs).isSome=true) : runB c p qs=true∧runX c p qs=some (runL c p qs):=by
 cases e:runB c p qs with
 | false=>rw [Xdj e] at h;cases h
 | true=>exact ⟨rfl,Xdp e⟩
theorem Xnm{c:Cx}{p:Int}{qs:List Int}(h:(runX c p qs).isSome=false) : runX c p qs=none:=by
 cases e:runX c p qs with
 | none=>rfl
 | some x=>rw [e] at h;cases h
theorem Xyn(w0:World)(x:Int)(qs:List Int)(ba:Nat)(Aq:Option Addr)(cq:Nat)(aA:Rd w0 w0.heap.size 3 encI Aq qs)(aB:Blk w0 ba 43 [.slice Aq qs.length cq])(aC:qs.length≤1048576) : Ret Tryz.prog 184 [vi x,.pointer (some ⟨ba,0,none⟩)] w0 (fun v w=>v=.bool (!hasB qs x)∧Below w0.heap.size w0 w):=by
 have aD:=aB.lt;refine enter Tryz.func184 rfl 8 rfl rfl ?_;intro a hf
 have hW:=bz w0
 refine Zs hf fun _ aE=>?_;refine Za rfl<|Zx aE fun a hf _ aF=>?_;refine Ze (X0 rfl X4t (aB.at 0))<|Zm rfl<|Zf (Vc (Xx4 _ Aq cq qs (aA.below' hW).top x (Q0 aC (by decide))) Xh8) ?_;rintro _ w1 ⟨rfl,hE⟩;have hW:=btr hW hE;refine Ze (X0x rfl)<|Za rfl<|Zt aF fun a hf=>?_
 refine Q6 (X3 hf (Xs hf rfl rfl) ?_)
 exact ⟨by rw [Xcl],hW⟩
theorem Xy8(w0:World)(x:Int)(qs:List Int)(ba:Nat)(Aq:Option Addr)(cq:Nat)(aA:Rd w0 w0.heap.size 3 encI Aq qs)(aB:Blk w0 ba 43 [.slice Aq qs.length cq])(aC:qs.length≤1048576) : Ret Tryz.prog 148 [vi x,.pointer (some ⟨ba,0,none⟩)] w0 (fun v w=>v=.bool (hasB qs x)∧Below w0.heap.size w0 w):=by
 have aD:=aB.lt;refine enter Tryz.func148 rfl 7 rfl rfl ?_;intro a hf
 have hW:=bz w0
 refine Zs hf fun _ aE=>?_;refine Za rfl<|Zx aE fun a hf _ aF=>?_;refine Ze (X0 rfl X4t (aB.at 0))<|Zm rfl<|Zf (Vc (Xx4 _ Aq cq qs (aA.below' hW).top x (Q0 aC (by decide))) Xh8) ?_;rintro _ w1 ⟨rfl,hE⟩;have hW:=btr hW hE;refine Za rfl<|Zt aF fun a hf=>?_
 refine Q6 (X3 hf (Xs hf rfl rfl) ?_)
 exact ⟨by rw [Xcl],hW⟩
theorem Xp9(w0:World)(g:Gt)(Aqs:Option Addr)(cqs:Nat)(qs:List Int)(c:Rd w0 w0.heap.size 3 encI Aqs qs)(aF:qs.length≤1048576) : Ret Tryz.prog 145 [.agg #[vi g.k,vi g.a,vi g.b],.slice Aqs qs.length cqs] w0 (fun v w=>v=.bool (insB g qs)∧Below w0.heap.size w0 w):=by
 have aN:=X3l g;refine enter Tryz.func145 rfl 17 rfl rfl ?_;intro a i
 have f:=bz w0
 refine Zs i fun _ aG=>?_;refine Zf (X0i (zs:=[vi g.k,vi g.a,vi g.b]) rfl rfl) ?_;rintro _ w1 ⟨b3,rfl,aH,e,aA⟩;have aL:=Q0 f.size aH;have c:=c.below e;have f:=btr f e;refine Zf (X0i (zs:=[.slice Aqs qs.length cqs]) rfl rfl) ?_;rintro _ w2 ⟨b4,rfl,aI,e,aB⟩;have aM:=Q0 f.size aI;have aA:=aA.below e;have c:=c.below e;have f:=btr f e;refine Za rfl<|Zx aG fun a i _ aJ=>?_;refine Ze (Vn X0f aA)<|Zf (Vc (F96 _ g) Xi9) ?_;rintro _ w3 ⟨A6,c6,rfl,aC,e⟩;have aC:=aC.lower f.size;have aB:=aB.below e;have c:=c.below e;have f:=btr f e;refine Za rfl<|ZX aJ fun a i _ aK=>?_;refine X0l (fun a w=>Fr a 17 [(4,.bool ((decide (0<((qubI g).length:Int)))&&(!((qubI g).any (fun q=>!hasB qs q)))))]∧Below w3.heap.size w3 w) ?_ ?_
 ·have j:Below w3.heap.size w3 w3:=Below.refl _ _
  refine Zr i<|Zm rfl<|Ze (X0p rfl X0b)<|Ze (X36 rfl rfl)<|Zm rfl ?_
  refine Zg 11 rfl (fun d=>?_) (fun d=>?_)
  ·refine Zv (gW d) (Xa rfl) ?_;refine Zv (gW d) (X2w (vs:=[.pointer (some ⟨b4,0,none⟩)]) rfl) ?_;refine Zk (gW d) (Vc (Xzt _ A6 c6 (qubI g) aC.rd.top 184 [.pointer (some ⟨b4,0,none⟩)] Xsa (fun q=>!hasB qs q) (fun x9 w9 aE=>Xyn w9 x9 qs b4 Aqs cqs ((c.top).below aE).top (aB.below aE) aF) (by omega)) Xo9) ?_;rintro _ w4 ⟨rfl,e⟩;have f:=btr f e;have j:=btr j e;refine Zv (gW d) (X0x rfl) ?_;refine Ze (Xl rfl d rfl)<|Za rfl ?_;refine Zn fun a i=>?_
   have aD:Below w3.heap.size w3 w4:=j
   exact ⟨i.sub ⟨X1 rfl (by first|rfl|(simp only [d,bs];done)|simp [d]),trivial⟩,aD⟩
  refine Zp (gP d) ?_;refine Zp (gP d) ?_;refine Zp (gP d) ?_;refine Zp (gP d) ?_;refine Ze (Xe rfl d rfl)<|Za rfl ?_;refine Zn fun a i=>?_
  have aD:Below w3.heap.size w3 w3:=j
  exact ⟨i.sub ⟨X1 rfl (by first|rfl|(simp only [d,bs];done)|simp [d]),trivial⟩,aD⟩
 rintro a w5 ⟨i,e⟩;have f:=btr f e;refine aK _ _ ?_
 refine Q6 (X3 i (Xs i rfl rfl) ?_)
 exact ⟨by first|rfl|simp [insB, *],f⟩
theorem Xzr(i:World)(Al:Option Addr)(cl:Nat)(l:List Int)(j:Rd i i.heap.size 3 encI Al l)(n:Int)(hn:-1000≤n∧n≤1000)(aQ:l.length≤1048576) : Ret Tryz.prog 144 [.slice Al l.length cl,vi n] i (fun v w=>v=.bool (incF l 0 (n-1))∧Below i.heap.size i w):=by
 refine enter Tryz.func144 rfl 33 rfl rfl ?_;intro a d
 have hW:=bz i
 refine Zs d fun _ aK=>?_;refine Za rfl<|ZX aK fun a d _ aL=>?_;refine Zs d fun _ aM=>?_;refine Zm rfl<|Ze (X0p rfl X0b)<|Zm rfl<|Zt aM fun a d=>?_;refine Q8<|X0a (σ:=Nat) (fun (k:Nat) (a:Act) (w:World)=>Fr a 33 [(0,.slice Al l.length cl),(1,vi n),(7,.slice Al l.length cl),(8,vi (l.length:Int)),(9,vi (k:Int))]∧(k≤l.length)∧(IncU l 0 (n-1) k)∧Below i.heap.size i w) (fun (k:Nat)=>l.length-k) 0 ?_ ?_
 ·exact ⟨d.sb,(Qf _),(Xal _ _ _),hW⟩
 rintro k a w1 ⟨d,hk,m,hW⟩;refine Zs d fun _ aN=>?_;refine Ze (X11 rfl rfl)<|ZX aN fun a d _ aO=>?_
 refine Xj d rfl (fun g=>?_) (fun g=>?_)
 ·have e:=g;have g:=Q2 g
  obtain ⟨u8,aA⟩:=Xf (l:=l) (k:=k) (by omega)
  refine Q7<|aO _ _<|Q5 fun _ aP=>?_;refine Q8<|Zs d fun _ aE=>?_;refine Zm rfl<|Zi (k:=k) (u:=u8) (enc:=encI) (l:=l) trivial rfl rfl X0b X1k X05 (j.below' hW) aA rfl ?_;intro aR aB;refine Ze (X0 rfl X7 aB)<|Za rfl<|Za rfl<|ZX aE fun a d _ aF=>?_;refine X0l (fun a w=>Fr a 33 [(0,.slice Al l.length cl),(1,vi n),(7,.slice Al l.length cl),(8,vi (l.length:Int)),(9,vi (k:Int)),(31,.bool ((!(inR u8 0 (n-1)))||((decide (0<(k:Int)))&&(decide (u8≤(l.getD (k-1) 0))))))]∧w1=w) ?_ ?_
  ·refine Zr d<|Zm rfl<|Zm rfl<|Ze (X1j rfl rfl (by omega) (by omega))<|Zf (Vc (F91 _ u8 0 (n-1)) X35) ?_;rintro _ _ ⟨rfl,rfl⟩;refine Ze (X0x rfl)<|Zm rfl ?_
   refine Zg 19 rfl (fun c=>?_) (fun c=>?_)
   ·refine Zp (gP c) ?_;refine Zp (gP c) ?_;refine Zp (gP c) ?_;refine Zp (gP trivial) ?_;refine Zp (gP trivial) ?_;refine Zp (gP trivial) ?_;refine Zp (gP trivial) ?_;refine Zp (gP trivial) ?_;refine Zp (gP trivial) ?_;refine Zp (gP trivial) ?_;refine Zp (gP c) ?_;refine Ze (Xl rfl c rfl) ?_;refine Zn fun a d=>?_;exact ⟨d.sub ⟨rfl,rfl,rfl,rfl,rfl,X1 rfl (by first|rfl|(simp only [e,c,bs];done)|simp [e,c]),trivial⟩,rfl⟩
   refine Zv (gW c) (Xa rfl) ?_;refine Zv (gW c) (X36 rfl rfl) ?_;refine Zv (gW c) (Xa rfl) ?_
   refine Zg 22 rfl (fun b=>?_) (fun b=>?_)
   ·have aS:=Q2 b;refine Zv (gW b) (Xa rfl) ?_;refine Zv (gW b) (Xa rfl) ?_;refine Zv (gW b) (X1j rfl rfl (by omega) (by omega)) ?_;refine Zi (k:=(k-1)) (u:=(l.getD (k-1) 0)) (enc:=encI) (l:=l) ⟨_,_,rfl,rfl,b⟩ rfl rfl X0b X1k X05 (j.below' hW) (X77 (by omega)) (by omega) ?_;intro aT aC;refine Zv (gW b) (X0 rfl X7 aC) ?_;refine Zv (gW b) (Xa rfl) ?_;refine Zv (gW b) (Xae rfl rfl) ?_;refine Zv (gW c) (Xl rfl b rfl) ?_;refine Ze (Xe rfl c rfl) ?_;refine Zn fun a d=>?_;exact ⟨d.sub ⟨rfl,rfl,rfl,rfl,rfl,X1 rfl (by first|rfl|(simp only [e,c,b,bs];done)|simp [e,c,b]),trivial⟩,rfl⟩
   refine Zp (gP b) ?_;refine Zp (gP b) ?_;refine Zp (gP b) ?_;refine Zp (gP b) ?_;refine Zp (gP b) ?_;refine Zp (gP b) ?_;refine Zp (gP b) ?_;refine Zv (gW c) (Xe rfl b rfl) ?_;refine Ze (Xe rfl c rfl) ?_;refine Zn fun a d=>?_;exact ⟨d.sub ⟨rfl,rfl,rfl,rfl,rfl,X1 rfl (by first|rfl|(simp only [e,c,b,bs];done)|simp [e,c,b]),trivial⟩,rfl⟩
  rintro a _ ⟨d,rfl⟩;refine aF _ _ ?_
  refine Xj d rfl (fun f=>?_) (fun f=>?_)
  ·have aD:=f;have aG:=Xfv aA f;refine Zs d fun _ aH=>?_;refine Za rfl<|Zt aH fun a d=>?_;refine Q6<|Xm<|X2<|X2 ?_;refine Xm<|X2<|X3 d (Xs d rfl rfl) ?_;exact ⟨by rw [aG],hW⟩
  have aD:=f;have aI:=f;refine Q7<|Xq<|aP _ _<|Zr d ?_;refine Ze (X00 rfl rfl (by omega) (by omega))<|Zm rfl ?_;refine Zn fun a d=>?_;refine Xo ?_;exact ⟨k+1,⟨d.sb,(by omega),(Xaz m aA aI),hW⟩,(by omega)⟩
 have e:=g;have g:=Q1 g;refine Q9<|Xn<|Xn<|X06 ?_;refine aL _ _<|Zs d fun _ aJ=>?_;refine Za rfl<|Zt aJ fun a d=>?_
 refine Q6 (X3 d (Xs d rfl rfl) ?_)
 exact ⟨by rw [Xdu m (by omega)],hW⟩
theorem Xy5(i:World)(Al:Option Addr)(cl:Nat)(l:List Int)(j:Rd i i.heap.size 3 encI Al l)(lo:Int)(hi:Int)(aQ:l.length≤1048576) : Ret Tryz.prog 182 [.slice Al l.length cl,vi lo,vi hi] i (fun v w=>v=.bool (incF l lo hi)∧Below i.heap.size i w):=by
 refine enter Tryz.func182 rfl 35 rfl rfl ?_;intro a d
 have hW:=bz i
 refine Zs d fun _ aK=>?_;refine Za rfl<|ZX aK fun a d _ aL=>?_;refine Zs d fun _ aM=>?_;refine Zm rfl<|Ze (X0p rfl X0b)<|Zm rfl<|Zt aM fun a d=>?_;refine Q8<|X0a (σ:=Nat) (fun (k:Nat) (a:Act) (w:World)=>Fr a 35 [(0,.slice Al l.length cl),(1,vi lo),(2,vi hi),(9,.slice Al l.length cl),(10,vi (l.length:Int)),(11,vi (k:Int))]∧(k≤l.length)∧(IncU l lo hi k)∧Below i.heap.size i w) (fun (k:Nat)=>l.length-k) 0 ?_ ?_
 ·exact ⟨d.sb,(Qf _),(Xal _ _ _),hW⟩
 rintro k a w1 ⟨d,hk,m,hW⟩;refine Zs d fun _ aN=>?_;refine Ze (X11 rfl rfl)<|ZX aN fun a d _ aO=>?_
 refine Xj d rfl (fun g=>?_) (fun g=>?_)
 ·have e:=g;have g:=Q2 g
  obtain ⟨u8,aA⟩:=Xf (l:=l) (k:=k) (by omega)
  refine Q7<|aO _ _<|Q5 fun _ aP=>?_;refine Q8<|Zs d fun _ aE=>?_;refine Zm rfl<|Zi (k:=k) (u:=u8) (enc:=encI) (l:=l) trivial rfl rfl X0b X1k X05 (j.below' hW) aA rfl ?_;intro aR aB;refine Ze (X0 rfl X7 aB)<|Za rfl<|Za rfl<|ZX aE fun a d _ aF=>?_;refine X0l (fun a w=>Fr a 35 [(0,.slice Al l.length cl),(1,vi lo),(2,vi hi),(9,.slice Al l.length cl),(10,vi (l.length:Int)),(11,vi (k:Int)),(33,.bool ((!(inR u8 lo hi))||((decide (0<(k:Int)))&&(decide (u8≤(l.getD (k-1) 0))))))]∧w1=w) ?_ ?_
  ·refine Zr d<|Zm rfl<|Zm rfl<|Zm rfl<|Zf (Vc (F85 _ u8 lo hi) X3y) ?_;rintro _ _ ⟨rfl,rfl⟩;refine Ze (X0x rfl)<|Zm rfl ?_
   refine Zg 21 rfl (fun c=>?_) (fun c=>?_)
   ·refine Zp (gP c) ?_;refine Zp (gP c) ?_;refine Zp (gP c) ?_;refine Zp (gP trivial) ?_;refine Zp (gP trivial) ?_;refine Zp (gP trivial) ?_;refine Zp (gP trivial) ?_;refine Zp (gP trivial) ?_;refine Zp (gP trivial) ?_;refine Zp (gP trivial) ?_;refine Zp (gP c) ?_;refine Ze (Xl rfl c rfl) ?_;refine Zn fun a d=>?_;exact ⟨d.sub ⟨rfl,rfl,rfl,rfl,rfl,rfl,X1 rfl (by first|rfl|(simp only [e,c,bs];done)|simp [e,c]),trivial⟩,rfl⟩
   refine Zv (gW c) (Xa rfl) ?_;refine Zv (gW c) (X36 rfl rfl) ?_;refine Zv (gW c) (Xa rfl) ?_
   refine Zg 24 rfl (fun b=>?_) (fun b=>?_)
   ·have aS:=Q2 b;refine Zv (gW b) (Xa rfl) ?_;refine Zv (gW b) (Xa rfl) ?_;refine Zv (gW b) (X1j rfl rfl (by omega) (by omega)) ?_;refine Zi (k:=(k-1)) (u:=(l.getD (k-1) 0)) (enc:=encI) (l:=l) ⟨_,_,rfl,rfl,b⟩ rfl rfl X0b X1k X05 (j.below' hW) (X77 (by omega)) (by omega) ?_;intro aT aC;refine Zv (gW b) (X0 rfl X7 aC) ?_;refine Zv (gW b) (Xa rfl) ?_;refine Zv (gW b) (Xae rfl rfl) ?_;refine Zv (gW c) (Xl rfl b rfl) ?_;refine Ze (Xe rfl c rfl) ?_;refine Zn fun a d=>?_;exact ⟨d.sub ⟨rfl,rfl,rfl,rfl,rfl,rfl,X1 rfl (by first|rfl|(simp only [e,c,b,bs];done)|simp [e,c,b]),trivial⟩,rfl⟩
   refine Zp (gP b) ?_;refine Zp (gP b) ?_;refine Zp (gP b) ?_;refine Zp (gP b) ?_;refine Zp (gP b) ?_;refine Zp (gP b) ?_;refine Zp (gP b) ?_;refine Zv (gW c) (Xe rfl b rfl) ?_;refine Ze (Xe rfl c rfl) ?_;refine Zn fun a d=>?_;exact ⟨d.sub ⟨rfl,rfl,rfl,rfl,rfl,rfl,X1 rfl (by first|rfl|(simp only [e,c,b,bs];done)|simp [e,c,b]),trivial⟩,rfl⟩
  rintro a _ ⟨d,rfl⟩;refine aF _ _ ?_
  refine Xj d rfl (fun f=>?_) (fun f=>?_)
  ·have aD:=f;have aG:=Xfv aA f;refine Zs d fun _ aH=>?_;refine Za rfl<|Zt aH fun a d=>?_;refine Q6<|Xm<|X2<|X2 ?_;refine Xm<|X2<|X3 d (Xs d rfl rfl) ?_;exact ⟨by rw [aG],hW⟩
  have aD:=f;have aI:=f;refine Q7<|Xq<|aP _ _<|Zr d ?_;refine Ze (X00 rfl rfl (by omega) (by omega))<|Zm rfl ?_;refine Zn fun a d=>?_;refine Xo ?_;exact ⟨k+1,⟨d.sb,(by omega),(Xaz m aA aI),hW⟩,(by omega)⟩
 have e:=g;have g:=Q1 g;refine Q9<|Xn<|Xn<|X06 ?_;refine aL _ _<|Zs d fun _ aJ=>?_;refine Za rfl<|Zt aJ fun a d=>?_
 refine Q6 (X3 d (Xs d rfl rfl) ?_)
 exact ⟨by rw [Xdu m (by omega)],hW⟩
theorem Xyr(g:World)(c:Cx)(Ac:Option Addr)(cc:Nat)(aH:Rd g g.heap.size 115 encG Ac c.gs)(Aqs:Option Addr)(cqs:Nat)(qs:List Int)(aA:Rd g g.heap.size 3 encI Aqs qs)(hn:1≤c.n∧c.n≤5)(aC:qs.length≤1048576) : Ret Tryz.prog 138 [.agg #[vi c.n,.slice Ac c.gs.length cc],.slice Aqs qs.length cqs] g (fun v w=>v=.bool (inR (qs.length:Int) 1 2&&incF qs 0 (c.n-1))∧Below g.heap.size g w):=by
 refine enter Tryz.func138 rfl 15 rfl rfl ?_;intro a d
 have e:=bz g
 refine Zs d fun _ aD=>?_;refine Zf (X0i (zs:=[vi c.n,.slice Ac c.gs.length cc]) rfl rfl) ?_;rintro _ w1 ⟨b4,rfl,aE,hE,aF⟩;have aI:=Q0 e.size aE;have e:=btr e hE;refine Za rfl<|ZX aD fun a d _ aG=>?_;refine X0l (fun a w=>Fr a 15 [(4,.bool ((inR (qs.length:Int) 1 2)&&(incF qs 0 (c.n-1))))]∧Below w1.heap.size w1 w) ?_ ?_
 ·have f:Below w1.heap.size w1 w1:=Below.refl _ _
  refine Zr d<|Zm rfl<|Ze (X0p rfl X0b)<|Zf (Vc (F85 _ (qs.length:Int) 1 2) X3y) ?_;rintro _ _ ⟨rfl,rfl⟩;refine Zm rfl ?_
  refine Zg 8 rfl (fun b=>?_) (fun b=>?_)
  ·refine Zv (gW b) (Xa rfl) ?_;refine Zv (gW b) (Vd rfl X1e 0) ?_;refine Zv (gW b) (X0 rfl X7 (aF.at 0)) ?_;refine Zv (gW b) (X1j rfl rfl (by omega) (by omega)) ?_;refine Zk (gW b) (Vc (Xy5 _ Aqs cqs qs (aA.below' e).top 0 (c.n-1) aC) Xqo) ?_;rintro _ w2 ⟨rfl,hE⟩;have e:=btr e hE;have f:=btr f hE;refine Ze (Xl rfl b rfl)<|Za rfl ?_;refine Zn fun a d=>?_
   have aB:Below w1.heap.size w1 w2:=f
   exact ⟨d.sub ⟨X1 rfl (by first|rfl|(simp only [b,bs];done)|simp [b]),trivial⟩,aB⟩
  refine Zp (gP b) ?_;refine Zp (gP b) ?_;refine Zp (gP b) ?_;refine Zp (gP b) ?_;refine Zp (gP b) ?_;refine Ze (Xe rfl b rfl)<|Za rfl ?_;refine Zn fun a d=>?_
  have aB:Below w1.heap.size w1 w1:=f
  exact ⟨d.sub ⟨X1 rfl (by first|rfl|(simp only [b,bs];done)|simp [b]),trivial⟩,aB⟩
 rintro a w3 ⟨d,hE⟩;have e:=btr e hE;refine aG _ _ ?_
 refine Q6 (X3 d (Xs d rfl rfl) ?_)
 exact ⟨by first|rfl|simp [*],e⟩
theorem Xq0(m:World)(g:Gt)(Aqs:Option Addr)(cqs:Nat)(qs:List Int)(aA:Rd m m.heap.size 3 encI Aqs qs)(aH:qs.length≤1048576) : Ret Tryz.prog 139 [.agg #[vi g.k,vi g.a,vi g.b],.slice Aqs qs.length cqs] m (fun v w=>v=.tuple #[vi (inN g qs:Int),vi (ouN g qs:Int)]∧Below m.heap.size m w):=by
 have aT:=X3l g;refine enter Tryz.func139 rfl 27 rfl rfl ?_;intro a c
 have j:=bz m
 refine Zs c fun _ aI=>?_;refine Zf (X0i (zs:=[vi g.k,vi g.a,vi g.b]) rfl rfl) ?_;rintro _ w1 ⟨b3,rfl,aJ,hE,aK⟩;have aS:=Q0 j.size aJ;have j:=btr j hE;refine Za rfl<|Za rfl<|Zx aI fun a c _ aL=>?_;refine Za rfl<|Za rfl<|ZX aL fun a c _ aM=>?_;refine Zs c fun _ aN=>?_;refine Ze (Vn X0f aK)<|Zf (Vc (Xzu _ g) Xpd) ?_;rintro _ w2 ⟨A7,c7,rfl,e,hE⟩;have e:=e.lower j.size;have j:=btr j hE;refine Ze (X0p rfl X0b)<|Zm rfl<|Zt aN fun a c=>?_;refine Q8<|X0a (σ:=Nat×Nat×Nat) (fun (s:Nat×Nat×Nat) (a:Act) (w:World)=>match s with|(k,p,q)=>Fr a 27 [(1,.slice Aqs qs.length cqs),(6,vi (p:Int)),(7,vi (q:Int)),(11,.slice A7 (qubI g).length c7),(12,vi ((qubI g).length:Int)),(13,vi (k:Int))]∧(k≤(qubI g).length)∧(p=((qubI g).take k).countP (hasB qs))∧(q=((qubI g).take k).countP (fun x=>!hasB qs x))∧(p≤k)∧(q≤k)∧Own w m.heap.size 3 1 encI A7 c7 (qubI g)∧Below m.heap.size m w) (fun (s:Nat×Nat×Nat)=>match s with|(k,p,q)=>(qubI g).length-k) (0,0,0) ?_ ?_
 ·exact ⟨c.sb,(Qf _),rfl,rfl,(Qb _),(Qb _),e,j⟩
 rintro ⟨k,p,q⟩ a w3 ⟨c,hk,hp,hq,aU,aW,e,j⟩;refine Zs c fun _ aO=>?_;refine Ze (X11 rfl rfl)<|ZX aO fun a c _ aP=>?_
 refine Xj c rfl (fun d=>?_) (fun d=>?_)
 ·have aB:=d;have d:=Q2 d
  obtain ⟨n,f⟩:=Xf (l:=(qubI g)) (k:=k) (by omega)
  refine Q7<|aP _ _<|Q5 fun _ o=>?_;refine Q8<|Zs c fun _ aE=>?_;refine Zi (k:=k) (u:=n) (enc:=encI) (l:=(qubI g)) trivial rfl rfl X0b X1k X05 e.rd f rfl ?_;intro aX aC;refine Ze (X0 rfl X7 aC)<|Za rfl<|Zx aE fun a c _ aF=>?_;refine Zm rfl<|Zm rfl<|Zf (Vc (Y05 _ Aqs cqs qs (aA.below' j).top n (Q0 aH (by decide))) Xmk) ?_;rintro _ w4 ⟨rfl,hE⟩;have e:=e.below hE;have j:=btr j hE;refine Zt aF fun a c=>?_
  refine Xj c rfl (fun i=>?_) (fun i=>?_)
  ·have aD:=i
   have hT:hasB qs n=true:=i
   refine Zr c<|Zm rfl<|Ze (X00 rfl rfl (by omega) (by omega))<|Za rfl ?_;refine Zn fun a c=>?_;refine Xq<|o _ _<|Zr c<|Ze (X00 rfl rfl (by omega) (by omega))<|Zm rfl ?_;refine Zn fun a c=>?_;refine Xo ?_;exact ⟨(k+1,p+1,q),⟨c.sb,(by omega),(Xjc hp f hT),(Xnr hq f (by rw [hT];rfl)),(by omega),(by omega),e,j⟩,(by first|omega|(dsimp only;omega))⟩
  have aD:=i
  have hT:hasB qs n=false:=i
  refine Zr c<|Zm rfl<|Ze (X00 rfl rfl (by omega) (by omega))<|Za rfl ?_;refine Zn fun a c=>?_;refine Xq<|o _ _<|Zr c<|Ze (X00 rfl rfl (by omega) (by omega))<|Zm rfl ?_;refine Zn fun a c=>?_;refine Xo ?_;exact ⟨(k+1,p,q+1),⟨c.sb,(by omega),(Xnr hp f hT),(Xjc hq f (by rw [hT];rfl)),(by omega),(by omega),e,j⟩,(by first|omega|(dsimp only;omega))⟩
 have aB:=d;have d:=Q1 d;refine Q9<|Xn<|Xn<|X06 ?_;refine aM _ _<|Zs c fun _ aG=>?_;refine Zm rfl<|Zm rfl<|Za rfl<|Za rfl<|Zt aG fun a c=>?_
 refine Q6 (X3 c (X0w c rfl rfl rfl) ?_)
 have aQ:p=inN g qs:=by rw [hp,Qi (by omega)];rfl
 have aR:q=ouN g qs:=by rw [hq,Qi (by omega)];rfl
 exact ⟨by rw [aQ,aR],j⟩
theorem Xu9(o:World)(z:Cx)(Az:Option Addr)(cz:Nat)(x:Rd o o.heap.size 115 encG Az z.gs)(Arun:Option Addr)(crun:Nat)(run:List Int)(D:Rd o o.heap.size 3 encI Arun run)(b8:run.length≤1048576)(aT:∀ i ∈ run,∃ j:Nat,i=(j:Int)∧j<z.gs.length) : Ret Tryz.prog 85 [.agg #[vi z.n,.slice Az z.gs.length cz],.slice Arun run.length crun] o (fun v w=>∃ A c,v=.slice A (gatL z run).length c∧Own w o.heap.size 115 3 encG A c (gatL z run)∧Below o.heap.size o w):=by
 refine enter Tryz.func85 rfl 25 rfl rfl ?_;intro a e
 have f:=bz o
 refine Zs e fun _ aU=>?_;refine Zf (X0i (zs:=[vi z.n,.slice Az z.gs.length cz]) rfl rfl) ?_;rintro _ w1 ⟨b4,rfl,aW,H,g⟩;have b6:=Q0 f.size aW;have f:=btr f H;refine Za rfl<|Zx aU fun a e _ aX=>?_;refine Zf (X5 (k:=0) (vs:=[]) (zs:=[]) rfl Xb Xk rfl rfl) ?_;rintro _ w2 ⟨b7,rfl,aE,H,aY⟩;have aF:=Q0 f.size aE;have aS:=(x.below' f).away aE;have g:=g.below H;have f:=btr f H;refine Za rfl<|ZX aX fun a e _ aZ=>?_;refine Zs e fun _ aG=>?_;refine Zm rfl<|Ze (X0p rfl X0b)<|Zm rfl<|Zt aG fun a e=>?_;refine Q8<|X0a (σ:=Nat×(List Gt)) (fun (s:Nat×(List Gt)) (a:Act) (w:World)=>match s with|(k,q)=>∃ E G,Fr a 25 [(2,.pointer (some ⟨b4,0,none⟩)),(5,.slice E q.length G),(9,.slice Arun run.length crun),(10,vi (run.length:Int)),(11,vi (k:Int))]∧(k≤run.length)∧(q=(run.take k).map fun i=>z.gs.getD i.toNat gZ)∧(q.length=k)∧Blk w b4 28 [vi z.n,.slice Az z.gs.length cz]∧Own w o.heap.size 115 3 encG E G q∧Below o.heap.size o w) (fun (s:Nat×(List Gt))=>match s with|(k,q)=>run.length-k) (0,[]) ?_ ?_
 ·exact ⟨some ⟨b7,0,none⟩,0,e.sb,(Qf _),rfl,rfl,g,(Own.empty aY aF),f⟩
 rintro ⟨k,q⟩ a w3 ⟨E,G,e,hk,hq,b0,g,m,f⟩;refine Zs e fun _ aH=>?_;refine Ze (X11 rfl rfl)<|ZX aH fun a e _ aI=>?_
 refine Xj e rfl (fun d=>?_) (fun d=>?_)
 ·have aA:=d;have d:=Q2 d
  obtain ⟨b1,y⟩:=Xf (l:=run) (k:=k) (by omega)
  obtain ⟨p,aJ,aK⟩:=aT _ (Qe y);refine Q7<|aI _ _<|Q5 fun _ aL=>?_;refine Q8<|Zs e fun _ aM=>?_;refine Zi (k:=k) (u:=b1) (enc:=encI) (l:=run) trivial rfl rfl X0b X1k X05 (D.below' f) y rfl ?_;intro b9 aB;refine Ze (X0 rfl X7 aB)<|Za rfl<|Zt aM fun a e=>?_;refine Zr e<|Zm rfl<|Ze (Vd rfl X0g 1)<|Ze (X0 rfl X0m (g.at 1))<|Zm rfl<|Zi (k:=p) (u:=(z.gs.getD p gZ)) (enc:=encG) (l:=z.gs) trivial rfl rfl Xb X0h X9 (x.below' f) (Xcu aK) aJ ?_;intro bC aC;refine Ze (Xw (l:=[vi ((z.gs.getD p gZ).k),vi ((z.gs.getD p gZ).a),vi ((z.gs.getD p gZ).b)]) rfl X0f aC rfl)<|Zf (X5 (k:=1) (vs:=[.agg #[vi ((z.gs.getD p gZ).k),vi ((z.gs.getD p gZ).a),vi ((z.gs.getD p gZ).b)]]) (zs:=[vi ((z.gs.getD p gZ).k),vi ((z.gs.getD p gZ).a),vi ((z.gs.getD p gZ).b)]) rfl Xb Xk rfl rfl) ?_;rintro _ w4 ⟨bD,rfl,h,H,B⟩;have b2:=Q0 f.size h;have t:=m.away h;have aN:=(x.below' f).away h;have g:=g.below H;have m:=m.below H;have f:=btr f H;refine Zf (X0v (enc:=encG) (l:=(q)) (l2:=([(z.gs.getD p gZ)])) (B0:=o.heap.size) rfl rfl Xb Xk X9 X07 m (Rd.of_blk B rfl _ B.lt) (by simp only [maxLen];simp;omega) (by simp;omega) f.size) ?_;rintro _ w5 ⟨b3,b5,rfl,aO,hg,aP⟩
  have C:Own _ o.heap.size 115 3 encG _ _ (q):=m
  have aD:=aP _ B.lt t;clear aP;have g:=g.appT C hg rfl;have f:=Below.app f C hg (Qb _) f.size;clear C hg;refine Za rfl ?_;refine Zn fun a e=>?_;refine Xq<|aL _ _<|Zr e<|Ze (X00 rfl rfl (by omega) (by omega))<|Zm rfl ?_;refine Zn fun a e=>?_;refine Xo ?_;exact ⟨(k+1,(q++[z.gs.getD p gZ])),⟨b3,b5,e.sb,(by omega),(Xlr hq y aJ),(by simp;exact b0),g,aO,f⟩,(by first|omega|(dsimp only;omega))⟩
 have aA:=d;have d:=Q1 d
 have aQ:q=gatL z run:=by rw [hq,Qi (by omega)];rfl
 refine Q9<|Xn<|Xn<|X06 ?_;refine aZ _ _<|Zs e fun _ aR=>?_;refine Zm rfl<|Za rfl<|Zt aR fun a e=>?_
 refine Q6 (X3 e (Xs e rfl rfl) ?_)
 rw [← aQ]
 exact ⟨E,G,rfl,m,f⟩
theorem Xp5(Q:World)(c:Cx)(Ac:Option Addr)(cc:Nat)(e:Rd Q Q.heap.size 115 encG Ac c.gs)(p:Int)(Aqs:Option Addr)(cqs:Nat)(qs:List Int)(d:Rd Q Q.heap.size 3 encI Aqs qs)(bK:c.gs.length≤1000000000)(aG:qs.length≤1048576) : Ret Tryz.prog 84 [.agg #[vi c.n,.slice Ac c.gs.length cc],vi p,.slice Aqs qs.length cqs] Q (fun v w=>∃ A c1,v=.tuple #[.slice A ((runP c p qs).getD []).length c1,.bool ((runP c p qs).isSome)]∧Own w Q.heap.size 3 1 encI A c1 ((runP c p qs).getD [])∧Below Q.heap.size Q w):=by
 refine enter Tryz.func84 rfl 77 rfl rfl ?_;intro a y
 have z:=bz Q
 refine Zs y fun _ bL=>?_;refine Zf (X0i (zs:=[vi c.n,.slice Ac c.gs.length cc]) rfl rfl) ?_;rintro _ w1 ⟨b4,rfl,bM,f,g⟩;have cA:=Q0 z.size bM;have e:=e.below f;have d:=d.below f;have z:=btr z f;refine Zf (X0i (zs:=[.slice Aqs qs.length cqs]) rfl rfl) ?_;rintro _ w2 ⟨b5,rfl,bN,f,m⟩;have cB:=Q0 z.size bN;have g:=g.below f;have e:=e.below f;have d:=d.below f;have z:=btr z f;refine Za rfl<|Za rfl<|ZX bL fun a y _ bO=>?_;refine Q5 fun _ bP=>?_;refine X0l (fun a w=>Fr a 77 [(1,vi p),(3,.pointer (some ⟨b4,0,none⟩)),(5,.pointer (some ⟨b5,0,none⟩)),(45,.bool (((((!(cOk c))||(!(inR (qs.length:Int) 1 2)))||(!(incF qs 0 (c.n-1))))||(!(inR p 0 ((c.gs.length:Int)-1))))||(!(insB (c.gs.getD p.toNat gZ) qs))))]∧Below w2.heap.size w2 w) ?_ ?_
 ·have C:Below w2.heap.size w2 w2:=Below.refl _ _
  refine X0d none (fun _=>false) mixed ?_;intro w3 f;have g:=g.below f;have m:=m.below f;have e:=e.below f;have d:=d.below f;have z:=btr z f;have C:=btr C f;refine Yb y<|Ye 0 rfl (Vn X0y g)<|Y1 1 ?_;refine Yk rfl trivial (Vc (F55 _ c Ac cc e.top (Q0 bK (by decide))) Xeh) (fun _ _ ⟨_,f⟩=>f) ?_;rintro _ w4 ⟨rfl,f⟩;have g:=g.below f;have m:=m.below f;have e:=e.below f;have d:=d.below f;have z:=btr z f;have C:=btr C f;refine Yo 2 rfl (fun _=>X0x rfl)<|Yo 3 rfl (fun _=>Xa rfl) ?_
  refine Yl 14 rfl (fun h=>?_) (fun h=>?_)
  ·refine Yp 4 rfl (gP h) ?_;refine Yp 5 rfl (gP h) ?_;refine Y1 6<|Yq rfl ⟨_,_,rfl,rfl,h⟩ ?_;refine Yp 7 rfl (gP h) ?_;refine Yo 8 rfl (fun _=>Xl rfl h rfl)<|Yo 9 rfl (fun _=>Xa rfl)<|Yp 10 rfl (gP rfl) ?_;refine Yp 11 rfl (gP rfl) ?_;refine Yp 12 rfl (gP rfl) ?_;refine Y1 13<|Yq rfl ⟨_,_,rfl,rfl,rfl⟩ ?_;refine Yp 14 rfl (gP rfl) ?_;refine Yo 15 rfl (fun _=>Xl rfl rfl rfl)<|Yo 16 rfl (fun _=>Xa rfl)<|Yp 17 rfl (gP rfl) ?_;refine Yp 18 rfl (gP rfl) ?_;refine Yp 19 rfl (gP rfl) ?_;refine Yp 20 rfl (gP rfl) ?_;refine Yp 21 rfl (gP rfl) ?_;refine Y1 22<|Yq rfl ⟨_,_,rfl,rfl,rfl⟩ ?_;refine Yp 23 rfl (gP rfl) ?_;refine Yo 24 rfl (fun _=>Xl rfl rfl rfl)<|Yo 25 rfl (fun _=>Xa rfl)<|Yp 26 rfl (gP rfl) ?_;refine Yp 27 rfl (gP rfl) ?_;refine Yp 28 rfl (gP rfl) ?_;refine Yp 29 rfl (gP rfl) ?_;refine Yp 30 rfl (gP rfl) ?_;refine Yp 31 rfl (gP rfl) ?_;refine Y1 32<|Yq rfl ⟨_,_,rfl,rfl,rfl⟩ ?_;refine Yp 33 rfl (gP rfl) ?_;refine Yo 34 rfl (fun _=>Xl rfl rfl rfl) ?_;refine Yd fun a y=>?_
   have I:Below w2.heap.size w2 w4:=C
   exact ⟨y.sub ⟨rfl,rfl,rfl,X1 rfl (by first|rfl|(simp only [h,bs];done)|simp [h]),trivial⟩,I⟩
  have bQ:cOk c=true:=bn2 h
  refine Yv 4 rfl (gW h) (X0 rfl X4t (m.at 0)) ?_;refine Yu 5 rfl (gW h) (fun _=>X0p rfl X0b) ?_;refine Y1 6<|Yz rfl ⟨_,_,rfl,rfl,h⟩ (Vc (F91 _ (qs.length:Int) 1 2) X35) ?_;refine Yu 7 rfl (gW h) (fun _=>X0x rfl) ?_;refine Yo 8 rfl (fun _=>Xe rfl h rfl)<|Yo 9 rfl (fun _=>Xa rfl) ?_
  refine Yl 20 rfl (fun o=>?_) (fun o=>?_)
  ·refine Yp 10 rfl (gP o) ?_;refine Yp 11 rfl (gP o) ?_;refine Yp 12 rfl (gP o) ?_;refine Y1 13<|Yq rfl ⟨_,_,rfl,rfl,o⟩ ?_;refine Yp 14 rfl (gP o) ?_;refine Yo 15 rfl (fun _=>Xl rfl o rfl)<|Yo 16 rfl (fun _=>Xa rfl)<|Yp 17 rfl (gP rfl) ?_;refine Yp 18 rfl (gP rfl) ?_;refine Yp 19 rfl (gP rfl) ?_;refine Yp 20 rfl (gP rfl) ?_;refine Yp 21 rfl (gP rfl) ?_;refine Y1 22<|Yq rfl ⟨_,_,rfl,rfl,rfl⟩ ?_;refine Yp 23 rfl (gP rfl) ?_;refine Yo 24 rfl (fun _=>Xl rfl rfl rfl)<|Yo 25 rfl (fun _=>Xa rfl)<|Yp 26 rfl (gP rfl) ?_;refine Yp 27 rfl (gP rfl) ?_;refine Yp 28 rfl (gP rfl) ?_;refine Yp 29 rfl (gP rfl) ?_;refine Yp 30 rfl (gP rfl) ?_;refine Yp 31 rfl (gP rfl) ?_;refine Y1 32<|Yq rfl ⟨_,_,rfl,rfl,rfl⟩ ?_;refine Yp 33 rfl (gP rfl) ?_;refine Yo 34 rfl (fun _=>Xl rfl rfl rfl) ?_;refine Yd fun a y=>?_
   have I:Below w2.heap.size w2 w4:=C
   exact ⟨y.sub ⟨rfl,rfl,rfl,X1 rfl (by first|rfl|(simp only [h,o,bs];done)|simp [h,o]),trivial⟩,I⟩
  refine Yv 10 rfl (gW o) (X0 rfl X4t (m.at 0)) ?_;refine Yu 11 rfl (gW o) (fun _=>Vd rfl X1e 0) ?_;refine Yv 12 rfl (gW o) (X0 rfl X7 (g.at 0)) ?_;refine Y1 13<|Yk rfl ⟨_,_,rfl,rfl,o⟩ (Vc (Xzr _ Aqs cqs qs d.top c.n (by have:=(X14 bQ).1;omega) aG) Xrj) (fun _ _ ⟨_,f⟩=>f) ?_;rintro _ w5 ⟨rfl,f⟩;have g:=g.below f;have m:=m.below f;have e:=e.below f;have d:=d.below f;have z:=btr z f;have C:=btr C f;refine Yu 14 rfl (gW o) (fun _=>X0x rfl) ?_;refine Yo 15 rfl (fun _=>Xe rfl o rfl)<|Yo 16 rfl (fun _=>Xa rfl) ?_
  refine Yl 27 rfl (fun j=>?_) (fun j=>?_)
  ·refine Yp 17 rfl (gP j) ?_;refine Yp 18 rfl (gP j) ?_;refine Yp 19 rfl (gP j) ?_;refine Yp 20 rfl (gP j) ?_;refine Yp 21 rfl (gP j) ?_;refine Y1 22<|Yq rfl ⟨_,_,rfl,rfl,j⟩ ?_;refine Yp 23 rfl (gP j) ?_;refine Yo 24 rfl (fun _=>Xl rfl j rfl)<|Yo 25 rfl (fun _=>Xa rfl)<|Yp 26 rfl (gP rfl) ?_;refine Yp 27 rfl (gP rfl) ?_;refine Yp 28 rfl (gP rfl) ?_;refine Yp 29 rfl (gP rfl) ?_;refine Yp 30 rfl (gP rfl) ?_;refine Yp 31 rfl (gP rfl) ?_;refine Y1 32<|Yq rfl ⟨_,_,rfl,rfl,rfl⟩ ?_;refine Yp 33 rfl (gP rfl) ?_;refine Yo 34 rfl (fun _=>Xl rfl rfl rfl) ?_;refine Yd fun a y=>?_
   have I:Below w2.heap.size w2 w5:=C
   exact ⟨y.sub ⟨rfl,rfl,rfl,X1 rfl (by first|rfl|(simp only [h,o,j,bs];done)|simp [h,o,j]),trivial⟩,I⟩
  refine Yu 17 rfl (gW j) (fun _=>Xa rfl) ?_;refine Yu 18 rfl (gW j) (fun _=>Vd rfl X0g 1) ?_;refine Yv 19 rfl (gW j) (X0 rfl X0m (g.at 1)) ?_;refine Yu 20 rfl (gW j) (fun _=>X0p rfl Xb) ?_;refine Yu 21 rfl (gW j) (fun _=>X1j rfl rfl (by omega) (by omega)) ?_;refine Y1 22<|Yz rfl ⟨_,_,rfl,rfl,j⟩ (Vc (F91 _ p 0 ((c.gs.length:Int)-1)) X35) ?_;refine Yu 23 rfl (gW j) (fun _=>X0x rfl) ?_;refine Yo 24 rfl (fun _=>Xe rfl j rfl)<|Yo 25 rfl (fun _=>Xa rfl) ?_
  refine Yl 36 rfl (fun i=>?_) (fun i=>?_)
  ·refine Yp 26 rfl (gP i) ?_;refine Yp 27 rfl (gP i) ?_;refine Yp 28 rfl (gP i) ?_;refine Yp 29 rfl (gP i) ?_;refine Yp 30 rfl (gP i) ?_;refine Yp 31 rfl (gP i) ?_;refine Y1 32<|Yq rfl ⟨_,_,rfl,rfl,i⟩ ?_;refine Yp 33 rfl (gP i) ?_;refine Yo 34 rfl (fun _=>Xl rfl i rfl) ?_;refine Yd fun a y=>?_
   have I:Below w2.heap.size w2 w5:=C
   exact ⟨y.sub ⟨rfl,rfl,rfl,X1 rfl (by first|rfl|(simp only [h,o,j,i,bs];done)|simp [h,o,j,i]),trivial⟩,I⟩
  have bR:inR p 0 ((c.gs.length:Int)-1)=true:=by revert i;cases inR p 0 ((c.gs.length:Int)-1)<;>simp
  have cD:=X01.1 bR;refine Yu 26 rfl (gW i) (fun _=>Vd rfl X0g 1) ?_;refine Yv 27 rfl (gW i) (X0 rfl X0m (g.at 1)) ?_;refine Yu 28 rfl (gW i) (fun _=>Xa rfl) ?_;refine Yi (k:=p.toNat) (u:=(c.gs.getD p.toNat gZ)) (enc:=encG) (l:=c.gs) 29 rfl ⟨_,_,rfl,rfl,i⟩ rfl rfl Xb X0h X9 e (Xcu (by omega)) (by omega) ?_;intro cE aO;refine Yv 30 rfl (gW i) (Xw (l:=[vi ((c.gs.getD p.toNat gZ).k),vi ((c.gs.getD p.toNat gZ).a),vi ((c.gs.getD p.toNat gZ).b)]) rfl X0f aO rfl) ?_;refine Yv 31 rfl (gW i) (X0 rfl X4t (m.at 0)) ?_;refine Y1 32<|Yk rfl ⟨_,_,rfl,rfl,i⟩ (Vc (Xp9 _ (c.gs.getD p.toNat gZ) Aqs cqs qs d.top aG) Xd9) (fun _ _ ⟨_,f⟩=>f) ?_;rintro _ w6 ⟨rfl,f⟩;have z:=btr z f;have C:=btr C f;refine Yu 33 rfl (gW i) (fun _=>X0x rfl) ?_;refine Yo 34 rfl (fun _=>Xe rfl i rfl) ?_;refine Yd fun a y=>?_
  have I:Below w2.heap.size w2 w6:=C
  exact ⟨y.sub ⟨rfl,rfl,rfl,X1 rfl (by first|rfl|(simp only [h,o,j,i,bs];done)|simp [h,o,j,i]),trivial⟩,I⟩
 rintro a w7 ⟨y,f⟩;have g:=g.below f;have m:=m.below f;have e:=e.below f;have d:=d.below f;have z:=btr z f;refine bP _ _ ?_
 refine Xj y rfl (fun D=>?_) (fun D=>?_)
 ·have E:=D
  have J:runP c p qs=none:=Xjk (by rw [Xep] at D;exact bn1 D)
  refine Zs y fun _ aX=>?_;refine Za rfl<|Za rfl<|Zt aX fun a y=>?_;refine Q6<|X2<|X3 y (X0w y rfl rfl rfl) ?_
  rw [J]
  exact ⟨none,0,rfl,(Own.nil _ _ _ _ _),z⟩
 have E:=D
 have aJ:(cOk c&&runB c p qs)=true:=by rw [Xep] at D;exact bn2 D
 have aY:=Xfq aJ;obtain ⟨cC,aZ⟩:=(Qd _ _▸aJ:cOk c=true∧runB c p qs=true)
 have cF:0≤p:=by obtain ⟨_,_,k9,e9,_⟩:=X29 aZ;omega
 refine Q7<|bO _ _<|Zs y fun _ b0=>?_;refine Zf (X5 (k:=0) (vs:=[]) (zs:=[]) rfl X0b X1u rfl rfl) ?_;rintro _ w8 ⟨bS,rfl,aK,f,b1⟩;have aP:=Q0 z.size aK;have b2:=d.away aK;have g:=g.below f;have m:=m.below f;have e:=e.below f;have d:=d.below f;have z:=btr z f;refine Za rfl<|ZX b0 fun a y _ aL=>?_;refine Zs y fun _ b3=>?_;refine Zm rfl<|Za rfl<|Zt b3 fun a y=>?_;refine Q8<|X0a (σ:=Nat×Int×(List Int)) (fun (s:Nat×Int×(List Int)) (a:Act) (w:World)=>match s with|(k,x,q)=>∃ U W,Fr a 77 [(3,.pointer (some ⟨b4,0,none⟩)),(5,.pointer (some ⟨b5,0,none⟩)),(8,.slice U q.length W),(9,vi x)]∧(x=p+(k:Int))∧(RnS c p qs k q)∧Blk w b4 28 [vi c.n,.slice Ac c.gs.length cc]∧Blk w b5 43 [.slice Aqs qs.length cqs]∧Own w Q.heap.size 3 1 encI U W q∧Rd w Q.heap.size 115 encG Ac c.gs∧Rd w Q.heap.size 3 encI Aqs qs∧Below Q.heap.size Q w) (fun (s:Nat×Int×(List Int))=>match s with|(k,x,q)=>c.gs.length+1-(p.toNat+k)) (0,p,[]) ?_ ?_
 ·exact ⟨some ⟨bS,0,none⟩,0,y.sb,(by simp),(Xfo aZ),g,m,(Own.empty b1 aP),e,d,z⟩
 rintro ⟨k,x,q⟩ a w9 ⟨U,W,y,hx,hS,g,m,t,e,d,z⟩;refine Q5 fun _ b6=>?_;refine Q5 fun _ b7=>?_;refine X0l (fun a w=>Fr a 77 [(3,.pointer (some ⟨b4,0,none⟩)),(5,.pointer (some ⟨b5,0,none⟩)),(8,.slice U q.length W),(9,vi x),(57,.bool ((decide (x<(c.gs.length:Int)))&&(decide ((q.length:Int)<6))))]∧w9=w) ?_ ?_
 ·refine Zr y<|Zm rfl<|Ze (Vd rfl X0g 1)<|Ze (X0 rfl X0m (g.at 1))<|Ze (X0p rfl Xb)<|Ze (X11 rfl rfl)<|Zm rfl ?_
  refine Zg 53 rfl (fun B=>?_) (fun B=>?_)
  ·refine Zv (gW B) (Xa rfl) ?_;refine Zv (gW B) (X0p rfl X0b) ?_;refine Zv (gW B) (X11 rfl rfl) ?_;refine Ze (Xl rfl B rfl) ?_;refine Zn fun a y=>?_;exact ⟨y.sub ⟨rfl,rfl,rfl,rfl,X1 rfl (by first|rfl|(simp only [E,B,bs];done)|simp [E,B]),trivial⟩,rfl⟩
  refine Zp (gP B) ?_;refine Zp (gP B) ?_;refine Zp (gP B) ?_;refine Ze (Xe rfl B rfl) ?_;refine Zn fun a y=>?_;exact ⟨y.sub ⟨rfl,rfl,rfl,rfl,X1 rfl (by first|rfl|(simp only [E,B,bs];done)|simp [E,B]),trivial⟩,rfl⟩
 rintro a _ ⟨y,rfl⟩;refine b7 _ _ ?_
 refine Xj y rfl (fun L=>?_) (fun L=>?_)
 ·have aQ:=L
  obtain ⟨cG,cH⟩ : x<(c.gs.length:Int)∧(q.length:Int)<6:=by simpa using L
  have aR:q.length<6:=by omega
  obtain ⟨u9,aH⟩:=Xf (l:=c.gs) (k:=p.toNat+k) (by omega)
  refine Q7<|b6 _ _<|Q5 fun _ aM=>?_;refine Q8<|Zs y fun _ b8=>?_;refine Ze (Vd rfl X0g 1)<|Ze (X0 rfl X0m (g.at 1))<|Zm rfl<|Zi (k:=(p.toNat+k)) (u:=u9) (enc:=encG) (l:=c.gs) trivial rfl rfl Xb X0h X9 e aH (by omega) ?_;intro cJ aS;refine Ze (Xw (l:=[vi u9.k,vi u9.a,vi u9.b]) rfl X0f aS rfl)<|Zf (X8 (zs:=[vi 0,vi 0,vi 0]) X2q rfl) ?_;rintro _ cK ⟨cL,rfl,aN,f,G⟩;have aC:=Q0 z.size aN;have b9:=e.away aN;have g:=g.below f;have m:=m.below f;have t:=t.below f;have e:=e.below f;have d:=d.below f;have z:=btr z f;refine Zo (Vw [vi u9.k,vi u9.a,vi u9.b] X0h G) ?_;rintro _ cM ⟨ho,hb⟩;have aA:=G;have g:=g.only ho (Blk.ne g aA rfl);have m:=m.only ho (Blk.ne m aA rfl);have t:=t.onlyT ho aA rfl;have e:=e.only ho aC;have d:=d.onlyT ho aA rfl;have z:=Below.only z ho aC;have G:=hb;refine Zx b8 fun a y _ bC=>?_;refine Ze (Vn X0f G)<|Ze (X0 rfl X4t (m.at 0))<|Zf (Vc (Xp9 _ u9 Aqs cqs qs d.top aG) Xd9) ?_;rintro _ cN ⟨rfl,f⟩;have g:=g.below f;have m:=m.below f;have G:=G.below f;have t:=t.below f;have e:=e.below f;have d:=d.below f;have z:=btr z f;refine Zt bC fun a y=>?_
  refine Xj y rfl (fun M=>?_) (fun M=>?_)
  ·have aT:=M;have aI:=M;refine Zr y<|Zm rfl<|Zm rfl<|Zf (X5 (k:=1) (vs:=[vi x]) (zs:=[vi x]) rfl X0b X1u rfl rfl) ?_;rintro _ cO ⟨cP,rfl,aD,f,aE⟩;have bU:=Q0 z.size aD;have aB:=t.away aD;have bD:=d.away aD;have g:=g.below f;have m:=m.below f;have t:=t.below f;have e:=e.below f;have d:=d.below f;have z:=btr z f;refine Zf (X0v (enc:=encI) (l:=(q)) (l2:=([x])) (B0:=Q.heap.size) rfl rfl X0b X1u X05 X37 t (Rd.of_blk aE rfl _ aE.lt) (by simp only [maxLen];simp;omega) (by simp;omega) z.size) ?_;rintro _ cQ ⟨bW,bX,rfl,bE,hg,bF⟩
   have H:Own _ Q.heap.size 3 1 encI _ _ (q):=t
   have aW:=bF _ aE.lt aB;clear bF;have g:=g.appT H hg rfl;have m:=m.appT H hg rfl;have e:=e.appT H hg rfl;have d:=d.appB H hg (Qb _);have z:=Below.app z H hg (Qb _) z.size;clear H hg;refine Za rfl ?_;refine Zn fun a y=>?_;refine Xq<|aM _ _<|Zr y<|Zm rfl<|Ze (X00 rfl rfl (by omega) (by omega))<|Za rfl ?_;refine Zn fun a y=>?_;refine Xo ?_;exact ⟨(k+1,x+1,q++([x])),⟨bW,bX,y.sb,(by omega),(Xif hx hS aH aR aI),g,m,bE,e,d,z⟩,(by first|omega|(dsimp only;omega))⟩
  have aT:=M;have aI:=M;refine Zs y fun _ bG=>?_;refine Ze (Vn X0f G)<|Zf (Vc (F96 _ u9) Xi9) ?_;rintro _ cR ⟨bY,bZ,rfl,aF,f⟩;have aF:=aF.lower z.size;have g:=g.below f;have m:=m.below f;have t:=t.below f;have e:=e.below f;have d:=d.below f;have z:=btr z f;refine Ze (X2w (vs:=[.pointer (some ⟨b5,0,none⟩)]) rfl)<|Zf (Vc (Xzt _ bY bZ (qubI u9) aF.rd.top 148 [.pointer (some ⟨b5,0,none⟩)] Xso (hasB qs) (fun x9 w9 bH=>Xy8 w9 x9 qs b5 Aqs cqs ((d.top).below bH).top (m.below bH) aG) (by have:=X3l u9;omega)) Xo9) ?_;rintro _ cS ⟨rfl,f⟩;have g:=g.below f;have m:=m.below f;have t:=t.below f;have e:=e.below f;have d:=d.below f;have z:=btr z f;refine Zt bG fun a y=>?_
  refine Xj y rfl (fun N=>?_) (fun N=>?_)
  ·have aU:=N;have J:=Xf5 hS aH aR aI N;refine Q9<|Xio rfl ?_;refine Xn<|Xn<|X06<|aL _ _ ?_;refine Zs y fun _ bI=>?_;refine Zm rfl<|Za rfl<|Za rfl<|Zt bI fun a y=>?_
   refine Q6 (X3 y (X0w y rfl rfl rfl) ?_)
   rw [aY]
   rw [← J]
   exact ⟨U,W,rfl,t,z⟩
  have aU:=N
  have c4:tchB u9 qs=false:=N
  refine Q7<|Xq<|aM _ _<|Zr y ?_;refine Zm rfl<|Ze (X00 rfl rfl (by omega) (by omega))<|Za rfl ?_;refine Zn fun a y=>?_;refine Xo ?_;exact ⟨(k+1,x+1,q),⟨U,W,y.sb,(by omega),(Xpz hS aH aR aI c4),g,m,t,e,d,z⟩,(by first|omega|(dsimp only;omega))⟩
 have aQ:=L
 have J:=Xhr hS (by have h9:¬ (x<(c.gs.length:Int)∧(q.length:Int)<6):=(by simpa using L);omega)
 refine Q9<|Xn<|Xn<|X06 ?_;refine aL _ _<|Zs y fun _ bJ=>?_;refine Zm rfl<|Za rfl<|Za rfl<|Zt bJ fun a y=>?_
 refine Q6 (X3 y (X0w y rfl rfl rfl) ?_)
 rw [aY]
 rw [← J]
 exact ⟨U,W,rfl,t,z⟩
theorem Y0p(Q:World)(c:Cx)(Ac:Option Addr)(cc:Nat)(f:Rd Q Q.heap.size 115 encG Ac c.gs)(p:Int)(Aqs:Option Addr)(cqs:Nat)(qs:List Int)(d:Rd Q Q.heap.size 3 encI Aqs qs)(hc:cOk c=true)(aK:qs.length≤1048576) : Ret Tryz.prog 76 [.agg #[vi c.n,.slice Ac c.gs.length cc],vi p,.slice Aqs qs.length cqs] Q (fun v w=>∃ A c1,v=.tuple #[.slice A ((runX c p qs).getD []).length c1,.bool ((runX c p qs).isSome)]∧Own w Q.heap.size 3 1 encI A c1 ((runX c p qs).getD [])∧Below Q.heap.size Q w):=by
 obtain ⟨bI,bJ,bW⟩:=X14 hc
 have bS:c.gs.length≤400:=bJ
 refine enter Tryz.func76 rfl 79 rfl rfl ?_;intro a e
 have C:=bz Q
 refine Zs e fun _ bK=>?_;refine Zf (X0i (zs:=[vi c.n,.slice Ac c.gs.length cc]) rfl rfl) ?_;rintro _ w1 ⟨b4,rfl,bL,h,g⟩;have bU:=Q0 C.size bL;have f:=f.below h;have d:=d.below h;have C:=btr C h;refine Za rfl<|Za rfl<|ZX bK fun a e _ bM=>?_;refine Q5 fun _ bN=>?_;refine X0l (fun a w=>Fr a 79 [(1,vi p),(2,.slice Aqs qs.length cqs),(3,.pointer (some ⟨b4,0,none⟩)),(26,.bool ((!(inR (qs.length:Int) 1 2&&incF qs 0 (c.n-1)))||(!(inR p 0 ((c.gs.length:Int)-1)))))]∧Below w1.heap.size w1 w) ?_ ?_
 ·have aF:Below w1.heap.size w1 w1:=Below.refl _ _
  refine Zr e<|Ze (Vn X0y g)<|Zm rfl<|Zf (Vc (Xyr _ c Ac cc f.top Aqs cqs qs d.top bI aK) Xsf) ?_;rintro _ w2 ⟨rfl,h⟩;have g:=g.below h;have C:=btr C h;have aF:=btr aF h;refine Ze (X0x rfl)<|Zm rfl ?_
  refine Zg 18 rfl (fun i=>?_) (fun i=>?_)
  ·refine Zp (gP i) ?_;refine Zp (gP i) ?_;refine Zp (gP i) ?_;refine Zp (gP i) ?_;refine Zp (gP i) ?_;refine Zp (gP i) ?_;refine Zp (gP i) ?_;refine Ze (Xl rfl i rfl) ?_;refine Zn fun a e=>?_
   have aL:Below w1.heap.size w1 w2:=aF
   exact ⟨e.sub ⟨rfl,rfl,rfl,X1 rfl (by first|rfl|(simp only [i,bs];done)|simp [i]),trivial⟩,aL⟩
  refine Zv (gW i) (Xa rfl) ?_;refine Zv (gW i) (Vd rfl X0g 1) ?_;refine Zv (gW i) (X0 rfl X0m (g.at 1)) ?_;refine Zv (gW i) (X0p rfl Xb) ?_;refine Zv (gW i) (X1j rfl rfl (by omega) (by omega)) ?_;refine Zk (gW i) (Vc (F85 _ p 0 ((c.gs.length:Int)-1)) X3y) ?_;rintro _ _ ⟨rfl,rfl⟩;refine Zv (gW i) (X0x rfl) ?_;refine Ze (Xe rfl i rfl) ?_;refine Zn fun a e=>?_
  have aL:Below w1.heap.size w1 w2:=aF
  exact ⟨e.sub ⟨rfl,rfl,rfl,X1 rfl (by first|rfl|(simp only [i,bs];done)|simp [i]),trivial⟩,aL⟩
 rintro a w3 ⟨e,h⟩;have g:=g.below h;have f:=f.below h;have d:=d.below h;have C:=btr C h;refine bN _ _ ?_
 refine Xj e rfl (fun aB=>?_) (fun aB=>?_)
 ·have j:=aB
  have aC:runB c p qs=false:=by have h9:=aB;unfold runB;revert h9;cases inR (qs.length:Int) 1 2<;>cases incF qs 0 (c.n-1)<;>cases inR p 0 ((c.gs.length:Int)-1)<;>simp
  have E:=Xdj aC;refine Zs e fun _ aT=>?_;refine Za rfl<|Za rfl<|Zt aT fun a e=>?_;refine Q6<|X2<|X3 e (X0w e rfl rfl rfl) ?_
  rw [E]
  exact ⟨none,0,rfl,(Own.nil _ _ _ _ _),C⟩
 have j:=aB
 have U:(inR (qs.length:Int) 1 2=true∧incF qs 0 (c.n-1)=true)∧inR p 0 ((c.gs.length:Int)-1)=true:=by have h9:=aB;revert h9;cases inR (qs.length:Int) 1 2<;>cases incF qs 0 (c.n-1)<;>cases inR p 0 ((c.gs.length:Int)-1)<;>simp
 have bO:=X01.1 U.2;have bX:=bO.1;refine Q7<|bM _ _<|Q5 fun _ aU=>?_;refine Zs e fun _ aW=>?_;refine Ze (Vd rfl X0g 1)<|Ze (X0 rfl X0m (g.at 1))<|Zm rfl<|Zi (k:=p.toNat) (u:=(c.gs.getD p.toNat gZ)) (enc:=encG) (l:=c.gs) trivial rfl rfl Xb X0h X9 f (Xcu (by omega)) (by omega) ?_;intro bY aM;refine Ze (Xw (l:=[vi ((c.gs.getD p.toNat gZ).k),vi ((c.gs.getD p.toNat gZ).a),vi ((c.gs.getD p.toNat gZ).b)]) rfl X0f aM rfl)<|Zm rfl<|Zf (Vc (Xq0 _ (c.gs.getD p.toNat gZ) Aqs cqs qs d.top aK) Xdk) ?_;rintro _ w4 ⟨rfl,h⟩;have g:=g.below h;have f:=f.below h;have d:=d.below h;have C:=btr C h;refine Zm rfl<|Ze (X4 (vs:=[vi (inN (c.gs.getD p.toNat gZ) qs:Int),vi (ouN (c.gs.getD p.toNat gZ) qs:Int)]) rfl rfl)<|Ze (X4 (vs:=[vi (inN (c.gs.getD p.toNat gZ) qs:Int),vi (ouN (c.gs.getD p.toNat gZ) qs:Int)]) rfl rfl)<|Za rfl<|Za rfl<|ZX aW fun a e _ aX=>?_;refine X0l (fun a w=>Fr a 79 [(1,vi p),(2,.slice Aqs qs.length cqs),(3,.pointer (some ⟨b4,0,none⟩)),(42,.bool (((inN (c.gs.getD p.toNat gZ) qs:Int)==0)||(decide (0<(ouN (c.gs.getD p.toNat gZ) qs:Int)))))]∧w4=w) ?_ ?_
 ·refine Zr e<|Zm rfl<|Ze (X16 rfl rfl)<|Zm rfl ?_
  refine Zg 39 rfl (fun t=>?_) (fun t=>?_)
  ·refine Zp (gP t) ?_;refine Zp (gP t) ?_;refine Ze (Xl rfl t rfl) ?_;refine Zn fun a e=>?_;exact ⟨e.sub ⟨rfl,rfl,rfl,X1 rfl (by first|rfl|(simp only [j,t,bs];done)|simp [j,t]),trivial⟩,rfl⟩
  refine Zv (gW t) (Xa rfl) ?_;refine Zv (gW t) (X36 rfl rfl) ?_;refine Ze (Xe rfl t rfl) ?_;refine Zn fun a e=>?_;exact ⟨e.sub ⟨rfl,rfl,rfl,X1 rfl (by first|rfl|(simp only [j,t,bs];done)|simp [j,t]),trivial⟩,rfl⟩
 rintro a _ ⟨e,rfl⟩;refine aX _ _ ?_
 refine Xj e rfl (fun H=>?_) (fun H=>?_)
 ·have o:=H
  have aC:runB c p qs=false:=by unfold runB;rw [U.1.1,U.1.2,U.2,X9d,← X94];revert H;by_cases h8:inN (c.gs.getD p.toNat gZ) qs=0<;>by_cases h7:ouN (c.gs.getD p.toNat gZ) qs=0<;>simp [h8,h7]<;>omega
  have E:=Xdj aC;refine Zs e fun _ aY=>?_;refine Za rfl<|Za rfl<|Zt aY fun a e=>?_;refine Q6<|X2<|X3 e (X0w e rfl rfl rfl) ?_
  rw [E]
  exact ⟨none,0,rfl,(Own.nil _ _ _ _ _),C⟩
 have o:=H
 have aZ:runB c p qs=true:=by unfold runB;rw [U.1.1,U.1.2,U.2,X9d,← X94];revert H;by_cases h8:inN (c.gs.getD p.toNat gZ) qs=0<;>by_cases h7:ouN (c.gs.getD p.toNat gZ) qs=0<;>simp [h8,h7]<;>omega
 have b0:=Xdp aZ;refine Q7<|aU _ _<|Zs e fun _ b1=>?_;refine Za rfl<|ZX b1 fun a e _ aI=>?_;refine Zs e fun _ b2=>?_;refine Zm rfl<|Za rfl<|Zt b2 fun a e=>?_;refine Q8<|X0a (σ:=Nat×Int×(List Int)) (fun (s:Nat×Int×(List Int)) (a:Act) (w:World)=>match s with|(k,x,q)=>∃ I J,Fr a 79 [(2,.slice Aqs qs.length cqs),(3,.pointer (some ⟨b4,0,none⟩)),(10,.slice I q.length J),(11,vi x)]∧(x=p+(k:Int))∧(RnS c p qs k q)∧Blk w b4 28 [vi c.n,.slice Ac c.gs.length cc]∧Own w Q.heap.size 3 1 encI I J q∧Rd w Q.heap.size 115 encG Ac c.gs∧Rd w Q.heap.size 3 encI Aqs qs∧Below Q.heap.size Q w) (fun (s:Nat×Int×(List Int))=>match s with|(k,x,q)=>c.gs.length+1-(p.toNat+k)) (0,p,[]) ?_ ?_
 ·exact ⟨none,0,e.sb,(by simp),(Xfo aZ),g,(Own.nil _ _ _ _ _),f,d,C⟩
 rintro ⟨k,x,q⟩ a w5 ⟨I,J,e,hx,hS,g,z,f,d,C⟩;refine Q5 fun _ b3=>?_;refine Q5 fun _ b5=>?_;refine X0l (fun a w=>Fr a 79 [(2,.slice Aqs qs.length cqs),(3,.pointer (some ⟨b4,0,none⟩)),(10,.slice I q.length J),(11,vi x),(53,.bool ((decide (x<(c.gs.length:Int)))&&(decide ((q.length:Int)<6))))]∧w5=w) ?_ ?_
 ·refine Zr e<|Zm rfl<|Ze (Vd rfl X0g 1)<|Ze (X0 rfl X0m (g.at 1))<|Ze (X0p rfl Xb)<|Ze (X11 rfl rfl)<|Zm rfl ?_
  refine Zg 49 rfl (fun m=>?_) (fun m=>?_)
  ·refine Zv (gW m) (Xa rfl) ?_;refine Zv (gW m) (X0p rfl X0b) ?_;refine Zv (gW m) (X11 rfl rfl) ?_;refine Ze (Xl rfl m rfl) ?_;refine Zn fun a e=>?_;exact ⟨e.sub ⟨rfl,rfl,rfl,rfl,X1 rfl (by first|rfl|(simp only [j,o,m,bs];done)|simp [j,o,m]),trivial⟩,rfl⟩
  refine Zp (gP m) ?_;refine Zp (gP m) ?_;refine Zp (gP m) ?_;refine Ze (Xe rfl m rfl) ?_;refine Zn fun a e=>?_;exact ⟨e.sub ⟨rfl,rfl,rfl,rfl,X1 rfl (by first|rfl|(simp only [j,o,m,bs];done)|simp [j,o,m]),trivial⟩,rfl⟩
 rintro a _ ⟨e,rfl⟩;refine b5 _ _ ?_
 refine Xj e rfl (fun L=>?_) (fun L=>?_)
 ·have G:=L
  obtain ⟨bZ,c4⟩ : x<(c.gs.length:Int)∧(q.length:Int)<6:=by simpa using L
  have aN:q.length<6:=by omega
  obtain ⟨D,aG⟩:=Xf (l:=c.gs) (k:=p.toNat+k) (by omega)
  refine Q7<|b3 _ _<|Q5 fun _ aJ=>?_;refine Q8<|Zs e fun _ b6=>?_;refine Ze (Vd rfl X0g 1)<|Ze (X0 rfl X0m (g.at 1))<|Zm rfl<|Zi (k:=(p.toNat+k)) (u:=D) (enc:=encG) (l:=c.gs) trivial rfl rfl Xb X0h X9 f aG (by omega) ?_;intro cA aO;refine Ze (Xw (l:=[vi D.k,vi D.a,vi D.b]) rfl X0f aO rfl)<|Zm rfl<|Zf (Vc (Xq0 _ D Aqs cqs qs d.top aK) Xdk) ?_;rintro _ w6 ⟨rfl,h⟩;have g:=g.below h;have z:=z.below h;have f:=f.below h;have d:=d.below h;have C:=btr C h;refine Zm rfl<|Ze (X4 (vs:=[vi (inN D qs:Int),vi (ouN D qs:Int)]) rfl rfl)<|Ze (X4 (vs:=[vi (inN D qs:Int),vi (ouN D qs:Int)]) rfl rfl)<|Za rfl<|Za rfl<|ZX b6 fun a e _ b7=>?_;refine Q5 fun _ b8=>?_;refine X0l (fun a w=>Fr a 79 [(2,.slice Aqs qs.length cqs),(3,.pointer (some ⟨b4,0,none⟩)),(10,.slice I q.length J),(11,vi x),(12,vi (inN D qs:Int)),(71,.bool ((decide (0<(inN D qs:Int)))&&(decide (0<(ouN D qs:Int)))))]∧w6=w) ?_ ?_
  ·refine Zr e<|Zm rfl<|Ze (X36 rfl rfl)<|Zm rfl ?_
   refine Zg 68 rfl (fun y=>?_) (fun y=>?_)
   ·refine Zv (gW y) (Xa rfl) ?_;refine Zv (gW y) (X36 rfl rfl) ?_;refine Ze (Xl rfl y rfl) ?_;refine Zn fun a e=>?_;exact ⟨e.sub ⟨rfl,rfl,rfl,rfl,rfl,X1 rfl (by first|rfl|(simp only [j,o,G,y,bs];done)|simp [j,o,G,y]),trivial⟩,rfl⟩
   refine Zp (gP y) ?_;refine Zp (gP y) ?_;refine Ze (Xe rfl y rfl) ?_;refine Zn fun a e=>?_;exact ⟨e.sub ⟨rfl,rfl,rfl,rfl,rfl,X1 rfl (by first|rfl|(simp only [j,o,G,y,bs];done)|simp [j,o,G,y]),trivial⟩,rfl⟩
  rintro a _ ⟨e,rfl⟩;refine b8 _ _ ?_
  refine Xj e rfl (fun M=>?_) (fun M=>?_)
  ·have aP:=M
   have W:(decide (0<(inN D qs:Int))&&decide (0<(ouN D qs:Int)))=true:=M
   rw [Xm5] at W
   have b9:tchB D qs=true∧insB D qs=false:=by revert W;cases tchB D qs<;>cases insB D qs<;>simp
   have E:=Xf5 hS aG aN b9.2 b9.1;refine Q9<|Xn<|Xio rfl ?_;refine Xn<|Xn<|X06<|aI _ _ ?_;refine Zs e fun _ bC=>?_;refine Zm rfl<|Za rfl<|Za rfl<|Zt bC fun a e=>?_
   refine Q6 (X3 e (X0w e rfl rfl rfl) ?_)
   rw [b0]
   rw [← E]
   exact ⟨I,J,rfl,z,C⟩
  have aP:=M
  have W:(decide (0<(inN D qs:Int))&&decide (0<(ouN D qs:Int)))=false:=M
  rw [Xm5] at W
  refine Q7<|b7 _ _<|Zs e fun _ bD=>?_;refine Zm rfl<|Ze (X36 rfl rfl)<|Zt bD fun a e=>?_
  refine Xj e rfl (fun B=>?_) (fun B=>?_)
  ·have aQ:=B;have B:=Q2 B
   have aH:tchB D qs=true:=by rw [← X94];exact decide_eq_true B
   have aR:insB D qs=true:=by rw [aH] at W;simpa using W
   refine Zr e<|Zm rfl<|Zm rfl<|Zf (X5 (k:=1) (vs:=[vi x]) (zs:=[vi x]) rfl X0b X1u rfl rfl) ?_;rintro _ w7 ⟨cB,rfl,aD,h,aE⟩;have bP:=Q0 C.size aD;have aA:=z.away aD;have bE:=d.away aD;have g:=g.below h;have z:=z.below h;have f:=f.below h;have d:=d.below h;have C:=btr C h;refine Zf (X0v (enc:=encI) (l:=(q)) (l2:=([x])) (B0:=Q.heap.size) rfl rfl X0b X1u X05 X37 z (Rd.of_blk aE rfl _ aE.lt) (by simp only [maxLen];simp;omega) (by simp;omega) C.size) ?_;rintro _ w8 ⟨bQ,bR,rfl,bF,hg,bG⟩
   have N:Own _ Q.heap.size 3 1 encI _ _ (q):=z
   have aS:=bG _ aE.lt aA;clear bG;have g:=g.appT N hg rfl;have f:=f.appT N hg rfl;have d:=d.appB N hg (Qb _);have C:=Below.app C N hg (Qb _) C.size;clear N hg;refine Za rfl ?_;refine Zn fun a e=>?_;refine Xq<|aJ _ _<|Zr e<|Zm rfl<|Ze (X00 rfl rfl (by omega) (by omega))<|Za rfl ?_;refine Zn fun a e=>?_;refine Xo ?_;exact ⟨(k+1,x+1,q++([x])),⟨bQ,bR,e.sb,(by omega),(Xif hx hS aG aN aR),g,bF,f,d,C⟩,(by first|omega|(dsimp only;omega))⟩
  have aQ:=B;have B:=Q1 B
  have aH:tchB D qs=false:=by rw [← X94];exact decide_eq_false B
  have aR:insB D qs=false:=by rw [X9d,aH];rfl
  refine Q7<|Xq<|aJ _ _<|Zr e ?_;refine Zm rfl<|Ze (X00 rfl rfl (by omega) (by omega))<|Za rfl ?_;refine Zn fun a e=>?_;refine Xo ?_;exact ⟨(k+1,x+1,q),⟨I,J,e.sb,(by omega),(Xpz hS aG aN aR aH),g,z,f,d,C⟩,(by first|omega|(dsimp only;omega))⟩
 have G:=L
 have E:=Xhr hS (by have h9:¬ (x<(c.gs.length:Int)∧(q.length:Int)<6):=(by simpa using L);omega)
 refine Q9<|Xn<|Xn<|X06 ?_;refine aI _ _<|Zs e fun _ bH=>?_;refine Zm rfl<|Za rfl<|Za rfl<|Zt bH fun a e=>?_
 refine Q6 (X3 e (X0w e rfl rfl rfl) ?_)
 rw [b0]
 rw [← E]
 exact ⟨I,J,rfl,z,C⟩
theorem Xtn(W:World)(c:Cx)(Ac:Option Addr)(cc:Nat)(d:Rd W W.heap.size 115 encG Ac c.gs)(N:c.gs.length≤cc)(p:Int)(Aqs:Option Addr)(cqs:Nat)(qs:List Int)(y:Rd W W.heap.size 3 encI Aqs qs)(Aws:Option Addr)(cws:Nat)(ws:List Gt)(t:Rd W W.heap.size 115 encG Aws ws)(dG:c.gs.length≤1000000000)(dT:ws.length≤1000000)(bZ:qs.length≤1048576) : Ret Tryz.prog 90 [.agg #[vi c.n,.slice Ac c.gs.length cc],vi p,.slice Aqs qs.length cqs,.slice Aws ws.length cws] W (fun v w=>∃ A9 e9 B9 f9,v=.tuple #[.agg #[vi (((runP c p qs).bind fun run=>repX c p run qs ws).getD rpZ).pos,.slice A9 (((runP c p qs).bind fun run=>repX c p run qs ws).getD rpZ).old.length e9,.slice B9 (((runP c p qs).bind fun run=>repX c p run qs ws).getD rpZ).new.length f9],.bool ((runP c p qs).bind fun run=>repX c p run qs ws).isSome]∧Own w W.heap.size 115 3 encG A9 e9 (((runP c p qs).bind fun run=>repX c p run qs ws).getD rpZ).old∧Own w W.heap.size 115 3 encG B9 f9 (((runP c p qs).bind fun run=>repX c p run qs ws).getD rpZ).new∧Apart A9 B9∧Below W.heap.size W w):=by
 obtain ⟨rr,c4⟩ : ∃ rr,rr=(runP c p qs).getD []:=⟨_,rfl⟩
 obtain ⟨ro,bH⟩ : ∃ ro:Bool,ro=(runP c p qs).isSome:=⟨_,rfl⟩
 refine enter Tryz.func90 rfl 100 rfl rfl ?_;intro a z
 have D:=bz W
 refine Zs z fun _ dH=>?_;refine Zf (X0i (zs:=[vi c.n,.slice Ac c.gs.length cc]) rfl rfl) ?_;rintro _ w1 ⟨b5,rfl,dI,g,o⟩;have dN:=Q0 D.size dI;have d:=d.below g;have y:=y.below g;have t:=t.below g;have D:=btr D g;refine Zf (X8 (zs:=[vi 0,.slice none 0 0,.slice none 0 0]) X3a rfl) ?_;rintro _ w2 ⟨b8,rfl,dJ,g,f⟩;have aS:=Q0 D.size dJ;have o:=o.below g;have d:=d.below g;have y:=y.below g;have t:=t.below g;have D:=btr D g;refine Za rfl<|Zx dH fun a z _ dK=>?_;refine Ze (Vn X0y o)<|Zm rfl<|Zm rfl<|Zf (X26 (vs:=[.agg #[vi c.n,.slice Ac c.gs.length cc],vi p,.slice Aqs qs.length cqs]) rfl Xcx (by have hq:=Xp5 w2 c Ac cc d.top p Aqs cqs qs y.top dG bZ;rw [← c4,← bH] at hq;exact hq)) ?_;rintro _ w3 ⟨aI,aJ,rfl,e,g⟩;have e:=e.lower D.size;have o:=o.below g;have f:=f.below g;have d:=d.below g;have y:=y.below g;have t:=t.below g;have D:=btr D g;refine Zm rfl<|Ze (X4 (vs:=[.slice aI rr.length aJ,.bool ro]) rfl rfl)<|Ze (X4 (vs:=[.slice aI rr.length aJ,.bool ro]) rfl rfl)<|Za rfl<|Za rfl<|ZX dK fun a z _ cA=>?_;refine Zs z fun _ cB=>?_;refine Zm rfl<|Ze (X0x rfl)<|Zt cB fun a z=>?_
 refine Xj z rfl (fun aK=>?_) (fun aK=>?_)
 ·have E:=aK
  have cC:(runP c p qs).isSome=false:=by rw [← bH];simpa using aK
  have aC:((runP c p qs).bind fun run=>repX c p run qs ws)=none:=by rw [X9e cC];rfl
  refine Zs z fun _ cD=>?_;refine Ze (Xg (ps:=[]) (cs:=[vi 0,.slice none 0 0,.slice none 0 0]) rfl (fun _=>by first|rfl|kernel_rfl))<|Zo (Vw [vi 0,.slice none 0 0,.slice none 0 0] X15 f) ?_;rintro _ w4 ⟨M,hb⟩;have A:=f;have D:=Below.only D M aS;have f:=hb;refine Za rfl<|Zt cD fun a z=>?_;refine Q6<|X2<|X3 z (X0w z rfl (ResV.cellN (l:=[vi 0,.slice none 0 0,.slice none 0 0]) rfl X1h (f.at 0) rfl) rfl) ?_
  rw [aC]
  exact ⟨none,0,none,0,rfl,(Own.nil _ _ _ _ _),(Own.nil _ _ _ _ _),(Apart.none_l _),D⟩
 have E:=aK
 obtain ⟨cE,bI,cF⟩:=X8g (c:=c) (p:=p) (qs:=qs) (by rw [← bH];simpa using aK)
 have b9:rr=runL c p qs:=by rw [c4,cF];rfl
 have dO:c.gs.length≤400:=(X14 cE).2.1
 obtain ⟨j9,aU,dU,cG,bE⟩:=X7c bI
 rw [← b9] at aU bE
 have dW:=Xad aU cG
 have dP:rr.length≤6:=by rw [b9];exact X7s ..
 have dQ:1≤rr.length:=by rw [b9];exact X8e bI
 have cH:0≤p:=by obtain ⟨_,_,k9,e9,_⟩:=X29 bI;omega
 have bJ:((runP c p qs).bind fun run=>repX c p run qs ws)=repX c p rr qs ws:=by rw [cF,b9];rfl
 refine Q7<|cA _ _<|Q5 fun _ cJ=>?_;refine Zs z fun _ cK=>?_;refine Zm rfl<|Ze (X0p rfl Xb)<|Zm rfl<|Zt cK fun a z=>?_;refine Q8<|X0a (σ:=Nat) (fun (k:Nat) (a:Act) (w:World)=>Fr a 100 [(1,vi p),(2,.slice Aqs qs.length cqs),(3,.slice Aws ws.length cws),(4,.pointer (some ⟨b5,0,none⟩)),(8,.pointer (some ⟨b8,0,none⟩)),(10,.slice aI rr.length aJ),(27,.slice Aws ws.length cws),(28,vi (ws.length:Int)),(29,vi (k:Int))]∧(k≤ws.length)∧((ws.take k).all (ftB c.n qs)=true)∧Blk w b5 28 [vi c.n,.slice Ac c.gs.length cc]∧Blk w b8 46 [vi 0,.slice none 0 0,.slice none 0 0]∧Rd w W.heap.size 115 encG Ac c.gs∧Rd w W.heap.size 3 encI Aqs qs∧Rd w W.heap.size 115 encG Aws ws∧Own w W.heap.size 3 1 encI aI aJ rr∧c.gs.length≤cc∧Below W.heap.size W w) (fun (k:Nat)=>ws.length-k) 0 ?_ ?_
 ·exact ⟨z.sb,(Qf _),(by simp),o,f,d,y,t,e,N,D⟩
 rintro k a w5 ⟨z,bK,bL,o,f,d,y,t,e,N,D⟩;refine Zs z fun _ cL=>?_;refine Ze (X11 rfl rfl)<|ZX cL fun a z _ cM=>?_
 refine Xj z rfl (fun aD=>?_) (fun aD=>?_)
 ·have G:=aD;have aD:=Q2 aD
  obtain ⟨Q,aZ⟩:=Xf (l:=ws) (k:=k) (by omega)
  refine Q7<|cM _ _<|Q5 fun _ cN=>?_;refine Q8<|Zs z fun _ cO=>?_;refine Zi (k:=k) (u:=Q) (enc:=encG) (l:=ws) trivial rfl rfl Xb X0h X9 t aZ rfl ?_;intro dX bM;refine Ze (Xw (l:=[vi Q.k,vi Q.a,vi Q.b]) rfl X0f bM rfl)<|Zf (X8 (zs:=[vi 0,vi 0,vi 0]) X2q rfl) ?_;rintro _ w6 ⟨dY,rfl,b0,g,aA⟩;have aP:=Q0 D.size b0;have cP:=d.away b0;have cQ:=t.away b0;have o:=o.below g;have f:=f.below g;have d:=d.below g;have y:=y.below g;have t:=t.below g;have e:=e.below g;have D:=btr D g;refine Zo (Vw [vi Q.k,vi Q.a,vi Q.b] X0h aA) ?_;rintro _ w7 ⟨M,hb⟩;have A:=aA;have o:=o.only M (Blk.ne o A rfl);have f:=f.only M (Blk.ne f A rfl);have d:=d.only M aP;have y:=y.onlyT M A rfl;have t:=t.only M aP;have e:=e.onlyT M A rfl;have D:=Below.only D M aP;have aA:=hb;refine ZX cO fun a z _ cR=>?_;refine X0l (fun a w=>Fr a 100 [(1,vi p),(2,.slice Aqs qs.length cqs),(3,.slice Aws ws.length cws),(4,.pointer (some ⟨b5,0,none⟩)),(8,.pointer (some ⟨b8,0,none⟩)),(10,.slice aI rr.length aJ),(27,.slice Aws ws.length cws),(28,vi (ws.length:Int)),(29,vi (k:Int)),(48,.bool ((!(gOk c.n Q))||((Q.k != 12)&&(!(insB Q qs)))))]∧Below w7.heap.size w7 w) ?_ ?_
  ·have aQ:Below w7.heap.size w7 w7:=Below.refl _ _
   refine Zr z<|Ze (Vd rfl X1e 0)<|Ze (X0 rfl X7 (o.at 0))<|Ze (Vn X0f aA)<|Zf (Vc (Xqh _ c.n Q) Xca) ?_;rintro _ w8 ⟨rfl,g⟩;have aA:=aA.below g;have y:=y.below g;have D:=btr D g;have aQ:=btr aQ g;refine Ze (X0x rfl)<|Zm rfl ?_
   refine Zg 38 rfl (fun C=>?_) (fun C=>?_)
   ·refine Zp (gP C) ?_;refine Zp (gP C) ?_;refine Zp (gP C) ?_;refine Zp (gP C) ?_;refine Zp (gP trivial) ?_;refine Zp (gP trivial) ?_;refine Zp (gP trivial) ?_;refine Zp (gP trivial) ?_;refine Zp (gP C) ?_;refine Ze (Xl rfl C rfl) ?_;refine Zn fun a z=>?_
    have b1:Below w7.heap.size w7 w8:=aQ
    exact ⟨z.sub ⟨rfl,rfl,rfl,rfl,rfl,rfl,rfl,rfl,rfl,X1 rfl (by first|rfl|(simp only [E,G,C,bs];done)|simp [E,G,C]),trivial⟩,b1⟩
   refine Zv (gW C) (Vd rfl X0o 0) ?_;refine Zv (gW C) (X0 rfl X7 (aA.at 0)) ?_;refine Zv (gW C) (X2m rfl rfl) ?_;refine Zv (gW C) (Xa rfl) ?_
   refine Zg 42 rfl (fun H=>?_) (fun H=>?_)
   ·refine Zv (gW H) (Vn X0f aA) ?_;refine Zv (gW H) (Xa rfl) ?_;refine Zk (gW H) (Vc (Xp9 _ Q Aqs cqs qs y.top bZ) Xd9) ?_;rintro _ w9 ⟨rfl,g⟩;have D:=btr D g;have aQ:=btr aQ g;refine Zv (gW H) (X0x rfl) ?_;refine Zv (gW C) (Xl rfl H rfl) ?_;refine Ze (Xe rfl C rfl) ?_;refine Zn fun a z=>?_
    have b1:Below w7.heap.size w7 w9:=aQ
    exact ⟨z.sub ⟨rfl,rfl,rfl,rfl,rfl,rfl,rfl,rfl,rfl,X1 rfl (by first|rfl|(simp only [E,G,C,H,bs];done)|simp [E,G,C,H]),trivial⟩,b1⟩
   refine Zp (gP H) ?_;refine Zp (gP H) ?_;refine Zp (gP H) ?_;refine Zp (gP H) ?_;refine Zv (gW C) (Xe rfl H rfl) ?_;refine Ze (Xe rfl C rfl) ?_;refine Zn fun a z=>?_
   have b1:Below w7.heap.size w7 w8:=aQ
   exact ⟨z.sub ⟨rfl,rfl,rfl,rfl,rfl,rfl,rfl,rfl,rfl,X1 rfl (by first|rfl|(simp only [E,G,C,H,bs];done)|simp [E,G,C,H]),trivial⟩,b1⟩
  rintro a eA ⟨z,g⟩;have o:=o.below g;have f:=f.below g;have d:=d.below g;have y:=y.below g;have t:=t.below g;have e:=e.below g;have D:=btr D g;refine cR _ _ ?_
  refine Xj z rfl (fun aL=>?_) (fun aL=>?_)
  ·have bN:=aL
   have h8:ftB c.n qs Q=false:=by have h9:=aL;rw [Xj1] at h9;simpa using h9
   have aC:=bJ.trans (Xd4 (Xgt aZ h8));refine Zs z fun _ cS=>?_;refine Ze (Xg (ps:=[]) (cs:=[vi 0,.slice none 0 0,.slice none 0 0]) rfl (fun _=>by first|rfl|kernel_rfl))<|Zo (Vw [vi 0,.slice none 0 0,.slice none 0 0] X15 f) ?_;rintro _ eB ⟨M,hb⟩;have A:=f;have D:=Below.only D M aS;have f:=hb;refine Za rfl<|Zt cS fun a z=>?_;refine Q6<|Xm<|X2<|X2 ?_;refine Xm<|X2<|X3 z (X0w z rfl (ResV.cellN (l:=[vi 0,.slice none 0 0,.slice none 0 0]) rfl X1h (f.at 0) rfl) rfl) ?_
   rw [aC]
   exact ⟨none,0,none,0,rfl,(Own.nil _ _ _ _ _),(Own.nil _ _ _ _ _),(Apart.none_l _),D⟩
  have bN:=aL
  have h8:ftB c.n qs Q=true:=by have h9:=aL;rw [Xj1] at h9;simpa using h9
  refine Q7<|Xq<|cN _ _<|Zr z ?_;refine Ze (X00 rfl rfl (by omega) (by omega))<|Zm rfl ?_;refine Zn fun a z=>?_;refine Xo ?_;exact ⟨k+1,⟨z.sb,(by omega),(Xie bL aZ h8),o,f,d,y,t,e,N,D⟩,(by omega)⟩
 have G:=aD;have aD:=Q1 aD
 have bF:ws.all (ftB c.n qs)=true:=by rw [Qi (by omega)] at bL;exact bL
 refine Q9<|Xn<|Xn<|X06 ?_;refine cJ _ _<|Zs z fun _ cT=>?_;refine Zm rfl<|Zm rfl<|Ze (X0p rfl X0b)<|Ze (X1j rfl rfl (by omega) (by omega))<|Zi (k:=(rr.length-1)) (u:=(lastI rr)) (enc:=encI) (l:=rr) trivial rfl rfl X0b X1k X05 e.rd bE (by omega) ?_;intro eC bO;refine Ze (X0 rfl X7 bO)<|Za rfl<|Zx cT fun a z _ cU=>?_;refine Zm rfl<|Ze (Vd rfl X0g 1)<|Ze (X0 rfl X0m (o.at 1))<|Zm rfl<|Zm rfl<|Ze (X00 rfl rfl (by omega) (by omega)) ?_;have cV:=((d.top).takeK X9 (j9+1)).dropK X9 (c:=cc) (Xdl N (j9+1)) p.toNat;refine Ze (Xq2 (l:=c.gs) (k:=p.toNat) (m:=(j9+1)) rfl rfl rfl Xb X0h (by omega) (by rw [aU];omega) (by omega) (by omega) N)<|Zf (Vc (X64 _ (if cc=p.toNat then Ac else Ac.map (·.add (p.toNat*3))) (cc-p.toNat) ((c.gs.take (j9+1)).drop p.toNat) cV.top (by simp;omega)) X2x) ?_;rintro _ eD ⟨aG,aH,rfl,i,g⟩;have i:=i.lower D.size;have o:=o.below g;have f:=f.below g;have d:=d.below g;have t:=t.below g;have e:=e.below g;have D:=btr D g;refine Zm rfl<|Zf (Vc (X64 _ Aws cws ws t.top (by omega)) X2x) ?_;rintro _ eE ⟨bC,bD,rfl,aB,g⟩;have aW:=i.apart aB (Qb _);have aB:=aB.lower D.size;have o:=o.below g;have f:=f.below g;have d:=d.below g;have e:=e.below g;have i:=i.below g;have D:=btr D g;refine Ze (Xg (ps:=[(0,vi p),(1,.slice aG ((c.gs.take (j9+1)).drop p.toNat).length aH),(2,.slice bC ws.length bD)]) (cs:=[vi p,.slice aG ((c.gs.take (j9+1)).drop p.toNat).length aH,.slice bC ws.length bD]) rfl (fun _=>by first|rfl|kernel_rfl))<|Zf (X8 (zs:=[vi 0,.slice none 0 0,.slice none 0 0]) X3a rfl) ?_;rintro _ eF ⟨b46,rfl,cW,g,B⟩
 have cX:b8≠b46:=by have:=f.lt;omega
 have b2:=Q0 D.size cW;have o:=o.below g;have f:=f.below g;have d:=d.below g;have e:=e.below g;have i:=i.below g;have aB:=aB.below g;have D:=btr D g;refine Zo (Vw [vi p,.slice aG ((c.gs.take (j9+1)).drop p.toNat).length aH,.slice bC ws.length bD] X15 B) ?_;rintro _ eG ⟨M,hb⟩;have A:=B;have o:=o.only M (Blk.ne o A rfl);have f:=f.only M (by omega);have d:=d.onlyT M A rfl;have e:=e.onlyT M A rfl;have i:=i.onlyT M A rfl;have aB:=aB.onlyT M A rfl;have D:=Below.only D M b2;have B:=hb;refine ZX cU fun a z _ cY=>?_;refine Zs z fun _ d5=>?_;refine Zm rfl<|Za rfl<|Zt d5 fun a z=>?_;refine Q8<|X0a (σ:=Nat×Int×(List Gt)) (fun (s:Nat×Int×(List Gt)) (a:Act) (w:World)=>match s with|(k,x,q)=>∃ aM aR,Fr a 100 [(4,.pointer (some ⟨b5,0,none⟩)),(8,.pointer (some ⟨b8,0,none⟩)),(10,.slice aI rr.length aJ),(14,vi (lastI rr)),(15,.pointer (some ⟨b46,0,none⟩)),(16,vi x)]∧(x=p+(k:Int))∧(k≤winN rr p)∧(q=ws++gapL c rr p k)∧Blk w b5 28 [vi c.n,.slice Ac c.gs.length cc]∧Blk w b8 46 [vi 0,.slice none 0 0,.slice none 0 0]∧Blk w b46 46 [vi p,.slice aG ((c.gs.take (j9+1)).drop p.toNat).length aH,.slice aM q.length aR]∧Rd w W.heap.size 115 encG Ac c.gs∧Own w W.heap.size 3 1 encI aI aJ rr∧Own w W.heap.size 115 3 encG aG aH ((c.gs.take (j9+1)).drop p.toNat)∧Own w W.heap.size 115 3 encG aM aR q∧c.gs.length≤cc∧Apart aG aM∧Below W.heap.size W w) (fun (s:Nat×Int×(List Gt))=>match s with|(k,x,q)=>winN rr p-k) (0,p,ws) ?_ ?_
 ·exact ⟨bC,bD,z.sb,(by simp),(Qf _),(by rw [Xej,List.append_nil]),o,f,B,d,e,i,aB,N,aW,D⟩
 rintro ⟨k,x,q⟩ a dL ⟨aM,aR,z,hx,hk,hq,o,f,B,d,e,i,J,N,L,D⟩;refine Q5 fun _ d6=>?_;refine Zs z fun _ d7=>?_;refine Zm rfl<|Zm rfl<|Ze (Xa9 rfl rfl)<|Zt d7 fun a z=>?_
 refine Xj z rfl (fun U=>?_) (fun U=>?_)
 ·have aE:=U;have U:=Q2 U
  have bK:k<winN rr p:=by have h9:=U;rw [aU] at h9;omega
  obtain ⟨u9,d8⟩:=Xf (l:=c.gs) (k:=p.toNat+k) (by omega)
  have dR:=X92 c rr p k
  have d9:q.length≤1000000+k:=by rw [hq,Qh];omega
  refine Q7<|d6 _ _<|Q5 fun _ bG=>?_;refine Q8<|Zs z fun _ dA=>?_;refine Zm rfl<|Zm rfl<|Zf (Vc (Xx4 _ aI aJ rr e.rd.top x (by omega)) Xh8) ?_;rintro _ eH ⟨rfl,g⟩;have o:=o.below g;have f:=f.below g;have B:=B.below g;have d:=d.below g;have e:=e.below g;have i:=i.below g;have J:=J.below g;have D:=btr D g;refine Ze (X0x rfl)<|Zt dA fun a z=>?_
  refine Xj z rfl (fun aN=>?_) (fun aN=>?_)
  ·have bP:=aN
   have hT:hasB rr (p+(k:Int))=false:=by have h9:=aN;rw [Xcl,hx] at h9;simpa using h9
   refine X0d none (fun j=>[8,10].contains j) mixed ?_;intro eI g;have o:=o.below g;have f:=f.below g;have B:=B.below g;have d:=d.below g;have e:=e.below g;have i:=i.below g;have J:=J.below g;have D:=btr D g;refine Yb z<|Yo 0 rfl (fun _=>Vd rfl X1w 2)<|Ye 1 rfl (X0 rfl X0m (B.at 2))<|Yo 2 rfl (fun _=>Vd rfl X0g 1)<|Ye 3 rfl (X0 rfl X0m (o.at 1))<|Yo 4 rfl (fun _=>Xa rfl)<|Yi (k:=(p.toNat+k)) (u:=u9) (enc:=encG) (l:=c.gs) 5 rfl trivial rfl rfl Xb X0h X9 d d8 (by omega) ?_;intro eJ bQ;refine Ye 6 rfl (Xw (l:=[vi u9.k,vi u9.a,vi u9.b]) rfl X0f bQ rfl)<|Y1 7 ?_;refine Yk rfl trivial (X5 (k:=1) (vs:=[.agg #[vi u9.k,vi u9.a,vi u9.b]]) (zs:=[vi u9.k,vi u9.a,vi u9.b]) rfl Xb Xk rfl rfl) (fun _ _ ⟨_,_,_,h,_⟩=>h) ?_;rintro _ eK ⟨eL,rfl,aT,g,b3⟩;have dM:=Q0 D.size aT;have dB:=d.away aT;have bX:=i.away aT;have aX:=J.away aT;have o:=o.below g;have f:=f.below g;have B:=B.below g;have d:=d.below g;have e:=e.below g;have i:=i.below g;have J:=J.below g;have D:=btr D g;refine Y1 8<|Yt rfl trivial rfl (X0v (enc:=encG) (l:=(q)) (l2:=([u9])) (B0:=W.heap.size) rfl rfl Xb Xk X9 X07 J (Rd.of_blk b3 rfl _ b3.lt) (by simp only [maxLen];simp;omega) (by simp;omega) D.size) ?_;rintro _ eM ⟨bR,bS,rfl,b4,hg,bU⟩
   have aF:Own _ W.heap.size 115 3 encG _ _ (q):=J
   have bY:=bU _ b3.lt aX;have aY:=Apart.app i L bU;clear bU;have o:=o.appT aF hg rfl;have f:=f.appT aF hg rfl;have B:=B.appT aF hg rfl;have d:=d.appB aF hg (Qb _);have e:=e.appT aF hg rfl;have i:=i.appP hg L;have D:=Below.app D aF hg (Qb _) D.size;clear aF hg;refine Yo 9 rfl (fun _=>Vd rfl X1w 2)<|Y1 10 ?_;refine Yh rfl trivial rfl (Vu (vs:=[.slice bR (q++([u9])).length bS]) (l':=[vi p,.slice aG ((c.gs.take (j9+1)).drop p.toNat).length aH,.slice bR (q++([u9])).length bS]) rfl rfl X82 B) ?_;rintro _ eN ⟨M,hb⟩;have A:=B;have o:=o.only M (Blk.ne o A rfl);have f:=f.only M (by omega);have d:=d.onlyT M A rfl;have e:=e.onlyT M A rfl;have i:=i.onlyT M A rfl;have b4:=b4.onlyT M A rfl;have D:=Below.only D M b2;have B:=hb;refine Yd fun a z=>?_;refine Xq<|bG _ _<|Zr z<|Zm rfl<|Ze (X00 rfl rfl (by omega) (by omega))<|Za rfl ?_;refine Zn fun a z=>?_;refine Xo ?_;exact ⟨(k+1,x+1,(q++[u9])),⟨bR,bS,z.sb,(by omega),(by omega),(Xij cH hq hT d8),o,f,B,d,e,i,b4,N,aY,D⟩,(by first|omega|(dsimp only;omega))⟩
  have bP:=aN
  have hT:hasB rr (p+(k:Int))=true:=by have h9:=aN;rw [Xcl,hx] at h9;simpa using h9
  refine Q7<|Xq<|bG _ _<|Zr z ?_;refine Zm rfl<|Ze (X00 rfl rfl (by omega) (by omega))<|Za rfl ?_;refine Zn fun a z=>?_;refine Xo ?_;exact ⟨(k+1,x+1,q),⟨aM,aR,z.sb,(by omega),(by omega),(Xdt hq hT),o,f,B,d,e,i,J,N,L,D⟩,(by first|omega|(dsimp only;omega))⟩
 have aE:=U;have U:=Q1 U
 have bK:k=winN rr p:=by have h9:=U;rw [aU] at h9;omega
 have b6:=Xfw hq bK
 have b7:(newR c p rr ws).old=_:=Xf3 cH aU cG
 have dS:=X92 c rr p k
 have d9:q.length≤1000000+1000000000:=by rw [hq,Qh];omega
 refine Q9<|Xn<|Xn<|X06 ?_;refine cY _ _<|Q5 fun _ dC=>?_;refine Q5 fun _ dD=>?_;refine X0l (fun a w=>Fr a 100 [(8,.pointer (some ⟨b8,0,none⟩)),(15,.pointer (some ⟨b46,0,none⟩)),(97,.bool ((decide (40<(((c.gs.take (j9+1)).drop p.toNat).length:Int)))||(decide (40<(q.length:Int)))))]∧dL=w) ?_ ?_
 ·refine Zr z<|Ze (Vd rfl X1z 1)<|Ze (X0 rfl X0m (B.at 1))<|Ze (X0p rfl Xb)<|Ze (X36 rfl rfl)<|Zm rfl ?_
  refine Zg 92 rfl (fun I=>?_) (fun I=>?_)
  ·refine Zp (gP I) ?_;refine Zp (gP I) ?_;refine Zp (gP I) ?_;refine Zp (gP I) ?_;refine Ze (Xl rfl I rfl) ?_;refine Zn fun a z=>?_;exact ⟨z.sub ⟨rfl,rfl,X1 rfl (by first|rfl|(simp only [E,G,aE,I,bs];done)|simp [E,G,aE,I]),trivial⟩,rfl⟩
  refine Zv (gW I) (Vd rfl X1w 2) ?_;refine Zv (gW I) (X0 rfl X0m (B.at 2)) ?_;refine Zv (gW I) (X0p rfl Xb) ?_;refine Zv (gW I) (X36 rfl rfl) ?_;refine Ze (Xe rfl I rfl) ?_;refine Zn fun a z=>?_;exact ⟨z.sub ⟨rfl,rfl,X1 rfl (by first|rfl|(simp only [E,G,aE,I,bs];done)|simp [E,G,aE,I]),trivial⟩,rfl⟩
 rintro a _ ⟨z,rfl⟩;refine dD _ _ ?_
 refine Xj z rfl (fun aO=>?_) (fun aO=>?_)
 ·have bW:=aO
  have h9:40<(newR c p rr ws).old.length∨40<(newR c p rr ws).new.length:=by rw [b7,b6];have h8:=aO;simp only [Bool.or_eq_true,Qr] at h8;omega
  have aC:=bJ.trans (Xjf bF h9);refine Zs z fun _ dE=>?_;refine Ze (Xg (ps:=[]) (cs:=[vi 0,.slice none 0 0,.slice none 0 0]) rfl (fun _=>by first|rfl|kernel_rfl))<|Zo (Vw [vi 0,.slice none 0 0,.slice none 0 0] X15 f) ?_;rintro _ eO ⟨M,hb⟩;have A:=f;have D:=Below.only D M aS;have f:=hb;refine Za rfl<|Zt dE fun a z=>?_;refine Q6<|X2<|X3 z (X0w z rfl (ResV.cellN (l:=[vi 0,.slice none 0 0,.slice none 0 0]) rfl X1h (f.at 0) rfl) rfl) ?_
  rw [aC]
  exact ⟨none,0,none,0,rfl,(Own.nil _ _ _ _ _),(Own.nil _ _ _ _ _),(Apart.none_l _),D⟩
 have bW:=aO
 have h9:¬ (40<(newR c p rr ws).old.length∨40<(newR c p rr ws).new.length):=by rw [b7,b6];have h8:=aO;simp only [Bool.or_eq_false_iff,decide_eq_false_iff_not] at h8;omega
 have aC:=bJ.trans (Xj4 bF h9);refine Q7<|dC _ _<|Zs z fun _ dF=>?_;refine Ze (Vn X1h B)<|Zo (Vw [vi p,.slice aG ((c.gs.take (j9+1)).drop p.toNat).length aH,.slice aM q.length aR] X15 f) ?_;rintro _ eP ⟨M,hb⟩;have A:=f;have i:=i.onlyT M A rfl;have J:=J.onlyT M A rfl;have D:=Below.only D M aS;have f:=hb;refine Za rfl<|Zt dF fun a z=>?_
 refine Q6 (X3 z (X0w z rfl (ResV.cellN (l:=[vi p,.slice aG ((c.gs.take (j9+1)).drop p.toNat).length aH,.slice aM q.length aR]) rfl X1h (f.at 0) rfl) rfl) ?_)
 rw [aC]
 simp only [Qq]
 rw [b7,b6]
 exact ⟨aG,aH,aM,aR,rfl,i,J,L,D⟩
theorem Xtw(w0:World)(c:Cx)(Ac:Option Addr)(cc:Nat)(g:Rd w0 w0.heap.size 115 encG Ac c.gs)(aX:c.gs.length≤cc)(Arr:Option Addr)(crr:Nat)(rr:List Int)(B:Rd w0 w0.heap.size 3 encI Arr rr)(Aqs:Option Addr)(cqs:Nat)(qs:List Int)(M:Rd w0 w0.heap.size 3 encI Aqs qs)(Aws:Option Addr)(cws:Nat)(ws:List Gt)(d:Rd w0 w0.heap.size 115 encG Aws ws)(p:Int)(lF:cOk c=true)(iN:runB c p qs=true)(iO:rr=runL c p qs)(nM:ws.length≤1000000)(mU:qs.length≤1048576) : Ret Tryz.prog 81 [.agg #[vi c.n,.slice Ac c.gs.length cc],.slice Arr rr.length crr,.slice Aqs qs.length cqs,.slice Aws ws.length cws] w0 (fun v w=>∃ A9 e9 B9 f9,v=.tuple #[.agg #[vi ((repX c p rr qs ws).getD rpZ).pos,.slice A9 ((repX c p rr qs ws).getD rpZ).old.length e9,.slice B9 ((repX c p rr qs ws).getD rpZ).new.length f9],.bool (repX c p rr qs ws).isSome]∧Own w w0.heap.size 115 3 encG A9 e9 ((repX c p rr qs ws).getD rpZ).old∧Own w w0.heap.size 115 3 encG B9 f9 ((repX c p rr qs ws).getD rpZ).new∧Apart A9 B9∧Below w0.heap.size w0 w):=by
 obtain ⟨mW,mX,nN⟩:=X14 lF
 have nC:c.gs.length≤400:=mX
 obtain ⟨N,fR,nO,lG,j4⟩:=X7c iN
 rw [← iO] at fR j4
 have nP:=Xad fR lG
 have nD:rr.length≤6:=by rw [iO];exact X7s ..
 have nE:1≤rr.length:=by rw [iO];exact X8e iN
 have lH:0≤p:=by obtain ⟨_,_,k9,e9,_⟩:=X29 iN;omega
 obtain ⟨nQ,lI⟩:=Xft iN
 have gC:rr[0]? = some p:=by rw [iO,lI];rfl
 refine enter Tryz.func81 rfl 96 rfl rfl ?_;intro a G
 have i:=bz w0
 refine Zs G fun _ mY=>?_;refine Zf (X0i (zs:=[vi c.n,.slice Ac c.gs.length cc]) rfl rfl) ?_;rintro _ w1 ⟨b6,rfl,n0,e,L⟩;have nF:=Q0 i.size n0;have g:=g.below e;have B:=B.below e;have M:=M.below e;have d:=d.below e;have i:=btr i e;refine Zf (X8 (zs:=[vi 0,.slice none 0 0,.slice none 0 0]) X3a rfl) ?_;rintro _ w2 ⟨b9,rfl,n3,e,z⟩;have fG:=Q0 i.size n3;have L:=L.below e;have g:=g.below e;have B:=B.below e;have M:=M.below e;have d:=d.below e;have i:=btr i e;refine Za rfl<|ZX mY fun a G _ lJ=>?_;refine Zs G fun _ lK=>?_;refine Zm rfl<|Ze (X0p rfl Xb)<|Zm rfl<|Zt lK fun a G=>?_;refine Q8<|X0a (σ:=Nat) (fun (k:Nat) (a:Act) (w:World)=>Fr a 96 [(1,.slice Arr rr.length crr),(2,.slice Aqs qs.length cqs),(3,.slice Aws ws.length cws),(4,.pointer (some ⟨b6,0,none⟩)),(8,.pointer (some ⟨b9,0,none⟩)),(17,.slice Aws ws.length cws),(18,vi (ws.length:Int)),(19,vi (k:Int))]∧(k≤ws.length)∧((ws.take k).all (ftB c.n qs)=true)∧Blk w b6 28 [vi c.n,.slice Ac c.gs.length cc]∧Blk w b9 46 [vi 0,.slice none 0 0,.slice none 0 0]∧Rd w w0.heap.size 115 encG Ac c.gs∧Rd w w0.heap.size 3 encI Arr rr∧Rd w w0.heap.size 3 encI Aqs qs∧Rd w w0.heap.size 115 encG Aws ws∧c.gs.length≤cc∧Below w0.heap.size w0 w) (fun (k:Nat)=>ws.length-k) 0 ?_ ?_
 ·exact ⟨G.sb,(Qf _),(by simp),L,z,g,B,M,d,aX,i⟩
 rintro k a w3 ⟨G,jH,jI,L,z,g,B,M,d,aX,i⟩;refine Zs G fun _ lL=>?_;refine Ze (X11 rfl rfl)<|ZX lL fun a G _ lM=>?_
 refine Xj G rfl (fun bP=>?_) (fun bP=>?_)
 ·have H:=bP;have bP:=Q2 bP
  obtain ⟨aQ,fH⟩:=Xf (l:=ws) (k:=k) (by omega)
  refine Q7<|lM _ _<|Q5 fun _ lN=>?_;refine Q8<|Zs G fun _ lO=>?_;refine Zi (k:=k) (u:=aQ) (enc:=encG) (l:=ws) trivial rfl rfl Xb X0h X9 d fH rfl ?_;intro nR jJ;refine Ze (Xw (l:=[vi aQ.k,vi aQ.a,vi aQ.b]) rfl X0f jJ rfl)<|Zf (X8 (zs:=[vi 0,vi 0,vi 0]) X2q rfl) ?_;rintro _ w4 ⟨nS,rfl,gD,e,bQ⟩;have fA:=Q0 i.size gD;have lP:=g.away gD;have lQ:=d.away gD;have L:=L.below e;have z:=z.below e;have g:=g.below e;have B:=B.below e;have M:=M.below e;have d:=d.below e;have i:=btr i e;refine Zo (Vw [vi aQ.k,vi aQ.a,vi aQ.b] X0h bQ) ?_;rintro _ w5 ⟨E,hb⟩;have y:=bQ;have L:=L.only E (Blk.ne L y rfl);have z:=z.only E (Blk.ne z y rfl);have g:=g.only E fA;have B:=B.onlyT E y rfl;have M:=M.onlyT E y rfl;have d:=d.only E fA;have i:=Below.only i E fA;have bQ:=hb;refine ZX lO fun a G _ lR=>?_;refine Zs G fun _ lS=>?_;refine Ze (Vd rfl X1e 0)<|Ze (X0 rfl X7 (L.at 0))<|Ze (Vn X0f bQ)<|Zf (Vc (Xur _ c.n aQ mW) Xgi) ?_;rintro _ w6 ⟨rfl,e⟩;have L:=L.below e;have z:=z.below e;have bQ:=bQ.below e;have g:=g.below e;have B:=B.below e;have M:=M.below e;have d:=d.below e;have i:=btr i e;refine Ze (X0x rfl)<|Zt lS fun a G=>?_
  refine Xj G rfl (fun dB=>?_) (fun dB=>?_)
  ·have jK:=dB
   have h8:ftB c.n qs aQ=false:=by unfold ftB;have h9:gOk c.n aQ=false:=(by simpa using dB);rw [h9];rfl
   have bR:=Xd4 (c:=c) (p:=p) (run:=rr) (qs:=qs) (Xgt fH h8);refine Zs G fun _ lT=>?_;refine Ze (Xg (ps:=[]) (cs:=[vi 0,.slice none 0 0,.slice none 0 0]) rfl (fun _=>by first|rfl|kernel_rfl))<|Zo (Vw [vi 0,.slice none 0 0,.slice none 0 0] X15 z) ?_;rintro _ w7 ⟨E,hb⟩;have y:=z;have i:=Below.only i E fG;have z:=hb;refine Za rfl<|Zt lT fun a G=>?_;refine Q6<|X2<|Xm<|X2 ?_;refine X2<|Xm<|X2<|X3 G (X0w G rfl (ResV.cellN (l:=[vi 0,.slice none 0 0,.slice none 0 0]) rfl X1h (z.at 0) rfl) rfl) ?_
   rw [bR]
   exact ⟨none,0,none,0,rfl,(Own.nil _ _ _ _ _),(Own.nil _ _ _ _ _),(Apart.none_l _),i⟩
  have jK:=dB
  have j5:gOk c.n aQ=true:=by simpa using dB
  refine Q7<|lR _ _<|Zs G fun _ lU=>?_;refine Ze (Vn X0f bQ)<|Zm rfl<|Zf (Vc (Xq0 _ aQ Aqs cqs qs M.top mU) Xdk) ?_;rintro _ w8 ⟨rfl,e⟩;have L:=L.below e;have z:=z.below e;have g:=g.below e;have B:=B.below e;have M:=M.below e;have d:=d.below e;have i:=btr i e;refine Zm rfl<|Ze (X4 (vs:=[vi (inN aQ qs:Int),vi (ouN aQ qs:Int)]) rfl rfl)<|Ze (X4 (vs:=[vi (inN aQ qs:Int),vi (ouN aQ qs:Int)]) rfl rfl)<|Za rfl<|Za rfl<|Zx lU fun a G _ lV=>?_;refine Zm rfl<|Ze (X36 rfl rfl)<|Zt lV fun a G=>?_
  refine Xj G rfl (fun aY=>?_) (fun aY=>?_)
  ·have jL:=aY;have aY:=Q2 aY
   have h8:ftB c.n qs aQ=false:=by unfold ftB;rw [decide_eq_true aY,j5];rfl
   have bR:=Xd4 (c:=c) (p:=p) (run:=rr) (qs:=qs) (Xgt fH h8);refine Zs G fun _ lW=>?_;refine Ze (Xg (ps:=[]) (cs:=[vi 0,.slice none 0 0,.slice none 0 0]) rfl (fun _=>by first|rfl|kernel_rfl))<|Zo (Vw [vi 0,.slice none 0 0,.slice none 0 0] X15 z) ?_;rintro _ w9 ⟨E,hb⟩;have y:=z;have i:=Below.only i E fG;have z:=hb;refine Za rfl<|Zt lW fun a G=>?_;refine Q6<|Xm<|X2<|X2 ?_;refine Xm<|X2<|X3 G (X0w G rfl (ResV.cellN (l:=[vi 0,.slice none 0 0,.slice none 0 0]) rfl X1h (z.at 0) rfl) rfl) ?_
   rw [bR]
   exact ⟨none,0,none,0,rfl,(Own.nil _ _ _ _ _),(Own.nil _ _ _ _ _),(Apart.none_l _),i⟩
  have jL:=aY;have aY:=Q1 aY
  have h8:ftB c.n qs aQ=true:=by unfold ftB;rw [decide_eq_false aY,j5];rfl
  refine Q7<|Xq<|lN _ _<|Zr G ?_;refine Ze (X00 rfl rfl (by omega) (by omega))<|Zm rfl ?_;refine Zn fun a G=>?_;refine Xo ?_;exact ⟨k+1,⟨G.sb,(by omega),(Xie jI fH h8),L,z,g,B,M,d,aX,i⟩,(by omega)⟩
 have H:=bP;have bP:=Q1 bP
 have j6:ws.all (ftB c.n qs)=true:=by rw [Qi (by omega)] at jI;exact jI
 refine Q9<|Xn<|Xn<|X06 ?_;refine lJ _ _<|Zs G fun _ lX=>?_;refine Zm rfl<|Zm rfl<|Ze (X0p rfl X0b)<|Ze (X1j rfl rfl (by omega) (by omega))<|Zi (k:=(rr.length-1)) (u:=(lastI rr)) (enc:=encI) (l:=rr) trivial rfl rfl X0b X1k X05 B j4 (by omega) ?_;intro nT jM;refine Ze (X0 rfl X7 jM)<|Za rfl<|ZX lX fun a G _ lY=>?_;refine X0l (fun a w=>∃ b52 aC aE bS cH,Fr a 96 [(1,.slice Arr rr.length crr),(4,.pointer (some ⟨b6,0,none⟩)),(8,.pointer (some ⟨b9,0,none⟩)),(14,vi (lastI rr)),(15,.pointer (some ⟨b52,0,none⟩))]∧w0.heap.size≤b52∧Blk w b52 46 [vi p,.slice aC ((c.gs.take (N+1)).drop p.toNat).length aE,.slice bS ws.length cH]∧b9≠b52∧Own w w0.heap.size 115 3 encG aC aE ((c.gs.take (N+1)).drop p.toNat)∧Own w w0.heap.size 115 3 encG bS cH ws∧Apart aC bS∧Below w3.heap.size w3 w) ?_ ?_
 ·have f:Below w3.heap.size w3 w3:=Below.refl _ _
  refine X0d none (fun j=>[18].contains j) mixed ?_;intro nU e;have L:=L.below e;have z:=z.below e;have g:=g.below e;have B:=B.below e;have d:=d.below e;have i:=btr i e;have f:=btr f e;refine Yb G<|Yo 0 rfl (fun _=>Xa rfl)<|Yi (k:=0) (u:=p) (enc:=encI) (l:=rr) 1 rfl trivial rfl rfl X0b X1k X05 B gC rfl ?_;intro nV jN;refine Ye 2 rfl (X0 rfl X7 jN)<|Yo 4 rfl (fun _=>Vd rfl X0g 1)<|Ye 5 rfl (X0 rfl X0m (L.at 1))<|Yo 6 rfl (fun _=>Xa rfl)<|Yi (k:=0) (u:=p) (enc:=encI) (l:=rr) 7 rfl trivial rfl rfl X0b X1k X05 B gC rfl ?_;intro nX jO;refine Ye 8 rfl (X0 rfl X7 jO)<|Yo 9 rfl (fun _=>Xa rfl)<|Yo 10 rfl (fun _=>X00 rfl rfl (by omega) (by omega)) ?_;have t:=((g.top).takeK X9 (N+1)).dropK X9 (c:=cc) (Xdl aX (N+1)) p.toNat;refine Yo 11 rfl (fun _=>Xq2 (l:=c.gs) (k:=p.toNat) (m:=(N+1)) rfl rfl rfl Xb X0h (by omega) (by rw [fR];omega) (by omega) (by omega) aX)<|Yo 14 rfl (fun _=>Xa rfl) ?_;refine Y3 3 13 17 ?_ ?_ ?_
  ·refine Yk rfl trivial (X5 (k:=0) (vs:=[]) (zs:=[]) rfl Xb Xk rfl rfl) (fun _ _ ⟨_,_,_,h,_⟩=>h) ?_;rintro _ nY ⟨lZ,rfl,dC,e,aF⟩;have bU:=Q0 i.size dC;have n5:=Q0 f.size dC;have m3:=g.away dC;have m4:=d.away dC;have kO:=t.away dC;have z:=z.below e;have g:=g.below e;have d:=d.below e;have t:=t.below e;have i:=btr i e;have f:=btr f e;refine Y3 12 13 17 ?_ ?_ ?_
   ·refine Yk rfl trivial (X12 (enc:=encG) (l2:=(((c.gs.take (N+1)).drop p.toNat))) rfl rfl Xb Xk X9 X07 aF t (by simp only [maxLen];simp;omega) (by simp;omega)) (fun _ _ ⟨aC,aE,_,A,e,o⟩=>e) ?_;rintro _ nZ ⟨aC,aE,rfl,A,e,o⟩;clear o;have A:=A.lower bU;have z:=z.below e;have g:=g.below e;have d:=d.below e;have t:=t.below e;have i:=btr i e;have f:=btr f e;refine Y2 13 17 ?_ ?_
    ·refine Yk rfl trivial (X5 (k:=0) (vs:=[]) (zs:=[]) rfl Xb Xk rfl rfl) (fun _ _ ⟨_,_,_,h,_⟩=>h) ?_;rintro _ o0 ⟨o3,rfl,cJ,e,fI⟩;have gE:=Q0 i.size cJ;have n6:=Q0 f.size cJ;have m5:=g.away cJ;have m6:=d.away cJ;have kP:=t.away cJ;have cK:=A.away cJ;have z:=z.below e;have d:=d.below e;have A:=A.below e;have i:=btr i e;have f:=btr f e;refine Y2 15 17 ?_ ?_
     ·refine Yk rfl trivial (X12 (enc:=encG) (l2:=(ws)) rfl rfl Xb Xk X9 X07 fI d (by simp only [maxLen];omega) (by omega)) (fun _ _ ⟨bS,cH,_,aU,e,o⟩=>e) ?_;rintro _ o4 ⟨bS,cH,rfl,aU,e,o⟩;have b3:=Apart.new0 A cK o;clear o;have aU:=aU.lower gE;have z:=z.below e;have A:=A.below e;have i:=btr i e;have f:=btr f e;refine Yo 16 rfl (fun _=>Xg (ps:=[(0,vi p),(1,.slice aC ((c.gs.take (N+1)).drop p.toNat).length aE),(2,.slice bS ws.length cH)]) (cs:=[vi p,.slice aC ((c.gs.take (N+1)).drop p.toNat).length aE,.slice bS ws.length cH]) rfl (fun _=>by first|rfl|kernel_rfl))<|Y1 17 ?_;refine Yk rfl trivial (X8 (zs:=[vi 0,.slice none 0 0,.slice none 0 0]) X3a rfl) (fun _ _ ⟨_,_,_,h,_⟩=>h) ?_;rintro _ o5 ⟨b52,rfl,j7,e,J⟩
      have dD:b9≠b52:=by have:=z.lt;omega
      have cW:=Q0 i.size j7;have jP:=Q0 f.size j7;have A:=A.below e;have aU:=aU.below e;have i:=btr i e;have f:=btr f e;refine Y1 18<|Yh rfl trivial rfl (Vw [vi p,.slice aC ((c.gs.take (N+1)).drop p.toNat).length aE,.slice bS ws.length cH] X15 J) ?_;rintro _ w16 ⟨E,hb⟩;have y:=J;have A:=A.onlyT E y rfl;have aU:=aU.onlyT E y rfl;have f:=Below.only f E jP;have i:=Below.only i E cW;have J:=hb;refine Yd fun a G=>?_
      have W:Below w3.heap.size w3 w16:=f
      exact ⟨b52,aC,aE,bS,cH,G.sb,cW,J,dD,A,aU,b3,W⟩
     refine Yk rfl trivial (X8 (zs:=[vi 0,.slice none 0 0,.slice none 0 0]) X3a rfl) (fun _ _ ⟨_,_,_,h,_⟩=>h) ?_;rintro _ o6 ⟨b55,rfl,j8,e,cL⟩
     have gF:b9≠b55:=by have:=z.lt;omega
     have gG:=Q0 i.size j8;have jQ:=Q0 f.size j8;have fI:=fI.below e;have d:=d.below e;have A:=A.below e;have i:=btr i e;have f:=btr f e;refine Y1 15<|Yk rfl trivial (X12 (enc:=encG) (l2:=(ws)) rfl rfl Xb Xk X9 X07 fI d (by simp only [maxLen];omega) (by omega)) (fun _ _ ⟨gH,gI,_,cM,e,o⟩=>e) ?_;rintro _ o7 ⟨gH,gI,rfl,cM,e,o⟩;have fS:=Apart.new0 A cK o;clear o;have cM:=cM.lower gE;have cL:=cL.below e;have A:=A.below e;have i:=btr i e;have f:=btr f e;refine Yo 16 rfl (fun _=>Xg (ps:=[(0,vi p),(1,.slice aC ((c.gs.take (N+1)).drop p.toNat).length aE),(2,.slice gH ws.length gI)]) (cs:=[vi p,.slice aC ((c.gs.take (N+1)).drop p.toNat).length aE,.slice gH ws.length gI]) rfl (fun _=>by first|rfl|kernel_rfl))<|Y1 18 ?_;refine Yh rfl trivial rfl (Vw [vi p,.slice aC ((c.gs.take (N+1)).drop p.toNat).length aE,.slice gH ws.length gI] X15 cL) ?_;rintro _ w19 ⟨E,hb⟩;have y:=cL;have A:=A.onlyT E y rfl;have cM:=cM.onlyT E y rfl;have f:=Below.only f E jQ;have i:=Below.only i E gG;have cL:=hb;refine Yd fun a G=>?_
     have W:Below w3.heap.size w3 w19:=f
     exact ⟨b55,aC,aE,gH,gI,G.sub ⟨rfl,rfl,rfl,rfl,(by first|rfl|(simp [look,H])),trivial⟩,gG,cL,gF,A,cM,fS,W⟩
    refine Yk rfl trivial (X8 (zs:=[vi 0,.slice none 0 0,.slice none 0 0]) X3a rfl) (fun _ _ ⟨_,_,_,h,_⟩=>h) ?_;rintro _ o8 ⟨b61,rfl,jA,e,bI⟩
    have gJ:b9≠b61:=by have:=z.lt;omega
    have gK:=Q0 i.size jA;have jR:=Q0 f.size jA;have g:=g.below e;have d:=d.below e;have t:=t.below e;have A:=A.below e;have i:=btr i e;have f:=btr f e;refine Y1 13<|Yk rfl trivial (X5 (k:=0) (vs:=[]) (zs:=[]) rfl Xb Xk rfl rfl) (fun _ _ ⟨_,_,_,h,_⟩=>h) ?_;rintro _ o9 ⟨oB,rfl,cN,e,m7⟩;have jS:=Q0 i.size cN;have n7:=Q0 f.size cN;have m8:=g.away cN;have m9:=d.away cN;have kQ:=t.away cN;have fT:=A.away cN;have bI:=bI.below e;have d:=d.below e;have A:=A.below e;have i:=btr i e;have f:=btr f e;refine Y1 15<|Yk rfl trivial (X12 (enc:=encG) (l2:=(ws)) rfl rfl Xb Xk X9 X07 m7 d (by simp only [maxLen];omega) (by omega)) (fun _ _ ⟨gL,gM,_,cO,e,o⟩=>e) ?_;rintro _ oC ⟨gL,gM,rfl,cO,e,o⟩;have fU:=Apart.new0 A fT o;clear o;have cO:=cO.lower jS;have bI:=bI.below e;have A:=A.below e;have i:=btr i e;have f:=btr f e;refine Yo 16 rfl (fun _=>Xg (ps:=[(0,vi p),(1,.slice aC ((c.gs.take (N+1)).drop p.toNat).length aE),(2,.slice gL ws.length gM)]) (cs:=[vi p,.slice aC ((c.gs.take (N+1)).drop p.toNat).length aE,.slice gL ws.length gM]) rfl (fun _=>by first|rfl|kernel_rfl))<|Y1 18 ?_;refine Yh rfl trivial rfl (Vw [vi p,.slice aC ((c.gs.take (N+1)).drop p.toNat).length aE,.slice gL ws.length gM] X15 bI) ?_;rintro _ w23 ⟨E,hb⟩;have y:=bI;have A:=A.onlyT E y rfl;have cO:=cO.onlyT E y rfl;have f:=Below.only f E jR;have i:=Below.only i E gK;have bI:=hb;refine Yd fun a G=>?_
    have W:Below w3.heap.size w3 w23:=f
    exact ⟨b61,aC,aE,gL,gM,G.sub ⟨rfl,rfl,rfl,rfl,(by first|rfl|(simp [look,H])),trivial⟩,gK,bI,gJ,A,cO,fU,W⟩
   ·refine Yk rfl trivial (X5 (k:=0) (vs:=[]) (zs:=[]) rfl Xb Xk rfl rfl) (fun _ _ ⟨_,_,_,h,_⟩=>h) ?_;rintro _ oD ⟨b67,rfl,dE,e,aH⟩
    have cP:lZ≠b67:=by have:=aF.lt;omega
    have fB:=Q0 i.size dE;have n8:=Q0 f.size dE;have mA:=g.away dE;have mB:=d.away dE;have kR:=t.away dE;have z:=z.below e;have aF:=aF.below e;have d:=d.below e;have t:=t.below e;have i:=btr i e;have f:=btr f e;refine Y2 12 17 ?_ ?_
    ·refine Yk rfl trivial (X12 (enc:=encG) (l2:=(((c.gs.take (N+1)).drop p.toNat))) rfl rfl Xb Xk X9 X07 aF t (by simp only [maxLen];simp;omega) (by simp;omega)) (fun _ _ ⟨cX,cY,_,aA,e,o⟩=>e) ?_;rintro _ oE ⟨cX,cY,rfl,aA,e,o⟩;have cQ:=o _ aH.lt (Ne.symm cP);clear o;have aA:=aA.lower bU;have z:=z.below e;have aH:=aH.below e;have d:=d.below e;have i:=btr i e;have f:=btr f e;refine Y2 15 17 ?_ ?_
     ·refine Yk rfl trivial (X12 (enc:=encG) (l2:=(ws)) rfl rfl Xb Xk X9 X07 aH d (by simp only [maxLen];omega) (by omega)) (fun _ _ ⟨gN,gO,_,bJ,e,o⟩=>e) ?_;rintro _ oF ⟨gN,gO,rfl,bJ,e,o⟩;have fV:=Apart.new0 aA cQ o;clear o;have bJ:=bJ.lower fB;have z:=z.below e;have aA:=aA.below e;have i:=btr i e;have f:=btr f e;refine Yo 16 rfl (fun _=>Xg (ps:=[(0,vi p),(1,.slice cX ((c.gs.take (N+1)).drop p.toNat).length cY),(2,.slice gN ws.length gO)]) (cs:=[vi p,.slice cX ((c.gs.take (N+1)).drop p.toNat).length cY,.slice gN ws.length gO]) rfl (fun _=>by first|rfl|kernel_rfl))<|Y1 17 ?_;refine Yk rfl trivial (X8 (zs:=[vi 0,.slice none 0 0,.slice none 0 0]) X3a rfl) (fun _ _ ⟨_,_,_,h,_⟩=>h) ?_;rintro _ oG ⟨b75,rfl,jB,e,fJ⟩
      have gQ:b9≠b75:=by have:=z.lt;omega
      have gR:=Q0 i.size jB;have jT:=Q0 f.size jB;have aA:=aA.below e;have bJ:=bJ.below e;have i:=btr i e;have f:=btr f e;refine Y1 18<|Yh rfl trivial rfl (Vw [vi p,.slice cX ((c.gs.take (N+1)).drop p.toNat).length cY,.slice gN ws.length gO] X15 fJ) ?_;rintro _ w28 ⟨E,hb⟩;have y:=fJ;have aA:=aA.onlyT E y rfl;have bJ:=bJ.onlyT E y rfl;have f:=Below.only f E jT;have i:=Below.only i E gR;have fJ:=hb;refine Yd fun a G=>?_
      have W:Below w3.heap.size w3 w28:=f
      exact ⟨b75,cX,cY,gN,gO,G.sub ⟨rfl,rfl,rfl,rfl,(by first|rfl|(simp [look,H])),trivial⟩,gR,fJ,gQ,aA,bJ,fV,W⟩
     refine Yk rfl trivial (X8 (zs:=[vi 0,.slice none 0 0,.slice none 0 0]) X3a rfl) (fun _ _ ⟨_,_,_,h,_⟩=>h) ?_;rintro _ oH ⟨b78,rfl,jC,e,cR⟩
     have gS:b9≠b78:=by have:=z.lt;omega
     have gT:=Q0 i.size jC;have jU:=Q0 f.size jC;have aH:=aH.below e;have d:=d.below e;have aA:=aA.below e;have i:=btr i e;have f:=btr f e;refine Y1 15<|Yk rfl trivial (X12 (enc:=encG) (l2:=(ws)) rfl rfl Xb Xk X9 X07 aH d (by simp only [maxLen];omega) (by omega)) (fun _ _ ⟨gU,gX,_,cS,e,o⟩=>e) ?_;rintro _ oJ ⟨gU,gX,rfl,cS,e,o⟩;have fW:=Apart.new0 aA cQ o;clear o;have cS:=cS.lower fB;have cR:=cR.below e;have aA:=aA.below e;have i:=btr i e;have f:=btr f e;refine Yo 16 rfl (fun _=>Xg (ps:=[(0,vi p),(1,.slice cX ((c.gs.take (N+1)).drop p.toNat).length cY),(2,.slice gU ws.length gX)]) (cs:=[vi p,.slice cX ((c.gs.take (N+1)).drop p.toNat).length cY,.slice gU ws.length gX]) rfl (fun _=>by first|rfl|kernel_rfl))<|Y1 18 ?_;refine Yh rfl trivial rfl (Vw [vi p,.slice cX ((c.gs.take (N+1)).drop p.toNat).length cY,.slice gU ws.length gX] X15 cR) ?_;rintro _ w31 ⟨E,hb⟩;have y:=cR;have aA:=aA.onlyT E y rfl;have cS:=cS.onlyT E y rfl;have f:=Below.only f E jU;have i:=Below.only i E gT;have cR:=hb;refine Yd fun a G=>?_
     have W:Below w3.heap.size w3 w31:=f
     exact ⟨b78,cX,cY,gU,gX,G.sub ⟨rfl,rfl,rfl,rfl,(by first|rfl|(simp [look,H])),trivial⟩,gT,cR,gS,aA,cS,fW,W⟩
    refine Yk rfl trivial (X8 (zs:=[vi 0,.slice none 0 0,.slice none 0 0]) X3a rfl) (fun _ _ ⟨_,_,_,h,_⟩=>h) ?_;rintro _ oK ⟨b84,rfl,jD,e,bK⟩
    have gY:b9≠b84:=by have:=z.lt;omega
    have hG:=Q0 i.size jD;have jV:=Q0 f.size jD;have aF:=aF.below e;have aH:=aH.below e;have d:=d.below e;have t:=t.below e;have i:=btr i e;have f:=btr f e;refine Y1 12<|Yk rfl trivial (X12 (enc:=encG) (l2:=(((c.gs.take (N+1)).drop p.toNat))) rfl rfl Xb Xk X9 X07 aF t (by simp only [maxLen];simp;omega) (by simp;omega)) (fun _ _ ⟨hJ,hP,_,aZ,e,o⟩=>e) ?_;rintro _ oL ⟨hJ,hP,rfl,aZ,e,o⟩;have fX:=o _ aH.lt (Ne.symm cP);clear o;have aZ:=aZ.lower bU;have aH:=aH.below e;have bK:=bK.below e;have d:=d.below e;have i:=btr i e;have f:=btr f e;refine Y1 15<|Yk rfl trivial (X12 (enc:=encG) (l2:=(ws)) rfl rfl Xb Xk X9 X07 aH d (by simp only [maxLen];omega) (by omega)) (fun _ _ ⟨hY,hZ,_,cT,e,o⟩=>e) ?_;rintro _ oM ⟨hY,hZ,rfl,cT,e,o⟩;have fY:=Apart.new0 aZ fX o;clear o;have cT:=cT.lower fB;have bK:=bK.below e;have aZ:=aZ.below e;have i:=btr i e;have f:=btr f e;refine Yo 16 rfl (fun _=>Xg (ps:=[(0,vi p),(1,.slice hJ ((c.gs.take (N+1)).drop p.toNat).length hP),(2,.slice hY ws.length hZ)]) (cs:=[vi p,.slice hJ ((c.gs.take (N+1)).drop p.toNat).length hP,.slice hY ws.length hZ]) rfl (fun _=>by first|rfl|kernel_rfl))<|Y1 18 ?_;refine Yh rfl trivial rfl (Vw [vi p,.slice hJ ((c.gs.take (N+1)).drop p.toNat).length hP,.slice hY ws.length hZ] X15 bK) ?_;rintro _ w35 ⟨E,hb⟩;have y:=bK;have aZ:=aZ.onlyT E y rfl;have cT:=cT.onlyT E y rfl;have f:=Below.only f E jV;have i:=Below.only i E hG;have bK:=hb;refine Yd fun a G=>?_
    have W:Below w3.heap.size w3 w35:=f
    exact ⟨b84,hJ,hP,hY,hZ,G.sub ⟨rfl,rfl,rfl,rfl,(by first|rfl|(simp [look,H])),trivial⟩,hG,bK,gY,aZ,cT,fY,W⟩
   refine Yk rfl trivial (X8 (zs:=[vi 0,.slice none 0 0,.slice none 0 0]) X3a rfl) (fun _ _ ⟨_,_,_,h,_⟩=>h) ?_;rintro _ oN ⟨b91,rfl,jE,e,U⟩
   have dF:b9≠b91:=by have:=z.lt;omega
   have d5:=Q0 i.size jE;have i6:=Q0 f.size jE;have aF:=aF.below e;have g:=g.below e;have d:=d.below e;have t:=t.below e;have i:=btr i e;have f:=btr f e;refine Y2 12 13 ?_ ?_
   ·refine Yk rfl trivial (X12 (enc:=encG) (l2:=(((c.gs.take (N+1)).drop p.toNat))) rfl rfl Xb Xk X9 X07 aF t (by simp only [maxLen];simp;omega) (by simp;omega)) (fun _ _ ⟨i7,i8,_,aP,e,o⟩=>e) ?_;rintro _ oO ⟨i7,i8,rfl,aP,e,o⟩;clear o;have aP:=aP.lower bU;have U:=U.below e;have g:=g.below e;have d:=d.below e;have t:=t.below e;have i:=btr i e;have f:=btr f e;refine Y1 13<|Yk rfl trivial (X5 (k:=0) (vs:=[]) (zs:=[]) rfl Xb Xk rfl rfl) (fun _ _ ⟨_,_,_,h,_⟩=>h) ?_;rintro _ oP ⟨oQ,rfl,cU,e,mC⟩;have jW:=Q0 i.size cU;have n9:=Q0 f.size cU;have mD:=g.away cU;have mE:=d.away cU;have kS:=t.away cU;have fZ:=aP.away cU;have U:=U.below e;have d:=d.below e;have aP:=aP.below e;have i:=btr i e;have f:=btr f e;refine Y1 15<|Yk rfl trivial (X12 (enc:=encG) (l2:=(ws)) rfl rfl Xb Xk X9 X07 mC d (by simp only [maxLen];omega) (by omega)) (fun _ _ ⟨iA,iB,_,cV,e,o⟩=>e) ?_;rintro _ oR ⟨iA,iB,rfl,cV,e,o⟩;have g5:=Apart.new0 aP fZ o;clear o;have cV:=cV.lower jW;have U:=U.below e;have aP:=aP.below e;have i:=btr i e;have f:=btr f e;refine Yo 16 rfl (fun _=>Xg (ps:=[(0,vi p),(1,.slice i7 ((c.gs.take (N+1)).drop p.toNat).length i8),(2,.slice iA ws.length iB)]) (cs:=[vi p,.slice i7 ((c.gs.take (N+1)).drop p.toNat).length i8,.slice iA ws.length iB]) rfl (fun _=>by first|rfl|kernel_rfl))<|Y1 18 ?_;refine Yh rfl trivial rfl (Vw [vi p,.slice i7 ((c.gs.take (N+1)).drop p.toNat).length i8,.slice iA ws.length iB] X15 U) ?_;rintro _ w40 ⟨E,hb⟩
    have y:=U;have aP:=aP.onlyT E y rfl;have cV:=cV.onlyT E y rfl;have f:=Below.only f E i6;have i:=Below.only i E d5;have U:=hb;refine Yd fun a G=>?_
    have W:Below w3.heap.size w3 w40:=f
    exact ⟨b91,i7,i8,iA,iB,G.sub ⟨rfl,rfl,rfl,rfl,(by first|rfl|(simp [look,H])),trivial⟩,d5,U,dF,aP,cV,g5,W⟩
   refine Yk rfl trivial (X5 (k:=0) (vs:=[]) (zs:=[]) rfl Xb Xk rfl rfl) (fun _ _ ⟨_,_,_,h,_⟩=>h) ?_;rintro _ oS ⟨b98,rfl,dG,e,fK⟩
   have g6:lZ≠b98:=by have:=aF.lt;omega
   have jX:=Q0 i.size dG;have nA:=Q0 f.size dG;have mF:=g.away dG;have mG:=d.away dG;have kT:=t.away dG;have aF:=aF.below e;have U:=U.below e;have d:=d.below e;have t:=t.below e;have i:=btr i e;have f:=btr f e;refine Y1 12<|Yk rfl trivial (X12 (enc:=encG) (l2:=(((c.gs.take (N+1)).drop p.toNat))) rfl rfl Xb Xk X9 X07 aF t (by simp only [maxLen];simp;omega) (by simp;omega)) (fun _ _ ⟨dH,dI,_,aI,e,o⟩=>e) ?_;rintro _ oT ⟨dH,dI,rfl,aI,e,o⟩;have fC:=o _ fK.lt (Ne.symm g6);clear o;have aI:=aI.lower bU;have U:=U.below e;have fK:=fK.below e;have d:=d.below e;have i:=btr i e;have f:=btr f e;refine Y1 15<|Yk rfl trivial (X12 (enc:=encG) (l2:=(ws)) rfl rfl Xb Xk X9 X07 fK d (by simp only [maxLen];omega) (by omega)) (fun _ _ ⟨dJ,dK,_,b4,e,o⟩=>e) ?_;rintro _ oU ⟨dJ,dK,rfl,b4,e,o⟩;have dL:=Apart.new0 aI fC o;clear o;have b4:=b4.lower jX;have U:=U.below e;have aI:=aI.below e;have i:=btr i e;have f:=btr f e;refine Yo 16 rfl (fun _=>Xg (ps:=[(0,vi p),(1,.slice dH ((c.gs.take (N+1)).drop p.toNat).length dI),(2,.slice dJ ws.length dK)]) (cs:=[vi p,.slice dH ((c.gs.take (N+1)).drop p.toNat).length dI,.slice dJ ws.length dK]) rfl (fun _=>by first|rfl|kernel_rfl))<|Y1 18 ?_;refine Yh rfl trivial rfl (Vw [vi p,.slice dH ((c.gs.take (N+1)).drop p.toNat).length dI,.slice dJ ws.length dK] X15 U) ?_;rintro _ w44 ⟨E,hb⟩;have y:=U;have aI:=aI.onlyT E y rfl;have b4:=b4.onlyT E y rfl;have f:=Below.only f E i6
   have i:=Below.only i E d5;have U:=hb;refine Yd fun a G=>?_
   have W:Below w3.heap.size w3 w44:=f
   exact ⟨b91,dH,dI,dJ,dK,G.sub ⟨rfl,rfl,rfl,rfl,(by first|rfl|(simp [look,H])),trivial⟩,d5,U,dF,aI,b4,dL,W⟩
  ·refine Yk rfl trivial (X5 (k:=0) (vs:=[]) (zs:=[]) rfl Xb Xk rfl rfl) (fun _ _ ⟨_,_,_,h,_⟩=>h) ?_;rintro _ oV ⟨jF,rfl,bW,e,D⟩;have bO:=Q0 i.size bW;have mL:=Q0 f.size bW;have kU:=g.away bW;have kW:=d.away bW;have jY:=t.away bW;have z:=z.below e;have g:=g.below e;have d:=d.below e;have t:=t.below e;have i:=btr i e;have f:=btr f e;refine Y2 3 17 ?_ ?_
   ·refine Yk rfl trivial (X5 (k:=0) (vs:=[]) (zs:=[]) rfl Xb Xk rfl rfl) (fun _ _ ⟨_,_,_,h,_⟩=>h) ?_;rintro _ oW ⟨b106,rfl,bX,e,d6⟩
    have bL:jF≠b106:=by have:=D.lt;omega
    have fL:=Q0 i.size bX;have mM:=Q0 f.size bX;have kX:=g.away bX;have kY:=d.away bX;have jZ:=t.away bX;have z:=z.below e;have D:=D.below e;have d:=d.below e;have t:=t.below e;have i:=btr i e;have f:=btr f e;refine Y2 12 17 ?_ ?_
    ·refine Yk rfl trivial (X12 (enc:=encG) (l2:=(((c.gs.take (N+1)).drop p.toNat))) rfl rfl Xb Xk X9 X07 d6 t (by simp only [maxLen];simp;omega) (by simp;omega)) (fun _ _ ⟨b0,b1,_,I,e,o⟩=>e) ?_;rintro _ oX ⟨b0,b1,rfl,I,e,o⟩;have bM:=o _ D.lt bL;clear o;have I:=I.lower fL;have z:=z.below e;have D:=D.below e;have d:=d.below e;have i:=btr i e;have f:=btr f e;refine Y2 15 17 ?_ ?_
     ·refine Yk rfl trivial (X12 (enc:=encG) (l2:=(ws)) rfl rfl Xb Xk X9 X07 D d (by simp only [maxLen];omega) (by omega)) (fun _ _ ⟨dM,dN,_,aR,e,o⟩=>e) ?_;rintro _ oY ⟨dM,dN,rfl,aR,e,o⟩;have dO:=Apart.new0 I bM o;clear o;have aR:=aR.lower bO;have z:=z.below e;have I:=I.below e;have i:=btr i e;have f:=btr f e;refine Yo 16 rfl (fun _=>Xg (ps:=[(0,vi p),(1,.slice b0 ((c.gs.take (N+1)).drop p.toNat).length b1),(2,.slice dM ws.length dN)]) (cs:=[vi p,.slice b0 ((c.gs.take (N+1)).drop p.toNat).length b1,.slice dM ws.length dN]) rfl (fun _=>by first|rfl|kernel_rfl))<|Y1 17 ?_;refine Yk rfl trivial (X8 (zs:=[vi 0,.slice none 0 0,.slice none 0 0]) X3a rfl) (fun _ _ ⟨_,_,_,h,_⟩=>h) ?_;rintro _ oZ ⟨b114,rfl,iC,e,d7⟩
      have g7:b9≠b114:=by have:=z.lt;omega
      have fM:=Q0 i.size iC;have iP:=Q0 f.size iC;have I:=I.below e;have aR:=aR.below e;have i:=btr i e;have f:=btr f e;refine Y1 18<|Yh rfl trivial rfl (Vw [vi p,.slice b0 ((c.gs.take (N+1)).drop p.toNat).length b1,.slice dM ws.length dN] X15 d7) ?_;rintro _ w50 ⟨E,hb⟩;have y:=d7;have I:=I.onlyT E y rfl;have aR:=aR.onlyT E y rfl;have f:=Below.only f E iP;have i:=Below.only i E fM;have d7:=hb;refine Yd fun a G=>?_
      have W:Below w3.heap.size w3 w50:=f
      exact ⟨b114,b0,b1,dM,dN,G.sub ⟨rfl,rfl,rfl,rfl,(by first|rfl|(simp [look,H])),trivial⟩,fM,d7,g7,I,aR,dO,W⟩
     refine Yk rfl trivial (X8 (zs:=[vi 0,.slice none 0 0,.slice none 0 0]) X3a rfl) (fun _ _ ⟨_,_,_,h,_⟩=>h) ?_;rintro _ p0 ⟨b117,rfl,iD,e,b5⟩
     have g8:b9≠b117:=by have:=z.lt;omega
     have fN:=Q0 i.size iD;have iQ:=Q0 f.size iD;have D:=D.below e;have d:=d.below e;have I:=I.below e;have i:=btr i e;have f:=btr f e;refine Y1 15<|Yk rfl trivial (X12 (enc:=encG) (l2:=(ws)) rfl rfl Xb Xk X9 X07 D d (by simp only [maxLen];omega) (by omega)) (fun _ _ ⟨dP,dQ,_,b7,e,o⟩=>e) ?_;rintro _ p5 ⟨dP,dQ,rfl,b7,e,o⟩;have dR:=Apart.new0 I bM o;clear o;have b7:=b7.lower bO;have b5:=b5.below e;have I:=I.below e;have i:=btr i e;have f:=btr f e;refine Yo 16 rfl (fun _=>Xg (ps:=[(0,vi p),(1,.slice b0 ((c.gs.take (N+1)).drop p.toNat).length b1),(2,.slice dP ws.length dQ)]) (cs:=[vi p,.slice b0 ((c.gs.take (N+1)).drop p.toNat).length b1,.slice dP ws.length dQ]) rfl (fun _=>by first|rfl|kernel_rfl))<|Y1 18 ?_;refine Yh rfl trivial rfl (Vw [vi p,.slice b0 ((c.gs.take (N+1)).drop p.toNat).length b1,.slice dP ws.length dQ] X15 b5) ?_;rintro _ w53 ⟨E,hb⟩;have y:=b5;have I:=I.onlyT E y rfl;have b7:=b7.onlyT E y rfl;have f:=Below.only f E iQ;have i:=Below.only i E fN;have b5:=hb;refine Yd fun a G=>?_
     have W:Below w3.heap.size w3 w53:=f
     exact ⟨b117,b0,b1,dP,dQ,G.sub ⟨rfl,rfl,rfl,rfl,(by first|rfl|(simp [look,H])),trivial⟩,fN,b5,g8,I,b7,dR,W⟩
    refine Yk rfl trivial (X8 (zs:=[vi 0,.slice none 0 0,.slice none 0 0]) X3a rfl) (fun _ _ ⟨_,_,_,h,_⟩=>h) ?_;rintro _ p6 ⟨b123,rfl,iE,e,aS⟩
    have gA:b9≠b123:=by have:=z.lt;omega
    have fO:=Q0 i.size iE;have iS:=Q0 f.size iE;have D:=D.below e;have d6:=d6.below e;have d:=d.below e;have t:=t.below e;have i:=btr i e;have f:=btr f e;refine Y1 12<|Yk rfl trivial (X12 (enc:=encG) (l2:=(((c.gs.take (N+1)).drop p.toNat))) rfl rfl Xb Xk X9 X07 d6 t (by simp only [maxLen];simp;omega) (by simp;omega)) (fun _ _ ⟨dS,dT,_,aJ,e,o⟩=>e) ?_;rintro _ p8 ⟨dS,dT,rfl,aJ,e,o⟩;have dU:=o _ D.lt bL;clear o;have aJ:=aJ.lower fL;have D:=D.below e;have aS:=aS.below e;have d:=d.below e;have i:=btr i e;have f:=btr f e;refine Y1 15<|Yk rfl trivial (X12 (enc:=encG) (l2:=(ws)) rfl rfl Xb Xk X9 X07 D d (by simp only [maxLen];omega) (by omega)) (fun _ _ ⟨dW,dX,_,b8,e,o⟩=>e) ?_;rintro _ p9 ⟨dW,dX,rfl,b8,e,o⟩;have dY:=Apart.new0 aJ dU o;clear o;have b8:=b8.lower bO;have aS:=aS.below e;have aJ:=aJ.below e;have i:=btr i e;have f:=btr f e;refine Yo 16 rfl (fun _=>Xg (ps:=[(0,vi p),(1,.slice dS ((c.gs.take (N+1)).drop p.toNat).length dT),(2,.slice dW ws.length dX)]) (cs:=[vi p,.slice dS ((c.gs.take (N+1)).drop p.toNat).length dT,.slice dW ws.length dX]) rfl (fun _=>by first|rfl|kernel_rfl))<|Y1 18 ?_;refine Yh rfl trivial rfl (Vw [vi p,.slice dS ((c.gs.take (N+1)).drop p.toNat).length dT,.slice dW ws.length dX] X15 aS) ?_;rintro _ w57 ⟨E,hb⟩;have y:=aS;have aJ:=aJ.onlyT E y rfl;have b8:=b8.onlyT E y rfl;have f:=Below.only f E iS;have i:=Below.only i E fO
    have aS:=hb;refine Yd fun a G=>?_
    have W:Below w3.heap.size w3 w57:=f
    exact ⟨b123,dS,dT,dW,dX,G.sub ⟨rfl,rfl,rfl,rfl,(by first|rfl|(simp [look,H])),trivial⟩,fO,aS,gA,aJ,b8,dY,W⟩
   refine Yk rfl trivial (X8 (zs:=[vi 0,.slice none 0 0,.slice none 0 0]) X3a rfl) (fun _ _ ⟨_,_,_,h,_⟩=>h) ?_;rintro _ pC ⟨b130,rfl,iF,e,aG⟩
   have gB:b9≠b130:=by have:=z.lt;omega
   have fP:=Q0 i.size iF;have iT:=Q0 f.size iF;have D:=D.below e;have g:=g.below e;have d:=d.below e;have t:=t.below e;have i:=btr i e;have f:=btr f e;refine Y1 3<|Yk rfl trivial (X5 (k:=0) (vs:=[]) (zs:=[]) rfl Xb Xk rfl rfl) (fun _ _ ⟨_,_,_,h,_⟩=>h) ?_;rintro _ pD ⟨b131,rfl,bY,e,k0⟩
   have eA:jF≠b131:=by have:=D.lt;omega
   have iU:=Q0 i.size bY;have mN:=Q0 f.size bY;have kZ:=g.away bY;have l3:=d.away bY;have k5:=t.away bY;have D:=D.below e;have aG:=aG.below e;have d:=d.below e;have t:=t.below e;have i:=btr i e;have f:=btr f e;refine Y1 12<|Yk rfl trivial (X12 (enc:=encG) (l2:=(((c.gs.take (N+1)).drop p.toNat))) rfl rfl Xb Xk X9 X07 k0 t (by simp only [maxLen];simp;omega) (by simp;omega)) (fun _ _ ⟨eB,eC,_,aK,e,o⟩=>e) ?_;rintro _ pE ⟨eB,eC,rfl,aK,e,o⟩;have eD:=o _ D.lt eA;clear o;have aK:=aK.lower iU;have D:=D.below e;have aG:=aG.below e;have d:=d.below e;have i:=btr i e;have f:=btr f e;refine Y1 15<|Yk rfl trivial (X12 (enc:=encG) (l2:=(ws)) rfl rfl Xb Xk X9 X07 D d (by simp only [maxLen];omega) (by omega)) (fun _ _ ⟨eE,eF,_,bC,e,o⟩=>e) ?_;rintro _ pF ⟨eE,eF,rfl,bC,e,o⟩;have eG:=Apart.new0 aK eD o;clear o;have bC:=bC.lower bO;have aG:=aG.below e;have aK:=aK.below e;have i:=btr i e;have f:=btr f e;refine Yo 16 rfl (fun _=>Xg (ps:=[(0,vi p),(1,.slice eB ((c.gs.take (N+1)).drop p.toNat).length eC),(2,.slice eE ws.length eF)]) (cs:=[vi p,.slice eB ((c.gs.take (N+1)).drop p.toNat).length eC,.slice eE ws.length eF]) rfl (fun _=>by first|rfl|kernel_rfl))<|Y1 18 ?_;refine Yh rfl trivial rfl (Vw [vi p,.slice eB ((c.gs.take (N+1)).drop p.toNat).length eC,.slice eE ws.length eF] X15 aG) ?_;rintro _ w62 ⟨E,hb⟩;have y:=aG;have aK:=aK.onlyT E y rfl;have bC:=bC.onlyT E y rfl
   have f:=Below.only f E iT;have i:=Below.only i E fP;have aG:=hb;refine Yd fun a G=>?_
   have W:Below w3.heap.size w3 w62:=f
   exact ⟨b130,eB,eC,eE,eF,G.sub ⟨rfl,rfl,rfl,rfl,(by first|rfl|(simp [look,H])),trivial⟩,fP,aG,gB,aK,bC,eG,W⟩
  refine Yk rfl trivial (X8 (zs:=[vi 0,.slice none 0 0,.slice none 0 0]) X3a rfl) (fun _ _ ⟨_,_,_,h,_⟩=>h) ?_;rintro _ pG ⟨b139,rfl,iG,e,C⟩
  have bD:b9≠b139:=by have:=z.lt;omega
  have aT:=Q0 i.size iG;have d8:=Q0 f.size iG;have g:=g.below e;have d:=d.below e;have t:=t.below e;have i:=btr i e;have f:=btr f e;refine Y2 3 13 ?_ ?_
  ·refine Yk rfl trivial (X5 (k:=0) (vs:=[]) (zs:=[]) rfl Xb Xk rfl rfl) (fun _ _ ⟨_,_,_,h,_⟩=>h) ?_;rintro _ pH ⟨mH,rfl,bZ,e,c4⟩;have fQ:=Q0 i.size bZ;have mO:=Q0 f.size bZ;have l4:=g.away bZ;have l5:=d.away bZ;have k6:=t.away bZ;have C:=C.below e;have g:=g.below e;have d:=d.below e;have t:=t.below e;have i:=btr i e;have f:=btr f e;refine Y2 12 13 ?_ ?_
   ·refine Yk rfl trivial (X12 (enc:=encG) (l2:=(((c.gs.take (N+1)).drop p.toNat))) rfl rfl Xb Xk X9 X07 c4 t (by simp only [maxLen];simp;omega) (by simp;omega)) (fun _ _ ⟨eH,eI,_,aD,e,o⟩=>e) ?_;rintro _ pI ⟨eH,eI,rfl,aD,e,o⟩;clear o;have aD:=aD.lower fQ;have C:=C.below e;have g:=g.below e;have d:=d.below e;have t:=t.below e;have i:=btr i e;have f:=btr f e;refine Y1 13<|Yk rfl trivial (X5 (k:=0) (vs:=[]) (zs:=[]) rfl Xb Xk rfl rfl) (fun _ _ ⟨_,_,_,h,_⟩=>h) ?_;rintro _ pJ ⟨nG,rfl,bE,e,k7⟩;have iV:=Q0 i.size bE;have mP:=Q0 f.size bE;have l6:=g.away bE;have l7:=d.away bE;have k8:=t.away bE;have eJ:=aD.away bE;have C:=C.below e;have d:=d.below e;have aD:=aD.below e;have i:=btr i e;have f:=btr f e;refine Y1 15<|Yk rfl trivial (X12 (enc:=encG) (l2:=(ws)) rfl rfl Xb Xk X9 X07 k7 d (by simp only [maxLen];omega) (by omega)) (fun _ _ ⟨eK,eL,_,bF,e,o⟩=>e) ?_;rintro _ pK ⟨eK,eL,rfl,bF,e,o⟩;have eM:=Apart.new0 aD eJ o;clear o;have bF:=bF.lower iV;have C:=C.below e;have aD:=aD.below e;have i:=btr i e;have f:=btr f e;refine Yo 16 rfl (fun _=>Xg (ps:=[(0,vi p),(1,.slice eH ((c.gs.take (N+1)).drop p.toNat).length eI),(2,.slice eK ws.length eL)]) (cs:=[vi p,.slice eH ((c.gs.take (N+1)).drop p.toNat).length eI,.slice eK ws.length eL]) rfl (fun _=>by first|rfl|kernel_rfl))<|Y1 18 ?_;refine Yh rfl trivial rfl (Vw [vi p,.slice eH ((c.gs.take (N+1)).drop p.toNat).length eI,.slice eK ws.length eL] X15 C) ?_;rintro _ w68 ⟨E,hb⟩
    have y:=C;have aD:=aD.onlyT E y rfl;have bF:=bF.onlyT E y rfl;have f:=Below.only f E d8;have i:=Below.only i E aT;have C:=hb;refine Yd fun a G=>?_
    have W:Below w3.heap.size w3 w68:=f
    exact ⟨b139,eH,eI,eK,eL,G.sub ⟨rfl,rfl,rfl,rfl,(by first|rfl|(simp [look,H])),trivial⟩,aT,C,bD,aD,bF,eM,W⟩
   refine Yk rfl trivial (X5 (k:=0) (vs:=[]) (zs:=[]) rfl Xb Xk rfl rfl) (fun _ _ ⟨_,_,_,h,_⟩=>h) ?_;rintro _ pL ⟨b148,rfl,cA,e,d9⟩
   have eN:mH≠b148:=by have:=c4.lt;omega
   have iW:=Q0 i.size cA;have mQ:=Q0 f.size cA;have l8:=g.away cA;have l9:=d.away cA;have kA:=t.away cA;have C:=C.below e;have c4:=c4.below e;have d:=d.below e;have t:=t.below e;have i:=btr i e;have f:=btr f e;refine Y1 12<|Yk rfl trivial (X12 (enc:=encG) (l2:=(((c.gs.take (N+1)).drop p.toNat))) rfl rfl Xb Xk X9 X07 c4 t (by simp only [maxLen];simp;omega) (by simp;omega)) (fun _ _ ⟨eO,eP,_,aL,e,o⟩=>e) ?_;rintro _ pM ⟨eO,eP,rfl,aL,e,o⟩;have eQ:=o _ d9.lt (Ne.symm eN);clear o;have aL:=aL.lower fQ;have C:=C.below e;have d9:=d9.below e;have d:=d.below e;have i:=btr i e;have f:=btr f e;refine Y1 15<|Yk rfl trivial (X12 (enc:=encG) (l2:=(ws)) rfl rfl Xb Xk X9 X07 d9 d (by simp only [maxLen];omega) (by omega)) (fun _ _ ⟨eR,eS,_,bG,e,o⟩=>e) ?_;rintro _ pN ⟨eR,eS,rfl,bG,e,o⟩;have eT:=Apart.new0 aL eQ o;clear o;have bG:=bG.lower iW;have C:=C.below e;have aL:=aL.below e;have i:=btr i e;have f:=btr f e;refine Yo 16 rfl (fun _=>Xg (ps:=[(0,vi p),(1,.slice eO ((c.gs.take (N+1)).drop p.toNat).length eP),(2,.slice eR ws.length eS)]) (cs:=[vi p,.slice eO ((c.gs.take (N+1)).drop p.toNat).length eP,.slice eR ws.length eS]) rfl (fun _=>by first|rfl|kernel_rfl))<|Y1 18 ?_;refine Yh rfl trivial rfl (Vw [vi p,.slice eO ((c.gs.take (N+1)).drop p.toNat).length eP,.slice eR ws.length eS] X15 C) ?_;rintro _ w72 ⟨E,hb⟩;have y:=C;have aL:=aL.onlyT E y rfl;have bG:=bG.onlyT E y rfl
   have f:=Below.only f E d8;have i:=Below.only i E aT;have C:=hb;refine Yd fun a G=>?_
   have W:Below w3.heap.size w3 w72:=f
   exact ⟨b139,eO,eP,eR,eS,G.sub ⟨rfl,rfl,rfl,rfl,(by first|rfl|(simp [look,H])),trivial⟩,aT,C,bD,aL,bG,eT,W⟩
  refine Yk rfl trivial (X5 (k:=0) (vs:=[]) (zs:=[]) rfl Xb Xk rfl rfl) (fun _ _ ⟨_,_,_,h,_⟩=>h) ?_;rintro _ pO ⟨mI,rfl,cB,e,aW⟩;have iX:=Q0 i.size cB;have mR:=Q0 f.size cB;have lA:=g.away cB;have lB:=d.away cB;have kB:=t.away cB;have C:=C.below e;have g:=g.below e;have d:=d.below e;have t:=t.below e;have i:=btr i e;have f:=btr f e;refine Y1 3<|Yk rfl trivial (X5 (k:=0) (vs:=[]) (zs:=[]) rfl Xb Xk rfl rfl) (fun _ _ ⟨_,_,_,h,_⟩=>h) ?_;rintro _ pP ⟨b156,rfl,cC,e,kC⟩
  have eU:mI≠b156:=by have:=aW.lt;omega
  have iY:=Q0 i.size cC;have mS:=Q0 f.size cC;have lC:=g.away cC;have lD:=d.away cC;have kD:=t.away cC;have C:=C.below e;have aW:=aW.below e;have d:=d.below e;have t:=t.below e;have i:=btr i e;have f:=btr f e;refine Y1 12<|Yk rfl trivial (X12 (enc:=encG) (l2:=(((c.gs.take (N+1)).drop p.toNat))) rfl rfl Xb Xk X9 X07 kC t (by simp only [maxLen];simp;omega) (by simp;omega)) (fun _ _ ⟨eW,eX,_,aM,e,o⟩=>e) ?_;rintro _ pQ ⟨eW,eX,rfl,aM,e,o⟩;have eY:=o _ aW.lt eU;clear o;have aM:=aM.lower iY;have C:=C.below e;have aW:=aW.below e;have d:=d.below e;have i:=btr i e;have f:=btr f e;refine Y1 15<|Yk rfl trivial (X12 (enc:=encG) (l2:=(ws)) rfl rfl Xb Xk X9 X07 aW d (by simp only [maxLen];omega) (by omega)) (fun _ _ ⟨f0,f5,_,bH,e,o⟩=>e) ?_;rintro _ pR ⟨f0,f5,rfl,bH,e,o⟩;have f7:=Apart.new0 aM eY o;clear o;have bH:=bH.lower iX;have C:=C.below e;have aM:=aM.below e;have i:=btr i e;have f:=btr f e;refine Yo 16 rfl (fun _=>Xg (ps:=[(0,vi p),(1,.slice eW ((c.gs.take (N+1)).drop p.toNat).length eX),(2,.slice f0 ws.length f5)]) (cs:=[vi p,.slice eW ((c.gs.take (N+1)).drop p.toNat).length eX,.slice f0 ws.length f5]) rfl (fun _=>by first|rfl|kernel_rfl))<|Y1 18 ?_;refine Yh rfl trivial rfl (Vw [vi p,.slice eW ((c.gs.take (N+1)).drop p.toNat).length eX,.slice f0 ws.length f5] X15 C) ?_;rintro _ w77 ⟨E,hb⟩;have y:=C;have aM:=aM.onlyT E y rfl;have bH:=bH.onlyT E y rfl
  have f:=Below.only f E d8;have i:=Below.only i E aT;have C:=hb;refine Yd fun a G=>?_
  have W:Below w3.heap.size w3 w77:=f
  exact ⟨b139,eW,eX,f0,f5,G.sub ⟨rfl,rfl,rfl,rfl,(by first|rfl|(simp [look,H])),trivial⟩,aT,C,bD,aM,bH,f7,W⟩
 rintro a pS ⟨b52,aC,aE,bS,cH,G,cW,J,dD,A,aU,b3,e⟩;have L:=L.below e;have z:=z.below e;have g:=g.below e;have B:=B.below e;have i:=btr i e;refine lY _ _<|Q5 fun _ kE=>?_;refine Zs G fun _ kF=>?_;refine Zm rfl<|Zi (k:=0) (u:=p) (enc:=encI) (l:=rr) trivial rfl rfl X0b X1k X05 B gC rfl ?_;intro nH iZ;refine Ze (X0 rfl X7 iZ)<|Za rfl<|Zt kF fun a G=>?_;refine Q8<|X0a (σ:=Nat×Int×(List Gt)) (fun (s:Nat×Int×(List Gt)) (a:Act) (w:World)=>match s with|(k,x,q)=>∃ bN cD,Fr a 96 [(1,.slice Arr rr.length crr),(4,.pointer (some ⟨b6,0,none⟩)),(8,.pointer (some ⟨b9,0,none⟩)),(14,vi (lastI rr)),(15,.pointer (some ⟨b52,0,none⟩)),(16,vi x)]∧(x=p+(k:Int))∧(k≤winN rr p)∧(q=ws++gapL c rr p k)∧Blk w b6 28 [vi c.n,.slice Ac c.gs.length cc]∧Blk w b9 46 [vi 0,.slice none 0 0,.slice none 0 0]∧Blk w b52 46 [vi p,.slice aC ((c.gs.take (N+1)).drop p.toNat).length aE,.slice bN q.length cD]∧Rd w w0.heap.size 115 encG Ac c.gs∧Rd w w0.heap.size 3 encI Arr rr∧Own w w0.heap.size 115 3 encG aC aE ((c.gs.take (N+1)).drop p.toNat)∧Own w w0.heap.size 115 3 encG bN cD q∧c.gs.length≤cc∧Apart aC bN∧Below w0.heap.size w0 w) (fun (s:Nat×Int×(List Gt))=>match s with|(k,x,q)=>winN rr p-k) (0,p,ws) ?_ ?_
 ·exact ⟨bS,cH,G.sb,(by simp),(Qf _),(by rw [Xej,List.append_nil]),L,z,J,g,B,A,aU,aX,b3,i⟩
 rintro ⟨k,x,q⟩ a nB ⟨bN,cD,G,hx,hk,hq,L,z,J,g,B,A,aB,aX,aN,i⟩;refine Q5 fun _ kG=>?_;refine Zs G fun _ kH=>?_;refine Zm rfl<|Zm rfl<|Ze (Xa9 rfl rfl)<|Zt kH fun a G=>?_
 refine Xj G rfl (fun aO=>?_) (fun aO=>?_)
 ·have b2:=aO;have aO:=Q2 aO
  have jH:k<winN rr p:=by have h9:=aO;rw [fR] at h9;omega
  obtain ⟨u9,mJ⟩:=Xf (l:=c.gs) (k:=p.toNat+k) (by omega)
  have nI:=X92 c rr p k
  have mK:q.length≤1000000+k:=by rw [hq,Qh];omega
  refine Q7<|kG _ _<|Q5 fun _ iH=>?_;refine Q8<|Zs G fun _ kI=>?_;refine Zm rfl<|Zm rfl<|Zf (Vc (Y05 _ Arr crr rr B.top x (by omega)) Xmk) ?_;rintro _ pT ⟨rfl,e⟩;have L:=L.below e;have z:=z.below e;have J:=J.below e;have g:=g.below e;have B:=B.below e;have A:=A.below e;have aB:=aB.below e;have i:=btr i e;refine Ze (X0x rfl)<|Zt kI fun a G=>?_
  refine Xj G rfl (fun cE=>?_) (fun cE=>?_)
  ·have j1:=cE
   have hT:hasB rr (p+(k:Int))=false:=by have h9:=cE;rw [hx] at h9;exact bn1 h9
   refine X0d none (fun j=>[8,10].contains j) mixed ?_;intro pU e;have L:=L.below e;have z:=z.below e;have J:=J.below e;have g:=g.below e;have B:=B.below e;have A:=A.below e;have aB:=aB.below e;have i:=btr i e;refine Yb G<|Yo 0 rfl (fun _=>Vd rfl X1w 2)<|Ye 1 rfl (X0 rfl X0m (J.at 2))<|Yo 2 rfl (fun _=>Vd rfl X0g 1)<|Ye 3 rfl (X0 rfl X0m (L.at 1))<|Yo 4 rfl (fun _=>Xa rfl)<|Yi (k:=(p.toNat+k)) (u:=u9) (enc:=encG) (l:=c.gs) 5 rfl trivial rfl rfl Xb X0h X9 g mJ (by omega) ?_;intro nJ j2;refine Ye 6 rfl (Xw (l:=[vi u9.k,vi u9.a,vi u9.b]) rfl X0f j2 rfl)<|Y1 7 ?_;refine Yk rfl trivial (X5 (k:=1) (vs:=[.agg #[vi u9.k,vi u9.a,vi u9.b]]) (zs:=[vi u9.k,vi u9.a,vi u9.b]) rfl Xb Xk rfl rfl) (fun _ _ ⟨_,_,_,h,_⟩=>h) ?_;rintro _ pV ⟨nK,rfl,dA,e,fD⟩;have mT:=Q0 i.size dA;have lE:=g.away dA;have kJ:=A.away dA;have f8:=aB.away dA;have L:=L.below e;have z:=z.below e;have J:=J.below e;have g:=g.below e;have B:=B.below e;have A:=A.below e;have aB:=aB.below e;have i:=btr i e;refine Y1 8<|Yt rfl trivial rfl (X0v (enc:=encG) (l:=(q)) (l2:=([u9])) (B0:=w0.heap.size) rfl rfl Xb Xk X9 X07 aB (Rd.of_blk fD rfl _ fD.lt) (by simp only [maxLen];simp;omega) (by simp;omega) i.size) ?_;rintro _ pW ⟨iI,iJ,rfl,fE,hg,o⟩
   have cF:Own _ w0.heap.size 115 3 encG _ _ (q):=aB
   have jG:=o _ fD.lt f8;have fF:=Apart.app A aN o;clear o;have L:=L.appT cF hg rfl;have z:=z.appT cF hg rfl;have J:=J.appT cF hg rfl;have g:=g.appB cF hg (Qb _);have B:=B.appT cF hg rfl;have A:=A.appP hg aN;have i:=Below.app i cF hg (Qb _) i.size;clear cF hg;refine Yo 9 rfl (fun _=>Vd rfl X1w 2)<|Y1 10 ?_;refine Yh rfl trivial rfl (Vu (vs:=[.slice iI (q++([u9])).length iJ]) (l':=[vi p,.slice aC ((c.gs.take (N+1)).drop p.toNat).length aE,.slice iI (q++([u9])).length iJ]) rfl rfl X82 J) ?_;rintro _ pX ⟨E,hb⟩;have y:=J;have L:=L.only E (Blk.ne L y rfl);have z:=z.only E (by omega);have g:=g.onlyT E y rfl;have B:=B.onlyT E y rfl;have A:=A.onlyT E y rfl;have fE:=fE.onlyT E y rfl;have i:=Below.only i E cW;have J:=hb;refine Yd fun a G=>?_;refine Xq<|iH _ _<|Zr G<|Zm rfl<|Ze (X00 rfl rfl (by omega) (by omega))<|Za rfl ?_;refine Zn fun a G=>?_;refine Xo ?_;exact ⟨(k+1,x+1,(q++[u9])),⟨iI,iJ,G.sb,(by omega),(by omega),(Xij lH hq hT mJ),L,z,J,g,B,A,fE,aX,fF,i⟩,(by first|omega|(dsimp only;omega))⟩
  have j1:=cE
  have hT:hasB rr (p+(k:Int))=true:=by have h9:=cE;rw [hx] at h9;exact bn2 h9
  refine Q7<|Xq<|iH _ _<|Zr G ?_;refine Zm rfl<|Ze (X00 rfl rfl (by omega) (by omega))<|Za rfl ?_;refine Zn fun a G=>?_;refine Xo ?_;exact ⟨(k+1,x+1,q),⟨bN,cD,G.sb,(by omega),(by omega),(Xdt hq hT),L,z,J,g,B,A,aB,aX,aN,i⟩,(by first|omega|(dsimp only;omega))⟩
 have b2:=aO;have aO:=Q1 aO
 have jH:k=winN rr p:=by have h9:=aO;rw [fR] at h9;omega
 have iK:=Xfw hq jH
 have iM:(newR c p rr ws).old=_:=Xf3 lH fR lG
 have nL:=X92 c rr p k
 have mK:q.length≤1000000+1000000000:=by rw [hq,Qh];omega
 refine Q9<|Xn<|Xn<|X06 ?_;refine kE _ _<|Q5 fun _ kK=>?_;refine Q5 fun _ kL=>?_;refine X0l (fun a w=>Fr a 96 [(8,.pointer (some ⟨b9,0,none⟩)),(15,.pointer (some ⟨b52,0,none⟩)),(93,.bool ((decide (40<(((c.gs.take (N+1)).drop p.toNat).length:Int)))||(decide (40<(q.length:Int)))))]∧nB=w) ?_ ?_
 ·refine Zr G<|Ze (Vd rfl X1z 1)<|Ze (X0 rfl X0m (J.at 1))<|Ze (X0p rfl Xb)<|Ze (X36 rfl rfl)<|Zm rfl ?_
  refine Zg 88 rfl (fun Q=>?_) (fun Q=>?_)
  ·refine Zp (gP Q) ?_;refine Zp (gP Q) ?_;refine Zp (gP Q) ?_;refine Zp (gP Q) ?_;refine Ze (Xl rfl Q rfl) ?_;refine Zn fun a G=>?_;exact ⟨G.sub ⟨rfl,rfl,X1 rfl (by first|rfl|(simp only [H,b2,Q,bs];done)|simp [H,b2,Q]),trivial⟩,rfl⟩
  refine Zv (gW Q) (Vd rfl X1w 2) ?_;refine Zv (gW Q) (X0 rfl X0m (J.at 2)) ?_;refine Zv (gW Q) (X0p rfl Xb) ?_;refine Zv (gW Q) (X36 rfl rfl) ?_;refine Ze (Xe rfl Q rfl) ?_;refine Zn fun a G=>?_;exact ⟨G.sub ⟨rfl,rfl,X1 rfl (by first|rfl|(simp only [H,b2,Q,bs];done)|simp [H,b2,Q]),trivial⟩,rfl⟩
 rintro a _ ⟨G,rfl⟩;refine kL _ _ ?_
 refine Xj G rfl (fun cG=>?_) (fun cG=>?_)
 ·have j3:=cG
  have h9:40<(newR c p rr ws).old.length∨40<(newR c p rr ws).new.length:=by rw [iM,iK];have h8:=cG;simp only [Bool.or_eq_true,Qr] at h8;omega
  have bR:=Xjf j6 h9;refine Zs G fun _ kM=>?_;refine Ze (Xg (ps:=[]) (cs:=[vi 0,.slice none 0 0,.slice none 0 0]) rfl (fun _=>by first|rfl|kernel_rfl))<|Zo (Vw [vi 0,.slice none 0 0,.slice none 0 0] X15 z) ?_;rintro _ pY ⟨E,hb⟩;have y:=z;have i:=Below.only i E fG;have z:=hb;refine Za rfl<|Zt kM fun a G=>?_;refine Q6<|X2<|X3 G (X0w G rfl (ResV.cellN (l:=[vi 0,.slice none 0 0,.slice none 0 0]) rfl X1h (z.at 0) rfl) rfl) ?_
  rw [bR]
  exact ⟨none,0,none,0,rfl,(Own.nil _ _ _ _ _),(Own.nil _ _ _ _ _),(Apart.none_l _),i⟩
 have j3:=cG
 have h9:¬ (40<(newR c p rr ws).old.length∨40<(newR c p rr ws).new.length):=by rw [iM,iK];have h8:=cG;simp only [Bool.or_eq_false_iff,decide_eq_false_iff_not] at h8;omega
 have bR:=Xj4 j6 h9;refine Q7<|kK _ _<|Zs G fun _ kN=>?_;refine Ze (Vn X1h J)<|Zo (Vw [vi p,.slice aC ((c.gs.take (N+1)).drop p.toNat).length aE,.slice bN q.length cD] X15 z) ?_;rintro _ pZ ⟨E,hb⟩;have y:=z;have A:=A.onlyT E y rfl;have aB:=aB.onlyT E y rfl;have i:=Below.only i E fG;have z:=hb;refine Za rfl<|Zt kN fun a G=>?_
 refine Q6 (X3 G (X0w G rfl (ResV.cellN (l:=[vi p,.slice aC ((c.gs.take (N+1)).drop p.toNat).length aE,.slice bN q.length cD]) rfl X1h (z.at 0) rfl) rfl) ?_)
 rw [bR]
 simp only [Qq]
 rw [iM,iK]
 exact ⟨aC,aE,bN,cD,rfl,A,aB,aN,i⟩
theorem Xyk(w0:World)(n:PowT w0) : Ret Tryz.prog 49 [] w0 (fun v w=>∃ b1 F1 A1 c1 z1 b2 F2 A2 c2 z2,v=.agg #[.map none,.slice none 0 0,.map (some b1),.slice A1 (List.length (α:=Int) z1) c1,.map (some b2),.slice A2 (List.length (α:=Int) z2) c2]∧MapS w b1 (sgF F1)∧DeepM w w.heap.size 115 F1∧sgL F1=(tbW 1 5).1∧MapS w b2 (sgF F2)∧DeepM w w.heap.size 115 F2∧sgL F2=(tbW 2 3).1∧Below w0.heap.size w0 w):=by
 refine enter Tryz.func49 rfl 5 rfl rfl ?_;intro a hf
 have f:=bz w0
 refine Zs hf fun _ aD=>?_;refine Zf (X8 (zs:=[.map none,.slice none 0 0,.map none,.slice none 0 0,.map none,.slice none 0 0]) Xvt rfl) ?_;rintro _ w1 ⟨b5,rfl,aE,k,b⟩;have aA:=Q0 f.size aE;have f:=btr f k;refine Zx aD fun a hf _ aF=>?_;refine Zf (Vc (Xtt _ 1 5 (by omega) (by omega) (n.of f)) Xiq) ?_;rintro _ w2 ⟨b7,aG,A7,c7,d,rfl,i,c,aH,aB,aK,k⟩;have aB:=aB.lower f.size;have b:=b.below k;have f:=btr f k;refine Zf (Vc (Xtt _ 2 3 (by omega) (by omega) (n.of f)) Xiq) ?_;rintro _ w3 ⟨b8,aI,A8,c8,e,rfl,m,j,aJ,aC,aL,k⟩;have aC:=aC.lower f.size;have b:=b.below k;have i:=i.below k;have c:=c.below k;have f:=btr f k;refine Ze (Xg (ps:=[(1,.agg #[.map (some b7),.slice A7 d.length c7]),(2,.agg #[.map (some b8),.slice A8 e.length c8])]) (cs:=[.map none,.slice none 0 0,.map (some b7),.slice A7 d.length c7,.map (some b8),.slice A8 e.length c8]) rfl (fun _=>by first|rfl|kernel_rfl))<|Ze (Xg (ps:=[(0,.agg #[.map none,.slice none 0 0,.map (some b7),.slice A7 d.length c7,.map (some b8),.slice A8 e.length c8])]) (cs:=[.map none,.slice none 0 0,.map (some b7),.slice A7 d.length c7,.map (some b8),.slice A8 e.length c8]) rfl (fun _=>by first|rfl|kernel_rfl))<|Zo (Vw [.map none,.slice none 0 0,.map (some b7),.slice A7 d.length c7,.map (some b8),.slice A8 e.length c8] Xq4 b) ?_;rintro _ w4 ⟨ho,hb⟩;have g:=b;have i:=i.only ho (i.ne g);have m:=m.only ho (m.ne g);have c:=c.onlyT ho g rfl;have j:=j.onlyT ho g rfl;have f:=Below.only f ho aA;have b:=hb;refine Zt aF fun a hf=>?_
 refine Q6 (X3 hf (Xs hf rfl (ResV.cellN (l:=[.map none,.slice none 0 0,.map (some b7),.slice A7 d.length c7,.map (some b8),.slice A8 e.length c8]) rfl Xiu (b.at 0) rfl)) ?_)
 exact ⟨b7,aG,A7,c7,d,b8,aI,A8,c8,e,rfl,i,c.top,aH,m,j.top,aJ,f⟩
theorem Y00(w0:World)(k:Int) : Ret Tryz.prog 151 [vi k] w0 (fun v w=>v=.bool (isTk k)∧Below w0.heap.size w0 w):=by
 refine enter Tryz.func151 rfl 9 rfl rfl ?_;intro a c
 have hW:=bz w0
 refine Zs c fun _ aA=>?_;refine Za rfl<|ZX aA fun a c _ aB=>?_;refine X0l (fun a w=>Fr a 9 [(2,.bool ((k==7)||(k==8)))]∧w0=w) ?_ ?_
 ·refine Zr c<|Zm rfl<|Ze (X16 rfl rfl)<|Zm rfl ?_
  refine Zg 5 rfl (fun b=>?_) (fun b=>?_)
  ·refine Zp (gP b) ?_;refine Zp (gP b) ?_;refine Ze (Xl rfl b rfl)<|Za rfl ?_;refine Zn fun a c=>?_;exact ⟨c.sub ⟨X1 rfl (by first|rfl|(simp only [b,bs];done)|simp [b]),trivial⟩,rfl⟩
  refine Zv (gW b) (Xa rfl) ?_;refine Zv (gW b) (X16 rfl rfl) ?_;refine Ze (Xe rfl b rfl)<|Za rfl ?_;refine Zn fun a c=>?_;exact ⟨c.sub ⟨X1 rfl (by first|rfl|(simp only [b,bs];done)|simp [b]),trivial⟩,rfl⟩
 rintro a _ ⟨c,rfl⟩;refine aB _ _ ?_
 refine Q6 (X3 c (Xs c rfl rfl) ?_)
 exact ⟨rfl,hW⟩
theorem Xiw(i:World)(Al:Option Addr)(cl:Nat)(l:List Gt)(j:Rd i i.heap.size 115 encG Al l)(aS:l.length≤100000000) : Ret Tryz.prog 89 [.slice Al l.length cl] i (fun v w=>v=vi ((tcN l:Nat) : Int)∧Below i.heap.size i w):=by
 refine enter Tryz.func89 rfl 20 rfl rfl ?_;intro a c
 have f:=bz i
 refine Zs c fun _ aI=>?_;refine Za rfl<|Zx aI fun a c _ aJ=>?_;refine Za rfl<|ZX aJ fun a c _ aK=>?_;refine Zs c fun _ aL=>?_;refine Zm rfl<|Ze (X0p rfl Xb)<|Zm rfl<|Zt aL fun a c=>?_;refine Q8<|X0a (σ:=Nat) (fun (k:Nat) (a:Act) (w:World)=>Fr a 20 [(3,vi ((tcN (l.take k) : Nat) : Int)),(6,.slice Al l.length cl),(7,vi (l.length:Int)),(8,vi (k:Int))]∧(k≤l.length)∧Below i.heap.size i w) (fun (k:Nat)=>l.length-k) 0 ?_ ?_
 ·exact ⟨c.sb,(Qf _),f⟩
 rintro k a w1 ⟨c,hk,f⟩;refine Zs c fun _ aM=>?_;refine Ze (X11 rfl rfl)<|ZX aM fun a c _ aN=>?_
 refine Xj c rfl (fun d=>?_) (fun d=>?_)
 ·have aC:=d;have d:=Q2 d
  obtain ⟨g,aD⟩:=Xf (l:=l) (k:=k) (by omega)
  have aO:=Xqa aD;have aP:=Xye (l.take k)
  rw [Qn] at aP
  refine Q7<|aN _ _<|Q5 fun _ aE=>?_;refine Q8<|Zs c fun _ aF=>?_;refine Zi (k:=k) (u:=g) (enc:=encG) (l:=l) trivial rfl rfl Xb X0h X9 (j.below' f) aD rfl ?_;intro aT aA;refine Ze (Xw (l:=[vi g.k,vi g.a,vi g.b]) rfl X0f aA rfl)<|Zf (X8 (zs:=[vi 0,vi 0,vi 0]) X2q rfl) ?_;rintro _ w2 ⟨aU,rfl,m,hE,e⟩;have aB:=Q0 f.size m;have aG:=(j.below' f).away m;have f:=btr f hE;refine Zo (Vw [vi g.k,vi g.a,vi g.b] X0h e) ?_;rintro _ w3 ⟨ho,hb⟩;have aR:=e;have f:=Below.only f ho aB;have e:=hb;refine Zt aF fun a c=>?_;refine Zr c<|Zm rfl<|Ze (Vd rfl X0o 0)<|Ze (X0 rfl X7 (e.at 0))<|Zf (Vc (Y00 _ g.k) Xti) ?_;rintro _ w4 ⟨rfl,hE⟩;have f:=btr f hE;refine Zf (Vc (F59 _ (isTk g.k)) Xjh) ?_;rintro _ _ ⟨rfl,rfl⟩;refine Ze (X00 rfl rfl (by omega) (by omega))<|Za rfl ?_;refine Zn fun a c=>?_;refine Xq<|aE _ _<|Zr c<|Ze (X00 rfl rfl (by omega) (by omega))<|Zm rfl ?_;refine Zn fun a c=>?_
  rw [← aO] at c
  refine Xo ?_;exact ⟨k+1,⟨c.sb,(by omega),f⟩,(by omega)⟩
 have aC:=d;have d:=Q1 d
 have aQ:l.take k=l:=Qi (by omega)
 refine Q9<|Xn<|Xn<|X06 ?_;refine aK _ _<|Zs c fun _ aH=>?_;refine Zm rfl<|Za rfl<|Zt aH fun a c=>?_
 refine Q6 (X3 c (Xs c rfl rfl) ?_)
 rw [aQ]
 exact ⟨rfl,f⟩
theorem Xvz(Q:World)(b2:Nat)(aX:ByteArray→Option Sq)(bJ:Option Addr)(bK bL:Nat)(u:MapS Q b2 (sgF aX))(o:DeepM Q Q.heap.size 115 aX)(bM:sgL aX=(tbW 1 5).1)(b3:Nat)(b6:ByteArray→Option Sq)(bN:Option Addr)(bO bP:Nat)(dL:MapS Q b3 (sgF b6))(cY:DeepM Q Q.heap.size 115 b6)(dM:sgL b6=(tbW 2 3).1)(c:Cx)(Ac:Option Addr)(cc:Nat)(q:Rd Q Q.heap.size 115 encG Ac c.gs)(bQ:c.gs.length≤cc)(p:Int)(Aqs:Option Addr)(cqs:Nat)(qs:List Int)(b:Rd Q Q.heap.size 3 encI Aqs qs)(bR:c.gs.length≤1000000000)(bS:qs.length≤1048576)(d5:runB c p qs=true→qs.length=1)(bU:PowT Q) : Ret Tryz.prog 50 [.agg #[.map none,.slice none 0 0,.map (some b2),.slice bJ bK bL,.map (some b3),.slice bN bO bP],.agg #[vi c.n,.slice Ac c.gs.length cc],vi p,.slice Aqs qs.length cqs] Q (fun v w=>∃ A9 e9 B9 f9,v=.tuple #[.agg #[vi ((shrI c p qs).getD rpZ).pos,.slice A9 ((shrI c p qs).getD rpZ).old.length e9,.slice B9 ((shrI c p qs).getD rpZ).new.length f9],.bool (shrI c p qs).isSome]∧Own w Q.heap.size 115 3 encG A9 e9 ((shrI c p qs).getD rpZ).old∧Own w Q.heap.size 115 3 encG B9 f9 ((shrI c p qs).getD rpZ).new∧Apart A9 B9∧Below Q.heap.size Q w):=by
 obtain ⟨rr,bW⟩ : ∃ rr,rr=(runP c p qs).getD []:=⟨_,rfl⟩
 obtain ⟨ro,b7⟩ : ∃ ro:Bool,ro=(runP c p qs).isSome:=⟨_,rfl⟩
 refine enter Tryz.func50 rfl 93 rfl rfl ?_;intro a D
 have z:=bz Q
 refine Zs D fun _ d6=>?_;refine Zf (X0i (zs:=[.map none,.slice none 0 0,.map (some b2),.slice bJ bK bL,.map (some b3),.slice bN bO bP]) rfl rfl) ?_;rintro _ w1 ⟨b4,rfl,d7,d,B⟩;have dN:=Q0 z.size d7;have u:=u.below d;have q:=q.below d;have b:=b.below d;have o:=o.below d;have z:=btr z d;refine Zf (X0i (zs:=[vi c.n,.slice Ac c.gs.length cc]) rfl rfl) ?_;rintro _ w2 ⟨b5,rfl,d8,d,h⟩;have dO:=Q0 z.size d8;have u:=u.below d;have B:=B.below d;have q:=q.below d;have b:=b.below d;have o:=o.below d;have z:=btr z d;refine Zf (X8 (zs:=[vi 0,.slice none 0 0,.slice none 0 0]) X3a rfl) ?_;rintro _ w3 ⟨b8,rfl,d9,d,t⟩;have aM:=Q0 z.size d9;have u:=u.below d;have B:=B.below d;have h:=h.below d;have q:=q.below d;have b:=b.below d;have o:=o.below d;have z:=btr z d;refine Za rfl<|Zx d6 fun a D _ dA=>?_;refine Ze (Vn X0y h)<|Zm rfl<|Zm rfl<|Zf (X26 (vs:=[.agg #[vi c.n,.slice Ac c.gs.length cc],vi p,.slice Aqs qs.length cqs]) rfl Xcx (by have hq:=Xp5 w3 c Ac cc q.top p Aqs cqs qs b.top bR bS;rw [← bW,← b7] at hq;exact hq)) ?_;rintro _ w4 ⟨b9,bC,rfl,aN,d⟩;have aN:=aN.lower z.size;have u:=u.below d;have B:=B.below d;have h:=h.below d;have t:=t.below d;have q:=q.below d;have b:=b.below d;have o:=o.below d;have z:=btr z d;refine Zm rfl<|Ze (X4 (vs:=[.slice b9 rr.length bC,.bool ro]) rfl rfl)<|Ze (X4 (vs:=[.slice b9 rr.length bC,.bool ro]) rfl rfl)<|Za rfl<|Za rfl<|ZX dA fun a D _ bX=>?_;refine Zs D fun _ bY=>?_
 refine Zm rfl<|Ze (X0x rfl)<|Zt bY fun a D=>?_
 refine Xj D rfl (fun U=>?_) (fun U=>?_)
 ·have E:=U
  have bZ:(runP c p qs).isSome=false:=by rw [← b7];simpa using U
  have W:shrI c p qs=none:=by unfold shrI;rw [X9e bZ];rfl
  refine Zs D fun _ c4=>?_;refine Ze (Xg (ps:=[]) (cs:=[vi 0,.slice none 0 0,.slice none 0 0]) rfl (fun _=>by first|rfl|kernel_rfl))<|Zo (Vw [vi 0,.slice none 0 0,.slice none 0 0] X15 t) ?_;rintro _ w5 ⟨N,hb⟩;have C:=t;have z:=Below.only z N aM;have t:=hb;refine Za rfl<|Zt c4 fun a D=>?_;refine Q6<|X2<|X3 D (X0w D rfl (ResV.cellN (l:=[vi 0,.slice none 0 0,.slice none 0 0]) rfl X1h (t.at 0) rfl) rfl) ?_
  rw [W]
  exact ⟨none,0,none,0,rfl,(Own.nil _ _ _ _ _),(Own.nil _ _ _ _ _),(Apart.none_l _),z⟩
 have E:=U
 obtain ⟨aD,aO,bD⟩:=X8g (c:=c) (p:=p) (qs:=qs) (by rw [← b7];simpa using U)
 have aH:rr=runL c p qs:=by rw [bW,bD];rfl
 have aA:=d5 aO
 have dP:rr.length≤6:=by rw [aH];exact X7s ..
 obtain ⟨dR,dS,dB⟩:=X8n aD aO
 have cA:∀ i ∈ rr,∃ j:Nat,i=(j:Int)∧j<c.gs.length:=fun i hi=>by rw [aH] at hi;obtain ⟨j,h1,h2,_⟩:=X53 aO i hi;exact ⟨j,h1,h2⟩
 have dQ:=X39 c rr;obtain ⟨dC,cB,M9,aE,cC,cD,cE,dD,dT⟩:=Xo2 aD aO
 rw [← aH] at dC cB aE
 have cF:opI ⟨(qs.length:Int),mapI (gatL c rr) (numbI qs)⟩=some M9:=by rw [cB];exact aE
 have cG:=Xfs (fun g hg=>(X6q aD aO g (by rw [← aH];exact hg)).1) (X14 aD).1.2
 rw [aA] at cD cE
 obtain ⟨cH,dE⟩:=Xo8 (n:=1) (by omega) cC cD cE dD
 rw [show KN 1=5 from rfl] at cH
 obtain ⟨wo,cJ⟩ : ∃ wo,wo=(tbW 1 5).1 (keyM M9):=⟨_,rfl⟩
 have aP:wo=srW 1 M9:=cJ.trans cH
 have dF:(wo.getD []).length≤8∧∀ g ∈ wo.getD [],g ∈ gsT 1:=by
  cases e:wo with
  | none=>exact ⟨Qf _,fun g hg=>by cases hg⟩
  | some w9=>have h9:=X5q (aP.symm.trans e);have:=X9j 1;exact ⟨by show w9.length≤8;omega,h9.2⟩
 have dG:=Xd8 (n:=1) (by omega) dF.2
 have cK:shrI c p qs=plX c p qs rr:=by unfold shrI;rw [bD,aH];rfl
 refine Q7<|bX _ _<|Zs D fun _ cL=>?_;refine Ze (Vn X0y h)<|Zm rfl<|Zf (Vc (Xu9 _ c Ac cc q.top b9 bC rr aN.rd.top (by omega) cA) Xjo) ?_;rintro _ w6 ⟨cM,cN,rfl,x,d⟩;have x:=x.lower z.size;have u:=u.below d;have B:=B.below d;have h:=h.below d;have t:=t.below d;have q:=q.below d;have b:=b.below d;have o:=o.below d;have z:=btr z d;refine Za rfl<|Zx cL fun a D _ cO=>?_;refine Zm rfl<|Ze (X0p rfl X0b)<|Zm rfl<|Zm rfl<|Zf (Vc (F49 _ Aqs cqs qs b.top dB (by omega)) Xu0) ?_;rintro _ w7 ⟨dH,dI,rfl,aQ,d⟩;have aQ:=aQ.lower z.size;have u:=u.below d;have B:=B.below d;have h:=h.below d;have t:=t.below d;have q:=q.below d;have b:=b.below d;have x:=x.below d;have o:=o.below d;have z:=btr z d;refine Zf (Vc (F51 _ cM cN (gatL c rr) x.rd.top dH dI (numbI qs) aQ.rd.top 5 cG (X74 _) (by omega)) Xiz) ?_;rintro _ w8 ⟨aY,aZ,rfl,aF,d⟩;have bG:=x.apart aF (Qb _);have aF:=aF.lower z.size;have u:=u.below d;have B:=B.below d;have h:=h.below d;have t:=t.below d;have q:=q.below d;have b:=b.below d;have x:=x.below d;have o:=o.below d;have z:=btr z d;refine Ze (Xg (ps:=[(0,vi (qs.length:Int)),(1,.slice aY (mapI (gatL c rr) (numbI qs)).length aZ)]) (cs:=[vi (qs.length:Int),.slice aY (mapI (gatL c rr) (numbI qs)).length aZ]) rfl (fun _=>by first|rfl|kernel_rfl))<|Zf (X26 (vs:=[.agg #[vi (qs.length:Int),.slice aY (mapI (gatL c rr) (numbI qs)).length aZ]]) rfl Xts (by have hq:=F97 w8 (⟨(qs.length:Int),(mapI (gatL c rr) (numbI qs))⟩ : Cx) aY aZ aF.rd.top (by show (mapI (gatL c rr) (numbI qs)).length≤_;unfold mapI;rw [Qo];omega);rw [cF,Qq,Option.isSome_some] at hq;exact hq)) ?_;rintro _ w9 ⟨aR,aS,rfl,aB,d⟩
 have u:=u.below d;have B:=B.below d;have h:=h.below d;have t:=t.below d;have q:=q.below d;have b:=b.below d;have x:=x.below d;have o:=o.below d;have z:=btr z d;refine Zm rfl<|Ze (X4 (vs:=[.agg #[vi M9.rows,vi M9.cols,.slice aR M9.cells.length aS],.bool true]) rfl rfl)<|Ze (X4 (vs:=[.agg #[vi M9.rows,vi M9.cols,.slice aR M9.cells.length aS],.bool true]) rfl rfl)<|Zf (X8 (zs:=[vi 0,vi 0,.slice none 0 0]) X1o rfl) ?_;rintro _ dU ⟨dW,rfl,cP,d,aG⟩;have bE:=Q0 z.size cP;have u:=u.below d;have B:=B.below d;have h:=h.below d;have t:=t.below d;have q:=q.below d;have b:=b.below d;have x:=x.below d;have aB:=aB.below d;have o:=o.below d;have z:=btr z d;refine Zo (Vw [vi M9.rows,vi M9.cols,.slice aR M9.cells.length aS] X18 aG) ?_;rintro _ dJ ⟨N,hb⟩;have C:=aG;have u:=u.only N (u.ne C);have B:=B.only N (Blk.ne B C rfl);have h:=h.only N (Blk.ne h C rfl);have t:=t.only N (Blk.ne t C rfl);have q:=q.onlyT N C rfl;have b:=b.onlyT N C rfl;have x:=x.onlyT N C rfl;have aB:=aB.onlyT N C rfl;have o:=o.onlyT N C rfl;have z:=Below.only z N bE;have aG:=hb;refine Za rfl<|Zx cO fun a D _ cQ=>?_;refine Ze (Vn X0j aG)<|Zf (X26 (vs:=[.agg #[vi M9.rows,vi M9.cols,.slice aR M9.cells.length aS]]) rfl X8s (by have hq:=Xi0 dJ M9 aR aS aB.top (X5g cC) (bU.of z);rw [dE] at hq;exact hq)) ?_;rintro _ w12 ⟨rfl,d⟩;have u:=u.below d;have B:=B.below d;have h:=h.below d;have t:=t.below d
 have q:=q.below d;have b:=b.below d;have x:=x.below d;have o:=o.below d;have z:=btr z d;refine Zm rfl<|Ze (X4 (vs:=[.string (keyM M9),.bool true]) rfl rfl)<|Ze (X4 (vs:=[.string (keyM M9),.bool true]) rfl rfl)<|Za rfl<|Za rfl<|Zx cQ fun a D _ cR=>?_;refine Zm rfl<|Ze (Vx (X0p rfl X0b) (show _=(1:Int) from (by rw [aA];rfl)))<|Ze (Vd rfl Xat 0)<|Ze (Xbo (k:=1) (sz:=2) rfl rfl Tryz.underlying83 X93 rfl (by decide) (m:=2) rfl)<|Ze (Vd rfl X5b 2)<|Ze (X0 rfl X8l (B.at 2))<|Zm rfl ?_;obtain ⟨aT,aU,b0,b1,G⟩:=Xda o (keyM M9)
 rw [bM,← cJ] at b0 b1 G
 refine Ze (Xh0 (f:=aX) rfl rfl Tryz.underlying71 Tryz.underlying9 Xne u b0 b1)<|Zm rfl<|Ze (X4 (vs:=[.slice aT ((wo).getD []).length aU,.bool ((wo).isSome)]) rfl rfl)<|Ze (X4 (vs:=[.slice aT ((wo).getD []).length aU,.bool ((wo).isSome)]) rfl rfl)<|Za rfl<|Za rfl<|ZX cR fun a D _ cS=>?_;refine Q5 fun _ cT=>?_;refine X0l (fun a w=>Fr a 93 [(2,vi p),(3,.slice Aqs qs.length cqs),(5,.pointer (some ⟨b5,0,none⟩)),(8,.pointer (some ⟨b8,0,none⟩)),(17,.slice aT ((wo).getD []).length aU),(82,.bool (((!((wo).isSome))||(decide (((gatL c rr).length:Int)≤(((wo).getD []).length:Int))))||(decide (((tcN (gatL c rr) : Nat) : Int)<((tcN ((wo).getD []) : Nat) : Int)))))]∧Below w12.heap.size w12 w) ?_ ?_
 ·have aC:Below w12.heap.size w12 w12:=Below.refl _ _
  refine Zr D<|Zm rfl<|Ze (X0x rfl)<|Zm rfl<|Zv (gW rfl) (Xa rfl) ?_;refine Zv (gW rfl) (X0x rfl) ?_;refine Ze (Xe rfl rfl rfl)<|Zm rfl<|Zv (gW rfl) (Xa rfl) ?_;refine Zv (gW rfl) (X0x rfl) ?_;refine Ze (Xe rfl rfl rfl)<|Zm rfl ?_
  refine Zg 69 rfl (fun y=>?_) (fun y=>?_)
  ·refine Zp (gP y) ?_;refine Zp (gP y) ?_;refine Zp (gP y) ?_;refine Zp (gP y) ?_;refine Zp (gP y) ?_;refine Ze (Xl rfl y rfl)<|Zm rfl<|Zp (gP rfl) ?_;refine Zp (gP rfl) ?_;refine Zp (gP rfl) ?_;refine Zp (gP rfl) ?_;refine Zp (gP rfl) ?_;refine Ze (Xl rfl rfl rfl) ?_;refine Zn fun a D=>?_
   have aW:Below w12.heap.size w12 w12:=aC
   exact ⟨D.sub ⟨rfl,rfl,rfl,rfl,rfl,X1 rfl (by first|rfl|(simp only [E,y,bs];done)|simp [E,y]),trivial⟩,aW⟩
  refine Zv (gW y) (Xa rfl) ?_;refine Zv (gW y) (X0p rfl Xb) ?_;refine Zv (gW y) (Xa rfl) ?_;refine Zv (gW y) (X0p rfl Xb) ?_;refine Zv (gW y) (Xae rfl rfl) ?_;refine Ze (Xe rfl y rfl)<|Zm rfl ?_
  refine Zg 76 rfl (fun A=>?_) (fun A=>?_)
  ·refine Zp (gP A) ?_;refine Zp (gP A) ?_;refine Zp (gP A) ?_;refine Zp (gP A) ?_;refine Zp (gP A) ?_;refine Ze (Xl rfl A rfl) ?_;refine Zn fun a D=>?_
   have aW:Below w12.heap.size w12 w12:=aC
   exact ⟨D.sub ⟨rfl,rfl,rfl,rfl,rfl,X1 rfl (by first|rfl|(simp only [E,y,A,bs];done)|simp [E,y,A]),trivial⟩,aW⟩
  refine Zv (gW A) (Xa rfl) ?_;refine Zk (gW A) (Vc (Xiw _ aT aU ((wo).getD []) G.top (by omega)) X8i) ?_;rintro _ dX ⟨rfl,d⟩;have x:=x.below d;have z:=btr z d;have aC:=btr aC d;refine Zv (gW A) (Xa rfl) ?_;refine Zk (gW A) (Vc (Xiw _ cM cN (gatL c rr) x.rd.top (by omega)) X8i) ?_;rintro _ w14 ⟨rfl,d⟩;have z:=btr z d;have aC:=btr aC d;refine Zv (gW A) (X36 rfl rfl) ?_;refine Ze (Xe rfl A rfl) ?_;refine Zn fun a D=>?_
  have aW:Below w12.heap.size w12 w14:=aC
  exact ⟨D.sub ⟨rfl,rfl,rfl,rfl,rfl,X1 rfl (by first|rfl|(simp only [E,y,A,bs];done)|simp [E,y,A]),trivial⟩,aW⟩
 rintro a dY ⟨D,d⟩;have h:=h.below d;have t:=t.below d;have q:=q.below d;have b:=b.below d;have G:=G.below d;have z:=btr z d;refine cT _ _ ?_
 refine Xj D rfl (fun H=>?_) (fun H=>?_)
 ·have bF:=H
  have W:shrI c p qs=none:=by
   rw [cK]
   refine X5m aE fun w9 h9=>?_
   rw [aA,← aP] at h9
   rw [h9] at H
   intro h8
   revert H
   simp [X39]
   omega
  refine Zs D fun _ cU=>?_;refine Ze (Xg (ps:=[]) (cs:=[vi 0,.slice none 0 0,.slice none 0 0]) rfl (fun _=>by first|rfl|kernel_rfl))<|Zo (Vw [vi 0,.slice none 0 0,.slice none 0 0] X15 t) ?_;rintro _ eA ⟨N,hb⟩;have C:=t;have z:=Below.only z N aM;have t:=hb;refine Za rfl<|Zt cU fun a D=>?_;refine Q6<|X2<|X3 D (X0w D rfl (ResV.cellN (l:=[vi 0,.slice none 0 0,.slice none 0 0]) rfl X1h (t.at 0) rfl) rfl) ?_
  rw [W]
  exact ⟨none,0,none,0,rfl,(Own.nil _ _ _ _ _),(Own.nil _ _ _ _ _),(Apart.none_l _),z⟩
 have bF:=H
 have dK:wo=some (wo.getD []):=Xdf (by have h9:=H;revert h9;cases wo.isSome<;>simp)
 have W:shrI c p qs=repX c p rr qs (mapI (wo.getD []) qs):=by
  rw [cK]
  refine X8p aE (by rw [aA,← aP];exact dK) ?_;have h9:=H
  simp [X39] at h9
  omega
 refine Q7<|cS _ _<|Q5 fun _ cV=>?_;refine X0d none (fun j=>[9].contains j) mixed ?_;intro eB d;have h:=h.below d;have t:=t.below d;have q:=q.below d;have b:=b.below d;have G:=G.below d;have z:=btr z d;refine Yb D<|Ye 0 rfl (Vn X0y h)<|Yo 1 rfl (fun _=>Xa rfl)<|Yo 2 rfl (fun _=>Xa rfl)<|Yo 3 rfl (fun _=>Xa rfl)<|Yo 4 rfl (fun _=>Xa rfl)<|Y1 5 ?_;refine Yk rfl trivial (Vc (F51 _ aT aU ((wo).getD []) G.top Aqs cqs qs b.top 1 dG aA (by omega)) Xiz) (fun _ _ ⟨cW,cX,_,L,d⟩=>d) ?_;rintro _ eC ⟨cW,cX,rfl,L,d⟩;have L:=L.lower z.size;have t:=t.below d;have q:=q.below d;have b:=b.below d;have z:=btr z d;refine Y1 6<|Yk rfl trivial (Vc (Xtn _ c Ac cc q.top bQ p Aqs cqs qs b.top cW cX (mapI ((wo).getD []) qs) L.rd.top bR (by unfold mapI;rw [Qo];omega) bS) Xj6) (fun _ _ ⟨aI,aJ,aK,aL,_,I,J,M,d⟩=>d) ?_;rintro _ eD ⟨aI,aJ,aK,aL,rfl,I,J,M,d⟩;have bH:=L.apart I (Qb _);have I:=I.lower z.size;have bI:=L.apart J (Qb _);have J:=J.lower z.size;have t:=t.below d;have z:=btr z d;refine Yo 7 rfl (fun _=>X4 (vs:=[.agg #[vi ((((runP c p qs).bind fun run=>repX c p run qs (mapI ((wo).getD []) qs)).getD rpZ).pos),.slice aI ((((runP c p qs).bind fun run=>repX c p run qs (mapI ((wo).getD []) qs)).getD rpZ).old).length aJ,.slice aK ((((runP c p qs).bind fun run=>repX c p run qs (mapI ((wo).getD []) qs)).getD rpZ).new).length aL],.bool (((runP c p qs).bind fun run=>repX c p run qs (mapI ((wo).getD []) qs)).isSome)]) rfl rfl)<|Yo 8 rfl (fun _=>X4 (vs:=[.agg #[vi ((((runP c p qs).bind fun run=>repX c p run qs (mapI ((wo).getD []) qs)).getD rpZ).pos),.slice aI ((((runP c p qs).bind fun run=>repX c p run qs (mapI ((wo).getD []) qs)).getD rpZ).old).length aJ,.slice aK ((((runP c p qs).bind fun run=>repX c p run qs (mapI ((wo).getD []) qs)).getD rpZ).new).length aL],.bool (((runP c p qs).bind fun run=>repX c p run qs (mapI ((wo).getD []) qs)).isSome)]) rfl rfl)<|Y1 9 ?_
 refine Yh rfl trivial rfl (Vw [vi ((((runP c p qs).bind fun run=>repX c p run qs (mapI ((wo).getD []) qs)).getD rpZ).pos),.slice aI ((((runP c p qs).bind fun run=>repX c p run qs (mapI ((wo).getD []) qs)).getD rpZ).old).length aJ,.slice aK ((((runP c p qs).bind fun run=>repX c p run qs (mapI ((wo).getD []) qs)).getD rpZ).new).length aL] X15 t) ?_;rintro _ eE ⟨N,hb⟩;have C:=t;have I:=I.onlyT N C rfl;have J:=J.onlyT N C rfl;have z:=Below.only z N aM;have t:=hb;refine Yo 10 rfl (fun _=>X19 rfl) ?_;refine Yd fun a D=>?_;refine cV _ _ ?_
 refine Q6 (X3 D (X0w D rfl (ResV.cellN (l:=[vi ((((runP c p qs).bind fun run=>repX c p run qs (mapI ((wo).getD []) qs)).getD rpZ).pos),.slice aI ((((runP c p qs).bind fun run=>repX c p run qs (mapI ((wo).getD []) qs)).getD rpZ).old).length aJ,.slice aK ((((runP c p qs).bind fun run=>repX c p run qs (mapI ((wo).getD []) qs)).getD rpZ).new).length aL]) rfl X1h (t.at 0) rfl) rfl) ?_)
 rw [W,show repX c p rr qs (mapI (wo.getD []) qs)=(runP c p qs).bind (fun run=>repX c p run qs (mapI (wo.getD []) qs)) from by rw [bD,aH];rfl]
 exact ⟨aI,aJ,aK,aL,rfl,I,J,M,z⟩
theorem Xxc(Q:World)(b2:Nat)(b3:ByteArray→Option Sq)(bJ:Option Addr)(bK bL:Nat)(dL:MapS Q b2 (sgF b3))(cY:DeepM Q Q.heap.size 115 b3)(dM:sgL b3=(tbW 1 5).1)(b6:Nat)(aX:ByteArray→Option Sq)(bM:Option Addr)(bN bO:Nat)(u:MapS Q b6 (sgF aX))(o:DeepM Q Q.heap.size 115 aX)(bP:sgL aX=(tbW 2 3).1)(c:Cx)(Ac:Option Addr)(cc:Nat)(q:Rd Q Q.heap.size 115 encG Ac c.gs)(bQ:c.gs.length≤cc)(p:Int)(Aqs:Option Addr)(cqs:Nat)(qs:List Int)(b:Rd Q Q.heap.size 3 encI Aqs qs)(bR:c.gs.length≤1000000000)(bS:qs.length≤1048576)(d5:runB c p qs=true→qs.length=2)(bU:PowT Q) : Ret Tryz.prog 50 [.agg #[.map none,.slice none 0 0,.map (some b2),.slice bJ bK bL,.map (some b6),.slice bM bN bO],.agg #[vi c.n,.slice Ac c.gs.length cc],vi p,.slice Aqs qs.length cqs] Q (fun v w=>∃ A9 e9 B9 f9,v=.tuple #[.agg #[vi ((shrI c p qs).getD rpZ).pos,.slice A9 ((shrI c p qs).getD rpZ).old.length e9,.slice B9 ((shrI c p qs).getD rpZ).new.length f9],.bool (shrI c p qs).isSome]∧Own w Q.heap.size 115 3 encG A9 e9 ((shrI c p qs).getD rpZ).old∧Own w Q.heap.size 115 3 encG B9 f9 ((shrI c p qs).getD rpZ).new∧Apart A9 B9∧Below Q.heap.size Q w):=by
 obtain ⟨rr,bW⟩ : ∃ rr,rr=(runP c p qs).getD []:=⟨_,rfl⟩
 obtain ⟨ro,b7⟩ : ∃ ro:Bool,ro=(runP c p qs).isSome:=⟨_,rfl⟩
 refine enter Tryz.func50 rfl 93 rfl rfl ?_;intro a D
 have z:=bz Q
 refine Zs D fun _ d6=>?_;refine Zf (X0i (zs:=[.map none,.slice none 0 0,.map (some b2),.slice bJ bK bL,.map (some b6),.slice bM bN bO]) rfl rfl) ?_;rintro _ w1 ⟨b4,rfl,d7,d,B⟩;have dN:=Q0 z.size d7;have u:=u.below d;have q:=q.below d;have b:=b.below d;have o:=o.below d;have z:=btr z d;refine Zf (X0i (zs:=[vi c.n,.slice Ac c.gs.length cc]) rfl rfl) ?_;rintro _ w2 ⟨b5,rfl,d8,d,h⟩;have dO:=Q0 z.size d8;have u:=u.below d;have B:=B.below d;have q:=q.below d;have b:=b.below d;have o:=o.below d;have z:=btr z d;refine Zf (X8 (zs:=[vi 0,.slice none 0 0,.slice none 0 0]) X3a rfl) ?_;rintro _ w3 ⟨b8,rfl,d9,d,t⟩;have aM:=Q0 z.size d9;have u:=u.below d;have B:=B.below d;have h:=h.below d;have q:=q.below d;have b:=b.below d;have o:=o.below d;have z:=btr z d;refine Za rfl<|Zx d6 fun a D _ dA=>?_;refine Ze (Vn X0y h)<|Zm rfl<|Zm rfl<|Zf (X26 (vs:=[.agg #[vi c.n,.slice Ac c.gs.length cc],vi p,.slice Aqs qs.length cqs]) rfl Xcx (by have hq:=Xp5 w3 c Ac cc q.top p Aqs cqs qs b.top bR bS;rw [← bW,← b7] at hq;exact hq)) ?_;rintro _ w4 ⟨b9,bC,rfl,aN,d⟩;have aN:=aN.lower z.size;have u:=u.below d;have B:=B.below d;have h:=h.below d;have t:=t.below d;have q:=q.below d;have b:=b.below d;have o:=o.below d;have z:=btr z d;refine Zm rfl<|Ze (X4 (vs:=[.slice b9 rr.length bC,.bool ro]) rfl rfl)<|Ze (X4 (vs:=[.slice b9 rr.length bC,.bool ro]) rfl rfl)<|Za rfl<|Za rfl<|ZX dA fun a D _ bX=>?_;refine Zs D fun _ bY=>?_
 refine Zm rfl<|Ze (X0x rfl)<|Zt bY fun a D=>?_
 refine Xj D rfl (fun U=>?_) (fun U=>?_)
 ·have E:=U
  have bZ:(runP c p qs).isSome=false:=by rw [← b7];simpa using U
  have W:shrI c p qs=none:=by unfold shrI;rw [X9e bZ];rfl
  refine Zs D fun _ c4=>?_;refine Ze (Xg (ps:=[]) (cs:=[vi 0,.slice none 0 0,.slice none 0 0]) rfl (fun _=>by first|rfl|kernel_rfl))<|Zo (Vw [vi 0,.slice none 0 0,.slice none 0 0] X15 t) ?_;rintro _ w5 ⟨N,hb⟩;have C:=t;have z:=Below.only z N aM;have t:=hb;refine Za rfl<|Zt c4 fun a D=>?_;refine Q6<|X2<|X3 D (X0w D rfl (ResV.cellN (l:=[vi 0,.slice none 0 0,.slice none 0 0]) rfl X1h (t.at 0) rfl) rfl) ?_
  rw [W]
  exact ⟨none,0,none,0,rfl,(Own.nil _ _ _ _ _),(Own.nil _ _ _ _ _),(Apart.none_l _),z⟩
 have E:=U
 obtain ⟨aD,aO,bD⟩:=X8g (c:=c) (p:=p) (qs:=qs) (by rw [← b7];simpa using U)
 have aH:rr=runL c p qs:=by rw [bW,bD];rfl
 have aA:=d5 aO
 have dP:rr.length≤6:=by rw [aH];exact X7s ..
 obtain ⟨dR,dS,dB⟩:=X8n aD aO
 have cA:∀ i ∈ rr,∃ j:Nat,i=(j:Int)∧j<c.gs.length:=fun i hi=>by rw [aH] at hi;obtain ⟨j,h1,h2,_⟩:=X53 aO i hi;exact ⟨j,h1,h2⟩
 have dQ:=X39 c rr;obtain ⟨dC,cB,M9,aE,cC,cD,cE,dD,dT⟩:=Xo2 aD aO
 rw [← aH] at dC cB aE
 have cF:opI ⟨(qs.length:Int),mapI (gatL c rr) (numbI qs)⟩=some M9:=by rw [cB];exact aE
 have cG:=Xfs (fun g hg=>(X6q aD aO g (by rw [← aH];exact hg)).1) (X14 aD).1.2
 rw [aA] at cD cE
 obtain ⟨cH,dE⟩:=Xo8 (n:=2) (by omega) cC cD cE dD
 rw [show KN 2=3 from rfl] at cH
 obtain ⟨wo,cJ⟩ : ∃ wo,wo=(tbW 2 3).1 (keyM M9):=⟨_,rfl⟩
 have aP:wo=srW 2 M9:=cJ.trans cH
 have dF:(wo.getD []).length≤8∧∀ g ∈ wo.getD [],g ∈ gsT 2:=by
  cases e:wo with
  | none=>exact ⟨Qf _,fun g hg=>by cases hg⟩
  | some w9=>have h9:=X5q (aP.symm.trans e);have:=X9j 2;exact ⟨by show w9.length≤8;omega,h9.2⟩
 have dG:=Xd8 (n:=2) (by omega) dF.2
 have cK:shrI c p qs=plX c p qs rr:=by unfold shrI;rw [bD,aH];rfl
 refine Q7<|bX _ _<|Zs D fun _ cL=>?_;refine Ze (Vn X0y h)<|Zm rfl<|Zf (Vc (Xu9 _ c Ac cc q.top b9 bC rr aN.rd.top (by omega) cA) Xjo) ?_;rintro _ w6 ⟨cM,cN,rfl,x,d⟩;have x:=x.lower z.size;have u:=u.below d;have B:=B.below d;have h:=h.below d;have t:=t.below d;have q:=q.below d;have b:=b.below d;have o:=o.below d;have z:=btr z d;refine Za rfl<|Zx cL fun a D _ cO=>?_;refine Zm rfl<|Ze (X0p rfl X0b)<|Zm rfl<|Zm rfl<|Zf (Vc (F49 _ Aqs cqs qs b.top dB (by omega)) Xu0) ?_;rintro _ w7 ⟨dH,dI,rfl,aQ,d⟩;have aQ:=aQ.lower z.size;have u:=u.below d;have B:=B.below d;have h:=h.below d;have t:=t.below d;have q:=q.below d;have b:=b.below d;have x:=x.below d;have o:=o.below d;have z:=btr z d;refine Zf (Vc (F51 _ cM cN (gatL c rr) x.rd.top dH dI (numbI qs) aQ.rd.top 5 cG (X74 _) (by omega)) Xiz) ?_;rintro _ w8 ⟨aY,aZ,rfl,aF,d⟩;have bG:=x.apart aF (Qb _);have aF:=aF.lower z.size;have u:=u.below d;have B:=B.below d;have h:=h.below d;have t:=t.below d;have q:=q.below d;have b:=b.below d;have x:=x.below d;have o:=o.below d;have z:=btr z d;refine Ze (Xg (ps:=[(0,vi (qs.length:Int)),(1,.slice aY (mapI (gatL c rr) (numbI qs)).length aZ)]) (cs:=[vi (qs.length:Int),.slice aY (mapI (gatL c rr) (numbI qs)).length aZ]) rfl (fun _=>by first|rfl|kernel_rfl))<|Zf (X26 (vs:=[.agg #[vi (qs.length:Int),.slice aY (mapI (gatL c rr) (numbI qs)).length aZ]]) rfl Xts (by have hq:=F97 w8 (⟨(qs.length:Int),(mapI (gatL c rr) (numbI qs))⟩ : Cx) aY aZ aF.rd.top (by show (mapI (gatL c rr) (numbI qs)).length≤_;unfold mapI;rw [Qo];omega);rw [cF,Qq,Option.isSome_some] at hq;exact hq)) ?_;rintro _ w9 ⟨aR,aS,rfl,aB,d⟩
 have u:=u.below d;have B:=B.below d;have h:=h.below d;have t:=t.below d;have q:=q.below d;have b:=b.below d;have x:=x.below d;have o:=o.below d;have z:=btr z d;refine Zm rfl<|Ze (X4 (vs:=[.agg #[vi M9.rows,vi M9.cols,.slice aR M9.cells.length aS],.bool true]) rfl rfl)<|Ze (X4 (vs:=[.agg #[vi M9.rows,vi M9.cols,.slice aR M9.cells.length aS],.bool true]) rfl rfl)<|Zf (X8 (zs:=[vi 0,vi 0,.slice none 0 0]) X1o rfl) ?_;rintro _ dU ⟨dW,rfl,cP,d,aG⟩;have bE:=Q0 z.size cP;have u:=u.below d;have B:=B.below d;have h:=h.below d;have t:=t.below d;have q:=q.below d;have b:=b.below d;have x:=x.below d;have aB:=aB.below d;have o:=o.below d;have z:=btr z d;refine Zo (Vw [vi M9.rows,vi M9.cols,.slice aR M9.cells.length aS] X18 aG) ?_;rintro _ dJ ⟨N,hb⟩;have C:=aG;have u:=u.only N (u.ne C);have B:=B.only N (Blk.ne B C rfl);have h:=h.only N (Blk.ne h C rfl);have t:=t.only N (Blk.ne t C rfl);have q:=q.onlyT N C rfl;have b:=b.onlyT N C rfl;have x:=x.onlyT N C rfl;have aB:=aB.onlyT N C rfl;have o:=o.onlyT N C rfl;have z:=Below.only z N bE;have aG:=hb;refine Za rfl<|Zx cO fun a D _ cQ=>?_;refine Ze (Vn X0j aG)<|Zf (X26 (vs:=[.agg #[vi M9.rows,vi M9.cols,.slice aR M9.cells.length aS]]) rfl X8s (by have hq:=Xi0 dJ M9 aR aS aB.top (X5g cC) (bU.of z);rw [dE] at hq;exact hq)) ?_;rintro _ w12 ⟨rfl,d⟩;have u:=u.below d;have B:=B.below d;have h:=h.below d;have t:=t.below d
 have q:=q.below d;have b:=b.below d;have x:=x.below d;have o:=o.below d;have z:=btr z d;refine Zm rfl<|Ze (X4 (vs:=[.string (keyM M9),.bool true]) rfl rfl)<|Ze (X4 (vs:=[.string (keyM M9),.bool true]) rfl rfl)<|Za rfl<|Za rfl<|Zx cQ fun a D _ cR=>?_;refine Zm rfl<|Ze (Vx (X0p rfl X0b) (show _=(2:Int) from (by rw [aA];rfl)))<|Ze (Vd rfl Xat 0)<|Ze (Xbo (k:=2) (sz:=2) rfl rfl Tryz.underlying83 X93 rfl (by decide) (m:=4) rfl)<|Ze (Vd rfl X5b 4)<|Ze (X0 rfl X8l (B.at 4))<|Zm rfl ?_;obtain ⟨aT,aU,b0,b1,G⟩:=Xda o (keyM M9)
 rw [bP,← cJ] at b0 b1 G
 refine Ze (Xh0 (f:=aX) rfl rfl Tryz.underlying71 Tryz.underlying9 Xne u b0 b1)<|Zm rfl<|Ze (X4 (vs:=[.slice aT ((wo).getD []).length aU,.bool ((wo).isSome)]) rfl rfl)<|Ze (X4 (vs:=[.slice aT ((wo).getD []).length aU,.bool ((wo).isSome)]) rfl rfl)<|Za rfl<|Za rfl<|ZX cR fun a D _ cS=>?_;refine Q5 fun _ cT=>?_;refine X0l (fun a w=>Fr a 93 [(2,vi p),(3,.slice Aqs qs.length cqs),(5,.pointer (some ⟨b5,0,none⟩)),(8,.pointer (some ⟨b8,0,none⟩)),(17,.slice aT ((wo).getD []).length aU),(82,.bool (((!((wo).isSome))||(decide (((gatL c rr).length:Int)≤(((wo).getD []).length:Int))))||(decide (((tcN (gatL c rr) : Nat) : Int)<((tcN ((wo).getD []) : Nat) : Int)))))]∧Below w12.heap.size w12 w) ?_ ?_
 ·have aC:Below w12.heap.size w12 w12:=Below.refl _ _
  refine Zr D<|Zm rfl<|Ze (X0x rfl)<|Zm rfl<|Zv (gW rfl) (Xa rfl) ?_;refine Zv (gW rfl) (X0x rfl) ?_;refine Ze (Xe rfl rfl rfl)<|Zm rfl<|Zv (gW rfl) (Xa rfl) ?_;refine Zv (gW rfl) (X0x rfl) ?_;refine Ze (Xe rfl rfl rfl)<|Zm rfl ?_
  refine Zg 69 rfl (fun y=>?_) (fun y=>?_)
  ·refine Zp (gP y) ?_;refine Zp (gP y) ?_;refine Zp (gP y) ?_;refine Zp (gP y) ?_;refine Zp (gP y) ?_;refine Ze (Xl rfl y rfl)<|Zm rfl<|Zp (gP rfl) ?_;refine Zp (gP rfl) ?_;refine Zp (gP rfl) ?_;refine Zp (gP rfl) ?_;refine Zp (gP rfl) ?_;refine Ze (Xl rfl rfl rfl) ?_;refine Zn fun a D=>?_
   have aW:Below w12.heap.size w12 w12:=aC
   exact ⟨D.sub ⟨rfl,rfl,rfl,rfl,rfl,X1 rfl (by first|rfl|(simp only [E,y,bs];done)|simp [E,y]),trivial⟩,aW⟩
  refine Zv (gW y) (Xa rfl) ?_;refine Zv (gW y) (X0p rfl Xb) ?_;refine Zv (gW y) (Xa rfl) ?_;refine Zv (gW y) (X0p rfl Xb) ?_;refine Zv (gW y) (Xae rfl rfl) ?_;refine Ze (Xe rfl y rfl)<|Zm rfl ?_
  refine Zg 76 rfl (fun A=>?_) (fun A=>?_)
  ·refine Zp (gP A) ?_;refine Zp (gP A) ?_;refine Zp (gP A) ?_;refine Zp (gP A) ?_;refine Zp (gP A) ?_;refine Ze (Xl rfl A rfl) ?_;refine Zn fun a D=>?_
   have aW:Below w12.heap.size w12 w12:=aC
   exact ⟨D.sub ⟨rfl,rfl,rfl,rfl,rfl,X1 rfl (by first|rfl|(simp only [E,y,A,bs];done)|simp [E,y,A]),trivial⟩,aW⟩
  refine Zv (gW A) (Xa rfl) ?_;refine Zk (gW A) (Vc (Xiw _ aT aU ((wo).getD []) G.top (by omega)) X8i) ?_;rintro _ dX ⟨rfl,d⟩;have x:=x.below d;have z:=btr z d;have aC:=btr aC d;refine Zv (gW A) (Xa rfl) ?_;refine Zk (gW A) (Vc (Xiw _ cM cN (gatL c rr) x.rd.top (by omega)) X8i) ?_;rintro _ w14 ⟨rfl,d⟩;have z:=btr z d;have aC:=btr aC d;refine Zv (gW A) (X36 rfl rfl) ?_;refine Ze (Xe rfl A rfl) ?_;refine Zn fun a D=>?_
  have aW:Below w12.heap.size w12 w14:=aC
  exact ⟨D.sub ⟨rfl,rfl,rfl,rfl,rfl,X1 rfl (by first|rfl|(simp only [E,y,A,bs];done)|simp [E,y,A]),trivial⟩,aW⟩
 rintro a dY ⟨D,d⟩;have h:=h.below d;have t:=t.below d;have q:=q.below d;have b:=b.below d;have G:=G.below d;have z:=btr z d;refine cT _ _ ?_
 refine Xj D rfl (fun H=>?_) (fun H=>?_)
 ·have bF:=H
  have W:shrI c p qs=none:=by
   rw [cK]
   refine X5m aE fun w9 h9=>?_
   rw [aA,← aP] at h9
   rw [h9] at H
   intro h8
   revert H
   simp [X39]
   omega
  refine Zs D fun _ cU=>?_;refine Ze (Xg (ps:=[]) (cs:=[vi 0,.slice none 0 0,.slice none 0 0]) rfl (fun _=>by first|rfl|kernel_rfl))<|Zo (Vw [vi 0,.slice none 0 0,.slice none 0 0] X15 t) ?_;rintro _ eA ⟨N,hb⟩;have C:=t;have z:=Below.only z N aM;have t:=hb;refine Za rfl<|Zt cU fun a D=>?_;refine Q6<|X2<|X3 D (X0w D rfl (ResV.cellN (l:=[vi 0,.slice none 0 0,.slice none 0 0]) rfl X1h (t.at 0) rfl) rfl) ?_
  rw [W]
  exact ⟨none,0,none,0,rfl,(Own.nil _ _ _ _ _),(Own.nil _ _ _ _ _),(Apart.none_l _),z⟩
 have bF:=H
 have dK:wo=some (wo.getD []):=Xdf (by have h9:=H;revert h9;cases wo.isSome<;>simp)
 have W:shrI c p qs=repX c p rr qs (mapI (wo.getD []) qs):=by
  rw [cK]
  refine X8p aE (by rw [aA,← aP];exact dK) ?_;have h9:=H
  simp [X39] at h9
  omega
 refine Q7<|cS _ _<|Q5 fun _ cV=>?_;refine X0d none (fun j=>[9].contains j) mixed ?_;intro eB d;have h:=h.below d;have t:=t.below d;have q:=q.below d;have b:=b.below d;have G:=G.below d;have z:=btr z d;refine Yb D<|Ye 0 rfl (Vn X0y h)<|Yo 1 rfl (fun _=>Xa rfl)<|Yo 2 rfl (fun _=>Xa rfl)<|Yo 3 rfl (fun _=>Xa rfl)<|Yo 4 rfl (fun _=>Xa rfl)<|Y1 5 ?_;refine Yk rfl trivial (Vc (F51 _ aT aU ((wo).getD []) G.top Aqs cqs qs b.top 2 dG aA (by omega)) Xiz) (fun _ _ ⟨cW,cX,_,L,d⟩=>d) ?_;rintro _ eC ⟨cW,cX,rfl,L,d⟩;have L:=L.lower z.size;have t:=t.below d;have q:=q.below d;have b:=b.below d;have z:=btr z d;refine Y1 6<|Yk rfl trivial (Vc (Xtn _ c Ac cc q.top bQ p Aqs cqs qs b.top cW cX (mapI ((wo).getD []) qs) L.rd.top bR (by unfold mapI;rw [Qo];omega) bS) Xj6) (fun _ _ ⟨aI,aJ,aK,aL,_,I,J,M,d⟩=>d) ?_;rintro _ eD ⟨aI,aJ,aK,aL,rfl,I,J,M,d⟩;have bH:=L.apart I (Qb _);have I:=I.lower z.size;have bI:=L.apart J (Qb _);have J:=J.lower z.size;have t:=t.below d;have z:=btr z d;refine Yo 7 rfl (fun _=>X4 (vs:=[.agg #[vi ((((runP c p qs).bind fun run=>repX c p run qs (mapI ((wo).getD []) qs)).getD rpZ).pos),.slice aI ((((runP c p qs).bind fun run=>repX c p run qs (mapI ((wo).getD []) qs)).getD rpZ).old).length aJ,.slice aK ((((runP c p qs).bind fun run=>repX c p run qs (mapI ((wo).getD []) qs)).getD rpZ).new).length aL],.bool (((runP c p qs).bind fun run=>repX c p run qs (mapI ((wo).getD []) qs)).isSome)]) rfl rfl)<|Yo 8 rfl (fun _=>X4 (vs:=[.agg #[vi ((((runP c p qs).bind fun run=>repX c p run qs (mapI ((wo).getD []) qs)).getD rpZ).pos),.slice aI ((((runP c p qs).bind fun run=>repX c p run qs (mapI ((wo).getD []) qs)).getD rpZ).old).length aJ,.slice aK ((((runP c p qs).bind fun run=>repX c p run qs (mapI ((wo).getD []) qs)).getD rpZ).new).length aL],.bool (((runP c p qs).bind fun run=>repX c p run qs (mapI ((wo).getD []) qs)).isSome)]) rfl rfl)<|Y1 9 ?_
 refine Yh rfl trivial rfl (Vw [vi ((((runP c p qs).bind fun run=>repX c p run qs (mapI ((wo).getD []) qs)).getD rpZ).pos),.slice aI ((((runP c p qs).bind fun run=>repX c p run qs (mapI ((wo).getD []) qs)).getD rpZ).old).length aJ,.slice aK ((((runP c p qs).bind fun run=>repX c p run qs (mapI ((wo).getD []) qs)).getD rpZ).new).length aL] X15 t) ?_;rintro _ eE ⟨N,hb⟩;have C:=t;have I:=I.onlyT N C rfl;have J:=J.onlyT N C rfl;have z:=Below.only z N aM;have t:=hb;refine Yo 10 rfl (fun _=>X19 rfl) ?_;refine Yd fun a D=>?_;refine cV _ _ ?_
 refine Q6 (X3 D (X0w D rfl (ResV.cellN (l:=[vi ((((runP c p qs).bind fun run=>repX c p run qs (mapI ((wo).getD []) qs)).getD rpZ).pos),.slice aI ((((runP c p qs).bind fun run=>repX c p run qs (mapI ((wo).getD []) qs)).getD rpZ).old).length aJ,.slice aK ((((runP c p qs).bind fun run=>repX c p run qs (mapI ((wo).getD []) qs)).getD rpZ).new).length aL]) rfl X1h (t.at 0) rfl) rfl) ?_)
 rw [W,show repX c p rr qs (mapI (wo.getD []) qs)=(runP c p qs).bind (fun run=>repX c p run qs (mapI (wo.getD []) qs)) from by rw [bD,aH];rfl]
 exact ⟨aI,aJ,aK,aL,rfl,I,J,M,z⟩
theorem Y0k(b:World)(j:Nat)(d:ByteArray→Option Sq)(aA:Option Addr)(aB aC:Nat)(l:MapS b j (sgF d))(e:DeepM b b.heap.size 115 d)(m:sgL d=(tbW 1 5).1)(k:Nat)(f:ByteArray→Option Sq)(aD:Option Addr)(aE aF:Nat)(o:MapS b k (sgF f))(g:DeepM b b.heap.size 115 f)(q:sgL f=(tbW 2 3).1)(c:Cx)(Ac:Option Addr)(cc:Nat)(t:Rd b b.heap.size 115 encG Ac c.gs)(u:c.gs.length≤cc)(p:Int)(Aqs:Option Addr)(cqs:Nat)(qs:List Int)(i:Rd b b.heap.size 3 encI Aqs qs)(aG:c.gs.length≤1000000000)(aH:qs.length≤1048576)(x:PowT b) :
  Ret Tryz.prog 50 [.agg #[.map none,.slice none 0 0,.map (some j),.slice aA aB aC,.map (some k),.slice aD aE aF],.agg #[vi c.n,.slice Ac c.gs.length cc],vi p,.slice Aqs qs.length cqs] b (fun v w=>∃ A9 e9 B9 f9,v=.tuple #[.agg #[vi ((shrI c p qs).getD rpZ).pos,.slice A9 ((shrI c p qs).getD rpZ).old.length e9,.slice B9 ((shrI c p qs).getD rpZ).new.length f9],.bool (shrI c p qs).isSome]∧Own w b.heap.size 115 3 encG A9 e9 ((shrI c p qs).getD rpZ).old∧Own w b.heap.size 115 3 encG B9 f9 ((shrI c p qs).getD rpZ).new∧Apart A9 B9∧Below b.heap.size b w):=by
 by_cases h:qs.length=2
 ·exact Xxc b j d aA aB aC l e m k f aD aE aF o g q c Ac cc t u p Aqs cqs qs i aG aH (fun _=>h) x
 ·exact Xvz b j d aA aB aC l e m k f aD aE aF o g q c Ac cc t u p Aqs cqs qs i aG aH (fun hr=>by have:=(X29 hr).1;omega) x
theorem Xzg(p:World)(c:Cx)(Ac:Option Addr)(cc:Nat)(t:Rd p p.heap.size 115 encG Ac c.gs)(lo:Int)(hi:Int)(aS:c.gs.length≤100000000) : Ret Tryz.prog 142 [.agg #[vi c.n,.slice Ac c.gs.length cc],vi lo,vi hi] p (fun v w=>v=vi ((c.gs.countP fun g=>inR g.k lo hi:Nat) : Int)∧Below p.heap.size p w):=by
 refine enter Tryz.func142 rfl 26 rfl rfl ?_;intro a d
 have i:=bz p
 refine Zs d fun _ aI=>?_;refine Zf (X0i (zs:=[vi c.n,.slice Ac c.gs.length cc]) rfl rfl) ?_;rintro _ w1 ⟨b3,rfl,aJ,hE,aK⟩;have aQ:=Q0 i.size aJ;have i:=btr i hE;refine Za rfl<|Zx aI fun a d _ aL=>?_;refine Za rfl<|ZX aL fun a d _ aM=>?_;refine Zs d fun _ aN=>?_;refine Ze (Vd rfl X0g 1)<|Ze (X0 rfl X0m (aK.at 1))<|Ze (X0p rfl Xb)<|Zm rfl<|Zt aN fun a d=>?_;refine Q8<|X0a (σ:=Nat×Nat) (fun (s:Nat×Nat) (a:Act) (w:World)=>match s with|(k,q)=>Fr a 26 [(1,vi lo),(2,vi hi),(7,vi (q:Int)),(11,.slice Ac c.gs.length cc),(12,vi (c.gs.length:Int)),(13,vi (k:Int))]∧(k≤c.gs.length)∧(q=(c.gs.take k).countP fun g=>inR g.k lo hi)∧(q≤k)∧Below p.heap.size p w) (fun (s:Nat×Nat)=>match s with|(k,q)=>c.gs.length-k) (0,0) ?_ ?_
 ·exact ⟨d.sb,(Qf _),rfl,(Qb _),i⟩
 rintro ⟨k,q⟩ a w2 ⟨d,hk,hq,aT,i⟩;refine Zs d fun _ aO=>?_;refine Ze (X11 rfl rfl)<|ZX aO fun a d _ aP=>?_
 refine Xj d rfl (fun j=>?_) (fun j=>?_)
 ·have aD:=j;have j:=Q2 j
  obtain ⟨e,o⟩:=Xf (l:=c.gs) (k:=k) (by omega)
  refine Q7<|aP _ _<|Q5 fun _ x=>?_;refine Q8<|Zs d fun _ aE=>?_;refine Zi (k:=k) (u:=e) (enc:=encG) (l:=c.gs) trivial rfl rfl Xb X0h X9 (t.below' i) o rfl ?_;intro aU aA;refine Ze (Xw (l:=[vi e.k,vi e.a,vi e.b]) rfl X0f aA rfl)<|Zf (X8 (zs:=[vi 0,vi 0,vi 0]) X2q rfl) ?_;rintro _ w3 ⟨aW,rfl,y,hE,m⟩;have aB:=Q0 i.size y;have aF:=(t.below' i).away y;have i:=btr i hE;refine Zo (Vw [vi e.k,vi e.a,vi e.b] X0h m) ?_;rintro _ w4 ⟨ho,hb⟩;have aR:=m;have i:=Below.only i ho aB;have m:=hb;refine Zx aE fun a d _ aG=>?_;refine Ze (Vd rfl X0o 0)<|Ze (X0 rfl X7 (m.at 0))<|Zm rfl<|Zm rfl<|Zf (Vc (F85 _ e.k lo hi) X3y) ?_;rintro _ _ ⟨rfl,rfl⟩;refine Zt aG fun a d=>?_
  refine Xj d rfl (fun f=>?_) (fun f=>?_)
  ·have aC:=f
   have hT:inR e.k lo hi=true:=f
   refine Zr d<|Zm rfl<|Ze (X00 rfl rfl (by omega) (by omega))<|Za rfl ?_;refine Zn fun a d=>?_;refine Xq<|x _ _<|Zr d<|Ze (X00 rfl rfl (by omega) (by omega))<|Zm rfl ?_;refine Zn fun a d=>?_;refine Xo ?_;exact ⟨(k+1,q+1),⟨d.sb,(by omega),(by rw [Qt,o,List.countP_append,← hq];simp [hT]),(by omega),i⟩,(by first|omega|(dsimp only;omega))⟩
  have aC:=f
  have hT:inR e.k lo hi=false:=f
  refine Q7<|Xq<|x _ _<|Zr d ?_;refine Ze (X00 rfl rfl (by omega) (by omega))<|Zm rfl ?_;refine Zn fun a d=>?_;refine Xo ?_;exact ⟨(k+1,q),⟨d.sb,(by omega),(by rw [Qt,o,List.countP_append,← hq];simp [hT]),(by omega),i⟩,(by first|omega|(dsimp only;omega))⟩
 have aD:=j;have j:=Q1 j;refine Q9<|Xn<|Xn<|X06 ?_;refine aM _ _<|Zs d fun _ aH=>?_;refine Zm rfl<|Za rfl<|Zt aH fun a d=>?_
 refine Q6 (X3 d (Xs d rfl rfl) ?_)
 exact ⟨by rw [hq,Qi (by omega)],i⟩
theorem Xi7(w0:World)(Al:Option Addr)(cl:Nat)(l:List Gt)(aA:Rd w0 w0.heap.size 115 encG Al l)(aB:l.length≤100000000) : Ret Tryz.prog 80 [.slice Al l.length cl] w0 (fun v w=>v=vi ((tcN l:Nat) : Int)∧Below w0.heap.size w0 w):=by
 refine enter Tryz.func80 rfl 6 rfl rfl ?_;intro a hf
 have hW:=bz w0
 refine Zs hf fun _ aC=>?_;refine Za rfl<|Zx aC fun a hf _ aD=>?_;refine Zm rfl<|Ze (Xg (ps:=[(1,.slice Al l.length cl)]) (cs:=[vi 0,.slice Al l.length cl]) rfl (fun _=>by first|rfl|kernel_rfl))<|Zf (Vc (Xzg _ (⟨0,l⟩ : Cx) Al cl (aA.below' hW).top 7 8 aB) Xsn) ?_;rintro _ w1 ⟨rfl,hE⟩;have hW:=btr hW hE;refine Za rfl<|Zt aD fun a hf=>?_
 refine Q6 (X3 hf (Xs hf rfl rfl) ?_)
 exact ⟨by rw [← Xo1],hW⟩
theorem Xyj(B:World)(c:Cx)(Ac:Option Addr)(cc:Nat)(U:Rd B B.heap.size 115 encG Ac c.gs)(Arr:Option Addr)(crr:Nat)(rr:List Int)(aA:Rd B B.heap.size 3 encI Arr rr)(Aqs:Option Addr)(cqs:Nat)(qs:List Int)(aB:Rd B B.heap.size 3 encI Aqs qs)(bH:cOk c=true)(bK:rr.length≤6)(b1:∀ i ∈ rr,∃ j:Nat,i=(j:Int)∧j<c.gs.length)(b2:∀ g ∈ gatL c rr,GoodG qs c.n g∧insB g qs=true)(b3:Inc qs)(b4:qs.length≤1048576) : Ret Tryz.prog 77 [.agg #[vi c.n,.slice Ac c.gs.length cc],.slice Arr rr.length crr,.slice Aqs qs.length cqs] B (fun v w=>∃ A e,v=.agg #[vi (xC c rr qs).n,.slice A (xC c rr qs).gs.length e]∧Own w B.heap.size 115 3 encG A e (xC c rr qs).gs∧Below B.heap.size B w):=by
 have bI:=X39 c rr;refine enter Tryz.func77 rfl 33 rfl rfl ?_;intro a y
 have p:=bz B
 refine Zs y fun _ b6=>?_;refine Zf (X0i (zs:=[vi c.n,.slice Ac c.gs.length cc]) rfl rfl) ?_;rintro _ w1 ⟨b5,rfl,b8,t,f⟩;have bJ:=Q0 p.size b8;have p:=btr p t;refine Zf (X8 (zs:=[vi 0,.slice none 0 0]) X4o rfl) ?_;rintro _ w2 ⟨b7,rfl,b9,t,m⟩
 have b0:b5≠b7:=by have:=f.lt;omega
 have aJ:=Q0 p.size b9;have f:=f.below t;have p:=btr p t;refine Zx b6 fun a y _ bC=>?_;refine Zm rfl<|Ze (X0p rfl X0b)<|Ze (Xg (ps:=[(0,vi (qs.length:Int))]) (cs:=[vi (qs.length:Int),.slice none 0 0]) rfl (fun _=>by first|rfl|kernel_rfl))<|Zf (X8 (zs:=[vi 0,.slice none 0 0]) X4o rfl) ?_;rintro _ w3 ⟨b11,rfl,aK,t,d⟩
 have aL:b5≠b11:=by have:=f.lt;omega
 have aM:b7≠b11:=by have:=m.lt;omega
 have H:=Q0 p.size aK;have f:=f.below t;have m:=m.below t;have p:=btr p t;refine Zo (Vw [vi (qs.length:Int),.slice none 0 0] X1y d) ?_;rintro _ w4 ⟨I,hb⟩;have C:=d;have f:=f.only I (by omega);have m:=m.only I (by omega);have p:=Below.only p I H;have d:=hb;refine ZX bC fun a y _ aN=>?_;refine Zs y fun _ aO=>?_;refine Zm rfl<|Ze (X0p rfl X0b)<|Zm rfl<|Zt aO fun a y=>?_;refine Q8<|X0a (σ:=Nat×(List Gt)) (fun (s:Nat×(List Gt)) (a:Act) (w:World)=>match s with|(k,q)=>∃ D E,Fr a 33 [(2,.slice Aqs qs.length cqs),(3,.pointer (some ⟨b5,0,none⟩)),(6,.pointer (some ⟨b7,0,none⟩)),(7,.pointer (some ⟨b11,0,none⟩)),(13,.slice Arr rr.length crr),(14,vi (rr.length:Int)),(15,vi (k:Int))]∧(k≤rr.length)∧(q=((gatL c rr).take k).map (smallG qs))∧(q.length=k)∧Blk w b5 28 [vi c.n,.slice Ac c.gs.length cc]∧Blk w b7 28 [vi 0,.slice none 0 0]∧Blk w b11 28 [vi (qs.length:Int),.slice D q.length E]∧Own w B.heap.size 115 3 encG D E q∧Below B.heap.size B w) (fun (s:Nat×(List Gt))=>match s with|(k,q)=>rr.length-k) (0,[]) ?_ ?_
 ·exact ⟨none,0,y.sb,(Qf _),rfl,rfl,f,m,d,(Own.nil _ _ _ _ _),p⟩
 rintro ⟨k,q⟩ a w5 ⟨D,E,y,hk,hq,bD,f,m,d,o,p⟩;refine Zs y fun _ aP=>?_;refine Ze (X11 rfl rfl)<|ZX aP fun a y _ aQ=>?_
 refine Xj y rfl (fun x=>?_) (fun x=>?_)
 ·have aC:=x;have x:=Q2 x
  obtain ⟨bE,J⟩:=Xf (l:=rr) (k:=k) (by omega)
  obtain ⟨j9,aR,aS⟩:=b1 _ (Qe J)
  obtain ⟨u9,aD⟩:=Xf (l:=gatL c rr) (k:=k) (by omega)
  have bF:c.gs[j9]? = some u9:=Xte J aR aS aD
  obtain ⟨W,L⟩:=b2 u9 (Qe aD);refine Q7<|aQ _ _<|Q5 fun _ aT=>?_;refine Q8<|Zs y fun _ aU=>?_;refine Zi (k:=k) (u:=bE) (enc:=encI) (l:=rr) trivial rfl rfl X0b X1k X05 (aA.below' p) J rfl ?_;intro bL aE;refine Ze (X0 rfl X7 aE)<|Za rfl<|Zt aU fun a y=>?_;refine X0d none (fun j=>[10,12].contains j) mixed ?_;intro w6 t;have f:=f.below t;have m:=m.below t;have d:=d.below t;have o:=o.below t;have p:=btr p t;refine Yb y<|Yo 0 rfl (fun _=>Vd rfl X0g 1)<|Ye 1 rfl (X0 rfl X0m (d.at 1))<|Yo 2 rfl (fun _=>Vd rfl X0g 1)<|Ye 3 rfl (X0 rfl X0m (f.at 1))<|Yo 4 rfl (fun _=>Xa rfl)<|Yi (k:=j9) (u:=u9) (enc:=encG) (l:=c.gs) 5 rfl trivial rfl rfl Xb X0h X9 (U.below' p) bF aR ?_;intro bM aF;refine Ye 6 rfl (Xw (l:=[vi u9.k,vi u9.a,vi u9.b]) rfl X0f aF rfl)<|Yo 7 rfl (fun _=>Xa rfl)<|Y1 8 ?_;refine Yk rfl trivial (Vc (Y1n _ u9 Aqs cqs qs (aB.below' p).top (Xi6 L) (W.use _ (Xzk (Xi6 L))) b3 (fun h9=>W.use _ (Xzy (Xi6 L) h9)) (Q0 b4 (by decide))) Xw5) (fun _ _ ⟨_,t⟩=>t) ?_;rintro _ w7 ⟨rfl,t⟩;have f:=f.below t;have m:=m.below t;have d:=d.below t;have o:=o.below t;have p:=btr p t;refine Y1 9<|Yk rfl trivial (X5 (k:=1) (vs:=[.agg #[vi ((smallG qs u9).k),vi ((smallG qs u9).a),vi ((smallG qs u9).b)]]) (zs:=[vi ((smallG qs u9).k),vi ((smallG qs u9).a),vi ((smallG qs u9).b)]) rfl Xb Xk rfl rfl) (fun _ _ ⟨_,_,_,h,_⟩=>h) ?_;rintro _ w8 ⟨bN,rfl,M,t,N⟩;have bG:=Q0 p.size M;have aW:=(U.below' p).away M;have G:=o.away M;have f:=f.below t;have m:=m.below t;have d:=d.below t
  have o:=o.below t;have p:=btr p t;refine Y1 10<|Yt rfl trivial rfl (X0v (enc:=encG) (l:=(q)) (l2:=([(smallG qs u9)])) (B0:=B.heap.size) rfl rfl Xb Xk X9 X07 o (Rd.of_blk N rfl _ N.lt) (by simp only [maxLen];simp;omega) (by simp;omega) p.size) ?_;rintro _ w9 ⟨aG,aH,rfl,Q,hg,aX⟩
  have z:Own _ B.heap.size 115 3 encG _ _ (q):=o
  have aI:=aX _ N.lt G;clear aX;have f:=f.appT z hg rfl;have m:=m.appT z hg rfl;have d:=d.appT z hg rfl;have p:=Below.app p z hg (Qb _) p.size;clear z hg;refine Yo 11 rfl (fun _=>Vd rfl X0g 1)<|Y1 12 ?_;refine Yh rfl trivial rfl (Vu (vs:=[.slice aG (q++([(smallG qs u9)])).length aH]) (l':=[vi (qs.length:Int),.slice aG (q++([(smallG qs u9)])).length aH]) rfl rfl X82 d) ?_;rintro _ bO ⟨I,hb⟩;have C:=d;have f:=f.only I (by omega);have m:=m.only I (by omega);have Q:=Q.onlyT I C rfl;have p:=Below.only p I H;have d:=hb;refine Yd fun a y=>?_;refine Xq<|aT _ _<|Zr y<|Ze (X00 rfl rfl (by omega) (by omega))<|Zm rfl ?_;refine Zn fun a y=>?_;refine Xo ?_;exact ⟨(k+1,(q++[smallG qs u9])),⟨aG,aH,y.sb,(by omega),(Xoe hq aD),(by simp;exact bD),f,m,d,Q,p⟩,(by first|omega|(dsimp only;omega))⟩
 have aC:=x;have x:=Q1 x
 have aY:q=(gatL c rr).map (smallG qs):=by rw [hq,Qi (by omega)]
 refine Q9<|Xn<|Xn<|X06 ?_;refine aN _ _<|Zs y fun _ aZ=>?_;refine Ze (Vn X0y d)<|Zo (Vw [vi (qs.length:Int),.slice D q.length E] X1y m) ?_;rintro _ bP ⟨I,hb⟩;have C:=m;have o:=o.onlyT I C rfl;have p:=Below.only p I aJ;have m:=hb;refine Zt aZ fun a y=>?_
 refine Q6 (X3 y (Xs y rfl (ResV.cellN (l:=[vi (qs.length:Int),.slice D q.length E]) rfl X0y (m.at 0) rfl)) ?_)
 subst aY
 exact ⟨D,E,rfl,o,p⟩
theorem Y08(w0:World)(x:Cx)(Ax:Option Addr)(cx:Nat)(aB:Rd w0 w0.heap.size 115 encG Ax x.gs)(hx:cOk x=true)(M9:Mx)(aC:opI x=some M9) : Ret Tryz.prog 78 [.agg #[vi x.n,.slice Ax x.gs.length cx]] w0 (fun v w=>∃ A c1,v=mV A c1 ((opI x).getD mZ)∧Rd w w.heap.size 95 encD A ((opI x).getD mZ).cells∧Below w0.heap.size w0 w):=by
 obtain ⟨hn,aL,aN⟩:=X14 hx;have t:=Xws hx aC
 obtain ⟨d,hd⟩ : ∃ d:Nat,d=2^x.n.toNat:=⟨_,rfl⟩
 rw [← hd] at t
 refine enter Tryz.func78 rfl 14 rfl rfl ?_;intro a hf
 have e:=bz w0
 refine Zs hf fun _ aF=>?_;refine Zf (X0i (zs:=[vi x.n,.slice Ax x.gs.length cx]) rfl rfl) ?_;rintro _ w1 ⟨b3,rfl,aG,c,f⟩;have aM:=Q0 e.size aG;have e:=btr e c;refine Zf (X8 (zs:=[vi 0,vi 0,.slice none 0 0]) X1o rfl) ?_;rintro _ w2 ⟨b5,rfl,aH,c,b⟩;have aD:=Q0 e.size aH;have f:=f.below c;have e:=btr e c;refine Zx aF fun a hf _ aI=>?_;refine Ze (Xg (ps:=[]) (cs:=[.bool false]) rfl (fun _=>by first|rfl|kernel_rfl))<|Zf (X0i (zs:=[.bool false]) rfl rfl) ?_;rintro _ w3 ⟨b7,rfl,aJ,c,g⟩;have aE:=Q0 e.size aJ;have f:=f.below c;have b:=b.below c;have e:=btr e c;refine Za rfl<|ZX aI fun a hf _ aK=>?_;refine X0d (some b7) (fun j=>[8].contains j) mixed ?_;intro w4 c;have f:=f.below c;have b:=b.below c;have g:=g.below c;have e:=btr e c;refine Yb hf<|Yo 0 rfl (fun _=>Xa rfl) ?_;refine Yw 1 rfl trivial (fun w1 h1=>Xw (l:=[vi x.n,.slice Ax x.gs.length cx]) rfl X0y ((f.only h1 (Blk.ne f g rfl)).at 0) rfl) ?_;refine Yo 2 rfl (fun _=>Vd rfl X1e 0) ?_;refine Yw 3 rfl trivial (fun w1 h1=>X0 rfl X7 ((f.only h1 (Blk.ne f g rfl)).at 0)) ?_;refine Yo 4 rfl (fun _=>Xh2 (m:=x.n.toNat) Tryz.underlying3 Tryz.underlying185 rfl (by omega) (by omega))<|Yo 5 rfl (fun _=>Xbq (m:=x.n.toNat) (D:=d) rfl rfl rfl ⟨hd,by omega⟩)<|Y1 6 ?_;refine Yf rfl trivial (EfW.mono (Vc (Xvr _ d (by rw [hd];exact X4m hn.2)) Xgr) (fun _ _ h=>⟨fun _=>by obtain ⟨A9,c9,rfl,o,c⟩:=h;exact Keep.of_below c,h⟩)) ?_;rintro _ w5 ⟨A9,c9,rfl,o,c⟩;have o:=o.lower e.size;have b:=b.below c;have g:=g.below c;have e:=btr e c;refine Y1 7<|Yf rfl trivial (EfW.mono (X26 (vs:=[.pointer (some ⟨b7,0,none⟩),.agg #[vi x.n,.slice Ax x.gs.length cx],.agg #[vi ((unitS d).rows),vi ((unitS d).cols),.slice A9 ((unitS d).cells).length c9]]) rfl Xwb (by have hq:=Y1t w5 b7 false g x Ax cx (aB.below' e).top (unitS d) A9 c9 o.rd.top hx (X38 (by rw [hd];exact X2c hn)).2 (by rw [← hd];rfl);rw [t] at hq;dsimp only at hq;exact hq)) (fun _ _ h=>⟨fun _=>by obtain ⟨p,q,rfl,i,hK,aA⟩:=h;exact hK.keep,h⟩)) ?_;rintro _ w6 ⟨p,q,rfl,i,hK,aA⟩
 obtain ⟨wm,hO,hm,c⟩:=hK.mid;clear hm;have k:=g;have b:=b.only hO (Blk.ne b k rfl);have e:=Below.only e hO aE;have b:=b.below c;have e:=btr e c
 clear k c hO hK;have g:=aA;clear aA;refine Y1 8<|Yh rfl trivial rfl (Vw [vi M9.rows,vi M9.cols,.slice p M9.cells.length q] X18 b) ?_;rintro _ w7 ⟨ho,hb⟩;have k:=b;have i:=i.onlyT ho k rfl;have e:=Below.only e ho aD;have b:=hb;refine Yd fun a hf=>?_;refine aK _ _ ?_
 refine Q6 (X3 hf (Xs hf rfl (ResV.cellN (l:=[vi M9.rows,vi M9.cols,.slice p M9.cells.length q]) rfl X0j (b.at 0) rfl)) ?_)
 rw [aC]
 exact ⟨p,q,rfl,i.top,e⟩
theorem Xze(w0:World)(x:Int)(y:Int) : Ret Tryz.prog 79 [vi x,vi y] w0 (fun v w=>v=vi (min x y)∧Below w0.heap.size w0 w):=by
 refine enter Tryz.func79 rfl 10 rfl rfl ?_;intro a c
 have hW:=bz w0
 refine Zs c fun _ aB=>?_;refine Za rfl<|ZX aB fun a c _ aC=>?_;refine Zs c fun _ aD=>?_;refine Zm rfl<|Zm rfl<|Ze (X11 rfl rfl)<|Zt aD fun a c=>?_
 refine Xj c rfl (fun b=>?_) (fun b=>?_)
 ·have aA:=b;have b:=Q2 b;refine Zs c fun _ aE=>?_;refine Zm rfl<|Za rfl<|Zt aE fun a c=>?_;refine Q6<|X2<|X3 c (Xs c rfl rfl) ?_;exact ⟨by rw [Int.min_eq_left (by omega)],hW⟩
 have aA:=b;have b:=Q1 b;refine Q7<|aC _ _<|Zs c fun _ aF=>?_;refine Zm rfl<|Za rfl<|Zt aF fun a c=>?_
 refine Q6 (X3 c (Xs c rfl rfl) ?_)
 exact ⟨by rw [Int.min_eq_right (by omega)],hW⟩
theorem Xtq(h:World)(Al:Option Addr)(cl:Nat)(l:List Gt)(B:Rd h h.heap.size 115 encG Al l)(Aqs:Option Addr)(cqs:Nat)(qs:List Int)(H:Rd h h.heap.size 3 encI Aqs qs)(L:Nat)(J:∀ g ∈ l,(g.k≠12→0≤g.a∧g.a<(L:Int))∧(inR g.k 9 11=true→0≤g.b∧g.b<(L:Int)))(hL:qs.length=L)(cN:l.length≤1000000) : Ret Tryz.prog 82 [.slice Al l.length cl,.slice Aqs qs.length cqs] h (fun v w=>∃ A c,v=.slice A (mapI l qs).length c∧Own w h.heap.size 115 3 encG A c (mapI l qs)∧Below h.heap.size h w):=by
 refine enter Tryz.func82 rfl 37 rfl rfl ?_;intro a m
 have i:=bz h
 refine Zs m fun _ bU=>?_;refine Za rfl<|Zx bU fun a m _ bW=>?_;refine Za rfl<|ZX bW fun a m _ bX=>?_;refine Zs m fun _ bY=>?_;refine Zm rfl<|Ze (X0p rfl Xb)<|Zm rfl<|Zt bY fun a m=>?_;refine Q8<|X0a (σ:=Nat×(List Gt)) (fun (s:Nat×(List Gt)) (a:Act) (w:World)=>match s with|(k,q)=>∃ A9 c9,Fr a 37 [(1,.slice Aqs qs.length cqs),(5,.slice A9 q.length c9),(8,.slice Al l.length cl),(9,vi (l.length:Int)),(10,vi (k:Int))]∧(k≤l.length)∧(q=(l.take k).map (mapG qs))∧(q.length=k)∧Own w h.heap.size 115 3 encG A9 c9 q∧Below h.heap.size h w) (fun (s:Nat×(List Gt))=>match s with|(k,q)=>l.length-k) (0,[]) ?_ ?_
 ·exact ⟨none,0,m.sb,(Qf _),rfl,rfl,(Own.nil _ _ _ _ _),i⟩
 rintro ⟨k,q⟩ a w1 ⟨A9,c9,m,hk,hq,aK,f,i⟩;refine Zs m fun _ bC=>?_;refine Ze (X11 rfl rfl)<|ZX bC fun a m _ bD=>?_
 refine Xj m rfl (fun y=>?_) (fun y=>?_)
 ·have aP:=y;have y:=Q2 y
  obtain ⟨d,x⟩:=Xf (l:=l) (k:=k) (by omega)
  refine Q7<|bD _ _<|Q5 fun _ I=>?_;refine Q8<|Zs m fun _ bE=>?_;refine Zi (k:=k) (u:=d) (enc:=encG) (l:=l) trivial rfl rfl Xb X0h X9 (B.below' i) x rfl ?_;intro cO aQ;refine Ze (Xw (l:=[vi d.k,vi d.a,vi d.b]) rfl X0f aQ rfl)<|Zf (X8 (zs:=[vi 0,vi 0,vi 0]) X2q rfl) ?_;rintro _ w2 ⟨aL,rfl,M,z,e⟩;have C:=Q0 i.size M;have j:=f.away M;have bF:=(B.below' i).away M;have f:=f.below z;have i:=btr i z;refine Zo (Vw [vi d.k,vi d.a,vi d.b] X0h e) ?_;rintro _ w3 ⟨N,hb⟩;have Q:=e;have f:=f.onlyA N j;have i:=Below.only i N C;have e:=hb;refine ZX bE fun a m _ aM=>?_;refine Zs m fun _ bG=>?_;refine Ze (Vn X0f e)<|Zf (Vc (Xsk _ d) Xd2) ?_;rintro _ w4 ⟨rfl,z⟩;have e:=e.below z;have f:=f.below z;have i:=btr i z;refine Zt bG fun a m=>?_
  refine Xj m rfl (fun D=>?_) (fun D=>?_)
  ·have aR:=D
   have o:inR d.k 9 11=true:=D
   obtain ⟨cP,cQ⟩:=(J d (Qe x)).2 o;refine Zr m<|Zm rfl<|Ze (Vd rfl X10 2)<|Ze (X0 rfl X7 (e.at 2))<|Zi (k:=d.b.toNat) (u:=(qs.getD d.b.toNat 0)) (enc:=encI) (l:=qs) trivial rfl rfl X0b X1k X05 (H.below' i) (X77 (by omega)) (by omega) ?_;intro cR aS;refine Ze (X0 rfl X7 aS)<|Ze (Vd rfl X10 2)<|Zo (Vu (vs:=[vi (qs.getD d.b.toNat 0)]) (l':=[vi d.k,vi d.a,vi (qs.getD d.b.toNat 0)]) rfl rfl X1k e) ?_;rintro _ w5 ⟨N,hb⟩;have Q:=e;have f:=f.onlyA N j;have i:=Below.only i N C;have e:=hb;refine ZX aM fun a m _ aN=>?_;refine Zs m fun _ bH=>?_;refine Ze (Vd rfl X0o 0)<|Ze (X0 rfl X7 (e.at 0))<|Ze (X2m rfl rfl)<|Zt bH fun a m=>?_
   refine Xj m rfl (fun E=>?_) (fun E=>?_)
   ·have aT:=E
    have n:¬ d.k=12:=by simpa using E
    obtain ⟨bZ,c4⟩:=(J d (Qe x)).1 n;refine Zr m<|Zm rfl<|Ze (Vd rfl X0k 1)<|Ze (X0 rfl X7 (e.at 1))<|Zi (k:=d.a.toNat) (u:=(qs.getD d.a.toNat 0)) (enc:=encI) (l:=qs) trivial rfl rfl X0b X1k X05 (H.below' i) (X77 (by omega)) (by omega) ?_;intro cS aU;refine Ze (X0 rfl X7 aU)<|Ze (Vd rfl X0k 1)<|Zo (Vu (vs:=[vi (qs.getD d.a.toNat 0)]) (l':=[vi d.k,vi (qs.getD d.a.toNat 0),vi (qs.getD d.b.toNat 0)]) rfl rfl X1k e) ?_;rintro _ w6 ⟨N,hb⟩;have Q:=e;have f:=f.onlyA N j;have i:=Below.only i N C;have e:=hb;refine Zt aN fun a m=>?_;refine Zr m<|Zm rfl<|Ze (Vn X0f e)<|Zf (X5 (k:=1) (vs:=[.agg #[vi d.k,vi (qs.getD d.a.toNat 0),vi (qs.getD d.b.toNat 0)]]) (zs:=[vi d.k,vi (qs.getD d.a.toNat 0),vi (qs.getD d.b.toNat 0)]) rfl Xb Xk rfl rfl) ?_;rintro _ w7 ⟨b29,rfl,U,z,W⟩
    have aY:aL≠b29:=by have:=e.lt;omega
    have cA:=Q0 i.size U;have aA:=f.away U;have bI:=(B.below' i).away U;have e:=e.below z;have f:=f.below z;have i:=btr i z;refine Zf (X0v (enc:=encG) (l:=(q)) (l2:=([(⟨d.k,(qs.getD d.a.toNat 0),(qs.getD d.b.toNat 0)⟩ : Gt)])) (B0:=h.heap.size) rfl rfl Xb Xk X9 X07 f (Rd.of_blk W rfl _ W.lt) (by simp only [maxLen];simp;omega) (by simp;omega) i.size) ?_;rintro _ w8 ⟨cB,cC,rfl,bJ,hg,t⟩
    have p:Own _ h.heap.size 115 3 encG _ _ (q):=f
    have aZ:=t _ e.lt j;have b0:=t _ W.lt aA;clear t;have i:=Below.app i p hg (Qb _) i.size;clear p hg;refine Za rfl ?_;refine Zn fun a m=>?_;refine Xq<|I _ _<|Zr m<|Ze (X00 rfl rfl (by omega) (by omega))<|Zm rfl ?_;refine Zn fun a m=>?_;refine Xo ?_;exact ⟨(k+1,q++([(⟨d.k,(qs.getD d.a.toNat 0),(qs.getD d.b.toNat 0)⟩ : Gt)])),⟨cB,cC,m.sb,(by omega),(X5w hq x (by unfold mapG;first|rw [Q4 n,Q4 o]|rw [Q4 n,Q3 (by rw [o];decide)]|rw [Q3 n,Q4 o]|rw [Q3 n,Q3 (by rw [o];decide)])),(by simp;exact aK),bJ,i⟩,(by first|omega|(dsimp only;omega))⟩
   have aT:=E
   have n:d.k=12:=by simpa using E
   refine Q7<|aN _ _<|Zr m<|Zm rfl<|Ze (Vn X0f e)<|Zf (X5 (k:=1) (vs:=[.agg #[vi d.k,vi d.a,vi (qs.getD d.b.toNat 0)]]) (zs:=[vi d.k,vi d.a,vi (qs.getD d.b.toNat 0)]) rfl Xb Xk rfl rfl) ?_;rintro _ w9 ⟨b32,rfl,aB,z,aC⟩
   have b1:aL≠b32:=by have:=e.lt;omega
   have cD:=Q0 i.size aB;have aD:=f.away aB;have bK:=(B.below' i).away aB;have e:=e.below z;have f:=f.below z;have i:=btr i z;refine Zf (X0v (enc:=encG) (l:=(q)) (l2:=([(⟨d.k,d.a,(qs.getD d.b.toNat 0)⟩ : Gt)])) (B0:=h.heap.size) rfl rfl Xb Xk X9 X07 f (Rd.of_blk aC rfl _ aC.lt) (by simp only [maxLen];simp;omega) (by simp;omega) i.size) ?_;rintro _ cT ⟨cE,cF,rfl,bL,hg,t⟩
   have p:Own _ h.heap.size 115 3 encG _ _ (q):=f
   have b2:=t _ e.lt j;have b3:=t _ aC.lt aD;clear t;have i:=Below.app i p hg (Qb _) i.size;clear p hg;refine Za rfl ?_;refine Zn fun a m=>?_;refine Xq<|I _ _<|Zr m<|Ze (X00 rfl rfl (by omega) (by omega))<|Zm rfl ?_;refine Zn fun a m=>?_;refine Xo ?_;exact ⟨(k+1,q++([(⟨d.k,d.a,(qs.getD d.b.toNat 0)⟩ : Gt)])),⟨cE,cF,m.sb,(by omega),(X5w hq x (by unfold mapG;first|rw [Q4 n,Q4 o]|rw [Q4 n,Q3 (by rw [o];decide)]|rw [Q3 n,Q4 o]|rw [Q3 n,Q3 (by rw [o];decide)])),(by simp;exact aK),bL,i⟩,(by first|omega|(dsimp only;omega))⟩
  have aR:=D
  have o:inR d.k 9 11=false:=D
  refine Q7<|aM _ _<|Q5 fun _ aO=>?_;refine Zs m fun _ bM=>?_;refine Ze (Vd rfl X0o 0)<|Ze (X0 rfl X7 (e.at 0))<|Ze (X2m rfl rfl)<|Zt bM fun a m=>?_
  refine Xj m rfl (fun G=>?_) (fun G=>?_)
  ·have aW:=G
   have n:¬ d.k=12:=by simpa using G
   obtain ⟨bZ,c4⟩:=(J d (Qe x)).1 n;refine Zr m<|Zm rfl<|Ze (Vd rfl X0k 1)<|Ze (X0 rfl X7 (e.at 1))<|Zi (k:=d.a.toNat) (u:=(qs.getD d.a.toNat 0)) (enc:=encI) (l:=qs) trivial rfl rfl X0b X1k X05 (H.below' i) (X77 (by omega)) (by omega) ?_;intro cU aX;refine Ze (X0 rfl X7 aX)<|Ze (Vd rfl X0k 1)<|Zo (Vu (vs:=[vi (qs.getD d.a.toNat 0)]) (l':=[vi d.k,vi (qs.getD d.a.toNat 0),vi d.b]) rfl rfl X1k e) ?_;rintro _ cV ⟨N,hb⟩;have Q:=e;have f:=f.onlyA N j;have i:=Below.only i N C;have e:=hb;refine Zt aO fun a m=>?_;refine Zr m<|Zm rfl<|Ze (Vn X0f e)<|Zf (X5 (k:=1) (vs:=[.agg #[vi d.k,vi (qs.getD d.a.toNat 0),vi d.b]]) (zs:=[vi d.k,vi (qs.getD d.a.toNat 0),vi d.b]) rfl Xb Xk rfl rfl) ?_;rintro _ cW ⟨b40,rfl,aE,z,aF⟩
   have b4:aL≠b40:=by have:=e.lt;omega
   have cG:=Q0 i.size aE;have aG:=f.away aE;have bN:=(B.below' i).away aE;have e:=e.below z;have f:=f.below z;have i:=btr i z;refine Zf (X0v (enc:=encG) (l:=(q)) (l2:=([(⟨d.k,(qs.getD d.a.toNat 0),d.b⟩ : Gt)])) (B0:=h.heap.size) rfl rfl Xb Xk X9 X07 f (Rd.of_blk aF rfl _ aF.lt) (by simp only [maxLen];simp;omega) (by simp;omega) i.size) ?_;rintro _ cX ⟨cH,cJ,rfl,bO,hg,t⟩
   have p:Own _ h.heap.size 115 3 encG _ _ (q):=f
   have b5:=t _ e.lt j;have b6:=t _ aF.lt aG;clear t;have i:=Below.app i p hg (Qb _) i.size;clear p hg;refine Za rfl ?_;refine Zn fun a m=>?_;refine Xq<|I _ _<|Zr m<|Ze (X00 rfl rfl (by omega) (by omega))<|Zm rfl ?_;refine Zn fun a m=>?_;refine Xo ?_;exact ⟨(k+1,q++([(⟨d.k,(qs.getD d.a.toNat 0),d.b⟩ : Gt)])),⟨cH,cJ,m.sb,(by omega),(X5w hq x (by unfold mapG;first|rw [Q4 n,Q4 o]|rw [Q4 n,Q3 (by rw [o];decide)]|rw [Q3 n,Q4 o]|rw [Q3 n,Q3 (by rw [o];decide)])),(by simp;exact aK),bO,i⟩,(by first|omega|(dsimp only;omega))⟩
  have aW:=G
  have n:d.k=12:=by simpa using G
  refine Q7<|aO _ _<|Zr m<|Zm rfl<|Ze (Vn X0f e)<|Zf (X5 (k:=1) (vs:=[.agg #[vi d.k,vi d.a,vi d.b]]) (zs:=[vi d.k,vi d.a,vi d.b]) rfl Xb Xk rfl rfl) ?_;rintro _ cY ⟨b43,rfl,aH,z,aI⟩
  have b7:aL≠b43:=by have:=e.lt;omega
  have cK:=Q0 i.size aH;have aJ:=f.away aH;have bP:=(B.below' i).away aH;have e:=e.below z;have f:=f.below z;have i:=btr i z;refine Zf (X0v (enc:=encG) (l:=(q)) (l2:=([d])) (B0:=h.heap.size) rfl rfl Xb Xk X9 X07 f (Rd.of_blk aI rfl _ aI.lt) (by simp only [maxLen];simp;omega) (by simp;omega) i.size) ?_;rintro _ d5 ⟨cL,cM,rfl,bQ,hg,t⟩
  have p:Own _ h.heap.size 115 3 encG _ _ (q):=f
  have b8:=t _ e.lt j;have b9:=t _ aI.lt aJ;clear t;have i:=Below.app i p hg (Qb _) i.size;clear p hg;refine Za rfl ?_;refine Zn fun a m=>?_;refine Xq<|I _ _<|Zr m<|Ze (X00 rfl rfl (by omega) (by omega))<|Zm rfl ?_;refine Zn fun a m=>?_;refine Xo ?_;exact ⟨(k+1,q++([d])),⟨cL,cM,m.sb,(by omega),(X5w hq x (by unfold mapG;first|rw [Q4 n,Q4 o]|rw [Q4 n,Q3 (by rw [o];decide)]|rw [Q3 n,Q4 o]|rw [Q3 n,Q3 (by rw [o];decide)])),(by simp;exact aK),bQ,i⟩,(by first|omega|(dsimp only;omega))⟩
 have aP:=y;have y:=Q1 y
 have bR:q=mapI l qs:=by rw [hq,Qi (by omega)];rfl
 refine Q9<|Xn<|Xn<|X06 ?_;refine bX _ _<|Zs m fun _ bS=>?_;refine Zm rfl<|Za rfl<|Zt bS fun a m=>?_
 refine Q6 (X3 m (Xs m rfl rfl) ?_)
 subst bR
 exact ⟨A9,c9,rfl,f,i⟩
theorem Xyl(w0:World)(c:Cx)(Ac:Option Addr)(cc:Nat)(e:Rd w0 w0.heap.size 115 encG Ac c.gs)(M:c.gs.length≤cc)(p:Int)(Aqs:Option Addr)(cqs:Nat)(qs:List Int)(b:Rd w0 w0.heap.size 3 encI Aqs qs)(N:cOk c=true)(bG:qs.length≤1048576) : Ret Tryz.prog 47 [.agg #[vi c.n,.slice Ac c.gs.length cc],vi p,.slice Aqs qs.length cqs] w0 (fun v w=>∃ A9 e9 B9 f9,v=.tuple #[.agg #[vi ((shrX c p qs).getD rpZ).pos,.slice A9 ((shrX c p qs).getD rpZ).old.length e9,.slice B9 ((shrX c p qs).getD rpZ).new.length f9],.bool (shrX c p qs).isSome]∧Own w w0.heap.size 115 3 encG A9 e9 ((shrX c p qs).getD rpZ).old∧Own w w0.heap.size 115 3 encG B9 f9 ((shrX c p qs).getD rpZ).new∧Apart A9 B9∧Below w0.heap.size w0 w):=by
 obtain ⟨rr,cO⟩ : ∃ rr,rr=(runX c p qs).getD []:=⟨_,rfl⟩
 obtain ⟨ro,bK⟩ : ∃ ro:Bool,ro=(runX c p qs).isSome:=⟨_,rfl⟩
 have f0:c.gs.length≤400:=(X14 N).2.1
 refine enter Tryz.func47 rfl 75 rfl rfl ?_;intro a y
 have t:=bz w0
 refine Zs y fun _ eK=>?_;refine Zf (X0i (zs:=[vi c.n,.slice Ac c.gs.length cc]) rfl rfl) ?_;rintro _ w1 ⟨b4,rfl,eL,d,m⟩;have f5:=Q0 t.size eL;have e:=e.below d;have b:=b.below d;have t:=btr t d;refine Zf (X8 (zs:=[vi 0,.slice none 0 0,.slice none 0 0]) X3a rfl) ?_;rintro _ w2 ⟨b7,rfl,eM,d,f⟩;have aC:=Q0 t.size eM;have m:=m.below d;have e:=e.below d;have b:=b.below d;have t:=btr t d;refine Za rfl<|Zx eK fun a y _ eN=>?_;refine Ze (Vn X0y m)<|Zm rfl<|Zm rfl<|Zf (X26 (vs:=[.agg #[vi c.n,.slice Ac c.gs.length cc],vi p,.slice Aqs qs.length cqs]) rfl Xr3 (by have hq:=Y0p w2 c Ac cc e.top p Aqs cqs qs b.top N bG;rw [← cO,← bK] at hq;exact hq)) ?_;rintro _ w3 ⟨A9,c9,rfl,o,d⟩;have o:=o.lower t.size;have m:=m.below d;have f:=f.below d;have e:=e.below d;have b:=b.below d;have t:=btr t d;refine Zm rfl<|Ze (X4 (vs:=[.slice A9 rr.length c9,.bool ro]) rfl rfl)<|Ze (X4 (vs:=[.slice A9 rr.length c9,.bool ro]) rfl rfl)<|Za rfl<|Za rfl<|ZX eN fun a y _ cP=>?_;refine Zs y fun _ cQ=>?_;refine Zm rfl<|Ze (X0x rfl)<|Zt cQ fun a y=>?_
 refine Xj y rfl (fun aJ=>?_) (fun aJ=>?_)
 ·have bL:=aJ
  have D:shrX c p qs=none:=by unfold shrX;rw [Xnm (by rw [← bK];exact bn1 aJ)];rfl
  refine Zs y fun _ cR=>?_;refine Ze (Xg (ps:=[]) (cs:=[vi 0,.slice none 0 0,.slice none 0 0]) rfl (fun _=>by first|rfl|kernel_rfl))<|Zo (Vw [vi 0,.slice none 0 0,.slice none 0 0] X15 f) ?_;rintro _ w4 ⟨E,hb⟩;have z:=f;have t:=Below.only t E aC;have f:=hb;refine Za rfl<|Zt cR fun a y=>?_;refine Q6<|X2<|X3 y (X0w y rfl (ResV.cellN (l:=[vi 0,.slice none 0 0,.slice none 0 0]) rfl X1h (f.at 0) rfl) rfl) ?_
  rw [D]
  exact ⟨none,0,none,0,rfl,(Own.nil _ _ _ _ _),(Own.nil _ _ _ _ _),(Apart.none_l _),t⟩
 have bL:=aJ
 obtain ⟨aO,cS⟩:=Xr5 (c:=c) (p:=p) (qs:=qs) (by rw [← bK];exact bn2 aJ)
 have aK:rr=runL c p qs:=by rw [cO,cS];rfl
 have f7:rr.length≤6:=by rw [aK];exact X7s ..
 have f8:1≤rr.length:=by rw [aK];exact X8e aO
 obtain ⟨aB,eO,fB⟩:=X8n N aO
 have cT:∀ i ∈ rr,∃ j:Nat,i=(j:Int)∧j<c.gs.length:=fun i hi=>by rw [aK] at hi;obtain ⟨j,h1,h2,_⟩:=X53 aO i hi;exact ⟨j,h1,h2⟩
 have fA:=X39 c rr
 have eP:∀ g ∈ gatL c rr,GoodG qs c.n g∧insB g qs=true:=fun g hg=>X6q N aO g (by rw [← aK];exact hg)
 obtain ⟨cU,eQ,A,G,fC,cV,fD,fE,cW⟩:=Xo2 N aO
 rw [← aK] at cU eQ G
 have aW:shrX c p qs=plX c p qs rr:=by unfold shrX;rw [cS,aK];rfl
 have bH:tcN (xC c rr qs).gs=tcN (gatL c rr):=Xnq qs (gatL c rr)
 refine Q7<|cP _ _<|Zs y fun _ cX=>?_;refine Ze (Vn X0y m)<|Zm rfl<|Zm rfl<|Zf (Vc (Xyj _ c Ac cc e.top A9 c9 rr o.rd.top Aqs cqs qs b.top N (by omega) cT eP eO bG) Xqc) ?_;rintro _ w5 ⟨aH,aI,rfl,k,d⟩;have k:=k.lower t.size;have m:=m.below d;have f:=f.below d;have e:=e.below d;have b:=b.below d;have o:=o.below d;have t:=btr t d;refine Zf (X8 (zs:=[vi 0,.slice none 0 0]) X4o rfl) ?_;rintro _ w6 ⟨b19,rfl,cY,d,q⟩
 have d5:b4≠b19:=by have:=m.lt;omega
 have bM:=Q0 t.size cY;have m:=m.below d;have f:=f.below d;have e:=e.below d;have b:=b.below d;have o:=o.below d;have k:=k.below d;have t:=btr t d;refine Zo (Vw [vi ((xC c rr qs).n),.slice aH ((xC c rr qs).gs).length aI] X1y q) ?_;rintro _ w7 ⟨E,hb⟩;have z:=q;have m:=m.only E (by omega);have f:=f.only E (Blk.ne f z rfl);have e:=e.onlyT E z rfl;have b:=b.onlyT E z rfl;have o:=o.onlyT E z rfl;have k:=k.onlyT E z rfl;have t:=Below.only t E bM;have q:=hb;refine Zx cX fun a y _ d6=>?_;refine Ze (Vn X0y q)<|Zf (X26 (vs:=[.agg #[vi ((xC c rr qs).n),.slice aH ((xC c rr qs).gs).length aI]]) rfl Xsy (by have hq:=Y08 w7 (xC c rr qs) aH aI k.rd.top cU A G;rw [G,Qq] at hq;exact hq)) ?_;rintro _ w8 ⟨aP,b6,rfl,x,d⟩;have m:=m.below d;have f:=f.below d;have q:=q.below d;have e:=e.below d;have b:=b.below d;have o:=o.below d;have k:=k.below d;have t:=btr t d;refine Zf (X8 (zs:=[vi 0,vi 0,.slice none 0 0]) X1o rfl) ?_;rintro _ w9 ⟨bI,rfl,d7,d,u⟩;have bN:=Q0 t.size d7;have m:=m.below d;have f:=f.below d;have q:=q.below d;have e:=e.below d;have b:=b.below d;have o:=o.below d;have k:=k.below d;have x:=x.below d;have t:=btr t d;refine Zo (Vw [vi A.rows,vi A.cols,.slice aP A.cells.length b6] X18 u) ?_;rintro _ fF ⟨E,hb⟩;have z:=u;have m:=m.only E (Blk.ne m z rfl);have f:=f.only E (Blk.ne f z rfl);have q:=q.only E (Blk.ne q z rfl)
 have e:=e.onlyT E z rfl;have b:=b.onlyT E z rfl;have o:=o.onlyT E z rfl;have k:=k.onlyT E z rfl;have x:=x.onlyT E z rfl;have t:=Below.only t E bN;have u:=hb;refine Zx d6 fun a y _ d8=>?_;refine Zm rfl<|Ze (X0p rfl X0b)<|Ze (X1j rfl rfl (by omega) (by omega))<|Za rfl<|ZX d8 fun a y _ bJ=>?_;refine Zs y fun _ d9=>?_;refine Zm rfl<|Ze (X0p rfl X0b)<|Ze (X16 rfl rfl)<|Zt d9 fun a y=>?_
 refine Xj y rfl (fun aL=>?_) (fun aL=>?_)
 ·have bO:=aL
  have eR:qs.length=2:=by have h9:(qs.length:Int)=2:=(by simpa using aL);omega
  have b8:KN qs.length=3:=by rw [eR];rfl
  refine Zr y<|Zm rfl<|Zf (Vc (Xze _ ((rr.length:Int)-1) 3) Xsv) ?_;rintro _ fG ⟨rfl,d⟩;have m:=m.below d;have f:=f.below d;have q:=q.below d;have u:=u.below d;have e:=e.below d;have b:=b.below d;have o:=o.below d;have k:=k.below d;have x:=x.below d;have t:=btr t d;refine Za rfl<|ZX bJ fun a y _ dA=>?_;refine Zs y fun _ dB=>?_;refine Za rfl<|Zt dB fun a y=>?_;refine Q8<|X0a (σ:=Nat) (fun (j:Nat) (a:Act) (w:World)=>Fr a 75 [(2,.slice Aqs qs.length cqs),(3,.pointer (some ⟨b4,0,none⟩)),(6,.pointer (some ⟨b7,0,none⟩)),(8,.slice A9 rr.length c9),(10,.pointer (some ⟨b19,0,none⟩)),(11,.pointer (some ⟨bI,0,none⟩)),(12,vi (min ((rr.length:Int)-1) 3)),(13,vi (j:Int))]∧(j≤7)∧(∀ i,i<j→fdS qs.length A i (unitS (2^qs.length))=none)∧Blk w b4 28 [vi c.n,.slice Ac c.gs.length cc]∧Blk w b7 46 [vi 0,.slice none 0 0,.slice none 0 0]∧Blk w b19 28 [vi ((xC c rr qs).n),.slice aH ((xC c rr qs).gs).length aI]∧Blk w bI 33 [vi A.rows,vi A.cols,.slice aP A.cells.length b6]∧Rd w w0.heap.size 115 encG Ac c.gs∧Rd w w0.heap.size 3 encI Aqs qs∧Own w w0.heap.size 3 1 encI A9 c9 rr∧Own w w0.heap.size 115 3 encG aH aI ((xC c rr qs).gs)∧Rd w w8.heap.size 95 encD aP A.cells∧c.gs.length≤cc∧Below w0.heap.size w0 w) (fun (j:Nat)=>8-j) 0 ?_ ?_
  ·exact ⟨y.sb,(by omega),(fun i hi=>absurd hi (by omega)),m,f,q,u,e,b,o,k,x,M,t⟩
  rintro j a fH ⟨y,eS,aQ,m,f,q,u,e,b,o,k,x,M,t⟩;refine Q5 fun _ dC=>?_;refine Zs y fun _ dD=>?_;refine Zm rfl<|Zm rfl<|Ze (Xa9 rfl rfl)<|Zt dD fun a y=>?_
  refine Xj y rfl (fun H=>?_) (fun H=>?_)
  ·have bP:=H;have H:=Q2 H;have bQ:=H
   have bR:j≤KN qs.length:=by rw [b8];omega
   have eT:j<rr.length:=by omega
   refine Q7<|dC _ _<|Q5 fun _ dE=>?_;refine Q8<|Q5 fun _ dF=>?_;refine X0d none (fun _=>false) mixed ?_;intro fI d;have m:=m.below d;have f:=f.below d;have q:=q.below d;have u:=u.below d;have e:=e.below d;have b:=b.below d;have o:=o.below d;have k:=k.below d;have x:=x.below d;have t:=btr t d;refine Yb y<|Yo 0 rfl (fun _=>Xa rfl)<|Yo 1 rfl (fun _=>X0p rfl X0b)<|Yo 2 rfl (fun _=>Vd rfl X25 0)<|Ye 3 rfl (Vx (X0 rfl X7 (u.at 0)) cV)<|Ye 5 rfl (Vn X0j u)<|Yo 6 rfl (fun _=>Xa rfl)<|Y1 4 ?_;refine Yk rfl trivial (Vc (Xvr _ (2^qs.length:Nat) (by rcases aB with h|h<;>rw [h]<;>decide)) Xgr) (fun _ _ ⟨dG,dH,_,aT,d⟩=>d) ?_;rintro _ fJ ⟨dG,dH,rfl,aT,d⟩;have aT:=aT.lower t.size;have m:=m.below d;have f:=f.below d;have q:=q.below d;have u:=u.below d;have e:=e.below d;have b:=b.below d;have o:=o.below d;have k:=k.below d;have x:=x.below d;have t:=btr t d;refine Y1 7<|Yk rfl trivial (Vc (Xu3 _ qs.length (unitS (2^qs.length:Nat)) dG dH aT.rd.top A aP b6 x.top j aB [] 0 (by omega) (Qm.2 rfl) (X73 _ aB).symm cW) Xci) (fun _ _ ⟨b9,bC,_,B,d⟩=>d) ?_;rintro _ fK ⟨b9,bC,rfl,B,d⟩;have cB:=k.apart B (Qb _);have B:=B.lower t.size;have m:=m.below d;have f:=f.below d;have q:=q.below d;have u:=u.below d;have e:=e.below d;have b:=b.below d;have o:=o.below d;have k:=k.below d;have x:=x.below d;have t:=btr t d;refine Yo 8 rfl (fun _=>Xa rfl)<|Yo 9 rfl (fun _=>X4 (vs:=[.slice b9 ((fdS qs.length A j (unitS (2^qs.length:Nat))).getD []).length bC,.bool ((fdS qs.length A j (unitS (2^qs.length:Nat))).isSome)]) rfl rfl)<|Yo 10 rfl (fun _=>X4 (vs:=[.slice b9 ((fdS qs.length A j (unitS (2^qs.length:Nat))).getD []).length bC,.bool ((fdS qs.length A j (unitS (2^qs.length:Nat))).isSome)]) rfl rfl)<|Yo 11 rfl (fun _=>X19 rfl)<|Yo 12 rfl (fun _=>X19 rfl) ?_
   refine Yd fun a y=>?_;refine dF _ _<|Q5 fun _ dI=>?_;refine Zs y fun _ dJ=>?_;refine Zm rfl<|Ze (X0x rfl)<|Zt dJ fun a y=>?_
   refine Xj y rfl (fun aM=>?_) (fun aM=>?_)
   ·have bS:=aM
    have bU:(fdS qs.length A j (unitS (2^qs.length))).isSome=false:=bn1 aM
    refine Q9<|Xn<|X06<|dE _ _ ?_;refine Zr y<|Zm rfl<|Ze (X00 rfl rfl (by omega) (by omega))<|Za rfl ?_;refine Zn fun a y=>?_;refine Xo ?_;exact ⟨j+1,⟨y.sb,(by omega),(Xbz aQ bU),m,f,q,u,e,b,o,k,x,M,t⟩,(by omega)⟩
   have bS:=aM
   have bW:(fdS qs.length A j (unitS (2^qs.length))).isSome=true:=by simpa using aM
   obtain ⟨aR,eU⟩:=Xe3 aB bR aQ bW;have bD:=X5q aR;have bX:=Xd8 aB bD.2;have eW:=bD.1;have eX:=X9j qs.length;refine Q7<|dI _ _<|Q5 fun _ dK=>?_;refine Q5 fun _ dL=>?_;refine X0d none (fun _=>false) mixed ?_;intro fL d;have m:=m.below d;have f:=f.below d;have q:=q.below d;have e:=e.below d;have b:=b.below d;have o:=o.below d;have k:=k.below d;have B:=B.below d;have t:=btr t d;refine Yb y<|Yo 0 rfl (fun _=>Xa rfl)<|Yo 2 rfl (fun _=>Vd rfl X0g 1)<|Ye 3 rfl (X0 rfl X0m (q.at 1))<|Y1 1 ?_;refine Yk rfl trivial (Vc (Xi7 _ b9 bC ((fdS qs.length A j (unitS (2^qs.length:Nat))).getD []) B.rd.top (by omega)) X8d) (fun _ _ ⟨_,d⟩=>d) ?_;rintro _ fM ⟨rfl,d⟩;have m:=m.below d;have f:=f.below d;have e:=e.below d;have b:=b.below d;have o:=o.below d;have k:=k.below d;have B:=B.below d;have t:=btr t d;refine Y1 4<|Yk rfl trivial (Vc (Xi7 _ aH aI ((xC c rr qs).gs) k.rd.top (by show ((gatL c rr).map (smallG qs)).length≤_;rw [Qo];omega)) X8d) (fun _ _ ⟨_,d⟩=>d) ?_;rintro _ fN ⟨rfl,d⟩;have m:=m.below d;have f:=f.below d;have e:=e.below d;have b:=b.below d;have o:=o.below d;have B:=B.below d;have t:=btr t d;refine Yo 5 rfl (fun _=>X36 rfl rfl) ?_;refine Yd fun a y=>?_;refine dL _ _ ?_
   refine Xj y rfl (fun I=>?_) (fun I=>?_)
   ·have bY:=I;have I:=Q2 I;have aS:=I
    rw [bH] at aS
    have D:shrX c p qs=none:=by
     rw [aW]
     refine X5m G fun w9 h9 h8=>?_
     rw [aR] at h9
     injection h9 with h9
     subst h9
     omega
    refine Zs y fun _ dM=>?_;refine Ze (Xg (ps:=[]) (cs:=[vi 0,.slice none 0 0,.slice none 0 0]) rfl (fun _=>by first|rfl|kernel_rfl))<|Zo (Vw [vi 0,.slice none 0 0,.slice none 0 0] X15 f) ?_;rintro _ fO ⟨E,hb⟩;have z:=f;have t:=Below.only t E aC;have f:=hb;refine Za rfl<|Zt dM fun a y=>?_;refine Q6<|X2<|Xm<|X2 ?_;refine X2<|Xm<|X2<|X3 y (X0w y rfl (ResV.cellN (l:=[vi 0,.slice none 0 0,.slice none 0 0]) rfl X1h (f.at 0) rfl) rfl) ?_
    rw [D]
    exact ⟨none,0,none,0,rfl,(Own.nil _ _ _ _ _),(Own.nil _ _ _ _ _),(Apart.none_l _),t⟩
   have bY:=I;have I:=Q1 I;have aS:=I
   rw [bH] at aS
   have D:shrX c p qs=repX c p rr qs (mapI ((fdS qs.length A j (unitS (2^qs.length))).getD []) qs):=by
    rw [aW]
    exact X8p G aR ⟨by omega,by omega⟩
   refine Q7<|dK _ _<|Q5 fun _ dN=>?_;refine X0d none (fun j=>[9].contains j) mixed ?_;intro fP d;have m:=m.below d;have f:=f.below d;have e:=e.below d;have b:=b.below d;have o:=o.below d;have B:=B.below d;have t:=btr t d;refine Yb y<|Ye 0 rfl (Vn X0y m)<|Yo 1 rfl (fun _=>Xa rfl)<|Yo 2 rfl (fun _=>Xa rfl)<|Yo 3 rfl (fun _=>Xa rfl)<|Yo 4 rfl (fun _=>Xa rfl)<|Y1 5 ?_;refine Yk rfl trivial (Vc (Xtq _ b9 bC ((fdS qs.length A j (unitS (2^qs.length:Nat))).getD []) B.rd.top Aqs cqs qs b.top qs.length bX rfl (by omega)) Xix) (fun _ _ ⟨dO,dP,_,aD,d⟩=>d) ?_;rintro _ fQ ⟨dO,dP,rfl,aD,d⟩;have cC:=B.apart aD (Qb _);have aD:=aD.lower t.size;have f:=f.below d;have e:=e.below d;have b:=b.below d;have o:=o.below d;have B:=B.below d;have t:=btr t d;refine Y1 6<|Yk rfl trivial (Vc (Xtw _ c Ac cc e.top M A9 c9 rr o.rd.top Aqs cqs qs b.top dO dP (mapI ((fdS qs.length A j (unitS (2^qs.length:Nat))).getD []) qs) aD.rd.top p N aO aK (by unfold mapI;rw [Qo];omega) bG) Xj8) (fun _ _ ⟨aX,aY,aZ,b0,_,Q,U,aF,d⟩=>d) ?_;rintro _ fR ⟨aX,aY,aZ,b0,rfl,Q,U,aF,d⟩;have cD:=B.apart Q (Qb _);have cE:=aD.apart Q (Qb _);have Q:=Q.lower t.size;have cF:=B.apart U (Qb _);have cG:=aD.apart U (Qb _);have U:=U.lower t.size;have f:=f.below d;have t:=btr t d;refine Yo 7 rfl (fun _=>X4 (vs:=[.agg #[vi (((repX c p rr qs (mapI ((fdS qs.length A j (unitS (2^qs.length:Nat))).getD []) qs)).getD rpZ).pos),.slice aX (((repX c p rr qs (mapI ((fdS qs.length A j (unitS (2^qs.length:Nat))).getD []) qs)).getD rpZ).old).length aY,.slice aZ (((repX c p rr qs (mapI ((fdS qs.length A j (unitS (2^qs.length:Nat))).getD []) qs)).getD rpZ).new).length b0],.bool ((repX c p rr qs (mapI ((fdS qs.length A j (unitS (2^qs.length:Nat))).getD []) qs)).isSome)]) rfl rfl)<|Yo 8 rfl (fun _=>X4 (vs:=[.agg #[vi (((repX c p rr qs (mapI ((fdS qs.length A j (unitS (2^qs.length:Nat))).getD []) qs)).getD rpZ).pos),.slice aX (((repX c p rr qs (mapI ((fdS qs.length A j (unitS (2^qs.length:Nat))).getD []) qs)).getD rpZ).old).length aY,.slice aZ (((repX c p rr qs (mapI ((fdS qs.length A j (unitS (2^qs.length:Nat))).getD []) qs)).getD rpZ).new).length b0],.bool ((repX c p rr qs (mapI ((fdS qs.length A j (unitS (2^qs.length:Nat))).getD []) qs)).isSome)]) rfl rfl)<|Y1 9 ?_
   refine Yh rfl trivial rfl (Vw [vi (((repX c p rr qs (mapI ((fdS qs.length A j (unitS (2^qs.length:Nat))).getD []) qs)).getD rpZ).pos),.slice aX (((repX c p rr qs (mapI ((fdS qs.length A j (unitS (2^qs.length:Nat))).getD []) qs)).getD rpZ).old).length aY,.slice aZ (((repX c p rr qs (mapI ((fdS qs.length A j (unitS (2^qs.length:Nat))).getD []) qs)).getD rpZ).new).length b0] X15 f) ?_;rintro _ fS ⟨E,hb⟩;have z:=f;have Q:=Q.onlyT E z rfl;have U:=U.onlyT E z rfl;have t:=Below.only t E aC;have f:=hb;refine Yo 10 rfl (fun _=>X19 rfl) ?_;refine Yd fun a y=>?_;refine dN _ _<|Q6<|Xm<|X2 ?_;refine X2<|Xm<|X2<|X3 y (X0w y rfl (ResV.cellN (l:=[vi (((repX c p rr qs (mapI ((fdS qs.length A j (unitS (2^qs.length:Nat))).getD []) qs)).getD rpZ).pos),.slice aX (((repX c p rr qs (mapI ((fdS qs.length A j (unitS (2^qs.length:Nat))).getD []) qs)).getD rpZ).old).length aY,.slice aZ (((repX c p rr qs (mapI ((fdS qs.length A j (unitS (2^qs.length:Nat))).getD []) qs)).getD rpZ).new).length b0]) rfl X1h (f.at 0) rfl) rfl) ?_
   rw [D]
   exact ⟨aX,aY,aZ,b0,rfl,Q,U,aF,t⟩
  have bP:=H;have H:=Q1 H;have bQ:=H
  have D:shrX c p qs=none:=by
   rw [aW]
   refine X5m G fun w9 h9 h8=>?_;have h7:=Xpn aB aQ w9 h9;have h6:=(X5q h9).1
   rw [b8] at h6
   omega
  refine Q9<|Xn<|Xn<|X06 ?_;refine dA _ _<|Zs y fun _ dQ=>?_;refine Ze (Xg (ps:=[]) (cs:=[vi 0,.slice none 0 0,.slice none 0 0]) rfl (fun _=>by first|rfl|kernel_rfl))<|Zo (Vw [vi 0,.slice none 0 0,.slice none 0 0] X15 f) ?_;rintro _ fT ⟨E,hb⟩;have z:=f;have t:=Below.only t E aC;have f:=hb;refine Za rfl<|Zt dQ fun a y=>?_
  refine Q6 (X3 y (X0w y rfl (ResV.cellN (l:=[vi 0,.slice none 0 0,.slice none 0 0]) rfl X1h (f.at 0) rfl) rfl) ?_)
  rw [D]
  exact ⟨none,0,none,0,rfl,(Own.nil _ _ _ _ _),(Own.nil _ _ _ _ _),(Apart.none_l _),t⟩
 have bO:=aL
 have eY:qs.length=1:=by have h9:¬ (qs.length:Int)=2:=(by simpa using aL);omega
 have b8:KN qs.length=5:=by rw [eY];rfl
 refine Q7<|bJ _ _<|Q5 fun _ dR=>?_;refine Zs y fun _ dS=>?_;refine Za rfl<|Zt dS fun a y=>?_;refine Q8<|X0a (σ:=Nat) (fun (j:Nat) (a:Act) (w:World)=>Fr a 75 [(2,.slice Aqs qs.length cqs),(3,.pointer (some ⟨b4,0,none⟩)),(6,.pointer (some ⟨b7,0,none⟩)),(8,.slice A9 rr.length c9),(10,.pointer (some ⟨b19,0,none⟩)),(11,.pointer (some ⟨bI,0,none⟩)),(12,vi ((rr.length:Int)-1)),(13,vi (j:Int))]∧(j≤7)∧(∀ i,i<j→fdS qs.length A i (unitS (2^qs.length))=none)∧Blk w b4 28 [vi c.n,.slice Ac c.gs.length cc]∧Blk w b7 46 [vi 0,.slice none 0 0,.slice none 0 0]∧Blk w b19 28 [vi ((xC c rr qs).n),.slice aH ((xC c rr qs).gs).length aI]∧Blk w bI 33 [vi A.rows,vi A.cols,.slice aP A.cells.length b6]∧Rd w w0.heap.size 115 encG Ac c.gs∧Rd w w0.heap.size 3 encI Aqs qs∧Own w w0.heap.size 3 1 encI A9 c9 rr∧Own w w0.heap.size 115 3 encG aH aI ((xC c rr qs).gs)∧Rd w w8.heap.size 95 encD aP A.cells∧c.gs.length≤cc∧Below w0.heap.size w0 w) (fun (j:Nat)=>8-j) 0 ?_ ?_
 ·exact ⟨y.sb,(by omega),(fun i hi=>absurd hi (by omega)),m,f,q,u,e,b,o,k,x,M,t⟩
 rintro j a fU ⟨y,eS,aQ,m,f,q,u,e,b,o,k,x,M,t⟩;refine Q5 fun _ dT=>?_;refine Zs y fun _ dU=>?_;refine Zm rfl<|Zm rfl<|Ze (Xa9 rfl rfl)<|Zt dU fun a y=>?_
 refine Xj y rfl (fun J=>?_) (fun J=>?_)
 ·have bZ:=J;have J:=Q2 J;have bQ:=J
  have bR:j≤KN qs.length:=by rw [b8];omega
  have eT:j<rr.length:=by omega
  refine Q7<|dT _ _<|Q5 fun _ dW=>?_;refine Q8<|Q5 fun _ dX=>?_;refine X0d none (fun _=>false) mixed ?_;intro fV d;have m:=m.below d;have f:=f.below d;have q:=q.below d;have u:=u.below d;have e:=e.below d;have b:=b.below d;have o:=o.below d;have k:=k.below d;have x:=x.below d;have t:=btr t d;refine Yb y<|Yo 0 rfl (fun _=>Xa rfl)<|Yo 1 rfl (fun _=>X0p rfl X0b)<|Yo 2 rfl (fun _=>Vd rfl X25 0)<|Ye 3 rfl (Vx (X0 rfl X7 (u.at 0)) cV)<|Ye 5 rfl (Vn X0j u)<|Yo 6 rfl (fun _=>Xa rfl)<|Y1 4 ?_;refine Yk rfl trivial (Vc (Xvr _ (2^qs.length:Nat) (by rcases aB with h|h<;>rw [h]<;>decide)) Xgr) (fun _ _ ⟨dY,eA,_,aU,d⟩=>d) ?_;rintro _ fW ⟨dY,eA,rfl,aU,d⟩;have aU:=aU.lower t.size;have m:=m.below d;have f:=f.below d;have q:=q.below d;have u:=u.below d;have e:=e.below d;have b:=b.below d;have o:=o.below d;have k:=k.below d;have x:=x.below d;have t:=btr t d;refine Y1 7<|Yk rfl trivial (Vc (Xu3 _ qs.length (unitS (2^qs.length:Nat)) dY eA aU.rd.top A aP b6 x.top j aB [] 0 (by omega) (Qm.2 rfl) (X73 _ aB).symm cW) Xci) (fun _ _ ⟨bE,bF,_,C,d⟩=>d) ?_;rintro _ fX ⟨bE,bF,rfl,C,d⟩;have cH:=k.apart C (Qb _);have C:=C.lower t.size;have m:=m.below d;have f:=f.below d;have q:=q.below d;have u:=u.below d;have e:=e.below d;have b:=b.below d;have o:=o.below d;have k:=k.below d;have x:=x.below d;have t:=btr t d;refine Yo 8 rfl (fun _=>Xa rfl)<|Yo 9 rfl (fun _=>X4 (vs:=[.slice bE ((fdS qs.length A j (unitS (2^qs.length:Nat))).getD []).length bF,.bool ((fdS qs.length A j (unitS (2^qs.length:Nat))).isSome)]) rfl rfl)<|Yo 10 rfl (fun _=>X4 (vs:=[.slice bE ((fdS qs.length A j (unitS (2^qs.length:Nat))).getD []).length bF,.bool ((fdS qs.length A j (unitS (2^qs.length:Nat))).isSome)]) rfl rfl)<|Yo 11 rfl (fun _=>X19 rfl)<|Yo 12 rfl (fun _=>X19 rfl) ?_
  refine Yd fun a y=>?_;refine dX _ _<|Q5 fun _ eB=>?_;refine Zs y fun _ eC=>?_;refine Zm rfl<|Ze (X0x rfl)<|Zt eC fun a y=>?_
  refine Xj y rfl (fun aN=>?_) (fun aN=>?_)
  ·have c4:=aN
   have bU:(fdS qs.length A j (unitS (2^qs.length))).isSome=false:=bn1 aN
   refine Q9<|Xn<|X06<|dW _ _ ?_;refine Zr y<|Zm rfl<|Ze (X00 rfl rfl (by omega) (by omega))<|Za rfl ?_;refine Zn fun a y=>?_;refine Xo ?_;exact ⟨j+1,⟨y.sb,(by omega),(Xbz aQ bU),m,f,q,u,e,b,o,k,x,M,t⟩,(by omega)⟩
  have c4:=aN
  have bW:(fdS qs.length A j (unitS (2^qs.length))).isSome=true:=by simpa using aN
  obtain ⟨aR,eU⟩:=Xe3 aB bR aQ bW;have bD:=X5q aR;have bX:=Xd8 aB bD.2;have eW:=bD.1;have eX:=X9j qs.length;refine Q7<|eB _ _<|Q5 fun _ eD=>?_;refine Q5 fun _ eE=>?_;refine X0d none (fun _=>false) mixed ?_;intro fY d;have m:=m.below d;have f:=f.below d;have q:=q.below d;have e:=e.below d;have b:=b.below d;have o:=o.below d;have k:=k.below d;have C:=C.below d;have t:=btr t d;refine Yb y<|Yo 0 rfl (fun _=>Xa rfl)<|Yo 2 rfl (fun _=>Vd rfl X0g 1)<|Ye 3 rfl (X0 rfl X0m (q.at 1))<|Y1 1 ?_;refine Yk rfl trivial (Vc (Xi7 _ bE bF ((fdS qs.length A j (unitS (2^qs.length:Nat))).getD []) C.rd.top (by omega)) X8d) (fun _ _ ⟨_,d⟩=>d) ?_;rintro _ fZ ⟨rfl,d⟩;have m:=m.below d;have f:=f.below d;have e:=e.below d;have b:=b.below d;have o:=o.below d;have k:=k.below d;have C:=C.below d;have t:=btr t d;refine Y1 4<|Yk rfl trivial (Vc (Xi7 _ aH aI ((xC c rr qs).gs) k.rd.top (by show ((gatL c rr).map (smallG qs)).length≤_;rw [Qo];omega)) X8d) (fun _ _ ⟨_,d⟩=>d) ?_;rintro _ g5 ⟨rfl,d⟩;have m:=m.below d;have f:=f.below d;have e:=e.below d;have b:=b.below d;have o:=o.below d;have C:=C.below d;have t:=btr t d;refine Yo 5 rfl (fun _=>X36 rfl rfl) ?_;refine Yd fun a y=>?_;refine eE _ _ ?_
  refine Xj y rfl (fun L=>?_) (fun L=>?_)
  ·have cA:=L;have L:=Q2 L;have aS:=L
   rw [bH] at aS
   have D:shrX c p qs=none:=by
    rw [aW]
    refine X5m G fun w9 h9 h8=>?_
    rw [aR] at h9
    injection h9 with h9
    subst h9
    omega
   refine Zs y fun _ eF=>?_;refine Ze (Xg (ps:=[]) (cs:=[vi 0,.slice none 0 0,.slice none 0 0]) rfl (fun _=>by first|rfl|kernel_rfl))<|Zo (Vw [vi 0,.slice none 0 0,.slice none 0 0] X15 f) ?_;rintro _ g6 ⟨E,hb⟩;have z:=f;have t:=Below.only t E aC;have f:=hb;refine Za rfl<|Zt eF fun a y=>?_;refine Q6<|X2<|Xm<|X2 ?_;refine X2<|Xm<|X2<|X3 y (X0w y rfl (ResV.cellN (l:=[vi 0,.slice none 0 0,.slice none 0 0]) rfl X1h (f.at 0) rfl) rfl) ?_
   rw [D]
   exact ⟨none,0,none,0,rfl,(Own.nil _ _ _ _ _),(Own.nil _ _ _ _ _),(Apart.none_l _),t⟩
  have cA:=L;have L:=Q1 L;have aS:=L
  rw [bH] at aS
  have D:shrX c p qs=repX c p rr qs (mapI ((fdS qs.length A j (unitS (2^qs.length))).getD []) qs):=by
   rw [aW]
   exact X8p G aR ⟨by omega,by omega⟩
  refine Q7<|eD _ _<|Q5 fun _ eG=>?_;refine X0d none (fun j=>[9].contains j) mixed ?_;intro g7 d;have m:=m.below d;have f:=f.below d;have e:=e.below d;have b:=b.below d;have o:=o.below d;have C:=C.below d;have t:=btr t d;refine Yb y<|Ye 0 rfl (Vn X0y m)<|Yo 1 rfl (fun _=>Xa rfl)<|Yo 2 rfl (fun _=>Xa rfl)<|Yo 3 rfl (fun _=>Xa rfl)<|Yo 4 rfl (fun _=>Xa rfl)<|Y1 5 ?_;refine Yk rfl trivial (Vc (Xtq _ bE bF ((fdS qs.length A j (unitS (2^qs.length:Nat))).getD []) C.rd.top Aqs cqs qs b.top qs.length bX rfl (by omega)) Xix) (fun _ _ ⟨eH,eI,_,aE,d⟩=>d) ?_;rintro _ g8 ⟨eH,eI,rfl,aE,d⟩;have cJ:=C.apart aE (Qb _);have aE:=aE.lower t.size;have f:=f.below d;have e:=e.below d;have b:=b.below d;have o:=o.below d;have C:=C.below d;have t:=btr t d;refine Y1 6<|Yk rfl trivial (Vc (Xtw _ c Ac cc e.top M A9 c9 rr o.rd.top Aqs cqs qs b.top eH eI (mapI ((fdS qs.length A j (unitS (2^qs.length:Nat))).getD []) qs) aE.rd.top p N aO aK (by unfold mapI;rw [Qo];omega) bG) Xj8) (fun _ _ ⟨b1,b2,b3,b5,_,W,aA,aG,d⟩=>d) ?_;rintro _ gA ⟨b1,b2,b3,b5,rfl,W,aA,aG,d⟩;have cK:=C.apart W (Qb _);have cL:=aE.apart W (Qb _);have W:=W.lower t.size;have cM:=C.apart aA (Qb _);have cN:=aE.apart aA (Qb _);have aA:=aA.lower t.size;have f:=f.below d;have t:=btr t d;refine Yo 7 rfl (fun _=>X4 (vs:=[.agg #[vi (((repX c p rr qs (mapI ((fdS qs.length A j (unitS (2^qs.length:Nat))).getD []) qs)).getD rpZ).pos),.slice b1 (((repX c p rr qs (mapI ((fdS qs.length A j (unitS (2^qs.length:Nat))).getD []) qs)).getD rpZ).old).length b2,.slice b3 (((repX c p rr qs (mapI ((fdS qs.length A j (unitS (2^qs.length:Nat))).getD []) qs)).getD rpZ).new).length b5],.bool ((repX c p rr qs (mapI ((fdS qs.length A j (unitS (2^qs.length:Nat))).getD []) qs)).isSome)]) rfl rfl)<|Yo 8 rfl (fun _=>X4 (vs:=[.agg #[vi (((repX c p rr qs (mapI ((fdS qs.length A j (unitS (2^qs.length:Nat))).getD []) qs)).getD rpZ).pos),.slice b1 (((repX c p rr qs (mapI ((fdS qs.length A j (unitS (2^qs.length:Nat))).getD []) qs)).getD rpZ).old).length b2,.slice b3 (((repX c p rr qs (mapI ((fdS qs.length A j (unitS (2^qs.length:Nat))).getD []) qs)).getD rpZ).new).length b5],.bool ((repX c p rr qs (mapI ((fdS qs.length A j (unitS (2^qs.length:Nat))).getD []) qs)).isSome)]) rfl rfl)<|Y1 9 ?_
  refine Yh rfl trivial rfl (Vw [vi (((repX c p rr qs (mapI ((fdS qs.length A j (unitS (2^qs.length:Nat))).getD []) qs)).getD rpZ).pos),.slice b1 (((repX c p rr qs (mapI ((fdS qs.length A j (unitS (2^qs.length:Nat))).getD []) qs)).getD rpZ).old).length b2,.slice b3 (((repX c p rr qs (mapI ((fdS qs.length A j (unitS (2^qs.length:Nat))).getD []) qs)).getD rpZ).new).length b5] X15 f) ?_;rintro _ gB ⟨E,hb⟩;have z:=f;have W:=W.onlyT E z rfl;have aA:=aA.onlyT E z rfl;have t:=Below.only t E aC;have f:=hb;refine Yo 10 rfl (fun _=>X19 rfl) ?_;refine Yd fun a y=>?_;refine eG _ _<|Q6<|Xm<|X2 ?_;refine X2<|Xm<|X2<|X3 y (X0w y rfl (ResV.cellN (l:=[vi (((repX c p rr qs (mapI ((fdS qs.length A j (unitS (2^qs.length:Nat))).getD []) qs)).getD rpZ).pos),.slice b1 (((repX c p rr qs (mapI ((fdS qs.length A j (unitS (2^qs.length:Nat))).getD []) qs)).getD rpZ).old).length b2,.slice b3 (((repX c p rr qs (mapI ((fdS qs.length A j (unitS (2^qs.length:Nat))).getD []) qs)).getD rpZ).new).length b5]) rfl X1h (f.at 0) rfl) rfl) ?_
  rw [D]
  exact ⟨b1,b2,b3,b5,rfl,W,aA,aG,t⟩
 have bZ:=J;have J:=Q1 J;have bQ:=J
 have D:shrX c p qs=none:=by
  rw [aW]
  refine X5m G fun w9 h9 h8=>?_;have h7:=Xpn aB aQ w9 h9;have h6:=(X5q h9).1
  rw [b8] at h6
  omega
 refine Q9<|Xn<|Xn<|X06 ?_;refine dR _ _<|Zs y fun _ eJ=>?_;refine Ze (Xg (ps:=[]) (cs:=[vi 0,.slice none 0 0,.slice none 0 0]) rfl (fun _=>by first|rfl|kernel_rfl))<|Zo (Vw [vi 0,.slice none 0 0,.slice none 0 0] X15 f) ?_;rintro _ gC ⟨E,hb⟩;have z:=f;have t:=Below.only t E aC;have f:=hb;refine Za rfl<|Zt eJ fun a y=>?_
 refine Q6 (X3 y (X0w y rfl (ResV.cellN (l:=[vi 0,.slice none 0 0,.slice none 0 0]) rfl X1h (f.at 0) rfl) rfl) ?_)
 rw [D]
 exact ⟨none,0,none,0,rfl,(Own.nil _ _ _ _ _),(Own.nil _ _ _ _ _),(Apart.none_l _),t⟩
theorem X3w:∀ (l:List Gt) (k:Int),0≤k→heldG l k≤k+3*(l.length:Int)
 | [],k,_=>by rw [heldG];simp
 | x::l,k,hk=>by
  rw [heldG]
  split
  ·have:=X3w l (k+3) (by omega);rw [Qs];omega
  ·rw [Qs];omega
def hlR(o n:List Gt)(k:Int) : Int:=if heldG o k<0 then -1 else if heldG n (heldG o k)<0 then -1 else heldG n (heldG o k)
theorem Xqi{c:Cx}{p:Int}{run qs:List Int}{ws:List Gt} : ((repX c p run qs ws).getD rpZ).old.length≤40∧((repX c p run qs ws).getD rpZ).new.length≤40:=by
 unfold repX
 split
 ·split
  ·rename_i h;exact h
  ·exact ⟨Qf _,Qf _⟩
 ·exact ⟨Qf _,Qf _⟩
theorem Xrt(c:Cx)(p:Int)(qs:List Int) : ((shrI c p qs).getD rpZ).old.length≤40∧((shrI c p qs).getD rpZ).new.length≤40:=by
 unfold shrI
 cases runP c p qs with
 | none=>exact ⟨Qf _,Qf _⟩
 | some run=>
  rw [Qz]
  unfold plX
  cases srW qs.length ((opI (xC c run qs)).getD mZ) with
  | none=>exact ⟨Qf _,Qf _⟩
  | some w=>
   rw [Qz]
   split
   ·exact Xqi
   ·exact ⟨Qf _,Qf _⟩
theorem Xit{a b:Int} : unionI [a,b] []=putI [a] b:=
 Xin _ _ (Xkl _ _) (Xip _ _ (by simp)) fun x=>by rw [Xl5,Xc2];simp
def isW(q:Int)(g:Gt) : Bool:=inR g.k 9 11&&(g.a==q||g.b==q)
def lsX(c:Cx)(p:Nat) : List (List Int):=
 if (c.gs.getD p gZ).k=12 then [] else if inR (c.gs.getD p gZ).k 9 11=true then [putI [(c.gs.getD p gZ).a] (c.gs.getD p gZ).b] else
  match (c.gs.drop (p+1)).find? (isW (c.gs.getD p gZ).a) with
  | some h=>[[(c.gs.getD p gZ).a],putI [h.a] h.b]
  | none=>[[(c.gs.getD p gZ).a]]
theorem Xz2{c:Cx}{p:Nat}{g:Gt}(h:c.gs[p]? = some g)(hk:g.k=12) : lsX c p=[]:=by
 unfold lsX;rw [Qa,h,Qq,Q4 hk]
theorem Xp3{c:Cx}{p:Nat}{g:Gt}(h:c.gs[p]? = some g)(hk:¬ g.k=12)(h2:inR g.k 9 11=true) : lsX c p=[putI [g.a] g.b]:=by
 unfold lsX;rw [Qa,h,Qq,Q3 hk,Q4 h2]
def NoW(c:Cx)(p k:Nat)(q:Int) : Prop:=((c.gs.drop (p+1)).take k).all (fun g=>!isW q g)=true
theorem Xev{c:Cx}{p k:Nat}{q:Int}{u:Gt}(h:NoW c p k q)(hu:(c.gs.drop (p+1))[k]? = some u)(hw:isW q u=false) : NoW c p (k+1) q:=by
 unfold NoW at *;rw [Qt,hu,List.all_append,h];simp [hw]
theorem Xf7{c:Cx}{p k:Nat}{g u:Gt}(hg:c.gs[p]? = some g)(hk:¬ g.k=12)(h2:inR g.k 9 11=false)(h:NoW c p k g.a)(hu:(c.gs.drop (p+1))[k]? = some u)(hw:isW g.a u=true) : lsX c p=[[g.a],putI [u.a] u.b]:=by
 have hf:(c.gs.drop (p+1)).find? (isW g.a)=some u:=by
  obtain ⟨h4,h5⟩:=Qg.1 hu
  rw [List.find?_eq_some_iff_getElem]
  refine ⟨hw,k,h4,h5,fun j hj=>?_⟩
  unfold NoW at h
  have:=W1.1 h (c.gs.drop (p+1))[j] (by rw [List.mem_iff_getElem];exact ⟨j,by simp at h4 ⊢;omega,by simp⟩)
  simpa using this
 unfold lsX
 rw [Qa,hg,Qq,Q3 hk,Q3 (by rw [h2];decide),hf]
theorem Xiy{c:Cx}{p k:Nat}{g:Gt}(hg:c.gs[p]? = some g)(hk:¬ g.k=12)(h2:inR g.k 9 11=false)(h:NoW c p k g.a)(hl:(c.gs.drop (p+1)).length≤k) : lsX c p=[[g.a]]:=by
 have hf:(c.gs.drop (p+1)).find? (isW g.a)=none:=by
  rw [List.find?_eq_none]
  intro x hx
  unfold NoW at h
  rw [Qi hl] at h
  have:=W1.1 h x hx
  simpa using this
 unfold lsX
 rw [Qa,hg,Qq,Q3 hk,Q3 (by rw [h2];decide),hf]
theorem Xl7{α:Type}{P:α→Prop}{x:α}(h:P x) : ∀ s ∈ [x],P s:=fun s hs=>by rw [Qm.1 hs];exact h
theorem Xwf{α:Type}{P:α→Prop}{x y:α}(h:P x)(h2:P y) : ∀ s ∈ [x,y],P s:=fun s hs=>by
 rcases Qv.1 hs with e|hs
 ·rw [e];exact h
 ·rw [Qm.1 hs];exact h2
theorem X6r{g:Gt}(h:¬ g.k=12)(h2:inR g.k 9 11=true) : qubI g=[g.a,g.b]:=by unfold qubI;rw [Q3 h,Q4 h2]
theorem X6t{g:Gt}(h:¬ g.k=12)(h2:inR g.k 9 11=false) : qubI g=[g.a]:=by unfold qubI;rw [Q3 h,Q3 (by rw [h2];decide)]
theorem Xtr{g:Gt}(h:inR g.k 9 11=true) : ¬ g.k=12:=by have:=X01.1 h;omega
def stL(c:Cx)(p:Nat) : Option Rp:=(lsX c p).findSome? fun qs=>shrI c (p:Int) qs
def stX(c:Cx) : Option Rp:=(List.range c.gs.length).findSome? (stL c)
def NoS(c:Cx)(k:Nat) : Prop:=(List.range k).findSome? (stL c)=none
theorem Xe2{c:Cx}{k:Nat}(h:NoS c k)(h2:stL c k=none) : NoS c (k+1):=by
 unfold NoS at *;rw [List.range_succ,List.findSome?_append,h];simp [h2]
theorem Xht{c:Cx}{k:Nat}(h:NoS c k)(hk:k=c.gs.length) : stX c=none:=by subst hk;exact h
def NoL(c:Cx)(p j:Nat) : Prop:=((lsX c p).take j).findSome? (fun qs=>shrI c (p:Int) qs)=none
theorem Xer{c:Cx}{p j:Nat}{qs:List Int}(h:NoL c p j)(hq:(lsX c p)[j]? = some qs)(hn:(shrI c (p:Int) qs).isSome=false) : NoL c p (j+1):=by
 unfold NoL at *;rw [Qt,hq,List.findSome?_append,h]
 cases e:shrI c (p:Int) qs with
 | none=>simp [e]
 | some r=>rw [e] at hn;cases hn
theorem Xj0{c:Cx}{p j:Nat}(h:NoL c p j)(hj:(lsX c p).length≤j) : stL c p=none:=by
 unfold NoL at h;rw [Qi hj] at h;exact h
theorem Xew(c:Cx)(p:Nat) : NoL c p 0:=rfl
theorem Xe7{c:Cx}{p j:Nat}{qs:List Int}(h0:NoS c p)(hp:p<c.gs.length)(h:NoL c p j)(hq:(lsX c p)[j]? = some qs)(hn:(shrI c (p:Int) qs).isSome=true) : stX c=shrI c (p:Int) qs:=by
 have h1:stL c p=shrI c (p:Int) qs:=by
  unfold stL NoL at *
  obtain ⟨h4,h5⟩:=Qg.1 hq
  have e:lsX c p=(lsX c p).take j++qs::(lsX c p).drop (j+1):=by rw [← h5,← Qy h4,W9]
  rw [e,List.findSome?_append,h,List.findSome?_cons]
  cases e2:shrI c (p:Int) qs with
  | none=>rw [e2] at hn;cases hn
  | some r=>rfl
 unfold stX NoS at *
 have e:List.range c.gs.length=List.range p++p::(List.range' (p+1) (c.gs.length-(p+1))):=by
  have e0:List.range' 0 c.gs.length=List.range' 0 p++List.range' (0+p) (c.gs.length-p):=by rw [List.range'_append_1];congr 1;omega
  rw [List.range_eq_range',List.range_eq_range',e0]
  congr 1
  rw [show c.gs.length-p=(c.gs.length-(p+1))+1 from by omega,List.range'_succ];simp
 rw [e,List.findSome?_append,h0,List.findSome?_cons,h1]
 cases e2:shrI c (p:Int) qs with
 | none=>rw [e2] at hn;cases hn
 | some r=>rfl
theorem Xbb{ls:List Sl}{l:List (List Int)}{j:Nat}{u:Sl}(h:ls.map Sl.l=l)(hu:ls[j]? = some u) : l[j]? = some u.l:=by rw [← h,List.getElem?_map,hu];rfl
theorem Xj7(c:Cx)(p:Nat) : (lsX c p).length≤2:=by
 unfold lsX
 split
 ·simp
 ·split
  ·simp
  ·split<;>simp
theorem Xan(c:Cx)(p:Nat) : ∀ l ∈ lsX c p,l.length≤2:=by
 have h:∀ a b:Int,(putI [a] b).length≤2:=fun a b=>Xi2 [a] b
 unfold lsX
 split
 ·simp
 ·split
  ·exact Xl7 (h _ _)
  ·split
   ·exact Xwf (by simp) (h _ _)
   ·exact Xl7 (by simp)
def stI(c:Cx) : Option Rp:=if cOk c=true then stX c else none
theorem X48{α:Type}{f:α→Option Rp}(hf:∀ a,((f a).getD rpZ).old.length≤40∧((f a).getD rpZ).new.length≤40) : ∀ l:List α,((l.findSome? f).getD rpZ).old.length≤40∧((l.findSome? f).getD rpZ).new.length≤40
 | []=>⟨Qf _,Qf _⟩
 | a::l=>by
  rw [List.findSome?_cons]
  have h:=hf a
  cases e:f a with
  | none=>exact X48 hf l
  | some r=>rw [e] at h;exact h
theorem Xry(c:Cx) : ((stX c).getD rpZ).old.length≤40∧((stX c).getD rpZ).new.length≤40:=by
 unfold stX
 exact X48 (fun p=>by unfold stL;exact X48 (fun qs=>Xrt c (p:Int) qs) (lsX c p)) (List.range c.gs.length)
abbrev Za1(n:Int)(g:List Gt) : Rp:=(stX (⟨n,g⟩ : Cx)).getD rpZ
abbrev Za2(n:Int)(g:List Gt) : Cx:=(applyI (⟨n,g⟩ : Cx) (Za1 n g)).getD cZ
theorem Xis:∀ (k:Nat) (r:List Int) (p:Int),r.Nodup→(∀ x ∈ r,p≤x∧x<p+(k:Int))→r.length≤(List.range k).countP (fun (j:Nat)=>hasB r (p+(j:Int)))
 | 0,r,p,_,h=>by
  cases r with
  | nil=>simp
  | cons x r=>have:=h x (Qk ..);omega
 | k+1,r,p,hd,h=>by
  have h2:∀ x ∈ r.erase (p+(k:Int)),p≤x∧x<p+(k:Int):=fun x hx=>by
   have:=(hd.mem_erase_iff).1 hx
   have h3:=h x this.2;have h4:=this.1
   omega
  have ih:=Xis k (r.erase (p+(k:Int))) p (hd.erase _) h2
  have e:(List.range k).countP (fun (j:Nat)=>hasB (r.erase (p+(k:Int))) (p+(j:Int)))=(List.range k).countP (fun (j:Nat)=>hasB r (p+(j:Int))):=by
   apply List.countP_congr
   intro j hj;have hj:=W2.1 hj
   rw [X8v,X8v,hd.mem_erase_iff]
   exact ⟨fun h=>h.2,fun h=>⟨by omega,h⟩⟩
  rw [List.range_succ,List.countP_append,← e,List.countP_singleton]
  by_cases hm:p+(k:Int) ∈ r
  ·rw [List.length_erase_of_mem hm] at ih
   rw [Q4 (X8v.2 hm)]
   omega
  ·rw [List.erase_of_not_mem hm] at ih
   rw [List.erase_of_not_mem hm]
   omega
theorem Xgf(qs:List Int) : ∀ (l:List Gt) (i:Int) (m:Nat),(rnL qs l i m).Pairwise (· < ·)
 | [],i,m=>by cases m<;>exact List.Pairwise.nil
 | g::l,i,0=>by rw [Xj2];exact List.Pairwise.nil
 | g::l,i,m+1=>by
  rw [rnL]
  split
  ·refine List.Pairwise.cons (fun x hx=>?_) (Xgf qs l (i+1) m)
   obtain ⟨j,e,_⟩:=Xdm qs l (i+1) m x hx
   omega
  ·split
   ·exact List.Pairwise.nil
   ·exact Xgf qs l (i+1) (m+1)
theorem Xm3{r:List Int}(h:r.Pairwise (· < ·)) : ∀ x ∈ r,x≤lastI r:=fun x hx=>by
 obtain ⟨i,hi,rfl⟩:=List.mem_iff_getElem.1 hx
 unfold lastI
 rw [Qa,Qc (by omega),Qq]
 by_cases hl:i=r.length-1
 ·subst hl;exact Int.le_refl _
 ·exact Int.le_of_lt (W0.1 h i (r.length-1) hi (by omega) (by omega))
theorem Xke{c:Cx}{p:Int}{qs:List Int}{w:List Gt}(h:runB c p qs=true)(hw:w.length<(runL c p qs).length) : (newR c p (runL c p qs) w).new.length<(newR c p (runL c p qs) w).old.length:=by
 obtain ⟨j,hj,hjl,hpj,_⟩:=X7c h
 have hi:(runL c p qs).Pairwise (· < ·):=Xgf ..
 have hp:0≤p:=by obtain ⟨_,_,k,e,_⟩:=X29 h;omega
 have hwn:=Xad hj hpj
 have hc:=Xis (winN (runL c p qs) p) (runL c p qs) p (hi.imp fun h=>Int.ne_of_lt h) fun x hx=>by
  obtain ⟨q,e,_,hq,_⟩:=X53 h x hx
  have:=Xm3 hi x hx
  rw [hj] at this
  omega
 have hl:=List.length_eq_countP_add_countP (fun (j:Nat)=>hasB (runL c p qs) (p+(j:Int))) (l:=List.range (winN (runL c p qs) p))
 rw [List.length_range] at hl
 show (w++gapL c (runL c p qs) p (winN (runL c p qs) p)).length<((c.gs.drop p.toNat).take (winN (runL c p qs) p)).length
 rw [Qh,Qn,List.length_drop]
 have e:(gapL c (runL c p qs) p (winN (runL c p qs) p)).length=(List.range (winN (runL c p qs) p)).countP (fun (j:Nat)=>!hasB (runL c p qs) (p+(j:Int))):=by
  unfold gapL;rw [Qo,List.countP_eq_length_filter]
 rw [e]
 have e2:(List.range (winN (runL c p qs) p)).countP (fun a=>decide ¬(fun (j:Nat)=>hasB (runL c p qs) (p+(j:Int))) a=true)=(List.range (winN (runL c p qs) p)).countP (fun (j:Nat)=>!hasB (runL c p qs) (p+(j:Int))):=by
  apply List.countP_congr
  intro j _
  simp
 rw [e2] at hl
 omega
theorem Xh4{c:Cx}{p:Int}{qs:List Int}{r:Rp}(h:shrI c p qs=some r) : r.new.length<r.old.length:=by
 unfold shrI at h
 cases e:runP c p qs with
 | none=>rw [e] at h;cases h
 | some run=>
  obtain ⟨_,hb,e2⟩:=X8g (by rw [e];rfl)
  rw [e,Qz] at h
  rw [e] at e2
  injection e2 with e2
  subst e2
  unfold plX at h
  cases e3:srW qs.length ((opI (xC c (runL c p qs) qs)).getD mZ) with
  | none=>rw [e3] at h;cases h
  | some w=>
   rw [e3,Qz] at h
   split at h
   ·rename_i hw
    unfold repX at h
    split at h
    ·split at h
     ·injection h with h
      subst h
      exact Xke hb (by rw [show (mapI w qs).length=w.length from by unfold mapI;simp];exact hw.1)
     ·cases h
    ·cases h
   ·cases h
theorem Xl1{c:Cx}{r:Rp}(h:stX c=some r) : r.new.length<r.old.length:=by
 obtain ⟨p,_,h⟩:=List.exists_of_findSome?_eq_some h;obtain ⟨qs,_,h⟩:=List.exists_of_findSome?_eq_some h;exact Xh4 h
def pkR:Nat→Cx→Option (List Rp×Cx)
 | 0,c=>some ([],c)
 | k+1,c=>match stX c with
  | none=>some ([],c)
  | some r=>match applyS c r with
   | none=>none
   | some e=>(pkR k e).map fun x=>(r::x.1,x.2)
def pkC(c:Cx) : Cx×List Rp×Cx:=if cOk c=true then (match pkR c.gs.length c with|some x=>(c,x.1,x.2)|none=>(cZ,[],cZ)) else (cZ,[],cZ)
def pkB(c:Cx) : Bool:=cOk c&&(pkR c.gs.length c).isSome
theorem Xf9{c:Cx}(h:stX c=none) : ∀ k,pkR k c=some ([],c)
 | 0=>rfl
 | k+1=>by unfold pkR;rw [h]
theorem Xg2{c e:Cx}{r:Rp}(h:stX c=some r)(ha:applyS c r=some e)(k:Nat) : pkR (k+1) c=(pkR k e).map fun x=>(r::x.1,x.2):=by
 conv=>lhs;unfold pkR
 rw [h];simp only [ha]
theorem Xjs{c:Cx}{r:Rp}(h:stX c=some r)(ha:applyS c r=none)(k:Nat) : pkR (k+1) c=none:=by
 conv=>lhs;unfold pkR
 rw [h];simp only [ha]
structure PkI (c:Cx) (l:List Sr) (d:Cx) (k:Nat) : Prop where
 run:pkR c.gs.length c=(pkR k d).map fun x=>(l.map Sr.rp++x.1,x.2)
 ok:cOk d=true
 n:d.n=c.n
 le:d.gs.length≤k
 len:l.length+d.gs.length≤c.gs.length
 small:∀ s ∈ l,s.old.length≤40∧s.new.length≤40
theorem PkI.sta{c:Cx}(h:cOk c=true) : PkI c [] c c.gs.length:=⟨by simp,h,rfl,Qb _,by simp,fun s hs=>by simp at hs⟩
theorem X8u{c:Cx}{r:Rp}(h:stX c=some r) : 1≤c.gs.length:=by
 cases e:c.gs.length with
 | zero=>unfold stX at h;rw [e] at h;cases h
 | succ k=>omega
theorem X55{c:Cx}{r:Rp}(h:stX c=some r) : r.old.length≤40∧r.new.length≤40:=by
 have:=Xry c;rw [h] at this;exact this
theorem Xax{c e:Cx}{r:Rp}(h:stX c=some r)(ha:applyS c r=some e) : e.gs.length+1≤c.gs.length:=by
 obtain ⟨p,q,h1,h2⟩:=Xf4 ha
 have:=Xl1 h
 rw [h1,h2];simp only [Qh];omega
theorem PkI.nxt{c d e:Cx}{l:List Sr}{k:Nat}(h:PkI c l d k){r:Rp}(hr:stX d=some r)(ha:applyS d r=some e){s:Sr}(hs:s.rp=r) : ∃ k',k=k'+1∧PkI c (l++[s]) e k':=by
 have h1:=X8u hr;have h2:=Xax hr ha;have hle:=h.le
 obtain ⟨k',rfl⟩ : ∃ k',k=k'+1:=⟨k-1,by omega⟩
 refine ⟨k',rfl,?_⟩
 obtain ⟨e1,e2,_⟩:=(X9v h.ok).2 e ha;have hrun:=h.run
 rw [Xg2 hr ha,Option.map_map] at hrun
 refine ⟨?_,e1,e2.trans h.n,by omega,by have:=h.len;simp;omega,fun x hx=>?_⟩
 ·rw [hrun,List.map_append]
  simp only [Qx,List.map_cons,List.map_nil,hs]
  rfl
 ·rcases Qu.1 hx with hx|hx
  ·exact h.small x hx
  ·rw [Qm] at hx
   subst hx
   subst hs
   exact X55 hr
theorem PkI.don{c d:Cx}{l:List Sr}{k:Nat}(h:PkI c l d k)(hc:cOk c=true)(hn:stX d=none) : pkC c=(c,l.map Sr.rp,d)∧pkB c=true:=by
 have e:pkR c.gs.length c=some (l.map Sr.rp,d):=by rw [h.run,Xf9 hn k];simp
 unfold pkC pkB
 rw [Q4 hc,e,hc]
 exact ⟨rfl,rfl⟩
theorem PkI.bd{c d:Cx}{l:List Sr}{k:Nat}{r:Rp}(h:PkI c l d k)(hc:cOk c=true)(hr:stX d=some r)(ha:applyS d r=none) : pkC c=(cZ,[],cZ)∧pkB c=false:=by
 have h1:=X8u hr;have hle:=h.le
 obtain ⟨k',rfl⟩ : ∃ k',k=k'+1:=⟨k-1,by omega⟩
 have e:pkR c.gs.length c=none:=by rw [h.run,Xjs hr ha];rfl
 unfold pkC pkB
 rw [Q4 hc,e,hc]
 exact ⟨rfl,rfl⟩
theorem Xtu{c:Cx}(hc:cOk c=false) : pkC c=(cZ,[],cZ)∧pkB c=false:=by
 unfold pkC pkB
 rw [Q3 (by rw [hc];decide),hc]
 exact ⟨rfl,rfl⟩
end Go.Proofs.YtblmmikapnflcaaGreatDoor
namespace Go.Proofs.YtblmmikapnflcaaGreatDoor
open Go Go.RowKit
section
variable {P : Program} {a : Act} {w : World} {n : Nat} {e : Env} {ty : TypeId} {pos : String} {af : Array Edge} {g : Option (Nat × Bool)} {d : Option Tmp}
theorem Xce{k:FuncId}{cs:List Operand}{vs:List Value}(hf:Fr a n e)(hx:evs e cs=some vs) : Ev P ⟨d,.makeFunc (.func k) cs.toArray #[],ty,pos,af,g⟩ a w (.func (.func k) vs.toArray #[]):=fun w' _=>by
 simp [execOp,Instr.makeFunc,hf.evs hx]
theorem Xh3{k:FuncId}{cs:List Operand}{vs:List Value}(hx:evs e cs=some vs) : EvW P ⟨d,.makeFunc (.func k) cs.toArray #[],ty,pos,af,g⟩ n e w (.func (.func k) vs.toArray #[]):=fun a hf=>Xce hf hx
theorem Xn0{f:FuncId}{x:Operand}{xs:List Operand}{vs cs:List Value}{ts:Array TypeId}{R:Value→World→Prop}(hf:Fr a n e)(hv:ev e x=some (.func (.func f) cs.toArray #[]))(hx:evs e xs=some vs)(hF:FuncF P f)(h:Ret P f (cs++vs) w R) :
  Ef P ⟨d,.call ⟨.value x,xs.toArray,ts⟩,ty,pos,af,g⟩ a w R:=by
 have hm:=hf.evs hx
 have hv':=hf.ev hv
 unfold Ef
 have hr:(execOp a.eval ⟨d,.call ⟨.value x,xs.toArray,ts⟩,ty,pos,af,g⟩).run P w=.ok (.enter f (cs++vs).toArray) w:=by
  simp [execOp,resolve,hv',Deferred.ofValue,invoke,hm,X42 hF]
 rw [hr]
 exact h
theorem Xx5{f:FuncId}{x:Operand}{xs:List Operand}{vs cs:List Value}{ts:Array TypeId}{R:Value→World→Prop}(hv:ev e x=some (.func (.func f) cs.toArray #[]))(hx:evs e xs=some vs)(hF:FuncF P f)(h:Ret P f (cs++vs) w R) : EfW P ⟨d,.call ⟨.value x,xs.toArray,ts⟩,ty,pos,af,g⟩ n e w R:=fun a hf=>Xn0 hf hv hx hF h
end
def ApS(s t:Sr) : Prop:=(Apart s.A t.A∧Apart s.A t.B)∧(Apart s.B t.A∧Apart s.B t.B)
def DeepO(w:World)(B0:Nat)(E:TypeId)(l:List Sr) : Prop:=(∀ s ∈ l,Own w B0 E 3 encG s.A s.c s.old∧Own w B0 E 3 encG s.B s.d s.new∧Apart s.A s.B)∧l.Pairwise ApS
section
variable {w w' : World} {B0 B1 : Nat} {E : TypeId} {l : List Sr} {x s : Sr}
theorem DeepO.nil(w:World)(B0:Nat)(E:TypeId) : DeepO w B0 E []:=⟨fun s hs=>by simp at hs,List.Pairwise.nil⟩
theorem DeepO.one(h1:Own w B0 E 3 encG x.A x.c x.old)(h2:Own w B0 E 3 encG x.B x.d x.new)(ha:Apart x.A x.B) : DeepO w B0 E [x]:=⟨fun s hs=>by rw [Qm.1 hs];exact ⟨h1,h2,ha⟩,List.pairwise_singleton ..⟩
theorem DeepO.below(h:DeepO w B0 E l)(hb:Below w.heap.size w w') : DeepO w' B0 E l:=⟨fun s hs=>⟨(h.1 s hs).1.below hb,(h.1 s hs).2.1.below hb,(h.1 s hs).2.2⟩,h.2⟩
theorem DeepO.onlyT{b:Nat}{T:TypeId}{lc:List Value}(h:DeepO w B0 E l)(ho:Only b w w')(hb:Blk w b T lc)(hT:Nat.beq E T=false) : DeepO w' B0 E l:=⟨fun s hs=>⟨(h.1 s hs).1.onlyT ho hb hT,(h.1 s hs).2.1.onlyT ho hb hT,(h.1 s hs).2.2⟩,h.2⟩
theorem DeepO.appT{α:Type}{B2:Nat}{E':TypeId}{sz:Nat}{enc:α→List Value}{A:Option Addr}{c:Nat}{m:List α}(h:DeepO w B0 E l)(ho:Own w B2 E' sz enc A c m)(hg:w.grownBy w' (Value.slice A m.length c).ownBlock)(hT:Nat.beq E' E=false) : DeepO w' B0 E l:=
 ⟨fun s hs=>⟨(h.1 s hs).1.appT ho hg hT,(h.1 s hs).2.1.appT ho hg hT,(h.1 s hs).2.2⟩,h.2⟩
theorem DeepO.appP{α:Type}{A:Option Addr}{c:Nat}{m:List α}(h:DeepO w B0 E l)(hg:w.grownBy w' (Value.slice A m.length c).ownBlock)(hf:∀ s ∈ l,Apart s.A A∧Apart s.B A) : DeepO w' B0 E l:=
 ⟨fun s hs=>⟨(h.1 s hs).1.appP hg (hf s hs).1,(h.1 s hs).2.1.appP hg (hf s hs).2,(h.1 s hs).2.2⟩,h.2⟩
theorem DeepO.rd(h:DeepO w B0 E l) : DeepR w w.heap.size E l:=fun s hs=>⟨(h.1 s hs).1.rd,(h.1 s hs).2.1.rd⟩
theorem DeepO.tail(h:DeepO w B0 E (x::l)) : DeepO w B0 E l:=⟨fun s hs=>h.1 s (Ql _ hs),h.2.of_cons⟩
theorem DeepO.lower(h:DeepO w B1 E l)(hB:B0≤B1) : DeepO w B0 E l:=⟨fun s hs=>⟨(h.1 s hs).1.lower hB,(h.1 s hs).2.1.lower hB,(h.1 s hs).2.2⟩,h.2⟩
theorem DeepO.fresh{A:Option Addr}{c:Nat}{m:List Gt}(h:DeepO w B0 E l)(h1:Own w' B1 E 3 encG A c m)(hB:w.heap.size≤B1) : ∀ s ∈ l,Apart s.A A∧Apart s.B A:=fun s hs=>⟨(h.1 s hs).1.apart h1 hB,(h.1 s hs).2.1.apart h1 hB⟩
theorem DeepO.snoc(h:DeepO w B0 E l)(h1:Own w B0 E 3 encG x.A x.c x.old)(h2:Own w B0 E 3 encG x.B x.d x.new)(ha:Apart x.A x.B)(f1:∀ s ∈ l,Apart s.A x.A∧Apart s.B x.A)(f2:∀ s ∈ l,Apart s.A x.B∧Apart s.B x.B) : DeepO w B0 E (l++[x]):=by
 refine ⟨fun s hs=>?_,List.pairwise_append.2 ⟨h.2,List.pairwise_singleton ..,fun s hs t ht=>?_⟩⟩
 ·rcases Qu.1 hs with hs|hs
  ·exact h.1 s hs
  ·rw [Qm.1 hs];exact ⟨h1,h2,ha⟩
 ·rw [Qm.1 ht]
  exact ⟨⟨(f1 s hs).1,(f2 s hs).1⟩,⟨(f1 s hs).2,(f2 s hs).2⟩⟩
theorem DeepO.head{p:Int}{A D:Option Addr}{c g:Nat}{m k:List Gt}(h:DeepO w B0 E (⟨p,A,c,m,none,0,[]⟩::l))(hD:Own w B0 E 3 encG D g k)(f:∀ s ∈ (⟨p,A,c,m,none,0,[]⟩::l:List Sr),Apart s.A D∧Apart s.B D) : DeepO w B0 E (⟨p,A,c,m,D,g,k⟩::l):=by
 have h0:=h.1 _ (Qk ..);have h2:=W8.1 h.2
 refine ⟨fun s hs=>?_,W8.2 ⟨fun t ht=>?_,h2.2⟩⟩
 ·rcases Qv.1 hs with rfl|hs
  ·exact ⟨h0.1,hD,(f _ (Qk ..)).1⟩
  ·exact h.1 s (Ql _ hs)
 ·have h3:=f t (Ql _ ht);exact ⟨(h2.1 t ht).1,⟨h3.1.symm,h3.2.symm⟩⟩
theorem DeepO.setA{i:Nat}{m:List Gt}(h:DeepO w B0 E l)(hx:l[i]? = some x)(ho:Own w' B0 E 3 encG x.A x.c m)(hg:w.grownBy w' (Value.slice x.A x.old.length x.c).ownBlock) : DeepO w' B0 E (l.set i ⟨x.pos,x.A,x.c,m,x.B,x.d,x.new⟩):=by
 obtain ⟨hi,hxi⟩:=Qg.1 hx;have hp:=W0.1 h.2;have hxm:=h.1 x (Qe hx)
 have stay:∀ j (hj:j<l.length),j≠i→ApS l[j] x∨ApS x l[j]:=fun j hj hne=>by
  rcases Nat.lt_or_gt_of_ne hne with h1|h1
  ·left;have:=hp j i hj hi h1;rw [hxi] at this;exact this
  ·right;have:=hp i j hi hj h1;rw [hxi] at this;exact this
 refine ⟨fun s hs=>?_,W0.2 fun j k hj hk hjk=>?_⟩
 ·obtain ⟨j,hj,rfl⟩:=List.mem_iff_getElem.1 hs
  rw [List.length_set] at hj
  rw [List.getElem_set]
  split
  ·exact ⟨ho,hxm.2.1.appP hg hxm.2.2.symm,hxm.2.2⟩
  ·rename_i hne
   have h1:=h.1 l[j] (List.getElem_mem hj)
   rcases stay j hj (fun e=>hne e.symm) with h2|h2
   ·exact ⟨h1.1.appP hg h2.1.1,h1.2.1.appP hg h2.2.1,h1.2.2⟩
   ·exact ⟨h1.1.appP hg h2.1.1.symm,h1.2.1.appP hg h2.1.2.symm,h1.2.2⟩
 ·rw [List.length_set] at hj hk
  have h1:=hp j k hj hk hjk
  rw [List.getElem_set,List.getElem_set]
  split
  ·rename_i e;subst e;rw [Q3 (by omega)];rw [hxi] at h1;exact h1
  ·split
   ·rename_i e;subst e;rw [hxi] at h1;exact h1
   ·exact h1
theorem DeepO.setB{i:Nat}{m:List Gt}(h:DeepO w B0 E l)(hx:l[i]? = some x)(ho:Own w' B0 E 3 encG x.B x.d m)(hg:w.grownBy w' (Value.slice x.B x.new.length x.d).ownBlock) : DeepO w' B0 E (l.set i ⟨x.pos,x.A,x.c,x.old,x.B,x.d,m⟩):=by
 obtain ⟨hi,hxi⟩:=Qg.1 hx;have hp:=W0.1 h.2;have hxm:=h.1 x (Qe hx)
 have stay:∀ j (hj:j<l.length),j≠i→ApS l[j] x∨ApS x l[j]:=fun j hj hne=>by
  rcases Nat.lt_or_gt_of_ne hne with h1|h1
  ·left;have:=hp j i hj hi h1;rw [hxi] at this;exact this
  ·right;have:=hp i j hi hj h1;rw [hxi] at this;exact this
 refine ⟨fun s hs=>?_,W0.2 fun j k hj hk hjk=>?_⟩
 ·obtain ⟨j,hj,rfl⟩:=List.mem_iff_getElem.1 hs
  rw [List.length_set] at hj
  rw [List.getElem_set]
  split
  ·exact ⟨hxm.1.appP hg hxm.2.2,ho,hxm.2.2⟩
  ·rename_i hne
   have h1:=h.1 l[j] (List.getElem_mem hj)
   rcases stay j hj (fun e=>hne e.symm) with h2|h2
   ·exact ⟨h1.1.appP hg h2.1.2,h1.2.1.appP hg h2.2.2,h1.2.2⟩
   ·exact ⟨h1.1.appP hg h2.2.1.symm,h1.2.1.appP hg h2.2.2.symm,h1.2.2⟩
 ·rw [List.length_set] at hj hk
  have h1:=hp j k hj hk hjk
  rw [List.getElem_set,List.getElem_set]
  split
  ·rename_i e;subst e;rw [Q3 (by omega)];rw [hxi] at h1;exact h1
  ·split
   ·rename_i e;subst e;rw [hxi] at h1;exact h1
   ·exact h1
theorem DeepO.pos{i:Nat}{p:Int}(h:DeepO w B0 E l)(hx:l[i]? = some x) : DeepO w B0 E (l.set i ⟨p,x.A,x.c,x.old,x.B,x.d,x.new⟩):=by
 obtain ⟨hi,hxi⟩:=Qg.1 hx;have hp:=W0.1 h.2;have hxm:=h.1 x (Qe hx)
 refine ⟨fun s hs=>?_,W0.2 fun j k hj hk hjk=>?_⟩
 ·obtain ⟨j,hj,rfl⟩:=List.mem_iff_getElem.1 hs
  rw [List.length_set] at hj
  rw [List.getElem_set]
  split
  ·exact hxm
  ·exact h.1 _ (List.getElem_mem hj)
 ·rw [List.length_set] at hj hk
  have h1:=hp j k hj hk hjk
  rw [List.getElem_set,List.getElem_set]
  split
  ·rename_i e;subst e;rw [Q3 (by omega)];rw [hxi] at h1;exact h1
  ·split
   ·rename_i e;subst e;rw [hxi] at h1;exact h1
   ·exact h1
end
def zsS:List Sr→Int
 | []=>0
 | s::l=>1+3*(s.old.length:Int)+3*(s.new.length:Int)+zsS l
def mk1(k:Int)(s:Sr) : Sr:=⟨k,s.A,s.c,markG (k+1) s.old.length,s.B,s.d,markG (k+1+3*(s.old.length:Int)) s.new.length⟩
def markS:Int→List Sr→List Sr
 | _,[]=>[]
 | k,s::l=>mk1 k s::markS (k+(1+3*(s.old.length:Int)+3*(s.new.length:Int))) l
def hl1(s:Sr)(k:Int) : Int:=if s.pos=k then (if heldG s.old (k+1)<0 then -1 else if heldG s.new (heldG s.old (k+1))<0 then -1 else heldG s.new (heldG s.old (k+1))) else -1
def hlS:List Sr→Int→Int
 | [],k=>k
 | s::l,k=>if hl1 s k<0 then -1 else hlS l (hl1 s k)
def hlC(c:List Gt)(l:List Sr)(d:List Gt)(k:Int) : Int:=if heldG c k<0 then -1 else if hlS l (heldG c k)<0 then -1 else if heldG d (hlS l (heldG c k))<0 then -1 else heldG d (hlS l (heldG c k))
theorem X3n:∀ l,0≤zsS l
 | []=>Int.le_refl _
 | s::l=>by have:=X3n l;unfold zsS;omega
theorem Xa2{m:Nat} : ∀ {l:List Sr},(∀ s ∈ l,s.old.length≤m∧s.new.length≤m)→zsS l≤(l.length:Int)*(1+6*(m:Int))
 | [],_=>by simp [zsS]
 | s::l,h=>by
  have h1:=h s (Qk ..)
  have h2:=Xa2 fun x hx=>h x (Ql _ hx)
  unfold zsS
  rw [Qs,show ((l.length+1:Nat) : Int)=(l.length:Int)+1 from by omega,Int.add_mul]
  omega
theorem Xih:∀ (a b:List Sr),zsS (a++b)=zsS a+zsS b
 | [],b=>by simp [zsS]
 | s::a,b=>by rw [Wa,zsS,zsS,Xih a b];omega
theorem Xe4{l:List Sr}{j:Nat}{u:Sr}(h:l[j]? = some u) : zsS (l.take (j+1))=zsS (l.take j)+(1+3*(u.old.length:Int)+3*(u.new.length:Int)):=by
 rw [Qt,h,Xih];simp [zsS]
theorem X27:∀ (k:Int) (l:List Sr),(markS k l).length=l.length
 | _,[]=>rfl
 | k,s::l=>by rw [markS,Qs,Qs,X27]
theorem Xaq:∀ (k:Int) (a b:List Sr),markS k (a++b)=markS k a++markS (k+zsS a) b
 | k,[],b=>by simp [markS,zsS]
 | k,s::a,b=>by rw [Wa,markS,markS,Xaq,zsS,Wa];simp only [Int.add_assoc]
theorem X4h{m:Nat} : ∀ {l:List Sr} {k:Int},(∀ s ∈ l,s.old.length≤m∧s.new.length≤m)→∀ s ∈ markS k l,s.old.length≤m∧s.new.length≤m
 | [],_,_,s,hs=>by simp [markS] at hs
 | x::l,k,h,s,hs=>by
  rw [markS] at hs
  rcases Qv.1 hs with rfl|hs
  ·have:=h x (Qk ..)
   simp only [mk1,X1x];exact this
  ·exact X4h (fun y hy=>h y (Ql _ hy)) s hs
def MkU(k:Int)(l:List Sr)(j:Nat)(m:List Sr) : Prop:=m=markS k (l.take j)++l.drop j
theorem Xng(k:Int)(l:List Sr) : MkU k l 0 l:=by simp [MkU,markS]
theorem Xsj{k:Int}{l m:List Sr}{j:Nat}{u:Sr}(h:MkU k l j m)(hu:m[j]? = some u)(hj:j<l.length) : l[j]? = some u:=by
 rw [h,W5 (by rw [X27,Qn];omega),X27,Qn,List.getElem?_drop] at hu
 rw [← hu];congr 1;omega
theorem Xpc{k q:Int}{l m:List Sr}{j:Nat}{u:Sr}(h:MkU k l j m)(hu:l[j]? = some u)(hq:q=k+zsS (l.take j)) : MkU k l (j+1) (m.set j (mk1 q u)):=by
 obtain ⟨h1,h2⟩:=Qg.1 hu
 unfold MkU at h ⊢
 rw [h,List.set_append_right _ _ (by rw [X27,Qn];omega),X27,Qn,show j-min j l.length=0 from by omega]
 rw [Qy h1,h2,List.set_cons_zero,Qt,hu,Xaq,← hq]
 simp [markS]
theorem Xrf{k:Int}{l m:List Sr}{j:Nat}(h:MkU k l j m)(hj:l.length≤j) : m=markS k l:=by
 rw [h,Qi hj,W3 hj,List.append_nil]
theorem Xot{k:Int}(hk:0≤k)(s:Sr) : hl1 (mk1 k s) k=k+(1+3*(s.old.length:Int)+3*(s.new.length:Int)):=by
 have h1:=X3j s.old.length (k+1);have h2:=X3j s.new.length (k+1+3*(s.old.length:Int))
 show (if k=k then (if heldG (markG (k+1) s.old.length) (k+1)<0 then (-1:Int) else if heldG (markG (k+1+3*(s.old.length:Int)) s.new.length) (heldG (markG (k+1) s.old.length) (k+1))<0 then -1 else heldG (markG (k+1+3*(s.old.length:Int)) s.new.length) (heldG (markG (k+1) s.old.length) (k+1))) else -1)=_
 rw [Q4 rfl,h1,Q3 (by omega),h2,Q3 (by omega)]
 omega
theorem Xf1:∀ {k:Int} (l:List Sr),0≤k→hlS (markS k l) k=k+zsS l
 | _,[],_=>by simp [hlS,markS,zsS]
 | k,s::l,hk=>by
  rw [markS,hlS,Xot hk,Q3 (by omega),Xf1 l (by omega),zsS];omega
theorem Xem(a b:Nat)(l:List Sr){k:Int}(hk:0≤k) : hlC (markG k a) (markS (k+3*(a:Int)) l) (markG (k+3*(a:Int)+zsS l) b) k=k+3*(a:Int)+zsS l+3*(b:Int):=by
 have:=X3n l
 unfold hlC
 rw [X3j,Q3 (by omega),Xf1 l (by omega),Q3 (by omega),X3j,Q3 (by omega)]
theorem Xwe(s:Sr){k:Int}(hk:0≤k) : hl1 s k≤k+(1+3*(s.old.length:Int)+3*(s.new.length:Int)):=by
 have h1:=X3w s.old (k+1) (by omega)
 unfold hl1
 split
 ·split
  ·omega
  ·rename_i h
   have h2:=X3w s.new (heldG s.old (k+1)) (by omega)
   split
   ·omega
   ·omega
 ·omega
theorem Xlo:∀ (l:List Sr) (k:Int),0≤k→hlS l k≤k+zsS l
 | [],k,_=>by simp [hlS,zsS]
 | s::l,k,hk=>by
  have h1:=Xwe s hk
  rw [hlS,zsS]
  split
  ·have:=X3n l;omega
  ·have:=Xlo l (hl1 s k) (by omega);omega
theorem Xq7{l:List Sr}{j:Nat}{u:Sr}{k:Int}(h:l[j]? = some u) : hlS (l.drop j) k=if hl1 u k<0 then -1 else hlS (l.drop (j+1)) (hl1 u k):=by
 rw [Xhm h];rfl
theorem Own.reS{w:World}{B:Nat}{E:TypeId}{A:Option Addr}{c:Nat}{m:List Sr}{j:Nat}{u:Sr}{a b:List Gt}(h:Own w B E 3 encSr A c m)(hu:m[j]? = some u)(ha:a.length=u.old.length)(hb:b.length=u.new.length) : Own w B E 3 encSr A c (m.set j ⟨u.pos,u.A,u.c,a,u.B,u.d,b⟩):=by
 obtain ⟨h1,h2⟩:=Qg.1 hu
 have e:(m.set j ⟨u.pos,u.A,u.c,a,u.B,u.d,b⟩).flatMap encSr=m.flatMap encSr:=by
  have e1:(m.set j ⟨u.pos,u.A,u.c,a,u.B,u.d,b⟩).map encSr=m.map encSr:=by
   rw [List.map_set]
   apply List.ext_getElem (by simp)
   intro i h3 h4
   rw [List.getElem_set]
   split
   ·rename_i e;subst e
    rw [List.getElem_map,h2]
    unfold encSr;rw [ha,hb]
   ·rfl
  rw [List.flatMap_def,List.flatMap_def,e1]
 unfold Own at h ⊢
 rw [List.length_set,e]
 exact h
theorem Xf6:∀ (k:Nat) (c:Cx) (l:List Rp) (d:Cx),pkR k c=some (l,d)→(∀ r ∈ l,r.old.length≤40∧r.new.length≤40)∧l.length+d.gs.length≤c.gs.length
 | 0,c,l,d,h=>by
  unfold pkR at h;injection h with h;injection h with h1 h2;subst h1;subst h2
  exact ⟨fun r hr=>by simp at hr,by simp⟩
 | k+1,c,l,d,h=>by
  cases hx:stX c with
  | none=>
   rw [Xf9 hx] at h;injection h with h;injection h with h1 h2;subst h1;subst h2
   exact ⟨fun r hr=>by simp at hr,by simp⟩
  | some r=>
   cases ha:applyS c r with
   | none=>rw [Xjs hx ha] at h;cases h
   | some e=>
    rw [Xg2 hx ha] at h
    cases hp:pkR k e with
    | none=>rw [hp] at h;cases h
    | some y=>
     rw [hp,Option.map_some] at h;injection h with h;injection h with h1 h2;subst h1;subst h2
     obtain ⟨h3,h4⟩:=Xf6 k e y.1 y.2 hp;have h5:=Xax hx ha
     refine ⟨fun q hq=>?_,by rw [Qs];omega⟩
     rcases Qv.1 hq with rfl|hq
     ·exact X55 hx
     ·exact h3 q hq
theorem Xe1(c:Cx) : (pkC c).1.gs.length≤400∧(pkC c).2.2.gs.length≤400∧(pkC c).2.1.length≤400∧∀ r ∈ (pkC c).2.1,r.old.length≤40∧r.new.length≤40:=by
 unfold pkC
 split
 ·rename_i hc
  have hl:=Xwo hc
  cases hp:pkR c.gs.length c with
  | none=>exact ⟨Qf _,Qf _,Qf _,fun r hr=>by cases hr⟩
  | some y=>
   obtain ⟨h1,h2⟩:=Xf6 _ c y.1 y.2 hp;exact ⟨hl,by show y.2.gs.length≤400;omega,by show y.1.length≤400;omega,h1⟩
 ·exact ⟨Qf _,Qf _,Qf _,fun r hr=>by cases hr⟩
theorem Xnn{c:Cx}{l:List Sr}(h:l.map Sr.rp=(pkC c).2.1) : l.length≤400∧∀ s ∈ l,s.old.length≤40∧s.new.length≤40:=by
 obtain ⟨_,_,h3,h4⟩:=Xe1 c
 rw [← h] at h3 h4
 rw [Qo] at h3
 exact ⟨h3,fun s hs=>h4 s.rp (List.mem_map_of_mem hs)⟩
structure Mk (B:Nat) (E1 E2:TypeId) (w w':World) : Prop where
 bel:Below B w w'
 le:B≤w.heap.size
 size:w.heap.size≤w'.heap.size
 kept:∀ b T lc,Blk w b T lc→Nat.beq E1 T=false→Nat.beq E2 T=false→Blk w' b T lc
theorem Mk.refl{B:Nat}{E1 E2:TypeId}{w:World}(h:B≤w.heap.size) : Mk B E1 E2 w w:=⟨Below.refl _ _,h,Qb _,fun _ _ _ h _ _=>h⟩
theorem Mk.below{B:Nat}{E1 E2:TypeId}{w w1 w2:World}(h:Mk B E1 E2 w w1)(hE:Below w1.heap.size w1 w2) : Mk B E1 E2 w w2:=
 ⟨h.bel.trans (hE.mono (Q0 h.le h.size)),h.le,Q0 h.size hE.size,fun b T lc hb h1 h2=>(h.kept b T lc hb h1 h2).below hE⟩
theorem Mk.app{B:Nat}{E E1 E2:TypeId}{w w1 w2:World}{sz:Nat}{α:Type}{enc:α→List Value}{A:Option Addr}{c:Nat}{l:List α}(h:Mk B E1 E2 w w1)(ho:Own w1 B E sz enc A c l)(hg:w1.grownBy w2 (Value.slice A l.length c).ownBlock)(hT:E=E1∨E=E2) : Mk B E1 E2 w w2:=
 ⟨Below.app h.bel ho hg (Qb _) (Q0 h.le h.size),h.le,Q0 h.size hg.size,fun b T lc hb h1 h2=>(h.kept b T lc hb h1 h2).appT ho hg (by rcases hT with e|e<;>rw [e]<;>assumption)⟩
theorem Mk.trans{B:Nat}{E1 E2:TypeId}{w w1 w2:World}(h:Mk B E1 E2 w w1)(k:Mk B E1 E2 w1 w2) : Mk B E1 E2 w w2:=
 ⟨h.bel.trans k.bel,h.le,Q0 h.size k.size,fun b T lc hb h1 h2=>k.kept b T lc (h.kept b T lc hb h1 h2) h1 h2⟩
end Go.Proofs.YtblmmikapnflcaaGreatDoor
namespace Go.Proofs.YtblmmikapnflcaaGreatDoor
open Go.RowKit
theorem Xzs(w0:World)(c:Cx)(Ac:Option Addr)(cc:Nat)(f:Rd w0 w0.heap.size 115 encG Ac c.gs)(aA:c.gs.length≤cc)(p:Nat)(b0:cOk c=true)(cA:p<c.gs.length) : Ret Tryz.prog 96 [.agg #[vi c.n,.slice Ac c.gs.length cc],vi (p:Int)] w0 (fun v w=>∃ A9 e9 ls,v=.slice A9 (List.length (α:=Sl) ls) e9∧Rd w w.heap.size 43 encS A9 ls∧(∀ s9 ∈ ls,Rd w w.heap.size 3 encI s9.A s9.l)∧ls.map Sl.l=lsX c p∧Below w0.heap.size w0 w):=by
 obtain ⟨cW,cX,cB⟩:=X14 b0;obtain ⟨x,aD⟩:=Xf (l:=c.gs) (k:=p) cA;have cT:=cB x (Qe aD);have cY:=X3l x
 have cU:(c.gs.drop (p+1)).length≤400:=by rw [List.length_drop];omega
 refine enter Tryz.func96 rfl 65 rfl rfl ?_;intro a m
 have o:=bz w0
 refine Zs m fun _ cC=>?_;refine Zf (X0i (zs:=[vi c.n,.slice Ac c.gs.length cc]) rfl rfl) ?_;rintro _ w1 ⟨b3,rfl,cD,q,y⟩;have cV:=Q0 o.size cD;have f:=f.below q;have o:=btr o q;refine Za rfl<|Zx cC fun a m _ cE=>?_;refine Ze (Vd rfl X0g 1)<|Ze (X0 rfl X0m (y.at 1))<|Zm rfl<|Zi (k:=p) (u:=x) (enc:=encG) (l:=c.gs) trivial rfl rfl Xb X0h X9 f aD rfl ?_;intro p7 b1;refine Ze (Xw (l:=[vi x.k,vi x.a,vi x.b]) rfl X0f b1 rfl)<|Zf (X8 (zs:=[vi 0,vi 0,vi 0]) X2q rfl) ?_;rintro _ w2 ⟨b8,rfl,b2,q,t⟩;have aO:=Q0 o.size b2;have c4:=f.away b2;have y:=y.below q;have f:=f.below q;have o:=btr o q;refine Zo (Vw [vi x.k,vi x.a,vi x.b] X0h t) ?_;rintro _ w3 ⟨ho,hb⟩;have M:=t;have y:=y.only ho (Blk.ne y M rfl);have f:=f.only ho aO;have o:=Below.only o ho aO;have t:=hb;refine ZX cE fun a m _ cF=>?_;refine Q8<|Zs m fun _ b4=>?_;refine Ze (Vd rfl X0o 0)<|Ze (X0 rfl X7 (t.at 0))<|Ze (X16 rfl rfl)<|Za rfl<|Zt b4 fun a m=>?_
 refine Xj m rfl (fun N=>?_) (fun N=>?_)
 ·have z:=N
  have L:x.k=12:=by simpa using N
  have E:=Xz2 aD L;refine Zs m fun _ b5=>?_;refine Za rfl<|Zt b5 fun a m=>?_;refine Q6<|Xm<|X2<|X3 m (Xs m rfl rfl) ?_;exact ⟨none,0,[],rfl,Rd.nil _ _ _ _ _,(fun _ h=>by cases h),by rw [E];rfl,o⟩
 have z:=N
 have L:¬ x.k=12:=by simpa using N
 refine Zs m fun _ b6=>?_;refine Ze (Vd rfl X0o 0)<|Ze (X0 rfl X7 (t.at 0))<|Zf (Vc (F99 _ x.k) Xaa) ?_;rintro _ _ ⟨rfl,rfl⟩;refine Za rfl<|Zt b6 fun a m=>?_
 refine Xj m rfl (fun Q=>?_) (fun Q=>?_)
 ·have B:=Q
  have b7:inR x.k 9 11=true:=Q
  have E:lsX c p=[unionI (qubI x) []]:=by rw [Xp3 aD L b7,X6r L b7,Xit]
  refine Zs m fun _ b9=>?_;refine Ze (Vn X0f t)<|Zf (Vc (F96 _ x) Xi9) ?_;rintro _ w4 ⟨cG,cH,rfl,aF,q⟩;have aF:=aF.lower o.size;have o:=btr o q;refine Zf (Vc (F47 _ cG cH (qubI x) aF.rd.top none 0 ([] : List Int) (Rd.nil _ _ _ _ _) (by omega) (by simp)) Xuc) ?_;rintro _ w5 ⟨aQ,aR,rfl,U,q⟩;have U:=U.lower o.size;have o:=btr o q;refine Zf (X5 (k:=1) (vs:=[.slice aQ (unionI (qubI x) ([] : List Int)).length aR]) (zs:=[.slice aQ (unionI (qubI x) ([] : List Int)).length aR]) rfl X2h X4w rfl rfl) ?_;rintro _ w6 ⟨cJ,rfl,bC,q,aP⟩;have cK:=Q0 o.size bC;have U:=U.below q;have o:=btr o q;refine Za rfl<|Zt b9 fun a m=>?_;refine Q6<|Xm<|X2<|X3 m (Xs m rfl rfl) ?_;exact ⟨(some ⟨cJ,0,none⟩),1,[(⟨aQ,aR,(unionI (qubI x) ([] : List Int))⟩ : Sl)],rfl,(Rd.of_blk aP rfl _ aP.lt),(Xl7 U.rd.top),by rw [E];rfl,o⟩
 have B:=Q
 have bD:inR x.k 9 11=false:=Q
 refine Q7<|Xq<|cF _ _<|Zs m fun _ bE=>?_;refine Ze (Vd rfl X0k 1)<|Ze (X0 rfl X7 (t.at 1))<|Zf (X5 (k:=1) (vs:=[vi x.a]) (zs:=[vi x.a]) rfl X0b X1u rfl rfl) ?_;rintro _ w7 ⟨J,rfl,bF,q,e⟩;have cL:=Q0 o.size bF;have y:=y.below q;have t:=t.below q;have f:=f.below q;have o:=btr o q;refine Zf (X5 (k:=1) (vs:=[.slice (some ⟨J,0,none⟩) ([x.a]).length 1]) (zs:=[.slice (some ⟨J,0,none⟩) ([x.a]).length 1]) rfl X2h X4w rfl rfl) ?_;rintro _ w8 ⟨aG,rfl,bG,q,g⟩;have aH:=Q0 o.size bG;have y:=y.below q;have t:=t.below q;have e:=e.below q;have f:=f.below q;have o:=btr o q;refine Za rfl<|ZX bE fun a m _ bH=>?_;refine Zs m fun _ bI=>?_;refine Ze (Vd rfl X0g 1)<|Ze (X0 rfl X0m (y.at 1))<|Zm rfl<|Ze (X00 rfl rfl (by omega) (by omega)) ?_;have D:=(f.top).dropK X9 (c:=cc) aA (p+1);refine Ze (Xa7 (l:=c.gs) (k:=(p+1)) rfl rfl Xb X0h rfl (by omega))<|Ze (X0p rfl Xb)<|Zm rfl<|Zt bI fun a m=>?_;refine Q8<|X0a (σ:=Nat) (fun (k:Nat) (a:Act) (w:World)=>Fr a 65 [(5,.pointer (some ⟨b8,0,none⟩)),(6,.slice (some ⟨aG,0,none⟩) ([(⟨some ⟨J,0,none⟩,1,[x.a]⟩ : Sl)]).length 1),(34,.slice (if cc=(p+1) then Ac else Ac.map (·.add ((p+1)*3))) (c.gs.drop (p+1)).length (cc-(p+1))),(35,vi ((c.gs.drop (p+1)).length:Int)),(36,vi (k:Int))]∧(k≤(c.gs.drop (p+1)).length)∧(NoW c p k x.a)∧Blk w b3 28 [vi c.n,.slice Ac c.gs.length cc]∧Blk w b8 115 [vi x.k,vi x.a,vi x.b]∧Blk w J 3 [vi x.a]∧Blk w aG 43 [.slice (some ⟨J,0,none⟩) ([x.a]).length 1]∧Rd w w0.heap.size 115 encG Ac c.gs∧Rd w w8.heap.size 115 encG (if cc=(p+1) then Ac else Ac.map (·.add ((p+1)*3))) (c.gs.drop (p+1))∧c.gs.length≤cc∧Below w0.heap.size w0 w) (fun (k:Nat)=>(c.gs.drop (p+1)).length-k) 0 ?_ ?_
 ·exact ⟨m.sb,(Qf _),rfl,y,t,e,g,f,D,aA,o⟩
 rintro k a w9 ⟨m,hk,aS,y,t,e,g,f,D,aA,o⟩;refine Zs m fun _ bJ=>?_;refine Ze (X11 rfl rfl)<|ZX bJ fun a m _ bK=>?_
 refine Xj m rfl (fun H=>?_) (fun H=>?_)
 ·have C:=H;have H:=Q2 H
  obtain ⟨i,aI⟩:=Xf (l:=(c.gs.drop (p+1))) (k:=k) (by omega)
  refine Q7<|bK _ _<|Q5 fun _ bL=>?_;refine Q8<|Zs m fun _ bM=>?_;refine Zi (k:=k) (u:=i) (enc:=encG) (l:=(c.gs.drop (p+1))) trivial rfl rfl Xb X0h X9 D aI rfl ?_;intro d5 aT;refine Ze (Xw (l:=[vi i.k,vi i.a,vi i.b]) rfl X0f aT rfl)<|Zf (X8 (zs:=[vi 0,vi 0,vi 0]) X2q rfl) ?_;rintro _ d6 ⟨b38,rfl,aJ,q,I⟩
  have bN:b8≠b38:=by have:=t.lt;omega
  have aK:=Q0 o.size aJ;have bO:=f.away aJ;have aE:=D.away aJ;have y:=y.below q;have t:=t.below q;have e:=e.below q;have g:=g.below q;have f:=f.below q;have D:=D.below q;have o:=btr o q;refine Zo (Vw [vi i.k,vi i.a,vi i.b] X0h I) ?_;rintro _ cM ⟨ho,hb⟩;have M:=I;have y:=y.only ho (Blk.ne y M rfl);have t:=t.only ho (by omega);have e:=e.only ho (Blk.ne e M rfl);have g:=g.only ho (Blk.ne g M rfl);have f:=f.only ho aK;have D:=D.onlyA ho aE;have o:=Below.only o ho aK;have I:=hb;refine ZX bM fun a m _ bP=>?_;refine X0l (fun a w=>Fr a 65 [(5,.pointer (some ⟨b8,0,none⟩)),(6,.slice (some ⟨aG,0,none⟩) ([(⟨some ⟨J,0,none⟩,1,[x.a]⟩ : Sl)]).length 1),(8,.pointer (some ⟨b38,0,none⟩)),(34,.slice (if cc=(p+1) then Ac else Ac.map (·.add ((p+1)*3))) (c.gs.drop (p+1)).length (cc-(p+1))),(35,vi ((c.gs.drop (p+1)).length:Int)),(36,vi (k:Int)),(56,.bool ((inR i.k 9 11)&&((i.a==x.a)||(i.b==x.a))))]∧cM=w) ?_ ?_
  ·refine Zr m<|Ze (Vd rfl X0o 0)<|Ze (X0 rfl X7 (I.at 0))<|Zf (Vc (F99 _ i.k) Xaa) ?_;rintro _ _ ⟨rfl,rfl⟩;refine Zm rfl ?_
   refine Zg 43 rfl (fun d=>?_) (fun d=>?_)
   ·refine Zv (gW d) (Vd rfl X0k 1) ?_;refine Zv (gW d) (X0 rfl X7 (I.at 1)) ?_;refine Zv (gW d) (Vd rfl X0k 1) ?_;refine Zv (gW d) (X0 rfl X7 (t.at 1)) ?_;refine Zv (gW d) (X16 rfl rfl) ?_;refine Zv (gW d) (Xa rfl) ?_
    refine Zg 49 rfl (fun j=>?_) (fun j=>?_)
    ·refine Zp (gP j) ?_;refine Zp (gP j) ?_;refine Zp (gP j) ?_;refine Zp (gP j) ?_;refine Zp (gP j) ?_;refine Zv (gW d) (Xl rfl j rfl) ?_;refine Ze (Xl rfl d rfl) ?_;refine Zn fun a m=>?_;exact ⟨m.sub ⟨rfl,rfl,rfl,rfl,rfl,rfl,X1 rfl (by first|rfl|(simp only [z,B,C,d,j,bs];done)|simp [z,B,C,d,j]),trivial⟩,rfl⟩
    refine Zv (gW j) (Vd rfl X10 2) ?_;refine Zv (gW j) (X0 rfl X7 (I.at 2)) ?_;refine Zv (gW j) (Vd rfl X0k 1) ?_;refine Zv (gW j) (X0 rfl X7 (t.at 1)) ?_;refine Zv (gW j) (X16 rfl rfl) ?_;refine Zv (gW d) (Xe rfl j rfl) ?_;refine Ze (Xl rfl d rfl) ?_;refine Zn fun a m=>?_;exact ⟨m.sub ⟨rfl,rfl,rfl,rfl,rfl,rfl,X1 rfl (by first|rfl|(simp only [z,B,C,d,j,bs];done)|simp [z,B,C,d,j]),trivial⟩,rfl⟩
   refine Zp (gP d) ?_;refine Zp (gP d) ?_;refine Zp (gP d) ?_;refine Zp (gP d) ?_;refine Zp (gP d) ?_;refine Zp (gP d) ?_;refine Zp (gP trivial) ?_;refine Zp (gP trivial) ?_;refine Zp (gP trivial) ?_;refine Zp (gP trivial) ?_;refine Zp (gP trivial) ?_;refine Zp (gP d) ?_;refine Ze (Xe rfl d rfl) ?_;refine Zn fun a m=>?_;exact ⟨m.sub ⟨rfl,rfl,rfl,rfl,rfl,rfl,X1 rfl (by first|rfl|(simp only [z,B,C,d,bs];done)|simp [z,B,C,d]),trivial⟩,rfl⟩
  rintro a _ ⟨m,rfl⟩;refine bP _ _ ?_
  refine Xj m rfl (fun W=>?_) (fun W=>?_)
  ·have aU:=W
   have bQ:isW x.a i=true:=W
   have bR:inR i.k 9 11=true:=((Qd _ _▸bQ:inR i.k 9 11=true∧(i.a==x.a||i.b==x.a)=true)).1
   have bS:=Xtr bR;have d7:=X3l i;have E:=Xf7 aD L bD aS aI bQ
   rw [show putI [i.a] i.b=unionI (qubI i) [] from by rw [X6r bS bR,Xit]] at E
   refine Zs m fun _ bU=>?_;refine Zm rfl<|Ze (Vn X0f I)<|Zf (Vc (F96 _ i) Xi9) ?_;rintro _ d8 ⟨cN,cO,rfl,aB,q⟩;have aW:=aB.awayNew e.lt;have aB:=aB.lower o.size;have e:=e.below q;have g:=g.below q;have o:=btr o q;refine Zf (Vc (F47 _ cN cO (qubI i) aB.rd.top none 0 ([] : List Int) (Rd.nil _ _ _ _ _) (by omega) (by simp)) Xuc) ?_;rintro _ d9 ⟨aM,aN,rfl,G,q⟩;have aX:=G.awayNew e.lt;have G:=G.lower o.size;have e:=e.below q;have g:=g.below q;have o:=btr o q;refine Zf (X5 (k:=1) (vs:=[.slice aM (unionI (qubI i) ([] : List Int)).length aN]) (zs:=[.slice aM (unionI (qubI i) ([] : List Int)).length aN]) rfl X2h X4w rfl rfl) ?_;rintro _ dA ⟨b47,rfl,bW,q,aL⟩
   have aY:aG≠b47:=by have:=g.lt;omega
   have cP:=Q0 o.size bW;have e:=e.below q;have g:=g.below q;have G:=G.below q;have o:=btr o q;refine Zf (X0v (enc:=encS) (l:=([(⟨some ⟨J,0,none⟩,1,[x.a]⟩ : Sl)])) (l2:=([(⟨aM,aN,(unionI (qubI i) ([] : List Int))⟩ : Sl)])) (B0:=w0.heap.size) rfl rfl X2h X4w X3h Xpa (Own.of_blkL X3h g aH rfl rfl (Nat.le_of_ble_eq_true rfl)) (Rd.of_blk aL rfl _ aL.lt) (by simp only [maxLen];simp) (by simp) o.size) ?_;rintro _ dB ⟨cQ,cR,rfl,bX,hg,bY⟩
   have aC:Own _ w0.heap.size 43 1 encS _ _ ([(⟨some ⟨J,0,none⟩,1,[x.a]⟩ : Sl)]):=(Own.of_blkL X3h g aH rfl rfl (Nat.le_of_ble_eq_true rfl))
   have aZ:=bY _ aL.lt (Away.ne (by omega))
   clear bY;have e:=e.appT aC hg rfl;have G:=G.appT aC hg rfl;have o:=Below.app o aC hg (Qb _) o.size;clear aC hg;refine Za rfl<|Zt bU fun a m=>?_;refine Q6<|Xm<|X2<|X2 ?_;refine Xm<|X2<|X3 m (Xs m rfl rfl) ?_;exact ⟨cQ,cR,([(⟨some ⟨J,0,none⟩,1,[x.a]⟩ : Sl)])++([(⟨aM,aN,(unionI (qubI i) ([] : List Int))⟩ : Sl)]),rfl,bX.rd.top,(Xwf (Rd.of_blk e rfl _ e.lt) G.rd.top),by rw [E];rfl,o⟩
  have aU:=W
  have cS:isW x.a i=false:=W
  refine Q7<|Xq<|bL _ _<|Zr m ?_;refine Ze (X00 rfl rfl (by omega) (by omega))<|Zm rfl ?_;refine Zn fun a m=>?_;refine Xo ?_;exact ⟨k+1,⟨m.sb,(by omega),(Xev aS aI cS),y,t,e,g,f,D,aA,o⟩,(by omega)⟩
 have C:=H;have H:=Q1 H
 have E:=Xiy aD L bD aS (by omega)
 refine Q9<|Xn<|Xn<|X06 ?_;refine bH _ _<|Zs m fun _ bZ=>?_;refine Zm rfl<|Za rfl<|Zt bZ fun a m=>?_
 refine Q6 (X3 m (Xs m rfl rfl) ?_)
 exact ⟨(some ⟨aG,0,none⟩),1,[(⟨some ⟨J,0,none⟩,1,[x.a]⟩ : Sl)],rfl,(Rd.of_blk g rfl _ g.lt),(Xl7 (Rd.of_blk e rfl _ e.lt)),by rw [E];rfl,o⟩
theorem Xyp(w0:World)(c:Cx)(Ac:Option Addr)(cc:Nat)(j:Rd w0 w0.heap.size 115 encG Ac c.gs)(N:c.gs.length≤cc)(p:Nat)(b4:cOk c=true)(bU:p<c.gs.length) : Ret Tryz.prog 91 [.agg #[vi c.n,.slice Ac c.gs.length cc],vi (p:Int)] w0 (fun v w=>∃ A9 e9 ls,v=.slice A9 (List.length (α:=Sl) ls) e9∧Rd w w.heap.size 43 encS A9 ls∧(∀ s9 ∈ ls,Rd w w.heap.size 3 encI s9.A s9.l)∧ls.map Sl.l=lsX c p∧Below w0.heap.size w0 w):=by
 obtain ⟨cQ,cR,bW⟩:=X14 b4;obtain ⟨o,U⟩:=Xf (l:=c.gs) (k:=p) bU;have cM:=bW o (Qe U);have cS:=X3l o
 have cN:(c.gs.drop (p+1)).length≤400:=by rw [List.length_drop];omega
 refine enter Tryz.func91 rfl 68 rfl rfl ?_;intro a q
 have t:=bz w0
 refine Zs q fun _ bX=>?_;refine Zf (X0i (zs:=[vi c.n,.slice Ac c.gs.length cc]) rfl rfl) ?_;rintro _ w1 ⟨b3,rfl,bY,g,D⟩;have cO:=Q0 t.size bY;have j:=j.below g;have t:=btr t g;refine Za rfl<|Zx bX fun a q _ bZ=>?_;refine Ze (Vd rfl X0g 1)<|Ze (X0 rfl X0m (D.at 1))<|Zm rfl<|Zi (k:=p) (u:=o) (enc:=encG) (l:=c.gs) trivial rfl rfl Xb X0h X9 j U rfl ?_;intro p7 b5;refine Ze (Xw (l:=[vi o.k,vi o.a,vi o.b]) rfl X0f b5 rfl)<|Zf (Vc (Xzu _ o) Xpd) ?_;rintro _ w2 ⟨A8,c8,rfl,e,g⟩;have e:=e.lower t.size;have D:=D.below g;have j:=j.below g;have t:=btr t g;refine Za rfl<|ZX bZ fun a q _ c4=>?_;refine Zs q fun _ b6=>?_;refine Zm rfl<|Ze (X0p rfl X0b)<|Zt b6 fun a q=>?_;refine Q8<|Zs q fun _ b7=>?_;refine Ze (X16 rfl rfl)<|Za rfl<|Zt b7 fun a q=>?_
 refine Xj q rfl (fun I=>?_) (fun I=>?_)
 ·have z:=I
  have x:o.k=12:=by
   have H:=I
   unfold qubI at H
   by_cases h8:o.k=12
   ·exact h8
   ·rw [Q3 h8] at H;split at H<;>simp at H
  have E:=Xz2 U x;refine Zs q fun _ b8=>?_;refine Za rfl<|Zt b8 fun a q=>?_;refine Q6<|Xm<|X2<|X3 q (Xs q rfl rfl) ?_;exact ⟨none,0,[],rfl,Rd.nil _ _ _ _ _,(fun _ h=>by cases h),by rw [E];rfl,t⟩
 have z:=I
 have x:¬ o.k=12:=by
  intro h8;have H:=I
  unfold qubI at H
  rw [Q4 h8] at H;simp at H
 refine Zs q fun _ b9=>?_;refine Ze (X16 rfl rfl)<|Za rfl<|Zt b9 fun a q=>?_
 refine Xj q rfl (fun J=>?_) (fun J=>?_)
 ·have B:=J
  have aQ:inR o.k 9 11=true:=by
   have H:=J
   unfold qubI at H
   rw [Q3 x] at H
   by_cases h8:inR o.k 9 11=true
   ·exact h8
   ·rw [Q3 h8] at H;simp at H
  have E:=Xp3 U x aQ;refine Q5 fun _ bC=>?_;refine X0d none (fun _=>false) mixed ?_;intro w3 g;have e:=e.below g;have t:=btr t g;refine Yb q<|Yo 0 rfl (fun _=>Xa rfl)<|Yi (k:=0) (u:=o.a) (enc:=encI) (l:=(qubI o)) 1 rfl trivial rfl rfl X0b X1k X05 e.rd (by rw [X6r x aQ];rfl) rfl ?_;intro cT aR;refine Ye 2 rfl (X0 rfl X7 aR)<|Yo 4 rfl (fun _=>Xa rfl)<|Yi (k:=1) (u:=o.b) (enc:=encI) (l:=(qubI o)) 5 rfl trivial rfl rfl X0b X1k X05 e.rd (by rw [X6r x aQ];rfl) rfl ?_;intro cU aS;refine Ye 6 rfl (X0 rfl X7 aS)<|Y1 3 ?_;refine Yk rfl trivial (X5 (k:=1) (vs:=[vi o.a]) (zs:=[vi o.a]) rfl X0b X1u rfl rfl) (fun _ _ ⟨_,_,_,h,_⟩=>h) ?_;rintro _ w4 ⟨cA,rfl,aK,g,aB⟩;have aT:=Q0 t.size aK;have bD:=e.away aK;have t:=btr t g;refine Y1 7<|Yk rfl trivial (Vc (Y0g _ (some ⟨cA,0,none⟩) 1 ([o.a]) (Rd.of_blk aB rfl _ aB.lt) o.b w0.heap.size (Own.of_blkL X05 aB aT rfl rfl (Nat.le_of_ble_eq_true rfl)) t.size (by simp)) Xnj) (fun _ _ ⟨aI,aJ,_,Q,g⟩=>g) ?_;rintro _ w5 ⟨aI,aJ,rfl,Q,g⟩;have t:=btr t g;refine Y1 8<|Yk rfl trivial (X5 (k:=1) (vs:=[.slice aI (putI ([o.a]) o.b).length aJ]) (zs:=[.slice aI (putI ([o.a]) o.b).length aJ]) rfl X2h X4w rfl rfl) (fun _ _ ⟨_,_,_,h,_⟩=>h) ?_;rintro _ w6 ⟨cB,rfl,bE,g,aL⟩;have cC:=Q0 t.size bE;have Q:=Q.below g;have t:=btr t g;refine Yo 9 rfl (fun _=>X19 rfl) ?_;refine Yd fun a q=>?_;refine bC _ _<|Q6<|Xm<|X2 ?_;refine X3 q (Xs q rfl rfl) ?_;exact ⟨(some ⟨cB,0,none⟩),1,[(⟨aI,aJ,(putI ([o.a]) o.b)⟩ : Sl)],rfl,(Rd.of_blk aL rfl _ aL.lt),(Xl7 Q.rd.top),by rw [E];rfl,t⟩
 have B:=J
 have W:inR o.k 9 11=false:=by
  have H:=J
  unfold qubI at H
  rw [Q3 x] at H
  cases h8:inR o.k 9 11
  ·rfl
  ·rw [Q4 h8] at H;simp at H
 refine Q7<|Xq<|c4 _ _<|Q5 fun _ bF=>?_;refine Zs q fun _ bG=>?_;refine Ze (Vd rfl X0g 1)<|Ze (X0 rfl X0m (D.at 1))<|Zm rfl<|Ze (X00 rfl rfl (by omega) (by omega)) ?_;have y:=(j.top).dropK X9 (c:=cc) N (p+1);refine Ze (Xa7 (l:=c.gs) (k:=(p+1)) rfl rfl Xb X0h rfl (by omega))<|Ze (X0p rfl Xb)<|Zm rfl<|Zt bG fun a q=>?_;refine Q8<|X0a (σ:=Nat) (fun (k:Nat) (a:Act) (w:World)=>Fr a 68 [(5,.slice A8 (qubI o).length c8),(33,.slice (if cc=(p+1) then Ac else Ac.map (·.add ((p+1)*3))) (c.gs.drop (p+1)).length (cc-(p+1))),(34,vi ((c.gs.drop (p+1)).length:Int)),(35,vi (k:Int))]∧(k≤(c.gs.drop (p+1)).length)∧(NoW c p k o.a)∧Blk w b3 28 [vi c.n,.slice Ac c.gs.length cc]∧Rd w w0.heap.size 115 encG Ac c.gs∧Own w w0.heap.size 3 1 encI A8 c8 (qubI o)∧Rd w w2.heap.size 115 encG (if cc=(p+1) then Ac else Ac.map (·.add ((p+1)*3))) (c.gs.drop (p+1))∧c.gs.length≤cc∧Below w0.heap.size w0 w) (fun (k:Nat)=>(c.gs.drop (p+1)).length-k) 0 ?_ ?_
 ·exact ⟨q.sb,(Qf _),rfl,D,j,e,y,N,t⟩
 rintro k a w7 ⟨q,hk,aU,D,j,e,y,N,t⟩;refine Zs q fun _ bH=>?_;refine Ze (X11 rfl rfl)<|ZX bH fun a q _ bI=>?_
 refine Xj q rfl (fun G=>?_) (fun G=>?_)
 ·have C:=G;have G:=Q2 G
  obtain ⟨i,aC⟩:=Xf (l:=(c.gs.drop (p+1))) (k:=k) (by omega)
  refine Q7<|bI _ _<|Q5 fun _ bJ=>?_;refine Q8<|Zs q fun _ bK=>?_;refine Zi (k:=k) (u:=i) (enc:=encG) (l:=(c.gs.drop (p+1))) trivial rfl rfl Xb X0h X9 y aC rfl ?_;intro cV aW;refine Ze (Xw (l:=[vi i.k,vi i.a,vi i.b]) rfl X0f aW rfl)<|Zf (X8 (zs:=[vi 0,vi 0,vi 0]) X2q rfl) ?_;rintro _ w8 ⟨cD,rfl,aD,g,m⟩;have aE:=Q0 t.size aD;have bL:=j.away aD;have aA:=y.away aD;have D:=D.below g;have j:=j.below g;have e:=e.below g;have y:=y.below g;have t:=btr t g;refine Zo (Vw [vi i.k,vi i.a,vi i.b] X0h m) ?_;rintro _ w9 ⟨ho,hb⟩;have aM:=m;have D:=D.only ho (Blk.ne D aM rfl);have j:=j.only ho aE;have e:=e.onlyT ho aM rfl;have y:=y.onlyA ho aA;have t:=Below.only t ho aE;have m:=hb;refine ZX bK fun a q _ bM=>?_;refine X0l (fun a w=>Fr a 68 [(5,.slice A8 (qubI o).length c8),(7,.pointer (some ⟨cD,0,none⟩)),(33,.slice (if cc=(p+1) then Ac else Ac.map (·.add ((p+1)*3))) (c.gs.drop (p+1)).length (cc-(p+1))),(34,vi ((c.gs.drop (p+1)).length:Int)),(35,vi (k:Int)),(56,.bool ((inR i.k 9 11)&&((i.a==o.a)||(i.b==o.a))))]∧Below w9.heap.size w9 w) ?_ ?_
  ·have M:Below w9.heap.size w9 w9:=Below.refl _ _
   refine X0d none (fun _=>false) mixed ?_;intro cW g;have m:=m.below g;have e:=e.below g;have t:=btr t g;have M:=btr M g;refine Yb q<|Ye 0 rfl (Vn X0f m)<|Y1 1 ?_;refine Yk rfl trivial (Vc (Xsk _ i) Xd2) (fun _ _ ⟨_,g⟩=>g) ?_;rintro _ w11 ⟨rfl,g⟩;have m:=m.below g;have e:=e.below g;have t:=btr t g;have M:=btr M g;refine Yo 2 rfl (fun _=>Xa rfl) ?_
   refine Yl 41 rfl (fun d=>?_) (fun d=>?_)
   ·refine Yu 3 rfl (gW d) (fun _=>Vd rfl X0k 1) ?_;refine Yv 4 rfl (gW d) (X0 rfl X7 (m.at 1)) ?_;refine Yu 5 rfl (gW d) (fun _=>Xa rfl) ?_;refine Yi (k:=0) (u:=o.a) (enc:=encI) (l:=(qubI o)) 6 rfl ⟨_,_,rfl,rfl,d⟩ rfl rfl X0b X1k X05 e.rd (by rw [X6t x W];rfl) rfl ?_;intro cX aX;refine Yv 7 rfl (gW d) (X0 rfl X7 aX) ?_;refine Yu 8 rfl (gW d) (fun _=>X16 rfl rfl) ?_;refine Yu 9 rfl (gW d) (fun _=>Xa rfl) ?_
    refine Yl 48 rfl (fun f=>?_) (fun f=>?_)
    ·refine Yp 10 rfl (gP f) ?_;refine Yp 11 rfl (gP f) ?_;refine Yp 12 rfl (gP f) ?_;refine Yp 13 rfl (gP f) ?_;refine Yp 14 rfl (gP f) ?_;refine Yp 15 rfl (gP f) ?_;refine Yu 16 rfl (gW d) (fun _=>Xl rfl f rfl) ?_;refine Yo 17 rfl (fun _=>Xl rfl d rfl) ?_;refine Yd fun a q=>?_
     have aF:Below w9.heap.size w9 w11:=M
     exact ⟨q.sub ⟨rfl,rfl,rfl,rfl,rfl,X1 rfl (by first|rfl|(simp only [z,B,C,d,f,bs];done)|simp [z,B,C,d,f]),trivial⟩,aF⟩
    refine Yu 10 rfl (gW f) (fun _=>Vd rfl X10 2) ?_;refine Yv 11 rfl (gW f) (X0 rfl X7 (m.at 2)) ?_;refine Yu 12 rfl (gW f) (fun _=>Xa rfl) ?_;refine Yi (k:=0) (u:=o.a) (enc:=encI) (l:=(qubI o)) 13 rfl ⟨_,_,rfl,rfl,f⟩ rfl rfl X0b X1k X05 e.rd (by rw [X6t x W];rfl) rfl ?_;intro cY aY;refine Yv 14 rfl (gW f) (X0 rfl X7 aY) ?_;refine Yu 15 rfl (gW f) (fun _=>X16 rfl rfl) ?_;refine Yu 16 rfl (gW d) (fun _=>Xe rfl f rfl) ?_;refine Yo 17 rfl (fun _=>Xl rfl d rfl) ?_;refine Yd fun a q=>?_
    have aF:Below w9.heap.size w9 w11:=M
    exact ⟨q.sub ⟨rfl,rfl,rfl,rfl,rfl,X1 rfl (by first|rfl|(simp only [z,B,C,d,f,bs];done)|simp [z,B,C,d,f]),trivial⟩,aF⟩
   refine Yp 3 rfl (gP d) ?_;refine Yp 4 rfl (gP d) ?_;refine Yp 5 rfl (gP d) ?_;refine Yp 6 rfl (gP d) ?_;refine Yp 7 rfl (gP d) ?_;refine Yp 8 rfl (gP d) ?_;refine Yp 9 rfl (gP d) ?_;refine Yp 10 rfl (gP trivial) ?_;refine Yp 11 rfl (gP trivial) ?_;refine Yp 12 rfl (gP trivial) ?_;refine Yp 13 rfl (gP trivial) ?_;refine Yp 14 rfl (gP trivial) ?_;refine Yp 15 rfl (gP trivial) ?_;refine Yp 16 rfl (gP d) ?_;refine Yo 17 rfl (fun _=>Xe rfl d rfl) ?_;refine Yd fun a q=>?_
   have aF:Below w9.heap.size w9 w11:=M
   exact ⟨q.sub ⟨rfl,rfl,rfl,rfl,rfl,X1 rfl (by first|rfl|(simp only [z,B,C,d,bs];done)|simp [z,B,C,d]),trivial⟩,aF⟩
  rintro a d5 ⟨q,g⟩;have D:=D.below g;have m:=m.below g;have j:=j.below g;have e:=e.below g;have y:=y.below g;have t:=btr t g;refine bM _ _ ?_
  refine Xj q rfl (fun L=>?_) (fun L=>?_)
  ·have aZ:=L
   have bN:isW o.a i=true:=L
   have cE:inR i.k 9 11=true:=((Qd _ _▸bN:inR i.k 9 11=true∧(i.a==o.a||i.b==o.a)=true)).1
   have cP:=Xtr cE;have d6:=X3l i;have E:=Xf7 U x W aU aC bN
   rw [← X6t x W] at E
   refine Zs q fun _ bO=>?_;refine Zm rfl<|Ze (Vd rfl X0k 1)<|Ze (X0 rfl X7 (m.at 1))<|Zf (X5 (k:=1) (vs:=[vi i.a]) (zs:=[vi i.a]) rfl X0b X1u rfl rfl) ?_;rintro _ d7 ⟨cF,rfl,aN,g,aG⟩;have b0:=Q0 t.size aN;have bP:=e.away aN;have m:=m.below g;have e:=e.below g;have t:=btr t g;refine Ze (Vd rfl X10 2)<|Ze (X0 rfl X7 (m.at 2))<|Zf (Vc (Y0g _ (some ⟨cF,0,none⟩) 1 ([i.a]) (Rd.of_blk aG rfl _ aG.lt) i.b w0.heap.size (Own.of_blkL X05 aG b0 rfl rfl (Nat.le_of_ble_eq_true rfl)) t.size (by simp)) Xnj) ?_;rintro _ d8 ⟨b1,b2,rfl,aH,g⟩;have e:=e.below g;have t:=btr t g;refine Zf (X5 (k:=2) (vs:=[.slice A8 (qubI o).length c8,.slice b1 (putI ([i.a]) i.b).length b2]) (zs:=[.slice A8 (qubI o).length c8,.slice b1 (putI ([i.a]) i.b).length b2]) rfl X2h X4w rfl rfl) ?_;rintro _ d9 ⟨cG,rfl,bQ,g,aO⟩;have cH:=Q0 t.size bQ;have e:=e.below g;have aH:=aH.below g;have t:=btr t g;refine Za rfl<|Zt bO fun a q=>?_;refine Q6<|Xm<|X2<|X2 ?_;refine Xm<|X2<|X3 q (Xs q rfl rfl) ?_;exact ⟨(some ⟨cG,0,none⟩),2,[(⟨A8,c8,(qubI o)⟩ : Sl),(⟨b1,b2,(putI ([i.a]) i.b)⟩ : Sl)],rfl,(Rd.of_blk aO rfl _ aO.lt),(Xwf e.rd.top aH.rd.top),by rw [E];rfl,t⟩
  have aZ:=L
  have cJ:isW o.a i=false:=L
  refine Q7<|Xq<|bJ _ _<|Zr q ?_;refine Ze (X00 rfl rfl (by omega) (by omega))<|Zm rfl ?_;refine Zn fun a q=>?_;refine Xo ?_;exact ⟨k+1,⟨q.sb,(by omega),(Xev aU aC cJ),D,j,e,y,N,t⟩,(by omega)⟩
 have C:=G;have G:=Q1 G
 have E:lsX c p=[qubI o]:=by rw [Xiy U x W aU (by omega),X6t x W]
 refine Q9<|Xn<|Xn<|X06 ?_;refine bF _ _<|Zs q fun _ bR=>?_;refine Zm rfl<|Zf (X5 (k:=1) (vs:=[.slice A8 (qubI o).length c8]) (zs:=[.slice A8 (qubI o).length c8]) rfl X2h X4w rfl rfl) ?_;rintro _ dA ⟨cK,rfl,bS,g,aP⟩;have cL:=Q0 t.size bS;have e:=e.below g;have t:=btr t g;refine Za rfl<|Zt bR fun a q=>?_
 refine Q6 (X3 q (Xs q rfl rfl) ?_)
 exact ⟨(some ⟨cK,0,none⟩),1,[(⟨A8,c8,(qubI o)⟩ : Sl)],rfl,(Rd.of_blk aP rfl _ aP.lt),(Xl7 e.rd.top),by rw [E];rfl,t⟩
end Go.Proofs.YtblmmikapnflcaaGreatDoor
