/-
  What is proved: for every drawn circuit, the schedule is accepted and keeps the operator, and the least number of layers is at most the depth: the law returns true at every input and leaves its arguments as they were. Conditions: none.
-/
import Derived.Test.YtlfjcmldfbfdbaaGreatE2
import Derived.Test.YtlfjcmldfbfdbaaGreatE1
set_option linter.unusedVariables false
set_option linter.unusedSimpArgs false
namespace Go.Proofs.YtlfjcmldfbfdbaaGreat
open Go.RowKit
def oA(A:Option Addr)(m:Nat) : Addr:=match A with
 | some p=>⟨p.block,m,none⟩
 | none=>⟨0,m,none⟩
theorem X3r{l vs:List Value}{off:Nat}(h:off+vs.length≤l.length)(i:Nat) : (splice l off vs)[i]? = if i<off then l[i]? else if i<off+vs.length then vs[i-off]? else l[i]?:=by
 unfold splice
 have h1:(l.take off).length=off:=by rw [List.length_take];omega
 by_cases h2:i<off
 ·rw [if_pos h2,List.append_assoc,List.getElem?_append_left (by omega),List.getElem?_take_of_lt h2]
 ·rw [if_neg h2]
  by_cases h3:i<off+vs.length
  ·rw [if_pos h3,List.getElem?_append_left (by rw [List.length_append];omega),List.getElem?_append_right (by omega),h1]
  ·rw [if_neg h3,List.getElem?_append_right (by rw [List.length_append];omega),List.length_append,h1,List.getElem?_drop]
   congr 1
   omega
theorem X42{l vs:List Value}{off:Nat}(h:off+vs.length≤l.length) : (splice l off vs).length=l.length:=by
 unfold splice
 simp only [List.length_append,List.length_take,List.length_drop]
 omega
theorem Xdv{l x vs:List Value}{o j:Nat}(hx:∀ i,i<x.length→l[o+i]? = x[i]?)(h1:o+x.length≤l.length)(h2:j+vs.length≤x.length) : splice l (o+j) vs=splice l o (splice x j vs):=by
 have h3:=X42 h2
 apply List.ext_getElem?
 intro i
 rw [X3r (by omega),X3r (by omega),h3]
 by_cases a1:i<o
 ·rw [if_pos (by omega),if_pos a1]
 ·rw [if_neg a1]
  by_cases a2:i<o+x.length
  ·rw [if_pos a2,X3r h2]
   by_cases a3:i<o+j
   ·rw [if_pos a3,if_pos (show i-o<j by omega),← hx (i-o) (by omega)];congr 1;omega
   ·rw [if_neg a3,if_neg (show ¬ i-o<j by omega)]
    by_cases a4:i<o+j+vs.length
    ·rw [if_pos a4,if_pos (show i-o<j+vs.length by omega)];congr 1;omega
    ·rw [if_neg a4,if_neg (show ¬ i-o<j+vs.length by omega),← hx (i-o) (by omega)];congr 1;omega
  ·rw [if_neg a2,if_neg (by omega),if_neg (by omega)]
theorem Xes{l vs:List Value}{off N:Nat}(h:off+vs.length≤N)(hN:N≤l.length) : (splice l off vs).take N=splice (l.take N) off vs:=by
 apply List.ext_getElem?
 intro i
 by_cases hi:i<N
 ·rw [List.getElem?_take_of_lt hi,X3r (by omega),X3r (by rw [List.length_take];omega),List.getElem?_take_of_lt hi]
 ·rw [List.getElem?_take_eq_none (by omega),List.getElem?_eq_none]
  rw [X42 (by rw [List.length_take];omega),List.length_take];omega
theorem Xh7{α:Type}{enc:α→List Value}{sz:Nat}(hsz:∀ x,(enc x).length=sz) : ∀ (l:List α) (k i:Nat) (x:α),l[k]? = some x→i<sz→(l.flatMap enc)[k*sz+i]? = (enc x)[i]?
 | [],k,i,x,h,_=>by simp at h
 | y::l,0,i,x,h,hi=>by
  simp at h;subst h
  rw [List.flatMap_cons,Nat.zero_mul,Nat.zero_add,List.getElem?_append_left (by rw [hsz];exact hi)]
 | y::l,k+1,i,x,h,hi=>by
  have h':l[k]? = some x:=by simpa using h
  have e:(k+1)*sz+i=sz+(k*sz+i):=by rw [Nat.add_mul];omega
  rw [List.flatMap_cons,e,List.getElem?_append_right (by rw [hsz];omega),hsz,Nat.add_sub_cancel_left]
  exact Xh7 hsz l k i x h' hi
section
variable {P : Program} {a : Act} {w w' : World} {n : Nat} {e : Env} {ty : TypeId} {pos : String} {af : Array Edge} {g : Option (Nat × Bool)} {d : Option Tmp} {α : Type}
theorem Xd6{T E:TypeId}{sz B0 k m:Nat}{x y:Operand}{enc:α→List Value}{A:Option Addr}{c:Nat}{l:List α}{i:Int}(hf:Fr a n e)(hx:ev e x=some (.slice A m c))(hy:ev e y=some (.int .i64 i))(hT:SliceT P T E)(hs:SizeT P E sz)
  (ho:Own w' B0 E sz enc A c l) (hm:m=l.length) (hi:i=(k:Int)) (hk:k<l.length) : Ev P ⟨d,.indexAddr T x y,ty,pos,af,g⟩ a w (.pointer (some (oA A (k*sz)))):=by
 subst hm
 rcases ho.2 with ⟨h1,h2⟩|⟨b,cap,cur,h1,h2,h3,h4⟩
 ·omega
 ·injection h1 with h1
  rw [h1] at hx ⊢
  exact Xa9 (b:=b) (off:=k*sz) hf hx hy hT hs hi hk rfl
theorem X1m{T E:TypeId}{sz B0 k m:Nat}{x y:Operand}{enc:α→List Value}{A:Option Addr}{c:Nat}{l:List α}{i:Int}(hx:ev e x=some (.slice A m c))(hy:ev e y=some (.int .i64 i))(hT:SliceT P T E)(hs:SizeT P E sz)(ho:Own w' B0 E sz enc A c l)(hm:m=l.length)(hi:i=(k:Int))(hk:k<l.length) : EvW P ⟨d,.indexAddr T x y,ty,pos,af,g⟩ n e w (.pointer (some (oA A (k*sz)))):=fun a hf=>Xd6 hf hx hy hT hs ho hm hi hk
theorem Xel{t E:TypeId}{sz B0 k j m n1:Nat}{x y:Operand}{enc:α→List Value}{A:Option Addr}{c:Nat}{l:List α}{v:Value}{vs:List Value}{x0 u:α}(hf:Fr a n e)(hx:ev e x=some (.pointer (some (oA A m))))(hy:ev e y=some v)(hs:SizeT P t n1)
  (ho:Own w B0 E sz enc A c l) (hsz:∀ x,(enc x).length=sz) (hv:v.cells.toList=vs) (hn:Nat.beq vs.length n1=true) (h1:vs.all one=true) (hm:k*sz+j=m) (hj:j+n1≤sz) (hk:l[k]? = some x0) (hu:splice (enc x0) j vs=enc u) :
  Ef P ⟨d,.store t x y,ty,pos,af,g⟩ a w (fun _ w'=>Own w' B0 E sz enc A c (l.set k u)∧w.grownBy w' (Value.slice A l.length c).ownBlock):=by
 have hkl:k<l.length:=(List.getElem?_eq_some_iff.1 hk).1
 rcases ho.2 with ⟨e1,e2⟩|⟨b,cap,cur,e1,e2,e3,e4,e5,e6,e7⟩
 ·omega
 ·injection e1 with e1 _ e1'
  subst hm;subst e1'
  have hcl:cur.toList.length=c*sz:=Array.length_toList.trans e6
  have hN:l.length*sz≤cur.toList.length:=by rw [hcl];exact Nat.mul_le_mul_right _ e4
  have hks:k*sz+sz≤l.length*sz:=by
   have:=Nat.mul_le_mul_right sz (show k+1≤l.length by omega)
   rwa [Nat.add_mul,Nat.one_mul] at this
  have hn':vs.length=n1:=Nat.eq_of_beq_eq_true hn
  rw [e1] at hx
  have hb:Blk w b E cur.toList:=by unfold Blk;rw [e3]
  refine (X9v (b:=b) (off:=k*sz+j) (vs:=vs) hf hx hy hs hb hv hn h1 (by rw [Nat.ble_eq];omega) rfl).mono fun _ w' ⟨hO,hB⟩=>?_
  have hlen:((l.set k u).flatMap enc).length=(l.set k u).length*sz:=X04 hsz _
  refine ⟨⟨hlen,.inr ⟨b,c,_,by rw [e1],e2,hB,by simp;omega,e5,?_,?_⟩⟩,?_⟩
  ·rw [List.size_toArray,X42 (by omega),hcl]
  ·simp only [List.length_set]
   rw [Xes (by omega) hN,e7,Xdv (x:=enc x0) (fun i hi=>?_) (by rw [X04 hsz,hsz];omega) (by rw [hsz];omega),hu]
   ·exact X50 hsz l k u hkl
   ·exact Xh7 hsz l k i x0 hk (by rw [← hsz x0];exact hi)
  ·rw [e1]
   exact ⟨hO.os,hO.tape,hO.output,by rw [hO.size];exact Nat.le_refl _,fun q _ hne=>hO.block q fun e=>hne (by rw [e];rfl)⟩
theorem X1l{t E:TypeId}{sz B0 k j m n1:Nat}{x y:Operand}{enc:α→List Value}{A:Option Addr}{c:Nat}{l:List α}{v:Value}{vs:List Value}{x0 u:α}(hx:ev e x=some (.pointer (some (oA A m))))(hy:ev e y=some v)(hs:SizeT P t n1)(ho:Own w B0 E sz enc A c l)(hsz:∀ x,(enc x).length=sz)(hv:v.cells.toList=vs)(hn:Nat.beq vs.length n1=true)(h1:vs.all one=true)(hm:k*sz+j=m)(hj:j+n1≤sz)(hk:l[k]? = some x0)(hu:splice (enc x0) j vs=enc u) : EfW P ⟨d,.store t x y,ty,pos,af,g⟩ n e w (fun _ w'=>Own w' B0 E sz enc A c (l.set k u)∧w.grownBy w' (Value.slice A l.length c).ownBlock):=fun a hf=>Xel hf hx hy hs ho hsz hv hn h1 hm hj hk hu
end
section
variable {P : Program} {ops : Array Oper} {a : Act} {w : World} {n d : Nat} {e : Env} {ty : TypeId} {pos : String} {af : Array Edge} {g : Option (Nat × Bool)} {α : Type}
end
def Apart(A A':Option Addr) : Prop:=∀ p q,A=some p→A'=some q→p.block≠q.block
section
variable {α β : Type} {w w' : World} {B B0 B1 : Nat} {E E' : TypeId} {sz sz' : Nat} {enc : α → List Value} {enc' : β → List Value} {A A' : Option Addr} {c c' : Nat} {l : List α} {l' : List β}
theorem Own.apart(h:Own w B E sz enc A c l)(h':Own w' B0 E' sz' enc' A' c' l')(hB:w.heap.size≤B0) : Apart A A':=fun p q hp hq=>by
 rcases h.2 with ⟨h1,_⟩|⟨g,cap,cur,h1,h2,h3,_⟩
 ·injection h1 with h1;rw [h1] at hp;cases hp
 ·rcases h'.2 with ⟨k1,_⟩|⟨g',cap',cur',k1,k2,k3,_⟩
  ·injection k1 with k1;rw [k1] at hq;cases hq
  ·injection h1 with h1
   injection k1 with k1
   rw [h1] at hp
   rw [k1] at hq
   injection hp with hp
   injection hq with hq
   subst hp;subst hq
   have:=(Array.getElem?_eq_some_iff.1 h3).1
   intro e
   simp only at e
   omega
theorem gbel{r:Option Nat}{w0 w w':World}(h:w0.grownBy w r)(hE:Below w.heap.size w w') : w0.grownBy w' r:=
 ⟨hE.os.trans h.os,hE.tape.trans h.tape,hE.output.trans h.output,Nat.le_trans h.size hE.size,fun k hk hn=>(hE.block k (Nat.lt_of_lt_of_le hk h.size)).trans (h.block k hk hn)⟩
theorem X8m(A:Option Addr)(n m c d:Nat) : (Value.slice A n c).ownBlock=(Value.slice A m d).ownBlock:=by cases A<;>rfl
theorem gtr{A:Option Addr}{n m c d:Nat}{w0 w w':World}(h:w0.grownBy w (Value.slice A n c).ownBlock)(k:w.grownBy w' (Value.slice A m d).ownBlock) : w0.grownBy w' (Value.slice A n c).ownBlock:=
 ⟨k.os.trans h.os,k.tape.trans h.tape,k.output.trans h.output,Nat.le_trans h.size k.size,fun q hq hn=>(k.block q (Nat.lt_of_lt_of_le hq h.size) (by rw [X8m A m n d c];exact hn)).trans (h.block q hq hn)⟩
theorem gcast{A:Option Addr}{n m c d:Nat}{w0 w:World}(h:w0.grownBy w (Value.slice A n c).ownBlock) : w0.grownBy w (Value.slice A m d).ownBlock:=by rw [X8m A m n d c];exact h
theorem Own.len{m:Nat}(h:Own w B E sz enc A c l)(hm:m=l.length) : Own w B E sz enc A c l∧Value.slice A m c=Value.slice A l.length c:=⟨h,by rw [hm]⟩
theorem Apart.symm(h:Apart A A') : Apart A' A:=fun p q hp hq e=>h q p hq hp e.symm
end
def DeepI(w:World)(B:Nat)(l:List Sl) : Prop:=∀ s ∈ l,Rd w B 3 encI s.A s.l
section
variable {w w' : World} {B : Nat} {l : List Sl}
theorem DeepI.below(h:DeepI w B l)(hb:Below w.heap.size w w') : DeepI w' B l:=fun s hs=>(h s hs).below hb
theorem DeepI.top(h:DeepI w B l) : DeepI w w.heap.size l:=fun s hs=>(h s hs).top
theorem DeepI.only{b:Nat}(h:DeepI w B l)(ho:Only b w w')(hB:B≤b) : DeepI w' B l:=fun s hs=>(h s hs).only ho hB
theorem DeepI.onlyT{b:Nat}{T:TypeId}{lc:List Value}(h:DeepI w B l)(ho:Only b w w')(hb:Blk w b T lc)(hT:Nat.beq 3 T=false) : DeepI w' B l:=fun s hs=>(h s hs).onlyT ho hb hT
theorem DeepI.appB{B0:Nat}{E':TypeId}{sz:Nat}{α:Type}{enc:α→List Value}{A:Option Addr}{c:Nat}{m:List α}(h:DeepI w B l)(ho:Own w B0 E' sz enc A c m)(hg:w.grownBy w' (Value.slice A m.length c).ownBlock)(hB:B≤B0) : DeepI w' B l:=fun s hs=>(h s hs).appB ho hg hB
theorem DeepI.appT{B0:Nat}{E':TypeId}{sz:Nat}{α:Type}{enc:α→List Value}{A:Option Addr}{c:Nat}{m:List α}(h:DeepI w B l)(ho:Own w B0 E' sz enc A c m)(hg:w.grownBy w' (Value.slice A m.length c).ownBlock)(hT:Nat.beq E' 3=false) : DeepI w' B l:=fun s hs=>(h s hs).appT ho hg hT
theorem DeepI.nil(w:World)(B:Nat) : DeepI w B []:=fun s hs=>by cases hs
theorem DeepI.snoc{s:Sl}(h:DeepI w B l)(hr:Rd w B 3 encI s.A s.l) : DeepI w B (l++[s]):=fun t ht=>by
 rcases List.mem_append.1 ht with h1|h1
 ·exact h t h1
 ·rw [List.mem_singleton] at h1;subst h1;exact hr
theorem DeepI.eq{l':List Sl}(h:DeepI w B l)(e:l'=l) : DeepI w B l':=by rw [e];exact h
end
def LowI(B:Nat)(l:List Sl) : Prop:=∀ s ∈ l,∀ p,s.A=some p→B≤p.block
def Und(A:Option Addr)(B:Nat) : Prop:=∀ p,A=some p→p.block<B
theorem LowI.nil(B:Nat) : LowI B []:=fun s hs=>by cases hs
theorem LowI.snoc{B:Nat}{l:List Sl}{s:Sl}(h:LowI B l)(hs:∀ p,s.A=some p→B≤p.block) : LowI B (l++[s]):=fun t ht=>by
 rcases List.mem_append.1 ht with h1|h1
 ·exact h t h1
 ·rw [List.mem_singleton] at h1;subst h1;exact hs
section
variable {α : Type} {w w' : World} {B B1 : Nat} {E : TypeId} {sz : Nat} {enc : α → List Value} {A : Option Addr} {c : Nat} {l : List α} {m : List Sl}
theorem Own.lowp(h:Own w B E sz enc A c l)(p:Addr)(hp:A=some p) : B≤p.block:=by
 rcases h.2 with ⟨h1,_⟩|⟨g,cap,cur,h1,h2,h3,_⟩
 ·injection h1 with h1;rw [h1] at hp;cases hp
 ·injection h1 with h1;rw [h1] at hp;injection hp with hp;subst hp;exact h2
theorem Own.und(h:Own w B E sz enc A c l) : Und A w.heap.size:=fun p hp=>by
 rcases h.2 with ⟨h1,_⟩|⟨g,cap,cur,h1,h2,h3,_⟩
 ·injection h1 with h1;rw [h1] at hp;cases hp
 ·injection h1 with h1;rw [h1] at hp;injection hp with hp;subst hp;exact (Array.getElem?_eq_some_iff.1 h3).1
theorem DeepI.appL{n:Nat}(h:DeepI w B m)(hl:LowI B1 m)(hu:Und A B1)(hg:w.grownBy w' (Value.slice A n c).ownBlock) : DeepI w' B m:=fun s hs hne=>by
 obtain ⟨g,off,cs,fz,h1,h2,h3,h4⟩:=h s hs hne
 refine ⟨g,off,cs,fz,h1,h2,(hg.block g (Array.getElem?_eq_some_iff.1 h3).1 fun hk=>?_).trans h3,h4⟩
 have h5:=hl s hs _ h1
 cases A with
 | none=>simp [Value.ownBlock] at hk
 | some q=>
  simp only [Value.ownBlock,Option.some.injEq] at hk
  have:=hu q rfl
  simp only at h5
  omega
end
theorem Apart.app{α:Type}{w:World}{B:Nat}{E:TypeId}{sz:Nat}{enc:α→List Value}{A A1 A2:Option Addr}{c:Nat}{l:List α}(h:Own w B E sz enc A c l)(ha:Apart A A1)(hat:∀ b,b<w.heap.size→Away A1 b→Away A2 b) : Apart A A2:=by
 intro p q hp hq
 rcases h.2 with ⟨h1,_⟩|⟨g,cap,cur,h1,_,h3,_⟩
 ·injection h1 with h1;rw [h1] at hp;cases hp
 ·injection h1 with h1
  rw [h1] at hp
  injection hp with hp
  have hlt:p.block<w.heap.size:=by rw [← hp];exact (Array.getElem?_eq_some_iff.1 h3).1
  have haw:Away A1 p.block:=fun r hr e=>ha p r (by rw [h1,hp]) hr e.symm
  exact fun e=>hat _ hlt haw q hq e.symm
section
variable {P : Program} {ops : Array Oper} {V : Option Nat} {tl : Nat → Bool} {Q : Act → World → Prop} {fuel : Nat} {done : List Nat} {w : World} {o : Oper} {op : Op} {ty : TypeId} {pos : String} {af : Array Edge} {g : Option (Nat × Bool)} {n d : Nat} {e : Env} {v : Value} {R : Value → World → Prop} {x : Operand}
end
def markI(k:Int)(n:Nat) : List Int:=(List.range n).map fun (j:Nat)=>k+(j:Int)
def markG(k:Int)(n:Nat) : List Gt:=(List.range n).map fun (j:Nat)=>⟨k+3*(j:Int),k+3*(j:Int)+1,k+3*(j:Int)+2⟩
theorem Xnz{α:Type}{m:List α}{j:Nat}{x:α}(h:j<m.length) : (m.set j x)[j]? = some x:=List.getElem?_set_self h
def heldI:List Int→Int→Int
 | [],k=>k
 | x::l,k=>if x=k then heldI l (k+1) else -1
def heldG:List Gt→Int→Int
 | [],k=>k
 | x::l,k=>if x.k=k∧x.a=k+1∧x.b=k+2 then heldG l (k+3) else -1
theorem X1t{x:Dy} : dOk x=true↔rOk x.num=true∧(0≤x.exp∧x.exp≤60)∧(x.exp=0∨rEven x.num=false):=by
 simp only [dOk,Bool.and_eq_true,Xo,Bool.or_eq_true,beq_iff_eq,Bool.not_eq_true',and_assoc]
theorem Xgd:∀ (m:Nat) (x:Rg),rOk x=true→m≤60→dOk (dLow x m)=true
 | 0,x,h,_=>by
  rw [X23 (by omega)]
  exact X1t.2 ⟨h,by simp,.inl rfl⟩
 | m+1,x,h,hm=>by
  by_cases he:rEven x=true
  ·rw [X49 (by omega) he,show ((m+1:Nat) : Int)-1=(m:Int) from by omega]
   exact Xgd m _ (X75 h) (by omega)
  ·have he':rEven x=false:=by simpa using he
   rw [X23 fun _=>he']
   exact X1t.2 ⟨h,by dsimp only;omega,.inr he'⟩
theorem X77{x:Rg}{e:Int}(h:rOk x=true)(h0:0≤e)(h1:e≤60) : dOk (dLow x e)=true:=by
 obtain ⟨m,rfl⟩ : ∃ m:Nat,e=m:=⟨e.toNat,by omega⟩
 exact Xgd m x h (by omega)
def Agree(o:Option Dy)(p:Bool×Dy) : Prop:=(∀ z,o=some z→p=(false,z)∧dOk z=true)∧(o=none→p.1=true)
theorem X2o{x y z:Rg}(hx:rOk x=true)(hy:rOk y=true) : rIf2 z [x,y]=rOk z:=by simp [rIf2,hx,hy]
theorem X5q{x z:Rg}(hx:rOk x=true) : rIf2 z [x]=rOk z:=by simp [rIf2,hx]
theorem Xik{x y:Dy}(hx:dOk x=true)(hy:dOk y=true) : Agree (dMulI x y) (sMul false x y):=by
 have kx:=X1t.1 hx
 have ky:=X1t.1 hy
 unfold dMulI sMul
 rw [hx,hy,X2o kx.1 ky.1,rIf1,X2o kx.1 ky.1,Bool.true_and,Bool.true_and]
 by_cases hr:rOk (rMul x.num y.num)=true
 ·rw [if_pos hr,if_pos hr]
  unfold dOf
  rw [hr,Bool.true_and]
  by_cases he:60<x.exp+y.exp
  ·have h1:¬ inR (x.exp+y.exp) 0 60=true:=fun h=>by have:=Xo.1 h;omega
   rw [if_neg h1,if_pos he]
   exact ⟨fun z h=>(by cases h),fun _=>rfl⟩
  ·have h1:inR (x.exp+y.exp) 0 60=true:=Xo.2 (by omega)
   rw [if_pos h1,if_neg he,sRing,if_pos hr]
   exact ⟨fun z h=>(by injection h with h;subst h;exact ⟨rfl,X77 hr (by omega) (by omega)⟩),fun h=>by cases h⟩
 ·have hr':rOk (rMul x.num y.num)=false:=by simpa using hr
  rw [if_neg hr]
  refine ⟨fun z h=>(by cases h),fun _=>?_⟩
  by_cases he:60<x.exp+y.exp
  ·rw [if_pos he]
  ·rw [if_neg he,hr'];rfl
theorem X61:∀ (n:Nat) (f:Bool) (x:Dy),(sRaiseN n f x).2.exp=x.exp+n
 | 0,f,x=>by simp [sRaiseN]
 | n+1,f,x=>by rw [sRaiseN,X61 n];dsimp only;omega
theorem X3o:∀ (n:Nat) (x:Dy),(sRaiseN n true x).1=true
 | 0,x=>rfl
 | n+1,x=>by rw [sRaiseN];exact X3o n _
theorem X59:∀ (n:Nat) (x:Dy),rOk x.num=true→(raiseI n x.num).2=true→sRaiseN n false x=(false,⟨(raiseI n x.num).1,x.exp+n⟩)∧rOk (raiseI n x.num).1=true
 | 0,x,h,_=>⟨by simp [sRaiseN,raiseI],h⟩
 | n+1,x,h,hr=>by
  unfold raiseI at hr ⊢
  rw [X5q h] at hr ⊢
  by_cases h1:rOk (rRoot x.num)=true
  ·rw [if_pos h1] at hr ⊢
   rw [sRaiseN,h1,sRing,if_pos h1]
   have:=X59 n ⟨rRoot x.num,x.exp+1⟩ h1 hr
   refine ⟨?_,this.2⟩
   simp only [Bool.not_true,Bool.or_false]
   rw [this.1]
   dsimp only
   congr 2
   omega
  ·rw [if_neg h1] at hr
   cases hr
theorem X4z:∀ (n:Nat) (x:Dy),rOk x.num=true→(raiseI n x.num).2=false→(sRaiseN n false x).1=true
 | 0,x,h,hr=>by cases hr
 | n+1,x,h,hr=>by
  unfold raiseI at hr
  rw [X5q h] at hr
  by_cases h1:rOk (rRoot x.num)=true
  ·rw [if_pos h1] at hr
   rw [sRaiseN,h1,sRing,if_pos h1]
   simp only [Bool.not_true,Bool.or_false]
   exact X4z n ⟨rRoot x.num,x.exp+1⟩ h1 hr
  ·have h2:rOk (rRoot x.num)=false:=by simpa using h1
   rw [sRaiseN,h2]
   exact X3o n _
theorem Xiu{x y:Dy}(hx:dOk x=true)(hy:dOk y=true) : Agree (dAddI x y) (sAdd false x y):=by
 have kx:=X1t.1 hx
 have ky:=X1t.1 hy
 obtain ⟨m,hm⟩ : ∃ m,m=max x.exp y.exp:=⟨_,rfl⟩
 have e1:(m-x.exp).toNat=(y.exp-x.exp).toNat:=by omega
 have e3:x.exp+((y.exp-x.exp).toNat:Int)=m:=by omega
 have ed1:dRaise x m=raiseI (y.exp-x.exp).toNat x.num:=by rw [dRaise,e1]
 unfold dAddI sAdd
 rw [hx,hy,Bool.and_self,if_pos rfl,← hm,X61,e3]
 cases h1:(dRaise x m).2 with
 | false=>
  have hb:=X4z _ x kx.1 (by rw [← ed1];exact h1)
  rw [hb,X3o]
  simp only [Bool.false_and,Bool.false_eq_true,if_false,Bool.true_or]
  exact ⟨fun z h=>(by cases h),fun _=>rfl⟩
 | true=>
  obtain ⟨g1,g2⟩:=X59 _ x kx.1 (by rw [← ed1];exact h1)
  rw [g1]
  rw [← ed1] at g2 ⊢
  dsimp only
  have ed2:dRaise y m=raiseI (m-y.exp).toNat y.num:=rfl
  cases h2:(dRaise y m).2 with
  | false=>
   have hb:=X4z _ y ky.1 (by rw [← ed2];exact h2)
   rw [hb]
   simp only [Bool.and_false,Bool.false_and,Bool.false_eq_true,if_false,Bool.true_or]
   exact ⟨fun z h=>(by cases h),fun _=>rfl⟩
  | true=>
   obtain ⟨k1,k2⟩:=X59 _ y ky.1 (by rw [← ed2];exact h2)
   rw [k1]
   rw [← ed2] at k2 ⊢
   dsimp only
   rw [X2o g2 k2,rIf1,X2o g2 k2,Bool.true_and,Bool.true_and,Bool.false_or]
   by_cases hr:rOk (rAdd (dRaise x m).1 (dRaise y m).1)=true
   ·have h3:inR m 0 60=true:=Xo.2 (by omega)
    rw [if_pos hr,if_pos hr,dOf,hr,h3,sRing,if_pos hr]
    exact ⟨fun z h=>(by simp only [Bool.and_self,if_true] at h;injection h with h;subst h;exact ⟨rfl,X77 hr (by omega) (by omega)⟩),fun h=>by simp at h⟩
   ·have hr':rOk (rAdd (dRaise x m).1 (dRaise y m).1)=false:=by simpa using hr
    rw [if_neg hr,hr']
    exact ⟨fun z h=>(by cases h),fun _=>rfl⟩
def dotS(f:Bool)(a b:Mx)(i j:Nat) : Nat→Bool×Dy
 | 0=>(f,dZ)
 | n+1=>if (dotS f a b i j n).1=true then dotS f a b i j n else
   sAdd (sMul false (a.at i n) (b.at n j)).1 (dotS f a b i j n).2 (sMul false (a.at i n) (b.at n j)).2
theorem X97{f:Bool}{a b:Mx}{i j n:Nat}(h:(dotS f a b i j n).1=true) : ∀ m,n≤m→dotS f a b i j m=dotS f a b i j n
 | 0,h'=>by
  obtain rfl:n=0:=by omega
  rfl
 | m+1,h'=>by
  by_cases hm:n=m+1
  ·subst hm;rfl
  ·rw [dotS,X97 h m (by omega),if_pos h]
theorem Xhs(a b:Mx)(i j n:Nat) : dotS true a b i j n=(true,dZ):=X97 (n:=0) rfl n (Nat.zero_le _)
theorem Xb0:dOk dZ=true:=by decide
theorem Xkv(x y:Dy) : (sAdd true x y).1=true:=by
 unfold sAdd
 rw [show (sRaiseN (y.exp-x.exp).toNat true x).1=true from X3o _ _,X3o]
 rfl
def AllOk(m:Mx) : Prop:=∀ x ∈ m.cells,dOk x=true
theorem Mx.at_ok{m:Mx}(h:AllOk m)(i j:Nat) : dOk (m.at i j)=true:=by
 unfold Mx.at
 rw [List.getD_eq_getElem?_getD]
 cases hx:m.cells[i*m.cols.toNat+j]? with
 | none=>exact Xb0
 | some x=>exact h x (List.mem_of_getElem? hx)
theorem Xa6{a b:Mx}(ha:AllOk a)(hb:AllOk b)(i j:Nat) : ∀ n,Agree (dotI a b i j n) (dotS false a b i j n)
 | 0=>⟨fun z h=>(by injection h with h;subst h;exact ⟨rfl,Xb0⟩),fun h=>by cases h⟩
 | n+1=>by
  have ih:=Xa6 ha hb i j n
  have hm:=Xik (Mx.at_ok ha i n) (Mx.at_ok hb n j)
  unfold dotI dotS
  cases h1:dotI a b i j n with
  | none=>
   have h2:=ih.2 h1
   rw [if_pos h2]
   exact ⟨fun z h=>(by cases h),fun _=>h2⟩
  | some s=>
   obtain ⟨h2,h3⟩:=ih.1 s h1
   rw [h2]
   simp only [Bool.false_eq_true,if_false,Option.bind_some]
   cases h4:dMulI (a.at i n) (b.at n j) with
   | none=>
    rw [hm.2 h4]
    exact ⟨fun z h=>(by cases h),fun _=>Xkv _ _⟩
   | some x=>
    obtain ⟨h5,h6⟩:=hm.1 x h4
    rw [h5]
    exact Xiu h3 h6
def timesL(f:Bool)(a b:Mx) : Nat→Bool×List Dy
 | 0=>(f,[])
 | n+1=>((dotS (timesL f a b n).1 a b (n/b.cols.toNat) (n % b.cols.toNat) a.cols.toNat).1,(timesL f a b n).2++[(dotS (timesL f a b n).1 a b (n/b.cols.toNat) (n % b.cols.toNat) a.cols.toNat).2])
def timesS(f:Bool)(a b:Mx) : Bool×Mx:=((timesL f a b (a.rows.toNat*b.cols.toNat)).1,⟨a.rows,b.cols,(timesL f a b (a.rows.toNat*b.cols.toNat)).2⟩)
theorem X64(f:Bool)(a b:Mx) : ∀ n,(timesL f a b n).2.length=n
 | 0=>rfl
 | n+1=>by simp [timesL,X64 f a b n]
theorem Xe2{f:Bool}{a b:Mx}{i j:Nat}(hj:j<b.cols.toNat) : timesL f a b (i*b.cols.toNat+(j+1))=((dotS (timesL f a b (i*b.cols.toNat+j)).1 a b i j a.cols.toNat).1,(timesL f a b (i*b.cols.toNat+j)).2++[(dotS (timesL f a b (i*b.cols.toNat+j)).1 a b i j a.cols.toNat).2]):=by
 have h1:(i*b.cols.toNat+j)/b.cols.toNat=i:=by rw [Nat.mul_comm,Nat.mul_add_div (by omega),Nat.div_eq_of_lt hj];omega
 have h2:(i*b.cols.toNat+j) % b.cols.toNat=j:=by rw [Nat.mul_comm,Nat.mul_add_mod,Nat.mod_eq_of_lt hj]
 rw [show i*b.cols.toNat+(j+1)=(i*b.cols.toNat+j)+1 from rfl,timesL,h1,h2]
theorem X84{a b:Mx}(ha:AllOk a)(hb:AllOk b) : ∀ n,(∀ l,seqO (gridG (fun i j=>dotI a b i j a.cols.toNat) b.cols.toNat) n=some l→timesL false a b n=(false,l)∧∀ x ∈ l,dOk x=true)∧
  (seqO (gridG (fun i j=>dotI a b i j a.cols.toNat) b.cols.toNat) n=none→(timesL false a b n).1=true)
 | 0=>⟨fun l h=>(by injection h with h;subst h;exact ⟨rfl,fun x hx=>by cases hx⟩),fun h=>by cases h⟩
 | n+1=>by
  have ih:=X84 ha hb n
  have hd:=Xa6 ha hb (n/b.cols.toNat) (n % b.cols.toNat) a.cols.toNat
  unfold seqO timesL
  cases h1:seqO (gridG (fun i j=>dotI a b i j a.cols.toNat) b.cols.toNat) n with
  | none=>
   rw [ih.2 h1,Xhs]
   exact ⟨fun l h=>(by cases h),fun _=>rfl⟩
  | some l=>
   obtain ⟨h2,h3⟩:=ih.1 l h1
   rw [h2]
   dsimp only
   rw [show gridG (fun i j=>dotI a b i j a.cols.toNat) b.cols.toNat n=dotI a b (n/b.cols.toNat) (n % b.cols.toNat) a.cols.toNat from rfl]
   cases h4:dotI a b (n/b.cols.toNat) (n % b.cols.toNat) a.cols.toNat with
   | none=>exact ⟨fun l h=>(by cases h),fun _=>hd.2 h4⟩
   | some x=>
    obtain ⟨h5,h6⟩:=hd.1 x h4
    rw [h5]
    refine ⟨fun l' h=>?_,fun h=>by cases h⟩
    injection h with h
    subst h
    exact ⟨rfl,fun y hy=>by
     rcases List.mem_append.1 hy with hy|hy
     ·exact h3 y hy
     ·rw [List.mem_singleton.1 hy];exact h6⟩
theorem X2f{m:Mx}(h:mOk m=true) : AllOk m:=by
 simp only [mOk,Bool.and_eq_true,Bool.not_eq_true',List.any_eq_false] at h
 intro x hx
 have:=h.2 x hx
 simpa using this
theorem X44{m:Mx}(h:mOk m=true) : isDimB m.rows=true∧isDimB m.cols=true:=by
 simp only [mOk,Bool.and_eq_true] at h
 exact ⟨h.1.1.1,h.1.1.2⟩
theorem Xfu{m:Mx}(hr:isDimB m.rows=true)(hc:isDimB m.cols=true)(hl:m.cells.length=m.rows.toNat*m.cols.toNat)(ha:AllOk m) : mOk m=true:=by
 have h1:=X2q hr;have h2:=X2q hc
 have h3:(m.cells.any fun x=>!dOk x)=false:=by
  rw [List.any_eq_false]
  intro x hx
  simp [ha x hx]
 have h4:wr (m.rows*m.cols)=(m.cells.length:Int):=by
  obtain ⟨r,hr⟩ : ∃ r:Nat,m.rows=r:=⟨m.rows.toNat,by omega⟩
  obtain ⟨c,hc⟩ : ∃ c:Nat,m.cols=c:=⟨m.cols.toNat,by omega⟩
  rw [hr] at h1
  rw [hc] at h2
  rw [hl,hr,hc]
  have h5:r*c≤32*32:=Nat.mul_le_mul (by omega) (by omega)
  rw [← Int.natCast_mul,X0f (by omega) (by omega)]
  simp
 unfold mOk
 rw [hr,hc,h3,h4]
 simp
theorem X2g{n:Int}(h:1≤n∧n≤5) : isDimB ((2^n.toNat:Nat) : Int)=true:=by
 have:n=1∨n=2∨n=3∨n=4∨n=5:=by omega
 rcases this with rfl|rfl|rfl|rfl|rfl<;>decide
theorem X2x{a b:Mx}(ha:mOk a=true)(hb:mOk b=true)(hab:a.cols=b.rows) : (∀ m,mulI a b=some m→timesS false a b=(false,m)∧mOk m=true∧m.rows=a.rows∧m.cols=b.cols)∧(mulI a b=none→(timesS false a b).1=true):=by
 have hd1:=(X44 ha).1;have hd2:=(X44 hb).2;have h:=X84 (X2f ha) (X2f hb) (a.rows.toNat*b.cols.toNat)
 unfold mulI matOf timesS
 rw [ha,hb,hd1,hd2,if_pos (by simp [hab]),if_pos (show (true&&true)=true from rfl)]
 cases h1:seqO (gridG (fun i j=>dotI a b i j a.cols.toNat) b.cols.toNat) (a.rows.toNat*b.cols.toNat) with
 | none=>exact ⟨fun m h=>(by cases h),fun _=>h.2 h1⟩
 | some l=>
  obtain ⟨h2,h3⟩:=h.1 l h1
  rw [h2]
  refine ⟨fun m hm=>?_,fun hm=>by cases hm⟩
  injection hm with hm
  subst hm
  exact ⟨rfl,Xfu hd1 hd2 (X56 h1) h3,rfl,rfl⟩
theorem Xan{f:Nat→Dy} : ∀ n,seqO (fun m=>some (f m)) n=some ((List.range n).map f)
 | 0=>rfl
 | n+1=>by simp [seqO,Xan n,List.range_succ]
theorem X6e{R C:Int}(hR:isDimB R=true)(hC:isDimB C=true)(f:Nat→Nat→Dy) : matOf R C (fun i j=>some (f i j))=some ⟨R,C,gridL f C.toNat (R.toNat*C.toNat)⟩:=by
 unfold matOf
 rw [hR,hC,if_pos (show (true&&true)=true from rfl)]
 have:gridG (fun i j=>some (f i j)) C.toNat=fun m=>some (gridF f C.toNat m):=rfl
 rw [this,Xan]
 rfl
theorem X89{f g:Nat→Nat→Dy}{R C:Nat}(h:∀ i j,i<R→j<C→f i j=g i j) : gridL f C (R*C)=gridL g C (R*C):=by
 unfold gridL
 refine List.map_congr_left fun m hm=>?_
 have hm':=List.mem_range.1 hm
 have hC:0<C:=by
  rcases Nat.eq_zero_or_pos C with h0|h0
  ·subst h0;simp at hm'
  ·exact h0
 exact h _ _ (Nat.div_lt_of_lt_mul (by rw [Nat.mul_comm];exact hm')) (Nat.mod_lt _ hC)
theorem X7i{f:Nat→Nat→Dy}{R C:Nat}{x:Dy}(h:x ∈ gridL f C (R*C)) : ∃ i j,i<R∧j<C∧x=f i j:=by
 unfold gridL at h
 obtain ⟨m,hm,rfl⟩:=List.mem_map.1 h
 have hm':=List.mem_range.1 hm
 have hC:0<C:=by
  rcases Nat.eq_zero_or_pos C with h0|h0
  ·subst h0;simp at hm'
  ·exact h0
 exact ⟨_,_,Nat.div_lt_of_lt_mul (by rw [Nat.mul_comm];exact hm'),Nat.mod_lt _ hC,rfl⟩
def unitS(d:Nat) : Mx:=⟨(d:Int),(d:Int),gridL (fun i j=>if i=j then dPow 0 else dZ) d (d*d)⟩
theorem X3t{d:Nat}(h:isDimB (d:Int)=true) : idI (d:Int)=some (unitS d)∧mOk (unitS d)=true:=by
 refine ⟨?_,?_⟩
 ·unfold idI
  rw [X6e h h (fun i j=>if i=j then ⟨⟨1,0,0,0⟩,0⟩ else dZ)]
  rfl
 ·refine Xfu h h (by simp [unitS,X3i]) fun x hx=>?_;obtain ⟨i,j,_,_,rfl⟩:=X7i hx
  split
  ·rfl
  ·rfl
def bitT(p s:Nat) : Int:=bits .and .i64 ((s:Int)/2^p) 1
def flipT(p s:Nat) : Int:=bits .xor .i64 (s:Int) (wr (1*2^p))
def chkBits:Bool:=(List.range 5).all fun p=>(List.range 32).all fun s=>
 let f:=flipT p s
 Nat.blt f.toNat 32&&f==(f.toNat:Int)&&flipT p f.toNat==(s:Int)&&(bitT p f.toNat==1-bitT p s)&&(bitT p s==0||bitT p s==1) &&
 (List.range 5).all (fun q=>(q==p)||bitT q f.toNat==bitT q s) &&
 (List.range 5).all (fun q=>let g:=flipT q s;flipT p g.toNat==flipT q f.toNat) &&
 (List.range 32).all fun t=>(((t:Int)==s||f==(t:Int))==(bits .andNot .i64 (bits .xor .i64 (s:Int) (t:Int)) (wr (1*2^p))==0))
theorem Xcb:chkBits=true:=by kernel_rfl
def chkSmall:Bool:=(List.range 6).all fun n=>(List.range n).all fun q=>(List.range (2^n)).all fun s=>Nat.blt (flipT (n-1-q) s).toNat (2^n)
theorem Xa4:chkSmall=true:=by kernel_rfl
structure BitsOk (p s:Nat) : Prop where
 nat:flipT p s=((flipT p s).toNat:Int)
 lt:(flipT p s).toNat<32
 back:flipT p (flipT p s).toNat=(s:Int)
 bit:bitT p (flipT p s).toNat=1-bitT p s
 other:∀ q<5,q≠p→bitT q (flipT p s).toNat=bitT q s
 comm:∀ q<5,flipT p (flipT q s).toNat=flipT q (flipT p s).toNat
 sel:∀ t:Nat,t<32→(((t:Int)=s∨flipT p s=(t:Int))↔bits .andNot .i64 (bits .xor .i64 (s:Int) (t:Int)) (wr (1*2^p))=0)
theorem X4e{p s:Nat}(hp:p<5)(hs:s<32) : BitsOk p s:=by
 have h:=Xcb
 simp only [chkBits,List.all_eq_true,List.mem_range] at h
 have h:=h p hp s hs
 simp only [Bool.and_eq_true,List.all_eq_true,List.mem_range,beq_iff_eq,Bool.or_eq_true,Nat.blt_eq] at h
 obtain ⟨⟨⟨⟨⟨⟨⟨h1,h2⟩,h3⟩,h4⟩,_⟩,h6⟩,h7⟩,h8⟩:=h
 refine ⟨h2,h1,h3,h4,fun q hq hne=>(h6 q hq).resolve_left hne,h7,fun t ht=>?_⟩
 have h9:=h8 t ht
 rw [Bool.eq_iff_iff] at h9
 simpa using h9
theorem X4h{n q s:Nat}(hn:n≤5)(hq:q<n)(hs:s<2^n) : (flipT (n-1-q) s).toNat<2^n:=by
 have h:=Xa4
 simp only [chkSmall,List.all_eq_true,List.mem_range] at h
 have h:=h n (by omega) q hq s hs
 simpa [Nat.blt_eq] using h
theorem Xf8{n q:Int}(s:Nat) : bitF n (s:Int) q=bitT (n-1-q).toNat s:=rfl
theorem X5l{n q:Int}(s:Nat) : flipF n (s:Int) q=flipT (n-1-q).toNat s:=rfl
theorem Xac{n q:Int}(hq:0≤q)(hqn:q<n) : (n-1-q).toNat=n.toNat-1-q.toNat:=by omega
theorem Xbg{n:Int}{g:Gt}(hg:gOk n g=true){s:Nat}(hs:s<2^n.toNat)(hk:9≤g.k∧g.k≤11) : ∃ t:Nat,t<2^n.toNat∧toS n g s=(t:Int)∧toS n g t=(s:Int)∧(g.k=10→t=s):=by
 obtain ⟨hn,hk0,ha,hb⟩:=X11 hg
 have ha:=ha (by omega)
 have hb:=hb hk
 have h32:2^n.toNat≤32:=X6m hn.2
 obtain ⟨p,hp⟩ : ∃ p,p=(n-1-g.a).toNat:=⟨_,rfl⟩
 obtain ⟨q,hq⟩ : ∃ q,q=(n-1-g.b).toNat:=⟨_,rfl⟩
 have hp5:p<5:=by omega
 have hq5:q<5:=by omega
 have hpq:p≠q:=by omega
 have hsm:∀ s,s<2^n.toNat→(flipT p s).toNat<2^n.toNat:=fun s hs=>by
  rw [hp,Xac (by omega) (by omega)]
  exact X4h (by omega) (by omega) hs
 have hsm2:∀ s,s<2^n.toNat→(flipT q s).toNat<2^n.toNat:=fun s hs=>by
  rw [hq,Xac (by omega) (by omega)]
  exact X4h (by omega) (by omega) hs
 unfold toS
 simp only [Xf8,X5l,← hp,← hq]
 have Bp:=X4e (p:=p) (s:=s) hp5 (by omega)
 have Bq:=X4e (p:=q) (s:=s) hq5 (by omega)
 by_cases h9:g.k=9
 ·simp only [h9,if_true]
  by_cases hb1:bitT p s=1
  ·refine ⟨(flipT q s).toNat,hsm2 s hs,by rw [if_pos hb1];exact Bq.nat,?_,by omega⟩
   rw [if_pos (by rw [Bq.other p hp5 hpq];exact hb1)]
   exact Bq.back
  ·exact ⟨s,hs,by rw [if_neg hb1],by rw [if_neg hb1],by omega⟩
 ·simp only [h9,if_false]
  by_cases h11:g.k=11
  ·simp only [h11,if_true]
   by_cases hb1:bitT p s=bitT q s
   ·exact ⟨s,hs,by rw [if_neg (by simpa using hb1)],by rw [if_neg (by simpa using hb1)],by omega⟩
   ·have Bf:=X4e (p:=q) (s:=(flipT p s).toNat) hq5 Bp.lt
    have Bg:=X4e (p:=p) (s:=(flipT q (flipT p s).toNat).toNat) hp5 Bf.lt
    have e1:flipF n (flipT p s) g.b=flipT q (flipT p s).toNat:=by rw [Bp.nat,X5l,← hq,Int.toNat_natCast]
    refine ⟨(flipT q (flipT p s).toNat).toNat,hsm2 _ (hsm _ hs),?_,?_,by omega⟩
    ·rw [if_pos hb1,e1];exact Bf.nat
    ·have e2:bitT p (flipT q (flipT p s).toNat).toNat=1-bitT p s:=by rw [Bf.other p hp5 hpq,Bp.bit]
     have e3:bitT q (flipT q (flipT p s).toNat).toNat=1-bitT q s:=by rw [Bf.bit,Bp.other q hq5 (Ne.symm hpq)]
     have e4:flipT p (flipT q (flipT p s).toNat).toNat=flipT q (flipT p (flipT p s).toNat).toNat:=(X4e (p:=p) (s:=(flipT p s).toNat) hp5 Bp.lt).comm q hq5
     rw [if_pos (by rw [e2,e3];omega),e4,Bp.back,Int.toNat_natCast,Bq.nat,X5l,← hq,Bq.back]
  ·exact ⟨s,hs,by rw [if_neg h11],by rw [if_neg h11],fun _=>rfl⟩
theorem Xoc{k:Int}(h:1≤k∧k≤8){i j:Int}(hi:i=0∨i=1)(hj:j=0∨j=1) : (oneL k).getD (2*i+j).toNat dZ=entryI k i j:=by
 have:k=1∨k=2∨k=3∨k=4∨k=5∨k=6∨k=7∨k=8:=by omega
 rcases this with rfl|rfl|rfl|rfl|rfl|rfl|rfl|rfl<;>rcases hi with rfl|rfl<;>rcases hj with rfl|rfl<;>rfl
theorem Xgz{n:Int}{g:Gt}(hg:gOk n g=true){i j:Nat}(hi:i<2^n.toNat)(hj:j<2^n.toNat) : cellI n g i j=cellS n g i j:=by
 obtain ⟨hn,hk0,ha,hb⟩:=X11 hg
 have h32:2^n.toNat≤32:=X6m hn.2
 unfold cellI cellS
 by_cases h12:g.k=12
 ·rw [if_pos h12,if_neg (show ¬ g.k≤8 by omega)]
  have e1:toS n g j=j:=by unfold toS;rw [if_neg (show ¬ g.k=9 by omega),if_neg (show ¬ g.k=11 by omega)]
  rw [e1]
  by_cases hij:(i:Int)=j
  ·rw [if_pos hij,if_pos hij,valS,if_pos h12]
  ·rw [if_neg hij,if_neg hij]
 ·rw [if_neg h12]
  by_cases h2:9≤g.k∧g.k≤11
  ·rw [if_pos (Xo.2 h2),if_neg (show ¬ g.k≤8 by omega)]
   obtain ⟨t,ht,e1,e2,e3⟩:=Xbg hg hi h2;obtain ⟨t',ht',e1',e2',e3'⟩:=Xbg hg hj h2
   by_cases hij:toS n g i=j
   ·have hts:(i:Int)=toS n g j:=by rw [← e2,← e1,hij]
    rw [if_pos hij,if_pos hts,valS,if_neg h12]
    by_cases h10:g.k=10
    ·have hij2:i=j:=by rw [e1] at hij;have:=e3 h10;omega
     subst hij2
     by_cases hc:bitF n i g.a=1∧bitF n i g.b=1
     ·rw [if_pos (by simp [czI,h10,hc]),if_pos ⟨h10,hc⟩];rfl
     ·have hc':¬ czI n g i=true:=by simp only [czI,h10,Bool.and_eq_true,beq_iff_eq,true_and,and_assoc];exact hc
      rw [if_neg hc',if_neg (fun h=>hc h.2)];rfl
    ·have hc':¬ czI n g i=true:=by simp [czI,h10]
     rw [if_neg hc',if_neg (fun h=>h10 h.1)];rfl
   ·have hts:¬ (i:Int)=toS n g j:=fun h=>by
     rw [e1'] at h
     have h:i=t':=by omega
     subst h
     exact hij e2'
    rw [if_neg hij,if_neg hts]
  ·have h8:g.k≤8:=by omega
   have ha:=ha h12
   rw [if_neg (fun h=>h2 (Xo.1 h)),if_pos h8]
   have B:=X4e (p:=(n-1-g.a).toNat) (s:=i) (by omega) (by omega)
   have hs:=B.sel j (by omega)
   rw [X5l]
   have e0:((i:Int)=j∨flipT (n-1-g.a).toNat i=(j:Int))↔((j:Int)=i∨flipT (n-1-g.a).toNat i=(j:Int)):=by
    constructor<;>rintro (h|h)<;>first|exact .inl h.symm|exact .inr h
   by_cases hz:bits .andNot .i64 (bits .xor .i64 (i:Int) (j:Int)) (wr (1*2^(n-1-g.a).toNat))=0
   ·rw [if_pos (e0.2 (hs.2 hz)),if_neg (fun h=>h hz)]
    exact (Xoc ⟨hk0.1,h8⟩ (X2p _ _ _) (X2p _ _ _)).symm
   ·rw [if_neg (fun h=>hz (hs.1 (e0.1 h))),if_pos hz]
theorem Xkf{k:Int}(h:1≤k∧k≤8){i j:Int}(hi:i=0∨i=1)(hj:j=0∨j=1) : dOk (entryI k i j)=true:=by
 have:k=1∨k=2∨k=3∨k=4∨k=5∨k=6∨k=7∨k=8:=by omega
 rcases this with rfl|rfl|rfl|rfl|rfl|rfl|rfl|rfl<;>rcases hi with rfl|rfl<;>rcases hj with rfl|rfl<;>rfl
theorem Xok{n:Int}{g:Gt}(hg:gOk n g=true)(i j:Int) : dOk (cellI n g i j)=true:=by
 obtain ⟨hn,hk0,ha,hb⟩:=X11 hg
 unfold cellI
 split
 ·split<;>rfl
 ·split
  ·split
   ·split<;>rfl
   ·rfl
  ·rename_i h1 h2
   split
   ·exact Xkf (by have h3:¬ (9≤g.k∧g.k≤11):=fun h=>h2 (Xo.2 h);omega) (X2p _ _ _) (X2p _ _ _)
   ·rfl
theorem X1d{n:Int}{g:Gt}(hg:gOk n g=true) : gateI n g=some (gateS n g)∧mOk (gateS n g)=true:=by
 have hn:=(X11 hg).1;have hd:=X2g hn
 have he:gridL (fun i j=>cellI n g i j) (2^n.toNat) (2^n.toNat*2^n.toNat)=gridL (fun i j=>cellS n g i j) (2^n.toNat) (2^n.toNat*2^n.toNat):=X89 fun i j hi hj=>Xgz hg hi hj
 refine ⟨?_,?_⟩
 ·unfold gateI
  rw [if_pos hg,X6e hd hd (fun i j=>cellI n g i j)]
  simp only [Int.toNat_natCast]
  rw [he]
  rfl
 ·refine Xfu hd hd (by simp only [gateS,X3i,Int.toNat_natCast]) fun x hx=>?_
  simp only [gateS] at hx
  rw [← he] at hx
  obtain ⟨i,j,_,_,rfl⟩:=X7i hx;exact Xok hg _ _
def applI(n:Int) : List Gt→Mx→Option Mx
 | [],m=>some m
 | g::l,m=>(mulI ((gateI n g).getD mZ) m).bind (applI n l)
def runS(n:Int)(f:Bool) : List Gt→Mx→Bool×Mx
 | [],m=>(f,m)
 | g::l,m=>if f=true then (f,m) else runS n (timesS false (gateS n g) m).1 l (timesS false (gateS n g) m).2
theorem Xia(n:Int) : ∀ (l:List Gt) (m:Mx),runS n true l m=(true,m)
 | [],_=>rfl
 | _::_,_=>rfl
theorem Xar{n:Int} : ∀ (l:List Gt) (m:Mx),(∀ g ∈ l,gOk n g=true)→mOk m=true→m.rows=((2^n.toNat:Nat) : Int)→
  (∀ m',applI n l m=some m'→runS n false l m=(false,m')∧mOk m'=true∧m'.rows=((2^n.toNat:Nat) : Int))∧(applI n l m=none→(runS n false l m).1=true)
 | [],m,_,hm,hr=>⟨fun m' h=>(by injection h with h;subst h;exact ⟨rfl,hm,hr⟩),fun h=>by cases h⟩
 | g::l,m,hg,hm,hr=>by
  obtain ⟨h1,h2⟩:=X1d (hg g (by simp))
  have h3:=X2x h2 hm (by rw [hr];rfl)
  unfold applI runS
  rw [h1,Option.getD_some,if_neg (by decide)]
  cases h4:mulI (gateS n g) m with
  | none=>
   rw [h3.2 h4,Xia]
   exact ⟨fun m' h=>(by cases h),fun _=>rfl⟩
  | some m1=>
   obtain ⟨h5,h6,h7,h8⟩:=h3.1 m1 h4
   rw [h5]
   exact Xar l m1 (fun g hg'=>hg g (by simp [hg'])) h6 (by rw [h7];rfl)
def opI(c:Cx) : Option Mx:=if cOk c=true then (idI ((2^c.n.toNat:Nat) : Int)).bind (applI c.n c.gs) else none
def opS(c:Cx) : Option Mx:=if cOk c=true then (if (runS c.n false c.gs (unitS (2^c.n.toNat))).1=true then none else some (runS c.n false c.gs (unitS (2^c.n.toNat))).2) else none
theorem X0x{c:Cx}(h:cOk c=true) : (1≤c.n∧c.n≤5)∧c.gs.length≤400∧∀ g ∈ c.gs,gOk c.n g=true:=by
 simp only [cOk,Bool.and_eq_true,Xo,decide_eq_true_eq,Bool.not_eq_true',List.any_eq_false] at h
 exact ⟨h.1.1,by omega,fun g hg=>by simpa using h.2 g hg⟩
theorem Xpg(c:Cx) : opI c=opS c∧∀ m,opS c=some m→mOk m=true∧m.rows=((2^c.n.toNat:Nat) : Int):=by
 unfold opI opS
 by_cases hc:cOk c=true
 ·obtain ⟨hn,_,hg⟩:=X0x hc;obtain ⟨h1,h2⟩:=X3t (X2g hn);have h3:=Xar c.gs _ hg h2 rfl
  rw [if_pos hc,if_pos hc,h1,Option.bind_some]
  cases h4:applI c.n c.gs (unitS (2^c.n.toNat)) with
  | none=>rw [h3.2 h4,if_pos rfl];exact ⟨rfl,fun m h=>by cases h⟩
  | some m'=>
   obtain ⟨h5,h6,h7⟩:=h3.1 m' h4
   rw [h5,if_neg (show ¬ (false=true) by decide)]
   exact ⟨rfl,fun m h=>(by injection h with h;subst h;exact ⟨h6,h7⟩)⟩
 ·rw [if_neg hc,if_neg hc]
  exact ⟨rfl,fun m h=>by cases h⟩
theorem Xj8{x:Rg}(h:rOk x=true) : rOk (rOm x)=true∧rOm x=⟨-x.d,x.a,x.b,x.c⟩:=by
 rw [X28] at h
 have e:rOm x=⟨-x.d,x.a,x.b,x.c⟩:=by unfold rOm;rw [X0f (by omega) (by omega)]
 refine ⟨?_,e⟩
 rw [e,X28]
 dsimp only
 omega
theorem X5o{x:Rg}(h:rOk x=true) : rEven x=true↔(x.a+x.c) % 2=0∧(x.b+x.d) % 2=0:=by
 rw [X28] at h
 unfold rEven
 rw [X0f (by omega) (by omega),X0f (by omega) (by omega)]
 simp only [Bool.and_eq_true,beq_iff_eq]
 have key:∀ i:Int,i.tmod 2=0↔i % 2=0:=fun i=>by
  rw [← Int.dvd_iff_tmod_eq_zero,← Int.dvd_iff_emod_eq_zero]
 rw [key,key]
theorem Xjv{x:Rg}(h:rOk x=true) : rEven (rOm x)=rEven x:=by
 obtain ⟨h1,h2⟩:=Xj8 h
 rw [Bool.eq_iff_iff,X5o h1,X5o h,h2]
 dsimp only
 omega
theorem Xah:∀ (k:Nat) (x:Rg),rOk x=true→rOk (rTurnN k x)=true∧rEven (rTurnN k x)=rEven x
 | 0,_,h=>⟨h,rfl⟩
 | k+1,x,h=>by
  obtain ⟨h1,h2⟩:=Xah k (rOm x) (Xj8 h).1;exact ⟨h1,h2.trans (Xjv h)⟩
theorem Xe9{x:Rg}(h:rOk x=true)(k:Int) : rOk (rTurn x k)=true∧rEven (rTurn x k)=rEven x:=Xah _ _ h
theorem wr0:wr 0=0:=rfl
theorem Xjw{x:Rg}(h:rOk x=true){k:Nat}(hk:k<8) : rMul x (rTurn ⟨1,0,0,0⟩ k)=rTurn x k:=by
 have h':=X28.1 h
 obtain ⟨a,b,c,d⟩:=x
 dsimp only at h'
 have wa:wr a=a:=X0f (by omega) (by omega)
 have wb:wr b=b:=X0f (by omega) (by omega)
 have wc:wr c=c:=X0f (by omega) (by omega)
 have wd:wr d=d:=X0f (by omega) (by omega)
 have na:wr (-a) = -a:=X0f (by omega) (by omega)
 have nb:wr (-b) = -b:=X0f (by omega) (by omega)
 have nc:wr (-c) = -c:=X0f (by omega) (by omega)
 have nd:wr (-d) = -d:=X0f (by omega) (by omega)
 have:k=0∨k=1∨k=2∨k=3∨k=4∨k=5∨k=6∨k=7:=by omega
 have s0:rTurn ⟨1,0,0,0⟩ ((0:Nat) : Int)=⟨1,0,0,0⟩:=by decide
 have s1:rTurn ⟨1,0,0,0⟩ ((1:Nat) : Int)=⟨0,1,0,0⟩:=by decide
 have s2:rTurn ⟨1,0,0,0⟩ ((2:Nat) : Int)=⟨0,0,1,0⟩:=by decide
 have s3:rTurn ⟨1,0,0,0⟩ ((3:Nat) : Int)=⟨0,0,0,1⟩:=by decide
 have s4:rTurn ⟨1,0,0,0⟩ ((4:Nat) : Int)=⟨-1,0,0,0⟩:=by decide
 have s5:rTurn ⟨1,0,0,0⟩ ((5:Nat) : Int)=⟨0,-1,0,0⟩:=by decide
 have s6:rTurn ⟨1,0,0,0⟩ ((6:Nat) : Int)=⟨0,0,-1,0⟩:=by decide
 have s7:rTurn ⟨1,0,0,0⟩ ((7:Nat) : Int)=⟨0,0,0,-1⟩:=by decide
 have T:∀ j:Nat,j<8→rTurn ⟨a,b,c,d⟩ (j:Int)=rTurnN j ⟨a,b,c,d⟩:=fun j hj=>by
  have:(turns (j:Int)).toNat=j:=by
   have:j=0∨j=1∨j=2∨j=3∨j=4∨j=5∨j=6∨j=7:=by omega
   rcases this with rfl|rfl|rfl|rfl|rfl|rfl|rfl|rfl<;>decide
  rw [rTurn,this]
 rcases this with rfl|rfl|rfl|rfl|rfl|rfl|rfl|rfl
 ·rw [T 0 (by omega),s0];simp [rMul,rTurnN,rOm,wr0,wa,wb,wc,wd,na,nb,nc,nd]
 ·rw [T 1 (by omega),s1];simp [rMul,rTurnN,rOm,wr0,wa,wb,wc,wd,na,nb,nc,nd]
 ·rw [T 2 (by omega),s2];simp [rMul,rTurnN,rOm,wr0,wa,wb,wc,wd,na,nb,nc,nd]
 ·rw [T 3 (by omega),s3];simp [rMul,rTurnN,rOm,wr0,wa,wb,wc,wd,na,nb,nc,nd]
 ·rw [T 4 (by omega),s4];simp [rMul,rTurnN,rOm,wr0,wa,wb,wc,wd,na,nb,nc,nd]
 ·rw [T 5 (by omega),s5];simp [rMul,rTurnN,rOm,wr0,wa,wb,wc,wd,na,nb,nc,nd]
 ·rw [T 6 (by omega),s6];simp [rMul,rTurnN,rOm,wr0,wa,wb,wc,wd,na,nb,nc,nd]
 ·rw [T 7 (by omega),s7];simp [rMul,rTurnN,rOm,wr0,wa,wb,wc,wd,na,nb,nc,nd]
theorem Xhv{z:Dy}(h:dOk z=true){k:Nat}(hk:k<8) : dMulI z (dPow k)=some (dTurn k z):=by
 have hz:=X1t.1 h
 have h1:rOk (rTurn ⟨1,0,0,0⟩ k)=true:=(Xe9 (by decide) _).1
 have hp:dOk (dPow k)=true:=X1t.2 ⟨h1,by simp [dPow],.inl rfl⟩
 obtain ⟨h2,h3⟩:=Xe9 hz.1 (k:Int)
 unfold dMulI
 rw [h,hp,show (dPow k).num=rTurn ⟨1,0,0,0⟩ k from rfl,rIf1,X2o hz.1 h1,Xjw hz.1 hk,h2]
 simp only [Bool.and_self,if_true]
 unfold dOf
 rw [h2,show z.exp+(dPow k).exp=z.exp from by simp [dPow],Xo.2 hz.2.1]
 simp only [Bool.and_self,if_true]
 rw [X23 fun h0=>by rw [h3];rcases hz.2.2 with h4|h4;exact absurd h4 (by omega);exact h4]
 rfl
def sameI(a b:Cx) : Bool×Bool:=
 if ((opI a).isSome&&(opI b).isSome&&a.n==b.n)=true then
  (mOk ((opI a).getD mZ)&&mOk ((opI b).getD mZ)&&eqPh ((opI a).getD mZ) ((opI b).getD mZ),mOk ((opI a).getD mZ)&&mOk ((opI b).getD mZ)) else (false,false)
def sameS(a b:Cx) : Bool×Bool:=
 if ((opS a).isSome&&(opS b).isSome&&a.n==b.n)=true then (phaseS ((opS a).getD mZ) ((opS b).getD mZ),true) else (false,false)
theorem Xlw{n:Int}(hn:1≤n∧n≤5){g:Gt} : (gateS n g).cells.length≤2305843009213693951:=by
 have h:=X6m hn.2
 have h2:2^n.toNat*2^n.toNat≤32*32:=Nat.mul_le_mul h h
 simp only [gateS,X3i]
 omega
theorem Xfq{m:Mx}(h:mOk m=true) : m.cells.length≤2305843009213693951:=by
 have h1:=X3g h
 have h2:m.rows.toNat*m.cols.toNat≤32*32:=Nat.mul_le_mul (by omega) (by omega)
 omega
theorem Xpr(a:Cx) : ((opI a).getD mZ).cells.length≤2305843009213693951:=by
 have h:=Xpg a
 cases ha:opI a with
 | none=>exact Nat.zero_le _
 | some m=>rw [h.1] at ha;exact Xfq (h.2 m ha).1
theorem Xdh{α:Type}{l:List α}{i:Nat}{u:α}(h:l[i]? = some u) : l.drop i=u::l.drop (i+1):=by
 obtain ⟨h1,h2⟩:=List.getElem?_eq_some_iff.1 h
 rw [List.drop_eq_getElem_cons h1,h2]
def unitP(d i:Nat) : List Dy:=(List.range (d*d)).map fun m=>if m/d=m % d∧m/d<i then dPow 0 else dZ
theorem Xd1:∀ (m:Nat) (x:Rg),0≤(dLow x m).exp∧(dLow x m).exp≤m
 | 0,x=>by rw [X23 (by omega)];simp
 | m+1,x=>by
  by_cases he:rEven x=true
  ·rw [X49 (by omega) he,show ((m+1:Nat) : Int)-1=(m:Int) from by omega]
   have:=Xd1 m (rHalf x)
   omega
  ·rw [X23 fun _=>by simpa using he]
   dsimp only
   omega
theorem X7f{x:Rg}{e:Int}(h0:0≤e) : 0≤(dLow x e).exp∧(dLow x e).exp≤e:=by
 obtain ⟨m,rfl⟩ : ∃ m:Nat,e=m:=⟨e.toNat,by omega⟩
 exact Xd1 m x
theorem Xcv{f:Bool}{x y:Dy}(hx:0≤x.exp∧x.exp≤60)(hy:0≤y.exp∧y.exp≤60) : 0≤(sMul f x y).2.exp∧(sMul f x y).2.exp≤60:=by
 unfold sMul
 split
 ·exact ⟨Int.le_refl _,by decide⟩
 ·have:=X7f (x:=sRing (rMul x.num y.num)) (e:=x.exp+y.exp) (by omega)
  dsimp only
  omega
theorem Xl1{f:Bool}{x y:Dy}(hx:0≤x.exp∧x.exp≤60)(hy:0≤y.exp∧y.exp≤60) : 0≤(sAdd f x y).2.exp∧(sAdd f x y).2.exp≤60:=by
 unfold sAdd
 dsimp only
 rw [X61]
 have:=fun z=>X7f (x:=z) (e:=x.exp+((y.exp-x.exp).toNat:Int)) (by omega)
 have h:=this (sRing (rAdd (sRaiseN (y.exp-x.exp).toNat f x).2.num (sRaiseN (x.exp+((y.exp-x.exp).toNat:Int)-y.exp).toNat (sRaiseN (y.exp-x.exp).toNat f x).1 y).2.num))
 omega
theorem X9d{a b:Mx}(ha:AllOk a)(hb:AllOk b)(f:Bool)(i j:Nat) : ∀ n,0≤(dotS f a b i j n).2.exp∧(dotS f a b i j n).2.exp≤60
 | 0=>⟨Int.le_refl _,show (0:Int)≤60 by decide⟩
 | n+1=>by
  rw [dotS]
  split
  ·exact X9d ha hb f i j n
  ·exact Xl1 (X9d ha hb f i j n) (Xcv (X27 (Mx.at_ok ha i n)) (X27 (Mx.at_ok hb n j)))
theorem Xmu{a b:Mx}{f f3:Bool}{i j k n:Nat}{s:Dy}(h:dotS f a b i j k=(f3,s))(hk:k≤n)(he:f3=true∨k=n) : dotS f a b i j n=(f3,s):=by
 rcases he with he|he
 ·subst he
  rw [X97 (n:=k) (by rw [h]) n hk,h]
 ·subst he;exact h
theorem Xm4{a b:Mx}{f f3:Bool}{i j k:Nat}{s:Dy}(h:dotS f a b i j k=(f3,s))(hf:f3=false) :
  dotS f a b i j (k+1)=((sAdd (sMul f3 (a.at i k) (b.at k j)).1 s (sMul f3 (a.at i k) (b.at k j)).2).1,(sAdd (sMul f3 (a.at i k) (b.at k j)).1 s (sMul f3 (a.at i k) (b.at k j)).2).2):=by
 subst hf
 rw [dotS,h,if_neg (show ¬ (false=true) by decide)]
theorem X3z{a b:Nat}(ha:a≤32)(hb:b≤32) : a*b≤1024:=Nat.le_trans (Nat.mul_le_mul ha hb) (by decide)
theorem Xa7{l:List Int}{k:Nat}(h:decide ((k:Int)<(l.length:Int))=true) : l[k]? = some (l.getD k 0):=X1g (by simpa using h)
def putI:List Int→Int→List Int
 | [],n=>[n]
 | x::l,n=>if x<n then x::putI l n else if x=n then x::l else n::x::l
theorem Xha:∀ (l:List Int) (n:Int),(putI l n).length≤l.length+1
 | [],n=>by simp [putI]
 | x::l,n=>by
  unfold putI
  split
  ·have:=Xha l n;simp only [List.length_cons];omega
  ·split<;>simp
theorem Xkd:∀ (l:List Int) (n:Int) (k:Nat),(l.take k).all (fun x=>decide (x<n))=true→k≤l.length→(k<l.length→¬ l.getD k 0<n)→
  (k<l.length∧l.getD k 0=n→putI l n=l)∧(¬ (k<l.length∧l.getD k 0=n)→putI l n=l.take k++[n]++l.drop k)
 | [],n,k,_,hk,_=>by
  have:k=0:=by simpa using hk
  subst this
  exact ⟨fun h=>by simp at h,fun _=>rfl⟩
 | x::l,n,0,_,_,h=>by
  have h:=h (by simp)
  simp only [List.getD_cons_zero] at h
  refine ⟨fun h1=>?_,fun h1=>?_⟩
  ·have h2:=h1.2
   simp only [List.getD_cons_zero] at h2
   rw [putI,if_neg h,if_pos h2]
  ·have h2:¬ x=n:=fun e=>h1 ⟨by simp,by simpa using e⟩
   rw [putI,if_neg h,if_neg h2]
   rfl
 | x::l,n,k+1,ha,hk,h=>by
  simp only [List.take_succ_cons,List.all_cons,Bool.and_eq_true,decide_eq_true_eq] at ha
  have ih:=Xkd l n k ha.2 (by simpa using hk) (fun h1=>by have:=h (by simpa using h1);simpa using this)
  simp only [List.length_cons,Nat.add_lt_add_iff_right,List.getD_cons_succ,List.take_succ_cons,List.drop_succ_cons,List.cons_append] at *
  rw [putI,if_pos ha.1]
  exact ⟨fun h1=>by rw [ih.1 h1],fun h1=>by rw [ih.2 h1]⟩
def usedStep(m:List Int)(g:Gt) : List Int:=if g.k=12 then m else if inR g.k 9 11=true then putI (putI m g.a) g.b else putI m g.a
def usedS(l:List Gt) : List Int:=l.foldl usedStep []
theorem Xf0{α β:Type}{f:β→α→β}{b:β}{l:List α}{k:Nat}{u:α}(h:l[k]? = some u) : (l.take (k+1)).foldl f b=f ((l.take k).foldl f b) u:=by
 rw [List.take_add_one,h]
 simp
def lastN(l:List Int)(q:Int) : Nat→Int
 | 0=>0
 | k+1=>if l.getD k 0=q then (k:Int) else lastN l q k
theorem X8x{l:List Int}{q u:Int}{k:Nat}(h:l[k]? = some u) : lastN l q (k+1)=if u=q then (k:Int) else lastN l q k:=by
 have:l.getD k 0=u:=by rw [List.getD_eq_getElem?_getD,h];rfl
 rw [lastN,this]
section
variable {us : List Int} {j : Nat} {v q x k : Int}
end
def smallG(used:List Int)(g:Gt) : Gt:=⟨g.k,if g.k=12 then 0 else lastN used g.a used.length,if inR g.k 9 11=true then lastN used g.b used.length else 0⟩
def validS(n:Int)(r:Rp) : Bool:=inR n 1 5&&inR r.pos 0 400&&(!(r.old.any fun x=>!gOk n x)&&decide ((r.old.length:Int)≤40))&&(!(r.new.any fun x=>!gOk n x)&&decide ((r.new.length:Int)≤40))
theorem Xjd(n:Int)(r:Rp) : validS n r=vrI n r:=by
 unfold validS vrI
 cases inR n 1 5<;>cases inR r.pos 0 400<;>cases (r.old.any fun x=>!gOk n x)<;>cases (r.new.any fun x=>!gOk n x)<;>cases decide ((r.old.length:Int)≤40)<;>cases decide ((r.new.length:Int)≤40)<;>rfl
abbrev Inc(l:List Int) : Prop:=l.Pairwise (· < ·)
theorem Xgx:∀ (l m:List Int),Inc l→Inc m→(∀ x,x ∈ l↔x ∈ m)→l=m
 | [],[],_,_,_=>rfl
 | [],y::m,_,_,h=>by have:=(h y).2 (by simp);cases this
 | x::l,[],_,_,h=>by have:=(h x).1 (by simp);cases this
 | x::l,y::m,hl,hm,h=>by
  have hl':=List.pairwise_cons.1 hl
  have hm':=List.pairwise_cons.1 hm
  have hxy:x=y:=by
   have h1:=(h x).1 (by simp)
   have h2:=(h y).2 (by simp)
   rcases List.mem_cons.1 h1 with h1|h1
   ·exact h1
   ·rcases List.mem_cons.1 h2 with h2|h2
    ·exact h2.symm
    ·have h3:=hm'.1 x h1;have h4:=hl'.1 y h2
     omega
  subst hxy
  congr 1
  refine Xgx l m hl'.2 hm'.2 fun z=>?_
  constructor
  ·intro hz
   rcases List.mem_cons.1 ((h z).1 (List.mem_cons_of_mem _ hz)) with h1|h1
   ·have:=hl'.1 z hz;omega
   ·exact h1
  ·intro hz
   rcases List.mem_cons.1 ((h z).2 (List.mem_cons_of_mem _ hz)) with h1|h1
   ·have:=hm'.1 z hz;omega
   ·exact h1
theorem Xbu:∀ (l:List Int) (n x:Int),x ∈ putI l n↔x ∈ l∨x=n
 | [],n,x=>by simp [putI]
 | y::l,n,x=>by
  unfold putI
  split
  ·rw [List.mem_cons,Xbu l n x,List.mem_cons,or_assoc]
  ·split
   ·rename_i h;subst h;simp only [List.mem_cons];constructor
    ·exact .inl
    ·rintro (h|h)
     ·exact h
     ·exact .inl h
   ·simp only [List.mem_cons];constructor
    ·rintro (h|h|h)
     ·exact .inr h
     ·exact .inl (.inl h)
     ·exact .inl (.inr h)
    ·rintro ((h|h)|h)
     ·exact .inr (.inl h)
     ·exact .inr (.inr h)
     ·exact .inl h
theorem Xgp:∀ (l:List Int) (n:Int),Inc l→Inc (putI l n)
 | [],n,_=>by simp [putI]
 | y::l,n,h=>by
  have h':=List.pairwise_cons.1 h
  unfold putI
  split
  ·rename_i h1
   refine List.pairwise_cons.2 ⟨fun z hz=>?_,Xgp l n h'.2⟩
   rcases (Xbu l n z).1 hz with h2|h2
   ·exact h'.1 z h2
   ·omega
  ·split
   ·exact h
   ·rename_i h1 h2
    refine List.pairwise_cons.2 ⟨fun z hz=>?_,h⟩
    rcases List.mem_cons.1 hz with h3|h3
    ·omega
    ·have:=h'.1 z h3;omega
theorem Xhe(l:List Int)(x:Int) : x ∈ sortI l↔x ∈ l:=List.mem_mergeSort
theorem Xcf(l:List Int) : (sortI l).Pairwise (·≤·):=by
 have:=List.pairwise_mergeSort (le:=fun x y:Int=>decide (x≤y)) (fun a b c h1 h2=>by simp only [decide_eq_true_eq] at *;omega) (fun a b=>by simp only [Bool.or_eq_true,decide_eq_true_eq];omega) l
 exact this.imp fun h=>by simpa using h
theorem X91{l:List Int}(h:l.Pairwise (·≤·)){i j:Nat}(hij:i≤j)(hj:j<l.length) : l[i]'(by omega)≤l[j]:=by
 rcases Nat.lt_or_ge i j with h1|h1
 ·exact List.pairwise_iff_getElem.1 h i j (by omega) hj h1
 ·obtain rfl:i=j:=by omega
  exact Int.le_refl _
theorem X5h{l:List Int}{j:Nat}(hj:j<l.length) : l.toArray[j]! = l[j]:=by
 rw [getElem!_pos l.toArray j (by simpa using hj)]
 simp
theorem Xat{l:List Int}{j:Nat}(hj:j<l.length) : Lib.keeps l.toArray j=true↔j=0∨l[j]≠l[j-1]:=by
 unfold Lib.keeps
 rw [decide_eq_true_eq,X5h hj,X5h (show j-1<l.length by omega)]
theorem Xep(l:List Int)(x:Int) : x ∈ Lib.compact l↔x ∈ l:=by
 unfold Lib.compact Lib.compactUpTo
 rw [List.mem_map]
 constructor
 ·rintro ⟨j,hj,rfl⟩
  have hj':=List.mem_range.1 (List.mem_filter.1 hj).1
  rw [X5h hj']
  exact List.getElem_mem _
 ·intro hx;obtain ⟨j,hj,hjx⟩:=List.mem_iff_getElem.1 hx
  have key:∀ n j,j≤n→(hj:j<l.length)→l[j]=x→∃ k,∃ hk:k<l.length,l[k]=x∧(k=0∨l[k]≠l[k-1]):=by
   intro n
   induction n with
   | zero=>
    intro j h0 hj hx;obtain rfl:j=0:=by omega
    exact ⟨0,hj,hx,.inl rfl⟩
   | succ n ih=>
    intro j h0 hj hx
    by_cases h:j=0∨l[j]≠l[j-1]
    ·exact ⟨j,hj,hx,h⟩
    ·have h1:¬ j=0:=fun e=>h (.inl e)
     have h2:l[j]=l[j-1]:=Classical.byContradiction fun e=>h (.inr e)
     exact ih (j-1) (by omega) (by omega) (by rw [← h2];exact hx)
  obtain ⟨k,hk,h1,h2⟩:=key j j (Nat.le_refl _) hj hjx;exact ⟨k,List.mem_filter.2 ⟨List.mem_range.2 hk,(Xat hk).2 h2⟩,by rw [X5h hk];exact h1⟩
theorem Xev{l:List Int}(h:l.Pairwise (·≤·)) : Inc (Lib.compact l):=by
 unfold Lib.compact Lib.compactUpTo
 rw [Inc,List.pairwise_map]
 refine List.Pairwise.imp_of_mem (R:=(· < ·)) (fun {i j} hi hj hij=>?_) (List.Pairwise.filter _ List.pairwise_lt_range)
 have hi':=List.mem_range.1 (List.mem_filter.1 hi).1
 have hj':=List.mem_range.1 (List.mem_filter.1 hj).1
 have hk:=(Xat hj').1 (List.mem_filter.1 hj).2
 rw [X5h hi',X5h hj']
 have h1:=X91 h (show i≤j-1 by omega) (by omega)
 have h2:=X91 h (show j-1≤j by omega) hj'
 have h3:l[j]≠l[j-1]:=hk.resolve_left (by omega)
 omega
theorem Xb7(p q:List Int)(x:Int) : x ∈ unionI p q↔x ∈ p∨x ∈ q:=by
 unfold unionI
 rw [Xep,Xhe]
 simp
theorem Xae(p q:List Int) : Inc (unionI p q):=Xev (Xcf _)
theorem Xk8{l:List Int}{i j:Nat}{x:Int}(hi:i<l.length) : (l.set i x).getD j 0=if i=j then x else l.getD j 0:=by
 rw [List.getD_eq_getElem?_getD,List.getElem?_set]
 split
 ·rename_i h;subst h;simp [hi]
 ·rw [List.getD_eq_getElem?_getD]
theorem Xa8{l:List Int}(hq:∀ x ∈ l,0≤x∧x≤4){q:Int}(h0:0≤q)(h4:q≤4) : ∀ k,k≤l.length→(numbI (l.take k)).getD q.toNat 0=lastN l q k
 | 0,_=>by
  have:q=0∨q=1∨q=2∨q=3∨q=4:=by omega
  rcases this with rfl|rfl|rfl|rfl|rfl<;>rfl
 | k+1,hk=>by
  have hu:=List.getElem?_eq_getElem (show k<l.length by omega)
  have hb:=hq _ (List.getElem_mem (show k<l.length by omega))
  rw [Xaz hu,X8x hu,Xk8 (by rw [Xcu];omega),Xa8 hq h0 h4 k (by omega)]
  by_cases h:l[k]=q
  ·rw [if_pos h,if_pos (by rw [h])]
  ·rw [if_neg h,if_neg (by omega)]
theorem Xhd{l:List Int}(h:Inc l)(hq:∀ x ∈ l,0≤x∧x≤4) : l.length≤5:=by
 have key:∀ (l:List Int) (a:Int),Inc l→(∀ x ∈ l,a≤x∧x≤4)→a≤5→(l.length:Int)≤5-a:=by
  intro l
  induction l with
  | nil=>intro a _ _ h;simp;omega
  | cons x l ih=>
   intro a hl hb ha
   have hl':=List.pairwise_cons.1 hl
   have hx:=hb x (by simp)
   have:=ih (x+1) hl'.2 (fun y hy=>⟨by have:=hl'.1 y hy;omega,(hb y (by simp [hy])).2⟩) (by omega)
   simp only [List.length_cons]
   omega
 have:=key l 0 h hq (by omega)
 omega
theorem Xdb{l:List Int}{q:Int} : ∀ k,k≤l.length→q ∈ l.take k→∃ j:Nat,j<k∧lastN l q k=(j:Int)∧l.getD j 0=q
 | 0,_,h=>by simp at h
 | k+1,hk,h=>by
  have hu:=List.getElem?_eq_getElem (show k<l.length by omega)
  rw [X8x hu]
  by_cases he:l[k]=q
  ·rw [if_pos he]
   exact ⟨k,by omega,rfl,by rw [List.getD_eq_getElem?_getD,hu];exact he⟩
  ·rw [if_neg he]
   rw [List.take_add_one,hu,Option.toList_some] at h
   rcases List.mem_append.1 h with h|h
   ·obtain ⟨j,h1,h2,h3⟩:=Xdb k (by omega) h
    exact ⟨j,by omega,h2,h3⟩
   ·exact absurd (List.mem_singleton.1 h).symm he
theorem X3j{l:List Int}{q:Int}(h:q ∈ l) : ∃ j:Nat,j<l.length∧lastN l q l.length=(j:Int)∧l.getD j 0=q:=Xdb l.length (Nat.le_refl _) (by rw [List.take_length];exact h)
structure GoodG (us:List Int) (n:Int) (g:Gt) : Prop where
 ok:gOk n g=true
 use:∀ x ∈ qubI g,x ∈ us
theorem Xax{us:List Int}{n:Int}{g:Gt}(hq:∀ x ∈ us,0≤x∧x≤4)(h:GoodG us n g) : mapG (numbI us) g=smallG us g:=by
 obtain ⟨hn,hk,ha,hb⟩:=X11 h.ok
 have hf:∀ q,0≤q→q≤4→(numbI us).getD q.toNat 0=lastN us q us.length:=fun q h0 h4=>by
  have:=Xa8 hq h0 h4 us.length (Nat.le_refl _)
  rwa [List.take_length] at this
 unfold mapG smallG
 have hok:=h.ok
 simp only [gOk,Bool.and_eq_true,Xo] at hok
 by_cases h12:g.k=12
 ·have h9:¬ inR g.k 9 11=true:=fun e=>by have:=Xo.1 e;omega
  rw [if_pos h12] at hok
  simp only [Bool.and_eq_true,beq_iff_eq] at hok
  rw [if_pos h12,if_pos h12,if_neg h9,if_neg h9,hok.2.1,hok.2.2]
 ·have ha:=ha h12
  rw [if_neg h12] at hok ⊢
  rw [if_neg h12,hf g.a (by omega) (by omega)]
  by_cases h9:inR g.k 9 11=true
  ·have hb:=hb (Xo.1 h9)
   rw [if_pos h9,if_pos h9,hf g.b (by omega) (by omega)]
  ·rw [if_neg h9,if_neg h9]
   rw [if_neg (fun e=>h9 (Xo.2 e))] at hok
   simp only [Bool.and_eq_true,beq_iff_eq] at hok
   rw [hok.2.2]
theorem Xdi{us:List Int}{n:Int}{g:Gt}(hi:Inc us)(hq:∀ x ∈ us,0≤x∧x≤4)(h:GoodG us n g) : gOk (max 1 (us.length:Int)) (smallG us g)=true:=by
 obtain ⟨hn,hk,ha,hb⟩:=X11 h.ok;have hl:=Xhd hi hq
 have e1:inR (max 1 (us.length:Int)) 1 5=true:=Xo.2 (by omega)
 have e2:inR g.k 1 12=true:=Xo.2 hk
 unfold gOk smallG
 dsimp only
 rw [e1,e2]
 simp only [Bool.true_and]
 by_cases h12:g.k=12
 ·have h9:¬ inR g.k 9 11=true:=fun e=>by have:=Xo.1 e;omega
  rw [if_pos h12,if_pos h12,if_neg h9];rfl
 ·have hqa:g.a ∈ us:=h.use _ (by unfold qubI;rw [if_neg h12];split<;>simp)
  obtain ⟨i,hi1,hi2,hi3⟩:=X3j hqa
  rw [if_neg h12,if_neg h12,hi2]
  have e3:inR (i:Int) 0 (max 1 (us.length:Int)-1)=true:=Xo.2 (by omega)
  rw [e3]
  by_cases h9:inR g.k 9 11=true
  ·have hqb:g.b ∈ us:=h.use _ (by unfold qubI;rw [if_neg h12,if_pos h9];simp)
   obtain ⟨j,hj1,hj2,hj3⟩:=X3j hqb
   have e4:inR (j:Int) 0 (max 1 (us.length:Int)-1)=true:=Xo.2 (by omega)
   rw [if_pos h9,if_pos h9,hj2,e4]
   have hne:=(hb (Xo.1 h9)).2.2
   have:(i:Int)≠j:=fun e=>by
    obtain rfl:i=j:=by omega
    exact hne (hi3.symm.trans hj3)
   simpa using this
  ·rw [if_neg h9,if_neg h9];rfl
theorem X3k{n:Int}{g:Gt}(h:gOk n g=true){x:Int}(hx:x ∈ qubI g) : 0≤x∧x≤4:=by
 obtain ⟨hn,hk,ha,hb⟩:=X11 h
 unfold qubI at hx
 split at hx
 ·cases hx
 ·rename_i h12
  have ha:=ha h12
  split at hx
  ·rename_i h9
   have hb:=hb (Xo.1 h9)
   rcases List.mem_cons.1 hx with hx|hx
   ·omega
   ·have:=List.mem_singleton.1 hx;omega
  ·have:=List.mem_singleton.1 hx;omega
def smallC(l:List Gt)(us:List Int) : Cx:=⟨max 1 (us.length:Int),l.map (smallG us)⟩
def mapC(l:List Gt)(us:List Int) : Cx:=⟨max (us.length:Int) 1,mapI l (numbI us)⟩
def justS(r:Rp) : Bool×Bool:=sameS (smallC r.old (usedS (r.old++r.new))) (smallC r.new (usedS (r.old++r.new)))
def justI(r:Rp) : Bool×Bool:=sameI (mapC r.old (unionI (usedI r.old) (usedI r.new))) (mapC r.new (unionI (usedI r.old) (usedI r.new)))
theorem Xms{n:Int}{r:Rp}(h:vrI n r=true) : (1≤n∧n≤5)∧(r.old.length≤40∧r.new.length≤40)∧(∀ g ∈ r.old,gOk n g=true)∧(∀ g ∈ r.new,gOk n g=true):=by
 simp only [vrI,Bool.and_eq_true,Xo,decide_eq_true_eq,Bool.not_eq_true',List.any_eq_false] at h
 refine ⟨h.1.1.1.1.1,by omega,fun g hg=>by simpa using h.1.2 g hg,fun g hg=>by simpa using h.2 g hg⟩
theorem Xi8{n:Int}{l:List Gt}(h:∀ g ∈ l,gOk n g=true) : ∀ g ∈ l,(g.k≠12→0≤g.a∧g.a<5)∧(inR g.k 9 11=true→0≤g.b∧g.b<5):=fun g hg=>by
 obtain ⟨hn,hk,ha,hb⟩:=X11 (h g hg);exact ⟨fun h1=>by have:=ha h1;omega,fun h1=>by have:=hb (Xo.1 h1);omega⟩
def implJ(n:Int)(r:Rp) : Bool×Bool:=if vrI n r=true then justI r else (false,false)
def specJ(n:Int)(r:Rp) : Bool×Bool:=if validS n r=true then justS r else (false,false)
def szG(l:List Gt)(left:Int) : Int:=if left-(l.length:Int)<0 then -1 else left-(l.length:Int)
def szR(r:Rp)(left:Int) : Int:=if szG r.old left<0 then -1 else if szG r.new (szG r.old left)<0 then -1 else szG r.new (szG r.old left)
structure Sr where (pos:Int) (A:Option Addr) (c:Nat) (old:List Gt) (B:Option Addr) (d:Nat) (new:List Gt)
def encSr(s:Sr) : List Value:=[.int .i64 s.pos,.slice s.A s.old.length s.c,.slice s.B s.new.length s.d]
abbrev Sr.rp(s:Sr) : Rp:=⟨s.pos,s.old,s.new⟩
def srZ:Sr:=⟨0,none,0,[],none,0,[]⟩
def DeepR(w:World)(B:Nat)(E:TypeId)(l:List Sr) : Prop:=∀ s ∈ l,Rd w B E encG s.A s.old∧Rd w B E encG s.B s.new
def DeepX(w:World)(B:Nat)(l:List Sr) : Prop:=∀ s ∈ l,(∃ E,Rd w B E encG s.A s.old)∧∃ E,Rd w B E encG s.B s.new
section
variable {w w' : World} {B : Nat} {E : TypeId} {l : List Sr}
theorem DeepR.below(h:DeepR w B E l)(hb:Below w.heap.size w w') : DeepR w' B E l:=fun s hs=>⟨(h s hs).1.below hb,(h s hs).2.below hb⟩
theorem DeepR.top(h:DeepR w B E l) : DeepR w w.heap.size E l:=fun s hs=>⟨(h s hs).1.top,(h s hs).2.top⟩
theorem DeepR.only{b:Nat}(h:DeepR w B E l)(ho:Only b w w')(hB:B≤b) : DeepR w' B E l:=fun s hs=>⟨(h s hs).1.only ho hB,(h s hs).2.only ho hB⟩
theorem DeepR.onlyT{b:Nat}{T:TypeId}{lc:List Value}(h:DeepR w B E l)(ho:Only b w w')(hb:Blk w b T lc)(hT:Nat.beq E T=false) : DeepR w' B E l:=fun s hs=>⟨(h s hs).1.onlyT ho hb hT,(h s hs).2.onlyT ho hb hT⟩
theorem DeepR.appB{B0:Nat}{E':TypeId}{sz:Nat}{α:Type}{enc:α→List Value}{A:Option Addr}{c:Nat}{m:List α}(h:DeepR w B E l)(ho:Own w B0 E' sz enc A c m)(hg:w.grownBy w' (Value.slice A m.length c).ownBlock)(hB:B≤B0) : DeepR w' B E l:=fun s hs=>⟨(h s hs).1.appB ho hg hB,(h s hs).2.appB ho hg hB⟩
theorem DeepR.appT{B0:Nat}{E':TypeId}{sz:Nat}{α:Type}{enc:α→List Value}{A:Option Addr}{c:Nat}{m:List α}(h:DeepR w B E l)(ho:Own w B0 E' sz enc A c m)(hg:w.grownBy w' (Value.slice A m.length c).ownBlock)(hT:Nat.beq E' E=false) : DeepR w' B E l:=fun s hs=>⟨(h s hs).1.appT ho hg hT,(h s hs).2.appT ho hg hT⟩
theorem DeepX.below(h:DeepX w B l)(hb:Below w.heap.size w w') : DeepX w' B l:=fun s hs=>⟨(h s hs).1.imp fun _ k=>k.below hb,(h s hs).2.imp fun _ k=>k.below hb⟩
theorem DeepX.top(h:DeepX w B l) : DeepX w w.heap.size l:=fun s hs=>⟨(h s hs).1.imp fun _ k=>k.top,(h s hs).2.imp fun _ k=>k.top⟩
theorem DeepX.only{b:Nat}(h:DeepX w B l)(ho:Only b w w')(hB:B≤b) : DeepX w' B l:=fun s hs=>⟨(h s hs).1.imp fun _ k=>k.only ho hB,(h s hs).2.imp fun _ k=>k.only ho hB⟩
theorem DeepX.appB{B0:Nat}{E':TypeId}{sz:Nat}{α:Type}{enc:α→List Value}{A:Option Addr}{c:Nat}{m:List α}(h:DeepX w B l)(ho:Own w B0 E' sz enc A c m)(hg:w.grownBy w' (Value.slice A m.length c).ownBlock)(hB:B≤B0) : DeepX w' B l:=fun s hs=>⟨(h s hs).1.imp fun _ k=>k.appB ho hg hB,(h s hs).2.imp fun _ k=>k.appB ho hg hB⟩
end
theorem DeepR.zero(w:World)(B:Nat)(E:TypeId)(n:Nat) : DeepR w B E (List.replicate n srZ):=fun s hs=>by
 obtain rfl:=List.eq_of_mem_replicate hs
 exact ⟨Rd.nil _ _ _ _ _,Rd.nil _ _ _ _ _⟩
theorem DeepR.set{w:World}{B:Nat}{E:TypeId}{l:List Sr}(h:DeepR w B E l){x:Sr}(h1:Rd w B E encG x.A x.old)(h2:Rd w B E encG x.B x.new)(k:Nat) : DeepR w B E (l.set k x):=fun s hs=>by
 rcases List.mem_or_eq_of_mem_set hs with hs|hs
 ·exact h s hs
 ·subst hs;exact ⟨h1,h2⟩
def cIf(c:Cx) : Option Cx:=if cOk c=true then some c else none
def midC(c:Cx)(r:Rp) : Cx:=⟨c.n,c.gs.take r.pos.toNat++(r.new++(c.gs.drop (r.pos.toNat+r.old.length)++[]))⟩
def fitI(c:Cx)(r:Rp) : Bool:=cOk c&&vrI c.n r&&decide (r.pos+(r.old.length:Int)≤(c.gs.length:Int))&&decide ((c.gs.take (r.pos.toNat+r.old.length)).drop r.pos.toNat=r.old)
def applyI(c:Cx)(r:Rp) : Option Cx:=if fitI c r=true then cIf (midC c r) else none
def fitS(c:Cx)(r:Rp) : Bool:=validS c.n r&&decide (r.pos+(r.old.length:Int)≤(c.gs.length:Int))&&decide ((c.gs.length:Int)-(r.old.length:Int)+(r.new.length:Int)≤400)
def applyS(c:Cx)(r:Rp) : Option Cx:=if fitS c r=true∧(c.gs.take (r.pos.toNat+r.old.length)).drop r.pos.toNat=r.old then some ⟨c.n,c.gs.take r.pos.toNat++r.new++c.gs.drop (r.pos.toNat+r.old.length)⟩ else none
def eqC(c d:Cx) : Bool:=c.n==d.n&&decide (c.gs=d.gs)
def checkLI(i:Nat)(c:Cx)(d:Cx) : List Rp→Int
 | []=>if eqC c d=true then 0 else (i:Int)+1
 | r::l=>if ((applyI c r).isSome&&(implJ c.n r).2&&(implJ c.n r).1)=true then checkLI (i+1) ((applyI c r).getD ⟨0,[]⟩) d l else (i:Int)+1
def checkLS(i:Nat)(c:Cx)(d:Cx) : List Rp→Int
 | []=>if eqC c d=true then 0 else (i:Int)+1
 | r::l=>if ((applyS c r).isSome&&(justS r).1&&(justS r).2)=true then checkLS (i+1) ((applyS c r).getD ⟨0,[]⟩) d l else (i:Int)+1
def checkI(c d:Cx)(l:List Rp) : Int×Bool:=if (cOk c&&decide ((l.length:Int)≤400))=true then (checkLI 0 c d l,true) else (0,false)
def checkS(c d:Cx)(l:List Rp) : Int×Bool:=if (cOk c&&decide ((l.length:Int)≤400))=true then (checkLS 0 c d l,true) else (0,false)
theorem Xlg{c:Cx}{r:Rp}(hc:cOk c=true) : applyI c r=applyS c r∧∀ c',applyS c r=some c'→cOk c'=true∧c'.n=c.n∧vrI c.n r=true:=by
 obtain ⟨hn,hl,hg⟩:=X0x hc
 unfold applyI applyS fitI fitS
 rw [hc,Xjd,Bool.true_and]
 by_cases hv:vrI c.n r=true
 ·obtain ⟨_,hl2,ho,hw⟩:=Xms hv
  have hp:0≤r.pos:=by simp only [vrI,Bool.and_eq_true,Xo] at hv;omega
  rw [hv,Bool.true_and]
  by_cases hle:r.pos+(r.old.length:Int)≤(c.gs.length:Int)
  ·rw [decide_eq_true hle,Bool.true_and,Bool.true_and]
   by_cases he:(c.gs.take (r.pos.toNat+r.old.length)).drop r.pos.toNat=r.old
   ·rw [decide_eq_true he,if_pos rfl]
    have hlen:(c.gs.take r.pos.toNat++r.new++c.gs.drop (r.pos.toNat+r.old.length)).length=c.gs.length-r.old.length+r.new.length:=by
     simp only [List.length_append,List.length_take,List.length_drop];omega
    have hall:∀ g ∈ c.gs.take r.pos.toNat++r.new++c.gs.drop (r.pos.toNat+r.old.length),gOk c.n g=true:=fun g h=>by
     rcases List.mem_append.1 h with h|h
     ·rcases List.mem_append.1 h with h|h
      ·exact hg g (List.mem_of_mem_take h)
      ·exact hw g h
     ·exact hg g (List.mem_of_mem_drop h)
    have hmid:midC c r=⟨c.n,c.gs.take r.pos.toNat++r.new++c.gs.drop (r.pos.toNat+r.old.length)⟩:=by unfold midC;simp
    by_cases h4:(c.gs.length:Int)-(r.old.length:Int)+(r.new.length:Int)≤400
    ·have hok:cOk (midC c r)=true:=by
      rw [hmid]
      have h5:((c.gs.take r.pos.toNat++r.new++c.gs.drop (r.pos.toNat+r.old.length)).any fun x=>!gOk c.n x)=false:=by
       rw [List.any_eq_false];intro x hx;simp [hall x hx]
      unfold cOk
      simp only
      rw [h5,Xo.2 hn,hlen,decide_eq_true (by omega)];rfl
     rw [cIf,if_pos hok,if_pos ⟨by simpa using h4,he⟩,hmid]
     refine ⟨rfl,fun c' h=>?_⟩
     injection h with h
     rw [← h]
     rw [hmid] at hok
     exact ⟨hok,rfl,rfl⟩
    ·have hok:¬ cOk (midC c r)=true:=fun h=>by
      obtain ⟨_,h6,_⟩:=X0x h
      rw [hmid] at h6
      simp only at h6
      rw [hlen] at h6
      omega
     rw [cIf,if_neg hok,if_neg (fun h=>h4 (by simpa using h.1))]
     exact ⟨rfl,fun c' h=>by cases h⟩
   ·rw [decide_eq_false he,if_neg (by decide),if_neg (fun h=>he h.2)]
    exact ⟨rfl,fun c' h=>by cases h⟩
  ·rw [decide_eq_false hle]
   exact ⟨rfl,fun c' h=>by simp at h⟩
 ·have hv':vrI c.n r=false:=by simpa using hv
  rw [hv']
  exact ⟨rfl,fun c' h=>by simp at h⟩
structure Sg where (A:Option Addr) (c:Nat) (l:List Gt)
def encSg(s:Sg) : List Value:=[.slice s.A s.l.length s.c]
def growRenG:Go.Shelf.Ren:=⟨fun|4=>185|n=>n,fun|22=>29|25=>24|n=>n,fun|n=>n⟩
abbrev cZ:Cx:=⟨0,[]⟩
def midS(c:Cx)(r:Rp) : Cx:=⟨c.n,c.gs.take r.pos.toNat++r.new++c.gs.drop (r.pos.toNat+r.old.length)⟩
theorem Xdu{c:Cx}{r:Rp}(h1:fitS c r=true)(h2:(c.gs.take (r.pos.toNat+r.old.length)).drop r.pos.toNat=r.old) : applyS c r=some (midS c r):=by
 unfold applyS midS
 rw [if_pos ⟨h1,h2⟩]
def szF:List Sr→Int→Int
 | [],t=>t
 | s::l,t=>if szR s.rp t<0 then -1 else szF l (szR s.rp t)
def szL(l:List Sr)(t:Int) : Int:=if t-(l.length:Int)<0 then -1 else szF l (t-(l.length:Int))
def szZ(c:Cx)(l:List Sr)(d:Cx)(t:Int) : Int:=if szG c.gs t<0 then -1 else if szL l (szG c.gs t)<0 then -1 else szG d.gs (szL l (szG c.gs t))
instance:DecidableEq Rp:=fun a b=>decidable_of_iff (a.pos=b.pos∧a.old=b.old∧a.new=b.new) (by cases a;cases b;simp)
set_option maxRecDepth 4000
theorem F93(w0:World)(ls:List Sl)(Al:Option Addr)(cl:Nat)(hr_ls:Rd w0 w0.heap.size 66 encS Al ls)(hall:∀ s ∈ ls,Rd w0 w0.heap.size 3 encI s.A s.l)(hln:ls.length≤1000)(hsum:(ls.flatMap Sl.l).length≤1000000000) : Ret Tryz.prog 159 [.slice Al ls.length cl] w0 (fun v w=>∃ A c,v=.slice A (ls.flatMap Sl.l).length c∧Own w w0.heap.size 3 1 encI A c (ls.flatMap Sl.l)∧Below w0.heap.size w0 w):=by
 refine enter Tryz.func159 rfl 36 rfl rfl ?_;intro a hf
 have hW:Below w0.heap.size w0 w0:=Below.refl _ _
 refine Zs hf fun _ hK2=>?_;refine Za rfl ?_;refine Zt hK2 fun a hf=>?_;refine Zs hf fun _ hK4=>?_;refine Za rfl ?_;refine Zt hK4 fun a hf=>?_;refine wp_seq_k fun _ hK5=>?_;refine Zs hf fun _ hK6=>?_;refine Zm rfl<|Ze (X0y rfl X4k)<|Zm rfl ?_;refine Zt hK6 fun a hf=>?_;refine wp_block ?_;refine Xx (σ:=Nat) (fun (k:Nat) (a:Act) (w:World)=>Fr a 36 [(0,.slice Al ls.length cl),(3,vi (((ls.take k).flatMap Sl.l).length:Int)),(9,.slice Al ls.length cl),(10,vi (ls.length:Int)),(11,vi (k:Int))]∧(k≤ls.length)∧Below w0.heap.size w0 w) (fun (k:Nat)=>ls.length-k) 0 ?_ ?_
 ·exact ⟨hf.sub ⟨rfl,rfl,rfl,rfl,rfl,trivial⟩,(Nat.zero_le _),hW⟩
 rintro k a w1 ⟨hf,hk,hW⟩;refine Zs hf fun _ hK7=>?_;refine Ze (X0l rfl rfl) ?_;refine Zt hK7 fun a hf=>?_;refine wp_seq_k fun _ hK8=>?_
 refine Xe hf rfl (fun hc9=>?_) (fun hc9=>?_)
 ·have hc9b:=hc9;have hc9:=of_decide_eq_true hc9
  obtain ⟨u10,hu10⟩:=Xl (l:=ls) (k:=k) (by omega)
  have hst:=Xb8 (f:=Sl.l) hu10;have hle:=Xc4 Sl.l ls (k+1)
  rw [hst,List.length_append] at hle
  refine wp_skip ?_;refine hK8 _ _ ?_;refine wp_seq_k fun _ hK11=>?_;refine wp_block ?_;refine Zs hf fun _ hK12=>?_;refine Zi (k:=k) (u:=u10) (enc:=encS) (l:=ls) trivial rfl rfl X4k Xas X3u (hr_ls.below' hW) hu10 rfl ?_;intro p14 hat13
  have hr15:Rd w1 w0.heap.size 3 encI u10.A u10.l:=(hall u10 (List.mem_of_getElem? hu10)).below' hW
  refine Ze (X0 rfl Xai hat13)<|Za rfl ?_;refine Zt hK12 fun a hf=>?_;refine Zs hf fun _ hK16=>?_;refine Zm rfl<|Zm rfl<|Ze (X0y rfl Xg)<|Ze (Xp rfl rfl (by omega) (by omega))<|Za rfl ?_;refine Zt hK16 fun a hf=>?_;refine Zs hf fun _ hK17=>?_;refine Zm rfl<|Ze (X0l rfl rfl) ?_;refine Zt hK17 fun a hf=>?_
  refine Xe hf rfl (fun hc18=>?_) (fun hc18=>?_)
  ·have hc18b:=hc18;have hc18:=of_decide_eq_true hc18;exact absurd hc18 (by omega)
  have hc18b:=hc18;have hc18:=of_decide_eq_false hc18;refine wp_skip ?_;refine Xd ?_;refine hK11 _ _ ?_;refine Zr hf ?_;refine Ze (Xp rfl rfl (by omega) (by omega))<|Zm rfl ?_;refine Zn fun a hf=>?_
  have hjj:((((ls.take k).flatMap Sl.l).length:Int)+(u10.l.length:Int))=(((ls.take (k+1)).flatMap Sl.l).length:Int):=by rw [hst,List.length_append];omega
  rw [hjj] at hf
  refine Xc ?_;exact ⟨k+1,⟨hf.sub ⟨rfl,rfl,rfl,rfl,rfl,trivial⟩,(by omega),hW⟩,(by omega)⟩
 have hc9b:=hc9;have hc9:=of_decide_eq_false hc9;refine wp_exit ?_;refine Xf ?_;refine Xf ?_;refine Xy ?_;refine hK5 _ _ ?_;refine Zs hf fun _ hK19=>?_;refine Zm rfl ?_;refine Zf (Vc (Xvz _ (((ls.take k).flatMap Sl.l).length) (by have:=Xc4 Sl.l ls k;omega)) Xpw) ?_;rintro _ w2 ⟨A21,c21,rfl,ho21,hE⟩;replace ho21:=ho21.lower hW.size;replace hW:=btr hW hE;refine Za rfl ?_;refine Zt hK19 fun a hf=>?_;refine wp_seq_k fun _ hK22=>?_;refine Zs hf fun _ hK23=>?_;refine Zm rfl<|Ze (X0y rfl X4k)<|Zm rfl ?_;refine Zt hK23 fun a hf=>?_;refine wp_block ?_;refine Xx (σ:=Nat×(List Int)) (fun (s:Nat×(List Int)) (a:Act) (w:World)=>match s with|(j,l)=>∃ A24 c24,Fr a 36 [(6,.slice A24 l.length c24),(25,.slice Al ls.length cl),(26,vi (ls.length:Int)),(27,vi (j:Int))]∧(j≤ls.length)∧(l=(ls.take j).flatMap Sl.l)∧Own w w0.heap.size 3 1 encI A24 c24 l∧Below w0.heap.size w0 w) (fun (s:Nat×(List Int))=>match s with|(j,l)=>ls.length-j) (0,[]) ?_ ?_
 ·exact ⟨A21,c21,hf.sub ⟨rfl,rfl,rfl,rfl,trivial⟩,(Nat.zero_le _),rfl,ho21,hW⟩
 rintro ⟨j,l⟩ a w3 ⟨A24,c24,hf,hj,hl,ho24,hW⟩;refine Zs hf fun _ hK25=>?_;refine Ze (X0l rfl rfl) ?_;refine Zt hK25 fun a hf=>?_;refine wp_seq_k fun _ hK26=>?_
 refine Xe hf rfl (fun hc27=>?_) (fun hc27=>?_)
 ·have hc27b:=hc27;have hc27:=of_decide_eq_true hc27
  obtain ⟨u28,hu28⟩:=Xl (l:=ls) (k:=j) (by omega)
  have hst:=Xb8 (f:=Sl.l) hu28;have hle:=Xc4 Sl.l ls (j+1)
  rw [hst,List.length_append,← hl] at hle
  refine wp_skip ?_;refine hK26 _ _ ?_;refine wp_seq_k fun _ hK29=>?_;refine wp_block ?_;refine Zs hf fun _ hK30=>?_;refine Zi (k:=j) (u:=u28) (enc:=encS) (l:=ls) trivial rfl rfl X4k Xas X3u (hr_ls.below' hW) hu28 rfl ?_;intro p32 hat31
  have hr33:Rd w3 w0.heap.size 3 encI u28.A u28.l:=(hall u28 (List.mem_of_getElem? hu28)).below' hW
  refine Ze (X0 rfl Xai hat31)<|Za rfl ?_;refine Zt hK30 fun a hf=>?_;refine Zr hf ?_;refine Zm rfl<|Zm rfl ?_;refine Zf (X1h (enc:=encI) (l:=(l)) (l2:=(u28.l)) (B0:=w0.heap.size) rfl rfl Xg X19 X6 X1n ho24 hr33 (by simp only [maxLen];omega) (by omega) hW.size) ?_;rintro _ w4 ⟨A34,c34,rfl,ho34,hg,hat⟩
  have hown:Own _ w0.heap.size 3 1 encI _ _ (l):=ho24
  clear hat;replace hr33:=hr33.appB hown hg (Nat.le_refl _);replace hW:=Below.app hW hown hg (Nat.le_refl _) hW.size;clear hown hg;refine Za rfl ?_;refine Zn fun a hf=>?_;refine Xd ?_;refine hK29 _ _ ?_;refine Zr hf ?_;refine Ze (Xp rfl rfl (by omega) (by omega))<|Zm rfl ?_;refine Zn fun a hf=>?_;refine Xc ?_;exact ⟨(j+1,l++u28.l),⟨A34,c34,hf.sub ⟨rfl,rfl,rfl,rfl,trivial⟩,(by omega),(by rw [hst,hl]),ho34,hW⟩,(by first|omega|(dsimp only;omega))⟩
 have hc27b:=hc27;have hc27:=of_decide_eq_false hc27;refine wp_exit ?_;refine Xf ?_;refine Xf ?_;refine Xy ?_;refine hK22 _ _ ?_;refine Zs hf fun _ hK35=>?_;refine Zm rfl<|Za rfl ?_;refine Zt hK35 fun a hf=>?_
 refine wp_ret (X3 hf (Xq hf rfl rfl) ?_)
 have hfin:l=ls.flatMap Sl.l:=by rw [hl];exact Xie _ (by omega)
 rw [← hfin]
 exact ⟨A24,c24,rfl,ho24,hW⟩
theorem F47(w0:World)(Ap:Option Addr)(cp:Nat)(p:List Int)(hr_p:Rd w0 w0.heap.size 3 encI Ap p)(Aq:Option Addr)(cq:Nat)(q:List Int)(hr_q:Rd w0 w0.heap.size 3 encI Aq q)(hpl:p.length≤100000000)(hql:q.length≤100000000) : Ret Tryz.prog 99 [.slice Ap p.length cp,.slice Aq q.length cq] w0 (fun v w=>∃ A c,v=.slice A (unionI p q).length c∧Own w w0.heap.size 3 1 encI A c (unionI p q)∧Below w0.heap.size w0 w):=by
 refine enter Tryz.func99 rfl 14 rfl rfl ?_;intro a hf
 have hW:Below w0.heap.size w0 w0:=Below.refl _ _
 refine Zs hf fun _ hK3=>?_;refine Za rfl ?_;refine Zt hK3 fun a hf=>?_;refine Zs hf fun _ hK5=>?_;refine Zm rfl<|Zm rfl ?_;refine Zf (Xm (k:=2) (vs:=[.slice Ap p.length cp,.slice Aq q.length cq]) (zs:=[.slice Ap p.length cp,.slice Aq q.length cq]) rfl X4k Xkb rfl rfl) ?_;rintro _ w1 ⟨b6,rfl,hl6,hE,hB6⟩;have hlo6:=Nat.le_trans hW.size hl6;replace hW:=btr hW hE;refine Zf (Vc (F93 _ [(⟨Ap,cp,p⟩ : Sl),(⟨Aq,cq,q⟩ : Sl)] (some ⟨b6,0,none⟩) 2 (Rd.of_blk hB6 rfl _ hB6.lt) (fun s hs=>by rcases List.mem_cons.1 hs with rfl|hs;exact (hr_p.below' hW).top;rw [List.mem_singleton.1 hs];exact (hr_q.below' hW).top) (by simp) (by simp;omega)) Xuo) ?_;rintro _ w2 ⟨A8,c8,rfl,ho8,hE⟩;replace ho8:=ho8.lower hW.size;replace hB6:=hB6.below hE;replace hW:=btr hW hE;refine Za rfl ?_;refine Zt hK5 fun a hf=>?_;refine Zs hf fun _ hK9=>?_;refine Zm rfl ?_;refine Zf (Vc (F94 _ w0.heap.size A8 c8 (List.flatMap Sl.l [(⟨Ap,cp,p⟩ : Sl),(⟨Aq,cq,q⟩ : Sl)]) ho8 (by simp;omega)) Xus) ?_;rintro _ w3 ⟨hnew,hg⟩;have hown:=ho8;replace hW:=Below.app hW hown hg (Nat.le_refl _) hW.size
 clear hown hg;clear ho8;have ho8:=hnew;clear hnew;refine Zt hK9 fun a hf=>?_;refine Zs hf fun _ hK10=>?_;refine Zm rfl ?_;refine Zf (Vc (Xvi _ w0.heap.size A8 c8 (sortI (List.flatMap Sl.l [(⟨Ap,cp,p⟩ : Sl),(⟨Aq,cq,q⟩ : Sl)])) ((List.flatMap Sl.l [(⟨Ap,cp,p⟩ : Sl),(⟨Aq,cq,q⟩ : Sl)]).length) (by simp [sortI]) ho8 (by simp [sortI];omega)) Xu2) ?_;rintro _ w4 ⟨rfl,hnew,hg⟩;have hown:=ho8;replace hW:=Below.app hW hown hg (Nat.le_refl _) hW.size
 clear hown hg;clear ho8;have ho8:=hnew;clear hnew;refine Za rfl ?_;refine Zt hK10 fun a hf=>?_
 refine wp_ret (X3 hf (Xq hf rfl rfl) ?_)
 have hfin:unionI p q=Lib.compact (sortI (List.flatMap Sl.l [(⟨Ap,cp,p⟩ : Sl),(⟨Aq,cq,q⟩ : Sl)])):=by unfold unionI;congr 2
 rw [hfin]
 exact ⟨A8,c8,rfl,ho8,hW⟩
theorem F96(w0:World)(g:Gt) : Ret Tryz.prog 58 [.agg #[vi g.k,vi g.a,vi g.b]] w0 (fun v w=>∃ A c,v=.slice A (qubI g).length c∧Own w w0.heap.size 3 1 encI A c (qubI g)∧Below w0.heap.size w0 w):=by
 refine enter Tryz.func58 rfl 19 rfl rfl ?_;intro a hf
 have hW:Below w0.heap.size w0 w0:=Below.refl _ _
 refine Zs hf fun _ hK1=>?_;refine Zf (X0p (zs:=[vi g.k,vi g.a,vi g.b]) rfl rfl) ?_;rintro _ w1 ⟨b2,rfl,hl2,hE,hB2⟩;have hlo2:=Nat.le_trans hW.size hl2;replace hW:=btr hW hE;refine Za rfl ?_;refine Zt hK1 fun a hf=>?_;refine wp_seq_k fun _ hK4=>?_;refine wp_block ?_;refine Zs hf fun _ hK5=>?_;refine Ze (Vd rfl X0i 0)<|Ze (X0 rfl X4 (hB2.at 0))<|Ze (X0u rfl rfl)<|Za rfl ?_;refine Zt hK5 fun a hf=>?_
 refine Xe hf rfl (fun hc6=>?_) (fun hc6=>?_)
 ·have hc6b:=hc6
  have hfin:qubI g=[]:=by rw [qubI,if_pos (by simpa using hc6)]
  refine Zs hf fun _ hK7=>?_;refine Za rfl ?_;refine Zt hK7 fun a hf=>?_;refine wp_ret ?_;refine Xr ?_;refine X5 ?_;refine X3 hf (Xq hf rfl rfl) ?_
  rw [hfin]
  exact ⟨none,0,rfl,(Own.nil _ _ _ _ _),hW⟩
 have hc6b:=hc6
 have h12:¬ g.k=12:=by simpa using hc6
 refine Zs hf fun _ hK9=>?_;refine Ze (Vd rfl X0i 0)<|Ze (X0 rfl X4 (hB2.at 0)) ?_;refine Zf (Vc (F99 _ g.k) Xdn) ?_;rintro _ _ ⟨rfl,rfl⟩;refine Za rfl ?_;refine Zt hK9 fun a hf=>?_
 refine Xe hf rfl (fun hc10=>?_) (fun hc10=>?_)
 ·have hc10b:=hc10
  have hfin:qubI g=[g.a,g.b]:=by rw [qubI,if_neg h12,if_pos hc10]
  refine Zs hf fun _ hK11=>?_;refine Ze (Vd rfl X0r 1)<|Ze (X0 rfl X4 (hB2.at 1))<|Ze (Vd rfl X10 2)<|Ze (X0 rfl X4 (hB2.at 2)) ?_;refine Zf (Xm (k:=2) (vs:=[vi g.a,vi g.b]) (zs:=[vi g.a,vi g.b]) rfl Xg X19 rfl rfl) ?_;rintro _ w2 ⟨b12,rfl,hl12,hE,hB12⟩;have hlo12:=Nat.le_trans hW.size hl12;replace hB2:=hB2.below hE;replace hW:=btr hW hE;refine Za rfl ?_;refine Zt hK11 fun a hf=>?_;refine wp_ret ?_;refine Xr ?_;refine X5 ?_;refine X3 hf (Xq hf rfl rfl) ?_
  rw [hfin]
  exact ⟨(some ⟨b12,0,none⟩),2,rfl,(Own.of_blkL X6 hB12 hlo12 rfl rfl (by decide)),hW⟩
 have hc10b:=hc10
 have hfin:qubI g=[g.a]:=by rw [qubI,if_neg h12,if_neg (by rw [hc10];simp)]
 refine wp_skip ?_;refine Xd ?_;refine hK4 _ _ ?_;refine Zs hf fun _ hK14=>?_;refine Ze (Vd rfl X0r 1)<|Ze (X0 rfl X4 (hB2.at 1)) ?_;refine Zf (Xm (k:=1) (vs:=[vi g.a]) (zs:=[vi g.a]) rfl Xg X19 rfl rfl) ?_;rintro _ w3 ⟨b15,rfl,hl15,hE,hB15⟩;have hlo15:=Nat.le_trans hW.size hl15;replace hB2:=hB2.below hE;replace hW:=btr hW hE;refine Za rfl ?_;refine Zt hK14 fun a hf=>?_
 refine wp_ret (X3 hf (Xq hf rfl rfl) ?_)
 rw [hfin]
 exact ⟨(some ⟨b15,0,none⟩),1,rfl,(Own.of_blkL X6 hB15 hlo15 rfl rfl (by decide)),hW⟩
theorem F51(w0:World)(Al:Option Addr)(cl:Nat)(l:List Gt)(hr_l:Rd w0 w0.heap.size 24 encG Al l)(Ato:Option Addr)(cto:Nat)(to:List Int)(hr_to:Rd w0 w0.heap.size 3 encI Ato to)(L:Nat)(hq:∀ g ∈ l,(g.k≠12→0≤g.a∧g.a<(L:Int))∧(inR g.k 9 11=true→0≤g.b∧g.b<(L:Int)))(hto:to.length=L)(hln:l.length≤1000000) : Ret Tryz.prog 103 [.slice Al l.length cl,.slice Ato to.length cto] w0 (fun v w=>∃ A c,v=.slice A (mapI l to).length c∧Own w w0.heap.size 24 3 encG A c (mapI l to)∧Below w0.heap.size w0 w):=by
 refine enter Tryz.func103 rfl 39 rfl rfl ?_;intro a hf
 have hW:Below w0.heap.size w0 w0:=Below.refl _ _
 refine Zs hf fun _ hK3=>?_;refine Za rfl ?_;refine Zt hK3 fun a hf=>?_;refine Zs hf fun _ hK5=>?_;refine Zf (Xm (k:=0) (vs:=[]) (zs:=[]) rfl X0c X1v rfl rfl) ?_;rintro _ w1 ⟨b6,rfl,hl6,hE,hB6⟩;have hlo6:=Nat.le_trans hW.size hl6;have haw1_6:=(hr_l.below' hW).away hl6;replace hW:=btr hW hE;refine Za rfl ?_;refine Zt hK5 fun a hf=>?_;refine wp_seq_k fun _ hK8=>?_;refine Zs hf fun _ hK9=>?_;refine Zm rfl<|Ze (X0y rfl X0c)<|Zm rfl ?_;refine Zt hK9 fun a hf=>?_;refine wp_block ?_;refine Xx (σ:=Nat×(List Gt)) (fun (s:Nat×(List Gt)) (a:Act) (w:World)=>match s with|(k,m)=>∃ A10 c10,Fr a 39 [(1,.slice Ato to.length cto),(5,.slice A10 m.length c10),(9,.slice Al l.length cl),(10,vi (l.length:Int)),(11,vi (k:Int))]∧(k≤l.length)∧(m=(l.take k).map (mapG to))∧Own w w0.heap.size 24 3 encG A10 c10 m∧Below w0.heap.size w0 w) (fun (s:Nat×(List Gt))=>match s with|(k,m)=>l.length-k) (0,[]) ?_ ?_
 ·exact ⟨some ⟨b6,0,none⟩,0,hf.sub ⟨rfl,rfl,rfl,rfl,rfl,trivial⟩,(Nat.zero_le _),rfl,(Own.empty hB6 hlo6),hW⟩
 rintro ⟨k,m⟩ a w2 ⟨A10,c10,hf,hk,hm,ho10,hW⟩
 have hml:m.length=k:=by rw [hm,List.length_map,List.length_take,Nat.min_eq_left hk]
 refine Zs hf fun _ hK11=>?_;refine Ze (X0l rfl rfl) ?_;refine Zt hK11 fun a hf=>?_;refine wp_seq_k fun _ hK12=>?_
 refine Xe hf rfl (fun hc13=>?_) (fun hc13=>?_)
 ·have hc13b:=hc13;have hc13:=of_decide_eq_true hc13
  obtain ⟨u14,hu14⟩:=Xl (l:=l) (k:=k) (by omega)
  have hb:=hq u14 (List.mem_of_getElem? hu14);have hst:=Xm2 (f:=mapG to) hu14;refine wp_skip ?_;refine hK12 _ _ ?_;refine wp_seq_k fun _ hK15=>?_;refine wp_block ?_;refine Zs hf fun _ hK16=>?_;refine Zi (k:=k) (u:=u14) (enc:=encG) (l:=l) trivial rfl rfl X0c X0g X0d (hr_l.below' hW) hu14 rfl ?_;intro p18 hat17;refine Ze (X09 (l:=[vi u14.k,vi u14.a,vi u14.b]) rfl Xt hat17 rfl) ?_;refine Zf (Xa (zs:=[vi 0,vi 0,vi 0]) X32 rfl) ?_;rintro _ w3 ⟨b19,rfl,hl19,hE,hB19⟩;have hlo19:=Nat.le_trans hW.size hl19;have haw10_19:=ho10.away hl19;have haw1_19:=(hr_l.below' hW).away hl19;replace ho10:=ho10.below hE;replace hW:=btr hW hE;refine Zo (Vw [vi u14.k,vi u14.a,vi u14.b] X0g hB19) ?_;rintro _ w4 ⟨ho,hb⟩;have hold:=hB19;replace ho10:=ho10.onlyA ho haw10_19;replace hW:=Below.only hW ho hlo19;clear hold;have hB19:=hb;clear hb ho;refine Zt hK16 fun a hf=>?_;refine wp_seq_k fun _ hK20=>?_;refine Zs hf fun _ hK21=>?_;refine Ze (Vd rfl X0i 0)<|Ze (X0 rfl X4 (hB19.at 0))<|Ze (X29 rfl rfl) ?_;refine Zt hK21 fun a hf=>?_
  refine Xe hf rfl (fun hc22=>?_) (fun hc22=>?_)
  ·have hc22b:=hc22
   have h12:¬ u14.k=12:=by simpa using hc22
   have ha:=hb.1 h12;refine Zr hf ?_;refine Zm rfl<|Ze (Vd rfl X0r 1)<|Ze (X0 rfl X4 (hB19.at 1)) ?_;refine Zi (k:=u14.a.toNat) (u:=(to.getD u14.a.toNat 0)) (enc:=encI) (l:=to) trivial rfl rfl Xg X0h X6 (hr_to.below' hW) (X1g (by omega)) (by omega) ?_;intro p24 hat23;refine Ze (X0 rfl X4 hat23)<|Ze (Vd rfl X0r 1) ?_;refine Zo (Vu (vs:=[vi (to.getD u14.a.toNat 0)]) (l':=[vi u14.k,vi (to.getD u14.a.toNat 0),vi u14.b]) rfl rfl X0h hB19) ?_;rintro _ w5 ⟨ho,hb⟩;have hold:=hB19;replace ho10:=ho10.onlyA ho haw10_19;replace hW:=Below.only hW ho hlo19;clear hold;have hB19:=hb;clear hb ho;refine Zt hK20 fun a hf=>?_;refine wp_seq_k fun _ hK25=>?_;refine Zs hf fun _ hK26=>?_;refine Ze (Vd rfl X0i 0)<|Ze (X0 rfl X4 (hB19.at 0)) ?_;refine Zf (Vc (F99 _ u14.k) Xdn) ?_;rintro _ _ ⟨rfl,rfl⟩;refine Zt hK26 fun a hf=>?_
   refine Xe hf rfl (fun hc27=>?_) (fun hc27=>?_)
   ·have hc27b:=hc27
    have h9:inR u14.k 9 11=true:=hc27
    have hb2:=hb.2 h9
    have hmg:mapG to u14=⟨u14.k,to.getD u14.a.toNat 0,to.getD u14.b.toNat 0⟩:=by rw [mapG,if_neg h12,if_pos h9]
    refine Zr hf ?_;refine Zm rfl<|Ze (Vd rfl X10 2)<|Ze (X0 rfl X4 (hB19.at 2)) ?_;refine Zi (k:=u14.b.toNat) (u:=(to.getD u14.b.toNat 0)) (enc:=encI) (l:=to) trivial rfl rfl Xg X0h X6 (hr_to.below' hW) (X1g (by omega)) (by omega) ?_;intro p29 hat28;refine Ze (X0 rfl X4 hat28)<|Ze (Vd rfl X10 2) ?_;refine Zo (Vu (vs:=[vi (to.getD u14.b.toNat 0)]) (l':=[vi u14.k,vi (to.getD u14.a.toNat 0),vi (to.getD u14.b.toNat 0)]) rfl rfl X0h hB19) ?_;rintro _ w6 ⟨ho,hb⟩;have hold:=hB19;replace ho10:=ho10.onlyA ho haw10_19;replace hW:=Below.only hW ho hlo19;clear hold;have hB19:=hb;clear hb ho;refine Zt hK25 fun a hf=>?_;refine Zr hf ?_;refine Zm rfl<|Ze (Vn Xt hB19) ?_;refine Zf (Xm (k:=1) (vs:=[.agg #[vi u14.k,vi (to.getD u14.a.toNat 0),vi (to.getD u14.b.toNat 0)]]) (zs:=[vi u14.k,vi (to.getD u14.a.toNat 0),vi (to.getD u14.b.toNat 0)]) rfl X0c X1v rfl rfl) ?_;rintro _ w7 ⟨b30,rfl,hl30,hE,hB30⟩
    have hne19_30:b19≠b30:=by have:=hB19.lt;omega
    have hlo30:=Nat.le_trans hW.size hl30;have haw10_30:=ho10.away hl30;have haw1_30:=(hr_l.below' hW).away hl30;replace hB19:=hB19.below hE;replace ho10:=ho10.below hE;replace hW:=btr hW hE;refine Zf (X1h (enc:=encG) (l:=(m)) (l2:=([(⟨u14.k,(to.getD u14.a.toNat 0),(to.getD u14.b.toNat 0)⟩ : Gt)])) (B0:=w0.heap.size) rfl rfl X0c X1v X0d X45 ho10 (Rd.of_blk hB30 rfl _ hB30.lt) (by simp only [maxLen];simp;omega) (by simp;omega) hW.size) ?_;rintro _ w8 ⟨A32,c32,rfl,ho32,hg,hat⟩
    have hown:Own _ w0.heap.size 24 3 encG _ _ (m):=ho10
    have haw32_19:=hat _ hB19.lt haw10_19;have haw32_30:=hat _ hB30.lt haw10_30;clear hat;replace hB19:=hB19.appA hg haw10_19;replace hW:=Below.app hW hown hg (Nat.le_refl _) hW.size;clear hown hg;refine Za rfl ?_;refine Zn fun a hf=>?_;refine Xd ?_;refine hK15 _ _ ?_;refine Zr hf ?_;refine Ze (Xp rfl rfl (by omega) (by omega))<|Zm rfl ?_;refine Zn fun a hf=>?_
    rw [hmg] at hst
    refine Xc ?_;exact ⟨(k+1,m++[(⟨u14.k,(to.getD u14.a.toNat 0),(to.getD u14.b.toNat 0)⟩ : Gt)]),⟨A32,c32,hf.sub ⟨rfl,rfl,rfl,rfl,rfl,trivial⟩,(by omega),(by rw [hst,hm]),ho32,hW⟩,(by first|omega|(dsimp only;omega))⟩
   have hc27b:=hc27
   have h9:¬ inR u14.k 9 11=true:=by rw [hc27];simp
   have hmg:mapG to u14=⟨u14.k,to.getD u14.a.toNat 0,u14.b⟩:=by rw [mapG,if_neg h12,if_neg h9]
   refine wp_skip ?_;refine hK25 _ _ ?_;refine Zr hf ?_;refine Zm rfl<|Ze (Vn Xt hB19) ?_;refine Zf (Xm (k:=1) (vs:=[.agg #[vi u14.k,vi (to.getD u14.a.toNat 0),vi u14.b]]) (zs:=[vi u14.k,vi (to.getD u14.a.toNat 0),vi u14.b]) rfl X0c X1v rfl rfl) ?_;rintro _ w9 ⟨b33,rfl,hl33,hE,hB33⟩
   have hne19_33:b19≠b33:=by have:=hB19.lt;omega
   have hlo33:=Nat.le_trans hW.size hl33;have haw10_33:=ho10.away hl33;have haw1_33:=(hr_l.below' hW).away hl33;replace hB19:=hB19.below hE;replace ho10:=ho10.below hE;replace hW:=btr hW hE;refine Zf (X1h (enc:=encG) (l:=(m)) (l2:=([(⟨u14.k,(to.getD u14.a.toNat 0),u14.b⟩ : Gt)])) (B0:=w0.heap.size) rfl rfl X0c X1v X0d X45 ho10 (Rd.of_blk hB33 rfl _ hB33.lt) (by simp only [maxLen];simp;omega) (by simp;omega) hW.size) ?_;rintro _ w10 ⟨A35,c35,rfl,ho35,hg,hat⟩
   have hown:Own _ w0.heap.size 24 3 encG _ _ (m):=ho10
   have haw35_19:=hat _ hB19.lt haw10_19;have haw35_33:=hat _ hB33.lt haw10_33;clear hat;replace hB19:=hB19.appA hg haw10_19;replace hW:=Below.app hW hown hg (Nat.le_refl _) hW.size;clear hown hg;refine Za rfl ?_;refine Zn fun a hf=>?_;refine Xd ?_;refine hK15 _ _ ?_;refine Zr hf ?_;refine Ze (Xp rfl rfl (by omega) (by omega))<|Zm rfl ?_;refine Zn fun a hf=>?_
   rw [hmg] at hst
   refine Xc ?_;exact ⟨(k+1,m++[(⟨u14.k,(to.getD u14.a.toNat 0),u14.b⟩ : Gt)]),⟨A35,c35,hf.sub ⟨rfl,rfl,rfl,rfl,rfl,trivial⟩,(by omega),(by rw [hst,hm]),ho35,hW⟩,(by first|omega|(dsimp only;omega))⟩
  have hc22b:=hc22
  have h12:u14.k=12:=by simpa using hc22
  refine wp_skip ?_;refine hK20 _ _ ?_;refine wp_seq_k fun _ hK36=>?_;refine Zs hf fun _ hK37=>?_;refine Ze (Vd rfl X0i 0)<|Ze (X0 rfl X4 (hB19.at 0)) ?_;refine Zf (Vc (F99 _ u14.k) Xdn) ?_;rintro _ _ ⟨rfl,rfl⟩;refine Zt hK37 fun a hf=>?_
  refine Xe hf rfl (fun hc38=>?_) (fun hc38=>?_)
  ·have hc38b:=hc38;exact absurd (Xo.1 hc38) (by omega)
  have hc38b:=hc38
  have h9:¬ inR u14.k 9 11=true:=by rw [hc38];simp
  have hmg:mapG to u14=u14:=by rw [mapG,if_pos h12,if_neg h9]
  refine wp_skip ?_;refine hK36 _ _ ?_;refine Zr hf ?_;refine Zm rfl<|Ze (Vn Xt hB19) ?_;refine Zf (Xm (k:=1) (vs:=[.agg #[vi u14.k,vi u14.a,vi u14.b]]) (zs:=[vi u14.k,vi u14.a,vi u14.b]) rfl X0c X1v rfl rfl) ?_;rintro _ w11 ⟨b39,rfl,hl39,hE,hB39⟩
  have hne19_39:b19≠b39:=by have:=hB19.lt;omega
  have hlo39:=Nat.le_trans hW.size hl39;have haw10_39:=ho10.away hl39;have haw1_39:=(hr_l.below' hW).away hl39;replace hB19:=hB19.below hE;replace ho10:=ho10.below hE;replace hW:=btr hW hE;refine Zf (X1h (enc:=encG) (l:=(m)) (l2:=([u14])) (B0:=w0.heap.size) rfl rfl X0c X1v X0d X45 ho10 (Rd.of_blk hB39 rfl _ hB39.lt) (by simp only [maxLen];simp;omega) (by simp;omega) hW.size) ?_;rintro _ w12 ⟨A41,c41,rfl,ho41,hg,hat⟩
  have hown:Own _ w0.heap.size 24 3 encG _ _ (m):=ho10
  have haw41_19:=hat _ hB19.lt haw10_19;have haw41_39:=hat _ hB39.lt haw10_39;clear hat;replace hB19:=hB19.appA hg haw10_19;replace hW:=Below.app hW hown hg (Nat.le_refl _) hW.size;clear hown hg;refine Za rfl ?_;refine Zn fun a hf=>?_;refine Xd ?_;refine hK15 _ _ ?_;refine Zr hf ?_;refine Ze (Xp rfl rfl (by omega) (by omega))<|Zm rfl ?_;refine Zn fun a hf=>?_
  rw [hmg] at hst
  refine Xc ?_;exact ⟨(k+1,m++[u14]),⟨A41,c41,hf.sub ⟨rfl,rfl,rfl,rfl,rfl,trivial⟩,(by omega),(by rw [hst,hm]),ho41,hW⟩,(by first|omega|(dsimp only;omega))⟩
 have hc13b:=hc13;have hc13:=of_decide_eq_false hc13;refine wp_exit ?_;refine Xf ?_;refine Xf ?_;refine Xy ?_;refine hK8 _ _ ?_;refine Zs hf fun _ hK42=>?_;refine Zm rfl<|Za rfl ?_;refine Zt hK42 fun a hf=>?_
 refine wp_ret (X3 hf (Xq hf rfl rfl) ?_)
 have hfin:mapI l to=m:=by rw [hm,List.take_of_length_le (by omega)];rfl
 rw [hfin]
 exact ⟨A10,c10,rfl,ho10,hW⟩
theorem Xw1(w0:World)(c:Cx)(Ac:Option Addr)(cc:Nat)(hr_c:Rd w0 w0.heap.size 24 encG Ac c.gs)(m:Mx)(Am:Option Addr)(cm:Nat)(hr_m:Rd w0 w0.heap.size 98 encD Am m.cells)(hc:cOk c=true)(hm:mOk m=true)(hr:m.rows=((2^c.n.toNat:Nat) : Int)) : Ret Tryz.prog 168 [.agg #[vi c.n,.slice Ac c.gs.length cc],.agg #[vi m.rows,vi m.cols,.slice Am m.cells.length cm],.bool true] w0 (fun v w=>∃ A c1,v=.tuple #[mV A c1 ((applI c.n c.gs m).getD mZ),.bool (applI c.n c.gs m).isSome]∧Rd w w.heap.size 98 encD A ((applI c.n c.gs m).getD mZ).cells∧Below w0.heap.size w0 w):=by
 obtain ⟨hn,hlen,hgs⟩:=X0x hc;refine enter Tryz.func168 rfl 40 rfl rfl ?_;intro a hf
 have hW:Below w0.heap.size w0 w0:=Below.refl _ _
 refine Zs hf fun _ hK3=>?_;refine Zf (X0p (zs:=[vi c.n,.slice Ac c.gs.length cc]) rfl rfl) ?_;rintro _ w1 ⟨b4,rfl,hl4,hE,hB4⟩;have hlo4:=Nat.le_trans hW.size hl4;replace hW:=btr hW hE;refine Zf (X0p (zs:=[vi m.rows,vi m.cols,.slice Am m.cells.length cm]) rfl rfl) ?_;rintro _ w2 ⟨b5,rfl,hl5,hE,hB5⟩;have hlo5:=Nat.le_trans hW.size hl5;replace hB4:=hB4.below hE;replace hW:=btr hW hE;refine Zf (Xa (zs:=[vi 0,vi 0,.slice none 0 0]) X1a rfl) ?_;rintro _ w3 ⟨b7,rfl,hl7,hE,hB7⟩
 have hne5_7:b5≠b7:=by have:=hB5.lt;omega
 have hlo7:=Nat.le_trans hW.size hl7;replace hB4:=hB4.below hE;replace hB5:=hB5.below hE;replace hW:=btr hW hE;refine Za rfl ?_;refine Zt hK3 fun a hf=>?_;refine wp_seq_k fun _ hK8=>?_;refine Zs hf fun _ hK9=>?_;refine Za rfl ?_;refine Zt hK9 fun a hf=>?_;refine wp_block ?_;refine Xx (σ:=Nat×Mx×Bool) (fun (s:Nat×Mx×Bool) (a:Act) (w:World)=>match s with|(i,x,b)=>∃ A10 c10,Fr a 40 [(2,.bool b),(3,.pointer (some ⟨b4,0,none⟩)),(4,.pointer (some ⟨b5,0,none⟩)),(6,.pointer (some ⟨b7,0,none⟩)),(8,vi (i:Int))]∧((if b=true then applI c.n (c.gs.drop i) x else none)=(applI c.n c.gs m))∧(b=false→x=mZ)∧(b=true→mOk x=true∧x.rows=((2^c.n.toNat:Nat) : Int))∧(i≤c.gs.length)∧Blk w b4 31 [vi c.n,.slice Ac c.gs.length cc]∧Blk w b5 38 [vi x.rows,vi x.cols,.slice A10 x.cells.length c10]∧Blk w b7 38 [vi 0,vi 0,.slice none 0 0]∧Rd w w.heap.size 98 encD A10 x.cells∧Below w0.heap.size w0 w) (fun (s:Nat×Mx×Bool)=>match s with|(i,x,b)=>c.gs.length-i) (0,m,true) ?_ ?_
 ·exact ⟨Am,cm,hf.sub ⟨rfl,rfl,rfl,rfl,rfl,trivial⟩,rfl,(by simp),(fun _=>⟨hm,hr⟩),(Nat.zero_le _),hB4,hB5,hB7,(hr_m.below' hW).top,hW⟩
 rintro ⟨i,x,b⟩ a w4 ⟨A10,c10,hf,hinv,hz,hok,hi,hB4,hB5,hB7,hr10,hW⟩;refine wp_seq_k fun _ hK11=>?_;refine wp_seq_k fun _ hK12=>?_;refine X08 (fun a w=>Fr a 40 [(2,.bool b),(3,.pointer (some ⟨b4,0,none⟩)),(4,.pointer (some ⟨b5,0,none⟩)),(6,.pointer (some ⟨b7,0,none⟩)),(8,vi (i:Int)),(18,.bool ((decide ((i:Int)<(c.gs.length:Int)))&&b))]∧w4=w) ?_ ?_
 ·refine Zr hf ?_;refine Zm rfl<|Ze (Vd rfl X0k 1)<|Ze (X0 rfl X14 (hB4.at 1))<|Ze (X0y rfl X0c)<|Ze (X0l rfl rfl) ?_;refine Zm rfl ?_
  refine Zg 16 rfl (fun hg13=>?_) (fun hg13=>?_)
  ·refine Zv ⟨_,_,rfl,rfl,hg13⟩ (X2 rfl) ?_;refine Ze (Xb rfl hg13 rfl) ?_;refine Zn fun a hf=>?_;exact ⟨hf.sub ⟨rfl,rfl,rfl,rfl,rfl,X1 rfl (by first|rfl|(simp only [hg13,bs];done)|simp [hg13]),trivial⟩,rfl⟩
  refine Zp ⟨_,_,rfl,rfl,hg13⟩ ?_;refine Ze (X9 rfl hg13 rfl) ?_;refine Zn fun a hf=>?_;exact ⟨hf.sub ⟨rfl,rfl,rfl,rfl,rfl,X1 rfl (by first|rfl|(simp only [hg13,bs];done)|simp [hg13]),trivial⟩,rfl⟩
 rintro a _ ⟨hf,rfl⟩;refine hK12 _ _ ?_
 refine Xe hf rfl (fun hc14=>?_) (fun hc14=>?_)
 ·have hc14b:=hc14
  have hlt:(i:Int)<c.gs.length∧b=true:=by simpa using hc14
  have hb1:=hlt.2
  obtain ⟨u,hu⟩:=Xl (l:=c.gs) (k:=i) (by omega)
  have hgu:=hgs u (List.mem_of_getElem? hu);obtain ⟨hg1,hg2⟩:=X1d hgu
  have hma:=X2x hg2 (hok hb1).1 (by rw [(hok hb1).2];rfl)
  have hdr:=Xdh hu;refine wp_skip ?_;refine hK11 _ _ ?_;refine wp_seq_k fun _ hK15=>?_;refine wp_block ?_;refine wp_seq_k fun _ hK16=>?_;refine X08 (fun a w=>∃ b21 A19 c19,Fr a 40 [(3,.pointer (some ⟨b4,0,none⟩)),(4,.pointer (some ⟨b5,0,none⟩)),(6,.pointer (some ⟨b7,0,none⟩)),(8,vi (i:Int)),(9,.pointer (some ⟨b21,0,none⟩))]∧w0.heap.size≤b21∧Blk w b21 38 [vi (((gateI c.n u).getD mZ).rows),vi (((gateI c.n u).getD mZ).cols),.slice A19 (((gateI c.n u).getD mZ).cells).length c19]∧b5≠b21∧b7≠b21∧Own w w0.heap.size 98 5 encD A19 c19 (((gateI c.n u).getD mZ).cells)∧Below w4.heap.size w4 w) ?_ ?_
  ·have hEc:Below w4.heap.size w4 w4:=Below.refl _ _
   refine X05 none (fun j=>[12].contains j) mixed ?_;intro w5 hE;replace hB4:=hB4.below hE;replace hB5:=hB5.below hE;replace hB7:=hB7.below hE;replace hr10:=hr10.below hE;replace hW:=btr hW hE;replace hEc:=btr hEc hE;refine Yb hf ?_;refine Yo 0 rfl (fun _=>Vd rfl X3h 0)<|Ye 1 rfl (X0 rfl X4 (hB4.at 0))<|Yo 2 rfl (fun _=>Vd rfl X0k 1)<|Ye 3 rfl (X0 rfl X14 (hB4.at 1))<|Yo 4 rfl (fun _=>X2 rfl) ?_;refine Yi (k:=i) (u:=u) (enc:=encG) (l:=c.gs) 5 rfl trivial rfl rfl X0c X0g X0d (hr_c.below' hW) hu rfl ?_;intro p18 hat17;refine Ye 6 rfl (X09 (l:=[vi u.k,vi u.a,vi u.b]) rfl Xt hat17 rfl) ?_
   have hJc:Below w5.heap.size w5 w5:=Below.refl _ _
   refine Yc [0,1,2,3,4,5,6,7,8,9,10,11] 2 (fun a w=>∃ b21 A19 c19,Fr a 40 [(3,.pointer (some ⟨b4,0,none⟩)),(4,.pointer (some ⟨b5,0,none⟩)),(6,.pointer (some ⟨b7,0,none⟩)),(8,vi (i:Int)),(9,.pointer (some ⟨b21,0,none⟩)),(30,.agg #[vi (((gateI c.n u).getD mZ).rows),vi (((gateI c.n u).getD mZ).cols),.slice A19 (((gateI c.n u).getD mZ).cells).length c19]),(31,.bool ((gateI c.n u).isSome))]∧w0.heap.size≤b21∧Blk w b21 38 [vi 0,vi 0,.slice none 0 0]∧b5≠b21∧b7≠b21∧w5.heap.size≤b21∧w4.heap.size≤b21∧Own w w0.heap.size 98 5 encD A19 c19 (((gateI c.n u).getD mZ).cells)∧Below w5.heap.size w5 w) ?_ ?_
   ·rintro a w6 ⟨b21,A19,c19,hf,hlo21,hB21,hne5_21,hne7_21,hlj21,hlc21,ho19,hE⟩;clear hJc;have hJc:=hE;replace hB4:=hB4.below hE;replace hB5:=hB5.below hE;replace hB7:=hB7.below hE;replace hr10:=hr10.below hE;replace hW:=btr hW hE;replace hEc:=btr hEc hE;refine Yb hf ?_;refine Y1 12 ?_;refine Yh rfl trivial rfl (Vw [vi (((gateI c.n u).getD mZ).rows),vi (((gateI c.n u).getD mZ).cols),.slice A19 (((gateI c.n u).getD mZ).cells).length c19] X1j hB21) ?_;rintro _ w7 ⟨ho,hb⟩;have hold:=hB21;replace hB4:=hB4.only ho (Blk.ne hB4 hold rfl);replace hB5:=hB5.only ho (by omega);replace hB7:=hB7.only ho (by omega);replace hr10:=hr10.onlyT ho hold rfl;replace ho19:=ho19.onlyT ho hold rfl;replace hEc:=Below.only hEc ho hlc21;replace hJc:=Below.only hJc ho hlj21;replace hW:=Below.only hW ho hlo21;clear hold;have hB21:=hb;clear hb ho;refine Yo 13 rfl (fun _=>X1s rfl) ?_;refine Yd fun a hf=>?_
    have hEE:Below w4.heap.size w4 w7:=hEc
    exact ⟨b21,A19,c19,hf.sub ⟨rfl,rfl,rfl,rfl,rfl,trivial⟩,hlo21,hB21,hne5_21,hne7_21,ho19,hEE⟩
   intro hJ19;refine Y2 7 11 ?_ ?_
   ·refine Yk rfl trivial (Vc (Xtp _ c.n u) Xm0) (fun _ _ ⟨A21,c21,_,ho21,hE⟩=>hE) ?_;rintro _ w8 ⟨A21,c21,rfl,ho21,hE⟩;replace ho21:=ho21.lower hW.size;replace hB4:=hB4.below hE;replace hB5:=hB5.below hE;replace hB7:=hB7.below hE;replace hr10:=hr10.below hE;replace hW:=btr hW hE;replace hEc:=btr hEc hE;replace hJc:=btr hJc hE;refine Yo 8 rfl (fun _=>X2 rfl)<|Yo 9 rfl (fun _=>X8 (vs:=[.agg #[vi (((gateI c.n u).getD mZ).rows),vi (((gateI c.n u).getD mZ).cols),.slice A21 (((gateI c.n u).getD mZ).cells).length c21],.bool ((gateI c.n u).isSome)]) rfl rfl)<|Yo 10 rfl (fun _=>X8 (vs:=[.agg #[vi (((gateI c.n u).getD mZ).rows),vi (((gateI c.n u).getD mZ).cols),.slice A21 (((gateI c.n u).getD mZ).cells).length c21],.bool ((gateI c.n u).isSome)]) rfl rfl) ?_;refine Y1 11 ?_;refine Yk rfl trivial (Xa (zs:=[vi 0,vi 0,.slice none 0 0]) X1a rfl) (fun _ _ ⟨_,_,_,h,_⟩=>h) ?_;rintro _ w9 ⟨b23,rfl,hl23,hE,hB23⟩
    have hne5_23:b5≠b23:=by have:=hB5.lt;omega
    have hne7_23:b7≠b23:=by have:=hB7.lt;omega
    have hlo23:=Nat.le_trans hW.size hl23;have hlc23:=Nat.le_trans hEc.size hl23;have hlj23:=Nat.le_trans hJc.size hl23;replace hB4:=hB4.below hE;replace hB5:=hB5.below hE;replace hB7:=hB7.below hE;replace hr10:=hr10.below hE;replace ho21:=ho21.below hE;replace hW:=btr hW hE;replace hEc:=btr hEc hE;replace hJc:=btr hJc hE;exact fun a hf=>hJ19 _ a _ rfl ⟨b23,A21,c21,hf.sub ⟨rfl,rfl,rfl,rfl,rfl,rfl,rfl,trivial⟩,hlo23,hB23,hne5_23,hne7_23,hlj23,hlc23,ho21,hJc⟩
   refine Yk rfl trivial (Xa (zs:=[vi 0,vi 0,.slice none 0 0]) X1a rfl) (fun _ _ ⟨_,_,_,h,_⟩=>h) ?_;rintro _ w10 ⟨b25,rfl,hl25,hE,hB25⟩
   have hne5_25:b5≠b25:=by have:=hB5.lt;omega
   have hne7_25:b7≠b25:=by have:=hB7.lt;omega
   have hlo25:=Nat.le_trans hW.size hl25;have hlc25:=Nat.le_trans hEc.size hl25;have hlj25:=Nat.le_trans hJc.size hl25;replace hB4:=hB4.below hE;replace hB5:=hB5.below hE;replace hB7:=hB7.below hE;replace hr10:=hr10.below hE;replace hW:=btr hW hE;replace hEc:=btr hEc hE;replace hJc:=btr hJc hE;refine Y1 7 ?_;refine Yk rfl trivial (Vc (Xtp _ c.n u) Xm0) (fun _ _ ⟨A26,c26,_,ho26,hE⟩=>hE) ?_;rintro _ w11 ⟨A26,c26,rfl,ho26,hE⟩;replace ho26:=ho26.lower hW.size;replace hB4:=hB4.below hE;replace hB5:=hB5.below hE;replace hB7:=hB7.below hE;replace hB25:=hB25.below hE;replace hr10:=hr10.below hE;replace hW:=btr hW hE;replace hEc:=btr hEc hE;replace hJc:=btr hJc hE;refine Yo 8 rfl (fun _=>X2 rfl)<|Yo 9 rfl (fun _=>X8 (vs:=[.agg #[vi (((gateI c.n u).getD mZ).rows),vi (((gateI c.n u).getD mZ).cols),.slice A26 (((gateI c.n u).getD mZ).cells).length c26],.bool ((gateI c.n u).isSome)]) rfl rfl)<|Yo 10 rfl (fun _=>X8 (vs:=[.agg #[vi (((gateI c.n u).getD mZ).rows),vi (((gateI c.n u).getD mZ).cols),.slice A26 (((gateI c.n u).getD mZ).cells).length c26],.bool ((gateI c.n u).isSome)]) rfl rfl) ?_;exact fun a hf=>hJ19 _ a _ rfl ⟨b25,A26,c26,hf.sub ⟨rfl,rfl,rfl,rfl,rfl,rfl,rfl,trivial⟩,hlo25,hB25,hne5_25,hne7_25,hlj25,hlc25,ho26,hJc⟩
  rintro a w12 ⟨b21,A19,c19,hf,hlo21,hB21,hne5_21,hne7_21,ho19,hE⟩;replace hB4:=hB4.below hE;replace hB5:=hB5.below hE;replace hB7:=hB7.below hE;replace hr10:=hr10.below hE;replace hW:=btr hW hE;refine hK16 _ _ ?_;refine Zr hf ?_;refine Ze (Vn X13 hB21)<|Ze (Vn X13 hB5) ?_;refine Zf (Vc (Xv8 _ ((gateI c.n u).getD mZ) A19 c19 ho19.rd.top x A10 c10 hr10.top (by rw [hg1,Option.getD_some];exact Xlw hn) (Xfq (hok hb1).1)) Xq0) ?_;rintro _ w13 ⟨A27,c27,rfl,ho27,hE⟩;replace ho27:=ho27.lower hW.size;replace hB4:=hB4.below hE;replace hB5:=hB5.below hE;replace hB7:=hB7.below hE;replace hB21:=hB21.below hE;replace hr10:=hr10.below hE;replace ho19:=ho19.below hE;replace hW:=btr hW hE;refine Zm rfl<|Ze (X8 (vs:=[.agg #[vi (((mulI ((gateI c.n u).getD mZ) x).getD mZ).rows),vi (((mulI ((gateI c.n u).getD mZ) x).getD mZ).cols),.slice A27 (((mulI ((gateI c.n u).getD mZ) x).getD mZ).cells).length c27],.bool ((mulI ((gateI c.n u).getD mZ) x).isSome)]) rfl rfl)<|Ze (X8 (vs:=[.agg #[vi (((mulI ((gateI c.n u).getD mZ) x).getD mZ).rows),vi (((mulI ((gateI c.n u).getD mZ) x).getD mZ).cols),.slice A27 (((mulI ((gateI c.n u).getD mZ) x).getD mZ).cells).length c27],.bool ((mulI ((gateI c.n u).getD mZ) x).isSome)]) rfl rfl) ?_;refine Zo (Vw [vi (((mulI ((gateI c.n u).getD mZ) x).getD mZ).rows),vi (((mulI ((gateI c.n u).getD mZ) x).getD mZ).cols),.slice A27 (((mulI ((gateI c.n u).getD mZ) x).getD mZ).cells).length c27] X1j hB5) ?_;rintro _ w14 ⟨ho,hb⟩;have hold:=hB5;replace hB4:=hB4.only ho (Blk.ne hB4 hold rfl);replace hB7:=hB7.only ho (by omega);replace hB21:=hB21.only ho (by omega);replace hr10:=hr10.onlyT ho hold rfl;replace ho19:=ho19.onlyT ho hold rfl;replace ho27:=ho27.onlyT ho hold rfl;replace hW:=Below.only hW ho hlo5;clear hold;have hB5:=hb;clear hb ho;refine Za rfl ?_;refine Zn fun a hf=>?_;refine Xd ?_;refine hK15 _ _ ?_;refine Zr hf ?_
  refine Zm rfl<|Ze (Xp rfl rfl (by omega) (by omega))<|Za rfl ?_;refine Zn fun a hf=>?_;refine Xc ?_;exact ⟨(i+1,((mulI ((gateI c.n u).getD mZ) x).getD mZ),(mulI ((gateI c.n u).getD mZ) x).isSome),⟨A27,c27,hf.sub ⟨rfl,rfl,rfl,rfl,rfl,trivial⟩,(by rw [← hinv,if_pos hb1,hdr,applI];cases mulI ((gateI c.n u).getD mZ) x<;>rfl),(by cases mulI ((gateI c.n u).getD mZ) x<;>simp),(by rw [hg1,Option.getD_some];intro h0;cases h1:mulI (gateS c.n u) x with|none=>rw [h1] at h0;cases h0|some x1=>exact ⟨(hma.1 x1 h1).2.1,by rw [Option.getD_some,(hma.1 x1 h1).2.2.1];rfl⟩),(by omega),hB4,hB5,hB7,ho27.rd,hW⟩,(by first|omega|(dsimp only;omega))⟩
 have hc14b:=hc14
 have hend:b=true→¬ (i:Int)<c.gs.length:=by intro h0;subst h0;simpa using hc14
 refine wp_exit ?_;refine Xf ?_;refine Xf ?_;refine Xy ?_;refine hK8 _ _ ?_;refine Zs hf fun _ hK28=>?_;refine Ze (Vn X13 hB5)<|Zm rfl ?_;refine Zo (Vw [vi x.rows,vi x.cols,.slice A10 x.cells.length c10] X1j hB7) ?_;rintro _ w15 ⟨ho,hb⟩;have hold:=hB7;replace hB4:=hB4.only ho (Blk.ne hB4 hold rfl);replace hB5:=hB5.only ho (by omega);replace hr10:=hr10.onlyT ho hold rfl;replace hW:=Below.only hW ho hlo7;clear hold;have hB7:=hb;clear hb ho;refine Za rfl ?_;refine Zt hK28 fun a hf=>?_
 refine wp_ret (X3 hf (X15 hf rfl (ResV.cellN (l:=[vi x.rows,vi x.cols,.slice A10 x.cells.length c10]) rfl X13 (hB7.at 0) rfl) rfl) ?_)
 have hfin:applI c.n c.gs m=if b=true then some x else none:=by rw [← hinv];cases b with|false=>rfl|true=>rw [if_pos rfl,if_pos rfl,List.drop_of_length_le (by have:=hend rfl;omega)];rfl
 have h1:(applI c.n c.gs m).getD mZ=x:=by rw [hfin];cases b with|false=>exact (hz rfl).symm|true=>rfl
 have h2:(applI c.n c.gs m).isSome=b:=by rw [hfin];cases b<;>rfl
 rw [h1,h2]
 exact ⟨A10,c10,rfl,hr10.top,hW⟩
theorem Xt1(w0:World)(d:Nat)(h:isDimB (d:Int)=true) : Ret Tryz.prog 167 [vi (d:Int)] w0 (fun v w=>∃ A c,v=.tuple #[mV A c (unitS d),.bool true]∧Own w w0.heap.size 98 5 encD A c (unitS d).cells∧Below w0.heap.size w0 w):=by
 have h1:=Xwo w0 (d:Int)
 rw [(X3t h).1] at h1
 exact h1
theorem F97(w0:World)(c:Cx)(Ac:Option Addr)(cc:Nat)(hr_c:Rd w0 w0.heap.size 24 encG Ac c.gs)(hlc:c.gs.length≤2305843009213693951) : Ret Tryz.prog 114 [.agg #[vi c.n,.slice Ac c.gs.length cc]] w0 (fun v w=>∃ A c1,v=.tuple #[mV A c1 ((opI c).getD mZ),.bool (opI c).isSome]∧Rd w w.heap.size 98 encD A ((opI c).getD mZ).cells∧Below w0.heap.size w0 w):=by
 refine enter Tryz.func114 rfl 23 rfl rfl ?_;intro a hf
 have hW:Below w0.heap.size w0 w0:=Below.refl _ _
 refine Zs hf fun _ hK2=>?_;refine Zf (X0p (zs:=[vi c.n,.slice Ac c.gs.length cc]) rfl rfl) ?_;rintro _ w1 ⟨b3,rfl,hl3,hE,hB3⟩;have hlo3:=Nat.le_trans hW.size hl3;replace hW:=btr hW hE;refine Zf (Xa (zs:=[vi 0,vi 0,.slice none 0 0]) X1a rfl) ?_;rintro _ w2 ⟨b5,rfl,hl5,hE,hB5⟩;have hlo5:=Nat.le_trans hW.size hl5;replace hB3:=hB3.below hE;replace hW:=btr hW hE;refine Za rfl ?_;refine Zt hK2 fun a hf=>?_;refine wp_seq_k fun _ hK6=>?_;refine Zs hf fun _ hK7=>?_;refine Ze (Vn X0q hB3) ?_;refine Zf (Vc (F55 _ c Ac cc (hr_c.below' hW).top hlc) Xd3) ?_;rintro _ w3 ⟨rfl,hE⟩;replace hB3:=hB3.below hE;replace hB5:=hB5.below hE;replace hW:=btr hW hE;refine Ze (X16 rfl) ?_;refine Zt hK7 fun a hf=>?_
 refine Xe hf rfl (fun hc8=>?_) (fun hc8=>?_)
 ·have hc8b:=hc8
  have hn:¬ cOk c=true:=by revert hc8;cases cOk c<;>simp
  refine Zs hf fun _ hK9=>?_;refine Ze (Xz (ps:=[]) (cs:=[vi 0,vi 0,.slice none 0 0]) rfl (fun _=>by first|rfl|kernel_rfl)) ?_;refine Zo (Vw [vi 0,vi 0,.slice none 0 0] X1j hB5) ?_;rintro _ w4 ⟨ho,hb⟩;have hold:=hB5;replace hB3:=hB3.only ho (Blk.ne hB3 hold rfl);replace hW:=Below.only hW ho hlo5;clear hold;have hB5:=hb;clear hb ho;refine Za rfl ?_;refine Zt hK9 fun a hf=>?_;refine wp_ret ?_;refine X5 ?_;refine X3 hf (X15 hf rfl (ResV.cellN (l:=[vi 0,vi 0,.slice none 0 0]) rfl X13 (hB5.at 0) rfl) rfl) ?_
  have hfin:opI c=none:=by rw [opI,if_neg hn]
  rw [hfin]
  exact ⟨none,0,rfl,(Rd.nil _ 0 _ _ _).top,hW⟩
 have hc8b:=hc8
 have hc:cOk c=true:=by revert hc8;cases cOk c<;>simp
 obtain ⟨hn,hlen,hgs⟩:=X0x hc
 obtain ⟨d,hd⟩ : ∃ d:Nat,d=2^c.n.toNat:=⟨_,rfl⟩
 refine wp_skip ?_;refine hK6 _ _ ?_;refine Zs hf fun _ hK11=>?_;refine Ze (Vd rfl X3h 0)<|Ze (X0 rfl X4 (hB3.at 0))<|Ze (Xgn (m:=c.n.toNat) (D:=d) rfl rfl (by omega) ⟨hd,by omega⟩) ?_;refine Zf (Vc (Xt1 _ d (by rw [hd];exact X2g hn)) Xs0) ?_;rintro _ w5 ⟨A12,c12,rfl,ho12,hE⟩;replace ho12:=ho12.lower hW.size;replace hB3:=hB3.below hE;replace hB5:=hB5.below hE;replace hW:=btr hW hE;refine Zm rfl<|Ze (X8 (vs:=[.agg #[vi ((unitS d).rows),vi ((unitS d).cols),.slice A12 ((unitS d).cells).length c12],.bool true]) rfl rfl)<|Ze (X8 (vs:=[.agg #[vi ((unitS d).rows),vi ((unitS d).cols),.slice A12 ((unitS d).cells).length c12],.bool true]) rfl rfl) ?_;refine Zf (Xa (zs:=[vi 0,vi 0,.slice none 0 0]) X1a rfl) ?_;rintro _ w6 ⟨b14,rfl,hl14,hE,hB14⟩
 have hne5_14:b5≠b14:=by have:=hB5.lt;omega
 have hlo14:=Nat.le_trans hW.size hl14;replace hB3:=hB3.below hE;replace hB5:=hB5.below hE;replace ho12:=ho12.below hE;replace hW:=btr hW hE;refine Zo (Vw [vi ((unitS d).rows),vi ((unitS d).cols),.slice A12 ((unitS d).cells).length c12] X1j hB14) ?_;rintro _ w7 ⟨ho,hb⟩;have hold:=hB14;replace hB3:=hB3.only ho (Blk.ne hB3 hold rfl);replace hB5:=hB5.only ho (by omega);replace ho12:=ho12.onlyT ho hold rfl;replace hW:=Below.only hW ho hlo14;clear hold;have hB14:=hb;clear hb ho;refine Za rfl ?_;refine Zt hK11 fun a hf=>?_;refine Zs hf fun _ hK15=>?_;refine Ze (Vn X0q hB3)<|Ze (Vn X13 hB14)<|Zm rfl ?_;refine Zf (Vc (Xw1 _ c Ac cc (hr_c.below' hW).top (unitS d) A12 c12 ho12.rd.top hc (X3t (by rw [hd];exact X2g hn)).2 (by rw [← hd];rfl)) Xrc) ?_;rintro _ w8 ⟨A16,c16,rfl,hr16,hE⟩;replace hB3:=hB3.below hE;replace hB5:=hB5.below hE;replace hB14:=hB14.below hE;replace ho12:=ho12.below hE;replace hW:=btr hW hE;refine Ze (X8 (vs:=[.agg #[vi (((applI c.n c.gs (unitS d)).getD mZ).rows),vi (((applI c.n c.gs (unitS d)).getD mZ).cols),.slice A16 (((applI c.n c.gs (unitS d)).getD mZ).cells).length c16],.bool ((applI c.n c.gs (unitS d)).isSome)]) rfl rfl)<|Ze (X8 (vs:=[.agg #[vi (((applI c.n c.gs (unitS d)).getD mZ).rows),vi (((applI c.n c.gs (unitS d)).getD mZ).cols),.slice A16 (((applI c.n c.gs (unitS d)).getD mZ).cells).length c16],.bool ((applI c.n c.gs (unitS d)).isSome)]) rfl rfl) ?_;refine Zo (Vw [vi (((applI c.n c.gs (unitS d)).getD mZ).rows),vi (((applI c.n c.gs (unitS d)).getD mZ).cols),.slice A16 (((applI c.n c.gs (unitS d)).getD mZ).cells).length c16] X1j hB5) ?_;rintro _ w9 ⟨ho,hb⟩;have hold:=hB5;replace hB3:=hB3.only ho (Blk.ne hB3 hold rfl);replace hB14:=hB14.only ho (by omega);replace ho12:=ho12.onlyT ho hold rfl;replace hr16:=hr16.onlyT ho hold rfl;replace hW:=Below.only hW ho hlo5;clear hold;have hB5:=hb;clear hb ho;refine Za rfl ?_
 refine Zt hK15 fun a hf=>?_
 refine wp_ret (X3 hf (X15 hf rfl (ResV.cellN (l:=[vi (((applI c.n c.gs (unitS d)).getD mZ).rows),vi (((applI c.n c.gs (unitS d)).getD mZ).cols),.slice A16 (((applI c.n c.gs (unitS d)).getD mZ).cells).length c16]) rfl X13 (hB5.at 0) rfl) rfl) ?_)
 have hfin:opI c=applI c.n c.gs (unitS d):=by rw [opI,if_pos hc,← hd,(X3t (by rw [hd];exact X2g hn)).1];rfl
 rw [hfin]
 exact ⟨A16,c16,rfl,hr16.top,hW⟩
theorem Xut(w0:World)(bV:Nat)(f:Bool)(hBV:Blk w0 bV 142 [.bool f])(p:Mx)(Ap:Option Addr)(cp:Nat)(hr_p:Rd w0 w0.heap.size 98 encD Ap p.cells)(q:Mx)(Aq:Option Addr)(cq:Nat)(hr_q:Rd w0 w0.heap.size 98 encD Aq q.cells)(hp:mOk p=true)(hq:mOk q=true)(hpq:p.cols=q.rows) : Ret Tryz.prog 127 [.pointer (some ⟨bV,0,none⟩),.agg #[vi p.rows,vi p.cols,.slice Ap p.cells.length cp],.agg #[vi q.rows,vi q.cols,.slice Aq q.cells.length cq]] w0 (fun v w=>∃ A c1,v=mV A c1 ((timesS f p q).2)∧Own w w0.heap.size 98 5 encD A c1 ((timesS f p q).2).cells∧Kept bV w0.heap.size w0 w∧Blk w bV 142 [.bool ((timesS f p q).1)]):=by
 have hltV:=hBV.lt;have hpl:=X3g hp;have hql:=X3g hq;have hpa:=X2f hp;have hqa:=X2f hq
 have hlp:p.cells.length≤1024:=by rw [hpl.2.2];exact X3z (by omega) (by omega)
 have hlq:q.cells.length≤1024:=by rw [hql.2.2];exact X3z (by omega) (by omega)
 have ec1:p.cols=(p.cols.toNat:Int):=by omega
 have ec2:q.cols=(q.cols.toNat:Int):=by omega
 suffices hgoal:Ret Tryz.prog 127 [.pointer (some ⟨bV,0,none⟩),.agg #[vi p.rows,vi (p.cols.toNat:Int),.slice Ap p.cells.length cp],.agg #[vi q.rows,vi (q.cols.toNat:Int),.slice Aq q.cells.length cq]] w0 (fun v w=>∃ A c1,v=.agg #[vi p.rows,vi (q.cols.toNat:Int),.slice A (timesS f p q).2.cells.length c1]∧Own w w0.heap.size 98 5 encD A c1 (timesS f p q).2.cells∧Kept bV w0.heap.size w0 w∧Blk w bV 142 [.bool (timesS f p q).1]) by rw [← ec1,← ec2] at hgoal;exact hgoal
 refine enter Tryz.func127 rfl 75 rfl rfl ?_;intro a hf
 have hW:Kept bV w0.heap.size w0 w0:=Kept.refl _ _ _
 refine Zs hf fun _ hK3=>?_;refine Zf (X0p (zs:=[vi p.rows,vi (p.cols.toNat:Int),.slice Ap p.cells.length cp]) rfl rfl) ?_;rintro _ w1 ⟨b4,rfl,hl4,hE,hB4⟩;have hlo4:=Nat.le_trans hW.size hl4;replace hBV:=hBV.below hE;replace hr_p:=hr_p.below hE;replace hr_q:=hr_q.below hE;replace hW:=ktr hW hE;refine Zf (X0p (zs:=[vi q.rows,vi (q.cols.toNat:Int),.slice Aq q.cells.length cq]) rfl rfl) ?_;rintro _ w2 ⟨b5,rfl,hl5,hE,hB5⟩
 have hne4_5:b4≠b5:=by have:=hB4.lt;omega
 have hlo5:=Nat.le_trans hW.size hl5;replace hBV:=hBV.below hE;replace hB4:=hB4.below hE;replace hr_p:=hr_p.below hE;replace hr_q:=hr_q.below hE;replace hW:=ktr hW hE;refine Zf (Xa (zs:=[vi 0,vi 0,.slice none 0 0]) X1a rfl) ?_;rintro _ w3 ⟨b7,rfl,hl7,hE,hB7⟩
 have hne4_7:b4≠b7:=by have:=hB4.lt;omega
 have hne5_7:b5≠b7:=by have:=hB5.lt;omega
 have hlo7:=Nat.le_trans hW.size hl7;replace hBV:=hBV.below hE;replace hB4:=hB4.below hE;replace hB5:=hB5.below hE;replace hr_p:=hr_p.below hE;replace hr_q:=hr_q.below hE;replace hW:=ktr hW hE;refine Zt hK3 fun a hf=>?_;refine Zs hf fun _ hK8=>?_;refine Ze (Vd rfl X2m 0)<|Ze (X0 rfl X4 (hB4.at 0))<|Ze (Vd rfl X1q 1)<|Ze (X0 rfl X4 (hB5.at 1))<|Ze (Xz (ps:=[(0,vi p.rows),(1,vi (q.cols.toNat:Int))]) (cs:=[vi p.rows,vi (q.cols.toNat:Int),.slice none 0 0]) rfl (fun _=>by first|rfl|kernel_rfl)) ?_;refine Zf (Xa (zs:=[vi 0,vi 0,.slice none 0 0]) X1a rfl) ?_;rintro _ w4 ⟨b11,rfl,hl11,hE,hB11⟩
 have hne4_11:b4≠b11:=by have:=hB4.lt;omega
 have hne5_11:b5≠b11:=by have:=hB5.lt;omega
 have hne7_11:b7≠b11:=by have:=hB7.lt;omega
 have hlo11:=Nat.le_trans hW.size hl11;replace hBV:=hBV.below hE;replace hB4:=hB4.below hE;replace hB5:=hB5.below hE;replace hB7:=hB7.below hE;replace hr_p:=hr_p.below hE;replace hr_q:=hr_q.below hE;replace hW:=ktr hW hE;refine Zo (Vw [vi p.rows,vi (q.cols.toNat:Int),.slice none 0 0] X1j hB11) ?_;rintro _ w5 ⟨ho,hb⟩;have hold:=hB11;replace hBV:=hBV.only ho (Blk.ne hBV hold rfl);replace hB4:=hB4.only ho (by omega);replace hB5:=hB5.only ho (by omega);replace hB7:=hB7.only ho (by omega);replace hr_p:=hr_p.onlyT ho hold rfl;replace hr_q:=hr_q.onlyT ho hold rfl;replace hW:=Kept.only hW ho hlo11;clear hold;have hB11:=hb;clear hb ho;refine Zt hK8 fun a hf=>?_;refine wp_seq_k fun _ hK12=>?_;refine Zs hf fun _ hK13=>?_;refine Za rfl ?_;refine Zt hK13 fun a hf=>?_;refine wp_block ?_;refine Xx (σ:=Nat×(List Dy)×Bool) (fun (s:Nat×(List Dy)×Bool) (a:Act) (w:World)=>match s with|(i,l,f1)=>∃ A14 c14,Fr a 75 [(0,.pointer (some ⟨bV,0,none⟩)),(4,.pointer (some ⟨b4,0,none⟩)),(5,.pointer (some ⟨b5,0,none⟩)),(6,.pointer (some ⟨b7,0,none⟩)),(7,.pointer (some ⟨b11,0,none⟩)),(8,vi (i:Int))]∧((i:Int)≤p.rows)∧(timesL f p q (i*q.cols.toNat)=(f1,l))∧Blk w bV 142 [.bool f1]∧Blk w b4 38 [vi p.rows,vi (p.cols.toNat:Int),.slice Ap p.cells.length cp]∧Blk w b5 38 [vi q.rows,vi (q.cols.toNat:Int),.slice Aq q.cells.length cq]∧Blk w b7 38 [vi 0,vi 0,.slice none 0 0]∧Blk w b11 38 [vi p.rows,vi (q.cols.toNat:Int),.slice A14 l.length c14]∧Rd w w0.heap.size 98 encD Ap p.cells∧Rd w w0.heap.size 98 encD Aq q.cells∧Own w w0.heap.size 98 5 encD A14 c14 l∧Kept bV w0.heap.size w0 w) (fun (s:Nat×(List Dy)×Bool)=>match s with|(i,l,f1)=>(p.rows-i).toNat) (0,[],f) ?_ ?_
 ·exact ⟨none,0,hf.sub ⟨rfl,rfl,rfl,rfl,rfl,rfl,trivial⟩,(by omega),(by rw [Nat.zero_mul];rfl),hBV,hB4,hB5,hB7,hB11,hr_p,hr_q,(Own.nil _ _ _ _ _),hW⟩
 rintro ⟨i,l,f1⟩ a w6 ⟨A14,c14,hf,hi,hl,hBV,hB4,hB5,hB7,hB11,hr_p,hr_q,ho14,hW⟩;refine wp_seq_k fun _ hK15=>?_;refine Zs hf fun _ hK16=>?_;refine Zm rfl<|Ze (Vd rfl X2m 0)<|Ze (X0 rfl X4 (hB4.at 0))<|Ze (X0l rfl rfl) ?_;refine Zt hK16 fun a hf=>?_
 refine Xe hf rfl (fun hc17=>?_) (fun hc17=>?_)
 ·have hc17b:=hc17;have hc17:=of_decide_eq_true hc17
  have hi1:(i:Int)<p.rows:=hc17
  refine wp_skip ?_;refine hK15 _ _ ?_;refine wp_seq_k fun _ hK18=>?_;refine wp_block ?_;refine Zs hf fun _ hK19=>?_;refine Za rfl ?_;refine Zt hK19 fun a hf=>?_;refine wp_block ?_;refine Xx (σ:=Nat×(List Dy)×Bool) (fun (s:Nat×(List Dy)×Bool) (a:Act) (w:World)=>match s with|(j,l2,f2)=>∃ A20 c20,Fr a 75 [(0,.pointer (some ⟨bV,0,none⟩)),(4,.pointer (some ⟨b4,0,none⟩)),(5,.pointer (some ⟨b5,0,none⟩)),(6,.pointer (some ⟨b7,0,none⟩)),(7,.pointer (some ⟨b11,0,none⟩)),(8,vi (i:Int)),(9,vi (j:Int))]∧(j≤q.cols.toNat)∧(timesL f p q (i*q.cols.toNat+j)=(f2,l2))∧Blk w bV 142 [.bool f2]∧Blk w b4 38 [vi p.rows,vi (p.cols.toNat:Int),.slice Ap p.cells.length cp]∧Blk w b5 38 [vi q.rows,vi (q.cols.toNat:Int),.slice Aq q.cells.length cq]∧Blk w b7 38 [vi 0,vi 0,.slice none 0 0]∧Blk w b11 38 [vi p.rows,vi (q.cols.toNat:Int),.slice A20 l2.length c20]∧Rd w w0.heap.size 98 encD Ap p.cells∧Rd w w0.heap.size 98 encD Aq q.cells∧Own w w0.heap.size 98 5 encD A20 c20 l2∧Kept bV w0.heap.size w0 w) (fun (s:Nat×(List Dy)×Bool)=>match s with|(j,l2,f2)=>q.cols.toNat-j) (0,l,f1) ?_ ?_
  ·exact ⟨A14,c14,hf.sub ⟨rfl,rfl,rfl,rfl,rfl,rfl,rfl,trivial⟩,(Nat.zero_le _),hl,hBV,hB4,hB5,hB7,hB11,hr_p,hr_q,ho14,hW⟩
  rintro ⟨j,l2,f2⟩ a w7 ⟨A20,c20,hf,hj,hl2,hBV,hB4,hB5,hB7,hB11,hr_p,hr_q,ho20,hW⟩;refine wp_seq_k fun _ hK21=>?_;refine Zs hf fun _ hK22=>?_;refine Zm rfl<|Ze (Vd rfl X1q 1)<|Ze (X0 rfl X4 (hB5.at 1))<|Ze (X0l rfl rfl) ?_;refine Zt hK22 fun a hf=>?_
  refine Xe hf rfl (fun hc23=>?_) (fun hc23=>?_)
  ·have hc23b:=hc23;have hc23:=of_decide_eq_true hc23
   have hj1:j<q.cols.toNat:=by have:=hc23;omega
   have hlen:l2.length=i*q.cols.toNat+j:=by have:=X64 f p q (i*q.cols.toNat+j);rw [hl2] at this;exact this
   have hgr:=X3z (show i≤32 by omega) (show q.cols.toNat≤32 by omega)
   have hts:=Xe2 (f:=f) (a:=p) (b:=q) (i:=i) hj1
   rw [hl2] at hts
   refine wp_skip ?_;refine hK21 _ _ ?_;refine wp_seq_k fun _ hK24=>?_;refine wp_block ?_;refine Zs hf fun _ hK25=>?_;refine Ze (Xz (ps:=[]) (cs:=[vi 0,vi 0,vi 0,vi 0,vi 0]) rfl (fun _=>by first|rfl|kernel_rfl)) ?_;refine Zf (Xa (zs:=[vi 0,vi 0,vi 0,vi 0,vi 0]) X1p rfl) ?_;rintro _ w8 ⟨b26,rfl,hl26,hE,hB26⟩;have hlo26:=Nat.le_trans hW.size hl26;have haw1_26:=hr_p.away hl26;have haw2_26:=hr_q.away hl26;have haw20_26:=ho20.away hl26;replace hBV:=hBV.below hE;replace hB4:=hB4.below hE;replace hB5:=hB5.below hE;replace hB7:=hB7.below hE;replace hB11:=hB11.below hE;replace hr_p:=hr_p.below hE;replace hr_q:=hr_q.below hE;replace ho20:=ho20.below hE;replace hW:=ktr hW hE;refine Zo (Vw [vi 0,vi 0,vi 0,vi 0,vi 0] Xw hB26) ?_;rintro _ w9 ⟨ho,hb⟩;have hold:=hB26;replace hBV:=hBV.only ho (Blk.ne hBV hold rfl);replace hB4:=hB4.only ho (Blk.ne hB4 hold rfl);replace hB5:=hB5.only ho (Blk.ne hB5 hold rfl);replace hB7:=hB7.only ho (Blk.ne hB7 hold rfl);replace hB11:=hB11.only ho (Blk.ne hB11 hold rfl);replace hr_p:=hr_p.only ho hlo26;replace hr_q:=hr_q.only ho hlo26;replace ho20:=ho20.onlyA ho haw20_26;replace hW:=Kept.only hW ho hlo26;clear hold;have hB26:=hb;clear hb ho;refine Zt hK25 fun a hf=>?_;refine wp_seq_k fun _ hK27=>?_;refine Zs hf fun _ hK28=>?_;refine Za rfl ?_;refine Zt hK28 fun a hf=>?_;refine wp_block ?_;refine Xx (σ:=Nat×Dy×Bool) (fun (s:Nat×Dy×Bool) (a:Act) (w:World)=>match s with|(k,sum,f3)=>Fr a 75 [(0,.pointer (some ⟨bV,0,none⟩)),(4,.pointer (some ⟨b4,0,none⟩)),(5,.pointer (some ⟨b5,0,none⟩)),(6,.pointer (some ⟨b7,0,none⟩)),(7,.pointer (some ⟨b11,0,none⟩)),(8,vi (i:Int)),(9,vi (j:Int)),(10,.pointer (some ⟨b26,0,none⟩)),(11,vi (k:Int))]∧(k≤p.cols.toNat)∧(dotS f2 p q i j k=(f3,sum))∧Blk w bV 142 [.bool f3]∧Blk w b4 38 [vi p.rows,vi (p.cols.toNat:Int),.slice Ap p.cells.length cp]∧Blk w b5 38 [vi q.rows,vi (q.cols.toNat:Int),.slice Aq q.cells.length cq]∧Blk w b7 38 [vi 0,vi 0,.slice none 0 0]∧Blk w b11 38 [vi p.rows,vi (q.cols.toNat:Int),.slice A20 l2.length c20]∧Blk w b26 98 [vi sum.num.a,vi sum.num.b,vi sum.num.c,vi sum.num.d,vi sum.exp]∧Rd w w0.heap.size 98 encD Ap p.cells∧Rd w w0.heap.size 98 encD Aq q.cells∧Own w w0.heap.size 98 5 encD A20 c20 l2∧Kept bV w0.heap.size w0 w) (fun (s:Nat×Dy×Bool)=>match s with|(k,sum,f3)=>p.cols.toNat-k) (0,dZ,f2) ?_ ?_
   ·exact ⟨hf.sub ⟨rfl,rfl,rfl,rfl,rfl,rfl,rfl,rfl,rfl,trivial⟩,(Nat.zero_le _),rfl,hBV,hB4,hB5,hB7,hB11,hB26,hr_p,hr_q,ho20,hW⟩
   rintro ⟨k,sum,f3⟩ a w10 ⟨hf,hk,hs,hBV,hB4,hB5,hB7,hB11,hB26,hr_p,hr_q,ho20,hW⟩
   have hse:0≤sum.exp∧sum.exp≤60:=by have:=X9d hpa hqa f2 i j k;rw [hs] at this;exact this
   refine wp_seq_k fun _ hK29=>?_;refine wp_seq_k fun _ hK30=>?_;refine X08 (fun a w=>Fr a 75 [(0,.pointer (some ⟨bV,0,none⟩)),(4,.pointer (some ⟨b4,0,none⟩)),(5,.pointer (some ⟨b5,0,none⟩)),(6,.pointer (some ⟨b7,0,none⟩)),(7,.pointer (some ⟨b11,0,none⟩)),(8,vi (i:Int)),(9,vi (j:Int)),(10,.pointer (some ⟨b26,0,none⟩)),(11,vi (k:Int)),(40,.bool ((decide ((k:Int)<(p.cols.toNat:Int)))&&(!f3)))]∧w10=w) ?_ ?_
   ·refine Zr hf ?_;refine Zm rfl<|Ze (Vd rfl X1q 1)<|Ze (X0 rfl X4 (hB4.at 1))<|Ze (X0l rfl rfl)<|Zm rfl ?_
    refine Zg 34 rfl (fun hg31=>?_) (fun hg31=>?_)
    ·refine Zv ⟨_,_,rfl,rfl,hg31⟩ (X2 rfl) ?_;refine Zv ⟨_,_,rfl,rfl,hg31⟩ (X43 rfl) ?_;refine Zv ⟨_,_,rfl,rfl,hg31⟩ (Vd rfl X9h 0) ?_;refine Zv ⟨_,_,rfl,rfl,hg31⟩ (X0 rfl Xws (hBV.at 0)) ?_;refine Zv ⟨_,_,rfl,rfl,hg31⟩ (X16 rfl) ?_;refine Ze (Xb rfl hg31 rfl) ?_;refine Zn fun a hf=>?_;exact ⟨hf.sub ⟨rfl,rfl,rfl,rfl,rfl,rfl,rfl,rfl,rfl,X1 rfl (by first|rfl|(simp only [hc17b,hc23b,hg31,bs];done)|simp [hc17b,hc23b,hg31]),trivial⟩,rfl⟩
    refine Zp ⟨_,_,rfl,rfl,hg31⟩ ?_;refine Zp ⟨_,_,rfl,rfl,hg31⟩ ?_;refine Zp ⟨_,_,rfl,rfl,hg31⟩ ?_;refine Zp ⟨_,_,rfl,rfl,hg31⟩ ?_;refine Zp ⟨_,_,rfl,rfl,hg31⟩ ?_;refine Ze (X9 rfl hg31 rfl) ?_;refine Zn fun a hf=>?_;exact ⟨hf.sub ⟨rfl,rfl,rfl,rfl,rfl,rfl,rfl,rfl,rfl,X1 rfl (by first|rfl|(simp only [hc17b,hc23b,hg31,bs];done)|simp [hc17b,hc23b,hg31]),trivial⟩,rfl⟩
   rintro a _ ⟨hf,rfl⟩;refine hK30 _ _ ?_
   refine Xe hf rfl (fun hc32=>?_) (fun hc32=>?_)
   ·have hc32b:=hc32
    have hlt:(k:Int)<(p.cols.toNat:Int)∧f3=false:=by simpa using hc32
    have hk1:k<p.cols.toNat:=by omega
    have hg1:=X3z (show i≤32 by omega) (show p.cols.toNat≤32 by omega)
    have hg2:=X3z (show k≤32 by omega) (show q.cols.toNat≤32 by omega)
    have hnx:=Xm4 hs hlt.2;refine wp_skip ?_;refine hK29 _ _ ?_;refine wp_seq_k fun _ hK33=>?_;refine wp_block ?_;refine X05 (some bV) (fun j=>[25].contains j) mixed ?_;intro w11 hE;replace hBV:=hBV.below hE;replace hB4:=hB4.below hE;replace hB5:=hB5.below hE;replace hB7:=hB7.below hE;replace hB11:=hB11.below hE;replace hB26:=hB26.below hE;replace hr_p:=hr_p.below hE;replace hr_q:=hr_q.below hE;replace ho20:=ho20.below hE;replace hW:=ktr hW hE;refine Yb hf ?_;refine Yo 0 rfl (fun _=>X2 rfl) ?_;refine Yw 1 rfl trivial (fun w1 h1=>X09 (l:=[vi sum.num.a,vi sum.num.b,vi sum.num.c,vi sum.num.d,vi sum.exp]) rfl Xk ((hB26.only h1 (Blk.ne hB26 hBV rfl)).at 0) rfl) ?_;refine Yo 2 rfl (fun _=>X2 rfl)<|Yo 3 rfl (fun _=>Vd rfl X1e 2) ?_;refine Yw 4 rfl trivial (fun w1 h1=>X0 rfl X2s ((hB4.only h1 (Blk.ne hB4 hBV rfl)).at 2)) ?_;refine Yo 5 rfl (fun _=>X2 rfl)<|Yo 6 rfl (fun _=>Vd rfl X1q 1) ?_;refine Yw 7 rfl trivial (fun w1 h1=>X0 rfl X4 ((hB4.only h1 (Blk.ne hB4 hBV rfl)).at 1)) ?_;refine Yo 8 rfl (fun _=>X9c (m:=i) (k:=p.cols.toNat) rfl rfl (by have:=X3z (show i≤32 by omega) (show p.cols.toNat≤32 by omega);omega))<|Yo 9 rfl (fun _=>X2 rfl)<|Yo 10 rfl (fun _=>Xp rfl rfl (by omega) (by omega)) ?_;refine Ya (k:=(i*p.cols.toNat+k)) (u:=(p.at i k)) (enc:=encD) (l:=p.cells) 11 rfl trivial hBV rfl rfl rfl X1f Xw X1k hr_p (Mx.at_get (by rw [hpl.2.2];exact X4q (by omega) (by omega))) (by omega) ?_;intro p35 hat34 hat34n;refine Yw 12 rfl trivial (fun w1 h1=>X09 (l:=[vi ((p.at i k).num.a),vi ((p.at i k).num.b),vi ((p.at i k).num.c),vi ((p.at i k).num.d),vi ((p.at i k).exp)]) rfl Xk (hat34.only h1 hat34n) rfl) ?_;refine Yo 13 rfl (fun _=>Vd rfl X1e 2) ?_;refine Yw 14 rfl trivial (fun w1 h1=>X0 rfl X2s ((hB5.only h1 (Blk.ne hB5 hBV rfl)).at 2)) ?_;refine Yo 15 rfl (fun _=>X2 rfl)<|Yo 16 rfl (fun _=>Vd rfl X1q 1) ?_
    refine Yw 17 rfl trivial (fun w1 h1=>X0 rfl X4 ((hB5.only h1 (Blk.ne hB5 hBV rfl)).at 1)) ?_;refine Yo 18 rfl (fun _=>X9c (m:=k) (k:=q.cols.toNat) rfl rfl (by have:=X3z (show k≤32 by omega) (show q.cols.toNat≤32 by omega);omega))<|Yo 19 rfl (fun _=>X2 rfl)<|Yo 20 rfl (fun _=>Xp rfl rfl (by omega) (by omega)) ?_;refine Ya (k:=(k*q.cols.toNat+j)) (u:=(q.at k j)) (enc:=encD) (l:=q.cells) 21 rfl trivial hBV rfl rfl rfl X1f Xw X1k hr_q (Mx.at_get (by rw [hql.2.2];exact X4q (by omega) (by omega))) (by omega) ?_;intro p37 hat36 hat36n;refine Yw 22 rfl trivial (fun w1 h1=>X09 (l:=[vi ((q.at k j).num.a),vi ((q.at k j).num.b),vi ((q.at k j).num.c),vi ((q.at k j).num.d),vi ((q.at k j).exp)]) rfl Xk (hat36.only h1 hat36n) rfl) ?_;refine Y1 23 ?_;refine Yf rfl trivial (EfW.mono (Vc (Xwm _ bV f3 hBV (p.at i k) (q.at k j) (X27 (Mx.at_ok hpa i k)) (X27 (Mx.at_ok hqa k j))) Xqj) (fun _ _ h=>⟨fun _=>by obtain ⟨rfl,hK,hbn⟩:=h;exact hK.keep,h⟩)) ?_;rintro _ w12 ⟨rfl,hK,hbn⟩;obtain ⟨wm,hO,hm,hE⟩:=hK.mid;clear hm;have hold:=hBV;replace hB4:=hB4.only hO (Blk.ne hB4 hold rfl);replace hB5:=hB5.only hO (Blk.ne hB5 hold rfl);replace hB7:=hB7.only hO (Blk.ne hB7 hold rfl);replace hB11:=hB11.only hO (Blk.ne hB11 hold rfl);replace hB26:=hB26.only hO (Blk.ne hB26 hold rfl);replace hr_p:=hr_p.onlyT hO hold rfl;replace hr_q:=hr_q.onlyT hO hold rfl;replace ho20:=ho20.onlyT hO hold rfl;replace hW:=hW.self hO;replace hB4:=hB4.below hE;replace hB5:=hB5.below hE;replace hB7:=hB7.below hE;replace hB11:=hB11.below hE;replace hB26:=hB26.below hE;replace hr_p:=hr_p.below hE;replace hr_q:=hr_q.below hE;replace ho20:=ho20.below hE;replace hW:=ktr hW hE
    clear hold hE hO hK;replace hBV:=hbn;clear hbn;refine Y1 24 ?_;refine Yf rfl trivial (EfW.mono (Vc (Xw8 _ bV ((sMul f3 (p.at i k) (q.at k j)).1) hBV sum ((sMul f3 (p.at i k) (q.at k j)).2) hse (Xcv (X27 (Mx.at_ok hpa i k)) (X27 (Mx.at_ok hqa k j)))) Xpt) (fun _ _ h=>⟨fun _=>by obtain ⟨rfl,hK,hbn⟩:=h;exact hK.keep,h⟩)) ?_;rintro _ w13 ⟨rfl,hK,hbn⟩;obtain ⟨wm,hO,hm,hE⟩:=hK.mid;clear hm;have hold:=hBV;replace hB4:=hB4.only hO (Blk.ne hB4 hold rfl);replace hB5:=hB5.only hO (Blk.ne hB5 hold rfl);replace hB7:=hB7.only hO (Blk.ne hB7 hold rfl);replace hB11:=hB11.only hO (Blk.ne hB11 hold rfl);replace hB26:=hB26.only hO (Blk.ne hB26 hold rfl);replace hr_p:=hr_p.onlyT hO hold rfl;replace hr_q:=hr_q.onlyT hO hold rfl;replace ho20:=ho20.onlyT hO hold rfl;replace hW:=hW.self hO;replace hB4:=hB4.below hE;replace hB5:=hB5.below hE;replace hB7:=hB7.below hE;replace hB11:=hB11.below hE;replace hB26:=hB26.below hE;replace hr_p:=hr_p.below hE;replace hr_q:=hr_q.below hE;replace ho20:=ho20.below hE;replace hW:=ktr hW hE
    clear hold hE hO hK;replace hBV:=hbn;clear hbn;refine Y1 25 ?_;refine Yh rfl trivial rfl (Vw [vi (((sAdd ((sMul f3 (p.at i k) (q.at k j)).1) sum ((sMul f3 (p.at i k) (q.at k j)).2)).2).num.a),vi (((sAdd ((sMul f3 (p.at i k) (q.at k j)).1) sum ((sMul f3 (p.at i k) (q.at k j)).2)).2).num.b),vi (((sAdd ((sMul f3 (p.at i k) (q.at k j)).1) sum ((sMul f3 (p.at i k) (q.at k j)).2)).2).num.c),vi (((sAdd ((sMul f3 (p.at i k) (q.at k j)).1) sum ((sMul f3 (p.at i k) (q.at k j)).2)).2).num.d),vi (((sAdd ((sMul f3 (p.at i k) (q.at k j)).1) sum ((sMul f3 (p.at i k) (q.at k j)).2)).2).exp)] Xw hB26) ?_;rintro _ w14 ⟨ho,hb⟩;have hold:=hB26;replace hBV:=hBV.only ho (Blk.ne hBV hold rfl);replace hB4:=hB4.only ho (Blk.ne hB4 hold rfl);replace hB5:=hB5.only ho (Blk.ne hB5 hold rfl);replace hB7:=hB7.only ho (Blk.ne hB7 hold rfl);replace hB11:=hB11.only ho (Blk.ne hB11 hold rfl);replace hr_p:=hr_p.only ho hlo26;replace hr_q:=hr_q.only ho hlo26;replace ho20:=ho20.onlyA ho haw20_26;replace hW:=Kept.only hW ho hlo26;clear hold;have hB26:=hb;clear hb ho;refine Yd fun a hf=>?_;refine Xd ?_;refine hK33 _ _ ?_;refine Zr hf ?_;refine Zm rfl<|Ze (Xp rfl rfl (by omega) (by omega))<|Za rfl ?_;refine Zn fun a hf=>?_;refine Xc ?_;exact ⟨(k+1,(sAdd (sMul f3 (p.at i k) (q.at k j)).1 sum (sMul f3 (p.at i k) (q.at k j)).2).2,(sAdd (sMul f3 (p.at i k) (q.at k j)).1 sum (sMul f3 (p.at i k) (q.at k j)).2).1),⟨hf.sub ⟨rfl,rfl,rfl,rfl,rfl,rfl,rfl,rfl,rfl,trivial⟩,(by omega),hnx,hBV,hB4,hB5,hB7,hB11,hB26,hr_p,hr_q,ho20,hW⟩,(by first|omega|(dsimp only;omega))⟩
   have hc32b:=hc32
   have hend:f3=true∨k=p.cols.toNat:=by (cases f3 with|true=>exact .inl rfl|false=>exact .inr (by have h9:¬ (k:Int)<(p.cols.toNat:Int):=(by simpa using hc32);omega))
   have hde:=Xmu hs hk hend
   rw [hde] at hts
   refine wp_exit ?_;refine Xf ?_;refine Xf ?_;refine Xy ?_;refine hK27 _ _ ?_;refine Zr hf ?_;refine Ze (Vd rfl X1e 2)<|Ze (X0 rfl X2s (hB11.at 2))<|Ze (Vn Xk hB26) ?_;refine Zf (Xm (k:=1) (vs:=[.agg #[vi sum.num.a,vi sum.num.b,vi sum.num.c,vi sum.num.d,vi sum.exp]]) (zs:=[vi sum.num.a,vi sum.num.b,vi sum.num.c,vi sum.num.d,vi sum.exp]) rfl X1f X3b rfl rfl) ?_;rintro _ w15 ⟨b38,rfl,hl38,hE,hB38⟩
   have hne26_38:b26≠b38:=by have:=hB26.lt;omega
   have hlo38:=Nat.le_trans hW.size hl38;have haw1_38:=hr_p.away hl38;have haw2_38:=hr_q.away hl38;have haw20_38:=ho20.away hl38;replace hBV:=hBV.below hE;replace hB4:=hB4.below hE;replace hB5:=hB5.below hE;replace hB7:=hB7.below hE;replace hB11:=hB11.below hE;replace hB26:=hB26.below hE;replace hr_p:=hr_p.below hE;replace hr_q:=hr_q.below hE;replace ho20:=ho20.below hE;replace hW:=ktr hW hE;refine Zf (X1h (enc:=encD) (l:=(l2)) (l2:=([sum])) (B0:=w0.heap.size) rfl rfl X1f X3b X1k X9p ho20 (Rd.of_blk hB38 rfl _ hB38.lt) (by simp only [maxLen];simp;omega) (by simp;omega) hW.size) ?_;rintro _ w16 ⟨A40,c40,rfl,ho40,hg,hat⟩
   have hown:Own _ w0.heap.size 98 5 encD _ _ (l2):=ho20
   have haw40_26:=hat _ hB26.lt haw20_26;have haw40_38:=hat _ hB38.lt haw20_38;clear hat;replace hBV:=hBV.appT hown hg rfl;replace hB4:=hB4.appT hown hg rfl;replace hB5:=hB5.appT hown hg rfl;replace hB7:=hB7.appT hown hg rfl;replace hB11:=hB11.appT hown hg rfl;replace hB26:=hB26.appA hg haw20_26;replace hr_p:=hr_p.appB hown hg (Nat.le_refl _);replace hr_q:=hr_q.appB hown hg (Nat.le_refl _);replace hW:=Kept.app hW hown hg (Nat.le_refl _) hW.size;clear hown hg;refine Ze (Vd rfl X1e 2) ?_;refine Zo (Vu (vs:=[.slice A40 (l2++([sum])).length c40]) (l':=[vi p.rows,vi (q.cols.toNat:Int),.slice A40 (l2++([sum])).length c40]) rfl rfl Xff hB11) ?_;rintro _ w17 ⟨ho,hb⟩;have hold:=hB11;replace hBV:=hBV.only ho (Blk.ne hBV hold rfl);replace hB4:=hB4.only ho (by omega);replace hB5:=hB5.only ho (by omega);replace hB7:=hB7.only ho (by omega);replace hB26:=hB26.only ho (Blk.ne hB26 hold rfl);replace hr_p:=hr_p.onlyT ho hold rfl;replace hr_q:=hr_q.onlyT ho hold rfl;replace ho40:=ho40.onlyT ho hold rfl;replace hW:=Kept.only hW ho hlo11;clear hold;have hB11:=hb;clear hb ho;refine Zn fun a hf=>?_;refine Xd ?_;refine hK24 _ _ ?_;refine Zr hf ?_;refine Zm rfl<|Ze (Xp rfl rfl (by omega) (by omega))<|Za rfl ?_;refine Zn fun a hf=>?_;refine Xc ?_;exact ⟨(j+1,l2++[sum],f3),⟨A40,c40,hf.sub ⟨rfl,rfl,rfl,rfl,rfl,rfl,rfl,trivial⟩,(by omega),hts,hBV,hB4,hB5,hB7,hB11,hr_p,hr_q,ho40,hW⟩,(by first|omega|(dsimp only;omega))⟩
  have hc23b:=hc23;have hc23:=of_decide_eq_false hc23
  have hj1:j=q.cols.toNat:=by have:=hc23;omega
  refine wp_exit ?_;refine Xf ?_;refine Xf ?_;refine Xy ?_;refine Xd ?_;refine hK18 _ _ ?_;refine Zr hf ?_;refine Zm rfl<|Ze (Xp rfl rfl (by omega) (by omega))<|Za rfl ?_;refine Zn fun a hf=>?_;refine Xc ?_;exact ⟨(i+1,l2,f2),⟨A20,c20,hf.sub ⟨rfl,rfl,rfl,rfl,rfl,rfl,trivial⟩,(by omega),(by rw [Nat.add_mul,Nat.one_mul,← hj1];rw [← hj1] at hl2;exact hl2),hBV,hB4,hB5,hB7,hB11,hr_p,hr_q,ho20,hW⟩,(by first|omega|(dsimp only;omega))⟩
 have hc17b:=hc17;have hc17:=of_decide_eq_false hc17
 have hi1:i=p.rows.toNat:=by have:=hc17;omega
 refine wp_exit ?_;refine Xf ?_;refine Xf ?_;refine Xy ?_;refine hK12 _ _ ?_;refine Zs hf fun _ hK41=>?_;refine Ze (Vn X13 hB11) ?_;refine Zo (Vw [vi p.rows,vi (q.cols.toNat:Int),.slice A14 l.length c14] X1j hB7) ?_;rintro _ w18 ⟨ho,hb⟩;have hold:=hB7;replace hBV:=hBV.only ho (Blk.ne hBV hold rfl);replace hB4:=hB4.only ho (by omega);replace hB5:=hB5.only ho (by omega);replace hB11:=hB11.only ho (by omega);replace hr_p:=hr_p.onlyT ho hold rfl;replace hr_q:=hr_q.onlyT ho hold rfl;replace ho14:=ho14.onlyT ho hold rfl;replace hW:=Kept.only hW ho hlo7;clear hold;have hB7:=hb;clear hb ho;refine Zt hK41 fun a hf=>?_
 refine wp_ret (X3 hf (Xq hf rfl (ResV.cellN (l:=[vi p.rows,vi (q.cols.toNat:Int),.slice A14 l.length c14]) rfl X13 (hB7.at 0) rfl)) ?_)
 have hfin:timesS f p q=(f1,⟨p.rows,q.cols,l⟩):=by rw [timesS,← hi1,hl]
 rw [hfin]
 exact ⟨A14,c14,rfl,ho14,hW,hBV⟩
theorem Xv6(w0:World)(Al:Option Addr)(cl:Nat)(l:List Int)(hr_l:Rd w0 w0.heap.size 3 encI Al l)(n:Int)(B0:Nat)(ho:Own w0 B0 3 1 encI Al cl l)(hB0:B0≤w0.heap.size)(hln:l.length≤1000000000) : Ret Tryz.prog 124 [.slice Al l.length cl,vi n] w0 (fun v w=>∃ A c,v=.slice A (putI l n).length c∧Own w B0 3 1 encI A c (putI l n)∧Below w0.heap.size w0 w):=by
 refine enter Tryz.func124 rfl 48 rfl rfl ?_;intro a hf
 have hW:Below w0.heap.size w0 w0:=Below.refl _ _
 refine Zs hf fun _ hK2=>?_;refine Za rfl ?_;refine Zt hK2 fun a hf=>?_;refine Zs hf fun _ hK4=>?_;refine Za rfl ?_;refine Zt hK4 fun a hf=>?_;refine wp_seq_k fun _ hK5=>?_;refine wp_block ?_;refine Xx (σ:=Nat) (fun (k:Nat) (a:Act) (w:World)=>Fr a 48 [(0,.slice Al l.length cl),(1,vi n),(5,vi (k:Int))]∧(k≤l.length)∧((l.take k).all (fun x=>decide (x<n))=true)∧Below w0.heap.size w0 w) (fun (k:Nat)=>l.length-k) 0 ?_ ?_
 ·exact ⟨hf.sub ⟨rfl,rfl,rfl,trivial⟩,(Nat.zero_le _),rfl,hW⟩
 rintro k a w1 ⟨hf,hk,hpre,hW⟩;refine wp_seq_k fun _ hK6=>?_;refine wp_seq_k fun _ hK7=>?_;refine X08 (fun a w=>Fr a 48 [(0,.slice Al l.length cl),(1,vi n),(5,vi (k:Int)),(18,.bool (decide ((k:Int)<(l.length:Int))&&decide ((l.getD k 0)<n)))]∧w1=w) ?_ ?_
 ·refine Zr hf ?_;refine Zm rfl<|Zm rfl<|Ze (X0y rfl Xg)<|Ze (X0l rfl rfl)<|Zm rfl ?_
  refine Zg 11 rfl (fun hg8=>?_) (fun hg8=>?_)
  ·refine Zv ⟨_,_,rfl,rfl,hg8⟩ (X2 rfl) ?_;refine Zv ⟨_,_,rfl,rfl,hg8⟩ (X2 rfl) ?_;refine Zi (k:=k) (u:=(l.getD k 0)) (enc:=encI) (l:=l) ⟨_,_,rfl,rfl,hg8⟩ rfl rfl Xg X0h X6 (hr_l.below' hW) (Xa7 (by assumption)) rfl ?_;intro p10 hat9;refine Zv ⟨_,_,rfl,rfl,hg8⟩ (X0 rfl X4 hat9) ?_;refine Zv ⟨_,_,rfl,rfl,hg8⟩ (X2 rfl) ?_;refine Zv ⟨_,_,rfl,rfl,hg8⟩ (X0l rfl rfl) ?_;refine Ze (Xb rfl hg8 rfl) ?_;refine Zn fun a hf=>?_;exact ⟨hf.sub ⟨rfl,rfl,rfl,X1 rfl (by first|rfl|(simp only [hg8,bs];done)|simp [hg8]),trivial⟩,rfl⟩
  refine Zp ⟨_,_,rfl,rfl,hg8⟩ ?_;refine Zp ⟨_,_,rfl,rfl,hg8⟩ ?_;refine Zp ⟨_,_,rfl,rfl,hg8⟩ ?_;refine Zp ⟨_,_,rfl,rfl,hg8⟩ ?_;refine Zp ⟨_,_,rfl,rfl,hg8⟩ ?_;refine Zp ⟨_,_,rfl,rfl,hg8⟩ ?_;refine Ze (X9 rfl hg8 rfl) ?_;refine Zn fun a hf=>?_;exact ⟨hf.sub ⟨rfl,rfl,rfl,X1 rfl (by first|rfl|(simp only [hg8,bs];done)|simp [hg8]),trivial⟩,rfl⟩
 rintro a _ ⟨hf,rfl⟩;refine hK7 _ _ ?_
 refine Xe hf rfl (fun hc11=>?_) (fun hc11=>?_)
 ·have hc11b:=hc11
  have hlt:(k:Int)<l.length∧l.getD k 0<n:=by simpa using hc11
  have hk1:k<l.length:=by omega
  refine wp_skip ?_;refine hK6 _ _ ?_;refine wp_block ?_;refine Zr hf ?_;refine Zm rfl<|Ze (Xp rfl rfl (by omega) (by omega))<|Za rfl ?_;refine Zn fun a hf=>?_;refine Xd ?_;refine Xc ?_;exact ⟨k+1,⟨hf.sub ⟨rfl,rfl,rfl,trivial⟩,(by omega),(X2a hpre (X1g hk1) (by simpa using hlt.2)),hW⟩,(by omega)⟩
 have hc11b:=hc11
 have hst:k<l.length→¬ l.getD k 0<n:=by intro h0 h1;revert hc11;simp only [h1,decide_true,Bool.and_true,decide_eq_false_iff_not];omega
 have hpa:=Xkd l n k hpre hk hst;refine wp_exit ?_;refine Xf ?_;refine Xf ?_;refine Xy ?_;refine hK5 _ _ ?_;refine wp_seq_k fun _ hK12=>?_;refine wp_seq_k fun _ hK13=>?_;refine X08 (fun a w=>Fr a 48 [(0,.slice Al l.length cl),(1,vi n),(5,vi (k:Int)),(32,.bool (decide ((k:Int)<(l.length:Int))&&(l.getD k 0)==n))]∧w1=w) ?_ ?_
 ·refine Zr hf ?_;refine Zm rfl<|Zm rfl<|Ze (X0y rfl Xg)<|Ze (X0l rfl rfl)<|Zm rfl ?_
  refine Zg 25 rfl (fun hg14=>?_) (fun hg14=>?_)
  ·refine Zv ⟨_,_,rfl,rfl,hg14⟩ (X2 rfl) ?_;refine Zv ⟨_,_,rfl,rfl,hg14⟩ (X2 rfl) ?_;refine Zi (k:=k) (u:=(l.getD k 0)) (enc:=encI) (l:=l) ⟨_,_,rfl,rfl,hg14⟩ rfl rfl Xg X0h X6 (hr_l.below' hW) (Xa7 (by assumption)) rfl ?_;intro p16 hat15;refine Zv ⟨_,_,rfl,rfl,hg14⟩ (X0 rfl X4 hat15) ?_;refine Zv ⟨_,_,rfl,rfl,hg14⟩ (X2 rfl) ?_;refine Zv ⟨_,_,rfl,rfl,hg14⟩ (X0u rfl rfl) ?_;refine Ze (Xb rfl hg14 rfl) ?_;refine Zn fun a hf=>?_;exact ⟨hf.sub ⟨rfl,rfl,rfl,X1 rfl (by first|rfl|(simp only [hc11b,hg14,bs];done)|simp [hc11b,hg14]),trivial⟩,rfl⟩
  refine Zp ⟨_,_,rfl,rfl,hg14⟩ ?_;refine Zp ⟨_,_,rfl,rfl,hg14⟩ ?_;refine Zp ⟨_,_,rfl,rfl,hg14⟩ ?_;refine Zp ⟨_,_,rfl,rfl,hg14⟩ ?_;refine Zp ⟨_,_,rfl,rfl,hg14⟩ ?_;refine Zp ⟨_,_,rfl,rfl,hg14⟩ ?_;refine Ze (X9 rfl hg14 rfl) ?_;refine Zn fun a hf=>?_;exact ⟨hf.sub ⟨rfl,rfl,rfl,X1 rfl (by first|rfl|(simp only [hc11b,hg14,bs];done)|simp [hc11b,hg14]),trivial⟩,rfl⟩
 rintro a _ ⟨hf,rfl⟩;refine hK13 _ _ ?_
 refine Xe hf rfl (fun hc17=>?_) (fun hc17=>?_)
 ·have hc17b:=hc17
  have hyy:k<l.length∧l.getD k 0=n:=by have h9:(k:Int)<l.length∧l.getD k 0=n:=(by simpa using hc17);omega
  have hfin:=hpa.1 hyy;refine Zs hf fun _ hK18=>?_;refine Zm rfl<|Za rfl ?_;refine Zt hK18 fun a hf=>?_;refine wp_ret ?_;refine X5 ?_;refine X3 hf (Xq hf rfl rfl) ?_
  rw [hfin]
  exact ⟨_,_,rfl,ho.below hW,hW⟩
 have hc17b:=hc17
 have hfin:=hpa.2 (fun h0=>by revert hc17;rw [h0.2];simp;omega)
 refine wp_skip ?_;refine hK12 _ _ ?_;refine Zs hf fun _ hK19=>?_;refine Zf (Xm (k:=0) (vs:=[]) (zs:=[]) rfl Xg X19 rfl rfl) ?_;rintro _ w2 ⟨b20,rfl,hl20,hE,hB20⟩;have hlo20:=Nat.le_trans hW.size hl20;have haw1_20:=(hr_l.below' hW).away hl20;replace hW:=btr hW hE;refine Zm rfl<|Zm rfl ?_;have hr22:=((hr_l.below' hW).top).takeK X6 k;refine Ze (X8z (l:=l) (k:=k) rfl rfl Xg X0h rfl hk ho.cap) ?_;refine Zf (X1h (enc:=encI) (l:=([] : List Int)) (l2:=((l.take k))) (B0:=w0.heap.size) rfl rfl Xg X19 X6 X1n (Own.empty hB20 hlo20) hr22 (by simp only [maxLen];simp;omega) (by simp;omega) hW.size) ?_;rintro _ w3 ⟨A23,c23,rfl,ho23,hg,hat⟩
 have hown:Own _ w0.heap.size 3 1 encI _ _ ([] : List Int):=(Own.empty hB20 hlo20)
 clear hat;replace hW:=Below.app hW hown hg (Nat.le_refl _) hW.size;clear hown hg
 simp only [List.nil_append] at ho23
 refine Za rfl ?_;refine Zt hK19 fun a hf=>?_;refine Zs hf fun _ hK24=>?_;refine Zm rfl<|Zm rfl ?_;refine Zf (Xm (k:=1) (vs:=[vi n]) (zs:=[vi n]) rfl Xg X19 rfl rfl) ?_;rintro _ w4 ⟨b25,rfl,hl25,hE,hB25⟩;have hlo25:=Nat.le_trans hW.size hl25;have haw1_25:=(hr_l.below' hW).away hl25;have haw23_25:=ho23.away hl25;replace ho23:=ho23.below hE;replace hW:=btr hW hE;refine Zf (X1h (enc:=encI) (l:=((l.take k))) (l2:=([n])) (B0:=w0.heap.size) rfl rfl Xg X19 X6 X1n ho23 (Rd.of_blk hB25 rfl _ hB25.lt) (by simp only [maxLen];simp;omega) (by simp;omega) hW.size) ?_;rintro _ w5 ⟨A27,c27,rfl,ho27,hg,hat⟩
 have hown:Own _ w0.heap.size 3 1 encI _ _ ((l.take k)):=ho23
 have haw27_25:=hat _ hB25.lt haw23_25;clear hat;replace hW:=Below.app hW hown hg (Nat.le_refl _) hW.size;clear hown hg;refine Za rfl ?_;refine Zt hK24 fun a hf=>?_;refine Zs hf fun _ hK28=>?_;refine Zm rfl<|Zm rfl<|Zm rfl ?_;have hr29:=((hr_l.below' hW).top).dropK X6 (c:=cl) ho.cap k;refine Ze (Xll (l:=l) (k:=k) rfl rfl Xg X0h rfl hk) ?_;refine Zf (X1h (enc:=encI) (l:=((l.take k)++([n]))) (l2:=((l.drop k))) (B0:=w0.heap.size) rfl rfl Xg X19 X6 X1n ho27 hr29 (by simp only [maxLen];simp;omega) (by simp;omega) hW.size) ?_;rintro _ w6 ⟨A30,c30,rfl,ho30,hg,hat⟩
 have hown:Own _ w0.heap.size 3 1 encI _ _ ((l.take k)++([n])):=ho27
 clear hat;replace hW:=Below.app hW hown hg (Nat.le_refl _) hW.size;clear hown hg;refine Za rfl ?_;refine Zt hK28 fun a hf=>?_
 refine wp_ret (X3 hf (Xq hf rfl rfl) ?_)
 rw [hfin]
 exact ⟨A30,c30,rfl,(ho30).lower hB0,hW⟩
def comS(g h:Gt) : Bool:=(qubI g).any fun x=>(qubI h).any fun y=>y==x
def comI(g h:Gt) : Bool:=(qubI g).any fun x=>(qubI h).any fun y=>x==y
theorem X4c{g h:Gt} : comI g h=true↔∃ x,x ∈ qubI g∧x ∈ qubI h:=by
 simp only [comI,List.any_eq_true,beq_iff_eq]
 exact ⟨fun ⟨x,h1,y,h2,e⟩=>⟨x,h1,e▸h2⟩,fun ⟨x,h1,h2⟩=>⟨x,h1,x,h2,rfl⟩⟩
theorem X2d{g h:Gt} : comS g h=true↔∃ x,x ∈ qubI g∧x ∈ qubI h:=by
 simp only [comS,List.any_eq_true,beq_iff_eq]
 exact ⟨fun ⟨x,h1,y,h2,e⟩=>⟨x,h1,e▸h2⟩,fun ⟨x,h1,h2⟩=>⟨x,h1,x,h2,rfl⟩⟩
theorem X4l(g h:Gt) : comS g h=comI h g:=by
 rw [Bool.eq_iff_iff,X2d,X4c]
 exact ⟨fun ⟨x,a,b⟩=>⟨x,b,a⟩,fun ⟨x,a,b⟩=>⟨x,b,a⟩⟩
theorem Xrt(k:Int) : (k==9||k==10||k==11)=inR k 9 11:=by
 rw [Bool.eq_iff_iff,Xo]
 simp only [Bool.or_eq_true,beq_iff_eq]
 omega
theorem X6j{α:Type}{l:List α}{k:Nat}{u x:α}(h:¬ x ∈ l.take k)(hu:l[k]? = some u)(hne:¬ u=x) : ¬ x ∈ l.take (k+1):=by
 rw [List.take_add_one,hu]
 simp only [Option.toList_some,List.mem_append,List.mem_singleton]
 rintro (h1|h1)
 ·exact h h1
 ·exact hne h1.symm
theorem Xnf{l:List Int}{k:Nat}{u q:Int}{b:Bool}(hu:l[k]? = some u)(h:b=true→¬ q ∈ l.take k)(hc:(b&&(u==q))=false) : b=true→¬ q ∈ l.take (k+1):=fun hb=>
 X6j (h hb) hu (by subst hb;simpa using hc)
theorem X7o{us:List Int}(hi:Inc us){q:Int}{k:Nat}(hu:us[k]? = some q) : lastN us q us.length=(k:Int):=by
 have hk:=(List.getElem?_eq_some_iff.1 hu).1;obtain ⟨j,hj,h1,h2⟩:=X3j (List.mem_of_getElem? hu)
 rw [h1]
 have hj2:us[j]? = some q:=by rw [List.getElem?_eq_getElem hj];rw [List.getD_eq_getElem?_getD,List.getElem?_eq_getElem hj] at h2;simpa using h2
 rcases Nat.lt_trichotomy j k with h|h|h
 ·have:=List.pairwise_iff_getElem.1 hi j k hj hk h
  rw [List.getElem?_eq_getElem hj] at hj2;rw [List.getElem?_eq_getElem hk] at hu
  injection hj2 with e1;injection hu with e2
  omega
 ·rw [h]
 ·have:=List.pairwise_iff_getElem.1 hi k j hk hj h
  rw [List.getElem?_eq_getElem hj] at hj2;rw [List.getElem?_eq_getElem hk] at hu
  injection hj2 with e1;injection hu with e2
  omega
section
variable {p q : Mx}
theorem Xr3(h:(p.rows != q.rows||p.cols != q.cols||(p.cells.length:Int) != (q.cells.length:Int))=true) : (decide (p.rows=q.rows)&&decide (p.cols=q.cols)&&decide (p.cells=q.cells))=false:=by
 rw [Bool.eq_false_iff]
 intro h2
 simp only [Bool.and_eq_true,decide_eq_true_eq] at h2
 obtain ⟨⟨h3,h4⟩,h5⟩:=h2
 rw [h3,h4,h5] at h
 simp at h
theorem Xm3(h:(p.rows != q.rows||p.cols != q.cols||(p.cells.length:Int) != (q.cells.length:Int))=false) : p.rows=q.rows∧p.cols=q.cols∧p.cells.length=q.cells.length:=by
 simp only [Bool.or_eq_false_iff,bne_eq_false_iff_eq] at h
 exact ⟨h.1.1,h.1.2,by omega⟩
theorem Xjj{k:Nat}{u v:Dy}(hu:p.cells[k]? = some u)(hv:q.cells[k]? = some v)(h:¬ u=v) : (decide (p.rows=q.rows)&&decide (p.cols=q.cols)&&decide (p.cells=q.cells))=false:=by
 rw [Bool.eq_false_iff]
 intro h2
 simp only [Bool.and_eq_true,decide_eq_true_eq] at h2
 rw [h2.2,hv] at hu
 injection hu with hu
 exact h hu.symm
end
def gZ:Gt:=⟨0,0,0⟩
def eqM(p q:Mx) : Bool:=decide (p.rows=q.rows)&&decide (p.cols=q.cols)&&decide (p.cells=q.cells)
def unionS(g h:Gt) : List Int:=(qubI g++qubI h).foldl putI []
theorem Xem:∀ (l m:List Int) (x:Int),x ∈ l.foldl putI m↔x ∈ m∨x ∈ l
 | [],m,x=>by simp
 | y::l,m,x=>by rw [List.foldl_cons,Xem l,Xbu];simp only [List.mem_cons];rw [or_assoc]
theorem Xdx:∀ (l m:List Int),Inc m→Inc (l.foldl putI m)
 | [],_,h=>h
 | y::l,m,h=>Xdx l _ (Xgp m y h)
theorem Xdf:∀ (l m:List Int),(l.foldl putI m).length≤m.length+l.length
 | [],m=>by simp
 | y::l,m=>by
  have h1:=Xdf l (putI m y);have h2:=Xha m y
  rw [List.foldl_cons,List.length_cons]
  omega
theorem X1u{g h:Gt}{x:Int} : x ∈ unionS g h↔x ∈ qubI g∨x ∈ qubI h:=by
 rw [unionS,Xem,List.mem_append];simp
theorem X36(g h:Gt) : Inc (unionS g h):=Xdx _ _ List.Pairwise.nil
structure PairOk (us:List Int) (g h:Gt) : Prop where
 inc:Inc us
 low:∀ x ∈ us,0≤x∧x≤4
 one:1≤us.length
 len:us.length≤5
 gk:¬ g.k=12
 hk:¬ h.k=12
 ga:g.a ∈ us
 ha:h.a ∈ us
 gb:inR g.k 9 11=true→g.b ∈ us
 hb:inR h.k 9 11=true→h.b ∈ us
 gs:gOk (us.length:Int) (smallG us g)=true
 hs:gOk (us.length:Int) (smallG us h)=true
theorem X4g{g:Gt}{x:Int}(h:x ∈ qubI g) : ¬ g.k=12:=fun e=>by
 rw [qubI,if_pos e] at h;cases h
theorem Xpd{g:Gt}(h:¬ g.k=12) : g.a ∈ qubI g:=by
 rw [qubI,if_neg h];split<;>simp
theorem Xp1{g:Gt}(h:¬ g.k=12)(h9:inR g.k 9 11=true) : g.b ∈ qubI g:=by
 rw [qubI,if_neg h,if_pos h9];simp
theorem X8n{us:List Int}{n:Int}{g h:Gt}(hg:gOk n g=true)(hh:gOk n h=true)(hc:∃ x,x ∈ qubI g∧x ∈ qubI h)(hi:Inc us)(hm:∀ x,x ∈ us↔x ∈ qubI g∨x ∈ qubI h) : PairOk us g h:=by
 obtain ⟨x,h1,h2⟩:=hc
 have hlow:∀ x ∈ us,0≤x∧x≤4:=fun y hy=>by
  rcases (hm y).1 hy with h|h
  ·exact X3k hg h
  ·exact X3k hh h
 have hone:1≤us.length:=List.length_pos_of_mem ((hm x).2 (.inl h1))
 have hmax:max 1 (us.length:Int)=us.length:=by omega
 have e1:=Xdi hi hlow ⟨hg,fun x hx=>(hm x).2 (.inl hx)⟩
 have e2:=Xdi hi hlow ⟨hh,fun x hx=>(hm x).2 (.inr hx)⟩
 rw [hmax] at e1 e2
 exact ⟨hi,hlow,hone,Xhd hi hlow,X4g h1,X4g h2,(hm _).2 (.inl (Xpd (X4g h1))),(hm _).2 (.inr (Xpd (X4g h2))),fun h9=>(hm _).2 (.inl (Xp1 (X4g h1) h9)),fun h9=>(hm _).2 (.inr (Xp1 (X4g h2) h9)),e1,e2⟩
theorem Xje{a b:Mx}(ha:mOk a=true)(hb:mOk b=true)(f:Bool) : (timesS f a b).2.cells.length≤2305843009213693951:=by
 have h1:=X3g ha;have h2:=X3g hb
 show (timesL f a b _).2.length≤_
 rw [X64]
 exact Nat.le_trans (X3z (by omega) (by omega)) (by decide)
def commS(g h:Gt) : Bool:=if comS g h=true then
  eqM (timesS false (gateS ((unionS g h).length:Int) (smallG (unionS g h) g)) (gateS ((unionS g h).length:Int) (smallG (unionS g h) h))).2
   (timesS (timesS false (gateS ((unionS g h).length:Int) (smallG (unionS g h) g)) (gateS ((unionS g h).length:Int) (smallG (unionS g h) h))).1 (gateS ((unionS g h).length:Int) (smallG (unionS g h) h)) (gateS ((unionS g h).length:Int) (smallG (unionS g h) g))).2
 else true
def commI(g h:Gt) : Bool:=if comI g h=true then
  eqM ((opI ⟨((unionI (qubI g) (qubI h)).length:Int),mapI [g,h] (numbI (unionI (qubI g) (qubI h)))⟩).getD mZ) ((opI ⟨((unionI (qubI g) (qubI h)).length:Int),[mapG (numbI (unionI (qubI g) (qubI h))) h,mapG (numbI (unionI (qubI g) (qubI h))) g]⟩).getD mZ)
 else true
section
variable (gs : List Gt) (s : List Int) (g : Gt) (x : Int)
def pA(j:Nat) : Bool:=decide (x≤s.getD j 0)&&!commS g (gs.getD j gZ)
def pB(j:Nat) : Bool:=s.getD j 0==x&&comS g (gs.getD j gZ)
def faultG(i:Nat) : Int:=if g.k=12 then (if x=0 then 0 else 1) else if inR x 1 400=true then (if (List.range i).any (pA gs s g x)=true then 2 else if (List.range i).any (pB gs s g x)=true then 3 else 0) else 1
def faultS(i:Nat) : Int:=faultG gs s (gs.getD i gZ) (s.getD i 0) i
def qA(j:Nat) : Bool:=!commI (gs.getD j gZ) g&&decide (x≤s.getD j 0)
def qB(j:Nat) : Bool:=s.getD j 0==x&&comI (gs.getD j gZ) g
def faultH(i:Nat) : Int:=if (g.k==12&&x != 0||g.k != 12&&!inR x 1 400)=true then 1 else if (List.range i).any (qA gs s g x)=true then 2 else if (List.range i).any (qB gs s g x)=true then 3 else 0
def faultI(i:Nat) : Int:=faultH gs s (gs.getD i gZ) (s.getD i 0) i
end
def firstF(f:Nat→Int) : Nat→Nat→Int×Int
 | 0,_=>(0,0)
 | n+1,i=>if f i=0 then firstF f n (i+1) else (f i,(i:Int))
def schedS(gs:List Gt)(s:List Int) : Int×Int:=if s.length=gs.length then firstF (faultS gs s) gs.length 0 else (1,0)
def schedI(gs:List Gt)(s:List Int) : Int×Int:=if s.length=gs.length then firstF (faultI gs s) gs.length 0 else (1,0)
def specC(c:Cx)(s:List Int) : Int×Int×Bool:=if cOk c=true then ((schedS c.gs s).1,(schedS c.gs s).2,true) else (0,0,false)
def implC(c:Cx)(s:List Int) : Int×Int×Bool:=if cOk c=true then ((schedI c.gs s).1,(schedI c.gs s).2,true) else (0,0,false)
section
variable {f : Nat → Int} {n i : Nat} {r : Int × Int} {x : Int}
theorem X46(h:firstF f (n-i) i=r)(hi:i<n)(hf:f i=x)(hx:¬ x=0) : r=(x,(i:Int)):=by
 obtain ⟨m,hm⟩ : ∃ m,n-i=m+1:=⟨n-i-1,by omega⟩
 rw [hm,firstF,if_neg (by rw [hf];exact hx),hf] at h
 exact h.symm
theorem X65(h:firstF f (n-i) i=r)(hi:i<n)(hf:f i=0) : firstF f (n-(i+1)) (i+1)=r:=by
 obtain ⟨m,hm⟩ : ∃ m,n-i=m+1:=⟨n-i-1,by omega⟩
 rw [hm,firstF,if_pos hf] at h
 rw [show n-(i+1)=m from by omega]
 exact h
theorem Xab(h:firstF f (n-i) i=r)(hi:n≤i) : r=(0,0):=by
 rw [show n-i=0 from by omega] at h
 exact h.symm
end
section
variable {p : Nat → Bool} {i j : Nat}
theorem X2h(hj:j<i)(h:p j=true) : (List.range i).any p=true:=List.any_eq_true.2 ⟨j,List.mem_range.2 hj,h⟩
theorem X2b(h:(List.range j).any p=false)(hp:p j=false) : (List.range (j+1)).any p=false:=by
 rw [List.range_succ,List.any_append,h];simp [hp]
end
theorem X3v{gs:List Gt}{i:Nat}{u:Gt}(h:gs[i]? = some u) : gs.getD i gZ=u:=by rw [List.getD_eq_getElem?_getD,h];rfl
theorem X7y{gs:List Gt}{i j:Nat}{u:Gt}(h:(gs.take i)[j]? = some u) : gs.getD j gZ=u∧u ∈ gs:=by
 have hj:j<i:=by
  have:=(List.getElem?_eq_some_iff.1 h).1
  rw [List.length_take] at this
  omega
 rw [List.getElem?_take_of_lt hj] at h
 exact ⟨X3v h,List.mem_of_getElem? h⟩
section
variable {gs : List Gt} {s : List Int} {i : Nat} {g : Gt}
theorem Xmx(hg:gs.getD i gZ=g)(h:(g.k==12)=true)(hx:(s.getD i 0 != 0)=true) : faultS gs s i=1:=by
 rw [faultS,hg,faultG,if_pos (eq_of_beq h),if_neg (by simpa using hx)]
theorem Xog(hg:gs.getD i gZ=g)(h:(g.k==12)=true)(hx:(s.getD i 0 != 0)=false) : faultS gs s i=0:=by
 rw [faultS,hg,faultG,if_pos (eq_of_beq h),if_pos (by simpa using hx)]
theorem Xrn(hg:gs.getD i gZ=g)(h:(g.k==12)=false)(hx:(!inR (s.getD i 0) 1 400)=true) : faultS gs s i=1:=by
 rw [faultS,hg,faultG,if_neg (by simpa using h),if_neg (by simpa using hx)]
theorem Xtc(hg:gs.getD i gZ=g)(h:(g.k==12)=false)(hx:(!inR (s.getD i 0) 1 400)=false)(ha:(List.range i).any (pA gs s g (s.getD i 0))=true) : faultS gs s i=2:=by
 rw [faultS,hg,faultG,if_neg (by simpa using h),if_pos (by simpa using hx),if_pos ha]
theorem Xug(hg:gs.getD i gZ=g)(h:(g.k==12)=false)(hx:(!inR (s.getD i 0) 1 400)=false)(ha:(List.range i).any (pA gs s g (s.getD i 0))=false)(hb:(List.range i).any (pB gs s g (s.getD i 0))=true) : faultS gs s i=3:=by
 rw [faultS,hg,faultG,if_neg (by simpa using h),if_pos (by simpa using hx),if_neg (by rw [ha];simp),if_pos hb]
theorem Xt2(hg:gs.getD i gZ=g)(h:(g.k==12)=false)(hx:(!inR (s.getD i 0) 1 400)=false)(ha:(List.range i).any (pA gs s g (s.getD i 0))=false)(hb:(List.range i).any (pB gs s g (s.getD i 0))=false) : faultS gs s i=0:=by
 rw [faultS,hg,faultG,if_neg (by simpa using h),if_pos (by simpa using hx),if_neg (by rw [ha];simp),if_neg (by rw [hb];simp)]
end
theorem Xvk(w0:World)(Al:Option Addr)(cl:Nat)(l:List Int)(hr_l:Rd w0 w0.heap.size 3 encI Al l)(x:Int)(hln:l.length≤2305843009213693951) : Ret Tryz.prog 131 [.slice Al l.length cl,vi x] w0 (fun v w=>v=.bool (l.any fun y=>y==x)∧Below w0.heap.size w0 w):=by
 refine enter Tryz.func131 rfl 17 rfl rfl ?_;intro a hf
 have hW:Below w0.heap.size w0 w0:=Below.refl _ _
 refine Zs hf fun _ hK2=>?_;refine Za rfl ?_;refine Zt hK2 fun a hf=>?_;refine wp_seq_k fun _ hK3=>?_;refine Zs hf fun _ hK4=>?_;refine Zm rfl<|Ze (X0y rfl Xg)<|Zm rfl ?_;refine Zt hK4 fun a hf=>?_;refine wp_block ?_;refine Xx (σ:=Nat) (fun (k:Nat) (a:Act) (w:World)=>Fr a 17 [(1,vi x),(7,.slice Al l.length cl),(8,vi (l.length:Int)),(9,vi (k:Int))]∧(k≤l.length)∧((l.take k).all (fun y=>!(y==x))=true)∧Below w0.heap.size w0 w) (fun (k:Nat)=>l.length+1-k) 0 ?_ ?_
 ·exact ⟨hf.sub ⟨rfl,rfl,rfl,rfl,trivial⟩,(Nat.zero_le _),(by simp),hW⟩
 rintro k a w1 ⟨hf,hk,hpre,hW⟩;refine Zs hf fun _ hK5=>?_;refine Ze (X0l rfl rfl) ?_;refine Zt hK5 fun a hf=>?_;refine wp_seq_k fun _ hK6=>?_
 refine Xe hf rfl (fun hc7=>?_) (fun hc7=>?_)
 ·have hc7b:=hc7;have hc7:=of_decide_eq_true hc7
  obtain ⟨u8,hu8⟩:=Xl (l:=l) (k:=k) (by omega)
  refine wp_skip ?_;refine hK6 _ _ ?_;refine wp_seq_k fun _ hK9=>?_;refine wp_block ?_;refine Zs hf fun _ hK10=>?_;refine Zi (k:=k) (u:=u8) (enc:=encI) (l:=l) trivial rfl rfl Xg X0h X6 (hr_l.below' hW) hu8 rfl ?_;intro p12 hat11;refine Ze (X0 rfl X4 hat11)<|Za rfl ?_;refine Zt hK10 fun a hf=>?_;refine Zs hf fun _ hK13=>?_;refine Zm rfl<|Zm rfl<|Ze (X0u rfl rfl) ?_;refine Zt hK13 fun a hf=>?_
  refine Xe hf rfl (fun hc14=>?_) (fun hc14=>?_)
  ·have hc14b:=hc14
   have hb2:l.any (fun y=>y==x)=true:=X3c hu8 hc14
   refine Zs hf fun _ hK15=>?_;refine Za rfl ?_;refine Zt hK15 fun a hf=>?_;refine wp_ret ?_;refine Xr ?_;refine X5 ?_;refine X5 ?_;refine Xr ?_;refine X5 ?_;refine X3 hf (Xq hf rfl rfl) ?_;exact ⟨by rw [hb2],hW⟩
  have hc14b:=hc14
  have hok:(!(u8==x))=true:=by rw [hc14];rfl
  refine wp_skip ?_;refine Xd ?_;refine hK9 _ _ ?_;refine Zr hf ?_;refine Ze (Xp rfl rfl (by omega) (by omega))<|Zm rfl ?_;refine Zn fun a hf=>?_;refine Xc ?_;exact ⟨k+1,⟨hf.sub ⟨rfl,rfl,rfl,rfl,trivial⟩,(by omega),(X2a hpre hu8 hok),hW⟩,(by omega)⟩
 have hc7b:=hc7;have hc7:=of_decide_eq_false hc7;refine wp_exit ?_;refine Xf ?_;refine Xf ?_;refine Xy ?_;refine hK3 _ _ ?_;refine Zs hf fun _ hK16=>?_;refine Za rfl ?_;refine Zt hK16 fun a hf=>?_
 refine wp_ret (X3 hf (Xq hf rfl rfl) ?_)
 have hb2:l.any (fun y=>y==x)=false:=X2v (X24 hpre (by omega))
 exact ⟨by rw [hb2],hW⟩
theorem Xu7(w0:World)(g:Gt) : Ret Tryz.prog 173 [.agg #[vi g.k,vi g.a,vi g.b]] w0 (fun v w=>v=.bool (inR g.k 9 11)∧Below w0.heap.size w0 w):=by
 refine enter Tryz.func173 rfl 16 rfl rfl ?_;intro a hf
 have hW:Below w0.heap.size w0 w0:=Below.refl _ _
 refine Zs hf fun _ hK1=>?_;refine Zf (X0p (zs:=[vi g.k,vi g.a,vi g.b]) rfl rfl) ?_;rintro _ w1 ⟨b2,rfl,hl2,hE,hB2⟩;have hlo2:=Nat.le_trans hW.size hl2;replace hW:=btr hW hE;refine Za rfl ?_;refine Zt hK1 fun a hf=>?_;refine wp_seq_k fun _ hK3=>?_;refine X08 (fun a w=>Fr a 16 [(2,.bool (((g.k==9)||(g.k==10))||(g.k==11)))]∧w1=w) ?_ ?_
 ·refine Zr hf ?_;refine Ze (Vd rfl X0i 0)<|Ze (X0 rfl X4 (hB2.at 0))<|Ze (X0u rfl rfl)<|Zm rfl ?_
  refine Zg 6 rfl (fun hg4=>?_) (fun hg4=>?_)
  ·refine Zp ⟨_,_,rfl,rfl,hg4⟩ ?_;refine Zp ⟨_,_,rfl,rfl,hg4⟩ ?_;refine Zp ⟨_,_,rfl,rfl,hg4⟩ ?_;refine Ze (Xb rfl hg4 rfl)<|Zm rfl<|Zp ⟨_,_,rfl,rfl,rfl⟩ ?_;refine Zp ⟨_,_,rfl,rfl,rfl⟩ ?_;refine Zp ⟨_,_,rfl,rfl,rfl⟩ ?_;refine Ze (Xb rfl rfl rfl)<|Za rfl ?_;refine Zn fun a hf=>?_;exact ⟨hf.sub ⟨X1 rfl (by first|rfl|(simp only [hg4,bs];done)|simp [hg4]),trivial⟩,rfl⟩
  refine Zv ⟨_,_,rfl,rfl,hg4⟩ (Vd rfl X0i 0) ?_;refine Zv ⟨_,_,rfl,rfl,hg4⟩ (X0 rfl X4 (hB2.at 0)) ?_;refine Zv ⟨_,_,rfl,rfl,hg4⟩ (X0u rfl rfl) ?_;refine Ze (X9 rfl hg4 rfl)<|Zm rfl ?_
  refine Zg 11 rfl (fun hg5=>?_) (fun hg5=>?_)
  ·refine Zp ⟨_,_,rfl,rfl,hg5⟩ ?_;refine Zp ⟨_,_,rfl,rfl,hg5⟩ ?_;refine Zp ⟨_,_,rfl,rfl,hg5⟩ ?_;refine Ze (Xb rfl hg5 rfl)<|Za rfl ?_;refine Zn fun a hf=>?_;exact ⟨hf.sub ⟨X1 rfl (by first|rfl|(simp only [hg4,hg5,bs];done)|simp [hg4,hg5]),trivial⟩,rfl⟩
  refine Zv ⟨_,_,rfl,rfl,hg5⟩ (Vd rfl X0i 0) ?_;refine Zv ⟨_,_,rfl,rfl,hg5⟩ (X0 rfl X4 (hB2.at 0)) ?_;refine Zv ⟨_,_,rfl,rfl,hg5⟩ (X0u rfl rfl) ?_;refine Ze (X9 rfl hg5 rfl)<|Za rfl ?_;refine Zn fun a hf=>?_;exact ⟨hf.sub ⟨X1 rfl (by first|rfl|(simp only [hg4,hg5,bs];done)|simp [hg4,hg5]),trivial⟩,rfl⟩
 rintro a _ ⟨hf,rfl⟩;refine hK3 _ _ ?_
 refine wp_ret (X3 hf (Xq hf rfl rfl) ?_)
 exact ⟨congrArg Value.bool (Xrt g.k),hW⟩
theorem Xmc(w0:World)(g:Gt) : Ret Tryz.prog 123 [.agg #[vi g.k,vi g.a,vi g.b]] w0 (fun v w=>∃ A c,v=.slice A (qubI g).length c∧Own w w0.heap.size 3 1 encI A c (qubI g)∧Below w0.heap.size w0 w):=by
 refine enter Tryz.func123 rfl 18 rfl rfl ?_;intro a hf
 have hW:Below w0.heap.size w0 w0:=Below.refl _ _
 refine Zs hf fun _ hK1=>?_;refine Zf (X0p (zs:=[vi g.k,vi g.a,vi g.b]) rfl rfl) ?_;rintro _ w1 ⟨b2,rfl,hl2,hE,hB2⟩;have hlo2:=Nat.le_trans hW.size hl2;replace hW:=btr hW hE;refine Za rfl ?_;refine Zt hK1 fun a hf=>?_;refine wp_seq_k fun _ hK4=>?_;refine wp_block ?_;refine Zs hf fun _ hK5=>?_;refine Ze (Vd rfl X0i 0)<|Ze (X0 rfl X4 (hB2.at 0))<|Ze (X0u rfl rfl)<|Za rfl ?_;refine Zt hK5 fun a hf=>?_
 refine Xe hf rfl (fun hc6=>?_) (fun hc6=>?_)
 ·have hc6b:=hc6
  have hfin:qubI g=[]:=by rw [qubI,if_pos (by simpa using hc6)]
  refine Zs hf fun _ hK7=>?_;refine Za rfl ?_;refine Zt hK7 fun a hf=>?_;refine wp_ret ?_;refine Xr ?_;refine X5 ?_;refine X3 hf (Xq hf rfl rfl) ?_
  rw [hfin]
  exact ⟨none,0,rfl,(Own.nil _ _ _ _ _),hW⟩
 have hc6b:=hc6
 have h12:¬ g.k=12:=by simpa using hc6
 refine Zs hf fun _ hK9=>?_;refine Ze (Vn Xt hB2) ?_;refine Zf (Vc (Xu7 _ g) Xiz) ?_;rintro _ w2 ⟨rfl,hE⟩;replace hB2:=hB2.below hE;replace hW:=btr hW hE;refine Za rfl ?_;refine Zt hK9 fun a hf=>?_
 refine Xe hf rfl (fun hc10=>?_) (fun hc10=>?_)
 ·have hc10b:=hc10
  have hfin:qubI g=[g.a,g.b]:=by rw [qubI,if_neg h12,if_pos hc10]
  refine Zs hf fun _ hK11=>?_;refine Ze (Vd rfl X0r 1)<|Ze (X0 rfl X4 (hB2.at 1))<|Ze (Vd rfl X10 2)<|Ze (X0 rfl X4 (hB2.at 2)) ?_;refine Zf (Xm (k:=2) (vs:=[vi g.a,vi g.b]) (zs:=[vi g.a,vi g.b]) rfl Xg X19 rfl rfl) ?_;rintro _ w3 ⟨b12,rfl,hl12,hE,hB12⟩;have hlo12:=Nat.le_trans hW.size hl12;replace hB2:=hB2.below hE;replace hW:=btr hW hE;refine Za rfl ?_;refine Zt hK11 fun a hf=>?_;refine wp_ret ?_;refine Xr ?_;refine X5 ?_;refine X3 hf (Xq hf rfl rfl) ?_
  rw [hfin]
  exact ⟨(some ⟨b12,0,none⟩),2,rfl,(Own.of_blkL X6 hB12 hlo12 rfl rfl (by decide)),hW⟩
 have hc10b:=hc10
 have hfin:qubI g=[g.a]:=by rw [qubI,if_neg h12,if_neg (by rw [hc10];simp)]
 refine wp_skip ?_;refine Xd ?_;refine hK4 _ _ ?_;refine Zs hf fun _ hK14=>?_;refine Ze (Vd rfl X0r 1)<|Ze (X0 rfl X4 (hB2.at 1)) ?_;refine Zf (Xm (k:=1) (vs:=[vi g.a]) (zs:=[vi g.a]) rfl Xg X19 rfl rfl) ?_;rintro _ w4 ⟨b15,rfl,hl15,hE,hB15⟩;have hlo15:=Nat.le_trans hW.size hl15;replace hB2:=hB2.below hE;replace hW:=btr hW hE;refine Za rfl ?_;refine Zt hK14 fun a hf=>?_
 refine wp_ret (X3 hf (Xq hf rfl rfl) ?_)
 rw [hfin]
 exact ⟨(some ⟨b15,0,none⟩),1,rfl,(Own.of_blkL X6 hB15 hlo15 rfl rfl (by decide)),hW⟩
theorem Xod(w0:World)(g:Gt)(h:Gt) : Ret Tryz.prog 62 [.agg #[vi g.k,vi g.a,vi g.b],.agg #[vi h.k,vi h.a,vi h.b]] w0 (fun v w=>v=.bool (comS g h)∧Below w0.heap.size w0 w):=by
 have hql:=X2z g;have hqh:=X2z h;refine enter Tryz.func62 rfl 19 rfl rfl ?_;intro a hf
 have hW:Below w0.heap.size w0 w0:=Below.refl _ _
 refine Zs hf fun _ hK1=>?_;refine Zf (X0p (zs:=[vi g.k,vi g.a,vi g.b]) rfl rfl) ?_;rintro _ w1 ⟨b2,rfl,hl2,hE,hB2⟩;have hlo2:=Nat.le_trans hW.size hl2;replace hW:=btr hW hE;refine Zf (X0p (zs:=[vi h.k,vi h.a,vi h.b]) rfl rfl) ?_;rintro _ w2 ⟨b3,rfl,hl3,hE,hB3⟩
 have hne2_3:b2≠b3:=by have:=hB2.lt;omega
 have hlo3:=Nat.le_trans hW.size hl3;replace hB2:=hB2.below hE;replace hW:=btr hW hE;refine Za rfl ?_;refine Zt hK1 fun a hf=>?_;refine wp_seq_k fun _ hK4=>?_;refine Zs hf fun _ hK5=>?_;refine Ze (Vn Xt hB2) ?_;refine Zf (Vc (Xmc _ g) Xbj) ?_;rintro _ w3 ⟨A6,c6,rfl,ho6,hE⟩;replace ho6:=ho6.lower hW.size;replace hB2:=hB2.below hE;replace hB3:=hB3.below hE;replace hW:=btr hW hE;refine Ze (X0y rfl Xg)<|Zm rfl ?_;refine Zt hK5 fun a hf=>?_;refine wp_block ?_;refine Xx (σ:=Nat) (fun (k:Nat) (a:Act) (w:World)=>Fr a 19 [(3,.pointer (some ⟨b3,0,none⟩)),(8,.slice A6 (qubI g).length c6),(9,vi ((qubI g).length:Int)),(10,vi (k:Int))]∧(k≤(qubI g).length)∧(((qubI g).take k).all (fun x=>!((qubI h).any fun y=>y==x))=true)∧Blk w b3 24 [vi h.k,vi h.a,vi h.b]∧Own w w0.heap.size 3 1 encI A6 c6 (qubI g)∧Below w0.heap.size w0 w) (fun (k:Nat)=>(qubI g).length+1-k) 0 ?_ ?_
 ·exact ⟨hf.sub ⟨rfl,rfl,rfl,rfl,trivial⟩,(Nat.zero_le _),(by simp),hB3,ho6,hW⟩
 rintro k a w4 ⟨hf,hk,hpre,hB3,ho6,hW⟩;refine Zs hf fun _ hK7=>?_;refine Ze (X0l rfl rfl) ?_;refine Zt hK7 fun a hf=>?_;refine wp_seq_k fun _ hK8=>?_
 refine Xe hf rfl (fun hc9=>?_) (fun hc9=>?_)
 ·have hc9b:=hc9;have hc9:=of_decide_eq_true hc9
  obtain ⟨u10,hu10⟩:=Xl (l:=(qubI g)) (k:=k) (by omega)
  refine wp_skip ?_;refine hK8 _ _ ?_;refine wp_seq_k fun _ hK11=>?_;refine wp_block ?_;refine Zs hf fun _ hK12=>?_;refine Zi (k:=k) (u:=u10) (enc:=encI) (l:=(qubI g)) trivial rfl rfl Xg X0h X6 ho6.rd hu10 rfl ?_;intro p14 hat13;refine Ze (X0 rfl X4 hat13)<|Za rfl ?_;refine Zt hK12 fun a hf=>?_;refine Zs hf fun _ hK15=>?_;refine Ze (Vn Xt hB3) ?_;refine Zf (Vc (Xmc _ h) Xbj) ?_;rintro _ w5 ⟨A16,c16,rfl,ho16,hE⟩;replace ho16:=ho16.lower hW.size;replace hB3:=hB3.below hE;replace ho6:=ho6.below hE;replace hW:=btr hW hE;refine Zm rfl ?_;refine Zf (Vc (Xvk _ A16 c16 (qubI h) ho16.rd.top u10 (by omega)) Xsd) ?_;rintro _ w6 ⟨rfl,hE⟩;replace hB3:=hB3.below hE;replace ho6:=ho6.below hE;replace ho16:=ho16.below hE;replace hW:=btr hW hE;refine Zt hK15 fun a hf=>?_
  refine Xe hf rfl (fun hc17=>?_) (fun hc17=>?_)
  ·have hc17b:=hc17
   have hb2:comS g h=true:=X3c hu10 hc17
   refine Zs hf fun _ hK18=>?_;refine Za rfl ?_;refine Zt hK18 fun a hf=>?_;refine wp_ret ?_;refine Xr ?_;refine X5 ?_;refine X5 ?_;refine Xr ?_;refine X5 ?_;refine X3 hf (Xq hf rfl rfl) ?_;exact ⟨by rw [hb2],hW⟩
  have hc17b:=hc17
  have hok:(!((qubI h).any fun y=>y==u10))=true:=by rw [hc17];rfl
  refine wp_skip ?_;refine Xd ?_;refine hK11 _ _ ?_;refine Zr hf ?_;refine Ze (Xp rfl rfl (by omega) (by omega))<|Zm rfl ?_;refine Zn fun a hf=>?_;refine Xc ?_;exact ⟨k+1,⟨hf.sub ⟨rfl,rfl,rfl,rfl,trivial⟩,(by omega),(X2a hpre hu10 hok),hB3,ho6,hW⟩,(by omega)⟩
 have hc9b:=hc9;have hc9:=of_decide_eq_false hc9;refine wp_exit ?_;refine Xf ?_;refine Xf ?_;refine Xy ?_;refine hK4 _ _ ?_;refine Zs hf fun _ hK19=>?_;refine Za rfl ?_;refine Zt hK19 fun a hf=>?_
 refine wp_ret (X3 hf (Xq hf rfl rfl) ?_)
 have hb2:comS g h=false:=X2v (X24 hpre (by omega))
 exact ⟨by rw [hb2],hW⟩
theorem Xw6(w0:World)(g:Gt)(Aus:Option Addr)(cus:Nat)(us:List Int)(hr_us:Rd w0 w0.heap.size 3 encI Aus us)(hi:Inc us)(hb:inR g.k 9 11=true→g.b ∈ us)(hln:us.length≤2305843009213693951) : Ret Tryz.prog 175 [.agg #[vi g.k,vi g.a,vi g.b],.slice Aus us.length cus] w0 (fun v w=>v=vi (if inR g.k 9 11=true then lastN us g.b us.length else 0)∧Below w0.heap.size w0 w):=by
 refine enter Tryz.func175 rfl 24 rfl rfl ?_;intro a hf
 have hW:Below w0.heap.size w0 w0:=Below.refl _ _
 refine Zs hf fun _ hK2=>?_;refine Zf (X0p (zs:=[vi g.k,vi g.a,vi g.b]) rfl rfl) ?_;rintro _ w1 ⟨b3,rfl,hl3,hE,hB3⟩;have hlo3:=Nat.le_trans hW.size hl3;replace hW:=btr hW hE;refine Za rfl ?_;refine Zt hK2 fun a hf=>?_;refine wp_seq_k fun _ hK4=>?_;refine Zs hf fun _ hK5=>?_;refine Zm rfl<|Ze (X0y rfl Xg)<|Zm rfl ?_;refine Zt hK5 fun a hf=>?_;refine wp_block ?_;refine Xx (σ:=Nat) (fun (k:Nat) (a:Act) (w:World)=>Fr a 24 [(2,.pointer (some ⟨b3,0,none⟩)),(7,.slice Aus us.length cus),(8,vi (us.length:Int)),(9,vi (k:Int))]∧(k≤us.length)∧(inR g.k 9 11=true→¬ g.b ∈ us.take k)∧Blk w b3 24 [vi g.k,vi g.a,vi g.b]∧Below w0.heap.size w0 w) (fun (k:Nat)=>us.length-k) 0 ?_ ?_
 ·exact ⟨hf.sub ⟨rfl,rfl,rfl,rfl,trivial⟩,(Nat.zero_le _),(fun _=>by simp),hB3,hW⟩
 rintro k a w2 ⟨hf,hk,hpre,hB3,hW⟩;refine Zs hf fun _ hK6=>?_;refine Ze (X0l rfl rfl) ?_;refine Zt hK6 fun a hf=>?_;refine wp_seq_k fun _ hK7=>?_
 refine Xe hf rfl (fun hc8=>?_) (fun hc8=>?_)
 ·have hc8b:=hc8;have hc8:=of_decide_eq_true hc8
  obtain ⟨u9,hu9⟩:=Xl (l:=us) (k:=k) (by omega)
  refine wp_skip ?_;refine hK7 _ _ ?_;refine wp_seq_k fun _ hK10=>?_;refine wp_block ?_;refine Zs hf fun _ hK11=>?_;refine Zm rfl ?_;refine Zi (k:=k) (u:=u9) (enc:=encI) (l:=us) trivial rfl rfl Xg X0h X6 (hr_us.below' hW) hu9 rfl ?_;intro p13 hat12;refine Ze (X0 rfl X4 hat12)<|Za rfl<|Za rfl ?_;refine Zt hK11 fun a hf=>?_;refine wp_seq_k fun _ hK14=>?_;refine X08 (fun a w=>Fr a 24 [(2,.pointer (some ⟨b3,0,none⟩)),(5,vi (k:Int)),(7,.slice Aus us.length cus),(8,vi (us.length:Int)),(9,vi (k:Int)),(21,.bool ((inR g.k 9 11)&&(u9==g.b)))]∧Below w2.heap.size w2 w) ?_ ?_
  ·have hEc:Below w2.heap.size w2 w2:=Below.refl _ _
   refine Zr hf ?_;refine Ze (Vn Xt hB3) ?_;refine Zf (Vc (Xu7 _ g) Xiz) ?_;rintro _ w3 ⟨rfl,hE⟩;replace hB3:=hB3.below hE;replace hW:=btr hW hE;replace hEc:=btr hEc hE;refine Zm rfl ?_
   refine Zg 16 rfl (fun hg15=>?_) (fun hg15=>?_)
   ·refine Zv ⟨_,_,rfl,rfl,hg15⟩ (X2 rfl) ?_;refine Zv ⟨_,_,rfl,rfl,hg15⟩ (Vd rfl X10 2) ?_;refine Zv ⟨_,_,rfl,rfl,hg15⟩ (X0 rfl X4 (hB3.at 2)) ?_;refine Zv ⟨_,_,rfl,rfl,hg15⟩ (X0u rfl rfl) ?_;refine Ze (Xb rfl hg15 rfl) ?_;refine Zn fun a hf=>?_
    have hEE:Below w2.heap.size w2 w3:=hEc
    exact ⟨hf.sub ⟨rfl,rfl,rfl,rfl,rfl,X1 rfl (by first|rfl|(simp only [hc8b,hg15,bs];done)|simp [hc8b,hg15]),trivial⟩,hEE⟩
   refine Zp ⟨_,_,rfl,rfl,hg15⟩ ?_;refine Zp ⟨_,_,rfl,rfl,hg15⟩ ?_;refine Zp ⟨_,_,rfl,rfl,hg15⟩ ?_;refine Zp ⟨_,_,rfl,rfl,hg15⟩ ?_;refine Ze (X9 rfl hg15 rfl) ?_;refine Zn fun a hf=>?_
   have hEE:Below w2.heap.size w2 w3:=hEc
   exact ⟨hf.sub ⟨rfl,rfl,rfl,rfl,rfl,X1 rfl (by first|rfl|(simp only [hc8b,hg15,bs];done)|simp [hc8b,hg15]),trivial⟩,hEE⟩
  rintro a w4 ⟨hf,hE⟩;replace hB3:=hB3.below hE;replace hW:=btr hW hE;refine hK14 _ _ ?_
  refine Xe hf rfl (fun hc16=>?_) (fun hc16=>?_)
  ·have hc16b:=hc16;obtain ⟨h8,h9⟩:=(Bool.and_eq_true _ _).mp hc16
   have hfin:(if inR g.k 9 11=true then lastN us g.b us.length else 0)=(k:Int):=by rw [if_pos h8];exact X7o hi (by rw [hu9,eq_of_beq h9])
   refine Zs hf fun _ hK17=>?_;refine Zm rfl<|Za rfl ?_;refine Zt hK17 fun a hf=>?_;refine wp_ret ?_;refine Xr ?_;refine X5 ?_;refine X5 ?_;refine Xr ?_;refine X5 ?_;refine X3 hf (Xq hf rfl rfl) ?_;exact ⟨by rw [hfin],hW⟩
  have hc16b:=hc16;have hnx:=Xnf hu9 hpre hc16;refine wp_skip ?_;refine Xd ?_;refine hK10 _ _ ?_;refine Zr hf ?_;refine Ze (Xp rfl rfl (by omega) (by omega))<|Zm rfl ?_;refine Zn fun a hf=>?_;refine Xc ?_;exact ⟨k+1,⟨hf.sub ⟨rfl,rfl,rfl,rfl,trivial⟩,(by omega),hnx,hB3,hW⟩,(by omega)⟩
 have hc8b:=hc8;have hc8:=of_decide_eq_false hc8
 have hfin:(if inR g.k 9 11=true then lastN us g.b us.length else 0)=0:=by rw [if_neg];intro h9;exact hpre h9 (by rw [List.take_of_length_le (by omega)];exact hb h9)
 refine wp_exit ?_;refine Xf ?_;refine Xf ?_;refine Xy ?_;refine hK4 _ _ ?_;refine Zs hf fun _ hK18=>?_;refine Za rfl ?_;refine Zt hK18 fun a hf=>?_
 refine wp_ret (X3 hf (Xq hf rfl rfl) ?_)
 exact ⟨by rw [hfin],hW⟩
theorem Xdr(w0:World)(g:Gt)(Aus:Option Addr)(cus:Nat)(us:List Int)(hr_us:Rd w0 w0.heap.size 3 encI Aus us)(hk12:¬ g.k=12)(ha:g.a ∈ us)(hi:Inc us)(hb:inR g.k 9 11=true→g.b ∈ us)(hln:us.length≤2305843009213693951) : Ret Tryz.prog 126 [.agg #[vi g.k,vi g.a,vi g.b],.slice Aus us.length cus] w0 (fun v w=>v=gV (smallG us g)∧Below w0.heap.size w0 w):=by
 refine enter Tryz.func126 rfl 27 rfl rfl ?_;intro a hf
 have hW:Below w0.heap.size w0 w0:=Below.refl _ _
 refine Zs hf fun _ hK2=>?_;refine Zf (X0p (zs:=[vi g.k,vi g.a,vi g.b]) rfl rfl) ?_;rintro _ w1 ⟨b3,rfl,hl3,hE,hB3⟩;have hlo3:=Nat.le_trans hW.size hl3;replace hW:=btr hW hE;refine Zf (Xa (zs:=[vi 0,vi 0,vi 0]) X32 rfl) ?_;rintro _ w2 ⟨b4,rfl,hl4,hE,hB4⟩
 have hne3_4:b3≠b4:=by have:=hB3.lt;omega
 have hlo4:=Nat.le_trans hW.size hl4;replace hB3:=hB3.below hE;replace hW:=btr hW hE;refine Zt hK2 fun a hf=>?_;refine wp_seq_k fun _ hK5=>?_;refine Zs hf fun _ hK6=>?_;refine Zm rfl<|Ze (X0y rfl Xg)<|Zm rfl ?_;refine Zt hK6 fun a hf=>?_;refine wp_block ?_;refine Xx (σ:=Nat) (fun (k:Nat) (a:Act) (w:World)=>Fr a 27 [(1,.slice Aus us.length cus),(2,.pointer (some ⟨b3,0,none⟩)),(4,.pointer (some ⟨b4,0,none⟩)),(7,.slice Aus us.length cus),(8,vi (us.length:Int)),(9,vi (k:Int))]∧(k≤us.length)∧(¬ g.a ∈ us.take k)∧Blk w b3 24 [vi g.k,vi g.a,vi g.b]∧Blk w b4 24 [vi 0,vi 0,vi 0]∧Below w0.heap.size w0 w) (fun (k:Nat)=>us.length-k) 0 ?_ ?_
 ·exact ⟨hf.sub ⟨rfl,rfl,rfl,rfl,rfl,rfl,trivial⟩,(Nat.zero_le _),(by simp),hB3,hB4,hW⟩
 rintro k a w3 ⟨hf,hk,hpre,hB3,hB4,hW⟩;refine Zs hf fun _ hK7=>?_;refine Ze (X0l rfl rfl) ?_;refine Zt hK7 fun a hf=>?_;refine wp_seq_k fun _ hK8=>?_
 refine Xe hf rfl (fun hc9=>?_) (fun hc9=>?_)
 ·have hc9b:=hc9;have hc9:=of_decide_eq_true hc9
  obtain ⟨u10,hu10⟩:=Xl (l:=us) (k:=k) (by omega)
  refine wp_skip ?_;refine hK8 _ _ ?_;refine wp_seq_k fun _ hK11=>?_;refine wp_block ?_;refine Zs hf fun _ hK12=>?_;refine Zm rfl ?_;refine Zi (k:=k) (u:=u10) (enc:=encI) (l:=us) trivial rfl rfl Xg X0h X6 (hr_us.below' hW) hu10 rfl ?_;intro p14 hat13;refine Ze (X0 rfl X4 hat13)<|Za rfl<|Za rfl ?_;refine Zt hK12 fun a hf=>?_;refine Zs hf fun _ hK15=>?_;refine Zm rfl<|Ze (Vd rfl X0r 1)<|Ze (X0 rfl X4 (hB3.at 1))<|Ze (X0u rfl rfl) ?_;refine Zt hK15 fun a hf=>?_
  refine Xe hf rfl (fun hc16=>?_) (fun hc16=>?_)
  ·have hc16b:=hc16
   have hfin:smallG us g=⟨g.k,(k:Int),(if inR g.k 9 11=true then lastN us g.b us.length else 0)⟩:=by rw [smallG,if_neg hk12,X7o hi (by rw [hu10,eq_of_beq hc16])]
   refine wp_seq_k fun _ hK17=>?_;refine X05 none (fun j=>[7].contains j) mixed ?_;intro w4 hE;replace hB3:=hB3.below hE;replace hB4:=hB4.below hE;replace hW:=btr hW hE;refine Yb hf ?_;refine Yo 0 rfl (fun _=>Vd rfl X0i 0)<|Ye 1 rfl (X0 rfl X4 (hB3.at 0))<|Yo 2 rfl (fun _=>X2 rfl)<|Ye 3 rfl (Vn Xt hB3)<|Yo 4 rfl (fun _=>X2 rfl) ?_;refine Y1 5 ?_;refine Yk rfl trivial (Vc (Xw6 _ g Aus cus us (hr_us.below' hW).top hi hb hln) Xsx) (fun _ _ ⟨_,hE⟩=>hE) ?_;rintro _ w5 ⟨rfl,hE⟩;replace hB3:=hB3.below hE;replace hB4:=hB4.below hE;replace hW:=btr hW hE;refine Yo 6 rfl (fun _=>Xz (ps:=[(0,vi g.k),(1,vi (k:Int)),(2,vi (if inR g.k 9 11=true then lastN us g.b us.length else 0))]) (cs:=[vi g.k,vi (k:Int),vi (if inR g.k 9 11=true then lastN us g.b us.length else 0)]) rfl (fun _=>by first|rfl|kernel_rfl)) ?_;refine Y1 7 ?_;refine Yh rfl trivial rfl (Vw [vi g.k,vi (k:Int),vi (if inR g.k 9 11=true then lastN us g.b us.length else 0)] X0g hB4) ?_;rintro _ w6 ⟨ho,hb⟩;have hold:=hB4;replace hB3:=hB3.only ho (by omega);replace hW:=Below.only hW ho hlo4;clear hold;have hB4:=hb;clear hb ho;refine Yd fun a hf=>?_;refine hK17 _ _ ?_;refine wp_ret ?_;refine Xr ?_;refine X5 ?_;refine X5 ?_;refine Xr ?_;refine X5 ?_;refine X3 hf (Xq hf rfl (ResV.cellN (l:=[vi g.k,vi (k:Int),vi (if inR g.k 9 11=true then lastN us g.b us.length else 0)]) rfl Xt (hB4.at 0) rfl)) ?_;exact ⟨by rw [hfin],hW⟩
  have hc16b:=hc16
  have hnx:=X6j hpre hu10 (by intro h9;rw [h9] at hc16;simp at hc16)
  refine wp_skip ?_;refine Xd ?_;refine hK11 _ _ ?_;refine Zr hf ?_;refine Ze (Xp rfl rfl (by omega) (by omega))<|Zm rfl ?_;refine Zn fun a hf=>?_;refine Xc ?_;exact ⟨k+1,⟨hf.sub ⟨rfl,rfl,rfl,rfl,rfl,rfl,trivial⟩,(by omega),hnx,hB3,hB4,hW⟩,(by omega)⟩
 have hc9b:=hc9;have hc9:=of_decide_eq_false hc9
 exfalso;exact hpre (by rw [List.take_of_length_le (by omega)];exact ha)
theorem Xv1(w0:World)(p:Mx)(Ap:Option Addr)(cp:Nat)(hr_p:Rd w0 w0.heap.size 98 encD Ap p.cells)(q:Mx)(Aq:Option Addr)(cq:Nat)(hr_q:Rd w0 w0.heap.size 98 encD Aq q.cells)(hln:p.cells.length≤2305843009213693951) : Ret Tryz.prog 17 [.agg #[vi p.rows,vi p.cols,.slice Ap p.cells.length cp],.agg #[vi q.rows,vi q.cols,.slice Aq q.cells.length cq]] w0 (fun v w=>v=.bool (decide (p.rows=q.rows)&&decide (p.cols=q.cols)&&decide (p.cells=q.cells))∧Below w0.heap.size w0 w):=by
 refine enter Tryz.func17 rfl 45 rfl rfl ?_;intro a hf
 have hW:Below w0.heap.size w0 w0:=Below.refl _ _
 refine Zs hf fun _ hK3=>?_;refine Zf (X0p (zs:=[vi p.rows,vi p.cols,.slice Ap p.cells.length cp]) rfl rfl) ?_;rintro _ w1 ⟨b4,rfl,hl4,hE,hB4⟩;have hlo4:=Nat.le_trans hW.size hl4;replace hW:=btr hW hE;refine Zf (X0p (zs:=[vi q.rows,vi q.cols,.slice Aq q.cells.length cq]) rfl rfl) ?_;rintro _ w2 ⟨b5,rfl,hl5,hE,hB5⟩
 have hne4_5:b4≠b5:=by have:=hB4.lt;omega
 have hlo5:=Nat.le_trans hW.size hl5;replace hB4:=hB4.below hE;replace hW:=btr hW hE;refine Za rfl ?_;refine Zt hK3 fun a hf=>?_;refine wp_seq_k fun _ hK6=>?_;refine wp_seq_k fun _ hK7=>?_;refine X08 (fun a w=>Fr a 45 [(2,.pointer (some ⟨b4,0,none⟩)),(3,.pointer (some ⟨b5,0,none⟩)),(26,.bool (((p.rows != q.rows)||(p.cols != q.cols))||((p.cells.length:Int) != (q.cells.length:Int))))]∧w2=w) ?_ ?_
 ·refine Zr hf ?_;refine Ze (Vd rfl X2m 0)<|Ze (X0 rfl X4 (hB4.at 0))<|Ze (Vd rfl X2m 0)<|Ze (X0 rfl X4 (hB5.at 0))<|Ze (X29 rfl rfl) ?_;refine Zm rfl ?_
  refine Zg 11 rfl (fun hg8=>?_) (fun hg8=>?_)
  ·refine Zp ⟨_,_,rfl,rfl,hg8⟩ ?_;refine Zp ⟨_,_,rfl,rfl,hg8⟩ ?_;refine Zp ⟨_,_,rfl,rfl,hg8⟩ ?_;refine Zp ⟨_,_,rfl,rfl,hg8⟩ ?_;refine Zp ⟨_,_,rfl,rfl,hg8⟩ ?_;refine Ze (Xb rfl hg8 rfl)<|Zm rfl<|Zp ⟨_,_,rfl,rfl,rfl⟩ ?_;refine Zp ⟨_,_,rfl,rfl,rfl⟩ ?_;refine Zp ⟨_,_,rfl,rfl,rfl⟩ ?_;refine Zp ⟨_,_,rfl,rfl,rfl⟩ ?_;refine Zp ⟨_,_,rfl,rfl,rfl⟩ ?_;refine Zp ⟨_,_,rfl,rfl,rfl⟩ ?_;refine Zp ⟨_,_,rfl,rfl,rfl⟩ ?_;refine Ze (Xb rfl rfl rfl) ?_;refine Zn fun a hf=>?_;exact ⟨hf.sub ⟨rfl,rfl,X1 rfl (by first|rfl|(simp only [hg8,bs];done)|simp [hg8]),trivial⟩,rfl⟩
  refine Zv ⟨_,_,rfl,rfl,hg8⟩ (Vd rfl X1q 1) ?_;refine Zv ⟨_,_,rfl,rfl,hg8⟩ (X0 rfl X4 (hB4.at 1)) ?_;refine Zv ⟨_,_,rfl,rfl,hg8⟩ (Vd rfl X1q 1) ?_;refine Zv ⟨_,_,rfl,rfl,hg8⟩ (X0 rfl X4 (hB5.at 1)) ?_;refine Zv ⟨_,_,rfl,rfl,hg8⟩ (X29 rfl rfl) ?_;refine Ze (X9 rfl hg8 rfl)<|Zm rfl ?_
  refine Zg 18 rfl (fun hg9=>?_) (fun hg9=>?_)
  ·refine Zp ⟨_,_,rfl,rfl,hg9⟩ ?_;refine Zp ⟨_,_,rfl,rfl,hg9⟩ ?_;refine Zp ⟨_,_,rfl,rfl,hg9⟩ ?_;refine Zp ⟨_,_,rfl,rfl,hg9⟩ ?_;refine Zp ⟨_,_,rfl,rfl,hg9⟩ ?_;refine Zp ⟨_,_,rfl,rfl,hg9⟩ ?_;refine Zp ⟨_,_,rfl,rfl,hg9⟩ ?_;refine Ze (Xb rfl hg9 rfl) ?_;refine Zn fun a hf=>?_;exact ⟨hf.sub ⟨rfl,rfl,X1 rfl (by first|rfl|(simp only [hg8,hg9,bs];done)|simp [hg8,hg9]),trivial⟩,rfl⟩
  refine Zv ⟨_,_,rfl,rfl,hg9⟩ (Vd rfl X1e 2) ?_;refine Zv ⟨_,_,rfl,rfl,hg9⟩ (X0 rfl X2s (hB4.at 2)) ?_;refine Zv ⟨_,_,rfl,rfl,hg9⟩ (X0y rfl X1f) ?_;refine Zv ⟨_,_,rfl,rfl,hg9⟩ (Vd rfl X1e 2) ?_;refine Zv ⟨_,_,rfl,rfl,hg9⟩ (X0 rfl X2s (hB5.at 2)) ?_;refine Zv ⟨_,_,rfl,rfl,hg9⟩ (X0y rfl X1f) ?_;refine Zv ⟨_,_,rfl,rfl,hg9⟩ (X29 rfl rfl) ?_;refine Ze (X9 rfl hg9 rfl) ?_;refine Zn fun a hf=>?_;exact ⟨hf.sub ⟨rfl,rfl,X1 rfl (by first|rfl|(simp only [hg8,hg9,bs];done)|simp [hg8,hg9]),trivial⟩,rfl⟩
 rintro a _ ⟨hf,rfl⟩;refine hK7 _ _ ?_
 refine Xe hf rfl (fun hc10=>?_) (fun hc10=>?_)
 ·have hc10b:=hc10
  have hfin:(decide (p.rows=q.rows)&&decide (p.cols=q.cols)&&decide (p.cells=q.cells))=false:=Xr3 hc10
  refine Zs hf fun _ hK11=>?_;refine Za rfl ?_;refine Zt hK11 fun a hf=>?_;refine wp_ret ?_;refine X5 ?_;refine X3 hf (Xq hf rfl rfl) ?_;exact ⟨by rw [hfin],hW⟩
 have hc10b:=hc10;obtain ⟨e1,e2,e3⟩:=Xm3 hc10;refine wp_skip ?_;refine hK6 _ _ ?_;refine wp_seq_k fun _ hK12=>?_;refine Zs hf fun _ hK13=>?_;refine Ze (Vd rfl X1e 2)<|Ze (X0 rfl X2s (hB4.at 2))<|Ze (X0y rfl X1f)<|Zm rfl ?_;refine Zt hK13 fun a hf=>?_;refine wp_block ?_;refine Xx (σ:=Nat) (fun (k:Nat) (a:Act) (w:World)=>Fr a 45 [(2,.pointer (some ⟨b4,0,none⟩)),(3,.pointer (some ⟨b5,0,none⟩)),(29,vi (p.cells.length:Int)),(30,vi (k:Int))]∧(k≤p.cells.length)∧(p.cells.take k=q.cells.take k)∧Blk w b4 38 [vi p.rows,vi p.cols,.slice Ap p.cells.length cp]∧Blk w b5 38 [vi q.rows,vi q.cols,.slice Aq q.cells.length cq]∧Below w0.heap.size w0 w) (fun (k:Nat)=>p.cells.length-k) 0 ?_ ?_
 ·exact ⟨hf.sub ⟨rfl,rfl,rfl,rfl,trivial⟩,(Nat.zero_le _),(by simp),hB4,hB5,hW⟩
 rintro k a w3 ⟨hf,hk,hpre,hB4,hB5,hW⟩;refine Zs hf fun _ hK14=>?_;refine Ze (X0l rfl rfl) ?_;refine Zt hK14 fun a hf=>?_;refine wp_seq_k fun _ hK15=>?_
 refine Xe hf rfl (fun hc16=>?_) (fun hc16=>?_)
 ·have hc16b:=hc16;have hc16:=of_decide_eq_true hc16
  obtain ⟨u17,hu17⟩:=Xl (l:=p.cells) (k:=k) (by omega)
  obtain ⟨v9,hv9⟩:=Xl (l:=q.cells) (k:=k) (by omega)
  refine wp_skip ?_;refine hK15 _ _ ?_;refine wp_seq_k fun _ hK18=>?_;refine wp_block ?_;refine Zs hf fun _ hK19=>?_;refine Zm rfl<|Za rfl ?_;refine Zt hK19 fun a hf=>?_;refine wp_seq_k fun _ hK20=>?_;refine X05 none (fun _=>false) mixed ?_;intro w4 hE;replace hB4:=hB4.below hE;replace hB5:=hB5.below hE;replace hW:=btr hW hE;refine Yb hf ?_;refine Yo 0 rfl (fun _=>Vd rfl X1e 2)<|Ye 1 rfl (X0 rfl X2s (hB4.at 2))<|Yo 2 rfl (fun _=>X2 rfl) ?_;refine Yi (k:=k) (u:=u17) (enc:=encD) (l:=p.cells) 3 rfl trivial rfl rfl X1f Xw X1k (hr_p.below' hW) hu17 rfl ?_;intro p22 hat21;refine Ye 4 rfl (X09 (l:=[vi u17.num.a,vi u17.num.b,vi u17.num.c,vi u17.num.d,vi u17.exp]) rfl Xk hat21 rfl)<|Yo 5 rfl (fun _=>Vd rfl X1e 2)<|Ye 6 rfl (X0 rfl X2s (hB5.at 2))<|Yo 7 rfl (fun _=>X2 rfl) ?_;refine Yi (k:=k) (u:=v9) (enc:=encD) (l:=q.cells) 8 rfl trivial rfl rfl X1f Xw X1k (hr_q.below' hW) hv9 rfl ?_;intro p24 hat23;refine Ye 9 rfl (X09 (l:=[vi v9.num.a,vi v9.num.b,vi v9.num.c,vi v9.num.d,vi v9.exp]) rfl Xk hat23 rfl)<|Yo 10 rfl (fun _=>Xpb rfl rfl Xko (fun w=>eqD 9997 u17 v9 w)) ?_;refine Yd fun a hf=>?_;refine hK20 _ _ ?_
  refine Xe hf rfl (fun hc25=>?_) (fun hc25=>?_)
  ·have hc25b:=hc25
   have hfin:(decide (p.rows=q.rows)&&decide (p.cols=q.cols)&&decide (p.cells=q.cells))=false:=Xjj hu17 hv9 (by simpa using hc25)
   refine Zs hf fun _ hK26=>?_;refine Za rfl ?_;refine Zt hK26 fun a hf=>?_;refine wp_ret ?_;refine Xr ?_;refine X5 ?_;refine X5 ?_;refine Xr ?_;refine X5 ?_;refine X3 hf (Xq hf rfl rfl) ?_;exact ⟨by rw [hfin],hW⟩
  have hc25b:=hc25
  have he9:u17=v9:=by simpa using hc25
  refine wp_skip ?_;refine Xd ?_;refine hK18 _ _ ?_;refine Zr hf ?_;refine Ze (Xp rfl rfl (by omega) (by omega))<|Zm rfl ?_;refine Zn fun a hf=>?_;refine Xc ?_;exact ⟨k+1,⟨hf.sub ⟨rfl,rfl,rfl,rfl,trivial⟩,(by omega),(Xh8 hpre hu17 hv9 he9),hB4,hB5,hW⟩,(by omega)⟩
 have hc16b:=hc16;have hc16:=of_decide_eq_false hc16;refine wp_exit ?_;refine Xf ?_;refine Xf ?_;refine Xy ?_;refine hK12 _ _ ?_;refine Zs hf fun _ hK27=>?_;refine Za rfl ?_;refine Zt hK27 fun a hf=>?_
 refine wp_ret (X3 hf (Xq hf rfl rfl) ?_)
 have he:p.cells=q.cells:=by rw [List.take_of_length_le (by omega),List.take_of_length_le (by omega)] at hpre;exact hpre
 exact ⟨by simp [e1,e2,he],hW⟩
theorem Xvj(w0:World)(Al:Option Addr)(cl:Nat)(l:List Int)(hr_l:Rd w0 w0.heap.size 3 encI Al l)(x:Int)(hln:l.length≤2305843009213693951) : Ret Tryz.prog 196 [.slice Al l.length cl,vi x] w0 (fun v w=>∃ i:Int,v=vi i∧decide (0≤i)=(l.any fun y=>x==y)∧Below w0.heap.size w0 w):=by
 refine enter Tryz.func196 rfl 19 rfl rfl ?_;intro a hf
 have hW:Below w0.heap.size w0 w0:=Below.refl _ _
 refine Zs hf fun _ hK2=>?_;refine Za rfl ?_;refine Zt hK2 fun a hf=>?_;refine wp_seq_k fun _ hK3=>?_;refine Zs hf fun _ hK4=>?_;refine Zm rfl<|Ze (X0y rfl Xg)<|Zm rfl ?_;refine Zt hK4 fun a hf=>?_;refine wp_block ?_;refine Xx (σ:=Nat) (fun (k:Nat) (a:Act) (w:World)=>Fr a 19 [(0,.slice Al l.length cl),(1,vi x),(7,vi (l.length:Int)),(8,vi (k:Int))]∧(k≤l.length)∧((l.take k).all (fun y=>!(x==y))=true)∧Below w0.heap.size w0 w) (fun (k:Nat)=>l.length+1-k) 0 ?_ ?_
 ·exact ⟨hf.sub ⟨rfl,rfl,rfl,rfl,trivial⟩,(Nat.zero_le _),(by simp),hW⟩
 rintro k a w1 ⟨hf,hk,hpre,hW⟩;refine Zs hf fun _ hK5=>?_;refine Ze (X0l rfl rfl) ?_;refine Zt hK5 fun a hf=>?_;refine wp_seq_k fun _ hK6=>?_
 refine Xe hf rfl (fun hc7=>?_) (fun hc7=>?_)
 ·have hc7b:=hc7;have hc7:=of_decide_eq_true hc7
  obtain ⟨u8,hu8⟩:=Xl (l:=l) (k:=k) (by omega)
  refine wp_skip ?_;refine hK6 _ _ ?_;refine wp_seq_k fun _ hK9=>?_;refine wp_block ?_;refine Zs hf fun _ hK10=>?_;refine Zm rfl<|Za rfl ?_;refine Zt hK10 fun a hf=>?_;refine Zs hf fun _ hK11=>?_;refine Zm rfl<|Zm rfl<|Zm rfl ?_;refine Zi (k:=k) (u:=u8) (enc:=encI) (l:=l) trivial rfl rfl Xg X0h X6 (hr_l.below' hW) hu8 rfl ?_;intro p13 hat12;refine Ze (X0 rfl X4 hat12)<|Ze (X0u rfl rfl) ?_;refine Zt hK11 fun a hf=>?_
  refine Xe hf rfl (fun hc14=>?_) (fun hc14=>?_)
  ·have hc14b:=hc14
   have hb2:l.any (fun y=>x==y)=true:=X3c hu8 hc14
   refine Zs hf fun _ hK15=>?_;refine Zm rfl<|Za rfl ?_;refine Zt hK15 fun a hf=>?_;refine wp_ret ?_;refine Xr ?_;refine X5 ?_;refine X5 ?_;refine Xr ?_;refine X5 ?_;refine X3 hf (Xq hf rfl rfl) ?_;exact ⟨_,rfl,by rw [hb2];simp,hW⟩
  have hc14b:=hc14
  have hok:(!(x==u8))=true:=by rw [hc14];rfl
  refine wp_skip ?_;refine Xd ?_;refine hK9 _ _ ?_;refine Zr hf ?_;refine Ze (Xp rfl rfl (by omega) (by omega))<|Zm rfl ?_;refine Zn fun a hf=>?_;refine Xc ?_;exact ⟨k+1,⟨hf.sub ⟨rfl,rfl,rfl,rfl,trivial⟩,(by omega),(X2a hpre hu8 hok),hW⟩,(by omega)⟩
 have hc7b:=hc7;have hc7:=of_decide_eq_false hc7;refine wp_exit ?_;refine Xf ?_;refine Xf ?_;refine Xy ?_;refine hK3 _ _ ?_;refine Zs hf fun _ hK16=>?_;refine Za rfl ?_;refine Zt hK16 fun a hf=>?_
 refine wp_ret (X3 hf (Xq hf rfl rfl) ?_)
 have hb2:l.any (fun y=>x==y)=false:=X2v (X24 hpre (by omega))
 exact ⟨_,rfl,by rw [hb2];rfl,hW⟩
theorem Xv4(w0:World)(Al:Option Addr)(cl:Nat)(l:List Int)(hr_l:Rd w0 w0.heap.size 3 encI Al l)(x:Int)(hln:l.length≤2305843009213693951) : Ret Tryz.prog 171 [.slice Al l.length cl,vi x] w0 (fun v w=>v=.bool (l.any fun y=>x==y)∧Below w0.heap.size w0 w):=by
 refine enter Tryz.func171 rfl 9 rfl rfl ?_;intro a hf
 have hW:Below w0.heap.size w0 w0:=Below.refl _ _
 refine Zs hf fun _ hK2=>?_;refine Za rfl ?_;refine Zt hK2 fun a hf=>?_;refine Zs hf fun _ hK3=>?_;refine Zm rfl<|Zm rfl ?_;refine Zf (Vc (Xvj _ Al cl l (hr_l.below' hW).top x hln) Xq8) ?_;rintro _ w1 ⟨ix,rfl,hix,hE⟩;replace hW:=btr hW hE;refine Ze (Xde rfl rfl)<|Za rfl ?_;refine Zt hK3 fun a hf=>?_
 refine wp_ret (X3 hf (Xq hf rfl rfl) ?_)
 exact ⟨by rw [← hix],hW⟩
theorem Xvv(w0:World)(Al:Option Addr)(cl:Nat)(l:List Int)(hr_l:Rd w0 w0.heap.size 3 encI Al l)(kq:FuncId)(pq:List Value)(Fq:FuncF Tryz.prog kq)(q:Int→Bool)(hq:∀ x w,Below w0.heap.size w0 w→Ret Tryz.prog kq ([vi x]++pq) w (fun v w'=>v=.bool (q x)∧Below w.heap.size w w'))(hln:l.length≤2305843009213693951) : Ret Tryz.prog 195 [.slice Al l.length cl,.func (.func kq) #[] pq.toArray] w0 (fun v w=>∃ i:Int,v=vi i∧decide (0≤i)=l.any q∧Below w0.heap.size w0 w):=by
 refine enter Tryz.func195 rfl 19 rfl rfl ?_;intro a hf
 have hW:Below w0.heap.size w0 w0:=Below.refl _ _
 refine Zs hf fun _ hK2=>?_;refine Za rfl ?_;refine Zt hK2 fun a hf=>?_;refine wp_seq_k fun _ hK3=>?_;refine Zs hf fun _ hK4=>?_;refine Zm rfl<|Ze (X0y rfl Xg)<|Zm rfl ?_;refine Zt hK4 fun a hf=>?_;refine wp_block ?_;refine Xx (σ:=Nat) (fun (k:Nat) (a:Act) (w:World)=>Fr a 19 [(0,.slice Al l.length cl),(1,.func (.func kq) #[] pq.toArray),(7,vi (l.length:Int)),(8,vi (k:Int))]∧(k≤l.length)∧((l.take k).all (fun x=>!q x)=true)∧Below w0.heap.size w0 w) (fun (k:Nat)=>l.length+1-k) 0 ?_ ?_
 ·exact ⟨hf.sub ⟨rfl,rfl,rfl,rfl,trivial⟩,(Nat.zero_le _),(by simp),hW⟩
 rintro k a w1 ⟨hf,hk,hpre,hW⟩;refine Zs hf fun _ hK5=>?_;refine Ze (X0l rfl rfl) ?_;refine Zt hK5 fun a hf=>?_;refine wp_seq_k fun _ hK6=>?_
 refine Xe hf rfl (fun hc7=>?_) (fun hc7=>?_)
 ·have hc7b:=hc7;have hc7:=of_decide_eq_true hc7
  obtain ⟨u8,hu8⟩:=Xl (l:=l) (k:=k) (by omega)
  refine wp_skip ?_;refine hK6 _ _ ?_;refine wp_seq_k fun _ hK9=>?_;refine wp_block ?_;refine Zs hf fun _ hK10=>?_;refine Zm rfl<|Za rfl ?_;refine Zt hK10 fun a hf=>?_;refine Zs hf fun _ hK11=>?_;refine Zm rfl<|Zm rfl<|Zm rfl ?_;refine Zi (k:=k) (u:=u8) (enc:=encI) (l:=l) trivial rfl rfl Xg X0h X6 (hr_l.below' hW) hu8 rfl ?_;intro p13 hat12;refine Ze (X0 rfl X4 hat12) ?_;refine Zf (X37 (cs:=pq) (vs:=[vi u8]) rfl rfl Fq (hq u8 _ hW)) ?_;rintro _ w2 ⟨rfl,hE⟩;replace hW:=btr hW hE;refine Zt hK11 fun a hf=>?_
  refine Xe hf rfl (fun hc14=>?_) (fun hc14=>?_)
  ·have hc14b:=hc14
   have hb2:l.any q=true:=X3c hu8 hc14
   refine Zs hf fun _ hK15=>?_;refine Zm rfl<|Za rfl ?_;refine Zt hK15 fun a hf=>?_;refine wp_ret ?_;refine Xr ?_;refine X5 ?_;refine X5 ?_;refine Xr ?_;refine X5 ?_;refine X3 hf (Xq hf rfl rfl) ?_;exact ⟨_,rfl,by rw [hb2];simp,hW⟩
  have hc14b:=hc14
  have hok:(!q u8)=true:=by revert hc14;cases q u8<;>simp
  refine wp_skip ?_;refine Xd ?_;refine hK9 _ _ ?_;refine Zr hf ?_;refine Ze (Xp rfl rfl (by omega) (by omega))<|Zm rfl ?_;refine Zn fun a hf=>?_;refine Xc ?_;exact ⟨k+1,⟨hf.sub ⟨rfl,rfl,rfl,rfl,trivial⟩,(by omega),(X2a hpre hu8 hok),hW⟩,(by omega)⟩
 have hc7b:=hc7;have hc7:=of_decide_eq_false hc7;refine wp_exit ?_;refine Xf ?_;refine Xf ?_;refine Xy ?_;refine hK3 _ _ ?_;refine Zs hf fun _ hK16=>?_;refine Za rfl ?_;refine Zt hK16 fun a hf=>?_
 refine wp_ret (X3 hf (Xq hf rfl rfl) ?_)
 have hb2:l.any q=false:=X2v (X24 hpre (by omega))
 exact ⟨_,rfl,by rw [hb2];rfl,hW⟩
theorem Xwb(w0:World)(Al:Option Addr)(cl:Nat)(l:List Int)(hr_l:Rd w0 w0.heap.size 3 encI Al l)(kq:FuncId)(pq:List Value)(Fq:FuncF Tryz.prog kq)(q:Int→Bool)(hq:∀ x w,Below w0.heap.size w0 w→Ret Tryz.prog kq ([vi x]++pq) w (fun v w'=>v=.bool (q x)∧Below w.heap.size w w'))(hln:l.length≤2305843009213693951) : Ret Tryz.prog 169 [.slice Al l.length cl,.func (.func kq) #[] pq.toArray] w0 (fun v w=>v=.bool (l.any q)∧Below w0.heap.size w0 w):=by
 refine enter Tryz.func169 rfl 9 rfl rfl ?_;intro a hf
 have hW:Below w0.heap.size w0 w0:=Below.refl _ _
 refine Zs hf fun _ hK2=>?_;refine Za rfl ?_;refine Zt hK2 fun a hf=>?_;refine Zs hf fun _ hK3=>?_;refine Zm rfl<|Zm rfl ?_;refine Zf (Vc (Xvv _ Al cl l (hr_l.below' hW).top kq pq Fq q (fun x w' hE'=>hq x w' (hW.trans (hE'.mono hW.size))) hln) Xrv) ?_;rintro _ w1 ⟨ix,rfl,hix,hE⟩;replace hW:=btr hW hE;refine Ze (Xde rfl rfl)<|Za rfl ?_;refine Zt hK3 fun a hf=>?_
 refine wp_ret (X3 hf (Xq hf rfl rfl) ?_)
 exact ⟨by rw [← hix],hW⟩
theorem Xwa(w0:World)(x:Int)(h:Gt)(ba:Nat)(hBa:Blk w0 ba 24 [vi h.k,vi h.a,vi h.b]) : Ret Tryz.prog 170 [vi x,.pointer (some ⟨ba,0,none⟩)] w0 (fun v w=>v=.bool ((qubI h).any fun y=>x==y)∧Below w0.heap.size w0 w):=by
 have hltba:=hBa.lt;refine enter Tryz.func170 rfl 8 rfl rfl ?_;intro a hf
 have hW:Below w0.heap.size w0 w0:=Below.refl _ _
 refine Zs hf fun _ hK1=>?_;refine Za rfl ?_;refine Zt hK1 fun a hf=>?_;refine Zs hf fun _ hK2=>?_;refine Ze (X09 (l:=[vi h.k,vi h.a,vi h.b]) rfl Xt (hBa.at 0) rfl) ?_;refine Zf (Vc (F96 _ h) Xao) ?_;rintro _ w1 ⟨A3,c3,rfl,ho3,hE⟩;replace ho3:=ho3.lower hW.size;replace hBa:=hBa.below hE;replace hW:=btr hW hE;refine Zm rfl ?_;refine Zf (Vc (Xv4 _ A3 c3 (qubI h) ho3.rd.top x (by have:=X2z h;omega)) Xqq) ?_;rintro _ w2 ⟨rfl,hE⟩;replace hBa:=hBa.below hE;replace ho3:=ho3.below hE;replace hW:=btr hW hE;refine Za rfl ?_;refine Zt hK2 fun a hf=>?_
 refine wp_ret (X3 hf (Xq hf rfl rfl) ?_)
 exact ⟨rfl,hW⟩
theorem Xqi(w0:World)(g:Gt)(h:Gt) : Ret Tryz.prog 121 [.agg #[vi g.k,vi g.a,vi g.b],.agg #[vi h.k,vi h.a,vi h.b]] w0 (fun v w=>v=.bool (comI g h)∧Below w0.heap.size w0 w):=by
 refine enter Tryz.func121 rfl 9 rfl rfl ?_;intro a hf
 have hW:Below w0.heap.size w0 w0:=Below.refl _ _
 refine Zs hf fun _ hK1=>?_;refine Zf (X0p (zs:=[vi g.k,vi g.a,vi g.b]) rfl rfl) ?_;rintro _ w1 ⟨b2,rfl,hl2,hE,hB2⟩;have hlo2:=Nat.le_trans hW.size hl2;replace hW:=btr hW hE;refine Zf (X0p (zs:=[vi h.k,vi h.a,vi h.b]) rfl rfl) ?_;rintro _ w2 ⟨b3,rfl,hl3,hE,hB3⟩
 have hne2_3:b2≠b3:=by have:=hB2.lt;omega
 have hlo3:=Nat.le_trans hW.size hl3;replace hB2:=hB2.below hE;replace hW:=btr hW hE;refine Za rfl ?_;refine Zt hK1 fun a hf=>?_;refine Zs hf fun _ hK4=>?_;refine Ze (Vn Xt hB2) ?_;refine Zf (Vc (F96 _ g) Xao) ?_;rintro _ w3 ⟨A5,c5,rfl,ho5,hE⟩;replace ho5:=ho5.lower hW.size;replace hB2:=hB2.below hE;replace hB3:=hB3.below hE;replace hW:=btr hW hE;refine Ze (X3n (vs:=[.pointer (some ⟨b3,0,none⟩)]) rfl) ?_;refine Zf (Vc (Xwb _ A5 c5 (qubI g) ho5.rd.top 170 [.pointer (some ⟨b3,0,none⟩)] Xqo (fun x=>(qubI h).any fun y=>x==y) (fun x w' hE'=>Xwa w' x h _ (hB3.below hE')) (by have:=X2z g;omega)) Xrb) ?_;rintro _ w4 ⟨rfl,hE⟩;replace hB2:=hB2.below hE;replace hB3:=hB3.below hE;replace ho5:=ho5.below hE;replace hW:=btr hW hE;refine Za rfl ?_;refine Zt hK4 fun a hf=>?_
 refine wp_ret (X3 hf (Xq hf rfl rfl) ?_)
 exact ⟨rfl,hW⟩
set_option maxHeartbeats 1000000
theorem Xup(w0:World)(g:Gt)(h:Gt)(n:Int)(hg:gOk n g=true)(hh:gOk n h=true) : Ret Tryz.prog 55 [.agg #[vi g.k,vi g.a,vi g.b],.agg #[vi h.k,vi h.a,vi h.b]] w0 (fun v w=>v=.bool (commS g h)∧Below w0.heap.size w0 w):=by
 have hql:=X2z g;have hqh:=X2z h;refine enter Tryz.func55 rfl 52 rfl rfl ?_;intro a hf
 have hW:Below w0.heap.size w0 w0:=Below.refl _ _
 refine Zs hf fun _ hK1=>?_;refine Zf (X0p (zs:=[vi g.k,vi g.a,vi g.b]) rfl rfl) ?_;rintro _ w1 ⟨b2,rfl,hl2,hE,hB2⟩;have hlo2:=Nat.le_trans hW.size hl2;replace hW:=btr hW hE;refine Zf (X0p (zs:=[vi h.k,vi h.a,vi h.b]) rfl rfl) ?_;rintro _ w2 ⟨b3,rfl,hl3,hE,hB3⟩
 have hne2_3:b2≠b3:=by have:=hB2.lt;omega
 have hlo3:=Nat.le_trans hW.size hl3;replace hB2:=hB2.below hE;replace hW:=btr hW hE;refine Za rfl ?_;refine Zt hK1 fun a hf=>?_;refine wp_seq_k fun _ hK4=>?_;refine Zs hf fun _ hK5=>?_;refine Ze (Vn Xt hB2)<|Ze (Vn Xt hB3) ?_;refine Zf (Vc (Xod _ g h) Xc6) ?_;rintro _ w3 ⟨rfl,hE⟩;replace hB2:=hB2.below hE;replace hB3:=hB3.below hE;replace hW:=btr hW hE;refine Ze (X16 rfl) ?_;refine Zt hK5 fun a hf=>?_
 refine Xe hf rfl (fun hc6=>?_) (fun hc6=>?_)
 ·have hc6b:=hc6
  have hfin:commS g h=true:=by rw [commS,if_neg];revert hc6;cases comS g h<;>simp
  refine Zs hf fun _ hK7=>?_;refine Za rfl ?_;refine Zt hK7 fun a hf=>?_;refine wp_ret ?_;refine X5 ?_;refine X3 hf (Xq hf rfl rfl) ?_;exact ⟨by rw [hfin],hW⟩
 have hc6b:=hc6
 have hc:comS g h=true:=by revert hc6;cases comS g h<;>simp
 refine wp_skip ?_;refine hK4 _ _ ?_;refine Zs hf fun _ hK8=>?_;refine Za rfl ?_;refine Zt hK8 fun a hf=>?_;refine wp_seq_k fun _ hK10=>?_;refine wp_seq_k fun _ hK11=>?_;refine X05 none (fun j=>[4].contains j) mixed ?_;intro w4 hE;replace hB2:=hB2.below hE;replace hB3:=hB3.below hE;replace hW:=btr hW hE;refine Yb hf ?_;refine Ye 0 rfl (Vn Xt hB2)<|Ye 2 rfl (Vn Xt hB3)<|Yo 6 rfl (fun _=>X2 rfl) ?_;refine Y1 1 ?_;refine Yk rfl trivial (Vc (Xmc _ g) Xbj) (fun _ _ ⟨A12,c12,_,ho12,hE⟩=>hE) ?_;rintro _ w5 ⟨A12,c12,rfl,ho12,hE⟩;replace ho12:=ho12.lower hW.size;replace hB2:=hB2.below hE;replace hB3:=hB3.below hE;replace hW:=btr hW hE;refine Y1 3 ?_;refine Yk rfl trivial (Vc (Xmc _ h) Xbj) (fun _ _ ⟨A13,c13,_,ho13,hE⟩=>hE) ?_;rintro _ w6 ⟨A13,c13,rfl,ho13,hE⟩;replace ho13:=ho13.lower hW.size;replace hB2:=hB2.below hE;replace hB3:=hB3.below hE;replace ho12:=ho12.below hE;replace hW:=btr hW hE;refine Y1 4 ?_;refine Yt rfl trivial rfl (X1h (enc:=encI) (l:=((qubI g))) (l2:=((qubI h))) (B0:=w0.heap.size) rfl rfl Xg X19 X6 X1n ho12 ho13.rd (by simp only [maxLen];omega) (by omega) hW.size) ?_;rintro _ w7 ⟨A14,c14,rfl,ho14,hg,hat⟩
 have hown:Own _ w0.heap.size 3 1 encI _ _ ((qubI g)):=ho12
 clear hat;replace hB2:=hB2.appT hown hg rfl;replace hB3:=hB3.appT hown hg rfl;replace hW:=Below.app hW hown hg (Nat.le_refl _) hW.size;clear hown hg;refine Yo 5 rfl (fun _=>X0y rfl Xg) ?_;refine Yd fun a hf=>?_;refine hK11 _ _ ?_;refine wp_block ?_;refine Xx (σ:=Nat×(List Int)) (fun (s:Nat×(List Int)) (a:Act) (w:World)=>match s with|(k,m)=>∃ A15 c15,Fr a 52 [(2,.pointer (some ⟨b2,0,none⟩)),(3,.pointer (some ⟨b3,0,none⟩)),(5,.slice A15 m.length c15),(19,.slice A14 ((qubI g)++(qubI h)).length c14),(20,vi (((qubI g)++(qubI h)).length:Int)),(21,vi (k:Int))]∧(k≤(qubI g++qubI h).length)∧(m=((qubI g++qubI h).take k).foldl putI [])∧Blk w b2 24 [vi g.k,vi g.a,vi g.b]∧Blk w b3 24 [vi h.k,vi h.a,vi h.b]∧Own w w0.heap.size 3 1 encI A15 c15 m∧Own w w0.heap.size 3 1 encI A14 c14 ((qubI g)++(qubI h))∧Below w0.heap.size w0 w) (fun (s:Nat×(List Int))=>match s with|(k,m)=>(qubI g++qubI h).length-k) (0,[]) ?_ ?_
 ·exact ⟨none,0,hf.sub ⟨rfl,rfl,rfl,rfl,rfl,rfl,trivial⟩,(Nat.zero_le _),rfl,hB2,hB3,(Own.nil _ _ _ _ _),ho14,hW⟩
 rintro ⟨k,m⟩ a w8 ⟨A15,c15,hf,hk,hm,hB2,hB3,ho15,ho14,hW⟩
 have hqq:(qubI g++qubI h).length≤4:=by rw [List.length_append];omega
 have hml:m.length≤4:=by have:=Xdf ((qubI g++qubI h).take k) [];rw [← hm,List.length_take] at this;simp only [List.length_nil] at this;omega
 refine Zs hf fun _ hK16=>?_;refine Ze (X0l rfl rfl) ?_;refine Zt hK16 fun a hf=>?_;refine wp_seq_k fun _ hK17=>?_
 refine Xe hf rfl (fun hc18=>?_) (fun hc18=>?_)
 ·have hc18b:=hc18;have hc18:=of_decide_eq_true hc18
  obtain ⟨u19,hu19⟩:=Xl (l:=((qubI g)++(qubI h))) (k:=k) (by omega)
  have hst:=Xf0 (f:=putI) (b:=[]) hu19;refine wp_skip ?_;refine hK17 _ _ ?_;refine wp_seq_k fun _ hK20=>?_;refine wp_block ?_;refine Zs hf fun _ hK21=>?_;refine Zi (k:=k) (u:=u19) (enc:=encI) (l:=(qubI g)++(qubI h)) trivial rfl rfl Xg X0h X6 ho14.rd hu19 rfl ?_;intro p23 hat22;refine Ze (X0 rfl X4 hat22)<|Za rfl ?_;refine Zt hK21 fun a hf=>?_;refine Zr hf ?_;refine Zm rfl<|Zm rfl ?_;refine Zf (Vc (Xv6 _ A15 c15 m ho15.rd.top u19 w0.heap.size ho15 hW.size (by omega)) Xrg) ?_;rintro _ w9 ⟨A24,c24,rfl,ho24,hE⟩;replace hB2:=hB2.below hE;replace hB3:=hB3.below hE;replace ho15:=ho15.below hE;replace ho14:=ho14.below hE;replace hW:=btr hW hE;refine Za rfl ?_;refine Zn fun a hf=>?_;refine Xd ?_;refine hK20 _ _ ?_;refine Zr hf ?_;refine Ze (Xp rfl rfl (by omega) (by omega))<|Zm rfl ?_;refine Zn fun a hf=>?_;refine Xc ?_;exact ⟨(k+1,(putI m u19)),⟨A24,c24,hf.sub ⟨rfl,rfl,rfl,rfl,rfl,rfl,trivial⟩,(by omega),(by rw [hst,← hm]),hB2,hB3,ho24,ho14,hW⟩,(by first|omega|(dsimp only;omega))⟩
 have hc18b:=hc18;have hc18:=of_decide_eq_false hc18
 have hU:unionS g h=m:=by rw [hm,List.take_of_length_le (by omega)];rfl
 have P:PairOk m g h:=X8n hg hh (X2d.1 hc) (hU▸X36 g h) (fun x=>by rw [← hU];exact X1u)
 have hlm:m.length≤2305843009213693951:=Nat.le_trans P.len (by decide)
 have hm1:=(X1d P.gs).2;have hm2:=(X1d P.hs).2;refine wp_exit ?_;refine Xf ?_;refine Xf ?_;refine Xy ?_;refine hK10 _ _ ?_;refine Zs hf fun _ hK25=>?_;refine Ze (Xz (ps:=[]) (cs:=[.bool false]) rfl (fun _=>by first|rfl|kernel_rfl)) ?_;refine Zf (X0p (zs:=[.bool false]) rfl rfl) ?_;rintro _ w10 ⟨b26,rfl,hl26,hE,hB26⟩;have hlo26:=Nat.le_trans hW.size hl26;replace hB2:=hB2.below hE;replace hB3:=hB3.below hE;replace ho15:=ho15.below hE;replace ho14:=ho14.below hE;replace hW:=btr hW hE;refine Za rfl ?_;refine Zt hK25 fun a hf=>?_;refine wp_seq_k fun _ hK27=>?_;refine X08 (fun a w=>∃ b31 b33 A28 c28 A29 c29,Fr a 52 [(8,.pointer (some ⟨b26,0,none⟩)),(9,.pointer (some ⟨b31,0,none⟩)),(10,.pointer (some ⟨b33,0,none⟩))]∧w0.heap.size≤b31∧Blk w b31 38 [vi ((gateS (m.length:Int) (smallG m g)).rows),vi ((gateS (m.length:Int) (smallG m g)).cols),.slice A28 ((gateS (m.length:Int) (smallG m g)).cells).length c28]∧w0.heap.size≤b33∧Blk w b33 38 [vi ((gateS (m.length:Int) (smallG m h)).rows),vi ((gateS (m.length:Int) (smallG m h)).cols),.slice A29 ((gateS (m.length:Int) (smallG m h)).cells).length c29]∧Own w w0.heap.size 98 5 encD A28 c28 ((gateS (m.length:Int) (smallG m g)).cells)∧Own w w0.heap.size 98 5 encD A29 c29 ((gateS (m.length:Int) (smallG m h)).cells)∧Below w10.heap.size w10 w) ?_ ?_
 ·have hEc:Below w10.heap.size w10 w10:=Below.refl _ _
  refine X05 none (fun j=>[14,15].contains j) mixed ?_;intro w11 hE;replace hB2:=hB2.below hE;replace hB3:=hB3.below hE;replace hB26:=hB26.below hE;replace ho15:=ho15.below hE;replace hW:=btr hW hE;replace hEc:=btr hEc hE;refine Yb hf ?_;refine Yo 0 rfl (fun _=>X2 rfl)<|Yo 1 rfl (fun _=>X0y rfl Xg)<|Ye 2 rfl (Vn Xt hB2)<|Yo 3 rfl (fun _=>X2 rfl)<|Yo 6 rfl (fun _=>X2 rfl) ?_;refine Yo 7 rfl (fun _=>X0y rfl Xg)<|Ye 8 rfl (Vn Xt hB3)<|Yo 9 rfl (fun _=>X2 rfl) ?_
  have hJc:Below w11.heap.size w11 w11:=Below.refl _ _
  refine Yc [0,1,2,3,4,5,6,7,8,9,10,11,12,13] 2 (fun a w=>∃ b31 b33 A28 c28 A29 c29,Fr a 52 [(8,.pointer (some ⟨b26,0,none⟩)),(9,.pointer (some ⟨b31,0,none⟩)),(10,.pointer (some ⟨b33,0,none⟩)),(36,.agg #[vi ((gateS (m.length:Int) (smallG m g)).rows),vi ((gateS (m.length:Int) (smallG m g)).cols),.slice A28 ((gateS (m.length:Int) (smallG m g)).cells).length c28]),(42,.agg #[vi ((gateS (m.length:Int) (smallG m h)).rows),vi ((gateS (m.length:Int) (smallG m h)).cols),.slice A29 ((gateS (m.length:Int) (smallG m h)).cells).length c29])]∧w0.heap.size≤b31∧Blk w b31 38 [vi 0,vi 0,.slice none 0 0]∧w0.heap.size≤b33∧Blk w b33 38 [vi 0,vi 0,.slice none 0 0]∧b31≠b33∧w11.heap.size≤b31∧w10.heap.size≤b31∧w11.heap.size≤b33∧w10.heap.size≤b33∧Own w w0.heap.size 98 5 encD A28 c28 ((gateS (m.length:Int) (smallG m g)).cells)∧Own w w0.heap.size 98 5 encD A29 c29 ((gateS (m.length:Int) (smallG m h)).cells)∧Below w11.heap.size w11 w) ?_ ?_
  ·rintro a w12 ⟨b31,b33,A28,c28,A29,c29,hf,hlo31,hB31,hlo33,hB33,hne31_33,hlj31,hlc31,hlj33,hlc33,ho28,ho29,hE⟩;clear hJc;have hJc:=hE;replace hB2:=hB2.below hE;replace hB3:=hB3.below hE;replace hB26:=hB26.below hE;replace ho15:=ho15.below hE;replace hW:=btr hW hE;replace hEc:=btr hEc hE;refine Yb hf ?_;refine Y1 14 ?_;refine Yh rfl trivial rfl (Vw [vi ((gateS (m.length:Int) (smallG m g)).rows),vi ((gateS (m.length:Int) (smallG m g)).cols),.slice A28 ((gateS (m.length:Int) (smallG m g)).cells).length c28] X1j hB31) ?_;rintro _ w13 ⟨ho,hb⟩;have hold:=hB31;replace hB2:=hB2.only ho (Blk.ne hB2 hold rfl);replace hB3:=hB3.only ho (Blk.ne hB3 hold rfl);replace hB26:=hB26.only ho (Blk.ne hB26 hold rfl);replace hB33:=hB33.only ho (by omega);replace ho15:=ho15.onlyT ho hold rfl;replace ho28:=ho28.onlyT ho hold rfl;replace ho29:=ho29.onlyT ho hold rfl;replace hEc:=Below.only hEc ho hlc31;replace hJc:=Below.only hJc ho hlj31;replace hW:=Below.only hW ho hlo31;clear hold;have hB31:=hb;clear hb ho;refine Y1 15 ?_;refine Yh rfl trivial rfl (Vw [vi ((gateS (m.length:Int) (smallG m h)).rows),vi ((gateS (m.length:Int) (smallG m h)).cols),.slice A29 ((gateS (m.length:Int) (smallG m h)).cells).length c29] X1j hB33) ?_;rintro _ w14 ⟨ho,hb⟩;have hold:=hB33;replace hB2:=hB2.only ho (Blk.ne hB2 hold rfl);replace hB3:=hB3.only ho (Blk.ne hB3 hold rfl);replace hB26:=hB26.only ho (Blk.ne hB26 hold rfl);replace hB31:=hB31.only ho (by omega);replace ho15:=ho15.onlyT ho hold rfl;replace ho28:=ho28.onlyT ho hold rfl;replace ho29:=ho29.onlyT ho hold rfl;replace hEc:=Below.only hEc ho hlc33;replace hJc:=Below.only hJc ho hlj33;replace hW:=Below.only hW ho hlo33;clear hold;have hB33:=hb;clear hb ho;refine Yd fun a hf=>?_
   have hEE:Below w10.heap.size w10 w14:=hEc
   exact ⟨b31,b33,A28,c28,A29,c29,hf.sub ⟨rfl,rfl,rfl,trivial⟩,hlo31,hB31,hlo33,hB33,ho28,ho29,hEE⟩
  intro hJ28;refine Yc [0,1,2,3,4,5,6,7,8,9,10,11,12] 3 (fun a w=>∃ b31 A28 c28 A29 c29,Fr a 52 [(8,.pointer (some ⟨b26,0,none⟩)),(9,.pointer (some ⟨b31,0,none⟩)),(36,.agg #[vi ((gateS (m.length:Int) (smallG m g)).rows),vi ((gateS (m.length:Int) (smallG m g)).cols),.slice A28 ((gateS (m.length:Int) (smallG m g)).cells).length c28]),(42,.agg #[vi ((gateS (m.length:Int) (smallG m h)).rows),vi ((gateS (m.length:Int) (smallG m h)).cols),.slice A29 ((gateS (m.length:Int) (smallG m h)).cells).length c29])]∧w0.heap.size≤b31∧Blk w b31 38 [vi 0,vi 0,.slice none 0 0]∧w11.heap.size≤b31∧w10.heap.size≤b31∧Own w w0.heap.size 98 5 encD A28 c28 ((gateS (m.length:Int) (smallG m g)).cells)∧Own w w0.heap.size 98 5 encD A29 c29 ((gateS (m.length:Int) (smallG m h)).cells)∧Below w11.heap.size w11 w) ?_ ?_
  ·rintro a w15 ⟨b31,A28,c28,A29,c29,hf,hlo31,hB31,hlj31,hlc31,ho28,ho29,hE⟩;clear hJc;have hJc:=hE;replace hB2:=hB2.below hE;replace hB3:=hB3.below hE;replace hB26:=hB26.below hE;replace ho15:=ho15.below hE;replace hW:=btr hW hE;replace hEc:=btr hEc hE;refine Yb hf ?_;refine Y1 13 ?_;refine Yk rfl trivial (Xa (zs:=[vi 0,vi 0,.slice none 0 0]) X1a rfl) (fun _ _ ⟨_,_,_,h,_⟩=>h) ?_;rintro _ w16 ⟨b33,rfl,hl33,hE,hB33⟩
   have hne31_33:b31≠b33:=by have:=hB31.lt;omega
   have hlo33:=Nat.le_trans hW.size hl33;have hlc33:=Nat.le_trans hEc.size hl33;have hlj33:=Nat.le_trans hJc.size hl33;replace hB2:=hB2.below hE;replace hB3:=hB3.below hE;replace hB26:=hB26.below hE;replace hB31:=hB31.below hE;replace ho15:=ho15.below hE;replace ho28:=ho28.below hE;replace ho29:=ho29.below hE;replace hW:=btr hW hE;replace hEc:=btr hEc hE;replace hJc:=btr hJc hE;exact fun a hf=>hJ28 _ a _ rfl ⟨b31,b33,A28,c28,A29,c29,hf.sub ⟨rfl,rfl,rfl,rfl,rfl,trivial⟩,hlo31,hB31,hlo33,hB33,hne31_33,hlj31,hlc31,hlj33,hlc33,ho28,ho29,hJc⟩
  intro hJ30;refine Yc [0,1,2,3,4,5,6,7,8,9,10,11,13] 3 (fun a w=>∃ b35 A28 c28 A29 c29,Fr a 52 [(8,.pointer (some ⟨b26,0,none⟩)),(10,.pointer (some ⟨b35,0,none⟩)),(36,.agg #[vi ((gateS (m.length:Int) (smallG m g)).rows),vi ((gateS (m.length:Int) (smallG m g)).cols),.slice A28 ((gateS (m.length:Int) (smallG m g)).cells).length c28]),(42,.agg #[vi ((gateS (m.length:Int) (smallG m h)).rows),vi ((gateS (m.length:Int) (smallG m h)).cols),.slice A29 ((gateS (m.length:Int) (smallG m h)).cells).length c29])]∧w0.heap.size≤b35∧Blk w b35 38 [vi 0,vi 0,.slice none 0 0]∧w11.heap.size≤b35∧w10.heap.size≤b35∧Own w w0.heap.size 98 5 encD A28 c28 ((gateS (m.length:Int) (smallG m g)).cells)∧Own w w0.heap.size 98 5 encD A29 c29 ((gateS (m.length:Int) (smallG m h)).cells)∧Below w11.heap.size w11 w) ?_ ?_
  ·rintro a w17 ⟨b35,A28,c28,A29,c29,hf,hlo35,hB35,hlj35,hlc35,ho28,ho29,hE⟩;clear hJc;have hJc:=hE;replace hB2:=hB2.below hE;replace hB3:=hB3.below hE;replace hB26:=hB26.below hE;replace ho15:=ho15.below hE;replace hW:=btr hW hE;replace hEc:=btr hEc hE;refine Yb hf ?_;refine Y1 12 ?_;refine Yk rfl trivial (Xa (zs:=[vi 0,vi 0,.slice none 0 0]) X1a rfl) (fun _ _ ⟨_,_,_,h,_⟩=>h) ?_;rintro _ w18 ⟨b37,rfl,hl37,hE,hB37⟩
   have hne35_37:b35≠b37:=by have:=hB35.lt;omega
   have hlo37:=Nat.le_trans hW.size hl37;have hlc37:=Nat.le_trans hEc.size hl37;have hlj37:=Nat.le_trans hJc.size hl37;replace hB2:=hB2.below hE;replace hB3:=hB3.below hE;replace hB26:=hB26.below hE;replace hB35:=hB35.below hE;replace ho15:=ho15.below hE;replace ho28:=ho28.below hE;replace ho29:=ho29.below hE;replace hW:=btr hW hE;replace hEc:=btr hEc hE;replace hJc:=btr hJc hE;exact fun a hf=>hJ28 _ a _ rfl ⟨b37,b35,A28,c28,A29,c29,hf.sub ⟨rfl,rfl,rfl,rfl,rfl,trivial⟩,hlo37,hB37,hlo35,hB35,(Ne.symm hne35_37),hlj37,hlc37,hlj35,hlc35,ho28,ho29,hJc⟩
  intro hJ34;refine Yc [0,1,2,3,4,5,6,7,8,9,10,12,13] 3 (fun a w=>∃ b39 b42 A28 c28,Fr a 52 [(8,.pointer (some ⟨b26,0,none⟩)),(9,.pointer (some ⟨b39,0,none⟩)),(10,.pointer (some ⟨b42,0,none⟩)),(36,.agg #[vi ((gateS (m.length:Int) (smallG m g)).rows),vi ((gateS (m.length:Int) (smallG m g)).cols),.slice A28 ((gateS (m.length:Int) (smallG m g)).cells).length c28]),(38,vi (m.length:Int)),(41,.agg #[vi ((smallG m h).k),vi ((smallG m h).a),vi ((smallG m h).b)])]∧w0.heap.size≤b39∧Blk w b39 38 [vi 0,vi 0,.slice none 0 0]∧w0.heap.size≤b42∧Blk w b42 38 [vi 0,vi 0,.slice none 0 0]∧b39≠b42∧w11.heap.size≤b39∧w10.heap.size≤b39∧w11.heap.size≤b42∧w10.heap.size≤b42∧Own w w0.heap.size 98 5 encD A28 c28 ((gateS (m.length:Int) (smallG m g)).cells)∧Below w11.heap.size w11 w) ?_ ?_
  ·rintro a w19 ⟨b39,b42,A28,c28,hf,hlo39,hB39,hlo42,hB42,hne39_42,hlj39,hlc39,hlj42,hlc42,ho28,hE⟩;clear hJc;have hJc:=hE;replace hB2:=hB2.below hE;replace hB3:=hB3.below hE;replace hB26:=hB26.below hE;replace ho15:=ho15.below hE;replace hW:=btr hW hE;replace hEc:=btr hEc hE;refine Yb hf ?_;refine Y1 11 ?_;refine Yk rfl trivial (Vc (Xei _ (m.length:Int) (smallG m h) P.hs) X57) (fun _ _ ⟨A40,c40,_,ho40,hE⟩=>hE) ?_;rintro _ w20 ⟨A40,c40,rfl,ho40,hE⟩;replace ho40:=ho40.lower hW.size;replace hB2:=hB2.below hE;replace hB3:=hB3.below hE;replace hB26:=hB26.below hE;replace hB39:=hB39.below hE;replace hB42:=hB42.below hE;replace ho15:=ho15.below hE;replace ho28:=ho28.below hE;replace hW:=btr hW hE;replace hEc:=btr hEc hE;replace hJc:=btr hJc hE;exact fun a hf=>hJ28 _ a _ rfl ⟨b39,b42,A28,c28,A40,c40,hf.sub ⟨rfl,rfl,rfl,rfl,rfl,trivial⟩,hlo39,hB39,hlo42,hB42,hne39_42,hlj39,hlc39,hlj42,hlc42,ho28,ho40,hJc⟩
  intro hJ38;refine Yc [0,1,2,3,4,5,6,7,8,9,10,12] 4 (fun a w=>∃ b39 A28 c28,Fr a 52 [(8,.pointer (some ⟨b26,0,none⟩)),(9,.pointer (some ⟨b39,0,none⟩)),(36,.agg #[vi ((gateS (m.length:Int) (smallG m g)).rows),vi ((gateS (m.length:Int) (smallG m g)).cols),.slice A28 ((gateS (m.length:Int) (smallG m g)).cells).length c28]),(38,vi (m.length:Int)),(41,.agg #[vi ((smallG m h).k),vi ((smallG m h).a),vi ((smallG m h).b)])]∧w0.heap.size≤b39∧Blk w b39 38 [vi 0,vi 0,.slice none 0 0]∧w11.heap.size≤b39∧w10.heap.size≤b39∧Own w w0.heap.size 98 5 encD A28 c28 ((gateS (m.length:Int) (smallG m g)).cells)∧Below w11.heap.size w11 w) ?_ ?_
  ·rintro a w21 ⟨b39,A28,c28,hf,hlo39,hB39,hlj39,hlc39,ho28,hE⟩;clear hJc;have hJc:=hE;replace hB2:=hB2.below hE;replace hB3:=hB3.below hE;replace hB26:=hB26.below hE;replace ho15:=ho15.below hE;replace hW:=btr hW hE;replace hEc:=btr hEc hE;refine Yb hf ?_;refine Y2 11 13 ?_ ?_
   ·refine Yk rfl trivial (Vc (Xei _ (m.length:Int) (smallG m h) P.hs) X57) (fun _ _ ⟨A43,c43,_,ho43,hE⟩=>hE) ?_;rintro _ w22 ⟨A43,c43,rfl,ho43,hE⟩;replace ho43:=ho43.lower hW.size;replace hB2:=hB2.below hE;replace hB3:=hB3.below hE;replace hB26:=hB26.below hE;replace hB39:=hB39.below hE;replace ho15:=ho15.below hE;replace ho28:=ho28.below hE;replace hW:=btr hW hE;replace hEc:=btr hEc hE;replace hJc:=btr hJc hE;exact fun a hf=>hJ30 _ a _ rfl ⟨b39,A28,c28,A43,c43,hf.sub ⟨rfl,rfl,rfl,rfl,trivial⟩,hlo39,hB39,hlj39,hlc39,ho28,ho43,hJc⟩
   refine Yk rfl trivial (Xa (zs:=[vi 0,vi 0,.slice none 0 0]) X1a rfl) (fun _ _ ⟨_,_,_,h,_⟩=>h) ?_;rintro _ w23 ⟨b45,rfl,hl45,hE,hB45⟩
   have hne39_45:b39≠b45:=by have:=hB39.lt;omega
   have hlo45:=Nat.le_trans hW.size hl45;have hlc45:=Nat.le_trans hEc.size hl45;have hlj45:=Nat.le_trans hJc.size hl45;replace hB2:=hB2.below hE;replace hB3:=hB3.below hE;replace hB26:=hB26.below hE;replace hB39:=hB39.below hE;replace ho15:=ho15.below hE;replace ho28:=ho28.below hE;replace hW:=btr hW hE;replace hEc:=btr hEc hE;replace hJc:=btr hJc hE;exact fun a hf=>hJ38 _ a _ rfl ⟨b39,b45,A28,c28,hf.sub ⟨rfl,rfl,rfl,rfl,rfl,rfl,trivial⟩,hlo39,hB39,hlo45,hB45,hne39_45,hlj39,hlc39,hlj45,hlc45,ho28,hJc⟩
  intro hJ41;refine Yc [0,1,2,3,4,5,6,7,8,9,10,13] 4 (fun a w=>∃ b45 A28 c28,Fr a 52 [(8,.pointer (some ⟨b26,0,none⟩)),(10,.pointer (some ⟨b45,0,none⟩)),(36,.agg #[vi ((gateS (m.length:Int) (smallG m g)).rows),vi ((gateS (m.length:Int) (smallG m g)).cols),.slice A28 ((gateS (m.length:Int) (smallG m g)).cells).length c28]),(38,vi (m.length:Int)),(41,.agg #[vi ((smallG m h).k),vi ((smallG m h).a),vi ((smallG m h).b)])]∧w0.heap.size≤b45∧Blk w b45 38 [vi 0,vi 0,.slice none 0 0]∧w11.heap.size≤b45∧w10.heap.size≤b45∧Own w w0.heap.size 98 5 encD A28 c28 ((gateS (m.length:Int) (smallG m g)).cells)∧Below w11.heap.size w11 w) ?_ ?_
  ·rintro a w24 ⟨b45,A28,c28,hf,hlo45,hB45,hlj45,hlc45,ho28,hE⟩;clear hJc;have hJc:=hE;replace hB2:=hB2.below hE;replace hB3:=hB3.below hE;replace hB26:=hB26.below hE;replace ho15:=ho15.below hE;replace hW:=btr hW hE;replace hEc:=btr hEc hE;refine Yb hf ?_;refine Y2 11 12 ?_ ?_
   ·refine Yk rfl trivial (Vc (Xei _ (m.length:Int) (smallG m h) P.hs) X57) (fun _ _ ⟨A48,c48,_,ho48,hE⟩=>hE) ?_;rintro _ w25 ⟨A48,c48,rfl,ho48,hE⟩;replace ho48:=ho48.lower hW.size;replace hB2:=hB2.below hE;replace hB3:=hB3.below hE;replace hB26:=hB26.below hE;replace hB45:=hB45.below hE;replace ho15:=ho15.below hE;replace ho28:=ho28.below hE;replace hW:=btr hW hE;replace hEc:=btr hEc hE;replace hJc:=btr hJc hE;exact fun a hf=>hJ34 _ a _ rfl ⟨b45,A28,c28,A48,c48,hf.sub ⟨rfl,rfl,rfl,rfl,trivial⟩,hlo45,hB45,hlj45,hlc45,ho28,ho48,hJc⟩
   refine Yk rfl trivial (Xa (zs:=[vi 0,vi 0,.slice none 0 0]) X1a rfl) (fun _ _ ⟨_,_,_,h,_⟩=>h) ?_;rintro _ w26 ⟨b50,rfl,hl50,hE,hB50⟩
   have hne45_50:b45≠b50:=by have:=hB45.lt;omega
   have hlo50:=Nat.le_trans hW.size hl50;have hlc50:=Nat.le_trans hEc.size hl50;have hlj50:=Nat.le_trans hJc.size hl50;replace hB2:=hB2.below hE;replace hB3:=hB3.below hE;replace hB26:=hB26.below hE;replace hB45:=hB45.below hE;replace ho15:=ho15.below hE;replace ho28:=ho28.below hE;replace hW:=btr hW hE;replace hEc:=btr hEc hE;replace hJc:=btr hJc hE;exact fun a hf=>hJ38 _ a _ rfl ⟨b50,b45,A28,c28,hf.sub ⟨rfl,rfl,rfl,rfl,rfl,rfl,trivial⟩,hlo50,hB50,hlo45,hB45,(Ne.symm hne45_50),hlj50,hlc50,hlj45,hlc45,ho28,hJc⟩
  intro hJ46;refine Yc [0,1,2,3,4,5,6,7,8,9,12,13] 4 (fun a w=>∃ b50 b52 A28 c28,Fr a 52 [(8,.pointer (some ⟨b26,0,none⟩)),(9,.pointer (some ⟨b50,0,none⟩)),(10,.pointer (some ⟨b52,0,none⟩)),(36,.agg #[vi ((gateS (m.length:Int) (smallG m g)).rows),vi ((gateS (m.length:Int) (smallG m g)).cols),.slice A28 ((gateS (m.length:Int) (smallG m g)).cells).length c28]),(38,vi (m.length:Int)),(39,.agg #[vi h.k,vi h.a,vi h.b]),(40,.slice A15 m.length c15)]∧w0.heap.size≤b50∧Blk w b50 38 [vi 0,vi 0,.slice none 0 0]∧w0.heap.size≤b52∧Blk w b52 38 [vi 0,vi 0,.slice none 0 0]∧b50≠b52∧w11.heap.size≤b50∧w10.heap.size≤b50∧w11.heap.size≤b52∧w10.heap.size≤b52∧Own w w0.heap.size 98 5 encD A28 c28 ((gateS (m.length:Int) (smallG m g)).cells)∧Below w11.heap.size w11 w) ?_ ?_
  ·rintro a w27 ⟨b50,b52,A28,c28,hf,hlo50,hB50,hlo52,hB52,hne50_52,hlj50,hlc50,hlj52,hlc52,ho28,hE⟩;clear hJc;have hJc:=hE;replace hB2:=hB2.below hE;replace hB3:=hB3.below hE;replace hB26:=hB26.below hE;replace ho15:=ho15.below hE;replace hW:=btr hW hE;replace hEc:=btr hEc hE;refine Yb hf ?_;refine Y1 10 ?_;refine Yk rfl trivial (Vc (Xdr _ h A15 c15 m ho15.rd.top P.hk P.ha P.inc P.hb hlm) X5a) (fun _ _ ⟨_,hE⟩=>hE) ?_;rintro _ w28 ⟨rfl,hE⟩;replace hB2:=hB2.below hE;replace hB3:=hB3.below hE;replace hB26:=hB26.below hE;replace hB50:=hB50.below hE;replace hB52:=hB52.below hE;replace ho15:=ho15.below hE;replace ho28:=ho28.below hE;replace hW:=btr hW hE;replace hEc:=btr hEc hE;replace hJc:=btr hJc hE;exact fun a hf=>hJ38 _ a _ rfl ⟨b50,b52,A28,c28,hf.sub ⟨rfl,rfl,rfl,rfl,rfl,rfl,trivial⟩,hlo50,hB50,hlo52,hB52,hne50_52,hlj50,hlc50,hlj52,hlc52,ho28,hJc⟩
  intro hJ51;refine Yc [0,1,2,3,4,5,6,7,8,9,12] 5 (fun a w=>∃ b50 A28 c28,Fr a 52 [(8,.pointer (some ⟨b26,0,none⟩)),(9,.pointer (some ⟨b50,0,none⟩)),(36,.agg #[vi ((gateS (m.length:Int) (smallG m g)).rows),vi ((gateS (m.length:Int) (smallG m g)).cols),.slice A28 ((gateS (m.length:Int) (smallG m g)).cells).length c28]),(38,vi (m.length:Int)),(39,.agg #[vi h.k,vi h.a,vi h.b]),(40,.slice A15 m.length c15)]∧w0.heap.size≤b50∧Blk w b50 38 [vi 0,vi 0,.slice none 0 0]∧w11.heap.size≤b50∧w10.heap.size≤b50∧Own w w0.heap.size 98 5 encD A28 c28 ((gateS (m.length:Int) (smallG m g)).cells)∧Below w11.heap.size w11 w) ?_ ?_
  ·rintro a w29 ⟨b50,A28,c28,hf,hlo50,hB50,hlj50,hlc50,ho28,hE⟩;clear hJc;have hJc:=hE;replace hB2:=hB2.below hE;replace hB3:=hB3.below hE;replace hB26:=hB26.below hE;replace ho15:=ho15.below hE;replace hW:=btr hW hE;replace hEc:=btr hEc hE;refine Yb hf ?_;refine Y2 10 13 ?_ ?_
   ·refine Yk rfl trivial (Vc (Xdr _ h A15 c15 m ho15.rd.top P.hk P.ha P.inc P.hb hlm) X5a) (fun _ _ ⟨_,hE⟩=>hE) ?_;rintro _ w30 ⟨rfl,hE⟩;replace hB2:=hB2.below hE;replace hB3:=hB3.below hE;replace hB26:=hB26.below hE;replace hB50:=hB50.below hE;replace ho15:=ho15.below hE;replace ho28:=ho28.below hE;replace hW:=btr hW hE;replace hEc:=btr hEc hE;replace hJc:=btr hJc hE;exact fun a hf=>hJ41 _ a _ rfl ⟨b50,A28,c28,hf.sub ⟨rfl,rfl,rfl,rfl,rfl,trivial⟩,hlo50,hB50,hlj50,hlc50,ho28,hJc⟩
   refine Yk rfl trivial (Xa (zs:=[vi 0,vi 0,.slice none 0 0]) X1a rfl) (fun _ _ ⟨_,_,_,h,_⟩=>h) ?_;rintro _ w31 ⟨b56,rfl,hl56,hE,hB56⟩
   have hne50_56:b50≠b56:=by have:=hB50.lt;omega
   have hlo56:=Nat.le_trans hW.size hl56;have hlc56:=Nat.le_trans hEc.size hl56;have hlj56:=Nat.le_trans hJc.size hl56;replace hB2:=hB2.below hE;replace hB3:=hB3.below hE;replace hB26:=hB26.below hE;replace hB50:=hB50.below hE;replace ho15:=ho15.below hE;replace ho28:=ho28.below hE;replace hW:=btr hW hE;replace hEc:=btr hEc hE;replace hJc:=btr hJc hE;exact fun a hf=>hJ51 _ a _ rfl ⟨b50,b56,A28,c28,hf.sub ⟨rfl,rfl,rfl,rfl,rfl,rfl,rfl,trivial⟩,hlo50,hB50,hlo56,hB56,hne50_56,hlj50,hlc50,hlj56,hlc56,ho28,hJc⟩
  intro hJ53;refine Yc [0,1,2,3,4,5,6,7,8,9,13] 5 (fun a w=>∃ b54 A28 c28,Fr a 52 [(8,.pointer (some ⟨b26,0,none⟩)),(10,.pointer (some ⟨b54,0,none⟩)),(36,.agg #[vi ((gateS (m.length:Int) (smallG m g)).rows),vi ((gateS (m.length:Int) (smallG m g)).cols),.slice A28 ((gateS (m.length:Int) (smallG m g)).cells).length c28]),(38,vi (m.length:Int)),(39,.agg #[vi h.k,vi h.a,vi h.b]),(40,.slice A15 m.length c15)]∧w0.heap.size≤b54∧Blk w b54 38 [vi 0,vi 0,.slice none 0 0]∧w11.heap.size≤b54∧w10.heap.size≤b54∧Own w w0.heap.size 98 5 encD A28 c28 ((gateS (m.length:Int) (smallG m g)).cells)∧Below w11.heap.size w11 w) ?_ ?_
  ·rintro a w32 ⟨b54,A28,c28,hf,hlo54,hB54,hlj54,hlc54,ho28,hE⟩;clear hJc;have hJc:=hE;replace hB2:=hB2.below hE;replace hB3:=hB3.below hE;replace hB26:=hB26.below hE;replace ho15:=ho15.below hE;replace hW:=btr hW hE;replace hEc:=btr hEc hE;refine Yb hf ?_;refine Y2 10 12 ?_ ?_
   ·refine Yk rfl trivial (Vc (Xdr _ h A15 c15 m ho15.rd.top P.hk P.ha P.inc P.hb hlm) X5a) (fun _ _ ⟨_,hE⟩=>hE) ?_;rintro _ w33 ⟨rfl,hE⟩;replace hB2:=hB2.below hE;replace hB3:=hB3.below hE;replace hB26:=hB26.below hE;replace hB54:=hB54.below hE;replace ho15:=ho15.below hE;replace ho28:=ho28.below hE;replace hW:=btr hW hE;replace hEc:=btr hEc hE;replace hJc:=btr hJc hE;exact fun a hf=>hJ46 _ a _ rfl ⟨b54,A28,c28,hf.sub ⟨rfl,rfl,rfl,rfl,rfl,trivial⟩,hlo54,hB54,hlj54,hlc54,ho28,hJc⟩
   refine Yk rfl trivial (Xa (zs:=[vi 0,vi 0,.slice none 0 0]) X1a rfl) (fun _ _ ⟨_,_,_,h,_⟩=>h) ?_;rintro _ w34 ⟨b60,rfl,hl60,hE,hB60⟩
   have hne54_60:b54≠b60:=by have:=hB54.lt;omega
   have hlo60:=Nat.le_trans hW.size hl60;have hlc60:=Nat.le_trans hEc.size hl60;have hlj60:=Nat.le_trans hJc.size hl60;replace hB2:=hB2.below hE;replace hB3:=hB3.below hE;replace hB26:=hB26.below hE;replace hB54:=hB54.below hE;replace ho15:=ho15.below hE;replace ho28:=ho28.below hE;replace hW:=btr hW hE;replace hEc:=btr hEc hE;replace hJc:=btr hJc hE;exact fun a hf=>hJ51 _ a _ rfl ⟨b60,b54,A28,c28,hf.sub ⟨rfl,rfl,rfl,rfl,rfl,rfl,rfl,trivial⟩,hlo60,hB60,hlo54,hB54,(Ne.symm hne54_60),hlj60,hlc60,hlj54,hlc54,ho28,hJc⟩
  intro hJ57;refine Yc [0,1,2,3,4,6,7,8,9,12,13] 5 (fun a w=>∃ b58 b61,Fr a 52 [(8,.pointer (some ⟨b26,0,none⟩)),(9,.pointer (some ⟨b58,0,none⟩)),(10,.pointer (some ⟨b61,0,none⟩)),(32,vi (m.length:Int)),(35,.agg #[vi ((smallG m g).k),vi ((smallG m g).a),vi ((smallG m g).b)]),(38,vi (m.length:Int)),(39,.agg #[vi h.k,vi h.a,vi h.b]),(40,.slice A15 m.length c15)]∧w0.heap.size≤b58∧Blk w b58 38 [vi 0,vi 0,.slice none 0 0]∧w0.heap.size≤b61∧Blk w b61 38 [vi 0,vi 0,.slice none 0 0]∧b58≠b61∧w11.heap.size≤b58∧w10.heap.size≤b58∧w11.heap.size≤b61∧w10.heap.size≤b61∧Below w11.heap.size w11 w) ?_ ?_
  ·rintro a w35 ⟨b58,b61,hf,hlo58,hB58,hlo61,hB61,hne58_61,hlj58,hlc58,hlj61,hlc61,hE⟩;clear hJc;have hJc:=hE;replace hB2:=hB2.below hE;replace hB3:=hB3.below hE;replace hB26:=hB26.below hE;replace ho15:=ho15.below hE;replace hW:=btr hW hE;replace hEc:=btr hEc hE;refine Yb hf ?_;refine Y1 5 ?_;refine Yk rfl trivial (Vc (Xei _ (m.length:Int) (smallG m g) P.gs) X57) (fun _ _ ⟨A63,c63,_,ho63,hE⟩=>hE) ?_;rintro _ w36 ⟨A63,c63,rfl,ho63,hE⟩;replace ho63:=ho63.lower hW.size;replace hB2:=hB2.below hE;replace hB3:=hB3.below hE;replace hB26:=hB26.below hE;replace hB58:=hB58.below hE;replace hB61:=hB61.below hE;replace ho15:=ho15.below hE;replace hW:=btr hW hE;replace hEc:=btr hEc hE;replace hJc:=btr hJc hE;exact fun a hf=>hJ51 _ a _ rfl ⟨b58,b61,A63,c63,hf.sub ⟨rfl,rfl,rfl,rfl,rfl,rfl,rfl,trivial⟩,hlo58,hB58,hlo61,hB61,hne58_61,hlj58,hlc58,hlj61,hlc61,ho63,hJc⟩
  intro hJ61;refine Yc [0,1,2,3,4,6,7,8,9,12] 6 (fun a w=>∃ b58,Fr a 52 [(8,.pointer (some ⟨b26,0,none⟩)),(9,.pointer (some ⟨b58,0,none⟩)),(32,vi (m.length:Int)),(35,.agg #[vi ((smallG m g).k),vi ((smallG m g).a),vi ((smallG m g).b)]),(38,vi (m.length:Int)),(39,.agg #[vi h.k,vi h.a,vi h.b]),(40,.slice A15 m.length c15)]∧w0.heap.size≤b58∧Blk w b58 38 [vi 0,vi 0,.slice none 0 0]∧w11.heap.size≤b58∧w10.heap.size≤b58∧Below w11.heap.size w11 w) ?_ ?_
  ·rintro a w37 ⟨b58,hf,hlo58,hB58,hlj58,hlc58,hE⟩;clear hJc;have hJc:=hE;replace hB2:=hB2.below hE;replace hB3:=hB3.below hE;replace hB26:=hB26.below hE;replace ho15:=ho15.below hE;replace hW:=btr hW hE;replace hEc:=btr hEc hE;refine Yb hf ?_;refine Y2 5 13 ?_ ?_
   ·refine Yk rfl trivial (Vc (Xei _ (m.length:Int) (smallG m g) P.gs) X57) (fun _ _ ⟨A66,c66,_,ho66,hE⟩=>hE) ?_;rintro _ w38 ⟨A66,c66,rfl,ho66,hE⟩;replace ho66:=ho66.lower hW.size;replace hB2:=hB2.below hE;replace hB3:=hB3.below hE;replace hB26:=hB26.below hE;replace hB58:=hB58.below hE;replace ho15:=ho15.below hE;replace hW:=btr hW hE;replace hEc:=btr hEc hE;replace hJc:=btr hJc hE;exact fun a hf=>hJ53 _ a _ rfl ⟨b58,A66,c66,hf.sub ⟨rfl,rfl,rfl,rfl,rfl,rfl,trivial⟩,hlo58,hB58,hlj58,hlc58,ho66,hJc⟩
   refine Yk rfl trivial (Xa (zs:=[vi 0,vi 0,.slice none 0 0]) X1a rfl) (fun _ _ ⟨_,_,_,h,_⟩=>h) ?_;rintro _ w39 ⟨b68,rfl,hl68,hE,hB68⟩
   have hne58_68:b58≠b68:=by have:=hB58.lt;omega
   have hlo68:=Nat.le_trans hW.size hl68;have hlc68:=Nat.le_trans hEc.size hl68;have hlj68:=Nat.le_trans hJc.size hl68;replace hB2:=hB2.below hE;replace hB3:=hB3.below hE;replace hB26:=hB26.below hE;replace hB58:=hB58.below hE;replace ho15:=ho15.below hE;replace hW:=btr hW hE;replace hEc:=btr hEc hE;replace hJc:=btr hJc hE;exact fun a hf=>hJ61 _ a _ rfl ⟨b58,b68,hf.sub ⟨rfl,rfl,rfl,rfl,rfl,rfl,rfl,rfl,trivial⟩,hlo58,hB58,hlo68,hB68,hne58_68,hlj58,hlc58,hlj68,hlc68,hJc⟩
  intro hJ64;refine Yc [0,1,2,3,4,6,7,8,9,13] 6 (fun a w=>∃ b64,Fr a 52 [(8,.pointer (some ⟨b26,0,none⟩)),(10,.pointer (some ⟨b64,0,none⟩)),(32,vi (m.length:Int)),(35,.agg #[vi ((smallG m g).k),vi ((smallG m g).a),vi ((smallG m g).b)]),(38,vi (m.length:Int)),(39,.agg #[vi h.k,vi h.a,vi h.b]),(40,.slice A15 m.length c15)]∧w0.heap.size≤b64∧Blk w b64 38 [vi 0,vi 0,.slice none 0 0]∧w11.heap.size≤b64∧w10.heap.size≤b64∧Below w11.heap.size w11 w) ?_ ?_
  ·rintro a w40 ⟨b64,hf,hlo64,hB64,hlj64,hlc64,hE⟩;clear hJc;have hJc:=hE;replace hB2:=hB2.below hE;replace hB3:=hB3.below hE;replace hB26:=hB26.below hE;replace ho15:=ho15.below hE;replace hW:=btr hW hE;replace hEc:=btr hEc hE;refine Yb hf ?_;refine Y2 5 12 ?_ ?_
   ·refine Yk rfl trivial (Vc (Xei _ (m.length:Int) (smallG m g) P.gs) X57) (fun _ _ ⟨A71,c71,_,ho71,hE⟩=>hE) ?_;rintro _ w41 ⟨A71,c71,rfl,ho71,hE⟩;replace ho71:=ho71.lower hW.size;replace hB2:=hB2.below hE;replace hB3:=hB3.below hE;replace hB26:=hB26.below hE;replace hB64:=hB64.below hE;replace ho15:=ho15.below hE;replace hW:=btr hW hE;replace hEc:=btr hEc hE;replace hJc:=btr hJc hE;exact fun a hf=>hJ57 _ a _ rfl ⟨b64,A71,c71,hf.sub ⟨rfl,rfl,rfl,rfl,rfl,rfl,trivial⟩,hlo64,hB64,hlj64,hlc64,ho71,hJc⟩
   refine Yk rfl trivial (Xa (zs:=[vi 0,vi 0,.slice none 0 0]) X1a rfl) (fun _ _ ⟨_,_,_,h,_⟩=>h) ?_;rintro _ w42 ⟨b73,rfl,hl73,hE,hB73⟩
   have hne64_73:b64≠b73:=by have:=hB64.lt;omega
   have hlo73:=Nat.le_trans hW.size hl73;have hlc73:=Nat.le_trans hEc.size hl73;have hlj73:=Nat.le_trans hJc.size hl73;replace hB2:=hB2.below hE;replace hB3:=hB3.below hE;replace hB26:=hB26.below hE;replace hB64:=hB64.below hE;replace ho15:=ho15.below hE;replace hW:=btr hW hE;replace hEc:=btr hEc hE;replace hJc:=btr hJc hE;exact fun a hf=>hJ61 _ a _ rfl ⟨b73,b64,hf.sub ⟨rfl,rfl,rfl,rfl,rfl,rfl,rfl,rfl,trivial⟩,hlo73,hB73,hlo64,hB64,(Ne.symm hne64_73),hlj73,hlc73,hlj64,hlc64,hJc⟩
  intro hJ69;refine Yc [0,1,2,3,6,7,8,9,12,13] 6 (fun a w=>∃ b69 b71,Fr a 52 [(8,.pointer (some ⟨b26,0,none⟩)),(9,.pointer (some ⟨b69,0,none⟩)),(10,.pointer (some ⟨b71,0,none⟩)),(32,vi (m.length:Int)),(33,.agg #[vi g.k,vi g.a,vi g.b]),(34,.slice A15 m.length c15),(38,vi (m.length:Int)),(39,.agg #[vi h.k,vi h.a,vi h.b]),(40,.slice A15 m.length c15)]∧w0.heap.size≤b69∧Blk w b69 38 [vi 0,vi 0,.slice none 0 0]∧w0.heap.size≤b71∧Blk w b71 38 [vi 0,vi 0,.slice none 0 0]∧b69≠b71∧w11.heap.size≤b69∧w10.heap.size≤b69∧w11.heap.size≤b71∧w10.heap.size≤b71∧Below w11.heap.size w11 w) ?_ ?_
  ·rintro a w43 ⟨b69,b71,hf,hlo69,hB69,hlo71,hB71,hne69_71,hlj69,hlc69,hlj71,hlc71,hE⟩;clear hJc;have hJc:=hE;replace hB2:=hB2.below hE;replace hB3:=hB3.below hE;replace hB26:=hB26.below hE;replace ho15:=ho15.below hE;replace hW:=btr hW hE;replace hEc:=btr hEc hE;refine Yb hf ?_;refine Y1 4 ?_;refine Yk rfl trivial (Vc (Xdr _ g A15 c15 m ho15.rd.top P.gk P.ga P.inc P.gb hlm) X5a) (fun _ _ ⟨_,hE⟩=>hE) ?_;rintro _ w44 ⟨rfl,hE⟩;replace hB2:=hB2.below hE;replace hB3:=hB3.below hE;replace hB26:=hB26.below hE;replace hB69:=hB69.below hE;replace hB71:=hB71.below hE;replace ho15:=ho15.below hE;replace hW:=btr hW hE;replace hEc:=btr hEc hE;replace hJc:=btr hJc hE;exact fun a hf=>hJ61 _ a _ rfl ⟨b69,b71,hf.sub ⟨rfl,rfl,rfl,rfl,rfl,rfl,rfl,rfl,trivial⟩,hlo69,hB69,hlo71,hB71,hne69_71,hlj69,hlc69,hlj71,hlc71,hJc⟩
  intro hJ74;refine Y3 4 12 13 ?_ ?_ ?_
  ·refine Yk rfl trivial (Vc (Xdr _ g A15 c15 m ho15.rd.top P.gk P.ga P.inc P.gb hlm) X5a) (fun _ _ ⟨_,hE⟩=>hE) ?_;rintro _ w45 ⟨rfl,hE⟩;replace hB2:=hB2.below hE;replace hB3:=hB3.below hE;replace hB26:=hB26.below hE;replace ho15:=ho15.below hE;replace hW:=btr hW hE;replace hEc:=btr hEc hE;replace hJc:=btr hJc hE;refine Y3 5 12 13 ?_ ?_ ?_
   ·refine Yk rfl trivial (Vc (Xei _ (m.length:Int) (smallG m g) P.gs) X57) (fun _ _ ⟨A76,c76,_,ho76,hE⟩=>hE) ?_;rintro _ w46 ⟨A76,c76,rfl,ho76,hE⟩;replace ho76:=ho76.lower hW.size;replace hB2:=hB2.below hE;replace hB3:=hB3.below hE;replace hB26:=hB26.below hE;replace ho15:=ho15.below hE;replace hW:=btr hW hE;replace hEc:=btr hEc hE;replace hJc:=btr hJc hE;refine Y3 10 12 13 ?_ ?_ ?_
    ·refine Yk rfl trivial (Vc (Xdr _ h A15 c15 m ho15.rd.top P.hk P.ha P.inc P.hb hlm) X5a) (fun _ _ ⟨_,hE⟩=>hE) ?_;rintro _ w47 ⟨rfl,hE⟩;replace hB2:=hB2.below hE;replace hB3:=hB3.below hE;replace hB26:=hB26.below hE;replace ho15:=ho15.below hE;replace ho76:=ho76.below hE;replace hW:=btr hW hE;replace hEc:=btr hEc hE;replace hJc:=btr hJc hE;refine Y3 11 12 13 ?_ ?_ ?_
     ·refine Yk rfl trivial (Vc (Xei _ (m.length:Int) (smallG m h) P.hs) X57) (fun _ _ ⟨A77,c77,_,ho77,hE⟩=>hE) ?_;rintro _ w48 ⟨A77,c77,rfl,ho77,hE⟩;replace ho77:=ho77.lower hW.size;replace hB2:=hB2.below hE;replace hB3:=hB3.below hE;replace hB26:=hB26.below hE;replace ho15:=ho15.below hE;replace ho76:=ho76.below hE;replace hW:=btr hW hE;replace hEc:=btr hEc hE;replace hJc:=btr hJc hE;refine Y2 12 13 ?_ ?_
      ·refine Yk rfl trivial (Xa (zs:=[vi 0,vi 0,.slice none 0 0]) X1a rfl) (fun _ _ ⟨_,_,_,h,_⟩=>h) ?_;rintro _ w49 ⟨b79,rfl,hl79,hE,hB79⟩;have hlo79:=Nat.le_trans hW.size hl79;have hlc79:=Nat.le_trans hEc.size hl79;have hlj79:=Nat.le_trans hJc.size hl79;replace hB2:=hB2.below hE;replace hB3:=hB3.below hE;replace hB26:=hB26.below hE;replace ho15:=ho15.below hE;replace ho76:=ho76.below hE;replace ho77:=ho77.below hE;replace hW:=btr hW hE;replace hEc:=btr hEc hE;replace hJc:=btr hJc hE;exact fun a hf=>hJ30 _ a _ rfl ⟨b79,A76,c76,A77,c77,hf.sub ⟨rfl,rfl,rfl,rfl,trivial⟩,hlo79,hB79,hlj79,hlc79,ho76,ho77,hJc⟩
      refine Yk rfl trivial (Xa (zs:=[vi 0,vi 0,.slice none 0 0]) X1a rfl) (fun _ _ ⟨_,_,_,h,_⟩=>h) ?_;rintro _ w50 ⟨b81,rfl,hl81,hE,hB81⟩;have hlo81:=Nat.le_trans hW.size hl81;have hlc81:=Nat.le_trans hEc.size hl81;have hlj81:=Nat.le_trans hJc.size hl81;replace hB2:=hB2.below hE;replace hB3:=hB3.below hE;replace hB26:=hB26.below hE;replace ho15:=ho15.below hE;replace ho76:=ho76.below hE;replace ho77:=ho77.below hE;replace hW:=btr hW hE;replace hEc:=btr hEc hE;replace hJc:=btr hJc hE;exact fun a hf=>hJ34 _ a _ rfl ⟨b81,A76,c76,A77,c77,hf.sub ⟨rfl,rfl,rfl,rfl,trivial⟩,hlo81,hB81,hlj81,hlc81,ho76,ho77,hJc⟩
     ·refine Yk rfl trivial (Xa (zs:=[vi 0,vi 0,.slice none 0 0]) X1a rfl) (fun _ _ ⟨_,_,_,h,_⟩=>h) ?_;rintro _ w51 ⟨b83,rfl,hl83,hE,hB83⟩;have hlo83:=Nat.le_trans hW.size hl83;have hlc83:=Nat.le_trans hEc.size hl83;have hlj83:=Nat.le_trans hJc.size hl83;replace hB2:=hB2.below hE;replace hB3:=hB3.below hE;replace hB26:=hB26.below hE;replace ho15:=ho15.below hE;replace ho76:=ho76.below hE;replace hW:=btr hW hE;replace hEc:=btr hEc hE;replace hJc:=btr hJc hE;exact fun a hf=>hJ41 _ a _ rfl ⟨b83,A76,c76,hf.sub ⟨rfl,rfl,rfl,rfl,rfl,trivial⟩,hlo83,hB83,hlj83,hlc83,ho76,hJc⟩
     refine Yk rfl trivial (Xa (zs:=[vi 0,vi 0,.slice none 0 0]) X1a rfl) (fun _ _ ⟨_,_,_,h,_⟩=>h) ?_;rintro _ w52 ⟨b85,rfl,hl85,hE,hB85⟩;have hlo85:=Nat.le_trans hW.size hl85;have hlc85:=Nat.le_trans hEc.size hl85;have hlj85:=Nat.le_trans hJc.size hl85;replace hB2:=hB2.below hE;replace hB3:=hB3.below hE;replace hB26:=hB26.below hE;replace ho15:=ho15.below hE;replace ho76:=ho76.below hE;replace hW:=btr hW hE;replace hEc:=btr hEc hE;replace hJc:=btr hJc hE;exact fun a hf=>hJ46 _ a _ rfl ⟨b85,A76,c76,hf.sub ⟨rfl,rfl,rfl,rfl,rfl,trivial⟩,hlo85,hB85,hlj85,hlc85,ho76,hJc⟩
    ·refine Yk rfl trivial (Xa (zs:=[vi 0,vi 0,.slice none 0 0]) X1a rfl) (fun _ _ ⟨_,_,_,h,_⟩=>h) ?_;rintro _ w53 ⟨b87,rfl,hl87,hE,hB87⟩;have hlo87:=Nat.le_trans hW.size hl87;have hlc87:=Nat.le_trans hEc.size hl87;have hlj87:=Nat.le_trans hJc.size hl87;replace hB2:=hB2.below hE;replace hB3:=hB3.below hE;replace hB26:=hB26.below hE;replace ho15:=ho15.below hE;replace ho76:=ho76.below hE;replace hW:=btr hW hE;replace hEc:=btr hEc hE;replace hJc:=btr hJc hE;exact fun a hf=>hJ53 _ a _ rfl ⟨b87,A76,c76,hf.sub ⟨rfl,rfl,rfl,rfl,rfl,rfl,trivial⟩,hlo87,hB87,hlj87,hlc87,ho76,hJc⟩
    refine Yk rfl trivial (Xa (zs:=[vi 0,vi 0,.slice none 0 0]) X1a rfl) (fun _ _ ⟨_,_,_,h,_⟩=>h) ?_;rintro _ w54 ⟨b89,rfl,hl89,hE,hB89⟩;have hlo89:=Nat.le_trans hW.size hl89;have hlc89:=Nat.le_trans hEc.size hl89;have hlj89:=Nat.le_trans hJc.size hl89;replace hB2:=hB2.below hE;replace hB3:=hB3.below hE;replace hB26:=hB26.below hE;replace ho15:=ho15.below hE;replace ho76:=ho76.below hE;replace hW:=btr hW hE;replace hEc:=btr hEc hE;replace hJc:=btr hJc hE;exact fun a hf=>hJ57 _ a _ rfl ⟨b89,A76,c76,hf.sub ⟨rfl,rfl,rfl,rfl,rfl,rfl,trivial⟩,hlo89,hB89,hlj89,hlc89,ho76,hJc⟩
   ·refine Yk rfl trivial (Xa (zs:=[vi 0,vi 0,.slice none 0 0]) X1a rfl) (fun _ _ ⟨_,_,_,h,_⟩=>h) ?_;rintro _ w55 ⟨b91,rfl,hl91,hE,hB91⟩;have hlo91:=Nat.le_trans hW.size hl91;have hlc91:=Nat.le_trans hEc.size hl91;have hlj91:=Nat.le_trans hJc.size hl91;replace hB2:=hB2.below hE;replace hB3:=hB3.below hE;replace hB26:=hB26.below hE;replace ho15:=ho15.below hE;replace hW:=btr hW hE;replace hEc:=btr hEc hE;replace hJc:=btr hJc hE;exact fun a hf=>hJ64 _ a _ rfl ⟨b91,hf.sub ⟨rfl,rfl,rfl,rfl,rfl,rfl,rfl,trivial⟩,hlo91,hB91,hlj91,hlc91,hJc⟩
   refine Yk rfl trivial (Xa (zs:=[vi 0,vi 0,.slice none 0 0]) X1a rfl) (fun _ _ ⟨_,_,_,h,_⟩=>h) ?_;rintro _ w56 ⟨b93,rfl,hl93,hE,hB93⟩;have hlo93:=Nat.le_trans hW.size hl93;have hlc93:=Nat.le_trans hEc.size hl93;have hlj93:=Nat.le_trans hJc.size hl93;replace hB2:=hB2.below hE;replace hB3:=hB3.below hE;replace hB26:=hB26.below hE;replace ho15:=ho15.below hE;replace hW:=btr hW hE;replace hEc:=btr hEc hE;replace hJc:=btr hJc hE;exact fun a hf=>hJ69 _ a _ rfl ⟨b93,hf.sub ⟨rfl,rfl,rfl,rfl,rfl,rfl,rfl,trivial⟩,hlo93,hB93,hlj93,hlc93,hJc⟩
  ·refine Yk rfl trivial (Xa (zs:=[vi 0,vi 0,.slice none 0 0]) X1a rfl) (fun _ _ ⟨_,_,_,h,_⟩=>h) ?_;rintro _ w57 ⟨b95,rfl,hl95,hE,hB95⟩;have hlo95:=Nat.le_trans hW.size hl95;have hlc95:=Nat.le_trans hEc.size hl95;have hlj95:=Nat.le_trans hJc.size hl95;replace hB2:=hB2.below hE;replace hB3:=hB3.below hE;replace hB26:=hB26.below hE;replace ho15:=ho15.below hE;replace hW:=btr hW hE;replace hEc:=btr hEc hE;replace hJc:=btr hJc hE;refine Y2 4 13 ?_ ?_
   ·refine Yk rfl trivial (Vc (Xdr _ g A15 c15 m ho15.rd.top P.gk P.ga P.inc P.gb hlm) X5a) (fun _ _ ⟨_,hE⟩=>hE) ?_;rintro _ w58 ⟨rfl,hE⟩;replace hB2:=hB2.below hE;replace hB3:=hB3.below hE;replace hB26:=hB26.below hE;replace hB95:=hB95.below hE;replace ho15:=ho15.below hE;replace hW:=btr hW hE;replace hEc:=btr hEc hE;replace hJc:=btr hJc hE;exact fun a hf=>hJ64 _ a _ rfl ⟨b95,hf.sub ⟨rfl,rfl,rfl,rfl,rfl,rfl,rfl,trivial⟩,hlo95,hB95,hlj95,hlc95,hJc⟩
   refine Yk rfl trivial (Xa (zs:=[vi 0,vi 0,.slice none 0 0]) X1a rfl) (fun _ _ ⟨_,_,_,h,_⟩=>h) ?_;rintro _ w59 ⟨b97,rfl,hl97,hE,hB97⟩
   have hne95_97:b95≠b97:=by have:=hB95.lt;omega
   have hlo97:=Nat.le_trans hW.size hl97;have hlc97:=Nat.le_trans hEc.size hl97;have hlj97:=Nat.le_trans hJc.size hl97;replace hB2:=hB2.below hE;replace hB3:=hB3.below hE;replace hB26:=hB26.below hE;replace hB95:=hB95.below hE;replace ho15:=ho15.below hE;replace hW:=btr hW hE;replace hEc:=btr hEc hE;replace hJc:=btr hJc hE;exact fun a hf=>hJ74 _ a _ rfl ⟨b95,b97,hf.sub ⟨rfl,rfl,rfl,rfl,rfl,rfl,rfl,rfl,rfl,trivial⟩,hlo95,hB95,hlo97,hB97,hne95_97,hlj95,hlc95,hlj97,hlc97,hJc⟩
  refine Yk rfl trivial (Xa (zs:=[vi 0,vi 0,.slice none 0 0]) X1a rfl) (fun _ _ ⟨_,_,_,h,_⟩=>h) ?_;rintro _ w60 ⟨b99,rfl,hl99,hE,hB99⟩;have hlo99:=Nat.le_trans hW.size hl99;have hlc99:=Nat.le_trans hEc.size hl99;have hlj99:=Nat.le_trans hJc.size hl99;replace hB2:=hB2.below hE;replace hB3:=hB3.below hE;replace hB26:=hB26.below hE;replace ho15:=ho15.below hE;replace hW:=btr hW hE;replace hEc:=btr hEc hE;replace hJc:=btr hJc hE;refine Y2 4 12 ?_ ?_
  ·refine Yk rfl trivial (Vc (Xdr _ g A15 c15 m ho15.rd.top P.gk P.ga P.inc P.gb hlm) X5a) (fun _ _ ⟨_,hE⟩=>hE) ?_;rintro _ w61 ⟨rfl,hE⟩;replace hB2:=hB2.below hE;replace hB3:=hB3.below hE;replace hB26:=hB26.below hE;replace hB99:=hB99.below hE;replace ho15:=ho15.below hE;replace hW:=btr hW hE;replace hEc:=btr hEc hE;replace hJc:=btr hJc hE;exact fun a hf=>hJ69 _ a _ rfl ⟨b99,hf.sub ⟨rfl,rfl,rfl,rfl,rfl,rfl,rfl,trivial⟩,hlo99,hB99,hlj99,hlc99,hJc⟩
  refine Yk rfl trivial (Xa (zs:=[vi 0,vi 0,.slice none 0 0]) X1a rfl) (fun _ _ ⟨_,_,_,h,_⟩=>h) ?_;rintro _ w62 ⟨b101,rfl,hl101,hE,hB101⟩
  have hne99_101:b99≠b101:=by have:=hB99.lt;omega
  have hlo101:=Nat.le_trans hW.size hl101;have hlc101:=Nat.le_trans hEc.size hl101;have hlj101:=Nat.le_trans hJc.size hl101;replace hB2:=hB2.below hE;replace hB3:=hB3.below hE;replace hB26:=hB26.below hE;replace hB99:=hB99.below hE;replace ho15:=ho15.below hE;replace hW:=btr hW hE;replace hEc:=btr hEc hE;replace hJc:=btr hJc hE;exact fun a hf=>hJ74 _ a _ rfl ⟨b101,b99,hf.sub ⟨rfl,rfl,rfl,rfl,rfl,rfl,rfl,rfl,rfl,trivial⟩,hlo101,hB101,hlo99,hB99,(Ne.symm hne99_101),hlj101,hlc101,hlj99,hlc99,hJc⟩
 rintro a w63 ⟨b31,b33,A28,c28,A29,c29,hf,hlo31,hB31,hlo33,hB33,ho28,ho29,hE⟩;replace hB2:=hB2.below hE;replace hB3:=hB3.below hE;replace hB26:=hB26.below hE;replace ho15:=ho15.below hE;replace hW:=btr hW hE;refine hK27 _ _ ?_;refine wp_seq_k fun _ hK102=>?_;refine X05 (some b26) (fun _=>false) mixed ?_;intro w64 hE;replace hB26:=hB26.below hE;replace hB31:=hB31.below hE;replace hB33:=hB33.below hE;replace ho28:=ho28.below hE;replace ho29:=ho29.below hE;replace hW:=btr hW hE;refine Yb hf ?_;refine Yo 0 rfl (fun _=>X2 rfl) ?_;refine Yw 1 rfl trivial (fun w1 h1=>X09 (l:=[vi ((gateS (m.length:Int) (smallG m g)).rows),vi ((gateS (m.length:Int) (smallG m g)).cols),.slice A28 ((gateS (m.length:Int) (smallG m g)).cells).length c28]) rfl X13 ((hB31.only h1 (Blk.ne hB31 hB26 rfl)).at 0) rfl) ?_;refine Yw 2 rfl trivial (fun w1 h1=>X09 (l:=[vi ((gateS (m.length:Int) (smallG m h)).rows),vi ((gateS (m.length:Int) (smallG m h)).cols),.slice A29 ((gateS (m.length:Int) (smallG m h)).cells).length c29]) rfl X13 ((hB33.only h1 (Blk.ne hB33 hB26 rfl)).at 0) rfl) ?_;refine Yo 4 rfl (fun _=>X2 rfl) ?_;refine Yw 5 rfl trivial (fun w1 h1=>X09 (l:=[vi ((gateS (m.length:Int) (smallG m h)).rows),vi ((gateS (m.length:Int) (smallG m h)).cols),.slice A29 ((gateS (m.length:Int) (smallG m h)).cells).length c29]) rfl X13 ((hB33.only h1 (Blk.ne hB33 hB26 rfl)).at 0) rfl) ?_;refine Yw 6 rfl trivial (fun w1 h1=>X09 (l:=[vi ((gateS (m.length:Int) (smallG m g)).rows),vi ((gateS (m.length:Int) (smallG m g)).cols),.slice A28 ((gateS (m.length:Int) (smallG m g)).cells).length c28]) rfl X13 ((hB31.only h1 (Blk.ne hB31 hB26 rfl)).at 0) rfl) ?_;refine Y1 3 ?_;refine Yf rfl trivial (EfW.mono (Vc (Xut _ b26 false hB26 (gateS (m.length:Int) (smallG m g)) A28 c28 ho28.rd.top (gateS (m.length:Int) (smallG m h)) A29 c29 ho29.rd.top hm1 hm2 rfl) Xjo) (fun _ _ h=>⟨fun _=>by obtain ⟨A103,c103,rfl,ho103,hK,hbn⟩:=h;exact hK.keep,h⟩)) ?_;rintro _ w65 ⟨A103,c103,rfl,ho103,hK,hbn⟩
 have hlv:=hW.size;obtain ⟨wm,hO,hm,hE⟩:=hK.mid;clear hm;have hold:=hB26;replace hB31:=hB31.only hO (Blk.ne hB31 hold rfl);replace hB33:=hB33.only hO (Blk.ne hB33 hold rfl);replace ho28:=ho28.onlyT hO hold rfl;replace ho29:=ho29.onlyT hO hold rfl;replace hW:=Below.only hW hO hlo26;replace hB31:=hB31.below hE;replace hB33:=hB33.below hE;replace ho28:=ho28.below hE;replace ho29:=ho29.below hE;replace hW:=btr hW hE
 clear hold hE hO hK;replace hB26:=hbn;clear hbn
 replace ho103:=ho103.lower hlv;clear hlv;refine Y1 7 ?_;refine Yf rfl trivial (EfW.mono (Vc (Xut _ b26 ((timesS false (gateS (m.length:Int) (smallG m g)) (gateS (m.length:Int) (smallG m h))).1) hB26 (gateS (m.length:Int) (smallG m h)) A29 c29 ho29.rd.top (gateS (m.length:Int) (smallG m g)) A28 c28 ho28.rd.top hm2 hm1 rfl) Xjo) (fun _ _ h=>⟨fun _=>by obtain ⟨A104,c104,rfl,ho104,hK,hbn⟩:=h;exact hK.keep,h⟩)) ?_;rintro _ w66 ⟨A104,c104,rfl,ho104,hK,hbn⟩;have hlv:=hW.size;obtain ⟨wm,hO,hm,hE⟩:=hK.mid;clear hm;have hold:=hB26;replace hB31:=hB31.only hO (Blk.ne hB31 hold rfl);replace hB33:=hB33.only hO (Blk.ne hB33 hold rfl);replace ho28:=ho28.onlyT hO hold rfl;replace ho29:=ho29.onlyT hO hold rfl;replace ho103:=ho103.onlyT hO hold rfl;replace hW:=Below.only hW hO hlo26;replace hB31:=hB31.below hE;replace hB33:=hB33.below hE;replace ho28:=ho28.below hE;replace ho29:=ho29.below hE;replace ho103:=ho103.below hE;replace hW:=btr hW hE
 clear hold hE hO hK;replace hB26:=hbn;clear hbn
 replace ho104:=ho104.lower hlv;clear hlv;refine Y1 8 ?_;refine Yf rfl trivial (EfW.mono (Vc (Xv1 _ ((timesS false (gateS (m.length:Int) (smallG m g)) (gateS (m.length:Int) (smallG m h))).2) A103 c103 ho103.rd.top ((timesS ((timesS false (gateS (m.length:Int) (smallG m g)) (gateS (m.length:Int) (smallG m h))).1) (gateS (m.length:Int) (smallG m h)) (gateS (m.length:Int) (smallG m g))).2) A104 c104 ho104.rd.top (Xje hm1 hm2 _)) Xiy) (fun _ _ h=>⟨fun _=>by obtain ⟨rfl,hE⟩:=h;exact Keep.of_below hE,h⟩)) ?_;rintro _ w67 ⟨rfl,hE⟩;replace hB26:=hB26.below hE;replace hB31:=hB31.below hE;replace hB33:=hB33.below hE;replace ho28:=ho28.below hE;replace ho29:=ho29.below hE;replace ho103:=ho103.below hE;replace ho104:=ho104.below hE;replace hW:=btr hW hE;refine Yo 9 rfl (fun _=>X1s rfl) ?_;refine Yd fun a hf=>?_;refine hK102 _ _ ?_
 refine wp_ret (X3 hf (Xq hf rfl rfl) ?_)
 exact ⟨by rw [commS,if_pos hc,hU];rfl,hW⟩
theorem F54(w0:World)(c:Cx)(Ac:Option Addr)(cc:Nat)(hr_c:Rd w0 w0.heap.size 24 encG Ac c.gs)(hp_c:c.gs.length≤cc)(As:Option Addr)(cs:Nat)(s:List Int)(hr_s:Rd w0 w0.heap.size 3 encI As s)(hc:cOk c=true) : Ret Tryz.prog 111 [.agg #[vi c.n,.slice Ac c.gs.length cc],.slice As s.length cs] w0 (fun v w=>v=.tuple #[vi ((schedS c.gs s).1),vi ((schedS c.gs s).2)]∧Below w0.heap.size w0 w):=by
 obtain ⟨hcn,hcl,hcg⟩:=X0x hc;refine enter Tryz.func111 rfl 96 rfl rfl ?_;intro a hf
 have hW:Below w0.heap.size w0 w0:=Below.refl _ _
 refine Zs hf fun _ hK3=>?_;refine Zf (X0p (zs:=[vi c.n,.slice Ac c.gs.length cc]) rfl rfl) ?_;rintro _ w1 ⟨b4,rfl,hl4,hE,hB4⟩;have hlo4:=Nat.le_trans hW.size hl4;replace hW:=btr hW hE;refine Za rfl<|Za rfl ?_;refine Zt hK3 fun a hf=>?_;refine wp_seq_k fun _ hK5=>?_;refine Zs hf fun _ hK6=>?_;refine Zm rfl<|Ze (X0y rfl Xg)<|Ze (Vd rfl X0k 1)<|Ze (X0 rfl X14 (hB4.at 1))<|Ze (X0y rfl X0c) ?_;refine Ze (X29 rfl rfl) ?_;refine Zt hK6 fun a hf=>?_
 refine Xe hf rfl (fun hc7=>?_) (fun hc7=>?_)
 ·have hc7b:=hc7
  have hfin:schedS c.gs s=(1,0):=by rw [schedS,if_neg];simp at hc7;omega
  refine Zs hf fun _ hK8=>?_;refine Za rfl<|Za rfl ?_;refine Zt hK8 fun a hf=>?_;refine wp_ret ?_;refine X5 ?_;refine X3 hf (X15 hf rfl rfl rfl) ?_;exact ⟨by rw [hfin],hW⟩
 have hc7b:=hc7
 have hls:s.length=c.gs.length:=by simp at hc7;omega
 refine wp_skip ?_;refine hK5 _ _ ?_;refine wp_seq_k fun _ hK9=>?_;refine Zs hf fun _ hK10=>?_;refine Ze (Vd rfl X0k 1)<|Ze (X0 rfl X14 (hB4.at 1))<|Ze (X0y rfl X0c)<|Zm rfl ?_;refine Zt hK10 fun a hf=>?_;refine wp_block ?_;refine Xx (σ:=Nat) (fun (i:Nat) (a:Act) (w:World)=>Fr a 96 [(1,.slice As s.length cs),(2,.pointer (some ⟨b4,0,none⟩)),(19,.slice Ac c.gs.length cc),(20,vi (c.gs.length:Int)),(21,vi (i:Int))]∧(i≤c.gs.length)∧(firstF (faultS c.gs s) (c.gs.length-i) i=schedS c.gs s)∧Blk w b4 31 [vi c.n,.slice Ac c.gs.length cc]∧c.gs.length≤cc∧Below w0.heap.size w0 w) (fun (i:Nat)=>c.gs.length-i) 0 ?_ ?_
 ·exact ⟨hf.sub ⟨rfl,rfl,rfl,rfl,rfl,trivial⟩,(Nat.zero_le _),(by rw [schedS,if_pos hls];rfl),hB4,hp_c,hW⟩
 rintro i a w2 ⟨hf,hi,hinv,hB4,hp_c,hW⟩;refine Zs hf fun _ hK11=>?_;refine Ze (X0l rfl rfl) ?_;refine Zt hK11 fun a hf=>?_;refine wp_seq_k fun _ hK12=>?_
 refine Xe hf rfl (fun hc13=>?_) (fun hc13=>?_)
 ·have hc13b:=hc13;have hc13:=of_decide_eq_true hc13
  obtain ⟨u14,hu14⟩:=Xl (l:=c.gs) (k:=i) (by omega)
  have hin:i<c.gs.length:=by omega
  have hgi:=X3v hu14;have hgu:=hcg _ (List.mem_of_getElem? hu14)
  have hti:(c.gs.take i).length=i:=by rw [List.length_take];omega
  refine wp_skip ?_;refine hK12 _ _ ?_;refine wp_seq_k fun _ hK15=>?_;refine wp_block ?_;refine Zs hf fun _ hK16=>?_;refine Zm rfl ?_;refine Zi (k:=i) (u:=u14) (enc:=encG) (l:=c.gs) trivial rfl rfl X0c X0g X0d (hr_c.below' hW) hu14 rfl ?_;intro p18 hat17;refine Ze (X09 (l:=[vi u14.k,vi u14.a,vi u14.b]) rfl Xt hat17 rfl) ?_;refine Zf (Xa (zs:=[vi 0,vi 0,vi 0]) X32 rfl) ?_;rintro _ w3 ⟨b19,rfl,hl19,hE,hB19⟩;have hlo19:=Nat.le_trans hW.size hl19;have haw1_19:=(hr_c.below' hW).away hl19;replace hB4:=hB4.below hE;replace hW:=btr hW hE;refine Za rfl ?_;refine Zo (Vw [vi u14.k,vi u14.a,vi u14.b] X0g hB19) ?_;rintro _ w4 ⟨ho,hb⟩;have hold:=hB19;replace hB4:=hB4.only ho (Blk.ne hB4 hold rfl);replace hW:=Below.only hW ho hlo19;clear hold;have hB19:=hb;clear hb ho;refine Zt hK16 fun a hf=>?_;refine wp_seq_k fun _ hK20=>?_;refine Zs hf fun _ hK21=>?_;refine Ze (Vd rfl X0i 0)<|Ze (X0 rfl X4 (hB19.at 0))<|Ze (X0u rfl rfl) ?_;refine Zt hK21 fun a hf=>?_
  refine Xe hf rfl (fun hc22=>?_) (fun hc22=>?_)
  ·have hc22b:=hc22;have h12:=hc22;refine wp_seq_k fun _ hK23=>?_;refine Zs hf fun _ hK24=>?_;refine Zm rfl<|Zm rfl ?_;refine Zi (k:=i) (u:=(s.getD i 0)) (enc:=encI) (l:=s) trivial rfl rfl Xg X0h X6 (hr_s.below' hW) (X1g (by omega)) rfl ?_;intro p26 hat25;refine Ze (X0 rfl X4 hat25)<|Ze (X29 rfl rfl) ?_;refine Zt hK24 fun a hf=>?_
   refine Xe hf rfl (fun hc27=>?_) (fun hc27=>?_)
   ·have hc27b:=hc27
    have hfin:=X46 hinv hin (Xmx hgi h12 hc27) (by decide)
    refine Zs hf fun _ hK28=>?_;refine Zm rfl<|Za rfl<|Za rfl ?_;refine Zt hK28 fun a hf=>?_;refine wp_ret ?_;refine X5 ?_;refine X5 ?_;refine Xr ?_;refine X5 ?_;refine X5 ?_;refine Xr ?_;refine X5 ?_;refine X3 hf (X15 hf rfl rfl rfl) ?_;exact ⟨by rw [hfin],hW⟩
   have hc27b:=hc27;have hnx:=X65 hinv hin (Xog hgi h12 hc27);refine wp_skip ?_;refine hK23 _ _ ?_;refine wp_exit ?_;refine Xf ?_;refine Xy ?_;refine hK15 _ _ ?_;refine Zr hf ?_;refine Ze (Xp rfl rfl (by omega) (by omega))<|Zm rfl ?_;refine Zn fun a hf=>?_;refine Xc ?_;exact ⟨i+1,⟨hf.sub ⟨rfl,rfl,rfl,rfl,rfl,trivial⟩,(by omega),hnx,hB4,hp_c,hW⟩,(by omega)⟩
  have hc22b:=hc22;have h12:=hc22;refine wp_skip ?_;refine hK20 _ _ ?_;refine wp_seq_k fun _ hK29=>?_;refine Zs hf fun _ hK30=>?_;refine Zm rfl<|Zm rfl ?_;refine Zi (k:=i) (u:=(s.getD i 0)) (enc:=encI) (l:=s) trivial rfl rfl Xg X0h X6 (hr_s.below' hW) (X1g (by omega)) rfl ?_;intro p32 hat31;refine Ze (X0 rfl X4 hat31) ?_;refine Zf (Vc (F85 _ (s.getD i 0) 1 400) X6v) ?_;rintro _ _ ⟨rfl,rfl⟩;refine Ze (X16 rfl) ?_;refine Zt hK30 fun a hf=>?_
  refine Xe hf rfl (fun hc33=>?_) (fun hc33=>?_)
  ·have hc33b:=hc33
   have hfin:=X46 hinv hin (Xrn hgi h12 hc33) (by decide)
   refine Zs hf fun _ hK34=>?_;refine Zm rfl<|Za rfl<|Za rfl ?_;refine Zt hK34 fun a hf=>?_;refine wp_ret ?_;refine X5 ?_;refine Xr ?_;refine X5 ?_;refine X5 ?_;refine Xr ?_;refine X5 ?_;refine X3 hf (X15 hf rfl rfl rfl) ?_;exact ⟨by rw [hfin],hW⟩
  have hc33b:=hc33;have hx:=hc33;refine wp_skip ?_;refine hK29 _ _ ?_;refine wp_seq_k fun _ hK35=>?_;refine Zs hf fun _ hK36=>?_;refine Ze (Vd rfl X0k 1)<|Ze (X0 rfl X14 (hB4.at 1))<|Zm rfl ?_;have hr37:=((hr_c.below' hW).top).takeK X0d i;refine Ze (X8z (l:=c.gs) (k:=i) rfl rfl X0c X0g rfl (by omega) hp_c)<|Ze (X0y rfl X0c)<|Zm rfl ?_;refine Zt hK36 fun a hf=>?_;refine wp_block ?_;refine Xx (σ:=Nat) (fun (j:Nat) (a:Act) (w:World)=>Fr a 96 [(1,.slice As s.length cs),(2,.pointer (some ⟨b4,0,none⟩)),(6,vi (i:Int)),(7,.pointer (some ⟨b19,0,none⟩)),(19,.slice Ac c.gs.length cc),(20,vi (c.gs.length:Int)),(21,vi (i:Int)),(45,.slice Ac (c.gs.take i).length cc),(46,vi ((c.gs.take i).length:Int)),(47,vi (j:Int))]∧(j≤i)∧((List.range j).any (pA c.gs s u14 (s.getD i 0))=false)∧Blk w b4 31 [vi c.n,.slice Ac c.gs.length cc]∧Blk w b19 24 [vi u14.k,vi u14.a,vi u14.b]∧Rd w w4.heap.size 24 encG Ac (c.gs.take i)∧c.gs.length≤cc∧Below w0.heap.size w0 w) (fun (j:Nat)=>i-j) 0 ?_ ?_
  ·exact ⟨hf.sub ⟨rfl,rfl,rfl,rfl,rfl,rfl,rfl,rfl,rfl,rfl,trivial⟩,(Nat.zero_le _),rfl,hB4,hB19,hr37,hp_c,hW⟩
  rintro j a w5 ⟨hf,hj,hA,hB4,hB19,hr37,hp_c,hW⟩;refine Zs hf fun _ hK38=>?_;refine Ze (X0l rfl rfl) ?_;refine Zt hK38 fun a hf=>?_;refine wp_seq_k fun _ hK39=>?_
  refine Xe hf rfl (fun hc40=>?_) (fun hc40=>?_)
  ·have hc40b:=hc40;have hc40:=of_decide_eq_true hc40
   obtain ⟨u41,hu41⟩:=Xl (l:=(c.gs.take i)) (k:=j) (by omega)
   obtain ⟨hgj,hmj⟩:=X7y hu41;refine wp_skip ?_;refine hK39 _ _ ?_;refine wp_seq_k fun _ hK42=>?_;refine wp_block ?_;refine Zs hf fun _ hK43=>?_;refine Zm rfl ?_;refine Zi (k:=j) (u:=u41) (enc:=encG) (l:=(c.gs.take i)) trivial rfl rfl X0c X0g X0d hr37 hu41 rfl ?_;intro p45 hat44;refine Ze (X09 (l:=[vi u41.k,vi u41.a,vi u41.b]) rfl Xt hat44 rfl) ?_;refine Zf (Xa (zs:=[vi 0,vi 0,vi 0]) X32 rfl) ?_;rintro _ w6 ⟨b46,rfl,hl46,hE,hB46⟩
   have hne19_46:b19≠b46:=by have:=hB19.lt;omega
   have hlo46:=Nat.le_trans hW.size hl46;have haw1_46:=(hr_c.below' hW).away hl46;have haw37_46:=hr37.away hl46;replace hB4:=hB4.below hE;replace hB19:=hB19.below hE;replace hr37:=hr37.below hE;replace hW:=btr hW hE;refine Za rfl ?_;refine Zo (Vw [vi u41.k,vi u41.a,vi u41.b] X0g hB46) ?_;rintro _ w7 ⟨ho,hb⟩;have hold:=hB46;replace hB4:=hB4.only ho (Blk.ne hB4 hold rfl);replace hB19:=hB19.only ho (by omega);replace hr37:=hr37.onlyA ho haw37_46;replace hW:=Below.only hW ho hlo46;clear hold;have hB46:=hb;clear hb ho;refine Zt hK43 fun a hf=>?_;refine wp_seq_k fun _ hK47=>?_;refine X08 (fun a w=>Fr a 96 [(1,.slice As s.length cs),(2,.pointer (some ⟨b4,0,none⟩)),(6,vi (i:Int)),(7,.pointer (some ⟨b19,0,none⟩)),(19,.slice Ac c.gs.length cc),(20,vi (c.gs.length:Int)),(21,vi (i:Int)),(45,.slice Ac (c.gs.take i).length cc),(46,vi ((c.gs.take i).length:Int)),(47,vi (j:Int)),(66,.bool ((decide ((s.getD i 0)≤(s.getD j 0)))&&(!(commS u14 u41))))]∧Below w7.heap.size w7 w) ?_ ?_
   ·have hEc:Below w7.heap.size w7 w7:=Below.refl _ _
    refine X05 none (fun _=>false) mixed ?_;intro w8 hE;replace hB4:=hB4.below hE;replace hB19:=hB19.below hE;replace hB46:=hB46.below hE;replace hr37:=hr37.below hE;replace hW:=btr hW hE;replace hEc:=btr hEc hE;refine Yb hf ?_;refine Yo 0 rfl (fun _=>X2 rfl)<|Yo 1 rfl (fun _=>X2 rfl) ?_;refine Yi (k:=j) (u:=(s.getD j 0)) (enc:=encI) (l:=s) 2 rfl trivial rfl rfl Xg X0h X6 (hr_s.below' hW) (X1g (by omega)) rfl ?_;intro p49 hat48;refine Ye 3 rfl (X0 rfl X4 hat48)<|Yo 4 rfl (fun _=>X2 rfl)<|Yo 5 rfl (fun _=>X2 rfl) ?_;refine Yi (k:=i) (u:=(s.getD i 0)) (enc:=encI) (l:=s) 6 rfl trivial rfl rfl Xg X0h X6 (hr_s.below' hW) (X1g (by omega)) rfl ?_;intro p51 hat50;refine Ye 7 rfl (X0 rfl X4 hat50)<|Yo 8 rfl (fun _=>Xde rfl rfl)<|Yo 9 rfl (fun _=>X2 rfl) ?_
    refine Yl 61 rfl (fun hg52=>?_) (fun hg52=>?_)
    ·refine Yv 10 rfl ⟨_,_,rfl,rfl,hg52⟩ (Vn Xt hB19) ?_;refine Yv 11 rfl ⟨_,_,rfl,rfl,hg52⟩ (Vn Xt hB46) ?_;refine Y1 12 ?_;refine Yk rfl ⟨_,_,rfl,rfl,hg52⟩ (Vc (Xup _ u14 u41 c.n hgu (hcg _ hmj)) Xk9) (fun _ _ ⟨_,hE⟩=>hE) ?_;rintro _ w9 ⟨rfl,hE⟩;replace hB4:=hB4.below hE;replace hB19:=hB19.below hE;replace hB46:=hB46.below hE;replace hr37:=hr37.below hE;replace hW:=btr hW hE;replace hEc:=btr hEc hE;refine Yu 13 rfl ⟨_,_,rfl,rfl,hg52⟩ (fun _=>X16 rfl) ?_;refine Yo 14 rfl (fun _=>Xb rfl hg52 rfl) ?_;refine Yd fun a hf=>?_
     have hEE:Below w7.heap.size w7 w9:=hEc
     exact ⟨hf.sub ⟨rfl,rfl,rfl,rfl,rfl,rfl,rfl,rfl,rfl,rfl,X1 rfl (by first|rfl|(simp only [hc7b,hc13b,hc22b,hc33b,hc40b,hg52,bs];done)|simp [hc7b,hc13b,hc22b,hc33b,hc40b,hg52]),trivial⟩,hEE⟩
    refine Yp 10 rfl ⟨_,_,rfl,rfl,hg52⟩ ?_;refine Yp 11 rfl ⟨_,_,rfl,rfl,hg52⟩ ?_;refine Y1 12 ?_;refine Yq rfl ⟨_,_,rfl,rfl,hg52⟩ ?_;refine Yp 13 rfl ⟨_,_,rfl,rfl,hg52⟩ ?_;refine Yo 14 rfl (fun _=>X9 rfl hg52 rfl) ?_;refine Yd fun a hf=>?_
    have hEE:Below w7.heap.size w7 w8:=hEc
    exact ⟨hf.sub ⟨rfl,rfl,rfl,rfl,rfl,rfl,rfl,rfl,rfl,rfl,X1 rfl (by first|rfl|(simp only [hc7b,hc13b,hc22b,hc33b,hc40b,hg52,bs];done)|simp [hc7b,hc13b,hc22b,hc33b,hc40b,hg52]),trivial⟩,hEE⟩
   rintro a w10 ⟨hf,hE⟩;replace hB4:=hB4.below hE;replace hB19:=hB19.below hE;replace hB46:=hB46.below hE;replace hr37:=hr37.below hE;replace hW:=btr hW hE;refine hK47 _ _ ?_
   refine Xe hf rfl (fun hc53=>?_) (fun hc53=>?_)
   ·have hc53b:=hc53;have hp:=hc53
    rw [← hgj] at hp
    have hfin:=X46 hinv hin (Xtc hgi h12 hx (X2h (j:=j) (by omega) hp)) (by decide)
    refine Zs hf fun _ hK54=>?_;refine Zm rfl<|Za rfl<|Za rfl ?_;refine Zt hK54 fun a hf=>?_;refine wp_ret ?_;refine Xr ?_;refine X5 ?_;refine X5 ?_;refine Xr ?_;refine X5 ?_;refine Xr ?_;refine X5 ?_;refine X5 ?_;refine Xr ?_;refine X5 ?_;refine X3 hf (X15 hf rfl rfl rfl) ?_;exact ⟨by rw [hfin],hW⟩
   have hc53b:=hc53;have hp:=hc53
   rw [← hgj] at hp
   have hnA:=X2b hA hp;refine wp_skip ?_;refine Xd ?_;refine hK42 _ _ ?_;refine Zr hf ?_;refine Ze (Xp rfl rfl (by omega) (by omega))<|Zm rfl ?_;refine Zn fun a hf=>?_;refine Xc ?_;exact ⟨j+1,⟨hf.sub ⟨rfl,rfl,rfl,rfl,rfl,rfl,rfl,rfl,rfl,rfl,trivial⟩,(by omega),hnA,hB4,hB19,hr37,hp_c,hW⟩,(by omega)⟩
  have hc40b:=hc40;have hc40:=of_decide_eq_false hc40;have hA2:=hA
  rw [show j=i from by omega] at hA2
  refine wp_exit ?_;refine Xf ?_;refine Xf ?_;refine Xy ?_;refine hK35 _ _ ?_;refine Zs hf fun _ hK55=>?_;refine Ze (Vd rfl X0k 1)<|Ze (X0 rfl X14 (hB4.at 1))<|Zm rfl ?_;have hr56:=((hr_c.below' hW).top).takeK X0d i;refine Ze (X8z (l:=c.gs) (k:=i) rfl rfl X0c X0g rfl (by omega) hp_c)<|Ze (X0y rfl X0c)<|Zm rfl ?_;refine Zt hK55 fun a hf=>?_;refine wp_block ?_;refine Xx (σ:=Nat) (fun (q:Nat) (a:Act) (w:World)=>Fr a 96 [(1,.slice As s.length cs),(2,.pointer (some ⟨b4,0,none⟩)),(6,vi (i:Int)),(7,.pointer (some ⟨b19,0,none⟩)),(19,.slice Ac c.gs.length cc),(20,vi (c.gs.length:Int)),(21,vi (i:Int)),(72,.slice Ac (c.gs.take i).length cc),(73,vi ((c.gs.take i).length:Int)),(74,vi (q:Int))]∧(q≤i)∧((List.range q).any (pB c.gs s u14 (s.getD i 0))=false)∧Blk w b4 31 [vi c.n,.slice Ac c.gs.length cc]∧Blk w b19 24 [vi u14.k,vi u14.a,vi u14.b]∧Rd w w5.heap.size 24 encG Ac (c.gs.take i)∧c.gs.length≤cc∧Below w0.heap.size w0 w) (fun (q:Nat)=>i-q) 0 ?_ ?_
  ·exact ⟨hf.sub ⟨rfl,rfl,rfl,rfl,rfl,rfl,rfl,rfl,rfl,rfl,trivial⟩,(Nat.zero_le _),rfl,hB4,hB19,hr56,hp_c,hW⟩
  rintro q a w11 ⟨hf,hq,hB,hB4,hB19,hr56,hp_c,hW⟩;refine Zs hf fun _ hK57=>?_;refine Ze (X0l rfl rfl) ?_;refine Zt hK57 fun a hf=>?_;refine wp_seq_k fun _ hK58=>?_
  refine Xe hf rfl (fun hc59=>?_) (fun hc59=>?_)
  ·have hc59b:=hc59;have hc59:=of_decide_eq_true hc59
   obtain ⟨u60,hu60⟩:=Xl (l:=(c.gs.take i)) (k:=q) (by omega)
   obtain ⟨hgq,hmq⟩:=X7y hu60;refine wp_skip ?_;refine hK58 _ _ ?_;refine wp_seq_k fun _ hK61=>?_;refine wp_block ?_;refine Zs hf fun _ hK62=>?_;refine Zm rfl ?_;refine Zi (k:=q) (u:=u60) (enc:=encG) (l:=(c.gs.take i)) trivial rfl rfl X0c X0g X0d hr56 hu60 rfl ?_;intro p64 hat63;refine Ze (X09 (l:=[vi u60.k,vi u60.a,vi u60.b]) rfl Xt hat63 rfl) ?_;refine Zf (Xa (zs:=[vi 0,vi 0,vi 0]) X32 rfl) ?_;rintro _ w12 ⟨b65,rfl,hl65,hE,hB65⟩
   have hne19_65:b19≠b65:=by have:=hB19.lt;omega
   have hlo65:=Nat.le_trans hW.size hl65;have haw1_65:=(hr_c.below' hW).away hl65;have haw56_65:=hr56.away hl65;replace hB4:=hB4.below hE;replace hB19:=hB19.below hE;replace hr56:=hr56.below hE;replace hW:=btr hW hE;refine Za rfl ?_;refine Zo (Vw [vi u60.k,vi u60.a,vi u60.b] X0g hB65) ?_;rintro _ w13 ⟨ho,hb⟩;have hold:=hB65;replace hB4:=hB4.only ho (Blk.ne hB4 hold rfl);replace hB19:=hB19.only ho (by omega);replace hr56:=hr56.onlyA ho haw56_65;replace hW:=Below.only hW ho hlo65;clear hold;have hB65:=hb;clear hb ho;refine Zt hK62 fun a hf=>?_;refine wp_seq_k fun _ hK66=>?_;refine X08 (fun a w=>Fr a 96 [(1,.slice As s.length cs),(2,.pointer (some ⟨b4,0,none⟩)),(6,vi (i:Int)),(7,.pointer (some ⟨b19,0,none⟩)),(19,.slice Ac c.gs.length cc),(20,vi (c.gs.length:Int)),(21,vi (i:Int)),(72,.slice Ac (c.gs.take i).length cc),(73,vi ((c.gs.take i).length:Int)),(74,vi (q:Int)),(92,.bool (((s.getD q 0)==(s.getD i 0))&&(comS u14 u60)))]∧Below w13.heap.size w13 w) ?_ ?_
   ·have hEc:Below w13.heap.size w13 w13:=Below.refl _ _
    refine X05 none (fun _=>false) mixed ?_;intro w14 hE;replace hB4:=hB4.below hE;replace hB19:=hB19.below hE;replace hB65:=hB65.below hE;replace hr56:=hr56.below hE;replace hW:=btr hW hE;replace hEc:=btr hEc hE;refine Yb hf ?_;refine Yo 0 rfl (fun _=>X2 rfl)<|Yo 1 rfl (fun _=>X2 rfl) ?_;refine Yi (k:=q) (u:=(s.getD q 0)) (enc:=encI) (l:=s) 2 rfl trivial rfl rfl Xg X0h X6 (hr_s.below' hW) (X1g (by omega)) rfl ?_;intro p68 hat67;refine Ye 3 rfl (X0 rfl X4 hat67)<|Yo 4 rfl (fun _=>X2 rfl)<|Yo 5 rfl (fun _=>X2 rfl) ?_;refine Yi (k:=i) (u:=(s.getD i 0)) (enc:=encI) (l:=s) 6 rfl trivial rfl rfl Xg X0h X6 (hr_s.below' hW) (X1g (by omega)) rfl ?_;intro p70 hat69;refine Ye 7 rfl (X0 rfl X4 hat69)<|Yo 8 rfl (fun _=>X0u rfl rfl)<|Yo 9 rfl (fun _=>X2 rfl) ?_
    refine Yl 88 rfl (fun hg71=>?_) (fun hg71=>?_)
    ·refine Yv 10 rfl ⟨_,_,rfl,rfl,hg71⟩ (Vn Xt hB19) ?_;refine Yv 11 rfl ⟨_,_,rfl,rfl,hg71⟩ (Vn Xt hB65) ?_;refine Y1 12 ?_;refine Yk rfl ⟨_,_,rfl,rfl,hg71⟩ (Vc (Xod _ u14 u60) Xc6) (fun _ _ ⟨_,hE⟩=>hE) ?_;rintro _ w15 ⟨rfl,hE⟩;replace hB4:=hB4.below hE;replace hB19:=hB19.below hE;replace hB65:=hB65.below hE;replace hr56:=hr56.below hE;replace hW:=btr hW hE;replace hEc:=btr hEc hE;refine Yo 13 rfl (fun _=>Xb rfl hg71 rfl) ?_;refine Yd fun a hf=>?_
     have hEE:Below w13.heap.size w13 w15:=hEc
     exact ⟨hf.sub ⟨rfl,rfl,rfl,rfl,rfl,rfl,rfl,rfl,rfl,rfl,X1 rfl (by first|rfl|(simp only [hc7b,hc13b,hc22b,hc33b,hc40b,hc59b,hg71,bs];done)|simp [hc7b,hc13b,hc22b,hc33b,hc40b,hc59b,hg71]),trivial⟩,hEE⟩
    refine Yp 10 rfl ⟨_,_,rfl,rfl,hg71⟩ ?_;refine Yp 11 rfl ⟨_,_,rfl,rfl,hg71⟩ ?_;refine Y1 12 ?_;refine Yq rfl ⟨_,_,rfl,rfl,hg71⟩ ?_;refine Yo 13 rfl (fun _=>X9 rfl hg71 rfl) ?_;refine Yd fun a hf=>?_
    have hEE:Below w13.heap.size w13 w14:=hEc
    exact ⟨hf.sub ⟨rfl,rfl,rfl,rfl,rfl,rfl,rfl,rfl,rfl,rfl,X1 rfl (by first|rfl|(simp only [hc7b,hc13b,hc22b,hc33b,hc40b,hc59b,hg71,bs];done)|simp [hc7b,hc13b,hc22b,hc33b,hc40b,hc59b,hg71]),trivial⟩,hEE⟩
   rintro a w16 ⟨hf,hE⟩;replace hB4:=hB4.below hE;replace hB19:=hB19.below hE;replace hB65:=hB65.below hE;replace hr56:=hr56.below hE;replace hW:=btr hW hE;refine hK66 _ _ ?_
   refine Xe hf rfl (fun hc72=>?_) (fun hc72=>?_)
   ·have hc72b:=hc72;have hp:=hc72
    rw [← hgq] at hp
    have hfin:=X46 hinv hin (Xug hgi h12 hx hA2 (X2h (j:=q) (by omega) hp)) (by decide)
    refine Zs hf fun _ hK73=>?_;refine Zm rfl<|Za rfl<|Za rfl ?_;refine Zt hK73 fun a hf=>?_;refine wp_ret ?_;refine Xr ?_;refine X5 ?_;refine X5 ?_;refine Xr ?_;refine Xr ?_;refine X5 ?_;refine X5 ?_;refine Xr ?_;refine X5 ?_;refine X3 hf (X15 hf rfl rfl rfl) ?_;exact ⟨by rw [hfin],hW⟩
   have hc72b:=hc72;have hp:=hc72
   rw [← hgq] at hp
   have hnB:=X2b hB hp;refine wp_skip ?_;refine Xd ?_;refine hK61 _ _ ?_;refine Zr hf ?_;refine Ze (Xp rfl rfl (by omega) (by omega))<|Zm rfl ?_;refine Zn fun a hf=>?_;refine Xc ?_;exact ⟨q+1,⟨hf.sub ⟨rfl,rfl,rfl,rfl,rfl,rfl,rfl,rfl,rfl,rfl,trivial⟩,(by omega),hnB,hB4,hB19,hr56,hp_c,hW⟩,(by omega)⟩
  have hc59b:=hc59;have hc59:=of_decide_eq_false hc59
  rw [show q=i from by omega] at hB
  have hnx:=X65 hinv hin (Xt2 hgi h12 hx hA2 hB);refine wp_exit ?_;refine Xf ?_;refine Xf ?_;refine Xy ?_;refine Xd ?_;refine hK15 _ _ ?_;refine Zr hf ?_;refine Ze (Xp rfl rfl (by omega) (by omega))<|Zm rfl ?_;refine Zn fun a hf=>?_;refine Xc ?_;exact ⟨i+1,⟨hf.sub ⟨rfl,rfl,rfl,rfl,rfl,trivial⟩,(by omega),hnx,hB4,hp_c,hW⟩,(by omega)⟩
 have hc13b:=hc13;have hc13:=of_decide_eq_false hc13
 have hfin:=Xab hinv (by omega)
 refine wp_exit ?_;refine Xf ?_;refine Xf ?_;refine Xy ?_;refine hK9 _ _ ?_;refine Zs hf fun _ hK74=>?_;refine Za rfl<|Za rfl ?_;refine Zt hK74 fun a hf=>?_
 refine wp_ret (X3 hf (X15 hf rfl rfl rfl) ?_)
 exact ⟨by rw [hfin],hW⟩
theorem F15(w0:World)(c:Cx)(Ac:Option Addr)(cc:Nat)(hr_c:Rd w0 w0.heap.size 24 encG Ac c.gs)(hp_c:c.gs.length≤cc)(As:Option Addr)(cs:Nat)(s:List Int)(hr_s:Rd w0 w0.heap.size 3 encI As s)(hln:c.gs.length≤2305843009213693951) : Ret Tryz.prog 39 [.agg #[vi c.n,.slice Ac c.gs.length cc],.slice As s.length cs] w0 (fun v w=>v=.tuple #[vi ((specC c s).1),vi ((specC c s).2.1),.bool ((specC c s).2.2)]∧Below w0.heap.size w0 w):=by
 refine enter Tryz.func39 rfl 20 rfl rfl ?_;intro a hf
 have hW:Below w0.heap.size w0 w0:=Below.refl _ _
 refine Zs hf fun _ hK3=>?_;refine Zf (X0p (zs:=[vi c.n,.slice Ac c.gs.length cc]) rfl rfl) ?_;rintro _ w1 ⟨b4,rfl,hl4,hE,hB4⟩;have hlo4:=Nat.le_trans hW.size hl4;replace hW:=btr hW hE;refine Za rfl<|Za rfl<|Za rfl ?_;refine Zt hK3 fun a hf=>?_;refine wp_seq_k fun _ hK5=>?_;refine Zs hf fun _ hK6=>?_;refine Ze (Vn X0q hB4) ?_;refine Zf (Vc (F53 _ c Ac cc (hr_c.below' hW).top) Xp9) ?_;rintro _ w2 ⟨rfl,hE⟩;replace hB4:=hB4.below hE;replace hW:=btr hW hE;refine Ze (X16 rfl) ?_;refine Zt hK6 fun a hf=>?_
 refine Xe hf rfl (fun hc7=>?_) (fun hc7=>?_)
 ·have hc7b:=hc7
  have hfin:specC c s=(0,0,false):=by rw [specC,if_neg];revert hc7;cases cOk c<;>simp
  refine Zs hf fun _ hK8=>?_;refine Za rfl<|Za rfl<|Za rfl ?_;refine Zt hK8 fun a hf=>?_;refine wp_ret ?_;refine X5 ?_;refine X3 hf (Xhy hf rfl rfl rfl rfl) ?_;exact ⟨by rw [hfin],hW⟩
 have hc7b:=hc7
 have hc:cOk c=true:=by revert hc7;cases cOk c<;>simp
 have hfin:specC c s=((schedS c.gs s).1,(schedS c.gs s).2,true):=by rw [specC,if_pos hc]
 refine wp_skip ?_;refine hK5 _ _ ?_;refine Zs hf fun _ hK9=>?_;refine Ze (Vn X0q hB4)<|Zm rfl ?_;refine Zf (Vc (F54 _ c Ac cc (hr_c.below' hW).top hp_c As cs s (hr_s.below' hW).top hc) Xuy) ?_;rintro _ w3 ⟨rfl,hE⟩;replace hB4:=hB4.below hE;replace hW:=btr hW hE;refine Zm rfl<|Ze (X8 (vs:=[vi ((schedS c.gs s).1),vi ((schedS c.gs s).2)]) rfl rfl)<|Ze (X8 (vs:=[vi ((schedS c.gs s).1),vi ((schedS c.gs s).2)]) rfl rfl)<|Za rfl<|Za rfl ?_;refine Zt hK9 fun a hf=>?_;refine Zs hf fun _ hK10=>?_;refine Zm rfl<|Zm rfl<|Za rfl<|Za rfl<|Za rfl ?_;refine Zt hK10 fun a hf=>?_
 refine wp_ret (X3 hf (Xhy hf rfl rfl rfl rfl) ?_)
 exact ⟨by rw [hfin],hW⟩
theorem Xvr(w0:World)(Al:Option Addr)(cl:Nat)(l:List Gt)(hr_l:Rd w0 w0.heap.size 24 encG Al l)(Ato:Option Addr)(cto:Nat)(to:List Int)(hr_to:Rd w0 w0.heap.size 3 encI Ato to)(hq:∀ g ∈ l,(g.k≠12→0≤g.a∧g.a<5)∧(inR g.k 9 11=true→0≤g.b∧g.b<5))(hto:to.length=5)(hln:l.length≤1000000) : Ret Tryz.prog 103 [.slice Al l.length cl,.slice Ato 5 cto] w0 (fun v w=>∃ A c,v=.slice A (mapI l to).length c∧Own w w0.heap.size 24 3 encG A c (mapI l to)∧Below w0.heap.size w0 w):=by
 have h:=F51 w0 Al cl l hr_l Ato cto to hr_to 5 hq hto hln
 rw [hto] at h
 exact h
theorem Xvm(w0:World)(g:Gt)(h:Gt)(n:Int)(hg:gOk n g=true)(hh:gOk n h=true) : Ret Tryz.prog 52 [.agg #[vi g.k,vi g.a,vi g.b],.agg #[vi h.k,vi h.a,vi h.b]] w0 (fun v w=>v=.bool (commI g h)∧Below w0.heap.size w0 w):=by
 have hql:=X2z g;have hqh:=X2z h;refine enter Tryz.func52 rfl 64 rfl rfl ?_;intro a hf
 have hW:Below w0.heap.size w0 w0:=Below.refl _ _
 refine Zs hf fun _ hK1=>?_;refine Zf (X0p (zs:=[vi g.k,vi g.a,vi g.b]) rfl rfl) ?_;rintro _ w1 ⟨b2,rfl,hl2,hE,hB2⟩;have hlo2:=Nat.le_trans hW.size hl2;replace hW:=btr hW hE;refine Zf (X0p (zs:=[vi h.k,vi h.a,vi h.b]) rfl rfl) ?_;rintro _ w2 ⟨b3,rfl,hl3,hE,hB3⟩
 have hne2_3:b2≠b3:=by have:=hB2.lt;omega
 have hlo3:=Nat.le_trans hW.size hl3;replace hB2:=hB2.below hE;replace hW:=btr hW hE;refine Za rfl ?_;refine Zt hK1 fun a hf=>?_;refine wp_seq_k fun _ hK4=>?_;refine Zs hf fun _ hK5=>?_;refine Ze (Vn Xt hB2)<|Ze (Vn Xt hB3) ?_;refine Zf (Vc (Xqi _ g h) Xfj) ?_;rintro _ w3 ⟨rfl,hE⟩;replace hB2:=hB2.below hE;replace hB3:=hB3.below hE;replace hW:=btr hW hE;refine Ze (X16 rfl) ?_;refine Zt hK5 fun a hf=>?_
 refine Xe hf rfl (fun hc6=>?_) (fun hc6=>?_)
 ·have hc6b:=hc6
  have hfin:commI g h=true:=by rw [commI,if_neg];revert hc6;cases comI g h<;>simp
  refine Zs hf fun _ hK7=>?_;refine Za rfl ?_;refine Zt hK7 fun a hf=>?_;refine wp_ret ?_;refine X5 ?_;refine X3 hf (Xq hf rfl rfl) ?_;exact ⟨by rw [hfin],hW⟩
 have hc6b:=hc6
 have hc:comI g h=true:=by revert hc6;cases comI g h<;>simp
 have P:PairOk (unionI (qubI g) (qubI h)) g h:=X8n hg hh (X4c.1 hc) (Xae _ _) (fun x=>Xb7 _ _ x)
 have hlu:=P.len;refine wp_skip ?_;refine hK4 _ _ ?_;refine Zs hf fun _ hK8=>?_;refine Zf (X21 (m:=5) (enc:=encI) (z0:=0) rfl rfl Xg X19 z_3 rfl X6 (by decide) (by decide)) ?_;rintro _ w4 ⟨b9,rfl,hl9,hE,hB9⟩;have hlo9:=Nat.le_trans hW.size hl9;replace hB2:=hB2.below hE;replace hB3:=hB3.below hE;replace hW:=btr hW hE;refine Za rfl<|Za rfl ?_;refine Zt hK8 fun a hf=>?_;refine wp_seq_k fun _ hK11=>?_;refine wp_seq_k fun _ hK12=>?_;refine X05 none (fun _=>false) mixed ?_;intro w5 hE;replace hB2:=hB2.below hE;replace hB3:=hB3.below hE;replace hB9:=hB9.below hE;replace hW:=btr hW hE;refine Yb hf ?_;refine Ye 0 rfl (Vn Xt hB2)<|Ye 2 rfl (Vn Xt hB3)<|Yo 6 rfl (fun _=>X2 rfl) ?_;refine Y1 1 ?_;refine Yk rfl trivial (Vc (F96 _ g) Xao) (fun _ _ ⟨A13,c13,_,ho13,hE⟩=>hE) ?_;rintro _ w6 ⟨A13,c13,rfl,ho13,hE⟩;have haw13_9:=ho13.awayNew hB9.lt;replace ho13:=ho13.lower hW.size;replace hB2:=hB2.below hE;replace hB3:=hB3.below hE;replace hB9:=hB9.below hE;replace hW:=btr hW hE;refine Y1 3 ?_;refine Yk rfl trivial (Vc (F96 _ h) Xao) (fun _ _ ⟨A14,c14,_,ho14,hE⟩=>hE) ?_;rintro _ w7 ⟨A14,c14,rfl,ho14,hE⟩;have haw14_9:=ho14.awayNew hB9.lt;replace ho14:=ho14.lower hW.size;replace hB2:=hB2.below hE;replace hB3:=hB3.below hE;replace hB9:=hB9.below hE;replace ho13:=ho13.below hE;replace hW:=btr hW hE;refine Y1 4 ?_;refine Yk rfl trivial (Vc (F47 _ A13 c13 (qubI g) ho13.rd.top A14 c14 (qubI h) ho14.rd.top (by omega) (by omega)) Xtq) (fun _ _ ⟨A15,c15,_,ho15,hE⟩=>hE) ?_;rintro _ w8 ⟨A15,c15,rfl,ho15,hE⟩;have haw15_9:=ho15.awayNew hB9.lt;replace ho15:=ho15.lower hW.size;replace hB2:=hB2.below hE;replace hB3:=hB3.below hE;replace hB9:=hB9.below hE;replace ho13:=ho13.below hE;replace ho14:=ho14.below hE;replace hW:=btr hW hE;refine Yo 5 rfl (fun _=>X0y rfl Xg) ?_;refine Yd fun a hf=>?_
 refine hK12 _ _ ?_;refine wp_block ?_;refine Xx (σ:=Nat×(List Int)) (fun (s:Nat×(List Int)) (a:Act) (w:World)=>match s with|(k,to)=>Fr a 64 [(2,.pointer (some ⟨b2,0,none⟩)),(3,.pointer (some ⟨b3,0,none⟩)),(5,.slice (some ⟨b9,0,none⟩) 5 5),(6,vi (k:Int)),(23,.slice A15 (unionI (qubI g) (qubI h)).length c15),(24,vi ((unionI (qubI g) (qubI h)).length:Int)),(25,vi (k:Int))]∧(k≤(unionI (qubI g) (qubI h)).length)∧(to=numbI ((unionI (qubI g) (qubI h)).take k))∧Blk w b2 24 [vi g.k,vi g.a,vi g.b]∧Blk w b3 24 [vi h.k,vi h.a,vi h.b]∧Blk w b9 3 (to.flatMap encI)∧Own w w0.heap.size 3 1 encI A15 c15 (unionI (qubI g) (qubI h))∧Below w0.heap.size w0 w) (fun (s:Nat×(List Int))=>match s with|(k,to)=>(unionI (qubI g) (qubI h)).length-k) (0,[0,0,0,0,0]) ?_ ?_
 ·exact ⟨hf.sub ⟨rfl,rfl,rfl,rfl,rfl,rfl,rfl,trivial⟩,(Nat.zero_le _),rfl,hB2,hB3,hB9,ho15,hW⟩
 rintro ⟨k,to⟩ a w9 ⟨hf,hk,hto,hB2,hB3,hB9,ho15,hW⟩
 have hlt:to.length=5:=by rw [hto,Xcu]
 refine Zs hf fun _ hK16=>?_;refine Ze (X0l rfl rfl) ?_;refine Zt hK16 fun a hf=>?_;refine wp_seq_k fun _ hK17=>?_
 refine Xe hf rfl (fun hc18=>?_) (fun hc18=>?_)
 ·have hc18b:=hc18;have hc18:=of_decide_eq_true hc18
  obtain ⟨u19,hu19⟩:=Xl (l:=(unionI (qubI g) (qubI h))) (k:=k) (by omega)
  have hb:=P.low u19 (List.mem_of_getElem? hu19);refine wp_skip ?_;refine hK17 _ _ ?_;refine wp_seq_k fun _ hK20=>?_;refine wp_block ?_;refine Zs hf fun _ hK21=>?_;refine Zi (k:=k) (u:=u19) (enc:=encI) (l:=(unionI (qubI g) (qubI h))) trivial rfl rfl Xg X0h X6 ho15.rd hu19 rfl ?_;intro p23 hat22;refine Ze (X0 rfl X4 hat22)<|Za rfl ?_;refine Zt hK21 fun a hf=>?_;refine Zs hf fun _ hK24=>?_;refine Zm rfl<|Zm rfl<|Zm rfl<|Ze (X5s (k:=u19.toNat) (off:=u19.toNat*1) rfl rfl Xg X0h (by omega) (by omega) rfl) ?_;refine Zo (X6y (enc:=encI) (l:=to) (u:=(k:Int)) (k:=u19.toNat) rfl rfl X0h hB9 X6 X1n rfl (by omega)) ?_;rintro _ w10 ⟨ho,hb⟩;have hold:=hB9;replace hB2:=hB2.only ho (Blk.ne hB2 hold rfl);replace hB3:=hB3.only ho (Blk.ne hB3 hold rfl);replace ho15:=ho15.onlyA ho haw15_9;replace hW:=Below.only hW ho hlo9;clear hold;have hB9:=hb;clear hb ho;refine Zt hK24 fun a hf=>?_;refine Zr hf ?_;refine Zm rfl<|Ze (Xp rfl rfl (by omega) (by omega))<|Za rfl ?_;refine Zn fun a hf=>?_;refine Xd ?_;refine hK20 _ _ ?_;refine Zr hf ?_;refine Ze (Xp rfl rfl (by omega) (by omega))<|Zm rfl ?_;refine Zn fun a hf=>?_;refine Xc ?_;exact ⟨(k+1,(to.set (u19.toNat) (k:Int))),⟨hf.sub ⟨rfl,rfl,rfl,rfl,rfl,rfl,rfl,trivial⟩,(by omega),(by rw [Xaz hu19,hto]),hB2,hB3,hB9,ho15,hW⟩,(by first|omega|(dsimp only;omega))⟩
 have hc18b:=hc18;have hc18:=of_decide_eq_false hc18
 have hfin:commI g h=eqM ((opI ⟨(k:Int),mapI [g,h] to⟩).getD mZ) ((opI ⟨(k:Int),[mapG to h,mapG to g]⟩).getD mZ):=by rw [commI,if_pos hc,hto,List.take_of_length_le (by omega),show k=(unionI (qubI g) (qubI h)).length from by omega]
 refine wp_exit ?_;refine Xf ?_;refine Xf ?_;refine Xy ?_;refine hK11 _ _ ?_;refine Zs hf fun _ hK25=>?_;refine Ze (Vn Xt hB2)<|Ze (Vn Xt hB3) ?_;refine Zf (Xm (k:=2) (vs:=[.agg #[vi g.k,vi g.a,vi g.b],.agg #[vi h.k,vi h.a,vi h.b]]) (zs:=[vi g.k,vi g.a,vi g.b,vi h.k,vi h.a,vi h.b]) rfl X0c X1v rfl rfl) ?_;rintro _ w11 ⟨b26,rfl,hl26,hE,hB26⟩
 have hne2_26:b2≠b26:=by have:=hB2.lt;omega
 have hne3_26:b3≠b26:=by have:=hB3.lt;omega
 have hlo26:=Nat.le_trans hW.size hl26;replace hB2:=hB2.below hE;replace hB3:=hB3.below hE;replace hB9:=hB9.below hE;replace ho15:=ho15.below hE;replace hW:=btr hW hE;refine Zm rfl ?_;refine Zf (Vc (Xvr _ (some ⟨b26,0,none⟩) 2 ([g,h]) (Rd.of_blk hB26 rfl _ hB26.lt) (some ⟨b9,0,none⟩) 5 to (Rd.of_blk hB9 rfl _ hB9.lt) (Xi8 (n:=n) (l:=[g,h]) (fun x hx=>by rcases List.mem_cons.1 hx with rfl|hx;exact hg;rw [List.mem_singleton.1 hx];exact hh)) hlt (by simp)) Xty) ?_;rintro _ w12 ⟨A28,c28,rfl,ho28,hE⟩;have haw28_2:=ho28.awayNew hB2.lt;have haw28_3:=ho28.awayNew hB3.lt;have haw28_26:=ho28.awayNew hB26.lt;replace ho28:=ho28.lower hW.size;replace hB2:=hB2.below hE;replace hB3:=hB3.below hE;replace hB9:=hB9.below hE;replace hB26:=hB26.below hE;replace ho15:=ho15.below hE;replace hW:=btr hW hE;refine Za rfl ?_;refine Zt hK25 fun a hf=>?_;refine Zs hf fun _ hK29=>?_;refine Zm rfl<|Zm rfl<|Ze (Xz (ps:=[(0,vi (k:Int)),(1,.slice A28 (mapI ([g,h]) to).length c28)]) (cs:=[vi (k:Int),.slice A28 (mapI ([g,h]) to).length c28]) rfl (fun _=>by first|rfl|kernel_rfl)) ?_;refine Zf (Vc (F97 _ (⟨(k:Int),(mapI ([g,h]) to)⟩ : Cx) A28 c28 ho28.rd.top (by simp [mapI])) Xeu) ?_;rintro _ w13 ⟨A31,c31,rfl,hr31,hE⟩;replace ho28:=ho28.below hE;replace hW:=btr hW hE;refine Zm rfl<|Ze (X8 (vs:=[.agg #[vi (((opI (⟨(k:Int),(mapI ([g,h]) to)⟩ : Cx)).getD mZ).rows),vi (((opI (⟨(k:Int),(mapI ([g,h]) to)⟩ : Cx)).getD mZ).cols),.slice A31 (((opI (⟨(k:Int),(mapI ([g,h]) to)⟩ : Cx)).getD mZ).cells).length c31],.bool ((opI (⟨(k:Int),(mapI ([g,h]) to)⟩ : Cx)).isSome)]) rfl rfl)<|Ze (X8 (vs:=[.agg #[vi (((opI (⟨(k:Int),(mapI ([g,h]) to)⟩ : Cx)).getD mZ).rows),vi (((opI (⟨(k:Int),(mapI ([g,h]) to)⟩ : Cx)).getD mZ).cols),.slice A31 (((opI (⟨(k:Int),(mapI ([g,h]) to)⟩ : Cx)).getD mZ).cells).length c31],.bool ((opI (⟨(k:Int),(mapI ([g,h]) to)⟩ : Cx)).isSome)]) rfl rfl) ?_
 refine Zf (Xa (zs:=[vi 0,vi 0,.slice none 0 0]) X1a rfl) ?_;rintro _ w14 ⟨b33,rfl,hl33,hE,hB33⟩;have hlo33:=Nat.le_trans hW.size hl33;replace ho28:=ho28.below hE;replace hr31:=hr31.below hE;replace hW:=btr hW hE;refine Zo (Vw [vi (((opI (⟨(k:Int),(mapI ([g,h]) to)⟩ : Cx)).getD mZ).rows),vi (((opI (⟨(k:Int),(mapI ([g,h]) to)⟩ : Cx)).getD mZ).cols),.slice A31 (((opI (⟨(k:Int),(mapI ([g,h]) to)⟩ : Cx)).getD mZ).cells).length c31] X1j hB33) ?_;rintro _ w15 ⟨ho,hb⟩;have hold:=hB33;replace ho28:=ho28.onlyT ho hold rfl;replace hr31:=hr31.onlyT ho hold rfl;replace hW:=Below.only hW ho hlo33;clear hold;have hB33:=hb;clear hb ho;refine Za rfl ?_;refine Zt hK29 fun a hf=>?_;refine wp_seq_k fun _ hK34=>?_;refine X08 (fun a w=>∃ b44 A42 c42,Fr a 64 [(10,.pointer (some ⟨b33,0,none⟩)),(12,.pointer (some ⟨b44,0,none⟩))]∧w0.heap.size≤b44∧Blk w b44 38 [vi (((opI (⟨(k:Int),[(mapG to h),(mapG to g)]⟩ : Cx)).getD mZ).rows),vi (((opI (⟨(k:Int),[(mapG to h),(mapG to g)]⟩ : Cx)).getD mZ).cols),.slice A42 (((opI (⟨(k:Int),[(mapG to h),(mapG to g)]⟩ : Cx)).getD mZ).cells).length c42]∧b33≠b44∧Rd w w.heap.size 98 encD A42 (((opI (⟨(k:Int),[(mapG to h),(mapG to g)]⟩ : Cx)).getD mZ).cells)∧Below w15.heap.size w15 w) ?_ ?_
 ·have hEc:Below w15.heap.size w15 w15:=Below.refl _ _
  refine X05 none (fun j=>[14].contains j) mixed ?_;intro w16 hE;replace hB33:=hB33.below hE;replace ho28:=ho28.below hE;replace hr31:=hr31.below hE;replace hW:=btr hW hE;replace hEc:=btr hEc hE;refine Yb hf ?_;refine Yo 0 rfl (fun _=>X2 rfl)<|Yo 1 rfl (fun _=>X2 rfl) ?_;refine Yi (k:=1) (u:=(mapG to h)) (enc:=encG) (l:=(mapI ([g,h]) to)) 2 rfl trivial rfl rfl X0c X0g X0d ho28.rd rfl rfl ?_;intro p36 hat35;refine Ye 3 rfl (X09 (l:=[vi ((mapG to h).k),vi ((mapG to h).a),vi ((mapG to h).b)]) rfl Xt hat35 rfl)<|Yo 4 rfl (fun _=>X2 rfl) ?_;refine Yi (k:=0) (u:=(mapG to g)) (enc:=encG) (l:=(mapI ([g,h]) to)) 5 rfl trivial rfl rfl X0c X0g X0d ho28.rd rfl rfl ?_;intro p38 hat37;refine Ye 6 rfl (X09 (l:=[vi ((mapG to g).k),vi ((mapG to g).a),vi ((mapG to g).b)]) rfl Xt hat37 rfl) ?_
  have hJc:Below w16.heap.size w16 w16:=Below.refl _ _
  refine Yc [0,1,2,3,4,5,6,7,8,9,10,11,12,13] 2 (fun a w=>∃ b44 A42 c42,Fr a 64 [(10,.pointer (some ⟨b33,0,none⟩)),(12,.pointer (some ⟨b44,0,none⟩)),(59,.agg #[vi (((opI (⟨(k:Int),[(mapG to h),(mapG to g)]⟩ : Cx)).getD mZ).rows),vi (((opI (⟨(k:Int),[(mapG to h),(mapG to g)]⟩ : Cx)).getD mZ).cols),.slice A42 (((opI (⟨(k:Int),[(mapG to h),(mapG to g)]⟩ : Cx)).getD mZ).cells).length c42]),(60,.bool ((opI (⟨(k:Int),[(mapG to h),(mapG to g)]⟩ : Cx)).isSome))]∧w0.heap.size≤b44∧Blk w b44 38 [vi 0,vi 0,.slice none 0 0]∧b33≠b44∧w16.heap.size≤b44∧w15.heap.size≤b44∧Rd w w.heap.size 98 encD A42 (((opI (⟨(k:Int),[(mapG to h),(mapG to g)]⟩ : Cx)).getD mZ).cells)∧Below w16.heap.size w16 w) ?_ ?_
  ·rintro a w17 ⟨b44,A42,c42,hf,hlo44,hB44,hne33_44,hlj44,hlc44,hr42,hE⟩;clear hJc;have hJc:=hE;replace hB33:=hB33.below hE;replace ho28:=ho28.below hE;replace hr31:=hr31.below hE;replace hW:=btr hW hE;replace hEc:=btr hEc hE;refine Yb hf ?_;refine Y1 14 ?_;refine Yh rfl trivial rfl (Vw [vi (((opI (⟨(k:Int),[(mapG to h),(mapG to g)]⟩ : Cx)).getD mZ).rows),vi (((opI (⟨(k:Int),[(mapG to h),(mapG to g)]⟩ : Cx)).getD mZ).cols),.slice A42 (((opI (⟨(k:Int),[(mapG to h),(mapG to g)]⟩ : Cx)).getD mZ).cells).length c42] X1j hB44) ?_;rintro _ w18 ⟨ho,hb⟩;have hold:=hB44;replace hB33:=hB33.only ho (by omega);replace ho28:=ho28.onlyT ho hold rfl;replace hr31:=hr31.onlyT ho hold rfl;replace hr42:=hr42.onlyT ho hold rfl;replace hEc:=Below.only hEc ho hlc44;replace hJc:=Below.only hJc ho hlj44;replace hW:=Below.only hW ho hlo44;clear hold;have hB44:=hb;clear hb ho;refine Yo 15 rfl (fun _=>X1s rfl) ?_;refine Yd fun a hf=>?_
   have hEE:Below w15.heap.size w15 w18:=hEc
   exact ⟨b44,A42,c42,hf.sub ⟨rfl,rfl,trivial⟩,hlo44,hB44,hne33_44,hr42.top,hEE⟩
  intro hJ39;refine Yc [0,1,2,3,4,5,6,7,8,13] 6 (fun a w=>∃ b39 b46,Fr a 64 [(10,.pointer (some ⟨b33,0,none⟩)),(12,.pointer (some ⟨b46,0,none⟩)),(57,.agg #[vi (k:Int),.slice (some ⟨b39,0,none⟩) ([(mapG to h),(mapG to g)]).length 2])]∧w0.heap.size≤b39∧Blk w b39 24 [vi ((mapG to h).k),vi ((mapG to h).a),vi ((mapG to h).b),vi ((mapG to g).k),vi ((mapG to g).a),vi ((mapG to g).b)]∧w0.heap.size≤b46∧Blk w b46 38 [vi 0,vi 0,.slice none 0 0]∧b33≠b46∧w16.heap.size≤b39∧w15.heap.size≤b39∧w16.heap.size≤b46∧w15.heap.size≤b46∧Away A28 b39∧Below w16.heap.size w16 w) ?_ ?_
  ·rintro a w19 ⟨b39,b46,hf,hlo39,hB39,hlo46,hB46,hne33_46,hlj39,hlc39,hlj46,hlc46,haw28_39,hE⟩;clear hJc;have hJc:=hE;replace hB33:=hB33.below hE;replace ho28:=ho28.below hE;replace hr31:=hr31.below hE;replace hW:=btr hW hE;replace hEc:=btr hEc hE;refine Yb hf ?_;refine Y1 9 ?_;refine Yk rfl trivial (Vc (F97 _ (⟨(k:Int),[(mapG to h),(mapG to g)]⟩ : Cx) (some ⟨b39,0,none⟩) 2 (Rd.of_blk hB39 rfl _ hB39.lt) (by simp)) Xeu) (fun _ _ ⟨A43,c43,_,hr43,hE⟩=>hE) ?_;rintro _ w20 ⟨A43,c43,rfl,hr43,hE⟩;replace hB33:=hB33.below hE;replace hB39:=hB39.below hE;replace hB46:=hB46.below hE;replace ho28:=ho28.below hE;replace hr31:=hr31.below hE;replace hW:=btr hW hE;replace hEc:=btr hEc hE;replace hJc:=btr hJc hE;refine Yo 10 rfl (fun _=>X2 rfl)<|Yo 11 rfl (fun _=>X8 (vs:=[.agg #[vi (((opI (⟨(k:Int),[(mapG to h),(mapG to g)]⟩ : Cx)).getD mZ).rows),vi (((opI (⟨(k:Int),[(mapG to h),(mapG to g)]⟩ : Cx)).getD mZ).cols),.slice A43 (((opI (⟨(k:Int),[(mapG to h),(mapG to g)]⟩ : Cx)).getD mZ).cells).length c43],.bool ((opI (⟨(k:Int),[(mapG to h),(mapG to g)]⟩ : Cx)).isSome)]) rfl rfl)<|Yo 12 rfl (fun _=>X8 (vs:=[.agg #[vi (((opI (⟨(k:Int),[(mapG to h),(mapG to g)]⟩ : Cx)).getD mZ).rows),vi (((opI (⟨(k:Int),[(mapG to h),(mapG to g)]⟩ : Cx)).getD mZ).cols),.slice A43 (((opI (⟨(k:Int),[(mapG to h),(mapG to g)]⟩ : Cx)).getD mZ).cells).length c43],.bool ((opI (⟨(k:Int),[(mapG to h),(mapG to g)]⟩ : Cx)).isSome)]) rfl rfl) ?_;exact fun a hf=>hJ39 _ a _ rfl ⟨b46,A43,c43,hf.sub ⟨rfl,rfl,rfl,rfl,trivial⟩,hlo46,hB46,hne33_46,hlj46,hlc46,hr43.top,hJc⟩
  intro hJ41;refine Y2 7 13 ?_ ?_
  ·refine Yk rfl trivial (Xm (k:=2) (vs:=[.agg #[vi ((mapG to h).k),vi ((mapG to h).a),vi ((mapG to h).b)],.agg #[vi ((mapG to g).k),vi ((mapG to g).a),vi ((mapG to g).b)]]) (zs:=[vi ((mapG to h).k),vi ((mapG to h).a),vi ((mapG to h).b),vi ((mapG to g).k),vi ((mapG to g).a),vi ((mapG to g).b)]) rfl X0c X1v rfl rfl) (fun _ _ ⟨_,_,_,h,_⟩=>h) ?_;rintro _ w21 ⟨b44,rfl,hl44,hE,hB44⟩;have hlo44:=Nat.le_trans hW.size hl44;have hlc44:=Nat.le_trans hEc.size hl44;have hlj44:=Nat.le_trans hJc.size hl44;have haw28_44:=ho28.away hl44;replace hB33:=hB33.below hE;replace ho28:=ho28.below hE;replace hr31:=hr31.below hE;replace hW:=btr hW hE;replace hEc:=btr hEc hE;replace hJc:=btr hJc hE;refine Yo 8 rfl (fun _=>Xz (ps:=[(0,vi (k:Int)),(1,.slice (some ⟨b44,0,none⟩) ([(mapG to h),(mapG to g)]).length 2)]) (cs:=[vi (k:Int),.slice (some ⟨b44,0,none⟩) ([(mapG to h),(mapG to g)]).length 2]) rfl (fun _=>by first|rfl|kernel_rfl)) ?_;refine Y2 9 13 ?_ ?_
   ·refine Yk rfl trivial (Vc (F97 _ (⟨(k:Int),[(mapG to h),(mapG to g)]⟩ : Cx) (some ⟨b44,0,none⟩) 2 (Rd.of_blk hB44 rfl _ hB44.lt) (by simp)) Xeu) (fun _ _ ⟨A47,c47,_,hr47,hE⟩=>hE) ?_;rintro _ w22 ⟨A47,c47,rfl,hr47,hE⟩;replace hB33:=hB33.below hE;replace hB44:=hB44.below hE;replace ho28:=ho28.below hE;replace hr31:=hr31.below hE;replace hW:=btr hW hE;replace hEc:=btr hEc hE;replace hJc:=btr hJc hE;refine Yo 10 rfl (fun _=>X2 rfl)<|Yo 11 rfl (fun _=>X8 (vs:=[.agg #[vi (((opI (⟨(k:Int),[(mapG to h),(mapG to g)]⟩ : Cx)).getD mZ).rows),vi (((opI (⟨(k:Int),[(mapG to h),(mapG to g)]⟩ : Cx)).getD mZ).cols),.slice A47 (((opI (⟨(k:Int),[(mapG to h),(mapG to g)]⟩ : Cx)).getD mZ).cells).length c47],.bool ((opI (⟨(k:Int),[(mapG to h),(mapG to g)]⟩ : Cx)).isSome)]) rfl rfl)<|Yo 12 rfl (fun _=>X8 (vs:=[.agg #[vi (((opI (⟨(k:Int),[(mapG to h),(mapG to g)]⟩ : Cx)).getD mZ).rows),vi (((opI (⟨(k:Int),[(mapG to h),(mapG to g)]⟩ : Cx)).getD mZ).cols),.slice A47 (((opI (⟨(k:Int),[(mapG to h),(mapG to g)]⟩ : Cx)).getD mZ).cells).length c47],.bool ((opI (⟨(k:Int),[(mapG to h),(mapG to g)]⟩ : Cx)).isSome)]) rfl rfl) ?_;refine Y1 13 ?_;refine Yk rfl trivial (Xa (zs:=[vi 0,vi 0,.slice none 0 0]) X1a rfl) (fun _ _ ⟨_,_,_,h,_⟩=>h) ?_;rintro _ w23 ⟨b49,rfl,hl49,hE,hB49⟩
    have hne33_49:b33≠b49:=by have:=hB33.lt;omega
    have hlo49:=Nat.le_trans hW.size hl49;have hlc49:=Nat.le_trans hEc.size hl49;have hlj49:=Nat.le_trans hJc.size hl49;replace hB33:=hB33.below hE;replace hB44:=hB44.below hE;replace ho28:=ho28.below hE;replace hr31:=hr31.below hE;replace hr47:=hr47.below hE;replace hW:=btr hW hE;replace hEc:=btr hEc hE;replace hJc:=btr hJc hE;exact fun a hf=>hJ39 _ a _ rfl ⟨b49,A47,c47,hf.sub ⟨rfl,rfl,rfl,rfl,trivial⟩,hlo49,hB49,hne33_49,hlj49,hlc49,hr47.top,hJc⟩
   refine Yk rfl trivial (Xa (zs:=[vi 0,vi 0,.slice none 0 0]) X1a rfl) (fun _ _ ⟨_,_,_,h,_⟩=>h) ?_;rintro _ w24 ⟨b51,rfl,hl51,hE,hB51⟩
   have hne33_51:b33≠b51:=by have:=hB33.lt;omega
   have hlo51:=Nat.le_trans hW.size hl51;have hlc51:=Nat.le_trans hEc.size hl51;have hlj51:=Nat.le_trans hJc.size hl51;replace hB33:=hB33.below hE;replace hB44:=hB44.below hE;replace ho28:=ho28.below hE;replace hr31:=hr31.below hE;replace hW:=btr hW hE;replace hEc:=btr hEc hE;replace hJc:=btr hJc hE;exact fun a hf=>hJ41 _ a _ rfl ⟨b44,b51,hf.sub ⟨rfl,rfl,rfl,trivial⟩,hlo44,hB44,hlo51,hB51,hne33_51,hlj44,hlc44,hlj51,hlc51,haw28_44,hJc⟩
  refine Yk rfl trivial (Xa (zs:=[vi 0,vi 0,.slice none 0 0]) X1a rfl) (fun _ _ ⟨_,_,_,h,_⟩=>h) ?_;rintro _ w25 ⟨b53,rfl,hl53,hE,hB53⟩
  have hne33_53:b33≠b53:=by have:=hB33.lt;omega
  have hlo53:=Nat.le_trans hW.size hl53;have hlc53:=Nat.le_trans hEc.size hl53;have hlj53:=Nat.le_trans hJc.size hl53;replace hB33:=hB33.below hE;replace ho28:=ho28.below hE;replace hr31:=hr31.below hE;replace hW:=btr hW hE;replace hEc:=btr hEc hE;replace hJc:=btr hJc hE;refine Y1 7 ?_;refine Yk rfl trivial (Xm (k:=2) (vs:=[.agg #[vi ((mapG to h).k),vi ((mapG to h).a),vi ((mapG to h).b)],.agg #[vi ((mapG to g).k),vi ((mapG to g).a),vi ((mapG to g).b)]]) (zs:=[vi ((mapG to h).k),vi ((mapG to h).a),vi ((mapG to h).b),vi ((mapG to g).k),vi ((mapG to g).a),vi ((mapG to g).b)]) rfl X0c X1v rfl rfl) (fun _ _ ⟨_,_,_,h,_⟩=>h) ?_;rintro _ w26 ⟨b54,rfl,hl54,hE,hB54⟩;have hlo54:=Nat.le_trans hW.size hl54;have hlc54:=Nat.le_trans hEc.size hl54;have hlj54:=Nat.le_trans hJc.size hl54;have haw28_54:=ho28.away hl54;replace hB33:=hB33.below hE;replace hB53:=hB53.below hE;replace ho28:=ho28.below hE;replace hr31:=hr31.below hE;replace hW:=btr hW hE;replace hEc:=btr hEc hE;replace hJc:=btr hJc hE;refine Yo 8 rfl (fun _=>Xz (ps:=[(0,vi (k:Int)),(1,.slice (some ⟨b54,0,none⟩) ([(mapG to h),(mapG to g)]).length 2)]) (cs:=[vi (k:Int),.slice (some ⟨b54,0,none⟩) ([(mapG to h),(mapG to g)]).length 2]) rfl (fun _=>by first|rfl|kernel_rfl)) ?_;exact fun a hf=>hJ41 _ a _ rfl ⟨b54,b53,hf.sub ⟨rfl,rfl,rfl,trivial⟩,hlo54,hB54,hlo53,hB53,hne33_53,hlj54,hlc54,hlj53,hlc53,haw28_54,hJc⟩
 rintro a w27 ⟨b44,A42,c42,hf,hlo44,hB44,hne33_44,hr42,hE⟩;replace hB33:=hB33.below hE;replace ho28:=ho28.below hE;replace hr31:=hr31.below hE;replace hW:=btr hW hE;refine hK34 _ _ ?_;refine Zs hf fun _ hK57=>?_;refine Ze (Vn X13 hB33)<|Ze (Vn X13 hB44) ?_;refine Zf (Vc (Xw9 _ ((opI (⟨(k:Int),(mapI ([g,h]) to)⟩ : Cx)).getD mZ) A31 c31 hr31.top ((opI (⟨(k:Int),[(mapG to h),(mapG to g)]⟩ : Cx)).getD mZ) A42 c42 hr42.top (Xpr _)) Xre) ?_;rintro _ w28 ⟨rfl,hE⟩;replace hB33:=hB33.below hE;replace hB44:=hB44.below hE;replace hr31:=hr31.below hE;replace hr42:=hr42.below hE;replace hW:=btr hW hE;refine Za rfl ?_;refine Zt hK57 fun a hf=>?_
 refine wp_ret (X3 hf (Xq hf rfl rfl) ?_)
 exact ⟨by rw [hfin];rfl,hW⟩
end Go.Proofs.YtlfjcmldfbfdbaaGreat
