/-
  What is proved: for every drawn pair of gates, they commute exactly if the products of their matrices in both orders are equal (and depths of drawn circuits agree and are bounded): the law returns true at every input and leaves its arguments as they were. Conditions: none.
-/
import Derived.Test.YtlfjcmldfbfdbaaGreatD2
import Derived.Test.YtlfjcmldfbfdbaaGreatD1
import Derived.WideKeyRuns
set_option linter.unusedVariables false
set_option linter.unusedSimpArgs false
namespace Go.Proofs.YtlfjcmldfbfdbaaGreat
open Go.RowKit
def oA(A:Option Addr)(m:Nat) : Addr:=match A with
 | some p=>⟨p.block,m,none⟩
 | none=>⟨0,m,none⟩
section
variable {P : Program} {a : Act} {w w' : World} {n : Nat} {e : Env} {ty : TypeId} {pos : String} {af : Array Edge} {g : Option (Nat × Bool)} {d : Option Tmp} {α : Type}
end
section
variable {P : Program} {ops : Array Oper} {a : Act} {w : World} {n d : Nat} {e : Env} {ty : TypeId} {pos : String} {af : Array Edge} {g : Option (Nat × Bool)} {α : Type}
end
def Apart(A A':Option Addr) : Prop:=∀ p q,A=some p→A'=some q→p.block≠q.block
section
variable {α β : Type} {w w' : World} {B B0 B1 : Nat} {E E' : TypeId} {sz sz' : Nat} {enc : α → List Value} {enc' : β → List Value} {A A' : Option Addr} {c c' : Nat} {l : List α} {l' : List β}
theorem Own.apart(h:Own w B E sz enc A c l)(h':Own w' B0 E' sz' enc' A' c' l')(hB:w.heap.size≤B0) : Apart A A':=fun p q hp hq=>by
 rcases h.2 with ⟨h1,_⟩|⟨g,cap,cur,h1,h2,h3,_⟩
 ·injection h1 with h1;rw [h1] at hp;cases hp
 ·rcases h'.2 with ⟨k1,_⟩|⟨g',cap',cur',k1,k2,k3,_⟩
  ·injection k1 with k1;rw [k1] at hq;cases hq
  ·injection h1 with h1
   injection k1 with k1
   rw [h1] at hp
   rw [k1] at hq
   injection hp with hp
   injection hq with hq
   subst hp;subst hq
   have:=(Array.getElem?_eq_some_iff.1 h3).1
   intro e
   simp only at e
   omega
theorem Xbv(A:Option Addr)(n m c d:Nat) : (Value.slice A n c).ownBlock=(Value.slice A m d).ownBlock:=by cases A<;>rfl
theorem gtr{A:Option Addr}{n m c d:Nat}{w0 w w':World}(h:w0.grownBy w (Value.slice A n c).ownBlock)(k:w.grownBy w' (Value.slice A m d).ownBlock) : w0.grownBy w' (Value.slice A n c).ownBlock:=
 ⟨k.os.trans h.os,k.tape.trans h.tape,k.output.trans h.output,Nat.le_trans h.size k.size,fun q hq hn=>(k.block q (Nat.lt_of_lt_of_le hq h.size) (by rw [Xbv A m n d c];exact hn)).trans (h.block q hq hn)⟩
theorem Own.len{m:Nat}(h:Own w B E sz enc A c l)(hm:m=l.length) : Own w B E sz enc A c l∧Value.slice A m c=Value.slice A l.length c:=⟨h,by rw [hm]⟩
theorem Apart.symm(h:Apart A A') : Apart A' A:=fun p q hp hq e=>h q p hq hp e.symm
end
def DeepI(w:World)(B:Nat)(l:List Sl) : Prop:=∀ s ∈ l,Rd w B 3 encI s.A s.l
section
variable {w w' : World} {B : Nat} {l : List Sl}
theorem DeepI.below(h:DeepI w B l)(hb:Below w.heap.size w w') : DeepI w' B l:=fun s hs=>(h s hs).below hb
theorem DeepI.top(h:DeepI w B l) : DeepI w w.heap.size l:=fun s hs=>(h s hs).top
theorem DeepI.only{b:Nat}(h:DeepI w B l)(ho:Only b w w')(hB:B≤b) : DeepI w' B l:=fun s hs=>(h s hs).only ho hB
theorem DeepI.onlyT{b:Nat}{T:TypeId}{lc:List Value}(h:DeepI w B l)(ho:Only b w w')(hb:Blk w b T lc)(hT:Nat.beq 3 T=false) : DeepI w' B l:=fun s hs=>(h s hs).onlyT ho hb hT
theorem DeepI.appB{B0:Nat}{E':TypeId}{sz:Nat}{α:Type}{enc:α→List Value}{A:Option Addr}{c:Nat}{m:List α}(h:DeepI w B l)(ho:Own w B0 E' sz enc A c m)(hg:w.grownBy w' (Value.slice A m.length c).ownBlock)(hB:B≤B0) : DeepI w' B l:=fun s hs=>(h s hs).appB ho hg hB
theorem DeepI.appT{B0:Nat}{E':TypeId}{sz:Nat}{α:Type}{enc:α→List Value}{A:Option Addr}{c:Nat}{m:List α}(h:DeepI w B l)(ho:Own w B0 E' sz enc A c m)(hg:w.grownBy w' (Value.slice A m.length c).ownBlock)(hT:Nat.beq E' 3=false) : DeepI w' B l:=fun s hs=>(h s hs).appT ho hg hT
theorem DeepI.nil(w:World)(B:Nat) : DeepI w B []:=fun s hs=>by cases hs
theorem DeepI.snoc{s:Sl}(h:DeepI w B l)(hr:Rd w B 3 encI s.A s.l) : DeepI w B (l++[s]):=fun t ht=>by
 rcases List.mem_append.1 ht with h1|h1
 ·exact h t h1
 ·rw [List.mem_singleton] at h1;subst h1;exact hr
theorem DeepI.eq{l':List Sl}(h:DeepI w B l)(e:l'=l) : DeepI w B l':=by rw [e];exact h
end
def LowI(B:Nat)(l:List Sl) : Prop:=∀ s ∈ l,∀ p,s.A=some p→B≤p.block
def Und(A:Option Addr)(B:Nat) : Prop:=∀ p,A=some p→p.block<B
theorem LowI.nil(B:Nat) : LowI B []:=fun s hs=>by cases hs
theorem LowI.snoc{B:Nat}{l:List Sl}{s:Sl}(h:LowI B l)(hs:∀ p,s.A=some p→B≤p.block) : LowI B (l++[s]):=fun t ht=>by
 rcases List.mem_append.1 ht with h1|h1
 ·exact h t h1
 ·rw [List.mem_singleton] at h1;subst h1;exact hs
section
variable {α : Type} {w w' : World} {B B1 : Nat} {E : TypeId} {sz : Nat} {enc : α → List Value} {A : Option Addr} {c : Nat} {l : List α} {m : List Sl}
end
end Go.Proofs.YtlfjcmldfbfdbaaGreat
namespace Go.Proofs.YtlfjcmldfbfdbaaGreat
open Go.RowKit
theorem Apart.app{α:Type}{w:World}{B:Nat}{E:TypeId}{sz:Nat}{enc:α→List Value}{A A1 A2:Option Addr}{c:Nat}{l:List α}(h:Own w B E sz enc A c l)(ha:Apart A A1)(hat:∀ b,b<w.heap.size→Away A1 b→Away A2 b) : Apart A A2:=by
 intro p q hp hq
 rcases h.2 with ⟨h1,_⟩|⟨g,cap,cur,h1,_,h3,_⟩
 ·injection h1 with h1;rw [h1] at hp;cases hp
 ·injection h1 with h1
  rw [h1] at hp
  injection hp with hp
  have hlt:p.block<w.heap.size:=by rw [← hp];exact (Array.getElem?_eq_some_iff.1 h3).1
  have haw:Away A1 p.block:=fun r hr e=>ha p r (by rw [h1,hp]) hr e.symm
  exact fun e=>hat _ hlt haw q hq e.symm
section
variable {P : Program} {ops : Array Oper} {V : Option Nat} {tl : Nat → Bool} {Q : Act → World → Prop} {fuel : Nat} {done : List Nat} {w : World} {o : Oper} {op : Op} {ty : TypeId} {pos : String} {af : Array Edge} {g : Option (Nat × Bool)} {n d : Nat} {e : Env} {v : Value} {R : Value → World → Prop} {x : Operand}
end
end Go.Proofs.YtlfjcmldfbfdbaaGreat
namespace Go.Proofs.YtlfjcmldfbfdbaaGreat
open Go.RowKit
def markI(k:Int)(n:Nat) : List Int:=(List.range n).map fun (j:Nat)=>k+(j:Int)
def markG(k:Int)(n:Nat) : List Gt:=(List.range n).map fun (j:Nat)=>⟨k+3*(j:Int),k+3*(j:Int)+1,k+3*(j:Int)+2⟩
def heldI:List Int→Int→Int
 | [],k=>k
 | x::l,k=>if x=k then heldI l (k+1) else -1
def heldG:List Gt→Int→Int
 | [],k=>k
 | x::l,k=>if x.k=k∧x.a=k+1∧x.b=k+2 then heldG l (k+3) else -1
end Go.Proofs.YtlfjcmldfbfdbaaGreat
namespace Go.Proofs.YtlfjcmldfbfdbaaGreat
open Go.RowKit
theorem X1b{x:Dy} : dOk x=true↔rOk x.num=true∧(0≤x.exp∧x.exp≤60)∧(x.exp=0∨rEven x.num=false):=by
 simp only [dOk,Bool.and_eq_true,Xh,Bool.or_eq_true,beq_iff_eq,Bool.not_eq_true',and_assoc]
theorem Xd4:∀ (m:Nat) (x:Rg),rOk x=true→m≤60→dOk (dLow x m)=true
 | 0,x,h,_=>by
  rw [X1o (by omega)]
  exact X1b.2 ⟨h,by simp,.inl rfl⟩
 | m+1,x,h,hm=>by
  by_cases he:rEven x=true
  ·rw [X2y (by omega) he,show ((m+1:Nat) : Int)-1=(m:Int) from by omega]
   exact Xd4 m _ (X4y h) (by omega)
  ·have he':rEven x=false:=by simpa using he
   rw [X1o fun _=>he']
   exact X1b.2 ⟨h,by dsimp only;omega,.inr he'⟩
theorem X55{x:Rg}{e:Int}(h:rOk x=true)(h0:0≤e)(h1:e≤60) : dOk (dLow x e)=true:=by
 obtain ⟨m,rfl⟩ : ∃ m:Nat,e=m:=⟨e.toNat,by omega⟩
 exact Xd4 m x h (by omega)
def Agree(o:Option Dy)(p:Bool×Dy) : Prop:=(∀ z,o=some z→p=(false,z)∧dOk z=true)∧(o=none→p.1=true)
theorem X1z{x y z:Rg}(hx:rOk x=true)(hy:rOk y=true) : rIf2 z [x,y]=rOk z:=by simp [rIf2,hx,hy]
theorem X42{x z:Rg}(hx:rOk x=true) : rIf2 z [x]=rOk z:=by simp [rIf2,hx]
theorem Xdb{x y:Dy}(hx:dOk x=true)(hy:dOk y=true) : Agree (dMulI x y) (sMul false x y):=by
 have kx:=X1b.1 hx
 have ky:=X1b.1 hy
 unfold dMulI sMul
 rw [hx,hy,X1z kx.1 ky.1,rIf1,X1z kx.1 ky.1,Bool.true_and,Bool.true_and]
 by_cases hr:rOk (rMul x.num y.num)=true
 ·rw [if_pos hr,if_pos hr]
  unfold dOf
  rw [hr,Bool.true_and]
  by_cases he:60<x.exp+y.exp
  ·have h1:¬ inR (x.exp+y.exp) 0 60=true:=fun h=>by have:=Xh.1 h;omega
   rw [if_neg h1,if_pos he]
   exact ⟨fun z h=>(by cases h),fun _=>rfl⟩
  ·have h1:inR (x.exp+y.exp) 0 60=true:=Xh.2 (by omega)
   rw [if_pos h1,if_neg he,sRing,if_pos hr]
   exact ⟨fun z h=>(by injection h with h;subst h;exact ⟨rfl,X55 hr (by omega) (by omega)⟩),fun h=>by cases h⟩
 ·have hr':rOk (rMul x.num y.num)=false:=by simpa using hr
  rw [if_neg hr]
  refine ⟨fun z h=>(by cases h),fun _=>?_⟩
  by_cases he:60<x.exp+y.exp
  ·rw [if_pos he]
  ·rw [if_neg he,hr'];rfl
theorem X4m:∀ (n:Nat) (f:Bool) (x:Dy),(sRaiseN n f x).2.exp=x.exp+n
 | 0,f,x=>by simp [sRaiseN]
 | n+1,f,x=>by rw [sRaiseN,X4m n];dsimp only;omega
theorem X2r:∀ (n:Nat) (x:Dy),(sRaiseN n true x).1=true
 | 0,x=>rfl
 | n+1,x=>by rw [sRaiseN];exact X2r n _
theorem X3s:∀ (n:Nat) (x:Dy),rOk x.num=true→(raiseI n x.num).2=true→sRaiseN n false x=(false,⟨(raiseI n x.num).1,x.exp+n⟩)∧rOk (raiseI n x.num).1=true
 | 0,x,h,_=>⟨by simp [sRaiseN,raiseI],h⟩
 | n+1,x,h,hr=>by
  unfold raiseI at hr ⊢
  rw [X42 h] at hr ⊢
  by_cases h1:rOk (rRoot x.num)=true
  ·rw [if_pos h1] at hr ⊢
   rw [sRaiseN,h1,sRing,if_pos h1]
   have:=X3s n ⟨rRoot x.num,x.exp+1⟩ h1 hr
   refine ⟨?_,this.2⟩
   simp only [Bool.not_true,Bool.or_false]
   rw [this.1]
   dsimp only
   congr 2
   omega
  ·rw [if_neg h1] at hr
   cases hr
theorem X3n:∀ (n:Nat) (x:Dy),rOk x.num=true→(raiseI n x.num).2=false→(sRaiseN n false x).1=true
 | 0,x,h,hr=>by cases hr
 | n+1,x,h,hr=>by
  unfold raiseI at hr
  rw [X42 h] at hr
  by_cases h1:rOk (rRoot x.num)=true
  ·rw [if_pos h1] at hr
   rw [sRaiseN,h1,sRing,if_pos h1]
   simp only [Bool.not_true,Bool.or_false]
   exact X3n n ⟨rRoot x.num,x.exp+1⟩ h1 hr
  ·have h2:rOk (rRoot x.num)=false:=by simpa using h1
   rw [sRaiseN,h2]
   exact X2r n _
theorem Xdv{x y:Dy}(hx:dOk x=true)(hy:dOk y=true) : Agree (dAddI x y) (sAdd false x y):=by
 have kx:=X1b.1 hx
 have ky:=X1b.1 hy
 obtain ⟨m,hm⟩ : ∃ m,m=max x.exp y.exp:=⟨_,rfl⟩
 have e1:(m-x.exp).toNat=(y.exp-x.exp).toNat:=by omega
 have e3:x.exp+((y.exp-x.exp).toNat:Int)=m:=by omega
 have ed1:dRaise x m=raiseI (y.exp-x.exp).toNat x.num:=by rw [dRaise,e1]
 unfold dAddI sAdd
 rw [hx,hy,Bool.and_self,if_pos rfl,← hm,X4m,e3]
 cases h1:(dRaise x m).2 with
 | false=>
  have hb:=X3n _ x kx.1 (by rw [← ed1];exact h1)
  rw [hb,X2r]
  simp only [Bool.false_and,Bool.false_eq_true,if_false,Bool.true_or]
  exact ⟨fun z h=>(by cases h),fun _=>rfl⟩
 | true=>
  obtain ⟨g1,g2⟩:=X3s _ x kx.1 (by rw [← ed1];exact h1)
  rw [g1]
  rw [← ed1] at g2 ⊢
  dsimp only
  have ed2:dRaise y m=raiseI (m-y.exp).toNat y.num:=rfl
  cases h2:(dRaise y m).2 with
  | false=>
   have hb:=X3n _ y ky.1 (by rw [← ed2];exact h2)
   rw [hb]
   simp only [Bool.and_false,Bool.false_and,Bool.false_eq_true,if_false,Bool.true_or]
   exact ⟨fun z h=>(by cases h),fun _=>rfl⟩
  | true=>
   obtain ⟨k1,k2⟩:=X3s _ y ky.1 (by rw [← ed2];exact h2)
   rw [k1]
   rw [← ed2] at k2 ⊢
   dsimp only
   rw [X1z g2 k2,rIf1,X1z g2 k2,Bool.true_and,Bool.true_and,Bool.false_or]
   by_cases hr:rOk (rAdd (dRaise x m).1 (dRaise y m).1)=true
   ·have h3:inR m 0 60=true:=Xh.2 (by omega)
    rw [if_pos hr,if_pos hr,dOf,hr,h3,sRing,if_pos hr]
    exact ⟨fun z h=>(by simp only [Bool.and_self,if_true] at h;injection h with h;subst h;exact ⟨rfl,X55 hr (by omega) (by omega)⟩),fun h=>by simp at h⟩
   ·have hr':rOk (rAdd (dRaise x m).1 (dRaise y m).1)=false:=by simpa using hr
    rw [if_neg hr,hr']
    exact ⟨fun z h=>(by cases h),fun _=>rfl⟩
def dotS(f:Bool)(a b:Mx)(i j:Nat) : Nat→Bool×Dy
 | 0=>(f,dZ)
 | n+1=>if (dotS f a b i j n).1=true then dotS f a b i j n else
   sAdd (sMul false (a.at i n) (b.at n j)).1 (dotS f a b i j n).2 (sMul false (a.at i n) (b.at n j)).2
theorem X7a{f:Bool}{a b:Mx}{i j n:Nat}(h:(dotS f a b i j n).1=true) : ∀ m,n≤m→dotS f a b i j m=dotS f a b i j n
 | 0,h'=>by
  obtain rfl:n=0:=by omega
  rfl
 | m+1,h'=>by
  by_cases hm:n=m+1
  ·subst hm;rfl
  ·rw [dotS,X7a h m (by omega),if_pos h]
theorem Xdz(a b:Mx)(i j n:Nat) : dotS true a b i j n=(true,dZ):=X7a (n:=0) rfl n (Nat.zero_le _)
theorem X7m:dOk dZ=true:=by decide
theorem Xey(x y:Dy) : (sAdd true x y).1=true:=by
 unfold sAdd
 rw [show (sRaiseN (y.exp-x.exp).toNat true x).1=true from X2r _ _,X2r]
 rfl
def AllOk(m:Mx) : Prop:=∀ x ∈ m.cells,dOk x=true
theorem Mx.at_ok{m:Mx}(h:AllOk m)(i j:Nat) : dOk (m.at i j)=true:=by
 unfold Mx.at
 rw [List.getD_eq_getElem?_getD]
 cases hx:m.cells[i*m.cols.toNat+j]? with
 | none=>exact X7m
 | some x=>exact h x (List.mem_of_getElem? hx)
theorem X7x{a b:Mx}(ha:AllOk a)(hb:AllOk b)(i j:Nat) : ∀ n,Agree (dotI a b i j n) (dotS false a b i j n)
 | 0=>⟨fun z h=>(by injection h with h;subst h;exact ⟨rfl,X7m⟩),fun h=>by cases h⟩
 | n+1=>by
  have ih:=X7x ha hb i j n
  have hm:=Xdb (Mx.at_ok ha i n) (Mx.at_ok hb n j)
  unfold dotI dotS
  cases h1:dotI a b i j n with
  | none=>
   have h2:=ih.2 h1
   rw [if_pos h2]
   exact ⟨fun z h=>(by cases h),fun _=>h2⟩
  | some s=>
   obtain ⟨h2,h3⟩:=ih.1 s h1
   rw [h2]
   simp only [Bool.false_eq_true,if_false,Option.bind_some]
   cases h4:dMulI (a.at i n) (b.at n j) with
   | none=>
    rw [hm.2 h4]
    exact ⟨fun z h=>(by cases h),fun _=>Xey _ _⟩
   | some x=>
    obtain ⟨h5,h6⟩:=hm.1 x h4
    rw [h5]
    exact Xdv h3 h6
def timesL(f:Bool)(a b:Mx) : Nat→Bool×List Dy
 | 0=>(f,[])
 | n+1=>((dotS (timesL f a b n).1 a b (n/b.cols.toNat) (n % b.cols.toNat) a.cols.toNat).1,(timesL f a b n).2++[(dotS (timesL f a b n).1 a b (n/b.cols.toNat) (n % b.cols.toNat) a.cols.toNat).2])
def timesS(f:Bool)(a b:Mx) : Bool×Mx:=((timesL f a b (a.rows.toNat*b.cols.toNat)).1,⟨a.rows,b.cols,(timesL f a b (a.rows.toNat*b.cols.toNat)).2⟩)
theorem X4l(f:Bool)(a b:Mx) : ∀ n,(timesL f a b n).2.length=n
 | 0=>rfl
 | n+1=>by simp [timesL,X4l f a b n]
theorem Xas{f:Bool}{a b:Mx}{i j:Nat}(hj:j<b.cols.toNat) : timesL f a b (i*b.cols.toNat+(j+1))=((dotS (timesL f a b (i*b.cols.toNat+j)).1 a b i j a.cols.toNat).1,(timesL f a b (i*b.cols.toNat+j)).2++[(dotS (timesL f a b (i*b.cols.toNat+j)).1 a b i j a.cols.toNat).2]):=by
 have h1:(i*b.cols.toNat+j)/b.cols.toNat=i:=by rw [Nat.mul_comm,Nat.mul_add_div (by omega),Nat.div_eq_of_lt hj];omega
 have h2:(i*b.cols.toNat+j) % b.cols.toNat=j:=by rw [Nat.mul_comm,Nat.mul_add_mod,Nat.mod_eq_of_lt hj]
 rw [show i*b.cols.toNat+(j+1)=(i*b.cols.toNat+j)+1 from rfl,timesL,h1,h2]
theorem X64{a b:Mx}(ha:AllOk a)(hb:AllOk b) : ∀ n,(∀ l,seqO (gridG (fun i j=>dotI a b i j a.cols.toNat) b.cols.toNat) n=some l→timesL false a b n=(false,l)∧∀ x ∈ l,dOk x=true)∧
  (seqO (gridG (fun i j=>dotI a b i j a.cols.toNat) b.cols.toNat) n=none→(timesL false a b n).1=true)
 | 0=>⟨fun l h=>(by injection h with h;subst h;exact ⟨rfl,fun x hx=>by cases hx⟩),fun h=>by cases h⟩
 | n+1=>by
  have ih:=X64 ha hb n
  have hd:=X7x ha hb (n/b.cols.toNat) (n % b.cols.toNat) a.cols.toNat
  unfold seqO timesL
  cases h1:seqO (gridG (fun i j=>dotI a b i j a.cols.toNat) b.cols.toNat) n with
  | none=>
   rw [ih.2 h1,Xdz]
   exact ⟨fun l h=>(by cases h),fun _=>rfl⟩
  | some l=>
   obtain ⟨h2,h3⟩:=ih.1 l h1
   rw [h2]
   dsimp only
   rw [show gridG (fun i j=>dotI a b i j a.cols.toNat) b.cols.toNat n=dotI a b (n/b.cols.toNat) (n % b.cols.toNat) a.cols.toNat from rfl]
   cases h4:dotI a b (n/b.cols.toNat) (n % b.cols.toNat) a.cols.toNat with
   | none=>exact ⟨fun l h=>(by cases h),fun _=>hd.2 h4⟩
   | some x=>
    obtain ⟨h5,h6⟩:=hd.1 x h4
    rw [h5]
    refine ⟨fun l' h=>?_,fun h=>by cases h⟩
    injection h with h
    subst h
    exact ⟨rfl,fun y hy=>by
     rcases List.mem_append.1 hy with hy|hy
     ·exact h3 y hy
     ·rw [List.mem_singleton.1 hy];exact h6⟩
end Go.Proofs.YtlfjcmldfbfdbaaGreat
namespace Go.Proofs.YtlfjcmldfbfdbaaGreat
open Go.RowKit
theorem X2j{m:Mx}(h:mOk m=true) : AllOk m:=by
 simp only [mOk,Bool.and_eq_true,Bool.not_eq_true',List.any_eq_false] at h
 intro x hx
 have:=h.2 x hx
 simpa using this
theorem X54{m:Mx}(h:mOk m=true) : isDimB m.rows=true∧isDimB m.cols=true:=by
 simp only [mOk,Bool.and_eq_true] at h
 exact ⟨h.1.1.1,h.1.1.2⟩
theorem Xbg{m:Mx}(hr:isDimB m.rows=true)(hc:isDimB m.cols=true)(hl:m.cells.length=m.rows.toNat*m.cols.toNat)(ha:AllOk m) : mOk m=true:=by
 have h1:=X23 hr
 have h2:=X23 hc
 have h3:(m.cells.any fun x=>!dOk x)=false:=by
  rw [List.any_eq_false]
  intro x hx
  simp [ha x hx]
 have h4:wr (m.rows*m.cols)=(m.cells.length:Int):=by
  obtain ⟨r,hr⟩ : ∃ r:Nat,m.rows=r:=⟨m.rows.toNat,by omega⟩
  obtain ⟨c,hc⟩ : ∃ c:Nat,m.cols=c:=⟨m.cols.toNat,by omega⟩
  rw [hr] at h1
  rw [hc] at h2
  rw [hl,hr,hc]
  have h5:r*c≤32*32:=Nat.mul_le_mul (by omega) (by omega)
  rw [← Int.natCast_mul,X06 (by omega) (by omega)]
  simp
 unfold mOk
 rw [hr,hc,h3,h4]
 simp
theorem X26{n:Int}(h:1≤n∧n≤5) : isDimB ((2^n.toNat:Nat) : Int)=true:=by
 have:n=1∨n=2∨n=3∨n=4∨n=5:=by omega
 rcases this with rfl|rfl|rfl|rfl|rfl<;>decide
theorem X29{a b:Mx}(ha:mOk a=true)(hb:mOk b=true)(hab:a.cols=b.rows) : (∀ m,mulI a b=some m→timesS false a b=(false,m)∧mOk m=true∧m.rows=a.rows∧m.cols=b.cols)∧(mulI a b=none→(timesS false a b).1=true):=by
 have hd1:=(X54 ha).1
 have hd2:=(X54 hb).2
 have h:=X64 (X2j ha) (X2j hb) (a.rows.toNat*b.cols.toNat)
 unfold mulI matOf timesS
 rw [ha,hb,hd1,hd2,if_pos (by simp [hab]),if_pos (show (true&&true)=true from rfl)]
 cases h1:seqO (gridG (fun i j=>dotI a b i j a.cols.toNat) b.cols.toNat) (a.rows.toNat*b.cols.toNat) with
 | none=>exact ⟨fun m h=>(by cases h),fun _=>h.2 h1⟩
 | some l=>
  obtain ⟨h2,h3⟩:=h.1 l h1
  rw [h2]
  refine ⟨fun m hm=>?_,fun hm=>by cases hm⟩
  injection hm with hm
  subst hm
  exact ⟨rfl,Xbg hd1 hd2 (X3p h1) h3,rfl,rfl⟩
theorem X7v{f:Nat→Dy} : ∀ n,seqO (fun m=>some (f m)) n=some ((List.range n).map f)
 | 0=>rfl
 | n+1=>by simp [seqO,X7v n,List.range_succ]
theorem X4g{R C:Int}(hR:isDimB R=true)(hC:isDimB C=true)(f:Nat→Nat→Dy) : matOf R C (fun i j=>some (f i j))=some ⟨R,C,gridL f C.toNat (R.toNat*C.toNat)⟩:=by
 unfold matOf
 rw [hR,hC,if_pos (show (true&&true)=true from rfl)]
 have:gridG (fun i j=>some (f i j)) C.toNat=fun m=>some (gridF f C.toNat m):=rfl
 rw [this,X7v]
 rfl
theorem X63{f g:Nat→Nat→Dy}{R C:Nat}(h:∀ i j,i<R→j<C→f i j=g i j) : gridL f C (R*C)=gridL g C (R*C):=by
 unfold gridL
 refine List.map_congr_left fun m hm=>?_
 have hm':=List.mem_range.1 hm
 have hC:0<C:=by
  rcases Nat.eq_zero_or_pos C with h0|h0
  ·subst h0;simp at hm'
  ·exact h0
 exact h _ _ (Nat.div_lt_of_lt_mul (by rw [Nat.mul_comm];exact hm')) (Nat.mod_lt _ hC)
theorem X5s{f:Nat→Nat→Dy}{R C:Nat}{x:Dy}(h:x ∈ gridL f C (R*C)) : ∃ i j,i<R∧j<C∧x=f i j:=by
 unfold gridL at h
 obtain ⟨m,hm,rfl⟩:=List.mem_map.1 h
 have hm':=List.mem_range.1 hm
 have hC:0<C:=by
  rcases Nat.eq_zero_or_pos C with h0|h0
  ·subst h0;simp at hm'
  ·exact h0
 exact ⟨_,_,Nat.div_lt_of_lt_mul (by rw [Nat.mul_comm];exact hm'),Nat.mod_lt _ hC,rfl⟩
def unitS(d:Nat) : Mx:=⟨(d:Int),(d:Int),gridL (fun i j=>if i=j then dPow 0 else dZ) d (d*d)⟩
theorem X2z{d:Nat}(h:isDimB (d:Int)=true) : idI (d:Int)=some (unitS d)∧mOk (unitS d)=true:=by
 refine ⟨?_,?_⟩
 ·unfold idI
  rw [X4g h h (fun i j=>if i=j then ⟨⟨1,0,0,0⟩,0⟩ else dZ)]
  rfl
 ·refine Xbg h h (by simp [unitS,X2m]) fun x hx=>?_
  obtain ⟨i,j,_,_,rfl⟩:=X5s hx
  split
  ·rfl
  ·rfl
def bitT(p s:Nat) : Int:=bits .and .i64 ((s:Int)/2^p) 1
def flipT(p s:Nat) : Int:=bits .xor .i64 (s:Int) (wr (1*2^p))
def chkBits:Bool:=(List.range 5).all fun p=>(List.range 32).all fun s=>
 let f:=flipT p s
 Nat.blt f.toNat 32&&f==(f.toNat:Int)&&flipT p f.toNat==(s:Int)&&(bitT p f.toNat==1-bitT p s)&&(bitT p s==0||bitT p s==1) &&
 (List.range 5).all (fun q=>(q==p)||bitT q f.toNat==bitT q s) &&
 (List.range 5).all (fun q=>let g:=flipT q s;flipT p g.toNat==flipT q f.toNat) &&
 (List.range 32).all fun t=>(((t:Int)==s||f==(t:Int))==(bits .andNot .i64 (bits .xor .i64 (s:Int) (t:Int)) (wr (1*2^p))==0))
theorem X9b:chkBits=true:=by kernel_rfl
def chkSmall:Bool:=(List.range 6).all fun n=>(List.range n).all fun q=>(List.range (2^n)).all fun s=>Nat.blt (flipT (n-1-q) s).toNat (2^n)
theorem X7h:chkSmall=true:=by kernel_rfl
structure BitsOk (p s:Nat) : Prop where
 nat:flipT p s=((flipT p s).toNat:Int)
 lt:(flipT p s).toNat<32
 back:flipT p (flipT p s).toNat=(s:Int)
 bit:bitT p (flipT p s).toNat=1-bitT p s
 other:∀ q<5,q≠p→bitT q (flipT p s).toNat=bitT q s
 comm:∀ q<5,flipT p (flipT q s).toNat=flipT q (flipT p s).toNat
 sel:∀ t:Nat,t<32→(((t:Int)=s∨flipT p s=(t:Int))↔bits .andNot .i64 (bits .xor .i64 (s:Int) (t:Int)) (wr (1*2^p))=0)
theorem X3b{p s:Nat}(hp:p<5)(hs:s<32) : BitsOk p s:=by
 have h:=X9b
 simp only [chkBits,List.all_eq_true,List.mem_range] at h
 have h:=h p hp s hs
 simp only [Bool.and_eq_true,List.all_eq_true,List.mem_range,beq_iff_eq,Bool.or_eq_true,Nat.blt_eq] at h
 obtain ⟨⟨⟨⟨⟨⟨⟨h1,h2⟩,h3⟩,h4⟩,_⟩,h6⟩,h7⟩,h8⟩:=h
 refine ⟨h2,h1,h3,h4,fun q hq hne=>(h6 q hq).resolve_left hne,h7,fun t ht=>?_⟩
 have h9:=h8 t ht
 rw [Bool.eq_iff_iff] at h9
 simpa using h9
theorem X37{n q s:Nat}(hn:n≤5)(hq:q<n)(hs:s<2^n) : (flipT (n-1-q) s).toNat<2^n:=by
 have h:=X7h
 simp only [chkSmall,List.all_eq_true,List.mem_range] at h
 have h:=h n (by omega) q hq s hs
 simpa [Nat.blt_eq] using h
theorem Xbj{n q:Int}(s:Nat) : bitF n (s:Int) q=bitT (n-1-q).toNat s:=rfl
theorem X44{n q:Int}(s:Nat) : flipF n (s:Int) q=flipT (n-1-q).toNat s:=rfl
theorem X87{n q:Int}(hq:0≤q)(hqn:q<n) : (n-1-q).toNat=n.toNat-1-q.toNat:=by omega
theorem X8y{n:Int}{g:Gt}(hg:gOk n g=true){s:Nat}(hs:s<2^n.toNat)(hk:9≤g.k∧g.k≤11) : ∃ t:Nat,t<2^n.toNat∧toS n g s=(t:Int)∧toS n g t=(s:Int)∧(g.k=10→t=s):=by
 obtain ⟨hn,hk0,ha,hb⟩:=X0m hg
 have ha:=ha (by omega)
 have hb:=hb hk
 have h32:2^n.toNat≤32:=X4s hn.2
 obtain ⟨p,hp⟩ : ∃ p,p=(n-1-g.a).toNat:=⟨_,rfl⟩
 obtain ⟨q,hq⟩ : ∃ q,q=(n-1-g.b).toNat:=⟨_,rfl⟩
 have hp5:p<5:=by omega
 have hq5:q<5:=by omega
 have hpq:p≠q:=by omega
 have hsm:∀ s,s<2^n.toNat→(flipT p s).toNat<2^n.toNat:=fun s hs=>by
  rw [hp,X87 (by omega) (by omega)]
  exact X37 (by omega) (by omega) hs
 have hsm2:∀ s,s<2^n.toNat→(flipT q s).toNat<2^n.toNat:=fun s hs=>by
  rw [hq,X87 (by omega) (by omega)]
  exact X37 (by omega) (by omega) hs
 unfold toS
 simp only [Xbj,X44,← hp,← hq]
 have Bp:=X3b (p:=p) (s:=s) hp5 (by omega)
 have Bq:=X3b (p:=q) (s:=s) hq5 (by omega)
 by_cases h9:g.k=9
 ·simp only [h9,if_true]
  by_cases hb1:bitT p s=1
  ·refine ⟨(flipT q s).toNat,hsm2 s hs,by rw [if_pos hb1];exact Bq.nat,?_,by omega⟩
   rw [if_pos (by rw [Bq.other p hp5 hpq];exact hb1)]
   exact Bq.back
  ·exact ⟨s,hs,by rw [if_neg hb1],by rw [if_neg hb1],by omega⟩
 ·simp only [h9,if_false]
  by_cases h11:g.k=11
  ·simp only [h11,if_true]
   by_cases hb1:bitT p s=bitT q s
   ·exact ⟨s,hs,by rw [if_neg (by simpa using hb1)],by rw [if_neg (by simpa using hb1)],by omega⟩
   ·have Bf:=X3b (p:=q) (s:=(flipT p s).toNat) hq5 Bp.lt
    have Bg:=X3b (p:=p) (s:=(flipT q (flipT p s).toNat).toNat) hp5 Bf.lt
    have e1:flipF n (flipT p s) g.b=flipT q (flipT p s).toNat:=by rw [Bp.nat,X44,← hq,Int.toNat_natCast]
    refine ⟨(flipT q (flipT p s).toNat).toNat,hsm2 _ (hsm _ hs),?_,?_,by omega⟩
    ·rw [if_pos hb1,e1];exact Bf.nat
    ·have e2:bitT p (flipT q (flipT p s).toNat).toNat=1-bitT p s:=by rw [Bf.other p hp5 hpq,Bp.bit]
     have e3:bitT q (flipT q (flipT p s).toNat).toNat=1-bitT q s:=by rw [Bf.bit,Bp.other q hq5 (Ne.symm hpq)]
     have e4:flipT p (flipT q (flipT p s).toNat).toNat=flipT q (flipT p (flipT p s).toNat).toNat:=(X3b (p:=p) (s:=(flipT p s).toNat) hp5 Bp.lt).comm q hq5
     rw [if_pos (by rw [e2,e3];omega),e4,Bp.back,Int.toNat_natCast,Bq.nat,X44,← hq,Bq.back]
  ·exact ⟨s,hs,by rw [if_neg h11],by rw [if_neg h11],fun _=>rfl⟩
theorem Xhu{k:Int}(h:1≤k∧k≤8){i j:Int}(hi:i=0∨i=1)(hj:j=0∨j=1) : (oneL k).getD (2*i+j).toNat dZ=entryI k i j:=by
 have:k=1∨k=2∨k=3∨k=4∨k=5∨k=6∨k=7∨k=8:=by omega
 rcases this with rfl|rfl|rfl|rfl|rfl|rfl|rfl|rfl<;>rcases hi with rfl|rfl<;>rcases hj with rfl|rfl<;>rfl
theorem Xd1{n:Int}{g:Gt}(hg:gOk n g=true){i j:Nat}(hi:i<2^n.toNat)(hj:j<2^n.toNat) : cellI n g i j=cellS n g i j:=by
 obtain ⟨hn,hk0,ha,hb⟩:=X0m hg
 have h32:2^n.toNat≤32:=X4s hn.2
 unfold cellI cellS
 by_cases h12:g.k=12
 ·rw [if_pos h12,if_neg (show ¬ g.k≤8 by omega)]
  have e1:toS n g j=j:=by unfold toS;rw [if_neg (show ¬ g.k=9 by omega),if_neg (show ¬ g.k=11 by omega)]
  rw [e1]
  by_cases hij:(i:Int)=j
  ·rw [if_pos hij,if_pos hij,valS,if_pos h12]
  ·rw [if_neg hij,if_neg hij]
 ·rw [if_neg h12]
  by_cases h2:9≤g.k∧g.k≤11
  ·rw [if_pos (Xh.2 h2),if_neg (show ¬ g.k≤8 by omega)]
   obtain ⟨t,ht,e1,e2,e3⟩:=X8y hg hi h2
   obtain ⟨t',ht',e1',e2',e3'⟩:=X8y hg hj h2
   by_cases hij:toS n g i=j
   ·have hts:(i:Int)=toS n g j:=by rw [← e2,← e1,hij]
    rw [if_pos hij,if_pos hts,valS,if_neg h12]
    by_cases h10:g.k=10
    ·have hij2:i=j:=by rw [e1] at hij;have:=e3 h10;omega
     subst hij2
     by_cases hc:bitF n i g.a=1∧bitF n i g.b=1
     ·rw [if_pos (by simp [czI,h10,hc]),if_pos ⟨h10,hc⟩];rfl
     ·have hc':¬ czI n g i=true:=by simp only [czI,h10,Bool.and_eq_true,beq_iff_eq,true_and,and_assoc];exact hc
      rw [if_neg hc',if_neg (fun h=>hc h.2)];rfl
    ·have hc':¬ czI n g i=true:=by simp [czI,h10]
     rw [if_neg hc',if_neg (fun h=>h10 h.1)];rfl
   ·have hts:¬ (i:Int)=toS n g j:=fun h=>by
     rw [e1'] at h
     have h:i=t':=by omega
     subst h
     exact hij e2'
    rw [if_neg hij,if_neg hts]
  ·have h8:g.k≤8:=by omega
   have ha:=ha h12
   rw [if_neg (fun h=>h2 (Xh.1 h)),if_pos h8]
   have B:=X3b (p:=(n-1-g.a).toNat) (s:=i) (by omega) (by omega)
   have hs:=B.sel j (by omega)
   rw [X44]
   have e0:((i:Int)=j∨flipT (n-1-g.a).toNat i=(j:Int))↔((j:Int)=i∨flipT (n-1-g.a).toNat i=(j:Int)):=by
    constructor<;>rintro (h|h)<;>first|exact .inl h.symm|exact .inr h
   by_cases hz:bits .andNot .i64 (bits .xor .i64 (i:Int) (j:Int)) (wr (1*2^(n-1-g.a).toNat))=0
   ·rw [if_pos (e0.2 (hs.2 hz)),if_neg (fun h=>h hz)]
    exact (Xhu ⟨hk0.1,h8⟩ (X21 _ _ _) (X21 _ _ _)).symm
   ·rw [if_neg (fun h=>hz (hs.1 (e0.1 h))),if_pos hz]
theorem Xev{k:Int}(h:1≤k∧k≤8){i j:Int}(hi:i=0∨i=1)(hj:j=0∨j=1) : dOk (entryI k i j)=true:=by
 have:k=1∨k=2∨k=3∨k=4∨k=5∨k=6∨k=7∨k=8:=by omega
 rcases this with rfl|rfl|rfl|rfl|rfl|rfl|rfl|rfl<;>rcases hi with rfl|rfl<;>rcases hj with rfl|rfl<;>rfl
theorem Xil{n:Int}{g:Gt}(hg:gOk n g=true)(i j:Int) : dOk (cellI n g i j)=true:=by
 obtain ⟨hn,hk0,ha,hb⟩:=X0m hg
 unfold cellI
 split
 ·split<;>rfl
 ·split
  ·split
   ·split<;>rfl
   ·rfl
  ·rename_i h1 h2
   split
   ·exact Xev (by have h3:¬ (9≤g.k∧g.k≤11):=fun h=>h2 (Xh.2 h);omega) (X21 _ _ _) (X21 _ _ _)
   ·rfl
theorem X0x{n:Int}{g:Gt}(hg:gOk n g=true) : gateI n g=some (gateS n g)∧mOk (gateS n g)=true:=by
 have hn:=(X0m hg).1
 have hd:=X26 hn
 have he:gridL (fun i j=>cellI n g i j) (2^n.toNat) (2^n.toNat*2^n.toNat)=gridL (fun i j=>cellS n g i j) (2^n.toNat) (2^n.toNat*2^n.toNat):=X63 fun i j hi hj=>Xd1 hg hi hj
 refine ⟨?_,?_⟩
 ·unfold gateI
  rw [if_pos hg,X4g hd hd (fun i j=>cellI n g i j)]
  simp only [Int.toNat_natCast]
  rw [he]
  rfl
 ·refine Xbg hd hd (by simp only [gateS,X2m,Int.toNat_natCast]) fun x hx=>?_
  simp only [gateS] at hx
  rw [← he] at hx
  obtain ⟨i,j,_,_,rfl⟩:=X5s hx
  exact Xil hg _ _
def applI(n:Int) : List Gt→Mx→Option Mx
 | [],m=>some m
 | g::l,m=>(mulI ((gateI n g).getD mZ) m).bind (applI n l)
def runS(n:Int)(f:Bool) : List Gt→Mx→Bool×Mx
 | [],m=>(f,m)
 | g::l,m=>if f=true then (f,m) else runS n (timesS false (gateS n g) m).1 l (timesS false (gateS n g) m).2
theorem Xe6(n:Int) : ∀ (l:List Gt) (m:Mx),runS n true l m=(true,m)
 | [],_=>rfl
 | _::_,_=>rfl
theorem X7y{n:Int} : ∀ (l:List Gt) (m:Mx),(∀ g ∈ l,gOk n g=true)→mOk m=true→m.rows=((2^n.toNat:Nat) : Int)→
  (∀ m',applI n l m=some m'→runS n false l m=(false,m')∧mOk m'=true∧m'.rows=((2^n.toNat:Nat) : Int))∧(applI n l m=none→(runS n false l m).1=true)
 | [],m,_,hm,hr=>⟨fun m' h=>(by injection h with h;subst h;exact ⟨rfl,hm,hr⟩),fun h=>by cases h⟩
 | g::l,m,hg,hm,hr=>by
  obtain ⟨h1,h2⟩:=X0x (hg g (by simp))
  have h3:=X29 h2 hm (by rw [hr];rfl)
  unfold applI runS
  rw [h1,Option.getD_some,if_neg (by decide)]
  cases h4:mulI (gateS n g) m with
  | none=>
   rw [h3.2 h4,Xe6]
   exact ⟨fun m' h=>(by cases h),fun _=>rfl⟩
  | some m1=>
   obtain ⟨h5,h6,h7,h8⟩:=h3.1 m1 h4
   rw [h5]
   exact X7y l m1 (fun g hg'=>hg g (by simp [hg'])) h6 (by rw [h7];rfl)
def opI(c:Cx) : Option Mx:=if cOk c=true then (idI ((2^c.n.toNat:Nat) : Int)).bind (applI c.n c.gs) else none
def opS(c:Cx) : Option Mx:=if cOk c=true then (if (runS c.n false c.gs (unitS (2^c.n.toNat))).1=true then none else some (runS c.n false c.gs (unitS (2^c.n.toNat))).2) else none
theorem X1j{c:Cx}(h:cOk c=true) : (1≤c.n∧c.n≤5)∧c.gs.length≤400∧∀ g ∈ c.gs,gOk c.n g=true:=by
 simp only [cOk,Bool.and_eq_true,Xh,decide_eq_true_eq,Bool.not_eq_true',List.any_eq_false] at h
 exact ⟨h.1.1,by omega,fun g hg=>by simpa using h.2 g hg⟩
theorem Xo0(c:Cx) : opI c=opS c∧∀ m,opS c=some m→mOk m=true∧m.rows=((2^c.n.toNat:Nat) : Int):=by
 unfold opI opS
 by_cases hc:cOk c=true
 ·obtain ⟨hn,_,hg⟩:=X1j hc
  obtain ⟨h1,h2⟩:=X2z (X26 hn)
  have h3:=X7y c.gs _ hg h2 rfl
  rw [if_pos hc,if_pos hc,h1,Option.bind_some]
  cases h4:applI c.n c.gs (unitS (2^c.n.toNat)) with
  | none=>rw [h3.2 h4,if_pos rfl];exact ⟨rfl,fun m h=>by cases h⟩
  | some m'=>
   obtain ⟨h5,h6,h7⟩:=h3.1 m' h4
   rw [h5,if_neg (show ¬ (false=true) by decide)]
   exact ⟨rfl,fun m h=>(by injection h with h;subst h;exact ⟨h6,h7⟩)⟩
 ·rw [if_neg hc,if_neg hc]
  exact ⟨rfl,fun m h=>by cases h⟩
end Go.Proofs.YtlfjcmldfbfdbaaGreat
namespace Go.Proofs.YtlfjcmldfbfdbaaGreat
open Go.RowKit
theorem Xek{x:Rg}(h:rOk x=true) : rOk (rOm x)=true∧rOm x=⟨-x.d,x.a,x.b,x.c⟩:=by
 rw [X1q] at h
 have e:rOm x=⟨-x.d,x.a,x.b,x.c⟩:=by unfold rOm;rw [X06 (by omega) (by omega)]
 refine ⟨?_,e⟩
 rw [e,X1q]
 dsimp only
 omega
theorem X4a{x:Rg}(h:rOk x=true) : rEven x=true↔(x.a+x.c) % 2=0∧(x.b+x.d) % 2=0:=by
 rw [X1q] at h
 unfold rEven
 rw [X06 (by omega) (by omega),X06 (by omega) (by omega)]
 simp only [Bool.and_eq_true,beq_iff_eq]
 have key:∀ i:Int,i.tmod 2=0↔i % 2=0:=fun i=>by
  rw [← Int.dvd_iff_tmod_eq_zero,← Int.dvd_iff_emod_eq_zero]
 rw [key,key]
theorem Xgd{x:Rg}(h:rOk x=true) : rEven (rOm x)=rEven x:=by
 obtain ⟨h1,h2⟩:=Xek h
 rw [Bool.eq_iff_iff,X4a h1,X4a h,h2]
 dsimp only
 omega
theorem X81:∀ (k:Nat) (x:Rg),rOk x=true→rOk (rTurnN k x)=true∧rEven (rTurnN k x)=rEven x
 | 0,_,h=>⟨h,rfl⟩
 | k+1,x,h=>by
  obtain ⟨h1,h2⟩:=X81 k (rOm x) (Xek h).1
  exact ⟨h1,h2.trans (Xgd h)⟩
theorem X9m{x:Rg}(h:rOk x=true)(k:Int) : rOk (rTurn x k)=true∧rEven (rTurn x k)=rEven x:=X81 _ _ h
theorem wr0:wr 0=0:=rfl
theorem Xgb{x:Rg}(h:rOk x=true){k:Nat}(hk:k<8) : rMul x (rTurn ⟨1,0,0,0⟩ k)=rTurn x k:=by
 have h':=X1q.1 h
 obtain ⟨a,b,c,d⟩:=x
 dsimp only at h'
 have wa:wr a=a:=X06 (by omega) (by omega)
 have wb:wr b=b:=X06 (by omega) (by omega)
 have wc:wr c=c:=X06 (by omega) (by omega)
 have wd:wr d=d:=X06 (by omega) (by omega)
 have na:wr (-a) = -a:=X06 (by omega) (by omega)
 have nb:wr (-b) = -b:=X06 (by omega) (by omega)
 have nc:wr (-c) = -c:=X06 (by omega) (by omega)
 have nd:wr (-d) = -d:=X06 (by omega) (by omega)
 have:k=0∨k=1∨k=2∨k=3∨k=4∨k=5∨k=6∨k=7:=by omega
 have s0:rTurn ⟨1,0,0,0⟩ ((0:Nat) : Int)=⟨1,0,0,0⟩:=by decide
 have s1:rTurn ⟨1,0,0,0⟩ ((1:Nat) : Int)=⟨0,1,0,0⟩:=by decide
 have s2:rTurn ⟨1,0,0,0⟩ ((2:Nat) : Int)=⟨0,0,1,0⟩:=by decide
 have s3:rTurn ⟨1,0,0,0⟩ ((3:Nat) : Int)=⟨0,0,0,1⟩:=by decide
 have s4:rTurn ⟨1,0,0,0⟩ ((4:Nat) : Int)=⟨-1,0,0,0⟩:=by decide
 have s5:rTurn ⟨1,0,0,0⟩ ((5:Nat) : Int)=⟨0,-1,0,0⟩:=by decide
 have s6:rTurn ⟨1,0,0,0⟩ ((6:Nat) : Int)=⟨0,0,-1,0⟩:=by decide
 have s7:rTurn ⟨1,0,0,0⟩ ((7:Nat) : Int)=⟨0,0,0,-1⟩:=by decide
 have T:∀ j:Nat,j<8→rTurn ⟨a,b,c,d⟩ (j:Int)=rTurnN j ⟨a,b,c,d⟩:=fun j hj=>by
  have:(turns (j:Int)).toNat=j:=by
   have:j=0∨j=1∨j=2∨j=3∨j=4∨j=5∨j=6∨j=7:=by omega
   rcases this with rfl|rfl|rfl|rfl|rfl|rfl|rfl|rfl<;>decide
  rw [rTurn,this]
 rcases this with rfl|rfl|rfl|rfl|rfl|rfl|rfl|rfl
 ·rw [T 0 (by omega),s0];simp [rMul,rTurnN,rOm,wr0,wa,wb,wc,wd,na,nb,nc,nd]
 ·rw [T 1 (by omega),s1];simp [rMul,rTurnN,rOm,wr0,wa,wb,wc,wd,na,nb,nc,nd]
 ·rw [T 2 (by omega),s2];simp [rMul,rTurnN,rOm,wr0,wa,wb,wc,wd,na,nb,nc,nd]
 ·rw [T 3 (by omega),s3];simp [rMul,rTurnN,rOm,wr0,wa,wb,wc,wd,na,nb,nc,nd]
 ·rw [T 4 (by omega),s4];simp [rMul,rTurnN,rOm,wr0,wa,wb,wc,wd,na,nb,nc,nd]
 ·rw [T 5 (by omega),s5];simp [rMul,rTurnN,rOm,wr0,wa,wb,wc,wd,na,nb,nc,nd]
 ·rw [T 6 (by omega),s6];simp [rMul,rTurnN,rOm,wr0,wa,wb,wc,wd,na,nb,nc,nd]
 ·rw [T 7 (by omega),s7];simp [rMul,rTurnN,rOm,wr0,wa,wb,wc,wd,na,nb,nc,nd]
theorem Xd7{z:Dy}(h:dOk z=true){k:Nat}(hk:k<8) : dMulI z (dPow k)=some (dTurn k z):=by
 have hz:=X1b.1 h
 have h1:rOk (rTurn ⟨1,0,0,0⟩ k)=true:=(X9m (by decide) _).1
 have hp:dOk (dPow k)=true:=X1b.2 ⟨h1,by simp [dPow],.inl rfl⟩
 obtain ⟨h2,h3⟩:=X9m hz.1 (k:Int)
 unfold dMulI
 rw [h,hp,show (dPow k).num=rTurn ⟨1,0,0,0⟩ k from rfl,rIf1,X1z hz.1 h1,Xgb hz.1 hk,h2]
 simp only [Bool.and_self,if_true]
 unfold dOf
 rw [h2,show z.exp+(dPow k).exp=z.exp from by simp [dPow],Xh.2 hz.2.1]
 simp only [Bool.and_self,if_true]
 rw [X1o fun h0=>by rw [h3];rcases hz.2.2 with h4|h4;exact absurd h4 (by omega);exact h4]
 rfl
def sameI(a b:Cx) : Bool×Bool:=
 if ((opI a).isSome&&(opI b).isSome&&a.n==b.n)=true then
  (mOk ((opI a).getD mZ)&&mOk ((opI b).getD mZ)&&eqPh ((opI a).getD mZ) ((opI b).getD mZ),mOk ((opI a).getD mZ)&&mOk ((opI b).getD mZ)) else (false,false)
def sameS(a b:Cx) : Bool×Bool:=
 if ((opS a).isSome&&(opS b).isSome&&a.n==b.n)=true then (phaseS ((opS a).getD mZ) ((opS b).getD mZ),true) else (false,false)
end Go.Proofs.YtlfjcmldfbfdbaaGreat
namespace Go.Proofs.YtlfjcmldfbfdbaaGreat
open Go.RowKit
theorem Xeu{n:Int}(hn:1≤n∧n≤5){g:Gt} : (gateS n g).cells.length≤2305843009213693951:=by
 have h:=X4s hn.2
 have h2:2^n.toNat*2^n.toNat≤32*32:=Nat.mul_le_mul h h
 simp only [gateS,X2m]
 omega
theorem X6v{m:Mx}(h:mOk m=true) : m.cells.length≤2305843009213693951:=by
 have h1:=X2k h
 have h2:m.rows.toNat*m.cols.toNat≤32*32:=Nat.mul_le_mul (by omega) (by omega)
 omega
theorem Xmw(a:Cx) : ((opI a).getD mZ).cells.length≤2305843009213693951:=by
 have h:=Xo0 a
 cases ha:opI a with
 | none=>exact Nat.zero_le _
 | some m=>rw [h.1] at ha;exact X6v (h.2 m ha).1
theorem X9r{α:Type}{l:List α}{i:Nat}{u:α}(h:l[i]? = some u) : l.drop i=u::l.drop (i+1):=by
 obtain ⟨h1,h2⟩:=List.getElem?_eq_some_iff.1 h
 rw [List.drop_eq_getElem_cons h1,h2]
end Go.Proofs.YtlfjcmldfbfdbaaGreat
namespace Go.Proofs.YtlfjcmldfbfdbaaGreat
open Go.RowKit
def unitP(d i:Nat) : List Dy:=(List.range (d*d)).map fun m=>if m/d=m % d∧m/d<i then dPow 0 else dZ
theorem X9n:∀ (m:Nat) (x:Rg),0≤(dLow x m).exp∧(dLow x m).exp≤m
 | 0,x=>by rw [X1o (by omega)];simp
 | m+1,x=>by
  by_cases he:rEven x=true
  ·rw [X2y (by omega) he,show ((m+1:Nat) : Int)-1=(m:Int) from by omega]
   have:=X9n m (rHalf x)
   omega
  ·rw [X1o fun _=>by simpa using he]
   dsimp only
   omega
theorem X5d{x:Rg}{e:Int}(h0:0≤e) : 0≤(dLow x e).exp∧(dLow x e).exp≤e:=by
 obtain ⟨m,rfl⟩ : ∃ m:Nat,e=m:=⟨e.toNat,by omega⟩
 exact X9n m x
theorem Xal{f:Bool}{x y:Dy}(hx:0≤x.exp∧x.exp≤60)(hy:0≤y.exp∧y.exp≤60) : 0≤(sMul f x y).2.exp∧(sMul f x y).2.exp≤60:=by
 unfold sMul
 split
 ·exact ⟨Int.le_refl _,by decide⟩
 ·have:=X5d (x:=sRing (rMul x.num y.num)) (e:=x.exp+y.exp) (by omega)
  dsimp only
  omega
theorem Xg5{f:Bool}{x y:Dy}(hx:0≤x.exp∧x.exp≤60)(hy:0≤y.exp∧y.exp≤60) : 0≤(sAdd f x y).2.exp∧(sAdd f x y).2.exp≤60:=by
 unfold sAdd
 dsimp only
 rw [X4m]
 have:=fun z=>X5d (x:=z) (e:=x.exp+((y.exp-x.exp).toNat:Int)) (by omega)
 have h:=this (sRing (rAdd (sRaiseN (y.exp-x.exp).toNat f x).2.num (sRaiseN (x.exp+((y.exp-x.exp).toNat:Int)-y.exp).toNat (sRaiseN (y.exp-x.exp).toNat f x).1 y).2.num))
 omega
theorem X73{a b:Mx}(ha:AllOk a)(hb:AllOk b)(f:Bool)(i j:Nat) : ∀ n,0≤(dotS f a b i j n).2.exp∧(dotS f a b i j n).2.exp≤60
 | 0=>⟨Int.le_refl _,show (0:Int)≤60 by decide⟩
 | n+1=>by
  rw [dotS]
  split
  ·exact X73 ha hb f i j n
  ·exact Xg5 (X73 ha hb f i j n) (Xal (X1r (Mx.at_ok ha i n)) (X1r (Mx.at_ok hb n j)))
theorem Xig{a b:Mx}{f f3:Bool}{i j k n:Nat}{s:Dy}(h:dotS f a b i j k=(f3,s))(hk:k≤n)(he:f3=true∨k=n) : dotS f a b i j n=(f3,s):=by
 rcases he with he|he
 ·subst he
  rw [X7a (n:=k) (by rw [h]) n hk,h]
 ·subst he;exact h
theorem Xfi{a b:Mx}{f f3:Bool}{i j k:Nat}{s:Dy}(h:dotS f a b i j k=(f3,s))(hf:f3=false) :
  dotS f a b i j (k+1)=((sAdd (sMul f3 (a.at i k) (b.at k j)).1 s (sMul f3 (a.at i k) (b.at k j)).2).1,(sAdd (sMul f3 (a.at i k) (b.at k j)).1 s (sMul f3 (a.at i k) (b.at k j)).2).2):=by
 subst hf
 rw [dotS,h,if_neg (show ¬ (false=true) by decide)]
theorem X2u{a b:Nat}(ha:a≤32)(hb:b≤32) : a*b≤1024:=Nat.le_trans (Nat.mul_le_mul ha hb) (by decide)
end Go.Proofs.YtlfjcmldfbfdbaaGreat
namespace Go.Proofs.YtlfjcmldfbfdbaaGreat
open Go.RowKit
end Go.Proofs.YtlfjcmldfbfdbaaGreat
namespace Go.Proofs.YtlfjcmldfbfdbaaGreat
open Go.RowKit
theorem X8b{l:List Int}{k:Nat}(h:decide ((k:Int)<(l.length:Int))=true) : l[k]? = some (l.getD k 0):=X58 (by simpa using h)
def putI:List Int→Int→List Int
 | [],n=>[n]
 | x::l,n=>if x<n then x::putI l n else if x=n then x::l else n::x::l
theorem Xd0:∀ (l:List Int) (n:Int),(putI l n).length≤l.length+1
 | [],n=>by simp [putI]
 | x::l,n=>by
  unfold putI
  split
  ·have:=Xd0 l n;simp only [List.length_cons];omega
  ·split<;>simp
theorem Xew:∀ (l:List Int) (n:Int) (k:Nat),(l.take k).all (fun x=>decide (x<n))=true→k≤l.length→(k<l.length→¬ l.getD k 0<n)→
  (k<l.length∧l.getD k 0=n→putI l n=l)∧(¬ (k<l.length∧l.getD k 0=n)→putI l n=l.take k++[n]++l.drop k)
 | [],n,k,_,hk,_=>by
  have:k=0:=by simpa using hk
  subst this
  exact ⟨fun h=>by simp at h,fun _=>rfl⟩
 | x::l,n,0,_,_,h=>by
  have h:=h (by simp)
  simp only [List.getD_cons_zero] at h
  refine ⟨fun h1=>?_,fun h1=>?_⟩
  ·have h2:=h1.2
   simp only [List.getD_cons_zero] at h2
   rw [putI,if_neg h,if_pos h2]
  ·have h2:¬ x=n:=fun e=>h1 ⟨by simp,by simpa using e⟩
   rw [putI,if_neg h,if_neg h2]
   rfl
 | x::l,n,k+1,ha,hk,h=>by
  simp only [List.take_succ_cons,List.all_cons,Bool.and_eq_true,decide_eq_true_eq] at ha
  have ih:=Xew l n k ha.2 (by simpa using hk) (fun h1=>by have:=h (by simpa using h1);simpa using this)
  simp only [List.length_cons,Nat.add_lt_add_iff_right,List.getD_cons_succ,List.take_succ_cons,List.drop_succ_cons,List.cons_append] at *
  rw [putI,if_pos ha.1]
  exact ⟨fun h1=>by rw [ih.1 h1],fun h1=>by rw [ih.2 h1]⟩
def usedStep(m:List Int)(g:Gt) : List Int:=if g.k=12 then m else if inR g.k 9 11=true then putI (putI m g.a) g.b else putI m g.a
def usedS(l:List Gt) : List Int:=l.foldl usedStep []
theorem Xbh{α β:Type}{f:β→α→β}{b:β}{l:List α}{k:Nat}{u:α}(h:l[k]? = some u) : (l.take (k+1)).foldl f b=f ((l.take k).foldl f b) u:=by
 rw [List.take_add_one,h]
 simp
def lastN(l:List Int)(q:Int) : Nat→Int
 | 0=>0
 | k+1=>if l.getD k 0=q then (k:Int) else lastN l q k
theorem X70{l:List Int}{q u:Int}{k:Nat}(h:l[k]? = some u) : lastN l q (k+1)=if u=q then (k:Int) else lastN l q k:=by
 have:l.getD k 0=u:=by rw [List.getD_eq_getElem?_getD,h];rfl
 rw [lastN,this]
section
variable {us : List Int} {j : Nat} {v q x k : Int}
end
def smallG(used:List Int)(g:Gt) : Gt:=⟨g.k,if g.k=12 then 0 else lastN used g.a used.length,if inR g.k 9 11=true then lastN used g.b used.length else 0⟩
def validS(n:Int)(r:Rp) : Bool:=inR n 1 5&&inR r.pos 0 400&&(!(r.old.any fun x=>!gOk n x)&&decide ((r.old.length:Int)≤40))&&(!(r.new.any fun x=>!gOk n x)&&decide ((r.new.length:Int)≤40))
theorem Xh3(n:Int)(r:Rp) : validS n r=vrI n r:=by
 unfold validS vrI
 cases inR n 1 5<;>cases inR r.pos 0 400<;>cases (r.old.any fun x=>!gOk n x)<;>cases (r.new.any fun x=>!gOk n x)<;>cases decide ((r.old.length:Int)≤40)<;>cases decide ((r.new.length:Int)≤40)<;>rfl
end Go.Proofs.YtlfjcmldfbfdbaaGreat
namespace Go.Proofs.YtlfjcmldfbfdbaaGreat
open Go.RowKit
abbrev Inc(l:List Int) : Prop:=l.Pairwise (· < ·)
theorem Xc8:∀ (l m:List Int),Inc l→Inc m→(∀ x,x ∈ l↔x ∈ m)→l=m
 | [],[],_,_,_=>rfl
 | [],y::m,_,_,h=>by have:=(h y).2 (by simp);cases this
 | x::l,[],_,_,h=>by have:=(h x).1 (by simp);cases this
 | x::l,y::m,hl,hm,h=>by
  have hl':=List.pairwise_cons.1 hl
  have hm':=List.pairwise_cons.1 hm
  have hxy:x=y:=by
   have h1:=(h x).1 (by simp)
   have h2:=(h y).2 (by simp)
   rcases List.mem_cons.1 h1 with h1|h1
   ·exact h1
   ·rcases List.mem_cons.1 h2 with h2|h2
    ·exact h2.symm
    ·have h3:=hm'.1 x h1
     have h4:=hl'.1 y h2
     omega
  subst hxy
  congr 1
  refine Xc8 l m hl'.2 hm'.2 fun z=>?_
  constructor
  ·intro hz
   rcases List.mem_cons.1 ((h z).1 (List.mem_cons_of_mem _ hz)) with h1|h1
   ·have:=hl'.1 z hz;omega
   ·exact h1
  ·intro hz
   rcases List.mem_cons.1 ((h z).2 (List.mem_cons_of_mem _ hz)) with h1|h1
   ·have:=hm'.1 z hz;omega
   ·exact h1
theorem X8x:∀ (l:List Int) (n x:Int),x ∈ putI l n↔x ∈ l∨x=n
 | [],n,x=>by simp [putI]
 | y::l,n,x=>by
  unfold putI
  split
  ·rw [List.mem_cons,X8x l n x,List.mem_cons,or_assoc]
  ·split
   ·rename_i h;subst h;simp only [List.mem_cons];constructor
    ·exact .inl
    ·rintro (h|h)
     ·exact h
     ·exact .inl h
   ·simp only [List.mem_cons];constructor
    ·rintro (h|h|h)
     ·exact .inr h
     ·exact .inl (.inl h)
     ·exact .inl (.inr h)
    ·rintro ((h|h)|h)
     ·exact .inr (.inl h)
     ·exact .inr (.inr h)
     ·exact .inl h
theorem Xcw:∀ (l:List Int) (n:Int),Inc l→Inc (putI l n)
 | [],n,_=>by simp [putI]
 | y::l,n,h=>by
  have h':=List.pairwise_cons.1 h
  unfold putI
  split
  ·rename_i h1
   refine List.pairwise_cons.2 ⟨fun z hz=>?_,Xcw l n h'.2⟩
   rcases (X8x l n z).1 hz with h2|h2
   ·exact h'.1 z h2
   ·omega
  ·split
   ·exact h
   ·rename_i h1 h2
    refine List.pairwise_cons.2 ⟨fun z hz=>?_,h⟩
    rcases List.mem_cons.1 hz with h3|h3
    ·omega
    ·have:=h'.1 z h3;omega
theorem Xdk(l:List Int)(x:Int) : x ∈ sortI l↔x ∈ l:=List.mem_mergeSort
theorem X8v(l:List Int) : (sortI l).Pairwise (·≤·):=by
 have:=List.pairwise_mergeSort (le:=fun x y:Int=>decide (x≤y)) (fun a b c h1 h2=>by simp only [decide_eq_true_eq] at *;omega) (fun a b=>by simp only [Bool.or_eq_true,decide_eq_true_eq];omega) l
 exact this.imp fun h=>by simpa using h
theorem X76{l:List Int}(h:l.Pairwise (·≤·)){i j:Nat}(hij:i≤j)(hj:j<l.length) : l[i]'(by omega)≤l[j]:=by
 rcases Nat.lt_or_ge i j with h1|h1
 ·exact List.pairwise_iff_getElem.1 h i j (by omega) hj h1
 ·obtain rfl:i=j:=by omega
  exact Int.le_refl _
theorem X3z{l:List Int}{j:Nat}(hj:j<l.length) : l.toArray[j]! = l[j]:=by
 rw [getElem!_pos l.toArray j (by simpa using hj)]
 simp
theorem X88{l:List Int}{j:Nat}(hj:j<l.length) : Lib.keeps l.toArray j=true↔j=0∨l[j]≠l[j-1]:=by
 unfold Lib.keeps
 rw [decide_eq_true_eq,X3z hj,X3z (show j-1<l.length by omega)]
theorem Xa6(l:List Int)(x:Int) : x ∈ Lib.compact l↔x ∈ l:=by
 unfold Lib.compact Lib.compactUpTo
 rw [List.mem_map]
 constructor
 ·rintro ⟨j,hj,rfl⟩
  have hj':=List.mem_range.1 (List.mem_filter.1 hj).1
  rw [X3z hj']
  exact List.getElem_mem _
 ·intro hx
  obtain ⟨j,hj,hjx⟩:=List.mem_iff_getElem.1 hx
  have key:∀ n j,j≤n→(hj:j<l.length)→l[j]=x→∃ k,∃ hk:k<l.length,l[k]=x∧(k=0∨l[k]≠l[k-1]):=by
   intro n
   induction n with
   | zero=>
    intro j h0 hj hx;obtain rfl:j=0:=by omega
    exact ⟨0,hj,hx,.inl rfl⟩
   | succ n ih=>
    intro j h0 hj hx
    by_cases h:j=0∨l[j]≠l[j-1]
    ·exact ⟨j,hj,hx,h⟩
    ·have h1:¬ j=0:=fun e=>h (.inl e)
     have h2:l[j]=l[j-1]:=Classical.byContradiction fun e=>h (.inr e)
     exact ih (j-1) (by omega) (by omega) (by rw [← h2];exact hx)
  obtain ⟨k,hk,h1,h2⟩:=key j j (Nat.le_refl _) hj hjx
  exact ⟨k,List.mem_filter.2 ⟨List.mem_range.2 hk,(X88 hk).2 h2⟩,by rw [X3z hk];exact h1⟩
theorem Xa8{l:List Int}(h:l.Pairwise (·≤·)) : Inc (Lib.compact l):=by
 unfold Lib.compact Lib.compactUpTo
 rw [Inc,List.pairwise_map]
 refine List.Pairwise.imp_of_mem (R:=(· < ·)) (fun {i j} hi hj hij=>?_) (List.Pairwise.filter _ List.pairwise_lt_range)
 have hi':=List.mem_range.1 (List.mem_filter.1 hi).1
 have hj':=List.mem_range.1 (List.mem_filter.1 hj).1
 have hk:=(X88 hj').1 (List.mem_filter.1 hj).2
 rw [X3z hi',X3z hj']
 have h1:=X76 h (show i≤j-1 by omega) (by omega)
 have h2:=X76 h (show j-1≤j by omega) hj'
 have h3:l[j]≠l[j-1]:=hk.resolve_left (by omega)
 omega
theorem X7p(p q:List Int)(x:Int) : x ∈ unionI p q↔x ∈ p∨x ∈ q:=by
 unfold unionI
 rw [Xa6,Xdk]
 simp
theorem X80(p q:List Int) : Inc (unionI p q):=Xa8 (X8v _)
theorem Xeg{l:List Int}{i j:Nat}{x:Int}(hi:i<l.length) : (l.set i x).getD j 0=if i=j then x else l.getD j 0:=by
 rw [List.getD_eq_getElem?_getD,List.getElem?_set]
 split
 ·rename_i h;subst h;simp [hi]
 ·rw [List.getD_eq_getElem?_getD]
theorem X8a{l:List Int}(hq:∀ x ∈ l,0≤x∧x≤4){q:Int}(h0:0≤q)(h4:q≤4) : ∀ k,k≤l.length→(numbI (l.take k)).getD q.toNat 0=lastN l q k
 | 0,_=>by
  have:q=0∨q=1∨q=2∨q=3∨q=4:=by omega
  rcases this with rfl|rfl|rfl|rfl|rfl<;>rfl
 | k+1,hk=>by
  have hu:=List.getElem?_eq_getElem (show k<l.length by omega)
  have hb:=hq _ (List.getElem_mem (show k<l.length by omega))
  rw [X7s hu,X70 hu,Xeg (by rw [Xa7];omega),X8a hq h0 h4 k (by omega)]
  by_cases h:l[k]=q
  ·rw [if_pos h,if_pos (by rw [h])]
  ·rw [if_neg h,if_neg (by omega)]
theorem Xcq{l:List Int}(h:Inc l)(hq:∀ x ∈ l,0≤x∧x≤4) : l.length≤5:=by
 have key:∀ (l:List Int) (a:Int),Inc l→(∀ x ∈ l,a≤x∧x≤4)→a≤5→(l.length:Int)≤5-a:=by
  intro l
  induction l with
  | nil=>intro a _ _ h;simp;omega
  | cons x l ih=>
   intro a hl hb ha
   have hl':=List.pairwise_cons.1 hl
   have hx:=hb x (by simp)
   have:=ih (x+1) hl'.2 (fun y hy=>⟨by have:=hl'.1 y hy;omega,(hb y (by simp [hy])).2⟩) (by omega)
   simp only [List.length_cons]
   omega
 have:=key l 0 h hq (by omega)
 omega
theorem X9p{l:List Int}{q:Int} : ∀ k,k≤l.length→q ∈ l.take k→∃ j:Nat,j<k∧lastN l q k=(j:Int)∧l.getD j 0=q
 | 0,_,h=>by simp at h
 | k+1,hk,h=>by
  have hu:=List.getElem?_eq_getElem (show k<l.length by omega)
  rw [X70 hu]
  by_cases he:l[k]=q
  ·rw [if_pos he]
   exact ⟨k,by omega,rfl,by rw [List.getD_eq_getElem?_getD,hu];exact he⟩
  ·rw [if_neg he]
   rw [List.take_add_one,hu,Option.toList_some] at h
   rcases List.mem_append.1 h with h|h
   ·obtain ⟨j,h1,h2,h3⟩:=X9p k (by omega) h
    exact ⟨j,by omega,h2,h3⟩
   ·exact absurd (List.mem_singleton.1 h).symm he
theorem X2l{l:List Int}{q:Int}(h:q ∈ l) : ∃ j:Nat,j<l.length∧lastN l q l.length=(j:Int)∧l.getD j 0=q:=X9p l.length (Nat.le_refl _) (by rw [List.take_length];exact h)
structure GoodG (us:List Int) (n:Int) (g:Gt) : Prop where
 ok:gOk n g=true
 use:∀ x ∈ qubI g,x ∈ us
theorem X7w{us:List Int}{n:Int}{g:Gt}(hq:∀ x ∈ us,0≤x∧x≤4)(h:GoodG us n g) : mapG (numbI us) g=smallG us g:=by
 obtain ⟨hn,hk,ha,hb⟩:=X0m h.ok
 have hf:∀ q,0≤q→q≤4→(numbI us).getD q.toNat 0=lastN us q us.length:=fun q h0 h4=>by
  have:=X8a hq h0 h4 us.length (Nat.le_refl _)
  rwa [List.take_length] at this
 unfold mapG smallG
 have hok:=h.ok
 simp only [gOk,Bool.and_eq_true,Xh] at hok
 by_cases h12:g.k=12
 ·have h9:¬ inR g.k 9 11=true:=fun e=>by have:=Xh.1 e;omega
  rw [if_pos h12] at hok
  simp only [Bool.and_eq_true,beq_iff_eq] at hok
  rw [if_pos h12,if_pos h12,if_neg h9,if_neg h9,hok.2.1,hok.2.2]
 ·have ha:=ha h12
  rw [if_neg h12] at hok ⊢
  rw [if_neg h12,hf g.a (by omega) (by omega)]
  by_cases h9:inR g.k 9 11=true
  ·have hb:=hb (Xh.1 h9)
   rw [if_pos h9,if_pos h9,hf g.b (by omega) (by omega)]
  ·rw [if_neg h9,if_neg h9]
   rw [if_neg (fun e=>h9 (Xh.2 e))] at hok
   simp only [Bool.and_eq_true,beq_iff_eq] at hok
   rw [hok.2.2]
theorem Xa3{us:List Int}{n:Int}{g:Gt}(hi:Inc us)(hq:∀ x ∈ us,0≤x∧x≤4)(h:GoodG us n g) : gOk (max 1 (us.length:Int)) (smallG us g)=true:=by
 obtain ⟨hn,hk,ha,hb⟩:=X0m h.ok
 have hl:=Xcq hi hq
 have e1:inR (max 1 (us.length:Int)) 1 5=true:=Xh.2 (by omega)
 have e2:inR g.k 1 12=true:=Xh.2 hk
 unfold gOk smallG
 dsimp only
 rw [e1,e2]
 simp only [Bool.true_and]
 by_cases h12:g.k=12
 ·have h9:¬ inR g.k 9 11=true:=fun e=>by have:=Xh.1 e;omega
  rw [if_pos h12,if_pos h12,if_neg h9];rfl
 ·have hqa:g.a ∈ us:=h.use _ (by unfold qubI;rw [if_neg h12];split<;>simp)
  obtain ⟨i,hi1,hi2,hi3⟩:=X2l hqa
  rw [if_neg h12,if_neg h12,hi2]
  have e3:inR (i:Int) 0 (max 1 (us.length:Int)-1)=true:=Xh.2 (by omega)
  rw [e3]
  by_cases h9:inR g.k 9 11=true
  ·have hqb:g.b ∈ us:=h.use _ (by unfold qubI;rw [if_neg h12,if_pos h9];simp)
   obtain ⟨j,hj1,hj2,hj3⟩:=X2l hqb
   have e4:inR (j:Int) 0 (max 1 (us.length:Int)-1)=true:=Xh.2 (by omega)
   rw [if_pos h9,if_pos h9,hj2,e4]
   have hne:=(hb (Xh.1 h9)).2.2
   have:(i:Int)≠j:=fun e=>by
    obtain rfl:i=j:=by omega
    exact hne (hi3.symm.trans hj3)
   simpa using this
  ·rw [if_neg h9,if_neg h9];rfl
theorem X28{n:Int}{g:Gt}(h:gOk n g=true){x:Int}(hx:x ∈ qubI g) : 0≤x∧x≤4:=by
 obtain ⟨hn,hk,ha,hb⟩:=X0m h
 unfold qubI at hx
 split at hx
 ·cases hx
 ·rename_i h12
  have ha:=ha h12
  split at hx
  ·rename_i h9
   have hb:=hb (Xh.1 h9)
   rcases List.mem_cons.1 hx with hx|hx
   ·omega
   ·have:=List.mem_singleton.1 hx;omega
  ·have:=List.mem_singleton.1 hx;omega
def smallC(l:List Gt)(us:List Int) : Cx:=⟨max 1 (us.length:Int),l.map (smallG us)⟩
def mapC(l:List Gt)(us:List Int) : Cx:=⟨max (us.length:Int) 1,mapI l (numbI us)⟩
def justS(r:Rp) : Bool×Bool:=sameS (smallC r.old (usedS (r.old++r.new))) (smallC r.new (usedS (r.old++r.new)))
def justI(r:Rp) : Bool×Bool:=sameI (mapC r.old (unionI (usedI r.old) (usedI r.new))) (mapC r.new (unionI (usedI r.old) (usedI r.new)))
theorem Xij{n:Int}{r:Rp}(h:vrI n r=true) : (1≤n∧n≤5)∧(r.old.length≤40∧r.new.length≤40)∧(∀ g ∈ r.old,gOk n g=true)∧(∀ g ∈ r.new,gOk n g=true):=by
 simp only [vrI,Bool.and_eq_true,Xh,decide_eq_true_eq,Bool.not_eq_true',List.any_eq_false] at h
 refine ⟨h.1.1.1.1.1,by omega,fun g hg=>by simpa using h.1.2 g hg,fun g hg=>by simpa using h.2 g hg⟩
end Go.Proofs.YtlfjcmldfbfdbaaGreat
namespace Go.Proofs.YtlfjcmldfbfdbaaGreat
open Go.RowKit
theorem Xdh{n:Int}{l:List Gt}(h:∀ g ∈ l,gOk n g=true) : ∀ g ∈ l,(g.k≠12→0≤g.a∧g.a<5)∧(inR g.k 9 11=true→0≤g.b∧g.b<5):=fun g hg=>by
 obtain ⟨hn,hk,ha,hb⟩:=X0m (h g hg)
 exact ⟨fun h1=>by have:=ha h1;omega,fun h1=>by have:=hb (Xh.1 h1);omega⟩
def implJ(n:Int)(r:Rp) : Bool×Bool:=if vrI n r=true then justI r else (false,false)
def specJ(n:Int)(r:Rp) : Bool×Bool:=if validS n r=true then justS r else (false,false)
def szG(l:List Gt)(left:Int) : Int:=if left-(l.length:Int)<0 then -1 else left-(l.length:Int)
def szR(r:Rp)(left:Int) : Int:=if szG r.old left<0 then -1 else if szG r.new (szG r.old left)<0 then -1 else szG r.new (szG r.old left)
end Go.Proofs.YtlfjcmldfbfdbaaGreat
namespace Go.Proofs.YtlfjcmldfbfdbaaGreat
open Go.RowKit
structure Sr where (pos:Int) (A:Option Addr) (c:Nat) (old:List Gt) (B:Option Addr) (d:Nat) (new:List Gt)
def encSr(s:Sr) : List Value:=[.int .i64 s.pos,.slice s.A s.old.length s.c,.slice s.B s.new.length s.d]
abbrev Sr.rp(s:Sr) : Rp:=⟨s.pos,s.old,s.new⟩
def srZ:Sr:=⟨0,none,0,[],none,0,[]⟩
def DeepR(w:World)(B:Nat)(E:TypeId)(l:List Sr) : Prop:=∀ s ∈ l,Rd w B E encG s.A s.old∧Rd w B E encG s.B s.new
def DeepX(w:World)(B:Nat)(l:List Sr) : Prop:=∀ s ∈ l,(∃ E,Rd w B E encG s.A s.old)∧∃ E,Rd w B E encG s.B s.new
section
variable {w w' : World} {B : Nat} {E : TypeId} {l : List Sr}
theorem DeepR.below(h:DeepR w B E l)(hb:Below w.heap.size w w') : DeepR w' B E l:=fun s hs=>⟨(h s hs).1.below hb,(h s hs).2.below hb⟩
theorem DeepR.top(h:DeepR w B E l) : DeepR w w.heap.size E l:=fun s hs=>⟨(h s hs).1.top,(h s hs).2.top⟩
theorem DeepR.only{b:Nat}(h:DeepR w B E l)(ho:Only b w w')(hB:B≤b) : DeepR w' B E l:=fun s hs=>⟨(h s hs).1.only ho hB,(h s hs).2.only ho hB⟩
theorem DeepR.onlyT{b:Nat}{T:TypeId}{lc:List Value}(h:DeepR w B E l)(ho:Only b w w')(hb:Blk w b T lc)(hT:Nat.beq E T=false) : DeepR w' B E l:=fun s hs=>⟨(h s hs).1.onlyT ho hb hT,(h s hs).2.onlyT ho hb hT⟩
theorem DeepR.appB{B0:Nat}{E':TypeId}{sz:Nat}{α:Type}{enc:α→List Value}{A:Option Addr}{c:Nat}{m:List α}(h:DeepR w B E l)(ho:Own w B0 E' sz enc A c m)(hg:w.grownBy w' (Value.slice A m.length c).ownBlock)(hB:B≤B0) : DeepR w' B E l:=fun s hs=>⟨(h s hs).1.appB ho hg hB,(h s hs).2.appB ho hg hB⟩
theorem DeepR.appT{B0:Nat}{E':TypeId}{sz:Nat}{α:Type}{enc:α→List Value}{A:Option Addr}{c:Nat}{m:List α}(h:DeepR w B E l)(ho:Own w B0 E' sz enc A c m)(hg:w.grownBy w' (Value.slice A m.length c).ownBlock)(hT:Nat.beq E' E=false) : DeepR w' B E l:=fun s hs=>⟨(h s hs).1.appT ho hg hT,(h s hs).2.appT ho hg hT⟩
theorem DeepX.below(h:DeepX w B l)(hb:Below w.heap.size w w') : DeepX w' B l:=fun s hs=>⟨(h s hs).1.imp fun _ k=>k.below hb,(h s hs).2.imp fun _ k=>k.below hb⟩
theorem DeepX.top(h:DeepX w B l) : DeepX w w.heap.size l:=fun s hs=>⟨(h s hs).1.imp fun _ k=>k.top,(h s hs).2.imp fun _ k=>k.top⟩
theorem DeepX.only{b:Nat}(h:DeepX w B l)(ho:Only b w w')(hB:B≤b) : DeepX w' B l:=fun s hs=>⟨(h s hs).1.imp fun _ k=>k.only ho hB,(h s hs).2.imp fun _ k=>k.only ho hB⟩
theorem DeepX.appB{B0:Nat}{E':TypeId}{sz:Nat}{α:Type}{enc:α→List Value}{A:Option Addr}{c:Nat}{m:List α}(h:DeepX w B l)(ho:Own w B0 E' sz enc A c m)(hg:w.grownBy w' (Value.slice A m.length c).ownBlock)(hB:B≤B0) : DeepX w' B l:=fun s hs=>⟨(h s hs).1.imp fun _ k=>k.appB ho hg hB,(h s hs).2.imp fun _ k=>k.appB ho hg hB⟩
end
theorem DeepR.zero(w:World)(B:Nat)(E:TypeId)(n:Nat) : DeepR w B E (List.replicate n srZ):=fun s hs=>by
 obtain rfl:=List.eq_of_mem_replicate hs
 exact ⟨Rd.nil _ _ _ _ _,Rd.nil _ _ _ _ _⟩
theorem DeepR.set{w:World}{B:Nat}{E:TypeId}{l:List Sr}(h:DeepR w B E l){x:Sr}(h1:Rd w B E encG x.A x.old)(h2:Rd w B E encG x.B x.new)(k:Nat) : DeepR w B E (l.set k x):=fun s hs=>by
 rcases List.mem_or_eq_of_mem_set hs with hs|hs
 ·exact h s hs
 ·subst hs;exact ⟨h1,h2⟩
def cIf(c:Cx) : Option Cx:=if cOk c=true then some c else none
def midC(c:Cx)(r:Rp) : Cx:=⟨c.n,c.gs.take r.pos.toNat++(r.new++(c.gs.drop (r.pos.toNat+r.old.length)++[]))⟩
def fitI(c:Cx)(r:Rp) : Bool:=cOk c&&vrI c.n r&&decide (r.pos+(r.old.length:Int)≤(c.gs.length:Int))&&decide ((c.gs.take (r.pos.toNat+r.old.length)).drop r.pos.toNat=r.old)
def applyI(c:Cx)(r:Rp) : Option Cx:=if fitI c r=true then cIf (midC c r) else none
def fitS(c:Cx)(r:Rp) : Bool:=validS c.n r&&decide (r.pos+(r.old.length:Int)≤(c.gs.length:Int))&&decide ((c.gs.length:Int)-(r.old.length:Int)+(r.new.length:Int)≤400)
def applyS(c:Cx)(r:Rp) : Option Cx:=if fitS c r=true∧(c.gs.take (r.pos.toNat+r.old.length)).drop r.pos.toNat=r.old then some ⟨c.n,c.gs.take r.pos.toNat++r.new++c.gs.drop (r.pos.toNat+r.old.length)⟩ else none
def eqC(c d:Cx) : Bool:=c.n==d.n&&decide (c.gs=d.gs)
def checkLI(i:Nat)(c:Cx)(d:Cx) : List Rp→Int
 | []=>if eqC c d=true then 0 else (i:Int)+1
 | r::l=>if ((applyI c r).isSome&&(implJ c.n r).2&&(implJ c.n r).1)=true then checkLI (i+1) ((applyI c r).getD ⟨0,[]⟩) d l else (i:Int)+1
def checkLS(i:Nat)(c:Cx)(d:Cx) : List Rp→Int
 | []=>if eqC c d=true then 0 else (i:Int)+1
 | r::l=>if ((applyS c r).isSome&&(justS r).1&&(justS r).2)=true then checkLS (i+1) ((applyS c r).getD ⟨0,[]⟩) d l else (i:Int)+1
def checkI(c d:Cx)(l:List Rp) : Int×Bool:=if (cOk c&&decide ((l.length:Int)≤400))=true then (checkLI 0 c d l,true) else (0,false)
def checkS(c d:Cx)(l:List Rp) : Int×Bool:=if (cOk c&&decide ((l.length:Int)≤400))=true then (checkLS 0 c d l,true) else (0,false)
theorem Xet{c:Cx}{r:Rp}(hc:cOk c=true) : applyI c r=applyS c r∧∀ c',applyS c r=some c'→cOk c'=true∧c'.n=c.n∧vrI c.n r=true:=by
 obtain ⟨hn,hl,hg⟩:=X1j hc
 unfold applyI applyS fitI fitS
 rw [hc,Xh3,Bool.true_and]
 by_cases hv:vrI c.n r=true
 ·obtain ⟨_,hl2,ho,hw⟩:=Xij hv
  have hp:0≤r.pos:=by simp only [vrI,Bool.and_eq_true,Xh] at hv;omega
  rw [hv,Bool.true_and]
  by_cases hle:r.pos+(r.old.length:Int)≤(c.gs.length:Int)
  ·rw [decide_eq_true hle,Bool.true_and,Bool.true_and]
   by_cases he:(c.gs.take (r.pos.toNat+r.old.length)).drop r.pos.toNat=r.old
   ·rw [decide_eq_true he,if_pos rfl]
    have hlen:(c.gs.take r.pos.toNat++r.new++c.gs.drop (r.pos.toNat+r.old.length)).length=c.gs.length-r.old.length+r.new.length:=by
     simp only [List.length_append,List.length_take,List.length_drop];omega
    have hall:∀ g ∈ c.gs.take r.pos.toNat++r.new++c.gs.drop (r.pos.toNat+r.old.length),gOk c.n g=true:=fun g h=>by
     rcases List.mem_append.1 h with h|h
     ·rcases List.mem_append.1 h with h|h
      ·exact hg g (List.mem_of_mem_take h)
      ·exact hw g h
     ·exact hg g (List.mem_of_mem_drop h)
    have hmid:midC c r=⟨c.n,c.gs.take r.pos.toNat++r.new++c.gs.drop (r.pos.toNat+r.old.length)⟩:=by unfold midC;simp
    by_cases h4:(c.gs.length:Int)-(r.old.length:Int)+(r.new.length:Int)≤400
    ·have hok:cOk (midC c r)=true:=by
      rw [hmid]
      have h5:((c.gs.take r.pos.toNat++r.new++c.gs.drop (r.pos.toNat+r.old.length)).any fun x=>!gOk c.n x)=false:=by
       rw [List.any_eq_false];intro x hx;simp [hall x hx]
      unfold cOk
      simp only
      rw [h5,Xh.2 hn,hlen,decide_eq_true (by omega)];rfl
     rw [cIf,if_pos hok,if_pos ⟨by simpa using h4,he⟩,hmid]
     refine ⟨rfl,fun c' h=>?_⟩
     injection h with h
     rw [← h]
     rw [hmid] at hok
     exact ⟨hok,rfl,rfl⟩
    ·have hok:¬ cOk (midC c r)=true:=fun h=>by
      obtain ⟨_,h6,_⟩:=X1j h
      rw [hmid] at h6
      simp only at h6
      rw [hlen] at h6
      omega
     rw [cIf,if_neg hok,if_neg (fun h=>h4 (by simpa using h.1))]
     exact ⟨rfl,fun c' h=>by cases h⟩
   ·rw [decide_eq_false he,if_neg (by decide),if_neg (fun h=>he h.2)]
    exact ⟨rfl,fun c' h=>by cases h⟩
  ·rw [decide_eq_false hle]
   exact ⟨rfl,fun c' h=>by simp at h⟩
 ·have hv':vrI c.n r=false:=by simpa using hv
  rw [hv']
  exact ⟨rfl,fun c' h=>by simp at h⟩
end Go.Proofs.YtlfjcmldfbfdbaaGreat
namespace Go.Proofs.YtlfjcmldfbfdbaaGreat
open Go.RowKit
structure Sg where (A:Option Addr) (c:Nat) (l:List Gt)
def encSg(s:Sg) : List Value:=[.slice s.A s.l.length s.c]
def growRenG:Go.Shelf.Ren:=⟨fun|4=>185|n=>n,fun|22=>29|25=>24|n=>n,fun|n=>n⟩
abbrev cZ:Cx:=⟨0,[]⟩
end Go.Proofs.YtlfjcmldfbfdbaaGreat
namespace Go.Proofs.YtlfjcmldfbfdbaaGreat
open Go.RowKit
def midS(c:Cx)(r:Rp) : Cx:=⟨c.n,c.gs.take r.pos.toNat++r.new++c.gs.drop (r.pos.toNat+r.old.length)⟩
theorem Xat{c:Cx}{r:Rp}(h1:fitS c r=true)(h2:(c.gs.take (r.pos.toNat+r.old.length)).drop r.pos.toNat=r.old) : applyS c r=some (midS c r):=by
 unfold applyS midS
 rw [if_pos ⟨h1,h2⟩]
def szF:List Sr→Int→Int
 | [],t=>t
 | s::l,t=>if szR s.rp t<0 then -1 else szF l (szR s.rp t)
def szL(l:List Sr)(t:Int) : Int:=if t-(l.length:Int)<0 then -1 else szF l (t-(l.length:Int))
def szZ(c:Cx)(l:List Sr)(d:Cx)(t:Int) : Int:=if szG c.gs t<0 then -1 else if szL l (szG c.gs t)<0 then -1 else szG d.gs (szL l (szG c.gs t))
instance:DecidableEq Rp:=fun a b=>decidable_of_iff (a.pos=b.pos∧a.old=b.old∧a.new=b.new) (by cases a;cases b;simp)
end Go.Proofs.YtlfjcmldfbfdbaaGreat
set_option maxRecDepth 4000
namespace Go.Proofs.YtlfjcmldfbfdbaaGreat
open Go.RowKit
theorem F93(w0:World)(ls:List Sl)(Al:Option Addr)(cl:Nat)(hr_ls:Rd w0 w0.heap.size 66 encS Al ls)(hall:∀ s ∈ ls,Rd w0 w0.heap.size 3 encI s.A s.l)(hln:ls.length≤1000)(hsum:(ls.flatMap Sl.l).length≤1000000000) : Ret Tryz.prog 159 [.slice Al ls.length cl] w0 (fun v w=>∃ A c,v=.slice A (ls.flatMap Sl.l).length c∧Own w w0.heap.size 3 1 encI A c (ls.flatMap Sl.l)∧Below w0.heap.size w0 w):=by
 refine enter Tryz.func159 rfl 36 rfl rfl ?_
 intro a hf
 have hW:Below w0.heap.size w0 w0:=Below.refl _ _
 refine Zs hf fun _ hK2=>?_
 refine Za rfl ?_
 refine Zt hK2 fun a hf=>?_
 refine Zs hf fun _ hK4=>?_
 refine Za rfl ?_
 refine Zt hK4 fun a hf=>?_
 refine wp_seq_k fun _ hK5=>?_
 refine Zs hf fun _ hK6=>?_
 refine Zm rfl<|Ze (X14 rfl X6y)<|Zm rfl ?_
 refine Zt hK6 fun a hf=>?_
 refine wp_block ?_
 refine X0c (σ:=Nat) (fun (k:Nat) (a:Act) (w:World)=>Fr a 36 [(0,.slice Al ls.length cl),(3,vi (((ls.take k).flatMap Sl.l).length:Int)),(9,.slice Al ls.length cl),(10,vi (ls.length:Int)),(11,vi (k:Int))]∧(k≤ls.length)∧Below w0.heap.size w0 w) (fun (k:Nat)=>ls.length-k) 0 ?_ ?_
 ·exact ⟨hf.sub ⟨rfl,rfl,rfl,rfl,rfl,trivial⟩,(Nat.zero_le _),hW⟩
 rintro k a w1 ⟨hf,hk,hW⟩
 refine Zs hf fun _ hK7=>?_
 refine Ze (X16 rfl rfl) ?_
 refine Zt hK7 fun a hf=>?_
 refine wp_seq_k fun _ hK8=>?_
 refine Xm hf rfl (fun hc9=>?_) (fun hc9=>?_)
 ·have hc9b:=hc9
  have hc9:=of_decide_eq_true hc9
  obtain ⟨u10,hu10⟩:=Xx (l:=ls) (k:=k) (by omega)
  have hst:=X8d (f:=Sl.l) hu10
  have hle:=X8r Sl.l ls (k+1)
  rw [hst,List.length_append] at hle
  refine wp_skip ?_
  refine hK8 _ _ ?_
  refine wp_seq_k fun _ hK11=>?_
  refine wp_block ?_
  refine Zs hf fun _ hK12=>?_
  refine Zi (k:=k) (u:=u10) (enc:=encS) (l:=ls) trivial rfl rfl X6y Xjh X9k (hr_ls.below' hW) hu10 rfl ?_;intro p14 hat13
  have hr15:Rd w1 w0.heap.size 3 encI u10.A u10.l:=(hall u10 (List.mem_of_getElem? hu10)).below' hW
  refine Ze (X0 rfl Xjz hat13)<|Za rfl ?_
  refine Zt hK12 fun a hf=>?_
  refine Zs hf fun _ hK16=>?_
  refine Zm rfl<|Zm rfl<|Ze (X14 rfl X03)<|Ze (X0a rfl rfl (by omega) (by omega))<|Za rfl ?_
  refine Zt hK16 fun a hf=>?_
  refine Zs hf fun _ hK17=>?_
  refine Zm rfl<|Ze (X16 rfl rfl) ?_
  refine Zt hK17 fun a hf=>?_
  refine Xm hf rfl (fun hc18=>?_) (fun hc18=>?_)
  ·have hc18b:=hc18
   have hc18:=of_decide_eq_true hc18
   exact absurd hc18 (by omega)
  have hc18b:=hc18
  have hc18:=of_decide_eq_false hc18
  refine wp_skip ?_
  refine Xr ?_
  refine hK11 _ _ ?_
  refine Zr hf ?_
  refine Ze (X0a rfl rfl (by omega) (by omega))<|Zm rfl ?_
  refine Zn fun a hf=>?_
  have hjj:((((ls.take k).flatMap Sl.l).length:Int)+(u10.l.length:Int))=(((ls.take (k+1)).flatMap Sl.l).length:Int):=by rw [hst,List.length_append];omega
  rw [hjj] at hf
  refine Xz ?_
  exact ⟨k+1,⟨hf.sub ⟨rfl,rfl,rfl,rfl,rfl,trivial⟩,(by omega),hW⟩,(by omega)⟩
 have hc9b:=hc9
 have hc9:=of_decide_eq_false hc9
 refine wp_exit ?_
 refine Xu ?_
 refine Xu ?_
 refine X0f ?_
 refine hK5 _ _ ?_
 refine Zs hf fun _ hK19=>?_
 refine Zm rfl ?_
 refine Zf (Vc (Xp4 _ (((ls.take k).flatMap Sl.l).length) (by have:=X8r Sl.l ls k;omega)) Xkj) ?_;rintro _ w2 ⟨A21,c21,rfl,ho21,hE⟩
 replace ho21:=ho21.lower hW.size
 replace hW:=btr hW hE
 refine Za rfl ?_
 refine Zt hK19 fun a hf=>?_
 refine wp_seq_k fun _ hK22=>?_
 refine Zs hf fun _ hK23=>?_
 refine Zm rfl<|Ze (X14 rfl X6y)<|Zm rfl ?_
 refine Zt hK23 fun a hf=>?_
 refine wp_block ?_
 refine X0c (σ:=Nat×(List Int)) (fun (s:Nat×(List Int)) (a:Act) (w:World)=>match s with|(j,l)=>∃ A24 c24,Fr a 36 [(6,.slice A24 l.length c24),(25,.slice Al ls.length cl),(26,vi (ls.length:Int)),(27,vi (j:Int))]∧(j≤ls.length)∧(l=(ls.take j).flatMap Sl.l)∧Own w w0.heap.size 3 1 encI A24 c24 l∧Below w0.heap.size w0 w) (fun (s:Nat×(List Int))=>match s with|(j,l)=>ls.length-j) (0,[]) ?_ ?_
 ·exact ⟨A21,c21,hf.sub ⟨rfl,rfl,rfl,rfl,trivial⟩,(Nat.zero_le _),rfl,ho21,hW⟩
 rintro ⟨j,l⟩ a w3 ⟨A24,c24,hf,hj,hl,ho24,hW⟩
 refine Zs hf fun _ hK25=>?_
 refine Ze (X16 rfl rfl) ?_
 refine Zt hK25 fun a hf=>?_
 refine wp_seq_k fun _ hK26=>?_
 refine Xm hf rfl (fun hc27=>?_) (fun hc27=>?_)
 ·have hc27b:=hc27
  have hc27:=of_decide_eq_true hc27
  obtain ⟨u28,hu28⟩:=Xx (l:=ls) (k:=j) (by omega)
  have hst:=X8d (f:=Sl.l) hu28
  have hle:=X8r Sl.l ls (j+1)
  rw [hst,List.length_append,← hl] at hle
  refine wp_skip ?_
  refine hK26 _ _ ?_
  refine wp_seq_k fun _ hK29=>?_
  refine wp_block ?_
  refine Zs hf fun _ hK30=>?_
  refine Zi (k:=j) (u:=u28) (enc:=encS) (l:=ls) trivial rfl rfl X6y Xjh X9k (hr_ls.below' hW) hu28 rfl ?_;intro p32 hat31
  have hr33:Rd w3 w0.heap.size 3 encI u28.A u28.l:=(hall u28 (List.mem_of_getElem? hu28)).below' hW
  refine Ze (X0 rfl Xjz hat31)<|Za rfl ?_
  refine Zt hK30 fun a hf=>?_
  refine Zr hf ?_
  refine Zm rfl<|Zm rfl ?_
  refine Zf (X1e (enc:=encI) (l:=(l)) (l2:=(u28.l)) (B0:=w0.heap.size) rfl rfl X03 X18 Xp X1n ho24 hr33 (by simp only [maxLen];omega) (by omega) hW.size) ?_;rintro _ w4 ⟨A34,c34,rfl,ho34,hg,hat⟩
  have hown:Own _ w0.heap.size 3 1 encI _ _ (l):=ho24
  clear hat
  replace hr33:=hr33.appB hown hg (Nat.le_refl _)
  replace hW:=Below.app hW hown hg (Nat.le_refl _) hW.size
  clear hown hg
  refine Za rfl ?_
  refine Zn fun a hf=>?_
  refine Xr ?_
  refine hK29 _ _ ?_
  refine Zr hf ?_
  refine Ze (X0a rfl rfl (by omega) (by omega))<|Zm rfl ?_
  refine Zn fun a hf=>?_
  refine Xz ?_
  exact ⟨(j+1,l++u28.l),⟨A34,c34,hf.sub ⟨rfl,rfl,rfl,rfl,trivial⟩,(by omega),(by rw [hst,hl]),ho34,hW⟩,(by first|omega|(dsimp only;omega))⟩
 have hc27b:=hc27
 have hc27:=of_decide_eq_false hc27
 refine wp_exit ?_
 refine Xu ?_
 refine Xu ?_
 refine X0f ?_
 refine hK22 _ _ ?_
 refine Zs hf fun _ hK35=>?_
 refine Zm rfl<|Za rfl ?_
 refine Zt hK35 fun a hf=>?_
 refine wp_ret (X2 hf (Xj hf rfl rfl) ?_)
 have hfin:l=ls.flatMap Sl.l:=by rw [hl];exact Xe9 _ (by omega)
 rw [← hfin]
 exact ⟨A24,c24,rfl,ho24,hW⟩
theorem F47(w0:World)(Ap:Option Addr)(cp:Nat)(p:List Int)(hr_p:Rd w0 w0.heap.size 3 encI Ap p)(Aq:Option Addr)(cq:Nat)(q:List Int)(hr_q:Rd w0 w0.heap.size 3 encI Aq q)(hpl:p.length≤100000000)(hql:q.length≤100000000) : Ret Tryz.prog 99 [.slice Ap p.length cp,.slice Aq q.length cq] w0 (fun v w=>∃ A c,v=.slice A (unionI p q).length c∧Own w w0.heap.size 3 1 encI A c (unionI p q)∧Below w0.heap.size w0 w):=by
 refine enter Tryz.func99 rfl 14 rfl rfl ?_
 intro a hf
 have hW:Below w0.heap.size w0 w0:=Below.refl _ _
 refine Zs hf fun _ hK3=>?_
 refine Za rfl ?_
 refine Zt hK3 fun a hf=>?_
 refine Zs hf fun _ hK5=>?_
 refine Zm rfl<|Zm rfl ?_
 refine Zf (Xd (k:=2) (vs:=[.slice Ap p.length cp,.slice Aq q.length cq]) (zs:=[.slice Ap p.length cp,.slice Aq q.length cq]) rfl X6y Xmm rfl rfl) ?_;rintro _ w1 ⟨b6,rfl,hl6,hE,hB6⟩
 have hlo6:=Nat.le_trans hW.size hl6
 replace hW:=btr hW hE
 refine Zf (Vc (F93 _ [(⟨Ap,cp,p⟩ : Sl),(⟨Aq,cq,q⟩ : Sl)] (some ⟨b6,0,none⟩) 2 (Rd.of_blk hB6 rfl _ hB6.lt) (fun s hs=>by rcases List.mem_cons.1 hs with rfl|hs;exact (hr_p.below' hW).top;rw [List.mem_singleton.1 hs];exact (hr_q.below' hW).top) (by simp) (by simp;omega)) Xnz) ?_;rintro _ w2 ⟨A8,c8,rfl,ho8,hE⟩
 replace ho8:=ho8.lower hW.size
 replace hB6:=hB6.below hE
 replace hW:=btr hW hE
 refine Za rfl ?_
 refine Zt hK5 fun a hf=>?_
 refine Zs hf fun _ hK9=>?_
 refine Zm rfl ?_
 refine Zf (Vc (F94 _ w0.heap.size A8 c8 (List.flatMap Sl.l [(⟨Ap,cp,p⟩ : Sl),(⟨Aq,cq,q⟩ : Sl)]) ho8 (by simp;omega)) Xn6) ?_;rintro _ w3 ⟨hnew,hg⟩
 have hown:=ho8
 replace hW:=Below.app hW hown hg (Nat.le_refl _) hW.size
 clear hown hg;clear ho8;have ho8:=hnew;clear hnew
 refine Zt hK9 fun a hf=>?_
 refine Zs hf fun _ hK10=>?_
 refine Zm rfl ?_
 refine Zf (Vc (Xpb _ w0.heap.size A8 c8 (sortI (List.flatMap Sl.l [(⟨Ap,cp,p⟩ : Sl),(⟨Aq,cq,q⟩ : Sl)])) ((List.flatMap Sl.l [(⟨Ap,cp,p⟩ : Sl),(⟨Aq,cq,q⟩ : Sl)]).length) (by simp [sortI]) ho8 (by simp [sortI];omega)) Xo6) ?_;rintro _ w4 ⟨rfl,hnew,hg⟩
 have hown:=ho8
 replace hW:=Below.app hW hown hg (Nat.le_refl _) hW.size
 clear hown hg;clear ho8;have ho8:=hnew;clear hnew
 refine Za rfl ?_
 refine Zt hK10 fun a hf=>?_
 refine wp_ret (X2 hf (Xj hf rfl rfl) ?_)
 have hfin:unionI p q=Lib.compact (sortI (List.flatMap Sl.l [(⟨Ap,cp,p⟩ : Sl),(⟨Aq,cq,q⟩ : Sl)])):=by unfold unionI;congr 2
 rw [hfin]
 exact ⟨A8,c8,rfl,ho8,hW⟩
theorem F96(w0:World)(g:Gt) : Ret Tryz.prog 58 [.agg #[vi g.k,vi g.a,vi g.b]] w0 (fun v w=>∃ A c,v=.slice A (qubI g).length c∧Own w w0.heap.size 3 1 encI A c (qubI g)∧Below w0.heap.size w0 w):=by
 refine enter Tryz.func58 rfl 19 rfl rfl ?_
 intro a hf
 have hW:Below w0.heap.size w0 w0:=Below.refl _ _
 refine Zs hf fun _ hK1=>?_
 refine Zf (X0j (zs:=[vi g.k,vi g.a,vi g.b]) rfl rfl) ?_;rintro _ w1 ⟨b2,rfl,hl2,hE,hB2⟩
 have hlo2:=Nat.le_trans hW.size hl2
 replace hW:=btr hW hE
 refine Za rfl ?_
 refine Zt hK1 fun a hf=>?_
 refine wp_seq_k fun _ hK4=>?_
 refine wp_block ?_
 refine Zs hf fun _ hK5=>?_
 refine Ze (Vd rfl X0e 0)<|Ze (X0 rfl X3 (hB2.at 0))<|Ze (X0n rfl rfl)<|Za rfl ?_
 refine Zt hK5 fun a hf=>?_
 refine Xm hf rfl (fun hc6=>?_) (fun hc6=>?_)
 ·have hc6b:=hc6
  have hfin:qubI g=[]:=by rw [qubI,if_pos (by simpa using hc6)]
  refine Zs hf fun _ hK7=>?_
  refine Za rfl ?_
  refine Zt hK7 fun a hf=>?_
  refine wp_ret ?_
  refine X05 ?_
  refine X7 ?_
  refine X2 hf (Xj hf rfl rfl) ?_
  rw [hfin]
  exact ⟨none,0,rfl,(Own.nil _ _ _ _ _),hW⟩
 have hc6b:=hc6
 have h12:¬ g.k=12:=by simpa using hc6
 refine Zs hf fun _ hK9=>?_
 refine Ze (Vd rfl X0e 0)<|Ze (X0 rfl X3 (hB2.at 0)) ?_
 refine Zf (Vc (F99 _ g.k) X9x) ?_;rintro _ _ ⟨rfl,rfl⟩
 refine Za rfl ?_
 refine Zt hK9 fun a hf=>?_
 refine Xm hf rfl (fun hc10=>?_) (fun hc10=>?_)
 ·have hc10b:=hc10
  have hfin:qubI g=[g.a,g.b]:=by rw [qubI,if_neg h12,if_pos hc10]
  refine Zs hf fun _ hK11=>?_
  refine Ze (Vd rfl X0d 1)<|Ze (X0 rfl X3 (hB2.at 1))<|Ze (Vd rfl X0r 2)<|Ze (X0 rfl X3 (hB2.at 2)) ?_
  refine Zf (Xd (k:=2) (vs:=[vi g.a,vi g.b]) (zs:=[vi g.a,vi g.b]) rfl X03 X18 rfl rfl) ?_;rintro _ w2 ⟨b12,rfl,hl12,hE,hB12⟩
  have hlo12:=Nat.le_trans hW.size hl12
  replace hB2:=hB2.below hE
  replace hW:=btr hW hE
  refine Za rfl ?_
  refine Zt hK11 fun a hf=>?_
  refine wp_ret ?_
  refine X05 ?_
  refine X7 ?_
  refine X2 hf (Xj hf rfl rfl) ?_
  rw [hfin]
  exact ⟨(some ⟨b12,0,none⟩),2,rfl,(Own.of_blkL Xp hB12 hlo12 rfl rfl (by decide)),hW⟩
 have hc10b:=hc10
 have hfin:qubI g=[g.a]:=by rw [qubI,if_neg h12,if_neg (by rw [hc10];simp)]
 refine wp_skip ?_
 refine Xr ?_
 refine hK4 _ _ ?_
 refine Zs hf fun _ hK14=>?_
 refine Ze (Vd rfl X0d 1)<|Ze (X0 rfl X3 (hB2.at 1)) ?_
 refine Zf (Xd (k:=1) (vs:=[vi g.a]) (zs:=[vi g.a]) rfl X03 X18 rfl rfl) ?_;rintro _ w3 ⟨b15,rfl,hl15,hE,hB15⟩
 have hlo15:=Nat.le_trans hW.size hl15
 replace hB2:=hB2.below hE
 replace hW:=btr hW hE
 refine Za rfl ?_
 refine Zt hK14 fun a hf=>?_
 refine wp_ret (X2 hf (Xj hf rfl rfl) ?_)
 rw [hfin]
 exact ⟨(some ⟨b15,0,none⟩),1,rfl,(Own.of_blkL Xp hB15 hlo15 rfl rfl (by decide)),hW⟩
end Go.Proofs.YtlfjcmldfbfdbaaGreat
set_option maxRecDepth 4000
namespace Go.Proofs.YtlfjcmldfbfdbaaGreat
open Go.RowKit
theorem F51(w0:World)(Al:Option Addr)(cl:Nat)(l:List Gt)(hr_l:Rd w0 w0.heap.size 24 encG Al l)(Ato:Option Addr)(cto:Nat)(to:List Int)(hr_to:Rd w0 w0.heap.size 3 encI Ato to)(L:Nat)(hq:∀ g ∈ l,(g.k≠12→0≤g.a∧g.a<(L:Int))∧(inR g.k 9 11=true→0≤g.b∧g.b<(L:Int)))(hto:to.length=L)(hln:l.length≤1000000) : Ret Tryz.prog 103 [.slice Al l.length cl,.slice Ato to.length cto] w0 (fun v w=>∃ A c,v=.slice A (mapI l to).length c∧Own w w0.heap.size 24 3 encG A c (mapI l to)∧Below w0.heap.size w0 w):=by
 refine enter Tryz.func103 rfl 39 rfl rfl ?_
 intro a hf
 have hW:Below w0.heap.size w0 w0:=Below.refl _ _
 refine Zs hf fun _ hK3=>?_
 refine Za rfl ?_
 refine Zt hK3 fun a hf=>?_
 refine Zs hf fun _ hK5=>?_
 refine Zf (Xd (k:=0) (vs:=[]) (zs:=[]) rfl X0w X1p rfl rfl) ?_;rintro _ w1 ⟨b6,rfl,hl6,hE,hB6⟩
 have hlo6:=Nat.le_trans hW.size hl6
 have haw1_6:=(hr_l.below' hW).away hl6
 replace hW:=btr hW hE
 refine Za rfl ?_
 refine Zt hK5 fun a hf=>?_
 refine wp_seq_k fun _ hK8=>?_
 refine Zs hf fun _ hK9=>?_
 refine Zm rfl<|Ze (X14 rfl X0w)<|Zm rfl ?_
 refine Zt hK9 fun a hf=>?_
 refine wp_block ?_
 refine X0c (σ:=Nat×(List Gt)) (fun (s:Nat×(List Gt)) (a:Act) (w:World)=>match s with|(k,m)=>∃ A10 c10,Fr a 39 [(1,.slice Ato to.length cto),(5,.slice A10 m.length c10),(9,.slice Al l.length cl),(10,vi (l.length:Int)),(11,vi (k:Int))]∧(k≤l.length)∧(m=(l.take k).map (mapG to))∧Own w w0.heap.size 24 3 encG A10 c10 m∧Below w0.heap.size w0 w) (fun (s:Nat×(List Gt))=>match s with|(k,m)=>l.length-k) (0,[]) ?_ ?_
 ·exact ⟨some ⟨b6,0,none⟩,0,hf.sub ⟨rfl,rfl,rfl,rfl,rfl,trivial⟩,(Nat.zero_le _),rfl,(Own.empty hB6 hlo6),hW⟩
 rintro ⟨k,m⟩ a w2 ⟨A10,c10,hf,hk,hm,ho10,hW⟩
 have hml:m.length=k:=by rw [hm,List.length_map,List.length_take,Nat.min_eq_left hk]
 refine Zs hf fun _ hK11=>?_
 refine Ze (X16 rfl rfl) ?_
 refine Zt hK11 fun a hf=>?_
 refine wp_seq_k fun _ hK12=>?_
 refine Xm hf rfl (fun hc13=>?_) (fun hc13=>?_)
 ·have hc13b:=hc13
  have hc13:=of_decide_eq_true hc13
  obtain ⟨u14,hu14⟩:=Xx (l:=l) (k:=k) (by omega)
  have hb:=hq u14 (List.mem_of_getElem? hu14)
  have hst:=Xft (f:=mapG to) hu14
  refine wp_skip ?_
  refine hK12 _ _ ?_
  refine wp_seq_k fun _ hK15=>?_
  refine wp_block ?_
  refine Zs hf fun _ hK16=>?_
  refine Zi (k:=k) (u:=u14) (enc:=encG) (l:=l) trivial rfl rfl X0w X0o X11 (hr_l.below' hW) hu14 rfl ?_;intro p18 hat17
  refine Ze (X0i (l:=[vi u14.k,vi u14.a,vi u14.b]) rfl Xo hat17 rfl) ?_
  refine Zf (X6 (zs:=[vi 0,vi 0,vi 0]) X2h rfl) ?_;rintro _ w3 ⟨b19,rfl,hl19,hE,hB19⟩
  have hlo19:=Nat.le_trans hW.size hl19
  have haw10_19:=ho10.away hl19
  have haw1_19:=(hr_l.below' hW).away hl19
  replace ho10:=ho10.below hE
  replace hW:=btr hW hE
  refine Zo (Vw [vi u14.k,vi u14.a,vi u14.b] X0o hB19) ?_;rintro _ w4 ⟨ho,hb⟩
  have hold:=hB19
  replace ho10:=ho10.onlyA ho haw10_19
  replace hW:=Below.only hW ho hlo19
  clear hold
  have hB19:=hb
  clear hb ho
  refine Zt hK16 fun a hf=>?_
  refine wp_seq_k fun _ hK20=>?_
  refine Zs hf fun _ hK21=>?_
  refine Ze (Vd rfl X0e 0)<|Ze (X0 rfl X3 (hB19.at 0))<|Ze (X4o rfl rfl) ?_
  refine Zt hK21 fun a hf=>?_
  refine Xm hf rfl (fun hc22=>?_) (fun hc22=>?_)
  ·have hc22b:=hc22
   have h12:¬ u14.k=12:=by simpa using hc22
   have ha:=hb.1 h12
   refine Zr hf ?_
   refine Zm rfl<|Ze (Vd rfl X0d 1)<|Ze (X0 rfl X3 (hB19.at 1)) ?_
   refine Zi (k:=u14.a.toNat) (u:=(to.getD u14.a.toNat 0)) (enc:=encI) (l:=to) trivial rfl rfl X03 X1a Xp (hr_to.below' hW) (X58 (by omega)) (by omega) ?_;intro p24 hat23
   refine Ze (X0 rfl X3 hat23)<|Ze (Vd rfl X0d 1) ?_
   refine Zo (Vu (vs:=[vi (to.getD u14.a.toNat 0)]) (l':=[vi u14.k,vi (to.getD u14.a.toNat 0),vi u14.b]) rfl rfl X1a hB19) ?_;rintro _ w5 ⟨ho,hb⟩
   have hold:=hB19
   replace ho10:=ho10.onlyA ho haw10_19
   replace hW:=Below.only hW ho hlo19
   clear hold
   have hB19:=hb
   clear hb ho
   refine Zt hK20 fun a hf=>?_
   refine wp_seq_k fun _ hK25=>?_
   refine Zs hf fun _ hK26=>?_
   refine Ze (Vd rfl X0e 0)<|Ze (X0 rfl X3 (hB19.at 0)) ?_
   refine Zf (Vc (F99 _ u14.k) X9x) ?_;rintro _ _ ⟨rfl,rfl⟩
   refine Zt hK26 fun a hf=>?_
   refine Xm hf rfl (fun hc27=>?_) (fun hc27=>?_)
   ·have hc27b:=hc27
    have h9:inR u14.k 9 11=true:=hc27
    have hb2:=hb.2 h9
    have hmg:mapG to u14=⟨u14.k,to.getD u14.a.toNat 0,to.getD u14.b.toNat 0⟩:=by rw [mapG,if_neg h12,if_pos h9]
    refine Zr hf ?_
    refine Zm rfl<|Ze (Vd rfl X0r 2)<|Ze (X0 rfl X3 (hB19.at 2)) ?_
    refine Zi (k:=u14.b.toNat) (u:=(to.getD u14.b.toNat 0)) (enc:=encI) (l:=to) trivial rfl rfl X03 X1a Xp (hr_to.below' hW) (X58 (by omega)) (by omega) ?_;intro p29 hat28
    refine Ze (X0 rfl X3 hat28)<|Ze (Vd rfl X0r 2) ?_
    refine Zo (Vu (vs:=[vi (to.getD u14.b.toNat 0)]) (l':=[vi u14.k,vi (to.getD u14.a.toNat 0),vi (to.getD u14.b.toNat 0)]) rfl rfl X1a hB19) ?_;rintro _ w6 ⟨ho,hb⟩
    have hold:=hB19
    replace ho10:=ho10.onlyA ho haw10_19
    replace hW:=Below.only hW ho hlo19
    clear hold
    have hB19:=hb
    clear hb ho
    refine Zt hK25 fun a hf=>?_
    refine Zr hf ?_
    refine Zm rfl<|Ze (Vn Xo hB19) ?_
    refine Zf (Xd (k:=1) (vs:=[.agg #[vi u14.k,vi (to.getD u14.a.toNat 0),vi (to.getD u14.b.toNat 0)]]) (zs:=[vi u14.k,vi (to.getD u14.a.toNat 0),vi (to.getD u14.b.toNat 0)]) rfl X0w X1p rfl rfl) ?_;rintro _ w7 ⟨b30,rfl,hl30,hE,hB30⟩
    have hne19_30:b19≠b30:=by have:=hB19.lt;omega
    have hlo30:=Nat.le_trans hW.size hl30
    have haw10_30:=ho10.away hl30
    have haw1_30:=(hr_l.below' hW).away hl30
    replace hB19:=hB19.below hE
    replace ho10:=ho10.below hE
    replace hW:=btr hW hE
    refine Zf (X1e (enc:=encG) (l:=(m)) (l2:=([(⟨u14.k,(to.getD u14.a.toNat 0),(to.getD u14.b.toNat 0)⟩ : Gt)])) (B0:=w0.heap.size) rfl rfl X0w X1p X11 X3q ho10 (Rd.of_blk hB30 rfl _ hB30.lt) (by simp only [maxLen];simp;omega) (by simp;omega) hW.size) ?_;rintro _ w8 ⟨A32,c32,rfl,ho32,hg,hat⟩
    have hown:Own _ w0.heap.size 24 3 encG _ _ (m):=ho10
    have haw32_19:=hat _ hB19.lt haw10_19
    have haw32_30:=hat _ hB30.lt haw10_30
    clear hat
    replace hB19:=hB19.appA hg haw10_19
    replace hW:=Below.app hW hown hg (Nat.le_refl _) hW.size
    clear hown hg
    refine Za rfl ?_
    refine Zn fun a hf=>?_
    refine Xr ?_
    refine hK15 _ _ ?_
    refine Zr hf ?_
    refine Ze (X0a rfl rfl (by omega) (by omega))<|Zm rfl ?_
    refine Zn fun a hf=>?_
    rw [hmg] at hst
    refine Xz ?_
    exact ⟨(k+1,m++[(⟨u14.k,(to.getD u14.a.toNat 0),(to.getD u14.b.toNat 0)⟩ : Gt)]),⟨A32,c32,hf.sub ⟨rfl,rfl,rfl,rfl,rfl,trivial⟩,(by omega),(by rw [hst,hm]),ho32,hW⟩,(by first|omega|(dsimp only;omega))⟩
   have hc27b:=hc27
   have h9:¬ inR u14.k 9 11=true:=by rw [hc27];simp
   have hmg:mapG to u14=⟨u14.k,to.getD u14.a.toNat 0,u14.b⟩:=by rw [mapG,if_neg h12,if_neg h9]
   refine wp_skip ?_
   refine hK25 _ _ ?_
   refine Zr hf ?_
   refine Zm rfl<|Ze (Vn Xo hB19) ?_
   refine Zf (Xd (k:=1) (vs:=[.agg #[vi u14.k,vi (to.getD u14.a.toNat 0),vi u14.b]]) (zs:=[vi u14.k,vi (to.getD u14.a.toNat 0),vi u14.b]) rfl X0w X1p rfl rfl) ?_;rintro _ w9 ⟨b33,rfl,hl33,hE,hB33⟩
   have hne19_33:b19≠b33:=by have:=hB19.lt;omega
   have hlo33:=Nat.le_trans hW.size hl33
   have haw10_33:=ho10.away hl33
   have haw1_33:=(hr_l.below' hW).away hl33
   replace hB19:=hB19.below hE
   replace ho10:=ho10.below hE
   replace hW:=btr hW hE
   refine Zf (X1e (enc:=encG) (l:=(m)) (l2:=([(⟨u14.k,(to.getD u14.a.toNat 0),u14.b⟩ : Gt)])) (B0:=w0.heap.size) rfl rfl X0w X1p X11 X3q ho10 (Rd.of_blk hB33 rfl _ hB33.lt) (by simp only [maxLen];simp;omega) (by simp;omega) hW.size) ?_;rintro _ w10 ⟨A35,c35,rfl,ho35,hg,hat⟩
   have hown:Own _ w0.heap.size 24 3 encG _ _ (m):=ho10
   have haw35_19:=hat _ hB19.lt haw10_19
   have haw35_33:=hat _ hB33.lt haw10_33
   clear hat
   replace hB19:=hB19.appA hg haw10_19
   replace hW:=Below.app hW hown hg (Nat.le_refl _) hW.size
   clear hown hg
   refine Za rfl ?_
   refine Zn fun a hf=>?_
   refine Xr ?_
   refine hK15 _ _ ?_
   refine Zr hf ?_
   refine Ze (X0a rfl rfl (by omega) (by omega))<|Zm rfl ?_
   refine Zn fun a hf=>?_
   rw [hmg] at hst
   refine Xz ?_
   exact ⟨(k+1,m++[(⟨u14.k,(to.getD u14.a.toNat 0),u14.b⟩ : Gt)]),⟨A35,c35,hf.sub ⟨rfl,rfl,rfl,rfl,rfl,trivial⟩,(by omega),(by rw [hst,hm]),ho35,hW⟩,(by first|omega|(dsimp only;omega))⟩
  have hc22b:=hc22
  have h12:u14.k=12:=by simpa using hc22
  refine wp_skip ?_
  refine hK20 _ _ ?_
  refine wp_seq_k fun _ hK36=>?_
  refine Zs hf fun _ hK37=>?_
  refine Ze (Vd rfl X0e 0)<|Ze (X0 rfl X3 (hB19.at 0)) ?_
  refine Zf (Vc (F99 _ u14.k) X9x) ?_;rintro _ _ ⟨rfl,rfl⟩
  refine Zt hK37 fun a hf=>?_
  refine Xm hf rfl (fun hc38=>?_) (fun hc38=>?_)
  ·have hc38b:=hc38
   exact absurd (Xh.1 hc38) (by omega)
  have hc38b:=hc38
  have h9:¬ inR u14.k 9 11=true:=by rw [hc38];simp
  have hmg:mapG to u14=u14:=by rw [mapG,if_pos h12,if_neg h9]
  refine wp_skip ?_
  refine hK36 _ _ ?_
  refine Zr hf ?_
  refine Zm rfl<|Ze (Vn Xo hB19) ?_
  refine Zf (Xd (k:=1) (vs:=[.agg #[vi u14.k,vi u14.a,vi u14.b]]) (zs:=[vi u14.k,vi u14.a,vi u14.b]) rfl X0w X1p rfl rfl) ?_;rintro _ w11 ⟨b39,rfl,hl39,hE,hB39⟩
  have hne19_39:b19≠b39:=by have:=hB19.lt;omega
  have hlo39:=Nat.le_trans hW.size hl39
  have haw10_39:=ho10.away hl39
  have haw1_39:=(hr_l.below' hW).away hl39
  replace hB19:=hB19.below hE
  replace ho10:=ho10.below hE
  replace hW:=btr hW hE
  refine Zf (X1e (enc:=encG) (l:=(m)) (l2:=([u14])) (B0:=w0.heap.size) rfl rfl X0w X1p X11 X3q ho10 (Rd.of_blk hB39 rfl _ hB39.lt) (by simp only [maxLen];simp;omega) (by simp;omega) hW.size) ?_;rintro _ w12 ⟨A41,c41,rfl,ho41,hg,hat⟩
  have hown:Own _ w0.heap.size 24 3 encG _ _ (m):=ho10
  have haw41_19:=hat _ hB19.lt haw10_19
  have haw41_39:=hat _ hB39.lt haw10_39
  clear hat
  replace hB19:=hB19.appA hg haw10_19
  replace hW:=Below.app hW hown hg (Nat.le_refl _) hW.size
  clear hown hg
  refine Za rfl ?_
  refine Zn fun a hf=>?_
  refine Xr ?_
  refine hK15 _ _ ?_
  refine Zr hf ?_
  refine Ze (X0a rfl rfl (by omega) (by omega))<|Zm rfl ?_
  refine Zn fun a hf=>?_
  rw [hmg] at hst
  refine Xz ?_
  exact ⟨(k+1,m++[u14]),⟨A41,c41,hf.sub ⟨rfl,rfl,rfl,rfl,rfl,trivial⟩,(by omega),(by rw [hst,hm]),ho41,hW⟩,(by first|omega|(dsimp only;omega))⟩
 have hc13b:=hc13
 have hc13:=of_decide_eq_false hc13
 refine wp_exit ?_
 refine Xu ?_
 refine Xu ?_
 refine X0f ?_
 refine hK8 _ _ ?_
 refine Zs hf fun _ hK42=>?_
 refine Zm rfl<|Za rfl ?_
 refine Zt hK42 fun a hf=>?_
 refine wp_ret (X2 hf (Xj hf rfl rfl) ?_)
 have hfin:mapI l to=m:=by rw [hm,List.take_of_length_le (by omega)];rfl
 rw [hfin]
 exact ⟨A10,c10,rfl,ho10,hW⟩
end Go.Proofs.YtlfjcmldfbfdbaaGreat
set_option maxRecDepth 4000
namespace Go.Proofs.YtlfjcmldfbfdbaaGreat
open Go.RowKit
theorem Xpv(w0:World)(c:Cx)(Ac:Option Addr)(cc:Nat)(hr_c:Rd w0 w0.heap.size 24 encG Ac c.gs)(m:Mx)(Am:Option Addr)(cm:Nat)(hr_m:Rd w0 w0.heap.size 98 encD Am m.cells)(hc:cOk c=true)(hm:mOk m=true)(hr:m.rows=((2^c.n.toNat:Nat) : Int)) : Ret Tryz.prog 168 [.agg #[vi c.n,.slice Ac c.gs.length cc],.agg #[vi m.rows,vi m.cols,.slice Am m.cells.length cm],.bool true] w0 (fun v w=>∃ A c1,v=.tuple #[mV A c1 ((applI c.n c.gs m).getD mZ),.bool (applI c.n c.gs m).isSome]∧Rd w w.heap.size 98 encD A ((applI c.n c.gs m).getD mZ).cells∧Below w0.heap.size w0 w):=by
 obtain ⟨hn,hlen,hgs⟩:=X1j hc
 refine enter Tryz.func168 rfl 40 rfl rfl ?_
 intro a hf
 have hW:Below w0.heap.size w0 w0:=Below.refl _ _
 refine Zs hf fun _ hK3=>?_
 refine Zf (X0j (zs:=[vi c.n,.slice Ac c.gs.length cc]) rfl rfl) ?_;rintro _ w1 ⟨b4,rfl,hl4,hE,hB4⟩
 have hlo4:=Nat.le_trans hW.size hl4
 replace hW:=btr hW hE
 refine Zf (X0j (zs:=[vi m.rows,vi m.cols,.slice Am m.cells.length cm]) rfl rfl) ?_;rintro _ w2 ⟨b5,rfl,hl5,hE,hB5⟩
 have hlo5:=Nat.le_trans hW.size hl5
 replace hB4:=hB4.below hE
 replace hW:=btr hW hE
 refine Zf (X6 (zs:=[vi 0,vi 0,.slice none 0 0]) X0p rfl) ?_;rintro _ w3 ⟨b7,rfl,hl7,hE,hB7⟩
 have hne5_7:b5≠b7:=by have:=hB5.lt;omega
 have hlo7:=Nat.le_trans hW.size hl7
 replace hB4:=hB4.below hE
 replace hB5:=hB5.below hE
 replace hW:=btr hW hE
 refine Za rfl ?_
 refine Zt hK3 fun a hf=>?_
 refine wp_seq_k fun _ hK8=>?_
 refine Zs hf fun _ hK9=>?_
 refine Za rfl ?_
 refine Zt hK9 fun a hf=>?_
 refine wp_block ?_
 refine X0c (σ:=Nat×Mx×Bool) (fun (s:Nat×Mx×Bool) (a:Act) (w:World)=>match s with|(i,x,b)=>∃ A10 c10,Fr a 40 [(2,.bool b),(3,.pointer (some ⟨b4,0,none⟩)),(4,.pointer (some ⟨b5,0,none⟩)),(6,.pointer (some ⟨b7,0,none⟩)),(8,vi (i:Int))]∧((if b=true then applI c.n (c.gs.drop i) x else none)=(applI c.n c.gs m))∧(b=false→x=mZ)∧(b=true→mOk x=true∧x.rows=((2^c.n.toNat:Nat) : Int))∧(i≤c.gs.length)∧Blk w b4 31 [vi c.n,.slice Ac c.gs.length cc]∧Blk w b5 38 [vi x.rows,vi x.cols,.slice A10 x.cells.length c10]∧Blk w b7 38 [vi 0,vi 0,.slice none 0 0]∧Rd w w.heap.size 98 encD A10 x.cells∧Below w0.heap.size w0 w) (fun (s:Nat×Mx×Bool)=>match s with|(i,x,b)=>c.gs.length-i) (0,m,true) ?_ ?_
 ·exact ⟨Am,cm,hf.sub ⟨rfl,rfl,rfl,rfl,rfl,trivial⟩,rfl,(by simp),(fun _=>⟨hm,hr⟩),(Nat.zero_le _),hB4,hB5,hB7,(hr_m.below' hW).top,hW⟩
 rintro ⟨i,x,b⟩ a w4 ⟨A10,c10,hf,hinv,hz,hok,hi,hB4,hB5,hB7,hr10,hW⟩
 refine wp_seq_k fun _ hK11=>?_
 refine wp_seq_k fun _ hK12=>?_
 refine X0g (fun a w=>Fr a 40 [(2,.bool b),(3,.pointer (some ⟨b4,0,none⟩)),(4,.pointer (some ⟨b5,0,none⟩)),(6,.pointer (some ⟨b7,0,none⟩)),(8,vi (i:Int)),(18,.bool ((decide ((i:Int)<(c.gs.length:Int)))&&b))]∧w4=w) ?_ ?_
 ·refine Zr hf ?_
  refine Zm rfl<|Ze (Vd rfl X1f 1)<|Ze (X0 rfl X2t (hB4.at 1))<|Ze (X14 rfl X0w)<|Ze (X16 rfl rfl) ?_
  refine Zm rfl ?_
  refine Zg 16 rfl (fun hg13=>?_) (fun hg13=>?_)
  ·refine Zv ⟨_,_,rfl,rfl,hg13⟩ (X8 rfl) ?_
   refine Ze (Xg rfl hg13 rfl) ?_
   refine Zn fun a hf=>?_
   exact ⟨hf.sub ⟨rfl,rfl,rfl,rfl,rfl,X1 rfl (by first|rfl|(simp only [hg13,bs];done)|simp [hg13]),trivial⟩,rfl⟩
  refine Zp ⟨_,_,rfl,rfl,hg13⟩ ?_
  refine Ze (Xf rfl hg13 rfl) ?_
  refine Zn fun a hf=>?_
  exact ⟨hf.sub ⟨rfl,rfl,rfl,rfl,rfl,X1 rfl (by first|rfl|(simp only [hg13,bs];done)|simp [hg13]),trivial⟩,rfl⟩
 rintro a _ ⟨hf,rfl⟩
 refine hK12 _ _ ?_
 refine Xm hf rfl (fun hc14=>?_) (fun hc14=>?_)
 ·have hc14b:=hc14
  have hlt:(i:Int)<c.gs.length∧b=true:=by simpa using hc14
  have hb1:=hlt.2
  obtain ⟨u,hu⟩:=Xx (l:=c.gs) (k:=i) (by omega)
  have hgu:=hgs u (List.mem_of_getElem? hu)
  obtain ⟨hg1,hg2⟩:=X0x hgu
  have hma:=X29 hg2 (hok hb1).1 (by rw [(hok hb1).2];rfl)
  have hdr:=X9r hu
  refine wp_skip ?_
  refine hK11 _ _ ?_
  refine wp_seq_k fun _ hK15=>?_
  refine wp_block ?_
  refine wp_seq_k fun _ hK16=>?_
  refine X0g (fun a w=>∃ b21 A19 c19,Fr a 40 [(3,.pointer (some ⟨b4,0,none⟩)),(4,.pointer (some ⟨b5,0,none⟩)),(6,.pointer (some ⟨b7,0,none⟩)),(8,vi (i:Int)),(9,.pointer (some ⟨b21,0,none⟩))]∧w0.heap.size≤b21∧Blk w b21 38 [vi (((gateI c.n u).getD mZ).rows),vi (((gateI c.n u).getD mZ).cols),.slice A19 (((gateI c.n u).getD mZ).cells).length c19]∧b5≠b21∧b7≠b21∧Own w w0.heap.size 98 5 encD A19 c19 (((gateI c.n u).getD mZ).cells)∧Below w4.heap.size w4 w) ?_ ?_
  ·have hEc:Below w4.heap.size w4 w4:=Below.refl _ _
   refine X0h none (fun j=>[12].contains j) mixed ?_
   intro w5 hE
   replace hB4:=hB4.below hE
   replace hB5:=hB5.below hE
   replace hB7:=hB7.below hE
   replace hr10:=hr10.below hE
   replace hW:=btr hW hE
   replace hEc:=btr hEc hE
   refine Yb hf ?_
   refine Yo 0 rfl (fun _=>Vd rfl X35 0)<|Ye 1 rfl (X0 rfl X3 (hB4.at 0))<|Yo 2 rfl (fun _=>Vd rfl X1f 1)<|Ye 3 rfl (X0 rfl X2t (hB4.at 1))<|Yo 4 rfl (fun _=>X8 rfl) ?_
   refine Yi (k:=i) (u:=u) (enc:=encG) (l:=c.gs) 5 rfl trivial rfl rfl X0w X0o X11 (hr_c.below' hW) hu rfl ?_;intro p18 hat17
   refine Ye 6 rfl (X0i (l:=[vi u.k,vi u.a,vi u.b]) rfl Xo hat17 rfl) ?_
   have hJc:Below w5.heap.size w5 w5:=Below.refl _ _
   refine Yc [0,1,2,3,4,5,6,7,8,9,10,11] 2 (fun a w=>∃ b21 A19 c19,Fr a 40 [(3,.pointer (some ⟨b4,0,none⟩)),(4,.pointer (some ⟨b5,0,none⟩)),(6,.pointer (some ⟨b7,0,none⟩)),(8,vi (i:Int)),(9,.pointer (some ⟨b21,0,none⟩)),(30,.agg #[vi (((gateI c.n u).getD mZ).rows),vi (((gateI c.n u).getD mZ).cols),.slice A19 (((gateI c.n u).getD mZ).cells).length c19]),(31,.bool ((gateI c.n u).isSome))]∧w0.heap.size≤b21∧Blk w b21 38 [vi 0,vi 0,.slice none 0 0]∧b5≠b21∧b7≠b21∧w5.heap.size≤b21∧w4.heap.size≤b21∧Own w w0.heap.size 98 5 encD A19 c19 (((gateI c.n u).getD mZ).cells)∧Below w5.heap.size w5 w) ?_ ?_
   ·rintro a w6 ⟨b21,A19,c19,hf,hlo21,hB21,hne5_21,hne7_21,hlj21,hlc21,ho19,hE⟩
    clear hJc
    have hJc:=hE
    replace hB4:=hB4.below hE
    replace hB5:=hB5.below hE
    replace hB7:=hB7.below hE
    replace hr10:=hr10.below hE
    replace hW:=btr hW hE
    replace hEc:=btr hEc hE
    refine Yb hf ?_
    refine Y1 12 ?_
    refine Yh rfl trivial rfl (Vw [vi (((gateI c.n u).getD mZ).rows),vi (((gateI c.n u).getD mZ).cols),.slice A19 (((gateI c.n u).getD mZ).cells).length c19] X0u hB21) ?_;rintro _ w7 ⟨ho,hb⟩
    have hold:=hB21
    replace hB4:=hB4.only ho (Blk.ne hB4 hold rfl)
    replace hB5:=hB5.only ho (by omega)
    replace hB7:=hB7.only ho (by omega)
    replace hr10:=hr10.onlyT ho hold rfl
    replace ho19:=ho19.onlyT ho hold rfl
    replace hEc:=Below.only hEc ho hlc21
    replace hJc:=Below.only hJc ho hlj21
    replace hW:=Below.only hW ho hlo21
    clear hold
    have hB21:=hb
    clear hb ho
    refine Yo 13 rfl (fun _=>X1m rfl) ?_
    refine Yd fun a hf=>?_
    have hEE:Below w4.heap.size w4 w7:=hEc
    exact ⟨b21,A19,c19,hf.sub ⟨rfl,rfl,rfl,rfl,rfl,trivial⟩,hlo21,hB21,hne5_21,hne7_21,ho19,hEE⟩
   intro hJ19
   refine Y2 7 11 ?_ ?_
   ·refine Yk rfl trivial (Vc (Xdt _ c.n u) X5h) (fun _ _ ⟨A21,c21,_,ho21,hE⟩=>hE) ?_;rintro _ w8 ⟨A21,c21,rfl,ho21,hE⟩
    replace ho21:=ho21.lower hW.size
    replace hB4:=hB4.below hE
    replace hB5:=hB5.below hE
    replace hB7:=hB7.below hE
    replace hr10:=hr10.below hE
    replace hW:=btr hW hE
    replace hEc:=btr hEc hE
    replace hJc:=btr hJc hE
    refine Yo 8 rfl (fun _=>X8 rfl)<|Yo 9 rfl (fun _=>X5 (vs:=[.agg #[vi (((gateI c.n u).getD mZ).rows),vi (((gateI c.n u).getD mZ).cols),.slice A21 (((gateI c.n u).getD mZ).cells).length c21],.bool ((gateI c.n u).isSome)]) rfl rfl)<|Yo 10 rfl (fun _=>X5 (vs:=[.agg #[vi (((gateI c.n u).getD mZ).rows),vi (((gateI c.n u).getD mZ).cols),.slice A21 (((gateI c.n u).getD mZ).cells).length c21],.bool ((gateI c.n u).isSome)]) rfl rfl) ?_
    refine Y1 11 ?_
    refine Yk rfl trivial (X6 (zs:=[vi 0,vi 0,.slice none 0 0]) X0p rfl) (fun _ _ ⟨_,_,_,h,_⟩=>h) ?_;rintro _ w9 ⟨b23,rfl,hl23,hE,hB23⟩
    have hne5_23:b5≠b23:=by have:=hB5.lt;omega
    have hne7_23:b7≠b23:=by have:=hB7.lt;omega
    have hlo23:=Nat.le_trans hW.size hl23
    have hlc23:=Nat.le_trans hEc.size hl23
    have hlj23:=Nat.le_trans hJc.size hl23
    replace hB4:=hB4.below hE
    replace hB5:=hB5.below hE
    replace hB7:=hB7.below hE
    replace hr10:=hr10.below hE
    replace ho21:=ho21.below hE
    replace hW:=btr hW hE
    replace hEc:=btr hEc hE
    replace hJc:=btr hJc hE
    exact fun a hf=>hJ19 _ a _ rfl ⟨b23,A21,c21,hf.sub ⟨rfl,rfl,rfl,rfl,rfl,rfl,rfl,trivial⟩,hlo23,hB23,hne5_23,hne7_23,hlj23,hlc23,ho21,hJc⟩
   refine Yk rfl trivial (X6 (zs:=[vi 0,vi 0,.slice none 0 0]) X0p rfl) (fun _ _ ⟨_,_,_,h,_⟩=>h) ?_;rintro _ w10 ⟨b25,rfl,hl25,hE,hB25⟩
   have hne5_25:b5≠b25:=by have:=hB5.lt;omega
   have hne7_25:b7≠b25:=by have:=hB7.lt;omega
   have hlo25:=Nat.le_trans hW.size hl25
   have hlc25:=Nat.le_trans hEc.size hl25
   have hlj25:=Nat.le_trans hJc.size hl25
   replace hB4:=hB4.below hE
   replace hB5:=hB5.below hE
   replace hB7:=hB7.below hE
   replace hr10:=hr10.below hE
   replace hW:=btr hW hE
   replace hEc:=btr hEc hE
   replace hJc:=btr hJc hE
   refine Y1 7 ?_
   refine Yk rfl trivial (Vc (Xdt _ c.n u) X5h) (fun _ _ ⟨A26,c26,_,ho26,hE⟩=>hE) ?_;rintro _ w11 ⟨A26,c26,rfl,ho26,hE⟩
   replace ho26:=ho26.lower hW.size
   replace hB4:=hB4.below hE
   replace hB5:=hB5.below hE
   replace hB7:=hB7.below hE
   replace hB25:=hB25.below hE
   replace hr10:=hr10.below hE
   replace hW:=btr hW hE
   replace hEc:=btr hEc hE
   replace hJc:=btr hJc hE
   refine Yo 8 rfl (fun _=>X8 rfl)<|Yo 9 rfl (fun _=>X5 (vs:=[.agg #[vi (((gateI c.n u).getD mZ).rows),vi (((gateI c.n u).getD mZ).cols),.slice A26 (((gateI c.n u).getD mZ).cells).length c26],.bool ((gateI c.n u).isSome)]) rfl rfl)<|Yo 10 rfl (fun _=>X5 (vs:=[.agg #[vi (((gateI c.n u).getD mZ).rows),vi (((gateI c.n u).getD mZ).cols),.slice A26 (((gateI c.n u).getD mZ).cells).length c26],.bool ((gateI c.n u).isSome)]) rfl rfl) ?_
   exact fun a hf=>hJ19 _ a _ rfl ⟨b25,A26,c26,hf.sub ⟨rfl,rfl,rfl,rfl,rfl,rfl,rfl,trivial⟩,hlo25,hB25,hne5_25,hne7_25,hlj25,hlc25,ho26,hJc⟩
  rintro a w12 ⟨b21,A19,c19,hf,hlo21,hB21,hne5_21,hne7_21,ho19,hE⟩
  replace hB4:=hB4.below hE
  replace hB5:=hB5.below hE
  replace hB7:=hB7.below hE
  replace hr10:=hr10.below hE
  replace hW:=btr hW hE
  refine hK16 _ _ ?_
  refine Zr hf ?_
  refine Ze (Vn X0k hB21)<|Ze (Vn X0k hB5) ?_
  refine Zf (Vc (Xgw _ ((gateI c.n u).getD mZ) A19 c19 ho19.rd.top x A10 c10 hr10.top (by rw [hg1,Option.getD_some];exact Xeu hn) (X6v (hok hb1).1)) X7b) ?_;rintro _ w13 ⟨A27,c27,rfl,ho27,hE⟩
  replace ho27:=ho27.lower hW.size
  replace hB4:=hB4.below hE
  replace hB5:=hB5.below hE
  replace hB7:=hB7.below hE
  replace hB21:=hB21.below hE
  replace hr10:=hr10.below hE
  replace ho19:=ho19.below hE
  replace hW:=btr hW hE
  refine Zm rfl<|Ze (X5 (vs:=[.agg #[vi (((mulI ((gateI c.n u).getD mZ) x).getD mZ).rows),vi (((mulI ((gateI c.n u).getD mZ) x).getD mZ).cols),.slice A27 (((mulI ((gateI c.n u).getD mZ) x).getD mZ).cells).length c27],.bool ((mulI ((gateI c.n u).getD mZ) x).isSome)]) rfl rfl)<|Ze (X5 (vs:=[.agg #[vi (((mulI ((gateI c.n u).getD mZ) x).getD mZ).rows),vi (((mulI ((gateI c.n u).getD mZ) x).getD mZ).cols),.slice A27 (((mulI ((gateI c.n u).getD mZ) x).getD mZ).cells).length c27],.bool ((mulI ((gateI c.n u).getD mZ) x).isSome)]) rfl rfl) ?_
  refine Zo (Vw [vi (((mulI ((gateI c.n u).getD mZ) x).getD mZ).rows),vi (((mulI ((gateI c.n u).getD mZ) x).getD mZ).cols),.slice A27 (((mulI ((gateI c.n u).getD mZ) x).getD mZ).cells).length c27] X0u hB5) ?_;rintro _ w14 ⟨ho,hb⟩
  have hold:=hB5
  replace hB4:=hB4.only ho (Blk.ne hB4 hold rfl)
  replace hB7:=hB7.only ho (by omega)
  replace hB21:=hB21.only ho (by omega)
  replace hr10:=hr10.onlyT ho hold rfl
  replace ho19:=ho19.onlyT ho hold rfl
  replace ho27:=ho27.onlyT ho hold rfl
  replace hW:=Below.only hW ho hlo5
  clear hold
  have hB5:=hb
  clear hb ho
  refine Za rfl ?_
  refine Zn fun a hf=>?_
  refine Xr ?_
  refine hK15 _ _ ?_
  refine Zr hf ?_
  refine Zm rfl<|Ze (X0a rfl rfl (by omega) (by omega))<|Za rfl ?_
  refine Zn fun a hf=>?_
  refine Xz ?_
  exact ⟨(i+1,((mulI ((gateI c.n u).getD mZ) x).getD mZ),(mulI ((gateI c.n u).getD mZ) x).isSome),⟨A27,c27,hf.sub ⟨rfl,rfl,rfl,rfl,rfl,trivial⟩,(by rw [← hinv,if_pos hb1,hdr,applI];cases mulI ((gateI c.n u).getD mZ) x<;>rfl),(by cases mulI ((gateI c.n u).getD mZ) x<;>simp),(by rw [hg1,Option.getD_some];intro h0;cases h1:mulI (gateS c.n u) x with|none=>rw [h1] at h0;cases h0|some x1=>exact ⟨(hma.1 x1 h1).2.1,by rw [Option.getD_some,(hma.1 x1 h1).2.2.1];rfl⟩),(by omega),hB4,hB5,hB7,ho27.rd,hW⟩,(by first|omega|(dsimp only;omega))⟩
 have hc14b:=hc14
 have hend:b=true→¬ (i:Int)<c.gs.length:=by intro h0;subst h0;simpa using hc14
 refine wp_exit ?_
 refine Xu ?_
 refine Xu ?_
 refine X0f ?_
 refine hK8 _ _ ?_
 refine Zs hf fun _ hK28=>?_
 refine Ze (Vn X0k hB5)<|Zm rfl ?_
 refine Zo (Vw [vi x.rows,vi x.cols,.slice A10 x.cells.length c10] X0u hB7) ?_;rintro _ w15 ⟨ho,hb⟩
 have hold:=hB7
 replace hB4:=hB4.only ho (Blk.ne hB4 hold rfl)
 replace hB5:=hB5.only ho (by omega)
 replace hr10:=hr10.onlyT ho hold rfl
 replace hW:=Below.only hW ho hlo7
 clear hold
 have hB7:=hb
 clear hb ho
 refine Za rfl ?_
 refine Zt hK28 fun a hf=>?_
 refine wp_ret (X2 hf (X12 hf rfl (ResV.cellN (l:=[vi x.rows,vi x.cols,.slice A10 x.cells.length c10]) rfl X0k (hB7.at 0) rfl) rfl) ?_)
 have hfin:applI c.n c.gs m=if b=true then some x else none:=by rw [← hinv];cases b with|false=>rfl|true=>rw [if_pos rfl,if_pos rfl,List.drop_of_length_le (by have:=hend rfl;omega)];rfl
 have h1:(applI c.n c.gs m).getD mZ=x:=by rw [hfin];cases b with|false=>exact (hz rfl).symm|true=>rfl
 have h2:(applI c.n c.gs m).isSome=b:=by rw [hfin];cases b<;>rfl
 rw [h1,h2]
 exact ⟨A10,c10,rfl,hr10.top,hW⟩
end Go.Proofs.YtlfjcmldfbfdbaaGreat
set_option maxRecDepth 4000
namespace Go.Proofs.YtlfjcmldfbfdbaaGreat
open Go.RowKit
theorem Xnh(w0:World)(d:Nat)(h:isDimB (d:Int)=true) : Ret Tryz.prog 167 [vi (d:Int)] w0 (fun v w=>∃ A c,v=.tuple #[mV A c (unitS d),.bool true]∧Own w w0.heap.size 98 5 encD A c (unitS d).cells∧Below w0.heap.size w0 w):=by
 have h1:=Xpo w0 (d:Int)
 rw [(X2z h).1] at h1
 exact h1
theorem F97(w0:World)(c:Cx)(Ac:Option Addr)(cc:Nat)(hr_c:Rd w0 w0.heap.size 24 encG Ac c.gs)(hlc:c.gs.length≤2305843009213693951) : Ret Tryz.prog 114 [.agg #[vi c.n,.slice Ac c.gs.length cc]] w0 (fun v w=>∃ A c1,v=.tuple #[mV A c1 ((opI c).getD mZ),.bool (opI c).isSome]∧Rd w w.heap.size 98 encD A ((opI c).getD mZ).cells∧Below w0.heap.size w0 w):=by
 refine enter Tryz.func114 rfl 23 rfl rfl ?_
 intro a hf
 have hW:Below w0.heap.size w0 w0:=Below.refl _ _
 refine Zs hf fun _ hK2=>?_
 refine Zf (X0j (zs:=[vi c.n,.slice Ac c.gs.length cc]) rfl rfl) ?_;rintro _ w1 ⟨b3,rfl,hl3,hE,hB3⟩
 have hlo3:=Nat.le_trans hW.size hl3
 replace hW:=btr hW hE
 refine Zf (X6 (zs:=[vi 0,vi 0,.slice none 0 0]) X0p rfl) ?_;rintro _ w2 ⟨b5,rfl,hl5,hE,hB5⟩
 have hlo5:=Nat.le_trans hW.size hl5
 replace hB3:=hB3.below hE
 replace hW:=btr hW hE
 refine Za rfl ?_
 refine Zt hK2 fun a hf=>?_
 refine wp_seq_k fun _ hK6=>?_
 refine Zs hf fun _ hK7=>?_
 refine Ze (Vn X1k hB3) ?_
 refine Zf (Vc (F55 _ c Ac cc (hr_c.below' hW).top hlc) Xcv) ?_;rintro _ w3 ⟨rfl,hE⟩
 replace hB3:=hB3.below hE
 replace hB5:=hB5.below hE
 replace hW:=btr hW hE
 refine Ze (X15 rfl) ?_
 refine Zt hK7 fun a hf=>?_
 refine Xm hf rfl (fun hc8=>?_) (fun hc8=>?_)
 ·have hc8b:=hc8
  have hn:¬ cOk c=true:=by revert hc8;cases cOk c<;>simp
  refine Zs hf fun _ hK9=>?_
  refine Ze (Xt (ps:=[]) (cs:=[vi 0,vi 0,.slice none 0 0]) rfl (fun _=>by first|rfl|kernel_rfl)) ?_
  refine Zo (Vw [vi 0,vi 0,.slice none 0 0] X0u hB5) ?_;rintro _ w4 ⟨ho,hb⟩
  have hold:=hB5
  replace hB3:=hB3.only ho (Blk.ne hB3 hold rfl)
  replace hW:=Below.only hW ho hlo5
  clear hold
  have hB5:=hb
  clear hb ho
  refine Za rfl ?_
  refine Zt hK9 fun a hf=>?_
  refine wp_ret ?_
  refine X7 ?_
  refine X2 hf (X12 hf rfl (ResV.cellN (l:=[vi 0,vi 0,.slice none 0 0]) rfl X0k (hB5.at 0) rfl) rfl) ?_
  have hfin:opI c=none:=by rw [opI,if_neg hn]
  rw [hfin]
  exact ⟨none,0,rfl,(Rd.nil _ 0 _ _ _).top,hW⟩
 have hc8b:=hc8
 have hc:cOk c=true:=by revert hc8;cases cOk c<;>simp
 obtain ⟨hn,hlen,hgs⟩:=X1j hc
 obtain ⟨d,hd⟩ : ∃ d:Nat,d=2^c.n.toNat:=⟨_,rfl⟩
 refine wp_skip ?_
 refine hK6 _ _ ?_
 refine Zs hf fun _ hK11=>?_
 refine Ze (Vd rfl X35 0)<|Ze (X0 rfl X3 (hB3.at 0))<|Ze (Xbx (m:=c.n.toNat) (D:=d) rfl rfl (by omega) ⟨hd,by omega⟩) ?_
 refine Zf (Vc (Xnh _ d (by rw [hd];exact X26 hn)) Xko) ?_;rintro _ w5 ⟨A12,c12,rfl,ho12,hE⟩
 replace ho12:=ho12.lower hW.size
 replace hB3:=hB3.below hE
 replace hB5:=hB5.below hE
 replace hW:=btr hW hE
 refine Zm rfl<|Ze (X5 (vs:=[.agg #[vi ((unitS d).rows),vi ((unitS d).cols),.slice A12 ((unitS d).cells).length c12],.bool true]) rfl rfl)<|Ze (X5 (vs:=[.agg #[vi ((unitS d).rows),vi ((unitS d).cols),.slice A12 ((unitS d).cells).length c12],.bool true]) rfl rfl) ?_
 refine Zf (X6 (zs:=[vi 0,vi 0,.slice none 0 0]) X0p rfl) ?_;rintro _ w6 ⟨b14,rfl,hl14,hE,hB14⟩
 have hne5_14:b5≠b14:=by have:=hB5.lt;omega
 have hlo14:=Nat.le_trans hW.size hl14
 replace hB3:=hB3.below hE
 replace hB5:=hB5.below hE
 replace ho12:=ho12.below hE
 replace hW:=btr hW hE
 refine Zo (Vw [vi ((unitS d).rows),vi ((unitS d).cols),.slice A12 ((unitS d).cells).length c12] X0u hB14) ?_;rintro _ w7 ⟨ho,hb⟩
 have hold:=hB14
 replace hB3:=hB3.only ho (Blk.ne hB3 hold rfl)
 replace hB5:=hB5.only ho (by omega)
 replace ho12:=ho12.onlyT ho hold rfl
 replace hW:=Below.only hW ho hlo14
 clear hold
 have hB14:=hb
 clear hb ho
 refine Za rfl ?_
 refine Zt hK11 fun a hf=>?_
 refine Zs hf fun _ hK15=>?_
 refine Ze (Vn X1k hB3)<|Ze (Vn X0k hB14)<|Zm rfl ?_
 refine Zf (Vc (Xpv _ c Ac cc (hr_c.below' hW).top (unitS d) A12 c12 ho12.rd.top hc (X2z (by rw [hd];exact X26 hn)).2 (by rw [← hd];rfl)) Xme) ?_;rintro _ w8 ⟨A16,c16,rfl,hr16,hE⟩
 replace hB3:=hB3.below hE
 replace hB5:=hB5.below hE
 replace hB14:=hB14.below hE
 replace ho12:=ho12.below hE
 replace hW:=btr hW hE
 refine Ze (X5 (vs:=[.agg #[vi (((applI c.n c.gs (unitS d)).getD mZ).rows),vi (((applI c.n c.gs (unitS d)).getD mZ).cols),.slice A16 (((applI c.n c.gs (unitS d)).getD mZ).cells).length c16],.bool ((applI c.n c.gs (unitS d)).isSome)]) rfl rfl)<|Ze (X5 (vs:=[.agg #[vi (((applI c.n c.gs (unitS d)).getD mZ).rows),vi (((applI c.n c.gs (unitS d)).getD mZ).cols),.slice A16 (((applI c.n c.gs (unitS d)).getD mZ).cells).length c16],.bool ((applI c.n c.gs (unitS d)).isSome)]) rfl rfl) ?_
 refine Zo (Vw [vi (((applI c.n c.gs (unitS d)).getD mZ).rows),vi (((applI c.n c.gs (unitS d)).getD mZ).cols),.slice A16 (((applI c.n c.gs (unitS d)).getD mZ).cells).length c16] X0u hB5) ?_;rintro _ w9 ⟨ho,hb⟩
 have hold:=hB5
 replace hB3:=hB3.only ho (Blk.ne hB3 hold rfl)
 replace hB14:=hB14.only ho (by omega)
 replace ho12:=ho12.onlyT ho hold rfl
 replace hr16:=hr16.onlyT ho hold rfl
 replace hW:=Below.only hW ho hlo5
 clear hold
 have hB5:=hb
 clear hb ho
 refine Za rfl ?_
 refine Zt hK15 fun a hf=>?_
 refine wp_ret (X2 hf (X12 hf rfl (ResV.cellN (l:=[vi (((applI c.n c.gs (unitS d)).getD mZ).rows),vi (((applI c.n c.gs (unitS d)).getD mZ).cols),.slice A16 (((applI c.n c.gs (unitS d)).getD mZ).cells).length c16]) rfl X0k (hB5.at 0) rfl) rfl) ?_)
 have hfin:opI c=applI c.n c.gs (unitS d):=by rw [opI,if_pos hc,← hd,(X2z (by rw [hd];exact X26 hn)).1];rfl
 rw [hfin]
 exact ⟨A16,c16,rfl,hr16.top,hW⟩
end Go.Proofs.YtlfjcmldfbfdbaaGreat
set_option maxRecDepth 4000
namespace Go.Proofs.YtlfjcmldfbfdbaaGreat
open Go.RowKit
theorem Xng(w0:World)(bV:Nat)(f:Bool)(hBV:Blk w0 bV 142 [.bool f])(p:Mx)(Ap:Option Addr)(cp:Nat)(hr_p:Rd w0 w0.heap.size 98 encD Ap p.cells)(q:Mx)(Aq:Option Addr)(cq:Nat)(hr_q:Rd w0 w0.heap.size 98 encD Aq q.cells)(hp:mOk p=true)(hq:mOk q=true)(hpq:p.cols=q.rows) : Ret Tryz.prog 127 [.pointer (some ⟨bV,0,none⟩),.agg #[vi p.rows,vi p.cols,.slice Ap p.cells.length cp],.agg #[vi q.rows,vi q.cols,.slice Aq q.cells.length cq]] w0 (fun v w=>∃ A c1,v=mV A c1 ((timesS f p q).2)∧Own w w0.heap.size 98 5 encD A c1 ((timesS f p q).2).cells∧Kept bV w0.heap.size w0 w∧Blk w bV 142 [.bool ((timesS f p q).1)]):=by
 have hltV:=hBV.lt
 have hpl:=X2k hp
 have hql:=X2k hq
 have hpa:=X2j hp
 have hqa:=X2j hq
 have hlp:p.cells.length≤1024:=by rw [hpl.2.2];exact X2u (by omega) (by omega)
 have hlq:q.cells.length≤1024:=by rw [hql.2.2];exact X2u (by omega) (by omega)
 have ec1:p.cols=(p.cols.toNat:Int):=by omega
 have ec2:q.cols=(q.cols.toNat:Int):=by omega
 suffices hgoal:Ret Tryz.prog 127 [.pointer (some ⟨bV,0,none⟩),.agg #[vi p.rows,vi (p.cols.toNat:Int),.slice Ap p.cells.length cp],.agg #[vi q.rows,vi (q.cols.toNat:Int),.slice Aq q.cells.length cq]] w0 (fun v w=>∃ A c1,v=.agg #[vi p.rows,vi (q.cols.toNat:Int),.slice A (timesS f p q).2.cells.length c1]∧Own w w0.heap.size 98 5 encD A c1 (timesS f p q).2.cells∧Kept bV w0.heap.size w0 w∧Blk w bV 142 [.bool (timesS f p q).1]) by rw [← ec1,← ec2] at hgoal;exact hgoal
 refine enter Tryz.func127 rfl 75 rfl rfl ?_
 intro a hf
 have hW:Kept bV w0.heap.size w0 w0:=Kept.refl _ _ _
 refine Zs hf fun _ hK3=>?_
 refine Zf (X0j (zs:=[vi p.rows,vi (p.cols.toNat:Int),.slice Ap p.cells.length cp]) rfl rfl) ?_;rintro _ w1 ⟨b4,rfl,hl4,hE,hB4⟩
 have hlo4:=Nat.le_trans hW.size hl4
 replace hBV:=hBV.below hE
 replace hr_p:=hr_p.below hE
 replace hr_q:=hr_q.below hE
 replace hW:=ktr hW hE
 refine Zf (X0j (zs:=[vi q.rows,vi (q.cols.toNat:Int),.slice Aq q.cells.length cq]) rfl rfl) ?_;rintro _ w2 ⟨b5,rfl,hl5,hE,hB5⟩
 have hne4_5:b4≠b5:=by have:=hB4.lt;omega
 have hlo5:=Nat.le_trans hW.size hl5
 replace hBV:=hBV.below hE
 replace hB4:=hB4.below hE
 replace hr_p:=hr_p.below hE
 replace hr_q:=hr_q.below hE
 replace hW:=ktr hW hE
 refine Zf (X6 (zs:=[vi 0,vi 0,.slice none 0 0]) X0p rfl) ?_;rintro _ w3 ⟨b7,rfl,hl7,hE,hB7⟩
 have hne4_7:b4≠b7:=by have:=hB4.lt;omega
 have hne5_7:b5≠b7:=by have:=hB5.lt;omega
 have hlo7:=Nat.le_trans hW.size hl7
 replace hBV:=hBV.below hE
 replace hB4:=hB4.below hE
 replace hB5:=hB5.below hE
 replace hr_p:=hr_p.below hE
 replace hr_q:=hr_q.below hE
 replace hW:=ktr hW hE
 refine Zt hK3 fun a hf=>?_
 refine Zs hf fun _ hK8=>?_
 refine Ze (Vd rfl X1y 0)<|Ze (X0 rfl X3 (hB4.at 0))<|Ze (Vd rfl X19 1)<|Ze (X0 rfl X3 (hB5.at 1))<|Ze (Xt (ps:=[(0,vi p.rows),(1,vi (q.cols.toNat:Int))]) (cs:=[vi p.rows,vi (q.cols.toNat:Int),.slice none 0 0]) rfl (fun _=>by first|rfl|kernel_rfl)) ?_
 refine Zf (X6 (zs:=[vi 0,vi 0,.slice none 0 0]) X0p rfl) ?_;rintro _ w4 ⟨b11,rfl,hl11,hE,hB11⟩
 have hne4_11:b4≠b11:=by have:=hB4.lt;omega
 have hne5_11:b5≠b11:=by have:=hB5.lt;omega
 have hne7_11:b7≠b11:=by have:=hB7.lt;omega
 have hlo11:=Nat.le_trans hW.size hl11
 replace hBV:=hBV.below hE
 replace hB4:=hB4.below hE
 replace hB5:=hB5.below hE
 replace hB7:=hB7.below hE
 replace hr_p:=hr_p.below hE
 replace hr_q:=hr_q.below hE
 replace hW:=ktr hW hE
 refine Zo (Vw [vi p.rows,vi (q.cols.toNat:Int),.slice none 0 0] X0u hB11) ?_;rintro _ w5 ⟨ho,hb⟩
 have hold:=hB11
 replace hBV:=hBV.only ho (Blk.ne hBV hold rfl)
 replace hB4:=hB4.only ho (by omega)
 replace hB5:=hB5.only ho (by omega)
 replace hB7:=hB7.only ho (by omega)
 replace hr_p:=hr_p.onlyT ho hold rfl
 replace hr_q:=hr_q.onlyT ho hold rfl
 replace hW:=Kept.only hW ho hlo11
 clear hold
 have hB11:=hb
 clear hb ho
 refine Zt hK8 fun a hf=>?_
 refine wp_seq_k fun _ hK12=>?_
 refine Zs hf fun _ hK13=>?_
 refine Za rfl ?_
 refine Zt hK13 fun a hf=>?_
 refine wp_block ?_
 refine X0c (σ:=Nat×(List Dy)×Bool) (fun (s:Nat×(List Dy)×Bool) (a:Act) (w:World)=>match s with|(i,l,f1)=>∃ A14 c14,Fr a 75 [(0,.pointer (some ⟨bV,0,none⟩)),(4,.pointer (some ⟨b4,0,none⟩)),(5,.pointer (some ⟨b5,0,none⟩)),(6,.pointer (some ⟨b7,0,none⟩)),(7,.pointer (some ⟨b11,0,none⟩)),(8,vi (i:Int))]∧((i:Int)≤p.rows)∧(timesL f p q (i*q.cols.toNat)=(f1,l))∧Blk w bV 142 [.bool f1]∧Blk w b4 38 [vi p.rows,vi (p.cols.toNat:Int),.slice Ap p.cells.length cp]∧Blk w b5 38 [vi q.rows,vi (q.cols.toNat:Int),.slice Aq q.cells.length cq]∧Blk w b7 38 [vi 0,vi 0,.slice none 0 0]∧Blk w b11 38 [vi p.rows,vi (q.cols.toNat:Int),.slice A14 l.length c14]∧Rd w w0.heap.size 98 encD Ap p.cells∧Rd w w0.heap.size 98 encD Aq q.cells∧Own w w0.heap.size 98 5 encD A14 c14 l∧Kept bV w0.heap.size w0 w) (fun (s:Nat×(List Dy)×Bool)=>match s with|(i,l,f1)=>(p.rows-i).toNat) (0,[],f) ?_ ?_
 ·exact ⟨none,0,hf.sub ⟨rfl,rfl,rfl,rfl,rfl,rfl,trivial⟩,(by omega),(by rw [Nat.zero_mul];rfl),hBV,hB4,hB5,hB7,hB11,hr_p,hr_q,(Own.nil _ _ _ _ _),hW⟩
 rintro ⟨i,l,f1⟩ a w6 ⟨A14,c14,hf,hi,hl,hBV,hB4,hB5,hB7,hB11,hr_p,hr_q,ho14,hW⟩
 refine wp_seq_k fun _ hK15=>?_
 refine Zs hf fun _ hK16=>?_
 refine Zm rfl<|Ze (Vd rfl X1y 0)<|Ze (X0 rfl X3 (hB4.at 0))<|Ze (X16 rfl rfl) ?_
 refine Zt hK16 fun a hf=>?_
 refine Xm hf rfl (fun hc17=>?_) (fun hc17=>?_)
 ·have hc17b:=hc17
  have hc17:=of_decide_eq_true hc17
  have hi1:(i:Int)<p.rows:=hc17
  refine wp_skip ?_
  refine hK15 _ _ ?_
  refine wp_seq_k fun _ hK18=>?_
  refine wp_block ?_
  refine Zs hf fun _ hK19=>?_
  refine Za rfl ?_
  refine Zt hK19 fun a hf=>?_
  refine wp_block ?_
  refine X0c (σ:=Nat×(List Dy)×Bool) (fun (s:Nat×(List Dy)×Bool) (a:Act) (w:World)=>match s with|(j,l2,f2)=>∃ A20 c20,Fr a 75 [(0,.pointer (some ⟨bV,0,none⟩)),(4,.pointer (some ⟨b4,0,none⟩)),(5,.pointer (some ⟨b5,0,none⟩)),(6,.pointer (some ⟨b7,0,none⟩)),(7,.pointer (some ⟨b11,0,none⟩)),(8,vi (i:Int)),(9,vi (j:Int))]∧(j≤q.cols.toNat)∧(timesL f p q (i*q.cols.toNat+j)=(f2,l2))∧Blk w bV 142 [.bool f2]∧Blk w b4 38 [vi p.rows,vi (p.cols.toNat:Int),.slice Ap p.cells.length cp]∧Blk w b5 38 [vi q.rows,vi (q.cols.toNat:Int),.slice Aq q.cells.length cq]∧Blk w b7 38 [vi 0,vi 0,.slice none 0 0]∧Blk w b11 38 [vi p.rows,vi (q.cols.toNat:Int),.slice A20 l2.length c20]∧Rd w w0.heap.size 98 encD Ap p.cells∧Rd w w0.heap.size 98 encD Aq q.cells∧Own w w0.heap.size 98 5 encD A20 c20 l2∧Kept bV w0.heap.size w0 w) (fun (s:Nat×(List Dy)×Bool)=>match s with|(j,l2,f2)=>q.cols.toNat-j) (0,l,f1) ?_ ?_
  ·exact ⟨A14,c14,hf.sub ⟨rfl,rfl,rfl,rfl,rfl,rfl,rfl,trivial⟩,(Nat.zero_le _),hl,hBV,hB4,hB5,hB7,hB11,hr_p,hr_q,ho14,hW⟩
  rintro ⟨j,l2,f2⟩ a w7 ⟨A20,c20,hf,hj,hl2,hBV,hB4,hB5,hB7,hB11,hr_p,hr_q,ho20,hW⟩
  refine wp_seq_k fun _ hK21=>?_
  refine Zs hf fun _ hK22=>?_
  refine Zm rfl<|Ze (Vd rfl X19 1)<|Ze (X0 rfl X3 (hB5.at 1))<|Ze (X16 rfl rfl) ?_
  refine Zt hK22 fun a hf=>?_
  refine Xm hf rfl (fun hc23=>?_) (fun hc23=>?_)
  ·have hc23b:=hc23
   have hc23:=of_decide_eq_true hc23
   have hj1:j<q.cols.toNat:=by have:=hc23;omega
   have hlen:l2.length=i*q.cols.toNat+j:=by have:=X4l f p q (i*q.cols.toNat+j);rw [hl2] at this;exact this
   have hgr:=X2u (show i≤32 by omega) (show q.cols.toNat≤32 by omega)
   have hts:=Xas (f:=f) (a:=p) (b:=q) (i:=i) hj1
   rw [hl2] at hts
   refine wp_skip ?_
   refine hK21 _ _ ?_
   refine wp_seq_k fun _ hK24=>?_
   refine wp_block ?_
   refine Zs hf fun _ hK25=>?_
   refine Ze (Xt (ps:=[]) (cs:=[vi 0,vi 0,vi 0,vi 0,vi 0]) rfl (fun _=>by first|rfl|kernel_rfl)) ?_
   refine Zf (X6 (zs:=[vi 0,vi 0,vi 0,vi 0,vi 0]) X17 rfl) ?_;rintro _ w8 ⟨b26,rfl,hl26,hE,hB26⟩
   have hlo26:=Nat.le_trans hW.size hl26
   have haw1_26:=hr_p.away hl26
   have haw2_26:=hr_q.away hl26
   have haw20_26:=ho20.away hl26
   replace hBV:=hBV.below hE
   replace hB4:=hB4.below hE
   replace hB5:=hB5.below hE
   replace hB7:=hB7.below hE
   replace hB11:=hB11.below hE
   replace hr_p:=hr_p.below hE
   replace hr_q:=hr_q.below hE
   replace ho20:=ho20.below hE
   replace hW:=ktr hW hE
   refine Zo (Vw [vi 0,vi 0,vi 0,vi 0,vi 0] Xk hB26) ?_;rintro _ w9 ⟨ho,hb⟩
   have hold:=hB26
   replace hBV:=hBV.only ho (Blk.ne hBV hold rfl)
   replace hB4:=hB4.only ho (Blk.ne hB4 hold rfl)
   replace hB5:=hB5.only ho (Blk.ne hB5 hold rfl)
   replace hB7:=hB7.only ho (Blk.ne hB7 hold rfl)
   replace hB11:=hB11.only ho (Blk.ne hB11 hold rfl)
   replace hr_p:=hr_p.only ho hlo26
   replace hr_q:=hr_q.only ho hlo26
   replace ho20:=ho20.onlyA ho haw20_26
   replace hW:=Kept.only hW ho hlo26
   clear hold
   have hB26:=hb
   clear hb ho
   refine Zt hK25 fun a hf=>?_
   refine wp_seq_k fun _ hK27=>?_
   refine Zs hf fun _ hK28=>?_
   refine Za rfl ?_
   refine Zt hK28 fun a hf=>?_
   refine wp_block ?_
   refine X0c (σ:=Nat×Dy×Bool) (fun (s:Nat×Dy×Bool) (a:Act) (w:World)=>match s with|(k,sum,f3)=>Fr a 75 [(0,.pointer (some ⟨bV,0,none⟩)),(4,.pointer (some ⟨b4,0,none⟩)),(5,.pointer (some ⟨b5,0,none⟩)),(6,.pointer (some ⟨b7,0,none⟩)),(7,.pointer (some ⟨b11,0,none⟩)),(8,vi (i:Int)),(9,vi (j:Int)),(10,.pointer (some ⟨b26,0,none⟩)),(11,vi (k:Int))]∧(k≤p.cols.toNat)∧(dotS f2 p q i j k=(f3,sum))∧Blk w bV 142 [.bool f3]∧Blk w b4 38 [vi p.rows,vi (p.cols.toNat:Int),.slice Ap p.cells.length cp]∧Blk w b5 38 [vi q.rows,vi (q.cols.toNat:Int),.slice Aq q.cells.length cq]∧Blk w b7 38 [vi 0,vi 0,.slice none 0 0]∧Blk w b11 38 [vi p.rows,vi (q.cols.toNat:Int),.slice A20 l2.length c20]∧Blk w b26 98 [vi sum.num.a,vi sum.num.b,vi sum.num.c,vi sum.num.d,vi sum.exp]∧Rd w w0.heap.size 98 encD Ap p.cells∧Rd w w0.heap.size 98 encD Aq q.cells∧Own w w0.heap.size 98 5 encD A20 c20 l2∧Kept bV w0.heap.size w0 w) (fun (s:Nat×Dy×Bool)=>match s with|(k,sum,f3)=>p.cols.toNat-k) (0,dZ,f2) ?_ ?_
   ·exact ⟨hf.sub ⟨rfl,rfl,rfl,rfl,rfl,rfl,rfl,rfl,rfl,trivial⟩,(Nat.zero_le _),rfl,hBV,hB4,hB5,hB7,hB11,hB26,hr_p,hr_q,ho20,hW⟩
   rintro ⟨k,sum,f3⟩ a w10 ⟨hf,hk,hs,hBV,hB4,hB5,hB7,hB11,hB26,hr_p,hr_q,ho20,hW⟩
   have hse:0≤sum.exp∧sum.exp≤60:=by have:=X73 hpa hqa f2 i j k;rw [hs] at this;exact this
   refine wp_seq_k fun _ hK29=>?_
   refine wp_seq_k fun _ hK30=>?_
   refine X0g (fun a w=>Fr a 75 [(0,.pointer (some ⟨bV,0,none⟩)),(4,.pointer (some ⟨b4,0,none⟩)),(5,.pointer (some ⟨b5,0,none⟩)),(6,.pointer (some ⟨b7,0,none⟩)),(7,.pointer (some ⟨b11,0,none⟩)),(8,vi (i:Int)),(9,vi (j:Int)),(10,.pointer (some ⟨b26,0,none⟩)),(11,vi (k:Int)),(40,.bool ((decide ((k:Int)<(p.cols.toNat:Int)))&&(!f3)))]∧w10=w) ?_ ?_
   ·refine Zr hf ?_
    refine Zm rfl<|Ze (Vd rfl X19 1)<|Ze (X0 rfl X3 (hB4.at 1))<|Ze (X16 rfl rfl)<|Zm rfl ?_
    refine Zg 34 rfl (fun hg31=>?_) (fun hg31=>?_)
    ·refine Zv ⟨_,_,rfl,rfl,hg31⟩ (X8 rfl) ?_
     refine Zv ⟨_,_,rfl,rfl,hg31⟩ (X2x rfl) ?_
     refine Zv ⟨_,_,rfl,rfl,hg31⟩ (Vd rfl X6p 0) ?_
     refine Zv ⟨_,_,rfl,rfl,hg31⟩ (X0 rfl Xp0 (hBV.at 0)) ?_
     refine Zv ⟨_,_,rfl,rfl,hg31⟩ (X15 rfl) ?_
     refine Ze (Xg rfl hg31 rfl) ?_
     refine Zn fun a hf=>?_
     exact ⟨hf.sub ⟨rfl,rfl,rfl,rfl,rfl,rfl,rfl,rfl,rfl,X1 rfl (by first|rfl|(simp only [hc17b,hc23b,hg31,bs];done)|simp [hc17b,hc23b,hg31]),trivial⟩,rfl⟩
    refine Zp ⟨_,_,rfl,rfl,hg31⟩ ?_
    refine Zp ⟨_,_,rfl,rfl,hg31⟩ ?_
    refine Zp ⟨_,_,rfl,rfl,hg31⟩ ?_
    refine Zp ⟨_,_,rfl,rfl,hg31⟩ ?_
    refine Zp ⟨_,_,rfl,rfl,hg31⟩ ?_
    refine Ze (Xf rfl hg31 rfl) ?_
    refine Zn fun a hf=>?_
    exact ⟨hf.sub ⟨rfl,rfl,rfl,rfl,rfl,rfl,rfl,rfl,rfl,X1 rfl (by first|rfl|(simp only [hc17b,hc23b,hg31,bs];done)|simp [hc17b,hc23b,hg31]),trivial⟩,rfl⟩
   rintro a _ ⟨hf,rfl⟩
   refine hK30 _ _ ?_
   refine Xm hf rfl (fun hc32=>?_) (fun hc32=>?_)
   ·have hc32b:=hc32
    have hlt:(k:Int)<(p.cols.toNat:Int)∧f3=false:=by simpa using hc32
    have hk1:k<p.cols.toNat:=by omega
    have hg1:=X2u (show i≤32 by omega) (show p.cols.toNat≤32 by omega)
    have hg2:=X2u (show k≤32 by omega) (show q.cols.toNat≤32 by omega)
    have hnx:=Xfi hs hlt.2
    refine wp_skip ?_
    refine hK29 _ _ ?_
    refine wp_seq_k fun _ hK33=>?_
    refine wp_block ?_
    refine X0h (some bV) (fun j=>[25].contains j) mixed ?_
    intro w11 hE
    replace hBV:=hBV.below hE
    replace hB4:=hB4.below hE
    replace hB5:=hB5.below hE
    replace hB7:=hB7.below hE
    replace hB11:=hB11.below hE
    replace hB26:=hB26.below hE
    replace hr_p:=hr_p.below hE
    replace hr_q:=hr_q.below hE
    replace ho20:=ho20.below hE
    replace hW:=ktr hW hE
    refine Yb hf ?_
    refine Yo 0 rfl (fun _=>X8 rfl) ?_
    refine Yw 1 rfl trivial (fun w1 h1=>X0i (l:=[vi sum.num.a,vi sum.num.b,vi sum.num.c,vi sum.num.d,vi sum.exp]) rfl X9 ((hB26.only h1 (Blk.ne hB26 hBV rfl)).at 0) rfl) ?_
    refine Yo 2 rfl (fun _=>X8 rfl)<|Yo 3 rfl (fun _=>Vd rfl X0z 2) ?_
    refine Yw 4 rfl trivial (fun w1 h1=>X0 rfl X22 ((hB4.only h1 (Blk.ne hB4 hBV rfl)).at 2)) ?_
    refine Yo 5 rfl (fun _=>X8 rfl)<|Yo 6 rfl (fun _=>Vd rfl X19 1) ?_
    refine Yw 7 rfl trivial (fun w1 h1=>X0 rfl X3 ((hB4.only h1 (Blk.ne hB4 hBV rfl)).at 1)) ?_
    refine Yo 8 rfl (fun _=>Xg4 (m:=i) (k:=p.cols.toNat) rfl rfl (by have:=X2u (show i≤32 by omega) (show p.cols.toNat≤32 by omega);omega))<|Yo 9 rfl (fun _=>X8 rfl)<|Yo 10 rfl (fun _=>X0a rfl rfl (by omega) (by omega)) ?_
    refine Ya (k:=(i*p.cols.toNat+k)) (u:=(p.at i k)) (enc:=encD) (l:=p.cells) 11 rfl trivial hBV rfl rfl rfl X10 Xk X13 hr_p (Mx.at_get (by rw [hpl.2.2];exact X3c (by omega) (by omega))) (by omega) ?_;intro p35 hat34 hat34n
    refine Yw 12 rfl trivial (fun w1 h1=>X0i (l:=[vi ((p.at i k).num.a),vi ((p.at i k).num.b),vi ((p.at i k).num.c),vi ((p.at i k).num.d),vi ((p.at i k).exp)]) rfl X9 (hat34.only h1 hat34n) rfl) ?_
    refine Yo 13 rfl (fun _=>Vd rfl X0z 2) ?_
    refine Yw 14 rfl trivial (fun w1 h1=>X0 rfl X22 ((hB5.only h1 (Blk.ne hB5 hBV rfl)).at 2)) ?_
    refine Yo 15 rfl (fun _=>X8 rfl)<|Yo 16 rfl (fun _=>Vd rfl X19 1) ?_
    refine Yw 17 rfl trivial (fun w1 h1=>X0 rfl X3 ((hB5.only h1 (Blk.ne hB5 hBV rfl)).at 1)) ?_
    refine Yo 18 rfl (fun _=>Xg4 (m:=k) (k:=q.cols.toNat) rfl rfl (by have:=X2u (show k≤32 by omega) (show q.cols.toNat≤32 by omega);omega))<|Yo 19 rfl (fun _=>X8 rfl)<|Yo 20 rfl (fun _=>X0a rfl rfl (by omega) (by omega)) ?_
    refine Ya (k:=(k*q.cols.toNat+j)) (u:=(q.at k j)) (enc:=encD) (l:=q.cells) 21 rfl trivial hBV rfl rfl rfl X10 Xk X13 hr_q (Mx.at_get (by rw [hql.2.2];exact X3c (by omega) (by omega))) (by omega) ?_;intro p37 hat36 hat36n
    refine Yw 22 rfl trivial (fun w1 h1=>X0i (l:=[vi ((q.at k j).num.a),vi ((q.at k j).num.b),vi ((q.at k j).num.c),vi ((q.at k j).num.d),vi ((q.at k j).exp)]) rfl X9 (hat36.only h1 hat36n) rfl) ?_
    refine Y1 23 ?_
    refine Yf rfl trivial (EfW.mono (Vc (Xqc _ bV f3 hBV (p.at i k) (q.at k j) (X1r (Mx.at_ok hpa i k)) (X1r (Mx.at_ok hqa k j))) Xlz) (fun _ _ h=>⟨fun _=>by obtain ⟨rfl,hK,hbn⟩:=h;exact hK.keep,h⟩)) ?_;rintro _ w12 ⟨rfl,hK,hbn⟩
    obtain ⟨wm,hO,hm,hE⟩:=hK.mid;clear hm
    have hold:=hBV
    replace hB4:=hB4.only hO (Blk.ne hB4 hold rfl)
    replace hB5:=hB5.only hO (Blk.ne hB5 hold rfl)
    replace hB7:=hB7.only hO (Blk.ne hB7 hold rfl)
    replace hB11:=hB11.only hO (Blk.ne hB11 hold rfl)
    replace hB26:=hB26.only hO (Blk.ne hB26 hold rfl)
    replace hr_p:=hr_p.onlyT hO hold rfl
    replace hr_q:=hr_q.onlyT hO hold rfl
    replace ho20:=ho20.onlyT hO hold rfl
    replace hW:=hW.self hO
    replace hB4:=hB4.below hE
    replace hB5:=hB5.below hE
    replace hB7:=hB7.below hE
    replace hB11:=hB11.below hE
    replace hB26:=hB26.below hE
    replace hr_p:=hr_p.below hE
    replace hr_q:=hr_q.below hE
    replace ho20:=ho20.below hE
    replace hW:=ktr hW hE
    clear hold hE hO hK;replace hBV:=hbn;clear hbn
    refine Y1 24 ?_
    refine Yf rfl trivial (EfW.mono (Vc (Xqb _ bV ((sMul f3 (p.at i k) (q.at k j)).1) hBV sum ((sMul f3 (p.at i k) (q.at k j)).2) hse (Xal (X1r (Mx.at_ok hpa i k)) (X1r (Mx.at_ok hqa k j)))) Xkn) (fun _ _ h=>⟨fun _=>by obtain ⟨rfl,hK,hbn⟩:=h;exact hK.keep,h⟩)) ?_;rintro _ w13 ⟨rfl,hK,hbn⟩
    obtain ⟨wm,hO,hm,hE⟩:=hK.mid;clear hm
    have hold:=hBV
    replace hB4:=hB4.only hO (Blk.ne hB4 hold rfl)
    replace hB5:=hB5.only hO (Blk.ne hB5 hold rfl)
    replace hB7:=hB7.only hO (Blk.ne hB7 hold rfl)
    replace hB11:=hB11.only hO (Blk.ne hB11 hold rfl)
    replace hB26:=hB26.only hO (Blk.ne hB26 hold rfl)
    replace hr_p:=hr_p.onlyT hO hold rfl
    replace hr_q:=hr_q.onlyT hO hold rfl
    replace ho20:=ho20.onlyT hO hold rfl
    replace hW:=hW.self hO
    replace hB4:=hB4.below hE
    replace hB5:=hB5.below hE
    replace hB7:=hB7.below hE
    replace hB11:=hB11.below hE
    replace hB26:=hB26.below hE
    replace hr_p:=hr_p.below hE
    replace hr_q:=hr_q.below hE
    replace ho20:=ho20.below hE
    replace hW:=ktr hW hE
    clear hold hE hO hK;replace hBV:=hbn;clear hbn
    refine Y1 25 ?_
    refine Yh rfl trivial rfl (Vw [vi (((sAdd ((sMul f3 (p.at i k) (q.at k j)).1) sum ((sMul f3 (p.at i k) (q.at k j)).2)).2).num.a),vi (((sAdd ((sMul f3 (p.at i k) (q.at k j)).1) sum ((sMul f3 (p.at i k) (q.at k j)).2)).2).num.b),vi (((sAdd ((sMul f3 (p.at i k) (q.at k j)).1) sum ((sMul f3 (p.at i k) (q.at k j)).2)).2).num.c),vi (((sAdd ((sMul f3 (p.at i k) (q.at k j)).1) sum ((sMul f3 (p.at i k) (q.at k j)).2)).2).num.d),vi (((sAdd ((sMul f3 (p.at i k) (q.at k j)).1) sum ((sMul f3 (p.at i k) (q.at k j)).2)).2).exp)] Xk hB26) ?_;rintro _ w14 ⟨ho,hb⟩
    have hold:=hB26
    replace hBV:=hBV.only ho (Blk.ne hBV hold rfl)
    replace hB4:=hB4.only ho (Blk.ne hB4 hold rfl)
    replace hB5:=hB5.only ho (Blk.ne hB5 hold rfl)
    replace hB7:=hB7.only ho (Blk.ne hB7 hold rfl)
    replace hB11:=hB11.only ho (Blk.ne hB11 hold rfl)
    replace hr_p:=hr_p.only ho hlo26
    replace hr_q:=hr_q.only ho hlo26
    replace ho20:=ho20.onlyA ho haw20_26
    replace hW:=Kept.only hW ho hlo26
    clear hold
    have hB26:=hb
    clear hb ho
    refine Yd fun a hf=>?_
    refine Xr ?_
    refine hK33 _ _ ?_
    refine Zr hf ?_
    refine Zm rfl<|Ze (X0a rfl rfl (by omega) (by omega))<|Za rfl ?_
    refine Zn fun a hf=>?_
    refine Xz ?_
    exact ⟨(k+1,(sAdd (sMul f3 (p.at i k) (q.at k j)).1 sum (sMul f3 (p.at i k) (q.at k j)).2).2,(sAdd (sMul f3 (p.at i k) (q.at k j)).1 sum (sMul f3 (p.at i k) (q.at k j)).2).1),⟨hf.sub ⟨rfl,rfl,rfl,rfl,rfl,rfl,rfl,rfl,rfl,trivial⟩,(by omega),hnx,hBV,hB4,hB5,hB7,hB11,hB26,hr_p,hr_q,ho20,hW⟩,(by first|omega|(dsimp only;omega))⟩
   have hc32b:=hc32
   have hend:f3=true∨k=p.cols.toNat:=by (cases f3 with|true=>exact .inl rfl|false=>exact .inr (by have h9:¬ (k:Int)<(p.cols.toNat:Int):=(by simpa using hc32);omega))
   have hde:=Xig hs hk hend
   rw [hde] at hts
   refine wp_exit ?_
   refine Xu ?_
   refine Xu ?_
   refine X0f ?_
   refine hK27 _ _ ?_
   refine Zr hf ?_
   refine Ze (Vd rfl X0z 2)<|Ze (X0 rfl X22 (hB11.at 2))<|Ze (Vn X9 hB26) ?_
   refine Zf (Xd (k:=1) (vs:=[.agg #[vi sum.num.a,vi sum.num.b,vi sum.num.c,vi sum.num.d,vi sum.exp]]) (zs:=[vi sum.num.a,vi sum.num.b,vi sum.num.c,vi sum.num.d,vi sum.exp]) rfl X10 X2f rfl rfl) ?_;rintro _ w15 ⟨b38,rfl,hl38,hE,hB38⟩
   have hne26_38:b26≠b38:=by have:=hB26.lt;omega
   have hlo38:=Nat.le_trans hW.size hl38
   have haw1_38:=hr_p.away hl38
   have haw2_38:=hr_q.away hl38
   have haw20_38:=ho20.away hl38
   replace hBV:=hBV.below hE
   replace hB4:=hB4.below hE
   replace hB5:=hB5.below hE
   replace hB7:=hB7.below hE
   replace hB11:=hB11.below hE
   replace hB26:=hB26.below hE
   replace hr_p:=hr_p.below hE
   replace hr_q:=hr_q.below hE
   replace ho20:=ho20.below hE
   replace hW:=ktr hW hE
   refine Zf (X1e (enc:=encD) (l:=(l2)) (l2:=([sum])) (B0:=w0.heap.size) rfl rfl X10 X2f X13 X74 ho20 (Rd.of_blk hB38 rfl _ hB38.lt) (by simp only [maxLen];simp;omega) (by simp;omega) hW.size) ?_;rintro _ w16 ⟨A40,c40,rfl,ho40,hg,hat⟩
   have hown:Own _ w0.heap.size 98 5 encD _ _ (l2):=ho20
   have haw40_26:=hat _ hB26.lt haw20_26
   have haw40_38:=hat _ hB38.lt haw20_38
   clear hat
   replace hBV:=hBV.appT hown hg rfl
   replace hB4:=hB4.appT hown hg rfl
   replace hB5:=hB5.appT hown hg rfl
   replace hB7:=hB7.appT hown hg rfl
   replace hB11:=hB11.appT hown hg rfl
   replace hB26:=hB26.appA hg haw20_26
   replace hr_p:=hr_p.appB hown hg (Nat.le_refl _)
   replace hr_q:=hr_q.appB hown hg (Nat.le_refl _)
   replace hW:=Kept.app hW hown hg (Nat.le_refl _) hW.size
   clear hown hg
   refine Ze (Vd rfl X0z 2) ?_
   refine Zo (Vu (vs:=[.slice A40 (l2++([sum])).length c40]) (l':=[vi p.rows,vi (q.cols.toNat:Int),.slice A40 (l2++([sum])).length c40]) rfl rfl Xb4 hB11) ?_;rintro _ w17 ⟨ho,hb⟩
   have hold:=hB11
   replace hBV:=hBV.only ho (Blk.ne hBV hold rfl)
   replace hB4:=hB4.only ho (by omega)
   replace hB5:=hB5.only ho (by omega)
   replace hB7:=hB7.only ho (by omega)
   replace hB26:=hB26.only ho (Blk.ne hB26 hold rfl)
   replace hr_p:=hr_p.onlyT ho hold rfl
   replace hr_q:=hr_q.onlyT ho hold rfl
   replace ho40:=ho40.onlyT ho hold rfl
   replace hW:=Kept.only hW ho hlo11
   clear hold
   have hB11:=hb
   clear hb ho
   refine Zn fun a hf=>?_
   refine Xr ?_
   refine hK24 _ _ ?_
   refine Zr hf ?_
   refine Zm rfl<|Ze (X0a rfl rfl (by omega) (by omega))<|Za rfl ?_
   refine Zn fun a hf=>?_
   refine Xz ?_
   exact ⟨(j+1,l2++[sum],f3),⟨A40,c40,hf.sub ⟨rfl,rfl,rfl,rfl,rfl,rfl,rfl,trivial⟩,(by omega),hts,hBV,hB4,hB5,hB7,hB11,hr_p,hr_q,ho40,hW⟩,(by first|omega|(dsimp only;omega))⟩
  have hc23b:=hc23
  have hc23:=of_decide_eq_false hc23
  have hj1:j=q.cols.toNat:=by have:=hc23;omega
  refine wp_exit ?_
  refine Xu ?_
  refine Xu ?_
  refine X0f ?_
  refine Xr ?_
  refine hK18 _ _ ?_
  refine Zr hf ?_
  refine Zm rfl<|Ze (X0a rfl rfl (by omega) (by omega))<|Za rfl ?_
  refine Zn fun a hf=>?_
  refine Xz ?_
  exact ⟨(i+1,l2,f2),⟨A20,c20,hf.sub ⟨rfl,rfl,rfl,rfl,rfl,rfl,trivial⟩,(by omega),(by rw [Nat.add_mul,Nat.one_mul,← hj1];rw [← hj1] at hl2;exact hl2),hBV,hB4,hB5,hB7,hB11,hr_p,hr_q,ho20,hW⟩,(by first|omega|(dsimp only;omega))⟩
 have hc17b:=hc17
 have hc17:=of_decide_eq_false hc17
 have hi1:i=p.rows.toNat:=by have:=hc17;omega
 refine wp_exit ?_
 refine Xu ?_
 refine Xu ?_
 refine X0f ?_
 refine hK12 _ _ ?_
 refine Zs hf fun _ hK41=>?_
 refine Ze (Vn X0k hB11) ?_
 refine Zo (Vw [vi p.rows,vi (q.cols.toNat:Int),.slice A14 l.length c14] X0u hB7) ?_;rintro _ w18 ⟨ho,hb⟩
 have hold:=hB7
 replace hBV:=hBV.only ho (Blk.ne hBV hold rfl)
 replace hB4:=hB4.only ho (by omega)
 replace hB5:=hB5.only ho (by omega)
 replace hB11:=hB11.only ho (by omega)
 replace hr_p:=hr_p.onlyT ho hold rfl
 replace hr_q:=hr_q.onlyT ho hold rfl
 replace ho14:=ho14.onlyT ho hold rfl
 replace hW:=Kept.only hW ho hlo7
 clear hold
 have hB7:=hb
 clear hb ho
 refine Zt hK41 fun a hf=>?_
 refine wp_ret (X2 hf (Xj hf rfl (ResV.cellN (l:=[vi p.rows,vi (q.cols.toNat:Int),.slice A14 l.length c14]) rfl X0k (hB7.at 0) rfl)) ?_)
 have hfin:timesS f p q=(f1,⟨p.rows,q.cols,l⟩):=by rw [timesS,← hi1,hl]
 rw [hfin]
 exact ⟨A14,c14,rfl,ho14,hW,hBV⟩
end Go.Proofs.YtlfjcmldfbfdbaaGreat
set_option maxRecDepth 4000
namespace Go.Proofs.YtlfjcmldfbfdbaaGreat
open Go.RowKit
end Go.Proofs.YtlfjcmldfbfdbaaGreat
set_option maxRecDepth 4000
namespace Go.Proofs.YtlfjcmldfbfdbaaGreat
open Go.RowKit
theorem Xq8(w0:World)(Al:Option Addr)(cl:Nat)(l:List Int)(hr_l:Rd w0 w0.heap.size 3 encI Al l)(n:Int)(B0:Nat)(ho:Own w0 B0 3 1 encI Al cl l)(hB0:B0≤w0.heap.size)(hln:l.length≤1000000000) : Ret Tryz.prog 124 [.slice Al l.length cl,vi n] w0 (fun v w=>∃ A c,v=.slice A (putI l n).length c∧Own w B0 3 1 encI A c (putI l n)∧Below w0.heap.size w0 w):=by
 refine enter Tryz.func124 rfl 48 rfl rfl ?_
 intro a hf
 have hW:Below w0.heap.size w0 w0:=Below.refl _ _
 refine Zs hf fun _ hK2=>?_
 refine Za rfl ?_
 refine Zt hK2 fun a hf=>?_
 refine Zs hf fun _ hK4=>?_
 refine Za rfl ?_
 refine Zt hK4 fun a hf=>?_
 refine wp_seq_k fun _ hK5=>?_
 refine wp_block ?_
 refine X0c (σ:=Nat) (fun (k:Nat) (a:Act) (w:World)=>Fr a 48 [(0,.slice Al l.length cl),(1,vi n),(5,vi (k:Int))]∧(k≤l.length)∧((l.take k).all (fun x=>decide (x<n))=true)∧Below w0.heap.size w0 w) (fun (k:Nat)=>l.length-k) 0 ?_ ?_
 ·exact ⟨hf.sub ⟨rfl,rfl,rfl,trivial⟩,(Nat.zero_le _),rfl,hW⟩
 rintro k a w1 ⟨hf,hk,hpre,hW⟩
 refine wp_seq_k fun _ hK6=>?_
 refine wp_seq_k fun _ hK7=>?_
 refine X0g (fun a w=>Fr a 48 [(0,.slice Al l.length cl),(1,vi n),(5,vi (k:Int)),(18,.bool (decide ((k:Int)<(l.length:Int))&&decide ((l.getD k 0)<n)))]∧w1=w) ?_ ?_
 ·refine Zr hf ?_
  refine Zm rfl<|Zm rfl<|Ze (X14 rfl X03)<|Ze (X16 rfl rfl)<|Zm rfl ?_
  refine Zg 11 rfl (fun hg8=>?_) (fun hg8=>?_)
  ·refine Zv ⟨_,_,rfl,rfl,hg8⟩ (X8 rfl) ?_
   refine Zv ⟨_,_,rfl,rfl,hg8⟩ (X8 rfl) ?_
   refine Zi (k:=k) (u:=(l.getD k 0)) (enc:=encI) (l:=l) ⟨_,_,rfl,rfl,hg8⟩ rfl rfl X03 X1a Xp (hr_l.below' hW) (X8b (by assumption)) rfl ?_;intro p10 hat9
   refine Zv ⟨_,_,rfl,rfl,hg8⟩ (X0 rfl X3 hat9) ?_
   refine Zv ⟨_,_,rfl,rfl,hg8⟩ (X8 rfl) ?_
   refine Zv ⟨_,_,rfl,rfl,hg8⟩ (X16 rfl rfl) ?_
   refine Ze (Xg rfl hg8 rfl) ?_
   refine Zn fun a hf=>?_
   exact ⟨hf.sub ⟨rfl,rfl,rfl,X1 rfl (by first|rfl|(simp only [hg8,bs];done)|simp [hg8]),trivial⟩,rfl⟩
  refine Zp ⟨_,_,rfl,rfl,hg8⟩ ?_
  refine Zp ⟨_,_,rfl,rfl,hg8⟩ ?_
  refine Zp ⟨_,_,rfl,rfl,hg8⟩ ?_
  refine Zp ⟨_,_,rfl,rfl,hg8⟩ ?_
  refine Zp ⟨_,_,rfl,rfl,hg8⟩ ?_
  refine Zp ⟨_,_,rfl,rfl,hg8⟩ ?_
  refine Ze (Xf rfl hg8 rfl) ?_
  refine Zn fun a hf=>?_
  exact ⟨hf.sub ⟨rfl,rfl,rfl,X1 rfl (by first|rfl|(simp only [hg8,bs];done)|simp [hg8]),trivial⟩,rfl⟩
 rintro a _ ⟨hf,rfl⟩
 refine hK7 _ _ ?_
 refine Xm hf rfl (fun hc11=>?_) (fun hc11=>?_)
 ·have hc11b:=hc11
  have hlt:(k:Int)<l.length∧l.getD k 0<n:=by simpa using hc11
  have hk1:k<l.length:=by omega
  refine wp_skip ?_
  refine hK6 _ _ ?_
  refine wp_block ?_
  refine Zr hf ?_
  refine Zm rfl<|Ze (X0a rfl rfl (by omega) (by omega))<|Za rfl ?_
  refine Zn fun a hf=>?_
  refine Xr ?_
  refine Xz ?_
  exact ⟨k+1,⟨hf.sub ⟨rfl,rfl,rfl,trivial⟩,(by omega),(X1x hpre (X58 hk1) (by simpa using hlt.2)),hW⟩,(by omega)⟩
 have hc11b:=hc11
 have hst:k<l.length→¬ l.getD k 0<n:=by intro h0 h1;revert hc11;simp only [h1,decide_true,Bool.and_true,decide_eq_false_iff_not];omega
 have hpa:=Xew l n k hpre hk hst
 refine wp_exit ?_
 refine Xu ?_
 refine Xu ?_
 refine X0f ?_
 refine hK5 _ _ ?_
 refine wp_seq_k fun _ hK12=>?_
 refine wp_seq_k fun _ hK13=>?_
 refine X0g (fun a w=>Fr a 48 [(0,.slice Al l.length cl),(1,vi n),(5,vi (k:Int)),(32,.bool (decide ((k:Int)<(l.length:Int))&&(l.getD k 0)==n))]∧w1=w) ?_ ?_
 ·refine Zr hf ?_
  refine Zm rfl<|Zm rfl<|Ze (X14 rfl X03)<|Ze (X16 rfl rfl)<|Zm rfl ?_
  refine Zg 25 rfl (fun hg14=>?_) (fun hg14=>?_)
  ·refine Zv ⟨_,_,rfl,rfl,hg14⟩ (X8 rfl) ?_
   refine Zv ⟨_,_,rfl,rfl,hg14⟩ (X8 rfl) ?_
   refine Zi (k:=k) (u:=(l.getD k 0)) (enc:=encI) (l:=l) ⟨_,_,rfl,rfl,hg14⟩ rfl rfl X03 X1a Xp (hr_l.below' hW) (X8b (by assumption)) rfl ?_;intro p16 hat15
   refine Zv ⟨_,_,rfl,rfl,hg14⟩ (X0 rfl X3 hat15) ?_
   refine Zv ⟨_,_,rfl,rfl,hg14⟩ (X8 rfl) ?_
   refine Zv ⟨_,_,rfl,rfl,hg14⟩ (X0n rfl rfl) ?_
   refine Ze (Xg rfl hg14 rfl) ?_
   refine Zn fun a hf=>?_
   exact ⟨hf.sub ⟨rfl,rfl,rfl,X1 rfl (by first|rfl|(simp only [hc11b,hg14,bs];done)|simp [hc11b,hg14]),trivial⟩,rfl⟩
  refine Zp ⟨_,_,rfl,rfl,hg14⟩ ?_
  refine Zp ⟨_,_,rfl,rfl,hg14⟩ ?_
  refine Zp ⟨_,_,rfl,rfl,hg14⟩ ?_
  refine Zp ⟨_,_,rfl,rfl,hg14⟩ ?_
  refine Zp ⟨_,_,rfl,rfl,hg14⟩ ?_
  refine Zp ⟨_,_,rfl,rfl,hg14⟩ ?_
  refine Ze (Xf rfl hg14 rfl) ?_
  refine Zn fun a hf=>?_
  exact ⟨hf.sub ⟨rfl,rfl,rfl,X1 rfl (by first|rfl|(simp only [hc11b,hg14,bs];done)|simp [hc11b,hg14]),trivial⟩,rfl⟩
 rintro a _ ⟨hf,rfl⟩
 refine hK13 _ _ ?_
 refine Xm hf rfl (fun hc17=>?_) (fun hc17=>?_)
 ·have hc17b:=hc17
  have hyy:k<l.length∧l.getD k 0=n:=by have h9:(k:Int)<l.length∧l.getD k 0=n:=(by simpa using hc17);omega
  have hfin:=hpa.1 hyy
  refine Zs hf fun _ hK18=>?_
  refine Zm rfl<|Za rfl ?_
  refine Zt hK18 fun a hf=>?_
  refine wp_ret ?_
  refine X7 ?_
  refine X2 hf (Xj hf rfl rfl) ?_
  rw [hfin]
  exact ⟨_,_,rfl,ho.below hW,hW⟩
 have hc17b:=hc17
 have hfin:=hpa.2 (fun h0=>by revert hc17;rw [h0.2];simp;omega)
 refine wp_skip ?_
 refine hK12 _ _ ?_
 refine Zs hf fun _ hK19=>?_
 refine Zf (Xd (k:=0) (vs:=[]) (zs:=[]) rfl X03 X18 rfl rfl) ?_;rintro _ w2 ⟨b20,rfl,hl20,hE,hB20⟩
 have hlo20:=Nat.le_trans hW.size hl20
 have haw1_20:=(hr_l.below' hW).away hl20
 replace hW:=btr hW hE
 refine Zm rfl<|Zm rfl ?_
 have hr22:=((hr_l.below' hW).top).takeK Xp k
 refine Ze (Xf5 (l:=l) (k:=k) rfl rfl X03 X1a rfl hk ho.cap) ?_
 refine Zf (X1e (enc:=encI) (l:=([] : List Int)) (l2:=((l.take k))) (B0:=w0.heap.size) rfl rfl X03 X18 Xp X1n (Own.empty hB20 hlo20) hr22 (by simp only [maxLen];simp;omega) (by simp;omega) hW.size) ?_;rintro _ w3 ⟨A23,c23,rfl,ho23,hg,hat⟩
 have hown:Own _ w0.heap.size 3 1 encI _ _ ([] : List Int):=(Own.empty hB20 hlo20)
 clear hat
 replace hW:=Below.app hW hown hg (Nat.le_refl _) hW.size
 clear hown hg
 simp only [List.nil_append] at ho23
 refine Za rfl ?_
 refine Zt hK19 fun a hf=>?_
 refine Zs hf fun _ hK24=>?_
 refine Zm rfl<|Zm rfl ?_
 refine Zf (Xd (k:=1) (vs:=[vi n]) (zs:=[vi n]) rfl X03 X18 rfl rfl) ?_;rintro _ w4 ⟨b25,rfl,hl25,hE,hB25⟩
 have hlo25:=Nat.le_trans hW.size hl25
 have haw1_25:=(hr_l.below' hW).away hl25
 have haw23_25:=ho23.away hl25
 replace ho23:=ho23.below hE
 replace hW:=btr hW hE
 refine Zf (X1e (enc:=encI) (l:=((l.take k))) (l2:=([n])) (B0:=w0.heap.size) rfl rfl X03 X18 Xp X1n ho23 (Rd.of_blk hB25 rfl _ hB25.lt) (by simp only [maxLen];simp;omega) (by simp;omega) hW.size) ?_;rintro _ w5 ⟨A27,c27,rfl,ho27,hg,hat⟩
 have hown:Own _ w0.heap.size 3 1 encI _ _ ((l.take k)):=ho23
 have haw27_25:=hat _ hB25.lt haw23_25
 clear hat
 replace hW:=Below.app hW hown hg (Nat.le_refl _) hW.size
 clear hown hg
 refine Za rfl ?_
 refine Zt hK24 fun a hf=>?_
 refine Zs hf fun _ hK28=>?_
 refine Zm rfl<|Zm rfl<|Zm rfl ?_
 have hr29:=((hr_l.below' hW).top).dropK Xp (c:=cl) ho.cap k
 refine Ze (Xmh (l:=l) (k:=k) rfl rfl X03 X1a rfl hk) ?_
 refine Zf (X1e (enc:=encI) (l:=((l.take k)++([n]))) (l2:=((l.drop k))) (B0:=w0.heap.size) rfl rfl X03 X18 Xp X1n ho27 hr29 (by simp only [maxLen];simp;omega) (by simp;omega) hW.size) ?_;rintro _ w6 ⟨A30,c30,rfl,ho30,hg,hat⟩
 have hown:Own _ w0.heap.size 3 1 encI _ _ ((l.take k)++([n])):=ho27
 clear hat
 replace hW:=Below.app hW hown hg (Nat.le_refl _) hW.size
 clear hown hg
 refine Za rfl ?_
 refine Zt hK28 fun a hf=>?_
 refine wp_ret (X2 hf (Xj hf rfl rfl) ?_)
 rw [hfin]
 exact ⟨A30,c30,rfl,(ho30).lower hB0,hW⟩
end Go.Proofs.YtlfjcmldfbfdbaaGreat
set_option maxRecDepth 4000
namespace Go.Proofs.YtlfjcmldfbfdbaaGreat
open Go.RowKit
end Go.Proofs.YtlfjcmldfbfdbaaGreat
set_option maxRecDepth 4000
namespace Go.Proofs.YtlfjcmldfbfdbaaGreat
open Go.RowKit
end Go.Proofs.YtlfjcmldfbfdbaaGreat
set_option maxRecDepth 4000
namespace Go.Proofs.YtlfjcmldfbfdbaaGreat
open Go.RowKit
end Go.Proofs.YtlfjcmldfbfdbaaGreat
set_option maxRecDepth 4000
namespace Go.Proofs.YtlfjcmldfbfdbaaGreat
open Go.RowKit
end Go.Proofs.YtlfjcmldfbfdbaaGreat
set_option maxRecDepth 4000
namespace Go.Proofs.YtlfjcmldfbfdbaaGreat
open Go.RowKit
end Go.Proofs.YtlfjcmldfbfdbaaGreat
set_option maxRecDepth 4000
namespace Go.Proofs.YtlfjcmldfbfdbaaGreat
open Go.RowKit
end Go.Proofs.YtlfjcmldfbfdbaaGreat
set_option maxRecDepth 4000
namespace Go.Proofs.YtlfjcmldfbfdbaaGreat
open Go.RowKit
end Go.Proofs.YtlfjcmldfbfdbaaGreat
set_option maxRecDepth 4000
namespace Go.Proofs.YtlfjcmldfbfdbaaGreat
open Go.RowKit
end Go.Proofs.YtlfjcmldfbfdbaaGreat
set_option maxRecDepth 4000
namespace Go.Proofs.YtlfjcmldfbfdbaaGreat
open Go.RowKit
end Go.Proofs.YtlfjcmldfbfdbaaGreat
set_option maxRecDepth 4000
namespace Go.Proofs.YtlfjcmldfbfdbaaGreat
open Go.RowKit
end Go.Proofs.YtlfjcmldfbfdbaaGreat
set_option maxRecDepth 4000
namespace Go.Proofs.YtlfjcmldfbfdbaaGreat
open Go.RowKit
end Go.Proofs.YtlfjcmldfbfdbaaGreat
namespace Go.Proofs.YtlfjcmldfbfdbaaGreat
open Go.RowKit
def comS(g h:Gt) : Bool:=(qubI g).any fun x=>(qubI h).any fun y=>y==x
def comI(g h:Gt) : Bool:=(qubI g).any fun x=>(qubI h).any fun y=>x==y
theorem X47{g h:Gt} : comI g h=true↔∃ x,x ∈ qubI g∧x ∈ qubI h:=by
 simp only [comI,List.any_eq_true,beq_iff_eq]
 exact ⟨fun ⟨x,h1,y,h2,e⟩=>⟨x,h1,e▸h2⟩,fun ⟨x,h1,h2⟩=>⟨x,h1,x,h2,rfl⟩⟩
theorem X2q{g h:Gt} : comS g h=true↔∃ x,x ∈ qubI g∧x ∈ qubI h:=by
 simp only [comS,List.any_eq_true,beq_iff_eq]
 exact ⟨fun ⟨x,h1,y,h2,e⟩=>⟨x,h1,e▸h2⟩,fun ⟨x,h1,h2⟩=>⟨x,h1,x,h2,rfl⟩⟩
theorem X90(g h:Gt) : comS g h=comI h g:=by
 rw [Bool.eq_iff_iff,X2q,X47]
 exact ⟨fun ⟨x,a,b⟩=>⟨x,b,a⟩,fun ⟨x,a,b⟩=>⟨x,b,a⟩⟩
theorem Xma(k:Int) : (k==9||k==10||k==11)=inR k 9 11:=by
 rw [Bool.eq_iff_iff,Xh]
 simp only [Bool.or_eq_true,beq_iff_eq]
 omega
theorem X5b{α:Type}{l:List α}{k:Nat}{u x:α}(h:¬ x ∈ l.take k)(hu:l[k]? = some u)(hne:¬ u=x) : ¬ x ∈ l.take (k+1):=by
 rw [List.take_add_one,hu]
 simp only [Option.toList_some,List.mem_append,List.mem_singleton]
 rintro (h1|h1)
 ·exact h h1
 ·exact hne h1.symm
theorem Xj6{l:List Int}{k:Nat}{u q:Int}{b:Bool}(hu:l[k]? = some u)(h:b=true→¬ q ∈ l.take k)(hc:(b&&(u==q))=false) : b=true→¬ q ∈ l.take (k+1):=fun hb=>
 X5b (h hb) hu (by subst hb;simpa using hc)
theorem X5l{us:List Int}(hi:Inc us){q:Int}{k:Nat}(hu:us[k]? = some q) : lastN us q us.length=(k:Int):=by
 have hk:=(List.getElem?_eq_some_iff.1 hu).1
 obtain ⟨j,hj,h1,h2⟩:=X2l (List.mem_of_getElem? hu)
 rw [h1]
 have hj2:us[j]? = some q:=by rw [List.getElem?_eq_getElem hj];rw [List.getD_eq_getElem?_getD,List.getElem?_eq_getElem hj] at h2;simpa using h2
 rcases Nat.lt_trichotomy j k with h|h|h
 ·have:=List.pairwise_iff_getElem.1 hi j k hj hk h
  rw [List.getElem?_eq_getElem hj] at hj2;rw [List.getElem?_eq_getElem hk] at hu
  injection hj2 with e1;injection hu with e2
  omega
 ·rw [h]
 ·have:=List.pairwise_iff_getElem.1 hi k j hk hj h
  rw [List.getElem?_eq_getElem hj] at hj2;rw [List.getElem?_eq_getElem hk] at hu
  injection hj2 with e1;injection hu with e2
  omega
section
variable {p q : Mx}
theorem Xms(h:(p.rows != q.rows||p.cols != q.cols||(p.cells.length:Int) != (q.cells.length:Int))=true) : (decide (p.rows=q.rows)&&decide (p.cols=q.cols)&&decide (p.cells=q.cells))=false:=by
 rw [Bool.eq_false_iff]
 intro h2
 simp only [Bool.and_eq_true,decide_eq_true_eq] at h2
 obtain ⟨⟨h3,h4⟩,h5⟩:=h2
 rw [h3,h4,h5] at h
 simp at h
theorem Xff(h:(p.rows != q.rows||p.cols != q.cols||(p.cells.length:Int) != (q.cells.length:Int))=false) : p.rows=q.rows∧p.cols=q.cols∧p.cells.length=q.cells.length:=by
 simp only [Bool.or_eq_false_iff,bne_eq_false_iff_eq] at h
 exact ⟨h.1.1,h.1.2,by omega⟩
theorem Xer{k:Nat}{u v:Dy}(hu:p.cells[k]? = some u)(hv:q.cells[k]? = some v)(h:¬ u=v) : (decide (p.rows=q.rows)&&decide (p.cols=q.cols)&&decide (p.cells=q.cells))=false:=by
 rw [Bool.eq_false_iff]
 intro h2
 simp only [Bool.and_eq_true,decide_eq_true_eq] at h2
 rw [h2.2,hv] at hu
 injection hu with hu
 exact h hu.symm
end
end Go.Proofs.YtlfjcmldfbfdbaaGreat
namespace Go.Proofs.YtlfjcmldfbfdbaaGreat
open Go.RowKit
def gZ:Gt:=⟨0,0,0⟩
def eqM(p q:Mx) : Bool:=decide (p.rows=q.rows)&&decide (p.cols=q.cols)&&decide (p.cells=q.cells)
def unionS(g h:Gt) : List Int:=(qubI g++qubI h).foldl putI []
theorem X9q:∀ (l m:List Int) (x:Int),x ∈ l.foldl putI m↔x ∈ m∨x ∈ l
 | [],m,x=>by simp
 | y::l,m,x=>by rw [List.foldl_cons,X9q l,X8x];simp only [List.mem_cons];rw [or_assoc]
theorem X9i:∀ (l m:List Int),Inc m→Inc (l.foldl putI m)
 | [],_,h=>h
 | y::l,m,h=>X9i l _ (Xcw m y h)
theorem Xao:∀ (l m:List Int),(l.foldl putI m).length≤m.length+l.length
 | [],m=>by simp
 | y::l,m=>by
  have h1:=Xao l (putI m y)
  have h2:=Xd0 m y
  rw [List.foldl_cons,List.length_cons]
  omega
theorem X1c{g h:Gt}{x:Int} : x ∈ unionS g h↔x ∈ qubI g∨x ∈ qubI h:=by
 rw [unionS,X9q,List.mem_append];simp
theorem X2c(g h:Gt) : Inc (unionS g h):=X9i _ _ List.Pairwise.nil
structure PairOk (us:List Int) (g h:Gt) : Prop where
 inc:Inc us
 low:∀ x ∈ us,0≤x∧x≤4
 one:1≤us.length
 len:us.length≤5
 gk:¬ g.k=12
 hk:¬ h.k=12
 ga:g.a ∈ us
 ha:h.a ∈ us
 gb:inR g.k 9 11=true→g.b ∈ us
 hb:inR h.k 9 11=true→h.b ∈ us
 gs:gOk (us.length:Int) (smallG us g)=true
 hs:gOk (us.length:Int) (smallG us h)=true
theorem X5k{g:Gt}{x:Int}(h:x ∈ qubI g) : ¬ g.k=12:=fun e=>by
 rw [qubI,if_pos e] at h;cases h
theorem Xjl{g:Gt}(h:¬ g.k=12) : g.a ∈ qubI g:=by
 rw [qubI,if_neg h];split<;>simp
theorem Xjg{g:Gt}(h:¬ g.k=12)(h9:inR g.k 9 11=true) : g.b ∈ qubI g:=by
 rw [qubI,if_neg h,if_pos h9];simp
theorem X6k{us:List Int}{n:Int}{g h:Gt}(hg:gOk n g=true)(hh:gOk n h=true)(hc:∃ x,x ∈ qubI g∧x ∈ qubI h)(hi:Inc us)(hm:∀ x,x ∈ us↔x ∈ qubI g∨x ∈ qubI h) : PairOk us g h:=by
 obtain ⟨x,h1,h2⟩:=hc
 have hlow:∀ x ∈ us,0≤x∧x≤4:=fun y hy=>by
  rcases (hm y).1 hy with h|h
  ·exact X28 hg h
  ·exact X28 hh h
 have hone:1≤us.length:=List.length_pos_of_mem ((hm x).2 (.inl h1))
 have hmax:max 1 (us.length:Int)=us.length:=by omega
 have e1:=Xa3 hi hlow ⟨hg,fun x hx=>(hm x).2 (.inl hx)⟩
 have e2:=Xa3 hi hlow ⟨hh,fun x hx=>(hm x).2 (.inr hx)⟩
 rw [hmax] at e1 e2
 exact ⟨hi,hlow,hone,Xcq hi hlow,X5k h1,X5k h2,(hm _).2 (.inl (Xjl (X5k h1))),(hm _).2 (.inr (Xjl (X5k h2))),fun h9=>(hm _).2 (.inl (Xjg (X5k h1) h9)),fun h9=>(hm _).2 (.inr (Xjg (X5k h2) h9)),e1,e2⟩
theorem Xgu{a b:Mx}(ha:mOk a=true)(hb:mOk b=true)(f:Bool) : (timesS f a b).2.cells.length≤2305843009213693951:=by
 have h1:=X2k ha
 have h2:=X2k hb
 show (timesL f a b _).2.length≤_
 rw [X4l]
 exact Nat.le_trans (X2u (by omega) (by omega)) (by decide)
def commS(g h:Gt) : Bool:=if comS g h=true then
  eqM (timesS false (gateS ((unionS g h).length:Int) (smallG (unionS g h) g)) (gateS ((unionS g h).length:Int) (smallG (unionS g h) h))).2
   (timesS (timesS false (gateS ((unionS g h).length:Int) (smallG (unionS g h) g)) (gateS ((unionS g h).length:Int) (smallG (unionS g h) h))).1 (gateS ((unionS g h).length:Int) (smallG (unionS g h) h)) (gateS ((unionS g h).length:Int) (smallG (unionS g h) g))).2
 else true
def commI(g h:Gt) : Bool:=if comI g h=true then
  eqM ((opI ⟨((unionI (qubI g) (qubI h)).length:Int),mapI [g,h] (numbI (unionI (qubI g) (qubI h)))⟩).getD mZ) ((opI ⟨((unionI (qubI g) (qubI h)).length:Int),[mapG (numbI (unionI (qubI g) (qubI h))) h,mapG (numbI (unionI (qubI g) (qubI h))) g]⟩).getD mZ)
 else true
section
variable (gs : List Gt) (s : List Int) (g : Gt) (x : Int)
def pA(j:Nat) : Bool:=decide (x≤s.getD j 0)&&!commS g (gs.getD j gZ)
def pB(j:Nat) : Bool:=s.getD j 0==x&&comS g (gs.getD j gZ)
def faultG(i:Nat) : Int:=if g.k=12 then (if x=0 then 0 else 1) else if inR x 1 400=true then (if (List.range i).any (pA gs s g x)=true then 2 else if (List.range i).any (pB gs s g x)=true then 3 else 0) else 1
def faultS(i:Nat) : Int:=faultG gs s (gs.getD i gZ) (s.getD i 0) i
def qA(j:Nat) : Bool:=!commI (gs.getD j gZ) g&&decide (x≤s.getD j 0)
def qB(j:Nat) : Bool:=s.getD j 0==x&&comI (gs.getD j gZ) g
def faultH(i:Nat) : Int:=if (g.k==12&&x != 0||g.k != 12&&!inR x 1 400)=true then 1 else if (List.range i).any (qA gs s g x)=true then 2 else if (List.range i).any (qB gs s g x)=true then 3 else 0
def faultI(i:Nat) : Int:=faultH gs s (gs.getD i gZ) (s.getD i 0) i
end
def firstF(f:Nat→Int) : Nat→Nat→Int×Int
 | 0,_=>(0,0)
 | n+1,i=>if f i=0 then firstF f n (i+1) else (f i,(i:Int))
def schedS(gs:List Gt)(s:List Int) : Int×Int:=if s.length=gs.length then firstF (faultS gs s) gs.length 0 else (1,0)
def schedI(gs:List Gt)(s:List Int) : Int×Int:=if s.length=gs.length then firstF (faultI gs s) gs.length 0 else (1,0)
def specC(c:Cx)(s:List Int) : Int×Int×Bool:=if cOk c=true then ((schedS c.gs s).1,(schedS c.gs s).2,true) else (0,0,false)
def implC(c:Cx)(s:List Int) : Int×Int×Bool:=if cOk c=true then ((schedI c.gs s).1,(schedI c.gs s).2,true) else (0,0,false)
section
variable {f : Nat → Int} {n i : Nat} {r : Int × Int} {x : Int}
end
section
variable {p : Nat → Bool} {i j : Nat}
end
section
variable {gs : List Gt} {s : List Int} {i : Nat} {g : Gt}
end
end Go.Proofs.YtlfjcmldfbfdbaaGreat
set_option maxRecDepth 4000
namespace Go.Proofs.YtlfjcmldfbfdbaaGreat
open Go.RowKit
theorem Xoq(w0:World)(Al:Option Addr)(cl:Nat)(l:List Int)(hr_l:Rd w0 w0.heap.size 3 encI Al l)(x:Int)(hln:l.length≤2305843009213693951) : Ret Tryz.prog 131 [.slice Al l.length cl,vi x] w0 (fun v w=>v=.bool (l.any fun y=>y==x)∧Below w0.heap.size w0 w):=by
 refine enter Tryz.func131 rfl 17 rfl rfl ?_
 intro a hf
 have hW:Below w0.heap.size w0 w0:=Below.refl _ _
 refine Zs hf fun _ hK2=>?_
 refine Za rfl ?_
 refine Zt hK2 fun a hf=>?_
 refine wp_seq_k fun _ hK3=>?_
 refine Zs hf fun _ hK4=>?_
 refine Zm rfl<|Ze (X14 rfl X03)<|Zm rfl ?_
 refine Zt hK4 fun a hf=>?_
 refine wp_block ?_
 refine X0c (σ:=Nat) (fun (k:Nat) (a:Act) (w:World)=>Fr a 17 [(1,vi x),(7,.slice Al l.length cl),(8,vi (l.length:Int)),(9,vi (k:Int))]∧(k≤l.length)∧((l.take k).all (fun y=>!(y==x))=true)∧Below w0.heap.size w0 w) (fun (k:Nat)=>l.length+1-k) 0 ?_ ?_
 ·exact ⟨hf.sub ⟨rfl,rfl,rfl,rfl,trivial⟩,(Nat.zero_le _),(by simp),hW⟩
 rintro k a w1 ⟨hf,hk,hpre,hW⟩
 refine Zs hf fun _ hK5=>?_
 refine Ze (X16 rfl rfl) ?_
 refine Zt hK5 fun a hf=>?_
 refine wp_seq_k fun _ hK6=>?_
 refine Xm hf rfl (fun hc7=>?_) (fun hc7=>?_)
 ·have hc7b:=hc7
  have hc7:=of_decide_eq_true hc7
  obtain ⟨u8,hu8⟩:=Xx (l:=l) (k:=k) (by omega)
  refine wp_skip ?_
  refine hK6 _ _ ?_
  refine wp_seq_k fun _ hK9=>?_
  refine wp_block ?_
  refine Zs hf fun _ hK10=>?_
  refine Zi (k:=k) (u:=u8) (enc:=encI) (l:=l) trivial rfl rfl X03 X1a Xp (hr_l.below' hW) hu8 rfl ?_;intro p12 hat11
  refine Ze (X0 rfl X3 hat11)<|Za rfl ?_
  refine Zt hK10 fun a hf=>?_
  refine Zs hf fun _ hK13=>?_
  refine Zm rfl<|Zm rfl<|Ze (X0n rfl rfl) ?_
  refine Zt hK13 fun a hf=>?_
  refine Xm hf rfl (fun hc14=>?_) (fun hc14=>?_)
  ·have hc14b:=hc14
   have hb2:l.any (fun y=>y==x)=true:=X2s hu8 hc14
   refine Zs hf fun _ hK15=>?_
   refine Za rfl ?_
   refine Zt hK15 fun a hf=>?_
   refine wp_ret ?_
   refine X05 ?_
   refine X7 ?_
   refine X7 ?_
   refine X05 ?_
   refine X7 ?_
   refine X2 hf (Xj hf rfl rfl) ?_
   exact ⟨by rw [hb2],hW⟩
  have hc14b:=hc14
  have hok:(!(u8==x))=true:=by rw [hc14];rfl
  refine wp_skip ?_
  refine Xr ?_
  refine hK9 _ _ ?_
  refine Zr hf ?_
  refine Ze (X0a rfl rfl (by omega) (by omega))<|Zm rfl ?_
  refine Zn fun a hf=>?_
  refine Xz ?_
  exact ⟨k+1,⟨hf.sub ⟨rfl,rfl,rfl,rfl,trivial⟩,(by omega),(X1x hpre hu8 hok),hW⟩,(by omega)⟩
 have hc7b:=hc7
 have hc7:=of_decide_eq_false hc7
 refine wp_exit ?_
 refine Xu ?_
 refine Xu ?_
 refine X0f ?_
 refine hK3 _ _ ?_
 refine Zs hf fun _ hK16=>?_
 refine Za rfl ?_
 refine Zt hK16 fun a hf=>?_
 refine wp_ret (X2 hf (Xj hf rfl rfl) ?_)
 have hb2:l.any (fun y=>y==x)=false:=X2e (X1s hpre (by omega))
 exact ⟨by rw [hb2],hW⟩
theorem Xnb(w0:World)(g:Gt) : Ret Tryz.prog 173 [.agg #[vi g.k,vi g.a,vi g.b]] w0 (fun v w=>v=.bool (inR g.k 9 11)∧Below w0.heap.size w0 w):=by
 refine enter Tryz.func173 rfl 16 rfl rfl ?_
 intro a hf
 have hW:Below w0.heap.size w0 w0:=Below.refl _ _
 refine Zs hf fun _ hK1=>?_
 refine Zf (X0j (zs:=[vi g.k,vi g.a,vi g.b]) rfl rfl) ?_;rintro _ w1 ⟨b2,rfl,hl2,hE,hB2⟩
 have hlo2:=Nat.le_trans hW.size hl2
 replace hW:=btr hW hE
 refine Za rfl ?_
 refine Zt hK1 fun a hf=>?_
 refine wp_seq_k fun _ hK3=>?_
 refine X0g (fun a w=>Fr a 16 [(2,.bool (((g.k==9)||(g.k==10))||(g.k==11)))]∧w1=w) ?_ ?_
 ·refine Zr hf ?_
  refine Ze (Vd rfl X0e 0)<|Ze (X0 rfl X3 (hB2.at 0))<|Ze (X0n rfl rfl)<|Zm rfl ?_
  refine Zg 6 rfl (fun hg4=>?_) (fun hg4=>?_)
  ·refine Zp ⟨_,_,rfl,rfl,hg4⟩ ?_
   refine Zp ⟨_,_,rfl,rfl,hg4⟩ ?_
   refine Zp ⟨_,_,rfl,rfl,hg4⟩ ?_
   refine Ze (Xg rfl hg4 rfl)<|Zm rfl<|Zp ⟨_,_,rfl,rfl,rfl⟩ ?_
   refine Zp ⟨_,_,rfl,rfl,rfl⟩ ?_
   refine Zp ⟨_,_,rfl,rfl,rfl⟩ ?_
   refine Ze (Xg rfl rfl rfl)<|Za rfl ?_
   refine Zn fun a hf=>?_
   exact ⟨hf.sub ⟨X1 rfl (by first|rfl|(simp only [hg4,bs];done)|simp [hg4]),trivial⟩,rfl⟩
  refine Zv ⟨_,_,rfl,rfl,hg4⟩ (Vd rfl X0e 0) ?_
  refine Zv ⟨_,_,rfl,rfl,hg4⟩ (X0 rfl X3 (hB2.at 0)) ?_
  refine Zv ⟨_,_,rfl,rfl,hg4⟩ (X0n rfl rfl) ?_
  refine Ze (Xf rfl hg4 rfl)<|Zm rfl ?_
  refine Zg 11 rfl (fun hg5=>?_) (fun hg5=>?_)
  ·refine Zp ⟨_,_,rfl,rfl,hg5⟩ ?_
   refine Zp ⟨_,_,rfl,rfl,hg5⟩ ?_
   refine Zp ⟨_,_,rfl,rfl,hg5⟩ ?_
   refine Ze (Xg rfl hg5 rfl)<|Za rfl ?_
   refine Zn fun a hf=>?_
   exact ⟨hf.sub ⟨X1 rfl (by first|rfl|(simp only [hg4,hg5,bs];done)|simp [hg4,hg5]),trivial⟩,rfl⟩
  refine Zv ⟨_,_,rfl,rfl,hg5⟩ (Vd rfl X0e 0) ?_
  refine Zv ⟨_,_,rfl,rfl,hg5⟩ (X0 rfl X3 (hB2.at 0)) ?_
  refine Zv ⟨_,_,rfl,rfl,hg5⟩ (X0n rfl rfl) ?_
  refine Ze (Xf rfl hg5 rfl)<|Za rfl ?_
  refine Zn fun a hf=>?_
  exact ⟨hf.sub ⟨X1 rfl (by first|rfl|(simp only [hg4,hg5,bs];done)|simp [hg4,hg5]),trivial⟩,rfl⟩
 rintro a _ ⟨hf,rfl⟩
 refine hK3 _ _ ?_
 refine wp_ret (X2 hf (Xj hf rfl rfl) ?_)
 exact ⟨congrArg Value.bool (Xma g.k),hW⟩
theorem Xj1(w0:World)(g:Gt) : Ret Tryz.prog 123 [.agg #[vi g.k,vi g.a,vi g.b]] w0 (fun v w=>∃ A c,v=.slice A (qubI g).length c∧Own w w0.heap.size 3 1 encI A c (qubI g)∧Below w0.heap.size w0 w):=by
 refine enter Tryz.func123 rfl 18 rfl rfl ?_
 intro a hf
 have hW:Below w0.heap.size w0 w0:=Below.refl _ _
 refine Zs hf fun _ hK1=>?_
 refine Zf (X0j (zs:=[vi g.k,vi g.a,vi g.b]) rfl rfl) ?_;rintro _ w1 ⟨b2,rfl,hl2,hE,hB2⟩
 have hlo2:=Nat.le_trans hW.size hl2
 replace hW:=btr hW hE
 refine Za rfl ?_
 refine Zt hK1 fun a hf=>?_
 refine wp_seq_k fun _ hK4=>?_
 refine wp_block ?_
 refine Zs hf fun _ hK5=>?_
 refine Ze (Vd rfl X0e 0)<|Ze (X0 rfl X3 (hB2.at 0))<|Ze (X0n rfl rfl)<|Za rfl ?_
 refine Zt hK5 fun a hf=>?_
 refine Xm hf rfl (fun hc6=>?_) (fun hc6=>?_)
 ·have hc6b:=hc6
  have hfin:qubI g=[]:=by rw [qubI,if_pos (by simpa using hc6)]
  refine Zs hf fun _ hK7=>?_
  refine Za rfl ?_
  refine Zt hK7 fun a hf=>?_
  refine wp_ret ?_
  refine X05 ?_
  refine X7 ?_
  refine X2 hf (Xj hf rfl rfl) ?_
  rw [hfin]
  exact ⟨none,0,rfl,(Own.nil _ _ _ _ _),hW⟩
 have hc6b:=hc6
 have h12:¬ g.k=12:=by simpa using hc6
 refine Zs hf fun _ hK9=>?_
 refine Ze (Vn Xo hB2) ?_
 refine Zf (Vc (Xnb _ g) Xgq) ?_;rintro _ w2 ⟨rfl,hE⟩
 replace hB2:=hB2.below hE
 replace hW:=btr hW hE
 refine Za rfl ?_
 refine Zt hK9 fun a hf=>?_
 refine Xm hf rfl (fun hc10=>?_) (fun hc10=>?_)
 ·have hc10b:=hc10
  have hfin:qubI g=[g.a,g.b]:=by rw [qubI,if_neg h12,if_pos hc10]
  refine Zs hf fun _ hK11=>?_
  refine Ze (Vd rfl X0d 1)<|Ze (X0 rfl X3 (hB2.at 1))<|Ze (Vd rfl X0r 2)<|Ze (X0 rfl X3 (hB2.at 2)) ?_
  refine Zf (Xd (k:=2) (vs:=[vi g.a,vi g.b]) (zs:=[vi g.a,vi g.b]) rfl X03 X18 rfl rfl) ?_;rintro _ w3 ⟨b12,rfl,hl12,hE,hB12⟩
  have hlo12:=Nat.le_trans hW.size hl12
  replace hB2:=hB2.below hE
  replace hW:=btr hW hE
  refine Za rfl ?_
  refine Zt hK11 fun a hf=>?_
  refine wp_ret ?_
  refine X05 ?_
  refine X7 ?_
  refine X2 hf (Xj hf rfl rfl) ?_
  rw [hfin]
  exact ⟨(some ⟨b12,0,none⟩),2,rfl,(Own.of_blkL Xp hB12 hlo12 rfl rfl (by decide)),hW⟩
 have hc10b:=hc10
 have hfin:qubI g=[g.a]:=by rw [qubI,if_neg h12,if_neg (by rw [hc10];simp)]
 refine wp_skip ?_
 refine Xr ?_
 refine hK4 _ _ ?_
 refine Zs hf fun _ hK14=>?_
 refine Ze (Vd rfl X0d 1)<|Ze (X0 rfl X3 (hB2.at 1)) ?_
 refine Zf (Xd (k:=1) (vs:=[vi g.a]) (zs:=[vi g.a]) rfl X03 X18 rfl rfl) ?_;rintro _ w4 ⟨b15,rfl,hl15,hE,hB15⟩
 have hlo15:=Nat.le_trans hW.size hl15
 replace hB2:=hB2.below hE
 replace hW:=btr hW hE
 refine Za rfl ?_
 refine Zt hK14 fun a hf=>?_
 refine wp_ret (X2 hf (Xj hf rfl rfl) ?_)
 rw [hfin]
 exact ⟨(some ⟨b15,0,none⟩),1,rfl,(Own.of_blkL Xp hB15 hlo15 rfl rfl (by decide)),hW⟩
theorem Xo1(w0:World)(g:Gt)(h:Gt) : Ret Tryz.prog 62 [.agg #[vi g.k,vi g.a,vi g.b],.agg #[vi h.k,vi h.a,vi h.b]] w0 (fun v w=>v=.bool (comS g h)∧Below w0.heap.size w0 w):=by
 have hql:=X20 g
 have hqh:=X20 h
 refine enter Tryz.func62 rfl 19 rfl rfl ?_
 intro a hf
 have hW:Below w0.heap.size w0 w0:=Below.refl _ _
 refine Zs hf fun _ hK1=>?_
 refine Zf (X0j (zs:=[vi g.k,vi g.a,vi g.b]) rfl rfl) ?_;rintro _ w1 ⟨b2,rfl,hl2,hE,hB2⟩
 have hlo2:=Nat.le_trans hW.size hl2
 replace hW:=btr hW hE
 refine Zf (X0j (zs:=[vi h.k,vi h.a,vi h.b]) rfl rfl) ?_;rintro _ w2 ⟨b3,rfl,hl3,hE,hB3⟩
 have hne2_3:b2≠b3:=by have:=hB2.lt;omega
 have hlo3:=Nat.le_trans hW.size hl3
 replace hB2:=hB2.below hE
 replace hW:=btr hW hE
 refine Za rfl ?_
 refine Zt hK1 fun a hf=>?_
 refine wp_seq_k fun _ hK4=>?_
 refine Zs hf fun _ hK5=>?_
 refine Ze (Vn Xo hB2) ?_
 refine Zf (Vc (Xj1 _ g) X99) ?_;rintro _ w3 ⟨A6,c6,rfl,ho6,hE⟩
 replace ho6:=ho6.lower hW.size
 replace hB2:=hB2.below hE
 replace hB3:=hB3.below hE
 replace hW:=btr hW hE
 refine Ze (X14 rfl X03)<|Zm rfl ?_
 refine Zt hK5 fun a hf=>?_
 refine wp_block ?_
 refine X0c (σ:=Nat) (fun (k:Nat) (a:Act) (w:World)=>Fr a 19 [(3,.pointer (some ⟨b3,0,none⟩)),(8,.slice A6 (qubI g).length c6),(9,vi ((qubI g).length:Int)),(10,vi (k:Int))]∧(k≤(qubI g).length)∧(((qubI g).take k).all (fun x=>!((qubI h).any fun y=>y==x))=true)∧Blk w b3 24 [vi h.k,vi h.a,vi h.b]∧Own w w0.heap.size 3 1 encI A6 c6 (qubI g)∧Below w0.heap.size w0 w) (fun (k:Nat)=>(qubI g).length+1-k) 0 ?_ ?_
 ·exact ⟨hf.sub ⟨rfl,rfl,rfl,rfl,trivial⟩,(Nat.zero_le _),(by simp),hB3,ho6,hW⟩
 rintro k a w4 ⟨hf,hk,hpre,hB3,ho6,hW⟩
 refine Zs hf fun _ hK7=>?_
 refine Ze (X16 rfl rfl) ?_
 refine Zt hK7 fun a hf=>?_
 refine wp_seq_k fun _ hK8=>?_
 refine Xm hf rfl (fun hc9=>?_) (fun hc9=>?_)
 ·have hc9b:=hc9
  have hc9:=of_decide_eq_true hc9
  obtain ⟨u10,hu10⟩:=Xx (l:=(qubI g)) (k:=k) (by omega)
  refine wp_skip ?_
  refine hK8 _ _ ?_
  refine wp_seq_k fun _ hK11=>?_
  refine wp_block ?_
  refine Zs hf fun _ hK12=>?_
  refine Zi (k:=k) (u:=u10) (enc:=encI) (l:=(qubI g)) trivial rfl rfl X03 X1a Xp ho6.rd hu10 rfl ?_;intro p14 hat13
  refine Ze (X0 rfl X3 hat13)<|Za rfl ?_
  refine Zt hK12 fun a hf=>?_
  refine Zs hf fun _ hK15=>?_
  refine Ze (Vn Xo hB3) ?_
  refine Zf (Vc (Xj1 _ h) X99) ?_;rintro _ w5 ⟨A16,c16,rfl,ho16,hE⟩
  replace ho16:=ho16.lower hW.size
  replace hB3:=hB3.below hE
  replace ho6:=ho6.below hE
  replace hW:=btr hW hE
  refine Zm rfl ?_
  refine Zf (Vc (Xoq _ A16 c16 (qubI h) ho16.rd.top u10 (by omega)) Xlv) ?_;rintro _ w6 ⟨rfl,hE⟩
  replace hB3:=hB3.below hE
  replace ho6:=ho6.below hE
  replace ho16:=ho16.below hE
  replace hW:=btr hW hE
  refine Zt hK15 fun a hf=>?_
  refine Xm hf rfl (fun hc17=>?_) (fun hc17=>?_)
  ·have hc17b:=hc17
   have hb2:comS g h=true:=X2s hu10 hc17
   refine Zs hf fun _ hK18=>?_
   refine Za rfl ?_
   refine Zt hK18 fun a hf=>?_
   refine wp_ret ?_
   refine X05 ?_
   refine X7 ?_
   refine X7 ?_
   refine X05 ?_
   refine X7 ?_
   refine X2 hf (Xj hf rfl rfl) ?_
   exact ⟨by rw [hb2],hW⟩
  have hc17b:=hc17
  have hok:(!((qubI h).any fun y=>y==u10))=true:=by rw [hc17];rfl
  refine wp_skip ?_
  refine Xr ?_
  refine hK11 _ _ ?_
  refine Zr hf ?_
  refine Ze (X0a rfl rfl (by omega) (by omega))<|Zm rfl ?_
  refine Zn fun a hf=>?_
  refine Xz ?_
  exact ⟨k+1,⟨hf.sub ⟨rfl,rfl,rfl,rfl,trivial⟩,(by omega),(X1x hpre hu10 hok),hB3,ho6,hW⟩,(by omega)⟩
 have hc9b:=hc9
 have hc9:=of_decide_eq_false hc9
 refine wp_exit ?_
 refine Xu ?_
 refine Xu ?_
 refine X0f ?_
 refine hK4 _ _ ?_
 refine Zs hf fun _ hK19=>?_
 refine Za rfl ?_
 refine Zt hK19 fun a hf=>?_
 refine wp_ret (X2 hf (Xj hf rfl rfl) ?_)
 have hb2:comS g h=false:=X2e (X1s hpre (by omega))
 exact ⟨by rw [hb2],hW⟩
theorem Xp5(w0:World)(g:Gt)(Aus:Option Addr)(cus:Nat)(us:List Int)(hr_us:Rd w0 w0.heap.size 3 encI Aus us)(hi:Inc us)(hb:inR g.k 9 11=true→g.b ∈ us)(hln:us.length≤2305843009213693951) : Ret Tryz.prog 175 [.agg #[vi g.k,vi g.a,vi g.b],.slice Aus us.length cus] w0 (fun v w=>v=vi (if inR g.k 9 11=true then lastN us g.b us.length else 0)∧Below w0.heap.size w0 w):=by
 refine enter Tryz.func175 rfl 24 rfl rfl ?_
 intro a hf
 have hW:Below w0.heap.size w0 w0:=Below.refl _ _
 refine Zs hf fun _ hK2=>?_
 refine Zf (X0j (zs:=[vi g.k,vi g.a,vi g.b]) rfl rfl) ?_;rintro _ w1 ⟨b3,rfl,hl3,hE,hB3⟩
 have hlo3:=Nat.le_trans hW.size hl3
 replace hW:=btr hW hE
 refine Za rfl ?_
 refine Zt hK2 fun a hf=>?_
 refine wp_seq_k fun _ hK4=>?_
 refine Zs hf fun _ hK5=>?_
 refine Zm rfl<|Ze (X14 rfl X03)<|Zm rfl ?_
 refine Zt hK5 fun a hf=>?_
 refine wp_block ?_
 refine X0c (σ:=Nat) (fun (k:Nat) (a:Act) (w:World)=>Fr a 24 [(2,.pointer (some ⟨b3,0,none⟩)),(7,.slice Aus us.length cus),(8,vi (us.length:Int)),(9,vi (k:Int))]∧(k≤us.length)∧(inR g.k 9 11=true→¬ g.b ∈ us.take k)∧Blk w b3 24 [vi g.k,vi g.a,vi g.b]∧Below w0.heap.size w0 w) (fun (k:Nat)=>us.length-k) 0 ?_ ?_
 ·exact ⟨hf.sub ⟨rfl,rfl,rfl,rfl,trivial⟩,(Nat.zero_le _),(fun _=>by simp),hB3,hW⟩
 rintro k a w2 ⟨hf,hk,hpre,hB3,hW⟩
 refine Zs hf fun _ hK6=>?_
 refine Ze (X16 rfl rfl) ?_
 refine Zt hK6 fun a hf=>?_
 refine wp_seq_k fun _ hK7=>?_
 refine Xm hf rfl (fun hc8=>?_) (fun hc8=>?_)
 ·have hc8b:=hc8
  have hc8:=of_decide_eq_true hc8
  obtain ⟨u9,hu9⟩:=Xx (l:=us) (k:=k) (by omega)
  refine wp_skip ?_
  refine hK7 _ _ ?_
  refine wp_seq_k fun _ hK10=>?_
  refine wp_block ?_
  refine Zs hf fun _ hK11=>?_
  refine Zm rfl ?_
  refine Zi (k:=k) (u:=u9) (enc:=encI) (l:=us) trivial rfl rfl X03 X1a Xp (hr_us.below' hW) hu9 rfl ?_;intro p13 hat12
  refine Ze (X0 rfl X3 hat12)<|Za rfl<|Za rfl ?_
  refine Zt hK11 fun a hf=>?_
  refine wp_seq_k fun _ hK14=>?_
  refine X0g (fun a w=>Fr a 24 [(2,.pointer (some ⟨b3,0,none⟩)),(5,vi (k:Int)),(7,.slice Aus us.length cus),(8,vi (us.length:Int)),(9,vi (k:Int)),(21,.bool ((inR g.k 9 11)&&(u9==g.b)))]∧Below w2.heap.size w2 w) ?_ ?_
  ·have hEc:Below w2.heap.size w2 w2:=Below.refl _ _
   refine Zr hf ?_
   refine Ze (Vn Xo hB3) ?_
   refine Zf (Vc (Xnb _ g) Xgq) ?_;rintro _ w3 ⟨rfl,hE⟩
   replace hB3:=hB3.below hE
   replace hW:=btr hW hE
   replace hEc:=btr hEc hE
   refine Zm rfl ?_
   refine Zg 16 rfl (fun hg15=>?_) (fun hg15=>?_)
   ·refine Zv ⟨_,_,rfl,rfl,hg15⟩ (X8 rfl) ?_
    refine Zv ⟨_,_,rfl,rfl,hg15⟩ (Vd rfl X0r 2) ?_
    refine Zv ⟨_,_,rfl,rfl,hg15⟩ (X0 rfl X3 (hB3.at 2)) ?_
    refine Zv ⟨_,_,rfl,rfl,hg15⟩ (X0n rfl rfl) ?_
    refine Ze (Xg rfl hg15 rfl) ?_
    refine Zn fun a hf=>?_
    have hEE:Below w2.heap.size w2 w3:=hEc
    exact ⟨hf.sub ⟨rfl,rfl,rfl,rfl,rfl,X1 rfl (by first|rfl|(simp only [hc8b,hg15,bs];done)|simp [hc8b,hg15]),trivial⟩,hEE⟩
   refine Zp ⟨_,_,rfl,rfl,hg15⟩ ?_
   refine Zp ⟨_,_,rfl,rfl,hg15⟩ ?_
   refine Zp ⟨_,_,rfl,rfl,hg15⟩ ?_
   refine Zp ⟨_,_,rfl,rfl,hg15⟩ ?_
   refine Ze (Xf rfl hg15 rfl) ?_
   refine Zn fun a hf=>?_
   have hEE:Below w2.heap.size w2 w3:=hEc
   exact ⟨hf.sub ⟨rfl,rfl,rfl,rfl,rfl,X1 rfl (by first|rfl|(simp only [hc8b,hg15,bs];done)|simp [hc8b,hg15]),trivial⟩,hEE⟩
  rintro a w4 ⟨hf,hE⟩
  replace hB3:=hB3.below hE
  replace hW:=btr hW hE
  refine hK14 _ _ ?_
  refine Xm hf rfl (fun hc16=>?_) (fun hc16=>?_)
  ·have hc16b:=hc16
   obtain ⟨h8,h9⟩:=(Bool.and_eq_true _ _).mp hc16
   have hfin:(if inR g.k 9 11=true then lastN us g.b us.length else 0)=(k:Int):=by rw [if_pos h8];exact X5l hi (by rw [hu9,eq_of_beq h9])
   refine Zs hf fun _ hK17=>?_
   refine Zm rfl<|Za rfl ?_
   refine Zt hK17 fun a hf=>?_
   refine wp_ret ?_
   refine X05 ?_
   refine X7 ?_
   refine X7 ?_
   refine X05 ?_
   refine X7 ?_
   refine X2 hf (Xj hf rfl rfl) ?_
   exact ⟨by rw [hfin],hW⟩
  have hc16b:=hc16
  have hnx:=Xj6 hu9 hpre hc16
  refine wp_skip ?_
  refine Xr ?_
  refine hK10 _ _ ?_
  refine Zr hf ?_
  refine Ze (X0a rfl rfl (by omega) (by omega))<|Zm rfl ?_
  refine Zn fun a hf=>?_
  refine Xz ?_
  exact ⟨k+1,⟨hf.sub ⟨rfl,rfl,rfl,rfl,trivial⟩,(by omega),hnx,hB3,hW⟩,(by omega)⟩
 have hc8b:=hc8
 have hc8:=of_decide_eq_false hc8
 have hfin:(if inR g.k 9 11=true then lastN us g.b us.length else 0)=0:=by rw [if_neg];intro h9;exact hpre h9 (by rw [List.take_of_length_le (by omega)];exact hb h9)
 refine wp_exit ?_
 refine Xu ?_
 refine Xu ?_
 refine X0f ?_
 refine hK4 _ _ ?_
 refine Zs hf fun _ hK18=>?_
 refine Za rfl ?_
 refine Zt hK18 fun a hf=>?_
 refine wp_ret (X2 hf (Xj hf rfl rfl) ?_)
 exact ⟨by rw [hfin],hW⟩
theorem Xaj(w0:World)(g:Gt)(Aus:Option Addr)(cus:Nat)(us:List Int)(hr_us:Rd w0 w0.heap.size 3 encI Aus us)(hk12:¬ g.k=12)(ha:g.a ∈ us)(hi:Inc us)(hb:inR g.k 9 11=true→g.b ∈ us)(hln:us.length≤2305843009213693951) : Ret Tryz.prog 126 [.agg #[vi g.k,vi g.a,vi g.b],.slice Aus us.length cus] w0 (fun v w=>v=gV (smallG us g)∧Below w0.heap.size w0 w):=by
 refine enter Tryz.func126 rfl 27 rfl rfl ?_
 intro a hf
 have hW:Below w0.heap.size w0 w0:=Below.refl _ _
 refine Zs hf fun _ hK2=>?_
 refine Zf (X0j (zs:=[vi g.k,vi g.a,vi g.b]) rfl rfl) ?_;rintro _ w1 ⟨b3,rfl,hl3,hE,hB3⟩
 have hlo3:=Nat.le_trans hW.size hl3
 replace hW:=btr hW hE
 refine Zf (X6 (zs:=[vi 0,vi 0,vi 0]) X2h rfl) ?_;rintro _ w2 ⟨b4,rfl,hl4,hE,hB4⟩
 have hne3_4:b3≠b4:=by have:=hB3.lt;omega
 have hlo4:=Nat.le_trans hW.size hl4
 replace hB3:=hB3.below hE
 replace hW:=btr hW hE
 refine Zt hK2 fun a hf=>?_
 refine wp_seq_k fun _ hK5=>?_
 refine Zs hf fun _ hK6=>?_
 refine Zm rfl<|Ze (X14 rfl X03)<|Zm rfl ?_
 refine Zt hK6 fun a hf=>?_
 refine wp_block ?_
 refine X0c (σ:=Nat) (fun (k:Nat) (a:Act) (w:World)=>Fr a 27 [(1,.slice Aus us.length cus),(2,.pointer (some ⟨b3,0,none⟩)),(4,.pointer (some ⟨b4,0,none⟩)),(7,.slice Aus us.length cus),(8,vi (us.length:Int)),(9,vi (k:Int))]∧(k≤us.length)∧(¬ g.a ∈ us.take k)∧Blk w b3 24 [vi g.k,vi g.a,vi g.b]∧Blk w b4 24 [vi 0,vi 0,vi 0]∧Below w0.heap.size w0 w) (fun (k:Nat)=>us.length-k) 0 ?_ ?_
 ·exact ⟨hf.sub ⟨rfl,rfl,rfl,rfl,rfl,rfl,trivial⟩,(Nat.zero_le _),(by simp),hB3,hB4,hW⟩
 rintro k a w3 ⟨hf,hk,hpre,hB3,hB4,hW⟩
 refine Zs hf fun _ hK7=>?_
 refine Ze (X16 rfl rfl) ?_
 refine Zt hK7 fun a hf=>?_
 refine wp_seq_k fun _ hK8=>?_
 refine Xm hf rfl (fun hc9=>?_) (fun hc9=>?_)
 ·have hc9b:=hc9
  have hc9:=of_decide_eq_true hc9
  obtain ⟨u10,hu10⟩:=Xx (l:=us) (k:=k) (by omega)
  refine wp_skip ?_
  refine hK8 _ _ ?_
  refine wp_seq_k fun _ hK11=>?_
  refine wp_block ?_
  refine Zs hf fun _ hK12=>?_
  refine Zm rfl ?_
  refine Zi (k:=k) (u:=u10) (enc:=encI) (l:=us) trivial rfl rfl X03 X1a Xp (hr_us.below' hW) hu10 rfl ?_;intro p14 hat13
  refine Ze (X0 rfl X3 hat13)<|Za rfl<|Za rfl ?_
  refine Zt hK12 fun a hf=>?_
  refine Zs hf fun _ hK15=>?_
  refine Zm rfl<|Ze (Vd rfl X0d 1)<|Ze (X0 rfl X3 (hB3.at 1))<|Ze (X0n rfl rfl) ?_
  refine Zt hK15 fun a hf=>?_
  refine Xm hf rfl (fun hc16=>?_) (fun hc16=>?_)
  ·have hc16b:=hc16
   have hfin:smallG us g=⟨g.k,(k:Int),(if inR g.k 9 11=true then lastN us g.b us.length else 0)⟩:=by rw [smallG,if_neg hk12,X5l hi (by rw [hu10,eq_of_beq hc16])]
   refine wp_seq_k fun _ hK17=>?_
   refine X0h none (fun j=>[7].contains j) mixed ?_
   intro w4 hE
   replace hB3:=hB3.below hE
   replace hB4:=hB4.below hE
   replace hW:=btr hW hE
   refine Yb hf ?_
   refine Yo 0 rfl (fun _=>Vd rfl X0e 0)<|Ye 1 rfl (X0 rfl X3 (hB3.at 0))<|Yo 2 rfl (fun _=>X8 rfl)<|Ye 3 rfl (Vn Xo hB3)<|Yo 4 rfl (fun _=>X8 rfl) ?_
   refine Y1 5 ?_
   refine Yk rfl trivial (Vc (Xp5 _ g Aus cus us (hr_us.below' hW).top hi hb hln) Xkb) (fun _ _ ⟨_,hE⟩=>hE) ?_;rintro _ w5 ⟨rfl,hE⟩
   replace hB3:=hB3.below hE
   replace hB4:=hB4.below hE
   replace hW:=btr hW hE
   refine Yo 6 rfl (fun _=>Xt (ps:=[(0,vi g.k),(1,vi (k:Int)),(2,vi (if inR g.k 9 11=true then lastN us g.b us.length else 0))]) (cs:=[vi g.k,vi (k:Int),vi (if inR g.k 9 11=true then lastN us g.b us.length else 0)]) rfl (fun _=>by first|rfl|kernel_rfl)) ?_
   refine Y1 7 ?_
   refine Yh rfl trivial rfl (Vw [vi g.k,vi (k:Int),vi (if inR g.k 9 11=true then lastN us g.b us.length else 0)] X0o hB4) ?_;rintro _ w6 ⟨ho,hb⟩
   have hold:=hB4
   replace hB3:=hB3.only ho (by omega)
   replace hW:=Below.only hW ho hlo4
   clear hold
   have hB4:=hb
   clear hb ho
   refine Yd fun a hf=>?_
   refine hK17 _ _ ?_
   refine wp_ret ?_
   refine X05 ?_
   refine X7 ?_
   refine X7 ?_
   refine X05 ?_
   refine X7 ?_
   refine X2 hf (Xj hf rfl (ResV.cellN (l:=[vi g.k,vi (k:Int),vi (if inR g.k 9 11=true then lastN us g.b us.length else 0)]) rfl Xo (hB4.at 0) rfl)) ?_
   exact ⟨by rw [hfin],hW⟩
  have hc16b:=hc16
  have hnx:=X5b hpre hu10 (by intro h9;rw [h9] at hc16;simp at hc16)
  refine wp_skip ?_
  refine Xr ?_
  refine hK11 _ _ ?_
  refine Zr hf ?_
  refine Ze (X0a rfl rfl (by omega) (by omega))<|Zm rfl ?_
  refine Zn fun a hf=>?_
  refine Xz ?_
  exact ⟨k+1,⟨hf.sub ⟨rfl,rfl,rfl,rfl,rfl,rfl,trivial⟩,(by omega),hnx,hB3,hB4,hW⟩,(by omega)⟩
 have hc9b:=hc9
 have hc9:=of_decide_eq_false hc9
 exfalso;exact hpre (by rw [List.take_of_length_le (by omega)];exact ha)
theorem Xlw(w0:World)(p:Mx)(Ap:Option Addr)(cp:Nat)(hr_p:Rd w0 w0.heap.size 98 encD Ap p.cells)(q:Mx)(Aq:Option Addr)(cq:Nat)(hr_q:Rd w0 w0.heap.size 98 encD Aq q.cells)(hln:p.cells.length≤2305843009213693951) : Ret Tryz.prog 17 [.agg #[vi p.rows,vi p.cols,.slice Ap p.cells.length cp],.agg #[vi q.rows,vi q.cols,.slice Aq q.cells.length cq]] w0 (fun v w=>v=.bool (decide (p.rows=q.rows)&&decide (p.cols=q.cols)&&decide (p.cells=q.cells))∧Below w0.heap.size w0 w):=by
 refine enter Tryz.func17 rfl 45 rfl rfl ?_
 intro a hf
 have hW:Below w0.heap.size w0 w0:=Below.refl _ _
 refine Zs hf fun _ hK3=>?_
 refine Zf (X0j (zs:=[vi p.rows,vi p.cols,.slice Ap p.cells.length cp]) rfl rfl) ?_;rintro _ w1 ⟨b4,rfl,hl4,hE,hB4⟩
 have hlo4:=Nat.le_trans hW.size hl4
 replace hW:=btr hW hE
 refine Zf (X0j (zs:=[vi q.rows,vi q.cols,.slice Aq q.cells.length cq]) rfl rfl) ?_;rintro _ w2 ⟨b5,rfl,hl5,hE,hB5⟩
 have hne4_5:b4≠b5:=by have:=hB4.lt;omega
 have hlo5:=Nat.le_trans hW.size hl5
 replace hB4:=hB4.below hE
 replace hW:=btr hW hE
 refine Za rfl ?_
 refine Zt hK3 fun a hf=>?_
 refine wp_seq_k fun _ hK6=>?_
 refine wp_seq_k fun _ hK7=>?_
 refine X0g (fun a w=>Fr a 45 [(2,.pointer (some ⟨b4,0,none⟩)),(3,.pointer (some ⟨b5,0,none⟩)),(26,.bool (((p.rows != q.rows)||(p.cols != q.cols))||((p.cells.length:Int) != (q.cells.length:Int))))]∧w2=w) ?_ ?_
 ·refine Zr hf ?_
  refine Ze (Vd rfl X1y 0)<|Ze (X0 rfl X3 (hB4.at 0))<|Ze (Vd rfl X1y 0)<|Ze (X0 rfl X3 (hB5.at 0))<|Ze (X4o rfl rfl) ?_
  refine Zm rfl ?_
  refine Zg 11 rfl (fun hg8=>?_) (fun hg8=>?_)
  ·refine Zp ⟨_,_,rfl,rfl,hg8⟩ ?_
   refine Zp ⟨_,_,rfl,rfl,hg8⟩ ?_
   refine Zp ⟨_,_,rfl,rfl,hg8⟩ ?_
   refine Zp ⟨_,_,rfl,rfl,hg8⟩ ?_
   refine Zp ⟨_,_,rfl,rfl,hg8⟩ ?_
   refine Ze (Xg rfl hg8 rfl)<|Zm rfl<|Zp ⟨_,_,rfl,rfl,rfl⟩ ?_
   refine Zp ⟨_,_,rfl,rfl,rfl⟩ ?_
   refine Zp ⟨_,_,rfl,rfl,rfl⟩ ?_
   refine Zp ⟨_,_,rfl,rfl,rfl⟩ ?_
   refine Zp ⟨_,_,rfl,rfl,rfl⟩ ?_
   refine Zp ⟨_,_,rfl,rfl,rfl⟩ ?_
   refine Zp ⟨_,_,rfl,rfl,rfl⟩ ?_
   refine Ze (Xg rfl rfl rfl) ?_
   refine Zn fun a hf=>?_
   exact ⟨hf.sub ⟨rfl,rfl,X1 rfl (by first|rfl|(simp only [hg8,bs];done)|simp [hg8]),trivial⟩,rfl⟩
  refine Zv ⟨_,_,rfl,rfl,hg8⟩ (Vd rfl X19 1) ?_
  refine Zv ⟨_,_,rfl,rfl,hg8⟩ (X0 rfl X3 (hB4.at 1)) ?_
  refine Zv ⟨_,_,rfl,rfl,hg8⟩ (Vd rfl X19 1) ?_
  refine Zv ⟨_,_,rfl,rfl,hg8⟩ (X0 rfl X3 (hB5.at 1)) ?_
  refine Zv ⟨_,_,rfl,rfl,hg8⟩ (X4o rfl rfl) ?_
  refine Ze (Xf rfl hg8 rfl)<|Zm rfl ?_
  refine Zg 18 rfl (fun hg9=>?_) (fun hg9=>?_)
  ·refine Zp ⟨_,_,rfl,rfl,hg9⟩ ?_
   refine Zp ⟨_,_,rfl,rfl,hg9⟩ ?_
   refine Zp ⟨_,_,rfl,rfl,hg9⟩ ?_
   refine Zp ⟨_,_,rfl,rfl,hg9⟩ ?_
   refine Zp ⟨_,_,rfl,rfl,hg9⟩ ?_
   refine Zp ⟨_,_,rfl,rfl,hg9⟩ ?_
   refine Zp ⟨_,_,rfl,rfl,hg9⟩ ?_
   refine Ze (Xg rfl hg9 rfl) ?_
   refine Zn fun a hf=>?_
   exact ⟨hf.sub ⟨rfl,rfl,X1 rfl (by first|rfl|(simp only [hg8,hg9,bs];done)|simp [hg8,hg9]),trivial⟩,rfl⟩
  refine Zv ⟨_,_,rfl,rfl,hg9⟩ (Vd rfl X0z 2) ?_
  refine Zv ⟨_,_,rfl,rfl,hg9⟩ (X0 rfl X22 (hB4.at 2)) ?_
  refine Zv ⟨_,_,rfl,rfl,hg9⟩ (X14 rfl X10) ?_
  refine Zv ⟨_,_,rfl,rfl,hg9⟩ (Vd rfl X0z 2) ?_
  refine Zv ⟨_,_,rfl,rfl,hg9⟩ (X0 rfl X22 (hB5.at 2)) ?_
  refine Zv ⟨_,_,rfl,rfl,hg9⟩ (X14 rfl X10) ?_
  refine Zv ⟨_,_,rfl,rfl,hg9⟩ (X4o rfl rfl) ?_
  refine Ze (Xf rfl hg9 rfl) ?_
  refine Zn fun a hf=>?_
  exact ⟨hf.sub ⟨rfl,rfl,X1 rfl (by first|rfl|(simp only [hg8,hg9,bs];done)|simp [hg8,hg9]),trivial⟩,rfl⟩
 rintro a _ ⟨hf,rfl⟩
 refine hK7 _ _ ?_
 refine Xm hf rfl (fun hc10=>?_) (fun hc10=>?_)
 ·have hc10b:=hc10
  have hfin:(decide (p.rows=q.rows)&&decide (p.cols=q.cols)&&decide (p.cells=q.cells))=false:=Xms hc10
  refine Zs hf fun _ hK11=>?_
  refine Za rfl ?_
  refine Zt hK11 fun a hf=>?_
  refine wp_ret ?_
  refine X7 ?_
  refine X2 hf (Xj hf rfl rfl) ?_
  exact ⟨by rw [hfin],hW⟩
 have hc10b:=hc10
 obtain ⟨e1,e2,e3⟩:=Xff hc10
 refine wp_skip ?_
 refine hK6 _ _ ?_
 refine wp_seq_k fun _ hK12=>?_
 refine Zs hf fun _ hK13=>?_
 refine Ze (Vd rfl X0z 2)<|Ze (X0 rfl X22 (hB4.at 2))<|Ze (X14 rfl X10)<|Zm rfl ?_
 refine Zt hK13 fun a hf=>?_
 refine wp_block ?_
 refine X0c (σ:=Nat) (fun (k:Nat) (a:Act) (w:World)=>Fr a 45 [(2,.pointer (some ⟨b4,0,none⟩)),(3,.pointer (some ⟨b5,0,none⟩)),(29,vi (p.cells.length:Int)),(30,vi (k:Int))]∧(k≤p.cells.length)∧(p.cells.take k=q.cells.take k)∧Blk w b4 38 [vi p.rows,vi p.cols,.slice Ap p.cells.length cp]∧Blk w b5 38 [vi q.rows,vi q.cols,.slice Aq q.cells.length cq]∧Below w0.heap.size w0 w) (fun (k:Nat)=>p.cells.length-k) 0 ?_ ?_
 ·exact ⟨hf.sub ⟨rfl,rfl,rfl,rfl,trivial⟩,(Nat.zero_le _),(by simp),hB4,hB5,hW⟩
 rintro k a w3 ⟨hf,hk,hpre,hB4,hB5,hW⟩
 refine Zs hf fun _ hK14=>?_
 refine Ze (X16 rfl rfl) ?_
 refine Zt hK14 fun a hf=>?_
 refine wp_seq_k fun _ hK15=>?_
 refine Xm hf rfl (fun hc16=>?_) (fun hc16=>?_)
 ·have hc16b:=hc16
  have hc16:=of_decide_eq_true hc16
  obtain ⟨u17,hu17⟩:=Xx (l:=p.cells) (k:=k) (by omega)
  obtain ⟨v9,hv9⟩:=Xx (l:=q.cells) (k:=k) (by omega)
  refine wp_skip ?_
  refine hK15 _ _ ?_
  refine wp_seq_k fun _ hK18=>?_
  refine wp_block ?_
  refine Zs hf fun _ hK19=>?_
  refine Zm rfl<|Za rfl ?_
  refine Zt hK19 fun a hf=>?_
  refine wp_seq_k fun _ hK20=>?_
  refine X0h none (fun _=>false) mixed ?_
  intro w4 hE
  replace hB4:=hB4.below hE
  replace hB5:=hB5.below hE
  replace hW:=btr hW hE
  refine Yb hf ?_
  refine Yo 0 rfl (fun _=>Vd rfl X0z 2)<|Ye 1 rfl (X0 rfl X22 (hB4.at 2))<|Yo 2 rfl (fun _=>X8 rfl) ?_
  refine Yi (k:=k) (u:=u17) (enc:=encD) (l:=p.cells) 3 rfl trivial rfl rfl X10 Xk X13 (hr_p.below' hW) hu17 rfl ?_;intro p22 hat21
  refine Ye 4 rfl (X0i (l:=[vi u17.num.a,vi u17.num.b,vi u17.num.c,vi u17.num.d,vi u17.exp]) rfl X9 hat21 rfl)<|Yo 5 rfl (fun _=>Vd rfl X0z 2)<|Ye 6 rfl (X0 rfl X22 (hB5.at 2))<|Yo 7 rfl (fun _=>X8 rfl) ?_
  refine Yi (k:=k) (u:=v9) (enc:=encD) (l:=q.cells) 8 rfl trivial rfl rfl X10 Xk X13 (hr_q.below' hW) hv9 rfl ?_;intro p24 hat23
  refine Ye 9 rfl (X0i (l:=[vi v9.num.a,vi v9.num.b,vi v9.num.c,vi v9.num.d,vi v9.exp]) rfl X9 hat23 rfl)<|Yo 10 rfl (fun _=>Xk0 rfl rfl Xgk (fun w=>eqD 9997 u17 v9 w)) ?_
  refine Yd fun a hf=>?_
  refine hK20 _ _ ?_
  refine Xm hf rfl (fun hc25=>?_) (fun hc25=>?_)
  ·have hc25b:=hc25
   have hfin:(decide (p.rows=q.rows)&&decide (p.cols=q.cols)&&decide (p.cells=q.cells))=false:=Xer hu17 hv9 (by simpa using hc25)
   refine Zs hf fun _ hK26=>?_
   refine Za rfl ?_
   refine Zt hK26 fun a hf=>?_
   refine wp_ret ?_
   refine X05 ?_
   refine X7 ?_
   refine X7 ?_
   refine X05 ?_
   refine X7 ?_
   refine X2 hf (Xj hf rfl rfl) ?_
   exact ⟨by rw [hfin],hW⟩
  have hc25b:=hc25
  have he9:u17=v9:=by simpa using hc25
  refine wp_skip ?_
  refine Xr ?_
  refine hK18 _ _ ?_
  refine Zr hf ?_
  refine Ze (X0a rfl rfl (by omega) (by omega))<|Zm rfl ?_
  refine Zn fun a hf=>?_
  refine Xz ?_
  exact ⟨k+1,⟨hf.sub ⟨rfl,rfl,rfl,rfl,trivial⟩,(by omega),(Xcm hpre hu17 hv9 he9),hB4,hB5,hW⟩,(by omega)⟩
 have hc16b:=hc16
 have hc16:=of_decide_eq_false hc16
 refine wp_exit ?_
 refine Xu ?_
 refine Xu ?_
 refine X0f ?_
 refine hK12 _ _ ?_
 refine Zs hf fun _ hK27=>?_
 refine Za rfl ?_
 refine Zt hK27 fun a hf=>?_
 refine wp_ret (X2 hf (Xj hf rfl rfl) ?_)
 have he:p.cells=q.cells:=by rw [List.take_of_length_le (by omega),List.take_of_length_le (by omega)] at hpre;exact hpre
 exact ⟨by simp [e1,e2,he],hW⟩
end Go.Proofs.YtlfjcmldfbfdbaaGreat
set_option maxRecDepth 4000
namespace Go.Proofs.YtlfjcmldfbfdbaaGreat
open Go.RowKit
theorem Xp3(w0:World)(Al:Option Addr)(cl:Nat)(l:List Int)(hr_l:Rd w0 w0.heap.size 3 encI Al l)(x:Int)(hln:l.length≤2305843009213693951) : Ret Tryz.prog 196 [.slice Al l.length cl,vi x] w0 (fun v w=>∃ i:Int,v=vi i∧decide (0≤i)=(l.any fun y=>x==y)∧Below w0.heap.size w0 w):=by
 refine enter Tryz.func196 rfl 19 rfl rfl ?_
 intro a hf
 have hW:Below w0.heap.size w0 w0:=Below.refl _ _
 refine Zs hf fun _ hK2=>?_
 refine Za rfl ?_
 refine Zt hK2 fun a hf=>?_
 refine wp_seq_k fun _ hK3=>?_
 refine Zs hf fun _ hK4=>?_
 refine Zm rfl<|Ze (X14 rfl X03)<|Zm rfl ?_
 refine Zt hK4 fun a hf=>?_
 refine wp_block ?_
 refine X0c (σ:=Nat) (fun (k:Nat) (a:Act) (w:World)=>Fr a 19 [(0,.slice Al l.length cl),(1,vi x),(7,vi (l.length:Int)),(8,vi (k:Int))]∧(k≤l.length)∧((l.take k).all (fun y=>!(x==y))=true)∧Below w0.heap.size w0 w) (fun (k:Nat)=>l.length+1-k) 0 ?_ ?_
 ·exact ⟨hf.sub ⟨rfl,rfl,rfl,rfl,trivial⟩,(Nat.zero_le _),(by simp),hW⟩
 rintro k a w1 ⟨hf,hk,hpre,hW⟩
 refine Zs hf fun _ hK5=>?_
 refine Ze (X16 rfl rfl) ?_
 refine Zt hK5 fun a hf=>?_
 refine wp_seq_k fun _ hK6=>?_
 refine Xm hf rfl (fun hc7=>?_) (fun hc7=>?_)
 ·have hc7b:=hc7
  have hc7:=of_decide_eq_true hc7
  obtain ⟨u8,hu8⟩:=Xx (l:=l) (k:=k) (by omega)
  refine wp_skip ?_
  refine hK6 _ _ ?_
  refine wp_seq_k fun _ hK9=>?_
  refine wp_block ?_
  refine Zs hf fun _ hK10=>?_
  refine Zm rfl<|Za rfl ?_
  refine Zt hK10 fun a hf=>?_
  refine Zs hf fun _ hK11=>?_
  refine Zm rfl<|Zm rfl<|Zm rfl ?_
  refine Zi (k:=k) (u:=u8) (enc:=encI) (l:=l) trivial rfl rfl X03 X1a Xp (hr_l.below' hW) hu8 rfl ?_;intro p13 hat12
  refine Ze (X0 rfl X3 hat12)<|Ze (X0n rfl rfl) ?_
  refine Zt hK11 fun a hf=>?_
  refine Xm hf rfl (fun hc14=>?_) (fun hc14=>?_)
  ·have hc14b:=hc14
   have hb2:l.any (fun y=>x==y)=true:=X2s hu8 hc14
   refine Zs hf fun _ hK15=>?_
   refine Zm rfl<|Za rfl ?_
   refine Zt hK15 fun a hf=>?_
   refine wp_ret ?_
   refine X05 ?_
   refine X7 ?_
   refine X7 ?_
   refine X05 ?_
   refine X7 ?_
   refine X2 hf (Xj hf rfl rfl) ?_
   exact ⟨_,rfl,by rw [hb2];simp,hW⟩
  have hc14b:=hc14
  have hok:(!(x==u8))=true:=by rw [hc14];rfl
  refine wp_skip ?_
  refine Xr ?_
  refine hK9 _ _ ?_
  refine Zr hf ?_
  refine Ze (X0a rfl rfl (by omega) (by omega))<|Zm rfl ?_
  refine Zn fun a hf=>?_
  refine Xz ?_
  exact ⟨k+1,⟨hf.sub ⟨rfl,rfl,rfl,rfl,trivial⟩,(by omega),(X1x hpre hu8 hok),hW⟩,(by omega)⟩
 have hc7b:=hc7
 have hc7:=of_decide_eq_false hc7
 refine wp_exit ?_
 refine Xu ?_
 refine Xu ?_
 refine X0f ?_
 refine hK3 _ _ ?_
 refine Zs hf fun _ hK16=>?_
 refine Za rfl ?_
 refine Zt hK16 fun a hf=>?_
 refine wp_ret (X2 hf (Xj hf rfl rfl) ?_)
 have hb2:l.any (fun y=>x==y)=false:=X2e (X1s hpre (by omega))
 exact ⟨_,rfl,by rw [hb2];rfl,hW⟩
theorem Xp2(w0:World)(Al:Option Addr)(cl:Nat)(l:List Int)(hr_l:Rd w0 w0.heap.size 3 encI Al l)(x:Int)(hln:l.length≤2305843009213693951) : Ret Tryz.prog 171 [.slice Al l.length cl,vi x] w0 (fun v w=>v=.bool (l.any fun y=>x==y)∧Below w0.heap.size w0 w):=by
 refine enter Tryz.func171 rfl 9 rfl rfl ?_
 intro a hf
 have hW:Below w0.heap.size w0 w0:=Below.refl _ _
 refine Zs hf fun _ hK2=>?_
 refine Za rfl ?_
 refine Zt hK2 fun a hf=>?_
 refine Zs hf fun _ hK3=>?_
 refine Zm rfl<|Zm rfl ?_
 refine Zf (Vc (Xp3 _ Al cl l (hr_l.below' hW).top x hln) Xk7) ?_;rintro _ w1 ⟨ix,rfl,hix,hE⟩
 replace hW:=btr hW hE
 refine Ze (Xgs rfl rfl)<|Za rfl ?_
 refine Zt hK3 fun a hf=>?_
 refine wp_ret (X2 hf (Xj hf rfl rfl) ?_)
 exact ⟨by rw [← hix],hW⟩
theorem Xpy(w0:World)(Al:Option Addr)(cl:Nat)(l:List Int)(hr_l:Rd w0 w0.heap.size 3 encI Al l)(kq:FuncId)(pq:List Value)(Fq:FuncF Tryz.prog kq)(q:Int→Bool)(hq:∀ x w,Below w0.heap.size w0 w→Ret Tryz.prog kq ([vi x]++pq) w (fun v w'=>v=.bool (q x)∧Below w.heap.size w w'))(hln:l.length≤2305843009213693951) : Ret Tryz.prog 195 [.slice Al l.length cl,.func (.func kq) #[] pq.toArray] w0 (fun v w=>∃ i:Int,v=vi i∧decide (0≤i)=l.any q∧Below w0.heap.size w0 w):=by
 refine enter Tryz.func195 rfl 19 rfl rfl ?_
 intro a hf
 have hW:Below w0.heap.size w0 w0:=Below.refl _ _
 refine Zs hf fun _ hK2=>?_
 refine Za rfl ?_
 refine Zt hK2 fun a hf=>?_
 refine wp_seq_k fun _ hK3=>?_
 refine Zs hf fun _ hK4=>?_
 refine Zm rfl<|Ze (X14 rfl X03)<|Zm rfl ?_
 refine Zt hK4 fun a hf=>?_
 refine wp_block ?_
 refine X0c (σ:=Nat) (fun (k:Nat) (a:Act) (w:World)=>Fr a 19 [(0,.slice Al l.length cl),(1,.func (.func kq) #[] pq.toArray),(7,vi (l.length:Int)),(8,vi (k:Int))]∧(k≤l.length)∧((l.take k).all (fun x=>!q x)=true)∧Below w0.heap.size w0 w) (fun (k:Nat)=>l.length+1-k) 0 ?_ ?_
 ·exact ⟨hf.sub ⟨rfl,rfl,rfl,rfl,trivial⟩,(Nat.zero_le _),(by simp),hW⟩
 rintro k a w1 ⟨hf,hk,hpre,hW⟩
 refine Zs hf fun _ hK5=>?_
 refine Ze (X16 rfl rfl) ?_
 refine Zt hK5 fun a hf=>?_
 refine wp_seq_k fun _ hK6=>?_
 refine Xm hf rfl (fun hc7=>?_) (fun hc7=>?_)
 ·have hc7b:=hc7
  have hc7:=of_decide_eq_true hc7
  obtain ⟨u8,hu8⟩:=Xx (l:=l) (k:=k) (by omega)
  refine wp_skip ?_
  refine hK6 _ _ ?_
  refine wp_seq_k fun _ hK9=>?_
  refine wp_block ?_
  refine Zs hf fun _ hK10=>?_
  refine Zm rfl<|Za rfl ?_
  refine Zt hK10 fun a hf=>?_
  refine Zs hf fun _ hK11=>?_
  refine Zm rfl<|Zm rfl<|Zm rfl ?_
  refine Zi (k:=k) (u:=u8) (enc:=encI) (l:=l) trivial rfl rfl X03 X1a Xp (hr_l.below' hW) hu8 rfl ?_;intro p13 hat12
  refine Ze (X0 rfl X3 hat12) ?_
  refine Zf (X5n (cs:=pq) (vs:=[vi u8]) rfl rfl Fq (hq u8 _ hW)) ?_;rintro _ w2 ⟨rfl,hE⟩
  replace hW:=btr hW hE
  refine Zt hK11 fun a hf=>?_
  refine Xm hf rfl (fun hc14=>?_) (fun hc14=>?_)
  ·have hc14b:=hc14
   have hb2:l.any q=true:=X2s hu8 hc14
   refine Zs hf fun _ hK15=>?_
   refine Zm rfl<|Za rfl ?_
   refine Zt hK15 fun a hf=>?_
   refine wp_ret ?_
   refine X05 ?_
   refine X7 ?_
   refine X7 ?_
   refine X05 ?_
   refine X7 ?_
   refine X2 hf (Xj hf rfl rfl) ?_
   exact ⟨_,rfl,by rw [hb2];simp,hW⟩
  have hc14b:=hc14
  have hok:(!q u8)=true:=by revert hc14;cases q u8<;>simp
  refine wp_skip ?_
  refine Xr ?_
  refine hK9 _ _ ?_
  refine Zr hf ?_
  refine Ze (X0a rfl rfl (by omega) (by omega))<|Zm rfl ?_
  refine Zn fun a hf=>?_
  refine Xz ?_
  exact ⟨k+1,⟨hf.sub ⟨rfl,rfl,rfl,rfl,trivial⟩,(by omega),(X1x hpre hu8 hok),hW⟩,(by omega)⟩
 have hc7b:=hc7
 have hc7:=of_decide_eq_false hc7
 refine wp_exit ?_
 refine Xu ?_
 refine Xu ?_
 refine X0f ?_
 refine hK3 _ _ ?_
 refine Zs hf fun _ hK16=>?_
 refine Za rfl ?_
 refine Zt hK16 fun a hf=>?_
 refine wp_ret (X2 hf (Xj hf rfl rfl) ?_)
 have hb2:l.any q=false:=X2e (X1s hpre (by omega))
 exact ⟨_,rfl,by rw [hb2];rfl,hW⟩
theorem Xpu(w0:World)(Al:Option Addr)(cl:Nat)(l:List Int)(hr_l:Rd w0 w0.heap.size 3 encI Al l)(kq:FuncId)(pq:List Value)(Fq:FuncF Tryz.prog kq)(q:Int→Bool)(hq:∀ x w,Below w0.heap.size w0 w→Ret Tryz.prog kq ([vi x]++pq) w (fun v w'=>v=.bool (q x)∧Below w.heap.size w w'))(hln:l.length≤2305843009213693951) : Ret Tryz.prog 169 [.slice Al l.length cl,.func (.func kq) #[] pq.toArray] w0 (fun v w=>v=.bool (l.any q)∧Below w0.heap.size w0 w):=by
 refine enter Tryz.func169 rfl 9 rfl rfl ?_
 intro a hf
 have hW:Below w0.heap.size w0 w0:=Below.refl _ _
 refine Zs hf fun _ hK2=>?_
 refine Za rfl ?_
 refine Zt hK2 fun a hf=>?_
 refine Zs hf fun _ hK3=>?_
 refine Zm rfl<|Zm rfl ?_
 refine Zf (Vc (Xpy _ Al cl l (hr_l.below' hW).top kq pq Fq q (fun x w' hE'=>hq x w' (hW.trans (hE'.mono hW.size))) hln) Xmy) ?_;rintro _ w1 ⟨ix,rfl,hix,hE⟩
 replace hW:=btr hW hE
 refine Ze (Xgs rfl rfl)<|Za rfl ?_
 refine Zt hK3 fun a hf=>?_
 refine wp_ret (X2 hf (Xj hf rfl rfl) ?_)
 exact ⟨by rw [← hix],hW⟩
theorem Xpe(w0:World)(x:Int)(h:Gt)(ba:Nat)(hBa:Blk w0 ba 24 [vi h.k,vi h.a,vi h.b]) : Ret Tryz.prog 170 [vi x,.pointer (some ⟨ba,0,none⟩)] w0 (fun v w=>v=.bool ((qubI h).any fun y=>x==y)∧Below w0.heap.size w0 w):=by
 have hltba:=hBa.lt
 refine enter Tryz.func170 rfl 8 rfl rfl ?_
 intro a hf
 have hW:Below w0.heap.size w0 w0:=Below.refl _ _
 refine Zs hf fun _ hK1=>?_
 refine Za rfl ?_
 refine Zt hK1 fun a hf=>?_
 refine Zs hf fun _ hK2=>?_
 refine Ze (X0i (l:=[vi h.k,vi h.a,vi h.b]) rfl Xo (hBa.at 0) rfl) ?_
 refine Zf (Vc (F96 _ h) X5z) ?_;rintro _ w1 ⟨A3,c3,rfl,ho3,hE⟩
 replace ho3:=ho3.lower hW.size
 replace hBa:=hBa.below hE
 replace hW:=btr hW hE
 refine Zm rfl ?_
 refine Zf (Vc (Xp2 _ A3 c3 (qubI h) ho3.rd.top x (by have:=X20 h;omega)) Xly) ?_;rintro _ w2 ⟨rfl,hE⟩
 replace hBa:=hBa.below hE
 replace ho3:=ho3.below hE
 replace hW:=btr hW hE
 refine Za rfl ?_
 refine Zt hK2 fun a hf=>?_
 refine wp_ret (X2 hf (Xj hf rfl rfl) ?_)
 exact ⟨rfl,hW⟩
theorem Xpp(w0:World)(g:Gt)(h:Gt) : Ret Tryz.prog 121 [.agg #[vi g.k,vi g.a,vi g.b],.agg #[vi h.k,vi h.a,vi h.b]] w0 (fun v w=>v=.bool (comI g h)∧Below w0.heap.size w0 w):=by
 refine enter Tryz.func121 rfl 9 rfl rfl ?_
 intro a hf
 have hW:Below w0.heap.size w0 w0:=Below.refl _ _
 refine Zs hf fun _ hK1=>?_
 refine Zf (X0j (zs:=[vi g.k,vi g.a,vi g.b]) rfl rfl) ?_;rintro _ w1 ⟨b2,rfl,hl2,hE,hB2⟩
 have hlo2:=Nat.le_trans hW.size hl2
 replace hW:=btr hW hE
 refine Zf (X0j (zs:=[vi h.k,vi h.a,vi h.b]) rfl rfl) ?_;rintro _ w2 ⟨b3,rfl,hl3,hE,hB3⟩
 have hne2_3:b2≠b3:=by have:=hB2.lt;omega
 have hlo3:=Nat.le_trans hW.size hl3
 replace hB2:=hB2.below hE
 replace hW:=btr hW hE
 refine Za rfl ?_
 refine Zt hK1 fun a hf=>?_
 refine Zs hf fun _ hK4=>?_
 refine Ze (Vn Xo hB2) ?_
 refine Zf (Vc (F96 _ g) X5z) ?_;rintro _ w3 ⟨A5,c5,rfl,ho5,hE⟩
 replace ho5:=ho5.lower hW.size
 replace hB2:=hB2.below hE
 replace hB3:=hB3.below hE
 replace hW:=btr hW hE
 refine Ze (X3x (vs:=[.pointer (some ⟨b3,0,none⟩)]) rfl) ?_
 refine Zf (Vc (Xpu _ A5 c5 (qubI g) ho5.rd.top 170 [.pointer (some ⟨b3,0,none⟩)] Xk2 (fun x=>(qubI h).any fun y=>x==y) (fun x w' hE'=>Xpe w' x h _ (hB3.below hE')) (by have:=X20 g;omega)) Xl7) ?_;rintro _ w4 ⟨rfl,hE⟩
 replace hB2:=hB2.below hE
 replace hB3:=hB3.below hE
 replace ho5:=ho5.below hE
 replace hW:=btr hW hE
 refine Za rfl ?_
 refine Zt hK4 fun a hf=>?_
 refine wp_ret (X2 hf (Xj hf rfl rfl) ?_)
 exact ⟨rfl,hW⟩
end Go.Proofs.YtlfjcmldfbfdbaaGreat
set_option maxHeartbeats 1000000
set_option maxRecDepth 4000
namespace Go.Proofs.YtlfjcmldfbfdbaaGreat
open Go.RowKit
theorem Xq0(w0:World)(g:Gt)(h:Gt)(n:Int)(hg:gOk n g=true)(hh:gOk n h=true) : Ret Tryz.prog 55 [.agg #[vi g.k,vi g.a,vi g.b],.agg #[vi h.k,vi h.a,vi h.b]] w0 (fun v w=>v=.bool (commS g h)∧Below w0.heap.size w0 w):=by
 have hql:=X20 g
 have hqh:=X20 h
 refine enter Tryz.func55 rfl 52 rfl rfl ?_
 intro a hf
 have hW:Below w0.heap.size w0 w0:=Below.refl _ _
 refine Zs hf fun _ hK1=>?_
 refine Zf (X0j (zs:=[vi g.k,vi g.a,vi g.b]) rfl rfl) ?_;rintro _ w1 ⟨b2,rfl,hl2,hE,hB2⟩
 have hlo2:=Nat.le_trans hW.size hl2
 replace hW:=btr hW hE
 refine Zf (X0j (zs:=[vi h.k,vi h.a,vi h.b]) rfl rfl) ?_;rintro _ w2 ⟨b3,rfl,hl3,hE,hB3⟩
 have hne2_3:b2≠b3:=by have:=hB2.lt;omega
 have hlo3:=Nat.le_trans hW.size hl3
 replace hB2:=hB2.below hE
 replace hW:=btr hW hE
 refine Za rfl ?_
 refine Zt hK1 fun a hf=>?_
 refine wp_seq_k fun _ hK4=>?_
 refine Zs hf fun _ hK5=>?_
 refine Ze (Vn Xo hB2)<|Ze (Vn Xo hB3) ?_
 refine Zf (Vc (Xo1 _ g h) Xfr) ?_;rintro _ w3 ⟨rfl,hE⟩
 replace hB2:=hB2.below hE
 replace hB3:=hB3.below hE
 replace hW:=btr hW hE
 refine Ze (X15 rfl) ?_
 refine Zt hK5 fun a hf=>?_
 refine Xm hf rfl (fun hc6=>?_) (fun hc6=>?_)
 ·have hc6b:=hc6
  have hfin:commS g h=true:=by rw [commS,if_neg];revert hc6;cases comS g h<;>simp
  refine Zs hf fun _ hK7=>?_
  refine Za rfl ?_
  refine Zt hK7 fun a hf=>?_
  refine wp_ret ?_
  refine X7 ?_
  refine X2 hf (Xj hf rfl rfl) ?_
  exact ⟨by rw [hfin],hW⟩
 have hc6b:=hc6
 have hc:comS g h=true:=by revert hc6;cases comS g h<;>simp
 refine wp_skip ?_
 refine hK4 _ _ ?_
 refine Zs hf fun _ hK8=>?_
 refine Za rfl ?_
 refine Zt hK8 fun a hf=>?_
 refine wp_seq_k fun _ hK10=>?_
 refine wp_seq_k fun _ hK11=>?_
 refine X0h none (fun j=>[4].contains j) mixed ?_
 intro w4 hE
 replace hB2:=hB2.below hE
 replace hB3:=hB3.below hE
 replace hW:=btr hW hE
 refine Yb hf ?_
 refine Ye 0 rfl (Vn Xo hB2)<|Ye 2 rfl (Vn Xo hB3)<|Yo 6 rfl (fun _=>X8 rfl) ?_
 refine Y1 1 ?_
 refine Yk rfl trivial (Vc (Xj1 _ g) X99) (fun _ _ ⟨A12,c12,_,ho12,hE⟩=>hE) ?_;rintro _ w5 ⟨A12,c12,rfl,ho12,hE⟩
 replace ho12:=ho12.lower hW.size
 replace hB2:=hB2.below hE
 replace hB3:=hB3.below hE
 replace hW:=btr hW hE
 refine Y1 3 ?_
 refine Yk rfl trivial (Vc (Xj1 _ h) X99) (fun _ _ ⟨A13,c13,_,ho13,hE⟩=>hE) ?_;rintro _ w6 ⟨A13,c13,rfl,ho13,hE⟩
 replace ho13:=ho13.lower hW.size
 replace hB2:=hB2.below hE
 replace hB3:=hB3.below hE
 replace ho12:=ho12.below hE
 replace hW:=btr hW hE
 refine Y1 4 ?_
 refine Yt rfl trivial rfl (X1e (enc:=encI) (l:=((qubI g))) (l2:=((qubI h))) (B0:=w0.heap.size) rfl rfl X03 X18 Xp X1n ho12 ho13.rd (by simp only [maxLen];omega) (by omega) hW.size) ?_;rintro _ w7 ⟨A14,c14,rfl,ho14,hg,hat⟩
 have hown:Own _ w0.heap.size 3 1 encI _ _ ((qubI g)):=ho12
 clear hat
 replace hB2:=hB2.appT hown hg rfl
 replace hB3:=hB3.appT hown hg rfl
 replace hW:=Below.app hW hown hg (Nat.le_refl _) hW.size
 clear hown hg
 refine Yo 5 rfl (fun _=>X14 rfl X03) ?_
 refine Yd fun a hf=>?_
 refine hK11 _ _ ?_
 refine wp_block ?_
 refine X0c (σ:=Nat×(List Int)) (fun (s:Nat×(List Int)) (a:Act) (w:World)=>match s with|(k,m)=>∃ A15 c15,Fr a 52 [(2,.pointer (some ⟨b2,0,none⟩)),(3,.pointer (some ⟨b3,0,none⟩)),(5,.slice A15 m.length c15),(19,.slice A14 ((qubI g)++(qubI h)).length c14),(20,vi (((qubI g)++(qubI h)).length:Int)),(21,vi (k:Int))]∧(k≤(qubI g++qubI h).length)∧(m=((qubI g++qubI h).take k).foldl putI [])∧Blk w b2 24 [vi g.k,vi g.a,vi g.b]∧Blk w b3 24 [vi h.k,vi h.a,vi h.b]∧Own w w0.heap.size 3 1 encI A15 c15 m∧Own w w0.heap.size 3 1 encI A14 c14 ((qubI g)++(qubI h))∧Below w0.heap.size w0 w) (fun (s:Nat×(List Int))=>match s with|(k,m)=>(qubI g++qubI h).length-k) (0,[]) ?_ ?_
 ·exact ⟨none,0,hf.sub ⟨rfl,rfl,rfl,rfl,rfl,rfl,trivial⟩,(Nat.zero_le _),rfl,hB2,hB3,(Own.nil _ _ _ _ _),ho14,hW⟩
 rintro ⟨k,m⟩ a w8 ⟨A15,c15,hf,hk,hm,hB2,hB3,ho15,ho14,hW⟩
 have hqq:(qubI g++qubI h).length≤4:=by rw [List.length_append];omega
 have hml:m.length≤4:=by have:=Xao ((qubI g++qubI h).take k) [];rw [← hm,List.length_take] at this;simp only [List.length_nil] at this;omega
 refine Zs hf fun _ hK16=>?_
 refine Ze (X16 rfl rfl) ?_
 refine Zt hK16 fun a hf=>?_
 refine wp_seq_k fun _ hK17=>?_
 refine Xm hf rfl (fun hc18=>?_) (fun hc18=>?_)
 ·have hc18b:=hc18
  have hc18:=of_decide_eq_true hc18
  obtain ⟨u19,hu19⟩:=Xx (l:=((qubI g)++(qubI h))) (k:=k) (by omega)
  have hst:=Xbh (f:=putI) (b:=[]) hu19
  refine wp_skip ?_
  refine hK17 _ _ ?_
  refine wp_seq_k fun _ hK20=>?_
  refine wp_block ?_
  refine Zs hf fun _ hK21=>?_
  refine Zi (k:=k) (u:=u19) (enc:=encI) (l:=(qubI g)++(qubI h)) trivial rfl rfl X03 X1a Xp ho14.rd hu19 rfl ?_;intro p23 hat22
  refine Ze (X0 rfl X3 hat22)<|Za rfl ?_
  refine Zt hK21 fun a hf=>?_
  refine Zr hf ?_
  refine Zm rfl<|Zm rfl ?_
  refine Zf (Vc (Xq8 _ A15 c15 m ho15.rd.top u19 w0.heap.size ho15 hW.size (by omega)) Xlo) ?_;rintro _ w9 ⟨A24,c24,rfl,ho24,hE⟩
  replace hB2:=hB2.below hE
  replace hB3:=hB3.below hE
  replace ho15:=ho15.below hE
  replace ho14:=ho14.below hE
  replace hW:=btr hW hE
  refine Za rfl ?_
  refine Zn fun a hf=>?_
  refine Xr ?_
  refine hK20 _ _ ?_
  refine Zr hf ?_
  refine Ze (X0a rfl rfl (by omega) (by omega))<|Zm rfl ?_
  refine Zn fun a hf=>?_
  refine Xz ?_
  exact ⟨(k+1,(putI m u19)),⟨A24,c24,hf.sub ⟨rfl,rfl,rfl,rfl,rfl,rfl,trivial⟩,(by omega),(by rw [hst,← hm]),hB2,hB3,ho24,ho14,hW⟩,(by first|omega|(dsimp only;omega))⟩
 have hc18b:=hc18
 have hc18:=of_decide_eq_false hc18
 have hU:unionS g h=m:=by rw [hm,List.take_of_length_le (by omega)];rfl
 have P:PairOk m g h:=X6k hg hh (X2q.1 hc) (hU▸X2c g h) (fun x=>by rw [← hU];exact X1c)
 have hlm:m.length≤2305843009213693951:=Nat.le_trans P.len (by decide)
 have hm1:=(X0x P.gs).2
 have hm2:=(X0x P.hs).2
 refine wp_exit ?_
 refine Xu ?_
 refine Xu ?_
 refine X0f ?_
 refine hK10 _ _ ?_
 refine Zs hf fun _ hK25=>?_
 refine Ze (Xt (ps:=[]) (cs:=[.bool false]) rfl (fun _=>by first|rfl|kernel_rfl)) ?_
 refine Zf (X0j (zs:=[.bool false]) rfl rfl) ?_;rintro _ w10 ⟨b26,rfl,hl26,hE,hB26⟩
 have hlo26:=Nat.le_trans hW.size hl26
 replace hB2:=hB2.below hE
 replace hB3:=hB3.below hE
 replace ho15:=ho15.below hE
 replace ho14:=ho14.below hE
 replace hW:=btr hW hE
 refine Za rfl ?_
 refine Zt hK25 fun a hf=>?_
 refine wp_seq_k fun _ hK27=>?_
 refine X0g (fun a w=>∃ b31 b33 A28 c28 A29 c29,Fr a 52 [(8,.pointer (some ⟨b26,0,none⟩)),(9,.pointer (some ⟨b31,0,none⟩)),(10,.pointer (some ⟨b33,0,none⟩))]∧w0.heap.size≤b31∧Blk w b31 38 [vi ((gateS (m.length:Int) (smallG m g)).rows),vi ((gateS (m.length:Int) (smallG m g)).cols),.slice A28 ((gateS (m.length:Int) (smallG m g)).cells).length c28]∧w0.heap.size≤b33∧Blk w b33 38 [vi ((gateS (m.length:Int) (smallG m h)).rows),vi ((gateS (m.length:Int) (smallG m h)).cols),.slice A29 ((gateS (m.length:Int) (smallG m h)).cells).length c29]∧Own w w0.heap.size 98 5 encD A28 c28 ((gateS (m.length:Int) (smallG m g)).cells)∧Own w w0.heap.size 98 5 encD A29 c29 ((gateS (m.length:Int) (smallG m h)).cells)∧Below w10.heap.size w10 w) ?_ ?_
 ·have hEc:Below w10.heap.size w10 w10:=Below.refl _ _
  refine X0h none (fun j=>[14,15].contains j) mixed ?_
  intro w11 hE
  replace hB2:=hB2.below hE
  replace hB3:=hB3.below hE
  replace hB26:=hB26.below hE
  replace ho15:=ho15.below hE
  replace hW:=btr hW hE
  replace hEc:=btr hEc hE
  refine Yb hf ?_
  refine Yo 0 rfl (fun _=>X8 rfl)<|Yo 1 rfl (fun _=>X14 rfl X03)<|Ye 2 rfl (Vn Xo hB2)<|Yo 3 rfl (fun _=>X8 rfl)<|Yo 6 rfl (fun _=>X8 rfl) ?_
  refine Yo 7 rfl (fun _=>X14 rfl X03)<|Ye 8 rfl (Vn Xo hB3)<|Yo 9 rfl (fun _=>X8 rfl) ?_
  have hJc:Below w11.heap.size w11 w11:=Below.refl _ _
  refine Yc [0,1,2,3,4,5,6,7,8,9,10,11,12,13] 2 (fun a w=>∃ b31 b33 A28 c28 A29 c29,Fr a 52 [(8,.pointer (some ⟨b26,0,none⟩)),(9,.pointer (some ⟨b31,0,none⟩)),(10,.pointer (some ⟨b33,0,none⟩)),(36,.agg #[vi ((gateS (m.length:Int) (smallG m g)).rows),vi ((gateS (m.length:Int) (smallG m g)).cols),.slice A28 ((gateS (m.length:Int) (smallG m g)).cells).length c28]),(42,.agg #[vi ((gateS (m.length:Int) (smallG m h)).rows),vi ((gateS (m.length:Int) (smallG m h)).cols),.slice A29 ((gateS (m.length:Int) (smallG m h)).cells).length c29])]∧w0.heap.size≤b31∧Blk w b31 38 [vi 0,vi 0,.slice none 0 0]∧w0.heap.size≤b33∧Blk w b33 38 [vi 0,vi 0,.slice none 0 0]∧b31≠b33∧w11.heap.size≤b31∧w10.heap.size≤b31∧w11.heap.size≤b33∧w10.heap.size≤b33∧Own w w0.heap.size 98 5 encD A28 c28 ((gateS (m.length:Int) (smallG m g)).cells)∧Own w w0.heap.size 98 5 encD A29 c29 ((gateS (m.length:Int) (smallG m h)).cells)∧Below w11.heap.size w11 w) ?_ ?_
  ·rintro a w12 ⟨b31,b33,A28,c28,A29,c29,hf,hlo31,hB31,hlo33,hB33,hne31_33,hlj31,hlc31,hlj33,hlc33,ho28,ho29,hE⟩
   clear hJc
   have hJc:=hE
   replace hB2:=hB2.below hE
   replace hB3:=hB3.below hE
   replace hB26:=hB26.below hE
   replace ho15:=ho15.below hE
   replace hW:=btr hW hE
   replace hEc:=btr hEc hE
   refine Yb hf ?_
   refine Y1 14 ?_
   refine Yh rfl trivial rfl (Vw [vi ((gateS (m.length:Int) (smallG m g)).rows),vi ((gateS (m.length:Int) (smallG m g)).cols),.slice A28 ((gateS (m.length:Int) (smallG m g)).cells).length c28] X0u hB31) ?_;rintro _ w13 ⟨ho,hb⟩
   have hold:=hB31
   replace hB2:=hB2.only ho (Blk.ne hB2 hold rfl)
   replace hB3:=hB3.only ho (Blk.ne hB3 hold rfl)
   replace hB26:=hB26.only ho (Blk.ne hB26 hold rfl)
   replace hB33:=hB33.only ho (by omega)
   replace ho15:=ho15.onlyT ho hold rfl
   replace ho28:=ho28.onlyT ho hold rfl
   replace ho29:=ho29.onlyT ho hold rfl
   replace hEc:=Below.only hEc ho hlc31
   replace hJc:=Below.only hJc ho hlj31
   replace hW:=Below.only hW ho hlo31
   clear hold
   have hB31:=hb
   clear hb ho
   refine Y1 15 ?_
   refine Yh rfl trivial rfl (Vw [vi ((gateS (m.length:Int) (smallG m h)).rows),vi ((gateS (m.length:Int) (smallG m h)).cols),.slice A29 ((gateS (m.length:Int) (smallG m h)).cells).length c29] X0u hB33) ?_;rintro _ w14 ⟨ho,hb⟩
   have hold:=hB33
   replace hB2:=hB2.only ho (Blk.ne hB2 hold rfl)
   replace hB3:=hB3.only ho (Blk.ne hB3 hold rfl)
   replace hB26:=hB26.only ho (Blk.ne hB26 hold rfl)
   replace hB31:=hB31.only ho (by omega)
   replace ho15:=ho15.onlyT ho hold rfl
   replace ho28:=ho28.onlyT ho hold rfl
   replace ho29:=ho29.onlyT ho hold rfl
   replace hEc:=Below.only hEc ho hlc33
   replace hJc:=Below.only hJc ho hlj33
   replace hW:=Below.only hW ho hlo33
   clear hold
   have hB33:=hb
   clear hb ho
   refine Yd fun a hf=>?_
   have hEE:Below w10.heap.size w10 w14:=hEc
   exact ⟨b31,b33,A28,c28,A29,c29,hf.sub ⟨rfl,rfl,rfl,trivial⟩,hlo31,hB31,hlo33,hB33,ho28,ho29,hEE⟩
  intro hJ28
  refine Yc [0,1,2,3,4,5,6,7,8,9,10,11,12] 3 (fun a w=>∃ b31 A28 c28 A29 c29,Fr a 52 [(8,.pointer (some ⟨b26,0,none⟩)),(9,.pointer (some ⟨b31,0,none⟩)),(36,.agg #[vi ((gateS (m.length:Int) (smallG m g)).rows),vi ((gateS (m.length:Int) (smallG m g)).cols),.slice A28 ((gateS (m.length:Int) (smallG m g)).cells).length c28]),(42,.agg #[vi ((gateS (m.length:Int) (smallG m h)).rows),vi ((gateS (m.length:Int) (smallG m h)).cols),.slice A29 ((gateS (m.length:Int) (smallG m h)).cells).length c29])]∧w0.heap.size≤b31∧Blk w b31 38 [vi 0,vi 0,.slice none 0 0]∧w11.heap.size≤b31∧w10.heap.size≤b31∧Own w w0.heap.size 98 5 encD A28 c28 ((gateS (m.length:Int) (smallG m g)).cells)∧Own w w0.heap.size 98 5 encD A29 c29 ((gateS (m.length:Int) (smallG m h)).cells)∧Below w11.heap.size w11 w) ?_ ?_
  ·rintro a w15 ⟨b31,A28,c28,A29,c29,hf,hlo31,hB31,hlj31,hlc31,ho28,ho29,hE⟩
   clear hJc
   have hJc:=hE
   replace hB2:=hB2.below hE
   replace hB3:=hB3.below hE
   replace hB26:=hB26.below hE
   replace ho15:=ho15.below hE
   replace hW:=btr hW hE
   replace hEc:=btr hEc hE
   refine Yb hf ?_
   refine Y1 13 ?_
   refine Yk rfl trivial (X6 (zs:=[vi 0,vi 0,.slice none 0 0]) X0p rfl) (fun _ _ ⟨_,_,_,h,_⟩=>h) ?_;rintro _ w16 ⟨b33,rfl,hl33,hE,hB33⟩
   have hne31_33:b31≠b33:=by have:=hB31.lt;omega
   have hlo33:=Nat.le_trans hW.size hl33
   have hlc33:=Nat.le_trans hEc.size hl33
   have hlj33:=Nat.le_trans hJc.size hl33
   replace hB2:=hB2.below hE
   replace hB3:=hB3.below hE
   replace hB26:=hB26.below hE
   replace hB31:=hB31.below hE
   replace ho15:=ho15.below hE
   replace ho28:=ho28.below hE
   replace ho29:=ho29.below hE
   replace hW:=btr hW hE
   replace hEc:=btr hEc hE
   replace hJc:=btr hJc hE
   exact fun a hf=>hJ28 _ a _ rfl ⟨b31,b33,A28,c28,A29,c29,hf.sub ⟨rfl,rfl,rfl,rfl,rfl,trivial⟩,hlo31,hB31,hlo33,hB33,hne31_33,hlj31,hlc31,hlj33,hlc33,ho28,ho29,hJc⟩
  intro hJ30
  refine Yc [0,1,2,3,4,5,6,7,8,9,10,11,13] 3 (fun a w=>∃ b35 A28 c28 A29 c29,Fr a 52 [(8,.pointer (some ⟨b26,0,none⟩)),(10,.pointer (some ⟨b35,0,none⟩)),(36,.agg #[vi ((gateS (m.length:Int) (smallG m g)).rows),vi ((gateS (m.length:Int) (smallG m g)).cols),.slice A28 ((gateS (m.length:Int) (smallG m g)).cells).length c28]),(42,.agg #[vi ((gateS (m.length:Int) (smallG m h)).rows),vi ((gateS (m.length:Int) (smallG m h)).cols),.slice A29 ((gateS (m.length:Int) (smallG m h)).cells).length c29])]∧w0.heap.size≤b35∧Blk w b35 38 [vi 0,vi 0,.slice none 0 0]∧w11.heap.size≤b35∧w10.heap.size≤b35∧Own w w0.heap.size 98 5 encD A28 c28 ((gateS (m.length:Int) (smallG m g)).cells)∧Own w w0.heap.size 98 5 encD A29 c29 ((gateS (m.length:Int) (smallG m h)).cells)∧Below w11.heap.size w11 w) ?_ ?_
  ·rintro a w17 ⟨b35,A28,c28,A29,c29,hf,hlo35,hB35,hlj35,hlc35,ho28,ho29,hE⟩
   clear hJc
   have hJc:=hE
   replace hB2:=hB2.below hE
   replace hB3:=hB3.below hE
   replace hB26:=hB26.below hE
   replace ho15:=ho15.below hE
   replace hW:=btr hW hE
   replace hEc:=btr hEc hE
   refine Yb hf ?_
   refine Y1 12 ?_
   refine Yk rfl trivial (X6 (zs:=[vi 0,vi 0,.slice none 0 0]) X0p rfl) (fun _ _ ⟨_,_,_,h,_⟩=>h) ?_;rintro _ w18 ⟨b37,rfl,hl37,hE,hB37⟩
   have hne35_37:b35≠b37:=by have:=hB35.lt;omega
   have hlo37:=Nat.le_trans hW.size hl37
   have hlc37:=Nat.le_trans hEc.size hl37
   have hlj37:=Nat.le_trans hJc.size hl37
   replace hB2:=hB2.below hE
   replace hB3:=hB3.below hE
   replace hB26:=hB26.below hE
   replace hB35:=hB35.below hE
   replace ho15:=ho15.below hE
   replace ho28:=ho28.below hE
   replace ho29:=ho29.below hE
   replace hW:=btr hW hE
   replace hEc:=btr hEc hE
   replace hJc:=btr hJc hE
   exact fun a hf=>hJ28 _ a _ rfl ⟨b37,b35,A28,c28,A29,c29,hf.sub ⟨rfl,rfl,rfl,rfl,rfl,trivial⟩,hlo37,hB37,hlo35,hB35,(Ne.symm hne35_37),hlj37,hlc37,hlj35,hlc35,ho28,ho29,hJc⟩
  intro hJ34
  refine Yc [0,1,2,3,4,5,6,7,8,9,10,12,13] 3 (fun a w=>∃ b39 b42 A28 c28,Fr a 52 [(8,.pointer (some ⟨b26,0,none⟩)),(9,.pointer (some ⟨b39,0,none⟩)),(10,.pointer (some ⟨b42,0,none⟩)),(36,.agg #[vi ((gateS (m.length:Int) (smallG m g)).rows),vi ((gateS (m.length:Int) (smallG m g)).cols),.slice A28 ((gateS (m.length:Int) (smallG m g)).cells).length c28]),(38,vi (m.length:Int)),(41,.agg #[vi ((smallG m h).k),vi ((smallG m h).a),vi ((smallG m h).b)])]∧w0.heap.size≤b39∧Blk w b39 38 [vi 0,vi 0,.slice none 0 0]∧w0.heap.size≤b42∧Blk w b42 38 [vi 0,vi 0,.slice none 0 0]∧b39≠b42∧w11.heap.size≤b39∧w10.heap.size≤b39∧w11.heap.size≤b42∧w10.heap.size≤b42∧Own w w0.heap.size 98 5 encD A28 c28 ((gateS (m.length:Int) (smallG m g)).cells)∧Below w11.heap.size w11 w) ?_ ?_
  ·rintro a w19 ⟨b39,b42,A28,c28,hf,hlo39,hB39,hlo42,hB42,hne39_42,hlj39,hlc39,hlj42,hlc42,ho28,hE⟩
   clear hJc
   have hJc:=hE
   replace hB2:=hB2.below hE
   replace hB3:=hB3.below hE
   replace hB26:=hB26.below hE
   replace ho15:=ho15.below hE
   replace hW:=btr hW hE
   replace hEc:=btr hEc hE
   refine Yb hf ?_
   refine Y1 11 ?_
   refine Yk rfl trivial (Vc (X9u _ (m.length:Int) (smallG m h) P.hs) X3o) (fun _ _ ⟨A40,c40,_,ho40,hE⟩=>hE) ?_;rintro _ w20 ⟨A40,c40,rfl,ho40,hE⟩
   replace ho40:=ho40.lower hW.size
   replace hB2:=hB2.below hE
   replace hB3:=hB3.below hE
   replace hB26:=hB26.below hE
   replace hB39:=hB39.below hE
   replace hB42:=hB42.below hE
   replace ho15:=ho15.below hE
   replace ho28:=ho28.below hE
   replace hW:=btr hW hE
   replace hEc:=btr hEc hE
   replace hJc:=btr hJc hE
   exact fun a hf=>hJ28 _ a _ rfl ⟨b39,b42,A28,c28,A40,c40,hf.sub ⟨rfl,rfl,rfl,rfl,rfl,trivial⟩,hlo39,hB39,hlo42,hB42,hne39_42,hlj39,hlc39,hlj42,hlc42,ho28,ho40,hJc⟩
  intro hJ38
  refine Yc [0,1,2,3,4,5,6,7,8,9,10,12] 4 (fun a w=>∃ b39 A28 c28,Fr a 52 [(8,.pointer (some ⟨b26,0,none⟩)),(9,.pointer (some ⟨b39,0,none⟩)),(36,.agg #[vi ((gateS (m.length:Int) (smallG m g)).rows),vi ((gateS (m.length:Int) (smallG m g)).cols),.slice A28 ((gateS (m.length:Int) (smallG m g)).cells).length c28]),(38,vi (m.length:Int)),(41,.agg #[vi ((smallG m h).k),vi ((smallG m h).a),vi ((smallG m h).b)])]∧w0.heap.size≤b39∧Blk w b39 38 [vi 0,vi 0,.slice none 0 0]∧w11.heap.size≤b39∧w10.heap.size≤b39∧Own w w0.heap.size 98 5 encD A28 c28 ((gateS (m.length:Int) (smallG m g)).cells)∧Below w11.heap.size w11 w) ?_ ?_
  ·rintro a w21 ⟨b39,A28,c28,hf,hlo39,hB39,hlj39,hlc39,ho28,hE⟩
   clear hJc
   have hJc:=hE
   replace hB2:=hB2.below hE
   replace hB3:=hB3.below hE
   replace hB26:=hB26.below hE
   replace ho15:=ho15.below hE
   replace hW:=btr hW hE
   replace hEc:=btr hEc hE
   refine Yb hf ?_
   refine Y2 11 13 ?_ ?_
   ·refine Yk rfl trivial (Vc (X9u _ (m.length:Int) (smallG m h) P.hs) X3o) (fun _ _ ⟨A43,c43,_,ho43,hE⟩=>hE) ?_;rintro _ w22 ⟨A43,c43,rfl,ho43,hE⟩
    replace ho43:=ho43.lower hW.size
    replace hB2:=hB2.below hE
    replace hB3:=hB3.below hE
    replace hB26:=hB26.below hE
    replace hB39:=hB39.below hE
    replace ho15:=ho15.below hE
    replace ho28:=ho28.below hE
    replace hW:=btr hW hE
    replace hEc:=btr hEc hE
    replace hJc:=btr hJc hE
    exact fun a hf=>hJ30 _ a _ rfl ⟨b39,A28,c28,A43,c43,hf.sub ⟨rfl,rfl,rfl,rfl,trivial⟩,hlo39,hB39,hlj39,hlc39,ho28,ho43,hJc⟩
   refine Yk rfl trivial (X6 (zs:=[vi 0,vi 0,.slice none 0 0]) X0p rfl) (fun _ _ ⟨_,_,_,h,_⟩=>h) ?_;rintro _ w23 ⟨b45,rfl,hl45,hE,hB45⟩
   have hne39_45:b39≠b45:=by have:=hB39.lt;omega
   have hlo45:=Nat.le_trans hW.size hl45
   have hlc45:=Nat.le_trans hEc.size hl45
   have hlj45:=Nat.le_trans hJc.size hl45
   replace hB2:=hB2.below hE
   replace hB3:=hB3.below hE
   replace hB26:=hB26.below hE
   replace hB39:=hB39.below hE
   replace ho15:=ho15.below hE
   replace ho28:=ho28.below hE
   replace hW:=btr hW hE
   replace hEc:=btr hEc hE
   replace hJc:=btr hJc hE
   exact fun a hf=>hJ38 _ a _ rfl ⟨b39,b45,A28,c28,hf.sub ⟨rfl,rfl,rfl,rfl,rfl,rfl,trivial⟩,hlo39,hB39,hlo45,hB45,hne39_45,hlj39,hlc39,hlj45,hlc45,ho28,hJc⟩
  intro hJ41
  refine Yc [0,1,2,3,4,5,6,7,8,9,10,13] 4 (fun a w=>∃ b45 A28 c28,Fr a 52 [(8,.pointer (some ⟨b26,0,none⟩)),(10,.pointer (some ⟨b45,0,none⟩)),(36,.agg #[vi ((gateS (m.length:Int) (smallG m g)).rows),vi ((gateS (m.length:Int) (smallG m g)).cols),.slice A28 ((gateS (m.length:Int) (smallG m g)).cells).length c28]),(38,vi (m.length:Int)),(41,.agg #[vi ((smallG m h).k),vi ((smallG m h).a),vi ((smallG m h).b)])]∧w0.heap.size≤b45∧Blk w b45 38 [vi 0,vi 0,.slice none 0 0]∧w11.heap.size≤b45∧w10.heap.size≤b45∧Own w w0.heap.size 98 5 encD A28 c28 ((gateS (m.length:Int) (smallG m g)).cells)∧Below w11.heap.size w11 w) ?_ ?_
  ·rintro a w24 ⟨b45,A28,c28,hf,hlo45,hB45,hlj45,hlc45,ho28,hE⟩
   clear hJc
   have hJc:=hE
   replace hB2:=hB2.below hE
   replace hB3:=hB3.below hE
   replace hB26:=hB26.below hE
   replace ho15:=ho15.below hE
   replace hW:=btr hW hE
   replace hEc:=btr hEc hE
   refine Yb hf ?_
   refine Y2 11 12 ?_ ?_
   ·refine Yk rfl trivial (Vc (X9u _ (m.length:Int) (smallG m h) P.hs) X3o) (fun _ _ ⟨A48,c48,_,ho48,hE⟩=>hE) ?_;rintro _ w25 ⟨A48,c48,rfl,ho48,hE⟩
    replace ho48:=ho48.lower hW.size
    replace hB2:=hB2.below hE
    replace hB3:=hB3.below hE
    replace hB26:=hB26.below hE
    replace hB45:=hB45.below hE
    replace ho15:=ho15.below hE
    replace ho28:=ho28.below hE
    replace hW:=btr hW hE
    replace hEc:=btr hEc hE
    replace hJc:=btr hJc hE
    exact fun a hf=>hJ34 _ a _ rfl ⟨b45,A28,c28,A48,c48,hf.sub ⟨rfl,rfl,rfl,rfl,trivial⟩,hlo45,hB45,hlj45,hlc45,ho28,ho48,hJc⟩
   refine Yk rfl trivial (X6 (zs:=[vi 0,vi 0,.slice none 0 0]) X0p rfl) (fun _ _ ⟨_,_,_,h,_⟩=>h) ?_;rintro _ w26 ⟨b50,rfl,hl50,hE,hB50⟩
   have hne45_50:b45≠b50:=by have:=hB45.lt;omega
   have hlo50:=Nat.le_trans hW.size hl50
   have hlc50:=Nat.le_trans hEc.size hl50
   have hlj50:=Nat.le_trans hJc.size hl50
   replace hB2:=hB2.below hE
   replace hB3:=hB3.below hE
   replace hB26:=hB26.below hE
   replace hB45:=hB45.below hE
   replace ho15:=ho15.below hE
   replace ho28:=ho28.below hE
   replace hW:=btr hW hE
   replace hEc:=btr hEc hE
   replace hJc:=btr hJc hE
   exact fun a hf=>hJ38 _ a _ rfl ⟨b50,b45,A28,c28,hf.sub ⟨rfl,rfl,rfl,rfl,rfl,rfl,trivial⟩,hlo50,hB50,hlo45,hB45,(Ne.symm hne45_50),hlj50,hlc50,hlj45,hlc45,ho28,hJc⟩
  intro hJ46
  refine Yc [0,1,2,3,4,5,6,7,8,9,12,13] 4 (fun a w=>∃ b50 b52 A28 c28,Fr a 52 [(8,.pointer (some ⟨b26,0,none⟩)),(9,.pointer (some ⟨b50,0,none⟩)),(10,.pointer (some ⟨b52,0,none⟩)),(36,.agg #[vi ((gateS (m.length:Int) (smallG m g)).rows),vi ((gateS (m.length:Int) (smallG m g)).cols),.slice A28 ((gateS (m.length:Int) (smallG m g)).cells).length c28]),(38,vi (m.length:Int)),(39,.agg #[vi h.k,vi h.a,vi h.b]),(40,.slice A15 m.length c15)]∧w0.heap.size≤b50∧Blk w b50 38 [vi 0,vi 0,.slice none 0 0]∧w0.heap.size≤b52∧Blk w b52 38 [vi 0,vi 0,.slice none 0 0]∧b50≠b52∧w11.heap.size≤b50∧w10.heap.size≤b50∧w11.heap.size≤b52∧w10.heap.size≤b52∧Own w w0.heap.size 98 5 encD A28 c28 ((gateS (m.length:Int) (smallG m g)).cells)∧Below w11.heap.size w11 w) ?_ ?_
  ·rintro a w27 ⟨b50,b52,A28,c28,hf,hlo50,hB50,hlo52,hB52,hne50_52,hlj50,hlc50,hlj52,hlc52,ho28,hE⟩
   clear hJc
   have hJc:=hE
   replace hB2:=hB2.below hE
   replace hB3:=hB3.below hE
   replace hB26:=hB26.below hE
   replace ho15:=ho15.below hE
   replace hW:=btr hW hE
   replace hEc:=btr hEc hE
   refine Yb hf ?_
   refine Y1 10 ?_
   refine Yk rfl trivial (Vc (Xaj _ h A15 c15 m ho15.rd.top P.hk P.ha P.inc P.hb hlm) X3h) (fun _ _ ⟨_,hE⟩=>hE) ?_;rintro _ w28 ⟨rfl,hE⟩
   replace hB2:=hB2.below hE
   replace hB3:=hB3.below hE
   replace hB26:=hB26.below hE
   replace hB50:=hB50.below hE
   replace hB52:=hB52.below hE
   replace ho15:=ho15.below hE
   replace ho28:=ho28.below hE
   replace hW:=btr hW hE
   replace hEc:=btr hEc hE
   replace hJc:=btr hJc hE
   exact fun a hf=>hJ38 _ a _ rfl ⟨b50,b52,A28,c28,hf.sub ⟨rfl,rfl,rfl,rfl,rfl,rfl,trivial⟩,hlo50,hB50,hlo52,hB52,hne50_52,hlj50,hlc50,hlj52,hlc52,ho28,hJc⟩
  intro hJ51
  refine Yc [0,1,2,3,4,5,6,7,8,9,12] 5 (fun a w=>∃ b50 A28 c28,Fr a 52 [(8,.pointer (some ⟨b26,0,none⟩)),(9,.pointer (some ⟨b50,0,none⟩)),(36,.agg #[vi ((gateS (m.length:Int) (smallG m g)).rows),vi ((gateS (m.length:Int) (smallG m g)).cols),.slice A28 ((gateS (m.length:Int) (smallG m g)).cells).length c28]),(38,vi (m.length:Int)),(39,.agg #[vi h.k,vi h.a,vi h.b]),(40,.slice A15 m.length c15)]∧w0.heap.size≤b50∧Blk w b50 38 [vi 0,vi 0,.slice none 0 0]∧w11.heap.size≤b50∧w10.heap.size≤b50∧Own w w0.heap.size 98 5 encD A28 c28 ((gateS (m.length:Int) (smallG m g)).cells)∧Below w11.heap.size w11 w) ?_ ?_
  ·rintro a w29 ⟨b50,A28,c28,hf,hlo50,hB50,hlj50,hlc50,ho28,hE⟩
   clear hJc
   have hJc:=hE
   replace hB2:=hB2.below hE
   replace hB3:=hB3.below hE
   replace hB26:=hB26.below hE
   replace ho15:=ho15.below hE
   replace hW:=btr hW hE
   replace hEc:=btr hEc hE
   refine Yb hf ?_
   refine Y2 10 13 ?_ ?_
   ·refine Yk rfl trivial (Vc (Xaj _ h A15 c15 m ho15.rd.top P.hk P.ha P.inc P.hb hlm) X3h) (fun _ _ ⟨_,hE⟩=>hE) ?_;rintro _ w30 ⟨rfl,hE⟩
    replace hB2:=hB2.below hE
    replace hB3:=hB3.below hE
    replace hB26:=hB26.below hE
    replace hB50:=hB50.below hE
    replace ho15:=ho15.below hE
    replace ho28:=ho28.below hE
    replace hW:=btr hW hE
    replace hEc:=btr hEc hE
    replace hJc:=btr hJc hE
    exact fun a hf=>hJ41 _ a _ rfl ⟨b50,A28,c28,hf.sub ⟨rfl,rfl,rfl,rfl,rfl,trivial⟩,hlo50,hB50,hlj50,hlc50,ho28,hJc⟩
   refine Yk rfl trivial (X6 (zs:=[vi 0,vi 0,.slice none 0 0]) X0p rfl) (fun _ _ ⟨_,_,_,h,_⟩=>h) ?_;rintro _ w31 ⟨b56,rfl,hl56,hE,hB56⟩
   have hne50_56:b50≠b56:=by have:=hB50.lt;omega
   have hlo56:=Nat.le_trans hW.size hl56
   have hlc56:=Nat.le_trans hEc.size hl56
   have hlj56:=Nat.le_trans hJc.size hl56
   replace hB2:=hB2.below hE
   replace hB3:=hB3.below hE
   replace hB26:=hB26.below hE
   replace hB50:=hB50.below hE
   replace ho15:=ho15.below hE
   replace ho28:=ho28.below hE
   replace hW:=btr hW hE
   replace hEc:=btr hEc hE
   replace hJc:=btr hJc hE
   exact fun a hf=>hJ51 _ a _ rfl ⟨b50,b56,A28,c28,hf.sub ⟨rfl,rfl,rfl,rfl,rfl,rfl,rfl,trivial⟩,hlo50,hB50,hlo56,hB56,hne50_56,hlj50,hlc50,hlj56,hlc56,ho28,hJc⟩
  intro hJ53
  refine Yc [0,1,2,3,4,5,6,7,8,9,13] 5 (fun a w=>∃ b54 A28 c28,Fr a 52 [(8,.pointer (some ⟨b26,0,none⟩)),(10,.pointer (some ⟨b54,0,none⟩)),(36,.agg #[vi ((gateS (m.length:Int) (smallG m g)).rows),vi ((gateS (m.length:Int) (smallG m g)).cols),.slice A28 ((gateS (m.length:Int) (smallG m g)).cells).length c28]),(38,vi (m.length:Int)),(39,.agg #[vi h.k,vi h.a,vi h.b]),(40,.slice A15 m.length c15)]∧w0.heap.size≤b54∧Blk w b54 38 [vi 0,vi 0,.slice none 0 0]∧w11.heap.size≤b54∧w10.heap.size≤b54∧Own w w0.heap.size 98 5 encD A28 c28 ((gateS (m.length:Int) (smallG m g)).cells)∧Below w11.heap.size w11 w) ?_ ?_
  ·rintro a w32 ⟨b54,A28,c28,hf,hlo54,hB54,hlj54,hlc54,ho28,hE⟩
   clear hJc
   have hJc:=hE
   replace hB2:=hB2.below hE
   replace hB3:=hB3.below hE
   replace hB26:=hB26.below hE
   replace ho15:=ho15.below hE
   replace hW:=btr hW hE
   replace hEc:=btr hEc hE
   refine Yb hf ?_
   refine Y2 10 12 ?_ ?_
   ·refine Yk rfl trivial (Vc (Xaj _ h A15 c15 m ho15.rd.top P.hk P.ha P.inc P.hb hlm) X3h) (fun _ _ ⟨_,hE⟩=>hE) ?_;rintro _ w33 ⟨rfl,hE⟩
    replace hB2:=hB2.below hE
    replace hB3:=hB3.below hE
    replace hB26:=hB26.below hE
    replace hB54:=hB54.below hE
    replace ho15:=ho15.below hE
    replace ho28:=ho28.below hE
    replace hW:=btr hW hE
    replace hEc:=btr hEc hE
    replace hJc:=btr hJc hE
    exact fun a hf=>hJ46 _ a _ rfl ⟨b54,A28,c28,hf.sub ⟨rfl,rfl,rfl,rfl,rfl,trivial⟩,hlo54,hB54,hlj54,hlc54,ho28,hJc⟩
   refine Yk rfl trivial (X6 (zs:=[vi 0,vi 0,.slice none 0 0]) X0p rfl) (fun _ _ ⟨_,_,_,h,_⟩=>h) ?_;rintro _ w34 ⟨b60,rfl,hl60,hE,hB60⟩
   have hne54_60:b54≠b60:=by have:=hB54.lt;omega
   have hlo60:=Nat.le_trans hW.size hl60
   have hlc60:=Nat.le_trans hEc.size hl60
   have hlj60:=Nat.le_trans hJc.size hl60
   replace hB2:=hB2.below hE
   replace hB3:=hB3.below hE
   replace hB26:=hB26.below hE
   replace hB54:=hB54.below hE
   replace ho15:=ho15.below hE
   replace ho28:=ho28.below hE
   replace hW:=btr hW hE
   replace hEc:=btr hEc hE
   replace hJc:=btr hJc hE
   exact fun a hf=>hJ51 _ a _ rfl ⟨b60,b54,A28,c28,hf.sub ⟨rfl,rfl,rfl,rfl,rfl,rfl,rfl,trivial⟩,hlo60,hB60,hlo54,hB54,(Ne.symm hne54_60),hlj60,hlc60,hlj54,hlc54,ho28,hJc⟩
  intro hJ57
  refine Yc [0,1,2,3,4,6,7,8,9,12,13] 5 (fun a w=>∃ b58 b61,Fr a 52 [(8,.pointer (some ⟨b26,0,none⟩)),(9,.pointer (some ⟨b58,0,none⟩)),(10,.pointer (some ⟨b61,0,none⟩)),(32,vi (m.length:Int)),(35,.agg #[vi ((smallG m g).k),vi ((smallG m g).a),vi ((smallG m g).b)]),(38,vi (m.length:Int)),(39,.agg #[vi h.k,vi h.a,vi h.b]),(40,.slice A15 m.length c15)]∧w0.heap.size≤b58∧Blk w b58 38 [vi 0,vi 0,.slice none 0 0]∧w0.heap.size≤b61∧Blk w b61 38 [vi 0,vi 0,.slice none 0 0]∧b58≠b61∧w11.heap.size≤b58∧w10.heap.size≤b58∧w11.heap.size≤b61∧w10.heap.size≤b61∧Below w11.heap.size w11 w) ?_ ?_
  ·rintro a w35 ⟨b58,b61,hf,hlo58,hB58,hlo61,hB61,hne58_61,hlj58,hlc58,hlj61,hlc61,hE⟩
   clear hJc
   have hJc:=hE
   replace hB2:=hB2.below hE
   replace hB3:=hB3.below hE
   replace hB26:=hB26.below hE
   replace ho15:=ho15.below hE
   replace hW:=btr hW hE
   replace hEc:=btr hEc hE
   refine Yb hf ?_
   refine Y1 5 ?_
   refine Yk rfl trivial (Vc (X9u _ (m.length:Int) (smallG m g) P.gs) X3o) (fun _ _ ⟨A63,c63,_,ho63,hE⟩=>hE) ?_;rintro _ w36 ⟨A63,c63,rfl,ho63,hE⟩
   replace ho63:=ho63.lower hW.size
   replace hB2:=hB2.below hE
   replace hB3:=hB3.below hE
   replace hB26:=hB26.below hE
   replace hB58:=hB58.below hE
   replace hB61:=hB61.below hE
   replace ho15:=ho15.below hE
   replace hW:=btr hW hE
   replace hEc:=btr hEc hE
   replace hJc:=btr hJc hE
   exact fun a hf=>hJ51 _ a _ rfl ⟨b58,b61,A63,c63,hf.sub ⟨rfl,rfl,rfl,rfl,rfl,rfl,rfl,trivial⟩,hlo58,hB58,hlo61,hB61,hne58_61,hlj58,hlc58,hlj61,hlc61,ho63,hJc⟩
  intro hJ61
  refine Yc [0,1,2,3,4,6,7,8,9,12] 6 (fun a w=>∃ b58,Fr a 52 [(8,.pointer (some ⟨b26,0,none⟩)),(9,.pointer (some ⟨b58,0,none⟩)),(32,vi (m.length:Int)),(35,.agg #[vi ((smallG m g).k),vi ((smallG m g).a),vi ((smallG m g).b)]),(38,vi (m.length:Int)),(39,.agg #[vi h.k,vi h.a,vi h.b]),(40,.slice A15 m.length c15)]∧w0.heap.size≤b58∧Blk w b58 38 [vi 0,vi 0,.slice none 0 0]∧w11.heap.size≤b58∧w10.heap.size≤b58∧Below w11.heap.size w11 w) ?_ ?_
  ·rintro a w37 ⟨b58,hf,hlo58,hB58,hlj58,hlc58,hE⟩
   clear hJc
   have hJc:=hE
   replace hB2:=hB2.below hE
   replace hB3:=hB3.below hE
   replace hB26:=hB26.below hE
   replace ho15:=ho15.below hE
   replace hW:=btr hW hE
   replace hEc:=btr hEc hE
   refine Yb hf ?_
   refine Y2 5 13 ?_ ?_
   ·refine Yk rfl trivial (Vc (X9u _ (m.length:Int) (smallG m g) P.gs) X3o) (fun _ _ ⟨A66,c66,_,ho66,hE⟩=>hE) ?_;rintro _ w38 ⟨A66,c66,rfl,ho66,hE⟩
    replace ho66:=ho66.lower hW.size
    replace hB2:=hB2.below hE
    replace hB3:=hB3.below hE
    replace hB26:=hB26.below hE
    replace hB58:=hB58.below hE
    replace ho15:=ho15.below hE
    replace hW:=btr hW hE
    replace hEc:=btr hEc hE
    replace hJc:=btr hJc hE
    exact fun a hf=>hJ53 _ a _ rfl ⟨b58,A66,c66,hf.sub ⟨rfl,rfl,rfl,rfl,rfl,rfl,trivial⟩,hlo58,hB58,hlj58,hlc58,ho66,hJc⟩
   refine Yk rfl trivial (X6 (zs:=[vi 0,vi 0,.slice none 0 0]) X0p rfl) (fun _ _ ⟨_,_,_,h,_⟩=>h) ?_;rintro _ w39 ⟨b68,rfl,hl68,hE,hB68⟩
   have hne58_68:b58≠b68:=by have:=hB58.lt;omega
   have hlo68:=Nat.le_trans hW.size hl68
   have hlc68:=Nat.le_trans hEc.size hl68
   have hlj68:=Nat.le_trans hJc.size hl68
   replace hB2:=hB2.below hE
   replace hB3:=hB3.below hE
   replace hB26:=hB26.below hE
   replace hB58:=hB58.below hE
   replace ho15:=ho15.below hE
   replace hW:=btr hW hE
   replace hEc:=btr hEc hE
   replace hJc:=btr hJc hE
   exact fun a hf=>hJ61 _ a _ rfl ⟨b58,b68,hf.sub ⟨rfl,rfl,rfl,rfl,rfl,rfl,rfl,rfl,trivial⟩,hlo58,hB58,hlo68,hB68,hne58_68,hlj58,hlc58,hlj68,hlc68,hJc⟩
  intro hJ64
  refine Yc [0,1,2,3,4,6,7,8,9,13] 6 (fun a w=>∃ b64,Fr a 52 [(8,.pointer (some ⟨b26,0,none⟩)),(10,.pointer (some ⟨b64,0,none⟩)),(32,vi (m.length:Int)),(35,.agg #[vi ((smallG m g).k),vi ((smallG m g).a),vi ((smallG m g).b)]),(38,vi (m.length:Int)),(39,.agg #[vi h.k,vi h.a,vi h.b]),(40,.slice A15 m.length c15)]∧w0.heap.size≤b64∧Blk w b64 38 [vi 0,vi 0,.slice none 0 0]∧w11.heap.size≤b64∧w10.heap.size≤b64∧Below w11.heap.size w11 w) ?_ ?_
  ·rintro a w40 ⟨b64,hf,hlo64,hB64,hlj64,hlc64,hE⟩
   clear hJc
   have hJc:=hE
   replace hB2:=hB2.below hE
   replace hB3:=hB3.below hE
   replace hB26:=hB26.below hE
   replace ho15:=ho15.below hE
   replace hW:=btr hW hE
   replace hEc:=btr hEc hE
   refine Yb hf ?_
   refine Y2 5 12 ?_ ?_
   ·refine Yk rfl trivial (Vc (X9u _ (m.length:Int) (smallG m g) P.gs) X3o) (fun _ _ ⟨A71,c71,_,ho71,hE⟩=>hE) ?_;rintro _ w41 ⟨A71,c71,rfl,ho71,hE⟩
    replace ho71:=ho71.lower hW.size
    replace hB2:=hB2.below hE
    replace hB3:=hB3.below hE
    replace hB26:=hB26.below hE
    replace hB64:=hB64.below hE
    replace ho15:=ho15.below hE
    replace hW:=btr hW hE
    replace hEc:=btr hEc hE
    replace hJc:=btr hJc hE
    exact fun a hf=>hJ57 _ a _ rfl ⟨b64,A71,c71,hf.sub ⟨rfl,rfl,rfl,rfl,rfl,rfl,trivial⟩,hlo64,hB64,hlj64,hlc64,ho71,hJc⟩
   refine Yk rfl trivial (X6 (zs:=[vi 0,vi 0,.slice none 0 0]) X0p rfl) (fun _ _ ⟨_,_,_,h,_⟩=>h) ?_;rintro _ w42 ⟨b73,rfl,hl73,hE,hB73⟩
   have hne64_73:b64≠b73:=by have:=hB64.lt;omega
   have hlo73:=Nat.le_trans hW.size hl73
   have hlc73:=Nat.le_trans hEc.size hl73
   have hlj73:=Nat.le_trans hJc.size hl73
   replace hB2:=hB2.below hE
   replace hB3:=hB3.below hE
   replace hB26:=hB26.below hE
   replace hB64:=hB64.below hE
   replace ho15:=ho15.below hE
   replace hW:=btr hW hE
   replace hEc:=btr hEc hE
   replace hJc:=btr hJc hE
   exact fun a hf=>hJ61 _ a _ rfl ⟨b73,b64,hf.sub ⟨rfl,rfl,rfl,rfl,rfl,rfl,rfl,rfl,trivial⟩,hlo73,hB73,hlo64,hB64,(Ne.symm hne64_73),hlj73,hlc73,hlj64,hlc64,hJc⟩
  intro hJ69
  refine Yc [0,1,2,3,6,7,8,9,12,13] 6 (fun a w=>∃ b69 b71,Fr a 52 [(8,.pointer (some ⟨b26,0,none⟩)),(9,.pointer (some ⟨b69,0,none⟩)),(10,.pointer (some ⟨b71,0,none⟩)),(32,vi (m.length:Int)),(33,.agg #[vi g.k,vi g.a,vi g.b]),(34,.slice A15 m.length c15),(38,vi (m.length:Int)),(39,.agg #[vi h.k,vi h.a,vi h.b]),(40,.slice A15 m.length c15)]∧w0.heap.size≤b69∧Blk w b69 38 [vi 0,vi 0,.slice none 0 0]∧w0.heap.size≤b71∧Blk w b71 38 [vi 0,vi 0,.slice none 0 0]∧b69≠b71∧w11.heap.size≤b69∧w10.heap.size≤b69∧w11.heap.size≤b71∧w10.heap.size≤b71∧Below w11.heap.size w11 w) ?_ ?_
  ·rintro a w43 ⟨b69,b71,hf,hlo69,hB69,hlo71,hB71,hne69_71,hlj69,hlc69,hlj71,hlc71,hE⟩
   clear hJc
   have hJc:=hE
   replace hB2:=hB2.below hE
   replace hB3:=hB3.below hE
   replace hB26:=hB26.below hE
   replace ho15:=ho15.below hE
   replace hW:=btr hW hE
   replace hEc:=btr hEc hE
   refine Yb hf ?_
   refine Y1 4 ?_
   refine Yk rfl trivial (Vc (Xaj _ g A15 c15 m ho15.rd.top P.gk P.ga P.inc P.gb hlm) X3h) (fun _ _ ⟨_,hE⟩=>hE) ?_;rintro _ w44 ⟨rfl,hE⟩
   replace hB2:=hB2.below hE
   replace hB3:=hB3.below hE
   replace hB26:=hB26.below hE
   replace hB69:=hB69.below hE
   replace hB71:=hB71.below hE
   replace ho15:=ho15.below hE
   replace hW:=btr hW hE
   replace hEc:=btr hEc hE
   replace hJc:=btr hJc hE
   exact fun a hf=>hJ61 _ a _ rfl ⟨b69,b71,hf.sub ⟨rfl,rfl,rfl,rfl,rfl,rfl,rfl,rfl,trivial⟩,hlo69,hB69,hlo71,hB71,hne69_71,hlj69,hlc69,hlj71,hlc71,hJc⟩
  intro hJ74
  refine Y3 4 12 13 ?_ ?_ ?_
  ·refine Yk rfl trivial (Vc (Xaj _ g A15 c15 m ho15.rd.top P.gk P.ga P.inc P.gb hlm) X3h) (fun _ _ ⟨_,hE⟩=>hE) ?_;rintro _ w45 ⟨rfl,hE⟩
   replace hB2:=hB2.below hE
   replace hB3:=hB3.below hE
   replace hB26:=hB26.below hE
   replace ho15:=ho15.below hE
   replace hW:=btr hW hE
   replace hEc:=btr hEc hE
   replace hJc:=btr hJc hE
   refine Y3 5 12 13 ?_ ?_ ?_
   ·refine Yk rfl trivial (Vc (X9u _ (m.length:Int) (smallG m g) P.gs) X3o) (fun _ _ ⟨A76,c76,_,ho76,hE⟩=>hE) ?_;rintro _ w46 ⟨A76,c76,rfl,ho76,hE⟩
    replace ho76:=ho76.lower hW.size
    replace hB2:=hB2.below hE
    replace hB3:=hB3.below hE
    replace hB26:=hB26.below hE
    replace ho15:=ho15.below hE
    replace hW:=btr hW hE
    replace hEc:=btr hEc hE
    replace hJc:=btr hJc hE
    refine Y3 10 12 13 ?_ ?_ ?_
    ·refine Yk rfl trivial (Vc (Xaj _ h A15 c15 m ho15.rd.top P.hk P.ha P.inc P.hb hlm) X3h) (fun _ _ ⟨_,hE⟩=>hE) ?_;rintro _ w47 ⟨rfl,hE⟩
     replace hB2:=hB2.below hE
     replace hB3:=hB3.below hE
     replace hB26:=hB26.below hE
     replace ho15:=ho15.below hE
     replace ho76:=ho76.below hE
     replace hW:=btr hW hE
     replace hEc:=btr hEc hE
     replace hJc:=btr hJc hE
     refine Y3 11 12 13 ?_ ?_ ?_
     ·refine Yk rfl trivial (Vc (X9u _ (m.length:Int) (smallG m h) P.hs) X3o) (fun _ _ ⟨A77,c77,_,ho77,hE⟩=>hE) ?_;rintro _ w48 ⟨A77,c77,rfl,ho77,hE⟩
      replace ho77:=ho77.lower hW.size
      replace hB2:=hB2.below hE
      replace hB3:=hB3.below hE
      replace hB26:=hB26.below hE
      replace ho15:=ho15.below hE
      replace ho76:=ho76.below hE
      replace hW:=btr hW hE
      replace hEc:=btr hEc hE
      replace hJc:=btr hJc hE
      refine Y2 12 13 ?_ ?_
      ·refine Yk rfl trivial (X6 (zs:=[vi 0,vi 0,.slice none 0 0]) X0p rfl) (fun _ _ ⟨_,_,_,h,_⟩=>h) ?_;rintro _ w49 ⟨b79,rfl,hl79,hE,hB79⟩
       have hlo79:=Nat.le_trans hW.size hl79
       have hlc79:=Nat.le_trans hEc.size hl79
       have hlj79:=Nat.le_trans hJc.size hl79
       replace hB2:=hB2.below hE
       replace hB3:=hB3.below hE
       replace hB26:=hB26.below hE
       replace ho15:=ho15.below hE
       replace ho76:=ho76.below hE
       replace ho77:=ho77.below hE
       replace hW:=btr hW hE
       replace hEc:=btr hEc hE
       replace hJc:=btr hJc hE
       exact fun a hf=>hJ30 _ a _ rfl ⟨b79,A76,c76,A77,c77,hf.sub ⟨rfl,rfl,rfl,rfl,trivial⟩,hlo79,hB79,hlj79,hlc79,ho76,ho77,hJc⟩
      refine Yk rfl trivial (X6 (zs:=[vi 0,vi 0,.slice none 0 0]) X0p rfl) (fun _ _ ⟨_,_,_,h,_⟩=>h) ?_;rintro _ w50 ⟨b81,rfl,hl81,hE,hB81⟩
      have hlo81:=Nat.le_trans hW.size hl81
      have hlc81:=Nat.le_trans hEc.size hl81
      have hlj81:=Nat.le_trans hJc.size hl81
      replace hB2:=hB2.below hE
      replace hB3:=hB3.below hE
      replace hB26:=hB26.below hE
      replace ho15:=ho15.below hE
      replace ho76:=ho76.below hE
      replace ho77:=ho77.below hE
      replace hW:=btr hW hE
      replace hEc:=btr hEc hE
      replace hJc:=btr hJc hE
      exact fun a hf=>hJ34 _ a _ rfl ⟨b81,A76,c76,A77,c77,hf.sub ⟨rfl,rfl,rfl,rfl,trivial⟩,hlo81,hB81,hlj81,hlc81,ho76,ho77,hJc⟩
     ·refine Yk rfl trivial (X6 (zs:=[vi 0,vi 0,.slice none 0 0]) X0p rfl) (fun _ _ ⟨_,_,_,h,_⟩=>h) ?_;rintro _ w51 ⟨b83,rfl,hl83,hE,hB83⟩
      have hlo83:=Nat.le_trans hW.size hl83
      have hlc83:=Nat.le_trans hEc.size hl83
      have hlj83:=Nat.le_trans hJc.size hl83
      replace hB2:=hB2.below hE
      replace hB3:=hB3.below hE
      replace hB26:=hB26.below hE
      replace ho15:=ho15.below hE
      replace ho76:=ho76.below hE
      replace hW:=btr hW hE
      replace hEc:=btr hEc hE
      replace hJc:=btr hJc hE
      exact fun a hf=>hJ41 _ a _ rfl ⟨b83,A76,c76,hf.sub ⟨rfl,rfl,rfl,rfl,rfl,trivial⟩,hlo83,hB83,hlj83,hlc83,ho76,hJc⟩
     refine Yk rfl trivial (X6 (zs:=[vi 0,vi 0,.slice none 0 0]) X0p rfl) (fun _ _ ⟨_,_,_,h,_⟩=>h) ?_;rintro _ w52 ⟨b85,rfl,hl85,hE,hB85⟩
     have hlo85:=Nat.le_trans hW.size hl85
     have hlc85:=Nat.le_trans hEc.size hl85
     have hlj85:=Nat.le_trans hJc.size hl85
     replace hB2:=hB2.below hE
     replace hB3:=hB3.below hE
     replace hB26:=hB26.below hE
     replace ho15:=ho15.below hE
     replace ho76:=ho76.below hE
     replace hW:=btr hW hE
     replace hEc:=btr hEc hE
     replace hJc:=btr hJc hE
     exact fun a hf=>hJ46 _ a _ rfl ⟨b85,A76,c76,hf.sub ⟨rfl,rfl,rfl,rfl,rfl,trivial⟩,hlo85,hB85,hlj85,hlc85,ho76,hJc⟩
    ·refine Yk rfl trivial (X6 (zs:=[vi 0,vi 0,.slice none 0 0]) X0p rfl) (fun _ _ ⟨_,_,_,h,_⟩=>h) ?_;rintro _ w53 ⟨b87,rfl,hl87,hE,hB87⟩
     have hlo87:=Nat.le_trans hW.size hl87
     have hlc87:=Nat.le_trans hEc.size hl87
     have hlj87:=Nat.le_trans hJc.size hl87
     replace hB2:=hB2.below hE
     replace hB3:=hB3.below hE
     replace hB26:=hB26.below hE
     replace ho15:=ho15.below hE
     replace ho76:=ho76.below hE
     replace hW:=btr hW hE
     replace hEc:=btr hEc hE
     replace hJc:=btr hJc hE
     exact fun a hf=>hJ53 _ a _ rfl ⟨b87,A76,c76,hf.sub ⟨rfl,rfl,rfl,rfl,rfl,rfl,trivial⟩,hlo87,hB87,hlj87,hlc87,ho76,hJc⟩
    refine Yk rfl trivial (X6 (zs:=[vi 0,vi 0,.slice none 0 0]) X0p rfl) (fun _ _ ⟨_,_,_,h,_⟩=>h) ?_;rintro _ w54 ⟨b89,rfl,hl89,hE,hB89⟩
    have hlo89:=Nat.le_trans hW.size hl89
    have hlc89:=Nat.le_trans hEc.size hl89
    have hlj89:=Nat.le_trans hJc.size hl89
    replace hB2:=hB2.below hE
    replace hB3:=hB3.below hE
    replace hB26:=hB26.below hE
    replace ho15:=ho15.below hE
    replace ho76:=ho76.below hE
    replace hW:=btr hW hE
    replace hEc:=btr hEc hE
    replace hJc:=btr hJc hE
    exact fun a hf=>hJ57 _ a _ rfl ⟨b89,A76,c76,hf.sub ⟨rfl,rfl,rfl,rfl,rfl,rfl,trivial⟩,hlo89,hB89,hlj89,hlc89,ho76,hJc⟩
   ·refine Yk rfl trivial (X6 (zs:=[vi 0,vi 0,.slice none 0 0]) X0p rfl) (fun _ _ ⟨_,_,_,h,_⟩=>h) ?_;rintro _ w55 ⟨b91,rfl,hl91,hE,hB91⟩
    have hlo91:=Nat.le_trans hW.size hl91
    have hlc91:=Nat.le_trans hEc.size hl91
    have hlj91:=Nat.le_trans hJc.size hl91
    replace hB2:=hB2.below hE
    replace hB3:=hB3.below hE
    replace hB26:=hB26.below hE
    replace ho15:=ho15.below hE
    replace hW:=btr hW hE
    replace hEc:=btr hEc hE
    replace hJc:=btr hJc hE
    exact fun a hf=>hJ64 _ a _ rfl ⟨b91,hf.sub ⟨rfl,rfl,rfl,rfl,rfl,rfl,rfl,trivial⟩,hlo91,hB91,hlj91,hlc91,hJc⟩
   refine Yk rfl trivial (X6 (zs:=[vi 0,vi 0,.slice none 0 0]) X0p rfl) (fun _ _ ⟨_,_,_,h,_⟩=>h) ?_;rintro _ w56 ⟨b93,rfl,hl93,hE,hB93⟩
   have hlo93:=Nat.le_trans hW.size hl93
   have hlc93:=Nat.le_trans hEc.size hl93
   have hlj93:=Nat.le_trans hJc.size hl93
   replace hB2:=hB2.below hE
   replace hB3:=hB3.below hE
   replace hB26:=hB26.below hE
   replace ho15:=ho15.below hE
   replace hW:=btr hW hE
   replace hEc:=btr hEc hE
   replace hJc:=btr hJc hE
   exact fun a hf=>hJ69 _ a _ rfl ⟨b93,hf.sub ⟨rfl,rfl,rfl,rfl,rfl,rfl,rfl,trivial⟩,hlo93,hB93,hlj93,hlc93,hJc⟩
  ·refine Yk rfl trivial (X6 (zs:=[vi 0,vi 0,.slice none 0 0]) X0p rfl) (fun _ _ ⟨_,_,_,h,_⟩=>h) ?_;rintro _ w57 ⟨b95,rfl,hl95,hE,hB95⟩
   have hlo95:=Nat.le_trans hW.size hl95
   have hlc95:=Nat.le_trans hEc.size hl95
   have hlj95:=Nat.le_trans hJc.size hl95
   replace hB2:=hB2.below hE
   replace hB3:=hB3.below hE
   replace hB26:=hB26.below hE
   replace ho15:=ho15.below hE
   replace hW:=btr hW hE
   replace hEc:=btr hEc hE
   replace hJc:=btr hJc hE
   refine Y2 4 13 ?_ ?_
   ·refine Yk rfl trivial (Vc (Xaj _ g A15 c15 m ho15.rd.top P.gk P.ga P.inc P.gb hlm) X3h) (fun _ _ ⟨_,hE⟩=>hE) ?_;rintro _ w58 ⟨rfl,hE⟩
    replace hB2:=hB2.below hE
    replace hB3:=hB3.below hE
    replace hB26:=hB26.below hE
    replace hB95:=hB95.below hE
    replace ho15:=ho15.below hE
    replace hW:=btr hW hE
    replace hEc:=btr hEc hE
    replace hJc:=btr hJc hE
    exact fun a hf=>hJ64 _ a _ rfl ⟨b95,hf.sub ⟨rfl,rfl,rfl,rfl,rfl,rfl,rfl,trivial⟩,hlo95,hB95,hlj95,hlc95,hJc⟩
   refine Yk rfl trivial (X6 (zs:=[vi 0,vi 0,.slice none 0 0]) X0p rfl) (fun _ _ ⟨_,_,_,h,_⟩=>h) ?_;rintro _ w59 ⟨b97,rfl,hl97,hE,hB97⟩
   have hne95_97:b95≠b97:=by have:=hB95.lt;omega
   have hlo97:=Nat.le_trans hW.size hl97
   have hlc97:=Nat.le_trans hEc.size hl97
   have hlj97:=Nat.le_trans hJc.size hl97
   replace hB2:=hB2.below hE
   replace hB3:=hB3.below hE
   replace hB26:=hB26.below hE
   replace hB95:=hB95.below hE
   replace ho15:=ho15.below hE
   replace hW:=btr hW hE
   replace hEc:=btr hEc hE
   replace hJc:=btr hJc hE
   exact fun a hf=>hJ74 _ a _ rfl ⟨b95,b97,hf.sub ⟨rfl,rfl,rfl,rfl,rfl,rfl,rfl,rfl,rfl,trivial⟩,hlo95,hB95,hlo97,hB97,hne95_97,hlj95,hlc95,hlj97,hlc97,hJc⟩
  refine Yk rfl trivial (X6 (zs:=[vi 0,vi 0,.slice none 0 0]) X0p rfl) (fun _ _ ⟨_,_,_,h,_⟩=>h) ?_;rintro _ w60 ⟨b99,rfl,hl99,hE,hB99⟩
  have hlo99:=Nat.le_trans hW.size hl99
  have hlc99:=Nat.le_trans hEc.size hl99
  have hlj99:=Nat.le_trans hJc.size hl99
  replace hB2:=hB2.below hE
  replace hB3:=hB3.below hE
  replace hB26:=hB26.below hE
  replace ho15:=ho15.below hE
  replace hW:=btr hW hE
  replace hEc:=btr hEc hE
  replace hJc:=btr hJc hE
  refine Y2 4 12 ?_ ?_
  ·refine Yk rfl trivial (Vc (Xaj _ g A15 c15 m ho15.rd.top P.gk P.ga P.inc P.gb hlm) X3h) (fun _ _ ⟨_,hE⟩=>hE) ?_;rintro _ w61 ⟨rfl,hE⟩
   replace hB2:=hB2.below hE
   replace hB3:=hB3.below hE
   replace hB26:=hB26.below hE
   replace hB99:=hB99.below hE
   replace ho15:=ho15.below hE
   replace hW:=btr hW hE
   replace hEc:=btr hEc hE
   replace hJc:=btr hJc hE
   exact fun a hf=>hJ69 _ a _ rfl ⟨b99,hf.sub ⟨rfl,rfl,rfl,rfl,rfl,rfl,rfl,trivial⟩,hlo99,hB99,hlj99,hlc99,hJc⟩
  refine Yk rfl trivial (X6 (zs:=[vi 0,vi 0,.slice none 0 0]) X0p rfl) (fun _ _ ⟨_,_,_,h,_⟩=>h) ?_;rintro _ w62 ⟨b101,rfl,hl101,hE,hB101⟩
  have hne99_101:b99≠b101:=by have:=hB99.lt;omega
  have hlo101:=Nat.le_trans hW.size hl101
  have hlc101:=Nat.le_trans hEc.size hl101
  have hlj101:=Nat.le_trans hJc.size hl101
  replace hB2:=hB2.below hE
  replace hB3:=hB3.below hE
  replace hB26:=hB26.below hE
  replace hB99:=hB99.below hE
  replace ho15:=ho15.below hE
  replace hW:=btr hW hE
  replace hEc:=btr hEc hE
  replace hJc:=btr hJc hE
  exact fun a hf=>hJ74 _ a _ rfl ⟨b101,b99,hf.sub ⟨rfl,rfl,rfl,rfl,rfl,rfl,rfl,rfl,rfl,trivial⟩,hlo101,hB101,hlo99,hB99,(Ne.symm hne99_101),hlj101,hlc101,hlj99,hlc99,hJc⟩
 rintro a w63 ⟨b31,b33,A28,c28,A29,c29,hf,hlo31,hB31,hlo33,hB33,ho28,ho29,hE⟩
 replace hB2:=hB2.below hE
 replace hB3:=hB3.below hE
 replace hB26:=hB26.below hE
 replace ho15:=ho15.below hE
 replace hW:=btr hW hE
 refine hK27 _ _ ?_
 refine wp_seq_k fun _ hK102=>?_
 refine X0h (some b26) (fun _=>false) mixed ?_
 intro w64 hE
 replace hB26:=hB26.below hE
 replace hB31:=hB31.below hE
 replace hB33:=hB33.below hE
 replace ho28:=ho28.below hE
 replace ho29:=ho29.below hE
 replace hW:=btr hW hE
 refine Yb hf ?_
 refine Yo 0 rfl (fun _=>X8 rfl) ?_
 refine Yw 1 rfl trivial (fun w1 h1=>X0i (l:=[vi ((gateS (m.length:Int) (smallG m g)).rows),vi ((gateS (m.length:Int) (smallG m g)).cols),.slice A28 ((gateS (m.length:Int) (smallG m g)).cells).length c28]) rfl X0k ((hB31.only h1 (Blk.ne hB31 hB26 rfl)).at 0) rfl) ?_
 refine Yw 2 rfl trivial (fun w1 h1=>X0i (l:=[vi ((gateS (m.length:Int) (smallG m h)).rows),vi ((gateS (m.length:Int) (smallG m h)).cols),.slice A29 ((gateS (m.length:Int) (smallG m h)).cells).length c29]) rfl X0k ((hB33.only h1 (Blk.ne hB33 hB26 rfl)).at 0) rfl) ?_
 refine Yo 4 rfl (fun _=>X8 rfl) ?_
 refine Yw 5 rfl trivial (fun w1 h1=>X0i (l:=[vi ((gateS (m.length:Int) (smallG m h)).rows),vi ((gateS (m.length:Int) (smallG m h)).cols),.slice A29 ((gateS (m.length:Int) (smallG m h)).cells).length c29]) rfl X0k ((hB33.only h1 (Blk.ne hB33 hB26 rfl)).at 0) rfl) ?_
 refine Yw 6 rfl trivial (fun w1 h1=>X0i (l:=[vi ((gateS (m.length:Int) (smallG m g)).rows),vi ((gateS (m.length:Int) (smallG m g)).cols),.slice A28 ((gateS (m.length:Int) (smallG m g)).cells).length c28]) rfl X0k ((hB31.only h1 (Blk.ne hB31 hB26 rfl)).at 0) rfl) ?_
 refine Y1 3 ?_
 refine Yf rfl trivial (EfW.mono (Vc (Xng _ b26 false hB26 (gateS (m.length:Int) (smallG m g)) A28 c28 ho28.rd.top (gateS (m.length:Int) (smallG m h)) A29 c29 ho29.rd.top hm1 hm2 rfl) Xgi) (fun _ _ h=>⟨fun _=>by obtain ⟨A103,c103,rfl,ho103,hK,hbn⟩:=h;exact hK.keep,h⟩)) ?_;rintro _ w65 ⟨A103,c103,rfl,ho103,hK,hbn⟩
 have hlv:=hW.size
 obtain ⟨wm,hO,hm,hE⟩:=hK.mid;clear hm
 have hold:=hB26
 replace hB31:=hB31.only hO (Blk.ne hB31 hold rfl)
 replace hB33:=hB33.only hO (Blk.ne hB33 hold rfl)
 replace ho28:=ho28.onlyT hO hold rfl
 replace ho29:=ho29.onlyT hO hold rfl
 replace hW:=Below.only hW hO hlo26
 replace hB31:=hB31.below hE
 replace hB33:=hB33.below hE
 replace ho28:=ho28.below hE
 replace ho29:=ho29.below hE
 replace hW:=btr hW hE
 clear hold hE hO hK;replace hB26:=hbn;clear hbn
 replace ho103:=ho103.lower hlv;clear hlv
 refine Y1 7 ?_
 refine Yf rfl trivial (EfW.mono (Vc (Xng _ b26 ((timesS false (gateS (m.length:Int) (smallG m g)) (gateS (m.length:Int) (smallG m h))).1) hB26 (gateS (m.length:Int) (smallG m h)) A29 c29 ho29.rd.top (gateS (m.length:Int) (smallG m g)) A28 c28 ho28.rd.top hm2 hm1 rfl) Xgi) (fun _ _ h=>⟨fun _=>by obtain ⟨A104,c104,rfl,ho104,hK,hbn⟩:=h;exact hK.keep,h⟩)) ?_;rintro _ w66 ⟨A104,c104,rfl,ho104,hK,hbn⟩
 have hlv:=hW.size
 obtain ⟨wm,hO,hm,hE⟩:=hK.mid;clear hm
 have hold:=hB26
 replace hB31:=hB31.only hO (Blk.ne hB31 hold rfl)
 replace hB33:=hB33.only hO (Blk.ne hB33 hold rfl)
 replace ho28:=ho28.onlyT hO hold rfl
 replace ho29:=ho29.onlyT hO hold rfl
 replace ho103:=ho103.onlyT hO hold rfl
 replace hW:=Below.only hW hO hlo26
 replace hB31:=hB31.below hE
 replace hB33:=hB33.below hE
 replace ho28:=ho28.below hE
 replace ho29:=ho29.below hE
 replace ho103:=ho103.below hE
 replace hW:=btr hW hE
 clear hold hE hO hK;replace hB26:=hbn;clear hbn
 replace ho104:=ho104.lower hlv;clear hlv
 refine Y1 8 ?_
 refine Yf rfl trivial (EfW.mono (Vc (Xlw _ ((timesS false (gateS (m.length:Int) (smallG m g)) (gateS (m.length:Int) (smallG m h))).2) A103 c103 ho103.rd.top ((timesS ((timesS false (gateS (m.length:Int) (smallG m g)) (gateS (m.length:Int) (smallG m h))).1) (gateS (m.length:Int) (smallG m h)) (gateS (m.length:Int) (smallG m g))).2) A104 c104 ho104.rd.top (Xgu hm1 hm2 _)) Xbl) (fun _ _ h=>⟨fun _=>by obtain ⟨rfl,hE⟩:=h;exact Keep.of_below hE,h⟩)) ?_;rintro _ w67 ⟨rfl,hE⟩
 replace hB26:=hB26.below hE
 replace hB31:=hB31.below hE
 replace hB33:=hB33.below hE
 replace ho28:=ho28.below hE
 replace ho29:=ho29.below hE
 replace ho103:=ho103.below hE
 replace ho104:=ho104.below hE
 replace hW:=btr hW hE
 refine Yo 9 rfl (fun _=>X1m rfl) ?_
 refine Yd fun a hf=>?_
 refine hK102 _ _ ?_
 refine wp_ret (X2 hf (Xj hf rfl rfl) ?_)
 exact ⟨by rw [commS,if_pos hc,hU];rfl,hW⟩
end Go.Proofs.YtlfjcmldfbfdbaaGreat
set_option maxRecDepth 4000
namespace Go.Proofs.YtlfjcmldfbfdbaaGreat
open Go.RowKit
end Go.Proofs.YtlfjcmldfbfdbaaGreat
set_option maxHeartbeats 1000000
set_option maxRecDepth 4000
namespace Go.Proofs.YtlfjcmldfbfdbaaGreat
open Go.RowKit
theorem Xox(w0:World)(Al:Option Addr)(cl:Nat)(l:List Gt)(hr_l:Rd w0 w0.heap.size 24 encG Al l)(Ato:Option Addr)(cto:Nat)(to:List Int)(hr_to:Rd w0 w0.heap.size 3 encI Ato to)(hq:∀ g ∈ l,(g.k≠12→0≤g.a∧g.a<5)∧(inR g.k 9 11=true→0≤g.b∧g.b<5))(hto:to.length=5)(hln:l.length≤1000000) : Ret Tryz.prog 103 [.slice Al l.length cl,.slice Ato 5 cto] w0 (fun v w=>∃ A c,v=.slice A (mapI l to).length c∧Own w w0.heap.size 24 3 encG A c (mapI l to)∧Below w0.heap.size w0 w):=by
 have h:=F51 w0 Al cl l hr_l Ato cto to hr_to 5 hq hto hln
 rw [hto] at h
 exact h
theorem Xpd(w0:World)(g:Gt)(h:Gt)(n:Int)(hg:gOk n g=true)(hh:gOk n h=true) : Ret Tryz.prog 52 [.agg #[vi g.k,vi g.a,vi g.b],.agg #[vi h.k,vi h.a,vi h.b]] w0 (fun v w=>v=.bool (commI g h)∧Below w0.heap.size w0 w):=by
 have hql:=X20 g
 have hqh:=X20 h
 refine enter Tryz.func52 rfl 64 rfl rfl ?_
 intro a hf
 have hW:Below w0.heap.size w0 w0:=Below.refl _ _
 refine Zs hf fun _ hK1=>?_
 refine Zf (X0j (zs:=[vi g.k,vi g.a,vi g.b]) rfl rfl) ?_;rintro _ w1 ⟨b2,rfl,hl2,hE,hB2⟩
 have hlo2:=Nat.le_trans hW.size hl2
 replace hW:=btr hW hE
 refine Zf (X0j (zs:=[vi h.k,vi h.a,vi h.b]) rfl rfl) ?_;rintro _ w2 ⟨b3,rfl,hl3,hE,hB3⟩
 have hne2_3:b2≠b3:=by have:=hB2.lt;omega
 have hlo3:=Nat.le_trans hW.size hl3
 replace hB2:=hB2.below hE
 replace hW:=btr hW hE
 refine Za rfl ?_
 refine Zt hK1 fun a hf=>?_
 refine wp_seq_k fun _ hK4=>?_
 refine Zs hf fun _ hK5=>?_
 refine Ze (Vn Xo hB2)<|Ze (Vn Xo hB3) ?_
 refine Zf (Vc (Xpp _ g h) Xn3) ?_;rintro _ w3 ⟨rfl,hE⟩
 replace hB2:=hB2.below hE
 replace hB3:=hB3.below hE
 replace hW:=btr hW hE
 refine Ze (X15 rfl) ?_
 refine Zt hK5 fun a hf=>?_
 refine Xm hf rfl (fun hc6=>?_) (fun hc6=>?_)
 ·have hc6b:=hc6
  have hfin:commI g h=true:=by rw [commI,if_neg];revert hc6;cases comI g h<;>simp
  refine Zs hf fun _ hK7=>?_
  refine Za rfl ?_
  refine Zt hK7 fun a hf=>?_
  refine wp_ret ?_
  refine X7 ?_
  refine X2 hf (Xj hf rfl rfl) ?_
  exact ⟨by rw [hfin],hW⟩
 have hc6b:=hc6
 have hc:comI g h=true:=by revert hc6;cases comI g h<;>simp
 have P:PairOk (unionI (qubI g) (qubI h)) g h:=X6k hg hh (X47.1 hc) (X80 _ _) (fun x=>X7p _ _ x)
 have hlu:=P.len
 refine wp_skip ?_
 refine hK4 _ _ ?_
 refine Zs hf fun _ hK8=>?_
 refine Zf (X72 (m:=5) (enc:=encI) (z0:=0) rfl rfl X03 X18 z_3 rfl Xp (by decide) (by decide)) ?_;rintro _ w4 ⟨b9,rfl,hl9,hE,hB9⟩
 have hlo9:=Nat.le_trans hW.size hl9
 replace hB2:=hB2.below hE
 replace hB3:=hB3.below hE
 replace hW:=btr hW hE
 refine Za rfl<|Za rfl ?_
 refine Zt hK8 fun a hf=>?_
 refine wp_seq_k fun _ hK11=>?_
 refine wp_seq_k fun _ hK12=>?_
 refine X0h none (fun _=>false) mixed ?_
 intro w5 hE
 replace hB2:=hB2.below hE
 replace hB3:=hB3.below hE
 replace hB9:=hB9.below hE
 replace hW:=btr hW hE
 refine Yb hf ?_
 refine Ye 0 rfl (Vn Xo hB2)<|Ye 2 rfl (Vn Xo hB3)<|Yo 6 rfl (fun _=>X8 rfl) ?_
 refine Y1 1 ?_
 refine Yk rfl trivial (Vc (F96 _ g) X5z) (fun _ _ ⟨A13,c13,_,ho13,hE⟩=>hE) ?_;rintro _ w6 ⟨A13,c13,rfl,ho13,hE⟩
 have haw13_9:=ho13.awayNew hB9.lt
 replace ho13:=ho13.lower hW.size
 replace hB2:=hB2.below hE
 replace hB3:=hB3.below hE
 replace hB9:=hB9.below hE
 replace hW:=btr hW hE
 refine Y1 3 ?_
 refine Yk rfl trivial (Vc (F96 _ h) X5z) (fun _ _ ⟨A14,c14,_,ho14,hE⟩=>hE) ?_;rintro _ w7 ⟨A14,c14,rfl,ho14,hE⟩
 have haw14_9:=ho14.awayNew hB9.lt
 replace ho14:=ho14.lower hW.size
 replace hB2:=hB2.below hE
 replace hB3:=hB3.below hE
 replace hB9:=hB9.below hE
 replace ho13:=ho13.below hE
 replace hW:=btr hW hE
 refine Y1 4 ?_
 refine Yk rfl trivial (Vc (F47 _ A13 c13 (qubI g) ho13.rd.top A14 c14 (qubI h) ho14.rd.top (by omega) (by omega)) Xn8) (fun _ _ ⟨A15,c15,_,ho15,hE⟩=>hE) ?_;rintro _ w8 ⟨A15,c15,rfl,ho15,hE⟩
 have haw15_9:=ho15.awayNew hB9.lt
 replace ho15:=ho15.lower hW.size
 replace hB2:=hB2.below hE
 replace hB3:=hB3.below hE
 replace hB9:=hB9.below hE
 replace ho13:=ho13.below hE
 replace ho14:=ho14.below hE
 replace hW:=btr hW hE
 refine Yo 5 rfl (fun _=>X14 rfl X03) ?_
 refine Yd fun a hf=>?_
 refine hK12 _ _ ?_
 refine wp_block ?_
 refine X0c (σ:=Nat×(List Int)) (fun (s:Nat×(List Int)) (a:Act) (w:World)=>match s with|(k,to)=>Fr a 64 [(2,.pointer (some ⟨b2,0,none⟩)),(3,.pointer (some ⟨b3,0,none⟩)),(5,.slice (some ⟨b9,0,none⟩) 5 5),(6,vi (k:Int)),(23,.slice A15 (unionI (qubI g) (qubI h)).length c15),(24,vi ((unionI (qubI g) (qubI h)).length:Int)),(25,vi (k:Int))]∧(k≤(unionI (qubI g) (qubI h)).length)∧(to=numbI ((unionI (qubI g) (qubI h)).take k))∧Blk w b2 24 [vi g.k,vi g.a,vi g.b]∧Blk w b3 24 [vi h.k,vi h.a,vi h.b]∧Blk w b9 3 (to.flatMap encI)∧Own w w0.heap.size 3 1 encI A15 c15 (unionI (qubI g) (qubI h))∧Below w0.heap.size w0 w) (fun (s:Nat×(List Int))=>match s with|(k,to)=>(unionI (qubI g) (qubI h)).length-k) (0,[0,0,0,0,0]) ?_ ?_
 ·exact ⟨hf.sub ⟨rfl,rfl,rfl,rfl,rfl,rfl,rfl,trivial⟩,(Nat.zero_le _),rfl,hB2,hB3,hB9,ho15,hW⟩
 rintro ⟨k,to⟩ a w9 ⟨hf,hk,hto,hB2,hB3,hB9,ho15,hW⟩
 have hlt:to.length=5:=by rw [hto,Xa7]
 refine Zs hf fun _ hK16=>?_
 refine Ze (X16 rfl rfl) ?_
 refine Zt hK16 fun a hf=>?_
 refine wp_seq_k fun _ hK17=>?_
 refine Xm hf rfl (fun hc18=>?_) (fun hc18=>?_)
 ·have hc18b:=hc18
  have hc18:=of_decide_eq_true hc18
  obtain ⟨u19,hu19⟩:=Xx (l:=(unionI (qubI g) (qubI h))) (k:=k) (by omega)
  have hb:=P.low u19 (List.mem_of_getElem? hu19)
  refine wp_skip ?_
  refine hK17 _ _ ?_
  refine wp_seq_k fun _ hK20=>?_
  refine wp_block ?_
  refine Zs hf fun _ hK21=>?_
  refine Zi (k:=k) (u:=u19) (enc:=encI) (l:=(unionI (qubI g) (qubI h))) trivial rfl rfl X03 X1a Xp ho15.rd hu19 rfl ?_;intro p23 hat22
  refine Ze (X0 rfl X3 hat22)<|Za rfl ?_
  refine Zt hK21 fun a hf=>?_
  refine Zs hf fun _ hK24=>?_
  refine Zm rfl<|Zm rfl<|Zm rfl<|Ze (X6d (k:=u19.toNat) (off:=u19.toNat*1) rfl rfl X03 X1a (by omega) (by omega) rfl) ?_
  refine Zo (X6h (enc:=encI) (l:=to) (u:=(k:Int)) (k:=u19.toNat) rfl rfl X1a hB9 Xp X1n rfl (by omega)) ?_;rintro _ w10 ⟨ho,hb⟩
  have hold:=hB9
  replace hB2:=hB2.only ho (Blk.ne hB2 hold rfl)
  replace hB3:=hB3.only ho (Blk.ne hB3 hold rfl)
  replace ho15:=ho15.onlyA ho haw15_9
  replace hW:=Below.only hW ho hlo9
  clear hold
  have hB9:=hb
  clear hb ho
  refine Zt hK24 fun a hf=>?_
  refine Zr hf ?_
  refine Zm rfl<|Ze (X0a rfl rfl (by omega) (by omega))<|Za rfl ?_
  refine Zn fun a hf=>?_
  refine Xr ?_
  refine hK20 _ _ ?_
  refine Zr hf ?_
  refine Ze (X0a rfl rfl (by omega) (by omega))<|Zm rfl ?_
  refine Zn fun a hf=>?_
  refine Xz ?_
  exact ⟨(k+1,(to.set (u19.toNat) (k:Int))),⟨hf.sub ⟨rfl,rfl,rfl,rfl,rfl,rfl,rfl,trivial⟩,(by omega),(by rw [X7s hu19,hto]),hB2,hB3,hB9,ho15,hW⟩,(by first|omega|(dsimp only;omega))⟩
 have hc18b:=hc18
 have hc18:=of_decide_eq_false hc18
 have hfin:commI g h=eqM ((opI ⟨(k:Int),mapI [g,h] to⟩).getD mZ) ((opI ⟨(k:Int),[mapG to h,mapG to g]⟩).getD mZ):=by rw [commI,if_pos hc,hto,List.take_of_length_le (by omega),show k=(unionI (qubI g) (qubI h)).length from by omega]
 refine wp_exit ?_
 refine Xu ?_
 refine Xu ?_
 refine X0f ?_
 refine hK11 _ _ ?_
 refine Zs hf fun _ hK25=>?_
 refine Ze (Vn Xo hB2)<|Ze (Vn Xo hB3) ?_
 refine Zf (Xd (k:=2) (vs:=[.agg #[vi g.k,vi g.a,vi g.b],.agg #[vi h.k,vi h.a,vi h.b]]) (zs:=[vi g.k,vi g.a,vi g.b,vi h.k,vi h.a,vi h.b]) rfl X0w X1p rfl rfl) ?_;rintro _ w11 ⟨b26,rfl,hl26,hE,hB26⟩
 have hne2_26:b2≠b26:=by have:=hB2.lt;omega
 have hne3_26:b3≠b26:=by have:=hB3.lt;omega
 have hlo26:=Nat.le_trans hW.size hl26
 replace hB2:=hB2.below hE
 replace hB3:=hB3.below hE
 replace hB9:=hB9.below hE
 replace ho15:=ho15.below hE
 replace hW:=btr hW hE
 refine Zm rfl ?_
 refine Zf (Vc (Xox _ (some ⟨b26,0,none⟩) 2 ([g,h]) (Rd.of_blk hB26 rfl _ hB26.lt) (some ⟨b9,0,none⟩) 5 to (Rd.of_blk hB9 rfl _ hB9.lt) (Xdh (n:=n) (l:=[g,h]) (fun x hx=>by rcases List.mem_cons.1 hx with rfl|hx;exact hg;rw [List.mem_singleton.1 hx];exact hh)) hlt (by simp)) Xoj) ?_;rintro _ w12 ⟨A28,c28,rfl,ho28,hE⟩
 have haw28_2:=ho28.awayNew hB2.lt
 have haw28_3:=ho28.awayNew hB3.lt
 have haw28_26:=ho28.awayNew hB26.lt
 replace ho28:=ho28.lower hW.size
 replace hB2:=hB2.below hE
 replace hB3:=hB3.below hE
 replace hB9:=hB9.below hE
 replace hB26:=hB26.below hE
 replace ho15:=ho15.below hE
 replace hW:=btr hW hE
 refine Za rfl ?_
 refine Zt hK25 fun a hf=>?_
 refine Zs hf fun _ hK29=>?_
 refine Zm rfl<|Zm rfl<|Ze (Xt (ps:=[(0,vi (k:Int)),(1,.slice A28 (mapI ([g,h]) to).length c28)]) (cs:=[vi (k:Int),.slice A28 (mapI ([g,h]) to).length c28]) rfl (fun _=>by first|rfl|kernel_rfl)) ?_
 refine Zf (Vc (F97 _ (⟨(k:Int),(mapI ([g,h]) to)⟩ : Cx) A28 c28 ho28.rd.top (by simp [mapI])) Xf9) ?_;rintro _ w13 ⟨A31,c31,rfl,hr31,hE⟩
 replace ho28:=ho28.below hE
 replace hW:=btr hW hE
 refine Zm rfl<|Ze (X5 (vs:=[.agg #[vi (((opI (⟨(k:Int),(mapI ([g,h]) to)⟩ : Cx)).getD mZ).rows),vi (((opI (⟨(k:Int),(mapI ([g,h]) to)⟩ : Cx)).getD mZ).cols),.slice A31 (((opI (⟨(k:Int),(mapI ([g,h]) to)⟩ : Cx)).getD mZ).cells).length c31],.bool ((opI (⟨(k:Int),(mapI ([g,h]) to)⟩ : Cx)).isSome)]) rfl rfl)<|Ze (X5 (vs:=[.agg #[vi (((opI (⟨(k:Int),(mapI ([g,h]) to)⟩ : Cx)).getD mZ).rows),vi (((opI (⟨(k:Int),(mapI ([g,h]) to)⟩ : Cx)).getD mZ).cols),.slice A31 (((opI (⟨(k:Int),(mapI ([g,h]) to)⟩ : Cx)).getD mZ).cells).length c31],.bool ((opI (⟨(k:Int),(mapI ([g,h]) to)⟩ : Cx)).isSome)]) rfl rfl) ?_
 refine Zf (X6 (zs:=[vi 0,vi 0,.slice none 0 0]) X0p rfl) ?_;rintro _ w14 ⟨b33,rfl,hl33,hE,hB33⟩
 have hlo33:=Nat.le_trans hW.size hl33
 replace ho28:=ho28.below hE
 replace hr31:=hr31.below hE
 replace hW:=btr hW hE
 refine Zo (Vw [vi (((opI (⟨(k:Int),(mapI ([g,h]) to)⟩ : Cx)).getD mZ).rows),vi (((opI (⟨(k:Int),(mapI ([g,h]) to)⟩ : Cx)).getD mZ).cols),.slice A31 (((opI (⟨(k:Int),(mapI ([g,h]) to)⟩ : Cx)).getD mZ).cells).length c31] X0u hB33) ?_;rintro _ w15 ⟨ho,hb⟩
 have hold:=hB33
 replace ho28:=ho28.onlyT ho hold rfl
 replace hr31:=hr31.onlyT ho hold rfl
 replace hW:=Below.only hW ho hlo33
 clear hold
 have hB33:=hb
 clear hb ho
 refine Za rfl ?_
 refine Zt hK29 fun a hf=>?_
 refine wp_seq_k fun _ hK34=>?_
 refine X0g (fun a w=>∃ b44 A42 c42,Fr a 64 [(10,.pointer (some ⟨b33,0,none⟩)),(12,.pointer (some ⟨b44,0,none⟩))]∧w0.heap.size≤b44∧Blk w b44 38 [vi (((opI (⟨(k:Int),[(mapG to h),(mapG to g)]⟩ : Cx)).getD mZ).rows),vi (((opI (⟨(k:Int),[(mapG to h),(mapG to g)]⟩ : Cx)).getD mZ).cols),.slice A42 (((opI (⟨(k:Int),[(mapG to h),(mapG to g)]⟩ : Cx)).getD mZ).cells).length c42]∧b33≠b44∧Rd w w.heap.size 98 encD A42 (((opI (⟨(k:Int),[(mapG to h),(mapG to g)]⟩ : Cx)).getD mZ).cells)∧Below w15.heap.size w15 w) ?_ ?_
 ·have hEc:Below w15.heap.size w15 w15:=Below.refl _ _
  refine X0h none (fun j=>[14].contains j) mixed ?_
  intro w16 hE
  replace hB33:=hB33.below hE
  replace ho28:=ho28.below hE
  replace hr31:=hr31.below hE
  replace hW:=btr hW hE
  replace hEc:=btr hEc hE
  refine Yb hf ?_
  refine Yo 0 rfl (fun _=>X8 rfl)<|Yo 1 rfl (fun _=>X8 rfl) ?_
  refine Yi (k:=1) (u:=(mapG to h)) (enc:=encG) (l:=(mapI ([g,h]) to)) 2 rfl trivial rfl rfl X0w X0o X11 ho28.rd rfl rfl ?_;intro p36 hat35
  refine Ye 3 rfl (X0i (l:=[vi ((mapG to h).k),vi ((mapG to h).a),vi ((mapG to h).b)]) rfl Xo hat35 rfl)<|Yo 4 rfl (fun _=>X8 rfl) ?_
  refine Yi (k:=0) (u:=(mapG to g)) (enc:=encG) (l:=(mapI ([g,h]) to)) 5 rfl trivial rfl rfl X0w X0o X11 ho28.rd rfl rfl ?_;intro p38 hat37
  refine Ye 6 rfl (X0i (l:=[vi ((mapG to g).k),vi ((mapG to g).a),vi ((mapG to g).b)]) rfl Xo hat37 rfl) ?_
  have hJc:Below w16.heap.size w16 w16:=Below.refl _ _
  refine Yc [0,1,2,3,4,5,6,7,8,9,10,11,12,13] 2 (fun a w=>∃ b44 A42 c42,Fr a 64 [(10,.pointer (some ⟨b33,0,none⟩)),(12,.pointer (some ⟨b44,0,none⟩)),(59,.agg #[vi (((opI (⟨(k:Int),[(mapG to h),(mapG to g)]⟩ : Cx)).getD mZ).rows),vi (((opI (⟨(k:Int),[(mapG to h),(mapG to g)]⟩ : Cx)).getD mZ).cols),.slice A42 (((opI (⟨(k:Int),[(mapG to h),(mapG to g)]⟩ : Cx)).getD mZ).cells).length c42]),(60,.bool ((opI (⟨(k:Int),[(mapG to h),(mapG to g)]⟩ : Cx)).isSome))]∧w0.heap.size≤b44∧Blk w b44 38 [vi 0,vi 0,.slice none 0 0]∧b33≠b44∧w16.heap.size≤b44∧w15.heap.size≤b44∧Rd w w.heap.size 98 encD A42 (((opI (⟨(k:Int),[(mapG to h),(mapG to g)]⟩ : Cx)).getD mZ).cells)∧Below w16.heap.size w16 w) ?_ ?_
  ·rintro a w17 ⟨b44,A42,c42,hf,hlo44,hB44,hne33_44,hlj44,hlc44,hr42,hE⟩
   clear hJc
   have hJc:=hE
   replace hB33:=hB33.below hE
   replace ho28:=ho28.below hE
   replace hr31:=hr31.below hE
   replace hW:=btr hW hE
   replace hEc:=btr hEc hE
   refine Yb hf ?_
   refine Y1 14 ?_
   refine Yh rfl trivial rfl (Vw [vi (((opI (⟨(k:Int),[(mapG to h),(mapG to g)]⟩ : Cx)).getD mZ).rows),vi (((opI (⟨(k:Int),[(mapG to h),(mapG to g)]⟩ : Cx)).getD mZ).cols),.slice A42 (((opI (⟨(k:Int),[(mapG to h),(mapG to g)]⟩ : Cx)).getD mZ).cells).length c42] X0u hB44) ?_;rintro _ w18 ⟨ho,hb⟩
   have hold:=hB44
   replace hB33:=hB33.only ho (by omega)
   replace ho28:=ho28.onlyT ho hold rfl
   replace hr31:=hr31.onlyT ho hold rfl
   replace hr42:=hr42.onlyT ho hold rfl
   replace hEc:=Below.only hEc ho hlc44
   replace hJc:=Below.only hJc ho hlj44
   replace hW:=Below.only hW ho hlo44
   clear hold
   have hB44:=hb
   clear hb ho
   refine Yo 15 rfl (fun _=>X1m rfl) ?_
   refine Yd fun a hf=>?_
   have hEE:Below w15.heap.size w15 w18:=hEc
   exact ⟨b44,A42,c42,hf.sub ⟨rfl,rfl,trivial⟩,hlo44,hB44,hne33_44,hr42.top,hEE⟩
  intro hJ39
  refine Yc [0,1,2,3,4,5,6,7,8,13] 6 (fun a w=>∃ b39 b46,Fr a 64 [(10,.pointer (some ⟨b33,0,none⟩)),(12,.pointer (some ⟨b46,0,none⟩)),(57,.agg #[vi (k:Int),.slice (some ⟨b39,0,none⟩) ([(mapG to h),(mapG to g)]).length 2])]∧w0.heap.size≤b39∧Blk w b39 24 [vi ((mapG to h).k),vi ((mapG to h).a),vi ((mapG to h).b),vi ((mapG to g).k),vi ((mapG to g).a),vi ((mapG to g).b)]∧w0.heap.size≤b46∧Blk w b46 38 [vi 0,vi 0,.slice none 0 0]∧b33≠b46∧w16.heap.size≤b39∧w15.heap.size≤b39∧w16.heap.size≤b46∧w15.heap.size≤b46∧Away A28 b39∧Below w16.heap.size w16 w) ?_ ?_
  ·rintro a w19 ⟨b39,b46,hf,hlo39,hB39,hlo46,hB46,hne33_46,hlj39,hlc39,hlj46,hlc46,haw28_39,hE⟩
   clear hJc
   have hJc:=hE
   replace hB33:=hB33.below hE
   replace ho28:=ho28.below hE
   replace hr31:=hr31.below hE
   replace hW:=btr hW hE
   replace hEc:=btr hEc hE
   refine Yb hf ?_
   refine Y1 9 ?_
   refine Yk rfl trivial (Vc (F97 _ (⟨(k:Int),[(mapG to h),(mapG to g)]⟩ : Cx) (some ⟨b39,0,none⟩) 2 (Rd.of_blk hB39 rfl _ hB39.lt) (by simp)) Xf9) (fun _ _ ⟨A43,c43,_,hr43,hE⟩=>hE) ?_;rintro _ w20 ⟨A43,c43,rfl,hr43,hE⟩
   replace hB33:=hB33.below hE
   replace hB39:=hB39.below hE
   replace hB46:=hB46.below hE
   replace ho28:=ho28.below hE
   replace hr31:=hr31.below hE
   replace hW:=btr hW hE
   replace hEc:=btr hEc hE
   replace hJc:=btr hJc hE
   refine Yo 10 rfl (fun _=>X8 rfl)<|Yo 11 rfl (fun _=>X5 (vs:=[.agg #[vi (((opI (⟨(k:Int),[(mapG to h),(mapG to g)]⟩ : Cx)).getD mZ).rows),vi (((opI (⟨(k:Int),[(mapG to h),(mapG to g)]⟩ : Cx)).getD mZ).cols),.slice A43 (((opI (⟨(k:Int),[(mapG to h),(mapG to g)]⟩ : Cx)).getD mZ).cells).length c43],.bool ((opI (⟨(k:Int),[(mapG to h),(mapG to g)]⟩ : Cx)).isSome)]) rfl rfl)<|Yo 12 rfl (fun _=>X5 (vs:=[.agg #[vi (((opI (⟨(k:Int),[(mapG to h),(mapG to g)]⟩ : Cx)).getD mZ).rows),vi (((opI (⟨(k:Int),[(mapG to h),(mapG to g)]⟩ : Cx)).getD mZ).cols),.slice A43 (((opI (⟨(k:Int),[(mapG to h),(mapG to g)]⟩ : Cx)).getD mZ).cells).length c43],.bool ((opI (⟨(k:Int),[(mapG to h),(mapG to g)]⟩ : Cx)).isSome)]) rfl rfl) ?_
   exact fun a hf=>hJ39 _ a _ rfl ⟨b46,A43,c43,hf.sub ⟨rfl,rfl,rfl,rfl,trivial⟩,hlo46,hB46,hne33_46,hlj46,hlc46,hr43.top,hJc⟩
  intro hJ41
  refine Y2 7 13 ?_ ?_
  ·refine Yk rfl trivial (Xd (k:=2) (vs:=[.agg #[vi ((mapG to h).k),vi ((mapG to h).a),vi ((mapG to h).b)],.agg #[vi ((mapG to g).k),vi ((mapG to g).a),vi ((mapG to g).b)]]) (zs:=[vi ((mapG to h).k),vi ((mapG to h).a),vi ((mapG to h).b),vi ((mapG to g).k),vi ((mapG to g).a),vi ((mapG to g).b)]) rfl X0w X1p rfl rfl) (fun _ _ ⟨_,_,_,h,_⟩=>h) ?_;rintro _ w21 ⟨b44,rfl,hl44,hE,hB44⟩
   have hlo44:=Nat.le_trans hW.size hl44
   have hlc44:=Nat.le_trans hEc.size hl44
   have hlj44:=Nat.le_trans hJc.size hl44
   have haw28_44:=ho28.away hl44
   replace hB33:=hB33.below hE
   replace ho28:=ho28.below hE
   replace hr31:=hr31.below hE
   replace hW:=btr hW hE
   replace hEc:=btr hEc hE
   replace hJc:=btr hJc hE
   refine Yo 8 rfl (fun _=>Xt (ps:=[(0,vi (k:Int)),(1,.slice (some ⟨b44,0,none⟩) ([(mapG to h),(mapG to g)]).length 2)]) (cs:=[vi (k:Int),.slice (some ⟨b44,0,none⟩) ([(mapG to h),(mapG to g)]).length 2]) rfl (fun _=>by first|rfl|kernel_rfl)) ?_
   refine Y2 9 13 ?_ ?_
   ·refine Yk rfl trivial (Vc (F97 _ (⟨(k:Int),[(mapG to h),(mapG to g)]⟩ : Cx) (some ⟨b44,0,none⟩) 2 (Rd.of_blk hB44 rfl _ hB44.lt) (by simp)) Xf9) (fun _ _ ⟨A47,c47,_,hr47,hE⟩=>hE) ?_;rintro _ w22 ⟨A47,c47,rfl,hr47,hE⟩
    replace hB33:=hB33.below hE
    replace hB44:=hB44.below hE
    replace ho28:=ho28.below hE
    replace hr31:=hr31.below hE
    replace hW:=btr hW hE
    replace hEc:=btr hEc hE
    replace hJc:=btr hJc hE
    refine Yo 10 rfl (fun _=>X8 rfl)<|Yo 11 rfl (fun _=>X5 (vs:=[.agg #[vi (((opI (⟨(k:Int),[(mapG to h),(mapG to g)]⟩ : Cx)).getD mZ).rows),vi (((opI (⟨(k:Int),[(mapG to h),(mapG to g)]⟩ : Cx)).getD mZ).cols),.slice A47 (((opI (⟨(k:Int),[(mapG to h),(mapG to g)]⟩ : Cx)).getD mZ).cells).length c47],.bool ((opI (⟨(k:Int),[(mapG to h),(mapG to g)]⟩ : Cx)).isSome)]) rfl rfl)<|Yo 12 rfl (fun _=>X5 (vs:=[.agg #[vi (((opI (⟨(k:Int),[(mapG to h),(mapG to g)]⟩ : Cx)).getD mZ).rows),vi (((opI (⟨(k:Int),[(mapG to h),(mapG to g)]⟩ : Cx)).getD mZ).cols),.slice A47 (((opI (⟨(k:Int),[(mapG to h),(mapG to g)]⟩ : Cx)).getD mZ).cells).length c47],.bool ((opI (⟨(k:Int),[(mapG to h),(mapG to g)]⟩ : Cx)).isSome)]) rfl rfl) ?_
    refine Y1 13 ?_
    refine Yk rfl trivial (X6 (zs:=[vi 0,vi 0,.slice none 0 0]) X0p rfl) (fun _ _ ⟨_,_,_,h,_⟩=>h) ?_;rintro _ w23 ⟨b49,rfl,hl49,hE,hB49⟩
    have hne33_49:b33≠b49:=by have:=hB33.lt;omega
    have hlo49:=Nat.le_trans hW.size hl49
    have hlc49:=Nat.le_trans hEc.size hl49
    have hlj49:=Nat.le_trans hJc.size hl49
    replace hB33:=hB33.below hE
    replace hB44:=hB44.below hE
    replace ho28:=ho28.below hE
    replace hr31:=hr31.below hE
    replace hr47:=hr47.below hE
    replace hW:=btr hW hE
    replace hEc:=btr hEc hE
    replace hJc:=btr hJc hE
    exact fun a hf=>hJ39 _ a _ rfl ⟨b49,A47,c47,hf.sub ⟨rfl,rfl,rfl,rfl,trivial⟩,hlo49,hB49,hne33_49,hlj49,hlc49,hr47.top,hJc⟩
   refine Yk rfl trivial (X6 (zs:=[vi 0,vi 0,.slice none 0 0]) X0p rfl) (fun _ _ ⟨_,_,_,h,_⟩=>h) ?_;rintro _ w24 ⟨b51,rfl,hl51,hE,hB51⟩
   have hne33_51:b33≠b51:=by have:=hB33.lt;omega
   have hlo51:=Nat.le_trans hW.size hl51
   have hlc51:=Nat.le_trans hEc.size hl51
   have hlj51:=Nat.le_trans hJc.size hl51
   replace hB33:=hB33.below hE
   replace hB44:=hB44.below hE
   replace ho28:=ho28.below hE
   replace hr31:=hr31.below hE
   replace hW:=btr hW hE
   replace hEc:=btr hEc hE
   replace hJc:=btr hJc hE
   exact fun a hf=>hJ41 _ a _ rfl ⟨b44,b51,hf.sub ⟨rfl,rfl,rfl,trivial⟩,hlo44,hB44,hlo51,hB51,hne33_51,hlj44,hlc44,hlj51,hlc51,haw28_44,hJc⟩
  refine Yk rfl trivial (X6 (zs:=[vi 0,vi 0,.slice none 0 0]) X0p rfl) (fun _ _ ⟨_,_,_,h,_⟩=>h) ?_;rintro _ w25 ⟨b53,rfl,hl53,hE,hB53⟩
  have hne33_53:b33≠b53:=by have:=hB33.lt;omega
  have hlo53:=Nat.le_trans hW.size hl53
  have hlc53:=Nat.le_trans hEc.size hl53
  have hlj53:=Nat.le_trans hJc.size hl53
  replace hB33:=hB33.below hE
  replace ho28:=ho28.below hE
  replace hr31:=hr31.below hE
  replace hW:=btr hW hE
  replace hEc:=btr hEc hE
  replace hJc:=btr hJc hE
  refine Y1 7 ?_
  refine Yk rfl trivial (Xd (k:=2) (vs:=[.agg #[vi ((mapG to h).k),vi ((mapG to h).a),vi ((mapG to h).b)],.agg #[vi ((mapG to g).k),vi ((mapG to g).a),vi ((mapG to g).b)]]) (zs:=[vi ((mapG to h).k),vi ((mapG to h).a),vi ((mapG to h).b),vi ((mapG to g).k),vi ((mapG to g).a),vi ((mapG to g).b)]) rfl X0w X1p rfl rfl) (fun _ _ ⟨_,_,_,h,_⟩=>h) ?_;rintro _ w26 ⟨b54,rfl,hl54,hE,hB54⟩
  have hlo54:=Nat.le_trans hW.size hl54
  have hlc54:=Nat.le_trans hEc.size hl54
  have hlj54:=Nat.le_trans hJc.size hl54
  have haw28_54:=ho28.away hl54
  replace hB33:=hB33.below hE
  replace hB53:=hB53.below hE
  replace ho28:=ho28.below hE
  replace hr31:=hr31.below hE
  replace hW:=btr hW hE
  replace hEc:=btr hEc hE
  replace hJc:=btr hJc hE
  refine Yo 8 rfl (fun _=>Xt (ps:=[(0,vi (k:Int)),(1,.slice (some ⟨b54,0,none⟩) ([(mapG to h),(mapG to g)]).length 2)]) (cs:=[vi (k:Int),.slice (some ⟨b54,0,none⟩) ([(mapG to h),(mapG to g)]).length 2]) rfl (fun _=>by first|rfl|kernel_rfl)) ?_
  exact fun a hf=>hJ41 _ a _ rfl ⟨b54,b53,hf.sub ⟨rfl,rfl,rfl,trivial⟩,hlo54,hB54,hlo53,hB53,hne33_53,hlj54,hlc54,hlj53,hlc53,haw28_54,hJc⟩
 rintro a w27 ⟨b44,A42,c42,hf,hlo44,hB44,hne33_44,hr42,hE⟩
 replace hB33:=hB33.below hE
 replace ho28:=ho28.below hE
 replace hr31:=hr31.below hE
 replace hW:=btr hW hE
 refine hK34 _ _ ?_
 refine Zs hf fun _ hK57=>?_
 refine Ze (Vn X0k hB33)<|Ze (Vn X0k hB44) ?_
 refine Zf (Vc (Xqa _ ((opI (⟨(k:Int),(mapI ([g,h]) to)⟩ : Cx)).getD mZ) A31 c31 hr31.top ((opI (⟨(k:Int),[(mapG to h),(mapG to g)]⟩ : Cx)).getD mZ) A42 c42 hr42.top (Xmw _)) Xkp) ?_;rintro _ w28 ⟨rfl,hE⟩
 replace hB33:=hB33.below hE
 replace hB44:=hB44.below hE
 replace hr31:=hr31.below hE
 replace hr42:=hr42.below hE
 replace hW:=btr hW hE
 refine Za rfl ?_
 refine Zt hK57 fun a hf=>?_
 refine wp_ret (X2 hf (Xj hf rfl rfl) ?_)
 exact ⟨by rw [hfin];rfl,hW⟩
end Go.Proofs.YtlfjcmldfbfdbaaGreat
namespace Go.Proofs.YtlfjcmldfbfdbaaGreat
open Go.RowKit
def kV(x y:Gt) : Value:=.agg #[.int .i64 x.k,.int .i64 x.a,.int .i64 x.b,.int .i64 y.k,.int .i64 y.a,.int .i64 y.b]
structure Me where (x y:Gt) (v:Bool) (born:Nat)
def entM(m:Me) : MapEntry:={ key:=kV m.x m.y,val:=.bool m.v,born:=m.born }
def findM(l:List Me)(x y:Gt) : Option Bool:=(l.find? fun m=>decide (x=m.x)&&decide (y=m.y)).map Me.v
def GoodM(l:List Me) : Prop:=∀ m ∈ l,m.v = !commI m.x m.y
def MemoL(w:World)(b:Nat)(l:List Me)(clock:Nat) : Prop:=w.heap[b]? = some (.map (l.map entM).toArray clock)
def MemoG(w:World)(b:Nat) : Prop:=∃ l clock,MemoL w b l clock∧GoodM l
def MemoN(x y:Gt)(w:World)(b:Nat) : Prop:=∃ l clock,MemoL w b l clock∧GoodM l∧findM l x y=none
theorem MemoL.lt{w:World}{b clock:Nat}{l:List Me}(h:MemoL w b l clock) : b<w.heap.size:=by
 rcases Nat.lt_or_ge b w.heap.size with h'|h'
 ·exact h'
 ·simp [MemoL,Array.getElem?_eq_none h'] at h
theorem MemoL.below{w w':World}{b clock:Nat}{l:List Me}(h:MemoL w b l clock)(hb:Below w.heap.size w w') : MemoL w' b l clock:=(hb.block b h.lt).trans h
theorem MemoL.only{w w':World}{b b' clock:Nat}{l:List Me}(h:MemoL w b l clock)(ho:Only b' w w')(hne:b≠b') : MemoL w' b l clock:=(ho.block b hne).trans h
theorem MemoL.ne{w:World}{b b' clock:Nat}{l:List Me}{T:TypeId}{cs:List Value}(h:MemoL w b l clock)(hb:Blk w b' T cs) : b≠b':=by
 rintro rfl
 unfold MemoL at h
 unfold Blk at hb
 rw [h] at hb
 cases hb
section
variable {w w' : World} {b b' : Nat} {x y : Gt}
theorem MemoG.lt(h:MemoG w b) : b<w.heap.size:=let ⟨_,_,h,_⟩:=h;h.lt
theorem MemoG.below(h:MemoG w b)(hb:Below w.heap.size w w') : MemoG w' b:=let ⟨l,c,h,g⟩:=h;⟨l,c,h.below hb,g⟩
theorem MemoG.only(h:MemoG w b)(ho:Only b' w w')(hne:b≠b') : MemoG w' b:=let ⟨l,c,h,g⟩:=h;⟨l,c,h.only ho hne,g⟩
theorem MemoG.ne{T:TypeId}{cs:List Value}(h:MemoG w b)(hb:Blk w b' T cs) : b≠b':=let ⟨_,_,h,_⟩:=h;h.ne hb
theorem MemoG.good(h:MemoG w b) : MemoG w b:=h
theorem MemoN.good(h:MemoN x y w b) : MemoG w b:=let ⟨l,c,h,g,_⟩:=h;⟨l,c,h,g⟩
theorem MemoN.lt(h:MemoN x y w b) : b<w.heap.size:=let ⟨_,_,h,_⟩:=h;h.lt
theorem MemoN.below(h:MemoN x y w b)(hb:Below w.heap.size w w') : MemoN x y w' b:=let ⟨l,c,h,g⟩:=h;⟨l,c,h.below hb,g⟩
theorem MemoN.only(h:MemoN x y w b)(ho:Only b' w w')(hne:b≠b') : MemoN x y w' b:=let ⟨l,c,h,g⟩:=h;⟨l,c,h.only ho hne,g⟩
theorem MemoN.ne{T:TypeId}{cs:List Value}(h:MemoN x y w b)(hb:Blk w b' T cs) : b≠b':=let ⟨_,_,h,_⟩:=h;h.ne hb
theorem Blk.onlyM{T:TypeId}{cs:List Value}(h:Blk w b' T cs)(ho:Only b w w')(hm:MemoG w b) : Blk w' b' T cs:=h.only ho (Ne.symm (hm.ne h))
theorem Rd.onlyM{α:Type}{B:Nat}{E:TypeId}{enc:α→List Value}{A:Option Addr}{l:List α}(h:Rd w B E enc A l)(ho:Only b w w')(hm:MemoG w b) : Rd w' B E enc A l:=h.chg fun k cs fz _ hk=>ho.block k fun e=>by
 obtain ⟨_,_,hL,_⟩:=hm
 unfold MemoL at hL
 rw [e,hL] at hk
 cases hk
end
theorem Xdl{l:List Me}{x y:Gt}{v:Bool}(h:GoodM l)(hf:findM l x y=some v) : v = !commI x y:=by
 unfold findM at hf
 rw [Option.map_eq_some_iff] at hf
 obtain ⟨m,h1,h2⟩:=hf
 have h3:=List.find?_some h1
 simp only [Bool.and_eq_true,decide_eq_true_eq] at h3
 rw [← h2,h m (List.mem_of_find?_eq_some h1),h3.1,h3.2]
def LookM(w:World)(b:Nat)(x y:Gt)(v k:Bool) : Prop:=∃ l clock,MemoL w b l clock∧((k=true∧findM l x y=some v)∨(k=false∧v=false∧findM l x y=none))
theorem MemoG.look{w:World}{b:Nat}(h:MemoG w b)(x y:Gt) : ∃ v k,LookM w b x y v k∧(k=true→v = !commI x y)∧(k=false→MemoN x y w b):=by
 obtain ⟨l,clock,hL,hg⟩:=h
 cases hf:findM l x y with
 | none=>exact ⟨false,false,⟨l,clock,hL,.inr ⟨rfl,rfl,hf⟩⟩,(fun h=>by cases h),fun _=>⟨l,clock,hL,hg,hf⟩⟩
 | some v=>exact ⟨v,true,⟨l,clock,hL,.inl ⟨rfl,hf⟩⟩,fun _=>Xdl hg hf,(fun h=>by cases h)⟩
section
variable {a : Act} {w : World} {n : Nat} {e : Env} {ty : TypeId} {pos : String} {af : Array Edge} {g : Option (Nat × Bool)} {d : Option Tmp} {x y : Gt} {b : Nat}
end
section
variable {P : Program} {a : Act} {w : World} {n : Nat} {e : Env} {ty : TypeId} {pos : String} {af : Array Edge} {g : Option (Nat × Bool)} {d : Option Tmp}
theorem Xab{T E:TypeId}{len sz b off m k:Nat}{x y:Operand}{i:Int}(hf:Fr a n e)(hx:ev e x=some (.pointer (some ⟨b,off,none⟩)))(hy:ev e y=some (.int .i64 i))(hT:P.underlying T=some (.array len E))(hs:SizeT P E sz)(hi:i=(k:Int))(hk:k<len)(hm:off+k*sz=m) :
  Ev P ⟨d,.indexAddr T x y,ty,pos,af,g⟩ a w (.pointer (some ⟨b,m,none⟩)):=fun w' _=>by
 subst hi hm
 have h1:=X0l (P:=P) hT w'
 have h2:=run_sizeOf' hs w'
 simp [execOp,Instr.indexAt,asIntOf,Instr.sureAddr,hf.ev hx,hf.ev hy,h1,h2,hk,X1h]
theorem X48{T E:TypeId}{len sz b off m k:Nat}{x y:Operand}{i:Int}(hx:ev e x=some (.pointer (some ⟨b,off,none⟩)))(hy:ev e y=some (.int .i64 i))(hT:P.underlying T=some (.array len E))(hs:SizeT P E sz)(hi:i=(k:Int))(hk:k<len)(hm:off+k*sz=m) : EvW P ⟨d,.indexAddr T x y,ty,pos,af,g⟩ n e w (.pointer (some ⟨b,m,none⟩)):=fun a hf=>Xab hf hx hy hT hs hi hk hm
end
section
variable {P : Program} {a : Act} {w : World} {n : Nat} {e : Env} {α : Type} {ops : Array Oper} {ty : TypeId} {pos : String} {af : Array Edge} {g : Option (Nat × Bool)} {d : Nat}
end
section
variable {gs : List Gt} {s : List Int} {i : Nat} {g : Gt}
end
end Go.Proofs.YtlfjcmldfbfdbaaGreat
namespace Go.Proofs.YtlfjcmldfbfdbaaGreat
open Go.RowKit
theorem X7k:∀ n:Nat,lowN n ⟨0,0,0,0⟩=(⟨0,0,0,0⟩,0)
 | 0=>rfl
 | n+1=>by
  rw [lowN,if_pos (show rEven ⟨0,0,0,0⟩=true from rfl)]
  exact X7k n
theorem Xe7{e:Int}(h:0≤e) : dLow ⟨0,0,0,0⟩ e=dZ:=by
 unfold dLow
 rw [X7k]
 split
 ·rfl
 ·obtain rfl:e=0:=by omega
  rfl
theorem Xe1{z:Dy}(h:dOk z=true) : dMulI z dZ=some dZ:=by
 have hz:=X1b.1 h
 have h0:rMul z.num ⟨0,0,0,0⟩=⟨0,0,0,0⟩:=by simp [rMul,wr0]
 have h1:rOk ⟨0,0,0,0⟩=true:=rfl
 unfold dMulI
 rw [h,X7m,show dZ.num=⟨0,0,0,0⟩ from rfl,rIf1,X1z hz.1 h1,h0,h1]
 simp only [Bool.and_self,if_true]
 unfold dOf
 rw [h1,show z.exp+dZ.exp=z.exp from by simp [dZ],Xh.2 hz.2.1]
 simp only [Bool.and_self,if_true]
 rw [Xe7 hz.2.1.1]
theorem Xdc{z:Dy}(h:dOk z=true) : dLow z.num z.exp=z:=by
 have hz:=X1b.1 h
 exact X1o fun h0=>by rcases hz.2.2 with h4|h4;exact absurd h4 (by omega);exact h4
theorem X79:∀ n:Nat,raiseI n ⟨0,0,0,0⟩=(⟨0,0,0,0⟩,true)
 | 0=>rfl
 | n+1=>by
  rw [raiseI,show rRoot ⟨0,0,0,0⟩=⟨0,0,0,0⟩ from rfl,if_pos (show rIf2 ⟨0,0,0,0⟩ [⟨0,0,0,0⟩]=true from rfl)]
  exact X79 n
theorem Xdr{x:Rg}(h:rOk x=true) : rAdd ⟨0,0,0,0⟩ x=x∧rAdd x ⟨0,0,0,0⟩=x:=by
 have h1:=X1q.1 h
 obtain ⟨a,b,c,d⟩:=x
 dsimp only at h1
 simp only [rAdd,Int.zero_add,Int.add_zero]
 rw [X06 (by omega) (by omega),X06 (by omega) (by omega),X06 (by omega) (by omega),X06 (by omega) (by omega)]
 exact ⟨rfl,rfl⟩
theorem X5c{z:Dy}(h:dOk z=true) : dAddI dZ z=some z∧dAddI z dZ=some z:=by
 have hz:=X1b.1 h
 have e1:max dZ.exp z.exp=z.exp:=by simp only [dZ];omega
 have e2:max z.exp dZ.exp=z.exp:=by simp only [dZ];omega
 have r1:dRaise dZ z.exp=(⟨0,0,0,0⟩,true):=X79 _
 have r2:dRaise z z.exp=(z.num,true):=by unfold dRaise;rw [show (z.exp-z.exp).toNat=0 from by omega];rfl
 have a:=Xdr hz.1
 have h0:rOk ⟨0,0,0,0⟩=true:=rfl
 have hof:dOf z.num z.exp=some z:=by
  unfold dOf
  rw [hz.1,Xh.2 hz.2.1]
  simp only [Bool.and_self,if_true]
  rw [Xdc h]
 refine ⟨?_,?_⟩
 ·unfold dAddI
  rw [h,X7m,e1,r1,r2,rIf1,a.1,X1z h0 hz.1,hz.1]
  simp only [Bool.and_self,if_true]
  exact hof
 ·unfold dAddI
  rw [h,X7m,e2,r1,r2,rIf1,a.2,X1z hz.1 h0,hz.1]
  simp only [Bool.and_self,if_true]
  exact hof
theorem Xb8(z:Dy) : dTurn ((0:Nat) : Int) z=z:=rfl
theorem Xii{d i j:Nat}(hi:i<d)(hj:j<d) : (unitS d).at i j=if i=j then dPow 0 else dZ:=by
 unfold Mx.at unitS
 simp only [Int.toNat_natCast]
 have hlt:i*d+j<d*d:=X3c hi hj
 rw [List.getD_eq_getElem?_getD,List.getElem?_eq_getElem (by rw [X2m];exact hlt)]
 simp only [gridL,List.getElem_map,List.getElem_range,Option.getD_some]
 exact X6t hj
theorem Xae{m:Mx}{d i j:Nat}(hm:AllOk m)(hj:j<d) : ∀ n,n≤d→dotI m (unitS d) i j n=some (if j<n then m.at i j else dZ)
 | 0,_=>by simp [dotI]
 | n+1,hn=>by
  rw [dotI,Xae hm hj n (by omega),Xii (by omega) hj]
  have hok:=Mx.at_ok hm i n
  by_cases h:n=j
  ·subst h
   have ht:=Xd7 hok (k:=0) (by decide)
   rw [if_pos rfl,if_neg (Nat.lt_irrefl _),if_pos (Nat.lt_succ_self _)]
   show (dMulI (m.at i n) (dPow ((0:Nat) : Int))).bind _=_
   rw [ht,Xb8]
   exact (X5c hok).1
  ·rw [if_neg h]
   simp only [Option.bind_some]
   rw [Xe1 hok]
   simp only [Option.bind_some]
   by_cases hl:j<n
   ·rw [if_pos hl,if_pos (by omega)]
    exact (X5c (Mx.at_ok hm i j)).2
   ·rw [if_neg hl,if_neg (by omega)]
    exact (X5c X7m).1
theorem X71{f g:Nat→Option Dy} : ∀ n,(∀ k,k<n→f k=g k)→seqO f n=seqO g n
 | 0,_=>rfl
 | n+1,h=>by rw [seqO,seqO,X71 n (fun k hk=>h k (by omega)),h n (by omega)]
theorem Xak{R C:Int}{f g:Nat→Nat→Option Dy}(h:∀ i j,i<R.toNat→j<C.toNat→f i j=g i j) : matOf R C f=matOf R C g:=by
 unfold matOf
 rw [X71 (f:=gridG f C.toNat) (g:=gridG g C.toNat)]
 intro k hk
 have hc:0<C.toNat:=by
  rcases Nat.eq_zero_or_pos C.toNat with h0|h0
  ·rw [h0,Nat.mul_zero] at hk;omega
  ·exact h0
 exact h _ _ (Nat.div_lt_of_lt_mul (by rwa [Nat.mul_comm])) (Nat.mod_lt _ hc)
theorem Xho{n:Int}{g:Gt}{i j:Nat}(hi:i<2^n.toNat)(hj:j<2^n.toNat) : (gateS n g).at i j=cellS n g i j:=by
 unfold Mx.at gateS
 simp only [Int.toNat_natCast]
 rw [List.getD_eq_getElem?_getD,List.getElem?_eq_getElem (by rw [X2m];exact X3c hi hj)]
 simp only [gridL,List.getElem_map,List.getElem_range,Option.getD_some]
 exact X6t (f:=fun i j=>cellS n g i j) hj
theorem Xdp{n:Int}{g:Gt}(hg:gOk n g=true) : mulI (gateS n g) (unitS (2^n.toNat))=some (gateS n g):=by
 have hok:=(X0x hg).2
 have hd:=X26 (X0m hg).1
 have hu:=(X2z hd).2
 unfold mulI
 rw [hok,hu,show ((gateS n g).cols==(unitS (2^n.toNat)).rows)=true from by simp [gateS,unitS]]
 simp only [Bool.and_self,if_true]
 rw [show (gateS n g).rows=((2^n.toNat:Nat) : Int) from rfl,show (gateS n g).cols=((2^n.toNat:Nat) : Int) from rfl,show (unitS (2^n.toNat)).cols=((2^n.toNat:Nat) : Int) from rfl]
 simp only [Int.toNat_natCast]
 rw [Xak (g:=fun i j=>some (cellS n g i j)) fun i j hi hj=>?_,X4g hd hd (fun i j=>cellS n g i j)]
 ·simp only [Int.toNat_natCast];rfl
 ·simp only [Int.toNat_natCast] at hi hj
  rw [Xae (X2j hok) hj _ (Nat.le_refl _),if_pos hj,Xho hi hj]
end Go.Proofs.YtlfjcmldfbfdbaaGreat
namespace Go.Proofs.YtlfjcmldfbfdbaaGreat
open Go.RowKit
def RB(k:Int)(x:Rg) : Prop:=(-k≤x.a∧x.a≤k)∧(-k≤x.b∧x.b≤k)∧(-k≤x.c∧x.c≤k)∧(-k≤x.d∧x.d≤k)
def SM(e:Int)(k:Int)(x:Dy) : Prop:=dOk x=true∧RB k x.num∧x.exp≤e
theorem RB.ok{k:Int}{x:Rg}(h:RB k x)(hk:k≤1000000000) : rOk x=true:=by
 unfold RB at h
 exact X1q.2 (by omega)
theorem RB.root{k:Int}{x:Rg}(h:RB k x)(hk:k≤1000000000) : RB (2*k) (rRoot x):=by
 unfold RB at *
 simp only [rRoot]
 rw [X06 (by omega) (by omega),X06 (by omega) (by omega),X06 (by omega) (by omega),X06 (by omega) (by omega)]
 omega
theorem RB.half{k:Int}{x:Rg}(h:RB k x)(h0:0≤k)(hk:k≤1000000000) : RB k (rHalf x):=by
 have h1:=h.root hk
 unfold RB at *
 simp only [rHalf]
 have hd:∀ i:Int,-(2*k)≤i→i≤2*k→-k≤wr (i.tdiv 2)∧wr (i.tdiv 2)≤k:=fun i a b=>by
  have:-k≤i.tdiv 2∧i.tdiv 2≤k:=by
   rcases Int.le_total 0 i with h|h
   ·rw [Int.tdiv_eq_ediv_of_nonneg h];omega
   ·have e:i.tdiv 2 = -((-i).tdiv 2):=by rw [Int.neg_tdiv,Int.neg_neg]
    rw [e,Int.tdiv_eq_ediv_of_nonneg (by omega)];omega
  rw [X06 (by omega) (by omega)]
  exact this
 exact ⟨hd _ h1.1.1 h1.1.2,hd _ h1.2.1.1 h1.2.1.2,hd _ h1.2.2.1.1 h1.2.2.1.2,hd _ h1.2.2.2.1 h1.2.2.2.2⟩
theorem RB.low{k:Int}(h0:0≤k)(hk:k≤1000000000) : ∀ (n:Nat) {x:Rg},RB k x→RB k (lowN n x).1
 | 0,_,h=>h
 | n+1,x,h=>by
  rw [lowN]
  split
  ·exact RB.low h0 hk n (h.half h0 hk)
  ·exact h
theorem RB.raise{k:Int}(hk:4*k≤1000000000)(h0:0≤k){n:Nat}(hn:n≤2){x:Rg}(h:RB k x) : (raiseI n x).2=true∧RB (4*k) (raiseI n x).1:=by
 have m:∀ {a b:Int} {y:Rg},RB a y→a≤b→RB b y:=fun h hab=>by unfold RB at *;omega
 have step:∀ {a:Int} {y:Rg},0≤a→2*a≤1000000000→RB a y→rIf2 (rRoot y) [y]=true:=fun ha h2 h=>by
  rw [X42 (h.ok (by omega))];exact (h.root (by omega)).ok h2
 match n,hn with
 | 0,_=>exact ⟨rfl,m h (by omega)⟩
 | 1,_=>
  rw [raiseI,if_pos (step h0 (by omega) h)]
  exact ⟨rfl,m (h.root (by omega)) (by omega)⟩
 | 2,_=>
  have h1:=h.root (by omega)
  rw [raiseI,if_pos (step h0 (by omega) h),raiseI,if_pos (step (by omega) (by omega) h1)]
  exact ⟨rfl,m (h1.root (by omega)) (by omega)⟩
theorem Xau{k e:Int}{x:Rg}(h:RB k x)(h0:0≤k)(hk:k≤1000000000)(he:0≤e)(he2:e≤60) : ∃ z,dOf x e=some z∧SM e k z:=by
 refine ⟨dLow x e,?_,X55 (h.ok hk) he he2,RB.low h0 hk _ h,(X5d he).2⟩
 unfold dOf
 rw [h.ok hk,Xh.2 ⟨he,he2⟩];rfl
theorem one_mul{a b:Int}(ha:-1≤a∧a≤1)(hb:-1≤b∧b≤1) : -1≤a*b∧a*b≤1:=by
 have:a = -1∨a=0∨a=1:=by omega
 rcases this with rfl|rfl|rfl<;>omega
theorem w4:∀ p q r s:Int,(-1≤p∧p≤1)→(-1≤q∧q≤1)→(-1≤r∧r≤1)→(-1≤s∧s≤1)→(-4≤wr (wr (wr (wr p-wr q)-wr r)-wr s)∧wr (wr (wr (wr p-wr q)-wr r)-wr s)≤4)∧(-4≤wr (wr (wr (wr p+wr q)-wr r)-wr s)∧wr (wr (wr (wr p+wr q)-wr r)-wr s)≤4)∧(-4≤wr (wr (wr (wr p+wr q)+wr r)-wr s)∧wr (wr (wr (wr p+wr q)+wr r)-wr s)≤4)∧(-4≤wr (wr (wr (wr p+wr q)+wr r)+wr s)∧wr (wr (wr (wr p+wr q)+wr r)+wr s)≤4):=fun p q r s hp hq hr hs=>by
 have a1:wr p=p:=X06 (by omega) (by omega)
 have a2:wr q=q:=X06 (by omega) (by omega)
 have a3:wr r=r:=X06 (by omega) (by omega)
 have a4:wr s=s:=X06 (by omega) (by omega)
 have b1:wr (p-q)=p-q:=X06 (by omega) (by omega)
 have b2:wr (p+q)=p+q:=X06 (by omega) (by omega)
 have c1:wr (p-q-r)=p-q-r:=X06 (by omega) (by omega)
 have c2:wr (p+q-r)=p+q-r:=X06 (by omega) (by omega)
 have c3:wr (p+q+r)=p+q+r:=X06 (by omega) (by omega)
 have d1:wr (p-q-r-s)=p-q-r-s:=X06 (by omega) (by omega)
 have d2:wr (p+q-r-s)=p+q-r-s:=X06 (by omega) (by omega)
 have d3:wr (p+q+r-s)=p+q+r-s:=X06 (by omega) (by omega)
 have d4:wr (p+q+r+s)=p+q+r+s:=X06 (by omega) (by omega)
 rw [a1,a2,a3,a4,b1,b2,c1,c2,c3,d1,d2,d3,d4]
 refine ⟨⟨?_,?_⟩,⟨?_,?_⟩,⟨?_,?_⟩,?_,?_⟩<;>omega
theorem Xed{x y:Dy}(hx:SM 1 1 x)(hy:SM 1 1 y) : ∃ z,dMulI x y=some z∧SM 2 4 z:=by
 obtain ⟨ox,⟨xa,xb,xc,xd⟩,ex⟩:=hx
 obtain ⟨oy,⟨ya,yb,yc,yd⟩,ey⟩:=hy
 have hx0:=X1r ox
 have hy0:=X1r oy
 have hm:RB 4 (rMul x.num y.num):=by
  unfold RB
  simp only [rMul]
  exact ⟨(w4 _ _ _ _ (one_mul xa ya) (one_mul xb yd) (one_mul xc yc) (one_mul xd yb)).1,(w4 _ _ _ _ (one_mul xa yb) (one_mul xb ya) (one_mul xc yd) (one_mul xd yc)).2.1,(w4 _ _ _ _ (one_mul xa yc) (one_mul xb yb) (one_mul xc ya) (one_mul xd yd)).2.2.1,(w4 _ _ _ _ (one_mul xa yd) (one_mul xb yc) (one_mul xc yb) (one_mul xd ya)).2.2.2⟩
 have ho:=hm.ok (by decide)
 obtain ⟨z,h1,h2,h3,h4⟩:=Xau hm (by decide) (by decide) (show 0≤x.exp+y.exp by omega) (by omega)
 refine ⟨z,?_,h2,h3,by omega⟩
 unfold dMulI
 rw [ox,oy,rIf1,X1z (X1b.1 ox).1 (X1b.1 oy).1,ho]
 exact h1
theorem Xde{k:Int}{s x:Dy}(h0:0≤k)(hk:4*k+16≤1000000000)(hs:SM 2 k s)(hx:SM 2 4 x) : ∃ z,dAddI s x=some z∧SM 2 (4*k+16) z:=by
 obtain ⟨os,bs,es⟩:=hs
 obtain ⟨ox,bx,ex⟩:=hx
 have hs0:=X1r os
 have hx0:=X1r ox
 obtain ⟨r1,b1⟩:=bs.raise (n:=(max s.exp x.exp-s.exp).toNat) (by omega) h0 (by omega)
 obtain ⟨r2,b2⟩:=bx.raise (n:=(max s.exp x.exp-x.exp).toNat) (by decide) (by decide) (by omega)
 have hb:RB (4*k+16) (rAdd (dRaise s (max s.exp x.exp)).1 (dRaise x (max s.exp x.exp)).1):=by
  unfold RB at *
  simp only [rAdd,dRaise]
  rw [X06 (by omega) (by omega),X06 (by omega) (by omega),X06 (by omega) (by omega),X06 (by omega) (by omega)]
  omega
 have ho:=hb.ok hk
 obtain ⟨z,h1,h2,h3,h4⟩:=Xau hb (by omega) hk (show 0≤max s.exp x.exp by omega) (by omega)
 refine ⟨z,?_,h2,h3,by omega⟩
 unfold dAddI
 have i2:rIf2 (rAdd (dRaise s (max s.exp x.exp)).1 (dRaise x (max s.exp x.exp)).1) [(dRaise s (max s.exp x.exp)).1,(dRaise x (max s.exp x.exp)).1]=true:=by
  exact (X1z (x:=(dRaise s (max s.exp x.exp)).1) (y:=(dRaise x (max s.exp x.exp)).1) (b1.ok (by omega)) (b2.ok (by decide))).trans ho
 rw [os,ox,rIf1,i2,show (dRaise s (max s.exp x.exp)).2=true from r1,show (dRaise x (max s.exp x.exp)).2=true from r2]
 exact h1
def dotK:Nat→Int
 | 0=>0
 | n+1=>4*dotK n+16
theorem X5m:∀ n,0≤dotK n∧dotK n≤dotK (n+1)
 | 0=>by decide
 | n+1=>by have:=X5m n;simp only [dotK] at *;omega
theorem Xha{n:Nat}(h:n≤8) : dotK n≤1000000000:=by
 have:∀ d n,n+d=8→dotK n≤dotK 8:=fun d=>by
  induction d with
  | zero=>intro n hn;rw [show n=8 from by omega];exact Int.le_refl _
  | succ d ih=>intro n hn;exact Int.le_trans (X5m n).2 (ih (n+1) (by omega))
 exact Int.le_trans (this (8-n) n (by omega)) (by decide)
theorem X9j{a b:Mx}{i j:Nat}(ha:∀ i j,SM 1 1 (a.at i j))(hb:∀ i j,SM 1 1 (b.at i j)) : ∀ n,n≤8→∃ z,dotI a b i j n=some z∧SM 2 (dotK n) z
 | 0,_=>⟨dZ,rfl,by decide,by unfold RB dotK dZ;decide,by decide⟩
 | n+1,h=>by
  obtain ⟨s,h1,h2⟩:=X9j (i:=i) (j:=j) ha hb n (by omega)
  obtain ⟨x,h3,h4⟩:=Xed (ha i n) (hb n j)
  obtain ⟨z,h5,h6⟩:=Xde (X5m n).1 (by have:=Xha h;simp only [dotK] at this;exact this) h2 h4
  refine ⟨z,?_,h6⟩
  rw [dotI,h1,Option.bind_some,h3,Option.bind_some]
  exact h5
end Go.Proofs.YtlfjcmldfbfdbaaGreat
namespace Go.Proofs.YtlfjcmldfbfdbaaGreat
open Go.RowKit
def smB(z:Dy) : Bool:=dOk z&&inR z.num.a (-1) 1&&inR z.num.b (-1) 1&&inR z.num.c (-1) 1&&inR z.num.d (-1) 1&&decide (z.exp≤1)
theorem Xfo{z:Dy}(h:smB z=true) : SM 1 1 z:=by
 simp only [smB,Bool.and_eq_true,Xh,decide_eq_true_eq] at h
 obtain ⟨⟨⟨⟨⟨h1,h2⟩,h3⟩,h4⟩,h5⟩,h6⟩:=h
 exact ⟨h1,⟨h2,h3,h4,h5⟩,h6⟩
theorem Xg1{k:Int}(h:1≤k∧k≤8){i j:Int}(hi:i=0∨i=1)(hj:j=0∨j=1) : smB (entryI k i j)=true:=by
 have:k=1∨k=2∨k=3∨k=4∨k=5∨k=6∨k=7∨k=8:=by omega
 rcases this with rfl|rfl|rfl|rfl|rfl|rfl|rfl|rfl<;>rcases hi with rfl|rfl<;>rcases hj with rfl|rfl<;>rfl
theorem Xhh{n:Int}{g:Gt}(hg:gOk n g=true)(i j:Int) : smB (cellI n g i j)=true:=by
 obtain ⟨hn,hk0,ha,hb⟩:=X0m hg
 unfold cellI
 split
 ·split<;>rfl
 ·split
  ·split
   ·split<;>rfl
   ·rfl
  ·rename_i h1 h2
   split
   ·exact Xg1 (by have h3:¬ (9≤g.k∧g.k≤11):=fun h=>h2 (Xh.2 h);omega) (X21 _ _ _) (X21 _ _ _)
   ·rfl
theorem Xcb{n:Int}{g:Gt}(hg:gOk n g=true)(i j:Nat) : SM 1 1 ((gateS n g).at i j):=by
 have hall:∀ x ∈ (gateS n g).cells,smB x=true:=fun x hx=>by
  have he:gridL (fun i j=>cellI n g i j) (2^n.toNat) (2^n.toNat*2^n.toNat)=gridL (fun i j=>cellS n g i j) (2^n.toNat) (2^n.toNat*2^n.toNat):=X63 fun i j hi hj=>Xd1 hg hi hj
  simp only [gateS] at hx
  rw [← he] at hx
  obtain ⟨i,j,_,_,rfl⟩:=X5s hx
  exact Xhh hg _ _
 unfold Mx.at
 rw [List.getD_eq_getElem?_getD]
 cases h:(gateS n g).cells[i*(gateS n g).cols.toNat+j]? with
 | none=>exact Xfo rfl
 | some x=>exact Xfo (hall x (List.mem_of_getElem? h))
theorem Xam{f:Nat→Option Dy} : ∀ n,(∀ k,k<n→∃ z,f k=some z)→∃ l,seqO f n=some l
 | 0,_=>⟨[],rfl⟩
 | n+1,h=>by
  obtain ⟨l,hl⟩:=Xam n fun k hk=>h k (by omega)
  obtain ⟨z,hz⟩:=h n (by omega)
  exact ⟨_,X5t hl hz⟩
theorem Xit{n:Int}(h:n≤3) : 2^n.toNat≤8:=Nat.pow_le_pow_right (n:=2) (by decide) (show n.toNat≤3 by omega)
theorem Xbt{n:Int}{g h:Gt}(hg:gOk n g=true)(hh:gOk n h=true)(hn:n≤3) : ∃ m,mulI (gateS n g) (gateS n h)=some m:=by
 have hd:=X26 (X0m hg).1
 unfold mulI
 rw [(X0x hg).2,(X0x hh).2,show ((gateS n g).cols==(gateS n h).rows)=true from by simp [gateS]]
 simp only [Bool.and_self,if_true]
 unfold matOf
 rw [show (gateS n g).rows=((2^n.toNat:Nat) : Int) from rfl,show (gateS n h).cols=((2^n.toNat:Nat) : Int) from rfl,hd]
 simp only [Bool.and_self,if_true]
 obtain ⟨l,hl⟩:=Xam (f:=gridG (fun i j=>dotI (gateS n g) (gateS n h) i j (gateS n g).cols.toNat) (((2^n.toNat:Nat) : Int)).toNat) ((((2^n.toNat:Nat) : Int)).toNat*(((2^n.toNat:Nat) : Int)).toNat) fun k _=>by
  obtain ⟨z,hz,_⟩:=X9j (i:=k/(((2^n.toNat:Nat) : Int)).toNat) (j:=k % (((2^n.toNat:Nat) : Int)).toNat) (Xcb hg) (Xcb hh) (gateS n g).cols.toNat (by rw [show (gateS n g).cols=((2^n.toNat:Nat) : Int) from rfl,Int.toNat_natCast];exact Xit hn)
  exact ⟨z,hz⟩
 rw [hl]
 exact ⟨_,rfl⟩
theorem Xez{n:Int}{g h:Gt}(hg:gOk n g=true)(hh:gOk n h=true) : opI ⟨n,[g,h]⟩=(mulI (gateS n h) (gateS n g)):=by
 have hn:=(X0m hg).1
 have hok:cOk ⟨n,[g,h]⟩=true:=by
  unfold cOk
  simp [hg,hh,Xh.2 hn]
 rw [opI,if_pos hok,(X2z (X26 hn)).1]
 simp only [Option.bind_some,applI]
 rw [(X0x hg).1,(X0x hh).1]
 simp only [Option.getD_some]
 rw [Xdp hg]
 simp only [Option.bind_some]
 cases mulI (gateS n h) (gateS n g)<;>rfl
theorem Xcn{g:Gt}{x:Int}(h:x ∈ qubI g) : ∃ y,∀ z ∈ qubI g,z=x∨z=y:=by
 unfold qubI at *
 split at h
 ·cases h
 ·rename_i h12
  rw [if_neg h12]
  split at h
  ·rename_i h9
   rw [if_pos h9]
   rcases List.mem_cons.1 h with rfl|h
   ·exact ⟨g.b,fun z hz=>by simpa using hz⟩
   ·obtain rfl:=List.mem_singleton.1 h
    exact ⟨g.a,fun z hz=>by
     have:z=g.a∨z=g.b:=by simpa using hz
     exact this.symm⟩
  ·rename_i h9
   rw [if_neg h9]
   obtain rfl:=List.mem_singleton.1 h
   exact ⟨g.a,fun z hz=>.inl (by simpa using hz)⟩
theorem Xdi{l:List Int}(hi:Inc l){p q r:Int}(h:∀ x ∈ l,x=p∨x=q∨x=r) : l.length≤3:=by
 rcases Nat.lt_or_ge 3 l.length with h4|h4
 ·have a:=fun (i j:Nat) (hj:j<l.length) (hij:i<j)=>List.pairwise_iff_getElem.1 hi i j (by omega) hj hij
  have a1:=a 0 1 (by omega) (by omega)
  have a2:=a 1 2 (by omega) (by omega)
  have a3:=a 2 3 (by omega) (by omega)
  have b0:=h _ (List.getElem_mem (show 0<l.length by omega))
  have b1:=h _ (List.getElem_mem (show 1<l.length by omega))
  have b2:=h _ (List.getElem_mem (show 2<l.length by omega))
  have b3:=h _ (List.getElem_mem (show 3<l.length by omega))
  omega
 ·exact h4
theorem X66{g h:Gt}(hc:comS g h=true) : (unionS g h).length≤3:=by
 obtain ⟨x,h1,h2⟩:=X2q.1 hc
 obtain ⟨y,hy⟩:=Xcn h1
 obtain ⟨z,hz⟩:=Xcn h2
 refine Xdi (X2c g h) (p:=x) (q:=y) (r:=z) fun u hu=>?_
 rcases X1c.1 hu with h|h
 ·rcases hy u h with h|h<;>simp [h]
 ·rcases hz u h with h|h<;>simp [h]
theorem Xcx{n:Int}{g h:Gt}(hg:gOk n g=true)(hh:gOk n h=true) : commI h g=commS g h:=by
 by_cases hc:comS g h=true
 ·have hc':comI h g=true:=by rw [← X90];exact hc
  have hU:unionI (qubI h) (qubI g)=unionS g h:=Xc8 _ _ (X80 _ _) (X2c g h) (fun x=>by rw [X7p,X1c];exact Or.comm)
  have P:PairOk (unionS g h) g h:=X6k hg hh (X2q.1 hc) (X2c g h) (fun x=>X1c)
  have h3:=X66 hc
  have m1:mapG (numbI (unionS g h)) g=smallG (unionS g h) g:=X7w P.low ⟨hg,fun x hx=>X1c.2 (.inl hx)⟩
  have m2:mapG (numbI (unionS g h)) h=smallG (unionS g h) h:=X7w P.low ⟨hh,fun x hx=>X1c.2 (.inr hx)⟩
  rw [commI,if_pos hc',commS,if_pos hc,hU]
  simp only [mapI,List.map_cons,List.map_nil,m1,m2]
  rw [Xez P.hs P.gs,Xez P.gs P.hs]
  obtain ⟨A,hA⟩:=Xbt P.gs P.hs (by omega)
  obtain ⟨B,hB⟩:=Xbt P.hs P.gs (by omega)
  have tA:=((X29 (X0x P.gs).2 (X0x P.hs).2 rfl).1 A hA).1
  have tB:=((X29 (X0x P.hs).2 (X0x P.gs).2 rfl).1 B hB).1
  rw [hA,hB,tA]
  dsimp only
  rw [tB]
  rfl
 ·have hc':¬ comI h g=true:=by rw [← X90];exact hc
  rw [commI,if_neg hc',commS,if_neg hc]
end Go.Proofs.YtlfjcmldfbfdbaaGreat
namespace Go.Proofs.YtlfjcmldfbfdbaaGreat
open Go.RowKit
def fitA(gs:List Gt)(i:Nat)(k:Int)(out:List Int)(j:Nat) : Bool:=decide (j<i)&&!commI (gs.getD j gZ) (gs.getD i gZ)&&(out.getD j 0==0||decide (k≤out.getD j 0))
def fitB(gs:List Gt)(i:Nat)(k:Int)(out:List Int)(j:Nat) : Bool:=decide (j≠i)&&out.getD j 0==k&&comI (gs.getD j gZ) (gs.getD i gZ)
def fitC(gs:List Gt)(i:Nat)(k:Int)(out:List Int)(j:Nat) : Bool:=fitA gs i k out j||fitB gs i k out j
def fitsI(gs:List Gt)(i:Nat)(k:Int)(out:List Int) : Bool:=!(List.range gs.length).any (fitC gs i k out)
def mayI(gs:List Gt)(k:Int)(out:List Int)(i:Nat) : Bool:=(gs.getD i gZ).k != 12&&out.getD i 0==0&&fitsI gs i k out
def stepI(gs:List Gt)(k:Int)(out:List Int)(i:Nat) : List Int:=if mayI gs k out i=true then out.set i k else out
def sweepN(gs:List Gt)(k:Int)(out:List Int)(i:Nat) : List Int:=(List.range i).foldl (stepI gs k) out
def cntZ:List Gt→List Int→Nat
 | g::gs,x::xs=>(if g.k≠12∧x=0 then 1 else 0)+cntZ gs xs
 | _,_=>0
def runI(gs:List Gt) : Nat→Int→List Int→List Int
 | 0,_,out=>out
 | f+1,k,out=>if cntZ gs out=0 then out else runI gs f (k+1) (sweepN gs k out gs.length)
def schedOf(c:Cx) : List Int:=if cOk c=true then runI c.gs c.gs.length 1 (List.replicate c.gs.length 0) else []
theorem getD_some{α:Type}{l:List α}{i:Nat}{d x:α}(h:l[i]? = some x) : l.getD i d=x:=by rw [List.getD_eq_getElem?_getD,h];rfl
structure Sch (gs:List Gt) (k:Int) (out:List Int) : Prop where
 len:out.length=gs.length
 low:∀ j,j<gs.length→0≤out.getD j 0∧out.getD j 0<k
 w:∀ j,j<gs.length→(gs.getD j gZ).k=12→out.getD j 0=0
theorem Xa9{out:List Int}{i j:Nat}{k:Int}(hi:i<out.length) : (out.set i k).getD j 0=if j=i then k else out.getD j 0:=by
 rw [List.getD_eq_getElem?_getD,List.getD_eq_getElem?_getD,List.getElem?_set]
 by_cases h:i=j
 ·subst h;rw [if_pos rfl,if_pos hi,if_pos rfl];rfl
 ·rw [if_neg h,if_neg (Ne.symm h)]
structure SchM (gs:List Gt) (k:Int) (out:List Int) : Prop where
 len:out.length=gs.length
 low:∀ j,j<gs.length→0≤out.getD j 0∧out.getD j 0≤k
 w:∀ j,j<gs.length→(gs.getD j gZ).k=12→out.getD j 0=0
theorem Sch.mid{gs:List Gt}{k:Int}{out:List Int}(h:Sch gs k out) : SchM gs k out:=⟨h.len,fun j hj=>⟨(h.low j hj).1,by have:=(h.low j hj).2;omega⟩,h.w⟩
theorem SchM.step{gs:List Gt}{k:Int}{out:List Int}{i:Nat}(h:SchM gs k out)(hk:1≤k)(hi:i<gs.length) : SchM gs k (stepI gs k out i):=by
 unfold stepI
 split
 ·rename_i hm
  have hio:i<out.length:=by rw [h.len];exact hi
  unfold mayI at hm
  simp only [Bool.and_eq_true] at hm
  refine ⟨by rw [List.length_set];exact h.len,fun j hj=>?_,fun j hj hw=>?_⟩
  ·rw [Xa9 hio];split
   ·omega
   ·exact h.low j hj
  ·rw [Xa9 hio];split
   ·rename_i e;subst e;rw [hw] at hm;simp at hm
   ·exact h.w j hj hw
 ·exact h
theorem SchM.next{gs:List Gt}{k:Int}{out:List Int}(h:SchM gs k out) : Sch gs (k+1) out:=⟨h.len,fun j hj=>⟨(h.low j hj).1,by have:=(h.low j hj).2;omega⟩,h.w⟩
def cvt(g:Gt)(x:Int) : Int:=if g.k=12 then 0 else if x=0 then -1 else x
def conv:List Gt→List Int→List Int
 | g::gs,x::xs=>cvt g x::conv gs xs
 | _,_=>[]
def folS(gs:List Gt)(i:Nat)(j:Nat) : List Int:=((List.range j).filter fun q=>!commS (gs.getD i gZ) (gs.getD q gZ)).map fun (q:Nat)=>(q:Int)
def followsS(gs:List Gt)(i:Nat) : List (List Int):=(List.range i).map fun q=>folS gs q q
def freeA(lay:List Int)(k:Int)(j:Int) : Bool:=decide (lay.getD j.toNat 0<0)||decide (k≤lay.getD j.toNat 0)
def freeB(gs:List Gt)(lay:List Int)(k:Int)(i j:Nat) : Bool:=decide (j≠i)&&lay.getD j 0==k&&comS (gs.getD i gZ) (gs.getD j gZ)
def freeS(gs:List Gt)(lay:List Int)(k:Int)(i:Nat)(fol:List Int) : Bool:=!fol.any (freeA lay k)&&!(List.range gs.length).any (freeB gs lay k i)
end Go.Proofs.YtlfjcmldfbfdbaaGreat
namespace Go.Proofs.YtlfjcmldfbfdbaaGreat
open Go.RowKit
def sN:Sl:=⟨none,0,[]⟩
def ini(gs:List Gt) : List Int:=gs.map fun g=>if g.k=12 then 0 else -1
def cntW(gs:List Gt) : Nat:=(gs.filter fun g=>g.k != 12).length
end Go.Proofs.YtlfjcmldfbfdbaaGreat
