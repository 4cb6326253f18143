/-
  For every two circuits, the program's VerifyByRewriting returns what the reference's returns and leaves its arguments as they were.
-/
import Derived.Test.YtpifljegadknkaaGreatQ3
import Derived.Test.YtpifljegadknkaaGreatQ2
import Derived.Test.YtpifljegadknkaaGreatQ1
import Derived.Shelf.SlSortCmp.WholeK
import Derived.Shelf.SlSortCmp.NoneTotal
import Derived.Shelf.SlGeneric
set_option linter.unusedVariables false
set_option linter.unusedSimpArgs false
set_option maxRecDepth 4000
set_option linter.unusedSectionVars false
namespace Go.Proofs.YtpifljegadknkaaGreat
open Go.RowKit
def SB(b:Nat)(l:List (Option Addr))(k:Nat) : Prop:=k=b∨∃ A ∈ l,ownB A=some k
def Us(S:Nat→Prop)(w0:World)(A:Option Addr) : Prop:=∀ k,ownB A=some k→S k∨w0.heap.size≤k
theorem SB.us{b:Nat}{l:List (Option Addr)}{A:Option Addr}{w:World}(h:A ∈ l) : Us (SB b l) w A:=fun _ hk=>.inl (.inr ⟨A,h,hk⟩)
theorem Xgw(p:Addr) : ownB (some p)=some p.block:=rfl
theorem Xg3{A:Option Addr}{b:Nat} : Away A b↔ownB A≠some b:=by
 cases A with
 | none=>exact ⟨(fun _ h=>by cases h),fun _ p h=>by cases h⟩
 | some p=>
  rw [Xgw]
  exact ⟨fun h e=>h p rfl (Option.some.inj e),fun h q hq e=>by injection hq with hq;subst hq;exact h (by rw [e])⟩
section
variable {S : Nat → Prop} {w0 w w' : World} {A A' : Option Addr} {b : Nat} {l : List (Option Addr)}
theorem Us.app(hu:Us S w0 A)(hat:∀ b,b<w.heap.size→Away A b→Away A' b)(hs:w0.heap.size≤w.heap.size) : Us S w0 A':=fun k hk=>by
 by_cases hl:k<w.heap.size
 ·by_cases h2:ownB A=some k
  ·exact hu k h2
  ·exact absurd hk (Xg3.1 (hat k hl (Xg3.2 h2)))
 ·exact .inr (by omega)
theorem Us.new{α:Type}{E:TypeId}{sz c:Nat}{enc:α→List Value}{r:List α}(ho:Own w w0.heap.size E sz enc A c r) : Us S w0 A:=fun _ hk=>.inr (X1t ho hk)
theorem al0{α:Type}{p:α→Prop} : ∀ x ∈ ([] : List α),p x:=fun _ h=>by cases h
theorem alc{α:Type}{p:α→Prop}{a:α}{r:List α}(h:p a)(ht:∀ x ∈ r,p x) : ∀ x ∈ a::r,p x:=List.forall_mem_cons.2 ⟨h,ht⟩
theorem SB.lift(hb:S b∨w0.heap.size≤b)(h:∀ A ∈ l,Us S w0 A) : ∀ k,SB b l k→S k∨w0.heap.size≤k:=fun k hk=>by
 rcases hk with rfl|⟨A,hA,hk⟩
 ·exact hb
 ·exact h A hA k hk
theorem Us.trans(hu:Us (SB b l) w A)(h:∀ k,SB b l k→S k∨w0.heap.size≤k)(hs:w0.heap.size≤w.heap.size) : Us S w0 A:=fun k hk=>by
 rcases hu k hk with h1|h1
 ·exact h k h1
 ·exact .inr (by omega)
theorem SB.ge{N:Nat}(hb:N≤b)(h:∀ A ∈ l,∀ k,ownB A=some k→N≤k) : ∀ k,SB b l k→N≤k:=fun k hk=>by
 rcases hk with rfl|⟨A,hA,hk⟩
 ·exact hb
 ·exact h A hA k hk
theorem nrow{α:Type}{B0:Nat}{E T:TypeId}{sz c:Nat}{enc:α→List Value}{r:List α}{cs:List Value}(ho:Own w B0 E sz enc A c r)(h:Blk w b T cs)(h1:Nat.beq E T=false) : ownB A≠some b:=fun hk=>by
 obtain ⟨_,_,cs',fz,h3⟩:=ho.block (k:=b) (by rw [X4j];exact hk)
 unfold Blk at h;rw [h3] at h;injection h with h;injection h with _ e _;subst e;simp at h1
theorem Blk.tu{b2:Nat}{T T2:TypeId}{bcs cs:List Value}(h:Blk w b2 T2 cs)(hts:TurnS (SB b l) w w')(hb:Blk w b T bcs)(h1:Nat.beq T2 T=false)(hr:∀ A ∈ l,ownB A≠some b2) : Blk w' b2 T2 cs:=by
 refine (hts.block b2 h.lt fun hk=>?_).trans h
 rcases hk with e|⟨A,hA,hk⟩
 ·exact h.ne hb h1 e
 ·exact hr A hA hk
end
structure Br where
 d:Dg
 la:List Int
 hd:List Bool
def bZ:Br:=⟨zD,[],[]⟩
def Drw(w:World)(b B0:Nat)(A0:Option Addr)(c0:Nat)(A1:Option Addr)(c1:Nat)(A2:Option Addr)(c2:Nat)(B:Option Addr)(e m n:Nat)(x:Br) : Prop:=
 Blk w b 171 [.int .i64 x.d.n,.slice A0 m c0,.slice B x.d.ws.length e,.int .i64 x.d.t,.int .i64 x.d.r,.slice A1 n c1,.slice A2 n c2]∧Own w B0 81 2 encNd A0 c0 x.d.ns∧Own w B0 3 1 encI A1 c1 x.la∧Own w B0 4 1 encB A2 c2 x.hd∧Rd w w.heap.size 83 encWr B x.d.ws∧x.d.ws.length≤e∧m=x.d.ns.length∧n=x.la.length∧n=x.hd.length
def nodB(x:Br)(k p q:Int) : Br:=⟨{ x.d with ns:=x.d.ns++[⟨k,p⟩],ws:=jnW x.d.ws (x.la.getD q.toNat 0) (x.d.ns.length:Int) (x.hd.getD q.toNat false) },x.la.set q.toNat (x.d.ns.length:Int),x.hd.set q.toNat false⟩
def plcB(x:Br)(q:Int) : Br:=if (x.hd.getD q.toNat false||(x.d.ns.getD (x.la.getD q.toNat 0).toNat nZ).k != 3)=true then nodB x 3 0 q else x
def trnB(x:Br)(q m:Int) : Br:={ plcB x q with d:={ (plcB x q).d with ns:=adN (plcB x q).d.ns ((plcB x q).la.getD q.toNat 0) m } }
def flpB(x:Br)(q:Int) : Br:={ x with hd:=x.hd.set q.toNat (!(x.hd.getD q.toNat false)) }
def czB(x:Br)(p q:Int) : Br:=
 let y:=plcB (plcB x p) q
 let a:=(plcB x p).la.getD p.toNat 0
 let b:=y.la.getD q.toNat 0
 if 0≤fdW y.d.ws a b then { y with d:={ y.d with ws:=ctW y.d.ws (fdW y.d.ws a b).toNat,r:=wr (y.d.r-1) } } else { y with d:={ y.d with ws:=jnW y.d.ws a b true,r:=wr (y.d.r+1) } }
structure BrOk (n:Nat) (x:Br) : Prop where
 la:x.la.length=n
 hd:x.hd.length=n
 rg:∀ y ∈ x.la,0≤y∧y<(x.d.ns.length:Int)
 p:PhN x.d.ns
theorem Xok{x:Br}{q:Int}(h:(x.hd.getD q.toNat false||(x.d.ns.getD (x.la.getD q.toNat 0).toNat nZ).k != 3)=true) : plcB x q=nodB x 3 0 q:=Q4 h
theorem Xoy{x:Br}{q:Int}(h:(x.hd.getD q.toNat false||(x.d.ns.getD (x.la.getD q.toNat 0).toNat nZ).k != 3)=false) : plcB x q=x:=Q3 (by rw [h];decide)
theorem BrOk.at{n:Nat}{x:Br}(h:BrOk n x){q:Int}(hq:0≤q∧q.toNat<n) : 0≤x.la.getD q.toNat 0∧(x.la.getD q.toNat 0).toNat<x.d.ns.length:=by
 have:=X6e h.rg (i:=q.toNat) (by rw [h.la];exact hq.2)
 omega
theorem Xa9{n:Nat}{x:Br}(h:BrOk n x){k p q:Int}(hp:0≤p∧p≤7) : BrOk n (nodB x k p q):=by
 have hl:(x.d.ns++[(⟨k,p⟩ : Nd)]).length=x.d.ns.length+1:=by simp
 refine ⟨List.length_set.trans h.la,List.length_set.trans h.hd,fun y hy=>?_,fun y hy=>?_⟩
 ·show 0≤y∧y<((x.d.ns++[(⟨k,p⟩ : Nd)]).length:Int)
  rcases List.mem_or_eq_of_mem_set hy with hy|rfl
  ·have:=h.rg y hy
   omega
  ·omega
 ·rcases Qu.1 hy with hy|hy
  ·exact h.p y hy
  ·rw [Qm.1 hy];exact hp
theorem X6t(x:Br)(k p q:Int) : (nodB x k p q).d.ns.length=x.d.ns.length+1∧(nodB x k p q).d.ws.length=x.d.ws.length+1:=⟨by simp [nodB],X4p _ _ _ _⟩
theorem X3c{n:Nat}{x:Br}(h:BrOk n x)(q:Int) : BrOk n (plcB x q):=by
 unfold plcB
 split
 ·exact Xa9 h (by decide)
 ·exact h
theorem X37(x:Br)(q:Int) : (plcB x q).d.ns.length≤x.d.ns.length+1∧(plcB x q).d.ws.length≤x.d.ws.length+1∧x.d.ns.length≤(plcB x q).d.ns.length:=by
 have:=X6t x 3 0 q
 unfold plcB
 split<;>omega
theorem X4w{n:Nat}{x:Br}(h:BrOk n x)(q m:Int) : BrOk n (trnB x q m):=by
 have h1:=X3c h q
 exact ⟨h1.la,h1.hd,fun y hy=>by
  have:=h1.rg y hy
  show 0≤y∧y<((adN _ _ _).length:Int)
  rw [X21];exact this,X5y h1.p _ _⟩
theorem X58(x:Br)(q m:Int) : (trnB x q m).d.ns.length≤x.d.ns.length+1∧(trnB x q m).d.ws.length≤x.d.ws.length+1:=by
 have:=X37 x q
 show (adN _ _ _).length≤_∧(plcB x q).d.ws.length≤_
 rw [X21]
 omega
theorem X24{n:Nat}{x:Br}(h:BrOk n x)(q:Int) : BrOk n (flpB x q):=⟨h.la,List.length_set.trans h.hd,h.rg,h.p⟩
theorem Xua{x:Br}{p q:Int}(h:0≤fdW (plcB (plcB x p) q).d.ws ((plcB x p).la.getD p.toNat 0) ((plcB (plcB x p) q).la.getD q.toNat 0)) : czB x p q = { plcB (plcB x p) q with d:={ (plcB (plcB x p) q).d with ws:=ctW (plcB (plcB x p) q).d.ws (fdW (plcB (plcB x p) q).d.ws ((plcB x p).la.getD p.toNat 0) ((plcB (plcB x p) q).la.getD q.toNat 0)).toNat,r:=wr ((plcB (plcB x p) q).d.r-1) } }:=Q4 h
theorem Xu8{x:Br}{p q:Int}(h:¬ 0≤fdW (plcB (plcB x p) q).d.ws ((plcB x p).la.getD p.toNat 0) ((plcB (plcB x p) q).la.getD q.toNat 0)) : czB x p q = { plcB (plcB x p) q with d:={ (plcB (plcB x p) q).d with ws:=jnW (plcB (plcB x p) q).d.ws ((plcB x p).la.getD p.toNat 0) ((plcB (plcB x p) q).la.getD q.toNat 0) true,r:=wr ((plcB (plcB x p) q).d.r+1) } }:=Q3 h
theorem Xox{n:Nat}{x:Br}(h:BrOk n x)(p q:Int) : BrOk n (czB x p q):=by
 have h1:=X3c (X3c h p) q
 unfold czB
 dsimp only
 split
 ·exact ⟨h1.la,h1.hd,h1.rg,h1.p⟩
 ·exact ⟨h1.la,h1.hd,h1.rg,h1.p⟩
theorem Xjh(x:Br)(p q:Int) : (czB x p q).d.ns.length≤x.d.ns.length+2∧(czB x p q).d.ws.length≤x.d.ws.length+3:=by
 have h1:=X37 x p;have h2:=X37 (plcB x p) q
 unfold czB
 dsimp only
 split
 ·have:=(X41 (plcB (plcB x p) q).d.ws (fdW (plcB (plcB x p) q).d.ws ((plcB x p).la.getD p.toNat 0) ((plcB (plcB x p) q).la.getD q.toNat 0)).toNat).length_le
  dsimp only
  omega
 ·dsimp only
  rw [X4p]
  omega
def swpB(x:Br)(a b:Int) : Br:={ x with la:=(x.la.set a.toNat (x.la.getD b.toNat 0)).set b.toNat (x.la.getD a.toNat 0),hd:=(x.hd.set a.toNat (x.hd.getD b.toNat false)).set b.toNat (x.hd.getD a.toNat false) }
def yyB(x:Br)(a:Int) : Br:=flpB (trnB (flpB (trnB x a 4) a) a 4) a
def tnB(x:Br)(k:Int) : Br:={ x with d:={ x.d with t:=wr (x.d.t+k) } }
def gtB(x:Br)(g:Gt) : Br:=
 if (g.k==1)=true then flpB x g.a
 else if (g.k==2)=true then flpB (trnB (flpB x g.a) g.a 4) g.a
 else if (g.k==3)=true then tnB (yyB x g.a) 2
 else if (g.k==9)=true then flpB (czB (flpB x g.b) g.a g.b) g.b
 else if (g.k==10)=true then czB x g.a g.b
 else if (g.k==11)=true then swpB x g.a g.b
 else if (g.k==12)=true then tnB x 1
 else trnB x g.a (rotC g.k)
section
variable {x : Br} {g : Gt}
theorem Xwh(h1:(g.k==1)=true) : gtB x g=flpB x g.a:=Q4 h1
theorem Xuj(h1:(g.k==1)=false)(h2:(g.k==2)=true) : gtB x g=flpB (trnB (flpB x g.a) g.a 4) g.a:=by unfold gtB;rw [h1,h2];rfl
theorem Xw1(h1:(g.k==1)=false)(h2:(g.k==2)=false)(h3:(g.k==3)=true) : gtB x g=tnB (yyB x g.a) 2:=by unfold gtB;rw [h1,h2,h3];rfl
theorem Xvs(h1:(g.k==1)=false)(h2:(g.k==2)=false)(h3:(g.k==3)=false)(h9:(g.k==9)=true) : gtB x g=flpB (czB (flpB x g.b) g.a g.b) g.b:=by unfold gtB;rw [h1,h2,h3,h9];rfl
theorem Xog(h1:(g.k==1)=false)(h2:(g.k==2)=false)(h3:(g.k==3)=false)(h9:(g.k==9)=false)(h10:(g.k==10)=true) : gtB x g=czB x g.a g.b:=by unfold gtB;rw [h1,h2,h3,h9,h10];rfl
theorem Xot(h1:(g.k==1)=false)(h2:(g.k==2)=false)(h3:(g.k==3)=false)(h9:(g.k==9)=false)(h10:(g.k==10)=false)(h11:(g.k==11)=true) : gtB x g=swpB x g.a g.b:=by unfold gtB;rw [h1,h2,h3,h9,h10,h11];rfl
theorem Xpa(h1:(g.k==1)=false)(h2:(g.k==2)=false)(h3:(g.k==3)=false)(h9:(g.k==9)=false)(h10:(g.k==10)=false)(h11:(g.k==11)=false)(h12:(g.k==12)=true) : gtB x g=tnB x 1:=by unfold gtB;rw [h1,h2,h3,h9,h10,h11,h12];rfl
theorem Xvb(h1:(g.k==1)=false)(h2:(g.k==2)=false)(h3:(g.k==3)=false)(h9:(g.k==9)=false)(h10:(g.k==10)=false)(h11:(g.k==11)=false)(h12:(g.k==12)=false) : gtB x g=trnB x g.a (rotC g.k):=by unfold gtB;rw [h1,h2,h3,h9,h10,h11,h12];rfl
end
theorem Xj1{k:Int}(h:4≤k∧k≤8) : ([4,2,6,1,7] : List Int)[(k-4).toNat]? = some (rotC k)∧0≤rotC k∧rotC k≤900:=by
 have:k=4∨k=5∨k=6∨k=7∨k=8:=by omega
 rcases this with e|e|e|e|e<;>subst e<;>decide
theorem Xs0{n:Nat}{x:Br}(h:BrOk n x){a b:Int}(ha:0≤a∧a.toNat<n)(hb:0≤b∧b.toNat<n) : BrOk n (swpB x a b):=by
 have h1:=h.at ha;have h2:=h.at hb
 refine ⟨List.length_set.trans (List.length_set.trans h.la),List.length_set.trans (List.length_set.trans h.hd),fun y hy=>?_,h.p⟩
 show 0≤y∧y<(x.d.ns.length:Int)
 rcases List.mem_or_eq_of_mem_set hy with hy|rfl
 ·rcases List.mem_or_eq_of_mem_set hy with hy|rfl
  ·exact h.rg y hy
  ·omega
 ·omega
theorem Xoi{n:Nat}{x:Br}(h:BrOk n x)(k:Int) : BrOk n (tnB x k):=⟨h.la,h.hd,h.rg,h.p⟩
theorem Xto{n:Nat}{x:Br}(h:BrOk n x)(a:Int) : BrOk n (yyB x a):=X24 (X4w (X24 (X4w h a 4) a) a 4) a
theorem Xr0(x:Br)(a:Int) : (yyB x a).d.ns.length≤x.d.ns.length+2∧(yyB x a).d.ws.length≤x.d.ws.length+2:=by
 have h1:=X58 x a 4;have h2:=X58 (flpB (trnB x a 4) a) a 4
 have e1:(flpB (trnB x a 4) a).d=(trnB x a 4).d:=rfl
 have e2:(yyB x a).d=(trnB (flpB (trnB x a 4) a) a 4).d:=rfl
 rw [e1] at h2
 rw [e2]
 omega
theorem Xjm{n:Nat}{x:Br}(h:BrOk n x){g:Gt}(hg:gOk (n:Int) g=true) : BrOk n (gtB x g):=by
 unfold gtB
 split
 ·exact X24 h _
 split
 ·exact X24 (X4w (X24 h _) _ _) _
 split
 ·exact Xoi (Xto h _) _
 split
 ·exact X24 (Xox (X24 h _) _ _) _
 split
 ·exact Xox h _ _
 split
 ·exact Xs0 h (Xcf hg) (Xbn hg)
 split
 ·exact Xoi h _
 ·exact X4w h _ _
theorem Xdo(x:Br)(g:Gt) : (gtB x g).d.ns.length≤x.d.ns.length+3∧(gtB x g).d.ws.length≤x.d.ws.length+3:=by
 unfold gtB
 split
 ·show x.d.ns.length≤_∧x.d.ws.length≤_;omega
 split
 ·have h1:=X58 (flpB x g.a) g.a 4
  have e1:(flpB x g.a).d=x.d:=rfl
  rw [e1] at h1
  show (trnB (flpB x g.a) g.a 4).d.ns.length≤_∧(trnB (flpB x g.a) g.a 4).d.ws.length≤_
  omega
 split
 ·have h1:=Xr0 x g.a
  show (yyB x g.a).d.ns.length≤_∧(yyB x g.a).d.ws.length≤_
  omega
 split
 ·have h1:=Xjh (flpB x g.b) g.a g.b
  have e1:(flpB x g.b).d=x.d:=rfl
  rw [e1] at h1
  show (czB (flpB x g.b) g.a g.b).d.ns.length≤_∧(czB (flpB x g.b) g.a g.b).d.ws.length≤_
  omega
 split
 ·have h1:=Xjh x g.a g.b
  omega
 split
 ·show x.d.ns.length≤_∧x.d.ws.length≤_;omega
 split
 ·show x.d.ns.length≤_∧x.d.ws.length≤_;omega
 ·have h1:=X58 x g.a (rotC g.k)
  omega
def inN(k:Nat) : List Nd:=(List.range k).map fun (i:Nat)=>(⟨1,i⟩ : Nd)
def ranI(k:Nat) : List Int:=(List.range k).map fun (i:Nat)=>(i:Int)
theorem Xpb(k:Nat) : inN (k+1)=inN k++[(⟨1,(k:Int)⟩ : Nd)]:=by unfold inN;rw [List.range_succ,List.map_append];rfl
theorem Xjz(k:Nat) : ranI (k+1)=ranI k++[(k:Int)]:=by unfold ranI;rw [List.range_succ,List.map_append];rfl
theorem X5r(k:Nat) : (inN k).length=k:=by simp [inN]
theorem X55(k:Nat) : (ranI k).length=k:=by simp [ranI]
def ofB0(c:Cx) : Br:=⟨⟨c.n,inN c.n.toNat,[],0,0⟩,ranI c.n.toNat,List.replicate c.n.toNat false⟩
def ofB1(c:Cx) : Br:=c.gs.foldl gtB (ofB0 c)
def ofK(c:Cx)(j:Nat) : Br:=(List.range j).foldl (fun x (q:Nat)=>nodB x 2 (q:Int) (q:Int)) (ofB1 c)
def ofD(c:Cx) : Dg:=outD (ofK c c.n.toNat).d
theorem Xjj(c:Cx)(j:Nat) : ofK c (j+1)=nodB (ofK c j) 2 (j:Int) (j:Int):=by unfold ofK;rw [List.range_succ,List.foldl_append];rfl
theorem Xb1{c:Cx}(hn:1≤c.n∧c.n≤5) : BrOk c.n.toNat (ofB0 c):=by
 refine ⟨X55 _,List.length_replicate,fun y hy=>?_,fun y hy=>?_⟩
 ·obtain ⟨i,hi,rfl⟩:=W6.1 hy
  have:=W2.1 hi
  show 0≤(i:Int)∧(i:Int)<((inN _).length:Int)
  rw [X5r]
  omega
 ·obtain ⟨i,hi,rfl⟩:=W6.1 hy
  have:=W2.1 hi
  show 0≤(i:Int)∧(i:Int)≤7
  omega
theorem X81(w0:World)(bV B0:Nat)(A0:Option Addr)(c0:Nat)(A1:Option Addr)(c1:Nat)(A2:Option Addr)(c2:Nat)(BW:Option Addr)(eW m0 n0:Nat)(x:Br)(a7:Drw w0 bV B0 A0 c0 A1 c1 A2 c2 BW eW m0 n0 x)(aF:B0≤w0.heap.size)(q:Int)(hq:0≤q∧q.toNat<n0) : Ret Tryz.prog 188 [.pointer (some ⟨bV,0,none⟩),vi q] w0 (fun v w=>∃ A c B e m,TurnS (SB bV [A0,A1,A2]) w0 w∧Us (SB bV [A0,A1,A2]) w0 A∧Drw w bV B0 A c A1 c1 A2 c2 B e m n0 (flpB x q)):=by
 obtain ⟨f,i,n,b,o,a8,aA,aB,a6⟩:=a7;have aE:=f.lt
 have aC:Us (SB bV [A0,A1,A2]) w0 A0:=SB.us (by simp)
 have aG:Us (SB bV [A0,A1,A2]) w0 A1:=SB.us (by simp)
 have aD:Us (SB bV [A0,A1,A2]) w0 A2:=SB.us (by simp)
 refine enter Tryz.func188 rfl 18 rfl rfl ?_;intro a hf
 have hW:TurnS (SB bV [A0,A1,A2]) w0 w0:=TurnS.refl _ _
 refine X05 none (fun j=>[14].contains j) mixed ?_;intro w1 hE;have f:=f.below hE;have i:=i.below hE;have n:=n.below hE;have b:=b.below hE;have o:=o.below hE;have hW:=tsbel hW hE;refine Yb hf<|Yo 0 rfl (fun _=>X3 rfl)<|Yo 1 rfl (fun _=>Xz rfl)<|Yo 2 rfl (fun _=>Vd rfl X2a 6)<|Ye 3 rfl (X0 rfl X26 (f.at 6))<|Yo 4 rfl (fun _=>X3 rfl)<|Yo 5 rfl (fun _=>X3 rfl)<|Yo 6 rfl (fun _=>Xz rfl)<|Yo 7 rfl (fun _=>Vd rfl X2a 6)<|Ye 8 rfl (X0 rfl X26 (f.at 6))<|Yo 9 rfl (fun _=>X3 rfl) ?_;refine Yo 10 rfl (fun _=>Xi (k:=q.toNat) rfl rfl X1u X2u b a6 (by omega) (by omega))<|Ye 11 rfl (X0 rfl X6c (X0g b X0z (Xb (d:=false) (by omega)) 0 rfl))<|Yo 12 rfl (fun _=>X0y rfl)<|Yo 13 rfl (fun _=>Xi (k:=q.toNat) rfl rfl X1u X2u b a6 (by omega) (by omega))<|Y1 14 ?_;refine Yh rfl trivial rfl (X0h (enc:=encB) (l:=x.hd) (vs:=[.bool (!(x.hd.getD q.toNat false))]) (x0:=(x.hd.getD q.toNat false)) (u:=!(x.hd.getD q.toNat false)) (k:=q.toNat) (j:=0) (n1:=1) rfl rfl X2u b X0z rfl rfl rfl rfl (by decide) (Xb (d:=false) (by omega)) rfl) ?_;rintro _ w2 ⟨p,hg⟩;have g:=b;have f:=f.appT g hg rfl;have i:=i.appT g hg rfl;have n:=n.appT g hg rfl;have o:=o.appT g hg rfl;have hW:=tsrow hW hg aD
 clear g hg;clear b;have b:=p;clear p;refine Yd fun a hf=>?_;refine X1b hf (X1x rfl) ?_;exact ⟨A0,c0,BW,eW,m0,hW,aC,⟨f,i,n,b,o.top,a8,aA,aB,(a6.trans List.length_set.symm)⟩⟩
theorem Xpd(w0:World)(bV B0:Nat)(A0:Option Addr)(c0:Nat)(A1:Option Addr)(c1:Nat)(A2:Option Addr)(c2:Nat)(BW:Option Addr)(eW m0 n0:Nat)(x:Br)(aG:Drw w0 bV B0 A0 c0 A1 c1 A2 c2 BW eW m0 n0 x)(aH:B0≤w0.heap.size)(k:Int)(p:Int)(q:Int)(hq:0≤q∧q.toNat<n0)(aR:x.d.ns.length≤100000000∧x.d.ws.length≤100000000) : Ret Tryz.prog 137 [.pointer (some ⟨bV,0,none⟩),vi k,vi p,vi q] w0 (fun v w=>∃ A c B e m,TurnS (SB bV [A0,A1,A2]) w0 w∧Us (SB bV [A0,A1,A2]) w0 A∧Drw w bV B0 A c A1 c1 A2 c2 B e m n0 (nodB x k p q)):=by
 obtain ⟨b,I,g,i,G,aI,aJ,a6,a7⟩:=aG;have aP:=b.lt
 subst aJ
 have aB:Us (SB bV [A0,A1,A2]) w0 A0:=SB.us (by simp)
 have aK:Us (SB bV [A0,A1,A2]) w0 A1:=SB.us (by simp)
 have aL:Us (SB bV [A0,A1,A2]) w0 A2:=SB.us (by simp)
 have aS:(x.d.ns++[(⟨k,p⟩ : Nd)]).length=x.d.ns.length+1:=by simp
 refine enter Tryz.func137 rfl 68 rfl rfl ?_;intro a L
 have C:TurnS (SB bV [A0,A1,A2]) w0 w0:=TurnS.refl _ _
 refine Zs L fun _ aM=>?_;refine Zm rfl<|Zm rfl<|Ze (Xz rfl)<|Ze (Vd rfl X0i 0)<|Ze (Vd rfl Xj 1)<|Ze (X0 rfl X00 (b.at 1))<|Zm rfl<|Zm rfl<|Ze (X0w (ps:=[(0,vi k),(1,vi p)]) (cs:=[vi k,vi p]) rfl (fun _=>by first|rfl|kernel_rfl))<|Zf (Xm (k:=1) (vs:=[.agg #[vi k,vi p]]) (zs:=[vi k,vi p]) rfl Xs X1p rfl rfl) ?_;rintro _ w1 ⟨b6,rfl,aC,D,a8⟩;have aQ:=Q0 C.size aC;have M:=I.away aC;have b:=b.below D;have I:=I.below D;have g:=g.below D;have i:=i.below D;have G:=G.below D;have C:=tsbel C D;refine Zf (X0m (enc:=encNd) (l:=(x.d.ns)) (l2:=([(⟨k,p⟩ : Nd)])) (B0:=B0) rfl rfl Xs X1p Xv X2o I (Rd.of_blk a8 rfl _ a8.lt) (by simp only [maxLen];simp;omega) (by simp;omega) (Q0 aH C.size)) ?_;rintro _ w2 ⟨A8,c8,rfl,h,E,aA⟩
 have f:Own _ B0 81 2 encNd _ _ (x.d.ns):=I
 have aF:=aA _ a8.lt M;have aN:=Us.app aB aA C.size;clear aA;have b:=b.appT f E rfl;have g:=g.appT f E rfl;have i:=i.appT f E rfl;have G:=G.appT f E rfl;have C:=tsrow C E aB;clear f E;refine Ze (Xz rfl)<|Ze (Vd rfl X0i 0)<|Ze (Vd rfl Xj 1)<|Zo (X1a (vs:=[.slice A8 (x.d.ns++([(⟨k,p⟩ : Nd)])).length c8]) (l':=[vi x.d.n,.slice A8 (x.d.ns++([(⟨k,p⟩ : Nd)])).length c8,.slice BW x.d.ws.length eW,vi x.d.t,vi x.d.r,.slice A1 n0 c1,.slice A2 n0 c2]) rfl rfl X3s b rfl rfl rfl rfl rfl) ?_;rintro _ w3 ⟨J,hb⟩;have y:=b;have g:=g.onlyT J y rfl;have i:=i.onlyT J y rfl;have G:=G.onlyT J y rfl;have h:=h.onlyT J y rfl;have C:=tsonly C J (.inl (.inl rfl));have b:=hb;refine Zx aM fun a L _ aO=>?_;refine Zm rfl<|Ze (Xz rfl)<|Ze (Vd rfl X0i 0)<|Ze (Vd rfl Xj 1)<|Ze (X0 rfl X00 (b.at 1))<|Ze (X0d rfl Xs)<|Ze (Vx (X1g rfl rfl (by omega) (by omega)) (show _=(x.d.ns.length:Int) from (by omega)))<|Za rfl<|ZX aO fun a L _ aD=>?_;refine X05 none (fun j=>[25].contains j) mixed ?_;intro w4 D;have b:=b.below D;have g:=g.below D;have i:=i.below D;have G:=G.below D;have h:=h.below D;have C:=tsbel C D;refine Yb L<|Yo 0 rfl (fun _=>X3 rfl)<|Yo 1 rfl (fun _=>X3 rfl)<|Yo 2 rfl (fun _=>Xz rfl)<|Yo 3 rfl (fun _=>Vd rfl X0i 0)<|Yo 4 rfl (fun _=>Vd rfl Xr 2)<|Ye 5 rfl (X0 rfl X0j (b.at 2))<|Yo 6 rfl (fun _=>X3 rfl)<|Yo 7 rfl (fun _=>Xz rfl)<|Yo 8 rfl (fun _=>Vd rfl X20 5)<|Ye 9 rfl (X0 rfl X28 (b.at 5)) ?_;refine Yo 10 rfl (fun _=>X3 rfl)<|Yo 11 rfl (fun _=>Xi (k:=q.toNat) rfl rfl Xl X08 g a6 (by omega) (by omega))<|Ye 12 rfl (X0 rfl X9 (X0g g Xf (Xb (d:=(0:Int)) (by omega)) 0 rfl))<|Yo 13 rfl (fun _=>X3 rfl)<|Yo 14 rfl (fun _=>X3 rfl)<|Yo 15 rfl (fun _=>Xz rfl)<|Yo 16 rfl (fun _=>Vd rfl X2a 6)<|Ye 17 rfl (X0 rfl X26 (b.at 6))<|Yo 18 rfl (fun _=>X3 rfl)<|Yo 19 rfl (fun _=>Xi (k:=q.toNat) rfl rfl X1u X2u i a7 (by omega) (by omega)) ?_
 refine Ye 20 rfl (X0 rfl X6c (X0g i X0z (Xb (d:=false) (by omega)) 0 rfl))<|Y1 21 ?_;refine Yk rfl trivial (Vc (X94 _ BW eW x.d.ws G.top (x.la.getD q.toNat 0) (x.d.ns.length:Int) (x.hd.getD q.toNat false) (by omega) aI) X5d) (fun _ _ ⟨N,Q,_,o,D⟩=>D) ?_;rintro _ w5 ⟨N,Q,rfl,o,D⟩;have o:=o.lower C.size;have b:=b.below D;have g:=g.below D;have i:=i.below D;have h:=h.below D;have C:=tsbel C D;refine Yo 22 rfl (fun _=>Xz rfl)<|Yo 23 rfl (fun _=>Vd rfl X0i 0)<|Yo 24 rfl (fun _=>Vd rfl Xr 2)<|Y1 25 ?_;refine Yh rfl trivial rfl (X1a (vs:=[.slice N (jnW x.d.ws (x.la.getD q.toNat 0) (x.d.ns.length:Int) (x.hd.getD q.toNat false)).length Q]) (l':=[vi x.d.n,.slice A8 (x.d.ns++([(⟨k,p⟩ : Nd)])).length c8,.slice N (jnW x.d.ws (x.la.getD q.toNat 0) (x.d.ns.length:Int) (x.hd.getD q.toNat false)).length Q,vi x.d.t,vi x.d.r,.slice A1 n0 c1,.slice A2 n0 c2]) rfl rfl X1l b rfl rfl rfl rfl rfl) ?_;rintro _ w6 ⟨J,hb⟩;have y:=b;have g:=g.onlyT J y rfl;have i:=i.onlyT J y rfl;have h:=h.onlyT J y rfl;have o:=o.onlyT J y rfl;have C:=tsonly C J (.inl (.inl rfl));have b:=hb;refine Yd fun a L=>?_;refine aD _ _<|Zs L fun _ aE=>?_;refine Zm rfl<|Ze (Xz rfl)<|Ze (Vd rfl X20 5)<|Ze (X0 rfl X28 (b.at 5))<|Zm rfl<|Zm rfl<|Ze (Xi (k:=q.toNat) rfl rfl Xl X08 g a6 (by omega) (by omega))<|Zo (X0h (enc:=encI) (l:=x.la) (vs:=[vi (x.d.ns.length:Int)]) (x0:=(x.la.getD q.toNat 0)) (u:=(x.d.ns.length:Int)) (k:=q.toNat) (j:=0) (n1:=1) rfl rfl X08 g Xf rfl rfl rfl rfl (by decide) (Xb (d:=(0:Int)) (by omega)) rfl) ?_;rintro _ w7 ⟨H,E⟩;have f:=g;have b:=b.appT f E rfl;have i:=i.appT f E rfl
 have h:=h.appT f E rfl;have o:=o.appT f E rfl;have C:=tsrow C E aK
 clear f E;clear g;have g:=H;clear H;refine Zt aE fun a L=>?_;refine Zr L<|Zm rfl<|Ze (Xz rfl)<|Ze (Vd rfl X2a 6)<|Ze (X0 rfl X26 (b.at 6))<|Zm rfl<|Ze (Xi (k:=q.toNat) rfl rfl X1u X2u i a7 (by omega) (by omega))<|Zo (X0h (enc:=encB) (l:=x.hd) (vs:=[.bool false]) (x0:=(x.hd.getD q.toNat false)) (u:=false) (k:=q.toNat) (j:=0) (n1:=1) rfl rfl X2u i X0z rfl rfl rfl rfl (by decide) (Xb (d:=false) (by omega)) rfl) ?_;rintro _ w8 ⟨H,E⟩;have f:=i;have b:=b.appT f E rfl;have h:=h.appT f E rfl;have o:=o.appT f E rfl;have g:=g.appT f E rfl;have C:=tsrow C E aL
 clear f E;clear i;have i:=H;clear H;refine Zn fun a L=>?_;refine X1b L (X1x rfl) ?_;exact ⟨A8,c8,N,Q,((x.d.ns++([(⟨k,p⟩ : Nd)])).length),C,aN,⟨b,h,g,i,o.rd.top,o.cap,rfl,(a6.trans List.length_set.symm),(a7.trans List.length_set.symm)⟩⟩
theorem Xip(w0:World)(bV B0:Nat)(A0:Option Addr)(c0:Nat)(A1:Option Addr)(c1:Nat)(A2:Option Addr)(c2:Nat)(BW:Option Addr)(eW m0 n0:Nat)(x:Br)(aP:Drw w0 bV B0 A0 c0 A1 c1 A2 c2 BW eW m0 n0 x)(aQ:B0≤w0.heap.size)(q:Int)(hq:0≤q∧q.toNat<n0)(aR:BrOk n0 x)(b3:x.d.ns.length≤90000000∧x.d.ws.length≤90000000) : Ret Tryz.prog 223 [.pointer (some ⟨bV,0,none⟩),vi q] w0 (fun v w=>∃ A c B e m,v=vi ((plcB x q).la.getD q.toNat 0)∧TurnS (SB bV [A0,A1,A2]) w0 w∧Us (SB bV [A0,A1,A2]) w0 A∧Drw w bV B0 A c A1 c1 A2 c2 B e m n0 (plcB x q)):=by
 obtain ⟨f,l,g,i,y,aD,a6,h,a7⟩:=aP;have b2:=f.lt
 have aE:Us (SB bV [A0,A1,A2]) w0 A0:=SB.us (by simp)
 have aS:Us (SB bV [A0,A1,A2]) w0 A1:=SB.us (by simp)
 have aT:Us (SB bV [A0,A1,A2]) w0 A2:=SB.us (by simp)
 have b4:=aR.at hq;refine enter Tryz.func223 rfl 40 rfl rfl ?_;intro a j
 have u:TurnS (SB bV [A0,A1,A2]) w0 w0:=TurnS.refl _ _
 refine Zs j fun _ aU=>?_;refine Za rfl<|ZX aU fun a j _ aF=>?_;refine Q5 fun _ aW=>?_;refine X0a (fun a w=>Fr a 40 [(0,.pointer (some ⟨bV,0,none⟩)),(1,vi q),(29,.bool ((x.hd.getD q.toNat false)||(((x.d.ns.getD (x.la.getD q.toNat 0).toNat nZ).k) != 3)))]∧Below w0.heap.size w0 w) ?_ ?_
 ·have C:=bz w0
  refine X05 none (fun _=>false) mixed ?_;intro w1 o;have f:=f.below o;have l:=l.below o;have g:=g.below o;have i:=i.below o;have u:=tsbel u o;have C:=btr C o;refine Yb j<|Yo 0 rfl (fun _=>X3 rfl)<|Yo 1 rfl (fun _=>Xz rfl)<|Yo 2 rfl (fun _=>Vd rfl X2a 6)<|Ye 3 rfl (X0 rfl X26 (f.at 6))<|Yo 4 rfl (fun _=>X3 rfl)<|Yo 5 rfl (fun _=>Xi (k:=q.toNat) rfl rfl X1u X2u i a7 (by omega) (by omega))<|Ye 6 rfl (X0 rfl X6c (X0g i X0z (Xb (d:=false) (by omega)) 0 rfl))<|Yo 7 rfl (fun _=>X3 rfl) ?_
  refine Yl 12 rfl (fun b=>?_) (fun b=>?_)
  ·refine Yp 8 rfl (gP b) ?_;refine Yp 9 rfl (gP b) ?_;refine Yp 10 rfl (gP b) ?_;refine Yp 11 rfl (gP b) ?_;refine Yp 12 rfl (gP b) ?_;refine Yp 13 rfl (gP b) ?_;refine Yp 14 rfl (gP b) ?_;refine Yp 15 rfl (gP b) ?_;refine Yp 16 rfl (gP b) ?_;refine Yp 17 rfl (gP b) ?_;refine Yp 18 rfl (gP b) ?_;refine Yp 19 rfl (gP b) ?_;refine Yp 20 rfl (gP b) ?_;refine Yp 21 rfl (gP b) ?_;refine Yp 22 rfl (gP b) ?_;refine Yp 23 rfl (gP b) ?_;refine Yo 24 rfl (fun _=>X7 rfl b rfl) ?_;refine Yd fun a j=>?_
   have a8:Below w0.heap.size w0 w1:=C
   exact ⟨j.sub ⟨rfl,rfl,X1 rfl (by first|rfl|(simp only [b,bs];done)|simp [b]),trivial⟩,a8⟩
  refine Yu 8 rfl (gW b) (fun _=>X3 rfl) ?_;refine Yu 9 rfl (gW b) (fun _=>Xz rfl) ?_;refine Yu 10 rfl (gW b) (fun _=>Vd rfl X0i 0) ?_;refine Yu 11 rfl (gW b) (fun _=>Vd rfl Xj 1) ?_;refine Yv 12 rfl (gW b) (X0 rfl X00 (f.at 1)) ?_;refine Yu 13 rfl (gW b) (fun _=>X3 rfl) ?_;refine Yu 14 rfl (gW b) (fun _=>Xz rfl) ?_;refine Yu 15 rfl (gW b) (fun _=>Vd rfl X20 5) ?_;refine Yv 16 rfl (gW b) (X0 rfl X28 (f.at 5)) ?_;refine Yu 17 rfl (gW b) (fun _=>X3 rfl) ?_;refine Yu 18 rfl (gW b) (fun _=>Xi (k:=q.toNat) rfl rfl Xl X08 g h (by omega) (by omega)) ?_;refine Yv 19 rfl (gW b) (X0 rfl X9 (X0g g Xf (Xb (d:=(0:Int)) (by omega)) 0 rfl)) ?_;refine Yu 20 rfl (gW b) (fun _=>Xi (k:=(x.la.getD q.toNat 0).toNat) rfl rfl Xs X07 l a6 (by omega) (by omega)) ?_;refine Yu 21 rfl (gW b) (fun _=>X15 rfl X13 (m':=(x.la.getD q.toNat 0).toNat*2+0) rfl) ?_;refine Yv 22 rfl (gW b) (X0 rfl X9 (X0g l Xv (Xb (d:=nZ) (by omega)) 0 rfl)) ?_;refine Yu 23 rfl (gW b) (fun _=>X1j rfl rfl) ?_;refine Yo 24 rfl (fun _=>Xe rfl b rfl) ?_;refine Yd fun a j=>?_
  have a8:Below w0.heap.size w0 w1:=C
  exact ⟨j.sub ⟨rfl,rfl,X1 rfl (by first|rfl|(simp only [b,bs];done)|simp [b]),trivial⟩,a8⟩
 rintro a w2 ⟨j,o⟩;have f:=f.below o;have l:=l.below o;have g:=g.below o;have i:=i.below o;have y:=y.below o;have u:=tsbel u o;refine aW _ _ ?_
 refine Xg j rfl (fun p=>?_) (fun p=>?_)
 ·have aG:=p;have aA:=Xok p;refine Zr j<|Zm rfl<|Zm rfl<|Zf (Vc (Xpd _ bV B0 A0 c0 A1 c1 A2 c2 BW eW m0 n0 x ⟨f,l,g,i,y.top,aD,a6,h,a7⟩ (Q0 aQ u.size) 3 0 q hq (by omega)) Xe8) ?_;rintro _ w3 ⟨aX,aY,aZ,b0,b1,aH,n,aI,aJ,D,E,aK,aL,aM,t,aB⟩;have aC:=SB.lift (S:=SB bV [A0,A1,A2]) (w0:=w0) (.inl (.inl rfl)) (alc aE (alc aS (alc aT al0)));have n:=Us.trans n aC u.size
  have u:=tstr u aH aC;clear aC
  clear aH f;have f:=aI;clear aI
  clear g;have g:=D;clear D
  clear i;have i:=E;clear E;refine Zx aF fun a j _ aN=>?_;refine Zm rfl<|Ze (Xz rfl)<|Ze (Vd rfl X20 5)<|Ze (X0 rfl X28 (f.at 5))<|Zm rfl<|Ze (Xi (k:=q.toNat) rfl rfl Xl X08 g t (by omega) (by omega))<|Ze (X0 rfl X9 (X0g g Xf (Xb (d:=(0:Int)) (by omega)) 0 rfl))<|Za rfl<|Zt aN fun a j=>?_
  refine Q6 (X4 j (Xt j rfl rfl) ?_)
  rw [aA]
  exact ⟨aX,aY,aZ,b0,b1,rfl,u,n,⟨f,aJ,g,i,aK.top,aL,aM,t,aB⟩⟩
 have aG:=p;have aA:=Xoy p;refine Q7<|aF _ _<|Zs j fun _ aO=>?_;refine Zm rfl<|Ze (Xz rfl)<|Ze (Vd rfl X20 5)<|Ze (X0 rfl X28 (f.at 5))<|Zm rfl<|Ze (Xi (k:=q.toNat) rfl rfl Xl X08 g h (by omega) (by omega))<|Ze (X0 rfl X9 (X0g g Xf (Xb (d:=(0:Int)) (by omega)) 0 rfl))<|Za rfl<|Zt aO fun a j=>?_
 refine Q6 (X4 j (Xt j rfl rfl) ?_)
 rw [aA]
 exact ⟨A0,c0,BW,eW,m0,rfl,u,aE,⟨f,l,g,i,y.top,aD,a6,h,a7⟩⟩
theorem Xdx(w0:World)(bV B0:Nat)(A0:Option Addr)(c0:Nat)(A1:Option Addr)(c1:Nat)(A2:Option Addr)(c2:Nat)(BW:Option Addr)(eW m0 n0:Nat)(x:Br)(aE:Drw w0 bV B0 A0 c0 A1 c1 A2 c2 BW eW m0 n0 x)(aF:B0≤w0.heap.size)(q:Int)(f:Int)(hq:0≤q∧q.toNat<n0)(a8:BrOk n0 x)(aS:x.d.ns.length≤80000000∧x.d.ws.length≤80000000)(aT:0≤f∧f≤900) : Ret Tryz.prog 189 [.pointer (some ⟨bV,0,none⟩),vi q,vi f] w0 (fun v w=>∃ A c B e m,TurnS (SB bV [A0,A1,A2]) w0 w∧Us (SB bV [A0,A1,A2]) w0 A∧Drw w bV B0 A c A1 c1 A2 c2 B e m n0 (trnB x q f)):=by
 obtain ⟨b,aG,i,n,aH,aI,aJ,aK,aL⟩:=aE;have aR:=b.lt
 have aM:Us (SB bV [A0,A1,A2]) w0 A0:=SB.us (by simp)
 have aN:Us (SB bV [A0,A1,A2]) w0 A1:=SB.us (by simp)
 have aO:Us (SB bV [A0,A1,A2]) w0 A2:=SB.us (by simp)
 have C:=X3c a8 q;have aU:=C.at hq;have aW:=X37 x q;have aX:=X1s C.p ((plcB x q).la.getD q.toNat 0).toNat;refine enter Tryz.func189 rfl 30 rfl rfl ?_;intro a hf
 have h:TurnS (SB bV [A0,A1,A2]) w0 w0:=TurnS.refl _ _
 refine Zs hf fun _ aP=>?_;refine Zm rfl<|Zm rfl<|Zf (Vc (Xip _ bV B0 A0 c0 A1 c1 A2 c2 BW eW m0 n0 x ⟨b,aG,i,n,aH.top,aI,aJ,aK,aL⟩ (Q0 aF h.size) q hq a8 (by omega)) Xa1) ?_;rintro _ w1 ⟨A6,c6,A7,c7,m6,rfl,aA,t,aB,g,D,E,y,aQ,a6,aC,aD⟩;have a7:=SB.lift (S:=SB bV [A0,A1,A2]) (w0:=w0) (.inl (.inl rfl)) (alc aM (alc aN (alc aO al0)));have t:=Us.trans t a7 h.size
 have h:=tstr h aA a7;clear a7
 clear aA b;have b:=aB;clear aB
 clear i;have i:=D;clear D
 clear n;have n:=E;clear E;refine Za rfl<|Zt aP fun a hf=>?_;refine X05 none (fun j=>[20].contains j) mixed ?_;intro w2 hE;have b:=b.below hE;have i:=i.below hE;have n:=n.below hE;have g:=g.below hE;have y:=y.below hE;have h:=tsbel h hE;refine Yb hf<|Yo 0 rfl (fun _=>X3 rfl)<|Yo 1 rfl (fun _=>Xz rfl)<|Yo 2 rfl (fun _=>Vd rfl X0i 0)<|Yo 3 rfl (fun _=>Vd rfl Xj 1)<|Ye 4 rfl (X0 rfl X00 (b.at 1))<|Yo 5 rfl (fun _=>X3 rfl)<|Yo 6 rfl (fun _=>X3 rfl)<|Yo 7 rfl (fun _=>Xz rfl)<|Yo 8 rfl (fun _=>Vd rfl X0i 0)<|Yo 9 rfl (fun _=>Vd rfl Xj 1) ?_;refine Ye 10 rfl (X0 rfl X00 (b.at 1))<|Yo 11 rfl (fun _=>X3 rfl)<|Yo 12 rfl (fun _=>Xi (k:=((plcB x q).la.getD q.toNat 0).toNat) rfl rfl Xs X07 g a6 (by omega) (by omega))<|Yo 13 rfl (fun _=>X15 rfl X06 (m':=((plcB x q).la.getD q.toNat 0).toNat*2+1) rfl)<|Ye 14 rfl (X0 rfl X9 (X0g g Xv (Xb (d:=nZ) (by omega)) 1 rfl))<|Yo 15 rfl (fun _=>X3 rfl)<|Yo 16 rfl (fun _=>Xw rfl rfl (by omega) (by omega))<|Yo 17 rfl (fun _=>Vx (X4v rfl rfl rfl) (tm8 (by omega)))<|Yo 18 rfl (fun _=>Xi (k:=((plcB x q).la.getD q.toNat 0).toNat) rfl rfl Xs X07 g a6 (by omega) (by omega))<|Yo 19 rfl (fun _=>X15 rfl X06 (m':=((plcB x q).la.getD q.toNat 0).toNat*2+1) rfl) ?_;refine Y1 20<|Yh rfl trivial rfl (X0h (enc:=encNd) (l:=(plcB x q).d.ns) (vs:=[vi ((((plcB x q).d.ns.getD ((plcB x q).la.getD q.toNat 0).toNat nZ).p+f) % 8)]) (x0:=((plcB x q).d.ns.getD ((plcB x q).la.getD q.toNat 0).toNat nZ)) (u:=(⟨((plcB x q).d.ns.getD ((plcB x q).la.getD q.toNat 0).toNat nZ).k,((((plcB x q).d.ns.getD ((plcB x q).la.getD q.toNat 0).toNat nZ).p+f) % 8)⟩ : Nd)) (k:=((plcB x q).la.getD q.toNat 0).toNat) (j:=1) (n1:=1) rfl rfl X08 g Xv rfl rfl rfl rfl (by decide) (Xb (d:=nZ) (by omega)) rfl) ?_;rintro _ w3 ⟨G,hg⟩
 have o:=g;have b:=b.appT o hg rfl;have i:=i.appT o hg rfl;have n:=n.appT o hg rfl;have y:=y.appT o hg rfl;have h:=tsrow h hg t
 clear o hg;clear g;have g:=G;clear G;refine Yd fun a hf=>?_;refine X1b hf (X1x rfl) ?_;exact ⟨A6,c6,A7,c7,m6,h,t,⟨b,g,i,n,y.top,aQ,(a6.trans List.length_set.symm),aC,aD⟩⟩
theorem Xpi(w0:World)(bV B0:Nat)(A0:Option Addr)(c0:Nat)(A1:Option Addr)(c1:Nat)(A2:Option Addr)(c2:Nat)(BW:Option Addr)(eW m0 H:Nat)(x:Br)(aU:Drw w0 bV B0 A0 c0 A1 c1 A2 c2 BW eW m0 H x)(aG:B0≤w0.heap.size)(p:Int)(q:Int)(hp:0≤p∧p.toNat<H)(hq:0≤q∧q.toNat<H)(aH:BrOk H x)(bD:x.d.ns.length≤80000000∧x.d.ws.length≤80000000) : Ret Tryz.prog 190 [.pointer (some ⟨bV,0,none⟩),vi p,vi q] w0 (fun v w=>∃ A c B e m,TurnS (SB bV [A0,A1,A2]) w0 w∧Us (SB bV [A0,A1,A2]) w0 A∧Drw w bV B0 A c A1 c1 A2 c2 B e m H (czB x p q)):=by
 obtain ⟨b,aW,g,i,aX,aY,aZ,b0,b1⟩:=aU;have b9:=b.lt
 have b2:Us (SB bV [A0,A1,A2]) w0 A0:=SB.us (by simp)
 have aI:Us (SB bV [A0,A1,A2]) w0 A1:=SB.us (by simp)
 have aJ:Us (SB bV [A0,A1,A2]) w0 A2:=SB.us (by simp)
 have a7:=X3c aH p;have bA:=X37 x p;have bB:=X3c a7 q;have bC:=X37 (plcB x p) q;have aK:=X79 (plcB (plcB x p) q).d.ws ((plcB x p).la.getD p.toNat 0) ((plcB (plcB x p) q).la.getD q.toNat 0);refine enter Tryz.func190 rfl 66 rfl rfl ?_;intro a G
 have l:TurnS (SB bV [A0,A1,A2]) w0 w0:=TurnS.refl _ _
 refine Zs G fun _ b3=>?_;refine Zm rfl<|Zm rfl<|Zf (Vc (Xip _ bV B0 A0 c0 A1 c1 A2 c2 BW eW m0 H x ⟨b,aW,g,i,aX.top,aY,aZ,b0,b1⟩ (Q0 aG l.size) p hp aH (by omega)) Xa1) ?_;rintro _ w1 ⟨A6,c6,A7,c7,m6,rfl,L,M,N,b4,C,D,b5,b6,b7,aL,aM⟩;have I:=SB.lift (S:=SB bV [A0,A1,A2]) (w0:=w0) (.inl (.inl rfl)) (alc b2 (alc aI (alc aJ al0)));have M:=Us.trans M I l.size
 have l:=tstr l L I;clear I
 clear L b;have b:=N;clear N
 clear g;have g:=C;clear C
 clear i;have i:=D;clear D;refine Za rfl<|Zx b3 fun a G _ b8=>?_;refine Zm rfl<|Zm rfl<|Zf (Vc (Xip _ bV B0 A6 c6 A1 c1 A2 c2 A7 c7 m6 H (plcB x p) ⟨b,b4,g,i,b5.top,b6,b7,aL,aM⟩ (Q0 aG l.size) q hq a7 (by omega)) Xa1) ?_;rintro _ w2 ⟨A9,c9,aC,aD,m9,rfl,L,J,N,j,C,D,E,a8,aN,aA,aB⟩;have I:=SB.lift (S:=SB bV [A0,A1,A2]) (w0:=w0) (.inl (.inl rfl)) (alc M (alc aI (alc aJ al0)));have J:=Us.trans J I l.size
 have l:=tstr l L I;clear I
 clear L b;have b:=N;clear N
 clear g;have g:=C;clear C
 clear i;have i:=D;clear D;refine Za rfl<|ZX b8 fun a G _ aO=>?_;refine Zs G fun _ aP=>?_;refine Zm rfl<|Ze (Xz rfl)<|Ze (Vd rfl X0i 0)<|Ze (Vd rfl Xr 2)<|Ze (X0 rfl X0j (b.at 2))<|Zm rfl<|Zm rfl<|Zf (Vc (Xdy _ aC aD ((plcB (plcB x p) q).d.ws) E.top ((plcB x p).la.getD p.toNat 0) ((plcB (plcB x p) q).la.getD q.toNat 0) (by omega)) X7f) ?_;rintro _ w3 ⟨rfl,h⟩;have b:=b.below h;have g:=g.below h;have i:=i.below h;have j:=j.below h;have E:=E.below h;have l:=tsbel l h;refine Za rfl<|Zx aP fun a G _ aQ=>?_;refine Zm rfl<|Ze (X4g rfl rfl)<|Zt aQ fun a G=>?_
 refine Xg G rfl (fun k=>?_) (fun k=>?_)
 ·have aE:=k;have k:=Q2 k;have aF:=Xua k;refine Zs G fun _ aR=>?_;refine Zm rfl<|Zm rfl<|Ze (Xz rfl)<|Ze (Vd rfl X0i 0)<|Ze (Vd rfl Xr 2)<|Ze (X0 rfl X0j (b.at 2))<|Zm rfl<|Zf (Vc (Xeh _ aC aD ((plcB (plcB x p) q).d.ws) E.top (fdW ((plcB (plcB x p) q).d.ws) ((plcB x p).la.getD p.toNat 0) ((plcB (plcB x p) q).la.getD q.toNat 0)) (by omega) a8 ⟨by omega,aK⟩) X7m) ?_;rintro _ w4 ⟨Q,U,rfl,o,h⟩;have o:=o.lower l.size;have b:=b.below h;have g:=g.below h;have i:=i.below h;have j:=j.below h;have l:=tsbel l h;refine Ze (Xz rfl)<|Ze (Vd rfl X0i 0)<|Ze (Vd rfl Xr 2)<|Zo (X1a (vs:=[.slice Q (ctW ((plcB (plcB x p) q).d.ws) (fdW ((plcB (plcB x p) q).d.ws) ((plcB x p).la.getD p.toNat 0) ((plcB (plcB x p) q).la.getD q.toNat 0)).toNat).length U]) (l':=[vi ((plcB (plcB x p) q).d.n),.slice A9 m9 c9,.slice Q (ctW ((plcB (plcB x p) q).d.ws) (fdW ((plcB (plcB x p) q).d.ws) ((plcB x p).la.getD p.toNat 0) ((plcB (plcB x p) q).la.getD q.toNat 0)).toNat).length U,vi ((plcB (plcB x p) q).d.t),vi ((plcB (plcB x p) q).d.r),.slice A1 H c1,.slice A2 H c2]) rfl rfl X1l b rfl rfl rfl rfl rfl) ?_;rintro _ w5 ⟨y,hb⟩;have f:=b;have g:=g.onlyT y f rfl;have i:=i.onlyT y f rfl;have j:=j.onlyT y f rfl;have o:=o.onlyT y f rfl;have l:=tsonly l y (.inl (.inl rfl));have b:=hb;refine Zx aR fun a G _ aS=>?_;refine Zm rfl<|Ze (Xz rfl)<|Ze (Vd rfl X0i 0)<|Ze (Vd rfl X02 4)<|Ze (X0 rfl X9 (b.at 4))<|Ze (Xbi rfl rfl)<|Ze (Xz rfl)<|Ze (Vd rfl X0i 0)<|Ze (Vd rfl X02 4)<|Zo (X1a (vs:=[vi (wr (((plcB (plcB x p) q).d.r)-1))]) (l':=[vi ((plcB (plcB x p) q).d.n),.slice A9 m9 c9,.slice Q (ctW ((plcB (plcB x p) q).d.ws) (fdW ((plcB (plcB x p) q).d.ws) ((plcB x p).la.getD p.toNat 0) ((plcB (plcB x p) q).la.getD q.toNat 0)).toNat).length U,vi ((plcB (plcB x p) q).d.t),vi (wr (((plcB (plcB x p) q).d.r)-1)),.slice A1 H c1,.slice A2 H c2]) rfl rfl X08 b rfl rfl rfl rfl rfl) ?_;rintro _ w6 ⟨y,hb⟩
  have f:=b;have g:=g.onlyT y f rfl;have i:=i.onlyT y f rfl;have j:=j.onlyT y f rfl;have o:=o.onlyT y f rfl;have l:=tsonly l y (.inl (.inl rfl));have b:=hb;refine Zt aS fun a G=>?_;refine Q6<|X6<|X4 G (X1x rfl) ?_
  rw [aF]
  exact ⟨A9,c9,Q,U,m9,l,J,⟨b,j,g,i,o.rd.top,o.cap,aN,aA,aB⟩⟩
 have aE:=k;have k:=Q1 k;have aF:=Xu8 k;refine Q7<|aO _ _<|Zs G fun _ aT=>?_;refine Zm rfl<|Zm rfl<|Ze (Xz rfl)<|Ze (Vd rfl X0i 0)<|Ze (Vd rfl Xr 2)<|Ze (X0 rfl X0j (b.at 2))<|Zm rfl<|Zm rfl<|Zf (Vc (X94 _ aC aD ((plcB (plcB x p) q).d.ws) E.top ((plcB x p).la.getD p.toNat 0) ((plcB (plcB x p) q).la.getD q.toNat 0) true (by omega) a8) X5d) ?_;rintro _ w7 ⟨W,a6,rfl,u,h⟩;have u:=u.lower l.size;have b:=b.below h;have g:=g.below h;have i:=i.below h;have j:=j.below h;have l:=tsbel l h;refine Ze (Xz rfl)<|Ze (Vd rfl X0i 0)<|Ze (Vd rfl Xr 2)<|Zo (X1a (vs:=[.slice W (jnW ((plcB (plcB x p) q).d.ws) ((plcB x p).la.getD p.toNat 0) ((plcB (plcB x p) q).la.getD q.toNat 0) true).length a6]) (l':=[vi ((plcB (plcB x p) q).d.n),.slice A9 m9 c9,.slice W (jnW ((plcB (plcB x p) q).d.ws) ((plcB x p).la.getD p.toNat 0) ((plcB (plcB x p) q).la.getD q.toNat 0) true).length a6,vi ((plcB (plcB x p) q).d.t),vi ((plcB (plcB x p) q).d.r),.slice A1 H c1,.slice A2 H c2]) rfl rfl X1l b rfl rfl rfl rfl rfl) ?_;rintro _ w8 ⟨y,hb⟩;have f:=b;have g:=g.onlyT y f rfl;have i:=i.onlyT y f rfl;have j:=j.onlyT y f rfl;have u:=u.onlyT y f rfl;have l:=tsonly l y (.inl (.inl rfl));have b:=hb;refine Zt aT fun a G=>?_;refine Zr G<|Zm rfl<|Ze (Xz rfl)<|Ze (Vd rfl X0i 0)<|Ze (Vd rfl X02 4)<|Ze (X0 rfl X9 (b.at 4))<|Ze (X43 rfl rfl)<|Ze (Xz rfl)<|Ze (Vd rfl X0i 0)<|Ze (Vd rfl X02 4)<|Zo (X1a (vs:=[vi (wr (((plcB (plcB x p) q).d.r)+1))]) (l':=[vi ((plcB (plcB x p) q).d.n),.slice A9 m9 c9,.slice W (jnW ((plcB (plcB x p) q).d.ws) ((plcB x p).la.getD p.toNat 0) ((plcB (plcB x p) q).la.getD q.toNat 0) true).length a6,vi ((plcB (plcB x p) q).d.t),vi (wr (((plcB (plcB x p) q).d.r)+1)),.slice A1 H c1,.slice A2 H c2]) rfl rfl X08 b rfl rfl rfl rfl rfl) ?_;rintro _ w9 ⟨y,hb⟩
 have f:=b;have g:=g.onlyT y f rfl;have i:=i.onlyT y f rfl;have j:=j.onlyT y f rfl;have u:=u.onlyT y f rfl;have l:=tsonly l y (.inl (.inl rfl));have b:=hb;refine Zn fun a G=>?_;refine X1b G (X1x rfl) ?_
 rw [aF]
 exact ⟨A9,c9,W,a6,m9,l,J,⟨b,j,g,i,u.rd.top,u.cap,aN,aA,aB⟩⟩
theorem Xt9(w0:World)(bV B0:Nat)(A0:Option Addr)(c0:Nat)(A1:Option Addr)(c1:Nat)(A2:Option Addr)(c2:Nat)(BW:Option Addr)(eW m0 n0:Nat)(x:Br)(fI:Drw w0 bV B0 A0 c0 A1 c1 A2 c2 BW eW m0 n0 x)(a8:B0≤w0.heap.size)(g:Gt)(aD:BrOk n0 x)(iQ:x.d.ns.length≤70000000∧x.d.ws.length≤70000000)(Q:gOk (n0:Int) g=true) : Ret Tryz.prog 136 [.pointer (some ⟨bV,0,none⟩),.agg #[vi g.k,vi g.a,vi g.b]] w0 (fun v w=>∃ A c B e m,TurnS (SB bV [A0,A1,A2]) w0 w∧Us (SB bV [A0,A1,A2]) w0 A∧Drw w bV B0 A c A1 c1 A2 c2 B e m n0 (gtB x g)):=by
 obtain ⟨i,G,o,p,J,aE,aF,aA,aB⟩:=fI;have iM:=i.lt
 have aG:Us (SB bV [A0,A1,A2]) w0 A0:=SB.us (by simp)
 have U:Us (SB bV [A0,A1,A2]) w0 A1:=SB.us (by simp)
 have W:Us (SB bV [A0,A1,A2]) w0 A2:=SB.us (by simp)
 have aC:=Xcf Q;have b5:=Xbn Q;have iS:=Xbt Q
 have b1:x.d.ns.length≤80000000∧x.d.ws.length≤80000000:=by omega
 have o1:=X4w aD g.a 4
 have l1:=X58 x g.a 4
 have iN:=aD.la;have iO:=aD.hd;refine enter Tryz.func136 rfl 164 rfl rfl ?_;intro a L
 have E:TurnS (SB bV [A0,A1,A2]) w0 w0:=TurnS.refl _ _
 refine Zs L fun _ fJ=>?_;refine Zf (X0c (zs:=[vi g.k,vi g.a,vi g.b]) rfl rfl) ?_;rintro _ w1 ⟨b6,rfl,fK,M,f⟩;have iP:=Q0 E.size fK;have i:=i.below M;have G:=G.below M;have o:=o.below M;have p:=p.below M;have J:=J.below M;have E:=tsbel E M;refine Zx fJ fun a L _ fL=>?_;refine Ze (Vd rfl X0p 0)<|Ze (X0 rfl X9 (f.at 0))<|Zt fL fun a L=>?_;refine Q8<|Zs L fun _ fM=>?_;refine Ze (X0b rfl rfl)<|Za rfl<|Zt fM fun a L=>?_
 refine Xg L rfl (fun b2=>?_) (fun b2=>?_)
 ·have cS:=b2;have a6:=Xwh (x:=x) b2;refine Zr L<|Zm rfl<|Ze (Vd rfl X09 1)<|Ze (X0 rfl X9 (f.at 1))<|Zf (Vc (X81 _ bV B0 A0 c0 A1 c1 A2 c2 BW eW m0 n0 x ⟨i,G,o,p,J.top,aE,aF,aA,aB⟩ (Q0 a8 E.size) g.a aC) X4s) ?_;rintro _ w2 ⟨fN,fO,fP,fQ,fR,C,aN,I,cT,q,y,cU,cV,cW,bH,bJ⟩;have f:=f.tu C i rfl (alc (nrow G f rfl) (alc (nrow o f rfl) (alc (nrow p f rfl) al0)));have D:=SB.lift (S:=SB bV [A0,A1,A2]) (w0:=w0) (.inl (.inl rfl)) (alc aG (alc U (alc W al0)));have aN:=Us.trans aN D E.size
  have E:=tstr E C D;clear D
  clear C i;have i:=I;clear I
  clear o;have o:=q;clear q
  clear p;have p:=y;clear y;refine Zn fun a L=>?_;refine Xa<|X1b L (X1x rfl) ?_
  rw [a6]
  exact ⟨fN,fO,fP,fQ,fR,E,aN,⟨i,cT,o,p,cU.top,cV,cW,bH,bJ⟩⟩
 have cS:=b2
 have g1:=b2
 refine Zs L fun _ cX=>?_;refine Ze (X0b rfl rfl)<|Za rfl<|Zt cX fun a L=>?_
 refine Xg L rfl (fun aH=>?_) (fun aH=>?_)
 ·have bK:=aH;have a6:=Xuj (x:=x) g1 aH;refine Zs L fun _ cY=>?_;refine Zm rfl<|Ze (Vd rfl X09 1)<|Ze (X0 rfl X9 (f.at 1))<|Zf (Vc (X81 _ bV B0 A0 c0 A1 c1 A2 c2 BW eW m0 n0 x ⟨i,G,o,p,J.top,aE,aF,aA,aB⟩ (Q0 a8 E.size) g.a aC) X4s) ?_;rintro _ w3 ⟨fS,fT,fU,fV,fW,C,aO,I,b8,q,y,d5,d6,d7,bL,bM⟩;have f:=f.tu C i rfl (alc (nrow G f rfl) (alc (nrow o f rfl) (alc (nrow p f rfl) al0)));have D:=SB.lift (S:=SB bV [A0,A1,A2]) (w0:=w0) (.inl (.inl rfl)) (alc aG (alc U (alc W al0)));have aO:=Us.trans aO D E.size
  have E:=tstr E C D;clear D
  clear C i;have i:=I;clear I
  clear o;have o:=q;clear q
  clear p;have p:=y;clear y;refine Zx cY fun a L _ d8=>?_;refine Zm rfl<|Ze (Vd rfl X09 1)<|Ze (X0 rfl X9 (f.at 1))<|Zf (Vc (Xdx _ bV B0 fS fT A1 c1 A2 c2 fU fV fW n0 (flpB x g.a) ⟨i,b8,o,p,d5.top,d6,d7,bL,bM⟩ (Q0 a8 E.size) g.a 4 aC (X24 aD g.a) b1 ⟨by decide,by decide⟩) X7g) ?_;rintro _ w4 ⟨fX,fY,fZ,g5,g6,C,aP,I,b9,q,y,d9,dB,dC,bN,bO⟩;have f:=f.tu C i rfl (alc (nrow b8 f rfl) (alc (nrow o f rfl) (alc (nrow p f rfl) al0)));have D:=SB.lift (S:=SB bV [A0,A1,A2]) (w0:=w0) (.inl (.inl rfl)) (alc aO (alc U (alc W al0)));have aP:=Us.trans aP D E.size
  have E:=tstr E C D;clear D
  clear C i;have i:=I;clear I
  clear o;have o:=q;clear q
  clear p;have p:=y;clear y;refine Zt d8 fun a L=>?_;refine Zr L<|Zm rfl<|Ze (Vd rfl X09 1)<|Ze (X0 rfl X9 (f.at 1))<|Zf (Vc (X81 _ bV B0 fX fY A1 c1 A2 c2 fZ g5 g6 n0 (trnB (flpB x g.a) g.a 4) ⟨i,b9,o,p,d9.top,dB,dC,bN,bO⟩ (Q0 a8 E.size) g.a aC) X4s) ?_;rintro _ w5 ⟨g7,g8,gA,gB,gC,C,aQ,I,dD,q,y,dE,dF,dG,bP,bR⟩;have f:=f.tu C i rfl (alc (nrow b9 f rfl) (alc (nrow o f rfl) (alc (nrow p f rfl) al0)));have D:=SB.lift (S:=SB bV [A0,A1,A2]) (w0:=w0) (.inl (.inl rfl)) (alc aP (alc U (alc W al0)));have aQ:=Us.trans aQ D E.size
  have E:=tstr E C D;clear D
  clear C i;have i:=I;clear I
  clear o;have o:=q;clear q
  clear p;have p:=y;clear y;refine Zn fun a L=>?_;refine Xa<|X1b L (X1x rfl) ?_
  rw [a6]
  exact ⟨g7,g8,gA,gB,gC,E,aQ,⟨i,dD,o,p,dE.top,dF,dG,bP,bR⟩⟩
 have bK:=aH
 have g2:=aH
 refine Zs L fun _ dH=>?_;refine Ze (X0b rfl rfl)<|Za rfl<|Zt dH fun a L=>?_
 refine Xg L rfl (fun aI=>?_) (fun aI=>?_)
 ·have bS:=aI;have a6:=Xw1 (x:=x) g1 g2 aI;refine Zs L fun _ dI=>?_;refine Zm rfl<|Ze (Vd rfl X09 1)<|Ze (X0 rfl X9 (f.at 1))<|Zf (Vc (Xdx _ bV B0 A0 c0 A1 c1 A2 c2 BW eW m0 n0 x ⟨i,G,o,p,J.top,aE,aF,aA,aB⟩ (Q0 a8 E.size) g.a 4 aC aD b1 ⟨by decide,by decide⟩) X7g) ?_;rintro _ w6 ⟨gD,gE,gF,gG,gH,C,aR,I,bA,q,y,dJ,dK,dL,bT,bU⟩;have f:=f.tu C i rfl (alc (nrow G f rfl) (alc (nrow o f rfl) (alc (nrow p f rfl) al0)));have D:=SB.lift (S:=SB bV [A0,A1,A2]) (w0:=w0) (.inl (.inl rfl)) (alc aG (alc U (alc W al0)));have aR:=Us.trans aR D E.size
  have E:=tstr E C D;clear D
  clear C i;have i:=I;clear I
  clear o;have o:=q;clear q
  clear p;have p:=y;clear y;refine Zx dI fun a L _ dM=>?_;refine Zm rfl<|Ze (Vd rfl X09 1)<|Ze (X0 rfl X9 (f.at 1))<|Zf (Vc (X81 _ bV B0 gD gE A1 c1 A2 c2 gF gG gH n0 (trnB x g.a 4) ⟨i,bA,o,p,dJ.top,dK,dL,bT,bU⟩ (Q0 a8 E.size) g.a aC) X4s) ?_;rintro _ w7 ⟨gI,gJ,gK,gL,gM,C,aS,I,bB,q,y,dN,dO,dP,bW,bX⟩;have f:=f.tu C i rfl (alc (nrow bA f rfl) (alc (nrow o f rfl) (alc (nrow p f rfl) al0)));have D:=SB.lift (S:=SB bV [A0,A1,A2]) (w0:=w0) (.inl (.inl rfl)) (alc aR (alc U (alc W al0)));have aS:=Us.trans aS D E.size
  have E:=tstr E C D;clear D
  clear C i;have i:=I;clear I
  clear o;have o:=q;clear q
  clear p;have p:=y;clear y;refine Zx dM fun a L _ dQ=>?_;refine Zm rfl<|Ze (Vd rfl X09 1)<|Ze (X0 rfl X9 (f.at 1))<|Zf (Vc (Xdx _ bV B0 gI gJ A1 c1 A2 c2 gK gL gM n0 (flpB (trnB x g.a 4) g.a) ⟨i,bB,o,p,dN.top,dO,dP,bW,bX⟩ (Q0 a8 E.size) g.a 4 aC (X24 o1 g.a) (show (trnB x g.a 4).d.ns.length≤_∧(trnB x g.a 4).d.ws.length≤_ by omega) ⟨by decide,by decide⟩) X7g) ?_;rintro _ w8 ⟨gN,gO,gQ,gR,gS,C,aT,I,bC,q,y,dR,dS,dU,bY,c4⟩;have f:=f.tu C i rfl (alc (nrow bB f rfl) (alc (nrow o f rfl) (alc (nrow p f rfl) al0)));have D:=SB.lift (S:=SB bV [A0,A1,A2]) (w0:=w0) (.inl (.inl rfl)) (alc aS (alc U (alc W al0)));have aT:=Us.trans aT D E.size
  have E:=tstr E C D;clear D
  clear C i;have i:=I;clear I
  clear o;have o:=q;clear q
  clear p;have p:=y;clear y;refine Zx dQ fun a L _ dW=>?_;refine Zm rfl<|Ze (Vd rfl X09 1)<|Ze (X0 rfl X9 (f.at 1))<|Zf (Vc (X81 _ bV B0 gN gO A1 c1 A2 c2 gQ gR gS n0 (trnB (flpB (trnB x g.a 4) g.a) g.a 4) ⟨i,bC,o,p,dR.top,dS,dU,bY,c4⟩ (Q0 a8 E.size) g.a aC) X4s) ?_;rintro _ w9 ⟨dX,dY,e8,eA,eB,C,aU,I,b3,q,y,b4,eC,eD,c5,cA⟩;have f:=f.tu C i rfl (alc (nrow bC f rfl) (alc (nrow o f rfl) (alc (nrow p f rfl) al0)));have D:=SB.lift (S:=SB bV [A0,A1,A2]) (w0:=w0) (.inl (.inl rfl)) (alc aT (alc U (alc W al0)));have aU:=Us.trans aU D E.size
  have E:=tstr E C D;clear D
  clear C i;have i:=I;clear I
  clear o;have o:=q;clear q
  clear p;have p:=y;clear y;refine Zt dW fun a L=>?_;refine Zr L<|Zm rfl<|Ze (Xz rfl)<|Ze (Vd rfl X0i 0)<|Ze (Vd rfl X0t 3)<|Ze (X0 rfl X9 (i.at 3))<|Ze (X43 rfl rfl)<|Ze (Xz rfl)<|Ze (Vd rfl X0i 0)<|Ze (Vd rfl X0t 3)<|Zo (X1a (vs:=[vi (wr (((flpB (trnB (flpB (trnB x g.a 4) g.a) g.a 4) g.a).d.t)+2))]) (l':=[vi ((flpB (trnB (flpB (trnB x g.a 4) g.a) g.a 4) g.a).d.n),.slice dX eB dY,.slice e8 ((flpB (trnB (flpB (trnB x g.a 4) g.a) g.a 4) g.a).d.ws).length eA,vi (wr (((flpB (trnB (flpB (trnB x g.a 4) g.a) g.a 4) g.a).d.t)+2)),vi ((flpB (trnB (flpB (trnB x g.a 4) g.a) g.a 4) g.a).d.r),.slice A1 n0 c1,.slice A2 n0 c2]) rfl rfl X08 i rfl rfl rfl rfl rfl) ?_;rintro _ iT ⟨ho,hb⟩;have a7:=i;have o:=o.onlyT ho a7 rfl;have p:=p.onlyT ho a7 rfl;have b3:=b3.onlyT ho a7 rfl;have b4:=b4.onlyT ho a7 rfl;have E:=tsonly E ho (.inl (.inl rfl));have i:=hb;refine Zn fun a L=>?_;refine Xa<|X1b L (X1x rfl) ?_
  rw [a6]
  exact ⟨dX,dY,e8,eA,eB,E,aU,⟨i,b3,o,p,b4.top,eC,eD,c5,cA⟩⟩
 have bS:=aI
 have g3:=aI
 refine Zs L fun _ eE=>?_;refine Ze (X0b rfl rfl)<|Za rfl<|Zt eE fun a L=>?_
 refine Xg L rfl (fun aJ=>?_) (fun aJ=>?_)
 ·have cB:=aJ;have a6:=Xvs (x:=x) g1 g2 g3 aJ;refine Zs L fun _ eF=>?_;refine Zm rfl<|Ze (Vd rfl X0r 2)<|Ze (X0 rfl X9 (f.at 2))<|Zf (Vc (X81 _ bV B0 A0 c0 A1 c1 A2 c2 BW eW m0 n0 x ⟨i,G,o,p,J.top,aE,aF,aA,aB⟩ (Q0 a8 E.size) g.b b5) X4s) ?_;rintro _ iU ⟨gT,gU,gX,gY,hJ,C,aW,I,bD,q,y,eG,eH,eI,cC,cD⟩;have f:=f.tu C i rfl (alc (nrow G f rfl) (alc (nrow o f rfl) (alc (nrow p f rfl) al0)));have D:=SB.lift (S:=SB bV [A0,A1,A2]) (w0:=w0) (.inl (.inl rfl)) (alc aG (alc U (alc W al0)));have aW:=Us.trans aW D E.size
  have E:=tstr E C D;clear D
  clear C i;have i:=I;clear I
  clear o;have o:=q;clear q
  clear p;have p:=y;clear y;refine Zx eF fun a L _ eJ=>?_;refine Zm rfl<|Ze (Vd rfl X09 1)<|Ze (X0 rfl X9 (f.at 1))<|Ze (Vd rfl X0r 2)<|Ze (X0 rfl X9 (f.at 2))<|Zf (Vc (Xpi _ bV B0 gT gU A1 c1 A2 c2 gX gY hJ n0 (flpB x g.b) ⟨i,bD,o,p,eG.top,eH,eI,cC,cD⟩ (Q0 a8 E.size) g.a g.b aC b5 (X24 aD g.b) b1) Xf4) ?_;rintro _ iV ⟨hY,i0,i1,i2,i4,C,aX,I,bE,q,y,eK,eL,eM,cE,cF⟩;have f:=f.tu C i rfl (alc (nrow bD f rfl) (alc (nrow o f rfl) (alc (nrow p f rfl) al0)));have D:=SB.lift (S:=SB bV [A0,A1,A2]) (w0:=w0) (.inl (.inl rfl)) (alc aW (alc U (alc W al0)));have aX:=Us.trans aX D E.size
  have E:=tstr E C D;clear D
  clear C i;have i:=I;clear I
  clear o;have o:=q;clear q
  clear p;have p:=y;clear y;refine Zt eJ fun a L=>?_;refine Zr L<|Zm rfl<|Ze (Vd rfl X0r 2)<|Ze (X0 rfl X9 (f.at 2))<|Zf (Vc (X81 _ bV B0 hY i0 A1 c1 A2 c2 i1 i2 i4 n0 (czB (flpB x g.b) g.a g.b) ⟨i,bE,o,p,eK.top,eL,eM,cE,cF⟩ (Q0 a8 E.size) g.b b5) X4s) ?_;rintro _ iW ⟨i5,i6,i7,i8,i9,C,aY,I,eN,q,y,eO,eP,eQ,cG,cH⟩;have f:=f.tu C i rfl (alc (nrow bE f rfl) (alc (nrow o f rfl) (alc (nrow p f rfl) al0)));have D:=SB.lift (S:=SB bV [A0,A1,A2]) (w0:=w0) (.inl (.inl rfl)) (alc aX (alc U (alc W al0)));have aY:=Us.trans aY D E.size
  have E:=tstr E C D;clear D
  clear C i;have i:=I;clear I
  clear o;have o:=q;clear q
  clear p;have p:=y;clear y;refine Zn fun a L=>?_;refine Xa<|X1b L (X1x rfl) ?_
  rw [a6]
  exact ⟨i5,i6,i7,i8,i9,E,aY,⟨i,eN,o,p,eO.top,eP,eQ,cG,cH⟩⟩
 have cB:=aJ
 have g9:=aJ
 refine Zs L fun _ eR=>?_;refine Ze (X0b rfl rfl)<|Za rfl<|Zt eR fun a L=>?_
 refine Xg L rfl (fun aK=>?_) (fun aK=>?_)
 ·have cJ:=aK;have a6:=Xog (x:=x) g1 g2 g3 g9 aK;refine Zr L<|Zm rfl<|Ze (Vd rfl X09 1)<|Ze (X0 rfl X9 (f.at 1))<|Ze (Vd rfl X0r 2)<|Ze (X0 rfl X9 (f.at 2))<|Zf (Vc (Xpi _ bV B0 A0 c0 A1 c1 A2 c2 BW eW m0 n0 x ⟨i,G,o,p,J.top,aE,aF,aA,aB⟩ (Q0 a8 E.size) g.a g.b aC b5 aD b1) Xf4) ?_;rintro _ iX ⟨iA,iB,iC,iD,iE,C,aZ,I,eS,q,y,eT,eU,eX,cK,cL⟩;have f:=f.tu C i rfl (alc (nrow G f rfl) (alc (nrow o f rfl) (alc (nrow p f rfl) al0)));have D:=SB.lift (S:=SB bV [A0,A1,A2]) (w0:=w0) (.inl (.inl rfl)) (alc aG (alc U (alc W al0)));have aZ:=Us.trans aZ D E.size
  have E:=tstr E C D;clear D
  clear C i;have i:=I;clear I
  clear o;have o:=q;clear q
  clear p;have p:=y;clear y;refine Zn fun a L=>?_;refine Xa<|X1b L (X1x rfl) ?_
  rw [a6]
  exact ⟨iA,iB,iC,iD,iE,E,aZ,⟨i,eS,o,p,eT.top,eU,eX,cK,cL⟩⟩
 have cJ:=aK
 have b7:=aK
 refine Zs L fun _ eY=>?_;refine Ze (X0b rfl rfl)<|Za rfl<|Zt eY fun a L=>?_
 refine Xg L rfl (fun aL=>?_) (fun aL=>?_)
 ·have cM:=aL;have a6:=Xot (x:=x) g1 g2 g3 g9 b7 aL;refine Q5 fun _ f0=>?_;refine X05 none (fun _=>false) mixed ?_;intro iY M;have i:=i.below M;have f:=f.below M;have G:=G.below M;have o:=o.below M;have p:=p.below M;have J:=J.below M;have E:=tsbel E M;refine Yb L<|Yo 0 rfl (fun _=>X3 rfl)<|Yo 1 rfl (fun _=>Xz rfl)<|Yo 2 rfl (fun _=>Vd rfl X20 5)<|Ye 3 rfl (X0 rfl X28 (i.at 5))<|Yo 4 rfl (fun _=>Vd rfl X09 1)<|Ye 5 rfl (X0 rfl X9 (f.at 1))<|Yo 6 rfl (fun _=>Xi (k:=g.a.toNat) rfl rfl Xl X08 o aA (by omega) (by first|omega|(rw [List.length_set];omega)))<|Ye 7 rfl (X0 rfl X9 (X0g o Xf (Xb (d:=(0:Int)) (by first|omega|(rw [List.length_set];omega))) 0 rfl))<|Yo 8 rfl (fun _=>X3 rfl)<|Yo 9 rfl (fun _=>Xz rfl) ?_;refine Yo 10 rfl (fun _=>Vd rfl X2a 6)<|Ye 11 rfl (X0 rfl X26 (i.at 6))<|Yo 12 rfl (fun _=>Vd rfl X09 1)<|Ye 13 rfl (X0 rfl X9 (f.at 1))<|Yo 14 rfl (fun _=>Xi (k:=g.a.toNat) rfl rfl X1u X2u p aB (by omega) (by first|omega|(rw [List.length_set];omega)))<|Ye 15 rfl (X0 rfl X6c (X0g p X0z (Xb (d:=false) (by first|omega|(rw [List.length_set];omega))) 0 rfl))<|Yo 16 rfl (fun _=>X11 rfl)<|Yo 17 rfl (fun _=>X11 rfl) ?_;refine Yd fun a L=>?_;refine f0 _ _<|Q5 fun _ f3=>?_;refine X05 none (fun j=>[15].contains j) mixed ?_;intro iZ M;have i:=i.below M;have f:=f.below M;have G:=G.below M;have o:=o.below M;have p:=p.below M;have J:=J.below M;have E:=tsbel E M;refine Yb L<|Yo 0 rfl (fun _=>X3 rfl)<|Yo 1 rfl (fun _=>Xz rfl)<|Yo 2 rfl (fun _=>Vd rfl X20 5)<|Ye 3 rfl (X0 rfl X28 (i.at 5))<|Yo 4 rfl (fun _=>Vd rfl X09 1)<|Ye 5 rfl (X0 rfl X9 (f.at 1))<|Yo 6 rfl (fun _=>X3 rfl)<|Yo 7 rfl (fun _=>Xz rfl)<|Yo 8 rfl (fun _=>Vd rfl X20 5)<|Ye 9 rfl (X0 rfl X28 (i.at 5)) ?_
  refine Yo 10 rfl (fun _=>Vd rfl X0r 2)<|Ye 11 rfl (X0 rfl X9 (f.at 2))<|Yo 12 rfl (fun _=>Xi (k:=g.b.toNat) rfl rfl Xl X08 o aA (by omega) (by first|omega|(rw [List.length_set];omega)))<|Ye 13 rfl (X0 rfl X9 (X0g o Xf (Xb (d:=(0:Int)) (by first|omega|(rw [List.length_set];omega))) 0 rfl))<|Yo 14 rfl (fun _=>Xi (k:=g.a.toNat) rfl rfl Xl X08 o aA (by omega) (by first|omega|(rw [List.length_set];omega)))<|Y1 15 ?_;refine Yh rfl trivial rfl (X0h (enc:=encI) (l:=x.la) (vs:=[vi (x.la.getD g.b.toNat 0)]) (x0:=(x.la.getD g.a.toNat 0)) (u:=(x.la.getD g.b.toNat 0)) (k:=g.a.toNat) (j:=0) (n1:=1) rfl rfl X08 o Xf rfl rfl rfl rfl (by decide) (Xb (d:=(0:Int)) (by first|omega|(rw [List.length_set];omega))) rfl) ?_;rintro _ j0 ⟨N,Q⟩;have H:=o;have i:=i.appT H Q rfl;have f:=f.appT H Q rfl;have G:=G.appT H Q rfl;have p:=p.appT H Q rfl;have J:=J.appT H Q rfl;have E:=tsrow E Q U
  clear H Q;clear o;have o:=N;clear N;refine Yd fun a L=>?_;refine f3 _ _<|Q5 fun _ f7=>?_;refine X05 none (fun j=>[15].contains j) mixed ?_;intro j1 M;have i:=i.below M;have f:=f.below M;have G:=G.below M;have p:=p.below M;have J:=J.below M;have o:=o.below M;have E:=tsbel E M;refine Yb L<|Yo 0 rfl (fun _=>X3 rfl)<|Yo 1 rfl (fun _=>Xz rfl)<|Yo 2 rfl (fun _=>Vd rfl X2a 6)<|Ye 3 rfl (X0 rfl X26 (i.at 6))<|Yo 4 rfl (fun _=>Vd rfl X09 1)<|Ye 5 rfl (X0 rfl X9 (f.at 1))<|Yo 6 rfl (fun _=>X3 rfl)<|Yo 7 rfl (fun _=>Xz rfl)<|Yo 8 rfl (fun _=>Vd rfl X2a 6)<|Ye 9 rfl (X0 rfl X26 (i.at 6)) ?_;refine Yo 10 rfl (fun _=>Vd rfl X0r 2)<|Ye 11 rfl (X0 rfl X9 (f.at 2))<|Yo 12 rfl (fun _=>Xi (k:=g.b.toNat) rfl rfl X1u X2u p aB (by omega) (by first|omega|(rw [List.length_set];omega)))<|Ye 13 rfl (X0 rfl X6c (X0g p X0z (Xb (d:=false) (by first|omega|(rw [List.length_set];omega))) 0 rfl))<|Yo 14 rfl (fun _=>Xi (k:=g.a.toNat) rfl rfl X1u X2u p aB (by omega) (by first|omega|(rw [List.length_set];omega)))<|Y1 15 ?_;refine Yh rfl trivial rfl (X0h (enc:=encB) (l:=x.hd) (vs:=[.bool (x.hd.getD g.b.toNat false)]) (x0:=(x.hd.getD g.a.toNat false)) (u:=(x.hd.getD g.b.toNat false)) (k:=g.a.toNat) (j:=0) (n1:=1) rfl rfl X2u p X0z rfl rfl rfl rfl (by decide) (Xb (d:=false) (by first|omega|(rw [List.length_set];omega))) rfl) ?_;rintro _ j2 ⟨N,Q⟩;have H:=p;have i:=i.appT H Q rfl;have f:=f.appT H Q rfl;have G:=G.appT H Q rfl;have J:=J.appT H Q rfl;have o:=o.appT H Q rfl;have E:=tsrow E Q W
  clear H Q;clear p;have p:=N;clear N;refine Yd fun a L=>?_;refine f7 _ _<|Q5 fun _ f8=>?_;refine X05 none (fun j=>[8].contains j) mixed ?_;intro j3 M;have i:=i.below M;have f:=f.below M;have G:=G.below M;have J:=J.below M;have o:=o.below M;have p:=p.below M;have E:=tsbel E M;refine Yb L<|Yo 0 rfl (fun _=>X3 rfl)<|Yo 1 rfl (fun _=>Xz rfl)<|Yo 2 rfl (fun _=>Vd rfl X20 5)<|Ye 3 rfl (X0 rfl X28 (i.at 5))<|Yo 4 rfl (fun _=>Vd rfl X0r 2)<|Ye 5 rfl (X0 rfl X9 (f.at 2))<|Yo 6 rfl (fun _=>X3 rfl)<|Yo 7 rfl (fun _=>Xi (k:=g.b.toNat) rfl rfl Xl X08 o (aA.trans List.length_set.symm) (by omega) (by first|omega|(rw [List.length_set];omega)))<|Y1 8 ?_;refine Yh rfl trivial rfl (X0h (enc:=encI) (l:=(x.la.set g.a.toNat (x.la.getD g.b.toNat 0))) (vs:=[vi (x.la.getD g.a.toNat 0)]) (x0:=((x.la.set g.a.toNat (x.la.getD g.b.toNat 0)).getD g.b.toNat 0)) (u:=(x.la.getD g.a.toNat 0)) (k:=g.b.toNat) (j:=0) (n1:=1) rfl rfl X08 o Xf rfl rfl rfl rfl (by decide) (Xb (d:=(0:Int)) (by first|omega|(rw [List.length_set];omega))) rfl) ?_;rintro _ j4 ⟨N,Q⟩;have H:=o;have i:=i.appT H Q rfl;have f:=f.appT H Q rfl;have G:=G.appT H Q rfl;have J:=J.appT H Q rfl;have p:=p.appT H Q rfl;have E:=tsrow E Q U
  clear H Q;clear o;have o:=N;clear N;refine Yd fun a L=>?_;refine f8 _ _<|X05 none (fun j=>[8].contains j) mixed ?_;intro j5 M;have i:=i.below M;have f:=f.below M;have G:=G.below M;have J:=J.below M;have p:=p.below M;have o:=o.below M;have E:=tsbel E M;refine Yb L<|Yo 0 rfl (fun _=>X3 rfl)<|Yo 1 rfl (fun _=>Xz rfl)<|Yo 2 rfl (fun _=>Vd rfl X2a 6)<|Ye 3 rfl (X0 rfl X26 (i.at 6))<|Yo 4 rfl (fun _=>Vd rfl X0r 2)<|Ye 5 rfl (X0 rfl X9 (f.at 2))<|Yo 6 rfl (fun _=>X3 rfl)<|Yo 7 rfl (fun _=>Xi (k:=g.b.toNat) rfl rfl X1u X2u p (aB.trans List.length_set.symm) (by omega) (by first|omega|(rw [List.length_set];omega)))<|Y1 8 ?_;refine Yh rfl trivial rfl (X0h (enc:=encB) (l:=(x.hd.set g.a.toNat (x.hd.getD g.b.toNat false))) (vs:=[.bool (x.hd.getD g.a.toNat false)]) (x0:=((x.hd.set g.a.toNat (x.hd.getD g.b.toNat false)).getD g.b.toNat false)) (u:=(x.hd.getD g.a.toNat false)) (k:=g.b.toNat) (j:=0) (n1:=1) rfl rfl X2u p X0z rfl rfl rfl rfl (by decide) (Xb (d:=false) (by first|omega|(rw [List.length_set];omega))) rfl) ?_;rintro _ j6 ⟨N,Q⟩;have H:=p;have i:=i.appT H Q rfl;have G:=G.appT H Q rfl;have J:=J.appT H Q rfl;have o:=o.appT H Q rfl;have E:=tsrow E Q W
  clear H Q;clear p;have p:=N;clear N;refine Yd fun a L=>?_;refine Xa<|X1b L (X1x rfl) ?_
  rw [a6]
  exact ⟨A0,c0,BW,eW,m0,E,aG,⟨i,G,o,p,J.top,aE,aF,((aA.trans List.length_set.symm).trans List.length_set.symm),((aB.trans List.length_set.symm).trans List.length_set.symm)⟩⟩
 have cM:=aL
 have cN:=aL
 refine Zs L fun _ f9=>?_;refine Ze (X0b rfl rfl)<|Za rfl<|Zt f9 fun a L=>?_
 refine Xg L rfl (fun aM=>?_) (fun aM=>?_)
 ·have cO:=aM;have a6:=Xpa (x:=x) g1 g2 g3 g9 b7 cN aM;refine Zr L<|Zm rfl<|Ze (Xz rfl)<|Ze (Vd rfl X0i 0)<|Ze (Vd rfl X0t 3)<|Ze (X0 rfl X9 (i.at 3))<|Ze (X43 rfl rfl)<|Ze (Xz rfl)<|Ze (Vd rfl X0i 0)<|Ze (Vd rfl X0t 3)<|Zo (X1a (vs:=[vi (wr (x.d.t+1))]) (l':=[vi x.d.n,.slice A0 m0 c0,.slice BW x.d.ws.length eW,vi (wr (x.d.t+1)),vi x.d.r,.slice A1 n0 c1,.slice A2 n0 c2]) rfl rfl X08 i rfl rfl rfl rfl rfl) ?_;rintro _ j7 ⟨ho,hb⟩;have a7:=i;have G:=G.onlyT ho a7 rfl;have o:=o.onlyT ho a7 rfl;have p:=p.onlyT ho a7 rfl;have J:=J.onlyT ho a7 rfl;have E:=tsonly E ho (.inl (.inl rfl));have i:=hb;refine Zn fun a L=>?_;refine Xa<|X1b L (X1x rfl) ?_
  rw [a6]
  exact ⟨A0,c0,BW,eW,m0,E,aG,⟨i,G,o,p,J.top,aE,aF,aA,aB⟩⟩
 have cO:=aM
 have fA:=aM
 have a6:=Xvb (x:=x) g1 g2 g3 g9 b7 cN fA
 have fB:4≤g.k∧g.k≤8:=by simp only [beq_eq_false_iff_ne] at g1 g2 g3 g9 b7 cN fA;omega
 have fC:=Xj1 fB;refine X05 none (fun j=>[9].contains j) mixed ?_;intro j8 M;have i:=i.below M;have f:=f.below M;have G:=G.below M;have o:=o.below M;have p:=p.below M;have J:=J.below M;have E:=tsbel E M;refine Yb L<|Yo 0 rfl (fun _=>X3 rfl)<|Yo 1 rfl (fun _=>Vd rfl X09 1)<|Ye 2 rfl (X0 rfl X9 (f.at 1))<|Yo 4 rfl (fun _=>Vd rfl X0p 0)<|Ye 5 rfl (X0 rfl X9 (f.at 0))<|Yo 6 rfl (fun _=>X1g rfl rfl (by omega) (by omega))<|Y1 3 ?_;refine Yk rfl trivial (Xm (k:=5) (vs:=[vi 4,vi 2,vi 6,vi 1,vi 7]) (zs:=[vi 4,vi 2,vi 6,vi 1,vi 7]) rfl Xl X1q rfl rfl) (fun _ _ ⟨_,_,_,h,_⟩=>h) ?_;rintro _ j9 ⟨jA,rfl,bF,M,bG⟩;have iF:=Q0 E.size bF;have fD:=o.away bF;have i:=i.below M;have f:=f.below M;have G:=G.below M;have o:=o.below M;have p:=p.below M;have J:=J.below M;have E:=tsbel E M;refine Yi (k:=(g.k-4).toNat) (u:=(rotC g.k)) (enc:=encI) (l:=[4,2,6,1,7]) 7 rfl trivial rfl rfl Xl X08 Xf (Rd.of_blk bG rfl _ bG.lt) fC.1 (by omega) ?_;intro jB cP;refine Ye 8 rfl (X0 rfl X9 cP)<|Y1 9 ?_;refine Yt rfl trivial rfl (Vc (Xdx _ bV B0 A0 c0 A1 c1 A2 c2 BW eW m0 n0 x ⟨i,G,o,p,J.top,aE,aF,aA,aB⟩ (Q0 a8 E.size) g.a (rotC g.k) aC aD b1 fC.2) X7g) ?_;rintro _ jC ⟨iG,iH,iI,iJ,iK,C,b0,I,fE,q,y,fF,fG,fH,cQ,cR⟩;have f:=f.tu C i rfl (alc (nrow G f rfl) (alc (nrow o f rfl) (alc (nrow p f rfl) al0)));have D:=SB.lift (S:=SB bV [A0,A1,A2]) (w0:=w0) (.inl (.inl rfl)) (alc aG (alc U (alc W al0)));have b0:=Us.trans b0 D E.size
 have E:=tstr E C D;clear D
 clear C i;have i:=I;clear I
 clear o;have o:=q;clear q
 clear p;have p:=y;clear y;refine Yd fun a L=>?_;refine Xa<|X1b L (X1x rfl) ?_
 rw [a6]
 exact ⟨iG,iH,iI,iJ,iK,E,b0,⟨i,fE,o,p,fF.top,fG,fH,cQ,cR⟩⟩
theorem Xv3(w0:World)(c:Cx)(Ac:Option Addr)(cc:Nat)(bM:Rd w0 w0.heap.size 123 encG Ac c.gs)(hc:cOk c=true) : Ret Tryz.prog 84 [.agg #[vi c.n,.slice Ac c.gs.length cc]] w0 (fun v w=>∃ A c1 B e,v=.agg #[vi (ofD c).n,.slice A (ofD c).ns.length c1,.slice B (ofD c).ws.length e,vi (ofD c).t,vi (ofD c).r]∧Rd w w.heap.size 81 encNd A (ofD c).ns∧Rd w w.heap.size 83 encWr B (ofD c).ws∧(ofD c).ws.length≤e∧Below w0.heap.size w0 w):=by
 obtain ⟨n9,f8,f9,fA⟩:=Xcc hc
 have cJ:c.n=((c.n.toNat:Nat) : Int):=by omega
 have fB:=Xap hc
 have cK:(List.replicate (c.n.toNat:Nat) false).length=(c.n.toNat:Nat):=List.length_replicate
 have cL:(c.n.toNat:Nat)≤maxLen:=by simp only [maxLen];omega
 refine enter Tryz.func84 rfl 79 rfl rfl ?_;intro a C
 have q:=bz w0
 refine Zs C fun _ eE=>?_;refine Zf (X0c (zs:=[vi c.n,.slice Ac c.gs.length cc]) rfl rfl) ?_;rintro _ w1 ⟨b3,rfl,eF,G,i⟩;have f3:=Q0 q.size eF;have q:=btr q G;refine Zf (Xu (zs:=[vi 0,.slice none 0 0,.slice none 0 0,vi 0,vi 0]) X0s rfl) ?_;rintro _ w2 ⟨b6,rfl,eG,G,o⟩;have cM:=Q0 q.size eG;have i:=i.below G;have q:=btr q G;refine ZX eE fun a C _ eH=>?_;refine X05 none (fun _=>false) mixed ?_;intro w3 G;have i:=i.below G;have o:=o.below G;have q:=btr q G;refine Yb C<|Yo 0 rfl (fun _=>Vd rfl X1d 0)<|Ye 1 rfl (X0 rfl X9 (i.at 0))<|Yo 2 rfl (fun _=>X0w (ps:=[(0,vi c.n)]) (cs:=[vi c.n,.slice none 0 0,.slice none 0 0,vi 0,vi 0]) rfl (fun _=>by first|rfl|kernel_rfl))<|Yo 3 rfl (fun _=>Vd rfl X1d 0)<|Ye 4 rfl (Vx (X0 rfl X9 (i.at 0)) cJ)<|Y1 5 ?_;refine Yk rfl trivial (X6b (m:=(c.n.toNat:Nat)) (enc:=encB) (z0:=false) rfl rfl X1u Xnx z_4 rfl X0z (by omega) (by omega)) (fun _ _ ⟨_,_,_,h,_⟩=>h) ?_;rintro _ w4 ⟨bF,rfl,cN,G,b0⟩;have bR:=Q0 q.size cN;have i:=i.below G;have o:=o.below G;have q:=btr q G;refine Yo 6 rfl (fun _=>X0w (ps:=[(0,.agg #[vi c.n,.slice none 0 0,.slice none 0 0,vi 0,vi 0]),(2,.slice (some ⟨bF,0,none⟩) (c.n.toNat:Nat) (c.n.toNat:Nat))]) (cs:=[vi c.n,.slice none 0 0,.slice none 0 0,vi 0,vi 0,.slice none 0 0,.slice (some ⟨bF,0,none⟩) (c.n.toNat:Nat) (c.n.toNat:Nat)]) rfl (fun _=>by first|rfl|kernel_rfl))<|Y1 7 ?_;refine Yk rfl trivial (X0c (zs:=[vi c.n,.slice none 0 0,.slice none 0 0,vi 0,vi 0,.slice none 0 0,.slice (some ⟨bF,0,none⟩) (c.n.toNat:Nat) (c.n.toNat:Nat)]) rfl rfl) (fun _ _ ⟨_,_,_,h,_⟩=>h) ?_;rintro _ w5 ⟨aK,rfl,cO,G,g⟩;have a8:=Q0 q.size cO
 have i:=i.below G;have o:=o.below G;have b0:=b0.below G;have q:=btr q G;refine Yo 8 rfl (fun _=>X11 rfl) ?_;refine Yd fun a C=>?_;refine eH _ _<|Q5 fun _ cP=>?_;refine Zs C fun _ cQ=>?_;refine Za rfl<|Zt cQ fun a C=>?_;refine Q8<|X01 (σ:=Nat×(List Nd)×(List Int)) (fun (s:Nat×(List Nd)×(List Int)) (a:Act) (w:World)=>match s with|(k,u,v)=>∃ bG bH b1 b2 aN aO,Fr a 79 [(1,.pointer (some ⟨b3,0,none⟩)),(2,.pointer (some ⟨b6,0,none⟩)),(3,.pointer (some ⟨aK,0,none⟩)),(4,vi (k:Int))]∧(k≤c.n.toNat)∧(u=inN k)∧(v=ranI k)∧Blk w b3 30 [vi c.n,.slice Ac c.gs.length cc]∧Blk w b6 39 [vi 0,.slice none 0 0,.slice none 0 0,vi 0,vi 0]∧Blk w aK 171 [vi c.n,.slice bG u.length bH,.slice none 0 0,vi 0,vi 0,.slice b1 v.length b2,.slice aN (c.n.toNat:Nat) aO]∧Own w w0.heap.size 81 2 encNd bG bH u∧Own w w0.heap.size 3 1 encI b1 b2 v∧Own w w0.heap.size 4 1 encB aN aO (List.replicate (c.n.toNat:Nat) false)∧Below w0.heap.size w0 w) (fun (s:Nat×(List Nd)×(List Int))=>match s with|(k,u,v)=>c.n.toNat-k) (0,[],[]) ?_ ?_
 ·exact ⟨none,0,none,0,some ⟨bF,0,none⟩,(c.n.toNat:Nat),C.sb,(Qf _),rfl,rfl,i,o,g,(Own.nil _ _ _ _ _),(Own.nil _ _ _ _ _),(Own.of_flat X0z b0 bR cK cL),q⟩
 rintro ⟨k,u,v⟩ a w6 ⟨bG,bH,b1,b2,aN,aO,C,hk,hu,hv,i,o,g,aD,J,E,q⟩;have cR:=X5r k;have cS:=X55 k
 rw [← hu] at cR
 rw [← hv] at cS
 refine Q5 fun _ cT=>?_;refine Zs C fun _ cU=>?_;refine Zm rfl<|Ze (Vd rfl X1d 0)<|Ze (X0 rfl X9 (i.at 0))<|Ze (X0l rfl rfl)<|Zt cU fun a C=>?_
 refine Xg C rfl (fun N=>?_) (fun N=>?_)
 ·have bS:=N;have N:=Q2 N
  have bJ:k<c.n.toNat:=by have:=N;omega
  refine Q7<|cT _ _<|Q5 fun _ cV=>?_;refine Q8<|Zs C fun _ cW=>?_;refine Zm rfl<|Zm rfl<|Ze (Xz rfl)<|Ze (Vd rfl X0i 0)<|Ze (Vd rfl Xj 1)<|Ze (X0 rfl X00 (g.at 1))<|Zm rfl<|Ze (X0w (ps:=[(0,vi 1),(1,vi (k:Int))]) (cs:=[vi 1,vi (k:Int)]) rfl (fun _=>by first|rfl|kernel_rfl))<|Zf (Xm (k:=1) (vs:=[.agg #[vi 1,vi (k:Int)]]) (zs:=[vi 1,vi (k:Int)]) rfl Xs X1p rfl rfl) ?_;rintro _ w7 ⟨fC,rfl,bN,G,b4⟩;have eI:=Q0 q.size bN;have aP:=aD.away bN;have i:=i.below G;have o:=o.below G;have g:=g.below G;have aD:=aD.below G;have J:=J.below G;have E:=E.below G;have q:=btr q G;refine Zf (X0m (enc:=encNd) (l:=(u)) (l2:=([(⟨1,(k:Int)⟩ : Nd)])) (B0:=w0.heap.size) rfl rfl Xs X1p Xv X2o aD (Rd.of_blk b4 rfl _ b4.lt) (by simp only [maxLen];simp;omega) (by simp;omega) q.size) ?_;rintro _ w8 ⟨bK,bL,rfl,Q,hg,b5⟩
  have D:Own _ w0.heap.size 81 2 encNd _ _ (u):=aD
  have cG:=b5 _ b4.lt aP;clear b5;have i:=i.appT D hg rfl;have o:=o.appT D hg rfl;have g:=g.appT D hg rfl;have J:=J.appT D hg rfl;have E:=E.appT D hg rfl;have q:=Below.app q D hg (Qb _) q.size;clear D hg;refine Ze (Xz rfl)<|Ze (Vd rfl X0i 0)<|Ze (Vd rfl Xj 1)<|Zo (Vu (vs:=[.slice bK (u++([(⟨1,(k:Int)⟩ : Nd)])).length bL]) (l':=[vi c.n,.slice bK (u++([(⟨1,(k:Int)⟩ : Nd)])).length bL,.slice none 0 0,vi 0,vi 0,.slice b1 v.length b2,.slice aN (c.n.toNat:Nat) aO]) rfl rfl X3s g) ?_;rintro _ w9 ⟨M,hb⟩;have p:=g;have i:=i.only M (Blk.ne i p rfl);have o:=o.only M (Blk.ne o p rfl);have J:=J.onlyT M p rfl;have E:=E.onlyT M p rfl;have Q:=Q.onlyT M p rfl;have q:=Below.only q M a8;have g:=hb;refine Zt cW fun a C=>?_;refine Zr C<|Zm rfl<|Zm rfl<|Ze (Xz rfl)<|Ze (Vd rfl X20 5)<|Ze (X0 rfl X28 (g.at 5))<|Zm rfl<|Zf (Xm (k:=1) (vs:=[vi (k:Int)]) (zs:=[vi (k:Int)]) rfl Xl X1q rfl rfl) ?_;rintro _ fD ⟨fE,rfl,bO,G,b7⟩;have eJ:=Q0 q.size bO;have aQ:=J.away bO;have i:=i.below G;have o:=o.below G;have g:=g.below G;have J:=J.below G;have E:=E.below G;have Q:=Q.below G;have q:=btr q G;refine Zf (X0m (enc:=encI) (l:=(v)) (l2:=([(k:Int)])) (B0:=w0.heap.size) rfl rfl Xl X1q Xf X25 J (Rd.of_blk b7 rfl _ b7.lt) (by simp only [maxLen];simp;omega) (by simp;omega) q.size) ?_;rintro _ fF ⟨bT,bU,rfl,b8,hg,b5⟩
  have D:Own _ w0.heap.size 3 1 encI _ _ (v):=J
  have cH:=b5 _ b7.lt aQ;clear b5;have i:=i.appT D hg rfl;have o:=o.appT D hg rfl;have g:=g.appT D hg rfl;have E:=E.appT D hg rfl;have Q:=Q.appT D hg rfl;have q:=Below.app q D hg (Qb _) q.size;clear D hg;refine Ze (Xz rfl)<|Ze (Vd rfl X20 5)<|Zo (Vu (vs:=[.slice bT (v++([(k:Int)])).length bU]) (l':=[vi c.n,.slice bK (u++([(⟨1,(k:Int)⟩ : Nd)])).length bL,.slice none 0 0,vi 0,vi 0,.slice bT (v++([(k:Int)])).length bU,.slice aN (c.n.toNat:Nat) aO]) rfl rfl Xev g) ?_;rintro _ fG ⟨M,hb⟩;have p:=g;have i:=i.only M (Blk.ne i p rfl);have o:=o.only M (Blk.ne o p rfl);have E:=E.onlyT M p rfl;have Q:=Q.onlyT M p rfl;have b8:=b8.onlyT M p rfl;have q:=Below.only q M a8;have g:=hb;refine Zn fun a C=>?_;refine Xa<|cV _ _<|Zr C<|Zm rfl<|Ze (Xw rfl rfl (by omega) (by omega))<|Za rfl ?_;refine Zn fun a C=>?_;refine Xh ?_;exact ⟨(k+1,u++([(⟨1,(k:Int)⟩ : Nd)]),v++([(k:Int)])),⟨bK,bL,bT,bU,aN,aO,C.sb,(by omega),(by rw [Xpb,← hu]),(by rw [Xjz,← hv]),i,o,g,Q,b8,E,q⟩,(by first|omega|(dsimp only;omega))⟩
 have bS:=N;have N:=Q1 N
 have bJ:k=c.n.toNat:=by have:=N;omega
 have cX:v.length=c.n.toNat:=by rw [hv,bJ];exact X55 _
 have cY:(⟨⟨c.n,u,[],0,0⟩,v,List.replicate c.n.toNat false⟩ : Br)=ofB0 c:=by rw [hu,hv,bJ];rfl
 have fH:u.length=c.n.toNat:=by rw [hu,bJ];exact X5r _
 refine Q9<|Xk<|Xk<|X03 ?_;refine cP _ _<|Q5 fun _ d5=>?_;refine Zs C fun _ d6=>?_;refine Ze (Vd rfl X18 1)<|Ze (X0 rfl X29 (i.at 1))<|Ze (X0d rfl X1f)<|Zm rfl<|Zt d6 fun a C=>?_;refine Q8 ?_
 rw [cX] at g
 refine X01 (σ:=Nat×Br×Nat) (fun (s:Nat×Br×Nat) (a:Act) (w:World)=>match s with|(k,x,mz)=>∃ b9 bA bB bC aR aS aT aU,Fr a 79 [(1,.pointer (some ⟨b3,0,none⟩)),(2,.pointer (some ⟨b6,0,none⟩)),(3,.pointer (some ⟨aK,0,none⟩)),(46,.slice Ac c.gs.length cc),(47,vi (c.gs.length:Int)),(48,vi (k:Int))]∧(k≤c.gs.length)∧(x=(c.gs.take k).foldl gtB (ofB0 c))∧(BrOk c.n.toNat x)∧(c.n.toNat=x.la.length)∧(c.n.toNat=x.hd.length)∧(mz=x.d.ns.length)∧(x.d.ns.length≤5+3*k∧x.d.ws.length≤3*k)∧Blk w b3 30 [vi c.n,.slice Ac c.gs.length cc]∧Blk w b6 39 [vi 0,.slice none 0 0,.slice none 0 0,vi 0,vi 0]∧Blk w aK 171 [vi x.d.n,.slice b9 mz bA,.slice bB x.d.ws.length bC,vi x.d.t,vi x.d.r,.slice aR c.n.toNat aS,.slice aT c.n.toNat aU]∧Own w w0.heap.size 81 2 encNd b9 bA x.d.ns∧Rd w w.heap.size 83 encWr bB x.d.ws∧Own w w0.heap.size 3 1 encI aR aS x.la∧Own w w0.heap.size 4 1 encB aT aU x.hd∧x.d.ws.length≤bC∧Below w0.heap.size w0 w) (fun (s:Nat×Br×Nat)=>match s with|(k,x,mz)=>c.gs.length-k) (0,⟨⟨c.n,u,[],0,0⟩,v,List.replicate c.n.toNat false⟩,u.length) ?_ ?_
 ·exact ⟨bG,bH,none,0,b1,b2,aN,aO,C.sb,(Qf _),cY,(cY▸Xb1 ⟨by omega,by omega⟩),cX.symm,cK.symm,rfl,⟨by show u.length≤_;omega,Qb _⟩,i,o,g,aD,(Rd.nil _ _ _ _ _),J,E,(Qf _),q⟩
 rintro ⟨k,x,mz⟩ a fI ⟨b9,bA,bB,bC,aR,aS,aT,aU,C,hk,hx,bD,d7,d8,d9,eK,i,o,g,L,aE,H,I,dB,q⟩;refine Zs C fun _ dC=>?_;refine Ze (X0l rfl rfl)<|ZX dC fun a C _ dD=>?_
 refine Xg C rfl (fun U=>?_) (fun U=>?_)
 ·have bW:=U;have U:=Q2 U
  obtain ⟨fJ,f7⟩:=X5 (l:=c.gs) (k:=k) (by omega)
  obtain ⟨u9,bX⟩:=X5 (l:=c.gs) (k:=k) (by have:=U;omega)
  have dE:gOk (c.n.toNat:Int) u9=true:=Xii hc cJ bX
  have dF:=X2w (f:=gtB) (b:=ofB0 c) bX
  rw [← hx] at dF
  refine Q7<|dD _ _<|Q5 fun _ dG=>?_;refine Q8<|Zs C fun _ dH=>?_;refine Zi (k:=k) (u:=u9) (enc:=encG) (l:=c.gs) trivial rfl rfl X1f X1h X16 (bM.below' q) bX rfl ?_;intro fK bY;refine Ze (X04 (l:=[vi u9.k,vi u9.a,vi u9.b]) rfl X0o bY rfl)<|Zf (Xu (zs:=[vi 0,vi 0,vi 0]) X5w rfl) ?_;rintro _ fL ⟨fM,rfl,bP,G,W⟩;have c4:=Q0 q.size bP;have dI:=(bM.below' q).away bP;have i:=i.below G;have o:=o.below G;have g:=g.below G;have L:=L.below G;have aE:=aE.below G;have H:=H.below G;have I:=I.below G;have q:=btr q G;refine Zo (Vw [vi u9.k,vi u9.a,vi u9.b] X1h W) ?_;rintro _ fN ⟨M,hb⟩;have p:=W;have i:=i.only M (Blk.ne i p rfl);have o:=o.only M (Blk.ne o p rfl);have g:=g.only M (Blk.ne g p rfl);have L:=L.onlyT M p rfl;have aE:=aE.onlyT M p rfl;have H:=H.onlyT M p rfl;have I:=I.onlyT M p rfl;have q:=Below.only q M c4;have W:=hb;refine Zt dH fun a C=>?_;refine Zr C<|Zm rfl<|Ze (Vn X0o W)<|Zf (Vc (Xt9 _ aK w0.heap.size b9 bA aR aS aT aU bB bC mz c.n.toNat x ⟨g,L,H,I,aE.top,dB,d9,d7,d8⟩ q.size u9 bD (by omega) dE) Xlg) ?_;rintro _ fO ⟨eL,eM,eN,eO,eP,aC,c5,bE,dJ,aL,aM,dK,dL,dM,cA,cB⟩;have i:=i.tu aC g rfl (alc (nrow L i rfl) (alc (nrow H i rfl) (alc (nrow I i rfl) al0)));have o:=o.tu aC g rfl (alc (nrow L o rfl) (alc (nrow H o rfl) (alc (nrow I o rfl) al0)));have W:=W.tu aC g rfl (alc (nrow L W rfl) (alc (nrow H W rfl) (alc (nrow I W rfl) al0)))
  have q:=Below.ts q aC (SB.ge a8 (alc (fun _ h9=>X1t L h9) (alc (fun _ h9=>X1t H h9) (alc (fun _ h9=>X1t I h9) al0)))) q.size
  clear c5
  clear aC g;have g:=bE;clear bE
  clear H;have H:=aL;clear aL
  clear I;have I:=aM;clear aM;refine Zn fun a C=>?_;refine Xa<|dG _ _<|Zr C<|Ze (Xw rfl rfl (by omega) (by omega))<|Zm rfl ?_;refine Zn fun a C=>?_;refine Xh ?_;exact ⟨(k+1,(gtB x u9),eP),⟨eL,eM,eN,eO,aR,aS,aT,aU,C.sb,(by omega),(by rw [dF]),(Xjm bD dE),cA,cB,dM,(by have:=Xdo x u9;omega),i,o,g,dJ,dK.top,H,I,dL,q⟩,(by first|omega|(dsimp only;omega))⟩
 have bW:=U;have U:=Q1 U
 have eQ:x=ofB1 c:=by rw [hx,Qi (by have:=U;omega)];rfl
 refine Q9<|Xk<|Xk<|X03 ?_;refine d5 _ _<|Q5 fun _ dN=>?_;refine Zs C fun _ dO=>?_;refine Za rfl<|Zt dO fun a C=>?_;refine Q8<|X01 (σ:=Nat×Br×Nat) (fun (s:Nat×Br×Nat) (a:Act) (w:World)=>match s with|(j,y,my)=>∃ aG aH aI aJ aW aX aY aZ,Fr a 79 [(1,.pointer (some ⟨b3,0,none⟩)),(2,.pointer (some ⟨b6,0,none⟩)),(3,.pointer (some ⟨aK,0,none⟩)),(7,vi (j:Int))]∧(j≤c.n.toNat)∧(y=ofK c j)∧(BrOk c.n.toNat y)∧(c.n.toNat=y.la.length)∧(c.n.toNat=y.hd.length)∧(my=y.d.ns.length)∧(y.d.ns.length≤5+3*400+j∧y.d.ws.length≤3*400+j)∧Blk w b3 30 [vi c.n,.slice Ac c.gs.length cc]∧Blk w b6 39 [vi 0,.slice none 0 0,.slice none 0 0,vi 0,vi 0]∧Blk w aK 171 [vi y.d.n,.slice aG my aH,.slice aI y.d.ws.length aJ,vi y.d.t,vi y.d.r,.slice aW c.n.toNat aX,.slice aY c.n.toNat aZ]∧Own w w0.heap.size 81 2 encNd aG aH y.d.ns∧Rd w w.heap.size 83 encWr aI y.d.ws∧Own w w0.heap.size 3 1 encI aW aX y.la∧Own w w0.heap.size 4 1 encB aY aZ y.hd∧y.d.ws.length≤aJ∧Below w0.heap.size w0 w) (fun (s:Nat×Br×Nat)=>match s with|(j,y,my)=>c.n.toNat-j) (0,x,mz) ?_ ?_
 ·exact ⟨b9,bA,bB,bC,aR,aS,aT,aU,C.sb,(Qf _),eQ,bD,d7,d8,d9,(by omega),i,o,g,L,aE.top,H,I,dB,q⟩
 rintro ⟨j,y,my⟩ a fP ⟨aG,aH,aI,aJ,aW,aX,aY,aZ,C,hj,hy,bD,eR,eS,dP,eK,i,o,g,a6,aF,aA,aB,dQ,q⟩;refine Q5 fun _ dR=>?_;refine Zs C fun _ dS=>?_;refine Zm rfl<|Ze (Vd rfl X1d 0)<|Ze (X0 rfl X9 (i.at 0))<|Ze (X0l rfl rfl)<|Zt dS fun a C=>?_
 refine Xg C rfl (fun a7=>?_) (fun a7=>?_)
 ·have cC:=a7;have a7:=Q2 a7
  have dU:j<c.n.toNat:=by have:=a7;omega
  refine Q7<|dR _ _<|Q5 fun _ dW=>?_;refine Q8<|Zr C<|Zm rfl<|Zm rfl<|Zm rfl<|Zf (Vc (Xpd _ aK w0.heap.size aG aH aW aX aY aZ aI aJ my c.n.toNat y ⟨g,a6,aA,aB,aF.top,dQ,dP,eR,eS⟩ q.size 2 (j:Int) (j:Int) ⟨by omega,by omega⟩ (by omega)) Xe8) ?_;rintro _ fQ ⟨eT,eU,eX,eY,f0,aC,cD,bE,dX,aL,aM,dY,e8,eA,cE,cF⟩;have i:=i.tu aC g rfl (alc (nrow a6 i rfl) (alc (nrow aA i rfl) (alc (nrow aB i rfl) al0)));have o:=o.tu aC g rfl (alc (nrow a6 o rfl) (alc (nrow aA o rfl) (alc (nrow aB o rfl) al0)))
  have q:=Below.ts q aC (SB.ge a8 (alc (fun _ h9=>X1t a6 h9) (alc (fun _ h9=>X1t aA h9) (alc (fun _ h9=>X1t aB h9) al0)))) q.size
  clear cD
  clear aC g;have g:=bE;clear bE
  clear aA;have aA:=aL;clear aL
  clear aB;have aB:=aM;clear aM;refine Zn fun a C=>?_;refine Xa<|dW _ _<|Zr C<|Zm rfl<|Ze (Xw rfl rfl (by omega) (by omega))<|Za rfl ?_;refine Zn fun a C=>?_;refine Xh ?_;exact ⟨(j+1,(nodB y 2 (j:Int) (j:Int)),f0),⟨eT,eU,eX,eY,aW,aX,aY,aZ,C.sb,(by omega),(by rw [Xjj,← hy]),(Xa9 bD ⟨by omega,by omega⟩),cE,cF,eA,(by have:=X6t y 2 (j:Int) (j:Int);omega),i,o,g,dX,dY.top,aA,aB,e8,q⟩,(by first|omega|(dsimp only;omega))⟩
 have cC:=a7;have a7:=Q1 a7
 have dU:j=c.n.toNat:=by have:=a7;omega
 have eB:outD y.d=ofD c:=by rw [hy,dU];rfl
 refine Q9<|Xk<|Xk<|X03 ?_;refine dN _ _<|Zs C fun _ eC=>?_;refine Zm rfl<|Ze (Xz rfl)<|Ze (Vd rfl X0i 0)<|Ze (Vd rfl X0t 3)<|Ze (X0 rfl X9 (g.at 3))<|Ze (X4v rfl rfl rfl)<|Ze (Xz rfl)<|Ze (Vd rfl X0i 0)<|Ze (Vd rfl X0t 3)<|Zo (Vu (vs:=[vi (y.d.t.tmod 8)]) (l':=[vi y.d.n,.slice aG my aH,.slice aI y.d.ws.length aJ,vi (y.d.t.tmod 8),vi y.d.r,.slice aW c.n.toNat aX,.slice aY c.n.toNat aZ]) rfl rfl X08 g) ?_;rintro _ fR ⟨M,hb⟩;have p:=g;have o:=o.only M (Blk.ne o p rfl);have a6:=a6.onlyT M p rfl;have aF:=aF.onlyT M p rfl;have q:=Below.only q M a8;have g:=hb;refine Zx eC fun a C _ eD=>?_;refine Zm rfl<|Ze (Xz rfl)<|Ze (Vd rfl X0i 0)<|Ze (X04 (l:=[vi y.d.n,.slice aG my aH,.slice aI y.d.ws.length aJ,vi (y.d.t.tmod 8),vi y.d.r]) rfl X2 ((g.at 0).take 5) rfl)<|Zo (Vw [vi y.d.n,.slice aG my aH,.slice aI y.d.ws.length aJ,vi (y.d.t.tmod 8),vi y.d.r] Xp o) ?_;rintro _ fS ⟨M,hb⟩;have p:=o;have a6:=a6.onlyT M p rfl;have aF:=aF.onlyT M p rfl;have q:=Below.only q M cM;have o:=hb;refine Zt eD fun a C=>?_
 refine Q6 (X4 C (Xt C rfl (ResV.cellN (l:=[vi y.d.n,.slice aG my aH,.slice aI y.d.ws.length aJ,vi (y.d.t.tmod 8),vi y.d.r]) rfl X2 (o.at 0) rfl)) ?_)
 rw [← eB]
 subst dP
 exact ⟨aG,aH,aI,aJ,rfl,a6.rd.top,aF.top,dQ,q⟩
theorem Xll{N M:Nat}{ws:List Wr}(h:RgW N ws)(hN:N≤M) : RgW M ws:=fun x hx=>by have:=h x hx;omega
def BrG(x:Br) : Prop:=RgW x.d.ns.length x.d.ws
theorem Xhl{n:Nat}{x:Br}(h:BrOk n x)(hg:BrG x){k p q:Int}(hq:0≤q∧q.toNat<n) : BrG (nodB x k p q):=by
 have h1:=h.at hq;have hl:=(X6t x k p q).1
 unfold BrG
 rw [hl]
 exact X95 (Xll hg (by omega)) (by omega) (by omega)
theorem Xio{n:Nat}{x:Br}(h:BrOk n x)(hg:BrG x){q:Int}(hq:0≤q∧q.toNat<n) : BrG (plcB x q):=by
 unfold plcB
 split
 ·exact Xhl h hg hq
 ·exact hg
theorem Xct{n:Nat}{x:Br}(h:BrOk n x)(hg:BrG x){q:Int}(hq:0≤q∧q.toNat<n)(m:Int) : BrG (trnB x q m):=by
 have h1:=Xio h hg hq
 show RgW (adN _ _ _).length (plcB x q).d.ws
 rw [X21]
 exact h1
theorem Xs2{n:Nat}{x:Br}(h:BrOk n x)(hg:BrG x){p q:Int}(hp:0≤p∧p.toNat<n)(hq:0≤q∧q.toNat<n) : BrG (czB x p q):=by
 have k1:=X3c h p
 have k2:=X3c k1 q
 have h1:=Xio k1 (Xio h hg hp) hq
 have a1:=k1.at hp
 have a2:=k2.at hq
 have l2:=X37 (plcB x p) q
 unfold czB
 dsimp only
 split
 ·exact Xfa h1 _
 ·exact X95 (N:=(plcB (plcB x p) q).d.ns.length) h1 ⟨a1.1,by omega⟩ ⟨a2.1,by omega⟩
theorem Xxs{n:Nat}{x:Br}(h:BrOk n x)(hx:BrG x){g:Gt}(hg:gOk (n:Int) g=true) : BrG (gtB x g):=by
 have ha:=Xcf hg;have hb:=Xbn hg
 unfold gtB
 split
 ·exact hx
 split
 ·exact Xct (X24 h _) hx ha _
 split
 ·exact Xct (X24 (X4w h _ _) _) (Xct h hx ha _) ha _
 split
 ·exact Xs2 (X24 h _) hx ha hb
 split
 ·exact Xs2 h hx ha hb
 split
 ·exact hx
 split
 ·exact hx
 ·exact Xct h hx ha _
theorem Xhx{n:Nat} : ∀ (l:List Gt) (x:Br),BrOk n x→BrG x→(∀ g ∈ l,gOk (n:Int) g=true)→BrOk n (l.foldl gtB x)∧BrG (l.foldl gtB x)∧(l.foldl gtB x).d.ns.length≤x.d.ns.length+3*l.length∧(l.foldl gtB x).d.ws.length≤x.d.ws.length+3*l.length
 | [],x,h,hg,_=>⟨h,hg,by simp,by simp⟩
 | g::l,x,h,hg,hl=>by
  have h0:=hl g (by simp)
  have h1:=Xhx l (gtB x g) (Xjm h h0) (Xxs h hg h0) fun z hz=>hl z (by simp [hz])
  have h2:=Xdo x g
  rw [List.foldl_cons,Qs]
  exact ⟨h1.1,h1.2.1,by omega,by omega⟩
theorem Xo8{c:Cx}(hc:cOk c=true) : ∀ j,j≤c.n.toNat→BrOk c.n.toNat (ofK c j)∧BrG (ofK c j)∧(ofK c j).d.ns.length≤c.n.toNat+3*c.gs.length+j∧(ofK c j).d.ws.length≤3*c.gs.length+j
 | 0,_=>by
  obtain ⟨n9,hn9,hn1,hn5⟩:=Xcc hc
  have hcn:c.n=((c.n.toNat:Nat) : Int):=by omega
  have h:=Xhx c.gs (ofB0 c) (Xb1 ⟨by omega,by omega⟩) (fun x hx=>by cases hx) (fun g hg=>by
   obtain ⟨i,hi⟩:=List.mem_iff_getElem?.1 hg
   exact Xii hc hcn hi)
  have e1:(ofB0 c).d.ns.length=c.n.toNat:=X5r _
  have e2:(ofB0 c).d.ws.length=0:=rfl
  refine ⟨h.1,h.2.1,?_,?_⟩
  ·show (ofB1 c).d.ns.length≤_
   have:=h.2.2.1
   unfold ofB1
   omega
  ·show (ofB1 c).d.ws.length≤_
   have:=h.2.2.2
   unfold ofB1
   omega
 | j+1,hj=>by
  obtain ⟨n9,hn9,hn1,hn5⟩:=Xcc hc
  obtain ⟨h1,h2,h3,h4⟩:=Xo8 hc j (by omega)
  have h5:=X6t (ofK c j) 2 (j:Int) (j:Int)
  rw [Xjj]
  exact ⟨Xa9 h1 ⟨by omega,by omega⟩,Xhl h1 h2 ⟨by omega,by omega⟩,by omega,by omega⟩
theorem Xo0{c:Cx}(hc:cOk c=true) : RgW (ofD c).ns.length (ofD c).ws∧(ofD c).ns.length≤2000∧(ofD c).ws.length≤2000:=by
 obtain ⟨n9,hn9,hn1,hn5⟩:=Xcc hc;have hl:=Xap hc;obtain ⟨_,h2,h3,h4⟩:=Xo8 hc c.n.toNat (Qb _)
 refine ⟨h2,?_,?_⟩
 ·show (ofK c c.n.toNat).d.ns.length≤_;omega
 ·show (ofK c c.n.toNat).d.ws.length≤_;omega
theorem Xsy{c:Cx}(hc:cOk c=true) : ∀ x ∈ (ofD c).ws,-1000000≤x.b∧x.b≤1000000:=fun x hx=>by
 have h:=Xo0 hc
 have:=h.1 x hx
 omega
def dgC(c:Cx) : Bool:=cOk c&&goodD (ofD c)
theorem Xoq{c:Cx}(h:cOk c=false) : dgC c=false:=by unfold dgC;rw [h];rfl
theorem Xso{c:Cx}(h:goodD (ofD c)=false) : dgC c=false:=by unfold dgC;rw [h,Bool.and_false]
theorem Xy6{c:Cx}(h:cOk c=true)(h2:goodD (ofD c)=true) : dgC c=true:=by unfold dgC;rw [h,h2];rfl
theorem X3v{c:Cx}(h:dgC c=true) : goodD (ofD c)=true:=by unfold dgC at h;simp only [Qd] at h;exact h.2
def oddP(d:Dg)(s k:Int) : Int:=s+(d.ns.getD k.toNat nZ).p % 2
def oddD(d:Dg) : Int:=(spL d.ns).foldl (oddP d) 0
def alR5:List Int:=[1,2,3,4,5]
def vfC(a b:Cx) : Option Cx:=(invO b).bind (conO a)
def vfO(a b:Cx) : Bool:=(vfC a b).isSome&&dgC ((vfC a b).getD cZ)
def vfV(a b:Cx) : Bool:=vfO a b&&plD (siD (ofD ((vfC a b).getD cZ)) alR5)
theorem Xud{a b:Cx}(h:(!((invO b).isSome)||!((conO a ((invO b).getD cZ)).isSome)||!(dgC ((conO a ((invO b).getD cZ)).getD cZ)))=true) : vfO a b=false:=by
 unfold vfO vfC
 cases hb:invO b with
 | none=>rfl
 | some x=>
  rw [hb] at h
  simp only [Option.isSome_some,Bool.not_true,Bool.false_or,Qq,Qz] at h ⊢
  cases hc:conO a x with
  | none=>rfl
  | some y=>
   rw [hc] at h
   simpa using h
theorem Xqj{a b:Cx}(h:(!((invO b).isSome)||!((conO a ((invO b).getD cZ)).isSome)||!(dgC ((conO a ((invO b).getD cZ)).getD cZ)))=false) : vfO a b=true∧vfC a b=conO a ((invO b).getD cZ)∧dgC ((conO a ((invO b).getD cZ)).getD cZ)=true:=by
 unfold vfO vfC
 cases hb:invO b with
 | none=>rw [hb] at h;simp at h
 | some x=>
  rw [hb] at h
  simp only [Option.isSome_some,Bool.not_true,Bool.false_or,Qq,Qz] at h ⊢
  cases hc:conO a x with
  | none=>rw [hc] at h;simp at h
  | some y=>
   rw [hc] at h
   simp only [Option.isSome_some,Bool.not_true,Bool.false_or,Qq,Bool.not_eq_false',Qw] at h ⊢
   exact ⟨h,trivial,h⟩
theorem Xu5(w0:World)(c:Cx)(Ac:Option Addr)(cc:Nat)(E:Rd w0 w0.heap.size 123 encG Ac c.gs) : Ret Tryz.prog 36 [.agg #[vi c.n,.slice Ac c.gs.length cc]] w0 (fun v w=>∃ A c1 B e,v=.tuple #[.agg #[vi (if (dgC c)=true then ofD c else zD).n,.slice A (if (dgC c)=true then ofD c else zD).ns.length c1,.slice B (if (dgC c)=true then ofD c else zD).ws.length e,vi (if (dgC c)=true then ofD c else zD).t,vi (if (dgC c)=true then ofD c else zD).r],.bool (dgC c)]∧Rd w w.heap.size 81 encNd A (if (dgC c)=true then ofD c else zD).ns∧Rd w w.heap.size 83 encWr B (if (dgC c)=true then ofD c else zD).ws∧(if (dgC c)=true then ofD c else zD).ws.length≤e∧Below w0.heap.size w0 w):=by
 refine enter Tryz.func36 rfl 16 rfl rfl ?_;intro a k
 have g:=bz w0
 refine Zs k fun _ aJ=>?_;refine Zf (X0c (zs:=[vi c.n,.slice Ac c.gs.length cc]) rfl rfl) ?_;rintro _ w1 ⟨b3,rfl,aK,m,q⟩;have aP:=Q0 g.size aK;have g:=btr g m;refine Zf (Xu (zs:=[vi 0,.slice none 0 0,.slice none 0 0,vi 0,vi 0]) X0s rfl) ?_;rintro _ w2 ⟨b6,rfl,aL,m,b⟩;have x:=Q0 g.size aL;have q:=q.below m;have g:=btr g m;refine Za rfl<|ZX aJ fun a k _ aM=>?_;refine Zs k fun _ aN=>?_;refine Ze (Vn X12 q)<|Zf (Vc (F53 _ c Ac cc (E.below' g).top) Xfd) ?_;rintro _ w3 ⟨rfl,m⟩;have q:=q.below m;have b:=b.below m;have g:=btr g m;refine Ze (X0y rfl)<|Zt aN fun a k=>?_
 refine Xg k rfl (fun o=>?_) (fun o=>?_)
 ·have aA:=o
  have a6:dgC c=false:=Xoq (by have h8:=o;simpa using h8)
  refine Zs k fun _ aB=>?_;refine Ze (X0w (ps:=[]) (cs:=[vi 0,.slice none 0 0,.slice none 0 0,vi 0,vi 0]) rfl (fun _=>by first|rfl|kernel_rfl))<|Zo (Vw [vi 0,.slice none 0 0,.slice none 0 0,vi 0,vi 0] Xp b) ?_;rintro _ w4 ⟨u,hb⟩;have i:=b;have g:=Below.only g u x;have b:=hb;refine Za rfl<|Zt aB fun a k=>?_;refine Q6<|X6<|X4 k (X17 k rfl (ResV.cellN (l:=[vi 0,.slice none 0 0,.slice none 0 0,vi 0,vi 0]) rfl X2 (b.at 0) rfl) rfl) ?_
  rw [a6,Q3 Bool.false_ne_true]
  exact ⟨none,0,none,0,rfl,(Rd.nil _ _ _ _ _),(Rd.nil _ _ _ _ _),(Qf _),g⟩
 have aA:=o
 have o:cOk c=true:=by have h8:=o;simpa using h8
 refine Q7<|aM _ _<|Zs k fun _ aC=>?_;refine Ze (Vn X12 q)<|Zf (Vc (Xv3 _ c Ac cc (E.below' g).top o) Xlr) ?_;rintro _ w5 ⟨y,h,C,D,rfl,d,f,G,m⟩;have b:=b.below m;have g:=btr g m;refine Zf (Xu (zs:=[vi 0,.slice none 0 0,.slice none 0 0,vi 0,vi 0]) X0s rfl) ?_;rintro _ w6 ⟨b18,rfl,aD,m,j⟩
 have aE:b6≠b18:=by have:=b.lt;omega
 have a7:=Q0 g.size aD;have b:=b.below m;have d:=d.below m;have f:=f.below m;have g:=btr g m;refine Zo (Vw [vi ((ofD c).n),.slice y ((ofD c).ns).length h,.slice C ((ofD c).ws).length D,vi ((ofD c).t),vi ((ofD c).r)] Xp j) ?_;rintro _ w7 ⟨u,hb⟩;have i:=j;have b:=b.only u (by omega);have d:=d.onlyT u i rfl;have f:=f.onlyT u i rfl;have g:=Below.only g u a7;have j:=hb;refine ZX aC fun a k _ aF=>?_;refine Zs k fun _ aG=>?_;refine Ze (Vn X2 j)<|Zf (Vc (Xos _ (ofD c) (((ofD c).ns).length) rfl y h d.top C D f.top G (by have:=Xo0 o;omega) (Xsy o)) Xe2) ?_;rintro _ w8 ⟨rfl,m⟩;have b:=b.below m;have j:=j.below m;have d:=d.below m;have f:=f.below m;have g:=btr g m;refine Ze (X0y rfl)<|Zt aG fun a k=>?_
 refine Xg k rfl (fun p=>?_) (fun p=>?_)
 ·have a8:=p
  have a6:dgC c=false:=Xso (by have h8:=p;simpa using h8)
  refine Zs k fun _ aH=>?_;refine Ze (X0w (ps:=[]) (cs:=[vi 0,.slice none 0 0,.slice none 0 0,vi 0,vi 0]) rfl (fun _=>by first|rfl|kernel_rfl))<|Zo (Vw [vi 0,.slice none 0 0,.slice none 0 0,vi 0,vi 0] Xp b) ?_;rintro _ w9 ⟨u,hb⟩;have i:=b;have g:=Below.only g u x;have b:=hb;refine Za rfl<|Zt aH fun a k=>?_;refine Q6<|X6<|X4 k (X17 k rfl (ResV.cellN (l:=[vi 0,.slice none 0 0,.slice none 0 0,vi 0,vi 0]) rfl X2 (b.at 0) rfl) rfl) ?_
  rw [a6,Q3 Bool.false_ne_true]
  exact ⟨none,0,none,0,rfl,(Rd.nil _ _ _ _ _),(Rd.nil _ _ _ _ _),(Qf _),g⟩
 have a8:=p
 have aO:dgC c=true:=Xy6 o (by have h8:=p;simpa using h8)
 refine Q7<|aF _ _<|Zs k fun _ aI=>?_;refine Ze (Vn X2 j)<|Zo (Vw [vi ((ofD c).n),.slice y ((ofD c).ns).length h,.slice C ((ofD c).ws).length D,vi ((ofD c).t),vi ((ofD c).r)] Xp b) ?_;rintro _ aQ ⟨u,hb⟩;have i:=b;have d:=d.onlyT u i rfl;have f:=f.onlyT u i rfl;have g:=Below.only g u x;have b:=hb;refine Za rfl<|Zt aI fun a k=>?_
 refine Q6 (X4 k (X17 k rfl (ResV.cellN (l:=[vi ((ofD c).n),.slice y ((ofD c).ns).length h,.slice C ((ofD c).ws).length D,vi ((ofD c).t),vi ((ofD c).r)]) rfl X2 (b.at 0) rfl) rfl) ?_)
 rw [aO,Q4 rfl]
 exact ⟨y,h,C,D,rfl,d.top,f.top,G,g⟩
theorem Xvv(w0:World)(p:Cx)(Ap:Option Addr)(cp:Nat)(bL:Rd w0 w0.heap.size 123 encG Ap p.gs)(q:Cx)(Aq:Option Addr)(cq:Nat)(bM:Rd w0 w0.heap.size 123 encG Aq q.gs)(cK:p.gs.length≤2000000)(cL:q.gs.length≤2000000) : Ret Tryz.prog 25 [.agg #[vi p.n,.slice Ap p.gs.length cp],.agg #[vi q.n,.slice Aq q.gs.length cq]] w0 (fun v w=>v=.tuple #[.bool (vfV p q),.bool (vfO p q)]∧Below w0.heap.size w0 w):=by
 refine enter Tryz.func25 rfl 48 rfl rfl ?_;intro a l
 have c:=bz w0
 refine Zs l fun _ cM=>?_;refine Zf (X0c (zs:=[vi p.n,.slice Ap p.gs.length cp]) rfl rfl) ?_;rintro _ w1 ⟨b4,rfl,cN,b,m⟩;have cT:=Q0 c.size cN;have c:=btr c b;refine Zf (X0c (zs:=[vi q.n,.slice Aq q.gs.length cq]) rfl rfl) ?_;rintro _ w2 ⟨b5,rfl,cO,b,aS⟩
 have cG:b4≠b5:=by have:=m.lt;omega
 have cU:=Q0 c.size cO;have m:=m.below b;have c:=btr c b;refine Za rfl<|Za rfl<|Zx cM fun a l _ cP=>?_;refine Ze (Vn X12 aS)<|Zf (Vc (Xsu _ q Aq cq (bM.below' c).top cL) Xnq) ?_;rintro _ w3 ⟨A7,c7,rfl,H,b⟩;have H:=H.lower c.size;have m:=m.below b;have aS:=aS.below b;have c:=btr c b;refine Zm rfl<|Ze (Xn (vs:=[.agg #[vi (((invO q).getD cZ).n),.slice A7 (((invO q).getD cZ).gs).length c7],.bool ((invO q).isSome)]) rfl rfl)<|Ze (Xn (vs:=[.agg #[vi (((invO q).getD cZ).n),.slice A7 (((invO q).getD cZ).gs).length c7],.bool ((invO q).isSome)]) rfl rfl)<|Zf (Xu (zs:=[vi 0,.slice none 0 0]) X4e rfl) ?_;rintro _ w4 ⟨b9,rfl,cQ,b,I⟩
 have cH:b4≠b9:=by have:=m.lt;omega
 have cJ:b5≠b9:=by have:=aS.lt;omega
 have bN:=Q0 c.size cQ;have m:=m.below b;have H:=H.below b;have c:=btr c b;refine Zo (Vw [vi (((invO q).getD cZ).n),.slice A7 (((invO q).getD cZ).gs).length c7] X1w I) ?_;rintro _ w5 ⟨A,hb⟩;have f:=I;have m:=m.only A (by omega);have H:=H.onlyT A f rfl;have c:=Below.only c A bN;have I:=hb;refine Za rfl<|Zx cP fun a l _ bO=>?_;refine Ze (Vn X12 m)<|Ze (Vn X12 I)<|Zf (Vc (Xwn _ p Ap cp (bL.below' c).top ((invO q).getD cZ) A7 c7 H.rd.top cK (Xew q)) Xlu) ?_;rintro _ w6 ⟨aT,aU,rfl,x,b⟩;have x:=x.lower c.size;have m:=m.below b;have I:=I.below b;have c:=btr c b;refine Zm rfl<|Ze (Xn (vs:=[.agg #[vi (((conO p ((invO q).getD cZ)).getD cZ).n),.slice aT (((conO p ((invO q).getD cZ)).getD cZ).gs).length aU],.bool ((conO p ((invO q).getD cZ)).isSome)]) rfl rfl)<|Ze (Xn (vs:=[.agg #[vi (((conO p ((invO q).getD cZ)).getD cZ).n),.slice aT (((conO p ((invO q).getD cZ)).getD cZ).gs).length aU],.bool ((conO p ((invO q).getD cZ)).isSome)]) rfl rfl)<|Zf (Xu (zs:=[vi 0,.slice none 0 0]) X4e rfl) ?_;rintro _ w7 ⟨b13,rfl,bP,b,J⟩
 have bR:b4≠b13:=by have:=m.lt;omega
 have bS:b9≠b13:=by have:=I.lt;omega
 have b0:=Q0 c.size bP;have x:=x.below b;have c:=btr c b;refine Zo (Vw [vi (((conO p ((invO q).getD cZ)).getD cZ).n),.slice aT (((conO p ((invO q).getD cZ)).getD cZ).gs).length aU] X1w J) ?_;rintro _ w8 ⟨A,hb⟩;have f:=J;have x:=x.onlyT A f rfl;have c:=Below.only c A b0;have J:=hb;refine Za rfl<|Zx bO fun a l _ bT=>?_;refine Ze (Vn X12 J)<|Zf (Vc (Xu5 _ ((conO p ((invO q).getD cZ)).getD cZ) aT aU x.rd.top) Xkw) ?_;rintro _ w9 ⟨a6,a7,a8,aA,rfl,d,e,aB,b⟩;have c:=btr c b;refine Zm rfl<|Ze (Xn (vs:=[.agg #[vi ((if (dgC ((conO p ((invO q).getD cZ)).getD cZ))=true then ofD ((conO p ((invO q).getD cZ)).getD cZ) else zD).n),.slice a6 ((if (dgC ((conO p ((invO q).getD cZ)).getD cZ))=true then ofD ((conO p ((invO q).getD cZ)).getD cZ) else zD).ns).length a7,.slice a8 ((if (dgC ((conO p ((invO q).getD cZ)).getD cZ))=true then ofD ((conO p ((invO q).getD cZ)).getD cZ) else zD).ws).length aA,vi ((if (dgC ((conO p ((invO q).getD cZ)).getD cZ))=true then ofD ((conO p ((invO q).getD cZ)).getD cZ) else zD).t),vi ((if (dgC ((conO p ((invO q).getD cZ)).getD cZ))=true then ofD ((conO p ((invO q).getD cZ)).getD cZ) else zD).r)],.bool (dgC ((conO p ((invO q).getD cZ)).getD cZ))]) rfl rfl)<|Ze (Xn (vs:=[.agg #[vi ((if (dgC ((conO p ((invO q).getD cZ)).getD cZ))=true then ofD ((conO p ((invO q).getD cZ)).getD cZ) else zD).n),.slice a6 ((if (dgC ((conO p ((invO q).getD cZ)).getD cZ))=true then ofD ((conO p ((invO q).getD cZ)).getD cZ) else zD).ns).length a7,.slice a8 ((if (dgC ((conO p ((invO q).getD cZ)).getD cZ))=true then ofD ((conO p ((invO q).getD cZ)).getD cZ) else zD).ws).length aA,vi ((if (dgC ((conO p ((invO q).getD cZ)).getD cZ))=true then ofD ((conO p ((invO q).getD cZ)).getD cZ) else zD).t),vi ((if (dgC ((conO p ((invO q).getD cZ)).getD cZ))=true then ofD ((conO p ((invO q).getD cZ)).getD cZ) else zD).r)],.bool (dgC ((conO p ((invO q).getD cZ)).getD cZ))]) rfl rfl)<|Zf (Xu (zs:=[vi 0,.slice none 0 0,.slice none 0 0,vi 0,vi 0]) X0s rfl) ?_;rintro _ cV ⟨aW,rfl,bU,b,g⟩
 have b1:=Q0 c.size bU;have d:=d.below b;have e:=e.below b;have c:=btr c b;refine Zo (Vw [vi ((if (dgC ((conO p ((invO q).getD cZ)).getD cZ))=true then ofD ((conO p ((invO q).getD cZ)).getD cZ) else zD).n),.slice a6 ((if (dgC ((conO p ((invO q).getD cZ)).getD cZ))=true then ofD ((conO p ((invO q).getD cZ)).getD cZ) else zD).ns).length a7,.slice a8 ((if (dgC ((conO p ((invO q).getD cZ)).getD cZ))=true then ofD ((conO p ((invO q).getD cZ)).getD cZ) else zD).ws).length aA,vi ((if (dgC ((conO p ((invO q).getD cZ)).getD cZ))=true then ofD ((conO p ((invO q).getD cZ)).getD cZ) else zD).t),vi ((if (dgC ((conO p ((invO q).getD cZ)).getD cZ))=true then ofD ((conO p ((invO q).getD cZ)).getD cZ) else zD).r)] Xp g) ?_;rintro _ cR ⟨A,hb⟩;have f:=g;have d:=d.onlyT A f rfl;have e:=e.onlyT A f rfl;have c:=Below.only c A b1;have g:=hb;refine Za rfl<|ZX bT fun a l _ bW=>?_;refine Q5 fun _ bX=>?_;refine X0a (fun a w=>Fr a 48 [(10,.pointer (some ⟨aW,0,none⟩)),(39,.bool (((!((invO q).isSome))||(!((conO p ((invO q).getD cZ)).isSome)))||(!(dgC ((conO p ((invO q).getD cZ)).getD cZ)))))]∧cR=w) ?_ ?_
 ·refine Zr l<|Zm rfl<|Ze (X0y rfl)<|Zm rfl ?_
  refine Zg 32 rfl (fun i=>?_) (fun i=>?_)
  ·refine Zp (gP i) ?_;refine Zp (gP i) ?_;refine Ze (X7 rfl i rfl)<|Zm rfl<|Zp (gP rfl) ?_;refine Zp (gP rfl) ?_;refine Ze (X7 rfl rfl rfl) ?_;refine Zn fun a l=>?_;exact ⟨l.sub ⟨rfl,X1 rfl (by first|rfl|(simp only [i,bs];done)|simp [i]),trivial⟩,rfl⟩
  refine Zv (gW i) (X3 rfl) ?_;refine Zv (gW i) (X0y rfl) ?_;refine Ze (Xe rfl i rfl)<|Zm rfl ?_
  refine Zg 36 rfl (fun k=>?_) (fun k=>?_)
  ·refine Zp (gP k) ?_;refine Zp (gP k) ?_;refine Ze (X7 rfl k rfl) ?_;refine Zn fun a l=>?_;exact ⟨l.sub ⟨rfl,X1 rfl (by first|rfl|(simp only [i,k,bs];done)|simp [i,k]),trivial⟩,rfl⟩
  refine Zv (gW k) (X3 rfl) ?_;refine Zv (gW k) (X0y rfl) ?_;refine Ze (Xe rfl k rfl) ?_;refine Zn fun a l=>?_;exact ⟨l.sub ⟨rfl,X1 rfl (by first|rfl|(simp only [i,k,bs];done)|simp [i,k]),trivial⟩,rfl⟩
 rintro a _ ⟨l,rfl⟩;refine bX _ _ ?_
 refine Xg l rfl (fun G=>?_) (fun G=>?_)
 ·have b2:=G
  have cS:vfO p q=false:=Xud G
  refine Zs l fun _ bY=>?_;refine Za rfl<|Za rfl<|Zt bY fun a l=>?_;refine Q6<|X6<|X4 l (X17 l rfl rfl rfl) ?_;exact ⟨by unfold vfV;rw [cS];rfl,c⟩
 have b2:=G;have o:=Xqj G
 have E:(if dgC ((conO p ((invO q).getD cZ)).getD cZ)=true then ofD ((conO p ((invO q).getD cZ)).getD cZ) else zD)=ofD ((conO p ((invO q).getD cZ)).getD cZ):=Q4 o.2.2
 refine Q7<|bW _ _<|Q5 fun _ aC=>?_;refine X05 none (fun j=>[7].contains j) mixed ?_;intro cW b;have g:=g.below b;have d:=d.below b;have e:=e.below b;have c:=btr c b;refine Yb l<|Ye 0 rfl (Vn X2 g) ?_;refine Y2 1 6 ?_ ?_
 ·refine Yk rfl trivial (Vc (Xoz _) Xfw) (fun _ _ ⟨b3,b6,_,y,b⟩=>b) ?_;rintro _ cX ⟨b3,b6,rfl,y,b⟩;have y:=y.lower c.size;have g:=g.below b;have d:=d.below b;have e:=e.below b;have c:=btr c b;refine Y2 2 6 ?_ ?_
  ·refine Yk rfl trivial (Vc (Xi4 _ (if (dgC ((conO p ((invO q).getD cZ)).getD cZ))=true then ofD ((conO p ((invO q).getD cZ)).getD cZ) else zD) (((if (dgC ((conO p ((invO q).getD cZ)).getD cZ))=true then ofD ((conO p ((invO q).getD cZ)).getD cZ) else zD).ns).length) rfl a6 a7 d.top a8 aA e.top aB b3 b6 ([(1:Int),2,3,4,5]) y.rd.top (by rw [E];exact X1e (X3v o.2.2)) (by simp)) Xar) (fun _ _ ⟨aD,aE,aF,aG,b7,b8,_,B,C,aX,aH,b⟩=>b) ?_;rintro _ cY ⟨aD,aE,aF,aG,b7,b8,rfl,B,C,aX,aH,b⟩;have aH:=aH.lower c.size;have g:=g.below b;have c:=btr c b;refine Yo 3 rfl (fun _=>X3 rfl)<|Yo 4 rfl (fun _=>Xn (vs:=[.agg #[vi ((siD (if (dgC ((conO p ((invO q).getD cZ)).getD cZ))=true then ofD ((conO p ((invO q).getD cZ)).getD cZ) else zD) ([(1:Int),2,3,4,5])).n),.slice aD ((siD (if (dgC ((conO p ((invO q).getD cZ)).getD cZ))=true then ofD ((conO p ((invO q).getD cZ)).getD cZ) else zD) ([(1:Int),2,3,4,5])).ns).length aE,.slice aF ((siD (if (dgC ((conO p ((invO q).getD cZ)).getD cZ))=true then ofD ((conO p ((invO q).getD cZ)).getD cZ) else zD) ([(1:Int),2,3,4,5])).ws).length aG,vi ((siD (if (dgC ((conO p ((invO q).getD cZ)).getD cZ))=true then ofD ((conO p ((invO q).getD cZ)).getD cZ) else zD) ([(1:Int),2,3,4,5])).t),vi ((siD (if (dgC ((conO p ((invO q).getD cZ)).getD cZ))=true then ofD ((conO p ((invO q).getD cZ)).getD cZ) else zD) ([(1:Int),2,3,4,5])).r)],.slice b7 (siL (if (dgC ((conO p ((invO q).getD cZ)).getD cZ))=true then ofD ((conO p ((invO q).getD cZ)).getD cZ) else zD) ([(1:Int),2,3,4,5])).length b8]) rfl rfl)<|Yo 5 rfl (fun _=>Xn (vs:=[.agg #[vi ((siD (if (dgC ((conO p ((invO q).getD cZ)).getD cZ))=true then ofD ((conO p ((invO q).getD cZ)).getD cZ) else zD) ([(1:Int),2,3,4,5])).n),.slice aD ((siD (if (dgC ((conO p ((invO q).getD cZ)).getD cZ))=true then ofD ((conO p ((invO q).getD cZ)).getD cZ) else zD) ([(1:Int),2,3,4,5])).ns).length aE,.slice aF ((siD (if (dgC ((conO p ((invO q).getD cZ)).getD cZ))=true then ofD ((conO p ((invO q).getD cZ)).getD cZ) else zD) ([(1:Int),2,3,4,5])).ws).length aG,vi ((siD (if (dgC ((conO p ((invO q).getD cZ)).getD cZ))=true then ofD ((conO p ((invO q).getD cZ)).getD cZ) else zD) ([(1:Int),2,3,4,5])).t),vi ((siD (if (dgC ((conO p ((invO q).getD cZ)).getD cZ))=true then ofD ((conO p ((invO q).getD cZ)).getD cZ) else zD) ([(1:Int),2,3,4,5])).r)],.slice b7 (siL (if (dgC ((conO p ((invO q).getD cZ)).getD cZ))=true then ofD ((conO p ((invO q).getD cZ)).getD cZ) else zD) ([(1:Int),2,3,4,5])).length b8]) rfl rfl)<|Y1 6 ?_
   refine Yk rfl trivial (Xu (zs:=[vi 0,.slice none 0 0,.slice none 0 0,vi 0,vi 0]) X0s rfl) (fun _ _ ⟨_,_,_,h,_⟩=>h) ?_;rintro _ d5 ⟨b33,rfl,c4,b,L⟩
   have bH:aW≠b33:=by have:=g.lt;omega
   have bA:=Q0 c.size c4;have B:=B.below b;have C:=C.below b;have c:=btr c b;refine Y1 7<|Yh rfl trivial rfl (Vw [vi ((siD (if (dgC ((conO p ((invO q).getD cZ)).getD cZ))=true then ofD ((conO p ((invO q).getD cZ)).getD cZ) else zD) ([(1:Int),2,3,4,5])).n),.slice aD ((siD (if (dgC ((conO p ((invO q).getD cZ)).getD cZ))=true then ofD ((conO p ((invO q).getD cZ)).getD cZ) else zD) ([(1:Int),2,3,4,5])).ns).length aE,.slice aF ((siD (if (dgC ((conO p ((invO q).getD cZ)).getD cZ))=true then ofD ((conO p ((invO q).getD cZ)).getD cZ) else zD) ([(1:Int),2,3,4,5])).ws).length aG,vi ((siD (if (dgC ((conO p ((invO q).getD cZ)).getD cZ))=true then ofD ((conO p ((invO q).getD cZ)).getD cZ) else zD) ([(1:Int),2,3,4,5])).t),vi ((siD (if (dgC ((conO p ((invO q).getD cZ)).getD cZ))=true then ofD ((conO p ((invO q).getD cZ)).getD cZ) else zD) ([(1:Int),2,3,4,5])).r)] Xp L) ?_;rintro _ d6 ⟨A,hb⟩;have f:=L;have B:=B.onlyT A f rfl;have C:=C.onlyT A f rfl;have c:=Below.only c A bA;have L:=hb;refine Yo 8 rfl (fun _=>X11 rfl) ?_;refine Yd fun a l=>?_;refine aC _ _<|Zs l fun _ c5=>?_;refine Ze (Vn X2 L)<|Zf (Vc (Xig _ (siD (if (dgC ((conO p ((invO q).getD cZ)).getD cZ))=true then ofD ((conO p ((invO q).getD cZ)).getD cZ) else zD) ([(1:Int),2,3,4,5])) (((siD (if (dgC ((conO p ((invO q).getD cZ)).getD cZ))=true then ofD ((conO p ((invO q).getD cZ)).getD cZ) else zD) ([(1:Int),2,3,4,5])).ns).length) rfl aD aE B.top aF aG C.top aX (by rw [E];exact X7h _ (X3v o.2.2))) Xad) ?_;rintro _ d7 ⟨rfl,b⟩;have c:=btr c b;refine Za rfl<|Za rfl<|Zt c5 fun a l=>?_
   refine Q6 (X4 l (X17 l rfl rfl rfl) ?_)
   exact ⟨by unfold vfV;rw [o.1,o.2.1,Qw,E];rfl,c⟩
  refine Yk rfl trivial (Xu (zs:=[vi 0,.slice none 0 0,.slice none 0 0,vi 0,vi 0]) X0s rfl) (fun _ _ ⟨_,_,_,h,_⟩=>h) ?_;rintro _ d8 ⟨b37,rfl,cA,b,D⟩
  have bJ:aW≠b37:=by have:=g.lt;omega
  have bB:=Q0 c.size cA;have d:=d.below b;have e:=e.below b;have y:=y.below b;have c:=btr c b;refine Y1 2<|Yk rfl trivial (Vc (Xi4 _ (if (dgC ((conO p ((invO q).getD cZ)).getD cZ))=true then ofD ((conO p ((invO q).getD cZ)).getD cZ) else zD) (((if (dgC ((conO p ((invO q).getD cZ)).getD cZ))=true then ofD ((conO p ((invO q).getD cZ)).getD cZ) else zD).ns).length) rfl a6 a7 d.top a8 aA e.top aB b3 b6 ([(1:Int),2,3,4,5]) y.rd.top (by rw [E];exact X1e (X3v o.2.2)) (by simp)) Xar) (fun _ _ ⟨aI,aJ,aK,aL,bC,bD,_,M,N,aY,aM,b⟩=>b) ?_;rintro _ d9 ⟨aI,aJ,aK,aL,bC,bD,rfl,M,N,aY,aM,b⟩;have aM:=aM.lower c.size;have D:=D.below b;have c:=btr c b;refine Yo 3 rfl (fun _=>X3 rfl)<|Yo 4 rfl (fun _=>Xn (vs:=[.agg #[vi ((siD (if (dgC ((conO p ((invO q).getD cZ)).getD cZ))=true then ofD ((conO p ((invO q).getD cZ)).getD cZ) else zD) ([(1:Int),2,3,4,5])).n),.slice aI ((siD (if (dgC ((conO p ((invO q).getD cZ)).getD cZ))=true then ofD ((conO p ((invO q).getD cZ)).getD cZ) else zD) ([(1:Int),2,3,4,5])).ns).length aJ,.slice aK ((siD (if (dgC ((conO p ((invO q).getD cZ)).getD cZ))=true then ofD ((conO p ((invO q).getD cZ)).getD cZ) else zD) ([(1:Int),2,3,4,5])).ws).length aL,vi ((siD (if (dgC ((conO p ((invO q).getD cZ)).getD cZ))=true then ofD ((conO p ((invO q).getD cZ)).getD cZ) else zD) ([(1:Int),2,3,4,5])).t),vi ((siD (if (dgC ((conO p ((invO q).getD cZ)).getD cZ))=true then ofD ((conO p ((invO q).getD cZ)).getD cZ) else zD) ([(1:Int),2,3,4,5])).r)],.slice bC (siL (if (dgC ((conO p ((invO q).getD cZ)).getD cZ))=true then ofD ((conO p ((invO q).getD cZ)).getD cZ) else zD) ([(1:Int),2,3,4,5])).length bD]) rfl rfl)<|Yo 5 rfl (fun _=>Xn (vs:=[.agg #[vi ((siD (if (dgC ((conO p ((invO q).getD cZ)).getD cZ))=true then ofD ((conO p ((invO q).getD cZ)).getD cZ) else zD) ([(1:Int),2,3,4,5])).n),.slice aI ((siD (if (dgC ((conO p ((invO q).getD cZ)).getD cZ))=true then ofD ((conO p ((invO q).getD cZ)).getD cZ) else zD) ([(1:Int),2,3,4,5])).ns).length aJ,.slice aK ((siD (if (dgC ((conO p ((invO q).getD cZ)).getD cZ))=true then ofD ((conO p ((invO q).getD cZ)).getD cZ) else zD) ([(1:Int),2,3,4,5])).ws).length aL,vi ((siD (if (dgC ((conO p ((invO q).getD cZ)).getD cZ))=true then ofD ((conO p ((invO q).getD cZ)).getD cZ) else zD) ([(1:Int),2,3,4,5])).t),vi ((siD (if (dgC ((conO p ((invO q).getD cZ)).getD cZ))=true then ofD ((conO p ((invO q).getD cZ)).getD cZ) else zD) ([(1:Int),2,3,4,5])).r)],.slice bC (siL (if (dgC ((conO p ((invO q).getD cZ)).getD cZ))=true then ofD ((conO p ((invO q).getD cZ)).getD cZ) else zD) ([(1:Int),2,3,4,5])).length bD]) rfl rfl)<|Y1 7 ?_
  refine Yh rfl trivial rfl (Vw [vi ((siD (if (dgC ((conO p ((invO q).getD cZ)).getD cZ))=true then ofD ((conO p ((invO q).getD cZ)).getD cZ) else zD) ([(1:Int),2,3,4,5])).n),.slice aI ((siD (if (dgC ((conO p ((invO q).getD cZ)).getD cZ))=true then ofD ((conO p ((invO q).getD cZ)).getD cZ) else zD) ([(1:Int),2,3,4,5])).ns).length aJ,.slice aK ((siD (if (dgC ((conO p ((invO q).getD cZ)).getD cZ))=true then ofD ((conO p ((invO q).getD cZ)).getD cZ) else zD) ([(1:Int),2,3,4,5])).ws).length aL,vi ((siD (if (dgC ((conO p ((invO q).getD cZ)).getD cZ))=true then ofD ((conO p ((invO q).getD cZ)).getD cZ) else zD) ([(1:Int),2,3,4,5])).t),vi ((siD (if (dgC ((conO p ((invO q).getD cZ)).getD cZ))=true then ofD ((conO p ((invO q).getD cZ)).getD cZ) else zD) ([(1:Int),2,3,4,5])).r)] Xp D) ?_;rintro _ dB ⟨A,hb⟩;have f:=D;have M:=M.onlyT A f rfl;have N:=N.onlyT A f rfl;have c:=Below.only c A bB;have D:=hb;refine Yo 8 rfl (fun _=>X11 rfl) ?_;refine Yd fun a l=>?_;refine aC _ _<|Zs l fun _ cB=>?_;refine Ze (Vn X2 D)<|Zf (Vc (Xig _ (siD (if (dgC ((conO p ((invO q).getD cZ)).getD cZ))=true then ofD ((conO p ((invO q).getD cZ)).getD cZ) else zD) ([(1:Int),2,3,4,5])) (((siD (if (dgC ((conO p ((invO q).getD cZ)).getD cZ))=true then ofD ((conO p ((invO q).getD cZ)).getD cZ) else zD) ([(1:Int),2,3,4,5])).ns).length) rfl aI aJ M.top aK aL N.top aY (by rw [E];exact X7h _ (X3v o.2.2))) Xad) ?_;rintro _ dC ⟨rfl,b⟩;have c:=btr c b;refine Za rfl<|Za rfl<|Zt cB fun a l=>?_
  refine Q6 (X4 l (X17 l rfl rfl rfl) ?_)
  exact ⟨by unfold vfV;rw [o.1,o.2.1,Qw,E];rfl,c⟩
 refine Yk rfl trivial (Xu (zs:=[vi 0,.slice none 0 0,.slice none 0 0,vi 0,vi 0]) X0s rfl) (fun _ _ ⟨_,_,_,h,_⟩=>h) ?_;rintro _ dD ⟨b44,rfl,cC,b,u⟩
 have bK:aW≠b44:=by have:=g.lt;omega
 have bE:=Q0 c.size cC;have d:=d.below b;have e:=e.below b;have c:=btr c b;refine Y1 1<|Yk rfl trivial (Vc (Xoz _) Xfw) (fun _ _ ⟨cD,cE,_,Q,b⟩=>b) ?_;rintro _ dE ⟨cD,cE,rfl,Q,b⟩;have Q:=Q.lower c.size;have u:=u.below b;have d:=d.below b;have e:=e.below b;have c:=btr c b;refine Y1 2<|Yk rfl trivial (Vc (Xi4 _ (if (dgC ((conO p ((invO q).getD cZ)).getD cZ))=true then ofD ((conO p ((invO q).getD cZ)).getD cZ) else zD) (((if (dgC ((conO p ((invO q).getD cZ)).getD cZ))=true then ofD ((conO p ((invO q).getD cZ)).getD cZ) else zD).ns).length) rfl a6 a7 d.top a8 aA e.top aB cD cE ([(1:Int),2,3,4,5]) Q.rd.top (by rw [E];exact X1e (X3v o.2.2)) (by simp)) Xar) (fun _ _ ⟨aN,aO,aP,aQ,bF,bG,_,U,W,aZ,aR,b⟩=>b) ?_;rintro _ dF ⟨aN,aO,aP,aQ,bF,bG,rfl,U,W,aZ,aR,b⟩;have aR:=aR.lower c.size;have u:=u.below b;have c:=btr c b;refine Yo 3 rfl (fun _=>X3 rfl)<|Yo 4 rfl (fun _=>Xn (vs:=[.agg #[vi ((siD (if (dgC ((conO p ((invO q).getD cZ)).getD cZ))=true then ofD ((conO p ((invO q).getD cZ)).getD cZ) else zD) ([(1:Int),2,3,4,5])).n),.slice aN ((siD (if (dgC ((conO p ((invO q).getD cZ)).getD cZ))=true then ofD ((conO p ((invO q).getD cZ)).getD cZ) else zD) ([(1:Int),2,3,4,5])).ns).length aO,.slice aP ((siD (if (dgC ((conO p ((invO q).getD cZ)).getD cZ))=true then ofD ((conO p ((invO q).getD cZ)).getD cZ) else zD) ([(1:Int),2,3,4,5])).ws).length aQ,vi ((siD (if (dgC ((conO p ((invO q).getD cZ)).getD cZ))=true then ofD ((conO p ((invO q).getD cZ)).getD cZ) else zD) ([(1:Int),2,3,4,5])).t),vi ((siD (if (dgC ((conO p ((invO q).getD cZ)).getD cZ))=true then ofD ((conO p ((invO q).getD cZ)).getD cZ) else zD) ([(1:Int),2,3,4,5])).r)],.slice bF (siL (if (dgC ((conO p ((invO q).getD cZ)).getD cZ))=true then ofD ((conO p ((invO q).getD cZ)).getD cZ) else zD) ([(1:Int),2,3,4,5])).length bG]) rfl rfl)<|Yo 5 rfl (fun _=>Xn (vs:=[.agg #[vi ((siD (if (dgC ((conO p ((invO q).getD cZ)).getD cZ))=true then ofD ((conO p ((invO q).getD cZ)).getD cZ) else zD) ([(1:Int),2,3,4,5])).n),.slice aN ((siD (if (dgC ((conO p ((invO q).getD cZ)).getD cZ))=true then ofD ((conO p ((invO q).getD cZ)).getD cZ) else zD) ([(1:Int),2,3,4,5])).ns).length aO,.slice aP ((siD (if (dgC ((conO p ((invO q).getD cZ)).getD cZ))=true then ofD ((conO p ((invO q).getD cZ)).getD cZ) else zD) ([(1:Int),2,3,4,5])).ws).length aQ,vi ((siD (if (dgC ((conO p ((invO q).getD cZ)).getD cZ))=true then ofD ((conO p ((invO q).getD cZ)).getD cZ) else zD) ([(1:Int),2,3,4,5])).t),vi ((siD (if (dgC ((conO p ((invO q).getD cZ)).getD cZ))=true then ofD ((conO p ((invO q).getD cZ)).getD cZ) else zD) ([(1:Int),2,3,4,5])).r)],.slice bF (siL (if (dgC ((conO p ((invO q).getD cZ)).getD cZ))=true then ofD ((conO p ((invO q).getD cZ)).getD cZ) else zD) ([(1:Int),2,3,4,5])).length bG]) rfl rfl)<|Y1 7 ?_
 refine Yh rfl trivial rfl (Vw [vi ((siD (if (dgC ((conO p ((invO q).getD cZ)).getD cZ))=true then ofD ((conO p ((invO q).getD cZ)).getD cZ) else zD) ([(1:Int),2,3,4,5])).n),.slice aN ((siD (if (dgC ((conO p ((invO q).getD cZ)).getD cZ))=true then ofD ((conO p ((invO q).getD cZ)).getD cZ) else zD) ([(1:Int),2,3,4,5])).ns).length aO,.slice aP ((siD (if (dgC ((conO p ((invO q).getD cZ)).getD cZ))=true then ofD ((conO p ((invO q).getD cZ)).getD cZ) else zD) ([(1:Int),2,3,4,5])).ws).length aQ,vi ((siD (if (dgC ((conO p ((invO q).getD cZ)).getD cZ))=true then ofD ((conO p ((invO q).getD cZ)).getD cZ) else zD) ([(1:Int),2,3,4,5])).t),vi ((siD (if (dgC ((conO p ((invO q).getD cZ)).getD cZ))=true then ofD ((conO p ((invO q).getD cZ)).getD cZ) else zD) ([(1:Int),2,3,4,5])).r)] Xp u) ?_;rintro _ dG ⟨A,hb⟩;have f:=u;have U:=U.onlyT A f rfl;have W:=W.onlyT A f rfl;have c:=Below.only c A bE;have u:=hb;refine Yo 8 rfl (fun _=>X11 rfl) ?_;refine Yd fun a l=>?_;refine aC _ _<|Zs l fun _ cF=>?_;refine Ze (Vn X2 u)<|Zf (Vc (Xig _ (siD (if (dgC ((conO p ((invO q).getD cZ)).getD cZ))=true then ofD ((conO p ((invO q).getD cZ)).getD cZ) else zD) ([(1:Int),2,3,4,5])) (((siD (if (dgC ((conO p ((invO q).getD cZ)).getD cZ))=true then ofD ((conO p ((invO q).getD cZ)).getD cZ) else zD) ([(1:Int),2,3,4,5])).ns).length) rfl aN aO U.top aP aQ W.top aZ (by rw [E];exact X7h _ (X3v o.2.2))) Xad) ?_;rintro _ dH ⟨rfl,b⟩;have c:=btr c b;refine Za rfl<|Za rfl<|Zt cF fun a l=>?_
 refine Q6 (X4 l (X17 l rfl rfl rfl) ?_)
 exact ⟨by unfold vfV;rw [o.1,o.2.1,Qw,E];rfl,c⟩
abbrev wrV(x:Wr) : Value:=.agg #[.int .i64 x.a,.int .i64 x.b,.bool x.h]
abbrev ndV(x:Nd) : Value:=.agg #[.int .i64 x.k,.int .i64 x.p]
theorem Xmc(d:Nat)(x y:Nd)(w:World) : (Op.equalIn (d+2) 81 (ndV x) (ndV y)).run Tryz.prog w=.ok (decide (x=y)) w:=by
 have hf:=Xgm Tryz.underlying81;refine (run_equalIn_struct w (d+1) 81 _ _ (by rw [hf];exact Tryz.underlying81) (by kernel_rfl)).trans ?_
 rw [hf]
 have:decide (x=y)=(decide (x.k=y.k)&&(decide (x.p=y.p)&&true)):=by
  obtain ⟨a,b⟩:=x;obtain ⟨a',b'⟩:=y
  simp
 rw [this]
 refine X6i (by decide) X9 Tryz.underlying3 rfl rfl fun _=>?_;refine X6i (by decide) X9 Tryz.underlying3 rfl rfl fun _=>?_
 rfl
theorem Xn8:Tryz.prog.eqGuardType Tryz.prog.depth 81=false:=by kernel_rfl
def cmW(x y:Wr) : Int:=if cmI x.a y.a≠0 then cmI x.a y.a else cmI x.b y.b
def orI:List Int→Int
 | []=>0
 | x::l=>if x≠0 then x else orI l
theorem Xoo:∀ {l:List Int} {k:Nat} {u:Int},(∀ x ∈ l.take k,x=0)→l[k]? = some u→u≠0→orI l=u
 | [],_,_,_,h,_=>by simp at h
 | x::l,0,u,_,h,hu=>by
  simp only [List.getElem?_cons_zero,Option.some.injEq] at h
  subst h
  exact Q4 hu
 | x::l,k+1,u,ha,h,hu=>by
  have hx:x=0:=ha x (by simp)
  unfold orI
  rw [Q3 (by simpa using hx)]
  exact Xoo (l:=l) (k:=k) (fun z hz=>ha z (by simp [hz])) (by simpa using h) hu
theorem Xw7:∀ {l:List Int},(∀ x ∈ l,x=0)→orI l=0
 | [],_=>rfl
 | x::l,ha=>by
  have hx:x=0:=ha x (by simp)
  unfold orI
  rw [Q3 (by simpa using hx)]
  exact Xw7 fun z hz=>ha z (by simp [hz])
theorem Xpp(x y:Wr) : orI [cmI x.a y.a,cmI x.b y.b]=cmW x y:=by
 unfold orI cmW
 split
 ·rfl
 ·unfold orI
  split
  ·rfl
  ·rename_i h;simp only [ne_eq,Decidable.not_not] at h;rw [h];rfl
def fnI(ns:List Nd)(x:Nd) : Int:=idxF ns fun y=>decide (x=y)
def nokI(n:Int)(x:Nd) : Bool:=if (x.k==0)=true then x.p==0 else if (x.k==1||x.k==2)=true then inR x.p 0 (n-1) else if (x.k==3)=true then inR x.p 0 7 else false
def bnI(ns:List Nd) : Int:=((ns.filter fun x=>x.k==1||x.k==2).length:Int)
theorem Xy7{ns:List Nd}{j:Nat}{x:Nd}(hj:ns[j]? = some x)(h:(x.k==1||x.k==2)=true) : bnI (ns.take (j+1))=bnI (ns.take j)+1:=by
 unfold bnI
 rw [X3d (q:=fun x=>x.k==1||x.k==2) hj,Q4 h,Qh]
 rfl
theorem Xxg{ns:List Nd}{j:Nat}{x:Nd}(hj:ns[j]? = some x)(h:(x.k==1||x.k==2)=false) : bnI (ns.take (j+1))=bnI (ns.take j):=by
 unfold bnI
 rw [X3d (q:=fun x=>x.k==1||x.k==2) hj,Q3 (by rw [h];decide),List.append_nil]
theorem Xu2(ns:List Nd)(j:Nat) : 0≤bnI (ns.take j)∧bnI (ns.take j)≤j:=by
 have h1:=List.length_filter_le (fun x:Nd=>x.k==1||x.k==2) (ns.take j)
 rw [Qn] at h1
 unfold bnI
 omega
def heQ(d:Dg)(q:Nat) : Bool:=!(decide (fnI d.ns ⟨1,q⟩<0)||decide (fnI d.ns ⟨2,q⟩<0))
def heD(d:Dg) : Bool:=(List.range d.n.toNat).all (heQ d)&&bnI d.ns==2*d.n
theorem Xf2{α:Type}{l:List α}{q:α→Bool} : decide (0≤idxF l q)=l.any q:=by
 rcases X3l l q with ⟨h1,h2⟩|⟨k,x,h1,h2,h3⟩
 ·rw [h1,W7.2 fun x hx=>by rw [h2 x hx];decide]
  rfl
 ·rw [h1,List.any_eq_true.2 ⟨x,Qe h2,h3⟩]
  simp
def wvQ(d:Dg)(i:Nat) : Bool:=!(decide ((d.ws.getD i wZ).a<0)||decide ((d.ws.getD i wZ).b≤(d.ws.getD i wZ).a)||decide ((d.ns.length:Int)≤(d.ws.getD i wZ).b)||(decide (0<(i:Int))&&decide (0≤cmW (d.ws.getD (i-1) wZ) (d.ws.getD i wZ))))
def nvQ(d:Dg)(i:Nat) : Bool:=!(((d.ns.getD i nZ).k==0&&cnW d.ws (i:Int) != 0)||(((d.ns.getD i nZ).k==1||(d.ns.getD i nZ).k==2)&&cnW d.ws (i:Int) != 1))
def hvQ(d:Dg) : Bool:=!(!(inR d.n 1 5)||decide (40<(d.ns.length:Int))||!(inR d.t 0 7)||!(inR d.r (-60) 60)||(d.ns.any fun x=>!nokI d.n x)||!(heD d))
def ivD(d:Dg) : Bool:=hvQ d&&(List.range d.ws.length).all (wvQ d)&&(List.range d.ns.length).all (nvQ d)
theorem Xp7{d:Dg}{i:Nat}{u:Wr}(hu:d.ws[i]? = some u) : wvQ d i = !(decide (u.a<0)||decide (u.b≤u.a)||decide ((d.ns.length:Int)≤u.b)||(decide (0<(i:Int))&&decide (0≤cmW (d.ws.getD (i-1) wZ) u))):=by
 have h:d.ws.getD i wZ=u:=by rw [Qa,hu];rfl
 unfold wvQ
 rw [h]
theorem Xnw{d:Dg}{i:Nat}{u:Nd}(hu:d.ns[i]? = some u) : nvQ d i = !((u.k==0&&cnW d.ws (i:Int) != 0)||((u.k==1||u.k==2)&&cnW d.ws (i:Int) != 1)):=by
 have h:d.ns.getD i nZ=u:=by rw [Qa,hu];rfl
 unfold nvQ
 rw [h]
theorem Xxn{d:Dg}(h:(!(inR d.n 1 5)||decide (40<(d.ns.length:Int))||!(inR d.t 0 7)||!(inR d.r (-60) 60)||(d.ns.any fun x=>!nokI d.n x)||!(heD d))=true) : ivD d=false:=by
 unfold ivD hvQ;rw [h];rfl
theorem Xy9{d:Dg}{i:Nat}(hi:i<d.ws.length)(h:wvQ d i=false) : ivD d=false:=by
 unfold ivD
 rw [X4k (q:=wvQ d) hi h,Bool.and_false,Bool.false_and]
theorem Xx5{d:Dg}{i:Nat}(hi:i<d.ns.length)(h:nvQ d i=false) : ivD d=false:=by
 unfold ivD
 rw [X4k (q:=nvQ d) hi h,Bool.and_false]
theorem Xxw{d:Dg}(h:(!(inR d.n 1 5)||decide (40<(d.ns.length:Int))||!(inR d.t 0 7)||!(inR d.r (-60) 60)||(d.ns.any fun x=>!nokI d.n x)||!(heD d))=false)(h2:∀ i,i<d.ws.length→wvQ d i=true)(h3:∀ i:Nat,i<d.ns.length→nvQ d i=true) : ivD d=true:=by
 unfold ivD hvQ
 rw [h,X3y (q:=wvQ d) h2,X3y (q:=nvQ d) h3]
 rfl
theorem Xpg(i:World)(Al:Option Addr)(cl:Nat)(l:List Wr)(aA:Rd i i.heap.size 83 encWr Al l)(kq:FuncId)(pq:List Value)(Fq:FuncF Tryz.prog kq)(q:Wr→Bool)(hq:∀ x w,Below i.heap.size i w→Ret Tryz.prog kq ([wrV x]++pq) w (fun v w'=>v=.bool (q x)∧Below w.heap.size w w'))(aN:l.length≤1000000000) : Ret Tryz.prog 160 [.slice Al l.length cl,.func (.func kq) #[] pq.toArray] i (fun v w=>v=vi (idxF l q)∧Below i.heap.size i w):=by
 refine enter Tryz.func160 rfl 19 rfl rfl ?_;intro a c
 have j:=bz i
 refine Zs c fun _ aG=>?_;refine Za rfl<|ZX aG fun a c _ aH=>?_;refine Zs c fun _ aI=>?_;refine Zm rfl<|Ze (X0d rfl Xx)<|Zm rfl<|Zt aI fun a c=>?_;refine Q8<|X01 (σ:=Nat) (fun (k:Nat) (a:Act) (w:World)=>Fr a 19 [(0,.slice Al l.length cl),(1,.func (.func kq) #[] pq.toArray),(7,vi (l.length:Int)),(8,vi (k:Int))]∧(k≤l.length)∧(((l.take k).all fun x=>!q x)=true)∧Below i.heap.size i w) (fun (k:Nat)=>l.length-k) 0 ?_ ?_
 ·exact ⟨c.sb,(Qf _),rfl,j⟩
 rintro k a w1 ⟨c,hk,f,j⟩;refine Zs c fun _ aJ=>?_;refine Ze (X0l rfl rfl)<|ZX aJ fun a c _ aK=>?_
 refine Xg c rfl (fun d=>?_) (fun d=>?_)
 ·have aB:=d;have d:=Q2 d
  obtain ⟨u8,aO⟩:=X5 (l:=l) (k:=k) (by omega)
  obtain ⟨m,a6⟩:=X5 (l:=l) (k:=k) (by have:=d;omega)
  refine Q7<|aK _ _<|Q5 fun _ aL=>?_;refine Q8<|Zs c fun _ aC=>?_;refine Zm rfl<|Za rfl<|Zx aC fun a c _ aD=>?_;refine Zm rfl<|Zm rfl<|Zm rfl<|Zi (k:=k) (u:=m) (enc:=encWr) (l:=l) trivial rfl rfl Xx X0e Xy (aA.below' j) a6 rfl ?_;intro aP a7;refine Ze (X04 (l:=[vi m.a,vi m.b,.bool m.h]) rfl X1i a7 rfl)<|Zf (X64 (cs:=pq) (vs:=[.agg #[vi m.a,vi m.b,.bool m.h]]) rfl rfl Fq (hq m _ j)) ?_;rintro _ w2 ⟨rfl,hE⟩;have j:=btr j hE;refine Zt aD fun a c=>?_
  refine Xg c rfl (fun e=>?_) (fun e=>?_)
  ·have a8:=e
   have g:idxF l q=(k:Int):=X7r f a6 e
   refine Zs c fun _ aE=>?_;refine Zm rfl<|Za rfl<|Zt aE fun a c=>?_;refine Q6<|Xq<|X6<|X6 ?_;refine Xq<|X6<|X4 c (Xt c rfl rfl) ?_;exact ⟨by rw [g],j⟩
  have a8:=e;have aM:=X6d f a6 e;refine Q7<|Xa<|aL _ _<|Zr c ?_;refine Ze (Xw rfl rfl (by omega) (by omega))<|Zm rfl ?_;refine Zn fun a c=>?_;refine Xh ?_;exact ⟨k+1,⟨c.sb,(by omega),aM,j⟩,(by omega)⟩
 have aB:=d;have d:=Q1 d
 have g:idxF l q = -1:=X7y f (by have:=d;omega)
 refine Q9<|Xk<|Xk<|X03 ?_;refine aH _ _<|Zs c fun _ aF=>?_;refine Za rfl<|Zt aF fun a c=>?_
 refine Q6 (X4 c (Xt c rfl rfl) ?_)
 exact ⟨by rw [g],j⟩
theorem Xwb(g:World)(Al:Option Addr)(cl:Nat)(l:List Nd)(aA:Rd g g.heap.size 81 encNd Al l)(kq:FuncId)(pq:List Value)(Fq:FuncF Tryz.prog kq)(q:Nd→Bool)(hq:∀ x w,Below g.heap.size g w→Ret Tryz.prog kq ([ndV x]++pq) w (fun v w'=>v=.bool (q x)∧Below w.heap.size w w'))(aN:l.length≤1000000000) : Ret Tryz.prog 148 [.slice Al l.length cl,.func (.func kq) #[] pq.toArray] g (fun v w=>v=vi (idxF l q)∧Below g.heap.size g w):=by
 refine enter Tryz.func148 rfl 19 rfl rfl ?_;intro a b
 have i:=bz g
 refine Zs b fun _ aG=>?_;refine Za rfl<|ZX aG fun a b _ aH=>?_;refine Zs b fun _ aI=>?_;refine Zm rfl<|Ze (X0d rfl Xs)<|Zm rfl<|Zt aI fun a b=>?_;refine Q8<|X01 (σ:=Nat) (fun (k:Nat) (a:Act) (w:World)=>Fr a 19 [(0,.slice Al l.length cl),(1,.func (.func kq) #[] pq.toArray),(7,vi (l.length:Int)),(8,vi (k:Int))]∧(k≤l.length)∧(((l.take k).all fun x=>!q x)=true)∧Below g.heap.size g w) (fun (k:Nat)=>l.length-k) 0 ?_ ?_
 ·exact ⟨b.sb,(Qf _),rfl,i⟩
 rintro k a w1 ⟨b,hk,e,i⟩;refine Zs b fun _ aJ=>?_;refine Ze (X0l rfl rfl)<|ZX aJ fun a b _ aK=>?_
 refine Xg b rfl (fun c=>?_) (fun c=>?_)
 ·have aB:=c;have c:=Q2 c
  obtain ⟨u8,aO⟩:=X5 (l:=l) (k:=k) (by omega)
  obtain ⟨u9,a6⟩:=X5 (l:=l) (k:=k) (by have:=c;omega)
  refine Q7<|aK _ _<|Q5 fun _ aL=>?_;refine Q8<|Zs b fun _ aC=>?_;refine Zm rfl<|Za rfl<|Zx aC fun a b _ aD=>?_;refine Zm rfl<|Zm rfl<|Zm rfl<|Zi (k:=k) (u:=u9) (enc:=encNd) (l:=l) trivial rfl rfl Xs X07 Xv (aA.below' i) a6 rfl ?_;intro aP a7;refine Ze (X04 (l:=[vi u9.k,vi u9.p]) rfl X2s a7 rfl)<|Zf (X64 (cs:=pq) (vs:=[.agg #[vi u9.k,vi u9.p]]) rfl rfl Fq (hq u9 _ i)) ?_;rintro _ w2 ⟨rfl,hE⟩;have i:=btr i hE;refine Zt aD fun a b=>?_
  refine Xg b rfl (fun d=>?_) (fun d=>?_)
  ·have a8:=d
   have f:idxF l q=(k:Int):=X7r e a6 d
   refine Zs b fun _ aE=>?_;refine Zm rfl<|Za rfl<|Zt aE fun a b=>?_;refine Q6<|Xq<|X6<|X6 ?_;refine Xq<|X6<|X4 b (Xt b rfl rfl) ?_;exact ⟨by rw [f],i⟩
  have a8:=d;have aM:=X6d e a6 d;refine Q7<|Xa<|aL _ _<|Zr b ?_;refine Ze (Xw rfl rfl (by omega) (by omega))<|Zm rfl ?_;refine Zn fun a b=>?_;refine Xh ?_;exact ⟨k+1,⟨b.sb,(by omega),aM,i⟩,(by omega)⟩
 have aB:=c;have c:=Q1 c
 have f:idxF l q = -1:=X7y e (by have:=c;omega)
 refine Q9<|Xk<|Xk<|X03 ?_;refine aH _ _<|Zs b fun _ aF=>?_;refine Za rfl<|Zt aF fun a b=>?_
 refine Q6 (X4 b (Xt b rfl rfl) ?_)
 exact ⟨by rw [f],i⟩
theorem Xsq(w0:World)(x:Wr)(p q:Int)(ba bb:Nat)(d:Blk w0 ba 3 [vi p])(e:Blk w0 bb 3 [vi q]) : Ret Tryz.prog 199 [.agg #[vi x.a,vi x.b,.bool x.h],.pointer (some ⟨ba,0,none⟩),.pointer (some ⟨bb,0,none⟩)] w0 (fun v w=>v=.bool (isW p q x)∧Below w0.heap.size w0 w):=by
 have a7:=d.lt;have a8:=e.lt;refine enter Tryz.func199 rfl 19 rfl rfl ?_;intro a f
 have hW:=bz w0
 refine Zs f fun _ aA=>?_;refine Zf (X0c (zs:=[vi x.a,vi x.b,.bool x.h]) rfl rfl) ?_;rintro _ w1 ⟨b2,rfl,aB,hE,a6⟩;have aD:=Q0 hW.size aB;have d:=d.below hE;have e:=e.below hE;have hW:=btr hW hE;refine Za rfl<|ZX aA fun a f _ aC=>?_;refine X0a (fun a w=>Fr a 19 [(4,.bool ((x.a==(min p q))&&(x.b==(max p q))))]∧w1=w) ?_ ?_
 ·refine Zr f<|Ze (Vd rfl X0q 0)<|Ze (X0 rfl X9 (a6.at 0))<|Ze (X0 rfl X9 (d.at 0))<|Ze (X0 rfl X9 (e.at 0))<|Ze (Xnn rfl rfl)<|Ze (X0b rfl rfl)<|Zm rfl ?_
  refine Zg 11 rfl (fun c=>?_) (fun c=>?_)
  ·refine Zv (gW c) (Vd rfl X0u 1) ?_;refine Zv (gW c) (X0 rfl X9 (a6.at 1)) ?_;refine Zv (gW c) (X0 rfl X9 (d.at 0)) ?_;refine Zv (gW c) (X0 rfl X9 (e.at 0)) ?_;refine Zv (gW c) (Xrd rfl rfl) ?_;refine Zv (gW c) (X0b rfl rfl) ?_;refine Ze (X7 rfl c rfl)<|Za rfl ?_;refine Zn fun a f=>?_;exact ⟨f.sub ⟨X1 rfl (by first|rfl|(simp only [c,bs];done)|simp [c]),trivial⟩,rfl⟩
  refine Zp (gP c) ?_;refine Zp (gP c) ?_;refine Zp (gP c) ?_;refine Zp (gP c) ?_;refine Zp (gP c) ?_;refine Zp (gP c) ?_;refine Ze (Xe rfl c rfl)<|Za rfl ?_;refine Zn fun a f=>?_;exact ⟨f.sub ⟨X1 rfl (by first|rfl|(simp only [c,bs];done)|simp [c]),trivial⟩,rfl⟩
 rintro a _ ⟨f,rfl⟩;refine aC _ _ ?_
 refine Q6 (X4 f (Xt f rfl rfl) ?_)
 exact ⟨rfl,hW⟩
theorem Xfn(g:World)(d:Dg)(md:Nat)(aG:md=d.ns.length)(Ad:Option Addr)(cd:Nat)(aH:Rd g g.heap.size 81 encNd Ad d.ns)(Bd:Option Addr)(dd:Nat)(a6:Rd g g.heap.size 83 encWr Bd d.ws)(aI:d.ws.length≤dd)(p:Int)(q:Int)(a8:d.ws.length≤1000000000) : Ret Tryz.prog 165 [.agg #[vi d.n,.slice Ad md cd,.slice Bd d.ws.length dd,vi d.t,vi d.r],vi p,vi q] g (fun v w=>v=vi (fdW d.ws p q)∧Below g.heap.size g w):=by
 refine enter Tryz.func165 rfl 11 rfl rfl ?_;intro a hf
 have b:=bz g
 refine Zs hf fun _ aA=>?_;refine Zf (X0c (zs:=[vi d.n,.slice Ad md cd,.slice Bd d.ws.length dd,vi d.t,vi d.r]) rfl rfl) ?_;rintro _ w1 ⟨b4,rfl,aB,e,c⟩;have aJ:=Q0 b.size aB;have b:=btr b e;refine Zf (X0c (zs:=[vi p]) rfl rfl) ?_;rintro _ w2 ⟨b5,rfl,aC,e,f⟩;have aK:=Q0 b.size aC;have c:=c.below e;have b:=btr b e;refine Zf (X0c (zs:=[vi q]) rfl rfl) ?_;rintro _ w3 ⟨b6,rfl,aD,e,aE⟩
 have a7:b5≠b6:=by have:=f.lt;omega
 have aL:=Q0 b.size aD;have c:=c.below e;have f:=f.below e;have b:=btr b e;refine Za rfl<|Zx aA fun a hf _ aF=>?_;refine Ze (Vd rfl Xr 2)<|Ze (X0 rfl X0j (c.at 2))<|Ze (X3j (vs:=[.pointer (some ⟨b5,0,none⟩),.pointer (some ⟨b6,0,none⟩)]) rfl)<|Zf (Vc (Xpg _ Bd dd d.ws (a6.below' b).top 199 [.pointer (some ⟨b5,0,none⟩),.pointer (some ⟨b6,0,none⟩)] Xkd (isW p q) (fun x w' hE'=>Xsq w' x p q _ _ (f.below hE') (aE.below hE')) a8) Xdw) ?_;rintro _ w4 ⟨rfl,e⟩;have b:=btr b e;refine Za rfl<|Zt aF fun a hf=>?_
 refine Q6 (X4 hf (Xt hf rfl rfl) ?_)
 exact ⟨rfl,b⟩
theorem X5u(g:World)(d:Dg)(md:Nat)(a7:md=d.ns.length)(Ad:Option Addr)(cd:Nat)(a8:Rd g g.heap.size 81 encNd Ad d.ns)(Bd:Option Addr)(dd:Nat)(i:Rd g g.heap.size 83 encWr Bd d.ws)(aA:d.ws.length≤dd)(p:Int)(q:Int)(aD:d.ws.length≤1000000000) : Ret Tryz.prog 116 [.agg #[vi d.n,.slice Ad md cd,.slice Bd d.ws.length dd,vi d.t,vi d.r],vi p,vi q] g (fun v w=>v=vi (tyW d.ws p q)∧Below g.heap.size g w):=by
 have aL:=X79 d.ws p q
 have aE:∀ x:Bool,(if x=true then (1:Int) else 0)=0∨(if x=true then (1:Int) else 0)=1:=fun x=>by cases x;exact .inl rfl;exact .inr rfl
 refine enter Tryz.func116 rfl 22 rfl rfl ?_;intro a c
 have e:=bz g
 refine Zs c fun _ aF=>?_;refine Zf (X0c (zs:=[vi d.n,.slice Ad md cd,.slice Bd d.ws.length dd,vi d.t,vi d.r]) rfl rfl) ?_;rintro _ w1 ⟨b4,rfl,aG,hE,f⟩;have aM:=Q0 e.size aG;have e:=btr e hE;refine Za rfl<|Zx aF fun a c _ aH=>?_;refine Ze (Vn X2 f)<|Zm rfl<|Zm rfl<|Zf (Vc (Xfn _ d md a7 Ad cd (a8.below' e).top Bd dd (i.below' e).top aA p q aD) X7k) ?_;rintro _ w2 ⟨rfl,hE⟩;have f:=f.below hE;have e:=btr e hE;refine Za rfl<|ZX aH fun a c _ aI=>?_;refine Zs c fun _ aJ=>?_;refine Zm rfl<|Ze (X0l rfl rfl)<|Zt aJ fun a c=>?_
 refine Xg c rfl (fun b=>?_) (fun b=>?_)
 ·have aB:=b;have b:=Q2 b
  have hz:tyW d.ws p q=0:=by unfold tyW;exact Q4 (by simpa using b)
  refine Zs c fun _ aK=>?_;refine Za rfl<|Zt aK fun a c=>?_;refine Q6<|X6<|X4 c (Xt c rfl rfl) ?_;exact ⟨by rw [hz],e⟩
 have aB:=b;have b:=Q1 b
 have aN:0≤fdW d.ws p q:=by have h9:=b;simp at h9;omega
 have hz:tyW d.ws p q=1+(if (d.ws.getD (fdW d.ws p q).toNat wZ).h=true then 1 else 0):=by unfold tyW;rw [Q3 (by omega)];cases (d.ws.getD (fdW d.ws p q).toNat wZ).h<;>rfl
 have aO:=aE (d.ws.getD (fdW d.ws p q).toNat wZ).h;refine Q7<|aI _ _<|Zs c fun _ aC=>?_;refine Ze (Vd rfl Xr 2)<|Ze (X0 rfl X0j (f.at 2))<|Zm rfl<|Zi (k:=(fdW d.ws p q).toNat) (u:=(d.ws.getD (fdW d.ws p q).toNat wZ)) (enc:=encWr) (l:=d.ws) trivial rfl rfl Xx X0e Xy (i.below' e) (Xb (by omega)) (by omega) ?_;intro aP a6;refine Ze (X23 rfl X5k)<|Ze (X0 rfl X6c (a6.drop 2))<|Zf (Vc (F59 _ ((d.ws.getD (fdW d.ws p q).toNat wZ).h)) Xcj) ?_;rintro _ _ ⟨rfl,rfl⟩;refine Ze (Xw rfl rfl (by omega) (by omega))<|Za rfl<|Zt aC fun a c=>?_
 refine Q6 (X4 c (Xt c rfl rfl) ?_)
 exact ⟨by rw [hz],e⟩
theorem X60(e:World)(d:Dg)(md:Nat)(f:md=d.ns.length)(Ad:Option Addr)(cd:Nat)(a6:Rd e e.heap.size 81 encNd Ad d.ns)(Bd:Option Addr)(dd:Nat)(aD:Rd e e.heap.size 83 encWr Bd d.ws)(aE:d.ws.length≤dd)(p:Int)(hN:md≤1000) : Ret Tryz.prog 74 [.agg #[vi d.n,.slice Ad md cd,.slice Bd d.ws.length dd,vi d.t,vi d.r],vi p] e (fun v w=>v=.bool (spI d.ns p)∧Below e.heap.size e w):=by
 refine enter Tryz.func74 rfl 20 rfl rfl ?_;intro a c
 have hW:=bz e
 refine Zs c fun _ aA=>?_;refine Zf (X0c (zs:=[vi d.n,.slice Ad md cd,.slice Bd d.ws.length dd,vi d.t,vi d.r]) rfl rfl) ?_;rintro _ w1 ⟨b4,rfl,aB,hE,a7⟩;have aF:=Q0 hW.size aB;have hW:=btr hW hE;refine Za rfl<|ZX aA fun a c _ aC=>?_;refine X0a (fun a w=>Fr a 20 [(4,.bool ((inR p 0 ((md:Int)-1))&&(((d.ns.getD p.toNat nZ).k)==3)))]∧w1=w) ?_ ?_
 ·refine Zr c<|Zm rfl<|Ze (Vd rfl Xj 1)<|Ze (X0 rfl X00 (a7.at 1))<|Ze (X0d rfl Xs)<|Ze (X1g rfl rfl (by omega) (by omega))<|Zf (Vc (F91 _ p 0 ((md:Int)-1)) X3n) ?_;rintro _ _ ⟨rfl,rfl⟩;refine Zm rfl ?_
  refine Zg 11 rfl (fun b=>?_) (fun b=>?_)
  ·have aG:=X0f.1 b;refine Zv (gW b) (Vd rfl Xj 1) ?_;refine Zv (gW b) (X0 rfl X00 (a7.at 1)) ?_;refine Zv (gW b) (X3 rfl) ?_;refine Zj (k:=p.toNat) (u:=(d.ns.getD p.toNat nZ)) (enc:=encNd) (l:=d.ns) ⟨_,_,rfl,rfl,b⟩ rfl f rfl Xs X07 Xv (a6.below' hW) (Xb (by omega)) (by omega) ?_;intro p8 a8;refine Zv (gW b) (X23 rfl X13) ?_;refine Zv (gW b) (X0 rfl X9 (a8.drop 0)) ?_;refine Zv (gW b) (X0b rfl rfl) ?_;refine Ze (X7 rfl b rfl)<|Za rfl ?_;refine Zn fun a c=>?_;exact ⟨c.sub ⟨X1 rfl (by first|rfl|(simp only [b,bs];done)|simp [b]),trivial⟩,rfl⟩
  refine Zp (gP b) ?_;refine Zp (gP b) ?_;refine Zp (gP b) ?_;refine Zp (gP b) ?_;refine Zp (gP b) ?_;refine Zp (gP b) ?_;refine Zp (gP b) ?_;refine Ze (Xe rfl b rfl)<|Za rfl ?_;refine Zn fun a c=>?_;exact ⟨c.sub ⟨X1 rfl (by first|rfl|(simp only [b,bs];done)|simp [b]),trivial⟩,rfl⟩
 rintro a _ ⟨c,rfl⟩;refine aC _ _ ?_
 refine Q6 (X4 c (Xt c rfl rfl) ?_)
 exact ⟨by unfold spI;rw [f],hW⟩
theorem X83(y:World)(d:Dg)(md:Nat)(aP:md=d.ns.length)(Ad:Option Addr)(cd:Nat)(aQ:Rd y y.heap.size 81 encNd Ad d.ns)(Bd:Option Addr)(dd:Nat)(B:Rd y y.heap.size 83 encWr Bd d.ws)(q:d.ws.length≤dd)(p:Int)(aU:d.ws.length≤1000000000) : Ret Tryz.prog 102 [.agg #[vi d.n,.slice Ad md cd,.slice Bd d.ws.length dd,vi d.t,vi d.r],vi p] y (fun v w=>v=vi (cnW d.ws p)∧Below y.heap.size y w):=by
 refine enter Tryz.func102 rfl 29 rfl rfl ?_;intro a f
 have o:=bz y
 refine Zs f fun _ aH=>?_;refine Zf (X0c (zs:=[vi d.n,.slice Ad md cd,.slice Bd d.ws.length dd,vi d.t,vi d.r]) rfl rfl) ?_;rintro _ w1 ⟨b4,rfl,aI,hE,aJ⟩;have aR:=Q0 o.size aI;have o:=btr o hE;refine Za rfl<|Zx aH fun a f _ aK=>?_;refine Za rfl<|ZX aK fun a f _ aL=>?_;refine Zs f fun _ aM=>?_;refine Ze (Vd rfl Xr 2)<|Ze (X0 rfl X0j (aJ.at 2))<|Ze (X0d rfl Xx)<|Zm rfl<|Zt aM fun a f=>?_;refine Q8<|X01 (σ:=Nat×Int) (fun (s:Nat×Int) (a:Act) (w:World)=>match s with|(k,c)=>Fr a 29 [(1,vi p),(5,vi c),(9,.slice Bd d.ws.length dd),(10,vi (d.ws.length:Int)),(11,vi (k:Int))]∧(k≤d.ws.length)∧(c=cnW (d.ws.take k) p)∧d.ws.length≤dd∧Below y.heap.size y w) (fun (s:Nat×Int)=>match s with|(k,c)=>d.ws.length-k) (0,0) ?_ ?_
 ·exact ⟨f.sb,(Qf _),rfl,q,o⟩
 rintro ⟨k,c⟩ a w2 ⟨f,hk,hc,q,o⟩;have aB:=Xea d.ws p k
 rw [← hc] at aB
 refine Zs f fun _ aN=>?_;refine Ze (X0l rfl rfl)<|ZX aN fun a f _ aO=>?_
 refine Xg f rfl (fun g=>?_) (fun g=>?_)
 ·have i:=g;have g:=Q2 g
  obtain ⟨aW,aS⟩:=X5 (l:=d.ws) (k:=k) (by omega)
  obtain ⟨A,a6⟩:=X5 (l:=d.ws) (k:=k) (by have:=g;omega)
  have aB:=Xea d.ws p k;refine Q7<|aO _ _<|Q5 fun _ C=>?_;refine Q8<|Zs f fun _ aC=>?_;refine Zi (k:=k) (u:=A) (enc:=encWr) (l:=d.ws) trivial rfl rfl Xx X0e Xy (B.below' o) a6 rfl ?_;intro aX a7;refine Ze (X04 (l:=[vi A.a,vi A.b,.bool A.h]) rfl X1i a7 rfl)<|Zf (Xu (zs:=[vi 0,vi 0,.bool false]) X2y rfl) ?_;rintro _ w3 ⟨aY,rfl,D,hE,j⟩;have a8:=Q0 o.size D;have aD:=(B.below' o).away D;have o:=btr o hE;refine Zo (Vw [vi A.a,vi A.b,.bool A.h] X0e j) ?_;rintro _ w4 ⟨ho,hb⟩;have aT:=j;have o:=Below.only o ho a8;have j:=hb;refine ZX aC fun a f _ aE=>?_;refine X0a (fun a w=>Fr a 29 [(1,vi p),(5,vi c),(9,.slice Bd d.ws.length dd),(10,vi (d.ws.length:Int)),(11,vi (k:Int)),(24,.bool ((A.a==p)||(A.b==p)))]∧w4=w) ?_ ?_
  ·refine Zr f<|Ze (Vd rfl X0q 0)<|Ze (X0 rfl X9 (j.at 0))<|Zm rfl<|Ze (X0b rfl rfl)<|Zm rfl ?_
   refine Zg 19 rfl (fun e=>?_) (fun e=>?_)
   ·refine Zp (gP e) ?_;refine Zp (gP e) ?_;refine Zp (gP e) ?_;refine Zp (gP e) ?_;refine Ze (X7 rfl e rfl) ?_;refine Zn fun a f=>?_;exact ⟨f.sub ⟨rfl,rfl,rfl,rfl,rfl,X1 rfl (by first|rfl|(simp only [i,e,bs];done)|simp [i,e]),trivial⟩,rfl⟩
   refine Zv (gW e) (Vd rfl X0u 1) ?_;refine Zv (gW e) (X0 rfl X9 (j.at 1)) ?_;refine Zv (gW e) (X3 rfl) ?_;refine Zv (gW e) (X0b rfl rfl) ?_;refine Ze (Xe rfl e rfl) ?_;refine Zn fun a f=>?_;exact ⟨f.sub ⟨rfl,rfl,rfl,rfl,rfl,X1 rfl (by first|rfl|(simp only [i,e,bs];done)|simp [i,e]),trivial⟩,rfl⟩
  rintro a _ ⟨f,rfl⟩;refine aE _ _ ?_
  refine Xg f rfl (fun m=>?_) (fun m=>?_)
  ·have aA:=m;have x:=Xtt a6 m
   rw [← hc] at x
   refine Zr f<|Zm rfl<|Ze (Xw rfl rfl (by omega) (by omega))<|Za rfl ?_;refine Zn fun a f=>?_;refine Xa<|C _ _<|Zr f<|Ze (Xw rfl rfl (by omega) (by omega))<|Zm rfl ?_;refine Zn fun a f=>?_;refine Xh ?_;exact ⟨(k+1,c+1),⟨f.sb,(by omega),(by rw [x]),q,o⟩,(by first|omega|(dsimp only;omega))⟩
  have aA:=m;have x:=Xv9 a6 m
  rw [← hc] at x
  refine Q7<|Xa<|C _ _<|Zr f ?_;refine Ze (Xw rfl rfl (by omega) (by omega))<|Zm rfl ?_;refine Zn fun a f=>?_;refine Xh ?_;exact ⟨(k+1,c),⟨f.sb,(by omega),(by rw [x]),q,o⟩,(by first|omega|(dsimp only;omega))⟩
 have i:=g;have g:=Q1 g
 have aF:c=cnW d.ws p:=by rw [hc,Qi (by have:=g;omega)]
 refine Q9<|Xk<|Xk<|X03 ?_;refine aL _ _<|Zs f fun _ aG=>?_;refine Zm rfl<|Za rfl<|Zt aG fun a f=>?_
 refine Q6 (X4 f (Xt f rfl rfl) ?_)
 exact ⟨by rw [aF],o⟩
theorem Xtc(m:World)(Al:Option Addr)(cl:Nat)(l:List Nd)(n:Rd m m.heap.size 81 encNd Al l)(x:Nd)(aO:l.length≤1000000000) : Ret Tryz.prog 167 [.slice Al l.length cl,.agg #[vi x.k,vi x.p]] m (fun v w=>v=vi (fnI l x)∧Below m.heap.size m w):=by
 refine enter Tryz.func167 rfl 19 rfl rfl ?_;intro a c
 have f:=bz m
 refine Zs c fun _ aH=>?_;refine Zf (X0c (zs:=[vi x.k,vi x.p]) rfl rfl) ?_;rintro _ w1 ⟨b3,rfl,a8,hE,e⟩;have aN:=Q0 f.size a8;have aG:=(n.below' f).away a8;have f:=btr f hE;refine Za rfl<|ZX aH fun a c _ aI=>?_;refine Zs c fun _ aJ=>?_;refine Zm rfl<|Ze (X0d rfl Xs)<|Zm rfl<|Zt aJ fun a c=>?_;refine Q8<|X01 (σ:=Nat) (fun (k:Nat) (a:Act) (w:World)=>Fr a 19 [(0,.slice Al l.length cl),(3,.pointer (some ⟨b3,0,none⟩)),(7,vi (l.length:Int)),(8,vi (k:Int))]∧(k≤l.length)∧(((l.take k).all fun y=>!decide (x=y))=true)∧Blk w b3 81 [vi x.k,vi x.p]∧Below m.heap.size m w) (fun (k:Nat)=>l.length-k) 0 ?_ ?_
 ·exact ⟨c.sb,(Qf _),rfl,e,f⟩
 rintro k a w2 ⟨c,hk,g,e,f⟩;refine Zs c fun _ aK=>?_;refine Ze (X0l rfl rfl)<|ZX aK fun a c _ aL=>?_
 refine Xg c rfl (fun d=>?_) (fun d=>?_)
 ·have aA:=d;have d:=Q2 d
  obtain ⟨u9,j⟩:=X5 (l:=l) (k:=k) (by omega)
  obtain ⟨u9,j⟩:=X5 (l:=l) (k:=k) (by have:=d;omega)
  refine Q7<|aL _ _<|Q5 fun _ aB=>?_;refine Q8<|Zs c fun _ aC=>?_;refine Zm rfl<|Za rfl<|ZX aC fun a c _ aD=>?_;refine X05 none (fun _=>false) mixed ?_;intro w3 hE;have e:=e.below hE;have f:=btr f hE;refine Yb c<|Ye 0 rfl (Vn X2s e)<|Yo 1 rfl (fun _=>X3 rfl)<|Yo 2 rfl (fun _=>X3 rfl)<|Yi (k:=k) (u:=u9) (enc:=encNd) (l:=l) 3 rfl trivial rfl rfl Xs X07 Xv (n.below' f) j rfl ?_;intro aP a6;refine Ye 4 rfl (X04 (l:=[vi u9.k,vi u9.p]) rfl X2s a6 rfl)<|Yo 5 rfl (fun _=>Xvf rfl rfl Xn8 (fun w=>Xmc 9998 x u9 w)) ?_;refine Yd fun a c=>?_;refine aD _ _ ?_
  refine Xg c rfl (fun b=>?_) (fun b=>?_)
  ·have a7:=b;have b:=Q2 b
   have i:fnI l x=(k:Int):=X7r g j (by simpa using b)
   refine Zs c fun _ aE=>?_;refine Zm rfl<|Za rfl<|Zt aE fun a c=>?_;refine Q6<|Xq<|X6<|X6 ?_;refine Xq<|X6<|X4 c (Xt c rfl rfl) ?_;exact ⟨by rw [i],f⟩
  have a7:=b;have b:=Q1 b
  have aM:=X6d (q:=fun y=>decide (x=y)) g j (by simpa using b)
  refine Q7<|Xa<|aB _ _<|Zr c ?_;refine Ze (Xw rfl rfl (by omega) (by omega))<|Zm rfl ?_;refine Zn fun a c=>?_;refine Xh ?_;exact ⟨k+1,⟨c.sb,(by omega),aM,e,f⟩,(by omega)⟩
 have aA:=d;have d:=Q1 d
 have i:fnI l x = -1:=X7y g (by have:=d;omega)
 refine Q9<|Xk<|Xk<|X03 ?_;refine aI _ _<|Zs c fun _ aF=>?_;refine Za rfl<|Zt aF fun a c=>?_
 refine Q6 (X4 c (Xt c rfl rfl) ?_)
 exact ⟨by rw [i],f⟩
theorem Xuk(w0:World)(n:Int)(x:Nd)(hn:1≤n∧n≤1000) : Ret Tryz.prog 99 [vi n,.agg #[vi x.k,vi x.p]] w0 (fun v w=>v=.bool (nokI n x)∧Below w0.heap.size w0 w):=by
 refine enter Tryz.func99 rfl 25 rfl rfl ?_;intro a b
 have l:=bz w0
 refine Zs b fun _ aG=>?_;refine Zf (X0c (zs:=[vi x.k,vi x.p]) rfl rfl) ?_;rintro _ w1 ⟨b2,rfl,aH,hE,g⟩;have aN:=Q0 l.size aH;have l:=btr l hE;refine Za rfl<|ZX aG fun a b _ aI=>?_;refine Zs b fun _ aJ=>?_;refine Ze (Vd rfl X13 0)<|Ze (X0 rfl X9 (g.at 0))<|Zt aJ fun a b=>?_;refine Q8<|Zs b fun _ aK=>?_;refine Ze (X0b rfl rfl)<|Za rfl<|Zt aK fun a b=>?_
 refine Xg b rfl (fun i=>?_) (fun i=>?_)
 ·have a8:=i
  have c:nokI n x=_:=Q4 i
  refine Zs b fun _ aL=>?_;refine Ze (Vd rfl X06 1)<|Ze (X0 rfl X9 (g.at 1))<|Ze (X0b rfl rfl)<|Za rfl<|Zt aL fun a b=>?_;refine Q6<|Xq<|X6<|X4 b (Xt b rfl rfl) ?_;exact ⟨by rw [c],l⟩
 have a8:=i
 have g0:=i
 refine Q5 fun _ aA=>?_;refine Zs b fun _ aM=>?_;refine Ze (X0b rfl rfl)<|Za rfl<|Zt aM fun a b=>?_
 refine Xg b rfl (fun d=>?_) (fun d=>?_)
 ·have j:=d
  have c:nokI n x=inR x.p 0 (n-1):=by unfold nokI;rw [g0,d];rfl
  refine Q7<|aA _ _<|Xau b (X1 rfl j) ?_;refine Zs b fun _ aB=>?_;refine Ze (Vd rfl X06 1)<|Ze (X0 rfl X9 (g.at 1))<|Zm rfl<|Ze (X1g rfl rfl (by omega) (by omega))<|Zf (Vc (F91 _ x.p 0 (n-1)) X3n) ?_;rintro _ _ ⟨rfl,rfl⟩;refine Za rfl<|Zt aB fun a b=>?_;refine Q6<|Xq<|X6<|X4 b (Xt b rfl rfl) ?_;exact ⟨by rw [c],l⟩
 have j:=d
 have g1:=d
 refine Zr b<|Ze (X0b rfl rfl)<|Za rfl<|Zt aA fun a b=>?_
 refine Xg b rfl (fun e=>?_) (fun e=>?_)
 ·have a6:=e
  have c:nokI n x=inR x.p 0 (n-1):=by unfold nokI;rw [g0,g1,e];rfl
  refine Zs b fun _ aC=>?_;refine Ze (Vd rfl X06 1)<|Ze (X0 rfl X9 (g.at 1))<|Zm rfl<|Ze (X1g rfl rfl (by omega) (by omega))<|Zf (Vc (F91 _ x.p 0 (n-1)) X3n) ?_;rintro _ _ ⟨rfl,rfl⟩;refine Za rfl<|Zt aC fun a b=>?_;refine Q6<|Xq<|X6<|X4 b (Xt b rfl rfl) ?_;exact ⟨by rw [c],l⟩
 have a6:=e
 have g2:=e
 refine Zs b fun _ aD=>?_;refine Ze (X0b rfl rfl)<|Za rfl<|Zt aD fun a b=>?_
 refine Xg b rfl (fun f=>?_) (fun f=>?_)
 ·have a7:=f
  have c:nokI n x=inR x.p 0 7:=by unfold nokI;rw [g0,g1,g2,f];rfl
  refine Zs b fun _ aE=>?_;refine Ze (Vd rfl X06 1)<|Ze (X0 rfl X9 (g.at 1))<|Zf (Vc (F91 _ x.p 0 7) X3n) ?_;rintro _ _ ⟨rfl,rfl⟩;refine Za rfl<|Zt aE fun a b=>?_;refine Q6<|Xq<|X6<|X4 b (Xt b rfl rfl) ?_;exact ⟨by rw [c],l⟩
 have a7:=f
 have c:nokI n x=false:=by unfold nokI;rw [g0,g1,g2,f];rfl
 refine Q7<|Xa<|aI _ _<|Zs b fun _ aF=>?_;refine Za rfl<|Zt aF fun a b=>?_
 refine Q6 (X4 b (Xt b rfl rfl) ?_)
 exact ⟨by rw [c],l⟩
theorem Xoc(w0:World)(Al:Option Addr)(cl:Nat)(l:List Int)(a8:Rd w0 w0.heap.size 3 encI Al l)(aM:l.length≤1000000000) : Ret Tryz.prog 149 [.slice Al l.length cl] w0 (fun v w=>v=vi (orI l)∧w0=w):=by
 have f:w0=w0:=rfl
 refine enter Tryz.func149 rfl 18 rfl rfl ?_;intro a b
 have hW:=bz w0
 refine Zs b fun _ aG=>?_;refine Za rfl<|Zx aG fun a b _ aH=>?_;refine Za rfl<|ZX aH fun a b _ aI=>?_;refine Zs b fun _ aJ=>?_;refine Zm rfl<|Ze (X0d rfl Xl)<|Zm rfl<|Zt aJ fun a b=>?_;refine Q8<|X01 (σ:=Nat) (fun (k:Nat) (a:Act) (w:World)=>Fr a 18 [(3,vi 0),(6,.slice Al l.length cl),(7,vi (l.length:Int)),(8,vi (k:Int))]∧(k≤l.length)∧(∀ x ∈ l.take k,x=0)∧w0=w∧Below w0.heap.size w0 w) (fun (k:Nat)=>l.length-k) 0 ?_ ?_
 ·exact ⟨b.sb,(Qf _),(by simp),f,hW⟩
 rintro k a w1 ⟨b,hk,e,f,hW⟩;refine Zs b fun _ aK=>?_;refine Ze (X0l rfl rfl)<|ZX aK fun a b _ aL=>?_
 refine Xg b rfl (fun c=>?_) (fun c=>?_)
 ·have aA:=c;have c:=Q2 c
  obtain ⟨u9,i⟩:=X5 (l:=l) (k:=k) (by omega)
  obtain ⟨u9,i⟩:=X5 (l:=l) (k:=k) (by have:=c;omega)
  refine Q7<|aL _ _<|Q5 fun _ aB=>?_;refine Q8<|Zs b fun _ aC=>?_;refine Zi (k:=k) (u:=u9) (enc:=encI) (l:=l) trivial rfl rfl Xl X08 Xf (a8.below' hW) i rfl ?_;intro aN a6;refine Ze (X0 rfl X9 a6)<|Za rfl<|Zx aC fun a b _ aD=>?_;refine Zm rfl<|Zm rfl<|Ze (X1j rfl rfl)<|Zt aD fun a b=>?_
  refine Xg b rfl (fun d=>?_) (fun d=>?_)
  ·have a7:=d
   have g:orI l=u9:=Xoo e i (by simpa using d)
   refine Zs b fun _ aE=>?_;refine Zm rfl<|Za rfl<|Zt aE fun a b=>?_;refine Q6<|Xq<|X6<|X6 ?_;refine Xq<|X6<|X4 b (Xt b rfl rfl) ?_;exact ⟨by rw [g],f⟩
  have a7:=d
  have aO:u9=0:=by have h9:=d;simpa using h9
  refine Q7<|Xa<|aB _ _<|Zr b ?_;refine Ze (Xw rfl rfl (by omega) (by omega))<|Zm rfl ?_;refine Zn fun a b=>?_;refine Xh ?_;exact ⟨k+1,⟨b.sb,(by omega),(fun x hx=>by rw [Qt,i] at hx;rcases Qu.1 hx with hx|hx;exact e x hx;simp at hx;omega),f,hW⟩,(by omega)⟩
 have aA:=c;have c:=Q1 c
 have g:orI l=0:=Xw7 (by rw [Qi (by have:=c;omega)] at e;exact e)
 refine Q9<|Xk<|Xk<|X03 ?_;refine aI _ _<|Zs b fun _ aF=>?_;refine Zm rfl<|Za rfl<|Zt aF fun a b=>?_
 refine Q6 (X4 b (Xt b rfl rfl) ?_)
 exact ⟨by rw [g],f⟩
theorem Xt0(w0:World)(x:Wr)(y:Wr) : Ret Tryz.prog 101 [.agg #[vi x.a,vi x.b,.bool x.h],.agg #[vi y.a,vi y.b,.bool y.h]] w0 (fun v w=>v=vi (cmW x y)∧Below w0.heap.size w0 w):=by
 refine enter Tryz.func101 rfl 17 rfl rfl ?_;intro a hf
 have d:=bz w0
 refine Zs hf fun _ a8=>?_;refine Zf (X0c (zs:=[vi x.a,vi x.b,.bool x.h]) rfl rfl) ?_;rintro _ w1 ⟨b2,rfl,aA,e,c⟩;have aE:=Q0 d.size aA;have d:=btr d e;refine Zf (X0c (zs:=[vi y.a,vi y.b,.bool y.h]) rfl rfl) ?_;rintro _ w2 ⟨b3,rfl,aB,e,f⟩
 have a7:b2≠b3:=by have:=c.lt;omega
 have aF:=Q0 d.size aB;have c:=c.below e;have d:=btr d e;refine Za rfl<|ZX a8 fun a hf _ aC=>?_;refine X05 none (fun _=>false) mixed ?_;intro w3 e;have c:=c.below e;have f:=f.below e;have d:=btr d e;refine Yb hf<|Yo 0 rfl (fun _=>Vd rfl X0q 0)<|Ye 1 rfl (X0 rfl X9 (c.at 0))<|Yo 2 rfl (fun _=>Vd rfl X0q 0)<|Ye 3 rfl (X0 rfl X9 (f.at 0))<|Yo 5 rfl (fun _=>Vd rfl X0u 1)<|Ye 6 rfl (X0 rfl X9 (c.at 1))<|Yo 7 rfl (fun _=>Vd rfl X0u 1)<|Ye 8 rfl (X0 rfl X9 (f.at 1))<|Y1 4 ?_;refine Yz rfl trivial (Vc (Xer _ x.a y.a) X7p) ?_;refine Y1 9<|Yz rfl trivial (Vc (Xer _ x.b y.b) X7p) ?_;refine Y1 10<|Yk rfl trivial (Xm (k:=2) (vs:=[vi (cmI x.a y.a),vi (cmI x.b y.b)]) (zs:=[vi (cmI x.a y.a),vi (cmI x.b y.b)]) rfl Xl X1q rfl rfl) (fun _ _ ⟨_,_,_,h,_⟩=>h) ?_;rintro _ w4 ⟨b5,rfl,aD,e,a6⟩;have aG:=Q0 d.size aD;have d:=btr d e;refine Y1 11<|Yz rfl trivial (Vc (Xoc _ (some ⟨b5,0,none⟩) 2 ([cmI x.a y.a,cmI x.b y.b]) (Rd.of_blk a6 rfl _ a6.lt) (by simp)) Xfk) ?_;refine Yo 12 rfl (fun _=>X11 rfl) ?_;refine Yd fun a hf=>?_;refine aC _ _ ?_
 refine Q6 (X4 hf (Xt hf rfl rfl) ?_)
 exact ⟨by rw [Xpp],d⟩
theorem Xdz(b:World)(d:Dg)(md:Nat)(a6:md=d.ns.length)(Ad:Option Addr)(cd:Nat)(a7:Rd b b.heap.size 81 encNd Ad d.ns)(Bd:Option Addr)(dd:Nat)(aD:Rd b b.heap.size 83 encWr Bd d.ws)(aE:d.ws.length≤dd)(p:Int)(q:Int)(hN:md≤1000000000) : Ret Tryz.prog 117 [.agg #[vi d.n,.slice Ad md cd,.slice Bd d.ws.length dd,vi d.t,vi d.r],vi p,vi q] b (fun v w=>v=vi (fnI d.ns ⟨p,q⟩)∧Below b.heap.size b w):=by
 subst a6
 refine enter Tryz.func117 rfl 13 rfl rfl ?_;intro a hf
 have hW:=bz b
 refine Zs hf fun _ a8=>?_;refine Zf (X0c (zs:=[vi d.n,.slice Ad d.ns.length cd,.slice Bd d.ws.length dd,vi d.t,vi d.r]) rfl rfl) ?_;rintro _ w1 ⟨b4,rfl,aA,hE,aB⟩;have aF:=Q0 hW.size aA;have hW:=btr hW hE;refine Za rfl<|Zx a8 fun a hf _ aC=>?_;refine Ze (Vd rfl Xj 1)<|Ze (X0 rfl X00 (aB.at 1))<|Zm rfl<|Zm rfl<|Ze (X0w (ps:=[(0,vi p),(1,vi q)]) (cs:=[vi p,vi q]) rfl (fun _=>by first|rfl|kernel_rfl))<|Zf (Vc (Xtc _ Ad cd d.ns (a7.below' hW).top (⟨p,q⟩ : Nd) hN) Xmk) ?_;rintro _ w2 ⟨rfl,hE⟩;have hW:=btr hW hE;refine Za rfl<|Zt aC fun a hf=>?_
 refine Q6 (X4 hf (Xt hf rfl rfl) ?_)
 exact ⟨rfl,hW⟩
theorem Xwt(I:World)(d:Dg)(md:Nat)(J:md=d.ns.length)(Ad:Option Addr)(cd:Nat)(E:Rd I I.heap.size 81 encNd Ad d.ns)(Bd:Option Addr)(dd:Nat)(N:Rd I I.heap.size 83 encWr Bd d.ws)(o:d.ws.length≤dd)(hN:md≤1000)(hn:1≤d.n∧d.n≤1000) : Ret Tryz.prog 100 [.agg #[vi d.n,.slice Ad md cd,.slice Bd d.ws.length dd,vi d.t,vi d.r]] I (fun v w=>v=.bool (heD d)∧Below I.heap.size I w):=by
 refine enter Tryz.func100 rfl 46 rfl rfl ?_;intro a b
 have x:=bz I
 refine Zs b fun _ aQ=>?_;refine Zf (X0c (zs:=[vi d.n,.slice Ad md cd,.slice Bd d.ws.length dd,vi d.t,vi d.r]) rfl rfl) ?_;rintro _ w1 ⟨b4,rfl,aR,G,f⟩;have b2:=Q0 x.size aR;have x:=btr x G;refine Za rfl<|Zx aQ fun a b _ aS=>?_;refine Za rfl<|ZX aS fun a b _ aT=>?_;refine Zs b fun _ aU=>?_;refine Ze (Vd rfl Xj 1)<|Ze (X0 rfl X00 (f.at 1))<|Ze (X0d rfl Xs)<|Zm rfl<|Zt aU fun a b=>?_;refine Q8<|X01 (σ:=Nat×Int) (fun (s:Nat×Int) (a:Act) (w:World)=>match s with|(k,c)=>Fr a 46 [(1,.pointer (some ⟨b4,0,none⟩)),(3,vi c),(8,.slice Ad md cd),(9,vi (md:Int)),(10,vi (k:Int))]∧(k≤d.ns.length)∧(c=bnI (d.ns.take k))∧Blk w b4 39 [vi d.n,.slice Ad md cd,.slice Bd d.ws.length dd,vi d.t,vi d.r]∧d.ws.length≤dd∧Below I.heap.size I w) (fun (s:Nat×Int)=>match s with|(k,c)=>d.ns.length-k) (0,0) ?_ ?_
 ·exact ⟨b.sb,(Qf _),rfl,f,o,x⟩
 rintro ⟨k,c⟩ a w2 ⟨b,hk,hc,f,o,x⟩;have aW:=Xu2 d.ns k
 rw [← hc] at aW
 refine Zs b fun _ aX=>?_;refine Ze (X0l rfl rfl)<|ZX aX fun a b _ aY=>?_
 refine Xg b rfl (fun y=>?_) (fun y=>?_)
 ·have m:=y;have y:=Q2 y
  obtain ⟨u9,a6⟩:=X5 (l:=d.ns) (k:=k) (by have:=y;omega)
  refine Q7<|aY _ _<|Q5 fun _ Q=>?_;refine Q8<|Zs b fun _ aD=>?_;refine Zj (k:=k) (u:=u9) (enc:=encNd) (l:=d.ns) trivial rfl J rfl Xs X07 Xv (E.below' x) a6 (by omega) ?_;intro b3 a7;refine Ze (X04 (l:=[vi u9.k,vi u9.p]) rfl X2s a7 rfl)<|Zf (Xu (zs:=[vi 0,vi 0]) X6w rfl) ?_;rintro _ w3 ⟨b5,rfl,U,G,B⟩;have a8:=Q0 x.size U;have aE:=(E.below' x).away U;have f:=f.below G;have x:=btr x G;refine Zo (Vw [vi u9.k,vi u9.p] X07 B) ?_;rintro _ w4 ⟨ho,hb⟩;have aF:=B;have f:=f.only ho (Blk.ne f aF rfl);have x:=Below.only x ho a8;have B:=hb;refine ZX aD fun a b _ aG=>?_;refine X0a (fun a w=>Fr a 46 [(1,.pointer (some ⟨b4,0,none⟩)),(3,vi c),(8,.slice Ad md cd),(9,vi (md:Int)),(10,vi (k:Int)),(21,.bool ((u9.k==1)||(u9.k==2)))]∧w4=w) ?_ ?_
  ·refine Zr b<|Ze (Vd rfl X13 0)<|Ze (X0 rfl X9 (B.at 0))<|Ze (X0b rfl rfl)<|Zm rfl ?_
   refine Zg 17 rfl (fun g=>?_) (fun g=>?_)
   ·refine Zp (gP g) ?_;refine Zp (gP g) ?_;refine Zp (gP g) ?_;refine Ze (X7 rfl g rfl) ?_;refine Zn fun a b=>?_;exact ⟨b.sub ⟨rfl,rfl,rfl,rfl,rfl,X1 rfl (by first|rfl|(simp only [m,g,bs];done)|simp [m,g]),trivial⟩,rfl⟩
   refine Zv (gW g) (Vd rfl X13 0) ?_;refine Zv (gW g) (X0 rfl X9 (B.at 0)) ?_;refine Zv (gW g) (X0b rfl rfl) ?_;refine Ze (Xe rfl g rfl) ?_;refine Zn fun a b=>?_;exact ⟨b.sub ⟨rfl,rfl,rfl,rfl,rfl,X1 rfl (by first|rfl|(simp only [m,g,bs];done)|simp [m,g]),trivial⟩,rfl⟩
  rintro a _ ⟨b,rfl⟩;refine aG _ _ ?_
  refine Xg b rfl (fun C=>?_) (fun C=>?_)
  ·have aA:=C;have L:=Xy7 a6 C
   rw [← hc] at L
   refine Zr b<|Zm rfl<|Ze (Xw rfl rfl (by omega) (by omega))<|Za rfl ?_;refine Zn fun a b=>?_;refine Xa<|Q _ _<|Zr b<|Ze (Xw rfl rfl (by omega) (by omega))<|Zm rfl ?_;refine Zn fun a b=>?_;refine Xh ?_;exact ⟨(k+1,c+1),⟨b.sb,(by omega),(by rw [L]),f,o,x⟩,(by first|omega|(dsimp only;omega))⟩
  have aA:=C;have L:=Xxg a6 C
  rw [← hc] at L
  refine Q7<|Xa<|Q _ _<|Zr b ?_;refine Ze (Xw rfl rfl (by omega) (by omega))<|Zm rfl ?_;refine Zn fun a b=>?_;refine Xh ?_;exact ⟨(k+1,c),⟨b.sb,(by omega),(by rw [L]),f,o,x⟩,(by first|omega|(dsimp only;omega))⟩
 have m:=y;have y:=Q1 y
 have aZ:c=bnI d.ns:=by rw [hc,Qi (by have:=y;omega)]
 refine Q9<|Xk<|Xk<|X03 ?_;refine aT _ _<|Q5 fun _ aH=>?_;refine Zs b fun _ aI=>?_;refine Ze (Vd rfl X2b 0)<|Ze (X0 rfl X9 (f.at 0))<|Zm rfl<|Zt aI fun a b=>?_;refine Q8<|X01 (σ:=Nat) (fun (j:Nat) (a:Act) (w:World)=>Fr a 46 [(1,.pointer (some ⟨b4,0,none⟩)),(3,vi c),(26,vi d.n),(27,vi (j:Int))]∧((j:Int)≤d.n)∧(∀ i:Nat,i<j→heQ d i=true)∧Blk w b4 39 [vi d.n,.slice Ad md cd,.slice Bd d.ws.length dd,vi d.t,vi d.r]∧d.ws.length≤dd∧Below I.heap.size I w) (fun (j:Nat)=>d.n.toNat-j) 0 ?_ ?_
 ·exact ⟨b.sb,(by omega),(fun i hi=>by omega),f,o,x⟩
 rintro j a w5 ⟨b,hj,W,f,o,x⟩;refine Zs b fun _ aJ=>?_;refine Ze (X0l rfl rfl)<|ZX aJ fun a b _ aK=>?_
 refine Xg b rfl (fun h=>?_) (fun h=>?_)
 ·have A:=h;have h:=Q2 h;have b6:=h;refine Q7<|aK _ _<|Q5 fun _ aL=>?_;refine Q8<|Zs b fun _ aM=>?_;refine Zm rfl<|Za rfl<|ZX aM fun a b _ aN=>?_;refine X0a (fun a w=>Fr a 46 [(1,.pointer (some ⟨b4,0,none⟩)),(3,vi c),(26,vi d.n),(27,vi (j:Int)),(39,.bool ((decide ((fnI d.ns ⟨1,(j:Int)⟩)<0))||(decide ((fnI d.ns ⟨2,(j:Int)⟩)<0))))]∧Below w5.heap.size w5 w) ?_ ?_
  ·have H:Below w5.heap.size w5 w5:=Below.refl _ _
   refine Zr b<|Ze (Vn X2 f)<|Zm rfl<|Zf (Vc (Xdz _ d md J Ad cd (E.below' x).top Bd dd (N.below' x).top o 1 (j:Int) (by omega)) X7o) ?_;rintro _ w6 ⟨rfl,G⟩;have f:=f.below G;have x:=btr x G;have H:=btr H G;refine Ze (X0l rfl rfl)<|Zm rfl ?_
   refine Zg 34 rfl (fun e=>?_) (fun e=>?_)
   ·refine Zp (gP e) ?_;refine Zp (gP e) ?_;refine Zp (gP e) ?_;refine Zp (gP e) ?_;refine Ze (X7 rfl e rfl) ?_;refine Zn fun a b=>?_
    have aB:Below w5.heap.size w5 w6:=H
    exact ⟨b.sub ⟨rfl,rfl,rfl,rfl,X1 rfl (by first|rfl|(simp only [m,A,e,bs];done)|simp [m,A,e]),trivial⟩,aB⟩
   refine Zv (gW e) (Vn X2 f) ?_;refine Zv (gW e) (X3 rfl) ?_;refine Zk (gW e) (Vc (Xdz _ d md J Ad cd (E.below' x).top Bd dd (N.below' x).top o 2 (j:Int) (by omega)) X7o) ?_;rintro _ w7 ⟨rfl,G⟩;have x:=btr x G;have H:=btr H G;refine Zv (gW e) (X0l rfl rfl) ?_;refine Ze (Xe rfl e rfl) ?_;refine Zn fun a b=>?_
   have aB:Below w5.heap.size w5 w7:=H
   exact ⟨b.sub ⟨rfl,rfl,rfl,rfl,X1 rfl (by first|rfl|(simp only [m,A,e,bs];done)|simp [m,A,e]),trivial⟩,aB⟩
  rintro a w8 ⟨b,G⟩;have f:=f.below G;have x:=btr x G;refine aN _ _ ?_
  refine Xg b rfl (fun D=>?_) (fun D=>?_)
  ·have aC:=D
   have M:heD d=false:=by unfold heD;rw [X4k (q:=heQ d) (k:=j) (by omega) (by unfold heQ;rw [D];rfl),Bool.false_and]
   refine Zs b fun _ aO=>?_;refine Za rfl<|Zt aO fun a b=>?_;refine Q6<|Xq<|X6<|X6 ?_;refine Xq<|X6<|X4 b (Xt b rfl rfl) ?_;exact ⟨by rw [M],x⟩
  have aC:=D
  have b0:heQ d j=true:=by unfold heQ;rw [D];rfl
  refine Q7<|Xa<|aL _ _<|Zr b ?_;refine Ze (Xw rfl rfl (by omega) (by omega))<|Zm rfl ?_;refine Zn fun a b=>?_;refine Xh ?_;exact ⟨j+1,⟨b.sb,(by omega),(fun i hi=>by by_cases h9:i=j;rw [h9];exact b0;exact W i (by omega)),f,o,x⟩,(by omega)⟩
 have A:=h;have h:=Q1 h
 have b1:(List.range d.n.toNat).all (heQ d)=true:=X3y fun i hi=>W i (by have:=h;omega)
 have M:heD d=(c==2*d.n):=by unfold heD;rw [b1,Qw,aZ]
 refine Q9<|Xk<|Xk<|X03 ?_;refine aH _ _<|Zs b fun _ aP=>?_;refine Zm rfl<|Ze (Vd rfl X2b 0)<|Ze (X0 rfl X9 (f.at 0))<|Ze (Xco rfl rfl (by omega) (by omega))<|Ze (X0b rfl rfl)<|Za rfl<|Zt aP fun a b=>?_
 refine Q6 (X4 b (Xt b rfl rfl) ?_)
 exact ⟨by rw [M],x⟩
theorem Xva(w0:World)(x:Nd)(n:Int)(ba:Nat)(v1 v2 v3 v4:Value)(b:Blk w0 ba 39 [vi n,v1,v2,v3,v4])(hn:1≤n∧n≤1000) : Ret Tryz.prog 98 [.agg #[vi x.k,vi x.p],.pointer (some ⟨ba,0,none⟩)] w0 (fun v w=>v=.bool (!nokI n x)∧Below w0.heap.size w0 w):=by
 have a6:=b.lt;refine enter Tryz.func98 rfl 9 rfl rfl ?_;intro a hf
 have hW:=bz w0
 refine Zs hf fun _ a7=>?_;refine Zf (X0c (zs:=[vi x.k,vi x.p]) rfl rfl) ?_;rintro _ w1 ⟨b2,rfl,a8,hE,aA⟩;have aC:=Q0 hW.size a8;have b:=b.below hE;have hW:=btr hW hE;refine Za rfl<|Zx a7 fun a hf _ aB=>?_;refine Ze (Vd rfl X2b 0)<|Ze (X0 rfl X9 (b.at 0))<|Ze (Vn X2s aA)<|Zf (Vc (Xuk _ n x hn) Xl4) ?_;rintro _ w2 ⟨rfl,hE⟩;have hW:=btr hW hE;refine Ze (X0y rfl)<|Za rfl<|Zt aB fun a hf=>?_
 refine Q6 (X4 hf (Xt hf rfl rfl) ?_)
 exact ⟨rfl,hW⟩
theorem Xvm(b:World)(Al:Option Addr)(cl:Nat)(l:List Nd)(a6:Rd b b.heap.size 81 encNd Al l)(kq:FuncId)(pq:List Value)(Fq:FuncF Tryz.prog kq)(q:Nd→Bool)(hq:∀ x w,Below b.heap.size b w→Ret Tryz.prog kq ([ndV x]++pq) w (fun v w'=>v=.bool (q x)∧Below w.heap.size w w'))(a7:l.length≤1000000000) : Ret Tryz.prog 97 [.slice Al l.length cl,.func (.func kq) #[] pq.toArray] b (fun v w=>v=.bool (l.any q)∧Below b.heap.size b w):=by
 refine enter Tryz.func97 rfl 9 rfl rfl ?_;intro a hf
 have hW:=bz b
 refine Zs hf fun _ a8=>?_;refine Za rfl<|Zx a8 fun a hf _ aA=>?_;refine Zm rfl<|Zm rfl<|Zf (Vc (Xwb _ Al cl l (a6.below' hW).top kq pq Fq q (fun x w' hE'=>hq x w' (hW.trans (hE'.mono hW.size))) a7) Xn5) ?_;rintro _ w1 ⟨rfl,hE⟩;have hW:=btr hW hE;refine Ze (X4g rfl rfl)<|Za rfl<|Zt aA fun a hf=>?_
 refine Q6 (X4 hf (Xt hf rfl rfl) ?_)
 exact ⟨by rw [Xf2],hW⟩
theorem Xoh(w0:World)(d:Dg)(md:Nat)(b1:md=d.ns.length)(Ad:Option Addr)(cd:Nat)(aB:Rd w0 w0.heap.size 81 encNd Ad d.ns)(Bd:Option Addr)(dd:Nat)(aC:Rd w0 w0.heap.size 83 encWr Bd d.ws)(a7:d.ws.length≤dd)(aJ:d.ws.length≤1000000000) : Ret Tryz.prog 50 [.agg #[vi d.n,.slice Ad md cd,.slice Bd d.ws.length dd,vi d.t,vi d.r]] w0 (fun v w=>v=.bool (ivD d)∧Below w0.heap.size w0 w):=by
 subst b1
 refine enter Tryz.func50 rfl 116 rfl rfl ?_;intro a m
 have D:=bz w0
 refine Zs m fun _ bU=>?_;refine Zf (X0c (zs:=[vi d.n,.slice Ad d.ns.length cd,.slice Bd d.ws.length dd,vi d.t,vi d.r]) rfl rfl) ?_;rintro _ w1 ⟨b4,rfl,bW,I,g⟩;have cB:=Q0 D.size bW;have D:=btr D I;refine Za rfl<|ZX bU fun a m _ bX=>?_;refine Q5 fun _ bY=>?_;refine X0a (fun a w=>Fr a 116 [(1,.pointer (some ⟨b4,0,none⟩)),(39,.bool (!(inR d.n 1 5)||decide (40<(d.ns.length:Int))||!(inR d.t 0 7)||!(inR d.r (-60) 60)||(d.ns.any fun x=>!nokI d.n x)||!(heD d)))]∧Below w1.heap.size w1 w) ?_ ?_
 ·have q:Below w1.heap.size w1 w1:=Below.refl _ _
  refine Zr m<|Ze (Vd rfl X2b 0)<|Ze (X0 rfl X9 (g.at 0))<|Zf (Vc (F91 _ d.n 1 5) X3n) ?_;rintro _ _ ⟨rfl,rfl⟩;refine Ze (X0y rfl)<|Zm rfl ?_
  refine Zg 11 rfl (fun J=>?_) (fun J=>?_)
  ·refine Zp (gP J) ?_;refine Zp (gP J) ?_;refine Zp (gP J) ?_;refine Zp (gP J) ?_;refine Ze (X7 rfl J rfl)<|Zm rfl<|Zp (gP rfl) ?_;refine Zp (gP rfl) ?_;refine Zp (gP rfl) ?_;refine Zp (gP rfl) ?_;refine Ze (X7 rfl rfl rfl)<|Zm rfl<|Zp (gP rfl) ?_;refine Zp (gP rfl) ?_;refine Zp (gP rfl) ?_;refine Zp (gP rfl) ?_;refine Ze (X7 rfl rfl rfl)<|Zm rfl<|Zp (gP rfl) ?_;refine Zp (gP rfl) ?_;refine Zp (gP rfl) ?_;refine Zp (gP rfl) ?_;refine Ze (X7 rfl rfl rfl)<|Zm rfl<|Zp (gP rfl) ?_;refine Zp (gP rfl) ?_;refine Zp (gP rfl) ?_;refine Ze (X7 rfl rfl rfl) ?_;refine Zn fun a m=>?_
   have A:Below w1.heap.size w1 w1:=q
   exact ⟨m.sub ⟨rfl,X1 rfl (by first|rfl|(simp only [J,bs];done)|simp [J]),trivial⟩,A⟩
  have c4:1≤d.n∧d.n≤5:=X0f.1 (by have h8:=J;simpa using h8)
  refine Zv (gW J) (Vd rfl Xj 1) ?_;refine Zv (gW J) (X0 rfl X00 (g.at 1)) ?_;refine Zv (gW J) (X0d rfl Xs) ?_;refine Zv (gW J) (X6o rfl rfl) ?_;refine Ze (Xe rfl J rfl)<|Zm rfl ?_
  refine Zg 17 rfl (fun U=>?_) (fun U=>?_)
  ·refine Zp (gP U) ?_;refine Zp (gP U) ?_;refine Zp (gP U) ?_;refine Zp (gP U) ?_;refine Ze (X7 rfl U rfl)<|Zm rfl<|Zp (gP rfl) ?_;refine Zp (gP rfl) ?_;refine Zp (gP rfl) ?_;refine Zp (gP rfl) ?_;refine Ze (X7 rfl rfl rfl)<|Zm rfl<|Zp (gP rfl) ?_;refine Zp (gP rfl) ?_;refine Zp (gP rfl) ?_;refine Zp (gP rfl) ?_;refine Ze (X7 rfl rfl rfl)<|Zm rfl<|Zp (gP rfl) ?_;refine Zp (gP rfl) ?_;refine Zp (gP rfl) ?_;refine Ze (X7 rfl rfl rfl) ?_;refine Zn fun a m=>?_
   have A:Below w1.heap.size w1 w1:=q
   exact ⟨m.sub ⟨rfl,X1 rfl (by first|rfl|(simp only [J,U,bs];done)|simp [J,U]),trivial⟩,A⟩
  have b2:d.ns.length≤40:=by have h8:=U;simp at h8;omega
  refine Zv (gW U) (Vd rfl X0t 3) ?_;refine Zv (gW U) (X0 rfl X9 (g.at 3)) ?_;refine Zk (gW U) (Vc (F91 _ d.t 0 7) X3n) ?_;rintro _ _ ⟨rfl,rfl⟩;refine Zv (gW U) (X0y rfl) ?_;refine Ze (Xe rfl U rfl)<|Zm rfl ?_
  refine Zg 23 rfl (fun a6=>?_) (fun a6=>?_)
  ·refine Zp (gP a6) ?_;refine Zp (gP a6) ?_;refine Zp (gP a6) ?_;refine Zp (gP a6) ?_;refine Ze (X7 rfl a6 rfl)<|Zm rfl<|Zp (gP rfl) ?_;refine Zp (gP rfl) ?_;refine Zp (gP rfl) ?_;refine Zp (gP rfl) ?_;refine Ze (X7 rfl rfl rfl)<|Zm rfl<|Zp (gP rfl) ?_;refine Zp (gP rfl) ?_;refine Zp (gP rfl) ?_;refine Ze (X7 rfl rfl rfl) ?_;refine Zn fun a m=>?_
   have A:Below w1.heap.size w1 w1:=q
   exact ⟨m.sub ⟨rfl,X1 rfl (by first|rfl|(simp only [J,U,a6,bs];done)|simp [J,U,a6]),trivial⟩,A⟩
  refine Zv (gW a6) (Vd rfl X02 4) ?_;refine Zv (gW a6) (X0 rfl X9 (g.at 4)) ?_;refine Zk (gW a6) (Vc (F91 _ d.r (-60) 60) X3n) ?_;rintro _ _ ⟨rfl,rfl⟩;refine Zv (gW a6) (X0y rfl) ?_;refine Ze (Xe rfl a6 rfl)<|Zm rfl ?_
  refine Zg 29 rfl (fun H=>?_) (fun H=>?_)
  ·refine Zp (gP H) ?_;refine Zp (gP H) ?_;refine Zp (gP H) ?_;refine Zp (gP H) ?_;refine Ze (X7 rfl H rfl)<|Zm rfl<|Zp (gP rfl) ?_;refine Zp (gP rfl) ?_;refine Zp (gP rfl) ?_;refine Ze (X7 rfl rfl rfl) ?_;refine Zn fun a m=>?_
   have A:Below w1.heap.size w1 w1:=q
   exact ⟨m.sub ⟨rfl,X1 rfl (by first|rfl|(simp only [J,U,a6,H,bs];done)|simp [J,U,a6,H]),trivial⟩,A⟩
  refine Zv (gW H) (Vd rfl Xj 1) ?_;refine Zv (gW H) (X0 rfl X00 (g.at 1)) ?_;refine Zv (gW H) (X3j (vs:=[.pointer (some ⟨b4,0,none⟩)]) rfl) ?_;refine Zk (gW H) (Vc (Xvm _ Ad cd d.ns (aB.below' D).top 98 [.pointer (some ⟨b4,0,none⟩)] Xnh (fun x=>!nokI d.n x) (fun x w' hE'=>Xva w' x d.n _ _ _ _ _ (g.below hE') ⟨by omega,by omega⟩) (by omega)) Xl8) ?_;rintro _ w2 ⟨rfl,I⟩;have g:=g.below I;have D:=btr D I;have q:=btr q I;refine Ze (Xe rfl H rfl)<|Zm rfl ?_
  refine Zg 35 rfl (fun W=>?_) (fun W=>?_)
  ·refine Zp (gP W) ?_;refine Zp (gP W) ?_;refine Zp (gP W) ?_;refine Ze (X7 rfl W rfl) ?_;refine Zn fun a m=>?_
   have A:Below w1.heap.size w1 w2:=q
   exact ⟨m.sub ⟨rfl,X1 rfl (by first|rfl|(simp only [J,U,a6,H,W,bs];done)|simp [J,U,a6,H,W]),trivial⟩,A⟩
  refine Zv (gW W) (Vn X2 g) ?_;refine Zk (gW W) (Vc (Xwt _ d d.ns.length rfl Ad cd (aB.below' D).top Bd dd (aC.below' D).top a7 (by omega) ⟨by omega,by omega⟩) Xn1) ?_;rintro _ w3 ⟨rfl,I⟩;have D:=btr D I;have q:=btr q I;refine Zv (gW W) (X0y rfl) ?_;refine Ze (Xe rfl W rfl) ?_;refine Zn fun a m=>?_
  have A:Below w1.heap.size w1 w3:=q
  exact ⟨m.sub ⟨rfl,X1 rfl (by first|rfl|(simp only [J,U,a6,H,W,bs];done)|simp [J,U,a6,H,W]),trivial⟩,A⟩
 rintro a w4 ⟨m,I⟩;have g:=g.below I;have D:=btr D I;refine bY _ _ ?_
 refine Xg m rfl (fun aG=>?_) (fun aG=>?_)
 ·have c:=aG
  have aF:ivD d=false:=Xxn aG
  refine Zs m fun _ b3=>?_;refine Za rfl<|Zt b3 fun a m=>?_;refine Q6<|X6<|X4 m (Xt m rfl rfl) ?_;exact ⟨by rw [aF],D⟩
 have c:=aG;have b5:=aG;have b6:=b5
 simp only [Bool.or_eq_false_iff,decide_eq_false_iff_not,Bool.not_eq_false'] at b6
 have c4:=X0f.1 b6.1.1.1.1.1
 have b2:d.ns.length≤40:=by omega
 refine Q7<|bX _ _<|Q5 fun _ b7=>?_;refine Zs m fun _ b8=>?_;refine Ze (Vd rfl Xr 2)<|Ze (X0 rfl X0j (g.at 2))<|Ze (X0d rfl Xx)<|Zm rfl<|Zt b8 fun a m=>?_;refine Q8<|X01 (σ:=Nat) (fun (k:Nat) (a:Act) (w:World)=>Fr a 116 [(1,.pointer (some ⟨b4,0,none⟩)),(41,.slice Bd d.ws.length dd),(42,vi (d.ws.length:Int)),(43,vi (k:Int))]∧(k≤d.ws.length)∧(∀ i:Nat,i<k→wvQ d i=true)∧Blk w b4 39 [vi d.n,.slice Ad d.ns.length cd,.slice Bd d.ws.length dd,vi d.t,vi d.r]∧d.ws.length≤dd∧Below w0.heap.size w0 w) (fun (k:Nat)=>d.ws.length-k) 0 ?_ ?_
 ·exact ⟨m.sb,(Qf _),(fun i hi=>by omega),g,a7,D⟩
 rintro k a w5 ⟨m,hk,aL,g,a7,D⟩;refine Zs m fun _ b9=>?_;refine Ze (X0l rfl rfl)<|ZX b9 fun a m _ bA=>?_
 refine Xg m rfl (fun aD=>?_) (fun aD=>?_)
 ·have e:=aD;have aD:=Q2 aD
  obtain ⟨cE,cC⟩:=X5 (l:=d.ws) (k:=k) (by omega)
  obtain ⟨u9,aP⟩:=X5 (l:=d.ws) (k:=k) (by have:=aD;omega)
  have c5:=(Qg.1 aP).1;have bB:=Xp7 aP;refine Q7<|bA _ _<|Q5 fun _ bC=>?_;refine Q8<|Zs m fun _ bD=>?_;refine Zm rfl<|Zi (k:=k) (u:=u9) (enc:=encWr) (l:=d.ws) trivial rfl rfl Xx X0e Xy (aC.below' D) aP rfl ?_;intro cF aQ;refine Ze (X04 (l:=[vi u9.a,vi u9.b,.bool u9.h]) rfl X1i aQ rfl)<|Zf (Xu (zs:=[vi 0,vi 0,.bool false]) X2y rfl) ?_;rintro _ w6 ⟨cG,rfl,aM,I,a8⟩;have aR:=Q0 D.size aM;have bE:=(aC.below' D).away aM;have g:=g.below I;have D:=btr D I;refine Za rfl<|Zo (Vw [vi u9.a,vi u9.b,.bool u9.h] X0e a8) ?_;rintro _ w7 ⟨ho,hb⟩;have aK:=a8;have g:=g.only ho (Blk.ne g aK rfl);have D:=Below.only D ho aR;have a8:=hb;refine ZX bD fun a m _ bF=>?_;refine X0a (fun a w=>Fr a 116 [(1,.pointer (some ⟨b4,0,none⟩)),(41,.slice Bd d.ws.length dd),(42,vi (d.ws.length:Int)),(43,vi (k:Int)),(80,.bool (decide (u9.a<0)||decide (u9.b≤u9.a)||decide ((d.ns.length:Int)≤u9.b)||(decide (0<(k:Int))&&decide (0≤cmW (d.ws.getD (k-1) wZ) u9))))]∧Below w7.heap.size w7 w) ?_ ?_
  ·have q:Below w7.heap.size w7 w7:=Below.refl _ _
   refine X05 none (fun _=>false) mixed ?_;intro w8 I;have g:=g.below I;have a8:=a8.below I;have D:=btr D I;have q:=btr q I;refine Yb m<|Yo 0 rfl (fun _=>Vd rfl X0q 0)<|Ye 1 rfl (X0 rfl X9 (a8.at 0))<|Yo 2 rfl (fun _=>X0l rfl rfl)<|Yo 3 rfl (fun _=>X3 rfl) ?_
   refine Yl 51 rfl (fun B=>?_) (fun B=>?_)
   ·refine Yp 4 rfl (gP B) ?_;refine Yp 5 rfl (gP B) ?_;refine Yp 6 rfl (gP B) ?_;refine Yp 7 rfl (gP B) ?_;refine Yp 8 rfl (gP B) ?_;refine Yo 9 rfl (fun _=>X7 rfl B rfl)<|Yo 10 rfl (fun _=>X3 rfl)<|Yp 11 rfl (gP rfl) ?_;refine Yp 12 rfl (gP rfl) ?_;refine Yp 13 rfl (gP rfl) ?_;refine Yp 14 rfl (gP rfl) ?_;refine Yp 15 rfl (gP rfl) ?_;refine Yp 16 rfl (gP rfl) ?_;refine Yo 17 rfl (fun _=>X7 rfl rfl rfl)<|Yo 18 rfl (fun _=>X3 rfl)<|Yp 19 rfl (gP rfl) ?_;refine Yp 20 rfl (gP rfl) ?_;refine Yp 21 rfl (gP rfl) ?_;refine Yp 22 rfl (gP trivial) ?_;refine Yp 23 rfl (gP trivial) ?_;refine Yp 24 rfl (gP trivial) ?_;refine Yp 25 rfl (gP trivial) ?_;refine Yp 26 rfl (gP trivial) ?_;refine Yp 27 rfl (gP trivial) ?_;refine Yp 28 rfl (gP trivial) ?_;refine Y1 29<|Yq rfl ⟨_,_,rfl,rfl,trivial⟩ ?_;refine Yp 30 rfl (gP trivial) ?_;refine Yp 31 rfl (gP rfl) ?_;refine Yo 32 rfl (fun _=>X7 rfl rfl rfl) ?_;refine Yd fun a m=>?_
    have A:Below w7.heap.size w7 w8:=q
    exact ⟨m.sub ⟨rfl,rfl,rfl,rfl,X1 rfl (by first|rfl|(simp only [c,e,B,bs];done)|simp [c,e,B]),trivial⟩,A⟩
   refine Yu 4 rfl (gW B) (fun _=>Vd rfl X0q 0) ?_;refine Yv 5 rfl (gW B) (X0 rfl X9 (a8.at 0)) ?_;refine Yu 6 rfl (gW B) (fun _=>Vd rfl X0u 1) ?_;refine Yv 7 rfl (gW B) (X0 rfl X9 (a8.at 1)) ?_;refine Yu 8 rfl (gW B) (fun _=>X4g rfl rfl) ?_;refine Yo 9 rfl (fun _=>Xe rfl B rfl)<|Yo 10 rfl (fun _=>X3 rfl) ?_
   refine Yl 58 rfl (fun C=>?_) (fun C=>?_)
   ·refine Yp 11 rfl (gP C) ?_;refine Yp 12 rfl (gP C) ?_;refine Yp 13 rfl (gP C) ?_;refine Yp 14 rfl (gP C) ?_;refine Yp 15 rfl (gP C) ?_;refine Yp 16 rfl (gP C) ?_;refine Yo 17 rfl (fun _=>X7 rfl C rfl)<|Yo 18 rfl (fun _=>X3 rfl)<|Yp 19 rfl (gP rfl) ?_;refine Yp 20 rfl (gP rfl) ?_;refine Yp 21 rfl (gP rfl) ?_;refine Yp 22 rfl (gP trivial) ?_;refine Yp 23 rfl (gP trivial) ?_;refine Yp 24 rfl (gP trivial) ?_;refine Yp 25 rfl (gP trivial) ?_;refine Yp 26 rfl (gP trivial) ?_;refine Yp 27 rfl (gP trivial) ?_;refine Yp 28 rfl (gP trivial) ?_;refine Y1 29<|Yq rfl ⟨_,_,rfl,rfl,trivial⟩ ?_;refine Yp 30 rfl (gP trivial) ?_;refine Yp 31 rfl (gP rfl) ?_;refine Yo 32 rfl (fun _=>X7 rfl rfl rfl) ?_;refine Yd fun a m=>?_
    have A:Below w7.heap.size w7 w8:=q
    exact ⟨m.sub ⟨rfl,rfl,rfl,rfl,X1 rfl (by first|rfl|(simp only [c,e,B,C,bs];done)|simp [c,e,B,C]),trivial⟩,A⟩
   refine Yu 11 rfl (gW C) (fun _=>Vd rfl X0u 1) ?_;refine Yv 12 rfl (gW C) (X0 rfl X9 (a8.at 1)) ?_;refine Yu 13 rfl (gW C) (fun _=>Vd rfl Xj 1) ?_;refine Yv 14 rfl (gW C) (X0 rfl X00 (g.at 1)) ?_;refine Yu 15 rfl (gW C) (fun _=>X0d rfl Xs) ?_;refine Yu 16 rfl (gW C) (fun _=>X4g rfl rfl) ?_;refine Yo 17 rfl (fun _=>Xe rfl C rfl)<|Yo 18 rfl (fun _=>X3 rfl) ?_
   refine Yl 66 rfl (fun G=>?_) (fun G=>?_)
   ·refine Yp 19 rfl (gP G) ?_;refine Yp 20 rfl (gP G) ?_;refine Yp 21 rfl (gP G) ?_;refine Yp 22 rfl (gP trivial) ?_;refine Yp 23 rfl (gP trivial) ?_;refine Yp 24 rfl (gP trivial) ?_;refine Yp 25 rfl (gP trivial) ?_;refine Yp 26 rfl (gP trivial) ?_;refine Yp 27 rfl (gP trivial) ?_;refine Yp 28 rfl (gP trivial) ?_;refine Y1 29<|Yq rfl ⟨_,_,rfl,rfl,trivial⟩ ?_;refine Yp 30 rfl (gP trivial) ?_;refine Yp 31 rfl (gP G) ?_;refine Yo 32 rfl (fun _=>X7 rfl G rfl) ?_;refine Yd fun a m=>?_
    have A:Below w7.heap.size w7 w8:=q
    exact ⟨m.sub ⟨rfl,rfl,rfl,rfl,X1 rfl (by first|rfl|(simp only [c,e,B,C,G,bs];done)|simp [c,e,B,C,G]),trivial⟩,A⟩
   refine Yu 19 rfl (gW G) (fun _=>X3 rfl) ?_;refine Yu 20 rfl (gW G) (fun _=>X6o rfl rfl) ?_;refine Yu 21 rfl (gW G) (fun _=>X3 rfl) ?_
   refine Yl 69 rfl (fun o=>?_) (fun o=>?_)
   ·have cH:0<k:=by have h8:=o;simpa using h8
    refine Yu 22 rfl (gW o) (fun _=>Vd rfl Xr 2) ?_;refine Yv 23 rfl (gW o) (X0 rfl X0j (g.at 2)) ?_;refine Yu 24 rfl (gW o) (fun _=>X3 rfl) ?_;refine Yu 25 rfl (gW o) (fun _=>X1g rfl rfl (by omega) (by omega)) ?_;refine Yi (k:=(k-1)) (u:=(d.ws.getD (k-1) wZ)) (enc:=encWr) (l:=d.ws) 26 rfl ⟨_,_,rfl,rfl,o⟩ rfl rfl Xx X0e Xy (aC.below' D) (Xb (by omega)) (by omega) ?_;intro cJ aS;refine Yv 27 rfl (gW o) (X04 (l:=[vi ((d.ws.getD (k-1) wZ).a),vi ((d.ws.getD (k-1) wZ).b),.bool ((d.ws.getD (k-1) wZ).h)]) rfl X1i aS rfl) ?_;refine Yv 28 rfl (gW o) (Vn X1i a8) ?_;refine Y1 29<|Yk rfl ⟨_,_,rfl,rfl,o⟩ (Vc (Xt0 _ (d.ws.getD (k-1) wZ) u9) Xmh) (fun _ _ ⟨_,I⟩=>I) ?_;rintro _ w9 ⟨rfl,I⟩;have D:=btr D I;have q:=btr q I;refine Yu 30 rfl (gW o) (fun _=>X4g rfl rfl) ?_;refine Yu 31 rfl (gW G) (fun _=>X7 rfl o rfl) ?_;refine Yo 32 rfl (fun _=>Xe rfl G rfl) ?_;refine Yd fun a m=>?_
    have A:Below w7.heap.size w7 w9:=q
    exact ⟨m.sub ⟨rfl,rfl,rfl,rfl,X1 rfl (by first|rfl|(simp only [c,e,B,C,G,o,bs];done)|simp [c,e,B,C,G,o]),trivial⟩,A⟩
   refine Yp 22 rfl (gP o) ?_;refine Yp 23 rfl (gP o) ?_;refine Yp 24 rfl (gP o) ?_;refine Yp 25 rfl (gP o) ?_;refine Yp 26 rfl (gP o) ?_;refine Yp 27 rfl (gP o) ?_;refine Yp 28 rfl (gP o) ?_;refine Y1 29<|Yq rfl ⟨_,_,rfl,rfl,o⟩ ?_;refine Yp 30 rfl (gP o) ?_;refine Yu 31 rfl (gW G) (fun _=>Xe rfl o rfl) ?_;refine Yo 32 rfl (fun _=>Xe rfl G rfl) ?_;refine Yd fun a m=>?_
   have A:Below w7.heap.size w7 w8:=q
   exact ⟨m.sub ⟨rfl,rfl,rfl,rfl,X1 rfl (by first|rfl|(simp only [c,e,B,C,G,o,bs];done)|simp [c,e,B,C,G,o]),trivial⟩,A⟩
  rintro a cK ⟨m,I⟩;have g:=g.below I;have D:=btr D I;refine bF _ _ ?_
  refine Xg m rfl (fun aH=>?_) (fun aH=>?_)
  ·have aT:=aH
   have aF:ivD d=false:=Xy9 c5 (by rw [bB,aH];rfl)
   refine Zs m fun _ bG=>?_;refine Za rfl<|Zt bG fun a m=>?_;refine Q6<|Xq<|X6<|X6 ?_;refine Xq<|X6<|X4 m (Xt m rfl rfl) ?_;exact ⟨by rw [aF],D⟩
  have aT:=aH
  have aU:wvQ d k=true:=by rw [bB,aH];rfl
  refine Q7<|Xa<|bC _ _<|Zr m ?_;refine Ze (Xw rfl rfl (by omega) (by omega))<|Zm rfl ?_;refine Zn fun a m=>?_;refine Xh ?_;exact ⟨k+1,⟨m.sb,(by omega),(fun i hi=>by by_cases h9:i=k;rw [h9];exact aU;exact aL i (by omega)),g,a7,D⟩,(by omega)⟩
 have e:=aD;have aD:=Q1 aD
 have aW:∀ i,i<d.ws.length→wvQ d i=true:=fun i hi=>aL i (by have:=aD;omega)
 refine Q9<|Xk<|Xk<|X03 ?_;refine b7 _ _<|Q5 fun _ bH=>?_;refine Zs m fun _ bJ=>?_;refine Ze (Vd rfl Xj 1)<|Ze (X0 rfl X00 (g.at 1))<|Ze (X0d rfl Xs)<|Zm rfl<|Zt bJ fun a m=>?_;refine Q8<|X01 (σ:=Nat) (fun (j:Nat) (a:Act) (w:World)=>Fr a 116 [(1,.pointer (some ⟨b4,0,none⟩)),(83,.slice Ad d.ns.length cd),(84,vi (d.ns.length:Int)),(85,vi (j:Int))]∧(j≤d.ns.length)∧(∀ i:Nat,i<j→nvQ d i=true)∧Blk w b4 39 [vi d.n,.slice Ad d.ns.length cd,.slice Bd d.ws.length dd,vi d.t,vi d.r]∧d.ws.length≤dd∧Below w0.heap.size w0 w) (fun (j:Nat)=>d.ns.length-j) 0 ?_ ?_
 ·exact ⟨m.sb,(Qf _),(fun i hi=>by omega),g,a7,D⟩
 rintro j a cL ⟨m,hj,aN,g,a7,D⟩;refine Zs m fun _ bK=>?_;refine Ze (X0l rfl rfl)<|ZX bK fun a m _ bL=>?_
 refine Xg m rfl (fun aE=>?_) (fun aE=>?_)
 ·have E:=aE;have aE:=Q2 aE
  obtain ⟨cM,cD⟩:=X5 (l:=d.ns) (k:=j) (by omega)
  obtain ⟨v9,aX⟩:=X5 (l:=d.ns) (k:=j) (by have:=aE;omega)
  have cA:=(Qg.1 aX).1;have bM:=Xnw aX;refine Q7<|bL _ _<|Q5 fun _ bN=>?_;refine Q8<|Zs m fun _ bO=>?_;refine Zm rfl<|Zi (k:=j) (u:=v9) (enc:=encNd) (l:=d.ns) trivial rfl rfl Xs X07 Xv (aB.below' D) aX rfl ?_;intro cN aY;refine Ze (X04 (l:=[vi v9.k,vi v9.p]) rfl X2s aY rfl)<|Zf (Xu (zs:=[vi 0,vi 0]) X6w rfl) ?_;rintro _ cO ⟨cP,rfl,aO,I,aA⟩;have aZ:=Q0 D.size aO;have bP:=(aB.below' D).away aO;have g:=g.below I;have D:=btr D I;refine Za rfl<|Zo (Vw [vi v9.k,vi v9.p] X07 aA) ?_;rintro _ w13 ⟨ho,hb⟩;have aK:=aA;have g:=g.only ho (Blk.ne g aK rfl);have D:=Below.only D ho aZ;have aA:=hb;refine ZX bO fun a m _ bR=>?_;refine X0a (fun a w=>Fr a 116 [(1,.pointer (some ⟨b4,0,none⟩)),(83,.slice Ad d.ns.length cd),(84,vi (d.ns.length:Int)),(85,vi (j:Int)),(114,.bool ((v9.k==0&&cnW d.ws (j:Int) != 0)||((v9.k==1||v9.k==2)&&cnW d.ws (j:Int) != 1)))]∧Below w13.heap.size w13 w) ?_ ?_
  ·have q:Below w13.heap.size w13 w13:=Below.refl _ _
   refine Zr m<|Ze (Vd rfl X13 0)<|Ze (X0 rfl X9 (aA.at 0))<|Ze (X0b rfl rfl)<|Zm rfl ?_
   refine Zg 93 rfl (fun y=>?_) (fun y=>?_)
   ·refine Zv (gW y) (Vn X2 g) ?_;refine Zv (gW y) (X3 rfl) ?_;refine Zk (gW y) (Vc (X83 _ d d.ns.length rfl Ad cd (aB.below' D).top Bd dd (aC.below' D).top a7 (j:Int) aJ) X4q) ?_;rintro _ w14 ⟨rfl,I⟩;have g:=g.below I;have aA:=aA.below I;have D:=btr D I;have q:=btr q I;refine Zv (gW y) (X1j rfl rfl) ?_;refine Ze (X7 rfl y rfl)<|Zm rfl ?_
    refine Zg 99 rfl (fun f=>?_) (fun f=>?_)
    ·refine Zp (gP f) ?_;refine Zp (gP f) ?_;refine Zp (gP f) ?_;refine Zp (gP f) ?_;refine Zp (gP trivial) ?_;refine Zp (gP trivial) ?_;refine Zp (gP trivial) ?_;refine Zp (gP f) ?_;refine Zp (gP f) ?_;refine Zp (gP trivial) ?_;refine Zp (gP trivial) ?_;refine Zp (gP trivial) ?_;refine Zp (gP trivial) ?_;refine Zp (gP f) ?_;refine Ze (X7 rfl f rfl) ?_;refine Zn fun a m=>?_
     have A:Below w13.heap.size w13 w14:=q
     exact ⟨m.sub ⟨rfl,rfl,rfl,rfl,X1 rfl (by first|rfl|(simp only [c,e,E,y,f,bs];done)|simp [c,e,E,y,f]),trivial⟩,A⟩
    refine Zv (gW f) (Vd rfl X13 0) ?_;refine Zv (gW f) (X0 rfl X9 (aA.at 0)) ?_;refine Zv (gW f) (X0b rfl rfl) ?_;refine Zv (gW f) (X3 rfl) ?_
    refine Zg 103 rfl (fun L=>?_) (fun L=>?_)
    ·refine Zp (gP L) ?_;refine Zp (gP L) ?_;refine Zp (gP L) ?_;refine Zv (gW f) (X7 rfl L rfl) ?_;refine Zv (gW f) (X3 rfl) ?_;refine Zv (gW rfl) (Vn X2 g) ?_;refine Zv (gW rfl) (X3 rfl) ?_;refine Zk (gW rfl) (Vc (X83 _ d d.ns.length rfl Ad cd (aB.below' D).top Bd dd (aC.below' D).top a7 (j:Int) aJ) X4q) ?_;rintro _ w15 ⟨rfl,I⟩;have D:=btr D I;have q:=btr q I;refine Zv (gW rfl) (X1j rfl rfl) ?_;refine Zv (gW f) (X7 rfl rfl rfl) ?_;refine Ze (Xe rfl f rfl) ?_;refine Zn fun a m=>?_
     have A:Below w13.heap.size w13 w15:=q
     exact ⟨m.sub ⟨rfl,rfl,rfl,rfl,X1 rfl (by first|rfl|(simp only [c,e,E,y,f,L,bs];done)|simp [c,e,E,y,f,L]),trivial⟩,A⟩
    refine Zv (gW L) (Vd rfl X13 0) ?_;refine Zv (gW L) (X0 rfl X9 (aA.at 0)) ?_;refine Zv (gW L) (X0b rfl rfl) ?_;refine Zv (gW f) (Xe rfl L rfl) ?_;refine Zv (gW f) (X3 rfl) ?_
    refine Zg 108 rfl (fun M=>?_) (fun M=>?_)
    ·refine Zv (gW M) (Vn X2 g) ?_;refine Zv (gW M) (X3 rfl) ?_;refine Zk (gW M) (Vc (X83 _ d d.ns.length rfl Ad cd (aB.below' D).top Bd dd (aC.below' D).top a7 (j:Int) aJ) X4q) ?_;rintro _ w16 ⟨rfl,I⟩;have D:=btr D I;have q:=btr q I;refine Zv (gW M) (X1j rfl rfl) ?_;refine Zv (gW f) (X7 rfl M rfl) ?_;refine Ze (Xe rfl f rfl) ?_;refine Zn fun a m=>?_
     have A:Below w13.heap.size w13 w16:=q
     exact ⟨m.sub ⟨rfl,rfl,rfl,rfl,X1 rfl (by first|rfl|(simp only [c,e,E,y,f,L,M,bs];done)|simp [c,e,E,y,f,L,M]),trivial⟩,A⟩
    refine Zp (gP M) ?_;refine Zp (gP M) ?_;refine Zp (gP M) ?_;refine Zp (gP M) ?_;refine Zv (gW f) (Xe rfl M rfl) ?_;refine Ze (Xe rfl f rfl) ?_;refine Zn fun a m=>?_
    have A:Below w13.heap.size w13 w14:=q
    exact ⟨m.sub ⟨rfl,rfl,rfl,rfl,X1 rfl (by first|rfl|(simp only [c,e,E,y,f,L,M,bs];done)|simp [c,e,E,y,f,L,M]),trivial⟩,A⟩
   refine Zp (gP y) ?_;refine Zp (gP y) ?_;refine Zp (gP y) ?_;refine Zp (gP y) ?_;refine Ze (Xe rfl y rfl)<|Zm rfl<|Zv (gW rfl) (Vd rfl X13 0) ?_;refine Zv (gW rfl) (X0 rfl X9 (aA.at 0)) ?_;refine Zv (gW rfl) (X0b rfl rfl) ?_;refine Zv (gW rfl) (X3 rfl) ?_
   refine Zg 103 rfl (fun N=>?_) (fun N=>?_)
   ·refine Zp (gP N) ?_;refine Zp (gP N) ?_;refine Zp (gP N) ?_;refine Zv (gW rfl) (X7 rfl N rfl) ?_;refine Zv (gW rfl) (X3 rfl) ?_;refine Zv (gW rfl) (Vn X2 g) ?_;refine Zv (gW rfl) (X3 rfl) ?_;refine Zk (gW rfl) (Vc (X83 _ d d.ns.length rfl Ad cd (aB.below' D).top Bd dd (aC.below' D).top a7 (j:Int) aJ) X4q) ?_;rintro _ w17 ⟨rfl,I⟩;have D:=btr D I;have q:=btr q I;refine Zv (gW rfl) (X1j rfl rfl) ?_;refine Zv (gW rfl) (X7 rfl rfl rfl) ?_;refine Ze (Xe rfl rfl rfl) ?_;refine Zn fun a m=>?_
    have A:Below w13.heap.size w13 w17:=q
    exact ⟨m.sub ⟨rfl,rfl,rfl,rfl,X1 rfl (by first|rfl|(simp only [c,e,E,y,N,bs];done)|simp [c,e,E,y,N]),trivial⟩,A⟩
   refine Zv (gW N) (Vd rfl X13 0) ?_;refine Zv (gW N) (X0 rfl X9 (aA.at 0)) ?_;refine Zv (gW N) (X0b rfl rfl) ?_;refine Zv (gW rfl) (Xe rfl N rfl) ?_;refine Zv (gW rfl) (X3 rfl) ?_
   refine Zg 108 rfl (fun Q=>?_) (fun Q=>?_)
   ·refine Zv (gW Q) (Vn X2 g) ?_;refine Zv (gW Q) (X3 rfl) ?_;refine Zk (gW Q) (Vc (X83 _ d d.ns.length rfl Ad cd (aB.below' D).top Bd dd (aC.below' D).top a7 (j:Int) aJ) X4q) ?_;rintro _ w18 ⟨rfl,I⟩;have D:=btr D I;have q:=btr q I;refine Zv (gW Q) (X1j rfl rfl) ?_;refine Zv (gW rfl) (X7 rfl Q rfl) ?_;refine Ze (Xe rfl rfl rfl) ?_;refine Zn fun a m=>?_
    have A:Below w13.heap.size w13 w18:=q
    exact ⟨m.sub ⟨rfl,rfl,rfl,rfl,X1 rfl (by first|rfl|(simp only [c,e,E,y,N,Q,bs];done)|simp [c,e,E,y,N,Q]),trivial⟩,A⟩
   refine Zp (gP Q) ?_;refine Zp (gP Q) ?_;refine Zp (gP Q) ?_;refine Zp (gP Q) ?_;refine Zv (gW rfl) (Xe rfl Q rfl) ?_;refine Ze (Xe rfl rfl rfl) ?_;refine Zn fun a m=>?_
   have A:Below w13.heap.size w13 w13:=q
   exact ⟨m.sub ⟨rfl,rfl,rfl,rfl,X1 rfl (by first|rfl|(simp only [c,e,E,y,N,Q,bs];done)|simp [c,e,E,y,N,Q]),trivial⟩,A⟩
  rintro a cQ ⟨m,I⟩;have g:=g.below I;have D:=btr D I;refine bR _ _ ?_
  refine Xg m rfl (fun aI=>?_) (fun aI=>?_)
  ·have b0:=aI
   have aF:ivD d=false:=Xx5 cA (by rw [bM,aI];rfl)
   refine Zs m fun _ bS=>?_;refine Za rfl<|Zt bS fun a m=>?_;refine Q6<|Xq<|X6<|X6 ?_;refine Xq<|X6<|X4 m (Xt m rfl rfl) ?_;exact ⟨by rw [aF],D⟩
  have b0:=aI
  have aU:nvQ d j=true:=by rw [bM,aI];rfl
  refine Q7<|Xa<|bN _ _<|Zr m ?_;refine Ze (Xw rfl rfl (by omega) (by omega))<|Zm rfl ?_;refine Zn fun a m=>?_;refine Xh ?_;exact ⟨j+1,⟨m.sb,(by omega),(fun i hi=>by by_cases h9:i=j;rw [h9];exact aU;exact aN i (by omega)),g,a7,D⟩,(by omega)⟩
 have E:=aE;have aE:=Q1 aE
 have aF:ivD d=true:=Xxw b5 aW fun i hi=>aN i (by have:=aE;omega)
 refine Q9<|Xk<|Xk<|X03 ?_;refine bH _ _<|Zs m fun _ bT=>?_;refine Za rfl<|Zt bT fun a m=>?_
 refine Q6 (X4 m (Xt m rfl rfl) ?_)
 exact ⟨by rw [aF],D⟩
theorem Xix(Q:World)(d:Dg)(md:Nat)(aQ:md=d.ns.length)(Ad:Option Addr)(cd:Nat)(M:Rd Q Q.heap.size 81 encNd Ad d.ns)(Bd:Option Addr)(dd:Nat)(J:Rd Q Q.heap.size 83 encWr Bd d.ws)(U:d.ws.length≤dd)(bA:d.ns.length≤1000000000∧d.ws.length≤1000000000) : Ret Tryz.prog 75 [.agg #[vi d.n,.slice Ad md cd,.slice Bd d.ws.length dd,vi d.t,vi d.r]] Q (fun v w=>∃ A c B e,v=.agg #[vi d.n,.slice A d.ns.length c,.slice B d.ws.length e,vi d.t,vi d.r]∧Own w Q.heap.size 81 2 encNd A c d.ns∧Own w Q.heap.size 83 3 encWr B e d.ws∧Below Q.heap.size Q w):=by
 subst aQ
 refine enter Tryz.func75 rfl 14 rfl rfl ?_;intro a W
 have i:=bz Q
 refine Zs W fun _ b3=>?_;refine Zf (X0c (zs:=[vi d.n,.slice Ad d.ns.length cd,.slice Bd d.ws.length dd,vi d.t,vi d.r]) rfl rfl) ?_;rintro _ w1 ⟨b4,rfl,b5,g,b⟩;have L:=Q0 i.size b5;have i:=btr i g;refine Zf (Xu (zs:=[vi 0,.slice none 0 0,.slice none 0 0,vi 0,vi 0]) X0s rfl) ?_;rintro _ w2 ⟨b7,rfl,b6,g,f⟩
 have b1:b4≠b7:=by have:=b.lt;omega
 have aR:=Q0 i.size b6;have b:=b.below g;have i:=btr i g;refine ZX b3 fun a W _ b8=>?_;refine X0a (fun a w=>∃ E G H I,Fr a 14 [(1,.pointer (some ⟨b4,0,none⟩)),(2,.pointer (some ⟨b7,0,none⟩))]∧Own w Q.heap.size 81 2 encNd E G d.ns∧Own w Q.heap.size 83 3 encWr H I d.ws∧Blk w b4 39 [vi d.n,.slice E d.ns.length G,.slice H d.ws.length I,vi d.t,vi d.r]∧Blk w b7 39 [vi 0,.slice none 0 0,.slice none 0 0,vi 0,vi 0]∧d.ws.length≤dd∧Below Q.heap.size Q w) ?_ ?_
 ·refine X05 none (fun j=>[9,11].contains j) mixed ?_;intro w3 g;have b:=b.below g;have f:=f.below g;have i:=btr i g;refine Yb W<|Yo 1 rfl (fun _=>Vd rfl Xj 1)<|Ye 2 rfl (X0 rfl X00 (b.at 1))<|Yo 5 rfl (fun _=>Vd rfl Xr 2)<|Ye 6 rfl (X0 rfl X0j (b.at 2)) ?_;refine Y2 0 4 ?_ ?_
  ·refine Yk rfl trivial (Xm (k:=0) (vs:=[]) (zs:=[]) rfl Xs X1p rfl rfl) (fun _ _ ⟨_,_,_,h,_⟩=>h) ?_;rintro _ w4 ⟨b9,rfl,aS,g,aC⟩;have aH:=Q0 i.size aS;have b2:=(M.below' i).away aS;have b:=b.below g;have f:=f.below g;have i:=btr i g;refine Y2 3 4 ?_ ?_
   ·refine Yk rfl trivial (X3g (enc:=encNd) (l2:=(d.ns)) rfl rfl Xs X1p Xv X2o aC (M.below' i) (by simp only [maxLen];omega) (by omega)) (fun _ _ ⟨E,G,_,o,g,q⟩=>g) ?_;rintro _ w5 ⟨E,G,rfl,o,g,q⟩;clear q;have o:=o.lower aH;have b:=b.below g;have f:=f.below g;have i:=btr i g;refine Yo 8 rfl (fun _=>Vd rfl Xj 1)<|Y1 4 ?_;refine Yk rfl trivial (Xm (k:=0) (vs:=[]) (zs:=[]) rfl Xx X14 rfl rfl) (fun _ _ ⟨_,_,_,h,_⟩=>h) ?_;rintro _ w6 ⟨bB,rfl,aI,g,aT⟩;have aM:=Q0 i.size aI;have aU:=(J.below' i).away aI;have b:=b.below g;have f:=f.below g;have o:=o.below g;have i:=btr i g;refine Y1 7<|Yk rfl trivial (X3g (enc:=encWr) (l2:=(d.ws)) rfl rfl Xx X14 Xy X1o aT (J.below' i) (by simp only [maxLen];omega) (by omega)) (fun _ _ ⟨H,I,_,p,g,q⟩=>g) ?_;rintro _ w7 ⟨H,I,rfl,p,g,q⟩;clear q;have p:=p.lower aM;have b:=b.below g;have f:=f.below g;have o:=o.below g;have i:=btr i g;refine Y1 9<|Yh rfl trivial rfl (Vu (vs:=[.slice E d.ns.length G]) (l':=[vi d.n,.slice E d.ns.length G,.slice Bd d.ws.length dd,vi d.t,vi d.r]) rfl rfl X3s b) ?_;rintro _ w8 ⟨u,hb⟩;have m:=b;have f:=f.only u (by omega);have o:=o.onlyT u m rfl;have p:=p.onlyT u m rfl;have i:=Below.only i u L;have b:=hb;refine Yo 10 rfl (fun _=>Vd rfl Xr 2)<|Y1 11 ?_;refine Yh rfl trivial rfl (Vu (vs:=[.slice H d.ws.length I]) (l':=[vi d.n,.slice E d.ns.length G,.slice H d.ws.length I,vi d.t,vi d.r]) rfl rfl X1l b) ?_;rintro _ w9 ⟨u,hb⟩;have m:=b;have f:=f.only u (by omega)
    have o:=o.onlyT u m rfl;have p:=p.onlyT u m rfl;have i:=Below.only i u L;have b:=hb;refine Yd fun a W=>?_;exact ⟨E,G,H,I,W.sb,o,p,b,f,U,i⟩
   refine Yk rfl trivial (Xm (k:=0) (vs:=[]) (zs:=[]) rfl Xx X14 rfl rfl) (fun _ _ ⟨_,_,_,h,_⟩=>h) ?_;rintro _ bC ⟨bD,rfl,aJ,g,a6⟩;have aN:=Q0 i.size aJ;have aW:=(J.below' i).away aJ;have b:=b.below g;have f:=f.below g;have aC:=aC.below g;have i:=btr i g;refine Y1 3<|Yk rfl trivial (X3g (enc:=encNd) (l2:=(d.ns)) rfl rfl Xs X1p Xv X2o aC (M.below' i) (by simp only [maxLen];omega) (by omega)) (fun _ _ ⟨a7,a8,_,x,g,q⟩=>g) ?_;rintro _ bE ⟨a7,a8,rfl,x,g,q⟩;clear q;have x:=x.lower aH;have b:=b.below g;have f:=f.below g;have a6:=a6.below g;have i:=btr i g;refine Yo 8 rfl (fun _=>Vd rfl Xj 1)<|Y1 7 ?_;refine Yk rfl trivial (X3g (enc:=encWr) (l2:=(d.ws)) rfl rfl Xx X14 Xy X1o a6 (J.below' i) (by simp only [maxLen];omega) (by omega)) (fun _ _ ⟨aD,aE,_,C,g,q⟩=>g) ?_;rintro _ bF ⟨aD,aE,rfl,C,g,q⟩;clear q;have C:=C.lower aN;have b:=b.below g;have f:=f.below g;have x:=x.below g;have i:=btr i g;refine Y1 9<|Yh rfl trivial rfl (Vu (vs:=[.slice a7 d.ns.length a8]) (l':=[vi d.n,.slice a7 d.ns.length a8,.slice Bd d.ws.length dd,vi d.t,vi d.r]) rfl rfl X3s b) ?_;rintro _ bG ⟨u,hb⟩;have m:=b;have f:=f.only u (by omega);have x:=x.onlyT u m rfl;have C:=C.onlyT u m rfl;have i:=Below.only i u L;have b:=hb;refine Yo 10 rfl (fun _=>Vd rfl Xr 2)<|Y1 11 ?_;refine Yh rfl trivial rfl (Vu (vs:=[.slice aD d.ws.length aE]) (l':=[vi d.n,.slice a7 d.ns.length a8,.slice aD d.ws.length aE,vi d.t,vi d.r]) rfl rfl X1l b) ?_;rintro _ bH ⟨u,hb⟩;have m:=b
   have f:=f.only u (by omega);have x:=x.onlyT u m rfl;have C:=C.onlyT u m rfl;have i:=Below.only i u L;have b:=hb;refine Yd fun a W=>?_;exact ⟨a7,a8,aD,aE,W.sb,x,C,b,f,U,i⟩
  refine Yk rfl trivial (Xm (k:=0) (vs:=[]) (zs:=[]) rfl Xx X14 rfl rfl) (fun _ _ ⟨_,_,_,h,_⟩=>h) ?_;rintro _ bJ ⟨bK,rfl,aK,g,N⟩;have aO:=Q0 i.size aK;have aX:=(J.below' i).away aK;have b:=b.below g;have f:=f.below g;have i:=btr i g;refine Y1 0<|Yk rfl trivial (Xm (k:=0) (vs:=[]) (zs:=[]) rfl Xs X1p rfl rfl) (fun _ _ ⟨_,_,_,h,_⟩=>h) ?_;rintro _ bL ⟨bM,rfl,aL,g,aY⟩;have aP:=Q0 i.size aL;have aZ:=(M.below' i).away aL;have b:=b.below g;have f:=f.below g;have N:=N.below g;have i:=btr i g;refine Y1 3<|Yk rfl trivial (X3g (enc:=encNd) (l2:=(d.ns)) rfl rfl Xs X1p Xv X2o aY (M.below' i) (by simp only [maxLen];omega) (by omega)) (fun _ _ ⟨aA,aB,_,y,g,q⟩=>g) ?_;rintro _ bN ⟨aA,aB,rfl,y,g,q⟩;clear q;have y:=y.lower aP;have b:=b.below g;have f:=f.below g;have N:=N.below g;have i:=btr i g;refine Yo 8 rfl (fun _=>Vd rfl Xj 1)<|Y1 7 ?_;refine Yk rfl trivial (X3g (enc:=encWr) (l2:=(d.ws)) rfl rfl Xx X14 Xy X1o N (J.below' i) (by simp only [maxLen];omega) (by omega)) (fun _ _ ⟨aF,aG,_,D,g,q⟩=>g) ?_;rintro _ bO ⟨aF,aG,rfl,D,g,q⟩;clear q;have D:=D.lower aO;have b:=b.below g;have f:=f.below g;have y:=y.below g;have i:=btr i g;refine Y1 9<|Yh rfl trivial rfl (Vu (vs:=[.slice aA d.ns.length aB]) (l':=[vi d.n,.slice aA d.ns.length aB,.slice Bd d.ws.length dd,vi d.t,vi d.r]) rfl rfl X3s b) ?_;rintro _ bP ⟨u,hb⟩;have m:=b;have f:=f.only u (by omega);have y:=y.onlyT u m rfl;have D:=D.onlyT u m rfl
  have i:=Below.only i u L;have b:=hb;refine Yo 10 rfl (fun _=>Vd rfl Xr 2)<|Y1 11 ?_;refine Yh rfl trivial rfl (Vu (vs:=[.slice aF d.ws.length aG]) (l':=[vi d.n,.slice aA d.ns.length aB,.slice aF d.ws.length aG,vi d.t,vi d.r]) rfl rfl X1l b) ?_;rintro _ bR ⟨u,hb⟩;have m:=b;have f:=f.only u (by omega);have y:=y.onlyT u m rfl;have D:=D.onlyT u m rfl;have i:=Below.only i u L;have b:=hb;refine Yd fun a W=>?_;exact ⟨aA,aB,aF,aG,W.sb,y,D,b,f,U,i⟩
 rintro a bS ⟨E,G,H,I,W,o,p,b,f,U,i⟩;refine b8 _ _<|Zs W fun _ b0=>?_;refine Ze (Vn X2 b)<|Zo (Vw [vi d.n,.slice E d.ns.length G,.slice H d.ws.length I,vi d.t,vi d.r] Xp f) ?_;rintro _ bT ⟨u,hb⟩;have m:=f;have o:=o.onlyT u m rfl;have p:=p.onlyT u m rfl;have i:=Below.only i u aR;have f:=hb;refine Zt b0 fun a W=>?_
 refine Q6 (X4 W (Xt W rfl (ResV.cellN (l:=[vi d.n,.slice E d.ns.length G,.slice H d.ws.length I,vi d.t,vi d.r]) rfl X2 (f.at 0) rfl)) ?_)
 exact ⟨E,G,H,I,rfl,o,p,i⟩
theorem Xod(j:World)(d:Dg)(md:Nat)(a7:md=d.ns.length)(Ad:Option Addr)(cd:Nat)(k:Rd j j.heap.size 81 encNd Ad d.ns)(Bd:Option Addr)(dd:Nat)(m:Rd j j.heap.size 83 encWr Bd d.ws)(o:d.ws.length≤dd)(aD:d.ws.length≤1000000000) : Ret Tryz.prog 77 [.agg #[vi d.n,.slice Ad md cd,.slice Bd d.ws.length dd,vi d.t,vi d.r]] j (fun v w=>∃ A c1 B e,v=.tuple #[.agg #[vi (if (ivD d)=true then d else zD).n,.slice A (if (ivD d)=true then d else zD).ns.length c1,.slice B (if (ivD d)=true then d else zD).ws.length e,vi (if (ivD d)=true then d else zD).t,vi (if (ivD d)=true then d else zD).r],.bool (ivD d)]∧Rd w w.heap.size 81 encNd A (if (ivD d)=true then d else zD).ns∧Rd w w.heap.size 83 encWr B (if (ivD d)=true then d else zD).ws∧(if (ivD d)=true then d else zD).ws.length≤e∧Below j.heap.size j w):=by
 subst a7
 refine enter Tryz.func77 rfl 9 rfl rfl ?_;intro a i
 have c:=bz j
 refine Zs i fun _ aE=>?_;refine Zf (X0c (zs:=[vi d.n,.slice Ad d.ns.length cd,.slice Bd d.ws.length dd,vi d.t,vi d.r]) rfl rfl) ?_;rintro _ w1 ⟨b4,rfl,aF,p,g⟩;have aL:=Q0 c.size aF;have c:=btr c p;refine Zf (Xu (zs:=[vi 0,.slice none 0 0,.slice none 0 0,vi 0,vi 0]) X0s rfl) ?_;rintro _ w2 ⟨b7,rfl,aG,p,b⟩
 have aC:b4≠b7:=by have:=g.lt;omega
 have q:=Q0 c.size aG;have g:=g.below p;have c:=btr c p;refine Za rfl<|ZX aE fun a i _ aH=>?_;refine Zs i fun _ aI=>?_;refine Ze (Vn X2 g)<|Zf (Vc (Xoh _ d d.ns.length rfl Ad cd (k.below' c).top Bd dd (m.below' c).top o aD) Xep) ?_;rintro _ w3 ⟨rfl,p⟩;have g:=g.below p;have b:=b.below p;have c:=btr c p;refine Ze (X0y rfl)<|Zt aI fun a i=>?_
 refine Xg i rfl (fun f=>?_) (fun f=>?_)
 ·have a6:=f
  have aJ:ivD d=false:=by have h8:=f;simpa using h8
  refine Zs i fun _ a8=>?_;refine Ze (X0w (ps:=[]) (cs:=[vi 0,.slice none 0 0,.slice none 0 0,vi 0,vi 0]) rfl (fun _=>by first|rfl|kernel_rfl))<|Zo (Vw [vi 0,.slice none 0 0,.slice none 0 0,vi 0,vi 0] Xp b) ?_;rintro _ w4 ⟨ho,hb⟩;have aA:=b;have c:=Below.only c ho q;have b:=hb;refine Za rfl<|Zt a8 fun a i=>?_;refine Q6<|X6<|X4 i (X17 i rfl (ResV.cellN (l:=[vi 0,.slice none 0 0,.slice none 0 0,vi 0,vi 0]) rfl X2 (b.at 0) rfl) rfl) ?_
  rw [aJ,Q3 Bool.false_ne_true]
  exact ⟨none,0,none,0,rfl,(Rd.nil _ _ _ _ _),(Rd.nil _ _ _ _ _),(Qf _),c⟩
 have a6:=f
 have aK:ivD d=true:=by have h8:=f;simpa using h8
 refine Q7<|aH _ _<|Zs i fun _ aB=>?_;refine Ze (Vn X2 g)<|Zo (Vw [vi d.n,.slice Ad d.ns.length cd,.slice Bd d.ws.length dd,vi d.t,vi d.r] Xp b) ?_;rintro _ w5 ⟨ho,hb⟩;have aA:=b;have c:=Below.only c ho q;have b:=hb;refine Za rfl<|Zt aB fun a i=>?_
 refine Q6 (X4 i (X17 i rfl (ResV.cellN (l:=[vi d.n,.slice Ad d.ns.length cd,.slice Bd d.ws.length dd,vi d.t,vi d.r]) rfl X2 (b.at 0) rfl) rfl) ?_)
 rw [aK,Q4 rfl]
 exact ⟨Ad,cd,Bd,dd,rfl,(k.below' c).top,(m.below' c).top,o,c⟩
theorem Xws(j:World)(d:Dg)(md:Nat)(aE:md=d.ns.length)(Ad:Option Addr)(cd:Nat)(E:Rd j j.heap.size 81 encNd Ad d.ns)(Bd:Option Addr)(dd:Nat)(b2:Rd j j.heap.size 83 encWr Bd d.ws)(o:d.ws.length≤dd)(hN:md≤1000) : Ret Tryz.prog 69 [.agg #[vi d.n,.slice Ad md cd,.slice Bd d.ws.length dd,vi d.t,vi d.r]] j (fun v w=>∃ A c,v=.slice A (spL d.ns).length c∧Own w j.heap.size 3 1 encI A c (spL d.ns)∧Below j.heap.size j w):=by
 refine enter Tryz.func69 rfl 24 rfl rfl ?_;intro a f
 have g:=bz j
 refine Zs f fun _ aR=>?_;refine Zf (X0c (zs:=[vi d.n,.slice Ad md cd,.slice Bd d.ws.length dd,vi d.t,vi d.r]) rfl rfl) ?_;rintro _ w1 ⟨b4,rfl,aS,D,a6⟩;have b3:=Q0 g.size aS;have g:=btr g D;refine Za rfl<|Zx aR fun a f _ aT=>?_;refine Zf (Xm (k:=0) (vs:=[]) (zs:=[]) rfl Xl X1q rfl rfl) ?_;rintro _ w2 ⟨b7,rfl,aU,D,aW⟩;have aF:=Q0 g.size aU;have a6:=a6.below D;have g:=btr g D;refine Za rfl<|ZX aT fun a f _ aX=>?_;refine Zs f fun _ aG=>?_;refine Ze (Vd rfl Xj 1)<|Ze (X0 rfl X00 (a6.at 1))<|Ze (X0d rfl Xs)<|Zm rfl<|Zt aG fun a f=>?_;refine Q8<|X01 (σ:=Nat×(List Int)) (fun (s:Nat×(List Int)) (a:Act) (w:World)=>match s with|(k,m)=>∃ y h,Fr a 24 [(3,.slice y m.length h),(8,.slice Ad md cd),(9,vi (md:Int)),(10,vi (k:Int))]∧(k≤d.ns.length)∧(m=spK d.ns k)∧Own w j.heap.size 3 1 encI y h m∧d.ws.length≤dd∧Below j.heap.size j w) (fun (s:Nat×(List Int))=>match s with|(k,m)=>d.ns.length-k) (0,[]) ?_ ?_
 ·exact ⟨some ⟨b7,0,none⟩,0,f.sb,(Qf _),rfl,(Own.empty aW aF),o,g⟩
 rintro ⟨k,m⟩ a w3 ⟨y,h,f,hk,hm,b,o,g⟩;have aY:=X7b d.ns k
 rw [← hm] at aY
 refine Zs f fun _ aH=>?_;refine Ze (X0l rfl rfl)<|ZX aH fun a f _ aI=>?_
 refine Xg f rfl (fun e=>?_) (fun e=>?_)
 ·have a7:=e;have e:=Q2 e
  obtain ⟨u9,a8⟩:=X5 (l:=d.ns) (k:=k) (by have:=e;omega)
  refine Q7<|aI _ _<|Q5 fun _ G=>?_;refine Q8<|Zs f fun _ aJ=>?_;refine Zm rfl<|Zj (k:=k) (u:=u9) (enc:=encNd) (l:=d.ns) trivial rfl aE rfl Xs X07 Xv (E.below' g) a8 (by omega) ?_;intro b5 aA;refine Ze (X04 (l:=[vi u9.k,vi u9.p]) rfl X2s aA rfl)<|Zf (Xu (zs:=[vi 0,vi 0]) X6w rfl) ?_;rintro _ w4 ⟨b6,rfl,H,D,q⟩;have aB:=Q0 g.size H;have aK:=(E.below' g).away H;have b:=b.below D;have g:=btr g D;refine Za rfl<|Zo (Vw [vi u9.k,vi u9.p] X07 q) ?_;rintro _ w5 ⟨ho,hb⟩;have aL:=q;have b:=b.onlyT ho aL rfl;have g:=Below.only g ho aB;have q:=hb;refine Zx aJ fun a f _ aM=>?_;refine Ze (Vd rfl X13 0)<|Ze (X0 rfl X9 (q.at 0))<|Ze (X0b rfl rfl)<|Zt aM fun a f=>?_
  refine Xg f rfl (fun i=>?_) (fun i=>?_)
  ·have aC:=i;have B:=Xov a8 i
   rw [← hm] at B
   refine Zr f<|Zm rfl<|Zm rfl<|Zf (Xm (k:=1) (vs:=[vi (k:Int)]) (zs:=[vi (k:Int)]) rfl Xl X1q rfl rfl) ?_;rintro _ w6 ⟨b8,rfl,I,D,C⟩;have aZ:=Q0 g.size I;have x:=b.away I;have b:=b.below D;have g:=btr g D;refine Zf (X0m (enc:=encI) (l:=(m)) (l2:=([(k:Int)])) (B0:=j.heap.size) rfl rfl Xl X1q Xf X25 b (Rd.of_blk C rfl _ C.lt) (by simp only [maxLen];simp;omega) (by simp;omega) g.size) ?_;rintro _ w7 ⟨b0,b1,rfl,aN,hg,aO⟩
   have J:Own _ j.heap.size 3 1 encI _ _ (m):=b
   have aD:=aO _ C.lt x;clear aO;have g:=Below.app g J hg (Qb _) g.size;clear J hg;refine Za rfl ?_;refine Zn fun a f=>?_;refine Xa<|G _ _<|Zr f<|Ze (Xw rfl rfl (by omega) (by omega))<|Zm rfl ?_;refine Zn fun a f=>?_;refine Xh ?_;exact ⟨(k+1,m++([(k:Int)])),⟨b0,b1,f.sb,(by omega),(by rw [B]),aN,o,g⟩,(by first|omega|(dsimp only;omega))⟩
  have aC:=i;have B:=Xo3 a8 i
  rw [← hm] at B
  refine Q7<|Xa<|G _ _<|Zr f ?_;refine Ze (Xw rfl rfl (by omega) (by omega))<|Zm rfl ?_;refine Zn fun a f=>?_;refine Xh ?_;exact ⟨(k+1,m),⟨y,h,f.sb,(by omega),(by rw [B]),b,o,g⟩,(by first|omega|(dsimp only;omega))⟩
 have a7:=e;have e:=Q1 e
 have aP:m=spL d.ns:=by rw [hm,show k=d.ns.length by have:=e;omega];rfl
 refine Q9<|Xk<|Xk<|X03 ?_;refine aX _ _<|Zs f fun _ aQ=>?_;refine Zm rfl<|Za rfl<|Zt aQ fun a f=>?_
 refine Q6 (X4 f (Xt f rfl rfl) ?_)
 rw [← aP]
 exact ⟨y,h,rfl,b,g⟩
theorem Xn4{l:List Int}(h:l.Pairwise (·≤·)) : sortI l=l:=by
 unfold sortI
 exact List.mergeSort_of_pairwise (h.imp fun h=>by simpa using h)
theorem Xrv{l:List Int}(h:Inc l) : l.Pairwise (·≤·):=List.Pairwise.imp (fun h=>Int.le_of_lt h) h
theorem Xgj{ws:List Wr}(h:InW ws)(k:Int) : sortI (nearW ws k)=nearW ws k:=Xn4 (Xrv (X3p h))
theorem Xry{α:Type}{l:List α}{q:α→Bool}{k:Nat}{u:α}(h:(l.take k).any q=false)(hu:l[k]? = some u)(hq:q u=false) : (l.take (k+1)).any q=false:=by
 rw [Qt,hu,Option.toList_some,List.any_append,h,List.any_cons,hq]
 rfl
theorem Xl2{α:Type}{l:List α}{q:α→Bool}{k:Nat}(h:(l.take k).any q=false)(hk:l.length≤k) : l.any q=false:=by rwa [Qi hk] at h
theorem Xnb{α:Type}{l:List α}{q:α→Bool}{k:Nat}{u:α}(hu:l[k]? = some u)(hq:q u=true) : l.any q=true:=List.any_eq_true.2 ⟨u,Qe hu,hq⟩
def prQ(d:Dg)(l:List Int)(i:Nat) : Bool:=(l.take i).any fun y=>tyW d.ws (l.getD i 0) y==1
def prD(d:Dg)(l:List Int) : Bool:=(List.range l.length).any (prQ d l)
theorem Xpw{d:Dg}{l:List Int}(h:∀ j,j<l.length→prQ d l j=false) : prD d l=false:=W7.2 fun j hj=>by rw [h j (W2.1 hj)];decide
theorem Xn9{d:Dg}{l:List Int}{k:Nat}(hk:k<l.length)(h:prQ d l k=true) : prD d l=true:=List.any_eq_true.2 ⟨k,W2.2 hk,h⟩
theorem X9b(q:World)(d:Dg)(md:Nat)(bG:md=d.ns.length)(Ad:Option Addr)(cd:Nat)(bH:Rd q q.heap.size 81 encNd Ad d.ns)(Bd:Option Addr)(dd:Nat)(a6:Rd q q.heap.size 83 encWr Bd d.ws)(x:d.ws.length≤dd)(p:Int)(hI:InW d.ws)(bL:d.ws.length≤1000000000) : Ret Tryz.prog 151 [.agg #[vi d.n,.slice Ad md cd,.slice Bd d.ws.length dd,vi d.t,vi d.r],vi p] q (fun v w=>∃ A c,v=.slice A (nearW d.ws p).length c∧Own w q.heap.size 3 1 encI A c (nearW d.ws p)∧Below q.heap.size q w):=by
 refine enter Tryz.func151 rfl 39 rfl rfl ?_;intro a f
 have g:=bz q
 refine Zs f fun _ b1=>?_;refine Zf (X0c (zs:=[vi d.n,.slice Ad md cd,.slice Bd d.ws.length dd,vi d.t,vi d.r]) rfl rfl) ?_;rintro _ w1 ⟨b4,rfl,b2,E,aC⟩;have bJ:=Q0 g.size b2;have g:=btr g E;refine Za rfl<|Zx b1 fun a f _ b3=>?_;refine Zf (Xm (k:=0) (vs:=[]) (zs:=[]) rfl Xl X1q rfl rfl) ?_;rintro _ w2 ⟨b7,rfl,b5,E,b6⟩;have aK:=Q0 g.size b5;have aC:=aC.below E;have g:=btr g E;refine Za rfl<|ZX b3 fun a f _ b8=>?_;refine Zs f fun _ aL=>?_;refine Ze (Vd rfl Xr 2)<|Ze (X0 rfl X0j (aC.at 2))<|Ze (X0d rfl Xx)<|Zm rfl<|Zt aL fun a f=>?_;refine Q8<|X01 (σ:=Nat×(List Int)) (fun (s:Nat×(List Int)) (a:Act) (w:World)=>match s with|(k,m)=>∃ G H,Fr a 39 [(1,vi p),(5,.slice G m.length H),(10,.slice Bd d.ws.length dd),(11,vi (d.ws.length:Int)),(12,vi (k:Int))]∧(k≤d.ws.length)∧(m=nearW (d.ws.take k) p)∧Own w q.heap.size 3 1 encI G H m∧d.ws.length≤dd∧Below q.heap.size q w) (fun (s:Nat×(List Int))=>match s with|(k,m)=>d.ws.length-k) (0,[]) ?_ ?_
 ·exact ⟨some ⟨b7,0,none⟩,0,f.sb,(Qf _),(by simp [nearW]),(Own.empty b6 aK),x,g⟩
 rintro ⟨k,m⟩ a w3 ⟨G,H,f,hk,hm,e,x,g⟩;have aM:=X27 (d.ws.take k) p
 rw [← hm,Qn] at aM
 refine Zs f fun _ aN=>?_;refine Ze (X0l rfl rfl)<|ZX aN fun a f _ aO=>?_
 refine Xg f rfl (fun i=>?_) (fun i=>?_)
 ·have aD:=i;have i:=Q2 i
  obtain ⟨bM,bK⟩:=X5 (l:=d.ws) (k:=k) (by omega)
  obtain ⟨D,W⟩:=X5 (l:=d.ws) (k:=k) (by have:=i;omega)
  refine Q7<|aO _ _<|Q5 fun _ L=>?_;refine Q8<|Zs f fun _ aP=>?_;refine Zi (k:=k) (u:=D) (enc:=encWr) (l:=d.ws) trivial rfl rfl Xx X0e Xy (a6.below' g) W rfl ?_;intro bN aE;refine Ze (X04 (l:=[vi D.a,vi D.b,.bool D.h]) rfl X1i aE rfl)<|Zf (Xu (zs:=[vi 0,vi 0,.bool false]) X2y rfl) ?_;rintro _ w4 ⟨bO,rfl,a7,E,o⟩;have aF:=Q0 g.size a7;have aQ:=(a6.below' g).away a7;have e:=e.below E;have g:=btr g E;refine Zo (Vw [vi D.a,vi D.b,.bool D.h] X0e o) ?_;rintro _ w5 ⟨ho,hb⟩;have aR:=o;have e:=e.onlyT ho aR rfl;have g:=Below.only g ho aF;have o:=hb;refine Zx aP fun a f _ aS=>?_;refine Zm rfl<|Zt aS fun a f=>?_;refine Q8<|Zs f fun _ aT=>?_;refine Ze (Vd rfl X0q 0)<|Ze (X0 rfl X9 (o.at 0))<|Ze (X0b rfl rfl)<|Za rfl<|Zt aT fun a f=>?_
  refine Xg f rfl (fun y=>?_) (fun y=>?_)
  ·have aG:=y
   have B:=Xb6 W (by simpa using y)
   rw [← hm] at B
   refine Zr f<|Zm rfl<|Ze (Vd rfl X0u 1)<|Ze (X0 rfl X9 (o.at 1))<|Zf (Xm (k:=1) (vs:=[vi D.b]) (zs:=[vi D.b]) rfl Xl X1q rfl rfl) ?_;rintro _ w6 ⟨bP,rfl,a8,E,M⟩;have b9:=Q0 g.size a8;have I:=e.away a8;have e:=e.below E;have g:=btr g E;refine Zf (X0m (enc:=encI) (l:=(m)) (l2:=([D.b])) (B0:=q.heap.size) rfl rfl Xl X1q Xf X25 e (Rd.of_blk M rfl _ M.lt) (by simp only [maxLen];simp;omega) (by simp;omega) g.size) ?_;rintro _ w7 ⟨bA,bB,rfl,aU,hg,N⟩
   have j:Own _ q.heap.size 3 1 encI _ _ (m):=e
   have aI:=N _ M.lt I;clear N;have g:=Below.app g j hg (Qb _) g.size;clear j hg;refine Za rfl ?_;refine Zn fun a f=>?_;refine Xa<|Xa<|L _ _<|Zr f ?_;refine Ze (Xw rfl rfl (by omega) (by omega))<|Zm rfl ?_;refine Zn fun a f=>?_;refine Xh ?_;exact ⟨(k+1,m++([D.b])),⟨bA,bB,f.sb,(by omega),(by rw [B]),aU,x,g⟩,(by first|omega|(dsimp only;omega))⟩
  have aG:=y;have aW:=y;refine Zs f fun _ aX=>?_;refine Ze (Vd rfl X0u 1)<|Ze (X0 rfl X9 (o.at 1))<|Ze (X0b rfl rfl)<|Za rfl<|Zt aX fun a f=>?_
  refine Xg f rfl (fun C=>?_) (fun C=>?_)
  ·have aH:=C
   have B:=Xbv W (by simpa using aW) (by simpa using C)
   rw [← hm] at B
   refine Zr f<|Zm rfl<|Ze (Vd rfl X0q 0)<|Ze (X0 rfl X9 (o.at 0))<|Zf (Xm (k:=1) (vs:=[vi D.a]) (zs:=[vi D.a]) rfl Xl X1q rfl rfl) ?_;rintro _ w8 ⟨bR,rfl,aA,E,Q⟩;have bC:=Q0 g.size aA;have J:=e.away aA;have e:=e.below E;have g:=btr g E;refine Zf (X0m (enc:=encI) (l:=(m)) (l2:=([D.a])) (B0:=q.heap.size) rfl rfl Xl X1q Xf X25 e (Rd.of_blk Q rfl _ Q.lt) (by simp only [maxLen];simp;omega) (by simp;omega) g.size) ?_;rintro _ w9 ⟨bD,bE,rfl,aY,hg,N⟩
   have j:Own _ q.heap.size 3 1 encI _ _ (m):=e
   have aJ:=N _ Q.lt J;clear N;have g:=Below.app g j hg (Qb _) g.size;clear j hg;refine Za rfl ?_;refine Zn fun a f=>?_;refine Xa<|Xa<|L _ _<|Zr f ?_;refine Ze (Xw rfl rfl (by omega) (by omega))<|Zm rfl ?_;refine Zn fun a f=>?_;refine Xh ?_;exact ⟨(k+1,m++([D.a])),⟨bD,bE,f.sb,(by omega),(by rw [B]),aY,x,g⟩,(by first|omega|(dsimp only;omega))⟩
  have aH:=C
  have B:=X9a W (by simpa using aW) (by simpa using C)
  rw [← hm] at B
  refine Q7<|Xa<|Xa<|L _ _ ?_;refine Zr f<|Ze (Xw rfl rfl (by omega) (by omega))<|Zm rfl ?_;refine Zn fun a f=>?_;refine Xh ?_;exact ⟨(k+1,m),⟨G,H,f.sb,(by omega),(by rw [B]),e,x,g⟩,(by first|omega|(dsimp only;omega))⟩
 have aD:=i;have i:=Q1 i
 have U:m=nearW d.ws p:=by rw [hm,Qi (by have:=i;omega)]
 have bS:m.length≤d.ws.length:=by rw [U];exact X27 _ _
 have bF:sortI m=m:=by rw [U];exact Xgj hI p
 refine Q9<|Xk<|Xk<|X03 ?_;refine b8 _ _<|Zs f fun _ aZ=>?_;refine Zm rfl<|Zf (Vc (F94 _ q.heap.size G H m e (by have:=X27 d.ws p;omega)) Xo1) ?_;rintro _ bT ⟨aB,hg⟩;have j:=e;have g:=Below.app g j hg (Qb _) g.size
 clear j hg;clear e;have e:=aB;clear aB;refine Zx aZ fun a f _ b0=>?_;refine Zm rfl<|Za rfl<|Zt b0 fun a f=>?_
 refine Q6 (X4 f (Xt f rfl rfl) ?_)
 rw [← U]
 exact ⟨G,H,rfl,bF▸e,g⟩
theorem Xu9(c:World)(x:Int)(d:Dg)(md:Nat)(m:md=d.ns.length)(Ad:Option Addr)(cd:Nat)(o:Rd c c.heap.size 81 encNd Ad d.ns)(Bd:Option Addr)(dd:Nat)(q:Rd c c.heap.size 83 encWr Bd d.ws)(u:d.ws.length≤dd)(p:Int)(ba bb:Nat)(f:Blk c ba 39 [vi d.n,.slice Ad md cd,.slice Bd d.ws.length dd,vi d.t,vi d.r])(j:Blk c bb 3 [vi p])(hN:md≤1000)(a7:d.ws.length≤1000000000) : Ret Tryz.prog 227 [vi x,.pointer (some ⟨ba,0,none⟩),.pointer (some ⟨bb,0,none⟩)] c (fun v w=>v=.bool (!(spI d.ns x)||tyW d.ws p x != 2)∧Below c.heap.size c w):=by
 have a8:=f.lt;have aA:=j.lt;refine enter Tryz.func227 rfl 16 rfl rfl ?_;intro a i
 have g:=bz c
 refine Zs i fun _ aB=>?_;refine Za rfl<|ZX aB fun a i _ aC=>?_;refine X0a (fun a w=>Fr a 16 [(4,.bool ((!(spI d.ns x))||((tyW d.ws p x) != 2)))]∧Below c.heap.size c w) ?_ ?_
 ·have e:=bz c
  refine Zr i<|Ze (X04 (l:=[vi d.n,.slice Ad md cd,.slice Bd d.ws.length dd,vi d.t,vi d.r]) rfl X2 (f.at 0) rfl)<|Zm rfl<|Zf (Vc (X60 _ d md m Ad cd (o.below' g).top Bd dd (q.below' g).top u x hN) X36) ?_;rintro _ w1 ⟨rfl,k⟩;have f:=f.below k;have j:=j.below k;have g:=btr g k;have e:=btr e k;refine Ze (X0y rfl)<|Zm rfl ?_
  refine Zg 9 rfl (fun b=>?_) (fun b=>?_)
  ·refine Zp (gP b) ?_;refine Zp (gP b) ?_;refine Zp (gP b) ?_;refine Zp (gP b) ?_;refine Zp (gP b) ?_;refine Ze (X7 rfl b rfl)<|Za rfl ?_;refine Zn fun a i=>?_
   have a6:Below c.heap.size c w1:=e
   exact ⟨i.sub ⟨X1 rfl (by first|rfl|(simp only [b,bs];done)|simp [b]),trivial⟩,a6⟩
  refine Zv (gW b) (X04 (l:=[vi d.n,.slice Ad md cd,.slice Bd d.ws.length dd,vi d.t,vi d.r]) rfl X2 (f.at 0) rfl) ?_;refine Zv (gW b) (X0 rfl X9 (j.at 0)) ?_;refine Zv (gW b) (X3 rfl) ?_;refine Zk (gW b) (Vc (X5u _ d md m Ad cd (o.below' g).top Bd dd (q.below' g).top u p x a7) X32) ?_;rintro _ w2 ⟨rfl,k⟩;have g:=btr g k;have e:=btr e k;refine Zv (gW b) (X1j rfl rfl) ?_;refine Ze (Xe rfl b rfl)<|Za rfl ?_;refine Zn fun a i=>?_
  have a6:Below c.heap.size c w2:=e
  exact ⟨i.sub ⟨X1 rfl (by first|rfl|(simp only [b,bs];done)|simp [b]),trivial⟩,a6⟩
 rintro a w3 ⟨i,k⟩;have g:=btr g k;refine aC _ _ ?_
 refine Q6 (X4 i (Xt i rfl rfl) ?_)
 exact ⟨rfl,g⟩
theorem Xka(c:World)(d:Dg)(md:Nat)(a7:md=d.ns.length)(Ad:Option Addr)(cd:Nat)(a8:Rd c c.heap.size 81 encNd Ad d.ns)(Bd:Option Addr)(dd:Nat)(aA:Rd c c.heap.size 83 encWr Bd d.ws)(aB:d.ws.length≤dd)(p:Int)(Al:Option Addr)(cl:Nat)(l:List Int)(e:Rd c c.heap.size 3 encI Al l)(hN:md≤1000)(aE:d.ws.length≤1000000000)(aL:l.length≤1000000000) : Ret Tryz.prog 203 [.agg #[vi d.n,.slice Ad md cd,.slice Bd d.ws.length dd,vi d.t,vi d.r],vi p,.slice Al l.length cl] c (fun v w=>v=.bool (!(l.any fun x=>!(spI d.ns x)||tyW d.ws p x != 2))∧Below c.heap.size c w):=by
 refine enter Tryz.func203 rfl 11 rfl rfl ?_;intro a hf
 have b:=bz c
 refine Zs hf fun _ aF=>?_;refine Zf (X0c (zs:=[vi d.n,.slice Ad md cd,.slice Bd d.ws.length dd,vi d.t,vi d.r]) rfl rfl) ?_;rintro _ w1 ⟨b5,rfl,aG,hE,a6⟩;have aJ:=Q0 b.size aG;have b:=btr b hE;refine Zf (X0c (zs:=[vi p]) rfl rfl) ?_;rintro _ w2 ⟨b6,rfl,aC,hE,aH⟩;have aK:=Q0 b.size aC;have aD:=(e.below' b).away aC;have a6:=a6.below hE;have b:=btr b hE;refine Za rfl<|Zx aF fun a hf _ aI=>?_;refine Zm rfl<|Ze (X3j (vs:=[.pointer (some ⟨b5,0,none⟩),.pointer (some ⟨b6,0,none⟩)]) rfl)<|Zf (Vc (Xxv _ Al cl l (e.below' b).top 227 [.pointer (some ⟨b5,0,none⟩),.pointer (some ⟨b6,0,none⟩)] Xnc (fun x=>!(spI d.ns x)||tyW d.ws p x != 2) (fun x w' hE'=>Xu9 w' x d md a7 Ad cd (((a8.below' b).top).below hE').top Bd dd (((aA.below' b).top).below hE').top aB p _ _ (a6.below hE') (aH.below hE') hN aE) (by omega)) Xqd) ?_;rintro _ w3 ⟨rfl,hE⟩;have b:=btr b hE;refine Ze (X0y rfl)<|Za rfl<|Zt aI fun a hf=>?_
 refine Q6 (X4 hf (Xt hf rfl rfl) ?_)
 exact ⟨rfl,b⟩
theorem Xp5(q:World)(d:Dg)(md:Nat)(aE:md=d.ns.length)(Ad:Option Addr)(cd:Nat)(aF:Rd q q.heap.size 81 encNd Ad d.ns)(Bd:Option Addr)(dd:Nat)(aG:Rd q q.heap.size 83 encWr Bd d.ws)(f:d.ws.length≤dd)(Al:Option Addr)(cl:Nat)(l:List Int)(h:Rd q q.heap.size 3 encI Al l)(aS:d.ws.length≤1000000000)(b7:l.length≤1000000000)(aT:l.length≤cl) : Ret Tryz.prog 204 [.agg #[vi d.n,.slice Ad md cd,.slice Bd d.ws.length dd,vi d.t,vi d.r],.slice Al l.length cl] q (fun v w=>v=.bool (prD d l)∧Below q.heap.size q w):=by
 refine enter Tryz.func204 rfl 31 rfl rfl ?_;intro a b
 have o:=bz q
 refine Zs b fun _ aU=>?_;refine Zf (X0c (zs:=[vi d.n,.slice Ad md cd,.slice Bd d.ws.length dd,vi d.t,vi d.r]) rfl rfl) ?_;rintro _ w1 ⟨b5,rfl,aW,hE,m⟩;have b3:=Q0 o.size aW;have o:=btr o hE;refine Za rfl<|ZX aU fun a b _ aX=>?_;refine Zs b fun _ aY=>?_;refine Zm rfl<|Ze (X0d rfl Xl)<|Zm rfl<|Zt aY fun a b=>?_;refine Q8<|X01 (σ:=Nat) (fun (k:Nat) (a:Act) (w:World)=>Fr a 31 [(1,.slice Al l.length cl),(2,.pointer (some ⟨b5,0,none⟩)),(9,.slice Al l.length cl),(10,vi (l.length:Int)),(11,vi (k:Int))]∧(k≤l.length)∧(∀ j:Nat,j<k→prQ d l j=false)∧Blk w b5 39 [vi d.n,.slice Ad md cd,.slice Bd d.ws.length dd,vi d.t,vi d.r]∧d.ws.length≤dd∧Below q.heap.size q w) (fun (k:Nat)=>l.length-k) 0 ?_ ?_
 ·exact ⟨b.sb,(Qf _),(fun j hj=>by omega),m,f,o⟩
 rintro k a w2 ⟨b,hk,A,m,f,o⟩;refine Zs b fun _ aZ=>?_;refine Ze (X0l rfl rfl)<|ZX aZ fun a b _ b0=>?_
 refine Xg b rfl (fun c=>?_) (fun c=>?_)
 ·have a6:=c;have c:=Q2 c
  obtain ⟨b8,b4⟩:=X5 (l:=l) (k:=k) (by omega)
  obtain ⟨u9,a7⟩:=X5 (l:=l) (k:=k) (by have:=c;omega)
  have aH:l.getD k 0=u9:=by rw [Qa,a7];rfl
  refine Q7<|b0 _ _<|Q5 fun _ aI=>?_;refine Q8<|Zs b fun _ aJ=>?_;refine Zm rfl<|Zi (k:=k) (u:=u9) (enc:=encI) (l:=l) trivial rfl rfl Xl X08 Xf (h.below' o) a7 rfl ?_;intro b9 a8;refine Ze (X0 rfl X9 a8)<|Za rfl<|Za rfl<|Zx aJ fun a b _ aK=>?_;refine Zm rfl<|Zm rfl ?_;have g:=((h.below' o).top).takeK Xf k;refine Ze (X2x (l:=l) (k:=k) rfl rfl Xl X08 rfl hk aT)<|Ze (X0d rfl Xl)<|Zm rfl<|Zt aK fun a b=>?_;refine Q8<|X01 (σ:=Nat) (fun (j:Nat) (a:Act) (w:World)=>Fr a 31 [(1,.slice Al l.length cl),(2,.pointer (some ⟨b5,0,none⟩)),(6,vi u9),(9,.slice Al l.length cl),(10,vi (l.length:Int)),(11,vi (k:Int)),(18,.slice Al (l.take k).length cl),(19,vi ((l.take k).length:Int)),(20,vi (j:Int))]∧(j≤(l.take k).length)∧(((l.take k).take j).any (fun y=>tyW d.ws u9 y==1)=false)∧Blk w b5 39 [vi d.n,.slice Ad md cd,.slice Bd d.ws.length dd,vi d.t,vi d.r]∧Rd w w2.heap.size 3 encI Al (l.take k)∧d.ws.length≤dd∧Below q.heap.size q w) (fun (j:Nat)=>(l.take k).length-j) 0 ?_ ?_
  ·exact ⟨b.sb,(Qf _),rfl,m,g,f,o⟩
  rintro j a w3 ⟨b,hj,B,m,g,f,o⟩;refine Zs b fun _ aL=>?_;refine Ze (X0l rfl rfl)<|ZX aL fun a b _ aM=>?_
  refine Xg b rfl (fun e=>?_) (fun e=>?_)
  ·have aA:=e;have e:=Q2 e
   obtain ⟨bA,b6⟩:=X5 (l:=(l.take k)) (k:=j) (by omega)
   have bB:(l.take k).length≤1000000000:=by rw [Qn];omega
   obtain ⟨v9,aB⟩:=X5 (l:=l.take k) (k:=j) (by have:=e;omega)
   refine Q7<|aM _ _<|Q5 fun _ aN=>?_;refine Q8<|Zs b fun _ aO=>?_;refine Zi (k:=j) (u:=v9) (enc:=encI) (l:=(l.take k)) trivial rfl rfl Xl X08 Xf g aB rfl ?_;intro bC aC;refine Ze (X0 rfl X9 aC)<|Za rfl<|Zx aO fun a b _ aP=>?_;refine Ze (Vn X2 m)<|Zm rfl<|Zm rfl<|Zf (Vc (X5u _ d md aE Ad cd (aF.below' o).top Bd dd (aG.below' o).top f u9 v9 aS) X32) ?_;rintro _ w4 ⟨rfl,hE⟩;have m:=m.below hE;have g:=g.below hE;have o:=btr o hE;refine Ze (X0b rfl rfl)<|Zt aP fun a b=>?_
   refine Xg b rfl (fun p=>?_) (fun p=>?_)
   ·have aD:=p
    have x:prD d l=true:=Xn9 (k:=k) (by have:=(Qg.1 a7).1;omega) (by unfold prQ;rw [aH];exact Xnb aB (by have h9:=p;simpa using h9))
    refine Zs b fun _ aQ=>?_;refine Za rfl<|Zt aQ fun a b=>?_;refine Q6<|Xq<|X6<|X6 ?_;refine Xq<|Xq<|X6<|X6 ?_;refine Xq<|X6<|X4 b (Xt b rfl rfl) ?_;exact ⟨by rw [x],o⟩
   have aD:=p
   have b1:(tyW d.ws u9 v9==1)=false:=by have h9:=p;simpa using h9
   refine Q7<|Xa<|aN _ _<|Zr b ?_;refine Ze (Xw rfl rfl (by omega) (by omega))<|Zm rfl ?_;refine Zn fun a b=>?_;refine Xh ?_;exact ⟨j+1,⟨b.sb,(by omega),(Xry B aB b1),m,g,f,o⟩,(by omega)⟩
  have aA:=e;have e:=Q1 e
  have b2:prQ d l k=false:=by unfold prQ;rw [aH];exact Xl2 B (by have:=e;omega)
  refine Q9<|Xk<|Xk<|X03 ?_;refine Xa<|aI _ _<|Zr b<|Ze (Xw rfl rfl (by omega) (by omega))<|Zm rfl ?_;refine Zn fun a b=>?_;refine Xh ?_;exact ⟨k+1,⟨b.sb,(by omega),(fun i hi=>by by_cases h9:i=k;rw [h9];exact b2;exact A i (by omega)),m,f,o⟩,(by omega)⟩
 have a6:=c;have c:=Q1 c
 have x:prD d l=false:=Xpw fun j hj=>A j (by have:=c;omega)
 refine Q9<|Xk<|Xk<|X03 ?_;refine aX _ _<|Zs b fun _ aR=>?_;refine Za rfl<|Zt aR fun a b=>?_
 refine Q6 (X4 b (Xt b rfl rfl) ?_)
 exact ⟨by rw [x],o⟩
variable {α : Type} {P : Program} {a : Act} {w : World} {n : Nat} {e : Env} {ty : TypeId} {pos : String} {af : Array Edge} {g : Option (Nat × Bool)} {d : Option Tmp}
theorem Own.takeK{B0:Nat}{E:TypeId}{sz:Nat}{enc:α→List Value}{A:Option Addr}{c:Nat}{l:List α}(h:Own w B0 E sz enc A c l)(hsz:∀ x,(enc x).length=sz){k:Nat}(hk:k≤l.length) : Own w B0 E sz enc A c (l.take k):=by
 refine ⟨Xo hsz _,?_⟩
 have hl:(l.take k).length=k:=by rw [Qn];omega
 rcases h.2 with ⟨h1,h2⟩|⟨gg,cap,cur,h1,h2,h3,h4,h5,h6,h7⟩
 ·have:k=0:=by omega
  subst this
  injection h1 with h1 _ h1'
  exact .inl ⟨by rw [h1,h1'];rfl,rfl⟩
 ·injection h1 with h1 _ h1'
  refine .inr ⟨gg,cap,cur,by rw [h1,h1'],h2,h3,by omega,h5,h6,?_⟩
  rw [hl]
  have e:(l.take k).flatMap enc=(l.flatMap enc).take (k*sz):=by
   have h8:l.flatMap enc=(l.take k).flatMap enc++(l.drop k).flatMap enc:=by rw [← List.flatMap_append,W9]
   have h9:((l.take k).flatMap enc).length=k*sz:=by rw [Xo hsz,hl]
   rw [h8,List.take_append_of_le_length (by rw [h9];exact Qb _)]
   exact (Qi (by rw [h9];exact Qb _)).symm
  rw [e,← h7,List.take_take]
  congr 1
  have:=Nat.mul_le_mul_right sz hk
  omega
theorem X8o{z:Array Value}{n:Nat}(hz:z.toList.all one=true)(hn:z≠#[]) : (Builtin.zeroCells z n).toList.length=n*z.size∧(Builtin.zeroCells z n).toList.all one=true:=by
 unfold Builtin.zeroCells
 refine ⟨by simp,?_⟩
 rw [W1]
 intro v hv
 simp only [Array.toList_map,W6] at hv
 obtain ⟨i,_,rfl⟩:=hv
 have hs:0<z.size:=Array.size_pos_iff.2 hn
 have hi:i % z.size<z.size:=Nat.mod_lt _ hs
 rw [getElem!_pos z _ hi]
 exact (W1.1 hz) _ (Array.mem_toList_iff.2 (Array.getElem_mem hi))
theorem Xhr{T E:TypeId}{sz B0 k cc L:Nat}{x:Operand}{z:Value}{enc:α→List Value}{A:Option Addr}{c:Nat}{l:List α}(hf:Fr a n e)(hx:ev e x=some (.slice (if c=k then A else A.map (·.add (k*sz))) L cc))(hT:SliceT P T E)(hZ:ZeroT P E z)
  (ho:Own w B0 E sz enc A c l) (hz1:z.cells.toList.all one=true) (hz2:z.cells.size=sz) (hsz:∀ x,(enc x).length=sz) (hp:0<sz) (hk:k≤l.length) (hL:k+L≤c) :
  Ef P ⟨d,.call ⟨.builtin .clear,#[x],#[T]⟩,ty,pos,af,g⟩ a w (fun _ w'=>Own w' B0 E sz enc A c (l.take k)∧w.grownBy w' (Value.slice A l.length c).ownBlock):=by
 by_cases hkl:L=0
 ·subst hkl
  have hrun:(Builtin.clear_ #[T] ty #[.slice (if c=k then A else A.map (·.add (k*sz))) 0 cc]).run P w=.ok (.tuple #[]) w:=by
   cases (if c=k then A else A.map (·.add (k*sz)))<;>simp [Builtin.clear_,X0x hT]
  refine (Ef.of_run (v:=.tuple #[]) (w':=w) ?_).mono fun v w' ⟨_,e2⟩=>?_
  ·simp [execOp,resolve,invoke,builtin,hf.ev hx,hrun]
  ·subst e2
   rcases ho.2 with ⟨h1,h2⟩|⟨gg,cap,cur,h1,h2,h3,h4,h5,h6,h7⟩
   ·exact ⟨ho.takeK hsz hk,World.grownBy.refl _ _⟩
   ·exact ⟨ho.takeK hsz hk,World.grownBy.refl _ _⟩
 ·have hot:=ho.takeK hsz hk
  rcases ho.2 with ⟨h1,h2⟩|⟨gg,cap,cur,h1,h2,h3,h4,h5,h6,h7⟩
  ·injection h1 with _ _ h1'
   omega
  ·injection h1 with h1 _ h1'
   subst h1'
   subst h1
   have hck:¬ c=k:=by omega
   rw [Q3 hck] at hx
   have hcl:cur.toList.length=c*sz:=Array.length_toList.trans h6
   have hb:Blk w gg E cur.toList:=by unfold Blk;rw [h3]
   have hzz:=X8o (z:=z.cells) (n:=L) hz1 (fun h=>by rw [h] at hz2;simp at hz2;omega)
   have hle:k*sz+L*z.cells.size≤cur.toList.length:=by
    rw [hcl,hz2,← Wb]
    exact Nat.mul_le_mul_right _ hL
   obtain ⟨w',hr,hO,hB⟩:=X3m (P:=P) (b:=gg) (off:=k*sz) (T:=E) (Builtin.zeroCells z.cells L).toList w cur.toList 0 hb (by rw [hzz.1];omega) hzz.2
   have hpos:∃ m,L=m+1:=⟨L-1,by omega⟩
   obtain ⟨m,hm⟩:=hpos
   have hzv:(zeroValue E).run P w=.ok z w:=by
    obtain ⟨i,hi,hi2⟩:=hZ
    simp [zeroValue,typeInfo,hi,hi2]
   have ha:((⟨gg,0,none⟩ : Addr).add (k*sz))=⟨gg,k*sz,none⟩:=by rw [X1k];simp
   have hrun:(Builtin.clear_ #[T] ty #[.slice (some ⟨gg,k*sz,none⟩) (m+1) cc]).run P w=.ok (.tuple #[]) w':=by
    rw [hm] at hr
    simp [Builtin.clear_,X0x hT,hzv,hr]
   refine (Ef.of_run (v:=.tuple #[]) (w':=w') ?_).mono fun v w1 ⟨_,e2⟩=>?_
   ·rw [hm] at hx
    simp only [Option.map_some,ha] at hx
    simp [execOp,resolve,invoke,builtin,hf.ev hx,hrun]
   ·subst e2
    have hlt:(l.take k).length=k:=by rw [Qn];omega
    have hsl:(splice cur.toList (k*sz) (Builtin.zeroCells z.cells L).toList).length=c*sz:=by rw [X38 (by rw [hzz.1];exact hle),hcl]
    refine ⟨⟨Xo hsz _,.inr ⟨gg,c,(splice cur.toList (k*sz) (Builtin.zeroCells z.cells L).toList).toArray,rfl,h2,?_,by omega,h5,?_,?_⟩⟩,?_⟩
    ·unfold Blk at hB
     simpa using hB
    ·rw [List.size_toArray,hsl]
    ·rw [hlt]
     have e7:cur.toList.take (k*sz)=(l.take k).flatMap enc:=by
      rcases hot.2 with ⟨q1,q2⟩|⟨g2,cap2,cur2,q1,q2,q3,q4,q5,q6,q7⟩
      ·simp at q1
      ·injection q1 with q1 _ q1'
       injection q1 with q1
       injection q1 with q1
       subst q1
       rw [h3] at q3
       injection q3 with q3
       injection q3 with q3
       subst q3
       rw [hlt] at q7
       exact q7
     rw [← e7]
     show ((splice cur.toList (k*sz) _).toArray.toList).take (k*sz)=_
     rw [List.toList_toArray]
     apply List.ext_getElem?
     intro i
     rw [List.getElem?_take,List.getElem?_take]
     split
     ·rename_i hi
      rw [X30 (by rw [hzz.1];exact hle),Q4 (by omega)]
     ·rfl
    ·exact ⟨hO.os,hO.tape,hO.output,by rw [hO.size];exact Qb _,fun q _ hne=>hO.block q fun e=>hne (by rw [e];rfl)⟩
theorem Xcz{T E:TypeId}{sz B0 k cc L:Nat}{x:Operand}{z:Value}{enc:α→List Value}{A:Option Addr}{c:Nat}{l:List α}(hx:ev e x=some (.slice (if c=k then A else A.map (·.add (k*sz))) L cc))(hT:SliceT P T E)(hZ:ZeroT P E z)(ho:Own w B0 E sz enc A c l)(hz1:z.cells.toList.all one=true)(hz2:z.cells.size=sz)(hsz:∀ x,(enc x).length=sz)(hp:0<sz)(hk:k≤l.length)(hL:k+L≤c) : EfW P ⟨d,.call ⟨.builtin .clear,#[x],#[T]⟩,ty,pos,af,g⟩ n e w (fun _ w'=>Own w' B0 E sz enc A c (l.take k)∧w.grownBy w' (Value.slice A l.length c).ownBlock):=fun a hf=>Xhr hf hx hT hZ ho hz1 hz2 hsz hp hk hL
theorem Xgh{T E sz q c k m:Nat}{x y z:Operand}{A:Option Addr}{i j:Int}(hf:Fr a n e)(hx:ev e x=some (.slice A q c))(hy:ev e y=some (.int .i64 i))(hz:ev e z=some (.int .i64 j))(hT:SliceT P T E)(hs:SizeT P E sz)(hi:i=(k:Int))(hj:j=(m:Int))(hk:k≤m)(hm:m≤c) :
  Ev P ⟨d,.slice T x (some y) (some z) none,ty,pos,af,g⟩ a w (.slice (if c=k then A else A.map (·.add (k*sz))) (m-k) (c-k)):=fun w' _=>by
 subst hi;subst hj
 simp [execOp,Instr.sliceAt,Instr.slice,Instr.sliceBounds,run_sliceBound,X0x hT,run_sizeOf' hs,hf.ev hx,hf.ev hy,hf.ev hz,hk,hm]
theorem Xl6{T E sz q c k m:Nat}{x y z:Operand}{A:Option Addr}{i j:Int}(hx:ev e x=some (.slice A q c))(hy:ev e y=some (.int .i64 i))(hz:ev e z=some (.int .i64 j))(hT:SliceT P T E)(hs:SizeT P E sz)(hi:i=(k:Int))(hj:j=(m:Int))(hk:k≤m)(hm:m≤c) : EvW P ⟨d,.slice T x (some y) (some z) none,ty,pos,af,g⟩ n e w (.slice (if c=k then A else A.map (·.add (k*sz))) (m-k) (c-k)):=fun a hf=>Xgh hf hx hy hz hT hs hi hj hk hm
theorem Xgd{T E sz q c k m r:Nat}{x y z u:Operand}{A:Option Addr}{i j s:Int}(hf:Fr a n e)(hx:ev e x=some (.slice A q c))(hy:ev e y=some (.int .i64 i))(hz:ev e z=some (.int .i64 j))(hu:ev e u=some (.int .i64 s))(hT:SliceT P T E)(hs:SizeT P E sz)(hi:i=(k:Int))(hj:j=(m:Int))(hr:s=(r:Int))(hk:k≤m)(hm:m≤r)(hrc:r≤c) :
  Ev P ⟨d,.slice T x (some y) (some z) (some u),ty,pos,af,g⟩ a w (.slice (if r=k then A else A.map (·.add (k*sz))) (m-k) (r-k)):=fun w' _=>by
 subst hi;subst hj;subst hr
 simp [execOp,Instr.sliceAt,Instr.slice,Instr.sliceBounds,run_sliceBound,X0x hT,run_sizeOf' hs,hf.ev hx,hf.ev hy,hf.ev hz,hf.ev hu,hk,hm,hrc]
theorem Xns{T E sz q c k m r:Nat}{x y z u:Operand}{A:Option Addr}{i j s:Int}(hx:ev e x=some (.slice A q c))(hy:ev e y=some (.int .i64 i))(hz:ev e z=some (.int .i64 j))(hu:ev e u=some (.int .i64 s))(hT:SliceT P T E)(hs:SizeT P E sz)(hi:i=(k:Int))(hj:j=(m:Int))(hr:s=(r:Int))(hk:k≤m)(hm:m≤r)(hrc:r≤c) : EvW P ⟨d,.slice T x (some y) (some z) (some u),ty,pos,af,g⟩ n e w (.slice (if r=k then A else A.map (·.add (k*sz))) (m-k) (r-k)):=fun a hf=>Xgd hf hx hy hz hu hT hs hi hj hr hk hm hrc
theorem Xbq{T E:TypeId}{sz B B0:Nat}{x y:Operand}{enc:α→List Value}{A A2:Option Addr}{c c2:Nat}{l l2:List α}(hf:Fr a n e)(hx:ev e x=some (.slice A l.length c))(hy:ev e y=some (.slice A2 l2.length c2))
  (hT:SliceT P T E) (hs:SizeT P E sz) (hsz:∀ x,(enc x).length=sz) (hone:∀ x,(enc x).all one=true) (ho:Own w B0 E sz enc A c l) (hr:Rd w B E enc A2 l2) (hroom:l.length+l2.length≤c) :
  Ef P ⟨d,.call ⟨.builtin .append,#[x,y],#[T,T]⟩,ty,pos,af,g⟩ a w (fun v w'=>v=.slice A (l++l2).length c∧Own w' B0 E sz enc A c (l++l2)∧w.grownBy w' (Value.slice A l.length c).ownBlock):=by
 obtain ⟨i,hi1,hi2⟩:=hs
 rcases ho.2 with ⟨h1,h2⟩|⟨gg,cap,cur,h1,h2,h3,h4,h5,h6,h7⟩
 ·injection h1 with h1 _ h1'
  subst h1;subst h1'
  have e1:l=[]:=List.eq_nil_of_length_eq_zero h2
  have e2:l2=[]:=List.eq_nil_of_length_eq_zero (by omega)
  subst e1;subst e2
  have hrun:(Builtin.append_ #[T,T] ty #[.slice none 0 0,.slice A2 0 c2]).run P w=.ok (.slice none 0 0) w:=by
   cases A2<;>simp [Builtin.append_,X0x hT,sizeOf,typeInfo,hi1,Builtin.lenOf,Builtin.firstCells,loadCells,loadCellsFrom]
  refine (Ef.of_run (v:=.slice none 0 0) (w':=w) ?_).mono fun v w' ⟨e1,e2⟩=>?_
  ·simp only [List.length_nil] at hx hy
   simp [execOp,resolve,invoke,builtin,hf.ev hx,hf.ev hy,hrun]
  ·subst e1;subst e2
   exact ⟨rfl,ho,World.grownBy.refl w' _⟩
 ·injection h1 with h1 _ h1'
  subst h1;subst h1'
  by_cases hl2:l2=[]
  ·subst hl2
   have hrun:(Builtin.append_ #[T,T] ty #[.slice (some ⟨gg,0,none⟩) l.length c,.slice A2 0 c2]).run P w=.ok (.slice (some ⟨gg,0,none⟩) l.length c) w:=by
    cases A2<;>simp [Builtin.append_,X0x hT,sizeOf,typeInfo,hi1,Builtin.lenOf,Builtin.firstCells,loadCells,loadCellsFrom,h4,storeCells]
   refine (Ef.of_run (v:=.slice (some ⟨gg,0,none⟩) l.length c) (w':=w) ?_).mono fun v w' ⟨e1,e2⟩=>?_
   ·simp only [List.length_nil] at hy
    simp [execOp,resolve,invoke,builtin,hf.ev hx,hf.ev hy,hrun]
   ·subst e1;subst e2
    exact ⟨by simp,by simpa using ho,World.grownBy.refl w' _⟩
  ·obtain ⟨b,off,cs,fz,rfl,g2,g3,g4⟩:=hr hl2;obtain ⟨w',hrun,hown,hg⟩:=run_append_fits (P:=P) (w:=w) B0 T ty E i sz hT hi1 hi2 gg l.length c (l.flatMap enc) ho ⟨b,off,none⟩ l2.length c2 (l2.flatMap enc) (Xo hsz l2)
    (fun j u hu=>by
     have:=g4 j u hu
     rw [X1k]
     simp [World.cell?,g3,this])
    (fun u hu=>by
     obtain ⟨x,_,hx⟩:=List.mem_flatMap.1 hu
     have:=W1.1 (hone x) u hx
     cases u<;>simp_all [Value.oneCell',one]) hroom
   refine (Ef.of_run (v:=.slice (some ⟨gg,0,none⟩) (l.length+l2.length) c) (w':=w') ?_).mono fun v w1 ⟨e1,e2⟩=>?_
   ·simp [execOp,resolve,invoke,builtin,hf.ev hx,hf.ev hy,hrun]
   ·subst e1;subst e2
    refine ⟨by rw [Qh],?_,hg⟩
    unfold Own
    rw [List.flatMap_append,Qh]
    exact hown
theorem Xga{T E:TypeId}{sz B B0:Nat}{x y:Operand}{enc:α→List Value}{A A2:Option Addr}{c c2:Nat}{l l2:List α}(hx:ev e x=some (.slice A l.length c))(hy:ev e y=some (.slice A2 l2.length c2))(hT:SliceT P T E)(hs:SizeT P E sz)(hsz:∀ x,(enc x).length=sz)(hone:∀ x,(enc x).all one=true)(ho:Own w B0 E sz enc A c l)(hr:Rd w B E enc A2 l2)(hroom:l.length+l2.length≤c) : EfW P ⟨d,.call ⟨.builtin .append,#[x,y],#[T,T]⟩,ty,pos,af,g⟩ n e w (fun v w'=>v=.slice A (l++l2).length c∧Own w' B0 E sz enc A c (l++l2)∧w.grownBy w' (Value.slice A l.length c).ownBlock):=fun a hf=>Xbq hf hx hy hT hs hsz hone ho hr hroom
theorem Xal{α:Type}{l:List α}{q:α→Bool}{j:Nat}{u:α}(hu:l[j]? = some u)(h:q u=true) : (l.take (j+1)).filter (fun x=>!q x)=(l.take j).filter fun x=>!q x:=by
 rw [X3d (q:=fun x=>!q x) hu,Q3 (by rw [h];decide),List.append_nil]
theorem Xhw{α:Type}{l:List α}{q:α→Bool}{j:Nat}{u:α}(hu:l[j]? = some u)(h:q u=false) : (l.take (j+1)).filter (fun x=>!q x)=((l.take j).filter fun x=>!q x)++[u]:=by
 rw [X3d (q:=fun x=>!q x) hu,Q4 (by rw [h];rfl)]
structure Strk {α:Type} (l:List α) (q:α→Bool) (i j:Nat) (m:List α) : Prop where
 len:m.length=l.length
 ie:i=((l.take j).filter fun x=>!q x).length
 lt:i<j
 jl:j≤l.length
 tk:m.take i=(l.take j).filter fun x=>!q x
 dr:∀ t,j≤t→m[t]? = l[t]?
theorem Strk.at{α:Type}{l m:List α}{q:α→Bool}{i j:Nat}(h:Strk l q i j m){u:α}(hu:l[j]? = some u) : m[j]? = some u:=(h.dr j (Qb _)).trans hu
theorem Strk.no{α:Type}{l m:List α}{q:α→Bool}{i j:Nat}(h:Strk l q i j m){u:α}(hu:l[j]? = some u)(hq:q u=true) : Strk l q i (j+1) m:=
 ⟨h.len,by rw [Xal hu hq];exact h.ie,by have:=h.lt;omega,(Qg.1 hu).1,by rw [Xal hu hq];exact h.tk,fun t ht=>h.dr t (by omega)⟩
theorem Strk.yes{α:Type}{l m:List α}{q:α→Bool}{i j:Nat}(h:Strk l q i j m){u:α}(hu:l[j]? = some u)(hq:q u=false) : Strk l q (i+1) (j+1) (m.set i u):=by
 have hj:=(Qg.1 hu).1;have hl:=h.lt;have hm:=h.len
 refine ⟨List.length_set.trans h.len,by rw [Xhw hu hq,Qh,← h.ie];rfl,by omega,hj,?_,fun t ht=>?_⟩
 ·rw [Xhw hu hq,← h.tk,Qt,List.getElem?_set_self (by omega)]
  rw [List.take_set_of_le (Qb _)]
  rfl
 ·rw [List.getElem?_set_ne (by omega)]
  exact h.dr t (by omega)
theorem Strk.init{α:Type}{l:List α}{q:α→Bool}{k:Nat}{u:α}(ha:((l.take k).all fun x=>!q x)=true)(hu:l[k]? = some u)(hq:q u=true) : Strk l q k (k+1) l:=by
 have hk:=(Qg.1 hu).1
 have e:(l.take k).filter (fun x=>!q x)=l.take k:=List.filter_eq_self.2 fun x hx=>W1.1 ha x hx
 exact ⟨rfl,by rw [Xal hu hq,e,Qn];omega,by omega,hk,by rw [Xal hu hq,e],fun _ _=>rfl⟩
theorem Strk.fin{α:Type}{l m:List α}{q:α→Bool}{i j:Nat}(h:Strk l q i j m)(hj:l.length≤j) : m.take i=(l.filter fun x=>!q x)∧(l.take i).length=(l.filter fun x=>!q x).length:=by
 have e:=h.tk
 have e2:=h.ie
 rw [Qi hj] at e e2
 have:=h.lt
 have:=h.jl
 exact ⟨e,by rw [← e2,Qn];omega⟩
theorem Xfx{α:Type}{l:List α}{q:α→Bool}(h:(idxF l q == -1)=false) : ∃ k u,idxF l q=(k:Nat)∧l[k]? = some u∧q u=true∧((l.take k).all fun x=>!q x)=true:=by
 unfold idxF at h ⊢
 cases hf:l.findIdx? q with
 | none=>rw [hf] at h;simp at h
 | some k=>
  obtain ⟨h1,h2,h3⟩:=List.findIdx?_eq_some_iff_getElem.1 hf
  refine ⟨k,l[k],rfl,Qc h1,h2,?_⟩
  rw [W1]
  intro x hx;obtain ⟨t,ht⟩:=List.mem_iff_getElem?.1 hx
  rw [List.getElem?_take] at ht
  split at ht
  ·rename_i htk
   obtain ⟨h5,h6⟩:=Qg.1 ht
   have:=h3 t htk
   rw [← h6]
   simpa using this
  ·cases ht
theorem X9n{α:Type}{l:List α}{q:α→Bool}(h:(idxF l q == -1)=true) : (l.filter fun x=>!q x)=l:=by
 rcases X3l l q with ⟨_,h2⟩|⟨k,x,h1,_⟩
 ·exact List.filter_eq_self.2 fun x hx=>by rw [h2 x hx];rfl
 ·rw [h1] at h;simp at h
theorem Xwi(G:World)(A:Option Addr)(c B0:Nat)(l:List Wr)(d:Own G B0 83 3 encWr A c l)(bA:B0≤G.heap.size)(kq:FuncId)(pq:List Value)(Fq:FuncF Tryz.prog kq)(q:Wr→Bool)(hq:∀ x w,G.grownBy w (Value.slice A l.length c).ownBlock→Ret Tryz.prog kq ([wrV x]++pq) w (fun v w'=>v=.bool (q x)∧Below w.heap.size w w'))(aP:l.length≤1000000000) : Ret Tryz.prog 208 [.slice A l.length c,.func (.func kq) #[] pq.toArray] G (fun v w=>v=.slice A (l.filter fun x=>!q x).length c∧Own w B0 83 3 encWr A c (l.filter fun x=>!q x)∧G.grownBy w (Value.slice A l.length c).ownBlock):=by
 have aE:=d.cap;refine enter Tryz.func208 rfl 42 rfl rfl ?_;intro a e
 have n:G.grownBy G (Value.slice A l.length c).ownBlock:=World.grownBy.refl _ _
 refine Zs e fun _ aQ=>?_;refine Za rfl<|Zx aQ fun a e _ aR=>?_;refine Zm rfl<|Zm rfl<|Zf (Vc (Xpg _ A c l d.rd.top kq pq Fq q (fun x w' hE'=>hq x w' (gbel n hE')) aP) Xdw) ?_;rintro _ w1 ⟨rfl,E⟩;have d:=d.below E;have n:=gbel n E;refine Za rfl<|ZX aR fun a e _ aS=>?_;refine Zs e fun _ aT=>?_;refine Zm rfl<|Ze (X0b rfl rfl)<|Zt aT fun a e=>?_
 refine Xg e rfl (fun y=>?_) (fun y=>?_)
 ·have aF:=y;have B:=X9n y;refine Zs e fun _ aU=>?_;refine Zm rfl<|Za rfl<|Zt aU fun a e=>?_;refine Q6<|X6<|X4 e (Xt e rfl rfl) ?_;exact ⟨by rw [B],by rw [B];exact d,n⟩
 have aF:=y;obtain ⟨k9,u0,aW,aG,aX,aY⟩:=Xfx y;have bB:=(Qg.1 aG).1;refine Q7<|aS _ _<|Q5 fun _ aZ=>?_;refine Zs e fun _ aH=>?_;refine Zm rfl<|Ze (Xw rfl rfl (by omega) (by omega))<|Za rfl<|Zt aH fun a e=>?_;refine Q8 ?_
 rw [aW] at e
 refine X01 (σ:=Nat×Nat×(List Wr)) (fun (s:Nat×Nat×(List Wr)) (a:Act) (w:World)=>match s with|(i,j,m)=>Fr a 42 [(0,.slice A l.length c),(1,.func (.func kq) #[] pq.toArray),(5,vi (i:Int)),(6,vi (j:Int))]∧(Strk l q i j m)∧Own w B0 83 3 encWr A c m∧G.grownBy w (Value.slice A l.length c).ownBlock) (fun (s:Nat×Nat×(List Wr))=>match s with|(i,j,m)=>l.length-j) (k9,(k9+1),l) ?_ ?_
 ·exact ⟨e.sb,(Strk.init aY aG aX),d,n⟩
 rintro ⟨i,j,m⟩ a w2 ⟨e,hs,d,n⟩;refine Q5 fun _ aI=>?_;refine Zs e fun _ aJ=>?_;refine Zm rfl<|Zm rfl<|Ze (X0d rfl Xx)<|Ze (X0l rfl rfl)<|Zt aJ fun a e=>?_
 refine Xg e rfl (fun f=>?_) (fun f=>?_)
 ·have a6:=f;have f:=Q2 f
  obtain ⟨bC,b6⟩:=X5 (l:=l) (k:=j) (by omega)
  obtain ⟨o,a7⟩:=X5 (l:=l) (k:=j) (by have:=f;omega)
  have b0:=hs.at a7;have b1:=hs.len;have b2:=hs.lt;have b3:=hs.jl;refine Q7<|aI _ _<|Q5 fun _ H=>?_;refine Q8<|Zs e fun _ aK=>?_;refine Zm rfl<|Zm rfl<|Zj (k:=j) (u:=o) (enc:=encWr) (l:=m) trivial rfl (by omega) rfl Xx X0e Xy d.rd b0 (by omega) ?_;intro bD a8;refine Ze (X04 (l:=[vi o.a,vi o.b,.bool o.h]) rfl X1i a8 rfl)<|Zf (Xu (zs:=[vi 0,vi 0,.bool false]) X2y rfl) ?_;rintro _ w3 ⟨bE,rfl,I,E,g⟩;have aA:=Q0 n.size I;have C:=d.away I;have d:=d.below E;have n:=gbel n E;refine Zo (Vw [vi o.a,vi o.b,.bool o.h] X0e g) ?_;rintro _ w4 ⟨ho,hb⟩;have b7:=g;have d:=d.onlyA ho C;have n:=gonly n ho aA;have g:=hb;refine Zx aK fun a e _ aL=>?_;refine Zm rfl<|Ze (Vn X1i g)<|Zf (X64 (cs:=pq) (vs:=[.agg #[vi o.a,vi o.b,.bool o.h]]) rfl rfl Fq (hq o _ n)) ?_;rintro _ w5 ⟨rfl,E⟩;have g:=g.below E;have d:=d.below E;have n:=gbel n E;refine Ze (X0y rfl)<|Zt aL fun a e=>?_
  refine Xg e rfl (fun p=>?_) (fun p=>?_)
  ·have aB:=p
   have aC:q o=false:=by have h8:=p;simpa using h8
   have aD:=hs.yes a7 aC;refine Zs e fun _ aM=>?_;refine Zm rfl<|Zm rfl<|Ze (Vn X1i g)<|Ze (Xi (k:=i) rfl rfl Xx X0e d (by omega) (by omega) (by omega))<|Zo (X0h (enc:=encWr) (l:=m) (vs:=[vi o.a,vi o.b,.bool o.h]) (x0:=(m.getD i wZ)) (u:=o) (k:=i) (j:=0) (n1:=3) rfl rfl X0e d Xy rfl rfl rfl rfl (by decide) (Xb (by omega)) rfl) ?_;rintro _ w6 ⟨t,hg⟩;have D:=d;have n:=gtr n hg
   clear D hg;clear d;have d:=t;clear t;refine Zt aM fun a e=>?_;refine Zr e<|Zm rfl<|Ze (Xw rfl rfl (by omega) (by omega))<|Za rfl ?_;refine Zn fun a e=>?_;refine Xa<|H _ _<|Zr e<|Zm rfl<|Ze (Xw rfl rfl (by omega) (by omega))<|Za rfl ?_;refine Zn fun a e=>?_;refine Xh ?_;exact ⟨(i+1,j+1,(m.set i o)),⟨e.sb,aD,d,n⟩,(by first|omega|(dsimp only;omega))⟩
  have aB:=p
  have aC:q o=true:=by have h8:=p;simpa using h8
  have aD:=hs.no a7 aC;refine Q7<|Xa<|H _ _<|Zr e ?_;refine Zm rfl<|Ze (Xw rfl rfl (by omega) (by omega))<|Za rfl ?_;refine Zn fun a e=>?_;refine Xh ?_;exact ⟨(i,j+1,m),⟨e.sb,aD,d,n⟩,(by first|omega|(dsimp only;omega))⟩
 have a6:=f;have f:=Q1 f
 obtain ⟨b4,b5⟩:=hs.fin (by have:=f;omega)
 have b1:=hs.len;have b2:=hs.lt;have b3:=hs.jl;refine Q9<|Xk<|Xk<|X03 ?_;refine aZ _ _<|Zs e fun _ aN=>?_;refine Zm rfl<|Zm rfl ?_;have b8:=(d.rd.top).dropK Xy (c:=c) d.cap i;refine Ze (X6z (l:=l) (k:=i) rfl rfl Xx X0e (by omega) (by omega))<|Zo (Xcz (enc:=encWr) (l:=m) (k:=i) (L:=(l.drop i).length) rfl Xx X2y d rfl rfl Xy (by decide) (by omega) (by rw [List.length_drop];omega)) ?_;rintro _ w7 ⟨t,hg⟩;have D:=d;have n:=gtr n hg
 clear D hg;clear d;have d:=t;clear t;refine Zx aN fun a e _ aO=>?_;refine Zm rfl<|Zm rfl ?_;have b9:=(d.rd.top).takeK Xy i;refine Ze (X2x (l:=l) (k:=i) rfl rfl Xx X0e (by omega) (by omega) aE)<|Za rfl<|Zt aO fun a e=>?_
 refine Q6 (X4 e (Xt e rfl rfl) ?_)
 exact ⟨by rw [b5],b4▸d,n⟩
theorem Xuu(g:World)(Al:Option Addr)(cl:Nat)(l:List Int)(aA:Rd g g.heap.size 3 encI Al l)(kq:FuncId)(pq:List Value)(Fq:FuncF Tryz.prog kq)(q:Int→Bool)(hq:∀ x w,Below g.heap.size g w→Ret Tryz.prog kq ([vi x]++pq) w (fun v w'=>v=.bool (q x)∧Below w.heap.size w w'))(aN:l.length≤1000000000) : Ret Tryz.prog 253 [.slice Al l.length cl,.func (.func kq) #[] pq.toArray] g (fun v w=>v=vi (idxF l q)∧Below g.heap.size g w):=by
 refine enter Tryz.func253 rfl 19 rfl rfl ?_;intro a b
 have i:=bz g
 refine Zs b fun _ aG=>?_;refine Za rfl<|ZX aG fun a b _ aH=>?_;refine Zs b fun _ aI=>?_;refine Zm rfl<|Ze (X0d rfl Xl)<|Zm rfl<|Zt aI fun a b=>?_;refine Q8<|X01 (σ:=Nat) (fun (k:Nat) (a:Act) (w:World)=>Fr a 19 [(0,.slice Al l.length cl),(1,.func (.func kq) #[] pq.toArray),(7,vi (l.length:Int)),(8,vi (k:Int))]∧(k≤l.length)∧(((l.take k).all fun x=>!q x)=true)∧Below g.heap.size g w) (fun (k:Nat)=>l.length-k) 0 ?_ ?_
 ·exact ⟨b.sb,(Qf _),rfl,i⟩
 rintro k a w1 ⟨b,hk,e,i⟩;refine Zs b fun _ aJ=>?_;refine Ze (X0l rfl rfl)<|ZX aJ fun a b _ aK=>?_
 refine Xg b rfl (fun c=>?_) (fun c=>?_)
 ·have aB:=c;have c:=Q2 c
  obtain ⟨u8,aO⟩:=X5 (l:=l) (k:=k) (by omega)
  obtain ⟨u9,a6⟩:=X5 (l:=l) (k:=k) (by have:=c;omega)
  refine Q7<|aK _ _<|Q5 fun _ aL=>?_;refine Q8<|Zs b fun _ aC=>?_;refine Zm rfl<|Za rfl<|Zx aC fun a b _ aD=>?_;refine Zm rfl<|Zm rfl<|Zm rfl<|Zi (k:=k) (u:=u9) (enc:=encI) (l:=l) trivial rfl rfl Xl X08 Xf (aA.below' i) a6 rfl ?_;intro aP a7;refine Ze (X0 rfl X9 a7)<|Zf (X64 (cs:=pq) (vs:=[vi u9]) rfl rfl Fq (hq u9 _ i)) ?_;rintro _ w2 ⟨rfl,hE⟩;have i:=btr i hE;refine Zt aD fun a b=>?_
  refine Xg b rfl (fun d=>?_) (fun d=>?_)
  ·have a8:=d
   have f:idxF l q=(k:Int):=X7r e a6 d
   refine Zs b fun _ aE=>?_;refine Zm rfl<|Za rfl<|Zt aE fun a b=>?_;refine Q6<|Xq<|X6<|X6 ?_;refine Xq<|X6<|X4 b (Xt b rfl rfl) ?_;exact ⟨by rw [f],i⟩
  have a8:=d;have aM:=X6d e a6 d;refine Q7<|Xa<|aL _ _<|Zr b ?_;refine Ze (Xw rfl rfl (by omega) (by omega))<|Zm rfl ?_;refine Zn fun a b=>?_;refine Xh ?_;exact ⟨k+1,⟨b.sb,(by omega),aM,i⟩,(by omega)⟩
 have aB:=c;have c:=Q1 c
 have f:idxF l q = -1:=X7y e (by have:=c;omega)
 refine Q9<|Xk<|Xk<|X03 ?_;refine aH _ _<|Zs b fun _ aF=>?_;refine Za rfl<|Zt aF fun a b=>?_
 refine Q6 (X4 b (Xt b rfl rfl) ?_)
 exact ⟨by rw [f],i⟩
theorem Xum(y:World)(A:Option Addr)(c B0:Nat)(l:List Int)(b:Own y B0 3 1 encI A c l)(b8:B0≤y.heap.size)(kq:FuncId)(pq:List Value)(Fq:FuncF Tryz.prog kq)(q:Int→Bool)(hq:∀ x w,y.grownBy w (Value.slice A l.length c).ownBlock→Ret Tryz.prog kq ([vi x]++pq) w (fun v w'=>v=.bool (q x)∧Below w.heap.size w w'))(aO:l.length≤1000000000) : Ret Tryz.prog 228 [.slice A l.length c,.func (.func kq) #[] pq.toArray] y (fun v w=>v=.slice A (l.filter fun x=>!q x).length c∧Own w B0 3 1 encI A c (l.filter fun x=>!q x)∧y.grownBy w (Value.slice A l.length c).ownBlock):=by
 have aD:=b.cap;refine enter Tryz.func228 rfl 42 rfl rfl ?_;intro a d
 have n:y.grownBy y (Value.slice A l.length c).ownBlock:=World.grownBy.refl _ _
 refine Zs d fun _ aP=>?_;refine Za rfl<|Zx aP fun a d _ aQ=>?_;refine Zm rfl<|Zm rfl<|Zf (Vc (Xuu _ A c l b.rd.top kq pq Fq q (fun x w' hE'=>hq x w' (gbel n hE')) aO) Xhg) ?_;rintro _ w1 ⟨rfl,hE⟩;have b:=b.below hE;have n:=gbel n hE;refine Za rfl<|ZX aQ fun a d _ aR=>?_;refine Zs d fun _ aS=>?_;refine Zm rfl<|Ze (X0b rfl rfl)<|Zt aS fun a d=>?_
 refine Xg d rfl (fun o=>?_) (fun o=>?_)
 ·have aE:=o;have p:=X9n o;refine Zs d fun _ aT=>?_;refine Zm rfl<|Za rfl<|Zt aT fun a d=>?_;refine Q6<|X6<|X4 d (Xt d rfl rfl) ?_;exact ⟨by rw [p],by rw [p];exact b,n⟩
 have aE:=o;obtain ⟨k9,u0,aU,aF,aW,aX⟩:=Xfx o;have b9:=(Qg.1 aF).1;refine Q7<|aR _ _<|Q5 fun _ aY=>?_;refine Zs d fun _ aG=>?_;refine Zm rfl<|Ze (Xw rfl rfl (by omega) (by omega))<|Za rfl<|Zt aG fun a d=>?_;refine Q8 ?_
 rw [aU] at d
 refine X01 (σ:=Nat×Nat×(List Int)) (fun (s:Nat×Nat×(List Int)) (a:Act) (w:World)=>match s with|(i,j,m)=>Fr a 42 [(0,.slice A l.length c),(1,.func (.func kq) #[] pq.toArray),(5,vi (i:Int)),(6,vi (j:Int))]∧(Strk l q i j m)∧Own w B0 3 1 encI A c m∧y.grownBy w (Value.slice A l.length c).ownBlock) (fun (s:Nat×Nat×(List Int))=>match s with|(i,j,m)=>l.length-j) (k9,(k9+1),l) ?_ ?_
 ·exact ⟨d.sb,(Strk.init aX aF aW),b,n⟩
 rintro ⟨i,j,m⟩ a w2 ⟨d,hs,b,n⟩;refine Q5 fun _ aH=>?_;refine Zs d fun _ aI=>?_;refine Zm rfl<|Zm rfl<|Ze (X0d rfl Xl)<|Ze (X0l rfl rfl)<|Zt aI fun a d=>?_
 refine Xg d rfl (fun e=>?_) (fun e=>?_)
 ·have a6:=e;have e:=Q2 e
  obtain ⟨bA,b5⟩:=X5 (l:=l) (k:=j) (by omega)
  obtain ⟨h,a7⟩:=X5 (l:=l) (k:=j) (by have:=e;omega)
  have aZ:=hs.at a7;have b0:=hs.len;have b1:=hs.lt;have b2:=hs.jl;refine Q7<|aH _ _<|Q5 fun _ B=>?_;refine Q8<|Zs d fun _ aJ=>?_;refine Zm rfl<|Zm rfl<|Zj (k:=j) (u:=h) (enc:=encI) (l:=m) trivial rfl (by omega) rfl Xl X08 Xf b.rd aZ (by omega) ?_;intro bB a8;refine Ze (X0 rfl X9 a8)<|Za rfl<|Zx aJ fun a d _ aK=>?_;refine Zm rfl<|Zm rfl<|Zf (X64 (cs:=pq) (vs:=[vi h]) rfl rfl Fq (hq h _ n)) ?_;rintro _ w3 ⟨rfl,hE⟩;have b:=b.below hE;have n:=gbel n hE;refine Ze (X0y rfl)<|Zt aK fun a d=>?_
  refine Xg d rfl (fun f=>?_) (fun f=>?_)
  ·have aA:=f
   have aB:q h=false:=by have h8:=f;simpa using h8
   have aC:=hs.yes a7 aB;refine Zs d fun _ aL=>?_;refine Zm rfl<|Zm rfl<|Zm rfl<|Ze (Xi (k:=i) rfl rfl Xl X08 b (by omega) (by omega) (by omega))<|Zo (X0h (enc:=encI) (l:=m) (vs:=[vi h]) (x0:=(m.getD i 0)) (u:=h) (k:=i) (j:=0) (n1:=1) rfl rfl X08 b Xf rfl rfl rfl rfl (by decide) (Xb (by omega)) rfl) ?_;rintro _ w4 ⟨g,hg⟩;have t:=b;have n:=gtr n hg
   clear t hg;clear b;have b:=g;clear g;refine Zt aL fun a d=>?_;refine Zr d<|Zm rfl<|Ze (Xw rfl rfl (by omega) (by omega))<|Za rfl ?_;refine Zn fun a d=>?_;refine Xa<|B _ _<|Zr d<|Zm rfl<|Ze (Xw rfl rfl (by omega) (by omega))<|Za rfl ?_;refine Zn fun a d=>?_;refine Xh ?_;exact ⟨(i+1,j+1,(m.set i h)),⟨d.sb,aC,b,n⟩,(by first|omega|(dsimp only;omega))⟩
  have aA:=f
  have aB:q h=true:=by have h8:=f;simpa using h8
  have aC:=hs.no a7 aB;refine Q7<|Xa<|B _ _<|Zr d ?_;refine Zm rfl<|Ze (Xw rfl rfl (by omega) (by omega))<|Za rfl ?_;refine Zn fun a d=>?_;refine Xh ?_;exact ⟨(i,j+1,m),⟨d.sb,aC,b,n⟩,(by first|omega|(dsimp only;omega))⟩
 have a6:=e;have e:=Q1 e
 obtain ⟨b3,b4⟩:=hs.fin (by have:=e;omega)
 have b0:=hs.len;have b1:=hs.lt;have b2:=hs.jl;refine Q9<|Xk<|Xk<|X03 ?_;refine aY _ _<|Zs d fun _ aM=>?_;refine Zm rfl<|Zm rfl ?_;have b6:=(b.rd.top).dropK Xf (c:=c) b.cap i;refine Ze (X6z (l:=l) (k:=i) rfl rfl Xl X08 (by omega) (by omega))<|Zo (Xcz (enc:=encI) (l:=m) (k:=i) (L:=(l.drop i).length) rfl Xl z_3 b rfl rfl Xf (by decide) (by omega) (by rw [List.length_drop];omega)) ?_;rintro _ w5 ⟨g,hg⟩;have t:=b;have n:=gtr n hg
 clear t hg;clear b;have b:=g;clear g;refine Zx aM fun a d _ aN=>?_;refine Zm rfl<|Zm rfl ?_;have b7:=(b.rd.top).takeK Xf i;refine Ze (X2x (l:=l) (k:=i) rfl rfl Xl X08 (by omega) (by omega) aD)<|Za rfl<|Zt aN fun a d=>?_
 refine Q6 (X4 d (Xt d rfl rfl) ?_)
 exact ⟨by rw [b4],b3▸b,n⟩
theorem Xor(w0:World)(A:Option Addr)(c B0:Nat)(l:List Wr)(d:Own w0 B0 83 3 encWr A c l)(aJ:B0≤w0.heap.size)(p:Int)(hp:0≤p∧p<(l.length:Int))(aK:l.length≤1000000000) : Ret Tryz.prog 185 [.slice A l.length c,vi p,vi (p+1)] w0 (fun v w=>v=.slice A (ctW l p.toNat).length c∧Own w B0 83 3 encWr A c (ctW l p.toNat)∧w0.grownBy w (Value.slice A l.length c).ownBlock):=by
 have n:=d.cap
 have a6:=Xq9 (l:=l) (i:=p.toNat) (by omega)
 have aC:l.take p.toNat++l.drop (p.toNat+1)=ctW l p.toNat:=rfl
 have aL:(l.take p.toNat++l.drop (p.toNat+1)).length+1=l.length:=a6
 have aM:=Qn (i:=p.toNat) (l:=l);have aN:=List.length_drop (i:=p.toNat+1) (l:=l);refine enter Tryz.func185 rfl 33 rfl rfl ?_;intro a e
 have hW:w0.grownBy w0 (Value.slice A l.length c).ownBlock:=World.grownBy.refl _ _
 refine Zs e fun _ aD=>?_;refine Za rfl<|Zx aD fun a e _ aE=>?_;refine Zm rfl<|Zm rfl<|Zm rfl<|Zm rfl<|Ze (X0d rfl Xx)<|Ze (Xns (k:=p.toNat) (m:=(p.toNat+1)) (r:=l.length) rfl rfl rfl rfl Xx X0e (by omega) (by omega) rfl (by omega) (by omega) n)<|ZX aE fun a e _ aF=>?_;refine Zs e fun _ aG=>?_;refine Zm rfl<|Zm rfl<|Ze (X0b rfl rfl)<|Zt aG fun a e=>?_
 refine Xg e rfl (fun g=>?_) (fun g=>?_)
 ·have a7:=g;exact absurd (beq_iff_eq.1 g) (by omega)
 have a7:=g;refine Q7<|aF _ _<|Zs e fun _ aH=>?_;refine Zm rfl<|Ze (X0d rfl Xx)<|Za rfl<|ZX aH fun a e _ aI=>?_;refine X05 none (fun j=>[6,6].contains j) mixed ?_;intro w1 hE;have d:=d.below hE;have hW:=gbel hW hE;refine Yb e<|Yo 0 rfl (fun _=>X3 rfl)<|Yo 1 rfl (fun _=>X3 rfl) ?_
 have o:=d.takeK Xy (k:=p.toNat) (by omega)
 refine Yo 2 rfl (fun _=>X2x (l:=l) (k:=p.toNat) rfl rfl Xx X0e (by omega) (by omega) d.cap)<|Yo 3 rfl (fun _=>X3 rfl)<|Yo 4 rfl (fun _=>X3 rfl) ?_;have a8:=(d.rd.top).dropK Xy (c:=c) d.cap (p.toNat+1);refine Yo 5 rfl (fun _=>X6z (l:=l) (k:=(p.toNat+1)) rfl rfl Xx X0e (by omega) (by omega))<|Y1 6 ?_;refine Yt rfl trivial rfl (Xga (enc:=encWr) (l:=((l.take p.toNat))) (l2:=((l.drop (p.toNat+1)))) rfl rfl Xx X0e Xy X1o o a8 (by omega)) ?_;rintro _ w2 ⟨rfl,b,hg⟩;have f:=o;have hW:=gtr hW hg;clear f hg;refine Yo 7 rfl (fun _=>X11 rfl) ?_;refine Yd fun a e=>?_;refine aI _ _<|Zs e fun _ aA=>?_;refine Zm rfl<|Zm rfl<|Ze (X0d rfl Xx)<|Zm rfl<|Ze (Xl6 (k:=(l.take p.toNat++l.drop (p.toNat+1)).length) (m:=l.length) rfl rfl rfl Xx X0e rfl rfl (by omega) n)<|Zo (Xcz (enc:=encWr) (l:=((l.take p.toNat)++(l.drop (p.toNat+1)))) (k:=(l.take p.toNat++l.drop (p.toNat+1)).length) (L:=(l.length-(l.take p.toNat++l.drop (p.toNat+1)).length)) rfl Xx X2y b rfl rfl Xy (by decide) (Qb _) (by omega)) ?_;rintro _ w3 ⟨q,hg⟩;have f:=b;have hW:=gtr hW hg
 clear f hg;clear b;have b:=q;clear q;refine Zx aA fun a e _ aB=>?_;refine Zm rfl<|Za rfl<|Zt aB fun a e=>?_
 refine Q6 (X4 e (Xt e rfl rfl) ?_)
 exact ⟨rfl,by rw [← aC];exact (List.take_length (l:=l.take p.toNat++l.drop (p.toNat+1)))▸b,hW⟩
end Go.Proofs.YtpifljegadknkaaGreat
namespace Go.Proofs.YtpifljegadknkaaGreat
open Go.RowKit Go.Sort Go.Shelf Go.Lib
def sortWr_ren:Go.Shelf.Ren:=⟨fun|6=>184|15=>222|14=>221|28=>242|29=>243|20=>234|21=>235|22=>236|23=>237|24=>238|25=>239|26=>240|27=>241|46=>254|47=>255|48=>256|49=>257|50=>258|57=>262|n=>n,fun|22=>37|24=>83|25=>141|3=>3|39=>147|0=>0|53=>237|55=>101|4=>4|46=>231|45=>230|50=>76|5=>5|9=>9|66=>244|70=>248|76=>252|77=>253|n=>n,fun|n=>n⟩
theorem Xjr:SlLaysF0.n6 Tryz.prog sortWr_ren:={
 mixed:=by kernel_rfl
 f6:=⟨Tryz.f184.name,by decide,Tryz.func184.trans (congrArg some (by kernel_rfl))⟩
 f14:=⟨Tryz.f221.name,by decide,Tryz.func221.trans (congrArg some (by kernel_rfl))⟩
 f15:=Tryz.func222.trans (congrArg some (by kernel_rfl))
 f20:=⟨Tryz.f234.name,by decide,Tryz.func234.trans (congrArg some (by kernel_rfl))⟩
 f21:=⟨Tryz.f235.name,by decide,Tryz.func235.trans (congrArg some (by kernel_rfl))⟩
 f22:=⟨Tryz.f236.name,by decide,Tryz.func236.trans (congrArg some (by kernel_rfl))⟩
 f23:=⟨Tryz.f237.name,by decide,Tryz.func237.trans (congrArg some (by kernel_rfl))⟩
 f24:=⟨Tryz.f238.name,by decide,Tryz.func238.trans (congrArg some (by kernel_rfl))⟩
 f25:=⟨Tryz.f239.name,by decide,Tryz.func239.trans (congrArg some (by kernel_rfl))⟩
 f26:=⟨Tryz.f240.name,by decide,Tryz.func240.trans (congrArg some (by kernel_rfl))⟩
 f27:=⟨Tryz.f241.name,by decide,Tryz.func241.trans (congrArg some (by kernel_rfl))⟩
 f28:=Tryz.func242.trans (congrArg some (by kernel_rfl))
 f29:=Tryz.func243.trans (congrArg some (by kernel_rfl))
 f46:=⟨Tryz.f254.name,by decide,Tryz.func254.trans (congrArg some (by kernel_rfl))⟩
 f47:=Tryz.func255.trans (congrArg some (by kernel_rfl))
 f48:=Tryz.func256.trans (congrArg some (by kernel_rfl))
 f49:=⟨Tryz.f257.name,by decide,Tryz.func257.trans (congrArg some (by kernel_rfl))⟩
 f50:=⟨Tryz.f258.name,by decide,Tryz.func258.trans (congrArg some (by kernel_rfl))⟩
 f57:=⟨Tryz.f262.name,by decide,Tryz.func262.trans (congrArg some (by kernel_rfl))⟩
 t0:=Tryz.underlying0
 a0:=Tryz.isAgg0
 z0:=Tryz.sizeOf0
 v0:=Tryz.zeroValue0
 t3:=Tryz.underlying3
 a3:=Tryz.isAgg3
 z3:=Tryz.sizeOf3
 v3:=Tryz.zeroValue3
 t4:=Tryz.underlying4
 a4:=Tryz.isAgg4
 z4:=Tryz.sizeOf4
 v4:=Tryz.zeroValue4
 t5:=Tryz.underlying5
 a5:=Tryz.isAgg5
 z5:=Tryz.sizeOf5
 v5:=Tryz.zeroValue5
 t9:=Tryz.underlying9
 a9:=Tryz.isAgg9
 z9:=Tryz.sizeOf9
 v9:=Tryz.zeroValue9
 t22:=Tryz.underlying37
 a22:=Tryz.isAgg37
 z22:=Tryz.sizeOf37
 v22:=Tryz.zeroValue37
 t25:=Tryz.underlying141
 a25:=Tryz.isAgg141
 z25:=Tryz.sizeOf141
 v25:=Tryz.zeroValue141
 t39:=Tryz.underlying147
 a39:=Tryz.isAgg147
 z39:=Tryz.sizeOf147
 v39:=Tryz.zeroValue147
 t45:=Tryz.underlying230
 a45:=Tryz.isAgg230
 z45:=Tryz.sizeOf230
 v45:=Tryz.zeroValue230
 t46:=Tryz.underlying231
 a46:=Tryz.isAgg231
 z46:=Tryz.sizeOf231
 v46:=Tryz.zeroValue231
 t50:=Tryz.underlying76
 a50:=Tryz.isAgg76
 z50:=Tryz.sizeOf76
 v50:=Tryz.zeroValue76
 t53:=Tryz.underlying237
 a53:=Tryz.isAgg237
 z53:=Tryz.sizeOf237
 v53:=Tryz.zeroValue237
 t55:=Tryz.underlying101
 a55:=Tryz.isAgg101
 z55:=Tryz.sizeOf101
 v55:=Tryz.zeroValue101
 t66:=Tryz.underlying244
 a66:=Tryz.isAgg244
 z66:=Tryz.sizeOf244
 v66:=Tryz.zeroValue244
 t70:=Tryz.underlying248
 a70:=Tryz.isAgg248
 z70:=Tryz.sizeOf248
 v70:=Tryz.zeroValue248
 t76:=Tryz.underlying252
 a76:=Tryz.isAgg252
 z76:=Tryz.sizeOf252
 v76:=Tryz.zeroValue252
 t77:=Tryz.underlying253
 a77:=Tryz.isAgg253
 z77:=Tryz.sizeOf253
 v77:=Tryz.zeroValue253 }
section
variable {P : Program} {a : Act} {w : World} {n : Nat} {e : Env} {ty : TypeId} {pos : String} {af : Array Edge} {g : Option (Nat × Bool)} {d : Option Tmp}
theorem Xkv{T:TypeId}{x:Operand}{v:Value}{zs:List Value}(hf:Fr a n e)(hx:ev e x=some v)(hzs:v.cells.toList=zs) : Ef P ⟨d,.box T x,ty,pos,af,g⟩ a w (fun v w'=>∃ b,v=.pointer (some ⟨b,0,none⟩)∧w.heap.size≤b∧Below w.heap.size w w'∧Blk w' b T zs∧w'.drawn=w.drawn):=by
 subst hzs
 have h:(execOp a.eval ⟨d,.box T x,ty,pos,af,g⟩).run P w=.ok (.value (.pointer (some ⟨w.heap.size,0,none⟩))) (w.alloc (.cells v.cells T)):=by
  simp [execOp,Instr.box,X68,hf.ev hx]
 refine (Ef.of_run h).mono fun v' w' ⟨e1,e2⟩=>?_
 subst e1;subst e2
 have h9:=X4c w T v.cells.toList;exact ⟨_,rfl,Qb _,(Below.refl _ _).alloc (Qb _) _,by simpa using h9,rfl⟩
theorem Xpe{T:TypeId}{x:Operand}{v:Value}{zs:List Value}(hx:ev e x=some v)(hzs:v.cells.toList=zs) : EfW P ⟨d,.box T x,ty,pos,af,g⟩ n e w (fun v w'=>∃ b,v=.pointer (some ⟨b,0,none⟩)∧w.heap.size≤b∧Below w.heap.size w w'∧Blk w' b T zs∧w'.drawn=w.drawn):=fun a hf=>Xkv hf hx hzs
theorem X8g{T E sz bytes:Nat}{k:Nat}{parts:List (Nat×Operand)}{vs zs:List Value}(hf:Fr a n e)(hp:evp e parts=some (numb 0 vs))(hT:SliceT P T E)(hi:InfoT P E sz bytes)(hv:(vs.all (fun v=>Nat.beq v.cells.size sz)&&Nat.beq vs.length k&&Nat.ble (k*sz) 1000)=true)(hz:vs.flatMap (fun v=>v.cells.toList)=zs) :
  Ef P ⟨d,.buildSlice T k parts.toArray,ty,pos,af,g⟩ a w (fun v w'=>∃ b,v=.slice (some ⟨b,0,none⟩) k k∧w.heap.size≤b∧Below w.heap.size w w'∧Blk w' b E zs∧w'.drawn=w.drawn):=by
 subst hz
 obtain ⟨i,z,hi1,hi2,hi3,hi4,hi5,hi6⟩:=hi
 simp only [Qd,W1] at hv
 obtain ⟨⟨hv1,hv2⟩,hv3⟩:=hv
 have hk:vs.length=k:=Nat.eq_of_beq_eq_true hv2
 have hk3:k*sz≤1000:=Nat.le_of_ble_eq_true hv3
 have h1:=hf.evp hp
 have hfill:=X74 sz vs 0 ((Array.range (k*sz)).map fun j=>z.cells[j % z.cells.size]!) (fun v hv=>Nat.eq_of_beq_eq_true (hv1 v hv)) (by simp [hk])
 simp only [Nat.zero_mul,List.take_zero,List.nil_append] at hfill
 refine (Ef.of_run (v:=.slice (some ⟨w.heap.size,0,none⟩) k k) (w':=w.alloc (.cells (vs.flatMap fun v=>v.cells.toList).toArray E)) ?_).mono fun v w' ⟨e1,e2⟩=>?_
 ·simp only [execOp,List.map_toArray]
  rw [show (List.map (fun x:Nat×Operand=>match x with|(i,x)=>(i,a.eval x)) parts)=numb 0 vs from h1]
  have h24:¬ (16777216<k*sz):=by omega
  by_cases h0:k*sz=0
  ·have hf0:Instr.fill (fun i=>some (i*sz,sz)) #[] (numb 0 vs)=some (vs.flatMap fun v=>v.cells.toList).toArray:=by
    rw [← hfill,h0]
    congr 1
    simp [Array.range_zero']
   simp [Instr.buildSlice,X0x hT,sizeOf,typeInfo,hi1,hi3,h0,newRow,newObj,Sem.run,Array.range_zero',hf0]
  ·simp [Instr.buildSlice,X0x hT,sizeOf,typeInfo,hi1,hi3,h24,h0,zeroValue,hi2,newRow,newObj,Sem.run,hfill]
 ·subst e1;subst e2
  exact ⟨_,rfl,Qb _,(Below.refl _ _).alloc (Qb _) _,X4c w E _,rfl⟩
theorem Xa2{T E sz bytes:Nat}{k:Nat}{parts:List (Nat×Operand)}{vs zs:List Value}(hp:evp e parts=some (numb 0 vs))(hT:SliceT P T E)(hi:InfoT P E sz bytes)(hv:(vs.all (fun v=>Nat.beq v.cells.size sz)&&Nat.beq vs.length k&&Nat.ble (k*sz) 1000)=true)(hz:vs.flatMap (fun v=>v.cells.toList)=zs) : EfW P ⟨d,.buildSlice T k parts.toArray,ty,pos,af,g⟩ n e w (fun v w'=>∃ b,v=.slice (some ⟨b,0,none⟩) k k∧w.heap.size≤b∧Below w.heap.size w w'∧Blk w' b E zs∧w'.drawn=w.drawn):=fun a hf=>X8g hf hp hT hi hv hz
theorem Xhe(V:Option Vk)(tl:Nat→Bool){id:Nat}{l:List Oper}{Q':Exit→Act→World→Prop}(hm:P.follows .mixedOrders=true)
  (h:∀ w',Below w.heap.size w w'→w.drawn≤w'.drawn→wpS P l.toArray V tl (Q' .normal) l.length (mask l.toArray []) a w') : (Code.region id l.toArray true).wp P Q' a w:=by
 refine wp_region_any hm ?_
 rw [Xbw]
 exact X2t (fun _ _ h=>h) _ _ _ _ (by simpa using h w.drew (Below.refl _ _).drew (Nat.le_succ _))
end
theorem Xsg(w0:World)(x:Wr)(y:Wr) : Ret Tryz.prog 101 [.agg #[vi x.a,vi x.b,.bool x.h],.agg #[vi y.a,vi y.b,.bool y.h]] w0 (fun v w=>v=vi (cmW x y)∧Below w0.heap.size w0 w∧w0.drawn≤w.drawn):=by
 refine enter Tryz.func101 rfl 17 rfl rfl ?_;intro a hf
 have hW:Below w0.heap.size w0 w0:=Below.refl _ _
 have hDr:w0.drawn≤w0.drawn:=Qb _
 refine Zs hf fun _ hK1=>?_;refine Zf (Xpe (zs:=[vi x.a,vi x.b,.bool x.h]) rfl rfl) ?_;rintro _ w1 ⟨b2,rfl,hl2,hE,hB2,hd⟩;replace hDr:=Q0 hDr (Nat.le_of_eq hd.symm);clear hd;have hlo2:=Q0 hW.size hl2;replace hW:=btr hW hE;clear hE;refine Zf (Xpe (zs:=[vi y.a,vi y.b,.bool y.h]) rfl rfl) ?_;rintro _ w2 ⟨b3,rfl,hl3,hE,hB3,hd⟩;replace hDr:=Q0 hDr (Nat.le_of_eq hd.symm);clear hd
 have hne2_3:b2≠b3:=by have:=hB2.lt;omega
 have hlo3:=Q0 hW.size hl3;replace hB2:=hB2.below hE;replace hW:=btr hW hE;clear hE;refine Za rfl ?_;refine Zt hK1 fun a hf=>?_;refine Q5 fun _ hK4=>?_;refine Xhe none (fun _=>false) mixed ?_;intro w3 hE hd;replace hDr:=Q0 hDr hd;clear hd;replace hB2:=hB2.below hE;replace hB3:=hB3.below hE;replace hW:=btr hW hE;clear hE;refine Yb hf ?_;refine Yo 0 rfl (fun _=>Vd rfl X0q 0) ?_;refine Ye 1 rfl (X0 rfl X9 (hB2.at 0)) ?_;refine Yo 2 rfl (fun _=>Vd rfl X0q 0) ?_;refine Ye 3 rfl (X0 rfl X9 (hB3.at 0)) ?_;refine Yo 5 rfl (fun _=>Vd rfl X0u 1) ?_;refine Ye 6 rfl (X0 rfl X9 (hB2.at 1)) ?_;refine Yo 7 rfl (fun _=>Vd rfl X0u 1) ?_;refine Ye 8 rfl (X0 rfl X9 (hB3.at 1)) ?_;refine Y1 4 ?_;refine Yz rfl trivial (Vc (Xer _ x.a y.a) X7p) ?_;refine Y1 9 ?_;refine Yz rfl trivial (Vc (Xer _ x.b y.b) X7p) ?_;refine Y1 10 ?_;refine Yk rfl trivial (Xa2 (k:=2) (vs:=[vi (cmI x.a y.a),vi (cmI x.b y.b)]) (zs:=[vi (cmI x.a y.a),vi (cmI x.b y.b)]) rfl Xl X1q rfl rfl) (fun _ _ ⟨_,_,_,h,_⟩=>h) ?_;rintro _ w4 ⟨b5,rfl,hl5,hE,hB5,hd⟩;replace hDr:=Q0 hDr (Nat.le_of_eq hd.symm);clear hd;have hlo5:=Q0 hW.size hl5;replace hB2:=hB2.below hE;replace hB3:=hB3.below hE;replace hW:=btr hW hE;clear hE;refine Y1 11 ?_;refine Yz rfl trivial (Vc (Xoc _ (some ⟨b5,0,none⟩) 2 ([cmI x.a y.a,cmI x.b y.b]) (Rd.of_blk hB5 rfl _ hB5.lt) (by simp)) Xfk) ?_;refine Yo 12 rfl (fun _=>X11 rfl) ?_;refine Yd fun a hf=>?_;refine hK4 _ _ ?_;refine Q6 ?_;refine X4 hf (Xt hf rfl rfl) ?_;exact ⟨by rw [Xpp],hW,hDr⟩
theorem Xd9{w w':World}(h:Below w.heap.size w w')(hd:w.drawn≤w'.drawn) : ∃ q os',w'=grow (w.drewN q) os':=by
 refine ⟨w'.drawn-w.drawn,(w'.heap.extract w.heap.size w'.heap.size),?_⟩
 have h1:w.heap++w'.heap.extract w.heap.size w'.heap.size=w'.heap:=by
  apply Array.ext_getElem?
  intro k
  rw [Array.getElem?_append]
  split
  ·rename_i hk
   exact (h.block k hk).symm
  ·rename_i hk
   rw [Array.getElem?_extract]
   have:=h.size
   by_cases h9:k<w'.heap.size
   ·rw [Q4 (by omega)]
    congr 1
    omega
   ·rw [Q3 (by omega),We (by omega)]
 cases w' with
 | mk hp tp dr os out=>
  unfold grow World.drewN
  have e1:=h.os
  have e2:=h.tape
  have e3:=h.output
  dsimp only at e1 e2 e3 h1 hd ⊢
  rw [h1,e1,e2,e3]
  congr 1
  omega
theorem Xq0(x y:Wr)(W:World) : Calls Tryz.prog 101 #[.agg #[.int .i64 x.a,.int .i64 x.b,.bool x.h],.agg #[.int .i64 y.a,.int .i64 y.b,.bool y.h]] W fun e w'=>e=.returned (.int .i64 (cmW x y))∧∃ q os',w'=grow (W.drewN q) os':=
 Calls.mono (Xsg W x y) fun e w ⟨v,h1,h2,h3,h4⟩=>⟨by rw [h1,h2],Xd9 h3 h4⟩
instance:Inhabited Wr:=⟨wZ⟩
theorem Xk8(x y:Wr) : decide (cmW x y<0)=wlt x y:=by
 unfold cmW cmI wlt
 apply Bool.eq_iff_iff.2
 simp only [Qr,Bool.or_eq_true,Qd,beq_iff_eq]
 by_cases h1:x.a<y.a
 ·simp [h1]
 by_cases h2:y.a<x.a
 ·have:¬ x.a=y.a:=by omega
  simp [h1,h2,this]
 have h3:x.a=y.a:=by omega
 by_cases h4:x.b<y.b
 ·simp [h3,h4]
 by_cases h5:y.b<x.b
 ·simp [h3,h4,h5]
 ·simp [h3,h4,h5]
theorem ltW(x y:Wr) : ltOf cmW x y=wlt x y:=by
 unfold ltOf
 exact Xk8 x y
theorem Xxe:SWO (ltOf cmW) where
 irrefl x:=by rw [ltW,X4y];omega
 trans x y z h1 h2:=by rw [ltW] at *;exact Xcv h1 h2
 ntrans x y z h1 h2:=by rw [ltW,X4y] at *;omega
theorem Xj9(blk off size:Nat)(w:World) : CmpLays Tryz.prog 101 #[] encWr 3 cmW blk off size w:=fun _ _ _ _ x y=>Xq0 x y _
theorem Xpn(w0:World)(B0:Nat)(A:Option Addr)(c:Nat)(l:List Wr)(ho:Own w0 B0 83 3 encWr A c l)(hl:l.length≤100000000) :
  Ret Tryz.prog 184 [.slice A l.length c,.func (.func 101) #[] #[]] w0 (fun v w=>v=.tuple #[]∧(∃ l',l'.Perm l∧(l'.Pairwise fun x y=>wlt y x=false)∧Own w B0 83 3 encWr A c l')∧w0.grownBy w (Value.slice A l.length c).ownBlock):=by
 by_cases h0:l=[]
 ·subst h0
  refine Calls.mono (AnyF.slices_SortFunc_none Xjr A c _ w0) fun e w ⟨e1,e2⟩=>⟨_,e1,?_⟩
  subst e2
  exact ⟨rfl,⟨[],List.Perm.refl _,List.Pairwise.nil,ho⟩,World.grownBy.refl w _⟩
 ·rcases ho.2 with ⟨h1,h2⟩|⟨g,cap,cur,h1,h2,h3,h4,h5,h6,h7⟩
  ·exact absurd (List.eq_nil_of_length_eq_zero h2) h0
  ·injection h1 with h1 _ h1''
   subst h1;subst h1''
   have hfl:(flatK encWr 3 l.toArray).toList=l.flatMap encWr:=X7s Xy l
   have hfs:(flatK encWr 3 l.toArray).size=l.length*3:=by simp
   have hH:HoldsK encWr 3 w0 g 0 l.toArray:=Xrl h3 (by rw [hfs,hfl];exact h7)
   have eg:Enters Tryz.prog 101:=enters_of Tryz.func101 (by kernel_rfl) rfl
   have hcon:=AnyQ.slices_SortFunc Xjr 3 Tryz.isAgg83 Tryz.sizeOf83 encWr Xy (fun x v hv=>by simp [encWr] at hv;rcases hv with rfl|rfl|rfl<;>rfl) cmW Xxe _ #[] g 0 c l.toArray w0 eg (Xj9 _ _ _ _) hH (Qp.1 h3).1 (by simp;omega)
   have hcon2:Calls Tryz.prog 184 #[.slice (some ⟨g,0,none⟩) l.length c,.func (.func 101) #[] #[]] w0 fun e w'=>e=.returned (.tuple #[])∧∃ d' n os,PermIn 0 l.toArray.size l.toArray d'∧SortedIn (ltOf cmW) 0 l.toArray.size d'∧w'=sortWorldK encWr 3 w0 g 0 n d' os:=by
    have e:l.toArray.size=l.length:=by simp
    rw [e] at hcon ⊢
    exact hcon
   refine Calls.mono hcon2 fun e w ⟨e1,d',n,os,hp,hs,e2⟩=>⟨_,e1,rfl,?_⟩
   subst e2
   have hd:d'.size=l.length:=by rw [hp.1];simp
   have hpl:d'.toList.Perm l:=by
    have:=hp.2.2
    rw [← hp.1] at this
    simpa [Qi (show l.length≤d'.size by omega)] using this
   have hfs2:(flatK encWr 3 d').size=l.length*3:=by simp [hd]
   have hfl2:(flatK encWr 3 d').toList=d'.toList.flatMap encWr:=by
    have:=X7s Xy d'.toList
    rw [Array.toArray_toList] at this
    exact this
   have hcur:(flatK encWr 3 d').size≤cur.size:=by
    have:=congrArg List.length h7
    rw [Qn,Xo Xy] at this
    rw [hfs2]
    have h8:cur.toList.length=cur.size:=Array.length_toList
    omega
   have hlen:d'.toList.length=l.length:=by simp [hd]
   refine ⟨⟨d'.toList,hpl,?_,⟨Xo Xy _,.inr ⟨g,c,_,by rw [hlen],h2,Xgp _ h3,by rw [hlen];omega,h5,by simp [putCells,h6],?_⟩⟩⟩,?_⟩
   ·rw [W0]
    intro i j hi hj hij
    have hi':i<d'.size:=by simpa using hi
    have hj':j<d'.size:=by simpa using hj
    have h9:=hs i j (Qf _) hij (by rw [← hp.1];exact hj')
    rw [ltW] at h9
    rw [getElem!_pos d' i hi',getElem!_pos d' j hj'] at h9
    exact h9
   ·have:=Xgu cur (flatK encWr 3 d') hcur
    rw [hfs2,hfl2] at this
    rw [hlen];exact this
   ·exact Xd7 _
end Go.Proofs.YtpifljegadknkaaGreat
namespace Go.Proofs.YtpifljegadknkaaGreat
open Go.RowKit
theorem X91:∀ (l:List Wr) (x:Wr),(insW l x).Perm (x::l)
 | [],x=>List.Perm.refl _
 | y::l,x=>by
  unfold insW
  split
  ·exact ((X91 l x).cons y).trans (List.Perm.swap x y l)
  ·exact List.Perm.refl _
theorem Xdn{l:List Wr}(h:WSd l){x y:Wr}(hx:x ∈ l)(hy:y ∈ l)(h1:wlt x y=false)(h2:wlt y x=false) : x=y:=by
 obtain ⟨i,hi,rfl⟩:=List.mem_iff_getElem.1 hx;obtain ⟨j,hj,rfl⟩:=List.mem_iff_getElem.1 hy;have hp:=W0.1 h
 rcases Nat.lt_trichotomy i j with h9|h9|h9
 ·rw [hp i j hi hj h9] at h1;cases h1
 ·subst h9;rfl
 ·rw [hp j i hj hi h9] at h2;cases h2
theorem Xc5{ws l:List Wr}{x:Wr}(hp:l.Perm (ws++[x]))(hs:l.Pairwise fun x y=>wlt y x=false)(hw:WSd ws)(ha:∀ y ∈ ws,¬ (y.a=x.a∧y.b=x.b)) : l=insW ws x:=by
 have hi:=Xdc hw ha
 have hpp:l.Perm (insW ws x):=(hp.trans (List.perm_append_singleton x ws)).trans (X91 ws x).symm
 refine List.Perm.eq_of_pairwise (le:=fun x y=>wlt y x=false) (fun a b h1 h2 h3 h4=>?_) hs (hi.imp fun {a b} h=>?_) hpp
 ·exact Xdn hi (hpp.mem_iff.1 h1) h2 h4 h3
 ·rw [X4y]
  rw [X3q] at h
  omega
theorem Xh6{ws:List Wr}{p q:Int}(h:fdW ws p q<0){x:Bool} : ∀ y ∈ ws,¬ (y.a=(⟨min p q,max p q,x⟩ : Wr).a∧y.b=(⟨min p q,max p q,x⟩ : Wr).b):=fun y hy h9=>by
 have h1:=Xj3 h y hy
 have h2:isW p q y=true:=X2e.2 h9
 rw [h2] at h1
 cases h1
def Dgm(w:World)(b B0:Nat)(A0:Option Addr)(c0:Nat)(A1:Option Addr)(c1 m:Nat)(d:Dg) : Prop:=
 Blk w b 39 [.int .i64 d.n,.slice A0 m c0,.slice A1 d.ws.length c1,.int .i64 d.t,.int .i64 d.r]∧Own w B0 81 2 encNd A0 c0 d.ns∧Own w B0 83 3 encWr A1 c1 d.ws∧m=d.ns.length
def ctO(ws:List Wr)(p q:Int) : List Wr:=if 0≤fdW ws p q then ctW ws (fdW ws p q).toNat else ws
theorem Xvq(l:List Wr)(k:Int) : (l.filter fun x=>!(x.a==k||x.b==k))=dpW l k:=by
 unfold dpW
 congr 1
 funext x
 simp only [bne,Bool.not_or]
theorem X82{ws:List Wr}{p q:Int}(h:0≤fdW ws p q) : ctO ws p q=ctW ws (fdW ws p q).toNat:=Q4 h
theorem Xil{ws:List Wr}{p q:Int}(h:¬ 0≤fdW ws p q) : ctO ws p q=ws:=Q3 h
theorem Xmx{ws:List Wr}{p q:Int}(h:tyW ws p q=0) : fdW ws p q<0:=by
 unfold tyW at h
 split at h
 ·assumption
 ·split at h<;>omega
theorem Xd6{ws:List Wr}{p q:Int}(h:tyW ws p q≠0) : 0≤fdW ws p q:=by
 unfold tyW at h
 split at h
 ·exact absurd rfl h
 ·omega
def tgI(d:Dg)(p q:Int) : Dg:=if tyW d.ws p q=1 then d else tgD d p q
theorem Xwo{d:Dg}{p q:Int}(h:tyW d.ws p q=0) : tgI d p q = { d with ws:=jnW d.ws p q true,r:=wr (d.r+1) }:=by
 unfold tgI
 rw [Q3 (by omega)]
 exact Xtq (by have:=Xmx h;omega)
theorem Xwd{d:Dg}{p q:Int}(h:tyW d.ws p q=1) : tgI d p q=d:=Q4 h
theorem Xuw{d:Dg}{p q:Int}(h0:tyW d.ws p q≠0)(h1:tyW d.ws p q≠1) : tgI d p q = { d with ws:=ctO d.ws p q,r:=wr (d.r-1) }:=by
 unfold tgI
 rw [Q3 h1,Xtj (Xd6 h0),X82 (Xd6 h0)]
theorem Xjp{ws:List Wr}{p q:Int}(h:0≤fdW ws p q) : tyW ws p q=if (ws.getD (fdW ws p q).toNat wZ).h=true then 2 else 1:=by
 unfold tyW
 rw [Q3 (by omega)]
theorem Xqm{ws:List Wr}(hw:WSd ws){p q:Int} : fdW (ctO ws p q) p q<0:=by
 by_cases h:0≤fdW ws p q
 ·obtain ⟨w,h1,h2,_⟩:=X86 h
  rw [X82 h,Xex hw h1 h2]
  omega
 ·rw [Xil h];omega
theorem Xpx{ws:List Wr}(hw:WSd ws)(p q:Int) : WSd (ctO ws p q):=by
 unfold ctO
 split
 ·exact Xby hw _
 ·exact hw
theorem Xnj(ws:List Wr)(p q:Int) : (ctO ws p q).length≤ws.length:=by
 unfold ctO
 split
 ·exact (X41 _ _).length_le
 ·exact Qb _
theorem Xvw{d:Dg}{p q:Int}{x:Bool}(h:tyW d.ws p q=0) : lkD d p q x = { d with ws:=jnW d.ws p q x }:=Xtk (Xmx h)
theorem Xuh{d:Dg}{p q:Int}{x:Bool}(h:(tyW d.ws p q==1&&!x)=true) : lkD d p q x=d:=by
 rw [Qd,beq_iff_eq] at h
 have h0:=Xd6 (ws:=d.ws) (p:=p) (q:=q) (by omega)
 have h2:=Xjp h0
 cases hh:(d.ws.getD (fdW d.ws p q).toNat wZ).h with
 | true=>rw [hh] at h2;simp at h2;omega
 | false=>
  have hx:x=false:=by simpa using h.2
  subst hx
  exact Xwk (by omega) (by rw [hh];rfl) (by rw [hh];rfl)
theorem Xw9{d:Dg}{p q:Int}{x:Bool}(h:(tyW d.ws p q==2&&x)=true) : lkD d p q x = { d with ws:=ctO d.ws p q,r:=wr (d.r-2) }:=by
 rw [Qd,beq_iff_eq] at h
 have h0:=Xd6 (ws:=d.ws) (p:=p) (q:=q) (by omega)
 have h2:=Xjp h0
 cases hh:(d.ws.getD (fdW d.ws p q).toNat wZ).h with
 | false=>rw [hh] at h2;simp at h2;omega
 | true=>rw [Xsm (by omega) (by rw [hh,h.2];rfl),X82 h0]
theorem Xu0{d:Dg}{p q:Int}{x:Bool}(h0:tyW d.ws p q≠0)(h1:(tyW d.ws p q==1&&!x)=false)(h2:(tyW d.ws p q==2&&x)=false) : lkD d p q x = { d with ns:=adN d.ns (min p q) 4,ws:=jnW (ctO d.ws p q) p q false,r:=wr (d.r-1) }:=by
 have g0:=Xd6 h0
 have g2:=Xjp g0
 rw [X82 g0]
 cases hh:(d.ws.getD (fdW d.ws p q).toNat wZ).h with
 | false=>
  rw [hh] at g2
  have g3:tyW d.ws p q=1:=by simpa using g2
  have hx:x=true:=by rw [g3] at h1;simpa using h1
  subst hx
  exact Xrz (by omega) (by rw [hh];rfl) (by rw [hh];rfl)
 | true=>
  rw [hh] at g2
  have g3:tyW d.ws p q=2:=by simpa using g2
  have hx:x=false:=by rw [g3] at h2;simpa using h2
  subst hx
  exact Xrz (by omega) (by rw [hh];rfl) (by rw [hh];rfl)
section
variable {α β : Type} {w w' : World} {b B0 B1 : Nat} {A A' : Option Addr} {l : List (Option Addr)} {E E' T : TypeId} {sz sz' c c' : Nat} {enc : α → List Value} {enc' : β → List Value} {r : List α} {r' : List β} {bcs : List Value}
theorem X0n(ho:Own w B0 E' sz' enc' A' c' r')(hE:Nat.beq E' E=false) : ∀ k cs fz,ownB A'=some k→w.heap[k]? = some (.cells cs E fz)→False:=fun k cs fz hk hh=>by
 obtain ⟨_,_,cs',fz',h3⟩:=ho.block (k:=k) (by rw [X4j];exact hk)
 rw [h3] at hh;injection hh with hh;injection hh with _ e _;subst e;simp at hE
theorem Own.tu(h:Own w B0 E sz enc A c r)(hts:TurnS (SB b l) w w')(hb:Blk w b T bcs)(h1:Nat.beq T E=false)(hr:∀ A' ∈ l,∀ k cs fz,ownB A'=some k→w.heap[k]? = some (.cells cs E fz)→False) : Own w' B0 E sz enc A c r:=by
 refine ⟨h.1,?_⟩
 rcases h.2 with h2|⟨g,cap,cur,e1,e2,e3,e4⟩
 ·exact .inl h2
 ·refine .inr ⟨g,cap,cur,e1,e2,?_,e4⟩
  have hlt:g<w.heap.size:=(Qp.1 e3).1
  rw [hts.block g hlt fun hk=>?_]
  ·exact e3
  ·rcases hk with e|⟨A',hA,hk⟩
   ·subst e
    unfold Blk at hb
    rw [hb] at e3;injection e3 with e3;injection e3 with _ e _;subst e;simp at h1
   ·exact hr A' hA g _ _ hk e3
theorem Rd.tu{B:Nat}(h:Rd w B E enc A r)(hts:TurnS (SB b l) w w')(hb:Blk w b T bcs)(h1:Nat.beq T E=false)(hr:∀ A' ∈ l,∀ k cs fz,ownB A'=some k→w.heap[k]? = some (.cells cs E fz)→False) : Rd w' B E enc A r:=fun hl=>by
 obtain ⟨g,off,cs,fz,e1,e2,e3,e4⟩:=h hl
 refine ⟨g,off,cs,fz,e1,e2,?_,e4⟩
 have hlt:g<w.heap.size:=(Qp.1 e3).1
 rw [hts.block g hlt fun hk=>?_]
 ·exact e3
 ·rcases hk with e|⟨A',hA,hk⟩
  ·subst e
   unfold Blk at hb
   rw [hb] at e3;injection e3 with e3;injection e3 with _ e _;subst e;simp at h1
  ·exact hr A' hA g _ _ hk e3
end
theorem X6r:∀ {ws:List Wr} {k:Int},(∀ w ∈ ws,w.a<w.b)→cnW ws k=((nearW ws k).length:Int)
 | [],_,_=>rfl
 | w::ws,k,h=>by
  have ih:=X6r (ws:=ws) (k:=k) fun x hx=>h x (by simp [hx])
  have hw:=h w (by simp)
  unfold cnW nearW at ih ⊢
  rw [List.filter_cons,List.filterMap_cons]
  by_cases h1:k=w.a
  ·have e:otW k w=some w.b:=Q4 h1
   have e2:(w.a==k||w.b==k)=true:=by simp [h1]
   rw [e,e2]
   simp only [if_true,Qs]
   omega
  ·by_cases h2:k=w.b
   ·have e:otW k w=some w.a:=by unfold otW;rw [Q3 h1,Q4 h2]
    have e2:(w.a==k||w.b==k)=true:=by simp [h2]
    rw [e,e2]
    simp only [if_true,Qs]
    omega
   ·have e:otW k w=none:=by unfold otW;rw [Q3 h1,Q3 h2]
    have e2:(w.a==k||w.b==k)=false:=by simp [Ne.symm h1,Ne.symm h2]
    rw [e,e2]
    simp only [Bool.false_eq_true,if_false]
    exact ih
theorem Xdi{d:Dg}(hG:goodD d=true){a v:Int}(hv:v ∈ nearW d.ws a)(hs:spI d.ns v=false) : ∀ w ∈ dpW d.ws a,w.a≠v∧w.b≠v:=by
 have hD:=X1e hG;have hr:=X34 hD hv
 have hx:d.ns[v.toNat]? = some (d.ns.getD v.toNat nZ):=Xb hr.2
 have hq:=(X2n hG).2.2.1 v.toNat hr.2
 have hvt:((v.toNat:Nat) : Int)=v:=by omega
 rw [hvt] at hq
 obtain ⟨w0,hw0,ho⟩:=X6k.1 hv;have hab:=hD.w.l
 have hk:(d.ns.getD v.toNat nZ).k≠3:=fun h3=>by
  have:spI d.ns v=true:=by
   unfold spI
   rw [h3,X0f.2 ⟨hr.1,by omega⟩]
   rfl
  rw [this] at hs;cases hs
 have htouch:(w0.a==v||w0.b==v)=true:=by
  rcases X5n ho with ⟨_,h2⟩|⟨_,h2⟩<;>simp [h2]
 have hmem:w0 ∈ d.ws.filter (fun w=>w.a==v||w.b==v):=List.mem_filter.2 ⟨hw0,htouch⟩
 have hone:cnW d.ws v=1:=by
  unfold ndQ at hq
  split at hq
  ·simp only [Qd,beq_iff_eq] at hq
   have h0:=hq.2
   unfold cnW at h0
   have:=List.length_pos_of_mem hmem
   omega
  ·split at hq
   ·simp only [Qd,beq_iff_eq] at hq
    exact hq.2
   ·simp only [Qd,beq_iff_eq] at hq
    exact absurd hq.1 hk
 intro w hw;have hw2:=List.mem_filter.1 hw
 have hna:w.a≠a∧w.b≠a:=by simpa using hw2.2
 by_cases ht:(w.a==v||w.b==v)=true
 ·exfalso
  have hmw:w ∈ d.ws.filter (fun w=>w.a==v||w.b==v):=List.mem_filter.2 ⟨hw2.1,ht⟩
  unfold cnW at hone
  obtain ⟨z,hz⟩:=List.length_eq_one_iff.1 (show (d.ws.filter (fun w=>w.a==v||w.b==v)).length=1 by omega)
  rw [hz] at hmem hmw
  have e1:=Qm.1 hmem
  have e2:=Qm.1 hmw
  subst e1
  subst e2
  rcases X5n ho with ⟨h2,_⟩|⟨h2,_⟩
  ·exact hna.1 h2.symm
  ·exact hna.2 h2.symm
 ·simpa using ht
theorem Xeg{ns:List Nd}{a v:Int}(hv:0≤v)(ha:0≤a)(hne:v≠a) : spI (dpN ns a) v=spI ns v:=by
 unfold spI
 rw [X1v]
 unfold dpN
 rw [Qa,List.getElem?_set_ne (by omega),← Qa]
theorem X9w{d:Dg}(hD:InD d){a v:Int}(hv:v ∈ nearW d.ws a) : v≠a:=by
 obtain ⟨w0,hw0,ho⟩:=X6k.1 hv
 have:=hD.w.l w0 hw0
 rcases X5n ho with ⟨_,h2⟩|⟨_,h2⟩<;>omega
theorem X9z{ws:List Wr}{u v:Int}(h:(∀ w ∈ ws,w.a≠u∧w.b≠u)∨∀ w ∈ ws,w.a≠v∧w.b≠v) : fdW ws u v<0:=by
 have:fdW ws u v = -1:=Xp1 fun w hw=>by
  cases hh:isW u v w with
  | false=>rfl
  | true=>
   have h2:=X2e.1 hh
   rcases h with h|h
   ·have:=h w hw;omega
   ·have:=h w hw;omega
 omega
theorem Xmz{d:Dg}(hG:goodD d=true){a u v:Int}(ha:0≤a)(hu:u ∈ nearW d.ws a)(hv:v ∈ nearW d.ws a)(h:(spI (id0 d a).ns u&&spI (id0 d a).ns v)=false) : fdW (id0 d a).ws u v<0:=by
 have hD:=X1e hG
 have ru:=X34 hD hu
 have rv:=X34 hD hv
 have e1:spI (id0 d a).ns u=spI d.ns u:=Xeg ru.1 ha (X9w hD hu)
 have e2:spI (id0 d a).ns v=spI d.ns v:=Xeg rv.1 ha (X9w hD hv)
 rw [e1,e2,Bool.and_eq_false_iff] at h
 rcases h with h|h
 ·exact X9z (.inl (Xdi hG hu h))
 ·exact X9z (.inr (Xdi hG hv h))
theorem Xek{ws:List Wr}{k:Int}{j:Nat}(hj:j<(nearW ws k).length) : (nearW ws k).getD j 0 ∈ nearW ws k:=Qe (Xb (d:=0) hj)
theorem Xsw{d:Dg}(hD:InD d){a:Int}(h:(!(spI d.ns a)||(d.ns.getD a.toNat nZ).p != 0||cnW d.ws a != 2)=true) : idC d a=false:=by
 rw [X6r hD.w.l] at h
 rw [Bool.or_eq_true] at h
 rcases h with h|h
 ·exact (Xdk h).1
 ·exact Xhv h
theorem Xrt{d:Dg}(hD:InD d){a:Int}(h:(!(spI d.ns a)||(d.ns.getD a.toNat nZ).p != 0||cnW d.ws a != 2)=false) : idC d a=true∧(nearW d.ws a).length=2∧0≤a∧a.toNat<d.ns.length:=by
 rw [X6r hD.w.l] at h
 rw [Bool.or_eq_false_iff] at h
 have h1:=Xam h.1;have h2:=Xff h1 h.2;have h3:=X19 h1.1;exact ⟨h2.1,h2.2,h3.1,h3.2.1⟩
theorem Xbd(w0:World)(bV B0:Nat)(A0:Option Addr)(c0:Nat)(A1:Option Addr)(c1 m0:Nat)(d:Dg)(a7:Dgm w0 bV B0 A0 c0 A1 c1 m0 d)(aD:B0≤w0.heap.size)(p:Int)(f:Int)(hp:0≤p∧p.toNat<d.ns.length)(a8:PhN d.ns)(aE:-8≤f∧f≤900) : Ret Tryz.prog 201 [.pointer (some ⟨bV,0,none⟩),vi p,vi f] w0 (fun v w=>∃ A c,TurnS (SB bV [A0,A1]) w0 w∧Us (SB bV [A0,A1]) w0 A∧Dgm w bV B0 A0 c0 A c m0 ({ d with ns:=adN d.ns p f } : Dg)):=by
 obtain ⟨e,b,g,a6⟩:=a7;have aC:=e.lt
 have aA:Us (SB bV [A0,A1]) w0 A0:=SB.us (by simp)
 have aB:Us (SB bV [A0,A1]) w0 A1:=SB.us (by simp)
 have aF:=X1s a8 p.toNat;refine enter Tryz.func201 rfl 25 rfl rfl ?_;intro a hf
 have hW:TurnS (SB bV [A0,A1]) w0 w0:=TurnS.refl _ _
 refine X05 none (fun j=>[19].contains j) mixed ?_;intro w1 hE;have e:=e.below hE;have b:=b.below hE;have g:=g.below hE;have hW:=tsbel hW hE;refine Yb hf<|Yo 0 rfl (fun _=>X3 rfl)<|Yo 1 rfl (fun _=>Xz rfl)<|Yo 2 rfl (fun _=>Vd rfl Xj 1)<|Ye 3 rfl (X0 rfl X00 (e.at 1))<|Yo 4 rfl (fun _=>X3 rfl)<|Yo 5 rfl (fun _=>X3 rfl)<|Yo 6 rfl (fun _=>Xz rfl)<|Yo 7 rfl (fun _=>Vd rfl Xj 1)<|Ye 8 rfl (X0 rfl X00 (e.at 1))<|Yo 9 rfl (fun _=>X3 rfl) ?_;refine Yo 10 rfl (fun _=>Xi (k:=p.toNat) rfl rfl Xs X07 b a6 (by omega) (by omega))<|Yo 11 rfl (fun _=>X15 rfl X06 (m':=p.toNat*2+1) rfl)<|Ye 12 rfl (X0 rfl X9 (X0g b Xv (Xb (d:=nZ) (by omega)) 1 rfl))<|Yo 13 rfl (fun _=>X3 rfl)<|Yo 14 rfl (fun _=>Xw rfl rfl (by omega) (by omega))<|Yo 15 rfl (fun _=>Xw rfl rfl (by omega) (by omega))<|Yo 16 rfl (fun _=>Vx (X4v rfl rfl rfl) (Xy5 (by omega)))<|Yo 17 rfl (fun _=>Xi (k:=p.toNat) rfl rfl Xs X07 b a6 (by omega) (by omega))<|Yo 18 rfl (fun _=>X15 rfl X06 (m':=p.toNat*2+1) rfl)<|Y1 19 ?_;refine Yh rfl trivial rfl (X0h (enc:=encNd) (l:=d.ns) (vs:=[vi (((d.ns.getD p.toNat nZ).p+f) % 8)]) (x0:=(d.ns.getD p.toNat nZ)) (u:=(⟨(d.ns.getD p.toNat nZ).k,(((d.ns.getD p.toNat nZ).p+f) % 8)⟩ : Nd)) (k:=p.toNat) (j:=1) (n1:=1) rfl rfl X08 b Xv rfl rfl rfl rfl (by decide) (Xb (d:=nZ) (by omega)) rfl) ?_;rintro _ w2 ⟨m,hg⟩;have i:=b;have e:=e.appT i hg rfl;have g:=g.appT i hg rfl;have hW:=tsrow hW hg aA
 clear i hg;clear b;have b:=m;clear m;refine Yd fun a hf=>?_;refine X1b hf (X1x rfl) ?_;exact ⟨A1,c1,hW,aB,⟨e,b,g,(a6.trans List.length_set.symm)⟩⟩
theorem Xe7(w0:World)(bV B0:Nat)(A0:Option Addr)(c0:Nat)(A1:Option Addr)(c1 m0:Nat)(d:Dg)(aF:Dgm w0 bV B0 A0 c0 A1 c1 m0 d)(aG:B0≤w0.heap.size)(p:Int)(q:Int)(x:Bool)(aH:WSd d.ws)(hab:fdW d.ws p q<0)(aN:d.ws.length≤90000000) : Ret Tryz.prog 130 [.pointer (some ⟨bV,0,none⟩),vi p,vi q,.bool x] w0 (fun v w=>∃ A c,TurnS (SB bV [A0,A1]) w0 w∧Us (SB bV [A0,A1]) w0 A∧Dgm w bV B0 A0 c0 A c m0 ({ d with ws:=jnW d.ws p q x } : Dg)):=by
 obtain ⟨b,f,j,aI⟩:=aF;have aL:=b.lt
 have aO:Us (SB bV [A0,A1]) w0 A0:=SB.us (by simp)
 have aA:Us (SB bV [A0,A1]) w0 A1:=SB.us (by simp)
 refine enter Tryz.func130 rfl 30 rfl rfl ?_;intro a hf
 have i:TurnS (SB bV [A0,A1]) w0 w0:=TurnS.refl _ _
 refine Zs hf fun _ aJ=>?_;refine Zm rfl<|Zm rfl<|Ze (Xz rfl)<|Ze (Vd rfl Xr 2)<|Ze (X0 rfl X0j (b.at 2))<|Zm rfl<|Zm rfl<|Ze (Xnn rfl rfl)<|Zm rfl<|Zm rfl ?_;refine Ze (Xrd rfl rfl)<|Zm rfl<|Ze (X0w (ps:=[(0,vi (min p q)),(1,vi (max p q)),(2,.bool x)]) (cs:=[vi (min p q),vi (max p q),.bool x]) rfl (fun _=>by first|rfl|kernel_rfl))<|Zf (Xm (k:=1) (vs:=[.agg #[vi (min p q),vi (max p q),.bool x]]) (zs:=[vi (min p q),vi (max p q),.bool x]) rfl Xx X14 rfl rfl) ?_;rintro _ w1 ⟨b4,rfl,aB,hE,a6⟩;have aM:=Q0 i.size aB;have m:=j.away aB;have b:=b.below hE;have f:=f.below hE;have j:=j.below hE;have i:=tsbel i hE;refine Zf (X0m (enc:=encWr) (l:=(d.ws)) (l2:=([(⟨min p q,max p q,x⟩ : Wr)])) (B0:=B0) rfl rfl Xx X14 Xy X1o j (Rd.of_blk a6 rfl _ a6.lt) (by simp only [maxLen];simp;omega) (by simp;omega) (Q0 aG i.size)) ?_;rintro _ w2 ⟨A6,c6,rfl,g,o,a7⟩
 have e:Own _ B0 83 3 encWr _ _ (d.ws):=j
 have aE:=a7 _ a6.lt m;have aC:=Us.app aA a7 i.size;clear a7;have b:=b.appT e o rfl;have f:=f.appT e o rfl;have i:=tsrow i o aA;clear e o;refine Ze (Xz rfl)<|Ze (Vd rfl Xr 2)<|Zo (X1a (vs:=[.slice A6 (d.ws++([(⟨min p q,max p q,x⟩ : Wr)])).length c6]) (l':=[vi d.n,.slice A0 m0 c0,.slice A6 (d.ws++([(⟨min p q,max p q,x⟩ : Wr)])).length c6,vi d.t,vi d.r]) rfl rfl X1l b rfl rfl rfl rfl rfl) ?_;rintro _ w3 ⟨ho,hb⟩;have h:=b;have f:=f.onlyT ho h rfl;have g:=g.onlyT ho h rfl;have i:=tsonly i ho (.inl (.inl rfl));have b:=hb;refine Zt aJ fun a hf=>?_;refine Zr hf<|Zm rfl<|Ze (Xz rfl)<|Ze (Vd rfl Xr 2)<|Ze (X0 rfl X0j (b.at 2))<|Zf (Vc (Xpn _ B0 A6 c6 (d.ws++([(⟨min p q,max p q,x⟩ : Wr)])) g (by simp;omega)) Xem) ?_;rintro _ w4 ⟨rfl,⟨aK,u,y,B⟩,o⟩;have e:=g;have b:=b.appT e o rfl;have f:=f.appT e o rfl;have i:=tsrow i o aC
 clear e o;clear g;have g:=B;clear B;refine Zn fun a hf=>?_;refine X1b hf (X1x rfl) ?_
 have aD:aK=jnW d.ws p q x:=Xc5 u y aH (Xh6 hab)
 subst aD
 have a8:(d.ws++[(⟨min p q,max p q,x⟩ : Wr)]).length=(jnW d.ws p q x).length:=by rw [X4p,Qh];rfl
 rw [a8] at b
 exact ⟨A6,c6,i,aC,⟨b,f,g,aI⟩⟩
theorem Xjg(w0:World)(bV B0:Nat)(A0:Option Addr)(c0:Nat)(A1:Option Addr)(c1 m0:Nat)(d:Dg)(aC:Dgm w0 bV B0 A0 c0 A1 c1 m0 d)(aD:B0≤w0.heap.size)(p:Int)(q:Int)(aH:d.ws.length≤90000000) : Ret Tryz.prog 131 [.pointer (some ⟨bV,0,none⟩),vi p,vi q] w0 (fun v w=>∃ A c,TurnS (SB bV [A0,A1]) w0 w∧Us (SB bV [A0,A1]) w0 A∧Dgm w bV B0 A0 c0 A c m0 ({ d with ws:=ctO d.ws p q } : Dg)):=by
 obtain ⟨b,f,e,a6⟩:=aC;have aG:=b.lt
 have aI:Us (SB bV [A0,A1]) w0 A0:=SB.us (by simp)
 have a7:Us (SB bV [A0,A1]) w0 A1:=SB.us (by simp)
 have aA:=X79 d.ws p q;refine enter Tryz.func131 rfl 26 rfl rfl ?_;intro a k
 have j:TurnS (SB bV [A0,A1]) w0 w0:=TurnS.refl _ _
 refine Zs k fun _ aE=>?_;refine Zm rfl<|Ze (Xz rfl)<|Ze (X04 (l:=[vi d.n,.slice A0 m0 c0,.slice A1 d.ws.length c1,vi d.t,vi d.r]) rfl X2 (b.at 0) rfl)<|Zm rfl<|Zm rfl<|Zf (Vc (Xfn _ d m0 a6 A0 c0 f.rd.top A1 c1 e.rd.top e.cap p q (by omega)) X7k) ?_;rintro _ w1 ⟨rfl,hE⟩;have b:=b.below hE;have f:=f.below hE;have e:=e.below hE;have j:=tsbel j hE;refine Za rfl<|Zx aE fun a k _ aF=>?_;refine Zm rfl<|Ze (X4g rfl rfl)<|Zt aF fun a k=>?_
 refine Xg k rfl (fun g=>?_) (fun g=>?_)
 ·have aB:=g;have g:=Q2 g;have a8:=X82 g;refine Zr k<|Zm rfl<|Zm rfl<|Ze (Xz rfl)<|Ze (Vd rfl Xr 2)<|Ze (X0 rfl X0j (b.at 2))<|Zm rfl<|Zm rfl<|Ze (Xw rfl rfl (by omega) (by omega))<|Zf (Vc (Xor _ A1 c1 B0 d.ws e (Q0 aD j.size) (fdW d.ws p q) ⟨by omega,aA⟩ (by omega)) Xf8) ?_;rintro _ w2 ⟨rfl,m,hg⟩;have i:=e;have b:=b.appT i hg rfl;have f:=f.appT i hg rfl;have j:=tsrow j hg a7
  clear i hg;clear e;have e:=m;clear m;refine Ze (Xz rfl)<|Ze (Vd rfl Xr 2)<|Zo (X1a (vs:=[.slice A1 (ctW d.ws (fdW d.ws p q).toNat).length c1]) (l':=[vi d.n,.slice A0 m0 c0,.slice A1 (ctW d.ws (fdW d.ws p q).toNat).length c1,vi d.t,vi d.r]) rfl rfl X1l b rfl rfl rfl rfl rfl) ?_;rintro _ w3 ⟨ho,hb⟩;have o:=b;have f:=f.onlyT ho o rfl;have e:=e.onlyT ho o rfl;have j:=tsonly j ho (.inl (.inl rfl));have b:=hb;refine Zn fun a k=>?_;refine X1b k (X1x rfl) ?_
  rw [a8]
  exact ⟨A1,c1,j,a7,⟨b,f,e,a6⟩⟩
 have aB:=g;have g:=Q1 g
 have a8:=Xil (ws:=d.ws) (p:=p) (q:=q) (by have:=g;omega)
 refine Q7<|X1b k (X1x rfl) ?_
 rw [a8]
 exact ⟨A1,c1,j,a7,⟨b,f,e,a6⟩⟩
theorem Xvi(w0:World)(x:Wr)(k:Int)(ba:Nat)(d:Blk w0 ba 3 [vi k]) : Ret Tryz.prog 209 [.agg #[vi x.a,vi x.b,.bool x.h],.pointer (some ⟨ba,0,none⟩)] w0 (fun v w=>v=.bool (x.a==k||x.b==k)∧Below w0.heap.size w0 w):=by
 have a7:=d.lt;refine enter Tryz.func209 rfl 14 rfl rfl ?_;intro a e
 have hW:=bz w0
 refine Zs e fun _ a8=>?_;refine Zf (X0c (zs:=[vi x.a,vi x.b,.bool x.h]) rfl rfl) ?_;rintro _ w1 ⟨b2,rfl,aA,hE,a6⟩;have aC:=Q0 hW.size aA;have d:=d.below hE;have hW:=btr hW hE;refine Za rfl<|ZX a8 fun a e _ aB=>?_;refine X0a (fun a w=>Fr a 14 [(3,.bool ((x.a==k)||(x.b==k)))]∧w1=w) ?_ ?_
 ·refine Zr e<|Ze (Vd rfl X0q 0)<|Ze (X0 rfl X9 (a6.at 0))<|Ze (X0 rfl X9 (d.at 0))<|Ze (X0b rfl rfl)<|Zm rfl ?_
  refine Zg 8 rfl (fun c=>?_) (fun c=>?_)
  ·refine Zp (gP c) ?_;refine Zp (gP c) ?_;refine Zp (gP c) ?_;refine Zp (gP c) ?_;refine Ze (X7 rfl c rfl)<|Za rfl ?_;refine Zn fun a e=>?_;exact ⟨e.sub ⟨X1 rfl (by first|rfl|(simp only [c,bs];done)|simp [c]),trivial⟩,rfl⟩
  refine Zv (gW c) (Vd rfl X0u 1) ?_;refine Zv (gW c) (X0 rfl X9 (a6.at 1)) ?_;refine Zv (gW c) (X0 rfl X9 (d.at 0)) ?_;refine Zv (gW c) (X0b rfl rfl) ?_;refine Ze (Xe rfl c rfl)<|Za rfl ?_;refine Zn fun a e=>?_;exact ⟨e.sub ⟨X1 rfl (by first|rfl|(simp only [c,bs];done)|simp [c]),trivial⟩,rfl⟩
 rintro a _ ⟨e,rfl⟩;refine aB _ _ ?_
 refine Q6 (X4 e (Xt e rfl rfl) ?_)
 exact ⟨rfl,hW⟩
theorem X9d(w0:World)(bV B0:Nat)(A0:Option Addr)(c0:Nat)(A1:Option Addr)(c1 m0:Nat)(d:Dg)(a8:Dgm w0 bV B0 A0 c0 A1 c1 m0 d)(aA:B0≤w0.heap.size)(k:Int)(hk:0≤k∧k.toNat<d.ns.length)(aI:d.ws.length≤90000000) : Ret Tryz.prog 174 [.pointer (some ⟨bV,0,none⟩),vi k] w0 (fun v w=>∃ A c,TurnS (SB bV [A0,A1]) w0 w∧Us (SB bV [A0,A1]) w0 A∧Dgm w bV B0 A0 c0 A c m0 (id0 d k)):=by
 obtain ⟨e,f,g,a6⟩:=a8;have aG:=e.lt
 have aB:Us (SB bV [A0,A1]) w0 A0:=SB.us (by simp)
 have a7:Us (SB bV [A0,A1]) w0 A1:=SB.us (by simp)
 refine enter Tryz.func174 rfl 20 rfl rfl ?_;intro a hf
 have o:TurnS (SB bV [A0,A1]) w0 w0:=TurnS.refl _ _
 refine Zs hf fun _ aC=>?_;refine Zf (X0c (zs:=[vi k]) rfl rfl) ?_;rintro _ w1 ⟨b4,rfl,aD,q,p⟩;have aH:=Q0 o.size aD;have e:=e.below q;have f:=f.below q;have g:=g.below q;have o:=tsbel o q;refine ZX aC fun a hf _ aE=>?_;refine X05 none (fun j=>[7].contains j) mixed ?_;intro w2 q;have e:=e.below q;have p:=p.below q;have f:=f.below q;have g:=g.below q;have o:=tsbel o q;refine Yb hf<|Yo 0 rfl (fun _=>X3 rfl)<|Yo 1 rfl (fun _=>Xz rfl)<|Yo 2 rfl (fun _=>Vd rfl Xj 1)<|Ye 3 rfl (X0 rfl X00 (e.at 1))<|Ye 4 rfl (X0 rfl X9 (p.at 0))<|Yo 5 rfl (fun _=>X0w (ps:=[]) (cs:=[vi 0,vi 0]) rfl (fun _=>by first|rfl|kernel_rfl))<|Yo 6 rfl (fun _=>Xi (k:=k.toNat) rfl rfl Xs X07 f a6 (by omega) (by omega))<|Y1 7 ?_;refine Yh rfl trivial rfl (X0h (enc:=encNd) (l:=d.ns) (vs:=[vi 0,vi 0]) (x0:=(d.ns.getD k.toNat nZ)) (u:=(⟨0,0⟩ : Nd)) (k:=k.toNat) (j:=0) (n1:=2) rfl rfl X07 f Xv rfl rfl rfl rfl (by decide) (Xb (d:=nZ) (by omega)) rfl) ?_;rintro _ w3 ⟨m,y⟩;have i:=f;have e:=e.appT i y rfl;have p:=p.appT i y rfl;have g:=g.appT i y rfl;have o:=tsrow o y aB
 clear i y;clear f;have f:=m;clear m;refine Yd fun a hf=>?_;refine aE _ _<|Zr hf<|Zm rfl<|Zm rfl<|Ze (Xz rfl)<|Ze (Vd rfl Xr 2)<|Ze (X0 rfl X0j (e.at 2))<|Ze (X3j (vs:=[.pointer (some ⟨b4,0,none⟩)]) rfl)<|Zf (X5s (vs:=[.slice A1 d.ws.length c1,.func (.func 209) #[] #[.pointer (some ⟨b4,0,none⟩)]]) rfl Xl0 (by have h9:=Xwi _ A1 c1 B0 d.ws g (Q0 aA o.size) 209 [.pointer (some ⟨b4,0,none⟩)] Xlj (fun w=>w.a==k||w.b==k) (fun x w' aF=>Xvi w' x k _ (p.appT g aF rfl)) (by omega);rw [Xvq] at h9;exact h9)) ?_;rintro _ w4 ⟨rfl,m,y⟩;have i:=g;have e:=e.appT i y rfl;have f:=f.appT i y rfl;have o:=tsrow o y a7
 clear i y;clear g;have g:=m;clear m;refine Ze (Xz rfl)<|Ze (Vd rfl Xr 2)<|Zo (X1a (vs:=[.slice A1 (dpW d.ws k).length c1]) (l':=[vi d.n,.slice A0 m0 c0,.slice A1 (dpW d.ws k).length c1,vi d.t,vi d.r]) rfl rfl X1l e rfl rfl rfl rfl rfl) ?_;rintro _ w5 ⟨ho,hb⟩;have h:=e;have f:=f.onlyT ho h rfl;have g:=g.onlyT ho h rfl;have o:=tsonly o ho (.inl (.inl rfl));have e:=hb;refine Zn fun a hf=>?_;refine X1b hf (X1x rfl) ?_;exact ⟨A1,c1,o,a7,⟨e,f,g,(a6.trans List.length_set.symm)⟩⟩
theorem Xp6(w0:World)(bV B0:Nat)(A0:Option Addr)(c0:Nat)(A1:Option Addr)(c1 H:Nat)(d:Dg)(aN:Dgm w0 bV B0 A0 c0 A1 c1 H d)(aB:B0≤w0.heap.size)(p:Int)(q:Int)(aO:WSd d.ws)(aU:d.ws.length≤80000000) : Ret Tryz.prog 76 [.pointer (some ⟨bV,0,none⟩),vi p,vi q] w0 (fun v w=>∃ A c,v=.bool (tyW d.ws p q != 1)∧TurnS (SB bV [A0,A1]) w0 w∧Us (SB bV [A0,A1]) w0 A∧Dgm w bV B0 A0 c0 A c H (tgI d p q)):=by
 obtain ⟨b,e,o,G⟩:=aN;have aT:=b.lt
 have aC:Us (SB bV [A0,A1]) w0 A0:=SB.us (by simp)
 have a6:Us (SB bV [A0,A1]) w0 A1:=SB.us (by simp)
 refine enter Tryz.func76 rfl 39 rfl rfl ?_;intro a f
 have g:TurnS (SB bV [A0,A1]) w0 w0:=TurnS.refl _ _
 refine Zs f fun _ aP=>?_;refine Za rfl<|ZX aP fun a f _ aD=>?_;refine Zs f fun _ aQ=>?_;refine Zm rfl<|Ze (Xz rfl)<|Ze (X04 (l:=[vi d.n,.slice A0 H c0,.slice A1 d.ws.length c1,vi d.t,vi d.r]) rfl X2 (b.at 0) rfl)<|Zm rfl<|Zm rfl<|Zf (Vc (X5u _ d H G A0 c0 e.rd.top A1 c1 o.rd.top o.cap p q (by omega)) X32) ?_;rintro _ w1 ⟨rfl,hE⟩;have b:=b.below hE;have e:=e.below hE;have o:=o.below hE;have g:=tsbel g hE;refine Zt aQ fun a f=>?_;refine Q8<|Zs f fun _ aR=>?_;refine Ze (X0b rfl rfl)<|Za rfl<|Zt aR fun a f=>?_
 refine Xg f rfl (fun y=>?_) (fun y=>?_)
 ·have aE:=y
  have h0:tyW d.ws p q=0:=by simpa using y
  have i:(tyW d.ws p q != 1)=true:=by rw [h0];rfl
  have h:=Xwo h0;refine Zs f fun _ aS=>?_;refine Zm rfl<|Zm rfl<|Zm rfl<|Zf (Vc (Xe7 _ bV B0 A0 c0 A1 c1 H d ⟨b,e,o,G⟩ (Q0 aB g.size) p q true aO (Xmx h0) (by omega)) X56) ?_;rintro _ w2 ⟨A9,c9,B,C,D,j,a7,aF⟩;have u:=SB.lift (S:=SB bV [A0,A1]) (w0:=w0) (.inl (.inl rfl)) (alc aC (alc a6 al0));have C:=Us.trans C u g.size
  have g:=tstr g B u;clear u
  clear B b;have b:=D;clear D
  clear e;have e:=j;clear j;refine Zt aS fun a f=>?_;refine Zr f<|Zm rfl<|Ze (Xz rfl)<|Ze (Vd rfl X02 4)<|Ze (X0 rfl X9 (b.at 4))<|Ze (X43 rfl rfl)<|Ze (Xz rfl)<|Ze (Vd rfl X02 4)<|Zo (X1a (vs:=[vi (wr ((({ d with ws:=jnW d.ws p q true } : Dg).r)+1))]) (l':=[vi (({ d with ws:=jnW d.ws p q true } : Dg).n),.slice A0 H c0,.slice A9 (({ d with ws:=jnW d.ws p q true } : Dg).ws).length c9,vi (({ d with ws:=jnW d.ws p q true } : Dg).t),vi (wr ((({ d with ws:=jnW d.ws p q true } : Dg).r)+1))]) rfl rfl X08 b rfl rfl rfl rfl rfl) ?_;rintro _ w3 ⟨ho,hb⟩;have k:=b;have e:=e.onlyT ho k rfl;have a7:=a7.onlyT ho k rfl;have g:=tsonly g ho (.inl (.inl rfl));have b:=hb;refine Zn fun a f=>?_;refine Xa<|aD _ _<|Zs f fun _ aG=>?_;refine Za rfl<|Zt aG fun a f=>?_
  refine Q6 (X4 f (Xt f rfl rfl) ?_)
  rw [i,h]
  exact ⟨A9,c9,rfl,g,C,⟨b,e,a7,aF⟩⟩
 have aE:=y
 have h0:tyW d.ws p q≠0:=by simpa using y
 refine Zs f fun _ aH=>?_;refine Ze (X0b rfl rfl)<|Za rfl<|Zt aH fun a f=>?_
 refine Xg f rfl (fun m=>?_) (fun m=>?_)
 ·have a8:=m
  have h1:tyW d.ws p q=1:=by simpa using m
  have i:(tyW d.ws p q != 1)=false:=by rw [h1];rfl
  have h:=Xwd h1;refine Zs f fun _ aI=>?_;refine Za rfl<|Zt aI fun a f=>?_;refine Q6<|Xq<|X6<|X4 f (Xt f rfl rfl) ?_
  rw [i,h]
  exact ⟨A1,c1,rfl,g,a6,⟨b,e,o,G⟩⟩
 have a8:=m
 have h1:tyW d.ws p q≠1:=by simpa using m
 have i:(tyW d.ws p q != 1)=true:=by simpa using h1
 have h:=Xuw h0 h1;refine Zs f fun _ aJ=>?_;refine Zm rfl<|Zm rfl<|Zm rfl<|Zf (Vc (Xjg _ bV B0 A0 c0 A1 c1 H d ⟨b,e,o,G⟩ (Q0 aB g.size) p q (by omega)) X7l) ?_;rintro _ w4 ⟨aK,aL,B,x,D,j,E,aA⟩;have u:=SB.lift (S:=SB bV [A0,A1]) (w0:=w0) (.inl (.inl rfl)) (alc aC (alc a6 al0));have x:=Us.trans x u g.size
 have g:=tstr g B u;clear u
 clear B b;have b:=D;clear D
 clear e;have e:=j;clear j;refine Zt aJ fun a f=>?_;refine Zr f<|Zm rfl<|Ze (Xz rfl)<|Ze (Vd rfl X02 4)<|Ze (X0 rfl X9 (b.at 4))<|Ze (Xbi rfl rfl)<|Ze (Xz rfl)<|Ze (Vd rfl X02 4)<|Zo (X1a (vs:=[vi (wr ((({ d with ws:=ctO d.ws p q } : Dg).r)-1))]) (l':=[vi (({ d with ws:=ctO d.ws p q } : Dg).n),.slice A0 H c0,.slice aK (({ d with ws:=ctO d.ws p q } : Dg).ws).length aL,vi (({ d with ws:=ctO d.ws p q } : Dg).t),vi (wr ((({ d with ws:=ctO d.ws p q } : Dg).r)-1))]) rfl rfl X08 b rfl rfl rfl rfl rfl) ?_;rintro _ w5 ⟨ho,hb⟩;have k:=b;have e:=e.onlyT ho k rfl;have E:=E.onlyT ho k rfl;have g:=tsonly g ho (.inl (.inl rfl));have b:=hb;refine Zn fun a f=>?_;refine Xa<|aD _ _<|Zs f fun _ aM=>?_;refine Za rfl<|Zt aM fun a f=>?_
 refine Q6 (X4 f (Xt f rfl rfl) ?_)
 rw [i,h]
 exact ⟨aK,aL,rfl,g,x,⟨b,e,E,aA⟩⟩
theorem Xv6(w0:World)(bV B0:Nat)(A0:Option Addr)(c0:Nat)(A1:Option Addr)(c1 L:Nat)(d:Dg)(aT:Dgm w0 bV B0 A0 c0 A1 c1 L d)(M:B0≤w0.heap.size)(p:Int)(q:Int)(x:Bool)(aB:WSd d.ws)(b6:d.ws.length≤80000000)(aU:(0≤p∧p.toNat<d.ns.length)∧(0≤q∧q.toNat<d.ns.length))(aW:PhN d.ns) : Ret Tryz.prog 225 [.pointer (some ⟨bV,0,none⟩),vi p,vi q,.bool x] w0 (fun v w=>∃ A c,TurnS (SB bV [A0,A1]) w0 w∧Us (SB bV [A0,A1]) w0 A∧Dgm w bV B0 A0 c0 A c L (lkD d p q x)):=by
 obtain ⟨b,e,h,N⟩:=aT;have b5:=b.lt
 have Q:Us (SB bV [A0,A1]) w0 A0:=SB.us (by simp)
 have aA:Us (SB bV [A0,A1]) w0 A1:=SB.us (by simp)
 have b7:=Xnj d.ws p q;refine enter Tryz.func225 rfl 67 rfl rfl ?_;intro a i
 have j:TurnS (SB bV [A0,A1]) w0 w0:=TurnS.refl _ _
 refine Zs i fun _ aX=>?_;refine Zm rfl<|Ze (Xz rfl)<|Ze (X04 (l:=[vi d.n,.slice A0 L c0,.slice A1 d.ws.length c1,vi d.t,vi d.r]) rfl X2 (b.at 0) rfl)<|Zm rfl<|Zm rfl<|Zf (Vc (X5u _ d L N A0 c0 e.rd.top A1 c1 h.rd.top h.cap p q (by omega)) X32) ?_;rintro _ w1 ⟨rfl,hE⟩;have b:=b.below hE;have e:=e.below hE;have h:=h.below hE;have j:=tsbel j hE;refine Za rfl<|Zt aX fun a i=>?_;refine Q8<|Zs i fun _ aY=>?_;refine Zm rfl<|Ze (X0b rfl rfl)<|Za rfl<|Zt aY fun a i=>?_
 refine Xg i rfl (fun U=>?_) (fun U=>?_)
 ·have k:=U
  have h0:tyW d.ws p q=0:=by simpa using U
  have E:=Xvw (x:=x) h0;refine Zr i<|Zm rfl<|Zm rfl<|Zm rfl<|Zm rfl<|Zf (Vc (Xe7 _ bV B0 A0 c0 A1 c1 L d ⟨b,e,h,N⟩ (Q0 M j.size) p q x aB (Xmx h0) (by omega)) X56) ?_;rintro _ w2 ⟨A6,c6,m,W,o,f,aZ,aH⟩;have g:=SB.lift (S:=SB bV [A0,A1]) (w0:=w0) (.inl (.inl rfl)) (alc Q (alc aA al0));have W:=Us.trans W g j.size
  have j:=tstr j m g;clear g
  clear m b;have b:=o;clear o
  clear e;have e:=f;clear f;refine Zn fun a i=>?_;refine Xa<|X1b i (X1x rfl) ?_
  rw [E]
  exact ⟨A6,c6,j,W,⟨b,e,aZ,aH⟩⟩
 have k:=U
 have h0:tyW d.ws p q≠0:=by simpa using U
 refine Q5 fun _ b0=>?_;refine X0a (fun a w=>Fr a 67 [(0,.pointer (some ⟨bV,0,none⟩)),(1,vi p),(2,vi q),(3,.bool x),(8,vi (tyW d.ws p q)),(43,.bool (((tyW d.ws p q)==1)&&(!x)))]∧w1=w) ?_ ?_
 ·refine Zr i<|Zm rfl<|Ze (X0b rfl rfl)<|Zm rfl ?_
  refine Zg 46 rfl (fun y=>?_) (fun y=>?_)
  ·refine Zv (gW y) (X3 rfl) ?_;refine Zv (gW y) (X0y rfl) ?_;refine Ze (X7 rfl y rfl)<|Za rfl ?_;refine Zn fun a i=>?_;exact ⟨i.sub ⟨rfl,rfl,rfl,rfl,rfl,X1 rfl (by first|rfl|(simp only [k,y,bs];done)|simp [k,y]),trivial⟩,rfl⟩
  refine Zp (gP y) ?_;refine Zp (gP y) ?_;refine Ze (Xe rfl y rfl)<|Za rfl ?_;refine Zn fun a i=>?_;exact ⟨i.sub ⟨rfl,rfl,rfl,rfl,rfl,X1 rfl (by first|rfl|(simp only [k,y,bs];done)|simp [k,y]),trivial⟩,rfl⟩
 rintro a _ ⟨i,rfl⟩;refine b0 _ _ ?_
 refine Xg i rfl (fun a6=>?_) (fun a6=>?_)
 ·have B:=a6;have E:=Xuh a6;refine Q7<|Xa<|X1b i (X1x rfl) ?_
  rw [E]
  exact ⟨A1,c1,j,aA,⟨b,e,h,N⟩⟩
 have B:=a6;have h1:=a6;refine Q5 fun _ aI=>?_;refine X0a (fun a w=>Fr a 67 [(0,.pointer (some ⟨bV,0,none⟩)),(1,vi p),(2,vi q),(50,.bool (((tyW d.ws p q)==2)&&x))]∧w1=w) ?_ ?_
 ·refine Zr i<|Zm rfl<|Ze (X0b rfl rfl)<|Zm rfl ?_
  refine Zg 53 rfl (fun u=>?_) (fun u=>?_)
  ·refine Zv (gW u) (X3 rfl) ?_;refine Ze (X7 rfl u rfl)<|Za rfl ?_;refine Zn fun a i=>?_;exact ⟨i.sub ⟨rfl,rfl,rfl,X1 rfl (by first|rfl|(simp only [k,B,u,bs];done)|simp [k,B,u]),trivial⟩,rfl⟩
  refine Zp (gP u) ?_;refine Ze (Xe rfl u rfl)<|Za rfl ?_;refine Zn fun a i=>?_;exact ⟨i.sub ⟨rfl,rfl,rfl,X1 rfl (by first|rfl|(simp only [k,B,u,bs];done)|simp [k,B,u]),trivial⟩,rfl⟩
 rintro a _ ⟨i,rfl⟩;refine aI _ _ ?_
 refine Xg i rfl (fun C=>?_) (fun C=>?_)
 ·have aC:=C;have E:=Xw9 C;refine Zs i fun _ aJ=>?_;refine Zm rfl<|Zm rfl<|Zm rfl<|Zf (Vc (Xjg _ bV B0 A0 c0 A1 c1 L d ⟨b,e,h,N⟩ (Q0 M j.size) p q (by omega)) X7l) ?_;rintro _ w3 ⟨aK,aL,m,G,o,f,a7,aD⟩;have g:=SB.lift (S:=SB bV [A0,A1]) (w0:=w0) (.inl (.inl rfl)) (alc Q (alc aA al0));have G:=Us.trans G g j.size
  have j:=tstr j m g;clear g
  clear m b;have b:=o;clear o
  clear e;have e:=f;clear f;refine Zt aJ fun a i=>?_;refine Zr i<|Zm rfl<|Ze (Xz rfl)<|Ze (Vd rfl X02 4)<|Ze (X0 rfl X9 (b.at 4))<|Ze (Xbi rfl rfl)<|Ze (Xz rfl)<|Ze (Vd rfl X02 4)<|Zo (X1a (vs:=[vi (wr ((({ d with ws:=ctO d.ws p q } : Dg).r)-2))]) (l':=[vi (({ d with ws:=ctO d.ws p q } : Dg).n),.slice A0 L c0,.slice aK (({ d with ws:=ctO d.ws p q } : Dg).ws).length aL,vi (({ d with ws:=ctO d.ws p q } : Dg).t),vi (wr ((({ d with ws:=ctO d.ws p q } : Dg).r)-2))]) rfl rfl X08 b rfl rfl rfl rfl rfl) ?_;rintro _ w4 ⟨ho,hb⟩;have D:=b;have e:=e.onlyT ho D rfl;have a7:=a7.onlyT ho D rfl;have j:=tsonly j ho (.inl (.inl rfl));have b:=hb;refine Zn fun a i=>?_;refine Xa<|X1b i (X1x rfl) ?_
  rw [E]
  exact ⟨aK,aL,j,G,⟨b,e,a7,aD⟩⟩
 have aC:=C;have E:=Xu0 h0 h1 C;refine Zs i fun _ aM=>?_;refine Zm rfl<|Zm rfl<|Zm rfl<|Zf (Vc (Xjg _ bV B0 A0 c0 A1 c1 L d ⟨b,e,h,N⟩ (Q0 M j.size) p q (by omega)) X7l) ?_;rintro _ w5 ⟨b1,b2,m,H,o,f,aN,aE⟩;have g:=SB.lift (S:=SB bV [A0,A1]) (w0:=w0) (.inl (.inl rfl)) (alc Q (alc aA al0));have H:=Us.trans H g j.size
 have j:=tstr j m g;clear g
 clear m b;have b:=o;clear o
 clear e;have e:=f;clear f;refine Zx aM fun a i _ aO=>?_;refine Zm rfl<|Zm rfl<|Zm rfl<|Zf (Vc (Xe7 _ bV B0 A0 c0 b1 b2 L ({ d with ws:=ctO d.ws p q } : Dg) ⟨b,e,aN,aE⟩ (Q0 M j.size) p q false (Xpx aB p q) (Xqm aB) (by dsimp only;omega)) X56) ?_;rintro _ w6 ⟨b3,b4,m,I,o,f,aP,aF⟩;have g:=SB.lift (S:=SB bV [A0,A1]) (w0:=w0) (.inl (.inl rfl)) (alc Q (alc H al0));have I:=Us.trans I g j.size
 have j:=tstr j m g;clear g
 clear m b;have b:=o;clear o
 clear e;have e:=f;clear f;refine Zx aO fun a i _ aQ=>?_;refine Zm rfl<|Zm rfl<|Zm rfl<|Ze (Xnn rfl rfl)<|Zf (Vc (Xbd _ bV B0 A0 c0 b3 b4 L ({ ({ d with ws:=ctO d.ws p q } : Dg) with ws:=jnW ({ d with ws:=ctO d.ws p q } : Dg).ws p q false } : Dg) ⟨b,e,aP,aF⟩ (Q0 M j.size) (min p q) 4 (Xjc aU) aW ⟨by decide,by decide⟩) X6j) ?_;rintro _ w7 ⟨aR,aS,m,J,o,f,a8,aG⟩;have g:=SB.lift (S:=SB bV [A0,A1]) (w0:=w0) (.inl (.inl rfl)) (alc Q (alc I al0));have J:=Us.trans J g j.size
 have j:=tstr j m g;clear g
 clear m b;have b:=o;clear o
 clear e;have e:=f;clear f;refine Zt aQ fun a i=>?_;refine Zr i<|Zm rfl<|Ze (Xz rfl)<|Ze (Vd rfl X02 4)<|Ze (X0 rfl X9 (b.at 4))<|Ze (Xbi rfl rfl)<|Ze (Xz rfl)<|Ze (Vd rfl X02 4)<|Zo (X1a (vs:=[vi (wr ((({ ({ ({ d with ws:=ctO d.ws p q } : Dg) with ws:=jnW ({ d with ws:=ctO d.ws p q } : Dg).ws p q false } : Dg) with ns:=adN ({ ({ d with ws:=ctO d.ws p q } : Dg) with ws:=jnW ({ d with ws:=ctO d.ws p q } : Dg).ws p q false } : Dg).ns (min p q) 4 } : Dg).r)-1))]) (l':=[vi (({ ({ ({ d with ws:=ctO d.ws p q } : Dg) with ws:=jnW ({ d with ws:=ctO d.ws p q } : Dg).ws p q false } : Dg) with ns:=adN ({ ({ d with ws:=ctO d.ws p q } : Dg) with ws:=jnW ({ d with ws:=ctO d.ws p q } : Dg).ws p q false } : Dg).ns (min p q) 4 } : Dg).n),.slice A0 L c0,.slice aR (({ ({ ({ d with ws:=ctO d.ws p q } : Dg) with ws:=jnW ({ d with ws:=ctO d.ws p q } : Dg).ws p q false } : Dg) with ns:=adN ({ ({ d with ws:=ctO d.ws p q } : Dg) with ws:=jnW ({ d with ws:=ctO d.ws p q } : Dg).ws p q false } : Dg).ns (min p q) 4 } : Dg).ws).length aS,vi (({ ({ ({ d with ws:=ctO d.ws p q } : Dg) with ws:=jnW ({ d with ws:=ctO d.ws p q } : Dg).ws p q false } : Dg) with ns:=adN ({ ({ d with ws:=ctO d.ws p q } : Dg) with ws:=jnW ({ d with ws:=ctO d.ws p q } : Dg).ws p q false } : Dg).ns (min p q) 4 } : Dg).t),vi (wr ((({ ({ ({ d with ws:=ctO d.ws p q } : Dg) with ws:=jnW ({ d with ws:=ctO d.ws p q } : Dg).ws p q false } : Dg) with ns:=adN ({ ({ d with ws:=ctO d.ws p q } : Dg) with ws:=jnW ({ d with ws:=ctO d.ws p q } : Dg).ws p q false } : Dg).ns (min p q) 4 } : Dg).r)-1))]) rfl rfl X08 b rfl rfl rfl rfl rfl) ?_;rintro _ w8 ⟨ho,hb⟩;have D:=b;have e:=e.onlyT ho D rfl;have a8:=a8.onlyT ho D rfl;have j:=tsonly j ho (.inl (.inl rfl));have b:=hb;refine Zn fun a i=>?_;refine Xa<|X1b i (X1x rfl) ?_
 rw [E]
 exact ⟨aR,aS,j,J,⟨b,e,a8,aG⟩⟩
end Go.Proofs.YtpifljegadknkaaGreat
