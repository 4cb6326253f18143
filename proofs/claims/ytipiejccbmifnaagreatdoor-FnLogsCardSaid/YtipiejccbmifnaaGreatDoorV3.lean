/-
  Whatever the bytes, logs drawn from them are replayed, cut in two and read back as the law says; so it answers true.
-/
import Derived.Test.YtipiejccbmifnaaGreatDoorV2
import Derived.Test.YtipiejccbmifnaaGreatDoorV1
import Derived.Shelf.SlSortCmp.WholeK
import Derived.Shelf.SlSortCmp.NoneTotal
import Derived.Shelf.SlGeneric
set_option linter.unusedVariables false
set_option linter.unusedSimpArgs false
set_option maxRecDepth 8000
set_option linter.unusedSectionVars false
namespace Go.Proofs.YtipiejccbmifnaaGreatDoor
open Go.RowKit
def SB(b:Nat)(l:List (Option Addr))(k:Nat) : Prop:=k=b∨∃ A ∈ l,ownB A=some k
def Us(S:Nat->Prop)(w0:World)(A:Option Addr) : Prop:=∀ k,ownB A=some k->S k∨w0.heap.size<=k
theorem SB.us{b:Nat}{l:List (Option Addr)}{A:Option Addr}{w:World}(h:A ∈ l) : Us (SB b l) w A:=fun _ hk=>.inl (.inr ⟨A,h,hk⟩)
theorem Xds(p:Addr) : ownB (some p)=some p.block:=rfl
theorem Xbq{A:Option Addr}{b:Nat} : Away A b↔ownB A≠some b:=by
 cases A with
 | none=>exact ⟨(fun _ h=>by cases h),fun _ p h=>by cases h⟩
 | some p=>
  rw [Xds]
  exact ⟨fun h e=>h p rfl (Option.some.inj e),fun h q hq e=>by injection hq with hq;subst hq;exact h (by rw [e])⟩
section
variable {S : Nat -> Prop} {w0 w w' : World} {A A' : Option Addr} {b : Nat} {l : List (Option Addr)}
theorem Us.app(hu:Us S w0 A)(hat:∀ b,b<w.heap.size->Away A b->Away A' b)(hs:w0.heap.size<=w.heap.size) : Us S w0 A':=fun k hk=>by
 by_cases hl:k<w.heap.size
 ·by_cases h2:ownB A=some k
  ·exact hu k h2
  ·exact absurd hk (Xbq.1 (hat k hl (Xbq.2 h2)))
 ·exact .inr (by omega)
theorem Us.new{α:Type}{E:TypeId}{sz c:Nat}{enc:α->List Value}{r:List α}(ho:Own w w0.heap.size E sz enc A c r) : Us S w0 A:=fun _ hk=>.inr (X20 ho hk)
theorem al0{α:Type}{p:α->Prop} : ∀ x ∈ ([] : List α),p x:=fun _ h=>by cases h
theorem alc{α:Type}{p:α->Prop}{a:α}{r:List α}(h:p a)(ht:∀ x ∈ r,p x) : ∀ x ∈ a::r,p x:=List.forall_mem_cons.2 ⟨h,ht⟩
theorem SB.lift(hb:S b∨w0.heap.size<=b)(h:∀ A ∈ l,Us S w0 A) : ∀ k,SB b l k->S k∨w0.heap.size<=k:=by grind [SB,Us]
theorem Us.trans(hu:Us (SB b l) w A)(h:∀ k,SB b l k->S k∨w0.heap.size<=k)(hs:w0.heap.size<=w.heap.size) : Us S w0 A:=by grind [SB,Us,hs]
theorem SB.ge{N:Nat}(hb:N<=b)(h:∀ A ∈ l,∀ k,ownB A=some k->N<=k) : ∀ k,SB b l k->N<=k:=by grind [SB,ownB]
theorem nrow{α:Type}{B0:Nat}{E T:TypeId}{sz c:Nat}{enc:α->List Value}{r:List α}{cs:List Value}(ho:Own w B0 E sz enc A c r)(h:Blk w b T cs)(h1:Nat.beq E T=false) : ownB A≠some b:=fun hk=>by
 obtain ⟨_,_,cs',fz,h3⟩:=ho.block (k:=b) (by rw [X3j];exact hk)
 unfold Blk at h;rw [h3] at h;injection h with h;injection h with _ e _;subst e;simp at h1
theorem Blk.tu{b2:Nat}{T T2:TypeId}{bcs cs:List Value}(h:Blk w b2 T2 cs)(hts:TurnS (SB b l) w w')(hb:Blk w b T bcs)(h1:Nat.beq T2 T=false)(hr:∀ A ∈ l,ownB A≠some b2) : Blk w' b2 T2 cs:=by
 refine (hts.block b2 h.lt fun hk=>?_).trans h
 rcases hk with e|⟨A,hA,hk⟩
 ·exact h.ne hb h1 e
 ·exact hr A hA hk
end
structure Br where
 d:Dg
 la:List Int
 hd:List Bool
def nodB(x:Br)(k p q:Int) : Br:=⟨{ x.d with ns:=x.d.ns++[⟨k,p⟩],ws:=jnW x.d.ws (x.la.getD q.toNat 0) (x.d.ns.length:Int) (x.hd.getD q.toNat false) },x.la.set q.toNat (x.d.ns.length:Int),x.hd.set q.toNat false⟩
def plcB(x:Br)(q:Int) : Br:=if (x.hd.getD q.toNat false||(x.d.ns.getD (x.la.getD q.toNat 0).toNat nZ).k != 3)=true then nodB x 3 0 q else x
def trnB(x:Br)(q m:Int) : Br:={ plcB x q with d:={ (plcB x q).d with ns:=adN (plcB x q).d.ns ((plcB x q).la.getD q.toNat 0) m } }
def flpB(x:Br)(q:Int) : Br:={ x with hd:=x.hd.set q.toNat (!(x.hd.getD q.toNat false)) }
def czB(x:Br)(p q:Int) : Br:=
 let y:=plcB (plcB x p) q
 let a:=(plcB x p).la.getD p.toNat 0
 let b:=y.la.getD q.toNat 0
 if 0<=fdW y.d.ws a b then { y with d:={ y.d with ws:=ctW y.d.ws (fdW y.d.ws a b).toNat,r:=wr (y.d.r-1) } } else { y with d:={ y.d with ws:=jnW y.d.ws a b true,r:=wr (y.d.r+1) } }
structure BrOk (n:Nat) (x:Br) : Prop where
 la:x.la.length=n
 hd:x.hd.length=n
 rg:∀ y ∈ x.la,0<=y/\y<(x.d.ns.length:Int)
 p:PhN x.d.ns
theorem Xt9{x:Br}{q:Int}(h:(x.hd.getD q.toNat false||(x.d.ns.getD (x.la.getD q.toNat 0).toNat nZ).k != 3)=true) : plcB x q=nodB x 3 0 q:=Q4 h
theorem Xtn{x:Br}{q:Int}(h:(x.hd.getD q.toNat false||(x.d.ns.getD (x.la.getD q.toNat 0).toNat nZ).k != 3)=false) : plcB x q=x:=Q3 (by rw [h];decide)
theorem BrOk.at{n:Nat}{x:Br}(h:BrOk n x){q:Int}(hq:0<=q/\q.toNat<n) : 0<=x.la.getD q.toNat 0/\(x.la.getD q.toNat 0).toNat<x.d.ns.length:=by
 have:=X42 h.rg (i:=q.toNat) (by rw [h.la];exact hq.2)
 omega
theorem X8g{n:Nat}{x:Br}(h:BrOk n x){k p q:Int}(hp:0<=p/\p<=7) : BrOk n (nodB x k p q):=by
 have hl:(x.d.ns++[(⟨k,p⟩ : Nd)]).length=x.d.ns.length+1:=by simp
 refine ⟨List.length_set.trans h.la,List.length_set.trans h.hd,fun y hy=>?_,fun y hy=>?_⟩
 ·show 0<=y/\y<((x.d.ns++[(⟨k,p⟩ : Nd)]).length:Int)
  rcases List.mem_or_eq_of_mem_set hy with hy|rfl
  ·have:=h.rg y hy
   omega
  ·omega
 ·rcases Qu.1 hy with hy|hy
  ·exact h.p y hy
  ·rw [Qm.1 hy];exact hp
theorem X60(x:Br)(k p q:Int) : (nodB x k p q).d.ns.length=x.d.ns.length+1/\(nodB x k p q).d.ws.length=x.d.ws.length+1:=⟨by simp [nodB],X2z _ _ _ _⟩
theorem X34{n:Nat}{x:Br}(h:BrOk n x)(q:Int) : BrOk n (plcB x q):=by
 unfold plcB
 split
 ·exact X8g h (by decide)
 ·exact h
theorem X3c(x:Br)(q:Int) : (plcB x q).d.ns.length<=x.d.ns.length+1/\(plcB x q).d.ws.length<=x.d.ws.length+1/\x.d.ns.length<=(plcB x q).d.ns.length:=by
 have:=X60 x 3 0 q
 unfold plcB
 split<;>omega
theorem X3x{n:Nat}{x:Br}(h:BrOk n x)(q m:Int) : BrOk n (trnB x q m):=by
 have h1:=X34 h q
 exact ⟨h1.la,h1.hd,fun y hy=>by
  have:=h1.rg y hy
  show 0<=y/\y<((adN _ _ _).length:Int)
  rw [X1m];exact this,X4l h1.p _ _⟩
theorem X55(x:Br)(q m:Int) : (trnB x q m).d.ns.length<=x.d.ns.length+1/\(trnB x q m).d.ws.length<=x.d.ws.length+1:=by
 have:=X3c x q
 show (adN _ _ _).length<=_/\(plcB x q).d.ws.length<=_
 rw [X1m]
 omega
theorem X1o{n:Nat}{x:Br}(h:BrOk n x)(q:Int) : BrOk n (flpB x q):=⟨h.la,List.length_set.trans h.hd,h.rg,h.p⟩
theorem Xrd{x:Br}{p q:Int}(h:0<=fdW (plcB (plcB x p) q).d.ws ((plcB x p).la.getD p.toNat 0) ((plcB (plcB x p) q).la.getD q.toNat 0)) : czB x p q = { plcB (plcB x p) q with d:={ (plcB (plcB x p) q).d with ws:=ctW (plcB (plcB x p) q).d.ws (fdW (plcB (plcB x p) q).d.ws ((plcB x p).la.getD p.toNat 0) ((plcB (plcB x p) q).la.getD q.toNat 0)).toNat,r:=wr ((plcB (plcB x p) q).d.r-1) } }:=Q4 h
theorem Xto{x:Br}{p q:Int}(h:¬ 0<=fdW (plcB (plcB x p) q).d.ws ((plcB x p).la.getD p.toNat 0) ((plcB (plcB x p) q).la.getD q.toNat 0)) : czB x p q = { plcB (plcB x p) q with d:={ (plcB (plcB x p) q).d with ws:=jnW (plcB (plcB x p) q).d.ws ((plcB x p).la.getD p.toNat 0) ((plcB (plcB x p) q).la.getD q.toNat 0) true,r:=wr ((plcB (plcB x p) q).d.r+1) } }:=Q3 h
theorem Xm8{n:Nat}{x:Br}(h:BrOk n x)(p q:Int) : BrOk n (czB x p q):=by
 have h1:=X34 (X34 h p) q
 unfold czB
 dsimp only
 split
 ·exact ⟨h1.la,h1.hd,h1.rg,h1.p⟩
 ·exact ⟨h1.la,h1.hd,h1.rg,h1.p⟩
theorem Xh5(x:Br)(p q:Int) : (czB x p q).d.ns.length<=x.d.ns.length+2/\(czB x p q).d.ws.length<=x.d.ws.length+3:=by
 have h1:=X3c x p;have h2:=X3c (plcB x p) q
 unfold czB
 dsimp only
 split
 ·have:=(X2y (plcB (plcB x p) q).d.ws (fdW (plcB (plcB x p) q).d.ws ((plcB x p).la.getD p.toNat 0) ((plcB (plcB x p) q).la.getD q.toNat 0)).toNat).length_le
  dsimp only
  omega
 ·dsimp only
  rw [X2z]
  omega
def swpB(x:Br)(a b:Int) : Br:={ x with la:=(x.la.set a.toNat (x.la.getD b.toNat 0)).set b.toNat (x.la.getD a.toNat 0),hd:=(x.hd.set a.toNat (x.hd.getD b.toNat false)).set b.toNat (x.hd.getD a.toNat false) }
def yyB(x:Br)(a:Int) : Br:=flpB (trnB (flpB (trnB x a 4) a) a 4) a
def tnB(x:Br)(k:Int) : Br:={ x with d:={ x.d with t:=wr (x.d.t+k) } }
def gtB(x:Br)(g:Gt) : Br:=
 if (g.k==1)=true then flpB x g.a
 else if (g.k==2)=true then flpB (trnB (flpB x g.a) g.a 4) g.a
 else if (g.k==3)=true then tnB (yyB x g.a) 2
 else if (g.k==9)=true then flpB (czB (flpB x g.b) g.a g.b) g.b
 else if (g.k==10)=true then czB x g.a g.b
 else if (g.k==11)=true then swpB x g.a g.b
 else if (g.k==12)=true then tnB x 1
 else trnB x g.a (rotC g.k)
section
variable {x : Br} {g : Gt}
theorem Xvh(h1:(g.k==1)=true) : gtB x g=flpB x g.a:=Q4 h1
theorem Xve(h1:(g.k==1)=false)(h2:(g.k==2)=true) : gtB x g=flpB (trnB (flpB x g.a) g.a 4) g.a:=by unfold gtB;rw [h1,h2];rfl
theorem Xvd(h1:(g.k==1)=false)(h2:(g.k==2)=false)(h3:(g.k==3)=true) : gtB x g=tnB (yyB x g.a) 2:=by unfold gtB;rw [h1,h2,h3];rfl
theorem Xvl(h1:(g.k==1)=false)(h2:(g.k==2)=false)(h3:(g.k==3)=false)(h9:(g.k==9)=true) : gtB x g=flpB (czB (flpB x g.b) g.a g.b) g.b:=by unfold gtB;rw [h1,h2,h3,h9];rfl
theorem Xr0(h1:(g.k==1)=false)(h2:(g.k==2)=false)(h3:(g.k==3)=false)(h9:(g.k==9)=false)(h10:(g.k==10)=true) : gtB x g=czB x g.a g.b:=by unfold gtB;rw [h1,h2,h3,h9,h10];rfl
theorem Xsu(h1:(g.k==1)=false)(h2:(g.k==2)=false)(h3:(g.k==3)=false)(h9:(g.k==9)=false)(h10:(g.k==10)=false)(h11:(g.k==11)=true) : gtB x g=swpB x g.a g.b:=by unfold gtB;rw [h1,h2,h3,h9,h10,h11];rfl
theorem Xq3(h1:(g.k==1)=false)(h2:(g.k==2)=false)(h3:(g.k==3)=false)(h9:(g.k==9)=false)(h10:(g.k==10)=false)(h11:(g.k==11)=false)(h12:(g.k==12)=true) : gtB x g=tnB x 1:=by unfold gtB;rw [h1,h2,h3,h9,h10,h11,h12];rfl
theorem Xug(h1:(g.k==1)=false)(h2:(g.k==2)=false)(h3:(g.k==3)=false)(h9:(g.k==9)=false)(h10:(g.k==10)=false)(h11:(g.k==11)=false)(h12:(g.k==12)=false) : gtB x g=trnB x g.a (rotC g.k):=by unfold gtB;rw [h1,h2,h3,h9,h10,h11,h12];rfl
end
theorem Xpi{k:Int}(h:4<=k/\k<=8) : ([4,2,6,1,7] : List Int)[(k-4).toNat]? = some (rotC k)/\0<=rotC k/\rotC k<=900:=by
 have:k=4∨k=5∨k=6∨k=7∨k=8:=by omega
 rcases this with e|e|e|e|e<;>subst e<;>decide
theorem Xp7{n:Nat}{x:Br}(h:BrOk n x){a b:Int}(ha:0<=a/\a.toNat<n)(hb:0<=b/\b.toNat<n) : BrOk n (swpB x a b):=by
 have h1:=h.at ha;have h2:=h.at hb
 refine ⟨List.length_set.trans (List.length_set.trans h.la),List.length_set.trans (List.length_set.trans h.hd),fun y hy=>?_,h.p⟩
 show 0<=y/\y<(x.d.ns.length:Int)
 rcases List.mem_or_eq_of_mem_set hy with hy|rfl
 ·rcases List.mem_or_eq_of_mem_set hy with hy|rfl
  ·exact h.rg y hy
  ·omega
 ·omega
theorem Xl5{n:Nat}{x:Br}(h:BrOk n x)(k:Int) : BrOk n (tnB x k):=⟨h.la,h.hd,h.rg,h.p⟩
theorem Xsm{n:Nat}{x:Br}(h:BrOk n x)(a:Int) : BrOk n (yyB x a):=X1o (X3x (X1o (X3x h a 4) a) a 4) a
theorem Xob(x:Br)(a:Int) : (yyB x a).d.ns.length<=x.d.ns.length+2/\(yyB x a).d.ws.length<=x.d.ws.length+2:=by
 have h1:=X55 x a 4;have h2:=X55 (flpB (trnB x a 4) a) a 4
 have e1:(flpB (trnB x a 4) a).d=(trnB x a 4).d:=rfl
 have e2:(yyB x a).d=(trnB (flpB (trnB x a 4) a) a 4).d:=rfl
 rw [e1] at h2
 rw [e2]
 omega
theorem Xff{n:Nat}{x:Br}(h:BrOk n x){g:Gt}(hg:gOk (n:Int) g=true) : BrOk n (gtB x g):=by
 unfold gtB
 split
 ·exact X1o h _
 split
 ·exact X1o (X3x (X1o h _) _ _) _
 split
 ·exact Xl5 (Xsm h _) _
 split
 ·exact X1o (Xm8 (X1o h _) _ _) _
 split
 ·exact Xm8 h _ _
 split
 ·exact Xp7 h (Xa5 hg) (Xai hg)
 split
 ·exact Xl5 h _
 ·exact X3x h _ _
theorem Xg5(x:Br)(g:Gt) : (gtB x g).d.ns.length<=x.d.ns.length+3/\(gtB x g).d.ws.length<=x.d.ws.length+3:=by
 unfold gtB
 split
 ·show x.d.ns.length<=_/\x.d.ws.length<=_;omega
 split
 ·have h1:=X55 (flpB x g.a) g.a 4
  have e1:(flpB x g.a).d=x.d:=rfl
  rw [e1] at h1
  show (trnB (flpB x g.a) g.a 4).d.ns.length<=_/\(trnB (flpB x g.a) g.a 4).d.ws.length<=_
  omega
 split
 ·have h1:=Xob x g.a
  show (yyB x g.a).d.ns.length<=_/\(yyB x g.a).d.ws.length<=_
  omega
 split
 ·have h1:=Xh5 (flpB x g.b) g.a g.b
  have e1:(flpB x g.b).d=x.d:=rfl
  rw [e1] at h1
  show (czB (flpB x g.b) g.a g.b).d.ns.length<=_/\(czB (flpB x g.b) g.a g.b).d.ws.length<=_
  omega
 split
 ·have h1:=Xh5 x g.a g.b
  omega
 split
 ·show x.d.ns.length<=_/\x.d.ws.length<=_;omega
 split
 ·show x.d.ns.length<=_/\x.d.ws.length<=_;omega
 ·have h1:=X55 x g.a (rotC g.k)
  omega
def inN(k:Nat) : List Nd:=(List.range k).map fun (i:Nat)=>(⟨1,i⟩ : Nd)
def ranI(k:Nat) : List Int:=(List.range k).map fun (i:Nat)=>(i:Int)
theorem Xt1(k:Nat) : inN (k+1)=inN k++[(⟨1,(k:Int)⟩ : Nd)]:=by unfold inN;rw [List.range_succ,List.map_append];rfl
theorem Xod(k:Nat) : ranI (k+1)=ranI k++[(k:Int)]:=by unfold ranI;rw [List.range_succ,List.map_append];rfl
theorem X62(k:Nat) : (inN k).length=k:=by simp [inN]
theorem X6k(k:Nat) : (ranI k).length=k:=by simp [ranI]
def ofB0(c:Cx) : Br:=⟨⟨c.n,inN c.n.toNat,[],0,0⟩,ranI c.n.toNat,List.replicate c.n.toNat false⟩
def ofB1(c:Cx) : Br:=c.gs.foldl gtB (ofB0 c)
def ofK(c:Cx)(j:Nat) : Br:=(List.range j).foldl (fun x (q:Nat)=>nodB x 2 (q:Int) (q:Int)) (ofB1 c)
def ofD(c:Cx) : Dg:=outD (ofK c c.n.toNat).d
theorem Xad(c:Cx)(j:Nat) : ofK c (j+1)=nodB (ofK c j) 2 (j:Int) (j:Int):=by unfold ofK;rw [List.range_succ,List.foldl_append];rfl
theorem X81{c:Cx}(hn:1<=c.n/\c.n<=5) : BrOk c.n.toNat (ofB0 c):=by
 refine ⟨X6k _,List.length_replicate,fun y hy=>?_,fun y hy=>?_⟩
 ·obtain ⟨i,hi,rfl⟩:=W6.1 hy
  have:=W2.1 hi
  show 0<=(i:Int)/\(i:Int)<((inN _).length:Int)
  rw [X62]
  omega
 ·obtain ⟨i,hi,rfl⟩:=W6.1 hy
  have:=W2.1 hi
  show 0<=(i:Int)/\(i:Int)<=7
  omega
theorem Xj9{N M:Nat}{ws:List Wr}(h:RgW N ws)(hN:N<=M) : RgW M ws:=fun x hx=>by have:=h x hx;omega
def BrG(x:Br) : Prop:=RgW x.d.ns.length x.d.ws
theorem Xgq{n:Nat}{x:Br}(h:BrOk n x)(hg:BrG x){k p q:Int}(hq:0<=q/\q.toNat<n) : BrG (nodB x k p q):=by
 have h1:=h.at hq;have hl:=(X60 x k p q).1
 unfold BrG
 rw [hl]
 exact X7c (Xj9 hg (by omega)) (by omega) (by omega)
theorem Xgg{n:Nat}{x:Br}(h:BrOk n x)(hg:BrG x){q:Int}(hq:0<=q/\q.toNat<n) : BrG (plcB x q):=by
 unfold plcB
 split
 ·exact Xgq h hg hq
 ·exact hg
theorem Xac{n:Nat}{x:Br}(h:BrOk n x)(hg:BrG x){q:Int}(hq:0<=q/\q.toNat<n)(m:Int) : BrG (trnB x q m):=by
 have h1:=Xgg h hg hq
 show RgW (adN _ _ _).length (plcB x q).d.ws
 rw [X1m]
 exact h1
theorem Xpb{n:Nat}{x:Br}(h:BrOk n x)(hg:BrG x){p q:Int}(hp:0<=p/\p.toNat<n)(hq:0<=q/\q.toNat<n) : BrG (czB x p q):=by
 have k1:=X34 h p
 have k2:=X34 k1 q
 have h1:=Xgg k1 (Xgg h hg hp) hq
 have a1:=k1.at hp
 have a2:=k2.at hq
 have l2:=X3c (plcB x p) q
 unfold czB
 dsimp only
 split
 ·exact Xbp h1 _
 ·exact X7c (N:=(plcB (plcB x p) q).d.ns.length) h1 ⟨a1.1,by omega⟩ ⟨a2.1,by omega⟩
theorem Xv5{n:Nat}{x:Br}(h:BrOk n x)(hx:BrG x){g:Gt}(hg:gOk (n:Int) g=true) : BrG (gtB x g):=by
 have ha:=Xa5 hg;have hb:=Xai hg
 unfold gtB
 split
 ·exact hx
 split
 ·exact Xac (X1o h _) hx ha _
 split
 ·exact Xac (X1o (X3x h _ _) _) (Xac h hx ha _) ha _
 split
 ·exact Xpb (X1o h _) hx ha hb
 split
 ·exact Xpb h hx ha hb
 split
 ·exact hx
 split
 ·exact hx
 ·exact Xac h hx ha _
theorem Xf5{n:Nat} : ∀ (l:List Gt) (x:Br),BrOk n x->BrG x->(∀ g ∈ l,gOk (n:Int) g=true)->BrOk n (l.foldl gtB x)/\BrG (l.foldl gtB x)/\(l.foldl gtB x).d.ns.length<=x.d.ns.length+3*l.length/\(l.foldl gtB x).d.ws.length<=x.d.ws.length+3*l.length
 | [],x,h,hg,_=>⟨h,hg,by simp,by simp⟩
 | g::l,x,h,hg,hl=>by
  have h0:=hl g (by simp)
  have h1:=Xf5 l (gtB x g) (Xff h h0) (Xv5 h hg h0) fun z hz=>hl z (by simp [hz])
  have h2:=Xg5 x g
  rw [List.foldl_cons,Qs]
  exact ⟨h1.1,h1.2.1,by omega,by omega⟩
theorem Xmj{c:Cx}(hc:cOk c=true) : ∀ j,j<=c.n.toNat->BrOk c.n.toNat (ofK c j)/\BrG (ofK c j)/\(ofK c j).d.ns.length<=c.n.toNat+3*c.gs.length+j/\(ofK c j).d.ws.length<=3*c.gs.length+j
 | 0,_=>by
  obtain ⟨n9,hn9,hn1,hn5⟩:=X7x hc
  have hcn:c.n=((c.n.toNat:Nat) : Int):=by omega
  have h:=Xf5 c.gs (ofB0 c) (X81 ⟨by omega,by omega⟩) (fun x hx=>by cases hx) (fun g hg=>by
   obtain ⟨i,hi⟩:=List.mem_iff_getElem?.1 hg
   exact Xgd hc hcn hi)
  have e1:(ofB0 c).d.ns.length=c.n.toNat:=X62 _
  have e2:(ofB0 c).d.ws.length=0:=rfl
  refine ⟨h.1,h.2.1,?_,?_⟩
  ·show (ofB1 c).d.ns.length<=_
   have:=h.2.2.1
   unfold ofB1
   omega
  ·show (ofB1 c).d.ws.length<=_
   have:=h.2.2.2
   unfold ofB1
   omega
 | j+1,hj=>by
  obtain ⟨n9,hn9,hn1,hn5⟩:=X7x hc
  obtain ⟨h1,h2,h3,h4⟩:=Xmj hc j (by omega)
  have h5:=X60 (ofK c j) 2 (j:Int) (j:Int)
  rw [Xad]
  exact ⟨X8g h1 ⟨by omega,by omega⟩,Xgq h1 h2 ⟨by omega,by omega⟩,by omega,by omega⟩
theorem Xav{ns:List Nd}{j:Nat}{u:Int}(h:(spL ns)[j]? = some u) : 0<=u/\u.toNat<ns.length:=by
 have hm:=Qe h
 unfold spL spK at hm
 obtain ⟨i,hi,rfl⟩:=W6.1 hm
 have:=W2.1 (List.mem_filter.1 hi).1
 omega
abbrev wrV(x:Wr) : Value:=.agg #[.int .i64 x.a,.int .i64 x.b,.bool x.h]
abbrev ndV(x:Nd) : Value:=.agg #[.int .i64 x.k,.int .i64 x.p]
theorem Xcm(d:Nat)(x y:Nd)(w:World) : (Op.equalIn (d+2) 76 (ndV x) (ndV y)).run Tryz.prog w=.ok (decide (x=y)) w:=by
 have hf:=X5r Tryz.underlying76;refine (run_equalIn_struct w (d+1) 76 _ _ (by rw [hf];exact Tryz.underlying76) (by kernel_rfl)).trans ?_
 rw [hf]
 have:decide (x=y)=(decide (x.k=y.k)&&(decide (x.p=y.p)&&true)):=by
  obtain ⟨a,b⟩:=x;obtain ⟨a',b'⟩:=y
  simp
 rw [this]
 refine X1n (by decide) Xa Tryz.underlying3 rfl rfl fun _=>?_;refine X1n (by decide) Xa Tryz.underlying3 rfl rfl fun _=>?_
 rfl
theorem Xc6:Tryz.prog.eqGuardType Tryz.prog.depth 76=false:=by kernel_rfl
def cmW(x y:Wr) : Int:=if cmI x.a y.a≠0 then cmI x.a y.a else cmI x.b y.b
def orI:List Int->Int
 | []=>0
 | x::l=>if x≠0 then x else orI l
theorem Xlm:∀ {l:List Int} {k:Nat} {u:Int},(∀ x ∈ l.take k,x=0)->l[k]? = some u->u≠0->orI l=u
 | [],_,_,_,h,_=>by simp at h
 | x::l,0,u,_,h,hu=>by
  simp only [List.getElem?_cons_zero,Option.some.injEq] at h
  subst h
  exact Q4 hu
 | x::l,k+1,u,ha,h,hu=>by
  have hx:x=0:=ha x (by simp)
  unfold orI
  rw [Q3 (by simpa using hx)]
  exact Xlm (l:=l) (k:=k) (fun z hz=>ha z (by simp [hz])) (by simpa using h) hu
theorem Xrv:∀ {l:List Int},(∀ x ∈ l,x=0)->orI l=0
 | [],_=>rfl
 | x::l,ha=>by
  have hx:x=0:=ha x (by simp)
  unfold orI
  rw [Q3 (by simpa using hx)]
  exact Xrv fun z hz=>ha z (by simp [hz])
theorem Xln(x y:Wr) : orI [cmI x.a y.a,cmI x.b y.b]=cmW x y:=by grind [cmI,cmW,orI]
def fnI(ns:List Nd)(x:Nd) : Int:=idxF ns fun y=>decide (x=y)
def nokI(n:Int)(x:Nd) : Bool:=if (x.k==0)=true then x.p==0 else if (x.k==1||x.k==2)=true then inR x.p 0 (n-1) else if (x.k==3)=true then inR x.p 0 7 else false
def bnI(ns:List Nd) : Int:=((ns.filter fun x=>x.k==1||x.k==2).length:Int)
theorem Xul{ns:List Nd}{j:Nat}{x:Nd}(hj:ns[j]? = some x)(h:(x.k==1||x.k==2)=true) : bnI (ns.take (j+1))=bnI (ns.take j)+1:=by
 unfold bnI
 rw [X2l (q:=fun x=>x.k==1||x.k==2) hj,Q4 h,Qh]
 rfl
theorem Xuu{ns:List Nd}{j:Nat}{x:Nd}(hj:ns[j]? = some x)(h:(x.k==1||x.k==2)=false) : bnI (ns.take (j+1))=bnI (ns.take j):=by
 unfold bnI
 rw [X2l (q:=fun x=>x.k==1||x.k==2) hj,Q3 (by rw [h];decide),List.append_nil]
theorem Xse(ns:List Nd)(j:Nat) : 0<=bnI (ns.take j)/\bnI (ns.take j)<=j:=by grind [bnI]
def heQ(d:Dg)(q:Nat) : Bool:=!(decide (fnI d.ns ⟨1,q⟩<0)||decide (fnI d.ns ⟨2,q⟩<0))
def heD(d:Dg) : Bool:=(List.range d.n.toNat).all (heQ d)&&bnI d.ns==2*d.n
theorem Xbd{α:Type}{l:List α}{q:α->Bool} : decide (0<=idxF l q)=l.any q:=by grind [idxF]
def wvQ(d:Dg)(i:Nat) : Bool:=!(decide ((d.ws.getD i wZ).a<0)||decide ((d.ws.getD i wZ).b<=(d.ws.getD i wZ).a)||decide ((d.ns.length:Int)<=(d.ws.getD i wZ).b)||(decide (0<(i:Int))&&decide (0<=cmW (d.ws.getD (i-1) wZ) (d.ws.getD i wZ))))
def nvQ(d:Dg)(i:Nat) : Bool:=!(((d.ns.getD i nZ).k==0&&cnW d.ws (i:Int) != 0)||(((d.ns.getD i nZ).k==1||(d.ns.getD i nZ).k==2)&&cnW d.ws (i:Int) != 1))
def hvQ(d:Dg) : Bool:=!(!(inR d.n 1 5)||decide (40<(d.ns.length:Int))||!(inR d.t 0 7)||!(inR d.r (-60) 60)||(d.ns.any fun x=>!nokI d.n x)||!(heD d))
def ivD(d:Dg) : Bool:=hvQ d&&(List.range d.ws.length).all (wvQ d)&&(List.range d.ns.length).all (nvQ d)
theorem Xml{d:Dg}{i:Nat}{u:Wr}(hu:d.ws[i]? = some u) : wvQ d i = !(decide (u.a<0)||decide (u.b<=u.a)||decide ((d.ns.length:Int)<=u.b)||(decide (0<(i:Int))&&decide (0<=cmW (d.ws.getD (i-1) wZ) u))):=by grind [cmW,wZ,wvQ]
theorem Xtw{d:Dg}{i:Nat}{u:Nd}(hu:d.ns[i]? = some u) : nvQ d i = !((u.k==0&&cnW d.ws (i:Int) != 0)||((u.k==1||u.k==2)&&cnW d.ws (i:Int) != 1)):=by grind [cnW,nvQ]
theorem Xva{d:Dg}(h:(!(inR d.n 1 5)||decide (40<(d.ns.length:Int))||!(inR d.t 0 7)||!(inR d.r (-60) 60)||(d.ns.any fun x=>!nokI d.n x)||!(heD d))=true) : ivD d=false:=by
 unfold ivD hvQ;rw [h];rfl
theorem Xv2{d:Dg}{i:Nat}(hi:i<d.ws.length)(h:wvQ d i=false) : ivD d=false:=by grind [ivD,wvQ]
theorem Xup{d:Dg}{i:Nat}(hi:i<d.ns.length)(h:nvQ d i=false) : ivD d=false:=by grind [ivD,nvQ]
theorem Xuh{d:Dg}(h:(!(inR d.n 1 5)||decide (40<(d.ns.length:Int))||!(inR d.t 0 7)||!(inR d.r (-60) 60)||(d.ns.any fun x=>!nokI d.n x)||!(heD d))=false)(h2:∀ i,i<d.ws.length->wvQ d i=true)(h3:∀ i:Nat,i<d.ns.length->nvQ d i=true) : ivD d=true:=by
 unfold ivD hvQ
 rw [h,X53 (q:=wvQ d) h2,X53 (q:=nvQ d) h3]
 rfl
theorem Xm0(i:World)(Al:Option Addr)(cl:Nat)(l:List Wr)(aA:Rd i i.heap.size 84 encWr Al l)(kq:FuncId)(pq:List Value)(Fq:FuncF Tryz.prog kq)(q:Wr->Bool)(hq:∀ x w,Below i.heap.size i w->Ret Tryz.prog kq ([wrV x]++pq) w (fun v w'=>v=.bool (q x)/\Below w.heap.size w w'))(aN:l.length<=1000000000) : Ret Tryz.prog 175 [.slice Al l.length cl,.func (.func kq) #[] pq.toArray] i (fun v w=>v=vi (idxF l q)/\Below i.heap.size i w):=by
 refine enter Tryz.func175 rfl 19 rfl rfl ?_;intro a c
 have j:=bz i
 refine Zs c fun _ aG=>?_;refine Za rfl<|ZX aG fun a c _ aH=>?_;refine Zs c fun _ aI=>?_;refine Zm rfl<|Ze (X07 rfl Xq)<|Zm rfl<|Zt aI fun a c=>?_;refine Q8<|X02 (σ:=Nat) (fun (k:Nat) (a:Act) (w:World)=>Fr a 19 [(0,.slice Al l.length cl),(1,.func (.func kq) #[] pq.toArray),(7,vi (l.length:Int)),(8,vi (k:Int))]/\(k<=l.length)/\(((l.take k).all fun x=>!q x)=true)/\Below i.heap.size i w) (fun (k:Nat)=>l.length-k) 0 ?_ ?_
 ·exact ⟨c.sb,(Qf _),rfl,j⟩
 rintro k a w1 ⟨c,hk,f,j⟩;refine Zs c fun _ aJ=>?_;refine Ze (X0i rfl rfl)<|ZX aJ fun a c _ aK=>?_
 refine Xf c rfl (fun d=>?_) (fun d=>?_)
 ·have aB:=d;have d:=Q2 d
  obtain ⟨u8,aO⟩:=X4 (l:=l) (k:=k) (by omega)
  obtain ⟨m,a6⟩:=X4 (l:=l) (k:=k) (by have:=d;omega)
  refine Q7<|aK _ _<|Q5 fun _ aL=>?_;refine Q8<|Zs c fun _ aC=>?_;refine Zm rfl<|Za rfl<|Zx aC fun a c _ aD=>?_;refine Zm rfl<|Zm rfl<|Zm rfl<|Zi (k:=k) (u:=m) (enc:=encWr) (l:=l) tv0 rfl rfl Xq X09 Xu (aA.bx j) a6 rfl ?_;intro aP a7;refine Ze (X00 (l:=[vi m.a,vi m.b,.bool m.h]) rfl X15 a7 rfl)<|Zf (X5x (cs:=pq) (vs:=[.agg #[vi m.a,vi m.b,.bool m.h]]) rfl rfl Fq (hq m _ j)) ?_;rintro _ w2 ⟨rfl,hE⟩;have j:=btr j hE;refine Zt aD fun a c=>?_
  refine Xf c rfl (fun e=>?_) (fun e=>?_)
  ·have a8:=e
   have g:idxF l q=(k:Int):=X6o f a6 e
   refine Zs c fun _ aE=>?_;refine Zm rfl<|Za rfl<|Zt aE fun a c=>?_;refine Q6<|Xx<|X8<|X8 ?_;refine Xx<|X8<|X6 c (Xs c rfl rfl) ?_;exact ⟨by rw [g],j⟩
  have a8:=e;have aM:=X5c f a6 e;refine Q7<|Xb<|aL _ _<|Zr c ?_;refine Ze (Xr rfl rfl (by omega) (by omega))<|Zm rfl ?_;refine Zn fun a c=>?_;refine Xe ?_;exact ⟨k+1,⟨c.sb,(by omega),aM,j⟩,(by omega)⟩
 have aB:=d;have d:=Q1 d
 have g:idxF l q = -1:=X72 f (by have:=d;omega)
 refine Q9<|Xl<|Xl<|X01 ?_;refine aH _ _<|Zs c fun _ aF=>?_;refine Za rfl<|Zt aF fun a c=>?_
 refine Q6 (X6 c (Xs c rfl rfl) ?_)
 exact ⟨by rw [g],j⟩
theorem Xsd(g:World)(Al:Option Addr)(cl:Nat)(l:List Nd)(aA:Rd g g.heap.size 76 encNd Al l)(kq:FuncId)(pq:List Value)(Fq:FuncF Tryz.prog kq)(q:Nd->Bool)(hq:∀ x w,Below g.heap.size g w->Ret Tryz.prog kq ([ndV x]++pq) w (fun v w'=>v=.bool (q x)/\Below w.heap.size w w'))(aN:l.length<=1000000000) : Ret Tryz.prog 132 [.slice Al l.length cl,.func (.func kq) #[] pq.toArray] g (fun v w=>v=vi (idxF l q)/\Below g.heap.size g w):=by
 refine enter Tryz.func132 rfl 19 rfl rfl ?_;intro a b
 have i:=bz g
 refine Zs b fun _ aG=>?_;refine Za rfl<|ZX aG fun a b _ aH=>?_;refine Zs b fun _ aI=>?_;refine Zm rfl<|Ze (X07 rfl Xm)<|Zm rfl<|Zt aI fun a b=>?_;refine Q8<|X02 (σ:=Nat) (fun (k:Nat) (a:Act) (w:World)=>Fr a 19 [(0,.slice Al l.length cl),(1,.func (.func kq) #[] pq.toArray),(7,vi (l.length:Int)),(8,vi (k:Int))]/\(k<=l.length)/\(((l.take k).all fun x=>!q x)=true)/\Below g.heap.size g w) (fun (k:Nat)=>l.length-k) 0 ?_ ?_
 ·exact ⟨b.sb,(Qf _),rfl,i⟩
 rintro k a w1 ⟨b,hk,e,i⟩;refine Zs b fun _ aJ=>?_;refine Ze (X0i rfl rfl)<|ZX aJ fun a b _ aK=>?_
 refine Xf b rfl (fun c=>?_) (fun c=>?_)
 ·have aB:=c;have c:=Q2 c
  obtain ⟨u8,aO⟩:=X4 (l:=l) (k:=k) (by omega)
  obtain ⟨u9,a6⟩:=X4 (l:=l) (k:=k) (by have:=c;omega)
  refine Q7<|aK _ _<|Q5 fun _ aL=>?_;refine Q8<|Zs b fun _ aC=>?_;refine Zm rfl<|Za rfl<|Zx aC fun a b _ aD=>?_;refine Zm rfl<|Zm rfl<|Zm rfl<|Zi (k:=k) (u:=u9) (enc:=encNd) (l:=l) tv0 rfl rfl Xm X05 Xt (aA.bx i) a6 rfl ?_;intro aP a7;refine Ze (X00 (l:=[vi u9.k,vi u9.p]) rfl X25 a7 rfl)<|Zf (X5x (cs:=pq) (vs:=[.agg #[vi u9.k,vi u9.p]]) rfl rfl Fq (hq u9 _ i)) ?_;rintro _ w2 ⟨rfl,hE⟩;have i:=btr i hE;refine Zt aD fun a b=>?_
  refine Xf b rfl (fun d=>?_) (fun d=>?_)
  ·have a8:=d
   have f:idxF l q=(k:Int):=X6o e a6 d
   refine Zs b fun _ aE=>?_;refine Zm rfl<|Za rfl<|Zt aE fun a b=>?_;refine Q6<|Xx<|X8<|X8 ?_;refine Xx<|X8<|X6 b (Xs b rfl rfl) ?_;exact ⟨by rw [f],i⟩
  have a8:=d;have aM:=X5c e a6 d;refine Q7<|Xb<|aL _ _<|Zr b ?_;refine Ze (Xr rfl rfl (by omega) (by omega))<|Zm rfl ?_;refine Zn fun a b=>?_;refine Xe ?_;exact ⟨k+1,⟨b.sb,(by omega),aM,i⟩,(by omega)⟩
 have aB:=c;have c:=Q1 c
 have f:idxF l q = -1:=X72 e (by have:=c;omega)
 refine Q9<|Xl<|Xl<|X01 ?_;refine aH _ _<|Zs b fun _ aF=>?_;refine Za rfl<|Zt aF fun a b=>?_
 refine Q6 (X6 b (Xs b rfl rfl) ?_)
 exact ⟨by rw [f],i⟩
theorem Xsi(w0:World)(x:Wr)(p q:Int)(ba bb:Nat)(d:Blk w0 ba 3 [vi p])(e:Blk w0 bb 3 [vi q]) : Ret Tryz.prog 176 [.agg #[vi x.a,vi x.b,.bool x.h],(pZ9 ba),(pZ9 bb)] w0 (fun v w=>v=.bool (isW p q x)/\Below w0.heap.size w0 w):=by
 have a7:=d.lt;have a8:=e.lt;refine enter Tryz.func176 rfl 19 rfl rfl ?_;intro a f
 have hW:=bz w0
 refine Zs f fun _ aA=>?_;refine Zf (X0q (zs:=[vi x.a,vi x.b,.bool x.h]) rfl rfl) ?_;rintro _ w1 ⟨b2,rfl,aB,hE,a6⟩;have aD:=Q0 hW.size aB;have d:=d.bw hE;have e:=e.bw hE;have hW:=btr hW hE;refine Za rfl<|ZX aA fun a f _ aC=>?_;refine X06 (fun a w=>Fr a 19 [(4,.bool ((x.a==(min p q))&&(x.b==(max p q))))]/\w1=w) ?_ ?_
 ·refine Zr f<|Ze (Vd rfl X0m 0)<|Ze (X0 rfl Xa (a6.at 0))<|Ze (X0 rfl Xa (d.at 0))<|Ze (X0 rfl Xa (e.at 0))<|Ze (Xpn rfl rfl)<|Ze (X0f rfl rfl)<|Zm rfl ?_
  refine Zg 11 rfl (fun c=>?_) (fun c=>?_)
  ·refine Zv (gW c) (Vd rfl X0o 1) ?_;refine Zv (gW c) (X0 rfl Xa (a6.at 1)) ?_;refine Zv (gW c) (X0 rfl Xa (d.at 0)) ?_;refine Zv (gW c) (X0 rfl Xa (e.at 0)) ?_;refine Zv (gW c) (Xpz rfl rfl) ?_;refine Zv (gW c) (X0f rfl rfl) ?_;refine Ze (X5 rfl c rfl)<|Za rfl ?_;refine Zn fun a f=>?_;exact ⟨f.sub ⟨X1 rfl (by first|rfl|(simp only [c,bs];done)|simp [c]),trivial⟩,rfl⟩
  (iterate 6 refine Zp (gP c) ?_);refine Ze (X9 rfl c rfl)<|Za rfl ?_;refine Zn fun a f=>?_;exact ⟨f.sub ⟨X1 rfl (by first|rfl|(simp only [c,bs];done)|simp [c]),trivial⟩,rfl⟩
 rintro a _ ⟨f,rfl⟩;refine aC _ _ ?_
 refine Q6 (X6 f (Xs f rfl rfl) ?_)
 exact ⟨rfl,hW⟩
theorem Xlh(g:World)(d:Dg)(md:Nat)(aG:md=d.ns.length)(Ad:Option Addr)(cd:Nat)(aH:Rd g g.heap.size 76 encNd Ad d.ns)(Bd:Option Addr)(dd:Nat)(a6:Rd g g.heap.size 84 encWr Bd d.ws)(aI:d.ws.length<=dd)(p:Int)(q:Int)(a8:d.ws.length<=1000000000) : Ret Tryz.prog 125 [.agg #[vi d.n,.slice Ad md cd,.slice Bd d.ws.length dd,vi d.t,vi d.r],vi p,vi q] g (fun v w=>v=vi (fdW d.ws p q)/\Below g.heap.size g w):=by
 refine enter Tryz.func125 rfl 11 rfl rfl ?_;intro a hf
 have b:=bz g
 refine Zs hf fun _ aA=>?_;refine Zf (X0q (zs:=[vi d.n,.slice Ad md cd,.slice Bd d.ws.length dd,vi d.t,vi d.r]) rfl rfl) ?_;rintro _ w1 ⟨b4,rfl,aB,e,c⟩;have aJ:=Q0 b.size aB;have b:=btr b e;refine Zf (X0q (zs:=[vi p]) rfl rfl) ?_;rintro _ w2 ⟨b5,rfl,aC,e,f⟩;have aK:=Q0 b.size aC;have c:=c.bw e;have b:=btr b e;refine Zf (X0q (zs:=[vi q]) rfl rfl) ?_;rintro _ w3 ⟨b6,rfl,aD,e,aE⟩
 have a7:b5≠b6:=by have:=f.lt;omega
 have aL:=Q0 b.size aD;have c:=c.bw e;have f:=f.bw e;have b:=btr b e;refine Za rfl<|Zx aA fun a hf _ aF=>?_;refine Ze (Vd rfl Xi 2)<|Ze (X0 rfl X0b (c.at 2))<|Ze (X35 (vs:=[(pZ9 b5),(pZ9 b6)]) rfl)<|Zf (Vc (Xm0 _ Bd dd d.ws (a6.bx b).top 176 [(pZ9 b5),(pZ9 b6)] Xkg (isW p q) (fun x w' hE'=>Xsi w' x p q _ _ (f.bw hE') (aE.bw hE')) a8) Xdo) ?_;rintro _ w4 ⟨rfl,e⟩;have b:=btr b e;refine Za rfl<|Zt aF fun a hf=>?_
 refine Q6 (X6 hf (Xs hf rfl rfl) ?_)
 exact ⟨rfl,b⟩
theorem X5h(g:World)(d:Dg)(md:Nat)(a7:md=d.ns.length)(Ad:Option Addr)(cd:Nat)(a8:Rd g g.heap.size 76 encNd Ad d.ns)(Bd:Option Addr)(dd:Nat)(i:Rd g g.heap.size 84 encWr Bd d.ws)(aA:d.ws.length<=dd)(p:Int)(q:Int)(aD:d.ws.length<=1000000000) : Ret Tryz.prog 212 [.agg #[vi d.n,.slice Ad md cd,.slice Bd d.ws.length dd,vi d.t,vi d.r],vi p,vi q] g (fun v w=>v=vi (tyW d.ws p q)/\Below g.heap.size g w):=by
 have aL:=X7n d.ws p q
 have aE:∀ x:Bool,(if x=true then (1:Int) else 0)=0∨(if x=true then (1:Int) else 0)=1:=fun x=>by cases x;exact .inl rfl;exact .inr rfl
 refine enter Tryz.func212 rfl 22 rfl rfl ?_;intro a c
 have e:=bz g
 refine Zs c fun _ aF=>?_;refine Zf (X0q (zs:=[vi d.n,.slice Ad md cd,.slice Bd d.ws.length dd,vi d.t,vi d.r]) rfl rfl) ?_;rintro _ w1 ⟨b4,rfl,aG,hE,f⟩;have aM:=Q0 e.size aG;have e:=btr e hE;refine Za rfl<|Zx aF fun a c _ aH=>?_;refine Ze (Vn X2 f)<|Zm rfl<|Zm rfl<|Zf (Vc (Xlh _ d md a7 Ad cd (a8.bx e).top Bd dd (i.bx e).top aA p q aD) Xcn) ?_;rintro _ w2 ⟨rfl,hE⟩;have f:=f.bw hE;have e:=btr e hE;refine Za rfl<|ZX aH fun a c _ aI=>?_;refine Zs c fun _ aJ=>?_;refine Zm rfl<|Ze (X0i rfl rfl)<|Zt aJ fun a c=>?_
 refine Xf c rfl (fun b=>?_) (fun b=>?_)
 ·have aB:=b;have b:=Q2 b
  have hz:tyW d.ws p q=0:=by unfold tyW;exact Q4 (by simpa using b)
  refine Zs c fun _ aK=>?_;refine Za rfl<|Zt aK fun a c=>?_;refine Q6<|X8<|X6 c (Xs c rfl rfl) ?_;exact ⟨by rw [hz],e⟩
 have aB:=b;have b:=Q1 b
 have aN:0<=fdW d.ws p q:=by have h9:=b;simp at h9;omega
 have hz:tyW d.ws p q=1+(if (d.ws.getD (fdW d.ws p q).toNat wZ).h=true then 1 else 0):=by unfold tyW;rw [Q3 (by omega)];cases (d.ws.getD (fdW d.ws p q).toNat wZ).h<;>rfl
 have aO:=aE (d.ws.getD (fdW d.ws p q).toNat wZ).h;refine Q7<|aI _ _<|Zs c fun _ aC=>?_;refine Ze (Vd rfl Xi 2)<|Ze (X0 rfl X0b (f.at 2))<|Zm rfl<|Zi (k:=(fdW d.ws p q).toNat) (u:=(d.ws.getD (fdW d.ws p q).toNat wZ)) (enc:=encWr) (l:=d.ws) tv0 rfl rfl Xq X09 Xu (i.bx e) (Xg (by omega)) (by omega) ?_;intro aP a6;refine Ze (X1y rfl X5m)<|Ze (X0 rfl X82 (a6.drop 2))<|Zf (Vc (F59 _ ((d.ws.getD (fdW d.ws p q).toNat wZ).h)) X9p) ?_;rintro _ _ ⟨rfl,rfl⟩;refine Ze (Xr rfl rfl (by omega) (by omega))<|Za rfl<|Zt aC fun a c=>?_
 refine Q6 (X6 c (Xs c rfl rfl) ?_)
 exact ⟨by rw [hz],e⟩
theorem X4j(e:World)(d:Dg)(md:Nat)(f:md=d.ns.length)(Ad:Option Addr)(cd:Nat)(a6:Rd e e.heap.size 76 encNd Ad d.ns)(Bd:Option Addr)(dd:Nat)(aD:Rd e e.heap.size 84 encWr Bd d.ws)(aE:d.ws.length<=dd)(p:Int)(hN:md<=1000) : Ret Tryz.prog 172 [.agg #[vi d.n,.slice Ad md cd,.slice Bd d.ws.length dd,vi d.t,vi d.r],vi p] e (fun v w=>v=.bool (spI d.ns p)/\Below e.heap.size e w):=by
 refine enter Tryz.func172 rfl 20 rfl rfl ?_;intro a c
 have hW:=bz e
 refine Zs c fun _ aA=>?_;refine Zf (X0q (zs:=[vi d.n,.slice Ad md cd,.slice Bd d.ws.length dd,vi d.t,vi d.r]) rfl rfl) ?_;rintro _ w1 ⟨b4,rfl,aB,hE,a7⟩;have aF:=Q0 hW.size aB;have hW:=btr hW hE;refine Za rfl<|ZX aA fun a c _ aC=>?_;refine X06 (fun a w=>Fr a 20 [(4,.bool ((inR p 0 ((md:Int)-1))&&(((d.ns.getD p.toNat nZ).k)==3)))]/\w1=w) ?_ ?_
 ·refine Zr c<|Zm rfl<|Ze (Vd rfl Xc 1)<|Ze (X0 rfl Xv (a7.at 1))<|Ze (X07 rfl Xm)<|Ze (X1d rfl rfl (by omega) (by omega))<|Zf (Vc (F91 _ p 0 ((md:Int)-1)) X3w) ?_;rintro _ _ ⟨rfl,rfl⟩;refine Zm rfl ?_
  refine Zg 11 rfl (fun b=>?_) (fun b=>?_)
  ·have aG:=X0t.1 b;refine Zv (gW b) (Vd rfl Xc 1) ?_;refine Zv (gW b) (X0 rfl Xv (a7.at 1)) ?_;refine Zv (gW b) (X3 rfl) ?_;refine Zj (k:=p.toNat) (u:=(d.ns.getD p.toNat nZ)) (enc:=encNd) (l:=d.ns) ⟨_,_,rfl,rfl,b⟩ rfl f rfl Xm X05 Xt (a6.bx hW) (Xg (by omega)) (by omega) ?_;intro p8 a8;refine Zv (gW b) (X1y rfl X13) ?_;refine Zv (gW b) (X0 rfl Xa (a8.drop 0)) ?_;refine Zv (gW b) (X0f rfl rfl) ?_;refine Ze (X5 rfl b rfl)<|Za rfl ?_;refine Zn fun a c=>?_;exact ⟨c.sub ⟨X1 rfl (by first|rfl|(simp only [b,bs];done)|simp [b]),trivial⟩,rfl⟩
  (iterate 7 refine Zp (gP b) ?_);refine Ze (X9 rfl b rfl)<|Za rfl ?_;refine Zn fun a c=>?_;exact ⟨c.sub ⟨X1 rfl (by first|rfl|(simp only [b,bs];done)|simp [b]),trivial⟩,rfl⟩
 rintro a _ ⟨c,rfl⟩;refine aC _ _ ?_
 refine Q6 (X6 c (Xs c rfl rfl) ?_)
 exact ⟨by unfold spI;rw [f],hW⟩
theorem X6v(y:World)(d:Dg)(md:Nat)(aP:md=d.ns.length)(Ad:Option Addr)(cd:Nat)(aQ:Rd y y.heap.size 76 encNd Ad d.ns)(Bd:Option Addr)(dd:Nat)(A:Rd y y.heap.size 84 encWr Bd d.ws)(q:d.ws.length<=dd)(p:Int)(aU:d.ws.length<=1000000000) : Ret Tryz.prog 94 [.agg #[vi d.n,.slice Ad md cd,.slice Bd d.ws.length dd,vi d.t,vi d.r],vi p] y (fun v w=>v=vi (cnW d.ws p)/\Below y.heap.size y w):=by
 refine enter Tryz.func94 rfl 29 rfl rfl ?_;intro a f
 have o:=bz y
 refine Zs f fun _ aH=>?_;refine Zf (X0q (zs:=[vi d.n,.slice Ad md cd,.slice Bd d.ws.length dd,vi d.t,vi d.r]) rfl rfl) ?_;rintro _ w1 ⟨b4,rfl,aI,hE,aJ⟩;have aR:=Q0 o.size aI;have o:=btr o hE;refine Za rfl<|Zx aH fun a f _ aK=>?_;refine Za rfl<|ZX aK fun a f _ aL=>?_;refine Zs f fun _ aM=>?_;refine Ze (Vd rfl Xi 2)<|Ze (X0 rfl X0b (aJ.at 2))<|Ze (X07 rfl Xq)<|Zm rfl<|Zt aM fun a f=>?_;refine Q8<|X02 (σ:=Nat×Int) (fun (s:Nat×Int) (a:Act) (w:World)=>match s with|(k,c)=>Fr a 29 [(1,vi p),(5,vi c),(9,.slice Bd d.ws.length dd),(10,vi (d.ws.length:Int)),(11,vi (k:Int))]/\(k<=d.ws.length)/\(c=cnW (d.ws.take k) p)/\d.ws.length<=dd/\Below y.heap.size y w) (fun (s:Nat×Int)=>match s with|(k,c)=>d.ws.length-k) (0,0) ?_ ?_
 ·exact ⟨f.sb,(Qf _),rfl,q,o⟩
 rintro ⟨k,c⟩ a w2 ⟨f,hk,hc,q,o⟩;have aB:=Xdc d.ws p k
 rw [<- hc] at aB
 refine Zs f fun _ aN=>?_;refine Ze (X0i rfl rfl)<|ZX aN fun a f _ aO=>?_
 refine Xf f rfl (fun g=>?_) (fun g=>?_)
 ·have i:=g;have g:=Q2 g
  obtain ⟨aV,aS⟩:=X4 (l:=d.ws) (k:=k) (by omega)
  obtain ⟨z,a6⟩:=X4 (l:=d.ws) (k:=k) (by have:=g;omega)
  have aB:=Xdc d.ws p k;refine Q7<|aO _ _<|Q5 fun _ B=>?_;refine Q8<|Zs f fun _ aC=>?_;refine Zi (k:=k) (u:=z) (enc:=encWr) (l:=d.ws) tv0 rfl rfl Xq X09 Xu (A.bx o) a6 rfl ?_;intro aW a7;refine Ze (X00 (l:=[vi z.a,vi z.b,.bool z.h]) rfl X15 a7 rfl)<|Zf (Xw (zs:=[vi 0,vi 0,.bool false]) X2k rfl) ?_;rintro _ w3 ⟨aX,rfl,C,hE,j⟩;have a8:=Q0 o.size C;have aD:=(A.bx o).away C;have o:=btr o hE;refine Zo (Vw [vi z.a,vi z.b,.bool z.h] X09 j) ?_;rintro _ w4 ⟨ho,hb⟩;have aT:=j;have o:=Below.oy o ho a8;have j:=hb;refine ZX aC fun a f _ aE=>?_;refine X06 (fun a w=>Fr a 29 [(1,vi p),(5,vi c),(9,.slice Bd d.ws.length dd),(10,vi (d.ws.length:Int)),(11,vi (k:Int)),(24,.bool ((z.a==p)||(z.b==p)))]/\w4=w) ?_ ?_
  ·refine Zr f<|Ze (Vd rfl X0m 0)<|Ze (X0 rfl Xa (j.at 0))<|Zm rfl<|Ze (X0f rfl rfl)<|Zm rfl ?_
   refine Zg 19 rfl (fun e=>?_) (fun e=>?_)
   ·(iterate 4 refine Zp (gP e) ?_);refine Ze (X5 rfl e rfl) ?_;refine Zn fun a f=>?_;exact ⟨f.sub ⟨rfl,rfl,rfl,rfl,rfl,X1 rfl (by first|rfl|(simp only [i,e,bs];done)|simp [i,e]),trivial⟩,rfl⟩
   refine Zv (gW e) (Vd rfl X0o 1) ?_;refine Zv (gW e) (X0 rfl Xa (j.at 1)) ?_;refine Zv (gW e) (X3 rfl) ?_;refine Zv (gW e) (X0f rfl rfl) ?_;refine Ze (X9 rfl e rfl) ?_;refine Zn fun a f=>?_;exact ⟨f.sub ⟨rfl,rfl,rfl,rfl,rfl,X1 rfl (by first|rfl|(simp only [i,e,bs];done)|simp [i,e]),trivial⟩,rfl⟩
  rintro a _ ⟨f,rfl⟩;refine aE _ _ ?_
  refine Xf f rfl (fun m=>?_) (fun m=>?_)
  ·have aA:=m;have x:=Xq1 a6 m
   rw [<- hc] at x
   refine Zr f<|Zm rfl<|Ze (Xr rfl rfl (by omega) (by omega))<|Za rfl ?_;refine Zn fun a f=>?_;refine Xb<|B _ _<|Zr f<|Ze (Xr rfl rfl (by omega) (by omega))<|Zm rfl ?_;refine Zn fun a f=>?_;refine Xe ?_;exact ⟨(k+1,c+1),⟨f.sb,(by omega),(by rw [x]),q,o⟩,(by first|omega|(dsimp only;omega))⟩
  have aA:=m;have x:=Xtb a6 m
  rw [<- hc] at x
  refine Q7<|Xb<|B _ _<|Zr f ?_;refine Ze (Xr rfl rfl (by omega) (by omega))<|Zm rfl ?_;refine Zn fun a f=>?_;refine Xe ?_;exact ⟨(k+1,c),⟨f.sb,(by omega),(by rw [x]),q,o⟩,(by first|omega|(dsimp only;omega))⟩
 have i:=g;have g:=Q1 g
 have aF:c=cnW d.ws p:=by rw [hc,Qi (by have:=g;omega)]
 refine Q9<|Xl<|Xl<|X01 ?_;refine aL _ _<|Zs f fun _ aG=>?_;refine Zm rfl<|Za rfl<|Zt aG fun a f=>?_
 refine Q6 (X6 f (Xs f rfl rfl) ?_)
 exact ⟨by rw [aF],o⟩
theorem Xqr(m:World)(Al:Option Addr)(cl:Nat)(l:List Nd)(n:Rd m m.heap.size 76 encNd Al l)(x:Nd)(aO:l.length<=1000000000) : Ret Tryz.prog 182 [.slice Al l.length cl,.agg #[vi x.k,vi x.p]] m (fun v w=>v=vi (fnI l x)/\Below m.heap.size m w):=by
 refine enter Tryz.func182 rfl 19 rfl rfl ?_;intro a c
 have f:=bz m
 refine Zs c fun _ aH=>?_;refine Zf (X0q (zs:=[vi x.k,vi x.p]) rfl rfl) ?_;rintro _ w1 ⟨b3,rfl,a8,hE,e⟩;have aN:=Q0 f.size a8;have aG:=(n.bx f).away a8;have f:=btr f hE;refine Za rfl<|ZX aH fun a c _ aI=>?_;refine Zs c fun _ aJ=>?_;refine Zm rfl<|Ze (X07 rfl Xm)<|Zm rfl<|Zt aJ fun a c=>?_;refine Q8<|X02 (σ:=Nat) (fun (k:Nat) (a:Act) (w:World)=>Fr a 19 [(0,.slice Al l.length cl),(3,(pZ9 b3)),(7,vi (l.length:Int)),(8,vi (k:Int))]/\(k<=l.length)/\(((l.take k).all fun y=>!decide (x=y))=true)/\Blk w b3 76 [vi x.k,vi x.p]/\Below m.heap.size m w) (fun (k:Nat)=>l.length-k) 0 ?_ ?_
 ·exact ⟨c.sb,(Qf _),rfl,e,f⟩
 rintro k a w2 ⟨c,hk,g,e,f⟩;refine Zs c fun _ aK=>?_;refine Ze (X0i rfl rfl)<|ZX aK fun a c _ aL=>?_
 refine Xf c rfl (fun d=>?_) (fun d=>?_)
 ·have aA:=d;have d:=Q2 d
  obtain ⟨u9,j⟩:=X4 (l:=l) (k:=k) (by omega)
  obtain ⟨u9,j⟩:=X4 (l:=l) (k:=k) (by have:=d;omega)
  refine Q7<|aL _ _<|Q5 fun _ aB=>?_;refine Q8<|Zs c fun _ aC=>?_;refine Zm rfl<|Za rfl<|ZX aC fun a c _ aD=>?_;refine Xz none (fun _=>false) mixed ?_;intro w3 hE;have e:=e.bw hE;have f:=btr f hE;refine Yb c<|Ye 0 rfl (Vn X25 e)<|Yo 1 rfl (fun _=>X3 rfl)<|Yo 2 rfl (fun _=>X3 rfl)<|Yi (k:=k) (u:=u9) (enc:=encNd) (l:=l) 3 rfl tv0 rfl rfl Xm X05 Xt (n.bx f) j rfl ?_;intro aP a6;refine Ye 4 rfl (X00 (l:=[vi u9.k,vi u9.p]) rfl X25 a6 rfl)<|Yo 5 rfl (fun _=>Xls rfl rfl Xc6 (fun w=>Xcm 9998 x u9 w)) ?_;refine Yd fun a c=>?_;refine aD _ _ ?_
  refine Xf c rfl (fun b=>?_) (fun b=>?_)
  ·have a7:=b;have b:=Q2 b
   have i:fnI l x=(k:Int):=X6o g j (by simpa using b)
   refine Zs c fun _ aE=>?_;refine Zm rfl<|Za rfl<|Zt aE fun a c=>?_;refine Q6<|Xx<|X8<|X8 ?_;refine Xx<|X8<|X6 c (Xs c rfl rfl) ?_;exact ⟨by rw [i],f⟩
  have a7:=b;have b:=Q1 b
  have aM:=X5c (q:=fun y=>decide (x=y)) g j (by simpa using b)
  refine Q7<|Xb<|aB _ _<|Zr c ?_;refine Ze (Xr rfl rfl (by omega) (by omega))<|Zm rfl ?_;refine Zn fun a c=>?_;refine Xe ?_;exact ⟨k+1,⟨c.sb,(by omega),aM,e,f⟩,(by omega)⟩
 have aA:=d;have d:=Q1 d
 have i:fnI l x = -1:=X72 g (by have:=d;omega)
 refine Q9<|Xl<|Xl<|X01 ?_;refine aI _ _<|Zs c fun _ aF=>?_;refine Za rfl<|Zt aF fun a c=>?_
 refine Q6 (X6 c (Xs c rfl rfl) ?_)
 exact ⟨by rw [i],f⟩
theorem Xtz(w0:World)(n:Int)(x:Nd)(hn:1<=n/\n<=1000) : Ret Tryz.prog 91 [vi n,.agg #[vi x.k,vi x.p]] w0 (fun v w=>v=.bool (nokI n x)/\Below w0.heap.size w0 w):=by
 refine enter Tryz.func91 rfl 25 rfl rfl ?_;intro a b
 have m:=bz w0
 refine Zs b fun _ aG=>?_;refine Zf (X0q (zs:=[vi x.k,vi x.p]) rfl rfl) ?_;rintro _ w1 ⟨b2,rfl,aH,hE,g⟩;have aN:=Q0 m.size aH;have m:=btr m hE;refine Za rfl<|ZX aG fun a b _ aI=>?_;refine Zs b fun _ aJ=>?_;refine Ze (Vd rfl X13 0)<|Ze (X0 rfl Xa (g.at 0))<|Zt aJ fun a b=>?_;refine Q8<|Zs b fun _ aK=>?_;refine Ze (X0f rfl rfl)<|Za rfl<|Zt aK fun a b=>?_
 refine Xf b rfl (fun i=>?_) (fun i=>?_)
 ·have a8:=i
  have c:nokI n x=_:=Q4 i
  refine Zs b fun _ aL=>?_;refine Ze (Vd rfl X04 1)<|Ze (X0 rfl Xa (g.at 1))<|Ze (X0f rfl rfl)<|Za rfl<|Zt aL fun a b=>?_;refine Q6<|Xx<|X8<|X6 b (Xs b rfl rfl) ?_;exact ⟨by rw [c],m⟩
 have a8:=i
 have g0:=i
 refine Q5 fun _ aA=>?_;refine Zs b fun _ aM=>?_;refine Ze (X0f rfl rfl)<|Za rfl<|Zt aM fun a b=>?_
 refine Xf b rfl (fun d=>?_) (fun d=>?_)
 ·have j:=d
  have c:nokI n x=inR x.p 0 (n-1):=by unfold nokI;rw [g0,d];rfl
  refine Q7<|aA _ _<|Xhl b (X1 rfl j) ?_;refine Zs b fun _ aB=>?_;refine Ze (Vd rfl X04 1)<|Ze (X0 rfl Xa (g.at 1))<|Zm rfl<|Ze (X1d rfl rfl (by omega) (by omega))<|Zf (Vc (F91 _ x.p 0 (n-1)) X3w) ?_;rintro _ _ ⟨rfl,rfl⟩;refine Za rfl<|Zt aB fun a b=>?_;refine Q6<|Xx<|X8<|X6 b (Xs b rfl rfl) ?_;exact ⟨by rw [c],m⟩
 have j:=d
 have g1:=d
 refine Zr b<|Ze (X0f rfl rfl)<|Za rfl<|Zt aA fun a b=>?_
 refine Xf b rfl (fun e=>?_) (fun e=>?_)
 ·have a6:=e
  have c:nokI n x=inR x.p 0 (n-1):=by unfold nokI;rw [g0,g1,e];rfl
  refine Zs b fun _ aC=>?_;refine Ze (Vd rfl X04 1)<|Ze (X0 rfl Xa (g.at 1))<|Zm rfl<|Ze (X1d rfl rfl (by omega) (by omega))<|Zf (Vc (F91 _ x.p 0 (n-1)) X3w) ?_;rintro _ _ ⟨rfl,rfl⟩;refine Za rfl<|Zt aC fun a b=>?_;refine Q6<|Xx<|X8<|X6 b (Xs b rfl rfl) ?_;exact ⟨by rw [c],m⟩
 have a6:=e
 have g2:=e
 refine Zs b fun _ aD=>?_;refine Ze (X0f rfl rfl)<|Za rfl<|Zt aD fun a b=>?_
 refine Xf b rfl (fun f=>?_) (fun f=>?_)
 ·have a7:=f
  have c:nokI n x=inR x.p 0 7:=by unfold nokI;rw [g0,g1,g2,f];rfl
  refine Zs b fun _ aE=>?_;refine Ze (Vd rfl X04 1)<|Ze (X0 rfl Xa (g.at 1))<|Zf (Vc (F91 _ x.p 0 7) X3w) ?_;rintro _ _ ⟨rfl,rfl⟩;refine Za rfl<|Zt aE fun a b=>?_;refine Q6<|Xx<|X8<|X6 b (Xs b rfl rfl) ?_;exact ⟨by rw [c],m⟩
 have a7:=f
 have c:nokI n x=false:=by unfold nokI;rw [g0,g1,g2,f];rfl
 refine Q7<|Xb<|aI _ _<|Zs b fun _ aF=>?_;refine Za rfl<|Zt aF fun a b=>?_
 refine Q6 (X6 b (Xs b rfl rfl) ?_)
 exact ⟨by rw [c],m⟩
theorem Xm3(w0:World)(Al:Option Addr)(cl:Nat)(l:List Int)(a8:Rd w0 w0.heap.size 3 encI Al l)(aM:l.length<=1000000000) : Ret Tryz.prog 134 [.slice Al l.length cl] w0 (fun v w=>v=vi (orI l)/\w0=w):=by
 have f:w0=w0:=rfl
 refine enter Tryz.func134 rfl 18 rfl rfl ?_;intro a b
 have hW:=bz w0
 refine Zs b fun _ aG=>?_;refine Za rfl<|Zx aG fun a b _ aH=>?_;refine Za rfl<|ZX aH fun a b _ aI=>?_;refine Zs b fun _ aJ=>?_;refine Zm rfl<|Ze (X07 rfl Xk)<|Zm rfl<|Zt aJ fun a b=>?_;refine Q8<|X02 (σ:=Nat) (fun (k:Nat) (a:Act) (w:World)=>Fr a 18 [(3,vi 0),(6,.slice Al l.length cl),(7,vi (l.length:Int)),(8,vi (k:Int))]/\(k<=l.length)/\(∀ x ∈ l.take k,x=0)/\w0=w/\Below w0.heap.size w0 w) (fun (k:Nat)=>l.length-k) 0 ?_ ?_
 ·exact ⟨b.sb,(Qf _),(by simp),f,hW⟩
 rintro k a w1 ⟨b,hk,e,f,hW⟩;refine Zs b fun _ aK=>?_;refine Ze (X0i rfl rfl)<|ZX aK fun a b _ aL=>?_
 refine Xf b rfl (fun c=>?_) (fun c=>?_)
 ·have aA:=c;have c:=Q2 c
  obtain ⟨u9,i⟩:=X4 (l:=l) (k:=k) (by omega)
  obtain ⟨u9,i⟩:=X4 (l:=l) (k:=k) (by have:=c;omega)
  refine Q7<|aL _ _<|Q5 fun _ aB=>?_;refine Q8<|Zs b fun _ aC=>?_;refine Zi (k:=k) (u:=u9) (enc:=encI) (l:=l) tv0 rfl rfl Xk X0a Xh (a8.bx hW) i rfl ?_;intro aN a6;refine Ze (X0 rfl Xa a6)<|Za rfl<|Zx aC fun a b _ aD=>?_;refine Zm rfl<|Zm rfl<|Ze (X1c rfl rfl)<|Zt aD fun a b=>?_
  refine Xf b rfl (fun d=>?_) (fun d=>?_)
  ·have a7:=d
   have g:orI l=u9:=Xlm e i (by simpa using d)
   refine Zs b fun _ aE=>?_;refine Zm rfl<|Za rfl<|Zt aE fun a b=>?_;refine Q6<|Xx<|X8<|X8 ?_;refine Xx<|X8<|X6 b (Xs b rfl rfl) ?_;exact ⟨by rw [g],f⟩
  have a7:=d
  have aO:u9=0:=by have h9:=d;simpa using h9
  refine Q7<|Xb<|aB _ _<|Zr b ?_;refine Ze (Xr rfl rfl (by omega) (by omega))<|Zm rfl ?_;refine Zn fun a b=>?_;refine Xe ?_;exact ⟨k+1,⟨b.sb,(by omega),(fun x hx=>by rw [Qt,i] at hx;rcases Qu.1 hx with hx|hx;exact e x hx;simp at hx;omega),f,hW⟩,(by omega)⟩
 have aA:=c;have c:=Q1 c
 have g:orI l=0:=Xrv (by rw [Qi (by have:=c;omega)] at e;exact e)
 refine Q9<|Xl<|Xl<|X01 ?_;refine aI _ _<|Zs b fun _ aF=>?_;refine Zm rfl<|Za rfl<|Zt aF fun a b=>?_
 refine Q6 (X6 b (Xs b rfl rfl) ?_)
 exact ⟨by rw [g],f⟩
theorem Xs8(w0:World)(x:Wr)(y:Wr) : Ret Tryz.prog 93 [.agg #[vi x.a,vi x.b,.bool x.h],.agg #[vi y.a,vi y.b,.bool y.h]] w0 (fun v w=>v=vi (cmW x y)/\Below w0.heap.size w0 w):=by
 refine enter Tryz.func93 rfl 17 rfl rfl ?_;intro a hf
 have d:=bz w0
 refine Zs hf fun _ a8=>?_;refine Zf (X0q (zs:=[vi x.a,vi x.b,.bool x.h]) rfl rfl) ?_;rintro _ w1 ⟨b2,rfl,aA,e,c⟩;have aE:=Q0 d.size aA;have d:=btr d e;refine Zf (X0q (zs:=[vi y.a,vi y.b,.bool y.h]) rfl rfl) ?_;rintro _ w2 ⟨b3,rfl,aB,e,f⟩
 have a7:b2≠b3:=by have:=c.lt;omega
 have aF:=Q0 d.size aB;have c:=c.bw e;have d:=btr d e;refine Za rfl<|ZX a8 fun a hf _ aC=>?_;refine Xz none (fun _=>false) mixed ?_;intro w3 e;have c:=c.bw e;have f:=f.bw e;have d:=btr d e;refine Yb hf<|Yo 0 rfl (fun _=>Vd rfl X0m 0)<|Ye 1 rfl (X0 rfl Xa (c.at 0))<|Yo 2 rfl (fun _=>Vd rfl X0m 0)<|Ye 3 rfl (X0 rfl Xa (f.at 0))<|Yo 5 rfl (fun _=>Vd rfl X0o 1)<|Ye 6 rfl (X0 rfl Xa (c.at 1))<|Yo 7 rfl (fun _=>Vd rfl X0o 1)<|Ye 8 rfl (X0 rfl Xa (f.at 1))<|Y1 4 ?_;refine Yz rfl tv0 (Vc (Xcx _ x.a y.a) X63) ?_;refine Y1 9<|Yz rfl tv0 (Vc (Xcx _ x.b y.b) X63) ?_;refine Y1 10<|Yk rfl tv0 (Xj (k:=2) (vs:=[vi (cmI x.a y.a),vi (cmI x.b y.b)]) (zs:=[vi (cmI x.a y.a),vi (cmI x.b y.b)]) rfl Xk X1f rfl rfl) (fun _ _ ⟨_,_,_,h,_⟩=>h) ?_;rintro _ w4 ⟨b5,rfl,aD,e,a6⟩;have aG:=Q0 d.size aD;have d:=btr d e;refine Y1 11<|Yz rfl tv0 (Vc (Xm3 _ (some ⟨b5,0,none⟩) 2 ([cmI x.a y.a,cmI x.b y.b]) (Rd.of_blk a6 rfl _ a6.lt) (by simp)) Xc4) ?_;refine Yo 12 rfl (fun _=>X0h rfl) ?_;refine Yd fun a hf=>?_;refine aC _ _ ?_
 refine Q6 (X6 hf (Xs hf rfl rfl) ?_)
 exact ⟨by rw [Xln],d⟩
theorem Xl8(b:World)(d:Dg)(md:Nat)(a6:md=d.ns.length)(Ad:Option Addr)(cd:Nat)(a7:Rd b b.heap.size 76 encNd Ad d.ns)(Bd:Option Addr)(dd:Nat)(aD:Rd b b.heap.size 84 encWr Bd d.ws)(aE:d.ws.length<=dd)(p:Int)(q:Int)(hN:md<=1000000000) : Ret Tryz.prog 133 [.agg #[vi d.n,.slice Ad md cd,.slice Bd d.ws.length dd,vi d.t,vi d.r],vi p,vi q] b (fun v w=>v=vi (fnI d.ns ⟨p,q⟩)/\Below b.heap.size b w):=by
 subst a6
 refine enter Tryz.func133 rfl 13 rfl rfl ?_;intro a hf
 have hW:=bz b
 refine Zs hf fun _ a8=>?_;refine Zf (X0q (zs:=[vi d.n,.slice Ad d.ns.length cd,.slice Bd d.ws.length dd,vi d.t,vi d.r]) rfl rfl) ?_;rintro _ w1 ⟨b4,rfl,aA,hE,aB⟩;have aF:=Q0 hW.size aA;have hW:=btr hW hE;refine Za rfl<|Zx a8 fun a hf _ aC=>?_;refine Ze (Vd rfl Xc 1)<|Ze (X0 rfl Xv (aB.at 1))<|Zm rfl<|Zm rfl<|Ze (X11 (ps:=[(0,vi p),(1,vi q)]) (cs:=[vi p,vi q]) rfl (fun _=>by first|rfl|kernel_rfl))<|Zf (Vc (Xqr _ Ad cd d.ns (a7.bx hW).top (⟨p,q⟩ : Nd) hN) Xky) ?_;rintro _ w2 ⟨rfl,hE⟩;have hW:=btr hW hE;refine Za rfl<|Zt aC fun a hf=>?_
 refine Q6 (X6 hf (Xs hf rfl rfl) ?_)
 exact ⟨rfl,hW⟩
theorem Xqz(H:World)(d:Dg)(md:Nat)(I:md=d.ns.length)(Ad:Option Addr)(cd:Nat)(D:Rd H H.heap.size 76 encNd Ad d.ns)(Bd:Option Addr)(dd:Nat)(M:Rd H H.heap.size 84 encWr Bd d.ws)(o:d.ws.length<=dd)(hN:md<=1000)(hn:1<=d.n/\d.n<=1000) : Ret Tryz.prog 92 [.agg #[vi d.n,.slice Ad md cd,.slice Bd d.ws.length dd,vi d.t,vi d.r]] H (fun v w=>v=.bool (heD d)/\Below H.heap.size H w):=by
 refine enter Tryz.func92 rfl 46 rfl rfl ?_;intro a b
 have x:=bz H
 refine Zs b fun _ aQ=>?_;refine Zf (X0q (zs:=[vi d.n,.slice Ad md cd,.slice Bd d.ws.length dd,vi d.t,vi d.r]) rfl rfl) ?_;rintro _ w1 ⟨b4,rfl,aR,E,f⟩;have b1:=Q0 x.size aR;have x:=btr x E;refine Za rfl<|Zx aQ fun a b _ aS=>?_;refine Za rfl<|ZX aS fun a b _ aT=>?_;refine Zs b fun _ aU=>?_;refine Ze (Vd rfl Xc 1)<|Ze (X0 rfl Xv (f.at 1))<|Ze (X07 rfl Xm)<|Zm rfl<|Zt aU fun a b=>?_;refine Q8<|X02 (σ:=Nat×Int) (fun (s:Nat×Int) (a:Act) (w:World)=>match s with|(k,c)=>Fr a 46 [(1,(pZ9 b4)),(3,vi c),(8,.slice Ad md cd),(9,vi (md:Int)),(10,vi (k:Int))]/\(k<=d.ns.length)/\(c=bnI (d.ns.take k))/\Blk w b4 31 [vi d.n,.slice Ad md cd,.slice Bd d.ws.length dd,vi d.t,vi d.r]/\d.ws.length<=dd/\Below H.heap.size H w) (fun (s:Nat×Int)=>match s with|(k,c)=>d.ns.length-k) (0,0) ?_ ?_
 ·exact ⟨b.sb,(Qf _),rfl,f,o,x⟩
 rintro ⟨k,c⟩ a w2 ⟨b,hk,hc,f,o,x⟩;have aV:=Xse d.ns k
 rw [<- hc] at aV
 refine Zs b fun _ aW=>?_;refine Ze (X0i rfl rfl)<|ZX aW fun a b _ aX=>?_
 refine Xf b rfl (fun y=>?_) (fun y=>?_)
 ·have m:=y;have y:=Q2 y
  obtain ⟨u9,a6⟩:=X4 (l:=d.ns) (k:=k) (by have:=y;omega)
  refine Q7<|aX _ _<|Q5 fun _ N=>?_;refine Q8<|Zs b fun _ aD=>?_;refine Zj (k:=k) (u:=u9) (enc:=encNd) (l:=d.ns) tv0 rfl I rfl Xm X05 Xt (D.bx x) a6 (by omega) ?_;intro b2 a7;refine Ze (X00 (l:=[vi u9.k,vi u9.p]) rfl X25 a7 rfl)<|Zf (Xw (zs:=[vi 0,vi 0]) X6s rfl) ?_;rintro _ w3 ⟨b3,rfl,Q,E,A⟩;have a8:=Q0 x.size Q;have aE:=(D.bx x).away Q;have f:=f.bw E;have x:=btr x E;refine Zo (Vw [vi u9.k,vi u9.p] X05 A) ?_;rintro _ w4 ⟨ho,hb⟩;have aF:=A;have f:=f.oz ho aF rfl;have x:=Below.oy x ho a8;have A:=hb;refine ZX aD fun a b _ aG=>?_;refine X06 (fun a w=>Fr a 46 [(1,(pZ9 b4)),(3,vi c),(8,.slice Ad md cd),(9,vi (md:Int)),(10,vi (k:Int)),(21,.bool ((u9.k==1)||(u9.k==2)))]/\w4=w) ?_ ?_
  ·refine Zr b<|Ze (Vd rfl X13 0)<|Ze (X0 rfl Xa (A.at 0))<|Ze (X0f rfl rfl)<|Zm rfl ?_
   refine Zg 17 rfl (fun g=>?_) (fun g=>?_)
   ·(iterate 3 refine Zp (gP g) ?_);refine Ze (X5 rfl g rfl) ?_;refine Zn fun a b=>?_;exact ⟨b.sub ⟨rfl,rfl,rfl,rfl,rfl,X1 rfl (by first|rfl|(simp only [m,g,bs];done)|simp [m,g]),trivial⟩,rfl⟩
   refine Zv (gW g) (Vd rfl X13 0) ?_;refine Zv (gW g) (X0 rfl Xa (A.at 0)) ?_;refine Zv (gW g) (X0f rfl rfl) ?_;refine Ze (X9 rfl g rfl) ?_;refine Zn fun a b=>?_;exact ⟨b.sub ⟨rfl,rfl,rfl,rfl,rfl,X1 rfl (by first|rfl|(simp only [m,g,bs];done)|simp [m,g]),trivial⟩,rfl⟩
  rintro a _ ⟨b,rfl⟩;refine aG _ _ ?_
  refine Xf b rfl (fun B=>?_) (fun B=>?_)
  ·have aA:=B;have J:=Xul a6 B
   rw [<- hc] at J
   refine Zr b<|Zm rfl<|Ze (Xr rfl rfl (by omega) (by omega))<|Za rfl ?_;refine Zn fun a b=>?_;refine Xb<|N _ _<|Zr b<|Ze (Xr rfl rfl (by omega) (by omega))<|Zm rfl ?_;refine Zn fun a b=>?_;refine Xe ?_;exact ⟨(k+1,c+1),⟨b.sb,(by omega),(by rw [J]),f,o,x⟩,(by first|omega|(dsimp only;omega))⟩
  have aA:=B;have J:=Xuu a6 B
  rw [<- hc] at J
  refine Q7<|Xb<|N _ _<|Zr b ?_;refine Ze (Xr rfl rfl (by omega) (by omega))<|Zm rfl ?_;refine Zn fun a b=>?_;refine Xe ?_;exact ⟨(k+1,c),⟨b.sb,(by omega),(by rw [J]),f,o,x⟩,(by first|omega|(dsimp only;omega))⟩
 have m:=y;have y:=Q1 y
 have aY:c=bnI d.ns:=by rw [hc,Qi (by have:=y;omega)]
 refine Q9<|Xl<|Xl<|X01 ?_;refine aT _ _<|Q5 fun _ aH=>?_;refine Zs b fun _ aI=>?_;refine Ze (Vd rfl X1q 0)<|Ze (X0 rfl Xa (f.at 0))<|Zm rfl<|Zt aI fun a b=>?_;refine Q8<|X02 (σ:=Nat) (fun (j:Nat) (a:Act) (w:World)=>Fr a 46 [(1,(pZ9 b4)),(3,vi c),(26,vi d.n),(27,vi (j:Int))]/\((j:Int)<=d.n)/\(∀ i:Nat,i<j->heQ d i=true)/\Blk w b4 31 [vi d.n,.slice Ad md cd,.slice Bd d.ws.length dd,vi d.t,vi d.r]/\d.ws.length<=dd/\Below H.heap.size H w) (fun (j:Nat)=>d.n.toNat-j) 0 ?_ ?_
 ·exact ⟨b.sb,(by omega),(fun i hi=>by omega),f,o,x⟩
 rintro j a w5 ⟨b,hj,U,f,o,x⟩;refine Zs b fun _ aJ=>?_;refine Ze (X0i rfl rfl)<|ZX aJ fun a b _ aK=>?_
 refine Xf b rfl (fun z=>?_) (fun z=>?_)
 ·have h:=z;have z:=Q2 z;have b5:=z;refine Q7<|aK _ _<|Q5 fun _ aL=>?_;refine Q8<|Zs b fun _ aM=>?_;refine Zm rfl<|Za rfl<|ZX aM fun a b _ aN=>?_;refine X06 (fun a w=>Fr a 46 [(1,(pZ9 b4)),(3,vi c),(26,vi d.n),(27,vi (j:Int)),(39,.bool ((decide ((fnI d.ns ⟨1,(j:Int)⟩)<0))||(decide ((fnI d.ns ⟨2,(j:Int)⟩)<0))))]/\Below w5.heap.size w5 w) ?_ ?_
  ·have G:Below w5.heap.size w5 w5:=Below.refl _ _
   refine Zr b<|Ze (Vn X2 f)<|Zm rfl<|Zf (Vc (Xl8 _ d md I Ad cd (D.bx x).top Bd dd (M.bx x).top o 1 (j:Int) (by omega)) Xc1) ?_;rintro _ w6 ⟨rfl,E⟩;have f:=f.bw E;have x:=btr x E;have G:=btr G E;refine Ze (X0i rfl rfl)<|Zm rfl ?_
   refine Zg 34 rfl (fun e=>?_) (fun e=>?_)
   ·(iterate 4 refine Zp (gP e) ?_);refine Ze (X5 rfl e rfl) ?_;refine Zn fun a b=>?_
    have aB:Below w5.heap.size w5 w6:=G
    exact ⟨b.sub ⟨rfl,rfl,rfl,rfl,X1 rfl (by first|rfl|(simp only [m,h,e,bs];done)|simp [m,h,e]),trivial⟩,aB⟩
   refine Zv (gW e) (Vn X2 f) ?_;refine Zv (gW e) (X3 rfl) ?_;refine Zk (gW e) (Vc (Xl8 _ d md I Ad cd (D.bx x).top Bd dd (M.bx x).top o 2 (j:Int) (by omega)) Xc1) ?_;rintro _ w7 ⟨rfl,E⟩;have x:=btr x E;have G:=btr G E;refine Zv (gW e) (X0i rfl rfl) ?_;refine Ze (X9 rfl e rfl) ?_;refine Zn fun a b=>?_
   have aB:Below w5.heap.size w5 w7:=G
   exact ⟨b.sub ⟨rfl,rfl,rfl,rfl,X1 rfl (by first|rfl|(simp only [m,h,e,bs];done)|simp [m,h,e]),trivial⟩,aB⟩
  rintro a w8 ⟨b,E⟩;have f:=f.bw E;have x:=btr x E;refine aN _ _ ?_
  refine Xf b rfl (fun C=>?_) (fun C=>?_)
  ·have aC:=C
   have L:heD d=false:=by unfold heD;rw [X8a (q:=heQ d) (k:=j) (by omega) (by unfold heQ;rw [C];rfl),Bool.false_and]
   refine Zs b fun _ aO=>?_;refine Za rfl<|Zt aO fun a b=>?_;refine Q6<|Xx<|X8<|X8 ?_;refine Xx<|X8<|X6 b (Xs b rfl rfl) ?_;exact ⟨by rw [L],x⟩
  have aC:=C
  have aZ:heQ d j=true:=by unfold heQ;rw [C];rfl
  refine Q7<|Xb<|aL _ _<|Zr b ?_;refine Ze (Xr rfl rfl (by omega) (by omega))<|Zm rfl ?_;refine Zn fun a b=>?_;refine Xe ?_;exact ⟨j+1,⟨b.sb,(by omega),(fun i hi=>by by_cases h9:i=j;rw [h9];exact aZ;exact U i (by omega)),f,o,x⟩,(by omega)⟩
 have h:=z;have z:=Q1 z
 have b0:(List.range d.n.toNat).all (heQ d)=true:=X53 fun i hi=>U i (by have:=z;omega)
 have L:heD d=(c==2*d.n):=by unfold heD;rw [b0,Qw,aY]
 refine Q9<|Xl<|Xl<|X01 ?_;refine aH _ _<|Zs b fun _ aP=>?_;refine Zm rfl<|Ze (Vd rfl X1q 0)<|Ze (X0 rfl Xa (f.at 0))<|Ze (X80 rfl rfl (by omega) (by omega))<|Ze (X0f rfl rfl)<|Za rfl<|Zt aP fun a b=>?_
 refine Q6 (X6 b (Xs b rfl rfl) ?_)
 exact ⟨by rw [L],x⟩
theorem Xsf(w0:World)(x:Nd)(n:Int)(ba:Nat)(v1 v2 v3 v4:Value)(b:Blk w0 ba 31 [vi n,v1,v2,v3,v4])(hn:1<=n/\n<=1000) : Ret Tryz.prog 90 [.agg #[vi x.k,vi x.p],(pZ9 ba)] w0 (fun v w=>v=.bool (!nokI n x)/\Below w0.heap.size w0 w):=by
 have a6:=b.lt;refine enter Tryz.func90 rfl 9 rfl rfl ?_;intro a hf
 have hW:=bz w0
 refine Zs hf fun _ a7=>?_;refine Zf (X0q (zs:=[vi x.k,vi x.p]) rfl rfl) ?_;rintro _ w1 ⟨b2,rfl,a8,hE,aA⟩;have aC:=Q0 hW.size a8;have b:=b.bw hE;have hW:=btr hW hE;refine Za rfl<|Zx a7 fun a hf _ aB=>?_;refine Ze (Vd rfl X1q 0)<|Ze (X0 rfl Xa (b.at 0))<|Ze (Vn X25 aA)<|Zf (Vc (Xtz _ n x hn) Xie) ?_;rintro _ w2 ⟨rfl,hE⟩;have hW:=btr hW hE;refine Ze (X0z rfl)<|Za rfl<|Zt aB fun a hf=>?_
 refine Q6 (X6 hf (Xs hf rfl rfl) ?_)
 exact ⟨rfl,hW⟩
theorem Xrz(b:World)(Al:Option Addr)(cl:Nat)(l:List Nd)(a6:Rd b b.heap.size 76 encNd Al l)(kq:FuncId)(pq:List Value)(Fq:FuncF Tryz.prog kq)(q:Nd->Bool)(hq:∀ x w,Below b.heap.size b w->Ret Tryz.prog kq ([ndV x]++pq) w (fun v w'=>v=.bool (q x)/\Below w.heap.size w w'))(a7:l.length<=1000000000) : Ret Tryz.prog 89 [.slice Al l.length cl,.func (.func kq) #[] pq.toArray] b (fun v w=>v=.bool (l.any q)/\Below b.heap.size b w):=by
 refine enter Tryz.func89 rfl 9 rfl rfl ?_;intro a hf
 have hW:=bz b
 refine Zs hf fun _ a8=>?_;refine Za rfl<|Zx a8 fun a hf _ aA=>?_;refine Zm rfl<|Zm rfl<|Zf (Vc (Xsd _ Al cl l (a6.bx hW).top kq pq Fq q (fun x w' hE'=>hq x w' (hW.trans (hE'.mono hW.size))) a7) Xjp) ?_;rintro _ w1 ⟨rfl,hE⟩;have hW:=btr hW hE;refine Ze (X4q rfl rfl)<|Za rfl<|Zt aA fun a hf=>?_
 refine Q6 (X6 hf (Xs hf rfl rfl) ?_)
 exact ⟨by rw [Xbd],hW⟩
theorem Xfy(w0:World)(d:Dg)(md:Nat)(aZ:md=d.ns.length)(Ad:Option Addr)(cd:Nat)(aA:Rd w0 w0.heap.size 76 encNd Ad d.ns)(Bd:Option Addr)(dd:Nat)(aB:Rd w0 w0.heap.size 84 encWr Bd d.ws)(a6:d.ws.length<=dd)(aI:d.ws.length<=1000000000) : Ret Tryz.prog 38 [.agg #[vi d.n,.slice Ad md cd,.slice Bd d.ws.length dd,vi d.t,vi d.r]] w0 (fun v w=>v=.bool (ivD d)/\Below w0.heap.size w0 w):=by
 subst aZ
 refine enter Tryz.func38 rfl 116 rfl rfl ?_;intro a m
 have C:=bz w0
 refine Zs m fun _ bQ=>?_;refine Zf (X0q (zs:=[vi d.n,.slice Ad d.ns.length cd,.slice Bd d.ws.length dd,vi d.t,vi d.r]) rfl rfl) ?_;rintro _ w1 ⟨b4,rfl,bR,H,g⟩;have bY:=Q0 C.size bR;have C:=btr C H;refine Za rfl<|ZX bQ fun a m _ bS=>?_;refine Q5 fun _ bT=>?_;refine X06 (fun a w=>Fr a 116 [(1,(pZ9 b4)),(39,.bool (!(inR d.n 1 5)||decide (40<(d.ns.length:Int))||!(inR d.t 0 7)||!(inR d.r (-60) 60)||(d.ns.any fun x=>!nokI d.n x)||!(heD d)))]/\Below w1.heap.size w1 w) ?_ ?_
 ·have q:Below w1.heap.size w1 w1:=Below.refl _ _
  refine Zr m<|Ze (Vd rfl X1q 0)<|Ze (X0 rfl Xa (g.at 0))<|Zf (Vc (F91 _ d.n 1 5) X3w) ?_;rintro _ _ ⟨rfl,rfl⟩;refine Ze (X0z rfl)<|Zm rfl ?_
  refine Zg 11 rfl (fun I=>?_) (fun I=>?_)
  ·(iterate 4 refine Zp (gP I) ?_);refine Ze (X5 rfl I rfl)<|Zm rfl<|Zp (gP rfl) ?_;(iterate 3 refine Zp (gP rfl) ?_);refine Ze (X5 rfl rfl rfl)<|Zm rfl<|Zp (gP rfl) ?_;(iterate 3 refine Zp (gP rfl) ?_);refine Ze (X5 rfl rfl rfl)<|Zm rfl<|Zp (gP rfl) ?_;(iterate 3 refine Zp (gP rfl) ?_);refine Ze (X5 rfl rfl rfl)<|Zm rfl<|Zp (gP rfl) ?_;(iterate 2 refine Zp (gP rfl) ?_);refine Ze (X5 rfl rfl rfl) ?_;refine Zn fun a m=>?_
   have z:Below w1.heap.size w1 w1:=q
   exact ⟨m.sub ⟨rfl,X1 rfl (by first|rfl|(simp only [I,bs];done)|simp [I]),trivial⟩,z⟩
  have bU:1<=d.n/\d.n<=5:=X0t.1 (by have h8:=I;simpa using h8)
  refine Zv (gW I) (Vd rfl Xc 1) ?_;refine Zv (gW I) (X0 rfl Xv (g.at 1)) ?_;refine Zv (gW I) (X07 rfl Xm) ?_;refine Zv (gW I) (X2o rfl rfl) ?_;refine Ze (X9 rfl I rfl)<|Zm rfl ?_
  refine Zg 17 rfl (fun Q=>?_) (fun Q=>?_)
  ·(iterate 4 refine Zp (gP Q) ?_);refine Ze (X5 rfl Q rfl)<|Zm rfl<|Zp (gP rfl) ?_;(iterate 3 refine Zp (gP rfl) ?_);refine Ze (X5 rfl rfl rfl)<|Zm rfl<|Zp (gP rfl) ?_;(iterate 3 refine Zp (gP rfl) ?_);refine Ze (X5 rfl rfl rfl)<|Zm rfl<|Zp (gP rfl) ?_;(iterate 2 refine Zp (gP rfl) ?_);refine Ze (X5 rfl rfl rfl) ?_;refine Zn fun a m=>?_
   have z:Below w1.heap.size w1 w1:=q
   exact ⟨m.sub ⟨rfl,X1 rfl (by first|rfl|(simp only [I,Q,bs];done)|simp [I,Q]),trivial⟩,z⟩
  have b0:d.ns.length<=40:=by have h8:=Q;simp at h8;omega
  refine Zv (gW Q) (Vd rfl X0l 3) ?_;refine Zv (gW Q) (X0 rfl Xa (g.at 3)) ?_;refine Zk (gW Q) (Vc (F91 _ d.t 0 7) X3w) ?_;rintro _ _ ⟨rfl,rfl⟩;refine Zv (gW Q) (X0z rfl) ?_;refine Ze (X9 rfl Q rfl)<|Zm rfl ?_
  refine Zg 23 rfl (fun W=>?_) (fun W=>?_)
  ·(iterate 4 refine Zp (gP W) ?_);refine Ze (X5 rfl W rfl)<|Zm rfl<|Zp (gP rfl) ?_;(iterate 3 refine Zp (gP rfl) ?_);refine Ze (X5 rfl rfl rfl)<|Zm rfl<|Zp (gP rfl) ?_;(iterate 2 refine Zp (gP rfl) ?_);refine Ze (X5 rfl rfl rfl) ?_;refine Zn fun a m=>?_
   have z:Below w1.heap.size w1 w1:=q
   exact ⟨m.sub ⟨rfl,X1 rfl (by first|rfl|(simp only [I,Q,W,bs];done)|simp [I,Q,W]),trivial⟩,z⟩
  refine Zv (gW W) (Vd rfl Xy 4) ?_;refine Zv (gW W) (X0 rfl Xa (g.at 4)) ?_;refine Zk (gW W) (Vc (F91 _ d.r (-60) 60) X3w) ?_;rintro _ _ ⟨rfl,rfl⟩;refine Zv (gW W) (X0z rfl) ?_;refine Ze (X9 rfl W rfl)<|Zm rfl ?_
  refine Zg 29 rfl (fun G=>?_) (fun G=>?_)
  ·(iterate 4 refine Zp (gP G) ?_);refine Ze (X5 rfl G rfl)<|Zm rfl<|Zp (gP rfl) ?_;(iterate 2 refine Zp (gP rfl) ?_);refine Ze (X5 rfl rfl rfl) ?_;refine Zn fun a m=>?_
   have z:Below w1.heap.size w1 w1:=q
   exact ⟨m.sub ⟨rfl,X1 rfl (by first|rfl|(simp only [I,Q,W,G,bs];done)|simp [I,Q,W,G]),trivial⟩,z⟩
  refine Zv (gW G) (Vd rfl Xc 1) ?_;refine Zv (gW G) (X0 rfl Xv (g.at 1)) ?_;refine Zv (gW G) (X35 (vs:=[(pZ9 b4)]) rfl) ?_;refine Zk (gW G) (Vc (Xrz _ Ad cd d.ns (aA.bx C).top 90 [(pZ9 b4)] Xk7 (fun x=>!nokI d.n x) (fun x w' hE'=>Xsf w' x d.n _ _ _ _ _ (g.bw hE') ⟨by omega,by omega⟩) (by omega)) Xk2) ?_;rintro _ w2 ⟨rfl,H⟩;have g:=g.bw H;have C:=btr C H;have q:=btr q H;refine Ze (X9 rfl G rfl)<|Zm rfl ?_
  refine Zg 35 rfl (fun U=>?_) (fun U=>?_)
  ·(iterate 3 refine Zp (gP U) ?_);refine Ze (X5 rfl U rfl) ?_;refine Zn fun a m=>?_
   have z:Below w1.heap.size w1 w2:=q
   exact ⟨m.sub ⟨rfl,X1 rfl (by first|rfl|(simp only [I,Q,W,G,U,bs];done)|simp [I,Q,W,G,U]),trivial⟩,z⟩
  refine Zv (gW U) (Vn X2 g) ?_;refine Zk (gW U) (Vc (Xqz _ d d.ns.length rfl Ad cd (aA.bx C).top Bd dd (aB.bx C).top a6 (by omega) ⟨by omega,by omega⟩) Xiy) ?_;rintro _ w3 ⟨rfl,H⟩;have C:=btr C H;have q:=btr q H;refine Zv (gW U) (X0z rfl) ?_;refine Ze (X9 rfl U rfl) ?_;refine Zn fun a m=>?_
  have z:Below w1.heap.size w1 w3:=q
  exact ⟨m.sub ⟨rfl,X1 rfl (by first|rfl|(simp only [I,Q,W,G,U,bs];done)|simp [I,Q,W,G,U]),trivial⟩,z⟩
 rintro a w4 ⟨m,H⟩;have g:=g.bw H;have C:=btr C H;refine bT _ _ ?_
 refine Xf m rfl (fun aF=>?_) (fun aF=>?_)
 ·have c:=aF
  have aE:ivD d=false:=Xva aF
  refine Zs m fun _ b1=>?_;refine Za rfl<|Zt b1 fun a m=>?_;refine Q6<|X8<|X6 m (Xs m rfl rfl) ?_;exact ⟨by rw [aE],C⟩
 have c:=aF;have b2:=aF;have b3:=b2
 simp only [Bool.or_eq_false_iff,decide_eq_false_iff_not,Bool.not_eq_false'] at b3
 have bU:=X0t.1 b3.1.1.1.1.1
 have b0:d.ns.length<=40:=by omega
 refine Q7<|bS _ _<|Q5 fun _ b5=>?_;refine Zs m fun _ b6=>?_;refine Ze (Vd rfl Xi 2)<|Ze (X0 rfl X0b (g.at 2))<|Ze (X07 rfl Xq)<|Zm rfl<|Zt b6 fun a m=>?_;refine Q8<|X02 (σ:=Nat) (fun (k:Nat) (a:Act) (w:World)=>Fr a 116 [(1,(pZ9 b4)),(41,.slice Bd d.ws.length dd),(42,vi (d.ws.length:Int)),(43,vi (k:Int))]/\(k<=d.ws.length)/\(∀ i:Nat,i<k->wvQ d i=true)/\Blk w b4 31 [vi d.n,.slice Ad d.ns.length cd,.slice Bd d.ws.length dd,vi d.t,vi d.r]/\d.ws.length<=dd/\Below w0.heap.size w0 w) (fun (k:Nat)=>d.ws.length-k) 0 ?_ ?_
 ·exact ⟨m.sb,(Qf _),(fun i hi=>by omega),g,a6,C⟩
 rintro k a w5 ⟨m,hk,aK,g,a6,C⟩;refine Zs m fun _ b7=>?_;refine Ze (X0i rfl rfl)<|ZX b7 fun a m _ b8=>?_
 refine Xf m rfl (fun aC=>?_) (fun aC=>?_)
 ·have e:=aC;have aC:=Q2 aC
  obtain ⟨cB,bZ⟩:=X4 (l:=d.ws) (k:=k) (by omega)
  obtain ⟨u9,aO⟩:=X4 (l:=d.ws) (k:=k) (by have:=aC;omega)
  have bW:=(Qg.1 aO).1;have b9:=Xml aO;refine Q7<|b8 _ _<|Q5 fun _ bA=>?_;refine Q8<|Zs m fun _ bB=>?_;refine Zm rfl<|Zi (k:=k) (u:=u9) (enc:=encWr) (l:=d.ws) tv0 rfl rfl Xq X09 Xu (aB.bx C) aO rfl ?_;intro cC aP;refine Ze (X00 (l:=[vi u9.a,vi u9.b,.bool u9.h]) rfl X15 aP rfl)<|Zf (Xw (zs:=[vi 0,vi 0,.bool false]) X2k rfl) ?_;rintro _ w6 ⟨cD,rfl,aL,H,a7⟩;have aQ:=Q0 C.size aL;have bC:=(aB.bx C).away aL;have g:=g.bw H;have C:=btr C H;refine Za rfl<|Zo (Vw [vi u9.a,vi u9.b,.bool u9.h] X09 a7) ?_;rintro _ w7 ⟨ho,hb⟩;have aJ:=a7;have g:=g.oz ho aJ rfl;have C:=Below.oy C ho aQ;have a7:=hb;refine ZX bB fun a m _ bD=>?_;refine X06 (fun a w=>Fr a 116 [(1,(pZ9 b4)),(41,.slice Bd d.ws.length dd),(42,vi (d.ws.length:Int)),(43,vi (k:Int)),(80,.bool (decide (u9.a<0)||decide (u9.b<=u9.a)||decide ((d.ns.length:Int)<=u9.b)||(decide (0<(k:Int))&&decide (0<=cmW (d.ws.getD (k-1) wZ) u9))))]/\Below w7.heap.size w7 w) ?_ ?_
  ·have q:Below w7.heap.size w7 w7:=Below.refl _ _
   refine Xz none (fun _=>false) mixed ?_;intro w8 H;have g:=g.bw H;have a7:=a7.bw H;have C:=btr C H;have q:=btr q H;refine Yb m<|Yo 0 rfl (fun _=>Vd rfl X0m 0)<|Ye 1 rfl (X0 rfl Xa (a7.at 0))<|Yo 2 rfl (fun _=>X0i rfl rfl)<|Yo 3 rfl (fun _=>X3 rfl) ?_
   refine Yl 51 rfl (fun A=>?_) (fun A=>?_)
   ·refine Yp 4 rfl (gP A) ?_;refine Yp 5 rfl (gP A) ?_;refine Yp 6 rfl (gP A) ?_;refine Yp 7 rfl (gP A) ?_;refine Yp 8 rfl (gP A) ?_;refine Yo 9 rfl (fun _=>X5 rfl A rfl)<|Yo 10 rfl (fun _=>X3 rfl)<|Yp 11 rfl (gP rfl) ?_;refine Yp 12 rfl (gP rfl) ?_;refine Yp 13 rfl (gP rfl) ?_;refine Yp 14 rfl (gP rfl) ?_;refine Yp 15 rfl (gP rfl) ?_;refine Yp 16 rfl (gP rfl) ?_;refine Yo 17 rfl (fun _=>X5 rfl rfl rfl)<|Yo 18 rfl (fun _=>X3 rfl)<|Yp 19 rfl (gP rfl) ?_;refine Yp 20 rfl (gP rfl) ?_;refine Yp 21 rfl (gP rfl) ?_;refine Yp 22 rfl (gP tv0) ?_;refine Yp 23 rfl (gP tv0) ?_;refine Yp 24 rfl (gP tv0) ?_;refine Yp 25 rfl (gP tv0) ?_;refine Yp 26 rfl (gP tv0) ?_;refine Yp 27 rfl (gP tv0) ?_;refine Yp 28 rfl (gP tv0) ?_;refine Y1 29<|Yq rfl ⟨_,_,rfl,rfl,trivial⟩ ?_;refine Yp 30 rfl (gP tv0) ?_;refine Yp 31 rfl (gP rfl) ?_;refine Yo 32 rfl (fun _=>X5 rfl rfl rfl) ?_;refine Yd fun a m=>?_
    have z:Below w7.heap.size w7 w8:=q
    exact ⟨m.sub ⟨rfl,rfl,rfl,rfl,X1 rfl (by first|rfl|(simp only [c,e,A,bs];done)|simp [c,e,A]),trivial⟩,z⟩
   refine Yu 4 rfl (gW A) (fun _=>Vd rfl X0m 0) ?_;refine Yv 5 rfl (gW A) (X0 rfl Xa (a7.at 0)) ?_;refine Yu 6 rfl (gW A) (fun _=>Vd rfl X0o 1) ?_;refine Yv 7 rfl (gW A) (X0 rfl Xa (a7.at 1)) ?_;refine Yu 8 rfl (gW A) (fun _=>X4q rfl rfl) ?_;refine Yo 9 rfl (fun _=>X9 rfl A rfl)<|Yo 10 rfl (fun _=>X3 rfl) ?_
   refine Yl 58 rfl (fun B=>?_) (fun B=>?_)
   ·refine Yp 11 rfl (gP B) ?_;refine Yp 12 rfl (gP B) ?_;refine Yp 13 rfl (gP B) ?_;refine Yp 14 rfl (gP B) ?_;refine Yp 15 rfl (gP B) ?_;refine Yp 16 rfl (gP B) ?_;refine Yo 17 rfl (fun _=>X5 rfl B rfl)<|Yo 18 rfl (fun _=>X3 rfl)<|Yp 19 rfl (gP rfl) ?_;refine Yp 20 rfl (gP rfl) ?_;refine Yp 21 rfl (gP rfl) ?_;refine Yp 22 rfl (gP tv0) ?_;refine Yp 23 rfl (gP tv0) ?_;refine Yp 24 rfl (gP tv0) ?_;refine Yp 25 rfl (gP tv0) ?_;refine Yp 26 rfl (gP tv0) ?_;refine Yp 27 rfl (gP tv0) ?_;refine Yp 28 rfl (gP tv0) ?_;refine Y1 29<|Yq rfl ⟨_,_,rfl,rfl,trivial⟩ ?_;refine Yp 30 rfl (gP tv0) ?_;refine Yp 31 rfl (gP rfl) ?_;refine Yo 32 rfl (fun _=>X5 rfl rfl rfl) ?_;refine Yd fun a m=>?_
    have z:Below w7.heap.size w7 w8:=q
    exact ⟨m.sub ⟨rfl,rfl,rfl,rfl,X1 rfl (by first|rfl|(simp only [c,e,A,B,bs];done)|simp [c,e,A,B]),trivial⟩,z⟩
   refine Yu 11 rfl (gW B) (fun _=>Vd rfl X0o 1) ?_;refine Yv 12 rfl (gW B) (X0 rfl Xa (a7.at 1)) ?_;refine Yu 13 rfl (gW B) (fun _=>Vd rfl Xc 1) ?_;refine Yv 14 rfl (gW B) (X0 rfl Xv (g.at 1)) ?_;refine Yu 15 rfl (gW B) (fun _=>X07 rfl Xm) ?_;refine Yu 16 rfl (gW B) (fun _=>X4q rfl rfl) ?_;refine Yo 17 rfl (fun _=>X9 rfl B rfl)<|Yo 18 rfl (fun _=>X3 rfl) ?_
   refine Yl 66 rfl (fun E=>?_) (fun E=>?_)
   ·refine Yp 19 rfl (gP E) ?_;refine Yp 20 rfl (gP E) ?_;refine Yp 21 rfl (gP E) ?_;refine Yp 22 rfl (gP tv0) ?_;refine Yp 23 rfl (gP tv0) ?_;refine Yp 24 rfl (gP tv0) ?_;refine Yp 25 rfl (gP tv0) ?_;refine Yp 26 rfl (gP tv0) ?_;refine Yp 27 rfl (gP tv0) ?_;refine Yp 28 rfl (gP tv0) ?_;refine Y1 29<|Yq rfl ⟨_,_,rfl,rfl,trivial⟩ ?_;refine Yp 30 rfl (gP tv0) ?_;refine Yp 31 rfl (gP E) ?_;refine Yo 32 rfl (fun _=>X5 rfl E rfl) ?_;refine Yd fun a m=>?_
    have z:Below w7.heap.size w7 w8:=q
    exact ⟨m.sub ⟨rfl,rfl,rfl,rfl,X1 rfl (by first|rfl|(simp only [c,e,A,B,E,bs];done)|simp [c,e,A,B,E]),trivial⟩,z⟩
   refine Yu 19 rfl (gW E) (fun _=>X3 rfl) ?_;refine Yu 20 rfl (gW E) (fun _=>X2o rfl rfl) ?_;refine Yu 21 rfl (gW E) (fun _=>X3 rfl) ?_
   refine Yl 69 rfl (fun o=>?_) (fun o=>?_)
   ·have cE:0<k:=by have h8:=o;simpa using h8
    refine Yu 22 rfl (gW o) (fun _=>Vd rfl Xi 2) ?_;refine Yv 23 rfl (gW o) (X0 rfl X0b (g.at 2)) ?_;refine Yu 24 rfl (gW o) (fun _=>X3 rfl) ?_;refine Yu 25 rfl (gW o) (fun _=>X1d rfl rfl (by omega) (by omega)) ?_;refine Yi (k:=(k-1)) (u:=(d.ws.getD (k-1) wZ)) (enc:=encWr) (l:=d.ws) 26 rfl ⟨_,_,rfl,rfl,o⟩ rfl rfl Xq X09 Xu (aB.bx C) (Xg (by omega)) (by omega) ?_;intro cF aR;refine Yv 27 rfl (gW o) (X00 (l:=[vi ((d.ws.getD (k-1) wZ).a),vi ((d.ws.getD (k-1) wZ).b),.bool ((d.ws.getD (k-1) wZ).h)]) rfl X15 aR rfl) ?_;refine Yv 28 rfl (gW o) (Vn X15 a7) ?_;refine Y1 29<|Yk rfl ⟨_,_,rfl,rfl,o⟩ (Vc (Xs8 _ (d.ws.getD (k-1) wZ) u9) Xin) (fun _ _ ⟨_,H⟩=>H) ?_;rintro _ w9 ⟨rfl,H⟩;have C:=btr C H;have q:=btr q H;refine Yu 30 rfl (gW o) (fun _=>X4q rfl rfl) ?_;refine Yu 31 rfl (gW E) (fun _=>X5 rfl o rfl) ?_;refine Yo 32 rfl (fun _=>X9 rfl E rfl) ?_;refine Yd fun a m=>?_
    have z:Below w7.heap.size w7 w9:=q
    exact ⟨m.sub ⟨rfl,rfl,rfl,rfl,X1 rfl (by first|rfl|(simp only [c,e,A,B,E,o,bs];done)|simp [c,e,A,B,E,o]),trivial⟩,z⟩
   refine Yp 22 rfl (gP o) ?_;refine Yp 23 rfl (gP o) ?_;refine Yp 24 rfl (gP o) ?_;refine Yp 25 rfl (gP o) ?_;refine Yp 26 rfl (gP o) ?_;refine Yp 27 rfl (gP o) ?_;refine Yp 28 rfl (gP o) ?_;refine Y1 29<|Yq rfl ⟨_,_,rfl,rfl,o⟩ ?_;refine Yp 30 rfl (gP o) ?_;refine Yu 31 rfl (gW E) (fun _=>X9 rfl o rfl) ?_;refine Yo 32 rfl (fun _=>X9 rfl E rfl) ?_;refine Yd fun a m=>?_
   have z:Below w7.heap.size w7 w8:=q
   exact ⟨m.sub ⟨rfl,rfl,rfl,rfl,X1 rfl (by first|rfl|(simp only [c,e,A,B,E,o,bs];done)|simp [c,e,A,B,E,o]),trivial⟩,z⟩
  rintro a cG ⟨m,H⟩;have g:=g.bw H;have C:=btr C H;refine bD _ _ ?_
  refine Xf m rfl (fun aG=>?_) (fun aG=>?_)
  ·have aS:=aG
   have aE:ivD d=false:=Xv2 bW (by rw [b9,aG];rfl)
   refine Zs m fun _ bE=>?_;refine Za rfl<|Zt bE fun a m=>?_;refine Q6<|Xx<|X8<|X8 ?_;refine Xx<|X8<|X6 m (Xs m rfl rfl) ?_;exact ⟨by rw [aE],C⟩
  have aS:=aG
  have aT:wvQ d k=true:=by rw [b9,aG];rfl
  refine Q7<|Xb<|bA _ _<|Zr m ?_;refine Ze (Xr rfl rfl (by omega) (by omega))<|Zm rfl ?_;refine Zn fun a m=>?_;refine Xe ?_;exact ⟨k+1,⟨m.sb,(by omega),(fun i hi=>by by_cases h9:i=k;rw [h9];exact aT;exact aK i (by omega)),g,a6,C⟩,(by omega)⟩
 have e:=aC;have aC:=Q1 aC
 have aU:∀ i,i<d.ws.length->wvQ d i=true:=fun i hi=>aK i (by have:=aC;omega)
 refine Q9<|Xl<|Xl<|X01 ?_;refine b5 _ _<|Q5 fun _ bF=>?_;refine Zs m fun _ bG=>?_;refine Ze (Vd rfl Xc 1)<|Ze (X0 rfl Xv (g.at 1))<|Ze (X07 rfl Xm)<|Zm rfl<|Zt bG fun a m=>?_;refine Q8<|X02 (σ:=Nat) (fun (j:Nat) (a:Act) (w:World)=>Fr a 116 [(1,(pZ9 b4)),(83,.slice Ad d.ns.length cd),(84,vi (d.ns.length:Int)),(85,vi (j:Int))]/\(j<=d.ns.length)/\(∀ i:Nat,i<j->nvQ d i=true)/\Blk w b4 31 [vi d.n,.slice Ad d.ns.length cd,.slice Bd d.ws.length dd,vi d.t,vi d.r]/\d.ws.length<=dd/\Below w0.heap.size w0 w) (fun (j:Nat)=>d.ns.length-j) 0 ?_ ?_
 ·exact ⟨m.sb,(Qf _),(fun i hi=>by omega),g,a6,C⟩
 rintro j a cH ⟨m,hj,aM,g,a6,C⟩;refine Zs m fun _ bH=>?_;refine Ze (X0i rfl rfl)<|ZX bH fun a m _ bI=>?_
 refine Xf m rfl (fun aD=>?_) (fun aD=>?_)
 ·have D:=aD;have aD:=Q2 aD
  obtain ⟨cI,cA⟩:=X4 (l:=d.ns) (k:=j) (by omega)
  obtain ⟨v9,aV⟩:=X4 (l:=d.ns) (k:=j) (by have:=aD;omega)
  have bX:=(Qg.1 aV).1;have bJ:=Xtw aV;refine Q7<|bI _ _<|Q5 fun _ bK=>?_;refine Q8<|Zs m fun _ bL=>?_;refine Zm rfl<|Zi (k:=j) (u:=v9) (enc:=encNd) (l:=d.ns) tv0 rfl rfl Xm X05 Xt (aA.bx C) aV rfl ?_;intro cJ aW;refine Ze (X00 (l:=[vi v9.k,vi v9.p]) rfl X25 aW rfl)<|Zf (Xw (zs:=[vi 0,vi 0]) X6s rfl) ?_;rintro _ cK ⟨cL,rfl,aN,H,a8⟩;have aX:=Q0 C.size aN;have bM:=(aA.bx C).away aN;have g:=g.bw H;have C:=btr C H;refine Za rfl<|Zo (Vw [vi v9.k,vi v9.p] X05 a8) ?_;rintro _ w13 ⟨ho,hb⟩;have aJ:=a8;have g:=g.oz ho aJ rfl;have C:=Below.oy C ho aX;have a8:=hb;refine ZX bL fun a m _ bN=>?_;refine X06 (fun a w=>Fr a 116 [(1,(pZ9 b4)),(83,.slice Ad d.ns.length cd),(84,vi (d.ns.length:Int)),(85,vi (j:Int)),(114,.bool ((v9.k==0&&cnW d.ws (j:Int) != 0)||((v9.k==1||v9.k==2)&&cnW d.ws (j:Int) != 1)))]/\Below w13.heap.size w13 w) ?_ ?_
  ·have q:Below w13.heap.size w13 w13:=Below.refl _ _
   refine Zr m<|Ze (Vd rfl X13 0)<|Ze (X0 rfl Xa (a8.at 0))<|Ze (X0f rfl rfl)<|Zm rfl ?_
   refine Zg 93 rfl (fun y=>?_) (fun y=>?_)
   ·refine Zv (gW y) (Vn X2 g) ?_;refine Zv (gW y) (X3 rfl) ?_;refine Zk (gW y) (Vc (X6v _ d d.ns.length rfl Ad cd (aA.bx C).top Bd dd (aB.bx C).top a6 (j:Int) aI) X37) ?_;rintro _ w14 ⟨rfl,H⟩;have g:=g.bw H;have a8:=a8.bw H;have C:=btr C H;have q:=btr q H;refine Zv (gW y) (X1c rfl rfl) ?_;refine Ze (X5 rfl y rfl)<|Zm rfl ?_
    refine Zg 99 rfl (fun f=>?_) (fun f=>?_)
    ·(iterate 4 refine Zp (gP f) ?_);(iterate 3 refine Zp (gP tv0) ?_);(iterate 2 refine Zp (gP f) ?_);(iterate 4 refine Zp (gP tv0) ?_);refine Zp (gP f) ?_;refine Ze (X5 rfl f rfl) ?_;refine Zn fun a m=>?_
     have z:Below w13.heap.size w13 w14:=q
     exact ⟨m.sub ⟨rfl,rfl,rfl,rfl,X1 rfl (by first|rfl|(simp only [c,e,D,y,f,bs];done)|simp [c,e,D,y,f]),trivial⟩,z⟩
    refine Zv (gW f) (Vd rfl X13 0) ?_;refine Zv (gW f) (X0 rfl Xa (a8.at 0)) ?_;refine Zv (gW f) (X0f rfl rfl) ?_;refine Zv (gW f) (X3 rfl) ?_
    refine Zg 103 rfl (fun J=>?_) (fun J=>?_)
    ·(iterate 3 refine Zp (gP J) ?_);refine Zv (gW f) (X5 rfl J rfl) ?_;refine Zv (gW f) (X3 rfl) ?_;refine Zv (gW rfl) (Vn X2 g) ?_;refine Zv (gW rfl) (X3 rfl) ?_;refine Zk (gW rfl) (Vc (X6v _ d d.ns.length rfl Ad cd (aA.bx C).top Bd dd (aB.bx C).top a6 (j:Int) aI) X37) ?_;rintro _ w15 ⟨rfl,H⟩;have C:=btr C H;have q:=btr q H;refine Zv (gW rfl) (X1c rfl rfl) ?_;refine Zv (gW f) (X5 rfl rfl rfl) ?_;refine Ze (X9 rfl f rfl) ?_;refine Zn fun a m=>?_
     have z:Below w13.heap.size w13 w15:=q
     exact ⟨m.sub ⟨rfl,rfl,rfl,rfl,X1 rfl (by first|rfl|(simp only [c,e,D,y,f,J,bs];done)|simp [c,e,D,y,f,J]),trivial⟩,z⟩
    refine Zv (gW J) (Vd rfl X13 0) ?_;refine Zv (gW J) (X0 rfl Xa (a8.at 0)) ?_;refine Zv (gW J) (X0f rfl rfl) ?_;refine Zv (gW f) (X9 rfl J rfl) ?_;refine Zv (gW f) (X3 rfl) ?_
    refine Zg 108 rfl (fun L=>?_) (fun L=>?_)
    ·refine Zv (gW L) (Vn X2 g) ?_;refine Zv (gW L) (X3 rfl) ?_;refine Zk (gW L) (Vc (X6v _ d d.ns.length rfl Ad cd (aA.bx C).top Bd dd (aB.bx C).top a6 (j:Int) aI) X37) ?_;rintro _ w16 ⟨rfl,H⟩;have C:=btr C H;have q:=btr q H;refine Zv (gW L) (X1c rfl rfl) ?_;refine Zv (gW f) (X5 rfl L rfl) ?_;refine Ze (X9 rfl f rfl) ?_;refine Zn fun a m=>?_
     have z:Below w13.heap.size w13 w16:=q
     exact ⟨m.sub ⟨rfl,rfl,rfl,rfl,X1 rfl (by first|rfl|(simp only [c,e,D,y,f,J,L,bs];done)|simp [c,e,D,y,f,J,L]),trivial⟩,z⟩
    (iterate 4 refine Zp (gP L) ?_);refine Zv (gW f) (X9 rfl L rfl) ?_;refine Ze (X9 rfl f rfl) ?_;refine Zn fun a m=>?_
    have z:Below w13.heap.size w13 w14:=q
    exact ⟨m.sub ⟨rfl,rfl,rfl,rfl,X1 rfl (by first|rfl|(simp only [c,e,D,y,f,J,L,bs];done)|simp [c,e,D,y,f,J,L]),trivial⟩,z⟩
   (iterate 4 refine Zp (gP y) ?_);refine Ze (X9 rfl y rfl)<|Zm rfl<|Zv (gW rfl) (Vd rfl X13 0) ?_;refine Zv (gW rfl) (X0 rfl Xa (a8.at 0)) ?_;refine Zv (gW rfl) (X0f rfl rfl) ?_;refine Zv (gW rfl) (X3 rfl) ?_
   refine Zg 103 rfl (fun M=>?_) (fun M=>?_)
   ·(iterate 3 refine Zp (gP M) ?_);refine Zv (gW rfl) (X5 rfl M rfl) ?_;refine Zv (gW rfl) (X3 rfl) ?_;refine Zv (gW rfl) (Vn X2 g) ?_;refine Zv (gW rfl) (X3 rfl) ?_;refine Zk (gW rfl) (Vc (X6v _ d d.ns.length rfl Ad cd (aA.bx C).top Bd dd (aB.bx C).top a6 (j:Int) aI) X37) ?_;rintro _ w17 ⟨rfl,H⟩;have C:=btr C H;have q:=btr q H;refine Zv (gW rfl) (X1c rfl rfl) ?_;refine Zv (gW rfl) (X5 rfl rfl rfl) ?_;refine Ze (X9 rfl rfl rfl) ?_;refine Zn fun a m=>?_
    have z:Below w13.heap.size w13 w17:=q
    exact ⟨m.sub ⟨rfl,rfl,rfl,rfl,X1 rfl (by first|rfl|(simp only [c,e,D,y,M,bs];done)|simp [c,e,D,y,M]),trivial⟩,z⟩
   refine Zv (gW M) (Vd rfl X13 0) ?_;refine Zv (gW M) (X0 rfl Xa (a8.at 0)) ?_;refine Zv (gW M) (X0f rfl rfl) ?_;refine Zv (gW rfl) (X9 rfl M rfl) ?_;refine Zv (gW rfl) (X3 rfl) ?_
   refine Zg 108 rfl (fun N=>?_) (fun N=>?_)
   ·refine Zv (gW N) (Vn X2 g) ?_;refine Zv (gW N) (X3 rfl) ?_;refine Zk (gW N) (Vc (X6v _ d d.ns.length rfl Ad cd (aA.bx C).top Bd dd (aB.bx C).top a6 (j:Int) aI) X37) ?_;rintro _ w18 ⟨rfl,H⟩;have C:=btr C H;have q:=btr q H;refine Zv (gW N) (X1c rfl rfl) ?_;refine Zv (gW rfl) (X5 rfl N rfl) ?_;refine Ze (X9 rfl rfl rfl) ?_;refine Zn fun a m=>?_
    have z:Below w13.heap.size w13 w18:=q
    exact ⟨m.sub ⟨rfl,rfl,rfl,rfl,X1 rfl (by first|rfl|(simp only [c,e,D,y,M,N,bs];done)|simp [c,e,D,y,M,N]),trivial⟩,z⟩
   (iterate 4 refine Zp (gP N) ?_);refine Zv (gW rfl) (X9 rfl N rfl) ?_;refine Ze (X9 rfl rfl rfl) ?_;refine Zn fun a m=>?_
   have z:Below w13.heap.size w13 w13:=q
   exact ⟨m.sub ⟨rfl,rfl,rfl,rfl,X1 rfl (by first|rfl|(simp only [c,e,D,y,M,N,bs];done)|simp [c,e,D,y,M,N]),trivial⟩,z⟩
  rintro a cM ⟨m,H⟩;have g:=g.bw H;have C:=btr C H;refine bN _ _ ?_
  refine Xf m rfl (fun aH=>?_) (fun aH=>?_)
  ·have aY:=aH
   have aE:ivD d=false:=Xup bX (by rw [bJ,aH];rfl)
   refine Zs m fun _ bO=>?_;refine Za rfl<|Zt bO fun a m=>?_;refine Q6<|Xx<|X8<|X8 ?_;refine Xx<|X8<|X6 m (Xs m rfl rfl) ?_;exact ⟨by rw [aE],C⟩
  have aY:=aH
  have aT:nvQ d j=true:=by rw [bJ,aH];rfl
  refine Q7<|Xb<|bK _ _<|Zr m ?_;refine Ze (Xr rfl rfl (by omega) (by omega))<|Zm rfl ?_;refine Zn fun a m=>?_;refine Xe ?_;exact ⟨j+1,⟨m.sb,(by omega),(fun i hi=>by by_cases h9:i=j;rw [h9];exact aT;exact aM i (by omega)),g,a6,C⟩,(by omega)⟩
 have D:=aD;have aD:=Q1 aD
 have aE:ivD d=true:=Xuh b2 aU fun i hi=>aM i (by have:=aD;omega)
 refine Q9<|Xl<|Xl<|X01 ?_;refine bF _ _<|Zs m fun _ bP=>?_;refine Za rfl<|Zt bP fun a m=>?_
 refine Q6 (X6 m (Xs m rfl rfl) ?_)
 exact ⟨by rw [aE],C⟩
theorem Xhk(N:World)(d:Dg)(md:Nat)(aQ:md=d.ns.length)(Ad:Option Addr)(cd:Nat)(L:Rd N N.heap.size 76 encNd Ad d.ns)(Bd:Option Addr)(dd:Nat)(I:Rd N N.heap.size 84 encWr Bd d.ws)(Q:d.ws.length<=dd)(b8:d.ns.length<=1000000000/\d.ws.length<=1000000000) : Ret Tryz.prog 55 [.agg #[vi d.n,.slice Ad md cd,.slice Bd d.ws.length dd,vi d.t,vi d.r]] N (fun v w=>∃ A c B e,v=.agg #[vi d.n,.slice A d.ns.length c,.slice B d.ws.length e,vi d.t,vi d.r]/\Own w N.heap.size 76 2 encNd A c d.ns/\Own w N.heap.size 84 3 encWr B e d.ws/\Below N.heap.size N w):=by
 subst aQ
 refine enter Tryz.func55 rfl 14 rfl rfl ?_;intro a U
 have i:=bz N
 refine Zs U fun _ b2=>?_;refine Zf (X0q (zs:=[vi d.n,.slice Ad d.ns.length cd,.slice Bd d.ws.length dd,vi d.t,vi d.r]) rfl rfl) ?_;rintro _ w1 ⟨b4,rfl,b3,g,b⟩;have J:=Q0 i.size b3;have i:=btr i g;refine Zf (Xw (zs:=[vi 0,.slice none 0 0,.slice none 0 0,vi 0,vi 0]) X0e rfl) ?_;rintro _ w2 ⟨b7,rfl,b5,g,f⟩
 have b0:b4≠b7:=by have:=b.lt;omega
 have aR:=Q0 i.size b5;have b:=b.bw g;have i:=btr i g;refine ZX b2 fun a U _ b6=>?_;refine X06 (fun a w=>∃ D E G H,Fr a 14 [(1,(pZ9 b4)),(2,(pZ9 b7))]/\Own w N.heap.size 76 2 encNd D E d.ns/\Own w N.heap.size 84 3 encWr G H d.ws/\Blk w b4 31 [vi d.n,.slice D d.ns.length E,.slice G d.ws.length H,vi d.t,vi d.r]/\Blk w b7 31 [vi 0,.slice none 0 0,.slice none 0 0,vi 0,vi 0]/\d.ws.length<=dd/\Below N.heap.size N w) ?_ ?_
 ·refine Xz none (fun j=>[9,11].contains j) mixed ?_;intro w3 g;have b:=b.bw g;have f:=f.bw g;have i:=btr i g;refine Yb U<|Yo 1 rfl (fun _=>Vd rfl Xc 1)<|Ye 2 rfl (X0 rfl Xv (b.at 1))<|Yo 5 rfl (fun _=>Vd rfl Xi 2)<|Ye 6 rfl (X0 rfl X0b (b.at 2)) ?_;refine Y2 0 4 ?_ ?_
  ·refine Yk rfl tv0 (Xj (k:=0) (vs:=[]) (zs:=[]) rfl Xm X1j rfl rfl) (fun _ _ ⟨_,_,_,h,_⟩=>h) ?_;rintro _ w4 ⟨b9,rfl,aS,g,aC⟩;have aH:=Q0 i.size aS;have b1:=(L.bx i).away aS;have b:=b.bw g;have f:=f.bw g;have i:=btr i g;refine Y2 3 4 ?_ ?_
   ·refine Yk rfl tv0 (X2s (enc:=encNd) (l2:=(d.ns)) rfl rfl Xm X1j Xt X2b aC (L.bx i) (by simp only [maxLen];omega) (by omega)) (fun _ _ ⟨D,E,_,o,g,q⟩=>g) ?_;rintro _ w5 ⟨D,E,rfl,o,g,q⟩;clear q;have o:=o.lower aH;have b:=b.bw g;have f:=f.bw g;have i:=btr i g;refine Yo 8 rfl (fun _=>Vd rfl Xc 1)<|Y1 4 ?_;refine Yk rfl tv0 (Xj (k:=0) (vs:=[]) (zs:=[]) rfl Xq X0x rfl rfl) (fun _ _ ⟨_,_,_,h,_⟩=>h) ?_;rintro _ w6 ⟨bA,rfl,aI,g,aT⟩;have aM:=Q0 i.size aI;have aU:=(I.bx i).away aI;have b:=b.bw g;have f:=f.bw g;have o:=o.bw g;have i:=btr i g;refine Y1 7<|Yk rfl tv0 (X2s (enc:=encWr) (l2:=(d.ws)) rfl rfl Xq X0x Xu X1e aT (I.bx i) (by simp only [maxLen];omega) (by omega)) (fun _ _ ⟨G,H,_,p,g,q⟩=>g) ?_;rintro _ w7 ⟨G,H,rfl,p,g,q⟩;clear q;have p:=p.lower aM;have b:=b.bw g;have f:=f.bw g;have o:=o.bw g;have i:=btr i g;refine Y1 9<|Yh rfl tv0 rfl (Vu (vs:=[.slice D d.ns.length E]) (l':=[vi d.n,.slice D d.ns.length E,.slice Bd d.ws.length dd,vi d.t,vi d.r]) rfl rfl X3d b) ?_;rintro _ w8 ⟨u,W⟩;have m:=b;have f:=f.oy u (by omega);have o:=o.oT u m rfl;have p:=p.oT u m rfl;have i:=Below.oy i u J;have b:=W;refine Yo 10 rfl (fun _=>Vd rfl Xi 2)<|Y1 11 ?_;refine Yh rfl tv0 rfl (Vu (vs:=[.slice G d.ws.length H]) (l':=[vi d.n,.slice D d.ns.length E,.slice G d.ws.length H,vi d.t,vi d.r]) rfl rfl X19 b) ?_;rintro _ w9 ⟨u,W⟩;have m:=b;have f:=f.oy u (by omega)
    have o:=o.oT u m rfl;have p:=p.oT u m rfl;have i:=Below.oy i u J;have b:=W;refine Yd fun a U=>?_;exact ⟨D,E,G,H,U.sb,o,p,b,f,Q,i⟩
   refine Yk rfl tv0 (Xj (k:=0) (vs:=[]) (zs:=[]) rfl Xq X0x rfl rfl) (fun _ _ ⟨_,_,_,h,_⟩=>h) ?_;rintro _ bB ⟨bC,rfl,aJ,g,a6⟩;have aN:=Q0 i.size aJ;have aV:=(I.bx i).away aJ;have b:=b.bw g;have f:=f.bw g;have aC:=aC.bw g;have i:=btr i g;refine Y1 3<|Yk rfl tv0 (X2s (enc:=encNd) (l2:=(d.ns)) rfl rfl Xm X1j Xt X2b aC (L.bx i) (by simp only [maxLen];omega) (by omega)) (fun _ _ ⟨a7,a8,_,x,g,q⟩=>g) ?_;rintro _ bD ⟨a7,a8,rfl,x,g,q⟩;clear q;have x:=x.lower aH;have b:=b.bw g;have f:=f.bw g;have a6:=a6.bw g;have i:=btr i g;refine Yo 8 rfl (fun _=>Vd rfl Xc 1)<|Y1 7 ?_;refine Yk rfl tv0 (X2s (enc:=encWr) (l2:=(d.ws)) rfl rfl Xq X0x Xu X1e a6 (I.bx i) (by simp only [maxLen];omega) (by omega)) (fun _ _ ⟨aD,aE,_,z,g,q⟩=>g) ?_;rintro _ bE ⟨aD,aE,rfl,z,g,q⟩;clear q;have z:=z.lower aN;have b:=b.bw g;have f:=f.bw g;have x:=x.bw g;have i:=btr i g;refine Y1 9<|Yh rfl tv0 rfl (Vu (vs:=[.slice a7 d.ns.length a8]) (l':=[vi d.n,.slice a7 d.ns.length a8,.slice Bd d.ws.length dd,vi d.t,vi d.r]) rfl rfl X3d b) ?_;rintro _ bF ⟨u,W⟩;have m:=b;have f:=f.oy u (by omega);have x:=x.oT u m rfl;have z:=z.oT u m rfl;have i:=Below.oy i u J;have b:=W;refine Yo 10 rfl (fun _=>Vd rfl Xi 2)<|Y1 11 ?_;refine Yh rfl tv0 rfl (Vu (vs:=[.slice aD d.ws.length aE]) (l':=[vi d.n,.slice a7 d.ns.length a8,.slice aD d.ws.length aE,vi d.t,vi d.r]) rfl rfl X19 b) ?_;rintro _ bG ⟨u,W⟩;have m:=b
   have f:=f.oy u (by omega);have x:=x.oT u m rfl;have z:=z.oT u m rfl;have i:=Below.oy i u J;have b:=W;refine Yd fun a U=>?_;exact ⟨a7,a8,aD,aE,U.sb,x,z,b,f,Q,i⟩
  refine Yk rfl tv0 (Xj (k:=0) (vs:=[]) (zs:=[]) rfl Xq X0x rfl rfl) (fun _ _ ⟨_,_,_,h,_⟩=>h) ?_;rintro _ bH ⟨bI,rfl,aK,g,M⟩;have aO:=Q0 i.size aK;have aW:=(I.bx i).away aK;have b:=b.bw g;have f:=f.bw g;have i:=btr i g;refine Y1 0<|Yk rfl tv0 (Xj (k:=0) (vs:=[]) (zs:=[]) rfl Xm X1j rfl rfl) (fun _ _ ⟨_,_,_,h,_⟩=>h) ?_;rintro _ bJ ⟨bK,rfl,aL,g,aX⟩;have aP:=Q0 i.size aL;have aY:=(L.bx i).away aL;have b:=b.bw g;have f:=f.bw g;have M:=M.bw g;have i:=btr i g;refine Y1 3<|Yk rfl tv0 (X2s (enc:=encNd) (l2:=(d.ns)) rfl rfl Xm X1j Xt X2b aX (L.bx i) (by simp only [maxLen];omega) (by omega)) (fun _ _ ⟨aA,aB,_,y,g,q⟩=>g) ?_;rintro _ bL ⟨aA,aB,rfl,y,g,q⟩;clear q;have y:=y.lower aP;have b:=b.bw g;have f:=f.bw g;have M:=M.bw g;have i:=btr i g;refine Yo 8 rfl (fun _=>Vd rfl Xc 1)<|Y1 7 ?_;refine Yk rfl tv0 (X2s (enc:=encWr) (l2:=(d.ws)) rfl rfl Xq X0x Xu X1e M (I.bx i) (by simp only [maxLen];omega) (by omega)) (fun _ _ ⟨aF,aG,_,C,g,q⟩=>g) ?_;rintro _ bM ⟨aF,aG,rfl,C,g,q⟩;clear q;have C:=C.lower aO;have b:=b.bw g;have f:=f.bw g;have y:=y.bw g;have i:=btr i g;refine Y1 9<|Yh rfl tv0 rfl (Vu (vs:=[.slice aA d.ns.length aB]) (l':=[vi d.n,.slice aA d.ns.length aB,.slice Bd d.ws.length dd,vi d.t,vi d.r]) rfl rfl X3d b) ?_;rintro _ bN ⟨u,W⟩;have m:=b;have f:=f.oy u (by omega);have y:=y.oT u m rfl;have C:=C.oT u m rfl
  have i:=Below.oy i u J;have b:=W;refine Yo 10 rfl (fun _=>Vd rfl Xi 2)<|Y1 11 ?_;refine Yh rfl tv0 rfl (Vu (vs:=[.slice aF d.ws.length aG]) (l':=[vi d.n,.slice aA d.ns.length aB,.slice aF d.ws.length aG,vi d.t,vi d.r]) rfl rfl X19 b) ?_;rintro _ bO ⟨u,W⟩;have m:=b;have f:=f.oy u (by omega);have y:=y.oT u m rfl;have C:=C.oT u m rfl;have i:=Below.oy i u J;have b:=W;refine Yd fun a U=>?_;exact ⟨aA,aB,aF,aG,U.sb,y,C,b,f,Q,i⟩
 rintro a bP ⟨D,E,G,H,U,o,p,b,f,Q,i⟩;refine b6 _ _<|Zs U fun _ aZ=>?_;refine Ze (Vn X2 b)<|Zo (Vw [vi d.n,.slice D d.ns.length E,.slice G d.ws.length H,vi d.t,vi d.r] Xd f) ?_;rintro _ bQ ⟨u,W⟩;have m:=f;have o:=o.oT u m rfl;have p:=p.oT u m rfl;have i:=Below.oy i u aR;have f:=W;refine Zt aZ fun a U=>?_
 refine Q6 (X6 U (Xs U rfl (ResV.cellN (l:=[vi d.n,.slice D d.ns.length E,.slice G d.ws.length H,vi d.t,vi d.r]) rfl X2 (f.at 0) rfl)) ?_)
 exact ⟨D,E,G,H,rfl,o,p,i⟩
theorem Xru(j:World)(d:Dg)(md:Nat)(a7:md=d.ns.length)(Ad:Option Addr)(cd:Nat)(k:Rd j j.heap.size 76 encNd Ad d.ns)(Bd:Option Addr)(dd:Nat)(m:Rd j j.heap.size 84 encWr Bd d.ws)(o:d.ws.length<=dd)(aD:d.ws.length<=1000000000) : Ret Tryz.prog 34 [.agg #[vi d.n,.slice Ad md cd,.slice Bd d.ws.length dd,vi d.t,vi d.r]] j (fun v w=>∃ A c1 B e,v=.tuple #[.agg #[vi (if (ivD d)=true then d else zD).n,.slice A (if (ivD d)=true then d else zD).ns.length c1,.slice B (if (ivD d)=true then d else zD).ws.length e,vi (if (ivD d)=true then d else zD).t,vi (if (ivD d)=true then d else zD).r],.bool (ivD d)]/\Rd w w.heap.size 76 encNd A (if (ivD d)=true then d else zD).ns/\Rd w w.heap.size 84 encWr B (if (ivD d)=true then d else zD).ws/\(if (ivD d)=true then d else zD).ws.length<=e/\Below j.heap.size j w):=by
 subst a7
 refine enter Tryz.func34 rfl 9 rfl rfl ?_;intro a i
 have c:=bz j
 refine Zs i fun _ aE=>?_;refine Zf (X0q (zs:=[vi d.n,.slice Ad d.ns.length cd,.slice Bd d.ws.length dd,vi d.t,vi d.r]) rfl rfl) ?_;rintro _ w1 ⟨b4,rfl,aF,p,g⟩;have aL:=Q0 c.size aF;have c:=btr c p;refine Zf (Xw (zs:=[vi 0,.slice none 0 0,.slice none 0 0,vi 0,vi 0]) X0e rfl) ?_;rintro _ w2 ⟨b7,rfl,aG,p,b⟩
 have aC:b4≠b7:=by have:=g.lt;omega
 have q:=Q0 c.size aG;have g:=g.bw p;have c:=btr c p;refine Za rfl<|ZX aE fun a i _ aH=>?_;refine Zs i fun _ aI=>?_;refine Ze (Vn X2 g)<|Zf (Vc (Xfy _ d d.ns.length rfl Ad cd (k.bx c).top Bd dd (m.bx c).top o aD) X86) ?_;rintro _ w3 ⟨rfl,p⟩;have g:=g.bw p;have b:=b.bw p;have c:=btr c p;refine Ze (X0z rfl)<|Zt aI fun a i=>?_
 refine Xf i rfl (fun f=>?_) (fun f=>?_)
 ·have a6:=f
  have aJ:ivD d=false:=by have h8:=f;simpa using h8
  refine Zs i fun _ a8=>?_;refine Ze (X11 (ps:=[]) (cs:=[vi 0,.slice none 0 0,.slice none 0 0,vi 0,vi 0]) rfl (fun _=>by first|rfl|kernel_rfl))<|Zo (Vw [vi 0,.slice none 0 0,.slice none 0 0,vi 0,vi 0] Xd b) ?_;rintro _ w4 ⟨ho,hb⟩;have aA:=b;have c:=Below.oy c ho q;have b:=hb;refine Za rfl<|Zt a8 fun a i=>?_;refine Q6<|X8<|X6 i (X1h i rfl (ResV.cellN (l:=[vi 0,.slice none 0 0,.slice none 0 0,vi 0,vi 0]) rfl X2 (b.at 0) rfl) rfl) ?_
  rw [aJ,Q3 Bool.false_ne_true]
  exact ⟨none,0,none,0,rfl,(Rd.nil _ _ _ _ _),(Rd.nil _ _ _ _ _),(Qf _),c⟩
 have a6:=f
 have aK:ivD d=true:=by have h8:=f;simpa using h8
 refine Q7<|aH _ _<|Zs i fun _ aB=>?_;refine Ze (Vn X2 g)<|Zo (Vw [vi d.n,.slice Ad d.ns.length cd,.slice Bd d.ws.length dd,vi d.t,vi d.r] Xd b) ?_;rintro _ w5 ⟨ho,hb⟩;have aA:=b;have c:=Below.oy c ho q;have b:=hb;refine Za rfl<|Zt aB fun a i=>?_
 refine Q6 (X6 i (X1h i rfl (ResV.cellN (l:=[vi d.n,.slice Ad d.ns.length cd,.slice Bd d.ws.length dd,vi d.t,vi d.r]) rfl X2 (b.at 0) rfl) rfl) ?_)
 rw [aK,Q4 rfl]
 exact ⟨Ad,cd,Bd,dd,rfl,(k.bx c).top,(m.bx c).top,o,c⟩
theorem Xjs{l:List Int}(h:l.Pairwise (·<=·)) : sortI l=l:=by
 unfold sortI
 exact List.mergeSort_of_pairwise (h.imp fun h=>by simpa using h)
theorem Xpc{l:List Int}(h:Inc l) : l.Pairwise (·<=·):=List.Pairwise.imp (fun h=>Int.le_of_lt h) h
theorem Xed{ws:List Wr}(h:InW ws)(k:Int) : sortI (nearW ws k)=nearW ws k:=Xjs (Xpc (X2w h))
theorem Xpj{α:Type}{l:List α}{q:α->Bool}{k:Nat}{u:α}(h:(l.take k).any q=false)(hu:l[k]? = some u)(hq:q u=false) : (l.take (k+1)).any q=false:=by
 rw [Qt,hu,Option.toList_some,List.any_append,h,List.any_cons,hq]
 rfl
theorem Xih{α:Type}{l:List α}{q:α->Bool}{k:Nat}(h:(l.take k).any q=false)(hk:l.length<=k) : l.any q=false:=by rwa [Qi hk] at h
theorem Xkz{α:Type}{l:List α}{q:α->Bool}{k:Nat}{u:α}(hu:l[k]? = some u)(hq:q u=true) : l.any q=true:=List.any_eq_true.2 ⟨u,Qe hu,hq⟩
def prQ(d:Dg)(l:List Int)(i:Nat) : Bool:=(l.take i).any fun y=>tyW d.ws (l.getD i 0) y==1
def prD(d:Dg)(l:List Int) : Bool:=(List.range l.length).any (prQ d l)
theorem Xnx{d:Dg}{l:List Int}(h:∀ j,j<l.length->prQ d l j=false) : prD d l=false:=by grind [prD,prQ]
theorem Xhz{d:Dg}{l:List Int}{k:Nat}(hk:k<l.length)(h:prQ d l k=true) : prD d l=true:=List.any_eq_true.2 ⟨k,W2.2 hk,h⟩
theorem X7d(q:World)(d:Dg)(md:Nat)(bE:md=d.ns.length)(Ad:Option Addr)(cd:Nat)(bF:Rd q q.heap.size 76 encNd Ad d.ns)(Bd:Option Addr)(dd:Nat)(W:Rd q q.heap.size 84 encWr Bd d.ws)(x:d.ws.length<=dd)(p:Int)(hI:InW d.ws)(bI:d.ws.length<=1000000000) : Ret Tryz.prog 121 [.agg #[vi d.n,.slice Ad md cd,.slice Bd d.ws.length dd,vi d.t,vi d.r],vi p] q (fun v w=>∃ A c,v=.slice A (nearW d.ws p).length c/\Own w q.heap.size 3 1 encI A c (nearW d.ws p)/\Below q.heap.size q w):=by
 refine enter Tryz.func121 rfl 39 rfl rfl ?_;intro a f
 have g:=bz q
 refine Zs f fun _ aZ=>?_;refine Zf (X0q (zs:=[vi d.n,.slice Ad md cd,.slice Bd d.ws.length dd,vi d.t,vi d.r]) rfl rfl) ?_;rintro _ w1 ⟨b4,rfl,b0,D,aB⟩;have bG:=Q0 g.size b0;have g:=btr g D;refine Za rfl<|Zx aZ fun a f _ b1=>?_;refine Zf (Xj (k:=0) (vs:=[]) (zs:=[]) rfl Xk X1f rfl rfl) ?_;rintro _ w2 ⟨b7,rfl,b2,D,b3⟩;have aJ:=Q0 g.size b2;have aB:=aB.bw D;have g:=btr g D;refine Za rfl<|ZX b1 fun a f _ b5=>?_;refine Zs f fun _ aK=>?_;refine Ze (Vd rfl Xi 2)<|Ze (X0 rfl X0b (aB.at 2))<|Ze (X07 rfl Xq)<|Zm rfl<|Zt aK fun a f=>?_;refine Q8<|X02 (σ:=Nat×(List Int)) (fun (s:Nat×(List Int)) (a:Act) (w:World)=>match s with|(k,m)=>∃ E G,Fr a 39 [(1,vi p),(5,.slice E m.length G),(10,.slice Bd d.ws.length dd),(11,vi (d.ws.length:Int)),(12,vi (k:Int))]/\(k<=d.ws.length)/\(m=nearW (d.ws.take k) p)/\Own w q.heap.size 3 1 encI E G m/\d.ws.length<=dd/\Below q.heap.size q w) (fun (s:Nat×(List Int))=>match s with|(k,m)=>d.ws.length-k) (0,[]) ?_ ?_
 ·exact ⟨some ⟨b7,0,none⟩,0,f.sb,(Qf _),(by simp [nearW]),(Own.empty b3 aJ),x,g⟩
 rintro ⟨k,m⟩ a w3 ⟨E,G,f,hk,hm,e,x,g⟩;have aL:=X1s (d.ws.take k) p
 rw [<- hm,Qn] at aL
 refine Zs f fun _ aM=>?_;refine Ze (X0i rfl rfl)<|ZX aM fun a f _ aN=>?_
 refine Xf f rfl (fun i=>?_) (fun i=>?_)
 ·have aC:=i;have i:=Q2 i
  obtain ⟨bJ,bH⟩:=X4 (l:=d.ws) (k:=k) (by omega)
  obtain ⟨C,U⟩:=X4 (l:=d.ws) (k:=k) (by have:=i;omega)
  refine Q7<|aN _ _<|Q5 fun _ J=>?_;refine Q8<|Zs f fun _ aO=>?_;refine Zi (k:=k) (u:=C) (enc:=encWr) (l:=d.ws) tv0 rfl rfl Xq X09 Xu (W.bx g) U rfl ?_;intro bK aD;refine Ze (X00 (l:=[vi C.a,vi C.b,.bool C.h]) rfl X15 aD rfl)<|Zf (Xw (zs:=[vi 0,vi 0,.bool false]) X2k rfl) ?_;rintro _ w4 ⟨bL,rfl,a6,D,o⟩;have aE:=Q0 g.size a6;have aP:=(W.bx g).away a6;have e:=e.bw D;have g:=btr g D;refine Zo (Vw [vi C.a,vi C.b,.bool C.h] X09 o) ?_;rintro _ w5 ⟨ho,hb⟩;have aQ:=o;have e:=e.oT ho aQ rfl;have g:=Below.oy g ho aE;have o:=hb;refine Zx aO fun a f _ aR=>?_;refine Zm rfl<|Zt aR fun a f=>?_;refine Q8<|Zs f fun _ aS=>?_;refine Ze (Vd rfl X0m 0)<|Ze (X0 rfl Xa (o.at 0))<|Ze (X0f rfl rfl)<|Za rfl<|Zt aS fun a f=>?_
  refine Xf f rfl (fun y=>?_) (fun y=>?_)
  ·have aF:=y
   have z:=Xa1 U (by simpa using y)
   rw [<- hm] at z
   refine Zr f<|Zm rfl<|Ze (Vd rfl X0o 1)<|Ze (X0 rfl Xa (o.at 1))<|Zf (Xj (k:=1) (vs:=[vi C.b]) (zs:=[vi C.b]) rfl Xk X1f rfl rfl) ?_;rintro _ w6 ⟨bM,rfl,a7,D,L⟩;have b6:=Q0 g.size a7;have H:=e.away a7;have e:=e.bw D;have g:=btr g D;refine Zf (X0k (enc:=encI) (l:=(m)) (l2:=([C.b])) (B0:=q.heap.size) rfl rfl Xk X1f Xh X1z e (Rd.of_blk L rfl _ L.lt) (by simp only [maxLen];simp;omega) (by simp;omega) g.size) ?_;rintro _ w7 ⟨b8,b9,rfl,aT,hg,M⟩
   have j:Own _ q.heap.size 3 1 encI _ _ (m):=e
   have aH:=M _ L.lt H;clear M;have g:=Below.app g j hg (Qb _) g.size;clear j hg;refine Za rfl ?_;refine Zn fun a f=>?_;refine Xb<|Xb<|J _ _<|Zr f ?_;refine Ze (Xr rfl rfl (by omega) (by omega))<|Zm rfl ?_;refine Zn fun a f=>?_;refine Xe ?_;exact ⟨(k+1,m++([C.b])),⟨b8,b9,f.sb,(by omega),(by rw [z]),aT,x,g⟩,(by first|omega|(dsimp only;omega))⟩
  have aF:=y;have aU:=y;refine Zs f fun _ aV=>?_;refine Ze (Vd rfl X0o 1)<|Ze (X0 rfl Xa (o.at 1))<|Ze (X0f rfl rfl)<|Za rfl<|Zt aV fun a f=>?_
  refine Xf f rfl (fun B=>?_) (fun B=>?_)
  ·have aG:=B
   have z:=X9n U (by simpa using aU) (by simpa using B)
   rw [<- hm] at z
   refine Zr f<|Zm rfl<|Ze (Vd rfl X0m 0)<|Ze (X0 rfl Xa (o.at 0))<|Zf (Xj (k:=1) (vs:=[vi C.a]) (zs:=[vi C.a]) rfl Xk X1f rfl rfl) ?_;rintro _ w8 ⟨bN,rfl,a8,D,N⟩;have bA:=Q0 g.size a8;have I:=e.away a8;have e:=e.bw D;have g:=btr g D;refine Zf (X0k (enc:=encI) (l:=(m)) (l2:=([C.a])) (B0:=q.heap.size) rfl rfl Xk X1f Xh X1z e (Rd.of_blk N rfl _ N.lt) (by simp only [maxLen];simp;omega) (by simp;omega) g.size) ?_;rintro _ w9 ⟨bB,bC,rfl,aW,hg,M⟩
   have j:Own _ q.heap.size 3 1 encI _ _ (m):=e
   have aI:=M _ N.lt I;clear M;have g:=Below.app g j hg (Qb _) g.size;clear j hg;refine Za rfl ?_;refine Zn fun a f=>?_;refine Xb<|Xb<|J _ _<|Zr f ?_;refine Ze (Xr rfl rfl (by omega) (by omega))<|Zm rfl ?_;refine Zn fun a f=>?_;refine Xe ?_;exact ⟨(k+1,m++([C.a])),⟨bB,bC,f.sb,(by omega),(by rw [z]),aW,x,g⟩,(by first|omega|(dsimp only;omega))⟩
  have aG:=B
  have z:=X7s U (by simpa using aU) (by simpa using B)
  rw [<- hm] at z
  refine Q7<|Xb<|Xb<|J _ _ ?_;refine Zr f<|Ze (Xr rfl rfl (by omega) (by omega))<|Zm rfl ?_;refine Zn fun a f=>?_;refine Xe ?_;exact ⟨(k+1,m),⟨E,G,f.sb,(by omega),(by rw [z]),e,x,g⟩,(by first|omega|(dsimp only;omega))⟩
 have aC:=i;have i:=Q1 i
 have Q:m=nearW d.ws p:=by rw [hm,Qi (by have:=i;omega)]
 have bO:m.length<=d.ws.length:=by rw [Q];exact X1s _ _
 have bD:sortI m=m:=by rw [Q];exact Xed hI p
 refine Q9<|Xl<|Xl<|X01 ?_;refine b5 _ _<|Zs f fun _ aX=>?_;refine Zm rfl<|Zf (Vc (F94 _ q.heap.size E G m e (by have:=X1s d.ws p;omega)) Xll) ?_;rintro _ bP ⟨aA,hg⟩;have j:=e;have g:=Below.app g j hg (Qb _) g.size
 clear j hg;clear e;have e:=aA;clear aA;refine Zx aX fun a f _ aY=>?_;refine Zm rfl<|Za rfl<|Zt aY fun a f=>?_
 refine Q6 (X6 f (Xs f rfl rfl) ?_)
 rw [<- Q]
 exact ⟨E,G,rfl,bD▸e,g⟩
theorem Xu2(c:World)(x:Int)(d:Dg)(md:Nat)(m:md=d.ns.length)(Ad:Option Addr)(cd:Nat)(o:Rd c c.heap.size 76 encNd Ad d.ns)(Bd:Option Addr)(dd:Nat)(q:Rd c c.heap.size 84 encWr Bd d.ws)(u:d.ws.length<=dd)(p:Int)(ba bb:Nat)(f:Blk c ba 31 [vi d.n,.slice Ad md cd,.slice Bd d.ws.length dd,vi d.t,vi d.r])(j:Blk c bb 3 [vi p])(hN:md<=1000)(a7:d.ws.length<=1000000000) : Ret Tryz.prog 262 [vi x,(pZ9 ba),(pZ9 bb)] c (fun v w=>v=.bool (!(spI d.ns x)||tyW d.ws p x != 2)/\Below c.heap.size c w):=by
 have a8:=f.lt;have aA:=j.lt;refine enter Tryz.func262 rfl 16 rfl rfl ?_;intro a i
 have g:=bz c
 refine Zs i fun _ aB=>?_;refine Za rfl<|ZX aB fun a i _ aC=>?_;refine X06 (fun a w=>Fr a 16 [(4,.bool ((!(spI d.ns x))||((tyW d.ws p x) != 2)))]/\Below c.heap.size c w) ?_ ?_
 ·have e:=bz c
  refine Zr i<|Ze (X00 (l:=[vi d.n,.slice Ad md cd,.slice Bd d.ws.length dd,vi d.t,vi d.r]) rfl X2 (f.at 0) rfl)<|Zm rfl<|Zf (Vc (X4j _ d md m Ad cd (o.bx g).top Bd dd (q.bx g).top u x hN) X2f) ?_;rintro _ w1 ⟨rfl,k⟩;have f:=f.bw k;have j:=j.bw k;have g:=btr g k;have e:=btr e k;refine Ze (X0z rfl)<|Zm rfl ?_
  refine Zg 9 rfl (fun b=>?_) (fun b=>?_)
  ·(iterate 5 refine Zp (gP b) ?_);refine Ze (X5 rfl b rfl)<|Za rfl ?_;refine Zn fun a i=>?_
   have a6:Below c.heap.size c w1:=e
   exact ⟨i.sub ⟨X1 rfl (by first|rfl|(simp only [b,bs];done)|simp [b]),trivial⟩,a6⟩
  refine Zv (gW b) (X00 (l:=[vi d.n,.slice Ad md cd,.slice Bd d.ws.length dd,vi d.t,vi d.r]) rfl X2 (f.at 0) rfl) ?_;refine Zv (gW b) (X0 rfl Xa (j.at 0)) ?_;refine Zv (gW b) (X3 rfl) ?_;refine Zk (gW b) (Vc (X5h _ d md m Ad cd (o.bx g).top Bd dd (q.bx g).top u p x a7) X2r) ?_;rintro _ w2 ⟨rfl,k⟩;have g:=btr g k;have e:=btr e k;refine Zv (gW b) (X1c rfl rfl) ?_;refine Ze (X9 rfl b rfl)<|Za rfl ?_;refine Zn fun a i=>?_
  have a6:Below c.heap.size c w2:=e
  exact ⟨i.sub ⟨X1 rfl (by first|rfl|(simp only [b,bs];done)|simp [b]),trivial⟩,a6⟩
 rintro a w3 ⟨i,k⟩;have g:=btr g k;refine aC _ _ ?_
 refine Q6 (X6 i (Xs i rfl rfl) ?_)
 exact ⟨rfl,g⟩
theorem Xf6(c:World)(d:Dg)(md:Nat)(a7:md=d.ns.length)(Ad:Option Addr)(cd:Nat)(a8:Rd c c.heap.size 76 encNd Ad d.ns)(Bd:Option Addr)(dd:Nat)(aA:Rd c c.heap.size 84 encWr Bd d.ws)(aB:d.ws.length<=dd)(p:Int)(Al:Option Addr)(cl:Nat)(l:List Int)(e:Rd c c.heap.size 3 encI Al l)(hN:md<=1000)(aE:d.ws.length<=1000000000)(aL:l.length<=1000000000) : Ret Tryz.prog 215 [.agg #[vi d.n,.slice Ad md cd,.slice Bd d.ws.length dd,vi d.t,vi d.r],vi p,.slice Al l.length cl] c (fun v w=>v=.bool (!(l.any fun x=>!(spI d.ns x)||tyW d.ws p x != 2))/\Below c.heap.size c w):=by
 refine enter Tryz.func215 rfl 11 rfl rfl ?_;intro a hf
 have b:=bz c
 refine Zs hf fun _ aF=>?_;refine Zf (X0q (zs:=[vi d.n,.slice Ad md cd,.slice Bd d.ws.length dd,vi d.t,vi d.r]) rfl rfl) ?_;rintro _ w1 ⟨b5,rfl,aG,hE,a6⟩;have aJ:=Q0 b.size aG;have b:=btr b hE;refine Zf (X0q (zs:=[vi p]) rfl rfl) ?_;rintro _ w2 ⟨b6,rfl,aC,hE,aH⟩;have aK:=Q0 b.size aC;have aD:=(e.bx b).away aC;have a6:=a6.bw hE;have b:=btr b hE;refine Za rfl<|Zx aF fun a hf _ aI=>?_;refine Zm rfl<|Ze (X35 (vs:=[(pZ9 b5),(pZ9 b6)]) rfl)<|Zf (Vc (Xv9 _ Al cl l (e.bx b).top 262 [(pZ9 b5),(pZ9 b6)] Xhv (fun x=>!(spI d.ns x)||tyW d.ws p x != 2) (fun x w' hE'=>Xu2 w' x d md a7 Ad cd (((a8.bx b).top).bw hE').top Bd dd (((aA.bx b).top).bw hE').top aB p _ _ (a6.bw hE') (aH.bw hE') hN aE) (by omega)) Xo2) ?_;rintro _ w3 ⟨rfl,hE⟩;have b:=btr b hE;refine Ze (X0z rfl)<|Za rfl<|Zt aI fun a hf=>?_
 refine Q6 (X6 hf (Xs hf rfl rfl) ?_)
 exact ⟨rfl,b⟩
theorem Xmb(q:World)(d:Dg)(md:Nat)(aE:md=d.ns.length)(Ad:Option Addr)(cd:Nat)(aF:Rd q q.heap.size 76 encNd Ad d.ns)(Bd:Option Addr)(dd:Nat)(aG:Rd q q.heap.size 84 encWr Bd d.ws)(f:d.ws.length<=dd)(Al:Option Addr)(cl:Nat)(l:List Int)(z:Rd q q.heap.size 3 encI Al l)(aS:d.ws.length<=1000000000)(b6:l.length<=1000000000)(aT:l.length<=cl) : Ret Tryz.prog 216 [.agg #[vi d.n,.slice Ad md cd,.slice Bd d.ws.length dd,vi d.t,vi d.r],.slice Al l.length cl] q (fun v w=>v=.bool (prD d l)/\Below q.heap.size q w):=by
 refine enter Tryz.func216 rfl 31 rfl rfl ?_;intro a b
 have o:=bz q
 refine Zs b fun _ aU=>?_;refine Zf (X0q (zs:=[vi d.n,.slice Ad md cd,.slice Bd d.ws.length dd,vi d.t,vi d.r]) rfl rfl) ?_;rintro _ w1 ⟨b5,rfl,aV,hE,m⟩;have b2:=Q0 o.size aV;have o:=btr o hE;refine Za rfl<|ZX aU fun a b _ aW=>?_;refine Zs b fun _ aX=>?_;refine Zm rfl<|Ze (X07 rfl Xk)<|Zm rfl<|Zt aX fun a b=>?_;refine Q8<|X02 (σ:=Nat) (fun (k:Nat) (a:Act) (w:World)=>Fr a 31 [(1,.slice Al l.length cl),(2,(pZ9 b5)),(9,.slice Al l.length cl),(10,vi (l.length:Int)),(11,vi (k:Int))]/\(k<=l.length)/\(∀ j:Nat,j<k->prQ d l j=false)/\Blk w b5 31 [vi d.n,.slice Ad md cd,.slice Bd d.ws.length dd,vi d.t,vi d.r]/\d.ws.length<=dd/\Below q.heap.size q w) (fun (k:Nat)=>l.length-k) 0 ?_ ?_
 ·exact ⟨b.sb,(Qf _),(fun j hj=>by omega),m,f,o⟩
 rintro k a w2 ⟨b,hk,h,m,f,o⟩;refine Zs b fun _ aY=>?_;refine Ze (X0i rfl rfl)<|ZX aY fun a b _ aZ=>?_
 refine Xf b rfl (fun c=>?_) (fun c=>?_)
 ·have a6:=c;have c:=Q2 c
  obtain ⟨b7,b3⟩:=X4 (l:=l) (k:=k) (by omega)
  obtain ⟨u9,a7⟩:=X4 (l:=l) (k:=k) (by have:=c;omega)
  have aH:l.getD k 0=u9:=by rw [Qa,a7];rfl
  refine Q7<|aZ _ _<|Q5 fun _ aI=>?_;refine Q8<|Zs b fun _ aJ=>?_;refine Zm rfl<|Zi (k:=k) (u:=u9) (enc:=encI) (l:=l) tv0 rfl rfl Xk X0a Xh (z.bx o) a7 rfl ?_;intro b8 a8;refine Ze (X0 rfl Xa a8)<|Za rfl<|Za rfl<|Zx aJ fun a b _ aK=>?_;refine Zm rfl<|Zm rfl ?_;have g:=((z.bx o).top).takeK Xh k;refine Ze (X2d (l:=l) (k:=k) rfl rfl Xk X0a rfl hk aT)<|Ze (X07 rfl Xk)<|Zm rfl<|Zt aK fun a b=>?_;refine Q8<|X02 (σ:=Nat) (fun (j:Nat) (a:Act) (w:World)=>Fr a 31 [(1,.slice Al l.length cl),(2,(pZ9 b5)),(6,vi u9),(9,.slice Al l.length cl),(10,vi (l.length:Int)),(11,vi (k:Int)),(18,.slice Al (l.take k).length cl),(19,vi ((l.take k).length:Int)),(20,vi (j:Int))]/\(j<=(l.take k).length)/\(((l.take k).take j).any (fun y=>tyW d.ws u9 y==1)=false)/\Blk w b5 31 [vi d.n,.slice Ad md cd,.slice Bd d.ws.length dd,vi d.t,vi d.r]/\Rd w w2.heap.size 3 encI Al (l.take k)/\d.ws.length<=dd/\Below q.heap.size q w) (fun (j:Nat)=>(l.take k).length-j) 0 ?_ ?_
  ·exact ⟨b.sb,(Qf _),rfl,m,g,f,o⟩
  rintro j a w3 ⟨b,hj,A,m,g,f,o⟩;refine Zs b fun _ aL=>?_;refine Ze (X0i rfl rfl)<|ZX aL fun a b _ aM=>?_
  refine Xf b rfl (fun e=>?_) (fun e=>?_)
  ·have aA:=e;have e:=Q2 e
   obtain ⟨b9,b4⟩:=X4 (l:=(l.take k)) (k:=j) (by omega)
   have bA:(l.take k).length<=1000000000:=by rw [Qn];omega
   obtain ⟨v9,aB⟩:=X4 (l:=l.take k) (k:=j) (by have:=e;omega)
   refine Q7<|aM _ _<|Q5 fun _ aN=>?_;refine Q8<|Zs b fun _ aO=>?_;refine Zi (k:=j) (u:=v9) (enc:=encI) (l:=(l.take k)) tv0 rfl rfl Xk X0a Xh g aB rfl ?_;intro bB aC;refine Ze (X0 rfl Xa aC)<|Za rfl<|Zx aO fun a b _ aP=>?_;refine Ze (Vn X2 m)<|Zm rfl<|Zm rfl<|Zf (Vc (X5h _ d md aE Ad cd (aF.bx o).top Bd dd (aG.bx o).top f u9 v9 aS) X2r) ?_;rintro _ w4 ⟨rfl,hE⟩;have m:=m.bw hE;have g:=g.bw hE;have o:=btr o hE;refine Ze (X0f rfl rfl)<|Zt aP fun a b=>?_
   refine Xf b rfl (fun p=>?_) (fun p=>?_)
   ·have aD:=p
    have x:prD d l=true:=Xhz (k:=k) (by have:=(Qg.1 a7).1;omega) (by unfold prQ;rw [aH];exact Xkz aB (by have h9:=p;simpa using h9))
    refine Zs b fun _ aQ=>?_;refine Za rfl<|Zt aQ fun a b=>?_;refine Q6<|Xx<|X8<|X8 ?_;refine Xx<|Xx<|X8<|X8 ?_;refine Xx<|X8<|X6 b (Xs b rfl rfl) ?_;exact ⟨by rw [x],o⟩
   have aD:=p
   have b0:(tyW d.ws u9 v9==1)=false:=by have h9:=p;simpa using h9
   refine Q7<|Xb<|aN _ _<|Zr b ?_;refine Ze (Xr rfl rfl (by omega) (by omega))<|Zm rfl ?_;refine Zn fun a b=>?_;refine Xe ?_;exact ⟨j+1,⟨b.sb,(by omega),(Xpj A aB b0),m,g,f,o⟩,(by omega)⟩
  have aA:=e;have e:=Q1 e
  have b1:prQ d l k=false:=by unfold prQ;rw [aH];exact Xih A (by have:=e;omega)
  refine Q9<|Xl<|Xl<|X01 ?_;refine Xb<|aI _ _<|Zr b<|Ze (Xr rfl rfl (by omega) (by omega))<|Zm rfl ?_;refine Zn fun a b=>?_;refine Xe ?_;exact ⟨k+1,⟨b.sb,(by omega),(fun i hi=>by by_cases h9:i=k;rw [h9];exact b1;exact h i (by omega)),m,f,o⟩,(by omega)⟩
 have a6:=c;have c:=Q1 c
 have x:prD d l=false:=Xnx fun j hj=>h j (by have:=c;omega)
 refine Q9<|Xl<|Xl<|X01 ?_;refine aW _ _<|Zs b fun _ aR=>?_;refine Za rfl<|Zt aR fun a b=>?_
 refine Q6 (X6 b (Xs b rfl rfl) ?_)
 exact ⟨by rw [x],o⟩
variable {α : Type} {P : Program} {a : Act} {w : World} {n : Nat} {e : Env} {ty : TypeId} {pos : String} {af : Array Edge} {g : Option (Nat × Bool)} {d : Option Tmp}
theorem Own.takeK{B0:Nat}{E:TypeId}{sz:Nat}{enc:α->List Value}{A:Option Addr}{c:Nat}{l:List α}(h:Own w B0 E sz enc A c l)(hsz:∀ x,(enc x).length=sz){k:Nat}(hk:k<=l.length) : Own w B0 E sz enc A c (l.take k):=by
 refine ⟨Xo hsz _,?_⟩
 have hl:(l.take k).length=k:=by rw [Qn];omega
 rcases h.2 with ⟨h1,h2⟩|⟨gg,cap,cur,h1,h2,h3,h4,h5,h6,h7⟩
 ·have:k=0:=by omega
  subst this
  injection h1 with h1 _ h1'
  exact .inl ⟨by rw [h1,h1'];rfl,rfl⟩
 ·injection h1 with h1 _ h1'
  refine .inr ⟨gg,cap,cur,by rw [h1,h1'],h2,h3,by omega,h5,h6,?_⟩
  rw [hl]
  have e:(l.take k).flatMap enc=(l.flatMap enc).take (k*sz):=by
   have h8:l.flatMap enc=(l.take k).flatMap enc++(l.drop k).flatMap enc:=by rw [<- List.flatMap_append,W9]
   have h9:((l.take k).flatMap enc).length=k*sz:=by rw [Xo hsz,hl]
   rw [h8,List.take_append_of_le_length (by rw [h9];exact Qb _)]
   exact (Qi (by rw [h9];exact Qb _)).symm
  rw [e,<- h7,List.take_take]
  congr 1
  have:=Nat.mul_le_mul_right sz hk
  omega
theorem X75{z:Array Value}{n:Nat}(hz:z.toList.all one=true)(hn:z≠#[]) : (Builtin.zeroCells z n).toList.length=n*z.size/\(Builtin.zeroCells z n).toList.all one=true:=by
 unfold Builtin.zeroCells
 refine ⟨by simp,?_⟩
 rw [W1]
 intro v hv
 simp only [Array.toList_map,W6] at hv
 obtain ⟨i,_,rfl⟩:=hv
 have hs:0<z.size:=Array.size_pos_iff.2 hn
 have hi:i % z.size<z.size:=Nat.mod_lt _ hs
 rw [getElem!_pos z _ hi]
 exact (W1.1 hz) _ (Array.mem_toList_iff.2 (Array.getElem_mem hi))
theorem Xg7{T E:TypeId}{sz B0 k cc L:Nat}{x:Operand}{z:Value}{enc:α->List Value}{A:Option Addr}{c:Nat}{l:List α}(hf:Fr a n e)(hx:ev e x=some (.slice (if c=k then A else A.map (·.add (k*sz))) L cc))(hT:SliceT P T E)(hZ:ZeroT P E z)
  (ho:Own w B0 E sz enc A c l) (hz1:z.cells.toList.all one=true) (hz2:z.cells.size=sz) (hsz:∀ x,(enc x).length=sz) (hp:0<sz) (hk:k<=l.length) (hL:k+L<=c) :
  Ef P ⟨d,.call ⟨.builtin .clear,#[x],#[T]⟩,ty,pos,af,g⟩ a w (fun _ w'=>Own w' B0 E sz enc A c (l.take k)/\w.grownBy w' (Value.slice A l.length c).ownBlock):=by
 by_cases hkl:L=0
 ·subst hkl
  have hrun:(Builtin.clear_ #[T] ty #[.slice (if c=k then A else A.map (·.add (k*sz))) 0 cc]).run P w=.ok (.tuple #[]) w:=by
   cases (if c=k then A else A.map (·.add (k*sz)))<;>simp [Builtin.clear_,X0c hT]
  refine (Ef.of_run (v:=.tuple #[]) (w':=w) ?_).mono fun v w' ⟨_,e2⟩=>?_
  ·simp [execOp,resolve,invoke,builtin,hf.ev hx,hrun]
  ·subst e2
   rcases ho.2 with ⟨h1,h2⟩|⟨gg,cap,cur,h1,h2,h3,h4,h5,h6,h7⟩
   ·exact ⟨ho.takeK hsz hk,World.grownBy.refl _ _⟩
   ·exact ⟨ho.takeK hsz hk,World.grownBy.refl _ _⟩
 ·have hot:=ho.takeK hsz hk
  rcases ho.2 with ⟨h1,h2⟩|⟨gg,cap,cur,h1,h2,h3,h4,h5,h6,h7⟩
  ·injection h1 with _ _ h1'
   omega
  ·injection h1 with h1 _ h1'
   subst h1'
   subst h1
   have hck:¬ c=k:=by omega
   rw [Q3 hck] at hx
   have hcl:cur.toList.length=c*sz:=Array.length_toList.trans h6
   have hb:Blk w gg E cur.toList:=by unfold Blk;rw [h3]
   have hzz:=X75 (z:=z.cells) (n:=L) hz1 (fun h=>by rw [h] at hz2;simp at hz2;omega)
   have hle:k*sz+L*z.cells.size<=cur.toList.length:=by
    rw [hcl,hz2,<- Wb]
    exact Nat.mul_le_mul_right _ hL
   obtain ⟨w',hr,hO,hB⟩:=X2v (P:=P) (b:=gg) (off:=k*sz) (T:=E) (Builtin.zeroCells z.cells L).toList w cur.toList 0 hb (by rw [hzz.1];omega) hzz.2
   have hpos:∃ m,L=m+1:=⟨L-1,by omega⟩
   obtain ⟨m,hm⟩:=hpos
   have hzv:(zeroValue E).run P w=.ok z w:=by
    obtain ⟨i,hi,hi2⟩:=hZ
    simp [zeroValue,typeInfo,hi,hi2]
   have ha:((⟨gg,0,none⟩ : Addr).add (k*sz))=⟨gg,k*sz,none⟩:=by rw [X1a];simp
   have hrun:(Builtin.clear_ #[T] ty #[.slice (some ⟨gg,k*sz,none⟩) (m+1) cc]).run P w=.ok (.tuple #[]) w':=by
    rw [hm] at hr
    simp [Builtin.clear_,X0c hT,hzv,hr]
   refine (Ef.of_run (v:=.tuple #[]) (w':=w') ?_).mono fun v w1 ⟨_,e2⟩=>?_
   ·rw [hm] at hx
    simp only [Option.map_some,ha] at hx
    simp [execOp,resolve,invoke,builtin,hf.ev hx,hrun]
   ·subst e2
    have hlt:(l.take k).length=k:=by rw [Qn];omega
    have hsl:(splice cur.toList (k*sz) (Builtin.zeroCells z.cells L).toList).length=c*sz:=by rw [X2i (by rw [hzz.1];exact hle),hcl]
    refine ⟨⟨Xo hsz _,.inr ⟨gg,c,(splice cur.toList (k*sz) (Builtin.zeroCells z.cells L).toList).toArray,rfl,h2,?_,by omega,h5,?_,?_⟩⟩,?_⟩
    ·unfold Blk at hB
     simpa using hB
    ·rw [List.size_toArray,hsl]
    ·rw [hlt]
     have e7:cur.toList.take (k*sz)=(l.take k).flatMap enc:=by
      rcases hot.2 with ⟨q1,q2⟩|⟨g2,cap2,cur2,q1,q2,q3,q4,q5,q6,q7⟩
      ·simp at q1
      ·injection q1 with q1 _ q1'
       injection q1 with q1
       injection q1 with q1
       subst q1
       rw [h3] at q3
       injection q3 with q3
       injection q3 with q3
       subst q3
       rw [hlt] at q7
       exact q7
     rw [<- e7]
     show ((splice cur.toList (k*sz) _).toArray.toList).take (k*sz)=_
     rw [List.toList_toArray]
     apply List.ext_getElem?
     intro i
     rw [List.getElem?_take,List.getElem?_take]
     split
     ·rename_i hi
      rw [X29 (by rw [hzz.1];exact hle),Q4 (by omega)]
     ·rfl
    ·exact ⟨hO.os,hO.tape,hO.output,by rw [hO.size];exact Qb _,fun q _ hne=>hO.block q fun e=>hne (by rw [e];rfl)⟩
theorem Xat{T E:TypeId}{sz B0 k cc L:Nat}{x:Operand}{z:Value}{enc:α->List Value}{A:Option Addr}{c:Nat}{l:List α}(hx:ev e x=some (.slice (if c=k then A else A.map (·.add (k*sz))) L cc))(hT:SliceT P T E)(hZ:ZeroT P E z)(ho:Own w B0 E sz enc A c l)(hz1:z.cells.toList.all one=true)(hz2:z.cells.size=sz)(hsz:∀ x,(enc x).length=sz)(hp:0<sz)(hk:k<=l.length)(hL:k+L<=c) : EfW P ⟨d,.call ⟨.builtin .clear,#[x],#[T]⟩,ty,pos,af,g⟩ n e w (fun _ w'=>Own w' B0 E sz enc A c (l.take k)/\w.grownBy w' (Value.slice A l.length c).ownBlock):=fun a hf=>Xg7 hf hx hT hZ ho hz1 hz2 hsz hp hk hL
theorem Xdt{T E sz q c k m:Nat}{x y z:Operand}{A:Option Addr}{i j:Int}(hf:Fr a n e)(hx:ev e x=some (.slice A q c))(hy:ev e y=some (.int .i64 i))(hz:ev e z=some (.int .i64 j))(hT:SliceT P T E)(hs:SizeT P E sz)(hi:i=(k:Int))(hj:j=(m:Int))(hk:k<=m)(hm:m<=c) :
  Ev P ⟨d,.slice T x (some y) (some z) none,ty,pos,af,g⟩ a w (.slice (if c=k then A else A.map (·.add (k*sz))) (m-k) (c-k)):=fun w' _=>by
 subst hi;subst hj
 simp [execOp,Instr.sliceAt,Instr.slice,Instr.sliceBounds,run_sliceBound,X0c hT,run_sizeOf' hs,hf.ev hx,hf.ev hy,hf.ev hz,hk,hm]
theorem Xim{T E sz q c k m:Nat}{x y z:Operand}{A:Option Addr}{i j:Int}(hx:ev e x=some (.slice A q c))(hy:ev e y=some (.int .i64 i))(hz:ev e z=some (.int .i64 j))(hT:SliceT P T E)(hs:SizeT P E sz)(hi:i=(k:Int))(hj:j=(m:Int))(hk:k<=m)(hm:m<=c) : EvW P ⟨d,.slice T x (some y) (some z) none,ty,pos,af,g⟩ n e w (.slice (if c=k then A else A.map (·.add (k*sz))) (m-k) (c-k)):=fun a hf=>Xdt hf hx hy hz hT hs hi hj hk hm
theorem Xe8{T E sz q c k m r:Nat}{x y z u:Operand}{A:Option Addr}{i j s:Int}(hf:Fr a n e)(hx:ev e x=some (.slice A q c))(hy:ev e y=some (.int .i64 i))(hz:ev e z=some (.int .i64 j))(hu:ev e u=some (.int .i64 s))(hT:SliceT P T E)(hs:SizeT P E sz)(hi:i=(k:Int))(hj:j=(m:Int))(hr:s=(r:Int))(hk:k<=m)(hm:m<=r)(hrc:r<=c) :
  Ev P ⟨d,.slice T x (some y) (some z) (some u),ty,pos,af,g⟩ a w (.slice (if r=k then A else A.map (·.add (k*sz))) (m-k) (r-k)):=fun w' _=>by
 subst hi;subst hj;subst hr
 simp [execOp,Instr.sliceAt,Instr.slice,Instr.sliceBounds,run_sliceBound,X0c hT,run_sizeOf' hs,hf.ev hx,hf.ev hy,hf.ev hz,hf.ev hu,hk,hm,hrc]
theorem Xjb{T E sz q c k m r:Nat}{x y z u:Operand}{A:Option Addr}{i j s:Int}(hx:ev e x=some (.slice A q c))(hy:ev e y=some (.int .i64 i))(hz:ev e z=some (.int .i64 j))(hu:ev e u=some (.int .i64 s))(hT:SliceT P T E)(hs:SizeT P E sz)(hi:i=(k:Int))(hj:j=(m:Int))(hr:s=(r:Int))(hk:k<=m)(hm:m<=r)(hrc:r<=c) : EvW P ⟨d,.slice T x (some y) (some z) (some u),ty,pos,af,g⟩ n e w (.slice (if r=k then A else A.map (·.add (k*sz))) (m-k) (r-k)):=fun a hf=>Xe8 hf hx hy hz hu hT hs hi hj hr hk hm hrc
theorem Xam{T E:TypeId}{sz B B0:Nat}{x y:Operand}{enc:α->List Value}{A A2:Option Addr}{c c2:Nat}{l l2:List α}(hf:Fr a n e)(hx:ev e x=some (.slice A l.length c))(hy:ev e y=some (.slice A2 l2.length c2))
  (hT:SliceT P T E) (hs:SizeT P E sz) (hsz:∀ x,(enc x).length=sz) (hone:∀ x,(enc x).all one=true) (ho:Own w B0 E sz enc A c l) (hr:Rd w B E enc A2 l2) (hroom:l.length+l2.length<=c) :
  Ef P ⟨d,.call ⟨.builtin .append,#[x,y],#[T,T]⟩,ty,pos,af,g⟩ a w (fun v w'=>v=.slice A (l++l2).length c/\Own w' B0 E sz enc A c (l++l2)/\w.grownBy w' (Value.slice A l.length c).ownBlock):=by
 obtain ⟨i,hi1,hi2⟩:=hs
 rcases ho.2 with ⟨h1,h2⟩|⟨gg,cap,cur,h1,h2,h3,h4,h5,h6,h7⟩
 ·injection h1 with h1 _ h1'
  subst h1;subst h1'
  have e1:l=[]:=List.eq_nil_of_length_eq_zero h2
  have e2:l2=[]:=List.eq_nil_of_length_eq_zero (by omega)
  subst e1;subst e2
  have hrun:(Builtin.append_ #[T,T] ty #[.slice none 0 0,.slice A2 0 c2]).run P w=.ok (.slice none 0 0) w:=by
   cases A2<;>simp [Builtin.append_,X0c hT,sizeOf,typeInfo,hi1,Builtin.lenOf,Builtin.firstCells,loadCells,loadCellsFrom]
  refine (Ef.of_run (v:=.slice none 0 0) (w':=w) ?_).mono fun v w' ⟨e1,e2⟩=>?_
  ·simp only [List.length_nil] at hx hy
   simp [execOp,resolve,invoke,builtin,hf.ev hx,hf.ev hy,hrun]
  ·subst e1;subst e2
   exact ⟨rfl,ho,World.grownBy.refl w' _⟩
 ·injection h1 with h1 _ h1'
  subst h1;subst h1'
  by_cases hl2:l2=[]
  ·subst hl2
   have hrun:(Builtin.append_ #[T,T] ty #[.slice (some ⟨gg,0,none⟩) l.length c,.slice A2 0 c2]).run P w=.ok (.slice (some ⟨gg,0,none⟩) l.length c) w:=by
    cases A2<;>simp [Builtin.append_,X0c hT,sizeOf,typeInfo,hi1,Builtin.lenOf,Builtin.firstCells,loadCells,loadCellsFrom,h4,storeCells]
   refine (Ef.of_run (v:=.slice (some ⟨gg,0,none⟩) l.length c) (w':=w) ?_).mono fun v w' ⟨e1,e2⟩=>?_
   ·simp only [List.length_nil] at hy
    simp [execOp,resolve,invoke,builtin,hf.ev hx,hf.ev hy,hrun]
   ·subst e1;subst e2
    exact ⟨by simp,by simpa using ho,World.grownBy.refl w' _⟩
  ·obtain ⟨b,off,cs,fz,rfl,g2,g3,g4⟩:=hr hl2;obtain ⟨w',hrun,hown,hg⟩:=run_append_fits (P:=P) (w:=w) B0 T ty E i sz hT hi1 hi2 gg l.length c (l.flatMap enc) ho ⟨b,off,none⟩ l2.length c2 (l2.flatMap enc) (Xo hsz l2)
    (fun j u hu=>by
     have:=g4 j u hu
     rw [X1a]
     simp [World.cell?,g3,this])
    (fun u hu=>by
     obtain ⟨x,_,hx⟩:=List.mem_flatMap.1 hu
     have:=W1.1 (hone x) u hx
     cases u<;>simp_all [Value.oneCell',one]) hroom
   refine (Ef.of_run (v:=.slice (some ⟨gg,0,none⟩) (l.length+l2.length) c) (w':=w') ?_).mono fun v w1 ⟨e1,e2⟩=>?_
   ·simp [execOp,resolve,invoke,builtin,hf.ev hx,hf.ev hy,hrun]
   ·subst e1;subst e2
    refine ⟨by rw [Qh],?_,hg⟩
    unfold Own
    rw [List.flatMap_append,Qh]
    exact hown
theorem Xeb{T E:TypeId}{sz B B0:Nat}{x y:Operand}{enc:α->List Value}{A A2:Option Addr}{c c2:Nat}{l l2:List α}(hx:ev e x=some (.slice A l.length c))(hy:ev e y=some (.slice A2 l2.length c2))(hT:SliceT P T E)(hs:SizeT P E sz)(hsz:∀ x,(enc x).length=sz)(hone:∀ x,(enc x).all one=true)(ho:Own w B0 E sz enc A c l)(hr:Rd w B E enc A2 l2)(hroom:l.length+l2.length<=c) : EfW P ⟨d,.call ⟨.builtin .append,#[x,y],#[T,T]⟩,ty,pos,af,g⟩ n e w (fun v w'=>v=.slice A (l++l2).length c/\Own w' B0 E sz enc A c (l++l2)/\w.grownBy w' (Value.slice A l.length c).ownBlock):=fun a hf=>Xam hf hx hy hT hs hsz hone ho hr hroom
theorem X8n{α:Type}{l:List α}{q:α->Bool}{j:Nat}{u:α}(hu:l[j]? = some u)(h:q u=true) : (l.take (j+1)).filter (fun x=>!q x)=(l.take j).filter fun x=>!q x:=by
 rw [X2l (q:=fun x=>!q x) hu,Q3 (by rw [h];decide),List.append_nil]
theorem Xf0{α:Type}{l:List α}{q:α->Bool}{j:Nat}{u:α}(hu:l[j]? = some u)(h:q u=false) : (l.take (j+1)).filter (fun x=>!q x)=((l.take j).filter fun x=>!q x)++[u]:=by
 rw [X2l (q:=fun x=>!q x) hu,Q4 (by rw [h];rfl)]
structure Strk {α:Type} (l:List α) (q:α->Bool) (i j:Nat) (m:List α) : Prop where
 len:m.length=l.length
 ie:i=((l.take j).filter fun x=>!q x).length
 lt:i<j
 jl:j<=l.length
 tk:m.take i=(l.take j).filter fun x=>!q x
 dr:∀ t,j<=t->m[t]? = l[t]?
theorem Strk.at{α:Type}{l m:List α}{q:α->Bool}{i j:Nat}(h:Strk l q i j m){u:α}(hu:l[j]? = some u) : m[j]? = some u:=(h.dr j (Qb _)).trans hu
theorem Strk.no{α:Type}{l m:List α}{q:α->Bool}{i j:Nat}(h:Strk l q i j m){u:α}(hu:l[j]? = some u)(hq:q u=true) : Strk l q i (j+1) m:=
 ⟨h.len,by rw [X8n hu hq];exact h.ie,by have:=h.lt;omega,(Qg.1 hu).1,by rw [X8n hu hq];exact h.tk,fun t ht=>h.dr t (by omega)⟩
theorem Strk.yes{α:Type}{l m:List α}{q:α->Bool}{i j:Nat}(h:Strk l q i j m){u:α}(hu:l[j]? = some u)(hq:q u=false) : Strk l q (i+1) (j+1) (m.set i u):=by
 have hj:=(Qg.1 hu).1;have hl:=h.lt;have hm:=h.len
 refine ⟨List.length_set.trans h.len,by rw [Xf0 hu hq,Qh,<- h.ie];rfl,by omega,hj,?_,fun t ht=>?_⟩
 ·rw [Xf0 hu hq,<- h.tk,Qt,List.getElem?_set_self (by omega)]
  rw [List.take_set_of_le (Qb _)]
  rfl
 ·rw [List.getElem?_set_ne (by omega)]
  exact h.dr t (by omega)
theorem Strk.init{α:Type}{l:List α}{q:α->Bool}{k:Nat}{u:α}(ha:((l.take k).all fun x=>!q x)=true)(hu:l[k]? = some u)(hq:q u=true) : Strk l q k (k+1) l:=by
 have hk:=(Qg.1 hu).1
 have e:(l.take k).filter (fun x=>!q x)=l.take k:=List.filter_eq_self.2 fun x hx=>W1.1 ha x hx
 exact ⟨rfl,by rw [X8n hu hq,e,Qn];omega,by omega,hk,by rw [X8n hu hq,e],fun _ _=>rfl⟩
theorem Strk.fin{α:Type}{l m:List α}{q:α->Bool}{i j:Nat}(h:Strk l q i j m)(hj:l.length<=j) : m.take i=(l.filter fun x=>!q x)/\(l.take i).length=(l.filter fun x=>!q x).length:=by
 have e:=h.tk
 have e2:=h.ie
 rw [Qi hj] at e e2
 have:=h.lt
 have:=h.jl
 exact ⟨e,by rw [<- e2,Qn];omega⟩
theorem Xdi{α:Type}{l:List α}{q:α->Bool}(h:(idxF l q == -1)=false) : ∃ k u,idxF l q=(k:Nat)/\l[k]? = some u/\q u=true/\((l.take k).all fun x=>!q x)=true:=by
 unfold idxF at h ⊢
 cases hf:l.findIdx? q with
 | none=>rw [hf] at h;simp at h
 | some k=>
  obtain ⟨h1,h2,h3⟩:=List.findIdx?_eq_some_iff_getElem.1 hf
  refine ⟨k,l[k],rfl,Qc h1,h2,?_⟩
  rw [W1]
  intro x hx;obtain ⟨t,ht⟩:=List.mem_iff_getElem?.1 hx
  rw [List.getElem?_take] at ht
  split at ht
  ·rename_i htk
   obtain ⟨h5,h6⟩:=Qg.1 ht
   have:=h3 t htk
   rw [<- h6]
   simpa using this
  ·cases ht
theorem X7l{α:Type}{l:List α}{q:α->Bool}(h:(idxF l q == -1)=true) : (l.filter fun x=>!q x)=l:=by
 rcases X4n l q with ⟨_,h2⟩|⟨k,x,h1,_⟩
 ·exact List.filter_eq_self.2 fun x hx=>by rw [h2 x hx];rfl
 ·rw [h1] at h;simp at h
theorem Xsw(E:World)(A:Option Addr)(c B0:Nat)(l:List Wr)(d:Own E B0 84 3 encWr A c l)(b9:B0<=E.heap.size)(kq:FuncId)(pq:List Value)(Fq:FuncF Tryz.prog kq)(q:Wr->Bool)(hq:∀ x w,E.grownBy w (Value.slice A l.length c).ownBlock->Ret Tryz.prog kq ([wrV x]++pq) w (fun v w'=>v=.bool (q x)/\Below w.heap.size w w'))(aP:l.length<=1000000000) : Ret Tryz.prog 222 [.slice A l.length c,.func (.func kq) #[] pq.toArray] E (fun v w=>v=.slice A (l.filter fun x=>!q x).length c/\Own w B0 84 3 encWr A c (l.filter fun x=>!q x)/\E.grownBy w (Value.slice A l.length c).ownBlock):=by
 have aE:=d.cap;refine enter Tryz.func222 rfl 42 rfl rfl ?_;intro a e
 have n:E.grownBy E (Value.slice A l.length c).ownBlock:=World.grownBy.refl _ _
 refine Zs e fun _ aQ=>?_;refine Za rfl<|Zx aQ fun a e _ aR=>?_;refine Zm rfl<|Zm rfl<|Zf (Vc (Xm0 _ A c l d.rd.top kq pq Fq q (fun x w' hE'=>hq x w' (gbel n hE')) aP) Xdo) ?_;rintro _ w1 ⟨rfl,D⟩;have d:=d.bw D;have n:=gbel n D;refine Za rfl<|ZX aR fun a e _ aS=>?_;refine Zs e fun _ aT=>?_;refine Zm rfl<|Ze (X0f rfl rfl)<|Zt aT fun a e=>?_
 refine Xf e rfl (fun y=>?_) (fun y=>?_)
 ·have aF:=y;have z:=X7l y;refine Zs e fun _ aU=>?_;refine Zm rfl<|Za rfl<|Zt aU fun a e=>?_;refine Q6<|X8<|X6 e (Xs e rfl rfl) ?_;exact ⟨by rw [z],by rw [z];exact d,n⟩
 have aF:=y;obtain ⟨k9,u0,aV,aG,aW,aX⟩:=Xdi y;have bA:=(Qg.1 aG).1;refine Q7<|aS _ _<|Q5 fun _ aY=>?_;refine Zs e fun _ aH=>?_;refine Zm rfl<|Ze (Xr rfl rfl (by omega) (by omega))<|Za rfl<|Zt aH fun a e=>?_;refine Q8 ?_
 rw [aV] at e
 refine X02 (σ:=Nat×Nat×(List Wr)) (fun (s:Nat×Nat×(List Wr)) (a:Act) (w:World)=>match s with|(i,j,m)=>Fr a 42 [(0,.slice A l.length c),(1,.func (.func kq) #[] pq.toArray),(5,vi (i:Int)),(6,vi (j:Int))]/\(Strk l q i j m)/\Own w B0 84 3 encWr A c m/\E.grownBy w (Value.slice A l.length c).ownBlock) (fun (s:Nat×Nat×(List Wr))=>match s with|(i,j,m)=>l.length-j) (k9,(k9+1),l) ?_ ?_
 ·exact ⟨e.sb,(Strk.init aX aG aW),d,n⟩
 rintro ⟨i,j,m⟩ a w2 ⟨e,hs,d,n⟩;refine Q5 fun _ aI=>?_;refine Zs e fun _ aJ=>?_;refine Zm rfl<|Zm rfl<|Ze (X07 rfl Xq)<|Ze (X0i rfl rfl)<|Zt aJ fun a e=>?_
 refine Xf e rfl (fun f=>?_) (fun f=>?_)
 ·have a6:=f;have f:=Q2 f
  obtain ⟨bB,b5⟩:=X4 (l:=l) (k:=j) (by omega)
  obtain ⟨o,a7⟩:=X4 (l:=l) (k:=j) (by have:=f;omega)
  have aZ:=hs.at a7;have b0:=hs.len;have b1:=hs.lt;have b2:=hs.jl;refine Q7<|aI _ _<|Q5 fun _ G=>?_;refine Q8<|Zs e fun _ aK=>?_;refine Zm rfl<|Zm rfl<|Zj (k:=j) (u:=o) (enc:=encWr) (l:=m) tv0 rfl (by omega) rfl Xq X09 Xu d.rd aZ (by omega) ?_;intro bC a8;refine Ze (X00 (l:=[vi o.a,vi o.b,.bool o.h]) rfl X15 a8 rfl)<|Zf (Xw (zs:=[vi 0,vi 0,.bool false]) X2k rfl) ?_;rintro _ w3 ⟨bD,rfl,H,D,g⟩;have aA:=Q0 n.size H;have B:=d.away H;have d:=d.bw D;have n:=gbel n D;refine Zo (Vw [vi o.a,vi o.b,.bool o.h] X09 g) ?_;rintro _ w4 ⟨ho,hb⟩;have b6:=g;have d:=d.onlyA ho B;have n:=gonly n ho aA;have g:=hb;refine Zx aK fun a e _ aL=>?_;refine Zm rfl<|Ze (Vn X15 g)<|Zf (X5x (cs:=pq) (vs:=[.agg #[vi o.a,vi o.b,.bool o.h]]) rfl rfl Fq (hq o _ n)) ?_;rintro _ w5 ⟨rfl,D⟩;have g:=g.bw D;have d:=d.bw D;have n:=gbel n D;refine Ze (X0z rfl)<|Zt aL fun a e=>?_
  refine Xf e rfl (fun p=>?_) (fun p=>?_)
  ·have aB:=p
   have aC:q o=false:=by have h8:=p;simpa using h8
   have aD:=hs.yes a7 aC;refine Zs e fun _ aM=>?_;refine Zm rfl<|Zm rfl<|Ze (Vn X15 g)<|Ze (Xp (k:=i) rfl rfl Xq X09 d (by omega) (by omega) (by omega))<|Zo (X0y (enc:=encWr) (l:=m) (vs:=[vi o.a,vi o.b,.bool o.h]) (x0:=(m.getD i wZ)) (u:=o) (k:=i) (j:=0) (n1:=3) rfl rfl X09 d Xu rfl rfl rfl rfl (by decide) (Xg (by omega)) rfl) ?_;rintro _ w6 ⟨t,hg⟩;have C:=d;have n:=gtr n hg
   clear C hg;clear d;have d:=t;clear t;refine Zt aM fun a e=>?_;refine Zr e<|Zm rfl<|Ze (Xr rfl rfl (by omega) (by omega))<|Za rfl ?_;refine Zn fun a e=>?_;refine Xb<|G _ _<|Zr e<|Zm rfl<|Ze (Xr rfl rfl (by omega) (by omega))<|Za rfl ?_;refine Zn fun a e=>?_;refine Xe ?_;exact ⟨(i+1,j+1,(m.set i o)),⟨e.sb,aD,d,n⟩,(by first|omega|(dsimp only;omega))⟩
  have aB:=p
  have aC:q o=true:=by have h8:=p;simpa using h8
  have aD:=hs.no a7 aC;refine Q7<|Xb<|G _ _<|Zr e ?_;refine Zm rfl<|Ze (Xr rfl rfl (by omega) (by omega))<|Za rfl ?_;refine Zn fun a e=>?_;refine Xe ?_;exact ⟨(i,j+1,m),⟨e.sb,aD,d,n⟩,(by first|omega|(dsimp only;omega))⟩
 have a6:=f;have f:=Q1 f
 obtain ⟨b3,b4⟩:=hs.fin (by have:=f;omega)
 have b0:=hs.len;have b1:=hs.lt;have b2:=hs.jl;refine Q9<|Xl<|Xl<|X01 ?_;refine aY _ _<|Zs e fun _ aN=>?_;refine Zm rfl<|Zm rfl ?_;have b7:=(d.rd.top).dropK Xu (c:=c) d.cap i;refine Ze (X3z (l:=l) (k:=i) rfl rfl Xq X09 (by omega) (by omega))<|Zo (Xat (enc:=encWr) (l:=m) (k:=i) (L:=(l.drop i).length) rfl Xq X2k d rfl rfl Xu (by decide) (by omega) (by rw [List.length_drop];omega)) ?_;rintro _ w7 ⟨t,hg⟩;have C:=d;have n:=gtr n hg
 clear C hg;clear d;have d:=t;clear t;refine Zx aN fun a e _ aO=>?_;refine Zm rfl<|Zm rfl ?_;have b8:=(d.rd.top).takeK Xu i;refine Ze (X2d (l:=l) (k:=i) rfl rfl Xq X09 (by omega) (by omega) aE)<|Za rfl<|Zt aO fun a e=>?_
 refine Q6 (X6 e (Xs e rfl rfl) ?_)
 exact ⟨by rw [b4],b3▸d,n⟩
theorem Xt3(g:World)(Al:Option Addr)(cl:Nat)(l:List Int)(aA:Rd g g.heap.size 3 encI Al l)(kq:FuncId)(pq:List Value)(Fq:FuncF Tryz.prog kq)(q:Int->Bool)(hq:∀ x w,Below g.heap.size g w->Ret Tryz.prog kq ([vi x]++pq) w (fun v w'=>v=.bool (q x)/\Below w.heap.size w w'))(aN:l.length<=1000000000) : Ret Tryz.prog 289 [.slice Al l.length cl,.func (.func kq) #[] pq.toArray] g (fun v w=>v=vi (idxF l q)/\Below g.heap.size g w):=by
 refine enter Tryz.func289 rfl 19 rfl rfl ?_;intro a b
 have i:=bz g
 refine Zs b fun _ aG=>?_;refine Za rfl<|ZX aG fun a b _ aH=>?_;refine Zs b fun _ aI=>?_;refine Zm rfl<|Ze (X07 rfl Xk)<|Zm rfl<|Zt aI fun a b=>?_;refine Q8<|X02 (σ:=Nat) (fun (k:Nat) (a:Act) (w:World)=>Fr a 19 [(0,.slice Al l.length cl),(1,.func (.func kq) #[] pq.toArray),(7,vi (l.length:Int)),(8,vi (k:Int))]/\(k<=l.length)/\(((l.take k).all fun x=>!q x)=true)/\Below g.heap.size g w) (fun (k:Nat)=>l.length-k) 0 ?_ ?_
 ·exact ⟨b.sb,(Qf _),rfl,i⟩
 rintro k a w1 ⟨b,hk,e,i⟩;refine Zs b fun _ aJ=>?_;refine Ze (X0i rfl rfl)<|ZX aJ fun a b _ aK=>?_
 refine Xf b rfl (fun c=>?_) (fun c=>?_)
 ·have aB:=c;have c:=Q2 c
  obtain ⟨u8,aO⟩:=X4 (l:=l) (k:=k) (by omega)
  obtain ⟨u9,a6⟩:=X4 (l:=l) (k:=k) (by have:=c;omega)
  refine Q7<|aK _ _<|Q5 fun _ aL=>?_;refine Q8<|Zs b fun _ aC=>?_;refine Zm rfl<|Za rfl<|Zx aC fun a b _ aD=>?_;refine Zm rfl<|Zm rfl<|Zm rfl<|Zi (k:=k) (u:=u9) (enc:=encI) (l:=l) tv0 rfl rfl Xk X0a Xh (aA.bx i) a6 rfl ?_;intro aP a7;refine Ze (X0 rfl Xa a7)<|Zf (X5x (cs:=pq) (vs:=[vi u9]) rfl rfl Fq (hq u9 _ i)) ?_;rintro _ w2 ⟨rfl,hE⟩;have i:=btr i hE;refine Zt aD fun a b=>?_
  refine Xf b rfl (fun d=>?_) (fun d=>?_)
  ·have a8:=d
   have f:idxF l q=(k:Int):=X6o e a6 d
   refine Zs b fun _ aE=>?_;refine Zm rfl<|Za rfl<|Zt aE fun a b=>?_;refine Q6<|Xx<|X8<|X8 ?_;refine Xx<|X8<|X6 b (Xs b rfl rfl) ?_;exact ⟨by rw [f],i⟩
  have a8:=d;have aM:=X5c e a6 d;refine Q7<|Xb<|aL _ _<|Zr b ?_;refine Ze (Xr rfl rfl (by omega) (by omega))<|Zm rfl ?_;refine Zn fun a b=>?_;refine Xe ?_;exact ⟨k+1,⟨b.sb,(by omega),aM,i⟩,(by omega)⟩
 have aB:=c;have c:=Q1 c
 have f:idxF l q = -1:=X72 e (by have:=c;omega)
 refine Q9<|Xl<|Xl<|X01 ?_;refine aH _ _<|Zs b fun _ aF=>?_;refine Za rfl<|Zt aF fun a b=>?_
 refine Q6 (X6 b (Xs b rfl rfl) ?_)
 exact ⟨by rw [f],i⟩
theorem Xqa(y:World)(A:Option Addr)(c B0:Nat)(l:List Int)(b:Own y B0 3 1 encI A c l)(b7:B0<=y.heap.size)(kq:FuncId)(pq:List Value)(Fq:FuncF Tryz.prog kq)(q:Int->Bool)(hq:∀ x w,y.grownBy w (Value.slice A l.length c).ownBlock->Ret Tryz.prog kq ([vi x]++pq) w (fun v w'=>v=.bool (q x)/\Below w.heap.size w w'))(aO:l.length<=1000000000) : Ret Tryz.prog 263 [.slice A l.length c,.func (.func kq) #[] pq.toArray] y (fun v w=>v=.slice A (l.filter fun x=>!q x).length c/\Own w B0 3 1 encI A c (l.filter fun x=>!q x)/\y.grownBy w (Value.slice A l.length c).ownBlock):=by
 have aD:=b.cap;refine enter Tryz.func263 rfl 42 rfl rfl ?_;intro a d
 have n:y.grownBy y (Value.slice A l.length c).ownBlock:=World.grownBy.refl _ _
 refine Zs d fun _ aP=>?_;refine Za rfl<|Zx aP fun a d _ aQ=>?_;refine Zm rfl<|Zm rfl<|Zf (Vc (Xt3 _ A c l b.rd.top kq pq Fq q (fun x w' hE'=>hq x w' (gbel n hE')) aO) Xfd) ?_;rintro _ w1 ⟨rfl,hE⟩;have b:=b.bw hE;have n:=gbel n hE;refine Za rfl<|ZX aQ fun a d _ aR=>?_;refine Zs d fun _ aS=>?_;refine Zm rfl<|Ze (X0f rfl rfl)<|Zt aS fun a d=>?_
 refine Xf d rfl (fun o=>?_) (fun o=>?_)
 ·have aE:=o;have p:=X7l o;refine Zs d fun _ aT=>?_;refine Zm rfl<|Za rfl<|Zt aT fun a d=>?_;refine Q6<|X8<|X6 d (Xs d rfl rfl) ?_;exact ⟨by rw [p],by rw [p];exact b,n⟩
 have aE:=o;obtain ⟨k9,u0,aU,aF,aV,aW⟩:=Xdi o;have b8:=(Qg.1 aF).1;refine Q7<|aR _ _<|Q5 fun _ aX=>?_;refine Zs d fun _ aG=>?_;refine Zm rfl<|Ze (Xr rfl rfl (by omega) (by omega))<|Za rfl<|Zt aG fun a d=>?_;refine Q8 ?_
 rw [aU] at d
 refine X02 (σ:=Nat×Nat×(List Int)) (fun (s:Nat×Nat×(List Int)) (a:Act) (w:World)=>match s with|(i,j,m)=>Fr a 42 [(0,.slice A l.length c),(1,.func (.func kq) #[] pq.toArray),(5,vi (i:Int)),(6,vi (j:Int))]/\(Strk l q i j m)/\Own w B0 3 1 encI A c m/\y.grownBy w (Value.slice A l.length c).ownBlock) (fun (s:Nat×Nat×(List Int))=>match s with|(i,j,m)=>l.length-j) (k9,(k9+1),l) ?_ ?_
 ·exact ⟨d.sb,(Strk.init aW aF aV),b,n⟩
 rintro ⟨i,j,m⟩ a w2 ⟨d,hs,b,n⟩;refine Q5 fun _ aH=>?_;refine Zs d fun _ aI=>?_;refine Zm rfl<|Zm rfl<|Ze (X07 rfl Xk)<|Ze (X0i rfl rfl)<|Zt aI fun a d=>?_
 refine Xf d rfl (fun e=>?_) (fun e=>?_)
 ·have a6:=e;have e:=Q2 e
  obtain ⟨b9,b4⟩:=X4 (l:=l) (k:=j) (by omega)
  obtain ⟨z,a7⟩:=X4 (l:=l) (k:=j) (by have:=e;omega)
  have aY:=hs.at a7;have aZ:=hs.len;have b0:=hs.lt;have b1:=hs.jl;refine Q7<|aH _ _<|Q5 fun _ h=>?_;refine Q8<|Zs d fun _ aJ=>?_;refine Zm rfl<|Zm rfl<|Zj (k:=j) (u:=z) (enc:=encI) (l:=m) tv0 rfl (by omega) rfl Xk X0a Xh b.rd aY (by omega) ?_;intro bA a8;refine Ze (X0 rfl Xa a8)<|Za rfl<|Zx aJ fun a d _ aK=>?_;refine Zm rfl<|Zm rfl<|Zf (X5x (cs:=pq) (vs:=[vi z]) rfl rfl Fq (hq z _ n)) ?_;rintro _ w3 ⟨rfl,hE⟩;have b:=b.bw hE;have n:=gbel n hE;refine Ze (X0z rfl)<|Zt aK fun a d=>?_
  refine Xf d rfl (fun f=>?_) (fun f=>?_)
  ·have aA:=f
   have aB:q z=false:=by have h8:=f;simpa using h8
   have aC:=hs.yes a7 aB;refine Zs d fun _ aL=>?_;refine Zm rfl<|Zm rfl<|Zm rfl<|Ze (Xp (k:=i) rfl rfl Xk X0a b (by omega) (by omega) (by omega))<|Zo (X0y (enc:=encI) (l:=m) (vs:=[vi z]) (x0:=(m.getD i 0)) (u:=z) (k:=i) (j:=0) (n1:=1) rfl rfl X0a b Xh rfl rfl rfl rfl (by decide) (Xg (by omega)) rfl) ?_;rintro _ w4 ⟨g,hg⟩;have t:=b;have n:=gtr n hg
   clear t hg;clear b;have b:=g;clear g;refine Zt aL fun a d=>?_;refine Zr d<|Zm rfl<|Ze (Xr rfl rfl (by omega) (by omega))<|Za rfl ?_;refine Zn fun a d=>?_;refine Xb<|h _ _<|Zr d<|Zm rfl<|Ze (Xr rfl rfl (by omega) (by omega))<|Za rfl ?_;refine Zn fun a d=>?_;refine Xe ?_;exact ⟨(i+1,j+1,(m.set i z)),⟨d.sb,aC,b,n⟩,(by first|omega|(dsimp only;omega))⟩
  have aA:=f
  have aB:q z=true:=by have h8:=f;simpa using h8
  have aC:=hs.no a7 aB;refine Q7<|Xb<|h _ _<|Zr d ?_;refine Zm rfl<|Ze (Xr rfl rfl (by omega) (by omega))<|Za rfl ?_;refine Zn fun a d=>?_;refine Xe ?_;exact ⟨(i,j+1,m),⟨d.sb,aC,b,n⟩,(by first|omega|(dsimp only;omega))⟩
 have a6:=e;have e:=Q1 e
 obtain ⟨b2,b3⟩:=hs.fin (by have:=e;omega)
 have aZ:=hs.len;have b0:=hs.lt;have b1:=hs.jl;refine Q9<|Xl<|Xl<|X01 ?_;refine aX _ _<|Zs d fun _ aM=>?_;refine Zm rfl<|Zm rfl ?_;have b5:=(b.rd.top).dropK Xh (c:=c) b.cap i;refine Ze (X3z (l:=l) (k:=i) rfl rfl Xk X0a (by omega) (by omega))<|Zo (Xat (enc:=encI) (l:=m) (k:=i) (L:=(l.drop i).length) rfl Xk z_3 b rfl rfl Xh (by decide) (by omega) (by rw [List.length_drop];omega)) ?_;rintro _ w5 ⟨g,hg⟩;have t:=b;have n:=gtr n hg
 clear t hg;clear b;have b:=g;clear g;refine Zx aM fun a d _ aN=>?_;refine Zm rfl<|Zm rfl ?_;have b6:=(b.rd.top).takeK Xh i;refine Ze (X2d (l:=l) (k:=i) rfl rfl Xk X0a (by omega) (by omega) aD)<|Za rfl<|Zt aN fun a d=>?_
 refine Q6 (X6 d (Xs d rfl rfl) ?_)
 exact ⟨by rw [b3],b2▸b,n⟩
theorem Xqy(w0:World)(A:Option Addr)(c B0:Nat)(l:List Wr)(d:Own w0 B0 84 3 encWr A c l)(aJ:B0<=w0.heap.size)(p:Int)(hp:0<=p/\p<(l.length:Int))(aK:l.length<=1000000000) : Ret Tryz.prog 177 [.slice A l.length c,vi p,vi (p+1)] w0 (fun v w=>v=.slice A (ctW l p.toNat).length c/\Own w B0 84 3 encWr A c (ctW l p.toNat)/\w0.grownBy w (Value.slice A l.length c).ownBlock):=by
 have n:=d.cap
 have a6:=Xpl (l:=l) (i:=p.toNat) (by omega)
 have aC:l.take p.toNat++l.drop (p.toNat+1)=ctW l p.toNat:=rfl
 have aL:(l.take p.toNat++l.drop (p.toNat+1)).length+1=l.length:=a6
 have aM:=Qn (i:=p.toNat) (l:=l);have aN:=List.length_drop (i:=p.toNat+1) (l:=l);refine enter Tryz.func177 rfl 33 rfl rfl ?_;intro a e
 have hW:w0.grownBy w0 (Value.slice A l.length c).ownBlock:=World.grownBy.refl _ _
 refine Zs e fun _ aD=>?_;refine Za rfl<|Zx aD fun a e _ aE=>?_;refine Zm rfl<|Zm rfl<|Zm rfl<|Zm rfl<|Ze (X07 rfl Xq)<|Ze (Xjb (k:=p.toNat) (m:=(p.toNat+1)) (r:=l.length) rfl rfl rfl rfl Xq X09 (by omega) (by omega) rfl (by omega) (by omega) n)<|ZX aE fun a e _ aF=>?_;refine Zs e fun _ aG=>?_;refine Zm rfl<|Zm rfl<|Ze (X0f rfl rfl)<|Zt aG fun a e=>?_
 refine Xf e rfl (fun g=>?_) (fun g=>?_)
 ·have a7:=g;exact absurd (beq_iff_eq.1 g) (by omega)
 have a7:=g;refine Q7<|aF _ _<|Zs e fun _ aH=>?_;refine Zm rfl<|Ze (X07 rfl Xq)<|Za rfl<|ZX aH fun a e _ aI=>?_;refine Xz none (fun j=>[6,6].contains j) mixed ?_;intro w1 hE;have d:=d.bw hE;have hW:=gbel hW hE;refine Yb e<|Yo 0 rfl (fun _=>X3 rfl)<|Yo 1 rfl (fun _=>X3 rfl) ?_
 have o:=d.takeK Xu (k:=p.toNat) (by omega)
 refine Yo 2 rfl (fun _=>X2d (l:=l) (k:=p.toNat) rfl rfl Xq X09 (by omega) (by omega) d.cap)<|Yo 3 rfl (fun _=>X3 rfl)<|Yo 4 rfl (fun _=>X3 rfl) ?_;have a8:=(d.rd.top).dropK Xu (c:=c) d.cap (p.toNat+1);refine Yo 5 rfl (fun _=>X3z (l:=l) (k:=(p.toNat+1)) rfl rfl Xq X09 (by omega) (by omega))<|Y1 6 ?_;refine Yt rfl tv0 rfl (Xeb (enc:=encWr) (l:=((l.take p.toNat))) (l2:=((l.drop (p.toNat+1)))) rfl rfl Xq X09 Xu X1e o a8 (by omega)) ?_;rintro _ w2 ⟨rfl,b,hg⟩;have f:=o;have hW:=gtr hW hg;clear f hg;refine Yo 7 rfl (fun _=>X0h rfl) ?_;refine Yd fun a e=>?_;refine aI _ _<|Zs e fun _ aA=>?_;refine Zm rfl<|Zm rfl<|Ze (X07 rfl Xq)<|Zm rfl<|Ze (Xim (k:=(l.take p.toNat++l.drop (p.toNat+1)).length) (m:=l.length) rfl rfl rfl Xq X09 rfl rfl (by omega) n)<|Zo (Xat (enc:=encWr) (l:=((l.take p.toNat)++(l.drop (p.toNat+1)))) (k:=(l.take p.toNat++l.drop (p.toNat+1)).length) (L:=(l.length-(l.take p.toNat++l.drop (p.toNat+1)).length)) rfl Xq X2k b rfl rfl Xu (by decide) (Qb _) (by omega)) ?_;rintro _ w3 ⟨q,hg⟩;have f:=b;have hW:=gtr hW hg
 clear f hg;clear b;have b:=q;clear q;refine Zx aA fun a e _ aB=>?_;refine Zm rfl<|Za rfl<|Zt aB fun a e=>?_
 refine Q6 (X6 e (Xs e rfl rfl) ?_)
 exact ⟨rfl,by rw [<- aC];exact (List.take_length (l:=l.take p.toNat++l.drop (p.toNat+1)))▸b,hW⟩
end Go.Proofs.YtipiejccbmifnaaGreatDoor
namespace Go.Proofs.YtipiejccbmifnaaGreatDoor
open Go.RowKit Go.Sort Go.Shelf Go.Lib
def sortWr_ren:Go.Shelf.Ren:=⟨fun|6=>127|15=>179|14=>178|28=>233|29=>234|20=>225|21=>226|22=>227|23=>228|24=>229|25=>230|26=>231|27=>232|46=>277|47=>278|48=>279|49=>280|50=>281|57=>293|n=>n,fun|22=>29|24=>84|25=>147|3=>3|39=>99|0=>0|53=>248|55=>62|4=>4|46=>242|45=>241|50=>108|5=>5|9=>9|66=>273|70=>277|76=>293|77=>294|n=>n,fun|n=>n⟩
theorem Xh0:SlLaysF0.n6 Tryz.prog sortWr_ren:={
 mixed:=by kernel_rfl
 f6:=⟨Tryz.f127.name,by decide,Tryz.func127.trans (congrArg some (by kernel_rfl))⟩
 f14:=⟨Tryz.f178.name,by decide,Tryz.func178.trans (congrArg some (by kernel_rfl))⟩
 f15:=Tryz.func179.trans (congrArg some (by kernel_rfl))
 f20:=⟨Tryz.f225.name,by decide,Tryz.func225.trans (congrArg some (by kernel_rfl))⟩
 f21:=⟨Tryz.f226.name,by decide,Tryz.func226.trans (congrArg some (by kernel_rfl))⟩
 f22:=⟨Tryz.f227.name,by decide,Tryz.func227.trans (congrArg some (by kernel_rfl))⟩
 f23:=⟨Tryz.f228.name,by decide,Tryz.func228.trans (congrArg some (by kernel_rfl))⟩
 f24:=⟨Tryz.f229.name,by decide,Tryz.func229.trans (congrArg some (by kernel_rfl))⟩
 f25:=⟨Tryz.f230.name,by decide,Tryz.func230.trans (congrArg some (by kernel_rfl))⟩
 f26:=⟨Tryz.f231.name,by decide,Tryz.func231.trans (congrArg some (by kernel_rfl))⟩
 f27:=⟨Tryz.f232.name,by decide,Tryz.func232.trans (congrArg some (by kernel_rfl))⟩
 f28:=Tryz.func233.trans (congrArg some (by kernel_rfl))
 f29:=Tryz.func234.trans (congrArg some (by kernel_rfl))
 f46:=⟨Tryz.f277.name,by decide,Tryz.func277.trans (congrArg some (by kernel_rfl))⟩
 f47:=Tryz.func278.trans (congrArg some (by kernel_rfl))
 f48:=Tryz.func279.trans (congrArg some (by kernel_rfl))
 f49:=⟨Tryz.f280.name,by decide,Tryz.func280.trans (congrArg some (by kernel_rfl))⟩
 f50:=⟨Tryz.f281.name,by decide,Tryz.func281.trans (congrArg some (by kernel_rfl))⟩
 f57:=⟨Tryz.f293.name,by decide,Tryz.func293.trans (congrArg some (by kernel_rfl))⟩
 t0:=Tryz.underlying0
 a0:=Tryz.isAgg0
 z0:=Tryz.sizeOf0
 v0:=Tryz.zeroValue0
 t3:=Tryz.underlying3
 a3:=Tryz.isAgg3
 z3:=Tryz.sizeOf3
 v3:=Tryz.zeroValue3
 t4:=Tryz.underlying4
 a4:=Tryz.isAgg4
 z4:=Tryz.sizeOf4
 v4:=Tryz.zeroValue4
 t5:=Tryz.underlying5
 a5:=Tryz.isAgg5
 z5:=Tryz.sizeOf5
 v5:=Tryz.zeroValue5
 t9:=Tryz.underlying9
 a9:=Tryz.isAgg9
 z9:=Tryz.sizeOf9
 v9:=Tryz.zeroValue9
 t22:=Tryz.underlying29
 a22:=Tryz.isAgg29
 z22:=Tryz.sizeOf29
 v22:=Tryz.zeroValue29
 t25:=Tryz.underlying147
 a25:=Tryz.isAgg147
 z25:=Tryz.sizeOf147
 v25:=Tryz.zeroValue147
 t39:=Tryz.underlying99
 a39:=Tryz.isAgg99
 z39:=Tryz.sizeOf99
 v39:=Tryz.zeroValue99
 t45:=Tryz.underlying241
 a45:=Tryz.isAgg241
 z45:=Tryz.sizeOf241
 v45:=Tryz.zeroValue241
 t46:=Tryz.underlying242
 a46:=Tryz.isAgg242
 z46:=Tryz.sizeOf242
 v46:=Tryz.zeroValue242
 t50:=Tryz.underlying108
 a50:=Tryz.isAgg108
 z50:=Tryz.sizeOf108
 v50:=Tryz.zeroValue108
 t53:=Tryz.underlying248
 a53:=Tryz.isAgg248
 z53:=Tryz.sizeOf248
 v53:=Tryz.zeroValue248
 t55:=Tryz.underlying62
 a55:=Tryz.isAgg62
 z55:=Tryz.sizeOf62
 v55:=Tryz.zeroValue62
 t66:=Tryz.underlying273
 a66:=Tryz.isAgg273
 z66:=Tryz.sizeOf273
 v66:=Tryz.zeroValue273
 t70:=Tryz.underlying277
 a70:=Tryz.isAgg277
 z70:=Tryz.sizeOf277
 v70:=Tryz.zeroValue277
 t76:=Tryz.underlying293
 a76:=Tryz.isAgg293
 z76:=Tryz.sizeOf293
 v76:=Tryz.zeroValue293
 t77:=Tryz.underlying294
 a77:=Tryz.isAgg294
 z77:=Tryz.sizeOf294
 v77:=Tryz.zeroValue294 }
section
variable {P : Program} {a : Act} {w : World} {n : Nat} {e : Env} {ty : TypeId} {pos : String} {af : Array Edge} {g : Option (Nat × Bool)} {d : Option Tmp}
theorem Xkm{T:TypeId}{x:Operand}{v:Value}{zs:List Value}(hf:Fr a n e)(hx:ev e x=some v)(hzs:v.cells.toList=zs) : Ef P ⟨d,.box T x,ty,pos,af,g⟩ a w (fun v w'=>∃ b,v=.pointer (some ⟨b,0,none⟩)/\w.heap.size<=b/\Below w.heap.size w w'/\Blk w' b T zs/\w'.drawn=w.drawn):=by
 subst hzs
 have h:(execOp a.eval ⟨d,.box T x,ty,pos,af,g⟩).run P w=.ok (.value (.pointer (some ⟨w.heap.size,0,none⟩))) (w.alloc (.cells v.cells T)):=by
  simp [execOp,Instr.box,X4m,hf.ev hx]
 refine (Ef.of_run h).mono fun v' w' ⟨e1,e2⟩=>?_
 subst e1;subst e2
 have h9:=X2c w T v.cells.toList;exact ⟨_,rfl,Qb _,(Below.refl _ _).alloc (Qb _) _,by simpa using h9,rfl⟩
theorem Xms{T:TypeId}{x:Operand}{v:Value}{zs:List Value}(hx:ev e x=some v)(hzs:v.cells.toList=zs) : EfW P ⟨d,.box T x,ty,pos,af,g⟩ n e w (fun v w'=>∃ b,v=.pointer (some ⟨b,0,none⟩)/\w.heap.size<=b/\Below w.heap.size w w'/\Blk w' b T zs/\w'.drawn=w.drawn):=fun a hf=>Xkm hf hx hzs
theorem X74{T E sz bytes:Nat}{k:Nat}{parts:List (Nat×Operand)}{vs zs:List Value}(hf:Fr a n e)(hp:evp e parts=some (numb 0 vs))(hT:SliceT P T E)(hi:InfoT P E sz bytes)(hv:(vs.all (fun v=>Nat.beq v.cells.size sz)&&Nat.beq vs.length k&&Nat.ble (k*sz) 1000)=true)(hz:vs.flatMap (fun v=>v.cells.toList)=zs) :
  Ef P ⟨d,.buildSlice T k parts.toArray,ty,pos,af,g⟩ a w (fun v w'=>∃ b,v=.slice (some ⟨b,0,none⟩) k k/\w.heap.size<=b/\Below w.heap.size w w'/\Blk w' b E zs/\w'.drawn=w.drawn):=by
 subst hz
 obtain ⟨i,z,hi1,hi2,hi3,hi4,hi5,hi6⟩:=hi
 simp only [Qd,W1] at hv
 obtain ⟨⟨hv1,hv2⟩,hv3⟩:=hv
 have hk:vs.length=k:=Nat.eq_of_beq_eq_true hv2
 have hk3:k*sz<=1000:=Nat.le_of_ble_eq_true hv3
 have h1:=hf.evp hp
 have hfill:=X5l sz vs 0 ((Array.range (k*sz)).map fun j=>z.cells[j % z.cells.size]!) (fun v hv=>Nat.eq_of_beq_eq_true (hv1 v hv)) (by simp [hk])
 simp only [Nat.zero_mul,List.take_zero,List.nil_append] at hfill
 refine (Ef.of_run (v:=.slice (some ⟨w.heap.size,0,none⟩) k k) (w':=w.alloc (.cells (vs.flatMap fun v=>v.cells.toList).toArray E)) ?_).mono fun v w' ⟨e1,e2⟩=>?_
 ·simp only [execOp,List.map_toArray]
  rw [show (List.map (fun x:Nat×Operand=>match x with|(i,x)=>(i,a.eval x)) parts)=numb 0 vs from h1]
  have h24:¬ (16777216<k*sz):=by omega
  by_cases h0:k*sz=0
  ·have hf0:Instr.fill (fun i=>some (i*sz,sz)) #[] (numb 0 vs)=some (vs.flatMap fun v=>v.cells.toList).toArray:=by
    rw [<- hfill,h0]
    congr 1
    simp [Array.range_zero']
   simp [Instr.buildSlice,X0c hT,sizeOf,typeInfo,hi1,hi3,h0,newRow,newObj,Sem.run,Array.range_zero',hf0]
  ·simp [Instr.buildSlice,X0c hT,sizeOf,typeInfo,hi1,hi3,h24,h0,zeroValue,hi2,newRow,newObj,Sem.run,hfill]
 ·subst e1;subst e2
  exact ⟨_,rfl,Qb _,(Below.refl _ _).alloc (Qb _) _,X2c w E _,rfl⟩
theorem X9b{T E sz bytes:Nat}{k:Nat}{parts:List (Nat×Operand)}{vs zs:List Value}(hp:evp e parts=some (numb 0 vs))(hT:SliceT P T E)(hi:InfoT P E sz bytes)(hv:(vs.all (fun v=>Nat.beq v.cells.size sz)&&Nat.beq vs.length k&&Nat.ble (k*sz) 1000)=true)(hz:vs.flatMap (fun v=>v.cells.toList)=zs) : EfW P ⟨d,.buildSlice T k parts.toArray,ty,pos,af,g⟩ n e w (fun v w'=>∃ b,v=.slice (some ⟨b,0,none⟩) k k/\w.heap.size<=b/\Below w.heap.size w w'/\Blk w' b E zs/\w'.drawn=w.drawn):=fun a hf=>X74 hf hp hT hi hv hz
theorem Xfl(V:Option Vk)(tl:Nat->Bool){id:Nat}{l:List Oper}{Q':Exit->Act->World->Prop}(hm:P.follows .mixedOrders=true)
  (h:∀ w',Below w.heap.size w w'->w.drawn<=w'.drawn->wpS P l.toArray V tl (Q' .normal) l.length (mask l.toArray []) a w') : (Code.region id l.toArray true).wp P Q' a w:=by
 refine wp_region_any hm ?_
 rw [Xag]
 exact X26 (fun _ _ h=>h) _ _ _ _ (by simpa using h w.drew (Below.refl _ _).drew (Nat.le_succ _))
end
theorem Xof(w0:World)(x:Wr)(y:Wr) : Ret Tryz.prog 93 [.agg #[vi x.a,vi x.b,.bool x.h],.agg #[vi y.a,vi y.b,.bool y.h]] w0 (fun v w=>v=vi (cmW x y)/\Below w0.heap.size w0 w/\w0.drawn<=w.drawn):=by
 refine enter Tryz.func93 rfl 17 rfl rfl ?_;intro a hf
 have hW:Below w0.heap.size w0 w0:=Below.refl _ _
 have hDr:w0.drawn<=w0.drawn:=Qb _
 refine Zs hf fun _ hK1=>?_;refine Zf (Xms (zs:=[vi x.a,vi x.b,.bool x.h]) rfl rfl) ?_;rintro _ w1 ⟨b2,rfl,hl2,hE,hB2,hd⟩;replace hDr:=Q0 hDr (Nat.le_of_eq hd.symm);clear hd;have hlo2:=Q0 hW.size hl2;replace hW:=btr hW hE;clear hE;refine Zf (Xms (zs:=[vi y.a,vi y.b,.bool y.h]) rfl rfl) ?_;rintro _ w2 ⟨b3,rfl,hl3,hE,hB3,hd⟩;replace hDr:=Q0 hDr (Nat.le_of_eq hd.symm);clear hd
 have hne2_3:b2≠b3:=by have:=hB2.lt;omega
 have hlo3:=Q0 hW.size hl3;replace hB2:=hB2.bw hE;replace hW:=btr hW hE;clear hE;refine Za rfl ?_;refine Zt hK1 fun a hf=>?_;refine Q5 fun _ hK4=>?_;refine Xfl none (fun _=>false) mixed ?_;intro w3 hE hd;replace hDr:=Q0 hDr hd;clear hd;replace hB2:=hB2.bw hE;replace hB3:=hB3.bw hE;replace hW:=btr hW hE;clear hE;refine Yb hf ?_;refine Yo 0 rfl (fun _=>Vd rfl X0m 0) ?_;refine Ye 1 rfl (X0 rfl Xa (hB2.at 0)) ?_;refine Yo 2 rfl (fun _=>Vd rfl X0m 0) ?_;refine Ye 3 rfl (X0 rfl Xa (hB3.at 0)) ?_;refine Yo 5 rfl (fun _=>Vd rfl X0o 1) ?_;refine Ye 6 rfl (X0 rfl Xa (hB2.at 1)) ?_;refine Yo 7 rfl (fun _=>Vd rfl X0o 1) ?_;refine Ye 8 rfl (X0 rfl Xa (hB3.at 1)) ?_;refine Y1 4 ?_;refine Yz rfl trivial (Vc (Xcx _ x.a y.a) X63) ?_;refine Y1 9 ?_;refine Yz rfl trivial (Vc (Xcx _ x.b y.b) X63) ?_;refine Y1 10 ?_;refine Yk rfl trivial (X9b (k:=2) (vs:=[vi (cmI x.a y.a),vi (cmI x.b y.b)]) (zs:=[vi (cmI x.a y.a),vi (cmI x.b y.b)]) rfl Xk X1f rfl rfl) (fun _ _ ⟨_,_,_,h,_⟩=>h) ?_;rintro _ w4 ⟨b5,rfl,hl5,hE,hB5,hd⟩;replace hDr:=Q0 hDr (Nat.le_of_eq hd.symm);clear hd;have hlo5:=Q0 hW.size hl5;replace hB2:=hB2.bw hE;replace hB3:=hB3.bw hE;replace hW:=btr hW hE;clear hE;refine Y1 11 ?_;refine Yz rfl trivial (Vc (Xm3 _ (some ⟨b5,0,none⟩) 2 ([cmI x.a y.a,cmI x.b y.b]) (Rd.of_blk hB5 rfl _ hB5.lt) (by simp)) Xc4) ?_;refine Yo 12 rfl (fun _=>X0h rfl) ?_;refine Yd fun a hf=>?_;refine hK4 _ _ ?_;refine Q6 ?_;refine X6 hf (Xs hf rfl rfl) ?_;exact ⟨by rw [Xln],hW,hDr⟩
theorem Xb8{w w':World}(h:Below w.heap.size w w')(hd:w.drawn<=w'.drawn) : ∃ q os',w'=grow (w.drewN q) os':=by
 refine ⟨w'.drawn-w.drawn,(w'.heap.extract w.heap.size w'.heap.size),?_⟩
 have h1:w.heap++w'.heap.extract w.heap.size w'.heap.size=w'.heap:=by
  apply Array.ext_getElem?
  intro k
  rw [Array.getElem?_append]
  split
  ·rename_i hk
   exact (h.block k hk).symm
  ·rename_i hk
   rw [Array.getElem?_extract]
   have:=h.size
   by_cases h9:k<w'.heap.size
   ·rw [Q4 (by omega)]
    congr 1
    omega
   ·rw [Q3 (by omega),We (by omega)]
 cases w' with
 | mk hp tp dr os out=>
  unfold grow World.drewN
  have e1:=h.os
  have e2:=h.tape
  have e3:=h.output
  dsimp only at e1 e2 e3 h1 hd ⊢
  rw [h1,e1,e2,e3]
  congr 1
  omega
theorem Xpw(x y:Wr)(W:World) : Calls Tryz.prog 93 #[.agg #[.int .i64 x.a,.int .i64 x.b,.bool x.h],.agg #[.int .i64 y.a,.int .i64 y.b,.bool y.h]] W fun e w'=>e=.returned (.int .i64 (cmW x y))/\∃ q os',w'=grow (W.drewN q) os':=
 Calls.mono (Xof W x y) fun e w ⟨v,h1,h2,h3,h4⟩=>⟨by rw [h1,h2],Xb8 h3 h4⟩
instance:Inhabited Wr:=⟨wZ⟩
theorem Xgz(x y:Wr) : decide (cmW x y<0)=wlt x y:=by
 unfold cmW cmI wlt
 apply Bool.eq_iff_iff.2
 simp only [Qr,Bool.or_eq_true,Qd,beq_iff_eq]
 by_cases h1:x.a<y.a
 ·simp [h1]
 by_cases h2:y.a<x.a
 ·have:¬ x.a=y.a:=by omega
  simp [h1,h2,this]
 have h3:x.a=y.a:=by omega
 by_cases h4:x.b<y.b
 ·simp [h3,h4]
 by_cases h5:y.b<x.b
 ·simp [h3,h4,h5]
 ·simp [h3,h4,h5]
theorem ltW(x y:Wr) : ltOf cmW x y=wlt x y:=by
 unfold ltOf
 exact Xgz x y
theorem Xuk:SWO (ltOf cmW) where
 irrefl x:=by rw [ltW,X5p];omega
 trans x y z h1 h2:=by rw [ltW] at *;exact Xar h1 h2
 ntrans x y z h1 h2:=by rw [ltW,X5p] at *;omega
theorem Xg1(blk off size:Nat)(w:World) : CmpLays Tryz.prog 93 #[] encWr 3 cmW blk off size w:=fun _ _ _ _ x y=>Xpw x y _
theorem Xtp(w0:World)(B0:Nat)(A:Option Addr)(c:Nat)(l:List Wr)(ho:Own w0 B0 84 3 encWr A c l)(hl:l.length<=100000000) :
  Ret Tryz.prog 127 [.slice A l.length c,.func (.func 93) #[] #[]] w0 (fun v w=>v=.tuple #[]/\(∃ l',l'.Perm l/\(l'.Pairwise fun x y=>wlt y x=false)/\Own w B0 84 3 encWr A c l')/\w0.grownBy w (Value.slice A l.length c).ownBlock):=by
 by_cases h0:l=[]
 ·subst h0
  refine Calls.mono (AnyF.slices_SortFunc_none Xh0 A c _ w0) fun e w ⟨e1,e2⟩=>⟨_,e1,?_⟩
  subst e2
  exact ⟨rfl,⟨[],List.Perm.refl _,List.Pairwise.nil,ho⟩,World.grownBy.refl w _⟩
 ·rcases ho.2 with ⟨h1,h2⟩|⟨g,cap,cur,h1,h2,h3,h4,h5,h6,h7⟩
  ·exact absurd (List.eq_nil_of_length_eq_zero h2) h0
  ·injection h1 with h1 _ h1''
   subst h1;subst h1''
   have hfl:(flatK encWr 3 l.toArray).toList=l.flatMap encWr:=X70 Xu l
   have hfs:(flatK encWr 3 l.toArray).size=l.length*3:=by simp
   have hH:HoldsK encWr 3 w0 g 0 l.toArray:=Xnd h3 (by rw [hfs,hfl];exact h7)
   have eg:Enters Tryz.prog 93:=enters_of Tryz.func93 (by kernel_rfl) rfl
   have hcon:=AnyQ.slices_SortFunc Xh0 3 Tryz.isAgg84 Tryz.sizeOf84 encWr Xu (fun x v hv=>by simp [encWr] at hv;rcases hv with rfl|rfl|rfl<;>rfl) cmW Xuk _ #[] g 0 c l.toArray w0 eg (Xg1 _ _ _ _) hH (Qp.1 h3).1 (by simp;omega)
   have hcon2:Calls Tryz.prog 127 #[.slice (some ⟨g,0,none⟩) l.length c,.func (.func 93) #[] #[]] w0 fun e w'=>e=.returned (.tuple #[])/\∃ d' n os,PermIn 0 l.toArray.size l.toArray d'/\SortedIn (ltOf cmW) 0 l.toArray.size d'/\w'=sortWorldK encWr 3 w0 g 0 n d' os:=by
    have e:l.toArray.size=l.length:=by simp
    rw [e] at hcon ⊢
    exact hcon
   refine Calls.mono hcon2 fun e w ⟨e1,d',n,os,hp,hs,e2⟩=>⟨_,e1,rfl,?_⟩
   subst e2
   have hd:d'.size=l.length:=by rw [hp.1];simp
   have hpl:d'.toList.Perm l:=by
    have:=hp.2.2
    rw [<- hp.1] at this
    simpa [Qi (show l.length<=d'.size by omega)] using this
   have hfs2:(flatK encWr 3 d').size=l.length*3:=by simp [hd]
   have hfl2:(flatK encWr 3 d').toList=d'.toList.flatMap encWr:=by
    have:=X70 Xu d'.toList
    rw [Array.toArray_toList] at this
    exact this
   have hcur:(flatK encWr 3 d').size<=cur.size:=by
    have:=congrArg List.length h7
    rw [Qn,Xo Xu] at this
    rw [hfs2]
    have h8:cur.toList.length=cur.size:=Array.length_toList
    omega
   have hlen:d'.toList.length=l.length:=by simp [hd]
   refine ⟨⟨d'.toList,hpl,?_,⟨Xo Xu _,.inr ⟨g,c,_,by rw [hlen],h2,Xea _ h3,by rw [hlen];omega,h5,by simp [putCells,h6],?_⟩⟩⟩,?_⟩
   ·rw [W0]
    intro i j hi hj hij
    have hi':i<d'.size:=by simpa using hi
    have hj':j<d'.size:=by simpa using hj
    have h9:=hs i j (Qf _) hij (by rw [<- hp.1];exact hj')
    rw [ltW] at h9
    rw [getElem!_pos d' i hi',getElem!_pos d' j hj'] at h9
    exact h9
   ·have:=Xdu cur (flatK encWr 3 d') hcur
    rw [hfs2,hfl2] at this
    rw [hlen];exact this
   ·exact Xaw _
end Go.Proofs.YtipiejccbmifnaaGreatDoor
namespace Go.Proofs.YtipiejccbmifnaaGreatDoor
open Go.RowKit
theorem X5n:∀ (l:List Wr) (x:Wr),(insW l x).Perm (x::l)
 | [],x=>List.Perm.refl _
 | y::l,x=>by
  unfold insW
  split
  ·exact ((X5n l x).cons y).trans (List.Perm.swap x y l)
  ·exact List.Perm.refl _
theorem Xhm{l:List Wr}(h:WSd l){x y:Wr}(hx:x ∈ l)(hy:y ∈ l)(h1:wlt x y=false)(h2:wlt y x=false) : x=y:=by
 obtain ⟨i,hi,rfl⟩:=List.mem_iff_getElem.1 hx;obtain ⟨j,hj,rfl⟩:=List.mem_iff_getElem.1 hy;have hp:=W0.1 h
 rcases Nat.lt_trichotomy i j with h9|h9|h9
 ·rw [hp i j hi hj h9] at h1;cases h1
 ·subst h9;rfl
 ·rw [hp j i hj hi h9] at h2;cases h2
theorem Xh1{ws l:List Wr}{x:Wr}(hp:l.Perm (ws++[x]))(hs:l.Pairwise fun x y=>wlt y x=false)(hw:WSd ws)(ha:∀ y ∈ ws,¬ (y.a=x.a/\y.b=x.b)) : l=insW ws x:=by
 have hi:=Xb2 hw ha
 have hpp:l.Perm (insW ws x):=(hp.trans (List.perm_append_singleton x ws)).trans (X5n ws x).symm
 refine List.Perm.eq_of_pairwise (le:=fun x y=>wlt y x=false) (fun a b h1 h2 h3 h4=>?_) hs (hi.imp fun {a b} h=>?_) hpp
 ·exact Xhm hi (hpp.mem_iff.1 h1) h2 h4 h3
 ·rw [X5p]
  rw [X39] at h
  omega
theorem Xpd{ws:List Wr}{p q:Int}(h:fdW ws p q<0){x:Bool} : ∀ y ∈ ws,¬ (y.a=(⟨min p q,max p q,x⟩ : Wr).a/\y.b=(⟨min p q,max p q,x⟩ : Wr).b):=fun y hy h9=>by
 have h1:=Xfz h y hy
 have h2:isW p q y=true:=X31.2 h9
 rw [h2] at h1
 cases h1
def Dgm(w:World)(b B0:Nat)(A0:Option Addr)(c0:Nat)(A1:Option Addr)(c1 m:Nat)(d:Dg) : Prop:=
 Blk w b 31 [.int .i64 d.n,.slice A0 m c0,.slice A1 d.ws.length c1,.int .i64 d.t,.int .i64 d.r]/\Own w B0 76 2 encNd A0 c0 d.ns/\Own w B0 84 3 encWr A1 c1 d.ws/\m=d.ns.length
def ctO(ws:List Wr)(p q:Int) : List Wr:=if 0<=fdW ws p q then ctW ws (fdW ws p q).toNat else ws
theorem Xpx(l:List Wr)(k:Int) : (l.filter fun x=>!(x.a==k||x.b==k))=dpW l k:=by grind [dpW]
theorem X9j{ws:List Wr}{p q:Int}(h:0<=fdW ws p q) : ctO ws p q=ctW ws (fdW ws p q).toNat:=Q4 h
theorem Xlv{ws:List Wr}{p q:Int}(h:¬ 0<=fdW ws p q) : ctO ws p q=ws:=Q3 h
theorem Xk3{ws:List Wr}{p q:Int}(h:tyW ws p q=0) : fdW ws p q<0:=by grind [fdW,tyW]
theorem Xfm{ws:List Wr}{p q:Int}(h:tyW ws p q≠0) : 0<=fdW ws p q:=by grind [fdW,tyW]
def tgI(d:Dg)(p q:Int) : Dg:=if tyW d.ws p q=1 then d else tgD d p q
theorem Xs0{d:Dg}{p q:Int}(h:tyW d.ws p q=0) : tgI d p q = { d with ws:=jnW d.ws p q true,r:=wr (d.r+1) }:=by
 unfold tgI
 rw [Q3 (by omega)]
 exact Xqu (by have:=Xk3 h;omega)
theorem Xr3{d:Dg}{p q:Int}(h:tyW d.ws p q=1) : tgI d p q=d:=Q4 h
theorem Xrj{d:Dg}{p q:Int}(h0:tyW d.ws p q≠0)(h1:tyW d.ws p q≠1) : tgI d p q = { d with ws:=ctO d.ws p q,r:=wr (d.r-1) }:=by
 unfold tgI
 rw [Q3 h1,Xqq (Xfm h0),X9j (Xfm h0)]
theorem Xot{ws:List Wr}{p q:Int}(h:0<=fdW ws p q) : tyW ws p q=if (ws.getD (fdW ws p q).toNat wZ).h=true then 2 else 1:=by
 unfold tyW
 rw [Q3 (by omega)]
theorem Xno{ws:List Wr}(hw:WSd ws){p q:Int} : fdW (ctO ws p q) p q<0:=by
 by_cases h:0<=fdW ws p q
 ·obtain ⟨w,h1,h2,_⟩:=X7i h
  rw [X9j h,Xcy hw h1 h2]
  omega
 ·rw [Xlv h];omega
theorem Xos{ws:List Wr}(hw:WSd ws)(p q:Int) : WSd (ctO ws p q):=by
 unfold ctO
 split
 ·exact X9i hw _
 ·exact hw
theorem Xkf(ws:List Wr)(p q:Int) : (ctO ws p q).length<=ws.length:=by
 unfold ctO
 split
 ·exact (X2y _ _).length_le
 ·exact Qb _
theorem Xqs{d:Dg}{p q:Int}{x:Bool}(h:tyW d.ws p q=0) : lkD d p q x = { d with ws:=jnW d.ws p q x }:=Xqw (Xk3 h)
theorem Xre{d:Dg}{p q:Int}{x:Bool}(h:(tyW d.ws p q==1&&!x)=true) : lkD d p q x=d:=by grind [lkD,tyW]
theorem Xqb{d:Dg}{p q:Int}{x:Bool}(h:(tyW d.ws p q==2&&x)=true) : lkD d p q x = { d with ws:=ctO d.ws p q,r:=wr (d.r-2) }:=by
 rw [Qd,beq_iff_eq] at h
 have h0:=Xfm (ws:=d.ws) (p:=p) (q:=q) (by omega)
 have h2:=Xot h0
 cases hh:(d.ws.getD (fdW d.ws p q).toNat wZ).h with
 | false=>rw [hh] at h2;simp at h2;omega
 | true=>rw [Xr1 (by omega) (by rw [hh,h.2];rfl),X9j h0]
theorem Xr8{d:Dg}{p q:Int}{x:Bool}(h0:tyW d.ws p q≠0)(h1:(tyW d.ws p q==1&&!x)=false)(h2:(tyW d.ws p q==2&&x)=false) : lkD d p q x = { d with ns:=adN d.ns (min p q) 4,ws:=jnW (ctO d.ws p q) p q false,r:=wr (d.r-1) }:=by
 have g0:=Xfm h0
 have g2:=Xot g0
 rw [X9j g0]
 cases hh:(d.ws.getD (fdW d.ws p q).toNat wZ).h with
 | false=>
  rw [hh] at g2
  have g3:tyW d.ws p q=1:=by simpa using g2
  have hx:x=true:=by rw [g3] at h1;simpa using h1
  subst hx
  exact Xna (by omega) (by rw [hh];rfl) (by rw [hh];rfl)
 | true=>
  rw [hh] at g2
  have g3:tyW d.ws p q=2:=by simpa using g2
  have hx:x=false:=by rw [g3] at h2;simpa using h2
  subst hx
  exact Xna (by omega) (by rw [hh];rfl) (by rw [hh];rfl)
section
variable {α β : Type} {w w' : World} {b B0 B1 : Nat} {A A' : Option Addr} {l : List (Option Addr)} {E E' T : TypeId} {sz sz' c c' : Nat} {enc : α -> List Value} {enc' : β -> List Value} {r : List α} {r' : List β} {bcs : List Value}
theorem X0r(ho:Own w B0 E' sz' enc' A' c' r')(hE:Nat.beq E' E=false) : ∀ k cs fz,ownB A'=some k->w.heap[k]? = some (.cells cs E fz)->False:=fun k cs fz hk hh=>by
 obtain ⟨_,_,cs',fz',h3⟩:=ho.block (k:=k) (by rw [X3j];exact hk)
 rw [h3] at hh;injection hh with hh;injection hh with _ e _;subst e;simp at hE
theorem Own.tu(h:Own w B0 E sz enc A c r)(hts:TurnS (SB b l) w w')(hb:Blk w b T bcs)(h1:Nat.beq T E=false)(hr:∀ A' ∈ l,∀ k cs fz,ownB A'=some k->w.heap[k]? = some (.cells cs E fz)->False) : Own w' B0 E sz enc A c r:=by
 refine ⟨h.1,?_⟩
 rcases h.2 with h2|⟨g,cap,cur,e1,e2,e3,e4⟩
 ·exact .inl h2
 ·refine .inr ⟨g,cap,cur,e1,e2,?_,e4⟩
  have hlt:g<w.heap.size:=(Qp.1 e3).1
  rw [hts.block g hlt fun hk=>?_]
  ·exact e3
  ·rcases hk with e|⟨A',hA,hk⟩
   ·subst e
    unfold Blk at hb
    rw [hb] at e3;injection e3 with e3;injection e3 with _ e _;subst e;simp at h1
   ·exact hr A' hA g _ _ hk e3
theorem Rd.tu{B:Nat}(h:Rd w B E enc A r)(hts:TurnS (SB b l) w w')(hb:Blk w b T bcs)(h1:Nat.beq T E=false)(hr:∀ A' ∈ l,∀ k cs fz,ownB A'=some k->w.heap[k]? = some (.cells cs E fz)->False) : Rd w' B E enc A r:=fun hl=>by
 obtain ⟨g,off,cs,fz,e1,e2,e3,e4⟩:=h hl
 refine ⟨g,off,cs,fz,e1,e2,?_,e4⟩
 have hlt:g<w.heap.size:=(Qp.1 e3).1
 rw [hts.block g hlt fun hk=>?_]
 ·exact e3
 ·rcases hk with e|⟨A',hA,hk⟩
  ·subst e
   unfold Blk at hb
   rw [hb] at e3;injection e3 with e3;injection e3 with _ e _;subst e;simp at h1
  ·exact hr A' hA g _ _ hk e3
end
theorem X4y:∀ {ws:List Wr} {k:Int},(∀ w ∈ ws,w.a<w.b)->cnW ws k=((nearW ws k).length:Int)
 | [],_,_=>rfl
 | w::ws,k,h=>by
  have ih:=X4y (ws:=ws) (k:=k) fun x hx=>h x (by simp [hx])
  have hw:=h w (by simp)
  unfold cnW nearW at ih ⊢
  rw [List.filter_cons,List.filterMap_cons]
  by_cases h1:k=w.a
  ·have e:otW k w=some w.b:=Q4 h1
   have e2:(w.a==k||w.b==k)=true:=by simp [h1]
   rw [e,e2]
   simp only [if_true,Qs]
   omega
  ·by_cases h2:k=w.b
   ·have e:otW k w=some w.a:=by unfold otW;rw [Q3 h1,Q4 h2]
    have e2:(w.a==k||w.b==k)=true:=by simp [h2]
    rw [e,e2]
    simp only [if_true,Qs]
    omega
   ·have e:otW k w=none:=by unfold otW;rw [Q3 h1,Q3 h2]
    have e2:(w.a==k||w.b==k)=false:=by simp [Ne.symm h1,Ne.symm h2]
    rw [e,e2]
    simp only [Bool.false_eq_true,if_false]
    exact ih
theorem Xaz{d:Dg}(hG:goodD d=true){a v:Int}(hv:v ∈ nearW d.ws a)(hs:spI d.ns v=false) : ∀ w ∈ dpW d.ws a,w.a≠v/\w.b≠v:=by
 have hD:=X1b hG;have hr:=X2g hD hv
 have hx:d.ns[v.toNat]? = some (d.ns.getD v.toNat nZ):=Xg hr.2
 have hq:=(X3k hG).2.2.1 v.toNat hr.2
 have hvt:((v.toNat:Nat) : Int)=v:=by omega
 rw [hvt] at hq
 obtain ⟨w0,hw0,ho⟩:=X54.1 hv;have hab:=hD.w.l
 have hk:(d.ns.getD v.toNat nZ).k≠3:=fun h3=>by
  have:spI d.ns v=true:=by
   unfold spI
   rw [h3,X0t.2 ⟨hr.1,by omega⟩]
   rfl
  rw [this] at hs;cases hs
 have htouch:(w0.a==v||w0.b==v)=true:=by
  rcases X44 ho with ⟨_,h2⟩|⟨_,h2⟩<;>simp [h2]
 have hmem:w0 ∈ d.ws.filter (fun w=>w.a==v||w.b==v):=List.mem_filter.2 ⟨hw0,htouch⟩
 have hone:cnW d.ws v=1:=by
  unfold ndQ at hq
  split at hq
  ·simp only [Qd,beq_iff_eq] at hq
   have h0:=hq.2
   unfold cnW at h0
   have:=List.length_pos_of_mem hmem
   omega
  ·split at hq
   ·simp only [Qd,beq_iff_eq] at hq
    exact hq.2
   ·simp only [Qd,beq_iff_eq] at hq
    exact absurd hq.1 hk
 intro w hw;have hw2:=List.mem_filter.1 hw
 have hna:w.a≠a/\w.b≠a:=by simpa using hw2.2
 by_cases ht:(w.a==v||w.b==v)=true
 ·exfalso
  have hmw:w ∈ d.ws.filter (fun w=>w.a==v||w.b==v):=List.mem_filter.2 ⟨hw2.1,ht⟩
  unfold cnW at hone
  obtain ⟨z,hz⟩:=List.length_eq_one_iff.1 (show (d.ws.filter (fun w=>w.a==v||w.b==v)).length=1 by omega)
  rw [hz] at hmem hmw
  have e1:=Qm.1 hmem
  have e2:=Qm.1 hmw
  subst e1
  subst e2
  rcases X44 ho with ⟨h2,_⟩|⟨h2,_⟩
  ·exact hna.1 h2.symm
  ·exact hna.2 h2.symm
 ·simpa using ht
theorem Xbz{ns:List Nd}{a v:Int}(hv:0<=v)(ha:0<=a)(hne:v≠a) : spI (dpN ns a) v=spI ns v:=by grind [dpN,spI]
theorem X8f{d:Dg}(hD:InD d){a v:Int}(hv:v ∈ nearW d.ws a) : v≠a:=by
 obtain ⟨w0,hw0,ho⟩:=X54.1 hv
 have:=hD.w.l w0 hw0
 rcases X44 ho with ⟨_,h2⟩|⟨_,h2⟩<;>omega
theorem X9c{ws:List Wr}{u v:Int}(h:(∀ w ∈ ws,w.a≠u/\w.b≠u)∨∀ w ∈ ws,w.a≠v/\w.b≠v) : fdW ws u v<0:=by
 have:fdW ws u v = -1:=Xm9 fun w hw=>by
  cases hh:isW u v w with
  | false=>rfl
  | true=>
   have h2:=X31.1 hh
   rcases h with h|h
   ·have:=h w hw;omega
   ·have:=h w hw;omega
 omega
theorem Xkr{d:Dg}(hG:goodD d=true){a u v:Int}(ha:0<=a)(hu:u ∈ nearW d.ws a)(hv:v ∈ nearW d.ws a)(h:(spI (id0 d a).ns u&&spI (id0 d a).ns v)=false) : fdW (id0 d a).ws u v<0:=by
 have hD:=X1b hG
 have ru:=X2g hD hu
 have rv:=X2g hD hv
 have e1:spI (id0 d a).ns u=spI d.ns u:=Xbz ru.1 ha (X8f hD hu)
 have e2:spI (id0 d a).ns v=spI d.ns v:=Xbz rv.1 ha (X8f hD hv)
 rw [e1,e2,Bool.and_eq_false_iff] at h
 rcases h with h|h
 ·exact X9c (.inl (Xaz hG hu h))
 ·exact X9c (.inr (Xaz hG hv h))
theorem Xcp{ws:List Wr}{k:Int}{j:Nat}(hj:j<(nearW ws k).length) : (nearW ws k).getD j 0 ∈ nearW ws k:=Qe (Xg (d:=0) hj)
theorem Xr2{d:Dg}(hD:InD d){a:Int}(h:(!(spI d.ns a)||(d.ns.getD a.toNat nZ).p != 0||cnW d.ws a != 2)=true) : idC d a=false:=by
 rw [X4y hD.w.l] at h
 rw [Bool.or_eq_true] at h
 rcases h with h|h
 ·exact (Xhn h).1
 ·exact Xf3 h
theorem Xoe{d:Dg}(hD:InD d){a:Int}(h:(!(spI d.ns a)||(d.ns.getD a.toNat nZ).p != 0||cnW d.ws a != 2)=false) : idC d a=true/\(nearW d.ws a).length=2/\0<=a/\a.toNat<d.ns.length:=by
 rw [X4y hD.w.l] at h
 rw [Bool.or_eq_false_iff] at h
 have h1:=X89 h.1;have h2:=Xd8 h1 h.2;have h3:=X0s h1.1;exact ⟨h2.1,h2.2,h3.1,h3.2.1⟩
theorem X9l(w0:World)(bV B0:Nat)(A0:Option Addr)(c0:Nat)(A1:Option Addr)(c1 m0:Nat)(d:Dg)(a7:Dgm w0 bV B0 A0 c0 A1 c1 m0 d)(aD:B0<=w0.heap.size)(p:Int)(f:Int)(hp:0<=p/\p.toNat<d.ns.length)(a8:PhN d.ns)(aE:-8<=f/\f<=900) : Ret Tryz.prog 213 [(pZ9 bV),vi p,vi f] w0 (fun v w=>∃ A c,TurnS (SB bV [A0,A1]) w0 w/\Us (SB bV [A0,A1]) w0 A/\Dgm w bV B0 A0 c0 A c m0 ({ d with ns:=adN d.ns p f } : Dg)):=by
 obtain ⟨e,b,g,a6⟩:=a7;have aC:=e.lt
 have aA:Us (SB bV [A0,A1]) w0 A0:=SB.us (by simp)
 have aB:Us (SB bV [A0,A1]) w0 A1:=SB.us (by simp)
 have aF:=X1l a8 p.toNat;refine enter Tryz.func213 rfl 25 rfl rfl ?_;intro a hf
 have hW:TurnS (SB bV [A0,A1]) w0 w0:=TurnS.refl _ _
 refine Xz none (fun j=>[19].contains j) mixed ?_;intro w1 hE;have e:=e.bw hE;have b:=b.bw hE;have g:=g.bw hE;have hW:=tsbel hW hE;refine Yb hf<|Yo 0 rfl (fun _=>X3 rfl)<|Yo 1 rfl (fun _=>X03 rfl)<|Yo 2 rfl (fun _=>Vd rfl Xc 1)<|Ye 3 rfl (X0 rfl Xv (e.at 1))<|Yo 4 rfl (fun _=>X3 rfl)<|Yo 5 rfl (fun _=>X3 rfl)<|Yo 6 rfl (fun _=>X03 rfl)<|Yo 7 rfl (fun _=>Vd rfl Xc 1)<|Ye 8 rfl (X0 rfl Xv (e.at 1))<|Yo 9 rfl (fun _=>X3 rfl) ?_;refine Yo 10 rfl (fun _=>Xp (k:=p.toNat) rfl rfl Xm X05 b a6 (by omega) (by omega))<|Yo 11 rfl (fun _=>X0w rfl X04 (m':=p.toNat*2+1) rfl)<|Ye 12 rfl (X0 rfl Xa (X0u b Xt (Xg (d:=nZ) (by omega)) 1 rfl))<|Yo 13 rfl (fun _=>X3 rfl)<|Yo 14 rfl (fun _=>Xr rfl rfl (by omega) (by omega))<|Yo 15 rfl (fun _=>Xr rfl rfl (by omega) (by omega))<|Yo 16 rfl (fun _=>Vx (X3q rfl rfl rfl) (Xue (by omega)))<|Yo 17 rfl (fun _=>Xp (k:=p.toNat) rfl rfl Xm X05 b a6 (by omega) (by omega))<|Yo 18 rfl (fun _=>X0w rfl X04 (m':=p.toNat*2+1) rfl)<|Y1 19 ?_;refine Yh rfl tv0 rfl (X0y (enc:=encNd) (l:=d.ns) (vs:=[vi (((d.ns.getD p.toNat nZ).p+f) % 8)]) (x0:=(d.ns.getD p.toNat nZ)) (u:=(⟨(d.ns.getD p.toNat nZ).k,(((d.ns.getD p.toNat nZ).p+f) % 8)⟩ : Nd)) (k:=p.toNat) (j:=1) (n1:=1) rfl rfl X0a b Xt rfl rfl rfl rfl (by decide) (Xg (d:=nZ) (by omega)) rfl) ?_;rintro _ w2 ⟨m,hg⟩;have i:=b;have e:=e.appT i hg rfl;have g:=g.appT i hg rfl;have hW:=tsrow hW hg aA
 clear i hg;clear b;have b:=m;clear m;refine Yd fun a hf=>?_;refine X1t hf (X2n rfl) ?_;exact ⟨A1,c1,hW,aB,⟨e,b,g,(a6.trans List.length_set.symm)⟩⟩
theorem Xcz(w0:World)(bV B0:Nat)(A0:Option Addr)(c0:Nat)(A1:Option Addr)(c1 m0:Nat)(d:Dg)(aF:Dgm w0 bV B0 A0 c0 A1 c1 m0 d)(aG:B0<=w0.heap.size)(p:Int)(q:Int)(x:Bool)(aH:WSd d.ws)(hab:fdW d.ws p q<0)(aN:d.ws.length<=90000000) : Ret Tryz.prog 81 [(pZ9 bV),vi p,vi q,.bool x] w0 (fun v w=>∃ A c,TurnS (SB bV [A0,A1]) w0 w/\Us (SB bV [A0,A1]) w0 A/\Dgm w bV B0 A0 c0 A c m0 ({ d with ws:=jnW d.ws p q x } : Dg)):=by
 obtain ⟨b,f,j,aI⟩:=aF;have aL:=b.lt
 have aO:Us (SB bV [A0,A1]) w0 A0:=SB.us (by simp)
 have aA:Us (SB bV [A0,A1]) w0 A1:=SB.us (by simp)
 refine enter Tryz.func81 rfl 30 rfl rfl ?_;intro a hf
 have i:TurnS (SB bV [A0,A1]) w0 w0:=TurnS.refl _ _
 refine Zs hf fun _ aJ=>?_;refine Zm rfl<|Zm rfl<|Ze (X03 rfl)<|Ze (Vd rfl Xi 2)<|Ze (X0 rfl X0b (b.at 2))<|Zm rfl<|Zm rfl<|Ze (Xpn rfl rfl)<|Zm rfl<|Zm rfl ?_;refine Ze (Xpz rfl rfl)<|Zm rfl<|Ze (X11 (ps:=[(0,vi (min p q)),(1,vi (max p q)),(2,.bool x)]) (cs:=[vi (min p q),vi (max p q),.bool x]) rfl (fun _=>by first|rfl|kernel_rfl))<|Zf (Xj (k:=1) (vs:=[.agg #[vi (min p q),vi (max p q),.bool x]]) (zs:=[vi (min p q),vi (max p q),.bool x]) rfl Xq X0x rfl rfl) ?_;rintro _ w1 ⟨b4,rfl,aB,hE,a6⟩;have aM:=Q0 i.size aB;have m:=j.away aB;have b:=b.bw hE;have f:=f.bw hE;have j:=j.bw hE;have i:=tsbel i hE;refine Zf (X0k (enc:=encWr) (l:=(d.ws)) (l2:=([(⟨min p q,max p q,x⟩ : Wr)])) (B0:=B0) rfl rfl Xq X0x Xu X1e j (Rd.of_blk a6 rfl _ a6.lt) (by simp only [maxLen];simp;omega) (by simp;omega) (Q0 aG i.size)) ?_;rintro _ w2 ⟨A6,c6,rfl,g,o,a7⟩
 have e:Own _ B0 84 3 encWr _ _ (d.ws):=j
 have aE:=a7 _ a6.lt m;have aC:=Us.app aA a7 i.size;clear a7;have b:=b.appT e o rfl;have f:=f.appT e o rfl;have i:=tsrow i o aA;clear e o;refine Ze (X03 rfl)<|Ze (Vd rfl Xi 2)<|Zo (X17 (vs:=[.slice A6 (d.ws++([(⟨min p q,max p q,x⟩ : Wr)])).length c6]) (l':=[vi d.n,.slice A0 m0 c0,.slice A6 (d.ws++([(⟨min p q,max p q,x⟩ : Wr)])).length c6,vi d.t,vi d.r]) rfl rfl X19 b rfl rfl rfl rfl rfl) ?_;rintro _ w3 ⟨ho,hb⟩;have z:=b;have f:=f.oT ho z rfl;have g:=g.oT ho z rfl;have i:=tsonly i ho (.inl (.inl rfl));have b:=hb;refine Zt aJ fun a hf=>?_;refine Zr hf<|Zm rfl<|Ze (X03 rfl)<|Ze (Vd rfl Xi 2)<|Ze (X0 rfl X0b (b.at 2))<|Zf (Vc (Xtp _ B0 A6 c6 (d.ws++([(⟨min p q,max p q,x⟩ : Wr)])) g (by simp;omega)) Xjg) ?_;rintro _ w4 ⟨rfl,⟨aK,u,y,h⟩,o⟩;have e:=g;have b:=b.appT e o rfl;have f:=f.appT e o rfl;have i:=tsrow i o aC
 clear e o;clear g;have g:=h;clear h;refine Zn fun a hf=>?_;refine X1t hf (X2n rfl) ?_
 have aD:aK=jnW d.ws p q x:=Xh1 u y aH (Xpd hab)
 subst aD
 have a8:(d.ws++[(⟨min p q,max p q,x⟩ : Wr)]).length=(jnW d.ws p q x).length:=by rw [X2z,Qh];rfl
 rw [a8] at b
 exact ⟨A6,c6,i,aC,⟨b,f,g,aI⟩⟩
theorem Xen(w0:World)(bV B0:Nat)(A0:Option Addr)(c0:Nat)(A1:Option Addr)(c1 m0:Nat)(d:Dg)(aC:Dgm w0 bV B0 A0 c0 A1 c1 m0 d)(aD:B0<=w0.heap.size)(p:Int)(q:Int)(aH:d.ws.length<=90000000) : Ret Tryz.prog 126 [(pZ9 bV),vi p,vi q] w0 (fun v w=>∃ A c,TurnS (SB bV [A0,A1]) w0 w/\Us (SB bV [A0,A1]) w0 A/\Dgm w bV B0 A0 c0 A c m0 ({ d with ws:=ctO d.ws p q } : Dg)):=by
 obtain ⟨b,f,e,a6⟩:=aC;have aG:=b.lt
 have aI:Us (SB bV [A0,A1]) w0 A0:=SB.us (by simp)
 have a7:Us (SB bV [A0,A1]) w0 A1:=SB.us (by simp)
 have aA:=X7n d.ws p q;refine enter Tryz.func126 rfl 26 rfl rfl ?_;intro a k
 have j:TurnS (SB bV [A0,A1]) w0 w0:=TurnS.refl _ _
 refine Zs k fun _ aE=>?_;refine Zm rfl<|Ze (X03 rfl)<|Ze (X00 (l:=[vi d.n,.slice A0 m0 c0,.slice A1 d.ws.length c1,vi d.t,vi d.r]) rfl X2 (b.at 0) rfl)<|Zm rfl<|Zm rfl<|Zf (Vc (Xlh _ d m0 a6 A0 c0 f.rd.top A1 c1 e.rd.top e.cap p q (by omega)) Xcn) ?_;rintro _ w1 ⟨rfl,hE⟩;have b:=b.bw hE;have f:=f.bw hE;have e:=e.bw hE;have j:=tsbel j hE;refine Za rfl<|Zx aE fun a k _ aF=>?_;refine Zm rfl<|Ze (X4q rfl rfl)<|Zt aF fun a k=>?_
 refine Xf k rfl (fun g=>?_) (fun g=>?_)
 ·have aB:=g;have g:=Q2 g;have a8:=X9j g;refine Zr k<|Zm rfl<|Zm rfl<|Ze (X03 rfl)<|Ze (Vd rfl Xi 2)<|Ze (X0 rfl X0b (b.at 2))<|Zm rfl<|Zm rfl<|Ze (Xr rfl rfl (by omega) (by omega))<|Zf (Vc (Xqy _ A1 c1 B0 d.ws e (Q0 aD j.size) (fdW d.ws p q) ⟨by omega,aA⟩ (by omega)) Xjy) ?_;rintro _ w2 ⟨rfl,m,hg⟩;have i:=e;have b:=b.appT i hg rfl;have f:=f.appT i hg rfl;have j:=tsrow j hg a7
  clear i hg;clear e;have e:=m;clear m;refine Ze (X03 rfl)<|Ze (Vd rfl Xi 2)<|Zo (X17 (vs:=[.slice A1 (ctW d.ws (fdW d.ws p q).toNat).length c1]) (l':=[vi d.n,.slice A0 m0 c0,.slice A1 (ctW d.ws (fdW d.ws p q).toNat).length c1,vi d.t,vi d.r]) rfl rfl X19 b rfl rfl rfl rfl rfl) ?_;rintro _ w3 ⟨ho,hb⟩;have o:=b;have f:=f.oT ho o rfl;have e:=e.oT ho o rfl;have j:=tsonly j ho (.inl (.inl rfl));have b:=hb;refine Zn fun a k=>?_;refine X1t k (X2n rfl) ?_
  rw [a8]
  exact ⟨A1,c1,j,a7,⟨b,f,e,a6⟩⟩
 have aB:=g;have g:=Q1 g
 have a8:=Xlv (ws:=d.ws) (p:=p) (q:=q) (by have:=g;omega)
 refine Q7<|X1t k (X2n rfl) ?_
 rw [a8]
 exact ⟨A1,c1,j,a7,⟨b,f,e,a6⟩⟩
theorem Xtk(w0:World)(x:Wr)(k:Int)(ba:Nat)(d:Blk w0 ba 3 [vi k]) : Ret Tryz.prog 223 [.agg #[vi x.a,vi x.b,.bool x.h],(pZ9 ba)] w0 (fun v w=>v=.bool (x.a==k||x.b==k)/\Below w0.heap.size w0 w):=by
 have a7:=d.lt;refine enter Tryz.func223 rfl 14 rfl rfl ?_;intro a e
 have hW:=bz w0
 refine Zs e fun _ a8=>?_;refine Zf (X0q (zs:=[vi x.a,vi x.b,.bool x.h]) rfl rfl) ?_;rintro _ w1 ⟨b2,rfl,aA,hE,a6⟩;have aC:=Q0 hW.size aA;have d:=d.bw hE;have hW:=btr hW hE;refine Za rfl<|ZX a8 fun a e _ aB=>?_;refine X06 (fun a w=>Fr a 14 [(3,.bool ((x.a==k)||(x.b==k)))]/\w1=w) ?_ ?_
 ·refine Zr e<|Ze (Vd rfl X0m 0)<|Ze (X0 rfl Xa (a6.at 0))<|Ze (X0 rfl Xa (d.at 0))<|Ze (X0f rfl rfl)<|Zm rfl ?_
  refine Zg 8 rfl (fun c=>?_) (fun c=>?_)
  ·(iterate 4 refine Zp (gP c) ?_);refine Ze (X5 rfl c rfl)<|Za rfl ?_;refine Zn fun a e=>?_;exact ⟨e.sub ⟨X1 rfl (by first|rfl|(simp only [c,bs];done)|simp [c]),trivial⟩,rfl⟩
  refine Zv (gW c) (Vd rfl X0o 1) ?_;refine Zv (gW c) (X0 rfl Xa (a6.at 1)) ?_;refine Zv (gW c) (X0 rfl Xa (d.at 0)) ?_;refine Zv (gW c) (X0f rfl rfl) ?_;refine Ze (X9 rfl c rfl)<|Za rfl ?_;refine Zn fun a e=>?_;exact ⟨e.sub ⟨X1 rfl (by first|rfl|(simp only [c,bs];done)|simp [c]),trivial⟩,rfl⟩
 rintro a _ ⟨e,rfl⟩;refine aB _ _ ?_
 refine Q6 (X6 e (Xs e rfl rfl) ?_)
 exact ⟨rfl,hW⟩
theorem X7e(w0:World)(bV B0:Nat)(A0:Option Addr)(c0:Nat)(A1:Option Addr)(c1 m0:Nat)(d:Dg)(a8:Dgm w0 bV B0 A0 c0 A1 c1 m0 d)(aA:B0<=w0.heap.size)(k:Int)(hk:0<=k/\k.toNat<d.ns.length)(aI:d.ws.length<=90000000) : Ret Tryz.prog 173 [(pZ9 bV),vi k] w0 (fun v w=>∃ A c,TurnS (SB bV [A0,A1]) w0 w/\Us (SB bV [A0,A1]) w0 A/\Dgm w bV B0 A0 c0 A c m0 (id0 d k)):=by
 obtain ⟨e,f,g,a6⟩:=a8;have aG:=e.lt
 have aB:Us (SB bV [A0,A1]) w0 A0:=SB.us (by simp)
 have a7:Us (SB bV [A0,A1]) w0 A1:=SB.us (by simp)
 refine enter Tryz.func173 rfl 20 rfl rfl ?_;intro a hf
 have o:TurnS (SB bV [A0,A1]) w0 w0:=TurnS.refl _ _
 refine Zs hf fun _ aC=>?_;refine Zf (X0q (zs:=[vi k]) rfl rfl) ?_;rintro _ w1 ⟨b4,rfl,aD,q,p⟩;have aH:=Q0 o.size aD;have e:=e.bw q;have f:=f.bw q;have g:=g.bw q;have o:=tsbel o q;refine ZX aC fun a hf _ aE=>?_;refine Xz none (fun j=>[7].contains j) mixed ?_;intro w2 q;have e:=e.bw q;have p:=p.bw q;have f:=f.bw q;have g:=g.bw q;have o:=tsbel o q;refine Yb hf<|Yo 0 rfl (fun _=>X3 rfl)<|Yo 1 rfl (fun _=>X03 rfl)<|Yo 2 rfl (fun _=>Vd rfl Xc 1)<|Ye 3 rfl (X0 rfl Xv (e.at 1))<|Ye 4 rfl (X0 rfl Xa (p.at 0))<|Yo 5 rfl (fun _=>X11 (ps:=[]) (cs:=[vi 0,vi 0]) rfl (fun _=>by first|rfl|kernel_rfl))<|Yo 6 rfl (fun _=>Xp (k:=k.toNat) rfl rfl Xm X05 f a6 (by omega) (by omega))<|Y1 7 ?_;refine Yh rfl tv0 rfl (X0y (enc:=encNd) (l:=d.ns) (vs:=[vi 0,vi 0]) (x0:=(d.ns.getD k.toNat nZ)) (u:=(⟨0,0⟩ : Nd)) (k:=k.toNat) (j:=0) (n1:=2) rfl rfl X05 f Xt rfl rfl rfl rfl (by decide) (Xg (d:=nZ) (by omega)) rfl) ?_;rintro _ w3 ⟨m,y⟩;have i:=f;have e:=e.appT i y rfl;have p:=p.appT i y rfl;have g:=g.appT i y rfl;have o:=tsrow o y aB
 clear i y;clear f;have f:=m;clear m;refine Yd fun a hf=>?_;refine aE _ _<|Zr hf<|Zm rfl<|Zm rfl<|Ze (X03 rfl)<|Ze (Vd rfl Xi 2)<|Ze (X0 rfl X0b (e.at 2))<|Ze (X35 (vs:=[(pZ9 b4)]) rfl)<|Zf (X16 (vs:=[.slice A1 d.ws.length c1,.func (.func 223) #[] #[(pZ9 b4)]]) rfl Xjc (by have h9:=Xsw _ A1 c1 B0 d.ws g (Q0 aA o.size) 223 [(pZ9 b4)] Xkc (fun w=>w.a==k||w.b==k) (fun x w' aF=>Xtk w' x k _ (p.appT g aF rfl)) (by omega);rw [Xpx] at h9;exact h9)) ?_;rintro _ w4 ⟨rfl,m,y⟩;have i:=g;have e:=e.appT i y rfl;have f:=f.appT i y rfl;have o:=tsrow o y a7
 clear i y;clear g;have g:=m;clear m;refine Ze (X03 rfl)<|Ze (Vd rfl Xi 2)<|Zo (X17 (vs:=[.slice A1 (dpW d.ws k).length c1]) (l':=[vi d.n,.slice A0 m0 c0,.slice A1 (dpW d.ws k).length c1,vi d.t,vi d.r]) rfl rfl X19 e rfl rfl rfl rfl rfl) ?_;rintro _ w5 ⟨ho,hb⟩;have z:=e;have f:=f.oT ho z rfl;have g:=g.oT ho z rfl;have o:=tsonly o ho (.inl (.inl rfl));have e:=hb;refine Zn fun a hf=>?_;refine X1t hf (X2n rfl) ?_;exact ⟨A1,c1,o,a7,⟨e,f,g,(a6.trans List.length_set.symm)⟩⟩
theorem Xlu(w0:World)(bV B0:Nat)(A0:Option Addr)(c0:Nat)(A1:Option Addr)(c1 G:Nat)(d:Dg)(aN:Dgm w0 bV B0 A0 c0 A1 c1 G d)(aB:B0<=w0.heap.size)(p:Int)(q:Int)(aO:WSd d.ws)(aU:d.ws.length<=80000000) : Ret Tryz.prog 217 [(pZ9 bV),vi p,vi q] w0 (fun v w=>∃ A c,v=.bool (tyW d.ws p q != 1)/\TurnS (SB bV [A0,A1]) w0 w/\Us (SB bV [A0,A1]) w0 A/\Dgm w bV B0 A0 c0 A c G (tgI d p q)):=by
 obtain ⟨b,e,o,E⟩:=aN;have aT:=b.lt
 have aC:Us (SB bV [A0,A1]) w0 A0:=SB.us (by simp)
 have a6:Us (SB bV [A0,A1]) w0 A1:=SB.us (by simp)
 refine enter Tryz.func217 rfl 39 rfl rfl ?_;intro a f
 have g:TurnS (SB bV [A0,A1]) w0 w0:=TurnS.refl _ _
 refine Zs f fun _ aP=>?_;refine Za rfl<|ZX aP fun a f _ aD=>?_;refine Zs f fun _ aQ=>?_;refine Zm rfl<|Ze (X03 rfl)<|Ze (X00 (l:=[vi d.n,.slice A0 G c0,.slice A1 d.ws.length c1,vi d.t,vi d.r]) rfl X2 (b.at 0) rfl)<|Zm rfl<|Zm rfl<|Zf (Vc (X5h _ d G E A0 c0 e.rd.top A1 c1 o.rd.top o.cap p q (by omega)) X2r) ?_;rintro _ w1 ⟨rfl,hE⟩;have b:=b.bw hE;have e:=e.bw hE;have o:=o.bw hE;have g:=tsbel g hE;refine Zt aQ fun a f=>?_;refine Q8<|Zs f fun _ aR=>?_;refine Ze (X0f rfl rfl)<|Za rfl<|Zt aR fun a f=>?_
 refine Xf f rfl (fun y=>?_) (fun y=>?_)
 ·have aE:=y
  have h0:tyW d.ws p q=0:=by simpa using y
  have i:(tyW d.ws p q != 1)=true:=by rw [h0];rfl
  have z:=Xs0 h0;refine Zs f fun _ aS=>?_;refine Zm rfl<|Zm rfl<|Zm rfl<|Zf (Vc (Xcz _ bV B0 A0 c0 A1 c1 G d ⟨b,e,o,E⟩ (Q0 aB g.size) p q true aO (Xk3 h0) (by omega)) X69) ?_;rintro _ w2 ⟨A9,c9,h,B,C,j,a7,aF⟩;have u:=SB.lift (S:=SB bV [A0,A1]) (w0:=w0) (.inl (.inl rfl)) (alc aC (alc a6 al0));have B:=Us.trans B u g.size
  have g:=tstr g h u;clear u
  clear h b;have b:=C;clear C
  clear e;have e:=j;clear j;refine Zt aS fun a f=>?_;refine Zr f<|Zm rfl<|Ze (X03 rfl)<|Ze (Vd rfl Xy 4)<|Ze (X0 rfl Xa (b.at 4))<|Ze (X3h rfl rfl)<|Ze (X03 rfl)<|Ze (Vd rfl Xy 4)<|Zo (X17 (vs:=[vi (wr ((({ d with ws:=jnW d.ws p q true } : Dg).r)+1))]) (l':=[vi (({ d with ws:=jnW d.ws p q true } : Dg).n),.slice A0 G c0,.slice A9 (({ d with ws:=jnW d.ws p q true } : Dg).ws).length c9,vi (({ d with ws:=jnW d.ws p q true } : Dg).t),vi (wr ((({ d with ws:=jnW d.ws p q true } : Dg).r)+1))]) rfl rfl X0a b rfl rfl rfl rfl rfl) ?_;rintro _ w3 ⟨ho,hb⟩;have k:=b;have e:=e.oT ho k rfl;have a7:=a7.oT ho k rfl;have g:=tsonly g ho (.inl (.inl rfl));have b:=hb;refine Zn fun a f=>?_;refine Xb<|aD _ _<|Zs f fun _ aG=>?_;refine Za rfl<|Zt aG fun a f=>?_
  refine Q6 (X6 f (Xs f rfl rfl) ?_)
  rw [i,z]
  exact ⟨A9,c9,rfl,g,B,⟨b,e,a7,aF⟩⟩
 have aE:=y
 have h0:tyW d.ws p q≠0:=by simpa using y
 refine Zs f fun _ aH=>?_;refine Ze (X0f rfl rfl)<|Za rfl<|Zt aH fun a f=>?_
 refine Xf f rfl (fun m=>?_) (fun m=>?_)
 ·have a8:=m
  have h1:tyW d.ws p q=1:=by simpa using m
  have i:(tyW d.ws p q != 1)=false:=by rw [h1];rfl
  have z:=Xr3 h1;refine Zs f fun _ aI=>?_;refine Za rfl<|Zt aI fun a f=>?_;refine Q6<|Xx<|X8<|X6 f (Xs f rfl rfl) ?_
  rw [i,z]
  exact ⟨A1,c1,rfl,g,a6,⟨b,e,o,E⟩⟩
 have a8:=m
 have h1:tyW d.ws p q≠1:=by simpa using m
 have i:(tyW d.ws p q != 1)=true:=by simpa using h1
 have z:=Xrj h0 h1;refine Zs f fun _ aJ=>?_;refine Zm rfl<|Zm rfl<|Zm rfl<|Zf (Vc (Xen _ bV B0 A0 c0 A1 c1 G d ⟨b,e,o,E⟩ (Q0 aB g.size) p q (by omega)) X85) ?_;rintro _ w4 ⟨aK,aL,h,x,C,j,D,aA⟩;have u:=SB.lift (S:=SB bV [A0,A1]) (w0:=w0) (.inl (.inl rfl)) (alc aC (alc a6 al0));have x:=Us.trans x u g.size
 have g:=tstr g h u;clear u
 clear h b;have b:=C;clear C
 clear e;have e:=j;clear j;refine Zt aJ fun a f=>?_;refine Zr f<|Zm rfl<|Ze (X03 rfl)<|Ze (Vd rfl Xy 4)<|Ze (X0 rfl Xa (b.at 4))<|Ze (X9t rfl rfl)<|Ze (X03 rfl)<|Ze (Vd rfl Xy 4)<|Zo (X17 (vs:=[vi (wr ((({ d with ws:=ctO d.ws p q } : Dg).r)-1))]) (l':=[vi (({ d with ws:=ctO d.ws p q } : Dg).n),.slice A0 G c0,.slice aK (({ d with ws:=ctO d.ws p q } : Dg).ws).length aL,vi (({ d with ws:=ctO d.ws p q } : Dg).t),vi (wr ((({ d with ws:=ctO d.ws p q } : Dg).r)-1))]) rfl rfl X0a b rfl rfl rfl rfl rfl) ?_;rintro _ w5 ⟨ho,hb⟩;have k:=b;have e:=e.oT ho k rfl;have D:=D.oT ho k rfl;have g:=tsonly g ho (.inl (.inl rfl));have b:=hb;refine Zn fun a f=>?_;refine Xb<|aD _ _<|Zs f fun _ aM=>?_;refine Za rfl<|Zt aM fun a f=>?_
 refine Q6 (X6 f (Xs f rfl rfl) ?_)
 rw [i,z]
 exact ⟨aK,aL,rfl,g,x,⟨b,e,D,aA⟩⟩
theorem Xt8(w0:World)(bV B0:Nat)(A0:Option Addr)(c0:Nat)(A1:Option Addr)(c1 J:Nat)(d:Dg)(aS:Dgm w0 bV B0 A0 c0 A1 c1 J d)(L:B0<=w0.heap.size)(p:Int)(q:Int)(x:Bool)(aA:WSd d.ws)(b4:d.ws.length<=80000000)(aT:(0<=p/\p.toNat<d.ns.length)/\(0<=q/\q.toNat<d.ns.length))(aU:PhN d.ns) : Ret Tryz.prog 260 [(pZ9 bV),vi p,vi q,.bool x] w0 (fun v w=>∃ A c,TurnS (SB bV [A0,A1]) w0 w/\Us (SB bV [A0,A1]) w0 A/\Dgm w bV B0 A0 c0 A c J (lkD d p q x)):=by
 obtain ⟨b,e,z,M⟩:=aS;have b3:=b.lt
 have N:Us (SB bV [A0,A1]) w0 A0:=SB.us (by simp)
 have a8:Us (SB bV [A0,A1]) w0 A1:=SB.us (by simp)
 have b5:=Xkf d.ws p q;refine enter Tryz.func260 rfl 67 rfl rfl ?_;intro a i
 have j:TurnS (SB bV [A0,A1]) w0 w0:=TurnS.refl _ _
 refine Zs i fun _ aV=>?_;refine Zm rfl<|Ze (X03 rfl)<|Ze (X00 (l:=[vi d.n,.slice A0 J c0,.slice A1 d.ws.length c1,vi d.t,vi d.r]) rfl X2 (b.at 0) rfl)<|Zm rfl<|Zm rfl<|Zf (Vc (X5h _ d J M A0 c0 e.rd.top A1 c1 z.rd.top z.cap p q (by omega)) X2r) ?_;rintro _ w1 ⟨rfl,hE⟩;have b:=b.bw hE;have e:=e.bw hE;have z:=z.bw hE;have j:=tsbel j hE;refine Za rfl<|Zt aV fun a i=>?_;refine Q8<|Zs i fun _ aW=>?_;refine Zm rfl<|Ze (X0f rfl rfl)<|Za rfl<|Zt aW fun a i=>?_
 refine Xf i rfl (fun Q=>?_) (fun Q=>?_)
 ·have k:=Q
  have h0:tyW d.ws p q=0:=by simpa using Q
  have D:=Xqs (x:=x) h0;refine Zr i<|Zm rfl<|Zm rfl<|Zm rfl<|Zm rfl<|Zf (Vc (Xcz _ bV B0 A0 c0 A1 c1 J d ⟨b,e,z,M⟩ (Q0 L j.size) p q x aA (Xk3 h0) (by omega)) X69) ?_;rintro _ w2 ⟨A6,c6,m,U,o,f,aX,aG⟩;have g:=SB.lift (S:=SB bV [A0,A1]) (w0:=w0) (.inl (.inl rfl)) (alc N (alc a8 al0));have U:=Us.trans U g j.size
  have j:=tstr j m g;clear g
  clear m b;have b:=o;clear o
  clear e;have e:=f;clear f;refine Zn fun a i=>?_;refine Xb<|X1t i (X2n rfl) ?_
  rw [D]
  exact ⟨A6,c6,j,U,⟨b,e,aX,aG⟩⟩
 have k:=Q
 have h0:tyW d.ws p q≠0:=by simpa using Q
 refine Q5 fun _ aY=>?_;refine X06 (fun a w=>Fr a 67 [(0,(pZ9 bV)),(1,vi p),(2,vi q),(3,.bool x),(8,vi (tyW d.ws p q)),(43,.bool (((tyW d.ws p q)==1)&&(!x)))]/\w1=w) ?_ ?_
 ·refine Zr i<|Zm rfl<|Ze (X0f rfl rfl)<|Zm rfl ?_
  refine Zg 46 rfl (fun y=>?_) (fun y=>?_)
  ·refine Zv (gW y) (X3 rfl) ?_;refine Zv (gW y) (X0z rfl) ?_;refine Ze (X5 rfl y rfl)<|Za rfl ?_;refine Zn fun a i=>?_;exact ⟨i.sub ⟨rfl,rfl,rfl,rfl,rfl,X1 rfl (by first|rfl|(simp only [k,y,bs];done)|simp [k,y]),trivial⟩,rfl⟩
  (iterate 2 refine Zp (gP y) ?_);refine Ze (X9 rfl y rfl)<|Za rfl ?_;refine Zn fun a i=>?_;exact ⟨i.sub ⟨rfl,rfl,rfl,rfl,rfl,X1 rfl (by first|rfl|(simp only [k,y,bs];done)|simp [k,y]),trivial⟩,rfl⟩
 rintro a _ ⟨i,rfl⟩;refine aY _ _ ?_
 refine Xf i rfl (fun W=>?_) (fun W=>?_)
 ·have h:=W;have D:=Xre W;refine Q7<|Xb<|X1t i (X2n rfl) ?_
  rw [D]
  exact ⟨A1,c1,j,a8,⟨b,e,z,M⟩⟩
 have h:=W;have h1:=W;refine Q5 fun _ aH=>?_;refine X06 (fun a w=>Fr a 67 [(0,(pZ9 bV)),(1,vi p),(2,vi q),(50,.bool (((tyW d.ws p q)==2)&&x))]/\w1=w) ?_ ?_
 ·refine Zr i<|Zm rfl<|Ze (X0f rfl rfl)<|Zm rfl ?_
  refine Zg 53 rfl (fun u=>?_) (fun u=>?_)
  ·refine Zv (gW u) (X3 rfl) ?_;refine Ze (X5 rfl u rfl)<|Za rfl ?_;refine Zn fun a i=>?_;exact ⟨i.sub ⟨rfl,rfl,rfl,X1 rfl (by first|rfl|(simp only [k,h,u,bs];done)|simp [k,h,u]),trivial⟩,rfl⟩
  refine Zp (gP u) ?_;refine Ze (X9 rfl u rfl)<|Za rfl ?_;refine Zn fun a i=>?_;exact ⟨i.sub ⟨rfl,rfl,rfl,X1 rfl (by first|rfl|(simp only [k,h,u,bs];done)|simp [k,h,u]),trivial⟩,rfl⟩
 rintro a _ ⟨i,rfl⟩;refine aH _ _ ?_
 refine Xf i rfl (fun B=>?_) (fun B=>?_)
 ·have aB:=B;have D:=Xqb B;refine Zs i fun _ aI=>?_;refine Zm rfl<|Zm rfl<|Zm rfl<|Zf (Vc (Xen _ bV B0 A0 c0 A1 c1 J d ⟨b,e,z,M⟩ (Q0 L j.size) p q (by omega)) X85) ?_;rintro _ w3 ⟨aJ,aK,m,E,o,f,a6,aC⟩;have g:=SB.lift (S:=SB bV [A0,A1]) (w0:=w0) (.inl (.inl rfl)) (alc N (alc a8 al0));have E:=Us.trans E g j.size
  have j:=tstr j m g;clear g
  clear m b;have b:=o;clear o
  clear e;have e:=f;clear f;refine Zt aI fun a i=>?_;refine Zr i<|Zm rfl<|Ze (X03 rfl)<|Ze (Vd rfl Xy 4)<|Ze (X0 rfl Xa (b.at 4))<|Ze (X9t rfl rfl)<|Ze (X03 rfl)<|Ze (Vd rfl Xy 4)<|Zo (X17 (vs:=[vi (wr ((({ d with ws:=ctO d.ws p q } : Dg).r)-2))]) (l':=[vi (({ d with ws:=ctO d.ws p q } : Dg).n),.slice A0 J c0,.slice aJ (({ d with ws:=ctO d.ws p q } : Dg).ws).length aK,vi (({ d with ws:=ctO d.ws p q } : Dg).t),vi (wr ((({ d with ws:=ctO d.ws p q } : Dg).r)-2))]) rfl rfl X0a b rfl rfl rfl rfl rfl) ?_;rintro _ w4 ⟨ho,hb⟩;have C:=b;have e:=e.oT ho C rfl;have a6:=a6.oT ho C rfl;have j:=tsonly j ho (.inl (.inl rfl));have b:=hb;refine Zn fun a i=>?_;refine Xb<|X1t i (X2n rfl) ?_
  rw [D]
  exact ⟨aJ,aK,j,E,⟨b,e,a6,aC⟩⟩
 have aB:=B;have D:=Xr8 h0 h1 B;refine Zs i fun _ aL=>?_;refine Zm rfl<|Zm rfl<|Zm rfl<|Zf (Vc (Xen _ bV B0 A0 c0 A1 c1 J d ⟨b,e,z,M⟩ (Q0 L j.size) p q (by omega)) X85) ?_;rintro _ w5 ⟨aZ,b0,m,G,o,f,aM,aD⟩;have g:=SB.lift (S:=SB bV [A0,A1]) (w0:=w0) (.inl (.inl rfl)) (alc N (alc a8 al0));have G:=Us.trans G g j.size
 have j:=tstr j m g;clear g
 clear m b;have b:=o;clear o
 clear e;have e:=f;clear f;refine Zx aL fun a i _ aN=>?_;refine Zm rfl<|Zm rfl<|Zm rfl<|Zf (Vc (Xcz _ bV B0 A0 c0 aZ b0 J ({ d with ws:=ctO d.ws p q } : Dg) ⟨b,e,aM,aD⟩ (Q0 L j.size) p q false (Xos aA p q) (Xno aA) (by dsimp only;omega)) X69) ?_;rintro _ w6 ⟨b1,b2,m,H,o,f,aO,aE⟩;have g:=SB.lift (S:=SB bV [A0,A1]) (w0:=w0) (.inl (.inl rfl)) (alc N (alc G al0));have H:=Us.trans H g j.size
 have j:=tstr j m g;clear g
 clear m b;have b:=o;clear o
 clear e;have e:=f;clear f;refine Zx aN fun a i _ aP=>?_;refine Zm rfl<|Zm rfl<|Zm rfl<|Ze (Xpn rfl rfl)<|Zf (Vc (X9l _ bV B0 A0 c0 b1 b2 J ({ ({ d with ws:=ctO d.ws p q } : Dg) with ws:=jnW ({ d with ws:=ctO d.ws p q } : Dg).ws p q false } : Dg) ⟨b,e,aO,aE⟩ (Q0 L j.size) (min p q) 4 (Xho aT) aU ⟨by decide,by decide⟩) X5i) ?_;rintro _ w7 ⟨aQ,aR,m,I,o,f,a7,aF⟩;have g:=SB.lift (S:=SB bV [A0,A1]) (w0:=w0) (.inl (.inl rfl)) (alc N (alc H al0));have I:=Us.trans I g j.size
 have j:=tstr j m g;clear g
 clear m b;have b:=o;clear o
 clear e;have e:=f;clear f;refine Zt aP fun a i=>?_;refine Zr i<|Zm rfl<|Ze (X03 rfl)<|Ze (Vd rfl Xy 4)<|Ze (X0 rfl Xa (b.at 4))<|Ze (X9t rfl rfl)<|Ze (X03 rfl)<|Ze (Vd rfl Xy 4)<|Zo (X17 (vs:=[vi (wr ((({ ({ ({ d with ws:=ctO d.ws p q } : Dg) with ws:=jnW ({ d with ws:=ctO d.ws p q } : Dg).ws p q false } : Dg) with ns:=adN ({ ({ d with ws:=ctO d.ws p q } : Dg) with ws:=jnW ({ d with ws:=ctO d.ws p q } : Dg).ws p q false } : Dg).ns (min p q) 4 } : Dg).r)-1))]) (l':=[vi (({ ({ ({ d with ws:=ctO d.ws p q } : Dg) with ws:=jnW ({ d with ws:=ctO d.ws p q } : Dg).ws p q false } : Dg) with ns:=adN ({ ({ d with ws:=ctO d.ws p q } : Dg) with ws:=jnW ({ d with ws:=ctO d.ws p q } : Dg).ws p q false } : Dg).ns (min p q) 4 } : Dg).n),.slice A0 J c0,.slice aQ (({ ({ ({ d with ws:=ctO d.ws p q } : Dg) with ws:=jnW ({ d with ws:=ctO d.ws p q } : Dg).ws p q false } : Dg) with ns:=adN ({ ({ d with ws:=ctO d.ws p q } : Dg) with ws:=jnW ({ d with ws:=ctO d.ws p q } : Dg).ws p q false } : Dg).ns (min p q) 4 } : Dg).ws).length aR,vi (({ ({ ({ d with ws:=ctO d.ws p q } : Dg) with ws:=jnW ({ d with ws:=ctO d.ws p q } : Dg).ws p q false } : Dg) with ns:=adN ({ ({ d with ws:=ctO d.ws p q } : Dg) with ws:=jnW ({ d with ws:=ctO d.ws p q } : Dg).ws p q false } : Dg).ns (min p q) 4 } : Dg).t),vi (wr ((({ ({ ({ d with ws:=ctO d.ws p q } : Dg) with ws:=jnW ({ d with ws:=ctO d.ws p q } : Dg).ws p q false } : Dg) with ns:=adN ({ ({ d with ws:=ctO d.ws p q } : Dg) with ws:=jnW ({ d with ws:=ctO d.ws p q } : Dg).ws p q false } : Dg).ns (min p q) 4 } : Dg).r)-1))]) rfl rfl X0a b rfl rfl rfl rfl rfl) ?_;rintro _ w8 ⟨ho,hb⟩;have C:=b;have e:=e.oT ho C rfl;have a7:=a7.oT ho C rfl;have j:=tsonly j ho (.inl (.inl rfl));have b:=hb;refine Zn fun a i=>?_;refine Xb<|X1t i (X2n rfl) ?_
 rw [D]
 exact ⟨aQ,aR,j,I,⟨b,e,a7,aF⟩⟩
theorem Xl6(w0:World)(bV B0:Nat)(A0:Option Addr)(c0:Nat)(A1:Option Addr)(c1 E:Nat)(d:Dg)(aH:Dgm w0 bV B0 A0 c0 A1 c1 E d)(a8:B0<=w0.heap.size)(p:Int)(q:Int)(x:Bool)(aA:WSd d.ws)(aI:d.ws.length<=80000000)(aJ:(0<=p/\p.toNat<d.ns.length)/\(0<=q/\q.toNat<d.ns.length))(aK:PhN d.ns)(hN:E<=1000)(hab:(spI d.ns p&&spI d.ns q)=false->fdW d.ws p q<0) : Ret Tryz.prog 214 [(pZ9 bV),vi p,vi q,.bool x] w0 (fun v w=>∃ A c,TurnS (SB bV [A0,A1]) w0 w/\Us (SB bV [A0,A1]) w0 A/\Dgm w bV B0 A0 c0 A c E (mtD d p q x)):=by
 obtain ⟨e,f,g,G⟩:=aH;have aO:=e.lt
 have aB:Us (SB bV [A0,A1]) w0 A0:=SB.us (by simp)
 have aC:Us (SB bV [A0,A1]) w0 A1:=SB.us (by simp)
 refine enter Tryz.func214 rfl 30 rfl rfl ?_;intro a m
 have j:TurnS (SB bV [A0,A1]) w0 w0:=TurnS.refl _ _
 refine Q5 fun _ aL=>?_;refine X06 (fun a w=>Fr a 30 [(0,(pZ9 bV)),(1,vi p),(2,vi q),(3,.bool x),(19,.bool ((spI d.ns p)&&(spI d.ns q)))]/\Below w0.heap.size w0 w) ?_ ?_
 ·have o:=bz w0
  refine Zr m<|Zm rfl<|Ze (X03 rfl)<|Ze (X00 (l:=[vi d.n,.slice A0 E c0,.slice A1 d.ws.length c1,vi d.t,vi d.r]) rfl X2 (e.at 0) rfl)<|Zm rfl<|Zf (Vc (X4j _ d E G A0 c0 f.rd.top A1 c1 g.rd.top g.cap p hN) X2f) ?_;rintro _ w1 ⟨rfl,u⟩;have e:=e.bw u;have f:=f.bw u;have g:=g.bw u;have j:=tsbel j u;have o:=btr o u;refine Zm rfl ?_
  refine Zg 13 rfl (fun b=>?_) (fun b=>?_)
  ·refine Zv (gW b) (X3 rfl) ?_;refine Zv (gW b) (X03 rfl) ?_;refine Zv (gW b) (X00 (l:=[vi d.n,.slice A0 E c0,.slice A1 d.ws.length c1,vi d.t,vi d.r]) rfl X2 (e.at 0) rfl) ?_;refine Zv (gW b) (X3 rfl) ?_;refine Zk (gW b) (Vc (X4j _ d E G A0 c0 f.rd.top A1 c1 g.rd.top g.cap q hN) X2f) ?_;rintro _ w2 ⟨rfl,u⟩;have j:=tsbel j u;have o:=btr o u;refine Ze (X5 rfl b rfl) ?_;refine Zn fun a m=>?_
   have a6:Below w0.heap.size w0 w2:=o
   exact ⟨m.sub ⟨rfl,rfl,rfl,rfl,X1 rfl (by first|rfl|(simp only [b,bs];done)|simp [b]),trivial⟩,a6⟩
  (iterate 5 refine Zp (gP b) ?_);refine Ze (X9 rfl b rfl) ?_;refine Zn fun a m=>?_
  have a6:Below w0.heap.size w0 w1:=o
  exact ⟨m.sub ⟨rfl,rfl,rfl,rfl,X1 rfl (by first|rfl|(simp only [b,bs];done)|simp [b]),trivial⟩,a6⟩
 rintro a w3 ⟨m,u⟩;have e:=e.bw u;have f:=f.bw u;have g:=g.bw u;have j:=tsbel j u;refine aL _ _ ?_
 refine Xf m rfl (fun y=>?_) (fun y=>?_)
 ·have aD:=y;have a7:=Xqp (h:=x) y;refine Zr m<|Zm rfl<|Zm rfl<|Zm rfl<|Zm rfl<|Zf (Vc (Xt8 _ bV B0 A0 c0 A1 c1 E d ⟨e,f,g,G⟩ (Q0 a8 j.size) p q x aA aI aJ aK) Xi4) ?_;rintro _ w4 ⟨A6,c6,z,B,C,i,aM,aE⟩;have k:=SB.lift (S:=SB bV [A0,A1]) (w0:=w0) (.inl (.inl rfl)) (alc aB (alc aC al0));have B:=Us.trans B k j.size
  have j:=tstr j z k;clear k
  clear z e;have e:=C;clear C
  clear f;have f:=i;clear i;refine Zn fun a m=>?_;refine X1t m (X2n rfl) ?_
  rw [a7]
  exact ⟨A6,c6,j,B,⟨e,f,aM,aE⟩⟩
 have aD:=y;have aF:=y;have a7:=Xtx (h:=x) aF;refine Zr m<|Zm rfl<|Zm rfl<|Zm rfl<|Zm rfl<|Zf (Vc (Xcz _ bV B0 A0 c0 A1 c1 E d ⟨e,f,g,G⟩ (Q0 a8 j.size) p q x aA (hab aF) (by omega)) X69) ?_;rintro _ w5 ⟨A7,c7,z,D,C,i,aN,aG⟩;have k:=SB.lift (S:=SB bV [A0,A1]) (w0:=w0) (.inl (.inl rfl)) (alc aB (alc aC al0));have D:=Us.trans D k j.size
 have j:=tstr j z k;clear k
 clear z e;have e:=C;clear C
 clear f;have f:=i;clear i;refine Zn fun a m=>?_;refine X1t m (X2n rfl) ?_
 rw [a7]
 exact ⟨A7,c7,j,D,⟨e,f,aN,aG⟩⟩
theorem Xty(w0:World)(bV B0:Nat)(A0:Option Addr)(c0:Nat)(A1:Option Addr)(c1 G:Nat)(d:Dg)(aN:Dgm w0 bV B0 A0 c0 A1 c1 G d)(aA:B0<=w0.heap.size)(p:Int)(hG:goodD d=true) : Ret Tryz.prog 169 [(pZ9 bV),vi p] w0 (fun v w=>∃ A c,v=.bool (idC d p)/\TurnS (SB bV [A0,A1]) w0 w/\Us (SB bV [A0,A1]) w0 A/\Dgm w bV B0 A0 c0 A c G (if idC d p=true then idD d p else d)):=by
 obtain ⟨e,f,i,y⟩:=aN;have aY:=e.lt
 have aB:Us (SB bV [A0,A1]) w0 A0:=SB.us (by simp)
 have aC:Us (SB bV [A0,A1]) w0 A1:=SB.us (by simp)
 have M:=X1b hG;have aZ:=M.m;have b0:=M.len;have b1:=X1v d.ws p;refine enter Tryz.func169 rfl 66 rfl rfl ?_;intro a u
 have x:TurnS (SB bV [A0,A1]) w0 w0:=TurnS.refl _ _
 refine Zs u fun _ aO=>?_;refine Za rfl<|ZX aO fun a u _ aP=>?_;refine Q5 fun _ aQ=>?_;refine X06 (fun a w=>Fr a 66 [(0,(pZ9 bV)),(1,vi p),(31,.bool (((!(spI d.ns p))||(((d.ns.getD p.toNat nZ).p) != 0))||((cnW d.ws p) != 2)))]/\Below w0.heap.size w0 w) ?_ ?_
 ·have h:=bz w0
  refine Zr u<|Zm rfl<|Ze (X03 rfl)<|Ze (X00 (l:=[vi d.n,.slice A0 G c0,.slice A1 d.ws.length c1,vi d.t,vi d.r]) rfl X2 (e.at 0) rfl)<|Zm rfl<|Zf (Vc (X4j _ d G y A0 c0 f.rd.top A1 c1 i.rd.top i.cap p (by omega)) X2f) ?_;rintro _ w1 ⟨rfl,o⟩;have e:=e.bw o;have f:=f.bw o;have i:=i.bw o;have x:=tsbel x o;have h:=btr h o;refine Ze (X0z rfl)<|Zm rfl ?_
  refine Zg 13 rfl (fun g=>?_) (fun g=>?_)
  ·(iterate 9 refine Zp (gP g) ?_);refine Ze (X5 rfl g rfl)<|Zm rfl<|Zp (gP rfl) ?_;(iterate 5 refine Zp (gP rfl) ?_);refine Ze (X5 rfl rfl rfl) ?_;refine Zn fun a u=>?_
   have I:Below w0.heap.size w0 w1:=h
   exact ⟨u.sub ⟨rfl,rfl,X1 rfl (by first|rfl|(simp only [g,bs];done)|simp [g]),trivial⟩,I⟩
  have a6:0<=p/\p.toNat<d.ns.length:=by have h9:=X0s (ns:=d.ns) (k:=p) (by simpa using g);exact ⟨h9.1,h9.2.1⟩
  refine Zv (gW g) (X3 rfl) ?_;refine Zv (gW g) (X03 rfl) ?_;refine Zv (gW g) (Vd rfl Xc 1) ?_;refine Zv (gW g) (X0 rfl Xv (e.at 1)) ?_;refine Zv (gW g) (X3 rfl) ?_;refine Zv (gW g) (Xp (k:=p.toNat) rfl rfl Xm X05 f y (by omega) (by omega)) ?_;refine Zv (gW g) (X0w rfl X04 (m':=p.toNat*2+1) rfl) ?_;refine Zv (gW g) (X0 rfl Xa (X0u f Xt (Xg (d:=nZ) (by omega)) 1 rfl)) ?_;refine Zv (gW g) (X1c rfl rfl) ?_;refine Ze (X9 rfl g rfl)<|Zm rfl ?_
  refine Zg 24 rfl (fun q=>?_) (fun q=>?_)
  ·(iterate 6 refine Zp (gP q) ?_);refine Ze (X5 rfl q rfl) ?_;refine Zn fun a u=>?_
   have I:Below w0.heap.size w0 w1:=h
   exact ⟨u.sub ⟨rfl,rfl,X1 rfl (by first|rfl|(simp only [g,q,bs];done)|simp [g,q]),trivial⟩,I⟩
  refine Zv (gW q) (X3 rfl) ?_;refine Zv (gW q) (X03 rfl) ?_;refine Zv (gW q) (X00 (l:=[vi d.n,.slice A0 G c0,.slice A1 d.ws.length c1,vi d.t,vi d.r]) rfl X2 (e.at 0) rfl) ?_;refine Zv (gW q) (X3 rfl) ?_;refine Zk (gW q) (Vc (X6v _ d G y A0 c0 f.rd.top A1 c1 i.rd.top i.cap p (by omega)) X37) ?_;rintro _ w2 ⟨rfl,o⟩;have x:=tsbel x o;have h:=btr h o;refine Zv (gW q) (X1c rfl rfl) ?_;refine Ze (X9 rfl q rfl) ?_;refine Zn fun a u=>?_
  have I:Below w0.heap.size w0 w2:=h
  exact ⟨u.sub ⟨rfl,rfl,X1 rfl (by first|rfl|(simp only [g,q,bs];done)|simp [g,q]),trivial⟩,I⟩
 rintro a w3 ⟨u,o⟩;have e:=e.bw o;have f:=f.bw o;have i:=i.bw o;have x:=tsbel x o;refine aQ _ _ ?_
 refine Xf u rfl (fun J=>?_) (fun J=>?_)
 ·have aD:=J;have aR:=Xr2 M J;refine Zs u fun _ aS=>?_;refine Za rfl<|Zt aS fun a u=>?_;refine Q6<|X8<|X6 u (Xs u rfl rfl) ?_
  rw [aR,Q3 Bool.false_ne_true]
  exact ⟨A1,c1,rfl,x,aC,⟨e,f,i,y⟩⟩
 have aD:=J;obtain ⟨aT,b2,a6⟩:=Xoe M J
 have aE:=X6c M (k:=p) (j:=0) (by omega)
 have aF:=X6c M (k:=p) (j:=1) (by omega)
 have aG:(id0 d p).ns.length=d.ns.length:=X1k _ _
 refine Q7<|aP _ _<|Zs u fun _ aH=>?_;refine Zm rfl<|Ze (X03 rfl)<|Ze (X00 (l:=[vi d.n,.slice A0 G c0,.slice A1 d.ws.length c1,vi d.t,vi d.r]) rfl X2 (e.at 0) rfl)<|Zm rfl<|Zf (Vc (X7d _ d G y A0 c0 f.rd.top A1 c1 i.rd.top i.cap p M.w (by omega)) X43) ?_;rintro _ w4 ⟨b3,b4,rfl,b,o⟩;have b:=b.lower x.size;have e:=e.bw o;have f:=f.bw o;have i:=i.bw o;have x:=tsbel x o;refine Za rfl<|ZX aH fun a u _ aI=>?_;refine Xz none (fun _=>false) mixed ?_;intro w5 o;have e:=e.bw o;have f:=f.bw o;have i:=i.bw o;have b:=b.bw o;have x:=tsbel x o;refine Yb u<|Yo 0 rfl (fun _=>X3 rfl)<|Yo 1 rfl (fun _=>X03 rfl)<|Ye 2 rfl (X00 (l:=[vi d.n,.slice A0 G c0,.slice A1 d.ws.length c1,vi d.t,vi d.r]) rfl X2 (e.at 0) rfl)<|Yo 3 rfl (fun _=>X3 rfl)<|Yo 4 rfl (fun _=>X3 rfl)<|Yo 5 rfl (fun _=>Xp (k:=0) rfl rfl Xk X0a b rfl rfl (by omega))<|Ye 6 rfl (X0 rfl Xa (X0u b Xh (Xg (k:=0) (d:=(0:Int)) (by omega)) 0 rfl))<|Yo 8 rfl (fun _=>X3 rfl)<|Yo 9 rfl (fun _=>X03 rfl)<|Ye 10 rfl (X00 (l:=[vi d.n,.slice A0 G c0,.slice A1 d.ws.length c1,vi d.t,vi d.r]) rfl X2 (e.at 0) rfl) ?_;refine Yo 11 rfl (fun _=>X3 rfl)<|Yo 12 rfl (fun _=>X3 rfl)<|Yo 13 rfl (fun _=>Xp (k:=1) rfl rfl Xk X0a b rfl rfl (by omega))<|Ye 14 rfl (X0 rfl Xa (X0u b Xh (Xg (k:=1) (d:=(0:Int)) (by omega)) 0 rfl))<|Y1 7 ?_;refine Yk rfl tv0 (Vc (X5h _ d G y A0 c0 f.rd.top A1 c1 i.rd.top i.cap p ((nearW d.ws p).getD 0 0) (by omega)) X2r) (fun _ _ ⟨_,o⟩=>o) ?_;rintro _ w6 ⟨rfl,o⟩;have e:=e.bw o;have f:=f.bw o;have i:=i.bw o
 have b:=b.bw o;have x:=tsbel x o;refine Y1 15<|Yk rfl tv0 (Vc (X5h _ d G y A0 c0 f.rd.top A1 c1 i.rd.top i.cap p ((nearW d.ws p).getD 1 0) (by omega)) X2r) (fun _ _ ⟨_,o⟩=>o) ?_;rintro _ w7 ⟨rfl,o⟩;have e:=e.bw o;have f:=f.bw o;have i:=i.bw o;have b:=b.bw o;have x:=tsbel x o;refine Yo 16 rfl (fun _=>X1c rfl rfl)<|Yo 17 rfl (fun _=>X0h rfl) ?_;refine Yd fun a u=>?_;refine aI _ _<|Zs u fun _ aJ=>?_;refine Zm rfl<|Zm rfl<|Zf (Vc (X7e _ bV B0 A0 c0 A1 c1 G d ⟨e,f,i,y⟩ (Q0 aA x.size) p a6 (by omega)) X40) ?_;rintro _ w8 ⟨aU,aV,B,C,L,z,H,a7⟩;have b:=b.tu B e rfl (alc (X0r f rfl) (alc (X0r i rfl) al0));have D:=SB.lift (S:=SB bV [A0,A1]) (w0:=w0) (.inl (.inl rfl)) (alc aB (alc aC al0));have C:=Us.trans C D x.size
 have x:=tstr x B D;clear D
 clear B e;have e:=L;clear L
 clear f;have f:=z;clear z;refine ZX aJ fun a u _ aK=>?_;refine Xz none (fun j=>[8].contains j) mixed ?_;intro w9 o;have e:=e.bw o;have f:=f.bw o;have b:=b.bw o;have H:=H.bw o;have x:=tsbel x o;refine Yb u<|Yo 0 rfl (fun _=>X3 rfl)<|Yo 1 rfl (fun _=>X3 rfl)<|Yo 2 rfl (fun _=>Xp (k:=0) rfl rfl Xk X0a b rfl rfl (by omega))<|Ye 3 rfl (X0 rfl Xa (X0u b Xh (Xg (k:=0) (d:=(0:Int)) (by omega)) 0 rfl))<|Yo 4 rfl (fun _=>X3 rfl)<|Yo 5 rfl (fun _=>Xp (k:=1) rfl rfl Xk X0a b rfl rfl (by omega))<|Ye 6 rfl (X0 rfl Xa (X0u b Xh (Xg (k:=1) (d:=(0:Int)) (by omega)) 0 rfl))<|Yo 7 rfl (fun _=>X3 rfl)<|Y1 8 ?_;refine Yt rfl tv0 rfl (Vc (Xl6 _ bV B0 A0 c0 aU aV G (id0 d p) ⟨e,f,H,a7⟩ (Q0 aA x.size) ((nearW d.ws p).getD 0 0) ((nearW d.ws p).getD 1 0) ((tyW d.ws p ((nearW d.ws p).getD 0 0)) != (tyW d.ws p ((nearW d.ws p).getD 1 0))) (List.Pairwise.filter _ M.w.s) (by show (dpW d.ws p).length<=_;omega) ⟨⟨aE.1,by rw [aG];exact aE.2⟩,⟨aF.1,by rw [aG];exact aF.2⟩⟩ (X3r M.p p) (by omega) (Xkr hG a6.1 (Xcp (by omega)) (Xcp (by omega)))) Xbh) ?_;rintro _ b5 ⟨aW,aX,B,E,L,z,aL,a8⟩;have b:=b.tu B e rfl (alc (X0r f rfl) (alc (X0r H rfl) al0));have D:=SB.lift (S:=SB bV [A0,A1]) (w0:=w0) (.inl (.inl rfl)) (alc aB (alc C al0));have E:=Us.trans E D x.size
 have x:=tstr x B D;clear D
 clear B e;have e:=L;clear L
 clear f;have f:=z;clear z;refine Yd fun a u=>?_;refine aK _ _<|Zs u fun _ aM=>?_;refine Za rfl<|Zt aM fun a u=>?_
 refine Q6 (X6 u (Xs u rfl rfl) ?_)
 rw [aT,Q4 rfl]
 exact ⟨aW,aX,rfl,x,E,⟨e,f,aL,a8⟩⟩
theorem Xiz(l:List Wr)(a b:Int)(h:Bool) : jnW l a b h=jnW l b a h:=by unfold jnW;rw [Int.min_comm,Int.max_comm]
theorem Xbe(d:Dg)(a b:Int) : tgD d a b=tgD d b a:=by unfold tgD;rw [Xc7,Xiz]
def NoPl(ws:List Wr)(l:List Int) : Prop:=∀ w ∈ ws,∀ u ∈ l,∀ v ∈ l,isW u v w=true->w.h=true
theorem NoPl.ty{ws:List Wr}{l:List Int}(h:NoPl ws l){u v:Int}(hu:u ∈ l)(hv:v ∈ l) : tyW ws u v≠1:=by
 unfold tyW
 split
 ·decide
 ·rename_i h0
  obtain ⟨w,h1,h2,_⟩:=X7i (l:=ws) (a:=u) (b:=v) (by omega)
  have h3:=h w (Qe h1) u hu v hv h2
  rw [show ws.getD (fdW ws u v).toNat wZ=w from by rw [Qa,h1];rfl,h3]
  decide
theorem NoPl.tgI{d:Dg}{l:List Int}(h:NoPl d.ws l){u v:Int}(hu:u ∈ l)(hv:v ∈ l) : tgI d u v=tgD d u v:=by
 unfold Go.Proofs.YtipiejccbmifnaaGreatDoor.tgI
 rw [Q3 (h.ty hu hv)]
theorem NoPl.sub{ws ws':List Wr}{l:List Int}(h:NoPl ws l)(hs:∀ w ∈ ws',w ∈ ws) : NoPl ws' l:=fun w hw=>h w (hs w hw)
theorem NoPl.tg{d:Dg}{l:List Int}(h:NoPl d.ws l)(u v:Int) : NoPl (tgD d u v).ws l:=by
 unfold tgD
 split
 ·exact h.sub fun w hw=>(X2y _ _).subset hw
 ·intro w hw
  rcases X4t.1 hw with rfl|hw
  ·intro _ _ _ _ _;rfl
  ·exact h w hw
theorem Xsv{d:Dg}(hw:WSd d.ws)(u v:Int) : WSd (tgD d u v).ws:=by
 unfold tgD
 split
 ·exact X9i hw _
 ·rename_i h
  exact X6q hw (by omega)
theorem X9s{d:Dg}(hD:InD d){l:List Int}(h:rdyD d l=true) : NoPl d.ws l:=by
 intro w hw u hu v hv hwv
 unfold rdyD at h
 rw [W1] at h
 have key:∀ i j (hi:i<l.length) (hj:j<i),tyW d.ws (l.getD i 0) (l.getD j 0)≠1:=fun i j hi hj=>by
  have h1:=h i (W2.2 hi)
  unfold rdQ at h1
  rw [Qd,W1] at h1
  have h2:=h1.2 (l.getD j 0) (by
   have:(l.take i)[j]? = some (l.getD j 0):=by rw [Wg hj];exact Xg (by omega)
   exact Qe this)
  simpa using h2
 have hiw:=X31.1 hwv;have hab:=hD.w.l w hw
 have hne:u≠v:=fun e=>by subst e;rw [hiw.1,hiw.2,Int.min_self,Int.max_self] at hab;omega
 obtain ⟨i,hi,rfl⟩:=List.mem_iff_getElem.1 hu;obtain ⟨j,hj,rfl⟩:=List.mem_iff_getElem.1 hv
 have gi:l.getD i 0=l[i]:=by rw [Qa,Qc hi];rfl
 have gj:l.getD j 0=l[j]:=by rw [Qa,Qc hj];rfl
 have hty:tyW d.ws l[i] l[j]≠1:=by
  rcases Nat.lt_trichotomy i j with h9|h9|h9
  ·have:=key j i hj h9
   rw [gi,gj,Xdn] at this
   exact this
  ·subst h9;exact absurd rfl hne
  ·have:=key i j hi h9
   rw [gi,gj] at this
   exact this
 have hfd:0<=fdW d.ws l[i] l[j]:=by
  rcases X3t d.ws l[i] l[j] with ⟨_,h2⟩|⟨k,x,h1,_⟩
  ·rw [h2 w hw] at hwv;cases hwv
  ·omega
 obtain ⟨x,h1,h2,_⟩:=X7i hfd;have hx:=X31.1 h2
 have e:x=w:=by
  refine Xhm hD.w.s (Qe h1) hw ?_ ?_
  ·rw [X5p];omega
  ·rw [X5p];omega
 subst e
 rw [Xot hfd,show d.ws.getD (fdW d.ws l[i] l[j]).toNat wZ=x from by rw [Qa,h1];rfl] at hty
 cases hh:x.h with
 | true=>rfl
 | false=>rw [hh] at hty;simp at hty
theorem Xn6(ns:List Nd)(x p:Int) : adN ns x (-p)=adN ns x (8-p):=by
 unfold adN
 congr 2
 omega
theorem Xly{L:List Int}{x:Int}(hx:x ∈ L) : ∀ (r:List Int) (o:Dg),NoPl o.ws L->(∀ y ∈ r,y ∈ L)->r.foldl (fun o y=>tgI o y x) o=tgL o x r/\NoPl (tgL o x r).ws L
 | [],o,h,_=>⟨rfl,h⟩
 | y::r,o,h,hr=>by
  have hy:=hr y (by simp)
  have e:tgI o y x=tgD o x y:=by rw [h.tgI hy hx,Xbe]
  have ih:=Xly hx r (tgD o x y) (h.tg x y) fun z hz=>hr z (by simp [hz])
  rw [List.foldl_cons,e]
  exact ih
def lcI(p:Int)(l:List Int)(o:Dg) : Nat->Dg
 | 0=>o
 | i+1=>(l.take i).foldl (fun o y=>tgI o y (l.getD i 0)) { lcI p l o i with ns:=adN (lcI p l o i).ns (l.getD i 0) (-p) }
theorem Xg4{p:Int}{l:List Int}{o:Dg}(h:NoPl o.ws l) : ∀ i,i<=l.length->lcI p l o i=lcS p l o i/\NoPl (lcS p l o i).ws l
 | 0,_=>⟨rfl,h⟩
 | i+1,hi=>by
  obtain ⟨h1,h2⟩:=Xg4 (p:=p) h i (by omega)
  have hx:l.getD i 0 ∈ l:=Qe (Xg (d:=0) (by omega))
  have h3:=Xly hx (l.take i) { lcS p l o i with ns:=adN (lcS p l o i).ns (l.getD i 0) (8-p) } h2 fun y hy=>Wd hy
  show (l.take i).foldl (fun o y=>tgI o y (l.getD i 0)) { lcI p l o i with ns:=adN (lcI p l o i).ns (l.getD i 0) (-p) }=_/\_
  rw [h1,Xn6]
  exact h3
theorem Xa4(d:Dg)(a:Int)(l:List Int)(hl:l=nearW d.ws a) : (!(l.any fun x=>!(spI d.ns x)||tyW d.ws a x != 2)&&!(prD d l))=(hadD d a&&rdyD d l):=by
 apply Bool.eq_iff_iff.2
 unfold hadD rdyD prD
 rw [<- hl]
 simp only [Qd,Bool.not_eq_true',W7,W1,W2]
 constructor
 ·rintro ⟨h1,h2⟩
  refine ⟨fun v hv=>?_,fun i hi=>?_⟩
  ·have:=h1 v hv
   simp only [Bool.or_eq_true,not_or,Bool.not_eq_true',Bool.not_eq_false] at this
   simpa using this.2
  ·have hm:l.getD i 0 ∈ l:=Qe (Xg (d:=0) hi)
   have h3:=h1 _ hm
   simp only [Bool.or_eq_true,not_or,Bool.not_eq_true',Bool.not_eq_false] at h3
   have h4:=h2 i hi
   unfold prQ at h4
   unfold rdQ
   rw [Qd,W1]
   refine ⟨h3.1,fun y hy=>?_⟩
   rw [Bool.not_eq_true,W7] at h4
   have:=h4 y hy
   simpa [bne] using this
 ·rintro ⟨h1,h2⟩
  refine ⟨fun v hv=>?_,fun i hi=>?_⟩
  ·obtain ⟨i,hi,rfl⟩:=List.mem_iff_getElem.1 hv;have h3:=h2 i hi
   unfold rdQ at h3
   rw [Qd] at h3
   have g:l.getD i 0=l[i]:=by rw [Qa,Qc hi];rfl
   rw [g] at h3
   have h4:=h1 _ hv
   rw [h3.1]
   simpa using h4
  ·have h3:=h2 i hi
   unfold rdQ at h3
   rw [Qd,W1] at h3
   unfold prQ
   rw [Bool.not_eq_true,W7]
   intro y hy
   have:=h3.2 y hy
   simpa [bne] using this
theorem Xmz{d:Dg}{a:Int}(h:(!(!((nearW d.ws a).any fun x=>!(spI d.ns x)||tyW d.ws a x != 2))||prD d (nearW d.ws a))=true) : lcC d a=false:=by
 have e:=Xa4 d a (nearW d.ws a) rfl
 unfold lcC
 rw [Bool.and_assoc,<- e]
 generalize ((nearW d.ws a).any fun x=>!(spI d.ns x)||tyW d.ws a x != 2)=u at h ⊢
 generalize prD d (nearW d.ws a)=v at h ⊢
 cases u<;>cases v<;>simp at h ⊢
theorem Xjk{d:Dg}(hD:InD d){a:Int}(h1:spI d.ns a=true/\((d.ns.getD a.toNat nZ).p=2∨(d.ns.getD a.toNat nZ).p=6))(h:(!(!((nearW d.ws a).any fun x=>!(spI d.ns x)||tyW d.ws a x != 2))||prD d (nearW d.ws a))=false) : lcC d a=true/\NoPl (id0 d a).ws (nearW d.ws a):=by
 have e:=Xa4 d a (nearW d.ws a) rfl
 have h3:(hadD d a&&rdyD d (nearW d.ws a))=true:=by
  rw [<- e]
  generalize ((nearW d.ws a).any fun x=>!(spI d.ns x)||tyW d.ws a x != 2)=u at h ⊢
  generalize prD d (nearW d.ws a)=v at h ⊢
  cases u<;>cases v<;>simp at h ⊢
 rw [Qd] at h3
 exact ⟨Xbl h1 (by rw [h3.1,h3.2];rfl),(X9s hD h3.2).sub fun w hw=>(List.mem_filter.1 hw).1⟩
theorem Xf7{p u:Int}{l:List Int}{o:Dg}{k:Nat}(hu:l[k]? = some u) : lcI p l o (k+1)=(l.take k).foldl (fun o y=>tgI o y u) { lcI p l o k with ns:=adN (lcI p l o k).ns u (-p) }:=by grind [adN,lcI,tgI]
theorem X8x(d:Dg)(a b:Int) : (tgI d a b).ns=d.ns:=by
 unfold tgI
 split
 ·rfl
 ·exact (X28 d a b).1
theorem Xbk(d:Dg)(a b:Int) : (tgI d a b).ws.length<=d.ws.length+1:=by
 unfold tgI
 split
 ·omega
 ·exact (X28 d a b).2
theorem Xef{d:Dg}(h:WSd d.ws)(a b:Int) : WSd (tgI d a b).ws:=by
 unfold tgI
 split
 ·exact h
 ·exact Xsv h a b
theorem Xra(w0:World)(bV B0:Nat)(A0:Option Addr)(c0:Nat)(A1:Option Addr)(c1 m0:Nat)(d:Dg)(bS:Dgm w0 bV B0 A0 c0 A1 c1 m0 d)(aO:B0<=w0.heap.size)(p:Int)(hG:goodD d=true) : Ret Tryz.prog 170 [(pZ9 bV),vi p] w0 (fun v w=>∃ A c,v=.bool (lcC d p)/\TurnS (SB bV [A0,A1]) w0 w/\Us (SB bV [A0,A1]) w0 A/\Dgm w bV B0 A0 c0 A c m0 (if lcC d p=true then outD (lcD d p) else d)):=by
 obtain ⟨b,f,B,U⟩:=bS;have cR:=b.lt
 have aP:Us (SB bV [A0,A1]) w0 A0:=SB.us (by simp)
 have aQ:Us (SB bV [A0,A1]) w0 A1:=SB.us (by simp)
 have hD:=X1b hG;have cV:=hD.m;have cW:=hD.len;have bT:=X1v d.ws p;have cS:=X2q hD p;have cX:=X1l hD.p p.toNat;refine enter Tryz.func170 rfl 107 rfl rfl ?_;intro a i
 have C:TurnS (SB bV [A0,A1]) w0 w0:=TurnS.refl _ _
 refine Zs i fun _ bU=>?_;refine Za rfl<|ZX bU fun a i _ bW=>?_;refine Q5 fun _ bX=>?_;refine X06 (fun a w=>Fr a 107 [(0,(pZ9 bV)),(1,vi p),(28,.bool ((!(spI d.ns p))||((((d.ns.getD p.toNat nZ).p).tmod 4) != 2)))]/\Below w0.heap.size w0 w) ?_ ?_
 ·have M:=bz w0
  refine Zr i<|Zm rfl<|Ze (X03 rfl)<|Ze (X00 (l:=[vi d.n,.slice A0 m0 c0,.slice A1 d.ws.length c1,vi d.t,vi d.r]) rfl X2 (b.at 0) rfl)<|Zm rfl<|Zf (Vc (X4j _ d m0 U A0 c0 f.rd.top A1 c1 B.rd.top B.cap p (by omega)) X2f) ?_;rintro _ w1 ⟨rfl,D⟩;have b:=b.bw D;have f:=f.bw D;have C:=tsbel C D;have M:=btr M D;refine Ze (X0z rfl)<|Zm rfl ?_
  refine Zg 17 rfl (fun q=>?_) (fun q=>?_)
  ·(iterate 10 refine Zp (gP q) ?_);refine Ze (X5 rfl q rfl) ?_;refine Zn fun a i=>?_
   have aC:Below w0.heap.size w0 w1:=M
   exact ⟨i.sub ⟨rfl,rfl,X1 rfl (by first|rfl|(simp only [q,bs];done)|simp [q]),trivial⟩,aC⟩
  have b2:0<=p/\p.toNat<d.ns.length:=by have h9:=X0s (ns:=d.ns) (k:=p) (by simpa using q);exact ⟨h9.1,h9.2.1⟩
  refine Zv (gW q) (X3 rfl) ?_;refine Zv (gW q) (X03 rfl) ?_;refine Zv (gW q) (Vd rfl Xc 1) ?_;refine Zv (gW q) (X0 rfl Xv (b.at 1)) ?_;refine Zv (gW q) (X3 rfl) ?_;refine Zv (gW q) (Xp (k:=p.toNat) rfl rfl Xm X05 f U (by omega) (by omega)) ?_;refine Zv (gW q) (X0w rfl X04 (m':=p.toNat*2+1) rfl) ?_;refine Zv (gW q) (X0 rfl Xa (X0u f Xt (Xg (d:=nZ) (by omega)) 1 rfl)) ?_;refine Zv (gW q) (X3q rfl rfl rfl) ?_;refine Zv (gW q) (X1c rfl rfl) ?_;refine Ze (X9 rfl q rfl) ?_;refine Zn fun a i=>?_
  have aC:Below w0.heap.size w0 w1:=M
  exact ⟨i.sub ⟨rfl,rfl,X1 rfl (by first|rfl|(simp only [q,bs];done)|simp [q]),trivial⟩,aC⟩
 rintro a w2 ⟨i,D⟩;have b:=b.bw D;have f:=f.bw D;have B:=B.bw D;have C:=tsbel C D;refine bX _ _ ?_
 refine Xf i rfl (fun aJ=>?_) (fun aJ=>?_)
 ·have a6:=aJ;have aR:=Xeu hD aJ;refine Zs i fun _ bY=>?_;refine Za rfl<|Zt bY fun a i=>?_;refine Q6<|X8<|X6 i (Xs i rfl rfl) ?_
  rw [aR,Q3 Bool.false_ne_true]
  exact ⟨A1,c1,rfl,C,aQ,⟨b,f,B,U⟩⟩
 have a6:=aJ;have aK:=Xbu hD aJ
 have b2:0<=p/\p.toNat<d.ns.length:=⟨(X0s aK.1).1,(X0s aK.1).2.1⟩
 refine Q7<|bW _ _<|Q5 fun _ bZ=>?_;refine Xz none (fun _=>false) mixed ?_;intro w3 D;have b:=b.bw D;have f:=f.bw D;have B:=B.bw D;have C:=tsbel C D;refine Yb i<|Yo 0 rfl (fun _=>X3 rfl)<|Yo 1 rfl (fun _=>X03 rfl)<|Ye 2 rfl (X00 (l:=[vi d.n,.slice A0 m0 c0,.slice A1 d.ws.length c1,vi d.t,vi d.r]) rfl X2 (b.at 0) rfl)<|Yo 3 rfl (fun _=>X3 rfl)<|Yo 5 rfl (fun _=>X3 rfl)<|Yo 6 rfl (fun _=>X03 rfl)<|Yo 7 rfl (fun _=>Vd rfl Xc 1)<|Ye 8 rfl (X0 rfl Xv (b.at 1))<|Yo 9 rfl (fun _=>X3 rfl)<|Yo 10 rfl (fun _=>Xp (k:=p.toNat) rfl rfl Xm X05 f U (by omega) (by omega)) ?_;refine Yo 11 rfl (fun _=>X0w rfl X04 (m':=p.toNat*2+1) rfl)<|Ye 12 rfl (X0 rfl Xa (X0u f Xt (Xg (d:=nZ) (by omega)) 1 rfl))<|Y1 4 ?_;refine Yk rfl tv0 (Vc (X7d _ d m0 U A0 c0 f.rd.top A1 c1 B.rd.top B.cap p hD.w (by omega)) X43) (fun _ _ ⟨J,N,_,g,D⟩=>D) ?_;rintro _ w4 ⟨J,N,rfl,g,D⟩;have g:=g.lower C.size;have b:=b.bw D;have f:=f.bw D;have B:=B.bw D;have C:=tsbel C D;refine Yo 13 rfl (fun _=>X0h rfl)<|Yo 14 rfl (fun _=>X0h rfl) ?_;refine Yd fun a i=>?_;refine bZ _ _<|Q5 fun _ b3=>?_;refine Q5 fun _ b4=>?_;refine X06 (fun a w=>Fr a 107 [(0,(pZ9 bV)),(1,vi p),(5,.slice J (nearW d.ws p).length N),(6,vi ((d.ns.getD p.toNat nZ).p)),(55,.bool ((!(!((nearW d.ws p).any fun x=>!(spI d.ns x)||tyW d.ws p x != 2)))||(prD d (nearW d.ws p))))]/\Below w4.heap.size w4 w) ?_ ?_
 ·have M:Below w4.heap.size w4 w4:=Below.refl _ _
  refine Zr i<|Zm rfl<|Ze (X03 rfl)<|Ze (X00 (l:=[vi d.n,.slice A0 m0 c0,.slice A1 d.ws.length c1,vi d.t,vi d.r]) rfl X2 (b.at 0) rfl)<|Zm rfl<|Zm rfl<|Zf (Vc (Xf6 _ d m0 U A0 c0 f.rd.top A1 c1 B.rd.top B.cap p J N (nearW d.ws p) g.rd.top (by omega) (by omega) (by omega)) X8j) ?_;rintro _ w5 ⟨rfl,D⟩;have b:=b.bw D;have f:=f.bw D;have B:=B.bw D;have g:=g.bw D;have C:=tsbel C D;have M:=btr M D;refine Ze (X0z rfl)<|Zm rfl ?_
  refine Zg 49 rfl (fun h=>?_) (fun h=>?_)
  ·(iterate 5 refine Zp (gP h) ?_);refine Ze (X5 rfl h rfl) ?_;refine Zn fun a i=>?_
   have aC:Below w4.heap.size w4 w5:=M
   exact ⟨i.sub ⟨rfl,rfl,rfl,rfl,X1 rfl (by first|rfl|(simp only [a6,h,bs];done)|simp [a6,h]),trivial⟩,aC⟩
  refine Zv (gW h) (X3 rfl) ?_;refine Zv (gW h) (X03 rfl) ?_;refine Zv (gW h) (X00 (l:=[vi d.n,.slice A0 m0 c0,.slice A1 d.ws.length c1,vi d.t,vi d.r]) rfl X2 (b.at 0) rfl) ?_;refine Zv (gW h) (X3 rfl) ?_;refine Zk (gW h) (Vc (Xmb _ d m0 U A0 c0 f.rd.top A1 c1 B.rd.top B.cap J N (nearW d.ws p) g.rd.top (by omega) (by omega) g.cap) Xda) ?_;rintro _ w6 ⟨rfl,D⟩;have C:=tsbel C D;have M:=btr M D;refine Ze (X9 rfl h rfl) ?_;refine Zn fun a i=>?_
  have aC:Below w4.heap.size w4 w6:=M
  exact ⟨i.sub ⟨rfl,rfl,rfl,rfl,X1 rfl (by first|rfl|(simp only [a6,h,bs];done)|simp [a6,h]),trivial⟩,aC⟩
 rintro a w7 ⟨i,D⟩;have b:=b.bw D;have f:=f.bw D;have B:=B.bw D;have g:=g.bw D;have C:=tsbel C D;refine b4 _ _ ?_
 refine Xf i rfl (fun a7=>?_) (fun a7=>?_)
 ·have aS:=a7
  have aR:lcC d p=false:=Xmz a7
  refine Zs i fun _ b5=>?_;refine Za rfl<|Zt b5 fun a i=>?_;refine Q6<|X8<|X6 i (Xs i rfl rfl) ?_
  rw [aR,Q3 Bool.false_ne_true]
  exact ⟨A1,c1,rfl,C,aQ,⟨b,f,B,U⟩⟩
 have aS:=a7;obtain ⟨cA,cB⟩:=Xjk hD aK a7;refine Q7<|b3 _ _<|Zs i fun _ b6=>?_;refine Zm rfl<|Zm rfl<|Zf (Vc (X7e _ bV B0 A0 c0 A1 c1 m0 d ⟨b,f,B,U⟩ (Q0 aO C.size) p b2 (by omega)) X40) ?_;rintro _ w8 ⟨cC,cD,L,aD,a8,I,b7,cE⟩;have g:=g.tu L b rfl (alc (X0r f rfl) (alc (X0r B rfl) al0));have Q:=SB.lift (S:=SB bV [A0,A1]) (w0:=w0) (.inl (.inl rfl)) (alc aP (alc aQ al0));have aD:=Us.trans aD Q C.size
 have C:=tstr C L Q;clear Q
 clear L b;have b:=a8;clear a8
 clear f;have f:=I;clear I;refine ZX b6 fun a i _ b8=>?_;refine Zs i fun _ b9=>?_;refine Zm rfl<|Ze (X07 rfl Xk)<|Zm rfl<|Zt b9 fun a i=>?_;refine Q8<|X02 (σ:=Nat×Dg) (fun (s:Nat×Dg) (a:Act) (w:World)=>match s with|(k,o)=>∃ aA aE,Fr a 107 [(0,(pZ9 bV)),(5,.slice J (nearW d.ws p).length N),(6,vi ((d.ns.getD p.toNat nZ).p)),(59,.slice J (nearW d.ws p).length N),(60,vi ((nearW d.ws p).length:Int)),(61,vi (k:Int))]/\(k<=(nearW d.ws p).length)/\(o=lcI (d.ns.getD p.toNat nZ).p (nearW d.ws p) (id0 d p) k)/\(m0=o.ns.length)/\(o.ws.length<=d.ws.length+k*1000)/\(PhN o.ns)/\(WSd o.ws)/\Blk w bV 31 [vi o.n,.slice A0 m0 c0,.slice aA o.ws.length aE,vi o.t,vi o.r]/\Own w B0 76 2 encNd A0 c0 o.ns/\Own w w0.heap.size 3 1 encI J N (nearW d.ws p)/\Own w B0 84 3 encWr aA aE o.ws/\Us (SB bV [A0,A1]) w0 aA/\TurnS (SB bV [A0,A1]) w0 w) (fun (s:Nat×Dg)=>match s with|(k,o)=>(nearW d.ws p).length-k) (0,(id0 d p)) ?_ ?_
 ·exact ⟨cC,cD,i.sb,(Qf _),rfl,(U.trans (X1k _ _).symm),(Q0 bT (by omega)),(X3r hD.p p),(List.Pairwise.filter _ hD.w.s),b,f,g,b7,aD,C⟩
 rintro ⟨k,o⟩ a w9 ⟨aA,aE,i,hk,bA,aT,cF,aU,cG,b,f,g,E,aM,C⟩;refine Zs i fun _ bB=>?_;refine Ze (X0i rfl rfl)<|ZX bB fun a i _ bC=>?_
 refine Xf i rfl (fun G=>?_) (fun G=>?_)
 ·have aV:=G;have G:=Q2 G
  obtain ⟨cY,cT⟩:=X4 (l:=(nearW d.ws p)) (k:=k) (by omega)
  obtain ⟨u9,aW⟩:=X4 (l:=(nearW d.ws p)) (k:=k) (by have:=G;omega)
  have cH:=X4z hD aW;have cZ:=X1l aU u9.toNat;refine Q7<|bC _ _<|Q5 fun _ bD=>?_;refine Q8<|Zs i fun _ bE=>?_;refine Zm rfl<|Ze (Xp (k:=k) rfl rfl Xk X0a g rfl rfl (by omega))<|Ze (X0 rfl Xa (X0u g Xh aW 0 rfl))<|Za rfl<|Za rfl<|Zx bE fun a i _ bF=>?_;refine Zm rfl<|Zm rfl<|Zm rfl<|Ze (Vx (Xun rfl) (IntWalk.i64_in _ ⟨by omega,by omega⟩))<|Zf (Vc (X9l _ bV B0 A0 c0 aA aE m0 o ⟨b,f,E,aT⟩ (Q0 aO C.size) u9 (-(d.ns.getD p.toNat nZ).p) ⟨cH.1,by omega⟩ aU ⟨by omega,by omega⟩) X5i) ?_;rintro _ cI ⟨cJ,cK,L,aF,a8,I,bG,cL⟩;have g:=g.tu L b rfl (alc (X0r f rfl) (alc (X0r E rfl) al0));have Q:=SB.lift (S:=SB bV [A0,A1]) (w0:=w0) (.inl (.inl rfl)) (alc aP (alc aM al0));have aF:=Us.trans aF Q C.size
  have C:=tstr C L Q;clear Q
  clear L b;have b:=a8;clear a8
  clear f;have f:=I;clear I;refine Zx bF fun a i _ bH=>?_;refine Zm rfl<|Zm rfl ?_;have W:=(g.rd.top).takeK Xh k;refine Ze (X2d (l:=(nearW d.ws p)) (k:=k) rfl rfl Xk X0a rfl hk g.cap)<|Ze (X07 rfl Xk)<|Zm rfl<|Zt bH fun a i=>?_;refine Q8<|X02 (σ:=Nat×Dg) (fun (s:Nat×Dg) (a:Act) (w:World)=>match s with|(j,z)=>∃ aI aL,Fr a 107 [(0,(pZ9 bV)),(5,.slice J (nearW d.ws p).length N),(6,vi ((d.ns.getD p.toNat nZ).p)),(8,vi u9),(59,.slice J (nearW d.ws p).length N),(60,vi ((nearW d.ws p).length:Int)),(61,vi (k:Int)),(73,.slice J ((nearW d.ws p).take k).length N),(74,vi (((nearW d.ws p).take k).length:Int)),(75,vi (j:Int))]/\(j<=((nearW d.ws p).take k).length)/\(z=(((nearW d.ws p).take k).take j).foldl (fun o y=>tgI o y u9) ({ o with ns:=adN o.ns u9 (-(d.ns.getD p.toNat nZ).p) } : Dg))/\(m0=z.ns.length)/\(z.ws.length<=o.ws.length+j)/\(PhN z.ns)/\(WSd z.ws)/\Blk w bV 31 [vi z.n,.slice A0 m0 c0,.slice aI z.ws.length aL,vi z.t,vi z.r]/\Own w B0 76 2 encNd A0 c0 z.ns/\Own w w0.heap.size 3 1 encI J N (nearW d.ws p)/\Rd w cI.heap.size 3 encI J ((nearW d.ws p).take k)/\Own w B0 84 3 encWr aI aL z.ws/\Us (SB bV [A0,A1]) w0 aI/\TurnS (SB bV [A0,A1]) w0 w) (fun (s:Nat×Dg)=>match s with|(j,z)=>((nearW d.ws p).take k).length-j) (0,({ o with ns:=adN o.ns u9 (-(d.ns.getD p.toNat nZ).p) } : Dg)) ?_ ?_
  ·exact ⟨cJ,cK,i.sb,(Qf _),rfl,(aT.trans (X1m _ _ _).symm),(Qb _),(X4l aU _ _),cG,b,f,g,W,bG,aF,C⟩
  rintro ⟨j,z⟩ a d5 ⟨aI,aL,i,hj,hz,aX,cM,bI,aY,b,f,g,W,aH,aN,C⟩;refine Zs i fun _ bJ=>?_;refine Ze (X0i rfl rfl)<|ZX bJ fun a i _ bK=>?_
  refine Xf i rfl (fun H=>?_) (fun H=>?_)
  ·have aZ:=H;have H:=Q2 H
   obtain ⟨d6,cU⟩:=X4 (l:=((nearW d.ws p).take k)) (k:=j) (by omega)
   obtain ⟨v9,b0⟩:=X4 (l:=(nearW d.ws p).take k) (k:=j) (by have:=H;omega)
   have d7:j<k:=by have:=(Qg.1 b0).1;rw [Qn] at this;omega
   refine Q7<|bK _ _<|Q5 fun _ bL=>?_;refine Q8<|Zs i fun _ bM=>?_;refine Zi (k:=j) (u:=v9) (enc:=encI) (l:=((nearW d.ws p).take k)) tv0 rfl rfl Xk X0a Xh W b0 rfl ?_;intro d8 b1;refine Ze (X0 rfl Xa b1)<|Za rfl<|Zt bM fun a i=>?_;refine Zr i<|Zm rfl<|Zm rfl<|Zm rfl<|Zf (Vc (Xlu _ bV B0 A0 c0 aI aL m0 z ⟨b,f,aH,aX⟩ (Q0 aO C.size) v9 u9 aY (by have:=cM;have:=cF;rw [Qn] at hj;omega)) Xd6) ?_;rintro _ d9 ⟨cN,cO,rfl,L,aG,a8,I,bN,cP⟩;have g:=g.tu L b rfl (alc (X0r f rfl) (alc (X0r aH rfl) al0));have W:=W.tu L b rfl (alc (X0r f rfl) (alc (X0r aH rfl) al0));have Q:=SB.lift (S:=SB bV [A0,A1]) (w0:=w0) (.inl (.inl rfl)) (alc aP (alc aN al0));have aG:=Us.trans aG Q C.size
   have C:=tstr C L Q;clear Q
   clear L b;have b:=a8;clear a8
   clear f;have f:=I;clear I;refine Zn fun a i=>?_;refine Xb<|bL _ _<|Zr i<|Ze (Xr rfl rfl (by omega) (by omega))<|Zm rfl ?_;refine Zn fun a i=>?_;refine Xe ?_;exact ⟨(j+1,(tgI z v9 u9)),⟨cN,cO,i.sb,(by omega),(by rw [X2x b0,<- hz]),(by rw [X8x];exact aX),(by have:=Xbk z v9 u9;omega),(by rw [X8x];exact bI),(Xef aY v9 u9),b,f,g,W,bN,aG,C⟩,(by first|omega|(dsimp only;omega))⟩
  have aZ:=H;have H:=Q1 H
  have dA:j<=k:=by rw [Qn] at hj;omega
  have cQ:z=lcI (d.ns.getD p.toNat nZ).p (nearW d.ws p) (id0 d p) (k+1):=by rw [hz,Qi (by have:=H;omega),bA,Xf7 aW]
  refine Q9<|Xl<|Xl<|X01 ?_;refine Xb<|bD _ _<|Zr i<|Ze (Xr rfl rfl (by omega) (by omega))<|Zm rfl ?_;refine Zn fun a i=>?_;refine Xe ?_;exact ⟨(k+1,z),⟨aI,aL,i.sb,(by omega),cQ,aX,(by omega),bI,aY,b,f,g,aH,aN,C⟩,(by first|omega|(dsimp only;omega))⟩
 have aV:=G;have G:=Q1 G
 have bO:o=lcS (d.ns.getD p.toNat nZ).p (nearW d.ws p) (id0 d p) (nearW d.ws p).length:=by rw [bA,show k=(nearW d.ws p).length by have:=G;omega];exact (Xg4 cB _ (Qb _)).1
 refine Q9<|Xl<|Xl<|X01 ?_;refine b8 _ _<|Q5 fun _ bP=>?_;refine Xz none (fun j=>[12].contains j) mixed ?_;intro dB D;have b:=b.bw D;have f:=f.bw D;have E:=E.bw D;have C:=tsbel C D;refine Yb i<|Yo 0 rfl (fun _=>X3 rfl)<|Yo 1 rfl (fun _=>X3 rfl)<|Yo 2 rfl (fun _=>X03 rfl)<|Yo 3 rfl (fun _=>Vd rfl X0l 3)<|Ye 4 rfl (X0 rfl Xa (b.at 3))<|Yo 5 rfl (fun _=>X11 (ps:=[(2,vi 1),(6,vi 7)]) (cs:=[vi 0,vi 0,vi 1,vi 0,vi 0,vi 0,vi 7]) rfl (fun _=>by first|rfl|kernel_rfl))<|Yo 6 rfl (fun _=>X3 rfl)<|Yo 7 rfl (fun _=>Xt7 (k:=(d.ns.getD p.toNat nZ).p.toNat) (vs:=[vi 0,vi 0,vi 1,vi 0,vi 0,vi 0,vi 7]) (v:=vi (if (d.ns.getD p.toNat nZ).p=2 then 1 else 7)) rfl rfl Tryz.underlying234 X0a Xa (by omega) (by rcases aK.2 with e|e<;>rw [e]<;>decide) (by rcases aK.2 with e|e<;>rw [e]<;>rfl))<|Yo 8 rfl (fun _=>X3h rfl rfl)<|Yo 9 rfl (fun _=>X3q rfl rfl rfl) ?_;refine Yo 10 rfl (fun _=>X03 rfl)<|Yo 11 rfl (fun _=>Vd rfl X0l 3)<|Y1 12 ?_;refine Yh rfl tv0 rfl (X17 (vs:=[vi ((wr (o.t+(if (d.ns.getD p.toNat nZ).p=2 then 1 else 7))).tmod 8)]) (l':=[vi o.n,.slice A0 m0 c0,.slice aA o.ws.length aE,vi ((wr (o.t+(if (d.ns.getD p.toNat nZ).p=2 then 1 else 7))).tmod 8),vi o.r]) rfl rfl X0a b rfl rfl rfl rfl rfl) ?_;rintro _ dC ⟨ho,hb⟩;have aB:=b;have f:=f.oT ho aB rfl;have E:=E.oT ho aB rfl;have C:=tsonly C ho (.inl (.inl rfl));have b:=hb;refine Yd fun a i=>?_;refine bP _ _<|Zs i fun _ bQ=>?_;refine Zm rfl<|Ze (X03 rfl)<|Ze (Vd rfl Xy 4)<|Ze (X0 rfl Xa (b.at 4))<|Zm rfl<|Ze (X07 rfl Xk)<|Ze (X1d rfl rfl (by omega) (by omega))<|Ze (X3h rfl rfl)<|Ze (X03 rfl)<|Ze (Vd rfl Xy 4) ?_
 refine Zo (X17 (vs:=[vi (wr (o.r+(1-((nearW d.ws p).length:Int))))]) (l':=[vi o.n,.slice A0 m0 c0,.slice aA o.ws.length aE,vi ((wr (o.t+(if (d.ns.getD p.toNat nZ).p=2 then 1 else 7))).tmod 8),vi (wr (o.r+(1-((nearW d.ws p).length:Int))))]) rfl rfl X0a b rfl rfl rfl rfl rfl) ?_;rintro _ dD ⟨ho,hb⟩;have aB:=b;have f:=f.oT ho aB rfl;have E:=E.oT ho aB rfl;have C:=tsonly C ho (.inl (.inl rfl));have b:=hb;refine Zx bQ fun a i _ bR=>?_;refine Za rfl<|Zt bR fun a i=>?_
 refine Q6 (X6 i (Xs i rfl rfl) ?_)
 rw [cA,Q4 rfl,Xgn bO]
 exact ⟨aA,aE,rfl,C,aM,⟨b,f,E,aT⟩⟩
theorem Xta(w0:World)(x k:Int)(ba:Nat)(a6:Blk w0 ba 3 [vi k]) : Ret Tryz.prog 265 [vi x,(pZ9 ba)] w0 (fun v w=>v=.bool (x==k)/\Below w0.heap.size w0 w):=by
 have a7:=a6.lt;refine enter Tryz.func265 rfl 7 rfl rfl ?_;intro a hf
 have hW:=bz w0
 refine Zs hf fun _ a8=>?_;refine Za rfl<|Zx a8 fun a hf _ aA=>?_;refine Zm rfl<|Ze (X0 rfl Xa (a6.at 0))<|Ze (X0f rfl rfl)<|Za rfl<|Zt aA fun a hf=>?_
 refine Q6 (X6 hf (Xs hf rfl rfl) ?_)
 exact ⟨rfl,hW⟩
theorem Xmm(g:World)(Al:Option Addr)(cl:Nat)(l:List Int)(i:Rd g g.heap.size 3 encI Al l)(k:Int)(a6:l.length<=1000000000) : Ret Tryz.prog 218 [.slice Al l.length cl,vi k] g (fun v w=>∃ A c,v=.slice A (l.filter fun v=>v != k).length c/\Own w g.heap.size 3 1 encI A c (l.filter fun v=>v != k)/\Below g.heap.size g w):=by
 refine enter Tryz.func218 rfl 9 rfl rfl ?_;intro a hf
 have d:=bz g
 refine Zs hf fun _ aA=>?_;refine Zf (X0q (zs:=[vi k]) rfl rfl) ?_;rintro _ w1 ⟨b3,rfl,a7,hE,e⟩;have aD:=Q0 d.size a7;have a8:=(i.bx d).away a7;have d:=btr d hE;refine Za rfl<|Zx aA fun a hf _ aB=>?_;refine Zm rfl<|Zf (Vc (Xuy _ Al cl l (i.bx d).top a6) Xo3) ?_;rintro _ w2 ⟨A6,c6,rfl,b,hE⟩;have f:=b.awayNew e.lt;have b:=b.lower d.size;have e:=e.bw hE;have d:=btr d hE;refine Ze (X35 (vs:=[(pZ9 b3)]) rfl)<|Zf (Vc (Xqa _ A6 c6 g.heap.size l b d.size 265 [(pZ9 b3)] Xk9 (fun v=>v==k) (fun x w' aC=>Xta w' x k _ (e.appA aC f)) a6) Xkt) ?_;rintro _ w3 ⟨rfl,j,hg⟩;have m:=b;have d:=Below.app d m hg (Qb _) d.size
 clear m hg;clear b;have b:=j;clear j;refine Za rfl<|Zt aB fun a hf=>?_
 refine Q6 (X6 hf (Xs hf rfl rfl) ?_)
 exact ⟨A6,c6,rfl,b,d⟩
def Off(w:World)(b:Nat)(l:List (Option Addr))(A:Option Addr) : Prop:=∀ k,ownB A=some k->k<w.heap.size/\¬ SB b l k
section
variable {α : Type} {w w' : World} {b B : Nat} {l l' : List (Option Addr)} {A : Option Addr} {E : TypeId} {sz c : Nat} {enc : α -> List Value} {r : List α}
theorem X6i(h:Own w B E sz enc A c r){k:Nat}(hk:ownB A=some k) : k<w.heap.size:=by
 obtain ⟨_,_,_,_,h3⟩:=h.block (k:=k) (by rw [X3j];exact hk)
 exact (Qp.1 h3).1
theorem Off.mono(h:Off w b l A)(hs:w.heap.size<=w'.heap.size) : Off w' b l A:=fun k hk=>⟨Nat.lt_of_lt_of_le (h k hk).1 hs,(h k hk).2⟩
theorem Off.new{B':Nat}(h:Own w' B' E sz enc A c r)(hB:w.heap.size<=B')(hb:b<w.heap.size)(hl:∀ A' ∈ l,∀ k,ownB A'=some k->k<w.heap.size) : Off w' b l A:=fun k hk=>⟨X6i h hk,fun hs=>by
 have h9:=X20 h hk
 rcases hs with rfl|⟨A',h1,h2⟩
 ·omega
 ·have:=hl A' h1 k h2;omega⟩
theorem Own.off(h:Own w B E sz enc A c r)(hts:TurnS (SB b l) w w')(ho:Off w b l A) : Own w' B E sz enc A c r:=by
 refine ⟨h.1,?_⟩
 rcases h.2 with h2|⟨g,cap,cur,e1,e2,e3,e4⟩
 ·exact .inl h2
 ·refine .inr ⟨g,cap,cur,e1,e2,?_,e4⟩
  have hA:ownB A=some g:=by injection e1 with e1;subst e1;rfl
  have:=ho g hA
  rw [hts.block g this.1 this.2]
  exact e3
theorem Rd.off(h:Rd w B E enc A r)(hts:TurnS (SB b l) w w')(ho:Off w b l A) : Rd w' B E enc A r:=fun hl=>by
 obtain ⟨g,off,cs,fz,e1,e2,e3,e4⟩:=h hl
 refine ⟨g,off,cs,fz,e1,e2,?_,e4⟩
 subst e1
 have:=ho g rfl
 rw [hts.block g this.1 this.2]
 exact e3
theorem Off.tu(ho:Off w b l A)(hts:TurnS (SB b l) w w')(hl:∀ A' ∈ l',Us (SB b l) w A') : Off w' b l' A:=fun k hk=>⟨Nat.lt_of_lt_of_le (ho k hk).1 hts.size,fun hs=>by
 rcases hs with rfl|⟨A',h1,h2⟩
 ·exact (ho _ hk).2 (.inl rfl)
 ·rcases hl A' h1 k h2 with h3|h3
  ·exact (ho k hk).2 h3
  ·have:=(ho k hk).1;omega⟩
end
theorem Blk.tuN{w w':World}{b b2:Nat}{l:List (Option Addr)}{T2:TypeId}{cs:List Value}(h:Blk w b2 T2 cs)(hts:TurnS (SB b l) w w')(hne:b2≠b)(hr:∀ A ∈ l,ownB A≠some b2) : Blk w' b2 T2 cs:=by
 refine (hts.block b2 h.lt fun hk=>?_).trans h
 rcases hk with e|⟨A,hA,hk⟩
 ·exact hne e
 ·exact hr A hA hk
theorem Xsr(o:Dg)(a v:Int)(h:Bool)(u:Int) : spI (mtD o a v h).ns u=spI o.ns u:=by
 unfold mtD lkD
 split
 ·split
  ·rfl
  ·split
   ·rfl
   ·split
    ·exact Xlf _ _ _
    ·rfl
 ·rfl
theorem Xrk{o:Dg}{a v:Int}{h:Bool}{w:Wr}(hw:w ∈ (mtD o a v h).ws) : w ∈ o.ws∨(w.a=min a v/\w.b=max a v):=by
 unfold mtD lkD at hw
 split at hw
 ·split at hw
  ·rcases X4t.1 hw with rfl|hw
   ·exact .inr ⟨rfl,rfl⟩
   ·exact .inl hw
  ·split at hw
   ·exact .inl ((X2y _ _).subset hw)
   ·split at hw
    ·rcases X4t.1 hw with rfl|hw
     ·exact .inr ⟨rfl,rfl⟩
     ·exact .inl ((X2y _ _).subset hw)
    ·exact .inl hw
 ·rcases X4t.1 hw with rfl|hw
  ·exact .inr ⟨rfl,rfl⟩
  ·exact .inl hw
theorem Xuw{o:Dg}{a v:Int}{h:Bool}(hs:WSd o.ws)(hab:(spI o.ns a&&spI o.ns v)=false->fdW o.ws a v<0) : WSd (mtD o a v h).ws:=by
 unfold mtD lkD
 split
 ·split
  ·rename_i h1;exact X6q hs h1
  ·rename_i h1
   obtain ⟨w,h2,h3,_⟩:=X7i (l:=o.ws) (a:=a) (b:=v) (by omega)
   split
   ·exact X9i hs _
   ·split
    ·exact X6q (X9i hs _) (by rw [Xcy hs h2 h3];omega)
    ·exact hs
 ·rename_i h1
  exact X6q hs (hab (by simpa using h1))
structure FuI (d:Dg) (a b:Int) (k:Nat) (o:Dg) : Prop where
 s:WSd o.ws
 p:PhN o.ns
 l:o.ns.length=d.ns.length
 c:o.ws.length<=d.ws.length+k
 sp:∀ v,spI o.ns v=spI (dpN d.ns b) v
 bd:∀ j v,k<=j->(nearW d.ws b)[j]? = some v->spI d.ns v=false->∀ w ∈ o.ws,w.a≠v/\w.b≠v
theorem Xay{d:Dg}{a b:Int}(h:fuC d a b=true) : spI d.ns a=true/\spI d.ns b=true/\a<b:=by grind [fuC,spI]
theorem FuI.init{d:Dg}(hG:goodD d=true){a b:Int} : FuI d a b 0 (fu0 d a b):=by
 have hD:=X1b hG
 refine ⟨List.Pairwise.filter _ hD.w.s,Xh4 hD a b,(X5f d a b).1,(X5f d a b).2,fun v=>Xlf _ _ _,fun j v _ hv hs=>?_⟩
 exact Xaz hG (Qe hv) hs
theorem FuI.hab{d o:Dg}{a b v:Int}{k:Nat}(h:FuI d a b k o)(hD:InD d)(hc:fuC d a b=true)(hv:(nearW d.ws b)[k]? = some v)(hs:(spI o.ns a&&spI o.ns v)=false) : fdW o.ws a v<0:=by
 have h1:=Xay hc;have h2:=X7v hc;have hvm:=Qe hv;have hvr:=X2g hD hvm
 rw [h.sp,h.sp,Xbz h2.1.1 h2.2.1 (by omega),Xbz hvr.1 h2.2.1 (X8f hD hvm),h1.1,Qw] at hs
 exact X9c (.inr (h.bd k v (Qb _) hv hs))
theorem Xp4{l:List Int}(h:Inc l){i j:Nat}{x y:Int}(hi:l[i]? = some x)(hj:l[j]? = some y)(hij:i<j) : x<y:=by
 obtain ⟨h1,rfl⟩:=Qg.1 hi;obtain ⟨h2,rfl⟩:=Qg.1 hj;exact W0.1 h i j h1 h2 hij
theorem FuI.step{d o:Dg}{a b v:Int}{k:Nat}{x:Bool}(h:FuI d a b k o)(hD:InD d)(hc:fuC d a b=true)(hv:(nearW d.ws b)[k]? = some v) : FuI d a b (k+1) (mtD o a v x):=by
 have hl:=X4o o a v x
 refine ⟨Xuw h.s (h.hab hD hc hv),Xge h.p _ _ _,hl.1.trans h.l,by have:=h.c;omega,fun u=>(Xsr o a v x u).trans (h.sp u),fun j u hj hu hs w hw=>?_⟩
 rcases Xrk hw with hw|⟨e1,e2⟩
 ·exact h.bd j u (by omega) hu hs w hw
 ·have hlt:=Xp4 (X2w (k:=b) hD.w) hv hu (by omega)
  have hua:u≠a:=fun e=>by rw [e,(Xay hc).1] at hs;cases hs
  omega
theorem FuI.skip{d o:Dg}{a b:Int}{k:Nat}(h:FuI d a b k o) : FuI d a b (k+1) o:=⟨h.s,h.p,h.l,by have:=h.c;omega,h.sp,fun j u hj=>h.bd j u (by omega)⟩
theorem Xoa{d:Dg}(h:0<=d.t/\d.t<=7) : outD d=d:=by
 unfold outD
 rw [Int.tmod_eq_emod_of_nonneg h.1,Int.emod_eq_of_lt h.1 (by omega)]
theorem Xmk(o:Dg)(a v:Int)(h:Bool) : (mtD o a v h).t=o.t:=by
 unfold mtD lkD
 split
 ·split
  ·rfl
  ·split
   ·rfl
   ·split<;>rfl
 ·rfl
theorem Xlx{d:Dg}{a b:Int} : ∀ (l:List Int) (o:Dg),(fuS d a b l o).t=o.t
 | [],_=>rfl
 | v::l,o=>by
  show (fuS d a b l (fuT d a b o v)).t=o.t
  rw [Xlx l]
  unfold fuT
  split
  ·rfl
  ·exact Xmk _ _ _ _
theorem Xpm{d:Dg}{a b:Int}(h:(decide (a<0)||decide (b<=a)||!(spI d.ns a)||!(spI d.ns b)||tyW d.ws a b != 1)=true) : fuC d a b=false:=by
 cases hc:fuC d a b with
 | false=>rfl
 | true=>
  have h1:=Xay hc;have h2:=X7v hc
  unfold fuC at hc
  simp only [Qd,beq_iff_eq] at hc
  simp [h1.1,h1.2.1,hc.2] at h
  omega
theorem Xhx{d:Dg}{a b:Int}(h:(decide (a<0)||decide (b<=a)||!(spI d.ns a)||!(spI d.ns b)||tyW d.ws a b != 1)=false) : fuC d a b=true:=by grind [fuC,spI,tyW]
theorem Xj6{d:Dg}(h:InD d)(a b:Int) : Inc (othW d.ws a b):=List.Pairwise.filter _ (X2w h.w)
theorem Xp1{d:Dg}(h:InD d)(a b:Int) : unionI (othW d.ws a b) (othW d.ws b a)=pvL d a b:=
 X8t _ _ (Xdy _ _) (X9r _ _ (Xj6 h a b)) fun x=>by
  rw [Xdw]
  exact (X5d _ _ _).symm
theorem Xbb{ns:List Nd}{x f e:Int}(hx:x.toNat<ns.length) : adN (adN ns x f) x e=adN ns x (f+e):=by
 have h:(adN ns x f).getD x.toNat nZ=⟨(ns.getD x.toNat nZ).k,((ns.getD x.toNat nZ).p+f) % 8⟩:=by
  unfold adN
  rw [Qa,List.getElem?_set_self hx]
  rfl
 unfold adN at h ⊢
 rw [h,List.set_set]
 congr 2
 dsimp only
 omega
theorem Xts{ns:List Nd}(hp:PhN ns){x m:Int}(hm:m % 8=0) : adN ns x m=ns:=by
 by_cases hx:x.toNat<ns.length
 ·have h:=X1l hp x.toNat
  unfold adN
  rw [show ((ns.getD x.toNat nZ).p+m) % 8=(ns.getD x.toNat nZ).p by omega]
  apply List.ext_getElem?
  intro i
  rw [List.getElem?_set]
  split
  ·rename_i h1
   subst h1
   rw [Qa,Qc hx]
   simp
  ·rfl
 ·unfold adN
  rw [List.set_eq_of_length_le (by omega)]
theorem X8q{ns:List Nd}{x m m':Int}(h:m % 8=m' % 8) : adN ns x m=adN ns x m':=by
 unfold adN
 congr 2
 omega
theorem X67(l:List Int)(x:Int) : (l.any fun y=>x==y)=l.any fun v=>v==x:=by congr 1;funext y;exact Bool.beq_comm
def pvG(e f:Int)(p q:Bool) : Int:=(f*(if p=true then 1 else 0)+e*(if q=true then 1 else 0)+4*(if (p&&q)=true then 1 else 0)).tmod 8
theorem Xo1{e f:Int}(he:e=0∨e=4)(hf:f=0∨f=4)(p q:Bool) : 0<=pvG e f p q/\pvG e f p q<=7/\(0<=f*(if p=true then 1 else 0)/\f*(if p=true then 1 else 0)<=4)/\(0<=e*(if q=true then 1 else 0)/\e*(if q=true then 1 else 0)<=4)/\(0<=4*(if (p&&q)=true then 1 else 0:Int)/\4*(if (p&&q)=true then 1 else 0:Int)<=4):=by grind [pvG]
theorem Xfk(c:Bool)(o:Dg)(x m:Int) : stN c o x m = { o with ns:=if c=true then adN o.ns x m else o.ns }:=by
 unfold stN
 split<;>rfl
theorem Xo7{e f:Int}{l m:List Int}{x:Int}{o:Dg}(hp:PhN o.ns)(hx:x.toNat<o.ns.length)(he:e=0∨e=4)(hf:f=0∨f=4) : pv3 e f l m x o = { o with ns:=adN o.ns x (pvG e f (l.any fun v=>v==x) (m.any fun v=>v==x)) }:=by
 unfold pv3
 generalize (l.any fun v=>v==x)=p
 generalize (m.any fun v=>v==x)=q
 rw [Xfk,Xfk,Xfk]
 dsimp only
 congr 1
 cases p<;>cases q<;>simp only [Bool.and_true,Bool.and_false,Qw,if_true,Bool.false_eq_true,if_false]
 ·rcases he with rfl|rfl<;>rcases hf with rfl|rfl<;>exact (Xts hp (by decide)).symm
 ·rcases he with rfl|rfl<;>rcases hf with rfl|rfl<;>exact X8q (by decide)
 ·rcases he with rfl|rfl<;>rcases hf with rfl|rfl<;>exact X8q (by decide)
 ·rw [Xbb (by rw [X1m];exact hx),Xbb hx]
  rcases he with rfl|rfl<;>rcases hf with rfl|rfl<;>exact X8q (by decide)
def pvJ(l m:List Int)(x:Int)(o:Dg)(y:Int) : Dg:=if (((l.any fun v=>v==x)&&(m.any fun v=>v==y)) != ((m.any fun v=>v==x)&&(l.any fun v=>v==y)))=true then tgI o y x else o
theorem Xq7{l m:List Int}{x y:Int}{o:Dg}(h:(((l.any fun v=>v==x)&&(m.any fun v=>v==y)) != ((m.any fun v=>v==x)&&(l.any fun v=>v==y)))=true) : pvJ l m x o y=tgI o y x:=Q4 h
theorem Xsb{l m:List Int}{x y:Int}{o:Dg}(h:(((l.any fun v=>v==x)&&(m.any fun v=>v==y)) != ((m.any fun v=>v==x)&&(l.any fun v=>v==y)))=false) : pvJ l m x o y=o:=by grind [pvJ]
def pvI(e f:Int)(l m r:List Int)(o:Dg) : Nat->Dg
 | 0=>o
 | i+1=>(r.take i).foldl (pvJ l m (r.getD i 0)) { pvI e f l m r o i with ns:=adN (pvI e f l m r o i).ns (r.getD i 0) (pvG e f (l.any fun v=>v==r.getD i 0) (m.any fun v=>v==r.getD i 0)) }
theorem X9q{e f u:Int}{l m r:List Int}{o:Dg}{k:Nat}(hu:r[k]? = some u) : pvI e f l m r o (k+1)=(r.take k).foldl (pvJ l m u) { pvI e f l m r o k with ns:=adN (pvI e f l m r o k).ns u (pvG e f (l.any fun v=>v==u) (m.any fun v=>v==u)) }:=by grind [adN,pvG,pvI,pvJ]
theorem Xmn{L l m:List Int}{x:Int}(hx:x ∈ L) : ∀ (r:List Int) (o:Dg),NoPl o.ws L->(∀ y ∈ r,y ∈ L)->r.foldl (pvJ l m x) o=pvF l m x r o/\NoPl (pvF l m x r o).ws L/\(pvF l m x r o).ns=o.ns/\(pvF l m x r o).t=o.t
 | [],o,h,_=>⟨rfl,h,rfl,rfl⟩
 | y::r,o,h,hr=>by
  have hy:=hr y (by simp)
  have key:pvJ l m x o y=pvT l m x o y/\NoPl (pvT l m x o y).ws L/\(pvT l m x o y).ns=o.ns/\(pvT l m x o y).t=o.t:=by
   unfold pvJ pvT
   split
   ·rw [h.tgI hy hx,Xbe]
    exact ⟨rfl,h.tg x y,(X28 o x y).1,by unfold tgD;split<;>rfl⟩
   ·exact ⟨rfl,h,rfl,rfl⟩
  have ih:=Xmn (l:=l) (m:=m) hx r (pvT l m x o y) key.2.1 fun z hz=>hr z (by simp [hz])
  rw [List.foldl_cons,key.1]
  exact ⟨ih.1,ih.2.1,ih.2.2.1.trans key.2.2.1,ih.2.2.2.trans key.2.2.2⟩
theorem Xf9{e f:Int}{l m r:List Int}{o:Dg}(h:NoPl o.ws r)(hp:PhN o.ns)(hr:∀ v ∈ r,v.toNat<o.ns.length)(he:e=0∨e=4)(hf:f=0∨f=4) : ∀ i,i<=r.length->pvI e f l m r o i=pvM e f l m r o i/\NoPl (pvM e f l m r o i).ws r/\PhN (pvM e f l m r o i).ns/\(pvM e f l m r o i).ns.length=o.ns.length/\(pvM e f l m r o i).t=o.t
 | 0,_=>⟨rfl,h,hp,rfl,rfl⟩
 | i+1,hi=>by
  obtain ⟨h1,h2,h3,h4,h5⟩:=Xf9 (l:=l) (m:=m) h hp hr he hf i (by omega)
  have hu:r[i]? = some (r.getD i 0):=Xg (d:=0) (by omega)
  have hx:r.getD i 0 ∈ r:=Qe hu
  have h6:=Xo7 (l:=l) (m:=m) (x:=r.getD i 0) h3 (by rw [h4];exact hr _ hx) he hf
  have h7:=Xmn (l:=l) (m:=m) hx (r.take i) (pv3 e f l m (r.getD i 0) (pvM e f l m r o i)) (by rw [h6];exact h2) fun y hy=>Wd hy
  rw [X9q hu,Xa9 hu,h1,<- h6]
  refine ⟨h7.1,h7.2.1,?_,?_,?_⟩
  ·rw [h7.2.2.1,h6];exact X4l h3 _ _
  ·rw [h7.2.2.1,h6];exact (X1m _ _ _).trans h4
  ·rw [h7.2.2.2,h6];exact h5
theorem Xdz(d:Dg)(l:List Int) : rdyD d l=true↔(∀ v ∈ l,spI d.ns v=true)/\prD d l=false:=by
 unfold rdyD prD
 rw [W1,W7]
 constructor
 ·intro h
  refine ⟨fun v hv=>?_,fun i hi=>?_⟩
  ·obtain ⟨i,hi,rfl⟩:=List.mem_iff_getElem.1 hv;have h3:=h i (W2.2 hi)
   unfold rdQ at h3
   rw [Qd] at h3
   have g:l.getD i 0=l[i]:=by rw [Qa,Qc hi];rfl
   rw [g] at h3
   exact h3.1
  ·have h3:=h i hi
   unfold rdQ at h3
   rw [Qd,W1] at h3
   unfold prQ
   rw [Bool.not_eq_true,W7]
   intro y hy
   have:=h3.2 y hy
   simpa [bne] using this
 ·rintro ⟨h1,h2⟩ i hi
  have hm:l.getD i 0 ∈ l:=Qe (Xg (d:=0) (W2.1 hi))
  have h4:=h2 i hi
  unfold prQ at h4
  unfold rdQ
  rw [Qd,W1]
  refine ⟨h1 _ hm,fun y hy=>?_⟩
  rw [Bool.not_eq_true,W7] at h4
  have:=h4 y hy
  simpa [bne] using this
theorem Xjo{d:Dg}{a:Int} : hadD d a=true↔∀ v ∈ nearW d.ws a,tyW d.ws a v=2:=by grind [hadD,nearW,tyW]
theorem Xi7{d:Dg}{a:Int}{l:List Int} : (l.any fun x=>!(spI d.ns x)||tyW d.ws a x != 2)=false↔(∀ v ∈ l,spI d.ns v=true)/\∀ v ∈ l,tyW d.ws a v=2:=by grind
theorem X9h(d:Dg)(a b:Int)(h:tyW d.ws a b=2) : (!((othW d.ws a b).any fun x=>!(spI d.ns x)||tyW d.ws a x != 2)&&!((othW d.ws b a).any fun x=>!(spI d.ns x)||tyW d.ws b x != 2)&&!(prD d (pvL d a b)))=(hadD d a&&hadD d b&&rdyD d (pvL d a b)):=by
 have hm:∀ v,v ∈ pvL d a b↔v ∈ othW d.ws a b∨v ∈ othW d.ws b a:=fun v=>X5d _ _ _
 have ho:∀ x c v,v ∈ othW d.ws x c↔v ∈ nearW d.ws x/\v≠c:=fun x c v=>by unfold othW;rw [List.mem_filter];simp
 apply Bool.eq_iff_iff.2
 simp only [Qd,Bool.not_eq_true',Xi7,Xdz,Xjo]
 constructor
 ·rintro ⟨⟨⟨h1,h2⟩,h3,h4⟩,h5⟩
  refine ⟨⟨fun v hv=>?_,fun v hv=>?_⟩,fun v hv=>?_,h5⟩
  ·by_cases e:v=b
   ·rw [e];exact h
   ·exact h2 v ((ho _ _ _).2 ⟨hv,e⟩)
  ·by_cases e:v=a
   ·rw [e,Xdn];exact h
   ·exact h4 v ((ho _ _ _).2 ⟨hv,e⟩)
  ·rcases (hm v).1 hv with h9|h9
   ·exact h1 v h9
   ·exact h3 v h9
 ·rintro ⟨⟨h1,h2⟩,h3,h5⟩;exact ⟨⟨⟨fun v hv=>h3 v ((hm v).2 (.inl hv)),fun v hv=>h1 v ((ho _ _ _).1 hv).1⟩,fun v hv=>h3 v ((hm v).2 (.inr hv)),fun v hv=>h2 v ((ho _ _ _).1 hv).1⟩,h5⟩
theorem Xk0{d:Dg}(hd:InD d){a b:Int}(h:(decide (a<0)||decide (b<=a)||!(spI d.ns a)||!(spI d.ns b)||(tyW d.ws a b != 2)||((d.ns.getD a.toNat nZ).p.tmod 4 != 0)||((d.ns.getD b.toNat nZ).p.tmod 4 != 0))=true) : pvC d a b=false:=by
 cases hs:spI d.ns a
 ·unfold pvC;rw [hs];rfl
 refine Xg8 hd ?_;have h0:=X0s hs
 rw [hs] at h ⊢
 rw [show decide (a<0)=false from decide_eq_false (by omega)] at h
 revert h
 generalize decide (b<=a)=x1
 generalize spI d.ns b=x2
 generalize (tyW d.ws a b != 2)=x3
 generalize ((d.ns.getD a.toNat nZ).p.tmod 4 != 0)=x4
 generalize ((d.ns.getD b.toNat nZ).p.tmod 4 != 0)=x5
 revert x1 x2 x3 x4 x5
 decide
theorem Xgj{d:Dg}(hd:InD d){a b:Int}(h:(decide (a<0)||decide (b<=a)||!(spI d.ns a)||!(spI d.ns b)||(tyW d.ws a b != 2)||((d.ns.getD a.toNat nZ).p.tmod 4 != 0)||((d.ns.getD b.toNat nZ).p.tmod 4 != 0))=false) : (0<=a/\a.toNat<d.ns.length)/\(0<=b/\b.toNat<d.ns.length)/\(((d.ns.getD a.toNat nZ).p=0∨(d.ns.getD a.toNat nZ).p=4)/\((d.ns.getD b.toNat nZ).p=0∨(d.ns.getD b.toNat nZ).p=4))/\(spI d.ns a&&spI d.ns b&&decide (a<b)&&(d.ns.getD a.toNat nZ).p % 4==0&&(d.ns.getD b.toNat nZ).p % 4==0&&tyW d.ws a b==2)=true/\tyW d.ws a b=2/\a<b:=by
 have h2:(!(spI d.ns a)||!(spI d.ns b)||decide (b<=a)||((d.ns.getD a.toNat nZ).p.tmod 4 != 0)||((d.ns.getD b.toNat nZ).p.tmod 4 != 0)||(tyW d.ws a b != 2))=false:=by
  revert h
  generalize decide (a<0)=x0
  generalize spI d.ns a=x6
  generalize decide (b<=a)=x1
  generalize spI d.ns b=x2
  generalize (tyW d.ws a b != 2)=x3
  generalize ((d.ns.getD a.toNat nZ).p.tmod 4 != 0)=x4
  generalize ((d.ns.getD b.toNat nZ).p.tmod 4 != 0)=x5
  revert x0 x6 x1 x2 x3 x4 x5
  decide
 have h3:=Xd2 hd h2
 refine ⟨h3.1,h3.2.1,h3.2.2.1,h3.2.2.2,?_,?_⟩
 ·simp only [Bool.or_eq_false_iff,bne_eq_false_iff_eq] at h;exact h.1.1.2
 ·simp only [Bool.or_eq_false_iff,decide_eq_false_iff_not] at h;omega
theorem Xj8{d:Dg}{a b:Int}(h2:tyW d.ws a b=2)(h:(!(!((othW d.ws a b).any fun x=>!(spI d.ns x)||tyW d.ws a x != 2))||!(!((othW d.ws b a).any fun x=>!(spI d.ns x)||tyW d.ws b x != 2))||prD d (pvL d a b))=true) : pvC d a b=false:=by
 have e:=X9h d a b h2
 refine Xfe ?_
 revert e h
 generalize ((othW d.ws a b).any fun x=>!(spI d.ns x)||tyW d.ws a x != 2)=x1
 generalize ((othW d.ws b a).any fun x=>!(spI d.ns x)||tyW d.ws b x != 2)=x2
 generalize prD d (pvL d a b)=x3
 generalize hadD d a=x4
 generalize hadD d b=x5
 generalize rdyD d (pvL d a b)=x6
 revert x1 x2 x3 x4 x5 x6
 decide
theorem Xee{d:Dg}(hD:InD d){a b:Int}(h1:(spI d.ns a&&spI d.ns b&&decide (a<b)&&(d.ns.getD a.toNat nZ).p % 4==0&&(d.ns.getD b.toNat nZ).p % 4==0&&tyW d.ws a b==2)=true)(h2:tyW d.ws a b=2)(h:(!(!((othW d.ws a b).any fun x=>!(spI d.ns x)||tyW d.ws a x != 2))||!(!((othW d.ws b a).any fun x=>!(spI d.ns x)||tyW d.ws b x != 2))||prD d (pvL d a b))=false) : pvC d a b=true/\NoPl (id0 (id0 d a) b).ws (pvL d a b):=by
 have e:=X9h d a b h2
 have h3:(hadD d a&&hadD d b&&rdyD d (pvL d a b))=true:=by
  rw [<- e]
  revert h
  generalize ((othW d.ws a b).any fun x=>!(spI d.ns x)||tyW d.ws a x != 2)=x1
  generalize ((othW d.ws b a).any fun x=>!(spI d.ns x)||tyW d.ws b x != 2)=x2
  generalize prD d (pvL d a b)=x3
  revert x1 x2 x3
  decide
 rw [Qd] at h3
 refine ⟨Xdq h1 ?_,(X9s hD h3.2).sub fun w hw=>(List.mem_filter.1 (List.mem_filter.1 hw).1).1⟩
 rw [Qd] at h3
 rw [h3.1.1,h3.1.2,h3.2]
 rfl
theorem Xov{d o:Dg}{a b:Int}(ht:0<=d.t/\d.t<=7)(h:o=pvM (d.ns.getD a.toNat nZ).p (d.ns.getD b.toNat nZ).p (othW d.ws a b) (othW d.ws b a) (pvL d a b) (id0 (id0 d a) b) (pvL d a b).length)(hot:o.t=d.t)(hp:((d.ns.getD a.toNat nZ).p=0∨(d.ns.getD a.toNat nZ).p=4)/\((d.ns.getD b.toNat nZ).p=0∨(d.ns.getD b.toNat nZ).p=4)) :
  outD (pvD d a b) = { o with t:=if ((d.ns.getD a.toNat nZ).p==4&&(d.ns.getD b.toNat nZ).p==4)=true then (wr (o.t+4)).tmod 8 else o.t,r:=wr (o.r+(1-((othW d.ws a b).length:Int)-((othW d.ws b a).length:Int))) }:=by
 rw [Xas h]
 have e:((d.ns.getD a.toNat nZ).p+(d.ns.getD b.toNat nZ).p==8)=((d.ns.getD a.toNat nZ).p==4&&(d.ns.getD b.toNat nZ).p==4):=by
  rcases hp with ⟨h1|h1,h2|h2⟩<;>rw [h1,h2]<;>rfl
 unfold outD
 rw [e]
 dsimp only
 split
 ·rfl
 ·have:o.t.tmod 8=o.t:=by rw [hot,Int.tmod_eq_emod_of_nonneg ht.1,Int.emod_eq_of_lt ht.1 (by omega)]
  rw [this]
def smQ(f:Nat->Int) : Nat->Int
 | 0=>0
 | n+1=>smQ f n+f n
theorem Xco(f g:Nat->Int) : ∀ n,smQ (fun j=>f j+g j) n=smQ f n+smQ g n
 | 0=>rfl
 | n+1=>by unfold smQ;rw [Xco f g n];omega
theorem X4f{f g:Nat->Int} : ∀ n,(∀ j,j<n->f j=g j)->smQ f n=smQ g n
 | 0,_=>rfl
 | n+1,h=>by unfold smQ;rw [X4f n fun j hj=>h j (by omega),h n (by omega)]
theorem Xdk(p:Int) : ∀ n:Nat,smQ (fun j=>if p=(j:Int) then 1 else 0) n=if 0<=p/\p<(n:Int) then 1 else 0
 | 0=>by rw [Q3 (by omega)];rfl
 | n+1=>by
  unfold smQ
  rw [Xdk p n]
  split<;>split<;>split<;>omega
theorem Xep{f:Nat->Int} : ∀ n:Nat,(∀ j,j<n->2<=f j)->2*(n:Int)<=smQ f n/\(smQ f n=2*(n:Int)->∀ j,j<n->f j=2)
 | 0,_=>⟨by simp [smQ],fun _ j hj=>by omega⟩
 | n+1,h=>by
  have ih:=Xep n fun j hj=>h j (by omega)
  have hn:=h n (by omega)
  unfold smQ
  refine ⟨by omega,fun he j hj=>?_⟩
  by_cases e:j=n
  ·subst e;omega
  ·exact ih.2 (by omega) j (by omega)
theorem Xcd{f:Nat->Int} : ∀ n:Nat,(∀ j,j<n->f j=2)->smQ f n=2*(n:Int)
 | 0,_=>rfl
 | n+1,h=>by
  have ih:=Xcd n fun j hj=>h j (by omega)
  have hn:=h n (by omega)
  unfold smQ
  omega
theorem X9v(x:Nd)(ns:List Nd)(k p:Int) : ctN (x::ns) k p=(if x.k=k/\x.p=p then 1 else 0)+ctN ns k p:=by grind [ctN]
theorem Xh8(x:Nd)(ns:List Nd) : bnI (x::ns)=(if x.k=1∨x.k=2 then 1 else 0)+bnI ns:=by grind [bnI]
theorem Xsz{n:Int}{x:Nd}(h:nokI n x=true)(hk:x.k=1∨x.k=2) : 0<=x.p/\x.p<n:=by
 unfold nokI at h
 rw [Q3 (by rcases hk with e|e<;>rw [e]<;>decide),Q4 (by simpa using hk)] at h
 have:=X0t.1 h
 omega
theorem Xft(n:Nat) : ∀ ns:List Nd,(∀ x ∈ ns,nokI (n:Int) x=true)->bnI ns=smQ (fun j=>ctN ns 1 (j:Int)+ctN ns 2 (j:Int)) n
 | [],_=>by
  have:∀ m,smQ (fun j=>ctN [] 1 (j:Int)+ctN [] 2 (j:Int)) m=0:=fun m=>by
   induction m with
   | zero=>rfl
   | succ m ih=>unfold smQ;rw [ih];rfl
  rw [this]
  rfl
 | x::ns,h=>by
  have ih:=Xft n ns fun y hy=>h y (by simp [hy])
  have hx:=h x (by simp)
  rw [Xh8,ih]
  have e:∀ j:Nat,ctN (x::ns) 1 (j:Int)+ctN (x::ns) 2 (j:Int)=((if x.k=1∨x.k=2 then (if x.p=(j:Int) then 1 else 0) else 0))+(ctN ns 1 (j:Int)+ctN ns 2 (j:Int)):=fun j=>by
   rw [X9v,X9v]
   by_cases h1:x.k=1
   ·by_cases h2:x.p=(j:Int)
    ·simp [h1,h2];omega
    ·simp [h1,h2]
   ·by_cases h3:x.k=2
    ·by_cases h2:x.p=(j:Int)
     ·simp [h3,h2];omega
     ·simp [h3,h2]
    ·simp [h1,h3]
  have e2:=Xco (fun j:Nat=>if x.k=1∨x.k=2 then (if x.p=(j:Int) then (1:Int) else 0) else 0) (fun j=>ctN ns 1 (j:Int)+ctN ns 2 (j:Int)) n
  rw [X4f n fun j _=>e j]
  refine Eq.trans ?_ e2.symm
  congr 1
  by_cases hk:x.k=1∨x.k=2
  ·rw [Q4 hk,X4f n fun j _=>Q4 hk,Xdk,Q4 (Xsz hx hk)]
  ·have:∀ m,smQ (fun _=>(0:Int)) m=0:=fun m=>by
    induction m with
    | zero=>rfl
    | succ m ih=>unfold smQ;rw [ih];rfl
   rw [Q3 hk,X4f n fun j _=>Q3 hk,this]
theorem Xtj{ns:List Nd}{k p:Int} : decide (fnI ns ⟨k,p⟩<0)=decide (ctN ns k p<1):=by
 have h:decide (0<=fnI ns ⟨k,p⟩)=ns.any fun y=>decide ((⟨k,p⟩ : Nd)=y):=Xbd
 have h2:(ns.any fun y=>decide ((⟨k,p⟩ : Nd)=y))=decide (1<=ctN ns k p):=by
  rw [Bool.eq_iff_iff,List.any_eq_true,Qr]
  unfold ctN
  constructor
  ·rintro ⟨y,hy,he⟩
   have he:(⟨k,p⟩ : Nd)=y:=by simpa using he
   have hm:y ∈ ns.filter fun x=>x.k==k&&x.p==p:=List.mem_filter.2 ⟨hy,by subst he;simp⟩
   have:=List.length_pos_of_mem hm
   omega
  ·intro hl
   obtain ⟨y,hy⟩:=List.exists_mem_of_length_pos (l:=ns.filter fun x=>x.k==k&&x.p==p) (by omega)
   have hf:=List.mem_filter.1 hy
   refine ⟨y,hf.1,?_⟩
   have hk:y.k=k/\y.p=p:=by simpa using hf.2
   obtain ⟨k',p'⟩:=y
   simp only at hk
   simp [hk.1,hk.2]
 have h3:=h.trans h2
 rw [Bool.eq_iff_iff] at h3 ⊢
 simp only [Qr] at h3 ⊢
 omega
theorem Xnn{d:Dg}(hn:1<=d.n)(hok:∀ x ∈ d.ns,nokI d.n x=true) : heD d=endQ d:=by
 have hnn:d.n=((d.n.toNat:Nat) : Int):=by omega
 have hs:=Xft d.n.toNat d.ns (by rw [<- hnn];exact hok)
 unfold heD endQ enQ heQ
 rw [Bool.eq_iff_iff]
 simp only [Qd,W1,W2,Xtj,Bool.not_eq_true',Bool.or_eq_false_iff,decide_eq_false_iff_not,beq_iff_eq]
 constructor
 ·rintro ⟨h1,h2⟩
  have h3:=Xep (f:=fun j=>ctN d.ns 1 (j:Int)+ctN d.ns 2 (j:Int)) d.n.toNat fun j hj=>by have:=h1 j hj;omega
  have h4:=h3.2 (by omega)
  refine ⟨fun j hj=>?_,fun j hj=>?_⟩
  ·have:=h1 j hj;have:=h4 j hj;omega
  ·have:=h1 j hj;have:=h4 j hj;omega
 ·rintro ⟨h1,h2⟩
  refine ⟨fun j hj=>by have:=h1 j hj;have:=h2 j hj;omega,?_⟩
  rw [hs,Xcd d.n.toNat fun j hj=>by have:=h1 j hj;have:=h2 j hj;omega]
  omega
theorem Xh3{d:Dg}{k:Nat}{x:Nd}(hx:d.ns[k]? = some x) : ndQ d (k:Int)=(nokI d.n x&&nvQ d k):=by grind [ndQ,nokI,nvQ]
theorem Xmi{d:Dg}{i:Nat}{u:Wr}(hu:d.ws[i]? = some u) : wvQ d i=wrQ d i:=by
 rw [Xml hu,Xg6 hu]
 have e1:decide (0<=cmW (d.ws.getD (i-1) wZ) u) = !(wlt (d.ws.getD (i-1) wZ) u):=by
  rw [<- Xgz]
  rw [Bool.eq_iff_iff]
  simp
 rw [e1]
 congr 1
 have e2:(decide (u.a<0)||decide (u.b<=u.a)) = !(inR u.a 0 (u.b-1)):=by
  rw [Bool.eq_iff_iff]
  simp only [Bool.or_eq_true,Qr,Bool.not_eq_true',<- Bool.not_eq_true,X0t]
  omega
 rw [e2]
theorem X6a(d:Dg) : ivD d=goodD d:=by
 unfold ivD goodD
 have ew:(List.range d.ws.length).all (wvQ d)=(List.range d.ws.length).all (wrQ d):=by
  rw [Bool.eq_iff_iff,W1,W1]
  constructor
  ·intro h i hi
   have:=h i hi
   rwa [Xmi (Xg (d:=wZ) (W2.1 hi))] at this
  ·intro h i hi
   rw [Xmi (Xg (d:=wZ) (W2.1 hi))]
   exact h i hi
 have en:(List.range d.ns.length).all (fun k=>ndQ d (k:Int))=(!(d.ns.any fun x=>!nokI d.n x)&&(List.range d.ns.length).all (nvQ d)):=by
  rw [Bool.eq_iff_iff]
  simp only [Qd,Bool.not_eq_true',W7,W1,W2]
  constructor
  ·intro h
   refine ⟨fun x hx=>?_,fun i hi=>?_⟩
   ·obtain ⟨i,hi⟩:=List.mem_iff_getElem?.1 hx
    have:=h i (Qg.1 hi).1
    rw [Xh3 hi,Qd] at this
    rw [this.1]
    decide
   ·have:=h i hi
    rw [Xh3 (Xg (d:=nZ) hi),Qd] at this
    exact this.2
  ·rintro ⟨h1,h2⟩ i hi;have hx:=Xg (d:=nZ) hi
   rw [Xh3 hx,h2 i hi,Bool.and_true]
   have:=h1 _ (Qe hx)
   simpa using this
 rw [ew,en]
 unfold hvQ hdQ
 by_cases hok:∀ x ∈ d.ns,nokI d.n x=true
 ·by_cases hn:1<=d.n
  ·rw [Xnn hn hok]
   generalize inR d.n 1 5=x1
   generalize decide (40<(d.ns.length:Int))=x2
   generalize inR d.t 0 7=x3
   generalize inR d.r (-60) 60=x4
   generalize (d.ns.any fun x=>!nokI d.n x)=x5
   generalize endQ d=x6
   generalize (List.range d.ws.length).all (wrQ d)=x7
   generalize (List.range d.ns.length).all (nvQ d)=x8
   revert x1 x2 x3 x4 x5 x6 x7 x8
   decide
  ·have:inR d.n 1 5=false:=by rw [<- Bool.not_eq_true,X0t];omega
   rw [this]
   simp
 ·have h5:(d.ns.any fun x=>!nokI d.n x)=true:=by
   rw [List.any_eq_true]
   obtain ⟨x,hx,h9⟩ : ∃ x,x ∈ d.ns/\nokI d.n x≠true:=Classical.byContradiction fun hn=>hok fun x hx=>Classical.byContradiction fun h9=>hn ⟨x,hx,h9⟩
   exact ⟨x,hx,by simpa using h9⟩
  rw [h5]
  simp
def secL(d:Dg)(u:Int)(a:Int) : List Int:=if (u==1||u==4)=true then nearW d.ws a else [0]
def stR(d:Dg)(u:Int)(a:Nat)(l:List Int) : List Rz:=(l.map fun b=>(⟨u,a,b⟩ : Rz)).filter (apC d)
def stA(d:Dg)(u:Int)(k:Nat) : List Rz:=(List.range k).flatMap fun a=>stR d u a (secL d u a)
theorem Xlc(d:Dg)(u:Int)(k:Nat) : stA d u (k+1)=stA d u k++stR d u k (secL d u k):=by
 unfold stA
 rw [List.range_succ,List.flatMap_append]
 simp
theorem Xtt{d:Dg}{u:Int}{a j:Nat}{l:List Int}{b:Int}(hb:l[j]? = some b)(h:apC d ⟨u,a,b⟩=true) : stR d u a (l.take (j+1))=stR d u a (l.take j)++[⟨u,a,b⟩]:=by
 unfold stR
 rw [Qt,hb,Option.toList_some,List.map_append,List.filter_append]
 simp [h]
theorem Xtr{d:Dg}{u:Int}{a j:Nat}{l:List Int}{b:Int}(hb:l[j]? = some b)(h:apC d ⟨u,a,b⟩=false) : stR d u a (l.take (j+1))=stR d u a (l.take j):=by
 unfold stR
 rw [Qt,hb,Option.toList_some,List.map_append,List.filter_append]
 simp [h]
theorem Xc8{ws:List Wr}(h:InW ws){a b:Int}(ht:tyW ws a b≠0) : b ∈ nearW ws a:=by
 obtain ⟨w,h1,h2,_⟩:=X7i (Xfm ht);have h3:=X31.1 h2;have hm:=Qe h1;have hl:=h.l w hm
 refine X54.2 ⟨w,hm,?_⟩
 unfold otW
 by_cases e:a<=b
 ·rw [Q4 (by omega)]
  congr 1
  omega
 ·rw [Q3 (by omega),Q4 (by omega)]
  congr 1
  omega
theorem Xnh{d:Dg}(hD:InD d){u a b:Int}(h:apC d ⟨u,a,b⟩=true) : b ∈ secL d u a:=by
 unfold apC at h
 rw [Qd] at h
 have hc:=h.1
 unfold doC at hc
 dsimp only at hc
 unfold secL
 split at hc
 ·rename_i h1
  rw [Q4 (by rw [h1];rfl)]
  unfold fuC at hc
  simp only [Qd,beq_iff_eq] at hc
  exact Xc8 hD.w (by omega)
 ·rename_i h1
  split at hc
  ·rename_i h4
   rw [Q4 (by rw [h4];simp)]
   unfold pvC at hc
   simp only [Qd,beq_iff_eq] at hc
   exact Xc8 hD.w (by omega)
  ·rename_i h4
   rw [Q3 (by simp only [Bool.or_eq_true,not_or];exact ⟨h1,h4⟩)]
   split at hc
   ·cases hc
   ·rename_i hb
    have:b=0:=by simpa using hb
    rw [this]
    simp
theorem Xi8{d:Dg}(hD:InD d)(u a:Int) : Inc (secL d u a):=by
 unfold secL
 split
 ·exact X2w hD.w
 ·exact List.pairwise_singleton _ _
theorem Xom{d:Dg}(hD:InD d)(hn:0<d.ns.length){u a b:Int}(hb:b ∈ secL d u a) : 0<=b/\b<(d.ns.length:Int):=by
 unfold secL at hb
 split at hb
 ·have:=X2g hD hb;omega
 ·have:b=0:=by simpa using hb
  omega
theorem Xgy(n:Nat) : Inc (ranI n):=by
 unfold ranI
 exact List.Pairwise.map _ (fun a b h=>by omega) List.pairwise_lt_range
theorem Xnq{d:Dg}(hD:InD d)(u:Int){a:Nat}(hn:0<d.ns.length) : stR d u a (secL d u a)=alR d u a d.ns.length:=by
 have h1:stR d u a (secL d u a)=((secL d u a).filter fun b=>apC d ⟨u,a,b⟩).map fun b=>(⟨u,a,b⟩ : Rz):=by
  unfold stR
  rw [List.filter_map]
  rfl
 have h2:alR d u a d.ns.length=((ranI d.ns.length).filter fun b=>apC d ⟨u,a,b⟩).map fun b=>(⟨u,a,b⟩ : Rz):=by
  unfold alR ranI
  rw [List.filter_map,List.filter_map,List.map_map]
  rfl
 rw [h1,h2]
 congr 1
 refine X8t _ _ (List.Pairwise.filter _ (Xi8 hD u a)) (List.Pairwise.filter _ (Xgy _)) fun x=>?_
 rw [List.mem_filter,List.mem_filter]
 constructor
 ·rintro ⟨h3,h4⟩
  refine ⟨?_,h4⟩
  have:=Xom hD hn h3
  unfold ranI
  rw [W6]
  exact ⟨x.toNat,W2.2 (by omega),by omega⟩
 ·rintro ⟨_,h4⟩;exact ⟨Xnh hD h4,h4⟩
theorem Xnr{d:Dg}(hD:InD d)(u:Int) : stA d u d.ns.length=alL d u:=by
 unfold alL
 have h:∀ k,k<=d.ns.length->stA d u k=alS d u k:=fun k=>by
  induction k with
  | zero=>intro _;rfl
  | succ k ih=>
   intro hk
   rw [Xlc,Xgx,ih (by omega),Xnq hD u (by omega)]
 exact h _ (Qb _)
section
end
section
variable {d : Dg} {r : Rz}
theorem ot9(hG:goodD d=true){o:Dg}(h:o.t=d.t) : outD o=o:=Xoa (by rw [h];exact (X6f hG).2.2.1)
theorem Xvm(h:(r.b != 0&&r.u != 1&&r.u != 4)=true) : doC d r=false:=by grind [doC]
theorem Xuj(hG:goodD d=true)(h:(r.u==1)=true) : doC d r=fuC d r.a r.b/\outD (doD d r)=fuD d r.a r.b:=by
 obtain ⟨h1,h2⟩:=Xow (d:=d) h;exact ⟨h1,by rw [h2];exact ot9 hG (Xlx _ _)⟩
theorem Xb4{m n:Int}(h:(r.u==m)=true)(hn:m≠n) : (r.u==n)=false:=by grind
theorem b_0(h17:(r.b != 0&&r.u != 1&&r.u != 4)=false){m:Int}(h:(r.u==m)=true)(h1:m≠1)(h4:m≠4) : (r.b != 0)=false:=by grind
theorem Xur(hG:goodD d=true)(h17:(r.b != 0&&r.u != 1&&r.u != 4)=false)(h:(r.u==2)=true) : doC d r=idC d r.a/\outD (doD d r)=idD d r.a:=by
 obtain ⟨h1,h2⟩:=Xne (d:=d) (Xb4 h (by decide)) (Xb4 h (by decide)) (b_0 h17 h (by decide) (by decide)) h
 exact ⟨h1,by rw [h2];exact ot9 hG (Xmk _ _ _ _)⟩
theorem Xuq(h17:(r.b != 0&&r.u != 1&&r.u != 4)=false)(h:(r.u==3)=true) : doC d r=lcC d r.a/\doD d r=lcD d r.a:=by grind [doC,doD,lcC,lcD]
theorem Xu8(h:(r.u==4)=true) : doC d r=pvC d r.a r.b/\doD d r=pvD d r.a r.b:=Xp2 (d:=d) (Xb4 h (by decide)) h
theorem Xu9(hG:goodD d=true)(h17:(r.b != 0&&r.u != 1&&r.u != 4)=false)(h:(r.u==5)=true) : doC d r=loC d r.a/\outD (doD d r)=loD d r.a:=by
 obtain ⟨h1,h2⟩:=Xn9 (d:=d) (Xb4 h (by decide)) (Xb4 h (by decide)) (b_0 h17 h (by decide) (by decide)) (Xb4 h (by decide)) (Xb4 h (by decide)) h
 exact ⟨h1,by rw [h2];exact ot9 hG rfl⟩
theorem Xuv(h1:(r.u==1)=false)(h2:(r.u==2)=false)(h3:(r.u==3)=false)(h4:(r.u==4)=false)(h5:(r.u==5)=false) : doC d r=false:=by grind [doC]
theorem Xol(hD:InD d){a:Int}(h:(!(spI d.ns a)||(d.ns.getD a.toNat nZ).p != 0||cnW d.ws a != 0)=true) : loC d a=false:=by
 rw [X4y hD.w.l] at h
 refine Xm6 ?_
 rw [Bool.or_eq_true] at h ⊢
 rcases h with h|h
 ·exact .inl h
 ·right
  have:=bne_iff_ne.1 h
  exact decide_eq_true (by omega)
theorem Xil(hD:InD d){a:Int}(h:(!(spI d.ns a)||(d.ns.getD a.toNat nZ).p != 0||cnW d.ws a != 0)=false) : loC d a=true/\0<=a/\a.toNat<d.ns.length:=by
 rw [X4y hD.w.l] at h
 refine Xeh ?_
 rw [Bool.or_eq_false_iff] at h ⊢
 refine ⟨h.1,decide_eq_false ?_⟩
 have:=bne_eq_false_iff_eq.1 h.2
 omega
theorem Xr9{u:Int}{a:Int}(h:(u==1||u==4)=true) : secL d u a=nearW d.ws a:=Q4 h
theorem Xqk{u:Int}{a:Int}(h:(u==1||u==4)=false) : secL d u a=[0]:=Q3 (by rw [h];decide)
theorem Xk1(hD:InD d)(u a:Int) : (secL d u a).length<=1000001:=by
 unfold secL
 split
 ·have:=X2q hD a;have:=hD.m;omega
 ·simp
end
def BrS(x:Br) : Prop:=WSd x.d.ws/\RgW x.d.ns.length x.d.ws
theorem Xri{x:Br}(hs:BrS x)(u:Int) : fdW x.d.ws u (x.d.ns.length:Int)<0:=X9c (.inr fun w hw=>by have:=hs.2 w hw;omega)
theorem Xl1{n:Nat}{x:Br}(h:BrOk n x)(hs:BrS x){k p q:Int}(hq:0<=q/\q.toNat<n) : BrS (nodB x k p q):=⟨X6q hs.1 (Xri hs _),Xgq h hs.2 hq⟩
theorem Xgu{n:Nat}{x:Br}(h:BrOk n x)(hs:BrS x){q:Int}(hq:0<=q/\q.toNat<n) : BrS (plcB x q):=by
 unfold plcB
 split
 ·exact Xl1 h hs hq
 ·exact hs
theorem Xca{n:Nat}{x:Br}(h:BrOk n x)(hs:BrS x){q:Int}(hq:0<=q/\q.toNat<n)(m:Int) : BrS (trnB x q m):=⟨(Xgu h hs hq).1,Xac h hs.2 hq m⟩
theorem Xst{n:Nat}{x:Br}(h:BrOk n x)(hs:BrS x){p q:Int}(hp:0<=p/\p.toNat<n)(hq:0<=q/\q.toNat<n) : BrS (czB x p q):=by
 refine ⟨?_,Xpb h hs.2 hp hq⟩
 have h1:=Xgu (X34 h p) (Xgu h hs hp) hq
 unfold czB
 dsimp only
 split
 ·exact X9i h1.1 _
 ·rename_i h9
  exact X6q h1.1 (by omega)
theorem Xvg{n:Nat}{x:Br}(h:BrOk n x)(hs:BrS x){g:Gt}(hg:gOk (n:Int) g=true) : BrS (gtB x g):=by
 have ha:=Xa5 hg;have hb:=Xai hg
 unfold gtB
 split
 ·exact hs
 split
 ·exact Xca (X1o h _) hs ha _
 split
 ·exact Xca (X1o (X3x h _ _) _) (Xca h hs ha _) ha _
 split
 ·exact Xst (X1o h _) hs ha hb
 split
 ·exact Xst h hs ha hb
 split
 ·exact hs
 split
 ·exact hs
 ·exact Xca h hs ha _
theorem Xp9{x:Br}{p q:Int}(h:p.toNat≠q.toNat) : (plcB x q).la.getD p.toNat 0=x.la.getD p.toNat 0:=by
 unfold plcB
 split
 ·show (x.la.set q.toNat _).getD p.toNat 0=_
  rw [Qa,List.getElem?_set_ne (by omega),<- Qa]
 ·rfl
section
variable {x : Br} {g : Gt}
end
theorem Xoz(c:Cx) : BrS (ofB0 c):=⟨List.Pairwise.nil,fun x hx=>by cases hx⟩
def gf(h x y:Bool) : Rg:=if h=true then (if (x&&y)=true then omZ 4 else 1) else (if (x==y)=true then 1 else 0)
def wf(w:Wr)(β:Nat->Bool) : Rg:=gf w.h (β w.a.toNat) (β w.b.toNat)
def hdN(ws:List Wr) : Int:=((ws.filter fun w=>w.h).length:Int)
def exD(d:Dg) : Int:=hdN d.ws-d.r
theorem Xk8{l m:List Wr}(h:l.Perm m) : hdN l=hdN m:=by unfold hdN;rw [(h.filter _).length_eq]
theorem X96(w:Wr)(l:List Wr) : hdN (w::l)=(if w.h=true then 1 else 0)+hdN l:=by grind [hdN]
theorem Xh9(ws:List Wr)(a b:Int)(h:Bool) : hdN (jnW ws a b h)=(if h=true then 1 else 0)+hdN ws:=by
 have:=Xk8 (X5n ws ⟨min a b,max a b,h⟩)
 unfold jnW
 rw [this,X96]
theorem X8p(l m:List Wr) : hdN (l++m)=hdN l+hdN m:=by simp [hdN]
theorem Xrx{ws:List Wr}{i:Nat}{w:Wr}(hi:ws[i]? = some w) : hdN ws=(if w.h=true then 1 else 0)+hdN (ctW ws i):=by
 obtain ⟨h1,rfl⟩:=Qg.1 hi
 have e:ws=ws.take i++(ws[i]::ws.drop (i+1)):=by rw [<- Qy h1,W9]
 unfold ctW
 rw [X8p]
 conv=>lhs;rw [e]
 rw [X8p,X96]
 omega
def b1(b:Bool) : Int:=if b=true then 1 else 0
theorem Xl7(ws:List Wr) : 0<=hdN ws/\hdN ws<=ws.length:=by grind [hdN]
def g0(bs:List Int)(i:Int) : Int:=bs.getD i.toNat 0
structure Bd (ns ms:List Nd) : Prop where
 l:ms.length=ns.length
 n:∀ i,(ns.getD i nZ).k≠3->ms.getD i nZ=ns.getD i nZ
 s:∀ i,(ns.getD i nZ).k=3->(ms.getD i nZ).k=3∨(ms.getD i nZ).k=0
theorem Bd.refl(ns:List Nd) : Bd ns ns:=⟨rfl,fun _ _=>rfl,fun _ h=>.inl h⟩
theorem Bd.trans{ns ms ls:List Nd}(h:Bd ns ms)(k:Bd ms ls) : Bd ns ls:=by
 refine ⟨k.l.trans h.l,fun i hi=>?_,fun i hi=>?_⟩
 ·have h1:=h.n i hi
  rw [<- h1]
  exact k.n i (by rw [h1];exact hi)
 ·rcases h.s i hi with h1|h1
  ·exact k.s i h1
  ·right
   rw [k.n i (by omega)]
   exact h1
theorem X9y {P : Program} {w : World} {d : Nat} {xs ys : Array Value} {f : Field} {fs : List Field} {i j : Bool} (hn : f.name ≠ "_") (hT : OneT P f.type) (hu : P.underlying f.type = some .bool) (hx : xs[f.offset]? = some (.bool i)) (hy : ys[f.offset]? = some (.bool j))
  {r:Bool} (h:i=j->(Op.eqFields (d+1) xs ys fs).run P w=.ok r w) : (Op.eqFields (d+1) xs ys (f::fs)).run P w=.ok (decide (i=j)&&r) w:=by
 simp only [Op.eqFields,hn,ne_eq,not_false_eq_true,if_true,Sem.run_bind,X49 hT hx,X49 hT hy,Result.andThen_ok,X36 hu]
 by_cases hij:i=j
 ·subst hij
  simp [h rfl]
 ·simp [hij]
theorem Xj7(d:Nat)(x y:Wr)(w:World) : (Op.equalIn (d+2) 84 (wrV x) (wrV y)).run Tryz.prog w=.ok (decide (x=y)) w:=by
 have hf:=X5r Tryz.underlying84;refine (run_equalIn_struct w (d+1) 84 _ _ (by rw [hf];exact Tryz.underlying84) (by kernel_rfl)).trans ?_
 rw [hf]
 have:decide (x=y)=(decide (x.a=y.a)&&(decide (x.b=y.b)&&(decide (x.h=y.h)&&true))):=by
  obtain ⟨a,b,c⟩:=x;obtain ⟨a',b',c'⟩:=y
  simp
 rw [this]
 refine X1n (by decide) Xa Tryz.underlying3 rfl rfl fun _=>?_;refine X1n (by decide) Xa Tryz.underlying3 rfl rfl fun _=>?_;refine X9y (by decide) X82 Tryz.underlying4 rfl rfl fun _=>?_
 rfl
theorem Xje:Tryz.prog.eqGuardType Tryz.prog.depth 84=false:=by kernel_rfl
theorem Xa3{α:Type}{p q:List α}{k:Nat}{x y:α}(h:p.take k=q.take k)(hx:p[k]? = some x)(hy:q[k]? = some y)(e:x=y) : p.take (k+1)=q.take (k+1):=by
 rw [Qt,Qt,h,hx,hy,e]
theorem Xgt{ws:List Wr}{a b:Int}{h:Bool}(hl:∀ w ∈ ws,w.a<w.b)(hab:a≠b) : ∀ w ∈ jnW ws a b h,w.a<w.b:=fun w hw=>by
 rcases X4t.1 hw with rfl|hw
 ·show min a b<max a b
  omega
 ·exact hl w hw
theorem X8h(l:List Int)(i j:Nat)(v:Int) : (l.set i v).getD j 0=if i=j/\i<l.length then v else l.getD j 0:=by grind
def BrL(n:Nat)(x:Br) : Prop:=(∀ p q:Nat,p<n->q<n->p≠q->x.la.getD p 0≠x.la.getD q 0)/\∀ w ∈ x.d.ws,w.a<w.b
theorem Xn7{n:Nat}{x:Br}(h:BrOk n x){p:Nat}(hp:p<n) : 0<=x.la.getD p 0/\x.la.getD p 0<(x.d.ns.length:Int):=X42 h.rg (by rw [h.la];exact hp)
theorem Xmu{n:Nat}{x:Br}(h:BrOk n x)(hl:BrL n x){k p q:Int}(hq:0<=q/\q.toNat<n) : BrL n (nodB x k p q):=by
 refine ⟨fun i j hi hj hij=>?_,?_⟩
 ·show (x.la.set q.toNat _).getD i 0≠(x.la.set q.toNat _).getD j 0
  have hi2:=Xn7 h hi;have hj2:=Xn7 h hj
  have:=hl.1 i j hi hj hij
  rw [X8h,X8h]
  split<;>split<;>first|omega|assumption
 ·refine Xgt hl.2 ?_
  have:=Xn7 h hq.2
  omega
theorem Xgr{n:Nat}{x:Br}(h:BrOk n x)(hl:BrL n x){q:Int}(hq:0<=q/\q.toNat<n) : BrL n (plcB x q):=by
 unfold plcB
 split
 ·exact Xmu h hl hq
 ·exact hl
theorem Xbi{n:Nat}{x:Br}(h:BrOk n x)(hl:BrL n x){q:Int}(hq:0<=q/\q.toNat<n)(m:Int) : BrL n (trnB x q m):=Xgr h hl hq
theorem Xt4{n:Nat}{x:Br}(h:BrOk n x)(hl:BrL n x){p q:Int}(hp:0<=p/\p.toNat<n)(hq:0<=q/\q.toNat<n)(hpq:p≠q) : BrL n (czB x p q):=by
 have h1:=Xgr (X34 h p) (Xgr h hl hp) hq
 have h2:=h1.1 p.toNat q.toNat hp.2 hq.2 (by omega)
 rw [Xp9 (by omega)] at h2
 unfold czB
 dsimp only
 split
 ·exact ⟨h1.1,fun w hw=>h1.2 w ((X2y _ _).subset hw)⟩
 ·exact ⟨h1.1,Xgt h1.2 h2⟩
theorem Xqn{n:Nat}{x:Br}(h:BrOk n x)(hl:BrL n x){a b:Int}(ha:0<=a/\a.toNat<n)(hb:0<=b/\b.toNat<n) : BrL n (swpB x a b):=by
 have hla:=h.la
 have key:∀ p,((x.la.set a.toNat (x.la.getD b.toNat 0)).set b.toNat (x.la.getD a.toNat 0)).getD p 0=x.la.getD (if p=b.toNat then a.toNat else if p=a.toNat then b.toNat else p) 0:=fun p=>by
  rw [X8h,X8h,List.length_set]
  by_cases h1:p=b.toNat
  ·rw [Q4 ⟨h1.symm,by omega⟩,Q4 h1]
  ·rw [Q3 (fun h9=>h1 h9.1.symm),Q3 h1]
   by_cases h2:p=a.toNat
   ·rw [Q4 ⟨h2.symm,by omega⟩,Q4 h2]
   ·rw [Q3 (fun h9=>h2 h9.1.symm),Q3 h2]
 refine ⟨fun i j hi hj hij=>?_,hl.2⟩
 show ((x.la.set a.toNat _).set b.toNat _).getD i 0≠((x.la.set a.toNat _).set b.toNat _).getD j 0
 rw [key,key]
 refine hl.1 _ _ ?_ ?_ ?_
 ·split
  ·omega
  ·split<;>omega
 ·split
  ·omega
  ·split<;>omega
 ·split<;>split<;>(try split)<;>(try split)<;>omega
theorem Xu7{n:Nat}{x:Br}(h:BrOk n x)(hl:BrL n x){g:Gt}(hg:gOk (n:Int) g=true) : BrL n (gtB x g):=by
 have ha:=Xa5 hg;have hb:=Xai hg;have hs:=Xa8 hg
 unfold gtB
 split
 ·exact hl
 split
 ·exact Xbi (x:=flpB x g.a) (X1o h _) hl ha 4
 split
 ·exact Xbi (x:=flpB (trnB x g.a 4) g.a) (X1o (X3x h _ _) _) (Xbi h hl ha 4) ha 4
 split
 ·rename_i h9
  have h9':g.k=9:=by simpa using h9
  exact Xt4 (X1o h _) hl ha hb (hs.2.2.2 (by omega)).2.2
 split
 ·rename_i h9
  have h9':g.k=10:=by simpa using h9
  exact Xt4 h hl ha hb (hs.2.2.2 (by omega)).2.2
 split
 ·exact Xqn h hl ha hb
 split
 ·exact hl
 ·exact Xbi h hl ha (rotC g.k)
structure BrA (n:Nat) (x:Br) : Prop where
 ok:BrOk n x
 s:BrS x
 l:BrL n x
theorem Xeq{n:Nat} : ∀ (l:List Gt) (x:Br),BrA n x->(∀ g ∈ l,gOk (n:Int) g=true)->BrA n (l.foldl gtB x)
 | [],x,h,_=>h
 | g::l,x,h,hl=>by
  have h0:=hl g (by simp)
  exact Xeq l (gtB x g) ⟨Xff h.ok h0,Xvg h.ok h.s h0,Xu7 h.ok h.l h0⟩ fun z hz=>hl z (by simp [hz])
theorem Xoh{c:Cx}(hn:1<=c.n/\c.n<=5) : BrA c.n.toNat (ofB0 c):=by
 refine ⟨X81 hn,Xoz c,fun p q hp hq hpq=>?_,fun w hw=>by cases hw⟩
 have key:∀ p,p<c.n.toNat->(ofB0 c).la.getD p 0=(p:Int):=fun p hp=>by
  show (ranI c.n.toNat).getD p 0=_
  unfold ranI
  rw [Qa,List.getElem?_map,List.getElem?_range hp]
  rfl
 rw [key p hp,key q hq]
 omega
theorem Xm7{c:Cx}(hc:cOk c=true) : ∀ j,j<=c.n.toNat->BrA c.n.toNat (ofK c j)
 | 0,_=>by
  obtain ⟨n9,hn9,hn1,hn5⟩:=X7x hc
  have hcn:c.n=((c.n.toNat:Nat) : Int):=by omega
  exact Xeq c.gs (ofB0 c) (Xoh ⟨by omega,by omega⟩) fun g hg=>by
   obtain ⟨i,hi⟩:=List.mem_iff_getElem?.1 hg;exact Xgd hc hcn hi
 | j+1,hj=>by
  obtain ⟨n9,hn9,hn1,hn5⟩:=X7x hc
  have h:=Xm7 hc j (by omega)
  rw [Xad]
  exact ⟨X8g h.ok ⟨by omega,by omega⟩,Xl1 h.ok h.s ⟨by omega,by omega⟩,Xmu h.ok h.l ⟨by omega,by omega⟩⟩
theorem Xu0{c:Cx}(hc:cOk c=true)(hl:c.gs.length<=100) : InD (ofD c)/\1<=(ofD c).ns.length/\1<=(ofD c).ws.length/\(ofD c).ns.length<=310/\(ofD c).ws.length<=310:=by
 obtain ⟨n9,hn9,hn1,hn5⟩:=X7x hc;have h:=Xm7 hc c.n.toNat (Qb _);obtain ⟨_,h2,h3,h4⟩:=Xmj hc c.n.toNat (Qb _)
 have e1:(ofD c).ns=(ofK c c.n.toNat).d.ns:=rfl
 have e2:(ofD c).ws=(ofK c c.n.toNat).d.ws:=rfl
 have h5:1<=(ofK c c.n.toNat).d.ns.length/\1<=(ofK c c.n.toNat).d.ws.length:=by
  obtain ⟨k,hk⟩ : ∃ k,c.n.toNat=k+1:=⟨c.n.toNat-1,by omega⟩
  rw [hk,Xad]
  refine ⟨?_,?_⟩
  ·show 1<=((ofK c k).d.ns++[_]).length
   rw [Qh,List.length_singleton]
   omega
  ·show 1<=(jnW _ _ _ _).length
   rw [X2z]
   omega
 refine ⟨⟨⟨h.s.1,h.l.2⟩,fun x hx=>?_,h.ok.p,?_⟩,?_,?_,?_,?_⟩
 ·have:=h2 x hx
  rw [e1]
  omega
 ·rw [e1];omega
 ·rw [e1];omega
 ·rw [e2];omega
 ·rw [e1];omega
 ·rw [e2];omega
theorem Xt5{n:Int}{ns:List Nd}{ws:List Wr}{t r:Int}(h:InD ⟨n,ns,ws,t,r⟩){a b:Int}(ha:0<=a/\a.toNat<ns.length)(hb:0<=b/\b.toNat<ns.length)(hab:(a != b)=true)(hf:fdW ws a b<0)(x:Bool) : InD ⟨n,ns,jnW ws a b x,t,r⟩:=by
 refine ⟨⟨X6q h.w.s hf,Xgt h.w.l (by simpa using hab)⟩,fun w hw=>?_,h.p,h.m⟩
 rcases X4t.1 hw with rfl|hw
 ·show 0<=min a b/\max a b<(ns.length:Int)
  omega
 ·exact h.e w hw
theorem Xsc{n:Int}{ns:List Nd}{ws:List Wr}{t r:Int}(h:InD ⟨n,ns,ws,t,r⟩)(i:Nat){u:Nd}(hu:0<=u.p/\u.p<=7) : InD ⟨n,ns.set i u,ws,t,r⟩:=by
 refine ⟨h.w,fun w hw=>?_,Xer h.p i hu,?_⟩
 ·show 0<=w.a/\w.b<((ns.set i u).length:Int)
  rw [List.length_set]
  exact h.e w hw
 ·show (ns.set i u).length<=1000
  rw [List.length_set]
  exact h.m
theorem Xlw:InD zD:=⟨⟨List.Pairwise.nil,al0⟩,al0,al0,by decide⟩
theorem Xti{d:Dg}{r:Rz} : InD (if apC d r=true then apD d r else zD):=by
 by_cases h:apC d r=true
 ·rw [Q4 h];exact X1b (Xbv h)
 ·rw [Q3 h];exact Xlw
theorem Xan{d:Dg}(h:InD d) : ∀ x ∈ d.ws,-1000000<=x.b/\x.b<=1000000:=Xmo h.rg h.m
theorem Xuz{c:Cx}(hn:1<=c.n/\c.n<=5)(hl:c.gs.length<=400)(hg:∀ g ∈ c.gs,gOk c.n g=true) : cOk c=true:=by
 unfold cOk
 rw [Qd,Qd]
 refine ⟨⟨X0t.2 hn,decide_eq_true (by omega)⟩,?_⟩
 rw [Bool.not_eq_true',W7]
 intro g hgm
 simp [hg g hgm]
theorem Xn0{d:Dg}{u:Int}{a b:Nat}(ha:a<d.ns.length)(hb:b<d.ns.length)(h:apC d ⟨u,a,b⟩=true) : (⟨u,a,b⟩ : Rz) ∈ alL d u:=by
 unfold alL alS alR
 exact List.mem_flatMap.2 ⟨a,W2.2 ha,List.mem_filter.2 ⟨W6.2 ⟨b,W2.2 hb,rfl⟩,h⟩⟩
structure BrE (m:Nat) (k:Int) (x:Br) : Prop where
 r:-(m:Int)<=x.d.r/\x.d.r<=m
 t:0<=x.d.t/\x.d.t<=2*(m:Int)
 e:exD x.d<=k
theorem BrE.mono{m m':Nat}{k k':Int}{x:Br}(h:BrE m k x)(hm:m<=m')(hk:k<=k') : BrE m' k' x:=⟨by have:=h.r;omega,by have:=h.t;omega,by have:=h.e;omega⟩
theorem Xm4{m:Nat}{k:Int}{x:Br}(h:BrE m k x)(u p q:Int) : BrE m (k+1) (nodB x u p q):=by
 refine ⟨h.r,h.t,?_⟩
 have:=h.e
 unfold exD at this ⊢
 show hdN (jnW _ _ _ _)-x.d.r<=_
 rw [Xh9]
 split<;>omega
theorem Xez{m:Nat}{k:Int}{x:Br}(h:BrE m k x)(q:Int) : BrE m (k+1) (plcB x q):=by
 unfold plcB
 split
 ·exact Xm4 h _ _ _
 ·exact h.mono (Qb _) (by omega)
theorem Xc3{m:Nat}{k:Int}{x:Br}(h:BrE m k x)(q u:Int) : BrE m (k+1) (trnB x q u):=by
 have:=Xez h q
 exact ⟨this.r,this.t,this.e⟩
theorem X71{m:Nat}{k:Int}{x:Br}(h:BrE m k x)(q:Int) : BrE m k (flpB x q):=⟨h.r,h.t,h.e⟩
theorem Xqc{m:Nat}{k:Int}{x:Br}(h:BrE m k x)(hm:m<=1000)(p q:Int) : BrE (m+1) (k+3) (czB x p q):=by
 have h2:=Xez (Xez h p) q;have hr:=h2.r;have ht:=h2.t;have he:=h2.e
 have e1:wr ((plcB (plcB x p) q).d.r-1)=(plcB (plcB x p) q).d.r-1:=X27 (by omega) (by omega)
 have e2:wr ((plcB (plcB x p) q).d.r+1)=(plcB (plcB x p) q).d.r+1:=X27 (by omega) (by omega)
 by_cases hf:0<=fdW (plcB (plcB x p) q).d.ws ((plcB x p).la.getD p.toNat 0) ((plcB (plcB x p) q).la.getD q.toNat 0)
 ·rw [Xrd hf]
  obtain ⟨w,h3,_,_⟩:=X7i hf;have hc:=Xrx h3
  refine ⟨by dsimp only;omega,by dsimp only;omega,?_⟩
  unfold exD at he ⊢
  dsimp only
  split at hc<;>omega
 ·rw [Xto hf]
  refine ⟨by dsimp only;omega,by dsimp only;omega,?_⟩
  unfold exD at he ⊢
  dsimp only
  rw [Xh9,Q4 rfl]
  omega
theorem Xqi{m:Nat}{k:Int}{x:Br}(h:BrE m k x)(hm:m<=1000){u:Int}(hu:0<=u/\u<=2) : BrE (m+1) k (tnB x u):=by
 have ht:=h.t;have hr:=h.r
 have e1:wr (x.d.t+u)=x.d.t+u:=X27 (by omega) (by omega)
 refine ⟨?_,?_,h.e⟩
 ·show _<=x.d.r/\x.d.r<=_
  omega
 ·show 0<=wr (x.d.t+u)/\wr (x.d.t+u)<=_
  omega
theorem Xv8{m:Nat}{k:Int}{x:Br}(h:BrE m k x)(hm:m<=1000)(g:Gt) : BrE (m+1) (k+3) (gtB x g):=by
 unfold gtB
 split
 ·exact (X71 h _).mono (by omega) (by omega)
 split
 ·exact (X71 (Xc3 (X71 h _) _ _) _).mono (by omega) (by omega)
 split
 ·have h2:BrE m (k+1+1) (yyB x g.a):=X71 (Xc3 (X71 (Xc3 h _ _) _) _ _) _
  exact (Xqi h2 hm ⟨by decide,by decide⟩).mono (by omega) (by omega)
 split
 ·exact X71 (Xqc (X71 h _) hm _ _) _
 split
 ·exact Xqc h hm _ _
 split
 ·exact ⟨by have:=h.r;show _<=x.d.r/\x.d.r<=_;omega,by have:=h.t;show 0<=x.d.t/\x.d.t<=_;omega,by have:=h.e;show exD x.d<=_;omega⟩
 split
 ·exact (Xqi h hm ⟨by decide,by decide⟩).mono (by omega) (by omega)
 ·exact (Xc3 h _ _).mono (by omega) (by omega)
theorem Xes:∀ (l:List Gt) {m:Nat} {k:Int} {x:Br},BrE m k x->m+l.length<=1000->BrE (m+l.length) (k+3*(l.length:Int)) (l.foldl gtB x)
 | [],m,k,x,h,_=>h.mono (by simp) (by simp)
 | g::l,m,k,x,h,hm=>by
  rw [Qs] at hm ⊢
  have ih:=Xes l (Xv8 h (by omega) g) (by omega)
  exact ih.mono (by omega) (by omega)
theorem Xmc{c:Cx}(hl:c.gs.length<=100) : ∀ j:Nat,BrE c.gs.length (3*(c.gs.length:Int)+j) (ofK c j)
 | 0=>by
  have h0:BrE 0 0 (ofB0 c):=⟨by show _<=(0:Int)/\(0:Int)<=_;omega,by show (0:Int)<=0/\(0:Int)<=_;omega,by show ((([] : List Wr).filter fun w=>w.h).length:Int)-0<=0;simp⟩
  exact (Xes c.gs h0 (by omega)).mono (by omega) (by omega)
 | j+1=>by
  rw [Xad]
  exact (Xm4 (Xmc hl j) _ _ _).mono (Qb _) (by omega)
def ExQ(d:Dg) : Prop:=(0<=d.t/\d.t<=7)/\(-1000<=exD d/\exD d<=31)
theorem Xr5{c:Cx}(hn:c.n<=2)(hl:c.gs.length<=9) : (0<=(ofD c).t/\(ofD c).t<=7)/\(-9<=(ofD c).r/\(ofD c).r<=9)/\exD (ofD c)<=29:=by
 have h:=Xmc (c:=c) (by omega) c.n.toNat
 have hr:=h.r;have ht:=h.t;have he:=h.e
 refine ⟨?_,?_,?_⟩
 ·show 0<=(ofK c c.n.toNat).d.t.tmod 8/\(ofK c c.n.toNat).d.t.tmod 8<=7
  rw [Int.tmod_eq_emod_of_nonneg ht.1]
  omega
 ·show -9<=(ofK c c.n.toNat).d.r/\(ofK c c.n.toNat).d.r<=9
  omega
 ·show exD (ofK c c.n.toNat).d<=29
  omega
def ExL(d:Dg) : Prop:=-30<=d.r->d.r<=30->exD d<=60
theorem ExQ.l{d:Dg}(h:ExQ d) : ExL d:=fun _ _=>by have:=h.2;omega
theorem X2p{n t r:Int}{ns ns':List Nd}{ws:List Wr}{a b:Int}(h:ExL ⟨n,ns,ws,t,r⟩) : ExL ⟨n,ns',ws++[⟨a,b,false⟩],t,r⟩:=fun h1 h2=>by
 have:=h h1 h2
 unfold exD at this ⊢
 dsimp only at this ⊢
 rw [X8p,X96]
 show hdN ws+(0+0)-r<=60
 omega
theorem X24{n t r:Int}{ns ns':List Nd}{ws:List Wr}(h:ExL ⟨n,ns,ws,t,r⟩)(k:Nat) : ExL ⟨n,ns',ws.drop k,t,r⟩:=fun h1 h2=>by
 have:=h h1 h2
 unfold exD at this ⊢
 dsimp only at this ⊢
 have h3:hdN ws=hdN (ws.take k)+hdN (ws.drop k):=by rw [<- X8p,W9]
 have h4:=Xl7 (ws.take k)
 omega
theorem X5g{d:Dg}(h:d.r < -30∨30<d.r) : ExL d:=fun h1 h2=>by omega
theorem Xqx(w0:World)(bV B0:Nat)(A0:Option Addr)(c0:Nat)(A1:Option Addr)(c1 m0:Nat)(d:Dg)(bL:Dgm w0 bV B0 A0 c0 A1 c1 m0 d)(aV:B0<=w0.heap.size)(p:Int)(q:Int)(hG:goodD d=true) : Ret Tryz.prog 168 [(pZ9 bV),vi p,vi q] w0 (fun v w=>∃ A c,v=.bool (fuC d p q)/\TurnS (SB bV [A0,A1]) w0 w/\Us (SB bV [A0,A1]) w0 A/\Dgm w bV B0 A0 c0 A c m0 (if fuC d p q=true then fuD d p q else d)):=by
 obtain ⟨i,g,z,aF⟩:=bL;have cB:=i.lt
 have aW:Us (SB bV [A0,A1]) w0 A0:=SB.us (by simp)
 have b3:Us (SB bV [A0,A1]) w0 A1:=SB.us (by simp)
 have hD:=X1b hG;have cE:=hD.m;have cF:=hD.len;have cG:=X1v d.ws q;have cC:=X2q hD q;refine enter Tryz.func168 rfl 79 rfl rfl ?_;intro a C
 have G:TurnS (SB bV [A0,A1]) w0 w0:=TurnS.refl _ _
 refine Zs C fun _ bM=>?_;refine Za rfl<|ZX bM fun a C _ bN=>?_;refine Q5 fun _ bO=>?_;refine X06 (fun a w=>Fr a 79 [(0,(pZ9 bV)),(1,vi p),(2,vi q),(41,.bool (((((decide (p<0))||(decide (q<=p)))||(!(spI d.ns p)))||(!(spI d.ns q)))||((tyW d.ws p q) != 1)))]/\Below w0.heap.size w0 w) ?_ ?_
 ·have M:=bz w0
  refine Zr C<|Zm rfl<|Ze (X0i rfl rfl)<|Zm rfl ?_
  refine Zg 12 rfl (fun H=>?_) (fun H=>?_)
  ·(iterate 3 refine Zp (gP H) ?_);refine Ze (X5 rfl H rfl)<|Zm rfl<|Zp (gP rfl) ?_;(iterate 5 refine Zp (gP rfl) ?_);refine Ze (X5 rfl rfl rfl)<|Zm rfl<|Zp (gP rfl) ?_;(iterate 5 refine Zp (gP rfl) ?_);refine Ze (X5 rfl rfl rfl)<|Zm rfl<|Zp (gP rfl) ?_;(iterate 6 refine Zp (gP rfl) ?_);refine Ze (X5 rfl rfl rfl) ?_;refine Zn fun a C=>?_
   have a8:Below w0.heap.size w0 w0:=M
   exact ⟨C.sub ⟨rfl,rfl,rfl,X1 rfl (by first|rfl|(simp only [H,bs];done)|simp [H]),trivial⟩,a8⟩
  refine Zv (gW H) (X3 rfl) ?_;refine Zv (gW H) (X3 rfl) ?_;refine Zv (gW H) (X4q rfl rfl) ?_;refine Ze (X9 rfl H rfl)<|Zm rfl ?_
  refine Zg 17 rfl (fun B=>?_) (fun B=>?_)
  ·(iterate 6 refine Zp (gP B) ?_);refine Ze (X5 rfl B rfl)<|Zm rfl<|Zp (gP rfl) ?_;(iterate 5 refine Zp (gP rfl) ?_);refine Ze (X5 rfl rfl rfl)<|Zm rfl<|Zp (gP rfl) ?_;(iterate 6 refine Zp (gP rfl) ?_);refine Ze (X5 rfl rfl rfl) ?_;refine Zn fun a C=>?_
   have a8:Below w0.heap.size w0 w0:=M
   exact ⟨C.sub ⟨rfl,rfl,rfl,X1 rfl (by first|rfl|(simp only [H,B,bs];done)|simp [H,B]),trivial⟩,a8⟩
  refine Zv (gW B) (X3 rfl) ?_;refine Zv (gW B) (X03 rfl) ?_;refine Zv (gW B) (X00 (l:=[vi d.n,.slice A0 m0 c0,.slice A1 d.ws.length c1,vi d.t,vi d.r]) rfl X2 (i.at 0) rfl) ?_;refine Zv (gW B) (X3 rfl) ?_;refine Zk (gW B) (Vc (X4j _ d m0 aF A0 c0 g.rd.top A1 c1 z.rd.top z.cap p (by omega)) X2f) ?_;rintro _ w1 ⟨rfl,y⟩;have i:=i.bw y;have g:=g.bw y;have z:=z.bw y;have G:=tsbel G y;have M:=btr M y;refine Zv (gW B) (X0z rfl) ?_;refine Ze (X9 rfl B rfl)<|Zm rfl ?_
  refine Zg 25 rfl (fun D=>?_) (fun D=>?_)
  ·(iterate 6 refine Zp (gP D) ?_);refine Ze (X5 rfl D rfl)<|Zm rfl<|Zp (gP rfl) ?_;(iterate 6 refine Zp (gP rfl) ?_);refine Ze (X5 rfl rfl rfl) ?_;refine Zn fun a C=>?_
   have a8:Below w0.heap.size w0 w1:=M
   exact ⟨C.sub ⟨rfl,rfl,rfl,X1 rfl (by first|rfl|(simp only [H,B,D,bs];done)|simp [H,B,D]),trivial⟩,a8⟩
  refine Zv (gW D) (X3 rfl) ?_;refine Zv (gW D) (X03 rfl) ?_;refine Zv (gW D) (X00 (l:=[vi d.n,.slice A0 m0 c0,.slice A1 d.ws.length c1,vi d.t,vi d.r]) rfl X2 (i.at 0) rfl) ?_;refine Zv (gW D) (X3 rfl) ?_;refine Zk (gW D) (Vc (X4j _ d m0 aF A0 c0 g.rd.top A1 c1 z.rd.top z.cap q (by omega)) X2f) ?_;rintro _ w2 ⟨rfl,y⟩;have i:=i.bw y;have g:=g.bw y;have z:=z.bw y;have G:=tsbel G y;have M:=btr M y;refine Zv (gW D) (X0z rfl) ?_;refine Ze (X9 rfl D rfl)<|Zm rfl ?_
  refine Zg 33 rfl (fun E=>?_) (fun E=>?_)
  ·(iterate 7 refine Zp (gP E) ?_);refine Ze (X5 rfl E rfl) ?_;refine Zn fun a C=>?_
   have a8:Below w0.heap.size w0 w2:=M
   exact ⟨C.sub ⟨rfl,rfl,rfl,X1 rfl (by first|rfl|(simp only [H,B,D,E,bs];done)|simp [H,B,D,E]),trivial⟩,a8⟩
  refine Zv (gW E) (X3 rfl) ?_;refine Zv (gW E) (X03 rfl) ?_;refine Zv (gW E) (X00 (l:=[vi d.n,.slice A0 m0 c0,.slice A1 d.ws.length c1,vi d.t,vi d.r]) rfl X2 (i.at 0) rfl) ?_;refine Zv (gW E) (X3 rfl) ?_;refine Zv (gW E) (X3 rfl) ?_;refine Zk (gW E) (Vc (X5h _ d m0 aF A0 c0 g.rd.top A1 c1 z.rd.top z.cap p q (by omega)) X2r) ?_;rintro _ w3 ⟨rfl,y⟩;have G:=tsbel G y;have M:=btr M y;refine Zv (gW E) (X1c rfl rfl) ?_;refine Ze (X9 rfl E rfl) ?_;refine Zn fun a C=>?_
  have a8:Below w0.heap.size w0 w3:=M
  exact ⟨C.sub ⟨rfl,rfl,rfl,X1 rfl (by first|rfl|(simp only [H,B,D,E,bs];done)|simp [H,B,D,E]),trivial⟩,a8⟩
 rintro a w4 ⟨C,y⟩;have i:=i.bw y;have g:=g.bw y;have z:=z.bw y;have G:=tsbel G y;refine bO _ _ ?_
 refine Xf C rfl (fun aB=>?_) (fun aB=>?_)
 ·have aX:=aB;have bP:=Xpm aB;refine Zs C fun _ b4=>?_;refine Za rfl<|Zt b4 fun a C=>?_;refine Q6<|X8<|X6 C (Xs C rfl rfl) ?_
  rw [bP,Q3 Bool.false_ne_true]
  exact ⟨A1,c1,rfl,G,b3,⟨i,g,z,aF⟩⟩
 have aX:=aB;have aQ:=Xhx aB;obtain ⟨aR,bQ⟩:=X7v aQ;have cH:=X1l hD.p q.toNat;refine Q7<|bN _ _<|Zs C fun _ b5=>?_;refine Zm rfl<|Ze (X03 rfl)<|Ze (X00 (l:=[vi d.n,.slice A0 m0 c0,.slice A1 d.ws.length c1,vi d.t,vi d.r]) rfl X2 (i.at 0) rfl)<|Zf (Vc (Xhk _ d m0 aF A0 c0 g.rd.top A1 c1 z.rd.top z.cap ⟨by omega,by omega⟩) X8c) ?_;rintro _ w5 ⟨aH,aL,aI,aM,rfl,u,x,y⟩
 have e:=Off.new (l:=[A0,A1]) u (Qb _) i.lt (alc (fun _ h9=>X6i g h9) (alc (fun _ h9=>X6i z h9) al0))
 have f:=Off.new (l:=[A0,A1]) x (Qb _) i.lt (alc (fun _ h9=>X6i g h9) (alc (fun _ h9=>X6i z h9) al0))
 have u:=u.lower G.size;have x:=x.lower G.size;have i:=i.bw y;have g:=g.bw y;have z:=z.bw y;have G:=tsbel G y;refine Zf (Xw (zs:=[vi 0,.slice none 0 0,.slice none 0 0,vi 0,vi 0]) X0e rfl) ?_;rintro _ w6 ⟨b17,rfl,b6,y,j⟩
 have N:bV≠b17:=by have:=i.lt;omega
 have aY:=Q0 G.size b6;have i:=i.bw y;have g:=g.bw y;have z:=z.bw y;have u:=u.bw y;have x:=x.bw y;have e:=e.mono y.size;have f:=f.mono y.size;have G:=tsbel G y;refine Zo (Vw [vi d.n,.slice aH d.ns.length aL,.slice aI d.ws.length aM,vi d.t,vi d.r] Xd j) ?_;rintro _ w7 ⟨ho,hb⟩;have aG:=j;have i:=i.oy ho (by omega);have g:=g.oT ho aG rfl;have z:=z.oT ho aG rfl;have u:=u.oT ho aG rfl;have x:=x.oT ho aG rfl;have e:=e.mono (Nat.le_of_eq ho.size.symm);have f:=f.mono (Nat.le_of_eq ho.size.symm);have G:=tsonly G ho (.inr aY);have j:=hb;refine Zx b5 fun a C _ b7=>?_;refine Zm rfl<|Zm rfl<|Zf (Vc (X7e _ bV B0 A0 c0 A1 c1 m0 d ⟨i,g,z,aF⟩ (Q0 aV G.size) q bQ (by omega)) X40) ?_;rintro _ w8 ⟨bR,bS,h,Q,aC,L,aT,aZ⟩;have j:=j.tuN h (Ne.symm N) (alc (nrow g j rfl) (alc (nrow z j rfl) al0));have u:=u.off h e;have x:=x.off h f
 have e:=e.tu h (alc (SB.us (A:=A0) (by simp)) (alc Q al0))
 have f:=f.tu h (alc (SB.us (A:=A0) (by simp)) (alc Q al0))
 have U:=SB.lift (S:=SB bV [A0,A1]) (w0:=w0) (.inl (.inl rfl)) (alc aW (alc b3 al0));have Q:=Us.trans Q U G.size
 have G:=tstr G h U;clear U
 clear h i;have i:=aC;clear aC
 clear g;have g:=L;clear L;refine Zx b7 fun a C _ b8=>?_;refine Zm rfl<|Zm rfl<|Ze (Vd rfl Xc 1)<|Ze (X0 rfl Xv (j.at 1))<|Zm rfl<|Ze (Xp (k:=q.toNat) rfl rfl Xm X05 u rfl (by omega) (by omega))<|Ze (X0w rfl X04 (m':=q.toNat*2+1) rfl)<|Ze (X0 rfl Xa (X0u u Xt (Xg (d:=nZ) (by omega)) 1 rfl))<|Zf (Vc (X9l _ bV B0 A0 c0 bR bS m0 (id0 d q) ⟨i,g,aT,aZ⟩ (Q0 aV G.size) p ((d.ns.getD q.toNat nZ).p) ⟨aR.1,by show p.toNat<(dpN d.ns q).length;rw [X1k];exact aR.2⟩ (X3r hD.p q) ⟨by omega,by omega⟩) X5i) ?_;rintro _ w9 ⟨bT,bU,h,W,aC,L,aN,bW⟩;have j:=j.tuN h (Ne.symm N) (alc (nrow g j rfl) (alc (nrow aT j rfl) al0));have u:=u.off h e;have x:=x.off h f
 have e:=e.tu h (alc (SB.us (A:=A0) (by simp)) (alc W al0))
 have f:=f.tu h (alc (SB.us (A:=A0) (by simp)) (alc W al0))
 have U:=SB.lift (S:=SB bV [A0,A1]) (w0:=w0) (.inl (.inl rfl)) (alc aW (alc Q al0));have W:=Us.trans W U G.size
 have G:=tstr G h U;clear U
 clear h i;have i:=aC;clear aC
 clear g;have g:=L;clear L;refine ZX b8 fun a C _ b9=>?_;refine Zs C fun _ bA=>?_;refine Ze (Vn X2 j)<|Zm rfl<|Zf (Vc (X7d _ d d.ns.length rfl aH aL u.rd.top aI aM x.rd.top x.cap q hD.w (by omega)) X43) ?_;rintro _ cI ⟨bB,bC,rfl,I,y⟩;have I:=I.lower G.size;have i:=i.bw y;have j:=j.bw y;have g:=g.bw y;have u:=u.bw y;have x:=x.bw y;have aN:=aN.bw y;have e:=e.mono y.size;have f:=f.mono y.size;have G:=tsbel G y;refine Ze (X07 rfl Xk)<|Zm rfl<|Zt bA fun a C=>?_;refine Q8<|X02 (σ:=Nat×Dg) (fun (s:Nat×Dg) (a:Act) (w:World)=>match s with|(k,o)=>∃ aA aJ,Fr a 79 [(0,(pZ9 bV)),(1,vi p),(2,vi q),(7,(pZ9 b17)),(60,.slice bB (nearW d.ws q).length bC),(61,vi ((nearW d.ws q).length:Int)),(62,vi (k:Int))]/\(k<=(nearW d.ws q).length)/\(o=fuS d p q ((nearW d.ws q).take k) (fu0 d p q))/\(m0=o.ns.length)/\(FuI d p q k o)/\Blk w bV 31 [vi o.n,.slice A0 m0 c0,.slice aA o.ws.length aJ,vi o.t,vi o.r]/\Blk w b17 31 [vi d.n,.slice aH d.ns.length aL,.slice aI d.ws.length aM,vi d.t,vi d.r]/\Own w B0 76 2 encNd A0 c0 o.ns/\Own w w0.heap.size 76 2 encNd aH aL d.ns/\Own w w0.heap.size 84 3 encWr aI aM d.ws/\Own w w0.heap.size 3 1 encI bB bC (nearW d.ws q)/\Own w B0 84 3 encWr aA aJ o.ws/\Off w bV [A0,aA] aH/\Off w bV [A0,aA] aI/\Us (SB bV [A0,A1]) w0 aA/\TurnS (SB bV [A0,A1]) w0 w) (fun (s:Nat×Dg)=>match s with|(k,o)=>(nearW d.ws q).length-k) (0,(fu0 d p q)) ?_ ?_
 ·exact ⟨bT,bU,C.sb,(Qf _),rfl,(aF.trans (X5f d p q).1.symm),(FuI.init hG),i,j,g,u,x,I,aN,e,f,W,G⟩
 rintro ⟨k,o⟩ a cJ ⟨aA,aJ,C,hk,b0,aS,aD,i,j,g,u,x,I,a6,e,f,aO,G⟩;refine Zs C fun _ bD=>?_;refine Ze (X0i rfl rfl)<|ZX bD fun a C _ bE=>?_
 refine Xf C rfl (fun J=>?_) (fun J=>?_)
 ·have b1:=J;have J:=Q2 J
  obtain ⟨cK,cD⟩:=X4 (l:=(nearW d.ws q)) (k:=k) (by omega)
  obtain ⟨u9,aK⟩:=X4 (l:=(nearW d.ws q)) (k:=k) (by have:=J;omega)
  have bF:=X4z hD aK;refine Q7<|bE _ _<|Q5 fun _ aU=>?_;refine Q8<|Zs C fun _ bG=>?_;refine Ze (Xp (k:=k) rfl rfl Xk X0a I rfl rfl (by omega))<|Ze (X0 rfl Xa (X0u I Xh aK 0 rfl))<|Za rfl<|Zx bG fun a C _ bH=>?_;refine Zm rfl<|Zm rfl<|Ze (X1c rfl rfl)<|Zt bH fun a C=>?_
  refine Xf C rfl (fun aE=>?_) (fun aE=>?_)
  ·have b2:=aE;have aP:=X8e (d:=d) (a:=p) (b:=q) (o:=fu0 d p q) aK
   rw [<- b0,Xla aE] at aP
   have bX:=X4o o p u9 (tyW d.ws q u9==2);refine Zr C<|Zm rfl<|Zm rfl<|Zm rfl<|Ze (Vn X2 j)<|Zm rfl<|Zm rfl<|Zf (Vc (X5h _ d d.ns.length rfl aH aL u.rd.top aI aM x.rd.top x.cap q u9 (by omega)) X2r) ?_;rintro _ cL ⟨rfl,y⟩;have i:=i.bw y;have j:=j.bw y;have g:=g.bw y;have u:=u.bw y;have x:=x.bw y;have I:=I.bw y;have a6:=a6.bw y;have e:=e.mono y.size;have f:=f.mono y.size;have G:=tsbel G y;refine Ze (X0f rfl rfl)<|Zf (Vc (Xl6 _ bV B0 A0 c0 aA aJ m0 o ⟨i,g,a6,aS⟩ (Q0 aV G.size) p u9 ((tyW d.ws q u9)==2) aD.s (by have:=aD.c;omega) ⟨⟨aR.1,by rw [aD.l];exact aR.2⟩,⟨bF.1,by rw [aD.l];exact bF.2⟩⟩ aD.p (by omega) (aD.hab hD aQ aK)) Xbh) ?_;rintro _ cM ⟨bY,bZ,h,a7,aC,L,bI,cA⟩;have j:=j.tuN h (Ne.symm N) (alc (nrow g j rfl) (alc (nrow a6 j rfl) al0));have u:=u.off h e;have x:=x.off h f;have I:=I.tu h i rfl (alc (X0r g rfl) (alc (X0r a6 rfl) al0))
   have e:=e.tu h (alc (SB.us (A:=A0) (by simp)) (alc a7 al0))
   have f:=f.tu h (alc (SB.us (A:=A0) (by simp)) (alc a7 al0))
   have U:=SB.lift (S:=SB bV [A0,A1]) (w0:=w0) (.inl (.inl rfl)) (alc aW (alc aO al0));have a7:=Us.trans a7 U G.size
   have G:=tstr G h U;clear U
   clear h i;have i:=aC;clear aC
   clear g;have g:=L;clear L;refine Zn fun a C=>?_;refine Xb<|aU _ _<|Zr C<|Ze (Xr rfl rfl (by omega) (by omega))<|Zm rfl ?_;refine Zn fun a C=>?_;refine Xe ?_;exact ⟨(k+1,(mtD o p u9 ((tyW d.ws q u9)==2))),⟨bY,bZ,C.sb,(by omega),aP.symm,(aS.trans bX.1.symm),(aD.step hD aQ aK),i,j,g,u,x,I,bI,e,f,a7,G⟩,(by first|omega|(dsimp only;omega))⟩
  have b2:=aE;have aP:=X8e (d:=d) (a:=p) (b:=q) (o:=fu0 d p q) aK
  rw [<- b0,Xlb aE] at aP
  refine Q7<|Xb<|aU _ _<|Zr C ?_;refine Ze (Xr rfl rfl (by omega) (by omega))<|Zm rfl ?_;refine Zn fun a C=>?_;refine Xe ?_;exact ⟨(k+1,o),⟨aA,aJ,C.sb,(by omega),aP.symm,aS,aD.skip,i,j,g,u,x,I,a6,e,f,aO,G⟩,(by first|omega|(dsimp only;omega))⟩
 have b1:=J;have J:=Q1 J
 have bJ:o=fuD d p q:=by rw [b0,Qi (by have:=J;omega)];rfl
 refine Q9<|Xl<|Xl<|X01 ?_;refine b9 _ _<|Zs C fun _ bK=>?_;refine Za rfl<|Zt bK fun a C=>?_
 refine Q6 (X6 C (Xs C rfl rfl) ?_)
 rw [aQ,Q4 rfl,<- bJ]
 exact ⟨aA,aJ,rfl,G,aO,⟨i,g,a6,aS⟩⟩
end Go.Proofs.YtipiejccbmifnaaGreatDoor
