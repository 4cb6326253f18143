/-
  Whatever the bytes, logs drawn from them are replayed, cut in two and read back as the law says; so it answers true.
-/
import Derived.Test.YtipiejccbmifnaaGreatDoorV1
set_option linter.unusedVariables false
set_option linter.unusedSimpArgs false
set_option maxRecDepth 4000
set_option linter.unusedSectionVars false
namespace Go.Proofs.YtipiejccbmifnaaGreatDoor
open Go.RowKit
theorem Xqf(d:World){a6 a7:TypeId}(Ap:Option Addr)(cp:Nat)(p:List Int)(aB:Rd d d.heap.size a6 encU Ap p)(Aq:Option Addr)(cq:Nat)(q:List Int)(aC:Rd d d.heap.size a7 encU Aq q) : Ret Tryz.prog 5 [.slice Ap p.length cp,.slice Aq q.length cq] d (fun v w=>v=.bool (decide (1048576<(p.length:Int))||decide (wr (1048576-(p.length:Int))<(q.length:Int)))/\Below d.heap.size d w):=by
 refine enter Tryz.func5 rfl 16 rfl rfl ?_;intro a c
 have hW:=bz d
 refine Zs c fun _ a8=>?_;refine Za rfl<|ZX a8 fun a c _ aA=>?_;refine X06 (fun a w=>Fr a 16 [(4,.bool ((decide (1048576<(p.length:Int)))||(decide ((wr (1048576-(p.length:Int)))<(q.length:Int)))))]/\d=w) ?_ ?_
 ·refine Zr c<|Zm rfl<|Ze (X07 rfl X3m)<|Ze (X2o rfl rfl)<|Zm rfl ?_
  refine Zg 8 rfl (fun b=>?_) (fun b=>?_)
  ·(iterate 6 refine Zp (gP b) ?_);refine Ze (X5 rfl b rfl)<|Za rfl ?_;refine Zn fun a c=>?_;exact ⟨c.sub ⟨X1 rfl (by first|rfl|(simp only [b,bs];done)|simp [b]),trivial⟩,rfl⟩
  refine Zv (gW b) (X3 rfl) ?_;refine Zv (gW b) (X07 rfl X3m) ?_;refine Zv (gW b) (X3 rfl) ?_;refine Zv (gW b) (X07 rfl X3m) ?_;refine Zv (gW b) (X9t rfl rfl) ?_;refine Zv (gW b) (X2o rfl rfl) ?_;refine Ze (X9 rfl b rfl)<|Za rfl ?_;refine Zn fun a c=>?_;exact ⟨c.sub ⟨X1 rfl (by first|rfl|(simp only [b,bs];done)|simp [b]),trivial⟩,rfl⟩
 rintro a _ ⟨c,rfl⟩;refine aA _ _ ?_
 refine Q6 (X6 c (Xs c rfl rfl) ?_)
 exact ⟨rfl,hW⟩
theorem gapp{α:Type}{w0 w w':World}{R:Option Nat}{E:TypeId}{sz c:Nat}{enc:α->List Value}{A:Option Addr}{l:List α}(h:w0.grownBy w R)(ho:Own w w0.heap.size E sz enc A c l)(hg:w.grownBy w' (Value.slice A l.length c).ownBlock) : w0.grownBy w' R:=
 ⟨hg.os.trans h.os,hg.tape.trans h.tape,hg.output.trans h.output,Q0 h.size hg.size,fun k hk h1=>(hg.block k (Nat.lt_of_lt_of_le hk h.size) (fun e=>by have:=(ho.block e.symm).1;omega)).trans (h.block k hk h1)⟩
structure Nd where
 k:Int
 p:Int
deriving DecidableEq
structure Wr where
 a:Int
 b:Int
 h:Bool
deriving DecidableEq
structure Dg where
 n:Int
 ns:List Nd
 ws:List Wr
 t:Int
 r:Int
deriving DecidableEq
def nZ:Nd:=⟨0,0⟩
def wZ:Wr:=⟨0,0,false⟩
def encNd(x:Nd) : List Value:=[.int .i64 x.k,.int .i64 x.p]
def encWr(x:Wr) : List Value:=[.int .i64 x.a,.int .i64 x.b,.bool x.h]
theorem Xt:∀ x,(encNd x).length=2:=fun _=>rfl
theorem X2b:∀ x,(encNd x).all one=true:=fun _=>rfl
theorem Xu:∀ x,(encWr x).length=3:=fun _=>rfl
theorem X1e:∀ x,(encWr x).all one=true:=fun _=>rfl
def wlt(x y:Wr) : Bool:=decide (x.a<y.a)||(x.a==y.a&&decide (x.b<y.b))
abbrev WSd(l:List Wr) : Prop:=l.Pairwise fun x y=>wlt x y=true
theorem X39{x y:Wr} : wlt x y=true↔x.a<y.a∨(x.a=y.a/\x.b<y.b):=by unfold wlt;simp
theorem X5p{x y:Wr} : wlt x y=false↔y.a<x.a∨(x.a=y.a/\y.b<=x.b):=by grind [wlt]
theorem Xar{x y z:Wr}(h1:wlt x y=true)(h2:wlt y z=true) : wlt x z=true:=by rw [X39] at *;omega
def isW(a b:Int)(w:Wr) : Bool:=w.a==min a b&&w.b==max a b
theorem X31{a b:Int}{w:Wr} : isW a b w=true↔w.a=min a b/\w.b=max a b:=by simp [isW]
def fdW(l:List Wr)(a b:Int) : Int:=idxF l (isW a b)
theorem Xgh(a b:Int)(w:Wr) : isW a b w=isW b a w:=by unfold isW;rw [Int.min_comm,Int.max_comm]
theorem Xc7(l:List Wr)(a b:Int) : fdW l a b=fdW l b a:=by
 unfold fdW
 rw [show isW a b=isW b a from funext (Xgh a b)]
theorem X4n{α:Type}(l:List α)(q:α->Bool) : (idxF l q = -1/\∀ x ∈ l,q x=false)∨∃ k:Nat,∃ x,idxF l q=(k:Int)/\l[k]? = some x/\q x=true:=by
 unfold idxF
 cases h:l.findIdx? q with
 | none=>exact .inl ⟨rfl,fun x hx=>by have:=List.findIdx?_eq_none_iff.1 h x hx;simpa using this⟩
 | some k=>
  obtain ⟨h1,h2,_⟩:=List.findIdx?_eq_some_iff_getElem.1 h;exact .inr ⟨k,l[k],rfl,Qc h1,h2⟩
theorem X3t(l:List Wr)(a b:Int) : (fdW l a b = -1/\∀ w ∈ l,isW a b w=false)∨∃ k:Nat,∃ w,fdW l a b=(k:Int)/\l[k]? = some w/\isW a b w=true:=X4n l (isW a b)
theorem Xm9{l:List Wr}{a b:Int}(h:∀ w ∈ l,isW a b w=false) : fdW l a b = -1:=by
 rcases X3t l a b with h1|⟨k,w,_,h2,h3⟩
 ·exact h1.1
 ·rw [h w (Qe h2)] at h3;cases h3
theorem Xfz{l:List Wr}{a b:Int}(h:fdW l a b<0) : ∀ w ∈ l,isW a b w=false:=by
 rcases X3t l a b with h1|⟨k,w,h1,_⟩
 ·exact h1.2
 ·omega
def insW:List Wr->Wr->List Wr
 | [],x=>[x]
 | y::l,x=>if wlt y x=true then y::insW l x else x::y::l
def jnW(l:List Wr)(a b:Int)(h:Bool) : List Wr:=insW l ⟨min a b,max a b,h⟩
def ctW(l:List Wr)(i:Nat) : List Wr:=l.take i++l.drop (i+1)
def tyW(l:List Wr)(a b:Int) : Int:=if fdW l a b<0 then 0 else if (l.getD (fdW l a b).toNat wZ).h=true then 2 else 1
theorem Xdn(l:List Wr)(a b:Int) : tyW l a b=tyW l b a:=by unfold tyW;rw [Xc7]
theorem Xdh:∀ (l:List Wr) (x:Wr),(insW l x).length=l.length+1
 | [],x=>rfl
 | y::l,x=>by
  unfold insW
  split
  ·rw [Qs,Xdh l x];rfl
  ·rfl
theorem X8z{z:Wr} : ∀ {l:List Wr} {x:Wr},z ∈ insW l x↔z=x∨z ∈ l
 | [],x=>by simp [insW]
 | y::l,x=>by
  unfold insW
  split
  ·rw [Qv,X8z (l:=l),Qv]
   constructor
   ·rintro (h|h|h)
    ·exact .inr (.inl h)
    ·exact .inl h
    ·exact .inr (.inr h)
   ·rintro (h|h|h)
    ·exact .inr (.inl h)
    ·exact .inl h
    ·exact .inr (.inr h)
  ·rw [Qv,Qv]
theorem Xfq:∀ (l:List Wr) (x:Wr) (k:Nat),((l.take k).all fun y=>wlt y x)=true->(∀ y,l[k]? = some y->wlt y x=false)->insW l x=l.take k++[x]++l.drop k
 | [],x,k,_,_=>by simp [insW]
 | y::l,x,0,_,h=>by
  have h:=h y rfl
  unfold insW
  rw [Q3 (by rw [h];decide)]
  rfl
 | y::l,x,k+1,ha,h=>by
  simp only [List.take_succ_cons,List.all_cons,Qd] at ha
  have ih:=Xfq l x k ha.2 (fun z hz=>h z (by simpa using hz))
  unfold insW
  rw [Q4 ha.1,ih]
  simp
theorem Xb2:∀ {l:List Wr} {x:Wr},WSd l->(∀ y ∈ l,¬ (y.a=x.a/\y.b=x.b))->WSd (insW l x)
 | [],x,_,_=>by simp [insW]
 | y::l,x,hl,hx=>by
  have hl':=W8.1 hl
  unfold insW
  split
  ·rename_i hy
   refine W8.2 ⟨fun z hz=>?_,Xb2 hl'.2 fun z hz=>hx z (by simp [hz])⟩
   rcases X8z.1 hz with rfl|hz
   ·exact hy
   ·exact hl'.1 z hz
  ·rename_i hy
   have hxy:wlt x y=true:=by
    rw [Bool.not_eq_true] at hy
    have h1:=X5p.1 hy
    have h2:=hx y (by simp)
    rw [X39]
    omega
   refine W8.2 ⟨fun z hz=>?_,hl⟩
   rcases Qv.1 hz with rfl|hz
   ·exact hxy
   ·exact Xar hxy (hl'.1 z hz)
theorem X6q{l:List Wr}{a b:Int}{h:Bool}(hl:WSd l)(hf:fdW l a b<0) : WSd (jnW l a b h):=
 Xb2 hl fun y hy h9=>by
  have:=Xfz hf y hy
  rw [X31.2 h9] at this
  cases this
theorem X4t{z:Wr}{l:List Wr}{a b:Int}{h:Bool} : z ∈ jnW l a b h↔z=⟨min a b,max a b,h⟩∨z ∈ l:=X8z
theorem X2y(l:List Wr)(i:Nat) : (ctW l i).Sublist l:=by
 unfold ctW
 rw [<- List.eraseIdx_eq_take_drop_succ]
 exact List.eraseIdx_sublist l i
theorem X9i{l:List Wr}(hl:WSd l)(i:Nat) : WSd (ctW l i):=hl.sublist (X2y l i)
theorem Xpl{l:List Wr}{i:Nat}(h:i<l.length) : (ctW l i).length+1=l.length:=by grind [ctW]
theorem Xei{l:List Wr}(hl:WSd l){i j:Nat}{x y:Wr}(hi:l[i]? = some x)(hj:l[j]? = some y)(ha:x.a=y.a)(hb:x.b=y.b) : i=j:=by
 obtain ⟨h1,rfl⟩:=Qg.1 hi;obtain ⟨h2,rfl⟩:=Qg.1 hj;have hp:=W0.1 hl
 rcases Nat.lt_trichotomy i j with h|h|h
 ·have:=hp i j h1 h2 h;rw [X39] at this;omega
 ·exact h
 ·have:=hp j i h2 h1 h;rw [X39] at this;omega
theorem Xcy{l:List Wr}(hl:WSd l){a b:Int}{i:Nat}{w:Wr}(hi:l[i]? = some w)(hw:isW a b w=true) : fdW (ctW l i) a b = -1:=by
 refine Xm9 fun z hz=>?_
 cases hq:isW a b z with
 | false=>rfl
 | true=>
  exfalso
  have e1:=X31.1 hw
  have e2:=X31.1 hq
  unfold ctW at hz
  rcases Qu.1 hz with h|h
  ·obtain ⟨j,hj⟩:=List.mem_iff_getElem?.1 h
   rw [List.getElem?_take] at hj
   split at hj
   ·have:=Xei hl hi hj (by omega) (by omega);omega
   ·cases hj
  ·obtain ⟨j,hj⟩:=List.mem_iff_getElem?.1 h
   rw [List.getElem?_drop] at hj
   have:=Xei hl hi hj (by omega) (by omega);omega
def spI(ns:List Nd)(k:Int) : Bool:=inR k 0 ((ns.length:Int)-1)&&(ns.getD k.toNat nZ).k==3
def adN(ns:List Nd)(k by_:Int) : List Nd:=ns.set k.toNat ⟨(ns.getD k.toNat nZ).k,((ns.getD k.toNat nZ).p+by_) % 8⟩
def dpN(ns:List Nd)(k:Int) : List Nd:=ns.set k.toNat nZ
def dpW(ws:List Wr)(k:Int) : List Wr:=ws.filter fun w=>w.a != k&&w.b != k
theorem X1m(ns:List Nd)(k m:Int) : (adN ns k m).length=ns.length:=List.length_set
theorem X1k(ns:List Nd)(k:Int) : (dpN ns k).length=ns.length:=List.length_set
def otW(k:Int)(w:Wr) : Option Int:=if k=w.a then some w.b else if k=w.b then some w.a else none
def nearW(ws:List Wr)(k:Int) : List Int:=ws.filterMap (otW k)
structure InW (ws:List Wr) : Prop where
 s:WSd ws
 l:∀ w ∈ ws,w.a<w.b
theorem X44{k v:Int}{w:Wr}(h:otW k w=some v) : (k=w.a/\v=w.b)∨(k=w.b/\v=w.a):=by grind [otW]
theorem Xjh{ws:List Wr}(h:InW ws){k x v:Int}{i j:Nat}{w' w:Wr}(hi:ws[i]? = some w')(hj:ws[j]? = some w)(hij:i<j)(h1:otW k w'=some x)(h2:otW k w=some v) : x<v:=by
 obtain ⟨e1,e1'⟩:=Qg.1 hi;obtain ⟨e2,e2'⟩:=Qg.1 hj;have hp:=W0.1 h.s i j e1 e2 hij
 have l1:=h.l w' (Qe hi)
 have l2:=h.l w (Qe hj)
 rw [e1',e2',X39] at hp
 rcases X44 h1 with ⟨a1,a2⟩|⟨a1,a2⟩<;>rcases X44 h2 with ⟨b1,b2⟩|⟨b1,b2⟩<;>omega
theorem X2w{k:Int} : ∀ {ws:List Wr},InW ws->Inc (nearW ws k)
 | [],_=>List.Pairwise.nil
 | w::ws,h=>by
  have h':InW ws:=⟨(W8.1 h.s).2,fun x hx=>h.l x (by simp [hx])⟩
  have ih:=X2w (k:=k) h'
  unfold nearW at *
  rw [List.filterMap_cons]
  cases hw:otW k w with
  | none=>exact ih
  | some v=>
   refine W8.2 ⟨fun x hx=>?_,ih⟩
   obtain ⟨w',hw',he⟩:=List.mem_filterMap.1 hx;obtain ⟨j,hj⟩:=List.mem_iff_getElem?.1 hw';exact Xjh h (i:=0) (j:=j+1) rfl (by simpa using hj) (by omega) hw he
theorem Xbc:∀ {l:List Int} {v:Int},(∀ x ∈ l,x<v)->putI l v=l++[v]
 | [],v,_=>rfl
 | x::l,v,h=>by
  unfold putI
  rw [Q4 (h x (by simp)),Xbc fun y hy=>h y (by simp [hy])]
  rfl
theorem X5s{ws:List Wr}{k:Int}{j:Nat}{w:Wr}(hj:ws[j]? = some w) : nearW (ws.take (j+1)) k=nearW (ws.take j) k++(otW k w).toList:=by
 unfold nearW
 rw [Qt,hj,Option.toList_some,List.filterMap_append]
 cases h:otW k w<;>simp [h]
theorem X7s{ws:List Wr}{k:Int}{j:Nat}{w:Wr}(hj:ws[j]? = some w)(h1:(k==w.a)=false)(h2:(k==w.b)=false) : nearW (ws.take (j+1)) k=nearW (ws.take j) k:=by
 have e1:¬ k=w.a:=by simpa using h1
 have e2:¬ k=w.b:=by simpa using h2
 rw [X5s hj]
 unfold otW
 rw [Q3 e1,Q3 e2]
 simp
theorem Xa1{ws:List Wr}{k:Int}{j:Nat}{w:Wr}(hj:ws[j]? = some w)(h1:(k==w.a)=true) : nearW (ws.take (j+1)) k=nearW (ws.take j) k++[w.b]:=by
 have e1:k=w.a:=by simpa using h1
 rw [X5s hj]
 unfold otW
 rw [Q4 e1]
 rfl
theorem X9n{ws:List Wr}{k:Int}{j:Nat}{w:Wr}(hj:ws[j]? = some w)(h1:(k==w.a)=false)(h2:(k==w.b)=true) : nearW (ws.take (j+1)) k=nearW (ws.take j) k++[w.a]:=by
 have e1:¬ k=w.a:=by simpa using h1
 have e2:k=w.b:=by simpa using h2
 rw [X5s hj]
 unfold otW
 rw [Q3 e1,Q4 e2]
 rfl
theorem X9w{ws:List Wr}(h:InW ws){k v:Int}{j:Nat}(hj:nearW (ws.take (j+1)) k=nearW (ws.take j) k++[v]) : putI (nearW (ws.take j) k) v=nearW (ws.take j) k++[v]:=by
 have hi:=X2w (k:=k) (ws:=ws.take (j+1)) ⟨h.s.sublist (List.take_sublist _ _),fun w hw=>h.l w (Wd hw)⟩
 rw [hj] at hi
 refine Xbc fun x hx=>?_;exact (List.pairwise_append.1 hi).2.2 x hx v (by simp)
theorem X1s(ws:List Wr)(k:Int) : (nearW ws k).length<=ws.length:=List.length_filterMap_le _ _
theorem X54{ws:List Wr}{k v:Int} : v ∈ nearW ws k↔∃ w ∈ ws,otW k w=some v:=List.mem_filterMap
theorem X5c{α:Type}{l:List α}{q:α->Bool}{k:Nat}{u:α}(h:((l.take k).all fun x=>!q x)=true)(hu:l[k]? = some u)(hq:q u=false) : ((l.take (k+1)).all fun x=>!q x)=true:=by
 rw [Qt,hu,Option.toList_some,List.all_append,h]
 simp [hq]
theorem X72{α:Type}{l:List α}{q:α->Bool}{k:Nat}(h:((l.take k).all fun x=>!q x)=true)(hk:l.length<=k) : idxF l q = -1:=by
 rw [Qi hk] at h
 rcases X4n l q with h1|⟨j,x,_,h2,h3⟩
 ·exact h1.1
 ·have:=W1.1 h x (Qe h2)
  rw [h3] at this
  cases this
theorem X7i{l:List Wr}{a b:Int}(h:0<=fdW l a b) : ∃ w,l[(fdW l a b).toNat]? = some w/\isW a b w=true/\(fdW l a b).toNat<l.length:=by
 rcases X3t l a b with ⟨h1,_⟩|⟨k,w,h1,h2,h3⟩
 ·omega
 ·rw [h1]
  exact ⟨w,h2,h3,(Qg.1 h2).1⟩
theorem X7n(l:List Wr)(a b:Int) : fdW l a b<l.length:=by
 rcases X3t l a b with ⟨h1,_⟩|⟨k,w,h1,h2,_⟩
 ·omega
 ·have:=(Qg.1 h2).1;omega
theorem X2z(l:List Wr)(a b:Int)(h:Bool) : (jnW l a b h).length=l.length+1:=Xdh _ _
theorem Xg{α:Type}{l:List α}{k:Nat}{d:α}(h:k<l.length) : l[k]? = some (l.getD k d):=by grind
theorem Xig{α:Type}{l:List α}{k:Nat}{d:α}(h:decide ((k:Int)<(l.length:Int))=true) : l[k]? = some (l.getD k d):=Xg (by simpa using h)
theorem Xjr{l:List Wr}{x:Wr}{k:Nat}(ha:((l.take k).all fun y=>wlt y x)=true)(h:(decide ((k:Int)<(l.length:Int))&&wlt (l.getD k wZ) x)=false) : insW l x=l.take k++[x]++l.drop k:=by
 refine Xfq l x k ha fun y hy=>?_;have h1:=(Qg.1 hy).1
 have e:l.getD k wZ=y:=by rw [Qa,hy];rfl
 rw [e,decide_eq_true (by omega),Qw] at h
 exact h
theorem Xhs{l:List Wr}{x:Wr}{k:Nat}(ha:((l.take k).all fun y=>wlt y x)=true)(h:(decide ((k:Int)<(l.length:Int))&&wlt (l.getD k wZ) x)=true) : ((l.take (k+1)).all fun y=>wlt y x)=true/\k+1<=l.length:=by
 rw [Qd,Qr] at h
 have hk:k<l.length:=by omega
 refine ⟨?_,by omega⟩
 rw [Qt,Xg (d:=wZ) hk,Option.toList_some,List.all_append,ha,List.all_cons,h.2]
 rfl
def lkD(d:Dg)(a b:Int)(h:Bool) : Dg:=
 if fdW d.ws a b<0 then { d with ws:=jnW d.ws a b h }
 else if ((d.ws.getD (fdW d.ws a b).toNat wZ).h&&h)=true then { d with ws:=ctW d.ws (fdW d.ws a b).toNat,r:=wr (d.r-2) }
 else if ((d.ws.getD (fdW d.ws a b).toNat wZ).h != h)=true then { d with ns:=adN d.ns (min a b) 4,ws:=jnW (ctW d.ws (fdW d.ws a b).toNat) a b false,r:=wr (d.r-1) }
 else d
def tgD(d:Dg)(a b:Int) : Dg:=
 if 0<=fdW d.ws a b then { d with ws:=ctW d.ws (fdW d.ws a b).toNat,r:=wr (d.r-1) } else { d with ws:=jnW d.ws a b true,r:=wr (d.r+1) }
def mtD(d:Dg)(a b:Int)(h:Bool) : Dg:=if (spI d.ns a&&spI d.ns b)=true then lkD d a b h else { d with ws:=jnW d.ws a b h }
theorem Xqq{d:Dg}{a b:Int}(h:0<=fdW d.ws a b) : tgD d a b = { d with ws:=ctW d.ws (fdW d.ws a b).toNat,r:=wr (d.r-1) }:=Q4 h
theorem Xqu{d:Dg}{a b:Int}(h:¬ 0<=fdW d.ws a b) : tgD d a b = { d with ws:=jnW d.ws a b true,r:=wr (d.r+1) }:=Q3 h
theorem Xqw{d:Dg}{a b:Int}{h:Bool}(h1:fdW d.ws a b<0) : lkD d a b h = { d with ws:=jnW d.ws a b h }:=Q4 h1
theorem Xr1{d:Dg}{a b:Int}{h:Bool}(h1:¬ fdW d.ws a b<0)(h2:((d.ws.getD (fdW d.ws a b).toNat wZ).h&&h)=true) : lkD d a b h = { d with ws:=ctW d.ws (fdW d.ws a b).toNat,r:=wr (d.r-2) }:=by
 unfold lkD;rw [Q3 h1,Q4 h2]
theorem Xna{d:Dg}{a b:Int}{h:Bool}(h1:¬ fdW d.ws a b<0)(h2:((d.ws.getD (fdW d.ws a b).toNat wZ).h&&h)=false)(h3:((d.ws.getD (fdW d.ws a b).toNat wZ).h != h)=true) : lkD d a b h = { d with ns:=adN d.ns (min a b) 4,ws:=jnW (ctW d.ws (fdW d.ws a b).toNat) a b false,r:=wr (d.r-1) }:=by
 unfold lkD;rw [Q3 h1,Q3 (by rw [h2];decide),Q4 h3]
theorem Xv1{d:Dg}{a b:Int}{h:Bool}(h1:¬ fdW d.ws a b<0)(h2:((d.ws.getD (fdW d.ws a b).toNat wZ).h&&h)=false)(h3:((d.ws.getD (fdW d.ws a b).toNat wZ).h != h)=false) : lkD d a b h=d:=by grind [fdW,lkD,wZ]
theorem Xqp{d:Dg}{a b:Int}{h:Bool}(h1:(spI d.ns a&&spI d.ns b)=true) : mtD d a b h=lkD d a b h:=Q4 h1
theorem Xtx{d:Dg}{a b:Int}{h:Bool}(h1:(spI d.ns a&&spI d.ns b)=false) : mtD d a b h = { d with ws:=jnW d.ws a b h }:=Q3 (by rw [h1];decide)
theorem X2l{α:Type}{l:List α}{q:α->Bool}{j:Nat}{u:α}(hu:l[j]? = some u) : (l.take (j+1)).filter q=(l.take j).filter q++(if q u=true then [u] else []):=by
 rw [Qt,hu,Option.toList_some,List.filter_append]
 cases h:q u<;>simp [h]
theorem X91{α:Type}{l:List α}{q:α->Bool}{k:Nat}{u:α}(h:(l.take k).all q=true)(hu:l[k]? = some u)(hq:q u=true) : (l.take (k+1)).all q=true:=by
 rw [Qt,hu,Option.toList_some,List.all_append,h]
 simp [hq]
theorem Xb0{α:Type}{l:List α}{q:α->Bool}{k:Nat}{u:α}(hu:l[k]? = some u)(hq:q u=false) : l.all q=false:=by grind
theorem X93{α:Type}{l:List α}{q:α->Bool}{k:Nat}(h:(l.take k).all q=true)(hk:l.length<=k) : l.all q=true:=by rwa [Qi hk] at h
def rdQ(d:Dg)(l:List Int)(i:Nat) : Bool:=spI d.ns (l.getD i 0)&&(l.take i).all fun y=>tyW d.ws (l.getD i 0) y != 1
def rdyD(d:Dg)(l:List Int) : Bool:=(List.range l.length).all (rdQ d l)
def othW(ws:List Wr)(k c:Int) : List Int:=(nearW ws k).filter fun v=>v != c
def hadD(d:Dg)(k:Int) : Bool:=(nearW d.ws k).all fun v=>tyW d.ws k v==2
theorem X8a{q:Nat->Bool}{n k:Nat}(hk:k<n)(hq:q k=false) : (List.range n).all q=false:=by grind
theorem X53{q:Nat->Bool}{n:Nat}(h:∀ j,j<n->q j=true) : (List.range n).all q=true:=W1.2 fun j hj=>h j (W2.1 hj)
theorem Xfb{N:Nat}{w w':World}{A:Option Addr}{n c:Nat}(hg:w.grownBy w' (Value.slice A n c).ownBlock)(hb:∀ k,ownB A=some k->N<=k) : Keep (some (.base N)) w w':=
 ⟨hg.os,hg.tape,hg.output,hg.size,fun k hk=>hg.block k (by omega) fun e=>by rw [X3j] at e;have:=hb k e.symm;omega⟩
theorem X7y{N:Nat}{w w':World}{A:Option Addr}{n c:Nat}(hg:w.grownBy w' (Value.slice A n c).ownBlock)(hb:∀ k,ownB A=some k->N<=k)(hN:N<=w.heap.size) : Below N w w':=
 ⟨hg.os,hg.tape,hg.output,hg.size,fun k hk=>hg.block k (by omega) fun e=>by rw [X3j] at e;have:=hb k e.symm;omega⟩
def PhN(ns:List Nd) : Prop:=∀ x ∈ ns,0<=x.p/\x.p<=7
theorem X1l{ns:List Nd}(h:PhN ns)(k:Nat) : 0<=(ns.getD k nZ).p/\(ns.getD k nZ).p<=7:=by grind [PhN,nZ]
theorem Xer{ns:List Nd}(h:PhN ns)(k:Nat){x:Nd}(hx:0<=x.p/\x.p<=7) : PhN (ns.set k x):=by grind [PhN]
theorem X4l{ns:List Nd}(h:PhN ns)(k m:Int) : PhN (adN ns k m):=by grind [PhN,adN]
theorem X3r{ns:List Nd}(h:PhN ns)(k:Int) : PhN (dpN ns k):=Xer h _ ⟨by decide,by decide⟩
theorem Xho{n:Nat}{p q:Int}(h:(0<=p/\p.toNat<n)/\(0<=q/\q.toNat<n)) : 0<=min p q/\(min p q).toNat<n:=by omega
theorem Xuf{ns:List Nd}(h:PhN ns)(k:Nat){m:Int}(h0:0<=m)(h1:m<=900) : 0<=(ns.getD k nZ).p+m/\(ns.getD k nZ).p+m<=1000:=by have:=X1l h k;omega
theorem tm8{x:Int}(h:0<=x) : x.tmod 8=x % 8:=Int.tmod_eq_emod_of_nonneg h
theorem Xue{x:Int}(h:0<=x+8) : (x+8).tmod 8=x % 8:=by rw [Int.tmod_eq_emod_of_nonneg h];omega
theorem X0s{ns:List Nd}{k:Int}(h:spI ns k=true) : 0<=k/\k.toNat<ns.length/\(ns.getD k.toNat nZ).k=3:=by
 unfold spI at h
 rw [Qd] at h
 have h1:=X0t.1 h.1;exact ⟨h1.1,by omega,by simpa using h.2⟩
theorem Xlf{ns:List Nd}(a m k:Int) : spI (adN ns a m) k=spI ns k:=by grind [adN,spI]
theorem Xme(w0:World)(x:Wr)(y:Wr) : Ret Tryz.prog 86 [.agg #[vi x.a,vi x.b,.bool x.h],.agg #[vi y.a,vi y.b,.bool y.h]] w0 (fun v w=>v=.bool (wlt x y)/\Below w0.heap.size w0 w):=by
 refine enter Tryz.func86 rfl 24 rfl rfl ?_;intro a f
 have hW:=bz w0
 refine Zs f fun _ a8=>?_;refine Zf (X0q (zs:=[vi x.a,vi x.b,.bool x.h]) rfl rfl) ?_;rintro _ w1 ⟨b2,rfl,aA,hE,e⟩;have aD:=Q0 hW.size aA;have hW:=btr hW hE;refine Zf (X0q (zs:=[vi y.a,vi y.b,.bool y.h]) rfl rfl) ?_;rintro _ w2 ⟨b3,rfl,aB,hE,a6⟩
 have a7:b2≠b3:=by have:=e.lt;omega
 have aE:=Q0 hW.size aB;have e:=e.bw hE;have hW:=btr hW hE;refine Za rfl<|ZX a8 fun a f _ aC=>?_;refine X06 (fun a w=>Fr a 24 [(4,.bool ((decide (x.a<y.a))||((x.a==y.a)&&(decide (x.b<y.b)))))]/\w2=w) ?_ ?_
 ·refine Zr f<|Ze (Vd rfl X0m 0)<|Ze (X0 rfl Xa (e.at 0))<|Ze (Vd rfl X0m 0)<|Ze (X0 rfl Xa (a6.at 0))<|Ze (X0i rfl rfl)<|Zm rfl ?_
  refine Zg 10 rfl (fun c=>?_) (fun c=>?_)
  ·(iterate 6 refine Zp (gP c) ?_);(iterate 5 refine Zp (gP tv0) ?_);refine Zp (gP c) ?_;refine Ze (X5 rfl c rfl)<|Za rfl ?_;refine Zn fun a f=>?_;exact ⟨f.sub ⟨X1 rfl (by first|rfl|(simp only [c,bs];done)|simp [c]),trivial⟩,rfl⟩
  refine Zv (gW c) (Vd rfl X0m 0) ?_;refine Zv (gW c) (X0 rfl Xa (e.at 0)) ?_;refine Zv (gW c) (Vd rfl X0m 0) ?_;refine Zv (gW c) (X0 rfl Xa (a6.at 0)) ?_;refine Zv (gW c) (X0f rfl rfl) ?_;refine Zv (gW c) (X3 rfl) ?_
  refine Zg 16 rfl (fun d=>?_) (fun d=>?_)
  ·refine Zv (gW d) (Vd rfl X0o 1) ?_;refine Zv (gW d) (X0 rfl Xa (e.at 1)) ?_;refine Zv (gW d) (Vd rfl X0o 1) ?_;refine Zv (gW d) (X0 rfl Xa (a6.at 1)) ?_;refine Zv (gW d) (X0i rfl rfl) ?_;refine Zv (gW c) (X5 rfl d rfl) ?_;refine Ze (X9 rfl c rfl)<|Za rfl ?_;refine Zn fun a f=>?_;exact ⟨f.sub ⟨X1 rfl (by first|rfl|(simp only [c,d,bs];done)|simp [c,d]),trivial⟩,rfl⟩
  (iterate 5 refine Zp (gP d) ?_);refine Zv (gW c) (X9 rfl d rfl) ?_;refine Ze (X9 rfl c rfl)<|Za rfl ?_;refine Zn fun a f=>?_;exact ⟨f.sub ⟨X1 rfl (by first|rfl|(simp only [c,d,bs];done)|simp [c,d]),trivial⟩,rfl⟩
 rintro a _ ⟨f,rfl⟩;refine aC _ _ ?_
 refine Q6 (X6 f (Xs f rfl rfl) ?_)
 exact ⟨rfl,hW⟩
theorem Xao(z:World)(Al:Option Addr)(cl:Nat)(l:List Wr)(A:Rd z z.heap.size 84 encWr Al l)(p:Int)(q:Int)(aQ:l.length<=1000000000) : Ret Tryz.prog 116 [.slice Al l.length cl,vi p,vi q] z (fun v w=>v=vi (fdW l p q)/\Below z.heap.size z w):=by
 refine enter Tryz.func116 rfl 32 rfl rfl ?_;intro a d
 have g:=bz z
 refine Zs d fun _ aI=>?_;refine Za rfl<|ZX aI fun a d _ aJ=>?_;refine Zs d fun _ aK=>?_;refine Zm rfl<|Ze (X07 rfl Xq)<|Zm rfl<|Zt aK fun a d=>?_;refine Q8<|X02 (σ:=Nat) (fun (k:Nat) (a:Act) (w:World)=>Fr a 32 [(1,vi p),(2,vi q),(9,.slice Al l.length cl),(10,vi (l.length:Int)),(11,vi (k:Int))]/\(k<=l.length)/\(((l.take k).all fun x=>!isW p q x)=true)/\Below z.heap.size z w) (fun (k:Nat)=>l.length-k) 0 ?_ ?_
 ·exact ⟨d.sb,(Qf _),(by simp),g⟩
 rintro k a w1 ⟨d,hk,o,g⟩;refine Zs d fun _ aL=>?_;refine Ze (X0i rfl rfl)<|ZX aL fun a d _ aM=>?_
 refine Xf d rfl (fun f=>?_) (fun f=>?_)
 ·have i:=f;have f:=Q2 f
  obtain ⟨u8,aR⟩:=X4 (l:=l) (k:=k) (by omega)
  obtain ⟨t,a6⟩:=X4 (l:=l) (k:=k) (by have:=f;omega)
  refine Q7<|aM _ _<|Q5 fun _ aN=>?_;refine Q8<|Zs d fun _ aC=>?_;refine Zm rfl<|Zi (k:=k) (u:=t) (enc:=encWr) (l:=l) tv0 rfl rfl Xq X09 Xu (A.bx g) a6 rfl ?_;intro aS a7;refine Ze (X00 (l:=[vi t.a,vi t.b,.bool t.h]) rfl X15 a7 rfl)<|Zf (Xw (zs:=[vi 0,vi 0,.bool false]) X2k rfl) ?_;rintro _ w2 ⟨aT,rfl,B,m,e⟩;have a8:=Q0 g.size B;have aD:=(A.bx g).away B;have g:=btr g m;refine Za rfl<|Zo (Vw [vi t.a,vi t.b,.bool t.h] X09 e) ?_;rintro _ w3 ⟨ho,hb⟩;have aP:=e;have g:=Below.oy g ho a8;have e:=hb;refine ZX aC fun a d _ aE=>?_;refine X06 (fun a w=>Fr a 32 [(1,vi p),(2,vi q),(7,vi (k:Int)),(9,.slice Al l.length cl),(10,vi (l.length:Int)),(11,vi (k:Int)),(29,.bool ((t.a==(min p q))&&(t.b==(max p q))))]/\Below w3.heap.size w3 w) ?_ ?_
  ·have n:Below w3.heap.size w3 w3:=Below.refl _ _
   refine Xz none (fun _=>false) mixed ?_;intro w4 m;have e:=e.bw m;have g:=btr g m;have n:=btr n m;refine Yb d<|Yo 0 rfl (fun _=>Vd rfl X0m 0)<|Ye 1 rfl (X0 rfl Xa (e.at 0))<|Yo 2 rfl (fun _=>X3 rfl)<|Yo 3 rfl (fun _=>X3 rfl)<|Y1 4 ?_;refine Yk rfl tv0 (Vc (Xh7 _ p q) X8b) (fun _ _ ⟨_,m⟩=>m) ?_;rintro _ w5 ⟨rfl,m⟩;have e:=e.bw m;have g:=btr g m;have n:=btr n m;refine Yo 5 rfl (fun _=>X0f rfl rfl)<|Yo 6 rfl (fun _=>X3 rfl) ?_
   refine Yl 22 rfl (fun c=>?_) (fun c=>?_)
   ·refine Yu 7 rfl (gW c) (fun _=>Vd rfl X0o 1) ?_;refine Yv 8 rfl (gW c) (X0 rfl Xa (e.at 1)) ?_;refine Yu 9 rfl (gW c) (fun _=>X3 rfl) ?_;refine Yu 10 rfl (gW c) (fun _=>X3 rfl) ?_;refine Y1 11<|Yz rfl ⟨_,_,rfl,rfl,c⟩ (Vc (Xs2 _ p q) Xhj) ?_;refine Yu 12 rfl (gW c) (fun _=>X0f rfl rfl) ?_;refine Yo 13 rfl (fun _=>X5 rfl c rfl) ?_;refine Yd fun a d=>?_
    have aA:Below w3.heap.size w3 w5:=n
    exact ⟨d.sub ⟨rfl,rfl,rfl,rfl,rfl,rfl,X1 rfl (by first|rfl|(simp only [i,c,bs];done)|simp [i,c]),trivial⟩,aA⟩
   refine Yp 7 rfl (gP c) ?_;refine Yp 8 rfl (gP c) ?_;refine Yp 9 rfl (gP c) ?_;refine Yp 10 rfl (gP c) ?_;refine Y1 11<|Yq rfl ⟨_,_,rfl,rfl,c⟩ ?_;refine Yp 12 rfl (gP c) ?_;refine Yo 13 rfl (fun _=>X9 rfl c rfl) ?_;refine Yd fun a d=>?_
   have aA:Below w3.heap.size w3 w5:=n
   exact ⟨d.sub ⟨rfl,rfl,rfl,rfl,rfl,rfl,X1 rfl (by first|rfl|(simp only [i,c,bs];done)|simp [i,c]),trivial⟩,aA⟩
  rintro a w6 ⟨d,m⟩;have g:=btr g m;refine aE _ _ ?_
  refine Xf d rfl (fun j=>?_) (fun j=>?_)
  ·have aB:=j
   have aF:isW p q t=true:=j
   have y:fdW l p q=(k:Int):=X6o o a6 aF
   refine Zs d fun _ aG=>?_;refine Zm rfl<|Za rfl<|Zt aG fun a d=>?_;refine Q6<|Xx<|X8<|X8 ?_;refine Xx<|X8<|X6 d (Xs d rfl rfl) ?_;exact ⟨by rw [y],g⟩
  have aB:=j
  have aO:isW p q t=false:=j
  refine Q7<|Xb<|aN _ _<|Zr d ?_;refine Ze (Xr rfl rfl (by omega) (by omega))<|Zm rfl ?_;refine Zn fun a d=>?_;refine Xe ?_;exact ⟨k+1,⟨d.sb,(by omega),(X5c o a6 aO),g⟩,(by omega)⟩
 have i:=f;have f:=Q1 f
 have y:fdW l p q = -1:=X72 o (by have:=f;omega)
 refine Q9<|Xl<|Xl<|X01 ?_;refine aJ _ _<|Zs d fun _ aH=>?_;refine Za rfl<|Zt aH fun a d=>?_
 refine Q6 (X6 d (Xs d rfl rfl) ?_)
 exact ⟨by rw [y],g⟩
theorem X73(z:World)(Al:Option Addr)(cl:Nat)(l:List Wr)(m:Rd z z.heap.size 84 encWr Al l)(p:Int)(q:Int)(x:Bool)(b2:l.length<=1000000000)(aB:l.length<=cl) : Ret Tryz.prog 117 [.slice Al l.length cl,vi p,vi q,.bool x] z (fun v w=>∃ A c,v=.slice A (jnW l p q x).length c/\Own w z.heap.size 84 3 encWr A c (jnW l p q x)/\Below z.heap.size z w):=by
 refine enter Tryz.func117 rfl 48 rfl rfl ?_;intro a i
 have f:=bz z
 refine Zs i fun _ aR=>?_;refine Za rfl<|Zx aR fun a i _ aS=>?_;refine Zm rfl<|Zm rfl<|Zf (Vc (Xh7 _ p q) X8b) ?_;rintro _ w1 ⟨rfl,j⟩;have f:=btr f j;refine Zm rfl<|Zm rfl<|Zf (Vc (Xs2 _ p q) Xhj) ?_;rintro _ _ ⟨rfl,rfl⟩;refine Zm rfl<|Ze (X11 (ps:=[(0,vi (min p q)),(1,vi (max p q)),(2,.bool x)]) (cs:=[vi (min p q),vi (max p q),.bool x]) rfl (fun _=>by first|rfl|kernel_rfl))<|Zf (Xw (zs:=[vi 0,vi 0,.bool false]) X2k rfl) ?_;rintro _ w2 ⟨b5,rfl,aC,j,e⟩;have aD:=Q0 f.size aC;have aQ:=(m.bx f).away aC;have f:=btr f j;refine Zo (Vw [vi (min p q),vi (max p q),.bool x] X09 e) ?_;rintro _ w3 ⟨ho,hb⟩;have b1:=e;have f:=Below.oy f ho aD;have e:=hb;refine Zx aS fun a i _ aT=>?_;refine Za rfl<|ZX aT fun a i _ aU=>?_;refine Q8<|X02 (σ:=Nat) (fun (k:Nat) (a:Act) (w:World)=>Fr a 48 [(0,.slice Al l.length cl),(9,(pZ9 b5)),(10,vi (k:Int))]/\(k<=l.length)/\(((l.take k).all fun y=>wlt y ⟨min p q,max p q,x⟩)=true)/\Blk w b5 84 [vi (min p q),vi (max p q),.bool x]/\Below z.heap.size z w) (fun (k:Nat)=>l.length-k) 0 ?_ ?_
 ·exact ⟨i.sb,(Qf _),rfl,e,f⟩
 rintro k a w4 ⟨i,hk,J,e,f⟩;refine Q5 fun _ aV=>?_;refine Q5 fun _ aW=>?_;refine X06 (fun a w=>Fr a 48 [(0,.slice Al l.length cl),(9,(pZ9 b5)),(10,vi (k:Int)),(31,.bool (decide ((k:Int)<(l.length:Int))&&wlt (l.getD k wZ) ⟨min p q,max p q,x⟩))]/\Below w4.heap.size w4 w) ?_ ?_
 ·have B:Below w4.heap.size w4 w4:=Below.refl _ _
  refine Xz none (fun _=>false) mixed ?_;intro w5 j;have e:=e.bw j;have f:=btr f j;have B:=btr B j;refine Yb i<|Yo 0 rfl (fun _=>X3 rfl)<|Yo 1 rfl (fun _=>X3 rfl)<|Yo 2 rfl (fun _=>X07 rfl Xq)<|Yo 3 rfl (fun _=>X0i rfl rfl)<|Yo 4 rfl (fun _=>X3 rfl) ?_
  refine Yl 24 rfl (fun d=>?_) (fun d=>?_)
  ·refine Yu 5 rfl (gW d) (fun _=>X3 rfl) ?_;refine Yu 6 rfl (gW d) (fun _=>X3 rfl) ?_;refine Yi (k:=k) (u:=(l.getD k wZ)) (enc:=encWr) (l:=l) 7 rfl ⟨_,_,rfl,rfl,d⟩ rfl rfl Xq X09 Xu (m.bx f) (Xig (by assumption)) rfl ?_;intro b3 a6;refine Yv 8 rfl (gW d) (X00 (l:=[vi ((l.getD k wZ).a),vi ((l.getD k wZ).b),.bool ((l.getD k wZ).h)]) rfl X15 a6 rfl) ?_;refine Yv 9 rfl (gW d) (Vn X15 e) ?_;refine Y1 10<|Yk rfl ⟨_,_,rfl,rfl,d⟩ (Vc (Xme _ (l.getD k wZ) (⟨min p q,max p q,x⟩ : Wr)) Xce) (fun _ _ ⟨_,j⟩=>j) ?_;rintro _ w6 ⟨rfl,j⟩;have f:=btr f j;have B:=btr B j;refine Yo 11 rfl (fun _=>X5 rfl d rfl) ?_;refine Yd fun a i=>?_
   have a7:Below w4.heap.size w4 w6:=B
   exact ⟨i.sub ⟨rfl,rfl,rfl,X1 rfl (by first|rfl|(simp only [d,bs];done)|simp [d]),trivial⟩,a7⟩
  refine Yp 5 rfl (gP d) ?_;refine Yp 6 rfl (gP d) ?_;refine Yp 7 rfl (gP d) ?_;refine Yp 8 rfl (gP d) ?_;refine Yp 9 rfl (gP d) ?_;refine Y1 10<|Yq rfl ⟨_,_,rfl,rfl,d⟩ ?_;refine Yo 11 rfl (fun _=>X9 rfl d rfl) ?_;refine Yd fun a i=>?_
  have a7:Below w4.heap.size w4 w5:=B
  exact ⟨i.sub ⟨rfl,rfl,rfl,X1 rfl (by first|rfl|(simp only [d,bs];done)|simp [d]),trivial⟩,a7⟩
 rintro a w7 ⟨i,j⟩;have e:=e.bw j;have f:=btr f j;refine aW _ _ ?_
 refine Xf i rfl (fun o=>?_) (fun o=>?_)
 ·have a8:=o;obtain ⟨aX,b4⟩:=Xhs J o;refine Q7<|aV _ _<|Q8<|Zr i ?_;refine Zm rfl<|Ze (Xr rfl rfl (by omega) (by omega))<|Za rfl ?_;refine Zn fun a i=>?_;refine Xb<|Xe ?_;exact ⟨k+1,⟨i.sb,(by omega),aX,e,f⟩,(by omega)⟩
 have a8:=o
 have aE:jnW l p q x=_:=Xjr J o
 refine Q9<|Xl<|Xl<|X01 ?_;refine aU _ _<|Zs i fun _ aF=>?_;refine Zf (Xj (k:=0) (vs:=[]) (zs:=[]) rfl Xq X0x rfl rfl) ?_;rintro _ w8 ⟨b15,rfl,L,j,M⟩
 have aG:b5≠b15:=by have:=e.lt;omega
 have D:=Q0 f.size L;have aH:=(m.bx f).away L;have e:=e.bw j;have f:=btr f j;refine Zm rfl<|Zm rfl ?_;have aI:=((m.bx f).top).takeK Xu k;refine Ze (X2d (l:=l) (k:=k) rfl rfl Xq X09 rfl hk aB)<|Zf (X0k (enc:=encWr) (l:=([] : List Wr)) (l2:=((l.take k))) (B0:=z.heap.size) rfl rfl Xq X0x Xu X1e (Own.empty M D) aI (by simp only [maxLen];simp;omega) (by simp;omega) f.size) ?_;rintro _ w9 ⟨b6,b7,rfl,n,I,t⟩
 have g:Own _ z.heap.size 84 3 encWr _ _ ([] : List Wr):=(Own.empty M D)
 have E:=t _ e.lt (Away.ne (by omega))
 clear t;have e:=e.appA I (Away.ne (by omega));have f:=Below.app f g I (Qb _) f.size;clear g I
 simp only [List.nil_append] at n
 refine Za rfl<|Zx aF fun a i _ aJ=>?_;refine Zm rfl<|Ze (Vn X15 e)<|Zf (Xj (k:=1) (vs:=[.agg #[vi (min p q),vi (max p q),.bool x]]) (zs:=[vi (min p q),vi (max p q),.bool x]) rfl Xq X0x rfl rfl) ?_;rintro _ b8 ⟨b20,rfl,G,j,H⟩
 have aK:b5≠b20:=by have:=e.lt;omega
 have aY:=Q0 f.size G;have aL:=(m.bx f).away G;have C:=n.away G;have e:=e.bw j;have n:=n.bw j;have f:=btr f j;refine Zf (X0k (enc:=encWr) (l:=((l.take k))) (l2:=([(⟨min p q,max p q,x⟩ : Wr)])) (B0:=z.heap.size) rfl rfl Xq X0x Xu X1e n (Rd.of_blk H rfl _ H.lt) (by simp only [maxLen];simp;omega) (by simp;omega) f.size) ?_;rintro _ b9 ⟨bA,bB,rfl,N,I,t⟩
 have g:Own _ z.heap.size 84 3 encWr _ _ ((l.take k)):=n
 have aM:=t _ e.lt E;have aA:=t _ H.lt C;clear t;have f:=Below.app f g I (Qb _) f.size;clear g I;refine Za rfl<|Zx aJ fun a i _ aN=>?_;refine Zm rfl<|Zm rfl<|Zm rfl ?_;have aO:=((m.bx f).top).dropK Xu (c:=cl) aB k;refine Ze (X3z (l:=l) (k:=k) rfl rfl Xq X09 rfl hk)<|Zf (X0k (enc:=encWr) (l:=((l.take k)++([(⟨min p q,max p q,x⟩ : Wr)]))) (l2:=((l.drop k))) (B0:=z.heap.size) rfl rfl Xq X0x Xu X1e N aO (by simp only [maxLen];simp;omega) (by simp;omega) f.size) ?_;rintro _ bC ⟨aZ,b0,rfl,aP,I,t⟩
 have g:Own _ z.heap.size 84 3 encWr _ _ ((l.take k)++([(⟨min p q,max p q,x⟩ : Wr)])):=N
 clear t;have f:=Below.app f g I (Qb _) f.size;clear g I;refine Za rfl<|Zt aN fun a i=>?_
 refine Q6 (X6 i (Xs i rfl rfl) ?_)
 rw [aE]
 exact ⟨aZ,b0,rfl,aP,f⟩
theorem Xbo(e:World)(Al:Option Addr)(cl:Nat)(l:List Wr)(f:Rd e e.heap.size 84 encWr Al l)(p:Int)(aL:l.length<=1000000000)(a8:l.length<=cl)(aM:0<=p/\p<(l.length:Int)) : Ret Tryz.prog 181 [.slice Al l.length cl,vi p] e (fun v w=>∃ A c,v=.slice A (ctW l p.toNat).length c/\Own w e.heap.size 84 3 encWr A c (ctW l p.toNat)/\Below e.heap.size e w):=by
 refine enter Tryz.func181 rfl 17 rfl rfl ?_;intro a hf
 have d:=bz e
 refine Zs hf fun _ aF=>?_;refine Za rfl<|Zx aF fun a hf _ aG=>?_;refine Zf (Xj (k:=0) (vs:=[]) (zs:=[]) rfl Xq X0x rfl rfl) ?_;rintro _ w1 ⟨b5,rfl,aA,hE,aB⟩;have g:=Q0 d.size aA;have aE:=(f.bx d).away aA;have d:=btr d hE;refine Zm rfl<|Zm rfl ?_;have aH:=((f.bx d).top).takeK Xu p.toNat;refine Ze (X2d (l:=l) (k:=p.toNat) rfl rfl Xq X09 (by omega) (by omega) a8)<|Zf (X0k (enc:=encWr) (l:=([] : List Wr)) (l2:=((l.take p.toNat))) (B0:=e.heap.size) rfl rfl Xq X0x Xu X1e (Own.empty aB g) aH (by simp only [maxLen];simp;omega) (by simp;omega) d.size) ?_;rintro _ w2 ⟨A8,c8,rfl,a6,hg,a7⟩
 have b:Own _ e.heap.size 84 3 encWr _ _ ([] : List Wr):=(Own.empty aB g)
 clear a7;have d:=Below.app d b hg (Qb _) d.size;clear b hg
 simp only [List.nil_append] at a6
 refine Za rfl<|Zx aG fun a hf _ aI=>?_;refine Zm rfl<|Zm rfl<|Zm rfl<|Ze (Xr rfl rfl (by omega) (by omega)) ?_;have aC:=((f.bx d).top).dropK Xu (c:=cl) a8 (p.toNat+1);refine Ze (X3z (l:=l) (k:=(p.toNat+1)) rfl rfl Xq X09 (by omega) (by omega))<|Zf (X0k (enc:=encWr) (l:=((l.take p.toNat))) (l2:=((l.drop (p.toNat+1)))) (B0:=e.heap.size) rfl rfl Xq X0x Xu X1e a6 aC (by simp only [maxLen];simp;omega) (by simp;omega) d.size) ?_;rintro _ w3 ⟨aJ,aK,rfl,aD,hg,a7⟩
 have b:Own _ e.heap.size 84 3 encWr _ _ ((l.take p.toNat)):=a6
 clear a7;have d:=Below.app d b hg (Qb _) d.size;clear b hg;refine Za rfl<|Zt aI fun a hf=>?_
 refine Q6 (X6 hf (Xs hf rfl rfl) ?_)
 exact ⟨aJ,aK,rfl,aD,d⟩
theorem X7m(x:World)(d:Dg)(md:Nat)(o:md=d.ns.length)(Ad:Option Addr)(cd:Nat)(a6:Nat)(b:Own x a6 76 2 encNd Ad cd d.ns)(aJ:a6<=x.heap.size)(Bd:Option Addr)(dd:Nat)(c:Rd x x.heap.size 84 encWr Bd d.ws)(a7:d.ws.length<=dd)(p:Int)(q:Int)(a8:0<=p/\p.toNat<d.ns.length)(aE:0<=(d.ns.getD p.toNat nZ).p+q/\(d.ns.getD p.toNat nZ).p+q<=1000) : Ret Tryz.prog 251 [.agg #[vi d.n,.slice Ad md cd,.slice Bd d.ws.length dd,vi d.t,vi d.r],vi p,vi q] x (fun v w=>∃ A' c',v=.agg #[vi ({ d with ns:=adN d.ns p q } : Dg).n,.slice Ad md cd,.slice A' ({ d with ns:=adN d.ns p q } : Dg).ws.length c',vi ({ d with ns:=adN d.ns p q } : Dg).t,vi ({ d with ns:=adN d.ns p q } : Dg).r]/\Own w a6 76 2 encNd Ad cd ({ d with ns:=adN d.ns p q } : Dg).ns/\Rd w w.heap.size 84 encWr A' ({ d with ns:=adN d.ns p q } : Dg).ws/\({ d with ns:=adN d.ns p q } : Dg).ws.length<=c'/\md=({ d with ns:=adN d.ns p q } : Dg).ns.length/\x.grownBy w (Value.slice Ad d.ns.length cd).ownBlock):=by
 refine enter Tryz.func251 rfl 22 rfl rfl ?_;intro a y
 have m:x.grownBy x (Value.slice Ad d.ns.length cd).ownBlock:=World.grownBy.refl _ _
 refine Zs y fun _ aF=>?_;refine Zf (X0q (zs:=[vi d.n,.slice Ad md cd,.slice Bd d.ws.length dd,vi d.t,vi d.r]) rfl rfl) ?_;rintro _ w1 ⟨b4,rfl,aG,g,e⟩;have aK:=Q0 m.size aG;have b:=b.bw g;have c:=c.bw g;have m:=gbel m g;refine Zf (Xw (zs:=[vi 0,.slice none 0 0,.slice none 0 0,vi 0,vi 0]) X0e rfl) ?_;rintro _ w2 ⟨b7,rfl,aH,g,f⟩
 have aD:b4≠b7:=by have:=e.lt;omega
 have aA:=Q0 m.size aH;have e:=e.bw g;have b:=b.bw g;have c:=c.bw g;have m:=gbel m g;refine ZX aF fun a y _ aI=>?_;refine Xz none (fun j=>[14].contains j) mixed ?_;intro w3 g;have e:=e.bw g;have f:=f.bw g;have b:=b.bw g;have c:=c.bw g;have m:=gbel m g;refine Yb y<|Yo 0 rfl (fun _=>Vd rfl Xc 1)<|Ye 1 rfl (X0 rfl Xv (e.at 1))<|Yo 2 rfl (fun _=>X3 rfl)<|Yo 3 rfl (fun _=>Vd rfl Xc 1)<|Ye 4 rfl (X0 rfl Xv (e.at 1))<|Yo 5 rfl (fun _=>X3 rfl)<|Yj (k:=p.toNat) (u:=(d.ns.getD p.toNat nZ)) (enc:=encNd) (l:=d.ns) 6 rfl tv0 rfl o rfl Xm X05 Xt b.rd (Xg a8.2) (by omega) ?_;intro aL aB;refine Yo 7 rfl (fun _=>X1y rfl X04)<|Ye 8 rfl (X0 rfl Xa (aB.drop 1))<|Yo 9 rfl (fun _=>X3 rfl)<|Yo 10 rfl (fun _=>Xr rfl rfl (by omega) (by omega))<|Yo 11 rfl (fun _=>Vx (X3q rfl rfl rfl) (tm8 aE.1))<|Yo 12 rfl (fun _=>Xp (k:=p.toNat) rfl rfl Xm X05 b o (by omega) (by omega))<|Yo 13 rfl (fun _=>X0w rfl X04 (m':=p.toNat*2+1) rfl)<|Y1 14 ?_;refine Yh rfl tv0 rfl (X0y (enc:=encNd) (l:=d.ns) (vs:=[vi (((d.ns.getD p.toNat nZ).p+q) % 8)]) (x0:=(d.ns.getD p.toNat nZ)) (u:=(⟨(d.ns.getD p.toNat nZ).k,(((d.ns.getD p.toNat nZ).p+q) % 8)⟩ : Nd)) (k:=p.toNat) (j:=1) (n1:=1) rfl rfl X0a b Xt rfl rfl rfl rfl (by decide) (Xg a8.2) rfl) ?_;rintro _ w4 ⟨z,hg⟩;have i:=b;have e:=e.appT i hg rfl;have f:=f.appT i hg rfl;have c:=c.appT i hg rfl;have m:=gtr m hg
 clear i hg;clear b;have b:=z;clear z;refine Yd fun a y=>?_;refine aI _ _<|Zs y fun _ aC=>?_;refine Ze (Vn X2 e)<|Zo (Vw [vi d.n,.slice Ad md cd,.slice Bd d.ws.length dd,vi d.t,vi d.r] Xd f) ?_;rintro _ w5 ⟨ho,hb⟩;have h:=f;have c:=c.oT ho h rfl;have b:=b.oT ho h rfl;have m:=gonly m ho aA;have f:=hb;refine Zt aC fun a y=>?_
 refine Q6 (X6 y (Xs y rfl (ResV.cellN (l:=[vi d.n,.slice Ad md cd,.slice Bd d.ws.length dd,vi d.t,vi d.r]) rfl X2 (f.at 0) rfl)) ?_)
 exact ⟨Bd,dd,rfl,b,c.top,a7,o.trans (X1m _ _ _).symm,m⟩
theorem X7j(p:World)(d:Dg)(md:Nat)(a7:md=d.ns.length)(Ad:Option Addr)(cd:Nat)(E:Rd p p.heap.size 76 encNd Ad d.ns)(Bd:Option Addr)(dd:Nat)(G:Rd p p.heap.size 84 encWr Bd d.ws)(aL:d.ws.length<=dd)(aM:d.ns.length<=1000000000/\d.ws.length<=1000000000) : Ret Tryz.prog 65 [.agg #[vi d.n,.slice Ad md cd,.slice Bd d.ws.length dd,vi d.t,vi d.r]] p (fun v w=>∃ A c B e,v=.agg #[vi d.n,.slice A d.ns.length c,.slice B d.ws.length e,vi d.t,vi d.r]/\Own w p.heap.size 76 2 encNd A c d.ns/\Own w p.heap.size 84 3 encWr B e d.ws/\Below p.heap.size p w):=by
 subst a7
 refine enter Tryz.func65 rfl 14 rfl rfl ?_;intro a hf
 have j:=bz p
 refine Zs hf fun _ aH=>?_;refine Zf (X0q (zs:=[vi d.n,.slice Ad d.ns.length cd,.slice Bd d.ws.length dd,vi d.t,vi d.r]) rfl rfl) ?_;rintro _ w1 ⟨b4,rfl,aI,q,b⟩;have H:=Q0 j.size aI;have j:=btr j q;refine Zf (Xw (zs:=[vi 0,.slice none 0 0,.slice none 0 0,vi 0,vi 0]) X0e rfl) ?_;rintro _ w2 ⟨b7,rfl,aJ,q,g⟩
 have aF:b4≠b7:=by have:=b.lt;omega
 have a8:=Q0 j.size aJ;have b:=b.bw q;have j:=btr j q;refine Zx aH fun a hf _ aK=>?_;refine Zf (Xj (k:=0) (vs:=[]) (zs:=[]) rfl Xm X1j rfl rfl) ?_;rintro _ w3 ⟨b9,rfl,aA,q,aB⟩;have I:=Q0 j.size aA;have aG:=(E.bx j).away aA;have b:=b.bw q;have g:=g.bw q;have j:=btr j q;refine Ze (Vd rfl Xc 1)<|Ze (X0 rfl Xv (b.at 1))<|Zf (X0k (enc:=encNd) (l:=([] : List Nd)) (l2:=(d.ns)) (B0:=p.heap.size) rfl rfl Xm X1j Xt X2b (Own.empty aB I) (E.bx j) (by simp only [maxLen];simp;omega) (by simp;omega) j.size) ?_;rintro _ w4 ⟨u,x,rfl,f,D,a6⟩
 have i:Own _ p.heap.size 76 2 encNd _ _ ([] : List Nd):=(Own.empty aB I)
 clear a6;have b:=b.appT i D rfl;have g:=g.appT i D rfl;have j:=Below.app j i D (Qb _) j.size;clear i D
 simp only [List.nil_append] at f
 refine Ze (Vd rfl Xc 1)<|Zo (Vu (vs:=[.slice u d.ns.length x]) (l':=[vi d.n,.slice u d.ns.length x,.slice Bd d.ws.length dd,vi d.t,vi d.r]) rfl rfl X3d b) ?_;rintro _ w5 ⟨y,hb⟩;have m:=b;have g:=g.oy y (by omega);have f:=f.oT y m rfl;have j:=Below.oy j y H;have b:=hb;refine Zx aK fun a hf _ aC=>?_;refine Zf (Xj (k:=0) (vs:=[]) (zs:=[]) rfl Xq X0x rfl rfl) ?_;rintro _ w6 ⟨aN,rfl,J,q,L⟩;have z:=Q0 j.size J;have aD:=(G.bx j).away J;have b:=b.bw q;have g:=g.bw q;have f:=f.bw q;have j:=btr j q;refine Ze (Vd rfl Xi 2)<|Ze (X0 rfl X0b (b.at 2))<|Zf (X0k (enc:=encWr) (l:=([] : List Wr)) (l2:=(d.ws)) (B0:=p.heap.size) rfl rfl Xq X0x Xu X1e (Own.empty L z) (G.bx j) (by simp only [maxLen];simp;omega) (by simp;omega) j.size) ?_;rintro _ w7 ⟨h,C,rfl,o,D,a6⟩
 have i:Own _ p.heap.size 84 3 encWr _ _ ([] : List Wr):=(Own.empty L z)
 clear a6;have b:=b.appT i D rfl;have g:=g.appT i D rfl;have f:=f.appT i D rfl;have j:=Below.app j i D (Qb _) j.size;clear i D
 simp only [List.nil_append] at o
 refine Ze (Vd rfl Xi 2)<|Zo (Vu (vs:=[.slice h d.ws.length C]) (l':=[vi d.n,.slice u d.ns.length x,.slice h d.ws.length C,vi d.t,vi d.r]) rfl rfl X19 b) ?_;rintro _ w8 ⟨y,hb⟩;have m:=b;have g:=g.oy y (by omega);have f:=f.oT y m rfl;have o:=o.oT y m rfl;have j:=Below.oy j y H;have b:=hb;refine Zx aC fun a hf _ aE=>?_;refine Ze (Vn X2 b)<|Zo (Vw [vi d.n,.slice u d.ns.length x,.slice h d.ws.length C,vi d.t,vi d.r] Xd g) ?_;rintro _ w9 ⟨y,hb⟩;have m:=g;have f:=f.oT y m rfl;have o:=o.oT y m rfl;have j:=Below.oy j y a8;have g:=hb;refine Zt aE fun a hf=>?_
 refine Q6 (X6 hf (Xs hf rfl (ResV.cellN (l:=[vi d.n,.slice u d.ns.length x,.slice h d.ws.length C,vi d.t,vi d.r]) rfl X2 (g.at 0) rfl)) ?_)
 exact ⟨u,x,h,C,rfl,f,o,j⟩
theorem X4g(e:World)(d:Dg)(md:Nat)(f:md=d.ns.length)(Ad:Option Addr)(cd:Nat)(a6:Rd e e.heap.size 76 encNd Ad d.ns)(Bd:Option Addr)(dd:Nat)(aD:Rd e e.heap.size 84 encWr Bd d.ws)(aE:d.ws.length<=dd)(p:Int)(hN:md<=1000) : Ret Tryz.prog 248 [.agg #[vi d.n,.slice Ad md cd,.slice Bd d.ws.length dd,vi d.t,vi d.r],vi p] e (fun v w=>v=.bool (spI d.ns p)/\Below e.heap.size e w):=by
 refine enter Tryz.func248 rfl 20 rfl rfl ?_;intro a c
 have hW:=bz e
 refine Zs c fun _ aA=>?_;refine Zf (X0q (zs:=[vi d.n,.slice Ad md cd,.slice Bd d.ws.length dd,vi d.t,vi d.r]) rfl rfl) ?_;rintro _ w1 ⟨b4,rfl,aB,hE,a7⟩;have aF:=Q0 hW.size aB;have hW:=btr hW hE;refine Za rfl<|ZX aA fun a c _ aC=>?_;refine X06 (fun a w=>Fr a 20 [(4,.bool ((inR p 0 ((md:Int)-1))&&(((d.ns.getD p.toNat nZ).k)==3)))]/\w1=w) ?_ ?_
 ·refine Zr c<|Zm rfl<|Ze (Vd rfl Xc 1)<|Ze (X0 rfl Xv (a7.at 1))<|Ze (X07 rfl Xm)<|Ze (X1d rfl rfl (by omega) (by omega))<|Zf (Vc (F85 _ p 0 ((md:Int)-1)) X5a) ?_;rintro _ _ ⟨rfl,rfl⟩;refine Zm rfl ?_
  refine Zg 11 rfl (fun b=>?_) (fun b=>?_)
  ·have aG:=X0t.1 b;refine Zv (gW b) (Vd rfl Xc 1) ?_;refine Zv (gW b) (X0 rfl Xv (a7.at 1)) ?_;refine Zv (gW b) (X3 rfl) ?_;refine Zj (k:=p.toNat) (u:=(d.ns.getD p.toNat nZ)) (enc:=encNd) (l:=d.ns) ⟨_,_,rfl,rfl,b⟩ rfl f rfl Xm X05 Xt (a6.bx hW) (Xg (by omega)) (by omega) ?_;intro p8 a8;refine Zv (gW b) (X1y rfl X13) ?_;refine Zv (gW b) (X0 rfl Xa (a8.drop 0)) ?_;refine Zv (gW b) (X0f rfl rfl) ?_;refine Ze (X5 rfl b rfl)<|Za rfl ?_;refine Zn fun a c=>?_;exact ⟨c.sub ⟨X1 rfl (by first|rfl|(simp only [b,bs];done)|simp [b]),trivial⟩,rfl⟩
  (iterate 7 refine Zp (gP b) ?_);refine Ze (X9 rfl b rfl)<|Za rfl ?_;refine Zn fun a c=>?_;exact ⟨c.sub ⟨X1 rfl (by first|rfl|(simp only [b,bs];done)|simp [b]),trivial⟩,rfl⟩
 rintro a _ ⟨c,rfl⟩;refine aC _ _ ?_
 refine Q6 (X6 c (Xs c rfl rfl) ?_)
 exact ⟨by unfold spI;rw [f],hW⟩
theorem X6l(i:World)(d:Dg)(md:Nat)(aL:md=d.ns.length)(Ad:Option Addr)(cd:Nat)(aM:Rd i i.heap.size 76 encNd Ad d.ns)(Bd:Option Addr)(dd:Nat)(j:Rd i i.heap.size 84 encWr Bd d.ws)(aN:d.ws.length<=dd)(p:Int)(q:Int)(aE:d.ws.length<=1000000000) : Ret Tryz.prog 249 [.agg #[vi d.n,.slice Ad md cd,.slice Bd d.ws.length dd,vi d.t,vi d.r],vi p,vi q] i (fun v w=>v=vi (tyW d.ws p q)/\Below i.heap.size i w):=by
 have aO:=X7n d.ws p q;refine enter Tryz.func249 rfl 23 rfl rfl ?_;intro a b
 have f:=bz i
 refine Zs b fun _ aF=>?_;refine Zf (X0q (zs:=[vi d.n,.slice Ad md cd,.slice Bd d.ws.length dd,vi d.t,vi d.r]) rfl rfl) ?_;rintro _ w1 ⟨b4,rfl,aG,hE,g⟩;have aP:=Q0 f.size aG;have f:=btr f hE;refine Za rfl<|Zx aF fun a b _ aH=>?_;refine Ze (Vd rfl Xi 2)<|Ze (X0 rfl X0b (g.at 2))<|Zm rfl<|Zm rfl<|Zf (Vc (Xao _ Bd dd d.ws (j.bx f).top p q aE) X56) ?_;rintro _ w2 ⟨rfl,hE⟩;have g:=g.bw hE;have f:=btr f hE;refine Za rfl<|ZX aH fun a b _ aI=>?_;refine Q8<|Zs b fun _ aJ=>?_;refine Zm rfl<|Ze (X0i rfl rfl)<|Za rfl<|Zt aJ fun a b=>?_
 refine Xf b rfl (fun c=>?_) (fun c=>?_)
 ·have a8:=c;have c:=Q2 c
  have hz:tyW d.ws p q=0:=by unfold tyW;exact Q4 (by simpa using c)
  refine Zs b fun _ aK=>?_;refine Za rfl<|Zt aK fun a b=>?_;refine Q6<|Xx<|X8<|X6 b (Xs b rfl rfl) ?_;exact ⟨by rw [hz],f⟩
 have a8:=c;have c:=Q1 c
 have aQ:0<=fdW d.ws p q:=by have h9:=c;simp at h9;omega
 have aA:tyW d.ws p q=if (d.ws.getD (fdW d.ws p q).toNat wZ).h=true then 2 else 1:=by unfold tyW;exact Q3 (by omega)
 refine Zs b fun _ aB=>?_;refine Ze (Vd rfl Xi 2)<|Ze (X0 rfl X0b (g.at 2))<|Zm rfl<|Zi (k:=(fdW d.ws p q).toNat) (u:=(d.ws.getD (fdW d.ws p q).toNat wZ)) (enc:=encWr) (l:=d.ws) tv0 rfl rfl Xq X09 Xu (j.bx f) (Xg (by omega)) (by omega) ?_;intro aR a6;refine Ze (X1y rfl X5m)<|Ze (X0 rfl X82 (a6.drop 2))<|Za rfl<|Zt aB fun a b=>?_
 refine Xf b rfl (fun e=>?_) (fun e=>?_)
 ·have a7:=e
  have hz:tyW d.ws p q=2:=by rw [aA];exact Q4 e
  refine Zs b fun _ aC=>?_;refine Za rfl<|Zt aC fun a b=>?_;refine Q6<|Xx<|X8<|X6 b (Xs b rfl rfl) ?_;exact ⟨by rw [hz],f⟩
 have a7:=e
 have hz:tyW d.ws p q=1:=by rw [aA];exact Q3 (by rw [e];decide)
 refine Q7<|Xb<|aI _ _<|Zs b fun _ aD=>?_;refine Za rfl<|Zt aD fun a b=>?_
 refine Q6 (X6 b (Xs b rfl rfl) ?_)
 exact ⟨by rw [hz],f⟩
theorem Xm1(D:World)(d:Dg)(md:Nat)(E:md=d.ns.length)(Ad:Option Addr)(cd:Nat)(a6:Nat)(b:Own D a6 76 2 encNd Ad cd d.ns)(aO:a6<=D.heap.size)(Bd:Option Addr)(dd:Nat)(j:Rd D D.heap.size 84 encWr Bd d.ws)(G:d.ws.length<=dd)(p:Int)(q:Int)(aP:d.ws.length<=999999999) : Ret Tryz.prog 259 [.agg #[vi d.n,.slice Ad md cd,.slice Bd d.ws.length dd,vi d.t,vi d.r],vi p,vi q] D (fun v w=>∃ A' c',v=.agg #[vi (tgD d p q).n,.slice Ad md cd,.slice A' (tgD d p q).ws.length c',vi (tgD d p q).t,vi (tgD d p q).r]/\Own w a6 76 2 encNd Ad cd (tgD d p q).ns/\Rd w w.heap.size 84 encWr A' (tgD d p q).ws/\(tgD d p q).ws.length<=c'/\md=(tgD d p q).ns.length/\D.grownBy w (Value.slice Ad d.ns.length cd).ownBlock):=by
 have aA:=X7n d.ws p q;refine enter Tryz.func259 rfl 36 rfl rfl ?_;intro a x
 have m:D.grownBy D (Value.slice Ad d.ns.length cd).ownBlock:=World.grownBy.refl _ _
 refine Zs x fun _ aJ=>?_;refine Zf (X0q (zs:=[vi d.n,.slice Ad md cd,.slice Bd d.ws.length dd,vi d.t,vi d.r]) rfl rfl) ?_;rintro _ w1 ⟨b4,rfl,aK,u,c⟩;have y:=Q0 m.size aK;have b:=b.bw u;have j:=j.bw u;have m:=gbel m u;refine Zf (Xw (zs:=[vi 0,.slice none 0 0,.slice none 0 0,vi 0,vi 0]) X0e rfl) ?_;rintro _ w2 ⟨b7,rfl,aL,u,f⟩
 have aI:b4≠b7:=by have:=c.lt;omega
 have H:=Q0 m.size aL;have c:=c.bw u;have b:=b.bw u;have j:=j.bw u;have m:=gbel m u;refine ZX aJ fun a x _ aM=>?_;refine Zs x fun _ aN=>?_;refine Ze (Vd rfl Xi 2)<|Ze (X0 rfl X0b (c.at 2))<|Zm rfl<|Zm rfl<|Zf (Vc (Xao _ Bd dd d.ws j.top p q (by omega)) X56) ?_;rintro _ w3 ⟨rfl,u⟩;have c:=c.bw u;have f:=f.bw u;have b:=b.bw u;have j:=j.bw u;have m:=gbel m u;refine Za rfl<|Zx aN fun a x _ aB=>?_;refine Zm rfl<|Ze (X4q rfl rfl)<|Zt aB fun a x=>?_
 refine Xf x rfl (fun k=>?_) (fun k=>?_)
 ·have a7:=k;have k:=Q2 k;have a8:=Xqq k;refine Zs x fun _ aC=>?_;refine Ze (Vd rfl Xi 2)<|Ze (X0 rfl X0b (c.at 2))<|Zm rfl<|Zf (Vc (Xbo _ Bd dd d.ws j.top (fdW d.ws p q) (by omega) G ⟨by omega,aA⟩) X66) ?_;rintro _ w4 ⟨z,h,rfl,g,u⟩;have g:=g.lower m.size;have c:=c.bw u;have f:=f.bw u;have b:=b.bw u;have m:=gbel m u;refine Ze (Vd rfl Xi 2)<|Zo (Vu (vs:=[.slice z (ctW d.ws (fdW d.ws p q).toNat).length h]) (l':=[vi d.n,.slice Ad md cd,.slice z (ctW d.ws (fdW d.ws p q).toNat).length h,vi d.t,vi d.r]) rfl rfl X19 c) ?_;rintro _ w5 ⟨o,C⟩;have e:=c;have f:=f.oy o (by omega);have b:=b.oT o e rfl;have g:=g.oT o e rfl;have m:=gonly m o y;have c:=C;refine Zx aC fun a x _ aD=>?_;refine Ze (Vd rfl Xy 4)<|Ze (X0 rfl Xa (c.at 4))<|Ze (X9t rfl rfl)<|Ze (Vd rfl Xy 4)<|Zo (Vu (vs:=[vi (wr (d.r-1))]) (l':=[vi d.n,.slice Ad md cd,.slice z (ctW d.ws (fdW d.ws p q).toNat).length h,vi d.t,vi (wr (d.r-1))]) rfl rfl X0a c) ?_;rintro _ w6 ⟨o,C⟩;have e:=c;have f:=f.oy o (by omega);have b:=b.oT o e rfl;have g:=g.oT o e rfl;have m:=gonly m o y;have c:=C;refine Zx aD fun a x _ aE=>?_;refine Ze (Vn X2 c)<|Zo (Vw [vi d.n,.slice Ad md cd,.slice z (ctW d.ws (fdW d.ws p q).toNat).length h,vi d.t,vi (wr (d.r-1))] Xd f) ?_;rintro _ w7 ⟨o,C⟩;have e:=f;have b:=b.oT o e rfl;have g:=g.oT o e rfl;have m:=gonly m o H;have f:=C;refine Zt aE fun a x=>?_;refine Q6<|X8 ?_
  refine X6 x (Xs x rfl (ResV.cellN (l:=[vi d.n,.slice Ad md cd,.slice z (ctW d.ws (fdW d.ws p q).toNat).length h,vi d.t,vi (wr (d.r-1))]) rfl X2 (f.at 0) rfl)) ?_
  rw [a8]
  exact ⟨z,h,rfl,b,g.rd.top,g.cap,E,m⟩
 have a7:=k;have k:=Q1 k;have a8:=Xqu k;refine Q7<|aM _ _<|Zs x fun _ aF=>?_;refine Ze (Vd rfl Xi 2)<|Ze (X0 rfl X0b (c.at 2))<|Zm rfl<|Zm rfl<|Zf (Vc (X73 _ Bd dd d.ws j.top p q true (by omega) G) X3f) ?_;rintro _ w8 ⟨A,B,rfl,i,u⟩;have i:=i.lower m.size;have c:=c.bw u;have f:=f.bw u;have b:=b.bw u;have m:=gbel m u;refine Ze (Vd rfl Xi 2)<|Zo (Vu (vs:=[.slice A (jnW d.ws p q true).length B]) (l':=[vi d.n,.slice Ad md cd,.slice A (jnW d.ws p q true).length B,vi d.t,vi d.r]) rfl rfl X19 c) ?_;rintro _ w9 ⟨o,C⟩;have e:=c;have f:=f.oy o (by omega);have b:=b.oT o e rfl;have i:=i.oT o e rfl;have m:=gonly m o y;have c:=C;refine Zx aF fun a x _ aG=>?_;refine Ze (Vd rfl Xy 4)<|Ze (X0 rfl Xa (c.at 4))<|Ze (X3h rfl rfl)<|Ze (Vd rfl Xy 4)<|Zo (Vu (vs:=[vi (wr (d.r+1))]) (l':=[vi d.n,.slice Ad md cd,.slice A (jnW d.ws p q true).length B,vi d.t,vi (wr (d.r+1))]) rfl rfl X0a c) ?_;rintro _ aQ ⟨o,C⟩;have e:=c;have f:=f.oy o (by omega);have b:=b.oT o e rfl;have i:=i.oT o e rfl;have m:=gonly m o y;have c:=C;refine Zx aG fun a x _ aH=>?_;refine Ze (Vn X2 c)<|Zo (Vw [vi d.n,.slice Ad md cd,.slice A (jnW d.ws p q true).length B,vi d.t,vi (wr (d.r+1))] Xd f) ?_;rintro _ aR ⟨o,C⟩;have e:=f;have b:=b.oT o e rfl;have i:=i.oT o e rfl;have m:=gonly m o H;have f:=C;refine Zt aH fun a x=>?_
 refine Q6 (X6 x (Xs x rfl (ResV.cellN (l:=[vi d.n,.slice Ad md cd,.slice A (jnW d.ws p q true).length B,vi d.t,vi (wr (d.r+1))]) rfl X2 (f.at 0) rfl)) ?_)
 rw [a8]
 exact ⟨A,B,rfl,b,i.rd.top,i.cap,E,m⟩
theorem Xqt(w0:World)(d:Dg)(md:Nat)(C:md=d.ns.length)(Ad:Option Addr)(cd:Nat)(aF:Nat)(b:Own w0 aF 76 2 encNd Ad cd d.ns)(aO:aF<=w0.heap.size)(Bd:Option Addr)(dd:Nat)(y:Rd w0 w0.heap.size 84 encWr Bd d.ws)(Q:d.ws.length<=dd)(p:Int)(q:Int)(x:Bool)(bF:d.ws.length<=999999999)(b5:(0<=p/\p.toNat<d.ns.length)/\(0<=q/\q.toNat<d.ns.length))(hP:PhN d.ns) : Ret Tryz.prog 288 [.agg #[vi d.n,.slice Ad md cd,.slice Bd d.ws.length dd,vi d.t,vi d.r],vi p,vi q,.bool x] w0 (fun v w=>∃ A' c',v=.agg #[vi (lkD d p q x).n,.slice Ad md cd,.slice A' (lkD d p q x).ws.length c',vi (lkD d p q x).t,vi (lkD d p q x).r]/\Own w aF 76 2 encNd Ad cd (lkD d p q x).ns/\Rd w w.heap.size 84 encWr A' (lkD d p q x).ws/\(lkD d p q x).ws.length<=c'/\md=(lkD d p q x).ns.length/\w0.grownBy w (Value.slice Ad d.ns.length cd).ownBlock):=by
 have aG:=X7n d.ws p q;refine enter Tryz.func288 rfl 68 rfl rfl ?_;intro a m
 have g:w0.grownBy w0 (Value.slice Ad d.ns.length cd).ownBlock:=World.grownBy.refl _ _
 refine Zs m fun _ b6=>?_;refine Zf (X0q (zs:=[vi d.n,.slice Ad md cd,.slice Bd d.ws.length dd,vi d.t,vi d.r]) rfl rfl) ?_;rintro _ w1 ⟨b4,rfl,b8,i,c⟩;have I:=Q0 g.size b8;have b:=b.bw i;have y:=y.bw i;have g:=gbel g i;refine Zf (Xw (zs:=[vi 0,.slice none 0 0,.slice none 0 0,vi 0,vi 0]) X0e rfl) ?_;rintro _ w2 ⟨b7,rfl,b9,i,e⟩
 have b3:b4≠b7:=by have:=c.lt;omega
 have U:=Q0 g.size b9;have c:=c.bw i;have b:=b.bw i;have y:=y.bw i;have g:=gbel g i;refine Zx b6 fun a m _ bA=>?_;refine Ze (Vd rfl Xi 2)<|Ze (X0 rfl X0b (c.at 2))<|Zm rfl<|Zm rfl<|Zf (Vc (Xao _ Bd dd d.ws y.top p q (by omega)) X56) ?_;rintro _ w3 ⟨rfl,i⟩;have c:=c.bw i;have e:=e.bw i;have b:=b.bw i;have y:=y.bw i;have g:=gbel g i;refine Za rfl<|ZX bA fun a m _ bB=>?_;refine Zs m fun _ aP=>?_;refine Zm rfl<|Ze (X0i rfl rfl)<|Zt aP fun a m=>?_
 refine Xf m rfl (fun z=>?_) (fun z=>?_)
 ·have G:=z;have z:=Q2 z;have N:=Xqw (h:=x) z;refine Zs m fun _ aQ=>?_;refine Ze (Vd rfl Xi 2)<|Ze (X0 rfl X0b (c.at 2))<|Zm rfl<|Zm rfl<|Zm rfl<|Zf (Vc (X73 _ Bd dd d.ws y.top p q x (by omega) Q) X3f) ?_;rintro _ w4 ⟨a8,aA,rfl,E,i⟩;have E:=E.lower g.size;have c:=c.bw i;have e:=e.bw i;have b:=b.bw i;have g:=gbel g i;refine Ze (Vd rfl Xi 2)<|Zo (Vu (vs:=[.slice a8 (jnW d.ws p q x).length aA]) (l':=[vi d.n,.slice Ad md cd,.slice a8 (jnW d.ws p q x).length aA,vi d.t,vi d.r]) rfl rfl X19 c) ?_;rintro _ w5 ⟨o,J⟩;have f:=c;have e:=e.oy o (by omega);have b:=b.oT o f rfl;have E:=E.oT o f rfl;have g:=gonly g o I;have c:=J;refine Zx aQ fun a m _ aR=>?_;refine Ze (Vn X2 c)<|Zo (Vw [vi d.n,.slice Ad md cd,.slice a8 (jnW d.ws p q x).length aA,vi d.t,vi d.r] Xd e) ?_;rintro _ w6 ⟨o,J⟩;have f:=e;have b:=b.oT o f rfl;have E:=E.oT o f rfl;have g:=gonly g o U;have e:=J;refine Zt aR fun a m=>?_;refine Q6<|X8<|X6 m (Xs m rfl (ResV.cellN (l:=[vi d.n,.slice Ad md cd,.slice a8 (jnW d.ws p q x).length aA,vi d.t,vi d.r]) rfl X2 (e.at 0) rfl)) ?_
  rw [N]
  exact ⟨a8,aA,rfl,b,E.rd.top,E.cap,by first|exact C|exact C.trans (X1m _ _ _).symm,g⟩
 have G:=z;have z:=Q1 z;have aI:=z
 have bG:0<=fdW d.ws p q:=by have h9:=z;omega
 refine Q7<|bB _ _<|Zs m fun _ aS=>?_;refine Ze (Vd rfl Xi 2)<|Ze (X0 rfl X0b (c.at 2))<|Zm rfl<|Zi (k:=(fdW d.ws p q).toNat) (u:=(d.ws.getD (fdW d.ws p q).toNat wZ)) (enc:=encWr) (l:=d.ws) tv0 rfl rfl Xq X09 Xu y (Xg (by omega)) (by omega) ?_;intro bH aJ;refine Ze (X1y rfl X5m)<|Ze (X0 rfl X82 (aJ.drop 2))<|Za rfl<|ZX aS fun a m _ aB=>?_;refine Q8<|Q5 fun _ aT=>?_;refine X06 (fun a w=>Fr a 68 [(1,vi p),(2,vi q),(3,.bool x),(4,(pZ9 b4)),(8,(pZ9 b7)),(9,vi (fdW d.ws p q)),(10,.bool ((d.ws.getD (fdW d.ws p q).toNat wZ).h)),(32,.bool (((d.ws.getD (fdW d.ws p q).toNat wZ).h)&&x))]/\w3=w) ?_ ?_
 ·refine Zr m<|Zm rfl<|Zm rfl ?_
  refine Zg 34 rfl (fun D=>?_) (fun D=>?_)
  ·refine Zv (gW D) (X3 rfl) ?_;refine Ze (X5 rfl D rfl)<|Za rfl ?_;refine Zn fun a m=>?_;exact ⟨m.sub ⟨rfl,rfl,rfl,rfl,rfl,rfl,rfl,X1 rfl (by first|rfl|(simp only [G,D,bs];done)|simp [G,D]),trivial⟩,rfl⟩
  refine Zp (gP D) ?_;refine Ze (X9 rfl D rfl)<|Za rfl ?_;refine Zn fun a m=>?_;exact ⟨m.sub ⟨rfl,rfl,rfl,rfl,rfl,rfl,rfl,X1 rfl (by first|rfl|(simp only [G,D,bs];done)|simp [G,D]),trivial⟩,rfl⟩
 rintro a _ ⟨m,rfl⟩;refine aT _ _ ?_
 refine Xf m rfl (fun L=>?_) (fun L=>?_)
 ·have aK:=L;have N:=Xr1 aI L;refine Zs m fun _ aU=>?_;refine Ze (Vd rfl Xi 2)<|Ze (X0 rfl X0b (c.at 2))<|Zm rfl<|Zf (Vc (Xbo _ Bd dd d.ws y.top (fdW d.ws p q) (by omega) Q ⟨by omega,aG⟩) X66) ?_;rintro _ w7 ⟨a6,a7,rfl,A,i⟩;have A:=A.lower g.size;have c:=c.bw i;have e:=e.bw i;have b:=b.bw i;have g:=gbel g i;refine Ze (Vd rfl Xi 2)<|Zo (Vu (vs:=[.slice a6 (ctW d.ws (fdW d.ws p q).toNat).length a7]) (l':=[vi d.n,.slice Ad md cd,.slice a6 (ctW d.ws (fdW d.ws p q).toNat).length a7,vi d.t,vi d.r]) rfl rfl X19 c) ?_;rintro _ w8 ⟨o,J⟩;have f:=c;have e:=e.oy o (by omega);have b:=b.oT o f rfl;have A:=A.oT o f rfl;have g:=gonly g o I;have c:=J;refine Zt aU fun a m=>?_;refine Zr m<|Ze (Vd rfl Xy 4)<|Ze (X0 rfl Xa (c.at 4))<|Ze (X9t rfl rfl)<|Ze (Vd rfl Xy 4)<|Zo (Vu (vs:=[vi (wr (d.r-2))]) (l':=[vi d.n,.slice Ad md cd,.slice a6 (ctW d.ws (fdW d.ws p q).toNat).length a7,vi d.t,vi (wr (d.r-2))]) rfl rfl X0a c) ?_;rintro _ w9 ⟨o,J⟩;have f:=c;have e:=e.oy o (by omega);have b:=b.oT o f rfl;have A:=A.oT o f rfl;have g:=gonly g o I;have c:=J;refine Zn fun a m=>?_;refine Xb<|aB _ _<|Zs m fun _ aV=>?_;refine Ze (Vn X2 c)<|Zo (Vw [vi d.n,.slice Ad md cd,.slice a6 (ctW d.ws (fdW d.ws p q).toNat).length a7,vi d.t,vi (wr (d.r-2))] Xd e) ?_;rintro _ bI ⟨o,J⟩;have f:=e;have b:=b.oT o f rfl;have A:=A.oT o f rfl;have g:=gonly g o U;have e:=J;refine Zt aV fun a m=>?_
  refine Q6 (X6 m (Xs m rfl (ResV.cellN (l:=[vi d.n,.slice Ad md cd,.slice a6 (ctW d.ws (fdW d.ws p q).toNat).length a7,vi d.t,vi (wr (d.r-2))]) rfl X2 (e.at 0) rfl)) ?_)
  rw [N]
  exact ⟨a6,a7,rfl,b,A.rd.top,A.cap,by first|exact C|exact C.trans (X1m _ _ _).symm,g⟩
 have aK:=L;have aW:=L;refine Zs m fun _ aX=>?_;refine Zm rfl<|Zm rfl<|Ze (X6j Tryz.underlying4 rfl rfl)<|Za rfl<|Zt aX fun a m=>?_
 refine Xf m rfl (fun M=>?_) (fun M=>?_)
 ·have aL:=M;have N:=Xna aI aW M;refine Zs m fun _ aY=>?_;refine Ze (Vd rfl Xi 2)<|Ze (X0 rfl X0b (c.at 2))<|Zm rfl<|Zf (Vc (Xbo _ Bd dd d.ws y.top (fdW d.ws p q) (by omega) Q ⟨by omega,aG⟩) X66) ?_;rintro _ bJ ⟨bC,bD,rfl,W,i⟩;have W:=W.lower g.size;have c:=c.bw i;have e:=e.bw i;have b:=b.bw i;have g:=gbel g i;refine Zm rfl<|Zm rfl<|Zf (Vc (X73 _ bC bD (ctW d.ws (fdW d.ws p q).toNat) W.rd.top p q false (Q0 (X2y _ _).length_le (by omega)) W.cap) X3f) ?_;rintro _ bK ⟨aM,aN,rfl,B,i⟩;have B:=B.lower g.size;have c:=c.bw i;have e:=e.bw i;have b:=b.bw i;have g:=gbel g i;refine Ze (Vd rfl Xi 2)<|Zo (Vu (vs:=[.slice aM (jnW (ctW d.ws (fdW d.ws p q).toNat) p q false).length aN]) (l':=[vi d.n,.slice Ad md cd,.slice aM (jnW (ctW d.ws (fdW d.ws p q).toNat) p q false).length aN,vi d.t,vi d.r]) rfl rfl X19 c) ?_;rintro _ bL ⟨o,J⟩;have f:=c;have e:=e.oy o (by omega);have b:=b.oT o f rfl;have B:=B.oT o f rfl;have g:=gonly g o I;have c:=J;refine ZX aY fun a m _ aZ=>?_;refine Xz none (fun j=>[4,5].contains j) mixed ?_;intro bM i;have c:=c.bw i;have e:=e.bw i;have b:=b.bw i;have B:=B.bw i;have g:=gbel g i;refine Yb m<|Ye 0 rfl (Vn X2 c)<|Yo 1 rfl (fun _=>X3 rfl)<|Yo 2 rfl (fun _=>X3 rfl)<|Y1 3 ?_;refine Yk rfl tv0 (Vc (Xh7 _ p q) X8b) (fun _ _ ⟨_,i⟩=>i) ?_;rintro _ bN ⟨rfl,i⟩;have c:=c.bw i;have e:=e.bw i;have b:=b.bw i;have B:=B.bw i;have g:=gbel g i;refine Y1 4<|Yt rfl tv0 rfl (Vc (X7m _ (⟨d.n,d.ns,(jnW (ctW d.ws (fdW d.ws p q).toNat) p q false),d.t,d.r⟩ : Dg) md C Ad cd aF b (Q0 aO g.size) aM aN B.rd.top B.cap (min p q) 4 (Xho b5) (Xuf hP _ (by decide) (by decide))) X4c) ?_;rintro _ bO ⟨aC,aD,rfl,aH,H,b0,bE,hg⟩
  have aE:=b;have c:=c.appT aE hg rfl;have e:=e.appT aE hg rfl;have g:=gtr g hg
  clear aE hg;clear b;have b:=aH;clear aH;refine Y1 5<|Yh rfl tv0 rfl (Vw [vi (({ (⟨d.n,d.ns,(jnW (ctW d.ws (fdW d.ws p q).toNat) p q false),d.t,d.r⟩ : Dg) with ns:=adN (⟨d.n,d.ns,(jnW (ctW d.ws (fdW d.ws p q).toNat) p q false),d.t,d.r⟩ : Dg).ns (min p q) 4 } : Dg).n),.slice Ad md cd,.slice aC (({ (⟨d.n,d.ns,(jnW (ctW d.ws (fdW d.ws p q).toNat) p q false),d.t,d.r⟩ : Dg) with ns:=adN (⟨d.n,d.ns,(jnW (ctW d.ws (fdW d.ws p q).toNat) p q false),d.t,d.r⟩ : Dg).ns (min p q) 4 } : Dg).ws).length aD,vi (({ (⟨d.n,d.ns,(jnW (ctW d.ws (fdW d.ws p q).toNat) p q false),d.t,d.r⟩ : Dg) with ns:=adN (⟨d.n,d.ns,(jnW (ctW d.ws (fdW d.ws p q).toNat) p q false),d.t,d.r⟩ : Dg).ns (min p q) 4 } : Dg).t),vi (({ (⟨d.n,d.ns,(jnW (ctW d.ws (fdW d.ws p q).toNat) p q false),d.t,d.r⟩ : Dg) with ns:=adN (⟨d.n,d.ns,(jnW (ctW d.ws (fdW d.ws p q).toNat) p q false),d.t,d.r⟩ : Dg).ns (min p q) 4 } : Dg).r)] Xd c) ?_;rintro _ bP ⟨o,J⟩;have f:=c;have e:=e.oy o (by omega);have b:=b.oT o f rfl;have H:=H.oT o f rfl;have g:=gonly g o I;have c:=J;refine Yd fun a m=>?_;refine aZ _ _<|Zr m<|Ze (Vd rfl Xy 4)<|Ze (X0 rfl Xa (c.at 4))<|Ze (X9t rfl rfl)<|Ze (Vd rfl Xy 4)<|Zo (Vu (vs:=[vi (wr ((({ (⟨d.n,d.ns,(jnW (ctW d.ws (fdW d.ws p q).toNat) p q false),d.t,d.r⟩ : Dg) with ns:=adN (⟨d.n,d.ns,(jnW (ctW d.ws (fdW d.ws p q).toNat) p q false),d.t,d.r⟩ : Dg).ns (min p q) 4 } : Dg).r)-1))]) (l':=[vi (({ (⟨d.n,d.ns,(jnW (ctW d.ws (fdW d.ws p q).toNat) p q false),d.t,d.r⟩ : Dg) with ns:=adN (⟨d.n,d.ns,(jnW (ctW d.ws (fdW d.ws p q).toNat) p q false),d.t,d.r⟩ : Dg).ns (min p q) 4 } : Dg).n),.slice Ad md cd,.slice aC (({ (⟨d.n,d.ns,(jnW (ctW d.ws (fdW d.ws p q).toNat) p q false),d.t,d.r⟩ : Dg) with ns:=adN (⟨d.n,d.ns,(jnW (ctW d.ws (fdW d.ws p q).toNat) p q false),d.t,d.r⟩ : Dg).ns (min p q) 4 } : Dg).ws).length aD,vi (({ (⟨d.n,d.ns,(jnW (ctW d.ws (fdW d.ws p q).toNat) p q false),d.t,d.r⟩ : Dg) with ns:=adN (⟨d.n,d.ns,(jnW (ctW d.ws (fdW d.ws p q).toNat) p q false),d.t,d.r⟩ : Dg).ns (min p q) 4 } : Dg).t),vi (wr ((({ (⟨d.n,d.ns,(jnW (ctW d.ws (fdW d.ws p q).toNat) p q false),d.t,d.r⟩ : Dg) with ns:=adN (⟨d.n,d.ns,(jnW (ctW d.ws (fdW d.ws p q).toNat) p q false),d.t,d.r⟩ : Dg).ns (min p q) 4 } : Dg).r)-1))]) rfl rfl X0a c) ?_;rintro _ bQ ⟨o,J⟩
  have f:=c;have e:=e.oy o (by omega);have b:=b.oT o f rfl;have H:=H.oT o f rfl;have g:=gonly g o I;have c:=J;refine Zn fun a m=>?_;refine Xb<|aB _ _<|Zs m fun _ b1=>?_;refine Ze (Vn X2 c)<|Zo (Vw [vi (({ (⟨d.n,d.ns,(jnW (ctW d.ws (fdW d.ws p q).toNat) p q false),d.t,d.r⟩ : Dg) with ns:=adN (⟨d.n,d.ns,(jnW (ctW d.ws (fdW d.ws p q).toNat) p q false),d.t,d.r⟩ : Dg).ns (min p q) 4 } : Dg).n),.slice Ad md cd,.slice aC (({ (⟨d.n,d.ns,(jnW (ctW d.ws (fdW d.ws p q).toNat) p q false),d.t,d.r⟩ : Dg) with ns:=adN (⟨d.n,d.ns,(jnW (ctW d.ws (fdW d.ws p q).toNat) p q false),d.t,d.r⟩ : Dg).ns (min p q) 4 } : Dg).ws).length aD,vi (({ (⟨d.n,d.ns,(jnW (ctW d.ws (fdW d.ws p q).toNat) p q false),d.t,d.r⟩ : Dg) with ns:=adN (⟨d.n,d.ns,(jnW (ctW d.ws (fdW d.ws p q).toNat) p q false),d.t,d.r⟩ : Dg).ns (min p q) 4 } : Dg).t),vi (wr ((({ (⟨d.n,d.ns,(jnW (ctW d.ws (fdW d.ws p q).toNat) p q false),d.t,d.r⟩ : Dg) with ns:=adN (⟨d.n,d.ns,(jnW (ctW d.ws (fdW d.ws p q).toNat) p q false),d.t,d.r⟩ : Dg).ns (min p q) 4 } : Dg).r)-1))] Xd e) ?_;rintro _ bR ⟨o,J⟩;have f:=e;have b:=b.oT o f rfl;have H:=H.oT o f rfl;have g:=gonly g o U;have e:=J;refine Zt b1 fun a m=>?_
  refine Q6 (X6 m (Xs m rfl (ResV.cellN (l:=[vi (({ (⟨d.n,d.ns,(jnW (ctW d.ws (fdW d.ws p q).toNat) p q false),d.t,d.r⟩ : Dg) with ns:=adN (⟨d.n,d.ns,(jnW (ctW d.ws (fdW d.ws p q).toNat) p q false),d.t,d.r⟩ : Dg).ns (min p q) 4 } : Dg).n),.slice Ad md cd,.slice aC (({ (⟨d.n,d.ns,(jnW (ctW d.ws (fdW d.ws p q).toNat) p q false),d.t,d.r⟩ : Dg) with ns:=adN (⟨d.n,d.ns,(jnW (ctW d.ws (fdW d.ws p q).toNat) p q false),d.t,d.r⟩ : Dg).ns (min p q) 4 } : Dg).ws).length aD,vi (({ (⟨d.n,d.ns,(jnW (ctW d.ws (fdW d.ws p q).toNat) p q false),d.t,d.r⟩ : Dg) with ns:=adN (⟨d.n,d.ns,(jnW (ctW d.ws (fdW d.ws p q).toNat) p q false),d.t,d.r⟩ : Dg).ns (min p q) 4 } : Dg).t),vi (wr ((({ (⟨d.n,d.ns,(jnW (ctW d.ws (fdW d.ws p q).toNat) p q false),d.t,d.r⟩ : Dg) with ns:=adN (⟨d.n,d.ns,(jnW (ctW d.ws (fdW d.ws p q).toNat) p q false),d.t,d.r⟩ : Dg).ns (min p q) 4 } : Dg).r)-1))]) rfl X2 (e.at 0) rfl)) ?_)
  rw [N]
  exact ⟨aC,aD,rfl,b,H.top,b0,by first|exact C|exact C.trans (X1m _ _ _).symm,g⟩
 have aL:=M;have N:=Xv1 aI aW M;refine Q7<|Xb<|aB _ _<|Zs m fun _ b2=>?_;refine Ze (Vn X2 c)<|Zo (Vw [vi d.n,.slice Ad md cd,.slice Bd d.ws.length dd,vi d.t,vi d.r] Xd e) ?_;rintro _ bS ⟨o,J⟩;have f:=e;have b:=b.oT o f rfl;have y:=y.oT o f rfl;have g:=gonly g o U;have e:=J;refine Zt b2 fun a m=>?_
 refine Q6 (X6 m (Xs m rfl (ResV.cellN (l:=[vi d.n,.slice Ad md cd,.slice Bd d.ws.length dd,vi d.t,vi d.r]) rfl X2 (e.at 0) rfl)) ?_)
 rw [N]
 exact ⟨Bd,dd,rfl,b,y.top,Q,by first|exact C|exact C.trans (X1m _ _ _).symm,g⟩
theorem Xl4(H:World)(d:Dg)(md:Nat)(u:md=d.ns.length)(Ad:Option Addr)(cd:Nat)(G:Nat)(b:Own H G 76 2 encNd Ad cd d.ns)(aC:G<=H.heap.size)(Bd:Option Addr)(dd:Nat)(e:Rd H H.heap.size 84 encWr Bd d.ws)(z:d.ws.length<=dd)(p:Int)(q:Int)(x:Bool)(aJ:d.ws.length<=999999999)(aK:(0<=p/\p.toNat<d.ns.length)/\(0<=q/\q.toNat<d.ns.length))(hP:PhN d.ns)(hN:md<=1000) : Ret Tryz.prog 253 [.agg #[vi d.n,.slice Ad md cd,.slice Bd d.ws.length dd,vi d.t,vi d.r],vi p,vi q,.bool x] H (fun v w=>∃ A' c',v=.agg #[vi (mtD d p q x).n,.slice Ad md cd,.slice A' (mtD d p q x).ws.length c',vi (mtD d p q x).t,vi (mtD d p q x).r]/\Own w G 76 2 encNd Ad cd (mtD d p q x).ns/\Rd w w.heap.size 84 encWr A' (mtD d p q x).ws/\(mtD d p q x).ws.length<=c'/\md=(mtD d p q x).ns.length/\H.grownBy w (Value.slice Ad d.ns.length cd).ownBlock):=by
 refine enter Tryz.func253 rfl 30 rfl rfl ?_;intro a o
 have j:H.grownBy H (Value.slice Ad d.ns.length cd).ownBlock:=World.grownBy.refl _ _
 refine Zs o fun _ aL=>?_;refine Zf (X0q (zs:=[vi d.n,.slice Ad md cd,.slice Bd d.ws.length dd,vi d.t,vi d.r]) rfl rfl) ?_;rintro _ w1 ⟨b4,rfl,aM,i,f⟩;have aD:=Q0 j.size aM;have b:=b.bw i;have e:=e.bw i;have j:=gbel j i;refine Zf (Xw (zs:=[vi 0,.slice none 0 0,.slice none 0 0,vi 0,vi 0]) X0e rfl) ?_;rintro _ w2 ⟨b7,rfl,aN,i,g⟩
 have aI:b4≠b7:=by have:=f.lt;omega
 have I:=Q0 j.size aN;have f:=f.bw i;have b:=b.bw i;have e:=e.bw i;have j:=gbel j i;refine ZX aL fun a o _ aO=>?_;refine Q5 fun _ aP=>?_;refine X06 (fun a w=>Fr a 30 [(1,vi p),(2,vi q),(3,.bool x),(4,(pZ9 b4)),(8,(pZ9 b7)),(16,.bool ((spI d.ns p)&&(spI d.ns q)))]/\Below w2.heap.size w2 w) ?_ ?_
 ·have A:Below w2.heap.size w2 w2:=Below.refl _ _
  refine Zr o<|Ze (Vn X2 f)<|Zm rfl<|Zf (Vc (X4g _ d md u Ad cd b.rd.top Bd dd e.top z p hN) X2h) ?_;rintro _ w3 ⟨rfl,i⟩;have f:=f.bw i;have b:=b.bw i;have e:=e.bw i;have j:=gbel j i;have A:=btr A i;refine Zm rfl ?_
  refine Zg 12 rfl (fun c=>?_) (fun c=>?_)
  ·refine Zv (gW c) (Vn X2 f) ?_;refine Zv (gW c) (X3 rfl) ?_;refine Zk (gW c) (Vc (X4g _ d md u Ad cd b.rd.top Bd dd e.top z q hN) X2h) ?_;rintro _ w4 ⟨rfl,i⟩;have j:=gbel j i;have A:=btr A i;refine Ze (X5 rfl c rfl) ?_;refine Zn fun a o=>?_
   have a6:Below w2.heap.size w2 w4:=A
   exact ⟨o.sub ⟨rfl,rfl,rfl,rfl,rfl,X1 rfl (by first|rfl|(simp only [c,bs];done)|simp [c]),trivial⟩,a6⟩
  (iterate 3 refine Zp (gP c) ?_);refine Ze (X9 rfl c rfl) ?_;refine Zn fun a o=>?_
  have a6:Below w2.heap.size w2 w3:=A
  exact ⟨o.sub ⟨rfl,rfl,rfl,rfl,rfl,X1 rfl (by first|rfl|(simp only [c,bs];done)|simp [c]),trivial⟩,a6⟩
 rintro a w5 ⟨o,i⟩;have f:=f.bw i;have g:=g.bw i;have b:=b.bw i;have e:=e.bw i;have j:=gbel j i;refine aP _ _ ?_
 refine Xf o rfl (fun y=>?_) (fun y=>?_)
 ·have a7:=y;have a8:=Xqp (h:=x) y;refine Zs o fun _ aE=>?_;refine Ze (Vn X2 f)<|Zm rfl<|Zm rfl<|Zm rfl<|Zf (Vc (Xqt _ d md u Ad cd G b (Q0 aC j.size) Bd dd e.top z p q x aJ aK hP) Xhy) ?_;rintro _ w6 ⟨aA,aB,rfl,J,C,aF,aQ,hg⟩;have L:=b;have g:=g.appT L hg rfl;have j:=gtr j hg
  clear L hg;clear b;have b:=J;clear J;refine Zo (Vw [vi ((lkD d p q x).n),.slice Ad md cd,.slice aA ((lkD d p q x).ws).length aB,vi ((lkD d p q x).t),vi ((lkD d p q x).r)] Xd g) ?_;rintro _ w7 ⟨B,hb⟩;have k:=g;have b:=b.oT B k rfl;have C:=C.oT B k rfl;have j:=gonly j B I;have g:=hb;refine Zt aE fun a o=>?_;refine Q6<|X8<|X6 o (Xs o rfl (ResV.cellN (l:=[vi ((lkD d p q x).n),.slice Ad md cd,.slice aA ((lkD d p q x).ws).length aB,vi ((lkD d p q x).t),vi ((lkD d p q x).r)]) rfl X2 (g.at 0) rfl)) ?_
  rw [a8]
  exact ⟨aA,aB,rfl,b,C.top,aF,by first|exact u|assumption,j⟩
 have a7:=y;have a8:=Xtx (h:=x) y;refine Q7<|aO _ _<|Zs o fun _ aG=>?_;refine Ze (Vd rfl Xi 2)<|Ze (X0 rfl X0b (f.at 2))<|Zm rfl<|Zm rfl<|Zm rfl<|Zf (Vc (X73 _ Bd dd d.ws e.top p q x (by omega) z) X3f) ?_;rintro _ w8 ⟨D,E,rfl,m,i⟩;have m:=m.lower j.size;have f:=f.bw i;have g:=g.bw i;have b:=b.bw i;have j:=gbel j i;refine Ze (Vd rfl Xi 2)<|Zo (Vu (vs:=[.slice D (jnW d.ws p q x).length E]) (l':=[vi d.n,.slice Ad md cd,.slice D (jnW d.ws p q x).length E,vi d.t,vi d.r]) rfl rfl X19 f) ?_;rintro _ w9 ⟨B,hb⟩;have k:=f;have g:=g.oy B (by omega);have b:=b.oT B k rfl;have m:=m.oT B k rfl;have j:=gonly j B aD;have f:=hb;refine Zx aG fun a o _ aH=>?_;refine Ze (Vn X2 f)<|Zo (Vw [vi d.n,.slice Ad md cd,.slice D (jnW d.ws p q x).length E,vi d.t,vi d.r] Xd g) ?_;rintro _ aR ⟨B,hb⟩;have k:=g;have b:=b.oT B k rfl;have m:=m.oT B k rfl;have j:=gonly j B I;have g:=hb;refine Zt aH fun a o=>?_
 refine Q6 (X6 o (Xs o rfl (ResV.cellN (l:=[vi d.n,.slice Ad md cd,.slice D (jnW d.ws p q x).length E,vi d.t,vi d.r]) rfl X2 (g.at 0) rfl)) ?_)
 rw [a8]
 exact ⟨D,E,rfl,b,m.rd.top,m.cap,by first|exact u|assumption,j⟩
theorem X7r(C:World)(d:Dg)(md:Nat)(aZ:md=d.ns.length)(Ad:Option Addr)(cd:Nat)(b0:Rd C C.heap.size 76 encNd Ad d.ns)(Bd:Option Addr)(dd:Nat)(I:Rd C C.heap.size 84 encWr Bd d.ws)(q:d.ws.length<=dd)(p:Int)(hI:InW d.ws)(b3:d.ws.length<=1000000000) : Ret Tryz.prog 252 [.agg #[vi d.n,.slice Ad md cd,.slice Bd d.ws.length dd,vi d.t,vi d.r],vi p] C (fun v w=>∃ A c,v=.slice A (nearW d.ws p).length c/\Own w C.heap.size 3 1 encI A c (nearW d.ws p)/\Below C.heap.size C w):=by
 refine enter Tryz.func252 rfl 34 rfl rfl ?_;intro a e
 have o:=bz C
 refine Zs e fun _ aP=>?_;refine Zf (X0q (zs:=[vi d.n,.slice Ad md cd,.slice Bd d.ws.length dd,vi d.t,vi d.r]) rfl rfl) ?_;rintro _ w1 ⟨b4,rfl,aQ,J,aR⟩;have b1:=Q0 o.size aQ;have o:=btr o J;refine Za rfl<|Zx aP fun a e _ aS=>?_;refine Za rfl<|ZX aS fun a e _ aT=>?_;refine Zs e fun _ aU=>?_;refine Ze (Vd rfl Xi 2)<|Ze (X0 rfl X0b (aR.at 2))<|Ze (X07 rfl Xq)<|Zm rfl<|Zt aU fun a e=>?_;refine Q8<|X02 (σ:=Nat×(List Int)) (fun (s:Nat×(List Int)) (a:Act) (w:World)=>match s with|(k,m)=>∃ z B,Fr a 34 [(1,vi p),(5,.slice z m.length B),(9,.slice Bd d.ws.length dd),(10,vi (d.ws.length:Int)),(11,vi (k:Int))]/\(k<=d.ws.length)/\(m=nearW (d.ws.take k) p)/\Own w C.heap.size 3 1 encI z B m/\d.ws.length<=dd/\Below C.heap.size C w) (fun (s:Nat×(List Int))=>match s with|(k,m)=>d.ws.length-k) (0,[]) ?_ ?_
 ·exact ⟨none,0,e.sb,(Qf _),(by simp [nearW]),(Own.nil _ _ _ _ _),q,o⟩
 rintro ⟨k,m⟩ a w2 ⟨z,B,e,hk,hm,f,q,o⟩;refine Zs e fun _ aC=>?_;refine Ze (X0i rfl rfl)<|ZX aC fun a e _ aD=>?_
 refine Xf e rfl (fun g=>?_) (fun g=>?_)
 ·have a6:=g;have g:=Q2 g
  obtain ⟨b5,b2⟩:=X4 (l:=d.ws) (k:=k) (by omega)
  obtain ⟨E,H⟩:=X4 (l:=d.ws) (k:=k) (by have:=g;omega)
  refine Q7<|aD _ _<|Q5 fun _ G=>?_;refine Q8<|Zs e fun _ aE=>?_;refine Zi (k:=k) (u:=E) (enc:=encWr) (l:=d.ws) tv0 rfl rfl Xq X09 Xu (I.bx o) H rfl ?_;intro b6 a7;refine Ze (X00 (l:=[vi E.a,vi E.b,.bool E.h]) rfl X15 a7 rfl)<|Zf (Xw (zs:=[vi 0,vi 0,.bool false]) X2k rfl) ?_;rintro _ w3 ⟨b7,rfl,L,J,j⟩;have a8:=Q0 o.size L;have aF:=(I.bx o).away L;have f:=f.bw J;have o:=btr o J;refine Zo (Vw [vi E.a,vi E.b,.bool E.h] X09 j) ?_;rintro _ w4 ⟨ho,hb⟩;have aG:=j;have f:=f.oT ho aG rfl;have o:=Below.oy o ho a8;have j:=hb;refine Zx aE fun a e _ aH=>?_;refine Zm rfl<|Zt aH fun a e=>?_;refine Q8<|Zs e fun _ aI=>?_;refine Ze (Vd rfl X0m 0)<|Ze (X0 rfl Xa (j.at 0))<|Ze (X0f rfl rfl)<|Za rfl<|Zt aI fun a e=>?_
  refine Xf e rfl (fun x=>?_) (fun x=>?_)
  ·have aA:=x;have i:=Xa1 H x;have D:=X9w hI i
   rw [<- hm] at i D
   refine Zr e<|Zm rfl<|Ze (Vd rfl X0o 1)<|Ze (X0 rfl Xa (j.at 1))<|Zf (Vc (Xpk _ z B m f.rd.top E.b C.heap.size f o.size (by have h9:=X1s (d.ws.take k) p;rw [<- hm] at h9;rw [Qn] at h9;omega)) Xb9) ?_;rintro _ w5 ⟨aV,aW,rfl,aJ,J⟩;have o:=btr o J;refine Za rfl ?_;refine Zn fun a e=>?_;refine Xb<|Xb<|G _ _<|Zr e ?_;refine Ze (Xr rfl rfl (by omega) (by omega))<|Zm rfl ?_;refine Zn fun a e=>?_;refine Xe ?_;exact ⟨(k+1,(putI m E.b)),⟨aV,aW,e.sb,(by omega),(by first|rw [D,i]|rw [i]),aJ,q,o⟩,(by first|omega|(dsimp only;omega))⟩
  have aA:=x;have aK:=x;refine Zs e fun _ aL=>?_;refine Ze (Vd rfl X0o 1)<|Ze (X0 rfl Xa (j.at 1))<|Ze (X0f rfl rfl)<|Za rfl<|Zt aL fun a e=>?_
  refine Xf e rfl (fun y=>?_) (fun y=>?_)
  ·have aB:=y;have i:=X9n H aK y;have D:=X9w hI i
   rw [<- hm] at i D
   refine Zr e<|Zm rfl<|Ze (Vd rfl X0m 0)<|Ze (X0 rfl Xa (j.at 0))<|Zf (Vc (Xpk _ z B m f.rd.top E.a C.heap.size f o.size (by have h9:=X1s (d.ws.take k) p;rw [<- hm] at h9;rw [Qn] at h9;omega)) Xb9) ?_;rintro _ w6 ⟨aX,aY,rfl,aM,J⟩;have o:=btr o J;refine Za rfl ?_;refine Zn fun a e=>?_;refine Xb<|Xb<|G _ _<|Zr e ?_;refine Ze (Xr rfl rfl (by omega) (by omega))<|Zm rfl ?_;refine Zn fun a e=>?_;refine Xe ?_;exact ⟨(k+1,(putI m E.a)),⟨aX,aY,e.sb,(by omega),(by first|rw [D,i]|rw [i]),aM,q,o⟩,(by first|omega|(dsimp only;omega))⟩
  have aB:=y;have i:=X7s H aK y
  rw [<- hm] at i
  refine Q7<|Xb<|Xb<|G _ _ ?_;refine Zr e<|Ze (Xr rfl rfl (by omega) (by omega))<|Zm rfl ?_;refine Zn fun a e=>?_;refine Xe ?_;exact ⟨(k+1,m),⟨z,B,e.sb,(by omega),(by first|rw [D,i]|rw [i]),f,q,o⟩,(by first|omega|(dsimp only;omega))⟩
 have a6:=g;have g:=Q1 g
 have aN:m=nearW d.ws p:=by rw [hm,Qi (by have:=g;omega)]
 refine Q9<|Xl<|Xl<|X01 ?_;refine aT _ _<|Zs e fun _ aO=>?_;refine Zm rfl<|Za rfl<|Zt aO fun a e=>?_
 refine Q6 (X6 e (Xs e rfl rfl) ?_)
 rw [<- aN]
 exact ⟨z,B,rfl,f,o⟩
theorem Xmv(y:World)(d:Dg)(md:Nat)(aF:md=d.ns.length)(Ad:Option Addr)(cd:Nat)(aG:Rd y y.heap.size 76 encNd Ad d.ns)(Bd:Option Addr)(dd:Nat)(aH:Rd y y.heap.size 84 encWr Bd d.ws)(o:d.ws.length<=dd)(p:Int)(q:Int)(hI:InW d.ws)(aQ:d.ws.length<=1000000000) : Ret Tryz.prog 254 [.agg #[vi d.n,.slice Ad md cd,.slice Bd d.ws.length dd,vi d.t,vi d.r],vi p,vi q] y (fun v w=>∃ A c,v=.slice A (othW d.ws p q).length c/\Own w y.heap.size 3 1 encI A c (othW d.ws p q)/\Below y.heap.size y w):=by
 have b2:=X1s d.ws p;refine enter Tryz.func254 rfl 27 rfl rfl ?_;intro a g
 have j:=bz y
 refine Zs g fun _ aR=>?_;refine Zf (X0q (zs:=[vi d.n,.slice Ad md cd,.slice Bd d.ws.length dd,vi d.t,vi d.r]) rfl rfl) ?_;rintro _ w1 ⟨b4,rfl,aS,hE,aT⟩;have b0:=Q0 j.size aS;have j:=btr j hE;refine Za rfl<|Zx aR fun a g _ aU=>?_;refine Za rfl<|ZX aU fun a g _ aV=>?_;refine Zs g fun _ aW=>?_;refine Ze (Vn X2 aT)<|Zm rfl<|Zf (Vc (X7r _ d md aF Ad cd (aG.bx j).top Bd dd (aH.bx j).top o p hI aQ) X47) ?_;rintro _ w2 ⟨a6,aI,rfl,b,hE⟩;have b:=b.lower j.size;have j:=btr j hE;refine Ze (X07 rfl Xk)<|Zm rfl<|Zt aW fun a g=>?_;refine Q8<|X02 (σ:=Nat×(List Int)) (fun (s:Nat×(List Int)) (a:Act) (w:World)=>match s with|(k,m)=>∃ z C,Fr a 27 [(2,vi q),(7,.slice z m.length C),(12,.slice a6 (nearW d.ws p).length aI),(13,vi ((nearW d.ws p).length:Int)),(14,vi (k:Int))]/\(k<=(nearW d.ws p).length)/\(m=((nearW d.ws p).take k).filter (fun v=>v != q))/\Own w y.heap.size 3 1 encI z C m/\Own w y.heap.size 3 1 encI a6 aI (nearW d.ws p)/\d.ws.length<=dd/\Apart a6 z/\Below y.heap.size y w) (fun (s:Nat×(List Int))=>match s with|(k,m)=>(nearW d.ws p).length-k) (0,[]) ?_ ?_
 ·exact ⟨none,0,g.sb,(Qf _),rfl,(Own.nil _ _ _ _ _),b,o,(Apart.nr _),j⟩
 rintro ⟨k,m⟩ a w3 ⟨z,C,g,hk,hm,i,b,o,f,j⟩
 have b3:m.length<=d.ws.length:=by rw [hm];exact Q0 (List.length_filter_le _ _) (by rw [Qn];omega)
 refine Zs g fun _ aJ=>?_;refine Ze (X0i rfl rfl)<|ZX aJ fun a g _ aK=>?_
 refine Xf g rfl (fun e=>?_) (fun e=>?_)
 ·have a7:=e;have e:=Q2 e
  obtain ⟨b5,b1⟩:=X4 (l:=(nearW d.ws p)) (k:=k) (by omega)
  obtain ⟨u9,a8⟩:=X4 (l:=nearW d.ws p) (k:=k) (by have:=e;omega)
  refine Q7<|aK _ _<|Q5 fun _ H=>?_;refine Q8<|Zs g fun _ aL=>?_;refine Zi (k:=k) (u:=u9) (enc:=encI) (l:=(nearW d.ws p)) tv0 rfl rfl Xk X0a Xh b.rd a8 rfl ?_;intro b6 aA;refine Ze (X0 rfl Xa aA)<|Za rfl<|Zx aL fun a g _ aM=>?_;refine Zm rfl<|Zm rfl<|Ze (X1c rfl rfl)<|Zt aM fun a g=>?_
  refine Xf g rfl (fun x=>?_) (fun x=>?_)
  ·have aB:=x
   have D:=X2l (q:=fun v=>v != q) a8
   rw [Q4 x,<- hm] at D
   refine Zr g<|Zm rfl<|Zm rfl<|Zf (Xj (k:=1) (vs:=[vi u9]) (zs:=[vi u9]) rfl Xk X1f rfl rfl) ?_;rintro _ w4 ⟨b7,rfl,E,hE,G⟩;have aX:=Q0 j.size E;have h:=i.away E;have aD:=b.away E;have i:=i.bw hE;have b:=b.bw hE;have j:=btr j hE;refine Zf (X0k (enc:=encI) (l:=(m)) (l2:=([u9])) (B0:=y.heap.size) rfl rfl Xk X1f Xh X1z i (Rd.of_blk G rfl _ G.lt) (by simp only [maxLen];simp;omega) (by simp;omega) j.size) ?_;rintro _ w5 ⟨aY,aZ,rfl,aN,hg,aC⟩
   have I:Own _ y.heap.size 3 1 encI _ _ (m):=i
   have aE:=aC _ G.lt h;have B:=Apart.app b f aC;clear aC;have b:=b.appP hg f;have j:=Below.app j I hg (Qb _) j.size;clear I hg;refine Za rfl ?_;refine Zn fun a g=>?_;refine Xb<|H _ _<|Zr g<|Ze (Xr rfl rfl (by omega) (by omega))<|Zm rfl ?_;refine Zn fun a g=>?_;refine Xe ?_;exact ⟨(k+1,m++([u9])),⟨aY,aZ,g.sb,(by omega),(by rw [D]),aN,b,o,B,j⟩,(by first|omega|(dsimp only;omega))⟩
  have aB:=x
  have D:=X2l (q:=fun v=>v != q) a8
  rw [Q3 (by rw [x];decide),List.append_nil,<- hm] at D
  refine Q7<|Xb<|H _ _<|Zr g ?_;refine Ze (Xr rfl rfl (by omega) (by omega))<|Zm rfl ?_;refine Zn fun a g=>?_;refine Xe ?_;exact ⟨(k+1,m),⟨z,C,g.sb,(by omega),(by rw [D]),i,b,o,f,j⟩,(by first|omega|(dsimp only;omega))⟩
 have a7:=e;have e:=Q1 e
 have aO:m=(nearW d.ws p).filter (fun v=>v != q):=by rw [hm,Qi (by have:=e;omega)]
 refine Q9<|Xl<|Xl<|X01 ?_;refine aV _ _<|Zs g fun _ aP=>?_;refine Zm rfl<|Za rfl<|Zt aP fun a g=>?_
 refine Q6 (X6 g (Xs g rfl rfl) ?_)
 rw [show othW d.ws p q=m from aO.symm]
 exact ⟨z,C,rfl,i,j⟩
theorem Xf4(m:World)(d:Dg)(md:Nat)(q:md=d.ns.length)(Ad:Option Addr)(cd:Nat)(x:Rd m m.heap.size 76 encNd Ad d.ns)(Bd:Option Addr)(dd:Nat)(y:Rd m m.heap.size 84 encWr Bd d.ws)(f:d.ws.length<=dd)(p:Int)(hI:InW d.ws)(aB:d.ws.length<=1000000000) : Ret Tryz.prog 257 [.agg #[vi d.n,.slice Ad md cd,.slice Bd d.ws.length dd,vi d.t,vi d.r],vi p] m (fun v w=>v=.bool (hadD d p)/\Below m.heap.size m w):=by
 have aQ:=X1s d.ws p;refine enter Tryz.func257 rfl 21 rfl rfl ?_;intro a c
 have g:=bz m
 refine Zs c fun _ aH=>?_;refine Zf (X0q (zs:=[vi d.n,.slice Ad md cd,.slice Bd d.ws.length dd,vi d.t,vi d.r]) rfl rfl) ?_;rintro _ w1 ⟨b4,rfl,aI,z,e⟩;have aO:=Q0 g.size aI;have g:=btr g z;refine Za rfl<|ZX aH fun a c _ aJ=>?_;refine Zs c fun _ aK=>?_;refine Ze (Vn X2 e)<|Zm rfl<|Zf (Vc (X7r _ d md q Ad cd (x.bx g).top Bd dd (y.bx g).top f p hI aB) X47) ?_;rintro _ w2 ⟨A7,c7,rfl,i,z⟩;have i:=i.lower g.size;have e:=e.bw z;have g:=btr g z;refine Ze (X07 rfl Xk)<|Zm rfl<|Zt aK fun a c=>?_;refine Q8<|X02 (σ:=Nat) (fun (k:Nat) (a:Act) (w:World)=>Fr a 21 [(1,vi p),(2,(pZ9 b4)),(9,.slice A7 (nearW d.ws p).length c7),(10,vi ((nearW d.ws p).length:Int)),(11,vi (k:Int))]/\(k<=(nearW d.ws p).length)/\(((nearW d.ws p).take k).all (fun v=>tyW d.ws p v==2)=true)/\Blk w b4 31 [vi d.n,.slice Ad md cd,.slice Bd d.ws.length dd,vi d.t,vi d.r]/\Own w m.heap.size 3 1 encI A7 c7 (nearW d.ws p)/\d.ws.length<=dd/\Below m.heap.size m w) (fun (k:Nat)=>(nearW d.ws p).length-k) 0 ?_ ?_
 ·exact ⟨c.sb,(Qf _),rfl,e,i,f,g⟩
 rintro k a w3 ⟨c,hk,h,e,i,f,g⟩;refine Zs c fun _ aL=>?_;refine Ze (X0i rfl rfl)<|ZX aL fun a c _ aM=>?_
 refine Xf c rfl (fun b=>?_) (fun b=>?_)
 ·have a6:=b;have b:=Q2 b
  obtain ⟨aR,aP⟩:=X4 (l:=(nearW d.ws p)) (k:=k) (by omega)
  obtain ⟨u9,a7⟩:=X4 (l:=nearW d.ws p) (k:=k) (by have:=b;omega)
  refine Q7<|aM _ _<|Q5 fun _ aC=>?_;refine Q8<|Zs c fun _ aD=>?_;refine Zi (k:=k) (u:=u9) (enc:=encI) (l:=(nearW d.ws p)) tv0 rfl rfl Xk X0a Xh i.rd a7 rfl ?_;intro aS a8;refine Ze (X0 rfl Xa a8)<|Za rfl<|Zx aD fun a c _ aE=>?_;refine Ze (Vn X2 e)<|Zm rfl<|Zm rfl<|Zf (Vc (X6l _ d md q Ad cd (x.bx g).top Bd dd (y.bx g).top f p u9 aB) X3i) ?_;rintro _ w4 ⟨rfl,z⟩;have e:=e.bw z;have i:=i.bw z;have g:=btr g z;refine Ze (X1c rfl rfl)<|Zt aE fun a c=>?_
  refine Xf c rfl (fun j=>?_) (fun j=>?_)
  ·have aA:=j
   have o:hadD d p=false:=Xb0 a7 (by have h9:=j;simpa using h9)
   refine Zs c fun _ aF=>?_;refine Za rfl<|Zt aF fun a c=>?_;refine Q6<|Xx<|X8<|X8 ?_;refine Xx<|X8<|X6 c (Xs c rfl rfl) ?_;exact ⟨by rw [o],g⟩
  have aA:=j
  have aN:(tyW d.ws p u9==2)=true:=by have h9:=j;simpa using h9
  refine Q7<|Xb<|aC _ _<|Zr c ?_;refine Ze (Xr rfl rfl (by omega) (by omega))<|Zm rfl ?_;refine Zn fun a c=>?_;refine Xe ?_;exact ⟨k+1,⟨c.sb,(by omega),(X91 h a7 aN),e,i,f,g⟩,(by omega)⟩
 have a6:=b;have b:=Q1 b
 have o:hadD d p=true:=X93 h (by have:=b;omega)
 refine Q9<|Xl<|Xl<|X01 ?_;refine aJ _ _<|Zs c fun _ aG=>?_;refine Za rfl<|Zt aG fun a c=>?_
 refine Q6 (X6 c (Xs c rfl rfl) ?_)
 exact ⟨by rw [o],g⟩
theorem Xlp(z:World)(d:Dg)(md:Nat)(B:md=d.ns.length)(Ad:Option Addr)(cd:Nat)(C:Rd z z.heap.size 76 encNd Ad d.ns)(Bd:Option Addr)(dd:Nat)(D:Rd z z.heap.size 84 encWr Bd d.ws)(f:d.ws.length<=dd)(Al:Option Addr)(cl:Nat)(l:List Int)(E:Rd z z.heap.size 3 encI Al l)(hN:md<=1000)(aT:d.ws.length<=1000000000)(b7:l.length<=1000000000)(aU:l.length<=cl) : Ret Tryz.prog 258 [.agg #[vi d.n,.slice Ad md cd,.slice Bd d.ws.length dd,vi d.t,vi d.r],.slice Al l.length cl] z (fun v w=>v=.bool (rdyD d l)/\Below z.heap.size z w):=by
 refine enter Tryz.func258 rfl 35 rfl rfl ?_;intro a b
 have m:=bz z
 refine Zs b fun _ aV=>?_;refine Zf (X0q (zs:=[vi d.n,.slice Ad md cd,.slice Bd d.ws.length dd,vi d.t,vi d.r]) rfl rfl) ?_;rintro _ w1 ⟨b5,rfl,aW,G,g⟩;have b3:=Q0 m.size aW;have m:=btr m G;refine Za rfl<|ZX aV fun a b _ aX=>?_;refine Zs b fun _ aY=>?_;refine Zm rfl<|Ze (X07 rfl Xk)<|Zm rfl<|Zt aY fun a b=>?_;refine Q8<|X02 (σ:=Nat) (fun (k:Nat) (a:Act) (w:World)=>Fr a 35 [(1,.slice Al l.length cl),(2,(pZ9 b5)),(9,.slice Al l.length cl),(10,vi (l.length:Int)),(11,vi (k:Int))]/\(k<=l.length)/\(∀ j:Nat,j<k->rdQ d l j=true)/\Blk w b5 31 [vi d.n,.slice Ad md cd,.slice Bd d.ws.length dd,vi d.t,vi d.r]/\d.ws.length<=dd/\Below z.heap.size z w) (fun (k:Nat)=>l.length-k) 0 ?_ ?_
 ·exact ⟨b.sb,(Qf _),(fun j hj=>by omega),g,f,m⟩
 rintro k a w2 ⟨b,hk,H,g,f,m⟩;refine Zs b fun _ aZ=>?_;refine Ze (X0i rfl rfl)<|ZX aZ fun a b _ b0=>?_
 refine Xf b rfl (fun c=>?_) (fun c=>?_)
 ·have a6:=c;have c:=Q2 c
  obtain ⟨b8,b4⟩:=X4 (l:=l) (k:=k) (by omega)
  obtain ⟨u9,A⟩:=X4 (l:=l) (k:=k) (by have:=c;omega)
  have a7:l.getD k 0=u9:=by rw [Qa,A];rfl
  refine Q7<|b0 _ _<|Q5 fun _ aF=>?_;refine Q8<|Zs b fun _ aG=>?_;refine Zm rfl<|Zi (k:=k) (u:=u9) (enc:=encI) (l:=l) tv0 rfl rfl Xk X0a Xh (E.bx m) A rfl ?_;intro b9 a8;refine Ze (X0 rfl Xa a8)<|Za rfl<|Za rfl<|ZX aG fun a b _ aH=>?_;refine Zs b fun _ aI=>?_;refine Ze (Vn X2 g)<|Zm rfl<|Zf (Vc (X4g _ d md B Ad cd (C.bx m).top Bd dd (D.bx m).top f u9 hN) X2h) ?_;rintro _ w3 ⟨rfl,G⟩;have g:=g.bw G;have m:=btr m G;refine Ze (X0z rfl)<|Zt aI fun a b=>?_
  refine Xf b rfl (fun p=>?_) (fun p=>?_)
  ·have aA:=p
   have q:rdyD d l=false:=X8a (k:=k) (by have:=(Qg.1 A).1;omega) (by unfold rdQ;rw [a7];have h:=p;simp only [Bool.not_eq_true'] at h;rw [h];rfl)
   refine Zs b fun _ aJ=>?_;refine Za rfl<|Zt aJ fun a b=>?_;refine Q6<|X8<|Xx<|X8 ?_;refine X8<|Xx<|X8<|X6 b (Xs b rfl rfl) ?_;exact ⟨by rw [q],m⟩
  have aA:=p
  have aK:spI d.ns u9=true:=by have h:=p;simpa using h
  refine Q7<|aH _ _<|Zs b fun _ aL=>?_;refine Zm rfl<|Zm rfl ?_;have o:=((E.bx m).top).takeK Xh k;refine Ze (X2d (l:=l) (k:=k) rfl rfl Xk X0a rfl hk aU)<|Ze (X07 rfl Xk)<|Zm rfl<|Zt aL fun a b=>?_;refine Q8<|X02 (σ:=Nat) (fun (j:Nat) (a:Act) (w:World)=>Fr a 35 [(1,.slice Al l.length cl),(2,(pZ9 b5)),(6,vi u9),(9,.slice Al l.length cl),(10,vi (l.length:Int)),(11,vi (k:Int)),(22,.slice Al (l.take k).length cl),(23,vi ((l.take k).length:Int)),(24,vi (j:Int))]/\(j<=(l.take k).length)/\(((l.take k).take j).all (fun y=>tyW d.ws u9 y != 1)=true)/\Blk w b5 31 [vi d.n,.slice Ad md cd,.slice Bd d.ws.length dd,vi d.t,vi d.r]/\Rd w w3.heap.size 3 encI Al (l.take k)/\d.ws.length<=dd/\Below z.heap.size z w) (fun (j:Nat)=>(l.take k).length-j) 0 ?_ ?_
  ·exact ⟨b.sb,(Qf _),rfl,g,o,f,m⟩
  rintro j a w4 ⟨b,hj,I,g,o,f,m⟩;refine Zs b fun _ aM=>?_;refine Ze (X0i rfl rfl)<|ZX aM fun a b _ aN=>?_
  refine Xf b rfl (fun e=>?_) (fun e=>?_)
  ·have aB:=e;have e:=Q2 e
   obtain ⟨bA,b6⟩:=X4 (l:=(l.take k)) (k:=j) (by omega)
   have bB:(l.take k).length<=1000000000:=by rw [Qn];omega
   obtain ⟨v9,aC⟩:=X4 (l:=l.take k) (k:=j) (by have:=e;omega)
   refine Q7<|aN _ _<|Q5 fun _ aO=>?_;refine Q8<|Zs b fun _ aP=>?_;refine Zi (k:=j) (u:=v9) (enc:=encI) (l:=(l.take k)) tv0 rfl rfl Xk X0a Xh o aC rfl ?_;intro bC aD;refine Ze (X0 rfl Xa aD)<|Za rfl<|Zx aP fun a b _ aQ=>?_;refine Ze (Vn X2 g)<|Zm rfl<|Zm rfl<|Zf (Vc (X6l _ d md B Ad cd (C.bx m).top Bd dd (D.bx m).top f u9 v9 aT) X3i) ?_;rintro _ w5 ⟨rfl,G⟩;have g:=g.bw G;have o:=o.bw G;have m:=btr m G;refine Ze (X0f rfl rfl)<|Zt aQ fun a b=>?_
   refine Xf b rfl (fun x=>?_) (fun x=>?_)
   ·have aE:=x
    have q:rdyD d l=false:=X8a (k:=k) (by have:=(Qg.1 A).1;omega) (by unfold rdQ;rw [a7,aK,Qw];exact Xb0 aC (by have h:=x;simp only [beq_iff_eq] at h;rw [h];rfl))
    refine Zs b fun _ aR=>?_;refine Za rfl<|Zt aR fun a b=>?_;refine Q6<|Xx<|X8<|X8 ?_;refine Xx<|Xx<|X8<|X8 ?_;refine Xx<|X8<|X6 b (Xs b rfl rfl) ?_;exact ⟨by rw [q],m⟩
   have aE:=x
   have b1:(tyW d.ws u9 v9 != 1)=true:=by have h:=x;simpa using h
   refine Q7<|Xb<|aO _ _<|Zr b ?_;refine Ze (Xr rfl rfl (by omega) (by omega))<|Zm rfl ?_;refine Zn fun a b=>?_;refine Xe ?_;exact ⟨j+1,⟨b.sb,(by omega),(X91 I aC b1),g,o,f,m⟩,(by omega)⟩
  have aB:=e;have e:=Q1 e
  have b2:rdQ d l k=true:=by unfold rdQ;rw [a7,aK,X93 I (by have:=e;omega)];rfl
  refine Q9<|Xl<|Xl<|X01 ?_;refine Xb<|aF _ _<|Zr b<|Ze (Xr rfl rfl (by omega) (by omega))<|Zm rfl ?_;refine Zn fun a b=>?_;refine Xe ?_;exact ⟨k+1,⟨b.sb,(by omega),(fun i hi=>by by_cases h:i=k;rw [h];exact b2;exact H i (by omega)),g,f,m⟩,(by omega)⟩
 have a6:=c;have c:=Q1 c
 have q:rdyD d l=true:=X53 fun j hj=>H j (by have:=c;omega)
 refine Q9<|Xl<|Xl<|X01 ?_;refine aX _ _<|Zs b fun _ aS=>?_;refine Za rfl<|Zt aS fun a b=>?_
 refine Q6 (X6 b (Xs b rfl rfl) ?_)
 exact ⟨by rw [q],m⟩
theorem X7p(Q:World)(d:Dg)(md:Nat)(aD:md=d.ns.length)(Ad:Option Addr)(cd:Nat)(aC:Nat)(c:Own Q aC 76 2 encNd Ad cd d.ns)(bE:aC<=Q.heap.size)(Bd:Option Addr)(dd:Nat)(e:Rd Q Q.heap.size 84 encWr Bd d.ws)(N:d.ws.length<=dd)(p:Int)(b3:0<=p/\p.toNat<d.ns.length)(bG:d.ws.length<=1000000000) : Ret Tryz.prog 250 [.agg #[vi d.n,.slice Ad md cd,.slice Bd d.ws.length dd,vi d.t,vi d.r],vi p] Q (fun v w=>∃ A' c',v=.agg #[vi ({ d with ns:=dpN d.ns p,ws:=dpW d.ws p } : Dg).n,.slice Ad md cd,.slice A' ({ d with ns:=dpN d.ns p,ws:=dpW d.ws p } : Dg).ws.length c',vi ({ d with ns:=dpN d.ns p,ws:=dpW d.ws p } : Dg).t,vi ({ d with ns:=dpN d.ns p,ws:=dpW d.ws p } : Dg).r]/\Own w aC 76 2 encNd Ad cd ({ d with ns:=dpN d.ns p,ws:=dpW d.ws p } : Dg).ns/\Rd w w.heap.size 84 encWr A' ({ d with ns:=dpN d.ns p,ws:=dpW d.ws p } : Dg).ws/\({ d with ns:=dpN d.ns p,ws:=dpW d.ws p } : Dg).ws.length<=c'/\md=({ d with ns:=dpN d.ns p,ws:=dpW d.ws p } : Dg).ns.length/\Q.grownBy w (Value.slice Ad d.ns.length cd).ownBlock):=by
 refine enter Tryz.func250 rfl 38 rfl rfl ?_;intro a y
 have C:Q.grownBy Q (Value.slice Ad d.ns.length cd).ownBlock:=World.grownBy.refl _ _
 refine Zs y fun _ b5=>?_;refine Zf (X0q (zs:=[vi d.n,.slice Ad md cd,.slice Bd d.ws.length dd,vi d.t,vi d.r]) rfl rfl) ?_;rintro _ w1 ⟨b4,rfl,b6,D,g⟩;have aN:=Q0 C.size b6;have c:=c.bw D;have e:=e.bw D;have C:=gbel C D;refine Zf (Xw (zs:=[vi 0,.slice none 0 0,.slice none 0 0,vi 0,vi 0]) X0e rfl) ?_;rintro _ w2 ⟨b7,rfl,b8,D,o⟩
 have b2:b4≠b7:=by have:=g.lt;omega
 have aO:=Q0 C.size b8;have g:=g.bw D;have c:=c.bw D;have e:=e.bw D;have C:=gbel C D;refine Zx b5 fun a y _ b9=>?_;refine Ze (Vd rfl Xc 1)<|Ze (X0 rfl Xv (g.at 1))<|Zm rfl<|Ze (X11 (ps:=[]) (cs:=[vi 0,vi 0]) rfl (fun _=>by first|rfl|kernel_rfl))<|Ze (Xp (k:=p.toNat) rfl rfl Xm X05 c aD (by omega) (by omega))<|Zo (X0y (enc:=encNd) (l:=d.ns) (vs:=[vi 0,vi 0]) (x0:=(d.ns.getD p.toNat nZ)) (u:=(⟨0,0⟩ : Nd)) (k:=p.toNat) (j:=0) (n1:=2) rfl rfl X05 c Xt rfl rfl rfl rfl (by decide) (Xg b3.2) rfl) ?_;rintro _ w3 ⟨aE,W⟩;have x:=c;have g:=g.appT x W rfl;have o:=o.appT x W rfl;have e:=e.appT x W rfl;have C:=gtr C W
 clear x W;clear c;have c:=aE;clear aE;refine Zx b9 fun a y _ bA=>?_;refine Za rfl<|ZX bA fun a y _ aP=>?_;refine Zs y fun _ aQ=>?_;refine Ze (Vd rfl Xi 2)<|Ze (X0 rfl X0b (g.at 2))<|Ze (X07 rfl Xq)<|Zm rfl<|Zt aQ fun a y=>?_;refine Q8<|X02 (σ:=Nat×(List Wr)) (fun (s:Nat×(List Wr)) (a:Act) (w:World)=>match s with|(k,m)=>∃ G H,Fr a 38 [(1,vi p),(2,(pZ9 b4)),(4,(pZ9 b7)),(5,.slice G m.length H),(14,.slice Bd d.ws.length dd),(15,vi (d.ws.length:Int)),(16,vi (k:Int))]/\(k<=d.ws.length)/\(m=(d.ws.take k).filter (fun w=>w.a != p&&w.b != p))/\Blk w b4 31 [vi d.n,.slice Ad md cd,.slice Bd d.ws.length dd,vi d.t,vi d.r]/\Blk w b7 31 [vi 0,.slice none 0 0,.slice none 0 0,vi 0,vi 0]/\Own w Q.heap.size 84 3 encWr G H m/\Rd w Q.heap.size 84 encWr Bd d.ws/\Own w aC 76 2 encNd Ad cd (d.ns.set p.toNat (⟨0,0⟩ : Nd))/\d.ws.length<=dd/\Q.grownBy w (Value.slice Ad d.ns.length cd).ownBlock) (fun (s:Nat×(List Wr))=>match s with|(k,m)=>d.ws.length-k) (0,[]) ?_ ?_
 ·exact ⟨none,0,y.sb,(Qf _),rfl,g,o,(Own.nil _ _ _ _ _),e,c,N,C⟩
 rintro ⟨k,m⟩ a w4 ⟨G,H,y,hk,hm,g,o,f,e,c,N,C⟩
 have bH:m.length<=d.ws.length:=by rw [hm];exact Q0 (List.length_filter_le _ _) (by rw [Qn];omega)
 refine Zs y fun _ aR=>?_;refine Ze (X0i rfl rfl)<|ZX aR fun a y _ aS=>?_
 refine Xf y rfl (fun A=>?_) (fun A=>?_)
 ·have E:=A;have A:=Q2 A
  obtain ⟨bI,bF⟩:=X4 (l:=d.ws) (k:=k) (by omega)
  obtain ⟨J,aG⟩:=X4 (l:=d.ws) (k:=k) (by have:=A;omega)
  refine Q7<|aS _ _<|Q5 fun _ aF=>?_;refine Q8<|Zs y fun _ aT=>?_;refine Zi (k:=k) (u:=J) (enc:=encWr) (l:=d.ws) tv0 rfl rfl Xq X09 Xu e aG rfl ?_;intro bJ aH;refine Ze (X00 (l:=[vi J.a,vi J.b,.bool J.h]) rfl X15 aH rfl)<|Zf (Xw (zs:=[vi 0,vi 0,.bool false]) X2k rfl) ?_;rintro _ w5 ⟨aU,rfl,a6,D,z⟩;have a7:=Q0 C.size a6;have I:=f.away a6;have aV:=e.away a6;have g:=g.bw D;have o:=o.bw D;have f:=f.bw D;have e:=e.bw D;have c:=c.bw D;have C:=gbel C D;refine Zo (Vw [vi J.a,vi J.b,.bool J.h] X09 z) ?_;rintro _ w6 ⟨M,hb⟩;have B:=z;have g:=g.oz M B rfl;have o:=o.oz M B rfl;have f:=f.onlyA M I;have e:=e.oy M a7;have c:=c.oT M B rfl;have C:=gonly C M a7;have z:=hb;refine ZX aT fun a y _ aW=>?_;refine X06 (fun a w=>Fr a 38 [(1,vi p),(2,(pZ9 b4)),(4,(pZ9 b7)),(5,.slice G m.length H),(7,(pZ9 aU)),(14,.slice Bd d.ws.length dd),(15,vi (d.ws.length:Int)),(16,vi (k:Int)),(29,.bool ((J.a != p)&&(J.b != p)))]/\w6=w) ?_ ?_
  ·refine Zr y<|Ze (Vd rfl X0m 0)<|Ze (X0 rfl Xa (z.at 0))<|Zm rfl<|Ze (X1c rfl rfl)<|Zm rfl ?_
   refine Zg 24 rfl (fun i=>?_) (fun i=>?_)
   ·refine Zv (gW i) (Vd rfl X0o 1) ?_;refine Zv (gW i) (X0 rfl Xa (z.at 1)) ?_;refine Zv (gW i) (X3 rfl) ?_;refine Zv (gW i) (X1c rfl rfl) ?_;refine Ze (X5 rfl i rfl) ?_;refine Zn fun a y=>?_;exact ⟨y.sub ⟨rfl,rfl,rfl,rfl,rfl,rfl,rfl,rfl,X1 rfl (by first|rfl|(simp only [E,i,bs];done)|simp [E,i]),trivial⟩,rfl⟩
   (iterate 4 refine Zp (gP i) ?_);refine Ze (X9 rfl i rfl) ?_;refine Zn fun a y=>?_;exact ⟨y.sub ⟨rfl,rfl,rfl,rfl,rfl,rfl,rfl,rfl,X1 rfl (by first|rfl|(simp only [E,i,bs];done)|simp [E,i]),trivial⟩,rfl⟩
  rintro a _ ⟨y,rfl⟩;refine aW _ _ ?_
  refine Xf y rfl (fun L=>?_) (fun L=>?_)
  ·have aI:=L
   have a8:=X2l (q:=fun w=>w.a != p&&w.b != p) aG
   rw [Q4 L,<- hm] at a8
   refine Zr y<|Zm rfl<|Ze (Vn X15 z)<|Zf (Xj (k:=1) (vs:=[.agg #[vi J.a,vi J.b,.bool J.h]]) (zs:=[vi J.a,vi J.b,.bool J.h]) rfl Xq X0x rfl rfl) ?_;rintro _ w7 ⟨b26,rfl,aA,D,aB⟩
   have aK:aU≠b26:=by have:=z.lt;omega
   have bB:=Q0 C.size aA;have U:=f.away aA;have aX:=e.away aA;have g:=g.bw D;have o:=o.bw D;have z:=z.bw D;have f:=f.bw D;have e:=e.bw D;have c:=c.bw D;have C:=gbel C D;refine Zf (X0k (enc:=encWr) (l:=(m)) (l2:=([J])) (B0:=Q.heap.size) rfl rfl Xq X0x Xu X1e f (Rd.of_blk aB rfl _ aB.lt) (by simp only [maxLen];simp;omega) (by simp;omega) C.size) ?_;rintro _ w8 ⟨bC,bD,rfl,aY,W,aJ⟩
   have x:Own _ Q.heap.size 84 3 encWr _ _ (m):=f
   have aL:=aJ _ z.lt I;have aM:=aJ _ aB.lt U;clear aJ;have g:=g.appT x W rfl;have o:=o.appT x W rfl;have e:=e.appB x W (Qb _);have c:=c.appT x W rfl;have C:=gapp C x W;clear x W;refine Za rfl ?_;refine Zn fun a y=>?_;refine Xb<|aF _ _<|Zr y<|Ze (Xr rfl rfl (by omega) (by omega))<|Zm rfl ?_;refine Zn fun a y=>?_;refine Xe ?_;exact ⟨(k+1,m++([J])),⟨bC,bD,y.sb,(by omega),(by rw [a8]),g,o,aY,e,c,N,C⟩,(by first|omega|(dsimp only;omega))⟩
  have aI:=L
  have a8:=X2l (q:=fun w=>w.a != p&&w.b != p) aG
  rw [Q3 (by rw [L];decide),List.append_nil,<- hm] at a8
  refine Q7<|Xb<|aF _ _<|Zr y ?_;refine Ze (Xr rfl rfl (by omega) (by omega))<|Zm rfl ?_;refine Zn fun a y=>?_;refine Xe ?_;exact ⟨(k+1,m),⟨G,H,y.sb,(by omega),(by rw [a8]),g,o,f,e,c,N,C⟩,(by first|omega|(dsimp only;omega))⟩
 have E:=A;have A:=Q1 A
 have aZ:m=dpW d.ws p:=by rw [hm,Qi (by have:=A;omega)];rfl
 refine Q9<|Xl<|Xl<|X01 ?_;refine aP _ _<|Zs y fun _ b0=>?_;refine Zm rfl<|Ze (Vd rfl Xi 2)<|Zo (Vu (vs:=[.slice G m.length H]) (l':=[vi d.n,.slice Ad md cd,.slice G m.length H,vi d.t,vi d.r]) rfl rfl X19 g) ?_;rintro _ w9 ⟨M,hb⟩;have B:=g;have o:=o.oy M (by omega);have f:=f.oT M B rfl;have c:=c.oT M B rfl;have C:=gonly C M aN;have g:=hb;refine Zx b0 fun a y _ b1=>?_;refine Ze (Vn X2 g)<|Zo (Vw [vi d.n,.slice Ad md cd,.slice G m.length H,vi d.t,vi d.r] Xd o) ?_;rintro _ bK ⟨M,hb⟩;have B:=o;have f:=f.oT M B rfl;have c:=c.oT M B rfl;have C:=gonly C M aO;have o:=hb;refine Zt b1 fun a y=>?_
 refine Q6 (X6 y (Xs y rfl (ResV.cellN (l:=[vi d.n,.slice Ad md cd,.slice G m.length H,vi d.t,vi d.r]) rfl X2 (o.at 0) rfl)) ?_)
 rw [<- aZ]
 exact ⟨G,H,rfl,c,f.rd.top,f.cap,aD.trans (X1k _ _).symm,C⟩
structure InD (d:Dg) : Prop where
 w:InW d.ws
 e:∀ x ∈ d.ws,0<=x.a/\x.b<d.ns.length
 p:PhN d.ns
 m:d.ns.length<=1000
theorem Xcg:∀ {l:List Wr} (N:Nat),(∀ x ∈ l,0<=x.a/\x.a<x.b/\x.b<N)->WSd l->∀ m:Nat,(∀ x ∈ l,(m:Int)<=x.a*N+x.b)->l.length+m<=N*N+1∨l=[]
 | [],_,_,_,_,_=>.inr rfl
 | x::l,N,h,hs,m,hm=>by
  left
  have hx:=h x (by simp)
  have hmx:=hm x (by simp)
  have hs':=W8.1 hs
  have hb:x.a*N+x.b<N*N:=by
   have:x.a+1<=N:=by omega
   have h2:(x.a+1)*N<=(N:Int)*N:=Int.mul_le_mul_of_nonneg_right this (by omega)
   rw [Int.add_mul,Int.one_mul] at h2
   omega
  have hstep:∀ y ∈ l,((m+1:Nat) : Int)<=y.a*N+y.b:=fun y hy=>by
   have hl:=hs'.1 y hy
   rw [X39] at hl
   have hy0:=h y (by simp [hy])
   have hkey:x.a*N+x.b+1<=y.a*N+y.b:=by
    rcases hl with hl|⟨hl,hl2⟩
    ·have h2:(x.a+1)*N<=y.a*N:=Int.mul_le_mul_of_nonneg_right (by omega) (by omega)
     rw [Int.add_mul,Int.one_mul] at h2
     omega
    ·rw [hl];omega
   omega
  have hN:((N*N:Nat) : Int)=(N:Int)*N:=by simp
  rcases Xcg N (fun y hy=>h y (by simp [hy])) hs'.2 (m+1) hstep with h1|h1
  ·rw [Qs];omega
  ·subst h1
   simp only [Qs,List.length_nil]
   omega
theorem InD.len{d:Dg}(h:InD d) : d.ws.length<=1000001:=by
 have h1:=Xcg d.ns.length (fun x hx=>⟨(h.e x hx).1,h.w.l x hx,(h.e x hx).2⟩) h.w.s 0 (fun x hx=>by
  have e:=h.e x hx
  have l:=h.w.l x hx
  have:0<=x.a*(d.ns.length:Int):=Int.mul_nonneg e.1 (by omega)
  omega)
 rcases h1 with h1|h1
 ·have:=Nat.mul_le_mul h.m h.m
  omega
 ·rw [h1];simp
theorem X2g{d:Dg}(h:InD d){k v:Int}(hv:v ∈ nearW d.ws k) : 0<=v/\v.toNat<d.ns.length:=by
 obtain ⟨w,hw,ho⟩:=X54.1 hv
 have e:=h.e w hw
 have l:=h.w.l w hw
 rcases X44 ho with ⟨_,h2⟩|⟨_,h2⟩<;>omega
theorem X4z{d:Dg}(h:InD d){k v:Int}{j:Nat}(hv:(nearW d.ws k)[j]? = some v) : 0<=v/\v.toNat<d.ns.length:=X2g h (Qe hv)
theorem Xeo(d:Dg)(a b:Int)(h:Bool) : (lkD d a b h).ns.length=d.ns.length/\(lkD d a b h).ws.length<=d.ws.length+1:=by
 have h1:=X2z d.ws a b h;have h2:=(X2y d.ws (fdW d.ws a b).toNat).length_le;have h3:=X2z (ctW d.ws (fdW d.ws a b).toNat) a b false
 unfold lkD
 split
 ·exact ⟨rfl,by dsimp only;omega⟩
 ·split
  ·exact ⟨rfl,by dsimp only;omega⟩
  ·split
   ·exact ⟨X1m _ _ _,by dsimp only;omega⟩
   ·exact ⟨rfl,by omega⟩
theorem X4o(d:Dg)(a b:Int)(h:Bool) : (mtD d a b h).ns.length=d.ns.length/\(mtD d a b h).ws.length<=d.ws.length+1:=by
 unfold mtD
 split
 ·exact Xeo d a b h
 ·exact ⟨rfl,by dsimp only;rw [X2z];omega⟩
theorem X28(d:Dg)(a b:Int) : (tgD d a b).ns=d.ns/\(tgD d a b).ws.length<=d.ws.length+1:=by
 have h2:=(X2y d.ws (fdW d.ws a b).toNat).length_le
 unfold tgD
 split
 ·exact ⟨rfl,by dsimp only;omega⟩
 ·exact ⟨rfl,by dsimp only;rw [X2z];omega⟩
theorem Xtg{d:Dg}(hp:PhN d.ns)(a b:Int)(h:Bool) : PhN (lkD d a b h).ns:=by
 unfold lkD
 split
 ·exact hp
 ·split
  ·exact hp
  ·split
   ·exact X4l hp _ _
   ·exact hp
theorem Xge{d:Dg}(hp:PhN d.ns)(a b:Int)(h:Bool) : PhN (mtD d a b h).ns:=by
 unfold mtD
 split
 ·exact Xtg hp a b h
 ·exact hp
def fuC(d:Dg)(a b:Int) : Bool:=spI d.ns a&&spI d.ns b&&decide (a<b)&&tyW d.ws a b==1
def fu0(d:Dg)(a b:Int) : Dg:={ d with ns:=adN (dpN d.ns b) a (d.ns.getD b.toNat nZ).p,ws:=dpW d.ws b }
def fuT(d:Dg)(a b:Int)(o:Dg)(v:Int) : Dg:=if v=a then o else mtD o a v (tyW d.ws b v==2)
def fuS(d:Dg)(a b:Int)(l:List Int)(o:Dg) : Dg:=l.foldl (fuT d a b) o
def fuD(d:Dg)(a b:Int) : Dg:=fuS d a b (nearW d.ws b) (fu0 d a b)
theorem X8e{d:Dg}{a b:Int}{l:List Int}{o:Dg}{k:Nat}{v:Int}(hv:l[k]? = some v) : fuS d a b (l.take (k+1)) o=fuT d a b (fuS d a b (l.take k) o) v:=by
 unfold fuS
 rw [Qt,hv,Option.toList_some,List.foldl_append]
 rfl
theorem Xla{d o:Dg}{a b v:Int}(h:(v != a)=true) : fuT d a b o v=mtD o a v (tyW d.ws b v==2):=by
 unfold fuT;rw [Q3 (by simpa using h)]
theorem Xlb{d o:Dg}{a b v:Int}(h:(v != a)=false) : fuT d a b o v=o:=by grind [fuT]
def idC(d:Dg)(a:Int) : Bool:=spI d.ns a&&(d.ns.getD a.toNat nZ).p==0&&(nearW d.ws a).length==2
def id0(d:Dg)(a:Int) : Dg:={ d with ns:=dpN d.ns a,ws:=dpW d.ws a }
def idD(d:Dg)(a:Int) : Dg:=mtD (id0 d a) ((nearW d.ws a).getD 0 0) ((nearW d.ws a).getD 1 0) (tyW d.ws a ((nearW d.ws a).getD 0 0) != tyW d.ws a ((nearW d.ws a).getD 1 0))
def loC(d:Dg)(a:Int) : Bool:=spI d.ns a&&(d.ns.getD a.toNat nZ).p==0&&(nearW d.ws a).length==0
def loD(d:Dg)(a:Int) : Dg:={ d with ns:=dpN d.ns a,ws:=dpW d.ws a,r:=wr (d.r+2) }
def tgL(o:Dg)(x:Int)(l:List Int) : Dg:=l.foldl (fun o y=>tgD o x y) o
theorem Xfn{o:Dg}{x:Int}{l:List Int}{k:Nat}{v:Int}(hv:l[k]? = some v) : tgL o x (l.take (k+1))=tgD (tgL o x (l.take k)) x v:=by
 unfold tgL
 rw [Qt,hv,Option.toList_some,List.foldl_append]
 rfl
def lcC(d:Dg)(a:Int) : Bool:=spI d.ns a&&(d.ns.getD a.toNat nZ).p % 4==2&&hadD d a&&rdyD d (nearW d.ws a)
def lcS(p:Int)(l:List Int)(o:Dg) : Nat->Dg
 | 0=>o
 | i+1=>tgL { lcS p l o i with ns:=adN (lcS p l o i).ns (l.getD i 0) (8-p) } (l.getD i 0) (l.take i)
def lcD(d:Dg)(a:Int) : Dg:=
 let o:=lcS (d.ns.getD a.toNat nZ).p (nearW d.ws a) (id0 d a) (nearW d.ws a).length
 { o with t:=wr (o.t+(if (d.ns.getD a.toNat nZ).p=2 then 1 else 7)),r:=wr (o.r+(1-((nearW d.ws a).length:Int))) }
theorem Xsl{d:Dg}{a b:Int}(h:(!(spI d.ns a)||!(spI d.ns b)||decide (b<=a)||tyW d.ws a b != 1)=true) : fuC d a b=false:=by grind [fuC,spI,tyW]
theorem Xpp{d:Dg}{a b:Int}(h:(!(spI d.ns a)||!(spI d.ns b)||decide (b<=a)||tyW d.ws a b != 1)=false) : fuC d a b=true:=by grind [fuC,spI,tyW]
theorem X7v{d:Dg}{a b:Int}(h:fuC d a b=true) : (0<=a/\a.toNat<d.ns.length)/\(0<=b/\b.toNat<d.ns.length):=by
 unfold fuC at h
 simp only [Qd] at h
 have h1:=X0s h.1.1.1;have h2:=X0s h.1.1.2;exact ⟨⟨h1.1,h1.2.1⟩,⟨h2.1,h2.2.1⟩⟩
theorem Xrp{d:Dg}(h:InD d)(a b:Int) : 0<=((dpN d.ns b).getD a.toNat nZ).p+(d.ns.getD b.toNat nZ).p/\((dpN d.ns b).getD a.toNat nZ).p+(d.ns.getD b.toNat nZ).p<=1000:=by
 have h1:=X1l (X3r h.p b) a.toNat;have h2:=X1l h.p b.toNat
 omega
theorem X1v(ws:List Wr)(k:Int) : (dpW ws k).length<=ws.length:=List.length_filter_le _ _
theorem X5f(d:Dg)(a b:Int) : (fu0 d a b).ns.length=d.ns.length/\(fu0 d a b).ws.length<=d.ws.length+0:=⟨(X1m _ _ _).trans (X1k _ _),X1v _ _⟩
theorem Xh4{d:Dg}(h:InD d)(a b:Int) : PhN (fu0 d a b).ns:=X4l (X3r h.p b) _ _
theorem Xhn{d:Dg}{a:Int}(h:(!(spI d.ns a)||(d.ns.getD a.toNat nZ).p != 0)=true) : idC d a=false/\loC d a=false:=by grind [idC,loC,nZ,spI]
theorem X89{d:Dg}{a:Int}(h:(!(spI d.ns a)||(d.ns.getD a.toNat nZ).p != 0)=false) : (spI d.ns a=true)/\(d.ns.getD a.toNat nZ).p=0:=by
 cases h1:spI d.ns a<;>simp [h1] at h ⊢
 exact h
theorem Xf3{d:Dg}{a:Int}(h:(((nearW d.ws a).length:Int) != 2)=true) : idC d a=false:=by grind [idC,nearW]
theorem Xd8{d:Dg}{a:Int}(h1:(spI d.ns a=true)/\(d.ns.getD a.toNat nZ).p=0)(h:(((nearW d.ws a).length:Int) != 2)=false) : idC d a=true/\(nearW d.ws a).length=2:=by grind [idC,nZ,nearW,spI]
theorem Xiv{d:Dg}{a:Int}(h1:(spI d.ns a=true)/\(d.ns.getD a.toNat nZ).p=0)(h:¬ 0<((nearW d.ws a).length:Int)) : loC d a=true:=by grind [loC,nZ,nearW,spI]
theorem X6c{d:Dg}(h:InD d){k:Int}{j:Nat}(hj:j<(nearW d.ws k).length) : 0<=(nearW d.ws k).getD j 0/\((nearW d.ws k).getD j 0).toNat<d.ns.length:=X4z h (Xg (d:=0) hj)
theorem Xou(d:Dg)(a:Int) : (idD d a).ns.length=d.ns.length:=(X4o (id0 d a) _ _ _).1.trans (X1k _ _)
theorem Xm6{d:Dg}{a:Int}(h:(!(spI d.ns a)||(d.ns.getD a.toNat nZ).p != 0||decide (0<((nearW d.ws a).length:Int)))=true) : loC d a=false:=by grind [loC,nZ,nearW,spI]
theorem Xeh{d:Dg}{a:Int}(h:(!(spI d.ns a)||(d.ns.getD a.toNat nZ).p != 0||decide (0<((nearW d.ws a).length:Int)))=false) : loC d a=true/\0<=a/\a.toNat<d.ns.length:=by
 rw [Bool.or_eq_false_iff] at h
 have h1:=X89 h.1;have h3:=X0s h1.1;exact ⟨Xiv h1 (Q1 h.2),h3.1,h3.2.1⟩
theorem Xd4{n:Nat} : ∀ {l:List Int} (m:Nat),Inc l->(∀ x ∈ l,(m:Int)<=x/\x<n)->l.length+m<=n∨l=[]
 | [],_,_,_=>.inr rfl
 | x::l,m,hi,h=>by
  left
  have hi':=W8.1 hi
  have hx:=h x (by simp)
  rcases Xd4 (m+1) hi'.2 (fun y hy=>⟨by have:=hi'.1 y hy;omega,(h y (by simp [hy])).2⟩) with h1|h1
  ·rw [Qs];omega
  ·subst h1
   simp only [Qs,List.length_nil]
   omega
theorem X2q{d:Dg}(h:InD d)(k:Int) : (nearW d.ws k).length<=d.ns.length:=by
 rcases Xd4 (n:=d.ns.length) 0 (X2w (k:=k) h.w) (fun x hx=>by have:=X2g h hx;omega) with h1|h1
 ·omega
 ·rw [h1];simp
theorem Xbm{x:Int}(h:0<=x) : x.tmod 4=x % 4:=Int.tmod_eq_emod_of_nonneg h
theorem Xeu{d:Dg}(hd:InD d){a:Int}(h:(!(spI d.ns a)||((d.ns.getD a.toNat nZ).p.tmod 4 != 2))=true) : lcC d a=false:=by
 unfold lcC
 rw [Xbm (X1l hd.p _).1] at h
 cases h1:spI d.ns a<;>simp [h1] at h ⊢
 exact fun h2=>absurd h2 h
theorem Xbu{d:Dg}(hd:InD d){a:Int}(h:(!(spI d.ns a)||((d.ns.getD a.toNat nZ).p.tmod 4 != 2))=false) : spI d.ns a=true/\((d.ns.getD a.toNat nZ).p=2∨(d.ns.getD a.toNat nZ).p=6):=by
 rw [Xbm (X1l hd.p _).1] at h
 have h2:=X1l hd.p a.toNat
 generalize (d.ns.getD a.toNat nZ).p=x at h h2 ⊢
 cases h1:spI d.ns a<;>simp [h1] at h ⊢
 omega
theorem Xnm{d:Dg}{a:Int}(h:(!(hadD d a)||!(rdyD d (nearW d.ws a)))=true) : lcC d a=false:=by grind [hadD,lcC,nearW,rdyD]
theorem Xbl{d:Dg}{a:Int}(h1:spI d.ns a=true/\((d.ns.getD a.toNat nZ).p=2∨(d.ns.getD a.toNat nZ).p=6))(h:(!(hadD d a)||!(rdyD d (nearW d.ws a)))=false) : lcC d a=true:=by grind [hadD,lcC,nZ,nearW,rdyD,spI]
theorem Xhp{x:Int}(h:x=2∨x=6) : wr (1+wr (wr ((x-2).tdiv 4)*6))=if x=2 then 1 else 7:=by rcases h with h|h<;>subst h<;>decide
theorem Xfp{p u:Int}{l:List Int}{o:Dg}{k:Nat}(hu:l[k]? = some u) : lcS p l o (k+1)=tgL { lcS p l o k with ns:=adN (lcS p l o k).ns u (8-p) } u (l.take k):=by grind [adN,lcS,tgL]
theorem Xgn{d o:Dg}{a:Int}(h:o=lcS (d.ns.getD a.toNat nZ).p (nearW d.ws a) (id0 d a) (nearW d.ws a).length) : lcD d a = { o with t:=wr (o.t+(if (d.ns.getD a.toNat nZ).p=2 then 1 else 7)),r:=wr (o.r+(1-((nearW d.ws a).length:Int))) }:=by subst h;rfl
theorem Xsj(w0:World)(d:Dg)(md:Nat)(L:md=d.ns.length)(Ad:Option Addr)(cd:Nat)(U:Rd w0 w0.heap.size 76 encNd Ad d.ns)(Bd:Option Addr)(dd:Nat)(a6:Rd w0 w0.heap.size 84 encWr Bd d.ws)(M:d.ws.length<=dd)(p:Int)(q:Int)(hD:InD d) : Ret Tryz.prog 207 [.agg #[vi d.n,.slice Ad md cd,.slice Bd d.ws.length dd,vi d.t,vi d.r],vi p,vi q] w0 (fun v w=>∃ A c B e,v=.tuple #[.agg #[vi (if (fuC d p q)=true then fuD d p q else d).n,.slice A md c,.slice B (if (fuC d p q)=true then fuD d p q else d).ws.length e,vi (if (fuC d p q)=true then fuD d p q else d).t,vi (if (fuC d p q)=true then fuD d p q else d).r],.bool (fuC d p q)]/\Rd w w.heap.size 76 encNd A (if (fuC d p q)=true then fuD d p q else d).ns/\Rd w w.heap.size 84 encWr B (if (fuC d p q)=true then fuD d p q else d).ws/\(if (fuC d p q)=true then fuD d p q else d).ws.length<=e/\md=(if (fuC d p q)=true then fuD d p q else d).ns.length/\Below w0.heap.size w0 w):=by
 have cK:=hD.len;have cL:=hD.m;have cM:=X1s d.ws q;refine enter Tryz.func207 rfl 69 rfl rfl ?_;intro a I
 have x:=bz w0
 refine Zs I fun _ bX=>?_;refine Zf (X0q (zs:=[vi d.n,.slice Ad md cd,.slice Bd d.ws.length dd,vi d.t,vi d.r]) rfl rfl) ?_;rintro _ w1 ⟨b4,rfl,bY,z,f⟩;have cG:=Q0 x.size bY;have x:=btr x z;refine Zf (Xw (zs:=[vi 0,.slice none 0 0,.slice none 0 0,vi 0,vi 0]) X0e rfl) ?_;rintro _ w2 ⟨b7,rfl,bZ,z,i⟩
 have bW:b4≠b7:=by have:=f.lt;omega
 have aQ:=Q0 x.size bZ;have f:=f.bw z;have x:=btr x z;refine Za rfl<|ZX bX fun a I _ cA=>?_;refine Q5 fun _ cB=>?_;refine X06 (fun a w=>Fr a 69 [(1,vi p),(2,vi q),(3,(pZ9 b4)),(6,(pZ9 b7)),(32,.bool ((((!(spI d.ns p))||(!(spI d.ns q)))||(decide (q<=p)))||((tyW d.ws p q) != 1)))]/\Below w2.heap.size w2 w) ?_ ?_
 ·have a8:Below w2.heap.size w2 w2:=Below.refl _ _
  refine Zr I<|Ze (Vn X2 f)<|Zm rfl<|Zf (Vc (X4g _ d md L Ad cd (U.bx x).top Bd dd (a6.bx x).top M p (by rw [L];exact hD.m)) X2h) ?_;rintro _ w3 ⟨rfl,z⟩;have f:=f.bw z;have x:=btr x z;have a8:=btr a8 z;refine Ze (X0z rfl)<|Zm rfl ?_
  refine Zg 15 rfl (fun h=>?_) (fun h=>?_)
  ·(iterate 4 refine Zp (gP h) ?_);refine Ze (X5 rfl h rfl)<|Zm rfl<|Zp (gP rfl) ?_;(iterate 2 refine Zp (gP rfl) ?_);refine Ze (X5 rfl rfl rfl)<|Zm rfl<|Zp (gP rfl) ?_;(iterate 4 refine Zp (gP rfl) ?_);refine Ze (X5 rfl rfl rfl) ?_;refine Zn fun a I=>?_
   have aH:Below w2.heap.size w2 w3:=a8
   exact ⟨I.sub ⟨rfl,rfl,rfl,rfl,X1 rfl (by first|rfl|(simp only [h,bs];done)|simp [h]),trivial⟩,aH⟩
  refine Zv (gW h) (Vn X2 f) ?_;refine Zv (gW h) (X3 rfl) ?_;refine Zk (gW h) (Vc (X4g _ d md L Ad cd (U.bx x).top Bd dd (a6.bx x).top M q (by rw [L];exact hD.m)) X2h) ?_;rintro _ w4 ⟨rfl,z⟩;have f:=f.bw z;have x:=btr x z;have a8:=btr a8 z;refine Zv (gW h) (X0z rfl) ?_;refine Ze (X9 rfl h rfl)<|Zm rfl ?_
  refine Zg 21 rfl (fun E=>?_) (fun E=>?_)
  ·(iterate 3 refine Zp (gP E) ?_);refine Ze (X5 rfl E rfl)<|Zm rfl<|Zp (gP rfl) ?_;(iterate 4 refine Zp (gP rfl) ?_);refine Ze (X5 rfl rfl rfl) ?_;refine Zn fun a I=>?_
   have aH:Below w2.heap.size w2 w4:=a8
   exact ⟨I.sub ⟨rfl,rfl,rfl,rfl,X1 rfl (by first|rfl|(simp only [h,E,bs];done)|simp [h,E]),trivial⟩,aH⟩
  refine Zv (gW E) (X3 rfl) ?_;refine Zv (gW E) (X3 rfl) ?_;refine Zv (gW E) (X4q rfl rfl) ?_;refine Ze (X9 rfl E rfl)<|Zm rfl ?_
  refine Zg 26 rfl (fun C=>?_) (fun C=>?_)
  ·(iterate 5 refine Zp (gP C) ?_);refine Ze (X5 rfl C rfl) ?_;refine Zn fun a I=>?_
   have aH:Below w2.heap.size w2 w4:=a8
   exact ⟨I.sub ⟨rfl,rfl,rfl,rfl,X1 rfl (by first|rfl|(simp only [h,E,C,bs];done)|simp [h,E,C]),trivial⟩,aH⟩
  refine Zv (gW C) (Vn X2 f) ?_;refine Zv (gW C) (X3 rfl) ?_;refine Zv (gW C) (X3 rfl) ?_;refine Zk (gW C) (Vc (X6l _ d md L Ad cd (U.bx x).top Bd dd (a6.bx x).top M p q (by have:=hD.len;omega)) X3i) ?_;rintro _ w5 ⟨rfl,z⟩;have x:=btr x z;have a8:=btr a8 z;refine Zv (gW C) (X1c rfl rfl) ?_;refine Ze (X9 rfl C rfl) ?_;refine Zn fun a I=>?_
  have aH:Below w2.heap.size w2 w5:=a8
  exact ⟨I.sub ⟨rfl,rfl,rfl,rfl,X1 rfl (by first|rfl|(simp only [h,E,C,bs];done)|simp [h,E,C]),trivial⟩,aH⟩
 rintro a w6 ⟨I,z⟩;have f:=f.bw z;have i:=i.bw z;have x:=btr x z;refine cB _ _ ?_
 refine Xf I rfl (fun aC=>?_) (fun aC=>?_)
 ·have aS:=aC
  have cC:fuC d p q=false:=Xsl aC
  refine Zs I fun _ aZ=>?_;refine Ze (Vn X2 f)<|Zo (Vw [vi d.n,.slice Ad md cd,.slice Bd d.ws.length dd,vi d.t,vi d.r] Xd i) ?_;rintro _ w7 ⟨ho,hb⟩;have J:=i;have x:=Below.oy x ho aQ;have i:=hb;refine Za rfl<|Zt aZ fun a I=>?_;refine Q6<|X8<|X6 I (X1h I rfl (ResV.cellN (l:=[vi d.n,.slice Ad md cd,.slice Bd d.ws.length dd,vi d.t,vi d.r]) rfl X2 (i.at 0) rfl) rfl) ?_
  rw [cC,Q3 Bool.false_ne_true]
  exact ⟨Ad,cd,Bd,dd,rfl,(U.bx x).top,(a6.bx x).top,M,L,x⟩
 have aS:=aC
 have b0:fuC d p q=true:=Xpp aC
 obtain ⟨b1,b2⟩:=X7v b0;refine Q7<|cA _ _<|Zs I fun _ b3=>?_;refine Ze (Vn X2 f)<|Zf (Vc (X7j _ d md L Ad cd (U.bx x).top Bd dd (a6.bx x).top M ⟨by have:=hD.m;omega,by have:=hD.len;omega⟩) X45) ?_;rintro _ w8 ⟨aL,aM,cD,cE,rfl,y,aJ,z⟩;have y:=y.lower x.size;have aJ:=aJ.lower x.size;have f:=f.bw z;have i:=i.bw z;have x:=btr x z;refine Zm rfl<|Zf (Vc (X7p _ d d.ns.length rfl aL aM _ y x.size cD cE aJ.rd.top aJ.cap q ⟨b2.1,by omega⟩ (by omega)) X4d) ?_;rintro _ w9 ⟨b5,b6,rfl,W,a7,b8,b9,hg⟩;have D:=y;have f:=f.appT D hg rfl;have i:=i.appT D hg rfl;have x:=Below.app x D hg (Qb _) x.size
 clear D hg;clear y;have y:=W;clear W;refine Zf (Xw (zs:=[vi 0,.slice none 0 0,.slice none 0 0,vi 0,vi 0]) X0e rfl) ?_;rintro _ cN ⟨b21,rfl,bA,z,g⟩
 have bB:b4≠b21:=by have:=f.lt;omega
 have bC:b7≠b21:=by have:=i.lt;omega
 have aI:=Q0 x.size bA;have f:=f.bw z;have i:=i.bw z;have y:=y.bw z;have a7:=a7.bw z;have x:=btr x z;refine Zo (Vw [vi (({ d with ns:=dpN d.ns q,ws:=dpW d.ws q } : Dg).n),.slice aL d.ns.length aM,.slice b5 (({ d with ns:=dpN d.ns q,ws:=dpW d.ws q } : Dg).ws).length b6,vi (({ d with ns:=dpN d.ns q,ws:=dpW d.ws q } : Dg).t),vi (({ d with ns:=dpN d.ns q,ws:=dpW d.ws q } : Dg).r)] Xd g) ?_;rintro _ cO ⟨ho,hb⟩;have J:=g;have f:=f.oy ho (by omega);have i:=i.oy ho (by omega);have y:=y.oT ho J rfl;have a7:=a7.oT ho J rfl;have x:=Below.oy x ho aI;have g:=hb;refine ZX b3 fun a I _ bD=>?_;refine Xz none (fun j=>[8,9].contains j) mixed ?_;intro cP z;have f:=f.bw z;have i:=i.bw z;have g:=g.bw z;have y:=y.bw z;have a7:=a7.bw z;have x:=btr x z;refine Yb I<|Ye 0 rfl (Vn X2 g)<|Yo 1 rfl (fun _=>X3 rfl)<|Yo 2 rfl (fun _=>Vd rfl Xc 1)<|Ye 3 rfl (X0 rfl Xv (f.at 1))<|Yo 4 rfl (fun _=>X3 rfl)<|Yj (k:=q.toNat) (u:=(d.ns.getD q.toNat nZ)) (enc:=encNd) (l:=d.ns) 5 rfl tv0 rfl L rfl Xm X05 Xt (U.bx x) (Xg b2.2) (by omega) ?_;intro cQ aT;refine Yo 6 rfl (fun _=>X1y rfl X04)<|Ye 7 rfl (X0 rfl Xa (aT.drop 1))<|Y1 8 ?_;refine Yt rfl tv0 rfl (Vc (X7m _ ({ d with ns:=dpN d.ns q,ws:=dpW d.ws q } : Dg) d.ns.length b9 aL aM _ y x.size b5 b6 a7.top b8 p ((d.ns.getD q.toNat nZ).p) ⟨b1.1,by rw [X1k];omega⟩ (Xrp hD p q)) X4c) ?_;rintro _ cR ⟨bE,bF,rfl,W,aD,bG,cH,hg⟩;have D:=y;have f:=f.appT D hg rfl;have i:=i.appT D hg rfl;have g:=g.appT D hg rfl
 have x:=Below.app x D hg (Qb _) x.size
 clear D hg;clear y;have y:=W;clear W;refine Y1 9<|Yh rfl tv0 rfl (Vw [vi (({ ({ d with ns:=dpN d.ns q,ws:=dpW d.ws q } : Dg) with ns:=adN ({ d with ns:=dpN d.ns q,ws:=dpW d.ws q } : Dg).ns p ((d.ns.getD q.toNat nZ).p) } : Dg).n),.slice aL d.ns.length aM,.slice bE (({ ({ d with ns:=dpN d.ns q,ws:=dpW d.ws q } : Dg) with ns:=adN ({ d with ns:=dpN d.ns q,ws:=dpW d.ws q } : Dg).ns p ((d.ns.getD q.toNat nZ).p) } : Dg).ws).length bF,vi (({ ({ d with ns:=dpN d.ns q,ws:=dpW d.ws q } : Dg) with ns:=adN ({ d with ns:=dpN d.ns q,ws:=dpW d.ws q } : Dg).ns p ((d.ns.getD q.toNat nZ).p) } : Dg).t),vi (({ ({ d with ns:=dpN d.ns q,ws:=dpW d.ws q } : Dg) with ns:=adN ({ d with ns:=dpN d.ns q,ws:=dpW d.ws q } : Dg).ns p ((d.ns.getD q.toNat nZ).p) } : Dg).r)] Xd g) ?_;rintro _ cS ⟨ho,hb⟩;have J:=g;have f:=f.oy ho (by omega);have i:=i.oy ho (by omega);have y:=y.oT ho J rfl;have aD:=aD.oT ho J rfl;have x:=Below.oy x ho aI;have g:=hb;refine Yd fun a I=>?_;refine bD _ _<|Q5 fun _ bH=>?_;refine Zs I fun _ bI=>?_;refine Ze (Vn X2 f)<|Zm rfl<|Zf (Vc (X7r _ d md L Ad cd (U.bx x).top Bd dd (a6.bx x).top M q hD.w (by omega)) X47) ?_;rintro _ cT ⟨bJ,bK,rfl,G,z⟩;have G:=G.lower x.size;have f:=f.bw z;have i:=i.bw z;have g:=g.bw z;have y:=y.bw z;have aD:=aD.bw z;have x:=btr x z;refine Ze (X07 rfl Xk)<|Zm rfl<|Zt bI fun a I=>?_;refine Q8<|X02 (σ:=Nat×Dg) (fun (s:Nat×Dg) (a:Act) (w:World)=>match s with|(k,o)=>∃ aA aB aE aF,Fr a 69 [(1,vi p),(2,vi q),(3,(pZ9 b4)),(6,(pZ9 b7)),(8,(pZ9 b21)),(49,.slice bJ (nearW d.ws q).length bK),(50,vi ((nearW d.ws q).length:Int)),(51,vi (k:Int))]/\(k<=(nearW d.ws q).length)/\(o=fuS d p q ((nearW d.ws q).take k) (fu0 d p q))/\(d.ns.length=o.ns.length)/\(o.ws.length<=d.ws.length+k)/\(PhN o.ns)/\Blk w b4 31 [vi d.n,.slice Ad md cd,.slice Bd d.ws.length dd,vi d.t,vi d.r]/\Blk w b7 31 [vi 0,.slice none 0 0,.slice none 0 0,vi 0,vi 0]/\Blk w b21 31 [vi o.n,.slice aA d.ns.length aB,.slice aE o.ws.length aF,vi o.t,vi o.r]/\Own w w0.heap.size 3 1 encI bJ bK (nearW d.ws q)/\Own w w0.heap.size 76 2 encNd aA aB o.ns/\Rd w w.heap.size 84 encWr aE o.ws/\d.ws.length<=dd/\o.ws.length<=aF/\Below w0.heap.size w0 w) (fun (s:Nat×Dg)=>match s with|(k,o)=>(nearW d.ws q).length-k) (0,(fu0 d p q)) ?_ ?_
 ·exact ⟨aL,aM,bE,bF,I.sb,(Qf _),rfl,(X5f d p q).1.symm,(X5f d p q).2,(Xh4 hD p q),f,i,g,G,y,aD.top,M,bG,x⟩
 rintro ⟨k,o⟩ a cU ⟨aA,aB,aE,aF,I,hk,bL,aK,cV,aN,f,i,g,G,H,N,M,aU,x⟩;refine Zs I fun _ bM=>?_;refine Ze (X0i rfl rfl)<|ZX bM fun a I _ bN=>?_
 refine Xf I rfl (fun Q=>?_) (fun Q=>?_)
 ·have aV:=Q;have Q:=Q2 Q
  obtain ⟨cW,cI⟩:=X4 (l:=(nearW d.ws q)) (k:=k) (by omega)
  obtain ⟨u9,aW⟩:=X4 (l:=nearW d.ws q) (k:=k) (by have:=Q;omega)
  have cF:=X4z hD aW;have aO:=X8e (d:=d) (a:=p) (b:=q) (o:=fu0 d p q) aW
  rw [<- bL] at aO
  refine Q7<|bN _ _<|Q5 fun _ aR=>?_;refine Q8<|Zs I fun _ bO=>?_;refine Zi (k:=k) (u:=u9) (enc:=encI) (l:=(nearW d.ws q)) tv0 rfl rfl Xk X0a Xh G.rd aW rfl ?_;intro cX aX;refine Ze (X0 rfl Xa aX)<|Za rfl<|Zx bO fun a I _ bP=>?_;refine Zm rfl<|Zm rfl<|Ze (X1c rfl rfl)<|Zt bP fun a I=>?_
  refine Xf I rfl (fun aG=>?_) (fun aG=>?_)
  ·have aY:=aG
   rw [Xla aG] at aO
   refine Xz none (fun j=>[8,9].contains j) mixed ?_;intro cY z;have f:=f.bw z;have i:=i.bw z;have g:=g.bw z;have G:=G.bw z;have H:=H.bw z;have N:=N.bw z;have x:=btr x z;refine Yb I<|Ye 0 rfl (Vn X2 g)<|Yo 1 rfl (fun _=>X3 rfl)<|Yo 2 rfl (fun _=>X3 rfl)<|Ye 3 rfl (Vn X2 f)<|Yo 4 rfl (fun _=>X3 rfl)<|Yo 5 rfl (fun _=>X3 rfl)<|Y1 6 ?_;refine Yk rfl tv0 (Vc (X6l _ d md L Ad cd (U.bx x).top Bd dd (a6.bx x).top M q u9 (by have:=hD.len;omega)) X3i) (fun _ _ ⟨_,z⟩=>z) ?_;rintro _ cZ ⟨rfl,z⟩;have f:=f.bw z;have i:=i.bw z;have g:=g.bw z;have G:=G.bw z;have H:=H.bw z;have N:=N.bw z;have x:=btr x z;refine Yo 7 rfl (fun _=>X0f rfl rfl)<|Y1 8 ?_;refine Yt rfl tv0 rfl (Vc (Xl4 _ o d.ns.length aK aA aB _ H x.size aE aF N.top aU p u9 ((tyW d.ws q u9)==2) (by omega) ⟨⟨b1.1,by omega⟩,⟨cF.1,by omega⟩⟩ aN (by omega)) Xdb) ?_;rintro _ d5 ⟨bQ,bR,rfl,W,aP,bS,cJ,hg⟩;have D:=H;have f:=f.appT D hg rfl;have i:=i.appT D hg rfl;have g:=g.appT D hg rfl;have G:=G.appT D hg rfl;have x:=Below.app x D hg (Qb _) x.size
   clear D hg;clear H;have H:=W;clear W;refine Y1 9<|Yh rfl tv0 rfl (Vw [vi ((mtD o p u9 ((tyW d.ws q u9)==2)).n),.slice aA d.ns.length aB,.slice bQ ((mtD o p u9 ((tyW d.ws q u9)==2)).ws).length bR,vi ((mtD o p u9 ((tyW d.ws q u9)==2)).t),vi ((mtD o p u9 ((tyW d.ws q u9)==2)).r)] Xd g) ?_;rintro _ d6 ⟨ho,hb⟩;have J:=g;have f:=f.oy ho (by omega);have i:=i.oy ho (by omega);have G:=G.oT ho J rfl;have H:=H.oT ho J rfl;have aP:=aP.oT ho J rfl;have x:=Below.oy x ho aI;have g:=hb;refine Yd fun a I=>?_;refine Xb<|aR _ _<|Zr I<|Ze (Xr rfl rfl (by omega) (by omega))<|Zm rfl ?_;refine Zn fun a I=>?_;refine Xe ?_;exact ⟨(k+1,(mtD o p u9 ((tyW d.ws q u9)==2))),⟨aA,aB,bQ,bR,I.sb,(by omega),(by rw [aO]),(by first|exact aK|exact aK.trans (X4o _ _ _ _).1.symm),(by first|omega|(have:=(X4o o p u9 (tyW d.ws q u9==2)).2;omega)),(by first|exact aN|exact Xge aN _ _ _),f,i,g,G,H,aP.top,M,bS,x⟩,(by first|omega|(dsimp only;omega))⟩
  have aY:=aG
  rw [Xlb aG] at aO
  refine Q7<|Xb<|aR _ _<|Zr I ?_;refine Ze (Xr rfl rfl (by omega) (by omega))<|Zm rfl ?_;refine Zn fun a I=>?_;refine Xe ?_;exact ⟨(k+1,o),⟨aA,aB,aE,aF,I.sb,(by omega),(by rw [aO]),(by first|exact aK|exact aK.trans (X4o _ _ _ _).1.symm),(by first|omega|(have:=(X4o o p u9 (tyW d.ws q u9==2)).2;omega)),(by first|exact aN|exact Xge aN _ _ _),f,i,g,G,H,N.top,M,aU,x⟩,(by first|omega|(dsimp only;omega))⟩
 have aV:=Q;have Q:=Q1 Q
 have bT:o=fuD d p q:=by rw [bL,Qi (by have:=Q;omega)];rfl
 refine Q9<|Xl<|Xl<|X01 ?_;refine bH _ _<|Zs I fun _ bU=>?_;refine Ze (Vn X2 g)<|Zo (Vw [vi o.n,.slice aA d.ns.length aB,.slice aE o.ws.length aF,vi o.t,vi o.r] Xd i) ?_;rintro _ d7 ⟨ho,hb⟩;have J:=i;have H:=H.oT ho J rfl;have N:=N.oT ho J rfl;have x:=Below.oy x ho aQ;have i:=hb;refine Za rfl<|Zt bU fun a I=>?_
 refine Q6 (X6 I (X1h I rfl (ResV.cellN (l:=[vi o.n,.slice aA d.ns.length aB,.slice aE o.ws.length aF,vi o.t,vi o.r]) rfl X2 (i.at 0) rfl) rfl) ?_)
 rw [b0,Q4 rfl,<- bT,L]
 exact ⟨aA,aB,aE,aF,rfl,H.rd.top,N.top,aU,aK,x⟩
theorem Xsq(w0:World)(d:Dg)(md:Nat)(y:md=d.ns.length)(Ad:Option Addr)(cd:Nat)(C:Rd w0 w0.heap.size 76 encNd Ad d.ns)(Bd:Option Addr)(dd:Nat)(E:Rd w0 w0.heap.size 84 encWr Bd d.ws)(H:d.ws.length<=dd)(p:Int)(hD:InD d) : Ret Tryz.prog 209 [.agg #[vi d.n,.slice Ad md cd,.slice Bd d.ws.length dd,vi d.t,vi d.r],vi p] w0 (fun v w=>∃ A c B e,v=.tuple #[.agg #[vi (if (idC d p)=true then idD d p else d).n,.slice A md c,.slice B (if (idC d p)=true then idD d p else d).ws.length e,vi (if (idC d p)=true then idD d p else d).t,vi (if (idC d p)=true then idD d p else d).r],.bool (idC d p)]/\Rd w w.heap.size 76 encNd A (if (idC d p)=true then idD d p else d).ns/\Rd w w.heap.size 84 encWr B (if (idC d p)=true then idD d p else d).ws/\(if (idC d p)=true then idD d p else d).ws.length<=e/\md=(if (idC d p)=true then idD d p else d).ns.length/\Below w0.heap.size w0 w):=by
 have bI:=hD.len;have bJ:=hD.m;have bK:=X1s d.ws p;refine enter Tryz.func209 rfl 52 rfl rfl ?_;intro a G
 have i:=bz w0
 refine Zs G fun _ b5=>?_;refine Zf (X0q (zs:=[vi d.n,.slice Ad md cd,.slice Bd d.ws.length dd,vi d.t,vi d.r]) rfl rfl) ?_;rintro _ w1 ⟨b4,rfl,b6,q,z⟩;have bC:=Q0 i.size b6;have i:=btr i q;refine Zf (Xw (zs:=[vi 0,.slice none 0 0,.slice none 0 0,vi 0,vi 0]) X0e rfl) ?_;rintro _ w2 ⟨b7,rfl,b8,q,f⟩
 have b3:b4≠b7:=by have:=z.lt;omega
 have aA:=Q0 i.size b8;have z:=z.bw q;have i:=btr i q;refine Za rfl<|ZX b5 fun a G _ b9=>?_;refine Q5 fun _ bA=>?_;refine X06 (fun a w=>Fr a 52 [(1,vi p),(2,(pZ9 b4)),(4,(pZ9 b7)),(19,.bool ((!(spI d.ns p))||(((d.ns.getD p.toNat nZ).p) != 0)))]/\Below w2.heap.size w2 w) ?_ ?_
 ·have aD:Below w2.heap.size w2 w2:=Below.refl _ _
  refine Zr G<|Ze (Vn X2 z)<|Zm rfl<|Zf (Vc (X4g _ d md y Ad cd (C.bx i).top Bd dd (E.bx i).top H p (by rw [y];exact hD.m)) X2h) ?_;rintro _ w3 ⟨rfl,q⟩;have z:=z.bw q;have i:=btr i q;have aD:=btr aD q;refine Ze (X0z rfl)<|Zm rfl ?_
  refine Zg 11 rfl (fun b=>?_) (fun b=>?_)
  ·(iterate 7 refine Zp (gP b) ?_);refine Ze (X5 rfl b rfl) ?_;refine Zn fun a G=>?_
   have aG:Below w2.heap.size w2 w3:=aD
   exact ⟨G.sub ⟨rfl,rfl,rfl,X1 rfl (by first|rfl|(simp only [b,bs];done)|simp [b]),trivial⟩,aG⟩
  have aH:0<=p/\p.toNat<d.ns.length:=by have h9:=X0s (ns:=d.ns) (k:=p) (by simpa using b);exact ⟨h9.1,h9.2.1⟩
  refine Zv (gW b) (Vd rfl Xc 1) ?_;refine Zv (gW b) (X0 rfl Xv (z.at 1)) ?_;refine Zv (gW b) (X3 rfl) ?_;refine Zj (k:=p.toNat) (u:=(d.ns.getD p.toNat nZ)) (enc:=encNd) (l:=d.ns) ⟨_,_,rfl,rfl,b⟩ rfl y rfl Xm X05 Xt (C.bx i) (Xg aH.2) (by omega) ?_;intro bL aI;refine Zv (gW b) (X1y rfl X04) ?_;refine Zv (gW b) (X0 rfl Xa (aI.drop 1)) ?_;refine Zv (gW b) (X1c rfl rfl) ?_;refine Ze (X9 rfl b rfl) ?_;refine Zn fun a G=>?_
  have aG:Below w2.heap.size w2 w3:=aD
  exact ⟨G.sub ⟨rfl,rfl,rfl,X1 rfl (by first|rfl|(simp only [b,bs];done)|simp [b]),trivial⟩,aG⟩
 rintro a w4 ⟨G,q⟩;have z:=z.bw q;have f:=f.bw q;have i:=btr i q;refine bA _ _ ?_
 refine Xf G rfl (fun Q=>?_) (fun Q=>?_)
 ·have aJ:=Q;obtain ⟨aK,bD⟩:=Xhn Q;refine Zs G fun _ aQ=>?_;refine Ze (Vn X2 z)<|Zo (Vw [vi d.n,.slice Ad md cd,.slice Bd d.ws.length dd,vi d.t,vi d.r] Xd f) ?_;rintro _ w5 ⟨ho,hb⟩;have a7:=f;have i:=Below.oy i ho aA;have f:=hb;refine Za rfl<|Zt aQ fun a G=>?_;refine Q6<|X8<|X6 G (X1h G rfl (ResV.cellN (l:=[vi d.n,.slice Ad md cd,.slice Bd d.ws.length dd,vi d.t,vi d.r]) rfl X2 (f.at 0) rfl) rfl) ?_
  rw [aK,Q3 Bool.false_ne_true]
  exact ⟨Ad,cd,Bd,dd,rfl,(C.bx i).top,(E.bx i).top,H,y,i⟩
 have aJ:=Q;have aL:=X89 Q
 have aH:0<=p/\p.toNat<d.ns.length:=⟨(X0s aL.1).1,(X0s aL.1).2.1⟩
 refine Q7<|b9 _ _<|Zs G fun _ aR=>?_;refine Ze (Vn X2 z)<|Zm rfl<|Zf (Vc (X7r _ d md y Ad cd (C.bx i).top Bd dd (E.bx i).top H p hD.w (by omega)) X47) ?_;rintro _ w6 ⟨bM,bN,rfl,D,q⟩;have D:=D.lower i.size;have z:=z.bw q;have f:=f.bw q;have i:=btr i q;refine Za rfl<|ZX aR fun a G _ aS=>?_;refine Zs G fun _ aT=>?_;refine Zm rfl<|Ze (X07 rfl Xk)<|Ze (X1c rfl rfl)<|Zt aT fun a G=>?_
 refine Xf G rfl (fun U=>?_) (fun U=>?_)
 ·have aM:=U;have aK:=Xf3 U;refine Zs G fun _ aU=>?_;refine Ze (Vn X2 z)<|Zo (Vw [vi d.n,.slice Ad md cd,.slice Bd d.ws.length dd,vi d.t,vi d.r] Xd f) ?_;rintro _ w7 ⟨ho,hb⟩;have a7:=f;have i:=Below.oy i ho aA;have f:=hb;refine Za rfl<|Zt aU fun a G=>?_;refine Q6<|X8<|X6 G (X1h G rfl (ResV.cellN (l:=[vi d.n,.slice Ad md cd,.slice Bd d.ws.length dd,vi d.t,vi d.r]) rfl X2 (f.at 0) rfl) rfl) ?_
  rw [aK,Q3 Bool.false_ne_true]
  exact ⟨Ad,cd,Bd,dd,rfl,(C.bx i).top,(E.bx i).top,H,y,i⟩
 have aM:=U;obtain ⟨bB,bO⟩:=Xd8 aL U
 have aV:=X6c hD (k:=p) (j:=0) (by omega)
 have aW:=X6c hD (k:=p) (j:=1) (by omega)
 refine Q7<|aS _ _<|Q5 fun _ aX=>?_;refine Xz (some (.base w6.heap.size)) (fun j=>[23,24].contains j) mixed ?_;have aB:=z;have bE:=f;have bF:=(C.bx i);have bG:=(E.bx i);have N:=D;intro w8 q;have o:=q;have f:=f.bw q;have D:=D.bw q;have i:=btr i q;refine Yb G<|Yn 0 rfl tv0 o.size (fun w9 h9=>by have I:=aB.bw (o.trans h9);exact X00 (l:=[vi d.n,.slice Ad md cd,.slice Bd d.ws.length dd,vi d.t,vi d.r]) rfl X2 (I.at 0) rfl) ?_;refine Yo 2 rfl (fun _=>X3 rfl)<|Yo 4 rfl (fun _=>X3 rfl)<|Yo 5 rfl (fun _=>Xp (k:=0) rfl rfl Xk X0a D rfl rfl (by omega)) ?_;refine Yn 6 rfl tv0 o.size (fun w9 h9=>by have x:=N.bw (o.trans h9);exact X0 rfl Xa (X0u x Xh (Xg (k:=0) (d:=(0:Int)) (by omega)) 0 rfl)) ?_;refine Yo 7 rfl (fun _=>X3 rfl)<|Yo 8 rfl (fun _=>Xp (k:=1) rfl rfl Xk X0a D rfl rfl (by omega)) ?_;refine Yn 9 rfl tv0 o.size (fun w9 h9=>by have x:=N.bw (o.trans h9);exact X0 rfl Xa (X0u x Xh (Xg (k:=1) (d:=(0:Int)) (by omega)) 0 rfl)) ?_;refine Yn 10 rfl tv0 o.size (fun w9 h9=>by have I:=aB.bw (o.trans h9);exact X00 (l:=[vi d.n,.slice Ad md cd,.slice Bd d.ws.length dd,vi d.t,vi d.r]) rfl X2 (I.at 0) rfl) ?_;refine Yo 11 rfl (fun _=>X3 rfl)<|Yo 12 rfl (fun _=>X3 rfl)<|Yo 13 rfl (fun _=>Xp (k:=0) rfl rfl Xk X0a D rfl rfl (by omega)) ?_;refine Yn 14 rfl tv0 o.size (fun w9 h9=>by have x:=N.bw (o.trans h9);exact X0 rfl Xa (X0u x Xh (Xg (k:=0) (d:=(0:Int)) (by omega)) 0 rfl)) ?_;refine Yn 16 rfl tv0 o.size (fun w9 h9=>by have I:=aB.bw (o.trans h9);exact X00 (l:=[vi d.n,.slice Ad md cd,.slice Bd d.ws.length dd,vi d.t,vi d.r]) rfl X2 (I.at 0) rfl) ?_
 refine Yo 17 rfl (fun _=>X3 rfl)<|Yo 18 rfl (fun _=>X3 rfl)<|Yo 19 rfl (fun _=>Xp (k:=1) rfl rfl Xk X0a D rfl rfl (by omega)) ?_;refine Yn 20 rfl tv0 o.size (fun w9 h9=>by have x:=N.bw (o.trans h9);exact X0 rfl Xa (X0u x Xh (Xg (k:=1) (d:=(0:Int)) (by omega)) 0 rfl)) ?_;refine Y1 1<|Yf rfl tv0 (EfW.mono (Vc (X7j _ d md y Ad cd (C.bx i).top Bd dd (E.bx i).top H ⟨by omega,by omega⟩) X45) (fun _ _ h=>⟨fun _=>by obtain ⟨a6,a8,aY,aZ,rfl,g,W,q⟩:=h;exact Keep.of_below q,h⟩)) ?_;rintro _ w9 ⟨a6,a8,aY,aZ,rfl,g,W,q⟩
 have aN:∀ k,ownB a6=some k->w6.heap.size<=k:=fun k hk=>Q0 o.size (X20 g hk)
 have g:=g.lower i.size;have W:=W.lower i.size;have f:=f.bw q;have o:=btr o q;have i:=btr i q;refine Y1 3<|Yf rfl tv0 (EfW.mono (Vc (X7p _ d d.ns.length rfl a6 a8 _ g i.size aY aZ W.rd.top W.cap p aH (by omega)) X4d) (fun _ _ h=>⟨fun _=>by obtain ⟨b0,b1,rfl,L,M,aE,aF,hg⟩:=h;exact Xfb hg aN,h⟩)) ?_;rintro _ bP ⟨b0,b1,rfl,L,M,aE,aF,hg⟩;have J:=g;have f:=f.appT J hg rfl;have o:=o.trans (X7y hg aN o.size);have i:=Below.app i J hg (Qb _) i.size
 clear J hg;clear g;have g:=L;clear L;refine Y1 15<|Yf rfl tv0 (EfW.mono (Vc (X6l _ d md y Ad cd (C.bx i).top Bd dd (E.bx i).top H p ((nearW d.ws p).getD 0 0) (by omega)) X3i) (fun _ _ h=>⟨fun _=>by obtain ⟨rfl,q⟩:=h;exact Keep.of_below q,h⟩)) ?_;rintro _ bQ ⟨rfl,q⟩;have f:=f.bw q;have g:=g.bw q;have M:=M.bw q;have o:=btr o q;have i:=btr i q;refine Y1 21<|Yf rfl tv0 (EfW.mono (Vc (X6l _ d md y Ad cd (C.bx i).top Bd dd (E.bx i).top H p ((nearW d.ws p).getD 1 0) (by omega)) X3i) (fun _ _ h=>⟨fun _=>by obtain ⟨rfl,q⟩:=h;exact Keep.of_below q,h⟩)) ?_;rintro _ bR ⟨rfl,q⟩;have f:=f.bw q;have g:=g.bw q;have M:=M.bw q;have o:=btr o q;have i:=btr i q;refine Yo 22 rfl (fun _=>X1c rfl rfl)<|Y1 23 ?_;refine Yt rfl tv0 rfl (Vc (Xl4 _ ({ d with ns:=dpN d.ns p,ws:=dpW d.ws p } : Dg) d.ns.length aF a6 a8 _ g i.size b0 b1 M.top aE ((nearW d.ws p).getD 0 0) ((nearW d.ws p).getD 1 0) ((tyW d.ws p ((nearW d.ws p).getD 0 0)) != (tyW d.ws p ((nearW d.ws p).getD 1 0))) (by have:=X1v d.ws p;dsimp only;omega) ⟨⟨aV.1,by rw [X1k];exact aV.2⟩,⟨aW.1,by rw [X1k];exact aW.2⟩⟩ (X3r hD.p p) (by omega)) Xdb) ?_;rintro _ bS ⟨aO,aP,rfl,L,aC,b2,bH,hg⟩;have J:=g;have f:=f.appT J hg rfl;have o:=o.trans (X7y hg aN o.size);have i:=Below.app i J hg (Qb _) i.size
 clear J hg;clear g;have g:=L;clear L;refine Y1 24<|Yh rfl tv0 rfl (Vw [vi ((mtD ({ d with ns:=dpN d.ns p,ws:=dpW d.ws p } : Dg) ((nearW d.ws p).getD 0 0) ((nearW d.ws p).getD 1 0) ((tyW d.ws p ((nearW d.ws p).getD 0 0)) != (tyW d.ws p ((nearW d.ws p).getD 1 0)))).n),.slice a6 d.ns.length a8,.slice aO ((mtD ({ d with ns:=dpN d.ns p,ws:=dpW d.ws p } : Dg) ((nearW d.ws p).getD 0 0) ((nearW d.ws p).getD 1 0) ((tyW d.ws p ((nearW d.ws p).getD 0 0)) != (tyW d.ws p ((nearW d.ws p).getD 1 0)))).ws).length aP,vi ((mtD ({ d with ns:=dpN d.ns p,ws:=dpW d.ws p } : Dg) ((nearW d.ws p).getD 0 0) ((nearW d.ws p).getD 1 0) ((tyW d.ws p ((nearW d.ws p).getD 0 0)) != (tyW d.ws p ((nearW d.ws p).getD 1 0)))).t),vi ((mtD ({ d with ns:=dpN d.ns p,ws:=dpW d.ws p } : Dg) ((nearW d.ws p).getD 0 0) ((nearW d.ws p).getD 1 0) ((tyW d.ws p ((nearW d.ws p).getD 0 0)) != (tyW d.ws p ((nearW d.ws p).getD 1 0)))).r)] Xd f) ?_;rintro _ bT ⟨ho,hb⟩;have a7:=f;have g:=g.oT ho a7 rfl;have aC:=aC.oT ho a7 rfl;have i:=Below.oy i ho aA;have f:=hb;refine Yo 25 rfl (fun _=>X0h rfl) ?_;refine Yd fun a G=>?_;refine aX _ _ ?_
 refine Q6 (X6 G (X1h G rfl (ResV.cellN (l:=[vi ((mtD ({ d with ns:=dpN d.ns p,ws:=dpW d.ws p } : Dg) ((nearW d.ws p).getD 0 0) ((nearW d.ws p).getD 1 0) ((tyW d.ws p ((nearW d.ws p).getD 0 0)) != (tyW d.ws p ((nearW d.ws p).getD 1 0)))).n),.slice a6 d.ns.length a8,.slice aO ((mtD ({ d with ns:=dpN d.ns p,ws:=dpW d.ws p } : Dg) ((nearW d.ws p).getD 0 0) ((nearW d.ws p).getD 1 0) ((tyW d.ws p ((nearW d.ws p).getD 0 0)) != (tyW d.ws p ((nearW d.ws p).getD 1 0)))).ws).length aP,vi ((mtD ({ d with ns:=dpN d.ns p,ws:=dpW d.ws p } : Dg) ((nearW d.ws p).getD 0 0) ((nearW d.ws p).getD 1 0) ((tyW d.ws p ((nearW d.ws p).getD 0 0)) != (tyW d.ws p ((nearW d.ws p).getD 1 0)))).t),vi ((mtD ({ d with ns:=dpN d.ns p,ws:=dpW d.ws p } : Dg) ((nearW d.ws p).getD 0 0) ((nearW d.ws p).getD 1 0) ((tyW d.ws p ((nearW d.ws p).getD 0 0)) != (tyW d.ws p ((nearW d.ws p).getD 1 0)))).r)]) rfl X2 (f.at 0) rfl) rfl) ?_)
 rw [bB,Q4 rfl,y]
 exact ⟨a6,a8,aO,aP,rfl,g.rd.top,aC.top,b2,(Xou d p).symm,i⟩
theorem Xtf(w0:World)(d:Dg)(md:Nat)(h:md=d.ns.length)(Ad:Option Addr)(cd:Nat)(D:Rd w0 w0.heap.size 76 encNd Ad d.ns)(Bd:Option Addr)(dd:Nat)(I:Rd w0 w0.heap.size 84 encWr Bd d.ws)(J:d.ws.length<=dd)(p:Int)(hD:InD d) : Ret Tryz.prog 211 [.agg #[vi d.n,.slice Ad md cd,.slice Bd d.ws.length dd,vi d.t,vi d.r],vi p] w0 (fun v w=>∃ A c B e,v=.tuple #[.agg #[vi (if (loC d p)=true then loD d p else d).n,.slice A md c,.slice B (if (loC d p)=true then loD d p else d).ws.length e,vi (if (loC d p)=true then loD d p else d).t,vi (if (loC d p)=true then loD d p else d).r],.bool (loC d p)]/\Rd w w.heap.size 76 encNd A (if (loC d p)=true then loD d p else d).ns/\Rd w w.heap.size 84 encWr B (if (loC d p)=true then loD d p else d).ws/\(if (loC d p)=true then loD d p else d).ws.length<=e/\md=(if (loC d p)=true then loD d p else d).ns.length/\Below w0.heap.size w0 w):=by
 have aZ:=hD.len;have b0:=hD.m;have b1:=X1s d.ws p;refine enter Tryz.func211 rfl 37 rfl rfl ?_;intro a C
 have i:=bz w0
 refine Zs C fun _ aO=>?_;refine Zf (X0q (zs:=[vi d.n,.slice Ad md cd,.slice Bd d.ws.length dd,vi d.t,vi d.r]) rfl rfl) ?_;rintro _ w1 ⟨b4,rfl,aP,z,o⟩;have aX:=Q0 i.size aP;have i:=btr i z;refine Zf (Xw (zs:=[vi 0,.slice none 0 0,.slice none 0 0,vi 0,vi 0]) X0e rfl) ?_;rintro _ w2 ⟨b7,rfl,aQ,z,j⟩
 have aN:b4≠b7:=by have:=o.lt;omega
 have a8:=Q0 i.size aQ;have o:=o.bw z;have i:=btr i z;refine Za rfl<|ZX aO fun a C _ aR=>?_;refine Q5 fun _ aS=>?_;refine X06 (fun a w=>Fr a 37 [(1,vi p),(2,(pZ9 b4)),(4,(pZ9 b7)),(26,.bool (((!(spI d.ns p))||(((d.ns.getD p.toNat nZ).p) != 0))||(decide (0<((nearW d.ws p).length:Int)))))]/\Below w2.heap.size w2 w) ?_ ?_
 ·have G:Below w2.heap.size w2 w2:=Below.refl _ _
  refine Zr C<|Ze (Vn X2 o)<|Zm rfl<|Zf (Vc (X4g _ d md h Ad cd (D.bx i).top Bd dd (I.bx i).top J p (by rw [h];exact hD.m)) X2h) ?_;rintro _ w3 ⟨rfl,z⟩;have o:=o.bw z;have i:=btr i z;have G:=btr G z;refine Ze (X0z rfl)<|Zm rfl ?_
  refine Zg 11 rfl (fun b=>?_) (fun b=>?_)
  ·(iterate 7 refine Zp (gP b) ?_);refine Ze (X5 rfl b rfl)<|Zm rfl<|Zp (gP rfl) ?_;(iterate 4 refine Zp (gP rfl) ?_);refine Ze (X5 rfl rfl rfl) ?_;refine Zn fun a C=>?_
   have U:Below w2.heap.size w2 w3:=G
   exact ⟨C.sub ⟨rfl,rfl,rfl,X1 rfl (by first|rfl|(simp only [b,bs];done)|simp [b]),trivial⟩,U⟩
  have aC:0<=p/\p.toNat<d.ns.length:=by have h9:=X0s (ns:=d.ns) (k:=p) (by simpa using b);exact ⟨h9.1,h9.2.1⟩
  refine Zv (gW b) (Vd rfl Xc 1) ?_;refine Zv (gW b) (X0 rfl Xv (o.at 1)) ?_;refine Zv (gW b) (X3 rfl) ?_;refine Zj (k:=p.toNat) (u:=(d.ns.getD p.toNat nZ)) (enc:=encNd) (l:=d.ns) ⟨_,_,rfl,rfl,b⟩ rfl h rfl Xm X05 Xt (D.bx i) (Xg aC.2) (by omega) ?_;intro b2 aD;refine Zv (gW b) (X1y rfl X04) ?_;refine Zv (gW b) (X0 rfl Xa (aD.drop 1)) ?_;refine Zv (gW b) (X1c rfl rfl) ?_;refine Ze (X9 rfl b rfl)<|Zm rfl ?_
  refine Zg 20 rfl (fun f=>?_) (fun f=>?_)
  ·(iterate 5 refine Zp (gP f) ?_);refine Ze (X5 rfl f rfl) ?_;refine Zn fun a C=>?_
   have U:Below w2.heap.size w2 w3:=G
   exact ⟨C.sub ⟨rfl,rfl,rfl,X1 rfl (by first|rfl|(simp only [b,f,bs];done)|simp [b,f]),trivial⟩,U⟩
  refine Zv (gW f) (Vn X2 o) ?_;refine Zv (gW f) (X3 rfl) ?_;refine Zk (gW f) (Vc (X7r _ d md h Ad cd (D.bx i).top Bd dd (I.bx i).top J p hD.w (by omega)) X47) ?_;rintro _ w4 ⟨b3,b5,rfl,aA,z⟩;have aA:=aA.lower i.size;have i:=btr i z;have G:=btr G z;refine Zv (gW f) (X07 rfl Xk) ?_;refine Zv (gW f) (X2o rfl rfl) ?_;refine Ze (X9 rfl f rfl) ?_;refine Zn fun a C=>?_
  have U:Below w2.heap.size w2 w4:=G
  exact ⟨C.sub ⟨rfl,rfl,rfl,X1 rfl (by first|rfl|(simp only [b,f,bs];done)|simp [b,f]),trivial⟩,U⟩
 rintro a w5 ⟨C,z⟩;have o:=o.bw z;have j:=j.bw z;have i:=btr i z;refine aS _ _ ?_
 refine Xf C rfl (fun E=>?_) (fun E=>?_)
 ·have aE:=E;have aT:=Xm6 E;refine Zs C fun _ aF=>?_;refine Ze (Vn X2 o)<|Zo (Vw [vi d.n,.slice Ad md cd,.slice Bd d.ws.length dd,vi d.t,vi d.r] Xd j) ?_;rintro _ w6 ⟨H,hb⟩;have q:=j;have i:=Below.oy i H a8;have j:=hb;refine Za rfl<|Zt aF fun a C=>?_;refine Q6<|X8<|X6 C (X1h C rfl (ResV.cellN (l:=[vi d.n,.slice Ad md cd,.slice Bd d.ws.length dd,vi d.t,vi d.r]) rfl X2 (j.at 0) rfl) rfl) ?_
  rw [aT,Q3 Bool.false_ne_true]
  exact ⟨Ad,cd,Bd,dd,rfl,(D.bx i).top,(I.bx i).top,J,h,i⟩
 have aE:=E;obtain ⟨aU,aC⟩:=Xeh E;refine Q7<|aR _ _<|Zs C fun _ aG=>?_;refine Ze (Vn X2 o)<|Zf (Vc (X7j _ d md h Ad cd (D.bx i).top Bd dd (I.bx i).top J ⟨by omega,by omega⟩) X45) ?_;rintro _ w7 ⟨N,Q,aV,aW,rfl,g,L,z⟩;have g:=g.lower i.size;have L:=L.lower i.size;have o:=o.bw z;have j:=j.bw z;have i:=btr i z;refine Zm rfl<|Zf (Vc (X7p _ d d.ns.length rfl N Q _ g i.size aV aW L.rd.top L.cap p aC (by omega)) X4d) ?_;rintro _ w8 ⟨W,a6,rfl,aB,x,aH,aY,hg⟩;have M:=g;have o:=o.appT M hg rfl;have j:=j.appT M hg rfl;have i:=Below.app i M hg (Qb _) i.size
 clear M hg;clear g;have g:=aB;clear aB;refine Zf (Xw (zs:=[vi 0,.slice none 0 0,.slice none 0 0,vi 0,vi 0]) X0e rfl) ?_;rintro _ w9 ⟨b23,rfl,aI,z,y⟩
 have aJ:b4≠b23:=by have:=o.lt;omega
 have aK:b7≠b23:=by have:=j.lt;omega
 have a7:=Q0 i.size aI;have j:=j.bw z;have g:=g.bw z;have x:=x.bw z;have i:=btr i z;refine Zo (Vw [vi (({ d with ns:=dpN d.ns p,ws:=dpW d.ws p } : Dg).n),.slice N d.ns.length Q,.slice W (({ d with ns:=dpN d.ns p,ws:=dpW d.ws p } : Dg).ws).length a6,vi (({ d with ns:=dpN d.ns p,ws:=dpW d.ws p } : Dg).t),vi (({ d with ns:=dpN d.ns p,ws:=dpW d.ws p } : Dg).r)] Xd y) ?_;rintro _ b6 ⟨H,hb⟩;have q:=y;have j:=j.oy H (by omega);have g:=g.oT H q rfl;have x:=x.oT H q rfl;have i:=Below.oy i H a7;have y:=hb;refine Zx aG fun a C _ aL=>?_;refine Ze (Vd rfl Xy 4)<|Ze (X0 rfl Xa (y.at 4))<|Ze (X3h rfl rfl)<|Ze (Vd rfl Xy 4)<|Zo (Vu (vs:=[vi (wr ((({ d with ns:=dpN d.ns p,ws:=dpW d.ws p } : Dg).r)+2))]) (l':=[vi (({ d with ns:=dpN d.ns p,ws:=dpW d.ws p } : Dg).n),.slice N d.ns.length Q,.slice W (({ d with ns:=dpN d.ns p,ws:=dpW d.ws p } : Dg).ws).length a6,vi (({ d with ns:=dpN d.ns p,ws:=dpW d.ws p } : Dg).t),vi (wr ((({ d with ns:=dpN d.ns p,ws:=dpW d.ws p } : Dg).r)+2))]) rfl rfl X0a y) ?_;rintro _ b8 ⟨H,hb⟩;have q:=y;have j:=j.oy H (by omega);have g:=g.oT H q rfl;have x:=x.oT H q rfl;have i:=Below.oy i H a7;have y:=hb;refine Zx aL fun a C _ aM=>?_;refine Ze (Vn X2 y)<|Zo (Vw [vi (({ d with ns:=dpN d.ns p,ws:=dpW d.ws p } : Dg).n),.slice N d.ns.length Q,.slice W (({ d with ns:=dpN d.ns p,ws:=dpW d.ws p } : Dg).ws).length a6,vi (({ d with ns:=dpN d.ns p,ws:=dpW d.ws p } : Dg).t),vi (wr ((({ d with ns:=dpN d.ns p,ws:=dpW d.ws p } : Dg).r)+2))] Xd j) ?_;rintro _ b9 ⟨H,hb⟩
 have q:=j;have g:=g.oT H q rfl;have x:=x.oT H q rfl;have i:=Below.oy i H a8;have j:=hb;refine Za rfl<|Zt aM fun a C=>?_
 refine Q6 (X6 C (X1h C rfl (ResV.cellN (l:=[vi (({ d with ns:=dpN d.ns p,ws:=dpW d.ws p } : Dg).n),.slice N d.ns.length Q,.slice W (({ d with ns:=dpN d.ns p,ws:=dpW d.ws p } : Dg).ws).length a6,vi (({ d with ns:=dpN d.ns p,ws:=dpW d.ws p } : Dg).t),vi (wr ((({ d with ns:=dpN d.ns p,ws:=dpW d.ws p } : Dg).r)+2))]) rfl X2 (j.at 0) rfl) rfl) ?_)
 rw [aU,Q4 rfl,h]
 exact ⟨N,Q,W,a6,rfl,g.rd.top,x.top,aH,(X1k _ _).symm,i⟩
theorem Xq9(w0:World)(d:Dg)(md:Nat)(J:md=d.ns.length)(Ad:Option Addr)(cd:Nat)(M:Rd w0 w0.heap.size 76 encNd Ad d.ns)(Bd:Option Addr)(dd:Nat)(a8:Rd w0 w0.heap.size 84 encWr Bd d.ws)(G:d.ws.length<=dd)(p:Int)(hD:InD d) : Ret Tryz.prog 210 [.agg #[vi d.n,.slice Ad md cd,.slice Bd d.ws.length dd,vi d.t,vi d.r],vi p] w0 (fun v w=>∃ A c B e,v=.tuple #[.agg #[vi (if (lcC d p)=true then lcD d p else d).n,.slice A md c,.slice B (if (lcC d p)=true then lcD d p else d).ws.length e,vi (if (lcC d p)=true then lcD d p else d).t,vi (if (lcC d p)=true then lcD d p else d).r],.bool (lcC d p)]/\Rd w w.heap.size 76 encNd A (if (lcC d p)=true then lcD d p else d).ns/\Rd w w.heap.size 84 encWr B (if (lcC d p)=true then lcD d p else d).ws/\(if (lcC d p)=true then lcD d p else d).ws.length<=e/\md=(if (lcC d p)=true then lcD d p else d).ns.length/\Below w0.heap.size w0 w):=by
 have dJ:=hD.len;have dK:=hD.m;have dL:=X1s d.ws p;have dC:=X2q hD p;have dM:=X1l hD.p p.toNat;refine enter Tryz.func210 rfl 95 rfl rfl ?_;intro a h
 have i:=bz w0
 refine Zs h fun _ cU=>?_;refine Zf (X0q (zs:=[vi d.n,.slice Ad md cd,.slice Bd d.ws.length dd,vi d.t,vi d.r]) rfl rfl) ?_;rintro _ w1 ⟨b4,rfl,cV,H,y⟩;have dD:=Q0 i.size cV;have i:=btr i H;refine Zf (Xw (zs:=[vi 0,.slice none 0 0,.slice none 0 0,vi 0,vi 0]) X0e rfl) ?_;rintro _ w2 ⟨b7,rfl,cW,H,g⟩
 have cT:b4≠b7:=by have:=y.lt;omega
 have aQ:=Q0 i.size cW;have y:=y.bw H;have i:=btr i H;refine Za rfl<|ZX cU fun a h _ cX=>?_;refine Q5 fun _ cY=>?_;refine X06 (fun a w=>Fr a 95 [(1,vi p),(2,(pZ9 b4)),(4,(pZ9 b7)),(26,.bool ((!(spI d.ns p))||((((d.ns.getD p.toNat nZ).p).tmod 4) != 2)))]/\Below w2.heap.size w2 w) ?_ ?_
 ·have aA:Below w2.heap.size w2 w2:=Below.refl _ _
  refine Zr h<|Ze (Vn X2 y)<|Zm rfl<|Zf (Vc (X4g _ d md J Ad cd (M.bx i).top Bd dd (a8.bx i).top G p (by rw [J];exact hD.m)) X2h) ?_;rintro _ w3 ⟨rfl,H⟩;have y:=y.bw H;have i:=btr i H;have aA:=btr aA H;refine Ze (X0z rfl)<|Zm rfl ?_
  refine Zg 17 rfl (fun q=>?_) (fun q=>?_)
  ·(iterate 8 refine Zp (gP q) ?_);refine Ze (X5 rfl q rfl) ?_;refine Zn fun a h=>?_
   have aM:Below w2.heap.size w2 w3:=aA
   exact ⟨h.sub ⟨rfl,rfl,rfl,X1 rfl (by first|rfl|(simp only [q,bs];done)|simp [q]),trivial⟩,aM⟩
  have aV:0<=p/\p.toNat<d.ns.length:=by have h9:=X0s (ns:=d.ns) (k:=p) (by simpa using q);exact ⟨h9.1,h9.2.1⟩
  refine Zv (gW q) (Vd rfl Xc 1) ?_;refine Zv (gW q) (X0 rfl Xv (y.at 1)) ?_;refine Zv (gW q) (X3 rfl) ?_;refine Zj (k:=p.toNat) (u:=(d.ns.getD p.toNat nZ)) (enc:=encNd) (l:=d.ns) ⟨_,_,rfl,rfl,q⟩ rfl J rfl Xm X05 Xt (M.bx i) (Xg aV.2) (by omega) ?_;intro dN aY;refine Zv (gW q) (X1y rfl X04) ?_;refine Zv (gW q) (X0 rfl Xa (aY.drop 1)) ?_;refine Zv (gW q) (X3q rfl rfl rfl) ?_;refine Zv (gW q) (X1c rfl rfl) ?_;refine Ze (X9 rfl q rfl) ?_;refine Zn fun a h=>?_
  have aM:Below w2.heap.size w2 w3:=aA
  exact ⟨h.sub ⟨rfl,rfl,rfl,X1 rfl (by first|rfl|(simp only [q,bs];done)|simp [q]),trivial⟩,aM⟩
 rintro a w4 ⟨h,H⟩;have y:=y.bw H;have g:=g.bw H;have i:=btr i H;refine cY _ _ ?_
 refine Xf h rfl (fun aJ=>?_) (fun aJ=>?_)
 ·have aB:=aJ;have aZ:=Xeu hD aJ;refine Zs h fun _ bE=>?_;refine Ze (Vn X2 y)<|Zo (Vw [vi d.n,.slice Ad md cd,.slice Bd d.ws.length dd,vi d.t,vi d.r] Xd g) ?_;rintro _ w5 ⟨I,hb⟩;have x:=g;have i:=Below.oy i I aQ;have g:=hb;refine Za rfl<|Zt bE fun a h=>?_;refine Q6<|X8<|X6 h (X1h h rfl (ResV.cellN (l:=[vi d.n,.slice Ad md cd,.slice Bd d.ws.length dd,vi d.t,vi d.r]) rfl X2 (g.at 0) rfl) rfl) ?_
  rw [aZ,Q3 Bool.false_ne_true]
  exact ⟨Ad,cd,Bd,dd,rfl,(M.bx i).top,(a8.bx i).top,G,J,i⟩
 have aB:=aJ;have aW:=Xbu hD aJ
 have aV:0<=p/\p.toNat<d.ns.length:=⟨(X0s aW.1).1,(X0s aW.1).2.1⟩
 refine Q7<|cX _ _<|Zs h fun _ bF=>?_;refine Ze (Vn X2 y)<|Zm rfl<|Zf (Vc (X7r _ d md J Ad cd (M.bx i).top Bd dd (a8.bx i).top G p hD.w (by omega)) X47) ?_;rintro _ w6 ⟨aF,aG,rfl,b,H⟩;have b:=b.lower i.size;have y:=y.bw H;have g:=g.bw H;have i:=btr i H;refine Za rfl<|ZX bF fun a h _ bG=>?_;refine Q5 fun _ bH=>?_;refine X06 (fun a w=>Fr a 95 [(1,vi p),(2,(pZ9 b4)),(4,(pZ9 b7)),(6,.slice aF (nearW d.ws p).length aG),(40,.bool ((!(hadD d p))||(!(rdyD d (nearW d.ws p)))))]/\Below w6.heap.size w6 w) ?_ ?_
 ·have aA:Below w6.heap.size w6 w6:=Below.refl _ _
  refine Zr h<|Ze (Vn X2 y)<|Zm rfl<|Zf (Vc (Xf4 _ d md J Ad cd (M.bx i).top Bd dd (a8.bx i).top G p hD.w (by omega)) X8y) ?_;rintro _ w7 ⟨rfl,H⟩;have y:=y.bw H;have b:=b.bw H;have i:=btr i H;have aA:=btr aA H;refine Ze (X0z rfl)<|Zm rfl ?_
  refine Zg 35 rfl (fun D=>?_) (fun D=>?_)
  ·(iterate 4 refine Zp (gP D) ?_);refine Ze (X5 rfl D rfl) ?_;refine Zn fun a h=>?_
   have aM:Below w6.heap.size w6 w7:=aA
   exact ⟨h.sub ⟨rfl,rfl,rfl,rfl,X1 rfl (by first|rfl|(simp only [aB,D,bs];done)|simp [aB,D]),trivial⟩,aM⟩
  refine Zv (gW D) (Vn X2 y) ?_;refine Zv (gW D) (X3 rfl) ?_;refine Zk (gW D) (Vc (Xlp _ d md J Ad cd (M.bx i).top Bd dd (a8.bx i).top G aF aG (nearW d.ws p) b.rd.top (by omega) (by omega) (by omega) b.cap) Xbg) ?_;rintro _ w8 ⟨rfl,H⟩;have i:=btr i H;have aA:=btr aA H;refine Zv (gW D) (X0z rfl) ?_;refine Ze (X9 rfl D rfl) ?_;refine Zn fun a h=>?_
  have aM:Below w6.heap.size w6 w8:=aA
  exact ⟨h.sub ⟨rfl,rfl,rfl,rfl,X1 rfl (by first|rfl|(simp only [aB,D,bs];done)|simp [aB,D]),trivial⟩,aM⟩
 rintro a w9 ⟨h,H⟩;have y:=y.bw H;have g:=g.bw H;have b:=b.bw H;have i:=btr i H;refine bH _ _ ?_
 refine Xf h rfl (fun aK=>?_) (fun aK=>?_)
 ·have b0:=aK;have aZ:=Xnm aK;refine Zs h fun _ bI=>?_;refine Ze (Vn X2 y)<|Zo (Vw [vi d.n,.slice Ad md cd,.slice Bd d.ws.length dd,vi d.t,vi d.r] Xd g) ?_;rintro _ dO ⟨I,hb⟩;have x:=g;have i:=Below.oy i I aQ;have g:=hb;refine Za rfl<|Zt bI fun a h=>?_;refine Q6<|X8<|X6 h (X1h h rfl (ResV.cellN (l:=[vi d.n,.slice Ad md cd,.slice Bd d.ws.length dd,vi d.t,vi d.r]) rfl X2 (g.at 0) rfl) rfl) ?_
  rw [aZ,Q3 Bool.false_ne_true]
  exact ⟨Ad,cd,Bd,dd,rfl,(M.bx i).top,(a8.bx i).top,G,J,i⟩
 have b0:=aK;have cZ:=Xbl aW aK;refine Q7<|bG _ _<|Zs h fun _ bJ=>?_;refine Ze (Vn X2 y)<|Zf (Vc (X7j _ d md J Ad cd (M.bx i).top Bd dd (a8.bx i).top G ⟨by omega,by omega⟩) X45) ?_;rintro _ dP ⟨b1,b2,d5,d6,rfl,L,aP,H⟩;have L:=L.lower i.size;have aP:=aP.lower i.size;have y:=y.bw H;have g:=g.bw H;have b:=b.bw H;have i:=btr i H;refine Zm rfl<|Zf (Vc (X7p _ d d.ns.length rfl b1 b2 _ L i.size d5 d6 aP.rd.top aP.cap p aV (by omega)) X4d) ?_;rintro _ dQ ⟨bK,bL,rfl,U,aL,bM,dE,hg⟩;have C:=L;have y:=y.appT C hg rfl;have g:=g.appT C hg rfl;have b:=b.appT C hg rfl;have i:=Below.app i C hg (Qb _) i.size
 clear C hg;clear L;have L:=U;clear U;refine Zf (Xw (zs:=[vi 0,.slice none 0 0,.slice none 0 0,vi 0,vi 0]) X0e rfl) ?_;rintro _ dR ⟨b28,rfl,bN,H,f⟩
 have bO:b4≠b28:=by have:=y.lt;omega
 have bP:b7≠b28:=by have:=g.lt;omega
 have aC:=Q0 i.size bN;have y:=y.bw H;have g:=g.bw H;have b:=b.bw H;have L:=L.bw H;have aL:=aL.bw H;have i:=btr i H;refine Zo (Vw [vi (({ d with ns:=dpN d.ns p,ws:=dpW d.ws p } : Dg).n),.slice b1 d.ns.length b2,.slice bK (({ d with ns:=dpN d.ns p,ws:=dpW d.ws p } : Dg).ws).length bL,vi (({ d with ns:=dpN d.ns p,ws:=dpW d.ws p } : Dg).t),vi (({ d with ns:=dpN d.ns p,ws:=dpW d.ws p } : Dg).r)] Xd f) ?_;rintro _ dS ⟨I,hb⟩;have x:=f;have y:=y.oy I (by omega);have g:=g.oy I (by omega);have b:=b.oT I x rfl;have L:=L.oT I x rfl;have aL:=aL.oT I x rfl;have i:=Below.oy i I aC;have f:=hb;refine Zx bJ fun a h _ bQ=>?_;refine Ze (Vd rfl Xc 1)<|Ze (X0 rfl Xv (y.at 1))<|Zm rfl<|Zj (k:=p.toNat) (u:=(d.ns.getD p.toNat nZ)) (enc:=encNd) (l:=d.ns) tv0 rfl J rfl Xm X05 Xt (M.bx i) (Xg aV.2) (by omega) ?_;intro dT b3;refine Ze (X1y rfl X04)<|Ze (X0 rfl Xa (b3.drop 1))<|Za rfl<|ZX bQ fun a h _ bR=>?_;refine Zs h fun _ bS=>?_;refine Zm rfl<|Ze (X07 rfl Xk)<|Zm rfl<|Zt bS fun a h=>?_;refine Q8<|X02 (σ:=Nat×Dg) (fun (s:Nat×Dg) (a:Act) (w:World)=>match s with|(k,o)=>∃ aD aE aH aI,Fr a 95 [(4,(pZ9 b7)),(6,.slice aF (nearW d.ws p).length aG),(7,(pZ9 b28)),(8,vi ((d.ns.getD p.toNat nZ).p)),(52,.slice aF (nearW d.ws p).length aG),(53,vi ((nearW d.ws p).length:Int)),(54,vi (k:Int))]/\(k<=(nearW d.ws p).length)/\(o=lcS (d.ns.getD p.toNat nZ).p (nearW d.ws p) (id0 d p) k)/\(d.ns.length=o.ns.length)/\(o.ws.length<=d.ws.length+k*1000)/\(PhN o.ns)/\Blk w b7 31 [vi 0,.slice none 0 0,.slice none 0 0,vi 0,vi 0]/\Blk w b28 31 [vi o.n,.slice aD d.ns.length aE,.slice aH o.ws.length aI,vi o.t,vi o.r]/\Own w w0.heap.size 3 1 encI aF aG (nearW d.ws p)/\Own w w0.heap.size 76 2 encNd aD aE o.ns/\Rd w w.heap.size 84 encWr aH o.ws/\d.ws.length<=dd/\o.ws.length<=aI/\Below w0.heap.size w0 w) (fun (s:Nat×Dg)=>match s with|(k,o)=>(nearW d.ws p).length-k) (0,(id0 d p)) ?_ ?_
 ·exact ⟨b1,b2,bK,bL,h.sb,(Qf _),rfl,(X1k _ _).symm,(Q0 (X1v _ _) (by omega)),(X3r hD.p p),g,f,b,L,aL.top,G,bM,i⟩
 rintro ⟨k,o⟩ a dU ⟨aD,aE,aH,aI,h,hk,bT,b5,d7,bU,g,f,b,E,W,G,bW,i⟩;refine Zs h fun _ bX=>?_;refine Ze (X0i rfl rfl)<|ZX bX fun a h _ bY=>?_
 refine Xf h rfl (fun N=>?_) (fun N=>?_)
 ·have b6:=N;have N:=Q2 N
  obtain ⟨dV,dF⟩:=X4 (l:=(nearW d.ws p)) (k:=k) (by omega)
  obtain ⟨u9,b8⟩:=X4 (l:=(nearW d.ws p)) (k:=k) (by have:=N;omega)
  have d8:=X4z hD b8;have dW:=X1l bU u9.toNat;refine Q7<|bY _ _<|Q5 fun _ bZ=>?_;refine Q8<|Zs h fun _ cA=>?_;refine Zm rfl<|Zi (k:=k) (u:=u9) (enc:=encI) (l:=(nearW d.ws p)) tv0 rfl rfl Xk X0a Xh b.rd b8 rfl ?_;intro dX b9;refine Ze (X0 rfl Xa b9)<|Za rfl<|Za rfl<|Zx cA fun a h _ cB=>?_;refine Ze (Vn X2 f)<|Zm rfl<|Zm rfl<|Ze (X1d rfl rfl (by omega) (by omega))<|Zf (Vc (X7m _ o d.ns.length b5 aD aE _ E i.size aH aI W.top bW u9 (8-((d.ns.getD p.toNat nZ).p)) ⟨d8.1,by omega⟩ ⟨by omega,by omega⟩) X4c) ?_;rintro _ dY ⟨cC,cD,rfl,U,aR,cE,dG,hg⟩;have C:=E;have g:=g.appT C hg rfl;have f:=f.appT C hg rfl;have b:=b.appT C hg rfl;have i:=Below.app i C hg (Qb _) i.size
  clear C hg;clear E;have E:=U;clear U;refine Zo (Vw [vi (({ o with ns:=adN o.ns u9 (8-((d.ns.getD p.toNat nZ).p)) } : Dg).n),.slice aD d.ns.length aE,.slice cC (({ o with ns:=adN o.ns u9 (8-((d.ns.getD p.toNat nZ).p)) } : Dg).ws).length cD,vi (({ o with ns:=adN o.ns u9 (8-((d.ns.getD p.toNat nZ).p)) } : Dg).t),vi (({ o with ns:=adN o.ns u9 (8-((d.ns.getD p.toNat nZ).p)) } : Dg).r)] Xd f) ?_;rintro _ d9 ⟨I,hb⟩;have x:=f;have g:=g.oy I (by omega);have b:=b.oT I x rfl;have E:=E.oT I x rfl;have aR:=aR.oT I x rfl;have i:=Below.oy i I aC;have f:=hb;refine Zx cB fun a h _ cF=>?_;refine Zm rfl<|Zm rfl ?_;have a6:=(b.rd.top).takeK Xh k;refine Ze (X2d (l:=(nearW d.ws p)) (k:=k) rfl rfl Xk X0a rfl hk b.cap)<|Ze (X07 rfl Xk)<|Zm rfl<|Zt cF fun a h=>?_;refine Q8<|X02 (σ:=Nat×Dg) (fun (s:Nat×Dg) (a:Act) (w:World)=>match s with|(j,z)=>∃ aN aO aS aT,Fr a 95 [(4,(pZ9 b7)),(6,.slice aF (nearW d.ws p).length aG),(7,(pZ9 b28)),(8,vi ((d.ns.getD p.toNat nZ).p)),(10,vi u9),(52,.slice aF (nearW d.ws p).length aG),(53,vi ((nearW d.ws p).length:Int)),(54,vi (k:Int)),(66,.slice aF ((nearW d.ws p).take k).length aG),(67,vi (((nearW d.ws p).take k).length:Int)),(68,vi (j:Int))]/\(j<=((nearW d.ws p).take k).length)/\(z=tgL ({ o with ns:=adN o.ns u9 (8-(d.ns.getD p.toNat nZ).p) } : Dg) u9 (((nearW d.ws p).take k).take j))/\(d.ns.length=z.ns.length)/\(z.ws.length<=o.ws.length+j)/\(PhN z.ns)/\Blk w b7 31 [vi 0,.slice none 0 0,.slice none 0 0,vi 0,vi 0]/\Blk w b28 31 [vi z.n,.slice aN d.ns.length aO,.slice aS z.ws.length aT,vi z.t,vi z.r]/\Own w w0.heap.size 3 1 encI aF aG (nearW d.ws p)/\Rd w d9.heap.size 3 encI aF ((nearW d.ws p).take k)/\Own w w0.heap.size 76 2 encNd aN aO z.ns/\Rd w w.heap.size 84 encWr aS z.ws/\d.ws.length<=dd/\z.ws.length<=aT/\Below w0.heap.size w0 w) (fun (s:Nat×Dg)=>match s with|(j,z)=>((nearW d.ws p).take k).length-j) (0,({ o with ns:=adN o.ns u9 (8-(d.ns.getD p.toNat nZ).p) } : Dg)) ?_ ?_
  ·exact ⟨aD,aE,cC,cD,h.sb,(Qf _),rfl,(b5.trans (X1m _ _ _).symm),(Qb _),(X4l bU _ _),g,f,b,a6,E,aR.top,G,cE,i⟩
  rintro ⟨j,z⟩ a dZ ⟨aN,aO,aS,aT,h,hj,hz,bA,dA,cG,g,f,b,a6,a7,aX,G,cH,i⟩;refine Zs h fun _ cI=>?_;refine Ze (X0i rfl rfl)<|ZX cI fun a h _ cJ=>?_
  refine Xf h rfl (fun Q=>?_) (fun Q=>?_)
  ·have bB:=Q;have Q:=Q2 Q
   obtain ⟨e8,dH⟩:=X4 (l:=((nearW d.ws p).take k)) (k:=j) (by omega)
   obtain ⟨v9,bC⟩:=X4 (l:=(nearW d.ws p).take k) (k:=j) (by have:=Q;omega)
   have e9:j<k:=by have:=(Qg.1 bC).1;rw [Qn] at this;omega
   refine Q7<|cJ _ _<|Q5 fun _ cK=>?_;refine Q8<|Zs h fun _ cL=>?_;refine Zi (k:=j) (u:=v9) (enc:=encI) (l:=((nearW d.ws p).take k)) tv0 rfl rfl Xk X0a Xh a6 bC rfl ?_;intro eA bD;refine Ze (X0 rfl Xa bD)<|Za rfl<|Zt cL fun a h=>?_;refine Zr h<|Ze (Vn X2 f)<|Zm rfl<|Zm rfl<|Zf (Vc (Xm1 _ z d.ns.length bA aN aO _ a7 i.size aS aT aX.top cH u9 v9 (by have:=dA;have:=d7;rw [Qn] at hj;omega)) Xdp) ?_;rintro _ eB ⟨cM,cN,rfl,U,aU,cO,dI,hg⟩;have C:=a7;have g:=g.appT C hg rfl;have f:=f.appT C hg rfl;have b:=b.appT C hg rfl;have a6:=a6.appT C hg rfl;have i:=Below.app i C hg (Qb _) i.size
   clear C hg;clear a7;have a7:=U;clear U;refine Zo (Vw [vi ((tgD z u9 v9).n),.slice aN d.ns.length aO,.slice cM ((tgD z u9 v9).ws).length cN,vi ((tgD z u9 v9).t),vi ((tgD z u9 v9).r)] Xd f) ?_;rintro _ eC ⟨I,hb⟩;have x:=f;have g:=g.oy I (by omega);have b:=b.oT I x rfl;have a6:=a6.oT I x rfl;have a7:=a7.oT I x rfl;have aU:=aU.oT I x rfl;have i:=Below.oy i I aC;have f:=hb;refine Zn fun a h=>?_;refine Xb<|cK _ _<|Zr h<|Ze (Xr rfl rfl (by omega) (by omega))<|Zm rfl ?_;refine Zn fun a h=>?_;refine Xe ?_;exact ⟨(j+1,(tgD z u9 v9)),⟨aN,aO,cM,cN,h.sb,(by omega),(by rw [Xfn bC,<- hz]),(by rw [(X28 z u9 v9).1];exact bA),(by have:=(X28 z u9 v9).2;omega),(by rw [(X28 z u9 v9).1];exact cG),g,f,b,a6,a7,aU.top,G,cO,i⟩,(by first|omega|(dsimp only;omega))⟩
  have bB:=Q;have Q:=Q1 Q
  have dB:z=lcS (d.ns.getD p.toNat nZ).p (nearW d.ws p) (id0 d p) (k+1):=by rw [hz,Qi (by have:=Q;omega),bT,Xfp b8]
  have eD:j<=k:=by rw [Qn] at hj;omega
  refine Q9<|Xl<|Xl<|X01 ?_;refine Xb<|bZ _ _<|Zr h<|Ze (Xr rfl rfl (by omega) (by omega))<|Zm rfl ?_;refine Zn fun a h=>?_;refine Xe ?_;exact ⟨(k+1,z),⟨aN,aO,aS,aT,h.sb,(by omega),dB,bA,(by omega),cG,g,f,b,a7,aX.top,G,cH,i⟩,(by first|omega|(dsimp only;omega))⟩
 have b6:=N;have N:=Q1 N
 have cP:o=lcS (d.ns.getD p.toNat nZ).p (nearW d.ws p) (id0 d p) (nearW d.ws p).length:=by rw [bT];congr 1;have:=N;omega
 refine Q9<|Xl<|Xl<|X01 ?_;refine bR _ _<|Zs h fun _ cQ=>?_;refine Ze (Vd rfl X0l 3)<|Ze (X0 rfl Xa (f.at 3))<|Zm rfl<|Ze (X1d rfl rfl (by omega) (by omega))<|Ze (Xo4 rfl rfl rfl)<|Ze (Xvk rfl rfl)<|Ze (Vx (X3h rfl rfl) (Xhp aW.2))<|Ze (X3h rfl rfl)<|Ze (Vd rfl X0l 3)<|Zo (Vu (vs:=[vi (wr (o.t+(if (d.ns.getD p.toNat nZ).p=2 then 1 else 7)))]) (l':=[vi o.n,.slice aD d.ns.length aE,.slice aH o.ws.length aI,vi (wr (o.t+(if (d.ns.getD p.toNat nZ).p=2 then 1 else 7))),vi o.r]) rfl rfl X0a f) ?_;rintro _ eE ⟨I,hb⟩;have x:=f;have g:=g.oy I (by omega);have E:=E.oT I x rfl;have W:=W.oT I x rfl;have i:=Below.oy i I aC;have f:=hb;refine Zx cQ fun a h _ cR=>?_;refine Ze (Vd rfl Xy 4)<|Ze (X0 rfl Xa (f.at 4))<|Zm rfl<|Ze (X07 rfl Xk)<|Ze (X1d rfl rfl (by omega) (by omega))<|Ze (X3h rfl rfl)<|Ze (Vd rfl Xy 4)<|Zo (Vu (vs:=[vi (wr (o.r+(1-((nearW d.ws p).length:Int))))]) (l':=[vi o.n,.slice aD d.ns.length aE,.slice aH o.ws.length aI,vi (wr (o.t+(if (d.ns.getD p.toNat nZ).p=2 then 1 else 7))),vi (wr (o.r+(1-((nearW d.ws p).length:Int))))]) rfl rfl X0a f) ?_;rintro _ eF ⟨I,hb⟩;have x:=f;have g:=g.oy I (by omega);have E:=E.oT I x rfl;have W:=W.oT I x rfl;have i:=Below.oy i I aC;have f:=hb;refine Zx cR fun a h _ cS=>?_;refine Ze (Vn X2 f)<|Zo (Vw [vi o.n,.slice aD d.ns.length aE,.slice aH o.ws.length aI,vi (wr (o.t+(if (d.ns.getD p.toNat nZ).p=2 then 1 else 7))),vi (wr (o.r+(1-((nearW d.ws p).length:Int))))] Xd g) ?_;rintro _ eG ⟨I,hb⟩;have x:=g;have E:=E.oT I x rfl
 have W:=W.oT I x rfl;have i:=Below.oy i I aQ;have g:=hb;refine Za rfl<|Zt cS fun a h=>?_
 refine Q6 (X6 h (X1h h rfl (ResV.cellN (l:=[vi o.n,.slice aD d.ns.length aE,.slice aH o.ws.length aI,vi (wr (o.t+(if (d.ns.getD p.toNat nZ).p=2 then 1 else 7))),vi (wr (o.r+(1-((nearW d.ws p).length:Int))))]) rfl X2 (g.at 0) rfl) rfl) ?_)
 rw [cZ,Q4 rfl,Xgn cP,J]
 exact ⟨aD,aE,aH,aI,rfl,E.rd.top,W.top,bW,b5,i⟩
def pvL(d:Dg)(a b:Int) : List Int:=(othW d.ws b a).foldl putI (othW d.ws a b)
def pvC(d:Dg)(a b:Int) : Bool:=spI d.ns a&&spI d.ns b&&decide (a<b)&&(d.ns.getD a.toNat nZ).p % 4==0&&(d.ns.getD b.toNat nZ).p % 4==0&&tyW d.ws a b==2&&hadD d a&&hadD d b&&rdyD d (pvL d a b)
def stN(c:Bool)(o:Dg)(x m:Int) : Dg:=if c=true then { o with ns:=adN o.ns x m } else o
def pvT(l m:List Int)(x:Int)(o:Dg)(y:Int) : Dg:=if (((l.any fun v=>v==x)&&(m.any fun v=>v==y)) != ((m.any fun v=>v==x)&&(l.any fun v=>v==y)))=true then tgD o x y else o
def pvF(l m:List Int)(x:Int)(r:List Int)(o:Dg) : Dg:=r.foldl (pvT l m x) o
def pv3(e f:Int)(l m:List Int)(x:Int)(o:Dg) : Dg:=stN ((l.any fun v=>v==x)&&(m.any fun v=>v==x)) (stN (m.any fun v=>v==x) (stN (l.any fun v=>v==x) o x f) x e) x 4
def pvM(e f:Int)(l m r:List Int)(o:Dg) : Nat->Dg
 | 0=>o
 | i+1=>pvF l m (r.getD i 0) (r.take i) (pv3 e f l m (r.getD i 0) (pvM e f l m r o i))
def pvD(d:Dg)(a b:Int) : Dg:=
 let o:=pvM (d.ns.getD a.toNat nZ).p (d.ns.getD b.toNat nZ).p (othW d.ws a b) (othW d.ws b a) (pvL d a b) (id0 (id0 d a) b) (pvL d a b).length
 { o with t:=if ((d.ns.getD a.toNat nZ).p+(d.ns.getD b.toNat nZ).p==8)=true then wr (o.t+4) else o.t,r:=wr (o.r+(1-((othW d.ws a b).length:Int)-((othW d.ws b a).length:Int))) }
theorem Xas{d o:Dg}{a b:Int}(h:o=pvM (d.ns.getD a.toNat nZ).p (d.ns.getD b.toNat nZ).p (othW d.ws a b) (othW d.ws b a) (pvL d a b) (id0 (id0 d a) b) (pvL d a b).length) : pvD d a b = { o with t:=if ((d.ns.getD a.toNat nZ).p+(d.ns.getD b.toNat nZ).p==8)=true then wr (o.t+4) else o.t,r:=wr (o.r+(1-((othW d.ws a b).length:Int)-((othW d.ws b a).length:Int))) }:=by subst h;rfl
theorem Xex{c:Bool}{o:Dg}{x m:Int}(h:c=true) : stN c o x m = { o with ns:=adN o.ns x m }:=Q4 h
theorem Xel{c:Bool}{o:Dg}{x m:Int}(h:c=false) : stN c o x m=o:=Q3 (by rw [h];decide)
theorem Xqg{l m:List Int}{x y:Int}{o:Dg}(h:(((l.any fun v=>v==x)&&(m.any fun v=>v==y)) != ((m.any fun v=>v==x)&&(l.any fun v=>v==y)))=true) : pvT l m x o y=tgD o x y:=Q4 h
theorem Xpy{l m:List Int}{x y:Int}{o:Dg}(h:(((l.any fun v=>v==x)&&(m.any fun v=>v==y)) != ((m.any fun v=>v==x)&&(l.any fun v=>v==y)))=false) : pvT l m x o y=o:=Q3 (by rw [h];decide)
theorem Xgo{l m:List Int}{x:Int}{r:List Int}{o:Dg}{k:Nat}{v:Int}(hv:r[k]? = some v) : pvF l m x (r.take (k+1)) o=pvT l m x (pvF l m x (r.take k) o) v:=by
 unfold pvF
 rw [Qt,hv,Option.toList_some,List.foldl_append]
 rfl
theorem Xa9{e f u:Int}{l m r:List Int}{o:Dg}{k:Nat}(hu:r[k]? = some u) : pvM e f l m r o (k+1)=pvF l m u (r.take k) (pv3 e f l m u (pvM e f l m r o k)):=by grind [pv3,pvF,pvM]
theorem X5w{d:Dg}(h:InD d)(a b:Int) : (othW d.ws a b).length<=d.ns.length:=Q0 (List.length_filter_le _ _) (X2q h a)
theorem X88{d:Dg}(h:InD d)(a b:Int) : (pvL d a b).length<=2*d.ns.length:=by
 have h1:=X6t (othW d.ws b a) (othW d.ws a b);have h2:=X5w h a b;have h3:=X5w h b a
 unfold pvL
 omega
theorem X99{d:Dg}(h:InD d){a b u:Int}{k:Nat}(hu:(pvL d a b)[k]? = some u) : 0<=u/\u.toNat<d.ns.length:=by
 have h1:=(X5d _ _ _).1 (Qe hu)
 rcases h1 with h1|h1
 ·exact X2g h (List.mem_filter.1 h1).1
 ·exact X2g h (List.mem_filter.1 h1).1
theorem Xg8{d:Dg}(hd:InD d){a b:Int}(h:(!(spI d.ns a)||!(spI d.ns b)||decide (b<=a)||((d.ns.getD a.toNat nZ).p.tmod 4 != 0)||((d.ns.getD b.toNat nZ).p.tmod 4 != 0)||(tyW d.ws a b != 2))=true) : pvC d a b=false:=by grind [nZ,pvC,spI,tyW]
theorem Xd2{d:Dg}(hd:InD d){a b:Int}(h:(!(spI d.ns a)||!(spI d.ns b)||decide (b<=a)||((d.ns.getD a.toNat nZ).p.tmod 4 != 0)||((d.ns.getD b.toNat nZ).p.tmod 4 != 0)||(tyW d.ws a b != 2))=false) : (0<=a/\a.toNat<d.ns.length)/\(0<=b/\b.toNat<d.ns.length)/\(((d.ns.getD a.toNat nZ).p=0∨(d.ns.getD a.toNat nZ).p=4)/\((d.ns.getD b.toNat nZ).p=0∨(d.ns.getD b.toNat nZ).p=4))/\(spI d.ns a&&spI d.ns b&&decide (a<b)&&(d.ns.getD a.toNat nZ).p % 4==0&&(d.ns.getD b.toNat nZ).p % 4==0&&tyW d.ws a b==2)=true:=by
 rw [Xbm (X1l hd.p _).1,Xbm (X1l hd.p _).1] at h
 have ha:=X1l hd.p a.toNat;have hb:=X1l hd.p b.toNat
 generalize (d.ns.getD a.toNat nZ).p=x at h ha ⊢
 generalize (d.ns.getD b.toNat nZ).p=y at h hb ⊢
 cases h1:spI d.ns a
 ·simp [h1] at h
 cases h2:spI d.ns b
 ·simp [h2] at h
 have s1:=X0s h1
 have s2:=X0s h2
 simp [h1,h2] at h
 refine ⟨⟨s1.1,s1.2.1⟩,⟨s2.1,s2.2.1⟩,⟨by omega,by omega⟩,?_⟩
 simp
 omega
theorem Xfe{d:Dg}{a b:Int}(h:(!(hadD d a)||!(hadD d b)||!(rdyD d (pvL d a b)))=true) : pvC d a b=false:=by grind [hadD,pvC,pvL,rdyD]
theorem Xdq{d:Dg}{a b:Int}(h1:(spI d.ns a&&spI d.ns b&&decide (a<b)&&(d.ns.getD a.toNat nZ).p % 4==0&&(d.ns.getD b.toNat nZ).p % 4==0&&tyW d.ws a b==2)=true)(h:(!(hadD d a)||!(hadD d b)||!(rdyD d (pvL d a b)))=false) : pvC d a b=true:=by
 unfold pvC
 rw [h1]
 cases h2:hadD d a
 ·simp [h2] at h
 cases h3:hadD d b
 ·simp [h3] at h
 cases h4:rdyD d (pvL d a b)
 ·simp [h4] at h
 rfl
structure Rz where
 u:Int
 a:Int
 b:Int
deriving DecidableEq
def encRz(x:Rz) : List Value:=[.int .i64 x.u,.int .i64 x.a,.int .i64 x.b]
theorem X0p:∀ x,(encRz x).length=3:=fun _=>rfl
theorem X2e:∀ x,(encRz x).all one=true:=fun _=>rfl
def doC(d:Dg)(r:Rz) : Bool:=if (r.u==1)=true then fuC d r.a r.b else if (r.u==4)=true then pvC d r.a r.b else if (r.b != 0)=true then false else if (r.u==2)=true then idC d r.a else if (r.u==3)=true then lcC d r.a else if (r.u==5)=true then loC d r.a else false
def doD(d:Dg)(r:Rz) : Dg:=if (r.u==1)=true then fuD d r.a r.b else if (r.u==4)=true then pvD d r.a r.b else if (r.u==2)=true then idD d r.a else if (r.u==3)=true then lcD d r.a else loD d r.a
theorem Xow{d:Dg}{r:Rz}(h1:(r.u==1)=true) : doC d r=fuC d r.a r.b/\doD d r=fuD d r.a r.b:=⟨Q4 h1,Q4 h1⟩
theorem Xp2{d:Dg}{r:Rz}(h1:(r.u==1)=false)(h4:(r.u==4)=true) : doC d r=pvC d r.a r.b/\doD d r=pvD d r.a r.b:=by
 unfold doC doD;rw [h1,h4];exact ⟨rfl,rfl⟩
theorem Xs1{d:Dg}{r:Rz}(h1:(r.u==1)=false)(h4:(r.u==4)=false)(hb:(r.b != 0)=true) : doC d r=false:=by
 unfold doC;rw [h1,h4,hb];rfl
theorem Xne{d:Dg}{r:Rz}(h1:(r.u==1)=false)(h4:(r.u==4)=false)(hb:(r.b != 0)=false)(h2:(r.u==2)=true) : doC d r=idC d r.a/\doD d r=idD d r.a:=by
 unfold doC doD;rw [h1,h4,hb,h2];exact ⟨rfl,rfl⟩
theorem Xtv{d:Dg}{r:Rz}(h1:(r.u==1)=false)(h4:(r.u==4)=false)(hb:(r.b != 0)=false)(h2:(r.u==2)=false)(h3:(r.u==3)=true) : doC d r=lcC d r.a/\doD d r=lcD d r.a:=by grind [doC,doD,lcC,lcD]
theorem Xn9{d:Dg}{r:Rz}(h1:(r.u==1)=false)(h4:(r.u==4)=false)(hb:(r.b != 0)=false)(h2:(r.u==2)=false)(h3:(r.u==3)=false)(h5:(r.u==5)=true) : doC d r=loC d r.a/\doD d r=loD d r.a:=by grind [doC,doD,loC,loD]
theorem Xqh{d:Dg}{r:Rz}(h1:(r.u==1)=false)(h4:(r.u==4)=false)(hb:(r.b != 0)=false)(h2:(r.u==2)=false)(h3:(r.u==3)=false)(h5:(r.u==5)=false) : doC d r=false:=by
 unfold doC;rw [h1,h4,hb,h2,h3,h5];rfl
theorem Xrb(w0:World)(d:Dg)(md:Nat)(aD:md=d.ns.length)(Ad:Option Addr)(cd:Nat)(aP:Rd w0 w0.heap.size 76 encNd Ad d.ns)(Bd:Option Addr)(dd:Nat)(aX:Rd w0 w0.heap.size 84 encWr Bd d.ws)(N:d.ws.length<=dd)(p:Int)(q:Int)(hD:InD d) : Ret Tryz.prog 208 [.agg #[vi d.n,.slice Ad md cd,.slice Bd d.ws.length dd,vi d.t,vi d.r],vi p,vi q] w0 (fun v w=>∃ A c B e,v=.tuple #[.agg #[vi (if (pvC d p q)=true then pvD d p q else d).n,.slice A md c,.slice B (if (pvC d p q)=true then pvD d p q else d).ws.length e,vi (if (pvC d p q)=true then pvD d p q else d).t,vi (if (pvC d p q)=true then pvD d p q else d).r],.bool (pvC d p q)]/\Rd w w.heap.size 76 encNd A (if (pvC d p q)=true then pvD d p q else d).ns/\Rd w w.heap.size 84 encWr B (if (pvC d p q)=true then pvD d p q else d).ws/\(if (pvC d p q)=true then pvD d p q else d).ws.length<=e/\md=(if (pvC d p q)=true then pvD d p q else d).ns.length/\Below w0.heap.size w0 w):=by
 have iD:=hD.len;have iE:=hD.m;have iF:=X5w hD p q;have iG:=X5w hD q p;have gB:=X88 hD p q;have iH:=X1l hD.p p.toNat;have iI:=X1l hD.p q.toNat;have iJ:=X1v d.ws p;have iK:=X1v (dpW d.ws p) q;refine enter Tryz.func208 rfl 196 rfl rfl ?_;intro a J
 have G:=bz w0
 refine Zs J fun _ gC=>?_;refine Zf (X0q (zs:=[vi d.n,.slice Ad md cd,.slice Bd d.ws.length dd,vi d.t,vi d.r]) rfl rfl) ?_;rintro _ w1 ⟨b4,rfl,gD,L,M⟩;have i2:=Q0 G.size gD;have G:=btr G L;refine Zf (Xw (zs:=[vi 0,.slice none 0 0,.slice none 0 0,vi 0,vi 0]) X0e rfl) ?_;rintro _ w2 ⟨b7,rfl,gE,L,E⟩
 have gA:b4≠b7:=by have:=M.lt;omega
 have bU:=Q0 G.size gE;have M:=M.bw L;have G:=btr G L;refine Za rfl<|ZX gC fun a J _ gF=>?_;refine Q5 fun _ gG=>?_;refine X06 (fun a w=>Fr a 196 [(1,vi p),(2,vi q),(3,(pZ9 b4)),(6,(pZ9 b7)),(63,.bool ((((((!(spI d.ns p))||(!(spI d.ns q)))||(decide (q<=p)))||((((d.ns.getD p.toNat nZ).p).tmod 4) != 0))||((((d.ns.getD q.toNat nZ).p).tmod 4) != 0))||((tyW d.ws p q) != 2)))]/\Below w2.heap.size w2 w) ?_ ?_
 ·have aB:Below w2.heap.size w2 w2:=Below.refl _ _
  refine Zr J<|Ze (Vn X2 M)<|Zm rfl<|Zf (Vc (X4g _ d md aD Ad cd (aP.bx G).top Bd dd (aX.bx G).top N p (by rw [aD];exact hD.m)) X2h) ?_;rintro _ w3 ⟨rfl,L⟩;have M:=M.bw L;have G:=btr G L;have aB:=btr aB L;refine Ze (X0z rfl)<|Zm rfl ?_
  refine Zg 26 rfl (fun a7=>?_) (fun a7=>?_)
  ·(iterate 4 refine Zp (gP a7) ?_);refine Ze (X5 rfl a7 rfl)<|Zm rfl<|Zp (gP rfl) ?_;(iterate 2 refine Zp (gP rfl) ?_);refine Ze (X5 rfl rfl rfl)<|Zm rfl<|Zp (gP rfl) ?_;(iterate 7 refine Zp (gP rfl) ?_);refine Ze (X5 rfl rfl rfl)<|Zm rfl<|Zp (gP rfl) ?_;(iterate 7 refine Zp (gP rfl) ?_);refine Ze (X5 rfl rfl rfl)<|Zm rfl<|Zp (gP rfl) ?_;(iterate 4 refine Zp (gP rfl) ?_);refine Ze (X5 rfl rfl rfl) ?_;refine Zn fun a J=>?_
   have aO:Below w2.heap.size w2 w3:=aB
   exact ⟨J.sub ⟨rfl,rfl,rfl,rfl,X1 rfl (by first|rfl|(simp only [a7,bs];done)|simp [a7]),trivial⟩,aO⟩
  have cS:0<=p/\p.toNat<d.ns.length:=by have h9:=X0s (ns:=d.ns) (k:=p) (by simpa using a7);exact ⟨h9.1,h9.2.1⟩
  refine Zv (gW a7) (Vn X2 M) ?_;refine Zv (gW a7) (X3 rfl) ?_;refine Zk (gW a7) (Vc (X4g _ d md aD Ad cd (aP.bx G).top Bd dd (aX.bx G).top N q (by rw [aD];exact hD.m)) X2h) ?_;rintro _ w4 ⟨rfl,L⟩;have M:=M.bw L;have G:=btr G L;have aB:=btr aB L;refine Zv (gW a7) (X0z rfl) ?_;refine Ze (X9 rfl a7 rfl)<|Zm rfl ?_
  refine Zg 32 rfl (fun aC=>?_) (fun aC=>?_)
  ·(iterate 3 refine Zp (gP aC) ?_);refine Ze (X5 rfl aC rfl)<|Zm rfl<|Zp (gP rfl) ?_;(iterate 7 refine Zp (gP rfl) ?_);refine Ze (X5 rfl rfl rfl)<|Zm rfl<|Zp (gP rfl) ?_;(iterate 7 refine Zp (gP rfl) ?_);refine Ze (X5 rfl rfl rfl)<|Zm rfl<|Zp (gP rfl) ?_;(iterate 4 refine Zp (gP rfl) ?_);refine Ze (X5 rfl rfl rfl) ?_;refine Zn fun a J=>?_
   have aO:Below w2.heap.size w2 w4:=aB
   exact ⟨J.sub ⟨rfl,rfl,rfl,rfl,X1 rfl (by first|rfl|(simp only [a7,aC,bs];done)|simp [a7,aC]),trivial⟩,aO⟩
  have cC:0<=q/\q.toNat<d.ns.length:=by have h9:=X0s (ns:=d.ns) (k:=q) (by have h8:=aC;first|exact (by simpa using h8)|(simp at h8;exact h8.2));exact ⟨h9.1,h9.2.1⟩
  refine Zv (gW aC) (X3 rfl) ?_;refine Zv (gW aC) (X3 rfl) ?_;refine Zv (gW aC) (X4q rfl rfl) ?_;refine Ze (X9 rfl aC rfl)<|Zm rfl ?_
  refine Zg 37 rfl (fun Q=>?_) (fun Q=>?_)
  ·(iterate 8 refine Zp (gP Q) ?_);refine Ze (X5 rfl Q rfl)<|Zm rfl<|Zp (gP rfl) ?_;(iterate 7 refine Zp (gP rfl) ?_);refine Ze (X5 rfl rfl rfl)<|Zm rfl<|Zp (gP rfl) ?_;(iterate 4 refine Zp (gP rfl) ?_);refine Ze (X5 rfl rfl rfl) ?_;refine Zn fun a J=>?_
   have aO:Below w2.heap.size w2 w4:=aB
   exact ⟨J.sub ⟨rfl,rfl,rfl,rfl,X1 rfl (by first|rfl|(simp only [a7,aC,Q,bs];done)|simp [a7,aC,Q]),trivial⟩,aO⟩
  refine Zv (gW Q) (Vd rfl Xc 1) ?_;refine Zv (gW Q) (X0 rfl Xv (M.at 1)) ?_;refine Zv (gW Q) (X3 rfl) ?_;refine Zj (k:=p.toNat) (u:=(d.ns.getD p.toNat nZ)) (enc:=encNd) (l:=d.ns) ⟨_,_,rfl,rfl,Q⟩ rfl aD rfl Xm X05 Xt (aP.bx G) (Xg cS.2) (by omega) ?_;intro iL dE;refine Zv (gW Q) (X1y rfl X04) ?_;refine Zv (gW Q) (X0 rfl Xa (dE.drop 1)) ?_;refine Zv (gW Q) (X3q rfl rfl rfl) ?_;refine Zv (gW Q) (X1c rfl rfl) ?_;refine Ze (X9 rfl Q rfl)<|Zm rfl ?_
  refine Zg 47 rfl (fun a6=>?_) (fun a6=>?_)
  ·(iterate 8 refine Zp (gP a6) ?_);refine Ze (X5 rfl a6 rfl)<|Zm rfl<|Zp (gP rfl) ?_;(iterate 4 refine Zp (gP rfl) ?_);refine Ze (X5 rfl rfl rfl) ?_;refine Zn fun a J=>?_
   have aO:Below w2.heap.size w2 w4:=aB
   exact ⟨J.sub ⟨rfl,rfl,rfl,rfl,X1 rfl (by first|rfl|(simp only [a7,aC,Q,a6,bs];done)|simp [a7,aC,Q,a6]),trivial⟩,aO⟩
  refine Zv (gW a6) (Vd rfl Xc 1) ?_;refine Zv (gW a6) (X0 rfl Xv (M.at 1)) ?_;refine Zv (gW a6) (X3 rfl) ?_;refine Zj (k:=q.toNat) (u:=(d.ns.getD q.toNat nZ)) (enc:=encNd) (l:=d.ns) ⟨_,_,rfl,rfl,a6⟩ rfl aD rfl Xm X05 Xt (aP.bx G) (Xg cC.2) (by omega) ?_;intro iM dF;refine Zv (gW a6) (X1y rfl X04) ?_;refine Zv (gW a6) (X0 rfl Xa (dF.drop 1)) ?_;refine Zv (gW a6) (X3q rfl rfl rfl) ?_;refine Zv (gW a6) (X1c rfl rfl) ?_;refine Ze (X9 rfl a6 rfl)<|Zm rfl ?_
  refine Zg 57 rfl (fun aL=>?_) (fun aL=>?_)
  ·(iterate 5 refine Zp (gP aL) ?_);refine Ze (X5 rfl aL rfl) ?_;refine Zn fun a J=>?_
   have aO:Below w2.heap.size w2 w4:=aB
   exact ⟨J.sub ⟨rfl,rfl,rfl,rfl,X1 rfl (by first|rfl|(simp only [a7,aC,Q,a6,aL,bs];done)|simp [a7,aC,Q,a6,aL]),trivial⟩,aO⟩
  refine Zv (gW aL) (Vn X2 M) ?_;refine Zv (gW aL) (X3 rfl) ?_;refine Zv (gW aL) (X3 rfl) ?_;refine Zk (gW aL) (Vc (X6l _ d md aD Ad cd (aP.bx G).top Bd dd (aX.bx G).top N p q (by omega)) X3i) ?_;rintro _ w5 ⟨rfl,L⟩;have G:=btr G L;have aB:=btr aB L;refine Zv (gW aL) (X1c rfl rfl) ?_;refine Ze (X9 rfl aL rfl) ?_;refine Zn fun a J=>?_
  have aO:Below w2.heap.size w2 w5:=aB
  exact ⟨J.sub ⟨rfl,rfl,rfl,rfl,X1 rfl (by first|rfl|(simp only [a7,aC,Q,a6,aL,bs];done)|simp [a7,aC,Q,a6,aL]),trivial⟩,aO⟩
 rintro a w6 ⟨J,L⟩;have M:=M.bw L;have E:=E.bw L;have G:=btr G L;refine gG _ _ ?_
 refine Xf J rfl (fun bF=>?_) (fun bF=>?_)
 ·have U:=bF;have dG:=Xg8 hD bF;refine Zs J fun _ eB=>?_;refine Ze (Vn X2 M)<|Zo (Vw [vi d.n,.slice Ad md cd,.slice Bd d.ws.length dd,vi d.t,vi d.r] Xd E) ?_;rintro _ w7 ⟨ho,hb⟩;have I:=E;have G:=Below.oy G ho bU;have E:=hb;refine Za rfl<|Zt eB fun a J=>?_;refine Q6<|X8<|X6 J (X1h J rfl (ResV.cellN (l:=[vi d.n,.slice Ad md cd,.slice Bd d.ws.length dd,vi d.t,vi d.r]) rfl X2 (E.at 0) rfl) rfl) ?_
  rw [dG,Q3 Bool.false_ne_true]
  exact ⟨Ad,cd,Bd,dd,rfl,(aP.bx G).top,(aX.bx G).top,N,aD,G⟩
 have U:=bF;obtain ⟨cS,cC,i4,gH⟩:=Xd2 hD bF;refine Q7<|gF _ _<|Zs J fun _ eC=>?_;refine Ze (Vn X2 M)<|Zm rfl<|Zm rfl<|Zf (Vc (Xmv _ d md aD Ad cd (aP.bx G).top Bd dd (aX.bx G).top N p q hD.w (by omega)) Xd1) ?_;rintro _ w8 ⟨aS,aT,rfl,g,L⟩;have g:=g.lower G.size;have M:=M.bw L;have E:=E.bw L;have G:=btr G L;refine Za rfl<|Zx eC fun a J _ eD=>?_;refine Ze (Vn X2 M)<|Zm rfl<|Zm rfl<|Zf (Vc (Xmv _ d md aD Ad cd (aP.bx G).top Bd dd (aX.bx G).top N q p hD.w (by omega)) Xd1) ?_;rintro _ w9 ⟨aV,aW,rfl,h,L⟩;have h:=h.lower G.size;have M:=M.bw L;have E:=E.bw L;have g:=g.bw L;have G:=btr G L;refine Za rfl<|Zx eD fun a J _ eE=>?_;refine Zm rfl<|Zf (Vc (Xv6 _ aS aT (othW d.ws p q) g.rd.top (by omega)) Xnu) ?_;rintro _ iN ⟨gI,gJ,rfl,cD,L⟩;have cD:=cD.lower G.size;have M:=M.bw L;have E:=E.bw L;have g:=g.bw L;have h:=h.bw L;have G:=btr G L;refine Za rfl<|ZX eE fun a J _ eF=>?_;refine Zs J fun _ eG=>?_;refine Zm rfl<|Ze (X07 rfl Xk)<|Zm rfl<|Zt eG fun a J=>?_;refine Q8<|X02 (σ:=Nat×(List Int)) (fun (s:Nat×(List Int)) (a:Act) (w:World)=>match s with|(k,m)=>∃ aE aG,Fr a 196 [(1,vi p),(2,vi q),(3,(pZ9 b4)),(6,(pZ9 b7)),(8,.slice aS (othW d.ws p q).length aT),(9,.slice aV (othW d.ws q p).length aW),(10,.slice aE m.length aG),(75,.slice aV (othW d.ws q p).length aW),(76,vi ((othW d.ws q p).length:Int)),(77,vi (k:Int))]/\(k<=(othW d.ws q p).length)/\(m=((othW d.ws q p).take k).foldl putI (othW d.ws p q))/\Blk w b4 31 [vi d.n,.slice Ad md cd,.slice Bd d.ws.length dd,vi d.t,vi d.r]/\Blk w b7 31 [vi 0,.slice none 0 0,.slice none 0 0,vi 0,vi 0]/\Own w w0.heap.size 3 1 encI aE aG m/\Own w w0.heap.size 3 1 encI aS aT (othW d.ws p q)/\Own w w0.heap.size 3 1 encI aV aW (othW d.ws q p)/\d.ws.length<=dd/\Below w0.heap.size w0 w) (fun (s:Nat×(List Int))=>match s with|(k,m)=>(othW d.ws q p).length-k) (0,(othW d.ws p q)) ?_ ?_
 ·exact ⟨gI,gJ,J.sb,(Qf _),rfl,M,E,cD,g,h,N,G⟩
 rintro ⟨k,m⟩ a w11 ⟨aE,aG,J,hk,hm,M,E,C,g,h,N,G⟩;refine Zs J fun _ eH=>?_;refine Ze (X0i rfl rfl)<|ZX eH fun a J _ eI=>?_
 refine Xf J rfl (fun b3=>?_) (fun b3=>?_)
 ·have W:=b3;have b3:=Q2 b3
  obtain ⟨iO,i5⟩:=X4 (l:=(othW d.ws q p)) (k:=k) (by omega)
  obtain ⟨u9,bX⟩:=X4 (l:=(othW d.ws q p)) (k:=k) (by have:=b3;omega)
  have bG:=X2x (f:=putI) (b:=(othW d.ws p q)) bX
  rw [<- hm] at bG
  refine Q7<|eI _ _<|Q5 fun _ eJ=>?_;refine Q8<|Zs J fun _ eK=>?_;refine Zi (k:=k) (u:=u9) (enc:=encI) (l:=(othW d.ws q p)) tv0 rfl rfl Xk X0a Xh h.rd bX rfl ?_;intro iP dH;refine Ze (X0 rfl Xa dH)<|Za rfl<|Zt eK fun a J=>?_;refine Zr J<|Zm rfl<|Zm rfl<|Zf (Vc (Xpk _ aE aG m C.rd.top u9 w0.heap.size C G.size (by have h9:=X6t ((othW d.ws q p).take k) (othW d.ws p q);rw [<- hm,Qn] at h9;omega)) Xb9) ?_;rintro _ iQ ⟨gK,gL,rfl,eL,L⟩;have M:=M.bw L;have E:=E.bw L;have g:=g.bw L;have h:=h.bw L;have G:=btr G L;refine Za rfl ?_;refine Zn fun a J=>?_;refine Xb<|eJ _ _<|Zr J<|Ze (Xr rfl rfl (by omega) (by omega))<|Zm rfl ?_;refine Zn fun a J=>?_;refine Xe ?_;exact ⟨(k+1,(putI m u9)),⟨gK,gL,J.sb,(by omega),(by rw [bG]),M,E,eL,g,h,N,G⟩,(by first|omega|(dsimp only;omega))⟩
 have W:=b3;have b3:=Q1 b3
 have bY:m=(pvL d p q):=by rw [hm,Qi (by have:=b3;omega)];rfl
 have iR:m.length<=2*d.ns.length:=by rw [bY];exact gB
 refine Q9<|Xl<|Xl<|X01 ?_;refine eF _ _<|Q5 fun _ eM=>?_;refine Q5 fun _ eO=>?_;refine X06 (fun a w=>Fr a 196 [(1,vi p),(2,vi q),(3,(pZ9 b4)),(6,(pZ9 b7)),(8,.slice aS (othW d.ws p q).length aT),(9,.slice aV (othW d.ws q p).length aW),(10,.slice aE m.length aG),(100,.bool (((!(hadD d p))||(!(hadD d q)))||(!(rdyD d m))))]/\Below w11.heap.size w11 w) ?_ ?_
 ·have aB:Below w11.heap.size w11 w11:=Below.refl _ _
  refine Zr J<|Ze (Vn X2 M)<|Zm rfl<|Zf (Vc (Xf4 _ d md aD Ad cd (aP.bx G).top Bd dd (aX.bx G).top N p hD.w (by omega)) X8y) ?_;rintro _ w13 ⟨rfl,L⟩;have M:=M.bw L;have C:=C.bw L;have G:=btr G L;have aB:=btr aB L;refine Ze (X0z rfl)<|Zm rfl ?_
  refine Zg 89 rfl (fun aM=>?_) (fun aM=>?_)
  ·(iterate 4 refine Zp (gP aM) ?_);refine Ze (X5 rfl aM rfl)<|Zm rfl<|Zp (gP rfl) ?_;(iterate 3 refine Zp (gP rfl) ?_);refine Ze (X5 rfl rfl rfl) ?_;refine Zn fun a J=>?_
   have aO:Below w11.heap.size w11 w13:=aB
   exact ⟨J.sub ⟨rfl,rfl,rfl,rfl,rfl,rfl,rfl,X1 rfl (by first|rfl|(simp only [U,W,aM,bs];done)|simp [U,W,aM]),trivial⟩,aO⟩
  refine Zv (gW aM) (Vn X2 M) ?_;refine Zv (gW aM) (X3 rfl) ?_;refine Zk (gW aM) (Vc (Xf4 _ d md aD Ad cd (aP.bx G).top Bd dd (aX.bx G).top N q hD.w (by omega)) X8y) ?_;rintro _ w14 ⟨rfl,L⟩;have M:=M.bw L;have C:=C.bw L;have G:=btr G L;have aB:=btr aB L;refine Zv (gW aM) (X0z rfl) ?_;refine Ze (X9 rfl aM rfl)<|Zm rfl ?_
  refine Zg 95 rfl (fun aQ=>?_) (fun aQ=>?_)
  ·(iterate 4 refine Zp (gP aQ) ?_);refine Ze (X5 rfl aQ rfl) ?_;refine Zn fun a J=>?_
   have aO:Below w11.heap.size w11 w14:=aB
   exact ⟨J.sub ⟨rfl,rfl,rfl,rfl,rfl,rfl,rfl,X1 rfl (by first|rfl|(simp only [U,W,aM,aQ,bs];done)|simp [U,W,aM,aQ]),trivial⟩,aO⟩
  refine Zv (gW aQ) (Vn X2 M) ?_;refine Zv (gW aQ) (X3 rfl) ?_;refine Zk (gW aQ) (Vc (Xlp _ d md aD Ad cd (aP.bx G).top Bd dd (aX.bx G).top N aE aG m C.rd.top (by omega) (by omega) (by omega) C.cap) Xbg) ?_;rintro _ w15 ⟨rfl,L⟩;have G:=btr G L;have aB:=btr aB L;refine Zv (gW aQ) (X0z rfl) ?_;refine Ze (X9 rfl aQ rfl) ?_;refine Zn fun a J=>?_
  have aO:Below w11.heap.size w11 w15:=aB
  exact ⟨J.sub ⟨rfl,rfl,rfl,rfl,rfl,rfl,rfl,X1 rfl (by first|rfl|(simp only [U,W,aM,aQ,bs];done)|simp [U,W,aM,aQ]),trivial⟩,aO⟩
 rintro a iS ⟨J,L⟩;have M:=M.bw L;have E:=E.bw L;have C:=C.bw L;have g:=g.bw L;have h:=h.bw L;have G:=btr G L;refine eO _ _ ?_
 refine Xf J rfl (fun bH=>?_) (fun bH=>?_)
 ·have aH:=bH
  have dG:pvC d p q=false:=Xfe (by rw [<- bY];exact bH)
  refine Zs J fun _ eP=>?_;refine Ze (Vn X2 M)<|Zo (Vw [vi d.n,.slice Ad md cd,.slice Bd d.ws.length dd,vi d.t,vi d.r] Xd E) ?_;rintro _ iT ⟨ho,hb⟩;have I:=E;have G:=Below.oy G ho bU;have E:=hb;refine Za rfl<|Zt eP fun a J=>?_;refine Q6<|X8<|X6 J (X1h J rfl (ResV.cellN (l:=[vi d.n,.slice Ad md cd,.slice Bd d.ws.length dd,vi d.t,vi d.r]) rfl X2 (E.at 0) rfl) rfl) ?_
  rw [dG,Q3 Bool.false_ne_true]
  exact ⟨Ad,cd,Bd,dd,rfl,(aP.bx G).top,(aX.bx G).top,N,aD,G⟩
 have aH:=bH
 have eQ:pvC d p q=true:=Xdq gH (by rw [<- bY];exact bH)
 refine Q7<|eM _ _<|Q5 fun _ eR=>?_;refine Xz none (fun _=>false) mixed ?_;intro iU L;have M:=M.bw L;have E:=E.bw L;have C:=C.bw L;have g:=g.bw L;have h:=h.bw L;have G:=btr G L;refine Yb J<|Yo 0 rfl (fun _=>Vd rfl Xc 1)<|Ye 1 rfl (X0 rfl Xv (M.at 1))<|Yo 2 rfl (fun _=>X3 rfl)<|Yj (k:=p.toNat) (u:=(d.ns.getD p.toNat nZ)) (enc:=encNd) (l:=d.ns) 3 rfl tv0 rfl aD rfl Xm X05 Xt (aP.bx G) (Xg cS.2) (by omega) ?_;intro iV dI;refine Yo 4 rfl (fun _=>X1y rfl X04)<|Ye 5 rfl (X0 rfl Xa (dI.drop 1))<|Yo 6 rfl (fun _=>Vd rfl Xc 1)<|Ye 7 rfl (X0 rfl Xv (M.at 1))<|Yo 8 rfl (fun _=>X3 rfl)<|Yj (k:=q.toNat) (u:=(d.ns.getD q.toNat nZ)) (enc:=encNd) (l:=d.ns) 9 rfl tv0 rfl aD rfl Xm X05 Xt (aP.bx G) (Xg cC.2) (by omega) ?_;intro iW dJ;refine Yo 10 rfl (fun _=>X1y rfl X04)<|Ye 11 rfl (X0 rfl Xa (dJ.drop 1))<|Yo 12 rfl (fun _=>X0h rfl)<|Yo 13 rfl (fun _=>X0h rfl) ?_;refine Yd fun a J=>?_;refine eR _ _<|Zs J fun _ eS=>?_;refine Ze (Vn X2 M)<|Zf (Vc (X7j _ d md aD Ad cd (aP.bx G).top Bd dd (aX.bx G).top N ⟨by omega,by omega⟩) X45) ?_;rintro _ iX ⟨cT,cU,gM,gN,rfl,aR,bW,L⟩;have aR:=aR.lower G.size;have bW:=bW.lower G.size;have M:=M.bw L;have E:=E.bw L;have C:=C.bw L;have g:=g.bw L;have h:=h.bw L;have G:=btr G L;refine Zm rfl<|Zf (Vc (X7p _ d d.ns.length rfl cT cU _ aR G.size gM gN bW.rd.top bW.cap p cS (by omega)) X4d) ?_;rintro _ iY ⟨gO,gQ,rfl,aN,eT,eU,eV,hg⟩;have H:=aR;have M:=M.appT H hg rfl;have E:=E.appT H hg rfl
 have C:=C.appT H hg rfl;have g:=g.appT H hg rfl;have h:=h.appT H hg rfl;have G:=Below.app G H hg (Qb _) G.size
 clear H hg;clear aR;have aR:=aN;clear aN;refine Zm rfl<|Zf (Vc (X7p _ ({ d with ns:=dpN d.ns p,ws:=dpW d.ws p } : Dg) d.ns.length eV cT cU _ aR G.size gO gQ eT.top eU q ⟨cC.1,by rw [X1k];exact cC.2⟩ (by dsimp only;omega)) X4d) ?_;rintro _ iZ ⟨eX,eY,rfl,aN,bI,eZ,i6,hg⟩;have H:=aR;have M:=M.appT H hg rfl;have E:=E.appT H hg rfl;have C:=C.appT H hg rfl;have g:=g.appT H hg rfl;have h:=h.appT H hg rfl;have G:=Below.app G H hg (Qb _) G.size
 clear H hg;clear aR;have aR:=aN;clear aN;refine Zf (Xw (zs:=[vi 0,.slice none 0 0,.slice none 0 0,vi 0,vi 0]) X0e rfl) ?_;rintro _ j0 ⟨b57,rfl,f0,L,D⟩
 have f3:b4≠b57:=by have:=M.lt;omega
 have f5:b7≠b57:=by have:=E.lt;omega
 have aY:=Q0 G.size f0;have E:=E.bw L;have C:=C.bw L;have g:=g.bw L;have h:=h.bw L;have aR:=aR.bw L;have bI:=bI.bw L;have G:=btr G L;refine Zo (Vw [vi (({ ({ d with ns:=dpN d.ns p,ws:=dpW d.ws p } : Dg) with ns:=dpN ({ d with ns:=dpN d.ns p,ws:=dpW d.ws p } : Dg).ns q,ws:=dpW ({ d with ns:=dpN d.ns p,ws:=dpW d.ws p } : Dg).ws q } : Dg).n),.slice cT d.ns.length cU,.slice eX (({ ({ d with ns:=dpN d.ns p,ws:=dpW d.ws p } : Dg) with ns:=dpN ({ d with ns:=dpN d.ns p,ws:=dpW d.ws p } : Dg).ns q,ws:=dpW ({ d with ns:=dpN d.ns p,ws:=dpW d.ws p } : Dg).ws q } : Dg).ws).length eY,vi (({ ({ d with ns:=dpN d.ns p,ws:=dpW d.ws p } : Dg) with ns:=dpN ({ d with ns:=dpN d.ns p,ws:=dpW d.ws p } : Dg).ns q,ws:=dpW ({ d with ns:=dpN d.ns p,ws:=dpW d.ws p } : Dg).ws q } : Dg).t),vi (({ ({ d with ns:=dpN d.ns p,ws:=dpW d.ws p } : Dg) with ns:=dpN ({ d with ns:=dpN d.ns p,ws:=dpW d.ws p } : Dg).ns q,ws:=dpW ({ d with ns:=dpN d.ns p,ws:=dpW d.ws p } : Dg).ws q } : Dg).r)] Xd D) ?_;rintro _ j1 ⟨ho,hb⟩;have I:=D;have E:=E.oy ho (by omega);have C:=C.oT ho I rfl;have g:=g.oT ho I rfl;have h:=h.oT ho I rfl;have aR:=aR.oT ho I rfl;have bI:=bI.oT ho I rfl;have G:=Below.oy G ho aY;have D:=hb;refine ZX eS fun a J _ f7=>?_;refine Zs J fun _ f8=>?_;refine Zm rfl<|Ze (X07 rfl Xk)<|Zm rfl<|Zt f8 fun a J=>?_;refine Q8<|X02 (σ:=Nat×Dg) (fun (s:Nat×Dg) (a:Act) (w:World)=>match s with|(i,o)=>∃ b1 b2 b5 b6,Fr a 196 [(6,(pZ9 b7)),(8,.slice aS (othW d.ws p q).length aT),(9,.slice aV (othW d.ws q p).length aW),(10,.slice aE m.length aG),(13,vi ((d.ns.getD p.toNat nZ).p)),(14,vi ((d.ns.getD q.toNat nZ).p)),(15,(pZ9 b57)),(120,.slice aE m.length aG),(121,vi (m.length:Int)),(122,vi (i:Int))]/\(i<=m.length)/\(o=pvM (d.ns.getD p.toNat nZ).p (d.ns.getD q.toNat nZ).p (othW d.ws p q) (othW d.ws q p) m (id0 (id0 d p) q) i)/\(d.ns.length=o.ns.length)/\(o.ws.length<=d.ws.length+i*2000)/\(PhN o.ns)/\Blk w b7 31 [vi 0,.slice none 0 0,.slice none 0 0,vi 0,vi 0]/\Blk w b57 31 [vi o.n,.slice b1 d.ns.length b2,.slice b5 o.ws.length b6,vi o.t,vi o.r]/\Own w w0.heap.size 3 1 encI aE aG m/\Own w w0.heap.size 3 1 encI aS aT (othW d.ws p q)/\Own w w0.heap.size 3 1 encI aV aW (othW d.ws q p)/\Own w w0.heap.size 76 2 encNd b1 b2 o.ns/\Rd w w.heap.size 84 encWr b5 o.ws/\d.ws.length<=dd/\o.ws.length<=b6/\Below w0.heap.size w0 w) (fun (s:Nat×Dg)=>match s with|(i,o)=>m.length-i) (0,(id0 (id0 d p) q)) ?_ ?_
 ·exact ⟨cT,cU,eX,eY,J.sb,(Qf _),rfl,((X1k _ _).trans (X1k _ _)).symm,(Q0 (X1v _ _) (Q0 (X1v d.ws p) (Nat.le_add_right _ _))),(X3r (X3r hD.p p) q),E,D,C,g,h,aR,bI.top,N,eZ,G⟩
 rintro ⟨i,o⟩ a j3 ⟨b1,b2,b5,b6,J,hi,f9,cE,gR,dK,E,D,C,g,h,a8,aF,N,cV,G⟩;refine Zs J fun _ fA=>?_;refine Ze (X0i rfl rfl)<|ZX fA fun a J _ fB=>?_
 refine Xf J rfl (fun b8=>?_) (fun b8=>?_)
 ·have aI:=b8;have b8:=Q2 b8
  obtain ⟨j4,i7⟩:=X4 (l:=m) (k:=i) (by omega)
  obtain ⟨u9,bX⟩:=X4 (l:=m) (k:=i) (by have:=b8;omega)
  have dL:0<=u9/\u9.toNat<d.ns.length:=X99 hD (by rw [<- bY];exact bX)
  have j5:=X1l dK u9.toNat;refine Q7<|fB _ _<|Q5 fun _ fC=>?_;refine Q8<|Zs J fun _ fD=>?_;refine Zm rfl<|Zi (k:=i) (u:=u9) (enc:=encI) (l:=m) tv0 rfl rfl Xk X0a Xh C.rd bX rfl ?_;intro j6 dM;refine Ze (X0 rfl Xa dM)<|Za rfl<|Za rfl<|Zx fD fun a J _ fE=>?_;refine Zm rfl<|Zm rfl<|Zf (Vc (Xfv _ aS aT (othW d.ws p q) g.rd.top u9 (by omega)) X6y) ?_;rintro _ j7 ⟨rfl,L⟩;have E:=E.bw L;have D:=D.bw L;have C:=C.bw L;have g:=g.bw L;have h:=h.bw L;have a8:=a8.bw L;have aF:=aF.bw L;have G:=btr G L;refine Zm rfl<|Zm rfl<|Zf (Vc (Xfv _ aV aW (othW d.ws q p) h.rd.top u9 (by omega)) X6y) ?_;rintro _ j8 ⟨rfl,L⟩;have E:=E.bw L;have D:=D.bw L;have C:=C.bw L;have g:=g.bw L;have h:=h.bw L;have a8:=a8.bw L;have aF:=aF.bw L;have G:=btr G L;refine Za rfl<|Za rfl<|ZX fE fun a J _ fF=>?_;refine Zs J fun _ fG=>?_;refine Zm rfl<|Zt fG fun a J=>?_;refine X06 (fun a w=>∃ (x1:Dg),∃ bP bQ cF cG,Fr a 196 [(6,(pZ9 b7)),(8,.slice aS (othW d.ws p q).length aT),(9,.slice aV (othW d.ws q p).length aW),(10,.slice aE m.length aG),(13,vi ((d.ns.getD p.toNat nZ).p)),(14,vi ((d.ns.getD q.toNat nZ).p)),(15,(pZ9 b57)),(16,vi (i:Int)),(17,vi u9),(18,.bool ((othW d.ws p q).any fun y=>y==u9)),(19,.bool ((othW d.ws q p).any fun y=>y==u9)),(120,.slice aE m.length aG),(121,vi (m.length:Int)),(122,vi (i:Int))]/\(x1=stN ((othW d.ws p q).any fun v=>v==u9) o u9 (d.ns.getD q.toNat nZ).p)/\(d.ns.length=x1.ns.length)/\(x1.ws.length<=o.ws.length)/\(PhN x1.ns)/\Blk w b7 31 [vi 0,.slice none 0 0,.slice none 0 0,vi 0,vi 0]/\Blk w b57 31 [vi x1.n,.slice bP d.ns.length bQ,.slice cF x1.ws.length cG,vi x1.t,vi x1.r]/\Own w w0.heap.size 3 1 encI aE aG m/\Own w w0.heap.size 3 1 encI aS aT (othW d.ws p q)/\Own w w0.heap.size 3 1 encI aV aW (othW d.ws q p)/\Own w w0.heap.size 76 2 encNd bP bQ x1.ns/\Rd w w.heap.size 84 encWr cF x1.ws/\d.ws.length<=dd/\x1.ws.length<=cG/\Below w0.heap.size w0 w) ?_ ?_
  ·refine Xf J rfl (fun bJ=>?_) (fun bJ=>?_)
   ·have dN:=bJ;have cH:=bJ;refine Zr J<|Ze (Vn X2 D)<|Zm rfl<|Zm rfl<|Zf (Vc (X7m _ o d.ns.length cE b1 b2 _ a8 G.size b5 b6 aF.top cV u9 ((d.ns.getD q.toNat nZ).p) ⟨dL.1,by omega⟩ ⟨by omega,by omega⟩) X4c) ?_;rintro _ j9 ⟨fH,fI,rfl,aN,cI,fJ,i8,hg⟩;have H:=a8;have E:=E.appT H hg rfl;have D:=D.appT H hg rfl;have C:=C.appT H hg rfl;have g:=g.appT H hg rfl;have h:=h.appT H hg rfl;have G:=Below.app G H hg (Qb _) G.size
    clear H hg;clear a8;have a8:=aN;clear aN;refine Zo (Vw [vi (({ o with ns:=adN o.ns u9 ((d.ns.getD q.toNat nZ).p) } : Dg).n),.slice b1 d.ns.length b2,.slice fH (({ o with ns:=adN o.ns u9 ((d.ns.getD q.toNat nZ).p) } : Dg).ws).length fI,vi (({ o with ns:=adN o.ns u9 ((d.ns.getD q.toNat nZ).p) } : Dg).t),vi (({ o with ns:=adN o.ns u9 ((d.ns.getD q.toNat nZ).p) } : Dg).r)] Xd D) ?_;rintro _ jA ⟨ho,hb⟩;have I:=D;have E:=E.oy ho (by omega);have C:=C.oT ho I rfl;have g:=g.oT ho I rfl;have h:=h.oT ho I rfl;have a8:=a8.oT ho I rfl;have cI:=cI.oT ho I rfl;have G:=Below.oy G ho aY;have D:=hb;refine Zn fun a J=>?_;refine Xe ?_;exact ⟨({ o with ns:=adN o.ns u9 ((d.ns.getD q.toNat nZ).p) } : Dg),b1,b2,fH,fI,J.sb,((Xex cH).symm),(cE.trans (X1m _ _ _).symm),(Qb _),(X4l dK _ _),E,D,C,g,h,a8,cI.top,N,fJ,G⟩
   have dN:=bJ;have cH:=bJ;refine Q7<|Xe ?_;exact ⟨o,b1,b2,b5,b6,J.sb,((Xel cH).symm),cE,(Qb _),dK,E,D,C,g,h,a8,aF.top,N,cV,G⟩
  rintro a jB ⟨x1,bP,bQ,cF,cG,J,gS,dO,fK,dP,E,D,C,g,h,bB,d8,N,fL,G⟩;refine fF _ _<|Q5 fun _ fM=>?_;refine Zs J fun _ fN=>?_;refine Zm rfl<|Zt fN fun a J=>?_;refine X06 (fun a w=>∃ (x2:Dg),∃ bR bS cJ cK,Fr a 196 [(6,(pZ9 b7)),(8,.slice aS (othW d.ws p q).length aT),(9,.slice aV (othW d.ws q p).length aW),(10,.slice aE m.length aG),(13,vi ((d.ns.getD p.toNat nZ).p)),(14,vi ((d.ns.getD q.toNat nZ).p)),(15,(pZ9 b57)),(16,vi (i:Int)),(17,vi u9),(18,.bool ((othW d.ws p q).any fun y=>y==u9)),(19,.bool ((othW d.ws q p).any fun y=>y==u9)),(120,.slice aE m.length aG),(121,vi (m.length:Int)),(122,vi (i:Int))]/\(x2=stN ((othW d.ws q p).any fun v=>v==u9) x1 u9 (d.ns.getD p.toNat nZ).p)/\(d.ns.length=x2.ns.length)/\(x2.ws.length<=o.ws.length)/\(PhN x2.ns)/\Blk w b7 31 [vi 0,.slice none 0 0,.slice none 0 0,vi 0,vi 0]/\Blk w b57 31 [vi x2.n,.slice bR d.ns.length bS,.slice cJ x2.ws.length cK,vi x2.t,vi x2.r]/\Own w w0.heap.size 3 1 encI aE aG m/\Own w w0.heap.size 3 1 encI aS aT (othW d.ws p q)/\Own w w0.heap.size 3 1 encI aV aW (othW d.ws q p)/\Own w w0.heap.size 76 2 encNd bR bS x2.ns/\Rd w w.heap.size 84 encWr cJ x2.ws/\d.ws.length<=dd/\x2.ws.length<=cK/\Below w0.heap.size w0 w) ?_ ?_
  ·refine Xf J rfl (fun bK=>?_) (fun bK=>?_)
   ·have dQ:=bK;have cL:=bK;refine Zr J<|Ze (Vn X2 D)<|Zm rfl<|Zm rfl<|Zf (Vc (X7m _ x1 d.ns.length dO bP bQ _ bB G.size cF cG d8.top fL u9 ((d.ns.getD p.toNat nZ).p) ⟨dL.1,by omega⟩ (by have:=X1l dP u9.toNat;omega)) X4c) ?_;rintro _ jC ⟨fO,fP,rfl,aN,cM,fQ,i9,hg⟩;have H:=bB;have E:=E.appT H hg rfl;have D:=D.appT H hg rfl;have C:=C.appT H hg rfl;have g:=g.appT H hg rfl;have h:=h.appT H hg rfl;have G:=Below.app G H hg (Qb _) G.size
    clear H hg;clear bB;have bB:=aN;clear aN;refine Zo (Vw [vi (({ x1 with ns:=adN x1.ns u9 ((d.ns.getD p.toNat nZ).p) } : Dg).n),.slice bP d.ns.length bQ,.slice fO (({ x1 with ns:=adN x1.ns u9 ((d.ns.getD p.toNat nZ).p) } : Dg).ws).length fP,vi (({ x1 with ns:=adN x1.ns u9 ((d.ns.getD p.toNat nZ).p) } : Dg).t),vi (({ x1 with ns:=adN x1.ns u9 ((d.ns.getD p.toNat nZ).p) } : Dg).r)] Xd D) ?_;rintro _ jD ⟨ho,hb⟩;have I:=D;have E:=E.oy ho (by omega);have C:=C.oT ho I rfl;have g:=g.oT ho I rfl;have h:=h.oT ho I rfl;have bB:=bB.oT ho I rfl;have cM:=cM.oT ho I rfl;have G:=Below.oy G ho aY;have D:=hb;refine Zn fun a J=>?_;refine Xe ?_;exact ⟨({ x1 with ns:=adN x1.ns u9 ((d.ns.getD p.toNat nZ).p) } : Dg),bP,bQ,fO,fP,J.sb,((Xex cL).symm),(dO.trans (X1m _ _ _).symm),fK,(X4l dP _ _),E,D,C,g,h,bB,cM.top,N,fQ,G⟩
   have dQ:=bK;have cL:=bK;refine Q7<|Xe ?_;exact ⟨x1,bP,bQ,cF,cG,J.sb,((Xel cL).symm),dO,fK,dP,E,D,C,g,h,bB,d8.top,N,fL,G⟩
  rintro a gT ⟨x2,bR,bS,cJ,cK,J,gU,dR,fR,dS,E,D,C,g,h,bC,d9,N,fS,G⟩;refine fM _ _<|Q5 fun _ fT=>?_;refine Q5 fun _ fU=>?_;refine X06 (fun a w=>Fr a 196 [(6,(pZ9 b7)),(8,.slice aS (othW d.ws p q).length aT),(9,.slice aV (othW d.ws q p).length aW),(10,.slice aE m.length aG),(13,vi ((d.ns.getD p.toNat nZ).p)),(14,vi ((d.ns.getD q.toNat nZ).p)),(15,(pZ9 b57)),(16,vi (i:Int)),(17,vi u9),(18,.bool ((othW d.ws p q).any fun y=>y==u9)),(19,.bool ((othW d.ws q p).any fun y=>y==u9)),(120,.slice aE m.length aG),(121,vi (m.length:Int)),(122,vi (i:Int)),(146,.bool (((othW d.ws p q).any fun v=>v==u9)&&((othW d.ws q p).any fun v=>v==u9)))]/\gT=w) ?_ ?_
  ·refine Zr J<|Zm rfl<|Zm rfl ?_
   refine Zg 144 rfl (fun b9=>?_) (fun b9=>?_)
   ·refine Zv (gW b9) (X3 rfl) ?_;refine Ze (X5 rfl b9 rfl) ?_;refine Zn fun a J=>?_;exact ⟨J.sub ⟨rfl,rfl,rfl,rfl,rfl,rfl,rfl,rfl,rfl,rfl,rfl,rfl,rfl,rfl,X1 rfl (by first|rfl|(simp only [U,W,aH,aI,b9,bs];done)|simp [U,W,aH,aI,b9]),trivial⟩,rfl⟩
   refine Zp (gP b9) ?_;refine Ze (X9 rfl b9 rfl) ?_;refine Zn fun a J=>?_;exact ⟨J.sub ⟨rfl,rfl,rfl,rfl,rfl,rfl,rfl,rfl,rfl,rfl,rfl,rfl,rfl,rfl,X1 rfl (by first|rfl|(simp only [U,W,aH,aI,b9,bs];done)|simp [U,W,aH,aI,b9]),trivial⟩,rfl⟩
  rintro a _ ⟨J,rfl⟩;refine fU _ _<|X06 (fun a w=>∃ (x3:Dg),∃ cW cX cY cZ,Fr a 196 [(6,(pZ9 b7)),(8,.slice aS (othW d.ws p q).length aT),(9,.slice aV (othW d.ws q p).length aW),(10,.slice aE m.length aG),(13,vi ((d.ns.getD p.toNat nZ).p)),(14,vi ((d.ns.getD q.toNat nZ).p)),(15,(pZ9 b57)),(16,vi (i:Int)),(17,vi u9),(18,.bool ((othW d.ws p q).any fun y=>y==u9)),(19,.bool ((othW d.ws q p).any fun y=>y==u9)),(120,.slice aE m.length aG),(121,vi (m.length:Int)),(122,vi (i:Int))]/\(x3=stN (((othW d.ws p q).any fun v=>v==u9)&&((othW d.ws q p).any fun v=>v==u9)) x2 u9 4)/\(d.ns.length=x3.ns.length)/\(x3.ws.length<=o.ws.length)/\(PhN x3.ns)/\Blk w b7 31 [vi 0,.slice none 0 0,.slice none 0 0,vi 0,vi 0]/\Blk w b57 31 [vi x3.n,.slice cW d.ns.length cX,.slice cY x3.ws.length cZ,vi x3.t,vi x3.r]/\Own w w0.heap.size 3 1 encI aE aG m/\Own w w0.heap.size 3 1 encI aS aT (othW d.ws p q)/\Own w w0.heap.size 3 1 encI aV aW (othW d.ws q p)/\Own w w0.heap.size 76 2 encNd cW cX x3.ns/\Rd w w.heap.size 84 encWr cY x3.ws/\d.ws.length<=dd/\x3.ws.length<=cZ/\Below w0.heap.size w0 w) ?_ ?_
  ·refine Xf J rfl (fun bL=>?_) (fun bL=>?_)
   ·have dT:=bL;have cN:=bL;refine Zr J<|Ze (Vn X2 D)<|Zm rfl<|Zf (Vc (X7m _ x2 d.ns.length dR bR bS _ bC G.size cJ cK d9.top fS u9 4 ⟨dL.1,by omega⟩ (by have:=X1l dS u9.toNat;omega)) X4c) ?_;rintro _ jE ⟨fV,fW,rfl,aN,cO,fX,iA,hg⟩;have H:=bC;have E:=E.appT H hg rfl;have D:=D.appT H hg rfl;have C:=C.appT H hg rfl;have g:=g.appT H hg rfl;have h:=h.appT H hg rfl;have G:=Below.app G H hg (Qb _) G.size
    clear H hg;clear bC;have bC:=aN;clear aN;refine Zo (Vw [vi (({ x2 with ns:=adN x2.ns u9 4 } : Dg).n),.slice bR d.ns.length bS,.slice fV (({ x2 with ns:=adN x2.ns u9 4 } : Dg).ws).length fW,vi (({ x2 with ns:=adN x2.ns u9 4 } : Dg).t),vi (({ x2 with ns:=adN x2.ns u9 4 } : Dg).r)] Xd D) ?_;rintro _ jF ⟨ho,hb⟩;have I:=D;have E:=E.oy ho (by omega);have C:=C.oT ho I rfl;have g:=g.oT ho I rfl;have h:=h.oT ho I rfl;have bC:=bC.oT ho I rfl;have cO:=cO.oT ho I rfl;have G:=Below.oy G ho aY;have D:=hb;refine Zn fun a J=>?_;refine Xe ?_;exact ⟨({ x2 with ns:=adN x2.ns u9 4 } : Dg),bR,bS,fV,fW,J.sb,((Xex cN).symm),(dR.trans (X1m _ _ _).symm),fR,(X4l dS _ _),E,D,C,g,h,bC,cO.top,N,fX,G⟩
   have dT:=bL;have cN:=bL;refine Q7<|Xe ?_;exact ⟨x2,bR,bS,cJ,cK,J.sb,((Xel cN).symm),dR,fR,dS,E,D,C,g,h,bC,d9.top,N,fS,G⟩
  rintro a gX ⟨x3,cW,cX,cY,cZ,J,gY,gZ,hJ,hS,E,D,C,g,h,fY,fZ,N,hU,G⟩;refine fT _ _<|Zs J fun _ g5=>?_;refine Zm rfl<|Zm rfl ?_;have aZ:=(C.rd.top).takeK Xh i;refine Ze (X2d (l:=m) (k:=i) rfl rfl Xk X0a rfl hi C.cap)<|Ze (X07 rfl Xk)<|Zm rfl<|Zt g5 fun a J=>?_;refine Q8<|X02 (σ:=Nat×Dg) (fun (s:Nat×Dg) (a:Act) (w:World)=>match s with|(j,z)=>∃ bM bN bZ cA,Fr a 196 [(6,(pZ9 b7)),(8,.slice aS (othW d.ws p q).length aT),(9,.slice aV (othW d.ws q p).length aW),(10,.slice aE m.length aG),(13,vi ((d.ns.getD p.toNat nZ).p)),(14,vi ((d.ns.getD q.toNat nZ).p)),(15,(pZ9 b57)),(17,vi u9),(18,.bool ((othW d.ws p q).any fun y=>y==u9)),(19,.bool ((othW d.ws q p).any fun y=>y==u9)),(120,.slice aE m.length aG),(121,vi (m.length:Int)),(122,vi (i:Int)),(152,.slice aE (m.take i).length aG),(153,vi ((m.take i).length:Int)),(154,vi (j:Int))]/\(j<=(m.take i).length)/\(z=pvF (othW d.ws p q) (othW d.ws q p) u9 ((m.take i).take j) x3)/\(d.ns.length=z.ns.length)/\(z.ws.length<=o.ws.length+j)/\(PhN z.ns)/\Blk w b7 31 [vi 0,.slice none 0 0,.slice none 0 0,vi 0,vi 0]/\Blk w b57 31 [vi z.n,.slice bM d.ns.length bN,.slice bZ z.ws.length cA,vi z.t,vi z.r]/\Own w w0.heap.size 3 1 encI aE aG m/\Own w w0.heap.size 3 1 encI aS aT (othW d.ws p q)/\Own w w0.heap.size 3 1 encI aV aW (othW d.ws q p)/\Rd w gX.heap.size 3 encI aE (m.take i)/\Own w w0.heap.size 76 2 encNd bM bN z.ns/\Rd w w.heap.size 84 encWr bZ z.ws/\d.ws.length<=dd/\z.ws.length<=cA/\Below w0.heap.size w0 w) (fun (s:Nat×Dg)=>match s with|(j,z)=>(m.take i).length-j) (0,x3) ?_ ?_
  ·exact ⟨cW,cX,cY,cZ,J.sb,(Qf _),rfl,gZ,hJ,hS,E,D,C,g,h,aZ,fY,fZ.top,N,hU,G⟩
  rintro ⟨j,z⟩ a w36 ⟨bM,bN,bZ,cA,J,hj,hz,cB,hY,cP,E,D,C,g,h,aZ,b0,bO,N,dU,G⟩;refine Zs J fun _ g6=>?_;refine Ze (X0i rfl rfl)<|ZX g6 fun a J _ g7=>?_
  refine Xf J rfl (fun bA=>?_) (fun bA=>?_)
  ·have aU:=bA;have bA:=Q2 bA
   obtain ⟨jG,iB⟩:=X4 (l:=(m.take i)) (k:=j) (by omega)
   obtain ⟨v9,dV⟩:=X4 (l:=m.take i) (k:=j) (by have:=bA;omega)
   have jH:j<i:=by have:=(Qg.1 dV).1;rw [Qn] at this;omega
   have bG:=Xgo (l:=(othW d.ws p q)) (m:=(othW d.ws q p)) (x:=u9) (o:=x3) dV
   rw [<- hz] at bG
   refine Q7<|g7 _ _<|Q5 fun _ dA=>?_;refine Q8<|Zs J fun _ g8=>?_;refine Zi (k:=j) (u:=v9) (enc:=encI) (l:=(m.take i)) tv0 rfl rfl Xk X0a Xh aZ dV rfl ?_;intro iC d5;refine Ze (X0 rfl Xa d5)<|Za rfl<|ZX g8 fun a J _ dW=>?_;refine X06 (fun a w=>Fr a 196 [(6,(pZ9 b7)),(8,.slice aS (othW d.ws p q).length aT),(9,.slice aV (othW d.ws q p).length aW),(10,.slice aE m.length aG),(13,vi ((d.ns.getD p.toNat nZ).p)),(14,vi ((d.ns.getD q.toNat nZ).p)),(15,(pZ9 b57)),(17,vi u9),(18,.bool ((othW d.ws p q).any fun y=>y==u9)),(19,.bool ((othW d.ws q p).any fun y=>y==u9)),(21,vi v9),(120,.slice aE m.length aG),(121,vi (m.length:Int)),(122,vi (i:Int)),(152,.slice aE (m.take i).length aG),(153,vi ((m.take i).length:Int)),(154,vi (j:Int)),(170,.bool ((((othW d.ws p q).any fun y=>y==u9)&&((othW d.ws q p).any fun y=>y==v9)) != (((othW d.ws q p).any fun y=>y==u9)&&((othW d.ws p q).any fun y=>y==v9))))]/\Below w36.heap.size w36 w) ?_ ?_
   ·have aB:Below w36.heap.size w36 w36:=Below.refl _ _
    refine Zr J<|Zm rfl<|Zm rfl ?_
    refine Zg 159 rfl (fun aA=>?_) (fun aA=>?_)
    ·refine Zv (gW aA) (X3 rfl) ?_;refine Zv (gW aA) (X3 rfl) ?_;refine Zk (gW aA) (Vc (Xfv _ aV aW (othW d.ws q p) h.rd.top v9 (by omega)) X6y) ?_;rintro _ w37 ⟨rfl,L⟩;have g:=g.bw L;have G:=btr G L;have aB:=btr aB L;refine Ze (X5 rfl aA rfl)<|Zm rfl<|Zm rfl ?_
     refine Zg 165 rfl (fun aJ=>?_) (fun aJ=>?_)
     ·refine Zv (gW aJ) (X3 rfl) ?_;refine Zv (gW aJ) (X3 rfl) ?_;refine Zk (gW aJ) (Vc (Xfv _ aS aT (othW d.ws p q) g.rd.top v9 (by omega)) X6y) ?_;rintro _ w38 ⟨rfl,L⟩;have G:=btr G L;have aB:=btr aB L;refine Ze (X5 rfl aJ rfl)<|Ze (X6j Tryz.underlying4 rfl rfl) ?_;refine Zn fun a J=>?_
      have aO:Below w36.heap.size w36 w38:=aB
      exact ⟨J.sub ⟨rfl,rfl,rfl,rfl,rfl,rfl,rfl,rfl,rfl,rfl,rfl,rfl,rfl,rfl,rfl,rfl,rfl,X1 rfl (by first|rfl|(simp only [U,W,aH,aI,aU,aA,aJ,bs];done)|simp [U,W,aH,aI,aU,aA,aJ]),trivial⟩,aO⟩
     (iterate 3 refine Zp (gP aJ) ?_);refine Ze (X9 rfl aJ rfl)<|Ze (X6j Tryz.underlying4 rfl rfl) ?_;refine Zn fun a J=>?_
     have aO:Below w36.heap.size w36 w37:=aB
     exact ⟨J.sub ⟨rfl,rfl,rfl,rfl,rfl,rfl,rfl,rfl,rfl,rfl,rfl,rfl,rfl,rfl,rfl,rfl,rfl,X1 rfl (by first|rfl|(simp only [U,W,aH,aI,aU,aA,aJ,bs];done)|simp [U,W,aH,aI,aU,aA,aJ]),trivial⟩,aO⟩
    (iterate 3 refine Zp (gP aA) ?_);refine Ze (X9 rfl aA rfl)<|Zm rfl<|Zm rfl ?_
    refine Zg 165 rfl (fun aK=>?_) (fun aK=>?_)
    ·refine Zv (gW aK) (X3 rfl) ?_;refine Zv (gW aK) (X3 rfl) ?_;refine Zk (gW aK) (Vc (Xfv _ aS aT (othW d.ws p q) g.rd.top v9 (by omega)) X6y) ?_;rintro _ w39 ⟨rfl,L⟩;have G:=btr G L;have aB:=btr aB L;refine Ze (X5 rfl aK rfl)<|Ze (X6j Tryz.underlying4 rfl rfl) ?_;refine Zn fun a J=>?_
     have aO:Below w36.heap.size w36 w39:=aB
     exact ⟨J.sub ⟨rfl,rfl,rfl,rfl,rfl,rfl,rfl,rfl,rfl,rfl,rfl,rfl,rfl,rfl,rfl,rfl,rfl,X1 rfl (by first|rfl|(simp only [U,W,aH,aI,aU,aA,aK,bs];done)|simp [U,W,aH,aI,aU,aA,aK]),trivial⟩,aO⟩
    (iterate 3 refine Zp (gP aK) ?_);refine Ze (X9 rfl aK rfl)<|Ze (X6j Tryz.underlying4 rfl rfl) ?_;refine Zn fun a J=>?_
    have aO:Below w36.heap.size w36 w36:=aB
    exact ⟨J.sub ⟨rfl,rfl,rfl,rfl,rfl,rfl,rfl,rfl,rfl,rfl,rfl,rfl,rfl,rfl,rfl,rfl,rfl,X1 rfl (by first|rfl|(simp only [U,W,aH,aI,aU,aA,aK,bs];done)|simp [U,W,aH,aI,aU,aA,aK]),trivial⟩,aO⟩
   rintro a jI ⟨J,L⟩;have E:=E.bw L;have D:=D.bw L;have C:=C.bw L;have g:=g.bw L;have h:=h.bw L;have aZ:=aZ.bw L;have b0:=b0.bw L;have bO:=bO.bw L;have G:=btr G L;refine dW _ _ ?_
   refine Xf J rfl (fun bD=>?_) (fun bD=>?_)
   ·have d6:=bD
    rw [Xqg bD] at bG
    refine Zr J<|Ze (Vn X2 D)<|Zm rfl<|Zm rfl<|Zf (Vc (Xm1 _ z d.ns.length cB bM bN _ b0 G.size bZ cA bO.top dU u9 v9 (by have:=hY;have:=gR;omega)) Xdp) ?_;rintro _ jJ ⟨dB,dC,rfl,aN,bT,dX,i0,hg⟩;have H:=b0;have E:=E.appT H hg rfl;have D:=D.appT H hg rfl;have C:=C.appT H hg rfl;have g:=g.appT H hg rfl;have h:=h.appT H hg rfl;have aZ:=aZ.appT H hg rfl;have G:=Below.app G H hg (Qb _) G.size
    clear H hg;clear b0;have b0:=aN;clear aN;refine Zo (Vw [vi ((tgD z u9 v9).n),.slice bM d.ns.length bN,.slice dB ((tgD z u9 v9).ws).length dC,vi ((tgD z u9 v9).t),vi ((tgD z u9 v9).r)] Xd D) ?_;rintro _ jK ⟨ho,hb⟩;have I:=D;have E:=E.oy ho (by omega);have C:=C.oT ho I rfl;have g:=g.oT ho I rfl;have h:=h.oT ho I rfl;have aZ:=aZ.oT ho I rfl;have b0:=b0.oT ho I rfl;have bT:=bT.oT ho I rfl;have G:=Below.oy G ho aY;have D:=hb;refine Zn fun a J=>?_;refine Xb<|dA _ _<|Zr J<|Ze (Xr rfl rfl (by omega) (by omega))<|Zm rfl ?_;refine Zn fun a J=>?_;refine Xe ?_;exact ⟨(j+1,(tgD z u9 v9)),⟨bM,bN,dB,dC,J.sb,(by omega),(by rw [bG]),(by first|exact cB|(rw [(X28 z u9 v9).1];exact cB)),(by first|omega|(have:=(X28 z u9 v9).2;omega)),(by first|exact cP|(rw [(X28 z u9 v9).1];exact cP)),E,D,C,g,h,aZ,b0,bT.top,N,dX,G⟩,(by first|omega|(dsimp only;omega))⟩
   have d6:=bD
   rw [Xpy bD] at bG
   refine Q7<|Xb<|dA _ _<|Zr J ?_;refine Ze (Xr rfl rfl (by omega) (by omega))<|Zm rfl ?_;refine Zn fun a J=>?_;refine Xe ?_;exact ⟨(j+1,z),⟨bM,bN,bZ,cA,J.sb,(by omega),(by rw [bG]),(by first|exact cB|(rw [(X28 z u9 v9).1];exact cB)),(by first|omega|(have:=(X28 z u9 v9).2;omega)),(by first|exact cP|(rw [(X28 z u9 v9).1];exact cP)),E,D,C,g,h,aZ,b0,bO.top,N,dU,G⟩,(by first|omega|(dsimp only;omega))⟩
  have aU:=bA;have bA:=Q1 bA
  have i1:z=pvM (d.ns.getD p.toNat nZ).p (d.ns.getD q.toNat nZ).p (othW d.ws p q) (othW d.ws q p) m (id0 (id0 d p) q) (i+1):=by rw [hz,Qi (by have:=bA;omega),Xa9 bX,<- f9,gY,gU,gS];rfl
  have jL:j<=i:=by rw [Qn] at hj;omega
  refine Q9<|Xl<|Xl<|X01 ?_;refine Xb<|fC _ _<|Zr J<|Ze (Xr rfl rfl (by omega) (by omega))<|Zm rfl ?_;refine Zn fun a J=>?_;refine Xe ?_;exact ⟨(i+1,z),⟨bM,bN,bZ,cA,J.sb,(by omega),i1,cB,(by omega),cP,E,D,C,g,h,b0,bO.top,N,dU,G⟩,(by first|omega|(dsimp only;omega))⟩
 have aI:=b8;have b8:=Q1 b8
 have dD:o=pvM (d.ns.getD p.toNat nZ).p (d.ns.getD q.toNat nZ).p (othW d.ws p q) (othW d.ws q p) (pvL d p q) (id0 (id0 d p) q) (pvL d p q).length:=by rw [f9,bY];congr 1;have:=b8;rw [bY] at this hi;omega
 refine Q9<|Xl<|Xl<|X01 ?_;refine f7 _ _<|Q5 fun _ cQ=>?_;refine Zs J fun _ dY=>?_;refine Zm rfl<|Zm rfl<|Ze (Xr rfl rfl (by omega) (by omega))<|Ze (X0f rfl rfl)<|Zt dY fun a J=>?_
 refine Xf J rfl (fun bE=>?_) (fun bE=>?_)
 ·have d7:=bE;have cR:=bE;refine Zr J<|Ze (Vd rfl X0l 3)<|Ze (X0 rfl Xa (D.at 3))<|Ze (X3h rfl rfl)<|Ze (Vd rfl X0l 3)<|Zo (Vu (vs:=[vi (wr (o.t+4))]) (l':=[vi o.n,.slice b1 d.ns.length b2,.slice b5 o.ws.length b6,vi (wr (o.t+4)),vi o.r]) rfl rfl X0a D) ?_;rintro _ jM ⟨ho,hb⟩;have I:=D;have E:=E.oy ho (by omega);have a8:=a8.oT ho I rfl;have aF:=aF.oT ho I rfl;have G:=Below.oy G ho aY;have D:=hb;refine Zx cQ fun a J _ dZ=>?_;refine Ze (Vd rfl Xy 4)<|Ze (X0 rfl Xa (D.at 4))<|Zm rfl<|Ze (X07 rfl Xk)<|Ze (X1d rfl rfl (by omega) (by omega))<|Zm rfl<|Ze (X07 rfl Xk)<|Ze (X1d rfl rfl (by omega) (by omega))<|Ze (X3h rfl rfl)<|Ze (Vd rfl Xy 4) ?_;refine Zo (Vu (vs:=[vi (wr (o.r+((1-((othW d.ws p q).length:Int))-((othW d.ws q p).length:Int))))]) (l':=[vi o.n,.slice b1 d.ns.length b2,.slice b5 o.ws.length b6,vi (wr (o.t+4)),vi (wr (o.r+((1-((othW d.ws p q).length:Int))-((othW d.ws q p).length:Int))))]) rfl rfl X0a D) ?_;rintro _ jN ⟨ho,hb⟩;have I:=D;have E:=E.oy ho (by omega);have a8:=a8.oT ho I rfl;have aF:=aF.oT ho I rfl;have G:=Below.oy G ho aY;have D:=hb;refine Zx dZ fun a J _ e8=>?_;refine Ze (Vn X2 D)<|Zo (Vw [vi o.n,.slice b1 d.ns.length b2,.slice b5 o.ws.length b6,vi (wr (o.t+4)),vi (wr (o.r+((1-((othW d.ws p q).length:Int))-((othW d.ws q p).length:Int))))] Xd E) ?_;rintro _ jO ⟨ho,hb⟩;have I:=E;have a8:=a8.oT ho I rfl;have aF:=aF.oT ho I rfl;have G:=Below.oy G ho bU;have E:=hb;refine Za rfl<|Zt e8 fun a J=>?_
  refine Q6 (X6 J (X1h J rfl (ResV.cellN (l:=[vi o.n,.slice b1 d.ns.length b2,.slice b5 o.ws.length b6,vi (wr (o.t+4)),vi (wr (o.r+((1-((othW d.ws p q).length:Int))-((othW d.ws q p).length:Int))))]) rfl X2 (E.at 0) rfl) rfl) ?_)
  rw [eQ,Q4 rfl,Xas dD,Q4 cR,aD]
  exact ⟨b1,b2,b5,b6,rfl,a8.rd.top,aF.top,cV,cE,G⟩
 have d7:=bE;have cR:=bE;refine Q7<|cQ _ _<|Zs J fun _ e9=>?_;refine Ze (Vd rfl Xy 4)<|Ze (X0 rfl Xa (D.at 4))<|Zm rfl<|Ze (X07 rfl Xk)<|Ze (X1d rfl rfl (by omega) (by omega))<|Zm rfl<|Ze (X07 rfl Xk)<|Ze (X1d rfl rfl (by omega) (by omega))<|Ze (X3h rfl rfl)<|Ze (Vd rfl Xy 4) ?_;refine Zo (Vu (vs:=[vi (wr (o.r+((1-((othW d.ws p q).length:Int))-((othW d.ws q p).length:Int))))]) (l':=[vi o.n,.slice b1 d.ns.length b2,.slice b5 o.ws.length b6,vi o.t,vi (wr (o.r+((1-((othW d.ws p q).length:Int))-((othW d.ws q p).length:Int))))]) rfl rfl X0a D) ?_;rintro _ jP ⟨ho,hb⟩;have I:=D;have E:=E.oy ho (by omega);have a8:=a8.oT ho I rfl;have aF:=aF.oT ho I rfl;have G:=Below.oy G ho aY;have D:=hb;refine Zx e9 fun a J _ eA=>?_;refine Ze (Vn X2 D)<|Zo (Vw [vi o.n,.slice b1 d.ns.length b2,.slice b5 o.ws.length b6,vi o.t,vi (wr (o.r+((1-((othW d.ws p q).length:Int))-((othW d.ws q p).length:Int))))] Xd E) ?_;rintro _ jQ ⟨ho,hb⟩;have I:=E;have a8:=a8.oT ho I rfl;have aF:=aF.oT ho I rfl;have G:=Below.oy G ho bU;have E:=hb;refine Za rfl<|Zt eA fun a J=>?_
 refine Q6 (X6 J (X1h J rfl (ResV.cellN (l:=[vi o.n,.slice b1 d.ns.length b2,.slice b5 o.ws.length b6,vi o.t,vi (wr (o.r+((1-((othW d.ws p q).length:Int))-((othW d.ws q p).length:Int))))]) rfl X2 (E.at 0) rfl) rfl) ?_)
 rw [eQ,Q4 rfl,Xas dD,Q3 (by rw [cR];decide),aD]
 exact ⟨b1,b2,b5,b6,rfl,a8.rd.top,aF.top,cV,cE,G⟩
theorem Xro(w0:World)(d:Dg)(md:Nat)(p:md=d.ns.length)(Ad:Option Addr)(cd:Nat)(q:Rd w0 w0.heap.size 76 encNd Ad d.ns)(Bd:Option Addr)(dd:Nat)(y:Rd w0 w0.heap.size 84 encWr Bd d.ws)(z:d.ws.length<=dd)(x:Rz)(hD:InD d) : Ret Tryz.prog 166 [.agg #[vi d.n,.slice Ad md cd,.slice Bd d.ws.length dd,vi d.t,vi d.r],.agg #[vi x.u,vi x.a,vi x.b]] w0 (fun v w=>∃ A c B e,v=.tuple #[.agg #[vi (if (doC d x)=true then doD d x else d).n,.slice A md c,.slice B (if (doC d x)=true then doD d x else d).ws.length e,vi (if (doC d x)=true then doD d x else d).t,vi (if (doC d x)=true then doD d x else d).r],.bool (doC d x)]/\Rd w w.heap.size 76 encNd A (if (doC d x)=true then doD d x else d).ns/\Rd w w.heap.size 84 encWr B (if (doC d x)=true then doD d x else d).ws/\(if (doC d x)=true then doD d x else d).ws.length<=e/\md=(if (doC d x)=true then doD d x else d).ns.length/\Below w0.heap.size w0 w):=by
 refine enter Tryz.func166 rfl 59 rfl rfl ?_;intro a i
 have g:=bz w0
 refine Zs i fun _ bT=>?_;refine Zf (X0q (zs:=[vi d.n,.slice Ad md cd,.slice Bd d.ws.length dd,vi d.t,vi d.r]) rfl rfl) ?_;rintro _ w1 ⟨b4,rfl,bU,h,m⟩;have bZ:=Q0 g.size bU;have g:=btr g h;refine Zf (X0q (zs:=[vi x.u,vi x.a,vi x.b]) rfl rfl) ?_;rintro _ w2 ⟨b5,rfl,bW,h,o⟩;have cA:=Q0 g.size bW;have m:=m.bw h;have g:=btr g h;refine Zf (Xw (zs:=[vi 0,.slice none 0 0,.slice none 0 0,vi 0,vi 0]) X0e rfl) ?_;rintro _ w3 ⟨b8,rfl,bX,h,f⟩
 have bS:b4≠b8:=by have:=m.lt;omega
 have C:=Q0 g.size bX;have m:=m.bw h;have o:=o.bw h;have g:=btr g h;refine Za rfl<|ZX bT fun a i _ bY=>?_;refine Zs i fun _ b3=>?_;refine Ze (Vd rfl X1p 0)<|Ze (X0 rfl Xa (o.at 0))<|Zt b3 fun a i=>?_;refine Q8<|Zs i fun _ b6=>?_;refine Ze (X0f rfl rfl)<|Za rfl<|Zt b6 fun a i=>?_
 refine Xf i rfl (fun E=>?_) (fun E=>?_)
 ·have aX:=E;have k:=Xow (d:=d) E;refine Zs i fun _ b7=>?_;refine Ze (Vn X2 m)<|Ze (Vd rfl X14 1)<|Ze (X0 rfl Xa (o.at 1))<|Ze (Vd rfl X1r 2)<|Ze (X0 rfl Xa (o.at 2))<|Zf (Vc (Xsj _ d md p Ad cd (q.bx g).top Bd dd (y.bx g).top z x.a x.b hD) Xk5) ?_;rintro _ w4 ⟨N,Q,U,W,rfl,a6,a7,b9,cB,h⟩;have f:=f.bw h;have g:=btr g h;refine Ze (Xn (vs:=[.agg #[vi ((if (fuC d x.a x.b)=true then fuD d x.a x.b else d).n),.slice N md Q,.slice U ((if (fuC d x.a x.b)=true then fuD d x.a x.b else d).ws).length W,vi ((if (fuC d x.a x.b)=true then fuD d x.a x.b else d).t),vi ((if (fuC d x.a x.b)=true then fuD d x.a x.b else d).r)],.bool (fuC d x.a x.b)]) rfl rfl)<|Ze (Xn (vs:=[.agg #[vi ((if (fuC d x.a x.b)=true then fuD d x.a x.b else d).n),.slice N md Q,.slice U ((if (fuC d x.a x.b)=true then fuD d x.a x.b else d).ws).length W,vi ((if (fuC d x.a x.b)=true then fuD d x.a x.b else d).t),vi ((if (fuC d x.a x.b)=true then fuD d x.a x.b else d).r)],.bool (fuC d x.a x.b)]) rfl rfl)<|Zo (Vw [vi ((if (fuC d x.a x.b)=true then fuD d x.a x.b else d).n),.slice N md Q,.slice U ((if (fuC d x.a x.b)=true then fuD d x.a x.b else d).ws).length W,vi ((if (fuC d x.a x.b)=true then fuD d x.a x.b else d).t),vi ((if (fuC d x.a x.b)=true then fuD d x.a x.b else d).r)] Xd f) ?_;rintro _ w5 ⟨D,M⟩;have j:=f;have a6:=a6.oT D j rfl;have a7:=a7.oT D j rfl;have g:=Below.oy g D C;have f:=M;refine Za rfl<|Zt b7 fun a i=>?_;refine Q6<|Xx<|X8<|X6 i (X1h i rfl (ResV.cellN (l:=[vi ((if (fuC d x.a x.b)=true then fuD d x.a x.b else d).n),.slice N md Q,.slice U ((if (fuC d x.a x.b)=true then fuD d x.a x.b else d).ws).length W,vi ((if (fuC d x.a x.b)=true then fuD d x.a x.b else d).t),vi ((if (fuC d x.a x.b)=true then fuD d x.a x.b else d).r)]) rfl X2 (f.at 0) rfl) rfl) ?_
  rw [k.1,k.2]
  exact ⟨N,Q,U,W,rfl,a6.top,a7.top,b9,by assumption,g⟩
 have aX:=E
 have g1:=E
 refine Zs i fun _ bA=>?_;refine Ze (X0f rfl rfl)<|Za rfl<|Zt bA fun a i=>?_
 refine Xf i rfl (fun G=>?_) (fun G=>?_)
 ·have aY:=G;have k:=Xp2 (d:=d) g1 G;refine Zs i fun _ bB=>?_;refine Ze (Vn X2 m)<|Ze (Vd rfl X14 1)<|Ze (X0 rfl Xa (o.at 1))<|Ze (Vd rfl X1r 2)<|Ze (X0 rfl Xa (o.at 2))<|Zf (Vc (Xrb _ d md p Ad cd (q.bx g).top Bd dd (y.bx g).top z x.a x.b hD) Xj4) ?_;rintro _ w6 ⟨a8,aA,aB,aC,rfl,aD,aE,bC,cC,h⟩;have f:=f.bw h;have g:=btr g h;refine Ze (Xn (vs:=[.agg #[vi ((if (pvC d x.a x.b)=true then pvD d x.a x.b else d).n),.slice a8 md aA,.slice aB ((if (pvC d x.a x.b)=true then pvD d x.a x.b else d).ws).length aC,vi ((if (pvC d x.a x.b)=true then pvD d x.a x.b else d).t),vi ((if (pvC d x.a x.b)=true then pvD d x.a x.b else d).r)],.bool (pvC d x.a x.b)]) rfl rfl)<|Ze (Xn (vs:=[.agg #[vi ((if (pvC d x.a x.b)=true then pvD d x.a x.b else d).n),.slice a8 md aA,.slice aB ((if (pvC d x.a x.b)=true then pvD d x.a x.b else d).ws).length aC,vi ((if (pvC d x.a x.b)=true then pvD d x.a x.b else d).t),vi ((if (pvC d x.a x.b)=true then pvD d x.a x.b else d).r)],.bool (pvC d x.a x.b)]) rfl rfl)<|Zo (Vw [vi ((if (pvC d x.a x.b)=true then pvD d x.a x.b else d).n),.slice a8 md aA,.slice aB ((if (pvC d x.a x.b)=true then pvD d x.a x.b else d).ws).length aC,vi ((if (pvC d x.a x.b)=true then pvD d x.a x.b else d).t),vi ((if (pvC d x.a x.b)=true then pvD d x.a x.b else d).r)] Xd f) ?_;rintro _ w7 ⟨D,M⟩;have j:=f;have aD:=aD.oT D j rfl;have aE:=aE.oT D j rfl;have g:=Below.oy g D C;have f:=M;refine Za rfl<|Zt bB fun a i=>?_;refine Q6<|Xx<|X8<|X6 i (X1h i rfl (ResV.cellN (l:=[vi ((if (pvC d x.a x.b)=true then pvD d x.a x.b else d).n),.slice a8 md aA,.slice aB ((if (pvC d x.a x.b)=true then pvD d x.a x.b else d).ws).length aC,vi ((if (pvC d x.a x.b)=true then pvD d x.a x.b else d).t),vi ((if (pvC d x.a x.b)=true then pvD d x.a x.b else d).r)]) rfl X2 (f.at 0) rfl) rfl) ?_
  rw [k.1,k.2]
  exact ⟨a8,aA,aB,aC,rfl,aD.top,aE.top,bC,by assumption,g⟩
 have aY:=G
 have g4:=G
 refine Q7<|Xb<|bY _ _<|Q5 fun _ bD=>?_;refine Zs i fun _ bE=>?_;refine Ze (Vd rfl X1r 2)<|Ze (X0 rfl Xa (o.at 2))<|Ze (X1c rfl rfl)<|Zt bE fun a i=>?_
 refine Xf i rfl (fun H=>?_) (fun H=>?_)
 ·have aZ:=H;have k:=Xs1 (d:=d) g1 g4 H;refine Zs i fun _ bF=>?_;refine Ze (Vn X2 m)<|Zo (Vw [vi d.n,.slice Ad md cd,.slice Bd d.ws.length dd,vi d.t,vi d.r] Xd f) ?_;rintro _ w8 ⟨D,M⟩;have j:=f;have g:=Below.oy g D C;have f:=M;refine Za rfl<|Zt bF fun a i=>?_;refine Q6<|X8<|X6 i (X1h i rfl (ResV.cellN (l:=[vi d.n,.slice Ad md cd,.slice Bd d.ws.length dd,vi d.t,vi d.r]) rfl X2 (f.at 0) rfl) rfl) ?_
  rw [k,Q3 Bool.false_ne_true]
  exact ⟨Ad,cd,Bd,dd,rfl,(q.bx g).top,(y.bx g).top,z,p,g⟩
 have aZ:=H
 have gb:=H
 refine Q7<|bD _ _<|Q5 fun _ bG=>?_;refine Zs i fun _ bH=>?_;refine Ze (Vd rfl X1p 0)<|Ze (X0 rfl Xa (o.at 0))<|Zt bH fun a i=>?_;refine Q8<|Zs i fun _ bI=>?_;refine Ze (X0f rfl rfl)<|Za rfl<|Zt bI fun a i=>?_
 refine Xf i rfl (fun I=>?_) (fun I=>?_)
 ·have b0:=I;have k:=Xne (d:=d) g1 g4 gb I;refine Zs i fun _ bJ=>?_;refine Ze (Vn X2 m)<|Ze (Vd rfl X14 1)<|Ze (X0 rfl Xa (o.at 1))<|Zf (Vc (Xsq _ d md p Ad cd (q.bx g).top Bd dd (y.bx g).top z x.a hD) Xi1) ?_;rintro _ w9 ⟨aF,aG,aH,aI,rfl,aJ,aK,bK,cD,h⟩;have f:=f.bw h;have g:=btr g h;refine Ze (Xn (vs:=[.agg #[vi ((if (idC d x.a)=true then idD d x.a else d).n),.slice aF md aG,.slice aH ((if (idC d x.a)=true then idD d x.a else d).ws).length aI,vi ((if (idC d x.a)=true then idD d x.a else d).t),vi ((if (idC d x.a)=true then idD d x.a else d).r)],.bool (idC d x.a)]) rfl rfl)<|Ze (Xn (vs:=[.agg #[vi ((if (idC d x.a)=true then idD d x.a else d).n),.slice aF md aG,.slice aH ((if (idC d x.a)=true then idD d x.a else d).ws).length aI,vi ((if (idC d x.a)=true then idD d x.a else d).t),vi ((if (idC d x.a)=true then idD d x.a else d).r)],.bool (idC d x.a)]) rfl rfl)<|Zo (Vw [vi ((if (idC d x.a)=true then idD d x.a else d).n),.slice aF md aG,.slice aH ((if (idC d x.a)=true then idD d x.a else d).ws).length aI,vi ((if (idC d x.a)=true then idD d x.a else d).t),vi ((if (idC d x.a)=true then idD d x.a else d).r)] Xd f) ?_;rintro _ cG ⟨D,M⟩;have j:=f;have aJ:=aJ.oT D j rfl;have aK:=aK.oT D j rfl;have g:=Below.oy g D C;have f:=M;refine Za rfl<|Zt bJ fun a i=>?_;refine Q6<|Xx<|X8<|X6 i (X1h i rfl (ResV.cellN (l:=[vi ((if (idC d x.a)=true then idD d x.a else d).n),.slice aF md aG,.slice aH ((if (idC d x.a)=true then idD d x.a else d).ws).length aI,vi ((if (idC d x.a)=true then idD d x.a else d).t),vi ((if (idC d x.a)=true then idD d x.a else d).r)]) rfl X2 (f.at 0) rfl) rfl) ?_
  rw [k.1,k.2]
  exact ⟨aF,aG,aH,aI,rfl,aJ.top,aK.top,bK,by assumption,g⟩
 have b0:=I
 have g2:=I
 refine Zs i fun _ bL=>?_;refine Ze (X0f rfl rfl)<|Za rfl<|Zt bL fun a i=>?_
 refine Xf i rfl (fun J=>?_) (fun J=>?_)
 ·have b1:=J;have k:=Xtv (d:=d) g1 g4 gb g2 J;refine Zs i fun _ bM=>?_;refine Ze (Vn X2 m)<|Ze (Vd rfl X14 1)<|Ze (X0 rfl Xa (o.at 1))<|Zf (Vc (Xq9 _ d md p Ad cd (q.bx g).top Bd dd (y.bx g).top z x.a hD) Xjq) ?_;rintro _ cH ⟨aL,aM,aN,aO,rfl,aP,aQ,bN,cE,h⟩;have f:=f.bw h;have g:=btr g h;refine Ze (Xn (vs:=[.agg #[vi ((if (lcC d x.a)=true then lcD d x.a else d).n),.slice aL md aM,.slice aN ((if (lcC d x.a)=true then lcD d x.a else d).ws).length aO,vi ((if (lcC d x.a)=true then lcD d x.a else d).t),vi ((if (lcC d x.a)=true then lcD d x.a else d).r)],.bool (lcC d x.a)]) rfl rfl)<|Ze (Xn (vs:=[.agg #[vi ((if (lcC d x.a)=true then lcD d x.a else d).n),.slice aL md aM,.slice aN ((if (lcC d x.a)=true then lcD d x.a else d).ws).length aO,vi ((if (lcC d x.a)=true then lcD d x.a else d).t),vi ((if (lcC d x.a)=true then lcD d x.a else d).r)],.bool (lcC d x.a)]) rfl rfl)<|Zo (Vw [vi ((if (lcC d x.a)=true then lcD d x.a else d).n),.slice aL md aM,.slice aN ((if (lcC d x.a)=true then lcD d x.a else d).ws).length aO,vi ((if (lcC d x.a)=true then lcD d x.a else d).t),vi ((if (lcC d x.a)=true then lcD d x.a else d).r)] Xd f) ?_;rintro _ cI ⟨D,M⟩;have j:=f;have aP:=aP.oT D j rfl;have aQ:=aQ.oT D j rfl;have g:=Below.oy g D C;have f:=M;refine Za rfl<|Zt bM fun a i=>?_;refine Q6<|Xx<|X8<|X6 i (X1h i rfl (ResV.cellN (l:=[vi ((if (lcC d x.a)=true then lcD d x.a else d).n),.slice aL md aM,.slice aN ((if (lcC d x.a)=true then lcD d x.a else d).ws).length aO,vi ((if (lcC d x.a)=true then lcD d x.a else d).t),vi ((if (lcC d x.a)=true then lcD d x.a else d).r)]) rfl X2 (f.at 0) rfl) rfl) ?_
  rw [k.1,k.2]
  exact ⟨aL,aM,aN,aO,rfl,aP.top,aQ.top,bN,by assumption,g⟩
 have b1:=J
 have g3:=J
 refine Zs i fun _ bO=>?_;refine Ze (X0f rfl rfl)<|Za rfl<|Zt bO fun a i=>?_
 refine Xf i rfl (fun L=>?_) (fun L=>?_)
 ·have b2:=L;have k:=Xn9 (d:=d) g1 g4 gb g2 g3 L;refine Zs i fun _ bP=>?_;refine Ze (Vn X2 m)<|Ze (Vd rfl X14 1)<|Ze (X0 rfl Xa (o.at 1))<|Zf (Vc (Xtf _ d md p Ad cd (q.bx g).top Bd dd (y.bx g).top z x.a hD) Xjw) ?_;rintro _ cJ ⟨aR,aS,aT,aU,rfl,aV,aW,bQ,cF,h⟩;have f:=f.bw h;have g:=btr g h;refine Ze (Xn (vs:=[.agg #[vi ((if (loC d x.a)=true then loD d x.a else d).n),.slice aR md aS,.slice aT ((if (loC d x.a)=true then loD d x.a else d).ws).length aU,vi ((if (loC d x.a)=true then loD d x.a else d).t),vi ((if (loC d x.a)=true then loD d x.a else d).r)],.bool (loC d x.a)]) rfl rfl)<|Ze (Xn (vs:=[.agg #[vi ((if (loC d x.a)=true then loD d x.a else d).n),.slice aR md aS,.slice aT ((if (loC d x.a)=true then loD d x.a else d).ws).length aU,vi ((if (loC d x.a)=true then loD d x.a else d).t),vi ((if (loC d x.a)=true then loD d x.a else d).r)],.bool (loC d x.a)]) rfl rfl)<|Zo (Vw [vi ((if (loC d x.a)=true then loD d x.a else d).n),.slice aR md aS,.slice aT ((if (loC d x.a)=true then loD d x.a else d).ws).length aU,vi ((if (loC d x.a)=true then loD d x.a else d).t),vi ((if (loC d x.a)=true then loD d x.a else d).r)] Xd f) ?_;rintro _ cK ⟨D,M⟩;have j:=f;have aV:=aV.oT D j rfl;have aW:=aW.oT D j rfl;have g:=Below.oy g D C;have f:=M;refine Za rfl<|Zt bP fun a i=>?_;refine Q6<|Xx<|X8<|X6 i (X1h i rfl (ResV.cellN (l:=[vi ((if (loC d x.a)=true then loD d x.a else d).n),.slice aR md aS,.slice aT ((if (loC d x.a)=true then loD d x.a else d).ws).length aU,vi ((if (loC d x.a)=true then loD d x.a else d).t),vi ((if (loC d x.a)=true then loD d x.a else d).r)]) rfl X2 (f.at 0) rfl) rfl) ?_
  rw [k.1,k.2]
  exact ⟨aR,aS,aT,aU,rfl,aV.top,aW.top,bQ,by assumption,g⟩
 have b2:=L;have k:=Xqh (d:=d) g1 g4 gb g2 g3 L;refine Q7<|Xb<|bG _ _<|Zs i fun _ bR=>?_;refine Ze (Vn X2 m)<|Zo (Vw [vi d.n,.slice Ad md cd,.slice Bd d.ws.length dd,vi d.t,vi d.r] Xd f) ?_;rintro _ cL ⟨D,M⟩;have j:=f;have g:=Below.oy g D C;have f:=M;refine Za rfl<|Zt bR fun a i=>?_
 refine Q6 (X6 i (X1h i rfl (ResV.cellN (l:=[vi d.n,.slice Ad md cd,.slice Bd d.ws.length dd,vi d.t,vi d.r]) rfl X2 (f.at 0) rfl) rfl) ?_)
 rw [k,Q3 Bool.false_ne_true]
 exact ⟨Ad,cd,Bd,dd,rfl,(q.bx g).top,(y.bx g).top,z,p,g⟩
def cnW(ws:List Wr)(k:Int) : Int:=((ws.filter fun w=>w.a==k||w.b==k).length:Int)
theorem Xq1{ws:List Wr}{k:Int}{j:Nat}{w:Wr}(hj:ws[j]? = some w)(h:(w.a==k||w.b==k)=true) : cnW (ws.take (j+1)) k=cnW (ws.take j) k+1:=by
 unfold cnW
 rw [X2l (q:=fun w=>w.a==k||w.b==k) hj,Q4 h,Qh]
 rfl
theorem Xtb{ws:List Wr}{k:Int}{j:Nat}{w:Wr}(hj:ws[j]? = some w)(h:(w.a==k||w.b==k)=false) : cnW (ws.take (j+1)) k=cnW (ws.take j) k:=by
 unfold cnW
 rw [X2l (q:=fun w=>w.a==k||w.b==k) hj,Q3 (by rw [h];decide),List.append_nil]
theorem Xdc(ws:List Wr)(k:Int)(j:Nat) : 0<=cnW (ws.take j) k/\cnW (ws.take j) k<=j:=by grind [cnW]
def ctN(ns:List Nd)(k p:Int) : Int:=((ns.filter fun x=>x.k==k&&x.p==p).length:Int)
theorem Xuo{ns:List Nd}{k p:Int}{j:Nat}{x:Nd}(hj:ns[j]? = some x)(h:(x.k==k&&x.p==p)=true) : ctN (ns.take (j+1)) k p=ctN (ns.take j) k p+1:=by
 unfold ctN
 rw [X2l (q:=fun x=>x.k==k&&x.p==p) hj,Q4 h,Qh]
 rfl
theorem Xvc{ns:List Nd}{k p:Int}{j:Nat}{x:Nd}(hj:ns[j]? = some x)(h:(x.k==k&&x.p==p)=false) : ctN (ns.take (j+1)) k p=ctN (ns.take j) k p:=by
 unfold ctN
 rw [X2l (q:=fun x=>x.k==k&&x.p==p) hj,Q3 (by rw [h];decide),List.append_nil]
theorem Xq4(ns:List Nd)(k p:Int)(j:Nat) : 0<=ctN (ns.take j) k p/\ctN (ns.take j) k p<=j:=by grind [ctN]
def ndQ(d:Dg)(k:Int) : Bool:=
 if ((d.ns.getD k.toNat nZ).k==0)=true then (d.ns.getD k.toNat nZ).p==0&&cnW d.ws k==0
 else if ((d.ns.getD k.toNat nZ).k==1||(d.ns.getD k.toNat nZ).k==2)=true then inR (d.ns.getD k.toNat nZ).p 0 (d.n-1)&&cnW d.ws k==1
 else (d.ns.getD k.toNat nZ).k==3&&inR (d.ns.getD k.toNat nZ).p 0 7
theorem Xui{d:Dg}{k:Int}(h:((d.ns.getD k.toNat nZ).k==0)=true) : ndQ d k=((d.ns.getD k.toNat nZ).p==0&&cnW d.ws k==0):=Q4 h
theorem Xrn{d:Dg}{k:Int}(h:((d.ns.getD k.toNat nZ).k==0)=false)(h2:((d.ns.getD k.toNat nZ).k==1||(d.ns.getD k.toNat nZ).k==2)=true) : ndQ d k=(inR (d.ns.getD k.toNat nZ).p 0 (d.n-1)&&cnW d.ws k==1):=by
 unfold ndQ;rw [h,h2];rfl
theorem Xux{d:Dg}{k:Int}(h:((d.ns.getD k.toNat nZ).k==0)=false)(h2:((d.ns.getD k.toNat nZ).k==1||(d.ns.getD k.toNat nZ).k==2)=false) : ndQ d k=((d.ns.getD k.toNat nZ).k==3&&inR (d.ns.getD k.toNat nZ).p 0 7):=by
 unfold ndQ;rw [h,h2];rfl
def enQ(d:Dg)(k:Int) : Bool:=(List.range d.n.toNat).all fun (j:Nat)=>ctN d.ns k (j:Int)==1
def endQ(d:Dg) : Bool:=enQ d 1&&enQ d 2
theorem Xs5{d:Dg}{e j:Nat}(h1:1<=e)(h2:e<=2)(hj:(j:Int)<d.n)(h:(ctN d.ns (e:Int) (j:Int) != 1)=true) : endQ d=false:=by
 have hx:enQ d (e:Int)=false:=X8a (k:=j) (by omega) (by simpa [bne] using h)
 unfold endQ
 rcases (by omega:e=1∨e=2) with h3|h3<;>subst h3
 ·rw [show enQ d 1=false from hx];rfl
 ·rw [show enQ d 2=false from hx,Bool.and_false]
def wrQ(d:Dg)(i:Nat) : Bool:=!(!(inR (d.ws.getD i wZ).a 0 ((d.ws.getD i wZ).b-1))||decide ((d.ns.length:Int)<=(d.ws.getD i wZ).b)||(decide (0<(i:Int))&&!(wlt (d.ws.getD (i-1) wZ) (d.ws.getD i wZ))))
def hdQ(d:Dg) : Bool:=!(!(inR d.n 1 5)||decide (40<(d.ns.length:Int))||!(inR d.t 0 7)||!(inR d.r (-60) 60))
def goodD(d:Dg) : Bool:=hdQ d&&(List.range d.ws.length).all (wrQ d)&&(List.range d.ns.length).all (fun k=>ndQ d (k:Int))&&endQ d
theorem Xrc{d:Dg}(h:(!(inR d.n 1 5)||decide (40<(d.ns.length:Int))||!(inR d.t 0 7)||!(inR d.r (-60) 60))=true) : goodD d=false:=by
 unfold goodD hdQ;rw [h];rfl
theorem Xgl{d:Dg}(h:(!(inR d.n 1 5)||decide (40<(d.ns.length:Int))||!(inR d.t 0 7)||!(inR d.r (-60) 60))=false) : hdQ d=true/\(1<=d.n/\d.n<=5)/\d.ns.length<=40/\(0<=d.t/\d.t<=7)/\-60<=d.r/\d.r<=60:=by grind [hdQ,inR]
theorem Xg6{d:Dg}{i:Nat}{u:Wr}(hu:d.ws[i]? = some u) : wrQ d i = !(!(inR u.a 0 (u.b-1))||decide ((d.ns.length:Int)<=u.b)||(decide (0<(i:Int))&&!(wlt (d.ws.getD (i-1) wZ) u))):=by grind [inR,wZ,wlt,wrQ]
theorem Xns{d:Dg}{i:Nat}(hi:i<d.ws.length)(h:wrQ d i=false) : goodD d=false:=by grind [goodD,wrQ]
theorem Xn3{d:Dg}{i:Nat}(hi:i<d.ns.length)(h:ndQ d (i:Int)=false) : goodD d=false:=by grind [goodD,ndQ]
theorem Xoi{d:Dg}(h1:hdQ d=true)(h2:∀ i,i<d.ws.length->wrQ d i=true)(h3:∀ i:Nat,i<d.ns.length->ndQ d (i:Int)=true) : goodD d=endQ d:=by grind [endQ,goodD,hdQ,ndQ,wrQ]
theorem Xet(y:World)(d:Dg)(md:Nat)(aP:md=d.ns.length)(Ad:Option Addr)(cd:Nat)(aQ:Rd y y.heap.size 76 encNd Ad d.ns)(Bd:Option Addr)(dd:Nat)(A:Rd y y.heap.size 84 encWr Bd d.ws)(q:d.ws.length<=dd)(p:Int)(aU:d.ws.length<=1000000000) : Ret Tryz.prog 131 [.agg #[vi d.n,.slice Ad md cd,.slice Bd d.ws.length dd,vi d.t,vi d.r],vi p] y (fun v w=>v=vi (cnW d.ws p)/\Below y.heap.size y w):=by
 refine enter Tryz.func131 rfl 29 rfl rfl ?_;intro a f
 have o:=bz y
 refine Zs f fun _ aH=>?_;refine Zf (X0q (zs:=[vi d.n,.slice Ad md cd,.slice Bd d.ws.length dd,vi d.t,vi d.r]) rfl rfl) ?_;rintro _ w1 ⟨b4,rfl,aI,hE,aJ⟩;have aR:=Q0 o.size aI;have o:=btr o hE;refine Za rfl<|Zx aH fun a f _ aK=>?_;refine Za rfl<|ZX aK fun a f _ aL=>?_;refine Zs f fun _ aM=>?_;refine Ze (Vd rfl Xi 2)<|Ze (X0 rfl X0b (aJ.at 2))<|Ze (X07 rfl Xq)<|Zm rfl<|Zt aM fun a f=>?_;refine Q8<|X02 (σ:=Nat×Int) (fun (s:Nat×Int) (a:Act) (w:World)=>match s with|(k,c)=>Fr a 29 [(1,vi p),(5,vi c),(9,.slice Bd d.ws.length dd),(10,vi (d.ws.length:Int)),(11,vi (k:Int))]/\(k<=d.ws.length)/\(c=cnW (d.ws.take k) p)/\d.ws.length<=dd/\Below y.heap.size y w) (fun (s:Nat×Int)=>match s with|(k,c)=>d.ws.length-k) (0,0) ?_ ?_
 ·exact ⟨f.sb,(Qf _),rfl,q,o⟩
 rintro ⟨k,c⟩ a w2 ⟨f,hk,hc,q,o⟩;have aB:=Xdc d.ws p k
 rw [<- hc] at aB
 refine Zs f fun _ aN=>?_;refine Ze (X0i rfl rfl)<|ZX aN fun a f _ aO=>?_
 refine Xf f rfl (fun g=>?_) (fun g=>?_)
 ·have i:=g;have g:=Q2 g
  obtain ⟨aV,aS⟩:=X4 (l:=d.ws) (k:=k) (by omega)
  obtain ⟨z,a6⟩:=X4 (l:=d.ws) (k:=k) (by have:=g;omega)
  have aB:=Xdc d.ws p k;refine Q7<|aO _ _<|Q5 fun _ B=>?_;refine Q8<|Zs f fun _ aC=>?_;refine Zi (k:=k) (u:=z) (enc:=encWr) (l:=d.ws) tv0 rfl rfl Xq X09 Xu (A.bx o) a6 rfl ?_;intro aW a7;refine Ze (X00 (l:=[vi z.a,vi z.b,.bool z.h]) rfl X15 a7 rfl)<|Zf (Xw (zs:=[vi 0,vi 0,.bool false]) X2k rfl) ?_;rintro _ w3 ⟨aX,rfl,C,hE,j⟩;have a8:=Q0 o.size C;have aD:=(A.bx o).away C;have o:=btr o hE;refine Zo (Vw [vi z.a,vi z.b,.bool z.h] X09 j) ?_;rintro _ w4 ⟨ho,hb⟩;have aT:=j;have o:=Below.oy o ho a8;have j:=hb;refine ZX aC fun a f _ aE=>?_;refine X06 (fun a w=>Fr a 29 [(1,vi p),(5,vi c),(9,.slice Bd d.ws.length dd),(10,vi (d.ws.length:Int)),(11,vi (k:Int)),(24,.bool ((z.a==p)||(z.b==p)))]/\w4=w) ?_ ?_
  ·refine Zr f<|Ze (Vd rfl X0m 0)<|Ze (X0 rfl Xa (j.at 0))<|Zm rfl<|Ze (X0f rfl rfl)<|Zm rfl ?_
   refine Zg 19 rfl (fun e=>?_) (fun e=>?_)
   ·(iterate 4 refine Zp (gP e) ?_);refine Ze (X5 rfl e rfl) ?_;refine Zn fun a f=>?_;exact ⟨f.sub ⟨rfl,rfl,rfl,rfl,rfl,X1 rfl (by first|rfl|(simp only [i,e,bs];done)|simp [i,e]),trivial⟩,rfl⟩
   refine Zv (gW e) (Vd rfl X0o 1) ?_;refine Zv (gW e) (X0 rfl Xa (j.at 1)) ?_;refine Zv (gW e) (X3 rfl) ?_;refine Zv (gW e) (X0f rfl rfl) ?_;refine Ze (X9 rfl e rfl) ?_;refine Zn fun a f=>?_;exact ⟨f.sub ⟨rfl,rfl,rfl,rfl,rfl,X1 rfl (by first|rfl|(simp only [i,e,bs];done)|simp [i,e]),trivial⟩,rfl⟩
  rintro a _ ⟨f,rfl⟩;refine aE _ _ ?_
  refine Xf f rfl (fun m=>?_) (fun m=>?_)
  ·have aA:=m;have x:=Xq1 a6 m
   rw [<- hc] at x
   refine Zr f<|Zm rfl<|Ze (Xr rfl rfl (by omega) (by omega))<|Za rfl ?_;refine Zn fun a f=>?_;refine Xb<|B _ _<|Zr f<|Ze (Xr rfl rfl (by omega) (by omega))<|Zm rfl ?_;refine Zn fun a f=>?_;refine Xe ?_;exact ⟨(k+1,c+1),⟨f.sb,(by omega),(by rw [x]),q,o⟩,(by first|omega|(dsimp only;omega))⟩
  have aA:=m;have x:=Xtb a6 m
  rw [<- hc] at x
  refine Q7<|Xb<|B _ _<|Zr f ?_;refine Ze (Xr rfl rfl (by omega) (by omega))<|Zm rfl ?_;refine Zn fun a f=>?_;refine Xe ?_;exact ⟨(k+1,c),⟨f.sb,(by omega),(by rw [x]),q,o⟩,(by first|omega|(dsimp only;omega))⟩
 have i:=g;have g:=Q1 g
 have aF:c=cnW d.ws p:=by rw [hc,Qi (by have:=g;omega)]
 refine Q9<|Xl<|Xl<|X01 ?_;refine aL _ _<|Zs f fun _ aG=>?_;refine Zm rfl<|Za rfl<|Zt aG fun a f=>?_
 refine Q6 (X6 f (Xs f rfl rfl) ?_)
 exact ⟨by rw [aF],o⟩
theorem Xrr(J:World)(d:Dg)(md:Nat)(G:md=d.ns.length)(Ad:Option Addr)(cd:Nat)(B:Rd J J.heap.size 76 encNd Ad d.ns)(Bd:Option Addr)(dd:Nat)(H:Rd J J.heap.size 84 encWr Bd d.ws)(I:d.ws.length<=dd)(p:Int)(aK:0<=p/\p.toNat<d.ns.length)(a6:d.ws.length<=1000000000)(hn:1<=d.n/\d.n<=1000) : Ret Tryz.prog 87 [.agg #[vi d.n,.slice Ad md cd,.slice Bd d.ws.length dd,vi d.t,vi d.r],vi p] J (fun v w=>v=.bool (ndQ d p)/\Below J.heap.size J w):=by
 refine enter Tryz.func87 rfl 47 rfl rfl ?_;intro a e
 have o:=bz J
 refine Zs e fun _ aL=>?_;refine Zf (X0q (zs:=[vi d.n,.slice Ad md cd,.slice Bd d.ws.length dd,vi d.t,vi d.r]) rfl rfl) ?_;rintro _ w1 ⟨b4,rfl,aM,h,x⟩;have aP:=Q0 o.size aM;have o:=btr o h;refine Za rfl<|Zx aL fun a e _ aN=>?_;refine Ze (Vd rfl Xc 1)<|Ze (X0 rfl Xv (x.at 1))<|Zm rfl<|Zj (k:=p.toNat) (u:=(d.ns.getD p.toNat nZ)) (enc:=encNd) (l:=d.ns) tv0 rfl G rfl Xm X05 Xt (B.bx o) (Xg aK.2) (by omega) ?_;intro p7 a7;refine Ze (X00 (l:=[vi ((d.ns.getD p.toNat nZ).k),vi ((d.ns.getD p.toNat nZ).p)]) rfl X25 a7 rfl)<|Zf (Xw (zs:=[vi 0,vi 0]) X6s rfl) ?_;rintro _ w2 ⟨b8,rfl,a8,h,A⟩;have aA:=Q0 o.size a8;have aJ:=(B.bx o).away a8;have x:=x.bw h;have o:=btr o h;refine Zo (Vw [vi ((d.ns.getD p.toNat nZ).k),vi ((d.ns.getD p.toNat nZ).p)] X05 A) ?_;rintro _ w3 ⟨ho,hb⟩;have aB:=A;have x:=x.oz ho aB rfl;have o:=Below.oy o ho aA;have A:=hb;refine ZX aN fun a e _ aO=>?_;refine Zs e fun _ aC=>?_;refine Ze (Vd rfl X13 0)<|Ze (X0 rfl Xa (A.at 0))<|Zt aC fun a e=>?_;refine Q8<|Zs e fun _ aD=>?_;refine Ze (X0f rfl rfl)<|Za rfl<|Zt aD fun a e=>?_
 refine Xf e rfl (fun C=>?_) (fun C=>?_)
 ·have b:=C;have y:=Xui C;refine Q5 fun _ aE=>?_;refine X06 (fun a w=>Fr a 47 [(4,.bool ((((d.ns.getD p.toNat nZ).p)==0)&&((cnW d.ws p)==0)))]/\Below w3.heap.size w3 w) ?_ ?_
  ·have q:Below w3.heap.size w3 w3:=Below.refl _ _
   refine Zr e<|Ze (Vd rfl X04 1)<|Ze (X0 rfl Xa (A.at 1))<|Ze (X0f rfl rfl)<|Zm rfl ?_
   refine Zg 18 rfl (fun f=>?_) (fun f=>?_)
   ·refine Zv (gW f) (Vn X2 x) ?_;refine Zv (gW f) (X3 rfl) ?_;refine Zk (gW f) (Vc (Xet _ d md G Ad cd (B.bx o).top Bd dd (H.bx o).top I p a6) X95) ?_;rintro _ w4 ⟨rfl,h⟩;have o:=btr o h;have q:=btr q h;refine Zv (gW f) (X0f rfl rfl) ?_;refine Ze (X5 rfl f rfl)<|Za rfl ?_;refine Zn fun a e=>?_
    have z:Below w3.heap.size w3 w4:=q
    exact ⟨e.sub ⟨X1 rfl (by first|rfl|(simp only [b,f,bs];done)|simp [b,f]),trivial⟩,z⟩
   (iterate 4 refine Zp (gP f) ?_);refine Ze (X9 rfl f rfl)<|Za rfl ?_;refine Zn fun a e=>?_
   have z:Below w3.heap.size w3 w3:=q
   exact ⟨e.sub ⟨X1 rfl (by first|rfl|(simp only [b,f,bs];done)|simp [b,f]),trivial⟩,z⟩
  rintro a w5 ⟨e,h⟩;have o:=btr o h;refine aE _ _<|Q6<|Xx<|X8 ?_;refine X6 e (Xs e rfl rfl) ?_;exact ⟨by rw [y],o⟩
 have b:=C
 have g0:=C
 refine Q5 fun _ L=>?_;refine Zs e fun _ aF=>?_;refine Ze (X0f rfl rfl)<|Za rfl<|Zt aF fun a e=>?_
 refine Xf e rfl (fun D=>?_) (fun D=>?_)
 ·have c:=D
  have y:=Xrn g0 (by rw [D];rfl)
  refine Q7<|L _ _<|Xhl e (X1 rfl c) ?_;refine Q5 fun _ aG=>?_;refine X06 (fun a w=>Fr a 47 [(4,.bool ((inR ((d.ns.getD p.toNat nZ).p) 0 (d.n-1))&&((cnW d.ws p)==1)))]/\Below w3.heap.size w3 w) ?_ ?_
  ·have q:Below w3.heap.size w3 w3:=Below.refl _ _
   refine Zr e<|Ze (Vd rfl X04 1)<|Ze (X0 rfl Xa (A.at 1))<|Ze (Vd rfl X1q 0)<|Ze (X0 rfl Xa (x.at 0))<|Ze (X1d rfl rfl (by omega) (by omega))<|Zf (Vc (F85 _ ((d.ns.getD p.toNat nZ).p) 0 (d.n-1)) X5a) ?_;rintro _ _ ⟨rfl,rfl⟩;refine Zm rfl ?_
   refine Zg 33 rfl (fun g=>?_) (fun g=>?_)
   ·refine Zv (gW g) (Vn X2 x) ?_;refine Zv (gW g) (X3 rfl) ?_;refine Zk (gW g) (Vc (Xet _ d md G Ad cd (B.bx o).top Bd dd (H.bx o).top I p a6) X95) ?_;rintro _ w6 ⟨rfl,h⟩;have o:=btr o h;have q:=btr q h;refine Zv (gW g) (X0f rfl rfl) ?_;refine Ze (X5 rfl g rfl)<|Za rfl ?_;refine Zn fun a e=>?_
    have z:Below w3.heap.size w3 w6:=q
    exact ⟨e.sub ⟨X1 rfl (by first|rfl|(simp only [b,c,g,bs];done)|simp [b,c,g]),trivial⟩,z⟩
   (iterate 4 refine Zp (gP g) ?_);refine Ze (X9 rfl g rfl)<|Za rfl ?_;refine Zn fun a e=>?_
   have z:Below w3.heap.size w3 w3:=q
   exact ⟨e.sub ⟨X1 rfl (by first|rfl|(simp only [b,c,g,bs];done)|simp [b,c,g]),trivial⟩,z⟩
  rintro a w7 ⟨e,h⟩;have o:=btr o h;refine aG _ _<|Q6<|Xx<|X8 ?_;refine X6 e (Xs e rfl rfl) ?_;exact ⟨by rw [y],o⟩
 have c:=D
 have g1:=D
 refine Zr e<|Ze (X0f rfl rfl)<|Za rfl<|Zt L fun a e=>?_
 refine Xf e rfl (fun E=>?_) (fun E=>?_)
 ·have m:=E
  have y:=Xrn g0 (by rw [g1,E];rfl)
  refine Q5 fun _ aH=>?_;refine X06 (fun a w=>Fr a 47 [(4,.bool ((inR ((d.ns.getD p.toNat nZ).p) 0 (d.n-1))&&((cnW d.ws p)==1)))]/\Below w3.heap.size w3 w) ?_ ?_
  ·have q:Below w3.heap.size w3 w3:=Below.refl _ _
   refine Zr e<|Ze (Vd rfl X04 1)<|Ze (X0 rfl Xa (A.at 1))<|Ze (Vd rfl X1q 0)<|Ze (X0 rfl Xa (x.at 0))<|Ze (X1d rfl rfl (by omega) (by omega))<|Zf (Vc (F85 _ ((d.ns.getD p.toNat nZ).p) 0 (d.n-1)) X5a) ?_;rintro _ _ ⟨rfl,rfl⟩;refine Zm rfl ?_
   refine Zg 33 rfl (fun i=>?_) (fun i=>?_)
   ·refine Zv (gW i) (Vn X2 x) ?_;refine Zv (gW i) (X3 rfl) ?_;refine Zk (gW i) (Vc (Xet _ d md G Ad cd (B.bx o).top Bd dd (H.bx o).top I p a6) X95) ?_;rintro _ w8 ⟨rfl,h⟩;have o:=btr o h;have q:=btr q h;refine Zv (gW i) (X0f rfl rfl) ?_;refine Ze (X5 rfl i rfl)<|Za rfl ?_;refine Zn fun a e=>?_
    have z:Below w3.heap.size w3 w8:=q
    exact ⟨e.sub ⟨X1 rfl (by first|rfl|(simp only [b,c,m,i,bs];done)|simp [b,c,m,i]),trivial⟩,z⟩
   (iterate 4 refine Zp (gP i) ?_);refine Ze (X9 rfl i rfl)<|Za rfl ?_;refine Zn fun a e=>?_
   have z:Below w3.heap.size w3 w3:=q
   exact ⟨e.sub ⟨X1 rfl (by first|rfl|(simp only [b,c,m,i,bs];done)|simp [b,c,m,i]),trivial⟩,z⟩
  rintro a w9 ⟨e,h⟩;have o:=btr o h;refine aH _ _<|Q6<|Xx<|X8 ?_;refine X6 e (Xs e rfl rfl) ?_;exact ⟨by rw [y],o⟩
 have m:=E
 have y:=Xux g0 (by rw [g1,E];rfl)
 refine Q7<|Xb<|aO _ _<|Q5 fun _ aI=>?_;refine X06 (fun a w=>Fr a 47 [(4,.bool ((((d.ns.getD p.toNat nZ).k)==3)&&(inR ((d.ns.getD p.toNat nZ).p) 0 7)))]/\w3=w) ?_ ?_
 ·refine Zr e<|Ze (Vd rfl X13 0)<|Ze (X0 rfl Xa (A.at 0))<|Ze (X0f rfl rfl)<|Zm rfl ?_
  refine Zg 42 rfl (fun j=>?_) (fun j=>?_)
  ·refine Zv (gW j) (Vd rfl X04 1) ?_;refine Zv (gW j) (X0 rfl Xa (A.at 1)) ?_;refine Zk (gW j) (Vc (F85 _ ((d.ns.getD p.toNat nZ).p) 0 7) X5a) ?_;rintro _ _ ⟨rfl,rfl⟩;refine Ze (X5 rfl j rfl)<|Za rfl ?_;refine Zn fun a e=>?_;exact ⟨e.sub ⟨X1 rfl (by first|rfl|(simp only [b,c,m,j,bs];done)|simp [b,c,m,j]),trivial⟩,rfl⟩
  (iterate 3 refine Zp (gP j) ?_);refine Ze (X9 rfl j rfl)<|Za rfl ?_;refine Zn fun a e=>?_;exact ⟨e.sub ⟨X1 rfl (by first|rfl|(simp only [b,c,m,j,bs];done)|simp [b,c,m,j]),trivial⟩,rfl⟩
 rintro a _ ⟨e,rfl⟩;refine aI _ _ ?_
 refine Q6 (X6 e (Xs e rfl rfl) ?_)
 exact ⟨by rw [y],o⟩
theorem Xu3(E:World)(d:Dg)(md:Nat)(aC:md=d.ns.length)(Ad:Option Addr)(cd:Nat)(J:Rd E E.heap.size 76 encNd Ad d.ns)(Bd:Option Addr)(dd:Nat)(b6:Rd E E.heap.size 84 encWr Bd d.ws)(m:d.ws.length<=dd)(hN:md<=1000)(hn:1<=d.n/\d.n<=1000) : Ret Tryz.prog 88 [.agg #[vi d.n,.slice Ad md cd,.slice Bd d.ws.length dd,vi d.t,vi d.r]] E (fun v w=>v=.bool (endQ d)/\Below E.heap.size E w):=by
 refine enter Tryz.func88 rfl 40 rfl rfl ?_;intro a b
 have z:=bz E
 refine Zs b fun _ aV=>?_;refine Zf (X0q (zs:=[vi d.n,.slice Ad md cd,.slice Bd d.ws.length dd,vi d.t,vi d.r]) rfl rfl) ?_;rintro _ w1 ⟨b4,rfl,aW,hE,g⟩;have b7:=Q0 z.size aW;have z:=btr z hE;refine Za rfl<|ZX aV fun a b _ aX=>?_;refine Zs b fun _ aY=>?_;refine Za rfl<|Zt aY fun a b=>?_;refine Q8<|X02 (σ:=Nat) (fun (e:Nat) (a:Act) (w:World)=>Fr a 40 [(1,(pZ9 b4)),(3,vi (e:Int))]/\(1<=e/\e<=3)/\(∀ i:Nat,1<=i->i<e->enQ d (i:Int)=true)/\Blk w b4 31 [vi d.n,.slice Ad md cd,.slice Bd d.ws.length dd,vi d.t,vi d.r]/\d.ws.length<=dd/\Below E.heap.size E w) (fun (e:Nat)=>3-e) 1 ?_ ?_
 ·exact ⟨b.sb,⟨Qb _,by omega⟩,(fun i h1 h2=>by omega),g,m,z⟩
 rintro e a w2 ⟨b,he,G,g,m,z⟩;refine Q5 fun _ aZ=>?_;refine Zs b fun _ b0=>?_;refine Zm rfl<|Ze (Xax rfl rfl)<|Zt b0 fun a b=>?_
 refine Xf b rfl (fun h=>?_) (fun h=>?_)
 ·have A:=h;have h:=Q2 h;have h9:=h;refine Q7<|aZ _ _<|Q5 fun _ aD=>?_;refine Q8<|Zs b fun _ aE=>?_;refine Za rfl<|Zt aE fun a b=>?_;refine Q8<|X02 (σ:=Nat) (fun (j:Nat) (a:Act) (w:World)=>Fr a 40 [(1,(pZ9 b4)),(3,vi (e:Int)),(4,vi (j:Int))]/\(∀ i:Nat,i<j->(ctN d.ns (e:Int) (i:Int)==1)=true)/\Blk w b4 31 [vi d.n,.slice Ad md cd,.slice Bd d.ws.length dd,vi d.t,vi d.r]/\d.ws.length<=dd/\Below E.heap.size E w) (fun (j:Nat)=>d.n.toNat-j) 0 ?_ ?_
  ·exact ⟨b.sb,(fun i hi=>by omega),g,m,z⟩
  rintro j a w3 ⟨b,L,g,m,z⟩;refine Q5 fun _ aF=>?_;refine Zs b fun _ aG=>?_;refine Zm rfl<|Ze (Vd rfl X1q 0)<|Ze (X0 rfl Xa (g.at 0))<|Ze (X0i rfl rfl)<|Zt aG fun a b=>?_
  refine Xf b rfl (fun o=>?_) (fun o=>?_)
  ·have x:=o;have o:=Q2 o;have b1:=o;refine Q7<|aF _ _<|Q5 fun _ aH=>?_;refine Q8<|Zs b fun _ aI=>?_;refine Za rfl<|ZX aI fun a b _ aJ=>?_;refine Zs b fun _ aK=>?_;refine Ze (Vd rfl Xc 1)<|Ze (X0 rfl Xv (g.at 1))<|Ze (X07 rfl Xm)<|Zm rfl<|Zt aK fun a b=>?_;refine Q8<|X02 (σ:=Nat×Int) (fun (s:Nat×Int) (a:Act) (w:World)=>match s with|(k,c)=>Fr a 40 [(1,(pZ9 b4)),(3,vi (e:Int)),(4,vi (j:Int)),(5,vi c),(19,.slice Ad md cd),(20,vi (md:Int)),(21,vi (k:Int))]/\(k<=d.ns.length)/\(c=ctN (d.ns.take k) (e:Int) (j:Int))/\Blk w b4 31 [vi d.n,.slice Ad md cd,.slice Bd d.ws.length dd,vi d.t,vi d.r]/\d.ws.length<=dd/\Below E.heap.size E w) (fun (s:Nat×Int)=>match s with|(k,c)=>d.ns.length-k) (0,0) ?_ ?_
   ·exact ⟨b.sb,(Qf _),rfl,g,m,z⟩
   rintro ⟨k,c⟩ a w4 ⟨b,hk,hc,g,m,z⟩;have b2:=Xq4 d.ns (e:Int) (j:Int) k
   rw [<- hc] at b2
   refine Zs b fun _ aL=>?_;refine Ze (X0i rfl rfl)<|ZX aL fun a b _ aM=>?_
   refine Xf b rfl (fun q=>?_) (fun q=>?_)
   ·have y:=q;have q:=Q2 q
    obtain ⟨u9,a6⟩:=X4 (l:=d.ns) (k:=k) (by have:=q;omega)
    refine Q7<|aM _ _<|Q5 fun _ M=>?_;refine Q8<|Zs b fun _ aN=>?_;refine Zj (k:=k) (u:=u9) (enc:=encNd) (l:=d.ns) tv0 rfl aC rfl Xm X05 Xt (J.bx z) a6 (by omega) ?_;intro b8 a7;refine Ze (X00 (l:=[vi u9.k,vi u9.p]) rfl X25 a7 rfl)<|Zf (Xw (zs:=[vi 0,vi 0]) X6s rfl) ?_;rintro _ w5 ⟨b9,rfl,N,hE,B⟩;have a8:=Q0 z.size N;have aO:=(J.bx z).away N;have g:=g.bw hE;have z:=btr z hE;refine Zo (Vw [vi u9.k,vi u9.p] X05 B) ?_;rintro _ w6 ⟨ho,hb⟩;have aP:=B;have g:=g.oz ho aP rfl;have z:=Below.oy z ho a8;have B:=hb;refine ZX aN fun a b _ aQ=>?_;refine X06 (fun a w=>Fr a 40 [(1,(pZ9 b4)),(3,vi (e:Int)),(4,vi (j:Int)),(5,vi c),(19,.slice Ad md cd),(20,vi (md:Int)),(21,vi (k:Int)),(34,.bool ((u9.k==(e:Int))&&(u9.p==(j:Int))))]/\w6=w) ?_ ?_
    ·refine Zr b<|Ze (Vd rfl X13 0)<|Ze (X0 rfl Xa (B.at 0))<|Zm rfl<|Ze (X0f rfl rfl)<|Zm rfl ?_
     refine Zg 29 rfl (fun f=>?_) (fun f=>?_)
     ·refine Zv (gW f) (Vd rfl X04 1) ?_;refine Zv (gW f) (X0 rfl Xa (B.at 1)) ?_;refine Zv (gW f) (X3 rfl) ?_;refine Zv (gW f) (X0f rfl rfl) ?_;refine Ze (X5 rfl f rfl) ?_;refine Zn fun a b=>?_;exact ⟨b.sub ⟨rfl,rfl,rfl,rfl,rfl,rfl,rfl,X1 rfl (by first|rfl|(simp only [A,x,y,f,bs];done)|simp [A,x,y,f]),trivial⟩,rfl⟩
     (iterate 4 refine Zp (gP f) ?_);refine Ze (X9 rfl f rfl) ?_;refine Zn fun a b=>?_;exact ⟨b.sub ⟨rfl,rfl,rfl,rfl,rfl,rfl,rfl,X1 rfl (by first|rfl|(simp only [A,x,y,f,bs];done)|simp [A,x,y,f]),trivial⟩,rfl⟩
    rintro a _ ⟨b,rfl⟩;refine aQ _ _ ?_
    refine Xf b rfl (fun C=>?_) (fun C=>?_)
    ·have aA:=C;have H:=Xuo a6 C
     rw [<- hc] at H
     refine Zr b<|Zm rfl<|Ze (Xr rfl rfl (by omega) (by omega))<|Za rfl ?_;refine Zn fun a b=>?_;refine Xb<|M _ _<|Zr b<|Ze (Xr rfl rfl (by omega) (by omega))<|Zm rfl ?_;refine Zn fun a b=>?_;refine Xe ?_;exact ⟨(k+1,c+1),⟨b.sb,(by omega),(by rw [H]),g,m,z⟩,(by first|omega|(dsimp only;omega))⟩
    have aA:=C;have H:=Xvc a6 C
    rw [<- hc] at H
    refine Q7<|Xb<|M _ _<|Zr b ?_;refine Ze (Xr rfl rfl (by omega) (by omega))<|Zm rfl ?_;refine Zn fun a b=>?_;refine Xe ?_;exact ⟨(k+1,c),⟨b.sb,(by omega),(by rw [H]),g,m,z⟩,(by first|omega|(dsimp only;omega))⟩
   have y:=q;have q:=Q1 q
   have aR:c=ctN d.ns (e:Int) (j:Int):=by rw [hc,Qi (by have:=q;omega)]
   refine Q9<|Xl<|Xl<|X01 ?_;refine aJ _ _<|Zs b fun _ aS=>?_;refine Zm rfl<|Ze (X1c rfl rfl)<|Zt aS fun a b=>?_
   refine Xf b rfl (fun D=>?_) (fun D=>?_)
   ·have aB:=D
    have I:endQ d=false:=Xs5 (e:=e) (by omega) (by omega) b1 (by rw [<- aR];exact D)
    refine Zs b fun _ aT=>?_;refine Za rfl<|Zt aT fun a b=>?_;refine Q6<|Xx<|X8<|X8 ?_;refine Xx<|Xx<|X8<|X8 ?_;refine Xx<|X8<|X6 b (Xs b rfl rfl) ?_;exact ⟨by rw [I],z⟩
   have aB:=D
   have b3:(ctN d.ns (e:Int) (j:Int)==1)=true:=by rw [<- aR];have h8:=D;simpa using h8
   refine Q7<|Xb<|aH _ _<|Zr b ?_;refine Zm rfl<|Ze (Xr rfl rfl (by omega) (by omega))<|Za rfl ?_;refine Zn fun a b=>?_;refine Xe ?_;exact ⟨j+1,⟨b.sb,(fun i hi=>by by_cases h9:i=j;rw [h9];exact b3;exact L i (by omega)),g,m,z⟩,(by omega)⟩
  have x:=o;have o:=Q1 o
  have b5:enQ d (e:Int)=true:=X53 fun i hi=>L i (by have:=o;omega)
  refine Q9<|Xl<|Xl<|X01 ?_;refine Xb<|aD _ _<|Zr b<|Zm rfl<|Ze (Xr rfl rfl (by omega) (by omega))<|Za rfl ?_;refine Zn fun a b=>?_;refine Xe ?_;exact ⟨e+1,⟨b.sb,(by omega),(fun i h1 h2=>by by_cases h9:i=e;rw [h9];exact b5;exact G i h1 (by omega)),g,m,z⟩,(by omega)⟩
 have A:=h;have h:=Q1 h
 have I:endQ d=true:=by unfold endQ;rw [show enQ d 1=true from G 1 (by omega) (by have:=h;omega),show enQ d 2=true from G 2 (by omega) (by have:=h;omega)];rfl
 refine Q9<|Xl<|Xl<|X01 ?_;refine aX _ _<|Zs b fun _ aU=>?_;refine Za rfl<|Zt aU fun a b=>?_
 refine Q6 (X6 b (Xs b rfl rfl) ?_)
 exact ⟨by rw [I],z⟩
theorem Xl2(w0:World)(d:Dg)(md:Nat)(I:md=d.ns.length)(Ad:Option Addr)(cd:Nat)(a7:Rd w0 w0.heap.size 76 encNd Ad d.ns)(Bd:Option Addr)(dd:Nat)(J:Rd w0 w0.heap.size 84 encWr Bd d.ws)(E:d.ws.length<=dd)(bH:d.ws.length<=1000000000)(b6:∀ x ∈ d.ws,-1000000<=x.b/\x.b<=1000000) : Ret Tryz.prog 37 [.agg #[vi d.n,.slice Ad md cd,.slice Bd d.ws.length dd,vi d.t,vi d.r]] w0 (fun v w=>v=.bool (goodD d)/\Below w0.heap.size w0 w):=by
 refine enter Tryz.func37 rfl 80 rfl rfl ?_;intro a f
 have y:=bz w0
 refine Zs f fun _ b7=>?_;refine Zf (X0q (zs:=[vi d.n,.slice Ad md cd,.slice Bd d.ws.length dd,vi d.t,vi d.r]) rfl rfl) ?_;rintro _ w1 ⟨b4,rfl,b8,H,m⟩;have bF:=Q0 y.size b8;have y:=btr y H;refine Za rfl<|ZX b7 fun a f _ b9=>?_;refine Q5 fun _ bA=>?_;refine X06 (fun a w=>Fr a 80 [(1,(pZ9 b4)),(27,.bool ((((!(inR d.n 1 5))||(decide (40<(md:Int))))||(!(inR d.t 0 7)))||(!(inR d.r (-60) 60))))]/\w1=w) ?_ ?_
 ·refine Zr f<|Ze (Vd rfl X1q 0)<|Ze (X0 rfl Xa (m.at 0))<|Zf (Vc (F85 _ d.n 1 5) X5a) ?_;rintro _ _ ⟨rfl,rfl⟩;refine Ze (X0z rfl)<|Zm rfl ?_
  refine Zg 10 rfl (fun o=>?_) (fun o=>?_)
  ·(iterate 4 refine Zp (gP o) ?_);refine Ze (X5 rfl o rfl)<|Zm rfl<|Zp (gP rfl) ?_;(iterate 3 refine Zp (gP rfl) ?_);refine Ze (X5 rfl rfl rfl)<|Zm rfl<|Zp (gP rfl) ?_;(iterate 3 refine Zp (gP rfl) ?_);refine Ze (X5 rfl rfl rfl) ?_;refine Zn fun a f=>?_;exact ⟨f.sub ⟨rfl,X1 rfl (by first|rfl|(simp only [o,bs];done)|simp [o]),trivial⟩,rfl⟩
  refine Zv (gW o) (Vd rfl Xc 1) ?_;refine Zv (gW o) (X0 rfl Xv (m.at 1)) ?_;refine Zv (gW o) (X07 rfl Xm) ?_;refine Zv (gW o) (X2o rfl rfl) ?_;refine Ze (X9 rfl o rfl)<|Zm rfl ?_
  refine Zg 16 rfl (fun z=>?_) (fun z=>?_)
  ·(iterate 4 refine Zp (gP z) ?_);refine Ze (X5 rfl z rfl)<|Zm rfl<|Zp (gP rfl) ?_;(iterate 3 refine Zp (gP rfl) ?_);refine Ze (X5 rfl rfl rfl) ?_;refine Zn fun a f=>?_;exact ⟨f.sub ⟨rfl,X1 rfl (by first|rfl|(simp only [o,z,bs];done)|simp [o,z]),trivial⟩,rfl⟩
  refine Zv (gW z) (Vd rfl X0l 3) ?_;refine Zv (gW z) (X0 rfl Xa (m.at 3)) ?_;refine Zk (gW z) (Vc (F85 _ d.t 0 7) X5a) ?_;rintro _ _ ⟨rfl,rfl⟩;refine Zv (gW z) (X0z rfl) ?_;refine Ze (X9 rfl z rfl)<|Zm rfl ?_
  refine Zg 22 rfl (fun A=>?_) (fun A=>?_)
  ·(iterate 4 refine Zp (gP A) ?_);refine Ze (X5 rfl A rfl) ?_;refine Zn fun a f=>?_;exact ⟨f.sub ⟨rfl,X1 rfl (by first|rfl|(simp only [o,z,A,bs];done)|simp [o,z,A]),trivial⟩,rfl⟩
  refine Zv (gW A) (Vd rfl Xy 4) ?_;refine Zv (gW A) (X0 rfl Xa (m.at 4)) ?_;refine Zk (gW A) (Vc (F85 _ d.r (-60) 60) X5a) ?_;rintro _ _ ⟨rfl,rfl⟩;refine Zv (gW A) (X0z rfl) ?_;refine Ze (X9 rfl A rfl) ?_;refine Zn fun a f=>?_;exact ⟨f.sub ⟨rfl,X1 rfl (by first|rfl|(simp only [o,z,A,bs];done)|simp [o,z,A]),trivial⟩,rfl⟩
 rintro a _ ⟨f,rfl⟩;refine bA _ _ ?_
 refine Xf f rfl (fun L=>?_) (fun L=>?_)
 ·have p:=L
  have G:goodD d=false:=Xrc (by rw [<- I];exact L)
  refine Zs f fun _ aL=>?_;refine Za rfl<|Zt aL fun a f=>?_;refine Q6<|X8<|X6 f (Xs f rfl rfl) ?_;exact ⟨by rw [G],y⟩
 have p:=L
 obtain ⟨bB,bI,bJ,bC⟩:=Xgl (d:=d) (by rw [<- I];exact L)
 refine Q7<|b9 _ _<|Q5 fun _ aM=>?_;refine Zs f fun _ aN=>?_;refine Ze (Vd rfl Xi 2)<|Ze (X0 rfl X0b (m.at 2))<|Ze (X07 rfl Xq)<|Zm rfl<|Zt aN fun a f=>?_;refine Q8<|X02 (σ:=Nat) (fun (k:Nat) (a:Act) (w:World)=>Fr a 80 [(1,(pZ9 b4)),(29,.slice Bd d.ws.length dd),(30,vi (d.ws.length:Int)),(31,vi (k:Int))]/\(k<=d.ws.length)/\(∀ i:Nat,i<k->wrQ d i=true)/\Blk w b4 31 [vi d.n,.slice Ad md cd,.slice Bd d.ws.length dd,vi d.t,vi d.r]/\d.ws.length<=dd/\Below w0.heap.size w0 w) (fun (k:Nat)=>d.ws.length-k) 0 ?_ ?_
 ·exact ⟨f.sb,(Qf _),(fun i hi=>by omega),m,E,y⟩
 rintro k a w2 ⟨f,hk,a8,m,E,y⟩;refine Zs f fun _ aO=>?_;refine Ze (X0i rfl rfl)<|ZX aO fun a f _ aP=>?_
 refine Xf f rfl (fun B=>?_) (fun B=>?_)
 ·have q:=B;have B:=Q2 B
  obtain ⟨bK,bG⟩:=X4 (l:=d.ws) (k:=k) (by omega)
  obtain ⟨U,a6⟩:=X4 (l:=d.ws) (k:=k) (by have:=B;omega)
  have bL:=b6 U (Qe a6);have bD:=(Qg.1 a6).1;have aC:=Xg6 a6
  rw [<- I] at aC
  refine Q7<|aP _ _<|Q5 fun _ aQ=>?_;refine Q8<|Zs f fun _ aR=>?_;refine Zm rfl<|Zi (k:=k) (u:=U) (enc:=encWr) (l:=d.ws) tv0 rfl rfl Xq X09 Xu (J.bx y) a6 rfl ?_;intro bM aD;refine Ze (X00 (l:=[vi U.a,vi U.b,.bool U.h]) rfl X15 aD rfl)<|Zf (Xw (zs:=[vi 0,vi 0,.bool false]) X2k rfl) ?_;rintro _ w3 ⟨bN,rfl,aA,H,C⟩;have aE:=Q0 y.size aA;have aS:=(J.bx y).away aA;have m:=m.bw H;have y:=btr y H;refine Za rfl<|Zo (Vw [vi U.a,vi U.b,.bool U.h] X09 C) ?_;rintro _ w4 ⟨ho,hb⟩;have aT:=C;have m:=m.oz ho aT rfl;have y:=Below.oy y ho aE;have C:=hb;refine ZX aR fun a f _ aU=>?_;refine X06 (fun a w=>Fr a 80 [(1,(pZ9 b4)),(29,.slice Bd d.ws.length dd),(30,vi (d.ws.length:Int)),(31,vi (k:Int)),(65,.bool (!(inR U.a 0 (U.b-1))||decide ((md:Int)<=U.b)||(decide (0<(k:Int))&&!(wlt (d.ws.getD (k-1) wZ) U))))]/\Below w4.heap.size w4 w) ?_ ?_
  ·have M:Below w4.heap.size w4 w4:=Below.refl _ _
   refine Xz none (fun _=>false) mixed ?_;intro w5 H;have m:=m.bw H;have C:=C.bw H;have y:=btr y H;have M:=btr M H;refine Yb f<|Yo 0 rfl (fun _=>Vd rfl X0m 0)<|Ye 1 rfl (X0 rfl Xa (C.at 0))<|Yo 2 rfl (fun _=>Vd rfl X0o 1)<|Ye 3 rfl (X0 rfl Xa (C.at 1))<|Yo 4 rfl (fun _=>X1d rfl rfl (by omega) (by omega))<|Y1 5 ?_;refine Yz rfl tv0 (Vc (F85 _ U.a 0 (U.b-1)) X5a) ?_;refine Yo 6 rfl (fun _=>X0z rfl)<|Yo 7 rfl (fun _=>X3 rfl) ?_
   refine Yl 43 rfl (fun e=>?_) (fun e=>?_)
   ·refine Yp 8 rfl (gP e) ?_;refine Yp 9 rfl (gP e) ?_;refine Yp 10 rfl (gP e) ?_;refine Yp 11 rfl (gP e) ?_;refine Yp 12 rfl (gP e) ?_;refine Yp 13 rfl (gP e) ?_;refine Yo 14 rfl (fun _=>X5 rfl e rfl)<|Yo 15 rfl (fun _=>X3 rfl)<|Yp 16 rfl (gP rfl) ?_;refine Yp 17 rfl (gP rfl) ?_;refine Yp 18 rfl (gP rfl) ?_;refine Yp 19 rfl (gP tv0) ?_;refine Yp 20 rfl (gP tv0) ?_;refine Yp 21 rfl (gP tv0) ?_;refine Yp 22 rfl (gP tv0) ?_;refine Yp 23 rfl (gP tv0) ?_;refine Yp 24 rfl (gP tv0) ?_;refine Yp 25 rfl (gP tv0) ?_;refine Y1 26<|Yq rfl ⟨_,_,rfl,rfl,trivial⟩ ?_;refine Yp 27 rfl (gP tv0) ?_;refine Yp 28 rfl (gP rfl) ?_;refine Yo 29 rfl (fun _=>X5 rfl rfl rfl) ?_;refine Yd fun a f=>?_
    have W:Below w4.heap.size w4 w5:=M
    exact ⟨f.sub ⟨rfl,rfl,rfl,rfl,X1 rfl (by first|rfl|(simp only [p,q,e,bs];done)|simp [p,q,e]),trivial⟩,W⟩
   refine Yu 8 rfl (gW e) (fun _=>Vd rfl X0o 1) ?_;refine Yv 9 rfl (gW e) (X0 rfl Xa (C.at 1)) ?_;refine Yu 10 rfl (gW e) (fun _=>Vd rfl Xc 1) ?_;refine Yv 11 rfl (gW e) (X0 rfl Xv (m.at 1)) ?_;refine Yu 12 rfl (gW e) (fun _=>X07 rfl Xm) ?_;refine Yu 13 rfl (gW e) (fun _=>X4q rfl rfl) ?_;refine Yo 14 rfl (fun _=>X9 rfl e rfl)<|Yo 15 rfl (fun _=>X3 rfl) ?_
   refine Yl 51 rfl (fun g=>?_) (fun g=>?_)
   ·refine Yp 16 rfl (gP g) ?_;refine Yp 17 rfl (gP g) ?_;refine Yp 18 rfl (gP g) ?_;refine Yp 19 rfl (gP tv0) ?_;refine Yp 20 rfl (gP tv0) ?_;refine Yp 21 rfl (gP tv0) ?_;refine Yp 22 rfl (gP tv0) ?_;refine Yp 23 rfl (gP tv0) ?_;refine Yp 24 rfl (gP tv0) ?_;refine Yp 25 rfl (gP tv0) ?_;refine Y1 26<|Yq rfl ⟨_,_,rfl,rfl,trivial⟩ ?_;refine Yp 27 rfl (gP tv0) ?_;refine Yp 28 rfl (gP g) ?_;refine Yo 29 rfl (fun _=>X5 rfl g rfl) ?_;refine Yd fun a f=>?_
    have W:Below w4.heap.size w4 w5:=M
    exact ⟨f.sub ⟨rfl,rfl,rfl,rfl,X1 rfl (by first|rfl|(simp only [p,q,e,g,bs];done)|simp [p,q,e,g]),trivial⟩,W⟩
   refine Yu 16 rfl (gW g) (fun _=>X3 rfl) ?_;refine Yu 17 rfl (gW g) (fun _=>X2o rfl rfl) ?_;refine Yu 18 rfl (gW g) (fun _=>X3 rfl) ?_
   refine Yl 54 rfl (fun c=>?_) (fun c=>?_)
   ·have bO:0<k:=by have h8:=c;simpa using h8
    refine Yu 19 rfl (gW c) (fun _=>Vd rfl Xi 2) ?_;refine Yv 20 rfl (gW c) (X0 rfl X0b (m.at 2)) ?_;refine Yu 21 rfl (gW c) (fun _=>X3 rfl) ?_;refine Yu 22 rfl (gW c) (fun _=>X1d rfl rfl (by omega) (by omega)) ?_;refine Yi (k:=(k-1)) (u:=(d.ws.getD (k-1) wZ)) (enc:=encWr) (l:=d.ws) 23 rfl ⟨_,_,rfl,rfl,c⟩ rfl rfl Xq X09 Xu (J.bx y) (Xg (by omega)) (by omega) ?_;intro bP aF;refine Yv 24 rfl (gW c) (X00 (l:=[vi ((d.ws.getD (k-1) wZ).a),vi ((d.ws.getD (k-1) wZ).b),.bool ((d.ws.getD (k-1) wZ).h)]) rfl X15 aF rfl) ?_;refine Yv 25 rfl (gW c) (Vn X15 C) ?_;refine Y1 26<|Yk rfl ⟨_,_,rfl,rfl,c⟩ (Vc (Xme _ (d.ws.getD (k-1) wZ) U) Xce) (fun _ _ ⟨_,H⟩=>H) ?_;rintro _ w6 ⟨rfl,H⟩;have y:=btr y H;have M:=btr M H;refine Yu 27 rfl (gW c) (fun _=>X0z rfl) ?_;refine Yu 28 rfl (gW g) (fun _=>X5 rfl c rfl) ?_;refine Yo 29 rfl (fun _=>X9 rfl g rfl) ?_;refine Yd fun a f=>?_
    have W:Below w4.heap.size w4 w6:=M
    exact ⟨f.sub ⟨rfl,rfl,rfl,rfl,X1 rfl (by first|rfl|(simp only [p,q,e,g,c,bs];done)|simp [p,q,e,g,c]),trivial⟩,W⟩
   refine Yp 19 rfl (gP c) ?_;refine Yp 20 rfl (gP c) ?_;refine Yp 21 rfl (gP c) ?_;refine Yp 22 rfl (gP c) ?_;refine Yp 23 rfl (gP c) ?_;refine Yp 24 rfl (gP c) ?_;refine Yp 25 rfl (gP c) ?_;refine Y1 26<|Yq rfl ⟨_,_,rfl,rfl,c⟩ ?_;refine Yp 27 rfl (gP c) ?_;refine Yu 28 rfl (gW g) (fun _=>X9 rfl c rfl) ?_;refine Yo 29 rfl (fun _=>X9 rfl g rfl) ?_;refine Yd fun a f=>?_
   have W:Below w4.heap.size w4 w5:=M
   exact ⟨f.sub ⟨rfl,rfl,rfl,rfl,X1 rfl (by first|rfl|(simp only [p,q,e,g,c,bs];done)|simp [p,q,e,g,c]),trivial⟩,W⟩
  rintro a w7 ⟨f,H⟩;have m:=m.bw H;have y:=btr y H;refine aU _ _ ?_
  refine Xf f rfl (fun N=>?_) (fun N=>?_)
  ·have aG:=N
   have G:goodD d=false:=Xns bD (by rw [aC,N];rfl)
   refine Zs f fun _ aV=>?_;refine Za rfl<|Zt aV fun a f=>?_;refine Q6<|Xx<|X8<|X8 ?_;refine Xx<|X8<|X6 f (Xs f rfl rfl) ?_;exact ⟨by rw [G],y⟩
  have aG:=N
  have aH:wrQ d k=true:=by rw [aC,N];rfl
  refine Q7<|Xb<|aQ _ _<|Zr f ?_;refine Ze (Xr rfl rfl (by omega) (by omega))<|Zm rfl ?_;refine Zn fun a f=>?_;refine Xe ?_;exact ⟨k+1,⟨f.sb,(by omega),(fun i hi=>by by_cases h9:i=k;rw [h9];exact aH;exact a8 i (by omega)),m,E,y⟩,(by omega)⟩
 have q:=B;have B:=Q1 B
 have aI:∀ i,i<d.ws.length->wrQ d i=true:=fun i hi=>a8 i (by have:=B;omega)
 refine Q9<|Xl<|Xl<|X01 ?_;refine aM _ _<|Q5 fun _ aW=>?_;refine Zs f fun _ aX=>?_;refine Ze (Vd rfl Xc 1)<|Ze (X0 rfl Xv (m.at 1))<|Ze (X07 rfl Xm)<|Zm rfl<|Zt aX fun a f=>?_;refine Q8<|X02 (σ:=Nat) (fun (j:Nat) (a:Act) (w:World)=>Fr a 80 [(1,(pZ9 b4)),(69,vi (md:Int)),(70,vi (j:Int))]/\(j<=d.ns.length)/\(∀ i:Nat,i<j->ndQ d (i:Int)=true)/\Blk w b4 31 [vi d.n,.slice Ad md cd,.slice Bd d.ws.length dd,vi d.t,vi d.r]/\d.ws.length<=dd/\Below w0.heap.size w0 w) (fun (j:Nat)=>d.ns.length-j) 0 ?_ ?_
 ·exact ⟨f.sb,(Qf _),(fun i hi=>by omega),m,E,y⟩
 rintro j a w8 ⟨f,hj,aB,m,E,y⟩;refine Zs f fun _ aY=>?_;refine Ze (X0i rfl rfl)<|ZX aY fun a f _ aZ=>?_
 refine Xf f rfl (fun D=>?_) (fun D=>?_)
 ·have aJ:=D;have D:=Q2 D
  have bE:j<d.ns.length:=by have:=D;omega
  refine Q7<|aZ _ _<|Q5 fun _ b0=>?_;refine Q8<|Zs f fun _ b1=>?_;refine Zm rfl<|Za rfl<|Zx b1 fun a f _ b2=>?_;refine Ze (Vn X2 m)<|Zm rfl<|Zf (Vc (Xrr _ d md I Ad cd (a7.bx y).top Bd dd (J.bx y).top E (j:Int) ⟨by omega,by omega⟩ (by omega) ⟨by omega,by omega⟩) Xi6) ?_;rintro _ w9 ⟨rfl,H⟩;have m:=m.bw H;have y:=btr y H;refine Ze (X0z rfl)<|Zt b2 fun a f=>?_
  refine Xf f rfl (fun Q=>?_) (fun Q=>?_)
  ·have aK:=Q
   have G:goodD d=false:=Xn3 bE (by have h8:=Q;simpa using h8)
   refine Zs f fun _ b3=>?_;refine Za rfl<|Zt b3 fun a f=>?_;refine Q6<|Xx<|X8<|X8 ?_;refine Xx<|X8<|X6 f (Xs f rfl rfl) ?_;exact ⟨by rw [G],y⟩
  have aK:=Q
  have aH:ndQ d (j:Int)=true:=by have h8:=Q;simpa using h8
  refine Q7<|Xb<|b0 _ _<|Zr f ?_;refine Ze (Xr rfl rfl (by omega) (by omega))<|Zm rfl ?_;refine Zn fun a f=>?_;refine Xe ?_;exact ⟨j+1,⟨f.sb,(by omega),(fun i hi=>by by_cases h9:i=j;rw [h9];exact aH;exact aB i (by omega)),m,E,y⟩,(by omega)⟩
 have aJ:=D;have D:=Q1 D
 have G:goodD d=endQ d:=Xoi bB aI fun i hi=>aB i (by have:=D;omega)
 refine Q9<|Xl<|Xl<|X01 ?_;refine aW _ _<|Zs f fun _ b5=>?_;refine Ze (Vn X2 m)<|Zf (Vc (Xu3 _ d md I Ad cd (a7.bx y).top Bd dd (J.bx y).top E (by omega) ⟨by omega,by omega⟩) Xjt) ?_;rintro _ bQ ⟨rfl,H⟩;have y:=btr y H;refine Za rfl<|Zt b5 fun a f=>?_
 refine Q6 (X6 f (Xs f rfl rfl) ?_)
 exact ⟨by rw [G],y⟩
def RgW(N:Nat)(ws:List Wr) : Prop:=∀ x ∈ ws,(0<=x.a/\x.a<N)/\(0<=x.b/\x.b<N)
def spN(ns:List Nd) : Nat:=(ns.filter fun x=>x.k==3).length
theorem X7c{N:Nat}{ws:List Wr}{a b:Int}{h:Bool}(hw:RgW N ws)(ha:0<=a/\a<N)(hb:0<=b/\b<N) : RgW N (jnW ws a b h):=fun x hx=>by
 rcases X4t.1 hx with rfl|hx
 ·dsimp only;omega
 ·exact hw x hx
theorem Xbp{N:Nat}{ws:List Wr}(hw:RgW N ws)(i:Nat) : RgW N (ctW ws i):=fun x hx=>hw x ((X2y ws i).subset hx)
theorem Xu5{N:Nat}{ws:List Wr}(hw:RgW N ws)(k:Int) : RgW N (dpW ws k):=fun x hx=>hw x (List.mem_filter.1 hx).1
theorem X64:∀ (ns:List Nd) (k:Nat) (x:Nd),k<ns.length->spN (ns.set k x)+(if (ns.getD k nZ).k=3 then 1 else 0)=spN ns+(if x.k=3 then 1 else 0)
 | [],_,_,h=>by simp at h
 | y::ns,0,x,_=>by
  unfold spN
  simp only [List.set_cons_zero,List.filter_cons,List.getD_cons_zero,beq_iff_eq]
  split<;>split<;>simp
 | y::ns,k+1,x,h=>by
  have ih:=X64 ns k x (by simpa using h)
  unfold spN at ih ⊢
  simp only [List.set_cons_succ,List.filter_cons,List.getD_cons_succ,beq_iff_eq]
  split<;>(try simp only [Qs])<;>omega
theorem Xhf(ns:List Nd)(x m:Int) : spN (adN ns x m)=spN ns:=by
 by_cases h:x.toNat<ns.length
 ·have h1:=X64 ns x.toNat { ns.getD x.toNat nZ with p:=((ns.getD x.toNat nZ).p+m) % 8 } h
  unfold adN
  dsimp only at h1 ⊢
  omega
 ·unfold adN
  rw [List.set_eq_of_length_le (by omega)]
theorem Xox{ns:List Nd}(k:Int) : spN (dpN ns k)<=spN ns:=by
 by_cases h:k.toNat<ns.length
 ·have h1:=X64 ns k.toNat nZ h
  have h2:(if nZ.k=3 then 1 else 0:Nat)=0:=rfl
  rw [h2] at h1
  unfold dpN
  omega
 ·unfold dpN
  rw [List.set_eq_of_length_le (by omega)]
  exact Qb _
theorem Xdg{ns:List Nd}{k:Int}(hs:spI ns k=true) : spN (dpN ns k)<spN ns:=by
 obtain ⟨_,h,h3⟩:=X0s hs;have h1:=X64 ns k.toNat nZ h
 have h2:(if nZ.k=3 then 1 else 0:Nat)=0:=rfl
 rw [h2,Q4 h3] at h1
 unfold dpN
 omega
structure Nx (N s c:Nat) (d:Dg) : Prop where
 l:d.ns.length=N
 w:RgW N d.ws
 c:d.ws.length<=c
 s:spN d.ns<=s
theorem Nx.mono{N s c s' c':Nat}{d:Dg}(h:Nx N s c d)(hs:s<=s')(hc:c<=c') : Nx N s' c' d:=⟨h.l,h.w,Q0 h.c hc,Q0 h.s hs⟩
theorem Nx.jn{N s c:Nat}{d:Dg}(h:Nx N s c d){a b:Int}{x:Bool}(ha:0<=a/\a<N)(hb:0<=b/\b<N) : Nx N s (c+1) { d with ws:=jnW d.ws a b x }:=
 ⟨h.l,X7c h.w ha hb,by have:=h.c;dsimp only;rw [X2z];omega,h.s⟩
theorem Nx.ad{N s c:Nat}{d:Dg}(h:Nx N s c d)(x m:Int) : Nx N s c { d with ns:=adN d.ns x m }:=⟨(X1m _ _ _).trans h.l,h.w,h.c,by dsimp only;rw [Xhf];exact h.s⟩
theorem Nx.dp{N s c:Nat}{d:Dg}(h:Nx N s c d)(k:Int) : Nx N s c (id0 d k):=⟨(X1k _ _).trans h.l,Xu5 h.w k,Q0 (X1v _ _) h.c,Q0 (Xox k) h.s⟩
theorem Nx.lk{N s c:Nat}{d:Dg}(h:Nx N s c d){a b:Int}{x:Bool}(ha:0<=a/\a<N)(hb:0<=b/\b<N) : Nx N s (c+1) (lkD d a b x):=by
 have h1:=Xeo d a b x
 refine ⟨h1.1.trans h.l,?_,Q0 h1.2 (Nat.succ_le_succ h.c),?_⟩
 ·unfold lkD
  split
  ·exact X7c h.w ha hb
  ·split
   ·exact Xbp h.w _
   ·split
    ·exact X7c (Xbp h.w _) ha hb
    ·exact h.w
 ·unfold lkD
  split
  ·exact h.s
  ·split
   ·exact h.s
   ·split
    ·dsimp only;rw [Xhf];exact h.s
    ·exact h.s
theorem Nx.mt{N s c:Nat}{d:Dg}(h:Nx N s c d){a b:Int}{x:Bool}(ha:0<=a/\a<N)(hb:0<=b/\b<N) : Nx N s (c+1) (mtD d a b x):=by
 unfold mtD
 split
 ·exact h.lk ha hb
 ·exact h.jn ha hb
theorem Nx.tg{N s c:Nat}{d:Dg}(h:Nx N s c d){a b:Int}(ha:0<=a/\a<N)(hb:0<=b/\b<N) : Nx N s (c+1) (tgD d a b):=by
 have h1:=X28 d a b
 refine ⟨by rw [h1.1];exact h.l,?_,Q0 h1.2 (Nat.succ_le_succ h.c),by rw [h1.1];exact h.s⟩
 unfold tgD
 split
 ·exact Xbp h.w _
 ·exact X7c h.w ha hb
theorem Nx.tgl{N s:Nat}{x:Int}(hx:0<=x/\x<N) : ∀ (l:List Int) (c:Nat) (d:Dg),Nx N s c d->(∀ y ∈ l,0<=y/\y<(N:Int))->Nx N s (c+l.length) (tgL d x l)
 | [],c,d,h,_=>h
 | y::l,c,d,h,hl=>by
  have h1:=Nx.tgl hx l (c+1) (tgD d x y) (h.tg hx (hl y (by simp))) fun z hz=>hl z (by simp [hz])
  exact h1.mono (Qb _) (by rw [Qs];omega)
theorem X42{l:List Int}{N:Nat}(hl:∀ y ∈ l,0<=y/\y<(N:Int)){i:Nat}(hi:i<l.length) : 0<=l.getD i 0/\l.getD i 0<(N:Int):=hl _ (Qe (Xg (d:=0) hi))
theorem Nx.lc{N s c:Nat}{p:Int}{l:List Int}{o:Dg}(h:Nx N s c o)(hl:∀ y ∈ l,0<=y/\y<(N:Int)) : ∀ i,i<=l.length->Nx N s (c+i*l.length) (lcS p l o i)
 | 0,_=>h.mono (Qb _) (by omega)
 | i+1,hi=>by
  have ih:=Nx.lc (p:=p) h hl i (by omega)
  have h1:=Nx.tgl (X42 hl (i:=i) (by omega)) (l.take i) _ _ (ih.ad (l.getD i 0) (8-p)) fun y hy=>hl y (Wd hy)
  refine h1.mono (Qb _) ?_
  rw [Qn,Wb,Nat.one_mul]
  omega
theorem Nx.fu{N s:Nat}{d:Dg}{a b:Int}(ha:0<=a/\a<N) : ∀ (l:List Int) (c:Nat) (o:Dg),Nx N s c o->(∀ y ∈ l,0<=y/\y<(N:Int))->Nx N s (c+l.length) (fuS d a b l o)
 | [],c,o,h,_=>h
 | y::l,c,o,h,hl=>by
  have h0:Nx N s (c+1) (fuT d a b o y):=by
   unfold fuT
   split
   ·exact h.mono (Qb _) (by omega)
   ·exact h.mt ha (hl y (by simp))
  exact (Nx.fu ha l (c+1) (fuT d a b o y) h0 fun z hz=>hl z (by simp [hz])).mono (Qb _) (by rw [Qs];omega)
theorem Nx.st{N s c:Nat}{d:Dg}(h:Nx N s c d)(q:Bool)(x m:Int) : Nx N s c (stN q d x m):=by
 unfold stN
 split
 ·exact h.ad x m
 ·exact h
theorem Nx.pf{N s:Nat}{l m:List Int}{x:Int}(hx:0<=x/\x<N) : ∀ (r:List Int) (c:Nat) (o:Dg),Nx N s c o->(∀ y ∈ r,0<=y/\y<(N:Int))->Nx N s (c+r.length) (pvF l m x r o)
 | [],c,o,h,_=>h
 | y::r,c,o,h,hl=>by
  have h0:Nx N s (c+1) (pvT l m x o y):=by
   unfold pvT
   split
   ·exact h.tg hx (hl y (by simp))
   ·exact h.mono (Qb _) (by omega)
  exact (Nx.pf hx r (c+1) (pvT l m x o y) h0 fun z hz=>hl z (by simp [hz])).mono (Qb _) (by rw [Qs];omega)
theorem Nx.pm{N s c:Nat}{e f:Int}{l m r:List Int}{o:Dg}(h:Nx N s c o)(hl:∀ y ∈ r,0<=y/\y<(N:Int)) : ∀ i,i<=r.length->Nx N s (c+i*r.length) (pvM e f l m r o i)
 | 0,_=>h.mono (Qb _) (by omega)
 | i+1,hi=>by
  have ih:=Nx.pm (e:=e) (f:=f) (l:=l) (m:=m) h hl i (by omega)
  have hg:=X42 hl (i:=i) (by omega)
  have h1:=Nx.pf (l:=l) (m:=m) hg (r.take i) _ _ (((ih.st (l.any fun v=>v==r.getD i 0) (r.getD i 0) f).st (m.any fun v=>v==r.getD i 0) (r.getD i 0) e).st ((l.any fun v=>v==r.getD i 0)&&(m.any fun v=>v==r.getD i 0)) (r.getD i 0) 4) fun y hy=>hl y (Wd hy)
  refine h1.mono (Qb _) ?_
  rw [Qn,Wb,Nat.one_mul]
  omega
theorem InD.rg{d:Dg}(h:InD d) : RgW d.ns.length d.ws:=fun x hx=>by
 have e:=h.e x hx
 have l:=h.w.l x hx
 omega
theorem InD.nx{d:Dg}(h:InD d) : Nx d.ns.length (spN d.ns) 1000001 d:=⟨rfl,h.rg,h.len,Qb _⟩
theorem nx0{d:Dg}(h:InD d){k:Int}(hs:spI d.ns k=true) : Nx d.ns.length (spN d.ns-1) 1000001 (id0 d k):=by
 have h1:=h.nx.dp k
 have h2:spN (dpN d.ns k)<spN d.ns:=Xdg hs
 exact ⟨h1.l,h1.w,h1.c,by show spN (dpN d.ns k)<=_;omega⟩
theorem X5j{ns:List Nd}{k:Int}(hs:spI ns k=true) : 0<spN ns:=by
 have:=Xdg hs
 omega
theorem X6d{d:Dg}(h:InD d)(k:Int) : ∀ y ∈ nearW d.ws k,0<=y/\y<(d.ns.length:Int):=fun y hy=>by have:=X2g h hy;omega
theorem Xl0{a n:Nat}(h:a<=2000)(h2:n<=2000) : a*n<=4000000:=Q0 (Nat.mul_le_mul h h2) (by decide)
theorem Xoj{N s c:Nat}{d:Dg}(h:Nx N s c d)(t r:Int) : Nx N s c { d with t:=t,r:=r }:=⟨h.l,h.w,h.c,h.s⟩
theorem Xlq{d:Dg}(h:InD d){r:Rz}(hc:doC d r=true) : Nx d.ns.length (spN d.ns-1) 9000000 (doD d r)/\0<spN d.ns:=by
 unfold doC at hc
 unfold doD
 split at hc
 ·rename_i h1
  rw [Q4 h1]
  have hs:=X7v hc
  unfold fuC at hc
  simp only [Qd] at hc
  refine ⟨?_,X5j hc.1.1.2⟩
  have h0:=(nx0 h hc.1.1.2).ad r.a (d.ns.getD r.b.toNat nZ).p;exact (Nx.fu (d:=d) (a:=r.a) (b:=r.b) ⟨hs.1.1,by omega⟩ (nearW d.ws r.b) _ _ h0 (X6d h r.b)).mono (Qb _) (by have:=X2q h r.b;have:=h.m;omega)
 rename_i h1
 rw [Q3 h1]
 split at hc
 ·rename_i h2
  rw [Q4 h2]
  unfold pvC at hc
  simp only [Qd] at hc
  have hsa:=hc.1.1.1.1.1.1.1.1
  refine ⟨?_,X5j hsa⟩
  have h0:=(nx0 h hsa).dp r.b;have h3:=X88 h r.a r.b;have h4:=h.m
  unfold pvD
  refine Xoj ?_ _ _
  refine (Nx.pm h0 ?_ _ (Qb _)).mono (Qb _) (by have:=Xl0 (a:=(pvL d r.a r.b).length) (n:=(pvL d r.a r.b).length) (by omega) (by omega);omega)
  intro y hy;obtain ⟨i,hi⟩:=List.mem_iff_getElem?.1 hy
  have:=X99 h hi
  omega
 rename_i h2
 rw [Q3 h2]
 split at hc
 ·cases hc
 split at hc
 ·rename_i h3
  rw [Q4 h3]
  unfold idC at hc
  simp only [Qd,beq_iff_eq] at hc
  refine ⟨?_,X5j hc.1.1⟩
  have g0:=X42 (X6d h r.a) (i:=0) (by omega)
  have g1:=X42 (X6d h r.a) (i:=1) (by omega)
  exact ((nx0 h hc.1.1).mt g0 g1).mono (Qb _) (by omega)
 rename_i h3
 rw [Q3 h3]
 split at hc
 ·rename_i h4
  rw [Q4 h4]
  unfold lcC at hc
  simp only [Qd] at hc
  have hsa:=hc.1.1.1
  refine ⟨?_,X5j hsa⟩
  have h5:=X2q h r.a;have h6:=h.m
  unfold lcD
  refine Xoj ?_ _ _
  exact (Nx.lc (nx0 h hsa) (X6d h r.a) _ (Qb _)).mono (Qb _) (by have:=Xl0 (a:=(nearW d.ws r.a).length) (n:=(nearW d.ws r.a).length) (by omega) (by omega);omega)
 rename_i h4
 rw [Q3 h4]
 split at hc
 ·unfold loC at hc
  simp only [Qd] at hc
  refine ⟨?_,X5j hc.1.1⟩
  exact (Xoj (nx0 h hc.1.1) d.t _).mono (Qb _) (by omega)
 ·cases hc
def zD:Dg:=⟨0,[],[],0,0⟩
def outD(d:Dg) : Dg:={ d with t:=d.t.tmod 8 }
def apC(d:Dg)(r:Rz) : Bool:=doC d r&&goodD (outD (doD d r))
def apD(d:Dg)(r:Rz) : Dg:=outD (doD d r)
theorem X7t:∀ (l:List Wr),(∀ i,i+1<l.length->wlt (l.getD i wZ) (l.getD (i+1) wZ)=true)->WSd l
 | [],_=>List.Pairwise.nil
 | [x],_=>by simp
 | x::y::l,h=>by
  have h0:=h 0 (by simp)
  have ih:=X7t (y::l) fun i hi=>by
   have:=h (i+1) (by simpa using hi)
   simpa using this
  have h2:=W8.1 ih
  refine W8.2 ⟨fun z hz=>?_,ih⟩
  rcases Qv.1 hz with rfl|hz
  ·simpa using h0
  ·exact Xar (by simpa using h0) (h2.1 z hz)
theorem X3k{d:Dg}(h:goodD d=true) : hdQ d=true/\(∀ i,i<d.ws.length->wrQ d i=true)/\(∀ i:Nat,i<d.ns.length->ndQ d (i:Int)=true)/\endQ d=true:=by grind [endQ,goodD,hdQ,ndQ,wrQ]
theorem X6f{d:Dg}(h:goodD d=true) : (1<=d.n/\d.n<=5)/\d.ns.length<=40/\(0<=d.t/\d.t<=7)/\-60<=d.r/\d.r<=60:=by
 have h1:=(X3k h).1
 unfold hdQ at h1
 exact (Xgl (by simpa using h1)).2
theorem Xkx{d:Dg}(h:goodD d=true){i:Nat}{x:Nd}(hx:d.ns[i]? = some x) : (0<=x.k/\x.k<=3)/\(0<=x.p/\x.p<=7):=by
 have h1:=(X3k h).2.2.1 i (Qg.1 hx).1;have h2:=X6f h
 have hg:d.ns.getD ((i:Int)).toNat nZ=x:=by rw [Qj,Qa,hx];rfl
 unfold ndQ at h1
 rw [hg] at h1
 split at h1
 ·rename_i hk
  simp only [Qd,beq_iff_eq] at h1 hk
  omega
 split at h1
 ·rename_i hk
  simp only [Qd,Bool.or_eq_true,beq_iff_eq,X0t] at h1 hk
  omega
 ·simp only [Qd,beq_iff_eq,X0t] at h1
  omega
theorem X84{d:Dg}(h:goodD d=true){i:Nat}{x:Wr}(hx:d.ws[i]? = some x) : 0<=x.a/\x.a<x.b/\x.b<d.ns.length/\(0<i->wlt (d.ws.getD (i-1) wZ) x=true):=by
 have h1:=(X3k h).2.1 i (Qg.1 hx).1
 rw [Xg6 hx] at h1
 simp only [Bool.not_eq_true',Bool.or_eq_false_iff,Bool.not_eq_false',X0t,decide_eq_false_iff_not,Bool.and_eq_false_iff] at h1
 refine ⟨by omega,by omega,by omega,fun h0=>?_⟩
 rcases h1.2 with h3|h3
 ·omega
 ·exact h3
theorem X1b{d:Dg}(h:goodD d=true) : InD d:=by
 refine ⟨⟨X7t _ fun i hi=>?_,fun x hx=>?_⟩,fun x hx=>?_,fun x hx=>?_,by have:=X6f h;omega⟩
 ·have:=(X84 h (Xg (d:=wZ) hi)).2.2.2 (by omega)
  simpa using this
 ·obtain ⟨i,hi⟩:=List.mem_iff_getElem?.1 hx;exact (X84 h hi).2.1
 ·obtain ⟨i,hi⟩:=List.mem_iff_getElem?.1 hx
  have:=X84 h hi
  omega
 ·obtain ⟨i,hi⟩:=List.mem_iff_getElem?.1 hx;exact (Xkx h hi).2
theorem Xbv{d:Dg}{r:Rz}(h:apC d r=true) : goodD (apD d r)=true:=by grind [apC,apD,goodD]
theorem Xlt{d:Dg}{r:Rz}(h1:doC d r=false) : apC d r=false:=by unfold apC;rw [h1];rfl
theorem Xmo{N:Nat}{ws:List Wr}(h:RgW N ws)(hN:N<=1000) : ∀ x ∈ ws,-1000000<=x.b/\x.b<=1000000:=by grind [RgW,hN]
def alR(d:Dg)(u:Int)(a j:Nat) : List Rz:=((List.range j).map fun (b:Nat)=>(⟨u,a,b⟩ : Rz)).filter (apC d)
def alS(d:Dg)(u:Int)(k:Nat) : List Rz:=(List.range k).flatMap fun a=>alR d u a d.ns.length
def alL(d:Dg)(u:Int) : List Rz:=alS d u d.ns.length
theorem Xqj{d:Dg}{u:Int}{a j:Nat}(h:apC d ⟨u,a,j⟩=true) : alR d u a (j+1)=alR d u a j++[⟨u,a,j⟩]:=by
 unfold alR
 rw [List.range_succ,List.map_append,List.filter_append]
 simp [h]
theorem Xt0{d:Dg}{u:Int}{a j:Nat}(h:apC d ⟨u,a,j⟩=false) : alR d u a (j+1)=alR d u a j:=by
 unfold alR
 rw [List.range_succ,List.map_append,List.filter_append]
 simp [h]
theorem Xgx(d:Dg)(u:Int)(k:Nat) : alS d u (k+1)=alS d u k++alR d u k d.ns.length:=by
 unfold alS
 rw [List.range_succ,List.flatMap_append]
 simp
theorem Xd3(d:Dg)(u:Int)(a j:Nat) : (alR d u a j).length<=j:=by grind [alR]
theorem X9a(d:Dg)(u:Int) : ∀ k,(alS d u k).length<=k*d.ns.length
 | 0=>by simp [alS]
 | k+1=>by
  rw [Xgx,Qh,Wb,Nat.one_mul]
  have h1:=X9a d u k;have h2:=Xd3 d u k d.ns.length
  omega
def rwZ:Rz:=⟨0,0,0⟩
def spK(ns:List Nd)(k:Nat) : List Int:=((List.range k).filter fun i=>(ns.getD i nZ).k==3).map fun (i:Nat)=>(i:Int)
def spL(ns:List Nd) : List Int:=spK ns ns.length
theorem Xsk{ns:List Nd}{k:Nat}{x:Nd}(hx:ns[k]? = some x)(h:(x.k==3)=true) : spK ns (k+1)=spK ns k++[(k:Int)]:=by
 have e:ns.getD k nZ=x:=by rw [Qa,hx];rfl
 unfold spK
 rw [List.range_succ,List.filter_append]
 simp only [List.filter_cons,e,h,List.filter_nil,if_true,List.map_append,List.map_cons,List.map_nil]
theorem Xr6{ns:List Nd}{k:Nat}{x:Nd}(hx:ns[k]? = some x)(h:(x.k==3)=false) : spK ns (k+1)=spK ns k:=by
 have e:ns.getD k nZ=x:=by rw [Qa,hx];rfl
 unfold spK
 rw [List.range_succ,List.filter_append]
 simp only [List.filter_cons,e,h,List.filter_nil,List.append_nil,Bool.false_eq_true,if_false]
theorem Xby(ns:List Nd)(k:Nat) : (spK ns k).length<=k:=by grind [spK]
theorem Xsa(k:World)(d:Dg)(md:Nat)(m:md=d.ns.length)(Ad:Option Addr)(cd:Nat)(o:Rd k k.heap.size 76 encNd Ad d.ns)(Bd:Option Addr)(dd:Nat)(p:Rd k k.heap.size 84 encWr Bd d.ws)(q:d.ws.length<=dd)(aD:d.ws.length<=1000000000)(aE:∀ x ∈ d.ws,-1000000<=x.b/\x.b<=1000000) : Ret Tryz.prog 167 [.agg #[vi d.n,.slice Ad md cd,.slice Bd d.ws.length dd,vi d.t,vi d.r]] k (fun v w=>∃ A c1 B e,v=.tuple #[.agg #[vi (if (goodD (outD d))=true then outD d else zD).n,.slice A (if (goodD (outD d))=true then outD d else zD).ns.length c1,.slice B (if (goodD (outD d))=true then outD d else zD).ws.length e,vi (if (goodD (outD d))=true then outD d else zD).t,vi (if (goodD (outD d))=true then outD d else zD).r],.bool (goodD (outD d))]/\Rd w w.heap.size 76 encNd A (if (goodD (outD d))=true then outD d else zD).ns/\Rd w w.heap.size 84 encWr B (if (goodD (outD d))=true then outD d else zD).ws/\(if (goodD (outD d))=true then outD d else zD).ws.length<=e/\Below k.heap.size k w):=by
 refine enter Tryz.func167 rfl 13 rfl rfl ?_;intro a j
 have g:=bz k
 refine Zs j fun _ aF=>?_;refine Zf (X0q (zs:=[vi d.n,.slice Ad md cd,.slice Bd d.ws.length dd,vi d.t,vi d.r]) rfl rfl) ?_;rintro _ w1 ⟨b4,rfl,aG,u,f⟩;have a7:=Q0 g.size aG;have g:=btr g u;refine Zf (Xw (zs:=[vi 0,.slice none 0 0,.slice none 0 0,vi 0,vi 0]) X0e rfl) ?_;rintro _ w2 ⟨b7,rfl,aH,u,c⟩
 have aC:b4≠b7:=by have:=f.lt;omega
 have y:=Q0 g.size aH;have f:=f.bw u;have g:=btr g u;refine Za rfl<|Zx aF fun a j _ aI=>?_;refine Ze (Vd rfl X0l 3)<|Ze (X0 rfl Xa (f.at 3))<|Ze (X3q rfl rfl rfl)<|Ze (Vd rfl X0l 3)<|Zo (Vu (vs:=[vi (d.t.tmod 8)]) (l':=[vi d.n,.slice Ad md cd,.slice Bd d.ws.length dd,vi (d.t.tmod 8),vi d.r]) rfl rfl X0a f) ?_;rintro _ w3 ⟨ho,hb⟩;have z:=f;have c:=c.oy ho (by omega);have g:=Below.oy g ho a7;have f:=hb;refine ZX aI fun a j _ aJ=>?_;refine Zs j fun _ a8=>?_;refine Ze (Vn X2 f)<|Zf (Vc (Xl2 _ (⟨d.n,d.ns,d.ws,d.t.tmod 8,d.r⟩ : Dg) md m Ad cd (o.bx g).top Bd dd (p.bx g).top q aD aE) Xcq) ?_;rintro _ w4 ⟨rfl,u⟩;have f:=f.bw u;have c:=c.bw u;have g:=btr g u;refine Ze (X0z rfl)<|Zt a8 fun a j=>?_
 refine Xf j rfl (fun i=>?_) (fun i=>?_)
 ·have a6:=i
  have aK:goodD (outD d)=false:=by have h8:(!goodD (outD d))=true:=i;simpa using h8
  refine Zs j fun _ aA=>?_;refine Ze (X11 (ps:=[]) (cs:=[vi 0,.slice none 0 0,.slice none 0 0,vi 0,vi 0]) rfl (fun _=>by first|rfl|kernel_rfl))<|Zo (Vw [vi 0,.slice none 0 0,.slice none 0 0,vi 0,vi 0] Xd c) ?_;rintro _ w5 ⟨ho,hb⟩;have z:=c;have g:=Below.oy g ho y;have c:=hb;refine Za rfl<|Zt aA fun a j=>?_;refine Q6<|X8<|X6 j (X1h j rfl (ResV.cellN (l:=[vi 0,.slice none 0 0,.slice none 0 0,vi 0,vi 0]) rfl X2 (c.at 0) rfl) rfl) ?_
  rw [aK,Q3 Bool.false_ne_true]
  exact ⟨none,0,none,0,rfl,(Rd.nil _ _ _ _ _),(Rd.nil _ _ _ _ _),(Qf _),g⟩
 have a6:=i
 have aL:goodD (outD d)=true:=by have h8:(!goodD (outD d))=false:=i;simpa using h8
 refine Q7<|aJ _ _<|Zs j fun _ aB=>?_;refine Ze (Vn X2 f)<|Zo (Vw [vi d.n,.slice Ad md cd,.slice Bd d.ws.length dd,vi (d.t.tmod 8),vi d.r] Xd c) ?_;rintro _ w6 ⟨ho,hb⟩;have z:=c;have g:=Below.oy g ho y;have c:=hb;refine Za rfl<|Zt aB fun a j=>?_
 refine Q6 (X6 j (X1h j rfl (ResV.cellN (l:=[vi d.n,.slice Ad md cd,.slice Bd d.ws.length dd,vi (d.t.tmod 8),vi d.r]) rfl X2 (c.at 0) rfl) rfl) ?_)
 rw [aL,Q4 rfl]
 subst m
 exact ⟨Ad,cd,Bd,dd,rfl,(o.bx g).top,(p.bx g).top,q,g⟩
theorem Xhi(Q:World)(d:Dg)(md:Nat)(aC:md=d.ns.length)(Ad:Option Addr)(cd:Nat)(aD:Rd Q Q.heap.size 76 encNd Ad d.ns)(Bd:Option Addr)(dd:Nat)(aE:Rd Q Q.heap.size 84 encWr Bd d.ws)(aF:d.ws.length<=dd)(x:Rz)(hD:InD d) : Ret Tryz.prog 119 [.agg #[vi d.n,.slice Ad md cd,.slice Bd d.ws.length dd,vi d.t,vi d.r],.agg #[vi x.u,vi x.a,vi x.b]] Q (fun v w=>∃ A c1 B e,v=.tuple #[.agg #[vi (if (apC d x)=true then apD d x else zD).n,.slice A (if (apC d x)=true then apD d x else zD).ns.length c1,.slice B (if (apC d x)=true then apD d x else zD).ws.length e,vi (if (apC d x)=true then apD d x else zD).t,vi (if (apC d x)=true then apD d x else zD).r],.bool (apC d x)]/\Rd w w.heap.size 76 encNd A (if (apC d x)=true then apD d x else zD).ns/\Rd w w.heap.size 84 encWr B (if (apC d x)=true then apD d x else zD).ws/\(if (apC d x)=true then apD d x else zD).ws.length<=e/\Below Q.heap.size Q w):=by
 refine enter Tryz.func119 rfl 21 rfl rfl ?_;intro a y
 have g:=bz Q
 refine Zs y fun _ aS=>?_;refine Zf (X0q (zs:=[vi d.n,.slice Ad md cd,.slice Bd d.ws.length dd,vi d.t,vi d.r]) rfl rfl) ?_;rintro _ w1 ⟨b4,rfl,aT,i,k⟩;have aY:=Q0 g.size aT;have g:=btr g i;refine Zf (X0q (zs:=[vi x.u,vi x.a,vi x.b]) rfl rfl) ?_;rintro _ w2 ⟨b5,rfl,aU,i,a6⟩;have aZ:=Q0 g.size aU;have k:=k.bw i;have g:=btr g i;refine Zf (Xw (zs:=[vi 0,.slice none 0 0,.slice none 0 0,vi 0,vi 0]) X0e rfl) ?_;rintro _ w3 ⟨b8,rfl,aV,i,f⟩
 have aR:b4≠b8:=by have:=k.lt;omega
 have U:=Q0 g.size aV;have k:=k.bw i;have a6:=a6.bw i;have g:=btr g i;refine Za rfl<|Zx aS fun a y _ aW=>?_;refine Ze (Vn X2 k)<|Ze (Vn X10 a6)<|Zf (Vc (Xro _ d md aC Ad cd (aD.bx g).top Bd dd (aE.bx g).top aF x hD) Xjz) ?_;rintro _ w4 ⟨J,L,M,N,rfl,o,p,aG,aH,i⟩;have k:=k.bw i;have f:=f.bw i;have g:=btr g i;refine Zm rfl<|Ze (Xn (vs:=[.agg #[vi ((if (doC d x)=true then doD d x else d).n),.slice J md L,.slice M ((if (doC d x)=true then doD d x else d).ws).length N,vi ((if (doC d x)=true then doD d x else d).t),vi ((if (doC d x)=true then doD d x else d).r)],.bool (doC d x)]) rfl rfl)<|Ze (Xn (vs:=[.agg #[vi ((if (doC d x)=true then doD d x else d).n),.slice J md L,.slice M ((if (doC d x)=true then doD d x else d).ws).length N,vi ((if (doC d x)=true then doD d x else d).t),vi ((if (doC d x)=true then doD d x else d).r)],.bool (doC d x)]) rfl rfl)<|Zf (Xw (zs:=[vi 0,.slice none 0 0,.slice none 0 0,vi 0,vi 0]) X0e rfl) ?_;rintro _ w5 ⟨b14,rfl,aI,i,z⟩
 have aJ:b4≠b14:=by have:=k.lt;omega
 have aK:b8≠b14:=by have:=f.lt;omega
 have a7:=Q0 g.size aI;have f:=f.bw i;have o:=o.bw i;have p:=p.bw i;have g:=btr g i;refine Zo (Vw [vi ((if (doC d x)=true then doD d x else d).n),.slice J md L,.slice M ((if (doC d x)=true then doD d x else d).ws).length N,vi ((if (doC d x)=true then doD d x else d).t),vi ((if (doC d x)=true then doD d x else d).r)] Xd z) ?_;rintro _ w6 ⟨I,hb⟩;have j:=z;have f:=f.oy I (by omega);have o:=o.oT I j rfl;have p:=p.oT I j rfl;have g:=Below.oy g I a7;have z:=hb;refine Za rfl<|ZX aW fun a y _ aL=>?_;refine Zs y fun _ aM=>?_;refine Zm rfl<|Ze (X0z rfl)<|Zt aM fun a y=>?_
 refine Xf y rfl (fun q=>?_) (fun q=>?_)
 ·have a8:=q
  have aX:apC d x=false:=Xlt (by have h8:=q;simpa using h8)
  refine Zs y fun _ aN=>?_;refine Ze (X11 (ps:=[]) (cs:=[vi 0,.slice none 0 0,.slice none 0 0,vi 0,vi 0]) rfl (fun _=>by first|rfl|kernel_rfl))<|Zo (Vw [vi 0,.slice none 0 0,.slice none 0 0,vi 0,vi 0] Xd f) ?_;rintro _ w7 ⟨I,hb⟩;have j:=f;have g:=Below.oy g I U;have f:=hb;refine Za rfl<|Zt aN fun a y=>?_;refine Q6<|X8<|X6 y (X1h y rfl (ResV.cellN (l:=[vi 0,.slice none 0 0,.slice none 0 0,vi 0,vi 0]) rfl X2 (f.at 0) rfl) rfl) ?_
  rw [aX,Q3 Bool.false_ne_true]
  exact ⟨none,0,none,0,rfl,(Rd.nil _ _ _ _ _),(Rd.nil _ _ _ _ _),(Qf _),g⟩
 have a8:=q
 have aA:doC d x=true:=by have h8:=q;simpa using h8
 have aO:=Xlq hD aA
 have aB:(if doC d x=true then doD d x else d)=doD d x:=Q4 aA
 refine Q7<|aL _ _<|Zs y fun _ aP=>?_;refine Ze (Vn X2 z)<|Zf (Vc (Xsa _ (if (doC d x)=true then doD d x else d) md aH J L o.top M N p.top aG (by rw [aB];exact Q0 aO.1.c (by decide)) (by rw [aB];exact Xmo aO.1.w hD.m)) Xi0) ?_;rintro _ w8 ⟨h,C,D,E,rfl,G,H,aQ,i⟩;have f:=f.bw i;have g:=btr g i;refine Ze (Xn (vs:=[.agg #[vi ((if (goodD (outD (if (doC d x)=true then doD d x else d)))=true then outD (if (doC d x)=true then doD d x else d) else zD).n),.slice h ((if (goodD (outD (if (doC d x)=true then doD d x else d)))=true then outD (if (doC d x)=true then doD d x else d) else zD).ns).length C,.slice D ((if (goodD (outD (if (doC d x)=true then doD d x else d)))=true then outD (if (doC d x)=true then doD d x else d) else zD).ws).length E,vi ((if (goodD (outD (if (doC d x)=true then doD d x else d)))=true then outD (if (doC d x)=true then doD d x else d) else zD).t),vi ((if (goodD (outD (if (doC d x)=true then doD d x else d)))=true then outD (if (doC d x)=true then doD d x else d) else zD).r)],.bool (goodD (outD (if (doC d x)=true then doD d x else d)))]) rfl rfl)<|Ze (Xn (vs:=[.agg #[vi ((if (goodD (outD (if (doC d x)=true then doD d x else d)))=true then outD (if (doC d x)=true then doD d x else d) else zD).n),.slice h ((if (goodD (outD (if (doC d x)=true then doD d x else d)))=true then outD (if (doC d x)=true then doD d x else d) else zD).ns).length C,.slice D ((if (goodD (outD (if (doC d x)=true then doD d x else d)))=true then outD (if (doC d x)=true then doD d x else d) else zD).ws).length E,vi ((if (goodD (outD (if (doC d x)=true then doD d x else d)))=true then outD (if (doC d x)=true then doD d x else d) else zD).t),vi ((if (goodD (outD (if (doC d x)=true then doD d x else d)))=true then outD (if (doC d x)=true then doD d x else d) else zD).r)],.bool (goodD (outD (if (doC d x)=true then doD d x else d)))]) rfl rfl)<|Zo (Vw [vi ((if (goodD (outD (if (doC d x)=true then doD d x else d)))=true then outD (if (doC d x)=true then doD d x else d) else zD).n),.slice h ((if (goodD (outD (if (doC d x)=true then doD d x else d)))=true then outD (if (doC d x)=true then doD d x else d) else zD).ns).length C,.slice D ((if (goodD (outD (if (doC d x)=true then doD d x else d)))=true then outD (if (doC d x)=true then doD d x else d) else zD).ws).length E,vi ((if (goodD (outD (if (doC d x)=true then doD d x else d)))=true then outD (if (doC d x)=true then doD d x else d) else zD).t),vi ((if (goodD (outD (if (doC d x)=true then doD d x else d)))=true then outD (if (doC d x)=true then doD d x else d) else zD).r)] Xd f) ?_;rintro _ w9 ⟨I,hb⟩
 have j:=f;have G:=G.oT I j rfl;have H:=H.oT I j rfl;have g:=Below.oy g I U;have f:=hb;refine Za rfl<|Zt aP fun a y=>?_
 refine Q6 (X6 y (X1h y rfl (ResV.cellN (l:=[vi ((if (goodD (outD (if (doC d x)=true then doD d x else d)))=true then outD (if (doC d x)=true then doD d x else d) else zD).n),.slice h ((if (goodD (outD (if (doC d x)=true then doD d x else d)))=true then outD (if (doC d x)=true then doD d x else d) else zD).ns).length C,.slice D ((if (goodD (outD (if (doC d x)=true then doD d x else d)))=true then outD (if (doC d x)=true then doD d x else d) else zD).ws).length E,vi ((if (goodD (outD (if (doC d x)=true then doD d x else d)))=true then outD (if (doC d x)=true then doD d x else d) else zD).t),vi ((if (goodD (outD (if (doC d x)=true then doD d x else d)))=true then outD (if (doC d x)=true then doD d x else d) else zD).r)]) rfl X2 (f.at 0) rfl) rfl) ?_)
 rw [show apC d x=goodD (outD (doD d x)) from by unfold apC;rw [aA,Qw]]
 rw [aB] at *
 exact ⟨h,C,D,E,rfl,G.top,H.top,aQ,g⟩
theorem Xry(j:World)(d:Dg)(md:Nat)(aD:md=d.ns.length)(Ad:Option Addr)(cd:Nat)(C:Rd j j.heap.size 76 encNd Ad d.ns)(Bd:Option Addr)(dd:Nat)(aY:Rd j j.heap.size 84 encWr Bd d.ws)(o:d.ws.length<=dd)(hN:md<=1000) : Ret Tryz.prog 56 [.agg #[vi d.n,.slice Ad md cd,.slice Bd d.ws.length dd,vi d.t,vi d.r]] j (fun v w=>∃ A c,v=.slice A (spL d.ns).length c/\Own w j.heap.size 3 1 encI A c (spL d.ns)/\Below j.heap.size j w):=by
 refine enter Tryz.func56 rfl 23 rfl rfl ?_;intro a f
 have g:=bz j
 refine Zs f fun _ aO=>?_;refine Zf (X0q (zs:=[vi d.n,.slice Ad md cd,.slice Bd d.ws.length dd,vi d.t,vi d.r]) rfl rfl) ?_;rintro _ w1 ⟨b4,rfl,aP,hE,aQ⟩;have aZ:=Q0 g.size aP;have g:=btr g hE;refine Za rfl<|Zx aO fun a f _ aR=>?_;refine Za rfl<|ZX aR fun a f _ aS=>?_;refine Zs f fun _ aT=>?_;refine Ze (Vd rfl Xc 1)<|Ze (X0 rfl Xv (aQ.at 1))<|Ze (X07 rfl Xm)<|Zm rfl<|Zt aT fun a f=>?_;refine Q8<|X02 (σ:=Nat×(List Int)) (fun (s:Nat×(List Int)) (a:Act) (w:World)=>match s with|(k,m)=>∃ y z,Fr a 23 [(3,.slice y m.length z),(7,.slice Ad md cd),(8,vi (md:Int)),(9,vi (k:Int))]/\(k<=d.ns.length)/\(m=spK d.ns k)/\Own w j.heap.size 3 1 encI y z m/\d.ws.length<=dd/\Below j.heap.size j w) (fun (s:Nat×(List Int))=>match s with|(k,m)=>d.ns.length-k) (0,[]) ?_ ?_
 ·exact ⟨none,0,f.sb,(Qf _),rfl,(Own.nil _ _ _ _ _),o,g⟩
 rintro ⟨k,m⟩ a w2 ⟨y,z,f,hk,hm,b,o,g⟩;have aU:=Xby d.ns k
 rw [<- hm] at aU
 refine Zs f fun _ aE=>?_;refine Ze (X0i rfl rfl)<|ZX aE fun a f _ aF=>?_
 refine Xf f rfl (fun e=>?_) (fun e=>?_)
 ·have a6:=e;have e:=Q2 e
  obtain ⟨u9,a7⟩:=X4 (l:=d.ns) (k:=k) (by have:=e;omega)
  refine Q7<|aF _ _<|Q5 fun _ D=>?_;refine Q8<|Zs f fun _ aG=>?_;refine Zm rfl<|Zj (k:=k) (u:=u9) (enc:=encNd) (l:=d.ns) tv0 rfl aD rfl Xm X05 Xt (C.bx g) a7 (by omega) ?_;intro b0 a8;refine Ze (X00 (l:=[vi u9.k,vi u9.p]) rfl X25 a8 rfl)<|Zf (Xw (zs:=[vi 0,vi 0]) X6s rfl) ?_;rintro _ w3 ⟨b1,rfl,E,hE,q⟩;have aA:=Q0 g.size E;have aH:=(C.bx g).away E;have b:=b.bw hE;have g:=btr g hE;refine Za rfl<|Zo (Vw [vi u9.k,vi u9.p] X05 q) ?_;rintro _ w4 ⟨ho,hb⟩;have aI:=q;have b:=b.oT ho aI rfl;have g:=Below.oy g ho aA;have q:=hb;refine Zx aG fun a f _ aJ=>?_;refine Ze (Vd rfl X13 0)<|Ze (X0 rfl Xa (q.at 0))<|Ze (X0f rfl rfl)<|Zt aJ fun a f=>?_
  refine Xf f rfl (fun i=>?_) (fun i=>?_)
  ·have aB:=i;have h:=Xsk a7 i
   rw [<- hm] at h
   refine Zr f<|Zm rfl<|Zm rfl<|Zf (Xj (k:=1) (vs:=[vi (k:Int)]) (zs:=[vi (k:Int)]) rfl Xk X1f rfl rfl) ?_;rintro _ w5 ⟨b2,rfl,G,hE,B⟩;have aV:=Q0 g.size G;have x:=b.away G;have b:=b.bw hE;have g:=btr g hE;refine Zf (X0k (enc:=encI) (l:=(m)) (l2:=([(k:Int)])) (B0:=j.heap.size) rfl rfl Xk X1f Xh X1z b (Rd.of_blk B rfl _ B.lt) (by simp only [maxLen];simp;omega) (by simp;omega) g.size) ?_;rintro _ w6 ⟨aW,aX,rfl,aK,hg,aL⟩
   have H:Own _ j.heap.size 3 1 encI _ _ (m):=b
   have aC:=aL _ B.lt x;clear aL;have g:=Below.app g H hg (Qb _) g.size;clear H hg;refine Za rfl ?_;refine Zn fun a f=>?_;refine Xb<|D _ _<|Zr f<|Ze (Xr rfl rfl (by omega) (by omega))<|Zm rfl ?_;refine Zn fun a f=>?_;refine Xe ?_;exact ⟨(k+1,m++([(k:Int)])),⟨aW,aX,f.sb,(by omega),(by rw [h]),aK,o,g⟩,(by first|omega|(dsimp only;omega))⟩
  have aB:=i;have h:=Xr6 a7 i
  rw [<- hm] at h
  refine Q7<|Xb<|D _ _<|Zr f ?_;refine Ze (Xr rfl rfl (by omega) (by omega))<|Zm rfl ?_;refine Zn fun a f=>?_;refine Xe ?_;exact ⟨(k+1,m),⟨y,z,f.sb,(by omega),(by rw [h]),b,o,g⟩,(by first|omega|(dsimp only;omega))⟩
 have a6:=e;have e:=Q1 e
 have aM:m=spL d.ns:=by rw [hm,show k=d.ns.length by have:=e;omega];rfl
 refine Q9<|Xl<|Xl<|X01 ?_;refine aS _ _<|Zs f fun _ aN=>?_;refine Zm rfl<|Za rfl<|Zt aN fun a f=>?_
 refine Q6 (X6 f (Xs f rfl rfl) ?_)
 rw [<- aM]
 exact ⟨y,z,rfl,b,g⟩
theorem Xr4(B:World)(d:Dg)(md:Nat)(aN:md=d.ns.length)(Ad:Option Addr)(cd:Nat)(aO:Rd B B.heap.size 76 encNd Ad d.ns)(Bd:Option Addr)(dd:Nat)(aP:Rd B B.heap.size 84 encWr Bd d.ws)(y:d.ws.length<=dd)(x:Int)(hD:InD d) : Ret Tryz.prog 165 [.agg #[vi d.n,.slice Ad md cd,.slice Bd d.ws.length dd,vi d.t,vi d.r],vi x] B (fun v w=>∃ A c,v=.slice A (alL d x).length c/\Own w B.heap.size 57 3 encRz A c (alL d x)/\Below B.heap.size B w):=by
 have b7:=hD.m;refine enter Tryz.func165 rfl 41 rfl rfl ?_;intro a i
 have o:=bz B
 refine Zs i fun _ b8=>?_;refine Zf (X0q (zs:=[vi d.n,.slice Ad md cd,.slice Bd d.ws.length dd,vi d.t,vi d.r]) rfl rfl) ?_;rintro _ w1 ⟨b4,rfl,b9,z,e⟩;have bJ:=Q0 o.size b9;have o:=btr o z;refine Za rfl<|Zx b8 fun a i _ bA=>?_;refine Za rfl<|ZX bA fun a i _ bB=>?_;refine Zs i fun _ bC=>?_;refine Ze (Vd rfl Xc 1)<|Ze (X0 rfl Xv (e.at 1))<|Ze (X07 rfl Xm)<|Zm rfl<|Zt bC fun a i=>?_;refine Q8<|X02 (σ:=Nat×(List Rz)) (fun (s:Nat×(List Rz)) (a:Act) (w:World)=>match s with|(k,m)=>∃ G H,Fr a 41 [(1,vi x),(2,(pZ9 b4)),(5,.slice G m.length H),(13,vi (md:Int)),(14,vi (k:Int))]/\(k<=d.ns.length)/\(m=alS d x k)/\Blk w b4 31 [vi d.n,.slice Ad md cd,.slice Bd d.ws.length dd,vi d.t,vi d.r]/\Own w B.heap.size 57 3 encRz G H m/\d.ws.length<=dd/\Below B.heap.size B w) (fun (s:Nat×(List Rz))=>match s with|(k,m)=>d.ns.length-k) (0,[]) ?_ ?_
 ·exact ⟨none,0,i.sb,(Qf _),rfl,e,(Own.nil _ _ _ _ _),y,o⟩
 rintro ⟨k,m⟩ a w2 ⟨G,H,i,hk,hm,e,Q,y,o⟩;have bD:=X9a d x k
 rw [<- hm] at bD
 have bN:k*d.ns.length<=1000*1000:=Nat.mul_le_mul (by omega) b7
 refine Zs i fun _ aQ=>?_;refine Ze (X0i rfl rfl)<|ZX aQ fun a i _ aR=>?_
 refine Xf i rfl (fun p=>?_) (fun p=>?_)
 ·have a8:=p;have p:=Q2 p
  have bO:k<d.ns.length:=by have:=p;omega
  refine Q7<|aR _ _<|Q5 fun _ aS=>?_;refine Q8<|Zs i fun _ aT=>?_;refine Zm rfl<|Za rfl<|Zx aT fun a i _ aU=>?_;refine Ze (Vd rfl Xc 1)<|Ze (X0 rfl Xv (e.at 1))<|Ze (X07 rfl Xm)<|Zm rfl<|Zt aU fun a i=>?_;refine Q8<|X02 (σ:=Nat×(List Rz)) (fun (s:Nat×(List Rz)) (a:Act) (w:World)=>match s with|(j,g)=>∃ I J,Fr a 41 [(1,vi x),(2,(pZ9 b4)),(5,.slice I g.length J),(6,vi (k:Int)),(13,vi (md:Int)),(14,vi (k:Int)),(19,vi (md:Int)),(20,vi (j:Int))]/\(j<=d.ns.length)/\(g=m++alR d x k j)/\Blk w b4 31 [vi d.n,.slice Ad md cd,.slice Bd d.ws.length dd,vi d.t,vi d.r]/\Own w B.heap.size 57 3 encRz I J g/\d.ws.length<=dd/\Below B.heap.size B w) (fun (s:Nat×(List Rz))=>match s with|(j,g)=>d.ns.length-j) (0,m) ?_ ?_
  ·exact ⟨G,H,i.sb,(Qf _),(by simp [alR]),e,Q,y,o⟩
  rintro ⟨j,g⟩ a w3 ⟨I,J,i,hj,U,e,b,y,o⟩;refine Zs i fun _ aV=>?_;refine Ze (X0i rfl rfl)<|ZX aV fun a i _ aW=>?_
  refine Xf i rfl (fun q=>?_) (fun q=>?_)
  ·have aA:=q;have q:=Q2 q
   have bP:j<d.ns.length:=by have:=q;omega
   have bQ:g.length<=1000*1000+1000:=by rw [U,Qh];have:=Xd3 d x k j;omega
   refine Q7<|aW _ _<|Q5 fun _ W=>?_;refine Q8<|Zs i fun _ aX=>?_;refine Zm rfl<|Za rfl<|Zx aX fun a i _ aY=>?_;refine Zm rfl<|Zm rfl<|Zm rfl<|Ze (X11 (ps:=[(0,vi x),(1,vi (k:Int)),(2,vi (j:Int))]) (cs:=[vi x,vi (k:Int),vi (j:Int)]) rfl (fun _=>by first|rfl|kernel_rfl))<|Zf (Xw (zs:=[vi 0,vi 0,vi 0]) X2m rfl) ?_;rintro _ w4 ⟨bE,rfl,a6,z,f⟩;have aB:=Q0 o.size a6;have h:=b.away a6;have e:=e.bw z;have b:=b.bw z;have o:=btr o z;refine Zo (Vw [vi x,vi (k:Int),vi (j:Int)] X0v f) ?_;rintro _ w5 ⟨ho,hb⟩;have D:=f;have e:=e.oz ho D rfl;have b:=b.onlyA ho h;have o:=Below.oy o ho aB;have f:=hb;refine Zx aY fun a i _ aZ=>?_;refine Ze (Vn X2 e)<|Ze (Vn X10 f)<|Zf (Vc (Xhi _ d md aN Ad cd (aO.bx o).top Bd dd (aP.bx o).top y (⟨x,(k:Int),(j:Int)⟩ : Rz) hD) X8v) ?_;rintro _ w6 ⟨aC,aD,aE,aF,rfl,bK,bL,bM,z⟩;have e:=e.bw z;have f:=f.bw z;have b:=b.bw z;have o:=btr o z;refine Zm rfl<|Ze (Xn (vs:=[.agg #[vi ((if (apC d (⟨x,(k:Int),(j:Int)⟩ : Rz))=true then apD d (⟨x,(k:Int),(j:Int)⟩ : Rz) else zD).n),.slice aC ((if (apC d (⟨x,(k:Int),(j:Int)⟩ : Rz))=true then apD d (⟨x,(k:Int),(j:Int)⟩ : Rz) else zD).ns).length aD,.slice aE ((if (apC d (⟨x,(k:Int),(j:Int)⟩ : Rz))=true then apD d (⟨x,(k:Int),(j:Int)⟩ : Rz) else zD).ws).length aF,vi ((if (apC d (⟨x,(k:Int),(j:Int)⟩ : Rz))=true then apD d (⟨x,(k:Int),(j:Int)⟩ : Rz) else zD).t),vi ((if (apC d (⟨x,(k:Int),(j:Int)⟩ : Rz))=true then apD d (⟨x,(k:Int),(j:Int)⟩ : Rz) else zD).r)],.bool (apC d (⟨x,(k:Int),(j:Int)⟩ : Rz))]) rfl rfl)<|Ze (Xn (vs:=[.agg #[vi ((if (apC d (⟨x,(k:Int),(j:Int)⟩ : Rz))=true then apD d (⟨x,(k:Int),(j:Int)⟩ : Rz) else zD).n),.slice aC ((if (apC d (⟨x,(k:Int),(j:Int)⟩ : Rz))=true then apD d (⟨x,(k:Int),(j:Int)⟩ : Rz) else zD).ns).length aD,.slice aE ((if (apC d (⟨x,(k:Int),(j:Int)⟩ : Rz))=true then apD d (⟨x,(k:Int),(j:Int)⟩ : Rz) else zD).ws).length aF,vi ((if (apC d (⟨x,(k:Int),(j:Int)⟩ : Rz))=true then apD d (⟨x,(k:Int),(j:Int)⟩ : Rz) else zD).t),vi ((if (apC d (⟨x,(k:Int),(j:Int)⟩ : Rz))=true then apD d (⟨x,(k:Int),(j:Int)⟩ : Rz) else zD).r)],.bool (apC d (⟨x,(k:Int),(j:Int)⟩ : Rz))]) rfl rfl)<|Zf (Xw (zs:=[vi 0,.slice none 0 0,.slice none 0 0,vi 0,vi 0]) X0e rfl) ?_;rintro _ w7 ⟨b30,rfl,b0,z,L⟩
   have b1:b4≠b30:=by have:=e.lt;omega
   have aG:=Q0 o.size b0;have e:=e.bw z;have f:=f.bw z;have b:=b.bw z;have o:=btr o z;refine Zo (Vw [vi ((if (apC d (⟨x,(k:Int),(j:Int)⟩ : Rz))=true then apD d (⟨x,(k:Int),(j:Int)⟩ : Rz) else zD).n),.slice aC ((if (apC d (⟨x,(k:Int),(j:Int)⟩ : Rz))=true then apD d (⟨x,(k:Int),(j:Int)⟩ : Rz) else zD).ns).length aD,.slice aE ((if (apC d (⟨x,(k:Int),(j:Int)⟩ : Rz))=true then apD d (⟨x,(k:Int),(j:Int)⟩ : Rz) else zD).ws).length aF,vi ((if (apC d (⟨x,(k:Int),(j:Int)⟩ : Rz))=true then apD d (⟨x,(k:Int),(j:Int)⟩ : Rz) else zD).t),vi ((if (apC d (⟨x,(k:Int),(j:Int)⟩ : Rz))=true then apD d (⟨x,(k:Int),(j:Int)⟩ : Rz) else zD).r)] Xd L) ?_;rintro _ w8 ⟨ho,hb⟩;have D:=L;have e:=e.oy ho (by omega);have f:=f.oz ho D rfl;have b:=b.oT ho D rfl;have o:=Below.oy o ho aG;have L:=hb;refine Za rfl<|Zx aZ fun a i _ b2=>?_;refine Zm rfl<|Zt b2 fun a i=>?_
   refine Xf i rfl (fun C=>?_) (fun C=>?_)
   ·have aH:=C;have aI:=Xqj (d:=d) (u:=x) (a:=k) (j:=j) C;refine Zr i<|Zm rfl<|Ze (Vn X10 f)<|Zf (Xj (k:=1) (vs:=[.agg #[vi x,vi (k:Int),vi (j:Int)]]) (zs:=[vi x,vi (k:Int),vi (j:Int)]) rfl X08 X1g rfl rfl) ?_;rintro _ w9 ⟨b33,rfl,a7,z,M⟩
    have aK:bE≠b33:=by have:=f.lt;omega
    have bF:=Q0 o.size a7;have E:=b.away a7;have e:=e.bw z;have f:=f.bw z;have b:=b.bw z;have o:=btr o z;refine Zf (X0k (enc:=encRz) (l:=(g)) (l2:=([(⟨x,(k:Int),(j:Int)⟩ : Rz)])) (B0:=B.heap.size) rfl rfl X08 X1g X0p X2e b (Rd.of_blk M rfl _ M.lt) (by simp only [maxLen];simp;omega) (by simp;omega) o.size) ?_;rintro _ bR ⟨bG,bH,rfl,b3,U,aJ⟩
    have N:Own _ B.heap.size 57 3 encRz _ _ (g):=b
    have aL:=aJ _ f.lt h;have aM:=aJ _ M.lt E;clear aJ;have e:=e.appT N U rfl;have o:=Below.app o N U (Qb _) o.size;clear N U;refine Za rfl ?_;refine Zn fun a i=>?_;refine Xb<|W _ _<|Zr i<|Ze (Xr rfl rfl (by omega) (by omega))<|Zm rfl ?_;refine Zn fun a i=>?_;refine Xe ?_;exact ⟨(j+1,g++([(⟨x,(k:Int),(j:Int)⟩ : Rz)])),⟨bG,bH,i.sb,(by omega),(by rw [aI,U];try rw [Qx]),e,b3,y,o⟩,(by first|omega|(dsimp only;omega))⟩
   have aH:=C;have aI:=Xt0 (d:=d) (u:=x) (a:=k) (j:=j) C;refine Q7<|Xb<|W _ _<|Zr i ?_;refine Ze (Xr rfl rfl (by omega) (by omega))<|Zm rfl ?_;refine Zn fun a i=>?_;refine Xe ?_;exact ⟨(j+1,g),⟨I,J,i.sb,(by omega),(by rw [aI,U];try rw [Qx]),e,b,y,o⟩,(by first|omega|(dsimp only;omega))⟩
  have aA:=q;have q:=Q1 q
  have bI:g=alS d x (k+1):=by rw [U,Xgx,show j=d.ns.length by have:=q;omega,hm]
  refine Q9<|Xl<|Xl<|X01 ?_;refine Xb<|aS _ _<|Zr i<|Ze (Xr rfl rfl (by omega) (by omega))<|Zm rfl ?_;refine Zn fun a i=>?_;refine Xe ?_;exact ⟨(k+1,g),⟨I,J,i.sb,(by omega),bI,e,b,y,o⟩,(by first|omega|(dsimp only;omega))⟩
 have a8:=p;have p:=Q1 p
 have b5:m=alL d x:=by rw [hm,show k=d.ns.length by have:=p;omega];rfl
 refine Q9<|Xl<|Xl<|X01 ?_;refine bB _ _<|Zs i fun _ b6=>?_;refine Zm rfl<|Za rfl<|Zt b6 fun a i=>?_
 refine Q6 (X6 i (Xs i rfl rfl) ?_)
 rw [<- b5]
 exact ⟨G,H,rfl,Q,o⟩
end Go.Proofs.YtipiejccbmifnaaGreatDoor
