/-
  What is proved: for every circuit, the program's PeepholeStep answers as the reference's does, leaves its argument as it was and hands out memory of its own, and the argument reads as before. Conditions: none beside the table of powers of ten that the card ties to the program's text.
-/
import Derived.Test.YtblmmikapnflcaaGreatDoorR3
import Derived.Test.YtblmmikapnflcaaGreatDoorR1
import Derived.Lib.ItoaNum
import Derived.Lib.Join
import Derived.Shelf.Strings.OnBuilder
import Derived.Shelf.LaysM
import Derived.Ground.NamesProg
import Derived.Shelf.Strconv.Itoa3
import Derived.Ground.Names2Prog
import Derived.Test.YtblmmikapnflcaaGreatDoorProg
import Derived.Test.YtblmmikapnflcaaGreatDoorR2
import Derived.Lib.ItoaLen
import Derived.Test.YtblmmikapnflcaaGreatDoorRows
import Derived.Lib.LaidU8
import Derived.Lib.AppendIntMem
import Derived.MakeChecks
set_option linter.unusedVariables false
set_option linter.unusedSimpArgs false
set_option maxHeartbeats 1000000
set_option maxRecDepth 20000
set_option linter.unusedSectionVars false
namespace Go.Proofs.YtblmmikapnflcaaGreatDoor
open Go.RowKit
def NC(w:World)(b:Nat) : Prop:=∀ l T fz,w.heap[b]?≠some (.cells l T fz)
theorem MapF.nc{w:World}{b:Nat}{f:Int→Int}(h:MapF w b f) : NC w b:=fun l T fz e=>by
 obtain ⟨_,_,h,_⟩:=h
 unfold MapI at h
 rw [h] at e;cases e
section
variable {α : Type} {w w' : World} {b B : Nat} {E : TypeId} {enc : α → List Value} {A : Option Addr} {l : List α}
theorem NC.ne{b':Nat}{T:TypeId}{cs:List Value}(h:NC w b)(hb:Blk w b' T cs) : b≠b':=by
 rintro rfl;exact h _ _ _ hb
theorem Blk.onlyN{b':Nat}{T:TypeId}{cs:List Value}(h:Blk w b' T cs)(ho:Only b w w')(hm:NC w b) : Blk w' b' T cs:=h.only ho (Ne.symm (hm.ne h))
theorem Rd.onlyN(h:Rd w B E enc A l)(ho:Only b w w')(hm:NC w b) : Rd w' B E enc A l:=h.chg fun k cs fz _ hk=>ho.block k fun e=>by
 rw [e] at hk;exact hm _ _ _ hk
theorem Own.onlyN{sz c:Nat}(h:Own w B E sz enc A c l)(ho:Only b w w')(hm:NC w b) : Own w' B E sz enc A c l:=by
 refine ⟨h.1,?_⟩
 rcases h.2 with k1|⟨g,cap,cur,k1,k2,k3,k4⟩
 ·exact .inl k1
 ·refine .inr ⟨g,cap,cur,k1,k2,(ho.block g fun e=>?_).trans k3,k4⟩
  rw [e] at k3;exact hm _ _ _ k3
theorem NC.app{sz n c c' b0:Nat}(h:NC w b0)(hlt:b0<w.heap.size)(ho:Own w B E sz enc A c l)(hg:w.grownBy w' (Value.slice A n c').ownBlock) : w'.heap[b0]? = w.heap[b0]?:=by
 refine hg.block b0 hlt fun hk=>?_
 rw [Xcc A n l.length c' c] at hk
 obtain ⟨_,_,cs,fz,h3⟩:=ho.block hk.symm;exact h _ _ _ h3
theorem MapF.app{sz n c c':Nat}{f:Int→Int}(h:MapF w b f)(ho:Own w B E sz enc A c l)(hg:w.grownBy w' (Value.slice A n c').ownBlock) : MapF w' b f:=by
 have e:=h.nc.app h.lt ho hg
 obtain ⟨l2,cl,hL,hg2⟩:=h;exact ⟨l2,cl,e.trans hL,hg2⟩
end
section
variable {a : Act} {w : World} {n : Nat} {e : Env} {ty : TypeId} {pos : String} {af : Array Edge} {g : Option (Nat × Bool)} {d : Option Tmp} {b : Nat} {f : Int → Int} {T : TypeId}
theorem Xmw{o:Obj} : Only b w { w with heap:=w.heap.setIfInBounds b o }:=⟨rfl,rfl,rfl,by simp,fun k hk=>by
 show (w.heap.setIfInBounds b _)[k]? = _
 rw [Array.getElem?_setIfInBounds_ne (Ne.symm hk)]⟩
end
def MapR(w:World)(b r:Nat)(f:Int→Int)(left:Int→Bool)(cnt:Nat) : Prop:=∃ l clock since seen c0,MapI w b l clock∧Pw l clock∧(∀ x,(findI l x).getD 0=f x)∧
 w.heap[r]? = some (.mapIter (some b) since seen c0)∧(∀ p ∈ l,p.2.2<since)∧since≤c0∧since≤clock∧(leftOf (l.map entI).toArray seen).size=cnt∧
 (∀ p ∈ l,left p.1 = !seen.contains p.2.2)∧(∀ x,left x=true→∃ p ∈ l,p.1=x)
section
variable {w w' : World} {b r : Nat} {f : Int → Int} {left : Int → Bool} {cnt : Nat}
theorem MapR.nc(h:MapR w b r f left cnt) : NC w r:=fun l T fz e=>by
 obtain ⟨_,_,_,_,_,_,_,_,hr,_⟩:=h
 rw [hr] at e;cases e
theorem MapR.mapF(h:MapR w b r f left cnt) : MapF w b f:=let ⟨l,c,_,_,_,h1,h2,h3,_⟩:=h;⟨l,c,h1,h2,h3⟩
theorem MapR.lt(h:MapR w b r f left cnt) : r<w.heap.size:=by
 obtain ⟨_,_,_,_,_,_,_,_,hr,_⟩:=h;exact (Array.getElem?_eq_some_iff.1 hr).1
theorem MapR.ne(h:MapR w b r f left cnt) : b≠r:=by
 rintro rfl;obtain ⟨_,_,_,_,_,hb,_,_,hr,_⟩:=h
 unfold MapI at hb
 rw [hb] at hr;cases hr
theorem MapR.same(h:MapR w b r f left cnt)(hb:w'.heap[b]? = w.heap[b]?)(hr:w'.heap[r]? = w.heap[r]?) : MapR w' b r f left cnt:=
 let ⟨l,c,s,z,c0,h1,h2,h3,h4,h5⟩:=h
 ⟨l,c,s,z,c0,hb.trans h1,h2,h3,hr.trans h4,h5⟩
theorem MapR.below(h:MapR w b r f left cnt)(hE:Below w.heap.size w w') : MapR w' b r f left cnt:=h.same (hE.block b h.mapF.lt) (hE.block r h.lt)
theorem MapR.only{b':Nat}(h:MapR w b r f left cnt)(ho:Only b' w w')(h1:b≠b')(h2:r≠b') : MapR w' b r f left cnt:=h.same (ho.block b h1) (ho.block r h2)
theorem MapR.app{α:Type}{B:Nat}{E:TypeId}{enc:α→List Value}{A:Option Addr}{l:List α}{sz n c c':Nat}(h:MapR w b r f left cnt)(ho:Own w B E sz enc A c l)(hg:w.grownBy w' (Value.slice A n c').ownBlock) : MapR w' b r f left cnt:=
 h.same (h.mapF.nc.app h.mapF.lt ho hg) (h.nc.app h.lt ho hg)
end
section
variable {a : Act} {w : World} {n : Nat} {e : Env} {ty : TypeId} {pos : String} {af : Array Edge} {g : Option (Nat × Bool)} {d : Option Tmp} {b r : Nat} {f : Int → Int} {T : TypeId} {left : Int → Bool} {cnt : Nat}
def EntR(w:World)(r:Nat)(k v:Int) : Prop:=∀ w',Below w.heap.size w w'→(Instr.entry (.pointer (some ⟨r,0,none⟩))).run Tryz.prog w'=.ok (.tuple #[.int .i64 k,.int .i64 v]) w'
def NextR(w:World)(b r:Nat)(f:Int→Int)(left:Int→Bool)(cnt:Nat)(v:Value)(w':World) : Prop:=
 (v=.tuple #[.bool false]∧w'=w∧∀ x,left x=false)∨
 ∃ k cnt',v=.tuple #[.bool true,.int .i64 k,.int .i64 (f k)]∧left k=true∧Only r w w'∧MapR w' b r f (fun x=>left x&&x != k) cnt'∧cnt'<cnt∧
  EntR w' r k (f k)
end
structure Tm where (m c:Int) deriving DecidableEq
structure Af where (m t:Int) deriving DecidableEq
def encT(x:Tm) : List Value:=[.int .i64 x.m,.int .i64 x.c]
def encA(x:Af) : List Value:=[.int .i64 x.m,.int .i64 x.t]
abbrev aV(x:Af) : Value:=.agg #[.int .i64 x.m,.int .i64 x.t]
abbrev uV(x:Tm) : Value:=.agg #[.int .i64 x.m,.int .i64 x.c]
def padd(f:Int→Int)(m k:Int) : Int→Int:=upd f m ((f m+k) % 8)
def PO(f:Int→Int) : Prop:=∀ x,0≤f x∧f x<8
theorem PO.padd{f:Int→Int}(h:PO f)(m k:Int) : PO (padd f m k):=fun x=>by
 unfold Proofs.YtblmmikapnflcaaGreatDoor.padd upd
 split
 ·omega
 ·exact h x
theorem PO.zero:PO (fun _=>0):=fun _=>⟨by show (0:Int)≤0;omega,by show (0:Int)<8;omega⟩
def Rise(T:List Tm) : Prop:=T.Pairwise fun x y=>x.m<y.m
structure IsT (f:Int→Int) (T:List Tm) : Prop where
 rise:Rise T
 mem:∀ t:Tm,t ∈ T↔0<t.m∧t.m<16777216∧t.c=f t.m∧f t.m≠0
theorem Xgk:∀ {T U:List Tm},Rise T→Rise U→(∀ t,t ∈ T↔t ∈ U)→T=U
 | [],[],_,_,_=>rfl
 | [],u::U,_,_,h=>absurd ((h u).2 (by simp)) (by simp)
 | t::T,[],_,_,h=>absurd ((h t).1 (by simp)) (by simp)
 | t::T,u::U,hT,hU,h=>by
  unfold Rise at hT hU
  rw [List.pairwise_cons] at hT hU
  have htu:t=u:=by
   rcases List.mem_cons.1 ((h t).1 (by simp)) with e|e
   ·exact e
   ·rcases List.mem_cons.1 ((h u).2 (by simp)) with e'|e'
    ·exact e'.symm
    ·have h1:=hT.1 u e';have h2:=hU.1 t e
     omega
  subst htu
  congr 1
  refine Xgk hT.2 hU.2 fun x=>⟨fun hx=>?_,fun hx=>?_⟩
  ·rcases List.mem_cons.1 ((h x).1 (List.mem_cons_of_mem _ hx)) with e|e
   ·have:=hT.1 x hx;rw [e] at this;omega
   ·exact e
  ·rcases List.mem_cons.1 ((h x).2 (List.mem_cons_of_mem _ hx)) with e|e
   ·have:=hU.1 x hx;rw [e] at this;omega
   ·exact e
def tmN(f:Int→Int) : Nat→List Tm
 | 0=>[]
 | n+1=>if 0<(n:Int)∧f n≠0 then tmN f n++[⟨n,f n⟩] else tmN f n
theorem Xet(f:Int→Int) : ∀ N:Nat,Rise (tmN f N)∧∀ t:Tm,t ∈ tmN f N↔0<t.m∧t.m<(N:Int)∧t.c=f t.m∧f t.m≠0
 | 0=>⟨List.Pairwise.nil,fun t=>by simp [tmN];omega⟩
 | n+1=>by
  obtain ⟨h1,h2⟩:=Xet f n
  unfold tmN
  by_cases hn:0<(n:Int)∧f n≠0
  ·rw [if_pos hn]
   refine ⟨?_,fun t=>?_⟩
   ·unfold Rise
    rw [List.pairwise_append]
    refine ⟨h1,List.pairwise_singleton _ _,fun x hx y hy=>?_⟩
    rw [List.mem_singleton.1 hy]
    exact ((h2 x).1 hx).2.1
   ·rw [List.mem_append,h2,List.mem_singleton]
    constructor
    ·rintro (⟨a,b,c⟩|rfl)
     ·exact ⟨a,by omega,c⟩
     ·exact ⟨hn.1,by show (n:Int)<_;omega,rfl,hn.2⟩
    ·rintro ⟨a,b,c,d⟩
     by_cases e:t.m=n
     ·right
      obtain ⟨m,c'⟩:=t
      simp only at e c
      rw [c,e]
     ·left
      exact ⟨a,by omega,c,d⟩
  ·rw [if_neg hn]
   refine ⟨h1,fun t=>?_⟩
   rw [h2]
   constructor
   ·rintro ⟨a,b,c⟩;exact ⟨a,by omega,c⟩
   ·rintro ⟨a,b,c,d⟩
    refine ⟨a,?_,c,d⟩
    by_cases e:t.m=n
    ·rw [e] at a d;exact absurd ⟨a,d⟩ hn
    ·omega
@[irreducible] def tms (f:Int→Int) : List Tm:=tmN f 16777216
theorem Xky(f:Int→Int) : IsT f (tms f):=by
 unfold tms
 exact ⟨(Xet f 16777216).1,(Xet f 16777216).2⟩
theorem IsT.eq{f:Int→Int}{T:List Tm}(h:IsT f T) : T=tms f:=Xgk h.rise (Xky f).rise fun t=>(h.mem t).trans ((Xky f).mem t).symm
def oI(a b:Int) : Int:=bits .or .i64 a b
def exZ(r x y k:Int)(l:List Int)(f:Int→Int) : Nat→Int→Int
 | 0=>f
 | n+1=>padd (exZ r x y k l f n) (oI (oI (oI r x) y) (l.getD n 0)) (4*k)
def exY(r x k:Int)(l:List Int)(f:Int→Int) : Nat→Int→Int
 | 0=>f
 | j+1=>exZ r x (l.getD j 0) k l (padd (exY r x k l f j) (oI (oI r x) (l.getD j 0)) (-2*k)) j
def exX(r k:Int)(l:List Int)(f:Int→Int) : Nat→Int→Int
 | 0=>f
 | i+1=>exY r (l.getD i 0) k l (padd (exX r k l f i) (oI r (l.getD i 0)) k) i
theorem PO.exZ{f:Int→Int}(h:PO f)(r x y k:Int)(l:List Int) : ∀ n,PO (exZ r x y k l f n)
 | 0=>h
 | n+1=>(PO.exZ h r x y k l n).padd _ _
theorem PO.exY{f:Int→Int}(h:PO f)(r x k:Int)(l:List Int) : ∀ n,PO (exY r x k l f n)
 | 0=>h
 | n+1=>((PO.exY h r x k l n).padd _ _).exZ _ _ _ _ _ _
theorem PO.exX{f:Int→Int}(h:PO f)(r k:Int)(l:List Int) : ∀ n,PO (exX r k l f n)
 | 0=>h
 | n+1=>((PO.exX h r k l n).padd _ _).exY _ _ _ _ _
def lows(m:Int) : List Int:=(setN m.toNat).map fun k=>((2^k:Nat) : Int)
def expP(f:Int→Int)(k:Int)(a:Af)(r:Int) : Int→Int:=
 if a.t=1 then exX r (-k) (lows a.m) (padd f r k) (lows a.m).length else exX r k (lows a.m) f (lows a.m).length
theorem PO.expP{f:Int→Int}(h:PO f)(k:Int)(a:Af)(r:Int) : PO (expP f k a r):=by
 unfold Proofs.YtblmmikapnflcaaGreatDoor.expP
 split
 ·exact (h.padd _ _).exX _ _ _ _
 ·exact h.exX _ _ _ _
theorem Vx{P:Program}{o:Oper}{n:Nat}{e:List (Nat×Value)}{w:World}{k:IntKind}{a b:Int}(h:EvW P o n e w (.int k a))(e2:a=b) : EvW P o n e w (.int k b):=e2▸h
end Go.Proofs.YtblmmikapnflcaaGreatDoor
namespace Go.Proofs.YtblmmikapnflcaaGreatDoor
section
variable {G K : Type} [DecidableEq K]
def wds(gs:List G) : Nat→List (List G)
 | 0=>[[]]
 | k+1=>(wds gs k).flatMap fun u=>gs.map fun g=>u++[g]
def skW(gs:List G)(P:List G→Bool) : Nat→List G→Option (List G)
 | 0,p=>if P p then some p else none
 | k+1,p=>gs.findSome? fun g=>skW gs P k (p++[g])
theorem X6w{α β γ:Type}(f:β→Option γ)(h:α→List β)(l:List α) :
  (l.flatMap h).findSome? f=l.findSome? fun a=>(h a).findSome? f:=by
 induction l with
 | nil=>rfl
 | cons a l ih=>simp only [List.flatMap_cons,List.findSome?_append,List.findSome?_cons,ih];cases (h a).findSome? f<;>rfl
theorem Xow(gs:List G)(k:Nat) : ∀ (F:List G→Option (List G)) (j:Nat),
  (wds gs (j+k)).findSome? F=(wds gs j).findSome? fun u=>Nat.rec (motive:=fun _=>List G→Option (List G)) F (fun _ r p=>gs.findSome? fun g=>r (p++[g])) k u:=by
 induction k with
 | zero=>intro F j;rfl
 | succ k ih=>
  intro F j
  show (wds gs (j+k+1)).findSome? F=_
  rw [wds,X6w]
  have:=ih (fun u=>(gs.map fun g=>u++[g]).findSome? F) j
  rw [this];congr 1;funext u
  clear this ih
  induction k generalizing u with
  | zero=>simp only [List.findSome?_map,Function.comp_def];rfl
  | succ k ih=>simp only [];congr 1;funext g;exact ih (u++[g])
theorem Xu9(gs:List G)(P:List G→Bool)(k:Nat)(p:List G) :
  skW gs P k p=Nat.rec (motive:=fun _=>List G→Option (List G)) (fun q=>if P q then some q else none) (fun _ r p=>gs.findSome? fun g=>r (p++[g])) k p:=by
 induction k generalizing p with
 | zero=>rfl
 | succ k ih=>simp only [skW];congr 1;funext g;exact ih _
theorem X94{α:Type}(P:α→Bool)(l:List α) : l.findSome? (fun q=>if P q then some q else none)=l.find? P:=by
 induction l with
 | nil=>rfl
 | cons a l ih=>simp only [List.findSome?_cons,List.find?_cons];cases P a<;>simp [ih]
theorem Xmx(gs:List G)(P:List G→Bool)(k:Nat) : skW gs P k []=(wds gs k).find? P:=by
 have h:=Xow gs k (fun q=>if P q then some q else none) 0
 rw [Nat.zero_add] at h
 rw [← X94,h,Xu9];simp [wds]
def lsW(gs:List G)(P:List G→Bool) : Nat→Option (List G)
 | 0=>(wds gs 0).find? P
 | k+1=>(lsW gs P k).or ((wds gs (k+1)).find? P)
def enT(ky:List G→K)(T:K→Option (List G)) : List (List G)→(K→Option (List G))×List (List G)
 | []=>(T,[])
 | w::l=>match T (ky w) with
  | some _=>enT ky T l
  | none=>let r:=enT ky (fun q=>if q=ky w then some w else T q) l;(r.1,w::r.2)
def grT(gs:List G)(ky:List G→K) : Nat→(K→Option (List G))×List (List G)
 | 0=>((fun q=>if q=ky [] then some [] else none),[[]])
 | k+1=>enT ky (grT gs ky k).1 ((grT gs ky k).2.flatMap fun u=>gs.map fun g=>u++[g])
theorem Xnp(ky:List G→K)(l:List (List G)) : ∀ (T:K→Option (List G)) (q:K),
  (enT ky T l).1 q=(T q).or (l.find? fun w=>ky w=q):=by
 induction l with
 | nil=>intro T q;simp [enT]
 | cons w l ih=>
  intro T q
  simp only [enT]
  cases h:T (ky w) with
  | some x=>
   simp only [ih]
   by_cases e:ky w=q
   ·subst e;simp [h]
   ·simp [e]
  | none=>
   simp only [ih]
   by_cases e:ky w=q
   ·subst e;simp [h]
   ·have e':¬ q=ky w:=fun h=>e h.symm
    simp [e,e']
theorem Xl9(ky:List G→K)(F:List G→Option (List G))(l:List (List G)) : ∀ (T:K→Option (List G)),
  (∀ w,w ∈ l→(T (ky w)).isSome→F w=none)→
  (∀ w v,w ∈ l→v ∈ l→ky w=ky v→(F w).isSome=(F v).isSome)→
  (enT ky T l).2.findSome? F=l.findSome? F:=by
 induction l with
 | nil=>intro T h1 h2;rfl
 | cons w l ih=>
  intro T h1 h2
  simp only [enT]
  cases h:T (ky w) with
  | some x=>
   simp only []
   rw [ih T (fun v hv=>h1 v (List.mem_cons_of_mem _ hv)) (fun u v hu hv=>h2 u v (List.mem_cons_of_mem _ hu) (List.mem_cons_of_mem _ hv))]
   simp [List.findSome?_cons,h1 w (List.mem_cons_self ..) (by simp [h])]
  | none=>
   simp only [List.findSome?_cons]
   cases hF:F w with
   | some y=>rfl
   | none=>
    simp only []
    apply ih
    ·intro v hv hs
     by_cases e:ky v=ky w
     ·have:=h2 v w (List.mem_cons_of_mem _ hv) (List.mem_cons_self ..) e
      rw [hF] at this;simpa using this
     ·rw [if_neg e] at hs;exact h1 v (List.mem_cons_of_mem _ hv) hs
    ·exact fun u v hu hv=>h2 u v (List.mem_cons_of_mem _ hu) (List.mem_cons_of_mem _ hv)
theorem X82(gs:List G)(k:Nat) : ∀ w,w ∈ wds gs k→w.length=k:=by
 induction k with
 | zero=>intro w h;simp [wds] at h;simp [h]
 | succ k ih=>
  intro w h
  simp only [wds,List.mem_flatMap,List.mem_map] at h
  obtain ⟨u,hu,g,hg,rfl⟩:=h
  simp [ih u hu]
theorem Xo9(ky:List G→K)(l:List (List G)) : ∀ (T:K→Option (List G)) w,w ∈ (enT ky T l).2→w ∈ l:=by
 induction l with
 | nil=>intro T w h;simp [enT] at h
 | cons v l ih=>
  intro T w h
  simp only [enT] at h
  cases hv:T (ky v) with
  | some x=>rw [hv] at h;exact List.mem_cons_of_mem _ (ih _ _ h)
  | none=>
   rw [hv] at h;simp only [] at h
   rcases List.mem_cons.mp h with h|h
   ·subst h;exact List.mem_cons_self ..
   ·exact List.mem_cons_of_mem _ (ih _ _ h)
theorem Xi0(gs:List G)(ky:List G→K)(k:Nat) : ∀ w,w ∈ (grT gs ky k).2→w ∈ wds gs k:=by
 induction k with
 | zero=>intro w h;simpa [grT,wds] using h
 | succ k ih=>
  intro w h
  have:=Xo9 ky _ _ w h
  simp only [List.mem_flatMap] at this
  obtain ⟨u,hu,hw⟩:=this
  simp only [wds,List.mem_flatMap];exact ⟨u,ih u hu,hw⟩
theorem Xe3(gs:List G)(P:List G→Bool)(k:Nat) : (lsW gs P k).isSome↔∃ j w,j≤k∧w ∈ wds gs j∧P w=true:=by
 induction k with
 | zero=>
  simp only [lsW,List.find?_isSome]
  constructor
  ·rintro ⟨w,hw,hp⟩;exact ⟨0,w,Nat.le_refl _,hw,hp⟩
  ·rintro ⟨j,w,hj,hw,hp⟩;cases Nat.le_zero.mp hj;exact ⟨w,hw,hp⟩
 | succ k ih=>
  simp only [lsW,Option.isSome_or,Bool.or_eq_true,ih,List.find?_isSome]
  constructor
  ·rintro (⟨j,w,hj,hw,hp⟩|⟨w,hw,hp⟩)
   ·exact ⟨j,w,Nat.le_succ_of_le hj,hw,hp⟩
   ·exact ⟨k+1,w,Nat.le_refl _,hw,hp⟩
  ·rintro ⟨j,w,hj,hw,hp⟩
   rcases Nat.lt_or_ge k j with h|h
   ·have:j=k+1:=by omega
    subst this;exact Or.inr ⟨w,hw,hp⟩
   ·exact Or.inl ⟨j,w,h,hw,hp⟩
theorem Xnw(gs:List G)(ky:List G→K)(B:Nat)
  (hc:∀ i j u v g,i<B→j<B→u ∈ wds gs i→v ∈ wds gs j→g ∈ gs→ky u=ky v→ky (u++[g])=ky (v++[g])) (k:Nat) (hk:k≤B) :
  (∀ q,(grT gs ky k).1 q=lsW gs (fun w=>ky w=q) k)∧
  (∀ F:List G→Option (List G),
   (∀ w v,w ∈ wds gs k→v ∈ wds gs k→ky w=ky v→(F w).isSome=(F v).isSome)→
   (∀ w j v,w ∈ wds gs k→j<k→v ∈ wds gs j→ky v=ky w→F w=none)→
   (grT gs ky k).2.findSome? F=(wds gs k).findSome? F):=by
 induction k with
 | zero=>
  refine ⟨?_,?_⟩
  ·intro q
   by_cases e:q=ky []
   ·subst e;simp [grT,lsW,wds]
   ·have e':¬ ky []=q:=fun h=>e h.symm
    simp [grT,lsW,wds,e,e']
  ·intro F _ _;rfl
 | succ k ih=>
  obtain ⟨i1,i2⟩:=ih (by omega)
  have key:∀ F:List G→Option (List G),
   (∀ w v,w ∈ wds gs (k+1)→v ∈ wds gs (k+1)→ky w=ky v→(F w).isSome=(F v).isSome)→
   (∀ w j v,w ∈ wds gs (k+1)→j<k+1→v ∈ wds gs j→ky v=ky w→F w=none)→
   ((grT gs ky k).2.flatMap fun u=>gs.map fun g=>u++[g]).findSome? F=(wds gs (k+1)).findSome? F:=by
   intro F f1 f2
   have hin:∀ u g,u ∈ wds gs k→g ∈ gs→u++[g] ∈ wds gs (k+1):=by
    intro u g hu hg;simp only [wds,List.mem_flatMap,List.mem_map];exact ⟨u,hu,g,hg,rfl⟩
   have hin':∀ j u g,u ∈ wds gs j→g ∈ gs→u++[g] ∈ wds gs (j+1):=by
    intro j u g hu hg;simp only [wds,List.mem_flatMap,List.mem_map];exact ⟨u,hu,g,hg,rfl⟩
   rw [X6w,wds,X6w]
   apply i2
   ·intro w v hw hv e
    rw [Bool.eq_iff_iff]
    simp only [List.findSome?_isSome_iff,List.mem_map]
    constructor
    ·rintro ⟨x,⟨g,hg,rfl⟩,hx⟩
     refine ⟨v++[g],⟨g,hg,rfl⟩,?_⟩
     rw [← f1 _ _ (hin w g hw hg) (hin v g hv hg) (hc k k w v g (by omega) (by omega) hw hv hg e)];exact hx
    ·rintro ⟨x,⟨g,hg,rfl⟩,hx⟩
     refine ⟨w++[g],⟨g,hg,rfl⟩,?_⟩
     rw [f1 _ _ (hin w g hw hg) (hin v g hv hg) (hc k k w v g (by omega) (by omega) hw hv hg e)];exact hx
   ·intro w j v hw hj hv e
    rw [List.findSome?_eq_none_iff]
    intro x hx;obtain ⟨g,hg,rfl⟩:=List.mem_map.mp hx;exact f2 _ (j+1) (v++[g]) (hin w g hw hg) (by omega) (hin' j v g hv hg)
     (hc j k v w g (by omega) (by omega) hv hw hg e)
  have sub:∀ w,w ∈ ((grT gs ky k).2.flatMap fun u=>gs.map fun g=>u++[g])→w ∈ wds gs (k+1):=by
   intro w h
   simp only [List.mem_flatMap] at h
   obtain ⟨u,hu,hw⟩:=h
   simp only [wds,List.mem_flatMap];exact ⟨u,Xi0 gs ky k u hu,hw⟩
  refine ⟨?_,?_⟩
  ·intro q
   show (enT ky (grT gs ky k).1 _).1 q=_
   rw [Xnp,i1 q,lsW]
   cases hq:lsW gs (fun w=>ky w=q) k with
   | some x=>rfl
   | none=>
    show List.find? _ _=List.find? _ _
    rw [← X94,← X94]
    apply key
    ·intro w v _ _ e;by_cases h:ky v=q<;>simp [e,h]
    ·intro w j v hw hj hv e
     have h:¬ ky w=q:=by
      intro h
      have:(lsW gs (fun w=>decide (ky w=q)) k).isSome:=(Xe3 ..).mpr ⟨j,v,by omega,hv,by simp [e,h]⟩
      rw [hq] at this;cases this
     simp [h]
  ·intro F f1 f2
   show (enT ky (grT gs ky k).1 _).2.findSome? F=_
   rw [Xl9,key F f1 f2]
   ·intro w hw hs
    rw [i1] at hs
    obtain ⟨j,v,hj,hv,e⟩:=(Xe3 ..).mp hs;exact f2 w j v (sub w hw) (by omega) hv (by simpa using e)
   ·intro w v hw hv;exact f1 w v (sub w hw) (sub v hv)
end
def rLess(x y:Rg) : Bool:=if x.a≠y.a then decide (x.a<y.a) else if x.b≠y.b then decide (x.b<y.b) else if x.c≠y.c then decide (x.c<y.c) else decide (x.d<y.d)
theorem X4y(x y:Rg) : rLess x y=true↔x.a<y.a∨(x.a=y.a∧(x.b<y.b∨(x.b=y.b∧(x.c<y.c∨(x.c=y.c∧x.d<y.d))))):=by
 unfold rLess
 by_cases h1:x.a=y.a
 ·by_cases h2:x.b=y.b
  ·by_cases h3:x.c=y.c
   ·simp [h1,h2,h3]
   ·simp [h1,h2,h3]
  ·simp [h1,h2]
 ·simp [h1]
theorem Xec{x y z:Rg}(h1:rLess x y=true)(h2:rLess y z=true) : rLess x z=true:=by
 rw [X4y] at *;omega
theorem Xa3(x:Rg) : rLess x x=false:=by
 rw [Bool.eq_false_iff,Ne,X4y];omega
theorem Xj1{x y:Rg}(h1:rLess x y=false)(h2:rLess y x=false) : x=y:=by
 rw [Bool.eq_false_iff,Ne,X4y] at h1 h2
 obtain ⟨a,b,c,d⟩:=x;obtain ⟨a',b',c',d'⟩:=y
 simp only [Rg.mk.injEq] at *;omega
def bestT(x:Rg) : Nat→Nat
 | 0=>0
 | n+1=>if rLess (rTurnN (bestT x n) x) (rTurnN (n+1) x)=true then n+1 else bestT x n
theorem Xcy(x:Rg) : ∀ n,bestT x n≤n
 | 0=>Nat.le_refl _
 | n+1=>by unfold bestT;have:=Xcy x n;split<;>omega
theorem X4w(x:Rg) : ∀ n j,j≤n→rLess (rTurnN (bestT x n) x) (rTurnN j x)=false
 | 0,j,h=>by cases Nat.le_zero.mp h;exact Xa3 _
 | n+1,j,h=>by
  unfold bestT
  by_cases e:rLess (rTurnN (bestT x n) x) (rTurnN (n+1) x)=true
  ·rw [if_pos e]
   by_cases hj:j=n+1
   ·subst hj;exact Xa3 _
   ·have:=X4w x n j (by omega)
    rw [Bool.eq_false_iff];intro h2
    rw [Xec e h2] at this;cases this
  ·rw [if_neg e]
   by_cases hj:j=n+1
   ·subst hj;simpa using e
   ·exact X4w x n j (by omega)
def turnK(x:Rg) : Nat:=bestT x 7
theorem X4f(x:Rg) : turnK x<8:=Nat.lt_succ_of_le (Xcy x 7)
theorem X54{k:Nat}(hk:k<8)(x:Dy) : dTurn k x=⟨rTurnN k x.num,x.exp⟩:=by
 have:(turns (k:Int)).toNat=k:=by
  rcases (by omega:k=0∨k=1∨k=2∨k=3∨k=4∨k=5∨k=6∨k=7) with rfl|rfl|rfl|rfl|rfl|rfl|rfl|rfl<;>decide
 unfold dTurn rTurn;rw [this]
theorem Xlx{x:Dy}(h:dOk x=true)(k:Int) : dOk (dTurn k x)=true:=by
 have hz:=X1k.1 h;obtain ⟨h1,h2⟩:=X66 hz.1 k;exact X1k.2 ⟨h1,hz.2.1,by rcases hz.2.2 with h|h;exact .inl h;exact .inr (h2.trans h)⟩
theorem X2k{x:Rg}(h:rOk x=true)(i j:Nat) : rTurnN i (rTurnN j x)=rTurnN ((i+j) % 8) x:=by
 rw [X4i i _ (X53 j x h).1,X4i j x h,X4i _ x h,← Xio,X1q,X9]
theorem X5j{x:Dy}(h:dOk x=true){i j:Nat}(hi:i<8)(hj:j<8) : dTurn i (dTurn j x)=dTurn ((i+j) % 8:Nat) x:=by
 rw [X54 hj,X54 hi,X54 (Nat.mod_lt _ (by decide)),X2k (X1k.1 h).1]
theorem Xf7(z:Rg)(j:Nat)(h0:0<j)(hj:j<8)(h:rOk z=true)(e:rTurnN j z=z) : z=⟨0,0,0,0⟩:=by
 obtain ⟨a,b,c,d⟩:=z
 simp only [rOk,inR,Bool.and_eq_true,decide_eq_true_eq] at h
 have wn:∀ x:Int,-1000000000≤x∧x≤1000000000→wr (-x) = -x:=fun x hx=>X0q (by omega) (by omega)
 rcases (by omega:j=1∨j=2∨j=3∨j=4∨j=5∨j=6∨j=7) with rfl|rfl|rfl|rfl|rfl|rfl|rfl <;>
 ·simp only [rTurnN,rOm,Rg.mk.injEq] at e ⊢
  have ha:=wn a (by omega);have hb:=wn b (by omega);have hc:=wn c (by omega);have hd:=wn d (by omega)
  simp only [ha,hb,hc,hd,wn (-a) (by omega),wn (-b) (by omega),wn (-c) (by omega),wn (-d) (by omega)] at e
  omega
def canK(l:List Dy) : Option Nat:=(l.find? fun x=>decide (x≠dZ)).map fun x=>turnK x.num
def canL(l:List Dy) : Option (List Dy):=(canK l).map fun (k:Nat)=>l.map (dTurn (k:Int))
theorem Xxh{x:Dy}(h:dOk x=true)(e:x.num=⟨0,0,0,0⟩) : x=dZ:=by
 obtain ⟨z,m⟩:=x
 simp only at e;subst e
 have:=(X1k.1 h).2.2
 rcases this with h|h
 ·simp only at h;subst h;rfl
 ·exact absurd h (by simp only;decide)
theorem X8y{k:Nat}(hk:k<8) : dTurn k dZ=dZ:=by
 rcases (by omega:k=0∨k=1∨k=2∨k=3∨k=4∨k=5∨k=6∨k=7) with rfl|rfl|rfl|rfl|rfl|rfl|rfl|rfl<;>decide
theorem Xis{x:Dy}(h:dOk x=true) : dTurn (0:Nat) x=x:=by rw [X54 (by decide)];rfl
theorem X8m{x:Dy}(h:dOk x=true){k:Nat}(hk:k<8) : dTurn ((8-k) % 8:Nat) (dTurn k x)=x:=by
 rw [X5j h (Nat.mod_lt _ (by decide)) hk,show ((8-k) % 8+k) % 8=0 from by omega,Xis h]
theorem Xlj{x:Dy}(h:dOk x=true){k:Nat}(hk:k<8) : dTurn k x=dZ↔x=dZ:=
 ⟨fun e=>by rw [← X8m h hk,e,X8y (Nat.mod_lt _ (by decide))],fun e=>by rw [e,X8y hk]⟩
theorem X9x{k:Nat}(hk:k<8) : ∀ l:List Dy,(∀ x ∈ l,dOk x=true)→(l.map (dTurn k)).find? (fun x=>decide (x≠dZ))=(l.find? fun x=>decide (x≠dZ)).map (dTurn k)
 | [],_=>rfl
 | x::l,h=>by
  rw [List.map_cons,List.find?_cons,List.find?_cons,X9x hk l fun y hy=>h y (List.mem_cons_of_mem _ hy)]
  have:=Xlj (h x (List.mem_cons_self ..)) hk
  by_cases e:x=dZ
  ·simp [e,X8y hk]
  ·have e':¬ dTurn k x=dZ:=fun h=>e (this.1 h)
   simp [e,e']
theorem Xfp{x:Rg}(h:rOk x=true){k:Nat}(hk:k<8) : rTurnN (turnK (rTurnN k x)) (rTurnN k x)=rTurnN (turnK x) x:=by
 have hy:=(X53 k x h).1;refine Xj1 ?_ ?_
 ·have hb:=X4w (rTurnN k x) 7 ((turnK x+(8-k)) % 8) (by omega)
  rw [X2k h ((turnK x+(8-k)) % 8) k,show ((turnK x+(8-k)) % 8+k) % 8=turnK x from by have:=X4f x;omega] at hb
  exact hb
 ·have hb:=X4w x 7 ((turnK (rTurnN k x)+k) % 8) (by omega)
  rw [← X2k h] at hb
  exact hb
theorem Xjk{x:Rg}(h:rOk x=true)(hx:x≠⟨0,0,0,0⟩){k:Nat}(hk:k<8) : (turnK (rTurnN k x)+k) % 8=turnK x:=by
 have e:=Xfp h hk
 rw [X2k h] at e
 generalize hi:(turnK (rTurnN k x)+k) % 8=i at e
 have hi8:i<8:=by omega
 have hj8:=X4f x
 generalize turnK x=j at e hj8
 have e2:rTurnN ((8-j+i) % 8) x=x:=by
  have:=congrArg (rTurnN (8-j)) e
  rw [X2k h,X2k h,show (8-j+j) % 8=0 from by omega] at this
  exact this
 by_cases h0:(8-j+i) % 8=0
 ·omega
 ·exact absurd (Xf7 x _ (by omega) (Nat.mod_lt _ (by decide)) h e2) hx
theorem Xjn{k:Nat}(hk:k<8){l:List Dy}(h:∀ x ∈ l,dOk x=true) : canL (l.map (dTurn k))=canL l:=by
 unfold canL canK
 rw [X9x hk l h]
 cases e:l.find? fun x=>decide (x≠dZ) with
 | none=>rfl
 | some x=>
  have hm:=h x (List.mem_of_find?_eq_some e)
  have hx:x≠dZ:=by simpa using List.find?_some e
  simp only [Option.map_some,List.map_map,Option.some.injEq]
  apply List.map_congr_left
  intro y hy
  show dTurn _ (dTurn k y)=_
  rw [X5j (h y hy) (X4f _) hk,X54 hk,Xjk (X1k.1 hm).1 (fun e=>hx (Xxh hm e)) hk]
theorem Xmf{l r:List Dy}(hl:∀ x ∈ l,dOk x=true)(hr:∀ x ∈ r,dOk x=true)(hn:canL r≠none) : canL l=canL r↔∃ k:Nat,k<8∧l=r.map (dTurn k):=by
 constructor
 ·intro e
  unfold canL at e hn
  cases h2:canK r with
  | none=>rw [h2] at hn;exact absurd rfl hn
  | some j=>
   cases h1:canK l with
   | none=>rw [h1,h2] at e;cases e
   | some i=>
    rw [h1,h2] at e
    simp only [Option.map_some,Option.some.injEq] at e
    have hi:i<8:=by unfold canK at h1;obtain ⟨x,_,rfl⟩:=Option.map_eq_some_iff.1 h1;exact X4f _
    have hj:j<8:=by unfold canK at h2;obtain ⟨x,_,rfl⟩:=Option.map_eq_some_iff.1 h2;exact X4f _
    refine ⟨((8-i) % 8+j) % 8,Nat.mod_lt _ (by decide),?_⟩
    have:=congrArg (List.map (dTurn ((8-i) % 8:Nat))) e
    rw [List.map_map,List.map_map] at this
    have hb:l.map (dTurn ((8-i) % 8:Nat) ∘ dTurn i)=l:=(List.map_congr_left (g:=id) (fun y hy=>X8m (hl y hy) hi)).trans (List.map_id _)
    rw [hb] at this;rw [this]
    apply List.map_congr_left
    intro y hy;exact X5j (hr y hy) (Nat.mod_lt _ (by decide)) hj
 ·rintro ⟨k,hk,rfl⟩;exact Xjn hk hr
theorem Xf8{p q:Mx}(hp:∀ x ∈ p.cells,dOk x=true)(hq:∀ x ∈ q.cells,dOk x=true)(e1:p.rows=q.rows)(e2:p.cols=q.cols)(hn:canL q.cells≠none) : phaseS p q=true↔canL p.cells=canL q.cells:=by
 rw [Xmf hp hq hn]
 unfold phaseS turnedS
 simp only [List.any_eq_true,List.mem_range,Bool.and_eq_true,decide_eq_true_eq]
 constructor
 ·rintro ⟨k,hk,_,h⟩;exact ⟨k,hk,h⟩
 ·rintro ⟨k,hk,h⟩;exact ⟨k,hk,⟨e1,e2⟩,h⟩
theorem Xmv{z:Rg}(h:(2:Rg)*z=0) : z=0:=by
 rw [← Xtc] at h
 refine X27 2 (h.trans ?_)
 decide
theorem Xko:∀ (l:List Gt) (v:St),(∀ g ∈ l,TwoQ g∧1≤g.k∧g.k≤11)→(∀ β,run l v β=0)→∀ β,v β=0
 | [],v,_,h=>h
 | g::l,v,hg,h=>by
  have h1:=Xko l (act g v) (fun x hx=>hg x (List.mem_cons_of_mem _ hx)) h
  intro β;obtain ⟨g1,g2⟩:=hg g (List.mem_cons_self ..);have h2:=Xqs g1 g2 v β
  have e:act g v=fun _=>0:=funext h1
  rw [e] at h2
  have h3:act (bkG g) (fun _=>0) β=0:=congrFun (Xco [bkG g]) β
  rw [h3] at h2
  split at h2
  ·exact Xmv h2.symm
  ·rw [Xh] at h2;exact h2.symm
theorem Xih{l:List Dy}(h:canL l=none) : ∀ x ∈ l,x=dZ:=by
 unfold canL canK at h
 cases e:l.find? fun x=>decide (x≠dZ) with
 | some x=>rw [e] at h;cases h
 | none=>
  intro x hx
  have:=List.find?_eq_none.1 e x hx
  simpa using this
theorem Xsa{c:Cx}{N:Nat}{M:Mx}(hn:c.n=N)(h:opI c=some M)(hg:∀ g ∈ c.gs,g.k≤11) : canL M.cells≠none:=by
 intro e
 have hc:=X12 (c:=c) (by unfold opI at h;split at h;assumption;cases h)
 have hz:=Xih e
 have hat:∀ i j,M.at i j=dZ:=by
  intro i j
  unfold Mx.at
  rw [List.getD_eq_getElem?_getD]
  cases e2:M.cells[i*M.cols.toNat+j]? with
  | none=>rfl
  | some x=>exact hz x (List.mem_of_getElem? e2)
 obtain ⟨h1,_,_,_⟩:=X93 hn h
 have hN:N≤5:=by have:=hc.1;omega
 have hr:∀ β,run c.gs (fun _=>1) β=0:=by
  intro β
  obtain ⟨i,hi,_,h2⟩:=run_basis' hN (fun _=>1) β
  rw [h2 c.gs fun g hg'=>Xfq (by rw [← hn];exact hc.2.2 g hg')]
  apply X8r
  intro j hj;have h3:=h1 i j hi hj
  rw [hat] at h3
  rw [h3.fun (X45 _)]
  exact Xw _
 have h4:=Xko c.gs _ (fun g hg'=>by
  have:=Xll (hc.2.2 g hg');exact ⟨this.1,this.2.1,hg g hg'⟩) hr (fun _=>false)
 exact absurd h4 (by decide)
def gsT(n:Nat) : List Gt:=if n=2 then [⟨1,0,0⟩,⟨1,1,0⟩,⟨5,0,0⟩,⟨5,1,0⟩,⟨7,0,0⟩,⟨7,1,0⟩,⟨9,0,1⟩,⟨9,1,0⟩] else [⟨1,0,0⟩,⟨5,0,0⟩,⟨7,0,0⟩]
theorem X5k{n:Nat}(hn:n=1∨n=2) : ∀ g ∈ gsT n,gOk n g=true∧g.k≤11:=by
 rcases hn with rfl|rfl<;>decide
theorem Xav{G:Type}(gs:List G)(k:Nat) : ∀ w,w ∈ wds gs k→∀ g ∈ w,g ∈ gs:=by
 induction k with
 | zero=>intro w h;simp [wds] at h;simp [h]
 | succ k ih=>
  intro w h
  simp only [wds,List.mem_flatMap,List.mem_map] at h
  obtain ⟨u,hu,g,hg,rfl⟩:=h;intro x hx
  rcases List.mem_append.1 hx with hx|hx
  ·exact ih u hu x hx
  ·cases List.mem_singleton.1 hx;exact hg
def valW(n:Nat)(w:List Gt) : Mx:=(opI ⟨n,w⟩).getD mZ
theorem X2c{n:Nat}(hn:n=1∨n=2){k:Nat}(hk:k≤8){w:List Gt}(hw:w ∈ wds (gsT n) k) : opI ⟨n,w⟩=some (valW n w):=by
 have hl:=X82 _ _ _ hw;have hm:=Xav _ _ _ hw
 have hc:cOk ⟨n,w⟩=true:=by
  simp only [cOk,Bool.and_eq_true,X03,decide_eq_true_eq,Bool.not_eq_true',List.any_eq_false]
  refine ⟨⟨by omega,by omega⟩,fun g hg=>?_⟩
  have:=(X5k hn g (hm g hg)).1
  simp [this]
 obtain ⟨M,hM⟩:=Xbf hc (by have:=Xn3 w;simp only;omega)
 unfold valW;rw [hM];rfl
theorem X92(n:Int)(g:Gt) : ∀ (l:List Gt) (m:Mx),applI n (l++[g]) m=(applI n l m).bind fun x=>mulI ((gateI n g).getD mZ) x
 | [],m=>by simp [applI]
 | h::l,m=>by
  rw [List.cons_append];unfold applI
  cases mulI ((gateI n h).getD mZ) m with
  | none=>rfl
  | some x=>exact X92 n g l x
theorem X2u{G:Type}{gs:List G}{k:Nat}{w:List G}{g:G}(hw:w ∈ wds gs k)(hg:g ∈ gs) : w++[g] ∈ wds gs (k+1):=by
 simp only [wds,List.mem_flatMap,List.mem_map];exact ⟨w,hw,g,hg,rfl⟩
theorem X6a(n:Nat)(hn:n=1∨n=2) : valW n []=unitS (2^n):=by
 have h:=X2c hn (k:=0) (by omega) (w:=[]) (by simp [wds])
 unfold opI at h
 rw [if_pos (by rcases hn with rfl|rfl<;>decide)] at h
 have hi:=(X2w (d:=2^n) (X1y (n:=(n:Int)) (by omega))).1
 rw [show ((2^(n:Int).toNat:Nat) : Int)=((2^n:Nat) : Int) from rfl,hi] at h
 injection h with h;exact h.symm
theorem X9r{n:Nat}(hn:n=1∨n=2){k:Nat}(hk:k<8){w:List Gt}(hw:w ∈ wds (gsT n) k){g:Gt}(hg:g ∈ gsT n) : mulI (gateS n g) (valW n w)=some (valW n (w++[g])):=by
 have h1:=X2c hn (by omega) hw
 have h2:=X2c hn (by omega) (X2u hw hg)
 have c1:cOk ⟨n,w⟩=true:=by unfold opI at h1;split at h1;assumption;cases h1
 have c2:cOk ⟨n,w++[g]⟩=true:=by unfold opI at h2;split at h2;assumption;cases h2
 unfold opI at h1 h2
 rw [if_pos c1] at h1;rw [if_pos c2] at h2
 obtain ⟨m,hm,h1⟩:=Option.bind_eq_some_iff.1 h1
 rw [hm,Option.bind_some,X92,h1,Option.bind_some,(X2q (X5k hn g hg).1).1] at h2
 exact h2
theorem X22{n:Nat}(hn:n=1∨n=2){k:Nat}(hk:k≤8){w:List Gt}(hw:w ∈ wds (gsT n) k) : mOk (valW n w)=true∧(valW n w).rows=((2^n:Nat) : Int)∧(valW n w).cols=((2^n:Nat) : Int)∧canL (valW n w).cells≠none:=by
 have h1:=X2c hn hk hw;obtain ⟨_,h2,h3,h4⟩:=X93 (N:=n) rfl h1;exact ⟨h2,h3,h4,Xsa (N:=n) rfl h1 fun g hg=>(X5k hn g (Xav _ _ _ hw g hg)).2⟩
theorem X6r{n:Nat}(hn:n=1∨n=2){k:Nat}(hk:k≤8){w:List Gt}(hw:w ∈ wds (gsT n) k){M:Mx}(hM:mOk M=true)(hr:M.rows=((2^n:Nat) : Int))(hc:M.cols=((2^n:Nat) : Int))(hz:canL M.cells≠none) : phaseS (valW n w) M=true↔canL (valW n w).cells=canL M.cells:=by
 obtain ⟨h1,h2,h3,h4⟩:=X22 hn hk hw;exact Xf8 (X1t h1) (X1t hM) (by rw [h2,hr]) (by rw [h3,hc]) hz
theorem Xea(g:Gt) : ∀ (l:List Gt) (v:St),run (l++[g]) v=act g (run l v)
 | [],_=>rfl
 | h::l,v=>Xea g l (act h v)
theorem Xhe(g:Gt) : ∀ (l:List Gt),hs (l++[g])=hs l+hN g
 | []=>by simp [hs]
 | h::l=>by rw [List.cons_append];unfold hs;rw [Xhe g l];omega
theorem Xix{n:Nat}(hn:n=1∨n=2){i j:Nat}(hi:i<8)(hj:j<8){u v:List Gt}(hu:u ∈ wds (gsT n) i)(hv:v ∈ wds (gsT n) j){g:Gt}(hg:g ∈ gsT n)(e:canL (valW n u).cells=canL (valW n v).cells) : canL (valW n (u++[g])).cells=canL (valW n (v++[g])).cells:=by
 obtain ⟨b1,b2,b3,b4⟩:=X22 hn (Nat.le_of_lt hj) hv;obtain ⟨d1,d2,d3,d4⟩:=X22 hn hj (X2u hv hg)
 rw [← X6r hn (Nat.le_of_lt hi) hu b1 b2 b3 b4,X5p (N:=n) rfl rfl (X2c hn (Nat.le_of_lt hi) hu) (X2c hn (Nat.le_of_lt hj) hv)] at e
 rw [← X6r hn hi (X2u hu hg) d1 d2 d3 d4,X5p (N:=n) rfl rfl (X2c hn hi (X2u hu hg)) (X2c hn hj (X2u hv hg))]
 obtain ⟨k,hk,h⟩:=e
 refine ⟨k,hk,fun x β=>?_⟩
 simp only [Xea,Xhe,X1q] at *
 have hf:(fun γ=>s2^hs v*run u x γ)=fun γ=>(om^k*s2^hs u)*run v x γ:=funext fun γ=>by rw [h x γ,X9]
 have h2:=congrFun (congrArg (act g) hf) β
 rw [X8b,X8b] at h2
 simp only [] at h2
 rw [Xq (s2^hs v),Xq (s2^hs u),X9,X9,h2,X9]
 rw [← X9 (s2^hN g),Xq (s2^hN g) (om^k),X9]
def kyW(n:Nat)(w:List Gt) : Option (List Dy):=canL (valW n w).cells
theorem X5f{α:Type}{P Q:α→Bool} : ∀ l:List α,(∀ x ∈ l,P x=Q x)→l.find? P=l.find? Q
 | [],_=>rfl
 | x::l,h=>by rw [List.find?_cons,List.find?_cons,h x (List.mem_cons_self ..),X5f l fun y hy=>h y (List.mem_cons_of_mem _ hy)]
theorem Xa7{G:Type}{gs:List G}{P Q:List G→Bool} : ∀ k,(∀ j w,j≤k→w ∈ wds gs j→P w=Q w)→lsW gs P k=lsW gs Q k
 | 0,h=>X5f _ fun w hw=>h 0 w (Nat.le_refl _) hw
 | k+1,h=>by unfold lsW;rw [Xa7 k fun j w hj hw=>h j w (by omega) hw,X5f _ fun w hw=>h (k+1) w (Nat.le_refl _) hw]
theorem Xt2{n:Nat}(hn:n=1∨n=2){K:Type}(f:Option (List Dy)→K)(hf:∀ i j u v,i≤8→j≤8→u ∈ wds (gsT n) i→v ∈ wds (gsT n) j→f (kyW n u)=f (kyW n v)→kyW n u=kyW n v) :
  ∀ i j u v g,i<8→j<8→u ∈ wds (gsT n) i→v ∈ wds (gsT n) j→g ∈ gsT n→f (kyW n u)=f (kyW n v)→f (kyW n (u++[g]))=f (kyW n (v++[g])):=
 fun i j u v g hi hj hu hv hg e=>congrArg f (Xix hn hi hj hu hv hg (hf i j u v (by omega) (by omega) hu hv e))
theorem Xm2{n:Nat}(hn:n=1∨n=2){K:Type}[DecidableEq K](f:Option (List Dy)→K)(hf:∀ i j u v,i≤8→j≤8→u ∈ wds (gsT n) i→v ∈ wds (gsT n) j→f (kyW n u)=f (kyW n v)→kyW n u=kyW n v)
  {M:Mx} (hM:mOk M=true) (hr:M.rows=((2^n:Nat) : Int)) (hc:M.cols=((2^n:Nat) : Int)) (hz:canL M.cells≠none) (hfM:∀ i u,i≤8→u ∈ wds (gsT n) i→f (kyW n u)=f (canL M.cells)→kyW n u=canL M.cells) {k:Nat} (hk:k≤8) :
  (grT (gsT n) (fun w=>f (kyW n w)) k).1 (f (canL M.cells))=lsW (gsT n) (fun w=>phaseS (valW n w) M) k:=by
 rw [(Xnw (gsT n) (fun w=>f (kyW n w)) 8 (Xt2 hn f hf) k hk).1]
 apply Xa7
 intro j w hj hw
 rw [Bool.eq_iff_iff,decide_eq_true_eq,X6r hn (by omega) hw hM hr hc hz]
 exact ⟨fun e=>hfM j w (by omega) hw e,fun e=>congrArg f e⟩
def fdS(n:Nat)(M:Mx) : Nat→Mx→Option (List Gt)
 | 0,x=>if phaseS x M=true then some [] else none
 | k+1,x=>(gsT n).findSome? fun g=>(fdS n M k (timesS false (gateS n g) x).2).map (g :: ·)
theorem X9u{n:Nat}(hn:n=1∨n=2){k:Nat}(hk:k<8){w:List Gt}(hw:w ∈ wds (gsT n) k){g:Gt}(hg:g ∈ gsT n) : timesS false (gateS n g) (valW n w)=(false,valW n (w++[g])):=by
 obtain ⟨h1,h2,h3,_⟩:=X22 hn (Nat.le_of_lt hk) hw;have h4:=X9r hn hk hw hg;exact ((X3i (X2q (X5k hn g hg).1).2 h1 (by rw [h2];rfl)).1 _ h4).1
theorem Xkv{n:Nat}(hn:n=1∨n=2)(M:Mx) : ∀ (k j:Nat) (w:List Gt),j+k≤8→w ∈ wds (gsT n) j→skW (gsT n) (fun w=>phaseS (valW n w) M) k w=(fdS n M k (valW n w)).map (w ++ ·)
 | 0,j,w,_,hw=>by
  unfold skW fdS
  split<;>simp
 | k+1,j,w,hk,hw=>by
  unfold skW fdS
  have:∀ l:List Gt,(∀ g ∈ l,g ∈ gsT n)→l.findSome? (fun g=>skW (gsT n) (fun w=>phaseS (valW n w) M) k (w++[g]))=(l.findSome? fun g=>(fdS n M k (timesS false (gateS n g) (valW n w)).2).map (g :: ·)).map (w ++ ·):=by
   intro l
   induction l with
   | nil=>intro _;rfl
   | cons g l ih=>
    intro hl;have hg:=hl g (List.mem_cons_self ..)
    rw [List.findSome?_cons,List.findSome?_cons,ih fun x hx=>hl x (List.mem_cons_of_mem _ hx),Xkv hn M k (j+1) (w++[g]) (by omega) (X2u hw hg),X9u hn (by omega) hw hg]
    cases fdS n M k (valW n (w++[g])) with
    | none=>rfl
    | some x=>simp
  exact this _ fun _ h=>h
theorem X95{n:Nat}(hn:n=1∨n=2)(M:Mx){k:Nat}(hk:k≤8) : fdS n M k (unitS (2^n))=(wds (gsT n) k).find? fun w=>phaseS (valW n w) M:=by
 have h:=Xkv hn M k 0 [] (by omega) (by simp [wds])
 rw [X6a n hn] at h
 rw [← Xmx,h]
 cases fdS n M k (unitS (2^n))<;>simp
end Go.Proofs.YtblmmikapnflcaaGreatDoor
namespace Go.Proofs.YtblmmikapnflcaaGreatDoor
open Go
theorem X6z{s:UInt8} : ∀ {u v r t:List UInt8},s ∉ u→s ∉ v→u++s::r=v++s::t→u=v∧r=t
 | [],[],r,t,_,_,e=>by simpa using e
 | [],b::v,r,t,_,hv,e=>by
  simp only [List.nil_append,List.cons_append,List.cons.injEq] at e
  exact absurd (by rw [e.1];exact List.mem_cons_self ..) hv
 | a::u,[],r,t,hu,_,e=>by
  simp only [List.nil_append,List.cons_append,List.cons.injEq] at e
  exact absurd (by rw [← e.1];exact List.mem_cons_self ..) hu
 | a::u,b::v,r,t,hu,hv,e=>by
  simp only [List.cons_append,List.cons.injEq] at e
  obtain ⟨h1,h2⟩:=X6z (fun h=>hu (List.mem_cons_of_mem _ h)) (fun h=>hv (List.mem_cons_of_mem _ h)) e.2
  exact ⟨by rw [e.1,h1],h2⟩
theorem X3h(s:List UInt8)(x y:List UInt8)(l:List (List UInt8)) : s.intercalate (x::y::l)=x++(s++s.intercalate (y::l)):=by
 simp [List.intercalate,List.intersperse]
theorem Xbp(s:List UInt8)(x:List UInt8) : s.intercalate [x]=x:=by
 simp [List.intercalate,List.intersperse]
theorem Xi3{s:UInt8} : ∀ (l r:List (List UInt8)),l.length=r.length→(∀ x ∈ l,s ∉ x)→(∀ x ∈ r,s ∉ x)→[s].intercalate l=[s].intercalate r→l=r
 | [],[],_,_,_,_=>rfl
 | [],_::_,h,_,_,_=>by cases h
 | _::_,[],h,_,_,_=>by cases h
 | [x],[y],_,_,_,e=>by rw [Xbp,Xbp] at e;rw [e]
 | [x],y::z::r,h,_,_,_=>by simp at h
 | x::z::l,[y],h,_,_,_=>by simp at h
 | x::z::l,y::w::r,h,hl,hr,e=>by
  rw [X3h,X3h] at e
  obtain ⟨h1,h2⟩:=X6z (hl x (List.mem_cons_self ..)) (hr y (List.mem_cons_self ..)) e
  rw [h1,Xi3 (z::l) (w::r) (by simpa using h) (fun x hx=>hl x (List.mem_cons_of_mem _ hx)) (fun x hx=>hr x (List.mem_cons_of_mem _ hx)) h2]
def dgV(l:List UInt8) : Nat:=l.foldl (fun a b=>10*a+(b.toNat-48)) 0
theorem X4v{i:Nat}(h:i<10) : (UInt8.ofNat (48+i)).toNat=48+i:=by
 rw [UInt8.toNat_ofNat'];exact Nat.mod_eq_of_lt (by omega)
theorem X7z:∀ u:Nat,dgV (Lib.decDigits u)=u:=fun u=>by
 induction u using Nat.strongRecOn with
 | _ u ih=>
  rw [Lib.decDigits]
  by_cases h:u<10
  ·rw [dif_pos h];simp only [dgV,List.foldl_cons,List.foldl_nil,X4v h];omega
  ·rw [dif_neg h]
   have:=ih (u/10) (by omega)
   unfold dgV at this ⊢
   rw [List.foldl_append,this]
   simp only [List.foldl_cons,List.foldl_nil,X4v (Nat.mod_lt u (by decide:0<10))]
   omega
theorem Xbw:∀ u:Nat,∀ b ∈ Lib.decDigits u,48≤b.toNat∧b.toNat≤57:=fun u=>by
 induction u using Nat.strongRecOn with
 | _ u ih=>
  intro b hb
  rw [Lib.decDigits] at hb
  by_cases h:u<10
  ·rw [dif_pos h] at hb;cases List.mem_singleton.1 hb;rw [X4v h];omega
  ·rw [dif_neg h] at hb
   rcases List.mem_append.1 hb with hb|hb
   ·exact ih (u/10) (by omega) b hb
   ·cases List.mem_singleton.1 hb;have:=Nat.mod_lt u (by decide:0<10);rw [X4v this];omega
theorem Xlk(n:Int) : ∀ b ∈ Lib.itoa n,b.toNat=45∨(48≤b.toNat∧b.toNat≤57):=by
 intro b hb
 unfold Lib.itoa at hb
 split at hb
 ·rcases List.mem_cons.1 hb with rfl|hb
  ·exact .inl rfl
  ·exact .inr (Xbw _ b hb)
 ·exact .inr (Xbw _ b hb)
theorem X4j{n m:Int}(e:Lib.itoa n=Lib.itoa m) : n=m:=by
 have hne:∀ (u v:Nat),45::Lib.decDigits u≠Lib.decDigits v:=fun u v e=>by
  have:=Xbw v 45 (by rw [← e];exact List.mem_cons_self ..)
  exact absurd this (by decide)
 unfold Lib.itoa at e
 split at e<;>split at e
 ·injection e with _ e
  have:=congrArg dgV e
  rw [X7z,X7z] at this;omega
 ·exact absurd e (hne _ _)
 ·exact absurd e.symm (hne _ _)
 ·have:=congrArg dgV e
  rw [X7z,X7z] at this;omega
def txR(z:Rg) : List UInt8:=Lib.join [Lib.itoa z.a,Lib.itoa z.b,Lib.itoa z.c,Lib.itoa z.d] [32]
def txD(x:Dy) : List UInt8:=txR x.num++[47]++Lib.itoa x.exp
def txK(l:List Dy) : List UInt8:=Lib.join (l.map txD) [44]
theorem Xb6(n:Int)(s:UInt8)(h:s.toNat=32∨s.toNat=47∨s.toNat=44) : s ∉ Lib.itoa n:=fun hm=>by
 have:=Xlk n s hm;omega
theorem Xay(z:Rg) : txR z=Lib.itoa z.a++32::(Lib.itoa z.b++32::(Lib.itoa z.c++32::Lib.itoa z.d)):=by
 unfold txR Lib.join
 rw [X3h,X3h,X3h,Xbp];rfl
theorem Xer(z:Rg)(s:UInt8)(h:s.toNat=47∨s.toNat=44) : s ∉ txR z:=fun hm=>by
 have hs:s≠32:=fun e=>by subst e;revert h;decide
 have hi:=fun n=>Xb6 n s (.inr h)
 rw [Xay] at hm
 simp only [List.mem_append,List.mem_cons] at hm
 rcases hm with hm|hm|hm|hm|hm|hm|hm
 ·exact hi _ hm
 ·exact hs hm
 ·exact hi _ hm
 ·exact hs hm
 ·exact hi _ hm
 ·exact hs hm
 ·exact hi _ hm
theorem Xk0(x:Dy) : (44:UInt8) ∉ txD x:=fun hm=>by
 unfold txD at hm
 simp only [List.mem_append,List.mem_cons,List.not_mem_nil,or_false] at hm
 rcases hm with (hm|hm)|hm
 ·exact Xer x.num 44 (.inr rfl) hm
 ·exact absurd hm (by decide)
 ·exact Xb6 _ 44 (.inr (.inr rfl)) hm
theorem Xpb{z w:Rg}(e:txR z=txR w) : z=w:=by
 rw [Xay,Xay] at e
 have hi:=fun n=>Xb6 n 32 (.inl rfl)
 obtain ⟨h1,e⟩:=X6z (hi _) (hi _) e;obtain ⟨h2,e⟩:=X6z (hi _) (hi _) e;obtain ⟨h3,h4⟩:=X6z (hi _) (hi _) e;obtain ⟨a,b,c,d⟩:=z;obtain ⟨a',b',c',d'⟩:=w
 simp only at h1 h2 h3 h4
 rw [X4j h1,X4j h2,X4j h3,X4j h4]
theorem Xpr{x y:Dy}(e:txD x=txD y) : x=y:=by
 unfold txD at e
 rw [List.append_assoc,List.append_assoc] at e
 obtain ⟨h1,h2⟩:=X6z (Xer x.num 47 (.inl rfl)) (Xer y.num 47 (.inl rfl)) e;obtain ⟨z,m⟩:=x;obtain ⟨w,n⟩:=y
 simp only at h1 h2
 rw [Xpb h1,X4j h2]
theorem Xpg{l r:List Dy}(h:l.length=r.length)(e:txK l=txK r) : l=r:=by
 unfold txK Lib.join at e
 have:=Xi3 (l.map txD) (r.map txD) (by simpa using h) (fun x hx=>by obtain ⟨y,_,rfl⟩:=List.mem_map.1 hx;exact Xk0 y) (fun x hx=>by obtain ⟨y,_,rfl⟩:=List.mem_map.1 hx;exact Xk0 y) e
 clear e
 induction l generalizing r with
 | nil=>cases r with
  | nil=>rfl
  | cons y r=>cases h
 | cons x l ih=>cases r with
  | nil=>cases h
  | cons y r=>
   simp only [List.map_cons,List.cons.injEq] at this
   rw [Xpr this.1,ih (by simpa using h) this.2]
end Go.Proofs.YtblmmikapnflcaaGreatDoor
namespace Go.Proofs.YtblmmikapnflcaaGreatDoor
open Go.RowKit
def entS(p:ByteArray×Value×Nat) : MapEntry:={ key:=.string p.1,val:=p.2.1,born:=p.2.2 }
def findS(l:List (ByteArray×Value×Nat))(s:ByteArray) : Option Value:=(l.find? fun p=>decide (p.1=s)).map fun p=>p.2.1
def MapS(w:World)(b:Nat)(f:ByteArray→Option Value) : Prop:=∃ l clock,w.heap[b]? = some (.map (l.map entS).toArray clock)∧∀ s,findS l s=f s
def updS(f:ByteArray→Option Value)(s:ByteArray)(v:Value) : ByteArray→Option Value:=fun x=>if x=s then some v else f x
theorem Xw6(x y:ByteArray) : (x==y)=decide (x=y):=by
 rw [Bool.eq_iff_iff,decide_eq_true_eq];simp [MapKept.bytes_beq]
theorem X91{s:ByteArray} : ∀ (l:List (ByteArray×Value×Nat)) (i:Nat),(findS l s=none∧Instr.findNow .string (.string s) (l.map entS) i=some none)∨∃ v j,findS l s=some v∧Instr.findNow .string (.string s) (l.map entS) i=some (some (j,v))
 | [],_=>.inl ⟨rfl,rfl⟩
 | p::l,i=>by
  by_cases hx:p.1=s
  ·have h2:(s==p.1)=true:=by rw [Xw6];exact decide_eq_true hx.symm
   have h3:decide (p.1=s)=true:=decide_eq_true hx
   exact .inr ⟨p.2.1,i,by simp [findS,List.find?_cons,h3],by simp only [List.map_cons,Instr.findNow,entS,Instr.sameNow,h2]⟩
  ·have h2:(s==p.1)=false:=by rw [Xw6];exact decide_eq_false fun e=>hx (Eq.symm e)
   have h3:decide (p.1=s)=false:=decide_eq_false hx
   have hs:Instr.findNow .string (.string s) ((p::l).map entS) i=Instr.findNow .string (.string s) (l.map entS) (i+1):=by
    simp only [List.map_cons,Instr.findNow,entS,Instr.sameNow,h2]
   have hf:findS (p::l) s=findS l s:=by simp [findS,List.find?_cons,h3]
   rw [hs,hf]
   exact X91 l (i+1)
section
variable {w w' : World} {b b' : Nat} {f : ByteArray → Option Value}
theorem MapS.lt(h:MapS w b f) : b<w.heap.size:=by
 obtain ⟨l,c,h,_⟩:=h
 rcases Nat.lt_or_ge b w.heap.size with h'|h'
 ·exact h'
 ·simp [Array.getElem?_eq_none h'] at h
theorem MapS.keep(h:MapS w b f)(e:w'.heap[b]? = w.heap[b]?) : MapS w' b f:=let ⟨l,c,h,g⟩:=h;⟨l,c,e.trans h,g⟩
theorem MapS.below(h:MapS w b f)(hb:Below w.heap.size w w') : MapS w' b f:=h.keep (hb.block b h.lt)
theorem MapS.only(h:MapS w b f)(ho:Only b' w w')(hne:b≠b') : MapS w' b f:=h.keep (ho.block b hne)
theorem MapS.nc(h:MapS w b f) : NC w b:=fun l T fz e=>by
 obtain ⟨_,_,h,_⟩:=h
 rw [h] at e;cases e
theorem MapS.ne{T:TypeId}{l:List Value}(h:MapS w b f)(h':Blk w b' T l) : b≠b':=by
 rintro rfl;obtain ⟨_,_,h,_⟩:=h
 unfold Blk at h'
 rw [h] at h';cases h'
theorem MapS.app{α:Type}{B:Nat}{E:TypeId}{enc:α→List Value}{A:Option Addr}{l:List α}{sz n c c':Nat}(h:MapS w b f)(ho:Own w B E sz enc A c l)(hg:w.grownBy w' (Value.slice A n c').ownBlock) : MapS w' b f:=h.keep (h.nc.app h.lt ho hg)
end
section
variable {P : Program} {a : Act} {w : World} {n : Nat} {e : Env} {ty : TypeId} {pos : String} {af : Array Edge} {g : Option (Nat × Bool)} {d : Option Tmp} {b : Nat} {f : ByteArray → Option Value} {T K E : TypeId}
theorem Xm6{m x:Operand}{s:ByteArray}{z:Value}(hf:Fr a n e)(hm:ev e m=some (.map (some b)))(hx:ev e x=some (.string s))(hT:P.underlying T=some (.map K E))(hK:P.underlying K=some .string)(hz:∀ w,(zeroValue E).run P w=.ok z w)(h:MapS w b f) :
  Ev P ⟨d,.lookup T m x true,ty,pos,af,g⟩ a w (.tuple #[(f s).getD z,.bool (f s).isSome]):=fun w' hw=>by
 obtain ⟨l,clock,hL,hl⟩:=h.below hw
 have hck:∀ em,(Instr.checkKey em 10000 K (.string s)).run P w'=.ok () w':=fun em=>MapKept.run_checkKey hK (show MapKept.IsKey .string (.string s) from trivial) em 9999
 rcases X91 (s:=s) l 0 with ⟨h1,h2⟩|⟨v,j,h1,h2⟩
 ·rw [← hl s,h1]
  simp [execOp,Instr.lookup,hf.ev hm,hf.ev hx,X0t hT,getObj,Sem.run,hL,hck,Instr.findKey,X0t hK,h2,hz]
 ·rw [← hl s,h1]
  simp [execOp,Instr.lookup,hf.ev hm,hf.ev hx,X0t hT,getObj,Sem.run,hL,hck,Instr.findKey,X0t hK,h2]
theorem Xgw{m x y:Operand}{s:ByteArray}{v:Value}(hf:Fr a n e)(hm:ev e m=some (.map (some b)))(hx:ev e x=some (.string s))(hy:ev e y=some v)(hT:P.underlying T=some (.map K E))(hK:P.underlying K=some .string)(h:MapS w b f)(hnew:f s=none) :
  Ef P ⟨d,.mapUpdate T m x y,ty,pos,af,g⟩ a w (fun _ w'=>Only b w w'∧MapS w' b (updS f s v)):=by
 have hlt:=h.lt;obtain ⟨l,clock,hL,hl⟩:=h
 have hck:∀ em,(Instr.checkKey em 10000 K (.string s)).run P w=.ok () w:=fun em=>MapKept.run_checkKey hK (show MapKept.IsKey .string (.string s) from trivial) em 9999
 rcases X91 (s:=s) l 0 with ⟨h1,h2⟩|⟨u,j,h1,h2⟩
 ·refine (Ef.of_skip (w':={ w with heap:=w.heap.setIfInBounds b (.map ((l++[(s,v,clock)]).map entS).toArray (clock+1)) }) ?_).mono fun _ w' ⟨_,e2⟩=>?_
  ·simp [execOp,Instr.mapUpdate,hf.ev hm,hf.ev hx,hf.ev hy,X0t hT,getObj,hL,hck,Instr.findKey,X0t hK,h2,setObj,Sem.run,entS]
  ·subst e2
   refine ⟨Xmw,l++[(s,v,clock)],clock+1,?_,fun x=>?_⟩
   ·show (w.heap.setIfInBounds b _)[b]? = _
    simp [hlt]
   ·have hx0:=hl x
    unfold findS updS at *
    by_cases e:x=s
    ·subst e;rw [List.find?_append,Option.map_or,hx0,hnew];simp
    ·have e2:¬ s=x:=fun h=>e h.symm
     rw [List.find?_append,Option.map_or,hx0,if_neg e];simp [e2]
 ·rw [hl s,hnew] at h1;cases h1
theorem Xr1{m x y:Operand}{s:ByteArray}{v:Value}(hf:Fr a n e)(hm:ev e m=some (.map (some b)))(hx:ev e x=some (.string s))(hy:ev e y=some v)(hT:P.underlying T=some (.map K E))(hK:P.underlying K=some .string)(h:MapS w b f)(hnew:f s=none) :
  Ef P ⟨d,.insert T m x y,ty,pos,af,g⟩ a w (fun _ w'=>Only b w w'∧MapS w' b (updS f s v)):=Xgw (ty:=ty) (pos:=pos) (af:=af) (g:=g) (d:=d) hf hm hx hy hT hK h hnew
theorem Xl1:Ef P ⟨d,.makeMap T none,ty,pos,af,g⟩ a w (fun v w'=>∃ b,v=.map (some b)∧w.heap.size≤b∧Below w.heap.size w w'∧MapS w' b (fun _=>none)):=
 X8t.mono fun _ _ ⟨b,h1,h2,h3,h4⟩=>⟨b,h1,h2,h3,[],0,h4,fun _=>rfl⟩
theorem Xwl{m x y:Operand}{s:ByteArray}{v:Value}(hm:ev e m=some (.map (some b)))(hx:ev e x=some (.string s))(hy:ev e y=some v)(hT:P.underlying T=some (.map K E))(hK:P.underlying K=some .string)(h:MapS w b f)(hnew:f s=none) : EfW P ⟨d,.mapUpdate T m x y,ty,pos,af,g⟩ n e w (fun _ w'=>Only b w w'∧MapS w' b (updS f s v)):=fun _ hf=>Xgw hf hm hx hy hT hK h hnew
theorem Xxe{m x y:Operand}{s:ByteArray}{v:Value}(hm:ev e m=some (.map (some b)))(hx:ev e x=some (.string s))(hy:ev e y=some v)(hT:P.underlying T=some (.map K E))(hK:P.underlying K=some .string)(h:MapS w b f)(hnew:f s=none) : EfW P ⟨d,.insert T m x y,ty,pos,af,g⟩ n e w (fun _ w'=>Only b w w'∧MapS w' b (updS f s v)):=fun _ hf=>Xr1 hf hm hx hy hT hK h hnew
theorem Xtz:EfW P ⟨d,.makeMap T none,ty,pos,af,g⟩ n e w (fun v w'=>∃ b,v=.map (some b)∧w.heap.size≤b∧Below w.heap.size w w'∧MapS w' b (fun _=>none)):=fun _ _=>Xl1
end
theorem X8d{l r:List Dy}(h:canL l=some r) : r.length=l.length:=by
 unfold canL at h
 obtain ⟨k,_,rfl⟩:=Option.map_eq_some_iff.1 h;exact List.length_map ..
def kyT(o:Option (List Dy)) : ByteArray:=⟨(txK (o.getD [])).toArray⟩
theorem Xib{l r:List Dy}(hl:canL l≠none)(hr:canL r≠none)(hn:l.length=r.length)(e:kyT (canL l)=kyT (canL r)) : canL l=canL r:=by
 cases h1:canL l with
 | none=>exact absurd h1 hl
 | some x=>
  cases h2:canL r with
  | none=>exact absurd h2 hr
  | some y=>
   rw [h1,h2] at e
   unfold kyT at e
   injection e with e
   simp only [Option.getD_some,Array.mk.injEq,List.toArray_inj] at e
   rw [Xpg (by rw [X8d h1,X8d h2,hn]) e]
theorem Xg1{n:Nat}(hn:n=1∨n=2){M:Mx}(hM:mOk M=true)(hr:M.rows=((2^n:Nat) : Int))(hc:M.cols=((2^n:Nat) : Int)) : M.cells.length=2^n*2^n:=by
 unfold mOk at hM
 simp only [Bool.and_eq_true,beq_iff_eq] at hM
 have:=hM.1.2
 rw [hr,hc] at this
 rcases hn with rfl|rfl
 ·rw [show wr (((2^1:Nat) : Int)*((2^1:Nat) : Int))=4 from by decide] at this;omega
 ·rw [show wr (((2^2:Nat) : Int)*((2^2:Nat) : Int))=16 from by decide] at this;omega
theorem X3z{n:Nat}(hn:n=1∨n=2){k:Nat}(hk:k≤8){w:List Gt}(hw:w ∈ wds (gsT n) k) : (valW n w).cells.length=2^n*2^n:=by
 obtain ⟨h1,h2,h3,_⟩:=X22 hn hk hw;exact Xg1 hn h1 h2 h3
def tbW(n k:Nat) : (ByteArray→Option (List Gt))×List (List Gt):=grT (gsT n) (fun w=>kyT (kyW n w)) k
theorem Xjl{n:Nat}(hn:n=1∨n=2) : ∀ i j u v,i≤8→j≤8→u ∈ wds (gsT n) i→v ∈ wds (gsT n) j→kyT (kyW n u)=kyT (kyW n v)→kyW n u=kyW n v:=
 fun _ _ _ _ hi hj hu hv e=>Xib (X22 hn hi hu).2.2.2 (X22 hn hj hv).2.2.2 (by rw [X3z hn hi hu,X3z hn hj hv]) e
theorem Xnh{n:Nat}(hn:n=1∨n=2){M:Mx}(hM:mOk M=true)(hr:M.rows=((2^n:Nat) : Int))(hc:M.cols=((2^n:Nat) : Int))(hz:canL M.cells≠none){k:Nat}(hk:k≤8) :
  (tbW n k).1 (kyT (canL M.cells))=lsW (gsT n) (fun w=>phaseS (valW n w) M) k:=
 Xm2 hn kyT (Xjl hn) hM hr hc hz (fun _ _ hi hu e=>Xib (X22 hn hi hu).2.2.2 hz (by rw [X3z hn hi hu,Xg1 hn hM hr hc]) e) hk
theorem Xq5{n:Nat}(k:Nat) : ∀ w,w ∈ (tbW n k).2→w ∈ wds (gsT n) k:=fun w h=>Xi0 (gsT n) (fun w=>kyT (kyW n w)) k w h
theorem X7r{G K:Type}[DecidableEq K](ky:List G→K) : ∀ (l m:List (List G)) (T:K→Option (List G)),enT ky T (l++m)=((enT ky (enT ky T l).1 m).1,(enT ky T l).2++(enT ky (enT ky T l).1 m).2)
 | [],m,T=>by simp [enT]
 | w::l,m,T=>by
  rw [List.cons_append]
  simp only [enT]
  cases T (ky w) with
  | some x=>exact X7r ky l m T
  | none=>simp only [X7r ky l m,List.cons_append]
theorem Xik{G K:Type}[DecidableEq K]{ky:List G→K}{T:K→Option (List G)}{w:List G}(h:(T (ky w)).isSome=true) : enT ky T [w]=(T,[]):=by
 simp only [enT]
 cases e:T (ky w) with
 | none=>rw [e] at h;cases h
 | some x=>rfl
theorem Xrj{G K:Type}[DecidableEq K]{ky:List G→K}{T:K→Option (List G)}{w:List G}(h:T (ky w)=none) : enT ky T [w]=((fun q=>if q=ky w then some w else T q),[w]):=by
 simp only [enT,h]
def rndW{G:Type}(gs:List G)(lev:List (List G))(i j:Nat) : List (List G):=((lev.take i).flatMap fun u=>gs.map fun g=>u++[g])++((gs.take j).map fun g=>(lev.getD i [])++[g])
theorem Xju{G:Type}(gs:List G)(lev:List (List G)) : rndW gs lev 0 0=[]:=by simp [rndW]
theorem Xaj{G:Type}{gs:List G}{lev:List (List G)}{i j:Nat}{g:G}(hg:gs[j]? = some g) : rndW gs lev i (j+1)=rndW gs lev i j++[(lev.getD i [])++[g]]:=by
 unfold rndW
 rw [List.append_assoc,List.take_add_one,hg]
 simp
theorem Xj6{G:Type}{gs:List G}{lev:List (List G)}{i:Nat}(hi:i<lev.length) : rndW gs lev (i+1) 0=rndW gs lev i gs.length:=by
 have e:lev.getD i []=lev[i]:=by rw [List.getD_eq_getElem?_getD,List.getElem?_eq_getElem hi];rfl
 unfold rndW
 rw [List.take_add_one,List.getElem?_eq_getElem hi,e]
 simp only [List.flatMap_append,Option.toList_some,List.flatMap_cons,List.flatMap_nil,List.append_nil,List.take_zero,List.map_nil,List.take_length]
theorem Xe2{G:Type}(gs:List G)(lev:List (List G)) : rndW gs lev lev.length 0=lev.flatMap fun u=>gs.map fun g=>u++[g]:=by
 simp [rndW]
structure Tw where (A:Option Addr) (c:Nat) (w:List Gt) (m:Mx) (B:Option Addr) (d:Nat)
def encTw(t:Tw) : List Value:=[.slice t.A t.w.length t.c,.int .i64 t.m.rows,.int .i64 t.m.cols,.slice t.B t.m.cells.length t.d]
theorem X6s:∀ x,(encTw x).length=4:=fun _=>rfl
theorem Xjc:∀ x,(encTw x).all one=true:=fun _=>rfl
def DeepT(w:World)(B:Nat)(E F:TypeId)(l:List Tw) : Prop:=∀ t ∈ l,Rd w B E encG t.A t.w∧Rd w B F encD t.B t.m.cells
structure Sq where (A:Option Addr) (c:Nat) (w:List Gt)
abbrev Sq.v(s:Sq) : Value:=.slice s.A s.w.length s.c
def DeepM(w:World)(B:Nat)(E:TypeId)(f:ByteArray→Option Sq) : Prop:=∀ s x,f s=some x→Rd w B E encG x.A x.w
def sgF(f:ByteArray→Option Sq) : ByteArray→Option Value:=fun s=>(f s).map Sq.v
def sgL(f:ByteArray→Option Sq) : ByteArray→Option (List Gt):=fun s=>(f s).map Sq.w
def updG(f:ByteArray→Option Sq)(s:ByteArray)(x:Sq) : ByteArray→Option Sq:=fun q=>if q=s then some x else f q
theorem Xh7(f:ByteArray→Option Sq)(s:ByteArray)(x:Sq) : updS (sgF f) s x.v=sgF (updG f s x):=funext fun q=>by
 unfold updS sgF updG;split<;>rfl
theorem Xhw(f:ByteArray→Option Sq)(s:ByteArray)(x:Sq) : sgL (updG f s x)=fun q=>if q=s then some x.w else sgL f q:=funext fun q=>by
 unfold sgL updG;split<;>rfl
section
variable {w w' : World} {B : Nat} {E F : TypeId} {l : List Tw} {f : ByteArray → Option Sq}
theorem DeepT.nil(w:World)(B:Nat)(E F:TypeId) : DeepT w B E F []:=fun s hs=>by simp at hs
theorem DeepT.snoc{x:Tw}(h:DeepT w B E F l)(h1:Rd w B E encG x.A x.w)(h2:Rd w B F encD x.B x.m.cells) : DeepT w B E F (l++[x]):=fun s hs=>by
 rcases List.mem_append.1 hs with hs|hs
 ·exact h s hs
 ·obtain rfl:=List.mem_singleton.1 hs;exact ⟨h1,h2⟩
theorem DeepT.below(h:DeepT w B E F l)(hb:Below w.heap.size w w') : DeepT w' B E F l:=fun s hs=>⟨(h s hs).1.below hb,(h s hs).2.below hb⟩
theorem DeepT.top(h:DeepT w B E F l) : DeepT w w.heap.size E F l:=fun s hs=>⟨(h s hs).1.top,(h s hs).2.top⟩
theorem DeepT.only{b:Nat}(h:DeepT w B E F l)(ho:Only b w w')(hB:B≤b) : DeepT w' B E F l:=fun s hs=>⟨(h s hs).1.only ho hB,(h s hs).2.only ho hB⟩
theorem DeepT.onlyN{b:Nat}(h:DeepT w B E F l)(ho:Only b w w')(hm:NC w b) : DeepT w' B E F l:=fun s hs=>⟨(h s hs).1.onlyN ho hm,(h s hs).2.onlyN ho hm⟩
theorem DeepT.onlyT{b:Nat}{T:TypeId}{lc:List Value}(h:DeepT w B E F l)(ho:Only b w w')(hb:Blk w b T lc)(hT:Nat.beq E T=false)(hT':Nat.beq F T=false) : DeepT w' B E F l:=fun s hs=>⟨(h s hs).1.onlyT ho hb hT,(h s hs).2.onlyT ho hb hT'⟩
theorem DeepT.appT{B0:Nat}{E':TypeId}{sz:Nat}{α:Type}{enc:α→List Value}{A:Option Addr}{c:Nat}{m:List α}(h:DeepT w B E F l)(ho:Own w B0 E' sz enc A c m)(hg:w.grownBy w' (Value.slice A m.length c).ownBlock)(hT:Nat.beq E' E=false)(hT':Nat.beq E' F=false) : DeepT w' B E F l:=fun s hs=>⟨(h s hs).1.appT ho hg hT,(h s hs).2.appT ho hg hT'⟩
theorem DeepT.one{x:Tw}(h1:Rd w B E encG x.A x.w)(h2:Rd w B F encD x.B x.m.cells) : DeepT w B E F [x]:=DeepT.snoc (DeepT.nil w B E F) h1 h2
theorem DeepM.below(h:DeepM w B E f)(hb:Below w.heap.size w w') : DeepM w' B E f:=fun s x hs=>(h s x hs).below hb
theorem DeepM.top(h:DeepM w B E f) : DeepM w w.heap.size E f:=fun s x hs=>(h s x hs).top
theorem DeepM.only{b:Nat}(h:DeepM w B E f)(ho:Only b w w')(hB:B≤b) : DeepM w' B E f:=fun s x hs=>(h s x hs).only ho hB
theorem DeepM.onlyN{b:Nat}(h:DeepM w B E f)(ho:Only b w w')(hm:NC w b) : DeepM w' B E f:=fun s x hs=>(h s x hs).onlyN ho hm
theorem DeepM.onlyT{b:Nat}{T:TypeId}{lc:List Value}(h:DeepM w B E f)(ho:Only b w w')(hb:Blk w b T lc)(hT:Nat.beq E T=false) : DeepM w' B E f:=fun s x hs=>(h s x hs).onlyT ho hb hT
theorem DeepM.appT{B0:Nat}{E':TypeId}{sz:Nat}{α:Type}{enc:α→List Value}{A:Option Addr}{c:Nat}{m:List α}(h:DeepM w B E f)(ho:Own w B0 E' sz enc A c m)(hg:w.grownBy w' (Value.slice A m.length c).ownBlock)(hT:Nat.beq E' E=false) : DeepM w' B E f:=fun s x hs=>(h s x hs).appT ho hg hT
theorem DeepM.none(w:World)(B:Nat)(E:TypeId) : DeepM w B E (fun _=>Option.none):=fun _ _ h=>by cases h
theorem Xaz(h:DeepM w B E f)(s:ByteArray) : ∃ A c,((sgF f) s).getD (.slice Option.none 0 0)=.slice A (((sgL f) s).getD []).length c∧((sgF f) s).isSome=((sgL f) s).isSome∧Rd w B E encG A (((sgL f) s).getD []):=by
 unfold sgF sgL
 cases e:f s with
 | none=>exact ⟨Option.none,0,rfl,rfl,Rd.nil _ _ _ _ _⟩
 | some x=>exact ⟨x.A,x.c,rfl,rfl,h s x e⟩
theorem Xni{f:ByteArray→Option Sq}{s:ByteArray}(h:sgL f s=Option.none) : sgF f s=Option.none:=by
 unfold sgF sgL at *
 cases e:f s with
 | none=>rfl
 | some x=>rw [e] at h;cases h
theorem DeepM.upd{s:ByteArray}{x:Sq}(h:DeepM w B E f)(hx:Rd w B E encG x.A x.w) : DeepM w B E (updG f s x):=fun q y hy=>by
 unfold updG at hy
 split at hy
 ·injection hy with hy;subst hy;exact hx
 ·exact h q y hy
end
end Go.Proofs.YtblmmikapnflcaaGreatDoor
namespace Go.Proofs.YtblmmikapnflcaaGreatDoor
theorem Xbg{G:Type}{gs:List G}{P:List G→Bool}{w:List G} : ∀ {k},lsW gs P k=some w→∃ j,j≤k∧w ∈ wds gs j∧P w=true
 | 0,h=>⟨0,Nat.le_refl _,List.mem_of_find?_eq_some h,List.find?_some h⟩
 | k+1,h=>by
  unfold lsW at h
  cases e:lsW gs P k with
  | some x=>
   rw [e] at h
   obtain rfl:x=w:=by simpa using h
   obtain ⟨j,hj,h1⟩:=Xbg e;exact ⟨j,by omega,h1⟩
  | none=>
   rw [e,Option.none_or] at h
   exact ⟨k+1,Nat.le_refl _,List.mem_of_find?_eq_some h,List.find?_some h⟩
def mstW(n:Nat) : Nat:=if n=2 then 4 else 8
def nW(m:Mx) : Nat:=if m.rows=4 then 2 else 1
def sqW(m:Mx) : Bool:=mOk m&&(decide (m.rows=m.cols)&&(decide (m.rows=2)||decide (m.rows=4)))
def shS(m:Mx) : Option (List Gt):=if sqW m=true then lsW (gsT (nW m)) (fun w=>phaseS (valW (nW m) w) m) (mstW (nW m)) else none
def shI(m:Mx) : Option (List Gt):=if (sqW m&&(canL m.cells).isSome)=true then (tbW (nW m) (mstW (nW m))).1 (kyT (canL m.cells)) else none
def srS(n:Nat)(M:Mx) : Nat→Option (List Gt)
 | 0=>fdS n M 0 (unitS (2^n))
 | k+1=>(srS n M k).or (fdS n M (k+1) (unitS (2^n)))
theorem Xjv{n:Nat}(hn:n=1∨n=2)(M:Mx) : ∀ k,k≤8→srS n M k=lsW (gsT n) (fun w=>phaseS (valW n w) M) k
 | 0,h=>X95 hn M h
 | k+1,h=>by unfold srS lsW;rw [Xjv hn M k (by omega),X95 hn M h]
def szD(l:List Dy)(left:Int) : Int:=if left-(l.length:Int)<0 then -1 else left-(l.length:Int)
def dimS(n:Int) : Bool:=[1,2,4,8,16,32].any fun y=>y==n
def cmI(x y:Int) : Int:=if x<y then -1 else if y<x then 1 else 0
def cmL:List Int→List Int→Int
 | [],[]=>0
 | [],_::_=>-1
 | _::_,[]=>1
 | x::l,y::r=>if cmI x y≠0 then cmI x y else cmL l r
theorem Xk3{p q:List Int}{k:Nat}{u v:Int}(hp:p[k]? = some u)(hq:q[k]? = some v) : cmL (p.drop k) (q.drop k)=if cmI u v≠0 then cmI u v else cmL (p.drop (k+1)) (q.drop (k+1)):=by
 obtain ⟨h1,h2⟩:=List.getElem?_eq_some_iff.1 hp;obtain ⟨h3,h4⟩:=List.getElem?_eq_some_iff.1 hq
 rw [List.drop_eq_getElem_cons h1,List.drop_eq_getElem_cons h3,cmL,h2,h4]
theorem Xmi{p q:List Int}{k:Nat}{u:Int}(hp:p[k]? = some u)(hq:q.length≤k) : cmL (p.drop k) (q.drop k)=1:=by
 obtain ⟨h1,h2⟩:=List.getElem?_eq_some_iff.1 hp
 rw [List.drop_eq_getElem_cons h1,List.drop_of_length_le hq,cmL]
theorem Xhy{p q:List Int}{k:Nat}(hp:p.length≤k)(hk:k≤q.length) : cmL (p.drop k) (q.drop k)=if k<q.length then -1 else 0:=by
 rw [List.drop_of_length_le hp]
 by_cases h:k<q.length
 ·rw [List.drop_eq_getElem_cons h,cmL,if_pos h]
 ·rw [List.drop_of_length_le (by omega),cmL,if_neg h]
def cmR(x y:Rg) : Int:=cmL [x.a,x.b,x.c,x.d] [y.a,y.b,y.c,y.d]
theorem X7w(x y:Int) : 0<cmI x y↔y<x:=by unfold cmI;split<;>(try split)<;>omega
theorem X62(x y:Int) : cmI x y=0↔x=y:=by unfold cmI;split<;>(try split)<;>omega
theorem Xhd(x y:Rg) : decide (0<cmR x y)=rLess y x:=by
 rw [Bool.eq_iff_iff,decide_eq_true_eq,X4y]
 unfold cmR
 simp only [cmL]
 have za:=X62 x.a y.a;have zb:=X62 x.b y.b;have zc:=X62 x.c y.c;have zd:=X62 x.d y.d
 have pa:=X7w x.a y.a;have pb:=X7w x.b y.b;have pc:=X7w x.c y.c;have pd:=X7w x.d y.d
 by_cases h1:cmI x.a y.a=0
 ·by_cases h2:cmI x.b y.b=0
  ·by_cases h3:cmI x.c y.c=0
   ·by_cases h4:cmI x.d y.d=0
    ·simp only [h1,h2,h3,h4];simp;omega
    ·simp only [h1,h2,h3];simp [h4];omega
   ·simp only [h1,h2];simp [h3];omega
  ·simp only [h1];simp [h2];omega
 ·simp [h1];omega
def idxF{α:Type}(l:List α)(q:α→Bool) : Int:=match l.findIdx? q with
 | some k=>(k:Int)
 | none=>-1
theorem Xv5{α:Type}{q:α→Bool} : ∀ {l:List α} {k:Nat} {u:α},((l.take k).all fun x=>!q x)=true→l[k]? = some u→q u=true→idxF l q=(k:Int):=by
 intro l k u h1 h2 h3;obtain ⟨h4,h5⟩:=List.getElem?_eq_some_iff.1 h2
 have:l.findIdx? q=some k:=by
  rw [List.findIdx?_eq_some_iff_getElem]
  refine ⟨h4,by rw [h5];exact h3,fun j hj=>?_⟩
  have:=List.all_eq_true.1 h1 l[j] (by rw [List.mem_iff_getElem];exact ⟨j,by simp;omega,by simp⟩)
  simpa using this
 unfold idxF;rw [this]
theorem Xm1{α:Type}{q:α→Bool}{l:List α}(h:l.any q=false) : idxF l q = -1:=by
 have:l.findIdx? q=none:=by rw [List.findIdx?_eq_none_iff];intro x hx;have:=List.any_eq_false.1 h x hx;simpa using this
 unfold idxF;rw [this]
end Go.Proofs.YtblmmikapnflcaaGreatDoor
namespace Go.Proofs
open Go.Shelf
def Tryz.lays156_ren:Go.Shelf.Ren:=⟨fun|156=>66|165=>120|166=>121|169=>122|240=>176|241=>177|276=>206|277=>207|n=>n,fun|31=>105|9=>9|3=>3|4=>4|0=>0|20=>20|72=>163|76=>167|70=>160|37=>161|75=>166|127=>205|164=>228|5=>5|80=>169|n=>n,fun|n=>n⟩
theorem Tryz.lays156:Go.Proofs.Lays.n156 Tryz.prog Tryz.lays156_ren:={
  mixed:=by kernel_rfl
  f156:=Tryz.func66.trans (congrArg some (by kernel_rfl))
  f165:=Tryz.func120.trans (congrArg some (by kernel_rfl))
  f166:=Tryz.func121.trans (congrArg some (by kernel_rfl))
  f169:=Tryz.func122.trans (congrArg some (by kernel_rfl))
  f240:=Tryz.func176.trans (congrArg some (by kernel_rfl))
  f241:=Tryz.func177.trans (congrArg some (by kernel_rfl))
  f276:=Tryz.func206.trans (congrArg some (by kernel_rfl))
  f277:=Tryz.func207.trans (congrArg some (by kernel_rfl))
  t0:=Tryz.underlying0
  a0:=Tryz.isAgg0
  z0:=Tryz.sizeOf0
  v0:=Tryz.zeroValue0
  t3:=Tryz.underlying3
  a3:=Tryz.isAgg3
  z3:=Tryz.sizeOf3
  v3:=Tryz.zeroValue3
  t4:=Tryz.underlying4
  a4:=Tryz.isAgg4
  z4:=Tryz.sizeOf4
  v4:=Tryz.zeroValue4
  t9:=Tryz.underlying9
  a9:=Tryz.isAgg9
  z9:=Tryz.sizeOf9
  v9:=Tryz.zeroValue9
  t20:=Tryz.underlying20
  a20:=Tryz.isAgg20
  z20:=Tryz.sizeOf20
  v20:=Tryz.zeroValue20
  t31:=Tryz.underlying105
  a31:=Tryz.isAgg105
  z31:=Tryz.sizeOf105
  v31:=Tryz.zeroValue105
  t37:=Tryz.underlying161
  a37:=Tryz.isAgg161
  z37:=Tryz.sizeOf161
  v37:=Tryz.zeroValue161
  t70:=Tryz.underlying160
  a70:=Tryz.isAgg160
  z70:=Tryz.sizeOf160
  v70:=Tryz.zeroValue160
  t72:=Tryz.underlying163
  a72:=Tryz.isAgg163
  z72:=Tryz.sizeOf163
  v72:=Tryz.zeroValue163
  t75:=Tryz.underlying166
  a75:=Tryz.isAgg166
  z75:=Tryz.sizeOf166
  v75:=Tryz.zeroValue166
  t76:=Tryz.underlying167
  a76:=Tryz.isAgg167
  z76:=Tryz.sizeOf167
  v76:=Tryz.zeroValue167
  t127:=Tryz.underlying205
  a127:=Tryz.isAgg205
  z127:=Tryz.sizeOf205
  v127:=Tryz.zeroValue205
  t164:=Tryz.underlying228
  a164:=Tryz.isAgg228
  z164:=Tryz.sizeOf228
  v164:=Tryz.zeroValue228 }
theorem Tryz.Builder_Extra_156:Builder.Extra Tryz.prog Tryz.lays156_ren:={
  sizeBuilder:=by kernel_rfl
  liesBuilder:=by kernel_rfl
  t5:=Tryz.underlying5
  a5:=Tryz.isAgg5
  z5:=Tryz.sizeOf5
  v5:=Tryz.zeroValue5
  infoByte:=by kernel_rfl
  cellsByte:=by kernel_rfl
  sizeByte:=by kernel_rfl
  neB5:=by decide }
open Go.RowKit in
theorem Tryz.strings_Join_none(a:Option Addr)(c:Nat)(sep:ByteArray)(w:World) :
    Calls Tryz.prog 66 #[.slice a 0 c,.string sep] w fun e w'=>e=.returned (.string ⟨#[]⟩)∧w'=w:=Any.strings_Join_none Tryz.lays156 Tryz.Builder_Extra_156 a c sep w
open Go.RowKit in
theorem Tryz.strings_Join(bk o c:Nat)(xs:List ByteArray)(sep:ByteArray)(w:World)(hcells:∀ (j:Nat) x,xs[j]? = some x→w.cell? ⟨bk,o+j,none⟩=some (.string x))(hbk:bk<w.heap.size)(hN:xs.length≤140737488355328)(hcap:xs.length≤c)(hlen:(Lib.join (xs.map (·.data.toList)) sep.data.toList).length≤140737488355328) :
    Calls Tryz.prog 66 #[.slice (some ⟨bk,o,none⟩) xs.length c,.string sep] w fun e w'=>e=.returned (.string ⟨(Lib.join (xs.map (·.data.toList)) sep.data.toList).toArray⟩)∧Below w.heap.size w w':=Any.strings_Join Tryz.lays156 Tryz.Builder_Extra_156 bk o c xs sep w hcells hbk hN hcap hlen
def Tryz.laysM171_ren:Go.Shelf.Ren:=⟨fun|171=>119|243=>175|246=>205|283=>223|284=>224|285=>225|286=>226|129=>238|317=>248|318=>249|319=>250|320=>251|337=>262|338=>263|n=>n,fun|3=>3|9=>9|2=>2|4=>4|171=>240|0=>0|53=>241|37=>161|5=>5|173=>244|212=>269|51=>255|20=>20|213=>270|46=>185|232=>281|233=>282|n=>n,fun|17=>1|18=>2|19=>3|n=>n⟩
theorem Tryz.laysM171:Go.Proofs.LaysM.n171 Tryz.prog Tryz.laysM171_ren:={
  mixed:=by kernel_rfl
  f129:=Tryz.func238.trans (congrArg some (by kernel_rfl))
  f171:=Tryz.func119.trans (congrArg some (by kernel_rfl))
  f243:=Tryz.func175.trans (congrArg some (by kernel_rfl))
  f246:=Tryz.func205.trans (congrArg some (by kernel_rfl))
  f283:=Tryz.func223.trans (congrArg some (by kernel_rfl))
  f284:=Tryz.func224.trans (congrArg some (by kernel_rfl))
  f285:=Tryz.func225.trans (congrArg some (by kernel_rfl))
  f286:=Tryz.func226.trans (congrArg some (by kernel_rfl))
  f317:=Tryz.func248.trans (congrArg some (by kernel_rfl))
  f318:=Tryz.func249.trans (congrArg some (by kernel_rfl))
  f319:=Tryz.func250.trans (congrArg some (by kernel_rfl))
  f320:=Tryz.func251.trans (congrArg some (by kernel_rfl))
  f337:=Tryz.func262.trans (congrArg some (by kernel_rfl))
  f338:=Tryz.func263.trans (congrArg some (by kernel_rfl))
  t0:=Tryz.underlying0
  a0:=Tryz.isAgg0
  z0:=Tryz.sizeOf0
  v0:=Tryz.zeroValue0
  t2:=Tryz.underlying2
  a2:=Tryz.isAgg2
  z2:=Tryz.sizeOf2
  v2:=Tryz.zeroValue2
  t3:=Tryz.underlying3
  a3:=Tryz.isAgg3
  z3:=Tryz.sizeOf3
  v3:=Tryz.zeroValue3
  t4:=Tryz.underlying4
  a4:=Tryz.isAgg4
  z4:=Tryz.sizeOf4
  v4:=Tryz.zeroValue4
  t5:=Tryz.underlying5
  a5:=Tryz.isAgg5
  z5:=Tryz.sizeOf5
  v5:=Tryz.zeroValue5
  t9:=Tryz.underlying9
  a9:=Tryz.isAgg9
  z9:=Tryz.sizeOf9
  v9:=Tryz.zeroValue9
  t20:=Tryz.underlying20
  a20:=Tryz.isAgg20
  z20:=Tryz.sizeOf20
  v20:=Tryz.zeroValue20
  t37:=Tryz.underlying161
  a37:=Tryz.isAgg161
  z37:=Tryz.sizeOf161
  v37:=Tryz.zeroValue161
  t46:=Tryz.underlying185
  a46:=Tryz.isAgg185
  z46:=Tryz.sizeOf185
  v46:=Tryz.zeroValue185
  t51:=Tryz.underlying255
  a51:=Tryz.isAgg255
  z51:=Tryz.sizeOf255
  v51:=Tryz.zeroValue255
  t53:=Tryz.underlying241
  a53:=Tryz.isAgg241
  z53:=Tryz.sizeOf241
  v53:=Tryz.zeroValue241
  t171:=Tryz.underlying240
  a171:=Tryz.isAgg240
  z171:=Tryz.sizeOf240
  v171:=Tryz.zeroValue240
  t173:=Tryz.underlying244
  a173:=Tryz.isAgg244
  z173:=Tryz.sizeOf244
  v173:=Tryz.zeroValue244
  t212:=Tryz.underlying269
  a212:=Tryz.isAgg269
  z212:=Tryz.sizeOf269
  v212:=Tryz.zeroValue269
  t213:=Tryz.underlying270
  a213:=Tryz.isAgg270
  z213:=Tryz.sizeOf270
  t232:=Tryz.underlying281
  a232:=Tryz.isAgg281
  z232:=Tryz.sizeOf281
  v232:=Tryz.zeroValue281
  t233:=Tryz.underlying282
  a233:=Tryz.isAgg282
  z233:=Tryz.sizeOf282
  v233:=Tryz.zeroValue282
  g17:=by kernel_rfl
  g18:=by kernel_rfl
  g19:=by kernel_rfl
  i0:=by kernel_rfl
  i2:=by kernel_rfl
  i3:=by kernel_rfl
  i4:=by kernel_rfl
  i5:=by kernel_rfl
  i9:=by kernel_rfl
  i20:=by kernel_rfl
  i37:=by kernel_rfl
  i46:=by kernel_rfl
  i51:=by kernel_rfl
  i53:=by kernel_rfl
  i171:=by kernel_rfl
  i173:=by kernel_rfl
  i212:=by kernel_rfl
  i232:=by kernel_rfl
  i233:=by kernel_rfl
  m17:=by kernel_rfl
  m18:=by kernel_rfl
  m19:=by kernel_rfl }
open Go.RowKit Go.Sort Go.Lib in
theorem Tryz.strconv_Itoa (n : Int) (h0 : -9223372036854775808 ≤ n) (h1 : n ≤ 9223372036854775807) (w : World) (htab : Lib.TabIs Tryz.prog w "internal/strconv.uint64pow10" .u64 Lib.pow10Tab) :
    Calls Tryz.prog 119 #[.int .i64 n] w fun e w'=>e=.returned (.string ⟨(Lib.itoa n).toArray⟩)∧∃ k os,w'=grow (w.drewN k) os:=Any.strconv_Itoa Tryz.laysM171 n h0 h1 w htab
end Go.Proofs
namespace Go.Proofs.YtblmmikapnflcaaGreatDoor
open Go.RowKit Go.Sort
def encTx(s:ByteArray) : List Value:=[.string s]
theorem X6p:∀ x,(encTx x).length=1:=fun _=>rfl
theorem X9o:∀ x,(encTx x).all one=true:=fun _=>rfl
def PowT (w : World) : Prop := ∀ w', Below w.heap.size w w' → Lib.TabIs Tryz.prog w' "internal/strconv.uint64pow10" .u64 Lib.pow10Tab
theorem PowT.of{w0 w:World}(h:PowT w0)(hW:Below w0.heap.size w0 w) : PowT w:=fun w' hw=>h w' (hW.trans (hw.mono hW.size))
def tx(l:List UInt8) : ByteArray:=⟨l.toArray⟩
theorem Xbz(l:List UInt8) : (tx l).data.toList=l:=rfl
theorem X4k(l:List UInt8) : (tx l).size=l.length:=by simp [tx,ByteArray.size]
theorem Xfu(l r:List UInt8) : tx l++tx r=tx (l++r):=by
 apply ByteArray.ext
 simp [tx]
theorem Xcj(w:World)(k:Nat)(os:Array Obj) : Below w.heap.size w (grow (w.drewN k) os):=
 ⟨rfl,rfl,rfl,by simp [grow,World.drewN],fun i hi=>by simp only [grow,World.drewN];rw [Array.getElem?_append_left hi]⟩
section
variable {P : Program} {a : Act} {w : World} {n : Nat} {e : Env} {ty : TypeId} {pos : String} {af : Array Edge} {g : Option (Nat × Bool)} {d : Option Tmp} {t t' : TypeId}
theorem Xmj{x y:Operand}{s r:ByteArray}(hf:Fr a n e)(hx:ev e x=some (.string s))(hy:ev e y=some (.string r))(hb:s.size+r.size≤9223372036854775807) : Ev P ⟨d,.binOp .add t x y t',ty,pos,af,g⟩ a w (.string (s++r)):=fun w' _=>by
 have h2:¬ (((s.size+r.size:Nat) : Int)>IntKind.i64.max):=by
  have:IntKind.i64.max=9223372036854775807:=rfl
  omega
 simp only [execOp,hf.ev hx,hf.ev hy]
 simp [eqGuard,binOp,Op.stringOp]
 simpa using h2
theorem Xnf{x y:Operand}{s r:ByteArray}(hx:ev e x=some (.string s))(hy:ev e y=some (.string r))(hb:s.size+r.size≤9223372036854775807) : EvW P ⟨d,.binOp .add t x y t',ty,pos,af,g⟩ n e w (.string (s++r)):=fun _ hf=>Xmj hf hx hy hb
theorem Xns{T K E:TypeId}{b c k:Nat}{o:Bool}{A:Option Addr}{f:ByteArray→Option Sq}{m x:Operand}{s:ByteArray}(hf:Fr a n e)(hm:ev e m=some (.map (some b)))(hx:ev e x=some (.string s))(hT:P.underlying T=some (.map K E))(hK:P.underlying K=some .string)(hz:ZeroT P E (.slice none 0 0))(h:MapS w b (sgF f))(hv:(sgF f s).getD (.slice none 0 0)=.slice A k c)(hb:(sgF f s).isSome=o) :
  Ev P ⟨d,.lookup T m x true,ty,pos,af,g⟩ a w (.tuple #[.slice A k c,.bool o]):=by
 have hq:=Xm6 (d:=d) (ty:=ty) (pos:=pos) (af:=af) (g:=g) hf hm hx hT hK (X5a hz) h
 rw [hv,hb] at hq
 exact hq
theorem Xft{T K E:TypeId}{b c k:Nat}{o:Bool}{A:Option Addr}{f:ByteArray→Option Sq}{m x:Operand}{s:ByteArray}(hm:ev e m=some (.map (some b)))(hx:ev e x=some (.string s))(hT:P.underlying T=some (.map K E))(hK:P.underlying K=some .string)(hz:ZeroT P E (.slice none 0 0))(h:MapS w b (sgF f))(hv:(sgF f s).getD (.slice none 0 0)=.slice A k c)(hb:(sgF f s).isSome=o) :
  EvW P ⟨d,.lookup T m x true,ty,pos,af,g⟩ n e w (.tuple #[.slice A k c,.bool o]):=fun _ hf=>Xns hf hm hx hT hK hz h hv hb
end
theorem Xnm:ZeroT Tryz.prog 26 (.slice none 0 0):=X1s (by kernel_rfl)
theorem Xrv(w:World)(n:Int)(h0:-9223372036854775808≤n)(h1:n≤9223372036854775807)(hp:PowT w) : Ret Tryz.prog 119 [.int .i64 n] w (fun v w'=>v=.string (tx (Lib.itoa n))∧Below w.heap.size w w'):=
 Calls.mono (Tryz.strconv_Itoa n h0 h1 w (hp w (Below.refl _ _))) fun _ _ ⟨he,k,os,hw⟩=>⟨_,he,rfl,by subst hw;exact Xcj w k os⟩
def joT(l:List ByteArray)(s:ByteArray) : ByteArray:=tx (Lib.join (l.map (·.data.toList)) s.data.toList)
theorem Xs6(w:World){B:Nat}{E:TypeId}(A:Option Addr)(c:Nat)(l:List ByteArray)(s:ByteArray)(hr:Rd w B E encTx A l)(hc:l.length≤c)(hl:l.length≤1048576)(hb:(Lib.join (l.map (·.data.toList)) s.data.toList).length≤140737488355328) :
  Ret Tryz.prog 66 [.slice A l.length c,.string s] w (fun v w'=>v=.string (joT l s)∧Below w.heap.size w w'):=by
 by_cases h:l=[]
 ·subst h
  exact Calls.mono (Tryz.strings_Join_none A c s w) fun _ _ ⟨he,hw⟩=>⟨_,he,rfl,by rw [hw];exact Below.refl _ _⟩
 ·obtain ⟨b,off,cs,fz,rfl,h2,h3,h4⟩:=hr h
  have hlt:b<w.heap.size:=(Array.getElem?_eq_some_iff.1 h3).1
  refine Calls.mono (Tryz.strings_Join b off c l s w (fun j x hj=>?_) hlt (by omega) hc hb) fun _ _ ⟨he,hw⟩=>⟨_,he,rfl,hw⟩
  have h5:=h4 j (.string x) (by
   have:=X3p X6p l j x hj 0 (.string x) rfl
   simpa using this)
  simp only [World.cell?,h3]
  simpa using h5
end Go.Proofs.YtblmmikapnflcaaGreatDoor
namespace Go.Proofs.YtblmmikapnflcaaGreatDoor
open Go.RowKit
theorem X39{n:Int}(h0:-9223372036854775808≤n)(h1:n≤9223372036854775807) : (Lib.itoa n).length≤21:=by
 unfold Lib.itoa
 split
 ·rw [List.length_cons,Lib.decDigits_length]
  have:=Lib.nDigits_le20 n.natAbs (by omega);omega
 ·rw [Lib.decDigits_length]
  have:=Lib.nDigits_le20 n.toNat (by omega);omega
theorem Xbi{K:Nat}(sep:List UInt8) : ∀ xs:List (List UInt8),(∀ x ∈ xs,x.length≤K)→(Lib.join xs sep).length≤xs.length*(K+sep.length)
 | [],_=>by simp [Lib.join]
 | [x],h=>by rw [Lib.join_one];have:=h x (List.mem_cons_self ..);simp;omega
 | x::y::l,h=>by
  have ih:=Xbi sep (y::l) fun z hz=>h z (List.mem_cons_of_mem _ hz)
  have e:Lib.join (x::y::l) sep=x++(sep++Lib.join (y::l) sep):=X3h sep x y l
  rw [e,List.length_append,List.length_append]
  have:=h x (List.mem_cons_self ..)
  rw [List.length_cons (a:=x),Nat.add_mul];omega
def jnI(l:List Int)(s:ByteArray) : ByteArray:=joT (l.map fun n=>tx (Lib.itoa n)) s
theorem Xjj{l:List Int}{s:ByteArray}(hl:l.length≤1000)(hs:s.size≤100)(hb:∀ n ∈ l,-9223372036854775808≤n∧n≤9223372036854775807) : (Lib.join ((l.map fun n=>tx (Lib.itoa n)).map (·.data.toList)) s.data.toList).length≤140737488355328:=by
 have h:=Xbi (K:=21) s.data.toList ((l.map fun n=>tx (Lib.itoa n)).map (·.data.toList)) (fun x hx=>by
  simp only [List.map_map,List.mem_map,Function.comp_apply] at hx
  obtain ⟨n,hn,rfl⟩:=hx
  exact X39 (hb n hn).1 (hb n hn).2)
 have h2:s.data.toList.length=s.size:=rfl
 rw [List.length_map,List.length_map,h2] at h
 have:l.length*(21+s.size)≤1000*121:=Nat.mul_le_mul hl (by omega)
 omega
theorem Xnj{x:Rg}(h:rOk x=true) : ∀ n ∈ [x.a,x.b,x.c,x.d],-9223372036854775808≤n∧n≤9223372036854775807:=by
 simp only [rOk,inR,Bool.and_eq_true,decide_eq_true_eq] at h
 intro n hn
 simp only [List.mem_cons,List.not_mem_nil,or_false] at hn
 rcases hn with rfl|rfl|rfl|rfl<;>omega
def fmR(x:Rg) : ByteArray:=if rOk x=true then tx (txR x) else tx []
def fmD(x:Dy) : ByteArray:=if dOk x=true then tx (txD x) else tx []
theorem Xca{x:Rg}(h:rOk x=true) : fmR x=tx (txR x):=if_pos h
theorem Xte{x:Rg}(h:¬ rOk x=true) : fmR x=tx []:=if_neg h
theorem Xk1{x:Dy}(h:dOk x=true) : fmD x=tx (txD x):=if_pos h
theorem Xuh{x:Dy}(h:¬ dOk x=true) : fmD x=tx []:=if_neg h
theorem X4u{x:Dy}(h:dOk x=true) : rOk x.num=true:=(X1k.1 h).1
theorem X6m{x:Dy}(h:dOk x=true) : -9223372036854775808≤x.exp∧x.exp≤9223372036854775807:=by
 have:=(X1k.1 h).2.1;omega
theorem Xbo{x:Rg}(h:rOk x=true) : (txR x).length≤100:=by
 have hb:=Xnj h
 rw [Xay]
 have:=X39 (hb x.a (by simp)).1 (hb x.a (by simp)).2
 have:=X39 (hb x.b (by simp)).1 (hb x.b (by simp)).2
 have:=X39 (hb x.c (by simp)).1 (hb x.c (by simp)).2
 have:=X39 (hb x.d (by simp)).1 (hb x.d (by simp)).2
 simp only [List.length_append,List.length_cons];omega
theorem Xpf{x:Dy}(h:dOk x=true) : (txD x).length≤150:=by
 have:=Xbo (X4u h)
 have:=X39 (X6m h).1 (X6m h).2
 unfold txD
 simp only [List.length_append,List.length_cons,List.length_nil];omega
theorem Xp0(x:Dy) : (fmD x).size≤150:=by
 unfold fmD
 split
 ·rw [X4k];exact Xpf (by assumption)
 ·rw [X4k];simp
theorem Xpu{x:Rg}(h:rOk x=true) : (fmR x).size≤100:=by rw [Xca h,X4k];exact Xbo h
theorem Xuo{x:Dy}(h:dOk x=true) : (fmR x.num).size+(tx [47]).size≤9223372036854775807:=by
 have:=Xpu (X4u h);rw [X4k];simp only [List.length_singleton];omega
theorem Xv7{x:Dy}(h:dOk x=true) : (fmR x.num++tx [47]).size+(tx (Lib.itoa x.exp)).size≤9223372036854775807:=by
 have h1:=X39 (X6m h).1 (X6m h).2;have h2:=Xbo (X4u h)
 rw [Xca (X4u h),Xfu,X4k,X4k,List.length_append];simp only [List.length_singleton];omega
theorem Xom{x:Dy}(h:dOk x=true) : fmR x.num++tx [47]++tx (Lib.itoa x.exp)=fmD x:=by
 rw [Xk1 h,Xca (X4u h),Xfu,Xfu];rfl
theorem Xgd{x:Rg}(h:rOk x=true){k:Nat}(hk:k<8) : mulOm1 x (k:Int)=rTurnN k x∧mulOm2 x (k:Int)=true:=by
 have h2:mulOm2 x (k:Int)=true:=by unfold mulOm2 inR;rw [h];simp;omega
 refine ⟨?_,h2⟩
 unfold mulOm1;rw [if_pos h2]
 have:=congrArg Dy.num (X54 hk ⟨x,0⟩)
 exact this
def canM(m:Mx) : Mx:=if mOk m=true then match canL m.cells with|some l=>⟨m.rows,m.cols,l⟩|none=>mZ else mZ
def canT(m:Mx) : Int:=if mOk m=true then match canK m.cells with|some k=>(k:Int)|none=>0 else 0
def canY(m:Mx) : Bool:=mOk m&&(canL m.cells).isSome
theorem Xo8{m:Mx}(h:mOk m=false) : canM m=mZ∧canT m=0∧canY m=false:=by
 unfold canM canT canY;rw [h];exact ⟨rfl,rfl,rfl⟩
theorem Xof{l:List Dy}{k:Nat}(h:canK l=some k) : canL l=some (l.map (dTurn (k:Int))):=by unfold canL;rw [h];rfl
theorem Xnn{m:Mx}(h:canK m.cells=none) : canM m=mZ∧canT m=0∧canY m=false:=by
 have h2:canL m.cells=none:=by unfold canL;rw [h];rfl
 unfold canM canT canY;rw [h,h2]
 refine ⟨?_,?_,?_⟩
 ·split<;>rfl
 ·split<;>rfl
 ·simp
theorem Xjx{m:Mx}{k:Nat}(hm:mOk m=true)(h:canK m.cells=some k) : canM m=⟨m.rows,m.cols,m.cells.map (dTurn (k:Int))⟩∧canT m=(k:Int)∧canY m=true:=by
 unfold canM canT canY;rw [hm,h,Xof h];exact ⟨rfl,rfl,rfl⟩
theorem Xlt{α:Type}{q:α→Bool}{l:List α}{k:Nat}{u:α}(hi:idxF l q=(k:Int))(h:l[k]? = some u) : l.find? q=some u:=by
 unfold idxF at hi
 cases e:l.findIdx? q with
 | none=>rw [e] at hi;simp only at hi;omega
 | some j=>
  rw [e] at hi
  obtain rfl:j=k:=by simp only at hi;omega
  obtain ⟨h1,h2,h3⟩:=List.findIdx?_eq_some_iff_getElem.1 e;obtain ⟨h4,h5⟩:=List.getElem?_eq_some_iff.1 h
  rw [List.find?_eq_some_iff_getElem]
  refine ⟨by rw [← h5];exact h2,j,h1,h5,fun i hi=>by have:=h3 i hi;simpa using this⟩
theorem Xon{α:Type}{q:α→Bool}{l:List α}(hi:idxF l q<0) : l.find? q=none:=by
 unfold idxF at hi
 cases e:l.findIdx? q with
 | some j=>rw [e] at hi;simp only at hi;omega
 | none=>
  rw [List.findIdx?_eq_none_iff] at e
  rw [List.find?_eq_none];intro x hx;rw [e x hx];simp
theorem Xri{α:Type}{q:α→Bool}{l:List α}(hi:¬ idxF l q<0) : ∃ k u,idxF l q=((k:Nat) : Int)∧l[k]? = some u:=by
 unfold idxF at *
 cases e:l.findIdx? q with
 | none=>rw [e] at hi;simp only at hi;omega
 | some j=>
  obtain ⟨h1,_⟩:=List.findIdx?_eq_some_iff_getElem.1 e;exact ⟨j,l[j],rfl,List.getElem?_eq_getElem h1⟩
theorem Xms{l:List Dy}{k:Nat}{u:Dy}(hi:idxF l (fun x=>decide (x≠dZ))=(k:Int))(h:l[k]? = some u) : canK l=some (turnK u.num):=by
 unfold canK;rw [Xlt hi h];rfl
theorem Xlw{l:List Dy}(hi:idxF l (fun x=>decide (x≠dZ))<0) : canK l=none:=by
 unfold canK;rw [Xon hi];rfl
theorem Xcl{α β:Type}{f:α→β}{l:List α}{k:Nat}{q:List β}{u:α}(h:q=(l.take k).map f)(hu:l[k]? = some u) : q++[f u]=(l.take (k+1)).map f:=by
 rw [h,List.take_add_one,hu];simp
theorem Xkz(m:Mx) : (canM m).cells.length≤1024:=by
 unfold canM
 split
 ·rename_i hm
  have hl:=X2n hm
  have hle:m.cells.length≤1024:=by
   have h1:=hl.2.2
   have:m.rows.toNat*m.cols.toNat≤32*32:=Nat.mul_le_mul (by omega) (by omega)
   first|omega|(rw [h1];omega)
  cases e:canL m.cells with
  | none=>simp [mZ]
  | some l=>simp only;rw [X8d e];exact hle
 ·simp [mZ]
def tgL(n i j:Nat) : List Gt:=(([1,5,7] : List Int).take i).flatMap (fun k=>(List.range n).map fun (q:Nat)=>(⟨k,(q:Int),0⟩ : Gt))++(List.range j).map fun (q:Nat)=>(⟨([1,5,7] : List Int).getD i 0,(q:Int),0⟩ : Gt)
theorem Xkb(n:Nat){i j:Nat}{u:Int}(hu:([1,5,7] : List Int)[i]? = some u) : tgL n i j++[⟨u,(j:Int),0⟩]=tgL n i (j+1):=by
 unfold tgL
 rw [List.append_assoc,List.range_succ,List.map_append,List.getD_eq_getElem?_getD,hu];rfl
theorem Xp7(n:Nat){i:Nat}(hi:i<3) : tgL n i n=tgL n (i+1) 0:=by
 unfold tgL
 rcases (by omega:i=0∨i=1∨i=2) with rfl|rfl|rfl<;>simp
theorem Xhu(n i j:Nat) : (tgL n i j).length≤3*n+j:=by
 unfold tgL
 have h:∀ l:List Int,(l.flatMap (fun k=>(List.range n).map fun (q:Nat)=>(⟨k,(q:Int),0⟩ : Gt))).length=l.length*n:=by
  intro l;induction l with
  | nil=>simp
  | cons x l ih=>rw [List.flatMap_cons,List.length_append,ih,List.length_cons,Nat.add_mul];simp;omega
 rw [List.length_append,h,List.length_map,List.length_range]
 have h2:(([1,5,7] : List Int).take i).length≤3:=by simp;omega
 have:=Nat.mul_le_mul_right n h2
 omega
def keyM(m:Mx) : ByteArray:=joT ((canM m).cells.map fmD) (tx [44])
theorem Xpw{m:Mx} : ∀ x ∈ (canM m).cells,dOk x=true:=by
 unfold canM
 split
 ·rename_i hm
  intro x hx
  cases e:canL m.cells with
  | none=>rw [e] at hx;simp [mZ] at hx
  | some l=>
   rw [e] at hx
   unfold canL at e
   obtain ⟨k,_,rfl⟩:=Option.map_eq_some_iff.1 e;obtain ⟨y,hy,rfl⟩:=List.mem_map.1 hx;exact Xlx (X1t hm y hy) _
 ·intro x hx;simp [mZ] at hx
theorem Xhs{m:Mx}(h:mOk m=true) : keyM m=kyT (canL m.cells):=by
 unfold keyM joT kyT
 have h1:((canM m).cells.map fmD).map (·.data.toList)=(canM m).cells.map txD:=by
  rw [List.map_map]
  exact List.map_congr_left fun x hx=>by simp only [Function.comp_apply,Xk1 (Xpw x hx),Xbz]
 rw [h1]
 have h2:(canM m).cells=(canL m.cells).getD []:=by
  unfold canM;rw [if_pos h]
  cases canL m.cells<;>rfl
 rw [h2];rfl
theorem Xex(m:Mx)(h:(canM m).cells.length≤1000000) : (Lib.join (((canM m).cells.map fmD).map (·.data.toList)) (tx [44]).data.toList).length≤140737488355328:=by
 have h1:=Xbi (K:=150) (tx [44]).data.toList (((canM m).cells.map fmD).map (·.data.toList)) (fun x hx=>by
  simp only [List.map_map,List.mem_map,Function.comp_apply] at hx
  obtain ⟨n,hn,rfl⟩:=hx
  have:=Xp0 n
  exact this)
 rw [List.length_map,List.length_map,Xbz] at h1
 have:(canM m).cells.length*(150+[44].length)≤1000000*151:=Nat.mul_le_mul h (by simp)
 have e:([44] : List UInt8).length=1:=rfl
 rw [e] at h1
 simp only [List.length_singleton] at this
 rw [Xbz];omega
theorem Xw3(w0:World)(x:Int) : Ret Tryz.prog 222 [vi x] w0 (fun v w=>v=.bool false∧w0=w):=by
 refine enter Tryz.func222 rfl 6 rfl rfl ?_;intro a hf
 have hW:=bz w0
 refine Zs hf fun _ aA=>?_;refine Za rfl<|Zx aA fun a hf _ aB=>?_;refine Zm rfl<|Zm rfl<|Ze (X2h rfl rfl)<|Za rfl<|Zt aB fun a hf=>?_
 refine wp_ret (X2 hf (Xv hf rfl rfl) ?_)
 exact ⟨by simp,rfl⟩
theorem Xx3(w0:World)(x:Int)(y:Int) : Ret Tryz.prog 204 [vi x,vi y] w0 (fun v w=>v=vi (cmI x y)∧w0=w):=by
 refine enter Tryz.func204 rfl 20 rfl rfl ?_;intro a d
 have hW:=bz w0
 refine Zs d fun _ aI=>?_;refine Za rfl<|Zx aI fun a d _ aJ=>?_;refine Zm rfl<|Zf (Vc (Xw3 _ x) Xm9) ?_;rintro _ _ ⟨rfl,rfl⟩;refine Za rfl<|Zx aJ fun a d _ aK=>?_;refine Zm rfl<|Zf (Vc (Xw3 _ y) Xm9) ?_;rintro _ _ ⟨rfl,rfl⟩;refine Za rfl<|ZX aK fun a d _ aL=>?_;refine Zs d fun _ aM=>?_;refine Zm rfl<|Zt aM fun a d=>?_;refine X64 d rfl ?_;refine wp_skip<|aL _ _<|wp_seq_k fun _ aN=>?_;refine Zs d fun _ aO=>?_;refine Zm rfl<|Zt aO fun a d=>?_;refine X64 d rfl ?_;refine wp_skip<|aN _ _<|wp_seq_k fun _ aP=>?_;refine Zs d fun _ aQ=>?_;refine Zm rfl<|Zm rfl<|Ze (X10 rfl rfl)<|Zt aQ fun a d=>?_
 refine Xk d rfl (fun b=>?_) (fun b=>?_)
 ·have aA:=b;have b:=of_decide_eq_true b
  have e:cmI x y = -1:=by rw [cmI,if_pos b]
  refine Zs d fun _ aC=>?_;refine Za rfl<|Zt aC fun a d=>?_;refine wp_ret<|X3<|X2 d (Xv d rfl rfl) ?_;exact ⟨by rw [e],rfl⟩
 have aA:=b;have b:=of_decide_eq_false b;have aD:=b;refine wp_skip<|aP _ _<|wp_seq_k fun _ aE=>?_;refine Zs d fun _ aF=>?_;refine Zm rfl<|Zm rfl<|Ze (X3a rfl rfl)<|Zt aF fun a d=>?_
 refine Xk d rfl (fun c=>?_) (fun c=>?_)
 ·have aB:=c;have c:=of_decide_eq_true c
  have e:cmI x y=1:=by rw [cmI,if_neg aD,if_pos c]
  refine Zs d fun _ aG=>?_;refine Za rfl<|Zt aG fun a d=>?_;refine wp_ret<|X3<|X2 d (Xv d rfl rfl) ?_;exact ⟨by rw [e],rfl⟩
 have aB:=c;have c:=of_decide_eq_false c
 have e:cmI x y=0:=by rw [cmI,if_neg aD,if_neg c]
 refine wp_skip<|aE _ _<|Zs d fun _ aH=>?_;refine Za rfl<|Zt aH fun a d=>?_
 refine wp_ret (X2 d (Xv d rfl rfl) ?_)
 exact ⟨by rw [e],rfl⟩
theorem Xwi(j:World)(Ap:Option Addr)(cp:Nat)(p:List Int)(aI:Rd j j.heap.size 3 encI Ap p)(Aq:Option Addr)(cq:Nat)(q:List Int)(aJ:Rd j j.heap.size 3 encI Aq q)(b5:p.length≤2305843009213693951)(b6:q.length≤2305843009213693951) : Ret Tryz.prog 171 [.slice Ap p.length cp,.slice Aq q.length cq] j (fun v w=>v=vi (cmL p q)∧Below j.heap.size j w):=by
 refine enter Tryz.func171 rfl 36 rfl rfl ?_;intro a b
 have m:=bz j
 refine Zs b fun _ b0=>?_;refine Za rfl<|ZX b0 fun a b _ b1=>?_;refine Zs b fun _ b2=>?_;refine Zm rfl<|Ze (X0x rfl X08)<|Zm rfl<|Zt b2 fun a b=>?_;refine wp_block<|X0b (σ:=Nat) (fun (k:Nat) (a:Act) (w:World)=>Fr a 36 [(0,.slice Ap p.length cp),(1,.slice Aq q.length cq),(9,.slice Ap p.length cp),(10,vi (p.length:Int)),(11,vi (k:Int))]∧(k≤p.length)∧(k≤q.length)∧(cmL (p.drop k) (q.drop k)=cmL p q)∧Below j.heap.size j w) (fun (k:Nat)=>p.length-k) 0 ?_ ?_
 ·exact ⟨b.sb,(Nat.zero_le _),(Nat.zero_le _),rfl,m⟩
 rintro k a w1 ⟨b,hk,b7,f,m⟩;refine Zs b fun _ b3=>?_;refine Ze (X10 rfl rfl)<|ZX b3 fun a b _ b4=>?_
 refine Xk b rfl (fun i=>?_) (fun i=>?_)
 ·have aK:=i;have i:=of_decide_eq_true i
  obtain ⟨u9,aA⟩:=Xi (l:=p) (k:=k) (by omega)
  refine wp_skip<|b4 _ _<|wp_seq_k fun _ aL=>?_;refine wp_block<|Zs b fun _ aM=>?_;refine Zm rfl<|Zi (k:=k) (u:=u9) (enc:=encI) (l:=p) trivial rfl rfl X08 X1j X02 (aI.below' m) aA rfl ?_;intro b8 aB;refine Ze (X0 rfl X7 aB)<|Za rfl<|Za rfl<|ZX aM fun a b _ aN=>?_;refine Zs b fun _ aO=>?_;refine Zm rfl<|Zm rfl<|Ze (X0x rfl X08)<|Ze (X99 rfl rfl)<|Zt aO fun a b=>?_
  refine Xk b rfl (fun c=>?_) (fun c=>?_)
  ·have aC:=c;have c:=of_decide_eq_true c
   have d:cmL p q=1:=by rw [← f];exact Xmi aA (by omega)
   refine Zs b fun _ aP=>?_;refine Za rfl<|Zt aP fun a b=>?_;refine wp_ret<|X3<|Xr<|X3 ?_;refine X3<|Xr<|X3<|X2 b (Xv b rfl rfl) ?_;exact ⟨by rw [d],m⟩
  have aC:=c;have c:=of_decide_eq_false c
  obtain ⟨v9,aQ⟩:=Xi (l:=q) (k:=k) (by omega)
  have aD:=Xk3 aA aQ;refine wp_skip<|aN _ _<|Zs b fun _ aR=>?_;refine Zm rfl<|Zm rfl<|Zi (k:=k) (u:=v9) (enc:=encI) (l:=q) trivial rfl rfl X08 X1j X02 (aJ.below' m) aQ rfl ?_;intro b9 aE;refine Ze (X0 rfl X7 aE)<|Za rfl<|Zx aR fun a b _ aS=>?_;refine Zm rfl<|Zm rfl<|Zf (Vc (Xx3 _ u9 v9) Xpl) ?_;rintro _ _ ⟨rfl,rfl⟩;refine Za rfl<|Zx aS fun a b _ aT=>?_;refine Zm rfl<|Ze (X2h rfl rfl)<|Zt aT fun a b=>?_
  refine Xk b rfl (fun g=>?_) (fun g=>?_)
  ·have aF:=g
   have aG:cmI u9 v9≠0:=by simpa using g
   have d:cmL p q=cmI u9 v9:=by rw [← f,aD,if_pos aG]
   refine Zs b fun _ aU=>?_;refine Zm rfl<|Za rfl<|Zt aU fun a b=>?_;refine wp_ret<|Xr<|X3<|X3 ?_;refine Xr<|X3<|X2 b (Xv b rfl rfl) ?_;exact ⟨by rw [d],m⟩
  have aF:=g
  have aG:¬ cmI u9 v9≠0:=by simpa using g
  rw [if_neg aG] at aD
  refine wp_skip<|Xt<|aL _ _<|Zr b ?_;refine Ze (X06 rfl rfl (by omega) (by omega))<|Zm rfl ?_;refine Zn fun a b=>?_;refine Xp ?_;exact ⟨k+1,⟨b.sb,(by omega),(by omega),(by rw [← aD,f]),m⟩,(by omega)⟩
 have aK:=i;have i:=of_decide_eq_false i;refine wp_exit<|Xl<|Xl<|X0a ?_;refine b1 _ _<|wp_seq_k fun _ aW=>?_;refine Zs b fun _ aX=>?_;refine Zm rfl<|Ze (X0x rfl X08)<|Zm rfl<|Ze (X0x rfl X08)<|Ze (X10 rfl rfl) ?_;refine Zt aX fun a b=>?_
 refine Xk b rfl (fun e=>?_) (fun e=>?_)
 ·have aH:=e;have e:=of_decide_eq_true e
  have d:cmL p q = -1:=by rw [← f,Xhy (by omega) (by omega),if_pos (by omega)]
  refine Zs b fun _ aY=>?_;refine Za rfl<|Zt aY fun a b=>?_;refine wp_ret<|X3<|X2 b (Xv b rfl rfl) ?_;exact ⟨by rw [d],m⟩
 have aH:=e;have e:=of_decide_eq_false e
 have d:cmL p q=0:=by rw [← f,Xhy (by omega) (by omega),if_neg (by omega)]
 refine wp_skip<|aW _ _<|Zs b fun _ aZ=>?_;refine Za rfl<|Zt aZ fun a b=>?_
 refine wp_ret (X2 b (Xv b rfl rfl) ?_)
 exact ⟨by rw [d],m⟩
theorem Xx8(w0:World)(x:Rg)(y:Rg) : Ret Tryz.prog 114 [.agg #[vi x.a,vi x.b,vi x.c,vi x.d],.agg #[vi y.a,vi y.b,vi y.c,vi y.d]] w0 (fun v w=>v=vi (cmR x y)∧Below w0.heap.size w0 w):=by
 refine enter Tryz.func114 rfl 24 rfl rfl ?_;intro a hf
 have e:=bz w0
 refine Zs hf fun _ aD=>?_;refine Zf (X0i (zs:=[vi x.a,vi x.b,vi x.c,vi x.d]) rfl rfl) ?_;rintro _ w1 ⟨b2,rfl,aE,i,f⟩;have aJ:=Nat.le_trans e.size aE;have e:=btr e i;refine Zf (X0i (zs:=[vi y.a,vi y.b,vi y.c,vi y.d]) rfl rfl) ?_;rintro _ w2 ⟨b3,rfl,aF,i,g⟩
 have aB:b2≠b3:=by have:=f.lt;omega
 have aK:=Nat.le_trans e.size aF;have f:=f.below i;have e:=btr e i;refine Za rfl<|Zx aD fun a hf _ aG=>?_;refine Ze (Vd rfl X0j 0)<|Ze (X0 rfl X7 (f.at 0))<|Ze (Vd rfl X0m 1)<|Ze (X0 rfl X7 (f.at 1))<|Ze (Vd rfl X0l 2) ?_;refine Ze (X0 rfl X7 (f.at 2))<|Ze (Vd rfl X0k 3)<|Ze (X0 rfl X7 (f.at 3))<|Zf (X5 (k:=4) (vs:=[vi x.a,vi x.b,vi x.c,vi x.d]) (zs:=[vi x.a,vi x.b,vi x.c,vi x.d]) rfl X08 X1o rfl rfl) ?_;rintro _ w3 ⟨b5,rfl,aH,i,j⟩;have aL:=Nat.le_trans e.size aH;have g:=g.below i;have e:=btr e i;refine Ze (Vd rfl X0j 0)<|Ze (X0 rfl X7 (g.at 0))<|Ze (Vd rfl X0m 1)<|Ze (X0 rfl X7 (g.at 1))<|Ze (Vd rfl X0l 2) ?_;refine Ze (X0 rfl X7 (g.at 2))<|Ze (Vd rfl X0k 3)<|Ze (X0 rfl X7 (g.at 3))<|Zf (X5 (k:=4) (vs:=[vi y.a,vi y.b,vi y.c,vi y.d]) (zs:=[vi y.a,vi y.b,vi y.c,vi y.d]) rfl X08 X1o rfl rfl) ?_;rintro _ w4 ⟨b7,rfl,aI,i,aA⟩
 have aC:b5≠b7:=by have:=j.lt;omega
 have aM:=Nat.le_trans e.size aI;have j:=j.below i;have e:=btr e i;refine Zf (Vc (Xwi _ (some ⟨b5,0,none⟩) 4 ([x.a,x.b,x.c,x.d]) (Rd.of_blk j rfl _ j.lt) (some ⟨b7,0,none⟩) 4 ([y.a,y.b,y.c,y.d]) (Rd.of_blk aA rfl _ aA.lt) (by simp) (by simp)) Xoo) ?_;rintro _ w5 ⟨rfl,i⟩;have e:=btr e i;refine Za rfl<|Zt aG fun a hf=>?_
 refine wp_ret (X2 hf (Xv hf rfl rfl) ?_)
 exact ⟨rfl,e⟩
theorem Xw7(w0:World)(x:Dy) : Ret Tryz.prog 111 [.agg #[vi x.num.a,vi x.num.b,vi x.num.c,vi x.num.d,vi x.exp]] w0 (fun v w=>v=.bool (decide (x≠dZ))∧Below w0.heap.size w0 w):=by
 refine enter Tryz.func111 rfl 6 rfl rfl ?_;intro a hf
 have hW:=bz w0
 refine Zs hf fun _ aA=>?_;refine Zf (X0i (zs:=[vi x.num.a,vi x.num.b,vi x.num.c,vi x.num.d,vi x.exp]) rfl rfl) ?_;rintro _ w1 ⟨b2,rfl,aB,hE,aC⟩;have aE:=Nat.le_trans hW.size aB;have hW:=btr hW hE;refine Za rfl<|Zx aA fun a hf _ aD=>?_;refine Ze (Vn Xm aC)<|Ze (Xg (ps:=[]) (cs:=[vi 0,vi 0,vi 0,vi 0,vi 0]) rfl (fun _=>by first|rfl|kernel_rfl))<|Ze (Xsc rfl rfl Xkt (fun w=>eqD 9997 x (⟨(⟨0,0,0,0⟩ : Rg),0⟩ : Dy) w))<|Za rfl<|Zt aD fun a hf=>?_
 refine wp_ret (X2 hf (Xv hf rfl rfl) ?_)
 exact ⟨by cases x;simp [dZ, *],hW⟩
theorem Xwe(w0:World)(n:Int)(hn:n=1∨n=2) : Ret Tryz.prog 105 [vi n] w0 (fun v w=>∃ A c,v=.slice A (gsT n.toNat).length c∧Own w w0.heap.size 115 3 encG A c (gsT n.toNat)∧Below w0.heap.size w0 w):=by
 refine enter Tryz.func105 rfl 18 rfl rfl ?_;intro a b
 have e:=bz w0
 refine Zs b fun _ aF=>?_;refine Za rfl<|ZX aF fun a b _ aG=>?_;refine Zs b fun _ aH=>?_;refine Zm rfl<|Ze (X13 rfl rfl)<|Zt aH fun a b=>?_
 refine Xk b rfl (fun d=>?_) (fun d=>?_)
 ·have aB:=d
  have aI:n=1:=by simpa using d
  refine Zs b fun _ aJ=>?_;refine Ze (Xg (ps:=[(0,vi 1)]) (cs:=[vi 1,vi 0,vi 0]) rfl (fun _=>by first|rfl|kernel_rfl))<|Ze (Xg (ps:=[(0,vi 5)]) (cs:=[vi 5,vi 0,vi 0]) rfl (fun _=>by first|rfl|kernel_rfl))<|Ze (Xg (ps:=[(0,vi 7)]) (cs:=[vi 7,vi 0,vi 0]) rfl (fun _=>by first|rfl|kernel_rfl))<|Zf (X5 (k:=3) (vs:=[.agg #[vi 1,vi 0,vi 0],.agg #[vi 5,vi 0,vi 0],.agg #[vi 7,vi 0,vi 0]]) (zs:=[vi 1,vi 0,vi 0,vi 5,vi 0,vi 0,vi 7,vi 0,vi 0]) rfl Xf Xo rfl rfl) ?_;rintro _ w1 ⟨b7,rfl,aK,hE,aL⟩;have aC:=Nat.le_trans e.size aK;have e:=btr e hE;refine Za rfl<|Zt aJ fun a b=>?_;refine wp_ret<|X3<|X2 b (Xv b rfl rfl) ?_
  subst aI
  exact ⟨(some ⟨b7,0,none⟩),3,rfl,((Own.of_blkL Xb aL aC rfl rfl (by decide)) : Own _ _ _ _ encG _ _ (gsT 1)),e⟩
 have aB:=d
 have aM:n=2:=by have h9:¬ n=1:=(by simpa using d);omega
 refine wp_skip<|aG _ _<|Zs b fun _ aN=>?_;refine Ze (Xg (ps:=[(0,vi 1)]) (cs:=[vi 1,vi 0,vi 0]) rfl (fun _=>by first|rfl|kernel_rfl))<|Ze (Xg (ps:=[(0,vi 1),(1,vi 1)]) (cs:=[vi 1,vi 1,vi 0]) rfl (fun _=>by first|rfl|kernel_rfl))<|Ze (Xg (ps:=[(0,vi 5)]) (cs:=[vi 5,vi 0,vi 0]) rfl (fun _=>by first|rfl|kernel_rfl))<|Ze (Xg (ps:=[(0,vi 5),(1,vi 1)]) (cs:=[vi 5,vi 1,vi 0]) rfl (fun _=>by first|rfl|kernel_rfl))<|Ze (Xg (ps:=[(0,vi 7)]) (cs:=[vi 7,vi 0,vi 0]) rfl (fun _=>by first|rfl|kernel_rfl)) ?_;refine Ze (Xg (ps:=[(0,vi 7),(1,vi 1)]) (cs:=[vi 7,vi 1,vi 0]) rfl (fun _=>by first|rfl|kernel_rfl))<|Ze (Xg (ps:=[(0,vi 9),(2,vi 1)]) (cs:=[vi 9,vi 0,vi 1]) rfl (fun _=>by first|rfl|kernel_rfl))<|Ze (Xg (ps:=[(0,vi 9),(1,vi 1)]) (cs:=[vi 9,vi 1,vi 0]) rfl (fun _=>by first|rfl|kernel_rfl))<|Zf (X5 (k:=8) (vs:=[.agg #[vi 1,vi 0,vi 0],.agg #[vi 1,vi 1,vi 0],.agg #[vi 5,vi 0,vi 0],.agg #[vi 5,vi 1,vi 0],.agg #[vi 7,vi 0,vi 0],.agg #[vi 7,vi 1,vi 0],.agg #[vi 9,vi 0,vi 1],.agg #[vi 9,vi 1,vi 0]]) (zs:=[vi 1,vi 0,vi 0,vi 1,vi 1,vi 0,vi 5,vi 0,vi 0,vi 5,vi 1,vi 0,vi 7,vi 0,vi 0,vi 7,vi 1,vi 0,vi 9,vi 0,vi 1,vi 9,vi 1,vi 0]) rfl Xf Xo rfl rfl) ?_;rintro _ w2 ⟨aO,rfl,aD,hE,aE⟩;have aA:=Nat.le_trans e.size aD;have e:=btr e hE;refine Za rfl<|Zt aN fun a b=>?_
 refine wp_ret (X2 b (Xv b rfl rfl) ?_)
 subst aM
 exact ⟨(some ⟨aO,0,none⟩),8,rfl,((Own.of_blkL Xb aE aA rfl rfl (by decide)) : Own _ _ _ _ encG _ _ (gsT 2)),e⟩
theorem Xyf(n:World)(Al:Option Addr)(cl:Nat)(l:List Dy)(aD:Rd n n.heap.size 95 encD Al l)(kq:FuncId)(pq:List Value)(Fq:FuncF Tryz.prog kq)(q:Dy→Bool)(hq:∀ x w,Below n.heap.size n w→Ret Tryz.prog kq ([dV x]++pq) w (fun v w'=>v=.bool (q x)∧Below w.heap.size w w'))(aQ:l.length≤2305843009213693951) : Ret Tryz.prog 110 [.slice Al l.length cl,.func (.func kq) #[] pq.toArray] n (fun v w=>v=vi (idxF l q)∧Below n.heap.size n w):=by
 refine enter Tryz.func110 rfl 19 rfl rfl ?_;intro a e
 have o:=bz n
 refine Zs e fun _ aJ=>?_;refine Za rfl<|ZX aJ fun a e _ aK=>?_;refine Zs e fun _ aL=>?_;refine Zm rfl<|Ze (X0x rfl X1d)<|Zm rfl<|Zt aL fun a e=>?_;refine wp_block<|X0b (σ:=Nat) (fun (k:Nat) (a:Act) (w:World)=>Fr a 19 [(0,.slice Al l.length cl),(1,.func (.func kq) #[] pq.toArray),(7,vi (l.length:Int)),(8,vi (k:Int))]∧(k≤l.length)∧((l.take k).all (fun x=>!q x)=true)∧Below n.heap.size n w) (fun (k:Nat)=>l.length+1-k) 0 ?_ ?_
 ·exact ⟨e.sb,(Nat.zero_le _),(by simp),o⟩
 rintro k a w1 ⟨e,hk,j,o⟩;refine Zs e fun _ aM=>?_;refine Ze (X10 rfl rfl)<|ZX aM fun a e _ aN=>?_
 refine Xk e rfl (fun g=>?_) (fun g=>?_)
 ·have aE:=g;have g:=of_decide_eq_true g
  obtain ⟨i,aA⟩:=Xi (l:=l) (k:=k) (by omega)
  refine wp_skip<|aN _ _<|wp_seq_k fun _ aO=>?_;refine wp_block<|Zs e fun _ aF=>?_;refine Zm rfl<|Za rfl<|Zx aF fun a e _ aG=>?_;refine Zm rfl<|Zm rfl<|Zm rfl<|Zi (k:=k) (u:=i) (enc:=encD) (l:=l) trivial rfl rfl X1d X01 X19 (aD.below' o) aA rfl ?_;intro aR aB;refine Ze (X07 (l:=[vi i.num.a,vi i.num.b,vi i.num.c,vi i.num.d,vi i.exp]) rfl Xm aB rfl)<|Zf (X76 (cs:=pq) (vs:=[.agg #[vi i.num.a,vi i.num.b,vi i.num.c,vi i.num.d,vi i.exp]]) rfl rfl Fq (hq i _ o)) ?_;rintro _ w2 ⟨rfl,hE⟩;have o:=btr o hE;refine Zt aG fun a e=>?_
  refine Xk e rfl (fun f=>?_) (fun f=>?_)
  ·have aC:=f
   have m:idxF l q=(k:Int):=Xv5 j aA f
   refine Zs e fun _ aH=>?_;refine Zm rfl<|Za rfl<|Zt aH fun a e=>?_;refine wp_ret<|Xr<|X3<|X3 ?_;refine Xr<|X3<|X2 e (Xv e rfl rfl) ?_;exact ⟨by rw [m],o⟩
  have aC:=f
  have aP:(!q i)=true:=by revert f;cases q i<;>simp
  refine wp_skip<|Xt<|aO _ _<|Zr e ?_;refine Ze (X06 rfl rfl (by omega) (by omega))<|Zm rfl ?_;refine Zn fun a e=>?_;refine Xp ?_;exact ⟨k+1,⟨e.sb,(by omega),(X28 j aA aP),o⟩,(by omega)⟩
 have aE:=g;have g:=of_decide_eq_false g;refine wp_exit<|Xl<|Xl<|X0a ?_;refine aK _ _<|Zs e fun _ aI=>?_;refine Za rfl<|Zt aI fun a e=>?_
 refine wp_ret (X2 e (Xv e rfl rfl) ?_)
 have m:idxF l q = -1:=Xm1 (X2j (X1z j (by omega)))
 exact ⟨by rw [m],o⟩
theorem Xx1(w0:World)(m:Mx)(Am:Option Addr)(cm:Nat)(M:Rd w0 w0.heap.size 95 encD Am m.cells)(aU:m.cells.length≤2305843009213693951) : Ret Tryz.prog 64 [.agg #[vi m.rows,vi m.cols,.slice Am m.cells.length cm]] w0 (fun v w=>∃ A c,v=.tuple #[mV A c (canM m),vi (canT m),.bool (canY m)]∧Own w w0.heap.size 95 5 encD A c (canM m).cells∧Below w0.heap.size w0 w):=by
 refine enter Tryz.func64 rfl 61 rfl rfl ?_;intro a q
 have n:=bz w0
 refine Zs q fun _ cW=>?_;refine Zf (X0i (zs:=[vi m.rows,vi m.cols,.slice Am m.cells.length cm]) rfl rfl) ?_;rintro _ w1 ⟨b3,rfl,cX,e,g⟩;have dE:=Nat.le_trans n.size cX;have n:=btr n e;refine Zf (X8 (zs:=[vi 0,vi 0,.slice none 0 0]) X1n rfl) ?_;rintro _ w2 ⟨b5,rfl,cY,e,f⟩
 have cV:b3≠b5:=by have:=g.lt;omega
 have b1:=Nat.le_trans n.size cY;have g:=g.below e;have n:=btr n e;refine Za rfl<|Za rfl<|Zx cW fun a q _ d5=>?_;refine Ze (Vd rfl X1g 2)<|Ze (X0 rfl X2a (g.at 2))<|Zf (X1x (vs:=[.slice Am m.cells.length cm,.func (.func 111) #[] #[]]) rfl Xme (Xyf _ Am cm m.cells (M.below' n).top 111 [] Xqj (fun x=>decide (x≠dZ)) (fun x w1 dF=>Xw7 w1 x) aU)) ?_;rintro _ w3 ⟨rfl,e⟩;have g:=g.below e;have f:=f.below e;have n:=btr n e;refine Za rfl<|ZX d5 fun a q _ d6=>?_;refine wp_seq_k fun _ d7=>?_;refine X0o (fun a w=>Fr a 61 [(1,.pointer (some ⟨b3,0,none⟩)),(2,.pointer (some ⟨b5,0,none⟩)),(5,vi (idxF m.cells (fun x=>decide (x≠dZ)))),(22,.bool ((!(mOk m))||(decide ((idxF m.cells (fun x=>decide (x≠dZ)))<0))))]∧Below w3.heap.size w3 w) ?_ ?_
 ·have p:Below w3.heap.size w3 w3:=Below.refl _ _
  refine Zr q<|Ze (Vn X0e g)<|Zf (Vc (Xr4 _ m Am cm (M.below' n).top aU) Xbl) ?_;rintro _ w4 ⟨rfl,e⟩;have n:=btr n e;have p:=btr p e;refine Ze (X0z rfl)<|Zm rfl ?_
  refine Zg 19 rfl (fun H=>?_) (fun H=>?_)
  ·refine Zp (gP H) ?_;refine Zp (gP H) ?_;refine Ze (Xn rfl H rfl) ?_;refine Zn fun a q=>?_
   have aE:Below w3.heap.size w3 w4:=p
   exact ⟨q.sub ⟨rfl,rfl,rfl,X1 rfl (by first|rfl|(simp only [H,bs];done)|simp [H]),trivial⟩,aE⟩
  refine Zv (gW H) (Xa rfl) ?_;refine Zv (gW H) (X10 rfl rfl) ?_;refine Ze (Xj rfl H rfl) ?_;refine Zn fun a q=>?_
  have aE:Below w3.heap.size w3 w4:=p
  exact ⟨q.sub ⟨rfl,rfl,rfl,X1 rfl (by first|rfl|(simp only [H,bs];done)|simp [H]),trivial⟩,aE⟩
 rintro a w5 ⟨q,e⟩;have g:=g.below e;have f:=f.below e;have n:=btr n e;refine d7 _ _ ?_
 refine Xk q rfl (fun W=>?_) (fun W=>?_)
 ·have b7:=W
  have cC:canM m=mZ∧canT m=0∧canY m=false:=by
   rcases (by simpa using W:mOk m=false∨idxF m.cells (fun x=>decide (x≠dZ))<0) with h9|h9
   ·exact Xo8 h9
   ·exact Xnn (Xlw h9)
  refine Zs q fun _ cD=>?_;refine Ze (Xg (ps:=[]) (cs:=[vi 0,vi 0,.slice none 0 0]) rfl (fun _=>by first|rfl|kernel_rfl))<|Zo (Vw [vi 0,vi 0,.slice none 0 0] X17 f) ?_;rintro _ w6 ⟨L,hb⟩;have z:=f;have n:=Below.only n L b1;have f:=hb;refine Za rfl<|Za rfl<|Zt cD fun a q=>?_;refine wp_ret<|X3<|X2 q (Xxy q rfl (ResV.cellN (l:=[vi 0,vi 0,.slice none 0 0]) rfl X0e (f.at 0) rfl) rfl rfl) ?_;obtain ⟨aF,b8,b9⟩:=cC;exact ⟨none,0,by rw [aF,b8,b9];rfl,by rw [aF];exact (Own.nil _ _ _ _ _),n⟩
 have b7:=W
 have d8:mOk m=true∧¬ idxF m.cells (fun x=>decide (x≠dZ))<0:=by simpa using W
 obtain ⟨bC,d9⟩:=d8;obtain ⟨j0,y,bD,aW⟩:=Xri d9
 have cE:rOk y.num=true:=X4u (X1t bC y (List.mem_of_getElem? aW))
 have dA:=Xms bD aW;refine wp_skip<|d6 _ _<|wp_seq_k fun _ cF=>?_;refine X0h none (fun j=>[8].contains j) mixed ?_;intro w7 e;have g:=g.below e;have f:=f.below e;have n:=btr n e;refine Yb q<|Yo 0 rfl (fun _=>Vd rfl X1g 2)<|Ye 1 rfl (X0 rfl X2a (g.at 2))<|Yo 2 rfl (fun _=>Xa rfl)<|Yi (k:=j0) (u:=y) (enc:=encD) (l:=m.cells) 3 rfl trivial rfl rfl X1d X01 X19 (M.below' n) aW bD ?_;intro dG bE;refine Yo 4 rfl (fun _=>X8s rfl X1e)<|Ye 5 rfl (X07 (l:=[vi y.num.a,vi y.num.b,vi y.num.c,vi y.num.d]) rfl X0c ((bE.drop 0).take 4) rfl)<|Y1 6 ?_;refine Yk rfl trivial (X8 (zs:=[vi 0,vi 0,vi 0,vi 0]) X1v rfl) (fun _ _ ⟨_,_,_,h,_⟩=>h) ?_;rintro _ w8 ⟨bF,rfl,cG,e,o⟩;have aG:=Nat.le_trans n.size cG;have g:=g.below e;have f:=f.below e;have n:=btr n e;refine Yo 7 rfl (fun _=>X18 rfl)<|Y1 8 ?_;refine Yh rfl trivial rfl (Vw [vi y.num.a,vi y.num.b,vi y.num.c,vi y.num.d] X16 o) ?_;rintro _ w9 ⟨L,hb⟩;have z:=o;have g:=g.only L (Blk.ne g z rfl);have f:=f.only L (Blk.ne f z rfl);have n:=Below.only n L aG;have o:=hb;refine Yd fun a q=>?_;refine cF _ _<|wp_seq_k fun _ cH=>?_;refine Zs q fun _ cJ=>?_;refine Za rfl<|Zt cJ fun a q=>?_;refine wp_block<|X0b (σ:=Nat×Nat) (fun (s:Nat×Nat) (a:Act) (w:World)=>match s with|(i,b)=>Fr a 61 [(1,.pointer (some ⟨b3,0,none⟩)),(2,.pointer (some ⟨b5,0,none⟩)),(5,vi (idxF m.cells (fun x=>decide (x≠dZ)))),(6,vi (b:Int)),(7,.pointer (some ⟨bF,0,none⟩)),(8,vi ((i+1:Nat) : Int))]∧(i≤7)∧(b≤7)∧(b=bestT y.num i)∧Blk w b3 33 [vi m.rows,vi m.cols,.slice Am m.cells.length cm]∧Blk w b5 33 [vi 0,vi 0,.slice none 0 0]∧Blk w bF 93 [vi ((rTurnN b y.num).a),vi ((rTurnN b y.num).b),vi ((rTurnN b y.num).c),vi ((rTurnN b y.num).d)]∧Below w0.heap.size w0 w) (fun (s:Nat×Nat)=>match s with|(i,b)=>7-i) (0,0) ?_ ?_
 ·exact ⟨q.sb,(by omega),(by omega),rfl,g,f,o,n⟩
 rintro ⟨i,b⟩ a w10 ⟨q,dH,dI,bG,g,f,o,n⟩;refine wp_seq_k fun _ cK=>?_;refine Zs q fun _ cL=>?_;refine Zm rfl<|Ze (X10 rfl rfl)<|Zt cL fun a q=>?_
 refine Xk q rfl (fun I=>?_) (fun I=>?_)
 ·have bH:=I;have I:=of_decide_eq_true I;refine wp_skip<|cK _ _<|wp_seq_k fun _ b2=>?_;refine wp_block<|Zs q fun _ cM=>?_;refine Ze (Vd rfl X1g 2)<|Ze (X0 rfl X2a (g.at 2))<|Zm rfl<|Zi (k:=j0) (u:=y) (enc:=encD) (l:=m.cells) trivial rfl rfl X1d X01 X19 (M.below' n) aW bD ?_;intro dJ bI;refine Ze (X8s rfl X1e)<|Ze (X07 (l:=[vi y.num.a,vi y.num.b,vi y.num.c,vi y.num.d]) rfl X0c ((bI.drop 0).take 4) rfl)<|Zm rfl<|Zf (X1x (vs:=[.agg #[vi y.num.a,vi y.num.b,vi y.num.c,vi y.num.d],vi ((i+1:Nat) : Int)]) rfl Xlo (by have hq:=Xwq w10 y.num ((i+1:Nat) : Int);rw [(Xgd cE (by omega:i+1<8)).1,(Xgd cE (by omega:i+1<8)).2] at hq;exact hq)) ?_;rintro _ dK ⟨rfl,e⟩;have g:=g.below e;have f:=f.below e;have o:=o.below e;have n:=btr n e;refine Zm rfl<|Ze (X4 (vs:=[.agg #[vi ((rTurnN (i+1) y.num).a),vi ((rTurnN (i+1) y.num).b),vi ((rTurnN (i+1) y.num).c),vi ((rTurnN (i+1) y.num).d)],.bool true]) rfl rfl)<|Ze (X4 (vs:=[.agg #[vi ((rTurnN (i+1) y.num).a),vi ((rTurnN (i+1) y.num).b),vi ((rTurnN (i+1) y.num).c),vi ((rTurnN (i+1) y.num).d)],.bool true]) rfl rfl)<|Zf (X8 (zs:=[vi 0,vi 0,vi 0,vi 0]) X1v rfl) ?_;rintro _ dL ⟨b26,rfl,cN,e,C⟩
  have cB:bF≠b26:=by have:=o.lt;omega
  have bJ:=Nat.le_trans n.size cN;have g:=g.below e;have f:=f.below e;have o:=o.below e;have n:=btr n e;refine Zo (Vw [vi ((rTurnN (i+1) y.num).a),vi ((rTurnN (i+1) y.num).b),vi ((rTurnN (i+1) y.num).c),vi ((rTurnN (i+1) y.num).d)] X16 C) ?_;rintro _ dM ⟨L,hb⟩;have z:=C;have g:=g.only L (Blk.ne g z rfl);have f:=f.only L (Blk.ne f z rfl);have o:=o.only L (by omega);have n:=Below.only n L bJ;have C:=hb;refine Za rfl<|Zx cM fun a q _ cO=>?_;refine Ze (Vn X0c C)<|Ze (Vn X0c o)<|Zf (Vc (Xx8 _ (rTurnN (i+1) y.num) (rTurnN b y.num)) Xqr) ?_;rintro _ dN ⟨rfl,e⟩;have g:=g.below e;have f:=f.below e;have o:=o.below e;have C:=C.below e;have n:=btr n e;refine Ze (X3a rfl rfl)<|Zt cO fun a q=>?_
  refine Xk q rfl (fun D=>?_) (fun D=>?_)
  ·have bK:=D;have D:=of_decide_eq_true D
   have bL:i+1=bestT y.num (i+1):=by subst bG;have h8:=decide_eq_true D;rw [Xhd] at h8;rw [bestT,if_pos h8]
   refine X0h none (fun j=>[3].contains j) mixed ?_;intro dO e;have g:=g.below e;have f:=f.below e;have o:=o.below e;have C:=C.below e;have n:=btr n e;refine Yb q<|Yo 0 rfl (fun _=>Xa rfl)<|Ye 1 rfl (Vn X0c C)<|Yo 2 rfl (fun _=>X18 rfl)<|Y1 3 ?_;refine Yh rfl trivial rfl (Vw [vi ((rTurnN (i+1) y.num).a),vi ((rTurnN (i+1) y.num).b),vi ((rTurnN (i+1) y.num).c),vi ((rTurnN (i+1) y.num).d)] X16 o) ?_;rintro _ dP ⟨L,hb⟩;have z:=o;have g:=g.only L (Blk.ne g z rfl);have f:=f.only L (Blk.ne f z rfl);have n:=Below.only n L aG;have o:=hb;refine Yd fun a q=>?_;refine Xt<|b2 _ _<|Zr q<|Zm rfl<|Ze (X06 rfl rfl (by omega) (by omega))<|Za rfl ?_;refine Zn fun a q=>?_;refine Xp ?_;exact ⟨(i+1,i+1),⟨q.sb,(by omega),(by omega),bL,g,f,o,n⟩,(by first|omega|(dsimp only;omega))⟩
  have bK:=D;have D:=of_decide_eq_false D
  have bL:b=bestT y.num (i+1):=by subst bG;have h8:=decide_eq_false D;rw [Xhd] at h8;rw [bestT,if_neg (by rw [h8];decide)]
  refine wp_skip<|Xt<|b2 _ _<|Zr q ?_;refine Zm rfl<|Ze (X06 rfl rfl (by omega) (by omega))<|Za rfl ?_;refine Zn fun a q=>?_;refine Xp ?_;exact ⟨(i+1,b),⟨q.sb,(by omega),(by omega),bL,g,f,o,n⟩,(by first|omega|(dsimp only;omega))⟩
 have bH:=I;have I:=of_decide_eq_false I
 have dB:i=7:=by omega
 have cP:turnK y.num=b:=by rw [bG,dB];rfl
 have cQ:scaleI m (dPow (b:Int))=some ⟨m.rows,m.cols,m.cells.map (dTurn (b:Int))⟩:=Xez bC (by omega)
 refine wp_exit<|Xl<|Xl<|X0a ?_;refine cH _ _<|wp_seq_k fun _ cR=>?_;refine X0o (fun a w=>∃ B E G,Fr a 61 [(2,.pointer (some ⟨b5,0,none⟩)),(6,vi (b:Int)),(11,.pointer (some ⟨B,0,none⟩)),(12,.bool true)]∧w0.heap.size≤B∧Blk w B 33 [vi m.rows,vi m.cols,.slice E (m.cells.map (dTurn (b:Int))).length G]∧b3≠B∧b5≠B∧Own w w0.heap.size 95 5 encD E G (m.cells.map (dTurn (b:Int)))∧Below w10.heap.size w10 w) ?_ ?_
 ·have p:Below w10.heap.size w10 w10:=Below.refl _ _
  refine X0h none (fun j=>[8].contains j) mixed ?_;intro w17 e;have g:=g.below e;have f:=f.below e;have n:=btr n e;have p:=btr p e;refine Yb q<|Ye 0 rfl (Vn X0e g)<|Yo 1 rfl (fun _=>Xa rfl) ?_
  have t:Below w17.heap.size w17 w17:=Below.refl _ _
  refine Yc [0,1,2,3,4,5,6,7] 2 (fun a w=>∃ B E G,Fr a 61 [(2,.pointer (some ⟨b5,0,none⟩)),(6,vi (b:Int)),(11,.pointer (some ⟨B,0,none⟩)),(56,.agg #[vi m.rows,vi m.cols,.slice E (m.cells.map (dTurn (b:Int))).length G]),(57,.bool true)]∧w0.heap.size≤B∧Blk w B 33 [vi 0,vi 0,.slice none 0 0]∧b3≠B∧b5≠B∧w17.heap.size≤B∧w10.heap.size≤B∧Own w w0.heap.size 95 5 encD E G (m.cells.map (dTurn (b:Int)))∧Below w17.heap.size w17 w) ?_ ?_
  ·rintro a dQ ⟨B,E,G,q,aC,N,aA,aB,bM,bN,J,e⟩;clear t;have t:=e;have n:=btr n e;have p:=btr p e;refine Yb q<|Y1 8<|Yh rfl trivial rfl (Vw [vi m.rows,vi m.cols,.slice E (m.cells.map (dTurn (b:Int))).length G] X17 N) ?_;rintro _ w19 ⟨L,hb⟩;have z:=N;have J:=J.onlyT L z rfl;have p:=Below.only p L bN;have t:=Below.only t L bM;have n:=Below.only n L aC;have N:=hb;refine Yo 9 rfl (fun _=>X18 rfl) ?_;refine Yd fun a q=>?_
   have aE:Below w10.heap.size w10 w19:=p
   exact ⟨B,E,G,q.sb,aC,N,aA,aB,J,aE⟩
  intro b4;refine Yc [0,1,2,7] 6 (fun a w=>∃ U,Fr a 61 [(2,.pointer (some ⟨b5,0,none⟩)),(6,vi (b:Int)),(11,.pointer (some ⟨U,0,none⟩)),(52,.agg #[vi m.rows,vi m.cols,.slice Am m.cells.length cm]),(54,.agg #[vi ((dPow (b:Int)).num.a),vi ((dPow (b:Int)).num.b),vi ((dPow (b:Int)).num.c),vi ((dPow (b:Int)).num.d),vi ((dPow (b:Int)).exp)])]∧w0.heap.size≤U∧Blk w U 33 [vi 0,vi 0,.slice none 0 0]∧b3≠U∧b5≠U∧w17.heap.size≤U∧w10.heap.size≤U∧Below w17.heap.size w17 w) ?_ ?_
  ·rintro a dC ⟨U,q,bO,aH,aI,aJ,bP,bQ,e⟩;clear t;have t:=e;have n:=btr n e;have p:=btr p e;refine Yb q<|Y1 3<|Yf rfl trivial (EfW.mono (X1x (vs:=[.agg #[vi m.rows,vi m.cols,.slice Am m.cells.length cm],.agg #[vi ((dPow (b:Int)).num.a),vi ((dPow (b:Int)).num.b),vi ((dPow (b:Int)).num.c),vi ((dPow (b:Int)).num.d),vi ((dPow (b:Int)).exp)]]) rfl Xnk (by have hq:=Xwv dC m Am cm (M.below' n).top (dPow (b:Int)) aU;rw [cQ,Option.getD_some,Option.isSome_some] at hq;exact hq)) (fun _ _ h=>⟨fun _=>by obtain ⟨aX,aY,rfl,aD,e⟩:=h;exact e,h⟩)) ?_;rintro _ dR ⟨aX,aY,rfl,aD,e⟩;have aD:=aD.lower n.size;have aH:=aH.below e;have n:=btr n e;have p:=btr p e;have t:=btr t e;refine Yo 4 rfl (fun _=>Xa rfl)<|Yo 5 rfl (fun _=>X4 (vs:=[.agg #[vi m.rows,vi m.cols,.slice aX (m.cells.map (dTurn (b:Int))).length aY],.bool true]) rfl rfl)<|Yo 6 rfl (fun _=>X4 (vs:=[.agg #[vi m.rows,vi m.cols,.slice aX (m.cells.map (dTurn (b:Int))).length aY],.bool true]) rfl rfl) ?_;exact fun a q=>b4 _ a _ rfl ⟨U,aX,aY,q.sb,bO,aH,aI,aJ,bP,bQ,aD,t⟩
  intro b6;refine Y2 2 7 ?_ ?_
  ·refine Yk rfl trivial (Vc (Xcf _ (b:Int) (by unfold inR;simp;omega)) X47) (fun _ _ ⟨_,e⟩=>e) ?_;rintro _ dD ⟨rfl,e⟩;have g:=g.below e;have f:=f.below e;have n:=btr n e;have p:=btr p e;have t:=btr t e;refine Y2 3 7 ?_ ?_
   ·refine Yf rfl trivial (EfW.mono (X1x (vs:=[.agg #[vi m.rows,vi m.cols,.slice Am m.cells.length cm],.agg #[vi ((dPow (b:Int)).num.a),vi ((dPow (b:Int)).num.b),vi ((dPow (b:Int)).num.c),vi ((dPow (b:Int)).num.d),vi ((dPow (b:Int)).exp)]]) rfl Xnk (by have hq:=Xwv dD m Am cm (M.below' n).top (dPow (b:Int)) aU;rw [cQ,Option.getD_some,Option.isSome_some] at hq;exact hq)) (fun _ _ h=>⟨fun _=>by obtain ⟨aZ,b0,rfl,Q,e⟩:=h;exact e,h⟩)) ?_;rintro _ dS ⟨aZ,b0,rfl,Q,e⟩;have Q:=Q.lower n.size;have g:=g.below e;have f:=f.below e;have n:=btr n e;have p:=btr p e;have t:=btr t e;refine Yo 4 rfl (fun _=>Xa rfl)<|Yo 5 rfl (fun _=>X4 (vs:=[.agg #[vi m.rows,vi m.cols,.slice aZ (m.cells.map (dTurn (b:Int))).length b0],.bool true]) rfl rfl)<|Yo 6 rfl (fun _=>X4 (vs:=[.agg #[vi m.rows,vi m.cols,.slice aZ (m.cells.map (dTurn (b:Int))).length b0],.bool true]) rfl rfl)<|Y1 7 ?_;refine Yk rfl trivial (X8 (zs:=[vi 0,vi 0,.slice none 0 0]) X1n rfl) (fun _ _ ⟨_,_,_,h,_⟩=>h) ?_;rintro _ dT ⟨b37,rfl,aK,e,cS⟩
    have aL:b3≠b37:=by have:=g.lt;omega
    have aM:b5≠b37:=by have:=f.lt;omega
    have bR:=Nat.le_trans n.size aK;have bS:=Nat.le_trans p.size aK;have bU:=Nat.le_trans t.size aK;have Q:=Q.below e;have n:=btr n e;have p:=btr p e;have t:=btr t e;exact fun a q=>b4 _ a _ rfl ⟨b37,aZ,b0,q.sb,bR,cS,aL,aM,bU,bS,Q,t⟩
   refine Yk rfl trivial (X8 (zs:=[vi 0,vi 0,.slice none 0 0]) X1n rfl) (fun _ _ ⟨_,_,_,h,_⟩=>h) ?_;rintro _ dU ⟨b39,rfl,aN,e,cT⟩
   have aO:b3≠b39:=by have:=g.lt;omega
   have aP:b5≠b39:=by have:=f.lt;omega
   have bW:=Nat.le_trans n.size aN;have bX:=Nat.le_trans p.size aN;have bY:=Nat.le_trans t.size aN;have n:=btr n e;have p:=btr p e;have t:=btr t e;exact fun a q=>b6 _ a _ rfl ⟨b39,q.sb,bW,cT,aO,aP,bY,bX,t⟩
  refine Yk rfl trivial (X8 (zs:=[vi 0,vi 0,.slice none 0 0]) X1n rfl) (fun _ _ ⟨_,_,_,h,_⟩=>h) ?_;rintro _ dW ⟨b41,rfl,aQ,e,aR⟩
  have aS:b3≠b41:=by have:=g.lt;omega
  have aT:b5≠b41:=by have:=f.lt;omega
  have bZ:=Nat.le_trans n.size aQ;have c4:=Nat.le_trans p.size aQ;have cA:=Nat.le_trans t.size aQ;have n:=btr n e;have p:=btr p e;have t:=btr t e;refine Y1 2<|Yk rfl trivial (Vc (Xcf _ (b:Int) (by unfold inR;simp;omega)) X47) (fun _ _ ⟨_,e⟩=>e) ?_;rintro _ dX ⟨rfl,e⟩;have aR:=aR.below e;have n:=btr n e;have p:=btr p e;have t:=btr t e;exact fun a q=>b6 _ a _ rfl ⟨b41,q.sb,bZ,aR,aS,aT,cA,c4,t⟩
 rintro a dY ⟨B,E,G,q,aC,N,aA,aB,J,e⟩;have f:=f.below e;have n:=btr n e;refine cR _ _<|Zs q fun _ cU=>?_;refine Ze (Vn X0e N)<|Zm rfl<|Zm rfl<|Zo (Vw [vi m.rows,vi m.cols,.slice E (m.cells.map (dTurn (b:Int))).length G] X17 f) ?_;rintro _ e8 ⟨L,hb⟩;have z:=f;have J:=J.onlyT L z rfl;have n:=Below.only n L b1;have f:=hb;refine Za rfl<|Za rfl<|Zt cU fun a q=>?_
 refine wp_ret (X2 q (Xxy q rfl (ResV.cellN (l:=[vi m.rows,vi m.cols,.slice E (m.cells.map (dTurn (b:Int))).length G]) rfl X0e (f.at 0) rfl) rfl rfl) ?_)
 obtain ⟨aF,b8,b9⟩:=Xjx bC dA;exact ⟨E,G,by rw [aF,b8,b9,cP],by rw [aF,cP];exact J,n⟩
theorem Xwr(i:World)(Al:Option Addr)(cl:Nat)(l:List Int)(aE:Rd i i.heap.size 3 encI Al l)(z:ByteArray)(aO:l.length≤1000)(aP:z.size≤100)(aA:∀ n ∈ l,-9223372036854775808≤n∧n≤9223372036854775807)(aF:PowT i) : Ret Tryz.prog 174 [.slice Al l.length cl,.string z] i (fun v w=>v=.string (jnI l z)∧Below i.heap.size i w):=by
 refine enter Tryz.func174 rfl 24 rfl rfl ?_;intro a c
 have d:=bz i
 refine Zs c fun _ aQ=>?_;refine Za rfl<|Zx aQ fun a c _ aR=>?_;refine Zf (X5 (k:=0) (vs:=[]) (zs:=[]) rfl X51 Xa9 rfl rfl) ?_;rintro _ w1 ⟨b4,rfl,aS,o,aT⟩;have aG:=Nat.le_trans d.size aS;have d:=btr d o;refine Za rfl<|ZX aR fun a c _ aU=>?_;refine Zs c fun _ aW=>?_;refine Zm rfl<|Ze (X0x rfl X08)<|Zm rfl<|Zt aW fun a c=>?_;refine wp_block<|X0b (σ:=Nat×(List ByteArray)) (fun (s:Nat×(List ByteArray)) (a:Act) (w:World)=>match s with|(k,q)=>∃ A8 c8,Fr a 24 [(1,.string z),(5,.slice A8 q.length c8),(9,.slice Al l.length cl),(10,vi (l.length:Int)),(11,vi (k:Int))]∧(k≤l.length)∧(q=(l.take k).map fun n=>tx (Lib.itoa n))∧(q.length=k)∧Own w i.heap.size 9 1 encTx A8 c8 q∧Below i.heap.size i w) (fun (s:Nat×(List ByteArray))=>match s with|(k,q)=>l.length-k) (0,[]) ?_ ?_
 ·exact ⟨some ⟨b4,0,none⟩,0,c.sb,(Nat.zero_le _),rfl,rfl,(Own.empty aT aG),d⟩
 rintro ⟨k,q⟩ a w2 ⟨A8,c8,c,hk,hq,aH,e,d⟩;refine Zs c fun _ aX=>?_;refine Ze (X10 rfl rfl)<|ZX aX fun a c _ aI=>?_
 refine Xk c rfl (fun b=>?_) (fun b=>?_)
 ·have aB:=b;have b:=of_decide_eq_true b
  obtain ⟨g,f⟩:=Xi (l:=l) (k:=k) (by omega)
  refine wp_skip<|aI _ _<|wp_seq_k fun _ aJ=>?_;refine wp_block<|Zs c fun _ aK=>?_;refine Zi (k:=k) (u:=g) (enc:=encI) (l:=l) trivial rfl rfl X08 X1j X02 (aE.below' d) f rfl ?_;intro b1 aC;refine Ze (X0 rfl X7 aC)<|Za rfl<|Zt aK fun a c=>?_;refine Zr c<|Zm rfl<|Zm rfl<|Zf (Vc (Xrv _ g (aA _ (List.mem_of_getElem? f)).1 (aA _ (List.mem_of_getElem? f)).2 (aF.of d)) Xhm) ?_;rintro _ w3 ⟨rfl,o⟩;have e:=e.below o;have d:=btr d o;refine Zf (X5 (k:=1) (vs:=[.string (tx (Lib.itoa g))]) (zs:=[.string (tx (Lib.itoa g))]) rfl X51 Xa9 rfl rfl) ?_;rintro _ w4 ⟨b2,rfl,p,o,j⟩;have aY:=Nat.le_trans d.size p;have m:=e.away p;have e:=e.below o;have d:=btr d o;refine Zf (X11 (enc:=encTx) (l:=(q)) (l2:=([tx (Lib.itoa g)])) (B0:=i.heap.size) rfl rfl X51 Xa9 X6p X9o e (Rd.of_blk j rfl _ j.lt) (by simp only [maxLen];simp;omega) (by simp;omega) d.size) ?_;rintro _ w5 ⟨aZ,b0,rfl,aL,hg,aM⟩
  have t:Own _ i.heap.size 9 1 encTx _ _ (q):=e
  have aD:=aM _ j.lt m;clear aM;have d:=Below.app d t hg (Nat.le_refl _) d.size;clear t hg;refine Za rfl ?_;refine Zn fun a c=>?_;refine Xt<|aJ _ _<|Zr c<|Ze (X06 rfl rfl (by omega) (by omega))<|Zm rfl ?_;refine Zn fun a c=>?_;refine Xp ?_;exact ⟨(k+1,(q++[tx (Lib.itoa g)])),⟨aZ,b0,c.sb,(by omega),(Xcl hq f),(by simp;exact aH),aL,d⟩,(by first|omega|(dsimp only;omega))⟩
 have aB:=b;have b:=of_decide_eq_false b
 have x:q=l.map fun n=>tx (Lib.itoa n):=by rw [hq,List.take_of_length_le (by omega)]
 refine wp_exit<|Xl<|Xl<|X0a ?_;refine aU _ _<|Zs c fun _ aN=>?_;refine Zm rfl<|Zm rfl<|Zf (Vc (Xs6 _ A8 c8 q z e.rd.top e.cap (by rw [aH];omega) (by rw [x];exact Xjj aO aP aA)) Xgc) ?_;rintro _ w6 ⟨rfl,o⟩;have d:=btr d o;refine Za rfl<|Zt aN fun a c=>?_
 refine wp_ret (X2 c (Xv c rfl rfl) ?_)
 exact ⟨by rw [x];rfl,d⟩
theorem Xwh(w0:World)(x:Rg)(aB:PowT w0) : Ret Tryz.prog 118 [.agg #[vi x.a,vi x.b,vi x.c,vi x.d]] w0 (fun v w=>v=.tuple #[.string (fmR x),.bool (rOk x)]∧Below w0.heap.size w0 w):=by
 refine enter Tryz.func118 rfl 17 rfl rfl ?_;intro a f
 have g:=bz w0
 refine Zs f fun _ aF=>?_;refine Zf (X0i (zs:=[vi x.a,vi x.b,vi x.c,vi x.d]) rfl rfl) ?_;rintro _ w1 ⟨b2,rfl,aG,j,e⟩;have aM:=Nat.le_trans g.size aG;have g:=btr g j;refine Za rfl<|Za rfl<|ZX aF fun a f _ aH=>?_;refine Zs f fun _ aI=>?_;refine Ze (Vn X0c e)<|Zf (Vc (Xjq _ x) X6u) ?_;rintro _ w2 ⟨rfl,j⟩;have e:=e.below j;have g:=btr g j;refine Ze (X0z rfl)<|Zt aI fun a f=>?_
 refine Xk f rfl (fun i=>?_) (fun i=>?_)
 ·have aC:=i
  have aD:rOk x=false:=by simpa using i
  refine Zs f fun _ aJ=>?_;refine Za rfl<|Za rfl<|Zt aJ fun a f=>?_;refine wp_ret<|X3<|X2 f (X0w f rfl rfl rfl) ?_;exact ⟨by rw [Xte (by simp [aD]),aD];rfl,g⟩
 have aC:=i
 have aA:rOk x=true:=by simpa using i
 refine wp_skip<|aH _ _<|Zs f fun _ aK=>?_;refine Ze (Vd rfl X0j 0)<|Ze (X0 rfl X7 (e.at 0))<|Ze (Vd rfl X0m 1)<|Ze (X0 rfl X7 (e.at 1))<|Ze (Vd rfl X0l 2) ?_;refine Ze (X0 rfl X7 (e.at 2))<|Ze (Vd rfl X0k 3)<|Ze (X0 rfl X7 (e.at 3))<|Zf (X5 (k:=4) (vs:=[vi x.a,vi x.b,vi x.c,vi x.d]) (zs:=[vi x.a,vi x.b,vi x.c,vi x.d]) rfl X08 X1o rfl rfl) ?_;rintro _ w3 ⟨b8,rfl,aL,j,aE⟩;have aN:=Nat.le_trans g.size aL;have g:=btr g j;refine Zf (Vc (Xwr _ (some ⟨b8,0,none⟩) 4 ([x.a,x.b,x.c,x.d]) (Rd.of_blk aE rfl _ aE.lt) (tx [32]) (by simp) (by decide) (Xnj aA) (aB.of g)) Xqp) ?_;rintro _ w4 ⟨rfl,j⟩;have g:=btr g j;refine Za rfl<|Za rfl<|Zt aK fun a f=>?_
 refine wp_ret (X2 f (X0w f rfl rfl rfl) ?_)
 exact ⟨by rw [Xca aA,aA];rfl,g⟩
theorem Xxm(w0:World)(x:Dy)(m:PowT w0) : Ret Tryz.prog 65 [.agg #[vi x.num.a,vi x.num.b,vi x.num.c,vi x.num.d,vi x.exp]] w0 (fun v w=>v=.tuple #[.string (fmD x),.bool (dOk x)]∧Below w0.heap.size w0 w):=by
 refine enter Tryz.func65 rfl 21 rfl rfl ?_;intro a f
 have g:=bz w0
 refine Zs f fun _ aC=>?_;refine Zf (X0i (zs:=[vi x.num.a,vi x.num.b,vi x.num.c,vi x.num.d,vi x.exp]) rfl rfl) ?_;rintro _ w1 ⟨b2,rfl,aD,k,e⟩;have aJ:=Nat.le_trans g.size aD;have g:=btr g k;refine Za rfl<|Za rfl<|ZX aC fun a f _ aE=>?_;refine Zs f fun _ aF=>?_;refine Ze (Vn Xm e)<|Zf (Vc (Xfd _ x) X5i) ?_;rintro _ w2 ⟨rfl,k⟩;have e:=e.below k;have g:=btr g k;refine Ze (X0z rfl)<|Zt aF fun a f=>?_
 refine Xk f rfl (fun j=>?_) (fun j=>?_)
 ·have aA:=j
  have aB:dOk x=false:=by simpa using j
  refine Zs f fun _ aG=>?_;refine Za rfl<|Za rfl<|Zt aG fun a f=>?_;refine wp_ret<|X3<|X2 f (X0w f rfl rfl rfl) ?_;exact ⟨by rw [Xuh (by simp [aB]),aB];rfl,g⟩
 have aA:=j
 have i:dOk x=true:=by simpa using j
 refine wp_skip<|aE _ _<|Zs f fun _ aH=>?_;refine Ze (Vd rfl X1e 0)<|Ze (X07 (l:=[vi x.num.a,vi x.num.b,vi x.num.c,vi x.num.d]) rfl X0c ((e.at 0).take 4) rfl)<|Zf (Vc (Xwh _ x.num (m.of g)) Xrc) ?_;rintro _ w3 ⟨rfl,k⟩;have e:=e.below k;have g:=btr g k;refine Zm rfl<|Ze (X4 (vs:=[.string (fmR x.num),.bool (rOk x.num)]) rfl rfl)<|Ze (X4 (vs:=[.string (fmR x.num),.bool (rOk x.num)]) rfl rfl)<|Za rfl<|Za rfl ?_;refine Zx aH fun a f _ aI=>?_;refine Zm rfl<|Ze (Xnf rfl rfl (Xuo i))<|Ze (Vd rfl X1c 4)<|Ze (X0 rfl X7 (e.at 4))<|Zf (Vc (Xrv _ x.exp (X6m i).1 (X6m i).2 (m.of g)) Xhm) ?_;rintro _ w4 ⟨rfl,k⟩;have g:=btr g k;refine Ze (Xnf rfl rfl (Xv7 i))<|Za rfl<|Za rfl<|Zt aI fun a f=>?_
 refine wp_ret (X2 f (X0w f rfl rfl rfl) ?_)
 exact ⟨by rw [← Xom i,i];rfl,g⟩
theorem Xhr(t:World)(m:Mx)(Am:Option Addr)(cm:Nat)(H:Rd t t.heap.size 95 encD Am m.cells)(aU:m.cells.length≤2305843009213693951)(aE:PowT t) : Ret Tryz.prog 37 [.agg #[vi m.rows,vi m.cols,.slice Am m.cells.length cm]] t (fun v w=>v=.tuple #[.string (keyM m),.bool (canY m)]∧Below t.heap.size t w):=by
 have bC:=Xkz m;refine enter Tryz.func37 rfl 39 rfl rfl ?_;intro a n
 have i:=bz t
 refine Zs n fun _ aW=>?_;refine Zf (X0i (zs:=[vi m.rows,vi m.cols,.slice Am m.cells.length cm]) rfl rfl) ?_;rintro _ w1 ⟨b3,rfl,aX,j,D⟩;have b8:=Nat.le_trans i.size aX;have i:=btr i j;refine Za rfl<|Za rfl<|Zx aW fun a n _ aY=>?_;refine Ze (Vn X0e D)<|Zf (Vc (Xx1 _ m Am cm (H.below' i).top aU) Xqd) ?_;rintro _ w2 ⟨A5,c5,rfl,e,j⟩;have e:=e.lower i.size;have D:=D.below j;have i:=btr i j;refine Zm rfl<|Ze (X4 (vs:=[.agg #[vi ((canM m).rows),vi ((canM m).cols),.slice A5 ((canM m).cells).length c5],vi (canT m),.bool (canY m)]) rfl rfl)<|Ze (X4 (vs:=[.agg #[vi ((canM m).rows),vi ((canM m).cols),.slice A5 ((canM m).cells).length c5],vi (canT m),.bool (canY m)]) rfl rfl)<|Ze (X4 (vs:=[.agg #[vi ((canM m).rows),vi ((canM m).cols),.slice A5 ((canM m).cells).length c5],vi (canT m),.bool (canY m)]) rfl rfl)<|Zf (X8 (zs:=[vi 0,vi 0,.slice none 0 0]) X1n rfl) ?_;rintro _ w3 ⟨b7,rfl,aZ,j,x⟩
 have aT:b3≠b7:=by have:=D.lt;omega
 have aF:=Nat.le_trans i.size aZ;have e:=e.below j;have i:=btr i j;refine Zo (Vw [vi ((canM m).rows),vi ((canM m).cols),.slice A5 ((canM m).cells).length c5] X17 x) ?_;rintro _ w4 ⟨ho,hb⟩;have z:=x;have e:=e.onlyT ho z rfl;have i:=Below.only i ho aF;have x:=hb;refine Za rfl<|Za rfl<|Zx aY fun a n _ b0=>?_;refine Zf (X5 (k:=0) (vs:=[]) (zs:=[]) rfl X51 Xa9 rfl rfl) ?_;rintro _ w5 ⟨b9,rfl,b1,j,b2⟩;have aG:=Nat.le_trans i.size b1;have x:=x.below j;have e:=e.below j;have i:=btr i j;refine Za rfl<|ZX b0 fun a n _ aH=>?_;refine Zs n fun _ aI=>?_;refine Ze (Vd rfl X1g 2)<|Ze (X0 rfl X2a (x.at 2))<|Ze (X0x rfl X1d)<|Zm rfl<|Zt aI fun a n=>?_;refine wp_block<|X0b (σ:=Nat×(List ByteArray)) (fun (s:Nat×(List ByteArray)) (a:Act) (w:World)=>match s with|(k,q)=>∃ E G,Fr a 39 [(6,.bool (canY m)),(7,.slice E q.length G),(20,.slice A5 ((canM m).cells).length c5),(21,vi (((canM m).cells).length:Int)),(22,vi (k:Int))]∧(k≤(canM m).cells.length)∧(q=((canM m).cells.take k).map fmD)∧(q.length=k)∧Own w t.heap.size 9 1 encTx E G q∧Own w t.heap.size 95 5 encD A5 c5 ((canM m).cells)∧Below t.heap.size t w) (fun (s:Nat×(List ByteArray))=>match s with|(k,q)=>(canM m).cells.length-k) (0,[]) ?_ ?_
 ·exact ⟨some ⟨b9,0,none⟩,0,n.sb,(Nat.zero_le _),rfl,rfl,(Own.empty b2 aG),e,i⟩
 rintro ⟨k,q⟩ a w6 ⟨E,G,n,hk,hq,aJ,f,e,i⟩;refine Zs n fun _ aK=>?_;refine Ze (X10 rfl rfl)<|ZX aK fun a n _ aL=>?_
 refine Xk n rfl (fun o=>?_) (fun o=>?_)
 ·have aA:=o;have o:=of_decide_eq_true o
  obtain ⟨g,I⟩:=Xi (l:=((canM m).cells)) (k:=k) (by omega)
  refine wp_skip<|aL _ _<|wp_seq_k fun _ aM=>?_;refine wp_block<|Zs n fun _ aN=>?_;refine Zi (k:=k) (u:=g) (enc:=encD) (l:=(canM m).cells) trivial rfl rfl X1d X01 X19 e.rd I rfl ?_;intro bD aB;refine Ze (X07 (l:=[vi g.num.a,vi g.num.b,vi g.num.c,vi g.num.d,vi g.exp]) rfl Xm aB rfl)<|Zf (X8 (zs:=[vi 0,vi 0,vi 0,vi 0,vi 0]) X1i rfl) ?_;rintro _ w7 ⟨bE,rfl,h,j,p⟩;have aC:=Nat.le_trans i.size h;have aO:=(H.below' i).away h;have A:=e.away h;have f:=f.below j;have e:=e.below j;have i:=btr i j;refine Zo (Vw [vi g.num.a,vi g.num.b,vi g.num.c,vi g.num.d,vi g.exp] X01 p) ?_;rintro _ w8 ⟨ho,hb⟩;have z:=p;have f:=f.onlyT ho z rfl;have e:=e.onlyA ho A;have i:=Below.only i ho aC;have p:=hb;refine Zx aN fun a n _ aP=>?_;refine Ze (Vn Xm p)<|Zf (Vc (Xxm _ g (aE.of i)) Xqq) ?_;rintro _ w9 ⟨rfl,j⟩;have f:=f.below j;have e:=e.below j;have i:=btr i j;refine Zm rfl<|Ze (X4 (vs:=[.string (fmD g),.bool (dOk g)]) rfl rfl)<|Ze (X4 (vs:=[.string (fmD g),.bool (dOk g)]) rfl rfl)<|Za rfl<|Za rfl ?_;refine Zt aP fun a n=>?_;refine Zr n<|Zm rfl<|Zm rfl<|Zf (X5 (k:=1) (vs:=[.string (fmD g)]) (zs:=[.string (fmD g)]) rfl X51 Xa9 rfl rfl) ?_;rintro _ bF ⟨bG,rfl,J,j,B⟩;have b4:=Nat.le_trans i.size J;have y:=f.away J;have f:=f.below j;have e:=e.below j;have i:=btr i j;refine Zf (X11 (enc:=encTx) (l:=(q)) (l2:=([fmD g])) (B0:=t.heap.size) rfl rfl X51 Xa9 X6p X9o f (Rd.of_blk B rfl _ B.lt) (by simp only [maxLen];simp;omega) (by simp;omega) i.size) ?_;rintro _ bH ⟨b5,b6,rfl,aQ,hg,aR⟩
  have C:Own _ t.heap.size 9 1 encTx _ _ (q):=f
  have aD:=aR _ B.lt y;clear aR;have e:=e.appT C hg rfl;have i:=Below.app i C hg (Nat.le_refl _) i.size;clear C hg;refine Za rfl ?_;refine Zn fun a n=>?_;refine Xt<|aM _ _<|Zr n<|Ze (X06 rfl rfl (by omega) (by omega))<|Zm rfl ?_;refine Zn fun a n=>?_;refine Xp ?_;exact ⟨(k+1,(q++[fmD g])),⟨b5,b6,n.sb,(by omega),(Xcl hq I),(by simp;exact aJ),aQ,e,i⟩,(by first|omega|(dsimp only;omega))⟩
 have aA:=o;have o:=of_decide_eq_false o
 have L:q=(canM m).cells.map fmD:=by rw [hq,List.take_of_length_le (by omega)]
 refine wp_exit<|Xl<|Xl<|X0a ?_;refine aH _ _<|Zs n fun _ aS=>?_;refine Zm rfl<|Zf (Vc (Xs6 _ E G q (tx [44]) f.rd.top f.cap (by rw [aJ];omega) (by rw [L];exact Xex m (by omega))) Xgc) ?_;rintro _ bI ⟨rfl,j⟩;have i:=btr i j;refine Zm rfl<|Za rfl<|Za rfl<|Zt aS fun a n=>?_
 refine wp_ret (X2 n (X0w n rfl rfl rfl) ?_)
 exact ⟨by rw [L];rfl,i⟩
theorem Xy4(x:World)(n:Nat)(hn:n=1∨n=2) : Ret Tryz.prog 68 [vi (n:Int)] x (fun v w=>∃ A c,v=.slice A (gsT n).length c∧Own w x.heap.size 115 3 encG A c (gsT n)∧Below x.heap.size x w):=by
 refine enter Tryz.func68 rfl 34 rfl rfl ?_;intro a b
 have e:=bz x
 refine Zs b fun _ aY=>?_;refine Za rfl<|Zx aY fun a b _ aZ=>?_;refine Zf (X5 (k:=0) (vs:=[]) (zs:=[]) rfl Xf Xo rfl rfl) ?_;rintro _ w1 ⟨b4,rfl,b0,h,aA⟩;have aH:=Nat.le_trans e.size b0;have e:=btr e h;refine Za rfl<|ZX aZ fun a b _ b1=>?_;refine Zs b fun _ b2=>?_;refine Zf (X5 (k:=3) (vs:=[vi 1,vi 5,vi 7]) (zs:=[vi 1,vi 5,vi 7]) rfl X08 X1o rfl rfl) ?_;rintro _ w2 ⟨b8,rfl,b3,h,f⟩;have bI:=Nat.le_trans e.size b3;have aA:=aA.below h;have e:=btr e h;refine Ze (X0x rfl X08)<|Zm rfl<|Zt b2 fun a b=>?_;refine wp_block<|X0b (σ:=Nat×(List Gt)) (fun (s:Nat×(List Gt)) (a:Act) (w:World)=>match s with|(i,q)=>∃ B C,Fr a 34 [(0,vi (n:Int)),(3,.slice B q.length C),(8,.slice (some ⟨b8,0,none⟩) ([1,5,7]).length 3),(9,vi (([1,5,7]).length:Int)),(10,vi (i:Int))]∧(i≤3)∧(q=tgL n i 0)∧Blk w b8 3 [vi 1,vi 5,vi 7]∧Own w x.heap.size 115 3 encG B C q∧Below x.heap.size x w) (fun (s:Nat×(List Gt))=>match s with|(i,q)=>3-i) (0,[]) ?_ ?_
 ·exact ⟨some ⟨b4,0,none⟩,0,b.sb,(by omega),rfl,f,(Own.empty aA aH),e⟩
 rintro ⟨i,q⟩ a w3 ⟨B,C,b,hi,hq,f,g,e⟩;refine Zs b fun _ aI=>?_;refine Ze (X10 rfl rfl)<|ZX aI fun a b _ aJ=>?_
 refine Xk b rfl (fun d=>?_) (fun d=>?_)
 ·have aB:=d;have d:=of_decide_eq_true d
  obtain ⟨bK,bJ⟩:=Xi (l:=([1,5,7])) (k:=i) (by omega)
  obtain ⟨M,aK⟩:=Xi (l:=([1,5,7] : List Int)) (k:=i) (by have h9:=d;simp at h9;simp;omega)
  have bL:i<3:=by have h9:=d;simp at h9;omega
  refine wp_skip<|aJ _ _<|wp_seq_k fun _ aL=>?_;refine wp_block<|Zs b fun _ aM=>?_;refine Zi (k:=i) (u:=M) (enc:=encI) (l:=[1,5,7]) trivial rfl rfl X08 X1j X02 (Rd.of_blk f rfl _ f.lt) aK rfl ?_;intro bM aC;refine Ze (X0 rfl X7 aC)<|Za rfl<|Zx aM fun a b _ aN=>?_;refine Zm rfl<|Zm rfl<|Zt aN fun a b=>?_;refine wp_block<|X0b (σ:=Nat×(List Gt)) (fun (s:Nat×(List Gt)) (a:Act) (w:World)=>match s with|(j,H)=>∃ I J,Fr a 34 [(0,vi (n:Int)),(3,.slice I H.length J),(5,vi M),(8,.slice (some ⟨b8,0,none⟩) ([1,5,7]).length 3),(9,vi (([1,5,7]).length:Int)),(10,vi (i:Int)),(14,vi (n:Int)),(15,vi (j:Int))]∧(j≤n)∧(H=tgL n i j)∧Blk w b8 3 [vi 1,vi 5,vi 7]∧Own w x.heap.size 115 3 encG I J H∧Below x.heap.size x w) (fun (s:Nat×(List Gt))=>match s with|(j,H)=>n-j) (0,q) ?_ ?_
  ·exact ⟨B,C,b.sb,(Nat.zero_le _),hq,f,g,e⟩
  rintro ⟨j,H⟩ a w4 ⟨I,J,b,hj,L,f,o,e⟩;refine Zs b fun _ aO=>?_;refine Ze (X10 rfl rfl)<|ZX aO fun a b _ aP=>?_
  refine Xk b rfl (fun m=>?_) (fun m=>?_)
  ·have aD:=m;have m:=of_decide_eq_true m;refine wp_skip<|aP _ _<|wp_seq_k fun _ aQ=>?_;refine wp_block<|Zs b fun _ aR=>?_;refine Zm rfl<|Za rfl<|Zt aR fun a b=>?_;refine Zr b<|Zm rfl<|Zm rfl<|Zm rfl<|Ze (Xg (ps:=[(0,vi M),(1,vi (j:Int))]) (cs:=[vi M,vi (j:Int),vi 0]) rfl (fun _=>by first|rfl|kernel_rfl))<|Zf (X5 (k:=1) (vs:=[.agg #[vi M,vi (j:Int),vi 0]]) (zs:=[vi M,vi (j:Int),vi 0]) rfl Xf Xo rfl rfl) ?_;rintro _ w5 ⟨bN,rfl,N,h,D⟩;have b5:=Nat.le_trans e.size N;have y:=o.away N;have f:=f.below h;have o:=o.below h;have e:=btr e h;refine Zf (X11 (enc:=encG) (l:=(H)) (l2:=([(⟨M,(j:Int),0⟩ : Gt)])) (B0:=x.heap.size) rfl rfl Xf Xo Xb X0d o (Rd.of_blk D rfl _ D.lt) (by rw [L];have:=Xhu n i j;simp only [maxLen];simp;omega) (by rw [L];have:=Xhu n i j;simp;omega) e.size) ?_;rintro _ w6 ⟨b6,b7,rfl,aS,hg,E⟩
   have p:Own _ x.heap.size 115 3 encG _ _ (H):=o
   have aF:=E _ D.lt y;clear E;have f:=f.appT p hg rfl;have e:=Below.app e p hg (Nat.le_refl _) e.size;clear p hg;refine Za rfl ?_;refine Zn fun a b=>?_;refine Xt<|aQ _ _<|Zr b<|Ze (X06 rfl rfl (by omega) (by omega))<|Zm rfl ?_;refine Zn fun a b=>?_;refine Xp ?_;exact ⟨(j+1,(H++[⟨M,(j:Int),0⟩])),⟨b6,b7,b.sb,(by omega),(by rw [L];exact Xkb n aK),f,aS,e⟩,(by first|omega|(dsimp only;omega))⟩
  have aD:=m;have m:=of_decide_eq_false m
  have b9:j=n:=by omega
  refine wp_exit<|Xl<|Xl<|X0a ?_;refine Xt<|aL _ _<|Zr b<|Ze (X06 rfl rfl (by omega) (by omega))<|Zm rfl ?_;refine Zn fun a b=>?_;refine Xp ?_;exact ⟨(i+1,H),⟨I,J,b.sb,(by omega),(by rw [L,b9];exact Xp7 n (by omega)),f,o,e⟩,(by first|omega|(dsimp only;omega))⟩
 have aB:=d;have d:=of_decide_eq_false d
 have bC:i=3:=by have h9:=d;simp at h9;omega
 subst bC
 refine wp_exit<|Xl<|Xl<|X0a ?_;refine b1 _ _<|wp_seq_k fun _ Q=>?_;refine Zs b fun _ aT=>?_;refine Zm rfl<|Ze (X13 rfl rfl)<|Zt aT fun a b=>?_
 refine Xk b rfl (fun t=>?_) (fun t=>?_)
 ·have aE:=t
  have bD:n=2:=by have h9:(n:Int)=2:=(by simpa using t);omega
  subst bD
  refine Zr b<|Zm rfl<|Ze (Xg (ps:=[(0,vi 9),(1,vi 0),(2,vi 1)]) (cs:=[vi 9,vi 0,vi 1]) rfl (fun _=>by first|rfl|kernel_rfl))<|Ze (Xg (ps:=[(0,vi 9),(1,vi 1),(2,vi 0)]) (cs:=[vi 9,vi 1,vi 0]) rfl (fun _=>by first|rfl|kernel_rfl))<|Zf (X5 (k:=2) (vs:=[.agg #[vi 9,vi 0,vi 1],.agg #[vi 9,vi 1,vi 0]]) (zs:=[vi 9,vi 0,vi 1,vi 9,vi 1,vi 0]) rfl Xf Xo rfl rfl) ?_;rintro _ w7 ⟨bO,rfl,U,h,G⟩;have bE:=Nat.le_trans e.size U;have z:=g.away U;have g:=g.below h;have e:=btr e h;refine Zf (X11 (enc:=encG) (l:=(q)) (l2:=([(⟨9,0,1⟩ : Gt),(⟨9,1,0⟩ : Gt)])) (B0:=x.heap.size) rfl rfl Xf Xo Xb X0d g (Rd.of_blk G rfl _ G.lt) (by rw [hq];simp only [maxLen];decide) (by rw [hq];decide) e.size) ?_;rintro _ w8 ⟨bF,bG,rfl,aU,hg,E⟩
  have p:Own _ x.heap.size 115 3 encG _ _ (q):=g
  have aG:=E _ G.lt z;clear E;have e:=Below.app e p hg (Nat.le_refl _) e.size;clear p hg;refine Za rfl<|Zx Q fun a b _ aW=>?_;refine Zm rfl<|Za rfl<|Zt aW fun a b=>?_
  refine wp_ret (X2 b (Xv b rfl rfl) ?_)
  subst hq
  exact ⟨bF,bG,rfl,aU,e⟩
 have aE:=t
 have bH:n=1:=by have h9:¬ (n:Int)=2:=(by simpa using t);omega
 subst bH
 refine wp_skip<|Q _ _<|Zs b fun _ aX=>?_;refine Zm rfl<|Za rfl<|Zt aX fun a b=>?_
 refine wp_ret (X2 b (Xv b rfl rfl) ?_)
 subst hq
 exact ⟨B,C,rfl,g,e⟩
abbrev kyX(n:Nat) : List Gt→ByteArray:=fun w=>kyT (kyW n w)
theorem X52{m:Mx}(h:mOk m=true) : m.cells.length≤2305843009213693951:=by
 have hl:=X2n h;have h1:=hl.2.2
 have:m.rows.toNat*m.cols.toNat≤32*32:=Nat.mul_le_mul (by omega) (by omega)
 first|omega|(rw [h1];omega)
theorem Xgm{n:Nat}(hn:n=1∨n=2){k:Nat}(hk:k≤8){w:List Gt}(hw:w ∈ wds (gsT n) k) : keyM (valW n w)=kyX n w∧canY (valW n w)=true:=by
 obtain ⟨h1,_,_,h4⟩:=X22 hn hk hw
 refine ⟨Xhs h1,?_⟩
 unfold canY;rw [h1]
 cases e:canL (valW n w).cells with
 | none=>exact absurd e h4
 | some x=>rfl
theorem Xma(n:Nat)(A:Option Addr)(c:Nat){s:ByteArray}(hs:s=kyX n []) : sgL (updG (fun _=>none) s ⟨A,c,[]⟩)=(tbW n 0).1:=by
 subst hs
 funext q
 rw [Xhw];rfl
theorem X7x(n:Nat) : (gsT n).length≤8:=by unfold gsT;split<;>decide
theorem Xi9{G:Type}(gs:List G)(lev:List (List G))(i j:Nat) : (rndW gs lev i j).length≤i*gs.length+j:=by
 unfold rndW
 have h:∀ l:List (List G),(l.flatMap fun u=>gs.map fun g=>u++[g]).length=l.length*gs.length:=by
  intro l;induction l with
  | nil=>simp
  | cons x l ih=>rw [List.flatMap_cons,List.length_append,ih,List.length_cons,Nat.add_mul,List.length_map];omega
 rw [List.length_append,h,List.length_map,List.length_take,List.length_take]
 have:min i lev.length*gs.length≤i*gs.length:=Nat.mul_le_mul_right _ (Nat.min_le_left ..)
 omega
theorem X7u{G K:Type}[DecidableEq K](ky:List G→K) : ∀ (l:List (List G)) (T:K→Option (List G)),(enT ky T l).2.length≤l.length
 | [],_=>by simp [enT]
 | w::l,T=>by
  simp only [enT]
  cases T (ky w) with
  | some x=>have:=X7u ky l T;simp only [List.length_cons];omega
  | none=>have:=X7u ky l (fun q=>if q=ky w then some w else T q);simp only [List.length_cons];omega
def StW(n r i j:Nat)(F:ByteArray→Option Sq)(N:List Tw) : Prop:=(sgL F,N.map Tw.w)=enT (kyX n) (tbW n r).1 (rndW (gsT n) (tbW n r).2 i j)
theorem Xqm{n r:Nat}{F:ByteArray→Option Sq}(h:sgL F=(tbW n r).1) : StW n r 0 0 F []:=by
 unfold StW;rw [Xju,h];rfl
theorem Xno{n r i j:Nat}{F:ByteArray→Option Sq}{N L:List Tw}{u:Gt}{t:Tw}(h:StW n r i j F N)(hL:L.map Tw.w=(tbW n r).2)(ht:L[i]? = some t)(hu:(gsT n)[j]? = some u){s:ByteArray}(hs:s=kyX n (t.w++[u]))(hk:(sgL F s).isSome=true) : StW n r i (j+1) F N:=by
 unfold StW at *
 have e:(tbW n r).2.getD i []=t.w:=by rw [← hL,List.getD_eq_getElem?_getD,List.getElem?_map,ht];rfl
 have h1:=congrArg Prod.fst h;have h2:=congrArg Prod.snd h
 simp only at h1 h2
 rw [Xaj hu,e,X7r,← h1,Xik (by rw [← hs];exact hk),← h2,List.append_nil]
theorem Xum{n r i j:Nat}{F:ByteArray→Option Sq}{N L:List Tw}{u:Gt}{t x:Tw}{sq:Sq}(h:StW n r i j F N)(hL:L.map Tw.w=(tbW n r).2)(ht:L[i]? = some t)(hu:(gsT n)[j]? = some u){s:ByteArray}(hs:s=kyX n (t.w++[u]))(hk:(sgL F s).isSome=false)(hx:x.w=t.w++[u])(hq:sq.w=t.w++[u]) : StW n r i (j+1) (updG F s sq) (N++[x]):=by
 unfold StW at *
 have e:(tbW n r).2.getD i []=t.w:=by rw [← hL,List.getD_eq_getElem?_getD,List.getElem?_map,ht];rfl
 have h1:=congrArg Prod.fst h;have h2:=congrArg Prod.snd h
 simp only at h1 h2
 have hk2:sgL F (kyX n (t.w++[u]))=none:=by rw [← hs];simpa using hk
 rw [Xaj hu,e,X7r,← h1,Xrj hk2,← h2,Xhw,hq,List.map_append,hs]
 simp [hx]
theorem Xrb{n r i:Nat}{F:ByteArray→Option Sq}{N:List Tw}(h:StW n r i (gsT n).length F N)(hi:i<(tbW n r).2.length) : StW n r (i+1) 0 F N:=by
 unfold StW at *;rw [Xj6 hi,h]
theorem Xd0{n r:Nat}{F:ByteArray→Option Sq}{N:List Tw}(h:StW n r (tbW n r).2.length 0 F N) : sgL F=(tbW n (r+1)).1∧N.map Tw.w=(tbW n (r+1)).2:=by
 unfold StW at h
 rw [Xe2] at h
 have e:tbW n (r+1)=enT (kyX n) (tbW n r).1 ((tbW n r).2.flatMap fun u=>(gsT n).map fun g=>u++[g]):=rfl
 rw [e,← h];exact ⟨rfl,rfl⟩
theorem Xst{n r i j:Nat}{F:ByteArray→Option Sq}{N:List Tw}(h:StW n r i j F N) : N.length≤i*8+j:=by
 unfold StW at h
 have h2:=congrArg Prod.snd h
 simp only at h2
 have h3:=congrArg List.length h2
 rw [List.length_map] at h3
 have:=X7u (kyX n) (rndW (gsT n) (tbW n r).2 i j) (tbW n r).1
 have:=Xi9 (gsT n) (tbW n r).2 i j
 have:=Nat.mul_le_mul_left i (X7x n)
 omega
theorem Xk2(n:Nat) : ∀ r,(tbW n r).2.length≤8^r
 | 0=>by simp [tbW,grT]
 | r+1=>by
  have e:tbW n (r+1)=enT (kyX n) (tbW n r).1 ((tbW n r).2.flatMap fun u=>(gsT n).map fun g=>u++[g]):=rfl
  have h1:=X7u (kyX n) ((tbW n r).2.flatMap fun u=>(gsT n).map fun g=>u++[g]) (tbW n r).1
  have h2:=Xi9 (gsT n) (tbW n r).2 (tbW n r).2.length 0
  rw [Xe2] at h2
  rw [e]
  have h3:=Nat.mul_le_mul (Xk2 n r) (X7x n)
  rw [Nat.pow_succ];omega
theorem Xqi{n r:Nat}(hr:r≤8) : (tbW n r).2.length≤16777216:=by
 have:=Xk2 n r
 have h2:8^r≤8^8:=Nat.pow_le_pow_right (by decide) hr
 have h3:(8:Nat)^8=16777216:=by decide
 omega
theorem Xfo{n r:Nat}{L:List Tw}(h:L.map Tw.w=(tbW n r).2) : L.length=(tbW n r).2.length:=by rw [← h,List.length_map]
theorem Xtb{n r i:Nat}{L:List Tw}{t:Tw}(h:L.map Tw.w=(tbW n r).2)(ht:L[i]? = some t) : t.w ∈ wds (gsT n) r:=by
 apply Xq5 r
 rw [← h];exact List.mem_map.2 ⟨t,List.mem_of_getElem? ht,rfl⟩
theorem Xpv{n r i j:Nat}(hn:n=1∨n=2)(hr:r<8){L:List Tw}{t:Tw}{u:Gt}(hL:L.map Tw.w=(tbW n r).2)(hv:∀ t ∈ L,t.m=valW n t.w)(ht:L[i]? = some t)(hu:(gsT n)[j]? = some u) :
  gateI (n:Int) u=some (gateS n u)∧mulI (gateS n u) t.m=some (valW n (t.w++[u]))∧keyM (valW n (t.w++[u]))=kyX n (t.w++[u])∧canY (valW n (t.w++[u]))=true∧(gateS n u).cells.length≤2305843009213693951∧t.m.cells.length≤2305843009213693951∧(valW n (t.w++[u])).cells.length≤2305843009213693951∧t.w.length≤8:=by
 have hm:=List.mem_of_getElem? hu;have hw:=Xtb hL ht;have hg:=X2q (X5k hn u hm).1
 have e:=hv t (List.mem_of_getElem? ht)
 have hs:=X2u hw hm
 obtain ⟨k1,k2⟩:=Xgm hn (by omega:r+1≤8) hs
 refine ⟨hg.1,?_,k1,k2,X52 hg.2,?_,X52 (X22 hn (by omega:r+1≤8) hs).1,?_⟩
 ·rw [e];exact X9r hn hr hw hm
 ·rw [e];exact X52 (X22 hn (by omega:r≤8) hw).1
 ·have:=X82 _ _ _ hw;omega
theorem Xoz{n:Nat}{N:List Tw}{x:Tw}(h:∀ t ∈ N,t.m=valW n t.w)(hx:x.m=valW n x.w) : ∀ t ∈ N++[x],t.m=valW n t.w:=fun t ht=>by
 rcases List.mem_append.1 ht with ht|ht
 ·exact h t ht
 ·rw [List.mem_singleton.1 ht];exact hx
theorem X5b(w0:World)(Al:Option Addr)(cl:Nat)(l:List Gt)(d:Rd w0 w0.heap.size 115 encG Al l)(aM:l.length≤100000000) : Ret Tryz.prog 71 [.slice Al l.length cl] w0 (fun v w=>∃ A c,v=.slice A l.length c∧Own w w0.heap.size 115 3 encG A c l∧Below w0.heap.size w0 w):=by
 refine enter Tryz.func71 rfl 8 rfl rfl ?_;intro a b
 have f:=bz w0
 refine Zs b fun _ aG=>?_;refine Za rfl<|ZX aG fun a b _ aH=>?_;refine Zs b fun _ aI=>?_;refine Zm rfl<|Ze (Xjg rfl rfl Xf)<|Zt aI fun a b=>?_
 refine Xk b rfl (fun g=>?_) (fun g=>?_)
 ·have aB:=g
  have aC:l=[]:=Rd.nil_of d g
  refine Zs b fun _ aJ=>?_;refine Za rfl<|Zt aJ fun a b=>?_;refine wp_ret<|X3<|X2 b (Xv b rfl rfl) ?_
  subst aC
  exact ⟨none,0,rfl,Own.nil _ _ _ _ _,f⟩
 have aB:=g;refine wp_skip<|aH _ _<|Zs b fun _ aD=>?_;refine Zf (X5 (k:=0) (vs:=[]) (zs:=[]) rfl Xf Xo rfl rfl) ?_;rintro _ w1 ⟨aN,rfl,i,hE,aE⟩;have aA:=Nat.le_trans f.size i;have aF:=(d.below' f).away i;have f:=btr f hE;refine Zm rfl<|Zf (Xkd (enc:=encG) (l2:=(l)) rfl rfl Xf Xo Xb X0d aE (d.below' f) (by simp only [maxLen];omega) (by omega)) ?_;rintro _ w2 ⟨aK,aL,rfl,e,hE⟩;have e:=e.lower aA;have f:=btr f hE;refine Za rfl<|Zt aD fun a b=>?_
 refine wp_ret (X2 b (Xv b rfl rfl) ?_)
 exact ⟨aK,aL,rfl,e,f⟩
theorem Xrm(w0:World)(n:Nat)(k:Nat)(hn:n=1∨n=2)(hk:k≤8)(kY:PowT w0) : Ret Tryz.prog 38 [vi (n:Int),vi (k:Int)] w0 (fun v w=>∃ b F A c zs,v=.agg #[.map (some b),.slice A zs.length c]∧MapS w b (sgF F)∧DeepM w w.heap.size 115 F∧sgL F=(tbW n k).1∧Own w w0.heap.size 3 1 encI A c zs∧w0.heap.size≤b∧Below w0.heap.size w0 w):=by
 have nH:([] : List Gt) ∈ wds (gsT n) 0:=List.mem_singleton.2 rfl
 have pD:=X22 hn (by omega:0≤8) nH
 have nI:idI ((2^n:Nat) : Int)=some (valW n []):=by rw [X6a n hn];exact (X2w (d:=2^n) (X1y (n:=(n:Int)) (by omega))).1
 have q6:=X7x n
 obtain ⟨pE,q7⟩:=Xgm hn (by omega:0≤8) nH
 refine enter Tryz.func38 rfl 125 rfl rfl ?_;intro a J
 have C:=bz w0
 refine Zs J fun _ pF=>?_;refine Zf (X8 (zs:=[.map none,.slice none 0 0]) Xnz rfl) ?_;rintro _ w1 ⟨b3,rfl,pG,o,M⟩;have nJ:=Nat.le_trans C.size pG;have C:=btr C o;refine Zx pF fun a J _ pH=>?_;refine Zm rfl<|Ze (Xaq (m:=n) (D:=(2^n:Nat)) rfl rfl rfl ⟨rfl,by omega⟩)<|Zf (X1x (vs:=[vi ((2^n:Nat) : Int)]) rfl Xmk (by have hq:=Xwz w1 ((2^n:Nat) : Int);rw [nI,Option.getD_some,Option.isSome_some] at hq;exact hq)) ?_;rintro _ w2 ⟨A5,c5,rfl,b5,o⟩;have b5:=b5.lower C.size;have M:=M.below o;have C:=btr C o;refine Zm rfl<|Ze (X4 (vs:=[.agg #[vi ((valW n []).rows),vi ((valW n []).cols),.slice A5 ((valW n []).cells).length c5],.bool true]) rfl rfl)<|Ze (X4 (vs:=[.agg #[vi ((valW n []).rows),vi ((valW n []).cols),.slice A5 ((valW n []).cells).length c5],.bool true]) rfl rfl)<|Zf (X8 (zs:=[vi 0,vi 0,.slice none 0 0]) X1n rfl) ?_;rintro _ w3 ⟨b7,rfl,pI,o,bG⟩;have nK:=Nat.le_trans C.size pI;have M:=M.below o;have b5:=b5.below o;have C:=btr C o;refine Zo (Vw [vi ((valW n []).rows),vi ((valW n []).cols),.slice A5 ((valW n []).cells).length c5] X17 bG) ?_;rintro _ w4 ⟨ho,hb⟩;have E:=bG;have M:=M.only ho (Blk.ne M E rfl);have b5:=b5.onlyT ho E rfl;have C:=Below.only C ho nK;have bG:=hb;refine Za rfl<|Zx pH fun a J _ pJ=>?_;refine Ze (Vn X0e bG)<|Zf (Vc (Xhr _ (valW n []) A5 c5 b5.rd.top (X52 pD.1) (kY.of C)) X80) ?_;rintro _ w5 ⟨rfl,o⟩;have M:=M.below o;have bG:=bG.below o;have b5:=b5.below o;have C:=btr C o;refine Zm rfl<|Ze (X4 (vs:=[.string (keyM (valW n [])),.bool (canY (valW n []))]) rfl rfl)<|Ze (X4 (vs:=[.string (keyM (valW n [])),.bool (canY (valW n []))]) rfl rfl)<|Za rfl<|Za rfl ?_
 refine Zx pJ fun a J _ pK=>?_;refine Zf (Xtz) ?_;rintro _ w6 ⟨cA,rfl,nL,o,q⟩;have eJ:=Nat.le_trans C.size nL;have M:=M.below o;have bG:=bG.below o;have b5:=b5.below o;have C:=btr C o
 replace q:MapS w6 cA (sgF (fun _=>none)):=q
 have Q:=DeepM.none w6 w6.heap.size 115;refine Zm rfl<|Zf (X5 (k:=0) (vs:=[]) (zs:=[]) rfl Xf Xo rfl rfl) ?_;rintro _ w7 ⟨jB,rfl,nM,o,pY⟩;have pL:=Nat.le_trans C.size nM;have M:=M.below o;have bG:=bG.below o;have q:=q.below o;have b5:=b5.below o;have Q:=Q.below o;have C:=btr C o;refine Zo (Xxe (f:=sgF (fun _=>none)) (s:=keyM (valW n [])) rfl rfl rfl Tryz.underlying71 Tryz.underlying9 q rfl) ?_;rintro _ w8 ⟨ho,cR⟩;have iN:=DeepM.upd (s:=keyM (valW n [])) (x:=(⟨some ⟨jB,0,none⟩,0,([] : List Gt)⟩ : Sq)) Q.top (Rd.nil _ _ _ _ _)
 clear Q;have Q:=iN;clear iN;have bD:=q.nc;have M:=M.onlyN ho bD;have bG:=bG.onlyN ho bD;have b5:=b5.onlyN ho bD;have Q:=Q.onlyN ho bD;have C:=Below.only C ho eJ
 rw [show Value.slice (some ⟨jB,0,none⟩) 0 0=Sq.v (⟨some ⟨jB,0,none⟩,0,([] : List Gt)⟩ : Sq) from rfl,Xh7] at cR
 have q:=cR;clear cR ho bD;refine Zm rfl<|Zf (X5 (k:=1) (vs:=[vi 1]) (zs:=[vi 1]) rfl X08 X1o rfl rfl) ?_;rintro _ w9 ⟨jC,rfl,nN,o,cO⟩;have lN:=Nat.le_trans C.size nN;have M:=M.below o;have bG:=bG.below o;have q:=q.below o;have b5:=b5.below o;have Q:=Q.below o;have C:=btr C o;refine Ze (Xg (ps:=[(0,.map (some cA)),(1,.slice (some ⟨jC,0,none⟩) ([1]).length 1)]) (cs:=[.map (some cA),.slice (some ⟨jC,0,none⟩) ([1]).length 1]) rfl (fun _=>by first|rfl|kernel_rfl))<|Zf (X8 (zs:=[.map none,.slice none 0 0]) Xnz rfl) ?_;rintro _ q8 ⟨b17,rfl,nO,o,I⟩
 have nP:b3≠b17:=by have:=M.lt;omega
 have iO:=Nat.le_trans C.size nO;have M:=M.below o;have bG:=bG.below o;have q:=q.below o;have cO:=cO.below o;have b5:=b5.below o;have Q:=Q.below o;have C:=btr C o;refine Zo (Vw [.map (some cA),.slice (some ⟨jC,0,none⟩) ([1]).length 1] X7m I) ?_;rintro _ q9 ⟨ho,hb⟩;have E:=I;have M:=M.only ho (by omega);have bG:=bG.only ho (Blk.ne bG E rfl);have q:=q.only ho (q.ne E);have cO:=cO.only ho (Blk.ne cO E rfl);have b5:=b5.onlyT ho E rfl;have Q:=Q.onlyT ho E rfl;have C:=Below.only C ho iO;have I:=hb;refine Zx pK fun a J _ nQ=>?_;refine Ze (Vn X0e bG)<|Ze (Xg (ps:=[(1,.agg #[vi ((valW n []).rows),vi ((valW n []).cols),.slice A5 ((valW n []).cells).length c5])]) (cs:=[.slice none 0 0,vi ((valW n []).rows),vi ((valW n []).cols),.slice A5 ((valW n []).cells).length c5]) rfl (fun _=>by first|rfl|kernel_rfl))<|Zf (X5 (k:=1) (vs:=[.agg #[.slice none 0 0,vi ((valW n []).rows),vi ((valW n []).cols),.slice A5 ((valW n []).cells).length c5]]) (zs:=[.slice none 0 0,vi ((valW n []).rows),vi ((valW n []).cols),.slice A5 ((valW n []).cells).length c5]) rfl X3q X6i rfl rfl) ?_;rintro _ qC ⟨pM,rfl,nR,o,nS⟩;have lO:=Nat.le_trans C.size nR;have M:=M.below o;have q:=q.below o;have cO:=cO.below o;have I:=I.below o;have b5:=b5.below o;have Q:=Q.below o;have C:=btr C o;refine Za rfl<|ZX nQ fun a J _ nT=>?_;refine Zs J fun _ nU=>?_;refine Zm rfl<|Zm rfl<|Zt nU fun a J=>?_;refine wp_block<|X0b (σ:=Nat×(List Tw)×(ByteArray→Option Sq)×(List Int)) (fun (s:Nat×(List Tw)×(ByteArray→Option Sq)×(List Int)) (a:Act) (w:World)=>match s with|(r,L,Fg,zs)=>∃ b0 b8 dG dH,Fr a 125 [(0,vi (n:Int)),(4,.pointer (some ⟨b3,0,none⟩)),(9,.pointer (some ⟨b17,0,none⟩)),(10,.slice b0 L.length b8),(45,vi (k:Int)),(46,vi (r:Int))]∧(r≤k)∧(L.map Tw.w=(tbW n r).2)∧(sgL Fg=(tbW n r).1)∧(∀ t ∈ L,t.m=valW n t.w)∧(zs.length=r+1)∧Blk w b3 73 [.map none,.slice none 0 0]∧MapS w cA (sgF Fg)∧Blk w b17 73 [.map (some cA),.slice dG zs.length dH]∧Own w w0.heap.size 111 4 encTw b0 b8 L∧Own w w0.heap.size 3 1 encI dG dH zs∧DeepT w w.heap.size 115 95 L∧DeepM w (w.heap.size) 115 Fg∧Below w0.heap.size w0 w) (fun (s:Nat×(List Tw)×(ByteArray→Option Sq)×(List Int))=>match s with|(r,L,Fg,zs)=>k-r) (0,[(⟨none,0,([] : List Gt),(valW n []),A5,c5⟩ : Tw)],(updG (fun _=>none) (keyM (valW n [])) (⟨some ⟨jB,0,none⟩,0,([] : List Gt)⟩ : Sq)),[1]) ?_ ?_
 ·exact ⟨some ⟨pM,0,none⟩,1,some ⟨jC,0,none⟩,1,J.sb,(Nat.zero_le _),rfl,(Xma n _ _ pE),(fun t9 lP=>by rw [List.mem_singleton.1 lP]),rfl,M,q,I,(Own.of_blkL X6s nS lO rfl rfl (by decide)),(Own.of_blkL X02 cO lN rfl rfl (by decide)),(DeepT.one (Rd.nil _ _ _ _ _) b5.rd.top),Q.top,C⟩
 rintro ⟨r,L,Fg,zs⟩ a qD ⟨b0,b8,dG,dH,J,hr,hL,hF,hv,qE,M,q,I,U,N,aI,Q,C⟩
 have qF:L.length≤16777216:=by rw [Xfo hL];exact Xqi (by omega)
 refine Zs J fun _ nV=>?_;refine Ze (X10 rfl rfl)<|ZX nV fun a J _ nX=>?_
 refine Xk J rfl (fun cS=>?_) (fun cS=>?_)
 ·have lQ:=cS;have cS:=of_decide_eq_true cS;refine wp_skip<|nX _ _<|wp_seq_k fun _ nY=>?_;refine wp_block<|Zs J fun _ nZ=>?_;refine Zf (X5 (k:=0) (vs:=[]) (zs:=[]) rfl X3q X6i rfl rfl) ?_;rintro _ qG ⟨pN,rfl,kZ,o,o0⟩;have lR:=Nat.le_trans C.size kZ;have iA:=U.away kZ;have M:=M.below o;have q:=q.below o;have I:=I.below o;have U:=U.below o;have N:=N.below o;have aI:=aI.below o;have Q:=Q.below o;have C:=btr C o;refine Za rfl<|ZX nZ fun a J _ o3=>?_;refine Zs J fun _ o4=>?_;refine Zm rfl<|Ze (X0x rfl X3q)<|Zm rfl<|Zt o4 fun a J=>?_;refine wp_block<|X0b (σ:=Nat×(List Tw)×(ByteArray→Option Sq)) (fun (s:Nat×(List Tw)×(ByteArray→Option Sq)) (a:Act) (w:World)=>match s with|(i,N2,Fj)=>∃ iB iP,Fr a 125 [(0,vi (n:Int)),(4,.pointer (some ⟨b3,0,none⟩)),(9,.pointer (some ⟨b17,0,none⟩)),(11,.slice iB N2.length iP),(45,vi (k:Int)),(46,vi (r:Int)),(49,.slice b0 L.length b8),(50,vi (L.length:Int)),(51,vi (i:Int))]∧(i≤L.length)∧(StW n r i 0 Fj N2)∧(∀ t ∈ N2,t.m=valW n t.w)∧Blk w b3 73 [.map none,.slice none 0 0]∧MapS w cA (sgF Fj)∧Blk w b17 73 [.map (some cA),.slice dG zs.length dH]∧Own w w0.heap.size 111 4 encTw iB iP N2∧Own w w0.heap.size 111 4 encTw b0 b8 L∧Own w w0.heap.size 3 1 encI dG dH zs∧DeepT w w.heap.size 115 95 N2∧DeepT w w.heap.size 115 95 L∧DeepM w (w.heap.size) 115 Fj∧Apart b0 iB∧Below w0.heap.size w0 w) (fun (s:Nat×(List Tw)×(ByteArray→Option Sq))=>match s with|(i,N2,Fj)=>L.length-i) (0,[],Fg) ?_ ?_
  ·exact ⟨some ⟨pN,0,none⟩,0,J.sb,(Nat.zero_le _),(Xqm hF),(fun t9 lP=>by cases lP),M,q,I,(Own.empty o0 lR),U,N,(DeepT.nil _ _ _ _),aI.top,Q.top,(Apart.of_away iA),C⟩
  rintro ⟨i,N2,Fj⟩ a qH ⟨iB,iP,J,hi,o5,l3,M,q,I,b9,U,N,bE,aI,Q,iC,C⟩;refine Zs J fun _ o6=>?_;refine Ze (X10 rfl rfl)<|ZX o6 fun a J _ o7=>?_
  refine Xk J rfl (fun cT=>?_) (fun cT=>?_)
  ·have lS:=cT;have cT:=of_decide_eq_true cT
   obtain ⟨e,dI⟩:=Xi (l:=L) (k:=i) (by omega)
   skip
   refine wp_skip<|o7 _ _<|wp_seq_k fun _ o8=>?_;refine wp_block<|Zs J fun _ o9=>?_;refine Zi (k:=i) (u:=e) (enc:=encTw) (l:=L) trivial rfl rfl X3q Xbn X6s U.rd dI rfl ?_;intro qI lT;have y:=(aI e (List.mem_of_getElem? dI)).1;have aD:=(aI e (List.mem_of_getElem? dI)).2;refine Ze (X07 (l:=[.slice e.A e.w.length e.c,vi e.m.rows,vi e.m.cols,.slice e.B e.m.cells.length e.d]) rfl Xgu lT rfl)<|Zf (X8 (zs:=[.slice none 0 0,vi 0,vi 0,.slice none 0 0]) X37 rfl) ?_;rintro _ qJ ⟨aM,rfl,iQ,o,H⟩;have lU:=Nat.le_trans C.size iQ;have dJ:=b9.away iQ;have iD:=U.away iQ;have M:=M.below o;have q:=q.below o;have I:=I.below o;have b9:=b9.below o;have U:=U.below o;have N:=N.below o;have y:=y.below o;have aD:=aD.below o;have bE:=bE.below o;have aI:=aI.below o;have Q:=Q.below o;have C:=btr C o;refine Zo (Vw [.slice e.A e.w.length e.c,vi e.m.rows,vi e.m.cols,.slice e.B e.m.cells.length e.d] Xbn H) ?_;rintro _ qK ⟨ho,hb⟩;have E:=H;have M:=M.only ho (Blk.ne M E rfl);have q:=q.only ho (q.ne E);have I:=I.only ho (Blk.ne I E rfl);have b9:=b9.onlyA ho dJ;have U:=U.onlyA ho iD;have N:=N.onlyT ho E rfl;have y:=y.onlyT ho E rfl;have aD:=aD.onlyT ho E rfl;have bE:=bE.onlyT ho E rfl rfl;have aI:=aI.onlyT ho E rfl rfl;have Q:=Q.onlyT ho E rfl;have C:=Below.only C ho lU;have H:=hb;refine Zx o9 fun a J _ oB=>?_;refine Zm rfl<|Zf (Vc (Xy4 _ n hn) Xql) ?_;rintro _ qL ⟨bL,bM,rfl,aB,o⟩;have aB:=aB.lower C.size
   have M:=M.below o;have q:=q.below o;have I:=I.below o;have H:=H.below o;have b9:=b9.below o;have U:=U.below o;have N:=N.below o;have y:=y.below o;have aD:=aD.below o;have bE:=bE.below o;have aI:=aI.below o;have Q:=Q.below o;have C:=btr C o;have aB:=aB.rd;refine Ze (X0x rfl Xf)<|Zm rfl<|Zt oB fun a J=>?_;refine wp_block<|X0b (σ:=Nat×(List Tw)×(ByteArray→Option Sq)) (fun (s:Nat×(List Tw)×(ByteArray→Option Sq)) (a:Act) (w:World)=>match s with|(j,N3,Fk)=>∃ bC bF,Fr a 125 [(0,vi (n:Int)),(4,.pointer (some ⟨b3,0,none⟩)),(9,.pointer (some ⟨b17,0,none⟩)),(11,.slice bC N3.length bF),(13,.pointer (some ⟨aM,0,none⟩)),(45,vi (k:Int)),(46,vi (r:Int)),(49,.slice b0 L.length b8),(50,vi (L.length:Int)),(51,vi (i:Int)),(56,.slice bL (gsT n).length bM),(57,vi ((gsT n).length:Int)),(58,vi (j:Int))]∧(j≤(gsT n).length)∧(StW n r i j Fk N3)∧(∀ t ∈ N3,t.m=valW n t.w)∧Blk w b3 73 [.map none,.slice none 0 0]∧MapS w cA (sgF Fk)∧Blk w b17 73 [.map (some cA),.slice dG zs.length dH]∧Blk w aM 111 [.slice e.A e.w.length e.c,vi e.m.rows,vi e.m.cols,.slice e.B e.m.cells.length e.d]∧Own w w0.heap.size 111 4 encTw bC bF N3∧Own w w0.heap.size 111 4 encTw b0 b8 L∧Own w w0.heap.size 3 1 encI dG dH zs∧Rd w w.heap.size 115 encG e.A e.w∧Rd w w.heap.size 95 encD e.B e.m.cells∧Rd w w.heap.size 115 encG bL (gsT n)∧DeepT w w.heap.size 115 95 N3∧DeepT w w.heap.size 115 95 L∧DeepM w (w.heap.size) 115 Fk∧Away bC aM∧Apart b0 bC∧Below w0.heap.size w0 w) (fun (s:Nat×(List Tw)×(ByteArray→Option Sq))=>match s with|(j,N3,Fk)=>(gsT n).length-j) (0,N2,Fj) ?_ ?_
   ·exact ⟨iB,iP,J.sb,(Nat.zero_le _),o5,l3,M,q,I,H,b9,U,N,y.top,aD.top,aB.top,bE.top,aI.top,Q.top,dJ,iC,C⟩
   rintro ⟨j,N3,Fk⟩ a qM ⟨bC,bF,J,hj,hS,lV,M,q,I,H,aF,U,N,y,aD,aB,aJ,aI,Q,cG,bO,C⟩;refine Zs J fun _ oC=>?_;refine Ze (X10 rfl rfl)<|ZX oC fun a J _ oD=>?_
   refine Xk J rfl (fun cU=>?_) (fun cU=>?_)
   ·have lW:=cU;have cU:=of_decide_eq_true cU
    obtain ⟨g,gK⟩:=Xi (l:=(gsT n)) (k:=j) (by omega)
    obtain ⟨pO,pP,oE,pQ,oF,oG,oH,pZ⟩:=Xpv hn (by omega:r<8) hL hv dI gK
    refine wp_skip<|oD _ _<|wp_seq_k fun _ l4=>?_;refine wp_block<|Zs J fun _ oJ=>?_;refine Zi (k:=j) (u:=g) (enc:=encG) (l:=(gsT n)) trivial rfl rfl Xf X0p Xb aB gK rfl ?_;intro qO lX;refine Ze (X07 (l:=[vi g.k,vi g.a,vi g.b]) rfl X0g lX rfl) ?_;have Q:=Q.top;have aJ:=aJ.top;have aI:=aI.top;have y:=y.top;have aB:=aB.top;refine Zf (X8 (zs:=[vi 0,vi 0,vi 0]) X2i rfl) ?_;rintro _ qP ⟨aZ,rfl,dK,o,G⟩;have lY:=Nat.le_trans C.size dK;have iE:=y.away dK;have iF:=aB.away dK;have M:=M.below o;have q:=q.below o;have I:=I.below o;have H:=H.below o;have aF:=aF.below o;have U:=U.below o;have N:=N.below o;have y:=y.below o;have aD:=aD.below o;have aB:=aB.below o;have aJ:=aJ.below o;have aI:=aI.below o;have Q:=Q.below o;have C:=btr C o;refine Zo (Vw [vi g.k,vi g.a,vi g.b] X0p G) ?_;rintro _ pR ⟨ho,hb⟩;have E:=G;have M:=M.only ho (Blk.ne M E rfl);have q:=q.only ho (q.ne E);have I:=I.only ho (Blk.ne I E rfl);have H:=H.only ho (Blk.ne H E rfl);have aF:=aF.onlyT ho E rfl;have U:=U.onlyT ho E rfl;have N:=N.onlyT ho E rfl;have y:=y.onlyA ho iE;have aD:=aD.onlyT ho E rfl;have aB:=aB.onlyA ho iF;have aJ:=aJ.only ho dK;have aI:=aI.only ho dK;have Q:=Q.only ho dK;have C:=Below.only C ho lY;have G:=hb;refine Zx oJ fun a J _ oK=>?_;refine Zm rfl<|Ze (Vn X0g G)<|Zf (X1x (vs:=[vi (n:Int),.agg #[vi g.k,vi g.a,vi g.b]]) rfl Xfe (by have hq:=Xt1 pR (n:Int) g;rw [pO,Option.getD_some,Option.isSome_some] at hq;exact hq)) ?_;rintro _ qQ ⟨iS,iT,rfl,cV,o⟩
    have cV:=cV.lower C.size;have M:=M.below o;have q:=q.below o;have I:=I.below o;have H:=H.below o;have G:=G.below o;have aF:=aF.below o;have U:=U.below o;have N:=N.below o;have y:=y.below o;have aD:=aD.below o;have aB:=aB.below o;have aJ:=aJ.below o;have aI:=aI.below o;have Q:=Q.below o;have C:=btr C o;refine Zm rfl<|Ze (X4 (vs:=[.agg #[vi ((gateS n g).rows),vi ((gateS n g).cols),.slice iS ((gateS n g).cells).length iT],.bool true]) rfl rfl)<|Ze (X4 (vs:=[.agg #[vi ((gateS n g).rows),vi ((gateS n g).cols),.slice iS ((gateS n g).cells).length iT],.bool true]) rfl rfl)<|Zf (X8 (zs:=[vi 0,vi 0,.slice none 0 0]) X1n rfl) ?_;rintro _ qR ⟨pS,rfl,oL,o,cW⟩;have lZ:=Nat.le_trans C.size oL;have M:=M.below o;have q:=q.below o;have I:=I.below o;have H:=H.below o;have G:=G.below o;have aF:=aF.below o;have U:=U.below o;have N:=N.below o;have y:=y.below o;have aD:=aD.below o;have aB:=aB.below o;have cV:=cV.below o;have aJ:=aJ.below o;have aI:=aI.below o;have Q:=Q.below o;have C:=btr C o;refine Zo (Vw [vi ((gateS n g).rows),vi ((gateS n g).cols),.slice iS ((gateS n g).cells).length iT] X17 cW) ?_;rintro _ pT ⟨ho,hb⟩;have E:=cW;have M:=M.only ho (Blk.ne M E rfl);have q:=q.only ho (q.ne E);have I:=I.only ho (Blk.ne I E rfl);have H:=H.only ho (Blk.ne H E rfl);have G:=G.only ho (Blk.ne G E rfl);have aF:=aF.onlyT ho E rfl;have U:=U.onlyT ho E rfl;have N:=N.onlyT ho E rfl;have y:=y.onlyT ho E rfl
    have aD:=aD.onlyT ho E rfl;have aB:=aB.onlyT ho E rfl;have cV:=cV.onlyT ho E rfl;have aJ:=aJ.onlyT ho E rfl rfl;have aI:=aI.onlyT ho E rfl rfl;have Q:=Q.onlyT ho E rfl;have C:=Below.only C ho lZ;have cW:=hb;refine Za rfl<|Zx oK fun a J _ oM=>?_;refine Ze (Vn X0e cW)<|Ze (Vd rfl Xj2 1)<|Ze (X07 (l:=[vi e.m.rows,vi e.m.cols,.slice e.B e.m.cells.length e.d]) rfl X0e ((H.at 1).take 3) rfl)<|Zf (X1x (vs:=[.agg #[vi ((gateS n g).rows),vi ((gateS n g).cols),.slice iS ((gateS n g).cells).length iT],.agg #[vi e.m.rows,vi e.m.cols,.slice e.B e.m.cells.length e.d]]) rfl Xnc (by have hq:=Xxl pT (gateS n g) iS iT cV.rd.top e.m e.B e.d aD.top oF oG;rw [pP,Option.getD_some,Option.isSome_some] at hq;exact hq)) ?_;rintro _ qS ⟨aN,aO,rfl,b2,o⟩;have b2:=b2.lower C.size;have M:=M.below o;have q:=q.below o;have I:=I.below o;have H:=H.below o;have G:=G.below o;have cW:=cW.below o;have aF:=aF.below o;have U:=U.below o;have N:=N.below o;have y:=y.below o;have aD:=aD.below o;have aB:=aB.below o;have aJ:=aJ.below o;have aI:=aI.below o;have Q:=Q.below o;have C:=btr C o;refine Zm rfl<|Ze (X4 (vs:=[.agg #[vi ((valW n (e.w++[g])).rows),vi ((valW n (e.w++[g])).cols),.slice aN ((valW n (e.w++[g])).cells).length aO],.bool true]) rfl rfl)<|Ze (X4 (vs:=[.agg #[vi ((valW n (e.w++[g])).rows),vi ((valW n (e.w++[g])).cols),.slice aN ((valW n (e.w++[g])).cells).length aO],.bool true]) rfl rfl)<|Zf (X8 (zs:=[vi 0,vi 0,.slice none 0 0]) X1n rfl) ?_;rintro _ qT ⟨b69,rfl,oN,o,aE⟩
    have nD:pS≠b69:=by have:=cW.lt;omega
    have m3:=Nat.le_trans C.size oN;have M:=M.below o;have q:=q.below o;have I:=I.below o;have H:=H.below o;have G:=G.below o;have aF:=aF.below o;have U:=U.below o;have N:=N.below o;have y:=y.below o;have aD:=aD.below o;have aB:=aB.below o;have b2:=b2.below o;have aJ:=aJ.below o;have aI:=aI.below o;have Q:=Q.below o;have C:=btr C o;refine Zo (Vw [vi ((valW n (e.w++[g])).rows),vi ((valW n (e.w++[g])).cols),.slice aN ((valW n (e.w++[g])).cells).length aO] X17 aE) ?_;rintro _ pU ⟨ho,hb⟩;have E:=aE;have M:=M.only ho (Blk.ne M E rfl);have q:=q.only ho (q.ne E);have I:=I.only ho (Blk.ne I E rfl);have H:=H.only ho (Blk.ne H E rfl);have G:=G.only ho (Blk.ne G E rfl);have aF:=aF.onlyT ho E rfl;have U:=U.onlyT ho E rfl;have N:=N.onlyT ho E rfl;have y:=y.onlyT ho E rfl;have aD:=aD.onlyT ho E rfl;have aB:=aB.onlyT ho E rfl;have b2:=b2.onlyT ho E rfl;have aJ:=aJ.onlyT ho E rfl rfl;have aI:=aI.onlyT ho E rfl rfl;have Q:=Q.onlyT ho E rfl;have C:=Below.only C ho m3;have aE:=hb;refine Za rfl<|Zx oM fun a J _ oO=>?_;refine Ze (Vn X0e aE)<|Zf (X1x (vs:=[.agg #[vi ((valW n (e.w++[g])).rows),vi ((valW n (e.w++[g])).cols),.slice aN ((valW n (e.w++[g])).cells).length aO]]) rfl X80 (by have hq:=Xhr pU (valW n (e.w++[g])) aN aO b2.rd.top oH (kY.of C);rw [pQ] at hq;exact hq)) ?_;rintro _ w28 ⟨rfl,o⟩;have M:=M.below o;have q:=q.below o;have I:=I.below o;have H:=H.below o
    have G:=G.below o;have aE:=aE.below o;have aF:=aF.below o;have U:=U.below o;have N:=N.below o;have y:=y.below o;have aD:=aD.below o;have aB:=aB.below o;have b2:=b2.below o;have aJ:=aJ.below o;have aI:=aI.below o;have Q:=Q.below o;have C:=btr C o;refine Zm rfl<|Ze (X4 (vs:=[.string (keyM (valW n (e.w++[g]))),.bool true]) rfl rfl)<|Ze (X4 (vs:=[.string (keyM (valW n (e.w++[g]))),.bool true]) rfl rfl)<|Za rfl<|Za rfl ?_;refine ZX oO fun a J _ oP=>?_;refine Zs J fun _ oQ=>?_;refine Ze (Vd rfl X56 0)<|Ze (X0 rfl X7p (I.at 0))<|Zm rfl ?_;obtain ⟨oR,oS,oT,oU,q0⟩:=Xaz Q (keyM (valW n (e.w++[g])));refine Ze (Xft (f:=Fk) rfl rfl Tryz.underlying71 Tryz.underlying9 Xnm q oT oU)<|Zm rfl<|Ze (X4 (vs:=[.slice oR ((sgL Fk (keyM (valW n (e.w++[g])))).getD []).length oS,.bool ((sgL Fk (keyM (valW n (e.w++[g])))).isSome)]) rfl rfl)<|Ze (X4 (vs:=[.slice oR ((sgL Fk (keyM (valW n (e.w++[g])))).getD []).length oS,.bool ((sgL Fk (keyM (valW n (e.w++[g])))).isSome)]) rfl rfl)<|Za rfl ?_;refine Za rfl<|ZX oQ fun a J _ oV=>?_;refine X0o (fun a w=>Fr a 125 [(0,vi (n:Int)),(4,.pointer (some ⟨b3,0,none⟩)),(9,.pointer (some ⟨b17,0,none⟩)),(11,.slice bC N3.length bF),(13,.pointer (some ⟨aM,0,none⟩)),(15,.pointer (some ⟨aZ,0,none⟩)),(18,.pointer (some ⟨b69,0,none⟩)),(20,.string (keyM (valW n (e.w++[g])))),(45,vi (k:Int)),(46,vi (r:Int)),(49,.slice b0 L.length b8),(50,vi (L.length:Int)),(51,vi (i:Int)),(56,.slice bL (gsT n).length bM),(57,vi ((gsT n).length:Int)),(58,vi (j:Int)),(95,.bool ((sgL Fk (keyM (valW n (e.w++[g])))).isSome))]∧w28=w) ?_ ?_
    ·refine Zr J<|Zm rfl<|Ze (X0z rfl)<|Zm rfl<|Zv (gW rfl) (Xa rfl) ?_;refine Zv (gW rfl) (X0z rfl) ?_;refine Ze (Xj rfl rfl rfl)<|Zm rfl<|Zv (gW rfl) (Xa rfl) ?_;refine Ze (Xj rfl rfl rfl) ?_;refine Zn fun a J=>?_;exact ⟨J.sb,rfl⟩
    rintro a _ ⟨J,rfl⟩;refine oV _ _ ?_
    refine Xk J rfl (fun eB=>?_) (fun eB=>?_)
    ·have m4:=eB;have gL:=eB;refine wp_exit<|Xl<|X0a<|l4 _ _ ?_;refine Zr J<|Ze (X06 rfl rfl (by omega) (by omega))<|Zm rfl ?_;refine Zn fun a J=>?_;refine Xp ?_;exact ⟨(j+1,N3,Fk),⟨bC,bF,J.sb,(by omega),(Xno hS hL dI gK oE gL),lV,M,q,I,H,aF,U,N,y.top,aD.top,aB.top,aJ.top,aI.top,Q.top,cG,bO,C⟩,(by first|omega|(dsimp only;omega))⟩
    have m4:=eB;have gL:=eB;have qU:=Xst hS;refine wp_skip<|oP _ _<|wp_seq_k fun _ oW=>?_;refine X0o (fun a w=>∃ bQ aS aW,Fr a 125 [(0,vi (n:Int)),(4,.pointer (some ⟨b3,0,none⟩)),(9,.pointer (some ⟨b17,0,none⟩)),(11,.slice bC N3.length bF),(13,.pointer (some ⟨aM,0,none⟩)),(20,.string (keyM (valW n (e.w++[g])))),(24,.pointer (some ⟨bQ,0,none⟩)),(45,vi (k:Int)),(46,vi (r:Int)),(49,.slice b0 L.length b8),(50,vi (L.length:Int)),(51,vi (i:Int)),(56,.slice bL (gsT n).length bM),(57,vi ((gsT n).length:Int)),(58,vi (j:Int))]∧w0.heap.size≤bQ∧Blk w bQ 111 [.slice aS (e.w++([g])).length aW,vi ((valW n (e.w++[g])).rows),vi ((valW n (e.w++[g])).cols),.slice aN ((valW n (e.w++[g])).cells).length aO]∧aM≠bQ∧Own w w0.heap.size 115 3 encG aS aW (e.w++([g]))∧w28.heap.size≤bQ∧Below w28.heap.size w28 w) ?_ ?_
    ·have z:Below w28.heap.size w28 w28:=Below.refl _ _
     have cB:=C.size;clear M;clear q;clear I;clear aF;clear aJ;clear U;clear aI;clear N;clear aB;clear Q;refine X0h none (fun j=>[5,9].contains j) mixed ?_;intro w29 o;have H:=H.below o;have G:=G.below o;have aE:=aE.below o;have y:=y.below o;have C:=btr C o;have z:=btr z o;refine Yb J<|Yo 0 rfl (fun _=>Vd rfl Xa5 0)<|Ye 1 rfl (X0 rfl X15 (H.at 0))<|Ye 3 rfl (Vn X0g G) ?_
     have p:Below w29.heap.size w29 w29:=Below.refl _ _
     have cB:=C.size;have gM:=z.size;refine Yc [0,1,2,3,4,5,6,7,8] 1 (fun a w=>∃ bQ aS aW,Fr a 125 [(0,vi (n:Int)),(4,.pointer (some ⟨b3,0,none⟩)),(9,.pointer (some ⟨b17,0,none⟩)),(11,.slice bC N3.length bF),(13,.pointer (some ⟨aM,0,none⟩)),(20,.string (keyM (valW n (e.w++[g])))),(24,.pointer (some ⟨bQ,0,none⟩)),(45,vi (k:Int)),(46,vi (r:Int)),(49,.slice b0 L.length b8),(50,vi (L.length:Int)),(51,vi (i:Int)),(56,.slice bL (gsT n).length bM),(57,vi ((gsT n).length:Int)),(58,vi (j:Int)),(103,.agg #[.slice aS (e.w++([g])).length aW,vi ((valW n (e.w++[g])).rows),vi ((valW n (e.w++[g])).cols),.slice aN ((valW n (e.w++[g])).cells).length aO])]∧w0.heap.size≤bQ∧Blk w bQ 111 [.slice none 0 0,vi 0,vi 0,.slice none 0 0]∧aM≠bQ∧w29.heap.size≤bQ∧w28.heap.size≤bQ∧Own w w0.heap.size 115 3 encG aS aW (e.w++([g]))∧Away aS aZ∧Below w29.heap.size w29 w) ?_ ?_
     ·rintro a qV ⟨bQ,aS,aW,J,eK,bH,dL,m5,cX,b4,bP,o⟩;clear p;have p:=o;have C:=btr C o;have z:=btr z o;refine Yb J<|Y1 9<|Yh rfl trivial rfl (Vw [.slice aS (e.w++([g])).length aW,vi ((valW n (e.w++[g])).rows),vi ((valW n (e.w++[g])).cols),.slice aN ((valW n (e.w++[g])).cells).length aO] Xbn bH) ?_;rintro _ w31 ⟨ho,hb⟩;have E:=bH;have b4:=b4.onlyT ho E rfl;have z:=Below.only z ho cX;have p:=Below.only p ho m5;have C:=Below.only C ho eK;have bH:=hb;refine Yd fun a J=>?_
      have pV:Below w28.heap.size w28 w31:=z
      exact ⟨bQ,aS,aW,J.sb,eK,bH,dL,b4,cX,pV⟩
     intro iU;refine Yc [0,1,2,3,4,5,6,7] 2 (fun a w=>∃ aS aW,Fr a 125 [(0,vi (n:Int)),(4,.pointer (some ⟨b3,0,none⟩)),(9,.pointer (some ⟨b17,0,none⟩)),(11,.slice bC N3.length bF),(13,.pointer (some ⟨aM,0,none⟩)),(20,.string (keyM (valW n (e.w++[g])))),(45,vi (k:Int)),(46,vi (r:Int)),(49,.slice b0 L.length b8),(50,vi (L.length:Int)),(51,vi (i:Int)),(56,.slice bL (gsT n).length bM),(57,vi ((gsT n).length:Int)),(58,vi (j:Int)),(103,.agg #[.slice aS (e.w++([g])).length aW,vi ((valW n (e.w++[g])).rows),vi ((valW n (e.w++[g])).cols),.slice aN ((valW n (e.w++[g])).cells).length aO])]∧Own w w0.heap.size 115 3 encG aS aW (e.w++([g]))∧Away aS aZ∧Below w29.heap.size w29 w) ?_ ?_
     ·rintro a qW ⟨aS,aW,J,b4,bP,o⟩;clear p;have p:=o;have H:=H.below o;have C:=btr C o;have z:=btr z o;refine Yb J<|Y1 8<|Yk rfl trivial (X8 (zs:=[.slice none 0 0,vi 0,vi 0,.slice none 0 0]) X37 rfl) (fun _ _ ⟨_,_,_,h,_⟩=>h) ?_;rintro _ qX ⟨b83,rfl,iV,o,oX⟩
      have iG:aM≠b83:=by have:=H.lt;omega
      have m6:=Nat.le_trans C.size iV;have m7:=Nat.le_trans z.size iV;have m8:=Nat.le_trans p.size iV;have b4:=b4.below o;have C:=btr C o;have z:=btr z o;have p:=btr p o;exact fun a J=>iU _ a _ rfl ⟨b83,aS,aW,J.sb,m6,oX,iG,m8,m7,b4,bP,p⟩
     intro l5;refine Yc [0,1,2,3,4,5,8] 3 (fun a w=>∃ eC aS aW,Fr a 125 [(0,vi (n:Int)),(4,.pointer (some ⟨b3,0,none⟩)),(9,.pointer (some ⟨b17,0,none⟩)),(11,.slice bC N3.length bF),(13,.pointer (some ⟨aM,0,none⟩)),(18,.pointer (some ⟨b69,0,none⟩)),(20,.string (keyM (valW n (e.w++[g])))),(24,.pointer (some ⟨eC,0,none⟩)),(45,vi (k:Int)),(46,vi (r:Int)),(49,.slice b0 L.length b8),(50,vi (L.length:Int)),(51,vi (i:Int)),(56,.slice bL (gsT n).length bM),(57,vi ((gsT n).length:Int)),(58,vi (j:Int)),(101,.slice aS (e.w++([g])).length aW)]∧w0.heap.size≤eC∧Blk w eC 111 [.slice none 0 0,vi 0,vi 0,.slice none 0 0]∧aM≠eC∧w29.heap.size≤eC∧w28.heap.size≤eC∧Own w w0.heap.size 115 3 encG aS aW (e.w++([g]))∧Away aS aZ∧Below w29.heap.size w29 w) ?_ ?_
     ·rintro a qY ⟨eC,aS,aW,J,m9,oY,iH,mA,mB,b4,bP,o⟩;clear p;have p:=o;have aE:=aE.below o;have C:=btr C o;have z:=btr z o;refine Yb J<|Y1 6<|Yz rfl trivial (Uev (X07 (l:=[vi ((valW n (e.w++[g])).rows),vi ((valW n (e.w++[g])).cols),.slice aN ((valW n (e.w++[g])).cells).length aO]) rfl X0e (aE.at 0) rfl)) ?_;refine Yo 7 rfl (fun _=>Xg (ps:=[(0,.slice aS (e.w++([g])).length aW),(1,.agg #[vi ((valW n (e.w++[g])).rows),vi ((valW n (e.w++[g])).cols),.slice aN ((valW n (e.w++[g])).cells).length aO])]) (cs:=[.slice aS (e.w++([g])).length aW,vi ((valW n (e.w++[g])).rows),vi ((valW n (e.w++[g])).cols),.slice aN ((valW n (e.w++[g])).cells).length aO]) rfl (fun _=>by first|rfl|kernel_rfl)) ?_;exact fun a J=>iU _ a _ rfl ⟨eC,aS,aW,J.sb,m9,oY,iH,mA,mB,b4,bP,p⟩
     intro l6;refine Yc [0,1,2,3,4,6,8] 3 (fun a w=>∃ aK eD aG aQ,Fr a 125 [(0,vi (n:Int)),(4,.pointer (some ⟨b3,0,none⟩)),(9,.pointer (some ⟨b17,0,none⟩)),(11,.slice bC N3.length bF),(13,.pointer (some ⟨aM,0,none⟩)),(20,.string (keyM (valW n (e.w++[g])))),(24,.pointer (some ⟨eD,0,none⟩)),(45,vi (k:Int)),(46,vi (r:Int)),(49,.slice b0 L.length b8),(50,vi (L.length:Int)),(51,vi (i:Int)),(56,.slice bL (gsT n).length bM),(57,vi ((gsT n).length:Int)),(58,vi (j:Int)),(98,.slice aG e.w.length aQ),(100,.slice (some ⟨aK,0,none⟩) ([g]).length 1),(102,.agg #[vi ((valW n (e.w++[g])).rows),vi ((valW n (e.w++[g])).cols),.slice aN ((valW n (e.w++[g])).cells).length aO])]∧w0.heap.size≤aK∧Blk w aK 115 [vi g.k,vi g.a,vi g.b]∧aZ≠aK∧w0.heap.size≤eD∧Blk w eD 111 [.slice none 0 0,vi 0,vi 0,.slice none 0 0]∧aM≠eD∧w29.heap.size≤aK∧w28.heap.size≤aK∧w29.heap.size≤eD∧w28.heap.size≤eD∧Own w w29.heap.size 115 3 encG aG aQ e.w∧Away aG aZ∧AwayR e.w e.A aK∧Away aG aK∧Below w29.heap.size w29 w) ?_ ?_
     ·rintro a qZ ⟨aK,eD,aG,aQ,J,bR,aR,aX,mC,iW,iI,bS,bU,mD,mE,aC,W,aY,aL,o⟩;clear p;have p:=o;have G:=G.below o;have C:=btr C o;have z:=btr z o;refine Yb J<|Y1 5<|Yt rfl trivial rfl (X11 (enc:=encG) (l:=(e.w)) (l2:=([g])) (B0:=w29.heap.size) rfl rfl Xf Xo Xb X0d aC (Rd.of_blk aR rfl _ aR.lt) (by simp only [maxLen];simp;omega) (by simp;omega) p.size) ?_;rintro _ r0 ⟨mF,mG,rfl,iX,hg,b6⟩
      have aA:Own _ w29.heap.size 115 3 encG _ _ (e.w):=aC
      have iJ:=b6 _ G.lt W;have nE:=b6 _ aR.lt aL;clear b6;have iW:=iW.appT aA hg rfl;have C:=Below.app C aA hg cB C.size;have p:=Below.app p aA hg (Nat.le_refl _) p.size;have z:=Below.app z aA hg gM z.size;clear aA hg;have iX:=iX.lower cB;refine Yo 7 rfl (fun _=>Xg (ps:=[(0,.slice mF (e.w++([g])).length mG),(1,.agg #[vi ((valW n (e.w++[g])).rows),vi ((valW n (e.w++[g])).cols),.slice aN ((valW n (e.w++[g])).cells).length aO])]) (cs:=[.slice mF (e.w++([g])).length mG,vi ((valW n (e.w++[g])).rows),vi ((valW n (e.w++[g])).cols),.slice aN ((valW n (e.w++[g])).cells).length aO]) rfl (fun _=>by first|rfl|kernel_rfl)) ?_;exact fun a J=>iU _ a _ rfl ⟨eD,mF,mG,J.sb,mC,iW,iI,mD,mE,iX,iJ,p⟩
     intro gN;refine Yc [0,1,2,3,4,6] 4 (fun a w=>∃ aK aG aQ,Fr a 125 [(0,vi (n:Int)),(4,.pointer (some ⟨b3,0,none⟩)),(9,.pointer (some ⟨b17,0,none⟩)),(11,.slice bC N3.length bF),(13,.pointer (some ⟨aM,0,none⟩)),(20,.string (keyM (valW n (e.w++[g])))),(45,vi (k:Int)),(46,vi (r:Int)),(49,.slice b0 L.length b8),(50,vi (L.length:Int)),(51,vi (i:Int)),(56,.slice bL (gsT n).length bM),(57,vi ((gsT n).length:Int)),(58,vi (j:Int)),(98,.slice aG e.w.length aQ),(100,.slice (some ⟨aK,0,none⟩) ([g]).length 1),(102,.agg #[vi ((valW n (e.w++[g])).rows),vi ((valW n (e.w++[g])).cols),.slice aN ((valW n (e.w++[g])).cells).length aO])]∧w0.heap.size≤aK∧Blk w aK 115 [vi g.k,vi g.a,vi g.b]∧aZ≠aK∧w29.heap.size≤aK∧w28.heap.size≤aK∧Own w w29.heap.size 115 3 encG aG aQ e.w∧Away aG aZ∧AwayR e.w e.A aK∧Away aG aK∧Below w29.heap.size w29 w) ?_ ?_
     ·rintro a r4 ⟨aK,aG,aQ,J,bR,aR,aX,bS,bU,aC,W,aY,aL,o⟩;clear p;have p:=o;have H:=H.below o;have G:=G.below o;have C:=btr C o;have z:=btr z o;refine Yb J<|Y2 5 8 ?_ ?_
      ·refine Yt rfl trivial rfl (X11 (enc:=encG) (l:=(e.w)) (l2:=([g])) (B0:=w29.heap.size) rfl rfl Xf Xo Xb X0d aC (Rd.of_blk aR rfl _ aR.lt) (by simp only [maxLen];simp;omega) (by simp;omega) p.size) ?_;rintro _ r5 ⟨mH,mI,rfl,iY,hg,b6⟩
       have aA:Own _ w29.heap.size 115 3 encG _ _ (e.w):=aC
       have iK:=b6 _ G.lt W;have nF:=b6 _ aR.lt aL;clear b6;have C:=Below.app C aA hg cB C.size;have p:=Below.app p aA hg (Nat.le_refl _) p.size;have z:=Below.app z aA hg gM z.size;clear aA hg;have iY:=iY.lower cB;refine Yo 7 rfl (fun _=>Xg (ps:=[(0,.slice mH (e.w++([g])).length mI),(1,.agg #[vi ((valW n (e.w++[g])).rows),vi ((valW n (e.w++[g])).cols),.slice aN ((valW n (e.w++[g])).cells).length aO])]) (cs:=[.slice mH (e.w++([g])).length mI,vi ((valW n (e.w++[g])).rows),vi ((valW n (e.w++[g])).cols),.slice aN ((valW n (e.w++[g])).cells).length aO]) rfl (fun _=>by first|rfl|kernel_rfl)) ?_;exact fun a J=>l5 _ a _ rfl ⟨mH,mI,J.sb,iY,iK,p⟩
      refine Yk rfl trivial (X8 (zs:=[.slice none 0 0,vi 0,vi 0,.slice none 0 0]) X37 rfl) (fun _ _ ⟨_,_,_,h,_⟩=>h) ?_;rintro _ r6 ⟨b100,rfl,eL,o,mJ⟩
      have eM:aM≠b100:=by have:=H.lt;omega
      have jD:=Nat.le_trans C.size eL;have jE:=Nat.le_trans z.size eL;have jF:=Nat.le_trans p.size eL;have aR:=aR.below o;have aC:=aC.below o;have C:=btr C o;have z:=btr z o;have p:=btr p o;exact fun a J=>gN _ a _ rfl ⟨aK,b100,aG,aQ,J.sb,bR,aR,aX,jD,mJ,eM,bS,bU,jF,jE,aC,W,aY,aL,p⟩
     intro iZ;refine Yc [0,1,2,3,4,8] 4 (fun a w=>∃ aK cC aG aQ,Fr a 125 [(0,vi (n:Int)),(4,.pointer (some ⟨b3,0,none⟩)),(9,.pointer (some ⟨b17,0,none⟩)),(11,.slice bC N3.length bF),(13,.pointer (some ⟨aM,0,none⟩)),(18,.pointer (some ⟨b69,0,none⟩)),(20,.string (keyM (valW n (e.w++[g])))),(24,.pointer (some ⟨cC,0,none⟩)),(45,vi (k:Int)),(46,vi (r:Int)),(49,.slice b0 L.length b8),(50,vi (L.length:Int)),(51,vi (i:Int)),(56,.slice bL (gsT n).length bM),(57,vi ((gsT n).length:Int)),(58,vi (j:Int)),(98,.slice aG e.w.length aQ),(100,.slice (some ⟨aK,0,none⟩) ([g]).length 1)]∧w0.heap.size≤aK∧Blk w aK 115 [vi g.k,vi g.a,vi g.b]∧aZ≠aK∧w0.heap.size≤cC∧Blk w cC 111 [.slice none 0 0,vi 0,vi 0,.slice none 0 0]∧aM≠cC∧w29.heap.size≤aK∧w28.heap.size≤aK∧w29.heap.size≤cC∧w28.heap.size≤cC∧Own w w29.heap.size 115 3 encG aG aQ e.w∧Away aG aZ∧AwayR e.w e.A aK∧Away aG aK∧Below w29.heap.size w29 w) ?_ ?_
     ·rintro a r7 ⟨aK,cC,aG,aQ,J,bR,aR,aX,gO,dM,cY,bS,bU,gQ,gR,aC,W,aY,aL,o⟩;clear p;have p:=o;have G:=G.below o;have aE:=aE.below o;have C:=btr C o;have z:=btr z o;refine Yb J<|Y2 5 6 ?_ ?_
      ·refine Yt rfl trivial rfl (X11 (enc:=encG) (l:=(e.w)) (l2:=([g])) (B0:=w29.heap.size) rfl rfl Xf Xo Xb X0d aC (Rd.of_blk aR rfl _ aR.lt) (by simp only [maxLen];simp;omega) (by simp;omega) p.size) ?_;rintro _ r8 ⟨oZ,p0,rfl,eN,hg,b6⟩
       have aA:Own _ w29.heap.size 115 3 encG _ _ (e.w):=aC
       have eO:=b6 _ G.lt W;have mK:=b6 _ aR.lt aL;clear b6;have dM:=dM.appT aA hg rfl;have C:=Below.app C aA hg cB C.size;have p:=Below.app p aA hg (Nat.le_refl _) p.size;have z:=Below.app z aA hg gM z.size;clear aA hg;have eN:=eN.lower cB;exact fun a J=>l6 _ a _ rfl ⟨cC,oZ,p0,J.sb,gO,dM,cY,gQ,gR,eN,eO,p⟩
      refine Yz rfl trivial (Uev (X07 (l:=[vi ((valW n (e.w++[g])).rows),vi ((valW n (e.w++[g])).cols),.slice aN ((valW n (e.w++[g])).cells).length aO]) rfl X0e (aE.at 0) rfl)) ?_;exact fun a J=>gN _ a _ rfl ⟨aK,cC,aG,aQ,J.sb,bR,aR,aX,gO,dM,cY,bS,bU,gQ,gR,aC,W,aY,aL,p⟩
     intro eP;refine Yc [0,1,2,3,6,8] 4 (fun a w=>∃ cP aG aQ,Fr a 125 [(0,vi (n:Int)),(4,.pointer (some ⟨b3,0,none⟩)),(9,.pointer (some ⟨b17,0,none⟩)),(11,.slice bC N3.length bF),(13,.pointer (some ⟨aM,0,none⟩)),(20,.string (keyM (valW n (e.w++[g])))),(24,.pointer (some ⟨cP,0,none⟩)),(45,vi (k:Int)),(46,vi (r:Int)),(49,.slice b0 L.length b8),(50,vi (L.length:Int)),(51,vi (i:Int)),(56,.slice bL (gsT n).length bM),(57,vi ((gsT n).length:Int)),(58,vi (j:Int)),(98,.slice aG e.w.length aQ),(99,.agg #[vi g.k,vi g.a,vi g.b]),(102,.agg #[vi ((valW n (e.w++[g])).rows),vi ((valW n (e.w++[g])).cols),.slice aN ((valW n (e.w++[g])).cells).length aO])]∧w0.heap.size≤cP∧Blk w cP 111 [.slice none 0 0,vi 0,vi 0,.slice none 0 0]∧aM≠cP∧w29.heap.size≤cP∧w28.heap.size≤cP∧Own w w29.heap.size 115 3 encG aG aQ e.w∧Away aG aZ∧Below w29.heap.size w29 w) ?_ ?_
     ·rintro a r9 ⟨cP,aG,aQ,J,jG,eQ,eR,jH,jI,aC,W,o⟩;clear p;have p:=o;have G:=G.below o;have y:=y.below o;have C:=btr C o;have z:=btr z o;refine Yb J<|Y1 4<|Yk rfl trivial (X5 (k:=1) (vs:=[.agg #[vi g.k,vi g.a,vi g.b]]) (zs:=[vi g.k,vi g.a,vi g.b]) rfl Xf Xo rfl rfl) (fun _ _ ⟨_,_,_,h,_⟩=>h) ?_;rintro _ rA ⟨b106,rfl,d5,o,mL⟩
      have eS:aZ≠b106:=by have:=G.lt;omega
      have jJ:=Nat.le_trans C.size d5;have jK:=Nat.le_trans z.size d5;have jL:=Nat.le_trans p.size d5;have eT:=y.away d5;have eU:=aC.away d5;have eQ:=eQ.below o;have aC:=aC.below o;have C:=btr C o;have z:=btr z o;have p:=btr p o;exact fun a J=>gN _ a _ rfl ⟨b106,cP,aG,aQ,J.sb,jJ,mL,eS,jG,eQ,eR,jL,jK,jH,jI,aC,W,eT,eU,p⟩
     intro eW;refine Yc [0,1,3,4,6,8] 4 (fun a w=>∃ aH cQ,Fr a 125 [(0,vi (n:Int)),(4,.pointer (some ⟨b3,0,none⟩)),(9,.pointer (some ⟨b17,0,none⟩)),(11,.slice bC N3.length bF),(13,.pointer (some ⟨aM,0,none⟩)),(20,.string (keyM (valW n (e.w++[g])))),(24,.pointer (some ⟨cQ,0,none⟩)),(45,vi (k:Int)),(46,vi (r:Int)),(49,.slice b0 L.length b8),(50,vi (L.length:Int)),(51,vi (i:Int)),(56,.slice bL (gsT n).length bM),(57,vi ((gsT n).length:Int)),(58,vi (j:Int)),(97,.slice e.A e.w.length e.c),(100,.slice (some ⟨aH,0,none⟩) ([g]).length 1),(102,.agg #[vi ((valW n (e.w++[g])).rows),vi ((valW n (e.w++[g])).cols),.slice aN ((valW n (e.w++[g])).cells).length aO])]∧w0.heap.size≤aH∧Blk w aH 115 [vi g.k,vi g.a,vi g.b]∧aZ≠aH∧w0.heap.size≤cQ∧Blk w cQ 111 [.slice none 0 0,vi 0,vi 0,.slice none 0 0]∧aM≠cQ∧w29.heap.size≤aH∧w28.heap.size≤aH∧w29.heap.size≤cQ∧w28.heap.size≤cQ∧AwayR e.w e.A aH∧Below w29.heap.size w29 w) ?_ ?_
     ·rintro a rB ⟨aH,cQ,J,bI,aP,aT,jM,eX,eY,bJ,bK,jN,jO,aU,o⟩;clear p;have p:=o;have G:=G.below o;have y:=y.below o;have C:=btr C o;have z:=btr z o;refine Yb J<|Y1 2<|Yk rfl trivial (Vc (X5b _ e.A e.c e.w y.top (by omega)) X2p) (fun _ _ ⟨l7,l8,_,cH,o⟩=>o) ?_;rintro _ rC ⟨l7,l8,rfl,cH,o⟩;have f0:=cH.awayNew G.lt;have eE:=cH.awayNew aP.lt;have cH:=cH.lower p.size;have aP:=aP.below o;have eX:=eX.below o;have C:=btr C o;have z:=btr z o;have p:=btr p o;exact fun a J=>gN _ a _ rfl ⟨aH,cQ,l7,l8,J.sb,bI,aP,aT,jM,eX,eY,bJ,bK,jN,jO,cH,f0,aU,eE,p⟩
     intro f6;refine Yc [0,1,2,3,4] 5 (fun a w=>∃ aK aG aQ,Fr a 125 [(0,vi (n:Int)),(4,.pointer (some ⟨b3,0,none⟩)),(9,.pointer (some ⟨b17,0,none⟩)),(11,.slice bC N3.length bF),(13,.pointer (some ⟨aM,0,none⟩)),(18,.pointer (some ⟨b69,0,none⟩)),(20,.string (keyM (valW n (e.w++[g])))),(45,vi (k:Int)),(46,vi (r:Int)),(49,.slice b0 L.length b8),(50,vi (L.length:Int)),(51,vi (i:Int)),(56,.slice bL (gsT n).length bM),(57,vi ((gsT n).length:Int)),(58,vi (j:Int)),(98,.slice aG e.w.length aQ),(100,.slice (some ⟨aK,0,none⟩) ([g]).length 1)]∧w0.heap.size≤aK∧Blk w aK 115 [vi g.k,vi g.a,vi g.b]∧aZ≠aK∧w29.heap.size≤aK∧w28.heap.size≤aK∧Own w w29.heap.size 115 3 encG aG aQ e.w∧Away aG aZ∧AwayR e.w e.A aK∧Away aG aK∧Below w29.heap.size w29 w) ?_ ?_
     ·rintro a rD ⟨aK,aG,aQ,J,bR,aR,aX,bS,bU,aC,W,aY,aL,o⟩;clear p;have p:=o;have H:=H.below o;have G:=G.below o;have aE:=aE.below o;have C:=btr C o;have z:=btr z o;refine Yb J<|Y3 5 6 8 ?_ ?_ ?_
      ·refine Yt rfl trivial rfl (X11 (enc:=encG) (l:=(e.w)) (l2:=([g])) (B0:=w29.heap.size) rfl rfl Xf Xo Xb X0d aC (Rd.of_blk aR rfl _ aR.lt) (by simp only [maxLen];simp;omega) (by simp;omega) p.size) ?_;rintro _ rE ⟨gS,gT,rfl,cJ,hg,b6⟩
       have aA:Own _ w29.heap.size 115 3 encG _ _ (e.w):=aC
       have d6:=b6 _ G.lt W;have mM:=b6 _ aR.lt aL;clear b6;have H:=H.appT aA hg rfl;have aE:=aE.appT aA hg rfl;have C:=Below.app C aA hg cB C.size;have p:=Below.app p aA hg (Nat.le_refl _) p.size;have z:=Below.app z aA hg gM z.size;clear aA hg;have cJ:=cJ.lower cB;refine Y2 6 8 ?_ ?_
       ·refine Yz rfl trivial (Uev (X07 (l:=[vi ((valW n (e.w++[g])).rows),vi ((valW n (e.w++[g])).cols),.slice aN ((valW n (e.w++[g])).cells).length aO]) rfl X0e (aE.at 0) rfl)) ?_;refine Yo 7 rfl (fun _=>Xg (ps:=[(0,.slice gS (e.w++([g])).length gT),(1,.agg #[vi ((valW n (e.w++[g])).rows),vi ((valW n (e.w++[g])).cols),.slice aN ((valW n (e.w++[g])).cells).length aO])]) (cs:=[.slice gS (e.w++([g])).length gT,vi ((valW n (e.w++[g])).rows),vi ((valW n (e.w++[g])).cols),.slice aN ((valW n (e.w++[g])).cells).length aO]) rfl (fun _=>by first|rfl|kernel_rfl)) ?_;exact fun a J=>l5 _ a _ rfl ⟨gS,gT,J.sb,cJ,d6,p⟩
       refine Yk rfl trivial (X8 (zs:=[.slice none 0 0,vi 0,vi 0,.slice none 0 0]) X37 rfl) (fun _ _ ⟨_,_,_,h,_⟩=>h) ?_;rintro _ rF ⟨b118,rfl,f7,o,mN⟩
       have f8:aM≠b118:=by have:=H.lt;omega
       have jP:=Nat.le_trans C.size f7;have jQ:=Nat.le_trans z.size f7;have jR:=Nat.le_trans p.size f7;have cJ:=cJ.below o;have C:=btr C o;have z:=btr z o;have p:=btr p o;exact fun a J=>l6 _ a _ rfl ⟨b118,gS,gT,J.sb,jP,mN,f8,jR,jQ,cJ,d6,p⟩
      ·refine Yz rfl trivial (Uev (X07 (l:=[vi ((valW n (e.w++[g])).rows),vi ((valW n (e.w++[g])).cols),.slice aN ((valW n (e.w++[g])).cells).length aO]) rfl X0e (aE.at 0) rfl)) ?_;exact fun a J=>iZ _ a _ rfl ⟨aK,aG,aQ,J.sb,bR,aR,aX,bS,bU,aC,W,aY,aL,p⟩
      refine Yk rfl trivial (X8 (zs:=[.slice none 0 0,vi 0,vi 0,.slice none 0 0]) X37 rfl) (fun _ _ ⟨_,_,_,h,_⟩=>h) ?_;rintro _ rG ⟨b121,rfl,fA,o,mO⟩
      have fB:aM≠b121:=by have:=H.lt;omega
      have jS:=Nat.le_trans C.size fA;have jT:=Nat.le_trans z.size fA;have jU:=Nat.le_trans p.size fA;have aR:=aR.below o;have aC:=aC.below o;have C:=btr C o;have z:=btr z o;have p:=btr p o;exact fun a J=>eP _ a _ rfl ⟨aK,b121,aG,aQ,J.sb,bR,aR,aX,jS,mO,fB,bS,bU,jU,jT,aC,W,aY,aL,p⟩
     intro j1;refine Yc [0,1,2,3,6] 5 (fun a w=>∃ aG aQ,Fr a 125 [(0,vi (n:Int)),(4,.pointer (some ⟨b3,0,none⟩)),(9,.pointer (some ⟨b17,0,none⟩)),(11,.slice bC N3.length bF),(13,.pointer (some ⟨aM,0,none⟩)),(20,.string (keyM (valW n (e.w++[g])))),(45,vi (k:Int)),(46,vi (r:Int)),(49,.slice b0 L.length b8),(50,vi (L.length:Int)),(51,vi (i:Int)),(56,.slice bL (gsT n).length bM),(57,vi ((gsT n).length:Int)),(58,vi (j:Int)),(98,.slice aG e.w.length aQ),(99,.agg #[vi g.k,vi g.a,vi g.b]),(102,.agg #[vi ((valW n (e.w++[g])).rows),vi ((valW n (e.w++[g])).cols),.slice aN ((valW n (e.w++[g])).cells).length aO])]∧Own w w29.heap.size 115 3 encG aG aQ e.w∧Away aG aZ∧Below w29.heap.size w29 w) ?_ ?_
     ·rintro a rH ⟨aG,aQ,J,aC,W,o⟩;clear p;have p:=o;have H:=H.below o;have G:=G.below o;have y:=y.below o;have C:=btr C o;have z:=btr z o;refine Yb J<|Y2 4 8 ?_ ?_
      ·refine Yk rfl trivial (X5 (k:=1) (vs:=[.agg #[vi g.k,vi g.a,vi g.b]]) (zs:=[vi g.k,vi g.a,vi g.b]) rfl Xf Xo rfl rfl) (fun _ _ ⟨_,_,_,h,_⟩=>h) ?_;rintro _ rI ⟨b124,rfl,d7,o,mP⟩
       have fC:aZ≠b124:=by have:=G.lt;omega
       have jV:=Nat.le_trans C.size d7;have jW:=Nat.le_trans z.size d7;have jX:=Nat.le_trans p.size d7;have fD:=y.away d7;have fE:=aC.away d7;have aC:=aC.below o;have C:=btr C o;have z:=btr z o;have p:=btr p o;exact fun a J=>iZ _ a _ rfl ⟨b124,aG,aQ,J.sb,jV,mP,fC,jX,jW,aC,W,fD,fE,p⟩
      refine Yk rfl trivial (X8 (zs:=[.slice none 0 0,vi 0,vi 0,.slice none 0 0]) X37 rfl) (fun _ _ ⟨_,_,_,h,_⟩=>h) ?_;rintro _ rJ ⟨b128,rfl,fF,o,mQ⟩
      have fG:aM≠b128:=by have:=H.lt;omega
      have jY:=Nat.le_trans C.size fF;have jZ:=Nat.le_trans z.size fF;have k0:=Nat.le_trans p.size fF;have aC:=aC.below o;have C:=btr C o;have z:=btr z o;have p:=btr p o;exact fun a J=>eW _ a _ rfl ⟨b128,aG,aQ,J.sb,jY,mQ,fG,k0,jZ,aC,W,p⟩
     intro j2;refine Yc [0,1,2,3,8] 5 (fun a w=>∃ cD aG aQ,Fr a 125 [(0,vi (n:Int)),(4,.pointer (some ⟨b3,0,none⟩)),(9,.pointer (some ⟨b17,0,none⟩)),(11,.slice bC N3.length bF),(13,.pointer (some ⟨aM,0,none⟩)),(18,.pointer (some ⟨b69,0,none⟩)),(20,.string (keyM (valW n (e.w++[g])))),(24,.pointer (some ⟨cD,0,none⟩)),(45,vi (k:Int)),(46,vi (r:Int)),(49,.slice b0 L.length b8),(50,vi (L.length:Int)),(51,vi (i:Int)),(56,.slice bL (gsT n).length bM),(57,vi ((gsT n).length:Int)),(58,vi (j:Int)),(98,.slice aG e.w.length aQ),(99,.agg #[vi g.k,vi g.a,vi g.b])]∧w0.heap.size≤cD∧Blk w cD 111 [.slice none 0 0,vi 0,vi 0,.slice none 0 0]∧aM≠cD∧w29.heap.size≤cD∧w28.heap.size≤cD∧Own w w29.heap.size 115 3 encG aG aQ e.w∧Away aG aZ∧Below w29.heap.size w29 w) ?_ ?_
     ·rintro a rK ⟨cD,aG,aQ,J,gU,dN,d8,gX,gY,aC,W,o⟩;clear p;have p:=o;have G:=G.below o;have aE:=aE.below o;have y:=y.below o;have C:=btr C o;have z:=btr z o;refine Yb J<|Y2 4 6 ?_ ?_
      ·refine Yk rfl trivial (X5 (k:=1) (vs:=[.agg #[vi g.k,vi g.a,vi g.b]]) (zs:=[vi g.k,vi g.a,vi g.b]) rfl Xf Xo rfl rfl) (fun _ _ ⟨_,_,_,h,_⟩=>h) ?_;rintro _ rL ⟨b131,rfl,d9,o,mR⟩
       have fH:aZ≠b131:=by have:=G.lt;omega
       have k5:=Nat.le_trans C.size d9;have k6:=Nat.le_trans z.size d9;have k7:=Nat.le_trans p.size d9;have fI:=y.away d9;have fJ:=aC.away d9;have dN:=dN.below o;have aC:=aC.below o;have C:=btr C o;have z:=btr z o;have p:=btr p o;exact fun a J=>eP _ a _ rfl ⟨b131,cD,aG,aQ,J.sb,k5,mR,fH,gU,dN,d8,k7,k6,gX,gY,aC,W,fI,fJ,p⟩
      refine Yz rfl trivial (Uev (X07 (l:=[vi ((valW n (e.w++[g])).rows),vi ((valW n (e.w++[g])).cols),.slice aN ((valW n (e.w++[g])).cells).length aO]) rfl X0e (aE.at 0) rfl)) ?_;exact fun a J=>eW _ a _ rfl ⟨cD,aG,aQ,J.sb,gU,dN,d8,gX,gY,aC,W,p⟩
     intro j3;refine Yc [0,1,3,4,6] 5 (fun a w=>∃ aH,Fr a 125 [(0,vi (n:Int)),(4,.pointer (some ⟨b3,0,none⟩)),(9,.pointer (some ⟨b17,0,none⟩)),(11,.slice bC N3.length bF),(13,.pointer (some ⟨aM,0,none⟩)),(20,.string (keyM (valW n (e.w++[g])))),(45,vi (k:Int)),(46,vi (r:Int)),(49,.slice b0 L.length b8),(50,vi (L.length:Int)),(51,vi (i:Int)),(56,.slice bL (gsT n).length bM),(57,vi ((gsT n).length:Int)),(58,vi (j:Int)),(97,.slice e.A e.w.length e.c),(100,.slice (some ⟨aH,0,none⟩) ([g]).length 1),(102,.agg #[vi ((valW n (e.w++[g])).rows),vi ((valW n (e.w++[g])).cols),.slice aN ((valW n (e.w++[g])).cells).length aO])]∧w0.heap.size≤aH∧Blk w aH 115 [vi g.k,vi g.a,vi g.b]∧aZ≠aH∧w29.heap.size≤aH∧w28.heap.size≤aH∧AwayR e.w e.A aH∧Below w29.heap.size w29 w) ?_ ?_
     ·rintro a rM ⟨aH,J,bI,aP,aT,bJ,bK,aU,o⟩;clear p;have p:=o;have H:=H.below o;have G:=G.below o;have y:=y.below o;have C:=btr C o;have z:=btr z o;refine Yb J<|Y2 2 8 ?_ ?_
      ·refine Yk rfl trivial (Vc (X5b _ e.A e.c e.w y.top (by omega)) X2p) (fun _ _ ⟨l9,lA,_,cK,o⟩=>o) ?_;rintro _ rN ⟨l9,lA,rfl,cK,o⟩;have fK:=cK.awayNew G.lt;have eF:=cK.awayNew aP.lt;have cK:=cK.lower p.size;have aP:=aP.below o;have C:=btr C o;have z:=btr z o;have p:=btr p o;exact fun a J=>iZ _ a _ rfl ⟨aH,l9,lA,J.sb,bI,aP,aT,bJ,bK,cK,fK,aU,eF,p⟩
      refine Yk rfl trivial (X8 (zs:=[.slice none 0 0,vi 0,vi 0,.slice none 0 0]) X37 rfl) (fun _ _ ⟨_,_,_,h,_⟩=>h) ?_;rintro _ rO ⟨b138,rfl,fL,o,mS⟩
      have fM:aM≠b138:=by have:=H.lt;omega
      have k8:=Nat.le_trans C.size fL;have kA:=Nat.le_trans z.size fL;have kB:=Nat.le_trans p.size fL;have aP:=aP.below o;have C:=btr C o;have z:=btr z o;have p:=btr p o;exact fun a J=>f6 _ a _ rfl ⟨aH,b138,J.sb,bI,aP,aT,k8,mS,fM,bJ,bK,kB,kA,aU,p⟩
     intro j4;refine Yc [0,1,3,4,8] 5 (fun a w=>∃ aH cE,Fr a 125 [(0,vi (n:Int)),(4,.pointer (some ⟨b3,0,none⟩)),(9,.pointer (some ⟨b17,0,none⟩)),(11,.slice bC N3.length bF),(13,.pointer (some ⟨aM,0,none⟩)),(18,.pointer (some ⟨b69,0,none⟩)),(20,.string (keyM (valW n (e.w++[g])))),(24,.pointer (some ⟨cE,0,none⟩)),(45,vi (k:Int)),(46,vi (r:Int)),(49,.slice b0 L.length b8),(50,vi (L.length:Int)),(51,vi (i:Int)),(56,.slice bL (gsT n).length bM),(57,vi ((gsT n).length:Int)),(58,vi (j:Int)),(97,.slice e.A e.w.length e.c),(100,.slice (some ⟨aH,0,none⟩) ([g]).length 1)]∧w0.heap.size≤aH∧Blk w aH 115 [vi g.k,vi g.a,vi g.b]∧aZ≠aH∧w0.heap.size≤cE∧Blk w cE 111 [.slice none 0 0,vi 0,vi 0,.slice none 0 0]∧aM≠cE∧w29.heap.size≤aH∧w28.heap.size≤aH∧w29.heap.size≤cE∧w28.heap.size≤cE∧AwayR e.w e.A aH∧Below w29.heap.size w29 w) ?_ ?_
     ·rintro a rP ⟨aH,cE,J,bI,aP,aT,hG,dO,dA,bJ,bK,hJ,hP,aU,o⟩;clear p;have p:=o;have G:=G.below o;have aE:=aE.below o;have y:=y.below o;have C:=btr C o;have z:=btr z o;refine Yb J<|Y2 2 6 ?_ ?_
      ·refine Yk rfl trivial (Vc (X5b _ e.A e.c e.w y.top (by omega)) X2p) (fun _ _ ⟨lB,lC,_,cL,o⟩=>o) ?_;rintro _ rQ ⟨lB,lC,rfl,cL,o⟩;have fN:=cL.awayNew G.lt;have eG:=cL.awayNew aP.lt;have cL:=cL.lower p.size;have aP:=aP.below o;have dO:=dO.below o;have C:=btr C o;have z:=btr z o;have p:=btr p o;exact fun a J=>eP _ a _ rfl ⟨aH,cE,lB,lC,J.sb,bI,aP,aT,hG,dO,dA,bJ,bK,hJ,hP,cL,fN,aU,eG,p⟩
      refine Yz rfl trivial (Uev (X07 (l:=[vi ((valW n (e.w++[g])).rows),vi ((valW n (e.w++[g])).cols),.slice aN ((valW n (e.w++[g])).cells).length aO]) rfl X0e (aE.at 0) rfl)) ?_;exact fun a J=>f6 _ a _ rfl ⟨aH,cE,J.sb,bI,aP,aT,hG,dO,dA,bJ,bK,hJ,hP,aU,p⟩
     intro j5;refine Yc [0,1,3,6,8] 5 (fun a w=>∃ cF,Fr a 125 [(0,vi (n:Int)),(4,.pointer (some ⟨b3,0,none⟩)),(9,.pointer (some ⟨b17,0,none⟩)),(11,.slice bC N3.length bF),(13,.pointer (some ⟨aM,0,none⟩)),(20,.string (keyM (valW n (e.w++[g])))),(24,.pointer (some ⟨cF,0,none⟩)),(45,vi (k:Int)),(46,vi (r:Int)),(49,.slice b0 L.length b8),(50,vi (L.length:Int)),(51,vi (i:Int)),(56,.slice bL (gsT n).length bM),(57,vi ((gsT n).length:Int)),(58,vi (j:Int)),(97,.slice e.A e.w.length e.c),(99,.agg #[vi g.k,vi g.a,vi g.b]),(102,.agg #[vi ((valW n (e.w++[g])).rows),vi ((valW n (e.w++[g])).cols),.slice aN ((valW n (e.w++[g])).cells).length aO])]∧w0.heap.size≤cF∧Blk w cF 111 [.slice none 0 0,vi 0,vi 0,.slice none 0 0]∧aM≠cF∧w29.heap.size≤cF∧w28.heap.size≤cF∧Below w29.heap.size w29 w) ?_ ?_
     ·rintro a rR ⟨cF,J,hY,cM,dB,hZ,i6,o⟩;clear p;have p:=o;have G:=G.below o;have y:=y.below o;have C:=btr C o;have z:=btr z o;refine Yb J<|Y2 2 4 ?_ ?_
      ·refine Yk rfl trivial (Vc (X5b _ e.A e.c e.w y.top (by omega)) X2p) (fun _ _ ⟨lD,lE,_,dC,o⟩=>o) ?_;rintro _ rS ⟨lD,lE,rfl,dC,o⟩;have fO:=dC.awayNew G.lt;have dC:=dC.lower p.size;have cM:=cM.below o;have C:=btr C o;have z:=btr z o;have p:=btr p o;exact fun a J=>eW _ a _ rfl ⟨cF,lD,lE,J.sb,hY,cM,dB,hZ,i6,dC,fO,p⟩
      refine Yk rfl trivial (X5 (k:=1) (vs:=[.agg #[vi g.k,vi g.a,vi g.b]]) (zs:=[vi g.k,vi g.a,vi g.b]) rfl Xf Xo rfl rfl) (fun _ _ ⟨_,_,_,h,_⟩=>h) ?_;rintro _ rT ⟨b145,rfl,dP,o,mT⟩
      have fP:aZ≠b145:=by have:=G.lt;omega
      have kC:=Nat.le_trans C.size dP;have kD:=Nat.le_trans z.size dP;have kE:=Nat.le_trans p.size dP;have fQ:=y.away dP;have cM:=cM.below o;have C:=btr C o;have z:=btr z o;have p:=btr p o;exact fun a J=>f6 _ a _ rfl ⟨b145,cF,J.sb,kC,mT,fP,hY,cM,dB,kE,kD,hZ,i6,fQ,p⟩
     intro j6;refine Y4 2 4 6 8 ?_ ?_ ?_ ?_
     ·refine Yk rfl trivial (Vc (X5b _ e.A e.c e.w y.top (by omega)) X2p) (fun _ _ ⟨i7,i8,_,b1,o⟩=>o) ?_;rintro _ rU ⟨i7,i8,rfl,b1,o⟩;have bW:=b1.awayNew G.lt;have b1:=b1.lower p.size;have H:=H.below o;have G:=G.below o;have aE:=aE.below o;have y:=y.below o;have C:=btr C o;have z:=btr z o;have p:=btr p o;refine Y3 4 6 8 ?_ ?_ ?_
      ·refine Yk rfl trivial (X5 (k:=1) (vs:=[.agg #[vi g.k,vi g.a,vi g.b]]) (zs:=[vi g.k,vi g.a,vi g.b]) rfl Xf Xo rfl rfl) (fun _ _ ⟨_,_,_,h,_⟩=>h) ?_;rintro _ rW ⟨b148,rfl,dD,o,mU⟩
       have fR:aZ≠b148:=by have:=G.lt;omega
       have kF:=Nat.le_trans C.size dD;have kG:=Nat.le_trans z.size dD;have kH:=Nat.le_trans p.size dD;have fS:=y.away dD;have eH:=b1.away dD;have b1:=b1.below o;have C:=btr C o;have z:=btr z o;have p:=btr p o;exact fun a J=>j1 _ a _ rfl ⟨b148,i7,i8,J.sb,kF,mU,fR,kH,kG,b1,bW,fS,eH,p⟩
      ·refine Yz rfl trivial (Uev (X07 (l:=[vi ((valW n (e.w++[g])).rows),vi ((valW n (e.w++[g])).cols),.slice aN ((valW n (e.w++[g])).cells).length aO]) rfl X0e (aE.at 0) rfl)) ?_;exact fun a J=>j2 _ a _ rfl ⟨i7,i8,J.sb,b1,bW,p⟩
      refine Yk rfl trivial (X8 (zs:=[.slice none 0 0,vi 0,vi 0,.slice none 0 0]) X37 rfl) (fun _ _ ⟨_,_,_,h,_⟩=>h) ?_;rintro _ rX ⟨b152,rfl,fT,o,mW⟩
      have fU:aM≠b152:=by have:=H.lt;omega
      have kI:=Nat.le_trans C.size fT;have kJ:=Nat.le_trans z.size fT;have kK:=Nat.le_trans p.size fT;have b1:=b1.below o;have C:=btr C o;have z:=btr z o;have p:=btr p o;exact fun a J=>j3 _ a _ rfl ⟨b152,i7,i8,J.sb,kI,mW,fU,kK,kJ,b1,bW,p⟩
     ·refine Yk rfl trivial (X5 (k:=1) (vs:=[.agg #[vi g.k,vi g.a,vi g.b]]) (zs:=[vi g.k,vi g.a,vi g.b]) rfl Xf Xo rfl rfl) (fun _ _ ⟨_,_,_,h,_⟩=>h) ?_;rintro _ rY ⟨b153,rfl,dQ,o,bN⟩
      have bX:aZ≠b153:=by have:=G.lt;omega
      have dR:=Nat.le_trans C.size dQ;have dS:=Nat.le_trans z.size dQ;have dT:=Nat.le_trans p.size dQ;have bY:=y.away dQ;have H:=H.below o;have G:=G.below o;have aE:=aE.below o;have y:=y.below o;have C:=btr C o;have z:=btr z o;have p:=btr p o;refine Y3 2 6 8 ?_ ?_ ?_
      ·refine Yk rfl trivial (Vc (X5b _ e.A e.c e.w y.top (by omega)) X2p) (fun _ _ ⟨lF,lG,_,cN,o⟩=>o) ?_;rintro _ rZ ⟨lF,lG,rfl,cN,o⟩;have fV:=cN.awayNew G.lt;have eI:=cN.awayNew bN.lt;have cN:=cN.lower p.size;have bN:=bN.below o;have C:=btr C o;have z:=btr z o;have p:=btr p o;exact fun a J=>j1 _ a _ rfl ⟨b153,lF,lG,J.sb,dR,bN,bX,dT,dS,cN,fV,bY,eI,p⟩
      ·refine Yz rfl trivial (Uev (X07 (l:=[vi ((valW n (e.w++[g])).rows),vi ((valW n (e.w++[g])).cols),.slice aN ((valW n (e.w++[g])).cells).length aO]) rfl X0e (aE.at 0) rfl)) ?_;exact fun a J=>j4 _ a _ rfl ⟨b153,J.sb,dR,bN,bX,dT,dS,bY,p⟩
      refine Yk rfl trivial (X8 (zs:=[.slice none 0 0,vi 0,vi 0,.slice none 0 0]) X37 rfl) (fun _ _ ⟨_,_,_,h,_⟩=>h) ?_;rintro _ s8 ⟨b158,rfl,fW,o,mX⟩
      have fX:aM≠b158:=by have:=H.lt;omega
      have kL:=Nat.le_trans C.size fW;have kM:=Nat.le_trans z.size fW;have kN:=Nat.le_trans p.size fW;have bN:=bN.below o;have C:=btr C o;have z:=btr z o;have p:=btr p o;exact fun a J=>j5 _ a _ rfl ⟨b153,b158,J.sb,dR,bN,bX,kL,mX,fX,dT,dS,kN,kM,bY,p⟩
     ·refine Yz rfl trivial (Uev (X07 (l:=[vi ((valW n (e.w++[g])).rows),vi ((valW n (e.w++[g])).cols),.slice aN ((valW n (e.w++[g])).cells).length aO]) rfl X0e (aE.at 0) rfl)) ?_;refine Y3 2 4 8 ?_ ?_ ?_
      ·refine Yk rfl trivial (Vc (X5b _ e.A e.c e.w y.top (by omega)) X2p) (fun _ _ ⟨lH,lI,_,dE,o⟩=>o) ?_;rintro _ sA ⟨lH,lI,rfl,dE,o⟩;have fY:=dE.awayNew G.lt;have dE:=dE.lower p.size;have C:=btr C o;have z:=btr z o;have p:=btr p o;exact fun a J=>j2 _ a _ rfl ⟨lH,lI,J.sb,dE,fY,p⟩
      ·refine Yk rfl trivial (X5 (k:=1) (vs:=[.agg #[vi g.k,vi g.a,vi g.b]]) (zs:=[vi g.k,vi g.a,vi g.b]) rfl Xf Xo rfl rfl) (fun _ _ ⟨_,_,_,h,_⟩=>h) ?_;rintro _ sB ⟨b160,rfl,dU,o,mY⟩
       have fZ:aZ≠b160:=by have:=G.lt;omega
       have kO:=Nat.le_trans C.size dU;have kP:=Nat.le_trans z.size dU;have kQ:=Nat.le_trans p.size dU;have g4:=y.away dU;have C:=btr C o;have z:=btr z o;have p:=btr p o;exact fun a J=>j4 _ a _ rfl ⟨b160,J.sb,kO,mY,fZ,kQ,kP,g4,p⟩
      refine Yk rfl trivial (X8 (zs:=[.slice none 0 0,vi 0,vi 0,.slice none 0 0]) X37 rfl) (fun _ _ ⟨_,_,_,h,_⟩=>h) ?_;rintro _ sC ⟨b164,rfl,g5,o,n0⟩
      have g6:aM≠b164:=by have:=H.lt;omega
      have kR:=Nat.le_trans C.size g5;have kS:=Nat.le_trans z.size g5;have kT:=Nat.le_trans p.size g5;have C:=btr C o;have z:=btr z o;have p:=btr p o;exact fun a J=>j6 _ a _ rfl ⟨b164,J.sb,kR,n0,g6,kT,kS,p⟩
     refine Yk rfl trivial (X8 (zs:=[.slice none 0 0,vi 0,vi 0,.slice none 0 0]) X37 rfl) (fun _ _ ⟨_,_,_,h,_⟩=>h) ?_;rintro _ sD ⟨b167,rfl,g7,o,bZ⟩
     have c4:aM≠b167:=by have:=H.lt;omega
     have dW:=Nat.le_trans C.size g7;have dX:=Nat.le_trans z.size g7;have dY:=Nat.le_trans p.size g7;have G:=G.below o;have aE:=aE.below o;have y:=y.below o;have C:=btr C o;have z:=btr z o;have p:=btr p o;refine Y3 2 4 6 ?_ ?_ ?_
     ·refine Yk rfl trivial (Vc (X5b _ e.A e.c e.w y.top (by omega)) X2p) (fun _ _ ⟨lJ,lK,_,dF,o⟩=>o) ?_;rintro _ sE ⟨lJ,lK,rfl,dF,o⟩;have g8:=dF.awayNew G.lt;have dF:=dF.lower p.size;have bZ:=bZ.below o;have C:=btr C o;have z:=btr z o;have p:=btr p o;exact fun a J=>j3 _ a _ rfl ⟨b167,lJ,lK,J.sb,dW,bZ,c4,dY,dX,dF,g8,p⟩
     ·refine Yk rfl trivial (X5 (k:=1) (vs:=[.agg #[vi g.k,vi g.a,vi g.b]]) (zs:=[vi g.k,vi g.a,vi g.b]) rfl Xf Xo rfl rfl) (fun _ _ ⟨_,_,_,h,_⟩=>h) ?_;rintro _ sF ⟨b169,rfl,e8,o,n3⟩
      have gA:aZ≠b169:=by have:=G.lt;omega
      have kU:=Nat.le_trans C.size e8;have kW:=Nat.le_trans z.size e8;have kX:=Nat.le_trans p.size e8;have gB:=y.away e8;have bZ:=bZ.below o;have C:=btr C o;have z:=btr z o;have p:=btr p o;exact fun a J=>j5 _ a _ rfl ⟨b169,b167,J.sb,kU,n3,gA,dW,bZ,c4,kX,kW,dY,dX,gB,p⟩
     refine Yz rfl trivial (Uev (X07 (l:=[vi ((valW n (e.w++[g])).rows),vi ((valW n (e.w++[g])).cols),.slice aN ((valW n (e.w++[g])).cells).length aO]) rfl X0e (aE.at 0) rfl)) ?_;exact fun a J=>j6 _ a _ rfl ⟨b167,J.sb,dW,bZ,c4,dY,dX,p⟩
    rintro a sG ⟨bQ,aS,aW,J,eK,bH,dL,b4,cX,o⟩;have iM:=aF.away cX;have nG:=U.away cX;have M:=M.below o;have q:=q.below o;have I:=I.below o;have H:=H.below o;have aF:=aF.below o;have U:=U.below o;have N:=N.below o;have y:=y.below o;have aD:=aD.below o;have aB:=aB.below o;have b2:=b2.below o;have aJ:=aJ.below o;have aI:=aI.below o;have Q:=Q.below o;have C:=btr C o;refine oW _ _<|Zs J fun _ n5=>?_;refine Ze (Vd rfl X56 0)<|Ze (X0 rfl X7p (I.at 0))<|Zm rfl<|Ze (Vd rfl Xa5 0)<|Ze (X0 rfl X15 (bH.at 0)) ?_;refine Zo (Xwl (f:=sgF Fk) (s:=keyM (valW n (e.w++[g]))) rfl rfl rfl Tryz.underlying71 Tryz.underlying9 q (Xni (by simpa using gL))) ?_;rintro _ sH ⟨ho,cR⟩;have iN:=DeepM.upd (s:=keyM (valW n (e.w++[g]))) (x:=(⟨aS,aW,e.w++([g])⟩ : Sq)) Q.top b4.rd.top
    clear Q;have Q:=iN;clear iN;have bD:=q.nc;have M:=M.onlyN ho bD;have I:=I.onlyN ho bD;have H:=H.onlyN ho bD;have bH:=bH.onlyN ho bD;have aF:=aF.onlyN ho bD;have U:=U.onlyN ho bD;have N:=N.onlyN ho bD;have y:=y.onlyN ho bD;have aD:=aD.onlyN ho bD;have aB:=aB.onlyN ho bD;have b2:=b2.onlyN ho bD;have b4:=b4.onlyN ho bD;have aJ:=aJ.onlyN ho bD;have aI:=aI.onlyN ho bD;have Q:=Q.onlyN ho bD;have C:=Below.only C ho eJ
    rw [show Value.slice aS (e.w++([g])).length aW=Sq.v (⟨aS,aW,e.w++([g])⟩ : Sq) from rfl,Xh7] at cR
    have q:=cR;clear cR ho bD;refine Zt n5 fun a J=>?_;refine Zr J<|Zm rfl<|Ze (Vn Xgu bH)<|Zf (X5 (k:=1) (vs:=[.agg #[.slice aS (e.w++([g])).length aW,vi ((valW n (e.w++[g])).rows),vi ((valW n (e.w++[g])).cols),.slice aN ((valW n (e.w++[g])).cells).length aO]]) (zs:=[.slice aS (e.w++([g])).length aW,vi ((valW n (e.w++[g])).rows),vi ((valW n (e.w++[g])).cols),.slice aN ((valW n (e.w++[g])).cells).length aO]) rfl X3q X6i rfl rfl) ?_;rintro _ sI ⟨b172,rfl,gC,o,gD⟩
    have n6:aM≠b172:=by have:=H.lt;omega
    have n7:bQ≠b172:=by have:=bH.lt;omega
    have p9:=Nat.le_trans C.size gC;have gE:=aF.away gC;have n8:=U.away gC;have M:=M.below o;have q:=q.below o;have I:=I.below o;have H:=H.below o;have bH:=bH.below o;have aF:=aF.below o;have U:=U.below o;have N:=N.below o;have y:=y.below o;have aD:=aD.below o;have aB:=aB.below o;have b2:=b2.below o;have b4:=b4.below o;have aJ:=aJ.below o;have aI:=aI.below o;have Q:=Q.below o;have C:=btr C o;refine Zf (X11 (enc:=encTw) (l:=(N3)) (l2:=([(⟨aS,aW,e.w++([g]),(valW n (e.w++[g])),aN,aO⟩ : Tw)])) (B0:=w0.heap.size) rfl rfl X3q X6i X6s Xjc aF (Rd.of_blk gD rfl _ gD.lt) (by simp only [maxLen];simp;omega) (by simp;omega) C.size) ?_;rintro _ sJ ⟨p5,p6,rfl,n9,hg,b6⟩
    have aA:Own _ w0.heap.size 111 4 encTw _ _ (N3):=aF
    have gF:=b6 _ H.lt cG;have nA:=b6 _ bH.lt iM;have lL:=b6 _ gD.lt gE;have gG:=Apart.app U bO b6;clear b6;have eA:=DeepT.snoc (l:=N3) (x:=(⟨aS,aW,e.w++([g]),(valW n (e.w++[g])),aN,aO⟩ : Tw)) aJ.top b4.rd.top b2.rd.top;have M:=M.appT aA hg rfl;have q:=q.app aA hg;have I:=I.appT aA hg rfl;have H:=H.appA hg cG;have U:=U.appP hg bO;have N:=N.appT aA hg rfl;have y:=y.appT aA hg rfl;have aD:=aD.appT aA hg rfl;have aB:=aB.appT aA hg rfl;have aI:=aI.appT aA hg rfl rfl;have eA:=eA.appT aA hg rfl rfl;have Q:=Q.appT aA hg rfl;have C:=Below.app C aA hg (Nat.le_refl _) C.size;clear aA hg;refine Za rfl ?_;refine Zn fun a J=>?_;refine Xt<|l4 _ _<|Zr J<|Ze (X06 rfl rfl (by omega) (by omega))<|Zm rfl ?_;refine Zn fun a J=>?_;refine Xp ?_;exact ⟨(j+1,N3++([(⟨aS,aW,e.w++([g]),(valW n (e.w++[g])),aN,aO⟩ : Tw)]),(updG Fk (keyM (valW n (e.w++[g]))) (⟨aS,aW,e.w++([g])⟩ : Sq))),⟨p5,p6,J.sb,(by omega),(Xum hS hL dI gK oE gL rfl rfl),(Xoz lV rfl),M,q,I,H,n9,U,N,y.top,aD.top,aB.top,eA.top,aI.top,Q.top,gF,gG,C⟩,(by first|omega|(dsimp only;omega))⟩
   have lW:=cU;have cU:=of_decide_eq_false cU
   have pW:j=(gsT n).length:=by omega
   refine wp_exit<|Xl<|Xl<|X0a ?_;refine Xt<|o8 _ _<|Zr J<|Ze (X06 rfl rfl (by omega) (by omega))<|Zm rfl ?_;refine Zn fun a J=>?_;refine Xp ?_;exact ⟨(i+1,N3,Fk),⟨bC,bF,J.sb,(by omega),(Xrb (by rw [← pW];exact hS) (by rw [← Xfo hL];omega)),lV,M,q,I,aF,U,N,aJ.top,aI.top,Q.top,bO,C⟩,(by first|omega|(dsimp only;omega))⟩
  have lS:=cT;have cT:=of_decide_eq_false cT
  have pX:i=L.length:=by omega
  have p8:StW n r (tbW n r).2.length 0 Fj N2:=by rw [← Xfo hL,← pX];exact o5
  refine wp_exit<|Xl<|Xl<|X0a ?_;refine o3 _ _<|Zs J fun _ nB=>?_;refine Zm rfl<|Za rfl<|Zt nB fun a J=>?_;refine Zr J<|Ze (Vd rfl Xag 1)<|Ze (X0 rfl X4d (I.at 1))<|Zm rfl<|Ze (X0x rfl X3q)<|Zf (X5 (k:=1) (vs:=[vi (N2.length:Int)]) (zs:=[vi (N2.length:Int)]) rfl X08 X1o rfl rfl) ?_;rintro _ sK ⟨q5,rfl,j7,o,gH⟩;have pC:=Nat.le_trans C.size j7;have gI:=N.away j7;have M:=M.below o;have q:=q.below o;have I:=I.below o;have b9:=b9.below o;have N:=N.below o;have bE:=bE.below o;have Q:=Q.below o;have C:=btr C o;refine Zf (X11 (enc:=encI) (l:=(zs)) (l2:=([(N2.length:Int)])) (B0:=w0.heap.size) rfl rfl X08 X1o X02 X2v N (Rd.of_blk gH rfl _ gH.lt) (by simp only [maxLen];simp;omega) (by simp;omega) C.size) ?_;rintro _ sL ⟨j8,jA,rfl,gJ,hg,b6⟩
  have aA:Own _ w0.heap.size 3 1 encI _ _ (zs):=N
  have lM:=b6 _ gH.lt gI;clear b6;have M:=M.appT aA hg rfl;have q:=q.app aA hg;have I:=I.appT aA hg rfl;have b9:=b9.appT aA hg rfl;have bE:=bE.appT aA hg rfl rfl;have Q:=Q.appT aA hg rfl;have C:=Below.app C aA hg (Nat.le_refl _) C.size;clear aA hg;refine Ze (Vd rfl Xag 1)<|Zo (Vu (vs:=[.slice j8 (zs++([(N2.length:Int)])).length jA]) (l':=[.map (some cA),.slice j8 (zs++([(N2.length:Int)])).length jA]) rfl rfl Xdo I) ?_;rintro _ sM ⟨ho,hb⟩;have E:=I;have M:=M.only ho (by omega);have q:=q.only ho (q.ne E);have b9:=b9.onlyT ho E rfl;have gJ:=gJ.onlyT ho E rfl;have bE:=bE.onlyT ho E rfl rfl;have Q:=Q.onlyT ho E rfl;have C:=Below.only C ho iO;have I:=hb;refine Zn fun a J=>?_;refine Xt<|nY _ _<|Zr J<|Ze (X06 rfl rfl (by omega) (by omega))<|Zm rfl ?_;refine Zn fun a J=>?_;refine Xp ?_;exact ⟨(r+1,N2,Fj,zs++([(N2.length:Int)])),⟨iB,iP,j8,jA,J.sb,(by omega),(Xd0 p8).2,(Xd0 p8).1,l3,(by simp;omega),M,q,I,b9,gJ,bE.top,Q.top,C⟩,(by first|omega|(dsimp only;omega))⟩
 have lQ:=cS;have cS:=of_decide_eq_false cS;refine wp_exit<|Xl<|Xl<|X0a ?_;refine nT _ _<|Zs J fun _ nC=>?_;refine Ze (Vn Xhn I)<|Zo (Vw [.map (some cA),.slice dG zs.length dH] X7m M) ?_;rintro _ sO ⟨ho,hb⟩;have E:=M;have q:=q.only ho (q.ne E);have N:=N.onlyT ho E rfl;have Q:=Q.onlyT ho E rfl;have C:=Below.only C ho nJ;have M:=hb;refine Zt nC fun a J=>?_
 refine wp_ret (X2 J (Xv J rfl (ResV.cellN (l:=[.map (some cA),.slice dG zs.length dH]) rfl Xhn (M.at 0) rfl)) ?_)
 obtain rfl:r=k:=by omega
 exact ⟨cA,Fg,dG,dH,zs,rfl,q,Q.top,hF,N,eJ,C⟩
def cWd(m:Mx) : Option Cx:=(shS m).map fun w=>⟨(nW m:Int),w⟩
def shC(m:Mx) : Bool:=canY m&&(decide (m.rows=m.cols)&&(decide (m.rows=2)||decide (m.rows=4)))
theorem Xb1{o:Option (List Gt)}(h:o.isSome=true) : o=some (o.getD []):=by
 cases o with
 | none=>cases h
 | some x=>rfl
theorem Xha(n:Nat)(m x:Mx) : fdS n m 0 x=if phaseS x m=true then some [] else none:=rfl
def NoF(n:Nat)(m x:Mx)(k i:Nat) : Prop:=((gsT n).take i).findSome? (fun g=>(fdS n m k (timesS false (gateS n g) x).2).map (g :: ·))=none
theorem Xkq(n:Nat)(m x:Mx)(k:Nat) : NoF n m x k 0:=rfl
theorem Xln{n:Nat}{m x:Mx}{k i:Nat}{u:Gt}(h:NoF n m x k i)(hu:(gsT n)[i]? = some u)(hn:(fdS n m k (timesS false (gateS n u) x).2).isSome=false) : NoF n m x k (i+1):=by
 unfold NoF at *
 rw [List.take_add_one,hu,List.findSome?_append,h]
 cases e:fdS n m k (timesS false (gateS n u) x).2 with
 | none=>simp [e]
 | some y=>rw [e] at hn;cases hn
theorem Xpa{n:Nat}{m x:Mx}{k i:Nat}(h:NoF n m x k i)(hi:(gsT n).length≤i) : fdS n m (k+1) x=none:=by
 unfold NoF at h
 rw [List.take_of_length_le hi] at h
 exact h
theorem Xm5{n:Nat}{m x:Mx}{k i:Nat}{u:Gt}(h:NoF n m x k i)(hu:(gsT n)[i]? = some u)(hn:(fdS n m k (timesS false (gateS n u) x).2).isSome=true) : fdS n m (k+1) x=some (u::(fdS n m k (timesS false (gateS n u) x).2).getD []):=by
 unfold NoF at h
 obtain ⟨h1,h2⟩:=List.getElem?_eq_some_iff.1 hu
 have e:gsT n=(gsT n).take i++u::(gsT n).drop (i+1):=by
  rw [← h2,← List.drop_eq_getElem_cons h1,List.take_append_drop]
 have hd:fdS n m (k+1) x=(gsT n).findSome? fun g=>(fdS n m k (timesS false (gateS n g) x).2).map (g :: ·):=rfl
 rw [hd,e,List.findSome?_append,h,List.findSome?_cons]
 cases e2:fdS n m k (timesS false (gateS n u) x).2 with
 | none=>rw [e2] at hn;cases hn
 | some y=>rfl
theorem Xeq{n:Nat}{m:Mx} : ∀ {k:Nat} {x:Mx} {w:List Gt},fdS n m k x=some w→w.length=k
 | 0,x,w,h=>by
  rw [Xha] at h
  split at h
  ·injection h with h;subst h;rfl
  ·cases h
 | k+1,x,w,h=>by
  have hd:fdS n m (k+1) x=(gsT n).findSome? fun g=>(fdS n m k (timesS false (gateS n g) x).2).map (g :: ·):=rfl
  rw [hd] at h
  obtain ⟨g,hg,h2⟩:=List.exists_of_findSome?_eq_some h;obtain ⟨y,hy,rfl⟩:=Option.map_eq_some_iff.1 h2
  rw [List.length_cons,Xeq hy]
theorem Xae{n:Nat}{m:Mx}{k:Nat}{x:Mx} : ((fdS n m k x).getD []).length≤k:=by
 cases e:fdS n m k x with
 | none=>simp
 | some w=>simp [Xeq e]
theorem Xoq{n j k i:Nat}(hn:n=1∨n=2)(hjk:j+(k+1)≤8){w:List Gt}{x:Mx}{u:Gt}(hw:w ∈ wds (gsT n) j)(hx:x=valW n w)(hu:(gsT n)[i]? = some u) :
  gOk (n:Int) u=true∧mOk (gateS n u)=true∧mOk x=true∧(gateS n u).cols=x.rows∧timesS false (gateS n u) x=(false,valW n (w++[u]))∧w++[u] ∈ wds (gsT n) (j+1)∧(valW n (w++[u])).cells.length=2^n*2^n:=by
 have hm:=List.mem_of_getElem? hu;have hg:=X5k hn u hm;obtain ⟨g1,g2⟩:=X2q hg.1
 obtain ⟨h1,h2,h3,_⟩:=X22 hn (by omega:j≤8) hw
 have hs:=X2u hw hm
 refine ⟨hg.1,g2,by rw [hx];exact h1,?_,by rw [hx];exact X9u hn (by omega) hw hm,hs,X3z hn (by omega) hs⟩
 rw [hx,h2];rfl
theorem Xhq{n:Nat}{m:Mx}{k:Nat}(h:∀ j,j<k→fdS n m j (unitS (2^n))=none){l:List Gt}(hl:fdS n m k (unitS (2^n))=some l) : ∀ K,k≤K→srS n m K=some l
 | 0,hK=>by
  obtain rfl:k=0:=by omega
  exact hl
 | K+1,hK=>by
  unfold srS
  by_cases e:k=K+1
  ·subst e
   have:∀ j,j<K+1→srS n m j=none:=by
    intro j
    induction j with
    | zero=>intro hj;exact h 0 (by omega)
    | succ j ih=>intro hj;unfold srS;rw [ih (by omega),h (j+1) hj];rfl
   rw [this K (by omega),hl];rfl
  ·rw [Xhq h hl K (by omega)];rfl
theorem fd0(n:Nat)(m x:Mx) : (fdS n m 0 x).getD []=[]∧(fdS n m 0 x).isSome=phaseS x m:=by
 rw [Xha]
 cases phaseS x m<;>exact ⟨rfl,rfl⟩
theorem X9q{n j:Nat}{m x:Mx}(h:∀ i,i<j→fdS n m i x=none)(hs:(fdS n m j x).isSome=false) : ∀ i,i<j+1→fdS n m i x=none:=fun i hi=>by
 by_cases e:i=j
 ·subst e;cases e2:fdS n m i x with
  | none=>rfl
  | some y=>rw [e2] at hs;cases hs
 ·exact h i (by omega)
theorem Xu6(z:World)(n:Nat)(x:Mx)(Ax:Option Addr)(cx:Nat)(J:Rd z z.heap.size 95 encD Ax x.cells)(m:Mx)(Am:Option Addr)(cm:Nat)(L:Rd z z.heap.size 95 encD Am m.cells)(k:Nat)(hn:n=1∨n=2)(wd:List Gt)(jj:Nat)(bQ:jj+k≤8)(aF:wd ∈ wds (gsT n) jj)(hx:x=valW n wd)(aA:m.cells.length=2^n*2^n)(IH:∀ (B:Nat),B<k→∀ (z:World) (n:Nat) (x:Mx) (Ax:Option Addr) (cx:Nat) (J:Rd z z.heap.size 95 encD Ax x.cells) (m:Mx) (Am:Option Addr) (cm:Nat) (L:Rd z z.heap.size 95 encD Am m.cells) (hn:n=1∨n=2) (wd:List Gt) (jj:Nat) (bQ:jj+B≤8) (aF:wd ∈ wds (gsT n) jj) (hx:x=valW n wd) (aA:m.cells.length=2^n*2^n),Ret Tryz.prog 61 [vi (n:Int),mV Ax cx x,mV Am cm m,vi (B:Int)] z (fun v w=>∃ A c1,v=.tuple #[.slice A ((fdS n m B x).getD []).length c1,.bool (fdS n m B x).isSome]∧Own w z.heap.size 115 3 encG A c1 ((fdS n m B x).getD [])∧Below z.heap.size z w)) : Ret Tryz.prog 61 [vi (n:Int),.agg #[vi x.rows,vi x.cols,.slice Ax x.cells.length cx],.agg #[vi m.rows,vi m.cols,.slice Am m.cells.length cm],vi (k:Int)] z (fun v w=>∃ A c1,v=.tuple #[.slice A ((fdS n m k x).getD []).length c1,.bool ((fdS n m k x).isSome)]∧Own w z.heap.size 115 3 encG A c1 ((fdS n m k x).getD [])∧Below z.heap.size z w):=by
 have bR:x.cells.length=2^n*2^n:=by rw [hx];exact X3z hn (by omega) aF
 refine enter Tryz.func61 rfl 55 rfl rfl ?_;intro a q
 have p:=bz z
 refine Zs q fun _ bS=>?_;refine Zf (X0i (zs:=[vi x.rows,vi x.cols,.slice Ax x.cells.length cx]) rfl rfl) ?_;rintro _ w1 ⟨b4,rfl,bU,j,g⟩;have cJ:=Nat.le_trans p.size bU;have p:=btr p j;refine Zf (X0i (zs:=[vi m.rows,vi m.cols,.slice Am m.cells.length cm]) rfl rfl) ?_;rintro _ w2 ⟨b5,rfl,bW,j,o⟩
 have bP:b4≠b5:=by have:=g.lt;omega
 have cK:=Nat.le_trans p.size bW;have g:=g.below j;have p:=btr p j;refine Za rfl<|Za rfl<|ZX bS fun a q _ bX=>?_;refine Zs q fun _ bY=>?_;refine Zm rfl<|Ze (X13 rfl rfl)<|Zt bY fun a q=>?_
 refine Xk q rfl (fun M=>?_) (fun M=>?_)
 ·have b0:=M
  have bZ:k=0:=by have h9:(k:Int)=0:=(by simpa using M);omega
  refine Zs q fun _ b1=>?_;refine Ze (Vn X0e g)<|Ze (Vn X0e o)<|Zf (Vc (Xzg _ x Ax cx (J.below' p).top m Am cm (L.below' p).top (by rw [bR,aA]) (by rw [aA];rcases hn with rfl|rfl<;>decide)) Xtd) ?_;rintro _ w3 ⟨ix,rfl,j⟩;have p:=btr p j;refine Zm rfl<|Ze (X4 (vs:=[vi ix,.bool (phaseS x m)]) rfl rfl)<|Ze (X4 (vs:=[vi ix,.bool (phaseS x m)]) rfl rfl)<|Za rfl<|Za rfl ?_;refine Zx b1 fun a q _ b2=>?_;refine Zm rfl<|Za rfl<|Za rfl<|Zt b2 fun a q=>?_;refine wp_ret<|X3<|X2 q (X0w q rfl rfl rfl) ?_
  subst bZ
  obtain ⟨f1,f2⟩:=fd0 n m x
  rw [f1,f2]
  exact ⟨none,0,rfl,(Own.nil _ _ _ _ _),p⟩
 have b0:=M
 obtain ⟨B,b3⟩ : ∃ B,k=B+1:=⟨k-1,by have h9:¬ (k:Int)=0:=(by simpa using M);omega⟩
 refine wp_skip<|bX _ _<|Zs q fun _ b6=>?_;refine Ze (Xg (ps:=[]) (cs:=[.bool false]) rfl (fun _=>by first|rfl|kernel_rfl))<|Zf (X0i (zs:=[.bool false]) rfl rfl) ?_;rintro _ w4 ⟨N,rfl,b7,j,d⟩;have aG:=Nat.le_trans p.size b7;have g:=g.below j;have o:=o.below j;have p:=btr p j;refine Za rfl<|ZX b6 fun a q _ b8=>?_;refine Zs q fun _ b9=>?_;refine Zm rfl<|Zf (X1x (vs:=[vi (n:Int)]) rfl Xqb (by have hq:=Xwe w4 (n:Int) (by omega);rw [Int.toNat_natCast] at hq;exact hq)) ?_;rintro _ w5 ⟨bC,bD,rfl,e,j⟩;have e:=e.lower p.size;have g:=g.below j;have o:=o.below j;have d:=d.below j;have p:=btr p j;refine Ze (X0x rfl Xf)<|Zm rfl<|Zt b9 fun a q=>?_;refine wp_block<|X0b (σ:=Nat) (fun (i:Nat) (a:Act) (w:World)=>Fr a 55 [(0,vi (n:Int)),(3,vi (k:Int)),(5,.pointer (some ⟨b4,0,none⟩)),(6,.pointer (some ⟨b5,0,none⟩)),(12,.pointer (some ⟨N,0,none⟩)),(29,.slice bC (gsT n).length bD),(30,vi ((gsT n).length:Int)),(31,vi (i:Int))]∧(i≤(gsT n).length)∧(NoF n m x B i)∧Blk w b4 33 [vi x.rows,vi x.cols,.slice Ax x.cells.length cx]∧Blk w b5 33 [vi m.rows,vi m.cols,.slice Am m.cells.length cm]∧Blk w N 148 [.bool false]∧Own w z.heap.size 115 3 encG bC bD (gsT n)∧Below z.heap.size z w) (fun (i:Nat)=>(gsT n).length-i) 0 ?_ ?_
 ·exact ⟨q.sb,(Nat.zero_le _),(Xkq n m x B),g,o,d,e,p⟩
 rintro i a w6 ⟨q,hi,aH,g,o,d,e,p⟩;refine Zs q fun _ bE=>?_;refine Ze (X10 rfl rfl)<|ZX bE fun a q _ bF=>?_
 refine Xk q rfl (fun C=>?_) (fun C=>?_)
 ·have aI:=C;have C:=of_decide_eq_true C
  obtain ⟨c,E⟩:=Xi (l:=(gsT n)) (k:=i) (by omega)
  obtain ⟨c4,cA,cB,cC,aB,cD,cL⟩:=Xoq (k:=B) hn (by omega) aF hx E
  have cM:=X7x n;refine wp_skip<|bF _ _<|wp_seq_k fun _ bG=>?_;refine wp_block<|Zs q fun _ bH=>?_;refine Zi (k:=i) (u:=c) (enc:=encG) (l:=(gsT n)) trivial rfl rfl Xf X0p Xb e.rd E rfl ?_;intro cN aJ;refine Ze (X07 (l:=[vi c.k,vi c.a,vi c.b]) rfl X0g aJ rfl)<|Zf (X8 (zs:=[vi 0,vi 0,vi 0]) X2i rfl) ?_;rintro _ w7 ⟨cE,rfl,aC,j,f⟩;have aK:=Nat.le_trans p.size aC;have I:=e.away aC;have g:=g.below j;have o:=o.below j;have d:=d.below j;have e:=e.below j;have p:=btr p j;refine Zo (Vw [vi c.k,vi c.a,vi c.b] X0p f) ?_;rintro _ w8 ⟨ho,hb⟩;have t:=f;have g:=g.only ho (Blk.ne g t rfl);have o:=o.only ho (Blk.ne o t rfl);have d:=d.only ho (Blk.ne d t rfl);have e:=e.onlyA ho I;have p:=Below.only p ho aK;have f:=hb;refine ZX bH fun a q _ bI=>?_;refine X0h (some N) (fun _=>false) mixed ?_;intro w9 j;have g:=g.below j;have o:=o.below j;have d:=d.below j;have f:=f.below j;have e:=e.below j;have p:=btr p j;refine Yb q<|Yo 0 rfl (fun _=>Xa rfl)<|Yo 1 rfl (fun _=>Xa rfl)<|Yo 2 rfl (fun _=>Xa rfl) ?_;refine Yw 3 rfl trivial (fun w1 h1=>X07 (l:=[vi c.k,vi c.a,vi c.b]) rfl X0g ((f.only h1 (Blk.ne f d rfl)).at 0) rfl) ?_;refine Yw 5 rfl trivial (fun w1 h1=>X07 (l:=[vi x.rows,vi x.cols,.slice Ax x.cells.length cx]) rfl X0e ((g.only h1 (Blk.ne g d rfl)).at 0) rfl) ?_;refine Yw 7 rfl trivial (fun w1 h1=>X07 (l:=[vi m.rows,vi m.cols,.slice Am m.cells.length cm]) rfl X0e ((o.only h1 (Blk.ne o d rfl)).at 0) rfl) ?_;refine Yo 8 rfl (fun _=>Xa rfl)<|Yo 9 rfl (fun _=>Vx (X1h rfl rfl (by omega) (by omega)) (show _=(B:Int) from (by omega)))<|Y1 4 ?_
  refine Yf rfl trivial (EfW.mono (Vc (Xw1 _ (n:Int) c c4) Xjy) (fun _ _ h=>⟨fun _=>by obtain ⟨aL,aM,rfl,G,j⟩:=h;exact Keep.of_below j,h⟩)) ?_;rintro _ cF ⟨aL,aM,rfl,G,j⟩;have G:=G.lower p.size;have g:=g.below j;have o:=o.below j;have d:=d.below j;have f:=f.below j;have e:=e.below j;have p:=btr p j;refine Y1 6<|Yf rfl trivial (EfW.mono (X1x (vs:=[.pointer (some ⟨N,0,none⟩),.agg #[vi ((gateS (n:Int) c).rows),vi ((gateS (n:Int) c).cols),.slice aL ((gateS (n:Int) c).cells).length aM],.agg #[vi x.rows,vi x.cols,.slice Ax x.cells.length cx]]) rfl Xn8 (by have hq:=Xxg cF N false d (gateS (n:Int) c) aL aM G.rd.top x Ax cx (J.below' p).top cA cB cC;rw [aB] at hq;dsimp only at hq;exact hq)) (fun _ _ h=>⟨fun _=>by obtain ⟨aN,aO,rfl,H,hK,aP⟩:=h;exact hK.keep,h⟩)) ?_;rintro _ cO ⟨aN,aO,rfl,H,hK,aP⟩;have bJ:=p.size;obtain ⟨wm,hO,hm,j⟩:=hK.mid;clear hm;have t:=d;have g:=g.only hO (Blk.ne g t rfl);have o:=o.only hO (Blk.ne o t rfl);have f:=f.only hO (Blk.ne f t rfl);have e:=e.onlyT hO t rfl;have p:=Below.only p hO aG;have g:=g.below j;have o:=o.below j;have f:=f.below j;have e:=e.below j;have p:=btr p j
  clear t j hO hK;have d:=aP;clear aP
  have H:=H.lower bJ;clear bJ;refine Y1 10<|Yf rfl trivial (EfW.mono (X1x (vs:=[vi (n:Int),.agg #[vi ((valW n (wd++[c])).rows),vi ((valW n (wd++[c])).cols),.slice aN ((valW n (wd++[c])).cells).length aO],.agg #[vi m.rows,vi m.cols,.slice Am m.cells.length cm],vi (B:Int)]) rfl Xb3 (IH B (by omega) _ n (valW n (wd++[c])) aN aO H.rd.top m Am cm (L.below' p).top hn (wd++[c]) (jj+1) (by omega) cD rfl aA)) (fun _ _ h=>⟨fun _=>by obtain ⟨aQ,aR,rfl,y,j⟩:=h;exact Keep.of_below j,h⟩)) ?_;rintro _ cP ⟨aQ,aR,rfl,y,j⟩;have aU:=y.awayNew f.lt;have y:=y.lower p.size;have g:=g.below j;have o:=o.below j;have d:=d.below j;have f:=f.below j;have e:=e.below j;have p:=btr p j;refine Yo 11 rfl (fun _=>Xa rfl)<|Yo 12 rfl (fun _=>X4 (vs:=[.slice aQ ((fdS n m B (valW n (wd++[c]))).getD []).length aR,.bool ((fdS n m B (valW n (wd++[c]))).isSome)]) rfl rfl)<|Yo 13 rfl (fun _=>X4 (vs:=[.slice aQ ((fdS n m B (valW n (wd++[c]))).getD []).length aR,.bool ((fdS n m B (valW n (wd++[c]))).isSome)]) rfl rfl)<|Yo 14 rfl (fun _=>X18 rfl)<|Yo 15 rfl (fun _=>X18 rfl) ?_;refine Yd fun a q=>?_;refine bI _ _<|Zs q fun _ bK=>?_;refine Zm rfl<|Zt bK fun a q=>?_
  refine Xk q rfl (fun D=>?_) (fun D=>?_)
  ·have aS:=D;have aT:=D;refine Zs q fun _ bL=>?_;refine Ze (Vn X0g f)<|Zf (X5 (k:=1) (vs:=[.agg #[vi c.k,vi c.a,vi c.b]]) (zs:=[vi c.k,vi c.a,vi c.b]) rfl Xf Xo rfl rfl) ?_;rintro _ cQ ⟨b34,rfl,Q,j,aD⟩
   have aW:cE≠b34:=by have:=f.lt;omega
   have U:=Nat.le_trans p.size Q;have aX:=e.away Q;have aY:=y.away Q;have f:=f.below j;have y:=y.below j;have p:=btr p j;refine Zm rfl<|Zf (X11 (enc:=encG) (l:=([c])) (l2:=(((fdS n m B (valW n (wd++[c]))).getD []))) (B0:=z.heap.size) rfl rfl Xf Xo Xb X0d (Own.of_blkL Xb aD U rfl rfl (Nat.le_of_ble_eq_true rfl)) y.rd (by have:=Xae (n:=n) (m:=m) (k:=B) (x:=valW n (wd++[c]));simp only [maxLen];simp;omega) (by have:=Xae (n:=n) (m:=m) (k:=B) (x:=valW n (wd++[c]));simp;omega) p.size) ?_;rintro _ cR ⟨cG,cH,rfl,bM,hg,bN⟩
   have aE:Own _ z.heap.size 115 3 encG _ _ ([c]):=(Own.of_blkL Xb aD U rfl rfl (Nat.le_of_ble_eq_true rfl))
   have aZ:=bN _ f.lt (Away.ne (by omega))
   clear bN;have p:=Below.app p aE hg (Nat.le_refl _) p.size;clear aE hg;refine Za rfl<|Za rfl<|Zt bL fun a q=>?_;refine wp_ret<|Xr<|X3<|X3 ?_;refine Xr<|X3<|X2 q (X0w q rfl rfl rfl) ?_
   have W:fdS n m k x=some ([c]++(fdS n m B (valW n (wd++[c]))).getD []):=by rw [b3,Xm5 aH E (by rw [aB];exact aT),aB];rfl
   rw [W]
   exact ⟨cG,cH,rfl,bM,p⟩
  have aS:=D;have aT:=D;refine wp_skip<|Xt<|bG _ _<|Zr q ?_;refine Ze (X06 rfl rfl (by omega) (by omega))<|Zm rfl ?_;refine Zn fun a q=>?_;refine Xp ?_;exact ⟨i+1,⟨q.sb,(by omega),(Xln aH E (by rw [aB];simpa using aT)),g,o,d,e,p⟩,(by omega)⟩
 have aI:=C;have C:=of_decide_eq_false C;refine wp_exit<|Xl<|Xl<|X0a ?_;refine b8 _ _<|Zs q fun _ bO=>?_;refine Za rfl<|Za rfl<|Zt bO fun a q=>?_
 refine wp_ret (X2 q (X0w q rfl rfl rfl) ?_)
 have W:fdS n m k x=none:=by rw [b3];exact Xpa aH (by omega)
 rw [W]
 exact ⟨none,0,rfl,(Own.nil _ _ _ _ _),p⟩
theorem Xs1(b:World)(n:Nat)(x:Mx)(Ax:Option Addr)(cx:Nat)(c:Rd b b.heap.size 95 encD Ax x.cells)(m:Mx)(Am:Option Addr)(cm:Nat)(d:Rd b b.heap.size 95 encD Am m.cells)(k:Nat)(hn:n=1∨n=2)(wd:List Gt)(jj:Nat)(aA:jj+k≤8)(aB:wd ∈ wds (gsT n) jj)(hx:x=valW n wd)(aC:m.cells.length=2^n*2^n) : Ret Tryz.prog 61 [vi (n:Int),mV Ax cx x,mV Am cm m,vi (k:Int)] b (fun v w=>∃ A c1,v=.tuple #[.slice A ((fdS n m k x).getD []).length c1,.bool (fdS n m k x).isSome]∧Own w b.heap.size 115 3 encG A c1 ((fdS n m k x).getD [])∧Below b.heap.size b w):=by
 induction k using Nat.strongRecOn generalizing b n x Ax cx m Am cm wd jj with
 | ind k ih=>exact Xu6 b n x Ax cx c m Am cm d k hn wd jj aA aB hx aC fun k1 h1 b n x Ax cx c m Am cm d hn wd jj aA aB hx aC=>ih k1 h1 b n x Ax cx c m Am cm d hn wd jj aA aB hx aC
def markD(k:Int)(n:Nat) : List Dy:=(List.range n).map fun (j:Nat)=>⟨⟨k+5*(j:Int),k+5*(j:Int)+1,k+5*(j:Int)+2,k+5*(j:Int)+3⟩,k+5*(j:Int)+4⟩
theorem Xyu : ((Tryz.prog.globalNamed "internal/strconv.uint64pow10").bind fun g => (Tryz.prog.globals[g]?).map (·.type)) = some (269 : TypeId) := by kernel_rfl
theorem Xz6:(Rows.laid_internal_strconv_uint64pow10:DataW Unit)=Lib.tabData .u64 Lib.pow10Tab:=by kernel_rfl
theorem Xsv {W : World} (h : laidMetH Tryz.prog [("math/bits.deBruijn32tab", Rows.laid_math_bits_deBruijn32tab), ("math/bits.deBruijn64tab", Rows.laid_math_bits_deBruijn64tab), ("internal/strconv.uint64pow10", Rows.laid_internal_strconv_uint64pow10)] W) : PowT W := by
 rw [MakeChecks.laidMetH_plain _ _ _ (by kernel_rfl)] at h
 obtain ⟨g,t,cs,fuel,p,h1,h2,h3,h4⟩:=Lib.laidMet.reads h (.tail _ (.tail _ (.head _)));have h5:=Xyu
 rw [h1,Option.bind_some,h2] at h5
 injection h5 with h5
 subst h5
 rw [Xz6] at h4
 have hc:=Lib.cells_of_tab Tryz.underlying269 Tryz.underlying241 (by kernel_rfl) (by kernel_rfl) h4
 have ht : Lib.TabIs Tryz.prog W "internal/strconv.uint64pow10" .u64 Lib.pow10Tab := by
  unfold Lib.TabIs
  rw [h3,← hc]
 exact Lib.tabBelow_of_tabIs ht
def hasB(qs:List Int)(q:Int) : Bool:=qs.any fun y=>y==q
theorem Xc6(qs:List Int)(q:Int) : (qs.any fun y=>q==y)=hasB qs q:=by
 unfold hasB;congr 1;funext y
 by_cases h:q=y
 ·subst h;rfl
 ·have h2:¬ y=q:=fun e=>h e.symm
  rw [beq_eq_false_iff_ne.2 h,beq_eq_false_iff_ne.2 h2]
theorem Xpk{qs:List Int}{q:Int} : hasB qs q=true↔q ∈ qs:=by
 unfold hasB;simp
def insB(g:Gt)(qs:List Int) : Bool:=decide (0<((qubI g).length:Int))&&!((qubI g).any fun q=>!hasB qs q)
def tchB(g:Gt)(qs:List Int) : Bool:=(qubI g).any (hasB qs)
def inN(g:Gt)(qs:List Int) : Nat:=(qubI g).countP (hasB qs)
def ouN(g:Gt)(qs:List Int) : Nat:=(qubI g).countP fun q=>!hasB qs q
theorem X8u(g:Gt)(qs:List Int) : decide (0<(inN g qs:Int))=tchB g qs:=by
 unfold inN tchB
 rw [Bool.eq_iff_iff,decide_eq_true_eq,List.any_eq_true]
 constructor
 ·intro h
  have h2:0<(qubI g).countP (hasB qs):=by omega
  exact List.countP_pos_iff.1 h2
 ·intro h
  have:=List.countP_pos_iff.2 h;omega
theorem Xe7(g:Gt)(qs:List Int) : decide (0<(ouN g qs:Int))=(qubI g).any fun q=>!hasB qs q:=by
 unfold ouN
 rw [Bool.eq_iff_iff,decide_eq_true_eq,List.any_eq_true]
 constructor
 ·intro h
  have h2:0<(qubI g).countP (fun q=>!hasB qs q):=by omega
  exact List.countP_pos_iff.1 h2
 ·intro h
  have:=List.countP_pos_iff.2 h;omega
theorem X89(g:Gt)(qs:List Int) : insB g qs=(tchB g qs&&!decide (0<(ouN g qs:Int))):=by
 rw [Xe7]
 unfold insB tchB
 cases e:qubI g with
 | nil=>simp
 | cons x l=>
  cases e2:(x::l).any fun q=>!hasB qs q with
  | true=>simp
  | false=>
   have hx:hasB qs x=true:=by
    have:=List.any_eq_false.1 e2 x (List.mem_cons_self ..)
    simpa using this
   have h1:(x::l).any (hasB qs)=true:=List.any_eq_true.2 ⟨x,List.mem_cons_self ..,hx⟩
   rw [h1];simp
theorem Xli(g:Gt)(qs:List Int) : (decide (0<(inN g qs:Int))&&decide (0<(ouN g qs:Int)))=(tchB g qs&&!insB g qs):=by
 rw [X8u,X89]
 cases tchB g qs<;>simp
def incF(l:List Int)(lo hi:Int) : Bool:=(List.range l.length).all fun i=>inR (l.getD i 0) lo hi&&!(decide (0<(i:Int))&&decide (l.getD i 0≤l.getD (i-1) 0))
theorem Xlc{l:List Int}{lo hi:Int}(h:incF l lo hi=true) : ∀ x ∈ l,lo≤x∧x≤hi:=fun x hx=>by
 obtain ⟨i,hi⟩:=List.getElem?_of_mem hx;have hl:=(List.getElem?_eq_some_iff.1 hi).1
 unfold incF at h
 have h2:=List.all_eq_true.1 h i (List.mem_range.2 hl)
 rw [List.getD_eq_getElem?_getD,hi] at h2
 simp only [Bool.and_eq_true,Option.getD_some] at h2
 exact X03.1 h2.1
theorem Xkn{l:List Int}{lo hi:Int}(h:incF l lo hi=true)(h2:l.length≤2) : Inc l:=by
 match l,h2 with
 | [],_=>exact List.Pairwise.nil
 | [x],_=>simp [Inc]
 | [x,y],_=>
  unfold incF at h
  have:=List.all_eq_true.1 h 1 (by simp)
  simp at this
  have hxy:x<y:=by have:=this.2;omega
  simp [Inc];exact hxy
def IncU(l:List Int)(lo hi:Int)(k:Nat) : Prop:=((List.range k).all fun i=>inR (l.getD i 0) lo hi&&!(decide (0<(i:Int))&&decide (l.getD i 0≤l.getD (i-1) 0)))=true
theorem X9g(l:List Int)(lo hi:Int) : IncU l lo hi 0:=rfl
theorem Xam{l:List Int}{lo hi:Int}{k:Nat}{u:Int}(h:IncU l lo hi k)(hu:l[k]? = some u)(hs:(!inR u lo hi||(decide (0<(k:Int))&&decide (u≤l.getD (k-1) 0)))=false) : IncU l lo hi (k+1):=by
 unfold IncU at *
 rw [List.range_succ,List.all_append,h]
 simp only [List.all_cons,List.all_nil,Bool.and_true,Bool.true_and,List.getD_eq_getElem?_getD,hu,Option.getD_some]
 simp only [List.getD_eq_getElem?_getD] at hs
 revert hs
 cases inR u lo hi<;>simp
 intro h;rcases Nat.eq_zero_or_pos k with e|e
 ·exact .inl e
 ·exact .inr (h e)
theorem Xdt{l:List Int}{lo hi:Int}{k:Nat}(h:IncU l lo hi k)(hk:k=l.length) : incF l lo hi=true:=by subst hk;exact h
theorem Xdb{l:List Int}{lo hi:Int}{k:Nat}{u:Int}(hu:l[k]? = some u)(hs:(!inR u lo hi||(decide (0<(k:Int))&&decide (u≤l.getD (k-1) 0)))=true) : incF l lo hi=false:=by
 have hk:=(List.getElem?_eq_some_iff.1 hu).1
 rw [Bool.eq_false_iff]
 intro h
 unfold incF at h
 have h2:=List.all_eq_true.1 h k (List.mem_range.2 hk)
 simp only [List.getD_eq_getElem?_getD,hu,Option.getD_some] at h2 hs
 revert h2 hs
 cases inR u lo hi<;>simp
 intro h1 h2;rcases h1 with h1|h1
 ·omega
 ·exact h1
def rnL(qs:List Int) : List Gt→Int→Nat→List Int
 | [],_,_=>[]
 | _::_,_,0=>[]
 | g::l,i,m+1=>if insB g qs=true then i::rnL qs l (i+1) m else if tchB g qs=true then [] else rnL qs l (i+1) (m+1)
theorem Xor(qs:List Int)(l:List Gt)(i:Int) : rnL qs l i 0=[]:=by cases l<;>rfl
theorem Xfk(qs:List Int) : ∀ (l:List Gt) (i:Int) (m:Nat),(rnL qs l i m).length≤m
 | [],_,_=>Nat.zero_le _
 | _::_,_,0=>Nat.le_refl _
 | g::l,i,m+1=>by
  unfold rnL
  split
  ·have:=Xfk qs l (i+1) m;simp;omega
  ·split
   ·exact Nat.zero_le _
   ·exact Xfk qs l (i+1) (m+1)
theorem Xg0(qs:List Int) : ∀ (l:List Gt) (i:Int) (m:Nat),∀ x ∈ rnL qs l i m,∃ j:Nat,x=i+(j:Int)∧∃ g,l[j]? = some g∧insB g qs=true
 | [],_,_=>fun x h=>by cases h
 | _::_,_,0=>fun x h=>by cases h
 | g::l,i,m+1=>fun x h=>by
  unfold rnL at h
  split at h
  ·rename_i hg
   rcases List.mem_cons.1 h with h|h
   ·exact ⟨0,by simp [h],g,rfl,hg⟩
   ·obtain ⟨j,h1,g2,h2,h3⟩:=Xg0 qs l (i+1) m x h;exact ⟨j+1,by rw [h1];simp;omega,g2,by simpa using h2,h3⟩
  ·split at h
   ·cases h
   ·obtain ⟨j,h1,g2,h2,h3⟩:=Xg0 qs l (i+1) (m+1) x h;exact ⟨j+1,by rw [h1];simp;omega,g2,by simpa using h2,h3⟩
def runB(c:Cx)(p:Int)(qs:List Int) : Bool:=inR (qs.length:Int) 1 2&&(incF qs 0 (c.n-1)&&(inR p 0 ((c.gs.length:Int)-1)&&insB (c.gs.getD p.toNat gZ) qs))
def runL(c:Cx)(p:Int)(qs:List Int) : List Int:=rnL qs (c.gs.drop p.toNat) p 6
def runX(c:Cx)(p:Int)(qs:List Int) : Option (List Int):=if runB c p qs=true then some (runL c p qs) else none
theorem Xeh{c:Cx}{p:Int}{qs:List Int}(h:runB c p qs=true) : runX c p qs=some (runL c p qs):=if_pos h
theorem Xbs{c:Cx}{p:Int}{qs:List Int}(h:runB c p qs=false) : runX c p qs=none:=if_neg (by rw [h];decide)
def runP(c:Cx)(p:Int)(qs:List Int) : Option (List Int):=if (cOk c&&runB c p qs)=true then some (runL c p qs) else none
theorem Xe9{c:Cx}{p:Int}{qs:List Int}(h:(cOk c&&runB c p qs)=true) : runP c p qs=some (runL c p qs):=if_pos h
theorem Xhc{c:Cx}{p:Int}{qs:List Int}(h:(cOk c&&runB c p qs)=false) : runP c p qs=none:=if_neg (by rw [h];decide)
theorem X2e{c:Cx}{p:Int}{qs:List Int}(h:runB c p qs=true) : (1≤qs.length∧qs.length≤2)∧incF qs 0 (c.n-1)=true∧∃ k:Nat,p=(k:Int)∧k<c.gs.length∧∃ g,c.gs[k]? = some g∧insB g qs=true:=by
 unfold runB at h
 simp only [Bool.and_eq_true,X03] at h
 obtain ⟨h1,h2,h3,h4⟩:=h
 refine ⟨by omega,h2,p.toNat,by omega,by omega,c.gs.getD p.toNat gZ,?_,h4⟩
 rw [List.getD_eq_getElem?_getD,List.getElem?_eq_getElem (by omega)];rfl
theorem Xeg{c:Cx}{p:Int}{qs:List Int}(h:runB c p qs=true) : ∃ r,runL c p qs=p::r:=by
 obtain ⟨_,_,k,rfl,hk,g,hg,hi⟩:=X2e h
 unfold runL
 have hk2:((k:Int)).toNat=k:=Int.toNat_natCast k
 obtain ⟨h1,h2⟩:=List.getElem?_eq_some_iff.1 hg
 rw [hk2,List.drop_eq_getElem_cons h1,h2]
 unfold rnL
 rw [if_pos hi]
 exact ⟨_,rfl⟩
theorem X86{c:Cx}{p:Int}{qs:List Int}(h:runB c p qs=true) : 1≤(runL c p qs).length:=by
 obtain ⟨r,e⟩:=Xeg h;rw [e];simp
theorem X78(c:Cx)(p:Int)(qs:List Int) : (runL c p qs).length≤6:=Xfk ..
theorem X5y{c:Cx}{p:Int}{qs:List Int}(h:runB c p qs=true) : ∀ x ∈ runL c p qs,∃ j:Nat,x=(j:Int)∧j<c.gs.length∧p≤(j:Int)∧∃ g,c.gs[j]? = some g∧insB g qs=true:=fun x hx=>by
 obtain ⟨_,_,k,rfl,hk,_⟩:=X2e h;obtain ⟨j,h1,g,h2,h3⟩:=Xg0 _ _ _ _ x hx
 rw [Int.toNat_natCast,List.getElem?_drop] at h2
 exact ⟨k+j,by omega,(List.getElem?_eq_some_iff.1 h2).1,by omega,g,h2,h3⟩
theorem X63{l:List Int}{k:Nat}(h:k<l.length) : l[k]? = some (l.getD k 0):=by rw [List.getD_eq_getElem?_getD,List.getElem?_eq_getElem h];rfl
theorem Xb8{l:List Gt}{k:Nat}(h:k<l.length) : l[k]? = some (l.getD k gZ):=by rw [List.getD_eq_getElem?_getD,List.getElem?_eq_getElem h];rfl
theorem Xi4{f:Int→Bool}{l:List Int}{k p:Nat}{u:Int}(h:p=(l.take k).countP f)(hu:l[k]? = some u)(hf:f u=true) : p+1=(l.take (k+1)).countP f:=by
 rw [List.take_add_one,hu,List.countP_append,← h];simp [hf]
theorem Xkf{f:Int→Bool}{l:List Int}{k p:Nat}{u:Int}(h:p=(l.take k).countP f)(hu:l[k]? = some u)(hf:f u=false) : p=(l.take (k+1)).countP f:=by
 rw [List.take_add_one,hu,List.countP_append,← h];simp [hf]
theorem Xo4{c:Cx}{run:List Int}{k j:Nat}{q:List Gt}{u:Int}(h:q=(run.take k).map fun i=>c.gs.getD i.toNat gZ)(hu:run[k]? = some u)(hj:u=(j:Int)) : q++[c.gs.getD j gZ]=(run.take (k+1)).map fun i=>c.gs.getD i.toNat gZ:=by
 rw [h,List.take_add_one,hu];simp [hj]
theorem Xd9(c:Cx)(p:Int)(qs:List Int) : (((((!cOk c)||!inR (qs.length:Int) 1 2)||!incF qs 0 (c.n-1))||!inR p 0 ((c.gs.length:Int)-1))||!insB (c.gs.getD p.toNat gZ) qs) = !(cOk c&&runB c p qs):=by
 unfold runB
 cases cOk c<;>cases inR (qs.length:Int) 1 2<;>cases incF qs 0 (c.n-1)<;>cases inR p 0 ((c.gs.length:Int)-1)<;>simp
def RnS(c:Cx)(p:Int)(qs:List Int)(k:Nat)(q:List Int) : Prop:=p.toNat+k≤c.gs.length∧q.length≤6∧q++rnL qs (c.gs.drop (p.toNat+k)) (p+(k:Int)) (6-q.length)=runL c p qs
theorem Xdv{c:Cx}{p:Int}{qs:List Int}(h:runB c p qs=true) : RnS c p qs 0 []:=by
 obtain ⟨_,_,k,rfl,hk,_⟩:=X2e h
 refine ⟨by omega,by simp,?_⟩
 simp [runL]
theorem Xt4{c:Cx}{p:Int}{qs:List Int}{k:Nat}{q:List Int}{u:Gt}(h:RnS c p qs k q)(hu:c.gs[p.toNat+k]? = some u)(hq:q.length<6)(hi:insB u qs=true) : RnS c p qs (k+1) (q++[p+(k:Int)]):=by
 obtain ⟨h1,h2,h3⟩:=h;obtain ⟨h4,h5⟩:=List.getElem?_eq_some_iff.1 hu
 refine ⟨by omega,by simp;omega,?_⟩
 rw [← h3,List.drop_eq_getElem_cons h4,h5,show 6-q.length=(5-q.length)+1 from by omega,rnL,if_pos hi]
 simp only [List.append_assoc,List.singleton_append,List.length_append,List.length_cons,List.length_nil]
 rw [show 6-(q.length+(0+1))=5-q.length from by omega,show p+((k+1:Nat) : Int)=p+(k:Int)+1 from by omega,← Nat.add_assoc]
theorem Xg6{c:Cx}{p x:Int}{qs:List Int}{k:Nat}{q:List Int}{u:Gt}(hx:x=p+(k:Int))(h:RnS c p qs k q)(hu:c.gs[p.toNat+k]? = some u)(hq:q.length<6)(hi:insB u qs=true) : RnS c p qs (k+1) (q++[x]):=by
 rw [hx];exact Xt4 h hu hq hi
theorem bn1{b:Bool}(h:(!b)=true) : b=false:=by cases b with
 | false=>rfl
 | true=>cases h
theorem bn2{b:Bool}(h:(!b)=false) : b=true:=by cases b with
 | false=>cases h
 | true=>rfl
theorem Xks{c:Cx}{p:Int}{qs:List Int}{k:Nat}{q:List Int}{u:Gt}(h:RnS c p qs k q)(hu:c.gs[p.toNat+k]? = some u)(hq:q.length<6)(hi:insB u qs=false)(ht:tchB u qs=false) : RnS c p qs (k+1) q:=by
 obtain ⟨h1,h2,h3⟩:=h;obtain ⟨h4,h5⟩:=List.getElem?_eq_some_iff.1 hu
 refine ⟨by omega,by omega,?_⟩
 rw [← h3,List.drop_eq_getElem_cons h4,h5,show 6-q.length=(5-q.length)+1 from by omega,rnL,if_neg (by rw [hi];decide),if_neg (by rw [ht];decide)]
 rw [show p+((k+1:Nat) : Int)=p+(k:Int)+1 from by omega,← Nat.add_assoc]
theorem Xdf{c:Cx}{p:Int}{qs:List Int}{k:Nat}{q:List Int}{u:Gt}(h:RnS c p qs k q)(hu:c.gs[p.toNat+k]? = some u)(hq:q.length<6)(hi:insB u qs=false)(ht:tchB u qs=true) : q=runL c p qs:=by
 obtain ⟨h1,h2,h3⟩:=h;obtain ⟨h4,h5⟩:=List.getElem?_eq_some_iff.1 hu
 rw [List.drop_eq_getElem_cons h4,h5,show 6-q.length=(5-q.length)+1 from by omega,rnL,if_neg (by rw [hi];decide),if_pos ht,List.append_nil] at h3
 exact h3
theorem Xhh{c:Cx}{p:Int}{qs:List Int}{k:Nat}{q:List Int}(h:RnS c p qs k q)(he:c.gs.length≤p.toNat+k∨6≤q.length) : q=runL c p qs:=by
 obtain ⟨h1,h2,h3⟩:=h
 rcases he with he|he
 ·rw [List.drop_of_length_le he,rnL,List.append_nil] at h3;exact h3
 ·rw [show 6-q.length=0 from by omega,Xor,List.append_nil] at h3;exact h3
def gatL(c:Cx)(run:List Int) : List Gt:=run.map fun i=>c.gs.getD i.toNat gZ
theorem Xnt{n:Int}{g:Gt}{qs:List Int}(hg:gOk n g=true)(h:insB g qs=true) : GoodG qs n g:=by
 refine ⟨hg,fun x hx=>?_⟩
 unfold insB at h
 simp only [Bool.and_eq_true,Bool.not_eq_true',List.any_eq_false] at h
 have:=h.2 x hx
 exact Xpk.1 (by simpa using this)
theorem Xgg{g:Gt}{qs:List Int}(h:insB g qs=true) : ¬ g.k=12:=by
 intro e
 unfold insB qubI at h
 rw [if_pos e] at h
 simp at h
theorem X6f{c:Cx}(hc:cOk c=true){p:Int}{qs:List Int}(h:runB c p qs=true) : ∀ g ∈ gatL c (runL c p qs),GoodG qs c.n g∧insB g qs=true:=fun g hg=>by
 obtain ⟨i,hi,rfl⟩:=List.mem_map.1 hg;obtain ⟨j,rfl,hj,_,g,h1,h2⟩:=X5y h i hi
 rw [Int.toNat_natCast,List.getD_eq_getElem?_getD,h1]
 exact ⟨Xnt ((X12 hc).2.2 g (List.mem_of_getElem? h1)) h2,h2⟩
def gapL(c:Cx)(run:List Int)(p:Int)(k:Nat) : List Gt:=((List.range k).filter fun (j:Nat)=>!hasB run (p+(j:Int))).map fun (j:Nat)=>c.gs.getD (p+(j:Int)).toNat gZ
theorem Xef(c:Cx)(run:List Int)(p:Int) : gapL c run p 0=[]:=rfl
theorem Xqf{c:Cx}{run:List Int}{p:Int}{k:Nat}(h:hasB run (p+(k:Int))=true) : gapL c run p (k+1)=gapL c run p k:=by
 unfold gapL;rw [List.range_succ,List.filter_append];simp [h]
theorem Xut{c:Cx}{run:List Int}{p:Int}{k:Nat}{u:Gt}(h:hasB run (p+(k:Int))=false)(hu:c.gs[(p+(k:Int)).toNat]? = some u) : gapL c run p (k+1)=gapL c run p k++[u]:=by
 unfold gapL;rw [List.range_succ,List.filter_append,List.map_append];simp [h,List.getD_eq_getElem?_getD,hu]
theorem X7l(c:Cx)(run:List Int)(p:Int)(k:Nat) : (gapL c run p k).length≤k:=by
 unfold gapL;rw [List.length_map]
 exact Nat.le_trans (List.length_filter_le ..) (by simp)
def lastI(run:List Int) : Int:=run.getD (run.length-1) 0
def winN(run:List Int)(p:Int) : Nat:=(lastI run-p+1).toNat
def ftB(n:Int)(qs:List Int)(g:Gt) : Bool:=gOk n g&&!decide (0<(ouN g qs:Int))
def newR(c:Cx)(p:Int)(run:List Int)(gates:List Gt) : Rp:=⟨p,(c.gs.drop p.toNat).take (winN run p),gates++gapL c run p (winN run p)⟩
def repX(c:Cx)(p:Int)(run:List Int)(qs:List Int)(gates:List Gt) : Option Rp:=
 if gates.all (ftB c.n qs)=true then (if ((newR c p run gates).old.length≤40∧(newR c p run gates).new.length≤40) then some (newR c p run gates) else none) else none
theorem Xac{c:Cx}{p:Int}{qs:List Int}(h:runB c p qs=true) : ∃ j:Nat,lastI (runL c p qs)=(j:Int)∧j<c.gs.length∧p≤(j:Int)∧(runL c p qs)[(runL c p qs).length-1]? = some (lastI (runL c p qs)):=by
 have h1:=X86 h
 have h2:(runL c p qs).length-1<(runL c p qs).length:=by omega
 have h3:lastI (runL c p qs) ∈ runL c p qs:=by
  unfold lastI;rw [List.getD_eq_getElem?_getD,List.getElem?_eq_getElem h2];exact List.getElem_mem h2
 obtain ⟨j,e,hj,hp,_⟩:=X5y h _ h3
 refine ⟨j,e,hj,hp,?_⟩
 unfold lastI;rw [List.getD_eq_getElem?_getD,List.getElem?_eq_getElem h2];rfl
def ftI(n:Int)(qs:List Int)(g:Gt) : Bool:=gOk n g&&!(decide (g.k≠12)&&!insB g qs)
theorem Xy5(n:Int)(qs:List Int)(g:Gt) : ftI n qs g=ftB n qs g:=by
 unfold ftI ftB
 cases hg:gOk n g with
 | false=>rfl
 | true=>
  simp only [Bool.true_and]
  rw [X89]
  by_cases h:g.k=12
  ·have e:qubI g=[]:=by unfold qubI;rw [if_pos h]
   have e2:ouN g qs=0:=by unfold ouN;rw [e];rfl
   simp [h,e2]
  ·have e:qubI g≠[]:=by unfold qubI;rw [if_neg h];split<;>simp
   rw [Xe7]
   unfold tchB
   cases e2:(qubI g).any fun q=>!hasB qs q with
   | true=>simp [h]
   | false=>
    obtain ⟨x,l,e3⟩:=List.exists_cons_of_ne_nil e
    have hx:hasB qs x=true:=by
     have:=List.any_eq_false.1 e2 x (by rw [e3];exact List.mem_cons_self ..)
     simpa using this
    have:(qubI g).any (hasB qs)=true:=List.any_eq_true.2 ⟨x,by rw [e3];exact List.mem_cons_self ..,hx⟩
    simp [h,this]
theorem Xhk(n:Int)(qs:List Int)(g:Gt) : ((!gOk n g)||((g.k != 12)&&!insB g qs)) = !ftB n qs g:=by
 rw [← Xy5];unfold ftI
 cases gOk n g<;>by_cases h:g.k=12<;>simp [h]
theorem Xen{n:Int}{qs:List Int}{l:List Gt}{k:Nat}{u:Gt}(hu:l[k]? = some u)(h:ftB n qs u=false) : l.all (ftB n qs)=false:=by
 rw [Bool.eq_false_iff];intro h2
 have:=List.all_eq_true.1 h2 u (List.mem_of_getElem? hu)
 rw [h] at this;cases this
theorem Xg5{n:Int}{qs:List Int}{l:List Gt}{k:Nat}{u:Gt}(h:(l.take k).all (ftB n qs)=true)(hu:l[k]? = some u)(hf:ftB n qs u=true) : (l.take (k+1)).all (ftB n qs)=true:=by
 rw [List.take_add_one,hu,List.all_append,h];simp [hf]
theorem Xc5{c:Cx}{p:Int}{run qs:List Int}{ws:List Gt}(h:ws.all (ftB c.n qs)=false) : repX c p run qs ws=none:=if_neg (by rw [h];decide)
theorem Xgf{c:Cx}{p:Int}{run qs:List Int}{ws:List Gt}(h:ws.all (ftB c.n qs)=true)(h2:40<(newR c p run ws).old.length∨40<(newR c p run ws).new.length) : repX c p run qs ws=none:=by
 unfold repX;rw [if_pos h,if_neg (by omega)]
theorem Xhi{c:Cx}{p:Int}{run qs:List Int}{ws:List Gt}(h:ws.all (ftB c.n qs)=true)(h2:¬ (40<(newR c p run ws).old.length∨40<(newR c p run ws).new.length)) : repX c p run qs ws=some (newR c p run ws):=by
 unfold repX;rw [if_pos h,if_pos (by omega)]
theorem Xvf{c:Cx}{p:Int}{run:List Int}{j:Nat}(hp:0≤p)(hj:lastI run=(j:Int))(hpj:p≤(j:Int)) : (c.gs.take (j+1)).drop p.toNat=(c.gs.drop p.toNat).take (winN run p):=by
 rw [List.drop_take];congr 1
 unfold winN;rw [hj];omega
theorem Xe6{c:Cx}{p:Int}{run:List Int}{ws:List Gt}{j:Nat}(hp:0≤p)(hj:lastI run=(j:Int))(hpj:p≤(j:Int)) : (newR c p run ws).old=(c.gs.take (j+1)).drop p.toNat:=(Xvf hp hj hpj).symm
theorem Xd6{c:Cx}{p:Int}{run:List Int}{ws q:List Gt}{k:Nat}(hq:q=ws++gapL c run p k)(hk:k=winN run p) : (newR c p run ws).new=q:=by subst hk;rw [hq];rfl
theorem Xed{run:List Int}{p:Int}{j:Nat}(hj:lastI run=(j:Int))(hpj:p≤(j:Int)) : ((winN run p:Nat) : Int)=(j:Int)-p+1:=by unfold winN;rw [hj];omega
theorem Xej{c:Cx}{run:List Int}{p:Int}{k:Nat}{q ws:List Gt}(hq:q=ws++gapL c run p k)(h:hasB run (p+(k:Int))=true) : q=ws++gapL c run p (k+1):=by rw [hq,Xqf h]
theorem Xi5{c:Cx}{run:List Int}{p:Int}{k:Nat}{q ws:List Gt}{u:Gt}(hp:0≤p)(hq:q=ws++gapL c run p k)(h:hasB run (p+(k:Int))=false)(hu:c.gs[p.toNat+k]? = some u) : q++[u]=ws++gapL c run p (k+1):=by
 rw [hq,Xut h (by rw [show (p+(k:Int)).toNat=p.toNat+k from by omega];exact hu),List.append_assoc]
theorem Apart.none_l(B:Option Addr) : Apart none B:=fun _ _ h=>by cases h
theorem Xbb{c:Cx}{p:Int}{qs:List Int}(h:(runP c p qs).isSome=true) : cOk c=true∧runB c p qs=true∧runP c p qs=some (runL c p qs):=by
 cases e:cOk c&&runB c p qs with
 | false=>rw [Xhc e] at h;cases h
 | true=>exact ⟨((Bool.and_eq_true _ _▸e:cOk c=true∧runB c p qs=true)).1,((Bool.and_eq_true _ _▸e:cOk c=true∧runB c p qs=true)).2,Xe9 e⟩
theorem X8k{c:Cx}{p:Int}{qs:List Int}(h:(runP c p qs).isSome=false) : runP c p qs=none:=by
 cases e:runP c p qs with
 | none=>rfl
 | some x=>rw [e] at h;cases h
def xC(c:Cx)(run qs:List Int) : Cx:=⟨(qs.length:Int),(gatL c run).map (smallG qs)⟩
def KN(n:Nat) : Nat:=if n=2 then 3 else 5
def srW(n:Nat)(M:Mx) : Option (List Gt):=lsW (gsT n) (fun w=>phaseS (valW n w) M) (KN n)
theorem X8q(n:Nat) : KN n≤8:=by unfold KN;split<;>decide
def plX(c:Cx)(p:Int)(qs run:List Int) : Option Rp:=(srW qs.length ((opI (xC c run qs)).getD mZ)).bind fun w=>if w.length<run.length∧tcN w≤tcN (gatL c run) then repX c p run qs (mapI w qs) else none
def shrX(c:Cx)(p:Int)(qs:List Int) : Option Rp:=(runX c p qs).bind (plX c p qs)
def shrI(c:Cx)(p:Int)(qs:List Int) : Option Rp:=(runP c p qs).bind (plX c p qs)
theorem Xvo{c:Cx}(hc:cOk c=true)(p:Int)(qs:List Int) : shrI c p qs=shrX c p qs:=by
 unfold shrI shrX runP runX
 rw [hc,Bool.true_and]
theorem X2x(c:Cx)(run:List Int) : (gatL c run).length=run.length:=by unfold gatL;rw [List.length_map]
theorem X7v{c:Cx}(hc:cOk c=true){p:Int}{qs:List Int}(h:runB c p qs=true) : (qs.length=1∨qs.length=2)∧Inc qs∧∀ x ∈ qs,0≤x∧x≤4:=by
 obtain ⟨h1,h2,_⟩:=X2e h;have hn:=(X12 hc).1
 refine ⟨by omega,Xkn h2 h1.2,fun x hx=>?_⟩
 have:=Xlc h2 x hx;omega
theorem Xle{c:Cx}(hc:cOk c=true){p:Int}{qs:List Int}(h:runB c p qs=true) : cOk (xC c (runL c p qs) qs)=true∧mapI (gatL c (runL c p qs)) (numbI qs)=(gatL c (runL c p qs)).map (smallG qs)∧∃ M,opI (xC c (runL c p qs) qs)=some M∧mOk M=true∧M.rows=((2^qs.length:Nat) : Int)∧M.cols=((2^qs.length:Nat) : Int)∧canL M.cells≠none∧M.cells.length=2^qs.length*2^qs.length:=by
 obtain ⟨hq,hi,hb⟩:=X7v hc h;have hg:=X6f hc h;have hl:=X2x c (runL c p qs);have h6:=X78 c p qs
 have hok:cOk (xC c (runL c p qs) qs)=true:=by
  unfold cOk xC
  simp only [Bool.and_eq_true,X03,decide_eq_true_eq,Bool.not_eq_true',List.any_eq_false,List.length_map]
  refine ⟨⟨by omega,by omega⟩,fun g hg'=>?_⟩
  obtain ⟨g0,h0,rfl⟩:=List.mem_map.1 hg'
  have:=Xkm hi hb (hg g0 h0).1
  rw [show max 1 (qs.length:Int)=(qs.length:Int) from by omega] at this
  simp [this]
 have hmap:mapI (gatL c (runL c p qs)) (numbI qs)=(gatL c (runL c p qs)).map (smallG qs):=List.map_congr_left fun g hg'=>Xjt hb (hg g hg').1
 obtain ⟨M,hM⟩:=Xbf hok (by
  have:=Xn3 (xC c (runL c p qs) qs).gs;have:(xC c (runL c p qs) qs).gs.length=(runL c p qs).length:=by unfold xC;rw [List.length_map,hl]
  omega)
 have hk:∀ g ∈ (xC c (runL c p qs) qs).gs,g.k≤11:=fun g hg'=>by
  obtain ⟨g0,h0,rfl⟩:=List.mem_map.1 hg';have h1:=Xgg (hg g0 h0).2;have h2:=(X1f (hg g0 h0).1.ok).2.1
  show g0.k≤11;omega
 obtain ⟨_,h2,h3,h4⟩:=X93 (N:=qs.length) rfl hM;exact ⟨hok,hmap,M,hM,h2,h3,h4,Xsa (N:=qs.length) rfl hM hk,Xg1 hq h2 h3 h4⟩
theorem Xmd{n:Nat}(hn:n=1∨n=2){M:Mx}(h2:mOk M=true)(h3:M.rows=((2^n:Nat) : Int))(h4:M.cols=((2^n:Nat) : Int))(h5:canL M.cells≠none) : (tbW n (KN n)).1 (keyM M)=srW n M∧canY M=true:=by
 refine ⟨?_,?_⟩
 ·rw [Xhs h2];exact Xnh hn h2 h3 h4 h5 (X8q n)
 ·unfold canY;rw [h2]
  cases e:canL M.cells with
  | none=>exact absurd e h5
  | some x=>rfl
theorem X4o{n:Nat}{M:Mx}{w:List Gt}(h:srW n M=some w) : w.length≤KN n∧∀ g ∈ w,g ∈ gsT n:=by
 obtain ⟨j,hj,hw,_⟩:=Xbg h;exact ⟨by have:=X82 _ _ _ hw;omega,Xav _ _ _ hw⟩
theorem Xc9{n:Nat}(hn:n=1∨n=2){w:List Gt}(h:∀ g ∈ w,g ∈ gsT n) : ∀ g ∈ w,(g.k≠12→0≤g.a∧g.a<(n:Int))∧(inR g.k 9 11=true→0≤g.b∧g.b<(n:Int)):=fun g hg=>by
 have hok:=(X5k hn g (h g hg)).1;obtain ⟨_,_,ha,hb⟩:=X1f hok;exact ⟨fun h9=>by have:=ha h9;omega,fun h9=>by have:=hb (X03.1 h9);omega⟩
theorem Xdh{us:List Int}{n:Int}{l:List Gt}(h:∀ g ∈ l,GoodG us n g)(hn:n≤5) : ∀ g ∈ l,(g.k≠12→0≤g.a∧g.a<((5:Nat) : Int))∧(inR g.k 9 11=true→0≤g.b∧g.b<((5:Nat) : Int)):=fun g hg=>by
 obtain ⟨_,_,ha,hb⟩:=X1f (h g hg).ok;exact ⟨fun h9=>by have:=ha h9;omega,fun h9=>by have:=hb (X03.1 h9);omega⟩
theorem Xkj(us:List Int)(l:List Gt) : tcN (l.map (smallG us))=tcN l:=by
 unfold tcN;rw [List.countP_map];rfl
theorem Xcs{n j:Nat}(hn:n=1∨n=2){M:Mx}(hj:j≤KN n)(h0:∀ i,i<j→fdS n M i (unitS (2^n))=none)(hs:(fdS n M j (unitS (2^n))).isSome=true) : srW n M=some ((fdS n M j (unitS (2^n))).getD [])∧((fdS n M j (unitS (2^n))).getD []).length=j:=by
 have e:=Xjv hn M _ (X8q n)
 rw [Xhq h0 (Xb1 hs) _ hj] at e
 exact ⟨e.symm,Xeq (Xb1 hs)⟩
theorem Xmy{n j:Nat}(hn:n=1∨n=2){M:Mx}(h0:∀ i,i<j→fdS n M i (unitS (2^n))=none) : ∀ w,srW n M=some w→j≤w.length:=fun w hw=>by
 rcases Nat.lt_or_ge w.length j with h|h
 ·exfalso
  obtain ⟨i,hi,hm,hp⟩:=Xbg hw;have hl:=X82 _ _ _ hm
  have h1:=h0 i (by omega)
  rw [X95 hn M (Nat.le_trans hi (X8q n)),List.find?_eq_none] at h1
  exact h1 w hm hp
 ·exact h
theorem X4m{c:Cx}{p:Int}{qs run:List Int}{M:Mx}(hM:opI (xC c run qs)=some M)(h:∀ w,srW qs.length M=some w→¬ (w.length<run.length∧tcN w≤tcN (gatL c run))) : plX c p qs run=none:=by
 unfold plX;rw [hM,Option.getD_some]
 cases e:srW qs.length M with
 | none=>rfl
 | some w=>rw [Option.bind_some,if_neg (h w e)]
theorem X83{c:Cx}{p:Int}{qs run:List Int}{M:Mx}{w:List Gt}(hM:opI (xC c run qs)=some M)(hw:srW qs.length M=some w)(h:w.length<run.length∧tcN w≤tcN (gatL c run)) : plX c p qs run=repX c p run qs (mapI w qs):=by
 unfold plX;rw [hM,Option.getD_some,hw,Option.bind_some,if_pos h]
theorem Xkh(l:List Gt) : (l.countP fun g=>inR g.k 7 8)=tcN l:=by
 unfold tcN
 apply List.countP_congr
 intro g _
 unfold isTk
 rw [X03];simp;omega
theorem Xqw{c:Cx}{rr:List Int}{k j:Nat}{i:Int}{u:Gt}(h:rr[k]? = some i)(hj:i=(j:Int))(hl:j<c.gs.length)(hu:(gatL c rr)[k]? = some u) : c.gs[j]? = some u:=by
 unfold gatL at hu
 rw [List.getElem?_map,h,Option.map_some,hj,Int.toNat_natCast,List.getD_eq_getElem?_getD,List.getElem?_eq_getElem hl,Option.getD_some] at hu
 rw [List.getElem?_eq_getElem hl];exact hu
theorem Xk4{us:List Int}{l q:List Gt}{k:Nat}{u:Gt}(h:q=(l.take k).map (smallG us))(hu:l[k]? = some u) : q++[smallG us u]=(l.take (k+1)).map (smallG us):=by
 rw [h,List.take_add_one,hu];simp
theorem Xvy{g:Gt}(h:¬ g.k=12) : g.a ∈ qubI g:=by unfold qubI;rw [if_neg h];split<;>simp
theorem Xwn{g:Gt}(h:¬ g.k=12)(h9:inR g.k 9 11=true) : g.b ∈ qubI g:=by unfold qubI;rw [if_neg h,if_pos h9];simp
theorem Xud{x:Cx}{M:Mx}(hx:cOk x=true)(h:opI x=some M) : runS x.n false x.gs (unitS (2^x.n.toNat))=(false,M):=by
 rw [(Xro x).1,opS,if_pos hx] at h
 cases e:(runS x.n false x.gs (unitS (2^x.n.toNat))).1 with
 | true=>rw [if_pos e] at h;cases h
 | false=>
  rw [if_neg (by rw [e];decide)] at h
  injection h with h
  exact Prod.ext e h
theorem X4z{qs:List Int}{l q:List Gt}{k:Nat}{u v:Gt}(h:q=(l.take k).map (mapG qs))(hu:l[k]? = some u)(hv:v=mapG qs u) : q++[v]=(l.take (k+1)).map (mapG qs):=by
 rw [h,List.take_add_one,hu,hv];simp
theorem Xoi{c:Cx}{p:Int}{qs:List Int}(h:(runX c p qs).isSome=true) : runB c p qs=true∧runX c p qs=some (runL c p qs):=by
 cases e:runB c p qs with
 | false=>rw [Xbs e] at h;cases h
 | true=>exact ⟨rfl,Xeh e⟩
theorem Xk7{c:Cx}{p:Int}{qs:List Int}(h:(runX c p qs).isSome=false) : runX c p qs=none:=by
 cases e:runX c p qs with
 | none=>rfl
 | some x=>rw [e] at h;cases h
theorem Xxr(w0:World)(x:Int)(qs:List Int)(ba:Nat)(Aq:Option Addr)(cq:Nat)(aA:Rd w0 w0.heap.size 3 encI Aq qs)(aB:Blk w0 ba 43 [.slice Aq qs.length cq])(aC:qs.length≤1048576) : Ret Tryz.prog 184 [vi x,.pointer (some ⟨ba,0,none⟩)] w0 (fun v w=>v=.bool (!hasB qs x)∧Below w0.heap.size w0 w):=by
 have aD:=aB.lt;refine enter Tryz.func184 rfl 8 rfl rfl ?_;intro a hf
 have hW:=bz w0
 refine Zs hf fun _ aE=>?_;refine Za rfl<|Zx aE fun a hf _ aF=>?_;refine Ze (X0 rfl X4d (aB.at 0))<|Zm rfl<|Zf (Vc (Xto _ Aq cq qs (aA.below' hW).top x (Nat.le_trans aC (by decide))) Xev) ?_;rintro _ w1 ⟨rfl,hE⟩;have hW:=btr hW hE;refine Ze (X0z rfl)<|Za rfl<|Zt aF fun a hf=>?_
 refine wp_ret (X2 hf (Xv hf rfl rfl) ?_)
 exact ⟨by rw [Xc6],hW⟩
theorem Xy1(w0:World)(x:Int)(qs:List Int)(ba:Nat)(Aq:Option Addr)(cq:Nat)(aA:Rd w0 w0.heap.size 3 encI Aq qs)(aB:Blk w0 ba 43 [.slice Aq qs.length cq])(aC:qs.length≤1048576) : Ret Tryz.prog 148 [vi x,.pointer (some ⟨ba,0,none⟩)] w0 (fun v w=>v=.bool (hasB qs x)∧Below w0.heap.size w0 w):=by
 have aD:=aB.lt;refine enter Tryz.func148 rfl 7 rfl rfl ?_;intro a hf
 have hW:=bz w0
 refine Zs hf fun _ aE=>?_;refine Za rfl<|Zx aE fun a hf _ aF=>?_;refine Ze (X0 rfl X4d (aB.at 0))<|Zm rfl<|Zf (Vc (Xto _ Aq cq qs (aA.below' hW).top x (Nat.le_trans aC (by decide))) Xev) ?_;rintro _ w1 ⟨rfl,hE⟩;have hW:=btr hW hE;refine Za rfl<|Zt aF fun a hf=>?_
 refine wp_ret (X2 hf (Xv hf rfl rfl) ?_)
 exact ⟨by rw [Xc6],hW⟩
theorem Xkc(w0:World)(g:Gt)(Aqs:Option Addr)(cqs:Nat)(qs:List Int)(c:Rd w0 w0.heap.size 3 encI Aqs qs)(aF:qs.length≤1048576) : Ret Tryz.prog 145 [.agg #[vi g.k,vi g.a,vi g.b],.slice Aqs qs.length cqs] w0 (fun v w=>v=.bool (insB g qs)∧Below w0.heap.size w0 w):=by
 have aN:=X36 g;refine enter Tryz.func145 rfl 17 rfl rfl ?_;intro a i
 have f:=bz w0
 refine Zs i fun _ aG=>?_;refine Zf (X0i (zs:=[vi g.k,vi g.a,vi g.b]) rfl rfl) ?_;rintro _ w1 ⟨b3,rfl,aH,e,aA⟩;have aL:=Nat.le_trans f.size aH;have c:=c.below e;have f:=btr f e;refine Zf (X0i (zs:=[.slice Aqs qs.length cqs]) rfl rfl) ?_;rintro _ w2 ⟨b4,rfl,aI,e,aB⟩;have aM:=Nat.le_trans f.size aI;have aA:=aA.below e;have c:=c.below e;have f:=btr f e;refine Za rfl<|Zx aG fun a i _ aJ=>?_;refine Ze (Vn X0g aA)<|Zf (Vc (F96 _ g) Xgs) ?_;rintro _ w3 ⟨A6,c6,rfl,aC,e⟩;have aC:=aC.lower f.size;have aB:=aB.below e;have c:=c.below e;have f:=btr f e;refine Za rfl<|ZX aJ fun a i _ aK=>?_;refine X0o (fun a w=>Fr a 17 [(4,.bool ((decide (0<((qubI g).length:Int)))&&(!((qubI g).any (fun q=>!hasB qs q)))))]∧Below w3.heap.size w3 w) ?_ ?_
 ·have j:Below w3.heap.size w3 w3:=Below.refl _ _
  refine Zr i<|Zm rfl<|Ze (X0x rfl X08)<|Ze (X3a rfl rfl)<|Zm rfl ?_
  refine Zg 11 rfl (fun d=>?_) (fun d=>?_)
  ·refine Zv (gW d) (Xa rfl) ?_;refine Zv (gW d) (X2z (vs:=[.pointer (some ⟨b4,0,none⟩)]) rfl) ?_;refine Zk (gW d) (Vc (Xxi _ A6 c6 (qubI g) aC.rd.top 184 [.pointer (some ⟨b4,0,none⟩)] Xp3 (fun q=>!hasB qs q) (fun x9 w9 aE=>Xxr w9 x9 qs b4 Aqs cqs ((c.top).below aE).top (aB.below aE) aF) (by omega)) Xk6) ?_;rintro _ w4 ⟨rfl,e⟩;have f:=btr f e;have j:=btr j e;refine Zv (gW d) (X0z rfl) ?_;refine Ze (Xn rfl d rfl)<|Za rfl ?_;refine Zn fun a i=>?_
   have aD:Below w3.heap.size w3 w4:=j
   exact ⟨i.sub ⟨X1 rfl (by first|rfl|(simp only [d,bs];done)|simp [d]),trivial⟩,aD⟩
  refine Zp (gP d) ?_;refine Zp (gP d) ?_;refine Zp (gP d) ?_;refine Zp (gP d) ?_;refine Ze (Xj rfl d rfl)<|Za rfl ?_;refine Zn fun a i=>?_
  have aD:Below w3.heap.size w3 w3:=j
  exact ⟨i.sub ⟨X1 rfl (by first|rfl|(simp only [d,bs];done)|simp [d]),trivial⟩,aD⟩
 rintro a w5 ⟨i,e⟩;have f:=btr f e;refine aK _ _ ?_
 refine wp_ret (X2 i (Xv i rfl rfl) ?_)
 exact ⟨by first|rfl|simp [insB, *],f⟩
theorem Xxn(i:World)(Al:Option Addr)(cl:Nat)(l:List Int)(j:Rd i i.heap.size 3 encI Al l)(n:Int)(hn:-1000≤n∧n≤1000)(aQ:l.length≤1048576) : Ret Tryz.prog 144 [.slice Al l.length cl,vi n] i (fun v w=>v=.bool (incF l 0 (n-1))∧Below i.heap.size i w):=by
 refine enter Tryz.func144 rfl 33 rfl rfl ?_;intro a d
 have hW:=bz i
 refine Zs d fun _ aK=>?_;refine Za rfl<|ZX aK fun a d _ aL=>?_;refine Zs d fun _ aM=>?_;refine Zm rfl<|Ze (X0x rfl X08)<|Zm rfl<|Zt aM fun a d=>?_;refine wp_block<|X0b (σ:=Nat) (fun (k:Nat) (a:Act) (w:World)=>Fr a 33 [(0,.slice Al l.length cl),(1,vi n),(7,.slice Al l.length cl),(8,vi (l.length:Int)),(9,vi (k:Int))]∧(k≤l.length)∧(IncU l 0 (n-1) k)∧Below i.heap.size i w) (fun (k:Nat)=>l.length-k) 0 ?_ ?_
 ·exact ⟨d.sb,(Nat.zero_le _),(X9g _ _ _),hW⟩
 rintro k a w1 ⟨d,hk,m,hW⟩;refine Zs d fun _ aN=>?_;refine Ze (X10 rfl rfl)<|ZX aN fun a d _ aO=>?_
 refine Xk d rfl (fun g=>?_) (fun g=>?_)
 ·have e:=g;have g:=of_decide_eq_true g
  obtain ⟨u8,aA⟩:=Xi (l:=l) (k:=k) (by omega)
  refine wp_skip<|aO _ _<|wp_seq_k fun _ aP=>?_;refine wp_block<|Zs d fun _ aE=>?_;refine Zm rfl<|Zi (k:=k) (u:=u8) (enc:=encI) (l:=l) trivial rfl rfl X08 X1j X02 (j.below' hW) aA rfl ?_;intro aR aB;refine Ze (X0 rfl X7 aB)<|Za rfl<|Za rfl<|ZX aE fun a d _ aF=>?_;refine X0o (fun a w=>Fr a 33 [(0,.slice Al l.length cl),(1,vi n),(7,.slice Al l.length cl),(8,vi (l.length:Int)),(9,vi (k:Int)),(31,.bool ((!(inR u8 0 (n-1)))||((decide (0<(k:Int)))&&(decide (u8≤(l.getD (k-1) 0))))))]∧w1=w) ?_ ?_
  ·refine Zr d<|Zm rfl<|Zm rfl<|Ze (X1h rfl rfl (by omega) (by omega))<|Zf (Vc (F91 _ u8 0 (n-1)) X38) ?_;rintro _ _ ⟨rfl,rfl⟩;refine Ze (X0z rfl)<|Zm rfl ?_
   refine Zg 19 rfl (fun c=>?_) (fun c=>?_)
   ·refine Zp (gP c) ?_;refine Zp (gP c) ?_;refine Zp (gP c) ?_;refine Zp (gP trivial) ?_;refine Zp (gP trivial) ?_;refine Zp (gP trivial) ?_;refine Zp (gP trivial) ?_;refine Zp (gP trivial) ?_;refine Zp (gP trivial) ?_;refine Zp (gP trivial) ?_;refine Zp (gP c) ?_;refine Ze (Xn rfl c rfl) ?_;refine Zn fun a d=>?_;exact ⟨d.sub ⟨rfl,rfl,rfl,rfl,rfl,X1 rfl (by first|rfl|(simp only [e,c,bs];done)|simp [e,c]),trivial⟩,rfl⟩
   refine Zv (gW c) (Xa rfl) ?_;refine Zv (gW c) (X3a rfl rfl) ?_;refine Zv (gW c) (Xa rfl) ?_
   refine Zg 22 rfl (fun b=>?_) (fun b=>?_)
   ·have aS:=of_decide_eq_true b;refine Zv (gW b) (Xa rfl) ?_;refine Zv (gW b) (Xa rfl) ?_;refine Zv (gW b) (X1h rfl rfl (by omega) (by omega)) ?_;refine Zi (k:=(k-1)) (u:=(l.getD (k-1) 0)) (enc:=encI) (l:=l) ⟨_,_,rfl,rfl,b⟩ rfl rfl X08 X1j X02 (j.below' hW) (X63 (by omega)) (by omega) ?_;intro aT aC;refine Zv (gW b) (X0 rfl X7 aC) ?_;refine Zv (gW b) (Xa rfl) ?_;refine Zv (gW b) (X99 rfl rfl) ?_;refine Zv (gW c) (Xn rfl b rfl) ?_;refine Ze (Xj rfl c rfl) ?_;refine Zn fun a d=>?_;exact ⟨d.sub ⟨rfl,rfl,rfl,rfl,rfl,X1 rfl (by first|rfl|(simp only [e,c,b,bs];done)|simp [e,c,b]),trivial⟩,rfl⟩
   refine Zp (gP b) ?_;refine Zp (gP b) ?_;refine Zp (gP b) ?_;refine Zp (gP b) ?_;refine Zp (gP b) ?_;refine Zp (gP b) ?_;refine Zp (gP b) ?_;refine Zv (gW c) (Xj rfl b rfl) ?_;refine Ze (Xj rfl c rfl) ?_;refine Zn fun a d=>?_;exact ⟨d.sub ⟨rfl,rfl,rfl,rfl,rfl,X1 rfl (by first|rfl|(simp only [e,c,b,bs];done)|simp [e,c,b]),trivial⟩,rfl⟩
  rintro a _ ⟨d,rfl⟩;refine aF _ _ ?_
  refine Xk d rfl (fun f=>?_) (fun f=>?_)
  ·have aD:=f;have aG:=Xdb aA f;refine Zs d fun _ aH=>?_;refine Za rfl<|Zt aH fun a d=>?_;refine wp_ret<|Xr<|X3<|X3 ?_;refine Xr<|X3<|X2 d (Xv d rfl rfl) ?_;exact ⟨by rw [aG],hW⟩
  have aD:=f;have aI:=f;refine wp_skip<|Xt<|aP _ _<|Zr d ?_;refine Ze (X06 rfl rfl (by omega) (by omega))<|Zm rfl ?_;refine Zn fun a d=>?_;refine Xp ?_;exact ⟨k+1,⟨d.sb,(by omega),(Xam m aA aI),hW⟩,(by omega)⟩
 have e:=g;have g:=of_decide_eq_false g;refine wp_exit<|Xl<|Xl<|X0a ?_;refine aL _ _<|Zs d fun _ aJ=>?_;refine Za rfl<|Zt aJ fun a d=>?_
 refine wp_ret (X2 d (Xv d rfl rfl) ?_)
 exact ⟨by rw [Xdt m (by omega)],hW⟩
theorem Xxq(i:World)(Al:Option Addr)(cl:Nat)(l:List Int)(j:Rd i i.heap.size 3 encI Al l)(lo:Int)(hi:Int)(aQ:l.length≤1048576) : Ret Tryz.prog 182 [.slice Al l.length cl,vi lo,vi hi] i (fun v w=>v=.bool (incF l lo hi)∧Below i.heap.size i w):=by
 refine enter Tryz.func182 rfl 35 rfl rfl ?_;intro a d
 have hW:=bz i
 refine Zs d fun _ aK=>?_;refine Za rfl<|ZX aK fun a d _ aL=>?_;refine Zs d fun _ aM=>?_;refine Zm rfl<|Ze (X0x rfl X08)<|Zm rfl<|Zt aM fun a d=>?_;refine wp_block<|X0b (σ:=Nat) (fun (k:Nat) (a:Act) (w:World)=>Fr a 35 [(0,.slice Al l.length cl),(1,vi lo),(2,vi hi),(9,.slice Al l.length cl),(10,vi (l.length:Int)),(11,vi (k:Int))]∧(k≤l.length)∧(IncU l lo hi k)∧Below i.heap.size i w) (fun (k:Nat)=>l.length-k) 0 ?_ ?_
 ·exact ⟨d.sb,(Nat.zero_le _),(X9g _ _ _),hW⟩
 rintro k a w1 ⟨d,hk,m,hW⟩;refine Zs d fun _ aN=>?_;refine Ze (X10 rfl rfl)<|ZX aN fun a d _ aO=>?_
 refine Xk d rfl (fun g=>?_) (fun g=>?_)
 ·have e:=g;have g:=of_decide_eq_true g
  obtain ⟨u8,aA⟩:=Xi (l:=l) (k:=k) (by omega)
  refine wp_skip<|aO _ _<|wp_seq_k fun _ aP=>?_;refine wp_block<|Zs d fun _ aE=>?_;refine Zm rfl<|Zi (k:=k) (u:=u8) (enc:=encI) (l:=l) trivial rfl rfl X08 X1j X02 (j.below' hW) aA rfl ?_;intro aR aB;refine Ze (X0 rfl X7 aB)<|Za rfl<|Za rfl<|ZX aE fun a d _ aF=>?_;refine X0o (fun a w=>Fr a 35 [(0,.slice Al l.length cl),(1,vi lo),(2,vi hi),(9,.slice Al l.length cl),(10,vi (l.length:Int)),(11,vi (k:Int)),(33,.bool ((!(inR u8 lo hi))||((decide (0<(k:Int)))&&(decide (u8≤(l.getD (k-1) 0))))))]∧w1=w) ?_ ?_
  ·refine Zr d<|Zm rfl<|Zm rfl<|Zm rfl<|Zf (Vc (F85 _ u8 lo hi) X40) ?_;rintro _ _ ⟨rfl,rfl⟩;refine Ze (X0z rfl)<|Zm rfl ?_
   refine Zg 21 rfl (fun c=>?_) (fun c=>?_)
   ·refine Zp (gP c) ?_;refine Zp (gP c) ?_;refine Zp (gP c) ?_;refine Zp (gP trivial) ?_;refine Zp (gP trivial) ?_;refine Zp (gP trivial) ?_;refine Zp (gP trivial) ?_;refine Zp (gP trivial) ?_;refine Zp (gP trivial) ?_;refine Zp (gP trivial) ?_;refine Zp (gP c) ?_;refine Ze (Xn rfl c rfl) ?_;refine Zn fun a d=>?_;exact ⟨d.sub ⟨rfl,rfl,rfl,rfl,rfl,rfl,X1 rfl (by first|rfl|(simp only [e,c,bs];done)|simp [e,c]),trivial⟩,rfl⟩
   refine Zv (gW c) (Xa rfl) ?_;refine Zv (gW c) (X3a rfl rfl) ?_;refine Zv (gW c) (Xa rfl) ?_
   refine Zg 24 rfl (fun b=>?_) (fun b=>?_)
   ·have aS:=of_decide_eq_true b;refine Zv (gW b) (Xa rfl) ?_;refine Zv (gW b) (Xa rfl) ?_;refine Zv (gW b) (X1h rfl rfl (by omega) (by omega)) ?_;refine Zi (k:=(k-1)) (u:=(l.getD (k-1) 0)) (enc:=encI) (l:=l) ⟨_,_,rfl,rfl,b⟩ rfl rfl X08 X1j X02 (j.below' hW) (X63 (by omega)) (by omega) ?_;intro aT aC;refine Zv (gW b) (X0 rfl X7 aC) ?_;refine Zv (gW b) (Xa rfl) ?_;refine Zv (gW b) (X99 rfl rfl) ?_;refine Zv (gW c) (Xn rfl b rfl) ?_;refine Ze (Xj rfl c rfl) ?_;refine Zn fun a d=>?_;exact ⟨d.sub ⟨rfl,rfl,rfl,rfl,rfl,rfl,X1 rfl (by first|rfl|(simp only [e,c,b,bs];done)|simp [e,c,b]),trivial⟩,rfl⟩
   refine Zp (gP b) ?_;refine Zp (gP b) ?_;refine Zp (gP b) ?_;refine Zp (gP b) ?_;refine Zp (gP b) ?_;refine Zp (gP b) ?_;refine Zp (gP b) ?_;refine Zv (gW c) (Xj rfl b rfl) ?_;refine Ze (Xj rfl c rfl) ?_;refine Zn fun a d=>?_;exact ⟨d.sub ⟨rfl,rfl,rfl,rfl,rfl,rfl,X1 rfl (by first|rfl|(simp only [e,c,b,bs];done)|simp [e,c,b]),trivial⟩,rfl⟩
  rintro a _ ⟨d,rfl⟩;refine aF _ _ ?_
  refine Xk d rfl (fun f=>?_) (fun f=>?_)
  ·have aD:=f;have aG:=Xdb aA f;refine Zs d fun _ aH=>?_;refine Za rfl<|Zt aH fun a d=>?_;refine wp_ret<|Xr<|X3<|X3 ?_;refine Xr<|X3<|X2 d (Xv d rfl rfl) ?_;exact ⟨by rw [aG],hW⟩
  have aD:=f;have aI:=f;refine wp_skip<|Xt<|aP _ _<|Zr d ?_;refine Ze (X06 rfl rfl (by omega) (by omega))<|Zm rfl ?_;refine Zn fun a d=>?_;refine Xp ?_;exact ⟨k+1,⟨d.sb,(by omega),(Xam m aA aI),hW⟩,(by omega)⟩
 have e:=g;have g:=of_decide_eq_false g;refine wp_exit<|Xl<|Xl<|X0a ?_;refine aL _ _<|Zs d fun _ aJ=>?_;refine Za rfl<|Zt aJ fun a d=>?_
 refine wp_ret (X2 d (Xv d rfl rfl) ?_)
 exact ⟨by rw [Xdt m (by omega)],hW⟩
theorem Xwa(g:World)(c:Cx)(Ac:Option Addr)(cc:Nat)(aH:Rd g g.heap.size 115 encG Ac c.gs)(Aqs:Option Addr)(cqs:Nat)(qs:List Int)(aA:Rd g g.heap.size 3 encI Aqs qs)(hn:1≤c.n∧c.n≤5)(aC:qs.length≤1048576) : Ret Tryz.prog 138 [.agg #[vi c.n,.slice Ac c.gs.length cc],.slice Aqs qs.length cqs] g (fun v w=>v=.bool (inR (qs.length:Int) 1 2&&incF qs 0 (c.n-1))∧Below g.heap.size g w):=by
 refine enter Tryz.func138 rfl 15 rfl rfl ?_;intro a d
 have e:=bz g
 refine Zs d fun _ aD=>?_;refine Zf (X0i (zs:=[vi c.n,.slice Ac c.gs.length cc]) rfl rfl) ?_;rintro _ w1 ⟨b4,rfl,aE,hE,aF⟩;have aI:=Nat.le_trans e.size aE;have e:=btr e hE;refine Za rfl<|ZX aD fun a d _ aG=>?_;refine X0o (fun a w=>Fr a 15 [(4,.bool ((inR (qs.length:Int) 1 2)&&(incF qs 0 (c.n-1))))]∧Below w1.heap.size w1 w) ?_ ?_
 ·have f:Below w1.heap.size w1 w1:=Below.refl _ _
  refine Zr d<|Zm rfl<|Ze (X0x rfl X08)<|Zf (Vc (F85 _ (qs.length:Int) 1 2) X40) ?_;rintro _ _ ⟨rfl,rfl⟩;refine Zm rfl ?_
  refine Zg 8 rfl (fun b=>?_) (fun b=>?_)
  ·refine Zv (gW b) (Xa rfl) ?_;refine Zv (gW b) (Vd rfl X1u 0) ?_;refine Zv (gW b) (X0 rfl X7 (aF.at 0)) ?_;refine Zv (gW b) (X1h rfl rfl (by omega) (by omega)) ?_;refine Zk (gW b) (Vc (Xxq _ Aqs cqs qs (aA.below' e).top 0 (c.n-1) aC) Xpe) ?_;rintro _ w2 ⟨rfl,hE⟩;have e:=btr e hE;have f:=btr f hE;refine Ze (Xn rfl b rfl)<|Za rfl ?_;refine Zn fun a d=>?_
   have aB:Below w1.heap.size w1 w2:=f
   exact ⟨d.sub ⟨X1 rfl (by first|rfl|(simp only [b,bs];done)|simp [b]),trivial⟩,aB⟩
  refine Zp (gP b) ?_;refine Zp (gP b) ?_;refine Zp (gP b) ?_;refine Zp (gP b) ?_;refine Zp (gP b) ?_;refine Ze (Xj rfl b rfl)<|Za rfl ?_;refine Zn fun a d=>?_
  have aB:Below w1.heap.size w1 w1:=f
  exact ⟨d.sub ⟨X1 rfl (by first|rfl|(simp only [b,bs];done)|simp [b]),trivial⟩,aB⟩
 rintro a w3 ⟨d,hE⟩;have e:=btr e hE;refine aG _ _ ?_
 refine wp_ret (X2 d (Xv d rfl rfl) ?_)
 exact ⟨by first|rfl|simp [*],e⟩
theorem Xlq(m:World)(g:Gt)(Aqs:Option Addr)(cqs:Nat)(qs:List Int)(aA:Rd m m.heap.size 3 encI Aqs qs)(aH:qs.length≤1048576) : Ret Tryz.prog 139 [.agg #[vi g.k,vi g.a,vi g.b],.slice Aqs qs.length cqs] m (fun v w=>v=.tuple #[vi (inN g qs:Int),vi (ouN g qs:Int)]∧Below m.heap.size m w):=by
 have aT:=X36 g;refine enter Tryz.func139 rfl 27 rfl rfl ?_;intro a c
 have j:=bz m
 refine Zs c fun _ aI=>?_;refine Zf (X0i (zs:=[vi g.k,vi g.a,vi g.b]) rfl rfl) ?_;rintro _ w1 ⟨b3,rfl,aJ,hE,aK⟩;have aS:=Nat.le_trans j.size aJ;have j:=btr j hE;refine Za rfl<|Za rfl<|Zx aI fun a c _ aL=>?_;refine Za rfl<|Za rfl<|ZX aL fun a c _ aM=>?_;refine Zs c fun _ aN=>?_;refine Ze (Vn X0g aK)<|Zf (Vc (Xxv _ g) Xm3) ?_;rintro _ w2 ⟨A7,c7,rfl,e,hE⟩;have e:=e.lower j.size;have j:=btr j hE;refine Ze (X0x rfl X08)<|Zm rfl<|Zt aN fun a c=>?_;refine wp_block<|X0b (σ:=Nat×Nat×Nat) (fun (s:Nat×Nat×Nat) (a:Act) (w:World)=>match s with|(k,p,q)=>Fr a 27 [(1,.slice Aqs qs.length cqs),(6,vi (p:Int)),(7,vi (q:Int)),(11,.slice A7 (qubI g).length c7),(12,vi ((qubI g).length:Int)),(13,vi (k:Int))]∧(k≤(qubI g).length)∧(p=((qubI g).take k).countP (hasB qs))∧(q=((qubI g).take k).countP (fun x=>!hasB qs x))∧(p≤k)∧(q≤k)∧Own w m.heap.size 3 1 encI A7 c7 (qubI g)∧Below m.heap.size m w) (fun (s:Nat×Nat×Nat)=>match s with|(k,p,q)=>(qubI g).length-k) (0,0,0) ?_ ?_
 ·exact ⟨c.sb,(Nat.zero_le _),rfl,rfl,(Nat.le_refl _),(Nat.le_refl _),e,j⟩
 rintro ⟨k,p,q⟩ a w3 ⟨c,hk,hp,hq,aU,aW,e,j⟩;refine Zs c fun _ aO=>?_;refine Ze (X10 rfl rfl)<|ZX aO fun a c _ aP=>?_
 refine Xk c rfl (fun d=>?_) (fun d=>?_)
 ·have aB:=d;have d:=of_decide_eq_true d
  obtain ⟨n,f⟩:=Xi (l:=(qubI g)) (k:=k) (by omega)
  refine wp_skip<|aP _ _<|wp_seq_k fun _ o=>?_;refine wp_block<|Zs c fun _ aE=>?_;refine Zi (k:=k) (u:=n) (enc:=encI) (l:=(qubI g)) trivial rfl rfl X08 X1j X02 e.rd f rfl ?_;intro aX aC;refine Ze (X0 rfl X7 aC)<|Za rfl<|Zx aE fun a c _ aF=>?_;refine Zm rfl<|Zm rfl<|Zf (Vc (Xx0 _ Aqs cqs qs (aA.below' j).top n (Nat.le_trans aH (by decide))) Xla) ?_;rintro _ w4 ⟨rfl,hE⟩;have e:=e.below hE;have j:=btr j hE;refine Zt aF fun a c=>?_
  refine Xk c rfl (fun i=>?_) (fun i=>?_)
  ·have aD:=i
   have hT:hasB qs n=true:=i
   refine Zr c<|Zm rfl<|Ze (X06 rfl rfl (by omega) (by omega))<|Za rfl ?_;refine Zn fun a c=>?_;refine Xt<|o _ _<|Zr c<|Ze (X06 rfl rfl (by omega) (by omega))<|Zm rfl ?_;refine Zn fun a c=>?_;refine Xp ?_;exact ⟨(k+1,p+1,q),⟨c.sb,(by omega),(Xi4 hp f hT),(Xkf hq f (by rw [hT];rfl)),(by omega),(by omega),e,j⟩,(by first|omega|(dsimp only;omega))⟩
  have aD:=i
  have hT:hasB qs n=false:=i
  refine Zr c<|Zm rfl<|Ze (X06 rfl rfl (by omega) (by omega))<|Za rfl ?_;refine Zn fun a c=>?_;refine Xt<|o _ _<|Zr c<|Ze (X06 rfl rfl (by omega) (by omega))<|Zm rfl ?_;refine Zn fun a c=>?_;refine Xp ?_;exact ⟨(k+1,p,q+1),⟨c.sb,(by omega),(Xkf hp f hT),(Xi4 hq f (by rw [hT];rfl)),(by omega),(by omega),e,j⟩,(by first|omega|(dsimp only;omega))⟩
 have aB:=d;have d:=of_decide_eq_false d;refine wp_exit<|Xl<|Xl<|X0a ?_;refine aM _ _<|Zs c fun _ aG=>?_;refine Zm rfl<|Zm rfl<|Za rfl<|Za rfl<|Zt aG fun a c=>?_
 refine wp_ret (X2 c (X0w c rfl rfl rfl) ?_)
 have aQ:p=inN g qs:=by rw [hp,List.take_of_length_le (by omega)];rfl
 have aR:q=ouN g qs:=by rw [hq,List.take_of_length_le (by omega)];rfl
 exact ⟨by rw [aQ,aR],j⟩
theorem Xs4(o:World)(z:Cx)(Az:Option Addr)(cz:Nat)(x:Rd o o.heap.size 115 encG Az z.gs)(Arun:Option Addr)(crun:Nat)(run:List Int)(D:Rd o o.heap.size 3 encI Arun run)(b8:run.length≤1048576)(aT:∀ i ∈ run,∃ j:Nat,i=(j:Int)∧j<z.gs.length) : Ret Tryz.prog 85 [.agg #[vi z.n,.slice Az z.gs.length cz],.slice Arun run.length crun] o (fun v w=>∃ A c,v=.slice A (gatL z run).length c∧Own w o.heap.size 115 3 encG A c (gatL z run)∧Below o.heap.size o w):=by
 refine enter Tryz.func85 rfl 25 rfl rfl ?_;intro a e
 have f:=bz o
 refine Zs e fun _ aU=>?_;refine Zf (X0i (zs:=[vi z.n,.slice Az z.gs.length cz]) rfl rfl) ?_;rintro _ w1 ⟨b4,rfl,aW,H,g⟩;have b6:=Nat.le_trans f.size aW;have f:=btr f H;refine Za rfl<|Zx aU fun a e _ aX=>?_;refine Zf (X5 (k:=0) (vs:=[]) (zs:=[]) rfl Xf Xo rfl rfl) ?_;rintro _ w2 ⟨b7,rfl,aE,H,aY⟩;have aF:=Nat.le_trans f.size aE;have aS:=(x.below' f).away aE;have g:=g.below H;have f:=btr f H;refine Za rfl<|ZX aX fun a e _ aZ=>?_;refine Zs e fun _ aG=>?_;refine Zm rfl<|Ze (X0x rfl X08)<|Zm rfl<|Zt aG fun a e=>?_;refine wp_block<|X0b (σ:=Nat×(List Gt)) (fun (s:Nat×(List Gt)) (a:Act) (w:World)=>match s with|(k,q)=>∃ E G,Fr a 25 [(2,.pointer (some ⟨b4,0,none⟩)),(5,.slice E q.length G),(9,.slice Arun run.length crun),(10,vi (run.length:Int)),(11,vi (k:Int))]∧(k≤run.length)∧(q=(run.take k).map fun i=>z.gs.getD i.toNat gZ)∧(q.length=k)∧Blk w b4 28 [vi z.n,.slice Az z.gs.length cz]∧Own w o.heap.size 115 3 encG E G q∧Below o.heap.size o w) (fun (s:Nat×(List Gt))=>match s with|(k,q)=>run.length-k) (0,[]) ?_ ?_
 ·exact ⟨some ⟨b7,0,none⟩,0,e.sb,(Nat.zero_le _),rfl,rfl,g,(Own.empty aY aF),f⟩
 rintro ⟨k,q⟩ a w3 ⟨E,G,e,hk,hq,b0,g,m,f⟩;refine Zs e fun _ aH=>?_;refine Ze (X10 rfl rfl)<|ZX aH fun a e _ aI=>?_
 refine Xk e rfl (fun d=>?_) (fun d=>?_)
 ·have aA:=d;have d:=of_decide_eq_true d
  obtain ⟨b1,y⟩:=Xi (l:=run) (k:=k) (by omega)
  obtain ⟨p,aJ,aK⟩:=aT _ (List.mem_of_getElem? y);refine wp_skip<|aI _ _<|wp_seq_k fun _ aL=>?_;refine wp_block<|Zs e fun _ aM=>?_;refine Zi (k:=k) (u:=b1) (enc:=encI) (l:=run) trivial rfl rfl X08 X1j X02 (D.below' f) y rfl ?_;intro b9 aB;refine Ze (X0 rfl X7 aB)<|Za rfl<|Zt aM fun a e=>?_;refine Zr e<|Zm rfl<|Ze (Vd rfl X0v 1)<|Ze (X0 rfl X15 (g.at 1))<|Zm rfl<|Zi (k:=p) (u:=(z.gs.getD p gZ)) (enc:=encG) (l:=z.gs) trivial rfl rfl Xf X0p Xb (x.below' f) (Xb8 aK) aJ ?_;intro bC aC;refine Ze (X07 (l:=[vi ((z.gs.getD p gZ).k),vi ((z.gs.getD p gZ).a),vi ((z.gs.getD p gZ).b)]) rfl X0g aC rfl)<|Zf (X5 (k:=1) (vs:=[.agg #[vi ((z.gs.getD p gZ).k),vi ((z.gs.getD p gZ).a),vi ((z.gs.getD p gZ).b)]]) (zs:=[vi ((z.gs.getD p gZ).k),vi ((z.gs.getD p gZ).a),vi ((z.gs.getD p gZ).b)]) rfl Xf Xo rfl rfl) ?_;rintro _ w4 ⟨bD,rfl,h,H,B⟩;have b2:=Nat.le_trans f.size h;have t:=m.away h;have aN:=(x.below' f).away h;have g:=g.below H;have m:=m.below H;have f:=btr f H;refine Zf (X11 (enc:=encG) (l:=(q)) (l2:=([(z.gs.getD p gZ)])) (B0:=o.heap.size) rfl rfl Xf Xo Xb X0d m (Rd.of_blk B rfl _ B.lt) (by simp only [maxLen];simp;omega) (by simp;omega) f.size) ?_;rintro _ w5 ⟨b3,b5,rfl,aO,hg,aP⟩
  have C:Own _ o.heap.size 115 3 encG _ _ (q):=m
  have aD:=aP _ B.lt t;clear aP;have g:=g.appT C hg rfl;have f:=Below.app f C hg (Nat.le_refl _) f.size;clear C hg;refine Za rfl ?_;refine Zn fun a e=>?_;refine Xt<|aL _ _<|Zr e<|Ze (X06 rfl rfl (by omega) (by omega))<|Zm rfl ?_;refine Zn fun a e=>?_;refine Xp ?_;exact ⟨(k+1,(q++[z.gs.getD p gZ])),⟨b3,b5,e.sb,(by omega),(Xo4 hq y aJ),(by simp;exact b0),g,aO,f⟩,(by first|omega|(dsimp only;omega))⟩
 have aA:=d;have d:=of_decide_eq_false d
 have aQ:q=gatL z run:=by rw [hq,List.take_of_length_le (by omega)];rfl
 refine wp_exit<|Xl<|Xl<|X0a ?_;refine aZ _ _<|Zs e fun _ aR=>?_;refine Zm rfl<|Za rfl<|Zt aR fun a e=>?_
 refine wp_ret (X2 e (Xv e rfl rfl) ?_)
 rw [← aQ]
 exact ⟨E,G,rfl,m,f⟩
theorem Xmm(Q:World)(c:Cx)(Ac:Option Addr)(cc:Nat)(e:Rd Q Q.heap.size 115 encG Ac c.gs)(p:Int)(Aqs:Option Addr)(cqs:Nat)(qs:List Int)(d:Rd Q Q.heap.size 3 encI Aqs qs)(bK:c.gs.length≤1000000000)(aG:qs.length≤1048576) : Ret Tryz.prog 84 [.agg #[vi c.n,.slice Ac c.gs.length cc],vi p,.slice Aqs qs.length cqs] Q (fun v w=>∃ A c1,v=.tuple #[.slice A ((runP c p qs).getD []).length c1,.bool ((runP c p qs).isSome)]∧Own w Q.heap.size 3 1 encI A c1 ((runP c p qs).getD [])∧Below Q.heap.size Q w):=by
 refine enter Tryz.func84 rfl 77 rfl rfl ?_;intro a y
 have z:=bz Q
 refine Zs y fun _ bL=>?_;refine Zf (X0i (zs:=[vi c.n,.slice Ac c.gs.length cc]) rfl rfl) ?_;rintro _ w1 ⟨b4,rfl,bM,f,g⟩;have cA:=Nat.le_trans z.size bM;have e:=e.below f;have d:=d.below f;have z:=btr z f;refine Zf (X0i (zs:=[.slice Aqs qs.length cqs]) rfl rfl) ?_;rintro _ w2 ⟨b5,rfl,bN,f,m⟩;have cB:=Nat.le_trans z.size bN;have g:=g.below f;have e:=e.below f;have d:=d.below f;have z:=btr z f;refine Za rfl<|Za rfl<|ZX bL fun a y _ bO=>?_;refine wp_seq_k fun _ bP=>?_;refine X0o (fun a w=>Fr a 77 [(1,vi p),(3,.pointer (some ⟨b4,0,none⟩)),(5,.pointer (some ⟨b5,0,none⟩)),(45,.bool (((((!(cOk c))||(!(inR (qs.length:Int) 1 2)))||(!(incF qs 0 (c.n-1))))||(!(inR p 0 ((c.gs.length:Int)-1))))||(!(insB (c.gs.getD p.toNat gZ) qs))))]∧Below w2.heap.size w2 w) ?_ ?_
 ·have C:Below w2.heap.size w2 w2:=Below.refl _ _
  refine X0h none (fun _=>false) mixed ?_;intro w3 f;have g:=g.below f;have m:=m.below f;have e:=e.below f;have d:=d.below f;have z:=btr z f;have C:=btr C f;refine Yb y<|Ye 0 rfl (Vn X1l g)<|Y1 1 ?_;refine Yk rfl trivial (Vc (F55 _ c Ac cc e.top (Nat.le_trans bK (by decide))) Xl5) (fun _ _ ⟨_,f⟩=>f) ?_;rintro _ w4 ⟨rfl,f⟩;have g:=g.below f;have m:=m.below f;have e:=e.below f;have d:=d.below f;have z:=btr z f;have C:=btr C f;refine Yo 2 rfl (fun _=>X0z rfl)<|Yo 3 rfl (fun _=>Xa rfl) ?_
  refine Yl 14 rfl (fun h=>?_) (fun h=>?_)
  ·refine Yp 4 rfl (gP h) ?_;refine Yp 5 rfl (gP h) ?_;refine Y1 6<|Yq rfl ⟨_,_,rfl,rfl,h⟩ ?_;refine Yp 7 rfl (gP h) ?_;refine Yo 8 rfl (fun _=>Xn rfl h rfl)<|Yo 9 rfl (fun _=>Xa rfl)<|Yp 10 rfl (gP rfl) ?_;refine Yp 11 rfl (gP rfl) ?_;refine Yp 12 rfl (gP rfl) ?_;refine Y1 13<|Yq rfl ⟨_,_,rfl,rfl,rfl⟩ ?_;refine Yp 14 rfl (gP rfl) ?_;refine Yo 15 rfl (fun _=>Xn rfl rfl rfl)<|Yo 16 rfl (fun _=>Xa rfl)<|Yp 17 rfl (gP rfl) ?_;refine Yp 18 rfl (gP rfl) ?_;refine Yp 19 rfl (gP rfl) ?_;refine Yp 20 rfl (gP rfl) ?_;refine Yp 21 rfl (gP rfl) ?_;refine Y1 22<|Yq rfl ⟨_,_,rfl,rfl,rfl⟩ ?_;refine Yp 23 rfl (gP rfl) ?_;refine Yo 24 rfl (fun _=>Xn rfl rfl rfl)<|Yo 25 rfl (fun _=>Xa rfl)<|Yp 26 rfl (gP rfl) ?_;refine Yp 27 rfl (gP rfl) ?_;refine Yp 28 rfl (gP rfl) ?_;refine Yp 29 rfl (gP rfl) ?_;refine Yp 30 rfl (gP rfl) ?_;refine Yp 31 rfl (gP rfl) ?_;refine Y1 32<|Yq rfl ⟨_,_,rfl,rfl,rfl⟩ ?_;refine Yp 33 rfl (gP rfl) ?_;refine Yo 34 rfl (fun _=>Xn rfl rfl rfl) ?_;refine Yd fun a y=>?_
   have I:Below w2.heap.size w2 w4:=C
   exact ⟨y.sub ⟨rfl,rfl,rfl,X1 rfl (by first|rfl|(simp only [h,bs];done)|simp [h]),trivial⟩,I⟩
  have bQ:cOk c=true:=bn2 h
  refine Yv 4 rfl (gW h) (X0 rfl X4d (m.at 0)) ?_;refine Yu 5 rfl (gW h) (fun _=>X0x rfl X08) ?_;refine Y1 6<|Yz rfl ⟨_,_,rfl,rfl,h⟩ (Vc (F91 _ (qs.length:Int) 1 2) X38) ?_;refine Yu 7 rfl (gW h) (fun _=>X0z rfl) ?_;refine Yo 8 rfl (fun _=>Xj rfl h rfl)<|Yo 9 rfl (fun _=>Xa rfl) ?_
  refine Yl 20 rfl (fun o=>?_) (fun o=>?_)
  ·refine Yp 10 rfl (gP o) ?_;refine Yp 11 rfl (gP o) ?_;refine Yp 12 rfl (gP o) ?_;refine Y1 13<|Yq rfl ⟨_,_,rfl,rfl,o⟩ ?_;refine Yp 14 rfl (gP o) ?_;refine Yo 15 rfl (fun _=>Xn rfl o rfl)<|Yo 16 rfl (fun _=>Xa rfl)<|Yp 17 rfl (gP rfl) ?_;refine Yp 18 rfl (gP rfl) ?_;refine Yp 19 rfl (gP rfl) ?_;refine Yp 20 rfl (gP rfl) ?_;refine Yp 21 rfl (gP rfl) ?_;refine Y1 22<|Yq rfl ⟨_,_,rfl,rfl,rfl⟩ ?_;refine Yp 23 rfl (gP rfl) ?_;refine Yo 24 rfl (fun _=>Xn rfl rfl rfl)<|Yo 25 rfl (fun _=>Xa rfl)<|Yp 26 rfl (gP rfl) ?_;refine Yp 27 rfl (gP rfl) ?_;refine Yp 28 rfl (gP rfl) ?_;refine Yp 29 rfl (gP rfl) ?_;refine Yp 30 rfl (gP rfl) ?_;refine Yp 31 rfl (gP rfl) ?_;refine Y1 32<|Yq rfl ⟨_,_,rfl,rfl,rfl⟩ ?_;refine Yp 33 rfl (gP rfl) ?_;refine Yo 34 rfl (fun _=>Xn rfl rfl rfl) ?_;refine Yd fun a y=>?_
   have I:Below w2.heap.size w2 w4:=C
   exact ⟨y.sub ⟨rfl,rfl,rfl,X1 rfl (by first|rfl|(simp only [h,o,bs];done)|simp [h,o]),trivial⟩,I⟩
  refine Yv 10 rfl (gW o) (X0 rfl X4d (m.at 0)) ?_;refine Yu 11 rfl (gW o) (fun _=>Vd rfl X1u 0) ?_;refine Yv 12 rfl (gW o) (X0 rfl X7 (g.at 0)) ?_;refine Y1 13<|Yk rfl ⟨_,_,rfl,rfl,o⟩ (Vc (Xxn _ Aqs cqs qs d.top c.n (by have:=(X12 bQ).1;omega) aG) Xqg) (fun _ _ ⟨_,f⟩=>f) ?_;rintro _ w5 ⟨rfl,f⟩;have g:=g.below f;have m:=m.below f;have e:=e.below f;have d:=d.below f;have z:=btr z f;have C:=btr C f;refine Yu 14 rfl (gW o) (fun _=>X0z rfl) ?_;refine Yo 15 rfl (fun _=>Xj rfl o rfl)<|Yo 16 rfl (fun _=>Xa rfl) ?_
  refine Yl 27 rfl (fun j=>?_) (fun j=>?_)
  ·refine Yp 17 rfl (gP j) ?_;refine Yp 18 rfl (gP j) ?_;refine Yp 19 rfl (gP j) ?_;refine Yp 20 rfl (gP j) ?_;refine Yp 21 rfl (gP j) ?_;refine Y1 22<|Yq rfl ⟨_,_,rfl,rfl,j⟩ ?_;refine Yp 23 rfl (gP j) ?_;refine Yo 24 rfl (fun _=>Xn rfl j rfl)<|Yo 25 rfl (fun _=>Xa rfl)<|Yp 26 rfl (gP rfl) ?_;refine Yp 27 rfl (gP rfl) ?_;refine Yp 28 rfl (gP rfl) ?_;refine Yp 29 rfl (gP rfl) ?_;refine Yp 30 rfl (gP rfl) ?_;refine Yp 31 rfl (gP rfl) ?_;refine Y1 32<|Yq rfl ⟨_,_,rfl,rfl,rfl⟩ ?_;refine Yp 33 rfl (gP rfl) ?_;refine Yo 34 rfl (fun _=>Xn rfl rfl rfl) ?_;refine Yd fun a y=>?_
   have I:Below w2.heap.size w2 w5:=C
   exact ⟨y.sub ⟨rfl,rfl,rfl,X1 rfl (by first|rfl|(simp only [h,o,j,bs];done)|simp [h,o,j]),trivial⟩,I⟩
  refine Yu 17 rfl (gW j) (fun _=>Xa rfl) ?_;refine Yu 18 rfl (gW j) (fun _=>Vd rfl X0v 1) ?_;refine Yv 19 rfl (gW j) (X0 rfl X15 (g.at 1)) ?_;refine Yu 20 rfl (gW j) (fun _=>X0x rfl Xf) ?_;refine Yu 21 rfl (gW j) (fun _=>X1h rfl rfl (by omega) (by omega)) ?_;refine Y1 22<|Yz rfl ⟨_,_,rfl,rfl,j⟩ (Vc (F91 _ p 0 ((c.gs.length:Int)-1)) X38) ?_;refine Yu 23 rfl (gW j) (fun _=>X0z rfl) ?_;refine Yo 24 rfl (fun _=>Xj rfl j rfl)<|Yo 25 rfl (fun _=>Xa rfl) ?_
  refine Yl 36 rfl (fun i=>?_) (fun i=>?_)
  ·refine Yp 26 rfl (gP i) ?_;refine Yp 27 rfl (gP i) ?_;refine Yp 28 rfl (gP i) ?_;refine Yp 29 rfl (gP i) ?_;refine Yp 30 rfl (gP i) ?_;refine Yp 31 rfl (gP i) ?_;refine Y1 32<|Yq rfl ⟨_,_,rfl,rfl,i⟩ ?_;refine Yp 33 rfl (gP i) ?_;refine Yo 34 rfl (fun _=>Xn rfl i rfl) ?_;refine Yd fun a y=>?_
   have I:Below w2.heap.size w2 w5:=C
   exact ⟨y.sub ⟨rfl,rfl,rfl,X1 rfl (by first|rfl|(simp only [h,o,j,i,bs];done)|simp [h,o,j,i]),trivial⟩,I⟩
  have bR:inR p 0 ((c.gs.length:Int)-1)=true:=by revert i;cases inR p 0 ((c.gs.length:Int)-1)<;>simp
  have cD:=X03.1 bR;refine Yu 26 rfl (gW i) (fun _=>Vd rfl X0v 1) ?_;refine Yv 27 rfl (gW i) (X0 rfl X15 (g.at 1)) ?_;refine Yu 28 rfl (gW i) (fun _=>Xa rfl) ?_;refine Yi (k:=p.toNat) (u:=(c.gs.getD p.toNat gZ)) (enc:=encG) (l:=c.gs) 29 rfl ⟨_,_,rfl,rfl,i⟩ rfl rfl Xf X0p Xb e (Xb8 (by omega)) (by omega) ?_;intro cE aO;refine Yv 30 rfl (gW i) (X07 (l:=[vi ((c.gs.getD p.toNat gZ).k),vi ((c.gs.getD p.toNat gZ).a),vi ((c.gs.getD p.toNat gZ).b)]) rfl X0g aO rfl) ?_;refine Yv 31 rfl (gW i) (X0 rfl X4d (m.at 0)) ?_;refine Y1 32<|Yk rfl ⟨_,_,rfl,rfl,i⟩ (Vc (Xkc _ (c.gs.getD p.toNat gZ) Aqs cqs qs d.top aG) Xbv) (fun _ _ ⟨_,f⟩=>f) ?_;rintro _ w6 ⟨rfl,f⟩;have z:=btr z f;have C:=btr C f;refine Yu 33 rfl (gW i) (fun _=>X0z rfl) ?_;refine Yo 34 rfl (fun _=>Xj rfl i rfl) ?_;refine Yd fun a y=>?_
  have I:Below w2.heap.size w2 w6:=C
  exact ⟨y.sub ⟨rfl,rfl,rfl,X1 rfl (by first|rfl|(simp only [h,o,j,i,bs];done)|simp [h,o,j,i]),trivial⟩,I⟩
 rintro a w7 ⟨y,f⟩;have g:=g.below f;have m:=m.below f;have e:=e.below f;have d:=d.below f;have z:=btr z f;refine bP _ _ ?_
 refine Xk y rfl (fun D=>?_) (fun D=>?_)
 ·have E:=D
  have J:runP c p qs=none:=Xhc (by rw [Xd9] at D;exact bn1 D)
  refine Zs y fun _ aX=>?_;refine Za rfl<|Za rfl<|Zt aX fun a y=>?_;refine wp_ret<|X3<|X2 y (X0w y rfl rfl rfl) ?_
  rw [J]
  exact ⟨none,0,rfl,(Own.nil _ _ _ _ _),z⟩
 have E:=D
 have aJ:(cOk c&&runB c p qs)=true:=by rw [Xd9] at D;exact bn2 D
 have aY:=Xe9 aJ;obtain ⟨cC,aZ⟩:=(Bool.and_eq_true _ _▸aJ:cOk c=true∧runB c p qs=true)
 have cF:0≤p:=by obtain ⟨_,_,k9,e9,_⟩:=X2e aZ;omega
 refine wp_skip<|bO _ _<|Zs y fun _ b0=>?_;refine Zf (X5 (k:=0) (vs:=[]) (zs:=[]) rfl X08 X1o rfl rfl) ?_;rintro _ w8 ⟨bS,rfl,aK,f,b1⟩;have aP:=Nat.le_trans z.size aK;have b2:=d.away aK;have g:=g.below f;have m:=m.below f;have e:=e.below f;have d:=d.below f;have z:=btr z f;refine Za rfl<|ZX b0 fun a y _ aL=>?_;refine Zs y fun _ b3=>?_;refine Zm rfl<|Za rfl<|Zt b3 fun a y=>?_;refine wp_block<|X0b (σ:=Nat×Int×(List Int)) (fun (s:Nat×Int×(List Int)) (a:Act) (w:World)=>match s with|(k,x,q)=>∃ U W,Fr a 77 [(3,.pointer (some ⟨b4,0,none⟩)),(5,.pointer (some ⟨b5,0,none⟩)),(8,.slice U q.length W),(9,vi x)]∧(x=p+(k:Int))∧(RnS c p qs k q)∧Blk w b4 28 [vi c.n,.slice Ac c.gs.length cc]∧Blk w b5 43 [.slice Aqs qs.length cqs]∧Own w Q.heap.size 3 1 encI U W q∧Rd w Q.heap.size 115 encG Ac c.gs∧Rd w Q.heap.size 3 encI Aqs qs∧Below Q.heap.size Q w) (fun (s:Nat×Int×(List Int))=>match s with|(k,x,q)=>c.gs.length+1-(p.toNat+k)) (0,p,[]) ?_ ?_
 ·exact ⟨some ⟨bS,0,none⟩,0,y.sb,(by simp),(Xdv aZ),g,m,(Own.empty b1 aP),e,d,z⟩
 rintro ⟨k,x,q⟩ a w9 ⟨U,W,y,hx,hS,g,m,t,e,d,z⟩;refine wp_seq_k fun _ b6=>?_;refine wp_seq_k fun _ b7=>?_;refine X0o (fun a w=>Fr a 77 [(3,.pointer (some ⟨b4,0,none⟩)),(5,.pointer (some ⟨b5,0,none⟩)),(8,.slice U q.length W),(9,vi x),(57,.bool ((decide (x<(c.gs.length:Int)))&&(decide ((q.length:Int)<6))))]∧w9=w) ?_ ?_
 ·refine Zr y<|Zm rfl<|Ze (Vd rfl X0v 1)<|Ze (X0 rfl X15 (g.at 1))<|Ze (X0x rfl Xf)<|Ze (X10 rfl rfl) ?_;refine Zm rfl ?_
  refine Zg 53 rfl (fun B=>?_) (fun B=>?_)
  ·refine Zv (gW B) (Xa rfl) ?_;refine Zv (gW B) (X0x rfl X08) ?_;refine Zv (gW B) (X10 rfl rfl) ?_;refine Ze (Xn rfl B rfl) ?_;refine Zn fun a y=>?_;exact ⟨y.sub ⟨rfl,rfl,rfl,rfl,X1 rfl (by first|rfl|(simp only [E,B,bs];done)|simp [E,B]),trivial⟩,rfl⟩
  refine Zp (gP B) ?_;refine Zp (gP B) ?_;refine Zp (gP B) ?_;refine Ze (Xj rfl B rfl) ?_;refine Zn fun a y=>?_;exact ⟨y.sub ⟨rfl,rfl,rfl,rfl,X1 rfl (by first|rfl|(simp only [E,B,bs];done)|simp [E,B]),trivial⟩,rfl⟩
 rintro a _ ⟨y,rfl⟩;refine b7 _ _ ?_
 refine Xk y rfl (fun L=>?_) (fun L=>?_)
 ·have aQ:=L
  obtain ⟨cG,cH⟩ : x<(c.gs.length:Int)∧(q.length:Int)<6:=by simpa using L
  have aR:q.length<6:=by omega
  obtain ⟨u9,aH⟩:=Xi (l:=c.gs) (k:=p.toNat+k) (by omega)
  refine wp_skip<|b6 _ _<|wp_seq_k fun _ aM=>?_;refine wp_block<|Zs y fun _ b8=>?_;refine Ze (Vd rfl X0v 1)<|Ze (X0 rfl X15 (g.at 1))<|Zm rfl<|Zi (k:=(p.toNat+k)) (u:=u9) (enc:=encG) (l:=c.gs) trivial rfl rfl Xf X0p Xb e aH (by omega) ?_;intro cJ aS;refine Ze (X07 (l:=[vi u9.k,vi u9.a,vi u9.b]) rfl X0g aS rfl)<|Zf (X8 (zs:=[vi 0,vi 0,vi 0]) X2i rfl) ?_;rintro _ cK ⟨cL,rfl,aN,f,G⟩;have aC:=Nat.le_trans z.size aN;have b9:=e.away aN;have g:=g.below f;have m:=m.below f;have t:=t.below f;have e:=e.below f;have d:=d.below f;have z:=btr z f;refine Zo (Vw [vi u9.k,vi u9.a,vi u9.b] X0p G) ?_;rintro _ cM ⟨ho,hb⟩;have aA:=G;have g:=g.only ho (Blk.ne g aA rfl);have m:=m.only ho (Blk.ne m aA rfl);have t:=t.onlyT ho aA rfl;have e:=e.only ho aC;have d:=d.onlyT ho aA rfl;have z:=Below.only z ho aC;have G:=hb;refine Zx b8 fun a y _ bC=>?_;refine Ze (Vn X0g G)<|Ze (X0 rfl X4d (m.at 0))<|Zf (Vc (Xkc _ u9 Aqs cqs qs d.top aG) Xbv) ?_;rintro _ cN ⟨rfl,f⟩;have g:=g.below f;have m:=m.below f;have G:=G.below f;have t:=t.below f;have e:=e.below f;have d:=d.below f;have z:=btr z f;refine Zt bC fun a y=>?_
  refine Xk y rfl (fun M=>?_) (fun M=>?_)
  ·have aT:=M;have aI:=M;refine Zr y<|Zm rfl<|Zm rfl<|Zf (X5 (k:=1) (vs:=[vi x]) (zs:=[vi x]) rfl X08 X1o rfl rfl) ?_;rintro _ cO ⟨cP,rfl,aD,f,aE⟩;have bU:=Nat.le_trans z.size aD;have aB:=t.away aD;have bD:=d.away aD;have g:=g.below f;have m:=m.below f;have t:=t.below f;have e:=e.below f;have d:=d.below f;have z:=btr z f;refine Zf (X11 (enc:=encI) (l:=(q)) (l2:=([x])) (B0:=Q.heap.size) rfl rfl X08 X1o X02 X2v t (Rd.of_blk aE rfl _ aE.lt) (by simp only [maxLen];simp;omega) (by simp;omega) z.size) ?_;rintro _ cQ ⟨bW,bX,rfl,bE,hg,bF⟩
   have H:Own _ Q.heap.size 3 1 encI _ _ (q):=t
   have aW:=bF _ aE.lt aB;clear bF;have g:=g.appT H hg rfl;have m:=m.appT H hg rfl;have e:=e.appT H hg rfl;have d:=d.appB H hg (Nat.le_refl _);have z:=Below.app z H hg (Nat.le_refl _) z.size;clear H hg;refine Za rfl ?_;refine Zn fun a y=>?_;refine Xt<|aM _ _<|Zr y<|Zm rfl<|Ze (X06 rfl rfl (by omega) (by omega))<|Za rfl ?_;refine Zn fun a y=>?_;refine Xp ?_;exact ⟨(k+1,x+1,q++([x])),⟨bW,bX,y.sb,(by omega),(Xg6 hx hS aH aR aI),g,m,bE,e,d,z⟩,(by first|omega|(dsimp only;omega))⟩
  have aT:=M;have aI:=M;refine Zs y fun _ bG=>?_;refine Ze (Vn X0g G)<|Zf (Vc (F96 _ u9) Xgs) ?_;rintro _ cR ⟨bY,bZ,rfl,aF,f⟩;have aF:=aF.lower z.size;have g:=g.below f;have m:=m.below f;have t:=t.below f;have e:=e.below f;have d:=d.below f;have z:=btr z f;refine Ze (X2z (vs:=[.pointer (some ⟨b5,0,none⟩)]) rfl)<|Zf (Vc (Xxi _ bY bZ (qubI u9) aF.rd.top 148 [.pointer (some ⟨b5,0,none⟩)] Xra (hasB qs) (fun x9 w9 bH=>Xy1 w9 x9 qs b5 Aqs cqs ((d.top).below bH).top (m.below bH) aG) (by have:=X36 u9;omega)) Xk6) ?_;rintro _ cS ⟨rfl,f⟩;have g:=g.below f;have m:=m.below f;have t:=t.below f;have e:=e.below f;have d:=d.below f;have z:=btr z f;refine Zt bG fun a y=>?_
  refine Xk y rfl (fun N=>?_) (fun N=>?_)
  ·have aU:=N;have J:=Xdf hS aH aR aI N;refine wp_exit<|Xhp rfl ?_;refine Xl<|Xl<|X0a<|aL _ _ ?_;refine Zs y fun _ bI=>?_;refine Zm rfl<|Za rfl<|Za rfl<|Zt bI fun a y=>?_
   refine wp_ret (X2 y (X0w y rfl rfl rfl) ?_)
   rw [aY]
   rw [← J]
   exact ⟨U,W,rfl,t,z⟩
  have aU:=N
  have c4:tchB u9 qs=false:=N
  refine wp_skip<|Xt<|aM _ _<|Zr y ?_;refine Zm rfl<|Ze (X06 rfl rfl (by omega) (by omega))<|Za rfl ?_;refine Zn fun a y=>?_;refine Xp ?_;exact ⟨(k+1,x+1,q),⟨U,W,y.sb,(by omega),(Xks hS aH aR aI c4),g,m,t,e,d,z⟩,(by first|omega|(dsimp only;omega))⟩
 have aQ:=L
 have J:=Xhh hS (by have h9:¬ (x<(c.gs.length:Int)∧(q.length:Int)<6):=(by simpa using L);omega)
 refine wp_exit<|Xl<|Xl<|X0a ?_;refine aL _ _<|Zs y fun _ bJ=>?_;refine Zm rfl<|Za rfl<|Za rfl<|Zt bJ fun a y=>?_
 refine wp_ret (X2 y (X0w y rfl rfl rfl) ?_)
 rw [aY]
 rw [← J]
 exact ⟨U,W,rfl,t,z⟩
end Go.Proofs.YtblmmikapnflcaaGreatDoor
