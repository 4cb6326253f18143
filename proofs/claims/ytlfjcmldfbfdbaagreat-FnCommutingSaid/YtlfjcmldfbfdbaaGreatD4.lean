/-
  What is proved: for every drawn pair of gates, they commute exactly if the products of their matrices in both orders are equal (and depths of drawn circuits agree and are bounded): the law returns true at every input and leaves its arguments as they were. Conditions: none.
-/
import Derived.Test.YtlfjcmldfbfdbaaGreatD3
import Derived.Test.YtlfjcmldfbfdbaaGreatD2
import Derived.Deep.Strs
import Derived.WalkKit
import Derived.ProofKit
import Derived.OpenShut
import Derived.Deep.Slices
import Derived.Deep.Fields
import Derived.ChangeSame
import Derived.Lib.SmallJoins
import Derived.Test.YtlfjcmldfbfdbaaGreatD1
import Derived.WalkSpells
set_option linter.unusedVariables false
set_option linter.unusedSimpArgs false
namespace Go.Proofs.YtlfjcmldfbfdbaaGreat
open Go.RowKit
structure Ed where (a b:Int) deriving DecidableEq
def encE(x:Ed) : List Value:=[.int .i64 x.a,.int .i64 x.b]
abbrev eV(x:Ed) : Value:=.agg #[.int .i64 x.a,.int .i64 x.b]
def encB(b:Bool) : List Value:=[.bool b]
structure Gp where (n:Int) (es:List Ed)
structure Ro where (st:List Int) (steps:List Gt)
def eZ:Ed:=⟨0,0⟩
def ordE(es:List Ed)(i:Nat)(e:Ed) : Bool:=decide (0<i)&&(decide (e.a<(es.getD (i-1) eZ).a)||(es.getD (i-1) eZ).a==e.a&&decide (e.b≤(es.getD (i-1) eZ).b))
def badS(n:Int)(es:List Ed)(i:Nat) : Bool:=!inR (es.getD i eZ).a 0 (wr ((es.getD i eZ).b-1))||!inR (es.getD i eZ).b 0 (wr (n-1))||ordE es i (es.getD i eZ)
def badI(n:Int)(es:List Ed)(i:Nat) : Bool:=(decide ((es.getD i eZ).a<0)||decide ((es.getD i eZ).b≤(es.getD i eZ).a)||decide (n≤(es.getD i eZ).b))||ordE es i (es.getD i eZ)
def gpS(g:Gp) : Bool:=!(List.range g.es.length).any (badS g.n g.es)&&inR g.n 1 8
def gpI(g:Gp) : Bool:=inR g.n 1 8&&!(List.range g.es.length).any (badI g.n g.es)
def i64(x:Int) : Prop:=-9223372036854775808≤x∧x≤9223372036854775807
def edgS(g:Gp)(a b:Int) : Bool:=g.es.any fun e=>e.a==a&&e.b==b||e.a==b&&e.b==a
def edgI(g:Gp)(a b:Int) : Bool:=g.es.any fun e=>decide ((⟨min a b,max a b⟩ : Ed)=e)
def badP(n:Int)(p:List Int)(i:Nat) : Bool:=!inR (p.getD i 0) 0 (wr (n-1))||(p.take i).any fun y=>y==p.getD i 0
def badQ(n:Int)(p:List Int)(i:Nat) : Bool:=!inR (p.getD i 0) 0 (wr (n-1))||(p.take i).any fun y=>p.getD i 0==y
def plS(n m:Int)(p:List Int) : Bool:=!(List.range p.length).any (badP n p)&&(p.length:Int)==m
def plI(n m:Int)(p:List Int) : Bool:=!(List.range p.length).any (badQ n p)&&(p.length:Int)==m
def swapP(p:List Int)(a b:Int) : List Int:=p.map fun k=>if k=a then b else if k=b then a else k
def redA(gs:List Gt)(done:List Bool)(k i:Nat) : Bool:=!done.getD i false&&comS (gs.getD i gZ) (gs.getD k gZ)
def redB(gs:List Gt)(done:List Bool)(k i:Nat) : Bool:=!done.getD i false&&comI (gs.getD i gZ) (gs.getD k gZ)
def redS(gs:List Gt)(done:List Bool)(k:Int) : Bool:=inR k 0 ((gs.length:Int)-1)&&!done.getD k.toNat false&&!(List.range k.toNat).any (redA gs done k.toNat)
def redI(gs:List Gt)(done:List Bool)(k:Int) : Bool:=inR k 0 ((gs.length:Int)-1)&&!done.getD k.toNat false&&!(List.range k.toNat).any (redB gs done k.toNat)
theorem Xok(g h:Gt) : comS g h=comI g h:=by
 rw [Bool.eq_iff_iff,X2q,X47]
def nearS(g:Gp)(p:List Int)(x:Gt) : Bool:=!inR x.k 9 11||edgS g (p.getD x.a.toNat 0) (p.getD x.b.toNat 0)
def nearI(g:Gp)(p:List Int)(x:Gt) : Bool:=!inR x.k 9 11||edgI g (p.getD x.a.toNat 0) (p.getD x.b.toNat 0)
section
variable (E : Int → Int → Bool) (N : List Int → Gt → Bool) (R : List Bool → Int → Bool) (gs : List Gt)
def stp(s:Gt)(p:List Int)(d:List Bool) : Int×List Int×List Bool:=
 if s.k = -1 then (if E s.a s.b=true then (0,swapP p s.a s.b,d) else (2,p,d))
 else if (s.a != 0||s.b != 0||!R d s.k)=true then (3,p,d)
 else if N p (gs.getD s.k.toNat gZ)=true then (0,p,d.set s.k.toNat true) else (4,p,d)
def playL:Nat→List Gt→List Int→List Bool→Int×Int×List Int×List Bool
 | i,[],p,d=>if d.any (fun x=>!x)=true then (5,(i:Int),p,d) else (0,0,p,d)
 | i,s::l,p,d=>if (stp E N R gs s p d).1=0 then playL (i+1) l (stp E N R gs s p d).2.1 (stp E N R gs s p d).2.2 else ((stp E N R gs s p d).1,(i:Int),p,d)
def moved(s:Gt)(p:List Int) : Gt:=if s.k = -1 then ⟨11,s.a,s.b⟩ else mapG p (gs.getD s.k.toNat gZ)
def nextP(s:Gt)(p:List Int) : List Int:=if s.k = -1 then swapP p s.a s.b else p
def buildL:List Gt→List Int→List Gt
 | [],_=>[]
 | s::l,p=>moved gs s p::buildL l (nextP s p)
end
def stpS(g:Gp)(gs:List Gt):=stp (edgS g) (nearS g) (redS gs) gs
def stpI(g:Gp)(gs:List Gt):=stp (edgI g) (nearI g) (redI gs) gs
def playS(g:Gp)(gs:List Gt):=playL (edgS g) (nearS g) (redS gs) gs
def playI(g:Gp)(gs:List Gt):=playL (edgI g) (nearI g) (redI gs) gs
def runG(g:Gp)(c:Cx)(r:Ro) : Int×Int:=if plS g.n c.n r.st=true then ((playS g c.gs 0 r.steps r.st (List.replicate c.gs.length false)).1,(playS g c.gs 0 r.steps r.st (List.replicate c.gs.length false)).2.1) else (1,0)
def runR(g:Gp)(c:Cx)(r:Ro) : Int×Int:=if plI g.n c.n r.st=true then ((playI g c.gs 0 r.steps r.st (List.replicate c.gs.length false)).1,(playI g c.gs 0 r.steps r.st (List.replicate c.gs.length false)).2.1) else (1,0)
def fitsS(g:Gp)(c:Cx) : Bool:=gpS g&&cOk c&&decide (c.n≤g.n)
def fitsR(g:Gp)(c:Cx) : Bool:=gpI g&&cOk c&&decide (c.n≤g.n)
def chkRS(g:Gp)(c:Cx)(r:Ro) : Int×Int×Bool:=if fitsS g c=true then ((runG g c r).1,(runG g c r).2,true) else (0,0,false)
def chkRI(g:Gp)(c:Cx)(r:Ro) : Int×Int×Bool:=if fitsR g c=true then ((runR g c r).1,(runR g c r).2,true) else (0,0,false)
def rcS(g:Gp)(c:Cx)(r:Ro) : Option Cx:=if fitsS g c=true∧g.n≤5∧r.steps.length≤400 then (if (runG g c r).1=0 then some ⟨g.n,buildL c.gs r.steps r.st⟩ else none) else none
def rcI(g:Gp)(c:Cx)(r:Ro) : Option Cx:=if (chkRI g c r).2.2=true∧(chkRI g c r).1=0∧g.n≤5 then cIf ⟨g.n,buildL c.gs r.steps r.st⟩ else none
end Go.Proofs.YtlfjcmldfbfdbaaGreat
namespace Go.Proofs.YtlfjcmldfbfdbaaGreat
def ltK(key:Int→Int)(i k:Int) : Prop:=key i<key k∨(key i=key k∧i<k)
theorem ltK.trans{key:Int→Int}{i j k:Int}(h:ltK key i j)(h2:ltK key j k) : ltK key i k:=by unfold ltK at *;omega
def Srt(key:Int→Int)(l:List Int) : Prop:=l.Pairwise (ltK key)
theorem Xcp{key:Int→Int}{l1 l2:List Int} : Srt key (l1++l2)↔Srt key l1∧Srt key l2∧∀ x ∈ l1,∀ y ∈ l2,ltK key x y:=List.pairwise_append
theorem X6n{l1 l2:List Int}{k:Nat}(h:k<l1.length) : (l1++l2).getD k 0=l1.getD k 0:=by
 simp only [List.getD_eq_getElem?_getD];rw [List.getElem?_append_left h]
theorem X4q{l1 l2:List Int}{k:Nat}(h:l1.length≤k) : (l1++l2).getD k 0=l2.getD (k-l1.length) 0:=by
 simp only [List.getD_eq_getElem?_getD];rw [List.getElem?_append_right h]
theorem Xgy{l:List Int}{k:Nat}(h:k<l.length) : l.getD k 0 ∈ l:=by
 rw [List.getD_eq_getElem?_getD,List.getElem?_eq_getElem h];exact List.getElem_mem h
theorem Xcs{key:Int→Int}{l:List Int}(h:Srt key l){i j:Nat}(hij:i<j)(hj:j<l.length) : ltK key (l.getD i 0) (l.getD j 0):=by
 rw [List.getD_eq_getElem?_getD,List.getD_eq_getElem?_getD,List.getElem?_eq_getElem hj,List.getElem?_eq_getElem (Nat.lt_trans hij hj)]
 exact (List.pairwise_iff_getElem.1 h) i j (Nat.lt_trans hij hj) hj hij
def Cut(pr:Nat→Prop)(lo hi st r:Nat) : Prop:=lo≤st∧st≤r∧r≤hi∧(∀ c,lo≤c→c<st→pr c)∧(∀ c,r≤c→c<hi→¬ pr c)
def Down(pr:Nat→Prop)(lo hi:Nat) : Prop:=∀ c c',lo≤c→c<c'→c'<hi→pr c'→pr c
theorem Xbi{l:List Int}{k:Nat}(h:k<l.length) : l.take (k+1)=l.take k++[l.getD k 0]:=by
 rw [List.take_succ_eq_append_getElem h,List.getD_eq_getElem?_getD,List.getElem?_eq_getElem h];rfl
theorem Xbm{l:List Int}{k:Nat}(h:k<l.length) : l.drop k=l.getD k 0::l.drop (k+1):=by
 rw [List.drop_eq_getElem_cons h,List.getD_eq_getElem?_getD,List.getElem?_eq_getElem h];rfl
theorem X7t{key:Int→Int}{S:List Int}{x:Int}(hS:Srt key S){j:Nat}(hj:j+1≤S.length)(h:ltK key (S.getD j 0) x) : ∀ y ∈ S.take (j+1),ltK key y x:=by
 intro y hy
 rw [Xbi (by omega)] at hy
 rcases List.mem_append.1 hy with hy|hy
 ·obtain ⟨i,hi,rfl⟩:=List.getElem_of_mem hy
  have hi':i<j:=by rw [List.length_take] at hi;omega
  have:=Xcs hS hi' (by omega)
  rw [List.getElem_take]
  rw [List.getD_eq_getElem?_getD,List.getElem?_eq_getElem (by omega:i<S.length)] at this
  exact this.trans h
 ·rw [List.mem_singleton.1 hy];exact h
theorem X8c{key:Int→Int}{S:List Int}{x:Int}(hS:Srt key S){j:Nat}(hj:j<S.length)(h:ltK key x (S.getD j 0)) : ∀ y ∈ S.drop j,ltK key x y:=by
 intro y hy
 rw [Xbm hj] at hy
 rcases List.mem_cons.1 hy with rfl|hy
 ·exact h
 ·obtain ⟨i,hi,rfl⟩:=List.getElem_of_mem hy
  have hl:i<(S.drop (j+1)).length:=hi
  rw [List.length_drop] at hl
  have:=Xcs hS (show j<j+1+i by omega) (by omega)
  rw [List.getElem_drop]
  rw [List.getD_eq_getElem?_getD (i:=j+1+i),List.getElem?_eq_getElem (by omega:j+1+i<S.length)] at this
  exact h.trans this
theorem cross{key:Int→Int}{L R:List Int}(hL:Srt key L)(hR:Srt key R){u v:Nat}(hu:u≤L.length)(hv:v≤R.length)
  (h1:0<u→v<R.length→ltK key (L.getD (u-1) 0) (R.getD v 0)) (h2:0<v→u<L.length→ltK key (R.getD (v-1) 0) (L.getD u 0)) :
  ∀ x ∈ L.take u++R.take v,∀ y ∈ L.drop u++R.drop v,ltK key x y:=by
 intro x hx y hy
 rw [← List.take_append_drop u L] at hL
 rw [← List.take_append_drop v R] at hR
 obtain ⟨_,_,hLc⟩:=Xcp.1 hL
 obtain ⟨_,_,hRc⟩:=Xcp.1 hR
 rw [List.take_append_drop] at hL hR
 rcases List.mem_append.1 hx with hx|hx<;>rcases List.mem_append.1 hy with hy|hy
 ·exact hLc x hx y hy
 ·have hu0:0<u:=by
   rcases Nat.eq_zero_or_pos u with e|e;· rw [e] at hx;simp at hx
   exact e
  have hv0:v<R.length:=by
   rcases Nat.lt_or_ge v R.length with e|e;· exact e
   rw [List.drop_eq_nil_of_le e] at hy;simp at hy
  have h:=h1 hu0 hv0
  have hxs:=X7t hL (j:=u-1) (by omega) h x (by rw [show u-1+1=u from by omega];exact hx)
  exact (X8c hR hv0 hxs) y hy
 ·have hv0:0<v:=by
   rcases Nat.eq_zero_or_pos v with e|e;· rw [e] at hx;simp at hx
   exact e
  have hu0:u<L.length:=by
   rcases Nat.lt_or_ge u L.length with e|e;· exact e
   rw [List.drop_eq_nil_of_le e] at hy;simp at hy
  have h:=h2 hv0 hu0
  have hxs:=X7t hR (j:=v-1) (by omega) h x (by rw [show v-1+1=v from by omega];exact hx)
  exact (X8c hL hu0 hxs) y hy
 ·exact hRc x hx y hy
def Merged(key:Int→Int)(L R M:List Int) : Prop:=Srt key M∧M.Perm (L++R)
theorem Merged.len{key:Int→Int}{L R M:List Int}(h:Merged key L R M) : M.length=L.length+R.length:=by rw [h.2.length_eq,List.length_append]
theorem Merged.mem{key:Int→Int}{L R M:List Int}(h:Merged key L R M){x:Int}(hx:x ∈ M) : x ∈ L∨x ∈ R:=List.mem_append.1 (h.2.mem_iff.1 hx)
def ran(a b:Nat) : List Int:=(List.range' a (b-a)).map (fun k:Nat=>(k:Int))
theorem Xj5{a b:Nat} : (ran a b).length=b-a:=by simp [ran]
theorem Xi6{a b:Nat}{x:Int} : x ∈ ran a b↔(a:Int)≤x∧x<(b:Int):=by
 simp only [ran,List.mem_map,List.mem_range'_1]
 constructor
 ·rintro ⟨k,hk,rfl⟩;omega
 ·intro h;exact ⟨x.toNat,by omega,by omega⟩
def SortedR(key:Int→Int)(a b:Nat)(S:List Int) : Prop:=Srt key S∧S.Perm (ran a b)
theorem SortedR.len{key:Int→Int}{a b:Nat}{S:List Int}(h:SortedR key a b S) : S.length=b-a:=by rw [h.2.length_eq,Xj5]
theorem SortedR.mem{key:Int→Int}{a b:Nat}{S:List Int}(h:SortedR key a b S){x:Int}(hx:x ∈ S) : (a:Int)≤x∧x<(b:Int):=Xi6.1 (h.2.mem_iff.1 hx)
inductive Blocks (key:Int→Int) (b n:Nat) : Nat→List Int→Prop
 | nil {a:Nat} (h:n≤a) : Blocks key b n a []
 | cons {a:Nat} {S l:List Int} (h:a<n) (hS:SortedR key a (min (a+b) n) S) (hl:Blocks key b n (a+b) l) : Blocks key b n a (S++l)
theorem Blocks.len{key:Int→Int}{b n a:Nat}{l:List Int}(h:Blocks key b n a l) : l.length=n-a:=by
 induction h with
 | nil h=>simp;omega
 | cons h hS hl ih=>rw [List.length_append,hS.len,ih];omega
theorem Blocks.one{key:Int→Int}{b n a:Nat}{S:List Int}(h:a<n)(hb:n≤a+b)(hS:SortedR key a n S) : Blocks key b n a S:=by
 have:=Blocks.cons (key:=key) (b:=b) (l:=[]) h (by rw [Nat.min_eq_right hb];exact hS) (Blocks.nil hb)
 rwa [List.append_nil] at this
inductive Head (key:Int→Int) (b:Nat) : Nat→List Int→Prop
 | nil:Head key b 0 []
 | snoc {a:Nat} {S l:List Int} (hl:Head key b a l) (hS:SortedR key a (a+b) S) : Head key b (a+b) (l++S)
theorem Head.len{key:Int→Int}{b a:Nat}{l:List Int}(h:Head key b a l) : l.length=a:=by
 induction h with
 | nil=>rfl
 | snoc hl hS ih=>rw [List.length_append,ih,hS.len];omega
end Go.Proofs.YtlfjcmldfbfdbaaGreat
namespace Go.Proofs.YtlfjcmldfbfdbaaGreat
instance (key:Int→Int) (i k:Int) : Decidable (ltK key i k):=by unfold ltK;infer_instance
def insF(key:Int→Int)(x:Int) : List Int→List Int
 | []=>[x]
 | y::l=>if ltK key y x then y::insF key x l else x::y::l
def srtF(key:Int→Int) : Nat→List Int
 | 0=>[]
 | n+1=>insF key (n:Int) (srtF key n)
end Go.Proofs.YtlfjcmldfbfdbaaGreat
namespace Go.Proofs.YtlfjcmldfbfdbaaGreat
open Go.RowKit
section
variable {P : Program} {a : Act} {w w' : World} {n : Nat} {e : Env} {ty : TypeId} {pos : String} {af : Array Edge} {g : Option (Nat × Bool)} {d : Option Tmp} {s t t' : TypeId} {x y : Operand} {i j : Int}
end
theorem Xfq{l:List Int}{k:Nat}(h:k<l.length) : l[k]? = some (l.getD k 0):=by
 rw [List.getD_eq_getElem?_getD,List.getElem?_eq_getElem h];rfl
section
variable {U V W : List Int} {x y : Int} {p q : Nat}
end
def swL(P X Y Z Q:List Int)(i:Nat) : List Int:=P++((Z.take i++X.drop i)++(Y++((X.take i++Z.drop i)++Q)))
section
variable {key : Int → Int} {cf : Int → Int → Int} {P L R Q : List Int} {n : Int} {a m b : Nat}
def Cmp(key:Int→Int)(cf:Int→Int→Int)(n:Int) : Prop:=∀ x y,0≤x→x<n→0≤y→y<n→(cf x y<0↔key x<key y)
def In(n:Int)(l:List Int) : Prop:=∀ x ∈ l,0≤x∧x<n
theorem In.get{l:List Int}(h:In n l){k:Nat}(hk:k<l.length) : 0≤l.getD k 0∧l.getD k 0<n:=h _ (Xgy hk)
theorem Xon{k:Nat}(ha:P.length=a)(h1:a≤k)(h2:k<a+L.length) : (P++(L++(R++Q))).getD k 0=L.getD (k-a) 0:=by
 rw [X4q (by omega),X6n (by omega),ha]
theorem Xoo{k:Nat}(ha:P.length=a)(hm:a+L.length=m)(h1:m≤k)(h2:k<m+R.length) : (P++(L++(R++Q))).getD k 0=R.getD (k-m) 0:=by
 rw [X4q (by omega),X4q (by omega),X6n (by omega)]
 congr 1;omega
structure Two (key:Int→Int) (P L R:List Int) (a m b:Nat) (n:Int) : Prop where
 ha:P.length=a
 hm:a+L.length=m
 hb:m+R.length=b
 hL:Srt key L
 hR:Srt key R
 lt:∀ x ∈ L,∀ y ∈ R,x<y
 iL:In n L
 iR:In n R
variable (h : Two key P L R a m b n)
include h
theorem Two.inl{k:Nat}(h1:a≤k)(h2:k<m) : 0≤(P++(L++(R++Q))).getD k 0∧(P++(L++(R++Q))).getD k 0<n:=by
 have:=h.hm;rw [Xon h.ha h1 (by omega)];exact h.iL.get (by omega)
theorem Two.inr{k:Nat}(h1:m≤k)(h2:k<b) : 0≤(P++(L++(R++Q))).getD k 0∧(P++(L++(R++Q))).getD k 0<n:=by
 have:=h.hb;rw [Xoo h.ha h.hm h1 (by omega)];exact h.iR.get (by omega)
def prS(key:Int→Int)(l:List Int)(p:Nat)(c:Nat) : Prop:=ltK key (l.getD c 0) (l.getD (p-c) 0)
end
end Go.Proofs.YtlfjcmldfbfdbaaGreat
namespace Go.Proofs.YtlfjcmldfbfdbaaGreat
open Go.RowKit Go.ChangeShapes Go.WideShapes Go.Deep Go.Joins
theorem Xhm{α:Type}{n:Nat}{Q:Nat→α→Prop}(h:∀ i,i<n→∃ g,Q i g) : ∃ l:List α,l.length=n∧∀ i g,l[i]? = some g→Q i g:=by
 induction n with
 | zero=>exact ⟨[],rfl,fun i g h=>by simp at h⟩
 | succ n ih=>
  obtain ⟨l,h1,h2⟩:=ih fun i hi=>h i (by omega)
  obtain ⟨g,hg⟩:=h n (by omega)
  refine ⟨l++[g],by simp [h1],fun i g' hi=>?_⟩
  rcases Nat.lt_or_ge i n with hin|hin
  ·rw [List.getElem?_append_left (by omega)] at hi
   exact h2 i g' hi
  ·rw [List.getElem?_append_right (by omega)] at hi
   have:i-l.length=0:=by
    rcases Nat.eq_zero_or_pos (i-l.length) with h|h
    ·exact h
    ·rw [List.getElem?_eq_none (by simp;omega)] at hi;cases hi
   rw [this] at hi
   injection hi with hi
   subst hi
   have:i=n:=by omega
   subst this
   exact hg
theorem Xav{α:Type}{w:World}{enc:α→List Value}{sz:Nat}(hsz:∀ x,(enc x).length=sz)(h0:0<sz){p:Addr}{l:List α}
  (h:∀ i g,l[i]? = some g→∀ j v,(enc g)[j]? = some v→w.cell? (p.add (i*sz+j))=some v) : ∃ E,Rd w w.heap.size E enc (some p) l:=by
 by_cases hl:l=[]
 ·subst hl;exact ⟨0,Rd.nil _ _ _ _ _⟩
 ·obtain ⟨g0,l',rfl⟩:=List.exists_cons_of_ne_nil hl
  obtain ⟨v0,hv0⟩ : ∃ v,(enc g0)[0]? = some v:=⟨_,List.getElem?_eq_getElem (by rw [hsz];exact h0)⟩
  have hc:=h 0 g0 rfl 0 v0 hv0
  obtain ⟨b,off,spot⟩:=p
  have hb:=Xbs hc
  rw [X4j] at hb
  have hsp:spot=none:=by
   cases spot with
   | none=>rfl
   | some s=>simp [World.cell?,Addr.add] at hc;split at hc<;>simp_all
  subst hsp
  have hobj:∃ cs E fz,w.heap[b]? = some (.cells cs E fz):=by
   rw [X1h] at hc
   simp only [World.cell?] at hc
   split at hc
   ·rename_i c E fz hh;exact ⟨c,E,fz,hh⟩
   ·cases hc
  obtain ⟨cs,E,fz,hh⟩:=hobj
  refine ⟨E,fun _=>⟨b,off,cs,fz,rfl,hb,hh,fun j v hj=>?_⟩⟩
  have hjl:j<((g0::l').flatMap enc).length:=(List.getElem?_eq_some_iff.1 hj).1
  rw [X00 hsz] at hjl
  obtain ⟨x,hx,h1⟩:=X67 hsz hjl
  rw [h1] at hj
  have:=h _ _ hx _ _ hj
  rw [X1h,show j/sz*sz+j % sz=j from by rw [Nat.mul_comm];exact Nat.div_add_mod j sz] at this
  simpa [World.cell?,hh] using this
section
variable {H : Type} {enc : TypeId × Value → H} {w : World} {base fuel : Nat} {spare : Nat → Bool} {held : Bool}
end
end Go.Proofs.YtlfjcmldfbfdbaaGreat
namespace Go.Proofs.YtlfjcmldfbfdbaaGreat
open Go.RowKit Go.ChangeShapes Go.WideShapes Go.Deep Go.Joins
section
variable {H : Type} {enc : TypeId × Value → H} {w : World} {base fuel : Nat} {spare : Nat → Bool} {held : Bool}
end
end Go.Proofs.YtlfjcmldfbfdbaaGreat
namespace Go.Proofs.YtlfjcmldfbfdbaaGreat
open Go.RowKit Go.ChangeShapes Go.WideShapes Go.Deep Go.Joins
section
variable {H : Type} {enc : TypeId × Value → H} {w : World} {base fuel : Nat} {spare : Nat → Bool} {held : Bool}
end
end Go.Proofs.YtlfjcmldfbfdbaaGreat
namespace Go.Proofs.YtlfjcmldfbfdbaaGreat
open Go.ChangeShapes Go.WideShapes Go.ChangeAt Go.RowKit Go.Deep Go.Joins
set_option linter.unusedVariables false
theorem own:ownKnob Tryz.prog.godebug=none:=by kernel_rfl
theorem Xbq:laidOutB Tryz.prog=true:=by kernel_rfl
section
variable {H : Type} {enc : TypeId × Value → H} {P : Program}
theorem Xb6{f:Func}{s:ChangeSpec}{fresh handsOn:Bool}{W W':World}{args:Array Value}{v:Value}{ds gs:List (DataW H)}{before pa pv:List MemPlace}
  (hW:DataW.Whole enc P f.params.toList s.vars false W args.toList ds gs before)
  (hres:∀ (b:Nat) (sp:Nat→Bool) (hd:Bool),DataW.TrodAll enc P W' b sp hd f.resultTypes.toList (v.resultList f.resultTypes.size) (s.fn H (ds++gs)).results [])
  (hargs:∀ sp:Nat→Bool,(∀ p ∈ before,sp p.block=true)→DataW.TrodAll enc P W' 0 sp true f.params.toList args.toList (s.fn H (ds++gs)).args pa)
  (hvars:∀ sp:Nat→Bool,(∀ p ∈ before,sp p.block=true)→DataW.TrodVars enc P W' sp s.vars (s.fn H (ds++gs)).vars pv)
  (hps:before=pa++pv) (hb:Below W.heap.size W W') :
  s.post enc P f false fresh handsOn false W args v W':=by
 have hlt:∀ p ∈ before,p.block<W.heap.size:=fun p hp=>hW.lt p hp
 have hold:∀ p ∈ before,(fun b=>decide (b<W.heap.size)) p.block=true:=fun p hp=>by simpa using hlt p hp
 refine ⟨ds,gs,before,[],pa,pv,hW,hres _ _ _,hargs _ hold,hvars _ hold,World.keptBut_mono (fun p hp=>⟨hp,?_⟩) (hb.frame (· ∈ before)),fun h=>by cases h⟩
 rw [hps,List.mem_append] at hp
 exact Or.inr hp
end
end Go.Proofs.YtlfjcmldfbfdbaaGreat
namespace Go.Proofs.YtlfjcmldfbfdbaaGreat
open Go.RowKit
def without(x y:Nat) : Nat:=x ^^^ (x &&& y)
def setN(x:Nat) : List Nat:=(List.range 62).filter x.testBit
def setI(x:Nat) : List Int:=(setN x).map fun (k:Nat)=>(k:Int)
def maskOf(p:Nat→Bool) : Nat→Nat
 | 0=>0
 | m+1=>maskOf p m ||| (if p m=true then 2^m else 0)
end Go.Proofs.YtlfjcmldfbfdbaaGreat
namespace Go.Proofs.YtlfjcmldfbfdbaaGreat
open Go.RowKit
def RpL(p q:Gt×Nat) : Prop:=p.1.k≠12→q.1.k≠12→(commS q.1 p.1=false→p.2<q.2)∧(p.2=q.2→comS q.1 p.1=false)
def SchP(gs:List Gt)(t:Nat) : Prop:=∃ ps:List (Gt×Nat),ps.map Prod.fst=gs∧ps.Pairwise RpL∧∀ p ∈ ps,p.1.k≠12→1≤p.2∧p.2≤t
def nonW(g:Gt) : Bool:=g.k != 12
def Good(gs:List Gt)(f:Nat→Int)(i:Nat) : Prop:=∀ j,j<i→(commS (gs.getD i gZ) (gs.getD j gZ)=false→f j<f i)∧(f j=f i→comS (gs.getD i gZ) (gs.getD j gZ)=false)
def OkL(gs:List Gt)(t:Nat)(f:Nat→Int)(i:Nat) : Prop:=(gs.getD i gZ).k≠12→1≤f i∧f i≤(t:Int)∧Good gs f i
def layI(gs:List Gt)(t:Nat) : Nat→List Int→Bool
 | 0,_=>true
 | n+1,al=>if (gs.getD (gs.length-(n+1)) gZ).k=12 then layI gs t n al else (List.range t).any fun x=>decide (faultS gs (al.set (gs.length-(n+1)) ((x:Int)+1)) (gs.length-(n+1))=0)&&layI gs t n (al.set (gs.length-(n+1)) ((x:Int)+1))
theorem Xdo{al:List Int}{i j:Nat}{x:Int}(hi:i<al.length) : (al.set i x).getD j 0=if j=i then x else al.getD j 0:=by
 rw [List.getD_eq_getElem?_getD,List.getElem?_set,List.getD_eq_getElem?_getD]
 by_cases h:i=j
 ·rw [if_pos h,if_pos h.symm,if_pos (by omega)];rfl
 ·rw [if_neg h,if_neg (fun e=>h e.symm)]
def zerosL(n:Nat) : List Int:=List.replicate n 0
def leastL(gs:List Gt) : Nat:=((List.range (gs.length+1)).find? fun t=>layI gs t gs.length (zerosL gs.length)).getD 0
end Go.Proofs.YtlfjcmldfbfdbaaGreat
namespace Go.Proofs.YtlfjcmldfbfdbaaGreat
open Go.RowKit
section
variable (l : List Gt)
def foP(i j:Nat) : Bool:=decide (j<i)&&!commS (l.getD i gZ) (l.getD j gZ)
def shP(i j:Nat) : Bool:=i != j&&comS (l.getD i gZ) (l.getD j gZ)
def foM(i:Nat) : Nat:=maskOf (foP l i) l.length
def shM(i:Nat) : Nat:=maskOf (shP l i) l.length
def okAt(d s i:Nat) : Bool:=shM l i &&& s==0&&without (foM l i) d==0
def stepB(d s:Nat) : Bool:=s &&& d==0&&(setN s).all (okAt l d s)
def fullM:Nat:=2^l.length-1
inductive Rch:Nat→Nat→Prop
 | zero:Rch 0 0
 | step {k d s:Nat} (h:Rch k d) (h1:1≤s) (h2:s<2^l.length) (h3:stepB l d s=true) : Rch (k+1) (d ||| s)
end
section
variable {l : List Gt}
def lowM(l:List Gt)(f:Nat→Nat)(s:Nat) : Nat:=maskOf (fun i=>decide (f i≤s)) l.length
def stepsL(l:List Gt)(d:Nat) : List Nat:=(List.range' 1 (2^l.length-1)).filter (stepB l d)
theorem X4b{d s:Nat} : s ∈ stepsL l d↔1≤s∧s<2^l.length∧stepB l d s=true:=by
 rw [stepsL,List.mem_filter,List.mem_range'_1]
 have:0<2^l.length:=Nat.pow_pos (by decide)
 constructor
 ·rintro ⟨h1,h2⟩;exact ⟨by omega,by omega,h2⟩
 ·rintro ⟨h1,h2,h3⟩;exact ⟨by omega,h3⟩
structure Bfs (l:List Gt) (far:List Int) (L:List Nat) (i q:Nat) : Prop where
 flen:far.length=2^l.length
 inL:∀ x ∈ L,x<2^l.length∧∃ d:Nat,far.getD x 0=(d:Int)∧Rch l d x
 neg:∀ x,x<2^l.length→0≤far.getD x 0→x ∈ L
 nod:L.Nodup
 srt:L.Pairwise (fun x y=>far.getD x 0≤far.getD y 0)
 cap:i<L.length→∀ y ∈ L,far.getD y 0≤far.getD (L.getD i 0) 0+1
 done:∀ j,j<i→j<L.length→∀ s ∈ stepsL l (L.getD j 0),0≤far.getD (L.getD j 0 ||| s) 0∧far.getD (L.getD j 0 ||| s) 0≤far.getD (L.getD j 0) 0+1
 part:i<L.length→∀ s ∈ (stepsL l (L.getD i 0)).take q,0≤far.getD (L.getD i 0 ||| s) 0∧far.getD (L.getD i 0 ||| s) 0≤far.getD (L.getD i 0) 0+1
 zero:0 ∈ L
theorem X32{L:List Nat}{k:Nat}(h:k<L.length) : L.getD k 0 ∈ L:=by
 rw [List.getD_eq_getElem?_getD,List.getElem?_eq_getElem h];exact List.getElem_mem h
theorem Xdu{L M:List Nat}{k:Nat}(h:k<L.length) : (L++M).getD k 0=L.getD k 0:=by
 simp only [List.getD_eq_getElem?_getD];rw [List.getElem?_append_left h]
theorem Bfs.inj{far:List Int}{L:List Nat}{i q:Nat}(h:Bfs l far L i q)(hi:i<L.length) : L.getD i 0<2^l.length:=(h.inL _ (X32 hi)).1
theorem Bfs.old{far:List Int}{L:List Nat}{i q s:Nat}(h:Bfs l far L i q)(hi:i<L.length)(hs:(stepsL l (L.getD i 0))[q]? = some s)(hf:0≤far.getD (L.getD i 0 ||| s) 0) : Bfs l far L i (q+1):=by
 refine ⟨h.flen,h.inL,h.neg,h.nod,h.srt,h.cap,h.done,fun _ s' hs'=>?_,h.zero⟩
 obtain ⟨hq,hqe⟩:=List.getElem?_eq_some_iff.1 hs
 have hm:=X4b.1 (hqe▸List.getElem_mem hq)
 rw [List.take_succ_eq_append_getElem hq,List.mem_append] at hs'
 rcases hs' with hs'|hs'
 ·exact h.part hi s' hs'
 ·rw [List.mem_singleton.1 hs',hqe]
  exact ⟨hf,h.cap hi _ (h.neg _ (Nat.or_lt_two_pow (h.inj hi) hm.2.1) hf)⟩
theorem Bfs.new{far:List Int}{L:List Nat}{i q s:Nat}(h:Bfs l far L i q)(hi:i<L.length)(hs:(stepsL l (L.getD i 0))[q]? = some s)(hf:far.getD (L.getD i 0 ||| s) 0<0) :
  Bfs l (far.set (L.getD i 0 ||| s) (far.getD (L.getD i 0) 0+1)) (L++[L.getD i 0 ||| s]) i (q+1):=by
 obtain ⟨hq,hqe⟩:=List.getElem?_eq_some_iff.1 hs
 have hm:=X4b.1 (hqe▸List.getElem_mem hq)
 have hx:L.getD i 0 ||| s<2^l.length:=Nat.or_lt_two_pow (h.inj hi) hm.2.1
 obtain ⟨x,hxe⟩ : ∃ x,x=L.getD i 0 ||| s:=⟨_,rfl⟩
 have hxL:x ∉ L:=fun hc=>by
  obtain ⟨_,d,hd,_⟩:=h.inL x hc
  rw [← hxe] at hf
  omega
 have hget:∀ y,(far.set x (far.getD (L.getD i 0) 0+1)).getD y 0=if y=x then far.getD (L.getD i 0) 0+1 else far.getD y 0:=fun y=>Xdo (by rw [h.flen,hxe];exact hx)
 have hgL:∀ y ∈ L,(far.set x (far.getD (L.getD i 0) 0+1)).getD y 0=far.getD y 0:=fun y hy=>by
  rw [hget,if_neg (fun e:y=x=>hxL (e▸hy))]
 have hiL:=hgL _ (X32 hi)
 have hge:∀ j,j<L.length→(L++[x]).getD j 0=L.getD j 0:=fun j hj=>Xdu hj
 obtain ⟨_,di,hdi,hri⟩:=h.inL _ (X32 hi)
 rw [← hxe] at hf hx ⊢
 have mono:∀ y,y<2^l.length→0≤far.getD y 0→(far.set x (far.getD (L.getD i 0) 0+1)).getD y 0=far.getD y 0:=fun y h1 h2=>hgL y (h.neg y h1 h2)
 refine ⟨by rw [List.length_set];exact h.flen,fun y hy=>?_,fun y hy h0=>?_,?_,?_,fun _ y hy=>?_,fun j hj hjl s' hs'=>?_,fun _ s' hs'=>?_,List.mem_append_left _ h.zero⟩
 ·rcases List.mem_append.1 hy with hy|hy
  ·rw [hgL y hy];exact h.inL y hy
  ·rw [List.mem_singleton.1 hy]
   refine ⟨hx,di+1,by rw [hget,if_pos rfl,hdi];rfl,?_⟩
   rw [hxe];exact Rch.step hri hm.1 hm.2.1 hm.2.2
 ·rw [hget] at h0
  split at h0
  ·rename_i e;rw [e];simp
  ·exact List.mem_append_left _ (h.neg y hy h0)
 ·rw [List.nodup_append]
  exact ⟨h.nod,by simp,fun y hy z hz e=>hxL (by rw [List.mem_singleton.1 hz] at e;exact e▸hy)⟩
 ·rw [List.pairwise_append]
  refine ⟨h.srt.imp_of_mem fun {y z} hy hz hyz=>by rw [hgL y hy,hgL z hz];exact hyz,by simp,fun y hy z hz=>?_⟩
  rw [List.mem_singleton.1 hz,hgL y hy,hget,if_pos rfl]
  exact h.cap hi y hy
 ·rw [hge i hi,hiL]
  rcases List.mem_append.1 hy with hy|hy
  ·rw [hgL y hy];exact h.cap hi y hy
  ·rw [List.mem_singleton.1 hy,hget,if_pos rfl];omega
 ·have hjL:j<L.length:=by omega
  rw [hge j hjL] at hs' ⊢
  rw [hgL _ (X32 hjL)]
  obtain ⟨e1,e2⟩:=h.done j hj hjL s' hs'
  rw [mono _ (Nat.or_lt_two_pow (h.inL _ (X32 hjL)).1 (X4b.1 hs').2.1) e1]
  exact ⟨e1,e2⟩
 ·rw [hge i hi] at hs' ⊢
  rw [hiL]
  rw [List.take_succ_eq_append_getElem hq,List.mem_append] at hs'
  rcases hs' with hs'|hs'
  ·obtain ⟨e1,e2⟩:=h.part hi s' hs'
   rw [mono _ (Nat.or_lt_two_pow (h.inj hi) (X4b.1 (List.mem_of_mem_take hs')).2.1) e1]
   exact ⟨e1,e2⟩
  ·rw [List.mem_singleton.1 hs',hqe,← hxe,hget,if_pos rfl];omega
theorem Bfs.next{far:List Int}{L:List Nat}{i q:Nat}(h:Bfs l far L i q)(hi:i<L.length)(hq:(stepsL l (L.getD i 0)).length≤q) : Bfs l far L (i+1) 0:=by
 refine ⟨h.flen,h.inL,h.neg,h.nod,h.srt,fun hi1 y hy=>?_,fun j hj hjl s hs=>?_,fun _ s hs=>by simp at hs,h.zero⟩
 ·have h1:=h.cap hi y hy
  have h2:=(List.pairwise_iff_getElem.1 h.srt) i (i+1) hi hi1 (by omega)
  have g1:L.getD i 0=L[i]:=by rw [List.getD_eq_getElem?_getD,List.getElem?_eq_getElem hi];rfl
  have g2:L.getD (i+1) 0=L[i+1]:=by rw [List.getD_eq_getElem?_getD,List.getElem?_eq_getElem hi1];rfl
  rw [g1] at h1
  rw [g2];omega
 ·by_cases hji:j=i
  ·subst hji
   exact h.part hi s (by rw [List.take_of_length_le hq];exact hs)
  ·exact h.done j (by omega) hjl s hs
end
end Go.Proofs.YtlfjcmldfbfdbaaGreat
namespace Go.Proofs.YtlfjcmldfbfdbaaGreat
open Go.RowKit
def cI(l:List Nat) : List Int:=l.map fun (k:Nat)=>(k:Int)
def maskV(l:List Int) : Nat:=l.foldl (fun q v=>q ||| 2^v.toNat) 0
def foL(l:List Gt) : List Int:=cI ((List.range l.length).map (foM l))
def shL(l:List Gt) : List Int:=cI ((List.range l.length).map (shM l))
theorem Xiq{l:List Gt}{i:Nat}(hi:i<l.length) : (shL l)[i]? = some ((shM l i:Nat) : Int):=by simp [shL,cI,hi]
theorem Xi7(l:List Gt) : (shL l).length=l.length:=by simp [shL,cI]
structure ShM (l:List Gt) (i j:Nat) (m:List Int) : Prop where
 len:m.length=l.length
 lo:∀ q,q<i→m.getD q 0=((shM l q:Nat) : Int)
 at':i<l.length→m.getD i 0=((maskOf (shP l i) j:Nat) : Int)
 up:∀ q,i<q→q<l.length→m.getD q 0=0
theorem ShM.no{l:List Gt}{i j:Nat}{m:List Int}(h:ShM l i j m)(hp:shP l i j=false) : ShM l i (j+1) m:=
 ⟨h.len,h.lo,fun hi=>by rw [h.at' hi,maskOf,if_neg (by rw [hp];simp),Nat.or_zero],h.up⟩
theorem ShM.next{l:List Gt}{i:Nat}{m:List Int}(h:ShM l i l.length m)(hi:i<l.length) : ShM l (i+1) 0 m:=
 ⟨h.len,fun q hq=>by
  by_cases e:q=i
  ·rw [e];exact h.at' hi
  ·exact h.lo q (by omega),fun h1=>by rw [h.up _ (by omega) h1];rfl,fun q h1 h2=>h.up q (by omega) h2⟩
theorem ShM.done{l:List Gt}{i j:Nat}{m:List Int}(h:ShM l i j m)(hi:l.length≤i) : m=shL l:=by
 apply List.ext_getElem?
 intro q
 rcases Nat.lt_or_ge q l.length with h1|h1
 ·rw [Xiq h1,Xfq (by rw [h.len];exact h1),h.lo q (by omega)]
 ·rw [List.getElem?_eq_none (by rw [h.len];exact h1),List.getElem?_eq_none (by rw [Xi7];exact h1)]
def stepsU(l:List Gt)(d k:Nat) : List Nat:=(List.range' 1 (k-1)).filter (stepB l d)
end Go.Proofs.YtlfjcmldfbfdbaaGreat
namespace Go.Proofs.YtlfjcmldfbfdbaaGreat
open Go.RowKit
def llB(c:Cx) : Bool:=cOk c&&decide ((c.gs.filter nonW).length≤8)
def llI(c:Cx) : Int:=if llB c=true then (leastL c.gs:Int) else 0
theorem Xg0{p:Gt→Bool}{l:List Gt}{k:Nat}{u:Gt}(h:l[k]? = some u) : (l.take (k+1)).filter p=(l.take k).filter p++(if p u=true then [u] else []):=by
 obtain ⟨h1,h2⟩:=List.getElem?_eq_some_iff.1 h
 rw [List.take_succ_eq_append_getElem h1,h2,List.filter_append]
 congr 1
 by_cases hp:p u=true
 ·rw [if_pos hp,List.filter_cons_of_pos hp];rfl
 ·rw [if_neg hp,List.filter_cons_of_neg hp];rfl
end Go.Proofs.YtlfjcmldfbfdbaaGreat
namespace Go.Proofs.YtlfjcmldfbfdbaaGreat
open Go.RowKit
structure TurnV (w w':World) (b:Nat) (r:Option Nat) : Prop where
 os:w'.os=w.os
 tape:w'.tape=w.tape
 output:w'.output=w.output
 size:w.heap.size≤w'.heap.size
 block:∀ k,k<w.heap.size→k≠b→some k≠r→w'.heap[k]? = w.heap[k]?
theorem TurnV.refl(w:World)(b:Nat)(r:Option Nat) : TurnV w w b r:=⟨rfl,rfl,rfl,Nat.le_refl _,fun _ _ _ _=>rfl⟩
section
variable {w0 w w' : World} {b : Nat} {r : Option Nat} {A : Option Addr} {n m c c' : Nat}
theorem TurnV.mid(h:TurnV w w' b (Value.slice A n c).ownBlock)(hb:b<w.heap.size) : ∃ w1,Only b w w1∧w1.grownBy w' (Value.slice A n c).ownBlock:=by
 cases hx:w'.heap[b]? with
 | none=>
  have:=Array.getElem?_eq_none_iff.1 hx
  have:=h.size
  omega
 | some o=>
  refine ⟨{ w with heap:=w.heap.setIfInBounds b o },⟨rfl,rfl,rfl,by simp,fun k hk=>?_⟩,⟨h.os,h.tape,h.output,by simpa using h.size,fun k hk hn=>?_⟩⟩
  ·show (w.heap.setIfInBounds b o)[k]? = _
   rw [Array.getElem?_setIfInBounds_ne (Ne.symm hk)]
  ·show w'.heap[k]? = (w.heap.setIfInBounds b o)[k]?
   have hk':k<w.heap.size:=by simpa using hk
   by_cases hkb:k=b
   ·subst hkb
    rw [hx,Array.getElem?_setIfInBounds_self_of_lt hk']
   ·rw [Array.getElem?_setIfInBounds_ne (Ne.symm hkb)]
    exact h.block k hk' hkb hn
end
theorem MemoG.app{α:Type}{w w':World}{b B:Nat}{E:TypeId}{sz:Nat}{enc:α→List Value}{A:Option Addr}{n c c':Nat}{l:List α}(h:MemoG w b)(ho:Own w B E sz enc A c l)(hg:w.grownBy w' (Value.slice A n c').ownBlock) : MemoG w' b:=by
 obtain ⟨l2,cl,hL,hg2⟩:=h
 refine ⟨l2,cl,?_,hg2⟩
 have hlt:=hL.lt
 refine (hg.block b hlt fun hk=>?_).trans hL
 rw [Xbv A n l.length c' c] at hk
 obtain ⟨_,_,cs,fz,h3⟩:=ho.block hk.symm
 unfold MemoL at hL
 rw [hL] at h3;cases h3
theorem Own.onlyM{α:Type}{w w':World}{b B:Nat}{E:TypeId}{sz:Nat}{enc:α→List Value}{A:Option Addr}{c:Nat}{l:List α}(h:Own w B E sz enc A c l)(ho:Only b w w')(hm:MemoG w b) : Own w' B E sz enc A c l:=by
 refine ⟨h.1,?_⟩
 rcases h.2 with k1|⟨g,cap,cur,k1,k2,k3,k4⟩
 ·exact .inl k1
 ·refine .inr ⟨g,cap,cur,k1,k2,(ho.block g fun e=>?_).trans k3,k4⟩
  obtain ⟨l2,cl,hL,_⟩:=hm
  unfold MemoL at hL
  rw [e,hL] at k3;cases k3
def tryL(gs:List Gt)(t n:Nat)(al:List Int)(x:Nat) : Bool:=decide (faultS gs (al.set (gs.length-n) ((x:Int)+1)) (gs.length-n)=0)&&layI gs t (n-1) (al.set (gs.length-n) ((x:Int)+1))
def cntP(p:Int→Bool)(gs:List Gt) : Nat:=(gs.filter fun g=>p g.k).length
end Go.Proofs.YtlfjcmldfbfdbaaGreat
set_option maxRecDepth 4000
namespace Go.Proofs.YtlfjcmldfbfdbaaGreat
open Go.RowKit
theorem Xna(w0:World)(c:Cx)(Ac:Option Addr)(cc:Nat)(hr_c:Rd w0 w0.heap.size 24 encG Ac c.gs)(kpp:FuncId)(ppp:List Value)(Fpp:FuncF Tryz.prog kpp)(pp:Int→Bool)(hpp:∀ x w,Below w0.heap.size w0 w→Ret Tryz.prog kpp ([vi x]++ppp) w (fun v w'=>v=.bool (pp x)∧Below w.heap.size w w'))(hln:c.gs.length≤2305843009213693951) : Ret Tryz.prog 115 [.agg #[vi c.n,.slice Ac c.gs.length cc],.func (.func kpp) #[] ppp.toArray] w0 (fun v w=>v=.tuple #[vi (if cOk c=true then ((cntP pp c.gs:Nat) : Int) else 0),.bool (cOk c)]∧Below w0.heap.size w0 w):=by
 refine enter Tryz.func115 rfl 27 rfl rfl ?_
 intro a hf
 have hW:Below w0.heap.size w0 w0:=Below.refl _ _
 refine Zs hf fun _ hK2=>?_
 refine Zf (X0j (zs:=[vi c.n,.slice Ac c.gs.length cc]) rfl rfl) ?_;rintro _ w1 ⟨b3,rfl,hl3,hE,hB3⟩
 have hlo3:=Nat.le_trans hW.size hl3
 replace hW:=btr hW hE
 refine Za rfl<|Za rfl ?_
 refine Zt hK2 fun a hf=>?_
 refine wp_seq_k fun _ hK4=>?_
 refine Zs hf fun _ hK5=>?_
 refine Ze (Vn X1k hB3) ?_
 refine Zf (Vc (F55 _ c Ac cc (hr_c.below' hW).top hln) Xcv) ?_;rintro _ w2 ⟨rfl,hE⟩
 replace hB3:=hB3.below hE
 replace hW:=btr hW hE
 refine Ze (X15 rfl) ?_
 refine Zt hK5 fun a hf=>?_
 refine Xm hf rfl (fun hc6=>?_) (fun hc6=>?_)
 ·have hc6b:=hc6
  have hcf:cOk c=false:=by revert hc6;cases cOk c<;>simp
  refine Zs hf fun _ hK7=>?_
  refine Za rfl<|Za rfl ?_
  refine Zt hK7 fun a hf=>?_
  refine wp_ret ?_
  refine X7 ?_
  refine X2 hf (X12 hf rfl rfl rfl) ?_
  exact ⟨by rw [hcf];rfl,hW⟩
 have hc6b:=hc6
 have hc:cOk c=true:=by revert hc6;cases cOk c<;>simp
 obtain ⟨hcn,hcl,hcg⟩:=X1j hc
 refine wp_skip ?_
 refine hK4 _ _ ?_
 refine Zs hf fun _ hK8=>?_
 refine Za rfl ?_
 refine Zt hK8 fun a hf=>?_
 refine wp_seq_k fun _ hK9=>?_
 refine Zs hf fun _ hK10=>?_
 refine Ze (Vd rfl X1f 1)<|Ze (X0 rfl X2t (hB3.at 1))<|Ze (X14 rfl X0w)<|Zm rfl ?_
 refine Zt hK10 fun a hf=>?_
 refine wp_block ?_
 refine X0c (σ:=Nat×Int) (fun (s:Nat×Int) (a:Act) (w:World)=>match s with|(k,z)=>Fr a 27 [(1,.func (.func kpp) #[] ppp.toArray),(6,vi z),(13,.slice Ac c.gs.length cc),(14,vi (c.gs.length:Int)),(15,vi (k:Int))]∧(k≤c.gs.length)∧(z=((((c.gs.take k).filter fun g=>pp g.k).length:Nat) : Int))∧Below w0.heap.size w0 w) (fun (s:Nat×Int)=>match s with|(k,z)=>c.gs.length-k) (0,0) ?_ ?_
 ·exact ⟨hf.sub ⟨rfl,rfl,rfl,rfl,rfl,trivial⟩,(Nat.zero_le _),rfl,hW⟩
 rintro ⟨k,z⟩ a w3 ⟨hf,hk,hz,hW⟩
 refine Zs hf fun _ hK11=>?_
 refine Ze (X16 rfl rfl) ?_
 refine Zt hK11 fun a hf=>?_
 refine wp_seq_k fun _ hK12=>?_
 refine Xm hf rfl (fun hc13=>?_) (fun hc13=>?_)
 ·have hc13b:=hc13
  have hc13:=of_decide_eq_true hc13
  obtain ⟨u14,hu14⟩:=Xx (l:=c.gs) (k:=k) (by omega)
  have hft:=Xg0 (p:=fun g=>pp g.k) hu14
  have hfl9:((c.gs.take k).filter fun g=>pp g.k).length≤k:=Nat.le_trans (List.length_filter_le _ _) (List.length_take_le _ _)
  refine wp_skip ?_
  refine hK12 _ _ ?_
  refine wp_seq_k fun _ hK15=>?_
  refine wp_block ?_
  refine Zs hf fun _ hK16=>?_
  refine Zi (k:=k) (u:=u14) (enc:=encG) (l:=c.gs) trivial rfl rfl X0w X0o X11 (hr_c.below' hW) hu14 rfl ?_;intro p18 hat17
  refine Ze (X0i (l:=[vi u14.k,vi u14.a,vi u14.b]) rfl Xo hat17 rfl) ?_
  refine Zf (X6 (zs:=[vi 0,vi 0,vi 0]) X2h rfl) ?_;rintro _ w4 ⟨b19,rfl,hl19,hE,hB19⟩
  have hlo19:=Nat.le_trans hW.size hl19
  have haw1_19:=(hr_c.below' hW).away hl19
  replace hW:=btr hW hE
  refine Zo (Vw [vi u14.k,vi u14.a,vi u14.b] X0o hB19) ?_;rintro _ w5 ⟨ho,hb⟩
  have hold:=hB19
  replace hW:=Below.only hW ho hlo19
  clear hold
  have hB19:=hb
  clear hb ho
  refine Zt hK16 fun a hf=>?_
  refine Zs hf fun _ hK20=>?_
  refine Zm rfl<|Ze (Vd rfl X0e 0)<|Ze (X0 rfl X3 (hB19.at 0)) ?_
  refine Zf (X5n (cs:=ppp) (vs:=[vi u14.k]) rfl rfl Fpp (hpp u14.k _ hW)) ?_;rintro _ w6 ⟨rfl,hE⟩
  replace hB19:=hB19.below hE
  replace hW:=btr hW hE
  refine Zt hK20 fun a hf=>?_
  refine Xm hf rfl (fun hc21=>?_) (fun hc21=>?_)
  ·have hc21b:=hc21
   rw [if_pos hc21] at hft
   refine Zr hf ?_
   refine Zm rfl<|Ze (X0a rfl rfl (by omega) (by omega))<|Za rfl ?_
   refine Zn fun a hf=>?_
   refine Xr ?_
   refine hK15 _ _ ?_
   refine Zr hf ?_
   refine Ze (X0a rfl rfl (by omega) (by omega))<|Zm rfl ?_
   refine Zn fun a hf=>?_
   refine Xz ?_
   exact ⟨(k+1,z+1),⟨hf.sub ⟨rfl,rfl,rfl,rfl,rfl,trivial⟩,(by omega),(by rw [hft];simp only [List.length_append,List.length_cons,List.length_nil];omega),hW⟩,(by first|omega|(dsimp only;omega))⟩
  have hc21b:=hc21
  rw [if_neg (by rw [hc21];simp),List.append_nil] at hft
  refine wp_skip ?_
  refine Xr ?_
  refine hK15 _ _ ?_
  refine Zr hf ?_
  refine Ze (X0a rfl rfl (by omega) (by omega))<|Zm rfl ?_
  refine Zn fun a hf=>?_
  refine Xz ?_
  exact ⟨(k+1,z),⟨hf.sub ⟨rfl,rfl,rfl,rfl,rfl,trivial⟩,(by omega),(by rw [hft];exact hz),hW⟩,(by first|omega|(dsimp only;omega))⟩
 have hc13b:=hc13
 have hc13:=of_decide_eq_false hc13
 have hfin:z=((cntP pp c.gs:Nat) : Int):=by rw [hz,List.take_of_length_le (by omega)];rfl
 refine wp_exit ?_
 refine Xu ?_
 refine Xu ?_
 refine X0f ?_
 refine hK9 _ _ ?_
 refine Zs hf fun _ hK22=>?_
 refine Zm rfl<|Za rfl<|Za rfl ?_
 refine Zt hK22 fun a hf=>?_
 refine wp_ret (X2 hf (X12 hf rfl rfl rfl) ?_)
 exact ⟨by rw [if_pos hc,hc,hfin],hW⟩
end Go.Proofs.YtlfjcmldfbfdbaaGreat
namespace Go.Proofs.YtlfjcmldfbfdbaaGreat
instance:_root_.Add Rg:=⟨fun x y=>⟨x.a+y.a,x.b+y.b,x.c+y.c,x.d+y.d⟩⟩
instance:_root_.Mul Rg:=⟨fun x y=>⟨x.a*y.a-x.b*y.d-x.c*y.c-x.d*y.b,x.a*y.b+x.b*y.a-x.c*y.d-x.d*y.c,x.a*y.c+x.b*y.b+x.c*y.a-x.d*y.d,x.a*y.d+x.b*y.c+x.c*y.b+x.d*y.a⟩⟩
instance:_root_.Neg Rg:=⟨fun x=>⟨-x.a,-x.b,-x.c,-x.d⟩⟩
instance:_root_.Sub Rg:=⟨fun x y=>⟨x.a-y.a,x.b-y.b,x.c-y.c,x.d-y.d⟩⟩
instance:NatCast Rg:=⟨fun n=>⟨n,0,0,0⟩⟩
instance:IntCast Rg:=⟨fun n=>⟨n,0,0,0⟩⟩
instance (n:Nat) : OfNat Rg n:=⟨⟨n,0,0,0⟩⟩
def rgPow(x:Rg) : Nat→Rg
 | 0=>1
 | n+1=>rgPow x n*x
instance:HPow Rg Nat Rg:=⟨rgPow⟩
instance:SMul Nat Rg:=⟨fun n x=>(n:Rg)*x⟩
instance:SMul Int Rg:=⟨fun n x=>(n:Rg)*x⟩
theorem X24{x y:Rg}(h1:x.a=y.a)(h2:x.b=y.b)(h3:x.c=y.c)(h4:x.d=y.d) : x=y:=by
 obtain ⟨x1,x2,x3,x4⟩:=x
 obtain ⟨y1,y2,y3,y4⟩:=y
 simp only at h1 h2 h3 h4
 subst h1 h2 h3 h4
 rfl
theorem Xg8(x y:Rg) : (x+y).a=x.a+y.a:=rfl
theorem Xh0(x y:Rg) : (x+y).b=x.b+y.b:=rfl
theorem Xfv(x y:Rg) : (x+y).c=x.c+y.c:=rfl
theorem Xeq(x y:Rg) : (x+y).d=x.d+y.d:=rfl
theorem X5v(x y:Rg) : (x*y).a=x.a*y.a-x.b*y.d-x.c*y.c-x.d*y.b:=rfl
theorem X68(x y:Rg) : (x*y).b=x.a*y.b+x.b*y.a-x.c*y.d-x.d*y.c:=rfl
theorem X5w(x y:Rg) : (x*y).c=x.a*y.c+x.b*y.b+x.c*y.a-x.d*y.d:=rfl
theorem X60(x y:Rg) : (x*y).d=x.a*y.d+x.b*y.c+x.c*y.b+x.d*y.a:=rfl
theorem Xw(a:Rg) : a+0=a:=X24 (Int.add_zero _) (Int.add_zero _) (Int.add_zero _) (Int.add_zero _)
theorem Xv(a:Rg) : a*1=a:=by
 have e1:(1:Rg).a=1:=rfl
 have e2:(1:Rg).b=0:=rfl
 have e3:(1:Rg).c=0:=rfl
 have e4:(1:Rg).d=0:=rfl
 apply X24<;>simp only [X5v,X68,X5w,X60,e1,e2,e3,e4]<;>grind
theorem Xi(a:Rg) : 0*a=0:=by
 have e1:(0:Rg).a=0:=rfl
 have e2:(0:Rg).b=0:=rfl
 have e3:(0:Rg).c=0:=rfl
 have e4:(0:Rg).d=0:=rfl
 apply X24<;>simp only [X5v,X68,X5w,X60,e1,e2,e3,e4]<;>grind
theorem Xl(a b:Rg) : a*b=b*a:=by (apply X24<;>simp only [Xg8,Xh0,Xfv,Xeq,X5v,X68,X5w,X60]<;>grind)
theorem X02(a b c:Rg) : a*(b+c)=a*b+a*c:=by (apply X24<;>simp only [Xg8,Xh0,Xfv,Xeq,X5v,X68,X5w,X60]<;>grind)
theorem Xs(a b:Rg) : a+b=b+a:=X24 (Int.add_comm _ _) (Int.add_comm _ _) (Int.add_comm _ _) (Int.add_comm _ _)
theorem Xn(a b c:Rg) : a+b+c=a+(b+c):=X24 (Int.add_assoc _ _ _) (Int.add_assoc _ _ _) (Int.add_assoc _ _ _) (Int.add_assoc _ _ _)
theorem Xa(a b c:Rg) : a*b*c=a*(b*c):=by (apply X24<;>simp only [Xg8,Xh0,Xfv,Xeq,X5v,X68,X5w,X60]<;>grind)
theorem Xe(a:Rg) : 1*a=a:=by rw [Xl,Xv]
theorem Xq(a:Rg) : a*0=0:=by rw [Xl,Xi]
theorem Xy(a:Rg) : 0+a=a:=by rw [Xs,Xw]
theorem X04(a b c:Rg) : (a+b)*c=a*c+b*c:=by rw [Xl,X02,Xl c a,Xl c b]
theorem Xb(a b c:Rg) : a*(b*c)=b*(a*c):=by rw [← Xa,← Xa,Xl a b]
theorem Xc(a b c:Rg) : a+(b+c)=b+(a+c):=by rw [← Xn,← Xn,Xs a b]
def s2:Rg:=⟨0,1,0,-1⟩
def om:Rg:=⟨0,1,0,0⟩
theorem Xnx:s2*s2=2:=by decide
theorem Xb1{x y:Rg}(h:2*x=2*y) : x=y:=by
 have e1:(2:Rg).a=2:=rfl
 have e2:(2:Rg).b=0:=rfl
 have e3:(2:Rg).c=0:=rfl
 have e4:(2:Rg).d=0:=rfl
 have h1:=congrArg Rg.a h
 have h2:=congrArg Rg.b h
 have h3:=congrArg Rg.c h
 have h4:=congrArg Rg.d h
 simp only [X5v,X68,X5w,X60,e1,e2,e3,e4] at h1 h2 h3 h4
 apply X24<;>omega
theorem Xe0{x y:Rg}(h:s2*x=s2*y) : x=y:=by
 apply Xb1
 rw [← Xnx,Xa,Xa,h]
theorem X2g:∀ (m:Nat) {x y:Rg},s2^m*x=s2^m*y→x=y
 | 0,x,y,h=>by
  have e:s2^0=1:=rfl
  rwa [e,Xe,Xe] at h
 | m+1,x,y,h=>by
  have e:s2^(m+1)=s2^m*s2:=rfl
  rw [e] at h
  refine Xe0 (X2g m ?_)
  rw [← Xa,← Xa]
  exact h
theorem X1w(x:Rg)(m n:Nat) : x^(m+n)=x^m*x^n:=by
 induction n with
 | zero=>show _=_*(1:Rg);rw [Xv];rfl
 | succ n ih=>
  have e1:x^(m+(n+1))=x^(m+n)*x:=rfl
  have e2:x^(n+1)=x^n*x:=rfl
  rw [e1,e2,ih]
  exact Xa _ _ _
end Go.Proofs.YtlfjcmldfbfdbaaGreat
namespace Go.Proofs.YtlfjcmldfbfdbaaGreat
theorem Xd6{x y:Rg}(hx:rOk x=true)(hy:rOk y=true) : rAdd x y=x+y:=by
 have h1:=X1q.1 hx
 have h2:=X1q.1 hy
 refine X24 ?_ ?_ ?_ ?_<;>exact X06 (by omega) (by omega)
theorem X1g{p q:Int}(h1:-1000000000≤p∧p≤1000000000)(h2:-1000000000≤q∧q≤1000000000) : -1000000000000000000≤p*q∧p*q≤1000000000000000000:=by
 have h:(p*q).natAbs≤1000000000*1000000000:=by
  rw [Int.natAbs_mul]
  exact Nat.mul_le_mul (by omega) (by omega)
 omega
theorem Xkw{p q r t:Int}(h1:-1000000000000000000≤p∧p≤1000000000000000000)(h2:-1000000000000000000≤q∧q≤1000000000000000000)(h3:-1000000000000000000≤r∧r≤1000000000000000000)(h4:-1000000000000000000≤t∧t≤1000000000000000000) :
  wr (wr (wr (wr p-wr q)-wr r)-wr t)=p-q-r-t:=by
 have e1:wr p=p:=X06 (by omega) (by omega)
 have e2:wr q=q:=X06 (by omega) (by omega)
 have e3:wr r=r:=X06 (by omega) (by omega)
 have e4:wr t=t:=X06 (by omega) (by omega)
 have e5:wr (p-q)=p-q:=X06 (by omega) (by omega)
 have e6:wr (p-q-r)=p-q-r:=X06 (by omega) (by omega)
 rw [e1,e2,e3,e4,e5,e6]
 exact X06 (by omega) (by omega)
theorem Xk4{p q r t:Int}(h1:-1000000000000000000≤p∧p≤1000000000000000000)(h2:-1000000000000000000≤q∧q≤1000000000000000000)(h3:-1000000000000000000≤r∧r≤1000000000000000000)(h4:-1000000000000000000≤t∧t≤1000000000000000000) :
  wr (wr (wr (wr p+wr q)-wr r)-wr t)=p+q-r-t:=by
 have e1:wr p=p:=X06 (by omega) (by omega)
 have e2:wr q=q:=X06 (by omega) (by omega)
 have e3:wr r=r:=X06 (by omega) (by omega)
 have e4:wr t=t:=X06 (by omega) (by omega)
 have e5:wr (p+q)=p+q:=X06 (by omega) (by omega)
 have e6:wr (p+q-r)=p+q-r:=X06 (by omega) (by omega)
 rw [e1,e2,e3,e4,e5,e6]
 exact X06 (by omega) (by omega)
theorem Xmv{p q r t:Int}(h1:-1000000000000000000≤p∧p≤1000000000000000000)(h2:-1000000000000000000≤q∧q≤1000000000000000000)(h3:-1000000000000000000≤r∧r≤1000000000000000000)(h4:-1000000000000000000≤t∧t≤1000000000000000000) :
  wr (wr (wr (wr p+wr q)+wr r)-wr t)=p+q+r-t:=by
 have e1:wr p=p:=X06 (by omega) (by omega)
 have e2:wr q=q:=X06 (by omega) (by omega)
 have e3:wr r=r:=X06 (by omega) (by omega)
 have e4:wr t=t:=X06 (by omega) (by omega)
 have e5:wr (p+q)=p+q:=X06 (by omega) (by omega)
 have e6:wr (p+q+r)=p+q+r:=X06 (by omega) (by omega)
 rw [e1,e2,e3,e4,e5,e6]
 exact X06 (by omega) (by omega)
theorem Xld{p q r t:Int}(h1:-1000000000000000000≤p∧p≤1000000000000000000)(h2:-1000000000000000000≤q∧q≤1000000000000000000)(h3:-1000000000000000000≤r∧r≤1000000000000000000)(h4:-1000000000000000000≤t∧t≤1000000000000000000) :
  wr (wr (wr (wr p+wr q)+wr r)+wr t)=p+q+r+t:=by
 have e1:wr p=p:=X06 (by omega) (by omega)
 have e2:wr q=q:=X06 (by omega) (by omega)
 have e3:wr r=r:=X06 (by omega) (by omega)
 have e4:wr t=t:=X06 (by omega) (by omega)
 have e5:wr (p+q)=p+q:=X06 (by omega) (by omega)
 have e6:wr (p+q+r)=p+q+r:=X06 (by omega) (by omega)
 rw [e1,e2,e3,e4,e5,e6]
 exact X06 (by omega) (by omega)
theorem Xd2{x y:Rg}(hx:rOk x=true)(hy:rOk y=true) : rMul x y=x*y:=by
 obtain ⟨a1,a2,a3,a4⟩:=X1q.1 hx
 obtain ⟨b1,b2,b3,b4⟩:=X1q.1 hy
 have p11:=X1g a1 b1
 have p12:=X1g a1 b2
 have p13:=X1g a1 b3
 have p14:=X1g a1 b4
 have p21:=X1g a2 b1
 have p22:=X1g a2 b2
 have p23:=X1g a2 b3
 have p24:=X1g a2 b4
 have p31:=X1g a3 b1
 have p32:=X1g a3 b2
 have p33:=X1g a3 b3
 have p34:=X1g a3 b4
 have p41:=X1g a4 b1
 have p42:=X1g a4 b2
 have p43:=X1g a4 b3
 have p44:=X1g a4 b4
 unfold rMul
 refine X24 ?_ ?_ ?_ ?_
 ·exact Xkw p11 p24 p33 p42
 ·exact Xk4 p12 p21 p34 p43
 ·exact Xmv p13 p22 p31 p44
 ·exact Xld p14 p23 p32 p41
theorem X6m(x:Rg) : s2*x=⟨x.b-x.d,x.a+x.c,x.b+x.d,x.c-x.a⟩:=by
 have e1:s2.a=0:=rfl
 have e2:s2.b=1:=rfl
 have e3:s2.c=0:=rfl
 have e4:s2.d = -1:=rfl
 refine X24 ?_ ?_ ?_ ?_<;>simp only [X5v,X68,X5w,X60,e1,e2,e3,e4]<;>grind
theorem X77{x:Rg}(hx:rOk x=true) : rRoot x=s2*x:=by
 have h1:=X1q.1 hx
 rw [X6m]
 refine X24 ?_ ?_ ?_ ?_<;>exact X06 (by omega) (by omega)
theorem Xf3{x:Rg}(hx:rOk x=true)(he:rEven x=true) : s2*rHalf x=x:=by
 have h1:=X1q.1 hx
 have h2:=(X4a hx).1 he
 have e:=X77 hx
 rw [X6m] at e
 have hh:rHalf x=⟨(x.b-x.d)/2,(x.a+x.c)/2,(x.b+x.d)/2,(x.c-x.a)/2⟩:=by
  unfold rHalf
  rw [e]
  dsimp only
  rw [Int.tdiv_eq_ediv_of_dvd (by omega),Int.tdiv_eq_ediv_of_dvd (by omega),Int.tdiv_eq_ediv_of_dvd (by omega),Int.tdiv_eq_ediv_of_dvd (by omega)]
  rw [X06 (by omega) (by omega),X06 (by omega) (by omega),X06 (by omega) (by omega),X06 (by omega) (by omega)]
 rw [X6m,hh]
 refine X24 ?_ ?_ ?_ ?_<;>dsimp only<;>omega
theorem Xh2{x y:Rg}(hx:rOk x=true)(h:x=s2*y) : rEven x=true:=by
 rw [X4a hx]
 rw [h,X6m]
 dsimp only
 omega
theorem X6u(x:Rg)(n:Nat) : x^(n+1)=x^n*x:=rfl
theorem X3j(x:Rg) : x^0=1:=rfl
def V(x:Dy)(m:Nat)(z:Rg) : Prop:=0≤x.exp∧∃ k:Nat,x.exp+k=m∧z=s2^k*x.num
theorem Xjw:∀ (m:Nat) (x:Rg),rOk x=true→V (dLow x m) m x
 | 0,x,h=>by
  rw [X1o (by omega)]
  refine ⟨by dsimp only;omega,0,by dsimp only;omega,?_⟩
  rw [X3j];exact (Xe _).symm
 | m+1,x,h=>by
  by_cases he:rEven x=true
  ·rw [X2y (by omega) he,show ((m+1:Nat) : Int)-1=(m:Int) from by omega]
   obtain ⟨h0,k,h1,h2⟩:=Xjw m _ (X4y h)
   refine ⟨h0,k+1,by omega,?_⟩
   have e:=Xf3 h he
   rw [h2] at e
   rw [X6u]
   refine e.symm.trans ?_
   simp only [Xi,Xq,Xe,Xv,Xw,Xy,X02,X04,Xa,Xb,Xl,Xn,Xc,Xs]
  ·have he':rEven x=false:=by simpa using he
   rw [X1o fun _=>he']
   refine ⟨by dsimp only;omega,0,by dsimp only;omega,?_⟩
   rw [X3j];exact (Xe _).symm
theorem Xlg{x:Rg}{e:Int}(h:rOk x=true)(h0:0≤e) : V (dLow x e) e.toNat x:=by
 obtain ⟨m,rfl⟩ : ∃ m:Nat,e=m:=⟨e.toNat,by omega⟩
 exact Xjw m x h
theorem V.up{x:Dy}{m:Nat}{z:Rg}(h:V x m z)(k:Nat) : V x (m+k) (s2^k*z):=by
 obtain ⟨h0,j,h1,h2⟩:=h
 refine ⟨h0,j+k,by omega,?_⟩
 rw [X1w,h2]
 simp only [Xi,Xq,Xe,Xv,Xw,Xy,X02,X04,Xa,Xb,Xl,Xn,Xc,Xs]
theorem V.fun{x:Dy}{m:Nat}{z z':Rg}(h:V x m z)(h':V x m z') : z=z':=by
 obtain ⟨_,k,h1,h2⟩:=h
 obtain ⟨_,j,h3,h4⟩:=h'
 obtain rfl:j=k:=by omega
 rw [h2,h4]
theorem V.cross{x:Dy}{m m':Nat}{z z':Rg}(h:V x m z)(h':V x m' z') : s2^m'*z=s2^m*z':=by
 have e1:=h.up m'
 have e2:=h'.up m
 rw [Nat.add_comm m' m] at e2
 exact e1.fun e2
theorem Xju{x:Rg}{e:Int}{w:Dy}(h:dOf x e=some w) : V w e.toNat x∧dOk w=true:=by
 unfold dOf at h
 split at h
 ·rename_i h1
  simp only [Bool.and_eq_true,Xh] at h1
  injection h with h
  subst h
  exact ⟨Xlg h1.1 h1.2.1,X55 h1.1 h1.2.1 h1.2.2⟩
 ·cases h
theorem X25{x:Dy}(h:dOk x=true) : rOk x.num=true∧(0≤x.exp∧x.exp≤60):=⟨(X1b.1 h).1,(X1b.1 h).2.1⟩
theorem Xjv{x y w:Dy}{m n:Nat}{z z':Rg}(h:dMulI x y=some w)(hx:V x m z)(hy:V y n z') : V w (m+n) (z*z')∧dOk w=true:=by
 unfold dMulI at h
 split at h
 ·rename_i h1
  simp only [Bool.and_eq_true] at h1
  obtain ⟨⟨h1,h2⟩,h3⟩:=h1
  have k1:=X25 h1
  have k2:=X25 h2
  rw [rIf1,if_pos h3] at h
  have hv:=Xju h
  refine ⟨?_,hv.2⟩
  rw [Xd2 k1.1 k2.1] at hv
  obtain ⟨_,j,h4,h5⟩:=hx
  obtain ⟨_,l,h6,h7⟩:=hy
  have e:=hv.1.up (j+l)
  rw [show (x.exp+y.exp).toNat+(j+l)=m+n from by omega,X1w] at e
  rw [h5,h7]
  have e2:s2^j*x.num*(s2^l*y.num)=s2^j*s2^l*(x.num*y.num):=by simp only [Xi,Xq,Xe,Xv,Xw,Xy,X02,X04,Xa,Xb,Xl,Xn,Xc,Xs]
  rw [e2]
  exact e
 ·cases h
theorem X3l:∀ (n:Nat) (y:Rg),rOk y=true→(raiseI n y).2=true→(raiseI n y).1=s2^n*y∧rOk (raiseI n y).1=true
 | 0,y,h,_=>⟨by rw [X3j];show y=_;exact (Xe _).symm,h⟩
 | n+1,y,h,h2=>by
  rw [raiseI] at h2 ⊢
  rw [X42 h] at h2 ⊢
  by_cases hr:rOk (rRoot y)=true
  ·rw [if_pos hr] at h2 ⊢
   obtain ⟨e1,e2⟩:=X3l n _ hr h2
   refine ⟨?_,e2⟩
   rw [e1,X77 h,X6u]
   exact (Xa _ _ _).symm
  ·rw [if_neg hr] at h2
   cases h2
theorem Xjf{x y w:Dy}{m:Nat}{z z':Rg}(h:dAddI x y=some w)(hx:V x m z)(hy:V y m z') : V w m (z+z')∧dOk w=true:=by
 unfold dAddI at h
 split at h
 ·rename_i h1
  simp only [Bool.and_eq_true] at h1
  obtain ⟨h1,h2⟩:=h1
  have k1:=X25 h1
  have k2:=X25 h2
  split at h
  ·rename_i h3
   simp only [Bool.and_eq_true] at h3
   obtain ⟨⟨h3,h4⟩,h5⟩:=h3
   have r1:=X3l _ _ k1.1 h3
   have r2:=X3l _ _ k2.1 h4
   rw [rIf1,if_pos h5] at h
   have hv:=Xju h
   refine ⟨?_,hv.2⟩
   have e0:rAdd (dRaise x (max x.exp y.exp)).1 (dRaise y (max x.exp y.exp)).1=(dRaise x (max x.exp y.exp)).1+(dRaise y (max x.exp y.exp)).1:=Xd6 r1.2 r2.2
   rw [e0] at hv
   obtain ⟨_,j,h6,h7⟩:=hx
   obtain ⟨_,l,h8,h9⟩:=hy
   obtain ⟨k,hk⟩ : ∃ k:Nat,max x.exp y.exp+k=m:=⟨(m-max x.exp y.exp).toNat,by omega⟩
   have e:=hv.1.up k
   rw [show (max x.exp y.exp).toNat+k=m from by omega] at e
   have q1:s2^k*(dRaise x (max x.exp y.exp)).1=z:=by
    rw [h7,show j=k+(max x.exp y.exp-x.exp).toNat from by omega,X1w]
    have:=r1.1
    unfold dRaise
    rw [this]
    simp only [Xi,Xq,Xe,Xv,Xw,Xy,X02,X04,Xa,Xb,Xl,Xn,Xc,Xs]
   have q2:s2^k*(dRaise y (max x.exp y.exp)).1=z':=by
    rw [h9,show l=k+(max x.exp y.exp-y.exp).toNat from by omega,X1w]
    have:=r2.1
    unfold dRaise
    rw [this]
    simp only [Xi,Xq,Xe,Xv,Xw,Xy,X02,X04,Xa,Xb,Xl,Xn,Xc,Xs]
   rw [← q1,← q2,← X02]
   exact e
  ·cases h
 ·cases h
theorem Xnc{x y:Dy}{m:Nat}{z:Rg}(hx:dOk x=true)(hy:dOk y=true)(h1:V x m z)(h2:V y m z) : x=y:=by
 have kx:=X1b.1 hx
 have ky:=X1b.1 hy
 obtain ⟨_,j,a1,a2⟩:=h1
 obtain ⟨_,l,b1,b2⟩:=h2
 have key:∀ {x y:Dy} {j l:Nat},rOk y.num=true→(y.exp=0∨rEven y.num=false)→0≤x.exp→x.exp+j=m→y.exp+l=m→s2^j*x.num=s2^l*y.num→y.exp≤x.exp:=fun {x y j l} k1 k2 k3 a1 b1 e=>by
  rcases k2 with k2|k2
  ·omega
  ·by_cases hlt:y.exp≤x.exp
   ·exact hlt
   ·exfalso
    obtain ⟨t,ht⟩ : ∃ t,j=l+(t+1):=⟨j-l-1,by omega⟩
    rw [ht,X1w] at e
    have e2:s2^l*(s2^(t+1)*x.num)=s2^l*y.num:=by rw [← Xa];exact e
    have e3:=X2g l e2
    have e4:y.num=s2*(s2^t*x.num):=by rw [← e3,X6u];simp only [Xi,Xq,Xe,Xv,Xw,Xy,X02,X04,Xa,Xb,Xl,Xn,Xc,Xs]
    rw [Xh2 k1 e4] at k2
    cases k2
 have le1:=key (x:=x) (y:=y) ky.1 ky.2.2 kx.2.1.1 a1 b1 (by rw [← a2,← b2])
 have le2:=key (x:=y) (y:=x) kx.1 kx.2.2 ky.2.1.1 b1 a1 (by rw [← a2,← b2])
 obtain rfl:j=l:=by omega
 have e:=X2g j (a2.symm.trans b2)
 have e2:x.exp=y.exp:=by omega
 cases x
 cases y
 simp only at e e2
 rw [e,e2]
theorem X8h(m:Nat) : V dZ m 0:=⟨by decide,m,by show (0:Int)+m=m;omega,by
 show (0:Rg)=s2^m*0
 exact (Xq _).symm⟩
theorem Xkl(x:Rg) : om*x=⟨-x.d,x.a,x.b,x.c⟩:=by
 have e1:om.a=0:=rfl
 have e2:om.b=1:=rfl
 have e3:om.c=0:=rfl
 have e4:om.d=0:=rfl
 refine X24 ?_ ?_ ?_ ?_<;>simp only [X5v,X68,X5w,X60,e1,e2,e3,e4]<;>grind
end Go.Proofs.YtlfjcmldfbfdbaaGreat
namespace Go.Proofs.YtlfjcmldfbfdbaaGreat
abbrev St:=(Nat→Bool)→Rg
def flipB(β:Nat→Bool)(q:Nat) : Nat→Bool:=fun p=>if p=q then !β p else β p
def u1(k:Int)(x y:Bool) : Rg:=
 if k=1 then (if x&&y then -1 else 1) else if k=2 then (if x=y then 0 else 1) else if k=3 then (if x=y then 0 else if y then om^6 else om^2)
 else if x=y then (if x then om^(turnOf k).toNat else 1) else 0
def act(g:Gt)(v:St) : St:=fun β=>
 if g.k=12 then om*v β
 else if g.k=9 then v (if β g.a.toNat then flipB β g.b.toNat else β)
 else if g.k=10 then (if β g.a.toNat&&β g.b.toNat then om^4 else 1)*v β
 else if g.k=11 then v (if β g.a.toNat=β g.b.toNat then β else flipB (flipB β g.a.toNat) g.b.toNat)
 else u1 g.k (β g.a.toNat) (β g.a.toNat)*v β+u1 g.k (β g.a.toNat) (!β g.a.toNat)*v (flipB β g.a.toNat)
def hN(g:Gt) : Nat:=if g.k=1 then 1 else 0
def run:List Gt→St→St
 | [],v=>v
 | g::l,v=>run l (act g v)
def hs:List Gt→Nat
 | []=>0
 | g::l=>hN g+hs l
def sumN(f:Nat→Rg) : Nat→Rg
 | 0=>0
 | n+1=>sumN f n+f n
theorem Xa1{f:Nat→Rg} : ∀ n,(∀ k,k<n→f k=0)→sumN f n=0
 | 0,_=>rfl
 | n+1,h=>by rw [sumN,Xa1 n fun k hk=>h k (by omega),h n (by omega)];rfl
theorem X3a{f:Nat→Rg}{t:Nat} : ∀ n,t<n→(∀ k,k<n→k≠t→f k=0)→sumN f n=f t
 | 0,h,_=>by omega
 | n+1,h,h0=>by
  rw [sumN]
  by_cases e:t=n
  ·subst e
   rw [Xa1 t fun k hk=>h0 k (by omega) (by omega)]
   simp only [Xi,Xq,Xe,Xv,Xw,Xy,X02,X04,Xa,Xb,Xl,Xn,Xc,Xs]
  ·rw [X3a n (by omega) fun k hk hne=>h0 k (by omega) hne,h0 n (by omega) (by omega)]
   simp only [Xi,Xq,Xe,Xv,Xw,Xy,X02,X04,Xa,Xb,Xl,Xn,Xc,Xs]
theorem Xcy{f:Nat→Rg}{t u:Nat}(htu:t≠u) : ∀ n,t<n→u<n→(∀ k,k<n→k≠t→k≠u→f k=0)→sumN f n=f t+f u
 | 0,h,_,_=>by omega
 | n+1,h,h',h0=>by
  rw [sumN]
  by_cases e:t=n
  ·subst e
   rw [X3a (t:=u) t (by omega) fun k hk hne=>h0 k (by omega) (by omega) hne]
   simp only [Xi,Xq,Xe,Xv,Xw,Xy,X02,X04,Xa,Xb,Xl,Xn,Xc,Xs]
  ·by_cases e2:u=n
   ·subst e2
    rw [X3a (t:=t) u (by omega) fun k hk hne=>h0 k (by omega) hne (by omega)]
   ·rw [Xcy htu n (by omega) (by omega) fun k hk a b=>h0 k (by omega) a b,h0 n (by omega) (by omega) (by omega)]
    simp only [Xi,Xq,Xe,Xv,Xw,Xy,X02,X04,Xa,Xb,Xl,Xn,Xc,Xs]
theorem X5o{f g:Nat→Rg} : ∀ n,(∀ k,k<n→f k=g k)→sumN f n=sumN g n
 | 0,_=>rfl
 | n+1,h=>by rw [sumN,sumN,X5o n fun k hk=>h k (by omega),h n (by omega)]
def pt(N:Nat)(i:Nat) : Nat→Bool:=fun q=>decide (q<N)&&(bitT (N-1-q) i==1)
def chkPt:Bool:=(List.range 6).all fun n=>(List.range (2^n)).all fun i=>(List.range (2^n)).all fun j=>(i==j)||(List.range n).any fun q=>bitT (n-1-q) i != bitT (n-1-q) j
theorem Xax:chkPt=true:=by kernel_rfl
theorem X6c(p s:Nat) : bitT p s=0∨bitT p s=1:=by
 have h:=X21 ((p:Int)+1) s 0
 rw [Xbj,show ((p:Int)+1-1-0).toNat=p from by omega] at h
 exact h
theorem Xgp{N i j:Nat}(hN:N≤5)(hi:i<2^N)(hj:j<2^N)(h:∀ q,q<N→pt N i q=pt N j q) : i=j:=by
 have hc:=Xax
 simp only [chkPt,List.all_eq_true,List.mem_range] at hc
 have hc:=hc N (by omega) i hi j hj
 simp only [Bool.or_eq_true,beq_iff_eq,List.any_eq_true,List.mem_range,bne_iff_ne] at hc
 rcases hc with hc|⟨q,hq,hne⟩
 ·exact hc
 ·have h1:=h q hq
  simp only [pt,hq,decide_true,Bool.true_and] at h1
  rcases X6c (N-1-q) i with e1|e1<;>rcases X6c (N-1-q) j with e2|e2<;>rw [e1,e2] at h1 hne<;>simp_all
theorem X6b{N:Nat}(h:N≤5) : 2^N≤32:=Nat.le_trans (Nat.pow_le_pow_right (by decide) h) (by decide)
theorem Xbz{N i q:Nat}(hN:N≤5)(hi:i<2^N)(hq:q<N) : pt N (flipT (N-1-q) i).toNat=flipB (pt N i) q:=by
 have hb:=X3b (p:=N-1-q) (s:=i) (by omega) (Nat.lt_of_lt_of_le hi (X6b hN))
 funext p
 unfold flipB pt
 by_cases hp:p<N
 ·simp only [hp,decide_true,Bool.true_and]
  by_cases e:p=q
  ·subst e
   rw [if_pos rfl,hb.bit]
   rcases X6c (N-1-p) i with e1|e1<;>rw [e1]<;>rfl
  ·rw [if_neg e,hb.other _ (by omega) (by omega)]
 ·simp only [hp,decide_false,Bool.false_and]
  rw [if_neg (by omega)]
theorem X8i{N i q:Nat}(hq:q<N) : bitF (N:Int) (i:Int) (q:Int)=if pt N i q then 1 else 0:=by
 rw [Xbj,show ((N:Int)-1-(q:Int)).toNat=N-1-q from by omega]
 simp only [pt,hq,decide_true,Bool.true_and,beq_iff_eq]
 rcases X6c (N-1-q) i with e|e<;>rw [e]<;>rfl
def zc(N:Nat)(g:Gt)(i k:Nat) : Rg:=
 if g.k=12 then (if i=k then om else 0)
 else if inR g.k 9 11=true then (if toS N g i=(k:Int) then om^(if czI N g i=true then 4 else 0) else 0)
 else if (i:Int)=k∨flipF N i g.a=(k:Int) then u1 g.k (bitF N i g.a==1) (bitF N k g.a==1) else 0
theorem Xiz{x:Dy}{z:Rg}{m:Nat}(h1:x.exp=m)(h2:x.num=z) : V x m z:=⟨by omega,0,by omega,by rw [← h2,X3j];exact (Xe _).symm⟩
theorem Xio{k:Int}(h:1≤k∧k≤8){x y:Int}(hx:x=0∨x=1)(hy:y=0∨y=1) : V (entryI k x y) (if k=1 then 1 else 0) (u1 k (x==1) (y==1)):=by
 have:k=1∨k=2∨k=3∨k=4∨k=5∨k=6∨k=7∨k=8:=by omega
 rcases this with rfl|rfl|rfl|rfl|rfl|rfl|rfl|rfl<;>rcases hx with rfl|rfl<;>rcases hy with rfl|rfl<;>exact Xiz (by decide) (by decide)
theorem X8l{N:Nat}{g:Gt}(hg:gOk N g=true)(i k:Nat) : V (cellI N g i k) (hN g) (zc N g i k):=by
 obtain ⟨hn,hk,ha,hb⟩:=X0m hg
 unfold cellI zc hN
 by_cases h12:g.k=12
 ·have h1:¬ g.k=1:=by omega
  rw [if_pos h12,if_pos h12,if_neg h1]
  by_cases e:i=k
  ·have e':(i:Int)=k:=by omega
   rw [if_pos e,if_pos e']
   exact Xiz (by decide) (by decide)
  ·have e':¬ (i:Int)=k:=by omega
   rw [if_neg e,if_neg e']
   exact X8h 0
 ·rw [if_neg h12,if_neg h12]
  by_cases h9:inR g.k 9 11=true
  ·rw [if_pos h9,if_pos h9]
   have:=Xh.1 h9
   have h1:¬ g.k=1:=by omega
   rw [if_neg h1]
   by_cases e:toS N g i=(k:Int)
   ·rw [if_pos e,if_pos e]
    by_cases e2:czI N g i=true
    ·rw [if_pos e2,if_pos e2]
     exact Xiz (by decide) (by decide)
    ·rw [if_neg e2,if_neg e2]
     exact Xiz (by decide) (by decide)
   ·rw [if_neg e,if_neg e]
    exact X8h 0
  ·rw [if_neg h9,if_neg h9]
   have h8:¬ (9≤g.k∧g.k≤11):=fun h=>h9 (Xh.2 h)
   by_cases e:(i:Int)=k∨flipF N i g.a=(k:Int)
   ·rw [if_pos e,if_pos e]
    exact Xio (by omega) (X21 _ _ _) (X21 _ _ _)
   ·rw [if_neg e,if_neg e]
    exact X8h _
theorem X8g{N:Nat}{g:Gt}(hg:gOk N g=true){i:Nat}(hi:i<2^N)(w:St) : sumN (fun k=>zc N g i k*w (pt N k)) (2^N)=act g w (pt N i):=by
 obtain ⟨hn,hk,ha,hb⟩:=X0m hg
 have hN:N≤5:=by omega
 unfold act
 by_cases h12:g.k=12
 ·rw [if_pos h12,X3a (t:=i) _ hi fun k hk' hne=>by
   simp only [zc,if_pos h12]
   rw [if_neg (by omega)]
   exact Xi _]
  simp only [zc,if_pos h12,if_true]
 ·rw [if_neg h12]
  obtain ⟨A,hA⟩ : ∃ A:Nat,g.a=A:=⟨g.a.toNat,by have:=ha h12;omega⟩
  have hA5:A<N:=by have:=ha h12;omega
  by_cases h9:inR g.k 9 11=true
  ·have h9':=Xh.1 h9
   obtain ⟨B,hB⟩ : ∃ B:Nat,g.b=B:=⟨g.b.toNat,by have:=hb h9';omega⟩
   have hB5:B<N:=by have:=hb h9';omega
   obtain ⟨t,ht,ht2,_,_⟩:=X8y hg (s:=i) hi h9'
   rw [Int.toNat_natCast] at ht
   rw [X3a (t:=t) _ ht fun k hk' hne=>by
    simp only [zc,if_neg h12,if_pos h9,ht2]
    rw [if_neg (by omega)]
    exact Xi _]
   simp only [zc,if_neg h12,if_pos h9,ht2,if_true]
   have bA:=X8i (i:=i) hA5
   have bB:=X8i (i:=i) hB5
   have fl:∀ {j q:Nat},j<2^N→q<N→flipF N j q=((flipT (N-1-q) j).toNat:Int)∧(flipT (N-1-q) j).toNat<2^N∧pt N (flipT (N-1-q) j).toNat=flipB (pt N j) q:=fun {j q} hj hq=>by
    rw [X44,show ((N:Int)-1-(q:Int)).toNat=N-1-q from by omega]
    exact ⟨(X3b (p:=N-1-q) (s:=j) (by omega) (Nat.lt_of_lt_of_le hj (X6b hN))).nat,X37 hN hq hj,Xbz hN hj hq⟩
   rw [hA,hB,Int.toNat_natCast,Int.toNat_natCast]
   unfold toS at ht2
   rw [hA,hB] at ht2
   by_cases k9:g.k=9
   ·have hc:czI N g i=false:=by unfold czI;rw [k9];rfl
    rw [if_pos k9,hc,if_neg (by decide)]
    rw [if_pos k9,bA] at ht2
    have e1:om^0=1:=rfl
    rw [e1]
    cases hp:pt N i A
    ·rw [hp] at ht2
     simp only [Bool.false_eq_true,if_false] at ht2
     rw [if_neg (by decide)] at ht2
     obtain rfl:i=t:=by omega
     simp only [Bool.false_eq_true,if_false]
     simp only [e1,Xe]
    ·rw [hp,if_pos rfl,if_pos rfl,(fl hi hB5).1] at ht2
     rw [if_pos rfl,← (fl hi hB5).2.2,show (flipT (N-1-B) i).toNat=t from by omega]
     simp only [e1,Xe]
   ·rw [if_neg k9] at ht2 ⊢
    by_cases k10:g.k=10
    ·rw [if_pos k10]
     rw [if_neg (by omega)] at ht2
     obtain rfl:i=t:=by omega
     have hc:czI N g i=(pt N i A&&pt N i B):=by
      unfold czI
      rw [k10,hA,hB,bA,bB]
      cases pt N i A<;>cases pt N i B<;>rfl
     rw [hc]
     cases pt N i A&&pt N i B<;>rfl
    ·have k11:g.k=11:=by omega
     have hc:czI N g i=false:=by unfold czI;rw [k11];rfl
     rw [if_neg k10,if_pos k11,hc,if_neg (by decide)]
     rw [if_pos k11,bA,bB] at ht2
     have e1:om^0=1:=rfl
     rw [e1]
     by_cases hp:pt N i A=pt N i B
     ·rw [hp,if_neg (fun h=>h rfl)] at ht2
      obtain rfl:i=t:=by omega
      rw [if_pos hp]
      simp only [e1,Xe]
     ·rw [if_pos (by revert hp;cases pt N i A<;>cases pt N i B<;>simp),(fl hi hA5).1,(fl (fl hi hA5).2.1 hB5).1] at ht2
      rw [if_neg hp,← (fl hi hA5).2.2,← (fl (fl hi hA5).2.1 hB5).2.2]
      rw [show (flipT (N-1-B) (flipT (N-1-A) i).toNat).toNat=t from by omega]
      simp only [e1,Xe]
  ·have h8:¬ (9≤g.k∧g.k≤11):=fun h=>h9 (Xh.2 h)
   rw [if_neg (by omega),if_neg (by omega),if_neg (by omega),hA,Int.toNat_natCast]
   have bo:=X3b (p:=N-1-A) (s:=i) (by omega) (Nat.lt_of_lt_of_le hi (X6b hN))
   have fs:=X37 hN hA5 hi
   have fp:=Xbz hN hi hA5
   have fe:flipF N i A=((flipT (N-1-A) i).toNat:Int):=by
    rw [X44,show ((N:Int)-1-(A:Int)).toNat=N-1-A from by omega]
    exact bo.nat
   generalize (flipT (N-1-A) i).toNat=t at fs fp fe
   have hne:i≠t:=by
    rintro rfl
    have:=congrFun fp A
    simp [flipB] at this
   have bA:=X8i (i:=i) hA5
   have bT:=X8i (i:=t) hA5
   have hT:pt N t A = !pt N i A:=by rw [fp];simp [flipB]
   rw [Xcy hne _ hi fs fun k hk' n1 n2=>by
    simp only [zc,if_neg h12,if_neg h9,hA,fe]
    rw [if_neg (by omega)]
    exact Xi _]
   simp only [zc,if_neg h12,if_neg h9,hA,fe,true_or,or_true,if_true,bA,bT,hT]
   rw [← fp]
   cases pt N i A<;>rfl
#print axioms X8g
end Go.Proofs.YtlfjcmldfbfdbaaGreat
namespace Go.Proofs.YtlfjcmldfbfdbaaGreat
theorem Xc4{g:Nat→Option Dy} : ∀ {n:Nat} {l:List Dy},seqO g n=some l→∀ k,k<n→g k=some (l.getD k dZ)
 | 0,l,_,k,hk=>by omega
 | n+1,l,h,k,hk=>by
  simp only [seqO] at h
  split at h
  ·rename_i l' x h1 h2
   injection h with h
   subst h
   have hl:=X3p h1
   by_cases e:k=n
   ·subst e
    rw [h2,List.getD_eq_getElem?_getD,List.getElem?_append_right (by omega),hl,Nat.sub_self]
    rfl
   ·rw [Xc4 h1 k (by omega),List.getD_eq_getElem?_getD,List.getD_eq_getElem?_getD,List.getElem?_append_left (by omega)]
  ·cases h
theorem Xaa{R C:Int}{f:Nat→Nat→Option Dy}{M:Mx}(h:matOf R C f=some M) : (∀ i j,i<R.toNat→j<C.toNat→f i j=some (M.at i j))∧M.rows=R∧M.cols=C∧M.cells.length=R.toNat*C.toNat:=by
 unfold matOf at h
 split at h
 ·cases hs:seqO (gridG f C.toNat) (R.toNat*C.toNat) with
  | none=>rw [hs] at h;cases h
  | some l=>
   rw [hs] at h
   injection h with h
   subst h
   refine ⟨fun i j hi hj=>?_,rfl,rfl,X3p hs⟩
   have:=Xc4 hs (i*C.toNat+j) (X3c hi hj)
   rw [X75 hj] at this
   exact this
 ·cases h
theorem X8k{a b:Mx}{i j m m':Nat}{za zb:Nat→Rg} : ∀ n {s:Dy},(∀ k,k<n→V (a.at i k) m (za k))→(∀ k,k<n→V (b.at k j) m' (zb k))→dotI a b i j n=some s→V s (m+m') (sumN (fun k=>za k*zb k) n)
 | 0,s,_,_,h=>by
  injection h with h
  subst h
  exact X8h _
 | n+1,s,ha,hb,h=>by
  rw [dotI] at h
  cases h1:dotI a b i j n with
  | none=>rw [h1] at h;cases h
  | some t=>
   rw [h1,Option.bind_some] at h
   cases h2:dMulI (a.at i n) (b.at n j) with
   | none=>rw [h2] at h;cases h
   | some x=>
    rw [h2,Option.bind_some] at h
    exact (Xjf h (X8k n (fun k hk=>ha k (by omega)) (fun k hk=>hb k (by omega)) h1) (Xjv h2 (ha n (by omega)) (hb n (by omega))).1).1
theorem X40{N:Nat}{g:Gt}(hg:gOk N g=true){i k:Nat}(hi:i<2^N)(hk:k<2^N) : (gateS N g).at i k=cellI N g i k:=by
 have h:=(X0x hg).1
 unfold gateI at h
 rw [if_pos hg] at h
 have:=(Xaa h).1 i k (by rw [Int.toNat_natCast,Int.toNat_natCast];exact hi) (by rw [Int.toNat_natCast,Int.toNat_natCast];exact hk)
 exact (Option.some.inj this).symm
theorem Xdg{a b M:Mx}(h:mulI a b=some M) : (∀ i j,i<a.rows.toNat→j<b.cols.toNat→dotI a b i j a.cols.toNat=some (M.at i j))∧M.rows=a.rows∧M.cols=b.cols∧a.cols=b.rows∧M.cells.length=a.rows.toNat*b.cols.toNat:=by
 unfold mulI at h
 split at h
 ·rename_i h1
  simp only [Bool.and_eq_true,beq_iff_eq] at h1
  obtain ⟨p1,p2,p3,p4⟩:=Xaa h
  exact ⟨p1,p2,p3,h1.2,p4⟩
 ·cases h
def eb(N j:Nat) : St:=fun β=>if ∀ q,q<N→β q=pt N j q then 1 else 0
theorem Xjk{N i j:Nat}(hN:N≤5)(hi:i<2^N)(hj:j<2^N) : eb N j (pt N i)=if i=j then 1 else 0:=by
 unfold eb
 by_cases e:i=j
 ·subst e
  rw [if_pos rfl,if_pos fun q _=>rfl]
 ·rw [if_neg e,if_neg fun h=>e (Xgp hN hi hj h)]
theorem Xhg(g:Gt)(v w:St) : act g (fun β=>v β+w β)=fun β=>act g v β+act g w β:=by
 funext β
 unfold act
 split
 ·simp only [Xi,Xq,Xe,Xv,Xw,Xy,X02,X04,Xa,Xb,Xl,Xn,Xc,Xs]
 ·split
  ·rfl
  ·split
   ·simp only [Xi,Xq,Xe,Xv,Xw,Xy,X02,X04,Xa,Xb,Xl,Xn,Xc,Xs]
   ·split
    ·rfl
    ·simp only [Xi,Xq,Xe,Xv,Xw,Xy,X02,X04,Xa,Xb,Xl,Xn,Xc,Xs]
theorem Xeo(g:Gt)(c:Rg)(v:St) : act g (fun β=>c*v β)=fun β=>c*act g v β:=by
 funext β
 unfold act
 split
 ·simp only [Xi,Xq,Xe,Xv,Xw,Xy,X02,X04,Xa,Xb,Xl,Xn,Xc,Xs]
 ·split
  ·rfl
  ·split
   ·simp only [Xi,Xq,Xe,Xv,Xw,Xy,X02,X04,Xa,Xb,Xl,Xn,Xc,Xs]
   ·split
    ·rfl
    ·simp only [Xi,Xq,Xe,Xv,Xw,Xy,X02,X04,Xa,Xb,Xl,Xn,Xc,Xs]
theorem Xci:∀ (l:List Gt) (v w:St),run l (fun β=>v β+w β)=fun β=>run l v β+run l w β
 | [],_,_=>rfl
 | g::l,v,w=>by rw [run,Xhg,Xci l];rfl
theorem X6o:∀ (l:List Gt) (c:Rg) (v:St),run l (fun β=>c*v β)=fun β=>c*run l v β
 | [],_,_=>rfl
 | g::l,c,v=>by rw [run,Xeo,X6o l];rfl
theorem Xgo:∀ (l:List Gt),run l (fun _=>0)=fun _=>0:=fun l=>by
 have:=X6o l 0 (fun _=>0)
 have e:(fun _:Nat→Bool=>(0:Rg)*0)=fun _=>0:=by funext β;exact Xi 0
 rw [e] at this
 rw [this]
 funext β
 exact Xi _
theorem Xc0(l:List Gt)(c:Nat→Rg)(f:Nat→St) : ∀ n,run l (fun β=>sumN (fun k=>c k*f k β) n)=fun β=>sumN (fun k=>c k*run l (f k) β) n
 | 0=>Xgo l
 | n+1=>by
  show run l (fun β=>sumN (fun k=>c k*f k β) n+c n*f n β)=_
  rw [Xci l (fun β=>sumN (fun k=>c k*f k β) n) (fun β=>c n*f n β),Xc0 l c f n,X6o]
  rfl
def Low(N:Nat)(g:Gt) : Prop:=(g.k≠12→g.a.toNat<N)∧(9≤g.k∧g.k≤11→g.b.toNat<N)
theorem Xfm{N:Nat}{g:Gt}(h:gOk N g=true) : Low N g:=by
 obtain ⟨_,_,ha,hb⟩:=X0m h
 exact ⟨fun h=>by have:=ha h;omega,fun h=>by have:=hb h;omega⟩
def Co(N:Nat)(β γ:Nat→Bool) : Prop:=∀ q,N≤q→β q=γ q
theorem Co.flip{N q:Nat}{β γ:Nat→Bool}(h:Co N β γ)(hq:q<N) : Co N β (flipB γ q):=fun p hp=>by
 unfold flipB
 rw [if_neg (by omega)]
 exact h p hp
theorem Xkz{N:Nat}{g:Gt}(hg:Low N g){β:Nat→Bool}{v w:St}(h:∀ γ,Co N β γ→v γ=w γ) : ∀ γ,Co N β γ→act g v γ=act g w γ:=fun γ hγ=>by
 unfold act
 split
 ·rw [h γ hγ]
 ·rename_i h12
  have ha:=hg.1 h12
  split
  ·have hb:=hg.2 (by omega)
   split
   ·exact h _ (hγ.flip hb)
   ·exact h _ hγ
  ·split
   ·rw [h γ hγ]
   ·split
    ·have hb:=hg.2 (by omega)
     split
     ·exact h _ hγ
     ·exact h _ ((hγ.flip ha).flip hb)
    ·rw [h γ hγ,h _ (hγ.flip ha)]
theorem Xge{N:Nat}{β:Nat→Bool} : ∀ (l:List Gt) {v w:St},(∀ g ∈ l,Low N g)→(∀ γ,Co N β γ→v γ=w γ)→∀ γ,Co N β γ→run l v γ=run l w γ
 | [],_,_,_,h=>h
 | g::l,v,w,hg,h=>Xge l (fun g' hg'=>hg g' (by simp [hg'])) (Xkz (hg g (by simp)) h)
def Dep(N:Nat)(v:St) : Prop:=∀ β γ,(∀ q,q<N→β q=γ q)→v β=v γ
theorem X49{N q:Nat}{β γ:Nat→Bool}(h:∀ q,q<N→β q=γ q)(hq:q<N) : ∀ p,p<N→flipB β q p=flipB γ q p:=fun p hp=>by
 unfold flipB
 rw [h p hp]
theorem Xhe{N:Nat}{g:Gt}(hg:Low N g){v:St}(h:Dep N v) : Dep N (act g v):=fun β γ e=>by
 unfold act
 split
 ·rw [h β γ e]
 ·rename_i h12
  have ha:=hg.1 h12
  rw [e _ ha]
  split
  ·have hb:=hg.2 (by omega)
   split
   ·exact h _ _ (X49 e hb)
   ·exact h _ _ e
  ·split
   ·have hb:=hg.2 (by omega)
    rw [e _ hb,h β γ e]
   ·split
    ·have hb:=hg.2 (by omega)
     rw [e _ hb]
     split
     ·exact h _ _ e
     ·exact h _ _ (X49 (X49 e ha) hb)
    ·rw [h β γ e,h _ _ (X49 e ha)]
theorem Xcf{N:Nat} : ∀ (l:List Gt) {v:St},(∀ g ∈ l,Low N g)→Dep N v→Dep N (run l v)
 | [],_,_,h=>h
 | g::l,v,hg,h=>Xcf l (fun g' hg'=>hg g' (by simp [hg'])) (Xhe (hg g (by simp)) h)
theorem Xg9(N j:Nat) : Dep N (eb N j):=fun β γ e=>by
 unfold eb
 congr 1
 apply propext
 exact ⟨fun h q hq=>(e q hq).symm.trans (h q hq),fun h q hq=>(e q hq).trans (h q hq)⟩
def bools:List Bool:=[false,true]
def chkSur:Bool:=(List.range 6).all fun n=>bools.all fun a=>bools.all fun b=>bools.all fun c=>bools.all fun d=>bools.all fun e=>(List.range (2^n)).any fun i=>(List.range n).all fun q=>pt n i q==[a,b,c,d,e].getD q false
theorem X9l:chkSur=true:=by kernel_rfl
theorem X31(b:Bool) : b ∈ bools:=by cases b<;>simp [bools]
theorem Xfk{N:Nat}(hN:N≤5)(β:Nat→Bool) : ∃ i,i<2^N∧∀ q,q<N→pt N i q=β q:=by
 have h:=X9l
 simp only [chkSur,List.all_eq_true,List.mem_range] at h
 have h:=h N (by omega) _ (X31 (β 0)) _ (X31 (β 1)) _ (X31 (β 2)) _ (X31 (β 3)) _ (X31 (β 4))
 simp only [List.any_eq_true,List.mem_range,List.all_eq_true,beq_iff_eq] at h
 obtain ⟨i,hi,h⟩:=h
 refine ⟨i,hi,fun q hq=>?_⟩
 rw [h q hq]
 have:q=0∨q=1∨q=2∨q=3∨q=4:=by omega
 rcases this with rfl|rfl|rfl|rfl|rfl<;>rfl
def put(N j:Nat)(β:Nat→Bool) : Nat→Bool:=fun q=>if q<N then pt N j q else β q
theorem Xdy{N:Nat}(hN:N≤5){l:List Gt}(hl:∀ g ∈ l,Low N g)(v:St)(β:Nat→Bool) : ∃ i,i<2^N∧(∀ q,q<N→pt N i q=β q)∧∀ l:List Gt,(∀ g ∈ l,Low N g)→run l v β=sumN (fun j=>v (put N j β)*run l (eb N j) (pt N i)) (2^N):=by
 obtain ⟨i,hi,hb⟩:=Xfk hN β
 refine ⟨i,hi,hb,fun l hl=>?_⟩
 have h1:∀ γ,Co N β γ→v γ=(fun γ=>sumN (fun j=>v (put N j β)*eb N j γ) (2^N)) γ:=fun γ hγ=>by
  obtain ⟨t,ht,hb'⟩:=Xfk hN γ
  have e:put N t β=γ:=by
   funext q
   unfold put
   by_cases hq:q<N
   ·rw [if_pos hq,hb' q hq]
   ·rw [if_neg hq,hγ q (by omega)]
  show v γ=sumN _ _
  rw [X3a (t:=t) _ ht fun k hk hne=>by
   have:eb N k γ=0:=by
    unfold eb
    rw [if_neg fun h=>hne (Xgp hN hk ht fun q hq=>by rw [hb' q hq,h q hq])]
   rw [this]
   exact Xq _]
  have:eb N t γ=1:=by
   unfold eb
   rw [if_pos fun q hq=>(hb' q hq).symm]
  rw [this,e]
  exact (Xv _).symm
 rw [Xge l hl h1 β fun _ _=>rfl,Xc0]
 refine X5o _ fun k hk=>?_
 rw [Xcf l hl (Xg9 N k) β (pt N i) fun q hq=>(hb q hq).symm]
theorem run_basis'{N:Nat}(hN:N≤5)(v:St)(β:Nat→Bool) : ∃ i,i<2^N∧(∀ q,q<N→pt N i q=β q)∧∀ l:List Gt,(∀ g ∈ l,Low N g)→run l v β=sumN (fun j=>v (put N j β)*run l (eb N j) (pt N i)) (2^N):=
 Xdy hN (l:=[]) (fun g hg=>by simp at hg) v β
end Go.Proofs.YtlfjcmldfbfdbaaGreat
namespace Go.Proofs.YtlfjcmldfbfdbaaGreat
def inj(us:List Int)(β γ:Nat→Bool) : Nat→Bool:=fun p=>if (p:Int) ∈ us then γ (lastN us p us.length).toNat else β p
theorem X50{us:List Int}{q:Nat}(hq:(q:Int) ∈ us)(β γ:Nat→Bool) : flipB (inj us β γ) q=inj us β (flipB γ (lastN us q us.length).toNat):=by
 funext p
 unfold flipB inj
 obtain ⟨j,_,hj,hj2⟩:=X2l hq
 by_cases e:p=q
 ·subst e
  rw [if_pos rfl,if_pos hq,if_pos hq]
  dsimp only
  rw [if_pos rfl]
 ·rw [if_neg e]
  by_cases hp:(p:Int) ∈ us
  ·rw [if_pos hp,if_pos hp]
   obtain ⟨i,_,hi,hi2⟩:=X2l hp
   dsimp only
   rw [if_neg fun h=>?_]
   rw [hi,hj] at h
   simp only [Int.toNat_natCast] at h
   subst h
   rw [hi2] at hj2
   omega
  ·rw [if_neg hp,if_neg hp]
theorem Xbb{us:List Int}{q:Nat}(hq:(q:Int) ∈ us)(β γ:Nat→Bool) : inj us β γ q=γ (lastN us q us.length).toNat:=by
 unfold inj;rw [if_pos hq]
theorem Xi3{us:List Int}{n:Int}{g:Gt}(h:GoodG us n g)(v:St)(β γ:Nat→Bool) : act g v (inj us β γ)=act (smallG us g) (fun γ=>v (inj us β γ)) γ:=by
 obtain ⟨_,_,ha,hb⟩:=X0m h.ok
 unfold act
 show _=if g.k=12 then _ else if g.k=9 then _ else if g.k=10 then _ else if g.k=11 then _ else _
 by_cases h12:g.k=12
 ·rw [if_pos h12,if_pos h12]
 ·rw [if_neg h12,if_neg h12]
  have hA:(smallG us g).a=lastN us g.a us.length:=by unfold smallG;rw [if_neg h12]
  obtain ⟨A,hgA⟩ : ∃ A:Nat,g.a=A:=⟨g.a.toNat,by have:=ha h12;omega⟩
  have mA:(A:Int) ∈ us:=h.use _ (by
   unfold qubI
   rw [if_neg h12,← hgA]
   split<;>simp)
  rw [hA,hgA,Int.toNat_natCast,Xbb mA]
  by_cases h9:inR g.k 9 11=true
  ·have h9':=Xh.1 h9
   have hB:(smallG us g).b=lastN us g.b us.length:=by unfold smallG;rw [if_pos h9]
   obtain ⟨B,hgB⟩ : ∃ B:Nat,g.b=B:=⟨g.b.toNat,by have:=hb h9';omega⟩
   have mB:(B:Int) ∈ us:=h.use _ (by
    unfold qubI
    rw [if_neg h12,← hgB,if_pos h9]
    simp)
   rw [hB,hgB,Int.toNat_natCast,Xbb mB,X50 mA,X50 mB,X50 mB]
   by_cases k9:g.k=9
   ·rw [if_pos k9,if_pos k9]
    split<;>rfl
   ·rw [if_neg k9,if_neg k9]
    by_cases k10:g.k=10
    ·rw [if_pos k10,if_pos k10]
    ·rw [if_neg k10,if_neg k10]
     by_cases k11:g.k=11
     ·rw [if_pos k11,if_pos k11]
      split<;>rfl
     ·omega
  ·have h8:¬ (9≤g.k∧g.k≤11):=fun h=>h9 (Xh.2 h)
   rw [if_neg (by omega),if_neg (by omega),if_neg (by omega),if_neg (by omega),if_neg (by omega),if_neg (by omega),X50 mA]
   rfl
theorem X53{us:List Int}{n:Int}(β:Nat→Bool) : ∀ (l:List Gt) (v:St),(∀ g ∈ l,GoodG us n g)→∀ γ,run l v (inj us β γ)=run (l.map (smallG us)) (fun γ=>v (inj us β γ)) γ
 | [],v,_,γ=>rfl
 | g::l,v,h,γ=>by
  rw [run,X53 β l _ (fun g' hg'=>h g' (by simp [hg'])),List.map_cons,run]
  congr 1
  funext γ'
  exact Xi3 (h g (by simp)) v β γ'
theorem Xkr{us:List Int}(hs:∀ x ∈ us,0≤x)(β:Nat→Bool) : inj us β (fun j=>β (us.getD j 0).toNat)=β:=by
 funext p
 unfold inj
 by_cases hp:(p:Int) ∈ us
 ·rw [if_pos hp]
  obtain ⟨i,_,hi,hi2⟩:=X2l hp
  dsimp only
  rw [hi,Int.toNat_natCast,hi2,Int.toNat_natCast]
 ·rw [if_neg hp]
def Eqv(l m:List Gt) : Prop:=∃ k:Nat,∀ v β,s2^hs m*run l v β=om^k*(s2^hs l*run m v β)
theorem Eqv.refl(l:List Gt) : Eqv l l:=⟨0,fun v β=>by rw [X3j];exact (Xe _).symm⟩
theorem Eqv.trans{l m n:List Gt}(h1:Eqv l m)(h2:Eqv m n) : Eqv l n:=by
 obtain ⟨k,h1⟩:=h1
 obtain ⟨j,h2⟩:=h2
 refine ⟨k+j,fun v β=>X2g (hs m) ?_⟩
 have e1:=h1 v β
 have e2:=h2 v β
 rw [X1w]
 rw [show s2^hs m*(s2^hs n*run l v β)=s2^hs n*(s2^hs m*run l v β) by simp only [Xi,Xq,Xe,Xv,Xw,Xy,X02,X04,Xa,Xb,Xl,Xn,Xc,Xs],e1,show s2^hs n*(om^k*(s2^hs l*run m v β))=om^k*(s2^hs l*(s2^hs n*run m v β)) by simp only [Xi,Xq,Xe,Xv,Xw,Xy,X02,X04,Xa,Xb,Xl,Xn,Xc,Xs],e2]
 simp only [Xi,Xq,Xe,Xv,Xw,Xy,X02,X04,Xa,Xb,Xl,Xn,Xc,Xs]
end Go.Proofs.YtlfjcmldfbfdbaaGreat
namespace Go.Proofs.YtlfjcmldfbfdbaaGreat
open Go.RowKit
def encU(i:Int) : List Value:=[.int .u8 i]
theorem Xa2:∀ x,(encU x).length=1:=fun _=>rfl
abbrev wu(i:Int) : Int:=IntKind.u64.wrap i
theorem X5q(i:Int) : 0≤bits .and .u64 i 255∧bits .and .u64 i 255≤255:=by
 have key:∀ b:BitVec 64,0≤IntKind.u64.wrap ((b &&& BitVec.ofInt 64 255).toNat:Int)∧IntKind.u64.wrap ((b &&& BitVec.ofInt 64 255).toNat:Int)≤255:=fun b=>by
  have h1:(BitVec.ofInt 64 255).toNat=255:=by decide
  have h:(b &&& BitVec.ofInt 64 255).toNat≤255:=by
   rw [BitVec.toNat_and,h1]
   exact Nat.and_le_right
  have h2:IntKind.u64.wrap ((b &&& BitVec.ofInt 64 255).toNat:Int)=((b &&& BitVec.ofInt 64 255).toNat:Int):=by
   generalize (b &&& BitVec.ofInt 64 255).toNat=m at h
   simp only [IntKind.wrap,IntKind.bits,IntKind.signed]
   simp
   omega
  rw [h2]
  omega
 exact key _
theorem Xby(i:Int) : 0≤bits .and .u64 i 255∧bits .and .u64 i 255≤9223372036854775807:=⟨(X5q i).1,Int.le_trans (X5q i).2 (by decide)⟩
theorem pk{x n:Int}(hx:0≤x)(hn:1<n) : 0≤x.tmod n∧(x.tmod n=0∨x.tmod n<n):=⟨Int.tmod_nonneg _ hx,.inr (Int.tmod_lt_of_pos _ (by omega))⟩
theorem X2b{l:List Int}{k:Nat}(h:k<l.length) : l[k]? = some (l.getD k 0):=by
 rw [List.getD_eq_getElem?_getD,List.getElem?_eq_getElem h];rfl
theorem Xdx{l:List Int}{k:Nat}(h:k<l.length) : l.getD k 0 ∈ l:=List.mem_of_getElem? (X2b h)
section
variable {P : Program} {a : Act} {w : World} {n : Nat} {e : Env} {ty : TypeId} {pos : String} {af : Array Edge} {g : Option (Nat × Bool)} {d : Option Tmp}
variable {s t t' : TypeId} {x y : Operand} {i j : Int}
theorem Xhw(hf:Fr a n e)(hx:ev e x=some (.int .u64 i))(hy:ev e y=some (.int .u64 j)) : Ev P ⟨d,.binOp .mul t x y t',ty,pos,af,g⟩ a w (.int .u64 (wu (i*j))):=fun w' _=>by
 simp [execOp,hf.ev hx,hf.ev hy,eqGuard,binOp,Op.intArith]
theorem Xjd(hx:ev e x=some (.int .u64 i))(hy:ev e y=some (.int .u64 j)) : EvW P ⟨d,.binOp .mul t x y t',ty,pos,af,g⟩ n e w (.int .u64 (wu (i*j))):=fun a hf=>Xhw hf hx hy
theorem Xis(hf:Fr a n e)(hx:ev e x=some (.int .u64 i))(hy:ev e y=some (.int .u64 j)) : Ev P ⟨d,.binOp .add t x y t',ty,pos,af,g⟩ a w (.int .u64 (wu (i+j))):=fun w' _=>by
 simp [execOp,hf.ev hx,hf.ev hy,eqGuard,binOp,Op.intArith]
theorem Xbu(hx:ev e x=some (.int .u64 i))(hy:ev e y=some (.int .u64 j)) : EvW P ⟨d,.binOp .add t x y t',ty,pos,af,g⟩ n e w (.int .u64 (wu (i+j))):=fun a hf=>Xis hf hx hy
theorem Xhp(hf:Fr a n e)(hx:ev e x=some (.int .u64 i))(hy:ev e y=some (.int .u64 j)) : Ev P ⟨d,.binOp .and t x y t',ty,pos,af,g⟩ a w (.int .u64 (bits .and .u64 i j)):=fun w' _=>by
 simp [execOp,hf.ev hx,hf.ev hy,eqGuard,binOp,Op.intBits,bits]
theorem Xk1(hx:ev e x=some (.int .u64 i))(hy:ev e y=some (.int .u64 j)) : EvW P ⟨d,.binOp .and t x y t',ty,pos,af,g⟩ n e w (.int .u64 (bits .and .u64 i j)):=fun a hf=>Xhp hf hx hy
theorem Xhc{m:Nat}(hf:Fr a n e)(hx:ev e x=some (.int .u64 i))(hy:ev e y=some (.int .u64 j))(hj:j=(m:Int))(hm:m≤64) : Ev P ⟨d,.binOp .shr t x y t',ty,pos,af,g⟩ a w (.int .u64 (i/2^m)):=fun w' _=>by
 subst hj
 have hm':min m 64=m:=by omega
 simp [execOp,hf.ev hx,hf.ev hy,eqGuard,binOp,Op.shift,IntKind.bits,hm']
theorem Xjs{m:Nat}(hx:ev e x=some (.int .u64 i))(hy:ev e y=some (.int .u64 j))(hj:j=(m:Int))(hm:m≤64) : EvW P ⟨d,.binOp .shr t x y t',ty,pos,af,g⟩ n e w (.int .u64 (i/2^m)):=fun a hf=>Xhc hf hx hy hj hm
theorem Xkd(hs:P.underlying s=some (.int .i64))(ht:P.underlying t=some (.int .u64))(hf:Fr a n e)(hx:ev e x=some (.int .i64 i)) : Ev P ⟨d,.convert s t x,ty,pos,af,g⟩ a w (.int .u64 (wu i)):=fun w' _=>by
 simp [execOp,hf.ev hx,convert,X0l hs,X0l ht,Conv.intToInt]
theorem Xn5(hs:P.underlying s=some (.int .i64))(ht:P.underlying t=some (.int .u64))(hx:ev e x=some (.int .i64 i)) : EvW P ⟨d,.convert s t x,ty,pos,af,g⟩ n e w (.int .u64 (wu i)):=fun a hf=>Xkd hs ht hf hx
theorem Xmb(hs:P.underlying s=some (.int .u64))(ht:P.underlying t=some (.int .i64))(hf:Fr a n e)(hx:ev e x=some (.int .u64 i))(h:0≤i∧i≤9223372036854775807) : Ev P ⟨d,.convert s t x,ty,pos,af,g⟩ a w (.int .i64 i):=fun w' _=>by
 have h2:IntKind.i64.wrap i=i:=IntWalk.i64_in _ ⟨by omega,by omega⟩
 simp [execOp,hf.ev hx,convert,X0l hs,X0l ht,Conv.intToInt,h2]
theorem Xnu(hs:P.underlying s=some (.int .u64))(ht:P.underlying t=some (.int .i64))(hx:ev e x=some (.int .u64 i))(h:0≤i∧i≤9223372036854775807) : EvW P ⟨d,.convert s t x,ty,pos,af,g⟩ n e w (.int .i64 i):=fun a hf=>Xmb hs ht hf hx h
theorem Xmn(hs:P.underlying s=some (.int .u8))(ht:P.underlying t=some (.int .i64))(hf:Fr a n e)(hx:ev e x=some (.int .u8 i))(h:0≤i∧i≤255) : Ev P ⟨d,.convert s t x,ty,pos,af,g⟩ a w (.int .i64 i):=fun w' _=>by
 have h2:IntKind.i64.wrap i=i:=IntWalk.i64_in _ ⟨by omega,by omega⟩
 simp [execOp,hf.ev hx,convert,X0l hs,X0l ht,Conv.intToInt,h2]
theorem Xor(hs:P.underlying s=some (.int .u8))(ht:P.underlying t=some (.int .i64))(hx:ev e x=some (.int .u8 i))(h:0≤i∧i≤255) : EvW P ⟨d,.convert s t x,ty,pos,af,g⟩ n e w (.int .i64 i):=fun a hf=>Xmn hs ht hf hx h
end
end Go.Proofs.YtlfjcmldfbfdbaaGreat
set_option maxRecDepth 4000
namespace Go.Proofs.YtlfjcmldfbfdbaaGreat
open Go.RowKit
theorem Xjc(w0:World)(bV:Nat){Xcd:TypeId}(Acd:Option Addr)(ccd:Nat)(code:List Int)(hr_code:Rd w0 w0.heap.size Xcd encU Acd code)(hcd:∀ x ∈ code,0≤x∧x≤255)(hav:AwayR code Acd bV)(t:Nat)(sd:Int)(hBV:Blk w0 bV 80 [.slice Acd code.length ccd,vi (t:Int),.int .u64 sd])(ht:t+1≤100000000) : Ret Tryz.prog 118 [.pointer (some ⟨bV,0,none⟩)] w0 (fun v w=>∃ (x:Int) (t1:Nat) (s1:Int),v=vi x∧(0≤x∧x≤255)∧(t≤t1∧t1≤t+1)∧Kept bV w0.heap.size w0 w∧Blk w bV 80 [.slice Acd code.length ccd,vi (t1:Int),.int .u64 s1]):=by
 have hltV:=hBV.lt
 refine enter Tryz.func118 rfl 62 rfl rfl ?_
 intro a hf
 have hW:Kept bV w0.heap.size w0 w0:=Kept.refl _ _ _
 refine Zs hf fun _ hK2=>?_
 refine Za rfl ?_
 refine Zt hK2 fun a hf=>?_
 refine Zs hf fun _ hK3=>?_
 refine Za rfl ?_
 refine Zt hK3 fun a hf=>?_
 refine wp_seq_k fun _ hK4=>?_
 refine wp_seq_k fun _ hK5=>?_
 refine X0h none (fun _=>false) mixed ?_
 intro w1 hE
 replace hBV:=hBV.below hE
 replace hr_code:=hr_code.below hE
 replace hW:=ktr hW hE
 refine Yb hf ?_
 refine Yo 0 rfl (fun _=>X8 rfl)<|Yo 1 rfl (fun _=>X2x rfl)<|Yo 2 rfl (fun _=>Vd rfl X27 1)<|Ye 3 rfl (X0 rfl X3 (hBV.at 1))<|Yo 4 rfl (fun _=>X8 rfl) ?_
 refine Yo 5 rfl (fun _=>X2x rfl)<|Yo 6 rfl (fun _=>Vd rfl X3y 0)<|Ye 7 rfl (X0 rfl X6f (hBV.at 0))<|Yo 8 rfl (fun _=>X14 rfl X46)<|Yo 9 rfl (fun _=>X16 rfl rfl) ?_
 refine Yd fun a hf=>?_
 refine hK5 _ _ ?_
 refine Xm hf rfl (fun hc6=>?_) (fun hc6=>?_)
 ·have hc6b:=hc6
  have hc6:=of_decide_eq_true hc6
  obtain ⟨u7,hu7⟩:=Xx (l:=code) (k:=t) (by omega)
  have hbx:=hcd _ (List.mem_of_getElem? hu7)
  refine X0h none (fun _=>false) mixed ?_
  intro w2 hE
  replace hBV:=hBV.below hE
  replace hr_code:=hr_code.below hE
  replace hW:=ktr hW hE
  refine Yb hf ?_
  refine Yo 0 rfl (fun _=>X8 rfl)<|Yo 1 rfl (fun _=>X2x rfl)<|Yo 2 rfl (fun _=>Vd rfl X3y 0)<|Ye 3 rfl (X0 rfl X6f (hBV.at 0))<|Yo 4 rfl (fun _=>X8 rfl) ?_
  refine Yo 5 rfl (fun _=>X2x rfl)<|Yo 6 rfl (fun _=>Vd rfl X27 1)<|Ye 7 rfl (X0 rfl X3 (hBV.at 1)) ?_
  refine Yi (k:=t) (u:=u7) (enc:=encU) (l:=code) 8 rfl trivial rfl rfl X46 Xpq Xa2 hr_code hu7 rfl ?_;intro p9 hat8
  refine Ye 9 rfl (X0 rfl Xq7 hat8)<|Yo 10 rfl (fun _=>Xor Tryz.underlying5 Tryz.underlying3 rfl (hcd _ (List.mem_of_getElem? hu7)))<|Yo 11 rfl (fun _=>X1m rfl) ?_
  refine Yd fun a hf=>?_
  refine hK4 _ _ ?_
  refine Zs hf fun _ hK10=>?_
  refine Zm rfl<|Ze (X2x rfl)<|Ze (Vd rfl X27 1)<|Ze (X0 rfl X3 (hBV.at 1))<|Ze (X0a rfl rfl (by omega) (by omega)) ?_
  refine Ze (X2x rfl)<|Ze (Vd rfl X27 1) ?_
  refine Zo (X3t (vs:=[vi ((t:Int)+1)]) (l':=[.slice Acd code.length ccd,vi ((t:Int)+1),.int .u64 sd]) rfl rfl X1a hBV rfl rfl rfl rfl rfl) ?_;rintro _ w3 ⟨ho,hb⟩
  have hold:=hBV
  replace hr_code:=hr_code.onlyA ho hav
  replace hW:=hW.self ho
  clear hold
  have hBV:=hb
  clear hb ho
  refine Zt hK10 fun a hf=>?_
  refine Zs hf fun _ hK11=>?_
  refine Zm rfl<|Zm rfl<|Ze (X2x rfl)<|Ze (Vd rfl X2n 2)<|Ze (X0 rfl X98 (hBV.at 2)) ?_
  refine Ze (Xjd rfl rfl)<|Zm rfl<|Ze (Xn5 Tryz.underlying3 Tryz.underlying78 rfl)<|Ze (Xbu rfl rfl)<|Ze (Xbu rfl rfl) ?_
  refine Ze (X2x rfl)<|Ze (Vd rfl X2n 2) ?_
  refine Zo (X3t (vs:=[.int .u64 (wu ((wu ((wu (sd*6364136223846793005))+(wu u7)))+1442695040888963407))]) (l':=[.slice Acd code.length ccd,vi ((t:Int)+1),.int .u64 (wu ((wu ((wu (sd*6364136223846793005))+(wu u7)))+1442695040888963407))]) rfl rfl Xfy hBV rfl rfl rfl rfl rfl) ?_;rintro _ w4 ⟨ho,hb⟩
  have hold:=hBV
  replace hr_code:=hr_code.onlyA ho hav
  replace hW:=hW.self ho
  clear hold
  have hBV:=hb
  clear hb ho
  refine Zt hK11 fun a hf=>?_
  refine wp_seq_k fun _ hK12=>?_
  refine wp_seq_k fun _ hK13=>?_
  refine X0h none (fun _=>false) mixed ?_
  intro w5 hE
  replace hBV:=hBV.below hE
  replace hr_code:=hr_code.below hE
  replace hW:=ktr hW hE
  refine Yb hf ?_
  refine Yo 0 rfl (fun _=>X8 rfl)<|Yo 1 rfl (fun _=>X2x rfl)<|Yo 2 rfl (fun _=>Vd rfl X27 1)<|Ye 3 rfl (X0 rfl X3 (hBV.at 1))<|Yo 4 rfl (fun _=>X8 rfl) ?_
  refine Yo 5 rfl (fun _=>X2x rfl)<|Yo 6 rfl (fun _=>Vd rfl X3y 0)<|Ye 7 rfl (X0 rfl X6f (hBV.at 0))<|Yo 8 rfl (fun _=>X14 rfl X46)<|Yo 9 rfl (fun _=>Xb3 rfl rfl) ?_
  refine Yd fun a hf=>?_
  refine hK13 _ _ ?_
  refine Xm hf rfl (fun hc14=>?_) (fun hc14=>?_)
  ·have hc14b:=hc14
   have hc14:=of_decide_eq_true hc14
   refine Zs hf fun _ hK15=>?_
   refine Zm rfl<|Za rfl ?_
   refine Zt hK15 fun a hf=>?_
   refine wp_ret ?_
   refine X7 ?_
   refine X2 hf (Xj hf rfl rfl) ?_
   exact ⟨_,t+1,_,rfl,(by first|omega|exact X5q _),⟨by omega,by omega⟩,hW,hBV⟩
  have hc14b:=hc14
  have hc14:=of_decide_eq_false hc14
  refine wp_skip ?_
  refine hK12 _ _ ?_
  refine Zs hf fun _ hK16=>?_
  refine Zm rfl<|Ze (X2x rfl)<|Ze (Vd rfl X2n 2)<|Ze (X0 rfl X98 (hBV.at 2))<|Ze (Xjs (m:=40) rfl rfl rfl (by decide)) ?_
  refine Ze (Xk1 rfl rfl)<|Ze (Xnu Tryz.underlying78 Tryz.underlying3 rfl (Xby _))<|Za rfl ?_
  refine Zt hK16 fun a hf=>?_
  refine wp_ret (X2 hf (Xj hf rfl rfl) ?_)
  exact ⟨_,t+1,_,rfl,(by first|omega|exact X5q _),⟨by omega,by omega⟩,hW,hBV⟩
 have hc6b:=hc6
 have hc6:=of_decide_eq_false hc6
 refine wp_skip ?_
 refine hK4 _ _ ?_
 refine Zs hf fun _ hK17=>?_
 refine Zm rfl<|Ze (X2x rfl)<|Ze (Vd rfl X27 1)<|Ze (X0 rfl X3 (hBV.at 1))<|Ze (X0a rfl rfl (by omega) (by omega)) ?_
 refine Ze (X2x rfl)<|Ze (Vd rfl X27 1) ?_
 refine Zo (X3t (vs:=[vi ((t:Int)+1)]) (l':=[.slice Acd code.length ccd,vi ((t:Int)+1),.int .u64 sd]) rfl rfl X1a hBV rfl rfl rfl rfl rfl) ?_;rintro _ w6 ⟨ho,hb⟩
 have hold:=hBV
 replace hr_code:=hr_code.onlyA ho hav
 replace hW:=hW.self ho
 clear hold
 have hBV:=hb
 clear hb ho
 refine Zt hK17 fun a hf=>?_
 refine Zs hf fun _ hK18=>?_
 refine Zm rfl<|Zm rfl<|Ze (X2x rfl)<|Ze (Vd rfl X2n 2)<|Ze (X0 rfl X98 (hBV.at 2)) ?_
 refine Ze (Xjd rfl rfl)<|Zm rfl<|Ze (Xn5 Tryz.underlying3 Tryz.underlying78 rfl)<|Ze (Xbu rfl rfl)<|Ze (Xbu rfl rfl) ?_
 refine Ze (X2x rfl)<|Ze (Vd rfl X2n 2) ?_
 refine Zo (X3t (vs:=[.int .u64 (wu ((wu ((wu (sd*6364136223846793005))+(wu 0)))+1442695040888963407))]) (l':=[.slice Acd code.length ccd,vi ((t:Int)+1),.int .u64 (wu ((wu ((wu (sd*6364136223846793005))+(wu 0)))+1442695040888963407))]) rfl rfl Xfy hBV rfl rfl rfl rfl rfl) ?_;rintro _ w7 ⟨ho,hb⟩
 have hold:=hBV
 replace hr_code:=hr_code.onlyA ho hav
 replace hW:=hW.self ho
 clear hold
 have hBV:=hb
 clear hb ho
 refine Zt hK18 fun a hf=>?_
 refine wp_seq_k fun _ hK19=>?_
 refine wp_seq_k fun _ hK20=>?_
 refine X0h none (fun _=>false) mixed ?_
 intro w8 hE
 replace hBV:=hBV.below hE
 replace hr_code:=hr_code.below hE
 replace hW:=ktr hW hE
 refine Yb hf ?_
 refine Yo 0 rfl (fun _=>X8 rfl)<|Yo 1 rfl (fun _=>X2x rfl)<|Yo 2 rfl (fun _=>Vd rfl X27 1)<|Ye 3 rfl (X0 rfl X3 (hBV.at 1))<|Yo 4 rfl (fun _=>X8 rfl) ?_
 refine Yo 5 rfl (fun _=>X2x rfl)<|Yo 6 rfl (fun _=>Vd rfl X3y 0)<|Ye 7 rfl (X0 rfl X6f (hBV.at 0))<|Yo 8 rfl (fun _=>X14 rfl X46)<|Yo 9 rfl (fun _=>Xb3 rfl rfl) ?_
 refine Yd fun a hf=>?_
 refine hK20 _ _ ?_
 refine Xm hf rfl (fun hc21=>?_) (fun hc21=>?_)
 ·have hc21b:=hc21
  have hc21:=of_decide_eq_true hc21
  refine Zs hf fun _ hK22=>?_
  refine Zm rfl<|Za rfl ?_
  refine Zt hK22 fun a hf=>?_
  refine wp_ret ?_
  refine X7 ?_
  refine X2 hf (Xj hf rfl rfl) ?_
  exact ⟨_,t+1,_,rfl,(by first|omega|exact X5q _),⟨by omega,by omega⟩,hW,hBV⟩
 have hc21b:=hc21
 have hc21:=of_decide_eq_false hc21
 refine wp_skip ?_
 refine hK19 _ _ ?_
 refine Zs hf fun _ hK23=>?_
 refine Zm rfl<|Ze (X2x rfl)<|Ze (Vd rfl X2n 2)<|Ze (X0 rfl X98 (hBV.at 2))<|Ze (Xjs (m:=40) rfl rfl rfl (by decide)) ?_
 refine Ze (Xk1 rfl rfl)<|Ze (Xnu Tryz.underlying78 Tryz.underlying3 rfl (Xby _))<|Za rfl ?_
 refine Zt hK23 fun a hf=>?_
 refine wp_ret (X2 hf (Xj hf rfl rfl) ?_)
 exact ⟨_,t+1,_,rfl,(by first|omega|exact X5q _),⟨by omega,by omega⟩,hW,hBV⟩
theorem X2p(w0:World)(bV:Nat){Xcd:TypeId}(Acd:Option Addr)(ccd:Nat)(code:List Int)(hr_code:Rd w0 w0.heap.size Xcd encU Acd code)(hcd:∀ x ∈ code,0≤x∧x≤255)(hav:AwayR code Acd bV)(t:Nat)(sd:Int)(hBV:Blk w0 bV 80 [.slice Acd code.length ccd,vi (t:Int),.int .u64 sd])(n:Int)(ht:t+2≤100000000) : Ret Tryz.prog 46 [.pointer (some ⟨bV,0,none⟩),vi n] w0 (fun v w=>∃ (x:Int) (t1:Nat) (s1:Int),v=vi x∧(0≤x∧(x=0∨x<n))∧(t≤t1∧t1≤t+2)∧Kept bV w0.heap.size w0 w∧Blk w bV 80 [.slice Acd code.length ccd,vi (t1:Int),.int .u64 s1]):=by
 have hltV:=hBV.lt
 refine enter Tryz.func46 rfl 20 rfl rfl ?_
 intro a hf
 have hW:Kept bV w0.heap.size w0 w0:=Kept.refl _ _ _
 refine Zs hf fun _ hK2=>?_
 refine Za rfl ?_
 refine Zt hK2 fun a hf=>?_
 refine wp_seq_k fun _ hK3=>?_
 refine Zs hf fun _ hK4=>?_
 refine Zm rfl<|Ze (Xb3 rfl rfl) ?_
 refine Zt hK4 fun a hf=>?_
 refine Xm hf rfl (fun hc5=>?_) (fun hc5=>?_)
 ·have hc5b:=hc5
  have hc5:=of_decide_eq_true hc5
  have hn1:n≤1:=hc5
  refine Zs hf fun _ hK6=>?_
  refine Za rfl ?_
  refine Zt hK6 fun a hf=>?_
  refine wp_ret ?_
  refine X7 ?_
  refine X2 hf (Xj hf rfl rfl) ?_
  exact ⟨0,t,sd,rfl,⟨by omega,.inl rfl⟩,⟨by omega,by omega⟩,hW,hBV⟩
 have hc5b:=hc5
 have hc5:=of_decide_eq_false hc5
 have hn1:1<n:=by have:=hc5;omega
 refine wp_skip ?_
 refine hK3 _ _ ?_
 refine Zs hf fun _ hK7=>?_
 refine Zm rfl ?_
 refine Zf (Vc (Xjc _ bV Acd ccd code hr_code.top hcd hav t sd hBV (by omega)) Xct) ?_;rintro _ w1 ⟨xz9,tz9,sz9,rfl,hPz9,htz9,hK,hbn⟩
 obtain ⟨wm,hO,hm,hE⟩:=hK.mid;clear hm
 have hold:=hBV
 replace hr_code:=hr_code.onlyA hO hav
 replace hW:=hW.self hO
 replace hr_code:=hr_code.below hE
 replace hW:=ktr hW hE
 clear hold hE hO hK;replace hBV:=hbn;clear hbn
 refine Za rfl ?_
 refine Zt hK7 fun a hf=>?_
 refine wp_seq_k fun _ hK8=>?_
 refine Zs hf fun _ hK9=>?_
 refine Zm rfl<|Ze (X5r rfl rfl) ?_
 refine Zt hK9 fun a hf=>?_
 refine Xm hf rfl (fun hc10=>?_) (fun hc10=>?_)
 ·have hc10b:=hc10
  have hc10:=of_decide_eq_true hc10
  refine Zr hf ?_
  refine Zm rfl<|Ze (X89 rfl rfl (by omega) (by omega))<|Zm rfl ?_
  refine Zf (Vc (Xjc _ bV Acd ccd code hr_code.top hcd hav tz9 sz9 hBV (by omega)) Xct) ?_;rintro _ w2 ⟨xz15,tz15,sz15,rfl,hPz15,htz15,hK,hbn⟩
  obtain ⟨wm,hO,hm,hE⟩:=hK.mid;clear hm
  have hold:=hBV
  replace hr_code:=hr_code.onlyA hO hav
  replace hW:=hW.self hO
  replace hr_code:=hr_code.below hE
  replace hW:=ktr hW hE
  clear hold hE hO hK;replace hBV:=hbn;clear hbn
  refine Ze (X0a rfl rfl (by omega) (by omega))<|Za rfl ?_
  refine Zt hK8 fun a hf=>?_
  refine Zs hf fun _ hK11=>?_
  refine Zm rfl<|Zm rfl<|Ze (X6x rfl rfl (by simp;omega))<|Za rfl ?_
  refine Zt hK11 fun a hf=>?_
  refine wp_ret (X2 hf (Xj hf rfl rfl) ?_)
  exact ⟨_,_,_,rfl,pk (by omega) hn1,⟨by omega,by omega⟩,hW,hBV⟩
 have hc10b:=hc10
 have hc10:=of_decide_eq_false hc10
 refine wp_skip ?_
 refine hK8 _ _ ?_
 refine Zs hf fun _ hK12=>?_
 refine Zm rfl<|Zm rfl<|Ze (X6x rfl rfl (by simp;omega))<|Za rfl ?_
 refine Zt hK12 fun a hf=>?_
 refine wp_ret (X2 hf (Xj hf rfl rfl) ?_)
 exact ⟨_,_,_,rfl,pk (by omega) hn1,⟨by omega,by omega⟩,hW,hBV⟩
theorem Xjm(w0:World)(bV:Nat){Xcd:TypeId}(Acd:Option Addr)(ccd:Nat)(code:List Int)(hr_code:Rd w0 w0.heap.size Xcd encU Acd code)(hcd:∀ x ∈ code,0≤x∧x≤255)(hav:AwayR code Acd bV)(t:Nat)(sd:Int)(hBV:Blk w0 bV 80 [.slice Acd code.length ccd,vi (t:Int),.int .u64 sd])(n:Int)(ht:t+2≤100000000) : Ret Tryz.prog 47 [.pointer (some ⟨bV,0,none⟩),vi n] w0 (fun v w=>∃ (x:Bool) (t1:Nat) (s1:Int),v=.bool x∧(True)∧(t≤t1∧t1≤t+2)∧Kept bV w0.heap.size w0 w∧Blk w bV 80 [.slice Acd code.length ccd,vi (t1:Int),.int .u64 s1]):=by
 have hltV:=hBV.lt
 refine enter Tryz.func47 rfl 9 rfl rfl ?_
 intro a hf
 have hW:Kept bV w0.heap.size w0 w0:=Kept.refl _ _ _
 refine Zs hf fun _ hK2=>?_
 refine Za rfl ?_
 refine Zt hK2 fun a hf=>?_
 refine Zs hf fun _ hK3=>?_
 refine Zm rfl<|Zm rfl ?_
 refine Zf (Vc (X2p _ bV Acd ccd code hr_code.top hcd hav t sd hBV n (by omega)) X1l) ?_;rintro _ w1 ⟨xz7,tz7,sz7,rfl,hPz7,htz7,hK,hbn⟩
 obtain ⟨wm,hO,hm,hE⟩:=hK.mid;clear hm
 have hold:=hBV
 replace hr_code:=hr_code.onlyA hO hav
 replace hW:=hW.self hO
 replace hr_code:=hr_code.below hE
 replace hW:=ktr hW hE
 clear hold hE hO hK;replace hBV:=hbn;clear hbn
 refine Ze (X0n rfl rfl)<|Za rfl ?_
 refine Zt hK3 fun a hf=>?_
 refine wp_ret (X2 hf (Xj hf rfl rfl) ?_)
 exact ⟨_,_,_,rfl,trivial,⟨by omega,by omega⟩,hW,hBV⟩
theorem Xc5(w0:World)(bV:Nat){Xcd:TypeId}(Acd:Option Addr)(ccd:Nat)(code:List Int)(hr_code:Rd w0 w0.heap.size Xcd encU Acd code)(hcd:∀ x ∈ code,0≤x∧x≤255)(hav:AwayR code Acd bV)(t:Nat)(sd:Int)(hBV:Blk w0 bV 80 [.slice Acd code.length ccd,vi (t:Int),.int .u64 sd])(Al:Option Addr)(cl:Nat)(l:List Int)(hr_l:Rd w0 w0.heap.size 3 encI Al l)(hl0:0<l.length)(hln:l.length≤1000)(ht:t+2≤100000000) : Ret Tryz.prog 109 [.pointer (some ⟨bV,0,none⟩),.slice Al l.length cl] w0 (fun v w=>∃ (x:Int) (t1:Nat) (s1:Int),v=vi x∧(x ∈ l)∧(t≤t1∧t1≤t+2)∧Kept bV w0.heap.size w0 w∧Blk w bV 80 [.slice Acd code.length ccd,vi (t1:Int),.int .u64 s1]):=by
 have hltV:=hBV.lt
 refine enter Tryz.func109 rfl 12 rfl rfl ?_
 intro a hf
 have hW:Kept bV w0.heap.size w0 w0:=Kept.refl _ _ _
 refine Zs hf fun _ hK3=>?_
 refine Za rfl ?_
 refine Zt hK3 fun a hf=>?_
 refine Zs hf fun _ hK4=>?_
 refine Zm rfl<|Zm rfl<|Zm rfl<|Ze (X14 rfl X03) ?_
 refine Zf (Vc (X2p _ bV Acd ccd code hr_code.top hcd hav t sd hBV (l.length:Int) (by omega)) X1l) ?_;rintro _ w1 ⟨xz9,tz9,sz9,rfl,hPz9,htz9,hK,hbn⟩
 obtain ⟨wm,hO,hm,hE⟩:=hK.mid;clear hm
 have hold:=hBV
 replace hr_code:=hr_code.onlyA hO hav
 replace hr_l:=hr_l.onlyT hO hold rfl
 replace hW:=hW.self hO
 replace hr_code:=hr_code.below hE
 replace hr_l:=hr_l.below hE
 replace hW:=ktr hW hE
 clear hold hE hO hK;replace hBV:=hbn;clear hbn
 refine Zi (k:=xz9.toNat) (u:=(l.getD xz9.toNat 0)) (enc:=encI) (l:=l) trivial rfl rfl X03 X1a Xp hr_l (X2b (by omega)) (by omega) ?_;intro p6 hat5
 refine Ze (X0 rfl X3 hat5)<|Za rfl ?_
 refine Zt hK4 fun a hf=>?_
 refine wp_ret (X2 hf (Xj hf rfl rfl) ?_)
 exact ⟨_,_,_,rfl,Xdx (by omega),⟨by omega,by omega⟩,hW,hBV⟩
theorem X9t(w0:World)(bV:Nat){Xcd:TypeId}(Acd:Option Addr)(ccd:Nat)(code:List Int)(hr_code:Rd w0 w0.heap.size Xcd encU Acd code)(hcd:∀ x ∈ code,0≤x∧x≤255)(hav:AwayR code Acd bV)(t:Nat)(sd:Int)(hBV:Blk w0 bV 80 [.slice Acd code.length ccd,vi (t:Int),.int .u64 sd])(n:Int)(Al:Option Addr)(cl:Nat)(l:List Int)(hr_l:Rd w0 w0.heap.size 3 encI Al l)(hn:1≤n∧n≤100)(hl0:0<l.length)(hln:l.length≤1000)(ht:t+6≤100000000) : Ret Tryz.prog 49 [.pointer (some ⟨bV,0,none⟩),vi n,.slice Al l.length cl] w0 (fun v w=>∃ (x:Gt) (t1:Nat) (s1:Int),v=gV x∧(True)∧(t≤t1∧t1≤t+6)∧Kept bV w0.heap.size w0 w∧Blk w bV 80 [.slice Acd code.length ccd,vi (t1:Int),.int .u64 s1]):=by
 have hltV:=hBV.lt
 refine enter Tryz.func49 rfl 42 rfl rfl ?_
 intro a hf
 have hW:Kept bV w0.heap.size w0 w0:=Kept.refl _ _ _
 refine Zs hf fun _ hK3=>?_
 refine Zf (X6 (zs:=[vi 0,vi 0,vi 0]) X2h rfl) ?_;rintro _ w1 ⟨b4,rfl,hl4,hE,hB4⟩
 have hlo4:=Nat.le_trans hW.size hl4
 have haw1_4:=hr_code.away hl4
 replace hBV:=hBV.below hE
 replace hr_code:=hr_code.below hE
 replace hr_l:=hr_l.below hE
 replace hW:=ktr hW hE
 refine Zt hK3 fun a hf=>?_
 refine Zs hf fun _ hK5=>?_
 refine Zm rfl<|Zm rfl<|Zm rfl<|Ze (X14 rfl X03) ?_
 refine Zf (Vc (X2p _ bV Acd ccd code hr_code.top hcd hav t sd hBV (l.length:Int) (by omega)) X1l) ?_;rintro _ w2 ⟨xz12,tz12,sz12,rfl,hPz12,htz12,hK,hbn⟩
 obtain ⟨wm,hO,hm,hE⟩:=hK.mid;clear hm
 have hold:=hBV
 replace hB4:=hB4.only hO (Blk.ne hB4 hold rfl)
 replace hr_code:=hr_code.onlyA hO hav
 replace hr_l:=hr_l.onlyT hO hold rfl
 replace hW:=hW.self hO
 replace hB4:=hB4.below hE
 replace hr_code:=hr_code.below hE
 replace hr_l:=hr_l.below hE
 replace hW:=ktr hW hE
 clear hold hE hO hK;replace hBV:=hbn;clear hbn
 refine Zi (k:=xz12.toNat) (u:=(l.getD xz12.toNat 0)) (enc:=encI) (l:=l) trivial rfl rfl X03 X1a Xp hr_l (X2b (by omega)) (by omega) ?_;intro p7 hat6
 refine Ze (X0 rfl X3 hat6)<|Ze (Xt (ps:=[(0,vi (l.getD xz12.toNat 0))]) (cs:=[vi (l.getD xz12.toNat 0),vi 0,vi 0]) rfl (fun _=>by first|rfl|kernel_rfl)) ?_
 refine Zf (X6 (zs:=[vi 0,vi 0,vi 0]) X2h rfl) ?_;rintro _ w3 ⟨b8,rfl,hl8,hE,hB8⟩
 have hne4_8:b4≠b8:=by have:=hB4.lt;omega
 have hlo8:=Nat.le_trans hW.size hl8
 have haw1_8:=hr_code.away hl8
 replace hBV:=hBV.below hE
 replace hB4:=hB4.below hE
 replace hr_code:=hr_code.below hE
 replace hr_l:=hr_l.below hE
 replace hW:=ktr hW hE
 refine Zo (Vw [vi (l.getD xz12.toNat 0),vi 0,vi 0] X0o hB8) ?_;rintro _ w4 ⟨ho,hb⟩
 have hold:=hB8
 replace hBV:=hBV.only ho (Blk.ne hBV hold rfl)
 replace hB4:=hB4.only ho (by omega)
 replace hr_code:=hr_code.only ho hlo8
 replace hr_l:=hr_l.onlyT ho hold rfl
 replace hW:=Kept.only hW ho hlo8
 clear hold
 have hB8:=hb
 clear hb ho
 refine Zt hK5 fun a hf=>?_
 refine wp_seq_k fun _ hK9=>?_
 refine Zs hf fun _ hK10=>?_
 refine Ze (Vd rfl X0e 0)<|Ze (X0 rfl X3 (hB8.at 0))<|Ze (X0n rfl rfl) ?_
 refine Zt hK10 fun a hf=>?_
 refine Xm hf rfl (fun hc11=>?_) (fun hc11=>?_)
 ·have hc11b:=hc11
  refine Zs hf fun _ hK12=>?_
  refine Ze (Vn Xo hB8) ?_
  refine Zo (Vw [vi (l.getD xz12.toNat 0),vi 0,vi 0] X0o hB4) ?_;rintro _ w5 ⟨ho,hb⟩
  have hold:=hB4
  replace hBV:=hBV.only ho (Blk.ne hBV hold rfl)
  replace hB8:=hB8.only ho (by omega)
  replace hr_code:=hr_code.only ho hlo4
  replace hW:=Kept.only hW ho hlo4
  clear hold
  have hB4:=hb
  clear hb ho
  refine Zt hK12 fun a hf=>?_
  refine wp_ret ?_
  refine X7 ?_
  refine X2 hf (Xj hf rfl (ResV.cellN (l:=[vi (l.getD xz12.toNat 0),vi 0,vi 0]) rfl Xo (hB4.at 0) rfl)) ?_
  exact ⟨⟨_,_,_⟩,_,_,rfl,trivial,⟨by omega,by omega⟩,hW,hBV⟩
 have hc11b:=hc11
 refine wp_skip ?_
 refine hK9 _ _ ?_
 refine Zs hf fun _ hK13=>?_
 refine Zm rfl<|Zm rfl ?_
 refine Zf (Vc (X2p _ bV Acd ccd code hr_code.top hcd hav tz12 sz12 hBV n (by omega)) X1l) ?_;rintro _ w6 ⟨xz22,tz22,sz22,rfl,hPz22,htz22,hK,hbn⟩
 obtain ⟨wm,hO,hm,hE⟩:=hK.mid;clear hm
 have hold:=hBV
 replace hB4:=hB4.only hO (Blk.ne hB4 hold rfl)
 replace hB8:=hB8.only hO (Blk.ne hB8 hold rfl)
 replace hr_code:=hr_code.onlyA hO hav
 replace hW:=hW.self hO
 replace hB4:=hB4.below hE
 replace hB8:=hB8.below hE
 replace hr_code:=hr_code.below hE
 replace hW:=ktr hW hE
 clear hold hE hO hK;replace hBV:=hbn;clear hbn
 refine Ze (Vd rfl X0d 1) ?_
 refine Zo (Vu (vs:=[vi xz22]) (l':=[vi (l.getD xz12.toNat 0),vi xz22,vi 0]) rfl rfl X1a hB8) ?_;rintro _ w7 ⟨ho,hb⟩
 have hold:=hB8
 replace hBV:=hBV.only ho (Blk.ne hBV hold rfl)
 replace hB4:=hB4.only ho (by omega)
 replace hr_code:=hr_code.only ho hlo8
 replace hW:=Kept.only hW ho hlo8
 clear hold
 have hB8:=hb
 clear hb ho
 refine Zt hK13 fun a hf=>?_
 refine wp_seq_k fun _ hK14=>?_
 refine Zs hf fun _ hK15=>?_
 refine Ze (Vd rfl X0e 0)<|Ze (X0 rfl X3 (hB8.at 0)) ?_
 refine Zf (Vc (F85 _ (l.getD xz12.toNat 0) 9 11) X4z) ?_;rintro _ _ ⟨rfl,rfl⟩
 refine Zt hK15 fun a hf=>?_
 refine Xm hf rfl (fun hc16=>?_) (fun hc16=>?_)
 ·have hc16b:=hc16
  refine wp_seq_k fun _ hK17=>?_
  refine Zs hf fun _ hK18=>?_
  refine Zm rfl<|Ze (X0n rfl rfl) ?_
  refine Zt hK18 fun a hf=>?_
  refine Xm hf rfl (fun hc19=>?_) (fun hc19=>?_)
  ·have hc19b:=hc19
   refine Zs hf fun _ hK20=>?_
   refine Ze (Xt (ps:=[(0,vi 1)]) (cs:=[vi 1,vi 0,vi 0]) rfl (fun _=>by first|rfl|kernel_rfl)) ?_
   refine Zo (Vw [vi 1,vi 0,vi 0] X0o hB4) ?_;rintro _ w8 ⟨ho,hb⟩
   have hold:=hB4
   replace hBV:=hBV.only ho (Blk.ne hBV hold rfl)
   replace hB8:=hB8.only ho (by omega)
   replace hr_code:=hr_code.only ho hlo4
   replace hW:=Kept.only hW ho hlo4
   clear hold
   have hB4:=hb
   clear hb ho
   refine Zt hK20 fun a hf=>?_
   refine wp_ret ?_
   refine X7 ?_
   refine X7 ?_
   refine X2 hf (Xj hf rfl (ResV.cellN (l:=[vi 1,vi 0,vi 0]) rfl Xo (hB4.at 0) rfl)) ?_
   exact ⟨⟨_,_,_⟩,_,_,rfl,trivial,⟨by omega,by omega⟩,hW,hBV⟩
  have hc19b:=hc19
  refine wp_skip ?_
  refine hK17 _ _ ?_
  refine X0h (some bV) (fun j=>[11].contains j) mixed ?_
  intro w9 hE
  replace hBV:=hBV.below hE
  replace hB4:=hB4.below hE
  replace hB8:=hB8.below hE
  replace hr_code:=hr_code.below hE
  replace hW:=ktr hW hE
  refine Yb hf ?_
  refine Yo 0 rfl (fun _=>Vd rfl X0d 1) ?_
  refine Yw 1 rfl trivial (fun w1 h1=>X0 rfl X3 ((hB8.only h1 (Blk.ne hB8 hBV rfl)).at 1)) ?_
  refine Yo 2 rfl (fun _=>X0a rfl rfl (by omega) (by omega))<|Yo 3 rfl (fun _=>X8 rfl)<|Yo 4 rfl (fun _=>X8 rfl)<|Yo 5 rfl (fun _=>X1d rfl rfl (by omega) (by omega))<|Yo 8 rfl (fun _=>X8 rfl) ?_
  refine Y1 6 ?_
  refine Yf rfl trivial (EfW.mono (Vc (X2p _ bV Acd ccd code hr_code.top hcd hav tz22 sz22 hBV (n-1) (by omega)) X1l) (fun _ _ h=>⟨fun _=>by obtain ⟨xz36,tz36,sz36,rfl,hPz36,htz36,hK,hbn⟩:=h;exact hK.keep,h⟩)) ?_;rintro _ w10 ⟨xz36,tz36,sz36,rfl,hPz36,htz36,hK,hbn⟩
  obtain ⟨wm,hO,hm,hE⟩:=hK.mid;clear hm
  have hold:=hBV
  replace hB4:=hB4.only hO (Blk.ne hB4 hold rfl)
  replace hB8:=hB8.only hO (Blk.ne hB8 hold rfl)
  replace hr_code:=hr_code.onlyA hO hav
  replace hW:=hW.self hO
  replace hB4:=hB4.below hE
  replace hB8:=hB8.below hE
  replace hr_code:=hr_code.below hE
  replace hW:=ktr hW hE
  clear hold hE hO hK;replace hBV:=hbn;clear hbn
  refine Yo 7 rfl (fun _=>X0a rfl rfl (by omega) (by omega))<|Yo 9 rfl (fun _=>X6x rfl rfl (by simp;omega))<|Yo 10 rfl (fun _=>Vd rfl X0r 2) ?_
  refine Y1 11 ?_
  refine Yh rfl trivial rfl (Vu (vs:=[vi (((xz22+1)+xz36).tmod n)]) (l':=[vi (l.getD xz12.toNat 0),vi xz22,vi (((xz22+1)+xz36).tmod n)]) rfl rfl X1a hB8) ?_;rintro _ w11 ⟨ho,hb⟩
  have hold:=hB8
  replace hBV:=hBV.only ho (Blk.ne hBV hold rfl)
  replace hB4:=hB4.only ho (by omega)
  replace hr_code:=hr_code.only ho hlo8
  replace hW:=Kept.only hW ho hlo8
  clear hold
  have hB8:=hb
  clear hb ho
  refine Yd fun a hf=>?_
  refine hK14 _ _ ?_
  refine Zs hf fun _ hK21=>?_
  refine Ze (Vn Xo hB8) ?_
  refine Zo (Vw [vi (l.getD xz12.toNat 0),vi xz22,vi (((xz22+1)+xz36).tmod n)] X0o hB4) ?_;rintro _ w12 ⟨ho,hb⟩
  have hold:=hB4
  replace hBV:=hBV.only ho (Blk.ne hBV hold rfl)
  replace hB8:=hB8.only ho (by omega)
  replace hW:=Kept.only hW ho hlo4
  clear hold
  have hB4:=hb
  clear hb ho
  refine Zt hK21 fun a hf=>?_
  refine wp_ret (X2 hf (Xj hf rfl (ResV.cellN (l:=[vi (l.getD xz12.toNat 0),vi xz22,vi (((xz22+1)+xz36).tmod n)]) rfl Xo (hB4.at 0) rfl)) ?_)
  exact ⟨⟨_,_,_⟩,_,_,rfl,trivial,⟨by omega,by omega⟩,hW,hBV⟩
 have hc16b:=hc16
 refine wp_skip ?_
 refine hK14 _ _ ?_
 refine Zs hf fun _ hK22=>?_
 refine Ze (Vn Xo hB8) ?_
 refine Zo (Vw [vi (l.getD xz12.toNat 0),vi xz22,vi 0] X0o hB4) ?_;rintro _ w13 ⟨ho,hb⟩
 have hold:=hB4
 replace hBV:=hBV.only ho (Blk.ne hBV hold rfl)
 replace hB8:=hB8.only ho (by omega)
 replace hr_code:=hr_code.only ho hlo4
 replace hW:=Kept.only hW ho hlo4
 clear hold
 have hB4:=hb
 clear hb ho
 refine Zt hK22 fun a hf=>?_
 refine wp_ret (X2 hf (Xj hf rfl (ResV.cellN (l:=[vi (l.getD xz12.toNat 0),vi xz22,vi 0]) rfl Xo (hB4.at 0) rfl)) ?_)
 exact ⟨⟨_,_,_⟩,_,_,rfl,trivial,⟨by omega,by omega⟩,hW,hBV⟩
end Go.Proofs.YtlfjcmldfbfdbaaGreat
set_option maxRecDepth 4000
namespace Go.Proofs.YtlfjcmldfbfdbaaGreat
open Go.RowKit
theorem Xjj(w0:World)(bV:Nat){Xcd:TypeId}(Acd:Option Addr)(ccd:Nat)(code:List Int)(hr_code:Rd w0 w0.heap.size Xcd encU Acd code)(hcd:∀ x ∈ code,0≤x∧x≤255)(hav:AwayR code Acd bV)(t:Nat)(sd:Int)(hBV:Blk w0 bV 80 [.slice Acd code.length ccd,vi (t:Int),.int .u64 sd])(n:Int)(most:Int)(Al:Option Addr)(cl:Nat)(l:List Int)(hr_l:Rd w0 w0.heap.size 3 encI Al l)(hn:1≤n∧n≤100)(hm:0≤most∧most≤1000)(hl0:0<l.length)(hln:l.length≤1000)(ht:t+(2+6*most.toNat)≤100000000) : Ret Tryz.prog 153 [.pointer (some ⟨bV,0,none⟩),vi n,vi most,.slice Al l.length cl] w0 (fun v w=>∃ (c:Cx) (A:Option Addr) (e:Nat) (t1:Nat) (s1:Int),v=.agg #[vi c.n,.slice A c.gs.length e]∧(c.n=n∧(c.gs.length:Int)≤most)∧(t≤t1∧t1≤t+(2+6*most.toNat))∧Own w w0.heap.size 24 3 encG A e c.gs∧Kept bV w0.heap.size w0 w∧Blk w bV 80 [.slice Acd code.length ccd,vi (t1:Int),.int .u64 s1]):=by
 have hltV:=hBV.lt
 refine enter Tryz.func153 rfl 31 rfl rfl ?_
 intro a hf
 have hW:Kept bV w0.heap.size w0 w0:=Kept.refl _ _ _
 refine Zs hf fun _ hK3=>?_
 refine Zf (X6 (zs:=[vi 0,.slice none 0 0]) X92 rfl) ?_;rintro _ w1 ⟨b5,rfl,hl5,hE,hB5⟩
 have hlo5:=Nat.le_trans hW.size hl5
 have haw1_5:=hr_code.away hl5
 replace hBV:=hBV.below hE
 replace hr_code:=hr_code.below hE
 replace hr_l:=hr_l.below hE
 replace hW:=ktr hW hE
 refine Zt hK3 fun a hf=>?_
 refine Zs hf fun _ hK6=>?_
 refine Zm rfl<|Ze (Xt (ps:=[(0,vi n)]) (cs:=[vi n,.slice none 0 0]) rfl (fun _=>by first|rfl|kernel_rfl)) ?_
 refine Zf (X6 (zs:=[vi 0,.slice none 0 0]) X92 rfl) ?_;rintro _ w2 ⟨b9,rfl,hl9,hE,hB9⟩
 have hne5_9:b5≠b9:=by have:=hB5.lt;omega
 have hlo9:=Nat.le_trans hW.size hl9
 have haw1_9:=hr_code.away hl9
 replace hBV:=hBV.below hE
 replace hB5:=hB5.below hE
 replace hr_code:=hr_code.below hE
 replace hr_l:=hr_l.below hE
 replace hW:=ktr hW hE
 refine Zo (Vw [vi n,.slice none 0 0] X3g hB9) ?_;rintro _ w3 ⟨ho,hb⟩
 have hold:=hB9
 replace hBV:=hBV.only ho (Blk.ne hBV hold rfl)
 replace hB5:=hB5.only ho (by omega)
 replace hr_code:=hr_code.only ho hlo9
 replace hr_l:=hr_l.onlyT ho hold rfl
 replace hW:=Kept.only hW ho hlo9
 clear hold
 have hB9:=hb
 clear hb ho
 refine Zt hK6 fun a hf=>?_
 refine wp_seq_k fun _ hK10=>?_
 refine Zs hf fun _ hK11=>?_
 refine Zm rfl<|Zm rfl<|Ze (X0a rfl rfl (by omega) (by omega)) ?_
 refine Zf (Vc (X2p _ bV Acd ccd code hr_code.top hcd hav t sd hBV (most+1) (by omega)) X1l) ?_;rintro _ w4 ⟨xz16,tz16,sz16,rfl,hPz16,htz16,hK,hbn⟩
 obtain ⟨wm,hO,hm,hE⟩:=hK.mid;clear hm
 have hold:=hBV
 replace hB5:=hB5.only hO (Blk.ne hB5 hold rfl)
 replace hB9:=hB9.only hO (Blk.ne hB9 hold rfl)
 replace hr_code:=hr_code.onlyA hO hav
 replace hr_l:=hr_l.onlyT hO hold rfl
 replace hW:=hW.self hO
 replace hB5:=hB5.below hE
 replace hB9:=hB9.below hE
 replace hr_code:=hr_code.below hE
 replace hr_l:=hr_l.below hE
 replace hW:=ktr hW hE
 clear hold hE hO hK;replace hBV:=hbn;clear hbn
 refine Za rfl ?_
 refine Zt hK11 fun a hf=>?_
 refine wp_block ?_
 refine X0c (σ:=Int×(List Gt)×Nat×Int) (fun (s:Int×(List Gt)×Nat×Int) (a:Act) (w:World)=>match s with|(j,gs,t2,s2)=>∃ A12 c12,Fr a 31 [(0,.pointer (some ⟨bV,0,none⟩)),(1,vi n),(3,.slice Al l.length cl),(8,.pointer (some ⟨b5,0,none⟩)),(9,.pointer (some ⟨b9,0,none⟩)),(10,vi j)]∧(0≤j∧j+gs.length≤most)∧(t≤t2∧t2+6*j.toNat≤t+(2+6*most.toNat))∧Blk w bV 80 [.slice Acd code.length ccd,vi (t2:Int),.int .u64 s2]∧Blk w b5 31 [vi 0,.slice none 0 0]∧Blk w b9 31 [vi n,.slice A12 gs.length c12]∧Rd w w0.heap.size Xcd encU Acd code∧Rd w w0.heap.size 3 encI Al l∧Own w w0.heap.size 24 3 encG A12 c12 gs∧Kept bV w0.heap.size w0 w) (fun (s:Int×(List Gt)×Nat×Int)=>match s with|(j,gs,t2,s2)=>j.toNat) (xz16,[],tz16,sz16) ?_ ?_
 ·exact ⟨none,0,hf.sub ⟨rfl,rfl,rfl,rfl,rfl,rfl,trivial⟩,(by simp;omega),(by omega),hBV,hB5,hB9,hr_code,hr_l,(Own.nil _ _ _ _ _),hW⟩
 rintro ⟨j,gs,t2,s2⟩ a w5 ⟨A12,c12,hf,hj,htt,hBV,hB5,hB9,hr_code,hr_l,ho12,hW⟩
 refine wp_seq_k fun _ hK13=>?_
 refine Zs hf fun _ hK14=>?_
 refine Zm rfl<|Ze (X5r rfl rfl) ?_
 refine Zt hK14 fun a hf=>?_
 refine Xm hf rfl (fun hc15=>?_) (fun hc15=>?_)
 ·have hc15b:=hc15
  have hc15:=of_decide_eq_true hc15
  refine wp_skip ?_
  refine hK13 _ _ ?_
  refine wp_seq_k fun _ hK16=>?_
  refine wp_block ?_
  refine X0h (some bV) (fun j=>[7,9].contains j) mixed ?_
  intro w6 hE
  replace hBV:=hBV.below hE
  replace hB5:=hB5.below hE
  replace hB9:=hB9.below hE
  replace hr_code:=hr_code.below hE
  replace hr_l:=hr_l.below hE
  replace ho12:=ho12.below hE
  replace hW:=ktr hW hE
  refine Yb hf ?_
  refine Yo 0 rfl (fun _=>Vd rfl X1f 1) ?_
  refine Yw 1 rfl trivial (fun w1 h1=>X0 rfl X2t ((hB9.only h1 (Blk.ne hB9 hBV rfl)).at 1)) ?_
  refine Yo 2 rfl (fun _=>X8 rfl)<|Yo 3 rfl (fun _=>X8 rfl)<|Yo 4 rfl (fun _=>X8 rfl) ?_
  refine Y1 5 ?_
  refine Yf rfl trivial (EfW.mono (Vc (X9t _ bV Acd ccd code hr_code.top hcd hav t2 s2 hBV n Al cl l hr_l.top hn hl0 hln (by omega)) X4u) (fun _ _ h=>⟨fun _=>by obtain ⟨xz26,tz26,sz26,rfl,hPz26,htz26,hK,hbn⟩:=h;exact hK.keep,h⟩)) ?_;rintro _ w7 ⟨xz26,tz26,sz26,rfl,hPz26,htz26,hK,hbn⟩
  obtain ⟨wm,hO,hm,hE⟩:=hK.mid;clear hm
  have hold:=hBV
  replace hB5:=hB5.only hO (Blk.ne hB5 hold rfl)
  replace hB9:=hB9.only hO (Blk.ne hB9 hold rfl)
  replace hr_code:=hr_code.onlyA hO hav
  replace hr_l:=hr_l.onlyT hO hold rfl
  replace ho12:=ho12.onlyT hO hold rfl
  replace hW:=hW.self hO
  replace hB5:=hB5.below hE
  replace hB9:=hB9.below hE
  replace hr_code:=hr_code.below hE
  replace hr_l:=hr_l.below hE
  replace ho12:=ho12.below hE
  replace hW:=ktr hW hE
  clear hold hE hO hK;replace hBV:=hbn;clear hbn
  refine Y1 6 ?_
  refine Yf rfl trivial (EfW.mono (Xd (k:=1) (vs:=[.agg #[vi xz26.k,vi xz26.a,vi xz26.b]]) (zs:=[vi xz26.k,vi xz26.a,vi xz26.b]) rfl X0w X1p rfl rfl) (fun _ _ h=>⟨fun _=>by obtain ⟨_,_,_,hE,_⟩:=h;exact Keep.of_below hE,h⟩)) ?_;rintro _ w8 ⟨b17,rfl,hl17,hE,hB17⟩
  have hlo17:=Nat.le_trans hW.size hl17
  have haw1_17:=hr_code.away hl17
  have haw12_17:=ho12.away hl17
  replace hBV:=hBV.below hE
  replace hB5:=hB5.below hE
  replace hB9:=hB9.below hE
  replace hr_code:=hr_code.below hE
  replace hr_l:=hr_l.below hE
  replace ho12:=ho12.below hE
  replace hW:=ktr hW hE
  refine Y1 7 ?_
  refine Yt rfl trivial rfl (X1e (enc:=encG) (l:=(gs)) (l2:=([xz26])) (B0:=w0.heap.size) rfl rfl X0w X1p X11 X3q ho12 (Rd.of_blk hB17 rfl _ hB17.lt) (by simp only [maxLen];simp;omega) (by simp;omega) hW.size) ?_;rintro _ w9 ⟨A19,c19,rfl,ho19,hg,hat⟩
  have hown:Own _ w0.heap.size 24 3 encG _ _ (gs):=ho12
  have haw19_17:=hat _ hB17.lt haw12_17
  clear hat
  replace hBV:=hBV.appT hown hg rfl
  replace hB5:=hB5.appT hown hg rfl
  replace hB9:=hB9.appT hown hg rfl
  replace hr_code:=hr_code.appB hown hg (Nat.le_refl _)
  replace hr_l:=hr_l.appT hown hg rfl
  replace hW:=Kept.app hW hown hg (Nat.le_refl _) hW.size
  clear hown hg
  refine Yo 8 rfl (fun _=>Vd rfl X1f 1) ?_
  refine Y1 9 ?_
  refine Yh rfl trivial rfl (Vu (vs:=[.slice A19 (gs++([xz26])).length c19]) (l':=[vi n,.slice A19 (gs++([xz26])).length c19]) rfl rfl Xjp hB9) ?_;rintro _ w10 ⟨ho,hb⟩
  have hold:=hB9
  replace hBV:=hBV.only ho (Blk.ne hBV hold rfl)
  replace hB5:=hB5.only ho (by omega)
  replace hr_code:=hr_code.only ho hlo9
  replace hr_l:=hr_l.onlyT ho hold rfl
  replace ho19:=ho19.onlyT ho hold rfl
  replace hW:=Kept.only hW ho hlo9
  clear hold
  have hB9:=hb
  clear hb ho
  refine Yd fun a hf=>?_
  refine Xr ?_
  refine hK16 _ _ ?_
  refine Zr hf ?_
  refine Zm rfl<|Ze (X1d rfl rfl (by omega) (by omega))<|Za rfl ?_
  refine Zn fun a hf=>?_
  refine Xz ?_
  exact ⟨(j-1,gs++[xz26],tz26,sz26),⟨A19,c19,hf.sub ⟨rfl,rfl,rfl,rfl,rfl,rfl,trivial⟩,(by simp;omega),(by omega),hBV,hB5,hB9,hr_code,hr_l,ho19,hW⟩,(by first|omega|(dsimp only;omega))⟩
 have hc15b:=hc15
 have hc15:=of_decide_eq_false hc15
 refine wp_exit ?_
 refine Xu ?_
 refine Xu ?_
 refine X0f ?_
 refine hK10 _ _ ?_
 refine Zs hf fun _ hK20=>?_
 refine Ze (Vn X1k hB9) ?_
 refine Zo (Vw [vi n,.slice A12 gs.length c12] X3g hB5) ?_;rintro _ w11 ⟨ho,hb⟩
 have hold:=hB5
 replace hBV:=hBV.only ho (Blk.ne hBV hold rfl)
 replace hB9:=hB9.only ho (by omega)
 replace hr_code:=hr_code.only ho hlo5
 replace hr_l:=hr_l.onlyT ho hold rfl
 replace ho12:=ho12.onlyT ho hold rfl
 replace hW:=Kept.only hW ho hlo5
 clear hold
 have hB5:=hb
 clear hb ho
 refine Zt hK20 fun a hf=>?_
 refine wp_ret (X2 hf (Xj hf rfl (ResV.cellN (l:=[vi n,.slice A12 gs.length c12]) rfl X1k (hB5.at 0) rfl)) ?_)
 exact ⟨⟨n,gs⟩,A12,c12,_,_,rfl,⟨rfl,by show (gs.length:Int)≤most;omega⟩,⟨by omega,by omega⟩,ho12,hW,hBV⟩
theorem Xoa(w0:World)(bV:Nat){Xcd:TypeId}(Acd:Option Addr)(ccd:Nat)(code:List Int)(hr_code:Rd w0 w0.heap.size Xcd encU Acd code)(hcd:∀ x ∈ code,0≤x∧x≤255)(hav:AwayR code Acd bV)(t:Nat)(sd:Int)(hBV:Blk w0 bV 80 [.slice Acd code.length ccd,vi (t:Int),.int .u64 sd])(ht:t+52≤100000000) : Ret Tryz.prog 152 [.pointer (some ⟨bV,0,none⟩)] w0 (fun v w=>∃ (c:Cx) (A:Option Addr) (e:Nat) (t1:Nat) (s1:Int),v=.agg #[vi c.n,.slice A c.gs.length e]∧((1≤c.n∧c.n≤3)∧c.gs.length≤8)∧(t≤t1∧t1≤t+52)∧Own w w0.heap.size 24 3 encG A e c.gs∧Kept bV w0.heap.size w0 w∧Blk w bV 80 [.slice Acd code.length ccd,vi (t1:Int),.int .u64 s1]):=by
 have hltV:=hBV.lt
 refine enter Tryz.func152 rfl 9 rfl rfl ?_
 intro a hf
 have hW:Kept bV w0.heap.size w0 w0:=Kept.refl _ _ _
 refine Zs hf fun _ hK2=>?_
 refine Zf (X6 (zs:=[vi 0,.slice none 0 0]) X92 rfl) ?_;rintro _ w1 ⟨b4,rfl,hl4,hE,hB4⟩
 have hlo4:=Nat.le_trans hW.size hl4
 have haw1_4:=hr_code.away hl4
 replace hBV:=hBV.below hE
 replace hr_code:=hr_code.below hE
 replace hW:=ktr hW hE
 refine Zt hK2 fun a hf=>?_
 refine Zs hf fun _ hK5=>?_
 refine Zm rfl<|Zm rfl ?_
 refine Zf (Xd (k:=4) (vs:=[vi 1,vi 2,vi 2,vi 3]) (zs:=[vi 1,vi 2,vi 2,vi 3]) rfl X03 X18 rfl rfl) ?_;rintro _ w2 ⟨b6,rfl,hl6,hE,hB6⟩
 have hlo6:=Nat.le_trans hW.size hl6
 have haw1_6:=hr_code.away hl6
 replace hBV:=hBV.below hE
 replace hB4:=hB4.below hE
 replace hr_code:=hr_code.below hE
 replace hW:=ktr hW hE
 refine Zf (Vc (Xc5 _ bV Acd ccd code hr_code.top hcd hav t sd hBV (some ⟨b6,0,none⟩) 4 ([1,2,2,3]) (Rd.of_blk hB6 rfl _ hB6.lt) (by simp) (by simp) (by omega)) X6l) ?_;rintro _ w3 ⟨xz6,tz6,sz6,rfl,hPz6,htz6,hK,hbn⟩
 obtain ⟨wm,hO,hm,hE⟩:=hK.mid;clear hm
 have hold:=hBV
 replace hB4:=hB4.only hO (Blk.ne hB4 hold rfl)
 replace hB6:=hB6.only hO (Blk.ne hB6 hold rfl)
 replace hr_code:=hr_code.onlyA hO hav
 replace hW:=hW.self hO
 replace hB4:=hB4.below hE
 replace hB6:=hB6.below hE
 replace hr_code:=hr_code.below hE
 replace hW:=ktr hW hE
 clear hold hE hO hK;replace hBV:=hbn;clear hbn
 refine Zf (Xd (k:=15) (vs:=[vi 1,vi 2,vi 3,vi 4,vi 5,vi 6,vi 7,vi 8,vi 9,vi 9,vi 10,vi 11,vi 12,vi 7,vi 1]) (zs:=[vi 1,vi 2,vi 3,vi 4,vi 5,vi 6,vi 7,vi 8,vi 9,vi 9,vi 10,vi 11,vi 12,vi 7,vi 1]) rfl X03 X18 rfl rfl) ?_;rintro _ w4 ⟨b8,rfl,hl8,hE,hB8⟩
 have hne6_8:b6≠b8:=by have:=hB6.lt;omega
 have hlo8:=Nat.le_trans hW.size hl8
 have haw1_8:=hr_code.away hl8
 replace hBV:=hBV.below hE
 replace hB4:=hB4.below hE
 replace hB6:=hB6.below hE
 replace hr_code:=hr_code.below hE
 replace hW:=ktr hW hE
 refine Zf (Vc (Xjj _ bV Acd ccd code hr_code.top hcd hav tz6 sz6 hBV xz6 8 (some ⟨b8,0,none⟩) 15 ([1,2,3,4,5,6,7,8,9,9,10,11,12,7,1]) (Rd.of_blk hB8 rfl _ hB8.lt) (by simp at hPz6;omega) (by omega) (by simp) (by simp) (by omega)) Xbp) ?_;rintro _ w5 ⟨cz8,Az8,ez8,tz8,sz8,rfl,hPz8,htz8,hoz8,hK,hbn⟩
 have hlv:=hW.size
 obtain ⟨wm,hO,hm,hE⟩:=hK.mid;clear hm
 have hold:=hBV
 replace hB4:=hB4.only hO (Blk.ne hB4 hold rfl)
 replace hB6:=hB6.only hO (Blk.ne hB6 hold rfl)
 replace hB8:=hB8.only hO (Blk.ne hB8 hold rfl)
 replace hr_code:=hr_code.onlyA hO hav
 replace hW:=hW.self hO
 replace hB4:=hB4.below hE
 replace hB6:=hB6.below hE
 replace hB8:=hB8.below hE
 replace hr_code:=hr_code.below hE
 replace hW:=ktr hW hE
 clear hold hE hO hK;replace hBV:=hbn;clear hbn
 replace hoz8:=hoz8.lower hlv;clear hlv
 refine Zo (Vw [vi cz8.n,.slice Az8 cz8.gs.length ez8] X3g hB4) ?_;rintro _ w6 ⟨ho,hb⟩
 have hold:=hB4
 replace hBV:=hBV.only ho (Blk.ne hBV hold rfl)
 replace hB6:=hB6.only ho (Blk.ne hB6 hold rfl)
 replace hB8:=hB8.only ho (Blk.ne hB8 hold rfl)
 replace hr_code:=hr_code.only ho hlo4
 replace hoz8:=hoz8.onlyT ho hold rfl
 replace hW:=Kept.only hW ho hlo4
 clear hold
 have hB4:=hb
 clear hb ho
 refine Zt hK5 fun a hf=>?_
 refine wp_ret (X2 hf (Xj hf rfl (ResV.cellN (l:=[vi cz8.n,.slice Az8 cz8.gs.length ez8]) rfl X1k (hB4.at 0) rfl)) ?_)
 exact ⟨_,Az8,ez8,_,_,rfl,⟨(by simp at hPz6;omega),(by omega)⟩,⟨by omega,by omega⟩,hoz8,hW,hBV⟩
theorem Xnr(w0:World)(bV:Nat){Xcd:TypeId}(Acd:Option Addr)(ccd:Nat)(code:List Int)(hr_code:Rd w0 w0.heap.size Xcd encU Acd code)(hcd:∀ x ∈ code,0≤x∧x≤255)(hav:AwayR code Acd bV)(t:Nat)(sd:Int)(hBV:Blk w0 bV 80 [.slice Acd code.length ccd,vi (t:Int),.int .u64 sd])(ht:t+60≤100000000) : Ret Tryz.prog 90 [.pointer (some ⟨bV,0,none⟩)] w0 (fun v w=>∃ (c:Cx) (A:Option Addr) (e:Nat) (t1:Nat) (s1:Int),v=.agg #[vi c.n,.slice A c.gs.length e]∧((0≤c.n∧c.n≤6)∧c.gs.length≤9)∧(t≤t1∧t1≤t+60)∧Own w w0.heap.size 24 3 encG A e c.gs∧Kept bV w0.heap.size w0 w∧Blk w bV 80 [.slice Acd code.length ccd,vi (t1:Int),.int .u64 s1]):=by
 have hltV:=hBV.lt
 refine enter Tryz.func90 rfl 31 rfl rfl ?_
 intro a hf
 have hW:Kept bV w0.heap.size w0 w0:=Kept.refl _ _ _
 refine Zs hf fun _ hK2=>?_
 refine Zf (X6 (zs:=[vi 0,.slice none 0 0]) X92 rfl) ?_;rintro _ w1 ⟨b4,rfl,hl4,hE,hB4⟩
 have hlo4:=Nat.le_trans hW.size hl4
 have haw1_4:=hr_code.away hl4
 replace hBV:=hBV.below hE
 replace hr_code:=hr_code.below hE
 replace hW:=ktr hW hE
 refine Zt hK2 fun a hf=>?_
 refine Zs hf fun _ hK5=>?_
 refine Zm rfl ?_
 refine Zf (Vc (Xoa _ bV Acd ccd code hr_code.top hcd hav t sd hBV (by omega)) Xj9) ?_;rintro _ w2 ⟨cz5,Az5,ez5,tz5,sz5,rfl,hPz5,htz5,hoz5,hK,hbn⟩
 have hlv:=hW.size
 obtain ⟨wm,hO,hm,hE⟩:=hK.mid;clear hm
 have hold:=hBV
 replace hB4:=hB4.only hO (Blk.ne hB4 hold rfl)
 replace hr_code:=hr_code.onlyA hO hav
 replace hW:=hW.self hO
 replace hB4:=hB4.below hE
 replace hr_code:=hr_code.below hE
 replace hW:=ktr hW hE
 clear hold hE hO hK;replace hBV:=hbn;clear hbn
 replace hoz5:=hoz5.lower hlv;clear hlv
 refine Zf (X6 (zs:=[vi 0,.slice none 0 0]) X92 rfl) ?_;rintro _ w3 ⟨b8,rfl,hl8,hE,hB8⟩
 have hne4_8:b4≠b8:=by have:=hB4.lt;omega
 have hlo8:=Nat.le_trans hW.size hl8
 have haw1_8:=hr_code.away hl8
 replace hBV:=hBV.below hE
 replace hB4:=hB4.below hE
 replace hr_code:=hr_code.below hE
 replace hoz5:=hoz5.below hE
 replace hW:=ktr hW hE
 refine Zo (Vw [vi cz5.n,.slice Az5 cz5.gs.length ez5] X3g hB8) ?_;rintro _ w4 ⟨ho,hb⟩
 have hold:=hB8
 replace hBV:=hBV.only ho (Blk.ne hBV hold rfl)
 replace hB4:=hB4.only ho (by omega)
 replace hr_code:=hr_code.only ho hlo8
 replace hoz5:=hoz5.onlyT ho hold rfl
 replace hW:=Kept.only hW ho hlo8
 clear hold
 have hB8:=hb
 clear hb ho
 refine Zt hK5 fun a hf=>?_
 refine wp_seq_k fun _ hK9=>?_
 refine Zs hf fun _ hK10=>?_
 refine Zm rfl ?_
 refine Zf (Vc (X2p _ bV Acd ccd code hr_code.top hcd hav tz5 sz5 hBV 14 (by omega)) X1l) ?_;rintro _ w5 ⟨xz7,tz7,sz7,rfl,hPz7,htz7,hK,hbn⟩
 obtain ⟨wm,hO,hm,hE⟩:=hK.mid;clear hm
 have hold:=hBV
 replace hB4:=hB4.only hO (Blk.ne hB4 hold rfl)
 replace hB8:=hB8.only hO (Blk.ne hB8 hold rfl)
 replace hr_code:=hr_code.onlyA hO hav
 replace hoz5:=hoz5.onlyT hO hold rfl
 replace hW:=hW.self hO
 replace hB4:=hB4.below hE
 replace hB8:=hB8.below hE
 replace hr_code:=hr_code.below hE
 replace hoz5:=hoz5.below hE
 replace hW:=ktr hW hE
 clear hold hE hO hK;replace hBV:=hbn;clear hbn
 refine Zt hK10 fun a hf=>?_
 refine wp_block ?_
 refine Zs hf fun _ hK11=>?_
 refine Ze (X0n rfl rfl)<|Za rfl ?_
 refine Zt hK11 fun a hf=>?_
 refine Xm hf rfl (fun hc12=>?_) (fun hc12=>?_)
 ·have hc12b:=hc12
  refine Zr hf ?_
  refine Zm rfl ?_
  refine Zf (Xd (k:=4) (vs:=[vi 0,vi 1,vi 5,vi 6]) (zs:=[vi 0,vi 1,vi 5,vi 6]) rfl X03 X18 rfl rfl) ?_;rintro _ w6 ⟨b13,rfl,hl13,hE,hB13⟩
  have hlo13:=Nat.le_trans hW.size hl13
  have haw1_13:=hr_code.away hl13
  replace hBV:=hBV.below hE
  replace hB4:=hB4.below hE
  replace hB8:=hB8.below hE
  replace hr_code:=hr_code.below hE
  replace hoz5:=hoz5.below hE
  replace hW:=ktr hW hE
  refine Zf (Vc (Xc5 _ bV Acd ccd code hr_code.top hcd hav tz7 sz7 hBV (some ⟨b13,0,none⟩) 4 ([0,1,5,6]) (Rd.of_blk hB13 rfl _ hB13.lt) (by simp) (by simp) (by omega)) X6l) ?_;rintro _ w7 ⟨xz12,tz12,sz12,rfl,hPz12,htz12,hK,hbn⟩
  obtain ⟨wm,hO,hm,hE⟩:=hK.mid;clear hm
  have hold:=hBV
  replace hB4:=hB4.only hO (Blk.ne hB4 hold rfl)
  replace hB8:=hB8.only hO (Blk.ne hB8 hold rfl)
  replace hB13:=hB13.only hO (Blk.ne hB13 hold rfl)
  replace hr_code:=hr_code.onlyA hO hav
  replace hoz5:=hoz5.onlyT hO hold rfl
  replace hW:=hW.self hO
  replace hB4:=hB4.below hE
  replace hB8:=hB8.below hE
  replace hB13:=hB13.below hE
  replace hr_code:=hr_code.below hE
  replace hoz5:=hoz5.below hE
  replace hW:=ktr hW hE
  clear hold hE hO hK;replace hBV:=hbn;clear hbn
  refine Ze (Vd rfl X35 0) ?_
  refine Zo (Vu (vs:=[vi xz12]) (l':=[vi xz12,.slice Az5 cz5.gs.length ez5]) rfl rfl X1a hB8) ?_;rintro _ w8 ⟨ho,hb⟩
  have hold:=hB8
  replace hBV:=hBV.only ho (Blk.ne hBV hold rfl)
  replace hB4:=hB4.only ho (by omega)
  replace hB13:=hB13.only ho (Blk.ne hB13 hold rfl)
  replace hr_code:=hr_code.only ho hlo8
  replace hoz5:=hoz5.onlyT ho hold rfl
  replace hW:=Kept.only hW ho hlo8
  clear hold
  have hB8:=hb
  clear hb ho
  refine Zn fun a hf=>?_
  refine Xr ?_
  refine hK9 _ _ ?_
  refine Zs hf fun _ hK15=>?_
  refine Ze (Vn X1k hB8) ?_
  refine Zo (Vw [vi xz12,.slice Az5 cz5.gs.length ez5] X3g hB4) ?_;rintro _ w9 ⟨ho,hb⟩
  have hold:=hB4
  replace hBV:=hBV.only ho (Blk.ne hBV hold rfl)
  replace hB8:=hB8.only ho (by omega)
  replace hoz5:=hoz5.onlyT ho hold rfl
  replace hW:=Kept.only hW ho hlo4
  clear hold
  have hB4:=hb
  clear hb ho
  refine Zt hK15 fun a hf=>?_
  refine wp_ret (X2 hf (Xj hf rfl (ResV.cellN (l:=[vi xz12,.slice Az5 cz5.gs.length ez5]) rfl X1k (hB4.at 0) rfl)) ?_)
  exact ⟨⟨xz12,cz5.gs⟩,Az5,ez5,_,_,rfl,⟨(by simp at hPz12;show 0≤xz12∧xz12≤6;omega),(by show cz5.gs.length≤9;omega)⟩,⟨by omega,by omega⟩,hoz5,hW,hBV⟩
 have hc12b:=hc12
 refine Zs hf fun _ hK16=>?_
 refine Ze (X0n rfl rfl)<|Za rfl ?_
 refine Zt hK16 fun a hf=>?_
 refine Xm hf rfl (fun hc17=>?_) (fun hc17=>?_)
 ·have hc17b:=hc17
  refine X0h (some bV) (fun j=>[12,14].contains j) mixed ?_
  intro w10 hE
  replace hBV:=hBV.below hE
  replace hB4:=hB4.below hE
  replace hB8:=hB8.below hE
  replace hr_code:=hr_code.below hE
  replace hoz5:=hoz5.below hE
  replace hW:=ktr hW hE
  refine Yb hf ?_
  refine Yo 0 rfl (fun _=>Vd rfl X1f 1) ?_
  refine Yw 1 rfl trivial (fun w1 h1=>X0 rfl X2t ((hB8.only h1 (Blk.ne hB8 hBV rfl)).at 1)) ?_
  refine Yo 2 rfl (fun _=>X8 rfl)<|Yo 4 rfl (fun _=>X8 rfl)<|Yo 7 rfl (fun _=>X8 rfl) ?_
  refine Y1 3 ?_
  refine Yf rfl trivial (EfW.mono (Vc (X2p _ bV Acd ccd code hr_code.top hcd hav tz7 sz7 hBV 14 (by omega)) X1l) (fun _ _ h=>⟨fun _=>by obtain ⟨xz19,tz19,sz19,rfl,hPz19,htz19,hK,hbn⟩:=h;exact hK.keep,h⟩)) ?_;rintro _ w11 ⟨xz19,tz19,sz19,rfl,hPz19,htz19,hK,hbn⟩
  obtain ⟨wm,hO,hm,hE⟩:=hK.mid;clear hm
  have hold:=hBV
  replace hB4:=hB4.only hO (Blk.ne hB4 hold rfl)
  replace hB8:=hB8.only hO (Blk.ne hB8 hold rfl)
  replace hr_code:=hr_code.onlyA hO hav
  replace hoz5:=hoz5.onlyT hO hold rfl
  replace hW:=hW.self hO
  replace hB4:=hB4.below hE
  replace hB8:=hB8.below hE
  replace hr_code:=hr_code.below hE
  replace hoz5:=hoz5.below hE
  replace hW:=ktr hW hE
  clear hold hE hO hK;replace hBV:=hbn;clear hbn
  refine Y1 5 ?_
  refine Yf rfl trivial (EfW.mono (Vc (X2p _ bV Acd ccd code hr_code.top hcd hav tz19 sz19 hBV 4 (by omega)) X1l) (fun _ _ h=>⟨fun _=>by obtain ⟨xz21,tz21,sz21,rfl,hPz21,htz21,hK,hbn⟩:=h;exact hK.keep,h⟩)) ?_;rintro _ w12 ⟨xz21,tz21,sz21,rfl,hPz21,htz21,hK,hbn⟩
  obtain ⟨wm,hO,hm,hE⟩:=hK.mid;clear hm
  have hold:=hBV
  replace hB4:=hB4.only hO (Blk.ne hB4 hold rfl)
  replace hB8:=hB8.only hO (Blk.ne hB8 hold rfl)
  replace hr_code:=hr_code.onlyA hO hav
  replace hoz5:=hoz5.onlyT hO hold rfl
  replace hW:=hW.self hO
  replace hB4:=hB4.below hE
  replace hB8:=hB8.below hE
  replace hr_code:=hr_code.below hE
  replace hoz5:=hoz5.below hE
  replace hW:=ktr hW hE
  clear hold hE hO hK;replace hBV:=hbn;clear hbn
  refine Yo 6 rfl (fun _=>X1d rfl rfl (by omega) (by omega)) ?_
  refine Y1 8 ?_
  refine Yf rfl trivial (EfW.mono (Vc (X2p _ bV Acd ccd code hr_code.top hcd hav tz21 sz21 hBV 4 (by omega)) X1l) (fun _ _ h=>⟨fun _=>by obtain ⟨xz24,tz24,sz24,rfl,hPz24,htz24,hK,hbn⟩:=h;exact hK.keep,h⟩)) ?_;rintro _ w13 ⟨xz24,tz24,sz24,rfl,hPz24,htz24,hK,hbn⟩
  obtain ⟨wm,hO,hm,hE⟩:=hK.mid;clear hm
  have hold:=hBV
  replace hB4:=hB4.only hO (Blk.ne hB4 hold rfl)
  replace hB8:=hB8.only hO (Blk.ne hB8 hold rfl)
  replace hr_code:=hr_code.onlyA hO hav
  replace hoz5:=hoz5.onlyT hO hold rfl
  replace hW:=hW.self hO
  replace hB4:=hB4.below hE
  replace hB8:=hB8.below hE
  replace hr_code:=hr_code.below hE
  replace hoz5:=hoz5.below hE
  replace hW:=ktr hW hE
  clear hold hE hO hK;replace hBV:=hbn;clear hbn
  refine Yo 9 rfl (fun _=>X1d rfl rfl (by omega) (by omega))<|Yo 10 rfl (fun _=>Xt (ps:=[(0,vi xz19),(1,vi (xz21-1)),(2,vi (xz24-1))]) (cs:=[vi xz19,vi (xz21-1),vi (xz24-1)]) rfl (fun _=>by first|rfl|kernel_rfl)) ?_
  refine Y1 11 ?_
  refine Yf rfl trivial (EfW.mono (Xd (k:=1) (vs:=[.agg #[vi xz19,vi (xz21-1),vi (xz24-1)]]) (zs:=[vi xz19,vi (xz21-1),vi (xz24-1)]) rfl X0w X1p rfl rfl) (fun _ _ h=>⟨fun _=>by obtain ⟨_,_,_,hE,_⟩:=h;exact Keep.of_below hE,h⟩)) ?_;rintro _ w14 ⟨b18,rfl,hl18,hE,hB18⟩
  have hlo18:=Nat.le_trans hW.size hl18
  have haw1_18:=hr_code.away hl18
  have haw6_18:=hoz5.away hl18
  replace hBV:=hBV.below hE
  replace hB4:=hB4.below hE
  replace hB8:=hB8.below hE
  replace hr_code:=hr_code.below hE
  replace hoz5:=hoz5.below hE
  replace hW:=ktr hW hE
  refine Y1 12 ?_
  refine Yt rfl trivial rfl (X1e (enc:=encG) (l:=(cz5.gs)) (l2:=([(⟨xz19,xz21-1,xz24-1⟩ : Gt)])) (B0:=w0.heap.size) rfl rfl X0w X1p X11 X3q hoz5 (Rd.of_blk hB18 rfl _ hB18.lt) (by simp only [maxLen];simp;omega) (by simp;omega) hW.size) ?_;rintro _ w15 ⟨A20,c20,rfl,ho20,hg,hat⟩
  have hown:Own _ w0.heap.size 24 3 encG _ _ (cz5.gs):=hoz5
  have haw20_18:=hat _ hB18.lt haw6_18
  clear hat
  replace hBV:=hBV.appT hown hg rfl
  replace hB4:=hB4.appT hown hg rfl
  replace hB8:=hB8.appT hown hg rfl
  replace hr_code:=hr_code.appB hown hg (Nat.le_refl _)
  replace hW:=Kept.app hW hown hg (Nat.le_refl _) hW.size
  clear hown hg
  refine Yo 13 rfl (fun _=>Vd rfl X1f 1) ?_
  refine Y1 14 ?_
  refine Yh rfl trivial rfl (Vu (vs:=[.slice A20 (cz5.gs++([(⟨xz19,xz21-1,xz24-1⟩ : Gt)])).length c20]) (l':=[vi cz5.n,.slice A20 (cz5.gs++([(⟨xz19,xz21-1,xz24-1⟩ : Gt)])).length c20]) rfl rfl Xjp hB8) ?_;rintro _ w16 ⟨ho,hb⟩
  have hold:=hB8
  replace hBV:=hBV.only ho (Blk.ne hBV hold rfl)
  replace hB4:=hB4.only ho (by omega)
  replace hr_code:=hr_code.only ho hlo8
  replace ho20:=ho20.onlyT ho hold rfl
  replace hW:=Kept.only hW ho hlo8
  clear hold
  have hB8:=hb
  clear hb ho
  refine Yd fun a hf=>?_
  refine Xr ?_
  refine hK9 _ _ ?_
  refine Zs hf fun _ hK21=>?_
  refine Ze (Vn X1k hB8) ?_
  refine Zo (Vw [vi cz5.n,.slice A20 (cz5.gs++([(⟨xz19,xz21-1,xz24-1⟩ : Gt)])).length c20] X3g hB4) ?_;rintro _ w17 ⟨ho,hb⟩
  have hold:=hB4
  replace hBV:=hBV.only ho (Blk.ne hBV hold rfl)
  replace hB8:=hB8.only ho (by omega)
  replace ho20:=ho20.onlyT ho hold rfl
  replace hW:=Kept.only hW ho hlo4
  clear hold
  have hB4:=hb
  clear hb ho
  refine Zt hK21 fun a hf=>?_
  refine wp_ret (X2 hf (Xj hf rfl (ResV.cellN (l:=[vi cz5.n,.slice A20 (cz5.gs++([(⟨xz19,xz21-1,xz24-1⟩ : Gt)])).length c20]) rfl X1k (hB4.at 0) rfl)) ?_)
  exact ⟨⟨cz5.n,cz5.gs++[⟨xz19,xz21-1,xz24-1⟩]⟩,A20,c20,_,_,rfl,⟨(by show 0≤cz5.n∧cz5.n≤6;omega),(by show (cz5.gs++_).length≤9;simp;omega)⟩,⟨by omega,by omega⟩,ho20,hW,hBV⟩
 have hc17b:=hc17
 refine wp_skip ?_
 refine Xr ?_
 refine hK9 _ _ ?_
 refine Zs hf fun _ hK22=>?_
 refine Ze (Vn X1k hB8) ?_
 refine Zo (Vw [vi cz5.n,.slice Az5 cz5.gs.length ez5] X3g hB4) ?_;rintro _ w18 ⟨ho,hb⟩
 have hold:=hB4
 replace hBV:=hBV.only ho (Blk.ne hBV hold rfl)
 replace hB8:=hB8.only ho (by omega)
 replace hr_code:=hr_code.only ho hlo4
 replace hoz5:=hoz5.onlyT ho hold rfl
 replace hW:=Kept.only hW ho hlo4
 clear hold
 have hB4:=hb
 clear hb ho
 refine Zt hK22 fun a hf=>?_
 refine wp_ret (X2 hf (Xj hf rfl (ResV.cellN (l:=[vi cz5.n,.slice Az5 cz5.gs.length ez5]) rfl X1k (hB4.at 0) rfl)) ?_)
 exact ⟨cz5,Az5,ez5,_,_,rfl,⟨(by omega),(by omega)⟩,⟨by omega,by omega⟩,hoz5,hW,hBV⟩
theorem Xom(w0:World)(bV:Nat){Xcd:TypeId}(Acd:Option Addr)(ccd:Nat)(code:List Int)(hr_code:Rd w0 w0.heap.size Xcd encU Acd code)(hcd:∀ x ∈ code,0≤x∧x≤255)(hav:AwayR code Acd bV)(t:Nat)(sd:Int)(hBV:Blk w0 bV 80 [.slice Acd code.length ccd,vi (t:Int),.int .u64 sd])(most:Int)(hm:0≤most∧most≤1000)(ht:t+(4+6*most.toNat)≤100000000) : Ret Tryz.prog 128 [.pointer (some ⟨bV,0,none⟩),vi most] w0 (fun v w=>∃ (c:Cx) (A:Option Addr) (e:Nat) (t1:Nat) (s1:Int),v=.agg #[vi c.n,.slice A c.gs.length e]∧((2≤c.n∧c.n≤4)∧(c.gs.length:Int)≤most)∧(t≤t1∧t1≤t+(4+6*most.toNat))∧Own w w0.heap.size 24 3 encG A e c.gs∧Kept bV w0.heap.size w0 w∧Blk w bV 80 [.slice Acd code.length ccd,vi (t1:Int),.int .u64 s1]):=by
 have hltV:=hBV.lt
 refine enter Tryz.func128 rfl 12 rfl rfl ?_
 intro a hf
 have hW:Kept bV w0.heap.size w0 w0:=Kept.refl _ _ _
 refine Zs hf fun _ hK2=>?_
 refine Zf (X6 (zs:=[vi 0,.slice none 0 0]) X92 rfl) ?_;rintro _ w1 ⟨b4,rfl,hl4,hE,hB4⟩
 have hlo4:=Nat.le_trans hW.size hl4
 have haw1_4:=hr_code.away hl4
 replace hBV:=hBV.below hE
 replace hr_code:=hr_code.below hE
 replace hW:=ktr hW hE
 refine Zt hK2 fun a hf=>?_
 refine Zs hf fun _ hK5=>?_
 refine Zm rfl<|Zm rfl ?_
 refine Zf (Vc (X2p _ bV Acd ccd code hr_code.top hcd hav t sd hBV 3 (by omega)) X1l) ?_;rintro _ w2 ⟨xz7,tz7,sz7,rfl,hPz7,htz7,hK,hbn⟩
 obtain ⟨wm,hO,hm,hE⟩:=hK.mid;clear hm
 have hold:=hBV
 replace hB4:=hB4.only hO (Blk.ne hB4 hold rfl)
 replace hr_code:=hr_code.onlyA hO hav
 replace hW:=hW.self hO
 replace hB4:=hB4.below hE
 replace hr_code:=hr_code.below hE
 replace hW:=ktr hW hE
 clear hold hE hO hK;replace hBV:=hbn;clear hbn
 refine Ze (X0a rfl rfl (by omega) (by omega))<|Zm rfl ?_
 refine Zf (Xd (k:=12) (vs:=[vi 1,vi 2,vi 4,vi 5,vi 7,vi 7,vi 8,vi 9,vi 9,vi 9,vi 10,vi 12]) (zs:=[vi 1,vi 2,vi 4,vi 5,vi 7,vi 7,vi 8,vi 9,vi 9,vi 9,vi 10,vi 12]) rfl X03 X18 rfl rfl) ?_;rintro _ w3 ⟨b6,rfl,hl6,hE,hB6⟩
 have hlo6:=Nat.le_trans hW.size hl6
 have haw1_6:=hr_code.away hl6
 replace hBV:=hBV.below hE
 replace hB4:=hB4.below hE
 replace hr_code:=hr_code.below hE
 replace hW:=ktr hW hE
 refine Zf (Vc (Xjj _ bV Acd ccd code hr_code.top hcd hav tz7 sz7 hBV (2+xz7) most (some ⟨b6,0,none⟩) 12 ([1,2,4,5,7,7,8,9,9,9,10,12]) (Rd.of_blk hB6 rfl _ hB6.lt) (by omega) (by omega) (by simp) (by simp) (by omega)) Xbp) ?_;rintro _ w4 ⟨cz11,Az11,ez11,tz11,sz11,rfl,hPz11,htz11,hoz11,hK,hbn⟩
 have hlv:=hW.size
 obtain ⟨wm,hO,hm,hE⟩:=hK.mid;clear hm
 have hold:=hBV
 replace hB4:=hB4.only hO (Blk.ne hB4 hold rfl)
 replace hB6:=hB6.only hO (Blk.ne hB6 hold rfl)
 replace hr_code:=hr_code.onlyA hO hav
 replace hW:=hW.self hO
 replace hB4:=hB4.below hE
 replace hB6:=hB6.below hE
 replace hr_code:=hr_code.below hE
 replace hW:=ktr hW hE
 clear hold hE hO hK;replace hBV:=hbn;clear hbn
 replace hoz11:=hoz11.lower hlv;clear hlv
 refine Zo (Vw [vi cz11.n,.slice Az11 cz11.gs.length ez11] X3g hB4) ?_;rintro _ w5 ⟨ho,hb⟩
 have hold:=hB4
 replace hBV:=hBV.only ho (Blk.ne hBV hold rfl)
 replace hB6:=hB6.only ho (Blk.ne hB6 hold rfl)
 replace hr_code:=hr_code.only ho hlo4
 replace hoz11:=hoz11.onlyT ho hold rfl
 replace hW:=Kept.only hW ho hlo4
 clear hold
 have hB4:=hb
 clear hb ho
 refine Zt hK5 fun a hf=>?_
 refine wp_ret (X2 hf (Xj hf rfl (ResV.cellN (l:=[vi cz11.n,.slice Az11 cz11.gs.length ez11]) rfl X1k (hB4.at 0) rfl)) ?_)
 exact ⟨_,Az11,ez11,_,_,rfl,⟨(by omega),(by omega)⟩,⟨by omega,by omega⟩,hoz11,hW,hBV⟩
end Go.Proofs.YtlfjcmldfbfdbaaGreat
namespace Go.Proofs.YtlfjcmldfbfdbaaGreat
open Go.RowKit
def bkG(g:Gt) : Gt:=⟨if g.k=5∨g.k=7 then g.k+1 else if g.k=6∨g.k=8 then g.k-1 else g.k,g.a,g.b⟩
def bkN(g:Gt) : Int:=if g.k=12 then 7 else 1
def metS(x y:Gt) : Bool:=(usedS [x]).any fun q=>(usedS [y]).any fun z=>z==q
def nextC(g:Gt) : List Gt→Nat→Nat
 | [],j=>j
 | h::l,j=>if metS g h=true then j else nextC g l (j+1)
def canJ(g:Gt)(gs:List Gt)(i:Nat) : Nat:=nextC g (gs.drop (i+1)) (i+1)
def canR(gs:List Gt)(i j:Nat) : Rp:=⟨i,(gs.take (j+1)).drop i,(gs.take j).drop (i+1)⟩
def canB(g:Gt)(gs:List Gt)(i j:Nat) : Bool:=g.k != 12&&(decide ((j:Int)<(gs.length:Int))&&(decide ((j:Int)-(i:Int)<40)&&decide (gs[j]? = some (bkG g))))
def canAt(gs:List Gt)(i:Nat) : Option Rp:=match gs[i]? with
 | none=>none
 | some g=>if canB g gs i (canJ g gs i)=true then some (canR gs i (canJ g gs i)) else none
def canF(gs:List Gt) : Nat→Option Rp
 | 0=>none
 | n+1=>match canF gs n with
  | some r=>some r
  | none=>canAt gs n
def canS(gs:List Gt) : Option Rp:=canF gs gs.length
def rpZ:Rp:=⟨0,[],[]⟩
end Go.Proofs.YtlfjcmldfbfdbaaGreat
set_option maxHeartbeats 1000000
set_option maxRecDepth 4000
namespace Go.Proofs.YtlfjcmldfbfdbaaGreat
open Go.RowKit
theorem Xnd(w0:World)(x:Int)(y:Int) : Ret Tryz.prog 119 [vi x,vi y] w0 (fun v w=>v=vi (min x y)∧Below w0.heap.size w0 w):=by
 refine enter Tryz.func119 rfl 10 rfl rfl ?_
 intro a hf
 have hW:Below w0.heap.size w0 w0:=Below.refl _ _
 refine Zs hf fun _ hK1=>?_
 refine Za rfl ?_
 refine Zt hK1 fun a hf=>?_
 refine wp_seq_k fun _ hK2=>?_
 refine Zs hf fun _ hK3=>?_
 refine Zm rfl<|Zm rfl<|Ze (X16 rfl rfl) ?_
 refine Zt hK3 fun a hf=>?_
 refine Xm hf rfl (fun hc4=>?_) (fun hc4=>?_)
 ·have hc4b:=hc4
  have hc4:=of_decide_eq_true hc4
  refine Zs hf fun _ hK5=>?_
  refine Zm rfl<|Za rfl ?_
  refine Zt hK5 fun a hf=>?_
  refine wp_ret ?_
  refine X7 ?_
  refine X2 hf (Xj hf rfl rfl) ?_
  exact ⟨by rw [Int.min_eq_left (by omega)],hW⟩
 have hc4b:=hc4
 have hc4:=of_decide_eq_false hc4
 refine wp_skip ?_
 refine hK2 _ _ ?_
 refine Zs hf fun _ hK6=>?_
 refine Zm rfl<|Za rfl ?_
 refine Zt hK6 fun a hf=>?_
 refine wp_ret (X2 hf (Xj hf rfl rfl) ?_)
 exact ⟨by rw [Int.min_eq_right (by omega)],hW⟩
end Go.Proofs.YtlfjcmldfbfdbaaGreat
namespace Go.Proofs.YtlfjcmldfbfdbaaGreat
open Go.RowKit
theorem DeepR.nil(w:World)(B:Nat)(E:TypeId) : DeepR w B E []:=fun s hs=>by simp at hs
theorem DeepR.snoc{w:World}{B:Nat}{E:TypeId}{l:List Sr}{x:Sr}(h:DeepR w B E l)(h1:Rd w B E encG x.A x.old)(h2:Rd w B E encG x.B x.new) : DeepR w B E (l++[x]):=fun s hs=>by
 rcases List.mem_append.1 hs with hs|hs
 ·exact h s hs
 ·rw [List.mem_singleton] at hs
  subst hs
  exact ⟨h1,h2⟩
section
variable {P : Program} {a : Act} {w : World} {n : Nat} {e : Env} {ty : TypeId} {pos : String} {af : Array Edge} {g : Option (Nat × Bool)} {d : Option Tmp}
end
theorem X9y(g:Gt) : ∀ (l:List Gt) (j:Nat),j≤nextC g l j
 | [],j=>Nat.le_refl _
 | h::l,j=>by
  unfold nextC
  split
  ·exact Nat.le_refl _
  ·exact Nat.le_trans (Nat.le_succ j) (X9y g l (j+1))
theorem X7i{gs:List Gt}{r:Rp} : ∀ n,canF gs n=some r→∃ i,i<n∧canAt gs i=some r
 | 0,h=>by cases h
 | n+1,h=>by
  unfold canF at h
  split at h
  ·rename_i r' h1
   injection h with h
   subst h
   obtain ⟨i,h2,h3⟩:=X7i n h1
   exact ⟨i,by omega,h3⟩
  ·exact ⟨n,by omega,h⟩
theorem Xdf{gs:List Gt}{r:Rp}(h:canS gs=some r) : ∃ i j g,gs[i]? = some g∧gs[j]? = some (bkG g)∧g.k≠12∧i<j∧j<gs.length∧j<i+40∧j=canJ g gs i∧r=canR gs i j:=by
 obtain ⟨i,hi,h1⟩:=X7i _ h
 unfold canAt at h1
 split at h1
 ·cases h1
 ·rename_i g hg
  split at h1
  ·rename_i hb
   injection h1 with h1
   unfold canB at hb
   simp only [Bool.and_eq_true,bne_iff_ne,decide_eq_true_eq] at hb
   have:=X9y g (gs.drop (i+1)) (i+1)
   exact ⟨i,canJ g gs i,g,hg,hb.2.2.2,hb.1,by unfold canJ;omega,by omega,by omega,rfl,h1.symm⟩
  ·cases h1
theorem Xm1{n:Int}{gs:List Gt}{r:Rp}(hc:cOk ⟨n,gs⟩=true)(h:canS gs=some r) :
  ∃ d,applyS ⟨n,gs⟩ r=some d∧d.n=n∧cOk d=true∧d.gs.length+2=gs.length∧r.old.length≤41∧r.new.length≤41:=by
 obtain ⟨i,j,g,hi,hj,hk,hij,hjl,h40,_,rfl⟩:=Xdf h
 obtain ⟨hn,hl,hg⟩:=X1j hc
 dsimp only at hn hl hg
 have lo:(canR gs i j).old.length=j+1-i:=by simp [canR];omega
 have ln:(canR gs i j).new.length=j-i-1:=by simp [canR];omega
 have e2:((gs.take ((canR gs i j).pos.toNat+(canR gs i j).old.length)).drop (canR gs i j).pos.toNat)=(canR gs i j).old:=by
  rw [lo]
  show (gs.take ((i:Int).toNat+(j+1-i))).drop (i:Int).toNat=(gs.take (j+1)).drop i
  rw [Int.toNat_natCast,show i+(j+1-i)=j+1 by omega]
 have mo:∀ x ∈ (canR gs i j).old,gOk n x=true:=fun x hx=>hg x (List.mem_of_mem_take (List.mem_of_mem_drop hx))
 have mn:∀ x ∈ (canR gs i j).new,gOk n x=true:=fun x hx=>hg x (List.mem_of_mem_take (List.mem_of_mem_drop hx))
 have hv:validS n (canR gs i j)=true:=by
  unfold validS
  simp only [Bool.and_eq_true,Xh,decide_eq_true_eq,Bool.not_eq_true',List.any_eq_false,lo,ln]
  refine ⟨⟨⟨hn,?_⟩,⟨fun x hx=>by simp [mo x hx],by omega⟩⟩,⟨fun x hx=>by simp [mn x hx],by omega⟩⟩
  show 0≤(i:Int)∧(i:Int)≤400
  omega
 have hf:fitS ⟨n,gs⟩ (canR gs i j)=true:=by
  unfold fitS
  rw [hv,lo,ln]
  simp only [Bool.true_and,Bool.and_eq_true,decide_eq_true_eq]
  constructor
  ·show (i:Int)+((j+1-i:Nat) : Int)≤(gs.length:Int)
   omega
  ·omega
 have ha:=Xat hf e2
 have hk2:=(Xet hc).2 _ ha
 refine ⟨_,ha,hk2.2.1,hk2.1,?_,by omega,by omega⟩
 show (gs.take (canR gs i j).pos.toNat++(canR gs i j).new++gs.drop ((canR gs i j).pos.toNat+(canR gs i j).old.length)).length+2=_
 rw [List.length_append,List.length_append,ln,lo,List.length_take,List.length_drop]
 show min (i:Int).toNat gs.length+(j-i-1)+(gs.length-((i:Int).toNat+(j+1-i)))+2=gs.length
 rw [Int.toNat_natCast]
 omega
def canRun(n:Int) : Nat→List Gt→List Rp×Cx
 | 0,gs=>([],⟨n,gs⟩)
 | k+1,gs=>match canS gs with
  | none=>([],⟨n,gs⟩)
  | some r=>(r::(canRun n k ((applyS ⟨n,gs⟩ r).getD cZ).gs).1,(canRun n k ((applyS ⟨n,gs⟩ r).getD cZ).gs).2)
def canC(c:Cx) : Cx×List Rp×Cx:=if cOk c=true then (c,canRun c.n c.gs.length c.gs) else (cZ,[],cZ)
theorem Xan{n:Int}{gs:List Gt}(h:canS gs=none) : ∀ k,canRun n k gs=([],⟨n,gs⟩)
 | 0=>rfl
 | k+1=>by unfold canRun;rw [h]
theorem Xap{n:Int}{gs:List Gt}{r:Rp}(h:canS gs=some r)(k:Nat) : canRun n (k+1) gs=(r::(canRun n k ((applyS ⟨n,gs⟩ r).getD cZ).gs).1,(canRun n k ((applyS ⟨n,gs⟩ r).getD cZ).gs).2):=by
 conv=>lhs;unfold canRun
 rw [h]
structure CanI (c:Cx) (l:List Sr) (d:Cx) (k:Nat) : Prop where
 run:canRun c.n c.gs.length c.gs=(l.map Sr.rp++(canRun c.n k d.gs).1,(canRun c.n k d.gs).2)
 ok:cOk d=true
 n:d.n=c.n
 le:d.gs.length≤k
 len:l.length+d.gs.length≤c.gs.length
 small:∀ s ∈ l,s.old.length≤41∧s.new.length≤41
theorem CanI.start{c:Cx}(h:cOk c=true) : CanI c [] c c.gs.length:=⟨rfl,h,rfl,Nat.le_refl _,by simp,fun s hs=>by simp at hs⟩
theorem CanI.next{c d:Cx}{l:List Sr}{k:Nat}(h:CanI c l d k){r:Rp}(hr:canS d.gs=some r){s:Sr}(hs:s.rp=r) : ∃ k',k=k'+1∧CanI c (l++[s]) ((applyS d r).getD cZ) k':=by
 have hd:d=⟨c.n,d.gs⟩:=by cases d;have:=h.n;simp only at this;rw [this]
 have hok:=h.ok
 rw [hd] at hok
 obtain ⟨e,he,e1,e2,e3,e4,e5⟩:=Xm1 hok hr
 have hle:=h.le
 obtain ⟨k',rfl⟩ : ∃ k',k=k'+1:=⟨k-1,by omega⟩
 have hd2:applyS d r=some e:=by rw [hd];exact he
 refine ⟨k',rfl,?_⟩
 rw [hd2,Option.getD_some]
 have hrun:=h.run
 rw [Xap hr k',he,Option.getD_some] at hrun
 refine ⟨?_,e2,e1,by omega,by have:=h.len;simp;omega,fun x hx=>?_⟩
 ·rw [hrun,List.map_append,List.append_assoc]
  simp [hs]
 ·rcases List.mem_append.1 hx with hx|hx
  ·exact h.small x hx
  ·rw [List.mem_singleton] at hx
   subst hx
   subst hs
   exact ⟨e4,e5⟩
theorem CanI.done{c d:Cx}{l:List Sr}{k:Nat}(h:CanI c l d k)(hc:cOk c=true)(hn:canS d.gs=none) : canC c=(c,l.map Sr.rp,d):=by
 unfold canC
 rw [if_pos hc,h.run,Xan hn k,List.append_nil]
 have:=h.n
 cases d
 simp only at this
 rw [this]
#print axioms CanI.next
end Go.Proofs.YtlfjcmldfbfdbaaGreat
set_option maxRecDepth 4000
namespace Go.Proofs.YtlfjcmldfbfdbaaGreat
open Go.RowKit
end Go.Proofs.YtlfjcmldfbfdbaaGreat
set_option maxRecDepth 4000
namespace Go.Proofs.YtlfjcmldfbfdbaaGreat
open Go.RowKit
end Go.Proofs.YtlfjcmldfbfdbaaGreat
set_option maxRecDepth 4000
namespace Go.Proofs.YtlfjcmldfbfdbaaGreat
open Go.RowKit
end Go.Proofs.YtlfjcmldfbfdbaaGreat
set_option maxRecDepth 4000
namespace Go.Proofs.YtlfjcmldfbfdbaaGreat
open Go.RowKit
end Go.Proofs.YtlfjcmldfbfdbaaGreat
namespace Go.Proofs.YtlfjcmldfbfdbaaGreat
open Go.RowKit
end Go.Proofs.YtlfjcmldfbfdbaaGreat
set_option maxRecDepth 4000
namespace Go.Proofs.YtlfjcmldfbfdbaaGreat
open Go.RowKit
end Go.Proofs.YtlfjcmldfbfdbaaGreat
set_option maxRecDepth 4000
namespace Go.Proofs.YtlfjcmldfbfdbaaGreat
open Go.RowKit
end Go.Proofs.YtlfjcmldfbfdbaaGreat
set_option maxHeartbeats 1000000
set_option maxRecDepth 4000
namespace Go.Proofs.YtlfjcmldfbfdbaaGreat
open Go.RowKit
end Go.Proofs.YtlfjcmldfbfdbaaGreat
namespace Go.Proofs.YtlfjcmldfbfdbaaGreat
open Go.RowKit
theorem DeepR.drop{w:World}{B:Nat}{E:TypeId}{l:List Sr}(h:DeepR w B E l)(k:Nat) : DeepR w B E (l.drop k):=fun s hs=>h s (List.mem_of_mem_drop hs)
section
variable {P : Program} {a : Act} {w : World} {n : Nat} {e : Env} {ty : TypeId} {pos : String} {af : Array Edge} {g : Option (Nat × Bool)} {d : Option Tmp}
variable {t t' : TypeId} {x y : Operand} {i j k : Int}
end
end Go.Proofs.YtlfjcmldfbfdbaaGreat
set_option maxHeartbeats 1000000
set_option maxRecDepth 4000
namespace Go.Proofs.YtlfjcmldfbfdbaaGreat
open Go.RowKit
end Go.Proofs.YtlfjcmldfbfdbaaGreat
set_option maxRecDepth 4000
namespace Go.Proofs.YtlfjcmldfbfdbaaGreat
open Go.RowKit
end Go.Proofs.YtlfjcmldfbfdbaaGreat
set_option maxRecDepth 4000
namespace Go.Proofs.YtlfjcmldfbfdbaaGreat
open Go.RowKit
end Go.Proofs.YtlfjcmldfbfdbaaGreat
namespace Go.Proofs.YtlfjcmldfbfdbaaGreat
open Go.RowKit Go.ChangeShapes Go.WideShapes Go.Deep Go.Joins
theorem Xln:Tryz.prog.cellsOf 5=1:=by kernel_rfl
theorem Xfh{n:Int}(h:(Lit.int .u8 n).wf=true) : 0≤n∧n≤255:=by
 have h1:IntKind.u8.min=0:=rfl
 have h2:IntKind.u8.max=255:=rfl
 simp [Lit.wf] at h
 omega
set_option maxRecDepth 100000 in
theorem X6z{H:Type}{enc:TypeId×Value→H}{w:World}{base b0:Nat}{spare:Nat→Bool}{held:Bool}{r:Reach}{v:Value}{d:DataW H}{p:List MemPlace}(hv:Value.okWide Tryz.prog w r b0 22 v)(h:DataW.Trod enc Tryz.prog w base spare held 22 v d p)(hsp:∀ b,spare b=true) :
  ∃ (A:Option Addr) (l:List Int) (k:Nat) (E:TypeId),v=.slice A l.length k∧Rd w w.heap.size E encU A l∧(∀ x ∈ l,0≤x∧x≤255):=by
 obtain ⟨a1,n1,k1,rfl⟩:=okWide_slice Tryz.underlying22 hv
 obtain ⟨fuel,hf⟩:=h
 have key:∃ (A:Option Addr) (l:List Int) (c:Nat) (E:TypeId),(Value.slice a1 n1 k1).cells.toList=[Value.slice A l.length c]∧Rd w w.heap.size E encU A l∧(∀ x ∈ l,0≤x∧x≤255):=by
  rcases open_slice Tryz.underlying22 hf with ⟨hcs,_⟩|⟨a,len,cap,m,n,D,Pl,hcs,hb,hl,hm,hmm,_,hi⟩
  ·exact ⟨none,[],0,0,hcs,Rd.nil _ _ _ _ _,by simp⟩
  ·rw [Xln] at hi
   have hlm:len≤m:=by rw [hmm,hsp];simpa using hl
   obtain ⟨l,h1,h2⟩:=Xhm (n:=len) (Q:=fun i g=>(0≤g∧g≤255)∧∀ j v,(encU g)[j]? = some v→w.cell? (a.add (i*1+j))=some v) fun i hilt=>by
    obtain ⟨cs',hc,ht⟩:=hi i (by omega)
    obtain ⟨g,rfl,_,hwf⟩:=DataW.trod_int Tryz.underlying5 ht
    obtain ⟨_,_,hat⟩:=World.cells?_some hc
    refine ⟨g,Xfh hwf,fun j v hj=>?_⟩
    have hj3:j<1:=by have:=(List.getElem?_eq_some_iff.1 hj).1;simpa [encU] using this
    rw [← X59,hat j hj3]
    exact hj
   obtain ⟨E,hr⟩:=Xav Xa2 (by decide) fun i g hig=>(h2 i g hig).2
   refine ⟨some a,l,cap,E,by rw [hcs,h1],hr,fun x hx=>?_⟩
   obtain ⟨i,hi9,e⟩:=List.getElem_of_mem hx
   exact (h2 i x (by rw [List.getElem?_eq_getElem hi9,e])).1
 obtain ⟨A,l,c,E,e0,hr,hb⟩:=key
 simp [Value.cells] at e0
 obtain ⟨rfl,rfl,rfl⟩:=e0
 exact ⟨_,l,_,E,rfl,hr,hb⟩
end Go.Proofs.YtlfjcmldfbfdbaaGreat
namespace Go.Proofs.YtlfjcmldfbfdbaaGreat
open Go.RowKit
def isTk(k:Int) : Bool:=k==7||k==8
def tcN(l:List Gt) : Nat:=l.countP fun g=>isTk g.k
theorem Xim{l:List Gt}{k:Nat}{u:Gt}(h:l[k]? = some u) : (tcN (l.take (k+1)) : Int)=(tcN (l.take k) : Int)+(if isTk u.k=true then 1 else 0):=by
 obtain ⟨h1,h2⟩:=List.getElem?_eq_some_iff.1 h
 unfold tcN
 rw [List.take_succ_eq_append_getElem h1,h2,List.countP_append,List.countP_singleton]
 split<;>simp
section
variable {P : Program} {a : Act} {w : World} {n : Nat} {e : Env} {ty : TypeId} {pos : String} {af : Array Edge} {g : Option (Nat × Bool)} {d : Option Tmp}
end
end Go.Proofs.YtlfjcmldfbfdbaaGreat
set_option maxHeartbeats 1000000
set_option maxRecDepth 4000
namespace Go.Proofs.YtlfjcmldfbfdbaaGreat
open Go.RowKit
theorem Xjt(w0:World)(k:Int) : Ret Tryz.prog 60 [vi k] w0 (fun v w=>v=.bool (isTk k)∧Below w0.heap.size w0 w):=by
 refine enter Tryz.func60 rfl 9 rfl rfl ?_
 intro a hf
 have hW:Below w0.heap.size w0 w0:=Below.refl _ _
 refine Zs hf fun _ hK1=>?_
 refine Za rfl ?_
 refine Zt hK1 fun a hf=>?_
 refine wp_seq_k fun _ hK2=>?_
 refine X0g (fun a w=>Fr a 9 [(2,.bool ((k==7)||(k==8)))]∧w0=w) ?_ ?_
 ·refine Zr hf ?_
  refine Zm rfl<|Ze (X0n rfl rfl)<|Zm rfl ?_
  refine Zg 5 rfl (fun hg3=>?_) (fun hg3=>?_)
  ·refine Zp ⟨_,_,rfl,rfl,hg3⟩ ?_
   refine Zp ⟨_,_,rfl,rfl,hg3⟩ ?_
   refine Ze (Xg rfl hg3 rfl)<|Za rfl ?_
   refine Zn fun a hf=>?_
   exact ⟨hf.sub ⟨X1 rfl (by first|rfl|(simp only [hg3,bs];done)|simp [hg3]),trivial⟩,rfl⟩
  refine Zv ⟨_,_,rfl,rfl,hg3⟩ (X8 rfl) ?_
  refine Zv ⟨_,_,rfl,rfl,hg3⟩ (X0n rfl rfl) ?_
  refine Ze (Xf rfl hg3 rfl)<|Za rfl ?_
  refine Zn fun a hf=>?_
  exact ⟨hf.sub ⟨X1 rfl (by first|rfl|(simp only [hg3,bs];done)|simp [hg3]),trivial⟩,rfl⟩
 rintro a _ ⟨hf,rfl⟩
 refine hK2 _ _ ?_
 refine wp_ret (X2 hf (Xj hf rfl rfl) ?_)
 exact ⟨rfl,hW⟩
end Go.Proofs.YtlfjcmldfbfdbaaGreat
namespace Go.Proofs.YtlfjcmldfbfdbaaGreat
def xb(β m:Nat→Bool) : Nat→Bool:=fun p=>β p != m p
def msk(g:Gt)(β:Nat→Bool) : Nat→Bool:=fun p=>
 if g.k=9 then decide (p=g.b.toNat)&&β g.a.toNat
 else if g.k=11 then (decide (p=g.a.toNat)||decide (p=g.b.toNat))&&(β g.a.toNat != β g.b.toNat)
 else false
def oneK(k:Int) : Bool:=decide (k≠12∧¬ (9≤k∧k≤11))
def flp(g:Gt) : Nat→Bool:=fun p=>oneK g.k&&decide (p=g.a.toNat)
def c0(g:Gt)(β:Nat→Bool) : Rg:=
 if g.k=12 then om else if g.k=9 then 1 else if g.k=10 then (if β g.a.toNat&&β g.b.toNat then om^4 else 1) else if g.k=11 then 1 else u1 g.k (β g.a.toNat) (β g.a.toNat)
def c1(g:Gt)(β:Nat→Bool) : Rg:=if oneK g.k=true then u1 g.k (β g.a.toNat) (!β g.a.toNat) else 0
theorem X9d(β m:Nat→Bool)(h:∀ p,m p=false) : xb β m=β:=by
 funext p;unfold xb;rw [h];cases β p<;>rfl
theorem Xi8(β:Nat→Bool)(q:Nat) : flipB β q=xb β fun p=>decide (p=q):=by
 funext p
 unfold flipB xb
 by_cases e:p=q<;>simp [e]
theorem Xiu{k:Int}(h12:k≠12)(h9:¬ (9≤k∧k≤11)) : oneK k=true:=decide_eq_true ⟨h12,h9⟩
theorem X6a{k:Int}(h:k=12∨(9≤k∧k≤11)) : oneK k=false:=decide_eq_false (by omega)
def TwoQ(g:Gt) : Prop:=9≤g.k∧g.k≤11→g.a.toNat≠g.b.toNat
theorem X34{g:Gt}(ht:TwoQ g)(v:St)(β:Nat→Bool) : act g v β=c0 g β*v (xb β (msk g β))+c1 g β*v (xb β (flp g)):=by
 unfold act
 by_cases h12:g.k=12
 ·rw [if_pos h12,X9d β (msk g β) fun p=>by unfold msk;rw [if_neg (by omega),if_neg (by omega)]]
  unfold c0 c1
  rw [if_pos h12,X6a (by omega),if_neg Bool.false_ne_true]
  simp only [Xi,Xq,Xe,Xv,Xw,Xy,X02,X04,Xa,Xb,Xl,Xn,Xc,Xs]
 ·rw [if_neg h12]
  by_cases h9:g.k=9
  ·rw [if_pos h9]
   have e:(if β g.a.toNat then flipB β g.b.toNat else β)=xb β (msk g β):=by
    funext p
    unfold msk xb
    dsimp only
    rw [if_pos h9]
    cases β g.a.toNat
    ·simp
    ·rw [if_pos rfl]
     unfold flipB
     by_cases e:p=g.b.toNat<;>simp [e]
   rw [e]
   unfold c0 c1
   rw [if_neg h12,if_pos h9,X6a (by omega),if_neg Bool.false_ne_true]
   simp only [Xi,Xq,Xe,Xv,Xw,Xy,X02,X04,Xa,Xb,Xl,Xn,Xc,Xs]
  ·rw [if_neg h9]
   by_cases h10:g.k=10
   ·rw [if_pos h10,X9d β (msk g β) fun p=>by unfold msk;rw [if_neg (by omega),if_neg (by omega)]]
    unfold c0 c1
    rw [if_neg h12,if_neg h9,if_pos h10,X6a (by omega),if_neg Bool.false_ne_true]
    simp only [Xi,Xq,Xe,Xv,Xw,Xy,X02,X04,Xa,Xb,Xl,Xn,Xc,Xs]
   ·rw [if_neg h10]
    by_cases h11:g.k=11
    ·rw [if_pos h11]
     have hab:=ht (by omega)
     have e:(if β g.a.toNat=β g.b.toNat then β else flipB (flipB β g.a.toNat) g.b.toNat)=xb β (msk g β):=by
      funext p
      unfold msk xb
      dsimp only
      rw [if_neg h9,if_pos h11]
      by_cases e0:β g.a.toNat=β g.b.toNat
      ·rw [if_pos e0,e0];simp
      ·rw [if_neg e0]
       have e1:(β g.a.toNat != β g.b.toNat)=true:=by simpa using e0
       rw [e1]
       unfold flipB
       by_cases e2:p=g.b.toNat
       ·subst e2
        rw [if_pos rfl,if_neg (fun h=>hab h.symm)]
        simp
       ·rw [if_neg e2]
        by_cases e3:p=g.a.toNat<;>simp [e2,e3]
     rw [e]
     unfold c0 c1
     rw [if_neg h12,if_neg h9,if_neg h10,if_pos h11,X6a (by omega),if_neg Bool.false_ne_true]
     simp only [Xi,Xq,Xe,Xv,Xw,Xy,X02,X04,Xa,Xb,Xl,Xn,Xc,Xs]
    ·rw [if_neg h11]
     have ho:=Xiu h12 (by omega)
     have e:flipB β g.a.toNat=xb β (flp g):=by
      rw [Xi8]
      congr 1
      funext p
      unfold flp
      rw [ho];simp
     rw [X9d β (msk g β) fun p=>by unfold msk;rw [if_neg h9,if_neg h11],e]
     unfold c0 c1
     rw [if_neg h12,if_neg h9,if_neg h10,if_neg h11,ho,if_pos rfl]
def Sup(g:Gt)(q:Nat) : Prop:=(g.k≠12∧q=g.a.toNat)∨((9≤g.k∧g.k≤11)∧q=g.b.toNat)
def Dis(g h:Gt) : Prop:=∀ q,Sup g q→¬ Sup h q
theorem Dis.symm{g h:Gt}(hd:Dis g h) : Dis h g:=fun q h1 h2=>hd q h2 h1
theorem X8u{g:Gt}{β γ:Nat→Bool}(h:∀ q,Sup g q→β q=γ q) : c0 g β=c0 g γ:=by
 unfold c0
 split
 ·rfl
 ·rename_i h12
  have ha:=h _ (.inl ⟨h12,rfl⟩)
  split
  ·rfl
  ·split
   ·rw [ha,h _ (.inr ⟨by omega,rfl⟩)]
   ·split
    ·rfl
    ·rw [ha]
theorem X9c{g:Gt}{β γ:Nat→Bool}(h:∀ q,Sup g q→β q=γ q) : c1 g β=c1 g γ:=by
 unfold c1
 split
 ·rename_i ho
  have:=of_decide_eq_true ho
  rw [h _ (.inl ⟨this.1,rfl⟩)]
 ·rfl
theorem X6g{g:Gt}{β γ:Nat→Bool}(h:∀ q,Sup g q→β q=γ q) : msk g β=msk g γ:=by
 funext p
 unfold msk
 split
 ·rw [h _ (.inl ⟨by omega,rfl⟩)]
 ·split
  ·rw [h _ (.inl ⟨by omega,rfl⟩),h _ (.inr ⟨by omega,rfl⟩)]
  ·rfl
theorem Xcz{g:Gt}{β:Nat→Bool}{q:Nat}(h:¬ Sup g q) : msk g β q=false:=by
 unfold msk
 split
 ·rename_i h9
  rw [decide_eq_false fun e=>h (.inr ⟨by omega,e⟩)];rfl
 ·split
  ·rename_i h11
   rw [decide_eq_false fun e=>h (.inr ⟨by omega,e⟩),decide_eq_false fun e=>h (.inl ⟨by omega,e⟩)];rfl
  ·rfl
theorem Xch{g:Gt}{q:Nat}(h:¬ Sup g q) : flp g q=false:=by
 unfold flp
 cases ho:oneK g.k
 ·rfl
 ·have:=of_decide_eq_true ho
  rw [decide_eq_false fun e=>h (.inl ⟨this.1,e⟩)];rfl
theorem X69(β m m':Nat→Bool) : xb (xb β m) m'=xb (xb β m') m:=by
 funext p;unfold xb;cases β p<;>cases m p<;>cases m' p<;>rfl
theorem X9f{g h:Gt}(hd:Dis g h){β m:Nat→Bool}(hm:∀ q,¬ Sup g q→m q=false) : ∀ q,Sup h q→xb β m q=β q:=fun q hq=>by
 unfold xb
 rw [hm q fun h1=>hd q h1 hq]
 cases β q<;>rfl
theorem Xgt{g h:Gt}(hg:TwoQ g)(hh:TwoQ h)(hd:Dis g h)(v:St) : act g (act h v)=act h (act g v):=by
 funext β
 rw [X34 hg,X34 hh,X34 hh,X34 hh,X34 hg v,X34 hg v]
 have a1:=X9f hd (β:=β) (m:=msk g β) fun q hq=>Xcz hq
 have a2:=X9f hd (β:=β) (m:=flp g) fun q hq=>Xch hq
 have b1:=X9f hd.symm (β:=β) (m:=msk h β) fun q hq=>Xcz hq
 have b2:=X9f hd.symm (β:=β) (m:=flp h) fun q hq=>Xch hq
 rw [X8u a1,X8u a2,X9c a1,X9c a2,X6g a1,X6g a2,X8u b1,X8u b2,X9c b1,X9c b2,X6g b1,X6g b2]
 rw [X69 β (msk h β) (msk g β),X69 β (msk h β) (flp g),X69 β (flp h) (msk g β),X69 β (flp h) (flp g)]
 simp only [Xi,Xq,Xe,Xv,Xw,Xy,X02,X04,Xa,Xb,Xl,Xn,Xc,Xs]
def bkK(k:Int) : Int:=if k=5∨k=7 then k+1 else if k=6∨k=8 then k-1 else k
end Go.Proofs.YtlfjcmldfbfdbaaGreat
namespace Go.Proofs.YtlfjcmldfbfdbaaGreat
def qN(z:Rg) : Int:=z.a*z.a+z.b*z.b+z.c*z.c+z.d*z.d
theorem X65(x:Int) : 0≤x*x:=by
 have:=Int.natAbs_mul_self (a:=x)
 omega
theorem Xjx(z:Rg) : 0≤qN z:=by
 have h1:=X65 z.a
 have h2:=X65 z.b
 have h3:=X65 z.c
 have h4:=X65 z.d
 unfold qN
 omega
theorem Xnv(z:Rg) : qN (s2*z)=2*qN z:=by
 rw [X6m]
 unfold qN
 dsimp only
 grind
theorem Xno(z:Rg) : qN (om*z)=qN z:=by
 rw [Xkl]
 unfold qN
 dsimp only
 grind
theorem Xep:∀ (k:Nat) (z:Rg),qN (om^k*z)=qN z
 | 0,z=>by rw [X3j,show (1:Rg)*z=z from Xe z]
 | k+1,z=>by rw [X6u,show om^k*om*z=om^k*(om*z) from Xa _ _ _,Xep k,Xno]
theorem Xg2:∀ (k:Nat) (z:Rg),qN (s2^k*z)=2^k*qN z
 | 0,z=>by rw [X3j,show (1:Rg)*z=z from Xe z];omega
 | k+1,z=>by
  rw [X6u,show s2^k*s2*z=s2^k*(s2*z) from Xa _ _ _,Xg2 k,Xnv,Int.pow_succ]
  grind
theorem Xd5{x r:Int}(hr:0≤r)(h:x*x≤r*r) : -r≤x∧x≤r:=by
 have h1:=Int.natAbs_mul_self (a:=x)
 have h2:=Int.natAbs_mul_self (a:=r)
 have h3:x.natAbs*x.natAbs≤r.natAbs*r.natAbs:=by omega
 have h4:x.natAbs≤r.natAbs:=by
  rcases Nat.lt_or_ge r.natAbs x.natAbs with h5|h5
  ·exact absurd (Nat.mul_lt_mul'' h5 h5) (Nat.not_lt.2 h3)
  ·exact h5
 omega
def Cb(K:Int)(z:Rg) : Prop:=(-K≤z.a∧z.a≤K)∧(-K≤z.b∧z.b≤K)∧(-K≤z.c∧z.c≤K)∧(-K≤z.d∧z.d≤K)
theorem Xjq{r:Int}(hr:0≤r){z:Rg}(h:qN z≤r*r) : Cb r z:=by
 have h1:=X65 z.a
 have h2:=X65 z.b
 have h3:=X65 z.c
 have h4:=X65 z.d
 unfold qN at h
 exact ⟨Xd5 hr (by omega),Xd5 hr (by omega),Xd5 hr (by omega),Xd5 hr (by omega)⟩
theorem Xcj{x r:Int}(h:-r≤x∧x≤r) : x*x≤r*r:=by
 have h1:=Int.natAbs_mul_self (a:=x)
 have h2:=Int.natAbs_mul_self (a:=r)
 have:=Nat.mul_le_mul (show x.natAbs≤r.natAbs by omega) (show x.natAbs≤r.natAbs by omega)
 omega
theorem Xo5{r:Int}{z:Rg}(h:Cb r z) : qN z≤4*(r*r):=by
 have h1:=Xcj h.1
 have h2:=Xcj h.2.1
 have h3:=Xcj h.2.2.1
 have h4:=Xcj h.2.2.2
 unfold qN
 omega
theorem Xmc{r t:Int}{x y:Rg}(hx:Cb r x)(hy:Cb t y) : Cb (r+t) (x+y):=by
 obtain ⟨⟨a1,a2⟩,⟨a3,a4⟩,⟨a5,a6⟩,⟨a7,a8⟩⟩:=hx
 obtain ⟨⟨b1,b2⟩,⟨b3,b4⟩,⟨b5,b6⟩,⟨b7,b8⟩⟩:=hy
 refine ⟨?_,?_,?_,?_⟩
 ·show -(r+t)≤x.a+y.a∧x.a+y.a≤r+t;omega
 ·show -(r+t)≤x.b+y.b∧x.b+y.b≤r+t;omega
 ·show -(r+t)≤x.c+y.c∧x.c+y.c≤r+t;omega
 ·show -(r+t)≤x.d+y.d∧x.d+y.d≤r+t;omega
def BB:Int:=1000000000000000000
theorem X8m{z:Rg}(h:qN z≤BB) : rOk z=true:=by
 obtain ⟨h1,h2,h3,h4⟩:=Xjq (r:=1000000000) (by decide) (z:=z) (Int.le_trans h (by decide))
 exact X1q.2 ⟨h1,h2,h3,h4⟩
theorem Xfj(k:Nat) : (1:Int)≤2^k:=by
 induction k with
 | zero=>decide
 | succ k ih=>rw [Int.pow_succ];omega
theorem Xik{k:Nat}{x:Int}(h:0≤x) : x≤2^k*x:=by
 have:=Int.mul_le_mul_of_nonneg_right (Xfj k) h
 omega
theorem X6e{j i:Nat}{y z:Rg}(hz:z=s2^j*y)(hi:i≤j) : qN (s2^i*y)≤qN z:=by
 rw [hz,show j=(j-i)+i by omega,X1w,show s2^(j-i)*s2^i*y=s2^(j-i)*(s2^i*y) from Xa _ _ _,Xg2 (j-i)]
 exact Xik (Xjx _)
def Un(z:Rg) : Prop:=z=0∨∃ j:Nat,z=om^j
theorem Xel{z w:Rg}(h:Un z) : qN (z*w)≤qN w:=by
 rcases h with rfl|⟨j,rfl⟩
 ·rw [show (0:Rg)*w=0 from Xi w]
  have:qN 0=0:=rfl
  have:=Xjx w
  omega
 ·rw [Xep];exact Int.le_refl _
theorem X43:Un 0:=.inl rfl
theorem Xah(j:Nat) : Un (om^j):=.inr ⟨j,rfl⟩
theorem Xb0:Un 1:=.inr ⟨0,rfl⟩
theorem Xlx:Un (-1):=.inr ⟨4,by rfl⟩
theorem Xnj(k:Int)(x y:Bool) : Un (u1 k x y):=by
 unfold u1
 split
 ·split
  ·exact Xlx
  ·exact Xb0
 ·split
  ·split
   ·exact X43
   ·exact Xb0
  ·split
   ·split
    ·exact X43
    ·split
     ·exact Xah 6
     ·exact Xah 2
   ·split
    ·split
     ·exact Xah _
     ·exact Xb0
    ·exact X43
theorem Xg3{n:Int}{g:Gt}(h:gOk n g=true) : TwoQ g∧(1≤g.k∧g.k≤12):=by
 obtain ⟨_,hk,ha,hb⟩:=X0m h
 refine ⟨fun h9=>?_,by omega⟩
 have h1:=ha (by omega)
 have h2:=hb h9
 omega
theorem Xe8{x y:Dy}{m n:Nat}{z z':Rg}(hx:V x m z)(hy:V y n z')(ox:dOk x=true)(oy:dOk y=true)(he:m+n≤60)(hb:qN (z*z')≤BB) : ∃ w,dMulI x y=some w:=by
 have k1:=X25 ox
 have k2:=X25 oy
 obtain ⟨_,j,h1,h2⟩:=hx
 obtain ⟨_,l,h3,h4⟩:=hy
 have e:z*z'=s2^(j+l)*(x.num*y.num):=by rw [h2,h4,X1w];simp only [Xi,Xq,Xe,Xv,Xw,Xy,X02,X04,Xa,Xb,Xl,Xn,Xc,Xs]
 have b:=X6e (i:=0) e (Nat.zero_le _)
 rw [X3j,show (1:Rg)*(x.num*y.num)=x.num*y.num from Xe _] at b
 have hr:rOk (rMul x.num y.num)=true:=by rw [Xd2 k1.1 k2.1];exact X8m (Int.le_trans b hb)
 have h9:rIf2 (rMul x.num y.num) [x.num,y.num]=true:=by simp [rIf2,hr,k1.1,k2.1]
 unfold dMulI
 rw [if_pos (by rw [ox,oy,h9];rfl)]
 unfold dOf
 unfold rIf1
 rw [if_pos h9,if_pos (by rw [hr];simp only [Bool.true_and,Xh];omega)]
 exact ⟨_,rfl⟩
theorem X4p:∀ (k:Nat) (y:Rg),(∀ i,i≤k→rOk (s2^i*y)=true)→(raiseI k y).2=true
 | 0,y,_=>rfl
 | k+1,y,h=>by
  have h0:=h 0 (Nat.zero_le _)
  have h1:=h 1 (by omega)
  rw [X3j,show (1:Rg)*y=y from Xe y] at h0
  rw [show s2^1*y=s2*y by rw [X6u,X3j,Xe]] at h1
  have e:=X77 h0
  unfold raiseI
  rw [e,if_pos (by simp [rIf2,h0,h1])]
  exact X4p k _ fun i hi=>by
   have:=h (i+1) (by omega)
   rw [X6u,show s2^i*s2*y=s2^i*(s2*y) from Xa _ _ _] at this
   exact this
theorem Xef{x y:Dy}{m:Nat}{z z':Rg}(hx:V x m z)(hy:V y m z')(ox:dOk x=true)(oy:dOk y=true)(bx:qN z≤BB)(b_y:qN z'≤BB)(bs:qN (z+z')≤BB) : ∃ w,dAddI x y=some w:=by
 have k1:=X25 ox
 have k2:=X25 oy
 obtain ⟨_,j,h1,h2⟩:=hx
 obtain ⟨_,l,h3,h4⟩:=hy
 have p1:(dRaise x (max x.exp y.exp)).2=true:=X4p _ _ fun i hi=>X8m (Int.le_trans (X6e h2 (by omega)) bx)
 have p2:(dRaise y (max x.exp y.exp)).2=true:=X4p _ _ fun i hi=>X8m (Int.le_trans (X6e h4 (by omega)) b_y)
 have r1:=X3l _ _ k1.1 p1
 have r2:=X3l _ _ k2.1 p2
 have e0:rAdd (dRaise x (max x.exp y.exp)).1 (dRaise y (max x.exp y.exp)).1=(dRaise x (max x.exp y.exp)).1+(dRaise y (max x.exp y.exp)).1:=Xd6 r1.2 r2.2
 obtain ⟨t,ht⟩ : ∃ t:Nat,max x.exp y.exp+t=m:=⟨(m-max x.exp y.exp).toNat,by omega⟩
 have q1:z=s2^t*(dRaise x (max x.exp y.exp)).1:=by
  have:=r1.1
  unfold dRaise
  rw [this,h2,show j=t+(max x.exp y.exp-x.exp).toNat from by omega,X1w]
  simp only [Xi,Xq,Xe,Xv,Xw,Xy,X02,X04,Xa,Xb,Xl,Xn,Xc,Xs]
 have q2:z'=s2^t*(dRaise y (max x.exp y.exp)).1:=by
  have:=r2.1
  unfold dRaise
  rw [this,h4,show l=t+(max x.exp y.exp-y.exp).toNat from by omega,X1w]
  simp only [Xi,Xq,Xe,Xv,Xw,Xy,X02,X04,Xa,Xb,Xl,Xn,Xc,Xs]
 have q3:z+z'=s2^t*((dRaise x (max x.exp y.exp)).1+(dRaise y (max x.exp y.exp)).1):=by rw [q1,q2];simp only [Xi,Xq,Xe,Xv,Xw,Xy,X02,X04,Xa,Xb,Xl,Xn,Xc,Xs]
 have b:=X6e (i:=0) q3 (Nat.zero_le _)
 rw [X3j,show (1:Rg)*((dRaise x (max x.exp y.exp)).1+(dRaise y (max x.exp y.exp)).1)=(dRaise x (max x.exp y.exp)).1+(dRaise y (max x.exp y.exp)).1 from Xe _,← e0] at b
 have hr:=X8m (Int.le_trans b bs)
 have h9:rIf2 (rAdd (dRaise x (max x.exp y.exp)).1 (dRaise y (max x.exp y.exp)).1) [(dRaise x (max x.exp y.exp)).1,(dRaise y (max x.exp y.exp)).1]=true:=by
  have o1:rOk (dRaise x (max x.exp y.exp)).1=true:=r1.2
  have o2:rOk (dRaise y (max x.exp y.exp)).1=true:=r2.2
  simp [rIf2,hr,o1,o2]
 unfold dAddI
 rw [if_pos (by rw [ox,oy];rfl),if_pos (by rw [p1,p2,h9];rfl)]
 unfold dOf
 unfold rIf1
 rw [if_pos h9,if_pos (by rw [hr];simp only [Bool.true_and,Xh];omega)]
 exact ⟨_,rfl⟩
theorem Xlb:dOk dZ=true:=by decide
theorem X85{a b:Mx}{i j m m':Nat}{za zb:Nat→Rg}{r:Int}(hr:0≤r)(hm:m+m'≤60) : ∀ n,(∀ k,k<n→V (a.at i k) m (za k)∧dOk (a.at i k)=true∧Un (za k))→(∀ k,k<n→V (b.at k j) m' (zb k)∧dOk (b.at k j)=true∧qN (zb k)≤r*r)→
  (n:Int)*r≤500000000→∃ s,dotI a b i j n=some s∧dOk s=true∧Cb (n*r) (sumN (fun k=>za k*zb k) n)
 | 0,_,_,_=>⟨dZ,rfl,Xlb,by unfold Cb sumN;simp;decide⟩
 | n+1,ha,hb,hn=>by
  have hn':((n+1:Nat) : Int)*r=(n:Int)*r+r:=by grind
  rw [hn'] at hn ⊢
  have hnr:0≤(n:Int)*r:=Int.mul_nonneg (by omega) hr
  obtain ⟨s,h1,h2,h3⟩:=X85 (a:=a) (b:=b) (i:=i) (j:=j) hr hm n (fun k hk=>ha k (by omega)) (fun k hk=>hb k (by omega)) (by omega)
  obtain ⟨va,oa,ua⟩:=ha n (by omega)
  obtain ⟨vb,ob,rb⟩:=hb n (by omega)
  have hrB:r*r≤BB:=by
   have:=Int.mul_le_mul (show r≤500000000 by omega) (show r≤500000000 by omega) hr (by decide)
   unfold BB
   omega
  have hp:=Int.le_trans (Xel (w:=zb n) ua) rb
  obtain ⟨x,h4⟩:=Xe8 va vb oa ob hm (Int.le_trans hp hrB)
  have hvx:=Xjv h4 va vb
  have hvs:=X8k n (fun k hk=>(ha k (by omega)).1) (fun k hk=>(hb k (by omega)).1) h1
  have hc:Cb ((n:Int)*r+r) (sumN (fun k=>za k*zb k) n+za n*zb n):=Xmc h3 (Xjq hr hp)
  have big:∀ {K:Int} {z:Rg},0≤K→K≤500000000→Cb K z→qN z≤BB:=fun {K z} h0 hK h=>by
   have h5:=Xo5 h
   have:=Int.mul_le_mul hK hK h0 (by decide)
   unfold BB
   omega
  obtain ⟨w,h5⟩:=Xef hvs hvx.1 h2 hvx.2 (big hnr (by omega) h3) (Int.le_trans hp hrB) (big (by omega) (by omega) hc)
  refine ⟨w,?_,(Xjf h5 hvs hvx.1).2,hc⟩
  rw [dotI,h1,Option.bind_some,h4,Option.bind_some,h5]
theorem Xc9{f:Nat→Option Dy} : ∀ n,(∀ k,k<n→∃ z,f k=some z)→∃ l,seqO f n=some l
 | 0,_=>⟨[],rfl⟩
 | n+1,h=>by
  obtain ⟨l,h1⟩:=Xc9 n fun k hk=>h k (by omega)
  obtain ⟨z,h2⟩:=h n (by omega)
  exact ⟨_,X5t h1 h2⟩
theorem Xfa{R C:Int}{f:Nat→Nat→Option Dy}(hR:isDimB R=true)(hC:isDimB C=true)(h:∀ i j,i<R.toNat→j<C.toNat→∃ z,f i j=some z) : ∃ M,matOf R C f=some M:=by
 obtain ⟨l,hl⟩:=Xc9 (f:=gridG f C.toNat) (R.toNat*C.toNat) fun k hk=>by
  have hC0:0<C.toNat:=by have:=X23 hC;omega
  exact h _ _ (Nat.div_lt_of_lt_mul (by rw [Nat.mul_comm];exact hk)) (Nat.mod_lt _ hC0)
 exact ⟨⟨R,C,l⟩,by unfold matOf;rw [if_pos (by rw [hR,hC];rfl),hl];rfl⟩
theorem Xjy{N:Nat}{g:Gt}(i k:Nat) : Un (zc N g i k):=by
 unfold zc
 split
 ·split
  ·exact Xah 1
  ·exact X43
 ·split
  ·split
   ·exact Xah _
   ·exact X43
  ·split
   ·exact Xnj _ _ _
   ·exact X43
end Go.Proofs.YtlfjcmldfbfdbaaGreat
namespace Go.Proofs.YtlfjcmldfbfdbaaGreat
open Go.RowKit
section
variable {α : Type} {P : Program} {a : Act} {w : World} {n : Nat} {e : Env} {ty : TypeId} {pos : String} {af : Array Edge} {g : Option (Nat × Bool)} {d : Option Tmp}
theorem Xif{T b k sz:Nat}{enc:α→List Value}{l:List α}{u:α}{v:Value}{r:List Value}(hb:Blk w b T (l.flatMap enc))(hsz:∀ x,(enc x).length=sz)(hu:l[k]? = some u)(hv:enc u=v::r) : At w ⟨b,k*sz,none⟩ (v::(r++(l.drop (k+1)).flatMap enc)):=by
 have h:=hb.at (k*sz)
 rw [← X4w hsz,X9r hu,List.flatMap_cons,hv] at h
 exact h
theorem Xh4{t T b k sz:Nat}{x:Operand}{enc:α→List Value}{l:List α}{u:α}{v:Value}{r:List Value}(hf:Fr a n e)(hx:ev e x=some (.pointer (some ⟨b,k*sz,none⟩)))(h1:OneT P t)(hb:Blk w b T (l.flatMap enc))(hsz:∀ x,(enc x).length=sz)(hu:l[k]? = some u)(hv:enc u=v::r) : Ev P ⟨d,.load t x,ty,pos,af,g⟩ a w v:=
 Xaw hf hx h1 (Xif hb hsz hu hv)
theorem X8j{t T b k sz:Nat}{x:Operand}{enc:α→List Value}{l:List α}{u:α}{v:Value}{r:List Value}(hx:ev e x=some (.pointer (some ⟨b,k*sz,none⟩)))(h1:OneT P t)(hb:Blk w b T (l.flatMap enc))(hsz:∀ x,(enc x).length=sz)(hu:l[k]? = some u)(hv:enc u=v::r) : EvW P ⟨d,.load t x,ty,pos,af,g⟩ n e w v:=fun a hf=>Xh4 hf hx h1 hb hsz hu hv
end
def mxq(best:List Int)(qs:List Int)(d:Int) : Int:=qs.foldl (fun d q=>max d (best.getD q.toNat 0)) d
def mxq1(best:List Int)(qs:List Int)(d:Int) : Int:=qs.foldl (fun d q=>max d (best.getD q.toNat 0+1)) d
def setq(best:List Int)(qs:List Int)(d:Int) : List Int:=qs.foldl (fun b q=>b.set q.toNat d) best
def isTi(k:Int) : Int:=if isTk k=true then 1 else 0
def tdStep(s:List Int×Int)(g:Gt) : List Int×Int:=(setq s.1 (qubI g) (mxq s.1 (qubI g) 0+isTi g.k),max s.2 (mxq s.1 (qubI g) 0+isTi g.k))
def laStep(s:List Int×List Int)(g:Gt) : List Int×List Int:=(setq s.1 (qubI g) (mxq1 s.1 (qubI g) 0),s.2++[mxq1 s.1 (qubI g) 0])
def five0:List Int:=[0,0,0,0,0]
def tdI(gs:List Gt) : Int:=(gs.foldl tdStep (five0,0)).2
def lyI(gs:List Gt) : List Int:=(gs.foldl laStep (five0,[])).2
def cmx(gs:List Gt)(g:Gt)(m:List Int) : Nat→Int
 | 0=>0
 | j+1=>if comS g (gs.getD j gZ)=true then max (cmx gs g m j) (m.getD j 0) else cmx gs g m j
def notW(k:Int) : Int:=if (k != 12)=true then 1 else 0
def lyS(gs:List Gt) : Nat→List Int
 | 0=>[]
 | i+1=>lyS gs i++[cmx gs (gs.getD i gZ) (lyS gs i) i+notW (gs.getD i gZ).k]
def tdS(gs:List Gt) : Nat→List Int×Int
 | 0=>([],0)
 | i+1=>((tdS gs i).1++[cmx gs (gs.getD i gZ) (tdS gs i).1 i+isTi (gs.getD i gZ).k],max (tdS gs i).2 (cmx gs (gs.getD i gZ) (tdS gs i).1 i+isTi (gs.getD i gZ).k))
theorem Xeh{best qs:List Int}{k:Nat}{u:Int}(h:qs[k]? = some u) : mxq best (qs.take (k+1)) 0=max (mxq best (qs.take k) 0) (best.getD u.toNat 0):=by
 obtain ⟨h1,h2⟩:=List.getElem?_eq_some_iff.1 h
 unfold mxq
 rw [List.take_succ_eq_append_getElem h1,h2,List.foldl_append];rfl
theorem Xdq{best qs:List Int}{k:Nat}{u:Int}(h:qs[k]? = some u) : mxq1 best (qs.take (k+1)) 0=max (mxq1 best (qs.take k) 0) (best.getD u.toNat 0+1):=by
 obtain ⟨h1,h2⟩:=List.getElem?_eq_some_iff.1 h
 unfold mxq1
 rw [List.take_succ_eq_append_getElem h1,h2,List.foldl_append];rfl
theorem X7u{best qs:List Int}{k:Nat}{u d:Int}(h:qs[k]? = some u) : setq best (qs.take (k+1)) d=(setq best (qs.take k) d).set u.toNat d:=by
 obtain ⟨h1,h2⟩:=List.getElem?_eq_some_iff.1 h
 unfold setq
 rw [List.take_succ_eq_append_getElem h1,h2,List.foldl_append];rfl
theorem X3m(d:Int) : ∀ (qs best:List Int),(setq best qs d).length=best.length
 | [],_=>rfl
 | q::qs,best=>by
  show (setq (best.set q.toNat d) qs d).length=_
  rw [X3m d qs,List.length_set]
theorem X57{σ:Type}{f:σ→Gt→σ}{s:σ}{gs:List Gt}{k:Nat}{u:Gt}(h:gs[k]? = some u) : (gs.take (k+1)).foldl f s=f ((gs.take k).foldl f s) u:=by
 obtain ⟨h1,h2⟩:=List.getElem?_eq_some_iff.1 h
 rw [List.take_succ_eq_append_getElem h1,h2,List.foldl_append];rfl
theorem X8z{gs:List Gt}{k:Nat}{u:Gt}(h:gs[k]? = some u) : gs.getD k gZ=u:=by
 rw [List.getD_eq_getElem?_getD,h];rfl
theorem X5f(best:List Int)(v:Int) : ∀ (qs:List Int) (d:Int),mxq best qs d≤v↔d≤v∧∀ q ∈ qs,best.getD q.toNat 0≤v
 | [],d=>by simp [mxq]
 | q::qs,d=>by
  show mxq best qs (max d (best.getD q.toNat 0))≤v↔_
  rw [X5f best v qs,Int.max_le]
  simp only [List.mem_cons,forall_eq_or_imp,and_assoc]
theorem X6i(best:List Int)(v:Int) : ∀ (qs:List Int) (d:Int),mxq1 best qs d≤v↔d≤v∧∀ q ∈ qs,best.getD q.toNat 0+1≤v
 | [],d=>by simp [mxq1]
 | q::qs,d=>by
  show mxq1 best qs (max d (best.getD q.toNat 0+1))≤v↔_
  rw [X6i best v qs,Int.max_le]
  simp only [List.mem_cons,forall_eq_or_imp,and_assoc]
theorem X3r(gs:List Gt)(g:Gt)(m:List Int)(v:Int) : ∀ i,cmx gs g m i≤v↔0≤v∧∀ j,j<i→comS g (gs.getD j gZ)=true→m.getD j 0≤v
 | 0=>by simp [cmx]
 | i+1=>by
  unfold cmx
  have ih:=X3r gs g m v i
  by_cases hc:comS g (gs.getD i gZ)=true
  ·rw [if_pos hc,Int.max_le,ih]
   constructor
   ·rintro ⟨⟨h1,h2⟩,h3⟩
    refine ⟨h1,fun j hj hcj=>?_⟩
    by_cases e:j=i
    ·rw [e];exact h3
    ·exact h2 j (by omega) hcj
   ·rintro ⟨h1,h2⟩
    exact ⟨⟨h1,fun j hj=>h2 j (by omega)⟩,h2 i (by omega) hc⟩
  ·rw [if_neg hc,ih]
   constructor
   ·rintro ⟨h1,h2⟩
    refine ⟨h1,fun j hj hcj=>?_⟩
    by_cases e:j=i
    ·rw [e] at hcj;exact absurd hcj hc
    ·exact h2 j (by omega) hcj
   ·rintro ⟨h1,h2⟩
    exact ⟨h1,fun j hj=>h2 j (by omega)⟩
theorem X4v{d:Int} : ∀ (qs best:List Int) {p:Nat},(∀ q ∈ qs,0≤q∧q≤4)→best.length=5→p<5→(setq best qs d).getD p 0=if (p:Int) ∈ qs then d else best.getD p 0
 | [],best,p,_,_,_=>by simp [setq]
 | q::qs,best,p,hq,hl,hp=>by
  show (setq (best.set q.toNat d) qs d).getD p 0=_
  rw [X4v qs _ (fun x hx=>hq x (by simp [hx])) (by rw [List.length_set];exact hl) hp]
  have hq0:=hq q (by simp)
  by_cases h1:(p:Int) ∈ qs
  ·rw [if_pos h1,if_pos (by simp [h1])]
  ·rw [if_neg h1]
   by_cases h2:(p:Int)=q
   ·rw [if_pos (by simp [h2]),List.getD_eq_getElem?_getD,show q.toNat=p by omega,List.getElem?_set_self (by omega)];rfl
   ·rw [if_neg (by simp [h1,h2]),List.getD_eq_getElem?_getD,List.getElem?_set_ne (by omega),List.getD_eq_getElem?_getD]
theorem Xc6{x y:Int}(h:∀ v,x≤v↔y≤v) : x=y:=by
 have h1:=(h x).1 (Int.le_refl _)
 have h2:=(h y).2 (Int.le_refl _)
 omega
structure DInv (gs:List Gt) (i:Nat) (best m:List Int) : Prop where
 len:best.length=5
 mlen:m.length=i
 le:∀ p,p<5→∀ v,0≤v→(best.getD p 0≤v↔∀ j,j<i→(p:Int) ∈ qubI (gs.getD j gZ)→m.getD j 0≤v)
 nn:∀ p,p<5→0≤best.getD p 0
theorem DInv.start(gs:List Gt) : DInv gs 0 five0 []:=⟨rfl,rfl,fun p hp v hv=>by
 have:p=0∨p=1∨p=2∨p=3∨p=4:=by omega
 constructor
 ·intro _ j hj;omega
 ·intro _;rcases this with rfl|rfl|rfl|rfl|rfl<;>exact hv,fun p hp=>by
 have:p=0∨p=1∨p=2∨p=3∨p=4:=by omega
 rcases this with rfl|rfl|rfl|rfl|rfl<;>exact Int.le_refl _⟩
theorem DInv.eq{gs:List Gt}{i:Nat}{best m:List Int}(h:DInv gs i best m){g:Gt}(hq:∀ x ∈ qubI g,0≤x∧x≤4) : mxq best (qubI g) 0=cmx gs g m i:=by
 refine Xc6 fun v=>?_
 rw [X5f,X3r]
 constructor
 ·rintro ⟨h0,h1⟩
  refine ⟨h0,fun j hj hc=>?_⟩
  rw [X90] at hc
  obtain ⟨x,x1,x2⟩:=X47.1 hc
  have hb:=hq x x2
  have:=(h.le x.toNat (by omega) v h0).1 (h1 x x2) j hj
  rw [show ((x.toNat:Nat) : Int)=x by omega] at this
  exact this x1
 ·rintro ⟨h0,h1⟩
  refine ⟨h0,fun q hqm=>(h.le q.toNat (by have:=hq q hqm;omega) v h0).2 fun j hj hp=>h1 j hj ?_⟩
  rw [show ((q.toNat:Nat) : Int)=q by have:=hq q hqm;omega] at hp
  rw [X90]
  exact X47.2 ⟨q,hp,hqm⟩
theorem DInv.next{gs:List Gt}{i:Nat}{best m:List Int}(h:DInv gs i best m){g:Gt}(hg:gs.getD i gZ=g)(hq:∀ x ∈ qubI g,0≤x∧x≤4){d:Int}(hd:mxq best (qubI g) 0≤d) : DInv gs (i+1) (setq best (qubI g) d) (m++[d]):=by
 obtain ⟨d0,dq⟩:=(X5f best d (qubI g) 0).1 hd
 have em:∀ j,j<i→(m++[d]).getD j 0=m.getD j 0:=fun j hj=>by
  rw [List.getD_eq_getElem?_getD,List.getElem?_append_left (by rw [h.mlen];exact hj),List.getD_eq_getElem?_getD]
 have ed:(m++[d]).getD i 0=d:=by
  rw [List.getD_eq_getElem?_getD,List.getElem?_append_right (by rw [h.mlen];omega),h.mlen,Nat.sub_self];rfl
 refine ⟨by rw [X3m,h.len],by simp [h.mlen],fun p hp v hv=>?_,fun p hp=>?_⟩
 ·rw [X4v _ _ hq h.len hp]
  have hle:=h.le p hp v hv
  split
  ·rename_i hpg
   constructor
   ·intro hdv j hj hpj
    by_cases e:j=i
    ·rw [e,ed];exact hdv
    ·rw [em j (by omega)]
     have hb:=dq _ hpg
     rw [Int.toNat_natCast] at hb
     exact hle.1 (by omega) j (by omega) hpj
   ·intro hall
    have:=hall i (by omega) (by rw [hg];exact hpg)
    rwa [ed] at this
  ·rename_i hpg
   rw [hle]
   constructor
   ·intro hall j hj hpj
    by_cases e:j=i
    ·rw [e,hg] at hpj;exact absurd hpj hpg
    ·rw [em j (by omega)];exact hall j (by omega) hpj
   ·intro hall j hj hpj
    have:=hall j (by omega) hpj
    rwa [em j hj] at this
 ·rw [X4v _ _ hq h.len hp]
  split
  ·exact d0
  ·exact h.nn p hp
theorem X8p(k:Int) : 0≤isTi k∧isTi k≤1:=by unfold isTi;split<;>omega
theorem Xib{best qs:List Int}(hb:∀ q ∈ qs,0≤best.getD q.toNat 0) : mxq1 best qs 0=if qs=[] then 0 else mxq best qs 0+1:=by
 split
 ·rename_i h;subst h;rfl
 ·rename_i h
  refine Xc6 fun v=>?_
  rw [X6i,show mxq best qs 0+1≤v↔mxq best qs 0≤v-1 by omega,X5f]
  obtain ⟨q0,l,rfl⟩:=List.exists_cons_of_ne_nil h
  constructor
  ·rintro ⟨h0,h1⟩
   have:=h1 q0 (by simp)
   have:=hb q0 (by simp)
   exact ⟨by omega,fun q hq=>by have:=h1 q hq;omega⟩
  ·rintro ⟨h0,h1⟩
   exact ⟨by omega,fun q hq=>by have:=h1 q hq;omega⟩
theorem X9v(g:Gt) : qubI g=[]↔g.k=12:=by
 unfold qubI
 split
 ·rename_i h;simp [h]
 ·rename_i h
  split<;>simp [h]
theorem Xgn{gs:List Gt}{n:Int}(hg:∀ g ∈ gs,gOk n g=true) : ∀ i,i≤gs.length→DInv gs i ((gs.take i).foldl tdStep (five0,0)).1 (tdS gs i).1∧((gs.take i).foldl tdStep (five0,0)).2=(tdS gs i).2
 | 0,_=>⟨DInv.start gs,rfl⟩
 | i+1,hi=>by
  obtain ⟨h1,h2⟩:=Xgn hg i (by omega)
  have hu:gs[i]? = some (gs.getD i gZ):=by rw [List.getD_eq_getElem?_getD,List.getElem?_eq_getElem (by omega)];rfl
  have hq:∀ x ∈ qubI (gs.getD i gZ),0≤x∧x≤4:=fun x hx=>X28 (hg _ (List.mem_of_getElem? hu)) hx
  rw [X57 hu]
  have e:=h1.eq hq
  have ht:=X8p (gs.getD i gZ).k
  constructor
  ·show DInv gs (i+1) (setq _ _ _) (_++[_])
   rw [← e]
   exact h1.next rfl hq (by omega)
  ·show max _ _=max _ _
   rw [e,h2]
theorem Xfs{gs:List Gt}{n:Int}(hg:∀ g ∈ gs,gOk n g=true) : ∀ i,i≤gs.length→DInv gs i ((gs.take i).foldl laStep (five0,[])).1 (lyS gs i)∧((gs.take i).foldl laStep (five0,[])).2=lyS gs i
 | 0,_=>⟨DInv.start gs,rfl⟩
 | i+1,hi=>by
  obtain ⟨h1,h2⟩:=Xfs hg i (by omega)
  have hu:gs[i]? = some (gs.getD i gZ):=by rw [List.getD_eq_getElem?_getD,List.getElem?_eq_getElem (by omega)];rfl
  have hq:∀ x ∈ qubI (gs.getD i gZ),0≤x∧x≤4:=fun x hx=>X28 (hg _ (List.mem_of_getElem? hu)) hx
  rw [X57 hu]
  have e:=h1.eq hq
  have e2:=Xib (best:=((gs.take i).foldl laStep (five0,[])).1) (qs:=qubI (gs.getD i gZ)) fun q hqm=>h1.nn _ (by have:=hq q hqm;omega)
  have e3:mxq1 ((gs.take i).foldl laStep (five0,[])).1 (qubI (gs.getD i gZ)) 0=cmx gs (gs.getD i gZ) (lyS gs i) i+notW (gs.getD i gZ).k:=by
   rw [e2]
   by_cases h12:(gs.getD i gZ).k=12
   ·have hn:=(X9v _).2 h12
    rw [if_pos hn,← e,hn]
    unfold notW
    rw [h12];rfl
   ·rw [if_neg fun h=>h12 ((X9v _).1 h),e]
    unfold notW
    rw [if_pos (by simpa using h12)]
  have hge:mxq ((gs.take i).foldl laStep (five0,[])).1 (qubI (gs.getD i gZ)) 0≤mxq1 ((gs.take i).foldl laStep (five0,[])).1 (qubI (gs.getD i gZ)) 0:=by
   rw [e3,← e];unfold notW;split<;>omega
  constructor
  ·show DInv gs (i+1) (setq _ _ _) (_++[_])
   rw [← e3]
   exact h1.next rfl hq hge
  ·show _++[_]=_++[_]
   rw [e3,h2]
theorem Xje{gs:List Gt}{n:Int}(hg:∀ g ∈ gs,gOk n g=true) : tdI gs=(tdS gs gs.length).2:=by
 have:=(Xgn hg gs.length (Nat.le_refl _)).2
 rwa [List.take_length] at this
theorem Xjn{gs:List Gt}{n:Int}(hg:∀ g ∈ gs,gOk n g=true) : lyI gs=lyS gs gs.length:=by
 have:=(Xfs hg gs.length (Nat.le_refl _)).2
 rwa [List.take_length] at this
theorem X6j(gs:List Gt) : ∀ i,(lyS gs i).length=i
 | 0=>rfl
 | i+1=>by rw [lyS,List.length_append,X6j gs i];rfl
theorem X38(gs:List Gt) : ∀ i,(tdS gs i).1.length=i
 | 0=>rfl
 | i+1=>by show (_++[_]).length=_;rw [List.length_append,X38 gs i];rfl
theorem X41{m:List Int}{d:Int}{i j:Nat}(h:m.length=i) : (m++[d]).getD j 0=if j<i then m.getD j 0 else if j=i then d else 0:=by
 rw [List.getD_eq_getElem?_getD]
 split
 ·rw [List.getElem?_append_left (by omega),List.getD_eq_getElem?_getD]
 ·rw [List.getElem?_append_right (by omega)]
  split
  ·rename_i e;subst e;rw [h,Nat.sub_self];rfl
  ·rw [List.getElem?_eq_none (by simp;omega)];rfl
theorem Xac{gs:List Gt} : ∀ i j,j<i→(tdS gs i).1.getD j 0≤(lyS gs i).getD j 0
 | 0,j,h=>by omega
 | i+1,j,h=>by
  have ih:=Xac (gs:=gs) i
  show ((tdS gs i).1++[_]).getD j 0≤(lyS gs i++[_]).getD j 0
  rw [X41 (X38 gs i),X41 (X6j gs i)]
  split
  ·exact ih j (by assumption)
  ·rw [if_pos (by omega),if_pos (by omega)]
   have hc:cmx gs (gs.getD i gZ) (tdS gs i).1 i≤cmx gs (gs.getD i gZ) (lyS gs i) i:=(X3r _ _ _ _ _).2 ⟨((X3r gs (gs.getD i gZ) (lyS gs i) _ i).1 (Int.le_refl _)).1,fun j hj hcj=>by
    have:=((X3r gs (gs.getD i gZ) (lyS gs i) _ i).1 (Int.le_refl _)).2 j hj hcj
    have:=ih j hj
    omega⟩
   have:isTi (gs.getD i gZ).k≤notW (gs.getD i gZ).k:=by
    unfold isTi notW isTk
    split
    ·rename_i h1
     rw [if_pos]
     ·exact Int.le_refl _
     ·revert h1;simp;omega
    ·split<;>omega
   omega
theorem Xbo(gs:List Gt)(v:Int) : ∀ i,(tdS gs i).2≤v↔0≤v∧∀ j,j<i→(tdS gs i).1.getD j 0≤v
 | 0=>by simp [tdS]
 | i+1=>by
  rw [tdS]
  dsimp only
  rw [Int.max_le,Xbo gs v i]
  constructor
  ·rintro ⟨⟨h0,h1⟩,h2⟩
   refine ⟨h0,fun j hj=>?_⟩
   rw [X41 (X38 gs i)]
   split
   ·exact h1 j (by assumption)
   ·rw [if_pos (by omega)];exact h2
  ·rintro ⟨h0,h1⟩
   refine ⟨⟨h0,fun j hj=>?_⟩,?_⟩
   ·have:=h1 j (by omega)
    rwa [X41 (X38 gs i),if_pos hj] at this
   ·have:=h1 i (by omega)
    rwa [X41 (X38 gs i),if_neg (by omega),if_pos rfl] at this
theorem Xag{gs:List Gt} : ∀ i,i≤gs.length→∀ j,j<i→(tdS gs i).1.getD j 0≤(tcN (gs.take i) : Int)
 | 0,_,j,h=>by omega
 | i+1,hi,j,h=>by
  have ih:=Xag (gs:=gs) i (by omega)
  have hu:gs[i]? = some (gs.getD i gZ):=by rw [List.getD_eq_getElem?_getD,List.getElem?_eq_getElem (by omega)];rfl
  have hst:=Xim hu
  have ht:=X8p (gs.getD i gZ).k
  have e:(if isTk (gs.getD i gZ).k=true then (1:Int) else 0)=isTi (gs.getD i gZ).k:=rfl
  rw [e] at hst
  show ((tdS gs i).1++[_]).getD j 0≤_
  rw [X41 (X38 gs i),hst]
  split
  ·have:=ih j (by assumption);omega
  ·rw [if_pos (by omega)]
   have hc:cmx gs (gs.getD i gZ) (tdS gs i).1 i≤(tcN (gs.take i) : Int):=(X3r _ _ _ _ _).2 ⟨by omega,fun j hj _=>ih j hj⟩
   omega
theorem Xgj{gs:List Gt}{d:Int}(hd0:0≤d)(hd:∀ x ∈ lyS gs gs.length,x≤d) : (tdS gs gs.length).2≤d∧(tdS gs gs.length).2≤(tcN gs:Int):=by
 constructor
 ·refine (Xbo gs d gs.length).2 ⟨hd0,fun j hj=>Int.le_trans (Xac _ j hj) (hd _ ?_)⟩
  rw [List.getD_eq_getElem?_getD,List.getElem?_eq_getElem (by rw [X6j];exact hj)]
  exact List.getElem_mem _
 ·refine (Xbo gs _ gs.length).2 ⟨by omega,fun j hj=>?_⟩
  have:=Xag (gs:=gs) gs.length (Nat.le_refl _) j hj
  rwa [List.take_length] at this
#print axioms Xgj
end Go.Proofs.YtlfjcmldfbfdbaaGreat
namespace Go.Proofs.YtlfjcmldfbfdbaaGreat
theorem Xnk{N j k:Nat}(hN5:N≤5)(hj:j<2^N){b:Gt}(hb:gOk N b=true)(hk:k<2^N) : act b (eb N j) (pt N k)=zc N b k j:=by
 rw [← X8g hb hk (eb N j),X3a (t:=j) _ hj fun t ht hne=>by rw [Xjk hN5 ht hj,if_neg hne];exact Xq _]
 rw [Xjk hN5 hj hj,if_pos rfl]
 exact Xv _
theorem Xnn{z:Rg}(h:Un z) : qN z≤1*1:=by
 have h1:=Xel (w:=1) h
 rw [Xv] at h1
 exact Int.le_trans h1 (by decide)
theorem X7o(N:Nat)(g:Gt) : (gateS (N:Int) g).rows=((2^N:Nat) : Int)∧(gateS (N:Int) g).cols=((2^N:Nat) : Int):=by
 constructor
 ·show ((2^(N:Int).toNat:Nat) : Int)=_
  rw [Int.toNat_natCast]
 ·show ((2^(N:Int).toNat:Nat) : Int)=_
  rw [Int.toNat_natCast]
theorem Xc7{N:Nat}(hN5:1≤N∧N≤5){a b:Gt}(ha:gOk N a=true)(hb:gOk N b=true) :
  ∃ M,mulI (gateS N a) (gateS N b)=some M∧mOk M=true∧M.rows=((2^N:Nat) : Int)∧M.cols=((2^N:Nat) : Int)∧∀ i j,i<2^N→j<2^N→V (M.at i j) (hN a+hN b) (act a (act b (eb N j)) (pt N i)):=by
 have oa:=(X0x ha).2
 have ob:=(X0x hb).2
 obtain ⟨ra,ca⟩:=X7o N a
 obtain ⟨rb,cb⟩:=X7o N b
 have p32:=X6b hN5.2
 have h1:hN a≤1:=by unfold hN;split<;>omega
 have h2:hN b≤1:=by unfold hN;split<;>omega
 obtain ⟨M,hM⟩ : ∃ M,mulI (gateS N a) (gateS N b)=some M:=by
  unfold mulI
  rw [if_pos (by rw [oa,ob,ca,rb];simp),ca,Int.toNat_natCast]
  refine Xfa (X54 oa).1 (X54 ob).2 fun i j hi hj=>?_
  rw [ra,Int.toNat_natCast] at hi
  rw [cb,Int.toNat_natCast] at hj
  obtain ⟨s,h,_⟩:=X85 (a:=gateS N a) (b:=gateS N b) (i:=i) (j:=j) (m:=hN a) (m':=hN b) (za:=fun k=>zc N a i k) (zb:=fun k=>zc N b k j) (r:=1) (by omega) (by omega) (2^N)
   (fun k hk=>⟨by rw [X40 ha hi hk];exact X8l ha i k,Mx.at_ok (X2j oa) i k,Xjy i k⟩)
   (fun k hk=>⟨by rw [X40 hb hk hj];exact X8l hb k j,Mx.at_ok (X2j ob) k j,Xnn (Xjy k j)⟩) (by omega)
  exact ⟨s,h⟩
 obtain ⟨q1,q2,q3,_,_⟩:=Xdg hM
 refine ⟨M,hM,((X29 oa ob (by rw [ca,rb])).1 M hM).2.1,by rw [q2,ra],by rw [q3,cb],fun i j hi hj=>?_⟩
 have h:=q1 i j (by rw [ra,Int.toNat_natCast];exact hi) (by rw [cb,Int.toNat_natCast];exact hj)
 rw [ca,Int.toNat_natCast] at h
 have hv:=X8k (m:=hN a) (m':=hN b) (za:=fun k=>zc N a i k) (zb:=fun k=>act b (eb N j) (pt N k)) (2^N) (fun k hk=>by rw [X40 ha hi hk];exact X8l ha i k) (fun k hk=>by
  rw [Xnk hN5.2 hj hb hk,X40 hb hk hj];exact X8l hb k j) h
 rw [X8g ha hi] at hv
 exact hv
theorem Xj8{A B:Mx}{R C:Nat}(ha:mOk A=true)(hb:mOk B=true)(r1:A.rows=(R:Int))(r2:B.rows=(R:Int))(c1:A.cols=(C:Int))(c2:B.cols=(C:Int)) : eqM A B=true↔∀ i j,i<R→j<C→A.at i j=B.at i j:=by
 have l1:=(X2k ha).2.2
 have l2:=(X2k hb).2.2
 rw [r1,c1,Int.toNat_natCast,Int.toNat_natCast] at l1
 rw [r2,c2,Int.toNat_natCast,Int.toNat_natCast] at l2
 have key:A.cells=B.cells↔∀ i j,i<R→j<C→A.at i j=B.at i j:=by
  constructor
  ·intro h i j _ _
   unfold Mx.at
   rw [h,c1,c2]
  ·intro h
   apply List.ext_getElem
   ·rw [l1,l2]
   ·intro m h1 h2
    have hC:0<C:=by
     rcases Nat.eq_zero_or_pos C with e|e
     ·rw [e,Nat.mul_zero] at l1;omega
     ·exact e
    have h3:=h (m/C) (m % C) (Nat.div_lt_of_lt_mul (by rw [Nat.mul_comm];omega)) (Nat.mod_lt _ hC)
    unfold Mx.at at h3
    rw [c1,c2,Int.toNat_natCast,show m/C*C+m % C=m from by rw [Nat.mul_comm];exact Nat.div_add_mod m _] at h3
    rw [List.getD_eq_getElem?_getD,List.getD_eq_getElem?_getD,List.getElem?_eq_getElem h1,List.getElem?_eq_getElem h2] at h3
    exact h3
 rw [← key]
 unfold eqM
 rw [r1,r2,c1,c2]
 simp
theorem X93{N:Nat}(hN5:1≤N∧N≤5){a b:Gt}(ha:gOk N a=true)(hb:gOk N b=true) :
  ∃ A B,mulI (gateS N a) (gateS N b)=some A∧mulI (gateS N b) (gateS N a)=some B∧(eqM A B=true↔∀ v β,act a (act b v) β=act b (act a v) β)∧
   (eqM A B=true↔∀ i j,i<2^N→j<2^N→act a (act b (eb N j)) (pt N i)=act b (act a (eb N j)) (pt N i)):=by
 obtain ⟨A,hA,oA,r1,c1,v1⟩:=Xc7 hN5 ha hb
 obtain ⟨B,hB,oB,r2,c2,v2⟩:=Xc7 hN5 hb ha
 have base:eqM A B=true↔∀ i j,i<2^N→j<2^N→act a (act b (eb N j)) (pt N i)=act b (act a (eb N j)) (pt N i):=by
  rw [Xj8 oA oB r1 r2 c1 c2]
  constructor
  ·intro h i j hi hj
   have e1:=v1 i j hi hj
   have e2:=v2 i j hi hj
   rw [h i j hi hj] at e1
   rw [Nat.add_comm] at e2
   exact e1.fun e2
  ·intro h i j hi hj
   have e1:=v1 i j hi hj
   have e2:=v2 i j hi hj
   rw [h i j hi hj] at e1
   rw [Nat.add_comm] at e2
   exact Xnc (Mx.at_ok (X2j oA) i j) (Mx.at_ok (X2j oB) i j) e1 e2
 refine ⟨A,B,hA,hB,base.trans ⟨fun h v β=>?_,fun h i j _ _=>h _ _⟩,base⟩
 obtain ⟨i,hi,_,hr⟩:=run_basis' hN5.2 v β
 have la:=Xfm ha
 have lb:=Xfm hb
 have e1:=hr [b,a] (fun g hg=>by simp at hg;rcases hg with rfl|rfl<;>assumption)
 have e2:=hr [a,b] (fun g hg=>by simp at hg;rcases hg with rfl|rfl<;>assumption)
 show run [b,a] v β=run [a,b] v β
 rw [e1,e2]
 exact X5o _ fun j hj=>congrArg _ (h i j hi hj)
theorem Xco{g:Gt}{q:Nat}(h:Sup g q) : ∃ x ∈ qubI g,q=x.toNat:=by
 unfold qubI
 rcases h with ⟨h1,h2⟩|⟨h1,h2⟩
 ·rw [if_neg h1]
  split
  ·exact ⟨g.a,by simp,h2⟩
  ·exact ⟨g.a,by simp,h2⟩
 ·rw [if_neg (by omega),if_pos (Xh.2 h1)]
  exact ⟨g.b,by simp,h2⟩
theorem Xm8{n:Int}{g h:Gt}(hg:gOk n g=true)(hh:gOk n h=true)(hc:comI g h=false) : Dis g h:=fun q h1 h2=>by
 obtain ⟨x,x1,x2⟩:=Xco h1
 obtain ⟨y,y1,y2⟩:=Xco h2
 have b1:=X28 hg x1
 have b2:=X28 hh y1
 obtain rfl:x=y:=by omega
 have:=X47.2 ⟨x,x1,y1⟩
 rw [hc] at this
 cases this
theorem X5e{n:Int}{g h:Gt}(hg:gOk n g=true)(hh:gOk n h=true) : commS g h=true↔∀ v β,act g (act h v) β=act h (act g v) β:=by
 by_cases hc:comS g h=true
 ·have P:PairOk (unionS g h) g h:=X6k hg hh (X2q.1 hc) (X2c g h) (fun x=>X1c)
  have h3:=X66 hc
  have hl1:1≤(unionS g h).length:=by
   obtain ⟨x,h1,_⟩:=X2q.1 hc
   exact List.length_pos_of_mem (X1c.2 (.inl h1))
  have gg:GoodG (unionS g h) n g:=⟨hg,fun x hx=>X1c.2 (.inl hx)⟩
  have gh:GoodG (unionS g h) n h:=⟨hh,fun x hx=>X1c.2 (.inr hx)⟩
  have hi:=X2c g h
  have hlow:=P.low
  have hgs:=P.gs
  have hhs:=P.hs
  obtain ⟨A,B,hA,hB,_,e1⟩:=X93 (N:=(unionS g h).length) (by omega) hgs hhs
  have tA:=((X29 (X0x hgs).2 (X0x hhs).2 rfl).1 A hA).1
  have tB:=((X29 (X0x hhs).2 (X0x hgs).2 rfl).1 B hB).1
  have ec:commS g h=eqM A B:=by
   rw [commS,if_pos hc,tA]
   dsimp only
   rw [tB]
  rw [ec]
  generalize unionS g h=us at *
  constructor
  ·intro he v β
   have hs:=(X93 (N:=us.length) (by omega) hgs hhs)
   obtain ⟨A',B',hA',hB',e2,_⟩:=hs
   rw [hA] at hA'
   rw [hB] at hB'
   injection hA' with hA'
   injection hB' with hB'
   rw [← hA',← hB'] at e2
   have e3:=e2.1 he (fun γ=>v (inj us β γ)) (fun j=>β (us.getD j 0).toNat)
   have r1:=X53 β [h,g] v (n:=n) (fun x hx=>by simp at hx;rcases hx with rfl|rfl<;>assumption) (fun j=>β (us.getD j 0).toNat)
   have r2:=X53 β [g,h] v (n:=n) (fun x hx=>by simp at hx;rcases hx with rfl|rfl<;>assumption) (fun j=>β (us.getD j 0).toNat)
   rw [Xkr fun x hx=>(hlow x hx).1] at r1 r2
   exact r1.trans (e3.trans r2.symm)
  ·intro he
   refine e1.2 fun i j hi2 hj=>?_
   let β0:Nat→Bool:=fun _=>false
   let v:St:=fun β=>eb us.length j (fun t=>β (us.getD t 0).toNat)
   have hw:(fun γ=>v (inj us β0 γ))=eb us.length j:=by
    funext γ
    refine Xg9 us.length j _ _ fun q hq=>?_
    have hu:us[q]? = some (us.getD q 0):=by rw [List.getD_eq_getElem?_getD,List.getElem?_eq_getElem hq];rfl
    have hm:us.getD q 0 ∈ us:=List.mem_of_getElem? hu
    have h0:=hlow _ hm
    have hm':(((us.getD q 0).toNat:Nat) : Int) ∈ us:=by rw [show (((us.getD q 0).toNat:Nat) : Int)=us.getD q 0 by omega];exact hm
    rw [Xbb hm',show (((us.getD q 0).toNat:Nat) : Int)=us.getD q 0 by omega,X5l hi hu,Int.toNat_natCast]
   have r1:=X53 β0 [h,g] v (n:=n) (fun x hx=>by simp at hx;rcases hx with rfl|rfl<;>assumption) (pt us.length i)
   have r2:=X53 β0 [g,h] v (n:=n) (fun x hx=>by simp at hx;rcases hx with rfl|rfl<;>assumption) (pt us.length i)
   rw [hw] at r1 r2
   have e3:=he v (inj us β0 (pt us.length i))
   exact r1.symm.trans (e3.trans r2)
 ·have e:commS g h=true:=by rw [commS,if_neg hc]
  have hc':comI g h=false:=by
   have h9:=Xok g h
   rw [← h9]
   simpa using hc
  rw [e]
  simp only [true_iff]
  intro v β
  rw [Xgt (Xg3 hg).1 (Xg3 hh).1 (Xm8 hg hh hc')]
theorem Xcr{N:Nat}{a b:Gt}(hN5:1≤N∧N≤5)(ha:gOk N a=true)(hb:gOk N b=true) : ∃ A B,mulI (gateS N a) (gateS N b)=some A∧mulI (gateS N b) (gateS N a)=some B∧eqM A B=commI a b:=by
 obtain ⟨A,B,hA,hB,e,_⟩:=X93 hN5 ha hb
 refine ⟨A,B,hA,hB,?_⟩
 rw [Bool.eq_iff_iff,e,Xcx hb ha,X5e hb ha]
 exact ⟨fun h v β=>(h v β).symm,fun h v β=>(h v β).symm⟩
#print axioms Xcr
end Go.Proofs.YtlfjcmldfbfdbaaGreat
namespace Go.Proofs.YtlfjcmldfbfdbaaGreat
open Go.RowKit
def tdC(c:Cx) : Int:=if cOk c=true then tdI c.gs else 0
def tdD(c:Cx) : Int:=if cOk c=true then (tdS c.gs c.gs.length).2 else 0
def Bd5(best:List Int)(K:Int) : Prop:=best.length=5∧∀ p,p<5→0≤best.getD p 0∧best.getD p 0≤K
theorem Bd5.start:Bd5 [0,0,0,0,0] ((0:Nat) : Int):=⟨rfl,fun p hp=>by
 have:p=0∨p=1∨p=2∨p=3∨p=4:=by omega
 rcases this with rfl|rfl|rfl|rfl|rfl<;>exact ⟨Int.le_refl _,Int.le_refl _⟩⟩
theorem Bd5.at{best:List Int}{K:Int}(h:Bd5 best K){q:Int}(hq:0≤q∧q≤4) : 0≤best.getD q.toNat 0∧best.getD q.toNat 0≤K:=h.2 _ (by omega)
theorem Xm6{best:List Int}{K:Int}(h:Bd5 best K)(hK:0≤K){qs:List Int}(hq:∀ q ∈ qs,0≤q∧q≤4) : 0≤mxq best qs 0∧mxq best qs 0≤K:=
 ⟨((X5f best _ qs 0).1 (Int.le_refl _)).1,(X5f best K qs 0).2 ⟨hK,fun q hqm=>(h.at (hq q hqm)).2⟩⟩
theorem Xbw{best:List Int}{K:Int}(h:Bd5 best K)(hK:0≤K){qs:List Int}(hq:∀ q ∈ qs,0≤q∧q≤4) : 0≤mxq1 best qs 0∧mxq1 best qs 0≤K+1:=
 ⟨((X6i best _ qs 0).1 (Int.le_refl _)).1,(X6i best (K+1) qs 0).2 ⟨by omega,fun q hqm=>by have:=(h.at (hq q hqm)).2;omega⟩⟩
theorem Xcg{best:List Int}{K d:Int}(h:Bd5 best K){qs:List Int}(hq:∀ q ∈ qs,0≤q∧q≤4)(hd:0≤d∧d≤K+1) : Bd5 (setq best qs d) (K+1):=
 ⟨by rw [X3m];exact h.1,fun p hp=>by
  rw [X4v qs best hq h.1 hp]
  split
  ·exact hd
  ·have:=h.2 p hp;omega⟩
theorem Xar{qs:List Int}{j:Nat}(h:∀ q ∈ qs,0≤q∧q≤4) : ∀ q ∈ qs.take j,0≤q∧q≤4:=fun q hq=>h q (List.mem_of_mem_take hq)
theorem Xh7{l:List Gt}{k j:Nat}{u:Gt}(h:(l.take k)[j]? = some u) : l[j]? = some u:=by
 have h1:=(List.getElem?_eq_some_iff.1 h).1
 rw [List.length_take] at h1
 rwa [List.getElem?_take_of_lt (by omega)] at h
theorem Xi2{gs:List Gt}{g v:Gt}{m:List Int}{j:Nat}(hv:gs[j]? = some v)(hc:comS g v=true) : cmx gs g m (j+1)=max (cmx gs g m j) (m.getD j 0):=by
 rw [cmx,X8z hv,if_pos hc]
theorem Xfd{gs:List Gt}{g v:Gt}{m:List Int}{j:Nat}(hv:gs[j]? = some v)(hc:comS g v=false) : cmx gs g m (j+1)=cmx gs g m j:=by
 rw [cmx,X8z hv,if_neg (by simp [hc])]
theorem Xbr{gs:List Gt}{k:Nat}{u:Gt}{m:List Int}{z d:Int}(h:(m,z)=tdS gs k)(hu:gs[k]? = some u)(hd:d=cmx gs u m k+isTi u.k) : (m++[d],max z d)=tdS gs (k+1):=by
 rw [tdS,← h,X8z hu,hd]
theorem Xku{k:Int}(h:isTk k=true) : isTi k=1:=by unfold isTi;rw [if_pos h]
theorem Xlu{k:Int}(h:isTk k=false) : isTi k=0:=by unfold isTi;rw [if_neg (by simp [h])]
theorem Xkm{gs:List Gt}{g:Gt}{m:List Int}{K:Int}(hK:0≤K)(h:∀ x ∈ m,0≤x∧x≤K) : ∀ i,0≤cmx gs g m i∧cmx gs g m i≤K:=fun i=>by
 refine ⟨((X3r gs g m _ i).1 (Int.le_refl _)).1,(X3r gs g m K i).2 ⟨hK,fun j _ _=>?_⟩⟩
 rw [List.getD_eq_getElem?_getD]
 by_cases hj:j<m.length
 ·rw [List.getElem?_eq_getElem hj]
  exact (h _ (List.getElem_mem hj)).2
 ·rw [List.getElem?_eq_none (by omega)]
  exact hK
theorem Xca{m:List Int}{K d:Int}(h:∀ x ∈ m,0≤x∧x≤K)(hd:0≤d∧d≤K+1) : ∀ x ∈ m++[d],0≤x∧x≤K+1:=fun x hx=>by
 rcases List.mem_append.1 hx with hx|hx
 ·have:=h x hx;omega
 ·rw [List.mem_singleton] at hx;rw [hx];exact hd
theorem Xec{l:List Int}{k:Nat}(h:l.getD k 0=0) : l=l.set k 0:=by
 apply List.ext_getElem
 ·simp
 ·intro i h1 h2
  rw [List.getElem_set]
  split
  ·rename_i e
   subst e
   rw [List.getD_eq_getElem?_getD,List.getElem?_eq_getElem h1] at h
   exact h
  ·rfl
theorem Xaq{l:List Int}{k:Nat}{x:Int}(h:k<l.length) : (l.set k x).getD k 0=x:=by
 rw [List.getD_eq_getElem?_getD,List.getElem?_set_self h];rfl
theorem Xfn{l:List Int}{k j:Nat}{x:Int}(h:j≠k) : (l.set k x).getD j 0=l.getD j 0:=by
 rw [List.getD_eq_getElem?_getD,List.getElem?_set_ne (Ne.symm h),List.getD_eq_getElem?_getD]
theorem Xfg{l:List Int}{k:Nat}{x:Int}(h:k<l.length) : (l.set k x).take (k+1)=l.take k++[x]:=by
 rw [List.take_succ_eq_append_getElem (by simpa using h),List.getElem_set_self,List.take_set_of_le (Nat.le_refl _)]
theorem Xgl(n:Nat) : ∀ j,0≤j→(List.replicate n (0:Int)).getD j 0=0:=fun j _=>by
 rw [List.getD_eq_getElem?_getD]
 by_cases h:j<n
 ·rw [List.getElem?_replicate_of_lt h];rfl
 ·rw [List.getElem?_eq_none (by simp;omega)];rfl
theorem Xgx{l:List Int}(h:1≤l.length) : ∀ x ∈ l.take 1,x≤l.getD 0 0:=fun x hx=>by
 match l,h with
 | y::l,_=>
  simp only [List.take_succ_cons,List.take_zero,List.mem_singleton] at hx
  subst hx
  exact Int.le_refl _
theorem Xf0{l:List Int}{k:Nat}{u m:Int}(h:∀ x ∈ l.take k,x≤m)(hu:l[k]? = some u) : ∀ x ∈ l.take (k+1),x≤max m u:=fun x hx=>by
 obtain ⟨h1,h2⟩:=List.getElem?_eq_some_iff.1 hu
 rw [List.take_succ_eq_append_getElem h1,h2,List.mem_append,List.mem_singleton] at hx
 rcases hx with hx|rfl
 ·have:=h x hx;omega
 ·omega
end Go.Proofs.YtlfjcmldfbfdbaaGreat
namespace Go.Proofs.YtlfjcmldfbfdbaaGreat
def cnC(c:Cx) : Int:=if cOk c=true then ((cntP isTk c.gs:Nat) : Int) else 0
theorem Xlp(n:Int)(g h:Gt) : (gOk n g&&gOk n h&&commI g h)=(gOk n g&&gOk n h&&commS g h):=by
 cases h1:gOk n g
 ·rfl
 ·cases h2:gOk n h
  ·rfl
  ·have e:commI g h=commS g h:=by
    rw [Bool.eq_iff_iff,Xcx h2 h1,X5e h2 h1,X5e h1 h2]
    exact ⟨fun h v β=>(h v β).symm,fun h v β=>(h v β).symm⟩
   rw [e]
theorem Xmj(c:Cx) : tdC c=tdD c:=by
 unfold tdC tdD
 split
 ·rename_i hc
  exact Xje (X1j hc).2.2
 ·rfl
theorem Xmt(gs:List Gt) : cntP isTk gs=tcN gs:=by
 unfold cntP tcN
 rw [List.countP_eq_length_filter]
theorem Xfc{c:Cx}{d:Int}(hc:cOk c=true)(h1:tdI c.gs≤d)(h2:tdI c.gs≤(tcN c.gs:Int))
  (h:(((!(cOk c))||(decide (d<tdC c)))||(decide (cnC c<tdC c)))=true) : False:=by
 unfold tdC cnC at h
 rw [hc,Xmt] at h
 simp at h
 omega
theorem X9s{n:Int}{a b:Gt}(ha:gOk n a=true)(hb:gOk n b=true)(hn3:n≤3) :
  ∃ A B,mulI ((gateI n a).getD mZ) ((gateI n b).getD mZ)=some A∧mulI ((gateI n b).getD mZ) ((gateI n a).getD mZ)=some B∧A.cells.length≤2305843009213693951∧eqM A B=commI a b∧
   ((gateI n a).getD mZ).cells.length≤2305843009213693951∧((gateI n b).getD mZ).cells.length≤2305843009213693951:=by
 have hn:=(X0m ha).1
 obtain ⟨N,rfl⟩ : ∃ N:Nat,n=N:=⟨n.toNat,by omega⟩
 obtain ⟨A,B,hA,hB,e⟩:=Xcr (N:=N) (by omega) ha hb
 have ga:=X0x ha
 have gb:=X0x hb
 rw [ga.1,gb.1,Option.getD_some,Option.getD_some]
 refine ⟨A,B,hA,hB,X6v ((X29 ga.2 gb.2 rfl).1 A hA).2.1,e,X6v ga.2,X6v gb.2⟩
theorem Xcl{n:Int}{a b:Gt}{A B:Mx}(ha:gOk n a=true)(hb:gOk n b=true)(hA:mulI ((gateI n a).getD mZ) ((gateI n b).getD mZ)=some A)(hB:mulI ((gateI n b).getD mZ) ((gateI n a).getD mZ)=some B)(e:eqM A B=commI a b) :
  (((mulI ((gateI n b).getD mZ) ((gateI n a).getD mZ)).isSome)&&((decide (((mulI ((gateI n a).getD mZ) ((gateI n b).getD mZ)).getD mZ).rows=((mulI ((gateI n b).getD mZ) ((gateI n a).getD mZ)).getD mZ).rows)&&decide (((mulI ((gateI n a).getD mZ) ((gateI n b).getD mZ)).getD mZ).cols=((mulI ((gateI n b).getD mZ) ((gateI n a).getD mZ)).getD mZ).cols)&&decide (((mulI ((gateI n a).getD mZ) ((gateI n b).getD mZ)).getD mZ).cells=((mulI ((gateI n b).getD mZ) ((gateI n a).getD mZ)).getD mZ).cells))==(gOk n a&&gOk n b&&commI a b)))=true:=by
 rw [hA,hB,ha,hb,← e,Option.getD_some,Option.getD_some]
 unfold eqM
 simp
end Go.Proofs.YtlfjcmldfbfdbaaGreat
set_option maxHeartbeats 1000000
set_option maxRecDepth 4000
namespace Go.Proofs.YtlfjcmldfbfdbaaGreat
open Go.RowKit
theorem Xob(w0:World)(c:Cx)(Ac:Option Addr)(cc:Nat)(hr_c:Rd w0 w0.heap.size 24 encG Ac c.gs)(hln:c.gs.length≤2305843009213693951) : Ret Tryz.prog 11 [.agg #[vi c.n,.slice Ac c.gs.length cc]] w0 (fun v w=>v=.tuple #[vi (tdC c),.bool (cOk c)]∧Below w0.heap.size w0 w):=by
 refine enter Tryz.func11 rfl 59 rfl rfl ?_
 intro a hf
 have hW:Below w0.heap.size w0 w0:=Below.refl _ _
 refine Zs hf fun _ hK2=>?_
 refine Zf (X0j (zs:=[vi c.n,.slice Ac c.gs.length cc]) rfl rfl) ?_;rintro _ w1 ⟨b3,rfl,hl3,hE,hB3⟩
 have hlo3:=Nat.le_trans hW.size hl3
 replace hW:=btr hW hE
 refine Za rfl<|Za rfl ?_
 refine Zt hK2 fun a hf=>?_
 refine wp_seq_k fun _ hK4=>?_
 refine Zs hf fun _ hK5=>?_
 refine Ze (Vn X1k hB3) ?_
 refine Zf (Vc (F55 _ c Ac cc (hr_c.below' hW).top hln) Xcv) ?_;rintro _ w2 ⟨rfl,hE⟩
 replace hB3:=hB3.below hE
 replace hW:=btr hW hE
 refine Ze (X15 rfl) ?_
 refine Zt hK5 fun a hf=>?_
 refine Xm hf rfl (fun hc6=>?_) (fun hc6=>?_)
 ·have hc6b:=hc6
  have hcf:cOk c=false:=by revert hc6;cases cOk c<;>simp
  refine Zs hf fun _ hK7=>?_
  refine Za rfl<|Za rfl ?_
  refine Zt hK7 fun a hf=>?_
  refine wp_ret ?_
  refine X7 ?_
  refine X2 hf (X12 hf rfl rfl rfl) ?_
  exact ⟨by unfold tdC;rw [hcf];rfl,hW⟩
 have hc6b:=hc6
 have hc:cOk c=true:=by revert hc6;cases cOk c<;>simp
 obtain ⟨hcn,hcl,hcg⟩:=X1j hc
 refine wp_skip ?_
 refine hK4 _ _ ?_
 refine Zs hf fun _ hK8=>?_
 refine Ze (Xt (ps:=[]) (cs:=[vi 0,vi 0,vi 0,vi 0,vi 0]) rfl (fun _=>by first|rfl|kernel_rfl)) ?_
 refine Zf (X6 (zs:=[vi 0,vi 0,vi 0,vi 0,vi 0]) Xfz rfl) ?_;rintro _ w3 ⟨b9,rfl,hl9,hE,hB9⟩
 have hlo9:=Nat.le_trans hW.size hl9
 replace hB3:=hB3.below hE
 replace hW:=btr hW hE
 refine Zo (Vw [vi 0,vi 0,vi 0,vi 0,vi 0] Xcc hB9) ?_;rintro _ w4 ⟨ho,hb⟩
 have hold:=hB9
 replace hB3:=hB3.only ho (Blk.ne hB3 hold rfl)
 replace hW:=Below.only hW ho hlo9
 clear hold
 have hB9:=hb
 clear hb ho
 refine Za rfl ?_
 refine Zt hK8 fun a hf=>?_
 refine wp_seq_k fun _ hK10=>?_
 refine Zs hf fun _ hK11=>?_
 refine Ze (Vd rfl X1f 1)<|Ze (X0 rfl X2t (hB3.at 1))<|Ze (X14 rfl X0w)<|Zm rfl ?_
 refine Zt hK11 fun a hf=>?_
 refine wp_block ?_
 refine X0c (σ:=Nat×(List Int)×Int) (fun (s:Nat×(List Int)×Int) (a:Act) (w:World)=>match s with|(k,best,z)=>Fr a 59 [(4,.pointer (some ⟨b9,0,none⟩)),(5,vi z),(18,.slice Ac c.gs.length cc),(19,vi (c.gs.length:Int)),(20,vi (k:Int))]∧(k≤c.gs.length)∧((best,z)=(c.gs.take k).foldl tdStep (five0,0))∧(Bd5 best (k:Int))∧(0≤z∧z≤(k:Int))∧Blk w b9 89 (best.flatMap encI)∧Below w0.heap.size w0 w) (fun (s:Nat×(List Int)×Int)=>match s with|(k,best,z)=>c.gs.length-k) (0,[0,0,0,0,0],0) ?_ ?_
 ·exact ⟨hf.sub ⟨rfl,rfl,rfl,rfl,rfl,trivial⟩,(Nat.zero_le _),rfl,Bd5.start,(by omega),hB9,hW⟩
 rintro ⟨k,best,z⟩ a w5 ⟨hf,hk,hbz,hbs,hz,hB9,hW⟩
 refine Zs hf fun _ hK12=>?_
 refine Ze (X16 rfl rfl) ?_
 refine Zt hK12 fun a hf=>?_
 refine wp_seq_k fun _ hK13=>?_
 refine Xm hf rfl (fun hc14=>?_) (fun hc14=>?_)
 ·have hc14b:=hc14
  have hc14:=of_decide_eq_true hc14
  obtain ⟨u15,hu15⟩:=Xx (l:=c.gs) (k:=k) (by omega)
  have hst:=X57 (f:=tdStep) (s:=(five0,0)) hu15
  have hqb:∀ x ∈ qubI u15,0≤x∧x≤4:=fun x hx=>X28 (hcg _ (List.mem_of_getElem? hu15)) hx
  have hql:=X20 u15
  have hl5:=hbs.1
  have hit:0≤(if isTk u15.k=true then (1:Int) else 0)∧(if isTk u15.k=true then (1:Int) else 0)≤1:=X8p _
  refine wp_skip ?_
  refine hK13 _ _ ?_
  refine wp_seq_k fun _ hK16=>?_
  refine wp_block ?_
  refine Zs hf fun _ hK17=>?_
  refine Zi (k:=k) (u:=u15) (enc:=encG) (l:=c.gs) trivial rfl rfl X0w X0o X11 (hr_c.below' hW) hu15 rfl ?_;intro p19 hat18
  refine Ze (X0i (l:=[vi u15.k,vi u15.a,vi u15.b]) rfl Xo hat18 rfl) ?_
  refine Zf (X6 (zs:=[vi 0,vi 0,vi 0]) X2h rfl) ?_;rintro _ w6 ⟨b20,rfl,hl20,hE,hB20⟩
  have hlo20:=Nat.le_trans hW.size hl20
  have haw1_20:=(hr_c.below' hW).away hl20
  replace hB9:=hB9.below hE
  replace hW:=btr hW hE
  refine Zo (Vw [vi u15.k,vi u15.a,vi u15.b] X0o hB20) ?_;rintro _ w7 ⟨ho,hb⟩
  have hold:=hB20
  replace hB9:=hB9.only ho (Blk.ne hB9 hold rfl)
  replace hW:=Below.only hW ho hlo20
  clear hold
  have hB20:=hb
  clear hb ho
  refine Zt hK17 fun a hf=>?_
  refine Zs hf fun _ hK21=>?_
  refine Za rfl ?_
  refine Zt hK21 fun a hf=>?_
  refine wp_seq_k fun _ hK22=>?_
  refine Zs hf fun _ hK23=>?_
  refine Ze (Vn Xo hB20) ?_
  refine Zf (Vc (F96 _ u15) X5z) ?_;rintro _ w8 ⟨A24,c24,rfl,ho24,hE⟩
  replace ho24:=ho24.lower hW.size
  replace hB9:=hB9.below hE
  replace hB20:=hB20.below hE
  replace hW:=btr hW hE
  refine Ze (X14 rfl X03)<|Zm rfl ?_
  refine Zt hK23 fun a hf=>?_
  refine wp_block ?_
  refine X0c (σ:=Nat×Int) (fun (s:Nat×Int) (a:Act) (w:World)=>match s with|(j,d)=>Fr a 59 [(4,.pointer (some ⟨b9,0,none⟩)),(5,vi z),(7,.pointer (some ⟨b20,0,none⟩)),(8,vi d),(18,.slice Ac c.gs.length cc),(19,vi (c.gs.length:Int)),(20,vi (k:Int)),(25,.slice A24 (qubI u15).length c24),(26,vi ((qubI u15).length:Int)),(27,vi (j:Int))]∧(j≤(qubI u15).length)∧(d=mxq best ((qubI u15).take j) 0)∧Blk w b9 89 (best.flatMap encI)∧Blk w b20 24 [vi u15.k,vi u15.a,vi u15.b]∧Own w w0.heap.size 3 1 encI A24 c24 (qubI u15)∧Below w0.heap.size w0 w) (fun (s:Nat×Int)=>match s with|(j,d)=>(qubI u15).length-j) (0,0) ?_ ?_
  ·exact ⟨hf.sub ⟨rfl,rfl,rfl,rfl,rfl,rfl,rfl,rfl,rfl,rfl,trivial⟩,(Nat.zero_le _),rfl,hB9,hB20,ho24,hW⟩
  rintro ⟨j,d⟩ a w9 ⟨hf,hj,hd,hB9,hB20,ho24,hW⟩
  have hdb:=Xm6 hbs (by omega) (Xar hqb (j:=j))
  rw [← hd] at hdb
  refine Zs hf fun _ hK25=>?_
  refine Ze (X16 rfl rfl) ?_
  refine Zt hK25 fun a hf=>?_
  refine wp_seq_k fun _ hK26=>?_
  refine Xm hf rfl (fun hc27=>?_) (fun hc27=>?_)
  ·have hc27b:=hc27
   have hc27:=of_decide_eq_true hc27
   obtain ⟨u28,hu28⟩:=Xx (l:=(qubI u15)) (k:=j) (by omega)
   have hq9:=hqb _ (List.mem_of_getElem? hu28)
   have hms:=Xeh (best:=best) hu28
   have hb9:=hbs.at hq9
   refine wp_skip ?_
   refine hK26 _ _ ?_
   refine wp_seq_k fun _ hK29=>?_
   refine wp_block ?_
   refine Zs hf fun _ hK30=>?_
   refine Zi (k:=j) (u:=u28) (enc:=encI) (l:=(qubI u15)) trivial rfl rfl X03 X1a Xp ho24.rd hu28 rfl ?_;intro p32 hat31
   refine Ze (X0 rfl X3 hat31)<|Za rfl ?_
   refine Zt hK30 fun a hf=>?_
   refine Zr hf ?_
   refine Zm rfl<|Zm rfl<|Ze (X48 (k:=(u28).toNat) rfl rfl Tryz.underlying89 X1a (by omega) (by omega) (Nat.zero_add _))<|Ze (X8j (enc:=encI) (l:=best) (u:=(best.getD (u28).toNat 0)) (k:=(u28).toNat) rfl X3 hB9 Xp (X2b (by omega)) rfl)<|Ze (Xfe rfl rfl) ?_
   refine Za rfl ?_
   refine Zn fun a hf=>?_
   refine Xr ?_
   refine hK29 _ _ ?_
   refine Zr hf ?_
   refine Ze (X0a rfl rfl (by omega) (by omega))<|Zm rfl ?_
   refine Zn fun a hf=>?_
   refine Xz ?_
   exact ⟨(j+1,max d (best.getD (u28).toNat 0)),⟨hf.sub ⟨rfl,rfl,rfl,rfl,rfl,rfl,rfl,rfl,rfl,rfl,trivial⟩,(by omega),(by rw [hms,hd]),hB9,hB20,ho24,hW⟩,(by first|omega|(dsimp only;omega))⟩
  have hc27b:=hc27
  have hc27:=of_decide_eq_false hc27
  have hd9:d=mxq best (qubI u15) 0:=by rw [hd,List.take_of_length_le (by omega)]
  refine wp_exit ?_
  refine Xu ?_
  refine Xu ?_
  refine X0f ?_
  refine hK22 _ _ ?_
  refine Zs hf fun _ hK33=>?_
  refine Zm rfl<|Ze (Vd rfl X0e 0)<|Ze (X0 rfl X3 (hB20.at 0)) ?_
  refine Zf (Vc (Xjt _ u15.k) Xck) ?_;rintro _ w10 ⟨rfl,hE⟩
  replace hB9:=hB9.below hE
  replace hB20:=hB20.below hE
  replace ho24:=ho24.below hE
  replace hW:=btr hW hE
  refine Zf (Vc (F59 _ (isTk u15.k)) Xd3) ?_;rintro _ _ ⟨rfl,rfl⟩
  refine Ze (X0a rfl rfl (by omega) (by omega))<|Za rfl ?_
  refine Zt hK33 fun a hf=>?_
  refine wp_seq_k fun _ hK34=>?_
  refine Zs hf fun _ hK35=>?_
  refine Ze (Vn Xo hB20) ?_
  refine Zf (Vc (F96 _ u15) X5z) ?_;rintro _ w11 ⟨A36,c36,rfl,ho36,hE⟩
  replace ho36:=ho36.lower hW.size
  replace hB9:=hB9.below hE
  replace hB20:=hB20.below hE
  replace hW:=btr hW hE
  refine Ze (X14 rfl X03)<|Zm rfl ?_
  refine Zt hK35 fun a hf=>?_
  refine wp_block ?_
  refine X0c (σ:=Nat×(List Int)) (fun (s:Nat×(List Int)) (a:Act) (w:World)=>match s with|(i,b2)=>Fr a 59 [(4,.pointer (some ⟨b9,0,none⟩)),(5,vi z),(8,vi (d+(if (isTk u15.k)=true then 1 else 0))),(18,.slice Ac c.gs.length cc),(19,vi (c.gs.length:Int)),(20,vi (k:Int)),(44,.slice A36 (qubI u15).length c36),(45,vi ((qubI u15).length:Int)),(46,vi (i:Int))]∧(i≤(qubI u15).length)∧(b2=setq best ((qubI u15).take i) (d+(if isTk u15.k=true then 1 else 0)))∧Blk w b9 89 (b2.flatMap encI)∧Own w w0.heap.size 3 1 encI A36 c36 (qubI u15)∧Below w0.heap.size w0 w) (fun (s:Nat×(List Int))=>match s with|(i,b2)=>(qubI u15).length-i) (0,best) ?_ ?_
  ·exact ⟨hf.sub ⟨rfl,rfl,rfl,rfl,rfl,rfl,rfl,rfl,rfl,trivial⟩,(Nat.zero_le _),rfl,hB9,ho36,hW⟩
  rintro ⟨i,b2⟩ a w12 ⟨hf,hi,hb2,hB9,ho36,hW⟩
  refine Zs hf fun _ hK37=>?_
  refine Ze (X16 rfl rfl) ?_
  refine Zt hK37 fun a hf=>?_
  refine wp_seq_k fun _ hK38=>?_
  refine Xm hf rfl (fun hc39=>?_) (fun hc39=>?_)
  ·have hc39b:=hc39
   have hc39:=of_decide_eq_true hc39
   obtain ⟨u40,hu40⟩:=Xx (l:=(qubI u15)) (k:=i) (by omega)
   have hq9:=hqb _ (List.mem_of_getElem? hu40)
   have hl9:b2.length=5:=by rw [hb2,X3m];exact hl5
   refine wp_skip ?_
   refine hK38 _ _ ?_
   refine wp_seq_k fun _ hK41=>?_
   refine wp_block ?_
   refine Zs hf fun _ hK42=>?_
   refine Zi (k:=i) (u:=u40) (enc:=encI) (l:=(qubI u15)) trivial rfl rfl X03 X1a Xp ho36.rd hu40 rfl ?_;intro p44 hat43
   refine Ze (X0 rfl X3 hat43)<|Za rfl ?_
   refine Zt hK42 fun a hf=>?_
   refine Zr hf ?_
   refine Zm rfl<|Zm rfl<|Ze (X48 (k:=(u40).toNat) rfl rfl Tryz.underlying89 X1a (by omega) (by omega) (Nat.zero_add _)) ?_
   refine Zo (X6h (enc:=encI) (l:=b2) (u:=d+(if (isTk u15.k)=true then 1 else 0)) (k:=(u40).toNat) rfl rfl X1a hB9 Xp X1n rfl (by omega)) ?_;rintro _ w13 ⟨ho,hb⟩
   have hold:=hB9
   replace ho36:=ho36.onlyT ho hold rfl
   replace hW:=Below.only hW ho hlo9
   clear hold
   have hB9:=hb
   clear hb ho
   refine Zn fun a hf=>?_
   refine Xr ?_
   refine hK41 _ _ ?_
   refine Zr hf ?_
   refine Ze (X0a rfl rfl (by omega) (by omega))<|Zm rfl ?_
   refine Zn fun a hf=>?_
   refine Xz ?_
   exact ⟨(i+1,(b2.set ((u40).toNat) (d+(if (isTk u15.k)=true then 1 else 0)))),⟨hf.sub ⟨rfl,rfl,rfl,rfl,rfl,rfl,rfl,rfl,rfl,trivial⟩,(by omega),(by rw [X7u hu40,hb2]),hB9,ho36,hW⟩,(by first|omega|(dsimp only;omega))⟩
  have hc39b:=hc39
  have hc39:=of_decide_eq_false hc39
  have hb9:b2=setq best (qubI u15) (d+(if isTk u15.k=true then 1 else 0)):=by rw [hb2,List.take_of_length_le (by omega)]
  have hbn:=Xcg hbs hqb (d:=d+(if isTk u15.k=true then 1 else 0)) (by omega)
  rw [← hb9] at hbn
  refine wp_exit ?_
  refine Xu ?_
  refine Xu ?_
  refine X0f ?_
  refine hK34 _ _ ?_
  refine Zr hf ?_
  refine Zm rfl<|Zm rfl<|Ze (Xfe rfl rfl)<|Za rfl ?_
  refine Zn fun a hf=>?_
  refine Xr ?_
  refine hK16 _ _ ?_
  refine Zr hf ?_
  refine Ze (X0a rfl rfl (by omega) (by omega))<|Zm rfl ?_
  refine Zn fun a hf=>?_
  refine Xz ?_
  exact ⟨(k+1,b2,max z (d+(if (isTk u15.k)=true then 1 else 0))),⟨hf.sub ⟨rfl,rfl,rfl,rfl,rfl,trivial⟩,(by omega),(by rw [hst,← hbz,hb9,hd9];rfl),(by rw [Int.natCast_add];exact hbn),(by omega),hB9,hW⟩,(by first|omega|(dsimp only;omega))⟩
 have hc14b:=hc14
 have hc14:=of_decide_eq_false hc14
 have hfin:tdI c.gs=z:=by have h9:=congrArg Prod.snd hbz;rw [List.take_of_length_le (by omega)] at h9;exact h9.symm
 refine wp_exit ?_
 refine Xu ?_
 refine Xu ?_
 refine X0f ?_
 refine hK10 _ _ ?_
 refine Zs hf fun _ hK45=>?_
 refine Zm rfl<|Za rfl<|Za rfl ?_
 refine Zt hK45 fun a hf=>?_
 refine wp_ret (X2 hf (X12 hf rfl rfl rfl) ?_)
 exact ⟨by unfold tdC;rw [if_pos hc,hc,hfin],hW⟩
theorem Xoh(w0:World)(c:Cx)(Ac:Option Addr)(cc:Nat)(hr_c:Rd w0 w0.heap.size 24 encG Ac c.gs)(hp_c:c.gs.length≤cc)(hln:c.gs.length≤2305843009213693951) : Ret Tryz.prog 12 [.agg #[vi c.n,.slice Ac c.gs.length cc]] w0 (fun v w=>v=.tuple #[vi (tdD c),.bool (cOk c)]∧Below w0.heap.size w0 w):=by
 refine enter Tryz.func12 rfl 61 rfl rfl ?_
 intro a hf
 have hW:Below w0.heap.size w0 w0:=Below.refl _ _
 refine Zs hf fun _ hK2=>?_
 refine Zf (X0j (zs:=[vi c.n,.slice Ac c.gs.length cc]) rfl rfl) ?_;rintro _ w1 ⟨b3,rfl,hl3,hE,hB3⟩
 have hlo3:=Nat.le_trans hW.size hl3
 replace hW:=btr hW hE
 refine Za rfl<|Za rfl ?_
 refine Zt hK2 fun a hf=>?_
 refine wp_seq_k fun _ hK4=>?_
 refine Zs hf fun _ hK5=>?_
 refine Ze (Vn X1k hB3) ?_
 refine Zf (Vc (F53 _ c Ac cc (hr_c.below' hW).top) Xo3) ?_;rintro _ w2 ⟨rfl,hE⟩
 replace hB3:=hB3.below hE
 replace hW:=btr hW hE
 refine Ze (X15 rfl) ?_
 refine Zt hK5 fun a hf=>?_
 refine Xm hf rfl (fun hc6=>?_) (fun hc6=>?_)
 ·have hc6b:=hc6
  have hcf:cOk c=false:=by revert hc6;cases cOk c<;>simp
  refine Zs hf fun _ hK7=>?_
  refine Za rfl<|Za rfl ?_
  refine Zt hK7 fun a hf=>?_
  refine wp_ret ?_
  refine X7 ?_
  refine X2 hf (X12 hf rfl rfl rfl) ?_
  exact ⟨by unfold tdD;rw [hcf];rfl,hW⟩
 have hc6b:=hc6
 have hc:cOk c=true:=by revert hc6;cases cOk c<;>simp
 obtain ⟨hcn,hcl,hcg⟩:=X1j hc
 refine wp_skip ?_
 refine hK4 _ _ ?_
 refine Zs hf fun _ hK8=>?_
 refine Za rfl ?_
 refine Zt hK8 fun a hf=>?_
 refine Zs hf fun _ hK10=>?_
 refine Za rfl ?_
 refine Zt hK10 fun a hf=>?_
 refine wp_seq_k fun _ hK11=>?_
 refine Zs hf fun _ hK12=>?_
 refine Ze (Vd rfl X1f 1)<|Ze (X0 rfl X2t (hB3.at 1))<|Ze (X14 rfl X0w)<|Zm rfl ?_
 refine Zt hK12 fun a hf=>?_
 refine wp_block ?_
 refine X0c (σ:=Nat×(List Int)×Int) (fun (s:Nat×(List Int)×Int) (a:Act) (w:World)=>match s with|(k,m,z)=>∃ A13 c13,Fr a 61 [(1,.pointer (some ⟨b3,0,none⟩)),(4,.slice A13 m.length c13),(5,vi z),(15,.slice Ac c.gs.length cc),(16,vi (c.gs.length:Int)),(17,vi (k:Int))]∧(k≤c.gs.length)∧((m,z)=tdS c.gs k)∧(∀ x ∈ m,0≤x∧x≤(k:Int))∧(0≤z∧z≤(k:Int))∧Blk w b3 31 [vi c.n,.slice Ac c.gs.length cc]∧Own w w0.heap.size 3 1 encI A13 c13 m∧c.gs.length≤cc∧Below w0.heap.size w0 w) (fun (s:Nat×(List Int)×Int)=>match s with|(k,m,z)=>c.gs.length-k) (0,[],0) ?_ ?_
 ·exact ⟨none,0,hf.sub ⟨rfl,rfl,rfl,rfl,rfl,rfl,trivial⟩,(Nat.zero_le _),rfl,(by simp),(by omega),hB3,(Own.nil _ _ _ _ _),hp_c,hW⟩
 rintro ⟨k,m,z⟩ a w3 ⟨A13,c13,hf,hk,hmz,hmb,hz,hB3,ho13,hp_c,hW⟩
 refine Zs hf fun _ hK14=>?_
 refine Ze (X16 rfl rfl) ?_
 refine Zt hK14 fun a hf=>?_
 refine wp_seq_k fun _ hK15=>?_
 refine Xm hf rfl (fun hc16=>?_) (fun hc16=>?_)
 ·have hc16b:=hc16
  have hc16:=of_decide_eq_true hc16
  obtain ⟨u17,hu17⟩:=Xx (l:=c.gs) (k:=k) (by omega)
  have hml:m.length=k:=by have h9:=congrArg (fun p=>p.1.length) hmz;simp only [X38] at h9;exact h9
  refine wp_skip ?_
  refine hK15 _ _ ?_
  refine wp_seq_k fun _ hK18=>?_
  refine wp_block ?_
  refine Zs hf fun _ hK19=>?_
  refine Zm rfl ?_
  refine Zi (k:=k) (u:=u17) (enc:=encG) (l:=c.gs) trivial rfl rfl X0w X0o X11 (hr_c.below' hW) hu17 rfl ?_;intro p21 hat20
  refine Ze (X0i (l:=[vi u17.k,vi u17.a,vi u17.b]) rfl Xo hat20 rfl) ?_
  refine Zf (X6 (zs:=[vi 0,vi 0,vi 0]) X2h rfl) ?_;rintro _ w4 ⟨b22,rfl,hl22,hE,hB22⟩
  have hlo22:=Nat.le_trans hW.size hl22
  have haw1_22:=(hr_c.below' hW).away hl22
  replace hB3:=hB3.below hE
  replace ho13:=ho13.below hE
  replace hW:=btr hW hE
  refine Za rfl ?_
  refine Zo (Vw [vi u17.k,vi u17.a,vi u17.b] X0o hB22) ?_;rintro _ w5 ⟨ho,hb⟩
  have hold:=hB22
  replace hB3:=hB3.only ho (Blk.ne hB3 hold rfl)
  replace ho13:=ho13.onlyT ho hold rfl
  replace hW:=Below.only hW ho hlo22
  clear hold
  have hB22:=hb
  clear hb ho
  refine Zt hK19 fun a hf=>?_
  refine Zs hf fun _ hK23=>?_
  refine Za rfl ?_
  refine Zt hK23 fun a hf=>?_
  refine wp_seq_k fun _ hK24=>?_
  refine Zs hf fun _ hK25=>?_
  refine Ze (Vd rfl X1f 1)<|Ze (X0 rfl X2t (hB3.at 1))<|Zm rfl ?_
  have hr26:=((hr_c.below' hW).top).takeK X11 k
  refine Ze (Xf5 (l:=c.gs) (k:=k) rfl rfl X0w X0o rfl (by omega) hp_c)<|Ze (X14 rfl X0w)<|Zm rfl ?_
  refine Zt hK25 fun a hf=>?_
  refine wp_block ?_
  refine X0c (σ:=Nat×Int) (fun (s:Nat×Int) (a:Act) (w:World)=>match s with|(j,d)=>Fr a 61 [(1,.pointer (some ⟨b3,0,none⟩)),(4,.slice A13 m.length c13),(5,vi z),(7,.pointer (some ⟨b22,0,none⟩)),(8,vi d),(15,.slice Ac c.gs.length cc),(16,vi (c.gs.length:Int)),(17,vi (k:Int)),(25,.slice Ac (c.gs.take k).length cc),(26,vi ((c.gs.take k).length:Int)),(27,vi (j:Int))]∧(j≤(c.gs.take k).length)∧(d=cmx c.gs u17 m j)∧Blk w b3 31 [vi c.n,.slice Ac c.gs.length cc]∧Blk w b22 24 [vi u17.k,vi u17.a,vi u17.b]∧Own w w0.heap.size 3 1 encI A13 c13 m∧Rd w w5.heap.size 24 encG Ac (c.gs.take k)∧c.gs.length≤cc∧Below w0.heap.size w0 w) (fun (s:Nat×Int)=>match s with|(j,d)=>(c.gs.take k).length-j) (0,0) ?_ ?_
  ·exact ⟨hf.sub ⟨rfl,rfl,rfl,rfl,rfl,rfl,rfl,rfl,rfl,rfl,rfl,trivial⟩,(Nat.zero_le _),rfl,hB3,hB22,ho13,hr26,hp_c,hW⟩
  rintro ⟨j,d⟩ a w6 ⟨hf,hj,hd,hB3,hB22,ho13,hr26,hp_c,hW⟩
  refine Zs hf fun _ hK27=>?_
  refine Ze (X16 rfl rfl) ?_
  refine Zt hK27 fun a hf=>?_
  refine wp_seq_k fun _ hK28=>?_
  refine Xm hf rfl (fun hc29=>?_) (fun hc29=>?_)
  ·have hc29b:=hc29
   have hc29:=of_decide_eq_true hc29
   obtain ⟨u30,hu30⟩:=Xx (l:=(c.gs.take k)) (k:=j) (by omega)
   have hv9:=Xh7 hu30
   have hj9:j<k:=by have:=List.length_take_le k c.gs;omega
   refine wp_skip ?_
   refine hK28 _ _ ?_
   refine wp_seq_k fun _ hK31=>?_
   refine wp_block ?_
   refine Zs hf fun _ hK32=>?_
   refine Zm rfl ?_
   refine Zi (k:=j) (u:=u30) (enc:=encG) (l:=(c.gs.take k)) trivial rfl rfl X0w X0o X11 hr26 hu30 rfl ?_;intro p34 hat33
   refine Ze (X0i (l:=[vi u30.k,vi u30.a,vi u30.b]) rfl Xo hat33 rfl) ?_
   refine Zf (X6 (zs:=[vi 0,vi 0,vi 0]) X2h rfl) ?_;rintro _ w7 ⟨b35,rfl,hl35,hE,hB35⟩
   have hne22_35:b22≠b35:=by have:=hB22.lt;omega
   have hlo35:=Nat.le_trans hW.size hl35
   have haw1_35:=(hr_c.below' hW).away hl35
   have haw26_35:=hr26.away hl35
   replace hB3:=hB3.below hE
   replace hB22:=hB22.below hE
   replace ho13:=ho13.below hE
   replace hr26:=hr26.below hE
   replace hW:=btr hW hE
   refine Za rfl ?_
   refine Zo (Vw [vi u30.k,vi u30.a,vi u30.b] X0o hB35) ?_;rintro _ w8 ⟨ho,hb⟩
   have hold:=hB35
   replace hB3:=hB3.only ho (Blk.ne hB3 hold rfl)
   replace hB22:=hB22.only ho (by omega)
   replace ho13:=ho13.onlyT ho hold rfl
   replace hr26:=hr26.onlyA ho haw26_35
   replace hW:=Below.only hW ho hlo35
   clear hold
   have hB35:=hb
   clear hb ho
   refine Zt hK32 fun a hf=>?_
   refine Zs hf fun _ hK36=>?_
   refine Ze (Vn Xo hB22)<|Ze (Vn Xo hB35) ?_
   refine Zf (Vc (Xo1 _ u17 u30) Xfr) ?_;rintro _ w9 ⟨rfl,hE⟩
   replace hB3:=hB3.below hE
   replace hB22:=hB22.below hE
   replace hB35:=hB35.below hE
   replace ho13:=ho13.below hE
   replace hr26:=hr26.below hE
   replace hW:=btr hW hE
   refine Zt hK36 fun a hf=>?_
   refine Xm hf rfl (fun hc37=>?_) (fun hc37=>?_)
   ·have hc37b:=hc37
    have hcm:=Xi2 (m:=m) hv9 hc37
    refine Zr hf ?_
    refine Zm rfl<|Zm rfl<|Zm rfl ?_
    refine Zi (k:=j) (u:=(m.getD j 0)) (enc:=encI) (l:=m) trivial rfl rfl X03 X1a Xp ho13.rd (X2b (by omega)) rfl ?_;intro p39 hat38
    refine Ze (X0 rfl X3 hat38) ?_
    refine Zf (Vc (Xi5 _ d (m.getD j 0)) X9e) ?_;rintro _ _ ⟨rfl,rfl⟩
    refine Za rfl ?_
    refine Zn fun a hf=>?_
    refine Xr ?_
    refine hK31 _ _ ?_
    refine Zr hf ?_
    refine Ze (X0a rfl rfl (by omega) (by omega))<|Zm rfl ?_
    refine Zn fun a hf=>?_
    refine Xz ?_
    exact ⟨(j+1,max d (m.getD j 0)),⟨hf.sub ⟨rfl,rfl,rfl,rfl,rfl,rfl,rfl,rfl,rfl,rfl,rfl,trivial⟩,(by omega),(by rw [hcm,hd]),hB3,hB22,ho13,hr26,hp_c,hW⟩,(by first|omega|(dsimp only;omega))⟩
   have hc37b:=hc37
   have hcm:=Xfd (m:=m) hv9 hc37
   refine wp_skip ?_
   refine Xr ?_
   refine hK31 _ _ ?_
   refine Zr hf ?_
   refine Ze (X0a rfl rfl (by omega) (by omega))<|Zm rfl ?_
   refine Zn fun a hf=>?_
   refine Xz ?_
   exact ⟨(j+1,d),⟨hf.sub ⟨rfl,rfl,rfl,rfl,rfl,rfl,rfl,rfl,rfl,rfl,rfl,trivial⟩,(by omega),(by rw [hcm,hd]),hB3,hB22,ho13,hr26,hp_c,hW⟩,(by first|omega|(dsimp only;omega))⟩
  have hc29b:=hc29
  have hc29:=of_decide_eq_false hc29
  have hd9:d=cmx c.gs u17 m k:=by rw [hd,show j=k by simp at *;omega]
  have hdb:=Xkm (gs:=c.gs) (g:=u17) (show (0:Int)≤(k:Int) by omega) hmb k
  rw [← hd9] at hdb
  refine wp_exit ?_
  refine Xu ?_
  refine Xu ?_
  refine X0f ?_
  refine hK24 _ _ ?_
  refine wp_seq_k fun _ hK40=>?_
  refine wp_seq_k fun _ hK41=>?_
  refine X0g (fun a w=>Fr a 61 [(1,.pointer (some ⟨b3,0,none⟩)),(4,.slice A13 m.length c13),(5,vi z),(8,vi d),(15,.slice Ac c.gs.length cc),(16,vi (c.gs.length:Int)),(17,vi (k:Int)),(49,.bool ((u17.k==7)||(u17.k==8)))]∧w6=w) ?_ ?_
  ·refine Zr hf ?_
   refine Ze (Vd rfl X0e 0)<|Ze (X0 rfl X3 (hB22.at 0))<|Ze (X0n rfl rfl)<|Zm rfl ?_
   refine Zg 45 rfl (fun hg42=>?_) (fun hg42=>?_)
   ·refine Zp ⟨_,_,rfl,rfl,hg42⟩ ?_
    refine Zp ⟨_,_,rfl,rfl,hg42⟩ ?_
    refine Zp ⟨_,_,rfl,rfl,hg42⟩ ?_
    refine Ze (Xg rfl hg42 rfl) ?_
    refine Zn fun a hf=>?_
    exact ⟨hf.sub ⟨rfl,rfl,rfl,rfl,rfl,rfl,rfl,X1 rfl (by first|rfl|(simp only [hc6b,hc16b,hc29b,hg42,bs];done)|simp [hc6b,hc16b,hc29b,hg42]),trivial⟩,rfl⟩
   refine Zv ⟨_,_,rfl,rfl,hg42⟩ (Vd rfl X0e 0) ?_
   refine Zv ⟨_,_,rfl,rfl,hg42⟩ (X0 rfl X3 (hB22.at 0)) ?_
   refine Zv ⟨_,_,rfl,rfl,hg42⟩ (X0n rfl rfl) ?_
   refine Ze (Xf rfl hg42 rfl) ?_
   refine Zn fun a hf=>?_
   exact ⟨hf.sub ⟨rfl,rfl,rfl,rfl,rfl,rfl,rfl,X1 rfl (by first|rfl|(simp only [hc6b,hc16b,hc29b,hg42,bs];done)|simp [hc6b,hc16b,hc29b,hg42]),trivial⟩,rfl⟩
  rintro a _ ⟨hf,rfl⟩
  refine hK41 _ _ ?_
  refine Xm hf rfl (fun hc43=>?_) (fun hc43=>?_)
  ·have hc43b:=hc43
   have hit:isTi u17.k=1:=Xku hc43
   refine Zr hf ?_
   refine Zm rfl<|Ze (X0a rfl rfl (by omega) (by omega))<|Za rfl ?_
   refine Zt hK40 fun a hf=>?_
   refine Zs hf fun _ hK44=>?_
   refine Zm rfl<|Zm rfl ?_
   refine Zf (Xd (k:=1) (vs:=[vi (d+1)]) (zs:=[vi (d+1)]) rfl X03 X18 rfl rfl) ?_;rintro _ w10 ⟨b45,rfl,hl45,hE,hB45⟩
   have hlo45:=Nat.le_trans hW.size hl45
   have haw13_45:=ho13.away hl45
   replace hB3:=hB3.below hE
   replace ho13:=ho13.below hE
   replace hW:=btr hW hE
   refine Zf (X1e (enc:=encI) (l:=(m)) (l2:=([d+1])) (B0:=w0.heap.size) rfl rfl X03 X18 Xp X1n ho13 (Rd.of_blk hB45 rfl _ hB45.lt) (by simp only [maxLen];simp;omega) (by simp;omega) hW.size) ?_;rintro _ w11 ⟨A47,c47,rfl,ho47,hg,hat⟩
   have hown:Own _ w0.heap.size 3 1 encI _ _ (m):=ho13
   have haw47_45:=hat _ hB45.lt haw13_45
   clear hat
   replace hB3:=hB3.appT hown hg rfl
   replace hW:=Below.app hW hown hg (Nat.le_refl _) hW.size
   clear hown hg
   refine Za rfl ?_
   refine Zt hK44 fun a hf=>?_
   refine Zr hf ?_
   refine Zm rfl<|Zm rfl ?_
   refine Zf (Vc (Xi5 _ z (d+1)) X9e) ?_;rintro _ _ ⟨rfl,rfl⟩
   refine Za rfl ?_
   refine Zn fun a hf=>?_
   refine Xr ?_
   refine hK18 _ _ ?_
   refine Zr hf ?_
   refine Ze (X0a rfl rfl (by omega) (by omega))<|Zm rfl ?_
   refine Zn fun a hf=>?_
   refine Xz ?_
   exact ⟨(k+1,m++([d+1]),max z (d+1)),⟨A47,c47,hf.sub ⟨rfl,rfl,rfl,rfl,rfl,rfl,trivial⟩,(by omega),(Xbr hmz hu17 (by rw [hd9,hit];try exact (Int.add_zero _).symm)),(by rw [Int.natCast_add];exact Xca hmb (by omega)),(by omega),hB3,ho47,hp_c,hW⟩,(by first|omega|(dsimp only;omega))⟩
  have hc43b:=hc43
  have hit:isTi u17.k=0:=Xlu hc43
  refine wp_skip ?_
  refine hK40 _ _ ?_
  refine Zs hf fun _ hK48=>?_
  refine Zm rfl<|Zm rfl ?_
  refine Zf (Xd (k:=1) (vs:=[vi d]) (zs:=[vi d]) rfl X03 X18 rfl rfl) ?_;rintro _ w12 ⟨b49,rfl,hl49,hE,hB49⟩
  have hlo49:=Nat.le_trans hW.size hl49
  have haw13_49:=ho13.away hl49
  replace hB3:=hB3.below hE
  replace ho13:=ho13.below hE
  replace hW:=btr hW hE
  refine Zf (X1e (enc:=encI) (l:=(m)) (l2:=([d])) (B0:=w0.heap.size) rfl rfl X03 X18 Xp X1n ho13 (Rd.of_blk hB49 rfl _ hB49.lt) (by simp only [maxLen];simp;omega) (by simp;omega) hW.size) ?_;rintro _ w13 ⟨A51,c51,rfl,ho51,hg,hat⟩
  have hown:Own _ w0.heap.size 3 1 encI _ _ (m):=ho13
  have haw51_49:=hat _ hB49.lt haw13_49
  clear hat
  replace hB3:=hB3.appT hown hg rfl
  replace hW:=Below.app hW hown hg (Nat.le_refl _) hW.size
  clear hown hg
  refine Za rfl ?_
  refine Zt hK48 fun a hf=>?_
  refine Zr hf ?_
  refine Zm rfl<|Zm rfl ?_
  refine Zf (Vc (Xi5 _ z d) X9e) ?_;rintro _ _ ⟨rfl,rfl⟩
  refine Za rfl ?_
  refine Zn fun a hf=>?_
  refine Xr ?_
  refine hK18 _ _ ?_
  refine Zr hf ?_
  refine Ze (X0a rfl rfl (by omega) (by omega))<|Zm rfl ?_
  refine Zn fun a hf=>?_
  refine Xz ?_
  exact ⟨(k+1,m++([d]),max z d),⟨A51,c51,hf.sub ⟨rfl,rfl,rfl,rfl,rfl,rfl,trivial⟩,(by omega),(Xbr hmz hu17 (by rw [hd9,hit];try exact (Int.add_zero _).symm)),(by rw [Int.natCast_add];exact Xca hmb (by omega)),(by omega),hB3,ho51,hp_c,hW⟩,(by first|omega|(dsimp only;omega))⟩
 have hc16b:=hc16
 have hc16:=of_decide_eq_false hc16
 have hfin:(tdS c.gs c.gs.length).2=z:=by rw [← show k=c.gs.length by omega,← hmz]
 refine wp_exit ?_
 refine Xu ?_
 refine Xu ?_
 refine X0f ?_
 refine hK11 _ _ ?_
 refine Zs hf fun _ hK52=>?_
 refine Zm rfl<|Za rfl<|Za rfl ?_
 refine Zt hK52 fun a hf=>?_
 refine wp_ret (X2 hf (X12 hf rfl rfl rfl) ?_)
 exact ⟨by unfold tdD;rw [if_pos hc,hc,hfin],hW⟩
end Go.Proofs.YtlfjcmldfbfdbaaGreat
set_option maxHeartbeats 1000000
set_option maxRecDepth 4000
namespace Go.Proofs.YtlfjcmldfbfdbaaGreat
open Go.RowKit
theorem Xn4(w0:World)(p:Cx)(Ap:Option Addr)(cp:Nat)(hr_p:Rd w0 w0.heap.size 24 encG Ap p.gs)(hc:cOk p=true) : Ret Tryz.prog 65 [.agg #[vi p.n,.slice Ap p.gs.length cp]] w0 (fun v w=>∃ A c,v=.slice A (lyI p.gs).length c∧Own w w0.heap.size 3 1 encI A c (lyI p.gs)∧Below w0.heap.size w0 w):=by
 obtain ⟨hcn,hcl,hcg⟩:=X1j hc
 refine enter Tryz.func65 rfl 60 rfl rfl ?_
 intro a hf
 have hW:Below w0.heap.size w0 w0:=Below.refl _ _
 refine Zs hf fun _ hK2=>?_
 refine Zf (X0j (zs:=[vi p.n,.slice Ap p.gs.length cp]) rfl rfl) ?_;rintro _ w1 ⟨b3,rfl,hl3,hE,hB3⟩
 have hlo3:=Nat.le_trans hW.size hl3
 replace hW:=btr hW hE
 refine Za rfl ?_
 refine Zt hK2 fun a hf=>?_
 refine Zs hf fun _ hK5=>?_
 refine Ze (Vd rfl X1f 1)<|Ze (X0 rfl X2t (hB3.at 1))<|Ze (X14 rfl X0w) ?_
 refine Zf (X72 (m:=p.gs.length) (enc:=encI) (z0:=0) rfl rfl X03 X18 z_3 rfl Xp (by omega) (by omega)) ?_;rintro _ w2 ⟨b6,rfl,hl6,hE,hB6⟩
 have hlo6:=Nat.le_trans hW.size hl6
 replace hB3:=hB3.below hE
 replace hW:=btr hW hE
 refine Ze (Xt (ps:=[]) (cs:=[vi 0,vi 0,vi 0,vi 0,vi 0]) rfl (fun _=>by first|rfl|kernel_rfl)) ?_
 refine Zf (X6 (zs:=[vi 0,vi 0,vi 0,vi 0,vi 0]) Xfz rfl) ?_;rintro _ w3 ⟨b8,rfl,hl8,hE,hB8⟩
 have hlo8:=Nat.le_trans hW.size hl8
 replace hB3:=hB3.below hE
 replace hB6:=hB6.below hE
 replace hW:=btr hW hE
 refine Za rfl ?_
 refine Zo (Vw [vi 0,vi 0,vi 0,vi 0,vi 0] Xcc hB8) ?_;rintro _ w4 ⟨ho,hb⟩
 have hold:=hB8
 replace hB3:=hB3.only ho (Blk.ne hB3 hold rfl)
 replace hB6:=hB6.only ho (Blk.ne hB6 hold rfl)
 replace hW:=Below.only hW ho hlo8
 clear hold
 have hB8:=hb
 clear hb ho
 refine Zt hK5 fun a hf=>?_
 refine wp_seq_k fun _ hK9=>?_
 refine Zs hf fun _ hK10=>?_
 refine Ze (Vd rfl X1f 1)<|Ze (X0 rfl X2t (hB3.at 1))<|Ze (X14 rfl X0w)<|Zm rfl ?_
 refine Zt hK10 fun a hf=>?_
 refine wp_block ?_
 refine X0c (σ:=Nat×(List Int)×(List Int)) (fun (s:Nat×(List Int)×(List Int)) (a:Act) (w:World)=>match s with|(k,best,out)=>Fr a 60 [(3,.slice (some ⟨b6,0,none⟩) p.gs.length p.gs.length),(4,.pointer (some ⟨b8,0,none⟩)),(17,.slice Ap p.gs.length cp),(18,vi (p.gs.length:Int)),(19,vi (k:Int))]∧(k≤p.gs.length)∧(out.length=p.gs.length)∧((best,out.take k)=(p.gs.take k).foldl laStep (five0,[]))∧(Bd5 best (k:Int))∧(∀ j,k≤j→out.getD j 0=0)∧Blk w b6 3 (out.flatMap encI)∧Blk w b8 89 (best.flatMap encI)∧Below w0.heap.size w0 w) (fun (s:Nat×(List Int)×(List Int))=>match s with|(k,best,out)=>p.gs.length-k) (0,[0,0,0,0,0],(List.replicate p.gs.length 0)) ?_ ?_
 ·exact ⟨hf.sub ⟨rfl,rfl,rfl,rfl,rfl,trivial⟩,(Nat.zero_le _),(by simp),rfl,Bd5.start,(Xgl _),hB6,hB8,hW⟩
 rintro ⟨k,best,out⟩ a w5 ⟨hf,hk,hol,hbz,hbs,hoz,hB6,hB8,hW⟩
 refine Zs hf fun _ hK11=>?_
 refine Ze (X16 rfl rfl) ?_
 refine Zt hK11 fun a hf=>?_
 refine wp_seq_k fun _ hK12=>?_
 refine Xm hf rfl (fun hc13=>?_) (fun hc13=>?_)
 ·have hc13b:=hc13
  have hc13:=of_decide_eq_true hc13
  obtain ⟨u14,hu14⟩:=Xx (l:=p.gs) (k:=k) (by omega)
  have hst:=X57 (f:=laStep) (s:=(five0,[])) hu14
  have hqb:∀ x ∈ qubI u14,0≤x∧x≤4:=fun x hx=>X28 (hcg _ (List.mem_of_getElem? hu14)) hx
  have hql:=X20 u14
  have hl5:=hbs.1
  have hok0:=hoz k (Nat.le_refl _)
  refine wp_skip ?_
  refine hK12 _ _ ?_
  refine wp_seq_k fun _ hK15=>?_
  refine wp_block ?_
  refine Zs hf fun _ hK16=>?_
  refine Zm rfl ?_
  refine Zi (k:=k) (u:=u14) (enc:=encG) (l:=p.gs) trivial rfl rfl X0w X0o X11 (hr_p.below' hW) hu14 rfl ?_;intro p18 hat17
  refine Ze (X0i (l:=[vi u14.k,vi u14.a,vi u14.b]) rfl Xo hat17 rfl) ?_
  refine Zf (X6 (zs:=[vi 0,vi 0,vi 0]) X2h rfl) ?_;rintro _ w6 ⟨b19,rfl,hl19,hE,hB19⟩
  have hlo19:=Nat.le_trans hW.size hl19
  have haw1_19:=(hr_p.below' hW).away hl19
  replace hB6:=hB6.below hE
  replace hB8:=hB8.below hE
  replace hW:=btr hW hE
  refine Za rfl ?_
  refine Zo (Vw [vi u14.k,vi u14.a,vi u14.b] X0o hB19) ?_;rintro _ w7 ⟨ho,hb⟩
  have hold:=hB19
  replace hB6:=hB6.only ho (Blk.ne hB6 hold rfl)
  replace hB8:=hB8.only ho (Blk.ne hB8 hold rfl)
  replace hW:=Below.only hW ho hlo19
  clear hold
  have hB19:=hb
  clear hb ho
  refine Zt hK16 fun a hf=>?_
  refine wp_seq_k fun _ hK20=>?_
  refine Zs hf fun _ hK21=>?_
  refine Ze (Vn Xo hB19) ?_
  refine Zf (Vc (F96 _ u14) X5z) ?_;rintro _ w8 ⟨A22,c22,rfl,ho22,hE⟩
  have haw22_6:=ho22.awayNew hB6.lt
  replace ho22:=ho22.lower hW.size
  replace hB6:=hB6.below hE
  replace hB8:=hB8.below hE
  replace hB19:=hB19.below hE
  replace hW:=btr hW hE
  refine Ze (X14 rfl X03)<|Zm rfl ?_
  refine Zt hK21 fun a hf=>?_
  refine wp_block ?_
  refine X0c (σ:=Nat×(List Int)) (fun (s:Nat×(List Int)) (a:Act) (w:World)=>match s with|(j,o1)=>Fr a 60 [(3,.slice (some ⟨b6,0,none⟩) p.gs.length p.gs.length),(4,.pointer (some ⟨b8,0,none⟩)),(5,vi (k:Int)),(6,.pointer (some ⟨b19,0,none⟩)),(17,.slice Ap p.gs.length cp),(18,vi (p.gs.length:Int)),(19,vi (k:Int)),(25,.slice A22 (qubI u14).length c22),(26,vi ((qubI u14).length:Int)),(27,vi (j:Int))]∧(j≤(qubI u14).length)∧(o1=out.set k (mxq1 best ((qubI u14).take j) 0))∧Blk w b6 3 (o1.flatMap encI)∧Blk w b8 89 (best.flatMap encI)∧Blk w b19 24 [vi u14.k,vi u14.a,vi u14.b]∧Own w w0.heap.size 3 1 encI A22 c22 (qubI u14)∧Below w0.heap.size w0 w) (fun (s:Nat×(List Int))=>match s with|(j,o1)=>(qubI u14).length-j) (0,out) ?_ ?_
  ·exact ⟨hf.sub ⟨rfl,rfl,rfl,rfl,rfl,rfl,rfl,rfl,rfl,rfl,trivial⟩,(Nat.zero_le _),(Xec hok0),hB6,hB8,hB19,ho22,hW⟩
  rintro ⟨j,o1⟩ a w9 ⟨hf,hj,ho1,hB6,hB8,hB19,ho22,hW⟩
  refine Zs hf fun _ hK23=>?_
  refine Ze (X16 rfl rfl) ?_
  refine Zt hK23 fun a hf=>?_
  refine wp_seq_k fun _ hK24=>?_
  refine Xm hf rfl (fun hc25=>?_) (fun hc25=>?_)
  ·have hc25b:=hc25
   have hc25:=of_decide_eq_true hc25
   obtain ⟨u26,hu26⟩:=Xx (l:=(qubI u14)) (k:=j) (by omega)
   have hq9:=hqb _ (List.mem_of_getElem? hu26)
   have hms:=Xdq (best:=best) hu26
   have hb9:=hbs.at hq9
   have ho9:o1.getD k 0=_:=(congrArg (·.getD k 0) ho1).trans (Xaq (by omega))
   have ho8:=Xbw hbs (by omega) (Xar hqb (j:=j))
   rw [← ho9] at ho8
   have hol1:o1.length=p.gs.length:=by rw [ho1,List.length_set];exact hol
   refine wp_skip ?_
   refine hK24 _ _ ?_
   refine wp_seq_k fun _ hK27=>?_
   refine wp_block ?_
   refine Zs hf fun _ hK28=>?_
   refine Zi (k:=j) (u:=u26) (enc:=encI) (l:=(qubI u14)) trivial rfl rfl X03 X1a Xp ho22.rd hu26 rfl ?_;intro p30 hat29
   refine Ze (X0 rfl X3 hat29)<|Za rfl ?_
   refine Zt hK28 fun a hf=>?_
   refine X0h none (fun j=>[12].contains j) mixed ?_
   intro w10 hE
   replace hB6:=hB6.below hE
   replace hB8:=hB8.below hE
   replace hB19:=hB19.below hE
   replace ho22:=ho22.below hE
   replace hW:=btr hW hE
   refine Yb hf ?_
   refine Yo 0 rfl (fun _=>X8 rfl)<|Yo 1 rfl (fun _=>X8 rfl)<|Yo 2 rfl (fun _=>X8 rfl)<|Yo 3 rfl (fun _=>X8 rfl)<|Yo 4 rfl (fun _=>X6d (k:=k) (off:=k*1) rfl rfl X03 X1a rfl (by omega) rfl) ?_
   refine Ye 5 rfl (X8j (enc:=encI) (l:=o1) (u:=(o1.getD k 0)) (k:=k) rfl X3 hB6 Xp (X2b (by omega)) rfl)<|Yo 6 rfl (fun _=>X8 rfl)<|Yo 7 rfl (fun _=>X48 (k:=(u26).toNat) rfl rfl Tryz.underlying89 X1a (by omega) (by omega) (Nat.zero_add _))<|Ye 8 rfl (X8j (enc:=encI) (l:=best) (u:=(best.getD (u26).toNat 0)) (k:=(u26).toNat) rfl X3 hB8 Xp (X2b (by omega)) rfl)<|Yo 9 rfl (fun _=>X0a rfl rfl (by omega) (by omega)) ?_
   refine Yo 10 rfl (fun _=>Xfe rfl rfl)<|Yo 11 rfl (fun _=>X6d (k:=k) (off:=k*1) rfl rfl X03 X1a rfl (by omega) rfl) ?_
   refine Y1 12 ?_
   refine Yh rfl trivial rfl (X6h (enc:=encI) (l:=o1) (u:=max (o1.getD k 0) ((best.getD (u26).toNat 0)+1)) (k:=k) rfl rfl X1a hB6 Xp X1n rfl (by omega)) ?_;rintro _ w11 ⟨ho,hb⟩
   have hold:=hB6
   replace hB8:=hB8.only ho (Blk.ne hB8 hold rfl)
   replace hB19:=hB19.only ho (Blk.ne hB19 hold rfl)
   replace ho22:=ho22.onlyA ho haw22_6
   replace hW:=Below.only hW ho hlo6
   clear hold
   have hB6:=hb
   clear hb ho
   refine Yd fun a hf=>?_
   refine Xr ?_
   refine hK27 _ _ ?_
   refine Zr hf ?_
   refine Ze (X0a rfl rfl (by omega) (by omega))<|Zm rfl ?_
   refine Zn fun a hf=>?_
   refine Xz ?_
   exact ⟨(j+1,(o1.set k (max (o1.getD k 0) ((best.getD (u26).toNat 0)+1)))),⟨hf.sub ⟨rfl,rfl,rfl,rfl,rfl,rfl,rfl,rfl,rfl,rfl,trivial⟩,(by omega),(by rw [hms,← ho9,ho1,List.set_set,← ho1]),hB6,hB8,hB19,ho22,hW⟩,(by first|omega|(dsimp only;omega))⟩
  have hc25b:=hc25
  have hc25:=of_decide_eq_false hc25
  have hd9:o1=out.set k (mxq1 best (qubI u14) 0):=by rw [ho1,List.take_of_length_le (by omega)]
  have ho9:o1.getD k 0=mxq1 best (qubI u14) 0:=by rw [hd9,Xaq (by omega)]
  have ho8:=Xbw hbs (by omega) hqb
  rw [← ho9] at ho8
  have hol1:o1.length=p.gs.length:=by rw [hd9,List.length_set];exact hol
  refine wp_exit ?_
  refine Xu ?_
  refine Xu ?_
  refine X0f ?_
  refine hK20 _ _ ?_
  refine Zs hf fun _ hK31=>?_
  refine Ze (Vn Xo hB19) ?_
  refine Zf (Vc (F96 _ u14) X5z) ?_;rintro _ w12 ⟨A32,c32,rfl,ho32,hE⟩
  have haw32_6:=ho32.awayNew hB6.lt
  replace ho32:=ho32.lower hW.size
  replace hB6:=hB6.below hE
  replace hB8:=hB8.below hE
  replace hB19:=hB19.below hE
  replace ho22:=ho22.below hE
  replace hW:=btr hW hE
  refine Ze (X14 rfl X03)<|Zm rfl ?_
  refine Zt hK31 fun a hf=>?_
  refine wp_block ?_
  refine X0c (σ:=Nat×(List Int)) (fun (s:Nat×(List Int)) (a:Act) (w:World)=>match s with|(i,b2)=>Fr a 60 [(3,.slice (some ⟨b6,0,none⟩) p.gs.length p.gs.length),(4,.pointer (some ⟨b8,0,none⟩)),(5,vi (k:Int)),(17,.slice Ap p.gs.length cp),(18,vi (p.gs.length:Int)),(19,vi (k:Int)),(45,.slice A32 (qubI u14).length c32),(46,vi ((qubI u14).length:Int)),(47,vi (i:Int))]∧(i≤(qubI u14).length)∧(b2=setq best ((qubI u14).take i) (o1.getD k 0))∧Blk w b6 3 (o1.flatMap encI)∧Blk w b8 89 (b2.flatMap encI)∧Own w w0.heap.size 3 1 encI A32 c32 (qubI u14)∧Below w0.heap.size w0 w) (fun (s:Nat×(List Int))=>match s with|(i,b2)=>(qubI u14).length-i) (0,best) ?_ ?_
  ·exact ⟨hf.sub ⟨rfl,rfl,rfl,rfl,rfl,rfl,rfl,rfl,rfl,trivial⟩,(Nat.zero_le _),rfl,hB6,hB8,ho32,hW⟩
  rintro ⟨i,b2⟩ a w13 ⟨hf,hi,hb2,hB6,hB8,ho32,hW⟩
  refine Zs hf fun _ hK33=>?_
  refine Ze (X16 rfl rfl) ?_
  refine Zt hK33 fun a hf=>?_
  refine wp_seq_k fun _ hK34=>?_
  refine Xm hf rfl (fun hc35=>?_) (fun hc35=>?_)
  ·have hc35b:=hc35
   have hc35:=of_decide_eq_true hc35
   obtain ⟨u36,hu36⟩:=Xx (l:=(qubI u14)) (k:=i) (by omega)
   have hq9:=hqb _ (List.mem_of_getElem? hu36)
   have hl9:b2.length=5:=by rw [hb2,X3m];exact hl5
   refine wp_skip ?_
   refine hK34 _ _ ?_
   refine wp_seq_k fun _ hK37=>?_
   refine wp_block ?_
   refine Zs hf fun _ hK38=>?_
   refine Zi (k:=i) (u:=u36) (enc:=encI) (l:=(qubI u14)) trivial rfl rfl X03 X1a Xp ho32.rd hu36 rfl ?_;intro p40 hat39
   refine Ze (X0 rfl X3 hat39)<|Za rfl ?_
   refine Zt hK38 fun a hf=>?_
   refine Zr hf ?_
   refine Zm rfl<|Zm rfl<|Zm rfl<|Ze (X6d (k:=k) (off:=k*1) rfl rfl X03 X1a rfl (by omega) rfl)<|Ze (X8j (enc:=encI) (l:=o1) (u:=(o1.getD k 0)) (k:=k) rfl X3 hB6 Xp (X2b (by omega)) rfl) ?_
   refine Ze (X48 (k:=(u36).toNat) rfl rfl Tryz.underlying89 X1a (by omega) (by omega) (Nat.zero_add _)) ?_
   refine Zo (X6h (enc:=encI) (l:=b2) (u:=(o1.getD k 0)) (k:=(u36).toNat) rfl rfl X1a hB8 Xp X1n rfl (by omega)) ?_;rintro _ w14 ⟨ho,hb⟩
   have hold:=hB8
   replace hB6:=hB6.only ho (Blk.ne hB6 hold rfl)
   replace ho32:=ho32.onlyT ho hold rfl
   replace hW:=Below.only hW ho hlo8
   clear hold
   have hB8:=hb
   clear hb ho
   refine Zn fun a hf=>?_
   refine Xr ?_
   refine hK37 _ _ ?_
   refine Zr hf ?_
   refine Ze (X0a rfl rfl (by omega) (by omega))<|Zm rfl ?_
   refine Zn fun a hf=>?_
   refine Xz ?_
   exact ⟨(i+1,(b2.set ((u36).toNat) (o1.getD k 0))),⟨hf.sub ⟨rfl,rfl,rfl,rfl,rfl,rfl,rfl,rfl,rfl,trivial⟩,(by omega),(by rw [X7u hu36,hb2]),hB6,hB8,ho32,hW⟩,(by first|omega|(dsimp only;omega))⟩
  have hc35b:=hc35
  have hc35:=of_decide_eq_false hc35
  have hb9:b2=setq best (qubI u14) (o1.getD k 0):=by rw [hb2,List.take_of_length_le (by omega)]
  have hbn:=Xcg hbs hqb (d:=o1.getD k 0) (by omega)
  rw [← hb9] at hbn
  refine wp_exit ?_
  refine Xu ?_
  refine Xu ?_
  refine X0f ?_
  refine Xr ?_
  refine hK15 _ _ ?_
  refine Zr hf ?_
  refine Ze (X0a rfl rfl (by omega) (by omega))<|Zm rfl ?_
  refine Zn fun a hf=>?_
  refine Xz ?_
  exact ⟨(k+1,b2,o1),⟨hf.sub ⟨rfl,rfl,rfl,rfl,rfl,trivial⟩,(by omega),hol1,(by rw [hst,← hbz,hb9,ho9,hd9,Xfg (by omega)];rfl),(by rw [Int.natCast_add];exact hbn),(fun j hj=>by rw [hd9,Xfn (by omega)];exact hoz j (by omega)),hB6,hB8,hW⟩,(by first|omega|(dsimp only;omega))⟩
 have hc13b:=hc13
 have hc13:=of_decide_eq_false hc13
 have hfin:lyI p.gs=out:=by have h9:=congrArg Prod.snd hbz;rw [List.take_of_length_le (by omega),List.take_of_length_le (by omega)] at h9;exact h9.symm
 refine wp_exit ?_
 refine Xu ?_
 refine Xu ?_
 refine X0f ?_
 refine hK9 _ _ ?_
 refine Zs hf fun _ hK41=>?_
 refine Zm rfl<|Za rfl ?_
 refine Zt hK41 fun a hf=>?_
 refine wp_ret (X2 hf (Xj hf rfl rfl) ?_)
 have hmk:out.length=p.gs.length:=hol
 have hmkb:p.gs.length≤maxLen:=by simp only [maxLen];omega
 rw [hfin]
 exact ⟨_,_,by rw [hmk],Own.of_flat Xp hB6 hlo6 hmk hmkb,hW⟩
theorem Xod(w0:World)(Al:Option Addr)(cl:Nat)(l:List Int)(hr_l:Rd w0 w0.heap.size 3 encI Al l)(hl1:1≤l.length)(hln:l.length≤2305843009213693951) : Ret Tryz.prog 64 [.slice Al l.length cl] w0 (fun v w=>∃ m:Int,v=vi m∧(∀ x ∈ l,x≤m)∧Below w0.heap.size w0 w):=by
 refine enter Tryz.func64 rfl 25 rfl rfl ?_
 intro a hf
 have hW:Below w0.heap.size w0 w0:=Below.refl _ _
 refine Zs hf fun _ hK2=>?_
 refine Za rfl ?_
 refine Zt hK2 fun a hf=>?_
 refine wp_seq_k fun _ hK3=>?_
 refine Zs hf fun _ hK4=>?_
 refine Zm rfl<|Ze (X14 rfl X03)<|Ze (X16 rfl rfl) ?_
 refine Zt hK4 fun a hf=>?_
 refine Xm hf rfl (fun hc5=>?_) (fun hc5=>?_)
 ·have hc5b:=hc5
  have hc5:=of_decide_eq_true hc5
  exact absurd hc5 (by omega)
 have hc5b:=hc5
 have hc5:=of_decide_eq_false hc5
 refine wp_skip ?_
 refine hK3 _ _ ?_
 refine Zs hf fun _ hK6=>?_
 refine Zm rfl ?_
 refine Zi (k:=0) (u:=(l.getD 0 0)) (enc:=encI) (l:=l) trivial rfl rfl X03 X1a Xp (hr_l.below' hW) (X2b (by omega)) rfl ?_;intro p8 hat7
 refine Ze (X0 rfl X3 hat7)<|Za rfl ?_
 refine Zt hK6 fun a hf=>?_
 refine wp_seq_k fun _ hK9=>?_
 refine Zs hf fun _ hK10=>?_
 refine Za rfl ?_
 refine Zt hK10 fun a hf=>?_
 refine wp_block ?_
 refine X0c (σ:=Nat×Int) (fun (s:Nat×Int) (a:Act) (w:World)=>match s with|(k,m)=>Fr a 25 [(0,.slice Al l.length cl),(3,vi m),(4,vi (k:Int))]∧(k≤l.length)∧(∀ x ∈ l.take k,x≤m)∧Below w0.heap.size w0 w) (fun (s:Nat×Int)=>match s with|(k,m)=>l.length-k) (1,(l.getD 0 0)) ?_ ?_
 ·exact ⟨hf.sub ⟨rfl,rfl,rfl,trivial⟩,hl1,(Xgx hl1),hW⟩
 rintro ⟨k,m⟩ a w1 ⟨hf,hk,hm,hW⟩
 refine wp_seq_k fun _ hK11=>?_
 refine Zs hf fun _ hK12=>?_
 refine Zm rfl<|Zm rfl<|Ze (X14 rfl X03)<|Ze (X16 rfl rfl) ?_
 refine Zt hK12 fun a hf=>?_
 refine Xm hf rfl (fun hc13=>?_) (fun hc13=>?_)
 ·have hc13b:=hc13
  have hc13:=of_decide_eq_true hc13
  obtain ⟨u14,hu14⟩:=Xx (l:=l) (k:=k) (by omega)
  refine wp_skip ?_
  refine hK11 _ _ ?_
  refine wp_seq_k fun _ hK15=>?_
  refine wp_block ?_
  refine Zr hf ?_
  refine Zm rfl<|Zm rfl<|Zm rfl ?_
  refine Zi (k:=k) (u:=u14) (enc:=encI) (l:=l) trivial rfl rfl X03 X1a Xp (hr_l.below' hW) hu14 rfl ?_;intro p17 hat16
  refine Ze (X0 rfl X3 hat16)<|Ze (Xfe rfl rfl)<|Za rfl ?_
  refine Zn fun a hf=>?_
  refine Xr ?_
  refine hK15 _ _ ?_
  refine Zr hf ?_
  refine Zm rfl<|Ze (X0a rfl rfl (by omega) (by omega))<|Za rfl ?_
  refine Zn fun a hf=>?_
  refine Xz ?_
  exact ⟨(k+1,max m u14),⟨hf.sub ⟨rfl,rfl,rfl,trivial⟩,(by omega),(Xf0 hm hu14),hW⟩,(by first|omega|(dsimp only;omega))⟩
 have hc13b:=hc13
 have hc13:=of_decide_eq_false hc13
 have hfin:∀ x ∈ l,x≤m:=by rw [List.take_of_length_le (by omega)] at hm;exact hm
 refine wp_exit ?_
 refine Xu ?_
 refine Xu ?_
 refine X0f ?_
 refine hK9 _ _ ?_
 refine Zs hf fun _ hK18=>?_
 refine Zm rfl<|Za rfl ?_
 refine Zt hK18 fun a hf=>?_
 refine wp_ret (X2 hf (Xj hf rfl rfl) ?_)
 exact ⟨m,rfl,hfin,hW⟩
end Go.Proofs.YtlfjcmldfbfdbaaGreat
set_option maxHeartbeats 1000000
set_option maxRecDepth 4000
namespace Go.Proofs.YtlfjcmldfbfdbaaGreat
open Go.RowKit
theorem Xn9(w0:World)(c:Cx)(Ac:Option Addr)(cc:Nat)(hr_c:Rd w0 w0.heap.size 24 encG Ac c.gs)(hln:c.gs.length≤1000000) : Ret Tryz.prog 13 [.agg #[vi c.n,.slice Ac c.gs.length cc]] w0 (fun v w=>∃ d:Int,v=.tuple #[vi d,.bool (cOk c)]∧(cOk c=true→0≤d∧∀ x ∈ lyI c.gs,x≤d)∧Below w0.heap.size w0 w):=by
 refine enter Tryz.func13 rfl 12 rfl rfl ?_
 intro a hf
 have hW:Below w0.heap.size w0 w0:=Below.refl _ _
 refine Zs hf fun _ hK2=>?_
 refine Zf (X0j (zs:=[vi c.n,.slice Ac c.gs.length cc]) rfl rfl) ?_;rintro _ w1 ⟨b3,rfl,hl3,hE,hB3⟩
 have hlo3:=Nat.le_trans hW.size hl3
 replace hW:=btr hW hE
 refine Za rfl<|Za rfl ?_
 refine Zt hK2 fun a hf=>?_
 refine wp_seq_k fun _ hK4=>?_
 refine Zs hf fun _ hK5=>?_
 refine Ze (Vn X1k hB3) ?_
 refine Zf (Vc (F55 _ c Ac cc (hr_c.below' hW).top (by omega)) Xcv) ?_;rintro _ w2 ⟨rfl,hE⟩
 replace hB3:=hB3.below hE
 replace hW:=btr hW hE
 refine Ze (X15 rfl) ?_
 refine Zt hK5 fun a hf=>?_
 refine Xm hf rfl (fun hc6=>?_) (fun hc6=>?_)
 ·have hc6b:=hc6
  have hcf:cOk c=false:=by revert hc6;cases cOk c<;>simp
  refine Zs hf fun _ hK7=>?_
  refine Za rfl<|Za rfl ?_
  refine Zt hK7 fun a hf=>?_
  refine wp_ret ?_
  refine X7 ?_
  refine X2 hf (X12 hf rfl rfl rfl) ?_
  rw [hcf]
  exact ⟨0,rfl,(fun h0=>by cases h0),hW⟩
 have hc6b:=hc6
 have hc:cOk c=true:=by revert hc6;cases cOk c<;>simp
 obtain ⟨hcn,hcl,hcg⟩:=X1j hc
 have hll:(lyI c.gs).length=c.gs.length:=by rw [Xjn hcg,X6j]
 refine wp_skip ?_
 refine hK4 _ _ ?_
 refine Zs hf fun _ hK8=>?_
 refine Ze (Vn X1k hB3) ?_
 refine Zf (Vc (Xn4 _ c Ac cc (hr_c.below' hW).top hc) Xhn) ?_;rintro _ w3 ⟨A9,c9,rfl,ho9,hE⟩
 replace ho9:=ho9.lower hW.size
 replace hB3:=hB3.below hE
 replace hW:=btr hW hE
 refine Zf (Xd (k:=1) (vs:=[vi 0]) (zs:=[vi 0]) rfl X03 X18 rfl rfl) ?_;rintro _ w4 ⟨b10,rfl,hl10,hE,hB10⟩
 have hlo10:=Nat.le_trans hW.size hl10
 have haw9_10:=ho9.away hl10
 replace hB3:=hB3.below hE
 replace ho9:=ho9.below hE
 replace hW:=btr hW hE
 refine Zf (X1e (enc:=encI) (l:=((lyI c.gs))) (l2:=([0])) (B0:=w0.heap.size) rfl rfl X03 X18 Xp X1n ho9 (Rd.of_blk hB10 rfl _ hB10.lt) (by simp only [maxLen];simp;omega) (by simp;omega) hW.size) ?_;rintro _ w5 ⟨A12,c12,rfl,ho12,hg,hat⟩
 have hown:Own _ w0.heap.size 3 1 encI _ _ ((lyI c.gs)):=ho9
 have haw12_10:=hat _ hB10.lt haw9_10
 clear hat
 replace hB3:=hB3.appT hown hg rfl
 replace hW:=Below.app hW hown hg (Nat.le_refl _) hW.size
 clear hown hg
 refine Zf (Vc (Xod _ A12 c12 ((lyI c.gs)++([0])) ho12.rd.top (by simp) (by simp;omega)) Xja) ?_;rintro _ w6 ⟨xz11,rfl,hPz11,hE⟩
 replace hB3:=hB3.below hE
 replace ho12:=ho12.below hE
 replace hW:=btr hW hE
 refine Za rfl<|Za rfl ?_
 refine Zt hK8 fun a hf=>?_
 refine wp_ret (X2 hf (X12 hf rfl rfl rfl) ?_)
 rw [hc]
 exact ⟨_,rfl,(fun _=>⟨hPz11 _ (by simp),fun x hx=>hPz11 x (List.mem_append_left _ hx)⟩),hW⟩
theorem Xnp(w0:World)(c:Cx)(Ac:Option Addr)(cc:Nat)(hr_c:Rd w0 w0.heap.size 24 encG Ac c.gs)(hln:c.gs.length≤2305843009213693951) : Ret Tryz.prog 66 [.agg #[vi c.n,.slice Ac c.gs.length cc]] w0 (fun v w=>v=.tuple #[vi (cnC c),.bool (cOk c)]∧Below w0.heap.size w0 w):=by
 refine enter Tryz.func66 rfl 8 rfl rfl ?_
 intro a hf
 have hW:Below w0.heap.size w0 w0:=Below.refl _ _
 refine Zs hf fun _ hK2=>?_
 refine Zf (X0j (zs:=[vi c.n,.slice Ac c.gs.length cc]) rfl rfl) ?_;rintro _ w1 ⟨b3,rfl,hl3,hE,hB3⟩
 have hlo3:=Nat.le_trans hW.size hl3
 replace hW:=btr hW hE
 refine Za rfl<|Za rfl ?_
 refine Zt hK2 fun a hf=>?_
 refine Zs hf fun _ hK4=>?_
 refine Ze (Vn X1k hB3) ?_
 refine Zf (Vc (Xna _ c Ac cc (hr_c.below' hW).top 60 [] Xck isTk (fun x w' hE'=>Xjt w' x) hln) Xhf) ?_;rintro _ w2 ⟨rfl,hE⟩
 replace hB3:=hB3.below hE
 replace hW:=btr hW hE
 refine Ze (X5 (vs:=[vi (if cOk c=true then ((cntP isTk c.gs:Nat) : Int) else 0),.bool (cOk c)]) rfl rfl)<|Ze (X5 (vs:=[vi (if cOk c=true then ((cntP isTk c.gs:Nat) : Int) else 0),.bool (cOk c)]) rfl rfl)<|Za rfl<|Za rfl ?_
 refine Zt hK4 fun a hf=>?_
 refine wp_ret (X2 hf (X12 hf rfl rfl rfl) ?_)
 exact ⟨rfl,hW⟩
theorem Xne(w0:World)(c:Cx)(Ac:Option Addr)(cc:Nat)(hr_c:Rd w0 w0.heap.size 24 encG Ac c.gs)(hln:c.gs.length≤2305843009213693951) : Ret Tryz.prog 14 [.agg #[vi c.n,.slice Ac c.gs.length cc]] w0 (fun v w=>v=vi (cnC c)∧Below w0.heap.size w0 w):=by
 refine enter Tryz.func14 rfl 11 rfl rfl ?_
 intro a hf
 have hW:Below w0.heap.size w0 w0:=Below.refl _ _
 refine Zs hf fun _ hK2=>?_
 refine Zf (X0j (zs:=[vi c.n,.slice Ac c.gs.length cc]) rfl rfl) ?_;rintro _ w1 ⟨b3,rfl,hl3,hE,hB3⟩
 have hlo3:=Nat.le_trans hW.size hl3
 replace hW:=btr hW hE
 refine Za rfl ?_
 refine Zt hK2 fun a hf=>?_
 refine Zs hf fun _ hK4=>?_
 refine Ze (Vn X1k hB3) ?_
 refine Zf (Vc (Xnp _ c Ac cc (hr_c.below' hW).top hln) Xhb) ?_;rintro _ w2 ⟨rfl,hE⟩
 replace hB3:=hB3.below hE
 replace hW:=btr hW hE
 refine Zm rfl<|Ze (X5 (vs:=[vi (cnC c),.bool (cOk c)]) rfl rfl)<|Ze (X5 (vs:=[vi (cnC c),.bool (cOk c)]) rfl rfl)<|Za rfl<|Za rfl ?_
 refine Zt hK4 fun a hf=>?_
 refine Zs hf fun _ hK5=>?_
 refine Zm rfl<|Za rfl ?_
 refine Zt hK5 fun a hf=>?_
 refine wp_ret (X2 hf (Xj hf rfl rfl) ?_)
 exact ⟨rfl,hW⟩
theorem Xol(w0:World){Xcd:TypeId}(Acd:Option Addr)(ccd:Nat)(code:List Int)(hr_code:Rd w0 w0.heap.size Xcd encU Acd code)(hcd:∀ x ∈ code,0≤x∧x≤255) : Ret Tryz.prog 56 [.slice Acd code.length ccd] w0 (fun v w=>∃ (c:Cx) (A:Option Addr) (e:Nat),v=.agg #[vi c.n,.slice A c.gs.length e]∧(0≤c.n∧c.n≤6∧c.gs.length≤10)∧Own w w0.heap.size 24 3 encG A e c.gs∧Below w0.heap.size w0 w):=by
 refine enter Tryz.func56 rfl 13 rfl rfl ?_
 intro a hf
 have hW:Below w0.heap.size w0 w0:=Below.refl _ _
 refine Zs hf fun _ hK2=>?_
 refine Zf (X6 (zs:=[vi 0,.slice none 0 0]) X92 rfl) ?_;rintro _ w1 ⟨b4,rfl,hl4,hE,hB4⟩
 have hlo4:=Nat.le_trans hW.size hl4
 have haw1_4:=(hr_code.below' hW).away hl4
 replace hW:=btr hW hE
 refine Zt hK2 fun a hf=>?_
 refine Zs hf fun _ hK5=>?_
 refine Zm rfl<|Ze (Xt (ps:=[(0,.slice Acd code.length ccd)]) (cs:=[.slice Acd code.length ccd,vi 0,.int .u64 0]) rfl (fun _=>by first|rfl|kernel_rfl)) ?_
 refine Zf (X0j (zs:=[.slice Acd code.length ccd,vi 0,.int .u64 0]) rfl rfl) ?_;rintro _ w2 ⟨b7,rfl,hl7,hE,hB7⟩
 have hlo7:=Nat.le_trans hW.size hl7
 have haw1_7:=(hr_code.below' hW).away hl7
 replace hB4:=hB4.below hE
 replace hW:=btr hW hE
 refine Za rfl ?_
 refine Zt hK5 fun a hf=>?_
 refine wp_seq_k fun _ hK8=>?_
 refine Zs hf fun _ hK9=>?_
 refine Zm rfl ?_
 refine Zf (Vc (Xjm _ b7 Acd ccd code (hr_code.below' hW).top hcd haw1_7 0 0 hB7 8 (by omega)) Xc2) ?_;rintro _ w3 ⟨xz8,tz8,sz8,rfl,hPz8,htz8,hK,hbn⟩
 obtain ⟨wm,hO,hm,hE⟩:=hK.mid;clear hm
 have hold:=hB7
 replace hB4:=hB4.only hO (Blk.ne hB4 hold rfl)
 replace hW:=Below.only hW hO hlo7
 replace hB4:=hB4.below hE
 replace hW:=btr hW hE
 clear hold hE hO hK;replace hB7:=hbn;clear hbn
 refine Zt hK9 fun a hf=>?_
 refine Xm hf rfl (fun hc10=>?_) (fun hc10=>?_)
 ·have hc10b:=hc10
  refine Zs hf fun _ hK11=>?_
  refine Zm rfl ?_
  refine Zf (Vc (Xnr _ b7 Acd ccd code (hr_code.below' hW).top hcd haw1_7 tz8 sz8 hB7 (by omega)) Xih) ?_;rintro _ w4 ⟨cz10,Az10,ez10,tz10,sz10,rfl,hPz10,htz10,hoz10,hK,hbn⟩
  have hlv:=hW.size
  obtain ⟨wm,hO,hm,hE⟩:=hK.mid;clear hm
  have hold:=hB7
  replace hB4:=hB4.only hO (Blk.ne hB4 hold rfl)
  replace hW:=Below.only hW hO hlo7
  replace hB4:=hB4.below hE
  replace hW:=btr hW hE
  clear hold hE hO hK;replace hB7:=hbn;clear hbn
  replace hoz10:=hoz10.lower hlv;clear hlv
  refine Zo (Vw [vi cz10.n,.slice Az10 cz10.gs.length ez10] X3g hB4) ?_;rintro _ w5 ⟨ho,hb⟩
  have hold:=hB4
  replace hB7:=hB7.only ho (Blk.ne hB7 hold rfl)
  replace hoz10:=hoz10.onlyT ho hold rfl
  replace hW:=Below.only hW ho hlo4
  clear hold
  have hB4:=hb
  clear hb ho
  refine Zt hK11 fun a hf=>?_
  refine wp_ret ?_
  refine X7 ?_
  refine X2 hf (Xj hf rfl (ResV.cellN (l:=[vi cz10.n,.slice Az10 cz10.gs.length ez10]) rfl X1k (hB4.at 0) rfl)) ?_
  exact ⟨_,Az10,ez10,rfl,(by omega),hoz10,hW⟩
 have hc10b:=hc10
 refine wp_skip ?_
 refine hK8 _ _ ?_
 refine Zs hf fun _ hK13=>?_
 refine Zm rfl ?_
 refine Zf (Vc (Xom _ b7 Acd ccd code (hr_code.below' hW).top hcd haw1_7 tz8 sz8 hB7 10 (by omega) (by omega)) Xip) ?_;rintro _ w6 ⟨cz12,Az12,ez12,tz12,sz12,rfl,hPz12,htz12,hoz12,hK,hbn⟩
 have hlv:=hW.size
 obtain ⟨wm,hO,hm,hE⟩:=hK.mid;clear hm
 have hold:=hB7
 replace hB4:=hB4.only hO (Blk.ne hB4 hold rfl)
 replace hW:=Below.only hW hO hlo7
 replace hB4:=hB4.below hE
 replace hW:=btr hW hE
 clear hold hE hO hK;replace hB7:=hbn;clear hbn
 replace hoz12:=hoz12.lower hlv;clear hlv
 refine Zo (Vw [vi cz12.n,.slice Az12 cz12.gs.length ez12] X3g hB4) ?_;rintro _ w7 ⟨ho,hb⟩
 have hold:=hB4
 replace hB7:=hB7.only ho (Blk.ne hB7 hold rfl)
 replace hoz12:=hoz12.onlyT ho hold rfl
 replace hW:=Below.only hW ho hlo4
 clear hold
 have hB4:=hb
 clear hb ho
 refine Zt hK13 fun a hf=>?_
 refine wp_ret (X2 hf (Xj hf rfl (ResV.cellN (l:=[vi cz12.n,.slice Az12 cz12.gs.length ez12]) rfl X1k (hB4.at 0) rfl)) ?_)
 exact ⟨_,Az12,ez12,rfl,(by omega),hoz12,hW⟩
theorem Xnw(w0:World){Xcd:TypeId}(Acd:Option Addr)(ccd:Nat)(code:List Int)(hr_code:Rd w0 w0.heap.size Xcd encU Acd code)(hcd:∀ x ∈ code,0≤x∧x≤255) : Ret Tryz.prog 10 [.slice Acd code.length ccd] w0 (fun v w=>∃ (c:Cx) (A:Option Addr) (e:Nat),v=.agg #[vi c.n,.slice A c.gs.length e]∧(0≤c.n∧c.n≤6∧c.gs.length≤10)∧Own w w0.heap.size 24 3 encG A e c.gs∧Below w0.heap.size w0 w):=by
 refine enter Tryz.func10 rfl 5 rfl rfl ?_
 intro a hf
 have hW:Below w0.heap.size w0 w0:=Below.refl _ _
 refine Zs hf fun _ hK2=>?_
 refine Zf (X6 (zs:=[vi 0,.slice none 0 0]) X92 rfl) ?_;rintro _ w1 ⟨b4,rfl,hl4,hE,hB4⟩
 have hlo4:=Nat.le_trans hW.size hl4
 have haw1_4:=(hr_code.below' hW).away hl4
 replace hW:=btr hW hE
 refine Zt hK2 fun a hf=>?_
 refine Zs hf fun _ hK5=>?_
 refine Zm rfl ?_
 refine Zf (Vc (Xol _ Acd ccd code (hr_code.below' hW).top hcd) Xi1) ?_;rintro _ w2 ⟨cz4,Az4,ez4,rfl,hPz4,hoz4,hE⟩
 replace hoz4:=hoz4.lower hW.size
 replace hB4:=hB4.below hE
 replace hW:=btr hW hE
 refine Zo (Vw [vi cz4.n,.slice Az4 cz4.gs.length ez4] X3g hB4) ?_;rintro _ w3 ⟨ho,hb⟩
 have hold:=hB4
 replace hoz4:=hoz4.onlyT ho hold rfl
 replace hW:=Below.only hW ho hlo4
 clear hold
 have hB4:=hb
 clear hb ho
 refine Zt hK5 fun a hf=>?_
 refine wp_ret (X2 hf (Xj hf rfl (ResV.cellN (l:=[vi cz4.n,.slice Az4 cz4.gs.length ez4]) rfl X1k (hB4.at 0) rfl)) ?_)
 exact ⟨_,Az4,ez4,rfl,hPz4,hoz4,hW⟩
theorem Xjo(w0:World)(n:Int) : Ret Tryz.prog 50 [vi n] w0 (fun v w=>v=vi (max 1 (min n 5))∧Below w0.heap.size w0 w):=by
 refine enter Tryz.func50 rfl 6 rfl rfl ?_
 intro a hf
 have hW:Below w0.heap.size w0 w0:=Below.refl _ _
 refine Zs hf fun _ hK1=>?_
 refine Za rfl ?_
 refine Zt hK1 fun a hf=>?_
 refine Zs hf fun _ hK2=>?_
 refine Zm rfl ?_
 refine Zf (Vc (Xnd _ n 5) Xia) ?_;rintro _ w1 ⟨rfl,hE⟩
 replace hW:=btr hW hE
 refine Zf (Vc (Xi5 _ 1 (min n 5)) X9e) ?_;rintro _ _ ⟨rfl,rfl⟩
 refine Za rfl ?_
 refine Zt hK2 fun a hf=>?_
 refine wp_ret (X2 hf (Xj hf rfl rfl) ?_)
 exact ⟨rfl,hW⟩
end Go.Proofs.YtlfjcmldfbfdbaaGreat
set_option maxHeartbeats 1000000
set_option maxRecDepth 4000
namespace Go.Proofs.YtlfjcmldfbfdbaaGreat
open Go.RowKit
theorem Xo8(w0:World){Xcd:TypeId}(Acd:Option Addr)(ccd:Nat)(code:List Int)(hr_code:Rd w0 w0.heap.size Xcd encU Acd code)(hcd:∀ x ∈ code,0≤x∧x≤255) : Ret Tryz.prog 48 [.slice Acd code.length ccd] w0 (fun v w=>∃ (n:Int) (p0:Gt),v=.tuple #[vi n,gV p0]∧Below w0.heap.size w0 w):=by
 refine enter Tryz.func48 rfl 23 rfl rfl ?_
 intro a hf
 have hW:Below w0.heap.size w0 w0:=Below.refl _ _
 refine Zs hf fun _ hK2=>?_
 refine Za rfl ?_
 refine Zf (X6 (zs:=[vi 0,vi 0,vi 0]) X2h rfl) ?_;rintro _ w1 ⟨b3,rfl,hl3,hE,hB3⟩
 have hlo3:=Nat.le_trans hW.size hl3
 have haw1_3:=(hr_code.below' hW).away hl3
 replace hW:=btr hW hE
 refine Zt hK2 fun a hf=>?_
 refine Zs hf fun _ hK4=>?_
 refine Zm rfl<|Ze (Xt (ps:=[(0,.slice Acd code.length ccd)]) (cs:=[.slice Acd code.length ccd,vi 0,.int .u64 0]) rfl (fun _=>by first|rfl|kernel_rfl)) ?_
 refine Zf (X0j (zs:=[.slice Acd code.length ccd,vi 0,.int .u64 0]) rfl rfl) ?_;rintro _ w2 ⟨b6,rfl,hl6,hE,hB6⟩
 have hlo6:=Nat.le_trans hW.size hl6
 have haw1_6:=(hr_code.below' hW).away hl6
 replace hB3:=hB3.below hE
 replace hW:=btr hW hE
 refine Za rfl ?_
 refine Zt hK4 fun a hf=>?_
 refine Zs hf fun _ hK7=>?_
 refine Zm rfl ?_
 refine Zf (Xd (k:=6) (vs:=[vi 2,vi 3,vi 5,vi 6,vi 0,vi 1]) (zs:=[vi 2,vi 3,vi 5,vi 6,vi 0,vi 1]) rfl X03 X18 rfl rfl) ?_;rintro _ w3 ⟨b8,rfl,hl8,hE,hB8⟩
 have hlo8:=Nat.le_trans hW.size hl8
 have haw1_8:=(hr_code.below' hW).away hl8
 replace hB3:=hB3.below hE
 replace hB6:=hB6.below hE
 replace hW:=btr hW hE
 refine Zf (Vc (Xc5 _ b6 Acd ccd code (hr_code.below' hW).top hcd haw1_6 0 0 hB6 (some ⟨b8,0,none⟩) 6 ([2,3,5,6,0,1]) (Rd.of_blk hB8 rfl _ hB8.lt) (by simp) (by simp) (by omega)) X6l) ?_;rintro _ w4 ⟨xz10,tz10,sz10,rfl,hPz10,htz10,hK,hbn⟩
 obtain ⟨wm,hO,hm,hE⟩:=hK.mid;clear hm
 have hold:=hB6
 replace hB3:=hB3.only hO (Blk.ne hB3 hold rfl)
 replace hB8:=hB8.only hO (Blk.ne hB8 hold rfl)
 replace hW:=Below.only hW hO hlo6
 replace hB3:=hB3.below hE
 replace hB8:=hB8.below hE
 replace hW:=btr hW hE
 clear hold hE hO hK;replace hB6:=hbn;clear hbn
 refine Zm rfl ?_
 refine Zf (Vc (X2p _ b6 Acd ccd code (hr_code.below' hW).top hcd haw1_6 tz10 sz10 hB6 14 (by omega)) X1l) ?_;rintro _ w5 ⟨xz12,tz12,sz12,rfl,hPz12,htz12,hK,hbn⟩
 obtain ⟨wm,hO,hm,hE⟩:=hK.mid;clear hm
 have hold:=hB6
 replace hB3:=hB3.only hO (Blk.ne hB3 hold rfl)
 replace hB8:=hB8.only hO (Blk.ne hB8 hold rfl)
 replace hW:=Below.only hW hO hlo6
 replace hB3:=hB3.below hE
 replace hB8:=hB8.below hE
 replace hW:=btr hW hE
 clear hold hE hO hK;replace hB6:=hbn;clear hbn
 refine Zm rfl ?_
 refine Zf (Vc (X2p _ b6 Acd ccd code (hr_code.below' hW).top hcd haw1_6 tz12 sz12 hB6 4 (by omega)) X1l) ?_;rintro _ w6 ⟨xz14,tz14,sz14,rfl,hPz14,htz14,hK,hbn⟩
 obtain ⟨wm,hO,hm,hE⟩:=hK.mid;clear hm
 have hold:=hB6
 replace hB3:=hB3.only hO (Blk.ne hB3 hold rfl)
 replace hB8:=hB8.only hO (Blk.ne hB8 hold rfl)
 replace hW:=Below.only hW hO hlo6
 replace hB3:=hB3.below hE
 replace hB8:=hB8.below hE
 replace hW:=btr hW hE
 clear hold hE hO hK;replace hB6:=hbn;clear hbn
 refine Zm rfl ?_
 refine Zf (Vc (X2p _ b6 Acd ccd code (hr_code.below' hW).top hcd haw1_6 tz14 sz14 hB6 8 (by omega)) X1l) ?_;rintro _ w7 ⟨xz16,tz16,sz16,rfl,hPz16,htz16,hK,hbn⟩
 obtain ⟨wm,hO,hm,hE⟩:=hK.mid;clear hm
 have hold:=hB6
 replace hB3:=hB3.only hO (Blk.ne hB3 hold rfl)
 replace hB8:=hB8.only hO (Blk.ne hB8 hold rfl)
 replace hW:=Below.only hW hO hlo6
 replace hB3:=hB3.below hE
 replace hB8:=hB8.below hE
 replace hW:=btr hW hE
 clear hold hE hO hK;replace hB6:=hbn;clear hbn
 refine Ze (X8q rfl rfl rfl)<|Ze (X33 rfl rfl)<|Zm rfl ?_
 refine Zf (Xd (k:=5) (vs:=[vi 0,vi 0,vi 1,vi 2,vi 5]) (zs:=[vi 0,vi 0,vi 1,vi 2,vi 5]) rfl X03 X18 rfl rfl) ?_;rintro _ w8 ⟨b10,rfl,hl10,hE,hB10⟩
 have hne8_10:b8≠b10:=by have:=hB8.lt;omega
 have hlo10:=Nat.le_trans hW.size hl10
 have haw1_10:=(hr_code.below' hW).away hl10
 replace hB3:=hB3.below hE
 replace hB6:=hB6.below hE
 replace hB8:=hB8.below hE
 replace hW:=btr hW hE
 refine Zf (Vc (Xc5 _ b6 Acd ccd code (hr_code.below' hW).top hcd haw1_6 tz16 sz16 hB6 (some ⟨b10,0,none⟩) 5 ([0,0,1,2,5]) (Rd.of_blk hB10 rfl _ hB10.lt) (by simp) (by simp) (by omega)) X6l) ?_;rintro _ w9 ⟨xz21,tz21,sz21,rfl,hPz21,htz21,hK,hbn⟩
 obtain ⟨wm,hO,hm,hE⟩:=hK.mid;clear hm
 have hold:=hB6
 replace hB3:=hB3.only hO (Blk.ne hB3 hold rfl)
 replace hB8:=hB8.only hO (Blk.ne hB8 hold rfl)
 replace hB10:=hB10.only hO (Blk.ne hB10 hold rfl)
 replace hW:=Below.only hW hO hlo6
 replace hB3:=hB3.below hE
 replace hB8:=hB8.below hE
 replace hB10:=hB10.below hE
 replace hW:=btr hW hE
 clear hold hE hO hK;replace hB6:=hbn;clear hbn
 refine Ze (Xt (ps:=[(0,vi xz12),(1,vi (wr (xz14-(wr (xz16.tdiv 7))))),(2,vi xz21)]) (cs:=[vi xz12,vi (wr (xz14-(wr (xz16.tdiv 7)))),vi xz21]) rfl (fun _=>by first|rfl|kernel_rfl))<|Za rfl ?_
 refine Zo (Vw [vi xz12,vi (wr (xz14-(wr (xz16.tdiv 7)))),vi xz21] X0o hB3) ?_;rintro _ w10 ⟨ho,hb⟩
 have hold:=hB3
 replace hB6:=hB6.only ho (Blk.ne hB6 hold rfl)
 replace hB8:=hB8.only ho (Blk.ne hB8 hold rfl)
 replace hB10:=hB10.only ho (Blk.ne hB10 hold rfl)
 replace hW:=Below.only hW ho hlo3
 clear hold
 have hB3:=hb
 clear hb ho
 refine Zt hK7 fun a hf=>?_
 refine wp_ret (X2 hf (X12 hf rfl rfl (ResV.cellN (l:=[vi xz12,vi (wr (xz14-(wr (xz16.tdiv 7)))),vi xz21]) rfl Xo (hB3.at 0) rfl)) ?_)
 exact ⟨xz10,⟨xz12,wr (xz14-(wr (xz16.tdiv 7))),xz21⟩,rfl,hW⟩
theorem Xn7(w0:World){Xcd:TypeId}(Acd:Option Addr)(ccd:Nat)(code:List Int)(hr_code:Rd w0 w0.heap.size Xcd encU Acd code)(hcd:∀ x ∈ code,0≤x∧x≤255) : Ret Tryz.prog 7 [.slice Acd code.length ccd] w0 (fun v w=>∃ (n:Int) (p0:Gt) (p1:Gt),v=.tuple #[vi n,gV p0,gV p1]∧Below w0.heap.size w0 w):=by
 refine enter Tryz.func7 rfl 40 rfl rfl ?_
 intro a hf
 have hW:Below w0.heap.size w0 w0:=Below.refl _ _
 refine Zs hf fun _ hK2=>?_
 refine Za rfl ?_
 refine Zf (X6 (zs:=[vi 0,vi 0,vi 0]) X2h rfl) ?_;rintro _ w1 ⟨b3,rfl,hl3,hE,hB3⟩
 have hlo3:=Nat.le_trans hW.size hl3
 have haw1_3:=(hr_code.below' hW).away hl3
 replace hW:=btr hW hE
 refine Zf (X6 (zs:=[vi 0,vi 0,vi 0]) X2h rfl) ?_;rintro _ w2 ⟨b4,rfl,hl4,hE,hB4⟩
 have hne3_4:b3≠b4:=by have:=hB3.lt;omega
 have hlo4:=Nat.le_trans hW.size hl4
 have haw1_4:=(hr_code.below' hW).away hl4
 replace hB3:=hB3.below hE
 replace hW:=btr hW hE
 refine Zt hK2 fun a hf=>?_
 refine Zs hf fun _ hK5=>?_
 refine Zm rfl<|Ze (Xt (ps:=[(0,.slice Acd code.length ccd)]) (cs:=[.slice Acd code.length ccd,vi 0,.int .u64 0]) rfl (fun _=>by first|rfl|kernel_rfl)) ?_
 refine Zf (X0j (zs:=[.slice Acd code.length ccd,vi 0,.int .u64 0]) rfl rfl) ?_;rintro _ w3 ⟨b7,rfl,hl7,hE,hB7⟩
 have hlo7:=Nat.le_trans hW.size hl7
 have haw1_7:=(hr_code.below' hW).away hl7
 replace hB3:=hB3.below hE
 replace hB4:=hB4.below hE
 replace hW:=btr hW hE
 refine Za rfl ?_
 refine Zt hK5 fun a hf=>?_
 refine Zs hf fun _ hK8=>?_
 refine Zm rfl ?_
 refine Zf (Vc (X2p _ b7 Acd ccd code (hr_code.below' hW).top hcd haw1_7 0 0 hB7 4 (by omega)) X1l) ?_;rintro _ w4 ⟨xz14,tz14,sz14,rfl,hPz14,htz14,hK,hbn⟩
 obtain ⟨wm,hO,hm,hE⟩:=hK.mid;clear hm
 have hold:=hB7
 replace hB3:=hB3.only hO (Blk.ne hB3 hold rfl)
 replace hB4:=hB4.only hO (Blk.ne hB4 hold rfl)
 replace hW:=Below.only hW hO hlo7
 replace hB3:=hB3.below hE
 replace hB4:=hB4.below hE
 replace hW:=btr hW hE
 clear hold hE hO hK;replace hB7:=hbn;clear hbn
 refine Ze (X0a rfl rfl (by omega) (by omega))<|Za rfl ?_
 refine Zt hK8 fun a hf=>?_
 refine wp_seq_k fun _ hK9=>?_
 refine Zs hf fun _ hK10=>?_
 refine Zm rfl ?_
 refine Zf (Vc (Xjm _ b7 Acd ccd code (hr_code.below' hW).top hcd haw1_7 tz14 sz14 hB7 12 (by omega)) Xc2) ?_;rintro _ w5 ⟨xz17,tz17,sz17,rfl,hPz17,htz17,hK,hbn⟩
 obtain ⟨wm,hO,hm,hE⟩:=hK.mid;clear hm
 have hold:=hB7
 replace hB3:=hB3.only hO (Blk.ne hB3 hold rfl)
 replace hB4:=hB4.only hO (Blk.ne hB4 hold rfl)
 replace hW:=Below.only hW hO hlo7
 replace hB3:=hB3.below hE
 replace hB4:=hB4.below hE
 replace hW:=btr hW hE
 clear hold hE hO hK;replace hB7:=hbn;clear hbn
 refine Zt hK10 fun a hf=>?_
 refine Xm hf rfl (fun hc11=>?_) (fun hc11=>?_)
 ·have hc11b:=hc11
  refine Zs hf fun _ hK12=>?_
  refine Zm rfl ?_
  refine Zf (Vc (Xo8 _ Acd ccd code (hr_code.below' hW).top hcd) Xj7) ?_;rintro _ w6 ⟨nz20,p0z20,rfl,hE⟩
  replace hB3:=hB3.below hE
  replace hB4:=hB4.below hE
  replace hB7:=hB7.below hE
  replace hW:=btr hW hE
  refine Zm rfl<|Ze (X5 (vs:=[vi nz20,.agg #[vi p0z20.k,vi p0z20.a,vi p0z20.b]]) rfl rfl)<|Ze (X5 (vs:=[vi nz20,.agg #[vi p0z20.k,vi p0z20.a,vi p0z20.b]]) rfl rfl) ?_
  refine Zf (X6 (zs:=[vi 0,vi 0,vi 0]) X2h rfl) ?_;rintro _ w7 ⟨b13,rfl,hl13,hE,hB13⟩
  have hne3_13:b3≠b13:=by have:=hB3.lt;omega
  have hne4_13:b4≠b13:=by have:=hB4.lt;omega
  have hlo13:=Nat.le_trans hW.size hl13
  have haw1_13:=(hr_code.below' hW).away hl13
  replace hB3:=hB3.below hE
  replace hB4:=hB4.below hE
  replace hB7:=hB7.below hE
  replace hW:=btr hW hE
  refine Za rfl ?_
  refine Zo (Vw [vi p0z20.k,vi p0z20.a,vi p0z20.b] X0o hB13) ?_;rintro _ w8 ⟨ho,hb⟩
  have hold:=hB13
  replace hB3:=hB3.only ho (by omega)
  replace hB4:=hB4.only ho (by omega)
  replace hB7:=hB7.only ho (Blk.ne hB7 hold rfl)
  replace hW:=Below.only hW ho hlo13
  clear hold
  have hB13:=hb
  clear hb ho
  refine Zt hK12 fun a hf=>?_
  refine wp_seq_k fun _ hK14=>?_
  refine X0h (some b7) (fun j=>[8,9].contains j) mixed ?_
  intro w9 hE
  replace hB3:=hB3.below hE
  replace hB4:=hB4.below hE
  replace hB7:=hB7.below hE
  replace hB13:=hB13.below hE
  replace hW:=btr hW hE
  refine Yb hf ?_
  refine Yo 0 rfl (fun _=>X8 rfl) ?_
  refine Yw 1 rfl trivial (fun w1 h1=>X0i (l:=[vi p0z20.k,vi p0z20.a,vi p0z20.b]) rfl Xo ((hB13.only h1 (Blk.ne hB13 hB7 rfl)).at 0) rfl) ?_
  refine Yo 2 rfl (fun _=>X8 rfl)<|Yo 3 rfl (fun _=>X8 rfl) ?_
  refine Y2 4 5 ?_ ?_
  ·refine Yf rfl trivial (EfW.mono (Vc (Xjo _ nz20) Xcu) (fun _ _ h=>⟨fun _=>by obtain ⟨rfl,hE⟩:=h;exact Keep.of_below hE,h⟩)) ?_;rintro _ w10 ⟨rfl,hE⟩
   replace hB3:=hB3.below hE
   replace hB4:=hB4.below hE
   replace hB7:=hB7.below hE
   replace hB13:=hB13.below hE
   replace hW:=btr hW hE
   refine Y1 5 ?_
   refine Yf rfl trivial (EfW.mono (Xd (k:=3) (vs:=[vi 1,vi 7,vi 9]) (zs:=[vi 1,vi 7,vi 9]) rfl X03 X18 rfl rfl) (fun _ _ h=>⟨fun _=>by obtain ⟨_,_,_,hE,_⟩:=h;exact Keep.of_below hE,h⟩)) ?_;rintro _ w11 ⟨b15,rfl,hl15,hE,hB15⟩
   have hlo15:=Nat.le_trans hW.size hl15
   have haw1_15:=(hr_code.below' hW).away hl15
   replace hB3:=hB3.below hE
   replace hB4:=hB4.below hE
   replace hB7:=hB7.below hE
   replace hB13:=hB13.below hE
   replace hW:=btr hW hE
   refine Y1 6 ?_
   refine Yf rfl trivial (EfW.mono (Vc (X9t _ b7 Acd ccd code (hr_code.below' hW).top hcd haw1_7 tz17 sz17 hB7 (max 1 (min nz20 5)) (some ⟨b15,0,none⟩) 3 ([1,7,9]) (Rd.of_blk hB15 rfl _ hB15.lt) (by omega) (by simp) (by simp) (by omega)) X4u) (fun _ _ h=>⟨fun _=>by obtain ⟨xz29,tz29,sz29,rfl,hPz29,htz29,hK,hbn⟩:=h;exact hK.keep,h⟩)) ?_;rintro _ w12 ⟨xz29,tz29,sz29,rfl,hPz29,htz29,hK,hbn⟩
   obtain ⟨wm,hO,hm,hE⟩:=hK.mid;clear hm
   have hold:=hB7
   replace hB3:=hB3.only hO (Blk.ne hB3 hold rfl)
   replace hB4:=hB4.only hO (Blk.ne hB4 hold rfl)
   replace hB13:=hB13.only hO (Blk.ne hB13 hold rfl)
   replace hB15:=hB15.only hO (Blk.ne hB15 hold rfl)
   replace hW:=Below.only hW hO hlo7
   replace hB3:=hB3.below hE
   replace hB4:=hB4.below hE
   replace hB13:=hB13.below hE
   replace hB15:=hB15.below hE
   replace hW:=btr hW hE
   clear hold hE hO hK;replace hB7:=hbn;clear hbn
   refine Yo 7 rfl (fun _=>X1m rfl) ?_
   refine Y1 8 ?_
   refine Yh rfl trivial rfl (Vw [vi p0z20.k,vi p0z20.a,vi p0z20.b] X0o hB3) ?_;rintro _ w13 ⟨ho,hb⟩
   have hold:=hB3
   replace hB4:=hB4.only ho (by omega)
   replace hB7:=hB7.only ho (Blk.ne hB7 hold rfl)
   replace hB13:=hB13.only ho (by omega)
   replace hB15:=hB15.only ho (Blk.ne hB15 hold rfl)
   replace hW:=Below.only hW ho hlo3
   clear hold
   have hB3:=hb
   clear hb ho
   refine Y1 9 ?_
   refine Yh rfl trivial rfl (Vw [vi xz29.k,vi xz29.a,vi xz29.b] X0o hB4) ?_;rintro _ w14 ⟨ho,hb⟩
   have hold:=hB4
   replace hB3:=hB3.only ho (by omega)
   replace hB7:=hB7.only ho (Blk.ne hB7 hold rfl)
   replace hB13:=hB13.only ho (by omega)
   replace hB15:=hB15.only ho (Blk.ne hB15 hold rfl)
   replace hW:=Below.only hW ho hlo4
   clear hold
   have hB4:=hb
   clear hb ho
   refine Yd fun a hf=>?_
   refine hK14 _ _ ?_
   refine wp_ret ?_
   refine X7 ?_
   refine X2 hf (Xke hf rfl rfl (ResV.cellN (l:=[vi p0z20.k,vi p0z20.a,vi p0z20.b]) rfl Xo (hB3.at 0) rfl) (ResV.cellN (l:=[vi xz29.k,vi xz29.a,vi xz29.b]) rfl Xo (hB4.at 0) rfl)) ?_
   exact ⟨nz20,⟨p0z20.k,p0z20.a,p0z20.b⟩,⟨xz29.k,xz29.a,xz29.b⟩,rfl,hW⟩
  refine Yf rfl trivial (EfW.mono (Xd (k:=3) (vs:=[vi 1,vi 7,vi 9]) (zs:=[vi 1,vi 7,vi 9]) rfl X03 X18 rfl rfl) (fun _ _ h=>⟨fun _=>by obtain ⟨_,_,_,hE,_⟩:=h;exact Keep.of_below hE,h⟩)) ?_;rintro _ w15 ⟨b17,rfl,hl17,hE,hB17⟩
  have hlo17:=Nat.le_trans hW.size hl17
  have haw1_17:=(hr_code.below' hW).away hl17
  replace hB3:=hB3.below hE
  replace hB4:=hB4.below hE
  replace hB7:=hB7.below hE
  replace hB13:=hB13.below hE
  replace hW:=btr hW hE
  refine Y1 4 ?_
  refine Yf rfl trivial (EfW.mono (Vc (Xjo _ nz20) Xcu) (fun _ _ h=>⟨fun _=>by obtain ⟨rfl,hE⟩:=h;exact Keep.of_below hE,h⟩)) ?_;rintro _ w16 ⟨rfl,hE⟩
  replace hB3:=hB3.below hE
  replace hB4:=hB4.below hE
  replace hB7:=hB7.below hE
  replace hB13:=hB13.below hE
  replace hB17:=hB17.below hE
  replace hW:=btr hW hE
  refine Y1 6 ?_
  refine Yf rfl trivial (EfW.mono (Vc (X9t _ b7 Acd ccd code (hr_code.below' hW).top hcd haw1_7 tz17 sz17 hB7 (max 1 (min nz20 5)) (some ⟨b17,0,none⟩) 3 ([1,7,9]) (Rd.of_blk hB17 rfl _ hB17.lt) (by omega) (by simp) (by simp) (by omega)) X4u) (fun _ _ h=>⟨fun _=>by obtain ⟨xz29,tz29,sz29,rfl,hPz29,htz29,hK,hbn⟩:=h;exact hK.keep,h⟩)) ?_;rintro _ w17 ⟨xz29,tz29,sz29,rfl,hPz29,htz29,hK,hbn⟩
  obtain ⟨wm,hO,hm,hE⟩:=hK.mid;clear hm
  have hold:=hB7
  replace hB3:=hB3.only hO (Blk.ne hB3 hold rfl)
  replace hB4:=hB4.only hO (Blk.ne hB4 hold rfl)
  replace hB13:=hB13.only hO (Blk.ne hB13 hold rfl)
  replace hB17:=hB17.only hO (Blk.ne hB17 hold rfl)
  replace hW:=Below.only hW hO hlo7
  replace hB3:=hB3.below hE
  replace hB4:=hB4.below hE
  replace hB13:=hB13.below hE
  replace hB17:=hB17.below hE
  replace hW:=btr hW hE
  clear hold hE hO hK;replace hB7:=hbn;clear hbn
  refine Yo 7 rfl (fun _=>X1m rfl) ?_
  refine Y1 8 ?_
  refine Yh rfl trivial rfl (Vw [vi p0z20.k,vi p0z20.a,vi p0z20.b] X0o hB3) ?_;rintro _ w18 ⟨ho,hb⟩
  have hold:=hB3
  replace hB4:=hB4.only ho (by omega)
  replace hB7:=hB7.only ho (Blk.ne hB7 hold rfl)
  replace hB13:=hB13.only ho (by omega)
  replace hB17:=hB17.only ho (Blk.ne hB17 hold rfl)
  replace hW:=Below.only hW ho hlo3
  clear hold
  have hB3:=hb
  clear hb ho
  refine Y1 9 ?_
  refine Yh rfl trivial rfl (Vw [vi xz29.k,vi xz29.a,vi xz29.b] X0o hB4) ?_;rintro _ w19 ⟨ho,hb⟩
  have hold:=hB4
  replace hB3:=hB3.only ho (by omega)
  replace hB7:=hB7.only ho (Blk.ne hB7 hold rfl)
  replace hB13:=hB13.only ho (by omega)
  replace hB17:=hB17.only ho (Blk.ne hB17 hold rfl)
  replace hW:=Below.only hW ho hlo4
  clear hold
  have hB4:=hb
  clear hb ho
  refine Yd fun a hf=>?_
  refine hK14 _ _ ?_
  refine wp_ret ?_
  refine X7 ?_
  refine X2 hf (Xke hf rfl rfl (ResV.cellN (l:=[vi p0z20.k,vi p0z20.a,vi p0z20.b]) rfl Xo (hB3.at 0) rfl) (ResV.cellN (l:=[vi xz29.k,vi xz29.a,vi xz29.b]) rfl Xo (hB4.at 0) rfl)) ?_
  exact ⟨nz20,⟨p0z20.k,p0z20.a,p0z20.b⟩,⟨xz29.k,xz29.a,xz29.b⟩,rfl,hW⟩
 have hc11b:=hc11
 refine wp_skip ?_
 refine hK9 _ _ ?_
 refine Zs hf fun _ hK19=>?_
 refine Zf (Xd (k:=11) (vs:=[vi 1,vi 2,vi 3,vi 4,vi 5,vi 7,vi 9,vi 9,vi 10,vi 11,vi 12]) (zs:=[vi 1,vi 2,vi 3,vi 4,vi 5,vi 7,vi 9,vi 9,vi 10,vi 11,vi 12]) rfl X03 X18 rfl rfl) ?_;rintro _ w20 ⟨b20,rfl,hl20,hE,hB20⟩
 have hlo20:=Nat.le_trans hW.size hl20
 have haw1_20:=(hr_code.below' hW).away hl20
 replace hB3:=hB3.below hE
 replace hB4:=hB4.below hE
 replace hB7:=hB7.below hE
 replace hW:=btr hW hE
 refine Za rfl ?_
 refine Zt hK19 fun a hf=>?_
 refine Zs hf fun _ hK22=>?_
 refine Zm rfl<|Zm rfl<|Zm rfl<|Zm rfl ?_
 refine Zf (Vc (X9t _ b7 Acd ccd code (hr_code.below' hW).top hcd haw1_7 tz17 sz17 hB7 (1+xz14) (some ⟨b20,0,none⟩) 11 ([1,2,3,4,5,7,9,9,10,11,12]) (Rd.of_blk hB20 rfl _ hB20.lt) (by omega) (by simp) (by simp) (by omega)) X4u) ?_;rintro _ w21 ⟨xz35,tz35,sz35,rfl,hPz35,htz35,hK,hbn⟩
 obtain ⟨wm,hO,hm,hE⟩:=hK.mid;clear hm
 have hold:=hB7
 replace hB3:=hB3.only hO (Blk.ne hB3 hold rfl)
 replace hB4:=hB4.only hO (Blk.ne hB4 hold rfl)
 replace hB20:=hB20.only hO (Blk.ne hB20 hold rfl)
 replace hW:=Below.only hW hO hlo7
 replace hB3:=hB3.below hE
 replace hB4:=hB4.below hE
 replace hB20:=hB20.below hE
 replace hW:=btr hW hE
 clear hold hE hO hK;replace hB7:=hbn;clear hbn
 refine Zm rfl<|Zm rfl<|Zm rfl ?_
 refine Zf (Vc (X9t _ b7 Acd ccd code (hr_code.below' hW).top hcd haw1_7 tz35 sz35 hB7 (1+xz14) (some ⟨b20,0,none⟩) 11 ([1,2,3,4,5,7,9,9,10,11,12]) (Rd.of_blk hB20 rfl _ hB20.lt) (by omega) (by simp) (by simp) (by omega)) X4u) ?_;rintro _ w22 ⟨xz39,tz39,sz39,rfl,hPz39,htz39,hK,hbn⟩
 obtain ⟨wm,hO,hm,hE⟩:=hK.mid;clear hm
 have hold:=hB7
 replace hB3:=hB3.only hO (Blk.ne hB3 hold rfl)
 replace hB4:=hB4.only hO (Blk.ne hB4 hold rfl)
 replace hB20:=hB20.only hO (Blk.ne hB20 hold rfl)
 replace hW:=Below.only hW hO hlo7
 replace hB3:=hB3.below hE
 replace hB4:=hB4.below hE
 replace hB20:=hB20.below hE
 replace hW:=btr hW hE
 clear hold hE hO hK;replace hB7:=hbn;clear hbn
 refine Za rfl ?_
 refine Zo (Vw [vi xz35.k,vi xz35.a,vi xz35.b] X0o hB3) ?_;rintro _ w23 ⟨ho,hb⟩
 have hold:=hB3
 replace hB4:=hB4.only ho (by omega)
 replace hB7:=hB7.only ho (Blk.ne hB7 hold rfl)
 replace hB20:=hB20.only ho (Blk.ne hB20 hold rfl)
 replace hW:=Below.only hW ho hlo3
 clear hold
 have hB3:=hb
 clear hb ho
 refine Zo (Vw [vi xz39.k,vi xz39.a,vi xz39.b] X0o hB4) ?_;rintro _ w24 ⟨ho,hb⟩
 have hold:=hB4
 replace hB3:=hB3.only ho (by omega)
 replace hB7:=hB7.only ho (Blk.ne hB7 hold rfl)
 replace hB20:=hB20.only ho (Blk.ne hB20 hold rfl)
 replace hW:=Below.only hW ho hlo4
 clear hold
 have hB4:=hb
 clear hb ho
 refine Zt hK22 fun a hf=>?_
 refine wp_ret (X2 hf (Xke hf rfl rfl (ResV.cellN (l:=[vi xz35.k,vi xz35.a,vi xz35.b]) rfl Xo (hB3.at 0) rfl) (ResV.cellN (l:=[vi xz39.k,vi xz39.a,vi xz39.b]) rfl Xo (hB4.at 0) rfl)) ?_)
 exact ⟨1+xz14,⟨xz35.k,xz35.a,xz35.b⟩,⟨xz39.k,xz39.a,xz39.b⟩,rfl,hW⟩
theorem Xnm(w0:World)(n:Int)(g:Gt)(h:Gt) : Ret Tryz.prog 8 [vi n,.agg #[vi g.k,vi g.a,vi g.b],.agg #[vi h.k,vi h.a,vi h.b]] w0 (fun v w=>v=.tuple #[.bool (gOk n g&&gOk n h&&commI g h),.bool (gOk n g&&gOk n h)]∧Below w0.heap.size w0 w):=by
 refine enter Tryz.func8 rfl 21 rfl rfl ?_
 intro a hf
 have hW:Below w0.heap.size w0 w0:=Below.refl _ _
 refine Zs hf fun _ hK1=>?_
 refine Zf (X0j (zs:=[vi g.k,vi g.a,vi g.b]) rfl rfl) ?_;rintro _ w1 ⟨b2,rfl,hl2,hE,hB2⟩
 have hlo2:=Nat.le_trans hW.size hl2
 replace hW:=btr hW hE
 refine Zf (X0j (zs:=[vi h.k,vi h.a,vi h.b]) rfl rfl) ?_;rintro _ w2 ⟨b3,rfl,hl3,hE,hB3⟩
 have hne2_3:b2≠b3:=by have:=hB2.lt;omega
 have hlo3:=Nat.le_trans hW.size hl3
 replace hB2:=hB2.below hE
 replace hW:=btr hW hE
 refine Za rfl<|Za rfl ?_
 refine Zt hK1 fun a hf=>?_
 refine wp_seq_k fun _ hK4=>?_
 refine wp_seq_k fun _ hK5=>?_
 refine X0g (fun a w=>Fr a 21 [(4,.pointer (some ⟨b2,0,none⟩)),(5,.pointer (some ⟨b3,0,none⟩)),(17,.bool ((!(gOk n g))||(!(gOk n h))))]∧Below w2.heap.size w2 w) ?_ ?_
 ·have hEc:Below w2.heap.size w2 w2:=Below.refl _ _
  refine Zr hf ?_
  refine Zm rfl<|Ze (Vn Xo hB2) ?_
  refine Zf (Vc (Xiy _ n g) X97) ?_;rintro _ w3 ⟨rfl,hE⟩
  replace hB2:=hB2.below hE
  replace hB3:=hB3.below hE
  replace hW:=btr hW hE
  replace hEc:=btr hEc hE
  refine Ze (X15 rfl)<|Zm rfl ?_
  refine Zg 12 rfl (fun hg6=>?_) (fun hg6=>?_)
  ·refine Zp ⟨_,_,rfl,rfl,hg6⟩ ?_
   refine Zp ⟨_,_,rfl,rfl,hg6⟩ ?_
   refine Zp ⟨_,_,rfl,rfl,hg6⟩ ?_
   refine Zp ⟨_,_,rfl,rfl,hg6⟩ ?_
   refine Ze (Xg rfl hg6 rfl) ?_
   refine Zn fun a hf=>?_
   have hEE:Below w2.heap.size w2 w3:=hEc
   exact ⟨hf.sub ⟨rfl,rfl,X1 rfl (by first|rfl|(simp only [hg6,bs];done)|simp [hg6]),trivial⟩,hEE⟩
  refine Zv ⟨_,_,rfl,rfl,hg6⟩ (X8 rfl) ?_
  refine Zv ⟨_,_,rfl,rfl,hg6⟩ (Vn Xo hB3) ?_
  refine Zk ⟨_,_,rfl,rfl,hg6⟩ (Vc (Xiy _ n h) X97) ?_;rintro _ w4 ⟨rfl,hE⟩
  replace hB2:=hB2.below hE
  replace hB3:=hB3.below hE
  replace hW:=btr hW hE
  replace hEc:=btr hEc hE
  refine Zv ⟨_,_,rfl,rfl,hg6⟩ (X15 rfl) ?_
  refine Ze (Xf rfl hg6 rfl) ?_
  refine Zn fun a hf=>?_
  have hEE:Below w2.heap.size w2 w4:=hEc
  exact ⟨hf.sub ⟨rfl,rfl,X1 rfl (by first|rfl|(simp only [hg6,bs];done)|simp [hg6]),trivial⟩,hEE⟩
 rintro a w5 ⟨hf,hE⟩
 replace hB2:=hB2.below hE
 replace hB3:=hB3.below hE
 replace hW:=btr hW hE
 refine hK5 _ _ ?_
 refine Xm hf rfl (fun hc7=>?_) (fun hc7=>?_)
 ·have hc7b:=hc7
  have hfl:(gOk n g&&gOk n h)=false:=by revert hc7;cases gOk n g<;>cases gOk n h<;>simp
  refine Zs hf fun _ hK8=>?_
  refine Za rfl<|Za rfl ?_
  refine Zt hK8 fun a hf=>?_
  refine wp_ret ?_
  refine X7 ?_
  refine X2 hf (X12 hf rfl rfl rfl) ?_
  exact ⟨by rw [hfl];rfl,hW⟩
 have hc7b:=hc7
 obtain ⟨hg1,hh1⟩ : gOk n g=true∧gOk n h=true:=by revert hc7;cases gOk n g<;>cases gOk n h<;>simp
 refine wp_skip ?_
 refine hK4 _ _ ?_
 refine Zs hf fun _ hK9=>?_
 refine Ze (Vn Xo hB2)<|Ze (Vn Xo hB3) ?_
 refine Zf (Vc (Xpd _ g h n hg1 hh1) Xn1) ?_;rintro _ w6 ⟨rfl,hE⟩
 replace hB2:=hB2.below hE
 replace hB3:=hB3.below hE
 replace hW:=btr hW hE
 refine Za rfl<|Za rfl ?_
 refine Zt hK9 fun a hf=>?_
 refine wp_ret (X2 hf (X12 hf rfl rfl rfl) ?_)
 exact ⟨by rw [hg1,hh1];rfl,hW⟩
theorem Xo7(w0:World)(n:Int)(g:Gt)(h:Gt) : Ret Tryz.prog 9 [vi n,.agg #[vi g.k,vi g.a,vi g.b],.agg #[vi h.k,vi h.a,vi h.b]] w0 (fun v w=>v=.tuple #[.bool (gOk n g&&gOk n h&&commS g h),.bool (gOk n g&&gOk n h)]∧Below w0.heap.size w0 w):=by
 refine enter Tryz.func9 rfl 26 rfl rfl ?_
 intro a hf
 have hW:Below w0.heap.size w0 w0:=Below.refl _ _
 refine Zs hf fun _ hK1=>?_
 refine Zf (X0j (zs:=[vi g.k,vi g.a,vi g.b]) rfl rfl) ?_;rintro _ w1 ⟨b2,rfl,hl2,hE,hB2⟩
 have hlo2:=Nat.le_trans hW.size hl2
 replace hW:=btr hW hE
 refine Zf (X0j (zs:=[vi h.k,vi h.a,vi h.b]) rfl rfl) ?_;rintro _ w2 ⟨b3,rfl,hl3,hE,hB3⟩
 have hne2_3:b2≠b3:=by have:=hB2.lt;omega
 have hlo3:=Nat.le_trans hW.size hl3
 replace hB2:=hB2.below hE
 replace hW:=btr hW hE
 refine Za rfl<|Za rfl ?_
 refine Zt hK1 fun a hf=>?_
 refine wp_seq_k fun _ hK4=>?_
 refine wp_seq_k fun _ hK5=>?_
 refine X0g (fun a w=>Fr a 26 [(4,.pointer (some ⟨b2,0,none⟩)),(5,.pointer (some ⟨b3,0,none⟩)),(22,.bool (((!(inR n 1 5))||(!(gOk n g)))||(!(gOk n h))))]∧Below w2.heap.size w2 w) ?_ ?_
 ·have hEc:Below w2.heap.size w2 w2:=Below.refl _ _
  refine Zr hf ?_
  refine Zm rfl ?_
  refine Zf (Vc (F85 _ n 1 5) X4z) ?_;rintro _ _ ⟨rfl,rfl⟩
  refine Ze (X15 rfl)<|Zm rfl ?_
  refine Zg 11 rfl (fun hg6=>?_) (fun hg6=>?_)
  ·refine Zp ⟨_,_,rfl,rfl,hg6⟩ ?_
   refine Zp ⟨_,_,rfl,rfl,hg6⟩ ?_
   refine Zp ⟨_,_,rfl,rfl,hg6⟩ ?_
   refine Zp ⟨_,_,rfl,rfl,hg6⟩ ?_
   refine Ze (Xg rfl hg6 rfl)<|Zm rfl<|Zp ⟨_,_,rfl,rfl,rfl⟩ ?_
   refine Zp ⟨_,_,rfl,rfl,rfl⟩ ?_
   refine Zp ⟨_,_,rfl,rfl,rfl⟩ ?_
   refine Zp ⟨_,_,rfl,rfl,rfl⟩ ?_
   refine Ze (Xg rfl rfl rfl) ?_
   refine Zn fun a hf=>?_
   have hEE:Below w2.heap.size w2 w2:=hEc
   exact ⟨hf.sub ⟨rfl,rfl,X1 rfl (by first|rfl|(simp only [hg6,bs];done)|simp [hg6]),trivial⟩,hEE⟩
  have hn5:=Xh.1 (show inR n 1 5=true by simpa using hg6)
  refine Zv ⟨_,_,rfl,rfl,hg6⟩ (X8 rfl) ?_
  refine Zv ⟨_,_,rfl,rfl,hg6⟩ (Vn Xo hB2) ?_
  refine Zk ⟨_,_,rfl,rfl,hg6⟩ (Vc (Xmp _ n g hn5) Xb7) ?_;rintro _ w3 ⟨rfl,hE⟩
  replace hB2:=hB2.below hE
  replace hB3:=hB3.below hE
  replace hW:=btr hW hE
  replace hEc:=btr hEc hE
  refine Zv ⟨_,_,rfl,rfl,hg6⟩ (X15 rfl) ?_
  refine Ze (Xf rfl hg6 rfl)<|Zm rfl ?_
  refine Zg 17 rfl (fun hg7=>?_) (fun hg7=>?_)
  ·refine Zp ⟨_,_,rfl,rfl,hg7⟩ ?_
   refine Zp ⟨_,_,rfl,rfl,hg7⟩ ?_
   refine Zp ⟨_,_,rfl,rfl,hg7⟩ ?_
   refine Zp ⟨_,_,rfl,rfl,hg7⟩ ?_
   refine Ze (Xg rfl hg7 rfl) ?_
   refine Zn fun a hf=>?_
   have hEE:Below w2.heap.size w2 w3:=hEc
   exact ⟨hf.sub ⟨rfl,rfl,X1 rfl (by first|rfl|(simp only [hg6,hg7,bs];done)|simp [hg6,hg7]),trivial⟩,hEE⟩
  refine Zv ⟨_,_,rfl,rfl,hg7⟩ (X8 rfl) ?_
  refine Zv ⟨_,_,rfl,rfl,hg7⟩ (Vn Xo hB3) ?_
  refine Zk ⟨_,_,rfl,rfl,hg7⟩ (Vc (Xmp _ n h hn5) Xb7) ?_;rintro _ w4 ⟨rfl,hE⟩
  replace hB2:=hB2.below hE
  replace hB3:=hB3.below hE
  replace hW:=btr hW hE
  replace hEc:=btr hEc hE
  refine Zv ⟨_,_,rfl,rfl,hg7⟩ (X15 rfl) ?_
  refine Ze (Xf rfl hg7 rfl) ?_
  refine Zn fun a hf=>?_
  have hEE:Below w2.heap.size w2 w4:=hEc
  exact ⟨hf.sub ⟨rfl,rfl,X1 rfl (by first|rfl|(simp only [hg6,hg7,bs];done)|simp [hg6,hg7]),trivial⟩,hEE⟩
 rintro a w5 ⟨hf,hE⟩
 replace hB2:=hB2.below hE
 replace hB3:=hB3.below hE
 replace hW:=btr hW hE
 refine hK5 _ _ ?_
 refine Xm hf rfl (fun hc8=>?_) (fun hc8=>?_)
 ·have hc8b:=hc8
  have hfl:(gOk n g&&gOk n h)=false:=by
   cases h1:gOk n g
   ·rfl
   ·cases h2:gOk n h
    ·rfl
    ·rw [h1,h2,Xh.2 (X0m h1).1] at hc8;simp at hc8
  refine Zs hf fun _ hK9=>?_
  refine Za rfl<|Za rfl ?_
  refine Zt hK9 fun a hf=>?_
  refine wp_ret ?_
  refine X7 ?_
  refine X2 hf (X12 hf rfl rfl rfl) ?_
  exact ⟨by rw [hfl];rfl,hW⟩
 have hc8b:=hc8
 obtain ⟨hg1,hh1⟩ : gOk n g=true∧gOk n h=true:=by revert hc8;cases gOk n g<;>cases gOk n h<;>simp
 refine wp_skip ?_
 refine hK4 _ _ ?_
 refine Zs hf fun _ hK10=>?_
 refine Ze (Vn Xo hB2)<|Ze (Vn Xo hB3) ?_
 refine Zf (Vc (Xq0 _ g h n hg1 hh1) Xmf) ?_;rintro _ w6 ⟨rfl,hE⟩
 replace hB2:=hB2.below hE
 replace hB3:=hB3.below hE
 replace hW:=btr hW hE
 refine Za rfl<|Za rfl ?_
 refine Zt hK10 fun a hf=>?_
 refine wp_ret (X2 hf (X12 hf rfl rfl rfl) ?_)
 exact ⟨by rw [hg1,hh1];rfl,hW⟩
end Go.Proofs.YtlfjcmldfbfdbaaGreat
