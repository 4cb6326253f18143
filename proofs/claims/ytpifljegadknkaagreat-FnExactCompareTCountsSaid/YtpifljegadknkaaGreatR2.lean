/-
  For every circuit, the program's CompareTCounts returns what the reference's returns and leaves its argument as it was.
-/
import Derived.Test.YtpifljegadknkaaGreatR1
import Derived.WideKeyRuns
import Derived.Deep.Strs
import Derived.WalkKit
import Derived.ProofKit
import Derived.OpenShut
import Derived.Deep.Slices
import Derived.Deep.Fields
import Derived.ChangeSame
import Derived.Lib.SmallJoins
import Derived.WalkSpells
import Derived.Maps.RangeRun
import Derived.Laws.Strings2
import Derived.Laws.IdiomStrings
import Derived.Shelf.SlSortCmp.WholeK
import Derived.Shelf.SlSortCmp.NoneTotal
import Derived.Shelf.SlGeneric
import Derived.Lib.ItoaNum
import Derived.Lib.Join
set_option linter.unusedVariables false
set_option linter.unusedSimpArgs false
set_option maxHeartbeats 1000000
set_option maxRecDepth 20000
set_option linter.unusedSectionVars false
namespace Go.Proofs.YtpifljegadknkaaGreat
open Go.RowKit
def kV(x y:Gt) : Value:=.agg #[.int .i64 x.k,.int .i64 x.a,.int .i64 x.b,.int .i64 y.k,.int .i64 y.a,.int .i64 y.b]
structure Me where (x y:Gt) (v:Bool) (born:Nat)
def entM(m:Me) : MapEntry:={ key:=kV m.x m.y,val:=.bool m.v,born:=m.born }
def findM(l:List Me)(x y:Gt) : Option Bool:=(l.find? fun m=>decide (x=m.x)&&decide (y=m.y)).map Me.v
def GoodM(l:List Me) : Prop:=∀ m ∈ l,m.v = !commI m.x m.y
def MemoL(w:World)(b:Nat)(l:List Me)(clock:Nat) : Prop:=w.heap[b]? = some (.map (l.map entM).toArray clock)
def MemoG(w:World)(b:Nat) : Prop:=∃ l clock,MemoL w b l clock∧GoodM l
def MemoN(x y:Gt)(w:World)(b:Nat) : Prop:=∃ l clock,MemoL w b l clock∧GoodM l∧findM l x y=none
theorem MemoL.lt{w:World}{b clock:Nat}{l:List Me}(h:MemoL w b l clock) : b<w.heap.size:=by
 rcases W4 b w.heap.size with h'|h'
 ·exact h'
 ·simp [MemoL,We h'] at h
theorem MemoL.below{w w':World}{b clock:Nat}{l:List Me}(h:MemoL w b l clock)(hb:Below w.heap.size w w') : MemoL w' b l clock:=(hb.block b h.lt).trans h
theorem MemoL.only{w w':World}{b b' clock:Nat}{l:List Me}(h:MemoL w b l clock)(ho:Only b' w w')(hne:b≠b') : MemoL w' b l clock:=(ho.block b hne).trans h
theorem MemoL.ne{w:World}{b b' clock:Nat}{l:List Me}{T:TypeId}{cs:List Value}(h:MemoL w b l clock)(hb:Blk w b' T cs) : b≠b':=by
 rintro rfl
 unfold MemoL at h
 unfold Blk at hb
 rw [h] at hb
 cases hb
section
variable {w w' : World} {b b' : Nat} {x y : Gt}
theorem MemoG.lt(h:MemoG w b) : b<w.heap.size:=let ⟨_,_,h,_⟩:=h;h.lt
theorem MemoG.below(h:MemoG w b)(hb:Below w.heap.size w w') : MemoG w' b:=let ⟨l,c,h,g⟩:=h;⟨l,c,h.below hb,g⟩
theorem MemoG.only(h:MemoG w b)(ho:Only b' w w')(hne:b≠b') : MemoG w' b:=let ⟨l,c,h,g⟩:=h;⟨l,c,h.only ho hne,g⟩
theorem MemoG.ne{T:TypeId}{cs:List Value}(h:MemoG w b)(hb:Blk w b' T cs) : b≠b':=let ⟨_,_,h,_⟩:=h;h.ne hb
theorem MemoG.good(h:MemoG w b) : MemoG w b:=h
theorem MemoN.good(h:MemoN x y w b) : MemoG w b:=let ⟨l,c,h,g,_⟩:=h;⟨l,c,h,g⟩
theorem MemoN.lt(h:MemoN x y w b) : b<w.heap.size:=let ⟨_,_,h,_⟩:=h;h.lt
theorem MemoN.below(h:MemoN x y w b)(hb:Below w.heap.size w w') : MemoN x y w' b:=let ⟨l,c,h,g⟩:=h;⟨l,c,h.below hb,g⟩
theorem MemoN.only(h:MemoN x y w b)(ho:Only b' w w')(hne:b≠b') : MemoN x y w' b:=let ⟨l,c,h,g⟩:=h;⟨l,c,h.only ho hne,g⟩
theorem MemoN.ne{T:TypeId}{cs:List Value}(h:MemoN x y w b)(hb:Blk w b' T cs) : b≠b':=let ⟨_,_,h,_⟩:=h;h.ne hb
theorem Blk.onlyM{T:TypeId}{cs:List Value}(h:Blk w b' T cs)(ho:Only b w w')(hm:MemoG w b) : Blk w' b' T cs:=h.only ho (Ne.symm (hm.ne h))
theorem Rd.onlyM{α:Type}{B:Nat}{E:TypeId}{enc:α→List Value}{A:Option Addr}{l:List α}(h:Rd w B E enc A l)(ho:Only b w w')(hm:MemoG w b) : Rd w' B E enc A l:=h.chg fun k cs fz _ hk=>ho.block k fun e=>by
 obtain ⟨_,_,hL,_⟩:=hm
 unfold MemoL at hL
 rw [e,hL] at hk
 cases hk
end
theorem Xfh{l:List Me}{x y:Gt}{v:Bool}(h:GoodM l)(hf:findM l x y=some v) : v = !commI x y:=by
 unfold findM at hf
 rw [Option.map_eq_some_iff] at hf
 obtain ⟨m,h1,h2⟩:=hf;have h3:=List.find?_some h1
 simp only [Qd,Qr] at h3
 rw [← h2,h m (List.mem_of_find?_eq_some h1),h3.1,h3.2]
def LookM(w:World)(b:Nat)(x y:Gt)(v k:Bool) : Prop:=∃ l clock,MemoL w b l clock∧((k=true∧findM l x y=some v)∨(k=false∧v=false∧findM l x y=none))
theorem MemoG.look{w:World}{b:Nat}(h:MemoG w b)(x y:Gt) : ∃ v k,LookM w b x y v k∧(k=true→v = !commI x y)∧(k=false→MemoN x y w b):=by
 obtain ⟨l,clock,hL,hg⟩:=h
 cases hf:findM l x y with
 | none=>exact ⟨false,false,⟨l,clock,hL,.inr ⟨rfl,rfl,hf⟩⟩,(fun h=>by cases h),fun _=>⟨l,clock,hL,hg,hf⟩⟩
 | some v=>exact ⟨v,true,⟨l,clock,hL,.inl ⟨rfl,hf⟩⟩,fun _=>Xfh hg hf,(fun h=>by cases h)⟩
section
variable {a : Act} {w : World} {n : Nat} {e : Env} {ty : TypeId} {pos : String} {af : Array Edge} {g : Option (Nat × Bool)} {d : Option Tmp} {x y : Gt} {b : Nat}
end
section
variable {P : Program} {a : Act} {w : World} {n : Nat} {e : Env} {ty : TypeId} {pos : String} {af : Array Edge} {g : Option (Nat × Bool)} {d : Option Tmp}
end
section
variable {P : Program} {a : Act} {w : World} {n : Nat} {e : Env} {α : Type} {ops : Array Oper} {ty : TypeId} {pos : String} {af : Array Edge} {g : Option (Nat × Bool)} {d : Nat}
end
section
variable {gs : List Gt} {s : List Int} {i : Nat} {g : Gt}
end
def RB(k:Int)(x:Rg) : Prop:=(-k≤x.a∧x.a≤k)∧(-k≤x.b∧x.b≤k)∧(-k≤x.c∧x.c≤k)∧(-k≤x.d∧x.d≤k)
def SM(e:Int)(k:Int)(x:Dy) : Prop:=dOk x=true∧RB k x.num∧x.exp≤e
theorem RB.ok{k:Int}{x:Rg}(h:RB k x)(hk:k≤1000000000) : rOk x=true:=by
 unfold RB at h
 exact Xl2.2 (by omega)
theorem RB.root{k:Int}{x:Rg}(h:RB k x)(hk:k≤1000000000) : RB (2*k) (rRoot x):=by
 unfold RB at *
 simp only [rRoot]
 rw [X2n (by omega) (by omega),X2n (by omega) (by omega),X2n (by omega) (by omega),X2n (by omega) (by omega)]
 omega
theorem RB.half{k:Int}{x:Rg}(h:RB k x)(h0:0≤k)(hk:k≤1000000000) : RB k (rHalf x):=by
 have h1:=h.root hk
 unfold RB at *
 simp only [rHalf]
 have hd:∀ i:Int,-(2*k)≤i→i≤2*k→-k≤wr (i.tdiv 2)∧wr (i.tdiv 2)≤k:=fun i a b=>by
  have:-k≤i.tdiv 2∧i.tdiv 2≤k:=by
   rcases Int.le_total 0 i with h|h
   ·rw [Int.tdiv_eq_ediv_of_nonneg h];omega
   ·have e:i.tdiv 2 = -((-i).tdiv 2):=by rw [Int.neg_tdiv,Int.neg_neg]
    rw [e,Int.tdiv_eq_ediv_of_nonneg (by omega)];omega
  rw [X2n (by omega) (by omega)]
  exact this
 exact ⟨hd _ h1.1.1 h1.1.2,hd _ h1.2.1.1 h1.2.1.2,hd _ h1.2.2.1.1 h1.2.2.1.2,hd _ h1.2.2.2.1 h1.2.2.2.2⟩
theorem RB.low{k:Int}(h0:0≤k)(hk:k≤1000000000) : ∀ (n:Nat) {x:Rg},RB k x→RB k (lowN n x).1
 | 0,_,h=>h
 | n+1,x,h=>by
  rw [lowN]
  split
  ·exact RB.low h0 hk n (h.half h0 hk)
  ·exact h
theorem one_mul{a b:Int}(ha:-1≤a∧a≤1)(hb:-1≤b∧b≤1) : -1≤a*b∧a*b≤1:=by
 have:a = -1∨a=0∨a=1:=by omega
 rcases this with rfl|rfl|rfl<;>omega
theorem w4:∀ p q r s:Int,(-1≤p∧p≤1)→(-1≤q∧q≤1)→(-1≤r∧r≤1)→(-1≤s∧s≤1)→(-4≤wr (wr (wr (wr p-wr q)-wr r)-wr s)∧wr (wr (wr (wr p-wr q)-wr r)-wr s)≤4)∧(-4≤wr (wr (wr (wr p+wr q)-wr r)-wr s)∧wr (wr (wr (wr p+wr q)-wr r)-wr s)≤4)∧(-4≤wr (wr (wr (wr p+wr q)+wr r)-wr s)∧wr (wr (wr (wr p+wr q)+wr r)-wr s)≤4)∧(-4≤wr (wr (wr (wr p+wr q)+wr r)+wr s)∧wr (wr (wr (wr p+wr q)+wr r)+wr s)≤4):=fun p q r s hp hq hr hs=>by
 have a1:wr p=p:=X2n (by omega) (by omega)
 have a2:wr q=q:=X2n (by omega) (by omega)
 have a3:wr r=r:=X2n (by omega) (by omega)
 have a4:wr s=s:=X2n (by omega) (by omega)
 have b1:wr (p-q)=p-q:=X2n (by omega) (by omega)
 have b2:wr (p+q)=p+q:=X2n (by omega) (by omega)
 have c1:wr (p-q-r)=p-q-r:=X2n (by omega) (by omega)
 have c2:wr (p+q-r)=p+q-r:=X2n (by omega) (by omega)
 have c3:wr (p+q+r)=p+q+r:=X2n (by omega) (by omega)
 have d1:wr (p-q-r-s)=p-q-r-s:=X2n (by omega) (by omega)
 have d2:wr (p+q-r-s)=p+q-r-s:=X2n (by omega) (by omega)
 have d3:wr (p+q+r-s)=p+q+r-s:=X2n (by omega) (by omega)
 have d4:wr (p+q+r+s)=p+q+r+s:=X2n (by omega) (by omega)
 rw [a1,a2,a3,a4,b1,b2,c1,c2,c3,d1,d2,d3,d4]
 refine ⟨⟨?_,?_⟩,⟨?_,?_⟩,⟨?_,?_⟩,?_,?_⟩<;>omega
def dotK:Nat→Int
 | 0=>0
 | n+1=>4*dotK n+16
def smB(z:Dy) : Bool:=dOk z&&inR z.num.a (-1) 1&&inR z.num.b (-1) 1&&inR z.num.c (-1) 1&&inR z.num.d (-1) 1&&decide (z.exp≤1)
def fitA(gs:List Gt)(i:Nat)(k:Int)(out:List Int)(j:Nat) : Bool:=decide (j<i)&&!commI (gs.getD j gZ) (gs.getD i gZ)&&(out.getD j 0==0||decide (k≤out.getD j 0))
def fitB(gs:List Gt)(i:Nat)(k:Int)(out:List Int)(j:Nat) : Bool:=decide (j≠i)&&out.getD j 0==k&&comI (gs.getD j gZ) (gs.getD i gZ)
def fitC(gs:List Gt)(i:Nat)(k:Int)(out:List Int)(j:Nat) : Bool:=fitA gs i k out j||fitB gs i k out j
def fitsI(gs:List Gt)(i:Nat)(k:Int)(out:List Int) : Bool:=!(List.range gs.length).any (fitC gs i k out)
def mayI(gs:List Gt)(k:Int)(out:List Int)(i:Nat) : Bool:=(gs.getD i gZ).k != 12&&out.getD i 0==0&&fitsI gs i k out
def stepI(gs:List Gt)(k:Int)(out:List Int)(i:Nat) : List Int:=if mayI gs k out i=true then out.set i k else out
def sweepN(gs:List Gt)(k:Int)(out:List Int)(i:Nat) : List Int:=(List.range i).foldl (stepI gs k) out
def cntZ:List Gt→List Int→Nat
 | g::gs,x::xs=>(if g.k≠12∧x=0 then 1 else 0)+cntZ gs xs
 | _,_=>0
def runI(gs:List Gt) : Nat→Int→List Int→List Int
 | 0,_,out=>out
 | f+1,k,out=>if cntZ gs out=0 then out else runI gs f (k+1) (sweepN gs k out gs.length)
def schedOf(c:Cx) : List Int:=if cOk c=true then runI c.gs c.gs.length 1 (List.replicate c.gs.length 0) else []
theorem getD_some{α:Type}{l:List α}{i:Nat}{d x:α}(h:l[i]? = some x) : l.getD i d=x:=by rw [Qa,h];rfl
theorem Xfa{α:Type}{l:List α}{i:Nat}(d:α)(h:i<l.length) : l[i]? = some (l.getD i d):=by
 rw [Qa,Qc h];rfl
structure Sch (gs:List Gt) (k:Int) (out:List Int) : Prop where
 len:out.length=gs.length
 low:∀ j,j<gs.length→0≤out.getD j 0∧out.getD j 0<k
 w:∀ j,j<gs.length→(gs.getD j gZ).k=12→out.getD j 0=0
theorem Xc6{out:List Int}{i j:Nat}{k:Int}(hi:i<out.length) : (out.set i k).getD j 0=if j=i then k else out.getD j 0:=by
 rw [Qa,Qa,List.getElem?_set]
 by_cases h:i=j
 ·subst h;rw [Q4 rfl,Q4 hi,Q4 rfl];rfl
 ·rw [Q3 h,Q3 (Ne.symm h)]
structure SchM (gs:List Gt) (k:Int) (out:List Int) : Prop where
 len:out.length=gs.length
 low:∀ j,j<gs.length→0≤out.getD j 0∧out.getD j 0≤k
 w:∀ j,j<gs.length→(gs.getD j gZ).k=12→out.getD j 0=0
theorem Sch.mid{gs:List Gt}{k:Int}{out:List Int}(h:Sch gs k out) : SchM gs k out:=⟨h.len,fun j hj=>⟨(h.low j hj).1,by have:=(h.low j hj).2;omega⟩,h.w⟩
theorem SchM.step{gs:List Gt}{k:Int}{out:List Int}{i:Nat}(h:SchM gs k out)(hk:1≤k)(hi:i<gs.length) : SchM gs k (stepI gs k out i):=by
 unfold stepI
 split
 ·rename_i hm
  have hio:i<out.length:=by rw [h.len];exact hi
  unfold mayI at hm
  simp only [Qd] at hm
  refine ⟨by rw [List.length_set];exact h.len,fun j hj=>?_,fun j hj hw=>?_⟩
  ·rw [Xc6 hio];split
   ·omega
   ·exact h.low j hj
  ·rw [Xc6 hio];split
   ·rename_i e;subst e;rw [hw] at hm;simp at hm
   ·exact h.w j hj hw
 ·exact h
theorem SchM.next{gs:List Gt}{k:Int}{out:List Int}(h:SchM gs k out) : Sch gs (k+1) out:=⟨h.len,fun j hj=>⟨(h.low j hj).1,by have:=(h.low j hj).2;omega⟩,h.w⟩
def cvt(g:Gt)(x:Int) : Int:=if g.k=12 then 0 else if x=0 then -1 else x
def conv:List Gt→List Int→List Int
 | g::gs,x::xs=>cvt g x::conv gs xs
 | _,_=>[]
def folS(gs:List Gt)(i:Nat)(j:Nat) : List Int:=((List.range j).filter fun q=>!commS (gs.getD i gZ) (gs.getD q gZ)).map fun (q:Nat)=>(q:Int)
def followsS(gs:List Gt)(i:Nat) : List (List Int):=(List.range i).map fun q=>folS gs q q
def freeA(lay:List Int)(k:Int)(j:Int) : Bool:=decide (lay.getD j.toNat 0<0)||decide (k≤lay.getD j.toNat 0)
def freeB(gs:List Gt)(lay:List Int)(k:Int)(i j:Nat) : Bool:=decide (j≠i)&&lay.getD j 0==k&&comS (gs.getD i gZ) (gs.getD j gZ)
def freeS(gs:List Gt)(lay:List Int)(k:Int)(i:Nat)(fol:List Int) : Bool:=!fol.any (freeA lay k)&&!(List.range gs.length).any (freeB gs lay k i)
def sN:Sl:=⟨none,0,[]⟩
def ini(gs:List Gt) : List Int:=gs.map fun g=>if g.k=12 then 0 else -1
def cntW(gs:List Gt) : Nat:=(gs.filter fun g=>g.k != 12).length
structure Ed where (a b:Int) deriving DecidableEq
def encE(x:Ed) : List Value:=[.int .i64 x.a,.int .i64 x.b]
abbrev eV(x:Ed) : Value:=.agg #[.int .i64 x.a,.int .i64 x.b]
def encB(b:Bool) : List Value:=[.bool b]
theorem X0t:∀ x,(encB x).length=1:=fun _=>rfl
structure Gp where (n:Int) (es:List Ed)
structure Ro where (st:List Int) (steps:List Gt)
def eZ:Ed:=⟨0,0⟩
def ordE(es:List Ed)(i:Nat)(e:Ed) : Bool:=decide (0<i)&&(decide (e.a<(es.getD (i-1) eZ).a)||(es.getD (i-1) eZ).a==e.a&&decide (e.b≤(es.getD (i-1) eZ).b))
def badS(n:Int)(es:List Ed)(i:Nat) : Bool:=!inR (es.getD i eZ).a 0 (wr ((es.getD i eZ).b-1))||!inR (es.getD i eZ).b 0 (wr (n-1))||ordE es i (es.getD i eZ)
def badI(n:Int)(es:List Ed)(i:Nat) : Bool:=(decide ((es.getD i eZ).a<0)||decide ((es.getD i eZ).b≤(es.getD i eZ).a)||decide (n≤(es.getD i eZ).b))||ordE es i (es.getD i eZ)
def gpS(g:Gp) : Bool:=!(List.range g.es.length).any (badS g.n g.es)&&inR g.n 1 8
def gpI(g:Gp) : Bool:=inR g.n 1 8&&!(List.range g.es.length).any (badI g.n g.es)
def i64(x:Int) : Prop:=-9223372036854775808≤x∧x≤9223372036854775807
def edgS(g:Gp)(a b:Int) : Bool:=g.es.any fun e=>e.a==a&&e.b==b||e.a==b&&e.b==a
def edgI(g:Gp)(a b:Int) : Bool:=g.es.any fun e=>decide ((⟨min a b,max a b⟩ : Ed)=e)
def badP(n:Int)(p:List Int)(i:Nat) : Bool:=!inR (p.getD i 0) 0 (wr (n-1))||(p.take i).any fun y=>y==p.getD i 0
def badQ(n:Int)(p:List Int)(i:Nat) : Bool:=!inR (p.getD i 0) 0 (wr (n-1))||(p.take i).any fun y=>p.getD i 0==y
def plS(n m:Int)(p:List Int) : Bool:=!(List.range p.length).any (badP n p)&&(p.length:Int)==m
def plI(n m:Int)(p:List Int) : Bool:=!(List.range p.length).any (badQ n p)&&(p.length:Int)==m
def swapP(p:List Int)(a b:Int) : List Int:=p.map fun k=>if k=a then b else if k=b then a else k
theorem X6q(p:List Int)(a b:Int) : (swapP p a b).length=p.length:=by simp [swapP]
def redA(gs:List Gt)(done:List Bool)(k i:Nat) : Bool:=!done.getD i false&&comS (gs.getD i gZ) (gs.getD k gZ)
def redB(gs:List Gt)(done:List Bool)(k i:Nat) : Bool:=!done.getD i false&&comI (gs.getD i gZ) (gs.getD k gZ)
def redS(gs:List Gt)(done:List Bool)(k:Int) : Bool:=inR k 0 ((gs.length:Int)-1)&&!done.getD k.toNat false&&!(List.range k.toNat).any (redA gs done k.toNat)
def redI(gs:List Gt)(done:List Bool)(k:Int) : Bool:=inR k 0 ((gs.length:Int)-1)&&!done.getD k.toNat false&&!(List.range k.toNat).any (redB gs done k.toNat)
def nearS(g:Gp)(p:List Int)(x:Gt) : Bool:=!inR x.k 9 11||edgS g (p.getD x.a.toNat 0) (p.getD x.b.toNat 0)
def nearI(g:Gp)(p:List Int)(x:Gt) : Bool:=!inR x.k 9 11||edgI g (p.getD x.a.toNat 0) (p.getD x.b.toNat 0)
section
variable (E : Int → Int → Bool) (N : List Int → Gt → Bool) (R : List Bool → Int → Bool) (gs : List Gt)
def stp(s:Gt)(p:List Int)(d:List Bool) : Int×List Int×List Bool:=
 if s.k = -1 then (if E s.a s.b=true then (0,swapP p s.a s.b,d) else (2,p,d))
 else if (s.a != 0||s.b != 0||!R d s.k)=true then (3,p,d)
 else if N p (gs.getD s.k.toNat gZ)=true then (0,p,d.set s.k.toNat true) else (4,p,d)
def playL:Nat→List Gt→List Int→List Bool→Int×Int×List Int×List Bool
 | i,[],p,d=>if d.any (fun x=>!x)=true then (5,(i:Int),p,d) else (0,0,p,d)
 | i,s::l,p,d=>if (stp E N R gs s p d).1=0 then playL (i+1) l (stp E N R gs s p d).2.1 (stp E N R gs s p d).2.2 else ((stp E N R gs s p d).1,(i:Int),p,d)
def moved(s:Gt)(p:List Int) : Gt:=if s.k = -1 then ⟨11,s.a,s.b⟩ else mapG p (gs.getD s.k.toNat gZ)
def nextP(s:Gt)(p:List Int) : List Int:=if s.k = -1 then swapP p s.a s.b else p
def buildL:List Gt→List Int→List Gt
 | [],_=>[]
 | s::l,p=>moved gs s p::buildL l (nextP s p)
end
def stpS(g:Gp)(gs:List Gt):=stp (edgS g) (nearS g) (redS gs) gs
def stpI(g:Gp)(gs:List Gt):=stp (edgI g) (nearI g) (redI gs) gs
def playS(g:Gp)(gs:List Gt):=playL (edgS g) (nearS g) (redS gs) gs
def playI(g:Gp)(gs:List Gt):=playL (edgI g) (nearI g) (redI gs) gs
def runG(g:Gp)(c:Cx)(r:Ro) : Int×Int:=if plS g.n c.n r.st=true then ((playS g c.gs 0 r.steps r.st (List.replicate c.gs.length false)).1,(playS g c.gs 0 r.steps r.st (List.replicate c.gs.length false)).2.1) else (1,0)
def runR(g:Gp)(c:Cx)(r:Ro) : Int×Int:=if plI g.n c.n r.st=true then ((playI g c.gs 0 r.steps r.st (List.replicate c.gs.length false)).1,(playI g c.gs 0 r.steps r.st (List.replicate c.gs.length false)).2.1) else (1,0)
def fitsS(g:Gp)(c:Cx) : Bool:=gpS g&&cOk c&&decide (c.n≤g.n)
def fitsR(g:Gp)(c:Cx) : Bool:=gpI g&&cOk c&&decide (c.n≤g.n)
def chkRS(g:Gp)(c:Cx)(r:Ro) : Int×Int×Bool:=if fitsS g c=true then ((runG g c r).1,(runG g c r).2,true) else (0,0,false)
def chkRI(g:Gp)(c:Cx)(r:Ro) : Int×Int×Bool:=if fitsR g c=true then ((runR g c r).1,(runR g c r).2,true) else (0,0,false)
def rcS(g:Gp)(c:Cx)(r:Ro) : Option Cx:=if fitsS g c=true∧g.n≤5∧r.steps.length≤400 then (if (runG g c r).1=0 then some ⟨g.n,buildL c.gs r.steps r.st⟩ else none) else none
def rcI(g:Gp)(c:Cx)(r:Ro) : Option Cx:=if (chkRI g c r).2.2=true∧(chkRI g c r).1=0∧g.n≤5 then cIf ⟨g.n,buildL c.gs r.steps r.st⟩ else none
structure PlOk (n m:Int) (p:List Int) : Prop where
 len:(p.length:Int)=m
 low:∀ i,i<p.length→0≤p.getD i 0∧p.getD i 0<n
 ne:∀ i j,i<p.length→j<p.length→i≠j→p.getD i 0≠p.getD j 0
theorem X6w(p:List Int)(a b:Int)(i:Nat)(hi:i<p.length) : (swapP p a b).getD i 0=if p.getD i 0=a then b else if p.getD i 0=b then a else p.getD i 0:=by
 refine getD_some ?_
 unfold swapP
 rw [List.getElem?_map,Xfa 0 hi];rfl
theorem PlOk.swap{n m a b:Int}{p:List Int}(h:PlOk n m p)(ha:0≤a∧a<n)(hb:0≤b∧b<n)(hab:a≠b) : PlOk n m (swapP p a b):=by
 refine ⟨by rw [X6q];exact h.len,fun i hi=>?_,fun i j hi hj hne=>?_⟩
 ·rw [X6q] at hi
  rw [X6w p a b i hi]
  have:=h.low i hi
  split
  ·exact hb
  ·split
   ·exact ha
   ·exact this
 ·rw [X6q] at hi hj
  rw [X6w p a b i hi,X6w p a b j hj]
  have h1:=h.ne i j hi hj hne
  generalize p.getD i 0=x at *
  generalize p.getD j 0=y at *
  by_cases e1:x=a<;>by_cases e2:y=a<;>by_cases e3:x=b<;>by_cases e4:y=b<;>simp [e1,e2,e3,e4]<;>omega
theorem z_4:ZeroT Tryz.prog 4 (.bool false):=X2g (by kernel_rfl)
def szn(n:Nat)(t:Int) : Int:=if t-(n:Int)<0 then -1 else t-(n:Int)
def szO(r:Ro)(t:Int) : Int:=if szn r.st.length t<0 then -1 else szn r.steps.length (szn r.st.length t)
def szK(c:Cx)(l:List Sr)(d:Cx)(r:Ro)(o:Cx)(t:Int) : Int:=if szZ c l d t<0 then -1 else if szO r (szZ c l d t)<0 then -1 else szG o.gs (szO r (szZ c l d t))
def swf(a b k:Int) : Int:=if k=a then b else if k=b then a else k
def mixP(p:List Int)(a b:Int)(k:Nat) : List Int:=(p.take k).map (swf a b)++p.drop k
section
variable {P : Program} {a : Act} {w : World} {n : Nat} {e : Env} {ty : TypeId} {pos : String} {af : Array Edge} {g : Option (Nat × Bool)} {d : Option Tmp}
theorem Xpz{x y:Operand}{i j:Int}{ts:Array TypeId}(hf:Fr a n e)(hx:ev e x=some (.int .i64 i))(hy:ev e y=some (.int .i64 j)) : Ev P ⟨d,.call ⟨.builtin .min,#[x,y],ts⟩,ty,pos,af,g⟩ a w (.int .i64 (min i j)):=fun w' _=>by
 simp [execOp,resolve,invoke,builtin,Builtin.min_,Builtin.min2,hf.ev hx,hf.ev hy,Int.min_def]
 split<;>simp<;>omega
theorem Xjz{x y:Operand}{i j:Int}{ts:Array TypeId}(hx:ev e x=some (.int .i64 i))(hy:ev e y=some (.int .i64 j)) : EvW P ⟨d,.call ⟨.builtin .min,#[x,y],ts⟩,ty,pos,af,g⟩ n e w (.int .i64 (min i j)):=fun a hf=>Xpz hf hx hy
end
theorem Xw4(w0:World)(A:Option Addr)(c:Nat)(l:List Int)(hr:Rd w0 w0.heap.size 3 encI A l)(hln:l.length≤1000000000) :
  Ret Tryz.prog 229 [.slice A l.length c] w0 (fun v w=>∃ A' c',v=.slice A' l.length c'∧Own w w0.heap.size 3 1 encI A' c' l∧Below w0.heap.size w0 w):=by
 by_cases h0:l=[]
 ·subst h0
  cases A with
  | none=>
   refine Calls.mono (Tryz.slices_Clone_int_nil 0 c w0) fun e w ⟨e1,e2⟩=>⟨_,e1,none,0,rfl,?_⟩
   subst e2
   exact ⟨Own.nil _ _ _ _ _,Below.refl _ _⟩
  | some p=>
   refine Calls.mono (Tryz.slices_Clone_int_zero p c w0) fun e w ⟨v,e1,e2,e3,e4⟩=>⟨_,e1,?_⟩
   rcases e2.2 with ⟨h1,_⟩|⟨g,cap,cur,h1,h2⟩
   ·exact absurd h1 e3
   ·exact ⟨_,_,h1,by rw [h1] at e2;exact e2,e4⟩
 ·obtain ⟨b,off,cs,fz,h1,h2,h3,h4⟩:=hr h0
  subst h1
  refine Calls.mono (Tryz.slices_Clone_int b off l.length c l w0 (Qb _) (by omega) fun j hj=>?_) fun e w ⟨v,e1,e2,e3,e4⟩=>⟨_,e1,?_⟩
  ·have h5:=h4 j (.int .i64 (l.getD j 0)) (by rw [X5a,List.getElem?_map,Xfa 0 hj];rfl)
   simpa [World.cell?,h3] using h5
  ·rw [List.take_length,← X5a] at e2
   rcases e2.2 with ⟨h1,_⟩|⟨g,cap,cur,h1,h2⟩
   ·exact absurd h1 e3
   ·exact ⟨_,_,h1,by rw [h1] at e2;exact e2,e4⟩
end Go.Proofs.YtpifljegadknkaaGreat
namespace Go.Proofs.YtpifljegadknkaaGreat
def ltK(key:Int→Int)(i k:Int) : Prop:=key i<key k∨(key i=key k∧i<k)
theorem ltK.trans{key:Int→Int}{i j k:Int}(h:ltK key i j)(h2:ltK key j k) : ltK key i k:=by unfold ltK at *;omega
def Srt(key:Int→Int)(l:List Int) : Prop:=l.Pairwise (ltK key)
theorem Xeo{key:Int→Int}{l1 l2:List Int} : Srt key (l1++l2)↔Srt key l1∧Srt key l2∧∀ x ∈ l1,∀ y ∈ l2,ltK key x y:=List.pairwise_append
theorem X7z{l1 l2:List Int}{k:Nat}(h:k<l1.length) : (l1++l2).getD k 0=l1.getD k 0:=by
 simp only [Qa];rw [List.getElem?_append_left h]
theorem X5y{l1 l2:List Int}{k:Nat}(h:l1.length≤k) : (l1++l2).getD k 0=l2.getD (k-l1.length) 0:=by
 simp only [Qa];rw [W5 h]
theorem Xjn{l:List Int}{k:Nat}(h:k<l.length) : l.getD k 0 ∈ l:=by
 rw [Qa,Qc h];exact List.getElem_mem h
theorem Xez{key:Int→Int}{l:List Int}(h:Srt key l){i j:Nat}(hij:i<j)(hj:j<l.length) : ltK key (l.getD i 0) (l.getD j 0):=by
 rw [Qa,Qa,Qc hj,Qc (Nat.lt_trans hij hj)]
 exact (W0.1 h) i j (Nat.lt_trans hij hj) hj hij
def Cut(pr:Nat→Prop)(lo hi st r:Nat) : Prop:=lo≤st∧st≤r∧r≤hi∧(∀ c,lo≤c→c<st→pr c)∧(∀ c,r≤c→c<hi→¬ pr c)
def Down(pr:Nat→Prop)(lo hi:Nat) : Prop:=∀ c c',lo≤c→c<c'→c'<hi→pr c'→pr c
theorem Xcx{l:List Int}{k:Nat}(h:k<l.length) : l.take (k+1)=l.take k++[l.getD k 0]:=by
 rw [Wf h,Qa,Qc h];rfl
theorem Xd1{l:List Int}{k:Nat}(h:k<l.length) : l.drop k=l.getD k 0::l.drop (k+1):=by
 rw [Qy h,Qa,Qc h];rfl
theorem X8i{key:Int→Int}{S:List Int}{x:Int}(hS:Srt key S){j:Nat}(hj:j+1≤S.length)(h:ltK key (S.getD j 0) x) : ∀ y ∈ S.take (j+1),ltK key y x:=by
 intro y hy
 rw [Xcx (by omega)] at hy
 rcases Qu.1 hy with hy|hy
 ·obtain ⟨i,hi,rfl⟩:=List.getElem_of_mem hy
  have hi':i<j:=by rw [Qn] at hi;omega
  have:=Xez hS hi' (by omega)
  rw [List.getElem_take]
  rw [Qa,Qc (by omega:i<S.length)] at this
  exact this.trans h
 ·rw [Qm.1 hy];exact h
theorem X90{key:Int→Int}{S:List Int}{x:Int}(hS:Srt key S){j:Nat}(hj:j<S.length)(h:ltK key x (S.getD j 0)) : ∀ y ∈ S.drop j,ltK key x y:=by
 intro y hy
 rw [Xd1 hj] at hy
 rcases Qv.1 hy with rfl|hy
 ·exact h
 ·obtain ⟨i,hi,rfl⟩:=List.getElem_of_mem hy
  have hl:i<(S.drop (j+1)).length:=hi
  rw [List.length_drop] at hl
  have:=Xez hS (show j<j+1+i by omega) (by omega)
  rw [List.getElem_drop]
  rw [Qa (i:=j+1+i),Qc (by omega:j+1+i<S.length)] at this
  exact h.trans this
theorem cross{key:Int→Int}{L R:List Int}(hL:Srt key L)(hR:Srt key R){u v:Nat}(hu:u≤L.length)(hv:v≤R.length)
  (h1:0<u→v<R.length→ltK key (L.getD (u-1) 0) (R.getD v 0)) (h2:0<v→u<L.length→ltK key (R.getD (v-1) 0) (L.getD u 0)) :
  ∀ x ∈ L.take u++R.take v,∀ y ∈ L.drop u++R.drop v,ltK key x y:=by
 intro x hx y hy
 rw [← W9 u L] at hL
 rw [← W9 v R] at hR
 obtain ⟨_,_,hLc⟩:=Xeo.1 hL;obtain ⟨_,_,hRc⟩:=Xeo.1 hR
 rw [W9] at hL hR
 rcases Qu.1 hx with hx|hx<;>rcases Qu.1 hy with hy|hy
 ·exact hLc x hx y hy
 ·have hu0:0<u:=by
   rcases Nat.eq_zero_or_pos u with e|e;· rw [e] at hx;simp at hx
   exact e
  have hv0:v<R.length:=by
   rcases W4 v R.length with e|e;· exact e
   rw [List.drop_eq_nil_of_le e] at hy;simp at hy
  have h:=h1 hu0 hv0
  have hxs:=X8i hL (j:=u-1) (by omega) h x (by rw [show u-1+1=u from by omega];exact hx)
  exact (X90 hR hv0 hxs) y hy
 ·have hv0:0<v:=by
   rcases Nat.eq_zero_or_pos v with e|e;· rw [e] at hx;simp at hx
   exact e
  have hu0:u<L.length:=by
   rcases W4 u L.length with e|e;· exact e
   rw [List.drop_eq_nil_of_le e] at hy;simp at hy
  have h:=h2 hv0 hu0
  have hxs:=X8i hR (j:=v-1) (by omega) h x (by rw [show v-1+1=v from by omega];exact hx)
  exact (X90 hL hu0 hxs) y hy
 ·exact hRc x hx y hy
def Merged(key:Int→Int)(L R M:List Int) : Prop:=Srt key M∧M.Perm (L++R)
theorem Merged.len{key:Int→Int}{L R M:List Int}(h:Merged key L R M) : M.length=L.length+R.length:=by rw [h.2.length_eq,Qh]
theorem Merged.mem{key:Int→Int}{L R M:List Int}(h:Merged key L R M){x:Int}(hx:x ∈ M) : x ∈ L∨x ∈ R:=Qu.1 (h.2.mem_iff.1 hx)
def ran(a b:Nat) : List Int:=(List.range' a (b-a)).map (fun k:Nat=>(k:Int))
theorem Xkq{a b:Nat} : (ran a b).length=b-a:=by simp [ran]
theorem Xkj{a b:Nat}{x:Int} : x ∈ ran a b↔(a:Int)≤x∧x<(b:Int):=by
 simp only [ran,W6,List.mem_range'_1]
 constructor
 ·rintro ⟨k,hk,rfl⟩;omega
 ·intro h;exact ⟨x.toNat,by omega,by omega⟩
def SortedR(key:Int→Int)(a b:Nat)(S:List Int) : Prop:=Srt key S∧S.Perm (ran a b)
theorem SortedR.len{key:Int→Int}{a b:Nat}{S:List Int}(h:SortedR key a b S) : S.length=b-a:=by rw [h.2.length_eq,Xkq]
theorem SortedR.mem{key:Int→Int}{a b:Nat}{S:List Int}(h:SortedR key a b S){x:Int}(hx:x ∈ S) : (a:Int)≤x∧x<(b:Int):=Xkj.1 (h.2.mem_iff.1 hx)
inductive Blocks (key:Int→Int) (b n:Nat) : Nat→List Int→Prop
 | nil {a:Nat} (h:n≤a) : Blocks key b n a []
 | cons {a:Nat} {S l:List Int} (h:a<n) (hS:SortedR key a (min (a+b) n) S) (hl:Blocks key b n (a+b) l) : Blocks key b n a (S++l)
theorem Blocks.len{key:Int→Int}{b n a:Nat}{l:List Int}(h:Blocks key b n a l) : l.length=n-a:=by
 induction h with
 | nil h=>simp;omega
 | cons h hS hl ih=>rw [Qh,hS.len,ih];omega
theorem Blocks.one{key:Int→Int}{b n a:Nat}{S:List Int}(h:a<n)(hb:n≤a+b)(hS:SortedR key a n S) : Blocks key b n a S:=by
 have:=Blocks.cons (key:=key) (b:=b) (l:=[]) h (by rw [Nat.min_eq_right hb];exact hS) (Blocks.nil hb)
 rwa [List.append_nil] at this
inductive Head (key:Int→Int) (b:Nat) : Nat→List Int→Prop
 | nil:Head key b 0 []
 | snoc {a:Nat} {S l:List Int} (hl:Head key b a l) (hS:SortedR key a (a+b) S) : Head key b (a+b) (l++S)
theorem Head.len{key:Int→Int}{b a:Nat}{l:List Int}(h:Head key b a l) : l.length=a:=by
 induction h with
 | nil=>rfl
 | snoc hl hS ih=>rw [Qh,ih,hS.len];omega
instance (key:Int→Int) (i k:Int) : Decidable (ltK key i k):=by unfold ltK;infer_instance
def insF(key:Int→Int)(x:Int) : List Int→List Int
 | []=>[x]
 | y::l=>if ltK key y x then y::insF key x l else x::y::l
def srtF(key:Int→Int) : Nat→List Int
 | 0=>[]
 | n+1=>insF key (n:Int) (srtF key n)
end Go.Proofs.YtpifljegadknkaaGreat
namespace Go.Proofs.YtpifljegadknkaaGreat
open Go.RowKit
section
variable {P : Program} {a : Act} {w w' : World} {n : Nat} {e : Env} {ty : TypeId} {pos : String} {af : Array Edge} {g : Option (Nat × Bool)} {d : Option Tmp} {s t t' : TypeId} {x y : Operand} {i j : Int}
end
theorem Xhk{l:List Int}{k:Nat}(h:k<l.length) : l[k]? = some (l.getD k 0):=by
 rw [Qa,Qc h];rfl
section
variable {U V W : List Int} {x y : Int} {p q : Nat}
end
def swL(P X Y Z Q:List Int)(i:Nat) : List Int:=P++((Z.take i++X.drop i)++(Y++((X.take i++Z.drop i)++Q)))
section
variable {key : Int → Int} {cf : Int → Int → Int} {P L R Q : List Int} {n : Int} {a m b : Nat}
def Cmp(key:Int→Int)(cf:Int→Int→Int)(n:Int) : Prop:=∀ x y,0≤x→x<n→0≤y→y<n→(cf x y<0↔key x<key y)
def In(n:Int)(l:List Int) : Prop:=∀ x ∈ l,0≤x∧x<n
theorem In.get{l:List Int}(h:In n l){k:Nat}(hk:k<l.length) : 0≤l.getD k 0∧l.getD k 0<n:=h _ (Xjn hk)
theorem Xvb{k:Nat}(ha:P.length=a)(h1:a≤k)(h2:k<a+L.length) : (P++(L++(R++Q))).getD k 0=L.getD (k-a) 0:=by
 rw [X5y (by omega),X7z (by omega),ha]
theorem Xtw{k:Nat}(ha:P.length=a)(hm:a+L.length=m)(h1:m≤k)(h2:k<m+R.length) : (P++(L++(R++Q))).getD k 0=R.getD (k-m) 0:=by
 rw [X5y (by omega),X5y (by omega),X7z (by omega)]
 congr 1;omega
structure Two (key:Int→Int) (P L R:List Int) (a m b:Nat) (n:Int) : Prop where
 ha:P.length=a
 hm:a+L.length=m
 hb:m+R.length=b
 hL:Srt key L
 hR:Srt key R
 lt:∀ x ∈ L,∀ y ∈ R,x<y
 iL:In n L
 iR:In n R
variable (h : Two key P L R a m b n)
include h
theorem Two.inl{k:Nat}(h1:a≤k)(h2:k<m) : 0≤(P++(L++(R++Q))).getD k 0∧(P++(L++(R++Q))).getD k 0<n:=by
 have:=h.hm;rw [Xvb h.ha h1 (by omega)];exact h.iL.get (by omega)
theorem Two.inr{k:Nat}(h1:m≤k)(h2:k<b) : 0≤(P++(L++(R++Q))).getD k 0∧(P++(L++(R++Q))).getD k 0<n:=by
 have:=h.hb;rw [Xtw h.ha h.hm h1 (by omega)];exact h.iR.get (by omega)
def prS(key:Int→Int)(l:List Int)(p:Nat)(c:Nat) : Prop:=ltK key (l.getD c 0) (l.getD (p-c) 0)
end
theorem Xwd(d:World)(Al:Option Addr)(cl:Nat)(l:List Int)(e:Rd d d.heap.size 3 encI Al l)(aE:l.length≤1000000000) : Ret Tryz.prog 215 [.slice Al l.length cl] d (fun v w=>∃ A c,v=.slice A l.length c∧Own w d.heap.size 3 1 encI A c l∧Below d.heap.size d w):=by
 refine enter Tryz.func215 rfl 6 rfl rfl ?_;intro a hf
 have b:=bz d
 refine Zs hf fun _ aB=>?_;refine Za rfl<|Zx aB fun a hf _ aC=>?_;refine Zf (Xp (k:=0) (vs:=[]) (zs:=[]) rfl Xj X1g rfl rfl) ?_;rintro _ w1 ⟨b5,rfl,a6,hE,a7⟩;have f:=Q0 b.size a6;have aA:=(e.below' b).away a6;have b:=btr b hE;refine Zm rfl<|Zf (X0r (enc:=encI) (l:=([] : List Int)) (l2:=(l)) (B0:=d.heap.size) rfl rfl Xj X1g Xa X1w (Own.empty a7 f) (e.below' b) (by simp only [maxLen,List.length_nil];omega) (by simp only [List.length_nil];omega) b.size) ?_;rintro _ w2 ⟨A7,c7,rfl,a8,hg,aD⟩
 have g:Own _ d.heap.size 3 1 encI _ _ ([] : List Int):=(Own.empty a7 f)
 clear aD;have b:=Below.app b g hg (Qb _) b.size;clear g hg
 simp only [List.nil_append] at a8
 refine Za rfl<|Zt aC fun a hf=>?_
 refine Q6 (X5 hf (Xr hf rfl rfl) ?_)
 exact ⟨A7,c7,rfl,a8,b⟩
end Go.Proofs.YtpifljegadknkaaGreat
namespace Go.Proofs.YtpifljegadknkaaGreat
open Go.RowKit Go.ChangeShapes Go.WideShapes Go.Deep Go.Joins
theorem Xk6{α:Type}{n:Nat}{Q:Nat→α→Prop}(h:∀ i,i<n→∃ g,Q i g) : ∃ l:List α,l.length=n∧∀ i g,l[i]? = some g→Q i g:=by
 induction n with
 | zero=>exact ⟨[],rfl,fun i g h=>by simp at h⟩
 | succ n ih=>
  obtain ⟨l,h1,h2⟩:=ih fun i hi=>h i (by omega)
  obtain ⟨g,hg⟩:=h n (by omega)
  refine ⟨l++[g],by simp [h1],fun i g' hi=>?_⟩
  rcases W4 i n with hin|hin
  ·rw [List.getElem?_append_left (by omega)] at hi
   exact h2 i g' hi
  ·rw [W5 (by omega)] at hi
   have:i-l.length=0:=by
    rcases Nat.eq_zero_or_pos (i-l.length) with h|h
    ·exact h
    ·rw [List.getElem?_eq_none (by simp;omega)] at hi;cases hi
   rw [this] at hi
   injection hi with hi
   subst hi
   have:i=n:=by omega
   subst this
   exact hg
theorem Xbd{α:Type}{w:World}{enc:α→List Value}{sz:Nat}(hsz:∀ x,(enc x).length=sz)(h0:0<sz){p:Addr}{l:List α}
  (h:∀ i g,l[i]? = some g→∀ j v,(enc g)[j]? = some v→w.cell? (p.add (i*sz+j))=some v) : ∃ E,Rd w w.heap.size E enc (some p) l:=by
 by_cases hl:l=[]
 ·subst hl;exact ⟨0,Rd.nil _ _ _ _ _⟩
 ·obtain ⟨g0,l',rfl⟩:=List.exists_cons_of_ne_nil hl
  obtain ⟨v0,hv0⟩ : ∃ v,(enc g0)[0]? = some v:=⟨_,Qc (by rw [hsz];exact h0)⟩
  have hc:=h 0 g0 rfl 0 v0 hv0;obtain ⟨b,off,spot⟩:=p;have hb:=Xd9 hc
  rw [X5w] at hb
  have hsp:spot=none:=by
   cases spot with
   | none=>rfl
   | some s=>simp [World.cell?,Addr.add] at hc;split at hc<;>simp_all
  subst hsp
  have hobj:∃ cs E fz,w.heap[b]? = some (.cells cs E fz):=by
   rw [X1e] at hc
   simp only [World.cell?] at hc
   split at hc
   ·rename_i c E fz hh;exact ⟨c,E,fz,hh⟩
   ·cases hc
  obtain ⟨cs,E,fz,hh⟩:=hobj
  refine ⟨E,fun _=>⟨b,off,cs,fz,rfl,hb,hh,fun j v hj=>?_⟩⟩
  have hjl:j<((g0::l').flatMap enc).length:=(Qg.1 hj).1
  rw [Xn hsz] at hjl
  obtain ⟨x,hx,h1⟩:=X4x hsz hjl
  rw [h1] at hj
  have:=h _ _ hx _ _ hj
  rw [X1e,show j/sz*sz+j % sz=j from by rw [Wi];exact Nat.div_add_mod j sz] at this
  simpa [World.cell?,hh] using this
section
variable {H : Type} {enc : TypeId × Value → H} {w : World} {base fuel : Nat} {spare : Nat → Bool} {held : Bool}
theorem Xu5{α:Type}{l:List α}(h:l.length=3) : ∃ a b c,l=[a,b,c]:=by
 match l,h with
 | [a,b,c],_=>exact ⟨a,b,c,rfl⟩
theorem Xap:Tryz.prog.cellsOf 126=3:=by kernel_rfl
theorem Xgy:Tryz.prog.cellsOf 3=1:=by kernel_rfl
theorem Xfl{cs:List Value}{x:DataW H×List MemPlace}(h:DataW.trod enc Tryz.prog w base spare held fuel 126 cs=some x) : ∃ g:Gt,cs=encG g:=by
 obtain ⟨y0,y1,y2,n,_,hl,h0,h1,h2⟩:=trod_struct3 Tryz.underlying126 h
 rw [Xap] at hl
 obtain ⟨c0,c1,c2,rfl⟩:=Xu5 hl
 simp only [Xgy] at h0 h1 h2
 obtain ⟨a,e0,_⟩:=DataW.trod_int Tryz.underlying3 h0;obtain ⟨b,e1,_⟩:=DataW.trod_int Tryz.underlying3 h1;obtain ⟨c,e2,_⟩:=DataW.trod_int Tryz.underlying3 h2
 simp at e0 e1 e2
 exact ⟨⟨a,b,c⟩,by rw [e0,e1,e2];rfl⟩
set_option maxRecDepth 100000 in
theorem Xcb{cs:List Value}{x:DataW H×List MemPlace}(h:DataW.trod enc Tryz.prog w base spare held fuel 22 cs=some x)(hsp:∀ b,spare b=true) :
  ∃ A l c E,cs=[.slice A l.length c]∧Rd w w.heap.size E encG A l∧l.length≤9223372036854775807:=by
 rcases open_slice Tryz.underlying22 h with ⟨hcs,_⟩|⟨a,len,cap,m,n,D,Pl,hcs,hb,hl,hm,hmm,_,hi⟩
 ·exact ⟨none,[],0,0,hcs,Rd.nil _ _ _ _ _,by simp⟩
 ·rw [Xap] at hi
  have hlm:len≤m:=by rw [hmm,hsp];simpa using hl
  obtain ⟨l,h1,h2⟩:=Xk6 (n:=len) (Q:=fun i g=>∀ j v,(encG g)[j]? = some v→w.cell? (a.add (i*3+j))=some v) fun i hilt=>by
   obtain ⟨cs',hc,ht⟩:=hi i (by omega)
   obtain ⟨g,rfl⟩:=Xfl ht;obtain ⟨_,_,hat⟩:=World.cells?_some hc
   refine ⟨g,fun j v hj=>?_⟩
   have hj3:j<3:=by have:=(Qg.1 hj).1;simpa [encG] using this
   rw [← X66,hat j hj3]
   exact hj
  obtain ⟨E,hr⟩:=Xbd X1r (by decide) h2
  refine ⟨some a,l,cap,E,by rw [hcs,h1],hr,?_⟩
  simp only [maxLen] at hm
  omega
end
section
variable {H : Type} {enc : TypeId × Value → H} {w : World} {base fuel : Nat} {spare : Nat → Bool} {held : Bool}
theorem Xm2:Tryz.prog.cellsOf 22=1:=by kernel_rfl
theorem Xkk:Tryz.prog.cellsOf 24=2:=by kernel_rfl
set_option maxRecDepth 100000 in
theorem X9n{cs:List Value}{x:DataW H×List MemPlace}(h:DataW.trod enc Tryz.prog w base spare held fuel 24 cs=some x)(hsp:∀ b,spare b=true) :
  ∃ (c:Cx) (A:Option Addr) (k:Nat) (E:TypeId),cs=[.int .i64 c.n,.slice A c.gs.length k]∧Rd w w.heap.size E encG A c.gs∧c.gs.length≤9223372036854775807:=by
 obtain ⟨y0,y1,n,_,hl,h0,h1⟩:=trod_struct2 Tryz.underlying24 h
 rw [Xkk] at hl
 match cs,hl with
 | [c0,c1],_=>
  simp only [Xgy] at h0
  simp only [Xm2] at h1
  obtain ⟨a,e0,_⟩:=DataW.trod_int Tryz.underlying3 h0;obtain ⟨A,l,c,E1,e1,hr1,hl1⟩:=Xcb h1 hsp
  simp at e0 e1
  exact ⟨⟨a,l⟩,A,c,E1,by rw [e0,e1],hr1,hl1⟩
end
section
variable {H : Type} {enc : TypeId × Value → H} {w : World} {base fuel : Nat} {spare : Nat → Bool} {held : Bool}
end
end Go.Proofs.YtpifljegadknkaaGreat
namespace Go.Proofs.YtpifljegadknkaaGreat
open Go.ChangeShapes Go.WideShapes Go.ChangeAt Go.RowKit Go.Deep Go.Joins
set_option linter.unusedVariables false
theorem own:ownKnob Tryz.prog.godebug=none:=by kernel_rfl
theorem Xmh:laidOutB Tryz.prog=true:=by kernel_rfl
section
variable {H : Type} {enc : TypeId × Value → H} {P : Program}
theorem Xck{f:Func}{s:ChangeSpec}{fresh handsOn:Bool}{W W':World}{args:Array Value}{v:Value}{ds gs:List (DataW H)}{before pa pv:List MemPlace}
  (hW:DataW.Whole enc P f.params.toList s.vars false W args.toList ds gs before)
  (hres:∀ (b:Nat) (sp:Nat→Bool) (hd:Bool),DataW.TrodAll enc P W' b sp hd f.resultTypes.toList (v.resultList f.resultTypes.size) (s.fn H (ds++gs)).results [])
  (hargs:∀ sp:Nat→Bool,(∀ p ∈ before,sp p.block=true)→DataW.TrodAll enc P W' 0 sp true f.params.toList args.toList (s.fn H (ds++gs)).args pa)
  (hvars:∀ sp:Nat→Bool,(∀ p ∈ before,sp p.block=true)→DataW.TrodVars enc P W' sp s.vars (s.fn H (ds++gs)).vars pv)
  (hps:before=pa++pv) (hb:Below W.heap.size W W') :
  s.post enc P f false fresh handsOn false W args v W':=by
 have hlt:∀ p ∈ before,p.block<W.heap.size:=fun p hp=>hW.lt p hp
 have hold:∀ p ∈ before,(fun b=>decide (b<W.heap.size)) p.block=true:=fun p hp=>by simpa using hlt p hp
 refine ⟨ds,gs,before,[],pa,pv,hW,hres _ _ _,hargs _ hold,hvars _ hold,World.keptBut_mono (fun p hp=>⟨hp,?_⟩) (hb.frame (· ∈ before)),fun h=>by cases h⟩
 rw [hps,Qu] at hp
 exact Or.inr hp
end
set_option maxRecDepth 100000 in
theorem Xg1{H:Type}{enc:TypeId×Value→H}{w:World}{base b0:Nat}{spare:Nat→Bool}{held:Bool}{r:Reach}{v:Value}{d:DataW H}{p:List MemPlace}(hv:Value.okWide Tryz.prog w r b0 24 v)(h:DataW.Trod enc Tryz.prog w base spare held 24 v d p)(hsp:∀ b,spare b=true) :
  ∃ (c:Cx) (A:Option Addr) (k:Nat) (E:TypeId),v=.agg #[.int .i64 c.n,.slice A c.gs.length k]∧Rd w w.heap.size E encG A c.gs∧c.gs.length≤9223372036854775807:=by
 obtain ⟨⟨cs⟩,rfl,hsz⟩:=okWide_struct Tryz.underlying24 hv;obtain ⟨fuel,hf⟩:=h;obtain ⟨c,A,k,E,e0,hr,hl⟩:=X9n hf hsp
 simp [Value.cells] at e0
 exact ⟨c,A,k,E,by rw [e0],hr,hl⟩
end Go.Proofs.YtpifljegadknkaaGreat
namespace Go.Proofs.YtpifljegadknkaaGreat
open Go.RowKit
theorem X53(x:Nat) : BitVec.ofInt 64 (x:Int)=BitVec.ofNat 64 x:=BitVec.ofInt_natCast 64 x
theorem X3n{x:Nat}(h:x<2^62) : (BitVec.ofNat 64 x).toNat=x:=by
 rw [BitVec.toNat_ofNat];exact Nat.mod_eq_of_lt (Nat.lt_of_lt_of_le h (by decide))
theorem X5t{x:Nat}(h:x<2^62) : IntKind.i64.wrap (x:Int)=(x:Int):=by
 rw [show (2:Nat)^62=4611686018427387904 from by decide] at h
 exact IntWalk.i64_in _ ⟨by omega,by omega⟩
theorem X36{x y:Nat}(hx:x<2^62)(hy:y<2^62) : bits .or .i64 (x:Int) (y:Int)=((x ||| y:Nat) : Int):=by
 show IntKind.i64.wrap ((BitVec.ofInt 64 (x:Int) ||| BitVec.ofInt 64 (y:Int)).toNat:Int)=_
 rw [X53,X53,BitVec.toNat_or,X3n hx,X3n hy,X5t (Nat.or_lt_two_pow hx hy)]
theorem X46{x y:Nat}(hx:x<2^62)(hy:y<2^62) : bits .xor .i64 (x:Int) (y:Int)=((x ^^^ y:Nat) : Int):=by
 show IntKind.i64.wrap ((BitVec.ofInt 64 (x:Int) ^^^ BitVec.ofInt 64 (y:Int)).toNat:Int)=_
 rw [X53,X53,BitVec.toNat_xor,X3n hx,X3n hy,X5t (Nat.xor_lt_two_pow hx hy)]
def without(x y:Nat) : Nat:=x ^^^ (x &&& y)
theorem X9i{m:Nat}(h:m<62) : 2^m<2^62:=Nat.pow_lt_pow_right (by decide) h
theorem Xld{m:Nat}(h:m<62) : wr (1*2^m)=((2^m:Nat) : Int):=by
 rw [Int.one_mul,show ((2:Int)^m)=((2^m:Nat) : Int) from by push_cast;rfl]
 exact X5t (X9i h)
def setN(x:Nat) : List Nat:=(List.range 62).filter x.testBit
def setI(x:Nat) : List Int:=(setN x).map fun (k:Nat)=>(k:Int)
theorem X4u{x i:Nat}(hx:x<2^62) : i ∈ setN x↔x.testBit i=true:=by
 rw [setN,List.mem_filter,W2]
 constructor
 ·exact fun h=>h.2
 ·intro h
  refine ⟨?_,h⟩
  rcases W4 i 62 with h1|h1
  ·exact h1
  ·have:=Nat.testBit_lt_two_pow (Nat.lt_of_lt_of_le hx (Nat.pow_le_pow_right (by decide) h1))
   rw [this] at h;cases h
def maskOf(p:Nat→Bool) : Nat→Nat
 | 0=>0
 | m+1=>maskOf p m ||| (if p m=true then 2^m else 0)
theorem X8k(p:Nat→Bool) : ∀ m,maskOf p m<2^m
 | 0=>by simp [maskOf]
 | m+1=>by
  have h:=X8k p m
  rw [maskOf]
  refine Nat.or_lt_two_pow (Nat.lt_of_lt_of_le h (Nat.pow_le_pow_right (by decide) (Nat.le_succ m))) ?_
  split
  ·exact Nat.pow_lt_pow_right (by decide) (Nat.lt_succ_self m)
  ·exact Nat.pow_pos (by decide)
def RpL(p q:Gt×Nat) : Prop:=p.1.k≠12→q.1.k≠12→(commS q.1 p.1=false→p.2<q.2)∧(p.2=q.2→comS q.1 p.1=false)
def SchP(gs:List Gt)(t:Nat) : Prop:=∃ ps:List (Gt×Nat),ps.map Prod.fst=gs∧ps.Pairwise RpL∧∀ p ∈ ps,p.1.k≠12→1≤p.2∧p.2≤t
def nonW(g:Gt) : Bool:=g.k != 12
def Good(gs:List Gt)(f:Nat→Int)(i:Nat) : Prop:=∀ j,j<i→(commS (gs.getD i gZ) (gs.getD j gZ)=false→f j<f i)∧(f j=f i→comS (gs.getD i gZ) (gs.getD j gZ)=false)
def OkL(gs:List Gt)(t:Nat)(f:Nat→Int)(i:Nat) : Prop:=(gs.getD i gZ).k≠12→1≤f i∧f i≤(t:Int)∧Good gs f i
def layI(gs:List Gt)(t:Nat) : Nat→List Int→Bool
 | 0,_=>true
 | n+1,al=>if (gs.getD (gs.length-(n+1)) gZ).k=12 then layI gs t n al else (List.range t).any fun x=>decide (faultS gs (al.set (gs.length-(n+1)) ((x:Int)+1)) (gs.length-(n+1))=0)&&layI gs t n (al.set (gs.length-(n+1)) ((x:Int)+1))
theorem X57{al:List Int}{i j:Nat}{x:Int}(hi:i<al.length) : (al.set i x).getD j 0=if j=i then x else al.getD j 0:=by
 rw [Qa,List.getElem?_set,Qa]
 by_cases h:i=j
 ·rw [Q4 h,Q4 h.symm,Q4 (by omega)];rfl
 ·rw [Q3 h,Q3 (fun e=>h e.symm)]
def zerosL(n:Nat) : List Int:=List.replicate n 0
def leastL(gs:List Gt) : Nat:=((List.range (gs.length+1)).find? fun t=>layI gs t gs.length (zerosL gs.length)).getD 0
section
variable (l : List Gt)
def foP(i j:Nat) : Bool:=decide (j<i)&&!commS (l.getD i gZ) (l.getD j gZ)
def shP(i j:Nat) : Bool:=i != j&&comS (l.getD i gZ) (l.getD j gZ)
def foM(i:Nat) : Nat:=maskOf (foP l i) l.length
def shM(i:Nat) : Nat:=maskOf (shP l i) l.length
def okAt(d s i:Nat) : Bool:=shM l i &&& s==0&&without (foM l i) d==0
def stepB(d s:Nat) : Bool:=s &&& d==0&&(setN s).all (okAt l d s)
def fullM:Nat:=2^l.length-1
inductive Rch:Nat→Nat→Prop
 | zero:Rch 0 0
 | step {k d s:Nat} (h:Rch k d) (h1:1≤s) (h2:s<2^l.length) (h3:stepB l d s=true) : Rch (k+1) (d ||| s)
end
section
variable {l : List Gt}
def lowM(l:List Gt)(f:Nat→Nat)(s:Nat) : Nat:=maskOf (fun i=>decide (f i≤s)) l.length
def stepsL(l:List Gt)(d:Nat) : List Nat:=(List.range' 1 (2^l.length-1)).filter (stepB l d)
theorem X5d{d s:Nat} : s ∈ stepsL l d↔1≤s∧s<2^l.length∧stepB l d s=true:=by
 rw [stepsL,List.mem_filter,List.mem_range'_1]
 have:0<2^l.length:=Nat.pow_pos (by decide)
 constructor
 ·rintro ⟨h1,h2⟩;exact ⟨by omega,by omega,h2⟩
 ·rintro ⟨h1,h2,h3⟩;exact ⟨by omega,h3⟩
structure Bfs (l:List Gt) (far:List Int) (L:List Nat) (i q:Nat) : Prop where
 flen:far.length=2^l.length
 inL:∀ x ∈ L,x<2^l.length∧∃ d:Nat,far.getD x 0=(d:Int)∧Rch l d x
 neg:∀ x,x<2^l.length→0≤far.getD x 0→x ∈ L
 nod:L.Nodup
 srt:L.Pairwise (fun x y=>far.getD x 0≤far.getD y 0)
 cap:i<L.length→∀ y ∈ L,far.getD y 0≤far.getD (L.getD i 0) 0+1
 done:∀ j,j<i→j<L.length→∀ s ∈ stepsL l (L.getD j 0),0≤far.getD (L.getD j 0 ||| s) 0∧far.getD (L.getD j 0 ||| s) 0≤far.getD (L.getD j 0) 0+1
 part:i<L.length→∀ s ∈ (stepsL l (L.getD i 0)).take q,0≤far.getD (L.getD i 0 ||| s) 0∧far.getD (L.getD i 0 ||| s) 0≤far.getD (L.getD i 0) 0+1
 zero:0 ∈ L
theorem X3v{L:List Nat}{k:Nat}(h:k<L.length) : L.getD k 0 ∈ L:=by
 rw [Qa,Qc h];exact List.getElem_mem h
theorem Xfj{L M:List Nat}{k:Nat}(h:k<L.length) : (L++M).getD k 0=L.getD k 0:=by
 simp only [Qa];rw [List.getElem?_append_left h]
theorem Bfs.inj{far:List Int}{L:List Nat}{i q:Nat}(h:Bfs l far L i q)(hi:i<L.length) : L.getD i 0<2^l.length:=(h.inL _ (X3v hi)).1
theorem Bfs.old{far:List Int}{L:List Nat}{i q s:Nat}(h:Bfs l far L i q)(hi:i<L.length)(hs:(stepsL l (L.getD i 0))[q]? = some s)(hf:0≤far.getD (L.getD i 0 ||| s) 0) : Bfs l far L i (q+1):=by
 refine ⟨h.flen,h.inL,h.neg,h.nod,h.srt,h.cap,h.done,fun _ s' hs'=>?_,h.zero⟩
 obtain ⟨hq,hqe⟩:=Qg.1 hs;have hm:=X5d.1 (hqe▸List.getElem_mem hq)
 rw [Wf hq,Qu] at hs'
 rcases hs' with hs'|hs'
 ·exact h.part hi s' hs'
 ·rw [Qm.1 hs',hqe]
  exact ⟨hf,h.cap hi _ (h.neg _ (Nat.or_lt_two_pow (h.inj hi) hm.2.1) hf)⟩
theorem Bfs.new{far:List Int}{L:List Nat}{i q s:Nat}(h:Bfs l far L i q)(hi:i<L.length)(hs:(stepsL l (L.getD i 0))[q]? = some s)(hf:far.getD (L.getD i 0 ||| s) 0<0) :
  Bfs l (far.set (L.getD i 0 ||| s) (far.getD (L.getD i 0) 0+1)) (L++[L.getD i 0 ||| s]) i (q+1):=by
 obtain ⟨hq,hqe⟩:=Qg.1 hs;have hm:=X5d.1 (hqe▸List.getElem_mem hq)
 have hx:L.getD i 0 ||| s<2^l.length:=Nat.or_lt_two_pow (h.inj hi) hm.2.1
 obtain ⟨x,hxe⟩ : ∃ x,x=L.getD i 0 ||| s:=⟨_,rfl⟩
 have hxL:x ∉ L:=fun hc=>by
  obtain ⟨_,d,hd,_⟩:=h.inL x hc
  rw [← hxe] at hf
  omega
 have hget:∀ y,(far.set x (far.getD (L.getD i 0) 0+1)).getD y 0=if y=x then far.getD (L.getD i 0) 0+1 else far.getD y 0:=fun y=>X57 (by rw [h.flen,hxe];exact hx)
 have hgL:∀ y ∈ L,(far.set x (far.getD (L.getD i 0) 0+1)).getD y 0=far.getD y 0:=fun y hy=>by
  rw [hget,Q3 (fun e:y=x=>hxL (e▸hy))]
 have hiL:=hgL _ (X3v hi)
 have hge:∀ j,j<L.length→(L++[x]).getD j 0=L.getD j 0:=fun j hj=>Xfj hj
 obtain ⟨_,di,hdi,hri⟩:=h.inL _ (X3v hi)
 rw [← hxe] at hf hx ⊢
 have mono:∀ y,y<2^l.length→0≤far.getD y 0→(far.set x (far.getD (L.getD i 0) 0+1)).getD y 0=far.getD y 0:=fun y h1 h2=>hgL y (h.neg y h1 h2)
 refine ⟨by rw [List.length_set];exact h.flen,fun y hy=>?_,fun y hy h0=>?_,?_,?_,fun _ y hy=>?_,fun j hj hjl s' hs'=>?_,fun _ s' hs'=>?_,List.mem_append_left _ h.zero⟩
 ·rcases Qu.1 hy with hy|hy
  ·rw [hgL y hy];exact h.inL y hy
  ·rw [Qm.1 hy]
   refine ⟨hx,di+1,by rw [hget,Q4 rfl,hdi];rfl,?_⟩
   rw [hxe];exact Rch.step hri hm.1 hm.2.1 hm.2.2
 ·rw [hget] at h0
  split at h0
  ·rename_i e;rw [e];simp
  ·exact List.mem_append_left _ (h.neg y hy h0)
 ·rw [List.nodup_append]
  exact ⟨h.nod,by simp,fun y hy z hz e=>hxL (by rw [Qm.1 hz] at e;exact e▸hy)⟩
 ·rw [List.pairwise_append]
  refine ⟨h.srt.imp_of_mem fun {y z} hy hz hyz=>by rw [hgL y hy,hgL z hz];exact hyz,by simp,fun y hy z hz=>?_⟩
  rw [Qm.1 hz,hgL y hy,hget,Q4 rfl]
  exact h.cap hi y hy
 ·rw [hge i hi,hiL]
  rcases Qu.1 hy with hy|hy
  ·rw [hgL y hy];exact h.cap hi y hy
  ·rw [Qm.1 hy,hget,Q4 rfl];omega
 ·have hjL:j<L.length:=by omega
  rw [hge j hjL] at hs' ⊢
  rw [hgL _ (X3v hjL)]
  obtain ⟨e1,e2⟩:=h.done j hj hjL s' hs'
  rw [mono _ (Nat.or_lt_two_pow (h.inL _ (X3v hjL)).1 (X5d.1 hs').2.1) e1]
  exact ⟨e1,e2⟩
 ·rw [hge i hi] at hs' ⊢
  rw [hiL]
  rw [Wf hq,Qu] at hs'
  rcases hs' with hs'|hs'
  ·obtain ⟨e1,e2⟩:=h.part hi s' hs'
   rw [mono _ (Nat.or_lt_two_pow (h.inj hi) (X5d.1 (Wd hs')).2.1) e1]
   exact ⟨e1,e2⟩
  ·rw [Qm.1 hs',hqe,← hxe,hget,Q4 rfl];omega
theorem Bfs.next{far:List Int}{L:List Nat}{i q:Nat}(h:Bfs l far L i q)(hi:i<L.length)(hq:(stepsL l (L.getD i 0)).length≤q) : Bfs l far L (i+1) 0:=by
 refine ⟨h.flen,h.inL,h.neg,h.nod,h.srt,fun hi1 y hy=>?_,fun j hj hjl s hs=>?_,fun _ s hs=>by simp at hs,h.zero⟩
 ·have h1:=h.cap hi y hy
  have h2:=(W0.1 h.srt) i (i+1) hi hi1 (by omega)
  have g1:L.getD i 0=L[i]:=by rw [Qa,Qc hi];rfl
  have g2:L.getD (i+1) 0=L[i+1]:=by rw [Qa,Qc hi1];rfl
  rw [g1] at h1
  rw [g2];omega
 ·by_cases hji:j=i
  ·subst hji
   exact h.part hi s (by rw [Qi hq];exact hs)
  ·exact h.done j (by omega) hjl s hs
end
def cI(l:List Nat) : List Int:=l.map fun (k:Nat)=>(k:Int)
def maskV(l:List Int) : Nat:=l.foldl (fun q v=>q ||| 2^v.toNat) 0
def foL(l:List Gt) : List Int:=cI ((List.range l.length).map (foM l))
def shL(l:List Gt) : List Int:=cI ((List.range l.length).map (shM l))
theorem Xlu{l:List Gt}{i:Nat}(hi:i<l.length) : (shL l)[i]? = some ((shM l i:Nat) : Int):=by simp [shL,cI,hi]
theorem Xlc(l:List Gt) : (shL l).length=l.length:=by simp [shL,cI]
structure ShM (l:List Gt) (i j:Nat) (m:List Int) : Prop where
 len:m.length=l.length
 lo:∀ q,q<i→m.getD q 0=((shM l q:Nat) : Int)
 at':i<l.length→m.getD i 0=((maskOf (shP l i) j:Nat) : Int)
 up:∀ q,i<q→q<l.length→m.getD q 0=0
theorem ShM.yes{l:List Gt}{i j:Nat}{m:List Int}(h:ShM l i j m)(hi:i<l.length)(hj:j<62)(hl:l.length≤8)(hjl:j≤l.length)(hp:shP l i j=true) : ShM l i (j+1) (m.set i (bits .or .i64 (m.getD i 0) (wr (1*2^j)))):=by
 have hil:i<m.length:=by rw [h.len];exact hi
 have e:bits .or .i64 (m.getD i 0) (wr (1*2^j))=((maskOf (shP l i) (j+1) : Nat) : Int):=by
  rw [h.at' hi,Xld hj,X36 (Nat.lt_of_lt_of_le (X8k _ _) (Nat.pow_le_pow_right (by decide) (by omega))) (X9i hj),maskOf,Q4 hp]
 refine ⟨by rw [List.length_set];exact h.len,fun q hq=>?_,fun _=>?_,fun q h1 h2=>?_⟩
 ·rw [X57 hil,Q3 (by omega)];exact h.lo q hq
 ·rw [X57 hil,Q4 rfl,e]
 ·rw [X57 hil,Q3 (by omega)];exact h.up q h1 h2
theorem ShM.no{l:List Gt}{i j:Nat}{m:List Int}(h:ShM l i j m)(hp:shP l i j=false) : ShM l i (j+1) m:=
 ⟨h.len,h.lo,fun hi=>by rw [h.at' hi,maskOf,Q3 (by rw [hp];simp),Nat.or_zero],h.up⟩
theorem ShM.next{l:List Gt}{i:Nat}{m:List Int}(h:ShM l i l.length m)(hi:i<l.length) : ShM l (i+1) 0 m:=
 ⟨h.len,fun q hq=>by
  by_cases e:q=i
  ·rw [e];exact h.at' hi
  ·exact h.lo q (by omega),fun h1=>by rw [h.up _ (by omega) h1];rfl,fun q h1 h2=>h.up q (by omega) h2⟩
theorem ShM.done{l:List Gt}{i j:Nat}{m:List Int}(h:ShM l i j m)(hi:l.length≤i) : m=shL l:=by
 apply List.ext_getElem?
 intro q
 rcases W4 q l.length with h1|h1
 ·rw [Xlu h1,Xhk (by rw [h.len];exact h1),h.lo q (by omega)]
 ·rw [List.getElem?_eq_none (by rw [h.len];exact h1),List.getElem?_eq_none (by rw [Xlc];exact h1)]
def stepsU(l:List Gt)(d k:Nat) : List Nat:=(List.range' 1 (k-1)).filter (stepB l d)
def llB(c:Cx) : Bool:=cOk c&&decide ((c.gs.filter nonW).length≤8)
def llI(c:Cx) : Int:=if llB c=true then (leastL c.gs:Int) else 0
theorem Xjk{p:Gt→Bool}{l:List Gt}{k:Nat}{u:Gt}(h:l[k]? = some u) : (l.take (k+1)).filter p=(l.take k).filter p++(if p u=true then [u] else []):=by
 obtain ⟨h1,h2⟩:=Qg.1 h
 rw [Wf h1,h2,List.filter_append]
 congr 1
 by_cases hp:p u=true
 ·rw [Q4 hp,List.filter_cons_of_pos hp];rfl
 ·rw [Q3 hp,List.filter_cons_of_neg hp];rfl
structure TurnV (w w':World) (b:Nat) (r:Option Nat) : Prop where
 os:w'.os=w.os
 tape:w'.tape=w.tape
 output:w'.output=w.output
 size:w.heap.size≤w'.heap.size
 block:∀ k,k<w.heap.size→k≠b→some k≠r→w'.heap[k]? = w.heap[k]?
theorem TurnV.refl(w:World)(b:Nat)(r:Option Nat) : TurnV w w b r:=⟨rfl,rfl,rfl,Qb _,fun _ _ _ _=>rfl⟩
section
variable {w0 w w' : World} {b : Nat} {r : Option Nat} {A : Option Addr} {n m c c' : Nat}
theorem TurnV.mid(h:TurnV w w' b (Value.slice A n c).ownBlock)(hb:b<w.heap.size) : ∃ w1,Only b w w1∧w1.grownBy w' (Value.slice A n c).ownBlock:=by
 cases hx:w'.heap[b]? with
 | none=>
  have:=Array.getElem?_eq_none_iff.1 hx
  have:=h.size
  omega
 | some o=>
  refine ⟨{ w with heap:=w.heap.setIfInBounds b o },⟨rfl,rfl,rfl,by simp,fun k hk=>?_⟩,⟨h.os,h.tape,h.output,by simpa using h.size,fun k hk hn=>?_⟩⟩
  ·show (w.heap.setIfInBounds b o)[k]? = _
   rw [Wh (Ne.symm hk)]
  ·show w'.heap[k]? = (w.heap.setIfInBounds b o)[k]?
   have hk':k<w.heap.size:=by simpa using hk
   by_cases hkb:k=b
   ·subst hkb
    rw [hx,Array.getElem?_setIfInBounds_self_of_lt hk']
   ·rw [Wh (Ne.symm hkb)]
    exact h.block k hk' hkb hn
end
theorem MemoG.app{α:Type}{w w':World}{b B:Nat}{E:TypeId}{sz:Nat}{enc:α→List Value}{A:Option Addr}{n c c':Nat}{l:List α}(h:MemoG w b)(ho:Own w B E sz enc A c l)(hg:w.grownBy w' (Value.slice A n c').ownBlock) : MemoG w' b:=by
 obtain ⟨l2,cl,hL,hg2⟩:=h
 refine ⟨l2,cl,?_,hg2⟩
 have hlt:=hL.lt
 refine (hg.block b hlt fun hk=>?_).trans hL
 rw [X74 A n l.length c' c] at hk
 obtain ⟨_,_,cs,fz,h3⟩:=ho.block hk.symm
 unfold MemoL at hL
 rw [hL] at h3;cases h3
theorem Own.onlyM{α:Type}{w w':World}{b B:Nat}{E:TypeId}{sz:Nat}{enc:α→List Value}{A:Option Addr}{c:Nat}{l:List α}(h:Own w B E sz enc A c l)(ho:Only b w w')(hm:MemoG w b) : Own w' B E sz enc A c l:=by
 refine ⟨h.1,?_⟩
 rcases h.2 with k1|⟨g,cap,cur,k1,k2,k3,k4⟩
 ·exact .inl k1
 ·refine .inr ⟨g,cap,cur,k1,k2,(ho.block g fun e=>?_).trans k3,k4⟩
  obtain ⟨l2,cl,hL,_⟩:=hm
  unfold MemoL at hL
  rw [e,hL] at k3;cases k3
def tryL(gs:List Gt)(t n:Nat)(al:List Int)(x:Nat) : Bool:=decide (faultS gs (al.set (gs.length-n) ((x:Int)+1)) (gs.length-n)=0)&&layI gs t (n-1) (al.set (gs.length-n) ((x:Int)+1))
def cntP(p:Int→Bool)(gs:List Gt) : Nat:=(gs.filter fun g=>p g.k).length
theorem Xu9(t:World)(c:Cx)(Ac:Option Addr)(cc:Nat)(o:Rd t t.heap.size 123 encG Ac c.gs)(kpp:FuncId)(ppp:List Value)(Fpp:FuncF Tryz.prog kpp)(pp:Int→Bool)(aK:∀ x w,Below t.heap.size t w→Ret Tryz.prog kpp ([vi x]++ppp) w (fun v w'=>v=.bool (pp x)∧Below w.heap.size w w'))(aL:c.gs.length≤2305843009213693951) : Ret Tryz.prog 88 [.agg #[vi c.n,.slice Ac c.gs.length cc],.func (.func kpp) #[] ppp.toArray] t (fun v w=>v=.tuple #[vi (if cOk c=true then ((cntP pp c.gs:Nat) : Int) else 0),.bool (cOk c)]∧Below t.heap.size t w):=by
 refine enter Tryz.func88 rfl 27 rfl rfl ?_;intro a d
 have f:=bz t
 refine Zs d fun _ aM=>?_;refine Zf (X0h (zs:=[vi c.n,.slice Ac c.gs.length cc]) rfl rfl) ?_;rintro _ w1 ⟨b3,rfl,aN,A,y⟩;have aU:=Q0 f.size aN;have f:=btr f A;refine Za rfl<|Za rfl<|ZX aM fun a d _ aO=>?_;refine Zs d fun _ aP=>?_;refine Ze (Vn X3a y)<|Zf (Vc (F55 _ c Ac cc (o.below' f).top aL) Xox) ?_;rintro _ w2 ⟨rfl,A⟩;have y:=y.below A;have f:=btr f A;refine Ze (X0y rfl)<|Zt aP fun a d=>?_
 refine Xh d rfl (fun q=>?_) (fun q=>?_)
 ·have aB:=q
  have aQ:cOk c=false:=by revert q;cases cOk c<;>simp
  refine Zs d fun _ aR=>?_;refine Za rfl<|Za rfl<|Zt aR fun a d=>?_;refine Q6<|X7<|X5 d (X1o d rfl rfl rfl) ?_;exact ⟨by rw [aQ];rfl,f⟩
 have aB:=q
 have hc:cOk c=true:=by revert q;cases cOk c<;>simp
 obtain ⟨aY,aZ,b0⟩:=X68 hc;refine Q7<|aO _ _<|Zs d fun _ aS=>?_;refine Za rfl<|ZX aS fun a d _ aT=>?_;refine Zs d fun _ aC=>?_;refine Ze (Vd rfl X2k 1)<|Ze (X0 rfl X5j (y.at 1))<|Ze (X0c rfl X2b)<|Zm rfl<|Zt aC fun a d=>?_;refine Q8<|X01 (σ:=Nat×Int) (fun (s:Nat×Int) (a:Act) (w:World)=>match s with|(k,z)=>Fr a 27 [(1,.func (.func kpp) #[] ppp.toArray),(6,vi z),(13,.slice Ac c.gs.length cc),(14,vi (c.gs.length:Int)),(15,vi (k:Int))]∧(k≤c.gs.length)∧(z=((((c.gs.take k).filter fun g=>pp g.k).length:Nat) : Int))∧Below t.heap.size t w) (fun (s:Nat×Int)=>match s with|(k,z)=>c.gs.length-k) (0,0) ?_ ?_
 ·exact ⟨d.sb,(Qf _),rfl,f⟩
 rintro ⟨k,z⟩ a w3 ⟨d,hk,hz,f⟩;refine Zs d fun _ aD=>?_;refine Ze (X0m rfl rfl)<|ZX aD fun a d _ aE=>?_
 refine Xh d rfl (fun e=>?_) (fun e=>?_)
 ·have a6:=e;have e:=Q2 e
  obtain ⟨i,B⟩:=X4 (l:=c.gs) (k:=k) (by omega)
  have h:=Xjk (p:=fun g=>pp g.k) B
  have aW:((c.gs.take k).filter fun g=>pp g.k).length≤k:=Q0 (List.length_filter_le _ _) (List.length_take_le _ _)
  refine Q7<|aE _ _<|Q5 fun _ C=>?_;refine Q8<|Zs d fun _ aF=>?_;refine Zi (k:=k) (u:=i) (enc:=encG) (l:=c.gs) trivial rfl rfl X2b X28 X1r (o.below' f) B rfl ?_;intro b1 a7;refine Ze (X02 (l:=[vi i.k,vi i.a,vi i.b]) rfl X2j a7 rfl)<|Zf (X00 (zs:=[vi 0,vi 0,vi 0]) X6z rfl) ?_;rintro _ w4 ⟨b2,rfl,D,A,m⟩;have a8:=Q0 f.size D;have aG:=(o.below' f).away D;have f:=btr f A;refine Zo (Vw [vi i.k,vi i.a,vi i.b] X28 m) ?_;rintro _ w5 ⟨ho,hb⟩;have aX:=m;have f:=Below.only f ho a8;have m:=hb;refine Zx aF fun a d _ aH=>?_;refine Zm rfl<|Ze (Vd rfl X1d 0)<|Ze (X0 rfl X9 (m.at 0))<|Zf (X4q (cs:=ppp) (vs:=[vi i.k]) rfl rfl Fpp (aK i.k _ f)) ?_;rintro _ w6 ⟨rfl,A⟩;have f:=btr f A;refine Zt aH fun a d=>?_
  refine Xh d rfl (fun j=>?_) (fun j=>?_)
  ·have aA:=j
   rw [Q4 j] at h
   refine Zr d<|Zm rfl<|Ze (Xu rfl rfl (by omega) (by omega))<|Za rfl ?_;refine Zn fun a d=>?_;refine Xd<|C _ _<|Zr d<|Ze (Xu rfl rfl (by omega) (by omega))<|Zm rfl ?_;refine Zn fun a d=>?_;refine Xf ?_;exact ⟨(k+1,z+1),⟨d.sb,(by omega),(by rw [h];simp only [Qh,Qs,List.length_nil];omega),f⟩,(by first|omega|(dsimp only;omega))⟩
  have aA:=j
  rw [Q3 (by rw [j];simp),List.append_nil] at h
  refine Q7<|Xd<|C _ _<|Zr d ?_;refine Ze (Xu rfl rfl (by omega) (by omega))<|Zm rfl ?_;refine Zn fun a d=>?_;refine Xf ?_;exact ⟨(k+1,z),⟨d.sb,(by omega),(by rw [h];exact hz),f⟩,(by first|omega|(dsimp only;omega))⟩
 have a6:=e;have e:=Q1 e
 have aI:z=((cntP pp c.gs:Nat) : Int):=by rw [hz,Qi (by omega)];rfl
 refine Q9<|Xk<|Xk<|X03 ?_;refine aT _ _<|Zs d fun _ aJ=>?_;refine Zm rfl<|Za rfl<|Za rfl<|Zt aJ fun a d=>?_
 refine Q6 (X5 d (X1o d rfl rfl rfl) ?_)
 exact ⟨by rw [Q4 hc,hc,aI],f⟩
end Go.Proofs.YtpifljegadknkaaGreat
namespace Go.Proofs.YtpifljegadknkaaGreat
instance:_root_.Add Rg:=⟨fun x y=>⟨x.a+y.a,x.b+y.b,x.c+y.c,x.d+y.d⟩⟩
instance:_root_.Mul Rg:=⟨fun x y=>⟨x.a*y.a-x.b*y.d-x.c*y.c-x.d*y.b,x.a*y.b+x.b*y.a-x.c*y.d-x.d*y.c,x.a*y.c+x.b*y.b+x.c*y.a-x.d*y.d,x.a*y.d+x.b*y.c+x.c*y.b+x.d*y.a⟩⟩
instance:_root_.Neg Rg:=⟨fun x=>⟨-x.a,-x.b,-x.c,-x.d⟩⟩
instance:_root_.Sub Rg:=⟨fun x y=>⟨x.a-y.a,x.b-y.b,x.c-y.c,x.d-y.d⟩⟩
instance:NatCast Rg:=⟨fun n=>⟨n,0,0,0⟩⟩
instance:IntCast Rg:=⟨fun n=>⟨n,0,0,0⟩⟩
instance (n:Nat) : OfNat Rg n:=⟨⟨n,0,0,0⟩⟩
def rgPow(x:Rg) : Nat→Rg
 | 0=>1
 | n+1=>rgPow x n*x
instance:HPow Rg Nat Rg:=⟨rgPow⟩
instance:SMul Nat Rg:=⟨fun n x=>(n:Rg)*x⟩
instance:SMul Int Rg:=⟨fun n x=>(n:Rg)*x⟩
theorem X4b{x y:Rg}(h1:x.a=y.a)(h2:x.b=y.b)(h3:x.c=y.c)(h4:x.d=y.d) : x=y:=by
 obtain ⟨x1,x2,x3,x4⟩:=x;obtain ⟨y1,y2,y3,y4⟩:=y
 simp only at h1 h2 h3 h4
 subst h1 h2 h3 h4
 rfl
theorem Xj1(x y:Rg) : (x+y).a=x.a+y.a:=rfl
theorem Xim(x y:Rg) : (x+y).b=x.b+y.b:=rfl
theorem Xie(x y:Rg) : (x+y).c=x.c+y.c:=rfl
theorem Xh1(x y:Rg) : (x+y).d=x.d+y.d:=rfl
theorem X98(x y:Rg) : (x*y).a=x.a*y.a-x.b*y.d-x.c*y.c-x.d*y.b:=rfl
theorem X97(x y:Rg) : (x*y).b=x.a*y.b+x.b*y.a-x.c*y.d-x.d*y.c:=rfl
theorem X8v(x y:Rg) : (x*y).c=x.a*y.c+x.b*y.b+x.c*y.a-x.d*y.d:=rfl
theorem X96(x y:Rg) : (x*y).d=x.a*y.d+x.b*y.c+x.c*y.b+x.d*y.a:=rfl
theorem X2y(a:Rg) : a+0=a:=X4b (Int.add_zero _) (Int.add_zero _) (Int.add_zero _) (Int.add_zero _)
theorem X2r(a:Rg) : a*1=a:=by
 have e1:(1:Rg).a=1:=rfl
 have e2:(1:Rg).b=0:=rfl
 have e3:(1:Rg).c=0:=rfl
 have e4:(1:Rg).d=0:=rfl
 apply X4b<;>simp only [X98,X97,X8v,X96,e1,e2,e3,e4]<;>grind
theorem X2z(a:Rg) : 0*a=0:=by
 have e1:(0:Rg).a=0:=rfl
 have e2:(0:Rg).b=0:=rfl
 have e3:(0:Rg).c=0:=rfl
 have e4:(0:Rg).d=0:=rfl
 apply X4b<;>simp only [X98,X97,X8v,X96,e1,e2,e3,e4]<;>grind
theorem X1a(a b:Rg) : a*b=b*a:=by (apply X4b<;>simp only [Xj1,Xim,Xie,Xh1,X98,X97,X8v,X96]<;>grind)
theorem X3g(a b c:Rg) : a*(b+c)=a*b+a*c:=by (apply X4b<;>simp only [Xj1,Xim,Xie,Xh1,X98,X97,X8v,X96]<;>grind)
theorem X2e(a b:Rg) : a+b=b+a:=X4b (Int.add_comm _ _) (Int.add_comm _ _) (Int.add_comm _ _) (Int.add_comm _ _)
theorem X25(a b c:Rg) : a+b+c=a+(b+c):=X4b (Int.add_assoc _ _ _) (Int.add_assoc _ _ _) (Int.add_assoc _ _ _) (Int.add_assoc _ _ _)
theorem X14(a b c:Rg) : a*b*c=a*(b*c):=by (apply X4b<;>simp only [Xj1,Xim,Xie,Xh1,X98,X97,X8v,X96]<;>grind)
theorem X2d(a:Rg) : 1*a=a:=by rw [X1a,X2r]
theorem X3m(a:Rg) : a*0=0:=by rw [X1a,X2z]
theorem X3o(a:Rg) : 0+a=a:=by rw [X2e,X2y]
theorem X48(a b c:Rg) : (a+b)*c=a*c+b*c:=by rw [X1a,X3g,X1a c a,X1a c b]
theorem X27(a b c:Rg) : a*(b*c)=b*(a*c):=by rw [← X14,← X14,X1a a b]
theorem X22(a b c:Rg) : a+(b+c)=b+(a+c):=by rw [← X25,← X25,X2e a b]
def s2:Rg:=⟨0,1,0,-1⟩
def om:Rg:=⟨0,1,0,0⟩
theorem Xvk:s2*s2=2:=by decide
theorem Xcd{x y:Rg}(h:2*x=2*y) : x=y:=by
 have e1:(2:Rg).a=2:=rfl
 have e2:(2:Rg).b=0:=rfl
 have e3:(2:Rg).c=0:=rfl
 have e4:(2:Rg).d=0:=rfl
 have h1:=congrArg Rg.a h;have h2:=congrArg Rg.b h;have h3:=congrArg Rg.c h;have h4:=congrArg Rg.d h
 simp only [X98,X97,X8v,X96,e1,e2,e3,e4] at h1 h2 h3 h4
 apply X4b<;>omega
theorem Xfu{x y:Rg}(h:s2*x=s2*y) : x=y:=by
 apply Xcd
 rw [← Xvk,X14,X14,h]
theorem X5i:∀ (m:Nat) {x y:Rg},s2^m*x=s2^m*y→x=y
 | 0,x,y,h=>by
  have e:s2^0=1:=rfl
  rwa [e,X2d,X2d] at h
 | m+1,x,y,h=>by
  have e:s2^(m+1)=s2^m*s2:=rfl
  rw [e] at h
  refine Xfu (X5i m ?_)
  rw [← X14,← X14]
  exact h
theorem Xc3(x:Rg)(m n:Nat) : x^(m+n)=x^m*x^n:=by
 induction n with
 | zero=>show _=_*(1:Rg);rw [X2r];rfl
 | succ n ih=>
  have e1:x^(m+(n+1))=x^(m+n)*x:=rfl
  have e2:x^(n+1)=x^n*x:=rfl
  rw [e1,e2,ih]
  exact X14 _ _ _
theorem Xuy(x:Rg) : x^0=1:=rfl
def V(x:Dy)(m:Nat)(z:Rg) : Prop:=0≤x.exp∧∃ k:Nat,x.exp+k=m∧z=s2^k*x.num
theorem V.up{x:Dy}{m:Nat}{z:Rg}(h:V x m z)(k:Nat) : V x (m+k) (s2^k*z):=by
 obtain ⟨h0,j,h1,h2⟩:=h
 refine ⟨h0,j+k,by omega,?_⟩
 rw [Xc3,h2]
 simp only [X2z,X3m,X2d,X2r,X2y,X3o,X3g,X48,X14,X27,X1a,X25,X22,X2e]
theorem V.fun{x:Dy}{m:Nat}{z z':Rg}(h:V x m z)(h':V x m z') : z=z':=by
 obtain ⟨_,k,h1,h2⟩:=h;obtain ⟨_,j,h3,h4⟩:=h'
 obtain rfl:j=k:=by omega
 rw [h2,h4]
theorem V.cross{x:Dy}{m m':Nat}{z z':Rg}(h:V x m z)(h':V x m' z') : s2^m'*z=s2^m*z':=by
 have e1:=h.up m'
 have e2:=h'.up m
 rw [Nat.add_comm m' m] at e2
 exact e1.fun e2
abbrev St:=(Nat→Bool)→Rg
def flipB(β:Nat→Bool)(q:Nat) : Nat→Bool:=fun p=>if p=q then !β p else β p
def u1(k:Int)(x y:Bool) : Rg:=
 if k=1 then (if x&&y then -1 else 1) else if k=2 then (if x=y then 0 else 1) else if k=3 then (if x=y then 0 else if y then om^6 else om^2)
 else if x=y then (if x then om^(turnOf k).toNat else 1) else 0
def act(g:Gt)(v:St) : St:=fun β=>
 if g.k=12 then om*v β
 else if g.k=9 then v (if β g.a.toNat then flipB β g.b.toNat else β)
 else if g.k=10 then (if β g.a.toNat&&β g.b.toNat then om^4 else 1)*v β
 else if g.k=11 then v (if β g.a.toNat=β g.b.toNat then β else flipB (flipB β g.a.toNat) g.b.toNat)
 else u1 g.k (β g.a.toNat) (β g.a.toNat)*v β+u1 g.k (β g.a.toNat) (!β g.a.toNat)*v (flipB β g.a.toNat)
def hN(g:Gt) : Nat:=if g.k=1 then 1 else 0
def run:List Gt→St→St
 | [],v=>v
 | g::l,v=>run l (act g v)
def hs:List Gt→Nat
 | []=>0
 | g::l=>hN g+hs l
def sumN(f:Nat→Rg) : Nat→Rg
 | 0=>0
 | n+1=>sumN f n+f n
def pt(N:Nat)(i:Nat) : Nat→Bool:=fun q=>decide (q<N)&&(bitT (N-1-q) i==1)
def chkPt:Bool:=(List.range 6).all fun n=>(List.range (2^n)).all fun i=>(List.range (2^n)).all fun j=>(i==j)||(List.range n).any fun q=>bitT (n-1-q) i != bitT (n-1-q) j
def zc(N:Nat)(g:Gt)(i k:Nat) : Rg:=
 if g.k=12 then (if i=k then om else 0)
 else if inR g.k 9 11=true then (if toS N g i=(k:Int) then om^(if czI N g i=true then 4 else 0) else 0)
 else if (i:Int)=k∨flipF N i g.a=(k:Int) then u1 g.k (bitF N i g.a==1) (bitF N k g.a==1) else 0
def eb(N j:Nat) : St:=fun β=>if ∀ q,q<N→β q=pt N j q then 1 else 0
def Low(N:Nat)(g:Gt) : Prop:=(g.k≠12→g.a.toNat<N)∧(9≤g.k∧g.k≤11→g.b.toNat<N)
def Co(N:Nat)(β γ:Nat→Bool) : Prop:=∀ q,N≤q→β q=γ q
def Dep(N:Nat)(v:St) : Prop:=∀ β γ,(∀ q,q<N→β q=γ q)→v β=v γ
def bools:List Bool:=[false,true]
def chkSur:Bool:=(List.range 6).all fun n=>bools.all fun a=>bools.all fun b=>bools.all fun c=>bools.all fun d=>bools.all fun e=>(List.range (2^n)).any fun i=>(List.range n).all fun q=>pt n i q==[a,b,c,d,e].getD q false
def put(N j:Nat)(β:Nat→Bool) : Nat→Bool:=fun q=>if q<N then pt N j q else β q
def inj(us:List Int)(β γ:Nat→Bool) : Nat→Bool:=fun p=>if (p:Int) ∈ us then γ (lastN us p us.length).toNat else β p
def Eqv(l m:List Gt) : Prop:=∃ k:Nat,∀ v β,s2^hs m*run l v β=om^k*(s2^hs l*run m v β)
theorem Eqv.refl(l:List Gt) : Eqv l l:=⟨0,fun v β=>by rw [Xuy];exact (X2d _).symm⟩
theorem Eqv.trans{l m n:List Gt}(h1:Eqv l m)(h2:Eqv m n) : Eqv l n:=by
 obtain ⟨k,h1⟩:=h1;obtain ⟨j,h2⟩:=h2
 refine ⟨k+j,fun v β=>X5i (hs m) ?_⟩
 have e1:=h1 v β
 have e2:=h2 v β
 rw [Xc3]
 rw [show s2^hs m*(s2^hs n*run l v β)=s2^hs n*(s2^hs m*run l v β) by simp only [X2z,X3m,X2d,X2r,X2y,X3o,X3g,X48,X14,X27,X1a,X25,X22,X2e],e1,show s2^hs n*(om^k*(s2^hs l*run m v β))=om^k*(s2^hs l*(s2^hs n*run m v β)) by simp only [X2z,X3m,X2d,X2r,X2y,X3o,X3g,X48,X14,X27,X1a,X25,X22,X2e],e2]
 simp only [X2z,X3m,X2d,X2r,X2y,X3o,X3g,X48,X14,X27,X1a,X25,X22,X2e]
end Go.Proofs.YtpifljegadknkaaGreat
namespace Go.Proofs.YtpifljegadknkaaGreat
open Go.RowKit
def encU(i:Int) : List Value:=[.int .u8 i]
abbrev wu(i:Int) : Int:=IntKind.u64.wrap i
section
variable {P : Program} {a : Act} {w : World} {n : Nat} {e : Env} {ty : TypeId} {pos : String} {af : Array Edge} {g : Option (Nat × Bool)} {d : Option Tmp}
variable {s t t' : TypeId} {x y : Operand} {i j : Int}
end
def bkG(g:Gt) : Gt:=⟨if g.k=5∨g.k=7 then g.k+1 else if g.k=6∨g.k=8 then g.k-1 else g.k,g.a,g.b⟩
def bkN(g:Gt) : Int:=if g.k=12 then 7 else 1
def metS(x y:Gt) : Bool:=(usedS [x]).any fun q=>(usedS [y]).any fun z=>z==q
def nextC(g:Gt) : List Gt→Nat→Nat
 | [],j=>j
 | h::l,j=>if metS g h=true then j else nextC g l (j+1)
def canJ(g:Gt)(gs:List Gt)(i:Nat) : Nat:=nextC g (gs.drop (i+1)) (i+1)
def canR(gs:List Gt)(i j:Nat) : Rp:=⟨i,(gs.take (j+1)).drop i,(gs.take j).drop (i+1)⟩
def canB(g:Gt)(gs:List Gt)(i j:Nat) : Bool:=g.k != 12&&(decide ((j:Int)<(gs.length:Int))&&(decide ((j:Int)-(i:Int)<40)&&decide (gs[j]? = some (bkG g))))
def canAt(gs:List Gt)(i:Nat) : Option Rp:=match gs[i]? with
 | none=>none
 | some g=>if canB g gs i (canJ g gs i)=true then some (canR gs i (canJ g gs i)) else none
def canF(gs:List Gt) : Nat→Option Rp
 | 0=>none
 | n+1=>match canF gs n with
  | some r=>some r
  | none=>canAt gs n
def canS(gs:List Gt) : Option Rp:=canF gs gs.length
def rpZ:Rp:=⟨0,[],[]⟩
theorem Xha(w0:World)(x:Int)(y:Int) : Ret Tryz.prog 186 [vi x,vi y] w0 (fun v w=>v=vi (min x y)∧Below w0.heap.size w0 w):=by
 refine enter Tryz.func186 rfl 10 rfl rfl ?_;intro a c
 have hW:=bz w0
 refine Zs c fun _ a7=>?_;refine Za rfl<|ZX a7 fun a c _ a8=>?_;refine Zs c fun _ aA=>?_;refine Zm rfl<|Zm rfl<|Ze (X0m rfl rfl)<|Zt aA fun a c=>?_
 refine Xh c rfl (fun b=>?_) (fun b=>?_)
 ·have a6:=b;have b:=Q2 b;refine Zs c fun _ aB=>?_;refine Zm rfl<|Za rfl<|Zt aB fun a c=>?_;refine Q6<|X7<|X5 c (Xr c rfl rfl) ?_;exact ⟨by rw [Int.min_eq_left (by omega)],hW⟩
 have a6:=b;have b:=Q1 b;refine Q7<|a8 _ _<|Zs c fun _ aC=>?_;refine Zm rfl<|Za rfl<|Zt aC fun a c=>?_
 refine Q6 (X5 c (Xr c rfl rfl) ?_)
 exact ⟨by rw [Int.min_eq_right (by omega)],hW⟩
theorem DeepR.nil(w:World)(B:Nat)(E:TypeId) : DeepR w B E []:=fun s hs=>by simp at hs
theorem DeepR.snoc{w:World}{B:Nat}{E:TypeId}{l:List Sr}{x:Sr}(h:DeepR w B E l)(h1:Rd w B E encG x.A x.old)(h2:Rd w B E encG x.B x.new) : DeepR w B E (l++[x]):=fun s hs=>by
 rcases Qu.1 hs with hs|hs
 ·exact h s hs
 ·rw [Qm] at hs
  subst hs
  exact ⟨h1,h2⟩
section
variable {P : Program} {a : Act} {w : World} {n : Nat} {e : Env} {ty : TypeId} {pos : String} {af : Array Edge} {g : Option (Nat × Bool)} {d : Option Tmp}
end
theorem Xbl(g:Gt) : ∀ (l:List Gt) (j:Nat),j≤nextC g l j
 | [],j=>Qb _
 | h::l,j=>by
  unfold nextC
  split
  ·exact Qb _
  ·exact Q0 (Nat.le_succ j) (Xbl g l (j+1))
theorem X9a{gs:List Gt}{r:Rp} : ∀ n,canF gs n=some r→∃ i,i<n∧canAt gs i=some r
 | 0,h=>by cases h
 | n+1,h=>by
  unfold canF at h
  split at h
  ·rename_i r' h1
   injection h with h
   subst h
   obtain ⟨i,h2,h3⟩:=X9a n h1;exact ⟨i,by omega,h3⟩
  ·exact ⟨n,by omega,h⟩
theorem Xg3{gs:List Gt}{r:Rp}(h:canS gs=some r) : ∃ i j g,gs[i]? = some g∧gs[j]? = some (bkG g)∧g.k≠12∧i<j∧j<gs.length∧j<i+40∧j=canJ g gs i∧r=canR gs i j:=by
 obtain ⟨i,hi,h1⟩:=X9a _ h
 unfold canAt at h1
 split at h1
 ·cases h1
 ·rename_i g hg
  split at h1
  ·rename_i hb
   injection h1 with h1
   unfold canB at hb
   simp only [Qd,bne_iff_ne,Qr] at hb
   have:=Xbl g (gs.drop (i+1)) (i+1)
   exact ⟨i,canJ g gs i,g,hg,hb.2.2.2,hb.1,by unfold canJ;omega,by omega,by omega,rfl,h1.symm⟩
  ·cases h1
theorem Xq3{n:Int}{gs:List Gt}{r:Rp}(hc:cOk ⟨n,gs⟩=true)(h:canS gs=some r) :
  ∃ d,applyS ⟨n,gs⟩ r=some d∧d.n=n∧cOk d=true∧d.gs.length+2=gs.length∧r.old.length≤41∧r.new.length≤41:=by
 obtain ⟨i,j,g,hi,hj,hk,hij,hjl,h40,_,rfl⟩:=Xg3 h;obtain ⟨hn,hl,hg⟩:=X68 hc
 dsimp only at hn hl hg
 have lo:(canR gs i j).old.length=j+1-i:=by simp [canR];omega
 have ln:(canR gs i j).new.length=j-i-1:=by simp [canR];omega
 have e2:((gs.take ((canR gs i j).pos.toNat+(canR gs i j).old.length)).drop (canR gs i j).pos.toNat)=(canR gs i j).old:=by
  rw [lo]
  show (gs.take ((i:Int).toNat+(j+1-i))).drop (i:Int).toNat=(gs.take (j+1)).drop i
  rw [Qj,show i+(j+1-i)=j+1 by omega]
 have mo:∀ x ∈ (canR gs i j).old,gOk n x=true:=fun x hx=>hg x (Wd (List.mem_of_mem_drop hx))
 have mn:∀ x ∈ (canR gs i j).new,gOk n x=true:=fun x hx=>hg x (Wd (List.mem_of_mem_drop hx))
 have hv:validS n (canR gs i j)=true:=by
  unfold validS
  simp only [Qd,X0e,Qr,Bool.not_eq_true',W7,lo,ln]
  refine ⟨⟨⟨hn,?_⟩,⟨fun x hx=>by simp [mo x hx],by omega⟩⟩,⟨fun x hx=>by simp [mn x hx],by omega⟩⟩
  show 0≤(i:Int)∧(i:Int)≤400
  omega
 have hf:fitS ⟨n,gs⟩ (canR gs i j)=true:=by
  unfold fitS
  rw [hv,lo,ln]
  simp only [Qw,Qd,Qr]
  constructor
  ·show (i:Int)+((j+1-i:Nat) : Int)≤(gs.length:Int)
   omega
  ·omega
 have ha:=Xax hf e2;have hk2:=(Xj9 hc).2 _ ha
 refine ⟨_,ha,hk2.2.1,hk2.1,?_,by omega,by omega⟩
 show (gs.take (canR gs i j).pos.toNat++(canR gs i j).new++gs.drop ((canR gs i j).pos.toNat+(canR gs i j).old.length)).length+2=_
 rw [Qh,Qh,ln,lo,Qn,List.length_drop]
 show min (i:Int).toNat gs.length+(j-i-1)+(gs.length-((i:Int).toNat+(j+1-i)))+2=gs.length
 rw [Qj]
 omega
def canRun(n:Int) : Nat→List Gt→List Rp×Cx
 | 0,gs=>([],⟨n,gs⟩)
 | k+1,gs=>match canS gs with
  | none=>([],⟨n,gs⟩)
  | some r=>(r::(canRun n k ((applyS ⟨n,gs⟩ r).getD cZ).gs).1,(canRun n k ((applyS ⟨n,gs⟩ r).getD cZ).gs).2)
def canC(c:Cx) : Cx×List Rp×Cx:=if cOk c=true then (c,canRun c.n c.gs.length c.gs) else (cZ,[],cZ)
theorem Xb2{n:Int}{gs:List Gt}(h:canS gs=none) : ∀ k,canRun n k gs=([],⟨n,gs⟩)
 | 0=>rfl
 | k+1=>by unfold canRun;rw [h]
theorem Xbe{n:Int}{gs:List Gt}{r:Rp}(h:canS gs=some r)(k:Nat) : canRun n (k+1) gs=(r::(canRun n k ((applyS ⟨n,gs⟩ r).getD cZ).gs).1,(canRun n k ((applyS ⟨n,gs⟩ r).getD cZ).gs).2):=by
 conv=>lhs;unfold canRun
 rw [h]
structure CanI (c:Cx) (l:List Sr) (d:Cx) (k:Nat) : Prop where
 run:canRun c.n c.gs.length c.gs=(l.map Sr.rp++(canRun c.n k d.gs).1,(canRun c.n k d.gs).2)
 ok:cOk d=true
 n:d.n=c.n
 le:d.gs.length≤k
 len:l.length+d.gs.length≤c.gs.length
 small:∀ s ∈ l,s.old.length≤41∧s.new.length≤41
theorem CanI.start{c:Cx}(h:cOk c=true) : CanI c [] c c.gs.length:=⟨rfl,h,rfl,Qb _,by simp,fun s hs=>by simp at hs⟩
theorem CanI.next{c d:Cx}{l:List Sr}{k:Nat}(h:CanI c l d k){r:Rp}(hr:canS d.gs=some r){s:Sr}(hs:s.rp=r) : ∃ k',k=k'+1∧CanI c (l++[s]) ((applyS d r).getD cZ) k':=by
 have hd:d=⟨c.n,d.gs⟩:=by cases d;have:=h.n;simp only at this;rw [this]
 have hok:=h.ok
 rw [hd] at hok
 obtain ⟨e,he,e1,e2,e3,e4,e5⟩:=Xq3 hok hr;have hle:=h.le
 obtain ⟨k',rfl⟩ : ∃ k',k=k'+1:=⟨k-1,by omega⟩
 have hd2:applyS d r=some e:=by rw [hd];exact he
 refine ⟨k',rfl,?_⟩
 rw [hd2,Qq]
 have hrun:=h.run
 rw [Xbe hr k',he,Qq] at hrun
 refine ⟨?_,e2,e1,by omega,by have:=h.len;simp;omega,fun x hx=>?_⟩
 ·rw [hrun,List.map_append,Qx]
  simp [hs]
 ·rcases Qu.1 hx with hx|hx
  ·exact h.small x hx
  ·rw [Qm] at hx
   subst hx
   subst hs
   exact ⟨e4,e5⟩
theorem CanI.done{c d:Cx}{l:List Sr}{k:Nat}(h:CanI c l d k)(hc:cOk c=true)(hn:canS d.gs=none) : canC c=(c,l.map Sr.rp,d):=by
 unfold canC
 rw [Q4 hc,h.run,Xb2 hn k,List.append_nil]
 have:=h.n
 cases d
 simp only at this
 rw [this]
theorem DeepR.drop{w:World}{B:Nat}{E:TypeId}{l:List Sr}(h:DeepR w B E l)(k:Nat) : DeepR w B E (l.drop k):=fun s hs=>h s (List.mem_of_mem_drop hs)
section
variable {P : Program} {a : Act} {w : World} {n : Nat} {e : Env} {ty : TypeId} {pos : String} {af : Array Edge} {g : Option (Nat × Bool)} {d : Option Tmp}
variable {t t' : TypeId} {x y : Operand} {i j k : Int}
end
def isTk(k:Int) : Bool:=k==7||k==8
def tcN(l:List Gt) : Nat:=l.countP fun g=>isTk g.k
section
variable {P : Program} {a : Act} {w : World} {n : Nat} {e : Env} {ty : TypeId} {pos : String} {af : Array Edge} {g : Option (Nat × Bool)} {d : Option Tmp}
end
theorem Xuh(w0:World)(k:Int) : Ret Tryz.prog 89 [vi k] w0 (fun v w=>v=.bool (isTk k)∧Below w0.heap.size w0 w):=by
 refine enter Tryz.func89 rfl 9 rfl rfl ?_;intro a c
 have hW:=bz w0
 refine Zs c fun _ a6=>?_;refine Za rfl<|ZX a6 fun a c _ a7=>?_;refine X09 (fun a w=>Fr a 9 [(2,.bool ((k==7)||(k==8)))]∧w0=w) ?_ ?_
 ·refine Zr c<|Zm rfl<|Ze (X0a rfl rfl)<|Zm rfl ?_
  refine Zg 5 rfl (fun b=>?_) (fun b=>?_)
  ·refine Zp (gP b) ?_;refine Zp (gP b) ?_;refine Ze (X8 rfl b rfl)<|Za rfl ?_;refine Zn fun a c=>?_;exact ⟨c.sub ⟨X1 rfl (by first|rfl|(simp only [b,bs];done)|simp [b]),trivial⟩,rfl⟩
  refine Zv (gW b) (X3 rfl) ?_;refine Zv (gW b) (X0a rfl rfl) ?_;refine Ze (Xe rfl b rfl)<|Za rfl ?_;refine Zn fun a c=>?_;exact ⟨c.sub ⟨X1 rfl (by first|rfl|(simp only [b,bs];done)|simp [b]),trivial⟩,rfl⟩
 rintro a _ ⟨c,rfl⟩;refine a7 _ _ ?_
 refine Q6 (X5 c (Xr c rfl rfl) ?_)
 exact ⟨rfl,hW⟩
end Go.Proofs.YtpifljegadknkaaGreat
namespace Go.Proofs.YtpifljegadknkaaGreat
def xb(β m:Nat→Bool) : Nat→Bool:=fun p=>β p != m p
def msk(g:Gt)(β:Nat→Bool) : Nat→Bool:=fun p=>
 if g.k=9 then decide (p=g.b.toNat)&&β g.a.toNat
 else if g.k=11 then (decide (p=g.a.toNat)||decide (p=g.b.toNat))&&(β g.a.toNat != β g.b.toNat)
 else false
def oneK(k:Int) : Bool:=decide (k≠12∧¬ (9≤k∧k≤11))
def flp(g:Gt) : Nat→Bool:=fun p=>oneK g.k&&decide (p=g.a.toNat)
def c0(g:Gt)(β:Nat→Bool) : Rg:=
 if g.k=12 then om else if g.k=9 then 1 else if g.k=10 then (if β g.a.toNat&&β g.b.toNat then om^4 else 1) else if g.k=11 then 1 else u1 g.k (β g.a.toNat) (β g.a.toNat)
def c1(g:Gt)(β:Nat→Bool) : Rg:=if oneK g.k=true then u1 g.k (β g.a.toNat) (!β g.a.toNat) else 0
def TwoQ(g:Gt) : Prop:=9≤g.k∧g.k≤11→g.a.toNat≠g.b.toNat
def Sup(g:Gt)(q:Nat) : Prop:=(g.k≠12∧q=g.a.toNat)∨((9≤g.k∧g.k≤11)∧q=g.b.toNat)
def Dis(g h:Gt) : Prop:=∀ q,Sup g q→¬ Sup h q
theorem Dis.symm{g h:Gt}(hd:Dis g h) : Dis h g:=fun q h1 h2=>hd q h2 h1
def bkK(k:Int) : Int:=if k=5∨k=7 then k+1 else if k=6∨k=8 then k-1 else k
def qN(z:Rg) : Int:=z.a*z.a+z.b*z.b+z.c*z.c+z.d*z.d
def Cb(K:Int)(z:Rg) : Prop:=(-K≤z.a∧z.a≤K)∧(-K≤z.b∧z.b≤K)∧(-K≤z.c∧z.c≤K)∧(-K≤z.d∧z.d≤K)
def BB:Int:=1000000000000000000
def Un(z:Rg) : Prop:=z=0∨∃ j:Nat,z=om^j
end Go.Proofs.YtpifljegadknkaaGreat
namespace Go.Proofs.YtpifljegadknkaaGreat
open Go.RowKit
section
variable {α : Type} {P : Program} {a : Act} {w : World} {n : Nat} {e : Env} {ty : TypeId} {pos : String} {af : Array Edge} {g : Option (Nat × Bool)} {d : Option Tmp}
end
def mxq(best:List Int)(qs:List Int)(d:Int) : Int:=qs.foldl (fun d q=>max d (best.getD q.toNat 0)) d
def mxq1(best:List Int)(qs:List Int)(d:Int) : Int:=qs.foldl (fun d q=>max d (best.getD q.toNat 0+1)) d
def setq(best:List Int)(qs:List Int)(d:Int) : List Int:=qs.foldl (fun b q=>b.set q.toNat d) best
def isTi(k:Int) : Int:=if isTk k=true then 1 else 0
def tdStep(s:List Int×Int)(g:Gt) : List Int×Int:=(setq s.1 (qubI g) (mxq s.1 (qubI g) 0+isTi g.k),max s.2 (mxq s.1 (qubI g) 0+isTi g.k))
def laStep(s:List Int×List Int)(g:Gt) : List Int×List Int:=(setq s.1 (qubI g) (mxq1 s.1 (qubI g) 0),s.2++[mxq1 s.1 (qubI g) 0])
def five0:List Int:=[0,0,0,0,0]
def tdI(gs:List Gt) : Int:=(gs.foldl tdStep (five0,0)).2
def lyI(gs:List Gt) : List Int:=(gs.foldl laStep (five0,[])).2
def cmx(gs:List Gt)(g:Gt)(m:List Int) : Nat→Int
 | 0=>0
 | j+1=>if comS g (gs.getD j gZ)=true then max (cmx gs g m j) (m.getD j 0) else cmx gs g m j
def notW(k:Int) : Int:=if (k != 12)=true then 1 else 0
def lyS(gs:List Gt) : Nat→List Int
 | 0=>[]
 | i+1=>lyS gs i++[cmx gs (gs.getD i gZ) (lyS gs i) i+notW (gs.getD i gZ).k]
def tdS(gs:List Gt) : Nat→List Int×Int
 | 0=>([],0)
 | i+1=>((tdS gs i).1++[cmx gs (gs.getD i gZ) (tdS gs i).1 i+isTi (gs.getD i gZ).k],max (tdS gs i).2 (cmx gs (gs.getD i gZ) (tdS gs i).1 i+isTi (gs.getD i gZ).k))
theorem Xba(d:Int) : ∀ (qs best:List Int),(setq best qs d).length=best.length
 | [],_=>rfl
 | q::qs,best=>by
  show (setq (best.set q.toNat d) qs d).length=_
  rw [Xba d qs,List.length_set]
theorem Xcy(best:List Int)(v:Int) : ∀ (qs:List Int) (d:Int),mxq best qs d≤v↔d≤v∧∀ q ∈ qs,best.getD q.toNat 0≤v
 | [],d=>by simp [mxq]
 | q::qs,d=>by
  show mxq best qs (max d (best.getD q.toNat 0))≤v↔_
  rw [Xcy best v qs,Int.max_le]
  simp only [Qv,forall_eq_or_imp,and_assoc]
theorem Xjg(gs:List Gt)(g:Gt)(m:List Int)(v:Int) : ∀ i,cmx gs g m i≤v↔0≤v∧∀ j,j<i→comS g (gs.getD j gZ)=true→m.getD j 0≤v
 | 0=>by simp [cmx]
 | i+1=>by
  unfold cmx
  have ih:=Xjg gs g m v i
  by_cases hc:comS g (gs.getD i gZ)=true
  ·rw [Q4 hc,Int.max_le,ih]
   constructor
   ·rintro ⟨⟨h1,h2⟩,h3⟩
    refine ⟨h1,fun j hj hcj=>?_⟩
    by_cases e:j=i
    ·rw [e];exact h3
    ·exact h2 j (by omega) hcj
   ·rintro ⟨h1,h2⟩;exact ⟨⟨h1,fun j hj=>h2 j (by omega)⟩,h2 i (by omega) hc⟩
  ·rw [Q3 hc,ih]
   constructor
   ·rintro ⟨h1,h2⟩
    refine ⟨h1,fun j hj hcj=>?_⟩
    by_cases e:j=i
    ·rw [e] at hcj;exact absurd hcj hc
    ·exact h2 j (by omega) hcj
   ·rintro ⟨h1,h2⟩;exact ⟨h1,fun j hj=>h2 j (by omega)⟩
theorem X84{d:Int} : ∀ (qs best:List Int) {p:Nat},(∀ q ∈ qs,0≤q∧q≤4)→best.length=5→p<5→(setq best qs d).getD p 0=if (p:Int) ∈ qs then d else best.getD p 0
 | [],best,p,_,_,_=>by simp [setq]
 | q::qs,best,p,hq,hl,hp=>by
  show (setq (best.set q.toNat d) qs d).getD p 0=_
  rw [X84 qs _ (fun x hx=>hq x (by simp [hx])) (by rw [List.length_set];exact hl) hp]
  have hq0:=hq q (by simp)
  by_cases h1:(p:Int) ∈ qs
  ·rw [Q4 h1,Q4 (by simp [h1])]
  ·rw [Q3 h1]
   by_cases h2:(p:Int)=q
   ·rw [Q4 (by simp [h2]),Qa,show q.toNat=p by omega,List.getElem?_set_self (by omega)];rfl
   ·rw [Q3 (by simp [h1,h2]),Qa,List.getElem?_set_ne (by omega),Qa]
theorem Xmr{x y:Int}(h:∀ v,x≤v↔y≤v) : x=y:=by
 have h1:=(h x).1 (Int.le_refl _);have h2:=(h y).2 (Int.le_refl _)
 omega
structure DInv (gs:List Gt) (i:Nat) (best m:List Int) : Prop where
 len:best.length=5
 mlen:m.length=i
 le:∀ p,p<5→∀ v,0≤v→(best.getD p 0≤v↔∀ j,j<i→(p:Int) ∈ qubI (gs.getD j gZ)→m.getD j 0≤v)
 nn:∀ p,p<5→0≤best.getD p 0
theorem DInv.start(gs:List Gt) : DInv gs 0 five0 []:=⟨rfl,rfl,fun p hp v hv=>by
 have:p=0∨p=1∨p=2∨p=3∨p=4:=by omega
 constructor
 ·intro _ j hj;omega
 ·intro _;rcases this with rfl|rfl|rfl|rfl|rfl<;>exact hv,fun p hp=>by
 have:p=0∨p=1∨p=2∨p=3∨p=4:=by omega
 rcases this with rfl|rfl|rfl|rfl|rfl<;>exact Int.le_refl _⟩
theorem DInv.eq{gs:List Gt}{i:Nat}{best m:List Int}(h:DInv gs i best m){g:Gt}(hq:∀ x ∈ qubI g,0≤x∧x≤4) : mxq best (qubI g) 0=cmx gs g m i:=by
 refine Xmr fun v=>?_
 rw [Xcy,Xjg]
 constructor
 ·rintro ⟨h0,h1⟩
  refine ⟨h0,fun j hj hc=>?_⟩
  rw [Xjc] at hc
  obtain ⟨x,x1,x2⟩:=X9w.1 hc;have hb:=hq x x2
  have:=(h.le x.toNat (by omega) v h0).1 (h1 x x2) j hj
  rw [show ((x.toNat:Nat) : Int)=x by omega] at this
  exact this x1
 ·rintro ⟨h0,h1⟩
  refine ⟨h0,fun q hqm=>(h.le q.toNat (by have:=hq q hqm;omega) v h0).2 fun j hj hp=>h1 j hj ?_⟩
  rw [show ((q.toNat:Nat) : Int)=q by have:=hq q hqm;omega] at hp
  rw [Xjc]
  exact X9w.2 ⟨q,hp,hqm⟩
theorem DInv.next{gs:List Gt}{i:Nat}{best m:List Int}(h:DInv gs i best m){g:Gt}(hg:gs.getD i gZ=g)(hq:∀ x ∈ qubI g,0≤x∧x≤4){d:Int}(hd:mxq best (qubI g) 0≤d) : DInv gs (i+1) (setq best (qubI g) d) (m++[d]):=by
 obtain ⟨d0,dq⟩:=(Xcy best d (qubI g) 0).1 hd
 have em:∀ j,j<i→(m++[d]).getD j 0=m.getD j 0:=fun j hj=>by
  rw [Qa,List.getElem?_append_left (by rw [h.mlen];exact hj),Qa]
 have ed:(m++[d]).getD i 0=d:=by
  rw [Qa,W5 (by rw [h.mlen];omega),h.mlen,Nat.sub_self];rfl
 refine ⟨by rw [Xba,h.len],by simp [h.mlen],fun p hp v hv=>?_,fun p hp=>?_⟩
 ·rw [X84 _ _ hq h.len hp]
  have hle:=h.le p hp v hv
  split
  ·rename_i hpg
   constructor
   ·intro hdv j hj hpj
    by_cases e:j=i
    ·rw [e,ed];exact hdv
    ·rw [em j (by omega)]
     have hb:=dq _ hpg
     rw [Qj] at hb
     exact hle.1 (by omega) j (by omega) hpj
   ·intro hall
    have:=hall i (by omega) (by rw [hg];exact hpg)
    rwa [ed] at this
  ·rename_i hpg
   rw [hle]
   constructor
   ·intro hall j hj hpj
    by_cases e:j=i
    ·rw [e,hg] at hpj;exact absurd hpj hpg
    ·rw [em j (by omega)];exact hall j (by omega) hpj
   ·intro hall j hj hpj
    have:=hall j (by omega) hpj
    rwa [em j hj] at this
 ·rw [X84 _ _ hq h.len hp]
  split
  ·exact d0
  ·exact h.nn p hp
end Go.Proofs.YtpifljegadknkaaGreat
namespace Go.Proofs.YtpifljegadknkaaGreat
end Go.Proofs.YtpifljegadknkaaGreat
namespace Go.Proofs.YtpifljegadknkaaGreat
open Go.RowKit
def tdC(c:Cx) : Int:=if cOk c=true then tdI c.gs else 0
def tdD(c:Cx) : Int:=if cOk c=true then (tdS c.gs c.gs.length).2 else 0
def Bd5(best:List Int)(K:Int) : Prop:=best.length=5∧∀ p,p<5→0≤best.getD p 0∧best.getD p 0≤K
theorem Bd5.start:Bd5 [0,0,0,0,0] ((0:Nat) : Int):=⟨rfl,fun p hp=>by
 have:p=0∨p=1∨p=2∨p=3∨p=4:=by omega
 rcases this with rfl|rfl|rfl|rfl|rfl<;>exact ⟨Int.le_refl _,Int.le_refl _⟩⟩
theorem Bd5.at{best:List Int}{K:Int}(h:Bd5 best K){q:Int}(hq:0≤q∧q≤4) : 0≤best.getD q.toNat 0∧best.getD q.toNat 0≤K:=h.2 _ (by omega)
end Go.Proofs.YtpifljegadknkaaGreat
namespace Go.Proofs.YtpifljegadknkaaGreat
def cnC(c:Cx) : Int:=if cOk c=true then ((cntP isTk c.gs:Nat) : Int) else 0
end Go.Proofs.YtpifljegadknkaaGreat
namespace Go.Proofs.YtpifljegadknkaaGreat
open Go.RowKit
theorem Xsq(w0:World)(c:Cx)(Ac:Option Addr)(cc:Nat)(a6:Rd w0 w0.heap.size 123 encG Ac c.gs)(a7:c.gs.length≤2305843009213693951) : Ret Tryz.prog 42 [.agg #[vi c.n,.slice Ac c.gs.length cc]] w0 (fun v w=>v=.tuple #[vi (cnC c),.bool (cOk c)]∧Below w0.heap.size w0 w):=by
 refine enter Tryz.func42 rfl 8 rfl rfl ?_;intro a hf
 have hW:=bz w0
 refine Zs hf fun _ a8=>?_;refine Zf (X0h (zs:=[vi c.n,.slice Ac c.gs.length cc]) rfl rfl) ?_;rintro _ w1 ⟨b3,rfl,aA,hE,aB⟩;have aD:=Q0 hW.size aA;have hW:=btr hW hE;refine Za rfl<|Za rfl<|Zx a8 fun a hf _ aC=>?_;refine Ze (Vn X3a aB)<|Zf (Vc (Xu9 _ c Ac cc (a6.below' hW).top 89 [] Xkr isTk (fun x w' hE'=>Xuh w' x) a7) Xlo) ?_;rintro _ w2 ⟨rfl,hE⟩;have hW:=btr hW hE;refine Ze (Xs (vs:=[vi (if cOk c=true then ((cntP isTk c.gs:Nat) : Int) else 0),.bool (cOk c)]) rfl rfl)<|Ze (Xs (vs:=[vi (if cOk c=true then ((cntP isTk c.gs:Nat) : Int) else 0),.bool (cOk c)]) rfl rfl)<|Za rfl<|Za rfl<|Zt aC fun a hf=>?_
 refine Q6 (X5 hf (X1o hf rfl rfl rfl) ?_)
 exact ⟨rfl,hW⟩
abbrev En:=Int×Int×Nat
def findI(l:List En)(x:Int) : Option Int:=(l.find? fun p=>p.1==x).map fun p=>p.2.1
structure Pw (l:List En) (clock:Nat) : Prop where
 keys:(l.map fun p=>p.1).Nodup
 borns:(l.map fun p=>p.2.2).Nodup
 old:∀ p ∈ l,p.2.2<clock
def MapF(w:World)(b:Nat)(f:Int→Int) : Prop:=∃ l clock,MapI w b l clock∧Pw l clock∧∀ x,(findI l x).getD 0=f x
def upd(f:Int→Int)(m v:Int) : Int→Int:=fun x=>if x=m then v else f x
section
variable {w w' : World} {b b' : Nat} {f : Int → Int}
theorem MapI.lt{clock:Nat}{l:List En}(h:MapI w b l clock) : b<w.heap.size:=by
 rcases W4 b w.heap.size with h'|h'
 ·exact h'
 ·simp [MapI,We h'] at h
theorem MapF.lt(h:MapF w b f) : b<w.heap.size:=let ⟨_,_,h,_⟩:=h;h.lt
theorem MapF.below(h:MapF w b f)(hb:Below w.heap.size w w') : MapF w' b f:=let ⟨l,c,h,g⟩:=h;⟨l,c,h.below hb,g⟩
theorem MapF.only(h:MapF w b f)(ho:Only b' w w')(hne:b≠b') : MapF w' b f:=let ⟨l,c,h,g⟩:=h;⟨l,c,h.only ho hne,g⟩
theorem MapF.ne{T:TypeId}{cs:List Value}(h:MapF w b f)(hb:Blk w b' T cs) : b≠b':=let ⟨_,_,h,_⟩:=h;h.ne hb
end
theorem Pw.push{l:List En}{clock:Nat}(h:Pw l clock){x v:Int}(hx:∀ q ∈ l,q.1≠x) : Pw (l++[(x,v,clock)]) (clock+1):=by
 refine ⟨?_,?_,fun p hp=>?_⟩
 ·rw [List.map_append,List.nodup_append]
  refine ⟨h.keys,by simp,fun a ha b hb=>?_⟩
  obtain ⟨q,hq,rfl⟩:=W6.1 ha
  simp at hb
  rw [hb]
  exact hx q hq
 ·rw [List.map_append,List.nodup_append]
  refine ⟨h.borns,by simp,fun a ha b hb=>?_⟩
  obtain ⟨q,hq,rfl⟩:=W6.1 ha
  simp at hb
  have:=h.old q hq
  omega
 ·rcases Qu.1 hp with hp|hp
  ·have:=h.old p hp;omega
  ·rw [Qm.1 hp];exact Nat.lt_succ_self _
theorem Pw.drop{l1 l2:List En}{p:En}{clock:Nat}(h:Pw (l1++p::l2) clock) : Pw (l1++l2) clock:=by
 have hs:(l1++l2).Sublist (l1++p::l2):=List.Sublist.append (List.Sublist.refl _) (List.sublist_cons_self _ _)
 exact ⟨h.keys.sublist (hs.map _),h.borns.sublist (hs.map _),fun q hq=>h.old q (hs.subset hq)⟩
theorem Pw.other{l1 l2:List En}{p:En}{clock:Nat}(h:Pw (l1++p::l2) clock) : ∀ q ∈ l2,q.1≠p.1:=by
 have:=h.keys
 rw [List.map_append,List.nodup_append] at this
 have h2:=this.2.1
 rw [List.map_cons,List.nodup_cons] at h2
 intro q hq e;exact h2.1 (W6.2 ⟨q,hq,e⟩)
def NC(w:World)(b:Nat) : Prop:=∀ l T fz,w.heap[b]?≠some (.cells l T fz)
theorem MapF.nc{w:World}{b:Nat}{f:Int→Int}(h:MapF w b f) : NC w b:=fun l T fz e=>by
 obtain ⟨_,_,h,_⟩:=h
 unfold MapI at h
 rw [h] at e;cases e
section
variable {α : Type} {w w' : World} {b B : Nat} {E : TypeId} {enc : α → List Value} {A : Option Addr} {l : List α}
theorem NC.ne{b':Nat}{T:TypeId}{cs:List Value}(h:NC w b)(hb:Blk w b' T cs) : b≠b':=by
 rintro rfl;exact h _ _ _ hb
theorem Blk.onlyN{b':Nat}{T:TypeId}{cs:List Value}(h:Blk w b' T cs)(ho:Only b w w')(hm:NC w b) : Blk w' b' T cs:=h.only ho (Ne.symm (hm.ne h))
theorem Rd.onlyN(h:Rd w B E enc A l)(ho:Only b w w')(hm:NC w b) : Rd w' B E enc A l:=h.chg fun k cs fz _ hk=>ho.block k fun e=>by
 rw [e] at hk;exact hm _ _ _ hk
theorem Own.onlyN{sz c:Nat}(h:Own w B E sz enc A c l)(ho:Only b w w')(hm:NC w b) : Own w' B E sz enc A c l:=by
 refine ⟨h.1,?_⟩
 rcases h.2 with k1|⟨g,cap,cur,k1,k2,k3,k4⟩
 ·exact .inl k1
 ·refine .inr ⟨g,cap,cur,k1,k2,(ho.block g fun e=>?_).trans k3,k4⟩
  rw [e] at k3;exact hm _ _ _ k3
theorem NC.app{sz n c c' b0:Nat}(h:NC w b0)(hlt:b0<w.heap.size)(ho:Own w B E sz enc A c l)(hg:w.grownBy w' (Value.slice A n c').ownBlock) : w'.heap[b0]? = w.heap[b0]?:=by
 refine hg.block b0 hlt fun hk=>?_
 rw [X74 A n l.length c' c] at hk
 obtain ⟨_,_,cs,fz,h3⟩:=ho.block hk.symm;exact h _ _ _ h3
theorem MapF.app{sz n c c':Nat}{f:Int→Int}(h:MapF w b f)(ho:Own w B E sz enc A c l)(hg:w.grownBy w' (Value.slice A n c').ownBlock) : MapF w' b f:=by
 have e:=h.nc.app h.lt ho hg
 obtain ⟨l2,cl,hL,hg2⟩:=h;exact ⟨l2,cl,e.trans hL,hg2⟩
end
section
variable {a : Act} {w : World} {n : Nat} {e : Env} {ty : TypeId} {pos : String} {af : Array Edge} {g : Option (Nat × Bool)} {d : Option Tmp} {b : Nat} {f : Int → Int} {T : TypeId}
theorem Xcz{f:Int→Int}{m v x:Int}(h:x≠m) : upd f m v x=f x:=Q3 h
theorem Xp0{f:Int→Int}{m v:Int} : upd f m v m=v:=Q4 rfl
end
def MapR(w:World)(b r:Nat)(f:Int→Int)(left:Int→Bool)(cnt:Nat) : Prop:=∃ l clock since seen c0,MapI w b l clock∧Pw l clock∧(∀ x,(findI l x).getD 0=f x)∧
 w.heap[r]? = some (.mapIter (some b) since seen c0)∧(∀ p ∈ l,p.2.2<since)∧since≤c0∧since≤clock∧(leftOf (l.map entI).toArray seen).size=cnt∧
 (∀ p ∈ l,left p.1 = !seen.contains p.2.2)∧(∀ x,left x=true→∃ p ∈ l,p.1=x)
section
variable {w w' : World} {b r : Nat} {f : Int → Int} {left : Int → Bool} {cnt : Nat}
theorem MapR.nc(h:MapR w b r f left cnt) : NC w r:=fun l T fz e=>by
 obtain ⟨_,_,_,_,_,_,_,_,hr,_⟩:=h
 rw [hr] at e;cases e
theorem MapR.mapF(h:MapR w b r f left cnt) : MapF w b f:=let ⟨l,c,_,_,_,h1,h2,h3,_⟩:=h;⟨l,c,h1,h2,h3⟩
theorem MapR.lt(h:MapR w b r f left cnt) : r<w.heap.size:=by
 obtain ⟨_,_,_,_,_,_,_,_,hr,_⟩:=h;exact (Qp.1 hr).1
theorem MapR.ne(h:MapR w b r f left cnt) : b≠r:=by
 rintro rfl;obtain ⟨_,_,_,_,_,hb,_,_,hr,_⟩:=h
 unfold MapI at hb
 rw [hb] at hr;cases hr
theorem MapR.same(h:MapR w b r f left cnt)(hb:w'.heap[b]? = w.heap[b]?)(hr:w'.heap[r]? = w.heap[r]?) : MapR w' b r f left cnt:=
 let ⟨l,c,s,z,c0,h1,h2,h3,h4,h5⟩:=h
 ⟨l,c,s,z,c0,hb.trans h1,h2,h3,hr.trans h4,h5⟩
theorem MapR.below(h:MapR w b r f left cnt)(hE:Below w.heap.size w w') : MapR w' b r f left cnt:=h.same (hE.block b h.mapF.lt) (hE.block r h.lt)
theorem MapR.only{b':Nat}(h:MapR w b r f left cnt)(ho:Only b' w w')(h1:b≠b')(h2:r≠b') : MapR w' b r f left cnt:=h.same (ho.block b h1) (ho.block r h2)
theorem MapR.app{α:Type}{B:Nat}{E:TypeId}{enc:α→List Value}{A:Option Addr}{l:List α}{sz n c c':Nat}(h:MapR w b r f left cnt)(ho:Own w B E sz enc A c l)(hg:w.grownBy w' (Value.slice A n c').ownBlock) : MapR w' b r f left cnt:=
 h.same (h.mapF.nc.app h.mapF.lt ho hg) (h.nc.app h.lt ho hg)
end
section
variable {a : Act} {w : World} {n : Nat} {e : Env} {ty : TypeId} {pos : String} {af : Array Edge} {g : Option (Nat × Bool)} {d : Option Tmp} {b r : Nat} {f : Int → Int} {T : TypeId} {left : Int → Bool} {cnt : Nat}
def EntR(w:World)(r:Nat)(k v:Int) : Prop:=∀ w',Below w.heap.size w w'→(Instr.entry (.pointer (some ⟨r,0,none⟩))).run Tryz.prog w'=.ok (.tuple #[.int .i64 k,.int .i64 v]) w'
def NextR(w:World)(b r:Nat)(f:Int→Int)(left:Int→Bool)(cnt:Nat)(v:Value)(w':World) : Prop:=
 (v=.tuple #[.bool false]∧w'=w∧∀ x,left x=false)∨
 ∃ k cnt',v=.tuple #[.bool true,.int .i64 k,.int .i64 (f k)]∧left k=true∧Only r w w'∧MapR w' b r f (fun x=>left x&&x != k) cnt'∧cnt'<cnt∧
  EntR w' r k (f k)
end
structure Tm where (m c:Int) deriving DecidableEq
structure Af where (m t:Int) deriving DecidableEq
def encT(x:Tm) : List Value:=[.int .i64 x.m,.int .i64 x.c]
def encA(x:Af) : List Value:=[.int .i64 x.m,.int .i64 x.t]
abbrev aV(x:Af) : Value:=.agg #[.int .i64 x.m,.int .i64 x.t]
abbrev uV(x:Tm) : Value:=.agg #[.int .i64 x.m,.int .i64 x.c]
def padd(f:Int→Int)(m k:Int) : Int→Int:=upd f m ((f m+k) % 8)
def PO(f:Int→Int) : Prop:=∀ x,0≤f x∧f x<8
theorem PO.padd{f:Int→Int}(h:PO f)(m k:Int) : PO (padd f m k):=fun x=>by
 unfold Proofs.YtpifljegadknkaaGreat.padd upd
 split
 ·omega
 ·exact h x
theorem PO.zero:PO (fun _=>0):=fun _=>⟨by show (0:Int)≤0;omega,by show (0:Int)<8;omega⟩
def Rise(T:List Tm) : Prop:=T.Pairwise fun x y=>x.m<y.m
structure IsT (f:Int→Int) (T:List Tm) : Prop where
 rise:Rise T
 mem:∀ t:Tm,t ∈ T↔0<t.m∧t.m<16777216∧t.c=f t.m∧f t.m≠0
theorem Xeb:∀ {T U:List Tm},Rise T→Rise U→(∀ t,t ∈ T↔t ∈ U)→T=U
 | [],[],_,_,_=>rfl
 | [],u::U,_,_,h=>absurd ((h u).2 (by simp)) (by simp)
 | t::T,[],_,_,h=>absurd ((h t).1 (by simp)) (by simp)
 | t::T,u::U,hT,hU,h=>by
  unfold Rise at hT hU
  rw [W8] at hT hU
  have htu:t=u:=by
   rcases Qv.1 ((h t).1 (by simp)) with e|e
   ·exact e
   ·rcases Qv.1 ((h u).2 (by simp)) with e'|e'
    ·exact e'.symm
    ·have h1:=hT.1 u e';have h2:=hU.1 t e
     omega
  subst htu
  congr 1
  refine Xeb hT.2 hU.2 fun x=>⟨fun hx=>?_,fun hx=>?_⟩
  ·rcases Qv.1 ((h x).1 (Ql _ hx)) with e|e
   ·have:=hT.1 x hx;rw [e] at this;omega
   ·exact e
  ·rcases Qv.1 ((h x).2 (Ql _ hx)) with e|e
   ·have:=hU.1 x hx;rw [e] at this;omega
   ·exact e
def tmN(f:Int→Int) : Nat→List Tm
 | 0=>[]
 | n+1=>if 0<(n:Int)∧f n≠0 then tmN f n++[⟨n,f n⟩] else tmN f n
theorem Xcp(f:Int→Int) : ∀ N:Nat,Rise (tmN f N)∧∀ t:Tm,t ∈ tmN f N↔0<t.m∧t.m<(N:Int)∧t.c=f t.m∧f t.m≠0
 | 0=>⟨List.Pairwise.nil,fun t=>by simp [tmN];omega⟩
 | n+1=>by
  obtain ⟨h1,h2⟩:=Xcp f n
  unfold tmN
  by_cases hn:0<(n:Int)∧f n≠0
  ·rw [Q4 hn]
   refine ⟨?_,fun t=>?_⟩
   ·unfold Rise
    rw [List.pairwise_append]
    refine ⟨h1,List.pairwise_singleton _ _,fun x hx y hy=>?_⟩
    rw [Qm.1 hy]
    exact ((h2 x).1 hx).2.1
   ·rw [Qu,h2,Qm]
    constructor
    ·rintro (⟨a,b,c⟩|rfl)
     ·exact ⟨a,by omega,c⟩
     ·exact ⟨hn.1,by show (n:Int)<_;omega,rfl,hn.2⟩
    ·rintro ⟨a,b,c,d⟩
     by_cases e:t.m=n
     ·right
      obtain ⟨m,c'⟩:=t
      simp only at e c
      rw [c,e]
     ·left
      exact ⟨a,by omega,c,d⟩
  ·rw [Q3 hn]
   refine ⟨h1,fun t=>?_⟩
   rw [h2]
   constructor
   ·rintro ⟨a,b,c⟩;exact ⟨a,by omega,c⟩
   ·rintro ⟨a,b,c,d⟩
    refine ⟨a,?_,c,d⟩
    by_cases e:t.m=n
    ·rw [e] at a d;exact absurd ⟨a,d⟩ hn
    ·omega
@[irreducible] def tms (f:Int→Int) : List Tm:=tmN f 16777216
theorem X87(f:Int→Int) : IsT f (tms f):=by
 unfold tms
 exact ⟨(Xcp f 16777216).1,(Xcp f 16777216).2⟩
theorem IsT.eq{f:Int→Int}{T:List Tm}(h:IsT f T) : T=tms f:=Xeb h.rise (X87 f).rise fun t=>(h.mem t).trans ((X87 f).mem t).symm
def oI(a b:Int) : Int:=bits .or .i64 a b
def exZ(r x y k:Int)(l:List Int)(f:Int→Int) : Nat→Int→Int
 | 0=>f
 | n+1=>padd (exZ r x y k l f n) (oI (oI (oI r x) y) (l.getD n 0)) (4*k)
def exY(r x k:Int)(l:List Int)(f:Int→Int) : Nat→Int→Int
 | 0=>f
 | j+1=>exZ r x (l.getD j 0) k l (padd (exY r x k l f j) (oI (oI r x) (l.getD j 0)) (-2*k)) j
def exX(r k:Int)(l:List Int)(f:Int→Int) : Nat→Int→Int
 | 0=>f
 | i+1=>exY r (l.getD i 0) k l (padd (exX r k l f i) (oI r (l.getD i 0)) k) i
theorem PO.exZ{f:Int→Int}(h:PO f)(r x y k:Int)(l:List Int) : ∀ n,PO (exZ r x y k l f n)
 | 0=>h
 | n+1=>(PO.exZ h r x y k l n).padd _ _
theorem PO.exY{f:Int→Int}(h:PO f)(r x k:Int)(l:List Int) : ∀ n,PO (exY r x k l f n)
 | 0=>h
 | n+1=>((PO.exY h r x k l n).padd _ _).exZ _ _ _ _ _ _
theorem PO.exX{f:Int→Int}(h:PO f)(r k:Int)(l:List Int) : ∀ n,PO (exX r k l f n)
 | 0=>h
 | n+1=>((PO.exX h r k l n).padd _ _).exY _ _ _ _ _
def lows(m:Int) : List Int:=(setN m.toNat).map fun k=>((2^k:Nat) : Int)
def expP(f:Int→Int)(k:Int)(a:Af)(r:Int) : Int→Int:=
 if a.t=1 then exX r (-k) (lows a.m) (padd f r k) (lows a.m).length else exX r k (lows a.m) f (lows a.m).length
theorem PO.expP{f:Int→Int}(h:PO f)(k:Int)(a:Af)(r:Int) : PO (expP f k a r):=by
 unfold Proofs.YtpifljegadknkaaGreat.expP
 split
 ·exact (h.padd _ _).exX _ _ _ _
 ·exact h.exX _ _ _ _
def encTx(s:ByteArray) : List Value:=[.string s]
def tx(l:List UInt8) : ByteArray:=⟨l.toArray⟩
section
variable {P : Program} {a : Act} {w : World} {n : Nat} {e : Env} {ty : TypeId} {pos : String} {af : Array Edge} {g : Option (Nat × Bool)} {d : Option Tmp} {t t' : TypeId}
end
theorem Vx{P:Program}{o:Oper}{n:Nat}{e:List (Nat×Value)}{w:World}{k:IntKind}{a b:Int}(h:EvW P o n e w (.int k a))(e2:a=b) : EvW P o n e w (.int k b):=e2▸h
theorem Xg0(M:Nat) : (setN M).Pairwise (· < ·):=List.Pairwise.filter _ List.pairwise_lt_range
theorem Xjr{M:Nat}(hM:M<2^62)(h:M≠0) : ∃ q t,setN M=q::t:=by
 cases e:setN M with
 | cons q t=>exact ⟨q,t,rfl⟩
 | nil=>
  refine absurd (Nat.eq_of_testBit_eq fun i=>?_) h
  rw [Nat.zero_testBit]
  cases e2:M.testBit i with
  | false=>rfl
  | true=>have:=(X4u hM).2 e2;rw [e] at this;cases this
abbrev Sm:=Int×Int
def foldA(L:List Sm)(f:Int→Int) : Int→Int:=L.foldl (fun f p=>padd f p.1 p.2) f
def sumA(L:List Sm)(x:Int) : Int:=(L.map fun p=>if p.1=x then p.2 else 0).sum
theorem X6h(L M:List Sm)(f:Int→Int) : foldA (L++M) f=foldA M (foldA L f):=List.foldl_append ..
theorem Xfy(L:List Sm)(m k:Int)(f:Int→Int) : foldA (L++[(m,k)]) f=padd (foldA L f) m k:=by rw [X6h];rfl
theorem PO.foldA:∀ (L:List Sm) {f:Int→Int},PO f→PO (foldA L f)
 | [],_,h=>h
 | p::L,_,h=>PO.foldA L (h.padd p.1 p.2)
theorem X6k(p:Sm)(L:List Sm)(x:Int) : sumA (p::L) x=(if p.1=x then p.2 else 0)+sumA L x:=by simp [sumA]
theorem Xlt(f:Int→Int)(h:PO f)(m k x:Int) : padd f m k x=(f x+if m=x then k else 0) % 8:=by
 unfold padd upd
 by_cases e:x=m
 ·subst e;simp
 ·have:=h x
  rw [Q3 e,Q3 (Ne.symm e)];omega
theorem X3x:∀ (L:List Sm) {f:Int→Int},PO f→∀ x,foldA L f x=(f x+sumA L x) % 8
 | [],f,h,x=>by
  have:=h x
  show f x=_
  simp [sumA];omega
 | p::L,f,h,x=>by
  show foldA L (padd f p.1 p.2) x=_
  rw [X3x L (h.padd p.1 p.2),Xlt f h,X6k]
  omega
def lowT(a:Af) : List Int:=lows a.m++(if a.t=1 then [0] else [])
def sumI(u v:Af) : List Sm:=(lowT u).flatMap fun x=>(lowT v).map fun y=>(oI x y,4)
def sumS(u v:Af) : List Sm:=((lows u.m).flatMap fun x=>((lows v.m).map fun y=>(oI x y,4))++[(x,4*v.t)])++((lows v.m).map fun y=>(y,4*u.t))++[(0,4*u.t*v.t)]
structure TurnS (S:Nat→Prop) (w w':World) : Prop where
 os:w'.os=w.os
 tape:w'.tape=w.tape
 output:w'.output=w.output
 size:w.heap.size≤w'.heap.size
 block:∀ k,k<w.heap.size→¬ S k→w'.heap[k]? = w.heap[k]?
theorem TurnS.refl(S:Nat→Prop)(w:World) : TurnS S w w:=⟨rfl,rfl,rfl,Qb _,fun _ _ _=>rfl⟩
def ownB(A:Option Addr) : Option Nat:=(Value.slice A 0 0).ownBlock
theorem X4g(A:Option Addr)(n c:Nat) : (Value.slice A n c).ownBlock=ownB A:=X74 A n 0 c 0
def S3(b m:Nat)(A:Option Addr)(k:Nat) : Prop:=k=b∨k=m∨ownB A=some k
section
variable {S S' : Nat → Prop} {w0 w w' : World} {b : Nat} {A : Option Addr} {n c : Nat}
theorem tsbel(h:TurnS S w0 w)(hE:Below w.heap.size w w') : TurnS S w0 w':=
 ⟨hE.os.trans h.os,hE.tape.trans h.tape,hE.output.trans h.output,Q0 h.size hE.size,fun k hk h1=>(hE.block k (Nat.lt_of_lt_of_le hk h.size)).trans (h.block k hk h1)⟩
theorem tsonly(h:TurnS S w0 w)(ho:Only b w w')(hb:S b∨w0.heap.size≤b) : TurnS S w0 w':=
 ⟨ho.os.trans h.os,ho.tape.trans h.tape,ho.output.trans h.output,by rw [ho.size];exact h.size,fun k hk h1=>(ho.block k (fun e=>by
  subst e
  rcases hb with hb|hb
  ·exact h1 hb
  ·omega)).trans (h.block k hk h1)⟩
theorem tsrow(h:TurnS S w0 w)(hg:w.grownBy w' (Value.slice A n c).ownBlock)(hs:∀ k,ownB A=some k→S k∨w0.heap.size≤k) : TurnS S w0 w':=
 ⟨hg.os.trans h.os,hg.tape.trans h.tape,hg.output.trans h.output,Q0 h.size hg.size,fun k hk h1=>(hg.block k (Nat.lt_of_lt_of_le hk h.size) (fun e=>by
  rw [X4g] at e
  rcases hs k e.symm with hb|hb
  ·exact h1 hb
  ·omega)).trans (h.block k hk h1)⟩
theorem tstr(h:TurnS S w0 w)(k:TurnS S' w w')(hs:∀ k,S' k→S k∨w0.heap.size≤k) : TurnS S w0 w':=
 ⟨k.os.trans h.os,k.tape.trans h.tape,k.output.trans h.output,Q0 h.size k.size,fun q hq h1=>(k.block q (Nat.lt_of_lt_of_le hq h.size) (fun e=>by
  rcases hs q e with hb|hb
  ·exact h1 hb
  ·omega)).trans (h.block q hq h1)⟩
theorem Below.ts{B:Nat}(h:Below B w0 w)(k:TurnS S w w')(hs:∀ k,S k→B≤k)(hB:B≤w.heap.size) : Below B w0 w':=
 h.trans ⟨k.os,k.tape,k.output,k.size,fun q hq=>k.block q (Nat.lt_of_lt_of_le hq hB) fun e=>by have:=hs q e;omega⟩
end
section
variable {α : Type} {w : World} {B0 : Nat} {E : TypeId} {enc : α → List Value} {A : Option Addr} {l : List α} {sz c : Nat}
theorem S3.row{b m:Nat}(k:Nat)(h:ownB A=some k) : S3 b m A k:=.inr (.inr h)
theorem X1l(h:Own w B0 E sz enc A c l){k:Nat}(hk:ownB A=some k) : B0≤k:=(h.block (k:=k) (by rw [X4g];exact hk)).1
theorem X0d(ho:Own w B0 E sz enc A c l)(hsz:∀ x,(enc x).length=sz){k:Nat}{u:α}(hk:l[k]? = some u)(j:Nat){m:Nat}(hm:k*sz+j=m) : At w (oA A m) ((enc u).drop j):=by
 subst hm
 rcases ho.2 with ⟨e1,e2⟩|⟨b,cap,cur,e1,e2,e3,e4,e5,e6,e7⟩
 ·have:l=[]:=List.eq_nil_of_length_eq_zero e2
  rw [this] at hk;cases hk
 ·injection e1 with e1 _ e1'
  obtain ⟨p,hp,h⟩:=Rd.at hsz ho.rd hk
  rw [e1] at hp ⊢
  injection hp with hp
  subst hp
  intro i v hv
  rw [List.getElem?_drop] at hv
  have h2:=h _ v hv
  show w.cell? ((⟨b,k*sz+j,none⟩ : Addr).add i)=_
  rw [X1e] at h2 ⊢
  rw [X1e] at h2
  rw [← h2]
  congr 2
  omega
end
structure Ps where (ins vars root phase:Int) (ts:List Tm) (out:List Af)
def psZ:Ps:=⟨0,0,0,0,[],[]⟩
structure Pst where (f:Int→Int) (v:Nat) (out:List Af)
def afZ:Af:=⟨0,0⟩
def aAt(l:List Af)(i:Int) : Af:=l.getD i.toNat afZ
def xI(a b:Int) : Int:=bits .xor .i64 a b
def aXor(a b:Af) : Af:=⟨xI a.m b.m,xI a.t b.t⟩
def rotC(k:Int) : Int:=if k=4 then 4 else if k=5 then 2 else if k=6 then 6 else if k=7 then 1 else if k=8 then 7 else 0
def varA(n:Nat) : Af:=⟨((2^n:Nat) : Int),0⟩
def psStep(n:Nat)(s:Pst)(g:Gt) : Option Pst:=
 if g.k=1 then (if 24≤n+s.v then none else some ⟨foldA (sumS (aAt s.out g.a) (varA (n+s.v))) s.f,s.v+1,s.out.set g.a.toNat (varA (n+s.v))⟩)
 else if g.k=2 then some ⟨s.f,s.v,s.out.set g.a.toNat (aXor (aAt s.out g.a) ⟨0,1⟩)⟩
 else if g.k=3 then some ⟨expP (padd s.f 0 2) 4 (aAt s.out g.a) 0,s.v,s.out.set g.a.toNat (aXor (aAt s.out g.a) ⟨0,1⟩)⟩
 else if g.k=9 then some ⟨s.f,s.v,s.out.set g.b.toNat (aXor (aAt s.out g.a) (aAt s.out g.b))⟩
 else if g.k=10 then some ⟨foldA (sumS (aAt s.out g.a) (aAt s.out g.b)) s.f,s.v,s.out⟩
 else if g.k=11 then some ⟨s.f,s.v,(s.out.set g.a.toNat (aAt s.out g.b)).set g.b.toNat (aAt s.out g.a)⟩
 else if g.k=12 then some ⟨padd s.f 0 1,s.v,s.out⟩
 else some ⟨expP s.f (rotC g.k) (aAt s.out g.a) 0,s.v,s.out⟩
def psAll(n:Nat) : List Gt→Pst→Option Pst
 | [],s=>some s
 | g::l,s=>(psStep n s g).bind (psAll n l)
def varsN(n:Nat) : List Af:=(List.range n).map varA
def ps0(n:Nat) : Pst:=⟨fun _=>0,0,varsN n⟩
def psC(c:Cx) : Option Ps:=(psAll c.n.toNat c.gs (ps0 c.n.toNat)).map fun s=>⟨c.n,s.v,s.v,s.f 0,tms s.f,s.out⟩
def Mk(m:Int) : Prop:=0≤m∧m<16777216
def AO(a:Af) : Prop:=Mk a.m∧(a.t=0∨a.t=1)
structure PsOk (n:Nat) (s:Pst) : Prop where
 po:PO s.f
 len:s.out.length=n
 all:∀ a ∈ s.out,AO a
 vs:n+s.v≤24
theorem Mk.nat{m:Int}(h:Mk m) : ∃ x:Nat,x<2^24∧m=x:=⟨m.toNat,by have:=h.1;have:=h.2;omega,by have:=h.1;omega⟩
theorem Mk.of{x:Nat}(h:x<2^24) : Mk (x:Int):=⟨by omega,by omega⟩
theorem X29{x:Nat}(h:x<2^24) : x<2^62:=Nat.lt_of_lt_of_le h (by decide)
theorem Mk.or{a b:Int}(ha:Mk a)(hb:Mk b) : Mk (oI a b):=by
 obtain ⟨x,hx,rfl⟩:=ha.nat;obtain ⟨y,hy,rfl⟩:=hb.nat
 unfold oI
 rw [X36 (X29 hx) (X29 hy)]
 exact Mk.of (Nat.or_lt_two_pow hx hy)
theorem Mk.xor{a b:Int}(ha:Mk a)(hb:Mk b) : Mk (xI a b):=by
 obtain ⟨x,hx,rfl⟩:=ha.nat;obtain ⟨y,hy,rfl⟩:=hb.nat
 unfold xI
 rw [X46 (X29 hx) (X29 hy)]
 exact Mk.of (Nat.xor_lt_two_pow hx hy)
theorem Xx6{a b:Int}(ha:a=0∨a=1)(hb:b=0∨b=1) : xI a b=if a=b then 0 else 1:=by
 rcases ha with rfl|rfl<;>rcases hb with rfl|rfl<;>rfl
theorem AO.xor{a b:Af}(ha:AO a)(hb:AO b) : AO (aXor a b):=⟨ha.1.xor hb.1,by
 show xI a.t b.t=0∨xI a.t b.t=1
 rw [Xx6 ha.2 hb.2];split<;>simp⟩
theorem Mk.zero:Mk 0:=⟨by omega,by omega⟩
theorem AO.z:AO afZ:=⟨Mk.zero,.inl rfl⟩
theorem AO.one:AO ⟨0,1⟩:=⟨Mk.zero,.inr rfl⟩
theorem AO.var{n:Nat}(h:n<24) : AO (varA n):=⟨Mk.of (Nat.pow_lt_pow_right (by decide) h),.inl rfl⟩
theorem AO.at{l:List Af}(h:∀ a ∈ l,AO a)(i:Int) : AO (aAt l i):=by
 unfold aAt
 rw [Qa]
 cases e:l[i.toNat]? with
 | none=>exact AO.z
 | some a=>exact h a (Qe e)
theorem X2c{α:Type}{p:α→Prop}{l:List α}{k:Nat}{x:α}(h:∀ a ∈ l,p a)(hx:p x) : ∀ a ∈ l.set k x,p a:=fun a ha=>by
 rcases List.mem_or_eq_of_mem_set ha with h1|rfl
 ·exact h a h1
 ·exact hx
theorem PsOk.zero{n:Nat}(h:n≤5) : PsOk n (ps0 n):=by
 refine ⟨PO.zero,by simp [ps0,varsN],fun a ha=>?_,by show n+0≤24;omega⟩
 simp only [ps0,varsN,W6,W2] at ha
 obtain ⟨k,hk,rfl⟩:=ha;exact AO.var (by omega)
theorem PsOk.step{n:Nat}{s t:Pst}{g:Gt}(h:PsOk n s)(e:psStep n s g=some t) : PsOk n t:=by
 have hu:=AO.at h.all g.a;have hv:=AO.at h.all g.b
 unfold psStep at e
 split at e
 ·split at e
  ·cases e
  ·injection e with e;subst e
   exact ⟨PO.foldA _ h.po,by simp [h.len],X2c h.all (AO.var (by omega)),by show n+(s.v+1)≤24;omega⟩
 ·split at e
  ·injection e with e;subst e
   exact ⟨h.po,by simp [h.len],X2c h.all (hu.xor AO.one),h.vs⟩
  ·split at e
   ·injection e with e;subst e
    exact ⟨(h.po.padd _ _).expP _ _ _,by simp [h.len],X2c h.all (hu.xor AO.one),h.vs⟩
   ·split at e
    ·injection e with e;subst e
     exact ⟨h.po,by simp [h.len],X2c h.all (hu.xor hv),h.vs⟩
    ·split at e
     ·injection e with e;subst e
      exact ⟨PO.foldA _ h.po,h.len,h.all,h.vs⟩
     ·split at e
      ·injection e with e;subst e
       exact ⟨h.po,by simp [h.len],X2c (X2c h.all hv) hu,h.vs⟩
      ·split at e
       ·injection e with e;subst e
        exact ⟨h.po.padd _ _,h.len,h.all,h.vs⟩
       ·injection e with e;subst e
        exact ⟨h.po.expP _ _ _,h.len,h.all,h.vs⟩
theorem PsOk.fold{n:Nat} : ∀ (l:List Gt) {s t:Pst},PsOk n s→psAll n l s=some t→PsOk n t
 | [],s,t,h,e=>by injection e with e;subst e;exact h
 | g::l,s,t,h,e=>by
  have e:(psStep n s g).bind (psAll n l)=some t:=e
  cases h1:psStep n s g with
  | none=>rw [h1] at e;cases e
  | some u=>rw [h1] at e;exact PsOk.fold l (h.step h1) e
def onA(x:Nat) : Nat:=(x/2 &&& 6148914691236517205)+(x &&& 6148914691236517205)
def onB(x:Nat) : Nat:=(x/4 &&& 3689348814741910323)+(x &&& 3689348814741910323)
def onC(x:Nat) : Nat:=(x/16+x) &&& 1085102592571150095
def onD(x:Nat) : Nat:=
 let d:=x+x/256
 let e:=d+d/65536
 (e+e/4294967296) &&& 127
def popS(x:Nat) : Nat:=onD (onC (onB (onA x)))
def on8a(y:Nat) : Nat:=(y/2 &&& 85)+(y &&& 85)
def on8b(y:Nat) : Nat:=(y/4 &&& 51)+(y &&& 51)
def on8c(y r:Nat) : Nat:=(y/16+y+16*r) &&& 15
def pop8(y:Nat) : Nat:=((List.range 8).filter y.testBit).length
def chkP:Bool:=(List.range 256).all fun y=>(List.range 2).all (fun r=>(y/2+128*r) &&& 85==y/2 &&& 85)&&decide (on8a y<256)
 && (List.range 4).all (fun r=>(y/4+64*r) &&& 51==y/4 &&& 51)&&decide (on8b (on8a y)<69)&&decide (on8b (on8a y) % 16≤4)&&(List.range 5).all (fun r=>on8c (on8b (on8a y)) r==pop8 y)&&decide (pop8 y≤8)
def drN(v x:Nat) : Nat:=x % 2^v+2^v*(x/2^(v+1))
theorem Xqs(v x:Nat) : drN v x≤x:=by
 unfold drN
 have h1:=Nat.div_add_mod x (2^v)
 have h2:x/2^(v+1)≤x/2^v:=by
  rw [Nat.pow_succ,← Nat.div_div_eq_div_mul];exact Nat.div_le_self _ _
 have:=Nat.mul_le_mul_left (2^v) h2
 omega
theorem Xbq:∀ {T U:List Nat},T.Pairwise (· < ·)→U.Pairwise (· < ·)→(∀ t,t ∈ T↔t ∈ U)→T=U
 | [],[],_,_,_=>rfl
 | [],u::U,_,_,h=>absurd ((h u).2 (by simp)) (by simp)
 | t::T,[],_,_,h=>absurd ((h t).1 (by simp)) (by simp)
 | t::T,u::U,hT,hU,h=>by
  rw [W8] at hT hU
  have htu:t=u:=by
   rcases Qv.1 ((h t).1 (by simp)) with e|e
   ·exact e
   ·rcases Qv.1 ((h u).2 (by simp)) with e'|e'
    ·exact e'.symm
    ·have h1:=hT.1 u e';have h2:=hU.1 t e
     omega
  subst htu
  congr 1
  refine Xbq hT.2 hU.2 fun x=>⟨fun hx=>?_,fun hx=>?_⟩
  ·rcases Qv.1 ((h x).1 (Ql _ hx)) with e|e
   ·have:=hT.1 x hx;omega
   ·exact e
  ·rcases Qv.1 ((h x).2 (Ql _ hx)) with e|e
   ·have:=hU.1 x hx;omega
   ·exact e
def shN(v i:Nat) : Nat:=if i<v then i else i-1
def bitQ(v:Nat)(m:Int) : Bool:=m.toNat.testBit v
def drI(v:Nat)(m:Int) : Int:=((drN v m.toNat:Nat) : Int)
def Nb(v:Nat)(m:Int) : Prop:=Mk m∧bitQ v m=false
theorem X44(v x:Nat) : bitQ v (x:Int)=x.testBit v:=rfl
theorem Mk.dr{v:Nat}{m:Int}(h:Mk m) : Mk (drI v m):=by
 obtain ⟨x,hx,rfl⟩:=h.nat;exact Mk.of (Nat.lt_of_le_of_lt (Xqs v x) hx)
theorem Nb.or{v:Nat}{a b:Int}(ha:Nb v a)(hb:Nb v b) : Nb v (oI a b):=by
 refine ⟨ha.1.or hb.1,?_⟩
 obtain ⟨x,hx,rfl⟩:=ha.1.nat;obtain ⟨y,hy,rfl⟩:=hb.1.nat
 unfold oI
 rw [X36 (X29 hx) (X29 hy),X44,Nat.testBit_or]
 have h1:=ha.2;have h2:=hb.2
 rw [X44] at h1 h2
 rw [h1,h2];rfl
theorem Nb.xor{v:Nat}{a b:Int}(ha:Nb v a)(hb:Nb v b) : Nb v (xI a b):=by
 refine ⟨ha.1.xor hb.1,?_⟩
 obtain ⟨x,hx,rfl⟩:=ha.1.nat;obtain ⟨y,hy,rfl⟩:=hb.1.nat
 unfold xI
 rw [X46 (X29 hx) (X29 hy),X44,Nat.testBit_xor]
 have h1:=ha.2;have h2:=hb.2
 rw [X44] at h1 h2
 rw [h1,h2];rfl
theorem Nb.zero(v:Nat) : Nb v 0:=⟨Mk.zero,Nat.zero_testBit v⟩
theorem Nb.off{v:Nat}{m:Int}(h:Mk m)(hv:v<24)(hb:bitQ v m=true) : Nb v (xI m ((2^v:Nat) : Int)):=by
 refine ⟨h.xor (Mk.of (Nat.pow_lt_pow_right (by decide) hv)),?_⟩
 obtain ⟨M,hM,rfl⟩:=h.nat
 unfold xI
 rw [X46 (X29 hM) (X9i (by omega)),X44,Nat.testBit_xor,Nat.testBit_two_pow]
 rw [X44] at hb
 rw [hb];simp
def exZL(r x y k:Int)(l:List Int) : Nat→List Sm
 | 0=>[]
 | n+1=>exZL r x y k l n++[(oI (oI (oI r x) y) (l.getD n 0),4*k)]
def exYL(r x k:Int)(l:List Int) : Nat→List Sm
 | 0=>[]
 | j+1=>exYL r x k l j++(oI (oI r x) (l.getD j 0),-2*k)::exZL r x (l.getD j 0) k l j
def exXL(r k:Int)(l:List Int) : Nat→List Sm
 | 0=>[]
 | i+1=>exXL r k l i++(oI r (l.getD i 0),k)::exYL r (l.getD i 0) k l i
def expL(k:Int)(a:Af)(r:Int) : List Sm:=
 if a.t=1 then (r,k)::exXL r (-k) (lows a.m) (lows a.m).length else exXL r k (lows a.m) (lows a.m).length
theorem X5q(p:Sm)(L:List Sm)(f:Int→Int) : foldA (p::L) f=foldA L (padd f p.1 p.2):=rfl
theorem Xbo(r x y k:Int)(l:List Int)(f:Int→Int) : ∀ n,exZ r x y k l f n=foldA (exZL r x y k l n) f
 | 0=>rfl
 | n+1=>by rw [exZ,exZL,Xfy,Xbo r x y k l f n]
theorem Xbt(r x k:Int)(l:List Int)(f:Int→Int) : ∀ n,exY r x k l f n=foldA (exYL r x k l n) f
 | 0=>rfl
 | n+1=>by rw [exY,exYL,X6h,X5q,Xbo,Xbt r x k l f n]
theorem X7l(r k:Int)(l:List Int)(f:Int→Int) : ∀ n,exX r k l f n=foldA (exXL r k l n) f
 | 0=>rfl
 | n+1=>by rw [exX,exXL,X6h,X5q,Xbt,X7l r k l f n]
theorem X3z(f:Int→Int)(k:Int)(a:Af)(r:Int) : expP f k a r=foldA (expL k a r) f:=by
 unfold expP expL
 split
 ·rw [X5q,X7l]
 ·rw [X7l]
section
variable {Q : Int → Prop} (hq : ∀ a b, Q a → Q b → Q (oI a b)) (h0 : Q 0) {l : List Int} (hl : ∀ x ∈ l, Q x)
include h0 hl
theorem Xce(n:Nat) : Q (l.getD n 0):=by
 rw [Qa]
 cases e:l[n]? with
 | none=>exact h0
 | some x=>exact hl x (Qe e)
include hq
theorem Xbu{r x y k:Int}(hr:Q (oI (oI r x) y)) : ∀ n,∀ p ∈ exZL r x y k l n,Q p.1
 | 0,p,h=>by cases h
 | n+1,p,h=>by
  rcases Qu.1 h with h|h
  ·exact Xbu hr n p h
  ·rw [Qm.1 h];exact hq _ _ hr (Xce h0 hl n)
theorem Xb4{r x k:Int}(hr:Q (oI r x)) : ∀ n,∀ p ∈ exYL r x k l n,Q p.1
 | 0,p,h=>by cases h
 | n+1,p,h=>by
  have hy:=hq _ _ hr (Xce h0 hl n)
  rcases Qu.1 h with h|h
  ·exact Xb4 hr n p h
  ·rcases Qv.1 h with rfl|h
   ·exact hy
   ·exact Xbu hq h0 hl hy n p h
theorem X7q{r k:Int}(hr:Q r) : ∀ n,∀ p ∈ exXL r k l n,Q p.1
 | 0,p,h=>by cases h
 | n+1,p,h=>by
  have hy:=hq _ _ hr (Xce h0 hl n)
  rcases Qu.1 h with h|h
  ·exact X7q hr n p h
  ·rcases Qv.1 h with rfl|h
   ·exact hy
   ·exact Xb4 hq h0 hl hy n p h
end
def mp(φ:Int→Int)(L:List Sm) : List Sm:=L.map fun p=>(φ p.1,p.2)
section
variable {Q : Int → Prop} {φ : Int → Int} (hq : ∀ a b, Q a → Q b → Q (oI a b)) (hφ : ∀ a b, Q a → Q b → φ (oI a b) = oI (φ a) (φ b)) (h0 : Q 0) (hφ0 : φ 0 = 0) {l : List Int} (hl : ∀ x ∈ l, Q x)
include hφ0
include h0 hl hφ hq
end
def cPh(ph:Int) : Int→Int:=upd (fun _=>0) 0 ph
theorem PO.cPh{ph:Int}(h:0≤ph∧ph<8) : PO (cPh ph):=fun x=>by
 show 0≤upd _ 0 ph x∧upd _ 0 ph x<8
 unfold upd
 split
 ·exact h
 ·exact ⟨by show (0:Int)≤0;omega,by show (0:Int)<8;omega⟩
theorem X40{L:List Sm}{x:Int}(h:∀ p ∈ L,p.1≠x) : sumA L x=0:=by
 induction L with
 | nil=>rfl
 | cons p L ih=>rw [X6k,Q3 (h p (by simp)),ih fun q hq=>h q (Ql _ hq)];rfl
def dT(v:Nat)(t:Tm) : Tm:=⟨drI v t.m,t.c⟩
theorem Xlm{L:List Sm}{ph x:Int}(hph:0≤ph∧ph<8)(hx:x≠0)(h:foldA L (cPh ph) x≠0) : ∃ p ∈ L,p.1=x:=by
 refine Classical.byContradiction fun hn=>h ?_
 rw [X3x L (PO.cPh hph),X40 fun p hp e=>hn ⟨p,hp,e⟩]
 show (upd _ 0 ph x+0) % 8=0
 rw [Xcz hx];rfl
def sm(ts:List Tm) : List Sm:=ts.map fun t=>(t.m,t.c)
structure OkT (ts:List Tm) : Prop where
 rise:Rise ts
 all:∀ t ∈ ts,0<t.m∧t.m<16777216∧0<t.c∧t.c<8
theorem Xbm:∀ {ts:List Tm},Rise ts→∀ t ∈ ts,sumA (sm ts) t.m=t.c
 | [],_,t,h=>by cases h
 | u::l,hr,t,h=>by
  unfold Rise at hr
  rw [W8] at hr
  show sumA ((u.m,u.c)::sm l) t.m=t.c
  rw [X6k]
  rcases Qv.1 h with e|h
  ·subst e
   rw [Q4 rfl,X40 fun p hp e=>?_]
   ·omega
   ·obtain ⟨q,hq,rfl⟩:=W6.1 hp
    have:=hr.1 q hq
    have e:q.m=t.m:=e
    omega
  ·have:=hr.1 t h
   rw [Q3 (by show ¬ u.m=t.m;omega),Xbm hr.2 t h];omega
theorem OkT.val{ts:List Tm}(h:OkT ts){ph:Int}(hph:0≤ph∧ph<8){t:Tm}(ht:t ∈ ts) : foldA (sm ts) (cPh ph) t.m=t.c:=by
 have h1:=h.all t ht
 rw [X3x _ (PO.cPh hph),Xbm h.rise t ht]
 unfold cPh
 rw [Xcz (by omega)]
 omega
theorem OkT.tms{ts:List Tm}(h:OkT ts){ph:Int}(hph:0≤ph∧ph<8) : tms (foldA (sm ts) (cPh ph))=ts:=by
 refine (IsT.eq ⟨h.rise,fun t=>?_⟩).symm
 constructor
 ·intro ht;have h1:=h.all t ht;have h2:=h.val hph ht;exact ⟨h1.1,h1.2.1,h2.symm,by rw [h2];omega⟩
 ·rintro ⟨h1,h2,h3,h4⟩
  obtain ⟨p,hp,e⟩:=Xlm hph (by omega) h4
  obtain ⟨q,hq,rfl⟩:=W6.1 hp
  have e:q.m=t.m:=e
  have h5:=h.val hph hq
  rw [e,← h3] at h5
  have:q=t:=by
   obtain ⟨a,b⟩:=q;obtain ⟨c,d⟩:=t
   simp only at e h5
   rw [e,h5]
  rw [← this];exact hq
theorem Xjp{ts:List Tm}(h:∀ t ∈ ts,0<t.m) : sumA (sm ts) 0=0:=X40 fun p hp e=>by
 obtain ⟨q,hq,rfl⟩:=W6.1 hp
 have:=h q hq
 have e:q.m=0:=e
 omega
theorem OkT.zero{ts:List Tm}(h:OkT ts){ph:Int}(hph:0≤ph∧ph<8) : foldA (sm ts) (cPh ph) 0=ph:=by
 rw [X3x _ (PO.cPh hph),Xjp fun t ht=>(h.all t ht).1]
 show (upd _ 0 ph 0+0) % 8=ph
 rw [Xp0];omega
def SupF(f:Int→Int) : Prop:=∀ x,f x≠0→Mk x
theorem SupF.fold{L:List Sm}(h:∀ p ∈ L,Mk p.1){f:Int→Int}(hf:PO f)(hs:SupF f) : SupF (foldA L f):=fun x hx=>by
 rw [X3x _ hf] at hx
 by_cases e:f x=0
 ·refine Classical.byContradiction fun hn=>hx ?_
  rw [e,X40 fun p hp e2=>hn (by rw [← e2];exact h p hp)];rfl
 ·exact hs x e
theorem SupF.cPh(ph:Int) : SupF (cPh ph):=fun x hx=>by
 by_cases e:x=0
 ·subst e;exact Mk.zero
 ·refine absurd ?_ hx
  show upd _ 0 ph x=0
  rw [Xcz e]
def pw(v:Nat) : Int:=((2^v:Nat) : Int)
def dA(v:Nat)(a:Af) : Af:=⟨drI v a.m,a.t⟩
def sA(v:Nat)(y a:Af) : Af:=if bitQ v a.m then ⟨xI (xI a.m (pw v)) y.m,xI a.t y.t⟩ else a
def sL(v:Nat)(y:Af)(t:Tm) : List Sm:=if bitQ v t.m then expL t.c y (xI t.m (pw v)) else [(t.m,t.c)]
def rL(v:Nat)(y:Af)(t:Tm) : List Sm:=if bitQ v t.m then expL t.c (dA v y) (drI v t.m) else [(drI v t.m,t.c)]
def mkP(p:Ps)(v:Nat)(y:Af)(f:Int→Int)(ts:List Tm) : Ps:=⟨p.ins,p.vars-1,p.root,f 0,ts,p.out.map fun a=>dA v (sA v y a)⟩
def subP(p:Ps)(v:Nat)(y:Af) : Ps:=mkP p v y (foldA (p.ts.flatMap (sL v y)) (cPh p.phase)) ((tms (foldA (p.ts.flatMap (sL v y)) (cPh p.phase))).map (dT v))
def repP(p:Ps)(v:Nat)(y:Af) : Ps:=mkP p v y (foldA (p.ts.flatMap (rL v y)) (cPh p.phase)) (tms (foldA (p.ts.flatMap (rL v y)) (cPh p.phase)))
def nob(v:Nat)(ts:List Tm) : List Tm:=ts.filter fun t=>!bitQ v t.m
def stP(p:Ps)(y:Nat)(k z:Int) : Ps:=
 let f:=foldA (expL k ⟨z,0⟩ 0) (foldA (sm (nob y p.ts)) (cPh p.phase))
 ⟨p.ins,p.vars-1,p.root,f 0,(tms f).map (dT y),p.out.map (dA y)⟩
def omR(q:Ps)(k1 k:Int)(z:Int) : Ps:=
 let f:=expP (padd (foldA (sm q.ts) (cPh q.phase)) 0 k1) k ⟨z,0⟩ 0
 ⟨q.ins,q.vars,q.root,f 0,tms f,q.out⟩
section
variable {α : Type} {w w' : World} {b m b2 B0 : Nat} {A : Option Addr} {c : Nat} {l : List α} {E T T2 : TypeId} {sz : Nat} {enc : α → List Value} {bcs cs : List Value}
end
def psH(n:Nat)(ps:Pst)(q:Int) : Option Pst:=
 if 24≤n+ps.v then none else some ⟨foldA (sumS (aAt ps.out q) (varA (n+ps.v))) ps.f,ps.v+1,ps.out.set q.toNat (varA (n+ps.v))⟩
section
variable {n : Nat} {g : Gt}
theorem Xbc(h:gOk (n:Int) g=true) : 0≤g.a∧g.a.toNat<n:=by
 simp only [gOk,inR,Qd,Qr] at h
 obtain ⟨⟨h1,h2⟩,h3⟩:=h
 split at h3
 ·simp at h3;omega
 ·split at h3<;>simp at h3<;>omega
theorem Xb9(h:gOk (n:Int) g=true) : 0≤g.b∧g.b.toNat<n:=by
 simp only [gOk,inR,Qd,Qr] at h
 obtain ⟨⟨h1,h2⟩,h3⟩:=h
 split at h3
 ·simp at h3;omega
 ·split at h3<;>simp at h3<;>omega
end
section
variable {n : Nat} {ps : Pst} {g : Gt}
end
end Go.Proofs.YtpifljegadknkaaGreat
namespace Go.Proofs.YtpifljegadknkaaGreat
open Go.RowKit Go.Sort Go.Shelf Go.Lib
structure Mt where (v:Tm) (h:0≤v.m∧v.m<16777216)
instance:Inhabited Mt:=⟨⟨⟨0,0⟩,by decide,by decide⟩⟩
def encM(x:Mt) : List Value:=encT x.1
theorem X7n{α:Type}[Inhabited α]{enc:α→List Value}{k:Nat}(hk:∀ x,(enc x).length=k)(L:List α) : (flatK enc k L.toArray).toList=L.flatMap enc:=by
 apply List.ext_getElem?
 intro t
 by_cases h:t<L.length*k
 ·obtain ⟨x,h1,h2⟩:=X4x hk h
  have hk0:0<k:=by
   rcases Nat.eq_zero_or_pos k with e|e
   ·subst e;simp at h
   ·exact e
  have h3:t % k<(enc x).length:=by rw [hk];exact Nat.mod_lt _ hk0
  have h4:t/k<L.length:=(Qg.1 h1).1
  rw [h2,Array.getElem?_toList]
  have e1:L[t/k]! = x:=by rw [List.getElem!_eq_getElem?_getD,h1];rfl
  have e2:L[t/k]?.getD default=x:=by rw [h1];rfl
  simp [flatK,h,e2,h3]
 ·rw [List.getElem?_eq_none (by simp [flatK];omega),List.getElem?_eq_none (by rw [Xn hk];omega)]
theorem Xg8{w:World}{g n:Nat}{os:Array Obj}{cur:Array Value}{e:TypeId}{fr:Nat×Nat}(d:Array Value)(hb:w.heap[g]? = some (.cells cur e fr)) :
  (grow (putRow id (Sort.ahead w n) g 0 d) os).heap[g]? = some (.cells (putCells id 0 d cur) e fr):=by
 have hg:g<w.heap.size:=(Qp.1 hb).1
 rw [heap_grow_old _ _ (by simpa using hg)]
 simp [putRow,mapBlock,Sort.ahead,Array.getElem?_modify,hb,onCells]
theorem Xcq{w:World}{g n:Nat}{os:Array Obj}(d:Array Value) : w.grownBy (grow (putRow id (Sort.ahead w n) g 0 d) os) (some g):=by
 refine ⟨rfl,rfl,rfl,by simp,fun k hk hne=>?_⟩
 rw [heap_grow_old _ _ (by simpa using hk)]
 have:g≠k:=fun e=>hne (by rw [e])
 simp [putRow,mapBlock,Sort.ahead,Array.getElem?_modify,this]
theorem Xg2(cur F:Array Value)(h:F.size≤cur.size) : (putCells id 0 F cur).toList.take F.size=F.toList:=by
 apply List.ext_getElem?
 intro j
 by_cases hj:j<F.size
 ·rw [Wg hj,Array.getElem?_toList,Array.getElem?_toList]
  simp [putCells,hj,show j<cur.size by omega]
 ·rw [List.getElem?_take_eq_none (by omega),List.getElem?_eq_none (by simp;omega)]
theorem Xrg{w:World}{g:Nat}{cur:Array Value}{e:TypeId}{F:Array Value}(hb:w.heap[g]? = some (.cells cur e (0,0)))(ht:cur.toList.take F.size=F.toList) : Holds id w g 0 F:=by
 intro j hj
 refine ⟨?_,by simp [World.frozen?,hb]⟩
 have h1:(cur.toList.take F.size)[j]? = F.toList[j]?:=by rw [ht]
 rw [Wg hj] at h1
 simp only [World.cell?,hb,Nat.zero_add]
 simp only [Option.isSome_none,Bool.false_eq_true,if_false]
 rw [← Array.getElem?_toList,h1]
 simp [hj]
end Go.Proofs.YtpifljegadknkaaGreat
namespace Go.Proofs.YtpifljegadknkaaGreat
open Go.RowKit
structure Gath (f:Int→Int) (left:Int→Bool) (l:List Tm) : Prop where
 mem:∀ t:Tm,t ∈ l↔0<t.m∧f t.m≠0∧t.c=f t.m∧left t.m=false
 nd:l.Pairwise fun x y=>x.m≠y.m
theorem Gath.start{f:Int→Int}{left:Int→Bool}(h:∀ x,f x≠0→left x=true) : Gath f left []:=
 ⟨fun t=>⟨fun h=>(by cases h),fun ⟨_,h2,_,h4⟩=>by rw [h _ h2] at h4;cases h4⟩,List.Pairwise.nil⟩
theorem Xb0{left:Int→Bool}{k x:Int} : (left x&&x != k)=false↔left x=false∨x=k:=by
 cases h:left x<;>simp
theorem Gath.push{f:Int→Int}{left:Int→Bool}{l:List Tm}{k:Int}(h:Gath f left l)(hk:left k=true)(h1:0<k)(h2:0<f k) : Gath f (fun x=>left x&&x != k) (l++[⟨k,f k⟩]):=by
 refine ⟨fun t=>?_,?_⟩
 ·rw [Qu,Qm,h.mem,Xb0]
  constructor
  ·rintro (⟨a,b,c,d⟩|rfl)
   ·exact ⟨a,b,c,.inl d⟩
   ·exact ⟨h1,by show f k≠0;omega,rfl,.inr rfl⟩
  ·rintro ⟨a,b,c,d|d⟩
   ·exact .inl ⟨a,b,c,d⟩
   ·right
    obtain ⟨m,v⟩:=t
    simp only at c d
    rw [c,d]
 ·rw [List.pairwise_append]
  refine ⟨h.nd,List.pairwise_singleton _ _,fun x hx y hy=>?_⟩
  rw [Qm.1 hy]
  intro e
  have:=((h.mem x).1 hx).2.2.2
  rw [show x.m=k from e,hk] at this;cases this
theorem Gath.skip{f:Int→Int}{left:Int→Bool}{l:List Tm}{k:Int}(h:Gath f left l)(hn:¬ (0<k∧f k≠0)) : Gath f (fun x=>left x&&x != k) l:=by
 refine ⟨fun t=>?_,h.nd⟩
 rw [h.mem,Xb0]
 constructor
 ·rintro ⟨a,b,c,d⟩;exact ⟨a,b,c,.inl d⟩
 ·rintro ⟨a,b,c,d|d⟩
  ·exact ⟨a,b,c,d⟩
  ·rw [d] at a b;exact absurd ⟨a,b⟩ hn
theorem Gath.sub{f:Int→Int}{left:Int→Bool}{l:List Tm}(h:Gath f left l)(hs:SupF f) : ∀ t ∈ l,t ∈ tms f:=fun t ht=>by
 obtain ⟨a,b,c,_⟩:=(h.mem t).1 ht;exact ((X87 f).mem t).2 ⟨a,(hs _ b).2,c,b⟩
theorem X8s{α:Type}[DecidableEq α] : ∀ {l U:List α},l.Nodup→(∀ x ∈ l,x ∈ U)→l.length≤U.length
 | [],_,_,_=>Qf _
 | x::l,U,hn,hs=>by
  rw [List.nodup_cons] at hn
  have hx:=hs x (by simp)
  have:=X8s (l:=l) (U:=U.erase x) hn.2 fun y hy=>(List.mem_erase_of_ne (by rintro rfl;exact hn.1 hy)).2 (hs y (Ql _ hy))
  rw [List.length_erase_of_mem hx] at this
  have h0:0<U.length:=List.length_pos_of_mem hx
  rw [Qs];omega
theorem X7g:∀ {T:List Tm} {lo hi:Int},Rise T→(∀ t ∈ T,lo<t.m∧t.m<hi)→(T.length:Int)≤max 0 (hi-lo-1)
 | [],_,_,_,_=>by simp;omega
 | t::T,lo,hi,hr,hb=>by
  unfold Rise at hr
  rw [W8] at hr
  have h1:=hb t (by simp)
  have:=X7g (T:=T) (lo:=t.m) (hi:=hi) hr.2 fun x hx=>⟨hr.1 x hx,(hb x (Ql _ hx)).2⟩
  rw [Qs];omega
theorem Xkf(f:Int→Int) : (tms f).length≤16777216:=by
 have:=X7g (lo:=0) (hi:=16777216) (X87 f).rise fun t ht=>by
  obtain ⟨a,b,_⟩:=((X87 f).mem t).1 ht;exact ⟨a,b⟩
 omega
theorem Gath.len{f:Int→Int}{left:Int→Bool}{l:List Tm}(h:Gath f left l)(hs:SupF f) : l.length≤16777216:=by
 refine Q0 (X8s ?_ (h.sub hs)) (Xkf f)
 exact h.nd.imp fun h1 e=>h1 (by rw [e])
theorem Gath.end{f:Int→Int}{left:Int→Bool}{l l':List Tm}(h:Gath f left l)(hs:SupF f)(he:∀ x,left x=false)(hp:l'.Perm l)(hr:Rise l') : l'=tms f:=by
 refine IsT.eq ⟨hr,fun t=>?_⟩
 rw [hp.mem_iff,h.mem]
 constructor
 ·rintro ⟨a,b,c,_⟩;exact ⟨a,(hs _ b).2,c,b⟩
 ·rintro ⟨a,_,c,b⟩;exact ⟨a,b,c,he _⟩
abbrev psV(A:Option Addr)(c:Nat)(B:Option Addr)(d:Nat)(p:Ps) : Value:=.agg #[.int .i64 p.ins,.int .i64 p.vars,.int .i64 p.root,.int .i64 p.phase,.slice A p.ts.length c,.slice B p.out.length d]
def psO(c:Cx) : Option Ps:=if cOk c then psC c else none
theorem Xar{c:Cx}(h:cOk c=true) : ∃ n:Nat,c.n=(n:Int)∧1≤n∧n≤5:=by
 simp only [cOk,inR,Qd,Qr] at h
 exact ⟨c.n.toNat,by omega,by omega,by omega⟩
theorem X9v{c:Cx}(h:cOk c=true) : c.gs.length≤400:=by
 simp only [cOk,inR,Qd,Qr] at h
 omega
theorem Xgk{c:Cx}{n i:Nat}{u:Gt}(h:cOk c=true)(hn:c.n=(n:Int))(hu:c.gs[i]? = some u) : gOk (n:Int) u=true:=by
 simp only [cOk,Qd] at h
 have h2:=h.2
 rw [Bool.not_eq_true',W7] at h2
 have:=h2 u (Qe hu)
 rw [← hn]
 simpa using this
theorem Xky{k r:Int}{a:Af}(ha:AO a)(hr:Mk r) : ∀ p ∈ expL k a r,Mk p.1:=fun p hp=>by
 have hX:=fun k n=>X7q (k:=k) (r:=r) (Q:=Mk) (l:=lows a.m) (fun _ _ h1 h2=>h1.or h2) Mk.zero (fun x hx=>by
  obtain ⟨M,hM,e⟩:=ha.1.nat
  rw [e] at hx
  unfold lows at hx
  obtain ⟨q,hq,rfl⟩:=W6.1 hx
  have hq:M.testBit q=true:=(X4u (X29 hM)).1 hq
  refine Mk.of ?_
  rcases W4 q 24 with h'|h'
  ·exact Nat.pow_lt_pow_right (by decide) h'
  ·rw [Nat.testBit_lt_two_pow (Nat.lt_of_lt_of_le hM (Nat.pow_le_pow_right (by decide) h'))] at hq;cases hq) hr n
 unfold expL at hp
 split at hp
 ·rcases Qv.1 hp with rfl|hp
  ·exact hr
  ·exact hX _ _ p hp
 ·exact hX _ _ p hp
theorem X3q{m x:Int}(h:Mk m)(hx:x ∈ lows m) : Mk x:=by
 obtain ⟨M,hM,rfl⟩:=h.nat
 unfold lows at hx
 obtain ⟨q,hq,rfl⟩:=W6.1 hx
 have hq:M.testBit q=true:=(X4u (X29 hM)).1 hq
 refine Mk.of ?_
 rcases W4 q 24 with h'|h'
 ·exact Nat.pow_lt_pow_right (by decide) h'
 ·rw [Nat.testBit_lt_two_pow (Nat.lt_of_lt_of_le hM (Nat.pow_le_pow_right (by decide) h'))] at hq;cases hq
theorem Xe9{u v:Af}(hu:Mk u.m)(hv:Mk v.m) : ∀ p ∈ sumS u v,Mk p.1:=fun p hp=>by
 unfold sumS at hp
 rcases Qu.1 hp with hp|hp
 ·rcases Qu.1 hp with hp|hp
  ·obtain ⟨x,hx,hp⟩:=List.mem_flatMap.1 hp
   rcases Qu.1 hp with hp|hp
   ·obtain ⟨y,hy,rfl⟩:=W6.1 hp;exact (X3q hu hx).or (X3q hv hy)
   ·rw [Qm.1 hp];exact X3q hu hx
  ·obtain ⟨y,hy,rfl⟩:=W6.1 hp;exact X3q hv hy
 ·rw [Qm.1 hp];exact Mk.zero
theorem SupF.pad{f:Int→Int}(h:SupF f)(hp:PO f){m k:Int}(hm:Mk m) : SupF (padd f m k):=SupF.fold (L:=[(m,k)]) (fun p h=>by rw [Qm.1 h];exact hm) hp h
theorem SupF.exp{f:Int→Int}(h:SupF f)(hp:PO f){k r:Int}{a:Af}(ha:AO a)(hr:Mk r) : SupF (expP f k a r):=by
 rw [X3z]
 exact SupF.fold (Xky ha hr) hp h
theorem SupF.step{n:Nat}{s t:Pst}{g:Gt}(hs:SupF s.f)(h:PsOk n s)(e:psStep n s g=some t) : SupF t.f:=by
 have hu:=AO.at h.all g.a;have hv:=AO.at h.all g.b
 unfold psStep at e
 split at e
 ·split at e
  ·cases e
  ·injection e with e;subst e
   exact SupF.fold (Xe9 hu.1 (AO.var (by omega)).1) h.po hs
 ·split at e
  ·injection e with e;subst e;exact hs
  ·split at e
   ·injection e with e;subst e
    exact SupF.exp (hs.pad h.po Mk.zero) (h.po.padd _ _) hu Mk.zero
   ·split at e
    ·injection e with e;subst e;exact hs
    ·split at e
     ·injection e with e;subst e
      exact SupF.fold (Xe9 hu.1 hv.1) h.po hs
     ·split at e
      ·injection e with e;subst e;exact hs
      ·split at e
       ·injection e with e;subst e
        exact hs.pad h.po Mk.zero
       ·injection e with e;subst e
        exact hs.exp h.po hu Mk.zero
theorem SupF.zero:SupF (fun _=>0):=fun _ h=>absurd rfl h
def tZ:Tm:=⟨0,0⟩
section
variable {f : Int → Int} {m k : Int} {i : Nat}
end
def nS(m:Int)(i:Nat) : Nat:=(setN m.toNat).getD i 0
def szI(m:Int) : Nat:=(setN m.toNat).length
def okTa(n:Nat)(ts:List Tm)(i:Nat) : Bool:=
 inR (ts.getD i tZ).m 1 (((2^n:Nat) : Int)-1)&&decide (szI (ts.getD i tZ).m≤3)&&inR (ts.getD i tZ).c 1 7&&((ts.getD i tZ).c % ((2^(szI (ts.getD i tZ).m-1) : Nat) : Int)==0)&&(decide (i=0)||decide ((ts.getD (i-1) tZ).m<(ts.getD i tZ).m))
def okHd(p:Ps) : Bool:=inR p.ins 1 5&&inR p.vars 0 (24-p.ins)&&inR p.root (-60) 60&&inR p.phase 0 7&&decide ((p.out.length:Int)=p.ins)
def okAf(n:Nat)(a:Af) : Bool:=inR a.m 0 (((2^n:Nat) : Int)-1)&&inR a.t 0 1
def okTs(n:Nat)(ts:List Tm)(k:Nat) : Bool:=(List.range k).all (okTa n ts)
def validP(p:Ps) : Bool:=okHd p&&okTs (p.ins+p.vars).toNat p.ts p.ts.length&&p.out.all (okAf (p.ins+p.vars).toNat)
theorem Xla{m:Int}(h:Mk m)(h0:0<m) : 1≤szI m:=by
 obtain ⟨x,hx,rfl⟩:=h.nat
 unfold szI
 rw [show (x:Int).toNat=x from rfl]
 obtain ⟨q,t,e⟩:=Xjr (X29 hx) (by omega)
 rw [e];simp
theorem Xut{n:Nat}(h:n≤24) : 1≤2^n∧2^n≤16777216:=⟨Nat.two_pow_pos n,Q0 (Nat.pow_le_pow_right (by decide) h) (by decide)⟩
structure VPs (p:Ps) : Prop where
 ins:1≤p.ins∧p.ins≤5
 vars:0≤p.vars∧p.ins+p.vars≤24
 ph:0≤p.phase∧p.phase<8
 ts:OkT p.ts
 out:∀ a ∈ p.out,AO a∧a.m<((2^(p.ins+p.vars).toNat:Nat) : Int)
 tb:∀ t ∈ p.ts,t.m<((2^(p.ins+p.vars).toNat:Nat) : Int)
 sz:∀ t ∈ p.ts,szI t.m≤3
theorem VPs.of{p:Ps}(h:validP p=true) : VPs p:=by
 simp only [validP,okHd,Qd] at h
 obtain ⟨⟨⟨⟨⟨⟨h1,h2⟩,h3⟩,h4⟩,h5⟩,h6⟩,h7⟩:=h
 simp only [inR,Qd,Qr] at h1 h2 h3 h4
 have hn:=Xut (n:=(p.ins+p.vars).toNat) (by omega)
 have hT:∀ i,i<p.ts.length→(1≤(p.ts.getD i tZ).m∧(p.ts.getD i tZ).m≤((2^(p.ins+p.vars).toNat:Nat) : Int)-1)∧szI (p.ts.getD i tZ).m≤3∧(1≤(p.ts.getD i tZ).c∧(p.ts.getD i tZ).c≤7)∧(i=0∨(p.ts.getD (i-1) tZ).m<(p.ts.getD i tZ).m):=fun i hi=>by
  unfold okTs at h6
  have:=W1.1 h6 i (W2.2 hi)
  simp only [okTa,inR,Qd,Bool.or_eq_true,Qr] at this
  exact ⟨this.1.1.1.1,this.1.1.1.2,this.1.1.2,this.2⟩
 have hM:∀ t ∈ p.ts,(1≤t.m∧t.m≤((2^(p.ins+p.vars).toNat:Nat) : Int)-1)∧szI t.m≤3∧1≤t.c∧t.c≤7:=fun t ht=>by
  obtain ⟨i,hi,e⟩:=List.mem_iff_getElem.1 ht
  have:=hT i hi
  rw [show p.ts.getD i tZ=t from by rw [Qa,Qc hi,e];rfl] at this
  exact ⟨this.1,this.2.1,this.2.2.1⟩
 have hR:∀ j i,i<j→j<p.ts.length→(p.ts.getD i tZ).m<(p.ts.getD j tZ).m:=fun j=>by
  induction j with
  | zero=>intro i h;omega
  | succ j ih=>
   intro i hij hj;have h9:=(hT (j+1) hj).2.2.2
   rw [show j+1-1=j from rfl] at h9
   rcases h9 with h9|h9
   ·omega
   ·rcases W4 i j with h10|h10
    ·exact Int.lt_trans (ih i h10 (by omega)) h9
    ·rw [show i=j from by omega];exact h9
 refine ⟨h1,⟨h2.1,by omega⟩,⟨h4.1,by omega⟩,⟨?_,fun t ht=>?_⟩,fun a ha=>?_,fun t ht=>?_,fun t ht=>(hM t ht).2.1⟩
 ·unfold Rise
  rw [W0]
  intro i j hi hj hij
  have:=hR j i hij hj
  rw [Qa,Qa,Qc hi,Qc hj] at this
  exact this
 ·have:=hM t ht
  exact ⟨by omega,by omega,by omega,by omega⟩
 ·have:=W1.1 h7 a ha
  simp only [okAf,inR,Qd,Qr] at this
  exact ⟨⟨⟨this.1.1,by omega⟩,by omega⟩,by omega⟩
 ·have:=hM t ht
  omega
def bI(v:Nat)(m:Int) : Int:=if bitQ v m then 1 else 0
def woP(p:Ps)(v:Nat) : Ps:=⟨p.ins,p.vars-1,p.root,p.phase,p.ts.map (dT v),p.out.map (dA v)⟩
structure Ar where (c z:Int) (any pl:Bool)
def arStep(y:Nat)(s:Ar)(t:Tm) : Ar:=
 if bitQ y t.m then (if szI (xI t.m (pw y))=0 then ⟨t.c,s.z,true,s.pl⟩ else if szI (xI t.m (pw y))=1 then ⟨s.c,oI s.z (xI t.m (pw y)),true,s.pl&&t.c==4⟩ else ⟨s.c,s.z,true,false⟩) else s
def ar0:Ar:=⟨0,0,false,true⟩
def arF(y:Nat)(ts:List Tm) : Ar:=ts.foldl (arStep y) ar0
def ruK(ins:Int)(s:Ar) : Int:=
 if s.pl=false then 0 else if s.c=0∧s.z=0 then 1 else if s.c=2∨s.c=6 then 2 else if (s.c=0∨s.c=4)∧0<s.z/2^ins.toNat then 3 else 0
def outB(y:Nat)(l:List Af) : Bool:=l.any fun a=>bitQ y a.m
def ruR(p:Ps)(y:Nat) : Int×Int×Int:=
 if outB y p.out then (0,0,0) else if ruK p.ins (arF y p.ts)=0 then (0,0,0) else (ruK p.ins (arF y p.ts),(arF y p.ts).c,(arF y p.ts).z)
theorem Xgd{m:Int}(h:Mk m) : szI m=0↔m=0:=by
 constructor
 ·intro h0;refine Classical.byContradiction fun hn=>?_
  have:=Xla h (by have:=h.1;omega)
  omega
 ·rintro rfl;rfl
structure ArI (s:Ar) : Prop where
 c:0≤s.c∧s.c<8
 z:Mk s.z
 any:s.pl=true→s.any=true→s.c≠0∨s.z≠0
 none:s.any=false→s.c=0∧s.z=0
theorem Xq9{a b:Int}(ha:Mk a)(hb:Mk b)(h:b≠0) : oI a b≠0:=by
 obtain ⟨x,hx,rfl⟩:=ha.nat;obtain ⟨y,hy,rfl⟩:=hb.nat
 unfold oI
 rw [X36 (X29 hx) (X29 hy)]
 intro e
 have e:x ||| y=0:=by omega
 have:y=0:=by
  apply Nat.eq_of_testBit_eq
  intro i
  have:=congrArg (fun z=>z.testBit i) e
  simp only [Nat.testBit_or,Nat.zero_testBit,Bool.or_eq_false_iff] at this
  rw [this.2,Nat.zero_testBit]
 omega
theorem Xup{y:Nat}(hy:y<24) : Mk (pw y):=Mk.of (Nat.pow_lt_pow_right (by decide) hy)
theorem ArI.step{y:Nat}{s:Ar}{t:Tm}(h:ArI s)(ht:Mk t.m∧0<t.c∧t.c<8)(hy:y<24) : ArI (arStep y s t):=by
 have hr:=ht.1.xor (Xup hy)
 unfold arStep
 split
 ·split
  ·exact ⟨⟨by show 0≤t.c;omega,ht.2.2⟩,h.z,fun _ _=>.inl (by show t.c≠0;omega),fun e=>Bool.noConfusion e⟩
  ·split
   ·rename_i h1 h2
    refine ⟨h.c,h.z.or hr,fun _ _=>.inr (Xq9 h.z hr fun e=>?_),fun e=>Bool.noConfusion e⟩
    exact h1 ((Xgd hr).2 e)
   ·exact ⟨h.c,h.z,fun e=>Bool.noConfusion e,fun e=>Bool.noConfusion e⟩
 ·exact h
theorem ArI.fold{y:Nat}(hy:y<24) : ∀ (l:List Tm) {s:Ar},ArI s→(∀ t ∈ l,Mk t.m∧0<t.c∧t.c<8)→ArI (l.foldl (arStep y) s)
 | [],_,h,_=>h
 | t::l,s,h,ht=>ArI.fold hy l (h.step (ht t (by simp)) hy) fun x hx=>ht x (Ql _ hx)
theorem ArI.zero:ArI ar0:=⟨⟨by decide,by decide⟩,Mk.zero,fun _ e=>Bool.noConfusion e,fun _=>⟨rfl,rfl⟩⟩
theorem OkT.mks{ts:List Tm}(h:OkT ts) : ∀ t ∈ ts,Mk t.m:=fun t ht=>⟨by have:=(h.all t ht).1;omega,(h.all t ht).2.1⟩
def IsLow(x q:Nat) : Prop:=x.testBit q=true∧∀ i,i<q→x.testBit i=false
theorem IsLow.eq{x a b:Nat}(ha:IsLow x a)(hb:IsLow x b) : a=b:=by
 rcases Nat.lt_trichotomy a b with h|h|h
 ·have:=hb.2 a h;rw [ha.1] at this;cases this
 ·exact h
 ·have:=ha.2 b h;rw [hb.1] at this;cases this
def tzN(x:Nat) : Nat:=if x=0 then 64 else (setN x).getD 0 0
def rqZ(p:Ps)(y:Nat)(d:Int) : Ps:={ repP p y afZ with root:=p.root-d }
def vR(p:Ps)(y:Nat) : Nat:=nS (drI y (arF y p.ts).z/2^p.ins.toNat) 0+p.ins.toNat
def outR(p:Ps)(y:Nat) : Ps:=
 if ruK p.ins (arF y p.ts)=1 then rqZ p y 2
 else if ruK p.ins (arF y p.ts)=2 then omR (rqZ p y 1) (if (arF y p.ts).c=2 then 1 else 7) (if (arF y p.ts).c=2 then 6 else 2) (drI y (arF y p.ts).z)
 else repP (rqZ p y 2) (vR p y) ⟨xI (drI y (arF y p.ts).z) (pw (vR p y)),(arF y p.ts).c/4⟩
def inI(p:Ps)(z:Int) : Nat:=tzN (without z.toNat (2^p.ins.toNat-1))
def inJ(p:Ps)(y:Nat)(z:Int) : Nat:=if y<inI p z then inI p z-1 else inI p z
section
variable {p : Ps} {y : Nat} (h : VPs p) (hy : p.ins.toNat ≤ y ∧ y < 24) (ho : outB y p.out = false)
include h ho
include hy
end
def firstY(p:Ps) : Option Nat:=(List.range p.vars.toNat).find? fun j=>(ruR p (p.ins.toNat+j)).1 != 0
def stepP(p:Ps) : Option (Ps×Int):=(firstY p).map fun j=>(outR p (p.ins.toNat+j),(ruR p (p.ins.toNat+j)).1)
def nxtP(p:Ps) : Option (Ps×Int):=(stepP p).bind fun q=>if validP q.1 then some q else none
def redN:Nat→Ps→Ps×Nat
 | 0,p=>(p,0)
 | n+1,p=>match nxtP p with
  | none=>(p,0)
  | some q=>((redN n q.1).1,(redN n q.1).2+1)
def redP(p:Ps) : Ps×Nat:=redN p.vars.toNat p
def idP(p:Ps) : Bool:=decide (p.vars=0)&&decide (p.ts.length=0)&&decide (p.root=0)&&(List.range p.out.length).all fun q=>decide (p.out.getD q afZ=varA q)
section
variable {ts : List Tm} {v k : Nat} {y : Af} {u : Tm} {f g : Int → Int}
end
theorem AO.dA{v:Nat}{y:Af}(h:AO y) : AO (dA v y):=⟨h.1.dr,h.2⟩
def delF(y:Nat)(l:List Tm)(f:Int→Int) : Int→Int:=l.foldl (fun f t=>if bitQ y t.m then upd f t.m 0 else f) f
theorem PO.upd0{f:Int→Int}(h:PO f)(m:Int) : PO (upd f m 0):=fun x=>by
 unfold upd
 split
 ·exact ⟨Int.le_refl _,by decide⟩
 ·exact h x
theorem SupF.upd0{f:Int→Int}(h:SupF f)(m:Int) : SupF (upd f m 0):=fun x hx=>h x fun e=>hx (by
 unfold upd
 split
 ·rfl
 ·exact e)
def dbN:List Nat:=[0,1,56,2,57,49,28,3,61,58,42,50,38,29,17,4,62,47,59,36,45,43,51,22,53,39,33,30,24,18,12,5,63,55,48,27,60,41,37,16,46,35,44,21,52,32,23,11,54,26,40,15,34,20,31,10,25,14,19,9,13,8,7,6]
def dbL:List Value:=dbN.map fun (n:Nat)=>.int .u8 (n:Int)
def TabAt(w:World) : Prop:=At w ⟨1,0,none⟩ dbL
theorem TabAt.up{w w':World}{B:Nat}(h:TabAt w)(hb:Below B w w')(h1:1<B) : TabAt w':=fun j v hj=>by
 have:=h j v hj
 rw [← this]
 exact hb.cell (by rw [X5w];exact h1)
def dbI(q:Nat) : Nat:=2^q*285870213051353865 % 2^64/2^58
def chkT:Bool:=(List.range 64).all fun q=>dbN[dbI q]?==some q
section
variable {P : Program} {a : Act} {w : World} {n : Nat} {e : Env} {ty : TypeId} {pos : String} {af : Array Edge} {g : Option (Nat × Bool)} {d : Option Tmp} {t t' : TypeId} {x y : Operand} {i j : Int}
theorem Xmz{T E:TypeId}{len k:Nat}{vs:List Value}{v:Value}(hf:Fr a n e)(hx:ev e x=some (.agg vs.toArray))(hy:ev e y=some (.int .i64 i))(hT:P.underlying T=some (.array len E))(hs:SizeT P E 1)(h1:OneT P E)(hi:i=(k:Int))(hk:k<len)(hv:vs[k]? = some v) : Ev P ⟨d,.index T x y,ty,pos,af,g⟩ a w v:=fun w' _=>by
 subst hi
 have h4:=X0u (P:=P) hT w';have h5:=run_sizeOf' hs w';have h6:=X3r (P:=P) (w:=w') h1
 simp [execOp,hf.ev hx,hf.ev hy,Instr.index,asIntOf,h4,h5,h6,part,hk,hv]
theorem Xrs{T E:TypeId}{len k:Nat}{vs:List Value}{v:Value}(hx:ev e x=some (.agg vs.toArray))(hy:ev e y=some (.int .i64 i))(hT:P.underlying T=some (.array len E))(hs:SizeT P E 1)(h1:OneT P E)(hi:i=(k:Int))(hk:k<len)(hv:vs[k]? = some v) : EvW P ⟨d,.index T x y,ty,pos,af,g⟩ n e w v:=fun a hf=>Xmz hf hx hy hT hs h1 hi hk hv
end
section
variable {j : Nat} {s : Ar} {u : Tm}
end
section
variable {ins : Int} {s : Ar} (hp : s.pl = true)
include hp
end
def ruQ(p:Ps)(j:Nat) : Ps:=if ruK p.ins (arF j p.ts)=0 then psZ else outR p j
section
variable {p : Ps} {j : Nat} {s : Ar}
end
abbrev q3P(p:Ps)(k:Nat) : Ps:=repP (⟨(repP p (p.ins.toNat+k:Nat) afZ).ins,(repP p (p.ins.toNat+k:Nat) afZ).vars,((repP p (p.ins.toNat+k:Nat) afZ).root)-2,(repP p (p.ins.toNat+k:Nat) afZ).phase,(repP p (p.ins.toNat+k:Nat) afZ).ts,(repP p (p.ins.toNat+k:Nat) afZ).out⟩ : Ps) ((vR p (p.ins.toNat+k)) : Nat) (⟨(xI (drI (p.ins.toNat+k) (arF (p.ins.toNat+k) p.ts).z) (pw (vR p (p.ins.toNat+k)))),((arF (p.ins.toNat+k) p.ts).c/4)⟩ : Af)
abbrev q4P(p:Ps)(j:Nat) : Ps:=(⟨(stP p j 0 0).ins,(stP p j 0 0).vars,((stP p j 0 0).root)-2,(stP p j 0 0).phase,(stP p j 0 0).ts,(stP p j 0 0).out⟩ : Ps)
abbrev q5A(p:Ps)(j:Nat) : Af:=⟨drI j (xI (arF j p.ts).z (pw (inI p (arF j p.ts).z))),((arF j p.ts).c/4)⟩
def polF(q:Ps) : Int→Int:=foldA (sm q.ts) (cPh q.phase)
theorem X8t{α:Type}(p q r:α→Bool)(h:∀ x,r x=true→p x=true∨q x=true) : ∀ l:List α,(l.filter r).length≤(l.filter p).length+(l.filter q).length
 | []=>Qb _
 | a::l=>by
  have ih:=X8t p q r h l
  rw [List.filter_cons,List.filter_cons,List.filter_cons]
  cases hr:r a with
  | false=>
   rw [Q3 (by decide)]
   split
   ·split
    ·rw [Qs,Qs];omega
    ·rw [Qs];omega
   ·split
    ·rw [Qs];omega
    ·omega
  | true=>
   rw [Q4 rfl]
   rcases h a hr with h1|h1
   ·rw [h1,Q4 rfl,Qs,Qs]
    split
    ·rw [Qs];omega
    ·omega
   ·rw [h1,Q4 rfl,Qs,Qs]
    split
    ·rw [Qs];omega
    ·omega
theorem X86{a b:Int}(ha:Mk a)(hb:Mk b) : szI (oI a b)≤szI a+szI b:=by
 obtain ⟨x,hx,rfl⟩:=ha.nat;obtain ⟨y,hy,rfl⟩:=hb.nat
 unfold oI szI
 rw [X36 (X29 hx) (X29 hy)]
 unfold setN
 refine X8t _ _ _ (fun i h=>?_) _
 rw [show ((x ||| y:Nat) : Int).toNat=x ||| y from rfl,Nat.testBit_or,Bool.or_eq_true] at h
 exact h
theorem X7t{m x:Int}(hm:Mk m)(h:x ∈ lows m) : szI x=1:=by
 obtain ⟨M,hM,rfl⟩:=hm.nat
 unfold lows at h
 obtain ⟨k,hk,rfl⟩:=W6.1 h
 have hk62:k<62:=by unfold setN at hk;exact W2.1 (List.mem_filter.1 hk).1
 unfold szI
 rw [show (((2^k:Nat) : Int)).toNat=2^k from rfl]
 have:setN (2^k)=[k]:=by
  refine Xbq (Xg0 _) (List.pairwise_singleton _ _) fun t=>?_
  rw [X4u (X9i hk62),Nat.testBit_two_pow,Qm]
  simp [eq_comm]
 rw [this];rfl
def dv(m:Int) : Int:=((2^min (szI m-1) 3:Nat) : Int)
theorem X54{m:Int}{k:Int}{s:Nat}(h:szI m≤s)(hk:((2^(s-1) : Nat) : Int)∣k) : dv m∣k:=by
 refine Int.dvd_trans ?_ hk
 exact Int.ofNat_dvd.2 (Nat.pow_dvd_pow 2 (by omega))
theorem dv8(m:Int) : dv m∣8:=by
 have:dv m∣((2^3:Nat) : Int):=Int.ofNat_dvd.2 (Nat.pow_dvd_pow 2 (by omega))
 exact this
def Dv(f:Int→Int) : Prop:=∀ x,dv x∣f x
theorem Dv.padd{f:Int→Int}(h:Dv f){m k:Int}(hk:dv m∣k) : Dv (padd f m k):=fun x=>by
 unfold Proofs.YtpifljegadknkaaGreat.padd upd
 split
 ·rename_i e
  subst e
  rw [Int.emod_def]
  exact Int.dvd_sub (Int.dvd_add (h x) hk) (Int.dvd_trans (dv8 x) (Int.dvd_mul_right _ _))
 ·exact h x
theorem Dv.fold:∀ {L:List Sm} {f:Int→Int},Dv f→(∀ p ∈ L,dv p.1∣p.2)→Dv (foldA L f)
 | [],_,h,_=>h
 | p::L,f,h,hL=>Dv.fold (L:=L) (h.padd (hL p (by simp))) fun q hq=>hL q (Ql _ hq)
theorem Xac(k:Int) : dv 0∣k:=by
 have:dv 0=1:=by decide +kernel
 rw [this];exact Int.one_dvd _
section
variable {l : List Int} (hl : ∀ x ∈ l, Mk x ∧ szI x = 1)
include hl
theorem Xcm(n:Nat) : Mk (l.getD n 0)∧szI (l.getD n 0)≤1:=by
 rw [Qa]
 cases e:l[n]? with
 | none=>exact ⟨Mk.zero,by show szI 0≤1;decide +kernel⟩
 | some x=>have:=hl x (Qe e);exact ⟨this.1,Nat.le_of_eq this.2⟩
theorem Xdx{x y k:Int}(hx:Mk x∧szI x≤1)(hy:Mk y∧szI y≤1) : ∀ n,∀ p ∈ exZL 0 x y k l n,dv p.1∣p.2
 | 0,p,h=>by cases h
 | n+1,p,h=>by
  rcases Qu.1 h with h|h
  ·exact Xdx hx hy n p h
  ·rw [Qm.1 h]
   have hz:=Xcm hl n;have h1:=X86 Mk.zero hx.1;have h2:=X86 (Mk.zero.or hx.1) hy.1;have h3:=X86 ((Mk.zero.or hx.1).or hy.1) hz.1
   have h0:szI 0=0:=by decide +kernel
   exact X54 (s:=3) (by show szI (oI (oI (oI 0 x) y) (l.getD n 0))≤3;omega) (Int.dvd_mul_right 4 k)
theorem Xdb{x k:Int}(hx:Mk x∧szI x≤1) : ∀ n,∀ p ∈ exYL 0 x k l n,dv p.1∣p.2
 | 0,p,h=>by cases h
 | n+1,p,h=>by
  have hy:=Xcm hl n
  rcases Qu.1 h with h|h
  ·exact Xdb hx n p h
  ·rcases Qv.1 h with rfl|h
   ·have h1:=X86 Mk.zero hx.1;have h2:=X86 (Mk.zero.or hx.1) hy.1
    have h0:szI 0=0:=by decide +kernel
    refine X54 (s:=2) (by show szI (oI (oI 0 x) (l.getD n 0))≤2;omega) ?_
    show (2:Int) ∣ -2*k
    exact Int.dvd_trans (by decide) (Int.dvd_mul_right (-2) k)
   ·exact Xdx hl hx hy n p h
theorem Xa9{k:Int} : ∀ n,∀ p ∈ exXL 0 k l n,dv p.1∣p.2
 | 0,p,h=>by cases h
 | n+1,p,h=>by
  have hy:=Xcm hl n
  rcases Qu.1 h with h|h
  ·exact Xa9 n p h
  ·rcases Qv.1 h with rfl|h
   ·have h1:=X86 Mk.zero hy.1
    have h0:szI 0=0:=by decide +kernel
    exact X54 (s:=1) (by show szI (oI 0 (l.getD n 0))≤1;omega) (Int.one_dvd _)
   ·exact Xdb hl hy n p h
end
theorem Xdj{k:Int}{a:Af}(ha:Mk a.m) : ∀ p ∈ expL k a 0,dv p.1∣p.2:=fun p hp=>by
 have hl:∀ x ∈ lows a.m,Mk x∧szI x=1:=fun x hx=>⟨X3q ha hx,X7t ha hx⟩
 unfold expL at hp
 split at hp
 ·rcases Qv.1 hp with rfl|hp
  ·exact Xac _
  ·exact Xa9 hl _ p hp
 ·exact Xa9 hl _ p hp
theorem Xdy{u v:Af}(hu:Mk u.m)(hv:Mk v.m) : ∀ p ∈ sumS u v,dv p.1∣p.2:=fun p hp=>by
 have h4:∀ k:Int,(2:Int)∣4*k:=fun k=>Int.dvd_trans (by decide) (Int.dvd_mul_right 4 k)
 unfold sumS at hp
 rcases Qu.1 hp with hp|hp
 ·rcases Qu.1 hp with hp|hp
  ·obtain ⟨x,hx,hp⟩:=List.mem_flatMap.1 hp
   rcases Qu.1 hp with hp|hp
   ·obtain ⟨y,hy,rfl⟩:=W6.1 hp;have h1:=X86 (X3q hu hx) (X3q hv hy);have h2:=X7t hu hx;have h3:=X7t hv hy;exact X54 (s:=2) (by show szI (oI x y)≤2;omega) (show (2:Int)∣4 by decide)
   ·rw [Qm.1 hp]
    exact X54 (s:=1) (Nat.le_of_eq (X7t hu hx)) (Int.one_dvd _)
  ·obtain ⟨y,hy,rfl⟩:=W6.1 hp;exact X54 (s:=1) (Nat.le_of_eq (X7t hv hy)) (Int.one_dvd _)
 ·rw [Qm.1 hp];exact Xac _
def Lt(N:Nat)(m:Int) : Prop:=Mk m∧m<((2^N:Nat) : Int)
theorem Lt.zero(N:Nat) : Lt N 0:=⟨Mk.zero,by have:=Nat.two_pow_pos N;omega⟩
theorem Lt.or{N:Nat}{a b:Int}(ha:Lt N a)(hb:Lt N b) : Lt N (oI a b):=by
 refine ⟨ha.1.or hb.1,?_⟩
 obtain ⟨x,hx,rfl⟩:=ha.1.nat;obtain ⟨y,hy,rfl⟩:=hb.1.nat
 unfold oI
 rw [X36 (X29 hx) (X29 hy)]
 have h1:=ha.2;have h2:=hb.2;exact Int.ofNat_lt.2 (Nat.or_lt_two_pow (Int.ofNat_lt.1 h1) (Int.ofNat_lt.1 h2))
theorem Lt.xor{N:Nat}{a b:Int}(ha:Lt N a)(hb:Lt N b) : Lt N (xI a b):=by
 refine ⟨ha.1.xor hb.1,?_⟩
 obtain ⟨x,hx,rfl⟩:=ha.1.nat;obtain ⟨y,hy,rfl⟩:=hb.1.nat
 unfold xI
 rw [X46 (X29 hx) (X29 hy)]
 exact Int.ofNat_lt.2 (Nat.xor_lt_two_pow (Int.ofNat_lt.1 ha.2) (Int.ofNat_lt.1 hb.2))
theorem Lt.mono{N M:Nat}(h:N≤M){m:Int}(hm:Lt N m) : Lt M m:=⟨hm.1,by
 have:=Nat.pow_le_pow_right (n:=2) (by decide) h
 have:=hm.2
 omega⟩
theorem X69{N:Nat}{m x:Int}(h:Lt N m)(hx:x ∈ lows m) : Lt N x:=by
 refine ⟨X3q h.1 hx,?_⟩
 obtain ⟨M,hM,rfl⟩:=h.1.nat
 unfold lows at hx
 obtain ⟨k,hk,rfl⟩:=W6.1 hx
 have hk:M.testBit k=true:=(X4u (X29 hM)).1 hk
 have:2^k≤M:=Nat.ge_two_pow_of_testBit hk
 have:=h.2
 omega
theorem Xei{N:Nat}{k r:Int}{a:Af}(ha:Lt N a.m)(hr:Lt N r) : ∀ p ∈ expL k a r,Lt N p.1:=fun p hp=>by
 have hX:=fun k n=>X7q (k:=k) (r:=r) (Q:=Lt N) (l:=lows a.m) (fun _ _ h1 h2=>h1.or h2) (Lt.zero N) (fun x hx=>X69 ha hx) hr n
 unfold expL at hp
 split at hp
 ·rcases Qv.1 hp with rfl|hp
  ·exact hr
  ·exact hX _ _ p hp
 ·exact hX _ _ p hp
theorem Xe4{N:Nat}{u v:Af}(hu:Lt N u.m)(hv:Lt N v.m) : ∀ p ∈ sumS u v,Lt N p.1:=fun p hp=>by
 unfold sumS at hp
 rcases Qu.1 hp with hp|hp
 ·rcases Qu.1 hp with hp|hp
  ·obtain ⟨x,hx,hp⟩:=List.mem_flatMap.1 hp
   rcases Qu.1 hp with hp|hp
   ·obtain ⟨y,hy,rfl⟩:=W6.1 hp;exact (X69 hu hx).or (X69 hv hy)
   ·rw [Qm.1 hp];exact X69 hu hx
  ·obtain ⟨y,hy,rfl⟩:=W6.1 hp;exact X69 hv hy
 ·rw [Qm.1 hp];exact Lt.zero N
def SupN(N:Nat)(f:Int→Int) : Prop:=∀ x,f x≠0→Lt N x
theorem SupN.fold{N:Nat}{L:List Sm}(h:∀ p ∈ L,Lt N p.1){f:Int→Int}(hf:PO f)(hs:SupN N f) : SupN N (foldA L f):=fun x hx=>by
 rw [X3x _ hf] at hx
 by_cases e:f x=0
 ·refine Classical.byContradiction fun hn=>hx ?_
  rw [e,X40 fun p hp e2=>hn (by rw [← e2];exact h p hp)];rfl
 ·exact hs x e
structure PsV (n:Nat) (s:Pst) : Prop where
 ok:PsOk n s
 sup:SupN (n+s.v) s.f
 dv:Dv s.f
 out:∀ a ∈ s.out,Lt (n+s.v) a.m
theorem Lt.at{N:Nat}{l:List Af}(h:∀ a ∈ l,Lt N a.m)(i:Int) : Lt N (aAt l i).m:=by
 unfold aAt
 rw [Qa]
 cases e:l[i.toNat]? with
 | none=>exact Lt.zero N
 | some a=>exact h a (Qe e)
theorem Xeq{n:Nat}(h:n<24) : Lt (n+1) (varA n).m:=⟨(AO.var h).1,Int.ofNat_lt.2 (Nat.pow_lt_pow_right (by decide) (Nat.lt_succ_self n))⟩
theorem PsV.step{n:Nat}{s t:Pst}{g:Gt}(h:PsV n s)(e:psStep n s g=some t) : PsV n t:=by
 have hok:=h.ok.step e;have hu:=AO.at h.ok.all g.a;have hv:=AO.at h.ok.all g.b
 have lu:=Lt.at h.out g.a
 have lv:=Lt.at h.out g.b
 have h0:∀ k,SupN (n+s.v) (padd s.f 0 k):=fun k=>SupN.fold (L:=[(0,k)]) (fun p hp=>by rw [Qm.1 hp];exact Lt.zero _) h.ok.po h.sup
 have d0:∀ k,Dv (padd s.f 0 k):=fun k=>h.dv.padd (Xac k)
 unfold psStep at e
 split at e
 ·split at e
  ·cases e
  ·rename_i h24
   have hvar:=Xeq (n:=n+s.v) (by omega)
   injection e with e;subst e
   refine ⟨hok,SupN.fold (Xe4 (lu.mono (by show n+s.v≤n+(s.v+1);omega)) hvar) h.ok.po (fun x hx=>(h.sup x hx).mono (by show n+s.v≤n+(s.v+1);omega)),Dv.fold h.dv (Xdy hu.1 hvar.1),X2c (fun a ha=>(h.out a ha).mono (by show n+s.v≤n+(s.v+1);omega)) hvar⟩
 ·split at e
  ·injection e with e;subst e
   exact ⟨hok,h.sup,h.dv,X2c h.out (lu.xor (Lt.zero _))⟩
  ·split at e
   ·injection e with e;subst e
    refine ⟨hok,?_,?_,X2c h.out (lu.xor (Lt.zero _))⟩
    ·show SupN _ (expP _ _ _ _)
     rw [X3z]
     exact SupN.fold (Xei lu (Lt.zero _)) (h.ok.po.padd _ _) (h0 2)
    ·show Dv (expP _ _ _ _)
     rw [X3z]
     exact Dv.fold (d0 2) (Xdj hu.1)
   ·split at e
    ·injection e with e;subst e
     exact ⟨hok,h.sup,h.dv,X2c h.out (lu.xor lv)⟩
    ·split at e
     ·injection e with e;subst e
      exact ⟨hok,SupN.fold (Xe4 lu lv) h.ok.po h.sup,Dv.fold h.dv (Xdy hu.1 hv.1),h.out⟩
     ·split at e
      ·injection e with e;subst e
       exact ⟨hok,h.sup,h.dv,X2c (X2c h.out lv) lu⟩
      ·split at e
       ·injection e with e;subst e
        exact ⟨hok,h0 1,d0 1,h.out⟩
       ·injection e with e;subst e
        refine ⟨hok,?_,?_,h.out⟩
        ·show SupN _ (expP _ _ _ _)
         rw [X3z]
         exact SupN.fold (Xei lu (Lt.zero _)) h.ok.po h.sup
        ·show Dv (expP _ _ _ _)
         rw [X3z]
         exact Dv.fold h.dv (Xdj hu.1)
theorem PsV.fold{n:Nat} : ∀ (l:List Gt) {s t:Pst},PsV n s→psAll n l s=some t→PsV n t
 | [],s,t,h,e=>by injection e with e;subst e;exact h
 | g::l,s,t,h,e=>by
  have e:(psStep n s g).bind (psAll n l)=some t:=e
  cases h1:psStep n s g with
  | none=>rw [h1] at e;cases e
  | some u=>rw [h1] at e;exact PsV.fold l (h.step h1) e
theorem PsV.zero{n:Nat}(h:n≤5) : PsV n (ps0 n):=⟨PsOk.zero h,fun x hx=>absurd rfl hx,fun x=>Int.dvd_zero _,fun a ha=>by
 simp only [ps0,varsN,W6,W2] at ha
 obtain ⟨k,hk,rfl⟩:=ha
 exact (Xeq (by omega)).mono (by show k+1≤n+0;omega)⟩
structure BdP (p q:Ps) : Prop where
 mks:∀ t ∈ q.ts,Mk t.m
 len:q.ts.length≤16777216
 out:q.out.length≤100000000
 ins:-1000≤q.ins∧q.ins≤1000
 vars:-1000≤q.vars∧q.vars≤1000
structure VPr (p:Ps) : Prop where
 v:VPs p
 root:-60≤p.root∧p.root≤60
 len:p.ts.length≤16777216
 out:p.out.length≤5
theorem VPr.of{p:Ps}(h:validP p=true) : VPr p:=by
 have hv:=VPs.of h
 simp only [validP,okHd,Qd] at h
 obtain ⟨⟨⟨⟨⟨⟨h1,h2⟩,h3⟩,h4⟩,h5⟩,h6⟩,h7⟩:=h
 simp only [inR,Qd,Qr] at h1 h2 h3 h4 h5
 refine ⟨hv,h3,?_,by omega⟩
 have:=X7g (lo:=0) (hi:=16777216) hv.ts.rise fun t ht=>⟨(hv.ts.all t ht).1,(hv.ts.all t ht).2.1⟩
 omega
def bQ(j:Nat)(x:Af) : Bool:=bits .and .i64 (x.m/2^j) 1==1
def rdP(p:Ps) : Ps×Nat:=if validP p then redP p else (psZ,0)
def idK(l:List Af)(k:Nat) : Bool:=(List.range k).all fun q=>decide (l.getD q afZ=varA q)
def idH(p:Ps) : Bool:=decide (p.vars=0)&&decide (p.ts.length=0)&&decide (p.root=0)
def invG(g:Gt) : List Gt:=List.replicate (bkN g).toNat (bkG g)
def invL(gs:List Gt) : List Gt:=gs.reverse.flatMap invG
def invO(c:Cx) : Option Cx:=if cOk c&&decide ((invL c.gs).length≤400) then some ⟨c.n,invL c.gs⟩ else none
def conO(a b:Cx) : Option Cx:=if cOk a&&cOk b&&decide (a.n=b.n)&&decide (a.gs.length+b.gs.length≤400) then some ⟨a.n,a.gs++b.gs⟩ else none
def veP(p:Ps) : Int×Int×Bool:=if idP (redP p).1 then (1,(redP p).1.phase,true) else if (redP p).1.vars=0 then (2,0,true) else (0,0,true)
def veO(o:Option Cx) : Int×Int×Bool:=(o.bind psC).elim (0,0,false) veP
def veM(a b:Cx) : Int×Int×Bool:=veO ((invO b).bind (conO a))
theorem Xru(w0:World)(k:Int) : Ret Tryz.prog 144 [vi k] w0 (fun v w=>v=vi (rotC k)∧w0=w):=by
 refine enter Tryz.func144 rfl 14 rfl rfl ?_;intro a b
 have hW:=bz w0
 refine Zs b fun _ aL=>?_;refine Za rfl<|ZX aL fun a b _ aM=>?_;refine Zs b fun _ aN=>?_;refine Zm rfl<|Zt aN fun a b=>?_;refine Q8<|Zs b fun _ aO=>?_;refine Ze (X0a rfl rfl)<|Za rfl<|Zt aO fun a b=>?_
 refine Xh b rfl (fun a6=>?_) (fun a6=>?_)
 ·have aC:=a6;refine Zs b fun _ aP=>?_;refine Za rfl<|Zt aP fun a b=>?_;refine Q6<|Xq<|X7<|X5 b (Xr b rfl rfl) ?_;exact ⟨by unfold rotC;simp_all,rfl⟩
 have aC:=a6;refine Zs b fun _ aQ=>?_;refine Ze (X0a rfl rfl)<|Za rfl<|Zt aQ fun a b=>?_
 refine Xh b rfl (fun a7=>?_) (fun a7=>?_)
 ·have aD:=a7;refine Zs b fun _ aR=>?_;refine Za rfl<|Zt aR fun a b=>?_;refine Q6<|Xq<|X7<|X5 b (Xr b rfl rfl) ?_;exact ⟨by unfold rotC;simp_all,rfl⟩
 have aD:=a7;refine Zs b fun _ aE=>?_;refine Ze (X0a rfl rfl)<|Za rfl<|Zt aE fun a b=>?_
 refine Xh b rfl (fun c=>?_) (fun c=>?_)
 ·have a8:=c;refine Zs b fun _ aF=>?_;refine Za rfl<|Zt aF fun a b=>?_;refine Q6<|Xq<|X7<|X5 b (Xr b rfl rfl) ?_;exact ⟨by unfold rotC;simp_all,rfl⟩
 have a8:=c;refine Zs b fun _ aG=>?_;refine Ze (X0a rfl rfl)<|Za rfl<|Zt aG fun a b=>?_
 refine Xh b rfl (fun d=>?_) (fun d=>?_)
 ·have aA:=d;refine Zs b fun _ aH=>?_;refine Za rfl<|Zt aH fun a b=>?_;refine Q6<|Xq<|X7<|X5 b (Xr b rfl rfl) ?_;exact ⟨by unfold rotC;simp_all,rfl⟩
 have aA:=d;refine Zs b fun _ aI=>?_;refine Ze (X0a rfl rfl)<|Za rfl<|Zt aI fun a b=>?_
 refine Xh b rfl (fun e=>?_) (fun e=>?_)
 ·have aB:=e;refine Zs b fun _ aJ=>?_;refine Za rfl<|Zt aJ fun a b=>?_;refine Q6<|Xq<|X7<|X5 b (Xr b rfl rfl) ?_;exact ⟨by unfold rotC;simp_all,rfl⟩
 have aB:=e;refine Q7<|Xd<|aM _ _<|Zs b fun _ aK=>?_;refine Za rfl<|Zt aK fun a b=>?_
 refine Q6 (X5 b (Xr b rfl rfl) ?_)
 exact ⟨by unfold rotC;simp_all,rfl⟩
end Go.Proofs.YtpifljegadknkaaGreat
namespace Go.Proofs.YtpifljegadknkaaGreat
section
variable {G K : Type} [DecidableEq K]
def wds(gs:List G) : Nat→List (List G)
 | 0=>[[]]
 | k+1=>(wds gs k).flatMap fun u=>gs.map fun g=>u++[g]
def skW(gs:List G)(P:List G→Bool) : Nat→List G→Option (List G)
 | 0,p=>if P p then some p else none
 | k+1,p=>gs.findSome? fun g=>skW gs P k (p++[g])
def lsW(gs:List G)(P:List G→Bool) : Nat→Option (List G)
 | 0=>(wds gs 0).find? P
 | k+1=>(lsW gs P k).or ((wds gs (k+1)).find? P)
def enT(ky:List G→K)(T:K→Option (List G)) : List (List G)→(K→Option (List G))×List (List G)
 | []=>(T,[])
 | w::l=>match T (ky w) with
  | some _=>enT ky T l
  | none=>let r:=enT ky (fun q=>if q=ky w then some w else T q) l;(r.1,w::r.2)
def grT(gs:List G)(ky:List G→K) : Nat→(K→Option (List G))×List (List G)
 | 0=>((fun q=>if q=ky [] then some [] else none),[[]])
 | k+1=>enT ky (grT gs ky k).1 ((grT gs ky k).2.flatMap fun u=>gs.map fun g=>u++[g])
end
def rLess(x y:Rg) : Bool:=if x.a≠y.a then decide (x.a<y.a) else if x.b≠y.b then decide (x.b<y.b) else if x.c≠y.c then decide (x.c<y.c) else decide (x.d<y.d)
def bestT(x:Rg) : Nat→Nat
 | 0=>0
 | n+1=>if rLess (rTurnN (bestT x n) x) (rTurnN (n+1) x)=true then n+1 else bestT x n
def turnK(x:Rg) : Nat:=bestT x 7
def canK(l:List Dy) : Option Nat:=(l.find? fun x=>decide (x≠dZ)).map fun x=>turnK x.num
def canL(l:List Dy) : Option (List Dy):=(canK l).map fun (k:Nat)=>l.map (dTurn (k:Int))
def gsT(n:Nat) : List Gt:=if n=2 then [⟨1,0,0⟩,⟨1,1,0⟩,⟨5,0,0⟩,⟨5,1,0⟩,⟨7,0,0⟩,⟨7,1,0⟩,⟨9,0,1⟩,⟨9,1,0⟩] else [⟨1,0,0⟩,⟨5,0,0⟩,⟨7,0,0⟩]
def valW(n:Nat)(w:List Gt) : Mx:=(opI ⟨n,w⟩).getD mZ
def kyW(n:Nat)(w:List Gt) : Option (List Dy):=canL (valW n w).cells
def fdS(n:Nat)(M:Mx) : Nat→Mx→Option (List Gt)
 | 0,x=>if phaseS x M=true then some [] else none
 | k+1,x=>(gsT n).findSome? fun g=>(fdS n M k (timesS false (gateS n g) x).2).map (g :: ·)
end Go.Proofs.YtpifljegadknkaaGreat
namespace Go.Proofs.YtpifljegadknkaaGreat
open Go
def dgV(l:List UInt8) : Nat:=l.foldl (fun a b=>10*a+(b.toNat-48)) 0
def txR(z:Rg) : List UInt8:=Lib.join [Lib.itoa z.a,Lib.itoa z.b,Lib.itoa z.c,Lib.itoa z.d] [32]
def txD(x:Dy) : List UInt8:=txR x.num++[47]++Lib.itoa x.exp
def txK(l:List Dy) : List UInt8:=Lib.join (l.map txD) [44]
end Go.Proofs.YtpifljegadknkaaGreat
namespace Go.Proofs.YtpifljegadknkaaGreat
open Go.RowKit
def entS(p:ByteArray×Value×Nat) : MapEntry:={ key:=.string p.1,val:=p.2.1,born:=p.2.2 }
def findS(l:List (ByteArray×Value×Nat))(s:ByteArray) : Option Value:=(l.find? fun p=>decide (p.1=s)).map fun p=>p.2.1
def MapS(w:World)(b:Nat)(f:ByteArray→Option Value) : Prop:=∃ l clock,w.heap[b]? = some (.map (l.map entS).toArray clock)∧∀ s,findS l s=f s
def updS(f:ByteArray→Option Value)(s:ByteArray)(v:Value) : ByteArray→Option Value:=fun x=>if x=s then some v else f x
section
variable {w w' : World} {b b' : Nat} {f : ByteArray → Option Value}
theorem MapS.lt(h:MapS w b f) : b<w.heap.size:=by
 obtain ⟨l,c,h,_⟩:=h
 rcases W4 b w.heap.size with h'|h'
 ·exact h'
 ·simp [We h'] at h
theorem MapS.keep(h:MapS w b f)(e:w'.heap[b]? = w.heap[b]?) : MapS w' b f:=let ⟨l,c,h,g⟩:=h;⟨l,c,e.trans h,g⟩
theorem MapS.below(h:MapS w b f)(hb:Below w.heap.size w w') : MapS w' b f:=h.keep (hb.block b h.lt)
theorem MapS.only(h:MapS w b f)(ho:Only b' w w')(hne:b≠b') : MapS w' b f:=h.keep (ho.block b hne)
theorem MapS.nc(h:MapS w b f) : NC w b:=fun l T fz e=>by
 obtain ⟨_,_,h,_⟩:=h
 rw [h] at e;cases e
theorem MapS.ne{T:TypeId}{l:List Value}(h:MapS w b f)(h':Blk w b' T l) : b≠b':=by
 rintro rfl;obtain ⟨_,_,h,_⟩:=h
 unfold Blk at h'
 rw [h] at h';cases h'
theorem MapS.app{α:Type}{B:Nat}{E:TypeId}{enc:α→List Value}{A:Option Addr}{l:List α}{sz n c c':Nat}(h:MapS w b f)(ho:Own w B E sz enc A c l)(hg:w.grownBy w' (Value.slice A n c').ownBlock) : MapS w' b f:=h.keep (h.nc.app h.lt ho hg)
end
section
variable {P : Program} {a : Act} {w : World} {n : Nat} {e : Env} {ty : TypeId} {pos : String} {af : Array Edge} {g : Option (Nat × Bool)} {d : Option Tmp} {b : Nat} {f : ByteArray → Option Value} {T K E : TypeId}
end
def kyT(o:Option (List Dy)) : ByteArray:=⟨(txK (o.getD [])).toArray⟩
def tbW(n k:Nat) : (ByteArray→Option (List Gt))×List (List Gt):=grT (gsT n) (fun w=>kyT (kyW n w)) k
def rndW{G:Type}(gs:List G)(lev:List (List G))(i j:Nat) : List (List G):=((lev.take i).flatMap fun u=>gs.map fun g=>u++[g])++((gs.take j).map fun g=>(lev.getD i [])++[g])
structure Tw where (A:Option Addr) (c:Nat) (w:List Gt) (m:Mx) (B:Option Addr) (d:Nat)
def encTw(t:Tw) : List Value:=[.slice t.A t.w.length t.c,.int .i64 t.m.rows,.int .i64 t.m.cols,.slice t.B t.m.cells.length t.d]
def DeepT(w:World)(B:Nat)(E F:TypeId)(l:List Tw) : Prop:=∀ t ∈ l,Rd w B E encG t.A t.w∧Rd w B F encD t.B t.m.cells
structure Sq where (A:Option Addr) (c:Nat) (w:List Gt)
abbrev Sq.v(s:Sq) : Value:=.slice s.A s.w.length s.c
def DeepM(w:World)(B:Nat)(E:TypeId)(f:ByteArray→Option Sq) : Prop:=∀ s x,f s=some x→Rd w B E encG x.A x.w
def sgF(f:ByteArray→Option Sq) : ByteArray→Option Value:=fun s=>(f s).map Sq.v
def sgL(f:ByteArray→Option Sq) : ByteArray→Option (List Gt):=fun s=>(f s).map Sq.w
def updG(f:ByteArray→Option Sq)(s:ByteArray)(x:Sq) : ByteArray→Option Sq:=fun q=>if q=s then some x else f q
section
variable {w w' : World} {B : Nat} {E F : TypeId} {l : List Tw} {f : ByteArray → Option Sq}
theorem DeepT.nil(w:World)(B:Nat)(E F:TypeId) : DeepT w B E F []:=fun s hs=>by simp at hs
theorem DeepT.snoc{x:Tw}(h:DeepT w B E F l)(h1:Rd w B E encG x.A x.w)(h2:Rd w B F encD x.B x.m.cells) : DeepT w B E F (l++[x]):=fun s hs=>by
 rcases Qu.1 hs with hs|hs
 ·exact h s hs
 ·obtain rfl:=Qm.1 hs;exact ⟨h1,h2⟩
theorem DeepT.below(h:DeepT w B E F l)(hb:Below w.heap.size w w') : DeepT w' B E F l:=fun s hs=>⟨(h s hs).1.below hb,(h s hs).2.below hb⟩
theorem DeepT.top(h:DeepT w B E F l) : DeepT w w.heap.size E F l:=fun s hs=>⟨(h s hs).1.top,(h s hs).2.top⟩
theorem DeepT.only{b:Nat}(h:DeepT w B E F l)(ho:Only b w w')(hB:B≤b) : DeepT w' B E F l:=fun s hs=>⟨(h s hs).1.only ho hB,(h s hs).2.only ho hB⟩
theorem DeepT.onlyN{b:Nat}(h:DeepT w B E F l)(ho:Only b w w')(hm:NC w b) : DeepT w' B E F l:=fun s hs=>⟨(h s hs).1.onlyN ho hm,(h s hs).2.onlyN ho hm⟩
theorem DeepT.onlyT{b:Nat}{T:TypeId}{lc:List Value}(h:DeepT w B E F l)(ho:Only b w w')(hb:Blk w b T lc)(hT:Nat.beq E T=false)(hT':Nat.beq F T=false) : DeepT w' B E F l:=fun s hs=>⟨(h s hs).1.onlyT ho hb hT,(h s hs).2.onlyT ho hb hT'⟩
theorem DeepT.appT{B0:Nat}{E':TypeId}{sz:Nat}{α:Type}{enc:α→List Value}{A:Option Addr}{c:Nat}{m:List α}(h:DeepT w B E F l)(ho:Own w B0 E' sz enc A c m)(hg:w.grownBy w' (Value.slice A m.length c).ownBlock)(hT:Nat.beq E' E=false)(hT':Nat.beq E' F=false) : DeepT w' B E F l:=fun s hs=>⟨(h s hs).1.appT ho hg hT,(h s hs).2.appT ho hg hT'⟩
theorem DeepT.one{x:Tw}(h1:Rd w B E encG x.A x.w)(h2:Rd w B F encD x.B x.m.cells) : DeepT w B E F [x]:=DeepT.snoc (DeepT.nil w B E F) h1 h2
theorem DeepM.below(h:DeepM w B E f)(hb:Below w.heap.size w w') : DeepM w' B E f:=fun s x hs=>(h s x hs).below hb
theorem DeepM.top(h:DeepM w B E f) : DeepM w w.heap.size E f:=fun s x hs=>(h s x hs).top
theorem DeepM.only{b:Nat}(h:DeepM w B E f)(ho:Only b w w')(hB:B≤b) : DeepM w' B E f:=fun s x hs=>(h s x hs).only ho hB
theorem DeepM.onlyN{b:Nat}(h:DeepM w B E f)(ho:Only b w w')(hm:NC w b) : DeepM w' B E f:=fun s x hs=>(h s x hs).onlyN ho hm
theorem DeepM.onlyT{b:Nat}{T:TypeId}{lc:List Value}(h:DeepM w B E f)(ho:Only b w w')(hb:Blk w b T lc)(hT:Nat.beq E T=false) : DeepM w' B E f:=fun s x hs=>(h s x hs).onlyT ho hb hT
theorem DeepM.appT{B0:Nat}{E':TypeId}{sz:Nat}{α:Type}{enc:α→List Value}{A:Option Addr}{c:Nat}{m:List α}(h:DeepM w B E f)(ho:Own w B0 E' sz enc A c m)(hg:w.grownBy w' (Value.slice A m.length c).ownBlock)(hT:Nat.beq E' E=false) : DeepM w' B E f:=fun s x hs=>(h s x hs).appT ho hg hT
theorem DeepM.none(w:World)(B:Nat)(E:TypeId) : DeepM w B E (fun _=>Option.none):=fun _ _ h=>by cases h
theorem DeepM.upd{s:ByteArray}{x:Sq}(h:DeepM w B E f)(hx:Rd w B E encG x.A x.w) : DeepM w B E (updG f s x):=fun q y hy=>by
 unfold updG at hy
 split at hy
 ·injection hy with hy;subst hy;exact hx
 ·exact h q y hy
end
end Go.Proofs.YtpifljegadknkaaGreat
namespace Go.Proofs.YtpifljegadknkaaGreat
def mstW(n:Nat) : Nat:=if n=2 then 4 else 8
def nW(m:Mx) : Nat:=if m.rows=4 then 2 else 1
def sqW(m:Mx) : Bool:=mOk m&&(decide (m.rows=m.cols)&&(decide (m.rows=2)||decide (m.rows=4)))
def shS(m:Mx) : Option (List Gt):=if sqW m=true then lsW (gsT (nW m)) (fun w=>phaseS (valW (nW m) w) m) (mstW (nW m)) else none
def shI(m:Mx) : Option (List Gt):=if (sqW m&&(canL m.cells).isSome)=true then (tbW (nW m) (mstW (nW m))).1 (kyT (canL m.cells)) else none
def srS(n:Nat)(M:Mx) : Nat→Option (List Gt)
 | 0=>fdS n M 0 (unitS (2^n))
 | k+1=>(srS n M k).or (fdS n M (k+1) (unitS (2^n)))
def szD(l:List Dy)(left:Int) : Int:=if left-(l.length:Int)<0 then -1 else left-(l.length:Int)
def dimS(n:Int) : Bool:=[1,2,4,8,16,32].any fun y=>y==n
def cmI(x y:Int) : Int:=if x<y then -1 else if y<x then 1 else 0
def cmL:List Int→List Int→Int
 | [],[]=>0
 | [],_::_=>-1
 | _::_,[]=>1
 | x::l,y::r=>if cmI x y≠0 then cmI x y else cmL l r
def cmR(x y:Rg) : Int:=cmL [x.a,x.b,x.c,x.d] [y.a,y.b,y.c,y.d]
def idxF{α:Type}(l:List α)(q:α→Bool) : Int:=match l.findIdx? q with
 | some k=>(k:Int)
 | none=>-1
theorem X82{α:Type}{q:α→Bool} : ∀ {l:List α} {k:Nat} {u:α},((l.take k).all fun x=>!q x)=true→l[k]? = some u→q u=true→idxF l q=(k:Int):=by
 intro l k u h1 h2 h3;obtain ⟨h4,h5⟩:=Qg.1 h2
 have:l.findIdx? q=some k:=by
  rw [List.findIdx?_eq_some_iff_getElem]
  refine ⟨h4,by rw [h5];exact h3,fun j hj=>?_⟩
  have:=W1.1 h1 l[j] (by rw [List.mem_iff_getElem];exact ⟨j,by simp;omega,by simp⟩)
  simpa using this
 unfold idxF;rw [this]
end Go.Proofs.YtpifljegadknkaaGreat
namespace Go.Proofs.YtpifljegadknkaaGreat
open Go.RowKit
theorem Xsz(w0:World)(x:Int) : Ret Tryz.prog 194 [vi x] w0 (fun v w=>v=.bool false∧w0=w):=by
 refine enter Tryz.func194 rfl 6 rfl rfl ?_;intro a hf
 have hW:=bz w0
 refine Zs hf fun _ a6=>?_;refine Za rfl<|Zx a6 fun a hf _ a7=>?_;refine Zm rfl<|Zm rfl<|Ze (X18 rfl rfl)<|Za rfl<|Zt a7 fun a hf=>?_
 refine Q6 (X5 hf (Xr hf rfl rfl) ?_)
 exact ⟨by simp,rfl⟩
theorem Xde(w0:World)(x:Int)(y:Int) : Ret Tryz.prog 150 [vi x,vi y] w0 (fun v w=>v=vi (cmI x y)∧w0=w):=by
 refine enter Tryz.func150 rfl 20 rfl rfl ?_;intro a d
 have hW:=bz w0
 refine Zs d fun _ aF=>?_;refine Za rfl<|Zx aF fun a d _ aG=>?_;refine Zm rfl<|Zf (Vc (Xsz _ x) Xih) ?_;rintro _ _ ⟨rfl,rfl⟩;refine Za rfl<|Zx aG fun a d _ aH=>?_;refine Zm rfl<|Zf (Vc (Xsz _ y) Xih) ?_;rintro _ _ ⟨rfl,rfl⟩;refine Za rfl<|ZX aH fun a d _ aI=>?_;refine Zs d fun _ aJ=>?_;refine Zm rfl<|Zt aJ fun a d=>?_;refine Xel d rfl ?_;refine Q7<|aI _ _<|Q5 fun _ aK=>?_;refine Zs d fun _ aL=>?_;refine Zm rfl<|Zt aL fun a d=>?_;refine Xel d rfl ?_;refine Q7<|aK _ _<|Q5 fun _ aM=>?_;refine Zs d fun _ aN=>?_;refine Zm rfl<|Zm rfl<|Ze (X0m rfl rfl)<|Zt aN fun a d=>?_
 refine Xh d rfl (fun b=>?_) (fun b=>?_)
 ·have a6:=b;have b:=Q2 b
  have e:cmI x y = -1:=by rw [cmI,Q4 b]
  refine Zs d fun _ a8=>?_;refine Za rfl<|Zt a8 fun a d=>?_;refine Q6<|X7<|X5 d (Xr d rfl rfl) ?_;exact ⟨by rw [e],rfl⟩
 have a6:=b;have b:=Q1 b;have aA:=b;refine Q7<|aM _ _<|Q5 fun _ aB=>?_;refine Zs d fun _ aC=>?_;refine Zm rfl<|Zm rfl<|Ze (X7x rfl rfl)<|Zt aC fun a d=>?_
 refine Xh d rfl (fun c=>?_) (fun c=>?_)
 ·have a7:=c;have c:=Q2 c
  have e:cmI x y=1:=by rw [cmI,Q3 aA,Q4 c]
  refine Zs d fun _ aD=>?_;refine Za rfl<|Zt aD fun a d=>?_;refine Q6<|X7<|X5 d (Xr d rfl rfl) ?_;exact ⟨by rw [e],rfl⟩
 have a7:=c;have c:=Q1 c
 have e:cmI x y=0:=by rw [cmI,Q3 aA,Q3 c]
 refine Q7<|aB _ _<|Zs d fun _ aE=>?_;refine Za rfl<|Zt aE fun a d=>?_
 refine Q6 (X5 d (Xr d rfl rfl) ?_)
 exact ⟨by rw [e],rfl⟩
theorem gapp{α:Type}{w0 w w':World}{R:Option Nat}{E:TypeId}{sz c:Nat}{enc:α→List Value}{A:Option Addr}{l:List α}(h:w0.grownBy w R)(ho:Own w w0.heap.size E sz enc A c l)(hg:w.grownBy w' (Value.slice A l.length c).ownBlock) : w0.grownBy w' R:=
 ⟨hg.os.trans h.os,hg.tape.trans h.tape,hg.output.trans h.output,Q0 h.size hg.size,fun k hk h1=>(hg.block k (Nat.lt_of_lt_of_le hk h.size) (fun e=>by have:=(ho.block e.symm).1;omega)).trans (h.block k hk h1)⟩
structure Nd where
 k:Int
 p:Int
deriving DecidableEq
structure Wr where
 a:Int
 b:Int
 h:Bool
deriving DecidableEq
structure Dg where
 n:Int
 ns:List Nd
 ws:List Wr
 t:Int
 r:Int
deriving DecidableEq
def nZ:Nd:=⟨0,0⟩
def wZ:Wr:=⟨0,0,false⟩
def encNd(x:Nd) : List Value:=[.int .i64 x.k,.int .i64 x.p]
def encWr(x:Wr) : List Value:=[.int .i64 x.a,.int .i64 x.b,.bool x.h]
theorem Xt:∀ x,(encNd x).length=2:=fun _=>rfl
theorem X2f:∀ x,(encNd x).all one=true:=fun _=>rfl
theorem Xx:∀ x,(encWr x).length=3:=fun _=>rfl
theorem X1c:∀ x,(encWr x).all one=true:=fun _=>rfl
def wlt(x y:Wr) : Bool:=decide (x.a<y.a)||(x.a==y.a&&decide (x.b<y.b))
abbrev WSd(l:List Wr) : Prop:=l.Pairwise fun x y=>wlt x y=true
theorem X3k{x y:Wr} : wlt x y=true↔x.a<y.a∨(x.a=y.a∧x.b<y.b):=by unfold wlt;simp
theorem X6u{x y:Wr} : wlt x y=false↔y.a<x.a∨(x.a=y.a∧y.b≤x.b):=by
 have h:=@X3k x y
 cases hw:wlt x y with
 | true=>simp only [Bool.true_eq_false,false_iff];have:=h.1 hw;omega
 | false=>
  simp only [true_iff]
  have h2:¬ (x.a<y.a∨(x.a=y.a∧x.b<y.b)):=fun h9=>by rw [h.2 h9] at hw;cases hw
  omega
theorem Xd2{x y z:Wr}(h1:wlt x y=true)(h2:wlt y z=true) : wlt x z=true:=by rw [X3k] at *;omega
def isW(a b:Int)(w:Wr) : Bool:=w.a==min a b&&w.b==max a b
theorem X3j{a b:Int}{w:Wr} : isW a b w=true↔w.a=min a b∧w.b=max a b:=by unfold isW;simp
def fdW(l:List Wr)(a b:Int) : Int:=idxF l (isW a b)
theorem Xiu(a b:Int)(w:Wr) : isW a b w=isW b a w:=by unfold isW;rw [Int.min_comm,Int.max_comm]
theorem Xdp(l:List Wr)(a b:Int) : fdW l a b=fdW l b a:=by
 unfold fdW
 rw [show isW a b=isW b a from funext (Xiu a b)]
theorem X4h{α:Type}(l:List α)(q:α→Bool) : (idxF l q = -1∧∀ x ∈ l,q x=false)∨∃ k:Nat,∃ x,idxF l q=(k:Int)∧l[k]? = some x∧q x=true:=by
 unfold idxF
 cases h:l.findIdx? q with
 | none=>exact .inl ⟨rfl,fun x hx=>by have:=List.findIdx?_eq_none_iff.1 h x hx;simpa using this⟩
 | some k=>
  obtain ⟨h1,h2,_⟩:=List.findIdx?_eq_some_iff_getElem.1 h;exact .inr ⟨k,l[k],rfl,Qc h1,h2⟩
theorem X4t(l:List Wr)(a b:Int) : (fdW l a b = -1∧∀ w ∈ l,isW a b w=false)∨∃ k:Nat,∃ w,fdW l a b=(k:Int)∧l[k]? = some w∧isW a b w=true:=X4h l (isW a b)
theorem Xn8{l:List Wr}{a b:Int}(h:∀ w ∈ l,isW a b w=false) : fdW l a b = -1:=by
 rcases X4t l a b with h1|⟨k,w,_,h2,h3⟩
 ·exact h1.1
 ·rw [h w (Qe h2)] at h3;cases h3
theorem Xir{l:List Wr}{a b:Int}(h:fdW l a b<0) : ∀ w ∈ l,isW a b w=false:=by
 rcases X4t l a b with h1|⟨k,w,h1,_⟩
 ·exact h1.2
 ·omega
def insW:List Wr→Wr→List Wr
 | [],x=>[x]
 | y::l,x=>if wlt y x=true then y::insW l x else x::y::l
def jnW(l:List Wr)(a b:Int)(h:Bool) : List Wr:=insW l ⟨min a b,max a b,h⟩
def ctW(l:List Wr)(i:Nat) : List Wr:=l.take i++l.drop (i+1)
def tyW(l:List Wr)(a b:Int) : Int:=if fdW l a b<0 then 0 else if (l.getD (fdW l a b).toNat wZ).h=true then 2 else 1
theorem Xem(l:List Wr)(a b:Int) : tyW l a b=tyW l b a:=by unfold tyW;rw [Xdp]
theorem Xf1:∀ (l:List Wr) (x:Wr),(insW l x).length=l.length+1
 | [],x=>rfl
 | y::l,x=>by
  unfold insW
  split
  ·rw [Qs,Xf1 l x];rfl
  ·rfl
theorem Xah{z:Wr} : ∀ {l:List Wr} {x:Wr},z ∈ insW l x↔z=x∨z ∈ l
 | [],x=>by simp [insW]
 | y::l,x=>by
  unfold insW
  split
  ·rw [Qv,Xah (l:=l),Qv]
   constructor
   ·rintro (h|h|h)
    ·exact .inr (.inl h)
    ·exact .inl h
    ·exact .inr (.inr h)
   ·rintro (h|h|h)
    ·exact .inr (.inl h)
    ·exact .inl h
    ·exact .inr (.inr h)
  ·rw [Qv,Qv]
theorem Xhd:∀ (l:List Wr) (x:Wr) (k:Nat),((l.take k).all fun y=>wlt y x)=true→(∀ y,l[k]? = some y→wlt y x=false)→insW l x=l.take k++[x]++l.drop k
 | [],x,k,_,_=>by simp [insW]
 | y::l,x,0,_,h=>by
  have h:=h y rfl
  unfold insW
  rw [Q3 (by rw [h];decide)]
  rfl
 | y::l,x,k+1,ha,h=>by
  simp only [List.take_succ_cons,List.all_cons,Qd] at ha
  have ih:=Xhd l x k ha.2 (fun z hz=>h z (by simpa using hz))
  unfold insW
  rw [Q4 ha.1,ih]
  simp
theorem Xd0:∀ {l:List Wr} {x:Wr},WSd l→(∀ y ∈ l,¬ (y.a=x.a∧y.b=x.b))→WSd (insW l x)
 | [],x,_,_=>by simp [insW]
 | y::l,x,hl,hx=>by
  have hl':=W8.1 hl
  unfold insW
  split
  ·rename_i hy
   refine W8.2 ⟨fun z hz=>?_,Xd0 hl'.2 fun z hz=>hx z (by simp [hz])⟩
   rcases Xah.1 hz with rfl|hz
   ·exact hy
   ·exact hl'.1 z hz
  ·rename_i hy
   have hxy:wlt x y=true:=by
    rw [Bool.not_eq_true] at hy
    have h1:=X6u.1 hy
    have h2:=hx y (by simp)
    rw [X3k]
    omega
   refine W8.2 ⟨fun z hz=>?_,hl⟩
   rcases Qv.1 hz with rfl|hz
   ·exact hxy
   ·exact Xd2 hxy (hl'.1 z hz)
theorem X8y{l:List Wr}{a b:Int}{h:Bool}(hl:WSd l)(hf:fdW l a b<0) : WSd (jnW l a b h):=
 Xd0 hl fun y hy h9=>by
  have:=Xir hf y hy
  rw [X3j.2 h9] at this
  cases this
theorem X7y{z:Wr}{l:List Wr}{a b:Int}{h:Bool} : z ∈ jnW l a b h↔z=⟨min a b,max a b,h⟩∨z ∈ l:=Xah
theorem X3t(l:List Wr)(i:Nat) : (ctW l i).Sublist l:=by
 unfold ctW
 rw [← List.eraseIdx_eq_take_drop_succ]
 exact List.eraseIdx_sublist l i
theorem Xc9{l:List Wr}(hl:WSd l)(i:Nat) : WSd (ctW l i):=hl.sublist (X3t l i)
theorem Xqo{l:List Wr}{i:Nat}(h:i<l.length) : (ctW l i).length+1=l.length:=by
 unfold ctW
 rw [Qh,Qn,List.length_drop]
 omega
theorem Xhr{l:List Wr}(hl:WSd l){i j:Nat}{x y:Wr}(hi:l[i]? = some x)(hj:l[j]? = some y)(ha:x.a=y.a)(hb:x.b=y.b) : i=j:=by
 obtain ⟨h1,rfl⟩:=Qg.1 hi;obtain ⟨h2,rfl⟩:=Qg.1 hj;have hp:=W0.1 hl
 rcases Nat.lt_trichotomy i j with h|h|h
 ·have:=hp i j h1 h2 h;rw [X3k] at this;omega
 ·exact h
 ·have:=hp j i h2 h1 h;rw [X3k] at this;omega
theorem Xf3{l:List Wr}(hl:WSd l){a b:Int}{i:Nat}{w:Wr}(hi:l[i]? = some w)(hw:isW a b w=true) : fdW (ctW l i) a b = -1:=by
 refine Xn8 fun z hz=>?_
 cases hq:isW a b z with
 | false=>rfl
 | true=>
  exfalso
  have e1:=X3j.1 hw
  have e2:=X3j.1 hq
  unfold ctW at hz
  rcases Qu.1 hz with h|h
  ·obtain ⟨j,hj⟩:=List.mem_iff_getElem?.1 h
   rw [List.getElem?_take] at hj
   split at hj
   ·have:=Xhr hl hi hj (by omega) (by omega);omega
   ·cases hj
  ·obtain ⟨j,hj⟩:=List.mem_iff_getElem?.1 h
   rw [List.getElem?_drop] at hj
   have:=Xhr hl hi hj (by omega) (by omega);omega
def spI(ns:List Nd)(k:Int) : Bool:=inR k 0 ((ns.length:Int)-1)&&(ns.getD k.toNat nZ).k==3
def adN(ns:List Nd)(k by_:Int) : List Nd:=ns.set k.toNat ⟨(ns.getD k.toNat nZ).k,((ns.getD k.toNat nZ).p+by_) % 8⟩
def dpN(ns:List Nd)(k:Int) : List Nd:=ns.set k.toNat nZ
def dpW(ws:List Wr)(k:Int) : List Wr:=ws.filter fun w=>w.a != k&&w.b != k
theorem X1s(ns:List Nd)(k m:Int) : (adN ns k m).length=ns.length:=List.length_set
theorem X1m(ns:List Nd)(k:Int) : (dpN ns k).length=ns.length:=List.length_set
def otW(k:Int)(w:Wr) : Option Int:=if k=w.a then some w.b else if k=w.b then some w.a else none
def nearW(ws:List Wr)(k:Int) : List Int:=ws.filterMap (otW k)
structure InW (ws:List Wr) : Prop where
 s:WSd ws
 l:∀ w ∈ ws,w.a<w.b
theorem X4z{k v:Int}{w:Wr}(h:otW k w=some v) : (k=w.a∧v=w.b)∨(k=w.b∧v=w.a):=by
 unfold otW at h
 split at h
 ·injection h with h;exact .inl ⟨by assumption,h.symm⟩
 ·split at h
  ·injection h with h;exact .inr ⟨by assumption,h.symm⟩
  ·cases h
theorem Xju{ws:List Wr}(h:InW ws){k x v:Int}{i j:Nat}{w' w:Wr}(hi:ws[i]? = some w')(hj:ws[j]? = some w)(hij:i<j)(h1:otW k w'=some x)(h2:otW k w=some v) : x<v:=by
 obtain ⟨e1,e1'⟩:=Qg.1 hi;obtain ⟨e2,e2'⟩:=Qg.1 hj;have hp:=W0.1 h.s i j e1 e2 hij
 have l1:=h.l w' (Qe hi)
 have l2:=h.l w (Qe hj)
 rw [e1',e2',X3k] at hp
 rcases X4z h1 with ⟨a1,a2⟩|⟨a1,a2⟩<;>rcases X4z h2 with ⟨b1,b2⟩|⟨b1,b2⟩<;>omega
theorem X3d{k:Int} : ∀ {ws:List Wr},InW ws→Inc (nearW ws k)
 | [],_=>List.Pairwise.nil
 | w::ws,h=>by
  have h':InW ws:=⟨(W8.1 h.s).2,fun x hx=>h.l x (by simp [hx])⟩
  have ih:=X3d (k:=k) h'
  unfold nearW at *
  rw [List.filterMap_cons]
  cases hw:otW k w with
  | none=>exact ih
  | some v=>
   refine W8.2 ⟨fun x hx=>?_,ih⟩
   obtain ⟨w',hw',he⟩:=List.mem_filterMap.1 hx;obtain ⟨j,hj⟩:=List.mem_iff_getElem?.1 hw';exact Xju h (i:=0) (j:=j+1) rfl (by simpa using hj) (by omega) hw he
theorem Xe0:∀ {l:List Int} {v:Int},(∀ x ∈ l,x<v)→putI l v=l++[v]
 | [],v,_=>rfl
 | x::l,v,h=>by
  unfold putI
  rw [Q4 (h x (by simp)),Xe0 fun y hy=>h y (by simp [hy])]
  rfl
theorem X6s{ws:List Wr}{k:Int}{j:Nat}{w:Wr}(hj:ws[j]? = some w) : nearW (ws.take (j+1)) k=nearW (ws.take j) k++(otW k w).toList:=by
 unfold nearW
 rw [Qt,hj,Option.toList_some,List.filterMap_append]
 cases h:otW k w<;>simp [h]
theorem X8m{ws:List Wr}{k:Int}{j:Nat}{w:Wr}(hj:ws[j]? = some w)(h1:(k==w.a)=false)(h2:(k==w.b)=false) : nearW (ws.take (j+1)) k=nearW (ws.take j) k:=by
 have e1:¬ k=w.a:=by simpa using h1
 have e2:¬ k=w.b:=by simpa using h2
 rw [X6s hj]
 unfold otW
 rw [Q3 e1,Q3 e2]
 simp
theorem Xc4{ws:List Wr}{k:Int}{j:Nat}{w:Wr}(hj:ws[j]? = some w)(h1:(k==w.a)=true) : nearW (ws.take (j+1)) k=nearW (ws.take j) k++[w.b]:=by
 have e1:k=w.a:=by simpa using h1
 rw [X6s hj]
 unfold otW
 rw [Q4 e1]
 rfl
theorem Xc1{ws:List Wr}{k:Int}{j:Nat}{w:Wr}(hj:ws[j]? = some w)(h1:(k==w.a)=false)(h2:(k==w.b)=true) : nearW (ws.take (j+1)) k=nearW (ws.take j) k++[w.a]:=by
 have e1:¬ k=w.a:=by simpa using h1
 have e2:k=w.b:=by simpa using h2
 rw [X6s hj]
 unfold otW
 rw [Q3 e1,Q4 e2]
 rfl
theorem Xat{ws:List Wr}(h:InW ws){k v:Int}{j:Nat}(hj:nearW (ws.take (j+1)) k=nearW (ws.take j) k++[v]) : putI (nearW (ws.take j) k) v=nearW (ws.take j) k++[v]:=by
 have hi:=X3d (k:=k) (ws:=ws.take (j+1)) ⟨h.s.sublist (List.take_sublist _ _),fun w hw=>h.l w (Wd hw)⟩
 rw [hj] at hi
 refine Xe0 fun x hx=>?_;exact (List.pairwise_append.1 hi).2.2 x hx v (by simp)
theorem X1y(ws:List Wr)(k:Int) : (nearW ws k).length≤ws.length:=List.length_filterMap_le _ _
theorem X67{ws:List Wr}{k v:Int} : v ∈ nearW ws k↔∃ w ∈ ws,otW k w=some v:=List.mem_filterMap
theorem X6e{α:Type}{l:List α}{q:α→Bool}{k:Nat}{u:α}(h:((l.take k).all fun x=>!q x)=true)(hu:l[k]? = some u)(hq:q u=false) : ((l.take (k+1)).all fun x=>!q x)=true:=by
 rw [Qt,hu,Option.toList_some,List.all_append,h]
 simp [hq]
theorem X7h{α:Type}{l:List α}{q:α→Bool}{k:Nat}(h:((l.take k).all fun x=>!q x)=true)(hk:l.length≤k) : idxF l q = -1:=by
 rw [Qi hk] at h
 rcases X4h l q with h1|⟨j,x,_,h2,h3⟩
 ·exact h1.1
 ·have:=W1.1 h x (Qe h2)
  rw [h3] at this
  cases this
theorem Xbi{l:List Wr}{a b:Int}(h:0≤fdW l a b) : ∃ w,l[(fdW l a b).toNat]? = some w∧isW a b w=true∧(fdW l a b).toNat<l.length:=by
 rcases X4t l a b with ⟨h1,_⟩|⟨k,w,h1,h2,h3⟩
 ·omega
 ·rw [h1]
  exact ⟨w,h2,h3,(Qg.1 h2).1⟩
theorem X6x(l:List Wr)(a b:Int) : fdW l a b<l.length:=by
 rcases X4t l a b with ⟨h1,_⟩|⟨k,w,h1,h2,_⟩
 ·omega
 ·have:=(Qg.1 h2).1;omega
theorem X4e(l:List Wr)(a b:Int)(h:Bool) : (jnW l a b h).length=l.length+1:=Xf1 _ _
theorem Xb{α:Type}{l:List α}{k:Nat}{d:α}(h:k<l.length) : l[k]? = some (l.getD k d):=by
 rw [Qa,Qc h]
 rfl
theorem Xkz{α:Type}{l:List α}{k:Nat}{d:α}(h:decide ((k:Int)<(l.length:Int))=true) : l[k]? = some (l.getD k d):=Xb (by simpa using h)
theorem Xkn{l:List Wr}{x:Wr}{k:Nat}(ha:((l.take k).all fun y=>wlt y x)=true)(h:(decide ((k:Int)<(l.length:Int))&&wlt (l.getD k wZ) x)=false) : insW l x=l.take k++[x]++l.drop k:=by
 refine Xhd l x k ha fun y hy=>?_;have h1:=(Qg.1 hy).1
 have e:l.getD k wZ=y:=by rw [Qa,hy];rfl
 rw [e,decide_eq_true (by omega),Qw] at h
 exact h
theorem Xmx{l:List Wr}{x:Wr}{k:Nat}(ha:((l.take k).all fun y=>wlt y x)=true)(h:(decide ((k:Int)<(l.length:Int))&&wlt (l.getD k wZ) x)=true) : ((l.take (k+1)).all fun y=>wlt y x)=true∧k+1≤l.length:=by
 rw [Qd,Qr] at h
 have hk:k<l.length:=by omega
 refine ⟨?_,by omega⟩
 rw [Qt,Xb (d:=wZ) hk,Option.toList_some,List.all_append,ha,List.all_cons,h.2]
 rfl
def lkD(d:Dg)(a b:Int)(h:Bool) : Dg:=
 if fdW d.ws a b<0 then { d with ws:=jnW d.ws a b h }
 else if ((d.ws.getD (fdW d.ws a b).toNat wZ).h&&h)=true then { d with ws:=ctW d.ws (fdW d.ws a b).toNat,r:=wr (d.r-2) }
 else if ((d.ws.getD (fdW d.ws a b).toNat wZ).h != h)=true then { d with ns:=adN d.ns (min a b) 4,ws:=jnW (ctW d.ws (fdW d.ws a b).toNat) a b false,r:=wr (d.r-1) }
 else d
def tgD(d:Dg)(a b:Int) : Dg:=
 if 0≤fdW d.ws a b then { d with ws:=ctW d.ws (fdW d.ws a b).toNat,r:=wr (d.r-1) } else { d with ws:=jnW d.ws a b true,r:=wr (d.r+1) }
def mtD(d:Dg)(a b:Int)(h:Bool) : Dg:=if (spI d.ns a&&spI d.ns b)=true then lkD d a b h else { d with ws:=jnW d.ws a b h }
theorem Xuc{d:Dg}{a b:Int}(h:0≤fdW d.ws a b) : tgD d a b = { d with ws:=ctW d.ws (fdW d.ws a b).toNat,r:=wr (d.r-1) }:=Q4 h
theorem Xrz{d:Dg}{a b:Int}(h:¬ 0≤fdW d.ws a b) : tgD d a b = { d with ws:=jnW d.ws a b true,r:=wr (d.r+1) }:=Q3 h
theorem Xrp{d:Dg}{a b:Int}{h:Bool}(h1:fdW d.ws a b<0) : lkD d a b h = { d with ws:=jnW d.ws a b h }:=Q4 h1
theorem Xu6{d:Dg}{a b:Int}{h:Bool}(h1:¬ fdW d.ws a b<0)(h2:((d.ws.getD (fdW d.ws a b).toNat wZ).h&&h)=true) : lkD d a b h = { d with ws:=ctW d.ws (fdW d.ws a b).toNat,r:=wr (d.r-2) }:=by
 unfold lkD;rw [Q3 h1,Q4 h2]
theorem Xpp{d:Dg}{a b:Int}{h:Bool}(h1:¬ fdW d.ws a b<0)(h2:((d.ws.getD (fdW d.ws a b).toNat wZ).h&&h)=false)(h3:((d.ws.getD (fdW d.ws a b).toNat wZ).h != h)=true) : lkD d a b h = { d with ns:=adN d.ns (min a b) 4,ws:=jnW (ctW d.ws (fdW d.ws a b).toNat) a b false,r:=wr (d.r-1) }:=by
 unfold lkD;rw [Q3 h1,Q3 (by rw [h2];decide),Q4 h3]
theorem Xsx{d:Dg}{a b:Int}{h:Bool}(h1:¬ fdW d.ws a b<0)(h2:((d.ws.getD (fdW d.ws a b).toNat wZ).h&&h)=false)(h3:((d.ws.getD (fdW d.ws a b).toNat wZ).h != h)=false) : lkD d a b h=d:=by
 unfold lkD;rw [Q3 h1,Q3 (by rw [h2];decide),Q3 (by rw [h3];decide)]
theorem Xv5{d:Dg}{a b:Int}{h:Bool}(h1:(spI d.ns a&&spI d.ns b)=true) : mtD d a b h=lkD d a b h:=Q4 h1
theorem Xui{d:Dg}{a b:Int}{h:Bool}(h1:(spI d.ns a&&spI d.ns b)=false) : mtD d a b h = { d with ws:=jnW d.ws a b h }:=Q3 (by rw [h1];decide)
theorem X30{α:Type}{l:List α}{q:α→Bool}{j:Nat}{u:α}(hu:l[j]? = some u) : (l.take (j+1)).filter q=(l.take j).filter q++(if q u=true then [u] else []):=by
 rw [Qt,hu,Option.toList_some,List.filter_append]
 cases h:q u<;>simp [h]
theorem Xh6{α:Type}{l:List α}{q:α→Bool}{k:Nat}{u:α}(h:(l.take k).all q=true)(hu:l[k]? = some u)(hq:q u=true) : (l.take (k+1)).all q=true:=by
 rw [Qt,hu,Option.toList_some,List.all_append,h]
 simp [hq]
theorem Xgt{α:Type}{l:List α}{q:α→Bool}{k:Nat}{u:α}(hu:l[k]? = some u)(hq:q u=false) : l.all q=false:=by
 rw [List.all_eq_false]
 exact ⟨u,Qe hu,by rw [hq];decide⟩
theorem Xd5{α:Type}{l:List α}{q:α→Bool}{k:Nat}(h:(l.take k).all q=true)(hk:l.length≤k) : l.all q=true:=by rwa [Qi hk] at h
def rdQ(d:Dg)(l:List Int)(i:Nat) : Bool:=spI d.ns (l.getD i 0)&&(l.take i).all fun y=>tyW d.ws (l.getD i 0) y != 1
def rdyD(d:Dg)(l:List Int) : Bool:=(List.range l.length).all (rdQ d l)
def othW(ws:List Wr)(k c:Int) : List Int:=(nearW ws k).filter fun v=>v != c
def hadD(d:Dg)(k:Int) : Bool:=(nearW d.ws k).all fun v=>tyW d.ws k v==2
theorem X4w{q:Nat→Bool}{n k:Nat}(hk:k<n)(hq:q k=false) : (List.range n).all q=false:=by
 rw [List.all_eq_false]
 exact ⟨k,W2.2 hk,by rw [hq];decide⟩
theorem X4j{q:Nat→Bool}{n:Nat}(h:∀ j,j<n→q j=true) : (List.range n).all q=true:=W1.2 fun j hj=>h j (W2.1 hj)
theorem Xgn{N:Nat}{w w':World}{A:Option Addr}{n c:Nat}(hg:w.grownBy w' (Value.slice A n c).ownBlock)(hb:∀ k,ownB A=some k→N≤k) : Keep (some (.base N)) w w':=
 ⟨hg.os,hg.tape,hg.output,hg.size,fun k hk=>hg.block k (by omega) fun e=>by rw [X4g] at e;have:=hb k e.symm;omega⟩
theorem X8h{N:Nat}{w w':World}{A:Option Addr}{n c:Nat}(hg:w.grownBy w' (Value.slice A n c).ownBlock)(hb:∀ k,ownB A=some k→N≤k)(hN:N≤w.heap.size) : Below N w w':=
 ⟨hg.os,hg.tape,hg.output,hg.size,fun k hk=>hg.block k (by omega) fun e=>by rw [X4g] at e;have:=hb k e.symm;omega⟩
def PhN(ns:List Nd) : Prop:=∀ x ∈ ns,0≤x.p∧x.p≤7
theorem X1i{ns:List Nd}(h:PhN ns)(k:Nat) : 0≤(ns.getD k nZ).p∧(ns.getD k nZ).p≤7:=by
 rw [Qa]
 cases hk:ns[k]? with
 | none=>exact ⟨by decide,by decide⟩
 | some x=>exact h x (Qe hk)
theorem Xjh{ns:List Nd}(h:PhN ns)(k:Nat){x:Nd}(hx:0≤x.p∧x.p≤7) : PhN (ns.set k x):=fun y hy=>by
 rcases List.mem_or_eq_of_mem_set hy with h1|h1
 ·exact h y h1
 ·rw [h1];exact hx
theorem X5n{ns:List Nd}(h:PhN ns)(k m:Int) : PhN (adN ns k m):=Xjh h _ ⟨by show 0≤_ % 8;omega,by show _ % 8≤7;omega⟩
theorem X4y{ns:List Nd}(h:PhN ns)(k:Int) : PhN (dpN ns k):=Xjh h _ ⟨by decide,by decide⟩
theorem Xhi{n:Nat}{p q:Int}(h:(0≤p∧p.toNat<n)∧(0≤q∧q.toNat<n)) : 0≤min p q∧(min p q).toNat<n:=by
 rcases Int.le_total p q with h1|h1
 ·rw [Int.min_eq_left h1];exact h.1
 ·rw [Int.min_eq_right h1];exact h.2
theorem Xwc{ns:List Nd}(h:PhN ns)(k:Nat){m:Int}(h0:0≤m)(h1:m≤900) : 0≤(ns.getD k nZ).p+m∧(ns.getD k nZ).p+m≤1000:=by have:=X1i h k;omega
theorem tm8{x:Int}(h:0≤x) : x.tmod 8=x % 8:=Int.tmod_eq_emod_of_nonneg h
theorem Xwb{x:Int}(h:0≤x+8) : (x+8).tmod 8=x % 8:=by rw [Int.tmod_eq_emod_of_nonneg h];omega
theorem X11{ns:List Nd}{k:Int}(h:spI ns k=true) : 0≤k∧k.toNat<ns.length∧(ns.getD k.toNat nZ).k=3:=by
 unfold spI at h
 rw [Qd] at h
 have h1:=X0e.1 h.1;exact ⟨h1.1,by omega,by simpa using h.2⟩
theorem Xnv{ns:List Nd}(a m k:Int) : spI (adN ns a m) k=spI ns k:=by
 unfold spI
 rw [X1s]
 congr 2
 unfold adN
 rw [Qa,Qa,List.getElem?_set]
 split
 ·rename_i h
  split
  ·rename_i h2
   rw [← h,Qc h2]
   simp [Qa,h2]
  ·rename_i h2
   rw [Qa,List.getElem?_eq_none (l:=ns) (i:=k.toNat) (by omega)]
 ·rw [Qa]
theorem Xny(w0:World)(x:Wr)(y:Wr) : Ret Tryz.prog 106 [.agg #[vi x.a,vi x.b,.bool x.h],.agg #[vi y.a,vi y.b,.bool y.h]] w0 (fun v w=>v=.bool (wlt x y)∧Below w0.heap.size w0 w):=by
 refine enter Tryz.func106 rfl 24 rfl rfl ?_;intro a f
 have hW:=bz w0
 refine Zs f fun _ a8=>?_;refine Zf (X0h (zs:=[vi x.a,vi x.b,.bool x.h]) rfl rfl) ?_;rintro _ w1 ⟨b2,rfl,aA,hE,e⟩;have aD:=Q0 hW.size aA;have hW:=btr hW hE;refine Zf (X0h (zs:=[vi y.a,vi y.b,.bool y.h]) rfl rfl) ?_;rintro _ w2 ⟨b3,rfl,aB,hE,a6⟩
 have a7:b2≠b3:=by have:=e.lt;omega
 have aE:=Q0 hW.size aB;have e:=e.below hE;have hW:=btr hW hE;refine Za rfl<|ZX a8 fun a f _ aC=>?_;refine X09 (fun a w=>Fr a 24 [(4,.bool ((decide (x.a<y.a))||((x.a==y.a)&&(decide (x.b<y.b)))))]∧w2=w) ?_ ?_
 ·refine Zr f<|Ze (Vd rfl X0s 0)<|Ze (X0 rfl X9 (e.at 0))<|Ze (Vd rfl X0s 0)<|Ze (X0 rfl X9 (a6.at 0))<|Ze (X0m rfl rfl)<|Zm rfl ?_
  refine Zg 10 rfl (fun c=>?_) (fun c=>?_)
  ·refine Zp (gP c) ?_;refine Zp (gP c) ?_;refine Zp (gP c) ?_;refine Zp (gP c) ?_;refine Zp (gP c) ?_;refine Zp (gP c) ?_;refine Zp (gP trivial) ?_;refine Zp (gP trivial) ?_;refine Zp (gP trivial) ?_;refine Zp (gP trivial) ?_;refine Zp (gP trivial) ?_;refine Zp (gP c) ?_;refine Ze (X8 rfl c rfl)<|Za rfl ?_;refine Zn fun a f=>?_;exact ⟨f.sub ⟨X1 rfl (by first|rfl|(simp only [c,bs];done)|simp [c]),trivial⟩,rfl⟩
  refine Zv (gW c) (Vd rfl X0s 0) ?_;refine Zv (gW c) (X0 rfl X9 (e.at 0)) ?_;refine Zv (gW c) (Vd rfl X0s 0) ?_;refine Zv (gW c) (X0 rfl X9 (a6.at 0)) ?_;refine Zv (gW c) (X0a rfl rfl) ?_;refine Zv (gW c) (X3 rfl) ?_
  refine Zg 16 rfl (fun d=>?_) (fun d=>?_)
  ·refine Zv (gW d) (Vd rfl X0v 1) ?_;refine Zv (gW d) (X0 rfl X9 (e.at 1)) ?_;refine Zv (gW d) (Vd rfl X0v 1) ?_;refine Zv (gW d) (X0 rfl X9 (a6.at 1)) ?_;refine Zv (gW d) (X0m rfl rfl) ?_;refine Zv (gW c) (X8 rfl d rfl) ?_;refine Ze (Xe rfl c rfl)<|Za rfl ?_;refine Zn fun a f=>?_;exact ⟨f.sub ⟨X1 rfl (by first|rfl|(simp only [c,d,bs];done)|simp [c,d]),trivial⟩,rfl⟩
  refine Zp (gP d) ?_;refine Zp (gP d) ?_;refine Zp (gP d) ?_;refine Zp (gP d) ?_;refine Zp (gP d) ?_;refine Zv (gW c) (Xe rfl d rfl) ?_;refine Ze (Xe rfl c rfl)<|Za rfl ?_;refine Zn fun a f=>?_;exact ⟨f.sub ⟨X1 rfl (by first|rfl|(simp only [c,d,bs];done)|simp [c,d]),trivial⟩,rfl⟩
 rintro a _ ⟨f,rfl⟩;refine aC _ _ ?_
 refine Q6 (X5 f (Xr f rfl rfl) ?_)
 exact ⟨rfl,hW⟩
theorem Xek(A:World)(Al:Option Addr)(cl:Nat)(l:List Wr)(B:Rd A A.heap.size 83 encWr Al l)(p:Int)(q:Int)(aQ:l.length≤1000000000) : Ret Tryz.prog 132 [.slice Al l.length cl,vi p,vi q] A (fun v w=>v=vi (fdW l p q)∧Below A.heap.size A w):=by
 refine enter Tryz.func132 rfl 32 rfl rfl ?_;intro a d
 have g:=bz A
 refine Zs d fun _ aI=>?_;refine Za rfl<|ZX aI fun a d _ aJ=>?_;refine Zs d fun _ aK=>?_;refine Zm rfl<|Ze (X0c rfl Xv)<|Zm rfl<|Zt aK fun a d=>?_;refine Q8<|X01 (σ:=Nat) (fun (k:Nat) (a:Act) (w:World)=>Fr a 32 [(1,vi p),(2,vi q),(9,.slice Al l.length cl),(10,vi (l.length:Int)),(11,vi (k:Int))]∧(k≤l.length)∧(((l.take k).all fun x=>!isW p q x)=true)∧Below A.heap.size A w) (fun (k:Nat)=>l.length-k) 0 ?_ ?_
 ·exact ⟨d.sb,(Qf _),(by simp),g⟩
 rintro k a w1 ⟨d,hk,o,g⟩;refine Zs d fun _ aL=>?_;refine Ze (X0m rfl rfl)<|ZX aL fun a d _ aM=>?_
 refine Xh d rfl (fun f=>?_) (fun f=>?_)
 ·have i:=f;have f:=Q2 f
  obtain ⟨u8,aR⟩:=X4 (l:=l) (k:=k) (by omega)
  obtain ⟨t,a6⟩:=X4 (l:=l) (k:=k) (by have:=f;omega)
  refine Q7<|aM _ _<|Q5 fun _ aN=>?_;refine Q8<|Zs d fun _ aC=>?_;refine Zm rfl<|Zi (k:=k) (u:=t) (enc:=encWr) (l:=l) trivial rfl rfl Xv X0b Xx (B.below' g) a6 rfl ?_;intro aS a7;refine Ze (X02 (l:=[vi t.a,vi t.b,.bool t.h]) rfl X17 a7 rfl)<|Zf (X00 (zs:=[vi 0,vi 0,.bool false]) X32 rfl) ?_;rintro _ w2 ⟨aT,rfl,C,m,e⟩;have a8:=Q0 g.size C;have aD:=(B.below' g).away C;have g:=btr g m;refine Za rfl<|Zo (Vw [vi t.a,vi t.b,.bool t.h] X0b e) ?_;rintro _ w3 ⟨ho,hb⟩;have aP:=e;have g:=Below.only g ho a8;have e:=hb;refine ZX aC fun a d _ aE=>?_;refine X09 (fun a w=>Fr a 32 [(1,vi p),(2,vi q),(7,vi (k:Int)),(9,.slice Al l.length cl),(10,vi (l.length:Int)),(11,vi (k:Int)),(29,.bool ((t.a==(min p q))&&(t.b==(max p q))))]∧Below w3.heap.size w3 w) ?_ ?_
  ·have n:Below w3.heap.size w3 w3:=Below.refl _ _
   refine X05 none (fun _=>false) mixed ?_;intro w4 m;have e:=e.below m;have g:=btr g m;have n:=btr n m;refine Yb d<|Yo 0 rfl (fun _=>Vd rfl X0s 0)<|Ye 1 rfl (X0 rfl X9 (e.at 0))<|Yo 2 rfl (fun _=>X3 rfl)<|Yo 3 rfl (fun _=>X3 rfl)<|Y1 4 ?_;refine Yk rfl trivial (Vc (Xha _ p q) Xa5) (fun _ _ ⟨_,m⟩=>m) ?_;rintro _ w5 ⟨rfl,m⟩;have e:=e.below m;have g:=btr g m;have n:=btr n m;refine Yo 5 rfl (fun _=>X0a rfl rfl)<|Yo 6 rfl (fun _=>X3 rfl) ?_
   refine Yl 22 rfl (fun c=>?_) (fun c=>?_)
   ·refine Yu 7 rfl (gW c) (fun _=>Vd rfl X0v 1) ?_;refine Yv 8 rfl (gW c) (X0 rfl X9 (e.at 1)) ?_;refine Yu 9 rfl (gW c) (fun _=>X3 rfl) ?_;refine Yu 10 rfl (gW c) (fun _=>X3 rfl) ?_;refine Y1 11<|Yz rfl ⟨_,_,rfl,rfl,c⟩ (Vc (Xuf _ p q) Xgw) ?_;refine Yu 12 rfl (gW c) (fun _=>X0a rfl rfl) ?_;refine Yo 13 rfl (fun _=>X8 rfl c rfl) ?_;refine Yd fun a d=>?_
    have aA:Below w3.heap.size w3 w5:=n
    exact ⟨d.sub ⟨rfl,rfl,rfl,rfl,rfl,rfl,X1 rfl (by first|rfl|(simp only [i,c,bs];done)|simp [i,c]),trivial⟩,aA⟩
   refine Yp 7 rfl (gP c) ?_;refine Yp 8 rfl (gP c) ?_;refine Yp 9 rfl (gP c) ?_;refine Yp 10 rfl (gP c) ?_;refine Y1 11<|Yq rfl ⟨_,_,rfl,rfl,c⟩ ?_;refine Yp 12 rfl (gP c) ?_;refine Yo 13 rfl (fun _=>Xe rfl c rfl) ?_;refine Yd fun a d=>?_
   have aA:Below w3.heap.size w3 w5:=n
   exact ⟨d.sub ⟨rfl,rfl,rfl,rfl,rfl,rfl,X1 rfl (by first|rfl|(simp only [i,c,bs];done)|simp [i,c]),trivial⟩,aA⟩
  rintro a w6 ⟨d,m⟩;have g:=btr g m;refine aE _ _ ?_
  refine Xh d rfl (fun j=>?_) (fun j=>?_)
  ·have aB:=j
   have aF:isW p q t=true:=j
   have y:fdW l p q=(k:Int):=X82 o a6 aF
   refine Zs d fun _ aG=>?_;refine Zm rfl<|Za rfl<|Zt aG fun a d=>?_;refine Q6<|Xq<|X7<|X7 ?_;refine Xq<|X7<|X5 d (Xr d rfl rfl) ?_;exact ⟨by rw [y],g⟩
  have aB:=j
  have aO:isW p q t=false:=j
  refine Q7<|Xd<|aN _ _<|Zr d ?_;refine Ze (Xu rfl rfl (by omega) (by omega))<|Zm rfl ?_;refine Zn fun a d=>?_;refine Xf ?_;exact ⟨k+1,⟨d.sb,(by omega),(X6e o a6 aO),g⟩,(by omega)⟩
 have i:=f;have f:=Q1 f
 have y:fdW l p q = -1:=X7h o (by have:=f;omega)
 refine Q9<|Xk<|Xk<|X03 ?_;refine aJ _ _<|Zs d fun _ aH=>?_;refine Za rfl<|Zt aH fun a d=>?_
 refine Q6 (X5 d (Xr d rfl rfl) ?_)
 exact ⟨by rw [y],g⟩
theorem X95(B:World)(Al:Option Addr)(cl:Nat)(l:List Wr)(m:Rd B B.heap.size 83 encWr Al l)(p:Int)(q:Int)(x:Bool)(b3:l.length≤1000000000)(aB:l.length≤cl) : Ret Tryz.prog 134 [.slice Al l.length cl,vi p,vi q,.bool x] B (fun v w=>∃ A c,v=.slice A (jnW l p q x).length c∧Own w B.heap.size 83 3 encWr A c (jnW l p q x)∧Below B.heap.size B w):=by
 refine enter Tryz.func134 rfl 48 rfl rfl ?_;intro a i
 have f:=bz B
 refine Zs i fun _ aR=>?_;refine Za rfl<|Zx aR fun a i _ aS=>?_;refine Zm rfl<|Zm rfl<|Zf (Vc (Xha _ p q) Xa5) ?_;rintro _ w1 ⟨rfl,j⟩;have f:=btr f j;refine Zm rfl<|Zm rfl<|Zf (Vc (Xuf _ p q) Xgw) ?_;rintro _ _ ⟨rfl,rfl⟩;refine Zm rfl<|Ze (X16 (ps:=[(0,vi (min p q)),(1,vi (max p q)),(2,.bool x)]) (cs:=[vi (min p q),vi (max p q),.bool x]) rfl (fun _=>by first|rfl|kernel_rfl))<|Zf (X00 (zs:=[vi 0,vi 0,.bool false]) X32 rfl) ?_;rintro _ w2 ⟨b5,rfl,aC,j,e⟩;have aD:=Q0 f.size aC;have aQ:=(m.below' f).away aC;have f:=btr f j;refine Zo (Vw [vi (min p q),vi (max p q),.bool x] X0b e) ?_;rintro _ w3 ⟨ho,hb⟩;have b2:=e;have f:=Below.only f ho aD;have e:=hb;refine Zx aS fun a i _ aT=>?_;refine Za rfl<|ZX aT fun a i _ aU=>?_;refine Q8<|X01 (σ:=Nat) (fun (k:Nat) (a:Act) (w:World)=>Fr a 48 [(0,.slice Al l.length cl),(9,.pointer (some ⟨b5,0,none⟩)),(10,vi (k:Int))]∧(k≤l.length)∧(((l.take k).all fun y=>wlt y ⟨min p q,max p q,x⟩)=true)∧Blk w b5 83 [vi (min p q),vi (max p q),.bool x]∧Below B.heap.size B w) (fun (k:Nat)=>l.length-k) 0 ?_ ?_
 ·exact ⟨i.sb,(Qf _),rfl,e,f⟩
 rintro k a w4 ⟨i,hk,L,e,f⟩;refine Q5 fun _ aW=>?_;refine Q5 fun _ aX=>?_;refine X09 (fun a w=>Fr a 48 [(0,.slice Al l.length cl),(9,.pointer (some ⟨b5,0,none⟩)),(10,vi (k:Int)),(31,.bool (decide ((k:Int)<(l.length:Int))&&wlt (l.getD k wZ) ⟨min p q,max p q,x⟩))]∧Below w4.heap.size w4 w) ?_ ?_
 ·have C:Below w4.heap.size w4 w4:=Below.refl _ _
  refine X05 none (fun _=>false) mixed ?_;intro w5 j;have e:=e.below j;have f:=btr f j;have C:=btr C j;refine Yb i<|Yo 0 rfl (fun _=>X3 rfl)<|Yo 1 rfl (fun _=>X3 rfl)<|Yo 2 rfl (fun _=>X0c rfl Xv)<|Yo 3 rfl (fun _=>X0m rfl rfl)<|Yo 4 rfl (fun _=>X3 rfl) ?_
  refine Yl 24 rfl (fun d=>?_) (fun d=>?_)
  ·refine Yu 5 rfl (gW d) (fun _=>X3 rfl) ?_;refine Yu 6 rfl (gW d) (fun _=>X3 rfl) ?_;refine Yi (k:=k) (u:=(l.getD k wZ)) (enc:=encWr) (l:=l) 7 rfl ⟨_,_,rfl,rfl,d⟩ rfl rfl Xv X0b Xx (m.below' f) (Xkz (by assumption)) rfl ?_;intro b4 a6;refine Yv 8 rfl (gW d) (X02 (l:=[vi ((l.getD k wZ).a),vi ((l.getD k wZ).b),.bool ((l.getD k wZ).h)]) rfl X17 a6 rfl) ?_;refine Yv 9 rfl (gW d) (Vn X17 e) ?_;refine Y1 10<|Yk rfl ⟨_,_,rfl,rfl,d⟩ (Vc (Xny _ (l.getD k wZ) (⟨min p q,max p q,x⟩ : Wr)) Xfe) (fun _ _ ⟨_,j⟩=>j) ?_;rintro _ w6 ⟨rfl,j⟩;have f:=btr f j;have C:=btr C j;refine Yo 11 rfl (fun _=>X8 rfl d rfl) ?_;refine Yd fun a i=>?_
   have a7:Below w4.heap.size w4 w6:=C
   exact ⟨i.sub ⟨rfl,rfl,rfl,X1 rfl (by first|rfl|(simp only [d,bs];done)|simp [d]),trivial⟩,a7⟩
  refine Yp 5 rfl (gP d) ?_;refine Yp 6 rfl (gP d) ?_;refine Yp 7 rfl (gP d) ?_;refine Yp 8 rfl (gP d) ?_;refine Yp 9 rfl (gP d) ?_;refine Y1 10<|Yq rfl ⟨_,_,rfl,rfl,d⟩ ?_;refine Yo 11 rfl (fun _=>Xe rfl d rfl) ?_;refine Yd fun a i=>?_
  have a7:Below w4.heap.size w4 w5:=C
  exact ⟨i.sub ⟨rfl,rfl,rfl,X1 rfl (by first|rfl|(simp only [d,bs];done)|simp [d]),trivial⟩,a7⟩
 rintro a w7 ⟨i,j⟩;have e:=e.below j;have f:=btr f j;refine aX _ _ ?_
 refine Xh i rfl (fun o=>?_) (fun o=>?_)
 ·have a8:=o;obtain ⟨aY,b6⟩:=Xmx L o;refine Q7<|aW _ _<|Q8<|Zr i ?_;refine Zm rfl<|Ze (Xu rfl rfl (by omega) (by omega))<|Za rfl ?_;refine Zn fun a i=>?_;refine Xd<|Xf ?_;exact ⟨k+1,⟨i.sb,(by omega),aY,e,f⟩,(by omega)⟩
 have a8:=o
 have aE:jnW l p q x=_:=Xkn L o
 refine Q9<|Xk<|Xk<|X03 ?_;refine aU _ _<|Zs i fun _ aF=>?_;refine Zf (Xp (k:=0) (vs:=[]) (zs:=[]) rfl Xv X0x rfl rfl) ?_;rintro _ w8 ⟨b15,rfl,M,j,N⟩
 have aG:b5≠b15:=by have:=e.lt;omega
 have E:=Q0 f.size M;have aH:=(m.below' f).away M;have e:=e.below j;have f:=btr f j;refine Zm rfl<|Zm rfl ?_;have aI:=((m.below' f).top).takeK Xx k;refine Ze (X2o (l:=l) (k:=k) rfl rfl Xv X0b rfl hk aB)<|Zf (X0r (enc:=encWr) (l:=([] : List Wr)) (l2:=((l.take k))) (B0:=B.heap.size) rfl rfl Xv X0x Xx X1c (Own.empty N E) aI (by simp only [maxLen];simp;omega) (by simp;omega) f.size) ?_;rintro _ w9 ⟨b7,b8,rfl,n,J,t⟩
 have g:Own _ B.heap.size 83 3 encWr _ _ ([] : List Wr):=(Own.empty N E)
 have G:=t _ e.lt (Away.ne (by omega))
 clear t;have e:=e.appA J (Away.ne (by omega));have f:=Below.app f g J (Qb _) f.size;clear g J
 simp only [List.nil_append] at n
 refine Za rfl<|Zx aF fun a i _ aJ=>?_;refine Zm rfl<|Ze (Vn X17 e)<|Zf (Xp (k:=1) (vs:=[.agg #[vi (min p q),vi (max p q),.bool x]]) (zs:=[vi (min p q),vi (max p q),.bool x]) rfl Xv X0x rfl rfl) ?_;rintro _ b9 ⟨b20,rfl,H,j,I⟩
 have aK:b5≠b20:=by have:=e.lt;omega
 have aZ:=Q0 f.size H;have aL:=(m.below' f).away H;have D:=n.away H;have e:=e.below j;have n:=n.below j;have f:=btr f j;refine Zf (X0r (enc:=encWr) (l:=((l.take k))) (l2:=([(⟨min p q,max p q,x⟩ : Wr)])) (B0:=B.heap.size) rfl rfl Xv X0x Xx X1c n (Rd.of_blk I rfl _ I.lt) (by simp only [maxLen];simp;omega) (by simp;omega) f.size) ?_;rintro _ bA ⟨bB,bC,rfl,Q,J,t⟩
 have g:Own _ B.heap.size 83 3 encWr _ _ ((l.take k)):=n
 have aM:=t _ e.lt G;have aA:=t _ I.lt D;clear t;have f:=Below.app f g J (Qb _) f.size;clear g J;refine Za rfl<|Zx aJ fun a i _ aN=>?_;refine Zm rfl<|Zm rfl<|Zm rfl ?_;have aO:=((m.below' f).top).dropK Xx (c:=cl) aB k;refine Ze (X6j (l:=l) (k:=k) rfl rfl Xv X0b rfl hk)<|Zf (X0r (enc:=encWr) (l:=((l.take k)++([(⟨min p q,max p q,x⟩ : Wr)]))) (l2:=((l.drop k))) (B0:=B.heap.size) rfl rfl Xv X0x Xx X1c Q aO (by simp only [maxLen];simp;omega) (by simp;omega) f.size) ?_;rintro _ bD ⟨b0,b1,rfl,aP,J,t⟩
 have g:Own _ B.heap.size 83 3 encWr _ _ ((l.take k)++([(⟨min p q,max p q,x⟩ : Wr)])):=Q
 clear t;have f:=Below.app f g J (Qb _) f.size;clear g J;refine Za rfl<|Zt aN fun a i=>?_
 refine Q6 (X5 i (Xr i rfl rfl) ?_)
 rw [aE]
 exact ⟨b0,b1,rfl,aP,f⟩
theorem Xev(e:World)(Al:Option Addr)(cl:Nat)(l:List Wr)(f:Rd e e.heap.size 83 encWr Al l)(p:Int)(aL:l.length≤1000000000)(a8:l.length≤cl)(aM:0≤p∧p<(l.length:Int)) : Ret Tryz.prog 133 [.slice Al l.length cl,vi p] e (fun v w=>∃ A c,v=.slice A (ctW l p.toNat).length c∧Own w e.heap.size 83 3 encWr A c (ctW l p.toNat)∧Below e.heap.size e w):=by
 refine enter Tryz.func133 rfl 17 rfl rfl ?_;intro a hf
 have d:=bz e
 refine Zs hf fun _ aF=>?_;refine Za rfl<|Zx aF fun a hf _ aG=>?_;refine Zf (Xp (k:=0) (vs:=[]) (zs:=[]) rfl Xv X0x rfl rfl) ?_;rintro _ w1 ⟨b5,rfl,aA,hE,aB⟩;have g:=Q0 d.size aA;have aE:=(f.below' d).away aA;have d:=btr d hE;refine Zm rfl<|Zm rfl ?_;have aH:=((f.below' d).top).takeK Xx p.toNat;refine Ze (X2o (l:=l) (k:=p.toNat) rfl rfl Xv X0b (by omega) (by omega) a8)<|Zf (X0r (enc:=encWr) (l:=([] : List Wr)) (l2:=((l.take p.toNat))) (B0:=e.heap.size) rfl rfl Xv X0x Xx X1c (Own.empty aB g) aH (by simp only [maxLen];simp;omega) (by simp;omega) d.size) ?_;rintro _ w2 ⟨A8,c8,rfl,a6,hg,a7⟩
 have b:Own _ e.heap.size 83 3 encWr _ _ ([] : List Wr):=(Own.empty aB g)
 clear a7;have d:=Below.app d b hg (Qb _) d.size;clear b hg
 simp only [List.nil_append] at a6
 refine Za rfl<|Zx aG fun a hf _ aI=>?_;refine Zm rfl<|Zm rfl<|Zm rfl<|Ze (Xu rfl rfl (by omega) (by omega)) ?_;have aC:=((f.below' d).top).dropK Xx (c:=cl) a8 (p.toNat+1);refine Ze (X6j (l:=l) (k:=(p.toNat+1)) rfl rfl Xv X0b (by omega) (by omega))<|Zf (X0r (enc:=encWr) (l:=((l.take p.toNat))) (l2:=((l.drop (p.toNat+1)))) (B0:=e.heap.size) rfl rfl Xv X0x Xx X1c a6 aC (by simp only [maxLen];simp;omega) (by simp;omega) d.size) ?_;rintro _ w3 ⟨aJ,aK,rfl,aD,hg,a7⟩
 have b:Own _ e.heap.size 83 3 encWr _ _ ((l.take p.toNat)):=a6
 clear a7;have d:=Below.app d b hg (Qb _) d.size;clear b hg;refine Za rfl<|Zt aI fun a hf=>?_
 refine Q6 (X5 hf (Xr hf rfl rfl) ?_)
 exact ⟨aJ,aK,rfl,aD,d⟩
theorem X92(x:World)(d:Dg)(md:Nat)(o:md=d.ns.length)(Ad:Option Addr)(cd:Nat)(a6:Nat)(b:Own x a6 81 2 encNd Ad cd d.ns)(aJ:a6≤x.heap.size)(Bd:Option Addr)(dd:Nat)(c:Rd x x.heap.size 83 encWr Bd d.ws)(a7:d.ws.length≤dd)(p:Int)(q:Int)(a8:0≤p∧p.toNat<d.ns.length)(aE:0≤(d.ns.getD p.toNat nZ).p+q∧(d.ns.getD p.toNat nZ).p+q≤1000) : Ret Tryz.prog 211 [.agg #[vi d.n,.slice Ad md cd,.slice Bd d.ws.length dd,vi d.t,vi d.r],vi p,vi q] x (fun v w=>∃ A' c',v=.agg #[vi ({ d with ns:=adN d.ns p q } : Dg).n,.slice Ad md cd,.slice A' ({ d with ns:=adN d.ns p q } : Dg).ws.length c',vi ({ d with ns:=adN d.ns p q } : Dg).t,vi ({ d with ns:=adN d.ns p q } : Dg).r]∧Own w a6 81 2 encNd Ad cd ({ d with ns:=adN d.ns p q } : Dg).ns∧Rd w w.heap.size 83 encWr A' ({ d with ns:=adN d.ns p q } : Dg).ws∧({ d with ns:=adN d.ns p q } : Dg).ws.length≤c'∧md=({ d with ns:=adN d.ns p q } : Dg).ns.length∧x.grownBy w (Value.slice Ad d.ns.length cd).ownBlock):=by
 refine enter Tryz.func211 rfl 22 rfl rfl ?_;intro a y
 have m:x.grownBy x (Value.slice Ad d.ns.length cd).ownBlock:=World.grownBy.refl _ _
 refine Zs y fun _ aF=>?_;refine Zf (X0h (zs:=[vi d.n,.slice Ad md cd,.slice Bd d.ws.length dd,vi d.t,vi d.r]) rfl rfl) ?_;rintro _ w1 ⟨b4,rfl,aG,g,e⟩;have aK:=Q0 m.size aG;have b:=b.below g;have c:=c.below g;have m:=gbel m g;refine Zf (X00 (zs:=[vi 0,.slice none 0 0,.slice none 0 0,vi 0,vi 0]) X0o rfl) ?_;rintro _ w2 ⟨b7,rfl,aH,g,f⟩
 have aD:b4≠b7:=by have:=e.lt;omega
 have aA:=Q0 m.size aH;have e:=e.below g;have b:=b.below g;have c:=c.below g;have m:=gbel m g;refine ZX aF fun a y _ aI=>?_;refine X05 none (fun j=>[14].contains j) mixed ?_;intro w3 g;have e:=e.below g;have f:=f.below g;have b:=b.below g;have c:=c.below g;have m:=gbel m g;refine Yb y<|Yo 0 rfl (fun _=>Vd rfl Xi 1)<|Ye 1 rfl (X0 rfl Xz (e.at 1))<|Yo 2 rfl (fun _=>X3 rfl)<|Yo 3 rfl (fun _=>Vd rfl Xi 1)<|Ye 4 rfl (X0 rfl Xz (e.at 1))<|Yo 5 rfl (fun _=>X3 rfl)<|Yj (k:=p.toNat) (u:=(d.ns.getD p.toNat nZ)) (enc:=encNd) (l:=d.ns) 6 rfl trivial rfl o rfl Xo X07 Xt b.rd (Xb a8.2) (by omega) ?_;intro aL aB;refine Yo 7 rfl (fun _=>X21 rfl X04)<|Ye 8 rfl (X0 rfl X9 (aB.drop 1))<|Yo 9 rfl (fun _=>X3 rfl)<|Yo 10 rfl (fun _=>Xu rfl rfl (by omega) (by omega))<|Yo 11 rfl (fun _=>Vx (X3y rfl rfl rfl) (tm8 aE.1))<|Yo 12 rfl (fun _=>Xg (k:=p.toNat) rfl rfl Xo X07 b o (by omega) (by omega))<|Yo 13 rfl (fun _=>X0z rfl X04 (m':=p.toNat*2+1) rfl)<|Y1 14 ?_;refine Yh rfl trivial rfl (X0g (enc:=encNd) (l:=d.ns) (vs:=[vi (((d.ns.getD p.toNat nZ).p+q) % 8)]) (x0:=(d.ns.getD p.toNat nZ)) (u:=(⟨(d.ns.getD p.toNat nZ).k,(((d.ns.getD p.toNat nZ).p+q) % 8)⟩ : Nd)) (k:=p.toNat) (j:=1) (n1:=1) rfl rfl X08 b Xt rfl rfl rfl rfl (by decide) (Xb a8.2) rfl) ?_;rintro _ w4 ⟨h,hg⟩;have i:=b;have e:=e.appT i hg rfl;have f:=f.appT i hg rfl;have c:=c.appT i hg rfl;have m:=gtr m hg
 clear i hg;clear b;have b:=h;clear h;refine Yd fun a y=>?_;refine aI _ _<|Zs y fun _ aC=>?_;refine Ze (Vn X2 e)<|Zo (Vw [vi d.n,.slice Ad md cd,.slice Bd d.ws.length dd,vi d.t,vi d.r] Xl f) ?_;rintro _ w5 ⟨ho,hb⟩;have A:=f;have c:=c.onlyT ho A rfl;have b:=b.onlyT ho A rfl;have m:=gonly m ho aA;have f:=hb;refine Zt aC fun a y=>?_
 refine Q6 (X5 y (Xr y rfl (ResV.cellN (l:=[vi d.n,.slice Ad md cd,.slice Bd d.ws.length dd,vi d.t,vi d.r]) rfl X2 (f.at 0) rfl)) ?_)
 exact ⟨Bd,dd,rfl,b,c.top,a7,o.trans (X1s _ _ _).symm,m⟩
theorem X9d(p:World)(d:Dg)(md:Nat)(a7:md=d.ns.length)(Ad:Option Addr)(cd:Nat)(G:Rd p p.heap.size 81 encNd Ad d.ns)(Bd:Option Addr)(dd:Nat)(H:Rd p p.heap.size 83 encWr Bd d.ws)(aL:d.ws.length≤dd)(aM:d.ns.length≤1000000000∧d.ws.length≤1000000000) : Ret Tryz.prog 82 [.agg #[vi d.n,.slice Ad md cd,.slice Bd d.ws.length dd,vi d.t,vi d.r]] p (fun v w=>∃ A c B e,v=.agg #[vi d.n,.slice A d.ns.length c,.slice B d.ws.length e,vi d.t,vi d.r]∧Own w p.heap.size 81 2 encNd A c d.ns∧Own w p.heap.size 83 3 encWr B e d.ws∧Below p.heap.size p w):=by
 subst a7
 refine enter Tryz.func82 rfl 14 rfl rfl ?_;intro a hf
 have j:=bz p
 refine Zs hf fun _ aH=>?_;refine Zf (X0h (zs:=[vi d.n,.slice Ad d.ns.length cd,.slice Bd d.ws.length dd,vi d.t,vi d.r]) rfl rfl) ?_;rintro _ w1 ⟨b4,rfl,aI,q,b⟩;have I:=Q0 j.size aI;have j:=btr j q;refine Zf (X00 (zs:=[vi 0,.slice none 0 0,.slice none 0 0,vi 0,vi 0]) X0o rfl) ?_;rintro _ w2 ⟨b7,rfl,aJ,q,g⟩
 have aF:b4≠b7:=by have:=b.lt;omega
 have a8:=Q0 j.size aJ;have b:=b.below q;have j:=btr j q;refine Zx aH fun a hf _ aK=>?_;refine Zf (Xp (k:=0) (vs:=[]) (zs:=[]) rfl Xo X1f rfl rfl) ?_;rintro _ w3 ⟨b9,rfl,aA,q,aB⟩;have J:=Q0 j.size aA;have aG:=(G.below' j).away aA;have b:=b.below q;have g:=g.below q;have j:=btr j q;refine Ze (Vd rfl Xi 1)<|Ze (X0 rfl Xz (b.at 1))<|Zf (X0r (enc:=encNd) (l:=([] : List Nd)) (l2:=(d.ns)) (B0:=p.heap.size) rfl rfl Xo X1f Xt X2f (Own.empty aB J) (G.below' j) (by simp only [maxLen];simp;omega) (by simp;omega) j.size) ?_;rintro _ w4 ⟨u,x,rfl,f,E,a6⟩
 have i:Own _ p.heap.size 81 2 encNd _ _ ([] : List Nd):=(Own.empty aB J)
 clear a6;have b:=b.appT i E rfl;have g:=g.appT i E rfl;have j:=Below.app j i E (Qb _) j.size;clear i E
 simp only [List.nil_append] at f
 refine Ze (Vd rfl Xi 1)<|Zo (Vu (vs:=[.slice u d.ns.length x]) (l':=[vi d.n,.slice u d.ns.length x,.slice Bd d.ws.length dd,vi d.t,vi d.r]) rfl rfl X3i b) ?_;rintro _ w5 ⟨y,hb⟩;have m:=b;have g:=g.only y (by omega);have f:=f.onlyT y m rfl;have j:=Below.only j y I;have b:=hb;refine Zx aK fun a hf _ aC=>?_;refine Zf (Xp (k:=0) (vs:=[]) (zs:=[]) rfl Xv X0x rfl rfl) ?_;rintro _ w6 ⟨aN,rfl,L,q,M⟩;have h:=Q0 j.size L;have aD:=(H.below' j).away L;have b:=b.below q;have g:=g.below q;have f:=f.below q;have j:=btr j q;refine Ze (Vd rfl Xm 2)<|Ze (X0 rfl X0j (b.at 2))<|Zf (X0r (enc:=encWr) (l:=([] : List Wr)) (l2:=(d.ws)) (B0:=p.heap.size) rfl rfl Xv X0x Xx X1c (Own.empty M h) (H.below' j) (by simp only [maxLen];simp;omega) (by simp;omega) j.size) ?_;rintro _ w7 ⟨C,D,rfl,o,E,a6⟩
 have i:Own _ p.heap.size 83 3 encWr _ _ ([] : List Wr):=(Own.empty M h)
 clear a6;have b:=b.appT i E rfl;have g:=g.appT i E rfl;have f:=f.appT i E rfl;have j:=Below.app j i E (Qb _) j.size;clear i E
 simp only [List.nil_append] at o
 refine Ze (Vd rfl Xm 2)<|Zo (Vu (vs:=[.slice C d.ws.length D]) (l':=[vi d.n,.slice u d.ns.length x,.slice C d.ws.length D,vi d.t,vi d.r]) rfl rfl X19 b) ?_;rintro _ w8 ⟨y,hb⟩;have m:=b;have g:=g.only y (by omega);have f:=f.onlyT y m rfl;have o:=o.onlyT y m rfl;have j:=Below.only j y I;have b:=hb;refine Zx aC fun a hf _ aE=>?_;refine Ze (Vn X2 b)<|Zo (Vw [vi d.n,.slice u d.ns.length x,.slice C d.ws.length D,vi d.t,vi d.r] Xl g) ?_;rintro _ w9 ⟨y,hb⟩;have m:=g;have f:=f.onlyT y m rfl;have o:=o.onlyT y m rfl;have j:=Below.only j y a8;have g:=hb;refine Zt aE fun a hf=>?_
 refine Q6 (X5 hf (Xr hf rfl (ResV.cellN (l:=[vi d.n,.slice u d.ns.length x,.slice C d.ws.length D,vi d.t,vi d.r]) rfl X2 (g.at 0) rfl)) ?_)
 exact ⟨u,x,C,D,rfl,f,o,j⟩
theorem X5o(e:World)(d:Dg)(md:Nat)(f:md=d.ns.length)(Ad:Option Addr)(cd:Nat)(a6:Rd e e.heap.size 81 encNd Ad d.ns)(Bd:Option Addr)(dd:Nat)(aD:Rd e e.heap.size 83 encWr Bd d.ws)(aE:d.ws.length≤dd)(p:Int)(hN:md≤1000) : Ret Tryz.prog 78 [.agg #[vi d.n,.slice Ad md cd,.slice Bd d.ws.length dd,vi d.t,vi d.r],vi p] e (fun v w=>v=.bool (spI d.ns p)∧Below e.heap.size e w):=by
 refine enter Tryz.func78 rfl 20 rfl rfl ?_;intro a c
 have hW:=bz e
 refine Zs c fun _ aA=>?_;refine Zf (X0h (zs:=[vi d.n,.slice Ad md cd,.slice Bd d.ws.length dd,vi d.t,vi d.r]) rfl rfl) ?_;rintro _ w1 ⟨b4,rfl,aB,hE,a7⟩;have aF:=Q0 hW.size aB;have hW:=btr hW hE;refine Za rfl<|ZX aA fun a c _ aC=>?_;refine X09 (fun a w=>Fr a 20 [(4,.bool ((inR p 0 ((md:Int)-1))&&(((d.ns.getD p.toNat nZ).k)==3)))]∧w1=w) ?_ ?_
 ·refine Zr c<|Zm rfl<|Ze (Vd rfl Xi 1)<|Ze (X0 rfl Xz (a7.at 1))<|Ze (X0c rfl Xo)<|Ze (X1h rfl rfl (by omega) (by omega))<|Zf (Vc (F85 _ p 0 ((md:Int)-1)) X3e) ?_;rintro _ _ ⟨rfl,rfl⟩;refine Zm rfl ?_
  refine Zg 11 rfl (fun b=>?_) (fun b=>?_)
  ·have aG:=X0e.1 b;refine Zv (gW b) (Vd rfl Xi 1) ?_;refine Zv (gW b) (X0 rfl Xz (a7.at 1)) ?_;refine Zv (gW b) (X3 rfl) ?_;refine Zj (k:=p.toNat) (u:=(d.ns.getD p.toNat nZ)) (enc:=encNd) (l:=d.ns) ⟨_,_,rfl,rfl,b⟩ rfl f rfl Xo X07 Xt (a6.below' hW) (Xb (by omega)) (by omega) ?_;intro p8 a8;refine Zv (gW b) (X21 rfl X10) ?_;refine Zv (gW b) (X0 rfl X9 (a8.drop 0)) ?_;refine Zv (gW b) (X0a rfl rfl) ?_;refine Ze (X8 rfl b rfl)<|Za rfl ?_;refine Zn fun a c=>?_;exact ⟨c.sub ⟨X1 rfl (by first|rfl|(simp only [b,bs];done)|simp [b]),trivial⟩,rfl⟩
  refine Zp (gP b) ?_;refine Zp (gP b) ?_;refine Zp (gP b) ?_;refine Zp (gP b) ?_;refine Zp (gP b) ?_;refine Zp (gP b) ?_;refine Zp (gP b) ?_;refine Ze (Xe rfl b rfl)<|Za rfl ?_;refine Zn fun a c=>?_;exact ⟨c.sub ⟨X1 rfl (by first|rfl|(simp only [b,bs];done)|simp [b]),trivial⟩,rfl⟩
 rintro a _ ⟨c,rfl⟩;refine aC _ _ ?_
 refine Q6 (X5 c (Xr c rfl rfl) ?_)
 exact ⟨by unfold spI;rw [f],hW⟩
theorem X89(i:World)(d:Dg)(md:Nat)(aL:md=d.ns.length)(Ad:Option Addr)(cd:Nat)(aM:Rd i i.heap.size 81 encNd Ad d.ns)(Bd:Option Addr)(dd:Nat)(j:Rd i i.heap.size 83 encWr Bd d.ws)(aN:d.ws.length≤dd)(p:Int)(q:Int)(aE:d.ws.length≤1000000000) : Ret Tryz.prog 79 [.agg #[vi d.n,.slice Ad md cd,.slice Bd d.ws.length dd,vi d.t,vi d.r],vi p,vi q] i (fun v w=>v=vi (tyW d.ws p q)∧Below i.heap.size i w):=by
 have aO:=X6x d.ws p q;refine enter Tryz.func79 rfl 23 rfl rfl ?_;intro a b
 have f:=bz i
 refine Zs b fun _ aF=>?_;refine Zf (X0h (zs:=[vi d.n,.slice Ad md cd,.slice Bd d.ws.length dd,vi d.t,vi d.r]) rfl rfl) ?_;rintro _ w1 ⟨b4,rfl,aG,hE,g⟩;have aP:=Q0 f.size aG;have f:=btr f hE;refine Za rfl<|Zx aF fun a b _ aH=>?_;refine Ze (Vd rfl Xm 2)<|Ze (X0 rfl X0j (g.at 2))<|Zm rfl<|Zm rfl<|Zf (Vc (Xek _ Bd dd d.ws (j.below' f).top p q aE) X72) ?_;rintro _ w2 ⟨rfl,hE⟩;have g:=g.below hE;have f:=btr f hE;refine Za rfl<|ZX aH fun a b _ aI=>?_;refine Q8<|Zs b fun _ aJ=>?_;refine Zm rfl<|Ze (X0m rfl rfl)<|Za rfl<|Zt aJ fun a b=>?_
 refine Xh b rfl (fun c=>?_) (fun c=>?_)
 ·have a8:=c;have c:=Q2 c
  have hz:tyW d.ws p q=0:=by unfold tyW;exact Q4 (by simpa using c)
  refine Zs b fun _ aK=>?_;refine Za rfl<|Zt aK fun a b=>?_;refine Q6<|Xq<|X7<|X5 b (Xr b rfl rfl) ?_;exact ⟨by rw [hz],f⟩
 have a8:=c;have c:=Q1 c
 have aQ:0≤fdW d.ws p q:=by have h9:=c;simp at h9;omega
 have aA:tyW d.ws p q=if (d.ws.getD (fdW d.ws p q).toNat wZ).h=true then 2 else 1:=by unfold tyW;exact Q3 (by omega)
 refine Zs b fun _ aB=>?_;refine Ze (Vd rfl Xm 2)<|Ze (X0 rfl X0j (g.at 2))<|Zm rfl<|Zi (k:=(fdW d.ws p q).toNat) (u:=(d.ws.getD (fdW d.ws p q).toNat wZ)) (enc:=encWr) (l:=d.ws) trivial rfl rfl Xv X0b Xx (j.below' f) (Xb (by omega)) (by omega) ?_;intro aR a6;refine Ze (X21 rfl X6r)<|Ze (X0 rfl X6l (a6.drop 2))<|Za rfl<|Zt aB fun a b=>?_
 refine Xh b rfl (fun e=>?_) (fun e=>?_)
 ·have a7:=e
  have hz:tyW d.ws p q=2:=by rw [aA];exact Q4 e
  refine Zs b fun _ aC=>?_;refine Za rfl<|Zt aC fun a b=>?_;refine Q6<|Xq<|X7<|X5 b (Xr b rfl rfl) ?_;exact ⟨by rw [hz],f⟩
 have a7:=e
 have hz:tyW d.ws p q=1:=by rw [aA];exact Q3 (by rw [e];decide)
 refine Q7<|Xd<|aI _ _<|Zs b fun _ aD=>?_;refine Za rfl<|Zt aD fun a b=>?_
 refine Q6 (X5 b (Xr b rfl rfl) ?_)
 exact ⟨by rw [hz],f⟩
theorem Xni(E:World)(d:Dg)(md:Nat)(G:md=d.ns.length)(Ad:Option Addr)(cd:Nat)(a6:Nat)(b:Own E a6 81 2 encNd Ad cd d.ns)(aO:a6≤E.heap.size)(Bd:Option Addr)(dd:Nat)(j:Rd E E.heap.size 83 encWr Bd d.ws)(H:d.ws.length≤dd)(p:Int)(q:Int)(aP:d.ws.length≤999999999) : Ret Tryz.prog 81 [.agg #[vi d.n,.slice Ad md cd,.slice Bd d.ws.length dd,vi d.t,vi d.r],vi p,vi q] E (fun v w=>∃ A' c',v=.agg #[vi (tgD d p q).n,.slice Ad md cd,.slice A' (tgD d p q).ws.length c',vi (tgD d p q).t,vi (tgD d p q).r]∧Own w a6 81 2 encNd Ad cd (tgD d p q).ns∧Rd w w.heap.size 83 encWr A' (tgD d p q).ws∧(tgD d p q).ws.length≤c'∧md=(tgD d p q).ns.length∧E.grownBy w (Value.slice Ad d.ns.length cd).ownBlock):=by
 have aA:=X6x d.ws p q;refine enter Tryz.func81 rfl 36 rfl rfl ?_;intro a x
 have m:E.grownBy E (Value.slice Ad d.ns.length cd).ownBlock:=World.grownBy.refl _ _
 refine Zs x fun _ aJ=>?_;refine Zf (X0h (zs:=[vi d.n,.slice Ad md cd,.slice Bd d.ws.length dd,vi d.t,vi d.r]) rfl rfl) ?_;rintro _ w1 ⟨b4,rfl,aK,u,c⟩;have y:=Q0 m.size aK;have b:=b.below u;have j:=j.below u;have m:=gbel m u;refine Zf (X00 (zs:=[vi 0,.slice none 0 0,.slice none 0 0,vi 0,vi 0]) X0o rfl) ?_;rintro _ w2 ⟨b7,rfl,aL,u,f⟩
 have aI:b4≠b7:=by have:=c.lt;omega
 have I:=Q0 m.size aL;have c:=c.below u;have b:=b.below u;have j:=j.below u;have m:=gbel m u;refine ZX aJ fun a x _ aM=>?_;refine Zs x fun _ aN=>?_;refine Ze (Vd rfl Xm 2)<|Ze (X0 rfl X0j (c.at 2))<|Zm rfl<|Zm rfl<|Zf (Vc (Xek _ Bd dd d.ws j.top p q (by omega)) X72) ?_;rintro _ w3 ⟨rfl,u⟩;have c:=c.below u;have f:=f.below u;have b:=b.below u;have j:=j.below u;have m:=gbel m u;refine Za rfl<|Zx aN fun a x _ aB=>?_;refine Zm rfl<|Ze (X4m rfl rfl)<|Zt aB fun a x=>?_
 refine Xh x rfl (fun k=>?_) (fun k=>?_)
 ·have a7:=k;have k:=Q2 k;have a8:=Xuc k;refine Zs x fun _ aC=>?_;refine Ze (Vd rfl Xm 2)<|Ze (X0 rfl X0j (c.at 2))<|Zm rfl<|Zf (Vc (Xev _ Bd dd d.ws j.top (fdW d.ws p q) (by omega) H ⟨by omega,aA⟩) X7d) ?_;rintro _ w4 ⟨h,A,rfl,g,u⟩;have g:=g.lower m.size;have c:=c.below u;have f:=f.below u;have b:=b.below u;have m:=gbel m u;refine Ze (Vd rfl Xm 2)<|Zo (Vu (vs:=[.slice h (ctW d.ws (fdW d.ws p q).toNat).length A]) (l':=[vi d.n,.slice Ad md cd,.slice h (ctW d.ws (fdW d.ws p q).toNat).length A,vi d.t,vi d.r]) rfl rfl X19 c) ?_;rintro _ w5 ⟨o,D⟩;have e:=c;have f:=f.only o (by omega);have b:=b.onlyT o e rfl;have g:=g.onlyT o e rfl;have m:=gonly m o y;have c:=D;refine Zx aC fun a x _ aD=>?_;refine Ze (Vd rfl Xy 4)<|Ze (X0 rfl X9 (c.at 4))<|Ze (Xb5 rfl rfl)<|Ze (Vd rfl Xy 4)<|Zo (Vu (vs:=[vi (wr (d.r-1))]) (l':=[vi d.n,.slice Ad md cd,.slice h (ctW d.ws (fdW d.ws p q).toNat).length A,vi d.t,vi (wr (d.r-1))]) rfl rfl X08 c) ?_;rintro _ w6 ⟨o,D⟩;have e:=c;have f:=f.only o (by omega);have b:=b.onlyT o e rfl;have g:=g.onlyT o e rfl;have m:=gonly m o y;have c:=D;refine Zx aD fun a x _ aE=>?_;refine Ze (Vn X2 c)<|Zo (Vw [vi d.n,.slice Ad md cd,.slice h (ctW d.ws (fdW d.ws p q).toNat).length A,vi d.t,vi (wr (d.r-1))] Xl f) ?_;rintro _ w7 ⟨o,D⟩;have e:=f;have b:=b.onlyT o e rfl;have g:=g.onlyT o e rfl;have m:=gonly m o I;have f:=D;refine Zt aE fun a x=>?_;refine Q6<|X7 ?_
  refine X5 x (Xr x rfl (ResV.cellN (l:=[vi d.n,.slice Ad md cd,.slice h (ctW d.ws (fdW d.ws p q).toNat).length A,vi d.t,vi (wr (d.r-1))]) rfl X2 (f.at 0) rfl)) ?_
  rw [a8]
  exact ⟨h,A,rfl,b,g.rd.top,g.cap,G,m⟩
 have a7:=k;have k:=Q1 k;have a8:=Xrz k;refine Q7<|aM _ _<|Zs x fun _ aF=>?_;refine Ze (Vd rfl Xm 2)<|Ze (X0 rfl X0j (c.at 2))<|Zm rfl<|Zm rfl<|Zf (Vc (X95 _ Bd dd d.ws j.top p q true (by omega) H) X58) ?_;rintro _ w8 ⟨B,C,rfl,i,u⟩;have i:=i.lower m.size;have c:=c.below u;have f:=f.below u;have b:=b.below u;have m:=gbel m u;refine Ze (Vd rfl Xm 2)<|Zo (Vu (vs:=[.slice B (jnW d.ws p q true).length C]) (l':=[vi d.n,.slice Ad md cd,.slice B (jnW d.ws p q true).length C,vi d.t,vi d.r]) rfl rfl X19 c) ?_;rintro _ w9 ⟨o,D⟩;have e:=c;have f:=f.only o (by omega);have b:=b.onlyT o e rfl;have i:=i.onlyT o e rfl;have m:=gonly m o y;have c:=D;refine Zx aF fun a x _ aG=>?_;refine Ze (Vd rfl Xy 4)<|Ze (X0 rfl X9 (c.at 4))<|Ze (X3u rfl rfl)<|Ze (Vd rfl Xy 4)<|Zo (Vu (vs:=[vi (wr (d.r+1))]) (l':=[vi d.n,.slice Ad md cd,.slice B (jnW d.ws p q true).length C,vi d.t,vi (wr (d.r+1))]) rfl rfl X08 c) ?_;rintro _ aQ ⟨o,D⟩;have e:=c;have f:=f.only o (by omega);have b:=b.onlyT o e rfl;have i:=i.onlyT o e rfl;have m:=gonly m o y;have c:=D;refine Zx aG fun a x _ aH=>?_;refine Ze (Vn X2 c)<|Zo (Vw [vi d.n,.slice Ad md cd,.slice B (jnW d.ws p q true).length C,vi d.t,vi (wr (d.r+1))] Xl f) ?_;rintro _ aR ⟨o,D⟩;have e:=f;have b:=b.onlyT o e rfl;have i:=i.onlyT o e rfl;have m:=gonly m o I;have f:=D;refine Zt aH fun a x=>?_
 refine Q6 (X5 x (Xr x rfl (ResV.cellN (l:=[vi d.n,.slice Ad md cd,.slice B (jnW d.ws p q true).length C,vi d.t,vi (wr (d.r+1))]) rfl X2 (f.at 0) rfl)) ?_)
 rw [a8]
 exact ⟨B,C,rfl,b,i.rd.top,i.cap,G,m⟩
theorem Xry(w0:World)(d:Dg)(md:Nat)(D:md=d.ns.length)(Ad:Option Addr)(cd:Nat)(aG:Nat)(b:Own w0 aG 81 2 encNd Ad cd d.ns)(aP:aG≤w0.heap.size)(Bd:Option Addr)(dd:Nat)(y:Rd w0 w0.heap.size 83 encWr Bd d.ws)(U:d.ws.length≤dd)(p:Int)(q:Int)(x:Bool)(bH:d.ws.length≤999999999)(b8:(0≤p∧p.toNat<d.ns.length)∧(0≤q∧q.toNat<d.ns.length))(hP:PhN d.ns) : Ret Tryz.prog 232 [.agg #[vi d.n,.slice Ad md cd,.slice Bd d.ws.length dd,vi d.t,vi d.r],vi p,vi q,.bool x] w0 (fun v w=>∃ A' c',v=.agg #[vi (lkD d p q x).n,.slice Ad md cd,.slice A' (lkD d p q x).ws.length c',vi (lkD d p q x).t,vi (lkD d p q x).r]∧Own w aG 81 2 encNd Ad cd (lkD d p q x).ns∧Rd w w.heap.size 83 encWr A' (lkD d p q x).ws∧(lkD d p q x).ws.length≤c'∧md=(lkD d p q x).ns.length∧w0.grownBy w (Value.slice Ad d.ns.length cd).ownBlock):=by
 have aH:=X6x d.ws p q;refine enter Tryz.func232 rfl 68 rfl rfl ?_;intro a m
 have g:w0.grownBy w0 (Value.slice Ad d.ns.length cd).ownBlock:=World.grownBy.refl _ _
 refine Zs m fun _ b9=>?_;refine Zf (X0h (zs:=[vi d.n,.slice Ad md cd,.slice Bd d.ws.length dd,vi d.t,vi d.r]) rfl rfl) ?_;rintro _ w1 ⟨b4,rfl,bA,i,c⟩;have J:=Q0 g.size bA;have b:=b.below i;have y:=y.below i;have g:=gbel g i;refine Zf (X00 (zs:=[vi 0,.slice none 0 0,.slice none 0 0,vi 0,vi 0]) X0o rfl) ?_;rintro _ w2 ⟨b7,rfl,bB,i,e⟩
 have b6:b4≠b7:=by have:=c.lt;omega
 have W:=Q0 g.size bB;have c:=c.below i;have b:=b.below i;have y:=y.below i;have g:=gbel g i;refine Zx b9 fun a m _ bC=>?_;refine Ze (Vd rfl Xm 2)<|Ze (X0 rfl X0j (c.at 2))<|Zm rfl<|Zm rfl<|Zf (Vc (Xek _ Bd dd d.ws y.top p q (by omega)) X72) ?_;rintro _ w3 ⟨rfl,i⟩;have c:=c.below i;have e:=e.below i;have b:=b.below i;have y:=y.below i;have g:=gbel g i;refine Za rfl<|ZX bC fun a m _ bD=>?_;refine Zs m fun _ aQ=>?_;refine Zm rfl<|Ze (X0m rfl rfl)<|Zt aQ fun a m=>?_
 refine Xh m rfl (fun A=>?_) (fun A=>?_)
 ·have H:=A;have A:=Q2 A;have Q:=Xrp (h:=x) A;refine Zs m fun _ aR=>?_;refine Ze (Vd rfl Xm 2)<|Ze (X0 rfl X0j (c.at 2))<|Zm rfl<|Zm rfl<|Zm rfl<|Zf (Vc (X95 _ Bd dd d.ws y.top p q x (by omega) U) X58) ?_;rintro _ w4 ⟨aA,aB,rfl,G,i⟩;have G:=G.lower g.size;have c:=c.below i;have e:=e.below i;have b:=b.below i;have g:=gbel g i;refine Ze (Vd rfl Xm 2)<|Zo (Vu (vs:=[.slice aA (jnW d.ws p q x).length aB]) (l':=[vi d.n,.slice Ad md cd,.slice aA (jnW d.ws p q x).length aB,vi d.t,vi d.r]) rfl rfl X19 c) ?_;rintro _ w5 ⟨o,L⟩;have f:=c;have e:=e.only o (by omega);have b:=b.onlyT o f rfl;have G:=G.onlyT o f rfl;have g:=gonly g o J;have c:=L;refine Zx aR fun a m _ aS=>?_;refine Ze (Vn X2 c)<|Zo (Vw [vi d.n,.slice Ad md cd,.slice aA (jnW d.ws p q x).length aB,vi d.t,vi d.r] Xl e) ?_;rintro _ w6 ⟨o,L⟩;have f:=e;have b:=b.onlyT o f rfl;have G:=G.onlyT o f rfl;have g:=gonly g o W;have e:=L;refine Zt aS fun a m=>?_;refine Q6<|X7<|X5 m (Xr m rfl (ResV.cellN (l:=[vi d.n,.slice Ad md cd,.slice aA (jnW d.ws p q x).length aB,vi d.t,vi d.r]) rfl X2 (e.at 0) rfl)) ?_
  rw [Q]
  exact ⟨aA,aB,rfl,b,G.rd.top,G.cap,by first|exact D|exact D.trans (X1s _ _ _).symm,g⟩
 have H:=A;have A:=Q1 A;have aJ:=A
 have bJ:0≤fdW d.ws p q:=by have h9:=A;omega
 refine Q7<|bD _ _<|Zs m fun _ aT=>?_;refine Ze (Vd rfl Xm 2)<|Ze (X0 rfl X0j (c.at 2))<|Zm rfl<|Zi (k:=(fdW d.ws p q).toNat) (u:=(d.ws.getD (fdW d.ws p q).toNat wZ)) (enc:=encWr) (l:=d.ws) trivial rfl rfl Xv X0b Xx y (Xb (by omega)) (by omega) ?_;intro bK aK;refine Ze (X21 rfl X6r)<|Ze (X0 rfl X6l (aK.drop 2))<|Za rfl<|ZX aT fun a m _ aC=>?_;refine Q8<|Q5 fun _ aU=>?_;refine X09 (fun a w=>Fr a 68 [(1,vi p),(2,vi q),(3,.bool x),(4,.pointer (some ⟨b4,0,none⟩)),(8,.pointer (some ⟨b7,0,none⟩)),(9,vi (fdW d.ws p q)),(10,.bool ((d.ws.getD (fdW d.ws p q).toNat wZ).h)),(32,.bool (((d.ws.getD (fdW d.ws p q).toNat wZ).h)&&x))]∧w3=w) ?_ ?_
 ·refine Zr m<|Zm rfl<|Zm rfl ?_
  refine Zg 34 rfl (fun E=>?_) (fun E=>?_)
  ·refine Zv (gW E) (X3 rfl) ?_;refine Ze (X8 rfl E rfl)<|Za rfl ?_;refine Zn fun a m=>?_;exact ⟨m.sub ⟨rfl,rfl,rfl,rfl,rfl,rfl,rfl,X1 rfl (by first|rfl|(simp only [H,E,bs];done)|simp [H,E]),trivial⟩,rfl⟩
  refine Zp (gP E) ?_;refine Ze (Xe rfl E rfl)<|Za rfl ?_;refine Zn fun a m=>?_;exact ⟨m.sub ⟨rfl,rfl,rfl,rfl,rfl,rfl,rfl,X1 rfl (by first|rfl|(simp only [H,E,bs];done)|simp [H,E]),trivial⟩,rfl⟩
 rintro a _ ⟨m,rfl⟩;refine aU _ _ ?_
 refine Xh m rfl (fun M=>?_) (fun M=>?_)
 ·have aL:=M;have Q:=Xu6 aJ M;refine Zs m fun _ aW=>?_;refine Ze (Vd rfl Xm 2)<|Ze (X0 rfl X0j (c.at 2))<|Zm rfl<|Zf (Vc (Xev _ Bd dd d.ws y.top (fdW d.ws p q) (by omega) U ⟨by omega,aH⟩) X7d) ?_;rintro _ w7 ⟨a7,a8,rfl,B,i⟩;have B:=B.lower g.size;have c:=c.below i;have e:=e.below i;have b:=b.below i;have g:=gbel g i;refine Ze (Vd rfl Xm 2)<|Zo (Vu (vs:=[.slice a7 (ctW d.ws (fdW d.ws p q).toNat).length a8]) (l':=[vi d.n,.slice Ad md cd,.slice a7 (ctW d.ws (fdW d.ws p q).toNat).length a8,vi d.t,vi d.r]) rfl rfl X19 c) ?_;rintro _ w8 ⟨o,L⟩;have f:=c;have e:=e.only o (by omega);have b:=b.onlyT o f rfl;have B:=B.onlyT o f rfl;have g:=gonly g o J;have c:=L;refine Zt aW fun a m=>?_;refine Zr m<|Ze (Vd rfl Xy 4)<|Ze (X0 rfl X9 (c.at 4))<|Ze (Xb5 rfl rfl)<|Ze (Vd rfl Xy 4)<|Zo (Vu (vs:=[vi (wr (d.r-2))]) (l':=[vi d.n,.slice Ad md cd,.slice a7 (ctW d.ws (fdW d.ws p q).toNat).length a8,vi d.t,vi (wr (d.r-2))]) rfl rfl X08 c) ?_;rintro _ w9 ⟨o,L⟩;have f:=c;have e:=e.only o (by omega);have b:=b.onlyT o f rfl;have B:=B.onlyT o f rfl;have g:=gonly g o J;have c:=L;refine Zn fun a m=>?_;refine Xd<|aC _ _<|Zs m fun _ aX=>?_;refine Ze (Vn X2 c)<|Zo (Vw [vi d.n,.slice Ad md cd,.slice a7 (ctW d.ws (fdW d.ws p q).toNat).length a8,vi d.t,vi (wr (d.r-2))] Xl e) ?_;rintro _ bL ⟨o,L⟩;have f:=e;have b:=b.onlyT o f rfl;have B:=B.onlyT o f rfl;have g:=gonly g o W;have e:=L;refine Zt aX fun a m=>?_
  refine Q6 (X5 m (Xr m rfl (ResV.cellN (l:=[vi d.n,.slice Ad md cd,.slice a7 (ctW d.ws (fdW d.ws p q).toNat).length a8,vi d.t,vi (wr (d.r-2))]) rfl X2 (e.at 0) rfl)) ?_)
  rw [Q]
  exact ⟨a7,a8,rfl,b,B.rd.top,B.cap,by first|exact D|exact D.trans (X1s _ _ _).symm,g⟩
 have aL:=M;have aY:=M;refine Zs m fun _ aZ=>?_;refine Zm rfl<|Zm rfl<|Ze (X7m Tryz.underlying4 rfl rfl)<|Za rfl<|Zt aZ fun a m=>?_
 refine Xh m rfl (fun N=>?_) (fun N=>?_)
 ·have aM:=N;have Q:=Xpp aJ aY N;refine Zs m fun _ b0=>?_;refine Ze (Vd rfl Xm 2)<|Ze (X0 rfl X0j (c.at 2))<|Zm rfl<|Zf (Vc (Xev _ Bd dd d.ws y.top (fdW d.ws p q) (by omega) U ⟨by omega,aH⟩) X7d) ?_;rintro _ bM ⟨bE,bF,rfl,a6,i⟩;have a6:=a6.lower g.size;have c:=c.below i;have e:=e.below i;have b:=b.below i;have g:=gbel g i;refine Zm rfl<|Zm rfl<|Zf (Vc (X95 _ bE bF (ctW d.ws (fdW d.ws p q).toNat) a6.rd.top p q false (Q0 (X3t _ _).length_le (by omega)) a6.cap) X58) ?_;rintro _ bN ⟨aN,aO,rfl,C,i⟩;have C:=C.lower g.size;have c:=c.below i;have e:=e.below i;have b:=b.below i;have g:=gbel g i;refine Ze (Vd rfl Xm 2)<|Zo (Vu (vs:=[.slice aN (jnW (ctW d.ws (fdW d.ws p q).toNat) p q false).length aO]) (l':=[vi d.n,.slice Ad md cd,.slice aN (jnW (ctW d.ws (fdW d.ws p q).toNat) p q false).length aO,vi d.t,vi d.r]) rfl rfl X19 c) ?_;rintro _ bO ⟨o,L⟩;have f:=c;have e:=e.only o (by omega);have b:=b.onlyT o f rfl;have C:=C.onlyT o f rfl;have g:=gonly g o J;have c:=L;refine ZX b0 fun a m _ b1=>?_;refine X05 none (fun j=>[4,5].contains j) mixed ?_;intro bP i;have c:=c.below i;have e:=e.below i;have b:=b.below i;have C:=C.below i;have g:=gbel g i;refine Yb m<|Ye 0 rfl (Vn X2 c)<|Yo 1 rfl (fun _=>X3 rfl)<|Yo 2 rfl (fun _=>X3 rfl)<|Y1 3 ?_;refine Yk rfl trivial (Vc (Xha _ p q) Xa5) (fun _ _ ⟨_,i⟩=>i) ?_;rintro _ bR ⟨rfl,i⟩;have c:=c.below i;have e:=e.below i;have b:=b.below i;have C:=C.below i;have g:=gbel g i;refine Y1 4<|Yt rfl trivial rfl (Vc (X92 _ (⟨d.n,d.ns,(jnW (ctW d.ws (fdW d.ws p q).toNat) p q false),d.t,d.r⟩ : Dg) md D Ad cd aG b (Q0 aP g.size) aN aO C.rd.top C.cap (min p q) 4 (Xhi b8) (Xwc hP _ (by decide) (by decide))) X5c) ?_;rintro _ bS ⟨aD,aE,rfl,aI,I,b2,bG,hg⟩
  have aF:=b;have c:=c.appT aF hg rfl;have e:=e.appT aF hg rfl;have g:=gtr g hg
  clear aF hg;clear b;have b:=aI;clear aI;refine Y1 5<|Yh rfl trivial rfl (Vw [vi (({ (⟨d.n,d.ns,(jnW (ctW d.ws (fdW d.ws p q).toNat) p q false),d.t,d.r⟩ : Dg) with ns:=adN (⟨d.n,d.ns,(jnW (ctW d.ws (fdW d.ws p q).toNat) p q false),d.t,d.r⟩ : Dg).ns (min p q) 4 } : Dg).n),.slice Ad md cd,.slice aD (({ (⟨d.n,d.ns,(jnW (ctW d.ws (fdW d.ws p q).toNat) p q false),d.t,d.r⟩ : Dg) with ns:=adN (⟨d.n,d.ns,(jnW (ctW d.ws (fdW d.ws p q).toNat) p q false),d.t,d.r⟩ : Dg).ns (min p q) 4 } : Dg).ws).length aE,vi (({ (⟨d.n,d.ns,(jnW (ctW d.ws (fdW d.ws p q).toNat) p q false),d.t,d.r⟩ : Dg) with ns:=adN (⟨d.n,d.ns,(jnW (ctW d.ws (fdW d.ws p q).toNat) p q false),d.t,d.r⟩ : Dg).ns (min p q) 4 } : Dg).t),vi (({ (⟨d.n,d.ns,(jnW (ctW d.ws (fdW d.ws p q).toNat) p q false),d.t,d.r⟩ : Dg) with ns:=adN (⟨d.n,d.ns,(jnW (ctW d.ws (fdW d.ws p q).toNat) p q false),d.t,d.r⟩ : Dg).ns (min p q) 4 } : Dg).r)] Xl c) ?_;rintro _ bT ⟨o,L⟩;have f:=c;have e:=e.only o (by omega);have b:=b.onlyT o f rfl;have I:=I.onlyT o f rfl;have g:=gonly g o J;have c:=L;refine Yd fun a m=>?_;refine b1 _ _<|Zr m<|Ze (Vd rfl Xy 4)<|Ze (X0 rfl X9 (c.at 4))<|Ze (Xb5 rfl rfl)<|Ze (Vd rfl Xy 4)<|Zo (Vu (vs:=[vi (wr ((({ (⟨d.n,d.ns,(jnW (ctW d.ws (fdW d.ws p q).toNat) p q false),d.t,d.r⟩ : Dg) with ns:=adN (⟨d.n,d.ns,(jnW (ctW d.ws (fdW d.ws p q).toNat) p q false),d.t,d.r⟩ : Dg).ns (min p q) 4 } : Dg).r)-1))]) (l':=[vi (({ (⟨d.n,d.ns,(jnW (ctW d.ws (fdW d.ws p q).toNat) p q false),d.t,d.r⟩ : Dg) with ns:=adN (⟨d.n,d.ns,(jnW (ctW d.ws (fdW d.ws p q).toNat) p q false),d.t,d.r⟩ : Dg).ns (min p q) 4 } : Dg).n),.slice Ad md cd,.slice aD (({ (⟨d.n,d.ns,(jnW (ctW d.ws (fdW d.ws p q).toNat) p q false),d.t,d.r⟩ : Dg) with ns:=adN (⟨d.n,d.ns,(jnW (ctW d.ws (fdW d.ws p q).toNat) p q false),d.t,d.r⟩ : Dg).ns (min p q) 4 } : Dg).ws).length aE,vi (({ (⟨d.n,d.ns,(jnW (ctW d.ws (fdW d.ws p q).toNat) p q false),d.t,d.r⟩ : Dg) with ns:=adN (⟨d.n,d.ns,(jnW (ctW d.ws (fdW d.ws p q).toNat) p q false),d.t,d.r⟩ : Dg).ns (min p q) 4 } : Dg).t),vi (wr ((({ (⟨d.n,d.ns,(jnW (ctW d.ws (fdW d.ws p q).toNat) p q false),d.t,d.r⟩ : Dg) with ns:=adN (⟨d.n,d.ns,(jnW (ctW d.ws (fdW d.ws p q).toNat) p q false),d.t,d.r⟩ : Dg).ns (min p q) 4 } : Dg).r)-1))]) rfl rfl X08 c) ?_;rintro _ bU ⟨o,L⟩
  have f:=c;have e:=e.only o (by omega);have b:=b.onlyT o f rfl;have I:=I.onlyT o f rfl;have g:=gonly g o J;have c:=L;refine Zn fun a m=>?_;refine Xd<|aC _ _<|Zs m fun _ b3=>?_;refine Ze (Vn X2 c)<|Zo (Vw [vi (({ (⟨d.n,d.ns,(jnW (ctW d.ws (fdW d.ws p q).toNat) p q false),d.t,d.r⟩ : Dg) with ns:=adN (⟨d.n,d.ns,(jnW (ctW d.ws (fdW d.ws p q).toNat) p q false),d.t,d.r⟩ : Dg).ns (min p q) 4 } : Dg).n),.slice Ad md cd,.slice aD (({ (⟨d.n,d.ns,(jnW (ctW d.ws (fdW d.ws p q).toNat) p q false),d.t,d.r⟩ : Dg) with ns:=adN (⟨d.n,d.ns,(jnW (ctW d.ws (fdW d.ws p q).toNat) p q false),d.t,d.r⟩ : Dg).ns (min p q) 4 } : Dg).ws).length aE,vi (({ (⟨d.n,d.ns,(jnW (ctW d.ws (fdW d.ws p q).toNat) p q false),d.t,d.r⟩ : Dg) with ns:=adN (⟨d.n,d.ns,(jnW (ctW d.ws (fdW d.ws p q).toNat) p q false),d.t,d.r⟩ : Dg).ns (min p q) 4 } : Dg).t),vi (wr ((({ (⟨d.n,d.ns,(jnW (ctW d.ws (fdW d.ws p q).toNat) p q false),d.t,d.r⟩ : Dg) with ns:=adN (⟨d.n,d.ns,(jnW (ctW d.ws (fdW d.ws p q).toNat) p q false),d.t,d.r⟩ : Dg).ns (min p q) 4 } : Dg).r)-1))] Xl e) ?_;rintro _ bW ⟨o,L⟩;have f:=e;have b:=b.onlyT o f rfl;have I:=I.onlyT o f rfl;have g:=gonly g o W;have e:=L;refine Zt b3 fun a m=>?_
  refine Q6 (X5 m (Xr m rfl (ResV.cellN (l:=[vi (({ (⟨d.n,d.ns,(jnW (ctW d.ws (fdW d.ws p q).toNat) p q false),d.t,d.r⟩ : Dg) with ns:=adN (⟨d.n,d.ns,(jnW (ctW d.ws (fdW d.ws p q).toNat) p q false),d.t,d.r⟩ : Dg).ns (min p q) 4 } : Dg).n),.slice Ad md cd,.slice aD (({ (⟨d.n,d.ns,(jnW (ctW d.ws (fdW d.ws p q).toNat) p q false),d.t,d.r⟩ : Dg) with ns:=adN (⟨d.n,d.ns,(jnW (ctW d.ws (fdW d.ws p q).toNat) p q false),d.t,d.r⟩ : Dg).ns (min p q) 4 } : Dg).ws).length aE,vi (({ (⟨d.n,d.ns,(jnW (ctW d.ws (fdW d.ws p q).toNat) p q false),d.t,d.r⟩ : Dg) with ns:=adN (⟨d.n,d.ns,(jnW (ctW d.ws (fdW d.ws p q).toNat) p q false),d.t,d.r⟩ : Dg).ns (min p q) 4 } : Dg).t),vi (wr ((({ (⟨d.n,d.ns,(jnW (ctW d.ws (fdW d.ws p q).toNat) p q false),d.t,d.r⟩ : Dg) with ns:=adN (⟨d.n,d.ns,(jnW (ctW d.ws (fdW d.ws p q).toNat) p q false),d.t,d.r⟩ : Dg).ns (min p q) 4 } : Dg).r)-1))]) rfl X2 (e.at 0) rfl)) ?_)
  rw [Q]
  exact ⟨aD,aE,rfl,b,I.top,b2,by first|exact D|exact D.trans (X1s _ _ _).symm,g⟩
 have aM:=N;have Q:=Xsx aJ aY N;refine Q7<|Xd<|aC _ _<|Zs m fun _ b5=>?_;refine Ze (Vn X2 c)<|Zo (Vw [vi d.n,.slice Ad md cd,.slice Bd d.ws.length dd,vi d.t,vi d.r] Xl e) ?_;rintro _ bX ⟨o,L⟩;have f:=e;have b:=b.onlyT o f rfl;have y:=y.onlyT o f rfl;have g:=gonly g o W;have e:=L;refine Zt b5 fun a m=>?_
 refine Q6 (X5 m (Xr m rfl (ResV.cellN (l:=[vi d.n,.slice Ad md cd,.slice Bd d.ws.length dd,vi d.t,vi d.r]) rfl X2 (e.at 0) rfl)) ?_)
 rw [Q]
 exact ⟨Bd,dd,rfl,b,y.top,U,by first|exact D|exact D.trans (X1s _ _ _).symm,g⟩
theorem Xnl(I:World)(d:Dg)(md:Nat)(u:md=d.ns.length)(Ad:Option Addr)(cd:Nat)(H:Nat)(b:Own I H 81 2 encNd Ad cd d.ns)(aC:H≤I.heap.size)(Bd:Option Addr)(dd:Nat)(e:Rd I I.heap.size 83 encWr Bd d.ws)(A:d.ws.length≤dd)(p:Int)(q:Int)(x:Bool)(aJ:d.ws.length≤999999999)(aK:(0≤p∧p.toNat<d.ns.length)∧(0≤q∧q.toNat<d.ns.length))(hP:PhN d.ns)(hN:md≤1000) : Ret Tryz.prog 213 [.agg #[vi d.n,.slice Ad md cd,.slice Bd d.ws.length dd,vi d.t,vi d.r],vi p,vi q,.bool x] I (fun v w=>∃ A' c',v=.agg #[vi (mtD d p q x).n,.slice Ad md cd,.slice A' (mtD d p q x).ws.length c',vi (mtD d p q x).t,vi (mtD d p q x).r]∧Own w H 81 2 encNd Ad cd (mtD d p q x).ns∧Rd w w.heap.size 83 encWr A' (mtD d p q x).ws∧(mtD d p q x).ws.length≤c'∧md=(mtD d p q x).ns.length∧I.grownBy w (Value.slice Ad d.ns.length cd).ownBlock):=by
 refine enter Tryz.func213 rfl 30 rfl rfl ?_;intro a o
 have j:I.grownBy I (Value.slice Ad d.ns.length cd).ownBlock:=World.grownBy.refl _ _
 refine Zs o fun _ aL=>?_;refine Zf (X0h (zs:=[vi d.n,.slice Ad md cd,.slice Bd d.ws.length dd,vi d.t,vi d.r]) rfl rfl) ?_;rintro _ w1 ⟨b4,rfl,aM,i,f⟩;have aD:=Q0 j.size aM;have b:=b.below i;have e:=e.below i;have j:=gbel j i;refine Zf (X00 (zs:=[vi 0,.slice none 0 0,.slice none 0 0,vi 0,vi 0]) X0o rfl) ?_;rintro _ w2 ⟨b7,rfl,aN,i,g⟩
 have aI:b4≠b7:=by have:=f.lt;omega
 have J:=Q0 j.size aN;have f:=f.below i;have b:=b.below i;have e:=e.below i;have j:=gbel j i;refine ZX aL fun a o _ aO=>?_;refine Q5 fun _ aP=>?_;refine X09 (fun a w=>Fr a 30 [(1,vi p),(2,vi q),(3,.bool x),(4,.pointer (some ⟨b4,0,none⟩)),(8,.pointer (some ⟨b7,0,none⟩)),(16,.bool ((spI d.ns p)&&(spI d.ns q)))]∧Below w2.heap.size w2 w) ?_ ?_
 ·have B:Below w2.heap.size w2 w2:=Below.refl _ _
  refine Zr o<|Ze (Vn X2 f)<|Zm rfl<|Zf (Vc (X5o _ d md u Ad cd b.rd.top Bd dd e.top A p hN) X2s) ?_;rintro _ w3 ⟨rfl,i⟩;have f:=f.below i;have b:=b.below i;have e:=e.below i;have j:=gbel j i;have B:=btr B i;refine Zm rfl ?_
  refine Zg 12 rfl (fun c=>?_) (fun c=>?_)
  ·refine Zv (gW c) (Vn X2 f) ?_;refine Zv (gW c) (X3 rfl) ?_;refine Zk (gW c) (Vc (X5o _ d md u Ad cd b.rd.top Bd dd e.top A q hN) X2s) ?_;rintro _ w4 ⟨rfl,i⟩;have j:=gbel j i;have B:=btr B i;refine Ze (X8 rfl c rfl) ?_;refine Zn fun a o=>?_
   have a6:Below w2.heap.size w2 w4:=B
   exact ⟨o.sub ⟨rfl,rfl,rfl,rfl,rfl,X1 rfl (by first|rfl|(simp only [c,bs];done)|simp [c]),trivial⟩,a6⟩
  refine Zp (gP c) ?_;refine Zp (gP c) ?_;refine Zp (gP c) ?_;refine Ze (Xe rfl c rfl) ?_;refine Zn fun a o=>?_
  have a6:Below w2.heap.size w2 w3:=B
  exact ⟨o.sub ⟨rfl,rfl,rfl,rfl,rfl,X1 rfl (by first|rfl|(simp only [c,bs];done)|simp [c]),trivial⟩,a6⟩
 rintro a w5 ⟨o,i⟩;have f:=f.below i;have g:=g.below i;have b:=b.below i;have e:=e.below i;have j:=gbel j i;refine aP _ _ ?_
 refine Xh o rfl (fun y=>?_) (fun y=>?_)
 ·have a7:=y;have a8:=Xv5 (h:=x) y;refine Zs o fun _ aE=>?_;refine Ze (Vn X2 f)<|Zm rfl<|Zm rfl<|Zm rfl<|Zf (Vc (Xry _ d md u Ad cd H b (Q0 aC j.size) Bd dd e.top A p q x aJ aK hP) Xmv) ?_;rintro _ w6 ⟨aA,aB,rfl,L,D,aF,aQ,hg⟩;have M:=b;have g:=g.appT M hg rfl;have j:=gtr j hg
  clear M hg;clear b;have b:=L;clear L;refine Zo (Vw [vi ((lkD d p q x).n),.slice Ad md cd,.slice aA ((lkD d p q x).ws).length aB,vi ((lkD d p q x).t),vi ((lkD d p q x).r)] Xl g) ?_;rintro _ w7 ⟨C,hb⟩;have k:=g;have b:=b.onlyT C k rfl;have D:=D.onlyT C k rfl;have j:=gonly j C J;have g:=hb;refine Zt aE fun a o=>?_;refine Q6<|X7<|X5 o (Xr o rfl (ResV.cellN (l:=[vi ((lkD d p q x).n),.slice Ad md cd,.slice aA ((lkD d p q x).ws).length aB,vi ((lkD d p q x).t),vi ((lkD d p q x).r)]) rfl X2 (g.at 0) rfl)) ?_
  rw [a8]
  exact ⟨aA,aB,rfl,b,D.top,aF,by first|exact u|assumption,j⟩
 have a7:=y;have a8:=Xui (h:=x) y;refine Q7<|aO _ _<|Zs o fun _ aG=>?_;refine Ze (Vd rfl Xm 2)<|Ze (X0 rfl X0j (f.at 2))<|Zm rfl<|Zm rfl<|Zm rfl<|Zf (Vc (X95 _ Bd dd d.ws e.top p q x (by omega) A) X58) ?_;rintro _ w8 ⟨E,G,rfl,m,i⟩;have m:=m.lower j.size;have f:=f.below i;have g:=g.below i;have b:=b.below i;have j:=gbel j i;refine Ze (Vd rfl Xm 2)<|Zo (Vu (vs:=[.slice E (jnW d.ws p q x).length G]) (l':=[vi d.n,.slice Ad md cd,.slice E (jnW d.ws p q x).length G,vi d.t,vi d.r]) rfl rfl X19 f) ?_;rintro _ w9 ⟨C,hb⟩;have k:=f;have g:=g.only C (by omega);have b:=b.onlyT C k rfl;have m:=m.onlyT C k rfl;have j:=gonly j C aD;have f:=hb;refine Zx aG fun a o _ aH=>?_;refine Ze (Vn X2 f)<|Zo (Vw [vi d.n,.slice Ad md cd,.slice E (jnW d.ws p q x).length G,vi d.t,vi d.r] Xl g) ?_;rintro _ aR ⟨C,hb⟩;have k:=g;have b:=b.onlyT C k rfl;have m:=m.onlyT C k rfl;have j:=gonly j C J;have g:=hb;refine Zt aH fun a o=>?_
 refine Q6 (X5 o (Xr o rfl (ResV.cellN (l:=[vi d.n,.slice Ad md cd,.slice E (jnW d.ws p q x).length G,vi d.t,vi d.r]) rfl X2 (g.at 0) rfl)) ?_)
 rw [a8]
 exact ⟨E,G,rfl,b,m.rd.top,m.cap,by first|exact u|assumption,j⟩
theorem X8o(D:World)(d:Dg)(md:Nat)(b0:md=d.ns.length)(Ad:Option Addr)(cd:Nat)(b1:Rd D D.heap.size 81 encNd Ad d.ns)(Bd:Option Addr)(dd:Nat)(J:Rd D D.heap.size 83 encWr Bd d.ws)(q:d.ws.length≤dd)(p:Int)(hI:InW d.ws)(b5:d.ws.length≤1000000000) : Ret Tryz.prog 212 [.agg #[vi d.n,.slice Ad md cd,.slice Bd d.ws.length dd,vi d.t,vi d.r],vi p] D (fun v w=>∃ A c,v=.slice A (nearW d.ws p).length c∧Own w D.heap.size 3 1 encI A c (nearW d.ws p)∧Below D.heap.size D w):=by
 refine enter Tryz.func212 rfl 34 rfl rfl ?_;intro a e
 have o:=bz D
 refine Zs e fun _ aP=>?_;refine Zf (X0h (zs:=[vi d.n,.slice Ad md cd,.slice Bd d.ws.length dd,vi d.t,vi d.r]) rfl rfl) ?_;rintro _ w1 ⟨b4,rfl,aQ,L,aR⟩;have b2:=Q0 o.size aQ;have o:=btr o L;refine Za rfl<|Zx aP fun a e _ aS=>?_;refine Za rfl<|ZX aS fun a e _ aT=>?_;refine Zs e fun _ aU=>?_;refine Ze (Vd rfl Xm 2)<|Ze (X0 rfl X0j (aR.at 2))<|Ze (X0c rfl Xv)<|Zm rfl<|Zt aU fun a e=>?_;refine Q8<|X01 (σ:=Nat×(List Int)) (fun (s:Nat×(List Int)) (a:Act) (w:World)=>match s with|(k,m)=>∃ B C,Fr a 34 [(1,vi p),(5,.slice B m.length C),(9,.slice Bd d.ws.length dd),(10,vi (d.ws.length:Int)),(11,vi (k:Int))]∧(k≤d.ws.length)∧(m=nearW (d.ws.take k) p)∧Own w D.heap.size 3 1 encI B C m∧d.ws.length≤dd∧Below D.heap.size D w) (fun (s:Nat×(List Int))=>match s with|(k,m)=>d.ws.length-k) (0,[]) ?_ ?_
 ·exact ⟨none,0,e.sb,(Qf _),(by simp [nearW]),(Own.nil _ _ _ _ _),q,o⟩
 rintro ⟨k,m⟩ a w2 ⟨B,C,e,hk,hm,f,q,o⟩;refine Zs e fun _ aC=>?_;refine Ze (X0m rfl rfl)<|ZX aC fun a e _ aD=>?_
 refine Xh e rfl (fun g=>?_) (fun g=>?_)
 ·have a6:=g;have g:=Q2 g
  obtain ⟨b6,b3⟩:=X4 (l:=d.ws) (k:=k) (by omega)
  obtain ⟨G,I⟩:=X4 (l:=d.ws) (k:=k) (by have:=g;omega)
  refine Q7<|aD _ _<|Q5 fun _ H=>?_;refine Q8<|Zs e fun _ aE=>?_;refine Zi (k:=k) (u:=G) (enc:=encWr) (l:=d.ws) trivial rfl rfl Xv X0b Xx (J.below' o) I rfl ?_;intro b7 a7;refine Ze (X02 (l:=[vi G.a,vi G.b,.bool G.h]) rfl X17 a7 rfl)<|Zf (X00 (zs:=[vi 0,vi 0,.bool false]) X32 rfl) ?_;rintro _ w3 ⟨b8,rfl,M,L,j⟩;have a8:=Q0 o.size M;have aF:=(J.below' o).away M;have f:=f.below L;have o:=btr o L;refine Zo (Vw [vi G.a,vi G.b,.bool G.h] X0b j) ?_;rintro _ w4 ⟨ho,hb⟩;have aG:=j;have f:=f.onlyT ho aG rfl;have o:=Below.only o ho a8;have j:=hb;refine Zx aE fun a e _ aH=>?_;refine Zm rfl<|Zt aH fun a e=>?_;refine Q8<|Zs e fun _ aI=>?_;refine Ze (Vd rfl X0s 0)<|Ze (X0 rfl X9 (j.at 0))<|Ze (X0a rfl rfl)<|Za rfl<|Zt aI fun a e=>?_
  refine Xh e rfl (fun x=>?_) (fun x=>?_)
  ·have aA:=x;have i:=Xc4 I x;have E:=Xat hI i
   rw [← hm] at i E
   refine Zr e<|Zm rfl<|Ze (Vd rfl X0v 1)<|Ze (X0 rfl X9 (j.at 1))<|Zf (Vc (Xpv _ B C m f.rd.top G.b D.heap.size f o.size (by have h9:=X1y (d.ws.take k) p;rw [← hm] at h9;rw [Qn] at h9;omega)) Xcu) ?_;rintro _ w5 ⟨aW,aX,rfl,aJ,L⟩;have o:=btr o L;refine Za rfl ?_;refine Zn fun a e=>?_;refine Xd<|Xd<|H _ _<|Zr e ?_;refine Ze (Xu rfl rfl (by omega) (by omega))<|Zm rfl ?_;refine Zn fun a e=>?_;refine Xf ?_;exact ⟨(k+1,(putI m G.b)),⟨aW,aX,e.sb,(by omega),(by first|rw [E,i]|rw [i]),aJ,q,o⟩,(by first|omega|(dsimp only;omega))⟩
  have aA:=x;have aK:=x;refine Zs e fun _ aL=>?_;refine Ze (Vd rfl X0v 1)<|Ze (X0 rfl X9 (j.at 1))<|Ze (X0a rfl rfl)<|Za rfl<|Zt aL fun a e=>?_
  refine Xh e rfl (fun y=>?_) (fun y=>?_)
  ·have aB:=y;have i:=Xc1 I aK y;have E:=Xat hI i
   rw [← hm] at i E
   refine Zr e<|Zm rfl<|Ze (Vd rfl X0s 0)<|Ze (X0 rfl X9 (j.at 0))<|Zf (Vc (Xpv _ B C m f.rd.top G.a D.heap.size f o.size (by have h9:=X1y (d.ws.take k) p;rw [← hm] at h9;rw [Qn] at h9;omega)) Xcu) ?_;rintro _ w6 ⟨aY,aZ,rfl,aM,L⟩;have o:=btr o L;refine Za rfl ?_;refine Zn fun a e=>?_;refine Xd<|Xd<|H _ _<|Zr e ?_;refine Ze (Xu rfl rfl (by omega) (by omega))<|Zm rfl ?_;refine Zn fun a e=>?_;refine Xf ?_;exact ⟨(k+1,(putI m G.a)),⟨aY,aZ,e.sb,(by omega),(by first|rw [E,i]|rw [i]),aM,q,o⟩,(by first|omega|(dsimp only;omega))⟩
  have aB:=y;have i:=X8m I aK y
  rw [← hm] at i
  refine Q7<|Xd<|Xd<|H _ _ ?_;refine Zr e<|Ze (Xu rfl rfl (by omega) (by omega))<|Zm rfl ?_;refine Zn fun a e=>?_;refine Xf ?_;exact ⟨(k+1,m),⟨B,C,e.sb,(by omega),(by first|rw [E,i]|rw [i]),f,q,o⟩,(by first|omega|(dsimp only;omega))⟩
 have a6:=g;have g:=Q1 g
 have aN:m=nearW d.ws p:=by rw [hm,Qi (by have:=g;omega)]
 refine Q9<|Xk<|Xk<|X03 ?_;refine aT _ _<|Zs e fun _ aO=>?_;refine Zm rfl<|Za rfl<|Zt aO fun a e=>?_
 refine Q6 (X5 e (Xr e rfl rfl) ?_)
 rw [← aN]
 exact ⟨B,C,rfl,f,o⟩
theorem Xo6(y:World)(d:Dg)(md:Nat)(aF:md=d.ns.length)(Ad:Option Addr)(cd:Nat)(aG:Rd y y.heap.size 81 encNd Ad d.ns)(Bd:Option Addr)(dd:Nat)(aH:Rd y y.heap.size 83 encWr Bd d.ws)(o:d.ws.length≤dd)(p:Int)(q:Int)(hI:InW d.ws)(aQ:d.ws.length≤1000000000) : Ret Tryz.prog 214 [.agg #[vi d.n,.slice Ad md cd,.slice Bd d.ws.length dd,vi d.t,vi d.r],vi p,vi q] y (fun v w=>∃ A c,v=.slice A (othW d.ws p q).length c∧Own w y.heap.size 3 1 encI A c (othW d.ws p q)∧Below y.heap.size y w):=by
 have b3:=X1y d.ws p;refine enter Tryz.func214 rfl 27 rfl rfl ?_;intro a g
 have j:=bz y
 refine Zs g fun _ aR=>?_;refine Zf (X0h (zs:=[vi d.n,.slice Ad md cd,.slice Bd d.ws.length dd,vi d.t,vi d.r]) rfl rfl) ?_;rintro _ w1 ⟨b4,rfl,aS,hE,aT⟩;have b1:=Q0 j.size aS;have j:=btr j hE;refine Za rfl<|Zx aR fun a g _ aU=>?_;refine Za rfl<|ZX aU fun a g _ aW=>?_;refine Zs g fun _ aX=>?_;refine Ze (Vn X2 aT)<|Zm rfl<|Zf (Vc (X8o _ d md aF Ad cd (aG.below' j).top Bd dd (aH.below' j).top o p hI aQ) X59) ?_;rintro _ w2 ⟨a6,aI,rfl,b,hE⟩;have b:=b.lower j.size;have j:=btr j hE;refine Ze (X0c rfl Xj)<|Zm rfl<|Zt aX fun a g=>?_;refine Q8<|X01 (σ:=Nat×(List Int)) (fun (s:Nat×(List Int)) (a:Act) (w:World)=>match s with|(k,m)=>∃ h D,Fr a 27 [(2,vi q),(7,.slice h m.length D),(12,.slice a6 (nearW d.ws p).length aI),(13,vi ((nearW d.ws p).length:Int)),(14,vi (k:Int))]∧(k≤(nearW d.ws p).length)∧(m=((nearW d.ws p).take k).filter (fun v=>v != q))∧Own w y.heap.size 3 1 encI h D m∧Own w y.heap.size 3 1 encI a6 aI (nearW d.ws p)∧d.ws.length≤dd∧Apart a6 h∧Below y.heap.size y w) (fun (s:Nat×(List Int))=>match s with|(k,m)=>(nearW d.ws p).length-k) (0,[]) ?_ ?_
 ·exact ⟨none,0,g.sb,(Qf _),rfl,(Own.nil _ _ _ _ _),b,o,(Apart.nr _),j⟩
 rintro ⟨k,m⟩ a w3 ⟨h,D,g,hk,hm,i,b,o,f,j⟩
 have b5:m.length≤d.ws.length:=by rw [hm];exact Q0 (List.length_filter_le _ _) (by rw [Qn];omega)
 refine Zs g fun _ aJ=>?_;refine Ze (X0m rfl rfl)<|ZX aJ fun a g _ aK=>?_
 refine Xh g rfl (fun e=>?_) (fun e=>?_)
 ·have a7:=e;have e:=Q2 e
  obtain ⟨b6,b2⟩:=X4 (l:=(nearW d.ws p)) (k:=k) (by omega)
  obtain ⟨u9,a8⟩:=X4 (l:=nearW d.ws p) (k:=k) (by have:=e;omega)
  refine Q7<|aK _ _<|Q5 fun _ I=>?_;refine Q8<|Zs g fun _ aL=>?_;refine Zi (k:=k) (u:=u9) (enc:=encI) (l:=(nearW d.ws p)) trivial rfl rfl Xj X08 Xa b.rd a8 rfl ?_;intro b7 aA;refine Ze (X0 rfl X9 aA)<|Za rfl<|Zx aL fun a g _ aM=>?_;refine Zm rfl<|Zm rfl<|Ze (X18 rfl rfl)<|Zt aM fun a g=>?_
  refine Xh g rfl (fun x=>?_) (fun x=>?_)
  ·have aB:=x
   have E:=X30 (q:=fun v=>v != q) a8
   rw [Q4 x,← hm] at E
   refine Zr g<|Zm rfl<|Zm rfl<|Zf (Xp (k:=1) (vs:=[vi u9]) (zs:=[vi u9]) rfl Xj X1g rfl rfl) ?_;rintro _ w4 ⟨b8,rfl,G,hE,H⟩;have aY:=Q0 j.size G;have B:=i.away G;have aD:=b.away G;have i:=i.below hE;have b:=b.below hE;have j:=btr j hE;refine Zf (X0r (enc:=encI) (l:=(m)) (l2:=([u9])) (B0:=y.heap.size) rfl rfl Xj X1g Xa X1w i (Rd.of_blk H rfl _ H.lt) (by simp only [maxLen];simp;omega) (by simp;omega) j.size) ?_;rintro _ w5 ⟨aZ,b0,rfl,aN,hg,aC⟩
   have J:Own _ y.heap.size 3 1 encI _ _ (m):=i
   have aE:=aC _ H.lt B;have C:=Apart.app b f aC;clear aC;have b:=b.appP hg f;have j:=Below.app j J hg (Qb _) j.size;clear J hg;refine Za rfl ?_;refine Zn fun a g=>?_;refine Xd<|I _ _<|Zr g<|Ze (Xu rfl rfl (by omega) (by omega))<|Zm rfl ?_;refine Zn fun a g=>?_;refine Xf ?_;exact ⟨(k+1,m++([u9])),⟨aZ,b0,g.sb,(by omega),(by rw [E]),aN,b,o,C,j⟩,(by first|omega|(dsimp only;omega))⟩
  have aB:=x
  have E:=X30 (q:=fun v=>v != q) a8
  rw [Q3 (by rw [x];decide),List.append_nil,← hm] at E
  refine Q7<|Xd<|I _ _<|Zr g ?_;refine Ze (Xu rfl rfl (by omega) (by omega))<|Zm rfl ?_;refine Zn fun a g=>?_;refine Xf ?_;exact ⟨(k+1,m),⟨h,D,g.sb,(by omega),(by rw [E]),i,b,o,f,j⟩,(by first|omega|(dsimp only;omega))⟩
 have a7:=e;have e:=Q1 e
 have aO:m=(nearW d.ws p).filter (fun v=>v != q):=by rw [hm,Qi (by have:=e;omega)]
 refine Q9<|Xk<|Xk<|X03 ?_;refine aW _ _<|Zs g fun _ aP=>?_;refine Zm rfl<|Za rfl<|Zt aP fun a g=>?_
 refine Q6 (X5 g (Xr g rfl rfl) ?_)
 rw [show othW d.ws p q=m from aO.symm]
 exact ⟨h,D,rfl,i,j⟩
theorem Xij(m:World)(d:Dg)(md:Nat)(q:md=d.ns.length)(Ad:Option Addr)(cd:Nat)(x:Rd m m.heap.size 81 encNd Ad d.ns)(Bd:Option Addr)(dd:Nat)(y:Rd m m.heap.size 83 encWr Bd d.ws)(f:d.ws.length≤dd)(p:Int)(hI:InW d.ws)(aB:d.ws.length≤1000000000) : Ret Tryz.prog 217 [.agg #[vi d.n,.slice Ad md cd,.slice Bd d.ws.length dd,vi d.t,vi d.r],vi p] m (fun v w=>v=.bool (hadD d p)∧Below m.heap.size m w):=by
 have aQ:=X1y d.ws p;refine enter Tryz.func217 rfl 21 rfl rfl ?_;intro a c
 have g:=bz m
 refine Zs c fun _ aH=>?_;refine Zf (X0h (zs:=[vi d.n,.slice Ad md cd,.slice Bd d.ws.length dd,vi d.t,vi d.r]) rfl rfl) ?_;rintro _ w1 ⟨b4,rfl,aI,h,e⟩;have aO:=Q0 g.size aI;have g:=btr g h;refine Za rfl<|ZX aH fun a c _ aJ=>?_;refine Zs c fun _ aK=>?_;refine Ze (Vn X2 e)<|Zm rfl<|Zf (Vc (X8o _ d md q Ad cd (x.below' g).top Bd dd (y.below' g).top f p hI aB) X59) ?_;rintro _ w2 ⟨A7,c7,rfl,i,h⟩;have i:=i.lower g.size;have e:=e.below h;have g:=btr g h;refine Ze (X0c rfl Xj)<|Zm rfl<|Zt aK fun a c=>?_;refine Q8<|X01 (σ:=Nat) (fun (k:Nat) (a:Act) (w:World)=>Fr a 21 [(1,vi p),(2,.pointer (some ⟨b4,0,none⟩)),(9,.slice A7 (nearW d.ws p).length c7),(10,vi ((nearW d.ws p).length:Int)),(11,vi (k:Int))]∧(k≤(nearW d.ws p).length)∧(((nearW d.ws p).take k).all (fun v=>tyW d.ws p v==2)=true)∧Blk w b4 39 [vi d.n,.slice Ad md cd,.slice Bd d.ws.length dd,vi d.t,vi d.r]∧Own w m.heap.size 3 1 encI A7 c7 (nearW d.ws p)∧d.ws.length≤dd∧Below m.heap.size m w) (fun (k:Nat)=>(nearW d.ws p).length-k) 0 ?_ ?_
 ·exact ⟨c.sb,(Qf _),rfl,e,i,f,g⟩
 rintro k a w3 ⟨c,hk,A,e,i,f,g⟩;refine Zs c fun _ aL=>?_;refine Ze (X0m rfl rfl)<|ZX aL fun a c _ aM=>?_
 refine Xh c rfl (fun b=>?_) (fun b=>?_)
 ·have a6:=b;have b:=Q2 b
  obtain ⟨aR,aP⟩:=X4 (l:=(nearW d.ws p)) (k:=k) (by omega)
  obtain ⟨u9,a7⟩:=X4 (l:=nearW d.ws p) (k:=k) (by have:=b;omega)
  refine Q7<|aM _ _<|Q5 fun _ aC=>?_;refine Q8<|Zs c fun _ aD=>?_;refine Zi (k:=k) (u:=u9) (enc:=encI) (l:=(nearW d.ws p)) trivial rfl rfl Xj X08 Xa i.rd a7 rfl ?_;intro aS a8;refine Ze (X0 rfl X9 a8)<|Za rfl<|Zx aD fun a c _ aE=>?_;refine Ze (Vn X2 e)<|Zm rfl<|Zm rfl<|Zf (Vc (X89 _ d md q Ad cd (x.below' g).top Bd dd (y.below' g).top f p u9 aB) X4i) ?_;rintro _ w4 ⟨rfl,h⟩;have e:=e.below h;have i:=i.below h;have g:=btr g h;refine Ze (X18 rfl rfl)<|Zt aE fun a c=>?_
  refine Xh c rfl (fun j=>?_) (fun j=>?_)
  ·have aA:=j
   have o:hadD d p=false:=Xgt a7 (by have h9:=j;simpa using h9)
   refine Zs c fun _ aF=>?_;refine Za rfl<|Zt aF fun a c=>?_;refine Q6<|Xq<|X7<|X7 ?_;refine Xq<|X7<|X5 c (Xr c rfl rfl) ?_;exact ⟨by rw [o],g⟩
  have aA:=j
  have aN:(tyW d.ws p u9==2)=true:=by have h9:=j;simpa using h9
  refine Q7<|Xd<|aC _ _<|Zr c ?_;refine Ze (Xu rfl rfl (by omega) (by omega))<|Zm rfl ?_;refine Zn fun a c=>?_;refine Xf ?_;exact ⟨k+1,⟨c.sb,(by omega),(Xh6 A a7 aN),e,i,f,g⟩,(by omega)⟩
 have a6:=b;have b:=Q1 b
 have o:hadD d p=true:=Xd5 A (by have:=b;omega)
 refine Q9<|Xk<|Xk<|X03 ?_;refine aJ _ _<|Zs c fun _ aG=>?_;refine Za rfl<|Zt aG fun a c=>?_
 refine Q6 (X5 c (Xr c rfl rfl) ?_)
 exact ⟨by rw [o],g⟩
theorem Xo9(h:World)(d:Dg)(md:Nat)(C:md=d.ns.length)(Ad:Option Addr)(cd:Nat)(D:Rd h h.heap.size 81 encNd Ad d.ns)(Bd:Option Addr)(dd:Nat)(E:Rd h h.heap.size 83 encWr Bd d.ws)(f:d.ws.length≤dd)(Al:Option Addr)(cl:Nat)(l:List Int)(G:Rd h h.heap.size 3 encI Al l)(hN:md≤1000)(aT:d.ws.length≤1000000000)(b8:l.length≤1000000000)(aU:l.length≤cl) : Ret Tryz.prog 218 [.agg #[vi d.n,.slice Ad md cd,.slice Bd d.ws.length dd,vi d.t,vi d.r],.slice Al l.length cl] h (fun v w=>v=.bool (rdyD d l)∧Below h.heap.size h w):=by
 refine enter Tryz.func218 rfl 35 rfl rfl ?_;intro a b
 have m:=bz h
 refine Zs b fun _ aW=>?_;refine Zf (X0h (zs:=[vi d.n,.slice Ad md cd,.slice Bd d.ws.length dd,vi d.t,vi d.r]) rfl rfl) ?_;rintro _ w1 ⟨b5,rfl,aX,H,g⟩;have b4:=Q0 m.size aX;have m:=btr m H;refine Za rfl<|ZX aW fun a b _ aY=>?_;refine Zs b fun _ aZ=>?_;refine Zm rfl<|Ze (X0c rfl Xj)<|Zm rfl<|Zt aZ fun a b=>?_;refine Q8<|X01 (σ:=Nat) (fun (k:Nat) (a:Act) (w:World)=>Fr a 35 [(1,.slice Al l.length cl),(2,.pointer (some ⟨b5,0,none⟩)),(9,.slice Al l.length cl),(10,vi (l.length:Int)),(11,vi (k:Int))]∧(k≤l.length)∧(∀ j:Nat,j<k→rdQ d l j=true)∧Blk w b5 39 [vi d.n,.slice Ad md cd,.slice Bd d.ws.length dd,vi d.t,vi d.r]∧d.ws.length≤dd∧Below h.heap.size h w) (fun (k:Nat)=>l.length-k) 0 ?_ ?_
 ·exact ⟨b.sb,(Qf _),(fun j hj=>by omega),g,f,m⟩
 rintro k a w2 ⟨b,hk,I,g,f,m⟩;refine Zs b fun _ b0=>?_;refine Ze (X0m rfl rfl)<|ZX b0 fun a b _ b1=>?_
 refine Xh b rfl (fun c=>?_) (fun c=>?_)
 ·have a6:=c;have c:=Q2 c
  obtain ⟨b9,b6⟩:=X4 (l:=l) (k:=k) (by omega)
  obtain ⟨u9,B⟩:=X4 (l:=l) (k:=k) (by have:=c;omega)
  have a7:l.getD k 0=u9:=by rw [Qa,B];rfl
  refine Q7<|b1 _ _<|Q5 fun _ aF=>?_;refine Q8<|Zs b fun _ aG=>?_;refine Zm rfl<|Zi (k:=k) (u:=u9) (enc:=encI) (l:=l) trivial rfl rfl Xj X08 Xa (G.below' m) B rfl ?_;intro bA a8;refine Ze (X0 rfl X9 a8)<|Za rfl<|Za rfl<|ZX aG fun a b _ aH=>?_;refine Zs b fun _ aI=>?_;refine Ze (Vn X2 g)<|Zm rfl<|Zf (Vc (X5o _ d md C Ad cd (D.below' m).top Bd dd (E.below' m).top f u9 hN) X2s) ?_;rintro _ w3 ⟨rfl,H⟩;have g:=g.below H;have m:=btr m H;refine Ze (X0y rfl)<|Zt aI fun a b=>?_
  refine Xh b rfl (fun p=>?_) (fun p=>?_)
  ·have aA:=p
   have q:rdyD d l=false:=X4w (k:=k) (by have:=(Qg.1 B).1;omega) (by unfold rdQ;rw [a7];have A:=p;simp only [Bool.not_eq_true'] at A;rw [A];rfl)
   refine Zs b fun _ aJ=>?_;refine Za rfl<|Zt aJ fun a b=>?_;refine Q6<|X7<|Xq<|X7 ?_;refine X7<|Xq<|X7<|X5 b (Xr b rfl rfl) ?_;exact ⟨by rw [q],m⟩
  have aA:=p
  have aK:spI d.ns u9=true:=by have A:=p;simpa using A
  refine Q7<|aH _ _<|Zs b fun _ aL=>?_;refine Zm rfl<|Zm rfl ?_;have o:=((G.below' m).top).takeK Xa k;refine Ze (X2o (l:=l) (k:=k) rfl rfl Xj X08 rfl hk aU)<|Ze (X0c rfl Xj)<|Zm rfl<|Zt aL fun a b=>?_;refine Q8<|X01 (σ:=Nat) (fun (j:Nat) (a:Act) (w:World)=>Fr a 35 [(1,.slice Al l.length cl),(2,.pointer (some ⟨b5,0,none⟩)),(6,vi u9),(9,.slice Al l.length cl),(10,vi (l.length:Int)),(11,vi (k:Int)),(22,.slice Al (l.take k).length cl),(23,vi ((l.take k).length:Int)),(24,vi (j:Int))]∧(j≤(l.take k).length)∧(((l.take k).take j).all (fun y=>tyW d.ws u9 y != 1)=true)∧Blk w b5 39 [vi d.n,.slice Ad md cd,.slice Bd d.ws.length dd,vi d.t,vi d.r]∧Rd w w3.heap.size 3 encI Al (l.take k)∧d.ws.length≤dd∧Below h.heap.size h w) (fun (j:Nat)=>(l.take k).length-j) 0 ?_ ?_
  ·exact ⟨b.sb,(Qf _),rfl,g,o,f,m⟩
  rintro j a w4 ⟨b,hj,J,g,o,f,m⟩;refine Zs b fun _ aM=>?_;refine Ze (X0m rfl rfl)<|ZX aM fun a b _ aN=>?_
  refine Xh b rfl (fun e=>?_) (fun e=>?_)
  ·have aB:=e;have e:=Q2 e
   obtain ⟨bB,b7⟩:=X4 (l:=(l.take k)) (k:=j) (by omega)
   have bC:(l.take k).length≤1000000000:=by rw [Qn];omega
   obtain ⟨v9,aC⟩:=X4 (l:=l.take k) (k:=j) (by have:=e;omega)
   refine Q7<|aN _ _<|Q5 fun _ aO=>?_;refine Q8<|Zs b fun _ aP=>?_;refine Zi (k:=j) (u:=v9) (enc:=encI) (l:=(l.take k)) trivial rfl rfl Xj X08 Xa o aC rfl ?_;intro bD aD;refine Ze (X0 rfl X9 aD)<|Za rfl<|Zx aP fun a b _ aQ=>?_;refine Ze (Vn X2 g)<|Zm rfl<|Zm rfl<|Zf (Vc (X89 _ d md C Ad cd (D.below' m).top Bd dd (E.below' m).top f u9 v9 aT) X4i) ?_;rintro _ w5 ⟨rfl,H⟩;have g:=g.below H;have o:=o.below H;have m:=btr m H;refine Ze (X0a rfl rfl)<|Zt aQ fun a b=>?_
   refine Xh b rfl (fun x=>?_) (fun x=>?_)
   ·have aE:=x
    have q:rdyD d l=false:=X4w (k:=k) (by have:=(Qg.1 B).1;omega) (by unfold rdQ;rw [a7,aK,Qw];exact Xgt aC (by have A:=x;simp only [beq_iff_eq] at A;rw [A];rfl))
    refine Zs b fun _ aR=>?_;refine Za rfl<|Zt aR fun a b=>?_;refine Q6<|Xq<|X7<|X7 ?_;refine Xq<|Xq<|X7<|X7 ?_;refine Xq<|X7<|X5 b (Xr b rfl rfl) ?_;exact ⟨by rw [q],m⟩
   have aE:=x
   have b2:(tyW d.ws u9 v9 != 1)=true:=by have A:=x;simpa using A
   refine Q7<|Xd<|aO _ _<|Zr b ?_;refine Ze (Xu rfl rfl (by omega) (by omega))<|Zm rfl ?_;refine Zn fun a b=>?_;refine Xf ?_;exact ⟨j+1,⟨b.sb,(by omega),(Xh6 J aC b2),g,o,f,m⟩,(by omega)⟩
  have aB:=e;have e:=Q1 e
  have b3:rdQ d l k=true:=by unfold rdQ;rw [a7,aK,Xd5 J (by have:=e;omega)];rfl
  refine Q9<|Xk<|Xk<|X03 ?_;refine Xd<|aF _ _<|Zr b<|Ze (Xu rfl rfl (by omega) (by omega))<|Zm rfl ?_;refine Zn fun a b=>?_;refine Xf ?_;exact ⟨k+1,⟨b.sb,(by omega),(fun i hi=>by by_cases A:i=k;rw [A];exact b3;exact I i (by omega)),g,f,m⟩,(by omega)⟩
 have a6:=c;have c:=Q1 c
 have q:rdyD d l=true:=X4j fun j hj=>I j (by have:=c;omega)
 refine Q9<|Xk<|Xk<|X03 ?_;refine aY _ _<|Zs b fun _ aS=>?_;refine Za rfl<|Zt aS fun a b=>?_
 refine Q6 (X5 b (Xr b rfl rfl) ?_)
 exact ⟨by rw [q],m⟩
theorem X8p(U:World)(d:Dg)(md:Nat)(aD:md=d.ns.length)(Ad:Option Addr)(cd:Nat)(aC:Nat)(c:Own U aC 81 2 encNd Ad cd d.ns)(bF:aC≤U.heap.size)(Bd:Option Addr)(dd:Nat)(e:Rd U U.heap.size 83 encWr Bd d.ws)(Q:d.ws.length≤dd)(p:Int)(b5:0≤p∧p.toNat<d.ns.length)(bH:d.ws.length≤1000000000) : Ret Tryz.prog 210 [.agg #[vi d.n,.slice Ad md cd,.slice Bd d.ws.length dd,vi d.t,vi d.r],vi p] U (fun v w=>∃ A' c',v=.agg #[vi ({ d with ns:=dpN d.ns p,ws:=dpW d.ws p } : Dg).n,.slice Ad md cd,.slice A' ({ d with ns:=dpN d.ns p,ws:=dpW d.ws p } : Dg).ws.length c',vi ({ d with ns:=dpN d.ns p,ws:=dpW d.ws p } : Dg).t,vi ({ d with ns:=dpN d.ns p,ws:=dpW d.ws p } : Dg).r]∧Own w aC 81 2 encNd Ad cd ({ d with ns:=dpN d.ns p,ws:=dpW d.ws p } : Dg).ns∧Rd w w.heap.size 83 encWr A' ({ d with ns:=dpN d.ns p,ws:=dpW d.ws p } : Dg).ws∧({ d with ns:=dpN d.ns p,ws:=dpW d.ws p } : Dg).ws.length≤c'∧md=({ d with ns:=dpN d.ns p,ws:=dpW d.ws p } : Dg).ns.length∧U.grownBy w (Value.slice Ad d.ns.length cd).ownBlock):=by
 refine enter Tryz.func210 rfl 38 rfl rfl ?_;intro a y
 have D:U.grownBy U (Value.slice Ad d.ns.length cd).ownBlock:=World.grownBy.refl _ _
 refine Zs y fun _ b6=>?_;refine Zf (X0h (zs:=[vi d.n,.slice Ad md cd,.slice Bd d.ws.length dd,vi d.t,vi d.r]) rfl rfl) ?_;rintro _ w1 ⟨b4,rfl,b8,E,g⟩;have aN:=Q0 D.size b8;have c:=c.below E;have e:=e.below E;have D:=gbel D E;refine Zf (X00 (zs:=[vi 0,.slice none 0 0,.slice none 0 0,vi 0,vi 0]) X0o rfl) ?_;rintro _ w2 ⟨b7,rfl,b9,E,o⟩
 have b3:b4≠b7:=by have:=g.lt;omega
 have aO:=Q0 D.size b9;have g:=g.below E;have c:=c.below E;have e:=e.below E;have D:=gbel D E;refine Zx b6 fun a y _ bA=>?_;refine Ze (Vd rfl Xi 1)<|Ze (X0 rfl Xz (g.at 1))<|Zm rfl<|Ze (X16 (ps:=[]) (cs:=[vi 0,vi 0]) rfl (fun _=>by first|rfl|kernel_rfl))<|Ze (Xg (k:=p.toNat) rfl rfl Xo X07 c aD (by omega) (by omega))<|Zo (X0g (enc:=encNd) (l:=d.ns) (vs:=[vi 0,vi 0]) (x0:=(d.ns.getD p.toNat nZ)) (u:=(⟨0,0⟩ : Nd)) (k:=p.toNat) (j:=0) (n1:=2) rfl rfl X07 c Xt rfl rfl rfl rfl (by decide) (Xb b5.2) rfl) ?_;rintro _ w3 ⟨aE,hg⟩;have x:=c;have g:=g.appT x hg rfl;have o:=o.appT x hg rfl;have e:=e.appT x hg rfl;have D:=gtr D hg
 clear x hg;clear c;have c:=aE;clear aE;refine Zx bA fun a y _ bB=>?_;refine Za rfl<|ZX bB fun a y _ aP=>?_;refine Zs y fun _ aQ=>?_;refine Ze (Vd rfl Xm 2)<|Ze (X0 rfl X0j (g.at 2))<|Ze (X0c rfl Xv)<|Zm rfl<|Zt aQ fun a y=>?_;refine Q8<|X01 (σ:=Nat×(List Wr)) (fun (s:Nat×(List Wr)) (a:Act) (w:World)=>match s with|(k,m)=>∃ H I,Fr a 38 [(1,vi p),(2,.pointer (some ⟨b4,0,none⟩)),(4,.pointer (some ⟨b7,0,none⟩)),(5,.slice H m.length I),(14,.slice Bd d.ws.length dd),(15,vi (d.ws.length:Int)),(16,vi (k:Int))]∧(k≤d.ws.length)∧(m=(d.ws.take k).filter (fun w=>w.a != p&&w.b != p))∧Blk w b4 39 [vi d.n,.slice Ad md cd,.slice Bd d.ws.length dd,vi d.t,vi d.r]∧Blk w b7 39 [vi 0,.slice none 0 0,.slice none 0 0,vi 0,vi 0]∧Own w U.heap.size 83 3 encWr H I m∧Rd w U.heap.size 83 encWr Bd d.ws∧Own w aC 81 2 encNd Ad cd (d.ns.set p.toNat (⟨0,0⟩ : Nd))∧d.ws.length≤dd∧U.grownBy w (Value.slice Ad d.ns.length cd).ownBlock) (fun (s:Nat×(List Wr))=>match s with|(k,m)=>d.ws.length-k) (0,[]) ?_ ?_
 ·exact ⟨none,0,y.sb,(Qf _),rfl,g,o,(Own.nil _ _ _ _ _),e,c,Q,D⟩
 rintro ⟨k,m⟩ a w4 ⟨H,I,y,hk,hm,g,o,f,e,c,Q,D⟩
 have bJ:m.length≤d.ws.length:=by rw [hm];exact Q0 (List.length_filter_le _ _) (by rw [Qn];omega)
 refine Zs y fun _ aR=>?_;refine Ze (X0m rfl rfl)<|ZX aR fun a y _ aS=>?_
 refine Xh y rfl (fun B=>?_) (fun B=>?_)
 ·have G:=B;have B:=Q2 B
  obtain ⟨bK,bG⟩:=X4 (l:=d.ws) (k:=k) (by omega)
  obtain ⟨L,aG⟩:=X4 (l:=d.ws) (k:=k) (by have:=B;omega)
  refine Q7<|aS _ _<|Q5 fun _ aF=>?_;refine Q8<|Zs y fun _ aT=>?_;refine Zi (k:=k) (u:=L) (enc:=encWr) (l:=d.ws) trivial rfl rfl Xv X0b Xx e aG rfl ?_;intro bL aH;refine Ze (X02 (l:=[vi L.a,vi L.b,.bool L.h]) rfl X17 aH rfl)<|Zf (X00 (zs:=[vi 0,vi 0,.bool false]) X32 rfl) ?_;rintro _ w5 ⟨aU,rfl,a6,E,A⟩;have a7:=Q0 D.size a6;have J:=f.away a6;have aW:=e.away a6;have g:=g.below E;have o:=o.below E;have f:=f.below E;have e:=e.below E;have c:=c.below E;have D:=gbel D E;refine Zo (Vw [vi L.a,vi L.b,.bool L.h] X0b A) ?_;rintro _ w6 ⟨N,hb⟩;have C:=A;have g:=g.only N (Blk.ne g C rfl);have o:=o.only N (Blk.ne o C rfl);have f:=f.onlyA N J;have e:=e.only N a7;have c:=c.onlyT N C rfl;have D:=gonly D N a7;have A:=hb;refine ZX aT fun a y _ aX=>?_;refine X09 (fun a w=>Fr a 38 [(1,vi p),(2,.pointer (some ⟨b4,0,none⟩)),(4,.pointer (some ⟨b7,0,none⟩)),(5,.slice H m.length I),(7,.pointer (some ⟨aU,0,none⟩)),(14,.slice Bd d.ws.length dd),(15,vi (d.ws.length:Int)),(16,vi (k:Int)),(29,.bool ((L.a != p)&&(L.b != p)))]∧w6=w) ?_ ?_
  ·refine Zr y<|Ze (Vd rfl X0s 0)<|Ze (X0 rfl X9 (A.at 0))<|Zm rfl<|Ze (X18 rfl rfl)<|Zm rfl ?_
   refine Zg 24 rfl (fun i=>?_) (fun i=>?_)
   ·refine Zv (gW i) (Vd rfl X0v 1) ?_;refine Zv (gW i) (X0 rfl X9 (A.at 1)) ?_;refine Zv (gW i) (X3 rfl) ?_;refine Zv (gW i) (X18 rfl rfl) ?_;refine Ze (X8 rfl i rfl) ?_;refine Zn fun a y=>?_;exact ⟨y.sub ⟨rfl,rfl,rfl,rfl,rfl,rfl,rfl,rfl,X1 rfl (by first|rfl|(simp only [G,i,bs];done)|simp [G,i]),trivial⟩,rfl⟩
   refine Zp (gP i) ?_;refine Zp (gP i) ?_;refine Zp (gP i) ?_;refine Zp (gP i) ?_;refine Ze (Xe rfl i rfl) ?_;refine Zn fun a y=>?_;exact ⟨y.sub ⟨rfl,rfl,rfl,rfl,rfl,rfl,rfl,rfl,X1 rfl (by first|rfl|(simp only [G,i,bs];done)|simp [G,i]),trivial⟩,rfl⟩
  rintro a _ ⟨y,rfl⟩;refine aX _ _ ?_
  refine Xh y rfl (fun M=>?_) (fun M=>?_)
  ·have aI:=M
   have a8:=X30 (q:=fun w=>w.a != p&&w.b != p) aG
   rw [Q4 M,← hm] at a8
   refine Zr y<|Zm rfl<|Ze (Vn X17 A)<|Zf (Xp (k:=1) (vs:=[.agg #[vi L.a,vi L.b,.bool L.h]]) (zs:=[vi L.a,vi L.b,.bool L.h]) rfl Xv X0x rfl rfl) ?_;rintro _ w7 ⟨b26,rfl,aA,E,aB⟩
   have aK:aU≠b26:=by have:=A.lt;omega
   have bC:=Q0 D.size aA;have W:=f.away aA;have aY:=e.away aA;have g:=g.below E;have o:=o.below E;have A:=A.below E;have f:=f.below E;have e:=e.below E;have c:=c.below E;have D:=gbel D E;refine Zf (X0r (enc:=encWr) (l:=(m)) (l2:=([L])) (B0:=U.heap.size) rfl rfl Xv X0x Xx X1c f (Rd.of_blk aB rfl _ aB.lt) (by simp only [maxLen];simp;omega) (by simp;omega) D.size) ?_;rintro _ w8 ⟨bD,bE,rfl,aZ,hg,aJ⟩
   have x:Own _ U.heap.size 83 3 encWr _ _ (m):=f
   have aL:=aJ _ A.lt J;have aM:=aJ _ aB.lt W;clear aJ;have g:=g.appT x hg rfl;have o:=o.appT x hg rfl;have e:=e.appB x hg (Qb _);have c:=c.appT x hg rfl;have D:=gapp D x hg;clear x hg;refine Za rfl ?_;refine Zn fun a y=>?_;refine Xd<|aF _ _<|Zr y<|Ze (Xu rfl rfl (by omega) (by omega))<|Zm rfl ?_;refine Zn fun a y=>?_;refine Xf ?_;exact ⟨(k+1,m++([L])),⟨bD,bE,y.sb,(by omega),(by rw [a8]),g,o,aZ,e,c,Q,D⟩,(by first|omega|(dsimp only;omega))⟩
  have aI:=M
  have a8:=X30 (q:=fun w=>w.a != p&&w.b != p) aG
  rw [Q3 (by rw [M];decide),List.append_nil,← hm] at a8
  refine Q7<|Xd<|aF _ _<|Zr y ?_;refine Ze (Xu rfl rfl (by omega) (by omega))<|Zm rfl ?_;refine Zn fun a y=>?_;refine Xf ?_;exact ⟨(k+1,m),⟨H,I,y.sb,(by omega),(by rw [a8]),g,o,f,e,c,Q,D⟩,(by first|omega|(dsimp only;omega))⟩
 have G:=B;have B:=Q1 B
 have b0:m=dpW d.ws p:=by rw [hm,Qi (by have:=B;omega)];rfl
 refine Q9<|Xk<|Xk<|X03 ?_;refine aP _ _<|Zs y fun _ b1=>?_;refine Zm rfl<|Ze (Vd rfl Xm 2)<|Zo (Vu (vs:=[.slice H m.length I]) (l':=[vi d.n,.slice Ad md cd,.slice H m.length I,vi d.t,vi d.r]) rfl rfl X19 g) ?_;rintro _ w9 ⟨N,hb⟩;have C:=g;have o:=o.only N (by omega);have f:=f.onlyT N C rfl;have c:=c.onlyT N C rfl;have D:=gonly D N aN;have g:=hb;refine Zx b1 fun a y _ b2=>?_;refine Ze (Vn X2 g)<|Zo (Vw [vi d.n,.slice Ad md cd,.slice H m.length I,vi d.t,vi d.r] Xl o) ?_;rintro _ bM ⟨N,hb⟩;have C:=o;have f:=f.onlyT N C rfl;have c:=c.onlyT N C rfl;have D:=gonly D N aO;have o:=hb;refine Zt b2 fun a y=>?_
 refine Q6 (X5 y (Xr y rfl (ResV.cellN (l:=[vi d.n,.slice Ad md cd,.slice H m.length I,vi d.t,vi d.r]) rfl X2 (o.at 0) rfl)) ?_)
 rw [← b0]
 exact ⟨H,I,rfl,c,f.rd.top,f.cap,aD.trans (X1m _ _).symm,D⟩
structure InD (d:Dg) : Prop where
 w:InW d.ws
 e:∀ x ∈ d.ws,0≤x.a∧x.b<d.ns.length
 p:PhN d.ns
 m:d.ns.length≤1000
theorem Xdz:∀ {l:List Wr} (N:Nat),(∀ x ∈ l,0≤x.a∧x.a<x.b∧x.b<N)→WSd l→∀ m:Nat,(∀ x ∈ l,(m:Int)≤x.a*N+x.b)→l.length+m≤N*N+1∨l=[]
 | [],_,_,_,_,_=>.inr rfl
 | x::l,N,h,hs,m,hm=>by
  left
  have hx:=h x (by simp)
  have hmx:=hm x (by simp)
  have hs':=W8.1 hs
  have hb:x.a*N+x.b<N*N:=by
   have:x.a+1≤N:=by omega
   have h2:(x.a+1)*N≤(N:Int)*N:=Int.mul_le_mul_of_nonneg_right this (by omega)
   rw [Int.add_mul,Int.one_mul] at h2
   omega
  have hstep:∀ y ∈ l,((m+1:Nat) : Int)≤y.a*N+y.b:=fun y hy=>by
   have hl:=hs'.1 y hy
   rw [X3k] at hl
   have hy0:=h y (by simp [hy])
   have hkey:x.a*N+x.b+1≤y.a*N+y.b:=by
    rcases hl with hl|⟨hl,hl2⟩
    ·have h2:(x.a+1)*N≤y.a*N:=Int.mul_le_mul_of_nonneg_right (by omega) (by omega)
     rw [Int.add_mul,Int.one_mul] at h2
     omega
    ·rw [hl];omega
   omega
  have hN:((N*N:Nat) : Int)=(N:Int)*N:=by simp
  rcases Xdz N (fun y hy=>h y (by simp [hy])) hs'.2 (m+1) hstep with h1|h1
  ·rw [Qs];omega
  ·subst h1
   simp only [Qs,List.length_nil]
   omega
theorem InD.len{d:Dg}(h:InD d) : d.ws.length≤1000001:=by
 have h1:=Xdz d.ns.length (fun x hx=>⟨(h.e x hx).1,h.w.l x hx,(h.e x hx).2⟩) h.w.s 0 (fun x hx=>by
  have e:=h.e x hx
  have l:=h.w.l x hx
  have:0≤x.a*(d.ns.length:Int):=Int.mul_nonneg e.1 (by omega)
  omega)
 rcases h1 with h1|h1
 ·have:=Nat.mul_le_mul h.m h.m
  omega
 ·rw [h1];simp
theorem X2u{d:Dg}(h:InD d){k v:Int}(hv:v ∈ nearW d.ws k) : 0≤v∧v.toNat<d.ns.length:=by
 obtain ⟨w,hw,ho⟩:=X67.1 hv
 have e:=h.e w hw
 have l:=h.w.l w hw
 rcases X4z ho with ⟨_,h2⟩|⟨_,h2⟩<;>omega
theorem X61{d:Dg}(h:InD d){k v:Int}{j:Nat}(hv:(nearW d.ws k)[j]? = some v) : 0≤v∧v.toNat<d.ns.length:=X2u h (Qe hv)
theorem Xi1(d:Dg)(a b:Int)(h:Bool) : (lkD d a b h).ns.length=d.ns.length∧(lkD d a b h).ws.length≤d.ws.length+1:=by
 have h1:=X4e d.ws a b h;have h2:=(X3t d.ws (fdW d.ws a b).toNat).length_le;have h3:=X4e (ctW d.ws (fdW d.ws a b).toNat) a b false
 unfold lkD
 split
 ·exact ⟨rfl,by dsimp only;omega⟩
 ·split
  ·exact ⟨rfl,by dsimp only;omega⟩
  ·split
   ·exact ⟨X1s _ _ _,by dsimp only;omega⟩
   ·exact ⟨rfl,by omega⟩
theorem X5x(d:Dg)(a b:Int)(h:Bool) : (mtD d a b h).ns.length=d.ns.length∧(mtD d a b h).ws.length≤d.ws.length+1:=by
 unfold mtD
 split
 ·exact Xi1 d a b h
 ·exact ⟨rfl,by dsimp only;rw [X4e];omega⟩
theorem X2p(d:Dg)(a b:Int) : (tgD d a b).ns=d.ns∧(tgD d a b).ws.length≤d.ws.length+1:=by
 have h2:=(X3t d.ws (fdW d.ws a b).toNat).length_le
 unfold tgD
 split
 ·exact ⟨rfl,by dsimp only;omega⟩
 ·exact ⟨rfl,by dsimp only;rw [X4e];omega⟩
theorem Xum{d:Dg}(hp:PhN d.ns)(a b:Int)(h:Bool) : PhN (lkD d a b h).ns:=by
 unfold lkD
 split
 ·exact hp
 ·split
  ·exact hp
  ·split
   ·exact X5n hp _ _
   ·exact hp
theorem Xjd{d:Dg}(hp:PhN d.ns)(a b:Int)(h:Bool) : PhN (mtD d a b h).ns:=by
 unfold mtD
 split
 ·exact Xum hp a b h
 ·exact hp
def fuC(d:Dg)(a b:Int) : Bool:=spI d.ns a&&spI d.ns b&&decide (a<b)&&tyW d.ws a b==1
def fu0(d:Dg)(a b:Int) : Dg:={ d with ns:=adN (dpN d.ns b) a (d.ns.getD b.toNat nZ).p,ws:=dpW d.ws b }
def fuT(d:Dg)(a b:Int)(o:Dg)(v:Int) : Dg:=if v=a then o else mtD o a v (tyW d.ws b v==2)
def fuS(d:Dg)(a b:Int)(l:List Int)(o:Dg) : Dg:=l.foldl (fuT d a b) o
def fuD(d:Dg)(a b:Int) : Dg:=fuS d a b (nearW d.ws b) (fu0 d a b)
theorem X9s{d:Dg}{a b:Int}{l:List Int}{o:Dg}{k:Nat}{v:Int}(hv:l[k]? = some v) : fuS d a b (l.take (k+1)) o=fuT d a b (fuS d a b (l.take k) o) v:=by
 unfold fuS
 rw [Qt,hv,Option.toList_some,List.foldl_append]
 rfl
theorem Xnx{d o:Dg}{a b v:Int}(h:(v != a)=true) : fuT d a b o v=mtD o a v (tyW d.ws b v==2):=by
 unfold fuT;rw [Q3 (by simpa using h)]
theorem Xos{d o:Dg}{a b v:Int}(h:(v != a)=false) : fuT d a b o v=o:=by
 unfold fuT;rw [Q4 (by simpa using h)]
def idC(d:Dg)(a:Int) : Bool:=spI d.ns a&&(d.ns.getD a.toNat nZ).p==0&&(nearW d.ws a).length==2
def id0(d:Dg)(a:Int) : Dg:={ d with ns:=dpN d.ns a,ws:=dpW d.ws a }
def idD(d:Dg)(a:Int) : Dg:=mtD (id0 d a) ((nearW d.ws a).getD 0 0) ((nearW d.ws a).getD 1 0) (tyW d.ws a ((nearW d.ws a).getD 0 0) != tyW d.ws a ((nearW d.ws a).getD 1 0))
def loC(d:Dg)(a:Int) : Bool:=spI d.ns a&&(d.ns.getD a.toNat nZ).p==0&&(nearW d.ws a).length==0
def loD(d:Dg)(a:Int) : Dg:={ d with ns:=dpN d.ns a,ws:=dpW d.ws a,r:=wr (d.r+2) }
def tgL(o:Dg)(x:Int)(l:List Int) : Dg:=l.foldl (fun o y=>tgD o x y) o
theorem Xhb{o:Dg}{x:Int}{l:List Int}{k:Nat}{v:Int}(hv:l[k]? = some v) : tgL o x (l.take (k+1))=tgD (tgL o x (l.take k)) x v:=by
 unfold tgL
 rw [Qt,hv,Option.toList_some,List.foldl_append]
 rfl
def lcC(d:Dg)(a:Int) : Bool:=spI d.ns a&&(d.ns.getD a.toNat nZ).p % 4==2&&hadD d a&&rdyD d (nearW d.ws a)
def lcS(p:Int)(l:List Int)(o:Dg) : Nat→Dg
 | 0=>o
 | i+1=>tgL { lcS p l o i with ns:=adN (lcS p l o i).ns (l.getD i 0) (8-p) } (l.getD i 0) (l.take i)
def lcD(d:Dg)(a:Int) : Dg:=
 let o:=lcS (d.ns.getD a.toNat nZ).p (nearW d.ws a) (id0 d a) (nearW d.ws a).length
 { o with t:=wr (o.t+(if (d.ns.getD a.toNat nZ).p=2 then 1 else 7)),r:=wr (o.r+(1-((nearW d.ws a).length:Int))) }
theorem Xu3{d:Dg}{a b:Int}(h:(!(spI d.ns a)||!(spI d.ns b)||decide (b≤a)||tyW d.ws a b != 1)=true) : fuC d a b=false:=by
 unfold fuC
 cases h1:spI d.ns a<;>cases h2:spI d.ns b<;>simp [h1,h2] at h ⊢
 intro h3
 rcases h with h|h
 ·omega
 ·exact h
theorem Xp5{d:Dg}{a b:Int}(h:(!(spI d.ns a)||!(spI d.ns b)||decide (b≤a)||tyW d.ws a b != 1)=false) : fuC d a b=true:=by
 unfold fuC
 cases h1:spI d.ns a<;>cases h2:spI d.ns b<;>simp [h1,h2] at h ⊢
 exact ⟨by omega,h.2⟩
theorem Xca{d:Dg}{a b:Int}(h:fuC d a b=true) : (0≤a∧a.toNat<d.ns.length)∧(0≤b∧b.toNat<d.ns.length):=by
 unfold fuC at h
 simp only [Qd] at h
 have h1:=X11 h.1.1.1;have h2:=X11 h.1.1.2;exact ⟨⟨h1.1,h1.2.1⟩,⟨h2.1,h2.2.1⟩⟩
theorem Xtc{d:Dg}(h:InD d)(a b:Int) : 0≤((dpN d.ns b).getD a.toNat nZ).p+(d.ns.getD b.toNat nZ).p∧((dpN d.ns b).getD a.toNat nZ).p+(d.ns.getD b.toNat nZ).p≤1000:=by
 have h1:=X1i (X4y h.p b) a.toNat;have h2:=X1i h.p b.toNat
 omega
theorem X23(ws:List Wr)(k:Int) : (dpW ws k).length≤ws.length:=List.length_filter_le _ _
theorem X6g(d:Dg)(a b:Int) : (fu0 d a b).ns.length=d.ns.length∧(fu0 d a b).ws.length≤d.ws.length+0:=⟨(X1s _ _ _).trans (X1m _ _),X23 _ _⟩
theorem Xh9{d:Dg}(h:InD d)(a b:Int) : PhN (fu0 d a b).ns:=X5n (X4y h.p b) _ _
theorem Xco{d:Dg}{a:Int}(h:(!(spI d.ns a)||(d.ns.getD a.toNat nZ).p != 0)=true) : idC d a=false∧loC d a=false:=by
 unfold idC loC
 cases h1:spI d.ns a<;>simp [h1] at h ⊢
 exact ⟨fun h2=>absurd h2 h,fun h2=>absurd h2 h⟩
theorem Xao{d:Dg}{a:Int}(h:(!(spI d.ns a)||(d.ns.getD a.toNat nZ).p != 0)=false) : (spI d.ns a=true)∧(d.ns.getD a.toNat nZ).p=0:=by
 cases h1:spI d.ns a<;>simp [h1] at h ⊢
 exact h
theorem Xgm{d:Dg}{a:Int}(h:(((nearW d.ws a).length:Int) != 2)=true) : idC d a=false:=by
 unfold idC
 have h2:¬ (nearW d.ws a).length=2:=by have:=(bne_iff_ne.1 h);omega
 simp [h2]
theorem Xf8{d:Dg}{a:Int}(h1:(spI d.ns a=true)∧(d.ns.getD a.toNat nZ).p=0)(h:(((nearW d.ws a).length:Int) != 2)=false) : idC d a=true∧(nearW d.ws a).length=2:=by
 have h2:(nearW d.ws a).length=2:=by
  have h9:((nearW d.ws a).length:Int)=2:=by simpa using h
  omega
 refine ⟨?_,h2⟩
 unfold idC
 rw [h1.1,h1.2,h2]
 rfl
theorem Xpk{d:Dg}{a:Int}(h:0<((nearW d.ws a).length:Int)) : loC d a=false:=by
 unfold loC
 have h2:¬ (nearW d.ws a).length=0:=by omega
 rw [show ((nearW d.ws a).length==0)=false from by simpa using h2,Bool.and_false]
theorem Xls{d:Dg}{a:Int}(h1:(spI d.ns a=true)∧(d.ns.getD a.toNat nZ).p=0)(h:¬ 0<((nearW d.ws a).length:Int)) : loC d a=true:=by
 have h2:(nearW d.ws a).length=0:=by omega
 unfold loC
 rw [h1.1,h1.2,h2]
 rfl
theorem X7f{d:Dg}(h:InD d){k:Int}{j:Nat}(hj:j<(nearW d.ws k).length) : 0≤(nearW d.ws k).getD j 0∧((nearW d.ws k).getD j 0).toNat<d.ns.length:=X61 h (Xb (d:=0) hj)
theorem Xp6(d:Dg)(a:Int) : (idD d a).ns.length=d.ns.length:=(X5x (id0 d a) _ _ _).1.trans (X1m _ _)
theorem Xnq{d:Dg}{a:Int}(h:(!(spI d.ns a)||(d.ns.getD a.toNat nZ).p != 0||decide (0<((nearW d.ws a).length:Int)))=true) : loC d a=false:=by
 simp only [Bool.or_eq_true,Qr] at h
 rcases h with h|h
 ·exact (Xco (by simpa using h)).2
 ·exact Xpk h
theorem Xj3{d:Dg}{a:Int}(h:(!(spI d.ns a)||(d.ns.getD a.toNat nZ).p != 0||decide (0<((nearW d.ws a).length:Int)))=false) : loC d a=true∧0≤a∧a.toNat<d.ns.length:=by
 rw [Bool.or_eq_false_iff] at h
 have h1:=Xao h.1;have h3:=X11 h1.1;exact ⟨Xls h1 (Q1 h.2),h3.1,h3.2.1⟩
theorem Xf9{n:Nat} : ∀ {l:List Int} (m:Nat),Inc l→(∀ x ∈ l,(m:Int)≤x∧x<n)→l.length+m≤n∨l=[]
 | [],_,_,_=>.inr rfl
 | x::l,m,hi,h=>by
  left
  have hi':=W8.1 hi
  have hx:=h x (by simp)
  rcases Xf9 (m+1) hi'.2 (fun y hy=>⟨by have:=hi'.1 y hy;omega,(h y (by simp [hy])).2⟩) with h1|h1
  ·rw [Qs];omega
  ·subst h1
   simp only [Qs,List.length_nil]
   omega
theorem X34{d:Dg}(h:InD d)(k:Int) : (nearW d.ws k).length≤d.ns.length:=by
 rcases Xf9 (n:=d.ns.length) 0 (X3d (k:=k) h.w) (fun x hx=>by have:=X2u h hx;omega) with h1|h1
 ·omega
 ·rw [h1];simp
theorem X9e{x:Int}(h:0≤x) : x.tmod 4=x % 4:=Int.tmod_eq_emod_of_nonneg h
theorem Xj6{d:Dg}(hd:InD d){a:Int}(h:(!(spI d.ns a)||((d.ns.getD a.toNat nZ).p.tmod 4 != 2))=true) : lcC d a=false:=by
 unfold lcC
 rw [X9e (X1i hd.p _).1] at h
 cases h1:spI d.ns a<;>simp [h1] at h ⊢
 exact fun h2=>absurd h2 h
theorem Xf4{d:Dg}(hd:InD d){a:Int}(h:(!(spI d.ns a)||((d.ns.getD a.toNat nZ).p.tmod 4 != 2))=false) : spI d.ns a=true∧((d.ns.getD a.toNat nZ).p=2∨(d.ns.getD a.toNat nZ).p=6):=by
 rw [X9e (X1i hd.p _).1] at h
 have h2:=X1i hd.p a.toNat
 generalize (d.ns.getD a.toNat nZ).p=x at h h2 ⊢
 cases h1:spI d.ns a<;>simp [h1] at h ⊢
 omega
theorem Xqx{d:Dg}{a:Int}(h:(!(hadD d a)||!(rdyD d (nearW d.ws a)))=true) : lcC d a=false:=by
 unfold lcC
 cases h1:hadD d a<;>cases h2:rdyD d (nearW d.ws a)<;>simp [h1,h2] at h ⊢
theorem Xed{d:Dg}{a:Int}(h1:spI d.ns a=true∧((d.ns.getD a.toNat nZ).p=2∨(d.ns.getD a.toNat nZ).p=6))(h:(!(hadD d a)||!(rdyD d (nearW d.ws a)))=false) : lcC d a=true:=by
 unfold lcC
 have h3:((d.ns.getD a.toNat nZ).p % 4==2)=true:=by rcases h1.2 with e|e<;>rw [e]<;>rfl
 rw [h1.1,h3]
 cases h4:hadD d a<;>cases h5:rdyD d (nearW d.ws a)<;>simp [h4,h5] at h ⊢
theorem Xk0{x:Int}(h:x=2∨x=6) : wr (1+wr (wr ((x-2).tdiv 4)*6))=if x=2 then 1 else 7:=by rcases h with h|h<;>subst h<;>decide
theorem Xit{p u:Int}{l:List Int}{o:Dg}{k:Nat}(hu:l[k]? = some u) : lcS p l o (k+1)=tgL { lcS p l o k with ns:=adN (lcS p l o k).ns u (8-p) } u (l.take k):=by
 have e:l.getD k 0=u:=by rw [Qa,hu];rfl
 show tgL { lcS p l o k with ns:=adN (lcS p l o k).ns (l.getD k 0) (8-p) } (l.getD k 0) (l.take k)=_
 rw [e]
theorem Xi5{d o:Dg}{a:Int}(h:o=lcS (d.ns.getD a.toNat nZ).p (nearW d.ws a) (id0 d a) (nearW d.ws a).length) : lcD d a = { o with t:=wr (o.t+(if (d.ns.getD a.toNat nZ).p=2 then 1 else 7)),r:=wr (o.r+(1-((nearW d.ws a).length:Int))) }:=by subst h;rfl
end Go.Proofs.YtpifljegadknkaaGreat
