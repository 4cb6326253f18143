/-
  What is proved: for every two circuits, the program's VerifyEqual answers as the reference's does and leaves its arguments as they were, and the arguments read as before. Conditions: the table of math/bits holds what the program's text lays there; the card ties that to the text.
-/
import Derived.WalkKit
import Derived.Maps.AppendAt
import Derived.Test.YtiejkplemjkjoaaGreatDoorProg
import Derived.Laws.StructEq
import Derived.MapKept
import Derived.Shelf.Sort.Plain
import Derived.Shelf.Slices.Turned
import Derived.Ground.Names2Prog
import Derived.Shelf.Slices.Clone
import Derived.Shelf.Slices.CompactI
import Derived.Shelf.Slices.Cells
import Derived.Shelf.Spec.SlicesGrow
import Derived.Laws.MakeOwn
import Derived.Laws.Slices
import Derived.Shelf.Slices.In.SortNone
import Derived.WideKeyRuns
set_option linter.unusedVariables false
set_option linter.unusedSimpArgs false
set_option linter.unusedSectionVars false
set_option maxRecDepth 8000
namespace Go.Proofs.YtiejkplemjkjoaaGreatDoor
open Go.RowKit
abbrev vi(x:Int) : Value:=.int .i64 x
def look(t:Nat) : List (Nat×Value)→Option Value
 | []=>none
 | (k,v)::l=>match Nat.beq k t with
  | true=>some v
  | false=>look t l
structure Fr (a:Act) (n:Nat) (e:List (Nat×Value)) : Prop where
 d:a.defers=[]
 s:a.tmps.size=n
 h:∀ t v,look t e=some v→a.tmps[t]? = some v
def ev(e:List (Nat×Value)) : Operand→Option Value
 | .tmp t=>look t e
 | .const v=>some v
 | .global g=>some (.pointer (some ⟨g,0,none⟩))
 | .func f=>some (.func (.func f) #[] #[])
theorem Fr.ev{a:Act}{n:Nat}{e:List (Nat×Value)}{x:Operand}{v:Value}(hf:Fr a n e)(hx:ev e x=some v) : a.eval x=v:=by
 cases x with
 | tmp t=>
  have:=hf.h t v hx
  simp [Act.eval,this]
 | const u=>simpa [YtiejkplemjkjoaaGreatDoor.ev,Act.eval] using hx
 | global g=>simpa [YtiejkplemjkjoaaGreatDoor.ev,Act.eval] using hx
 | func f=>simpa [YtiejkplemjkjoaaGreatDoor.ev,Act.eval] using hx
def evs(e:List (Nat×Value)) : List Operand→Option (List Value)
 | []=>some []
 | x::l=>match ev e x,evs e l with
  | some v,some vs=>some (v::vs)
  | _,_=>none
theorem Fr.evs{a:Act}{n:Nat}{e:List (Nat×Value)}(hf:Fr a n e) : ∀ {l:List Operand} {vs:List Value},evs e l=some vs→l.map a.eval=vs:=by
 intro l
 induction l with
 | nil=>intro vs h;simpa [YtiejkplemjkjoaaGreatDoor.evs] using h
 | cons x l ih=>
  intro vs h
  simp only [YtiejkplemjkjoaaGreatDoor.evs] at h
  split at h
  ·rename_i v us h1 h2
   injection h with h
   subst h
   simp [hf.ev h1,ih h2]
  ·cases h
theorem X3e(d:Nat)(v:Value)(e:List (Nat×Value)) : look d ((d,v)::e)=some v:=by simp [look]
theorem X4c{d t:Nat}(v:Value)(e:List (Nat×Value))(h:d≠t) : look t ((d,v)::e)=look t e:=by
 have:Nat.beq d t=false:=by
  cases hb:Nat.beq d t
  ·rfl
  ·exact absurd (Nat.eq_of_beq_eq_true hb) h
 simp [look,this]
theorem Fr.put{a:Act}{n:Nat}{e:List (Nat×Value)}(hf:Fr a n e)(d:Nat)(v:Value)(hd:Nat.blt d n=true) : Fr (a.put (some d) v) n ((d,v)::e):=by
 have hd':d<n:=by simpa [Nat.blt_eq] using hd
 refine ⟨hf.d,by simp [Act.put,hf.s],fun t u hu=>?_⟩
 by_cases h:d=t
 ·subst h
  rw [X3e] at hu
  injection hu with hu
  subst hu
  simp [Act.put,hf.s,hd']
 ·rw [X4c _ _ h] at hu
  simp [Act.put,Array.getElem?_setIfInBounds_ne h,hf.h t u hu]
theorem Fr.put_none{a:Act}{n:Nat}{e:List (Nat×Value)}(hf:Fr a n e)(v:Value) : Fr (a.put none v) n e:=hf
def Sub(e:List (Nat×Value)) : List (Nat×Value)→Prop
 | []=>True
 | (t,v)::l=>look t e=some v∧Sub e l
theorem Fr.sub{a:Act}{n:Nat}{e e':List (Nat×Value)}(hf:Fr a n e)(hs:Sub e e') : Fr a n e':=by
 refine ⟨hf.d,hf.s,?_⟩
 induction e' with
 | nil=>intro t v h;cases h
 | cons p l ih=>
  obtain ⟨k,u⟩:=p;intro t v h
  by_cases hk:k=t
  ·subst hk
   rw [X3e] at h
   injection h with h
   subst h
   exact hf.h _ _ hs.1
  ·rw [X4c _ _ hk] at h
   exact ih hs.2 t v h
def zipFrom:Nat→List Value→List (Nat×Value)
 | _,[]=>[]
 | k,v::l=>(k,v)::zipFrom (k+1) l
theorem X9l{l:List Value}{t:Nat}{v:Value} : ∀ {k:Nat},look t (zipFrom k l)=some v→k≤t∧l[t-k]? = some v:=by
 induction l with
 | nil=>intro k h;cases h
 | cons u l ih=>
  intro k h
  simp only [zipFrom] at h
  by_cases hk:k=t
  ·subst hk
   rw [X3e] at h
   exact ⟨Nat.le_refl _,by simpa using h⟩
  ·rw [X4c _ _ hk] at h
   obtain ⟨h1,h2⟩:=ih h
   refine ⟨by omega,?_⟩
   have:t-k=(t-(k+1))+1:=by omega
   rw [this,List.getElem?_cons_succ]
   exact h2
theorem Xf8{P:Program}{f:FuncId}{fn:Func}{c:Code}{args:List Value}{w:World}{R:Ending→World→Prop}
  (hf:P.funcs[f]? = some fn) (hb:fn.body=some c) (n:Nat) (hn:fn.ntmps=n) (hl:Nat.ble args.length n=true)
  (h:∀ a,Fr a n (zipFrom 0 args)→c.wp P (bodyPost P fn R) a w) : Calls P f args.toArray w R:=by
 refine calls_of_wp hf hb (h _ ⟨rfl,?_,?_⟩)
 ·have:args.length≤n:=by simpa [Nat.ble_eq] using hl
  simp [hn];omega
 ·intro t v hv;obtain ⟨_,h2⟩:=X9l hv
  have hlt:t<args.length:=by
   have:=(List.getElem?_eq_some_iff.1 h2).1
   simpa using this
  simp only [Nat.sub_zero] at h2
  rw [Array.getElem?_append_left (by simpa using hlt)]
  simpa using h2
def Ev(P:Program)(o:Oper)(a:Act)(w:World)(v:Value) : Prop:=∀ w',Below w.heap.size w w'→(execOp a.eval o).run P w'=.ok (.value v) w'
def EfU(P:Program)(R:Value→World→Prop) : Result Next→Prop
 | .ok (.value v) w'=>R v w'
 | .ok .skip w'=>R undef w'
 | .ok (.enter f args) w'=>Calls P f args w' fun e w''=>∃ v,e=.returned v∧R v w''
 | .ok (.row row args) w'=>Rows P row args w' R
 | _=>False
def Ef(P:Program)(o:Oper)(a:Act)(w:World)(R:Value→World→Prop) : Prop:=EfU P R ((execOp a.eval o).run P w)
theorem Ef.wp{P:Program}{o:Oper}{a:Act}{w:World}{R:Value→World→Prop}(h:Ef P o a w R){K:Act→World→Prop}{Q:Exit→Act→World→Prop}
  (hK:∀ v w',R v w'→K (a.put o.dst v) w') : o.wp P a w K Q:=by
 unfold Ef at h
 unfold Oper.wp
 generalize (execOp a.eval o).run P w=r at *
 cases r with
 | ok nx w'=>
  cases nx<;>simp only [EfU] at h<;>simp only [Oper.upon]
  case value u=>exact hK _ _ h
  case skip=>exact hK _ _ h
  case enter f args=>
   refine Calls.mono h fun e w'' ⟨v,he,hR⟩=>?_
   subst he
   exact hK _ _ hR
  case row row args=>exact Rows.mono h fun u w'' hR=>hK _ _ hR
 | halt x w'=>simp only [EfU] at h
def EvW(P:Program)(o:Oper)(n:Nat)(e:List (Nat×Value))(w:World)(v:Value) : Prop:=∀ a,Fr a n e→Ev P o a w v
def EfW(P:Program)(o:Oper)(n:Nat)(e:List (Nat×Value))(w:World)(R:Value→World→Prop) : Prop:=∀ a,Fr a n e→Ef P o a w R
theorem Ef.of_run{P:Program}{o:Oper}{a:Act}{w w':World}{v:Value}(h:(execOp a.eval o).run P w=.ok (.value v) w') : Ef P o a w fun u w1=>u=v∧w1=w':=by
 unfold Ef
 rw [h]
 exact ⟨rfl,rfl⟩
theorem Ef.of_skip{P:Program}{o:Oper}{a:Act}{w w':World}(h:(execOp a.eval o).run P w=.ok .skip w') : Ef P o a w fun u w1=>u=undef∧w1=w':=by
 unfold Ef
 rw [h]
 exact ⟨rfl,rfl⟩
theorem Ef.mono{P:Program}{o:Oper}{a:Act}{w:World}{R R':Value→World→Prop}(h:Ef P o a w R)(hr:∀ v w',R v w'→R' v w') : Ef P o a w R':=by
 unfold Ef at *
 generalize (execOp a.eval o).run P w=r at *
 cases r with
 | ok nx w'=>
  cases nx<;>simp only [EfU] at h ⊢
  case value u=>exact hr _ _ h
  case skip=>exact hr _ _ h
  case enter f args=>exact Calls.mono h fun e w'' ⟨v,he,hR⟩=>⟨v,he,hr _ _ hR⟩
  case row row args=>exact Rows.mono h hr
 | halt x w'=>simp only [EfU] at h
theorem Ef.of_ev{P:Program}{o:Oper}{a:Act}{w:World}{v:Value}(h:Ev P o a w v) : Ef P o a w fun u w1=>u=v∧w1=w:=Ef.of_run (h w (Below.refl _ _))
def Want(ops:Array Oper)(o:Oper)(e:List (Nat×Value)) : Prop:=
 match o.guard with
 | none=>True
 | some (j,b)=>∃ t b',(ops[j]?).bind (·.dst)=some t∧look t e=some (.bool b')∧b'=b
def notB:Value→Bool→Prop
 | .bool b',b=>b' = !b
 | _,_=>True
def Pass(ops:Array Oper)(o:Oper)(e:List (Nat×Value)) : Prop:=
 match o.guard with
 | none=>False
 | some (j,b)=>∃ t v,(ops[j]?).bind (·.dst)=some t∧look t e=some v∧notB v b
theorem Want.wanted{ops:Array Oper}{o:Oper}{a:Act}{n:Nat}{e:List (Nat×Value)}(h:Want ops o e)(hf:Fr a n e) : Region.wanted o (yielded ops a.tmps)=true:=by
 unfold Want at h
 unfold Region.wanted
 split at h
 ·rename_i hg;simp [hg]
 ·rename_i j b hg
  obtain ⟨t,b',h1,h2,h3⟩:=h
  simp only [hg]
  unfold yielded
  simp [h1,hf.h _ _ h2,h3]
theorem Pass.wanted{ops:Array Oper}{o:Oper}{a:Act}{n:Nat}{e:List (Nat×Value)}(h:Pass ops o e)(hf:Fr a n e) : Region.wanted o (yielded ops a.tmps)=false:=by
 unfold Pass at h
 unfold Region.wanted
 split at h
 ·cases h
 ·rename_i j b hg
  obtain ⟨t,v,h1,h2,h3⟩:=h
  simp only [hg]
  unfold yielded
  rw [h1,Option.bind_some,hf.h _ _ h2]
  cases v<;>first|rfl|(simp only [notB] at h3;subst h3;cases b<;>rfl)
section
variable {P : Program} {ops : Array Oper} {Q : Exit → Act → World → Prop} {a : Act} {w : World} {rest : List Oper} {o : Oper} {n d : Nat} {e : List (Nat × Value)}
theorem Xgw{R:Value→World→Prop}(hf:Fr a n e)(hw:Want ops o e)(hd:o.dst=some d)(hn:Nat.blt d n=true)(hr:Ef P o a w R)
  (h:∀ a' v w',R v w'→Fr a' n ((d,v)::e)→wpList P ops Q rest a' w') : wpList P ops Q (o::rest) a w:=
 wpList_step fun K hK=>by
  rw [if_pos (hw.wanted hf)]
  exact hr.wp fun v w' hR=>hK _ _ (h _ v w' hR (by rw [hd];exact hf.put d v hn))
theorem Xnc{R:Value→World→Prop}(hf:Fr a n e)(hw:Want ops o e)(hd:o.dst=none)(hr:Ef P o a w R)
  (h:∀ a' v w',R v w'→Fr a' n e→wpList P ops Q rest a' w') : wpList P ops Q (o::rest) a w:=
 wpList_step fun K hK=>by
  rw [if_pos (hw.wanted hf)]
  exact hr.wp fun v w' hR=>hK _ _ (h _ v w' hR (by rw [hd];exact hf.put_none v))
theorem Xlt{v:Value}(hf:Fr a n e)(hw:Want ops o e)(hd:o.dst=some d)(hn:Nat.blt d n=true)(hr:Ev P o a w v)
  (h:∀ a',Fr a' n ((d,v)::e)→wpList P ops Q rest a' w) : wpList P ops Q (o::rest) a w:=
 Xgw hf hw hd hn (Ef.of_ev hr) fun a' v' w' hR hf'=>by
  obtain ⟨rfl,rfl⟩:=hR;exact h a' hf'
theorem Xn5(hf:Fr a n e)(hw:Pass ops o e)(hd:o.dst=some d)(hn:Nat.blt d n=true)
  (h:∀ a',Fr a' n ((d,undef)::e)→wpList P ops Q rest a' w) : wpList P ops Q (o::rest) a w:=
 wpList_step fun K hK=>by
  rw [if_neg (by rw [hw.wanted hf];simp)]
  exact hK _ _ (h _ (by rw [hd];exact hf.put d undef hn))
end
section
variable {P : Program} {ops : Array Oper} {Q : Exit → Act → World → Prop} {a : Act} {w : World} {rest : List Oper} {op : Op} {ty : TypeId} {pos : String} {af : Array Edge} {n d : Nat} {e : List (Nat × Value)}
theorem l_e{v:Value}(hf:Fr a n e)(hn:Nat.blt d n=true)(hr:Ev P ⟨some d,op,ty,pos,af,none⟩ a w v)(h:∀ a',Fr a' n ((d,v)::e)→wpList P ops Q rest a' w) : wpList P ops Q (⟨some d,op,ty,pos,af,none⟩::rest) a w:=Xlt hf trivial rfl hn hr h
theorem l_f{R:Value→World→Prop}(hf:Fr a n e)(hn:Nat.blt d n=true)(hr:Ef P ⟨some d,op,ty,pos,af,none⟩ a w R)(h:∀ a' v w',R v w'→Fr a' n ((d,v)::e)→wpList P ops Q rest a' w') : wpList P ops Q (⟨some d,op,ty,pos,af,none⟩::rest) a w:=Xgw hf trivial rfl hn hr h
theorem Xqp{R:Value→World→Prop}(hf:Fr a n e)(hr:Ef P ⟨none,op,ty,pos,af,none⟩ a w R)(h:∀ a' v w',R v w'→Fr a' n e→wpList P ops Q rest a' w') : wpList P ops Q (⟨none,op,ty,pos,af,none⟩::rest) a w:=Xnc hf trivial rfl hr h
theorem Xqc{x:Operand}{v:Value}(hf:Fr a n e)(hx:ev e x=some v)(hn:Nat.blt d n=true)(h:∀ a',Fr a' n ((d,v)::e)→wpList P ops Q rest a' w) : wpList P ops Q (⟨some d,.move x,ty,pos,af,none⟩::rest) a w:=l_e hf hn (fun w' _=>by simp [execOp,hf.ev hx]) h
theorem Xqi{x:Operand}{v:Value}(hf:Fr a n e)(hx:ev e x=some v)(hn:Nat.blt d n=true)(h:∀ a',Fr a' n ((d,v)::e)→wpList P ops Q rest a' w) : wpList P ops Q (⟨some d,.assign x,ty,pos,af,none⟩::rest) a w:=l_e hf hn (fun w' _=>by simp [execOp,hf.ev hx]) h
end
structure Only (b:Nat) (w w':World) : Prop where
 os:w'.os=w.os
 tape:w'.tape=w.tape
 output:w'.output=w.output
 size:w'.heap.size=w.heap.size
 block:∀ k,k≠b→w'.heap[k]? = w.heap[k]?
theorem Only.refl(b:Nat)(w:World) : Only b w w:=⟨rfl,rfl,rfl,rfl,fun _ _=>rfl⟩
theorem Only.trans{b:Nat}{w w' w'':World}(h:Only b w w')(k:Only b w' w'') : Only b w w'':=
 ⟨k.os.trans h.os,k.tape.trans h.tape,k.output.trans h.output,k.size.trans h.size,fun i hi=>(k.block i hi).trans (h.block i hi)⟩
structure Kept (b B:Nat) (w w':World) : Prop where
 os:w'.os=w.os
 tape:w'.tape=w.tape
 output:w'.output=w.output
 size:w.heap.size≤w'.heap.size
 block:∀ k,k<B→k≠b→w'.heap[k]? = w.heap[k]?
theorem Kept.refl(b B:Nat)(w:World) : Kept b B w w:=⟨rfl,rfl,rfl,Nat.le_refl _,fun _ _ _=>rfl⟩
theorem Kept.of_below{b B:Nat}{w w':World}(h:Below B w w') : Kept b B w w':=⟨h.os,h.tape,h.output,h.size,fun k hk _=>h.block k hk⟩
theorem Kept.trans{b B:Nat}{w w' w'':World}(h:Kept b B w w')(k:Below B w' w'') : Kept b B w w'':=
 ⟨k.os.trans h.os,k.tape.trans h.tape,k.output.trans h.output,Nat.le_trans h.size k.size,fun i hi hn=>(k.block i hi).trans (h.block i hi hn)⟩
theorem Kept.transK{b B:Nat}{w w' w'':World}(h:Kept b B w w')(k:Kept b B w' w'') : Kept b B w w'':=
 ⟨k.os.trans h.os,k.tape.trans h.tape,k.output.trans h.output,Nat.le_trans h.size k.size,fun i hi hn=>(k.block i hi hn).trans (h.block i hi hn)⟩
theorem Kept.mono{b B B':Nat}{w w':World}(h:Kept b B w w')(hB:B'≤B) : Kept b B' w w':=⟨h.os,h.tape,h.output,h.size,fun k hk=>h.block k (Nat.lt_of_lt_of_le hk hB)⟩
theorem Kept.only{b b' B:Nat}{w w' w'':World}(h:Kept b B w w')(ho:Only b' w' w'')(hB:B≤b') : Kept b B w w'':=
 h.trans ⟨ho.os,ho.tape,ho.output,by rw [ho.size];exact Nat.le_refl _,fun k hk=>ho.block k (by omega)⟩
theorem Kept.self{b B:Nat}{w w' w'':World}(h:Kept b B w w')(ho:Only b w' w'') : Kept b B w w'':=
 h.transK ⟨ho.os,ho.tape,ho.output,by rw [ho.size];exact Nat.le_refl _,fun k _ hk=>ho.block k hk⟩
theorem Kept.mid{b:Nat}{w w':World}(h:Kept b w.heap.size w w') : ∃ w1,Only b w w1∧(b<w.heap.size→w1.heap[b]? = w'.heap[b]?)∧Below w1.heap.size w1 w':=by
 cases hb:w'.heap[b]? with
 | none=>
  have hlt:w.heap.size≤b:=Nat.le_trans h.size (Array.getElem?_eq_none_iff.1 hb)
  refine ⟨w,Only.refl _ _,fun h'=>by omega,⟨h.os,h.tape,h.output,h.size,fun k hk=>h.block k hk (by omega)⟩⟩
 | some o=>
  refine ⟨{ w with heap:=w.heap.setIfInBounds b o },⟨rfl,rfl,rfl,by simp,fun k hk=>?_⟩,fun h'=>?_,⟨h.os,h.tape,h.output,by simpa using h.size,fun k hk=>?_⟩⟩
  ·show (w.heap.setIfInBounds b o)[k]? = _
   rw [Array.getElem?_setIfInBounds_ne (Ne.symm hk)]
  ·show (w.heap.setIfInBounds b o)[b]? = _
   simp [h']
  ·have hk':k<w.heap.size:=by simpa using hk
   show _=(w.heap.setIfInBounds b o)[k]?
   by_cases hkb:k=b
   ·subst hkb
    simp [hk',hb]
   ·rw [Array.getElem?_setIfInBounds_ne (Ne.symm hkb)]
    exact h.block k hk' hkb
theorem btr{w0 w w':World}(h:Below w0.heap.size w0 w)(hE:Below w.heap.size w w') : Below w0.heap.size w0 w':=h.trans (hE.mono h.size)
theorem ktr{b:Nat}{w0 w w':World}(h:Kept b w0.heap.size w0 w)(hE:Below w.heap.size w w') : Kept b w0.heap.size w0 w':=h.trans (hE.mono h.size)
def Keep(V:Option Nat)(w w':World) : Prop:=match V with
 | none=>Below w.heap.size w w'
 | some b=>∃ w1,Only b w w1∧Below w.heap.size w1 w'
theorem Keep.refl(V:Option Nat)(w:World) : Keep V w w:=by
 cases V with
 | none=>exact Below.refl _ _
 | some b=>exact ⟨w,Only.refl _ _,Below.refl _ _⟩
theorem Keep.kept{b:Nat}{w w':World}(h:Keep (some b) w w') : Kept b w.heap.size w w':=by
 obtain ⟨w1,h1,h2⟩:=h;exact (Kept.self (Kept.refl b w.heap.size w) h1).trans h2
theorem Kept.keep{b:Nat}{w w':World}(h:Kept b w.heap.size w w') : Keep (some b) w w':=by
 obtain ⟨w1,h1,_,h2⟩:=h.mid;exact ⟨w1,h1,by rw [← h1.size];exact h2⟩
theorem Keep.of_below{V:Option Nat}{w w':World}(h:Below w.heap.size w w') : Keep V w w':=by
 cases V with
 | none=>exact h
 | some b=>exact ⟨w,Only.refl _ _,h⟩
theorem Keep.trans{V:Option Nat}{w w' w'':World}(h:Keep V w w')(k:Keep V w' w'') : Keep V w w'':=by
 cases V with
 | none=>exact Below.trans h (Below.mono k h.size)
 | some b=>exact (h.kept.transK (k.kept.mono h.kept.size)).keep
section
variable {P : Program} {ops : Array Oper} {Q : Act → World → Prop} {tl : Nat → Bool} {V : Option Nat}
def wpR(P:Program)(ops:Array Oper)(V:Option Nat)(tl:Nat→Bool)(i:Nat)(K:Act→World→Prop)(a:Act)(w:World) : Prop:=
 match ops[i]? with
 | none=>K a w
 | some o=>if Region.wanted o (yielded ops a.tmps) then Ef P o a w (fun v w'=>(tl i=false→Keep V w w')∧K (a.put o.dst v) w') else K (a.put o.dst undef) w
def wpS(P:Program)(ops:Array Oper)(V:Option Nat)(tl:Nat→Bool)(Q:Act→World→Prop) : Nat→Array Bool→Act→World→Prop
 | 0,listed,a,w=>Region.ready .any ops listed=[]∧Q a w
 | fuel+1,listed,a,w=>(Region.ready .any ops listed=[]→Q a w)∧∀ i ∈ Region.ready .any ops listed,wpR P ops V tl i (wpS P ops V tl Q fuel (listed.setIfInBounds i true)) a w
theorem Xfn{i:Nat}{K K':Act→World→Prop}{a:Act}{w:World}(h:∀ a w,K a w→K' a w)(hh:wpR P ops V tl i K a w) : wpR P ops V tl i K' a w:=by
 unfold wpR at *
 split
 ·exact h _ _ (by simpa [*] using hh)
 ·rename_i o ho
  simp only [ho] at hh
  split
  ·rename_i hw
   simp only [hw,if_true] at hh
   exact hh.mono fun v w' ⟨h1,h2⟩=>⟨h1,h _ _ h2⟩
  ·rename_i hw
   simp only [hw] at hh
   exact h _ _ hh
theorem X32{Q':Exit→Act→World→Prop}(hQ:∀ a w,Q a w→Q' .normal a w) : ∀ (fuel:Nat) (listed:Array Bool) (a:Act) (w:World),wpS P ops V tl Q fuel listed a w→wpAny P .any ops Q' fuel listed a w
 | 0,_,_,_,h=>⟨h.1,hQ _ _ h.2⟩
 | fuel+1,listed,a,w,h=>by
  refine ⟨fun h0=>hQ _ _ (h.1 h0),fun i hi=>?_⟩
  have h1:=h.2 i hi
  unfold wpR at h1
  unfold wpOp
  split
  ·rename_i ho;simp only [ho] at h1;exact X32 hQ fuel _ _ _ h1
  ·rename_i o ho
   simp only [ho] at h1
   split
   ·rename_i hw
    simp only [hw,if_true] at h1
    exact .inl (h1.wp fun v w' hR=>X32 hQ fuel _ _ _ hR.2)
   ·rename_i hw
    simp only [hw] at h1
    exact X32 hQ fuel _ _ _ h1
def YC(P:Program)(ops:Array Oper)(C:World→Prop)(o:Oper)(v:Value)(a:Act) : Prop:=
 (Region.wanted o (yielded ops a.tmps)=true∧∀ w,C w→(execOp a.eval o).run P w=.ok (.value v) w)∨(Region.wanted o (yielded ops a.tmps)=false∧v=undef)
theorem YC.of_same{C:World→Prop}{o:Oper}{v:Value}{a a':Act}(hy:YC P ops C o v a)(he:execOp a'.eval o=execOp a.eval o)
  (hw:Region.wanted o (yielded ops a'.tmps)=Region.wanted o (yielded ops a.tmps)) : YC P ops C o v a':=by
 unfold YC at *
 rw [he,hw]
 exact hy
theorem YC.wpR{C:World→Prop}{i:Nat}{o:Oper}{v:Value}{a:Act}{w:World}(hi:ops[i]? = some o)(hC:C w)(hy:YC P ops C o v a){K:Act→World→Prop}(h:K (a.put o.dst v) w) : wpR P ops V tl i K a w:=by
 unfold YtiejkplemjkjoaaGreatDoor.wpR
 simp only [hi]
 rcases hy with ⟨hw,hv⟩|⟨hw,rfl⟩
 ·simp only [hw,if_true]
  exact (Ef.of_run (hv w hC)).mono fun u w' ⟨e1,e2⟩=>by subst e1;subst e2;exact ⟨fun _=>Keep.refl _ _,h⟩
 ·simp only [hw,Bool.false_eq_true,if_false];exact h
theorem Xmz{oi oj:Oper}{v:Value}(h1:∀ d,oi.dst=some d→d ∉ oj.looksAt ops)(hsj:∀ cs b,oj.op≠.select cs b)
  {a:Act} {w:World} {R:Value→World→Prop} (h:Ef P oj (a.put oi.dst v) w R) : Ef P oj a w R:=by
 unfold Ef at *
 rwa [execOp_put oj hsj a oi.dst v h1] at h
theorem Xhd{C:World→Prop}{j:Nat}{oi oj:Oper}{v:Value}(hj:ops[j]? = some oj)(hap:oi.apart ops oj=true)
  (hsi:∀ cs b,oi.op≠.select cs b) (hsj:∀ cs b,oj.op≠.select cs b) (hC:∀ w w',C w→(tl j=false→Keep V w w')→C w') {K:Act→World→Prop} {a:Act} {w:World} (hw0:C w)
  (hy:YC P ops C oi v a) (h:wpR P ops V tl j K (a.put oi.dst v) w) : wpR P ops V tl j (fun a' w'=>C w'∧YC P ops C oi v a'∧K (a'.put oi.dst v) w') a w:=by
 obtain ⟨h1,h2,h3⟩:=Oper.apart_spec hap
 have keep:∀ (a:Act),YC P ops C oi v a→∀ u,YC P ops C oi v (a.put oj.dst u):=fun a hy u=>
  hy.of_same (execOp_put oi hsi a oj.dst u h3) (wanted_put oi a oj.dst u h3)
 unfold wpR at *
 simp only [hj] at *
 rw [wanted_put oj a oi.dst v h1] at h
 split
 ·rename_i hw
  simp only [hw,if_true] at h
  exact (Xmz h1 hsj h).mono fun u w' ⟨hb,hk⟩=>⟨hb,hC w w' hw0 hb,keep a hy u,by rw [← Act.put_comm a v u h2];exact hk⟩
 ·rename_i hw
  simp only [hw] at h
  exact ⟨hw0,keep a hy _,by rw [← Act.put_comm a v undef h2];exact h⟩
def Closed(ops:Array Oper)(listed:Array Bool) : Prop:=∀ k ok,ops[k]? = some ok→listed.getD k false=true→∀ e ∈ ok.after,Region.binds .any e=true→listed.getD e.on false=true
theorem X5a{listed:Array Bool}{j k:Nat}(h:listed.getD k false=true) : (listed.setIfInBounds j true).getD k false=true:=by
 rcases Nat.lt_or_ge k listed.size with hk|hk
 ·by_cases hjk:j=k
  ·subst hjk;simp [hk]
  ·simpa [hk,Array.getElem_setIfInBounds_ne _ hjk] using h
 ·simp [Array.getElem?_eq_none hk] at h
theorem Closed.set{listed:Array Bool}{j:Nat}{oj:Oper}(h:Closed ops listed)(hj:ops[j]? = some oj)(hall:∀ e ∈ oj.after,Region.binds .any e=true→listed.getD e.on false=true) : Closed ops (listed.setIfInBounds j true):=fun k ok hk hl e he hb=>by
 by_cases hjk:j=k
 ·subst hjk
  rw [hj] at hk
  injection hk with hk
  subst hk
  exact X5a (hall e he hb)
 ·rw [getD_set_ne false hjk] at hl
  exact X5a (h k ok hk hl e he hb)
def reach(ops:Array Oper)(i:Nat) : Nat→Nat→Bool
 | 0,_=>false
 | f+1,j=>match ops[j]? with
  | some oj=>oj.after.any fun e=>Region.binds .any e&&(e.on==i||reach ops i f e.on)
  | none=>false
theorem X5q{listed:Array Bool}{i:Nat}(hcl:Closed ops listed) : ∀ (f j:Nat) (oj:Oper),ops[j]? = some oj→(∀ e ∈ oj.after,Region.binds .any e=true→listed.getD e.on false=true)→reach ops i f j=true→listed.getD i false=true
 | 0,_,_,_,_,h=>by cases h
 | f+1,j,oj,hj,hall,h=>by
  simp only [reach,hj] at h
  obtain ⟨e,he,hb⟩:=Array.any_eq_true'.1 h
  simp only [Bool.and_eq_true,Bool.or_eq_true,beq_iff_eq] at hb
  have h1:=hall e he hb.1
  rcases hb.2 with h2|h2
  ·rw [← h2];exact h1
  ·cases hk:ops[e.on]? with
   | none=>
    cases f with
    | zero=>cases h2
    | succ f=>simp only [reach,hk] at h2;cases h2
   | some ok=>exact X5q hcl f e.on ok hk (hcl e.on ok hk h1) h2
theorem X6a{C:World→Prop}{i:Nat}{oi:Oper}{v:Value}(hi:ops[i]? = some oi)(hsel:∀ (j:Nat) (o:Oper) cs b,ops[j]? = some o→o.op≠.select cs b)
  (hC:∀ j oj,ops[j]? = some oj→(∀ listed,Closed ops listed→(∀ e ∈ oj.after,Region.binds .any e=true→listed.getD e.on false=true)→listed.getD i true=false→∀ w w',C w→(tl j=false→Keep V w w')→C w')) :
  ∀ (fuel:Nat) (listed:Array Bool) (a:Act) (w:World),Closed ops listed→
   (∀ j oj,ops[j]? = some oj→j≠i→listed.getD j true=false→(∀ e ∈ oj.after,Region.binds .any e=true→e.on≠i)→oi.apart ops oj=true)→
   i ∈ Region.ready .any ops listed→C w→YC P ops C oi v a→
   wpS P ops V tl Q fuel (listed.setIfInBounds i true) (a.put oi.dst v) w→wpS P ops V tl Q (fuel+1) listed a w:=by
 intro fuel
 induction fuel with
 | zero=>
  intro listed a w _ _ hr hw hy H
  refine ⟨fun h=>(by rw [h] at hr;cases hr),fun j hj=>?_⟩
  by_cases hji:j=i
  ·subst hji;exact hy.wpR hi hw H
  ·have:=ready_mono hj hji
   rw [H.1] at this
   cases this
 | succ fuel ih=>
  intro listed a w hcl hfree hr hw hy H
  refine ⟨fun h=>(by rw [h] at hr;cases hr),fun j hj=>?_⟩
  by_cases hji:j=i
  ·subst hji;exact hy.wpR hi hw H
  ·have h1:=H.2 j (ready_mono hj hji);obtain ⟨hjun,oj,hoj,hall⟩:=mem_ready.1 hj
   have hnot:∀ e ∈ oj.after,Region.binds .any e=true→e.on≠i:=fun e he hb heq=>by
    have h1:=hall e he hb;have h0:=(mem_ready.1 hr).1
    rw [heq] at h1
    rcases Nat.lt_or_ge i listed.size with h'|h'
    ·simp [h'] at h0 h1;rw [h0] at h1;cases h1
    ·simp [Array.getElem?_eq_none h'] at h1
   have h2:=Xhd hoj (hfree j oj hoj hji hjun hnot) (fun cs b=>hsel i oi cs b hi) (fun cs b=>hsel j oj cs b hoj) (hC j oj hoj listed hcl hall (mem_ready.1 hr).1) hw hy h1
   have hfree':∀ k ok,ops[k]? = some ok→k≠i→(listed.setIfInBounds j true).getD k true=false→
     (∀ e ∈ ok.after,Region.binds .any e=true→e.on≠i)→oi.apart ops ok=true:=fun k ok hk hki hun hno=>by
    refine hfree k ok hk hki ?_ hno
    by_cases hjk:j=k
    ·subst hjk;exact hjun
    ·rw [getD_set_ne true hjk] at hun;exact hun
   refine Xfn (fun a' w' h3=>ih (listed.setIfInBounds j true) a' w' (hcl.set hoj hall) hfree' (ready_mono hr (Ne.symm hji)) h3.1 h3.2.1 ?_) h2
   rw [Array.setIfInBounds_comm _ _ hji]
   exact h3.2.2
def mask(ops:Array Oper)(done:List Nat) : Array Bool:=(Array.range ops.size).map fun i=>done.contains i
theorem X3h(ops:Array Oper)(done:List Nat)(i:Nat) : (mask ops done).setIfInBounds i true=mask ops (i::done):=by
 apply Array.ext
 ·simp [mask]
 ·intro k h1 h2
  simp only [mask,Array.size_setIfInBounds,Array.size_map,Array.size_range] at h1
  by_cases hk:i=k
  ·subst hk
   simp [mask]
  ·have hk':¬ k=i:=fun h=>hk h.symm
   rw [Array.getElem_setIfInBounds_ne (by simpa [mask] using h1) hk]
   simp [mask,hk']
theorem Xet(ops:Array Oper) : Array.replicate ops.size false=mask ops []:=by
 apply Array.ext<;>simp [mask]
def closedB(ops:Array Oper)(done:List Nat) : Bool:=done.all fun k=>match ops[k]? with
 | some ok=>ok.after.all fun e=>!(Region.binds .any e)||done.contains e.on&&Nat.blt e.on ops.size
 | none=>true
def mayFirst(ops:Array Oper)(done:List Nat)(i:Nat) : Bool:=
 Region.noSelect ops&&Region.free .any ops (mask ops done) i&&(Region.ready .any ops (mask ops done)).contains i&&closedB ops done
theorem X8a{done:List Nat}{k:Nat}(d:Bool)(h:k<ops.size) : (mask ops done).getD k d=done.contains k:=by
 simp [mask,h]
theorem mask_getD'{done:List Nat}{k:Nat}(h:(mask ops done).getD k false=true) : done.contains k=true:=by
 rcases Nat.lt_or_ge k ops.size with h'|h'
 ·rwa [X8a false h'] at h
 ·simp [mask,h'] at h
theorem X4a{done:List Nat}(h:closedB ops done=true) : Closed ops (mask ops done):=fun k ok hk hl e he hb=>by
 have h1:=mask_getD' hl
 simp only [closedB,List.all_eq_true] at h
 have h2:=h k (by simpa using h1)
 simp only [hk] at h2
 have h3:=Array.all_eq_true'.1 h2 e he
 simp only [hb,Bool.not_true,Bool.false_or,Bool.and_eq_true] at h3
 have h4:e.on<ops.size:=by simpa [Nat.blt_eq] using h3.2
 rw [X8a false h4]
 exact h3.1
def tailWaits(ops:Array Oper)(tl:Nat→Bool)(i:Nat) : Bool:=
 (List.range ops.size).all fun j=>!tl j||reach ops i 9 j
theorem X77{i:Nat}(h:tailWaits ops tl i=true)(j:Nat)(oj:Oper)(hj:ops[j]? = some oj){listed:Array Bool}(hcl:Closed ops listed)(hall:∀ e ∈ oj.after,Region.binds .any e=true→listed.getD e.on false=true)(hi:listed.getD i true=false) : tl j=false:=by
 simp only [tailWaits,List.all_eq_true,List.mem_range] at h
 have h1:=h j (Array.getElem?_eq_some_iff.1 hj).1
 simp only [Bool.or_eq_true,Bool.not_eq_true'] at h1
 rcases h1 with h1|h1
 ·exact h1
 ·have h2:=X5q hcl 9 j oj hj hall h1
  rcases Nat.lt_or_ge i listed.size with h'|h'
  ·simp [h'] at h2 hi;rw [h2] at hi;cases hi
  ·simp [h'] at h2
section
variable {a : Act} {w : World} {n d fuel : Nat} {e : List (Nat × Value)} {o : Oper} {done : List Nat}
theorem Xko(i:Nat){v:Value}(hi:ops[i]? = some o)(hm:mayFirst ops done i=true)(ht:tailWaits ops tl i=true)(hf:Fr a n e)(hw:Want ops o e)(hd:o.dst=some d)(hn:Nat.blt d n=true)
  (hr:∀ w',Keep V w w'→(execOp a.eval o).run P w'=.ok (.value v) w') (h:∀ a',Fr a' n ((d,v)::e)→wpS P ops V tl Q fuel (mask ops (i::done)) a' w) : wpS P ops V tl Q (fuel+1) (mask ops done) a w:=by
 simp only [mayFirst,Bool.and_eq_true] at hm
 refine X6a (C:=fun w'=>Keep V w w') hi (Region.noSelect_spec hm.1.1.1) (fun j oj hj lst hcl hall hun w1 w2 h1 h2=>?_) fuel _ a w (X4a hm.2) (Region.free_spec hi hm.1.1.2) (by simpa using hm.1.2) (Keep.refl _ _) (.inl ⟨hw.wanted hf,hr⟩) ?_
 ·exact h1.trans (h2 (X77 ht j oj hj hcl hall hun))
 ·rw [X3h]
  exact h _ (by rw [hd];exact hf.put d v hn)
theorem Xlh(i:Nat){v:Value}(hi:ops[i]? = some o)(hm:mayFirst ops done i=true)(ht:tailWaits ops tl i=true)(hf:Fr a n e)(hw:Want ops o e)(hd:o.dst=some d)(hn:Nat.blt d n=true)
  (hr:Ev P o a w v) (h:∀ a',Fr a' n ((d,v)::e)→wpS P ops none tl Q fuel (mask ops (i::done)) a' w) : wpS P ops none tl Q (fuel+1) (mask ops done) a w:=Xko i hi hm ht hf hw hd hn hr h
theorem Xp1(i:Nat){b:Nat}{v:Value}(hi:ops[i]? = some o)(hm:mayFirst ops done i=true)(ht:tailWaits ops tl i=true)(hf:Fr a n e)(hw:Want ops o e)(hd:o.dst=some d)(hn:Nat.blt d n=true)
  (hr:∀ w1,Only b w w1→Ev P o a w1 v) (h:∀ a',Fr a' n ((d,v)::e)→wpS P ops (some b) tl Q fuel (mask ops (i::done)) a' w) : wpS P ops (some b) tl Q (fuel+1) (mask ops done) a w:=
 Xko i hi hm ht hf hw hd hn (fun w' ⟨w1,h1,h2⟩=>hr w1 h1 w' (by rw [h1.size];exact h2)) h
theorem Xkr(i:Nat){v:Value}(hi:ops[i]? = some o)(hm:mayFirst ops done i=true)(hf:Fr a n e)(hw:Want ops o e)(hd:o.dst=some d)(hn:Nat.blt d n=true)
  (hr:∀ w,Ev P o a w v) (h:∀ a',Fr a' n ((d,v)::e)→wpS P ops V tl Q fuel (mask ops (i::done)) a' w) : wpS P ops V tl Q (fuel+1) (mask ops done) a w:=by
 simp only [mayFirst,Bool.and_eq_true] at hm
 refine X6a (C:=fun _=>True) hi (Region.noSelect_spec hm.1.1.1) (fun _ _ _ _ _ _ _ _ _ _ _=>trivial) fuel _ a w (X4a hm.2) (Region.free_spec hi hm.1.1.2) (by simpa using hm.1.2) trivial (.inl ⟨hw.wanted hf,fun w' _=>hr w' w' (Below.refl _ _)⟩) ?_
 rw [X3h]
 exact h _ (by rw [hd];exact hf.put d v hn)
theorem Xnf(i:Nat)(hi:ops[i]? = some o)(hm:mayFirst ops done i=true)(hf:Fr a n e)(hw:Pass ops o e)(hd:o.dst=some d)(hn:Nat.blt d n=true)
  (h:∀ a',Fr a' n ((d,undef)::e)→wpS P ops V tl Q fuel (mask ops (i::done)) a' w) : wpS P ops V tl Q (fuel+1) (mask ops done) a w:=by
 simp only [mayFirst,Bool.and_eq_true] at hm
 refine X6a (C:=fun _=>True) hi (Region.noSelect_spec hm.1.1.1) (fun _ _ _ _ _ _ _ _ _ _ _=>trivial) fuel _ a w (X4a hm.2) (Region.free_spec hi hm.1.1.2) (by simpa using hm.1.2) trivial (.inr ⟨hw.wanted hf,rfl⟩) ?_
 rw [X3h]
 exact h _ (by rw [hd];exact hf.put d undef hn)
theorem s_e{op:Op}{ty:TypeId}{pos:String}{af:Array Edge}(i:Nat){v:Value}(hi:ops[i]? = some ⟨some d,op,ty,pos,af,none⟩)(hm:mayFirst ops done i=true)(ht:tailWaits ops tl i=true)(hf:Fr a n e)(hn:Nat.blt d n=true)
  (hr:Ev P ⟨some d,op,ty,pos,af,none⟩ a w v) (h:∀ a',Fr a' n ((d,v)::e)→wpS P ops none tl Q fuel (mask ops (i::done)) a' w) : wpS P ops none tl Q (fuel+1) (mask ops done) a w:=Xlh i hi hm ht hf trivial rfl hn hr h
theorem Xq7{op:Op}{ty:TypeId}{pos:String}{af:Array Edge}(i:Nat){v:Value}(hi:ops[i]? = some ⟨some d,op,ty,pos,af,none⟩)(hm:mayFirst ops done i=true)(hf:Fr a n e)(hn:Nat.blt d n=true)
  (hr:∀ w,Ev P ⟨some d,op,ty,pos,af,none⟩ a w v) (h:∀ a',Fr a' n ((d,v)::e)→wpS P ops V tl Q fuel (mask ops (i::done)) a' w) : wpS P ops V tl Q (fuel+1) (mask ops done) a w:=Xkr i hi hm hf trivial rfl hn hr h
theorem Xp0(i:Nat)(hr:Region.ready .any ops (mask ops done)=[i])(h:wpR P ops V tl i (wpS P ops V tl Q fuel (mask ops (i::done))) a w) : wpS P ops V tl Q (fuel+1) (mask ops done) a w:=by
 refine ⟨fun h0=>(by rw [hr] at h0;cases h0),fun j hj=>?_⟩
 rw [hr] at hj
 obtain rfl:j=i:=by simpa using hj
 rw [X3h]
 exact h
theorem Xpj(i j:Nat)(hr:Region.ready .any ops (mask ops done)=[i,j])(hi:wpR P ops V tl i (wpS P ops V tl Q fuel (mask ops (i::done))) a w)
  (hj:wpR P ops V tl j (wpS P ops V tl Q fuel (mask ops (j::done))) a w) : wpS P ops V tl Q (fuel+1) (mask ops done) a w:=by
 refine ⟨fun h0=>(by rw [hr] at h0;cases h0),fun k hk=>?_⟩
 rw [hr] at hk
 rw [X3h]
 simp only [List.mem_cons,List.not_mem_nil,or_false] at hk
 rcases hk with rfl|rfl
 ·exact hi
 ·exact hj
theorem Xh9(i j k:Nat)(hr:Region.ready .any ops (mask ops done)=[i,j,k])(hi:wpR P ops V tl i (wpS P ops V tl Q fuel (mask ops (i::done))) a w)
  (hj:wpR P ops V tl j (wpS P ops V tl Q fuel (mask ops (j::done))) a w) (hk:wpR P ops V tl k (wpS P ops V tl Q fuel (mask ops (k::done))) a w) : wpS P ops V tl Q (fuel+1) (mask ops done) a w:=by
 refine ⟨fun h0=>(by rw [hr] at h0;cases h0),fun m hm=>?_⟩
 rw [hr] at hm
 rw [X3h]
 simp only [List.mem_cons,List.not_mem_nil,or_false] at hm
 rcases hm with rfl|rfl|rfl
 ·exact hi
 ·exact hj
 ·exact hk
def sameL(L D:List Nat) : Bool:=L.all D.contains&&D.all L.contains
theorem Xdt{L D:List Nat}(h:sameL L D=true) : mask ops L=mask ops D:=by
 unfold mask
 apply Array.map_congr_left
 intro i _
 unfold sameL at h
 rw [Bool.and_eq_true] at h
 rw [Bool.eq_iff_iff,List.contains_iff_mem,List.contains_iff_mem]
 exact ⟨fun hi=>List.contains_iff_mem.1 (List.all_eq_true.1 h.1 i hi),fun hi=>List.contains_iff_mem.1 (List.all_eq_true.1 h.2 i hi)⟩
theorem Xf3{a:Act}{w:World}{o:Oper}{v:Value}(h:Ev P o a w v) : Ef P o a w (fun v' w'=>v'=v∧w=w'):=by
 unfold Ef
 rw [h w (Below.refl _ _)]
 exact ⟨rfl,rfl⟩
theorem Xms(hr:Region.ready .any ops (mask ops done)=[])(h:Q a w) : wpS P ops V tl Q fuel (mask ops done) a w:=by
 cases fuel with
 | zero=>exact ⟨hr,h⟩
 | succ f=>exact ⟨fun _=>h,fun j hj=>by rw [hr] at hj;cases hj⟩
theorem Xok{i:Nat}{K:Act→World→Prop}{R:Value→World→Prop}(hi:ops[i]? = some o)(hf:Fr a n e)(hw:Want ops o e)(hd:o.dst=some d)(hn:Nat.blt d n=true)
  (hr:Ef P o a w fun v w'=>(tl i=false→Keep V w w')∧R v w') (h:∀ a' v w',R v w'→Fr a' n ((d,v)::e)→K a' w') : wpR P ops V tl i K a w:=by
 unfold wpR
 simp only [hi]
 rw [if_pos (hw.wanted hf)]
 exact hr.mono fun v w' ⟨h1,h2⟩=>⟨h1,h _ v w' h2 (by rw [hd];exact hf.put d v hn)⟩
theorem Xm6{i:Nat}{K:Act→World→Prop}{R:Value→World→Prop}(hi:ops[i]? = some o)(hf:Fr a n e)(hw:Want ops o e)(hd:o.dst=none)
  (hr:Ef P o a w fun v w'=>(tl i=false→Keep V w w')∧R v w') (h:∀ a' v w',R v w'→Fr a' n e→K a' w') : wpR P ops V tl i K a w:=by
 unfold wpR
 simp only [hi]
 rw [if_pos (hw.wanted hf)]
 exact hr.mono fun v w' ⟨h1,h2⟩=>⟨h1,h _ v w' h2 (by rw [hd];exact hf.put_none v)⟩
theorem Xmv{i:Nat}{K:Act→World→Prop}(hi:ops[i]? = some o)(hf:Fr a n e)(hw:Pass ops o e)(hd:o.dst=some d)(hn:Nat.blt d n=true)
  (h:∀ a',Fr a' n ((d,undef)::e)→K a' w) : wpR P ops V tl i K a w:=by
 unfold wpR
 simp only [hi]
 rw [if_neg (by rw [hw.wanted hf];simp)]
 exact h _ (by rw [hd];exact hf.put d undef hn)
theorem Xv(V:Option Nat)(tl:Nat→Bool){id:Nat}{l:List Oper}{Q':Exit→Act→World→Prop}(hm:P.follows .mixedOrders=true)
  (h:∀ w',Below w.heap.size w w'→wpS P l.toArray V tl (Q' .normal) l.length (mask l.toArray []) a w') : (Code.region id l.toArray true).wp P Q' a w:=by
 refine wp_region_any hm ?_
 rw [Xet]
 exact X32 (fun _ _ h=>h) _ _ _ _ (by simpa using h w.drew (Below.refl _ _).drew)
end
end
abbrev Env:=List (Nat×Value)
def At(w:World)(p:Addr)(l:List Value) : Prop:=∀ j v,l[j]? = some v→w.cell? (p.add j)=some v
def Blk(w:World)(b:Nat)(T:TypeId)(l:List Value) : Prop:=w.heap[b]? = some (.cells l.toArray T (0,0))
theorem X61(p:Addr)(i j:Nat) : (p.add i).add j=p.add (i+j):=by
 unfold Addr.add
 by_cases hi:i=0<;>by_cases hj:j=0<;>simp [hi,hj,Nat.add_assoc]
theorem X5f(p:Addr)(i:Nat) : (p.add i).block=p.block:=by unfold Addr.add;split<;>rfl
theorem X1b(b off i:Nat) : (Addr.mk b off none).add i=⟨b,off+i,none⟩:=by
 unfold Addr.add
 by_cases hi:i=0<;>simp [hi]
theorem Xc9{w:World}{p:Addr}{v:Value}(h:w.cell? p=some v) : p.block<w.heap.size:=by
 rcases Nat.lt_or_ge p.block w.heap.size with h'|h'
 ·exact h'
 ·simp [World.cell?,Array.getElem?_eq_none h'] at h
theorem At.below{w w':World}{p:Addr}{l:List Value}(h:At w p l)(hb:Below w.heap.size w w') : At w' p l:=by
 intro j v hj
 have:=h j v hj
 rw [hb.cell (Xc9 this)]
 exact this
theorem At.drop{w:World}{p:Addr}{l:List Value}(h:At w p l)(k:Nat) : At w (p.add k) (l.drop k):=by
 intro j v hj
 rw [X61]
 exact h (k+j) v (by rw [← hj,List.getElem?_drop])
theorem At.take{w:World}{p:Addr}{l:List Value}(h:At w p l)(k:Nat) : At w p (l.take k):=by
 intro j v hj;refine h j v ?_
 rw [List.getElem?_take] at hj
 split at hj
 ·exact hj
 ·cases hj
theorem At.nil(w:World)(p:Addr) : At w p []:=fun j v h=>by simp at h
theorem Blk.lt{w:World}{b:Nat}{T:TypeId}{l:List Value}(h:Blk w b T l) : b<w.heap.size:=by
 rcases Nat.lt_or_ge b w.heap.size with h'|h'
 ·exact h'
 ·simp [Blk,Array.getElem?_eq_none h'] at h
theorem Blk.cell{w:World}{b:Nat}{T:TypeId}{l:List Value}(h:Blk w b T l)(k:Nat) : w.cell? ⟨b,k,none⟩=l[k]?:=by
 unfold Blk at h
 simp [World.cell?,h]
theorem Blk.at{w:World}{b:Nat}{T:TypeId}{l:List Value}(h:Blk w b T l)(k:Nat) : At w ⟨b,k,none⟩ (l.drop k):=by
 intro j v hj
 rw [X1b,h.cell,← hj,List.getElem?_drop]
theorem Blk.below{w w':World}{b:Nat}{T:TypeId}{l:List Value}(h:Blk w b T l)(hb:Below w.heap.size w w') : Blk w' b T l:=(hb.block b h.lt).trans h
theorem Blk.only{w w':World}{b b':Nat}{T:TypeId}{l:List Value}(h:Blk w b T l)(ho:Only b' w w')(hne:b≠b') : Blk w' b T l:=(ho.block b hne).trans h
theorem Blk.drew{w:World}{b:Nat}{T:TypeId}{l:List Value}(h:Blk w b T l) : Blk w.drew b T l:=h
theorem Blk.ne{w:World}{b b':Nat}{T T':TypeId}{l l':List Value}(h:Blk w b T l)(h':Blk w b' T' l')(hT:Nat.beq T T'=false) : b≠b':=by
 rintro rfl
 unfold Blk at h h'
 rw [h] at h'
 injection h' with h'
 injection h' with _ e
 subst e
 simp at hT
theorem Below.only{B b:Nat}{w0 w w':World}(h:Below B w0 w)(ho:Only b w w')(hB:B≤b) : Below B w0 w':=
 h.trans ⟨ho.os,ho.tape,ho.output,by rw [ho.size];exact Nat.le_refl _,fun k hk=>ho.block k (by omega)⟩
theorem At.only{w w':World}{b:Nat}{p:Addr}{l:List Value}(h:At w p l)(ho:Only b w w')(hne:p.block≠b) : At w' p l:=by
 intro j v hj
 rw [World.cell?_of_block (w:=w) (by rw [X5f];exact ho.block _ hne)]
 exact h j v hj
def OneT(P:Program)(t:TypeId) : Prop:=∃ d,P.underlying t=some d∧(match d with|.struct _|.array _ _=>False|_=>True)
def AggT(P:Program)(t:TypeId)(n:Nat) : Prop:=(∃ d,P.underlying t=some d∧(match d with|.struct _|.array _ _=>True|_=>False))∧∃ i,P.info? t=some i∧i.size=n
def SizeT(P:Program)(t:TypeId)(n:Nat) : Prop:=∃ i,P.info? t=some i∧i.size=n
def ZeroT(P:Program)(t:TypeId)(z:Value) : Prop:=∃ i,P.info? t=some i∧i.zero=some z
def FieldT(P:Program)(T f k:Nat) : Prop:=∃ fs F i,P.underlying T=some (.struct fs)∧fs[f]? = some F∧F.offset=k∧P.info? F.type=some i∧(i.size==0)=false
def SliceT(P:Program)(T E:TypeId) : Prop:=P.underlying T=some (.slice E)
def FuncF (P : Program) (f : FuncId) : Prop := ∃ fn, P.funcs[f]? = some fn ∧ (fn.name == "runtime.NumGoroutine") = false ∧ fn.body.isNone = false
section
variable {P : Program} {w : World}
theorem run_sizeOf'{t n:Nat}(h:SizeT P t n)(w:World) : (sizeOf t).run P w=.ok n w:=by
 obtain ⟨i,h1,h2⟩:=h
 simp [sizeOf,typeInfo,h1,h2]
theorem X7u{t:TypeId}{z:Value}(h:ZeroT P t z)(w:World) : (zeroValue t).run P w=.ok z w:=by
 obtain ⟨i,h1,h2⟩:=h
 simp [zeroValue,typeInfo,h1,h2]
theorem Xr{t:TypeId}{d:TypeDesc}(h:P.underlying t=some d)(w:World) : (underlying t).run P w=.ok d w:=by simp [underlying,h]
theorem X3x{t:TypeId}(h:OneT P t)(w:World) : (isAgg t).run P w=.ok false w:=by
 obtain ⟨d,h1,h2⟩:=h
 cases d<;>simp_all [isAgg,underlying]
theorem X7s{t n:Nat}(h:AggT P t n)(w:World) : (isAgg t).run P w=.ok true w:=by
 obtain ⟨⟨d,h1,h2⟩,_⟩:=h
 cases d<;>simp_all [isAgg,underlying]
theorem X3s(p:Addr) : ∀ (l:List Value) (i:Nat) (acc:Array Value),(∀ j v,l[j]? = some v→w.cell? (p.add (i+j))=some v)→
  (loadCellsFrom p i l.length acc).run P w=.ok (acc++l.toArray) w
 | [],i,acc,_=>by simp [loadCellsFrom]
 | v::l,i,acc,h=>by
  have h0:=h 0 v rfl
  simp only [Nat.add_zero] at h0
  have ih:=X3s p l (i+1) (acc.push v) (fun j u hj=>by
   have:=h (j+1) u (by simpa using hj)
   rwa [show i+(j+1)=i+1+j from by omega] at this)
  simp [loadCellsFrom,load,Sem.run,h0,ih]
theorem X4j{t:TypeId}{p:Addr}{v:Value}{l:List Value}(h:OneT P t)(hc:At w p (v::l)) : (loadVar t p).run P w=.ok v w:=by
 have h0:=hc 0 v rfl
 have h1:p.add 0=p:=by simp [Addr.add]
 rw [h1] at h0
 simp [loadVar,X3x h,load,Sem.run,h0]
theorem X4i{t n:Nat}{p:Addr}{l:List Value}(h:AggT P t n)(hc:At w p l)(hn:l.length=n) : (loadVar t p).run P w=.ok (.agg l.toArray) w:=by
 subst hn
 have h1:=X3s (P:=P) (w:=w) p l 0 #[] (fun j v hj=>by rw [Nat.zero_add];exact hc j v hj)
 simp [loadVar,X7s h,run_sizeOf' h.2,loadCells,h1]
end
section
variable {P : Program} {a : Act} {w : World} {n : Nat} {e : Env} {ty : TypeId} {pos : String} {af : Array Edge} {g : Option (Nat × Bool)} {d : Option Tmp}
theorem Xj8{x:Operand}{v:Value}(hf:Fr a n e)(hx:ev e x=some v) : Ev P ⟨d,.move x,ty,pos,af,g⟩ a w v:=fun w' _=>by
 simp [execOp,hf.ev hx]
theorem Xa{x:Operand}{v:Value}(hx:ev e x=some v) : EvW P ⟨d,.move x,ty,pos,af,g⟩ n e w v:=fun a hf=>Xj8 hf hx
theorem Xdj{x:Operand}{v:Value}(hf:Fr a n e)(hx:ev e x=some v) : Ev P ⟨d,.assign x,ty,pos,af,g⟩ a w v:=fun w' _=>by
 simp [execOp,hf.ev hx]
theorem X1r{x:Operand}{v:Value}(hx:ev e x=some v) : EvW P ⟨d,.assign x,ty,pos,af,g⟩ n e w v:=fun a hf=>Xdj hf hx
theorem Xcu{c x y:Operand}{b:Bool}{v:Value}(hf:Fr a n e)(hc:ev e c=some (.bool b))(hx:ev e (if b then x else y)=some v) : Ev P ⟨d,.pick c x y,ty,pos,af,g⟩ a w v:=fun w' _=>by
 have h1:=hf.ev hc;have h2:=hf.ev hx
 cases b<;>simp_all [execOp,asBool]
theorem Xgo{c x y:Operand}{b:Bool}{v:Value}(hf:Fr a n e)(hc:ev e c=some (.bool b))(hb:b=true)(hx:ev e x=some v) : Ev P ⟨d,.pick c x y,ty,pos,af,g⟩ a w v:=by
 subst hb
 exact Xcu hf hc hx
theorem Xb{c x y:Operand}{b:Bool}{v:Value}(hc:ev e c=some (.bool b))(hb:b=true)(hx:ev e x=some v) : EvW P ⟨d,.pick c x y,ty,pos,af,g⟩ n e w v:=fun a hf=>Xgo hf hc hb hx
theorem Xfl{c x y:Operand}{b:Bool}{v:Value}(hf:Fr a n e)(hc:ev e c=some (.bool b))(hb:b=false)(hx:ev e y=some v) : Ev P ⟨d,.pick c x y,ty,pos,af,g⟩ a w v:=by
 subst hb
 exact Xcu hf hc hx
theorem Xo{c x y:Operand}{b:Bool}{v:Value}(hc:ev e c=some (.bool b))(hb:b=false)(hx:ev e y=some v) : EvW P ⟨d,.pick c x y,ty,pos,af,g⟩ n e w v:=fun a hf=>Xfl hf hc hb hx
theorem Xfy{t:TypeId}{x:Operand}{p:Addr}{v:Value}{l:List Value}(hf:Fr a n e)(hx:ev e x=some (.pointer (some p)))(h1:OneT P t)(hc:At w p (v::l)) : Ev P ⟨d,.load t x,ty,pos,af,g⟩ a w v:=fun w' hw=>by
 simp [execOp,hf.ev hx,Instr.loadAt,Instr.sureAddr,X4j h1 (hc.below hw)]
theorem X0{t:TypeId}{x:Operand}{p:Addr}{v:Value}{l:List Value}(hx:ev e x=some (.pointer (some p)))(h1:OneT P t)(hc:At w p (v::l)) : EvW P ⟨d,.load t x,ty,pos,af,g⟩ n e w v:=fun a hf=>Xfy hf hx h1 hc
theorem Xeq{t k:Nat}{x:Operand}{p:Addr}{l:List Value}(hf:Fr a n e)(hx:ev e x=some (.pointer (some p)))(hA:AggT P t k)(hc:At w p l)(hl:l.length=k) : Ev P ⟨d,.load t x,ty,pos,af,g⟩ a w (.agg l.toArray):=fun w' hw=>by
 simp [execOp,hf.ev hx,Instr.loadAt,Instr.sureAddr,X4i hA (hc.below hw) hl]
theorem X07{t k:Nat}{x:Operand}{p:Addr}{l:List Value}(hx:ev e x=some (.pointer (some p)))(hA:AggT P t k)(hc:At w p l)(hl:l.length=k) : EvW P ⟨d,.load t x,ty,pos,af,g⟩ n e w (.agg l.toArray):=fun a hf=>Xeq hf hx hA hc hl
theorem X7h{T f k:Nat}{x:Operand}{p:Addr}(hf:Fr a n e)(hx:ev e x=some (.pointer (some p)))(hF:FieldT P T f k) : Ev P ⟨d,.fieldAddr T x f,ty,pos,af,g⟩ a w (.pointer (some (p.add k))):=fun w' _=>by
 obtain ⟨fs,F,i,h1,h2,h3,h4,h5⟩:=hF;have h6:=run_sizeOf' ⟨i,h4,rfl⟩ w'
 simp [execOp,hf.ev hx,Instr.fieldAt,Xr h1,h2,Instr.sureAddr,fieldPlace,h6,h3]
 simp at h5
 simp [h5]
theorem X79{T f k:Nat}{x:Operand}{p:Addr}(hx:ev e x=some (.pointer (some p)))(hF:FieldT P T f k) : EvW P ⟨d,.fieldAddr T x f,ty,pos,af,g⟩ n e w (.pointer (some (p.add k))):=fun a hf=>X7h hf hx hF
theorem Xee{T f k:Nat}{x:Operand}{b off m:Nat}(hf:Fr a n e)(hx:ev e x=some (.pointer (some ⟨b,off,none⟩)))(hF:FieldT P T f k)(hk:off+k=m) : Ev P ⟨d,.fieldAddr T x f,ty,pos,af,g⟩ a w (.pointer (some ⟨b,m,none⟩)):=by
 have:=X7h (P:=P) (w:=w) (d:=d) (ty:=ty) (pos:=pos) (af:=af) (g:=g) hf hx hF
 rwa [X1b,hk] at this
theorem Xjt{T f k:Nat}{x:Operand}{b off m:Nat}(hx:ev e x=some (.pointer (some ⟨b,off,none⟩)))(hF:FieldT P T f k)(hk:off+k=m) : EvW P ⟨d,.fieldAddr T x f,ty,pos,af,g⟩ n e w (.pointer (some ⟨b,m,none⟩)):=fun a hf=>Xee hf hx hF hk
theorem Xbw{x:Operand}{k:Nat}{vs:List Value}{v:Value}(hf:Fr a n e)(hx:ev e x=some (.tuple vs.toArray))(hv:vs[k]? = some v) : Ev P ⟨d,.extract x k,ty,pos,af,g⟩ a w v:=fun w' _=>by
 simp [execOp,hf.ev hx,Instr.extract,hv]
theorem Xg{x:Operand}{k:Nat}{vs:List Value}{v:Value}(hx:ev e x=some (.tuple vs.toArray))(hv:vs[k]? = some v) : EvW P ⟨d,.extract x k,ty,pos,af,g⟩ n e w v:=fun a hf=>Xbw hf hx hv
theorem Xn4{t:TypeId}{x:Operand}{b:Bool}(hf:Fr a n e)(hx:ev e x=some (.bool b)) : Ev P ⟨d,.unOp .not t x,ty,pos,af,g⟩ a w (.bool (!b)):=fun w' _=>by
 simp [execOp,hf.ev hx,Op.unary]
theorem X1d{t:TypeId}{x:Operand}{b:Bool}(hx:ev e x=some (.bool b)) : EvW P ⟨d,.unOp .not t x,ty,pos,af,g⟩ n e w (.bool (!b)):=fun a hf=>Xn4 hf hx
theorem Xn9{t:TypeId}{x:Operand}{i:Int}(hf:Fr a n e)(hx:ev e x=some (.int .i64 i)) : Ev P ⟨d,.unOp .neg t x,ty,pos,af,g⟩ a w (.int .i64 (IntKind.i64.wrap (-i))):=fun w' _=>by
 simp [execOp,hf.ev hx,Op.unary,Op.intArith]
theorem Xm3{t:TypeId}{x:Operand}{i:Int}(hx:ev e x=some (.int .i64 i)) : EvW P ⟨d,.unOp .neg t x,ty,pos,af,g⟩ n e w (.int .i64 (IntKind.i64.wrap (-i))):=fun a hf=>Xn9 hf hx
section
variable {t t' : TypeId} {x y : Operand} {i j : Int}
theorem Xm4(hf:Fr a n e)(hx:ev e x=some (.int .i64 i))(hy:ev e y=some (.int .i64 j)) : Ev P ⟨d,.binOp .add t x y t',ty,pos,af,g⟩ a w (.int .i64 (IntKind.i64.wrap (i+j))):=fun w' _=>by
 simp [execOp,hf.ev hx,hf.ev hy,eqGuard,binOp,Op.intArith]
theorem Xc8(hf:Fr a n e)(hx:ev e x=some (.int .i64 i))(hy:ev e y=some (.int .i64 j))(h1:-9223372036854775808≤i+j)(h2:i+j≤9223372036854775807) : Ev P ⟨d,.binOp .add t x y t',ty,pos,af,g⟩ a w (.int .i64 (i+j)):=by
 have h:=Xm4 (P:=P) (w:=w) (d:=d) (ty:=ty) (pos:=pos) (af:=af) (g:=g) (t:=t) (t':=t') hf hx hy
 rwa [IntWalk.i64_in _ ⟨h1,h2⟩] at h
theorem Xu(hx:ev e x=some (.int .i64 i))(hy:ev e y=some (.int .i64 j))(h1:-9223372036854775808≤i+j)(h2:i+j≤9223372036854775807) : EvW P ⟨d,.binOp .add t x y t',ty,pos,af,g⟩ n e w (.int .i64 (i+j)):=fun a hf=>Xc8 hf hx hy h1 h2
theorem Xia(hf:Fr a n e)(hx:ev e x=some (.int .i64 i))(hy:ev e y=some (.int .i64 j))(h1:-9223372036854775808≤i-j)(h2:i-j≤9223372036854775807) : Ev P ⟨d,.binOp .sub t x y t',ty,pos,af,g⟩ a w (.int .i64 (i-j)):=by
 have h:Ev P ⟨d,.binOp .sub t x y t',ty,pos,af,g⟩ a w (.int .i64 (IntKind.i64.wrap (i-j))):=fun w' _=>by
  simp [execOp,hf.ev hx,hf.ev hy,eqGuard,binOp,Op.intArith]
 rwa [IntWalk.i64_in _ ⟨h1,h2⟩] at h
theorem X16(hx:ev e x=some (.int .i64 i))(hy:ev e y=some (.int .i64 j))(h1:-9223372036854775808≤i-j)(h2:i-j≤9223372036854775807) : EvW P ⟨d,.binOp .sub t x y t',ty,pos,af,g⟩ n e w (.int .i64 (i-j)):=fun a hf=>Xia hf hx hy h1 h2
theorem Xll(hf:Fr a n e)(hx:ev e x=some (.int .i64 i))(hy:ev e y=some (.int .i64 j)) : Ev P ⟨d,.binOp .lss t x y t',ty,pos,af,g⟩ a w (.bool (decide (i<j))):=fun w' _=>by
 simp [execOp,hf.ev hx,hf.ev hy,eqGuard,binOp,Op.intCmp]
theorem X1a(hx:ev e x=some (.int .i64 i))(hy:ev e y=some (.int .i64 j)) : EvW P ⟨d,.binOp .lss t x y t',ty,pos,af,g⟩ n e w (.bool (decide (i<j))):=fun a hf=>Xll hf hx hy
theorem Xlm(hf:Fr a n e)(hx:ev e x=some (.int .i64 i))(hy:ev e y=some (.int .i64 j)) : Ev P ⟨d,.binOp .leq t x y t',ty,pos,af,g⟩ a w (.bool (decide (i≤j))):=fun w' _=>by
 simp [execOp,hf.ev hx,hf.ev hy,eqGuard,binOp,Op.intCmp]
theorem Xhp(hx:ev e x=some (.int .i64 i))(hy:ev e y=some (.int .i64 j)) : EvW P ⟨d,.binOp .leq t x y t',ty,pos,af,g⟩ n e w (.bool (decide (i≤j))):=fun a hf=>Xlm hf hx hy
theorem Xlz(hf:Fr a n e)(hx:ev e x=some (.int .i64 i))(hy:ev e y=some (.int .i64 j)) : Ev P ⟨d,.binOp .gtr t x y t',ty,pos,af,g⟩ a w (.bool (decide (j<i))):=fun w' _=>by
 simp [execOp,hf.ev hx,hf.ev hy,eqGuard,binOp,Op.intCmp]
theorem X4m(hx:ev e x=some (.int .i64 i))(hy:ev e y=some (.int .i64 j)) : EvW P ⟨d,.binOp .gtr t x y t',ty,pos,af,g⟩ n e w (.bool (decide (j<i))):=fun a hf=>Xlz hf hx hy
theorem Xlj(hf:Fr a n e)(hx:ev e x=some (.int .i64 i))(hy:ev e y=some (.int .i64 j)) : Ev P ⟨d,.binOp .geq t x y t',ty,pos,af,g⟩ a w (.bool (decide (j≤i))):=fun w' _=>by
 simp [execOp,hf.ev hx,hf.ev hy,eqGuard,binOp,Op.intCmp]
theorem Xa0(hx:ev e x=some (.int .i64 i))(hy:ev e y=some (.int .i64 j)) : EvW P ⟨d,.binOp .geq t x y t',ty,pos,af,g⟩ n e w (.bool (decide (j≤i))):=fun a hf=>Xlj hf hx hy
theorem Xmg(hf:Fr a n e)(hx:ev e x=some (.int .i64 i))(hy:ev e y=some (.int .i64 j)) : Ev P ⟨d,.binOp .eql t x y t',ty,pos,af,g⟩ a w (.bool (i==j)):=fun w' _=>by
 simp [execOp,hf.ev hx,hf.ev hy,eqGuard,binOp,Op.intCmp]
theorem X0g(hx:ev e x=some (.int .i64 i))(hy:ev e y=some (.int .i64 j)) : EvW P ⟨d,.binOp .eql t x y t',ty,pos,af,g⟩ n e w (.bool (i==j)):=fun a hf=>Xmg hf hx hy
theorem Xnb(hf:Fr a n e)(hx:ev e x=some (.int .i64 i))(hy:ev e y=some (.int .i64 j)) : Ev P ⟨d,.binOp .neq t x y t',ty,pos,af,g⟩ a w (.bool (i != j)):=fun w' _=>by
 simp [execOp,hf.ev hx,hf.ev hy,eqGuard,binOp,Op.intCmp]
theorem X3k(hx:ev e x=some (.int .i64 i))(hy:ev e y=some (.int .i64 j)) : EvW P ⟨d,.binOp .neq t x y t',ty,pos,af,g⟩ n e w (.bool (i != j)):=fun a hf=>Xnb hf hx hy
theorem Xmq(hf:Fr a n e)(hx:ev e x=some (.int .i64 i))(hy:ev e y=some (.int .i64 j)) : Ev P ⟨d,.binOp .and t x y t',ty,pos,af,g⟩ a w (.int .i64 (bits .and .i64 i j)):=fun w' _=>by
 simp [execOp,hf.ev hx,hf.ev hy,eqGuard,binOp,Op.intBits,bits]
theorem X5l(hx:ev e x=some (.int .i64 i))(hy:ev e y=some (.int .i64 j)) : EvW P ⟨d,.binOp .and t x y t',ty,pos,af,g⟩ n e w (.int .i64 (bits .and .i64 i j)):=fun a hf=>Xmq hf hx hy
theorem Xpi(hf:Fr a n e)(hx:ev e x=some (.int .i64 i))(hy:ev e y=some (.int .i64 j)) : Ev P ⟨d,.binOp .or t x y t',ty,pos,af,g⟩ a w (.int .i64 (bits .or .i64 i j)):=fun w' _=>by
 simp [execOp,hf.ev hx,hf.ev hy,eqGuard,binOp,Op.intBits,bits]
theorem Vor(hx:ev e x=some (.int .i64 i))(hy:ev e y=some (.int .i64 j)) : EvW P ⟨d,.binOp .or t x y t',ty,pos,af,g⟩ n e w (.int .i64 (bits .or .i64 i j)):=fun a hf=>Xpi hf hx hy
theorem Xmm(hf:Fr a n e)(hx:ev e x=some (.int .i64 i))(hy:ev e y=some (.int .i64 j)) : Ev P ⟨d,.binOp .xor t x y t',ty,pos,af,g⟩ a w (.int .i64 (bits .xor .i64 i j)):=fun w' _=>by
 simp [execOp,hf.ev hx,hf.ev hy,eqGuard,binOp,Op.intBits,bits]
theorem X4l(hx:ev e x=some (.int .i64 i))(hy:ev e y=some (.int .i64 j)) : EvW P ⟨d,.binOp .xor t x y t',ty,pos,af,g⟩ n e w (.int .i64 (bits .xor .i64 i j)):=fun a hf=>Xmm hf hx hy
theorem X63{b c:Bool}(ht:P.underlying t=some .bool)(k:Nat)(w:World) : (Op.equalIn (k+1) t (.bool b) (.bool c)).run P w=.ok (b==c) w:=by
 simp [Op.equalIn,Xr ht]
theorem Xj7{b c:Bool}(ht:P.underlying t=some .bool)(hf:Fr a n e)(hx:ev e x=some (.bool b))(hy:ev e y=some (.bool c)) : Ev P ⟨d,.binOp .neq t x y t',ty,pos,af,g⟩ a w (.bool (b != c)):=fun w' _=>by
 have h:=X63 (P:=P) (b:=b) (c:=c) ht 9999 w'
 simp [execOp,hf.ev hx,hf.ev hy,eqGuard,binOp,Op.equal,Op.maxDepth,h]
 cases b<;>cases c<;>rfl
theorem Xoo{b c:Bool}(ht:P.underlying t=some .bool)(hx:ev e x=some (.bool b))(hy:ev e y=some (.bool c)) : EvW P ⟨d,.binOp .neq t x y t',ty,pos,af,g⟩ n e w (.bool (b != c)):=fun a hf=>Xj7 ht hf hx hy
theorem Xlp{x:Operand}{T E:TypeId}{A:Option Addr}{m c:Nat}(hf:Fr a n e)(hx:ev e x=some (.slice A m c))(hT:SliceT P T E) : Ev P ⟨d,.call ⟨.builtin .len,#[x],#[T]⟩,ty,pos,af,g⟩ a w (.int .i64 (m:Int)):=fun w' _=>by
 have:=Xr (P:=P) hT w'
 simp [execOp,resolve,invoke,builtin,Builtin.len_,hf.ev hx,this,goInt]
theorem X0x{x:Operand}{T E:TypeId}{A:Option Addr}{m c:Nat}(hx:ev e x=some (.slice A m c))(hT:SliceT P T E) : EvW P ⟨d,.call ⟨.builtin .len,#[x],#[T]⟩,ty,pos,af,g⟩ n e w (.int .i64 (m:Int)):=fun a hf=>Xlp hf hx hT
theorem Xam{k:FuncId}{cs:List Operand}{vs:List Value}(hf:Fr a n e)(hx:evs e cs=some vs) : Ev P ⟨d,.makeFunc (.func k) #[] cs.toArray,ty,pos,af,g⟩ a w (.func (.func k) #[] vs.toArray):=fun w' _=>by
 simp [execOp,Instr.makeFunc,hf.evs hx]
theorem X64{k:FuncId}{cs:List Operand}{vs:List Value}(hx:evs e cs=some vs) : EvW P ⟨d,.makeFunc (.func k) #[] cs.toArray,ty,pos,af,g⟩ n e w (.func (.func k) #[] vs.toArray):=fun a hf=>Xam hf hx
end
end
section
variable {P : Program} {a : Act} {w : World} {n : Nat} {e : Env} {ty : TypeId} {pos : String} {af : Array Edge} {g : Option (Nat × Bool)} {d : Option Tmp}
def IsNew(w:World)(T:TypeId)(zs:List Value)(v:Value)(w':World) : Prop:=
 ∃ b,v=.pointer (some ⟨b,0,none⟩)∧w.heap.size≤b∧Below w.heap.size w w'∧Blk w' b T zs
theorem X6d(w:World)(T:TypeId)(zs:List Value) : Blk (w.alloc (.cells zs.toArray T)) w.heap.size T zs:=heap_alloc_new w _
theorem X6h(w:World)(T:TypeId)(zs:List Value) : IsNew w T zs (.pointer (some ⟨w.heap.size,0,none⟩)) (w.alloc (.cells zs.toArray T)):=
 ⟨_,rfl,Nat.le_refl _,(Below.refl _ _).alloc (Nat.le_refl _) _,X6d w T zs⟩
theorem X6w(T:TypeId)(v:Value)(w:World) : (newVar T v).run P w=.ok ⟨w.heap.size,0,none⟩ (w.alloc (.cells v.cells T)):=by
 simp [newVar,newRow,newObj,Sem.run]
theorem Xg9{T:TypeId}{z:Value}{zs:List Value}(hz:ZeroT P T z)(hzs:z.cells.toList=zs) : Ef P ⟨d,.alloc T,ty,pos,af,g⟩ a w (IsNew w T zs):=by
 subst hzs
 have h:(execOp a.eval ⟨d,.alloc T,ty,pos,af,g⟩).run P w=.ok (.value (.pointer (some ⟨w.heap.size,0,none⟩))) (w.alloc (.cells z.cells T)):=by
  simp [execOp,Instr.alloc,X7u hz,X6w]
 refine (Ef.of_run h).mono fun v w' ⟨e1,e2⟩=>?_
 subst e1;subst e2
 have:=X6h w T z.cells.toList
 simpa using this
theorem X6{n:Nat}{e:List (Nat×Value)}{T:TypeId}{z:Value}{zs:List Value}(hz:ZeroT P T z)(hzs:z.cells.toList=zs) : EfW P ⟨d,.alloc T,ty,pos,af,g⟩ n e w (IsNew w T zs):=fun a _=>Xg9 hz hzs
theorem Xn2{T:TypeId}{x:Operand}{v:Value}{zs:List Value}(hf:Fr a n e)(hx:ev e x=some v)(hzs:v.cells.toList=zs) : Ef P ⟨d,.box T x,ty,pos,af,g⟩ a w (IsNew w T zs):=by
 subst hzs
 have h:(execOp a.eval ⟨d,.box T x,ty,pos,af,g⟩).run P w=.ok (.value (.pointer (some ⟨w.heap.size,0,none⟩))) (w.alloc (.cells v.cells T)):=by
  simp [execOp,Instr.box,X6w,hf.ev hx]
 refine (Ef.of_run h).mono fun v' w' ⟨e1,e2⟩=>?_
 subst e1;subst e2
 have:=X6h w T v.cells.toList
 simpa using this
theorem X0t{T:TypeId}{x:Operand}{v:Value}{zs:List Value}(hx:ev e x=some v)(hzs:v.cells.toList=zs) : EfW P ⟨d,.box T x,ty,pos,af,g⟩ n e w (IsNew w T zs):=fun a hf=>Xn2 hf hx hzs
def splice(l:List Value)(k:Nat)(vs:List Value) : List Value:=l.take k++vs++l.drop (k+vs.length)
def one:Value→Bool
 | .agg _=>false
 | .tuple _=>false
 | _=>true
theorem X9g(w:World)(b k:Nat)(v:Value) : Only b w (w.setCell ⟨b,k,none⟩ v):=
 ⟨rfl,rfl,rfl,by simp [World.setCell],fun i hi=>Below.heap_setCell _ _ _ _ hi⟩
theorem Xaj{T:TypeId}{l:List Value}{b:Nat}(h:Blk w b T l)(k:Nat)(v:Value) : Blk (w.setCell ⟨b,k,none⟩ v) b T (l.set k v):=by
 unfold Blk at h ⊢
 simp [World.setCell,Array.getElem?_modify,h]
theorem X4r{b off:Nat}{T:TypeId} : ∀ (vs:List Value) (w:World) (l:List Value) (i:Nat),Blk w b T l→off+i+vs.length≤l.length→vs.all one=true→
  ∃ w',(storeCells ⟨b,off,none⟩ vs i).run P w=.ok () w'∧Only b w w'∧Blk w' b T (splice l (off+i) vs)
 | [],w,l,i,hb,_,_=>⟨w,by simp [storeCells],Only.refl _ _,by simpa [splice] using hb⟩
 | v::vs,w,l,i,hb,hl,h1=>by
  simp only [List.all_cons,Bool.and_eq_true,List.length_cons] at h1 hl
  have hc:w.cell? ⟨b,off+i,none⟩=some (l[off+i]'(by omega)):=by rw [hb.cell];exact List.getElem?_eq_getElem (by omega)
  have hfz:w.frozen? ⟨b,off+i,none⟩=false:=by
   have:=hb
   unfold Blk at this
   simp [World.frozen?,this]
  obtain ⟨w',hr,ho,hb'⟩:=X4r (off:=off) vs (w.setCell ⟨b,off+i,none⟩ v) (l.set (off+i) v) (i+1) (Xaj hb _ _) (by rw [List.length_set];omega) h1.2
  refine ⟨w',?_,(X9g w b _ v).trans ho,?_⟩
  ·have h0:(store (⟨b,off+i,none⟩ : Addr) v).run P w=.ok () (w.setCell ⟨b,off+i,none⟩ v):=by
    have h2:=h1.1
    unfold one at h2
    split at h2
    ·cases h2
    ·cases h2
    ·rename_i hx1 hx2
     cases v<;>simp_all [store,Sem.run]
   simp only [storeCells,X1b]
   simp [h0,hr]
  ·have:splice (l.set (off+i) v) (off+(i+1)) vs=splice l (off+i) (v::vs):=by
    unfold splice
    have e1:off+(i+1)=off+i+1:=by omega
    rw [e1,List.take_succ_eq_append_getElem (by rw [List.length_set];omega),List.take_set_of_le (by omega),List.getElem_set_self,List.drop_set_of_lt (by omega)]
    simp only [List.length_cons,List.append_assoc,List.cons_append,List.nil_append]
    rw [show off+i+1+vs.length=off+i+(vs.length+1) from by omega]
   rw [this] at hb'
   exact hb'
def Stored(w:World)(b:Nat)(T:TypeId)(l:List Value)(_:Value)(w':World) : Prop:=Only b w w'∧Blk w' b T l
theorem X73{t T:TypeId}{x y:Operand}{b off k:Nat}{v:Value}{l l' vs:List Value}(hf:Fr a n e)(hx:ev e x=some (.pointer (some ⟨b,off,none⟩)))(hy:ev e y=some v)
  (hs:SizeT P t k) (hb:Blk w b T l) (hvs:v.cells.toList=vs) (hk:Nat.beq vs.length k=true) (h1:vs.all one=true) (hl:Nat.ble (off+k) l.length=true) (hl':splice l off vs=l') :
  Ef P ⟨d,.store t x y,ty,pos,af,g⟩ a w (Stored w b T l'):=by
 subst hl'
 have hk':vs.length=k:=Nat.eq_of_beq_eq_true hk
 have hll:off+k≤l.length:=Nat.le_of_ble_eq_true hl
 obtain ⟨w',hr,ho,hb'⟩:=X4r (P:=P) (b:=b) (off:=off) (T:=T) vs w l 0 hb (by omega) h1
 refine (Ef.of_skip (w':=w') ?_).mono fun v w1 ⟨_,e2⟩=>by subst e2;exact ⟨ho,by simpa using hb'⟩
 have hc:v.cells.size=k:=by rw [← hk',← hvs];simp
 simp [execOp,Instr.storeAt,Instr.sureAddr,hf.ev hx,hf.ev hy,storeVar,run_sizeOf' hs,hc,hvs,hr]
theorem X3g{t T:TypeId}{x y:Operand}{b off k:Nat}{v:Value}{l l' vs:List Value}(hx:ev e x=some (.pointer (some ⟨b,off,none⟩)))(hy:ev e y=some v)(hs:SizeT P t k)(hb:Blk w b T l)(hvs:v.cells.toList=vs)(hk:Nat.beq vs.length k=true)(h1:vs.all one=true)(hl:Nat.ble (off+k) l.length=true)(hl':splice l off vs=l') : EfW P ⟨d,.store t x y,ty,pos,af,g⟩ n e w (Stored w b T l'):=fun a hf=>X73 hf hx hy hs hb hvs hk h1 hl hl'
def Ret(P:Program)(f:FuncId)(args:List Value)(w:World)(R:Value→World→Prop) : Prop:=Calls P f args.toArray w fun e w'=>∃ v,e=.returned v∧R v w'
theorem Ret.mono{f:FuncId}{args:List Value}{R R':Value→World→Prop}(h:Ret P f args w R)(hr:∀ v w',R v w'→R' v w') : Ret P f args w R':=
 Calls.mono h fun _ _ ⟨v,he,hR⟩=>⟨v,he,hr _ _ hR⟩
theorem X5y{f:FuncId}(hF:FuncF P f)(args:Array Value)(w:World) : (callFunc f args).run P w=.ok (.enter f args) w:=by
 obtain ⟨fn,h1,h2,h3⟩:=hF
 have h2' : ¬ fn.name = "runtime.NumGoroutine" := by simpa using h2
 have h3':¬ fn.body=none:=by intro hb;rw [hb] at h3;cases h3
 simp [callFunc,h1,h2',h3']
theorem Xi1{f:FuncId}{xs:List Operand}{vs:List Value}{ts:Array TypeId}{R:Value→World→Prop}(hf:Fr a n e)(hx:evs e xs=some vs)(hF:FuncF P f)(h:Ret P f vs w R) :
  Ef P ⟨d,.call ⟨.value (.func f),xs.toArray,ts⟩,ty,pos,af,g⟩ a w R:=by
 have hm:=hf.evs hx
 unfold Ef
 have hr:(execOp a.eval ⟨d,.call ⟨.value (.func f),xs.toArray,ts⟩,ty,pos,af,g⟩).run P w=.ok (.enter f vs.toArray) w:=by
  simp [execOp,resolve,Act.eval,Deferred.ofValue,invoke,hm,X5y hF]
 rw [hr]
 exact h
theorem Xnu{f:FuncId}{xs:List Operand}{vs:List Value}{ts:Array TypeId}{R:Value→World→Prop}(hx:evs e xs=some vs)(hF:FuncF P f)(h:Ret P f vs w R) : EfW P ⟨d,.call ⟨.value (.func f),xs.toArray,ts⟩,ty,pos,af,g⟩ n e w R:=fun a hf=>Xi1 hf hx hF h
theorem Xf6{f:FuncId}{x:Operand}{xs:List Operand}{vs cs:List Value}{ts:Array TypeId}{R:Value→World→Prop}(hf:Fr a n e)(hv:ev e x=some (.func (.func f) #[] cs.toArray))(hx:evs e xs=some vs)(hF:FuncF P f)(h:Ret P f (vs++cs) w R) :
  Ef P ⟨d,.call ⟨.value x,xs.toArray,ts⟩,ty,pos,af,g⟩ a w R:=by
 have hm:=hf.evs hx
 have hv':=hf.ev hv
 unfold Ef
 have hr:(execOp a.eval ⟨d,.call ⟨.value x,xs.toArray,ts⟩,ty,pos,af,g⟩).run P w=.ok (.enter f (vs++cs).toArray) w:=by
  simp [execOp,resolve,hv',Deferred.ofValue,invoke,hm,X5y hF]
 rw [hr]
 exact h
theorem Xfq{f:FuncId}{x:Operand}{xs:List Operand}{vs cs:List Value}{ts:Array TypeId}{R:Value→World→Prop}(hv:ev e x=some (.func (.func f) #[] cs.toArray))(hx:evs e xs=some vs)(hF:FuncF P f)(h:Ret P f (vs++cs) w R) : EfW P ⟨d,.call ⟨.value x,xs.toArray,ts⟩,ty,pos,af,g⟩ n e w R:=fun a hf=>Xf6 hf hv hx hF h
end
section
variable {α : Type}
def Rd(w:World)(B:Nat)(E:TypeId)(enc:α→List Value)(A:Option Addr)(l:List α) : Prop:=
 l≠[]→∃ b off cs fz,A=some ⟨b,off,none⟩∧b<B∧w.heap[b]? = some (.cells cs E fz)∧∀ j v,(l.flatMap enc)[j]? = some v→cs[off+j]? = some v
theorem Rd.nil(w:World)(B:Nat)(E:TypeId)(enc:α→List Value)(A:Option Addr) : Rd w B E enc A []:=fun h=>absurd rfl h
theorem Rd.chg{w w':World}{B:Nat}{E:TypeId}{enc:α→List Value}{A:Option Addr}{l:List α}(h:Rd w B E enc A l)(hk:∀ b cs fz,b<B→w.heap[b]? = some (.cells cs E fz)→w'.heap[b]? = w.heap[b]?) : Rd w' B E enc A l:=fun hl=>by
 obtain ⟨b,off,cs,fz,h1,h2,h3,h4⟩:=h hl;exact ⟨b,off,cs,fz,h1,h2,(hk b cs fz h2 h3).trans h3,h4⟩
theorem Rd.below{w w':World}{B:Nat}{E:TypeId}{enc:α→List Value}{A:Option Addr}{l:List α}(h:Rd w B E enc A l)(hb:Below w.heap.size w w') : Rd w' B E enc A l:=
 h.chg fun b _ _ _ hh=>hb.block b (by
  rcases Nat.lt_or_ge b w.heap.size with h'|h'
  ·exact h'
  ·rw [Array.getElem?_eq_none h'] at hh;cases hh)
theorem Rd.below'{w w':World}{B:Nat}{E:TypeId}{enc:α→List Value}{A:Option Addr}{l:List α}(h:Rd w B E enc A l)(hb:Below B w w') : Rd w' B E enc A l:=
 h.chg fun b _ _ hB _=>hb.block b hB
theorem Rd.only{w w':World}{B b:Nat}{E:TypeId}{enc:α→List Value}{A:Option Addr}{l:List α}(h:Rd w B E enc A l)(ho:Only b w w')(hB:B≤b) : Rd w' B E enc A l:=
 h.chg fun k _ _ hk _=>ho.block k (by omega)
theorem Rd.onlyT{w w':World}{B b:Nat}{E T:TypeId}{lc:List Value}{enc:α→List Value}{A:Option Addr}{l:List α}(h:Rd w B E enc A l)(ho:Only b w w')(hb:Blk w b T lc)(hT:Nat.beq E T=false) : Rd w' B E enc A l:=
 h.chg fun k cs fz _ hh=>ho.block k (by
  rintro rfl
  unfold Blk at hb
  rw [hh] at hb
  injection hb with hb
  injection hb with _ e _
  subst e
  simp at hT)
theorem Rd.drew{w:World}{B:Nat}{E:TypeId}{enc:α→List Value}{A:Option Addr}{l:List α}(h:Rd w B E enc A l) : Rd w.drew B E enc A l:=h
theorem X5c{enc:α→List Value}{sz:Nat}(hsz:∀ x,(enc x).length=sz) : ∀ (l:List α) (k:Nat) (x:α),l[k]? = some x→∀ j v,(enc x)[j]? = some v→(l.flatMap enc)[k*sz+j]? = some v
 | [],k,x,h=>by simp at h
 | y::l,0,x,h=>by
  intro j v hj
  obtain rfl:y=x:=by simpa using h
  simp only [List.flatMap_cons,Nat.zero_mul,Nat.zero_add]
  rw [List.getElem?_append_left (List.getElem?_eq_some_iff.1 hj).1]
  exact hj
 | y::l,k+1,x,h=>by
  intro j v hj
  simp only [List.flatMap_cons]
  have h1:(k+1)*sz+j=sz+(k*sz+j):=by rw [Nat.add_mul];omega
  rw [h1,List.getElem?_append_right (by rw [hsz];omega),hsz,Nat.add_sub_cancel_left]
  exact X5c hsz l k x (by simpa using h) j v hj
theorem Xj{enc:α→List Value}{sz:Nat}(hsz:∀ x,(enc x).length=sz)(l:List α) : (l.flatMap enc).length=l.length*sz:=by
 induction l with
 | nil=>simp
 | cons x l ih=>simp only [List.flatMap_cons,List.length_append,hsz,ih,List.length_cons,Nat.add_mul];omega
theorem Rd.at{w:World}{B:Nat}{E:TypeId}{enc:α→List Value}{A:Option Addr}{l:List α}{sz:Nat}(hsz:∀ x,(enc x).length=sz)(h:Rd w B E enc A l){k:Nat}{x:α}(hk:l[k]? = some x) :
  ∃ p,A=some p∧At w (p.add (k*sz)) (enc x):=by
 have hl:l≠[]:=by rintro rfl;simp at hk
 obtain ⟨b,off,cs,fz,rfl,h2,h3,h4⟩:=h hl
 refine ⟨_,rfl,fun j v hj=>?_⟩
 rw [X1b,X1b]
 have:=h4 _ _ (X5c hsz l k x hk j v hj)
 simp only [World.cell?,h3]
 rw [Nat.add_assoc]
 simpa using this
theorem Rd.of_blk{w:World}{b:Nat}{E:TypeId}{enc:α→List Value}{l:List α}{cs:List Value}(h:Blk w b E cs)(hcs:l.flatMap enc=cs)(B:Nat)(hB:b<B) : Rd w B E enc (some ⟨b,0,none⟩) l:=fun _=>by
 subst hcs
 exact ⟨b,0,_,_,rfl,hB,h,fun j v hj=>by simpa using hj⟩
def Own(w:World)(B0:Nat)(E:TypeId)(sz:Nat)(enc:α→List Value)(A:Option Addr)(c:Nat)(l:List α) : Prop:=w.ownsRow B0 E sz (.slice A l.length c) l.length (l.flatMap enc)
theorem Own.rd{w:World}{B0:Nat}{E:TypeId}{sz:Nat}{enc:α→List Value}{A:Option Addr}{c:Nat}{l:List α}(h:Own w B0 E sz enc A c l) : Rd w w.heap.size E enc A l:=fun hl=>by
 rcases h.2 with ⟨h1,h2⟩|⟨g,cap,cur,h1,h2,h3,h4,h5,h6,h7⟩
 ·exact absurd (List.eq_nil_of_length_eq_zero h2) hl
 ·injection h1 with h1
  refine ⟨g,0,cur,_,h1,(Array.getElem?_eq_some_iff.1 h3).1,h3,fun j v hj=>?_⟩
  rw [← h7,List.getElem?_take] at hj
  split at hj
  ·simpa using hj
  ·cases hj
theorem Own.nil(w:World)(B0:Nat)(E:TypeId)(sz:Nat)(enc:α→List Value) : Own w B0 E sz enc none 0 []:=⟨by simp,.inl ⟨rfl,rfl⟩⟩
theorem Own.empty{w:World}{B0 b:Nat}{E:TypeId}{sz:Nat}{enc:α→List Value}(h:Blk w b E [])(hb:B0≤b) : Own w B0 E sz enc (some ⟨b,0,none⟩) 0 ([] : List α):=
 ⟨by simp,.inr ⟨b,0,#[],rfl,hb,h,Nat.le_refl _,by simp [maxLen],by simp,by simp⟩⟩
theorem Own.of_blk{w:World}{B0 b:Nat}{E:TypeId}{sz:Nat}{enc:α→List Value}{l:List α}{cs:List Value}(h:Blk w b E cs)(hb:B0≤b)(hcs:l.flatMap enc=cs)(hsz:∀ x,(enc x).length=sz)(hm:l.length≤maxLen) : Own w B0 E sz enc (some ⟨b,0,none⟩) l.length l:=by
 subst hcs
 have hl:=Xj hsz l;exact ⟨hl,.inr ⟨b,l.length,_,rfl,hb,h,Nat.le_refl _,hm,by simpa using hl,by simp only [List.toList_toArray];rw [← hl];exact List.take_length⟩⟩
theorem Own.below{w w':World}{B0:Nat}{E:TypeId}{sz:Nat}{enc:α→List Value}{A:Option Addr}{c:Nat}{l:List α}(h:Own w B0 E sz enc A c l)(hb:Below w.heap.size w w') : Own w' B0 E sz enc A c l:=by
 refine ⟨h.1,?_⟩
 rcases h.2 with h1|⟨g,cap,cur,h1,h2,h3,h4⟩
 ·exact .inl h1
 ·exact .inr ⟨g,cap,cur,h1,h2,(hb.block g (Array.getElem?_eq_some_iff.1 h3).1).trans h3,h4⟩
theorem Own.onlyT{w w':World}{B0 b:Nat}{E T:TypeId}{lc:List Value}{sz:Nat}{enc:α→List Value}{A:Option Addr}{c:Nat}{l:List α}(h:Own w B0 E sz enc A c l)(ho:Only b w w')(hb:Blk w b T lc)(hT:Nat.beq E T=false) : Own w' B0 E sz enc A c l:=by
 refine ⟨h.1,?_⟩
 rcases h.2 with h1|⟨g,cap,cur,h1,h2,h3,h4⟩
 ·exact .inl h1
 ·refine .inr ⟨g,cap,cur,h1,h2,(ho.block g ?_).trans h3,h4⟩
  rintro rfl
  unfold Blk at hb
  rw [h3] at hb
  injection hb with hb
  injection hb with _ e _
  subst e
  simp at hT
theorem Own.drew{w:World}{B0:Nat}{E:TypeId}{sz:Nat}{enc:α→List Value}{A:Option Addr}{c:Nat}{l:List α}(h:Own w B0 E sz enc A c l) : Own w.drew B0 E sz enc A c l:=h
theorem Own.block{w:World}{B0:Nat}{E:TypeId}{sz:Nat}{enc:α→List Value}{A:Option Addr}{c:Nat}{l:List α}(h:Own w B0 E sz enc A c l){k:Nat}(hk:(Value.slice A l.length c).ownBlock=some k) : B0≤k∧k<w.heap.size∧∃ cs fz,w.heap[k]? = some (.cells cs E fz):=by
 rcases h.2 with ⟨h1,_⟩|⟨g,cap,cur,h1,h2,h3,_⟩
 ·rw [h1] at hk;simp [Value.ownBlock] at hk
 ·rw [h1] at hk
  simp [Value.ownBlock] at hk
  subst hk
  exact ⟨h2,(Array.getElem?_eq_some_iff.1 h3).1,_,_,h3⟩
def Away(A:Option Addr)(b:Nat) : Prop:=∀ p,A=some p→p.block≠b
def AwayR(l:List α)(A:Option Addr)(b:Nat) : Prop:=l≠[]→Away A b
theorem Away.no(b:Nat) : Away none b:=fun p h=>by cases h
theorem Away.ne{g off b:Nat}(h:b≠g) : Away (some ⟨g,off,none⟩) b:=fun p hp=>by injection hp with hp;subst hp;exact Ne.symm h
theorem Rd.away{w:World}{B b:Nat}{E:TypeId}{enc:α→List Value}{A:Option Addr}{l:List α}(h:Rd w B E enc A l)(hl:w.heap.size≤b) : AwayR l A b:=fun hne p hp=>by
 obtain ⟨g,off,cs,fz,h1,h2,h3,h4⟩:=h hne
 rw [hp] at h1
 injection h1 with h1
 subst h1
 have:=(Array.getElem?_eq_some_iff.1 h3).1
 intro e
 simp only at e
 omega
theorem Own.away{w:World}{B0 b:Nat}{E:TypeId}{sz:Nat}{enc:α→List Value}{A:Option Addr}{c:Nat}{l:List α}(h:Own w B0 E sz enc A c l)(hl:w.heap.size≤b) : Away A b:=fun p hp=>by
 rcases h.2 with ⟨h1,_⟩|⟨g,cap,cur,h1,h2,h3,_⟩
 ·injection h1 with h1;rw [h1] at hp;cases hp
 ·injection h1 with h1
  rw [h1] at hp
  injection hp with hp
  subst hp
  have:=(Array.getElem?_eq_some_iff.1 h3).1
  intro e
  simp only at e
  omega
theorem Away.r{l:List α}{A:Option Addr}{b:Nat}(h:Away A b) : AwayR l A b:=fun _=>h
theorem Rd.onlyA{w w':World}{B b:Nat}{E:TypeId}{enc:α→List Value}{A:Option Addr}{l:List α}(h:Rd w B E enc A l)(ho:Only b w w')(ha:AwayR l A b) : Rd w' B E enc A l:=fun hne=>by
 obtain ⟨g,off,cs,fz,h1,h2,h3,h4⟩:=h hne;exact ⟨g,off,cs,fz,h1,h2,(ho.block g (ha hne _ h1)).trans h3,h4⟩
theorem Own.onlyA{w w':World}{B0 b:Nat}{E:TypeId}{sz:Nat}{enc:α→List Value}{A:Option Addr}{c:Nat}{l:List α}(h:Own w B0 E sz enc A c l)(ho:Only b w w')(ha:Away A b) : Own w' B0 E sz enc A c l:=by
 refine ⟨h.1,?_⟩
 rcases h.2 with h1|⟨g,cap,cur,h1,h2,h3,h4⟩
 ·exact .inl h1
 ·injection h1 with h1 h1' h1''
  exact .inr ⟨g,cap,cur,by rw [h1,h1''],h2,(ho.block g (ha _ h1)).trans h3,h4⟩
def Appended(w:World)(B0:Nat)(E:TypeId)(sz:Nat)(enc:α→List Value)(A:Option Addr)(c:Nat)(l l2:List α)(v:Value)(w':World) : Prop:=
 ∃ A' c',v=.slice A' (l++l2).length c'∧Own w' B0 E sz enc A' c' (l++l2)∧w.grownBy w' (Value.slice A l.length c).ownBlock∧∀ b,b<w.heap.size→Away A b→Away A' b
theorem Blk.appT{w w':World}{b:Nat}{T:TypeId}{lc:List Value}{B0:Nat}{E:TypeId}{sz:Nat}{enc:α→List Value}{A:Option Addr}{c:Nat}{l:List α}(h:Blk w b T lc)(ho:Own w B0 E sz enc A c l)(hg:w.grownBy w' (Value.slice A l.length c).ownBlock)(hT:Nat.beq E T=false) : Blk w' b T lc:=by
 refine (hg.block b h.lt fun hk=>?_).trans h
 obtain ⟨_,_,cs,fz,h3⟩:=ho.block hk.symm
 unfold Blk at h
 rw [h3] at h
 injection h with h
 injection h with _ e _
 subst e
 simp at hT
theorem Blk.appB{w w':World}{b:Nat}{T:TypeId}{lc:List Value}{B0:Nat}{E:TypeId}{sz:Nat}{enc:α→List Value}{A:Option Addr}{c:Nat}{l:List α}(h:Blk w b T lc)(ho:Own w B0 E sz enc A c l)(hg:w.grownBy w' (Value.slice A l.length c).ownBlock)(hb:b<B0) : Blk w' b T lc:=
 (hg.block b h.lt fun hk=>by have:=(ho.block hk.symm).1;omega).trans h
theorem Blk.appA{w w':World}{b:Nat}{T:TypeId}{lc:List Value}{A:Option Addr}{n c:Nat}(h:Blk w b T lc)(hg:w.grownBy w' (Value.slice A n c).ownBlock)(ha:Away A b) : Blk w' b T lc:=by
 refine (hg.block b h.lt fun hk=>?_).trans h
 cases A with
 | none=>simp [Value.ownBlock] at hk
 | some q=>
  simp only [Value.ownBlock,Option.some.injEq] at hk
  exact ha q rfl hk.symm
theorem Rd.appT{β:Type}{w w':World}{B:Nat}{E':TypeId}{enc':β→List Value}{A':Option Addr}{l':List β}{B0:Nat}{E:TypeId}{sz:Nat}{enc:α→List Value}{A:Option Addr}{c:Nat}{l:List α}(h:Rd w B E' enc' A' l')(ho:Own w B0 E sz enc A c l)(hg:w.grownBy w' (Value.slice A l.length c).ownBlock)(hT:Nat.beq E E'=false) : Rd w' B E' enc' A' l':=
 h.chg fun k cs fz _ hh=>hg.block k (Array.getElem?_eq_some_iff.1 hh).1 fun hk=>by
  obtain ⟨_,_,cs',fz',h3⟩:=ho.block hk.symm
  rw [h3] at hh
  injection hh with hh
  injection hh with _ e _
  subst e
  simp at hT
theorem Rd.appB{β:Type}{w w':World}{B:Nat}{E':TypeId}{enc':β→List Value}{A':Option Addr}{l':List β}{B0:Nat}{E:TypeId}{sz:Nat}{enc:α→List Value}{A:Option Addr}{c:Nat}{l:List α}(h:Rd w B E' enc' A' l')(ho:Own w B0 E sz enc A c l)(hg:w.grownBy w' (Value.slice A l.length c).ownBlock)(hB:B≤B0) : Rd w' B E' enc' A' l':=
 h.chg fun k cs fz hk hh=>hg.block k (Array.getElem?_eq_some_iff.1 hh).1 fun hk'=>by have:=(ho.block hk'.symm).1;omega
theorem Own.appT{β:Type}{w w':World}{B1:Nat}{E':TypeId}{sz':Nat}{enc':β→List Value}{A':Option Addr}{c':Nat}{l':List β}{B0:Nat}{E:TypeId}{sz:Nat}{enc:α→List Value}{A:Option Addr}{c:Nat}{l:List α}(h:Own w B1 E' sz' enc' A' c' l')(ho:Own w B0 E sz enc A c l)(hg:w.grownBy w' (Value.slice A l.length c).ownBlock)(hT:Nat.beq E E'=false) : Own w' B1 E' sz' enc' A' c' l':=by
 refine ⟨h.1,?_⟩
 rcases h.2 with h1|⟨g,cap,cur,h1,h2,h3,h4⟩
 ·exact .inl h1
 ·refine .inr ⟨g,cap,cur,h1,h2,(hg.block g (Array.getElem?_eq_some_iff.1 h3).1 fun hk=>?_).trans h3,h4⟩
  obtain ⟨_,_,cs',fz',h5⟩:=ho.block hk.symm
  rw [h5] at h3
  injection h3 with h3
  injection h3 with _ e _
  subst e
  simp at hT
theorem Below.app{w0 w w':World}{B B0:Nat}{E:TypeId}{sz:Nat}{enc:α→List Value}{A:Option Addr}{c:Nat}{l:List α}(h:Below B w0 w)(ho:Own w B0 E sz enc A c l)(hg:w.grownBy w' (Value.slice A l.length c).ownBlock)(hB:B≤B0)(hs:B≤w.heap.size) : Below B w0 w':=
 h.grown hg hs fun k hk=>by have:=(ho.block hk).1;omega
def InfoT(P:Program)(E:TypeId)(sz bytes:Nat) : Prop:=∃ i z,P.info? E=some i∧i.zero=some z∧i.size=sz∧i.bytes=bytes∧z.cells.size=sz∧0<sz
section
variable {P : Program} {a : Act} {w : World} {n : Nat} {e : Env} {ty : TypeId} {pos : String} {af : Array Edge} {g : Option (Nat × Bool)} {d : Option Tmp}
theorem Xe3{T E:TypeId}{sz bytes B B0:Nat}{x y:Operand}{enc:α→List Value}{A A2:Option Addr}{c c2:Nat}{l l2:List α}(hf:Fr a n e)(hx:ev e x=some (.slice A l.length c))(hy:ev e y=some (.slice A2 l2.length c2))
  (hT:SliceT P T E) (hi:InfoT P E sz bytes) (hsz:∀ x,(enc x).length=sz) (hone:∀ x,(enc x).all one=true) (ho:Own w B0 E sz enc A c l) (hr:Rd w B E enc A2 l2) (h63:l.length+l2.length≤maxLen) (hbytes:(l.length+l2.length)*bytes≤140737488355328) (hB0:B0≤w.heap.size) :
  Ef P ⟨d,.call ⟨.builtin .append,#[x,y],#[T,T]⟩,ty,pos,af,g⟩ a w (Appended w B0 E sz enc A c l l2):=by
 obtain ⟨i,z,hi1,hi2,hi3,hi4,hi5,hi6⟩:=hi
 by_cases hl2:l2=[]
 ·subst hl2
  have hrun:(Builtin.append_ #[T,T] ty #[.slice A l.length c,.slice A2 0 c2]).run P w=.ok (.slice A l.length c) w:=by
   rcases ho.2 with ⟨h1,h2⟩|⟨gg,cap,cur,h1,h2,h3,h4,h5,h6,h7⟩
   ·injection h1 with h1 h1' h1''
    subst h1
    cases A2<;>simp [Builtin.append_,Xr hT,sizeOf,typeInfo,hi1,Builtin.lenOf,Builtin.firstCells,loadCells,loadCellsFrom,h1',h1'']
   ·injection h1 with h1 _ h1''
    subst h1;subst h1''
    cases A2<;>simp [Builtin.append_,Xr hT,sizeOf,typeInfo,hi1,Builtin.lenOf,Builtin.firstCells,loadCells,loadCellsFrom,h4,storeCells]
  refine (Ef.of_run (v:=.slice A l.length c) (w':=w) ?_).mono fun v w' ⟨e1,e2⟩=>?_
  ·simp only [List.length_nil] at hy
   simp [execOp,resolve,invoke,builtin,hf.ev hx,hf.ev hy,hrun]
  ·subst e1;subst e2
   exact ⟨A,c,by simp,by simpa using ho,World.grownBy.refl w' _,fun _ _ h=>h⟩
 ·obtain ⟨b,off,cs,fz,rfl,h2,h3,h4⟩:=hr hl2;obtain ⟨v',w',hrun,hown,hg,_,hat⟩:=run_append_own_at (P:=P) w B0 T ty E i z sz bytes hT hi1 hi2 hi3 hi4 hi5 hi6 (.slice A l.length c) l.length (l.flatMap enc) ho ⟨b,off,none⟩ l2.length c2 (l2.flatMap enc) (Xj hsz l2)
   (fun j u hu=>by
    have:=h4 j u hu
    rw [X1b]
    simp [World.cell?,h3,this])
   (fun u hu=>by
    obtain ⟨x,_,hx⟩:=List.mem_flatMap.1 hu
    have:=List.all_eq_true.1 (hone x) u hx
    cases u<;>simp_all [Value.oneCell',one]) h63 hbytes hB0
  refine (Ef.of_run (v:=v') (w':=w') ?_).mono fun v w1 ⟨e1,e2⟩=>?_
  ·simp [execOp,resolve,invoke,builtin,hf.ev hx,hf.ev hy,hrun]
  ·subst e1;subst e2
   have hv:∃ A' c',v=.slice A' (l++l2).length c':=by
    rcases hown.2 with ⟨h1,h2⟩|⟨gg,cap,cur,h1,_⟩
    ·exact ⟨none,0,by rw [h1,List.length_append,h2]⟩
    ·exact ⟨_,_,by rw [h1,List.length_append]⟩
   obtain ⟨A',c',rfl⟩:=hv
   refine ⟨A',c',rfl,?_,hg,fun b hb ha p hp=>?_⟩
   rotate_left
   ·subst hp
    rcases hat with hat|hat
    ·cases A with
     | none=>simp [Value.ownBlock] at hat
     | some q=>
      simp only [Value.ownBlock,Option.some.injEq] at hat
      rw [hat]
      exact ha q rfl
    ·simp only [Value.ownBlock,Option.some.injEq] at hat
     rw [hat]
     omega
   unfold Own
   rw [List.length_append,List.flatMap_append]
   simpa [List.length_append] using hown
theorem X11{T E:TypeId}{sz bytes B B0:Nat}{x y:Operand}{enc:α→List Value}{A A2:Option Addr}{c c2:Nat}{l l2:List α}(hx:ev e x=some (.slice A l.length c))(hy:ev e y=some (.slice A2 l2.length c2))(hT:SliceT P T E)(hi:InfoT P E sz bytes)(hsz:∀ x,(enc x).length=sz)(hone:∀ x,(enc x).all one=true)(ho:Own w B0 E sz enc A c l)(hr:Rd w B E enc A2 l2)(h63:l.length+l2.length≤maxLen)(hbytes:(l.length+l2.length)*bytes≤140737488355328)(hB0:B0≤w.heap.size) : EfW P ⟨d,.call ⟨.builtin .append,#[x,y],#[T,T]⟩,ty,pos,af,g⟩ n e w (Appended w B0 E sz enc A c l l2):=fun a hf=>Xe3 hf hx hy hT hi hsz hone ho hr h63 hbytes hB0
theorem X6z{T E:TypeId}{sz:Nat}{x y:Operand}{p:Addr}{c:Nat}{k:Nat}{i:Int}{m:Nat}(hf:Fr a n e)(hx:ev e x=some (.slice (some p) m c))(hy:ev e y=some (.int .i64 i))(hT:SliceT P T E)(hs:SizeT P E sz)
  (hi:i=(k:Int)) (hk:k<m) : Ev P ⟨d,.indexAddr T x y,ty,pos,af,g⟩ a w (.pointer (some (p.add (k*sz)))):=fun w' _=>by
 subst hi
 have h1:=Xr (P:=P) hT w';have h2:=run_sizeOf' hs w'
 have h3:((k:Int)<(m:Int))=True:=by simp;omega
 simp [execOp,Instr.indexAt,asIntOf,hf.ev hx,hf.ev hy,h1,h2,hk]
end
end
section
variable {P : Program} {Q : Exit → Act → World → Prop} {a : Act} {w : World} {n : Nat} {e : Env}
theorem X9{c:Operand}{x y:Code}{b:Bool}(hf:Fr a n e)(hc:ev e c=some (.bool b))(ht:b=true→x.wp P Q a w)(he:b=false→y.wp P Q a w) : (Code.cond c x y).wp P Q a w:=
 wp_cond_split (hf.ev hc) ht he
theorem Xbx{c:Operand}{x y:Code}(hf:Fr a n e)(hc:ev e c=some (.bool true))(ht:x.wp P Q a w) : (Code.cond c x y).wp P Q a w:=wp_cond_true (hf.ev hc) ht
theorem X99{c:Operand}{x y:Code}(hf:Fr a n e)(hc:ev e c=some (.bool false))(ht:y.wp P Q a w) : (Code.cond c x y).wp P Q a w:=wp_cond_false (hf.ev hc) ht
theorem X0u{c:Code}(X:Act→World→Prop)(h:c.wp P (Exit.then X Q) a w)(hX:∀ a w,X a w→Q .normal a w) : c.wp P Q a w:=
 Code.wp_mono (fun e a w hq=>by cases e<;>first|exact hX _ _ hq|exact hq) h
theorem Xx{σ:Type}{c:Code}(I:σ→Act→World→Prop)(μ:σ→Nat)(s:σ)(h0:I s a w)
  (round:∀ s a w,I s a w→c.wp P (Exit.then (fun a' w'=>∃ s',I s' a' w'∧μ s'<μ s) Q) a w) : (Code.loop c).wp P Q a w:=by
 intro b k cs
 have key:∀ n s a w,μ s=n→I s a w→∃ e a' w',Q e a' w'∧Arrives P (lone (b.at a (.code c::.inLoop c::k)) cs w) b k cs e a' w':=by
  intro n
  induction n using Nat.strongRecOn with
  | _ n ih=>
   intro s a w hn hI;obtain ⟨e,a₁,w₁,hq,harr⟩:=round s a w hI b (.inLoop c::k) cs
   cases e with
   | normal=>
    obtain ⟨s',hI₁,hlt⟩:=hq;obtain ⟨e₂,a₂,w₂,hq₂,harr₂⟩:=ih (μ s') (hn▸hlt) s' a₁ w₁ rfl hI₁;exact ⟨e₂,a₂,w₂,hq₂,.of_steps (Steps.trans harr (.one step_inLoop)) harr₂⟩
   | exit id=>exact ⟨_,a₁,w₁,hq,.pass (x:=.inLoop c) rfl (fun _ _=>.inl (by simp)) harr⟩
   | goto l=>exact ⟨_,a₁,w₁,hq,.pass (x:=.inLoop c) rfl (fun _ _=>.inl (by simp)) harr⟩
   | ret=>exact ⟨_,a₁,w₁,hq,.pass (x:=.inLoop c) rfl (fun _ _=>.inl (by simp)) harr⟩
   | panic ch=>exact ⟨_,a₁,w₁,hq,.pass (x:=.inLoop c) rfl (fun _ _=>.inl (by simp)) harr⟩
   | outgrown=>exact ⟨_,a₁,w₁,hq,.pass (x:=.inLoop c) rfl (fun _ _=>.inl (by simp)) harr⟩
 obtain ⟨e,a',w',hq,harr⟩:=key _ s a w rfl h0;exact ⟨e,a',w',hq,.of_steps (.one step_loop) harr⟩
def evp(e:Env) : List (Nat×Operand)→Option (List (Nat×Value))
 | []=>some []
 | (i,x)::l=>match ev e x,evp e l with
  | some v,some vs=>some ((i,v)::vs)
  | _,_=>none
theorem Fr.evp(hf:Fr a n e) : ∀ {l:List (Nat×Operand)} {vs:List (Nat×Value)},evp e l=some vs→l.map (fun p=>(p.1,a.eval p.2))=vs:=by
 intro l
 induction l with
 | nil=>intro vs h;simpa [YtiejkplemjkjoaaGreatDoor.evp] using h
 | cons x l ih=>
  obtain ⟨i,x⟩:=x;intro vs h
  simp only [YtiejkplemjkjoaaGreatDoor.evp] at h
  split at h
  ·rename_i v us h1 h2
   injection h with h
   subst h
   simp [hf.ev h1,ih h2]
  ·cases h
def numb:Nat→List Value→List (Nat×Value)
 | _,[]=>[]
 | k,v::l=>(k,v)::numb (k+1) l
section
variable {ty : TypeId} {pos : String} {af : Array Edge} {g : Option (Nat × Bool)} {d : Option Tmp}
theorem Xf1{T:TypeId}{parts:List (Nat×Operand)}{ps:List (Nat×Value)}{cs:List Value}(hf:Fr a n e)(hp:evp e parts=some ps)(hb:∀ w,(Instr.build T ps.toArray).run P w=.ok (.agg cs.toArray) w) :
  Ev P ⟨d,.build T parts.toArray,ty,pos,af,g⟩ a w (.agg cs.toArray):=fun w' _=>by
 have h1:=hf.evp hp;have h2:=hb w'
 simp only [execOp,List.map_toArray]
 rw [show (List.map (fun x:Nat×Operand=>match x with|(i,x)=>(i,a.eval x)) parts)=ps from h1]
 simp [h2]
theorem Xz{T:TypeId}{parts:List (Nat×Operand)}{ps:List (Nat×Value)}{cs:List Value}(hp:evp e parts=some ps)(hb:∀ w,(Instr.build T ps.toArray).run P w=.ok (.agg cs.toArray) w) : EvW P ⟨d,.build T parts.toArray,ty,pos,af,g⟩ n e w (.agg cs.toArray):=fun a hf=>Xf1 hf hp hb
theorem X8b(off:Nat) : ∀ (l:List Value) (m:Nat) (cs:Array Value),off+m+l.length≤cs.size→((l.zipIdx m).foldl (fun cs p=>cs.setIfInBounds (off+p.2) p.1) cs).toList=splice cs.toList (off+m) l
 | [],m,cs,_=>by simp [splice]
 | v::l,m,cs,h=>by
  simp only [List.length_cons] at h
  simp only [List.zipIdx_cons,List.foldl_cons]
  rw [X8b off l (m+1) _ (by simp;omega)]
  unfold splice
  have e1:off+(m+1)=off+m+1:=by omega
  rw [e1,Array.toList_setIfInBounds,List.take_succ_eq_append_getElem (by simp;omega),List.take_set_of_le (by omega),List.getElem_set_self,List.drop_set_of_lt (by omega)]
  simp only [List.length_cons,List.append_assoc,List.cons_append,List.nil_append]
  rw [show off+m+1+l.length=off+m+(l.length+1) from by omega]
theorem X8u(sz:Nat) : ∀ (vs:List Value) (k:Nat) (cells:Array Value),(∀ v ∈ vs,v.cells.size=sz)→cells.size=(k+vs.length)*sz→
  Instr.fill (fun i=>some (i*sz,sz)) cells (numb k vs)=some (cells.toList.take (k*sz)++vs.flatMap fun v=>v.cells.toList).toArray
 | [],k,cells,_,h=>by
  simp only [List.length_nil,Nat.add_zero] at h
  have h9:cells.toList.take (k*sz)=cells.toList:=List.take_of_length_le (by simp [h])
  simp [numb,Instr.fill,h9]
 | v::vs,k,cells,h1,h=>by
  have hv:=h1 v (by simp)
  simp only [List.length_cons] at h
  have h2:k*sz+sz≤cells.size:=by rw [h,Nat.add_mul,Nat.add_mul];omega
  simp only [numb,Instr.fill,hv]
  rw [if_neg (by simp;omega)]
  have e1:(v.cells.zipIdx.foldl (fun cs (p:Value×Nat)=>cs.setIfInBounds (k*sz+p.2) p.1) cells).toList=splice cells.toList (k*sz) v.cells.toList:=by
   have:=X8b (k*sz) v.cells.toList 0 cells (by simp [hv];omega)
   rw [← Array.foldl_toList,Array.toList_zipIdx]
   simpa using this
  have hs:(v.cells.zipIdx.foldl (fun cs (p:Value×Nat)=>cs.setIfInBounds (k*sz+p.2) p.1) cells).size=cells.size:=by
   rw [← Array.length_toList,e1]
   simp [splice,hv]
   omega
  have ih:=X8u sz vs (k+1) (v.cells.zipIdx.foldl (fun cs (p:Value×Nat)=>cs.setIfInBounds (k*sz+p.2) p.1) cells) (fun u hu=>h1 u (by simp [hu])) (by rw [hs,h];congr 1;omega)
  refine Eq.trans ih ?_
  rw [e1]
  congr 2
  simp only [List.flatMap_cons]
  rw [← List.append_assoc]
  congr 1
  unfold splice
  have e2:(cells.toList.take (k*sz)++v.cells.toList).length=(k+1)*sz:=by simp [hv,Nat.add_mul];omega
  rw [← e2,List.take_left]
theorem X7t{T E sz bytes:Nat}{k:Nat}{parts:List (Nat×Operand)}{vs zs:List Value}(hf:Fr a n e)(hp:evp e parts=some (numb 0 vs))(hT:SliceT P T E)(hi:InfoT P E sz bytes)(hv:(vs.all (fun v=>Nat.beq v.cells.size sz)&&Nat.beq vs.length k&&Nat.ble (k*sz) 1000)=true)(hz:vs.flatMap (fun v=>v.cells.toList)=zs) :
  Ef P ⟨d,.buildSlice T k parts.toArray,ty,pos,af,g⟩ a w (fun v w'=>∃ b,v=.slice (some ⟨b,0,none⟩) k k∧w.heap.size≤b∧Below w.heap.size w w'∧Blk w' b E zs):=by
 subst hz
 obtain ⟨i,z,hi1,hi2,hi3,hi4,hi5,hi6⟩:=hi
 simp only [Bool.and_eq_true,List.all_eq_true] at hv
 obtain ⟨⟨hv1,hv2⟩,hv3⟩:=hv
 have hk:vs.length=k:=Nat.eq_of_beq_eq_true hv2
 have hk3:k*sz≤1000:=Nat.le_of_ble_eq_true hv3
 have h1:=hf.evp hp
 have hfill:=X8u sz vs 0 ((Array.range (k*sz)).map fun j=>z.cells[j % z.cells.size]!) (fun v hv=>Nat.eq_of_beq_eq_true (hv1 v hv)) (by simp [hk])
 simp only [Nat.zero_mul,List.take_zero,List.nil_append] at hfill
 refine (Ef.of_run (v:=.slice (some ⟨w.heap.size,0,none⟩) k k) (w':=w.alloc (.cells (vs.flatMap fun v=>v.cells.toList).toArray E)) ?_).mono fun v w' ⟨e1,e2⟩=>?_
 ·simp only [execOp,List.map_toArray]
  rw [show (List.map (fun x:Nat×Operand=>match x with|(i,x)=>(i,a.eval x)) parts)=numb 0 vs from h1]
  have h24:¬ (16777216<k*sz):=by omega
  by_cases h0:k*sz=0
  ·have hf0:Instr.fill (fun i=>some (i*sz,sz)) #[] (numb 0 vs)=some (vs.flatMap fun v=>v.cells.toList).toArray:=by
    rw [← hfill,h0]
    congr 1
    simp [Array.range_zero']
   simp [Instr.buildSlice,Xr hT,sizeOf,typeInfo,hi1,hi3,h0,newRow,newObj,Sem.run,Array.range_zero',hf0]
  ·simp [Instr.buildSlice,Xr hT,sizeOf,typeInfo,hi1,hi3,h24,h0,zeroValue,hi2,newRow,newObj,Sem.run,hfill]
 ·subst e1;subst e2
  exact ⟨_,rfl,Nat.le_refl _,(Below.refl _ _).alloc (Nat.le_refl _) _,X6d w E _⟩
theorem Xn{T E sz bytes:Nat}{k:Nat}{parts:List (Nat×Operand)}{vs zs:List Value}(hp:evp e parts=some (numb 0 vs))(hT:SliceT P T E)(hi:InfoT P E sz bytes)(hv:(vs.all (fun v=>Nat.beq v.cells.size sz)&&Nat.beq vs.length k&&Nat.ble (k*sz) 1000)=true)(hz:vs.flatMap (fun v=>v.cells.toList)=zs) : EfW P ⟨d,.buildSlice T k parts.toArray,ty,pos,af,g⟩ n e w (fun v w'=>∃ b,v=.slice (some ⟨b,0,none⟩) k k∧w.heap.size≤b∧Below w.heap.size w w'∧Blk w' b E zs):=fun a hf=>X7t hf hp hT hi hv hz
end
theorem X1{t:Nat}{e:Env}{b b':Bool}(h:look t e=some (.bool b))(hb:b=b') : look t e=some (.bool b'):=hb▸h
theorem Xf{α:Type}{l:List α}{k:Nat}(h:k<l.length) : ∃ u,l[k]? = some u:=⟨l[k],List.getElem?_eq_getElem h⟩
section
variable {α : Type} {ops : Array Oper} {rest : List Oper} {ty : TypeId} {pos : String} {af : Array Edge} {g : Option (Nat × Bool)} {d : Nat}
theorem Rd.top{B:Nat}{E:TypeId}{enc:α→List Value}{A:Option Addr}{l:List α}(h:Rd w B E enc A l) : Rd w w.heap.size E enc A l:=fun hl=>by
 obtain ⟨b,off,cs,fz,h1,h2,h3,h4⟩:=h hl;exact ⟨b,off,cs,fz,h1,(Array.getElem?_eq_some_iff.1 h3).1,h3,h4⟩
theorem Xii{T E E2:TypeId}{sz B:Nat}{x y:Operand}{enc:α→List Value}{A:Option Addr}{c:Nat}{l:List α}{k:Nat}{i:Int}{u:α}(hf:Fr a n e)(hw:Want ops ⟨some d,.indexAddr T x y,ty,pos,af,g⟩ e)(hn:Nat.blt d n=true)
  (hx:ev e x=some (.slice A l.length c)) (hy:ev e y=some (.int .i64 i)) (hT:SliceT P T E) (hs:SizeT P E sz) (hsz:∀ x,(enc x).length=sz) (hr:Rd w B E2 enc A l) (hk:l[k]? = some u) (hi:i=(k:Int))
  (h:∀ a' p,At w p (enc u)→Fr a' n ((d,.pointer (some p))::e)→wpList P ops Q rest a' w) : wpList P ops Q (⟨some d,.indexAddr T x y,ty,pos,af,g⟩::rest) a w:=by
 obtain ⟨p,rfl,hat⟩:=hr.at hsz hk;exact Xlt hf hw rfl hn (X6z hf hx hy hT hs hi (List.getElem?_eq_some_iff.1 hk).1) fun a' hf'=>h a' _ hat hf'
theorem Xk7{Q:Act→World→Prop}{tl:Nat→Bool}{fuel:Nat}{done:List Nat}{T E E2:TypeId}{sz B:Nat}{x y:Operand}{enc:α→List Value}{A:Option Addr}{c:Nat}{l:List α}{k:Nat}{i:Int}{u:α}(j:Nat)
  (ho:ops[j]? = some ⟨some d,.indexAddr T x y,ty,pos,af,g⟩) (hm:mayFirst ops done j=true) (ht:tailWaits ops tl j=true) (hf:Fr a n e) (hw:Want ops ⟨some d,.indexAddr T x y,ty,pos,af,g⟩ e) (hn:Nat.blt d n=true)
  (hx:ev e x=some (.slice A l.length c)) (hy:ev e y=some (.int .i64 i)) (hT:SliceT P T E) (hs:SizeT P E sz) (hsz:∀ x,(enc x).length=sz) (hr:Rd w B E2 enc A l) (hk:l[k]? = some u) (hi:i=(k:Int))
  (h:∀ a' p,At w p (enc u)→Fr a' n ((d,.pointer (some p))::e)→wpS P ops none tl Q fuel (mask ops (j::done)) a' w) : wpS P ops none tl Q (fuel+1) (mask ops done) a w:=by
 obtain ⟨p,rfl,hat⟩:=hr.at hsz hk;exact Xlh j ho hm ht hf hw rfl hn (X6z hf hx hy hT hs hi (List.getElem?_eq_some_iff.1 hk).1) fun a' hf'=>h a' _ hat hf'
end
theorem X3{K:Act→World→Prop}(h:Q .ret a w) : Exit.then K Q .ret a w:=h
theorem Xm{id:Nat}(h:Q .ret a w) : Exit.inBlock id Q .ret a w:=by simp [Exit.inBlock,h]
theorem X5{id:Nat}(h:Q .normal a w) : Exit.inBlock id Q .normal a w:=by simp [Exit.inBlock,h]
theorem Xh{K:Act→World→Prop}{id:Nat}(h:Q (.exit id) a w) : Exit.then K Q (.exit id) a w:=h
theorem X8{K:Act→World→Prop}(h:K a w) : Exit.then K Q .normal a w:=h
theorem Xt{id:Nat}(h:Q .normal a w) : Exit.inBlock id Q (.exit id) a w:=by simp [Exit.inBlock,h]
def ResV(P:Program)(w:World)(e:Env) : ResultVar→Value→Prop
 | .tmp t,v=>look t e=some v
 | .cell t T,v=>∃ p,look t e=some (.pointer (some p))∧((OneT P T∧∃ l,At w p (v::l))∨∃ k l,AggT P T k∧At w p l∧l.length=k∧v=.agg l.toArray)
theorem ResV.cellN{t T k:Nat}{p:Addr}{l:List Value}(h:look t e=some (.pointer (some p)))(hA:AggT P T k)(hc:At w p l)(hl:l.length=k) : ResV P w e (.cell t T) (.agg l.toArray):=⟨p,h,.inr ⟨k,l,hA,hc,hl,rfl⟩⟩
theorem X4g(fn:Func)(tmps:Array Value) : ∃ f:ResultVar→Sem Value,(∀ t,f (.tmp t)=pure (tmps.getD t undef))∧(∀ t T,f (.cell t T)=(do loadVar T (← asAddr (tmps.getD t undef))))∧
  results fn tmps=(do let vs ← fn.results.mapM f;pure (if h:vs.size=1 then vs[0] else .tuple vs)):=⟨_,fun _=>rfl,fun _ _=>rfl,rfl⟩
theorem ResV.run{r:ResultVar}{v:Value}{f:ResultVar→Sem Value}(hf:Fr a n e)(h:ResV P w e r v)(f1:∀ t,f (.tmp t)=pure (a.tmps.getD t undef))(f2:∀ t T,f (.cell t T)=(do loadVar T (← asAddr (a.tmps.getD t undef)))) : (f r).run P w=.ok v w:=by
 cases r with
 | tmp t=>
  have:=hf.h _ _ h
  simp [f1,this]
 | cell t T=>
  obtain ⟨p,h1,h2⟩:=h;have h3:=hf.h _ _ h1
  rcases h2 with ⟨h4,l,h5⟩|⟨k,l,h4,h5,h6,rfl⟩
  ·simp [f2,h3,asAddr,X4j h4 h5]
  ·simp [f2,h3,asAddr,X4i h4 h5 h6]
section
variable {fn : Func} {R : Ending → World → Prop}
theorem X01{r:ResultVar}{v:Value}(hf:Fr a n e)(hr:fn.results = #[r])(h:ResV P w e r v) : (results fn a.tmps).run P w=.ok v w:=by
 obtain ⟨f,f1,f2,h0⟩:=X4g fn a.tmps;have h1:=h.run hf f1 f2
 rw [h0,hr]
 simp [h1]
theorem X2l{r1 r2:ResultVar}{v1 v2:Value}(hf:Fr a n e)(hr:fn.results = #[r1,r2])(h1:ResV P w e r1 v1)(h2:ResV P w e r2 v2) : (results fn a.tmps).run P w=.ok (.tuple #[v1,v2]) w:=by
 obtain ⟨f,f1,f2,h0⟩:=X4g fn a.tmps;have h1:=h1.run hf f1 f2;have h2:=h2.run hf f1 f2
 rw [h0,hr]
 simp [h1,h2]
theorem X27{r1 r2 r3:ResultVar}{v1 v2 v3:Value}(hf:Fr a n e)(hr:fn.results = #[r1,r2,r3])(h1:ResV P w e r1 v1)(h2:ResV P w e r2 v2)(h3:ResV P w e r3 v3) : (results fn a.tmps).run P w=.ok (.tuple #[v1,v2,v3]) w:=by
 obtain ⟨f,f1,f2,h0⟩:=X4g fn a.tmps;have h1:=h1.run hf f1 f2;have h2:=h2.run hf f1 f2;have h3:=h3.run hf f1 f2
 rw [h0,hr]
 simp [h1,h2,h3]
theorem X4{v:Value}{R':Value→World→Prop}(hf:Fr a n e)(hr:(results fn a.tmps).run P w=.ok v w)(h:R' v w) : bodyPost P fn (fun e w'=>∃ v,e=.returned v∧R' v w') .ret a w:=⟨hf.d,v,hr,v,rfl,h⟩
theorem X6n{v:Value}{R':Value→World→Prop}(hf:Fr a n e)(hr:(results fn a.tmps).run P w=.ok v w)(h:R' v w) : bodyPost P fn (fun e w'=>∃ v,e=.returned v∧R' v w') .normal a w:=⟨hf.d,v,hr,v,rfl,h⟩
theorem X6p(hr:fn.results = #[]) : (results fn a.tmps).run P w=.ok (.tuple #[]) w:=by
 simp only [results,hr]
 simp
end
theorem enter{f:FuncId}{fn:Func}{c:Code}{args:List Value}{R:Value→World→Prop}(hf:P.funcs[f]? = some fn)(hb:fn.body=some c)(n:Nat)(hn:fn.ntmps=n)(hl:Nat.ble args.length n=true)
  (h:∀ a,Fr a n (zipFrom 0 args)→c.wp P (bodyPost P fn (fun e w'=>∃ v,e=.returned v∧R v w')) a w) : Ret P f args w R:=Xf8 hf hb n hn hl h
end
section
variable {P : Program} {ops : Array Oper} {Q : Exit → Act → World → Prop} {w : World} {rest : List Oper} {o : Oper} {op : Op} {ty : TypeId} {pos : String} {af : Array Edge} {g : Option (Nat × Bool)} {n d : Nat} {e : Env} {v : Value} {R : Value → World → Prop} {x : Operand}
def WL(P:Program)(ops:Array Oper)(Q:Exit→Act→World→Prop)(l:List Oper)(n:Nat)(e:Env)(w:World) : Prop:=∀ a,Fr a n e→wpList P ops Q l a w
theorem bs:(∀ b,(true&&b)=b)∧(∀ b,(false&&b)=false)∧(∀ b,(true||b)=true)∧∀ b,(false||b)=b:=⟨fun _=>rfl,fun _=>rfl,fun _=>rfl,fun _=>rfl⟩
theorem Vc{f:FuncId}{xs:List Operand}{vs:List Value}{ts:Array TypeId}{D:Option Tmp}(h:Ret P f vs w R)(hF:FuncF P f)(hx:evs e xs=some vs:=by rfl) : EfW P ⟨D,.call ⟨.value (.func f),xs.toArray,ts⟩,ty,pos,af,g⟩ n e w R:=Xnu hx hF h
theorem Vn{T t k b:Nat}{l:List Value}{D:Option Tmp}(hA:AggT P t k)(hb:Blk w b T l)(hx:ev e x=some (.pointer (some ⟨b,0,none⟩)):=by rfl)(hl:l.length=k:=by rfl) : EvW P ⟨D,.load t x,ty,pos,af,g⟩ n e w (.agg l.toArray):=X07 hx hA (hb.at 0) hl
theorem Vd{T f k b off:Nat}{D:Option Tmp}(hx:ev e x=some (.pointer (some ⟨b,off,none⟩)))(hF:FieldT P T f k)(m:Nat)(hk:off+k=m:=by rfl) : EvW P ⟨D,.fieldAddr T x f,ty,pos,af,g⟩ n e w (.pointer (some ⟨b,m,none⟩)):=Xjt hx hF hk
theorem Vu{t T:TypeId}{y:Operand}{b off k:Nat}{l l' vs:List Value}{D:Option Tmp}(hx:ev e x=some (.pointer (some ⟨b,off,none⟩)))(hy:ev e y=some v)(hs:SizeT P t k)(hb:Blk w b T l)(hvs:v.cells.toList=vs:=by rfl)(hk:Nat.beq vs.length k=true:=by rfl)(h1:vs.all one=true:=by rfl)(hl:Nat.ble (off+k) l.length=true:=by rfl)(hl':splice l off vs=l':=by rfl) : EfW P ⟨D,.store t x y,ty,pos,af,g⟩ n e w (Stored w b T l'):=X3g hx hy hs hb hvs hk h1 hl hl'
theorem Vw{t T:TypeId}{y:Operand}{b k:Nat}{l:List Value}{D:Option Tmp}(vs:List Value)(hs:SizeT P t k)(hb:Blk w b T l)(hx:ev e x=some (.pointer (some ⟨b,0,none⟩)):=by rfl)(hy:ev e y=some v:=by rfl)(hvs:v.cells.toList=vs:=by rfl)(hk:Nat.beq vs.length k=true:=by rfl)(h1:vs.all one=true:=by rfl)(hl:Nat.ble (0+k) l.length=true:=by rfl)(hl':splice l 0 vs=vs:=by rfl) : EfW P ⟨D,.store t x y,ty,pos,af,g⟩ n e w (Stored w b T vs):=X3g hx hy hs hb hvs hk h1 hl hl'
theorem Ze(hr:EvW P ⟨some d,op,ty,pos,af,none⟩ n e w v)(h:WL P ops Q rest n ((d,v)::e) w)(hn:Nat.blt d n=true:=by rfl) : WL P ops Q (⟨some d,op,ty,pos,af,none⟩::rest) n e w:=fun a hf=>l_e hf hn (hr a hf) h
theorem Zm(hx:ev e x=some v)(h:WL P ops Q rest n ((d,v)::e) w)(hn:Nat.blt d n=true:=by rfl) : WL P ops Q (⟨some d,.move x,ty,pos,af,none⟩::rest) n e w:=fun _ hf=>Xqc hf hx hn h
theorem Za(hx:ev e x=some v)(h:WL P ops Q rest n ((d,v)::e) w)(hn:Nat.blt d n=true:=by rfl) : WL P ops Q (⟨some d,.assign x,ty,pos,af,none⟩::rest) n e w:=fun _ hf=>Xqi hf hx hn h
theorem Zf(hr:EfW P ⟨some d,op,ty,pos,af,none⟩ n e w R)(h:∀ v w',R v w'→WL P ops Q rest n ((d,v)::e) w')(hn:Nat.blt d n=true:=by rfl) : WL P ops Q (⟨some d,op,ty,pos,af,none⟩::rest) n e w:=fun a hf=>l_f hf hn (hr a hf) fun a' v w' hR hf'=>h v w' hR a' hf'
theorem Zo(hr:EfW P ⟨none,op,ty,pos,af,none⟩ n e w R)(h:∀ v w',R v w'→WL P ops Q rest n e w') : WL P ops Q (⟨none,op,ty,pos,af,none⟩::rest) n e w:=fun a hf=>Xqp hf (hr a hf) fun a' v w' hR hf'=>h v w' hR a' hf'
theorem Zv(hw:Want ops o e)(hr:EvW P o n e w v)(h:WL P ops Q rest n ((d,v)::e) w)(hd:o.dst=some d:=by rfl)(hn:Nat.blt d n=true:=by rfl) : WL P ops Q (o::rest) n e w:=fun a hf=>Xlt hf hw hd hn (hr a hf) h
theorem Zp(hw:Pass ops o e)(h:WL P ops Q rest n ((d,undef)::e) w)(hd:o.dst=some d:=by rfl)(hn:Nat.blt d n=true:=by rfl) : WL P ops Q (o::rest) n e w:=fun _ hf=>Xn5 hf hw hd hn h
theorem Zk(hw:Want ops o e)(hr:EfW P o n e w R)(h:∀ v w',R v w'→WL P ops Q rest n ((d,v)::e) w')(hd:o.dst=some d:=by rfl)(hn:Nat.blt d n=true:=by rfl) : WL P ops Q (o::rest) n e w:=fun a hf=>Xgw hf hw hd hn (hr a hf) fun a' v w' hR hf'=>h v w' hR a' hf'
theorem Zg(t:Nat){b:Bool}(_:look t e=some (.bool b))(h1:b=true→WL P ops Q rest n e w)(h2:b=false→WL P ops Q rest n e w) : WL P ops Q rest n e w:=by
 cases b
 ·exact h2 rfl
 ·exact h1 rfl
theorem Zn(h:∀ a,Fr a n e→Q .normal a w) : WL P ops Q [] n e w:=h
theorem Zr{a:Act}{id:Nat}{l:List Oper}(hf:Fr a n e)(h:WL P l.toArray Q l n e w) : (Code.region id l.toArray false).wp P Q a w:=wp_region_lit (h a hf)
theorem Zs{a:Act}{id:Nat}{l:List Oper}{c:Code}(hf:Fr a n e)(h:∀ K:Act→World→Prop,(∀ a w,c.wp P Q a w→K a w)→WL P l.toArray (Exit.then K Q) l n e w) : (Code.seq (Code.region id l.toArray false) c).wp P Q a w:=
 wp_seq_k fun K hK=>wp_region_lit (h K hK a hf)
theorem Zt{c:Code}{K:Act→World→Prop}(hK:∀ a w,c.wp P Q a w→K a w)(h:∀ a,Fr a n e→c.wp P Q a w) : WL P ops (Exit.then K Q) [] n e w:=fun a hf=>hK a w (h a hf)
theorem Zi{α:Type}{T E E2:TypeId}{sz B k:Nat}{y:Operand}{enc:α→List Value}{A:Option Addr}{c:Nat}{l:List α}{i:Int}{u:α}(hw:Want ops ⟨some d,.indexAddr T x y,ty,pos,af,g⟩ e)(hx:ev e x=some (.slice A l.length c))(hy:ev e y=some (.int .i64 i))(hT:SliceT P T E)(hs:SizeT P E sz)(hsz:∀ x,(enc x).length=sz)(hr:Rd w B E2 enc A l)(hk:l[k]? = some u)(hi:i=(k:Int))
  (h:∀ p,At w p (enc u)→WL P ops Q rest n ((d,.pointer (some p))::e) w) (hn:Nat.blt d n=true:=by rfl) : WL P ops Q (⟨some d,.indexAddr T x y,ty,pos,af,g⟩::rest) n e w:=fun _ hf=>Xii hf hw hn hx hy hT hs hsz hr hk hi fun a' p hp hf'=>h p hp a' hf'
end
section
variable {P : Program} {ops : Array Oper} {V : Option Nat} {tl : Nat → Bool} {Q : Act → World → Prop} {fuel : Nat} {done : List Nat} {w : World} {o : Oper} {op : Op} {ty : TypeId} {pos : String} {af : Array Edge} {g : Option (Nat × Bool)} {n d : Nat} {e : Env} {v : Value} {R : Value → World → Prop} {x : Operand}
def WS(P:Program)(ops:Array Oper)(V:Option Nat)(tl:Nat→Bool)(Q:Act→World→Prop)(m:Nat)(L:List Nat)(n:Nat)(e:Env)(w:World) : Prop:=∀ a,Fr a n e→wpS P ops V tl Q m (mask ops L) a w
def WR(P:Program)(ops:Array Oper)(V:Option Nat)(tl:Nat→Bool)(Q:Act→World→Prop)(i m:Nat)(L:List Nat)(n:Nat)(e:Env)(w:World) : Prop:=∀ a,Fr a n e→wpR P ops V tl i (wpS P ops V tl Q m (mask ops (i::L))) a w
theorem Yb{a:Act}{m:Nat}{L:List Nat}(hf:Fr a n e)(h:WS P ops V tl Q m L n e w) : wpS P ops V tl Q m (mask ops L) a w:=h a hf
theorem Ye(i:Nat)(hi:ops[i]? = some ⟨some d,op,ty,pos,af,none⟩)(hr:EvW P ⟨some d,op,ty,pos,af,none⟩ n e w v)(h:WS P ops none tl Q fuel (i::done) n ((d,v)::e) w)(hm:mayFirst ops done i=true:=by kernel_rfl)(ht:tailWaits ops tl i=true:=by kernel_rfl)(hn:Nat.blt d n=true:=by rfl) : WS P ops none tl Q (fuel+1) done n e w:=fun a hf=>s_e i hi hm ht hf hn (hr a hf) h
theorem Yo(i:Nat)(hi:ops[i]? = some ⟨some d,op,ty,pos,af,none⟩)(hr:∀ w,EvW P ⟨some d,op,ty,pos,af,none⟩ n e w v)(h:WS P ops V tl Q fuel (i::done) n ((d,v)::e) w)(hm:mayFirst ops done i=true:=by kernel_rfl)(hn:Nat.blt d n=true:=by rfl) : WS P ops V tl Q (fuel+1) done n e w:=fun a hf=>Xq7 i hi hm hf hn (fun w=>hr w a hf) h
theorem Yv(i:Nat)(hi:ops[i]? = some o)(hw:Want ops o e)(hr:EvW P o n e w v)(h:WS P ops none tl Q fuel (i::done) n ((d,v)::e) w)(hm:mayFirst ops done i=true:=by kernel_rfl)(ht:tailWaits ops tl i=true:=by kernel_rfl)(hd:o.dst=some d:=by rfl)(hn:Nat.blt d n=true:=by rfl) : WS P ops none tl Q (fuel+1) done n e w:=fun a hf=>Xlh i hi hm ht hf hw hd hn (hr a hf) h
theorem Yw(i:Nat){b:Nat}(hi:ops[i]? = some o)(hw:Want ops o e)(hr:∀ w1,Only b w w1→EvW P o n e w1 v)(h:WS P ops (some b) tl Q fuel (i::done) n ((d,v)::e) w)(hm:mayFirst ops done i=true:=by kernel_rfl)(ht:tailWaits ops tl i=true:=by kernel_rfl)(hd:o.dst=some d:=by rfl)(hn:Nat.blt d n=true:=by rfl) : WS P ops (some b) tl Q (fuel+1) done n e w:=fun a hf=>Xp1 i hi hm ht hf hw hd hn (fun w1 h1=>hr w1 h1 a hf) h
theorem Yu(i:Nat)(hi:ops[i]? = some o)(hw:Want ops o e)(hr:∀ w,EvW P o n e w v)(h:WS P ops V tl Q fuel (i::done) n ((d,v)::e) w)(hm:mayFirst ops done i=true:=by kernel_rfl)(hd:o.dst=some d:=by rfl)(hn:Nat.blt d n=true:=by rfl) : WS P ops V tl Q (fuel+1) done n e w:=fun a hf=>Xkr i hi hm hf hw hd hn (fun w=>hr w a hf) h
theorem Yp(i:Nat)(hi:ops[i]? = some o)(hw:Pass ops o e)(h:WS P ops V tl Q fuel (i::done) n ((d,undef)::e) w)(hm:mayFirst ops done i=true:=by kernel_rfl)(hd:o.dst=some d:=by rfl)(hn:Nat.blt d n=true:=by rfl) : WS P ops V tl Q (fuel+1) done n e w:=fun _ hf=>Xnf i hi hm hf hw hd hn h
theorem Y1(i:Nat)(h:WR P ops V tl Q i fuel done n e w)(hr:Region.ready .any ops (mask ops done)=[i]:=by kernel_rfl) : WS P ops V tl Q (fuel+1) done n e w:=fun a hf=>Xp0 i hr (h a hf)
theorem Y2(i j:Nat)(hi:WR P ops V tl Q i fuel done n e w)(hj:WR P ops V tl Q j fuel done n e w)(hr:Region.ready .any ops (mask ops done)=[i,j]:=by kernel_rfl) : WS P ops V tl Q (fuel+1) done n e w:=fun a hf=>Xpj i j hr (hi a hf) (hj a hf)
theorem Y3(i j k:Nat)(hi:WR P ops V tl Q i fuel done n e w)(hj:WR P ops V tl Q j fuel done n e w)(hk:WR P ops V tl Q k fuel done n e w)(hr:Region.ready .any ops (mask ops done)=[i,j,k]:=by kernel_rfl) : WS P ops V tl Q (fuel+1) done n e w:=fun a hf=>Xh9 i j k hr (hi a hf) (hj a hf) (hk a hf)
theorem Yd(h:∀ a,Fr a n e→Q a w)(hr:Region.ready .any ops (mask ops done)=[]:=by kernel_rfl) : WS P ops V tl Q fuel done n e w:=fun a hf=>Xms hr (h a hf)
theorem Yf{i:Nat}(hi:ops[i]? = some o)(hw:Want ops o e)(hr:EfW P o n e w fun v w'=>(tl i=false→Keep V w w')∧R v w')(h:∀ v w',R v w'→WS P ops V tl Q fuel (i::done) n ((d,v)::e) w')(hd:o.dst=some d:=by rfl)(hn:Nat.blt d n=true:=by rfl) : WR P ops V tl Q i fuel done n e w:=fun a hf=>Xok hi hf hw hd hn (hr a hf) fun a' v w' hR hf'=>h v w' hR a' hf'
theorem Yg{i:Nat}(hi:ops[i]? = some o)(hw:Want ops o e)(hr:EfW P o n e w fun v w'=>(tl i=false→Keep V w w')∧R v w')(h:∀ v w',R v w'→WS P ops V tl Q fuel (i::done) n e w')(hd:o.dst=none:=by rfl) : WR P ops V tl Q i fuel done n e w:=fun a hf=>Xm6 hi hf hw hd (hr a hf) fun a' v w' hR hf'=>h v w' hR a' hf'
theorem Yq{i:Nat}(hi:ops[i]? = some o)(hw:Pass ops o e)(h:WS P ops V tl Q fuel (i::done) n ((d,undef)::e) w)(hd:o.dst=some d:=by rfl)(hn:Nat.blt d n=true:=by rfl) : WR P ops V tl Q i fuel done n e w:=fun _ hf=>Xmv hi hf hw hd hn h
theorem EfW.mono{R':Value→World→Prop}(h:EfW P o n e w R)(hr:∀ v w',R v w'→R' v w') : EfW P o n e w R':=fun a hf=>(h a hf).mono hr
theorem Uev(h:EvW P o n e w v) : EfW P o n e w (fun v' w'=>v'=v∧w=w'):=fun a hf=>Xf3 (h a hf)
theorem Yt{i:Nat}(hi:ops[i]? = some o)(hw:Want ops o e)(ht:tl i=true)(hr:EfW P o n e w R)(h:∀ v w',R v w'→WS P ops V tl Q fuel (i::done) n ((d,v)::e) w')(hd:o.dst=some d:=by rfl)(hn:Nat.blt d n=true:=by rfl) : WR P ops V tl Q i fuel done n e w:=Yf hi hw (hr.mono fun _ _ h=>⟨fun h0=>absurd h0 (by rw [ht];decide),h⟩) h hd hn
theorem Yh{i:Nat}(hi:ops[i]? = some o)(hw:Want ops o e)(ht:tl i=true)(hr:EfW P o n e w R)(h:∀ v w',R v w'→WS P ops V tl Q fuel (i::done) n e w')(hd:o.dst=none:=by rfl) : WR P ops V tl Q i fuel done n e w:=Yg hi hw (hr.mono fun _ _ h=>⟨fun h0=>absurd h0 (by rw [ht];decide),h⟩) h hd
theorem Yk{i:Nat}(hi:ops[i]? = some o)(hw:Want ops o e)(hr:EfW P o n e w R)(hk:∀ v w',R v w'→Below w.heap.size w w')(h:∀ v w',R v w'→WS P ops none tl Q fuel (i::done) n ((d,v)::e) w')(hd:o.dst=some d:=by rfl)(hn:Nat.blt d n=true:=by rfl) : WR P ops none tl Q i fuel done n e w:=Yf hi hw (hr.mono fun _ _ h=>⟨fun _=>hk _ _ h,h⟩) h hd hn
theorem Yz{i:Nat}{u:Value}(hi:ops[i]? = some o)(hw:Want ops o e)(hr:EfW P o n e w (fun v w'=>v=u∧w=w'))(h:WS P ops V tl Q fuel (i::done) n ((d,u)::e) w)(hd:o.dst=some d:=by rfl)(hn:Nat.blt d n=true:=by rfl) : WR P ops V tl Q i fuel done n e w:=Yf hi hw (hr.mono fun _ _ h=>⟨fun _=>by rw [← h.2];exact Keep.refl _ _,h⟩) (by rintro _ _ ⟨rfl,rfl⟩;exact h) hd hn
theorem Yl(t:Nat){b:Bool}(_:look t e=some (.bool b))(h1:b=true→WS P ops V tl Q fuel done n e w)(h2:b=false→WS P ops V tl Q fuel done n e w) : WS P ops V tl Q fuel done n e w:=by
 cases b
 ·exact h2 rfl
 ·exact h1 rfl
theorem Yc(D:List Nat)(m:Nat)(X:Act→World→Prop)(h1:∀ a w,X a w→wpS P ops V tl Q m (mask ops D) a w)
  (h2:(∀ L a w,sameL L D=true→X a w→wpS P ops V tl Q m (mask ops L) a w)→WS P ops V tl Q fuel done n e w) : WS P ops V tl Q fuel done n e w:=
 h2 fun L a w h hx=>by rw [Xdt h];exact h1 a w hx
theorem Yi{α:Type}{T E E2:TypeId}{sz B k:Nat}{y:Operand}{enc:α→List Value}{A:Option Addr}{c:Nat}{l:List α}{i:Int}{u:α}(j:Nat)(ho:ops[j]? = some ⟨some d,.indexAddr T x y,ty,pos,af,g⟩)(hw:Want ops ⟨some d,.indexAddr T x y,ty,pos,af,g⟩ e)(hx:ev e x=some (.slice A l.length c))(hy:ev e y=some (.int .i64 i))(hT:SliceT P T E)(hs:SizeT P E sz)(hsz:∀ x,(enc x).length=sz)(hr:Rd w B E2 enc A l)(hk:l[k]? = some u)(hi:i=(k:Int))
  (h:∀ p,At w p (enc u)→WS P ops none tl Q fuel (j::done) n ((d,.pointer (some p))::e) w) (hm:mayFirst ops done j=true:=by kernel_rfl) (ht:tailWaits ops tl j=true:=by kernel_rfl) (hn:Nat.blt d n=true:=by rfl) : WS P ops none tl Q (fuel+1) done n e w:=fun _ hf=>Xk7 j ho hm ht hf hw hn hx hy hT hs hsz hr hk hi fun a' p hp hf'=>h p hp a' hf'
end
end Go.Proofs.YtiejkplemjkjoaaGreatDoor
namespace Go.Proofs.YtiejkplemjkjoaaGreatDoor
theorem X0n{P:Program}{t n:Nat}(h:(P.info? t).map (fun i=>i.size)=some n) : ∃ i,P.info? t=some i∧i.size=n:=by
 cases hi:P.info? t with
 | none=>rw [hi] at h;cases h
 | some i=>rw [hi] at h;injection h with h;exact ⟨i,rfl,h⟩
theorem X39{P:Program}{t:Nat}{z:Option Value}(h:(P.info? t).map (fun i=>i.zero)=some z) : ∃ i,P.info? t=some i∧i.zero=z:=by
 cases hi:P.info? t with
 | none=>rw [hi] at h;cases h
 | some i=>rw [hi] at h;injection h with h;exact ⟨i,rfl,h⟩
theorem X4v{P:Program}{t sz bytes:Nat}{z:Value}(h:(P.info? t).map (fun i=>(i.size,i.bytes,i.zero))=some (sz,bytes,some z))(hz:z.cells.size=sz)(h0:0<sz) : InfoT P t sz bytes:=by
 cases hi:P.info? t with
 | none=>rw [hi] at h;cases h
 | some i=>
  rw [hi] at h
  simp only [Option.map_some,Option.some.injEq,Prod.mk.injEq] at h
  exact ⟨i,z,hi,h.2.2,h.1,h.2.1,hz,h0⟩
theorem X0i{P:Program}{T f k:Nat}{fs:Array Field}{F:Field}(h:P.underlying T=some (.struct fs))(h1:fs[f]? = some F)(h2:F.offset=k){n:Nat}(h3:(P.info? F.type).map (fun i=>i.size)=some n)(h4:(n==0)=false) : FieldT P T f k:=by
 obtain ⟨i,hi,rfl⟩:=X0n h3;exact ⟨fs,F,i,h,h1,h2,hi,h4⟩
theorem X7 {P : Program} {f : FuncId} {fn : Func} (h : P.funcs[f]? = some fn) (h1 : (fn.name == "runtime.NumGoroutine") = false) (h2 : fn.body.isNone = false) : FuncF P f := ⟨fn, h, h1, h2⟩
theorem X2:OneT Tryz.prog 3:=⟨_,Tryz.underlying3,trivial⟩
theorem Xqd:OneT Tryz.prog 5:=⟨_,Tryz.underlying5,trivial⟩
theorem Xkn:OneT Tryz.prog 40:=⟨_,Tryz.underlying40,trivial⟩
theorem X25:OneT Tryz.prog 46:=⟨_,Tryz.underlying46,trivial⟩
theorem X0a:OneT Tryz.prog 23:=⟨_,Tryz.underlying23,trivial⟩
theorem Xs:OneT Tryz.prog 24:=⟨_,Tryz.underlying24,trivial⟩
theorem X3r:OneT Tryz.prog 143:=⟨_,Tryz.underlying143,trivial⟩
theorem X6k:AggT Tryz.prog 42 2:=⟨⟨_,Tryz.underlying42,trivial⟩,X0n (by kernel_rfl)⟩
theorem X0s:AggT Tryz.prog 48 2:=⟨⟨_,Tryz.underlying48,trivial⟩,X0n (by kernel_rfl)⟩
theorem X0f:AggT Tryz.prog 114 3:=⟨⟨_,Tryz.underlying114,trivial⟩,X0n (by kernel_rfl)⟩
theorem Xna:AggT Tryz.prog 140 3:=⟨⟨_,Tryz.underlying140,trivial⟩,X0n (by kernel_rfl)⟩
theorem Xe:AggT Tryz.prog 26 6:=⟨⟨_,Tryz.underlying26,trivial⟩,X0n (by kernel_rfl)⟩
theorem Xy:AggT Tryz.prog 62 2:=⟨⟨_,Tryz.underlying62,trivial⟩,X0n (by kernel_rfl)⟩
theorem X33:AggT Tryz.prog 59 2:=⟨⟨_,Tryz.underlying59,trivial⟩,X0n (by kernel_rfl)⟩
theorem X0j:SizeT Tryz.prog 3 1:=X0n (by kernel_rfl)
theorem Xqt:SizeT Tryz.prog 5 1:=X0n (by kernel_rfl)
theorem X9q:SizeT Tryz.prog 46 1:=X0n (by kernel_rfl)
theorem X1q:SizeT Tryz.prog 48 2:=X0n (by kernel_rfl)
theorem X14:SizeT Tryz.prog 114 3:=X0n (by kernel_rfl)
theorem Xmp:SizeT Tryz.prog 140 3:=X0n (by kernel_rfl)
theorem X1m:SizeT Tryz.prog 23 1:=X0n (by kernel_rfl)
theorem X2b:SizeT Tryz.prog 24 1:=X0n (by kernel_rfl)
theorem Xw:SizeT Tryz.prog 26 6:=X0n (by kernel_rfl)
theorem Xi:SizeT Tryz.prog 62 2:=X0n (by kernel_rfl)
theorem X0o:SizeT Tryz.prog 59 2:=X0n (by kernel_rfl)
theorem z_3:ZeroT Tryz.prog 3 (.int .i64 0):=X39 (by kernel_rfl)
theorem X40:ZeroT Tryz.prog 48 (.agg #[.int .i64 0,.slice none 0 0]):=X39 (by kernel_rfl)
theorem X5b:ZeroT Tryz.prog 114 (.agg #[.int .i64 0,.int .i64 0,.int .i64 0]):=X39 (by kernel_rfl)
theorem X15:ZeroT Tryz.prog 26 (.agg #[.int .i64 0,.int .i64 0,.int .i64 0,.int .i64 0,.slice none 0 0,.slice none 0 0]):=X39 (by kernel_rfl)
theorem X0m:ZeroT Tryz.prog 62 (.agg #[.int .i64 0,.int .i64 0]):=X39 (by kernel_rfl)
theorem X47:ZeroT Tryz.prog 59 (.agg #[.int .i64 0,.int .i64 0]):=X39 (by kernel_rfl)
theorem Xi0:FieldT Tryz.prog 42 0 0:=X0i (n:=1) Tryz.underlying42 rfl rfl (by kernel_rfl) rfl
theorem Xc7:FieldT Tryz.prog 42 1 1:=X0i (n:=1) Tryz.underlying42 rfl rfl (by kernel_rfl) rfl
theorem X1g:FieldT Tryz.prog 48 0 0:=X0i (n:=1) Tryz.underlying48 rfl rfl (by kernel_rfl) rfl
theorem X0z:FieldT Tryz.prog 48 1 1:=X0i (n:=1) Tryz.underlying48 rfl rfl (by kernel_rfl) rfl
theorem X0c:FieldT Tryz.prog 114 0 0:=X0i (n:=1) Tryz.underlying114 rfl rfl (by kernel_rfl) rfl
theorem X0y:FieldT Tryz.prog 114 1 1:=X0i (n:=1) Tryz.underlying114 rfl rfl (by kernel_rfl) rfl
theorem X10:FieldT Tryz.prog 114 2 2:=X0i (n:=1) Tryz.underlying114 rfl rfl (by kernel_rfl) rfl
theorem Xfs:FieldT Tryz.prog 140 0 0:=X0i (n:=1) Tryz.underlying140 rfl rfl (by kernel_rfl) rfl
theorem Xg3:FieldT Tryz.prog 140 1 1:=X0i (n:=1) Tryz.underlying140 rfl rfl (by kernel_rfl) rfl
theorem Xfc:FieldT Tryz.prog 140 2 2:=X0i (n:=1) Tryz.underlying140 rfl rfl (by kernel_rfl) rfl
theorem X0h:FieldT Tryz.prog 26 0 0:=X0i (n:=1) Tryz.underlying26 rfl rfl (by kernel_rfl) rfl
theorem X0k:FieldT Tryz.prog 26 1 1:=X0i (n:=1) Tryz.underlying26 rfl rfl (by kernel_rfl) rfl
theorem X0d:FieldT Tryz.prog 26 2 2:=X0i (n:=1) Tryz.underlying26 rfl rfl (by kernel_rfl) rfl
theorem X0p:FieldT Tryz.prog 26 3 3:=X0i (n:=1) Tryz.underlying26 rfl rfl (by kernel_rfl) rfl
theorem X02:FieldT Tryz.prog 26 4 4:=X0i (n:=1) Tryz.underlying26 rfl rfl (by kernel_rfl) rfl
theorem Xq:FieldT Tryz.prog 26 5 5:=X0i (n:=1) Tryz.underlying26 rfl rfl (by kernel_rfl) rfl
theorem X00:FieldT Tryz.prog 62 0 0:=X0i (n:=1) Tryz.underlying62 rfl rfl (by kernel_rfl) rfl
theorem X03:FieldT Tryz.prog 62 1 1:=X0i (n:=1) Tryz.underlying62 rfl rfl (by kernel_rfl) rfl
theorem X1j:FieldT Tryz.prog 145 0 0:=X0i (n:=6) Tryz.underlying145 rfl rfl (by kernel_rfl) rfl
theorem X2k:FieldT Tryz.prog 145 1 6:=X0i (n:=1) Tryz.underlying145 rfl rfl (by kernel_rfl) rfl
theorem X1i:FieldT Tryz.prog 145 2 7:=X0i (n:=1) Tryz.underlying145 rfl rfl (by kernel_rfl) rfl
theorem X08:FieldT Tryz.prog 59 0 0:=X0i (n:=1) Tryz.underlying59 rfl rfl (by kernel_rfl) rfl
theorem X19:FieldT Tryz.prog 59 1 1:=X0i (n:=1) Tryz.underlying59 rfl rfl (by kernel_rfl) rfl
theorem X37:FieldT Tryz.prog 120 0 0:=X0i (n:=1) Tryz.underlying120 rfl rfl (by kernel_rfl) rfl
theorem X0b:FieldT Tryz.prog 120 1 1:=X0i (n:=1) Tryz.underlying120 rfl rfl (by kernel_rfl) rfl
theorem Xby:SliceT Tryz.prog 40 140:=Tryz.underlying40
theorem X13:SliceT Tryz.prog 46 114:=Tryz.underlying46
theorem X09:SliceT Tryz.prog 110 3:=Tryz.underlying110
theorem X7l:SliceT Tryz.prog 186 46:=Tryz.underlying186
theorem Xp:SliceT Tryz.prog 23 59:=Tryz.underlying23
theorem Xl:SliceT Tryz.prog 24 62:=Tryz.underlying24
theorem X58:InfoT Tryz.prog 3 1 8:=X4v (z:=.int .i64 0) (by kernel_rfl) rfl (by decide)
theorem Xm2:InfoT Tryz.prog 46 1 24:=X4v (z:=.slice none 0 0) (by kernel_rfl) rfl (by decide)
theorem X1s:InfoT Tryz.prog 114 3 24:=X4v (z:=.agg #[.int .i64 0,.int .i64 0,.int .i64 0]) (by kernel_rfl) rfl (by decide)
theorem X1c:InfoT Tryz.prog 62 2 16:=X4v (z:=.agg #[.int .i64 0,.int .i64 0]) (by kernel_rfl) rfl (by decide)
theorem X0r:InfoT Tryz.prog 59 2 16:=X4v (z:=.agg #[.int .i64 0,.int .i64 0]) (by kernel_rfl) rfl (by decide)
theorem Xlb:FuncF Tryz.prog 16:=X7 Tryz.func16 (by decide +kernel) rfl
theorem X8h:FuncF Tryz.prog 18:=X7 Tryz.func18 (by decide +kernel) rfl
theorem Xku:FuncF Tryz.prog 20:=X7 Tryz.func20 (by decide +kernel) rfl
theorem Xpp:FuncF Tryz.prog 48:=X7 Tryz.func48 (by decide +kernel) rfl
theorem Xp9:FuncF Tryz.prog 50:=X7 Tryz.func50 (by decide +kernel) rfl
theorem Xo3:FuncF Tryz.prog 53:=X7 Tryz.func53 (by decide +kernel) rfl
theorem Xgu:FuncF Tryz.prog 75:=X7 Tryz.func75 (by decide +kernel) rfl
theorem Xaw:FuncF Tryz.prog 55:=X7 Tryz.func55 (by decide +kernel) rfl
theorem X3n:FuncF Tryz.prog 66:=X7 Tryz.func66 (by decide +kernel) rfl
theorem Xoz:FuncF Tryz.prog 95:=X7 Tryz.func95 (by decide +kernel) rfl
theorem X3j:FuncF Tryz.prog 62:=X7 Tryz.func62 (by decide +kernel) rfl
theorem Xpv:FuncF Tryz.prog 138:=X7 Tryz.func138 (by decide +kernel) rfl
theorem Xn8:FuncF Tryz.prog 100:=X7 Tryz.func100 (by decide +kernel) rfl
theorem Xmu:FuncF Tryz.prog 121:=X7 Tryz.func121 (by decide +kernel) rfl
theorem Xn3:FuncF Tryz.prog 101:=X7 Tryz.func101 (by decide +kernel) rfl
theorem Xmn:FuncF Tryz.prog 102:=X7 Tryz.func102 (by decide +kernel) rfl
theorem Xew:FuncF Tryz.prog 103:=X7 Tryz.func103 (by decide +kernel) rfl
theorem Xfe:FuncF Tryz.prog 130:=X7 Tryz.func130 (by decide +kernel) rfl
theorem Xlq:FuncF Tryz.prog 131:=X7 Tryz.func131 (by decide +kernel) rfl
theorem Xn6:FuncF Tryz.prog 137:=X7 Tryz.func137 (by decide +kernel) rfl
theorem Xm1:FuncF Tryz.prog 154:=X7 Tryz.func154 (by decide +kernel) rfl
theorem X3q:FuncF Tryz.prog 67:=X7 Tryz.func67 (by decide +kernel) rfl
theorem Xka:FuncF Tryz.prog 72:=X7 Tryz.func72 (by decide +kernel) rfl
theorem Xh4:FuncF Tryz.prog 74:=X7 Tryz.func74 (by decide +kernel) rfl
theorem Xhr:FuncF Tryz.prog 129:=X7 Tryz.func129 (by decide +kernel) rfl
theorem Xhi:FuncF Tryz.prog 52:=X7 Tryz.func52 (by decide +kernel) rfl
theorem X6q:FuncF Tryz.prog 25:=X7 Tryz.func25 (by decide +kernel) rfl
theorem Xjf:FuncF Tryz.prog 98:=X7 Tryz.func98 (by decide +kernel) rfl
theorem X52:FuncF Tryz.prog 99:=X7 Tryz.func99 (by decide +kernel) rfl
theorem Xjk:FuncF Tryz.prog 36:=X7 Tryz.func36 (by decide +kernel) rfl
theorem Xi7:FuncF Tryz.prog 65:=X7 Tryz.func65 (by decide +kernel) rfl
theorem Xd8:FuncF Tryz.prog 88:=X7 Tryz.func88 (by decide +kernel) rfl
theorem Xim:FuncF Tryz.prog 28:=X7 Tryz.func28 (by decide +kernel) rfl
theorem Xcy:FuncF Tryz.prog 119:=X7 Tryz.func119 (by decide +kernel) rfl
theorem Xcz:FuncF Tryz.prog 63:=X7 Tryz.func63 (by decide +kernel) rfl
theorem Xda:FuncF Tryz.prog 40:=X7 Tryz.func40 (by decide +kernel) rfl
theorem Xk5:FuncF Tryz.prog 64:=X7 Tryz.func64 (by decide +kernel) rfl
theorem Xha:FuncF Tryz.prog 132:=X7 Tryz.func132 (by decide +kernel) rfl
theorem X2m:FuncF Tryz.prog 126:=X7 Tryz.func126 (by decide +kernel) rfl
theorem X6u:FuncF Tryz.prog 125:=X7 Tryz.func125 (by decide +kernel) rfl
theorem Xck:FuncF Tryz.prog 133:=X7 Tryz.func133 (by decide +kernel) rfl
theorem Xiv:FuncF Tryz.prog 134:=X7 Tryz.func134 (by decide +kernel) rfl
theorem Xho:FuncF Tryz.prog 135:=X7 Tryz.func135 (by decide +kernel) rfl
theorem Xca:FuncF Tryz.prog 76:=X7 Tryz.func76 (by decide +kernel) rfl
theorem X9i:FuncF Tryz.prog 77:=X7 Tryz.func77 (by decide +kernel) rfl
theorem X1t:FuncF Tryz.prog 78:=X7 Tryz.func78 (by decide +kernel) rfl
theorem X5v:FuncF Tryz.prog 79:=X7 Tryz.func79 (by decide +kernel) rfl
theorem Xk0:FuncF Tryz.prog 80:=X7 Tryz.func80 (by decide +kernel) rfl
theorem X9d:FuncF Tryz.prog 85:=X7 Tryz.func85 (by decide +kernel) rfl
theorem X4z:FuncF Tryz.prog 118:=X7 Tryz.func118 (by decide +kernel) rfl
theorem Xi4:FuncF Tryz.prog 115:=X7 Tryz.func115 (by decide +kernel) rfl
theorem Xhu:FuncF Tryz.prog 82:=X7 Tryz.func82 (by decide +kernel) rfl
theorem X6r:FuncF Tryz.prog 152:=X7 Tryz.func152 (by decide +kernel) rfl
theorem Xhs:FuncF Tryz.prog 68:=X7 Tryz.func68 (by decide +kernel) rfl
theorem X96:FuncF Tryz.prog 87:=X7 Tryz.func87 (by decide +kernel) rfl
theorem Xj5:FuncF Tryz.prog 151:=X7 Tryz.func151 (by decide +kernel) rfl
theorem Xh5:FuncF Tryz.prog 116:=X7 Tryz.func116 (by decide +kernel) rfl
theorem Xiq:FuncF Tryz.prog 117:=X7 Tryz.func117 (by decide +kernel) rfl
theorem Xhm:FuncF Tryz.prog 7:=X7 Tryz.func7 (by decide +kernel) rfl
theorem Xih:FuncF Tryz.prog 10:=X7 Tryz.func10 (by decide +kernel) rfl
theorem Xje:FuncF Tryz.prog 13:=X7 Tryz.func13 (by decide +kernel) rfl
theorem Xk3:FuncF Tryz.prog 17:=X7 Tryz.func17 (by decide +kernel) rfl
theorem Xi8:FuncF Tryz.prog 19:=X7 Tryz.func19 (by decide +kernel) rfl
theorem Xhl:FuncF Tryz.prog 26:=X7 Tryz.func26 (by decide +kernel) rfl
theorem Xk9:FuncF Tryz.prog 27:=X7 Tryz.func27 (by decide +kernel) rfl
theorem Xiw:FuncF Tryz.prog 29:=X7 Tryz.func29 (by decide +kernel) rfl
theorem Xiu:FuncF Tryz.prog 34:=X7 Tryz.func34 (by decide +kernel) rfl
theorem Xi5:FuncF Tryz.prog 35:=X7 Tryz.func35 (by decide +kernel) rfl
theorem Xhf:FuncF Tryz.prog 38:=X7 Tryz.func38 (by decide +kernel) rfl
theorem Xk4:FuncF Tryz.prog 41:=X7 Tryz.func41 (by decide +kernel) rfl
theorem Xie:FuncF Tryz.prog 42:=X7 Tryz.func42 (by decide +kernel) rfl
theorem Xix:FuncF Tryz.prog 49:=X7 Tryz.func49 (by decide +kernel) rfl
theorem Xjn:FuncF Tryz.prog 51:=X7 Tryz.func51 (by decide +kernel) rfl
theorem Xjl:FuncF Tryz.prog 83:=X7 Tryz.func83 (by decide +kernel) rfl
theorem Xhj:FuncF Tryz.prog 84:=X7 Tryz.func84 (by decide +kernel) rfl
theorem Xcv:FuncF Tryz.prog 86:=X7 Tryz.func86 (by decide +kernel) rfl
theorem Xjx:FuncF Tryz.prog 96:=X7 Tryz.func96 (by decide +kernel) rfl
theorem Xib:FuncF Tryz.prog 97:=X7 Tryz.func97 (by decide +kernel) rfl
theorem Xk8:FuncF Tryz.prog 123:=X7 Tryz.func123 (by decide +kernel) rfl
theorem Xio:FuncF Tryz.prog 124:=X7 Tryz.func124 (by decide +kernel) rfl
theorem mixed:Tryz.prog.follows .mixedOrders=true:=by kernel_rfl
end Go.Proofs.YtiejkplemjkjoaaGreatDoor
namespace Go.Proofs.YtiejkplemjkjoaaGreatDoor
open Go.RowKit
section
variable {P : Program} {a : Act} {w : World} {n : Nat} {e : Env} {ty : TypeId} {pos : String} {af : Array Edge} {g : Option (Nat × Bool)} {d : Option Tmp}
variable {t t' : TypeId} {x y : Operand} {i j : Int}
theorem Xni(hf:Fr a n e)(hx:ev e x=some (.int .i64 i))(hy:ev e y=some (.int .i64 j))(h0:(j==0)=false) : Ev P ⟨d,.binOp .rem t x y t',ty,pos,af,g⟩ a w (.int .i64 (i.tmod j)):=fun w' _=>by
 have h0':j≠0:=by rintro rfl;simp at h0
 simp [execOp,hf.ev hx,hf.ev hy,eqGuard,binOp,Op.intDiv,h0']
theorem X7b(hx:ev e x=some (.int .i64 i))(hy:ev e y=some (.int .i64 j))(h0:(j==0)=false) : EvW P ⟨d,.binOp .rem t x y t',ty,pos,af,g⟩ n e w (.int .i64 (i.tmod j)):=fun a hf=>Xni hf hx hy h0
theorem Xlo(hf:Fr a n e)(hx:ev e x=some (.int .i64 i))(hy:ev e y=some (.int .i64 j))(h0:(j==0)=false) : Ev P ⟨d,.binOp .quo t x y t',ty,pos,af,g⟩ a w (.int .i64 (IntKind.i64.wrap (i.tdiv j))):=fun w' _=>by
 have h0':j≠0:=by rintro rfl;simp at h0
 simp [execOp,hf.ev hx,hf.ev hy,eqGuard,binOp,Op.intDiv,h0']
theorem Xmt(hx:ev e x=some (.int .i64 i))(hy:ev e y=some (.int .i64 j))(h0:(j==0)=false) : EvW P ⟨d,.binOp .quo t x y t',ty,pos,af,g⟩ n e w (.int .i64 (IntKind.i64.wrap (i.tdiv j))):=fun a hf=>Xlo hf hx hy h0
theorem Xkb(hf:Fr a n e)(hx:ev e x=some (.int .i64 i))(hy:ev e y=some (.int .i64 j))(h1:-9223372036854775808≤i*j)(h2:i*j≤9223372036854775807) : Ev P ⟨d,.binOp .mul t x y t',ty,pos,af,g⟩ a w (.int .i64 (i*j)):=fun w' _=>by
 have h:IntKind.i64.wrap (i*j)=i*j:=IntWalk.i64_in _ ⟨h1,h2⟩
 simp [execOp,hf.ev hx,hf.ev hy,eqGuard,binOp,Op.intArith,h]
theorem X4k(hx:ev e x=some (.int .i64 i))(hy:ev e y=some (.int .i64 j))(h1:-9223372036854775808≤i*j)(h2:i*j≤9223372036854775807) : EvW P ⟨d,.binOp .mul t x y t',ty,pos,af,g⟩ n e w (.int .i64 (i*j)):=fun a hf=>Xkb hf hx hy h1 h2
theorem Xgn{k:IntKind}{m:Nat}(hf:Fr a n e)(hx:ev e x=some (.int .i64 i))(hy:ev e y=some (.int k j))(hj:j=(m:Int))(hm:m≤64) : Ev P ⟨d,.binOp .shl t x y t',ty,pos,af,g⟩ a w (.int .i64 (IntKind.i64.wrap (i*2^m))):=fun w' _=>by
 subst hj
 have hm':min m 64=m:=by omega
 simp [execOp,hf.ev hx,hf.ev hy,eqGuard,binOp,Op.shift,IntKind.bits,hm']
theorem X22{k:IntKind}{m:Nat}(hx:ev e x=some (.int .i64 i))(hy:ev e y=some (.int k j))(hj:j=(m:Int))(hm:m≤64) : EvW P ⟨d,.binOp .shl t x y t',ty,pos,af,g⟩ n e w (.int .i64 (IntKind.i64.wrap (i*2^m))):=fun a hf=>Xgn hf hx hy hj hm
theorem Xlu{k:IntKind}{m:Nat}(hf:Fr a n e)(hx:ev e x=some (.int .i64 i))(hy:ev e y=some (.int k j))(hj:j=(m:Int))(hm:m≤64) : Ev P ⟨d,.binOp .shr t x y t',ty,pos,af,g⟩ a w (.int .i64 (i/2^m)):=fun w' _=>by
 subst hj
 have hm':min m 64=m:=by omega
 simp [execOp,hf.ev hx,hf.ev hy,eqGuard,binOp,Op.shift,IntKind.bits,hm']
theorem X4o{k:IntKind}{m:Nat}(hx:ev e x=some (.int .i64 i))(hy:ev e y=some (.int k j))(hj:j=(m:Int))(hm:m≤64) : EvW P ⟨d,.binOp .shr t x y t',ty,pos,af,g⟩ n e w (.int .i64 (i/2^m)):=fun a hf=>Xlu hf hx hy hj hm
theorem Xe5(hf:Fr a n e)(hx:ev e x=some (.int .i64 i))(hy:ev e y=some (.int .i64 j)) : Ev P ⟨d,.binOp .andNot t x y t',ty,pos,af,g⟩ a w (.int .i64 (bits .andNot .i64 i j)):=fun w' _=>by
 simp [execOp,hf.ev hx,hf.ev hy,eqGuard,binOp,Op.intBits,bits]
theorem Xh8(hx:ev e x=some (.int .i64 i))(hy:ev e y=some (.int .i64 j)) : EvW P ⟨d,.binOp .andNot t x y t',ty,pos,af,g⟩ n e w (.int .i64 (bits .andNot .i64 i j)):=fun a hf=>Xe5 hf hx hy
theorem Xng{p:Addr}(hf:Fr a n e)(hx:ev e x=some (.pointer (some p))) : Ev P ⟨d,.nilCheck x,ty,pos,af,g⟩ a w (.pointer (some p)):=fun w' _=>by
 simp [execOp,hf.ev hx]
theorem X0l{p:Addr}(hx:ev e x=some (.pointer (some p))) : EvW P ⟨d,.nilCheck x,ty,pos,af,g⟩ n e w (.pointer (some p)):=fun a hf=>Xng hf hx
end
section
variable {P : Program} {a : Act} {w : World} {n : Nat} {e : Env} {α : Type} {ops : Array Oper} {ty : TypeId} {pos : String} {af : Array Edge} {g : Option (Nat × Bool)} {d : Nat}
end
theorem Own.lower{α:Type}{w:World}{B0 B1:Nat}{E:TypeId}{sz:Nat}{enc:α→List Value}{A:Option Addr}{c:Nat}{l:List α}(h:Own w B0 E sz enc A c l)(hB:B1≤B0) : Own w B1 E sz enc A c l:=by
 refine ⟨h.1,?_⟩
 rcases h.2 with h1|⟨g,cap,cur,h1,h2,h3⟩
 ·exact .inl h1
 ·exact .inr ⟨g,cap,cur,h1,Nat.le_trans hB h2,h3⟩
section
variable {α : Type} {P : Program} {a : Act} {w : World} {n : Nat} {e : Env} {ty : TypeId} {pos : String} {af : Array Edge} {g : Option (Nat × Bool)} {d : Option Tmp}
end
abbrev wr(i:Int) : Int:=IntKind.i64.wrap i
theorem X2p{i:Int}(h1:-9223372036854775808≤i)(h2:i≤9223372036854775807) : wr i=i:=IntWalk.i64_in _ ⟨h1,h2⟩
structure Rg where (a b c d:Int) deriving DecidableEq
structure Dy where (num:Rg) (exp:Int) deriving DecidableEq
structure Gt where (k a b:Int) deriving DecidableEq
def encI(i:Int) : List Value:=[.int .i64 i]
def encR(r:Rg) : List Value:=[.int .i64 r.a,.int .i64 r.b,.int .i64 r.c,.int .i64 r.d]
def encD(x:Dy) : List Value:=[.int .i64 x.num.a,.int .i64 x.num.b,.int .i64 x.num.c,.int .i64 x.num.d,.int .i64 x.exp]
def encG(x:Gt) : List Value:=[.int .i64 x.k,.int .i64 x.a,.int .i64 x.b]
theorem X05:∀ x,(encI x).length=1:=fun _=>rfl
theorem X0w:∀ x,(encG x).length=3:=fun _=>rfl
theorem X5t:∀ x,(encI x).all one=true:=fun _=>rfl
theorem X2o:∀ x,(encG x).all one=true:=fun _=>rfl
abbrev rV(r:Rg) : Value:=.agg #[.int .i64 r.a,.int .i64 r.b,.int .i64 r.c,.int .i64 r.d]
abbrev dV(x:Dy) : Value:=.agg #[.int .i64 x.num.a,.int .i64 x.num.b,.int .i64 x.num.c,.int .i64 x.num.d,.int .i64 x.exp]
abbrev gV(x:Gt) : Value:=.agg #[.int .i64 x.k,.int .i64 x.a,.int .i64 x.b]
def inR(n lo hi:Int) : Bool:=decide (lo≤n)&&decide (n≤hi)
def rOk(x:Rg) : Bool:=inR x.a (-1000000000) 1000000000&&inR x.b (-1000000000) 1000000000&&inR x.c (-1000000000) 1000000000&&inR x.d (-1000000000) 1000000000
def rAdd(x y:Rg) : Rg:=⟨wr (x.a+y.a),wr (x.b+y.b),wr (x.c+y.c),wr (x.d+y.d)⟩
def rNeg(x:Rg) : Rg:=⟨wr (-x.a),wr (-x.b),wr (-x.c),wr (-x.d)⟩
def rMul(x y:Rg) : Rg:=
 ⟨wr (wr (wr (wr (x.a*y.a)-wr (x.b*y.d))-wr (x.c*y.c))-wr (x.d*y.b)),
 wr (wr (wr (wr (x.a*y.b)+wr (x.b*y.a))-wr (x.c*y.d))-wr (x.d*y.c)),
 wr (wr (wr (wr (x.a*y.c)+wr (x.b*y.b))+wr (x.c*y.a))-wr (x.d*y.d)),
 wr (wr (wr (wr (x.a*y.d)+wr (x.b*y.c))+wr (x.c*y.b))+wr (x.d*y.a))⟩
def rRoot(x:Rg) : Rg:=⟨wr (x.b-x.d),wr (x.a+x.c),wr (x.b+x.d),wr (x.c-x.a)⟩
def rEven(x:Rg) : Bool:=(wr (x.a+x.c)).tmod 2==0&&(wr (x.b+x.d)).tmod 2==0
def rHalf(x:Rg) : Rg:=⟨wr ((rRoot x).a.tdiv 2),wr ((rRoot x).b.tdiv 2),wr ((rRoot x).c.tdiv 2),wr ((rRoot x).d.tdiv 2)⟩
def rOm(x:Rg) : Rg:=⟨wr (-x.d),x.a,x.b,x.c⟩
def rTurnN:Nat→Rg→Rg
 | 0,x=>x
 | k+1,x=>rTurnN k (rOm x)
def turns(k:Int) : Int:=(wr (k.tmod 8+8)).tmod 8
def rTurn(x:Rg)(k:Int) : Rg:=rTurnN (turns k).toNat x
def lowN:Nat→Rg→Rg×Nat
 | 0,x=>(x,0)
 | m+1,x=>if rEven x then lowN m (rHalf x) else (x,m+1)
def dLow(x:Rg)(exp:Int) : Dy:=⟨(lowN exp.toNat x).1,if 0<exp then ((lowN exp.toNat x).2:Int) else exp⟩
def dPow(k:Int) : Dy:=⟨rTurn ⟨1,0,0,0⟩ k,0⟩
def dNeg(x:Dy) : Dy:=⟨rNeg x.num,x.exp⟩
def dZ:Dy:=⟨⟨0,0,0,0⟩,0⟩
section
variable {α : Type} {p : α → Bool} {l : List α} {k : Nat} {u : α}
theorem X4u(h:(l.take k).all p=true)(hu:l[k]? = some u)(hp:p u=true) : (l.take (k+1)).all p=true:=by
 rw [List.take_add_one,hu]
 simp only [List.all_append,h,Option.toList_some,List.all_cons,hp,List.all_nil,Bool.and_self]
theorem X44(h:(l.take k).all p=true)(hk:l.length≤k) : l.all p=true:=by rwa [List.take_of_length_le hk] at h
end
theorem X7n{α:Type}{p:α→Bool}{l:List α}{k:Nat}{u:α}(hu:l[k]? = some u)(hp:p u=true) : l.any p=true:=by
 obtain ⟨h1,h2⟩:=List.getElem?_eq_some_iff.1 hu
 subst h2
 exact List.any_eq_true.2 ⟨_,List.getElem_mem h1,hp⟩
theorem X66{α:Type}{p:α→Bool}{l:List α}(h:l.all (fun x=>!p x)=true) : l.any p=false:=by
 rw [List.any_eq_false]
 intro x hx
 have:=List.all_eq_true.1 h x hx
 simpa using this
def rIf2(x:Rg)(l:List Rg) : Bool:=(l++[x]).all rOk
def rIf1(x:Rg)(l:List Rg) : Rg:=if rIf2 x l=true then x else ⟨0,0,0,0⟩
def rDiv2(x:Rg) : Bool:=rOk x&&rEven x
def rDiv1(x:Rg) : Rg:=if rDiv2 x=true then rHalf x else ⟨0,0,0,0⟩
theorem X0v{n lo hi:Int} : inR n lo hi=true↔lo≤n∧n≤hi:=by simp [inR]
theorem Xir{x:Rg} : rOk x=true↔(-1000000000≤x.a∧x.a≤1000000000)∧(-1000000000≤x.b∧x.b≤1000000000)∧(-1000000000≤x.c∧x.c≤1000000000)∧(-1000000000≤x.d∧x.d≤1000000000):=by
 simp only [rOk,Bool.and_eq_true,X0v,and_assoc]
def mulOm2(x:Rg)(k:Int) : Bool:=inR k (-1000) 1000&&rOk x
def mulOm1(x:Rg)(k:Int) : Rg:=if mulOm2 x k=true then rTurn x k else ⟨0,0,0,0⟩
def dOk(x:Dy) : Bool:=rOk x.num&&inR x.exp 0 60&&(x.exp==0||!rEven x.num)
theorem Xef{a b:Bool}(h:(!a||!b)=true) : (a&&b)=false:=by revert h;cases a<;>cases b<;>simp
theorem Xgg{a b:Bool}(h:(!a||!b)=false) : (a&&b)=true:=by revert h;cases a<;>cases b<;>simp
def dOf(x:Rg)(m:Int) : Option Dy:=if (rOk x&&inR m 0 60)=true then some (dLow x m) else none
def raiseI:Nat→Rg→Rg×Bool
 | 0,y=>(y,true)
 | n+1,y=>if rIf2 (rRoot y) [y]=true then raiseI n (rRoot y) else (⟨0,0,0,0⟩,false)
def dRaise(x:Dy)(m:Int) : Rg×Bool:=raiseI (m-x.exp).toNat x.num
def dAddI(x y:Dy) : Option Dy:=
 if (dOk x&&dOk y)=true then
  if ((dRaise x (max x.exp y.exp)).2&&(dRaise y (max x.exp y.exp)).2&&rIf2 (rAdd (dRaise x (max x.exp y.exp)).1 (dRaise y (max x.exp y.exp)).1) [(dRaise x (max x.exp y.exp)).1,(dRaise y (max x.exp y.exp)).1])=true then
   dOf (rIf1 (rAdd (dRaise x (max x.exp y.exp)).1 (dRaise y (max x.exp y.exp)).1) [(dRaise x (max x.exp y.exp)).1,(dRaise y (max x.exp y.exp)).1]) (max x.exp y.exp)
  else none
 else none
def dMulI(x y:Dy) : Option Dy:=
 if (dOk x&&dOk y&&rIf2 (rMul x.num y.num) [x.num,y.num])=true then dOf (rIf1 (rMul x.num y.num) [x.num,y.num]) (x.exp+y.exp) else none
structure Mx where (rows cols:Int) (cells:List Dy)
def mZ:Mx:=⟨0,0,[]⟩
abbrev mV(A:Option Addr)(c:Nat)(m:Mx) : Value:=.agg #[.int .i64 m.rows,.int .i64 m.cols,.slice A m.cells.length c]
def isDimB(n:Int) : Bool:=inR n 1 32&&bits .and .i64 n (wr (n-1))==0
def mOk(m:Mx) : Bool:=isDimB m.rows&&isDimB m.cols&&(m.cells.length:Int)==wr (m.rows*m.cols)&&!(m.cells.any fun x=>!dOk x)
def seqO(g:Nat→Option Dy) : Nat→Option (List Dy)
 | 0=>some []
 | n+1=>match seqO g n,g n with
  | some l,some x=>some (l++[x])
  | _,_=>none
def gridG(f:Nat→Nat→Option Dy)(C:Nat)(n:Nat) : Option Dy:=f (n/C) (n % C)
def matOf(R C:Int)(f:Nat→Nat→Option Dy) : Option Mx:=
 if (isDimB R&&isDimB C)=true then (seqO (gridG f C.toNat) (R.toNat*C.toNat)).map fun l=>⟨R,C,l⟩ else none
def Mx.at(m:Mx)(i j:Nat) : Dy:=m.cells.getD (i*m.cols.toNat+j) dZ
def dotI(a b:Mx)(i j:Nat) : Nat→Option Dy
 | 0=>some dZ
 | n+1=>(dotI a b i j n).bind fun s=>(dMulI (a.at i n) (b.at n j)).bind fun x=>dAddI s x
def mulI(a b:Mx) : Option Mx:=if (mOk a&&mOk b&&a.cols==b.rows)=true then matOf a.rows b.cols fun i j=>dotI a b i j a.cols.toNat else none
def idI(n:Int) : Option Mx:=matOf n n fun i j=>some (if i=j then ⟨⟨1,0,0,0⟩,0⟩ else dZ)
def scaleI(m:Mx)(x:Dy) : Option Mx:=if (mOk m&&dOk x)=true then matOf m.rows m.cols fun i j=>dMulI (m.at i j) x else none
theorem Xdy{P:Program}{t:TypeId}{fs:Array Field}(h:P.underlying t=some (.struct fs)) : P.fieldsOf t=fs:=by simp [Program.fieldsOf,h]
theorem X84{P:Program}{w:World}{t k:Nat}{xs:Array Value}{v:Value}(h1:OneT P t)(h:xs[k]? = some v) : (part t xs k).run P w=.ok v w:=by
 simp [part,X3x h1,h]
theorem X5p {P : Program} {w : World} {d : Nat} {xs ys : Array Value} {f : Field} {fs : List Field} {k : IntKind} {i j : Int} (hn : f.name ≠ "_") (hT : OneT P f.type) (hu : P.underlying f.type = some (.int k)) (hx : xs[f.offset]? = some (.int .i64 i)) (hy : ys[f.offset]? = some (.int .i64 j))
  {r:Bool} (h:i=j→(Op.eqFields (d+1) xs ys fs).run P w=.ok r w) : (Op.eqFields (d+1) xs ys (f::fs)).run P w=.ok (decide (i=j)&&r) w:=by
 simp only [Op.eqFields,hn,ne_eq,not_false_eq_true,if_true,Sem.run_bind,X84 hT hx,X84 hT hy,Result.andThen_ok,run_equalIn_int _ _ _ _ _ _ _ hu]
 by_cases hij:i=j
 ·subst hij
  simp [h rfl]
 ·simp [hij]
section
variable {P : Program} {a : Act} {w : World} {n : Nat} {e : Env} {ty : TypeId} {pos : String} {af : Array Edge} {g : Option (Nat × Bool)} {d : Option Tmp} {t t' : TypeId} {x y : Operand} {X Y : Array Value} {b : Bool}
theorem Xkc(hf:Fr a n e)(hx:ev e x=some (.agg X))(hy:ev e y=some (.agg Y))(hm:P.eqGuardType P.depth t=false)(he:∀ w,(Op.equalIn 10000 t (.agg X) (.agg Y)).run P w=.ok b w) : Ev P ⟨d,.binOp .neq t x y t',ty,pos,af,g⟩ a w (.bool (!b)):=fun w' _=>by
 have h1:=run_eqGuard_agg (P:=P) w' .neq t x y X Y hm;have h2:=run_neq_struct (P:=P) w' t X Y
 rw [he] at h2
 simp [execOp,hf.ev hx,hf.ev hy,h1,h2]
theorem Xom(hx:ev e x=some (.agg X))(hy:ev e y=some (.agg Y))(hm:P.eqGuardType P.depth t=false)(he:∀ w,(Op.equalIn 10000 t (.agg X) (.agg Y)).run P w=.ok b w) : EvW P ⟨d,.binOp .neq t x y t',ty,pos,af,g⟩ n e w (.bool (!b)):=fun a hf=>Xkc hf hx hy hm he
end
theorem Xh2{α:Type}{l m:List α}{k:Nat}{u v:α}(h:l.take k=m.take k)(hu:l[k]? = some u)(hv:m[k]? = some v)(he:u=v) : l.take (k+1)=m.take (k+1):=by
 rw [List.take_add_one,List.take_add_one,h,hu,hv,he]
theorem Xlw{P:Program}{a:Act}{w:World}{n:Nat}{e:Env}{ty:TypeId}{pos:String}{af:Array Edge}{g:Option (Nat×Bool)}{d:Option Tmp}{s t:TypeId}{x:Operand}{i:Int}{m:Nat}(hs:P.underlying s=some (.int .i64))(ht:P.underlying t=some (.int .u64))(hf:Fr a n e)(hx:ev e x=some (.int .i64 i))(hi:i=(m:Int))(hm:m≤64) :
  Ev P ⟨d,.convert s t x,ty,pos,af,g⟩ a w (.int .u64 (m:Int)):=fun w' _=>by
 subst hi
 have h:IntKind.u64.wrap (m:Int)=(m:Int):=by
  simp only [IntKind.wrap]
  simp only [IntKind.bits,IntKind.signed,Bool.false_and,Bool.false_eq_true,if_false]
  omega
 simp [execOp,hf.ev hx,convert,Xr hs,Xr ht,Conv.intToInt,h]
theorem X45{P:Program}{w:World}{n:Nat}{e:Env}{ty:TypeId}{pos:String}{af:Array Edge}{g:Option (Nat×Bool)}{d:Option Tmp}{s t:TypeId}{x:Operand}{i:Int}{m:Nat}(hs:P.underlying s=some (.int .i64))(ht:P.underlying t=some (.int .u64))(hx:ev e x=some (.int .i64 i))(hi:i=(m:Int))(hm:m≤64) : EvW P ⟨d,.convert s t x,ty,pos,af,g⟩ n e w (.int .u64 (m:Int)):=fun a hf=>Xlw hs ht hf hx hi hm
def bitF(n s q:Int) : Int:=bits .and .i64 (s/2^(n-1-q).toNat) 1
def flipF(n s q:Int) : Int:=bits .xor .i64 s (wr (1*2^(n-1-q).toNat))
def turnOf(k:Int) : Int:=if k=4 then 4 else if k=5 then 2 else if k=6 then 6 else if k=7 then 1 else 7
def dHalf:Dy:=⟨⟨1,0,0,0⟩,1⟩
def oneL(k:Int) : List Dy:=
 if k=1 then [dHalf,dHalf,dHalf,dNeg dHalf] else if k=2 then [dZ,dPow 0,dPow 0,dZ] else if k=3 then [dZ,dPow 6,dPow 2,dZ] else [dPow 0,dZ,dZ,dPow (turnOf k)]
theorem Own.of_blkL{α:Type}{w:World}{B0 b k:Nat}{E:TypeId}{sz:Nat}{enc:α→List Value}{cs:List Value}{l:List α}(hsz:∀ x,(enc x).length=sz)(h:Blk w b E cs)(hb:B0≤b)(hc:l.flatMap enc=cs)(hl:l.length=k)(hk:k≤maxLen) : Own w B0 E sz enc (some ⟨b,0,none⟩) k l:=by
 subst hc;subst hl
 have h1:=Xj hsz l
 refine ⟨h1,.inr ⟨b,l.length,_,rfl,hb,h,Nat.le_refl _,hk,?_,?_⟩⟩
 ·simpa using h1
 ·rw [← h1];exact List.take_length
structure Cx where (n:Int) (gs:List Gt)
def gOk(n:Int)(x:Gt) : Bool:=
 inR n 1 5&&inR x.k 1 12&&(if x.k=12 then x.a==0&&x.b==0 else if inR x.k 9 11=true then inR x.a 0 (n-1)&&inR x.b 0 (n-1)&&x.a != x.b else inR x.a 0 (n-1)&&x.b==0)
def cOk(c:Cx) : Bool:=inR c.n 1 5&&decide ((c.gs.length:Int)≤400)&&!(c.gs.any fun x=>!gOk c.n x)
def eqPhT(p q:Mx)(k:Nat) : Bool:=(scaleI q (dPow k)).isSome&&(decide (p.rows=((scaleI q (dPow k)).getD mZ).rows)&&decide (p.cols=((scaleI q (dPow k)).getD mZ).cols)&&decide (p.cells=((scaleI q (dPow k)).getD mZ).cells))
def eqPh(p q:Mx) : Bool:=(List.range 8).any (eqPhT p q)
def sRing(x:Rg) : Rg:=if rOk x=true then x else ⟨0,0,0,0⟩
def sRaiseN:Nat→Bool→Dy→Bool×Dy
 | 0,f,x=>(f,x)
 | n+1,f,x=>sRaiseN n (f||!rOk (rRoot x.num)) ⟨sRing (rRoot x.num),x.exp+1⟩
def sAdd(f:Bool)(x y:Dy) : Bool×Dy:=
 ((sRaiseN ((sRaiseN (y.exp-x.exp).toNat f x).2.exp-y.exp).toNat (sRaiseN (y.exp-x.exp).toNat f x).1 y).1||!rOk (rAdd (sRaiseN (y.exp-x.exp).toNat f x).2.num (sRaiseN ((sRaiseN (y.exp-x.exp).toNat f x).2.exp-y.exp).toNat (sRaiseN (y.exp-x.exp).toNat f x).1 y).2.num),
 dLow (sRing (rAdd (sRaiseN (y.exp-x.exp).toNat f x).2.num (sRaiseN ((sRaiseN (y.exp-x.exp).toNat f x).2.exp-y.exp).toNat (sRaiseN (y.exp-x.exp).toNat f x).1 y).2.num)) (sRaiseN (y.exp-x.exp).toNat f x).2.exp)
def sMul(f:Bool)(x y:Dy) : Bool×Dy:=
 if 60<x.exp+y.exp then (true,dZ) else (f||!rOk (rMul x.num y.num),dLow (sRing (rMul x.num y.num)) (x.exp+y.exp))
def toS(n:Int)(g:Gt)(col:Int) : Int:=
 if g.k=9 then (if bitF n col g.a=1 then flipF n col g.b else col) else if g.k=11 then (if bitF n col g.a≠bitF n col g.b then flipF n (flipF n col g.a) g.b else col) else col
def valS(n:Int)(g:Gt)(col:Int) : Dy:=if g.k=12 then dPow 1 else if g.k=10∧bitF n col g.a=1∧bitF n col g.b=1 then dPow 4 else dPow 0
def cellS(n:Int)(g:Gt)(row col:Int) : Dy:=
 if g.k≤8 then (if bits .andNot .i64 (bits .xor .i64 row col) (wr (1*2^(n-1-g.a).toNat))≠0 then dZ else (oneL g.k).getD (2*bitF n row g.a+bitF n col g.a).toNat dZ)
 else if row=toS n g col then valS n g col else dZ
theorem Xj3{P:Program}{a:Act}{w:World}{n:Nat}{e:Env}{ty:TypeId}{pos:String}{af:Array Edge}{g:Option (Nat×Bool)}{d:Option Tmp}{t t':TypeId}{x y:Operand}{j:Int}{k:IntKind}{m D:Nat}(hf:Fr a n e)(hx:ev e x=some (.int .i64 1))(hy:ev e y=some (.int k j))(hj:j=(m:Int))(hD:D=2^m∧m≤30) : Ev P ⟨d,.binOp .shl t x y t',ty,pos,af,g⟩ a w (.int .i64 (D:Int)):=by
 have h:=Xgn (P:=P) (w:=w) (d:=d) (ty:=ty) (pos:=pos) (af:=af) (g:=g) (t:=t) (t':=t') (i:=1) hf hx hy hj (by omega)
 have h2:IntKind.i64.wrap (1*2^m)=(D:Int):=by
  rw [hD.1]
  have h3:(2:Nat)^m≤2^30:=Nat.pow_le_pow_right (by decide) hD.2
  have h4:(2:Int)^m=((2^m:Nat) : Int):=by simp
  rw [Int.one_mul,h4]
  exact IntWalk.i64_in _ ⟨by omega,by omega⟩
 rwa [h2] at h
theorem Xkm{P:Program}{w:World}{n:Nat}{e:Env}{ty:TypeId}{pos:String}{af:Array Edge}{g:Option (Nat×Bool)}{d:Option Tmp}{t t':TypeId}{x y:Operand}{j:Int}{k:IntKind}{m D:Nat}(hx:ev e x=some (.int .i64 1))(hy:ev e y=some (.int k j))(hj:j=(m:Int))(hD:D=2^m∧m≤30) : EvW P ⟨d,.binOp .shl t x y t',ty,pos,af,g⟩ n e w (.int .i64 (D:Int)):=fun a hf=>Xj3 hf hx hy hj hD
def gridF(f:Nat→Nat→Dy)(C:Nat)(m:Nat) : Dy:=f (m/C) (m % C)
def gridL(f:Nat→Nat→Dy)(C:Nat)(N:Nat) : List Dy:=(List.range N).map (gridF f C)
def gateS(n:Int)(g:Gt) : Mx:=⟨((2^n.toNat:Nat) : Int),((2^n.toNat:Nat) : Int),gridL (fun i j=>cellS n g i j) (2^n.toNat) (2^n.toNat*2^n.toNat)⟩
def dTurn(k:Int)(x:Dy) : Dy:=⟨rTurn x.num k,x.exp⟩
def turnedS(p q:Mx)(k:Int) : Bool:=decide (p.rows=q.rows)&&decide (p.cols=q.cols)&&decide (p.cells=q.cells.map (dTurn k))
def phaseS(p q:Mx) : Bool:=(List.range 8).any fun k=>turnedS p q (k:Int)
section
variable {n : Int} {g : Gt} (hn : 1 ≤ n ∧ n ≤ 5)
include hn
theorem Xqj(h:inR g.k 1 8=true) : gOk n g=(inR g.a 0 (n-1)&&g.b==0):=by
 have h1:=X0v.1 h
 have e1:inR n 1 5=true:=X0v.2 hn
 have e2:inR g.k 1 12=true:=X0v.2 (by omega)
 have e3:¬ inR g.k 9 11=true:=fun h=>by have:=X0v.1 h;omega
 rw [gOk,e1,e2,if_neg (by omega),if_neg e3];rfl
theorem Xqv(h:inR g.k 9 11=true) : gOk n g=(inR g.a 0 (n-1)&&inR g.b 0 (n-1)&&g.a != g.b):=by
 have h1:=X0v.1 h
 have e1:inR n 1 5=true:=X0v.2 hn
 have e2:inR g.k 1 12=true:=X0v.2 (by omega)
 rw [gOk,e1,e2,if_neg (by omega),if_pos h];rfl
theorem Xqk(h1:inR g.k 1 8=false)(h2:inR g.k 9 11=false) : gOk n g=(g.k==12&&g.a==0&&g.b==0):=by
 have e1:inR n 1 5=true:=X0v.2 hn
 by_cases hk:g.k=12
 ·have e2:inR g.k 1 12=true:=X0v.2 (by omega)
  rw [gOk,e1,e2,if_pos hk,hk];rfl
 ·have e2:inR g.k 1 12=false:=by
   cases h:inR g.k 1 12 with
   | false=>rfl
   | true=>
    have h3:=X0v.1 h
    rcases (show g.k<9∨9≤g.k by omega) with h4|h4
    ·rw [X0v.2 (by omega)] at h1;cases h1
    ·rw [X0v.2 (by omega)] at h2;cases h2
  have e3:(g.k==12)=false:=by simpa using hk
  rw [gOk,e1,e2,e3];rfl
end
def entryI(k i j:Int) : Dy:=
 if k=1 then (if i=1∧j=1 then ⟨⟨-1,0,0,0⟩,1⟩ else dHalf) else if k=2∧i≠j then ⟨⟨1,0,0,0⟩,0⟩ else if k=3∧i≠j then dPow (2+4*j)
 else if k=2∨k=3∨i≠j then dZ else if i=0 then ⟨⟨1,0,0,0⟩,0⟩ else dPow (turnOf k)
def czI(n:Int)(g:Gt)(i:Int) : Bool:=g.k==10&&bitF n i g.a==1&&bitF n i g.b==1
def cellI(n:Int)(g:Gt)(i j:Int) : Dy:=
 if g.k=12 then (if i=j then dPow 1 else dZ)
 else if inR g.k 9 11=true then (if toS n g i=j then dPow (4*(if czI n g i=true then 1 else 0)) else dZ)
 else if i=j∨flipF n i g.a=j then entryI g.k (bitF n i g.a) (bitF n j g.a) else dZ
def gateI(n:Int)(g:Gt) : Option Mx:=if gOk n g=true then matOf ((2^n.toNat:Nat) : Int) ((2^n.toNat:Nat) : Int) fun i j=>some (cellI n g i j) else none
theorem F91(w0:World)(n:Int)(lo:Int)(hi:Int) : Ret Tryz.prog 62 [vi n,vi lo,vi hi] w0 (fun v w=>v=.bool (inR n lo hi)∧w0=w):=by
 refine enter Tryz.func62 rfl 15 rfl rfl ?_;intro a hf
 have hW:Below w0.heap.size w0 w0:=Below.refl _ _
 refine Zs hf fun _ hK1=>?_;refine Za rfl ?_;refine Zt hK1 fun a hf=>?_;refine wp_seq_k fun _ hK2=>?_;refine X0u (fun a w=>Fr a 15 [(6,.bool ((decide (lo≤n))&&(decide (n≤hi))))]∧w0=w) ?_ ?_
 ·refine Zr hf ?_;refine Zm rfl<|Zm rfl<|Ze (Xhp rfl rfl)<|Zm rfl ?_
  refine Zg 10 rfl (fun hg3=>?_) (fun hg3=>?_)
  ·refine Zv ⟨_,_,rfl,rfl,hg3⟩ (Xa rfl) ?_;refine Zv ⟨_,_,rfl,rfl,hg3⟩ (Xa rfl) ?_;refine Zv ⟨_,_,rfl,rfl,hg3⟩ (Xhp rfl rfl) ?_;refine Ze (Xb rfl hg3 rfl)<|Za rfl ?_;refine Zn fun a hf=>?_;exact ⟨hf.sub ⟨X1 rfl (by first|rfl|(simp only [hg3,bs];done)|simp [hg3]),trivial⟩,rfl⟩
  refine Zp ⟨_,_,rfl,rfl,hg3⟩ ?_;refine Zp ⟨_,_,rfl,rfl,hg3⟩ ?_;refine Zp ⟨_,_,rfl,rfl,hg3⟩ ?_;refine Ze (Xo rfl hg3 rfl)<|Za rfl ?_;refine Zn fun a hf=>?_;exact ⟨hf.sub ⟨X1 rfl (by first|rfl|(simp only [hg3,bs];done)|simp [hg3]),trivial⟩,rfl⟩
 rintro a _ ⟨hf,rfl⟩;refine hK2 _ _ ?_
 refine wp_ret (X4 hf (X01 hf rfl rfl) ?_)
 exact ⟨by simp [inR, *],rfl⟩
theorem F85(w0:World)(n:Int)(lo:Int)(hi:Int) : Ret Tryz.prog 66 [vi n,vi lo,vi hi] w0 (fun v w=>v=.bool (inR n lo hi)∧w0=w):=by
 refine enter Tryz.func66 rfl 15 rfl rfl ?_;intro a hf
 have hW:Below w0.heap.size w0 w0:=Below.refl _ _
 refine Zs hf fun _ hK1=>?_;refine Za rfl ?_;refine Zt hK1 fun a hf=>?_;refine wp_seq_k fun _ hK2=>?_;refine X0u (fun a w=>Fr a 15 [(6,.bool ((decide (lo≤n))&&(decide (n≤hi))))]∧w0=w) ?_ ?_
 ·refine Zr hf ?_;refine Zm rfl<|Zm rfl<|Ze (Xa0 rfl rfl)<|Zm rfl ?_
  refine Zg 10 rfl (fun hg3=>?_) (fun hg3=>?_)
  ·refine Zv ⟨_,_,rfl,rfl,hg3⟩ (Xa rfl) ?_;refine Zv ⟨_,_,rfl,rfl,hg3⟩ (Xa rfl) ?_;refine Zv ⟨_,_,rfl,rfl,hg3⟩ (Xhp rfl rfl) ?_;refine Ze (Xb rfl hg3 rfl)<|Za rfl ?_;refine Zn fun a hf=>?_;exact ⟨hf.sub ⟨X1 rfl (by first|rfl|(simp only [hg3,bs];done)|simp [hg3]),trivial⟩,rfl⟩
  refine Zp ⟨_,_,rfl,rfl,hg3⟩ ?_;refine Zp ⟨_,_,rfl,rfl,hg3⟩ ?_;refine Zp ⟨_,_,rfl,rfl,hg3⟩ ?_;refine Ze (Xo rfl hg3 rfl)<|Za rfl ?_;refine Zn fun a hf=>?_;exact ⟨hf.sub ⟨X1 rfl (by first|rfl|(simp only [hg3,bs];done)|simp [hg3]),trivial⟩,rfl⟩
 rintro a _ ⟨hf,rfl⟩;refine hK2 _ _ ?_
 refine wp_ret (X4 hf (X01 hf rfl rfl) ?_)
 exact ⟨by simp [inR, *],rfl⟩
theorem F99(w0:World)(k:Int) : Ret Tryz.prog 138 [vi k] w0 (fun v w=>v=.bool (inR k 9 11)∧w0=w):=by
 refine enter Tryz.func138 rfl 5 rfl rfl ?_;intro a hf
 have hW:Below w0.heap.size w0 w0:=Below.refl _ _
 refine Zs hf fun _ hK1=>?_;refine Za rfl ?_;refine Zt hK1 fun a hf=>?_;refine Zs hf fun _ hK2=>?_;refine Zm rfl ?_;refine Zf (Vc (F91 _ k 9 11) X3j) ?_;rintro _ _ ⟨rfl,rfl⟩;refine Za rfl ?_;refine Zt hK2 fun a hf=>?_
 refine wp_ret (X4 hf (X01 hf rfl rfl) ?_)
 exact ⟨rfl,rfl⟩
theorem Xpb(w0:World)(n:Int)(x:Gt) : Ret Tryz.prog 103 [vi n,.agg #[vi x.k,vi x.a,vi x.b]] w0 (fun v w=>v=.bool (gOk n x)∧Below w0.heap.size w0 w):=by
 refine enter Tryz.func103 rfl 60 rfl rfl ?_;intro a hf
 have hW:Below w0.heap.size w0 w0:=Below.refl _ _
 refine Zs hf fun _ hK1=>?_;refine Zf (X0t (zs:=[vi x.k,vi x.a,vi x.b]) rfl rfl) ?_;rintro _ w1 ⟨b2,rfl,hl2,hE,hB2⟩;have hlo2:=Nat.le_trans hW.size hl2;replace hW:=btr hW hE;refine Za rfl ?_;refine Zt hK1 fun a hf=>?_;refine wp_seq_k fun _ hK3=>?_;refine wp_block ?_;refine wp_seq_k fun _ hK4=>?_;refine X0u (fun a w=>Fr a 60 [(0,vi n),(3,.pointer (some ⟨b2,0,none⟩)),(5,.bool ((!(inR n 1 5))||(!(inR x.k 1 12))))]∧w1=w) ?_ ?_
 ·refine Zr hf ?_;refine Zm rfl ?_;refine Zf (Vc (F91 _ n 1 5) X3j) ?_;rintro _ _ ⟨rfl,rfl⟩;refine Ze (X1d rfl)<|Zm rfl ?_
  refine Zg 9 rfl (fun hg5=>?_) (fun hg5=>?_)
  ·refine Zp ⟨_,_,rfl,rfl,hg5⟩ ?_;refine Zp ⟨_,_,rfl,rfl,hg5⟩ ?_;refine Zp ⟨_,_,rfl,rfl,hg5⟩ ?_;refine Zp ⟨_,_,rfl,rfl,hg5⟩ ?_;refine Ze (Xb rfl hg5 rfl)<|Za rfl ?_;refine Zn fun a hf=>?_;exact ⟨hf.sub ⟨rfl,rfl,X1 rfl (by first|rfl|(simp only [hg5,bs];done)|simp [hg5]),trivial⟩,rfl⟩
  refine Zv ⟨_,_,rfl,rfl,hg5⟩ (Vd rfl X0c 0) ?_;refine Zv ⟨_,_,rfl,rfl,hg5⟩ (X0 rfl X2 (hB2.at 0)) ?_;refine Zk ⟨_,_,rfl,rfl,hg5⟩ (Vc (F91 _ x.k 1 12) X3j) ?_;rintro _ _ ⟨rfl,rfl⟩;refine Zv ⟨_,_,rfl,rfl,hg5⟩ (X1d rfl) ?_;refine Ze (Xo rfl hg5 rfl)<|Za rfl ?_;refine Zn fun a hf=>?_;exact ⟨hf.sub ⟨rfl,rfl,X1 rfl (by first|rfl|(simp only [hg5,bs];done)|simp [hg5]),trivial⟩,rfl⟩
 rintro a _ ⟨hf,rfl⟩;refine hK4 _ _ ?_
 refine X9 hf rfl (fun hc6=>?_) (fun hc6=>?_)
 ·have hc6b:=hc6;have hn:=Xef hc6;refine Zs hf fun _ hK7=>?_;refine Za rfl ?_;refine Zt hK7 fun a hf=>?_;refine wp_ret ?_;refine Xm ?_;refine X3 ?_;refine X4 hf (X01 hf rfl rfl) ?_;exact ⟨by rw [gOk,hn];rfl,hW⟩
 have hc6b:=hc6;have hy:=Xgg hc6;have hy2:=(Bool.and_eq_true _ _▸hy:inR n 1 5=true∧inR x.k 1 12=true);have hnn:=X0v.1 hy2.1;refine Zs hf fun _ hK8=>?_;refine Ze (Vd rfl X0c 0)<|Ze (X0 rfl X2 (hB2.at 0))<|Ze (X0g rfl rfl)<|Za rfl ?_;refine Zt hK8 fun a hf=>?_
 refine X9 hf rfl (fun hc9=>?_) (fun hc9=>?_)
 ·have hc9b:=hc9
  have hk:x.k=12:=by simpa using hc9
  refine wp_seq_k fun _ hK10=>?_;refine X0u (fun a w=>Fr a 60 [(4,.bool ((x.a==0)&&(x.b==0)))]∧w1=w) ?_ ?_
  ·refine Zr hf ?_;refine Ze (Vd rfl X0y 1)<|Ze (X0 rfl X2 (hB2.at 1))<|Ze (X0g rfl rfl)<|Zm rfl ?_
   refine Zg 22 rfl (fun hg11=>?_) (fun hg11=>?_)
   ·refine Zv ⟨_,_,rfl,rfl,hg11⟩ (Vd rfl X10 2) ?_;refine Zv ⟨_,_,rfl,rfl,hg11⟩ (X0 rfl X2 (hB2.at 2)) ?_;refine Zv ⟨_,_,rfl,rfl,hg11⟩ (X0g rfl rfl) ?_;refine Ze (Xb rfl hg11 rfl)<|Za rfl ?_;refine Zn fun a hf=>?_;exact ⟨hf.sub ⟨X1 rfl (by first|rfl|(simp only [hc6b,hc9b,hg11,bs];done)|simp [hc6b,hc9b,hg11]),trivial⟩,rfl⟩
   refine Zp ⟨_,_,rfl,rfl,hg11⟩ ?_;refine Zp ⟨_,_,rfl,rfl,hg11⟩ ?_;refine Zp ⟨_,_,rfl,rfl,hg11⟩ ?_;refine Ze (Xo rfl hg11 rfl)<|Za rfl ?_;refine Zn fun a hf=>?_;exact ⟨hf.sub ⟨X1 rfl (by first|rfl|(simp only [hc6b,hc9b,hg11,bs];done)|simp [hc6b,hc9b,hg11]),trivial⟩,rfl⟩
  rintro a _ ⟨hf,rfl⟩;refine hK10 _ _ ?_;refine wp_ret ?_;refine Xm ?_;refine X3 ?_;refine X4 hf (X01 hf rfl rfl) ?_;exact ⟨by rw [gOk,hy,if_pos hk,Bool.true_and],hW⟩
 have hc9b:=hc9
 have hk:¬ x.k=12:=by simpa using hc9
 refine Zs hf fun _ hK12=>?_;refine Ze (Vd rfl X0c 0)<|Ze (X0 rfl X2 (hB2.at 0)) ?_;refine Zf (Vc (F99 _ x.k) Xpv) ?_;rintro _ _ ⟨rfl,rfl⟩;refine Za rfl ?_;refine Zt hK12 fun a hf=>?_
 refine X9 hf rfl (fun hc13=>?_) (fun hc13=>?_)
 ·have hc13b:=hc13;have hk2:=hc13;refine wp_seq_k fun _ hK14=>?_;refine X0u (fun a w=>Fr a 60 [(4,.bool (((inR x.a 0 (n-1))&&(inR x.b 0 (n-1)))&&(x.a != x.b)))]∧w1=w) ?_ ?_
  ·refine Zr hf ?_;refine Ze (Vd rfl X0y 1)<|Ze (X0 rfl X2 (hB2.at 1))<|Zm rfl<|Ze (X16 rfl rfl (by omega) (by omega)) ?_;refine Zf (Vc (F91 _ x.a 0 (n-1)) X3j) ?_;rintro _ _ ⟨rfl,rfl⟩;refine Zm rfl ?_
   refine Zg 36 rfl (fun hg15=>?_) (fun hg15=>?_)
   ·refine Zv ⟨_,_,rfl,rfl,hg15⟩ (Vd rfl X10 2) ?_;refine Zv ⟨_,_,rfl,rfl,hg15⟩ (X0 rfl X2 (hB2.at 2)) ?_;refine Zv ⟨_,_,rfl,rfl,hg15⟩ (Xa rfl) ?_;refine Zv ⟨_,_,rfl,rfl,hg15⟩ (X16 rfl rfl (by omega) (by omega)) ?_;refine Zk ⟨_,_,rfl,rfl,hg15⟩ (Vc (F91 _ x.b 0 (n-1)) X3j) ?_;rintro _ _ ⟨rfl,rfl⟩;refine Ze (Xb rfl hg15 rfl)<|Zm rfl ?_
    refine Zg 43 rfl (fun hg16=>?_) (fun hg16=>?_)
    ·refine Zv ⟨_,_,rfl,rfl,hg16⟩ (Vd rfl X0y 1) ?_;refine Zv ⟨_,_,rfl,rfl,hg16⟩ (X0 rfl X2 (hB2.at 1)) ?_;refine Zv ⟨_,_,rfl,rfl,hg16⟩ (Vd rfl X10 2) ?_;refine Zv ⟨_,_,rfl,rfl,hg16⟩ (X0 rfl X2 (hB2.at 2)) ?_;refine Zv ⟨_,_,rfl,rfl,hg16⟩ (X3k rfl rfl) ?_;refine Ze (Xb rfl hg16 rfl)<|Za rfl ?_;refine Zn fun a hf=>?_;exact ⟨hf.sub ⟨X1 rfl (by first|rfl|(simp only [hc6b,hc9b,hc13b,hg15,hg16,bs];done)|simp [hc6b,hc9b,hc13b,hg15,hg16]),trivial⟩,rfl⟩
    refine Zp ⟨_,_,rfl,rfl,hg16⟩ ?_;refine Zp ⟨_,_,rfl,rfl,hg16⟩ ?_;refine Zp ⟨_,_,rfl,rfl,hg16⟩ ?_;refine Zp ⟨_,_,rfl,rfl,hg16⟩ ?_;refine Zp ⟨_,_,rfl,rfl,hg16⟩ ?_;refine Ze (Xo rfl hg16 rfl)<|Za rfl ?_;refine Zn fun a hf=>?_;exact ⟨hf.sub ⟨X1 rfl (by first|rfl|(simp only [hc6b,hc9b,hc13b,hg15,hg16,bs];done)|simp [hc6b,hc9b,hc13b,hg15,hg16]),trivial⟩,rfl⟩
   refine Zp ⟨_,_,rfl,rfl,hg15⟩ ?_;refine Zp ⟨_,_,rfl,rfl,hg15⟩ ?_;refine Zp ⟨_,_,rfl,rfl,hg15⟩ ?_;refine Zp ⟨_,_,rfl,rfl,hg15⟩ ?_;refine Zp ⟨_,_,rfl,rfl,hg15⟩ ?_;refine Ze (Xo rfl hg15 rfl)<|Zm rfl<|Zp ⟨_,_,rfl,rfl,rfl⟩ ?_;refine Zp ⟨_,_,rfl,rfl,rfl⟩ ?_;refine Zp ⟨_,_,rfl,rfl,rfl⟩ ?_;refine Zp ⟨_,_,rfl,rfl,rfl⟩ ?_;refine Zp ⟨_,_,rfl,rfl,rfl⟩ ?_;refine Ze (Xo rfl rfl rfl)<|Za rfl ?_;refine Zn fun a hf=>?_;exact ⟨hf.sub ⟨X1 rfl (by first|rfl|(simp only [hc6b,hc9b,hc13b,hg15,bs];done)|simp [hc6b,hc9b,hc13b,hg15]),trivial⟩,rfl⟩
  rintro a _ ⟨hf,rfl⟩;refine hK14 _ _ ?_;refine wp_ret ?_;refine Xm ?_;refine X3 ?_;refine X4 hf (X01 hf rfl rfl) ?_;exact ⟨by rw [gOk,hy,if_neg hk,if_pos hk2,Bool.true_and],hW⟩
 have hc13b:=hc13
 have hk2:¬ inR x.k 9 11=true:=by rw [hc13];simp
 refine wp_skip ?_;refine X5 ?_;refine hK3 _ _ ?_;refine wp_seq_k fun _ hK17=>?_;refine X0u (fun a w=>Fr a 60 [(4,.bool ((inR x.a 0 (n-1))&&(x.b==0)))]∧w1=w) ?_ ?_
 ·refine Zr hf ?_;refine Ze (Vd rfl X0y 1)<|Ze (X0 rfl X2 (hB2.at 1))<|Zm rfl<|Ze (X16 rfl rfl (by omega) (by omega)) ?_;refine Zf (Vc (F91 _ x.a 0 (n-1)) X3j) ?_;rintro _ _ ⟨rfl,rfl⟩;refine Zm rfl ?_
  refine Zg 55 rfl (fun hg18=>?_) (fun hg18=>?_)
  ·refine Zv ⟨_,_,rfl,rfl,hg18⟩ (Vd rfl X10 2) ?_;refine Zv ⟨_,_,rfl,rfl,hg18⟩ (X0 rfl X2 (hB2.at 2)) ?_;refine Zv ⟨_,_,rfl,rfl,hg18⟩ (X0g rfl rfl) ?_;refine Ze (Xb rfl hg18 rfl)<|Za rfl ?_;refine Zn fun a hf=>?_;exact ⟨hf.sub ⟨X1 rfl (by first|rfl|(simp only [hc6b,hc9b,hc13b,hg18,bs];done)|simp [hc6b,hc9b,hc13b,hg18]),trivial⟩,rfl⟩
  refine Zp ⟨_,_,rfl,rfl,hg18⟩ ?_;refine Zp ⟨_,_,rfl,rfl,hg18⟩ ?_;refine Zp ⟨_,_,rfl,rfl,hg18⟩ ?_;refine Ze (Xo rfl hg18 rfl)<|Za rfl ?_;refine Zn fun a hf=>?_;exact ⟨hf.sub ⟨X1 rfl (by first|rfl|(simp only [hc6b,hc9b,hc13b,hg18,bs];done)|simp [hc6b,hc9b,hc13b,hg18]),trivial⟩,rfl⟩
 rintro a _ ⟨hf,rfl⟩;refine hK17 _ _ ?_
 refine wp_ret (X4 hf (X01 hf rfl rfl) ?_)
 exact ⟨by rw [gOk,hy,if_neg hk,if_neg hk2,Bool.true_and],hW⟩
theorem Xq8(w0:World)(Al:Option Addr)(cl:Nat)(l:List Gt)(hr_l:Rd w0 w0.heap.size 114 encG Al l)(kq:FuncId)(pq:List Value)(Fq:FuncF Tryz.prog kq)(q:Gt→Bool)(hq:∀ x w,Below w0.heap.size w0 w→Ret Tryz.prog kq ([gV x]++pq) w (fun v w'=>v=.bool (q x)∧Below w.heap.size w w'))(hln:l.length≤2305843009213693951) : Ret Tryz.prog 137 [.slice Al l.length cl,.func (.func kq) #[] pq.toArray] w0 (fun v w=>∃ i:Int,v=vi i∧decide (0≤i)=l.any q∧Below w0.heap.size w0 w):=by
 refine enter Tryz.func137 rfl 19 rfl rfl ?_;intro a hf
 have hW:Below w0.heap.size w0 w0:=Below.refl _ _
 refine Zs hf fun _ hK2=>?_;refine Za rfl ?_;refine Zt hK2 fun a hf=>?_;refine wp_seq_k fun _ hK3=>?_;refine Zs hf fun _ hK4=>?_;refine Zm rfl<|Ze (X0x rfl X13)<|Zm rfl ?_;refine Zt hK4 fun a hf=>?_;refine wp_block ?_;refine Xx (σ:=Nat) (fun (k:Nat) (a:Act) (w:World)=>Fr a 19 [(0,.slice Al l.length cl),(1,.func (.func kq) #[] pq.toArray),(7,vi (l.length:Int)),(8,vi (k:Int))]∧(k≤l.length)∧((l.take k).all (fun x=>!q x)=true)∧Below w0.heap.size w0 w) (fun (k:Nat)=>l.length+1-k) 0 ?_ ?_
 ·exact ⟨hf.sub ⟨rfl,rfl,rfl,rfl,trivial⟩,(Nat.zero_le _),(by simp),hW⟩
 rintro k a w1 ⟨hf,hk,hpre,hW⟩;refine Zs hf fun _ hK5=>?_;refine Ze (X1a rfl rfl) ?_;refine Zt hK5 fun a hf=>?_;refine wp_seq_k fun _ hK6=>?_
 refine X9 hf rfl (fun hc7=>?_) (fun hc7=>?_)
 ·have hc7b:=hc7;have hc7:=of_decide_eq_true hc7
  obtain ⟨u8,hu8⟩:=Xf (l:=l) (k:=k) (by omega)
  refine wp_skip ?_;refine hK6 _ _ ?_;refine wp_seq_k fun _ hK9=>?_;refine wp_block ?_;refine Zs hf fun _ hK10=>?_;refine Zm rfl<|Za rfl ?_;refine Zt hK10 fun a hf=>?_;refine Zs hf fun _ hK11=>?_;refine Zm rfl<|Zm rfl<|Zm rfl ?_;refine Zi (k:=k) (u:=u8) (enc:=encG) (l:=l) trivial rfl rfl X13 X14 X0w (hr_l.below' hW) hu8 rfl ?_;intro p13 hat12;refine Ze (X07 (l:=[vi u8.k,vi u8.a,vi u8.b]) rfl X0f hat12 rfl) ?_;refine Zf (Xfq (cs:=pq) (vs:=[.agg #[vi u8.k,vi u8.a,vi u8.b]]) rfl rfl Fq (hq u8 _ hW)) ?_;rintro _ w2 ⟨rfl,hE⟩;replace hW:=btr hW hE;refine Zt hK11 fun a hf=>?_
  refine X9 hf rfl (fun hc14=>?_) (fun hc14=>?_)
  ·have hc14b:=hc14
   have hb2:l.any q=true:=X7n hu8 hc14
   refine Zs hf fun _ hK15=>?_;refine Zm rfl<|Za rfl ?_;refine Zt hK15 fun a hf=>?_;refine wp_ret ?_;refine Xm ?_;refine X3 ?_;refine X3 ?_;refine Xm ?_;refine X3 ?_;refine X4 hf (X01 hf rfl rfl) ?_;exact ⟨_,rfl,by rw [hb2];simp,hW⟩
  have hc14b:=hc14
  have hok:(!q u8)=true:=by revert hc14;cases q u8<;>simp
  refine wp_skip ?_;refine X5 ?_;refine hK9 _ _ ?_;refine Zr hf ?_;refine Ze (Xu rfl rfl (by omega) (by omega))<|Zm rfl ?_;refine Zn fun a hf=>?_;refine X8 ?_;exact ⟨k+1,⟨hf.sub ⟨rfl,rfl,rfl,rfl,trivial⟩,(by omega),(X4u hpre hu8 hok),hW⟩,(by omega)⟩
 have hc7b:=hc7;have hc7:=of_decide_eq_false hc7;refine wp_exit ?_;refine Xh ?_;refine Xh ?_;refine Xt ?_;refine hK3 _ _ ?_;refine Zs hf fun _ hK16=>?_;refine Za rfl ?_;refine Zt hK16 fun a hf=>?_
 refine wp_ret (X4 hf (X01 hf rfl rfl) ?_)
 have hb2:l.any q=false:=X66 (X44 hpre (by omega))
 exact ⟨_,rfl,by rw [hb2];rfl,hW⟩
theorem Xql(w0:World)(Al:Option Addr)(cl:Nat)(l:List Gt)(hr_l:Rd w0 w0.heap.size 114 encG Al l)(kq:FuncId)(pq:List Value)(Fq:FuncF Tryz.prog kq)(q:Gt→Bool)(hq:∀ x w,Below w0.heap.size w0 w→Ret Tryz.prog kq ([gV x]++pq) w (fun v w'=>v=.bool (q x)∧Below w.heap.size w w'))(hln:l.length≤2305843009213693951) : Ret Tryz.prog 101 [.slice Al l.length cl,.func (.func kq) #[] pq.toArray] w0 (fun v w=>v=.bool (l.any q)∧Below w0.heap.size w0 w):=by
 refine enter Tryz.func101 rfl 9 rfl rfl ?_;intro a hf
 have hW:Below w0.heap.size w0 w0:=Below.refl _ _
 refine Zs hf fun _ hK2=>?_;refine Za rfl ?_;refine Zt hK2 fun a hf=>?_;refine Zs hf fun _ hK3=>?_;refine Zm rfl<|Zm rfl ?_;refine Zf (Vc (Xq8 _ Al cl l (hr_l.below' hW).top kq pq Fq q (fun x w' hE'=>hq x w' (hW.trans (hE'.mono hW.size))) hln) Xn6) ?_;rintro _ w1 ⟨ix,rfl,hix,hE⟩;replace hW:=btr hW hE;refine Ze (Xa0 rfl rfl)<|Za rfl ?_;refine Zt hK3 fun a hf=>?_
 refine wp_ret (X4 hf (X01 hf rfl rfl) ?_)
 exact ⟨by rw [← hix],hW⟩
theorem Xqf(w0:World)(x:Gt)(n:Int)(ba:Nat)(v1:Value)(hBa:Blk w0 ba 48 [vi n,v1]) : Ret Tryz.prog 102 [.agg #[vi x.k,vi x.a,vi x.b],.pointer (some ⟨ba,0,none⟩)] w0 (fun v w=>v=.bool (!gOk n x)∧Below w0.heap.size w0 w):=by
 have hltba:=hBa.lt;refine enter Tryz.func102 rfl 9 rfl rfl ?_;intro a hf
 have hW:Below w0.heap.size w0 w0:=Below.refl _ _
 refine Zs hf fun _ hK1=>?_;refine Zf (X0t (zs:=[vi x.k,vi x.a,vi x.b]) rfl rfl) ?_;rintro _ w1 ⟨b2,rfl,hl2,hE,hB2⟩;have hlo2:=Nat.le_trans hW.size hl2;replace hBa:=hBa.below hE;replace hW:=btr hW hE;refine Za rfl ?_;refine Zt hK1 fun a hf=>?_;refine Zs hf fun _ hK3=>?_;refine Ze (Vd rfl X1g 0)<|Ze (X0 rfl X2 (hBa.at 0))<|Ze (Vn X0f hB2) ?_;refine Zf (Vc (Xpb _ n x) Xew) ?_;rintro _ w2 ⟨rfl,hE⟩;replace hBa:=hBa.below hE;replace hB2:=hB2.below hE;replace hW:=btr hW hE;refine Ze (X1d rfl)<|Za rfl ?_;refine Zt hK3 fun a hf=>?_
 refine wp_ret (X4 hf (X01 hf rfl rfl) ?_)
 exact ⟨rfl,hW⟩
theorem F55(w0:World)(c:Cx)(Ac:Option Addr)(cc:Nat)(hr_c:Rd w0 w0.heap.size 114 encG Ac c.gs)(hln:c.gs.length≤2305843009213693951) : Ret Tryz.prog 55 [.agg #[vi c.n,.slice Ac c.gs.length cc]] w0 (fun v w=>v=.bool (cOk c)∧Below w0.heap.size w0 w):=by
 refine enter Tryz.func55 rfl 19 rfl rfl ?_;intro a hf
 have hW:Below w0.heap.size w0 w0:=Below.refl _ _
 refine Zs hf fun _ hK2=>?_;refine Zf (X0t (zs:=[vi c.n,.slice Ac c.gs.length cc]) rfl rfl) ?_;rintro _ w1 ⟨b3,rfl,hl3,hE,hB3⟩;have hlo3:=Nat.le_trans hW.size hl3;replace hW:=btr hW hE;refine Za rfl ?_;refine Zt hK2 fun a hf=>?_;refine wp_seq_k fun _ hK4=>?_;refine X0u (fun a w=>Fr a 19 [(2,.bool (((inR c.n 1 5)&&(decide ((c.gs.length:Int)≤400)))&&(!(c.gs.any (fun x=>!gOk c.n x)))))]∧Below w1.heap.size w1 w) ?_ ?_
 ·have hEc:Below w1.heap.size w1 w1:=Below.refl _ _
  refine Zr hf ?_;refine Ze (Vd rfl X1g 0)<|Ze (X0 rfl X2 (hB3.at 0)) ?_;refine Zf (Vc (F91 _ c.n 1 5) X3j) ?_;rintro _ _ ⟨rfl,rfl⟩;refine Zm rfl ?_
  refine Zg 6 rfl (fun hg5=>?_) (fun hg5=>?_)
  ·refine Zv ⟨_,_,rfl,rfl,hg5⟩ (Vd rfl X0z 1) ?_;refine Zv ⟨_,_,rfl,rfl,hg5⟩ (X0 rfl X25 (hB3.at 1)) ?_;refine Zv ⟨_,_,rfl,rfl,hg5⟩ (X0x rfl X13) ?_;refine Zv ⟨_,_,rfl,rfl,hg5⟩ (Xhp rfl rfl) ?_;refine Ze (Xb rfl hg5 rfl)<|Zm rfl ?_
   refine Zg 12 rfl (fun hg6=>?_) (fun hg6=>?_)
   ·refine Zv ⟨_,_,rfl,rfl,hg6⟩ (Vd rfl X0z 1) ?_;refine Zv ⟨_,_,rfl,rfl,hg6⟩ (X0 rfl X25 (hB3.at 1)) ?_;refine Zv ⟨_,_,rfl,rfl,hg6⟩ (X64 (vs:=[.pointer (some ⟨b3,0,none⟩)]) rfl) ?_;refine Zk ⟨_,_,rfl,rfl,hg6⟩ (Vc (Xql _ Ac cc c.gs (hr_c.below' hW).top 102 [.pointer (some ⟨b3,0,none⟩)] Xmn (fun x=>!gOk c.n x) (fun x w' hE'=>Xqf w' x c.n _ _ (hB3.below hE')) hln) Xn3) ?_;rintro _ w2 ⟨rfl,hE⟩;replace hB3:=hB3.below hE;replace hW:=btr hW hE;replace hEc:=btr hEc hE;refine Zv ⟨_,_,rfl,rfl,hg6⟩ (X1d rfl) ?_;refine Ze (Xb rfl hg6 rfl)<|Za rfl ?_;refine Zn fun a hf=>?_
    have hEE:Below w1.heap.size w1 w2:=hEc
    exact ⟨hf.sub ⟨X1 rfl (by first|rfl|(simp only [hg5,hg6,bs];done)|simp [hg5,hg6]),trivial⟩,hEE⟩
   refine Zp ⟨_,_,rfl,rfl,hg6⟩ ?_;refine Zp ⟨_,_,rfl,rfl,hg6⟩ ?_;refine Zp ⟨_,_,rfl,rfl,hg6⟩ ?_;refine Zp ⟨_,_,rfl,rfl,hg6⟩ ?_;refine Zp ⟨_,_,rfl,rfl,hg6⟩ ?_;refine Ze (Xo rfl hg6 rfl)<|Za rfl ?_;refine Zn fun a hf=>?_
   have hEE:Below w1.heap.size w1 w1:=hEc
   exact ⟨hf.sub ⟨X1 rfl (by first|rfl|(simp only [hg5,hg6,bs];done)|simp [hg5,hg6]),trivial⟩,hEE⟩
  refine Zp ⟨_,_,rfl,rfl,hg5⟩ ?_;refine Zp ⟨_,_,rfl,rfl,hg5⟩ ?_;refine Zp ⟨_,_,rfl,rfl,hg5⟩ ?_;refine Zp ⟨_,_,rfl,rfl,hg5⟩ ?_;refine Ze (Xo rfl hg5 rfl)<|Zm rfl<|Zp ⟨_,_,rfl,rfl,rfl⟩ ?_;refine Zp ⟨_,_,rfl,rfl,rfl⟩ ?_;refine Zp ⟨_,_,rfl,rfl,rfl⟩ ?_;refine Zp ⟨_,_,rfl,rfl,rfl⟩ ?_;refine Zp ⟨_,_,rfl,rfl,rfl⟩ ?_;refine Ze (Xo rfl rfl rfl)<|Za rfl ?_;refine Zn fun a hf=>?_
  have hEE:Below w1.heap.size w1 w1:=hEc
  exact ⟨hf.sub ⟨X1 rfl (by first|rfl|(simp only [hg5,bs];done)|simp [hg5]),trivial⟩,hEE⟩
 rintro a w3 ⟨hf,hE⟩;replace hB3:=hB3.below hE;replace hW:=btr hW hE;refine hK4 _ _ ?_
 refine wp_ret (X4 hf (X01 hf rfl rfl) ?_)
 exact ⟨by simp [cOk, *],hW⟩
theorem Xq9(w0:World)(n:Int)(g:Gt)(hn:1≤n∧n≤5) : Ret Tryz.prog 121 [vi n,.agg #[vi g.k,vi g.a,vi g.b]] w0 (fun v w=>v=.bool (gOk n g)∧Below w0.heap.size w0 w):=by
 refine enter Tryz.func121 rfl 55 rfl rfl ?_;intro a hf
 have hW:Below w0.heap.size w0 w0:=Below.refl _ _
 refine Zs hf fun _ hK1=>?_;refine Zf (X0t (zs:=[vi g.k,vi g.a,vi g.b]) rfl rfl) ?_;rintro _ w1 ⟨b2,rfl,hl2,hE,hB2⟩;have hlo2:=Nat.le_trans hW.size hl2;replace hW:=btr hW hE;refine Za rfl ?_;refine Zt hK1 fun a hf=>?_;refine wp_seq_k fun _ hK3=>?_;refine wp_block ?_;refine Zs hf fun _ hK4=>?_;refine Ze (Vd rfl X0c 0)<|Ze (X0 rfl X2 (hB2.at 0)) ?_;refine Zf (Vc (F85 _ g.k 1 8) X3n) ?_;rintro _ _ ⟨rfl,rfl⟩;refine Za rfl ?_;refine Zt hK4 fun a hf=>?_
 refine X9 hf rfl (fun hc5=>?_) (fun hc5=>?_)
 ·have hc5b:=hc5;have hf0:=Xqj hn hc5;refine wp_seq_k fun _ hK6=>?_;refine X0u (fun a w=>Fr a 55 [(4,.bool ((inR g.a 0 (n-1))&&(g.b==0)))]∧w1=w) ?_ ?_
  ·refine Zr hf ?_;refine Ze (Vd rfl X0y 1)<|Ze (X0 rfl X2 (hB2.at 1))<|Zm rfl<|Ze (X16 rfl rfl (by omega) (by omega)) ?_;refine Zf (Vc (F85 _ g.a 0 (n-1)) X3n) ?_;rintro _ _ ⟨rfl,rfl⟩;refine Zm rfl ?_
   refine Zg 14 rfl (fun hg7=>?_) (fun hg7=>?_)
   ·refine Zv ⟨_,_,rfl,rfl,hg7⟩ (Vd rfl X10 2) ?_;refine Zv ⟨_,_,rfl,rfl,hg7⟩ (X0 rfl X2 (hB2.at 2)) ?_;refine Zv ⟨_,_,rfl,rfl,hg7⟩ (X0g rfl rfl) ?_;refine Ze (Xb rfl hg7 rfl)<|Za rfl ?_;refine Zn fun a hf=>?_;exact ⟨hf.sub ⟨X1 rfl (by first|rfl|(simp only [hc5b,hg7,bs];done)|simp [hc5b,hg7]),trivial⟩,rfl⟩
   refine Zp ⟨_,_,rfl,rfl,hg7⟩ ?_;refine Zp ⟨_,_,rfl,rfl,hg7⟩ ?_;refine Zp ⟨_,_,rfl,rfl,hg7⟩ ?_;refine Ze (Xo rfl hg7 rfl)<|Za rfl ?_;refine Zn fun a hf=>?_;exact ⟨hf.sub ⟨X1 rfl (by first|rfl|(simp only [hc5b,hg7,bs];done)|simp [hc5b,hg7]),trivial⟩,rfl⟩
  rintro a _ ⟨hf,rfl⟩;refine hK6 _ _ ?_;refine wp_ret ?_;refine Xm ?_;refine X3 ?_;refine X4 hf (X01 hf rfl rfl) ?_;exact ⟨by rw [hf0],hW⟩
 have hc5b:=hc5;have h18:=hc5;refine Zs hf fun _ hK8=>?_;refine Ze (Vd rfl X0c 0)<|Ze (X0 rfl X2 (hB2.at 0)) ?_;refine Zf (Vc (F85 _ g.k 9 11) X3n) ?_;rintro _ _ ⟨rfl,rfl⟩;refine Za rfl ?_;refine Zt hK8 fun a hf=>?_
 refine X9 hf rfl (fun hc9=>?_) (fun hc9=>?_)
 ·have hc9b:=hc9;have hf0:=Xqv hn hc9;refine wp_seq_k fun _ hK10=>?_;refine X0u (fun a w=>Fr a 55 [(4,.bool (((inR g.a 0 (n-1))&&(inR g.b 0 (n-1)))&&(g.a != g.b)))]∧w1=w) ?_ ?_
  ·refine Zr hf ?_;refine Ze (Vd rfl X0y 1)<|Ze (X0 rfl X2 (hB2.at 1))<|Zm rfl<|Ze (X16 rfl rfl (by omega) (by omega)) ?_;refine Zf (Vc (F85 _ g.a 0 (n-1)) X3n) ?_;rintro _ _ ⟨rfl,rfl⟩;refine Zm rfl ?_
   refine Zg 28 rfl (fun hg11=>?_) (fun hg11=>?_)
   ·refine Zv ⟨_,_,rfl,rfl,hg11⟩ (Vd rfl X10 2) ?_;refine Zv ⟨_,_,rfl,rfl,hg11⟩ (X0 rfl X2 (hB2.at 2)) ?_;refine Zv ⟨_,_,rfl,rfl,hg11⟩ (Xa rfl) ?_;refine Zv ⟨_,_,rfl,rfl,hg11⟩ (X16 rfl rfl (by omega) (by omega)) ?_;refine Zk ⟨_,_,rfl,rfl,hg11⟩ (Vc (F85 _ g.b 0 (n-1)) X3n) ?_;rintro _ _ ⟨rfl,rfl⟩;refine Ze (Xb rfl hg11 rfl)<|Zm rfl ?_
    refine Zg 35 rfl (fun hg12=>?_) (fun hg12=>?_)
    ·refine Zv ⟨_,_,rfl,rfl,hg12⟩ (Vd rfl X0y 1) ?_;refine Zv ⟨_,_,rfl,rfl,hg12⟩ (X0 rfl X2 (hB2.at 1)) ?_;refine Zv ⟨_,_,rfl,rfl,hg12⟩ (Vd rfl X10 2) ?_;refine Zv ⟨_,_,rfl,rfl,hg12⟩ (X0 rfl X2 (hB2.at 2)) ?_;refine Zv ⟨_,_,rfl,rfl,hg12⟩ (X3k rfl rfl) ?_;refine Ze (Xb rfl hg12 rfl)<|Za rfl ?_;refine Zn fun a hf=>?_;exact ⟨hf.sub ⟨X1 rfl (by first|rfl|(simp only [hc5b,hc9b,hg11,hg12,bs];done)|simp [hc5b,hc9b,hg11,hg12]),trivial⟩,rfl⟩
    refine Zp ⟨_,_,rfl,rfl,hg12⟩ ?_;refine Zp ⟨_,_,rfl,rfl,hg12⟩ ?_;refine Zp ⟨_,_,rfl,rfl,hg12⟩ ?_;refine Zp ⟨_,_,rfl,rfl,hg12⟩ ?_;refine Zp ⟨_,_,rfl,rfl,hg12⟩ ?_;refine Ze (Xo rfl hg12 rfl)<|Za rfl ?_;refine Zn fun a hf=>?_;exact ⟨hf.sub ⟨X1 rfl (by first|rfl|(simp only [hc5b,hc9b,hg11,hg12,bs];done)|simp [hc5b,hc9b,hg11,hg12]),trivial⟩,rfl⟩
   refine Zp ⟨_,_,rfl,rfl,hg11⟩ ?_;refine Zp ⟨_,_,rfl,rfl,hg11⟩ ?_;refine Zp ⟨_,_,rfl,rfl,hg11⟩ ?_;refine Zp ⟨_,_,rfl,rfl,hg11⟩ ?_;refine Zp ⟨_,_,rfl,rfl,hg11⟩ ?_;refine Ze (Xo rfl hg11 rfl)<|Zm rfl<|Zp ⟨_,_,rfl,rfl,rfl⟩ ?_;refine Zp ⟨_,_,rfl,rfl,rfl⟩ ?_;refine Zp ⟨_,_,rfl,rfl,rfl⟩ ?_;refine Zp ⟨_,_,rfl,rfl,rfl⟩ ?_;refine Zp ⟨_,_,rfl,rfl,rfl⟩ ?_;refine Ze (Xo rfl rfl rfl)<|Za rfl ?_;refine Zn fun a hf=>?_;exact ⟨hf.sub ⟨X1 rfl (by first|rfl|(simp only [hc5b,hc9b,hg11,bs];done)|simp [hc5b,hc9b,hg11]),trivial⟩,rfl⟩
  rintro a _ ⟨hf,rfl⟩;refine hK10 _ _ ?_;refine wp_ret ?_;refine Xm ?_;refine X3 ?_;refine X4 hf (X01 hf rfl rfl) ?_;exact ⟨by rw [hf0],hW⟩
 have hc9b:=hc9;have hf0:=Xqk hn h18 hc9;refine wp_skip ?_;refine X5 ?_;refine hK3 _ _ ?_;refine wp_seq_k fun _ hK13=>?_;refine X0u (fun a w=>Fr a 55 [(4,.bool (((g.k==12)&&(g.a==0))&&(g.b==0)))]∧w1=w) ?_ ?_
 ·refine Zr hf ?_;refine Ze (Vd rfl X0c 0)<|Ze (X0 rfl X2 (hB2.at 0))<|Ze (X0g rfl rfl)<|Zm rfl ?_
  refine Zg 45 rfl (fun hg14=>?_) (fun hg14=>?_)
  ·refine Zv ⟨_,_,rfl,rfl,hg14⟩ (Vd rfl X0y 1) ?_;refine Zv ⟨_,_,rfl,rfl,hg14⟩ (X0 rfl X2 (hB2.at 1)) ?_;refine Zv ⟨_,_,rfl,rfl,hg14⟩ (X0g rfl rfl) ?_;refine Ze (Xb rfl hg14 rfl)<|Zm rfl ?_
   refine Zg 50 rfl (fun hg15=>?_) (fun hg15=>?_)
   ·refine Zv ⟨_,_,rfl,rfl,hg15⟩ (Vd rfl X10 2) ?_;refine Zv ⟨_,_,rfl,rfl,hg15⟩ (X0 rfl X2 (hB2.at 2)) ?_;refine Zv ⟨_,_,rfl,rfl,hg15⟩ (X0g rfl rfl) ?_;refine Ze (Xb rfl hg15 rfl)<|Za rfl ?_;refine Zn fun a hf=>?_;exact ⟨hf.sub ⟨X1 rfl (by first|rfl|(simp only [hc5b,hc9b,hg14,hg15,bs];done)|simp [hc5b,hc9b,hg14,hg15]),trivial⟩,rfl⟩
   refine Zp ⟨_,_,rfl,rfl,hg15⟩ ?_;refine Zp ⟨_,_,rfl,rfl,hg15⟩ ?_;refine Zp ⟨_,_,rfl,rfl,hg15⟩ ?_;refine Ze (Xo rfl hg15 rfl)<|Za rfl ?_;refine Zn fun a hf=>?_;exact ⟨hf.sub ⟨X1 rfl (by first|rfl|(simp only [hc5b,hc9b,hg14,hg15,bs];done)|simp [hc5b,hc9b,hg14,hg15]),trivial⟩,rfl⟩
  refine Zp ⟨_,_,rfl,rfl,hg14⟩ ?_;refine Zp ⟨_,_,rfl,rfl,hg14⟩ ?_;refine Zp ⟨_,_,rfl,rfl,hg14⟩ ?_;refine Ze (Xo rfl hg14 rfl)<|Zm rfl<|Zp ⟨_,_,rfl,rfl,rfl⟩ ?_;refine Zp ⟨_,_,rfl,rfl,rfl⟩ ?_;refine Zp ⟨_,_,rfl,rfl,rfl⟩ ?_;refine Ze (Xo rfl rfl rfl)<|Za rfl ?_;refine Zn fun a hf=>?_;exact ⟨hf.sub ⟨X1 rfl (by first|rfl|(simp only [hc5b,hc9b,hg14,bs];done)|simp [hc5b,hc9b,hg14]),trivial⟩,rfl⟩
 rintro a _ ⟨hf,rfl⟩;refine hK13 _ _ ?_
 refine wp_ret (X4 hf (X01 hf rfl rfl) ?_)
 exact ⟨by rw [hf0],hW⟩
theorem F53(w0:World)(c:Cx)(Ac:Option Addr)(cc:Nat)(hr_c:Rd w0 w0.heap.size 114 encG Ac c.gs) : Ret Tryz.prog 75 [.agg #[vi c.n,.slice Ac c.gs.length cc]] w0 (fun v w=>v=.bool (cOk c)∧Below w0.heap.size w0 w):=by
 refine enter Tryz.func75 rfl 28 rfl rfl ?_;intro a hf
 have hW:Below w0.heap.size w0 w0:=Below.refl _ _
 refine Zs hf fun _ hK2=>?_;refine Zf (X0t (zs:=[vi c.n,.slice Ac c.gs.length cc]) rfl rfl) ?_;rintro _ w1 ⟨b3,rfl,hl3,hE,hB3⟩;have hlo3:=Nat.le_trans hW.size hl3;replace hW:=btr hW hE;refine Za rfl ?_;refine Zt hK2 fun a hf=>?_;refine wp_seq_k fun _ hK4=>?_;refine wp_seq_k fun _ hK5=>?_;refine X0u (fun a w=>Fr a 28 [(1,.pointer (some ⟨b3,0,none⟩)),(14,.bool ((!(inR c.n 1 5))||(decide (400<(c.gs.length:Int)))))]∧w1=w) ?_ ?_
 ·refine Zr hf ?_;refine Ze (Vd rfl X1g 0)<|Ze (X0 rfl X2 (hB3.at 0)) ?_;refine Zf (Vc (F85 _ c.n 1 5) X3n) ?_;rintro _ _ ⟨rfl,rfl⟩;refine Ze (X1d rfl)<|Zm rfl ?_
  refine Zg 9 rfl (fun hg6=>?_) (fun hg6=>?_)
  ·refine Zp ⟨_,_,rfl,rfl,hg6⟩ ?_;refine Zp ⟨_,_,rfl,rfl,hg6⟩ ?_;refine Zp ⟨_,_,rfl,rfl,hg6⟩ ?_;refine Zp ⟨_,_,rfl,rfl,hg6⟩ ?_;refine Ze (Xb rfl hg6 rfl) ?_;refine Zn fun a hf=>?_;exact ⟨hf.sub ⟨rfl,X1 rfl (by first|rfl|(simp only [hg6,bs];done)|simp [hg6]),trivial⟩,rfl⟩
  refine Zv ⟨_,_,rfl,rfl,hg6⟩ (Vd rfl X0z 1) ?_;refine Zv ⟨_,_,rfl,rfl,hg6⟩ (X0 rfl X25 (hB3.at 1)) ?_;refine Zv ⟨_,_,rfl,rfl,hg6⟩ (X0x rfl X13) ?_;refine Zv ⟨_,_,rfl,rfl,hg6⟩ (X4m rfl rfl) ?_;refine Ze (Xo rfl hg6 rfl) ?_;refine Zn fun a hf=>?_;exact ⟨hf.sub ⟨rfl,X1 rfl (by first|rfl|(simp only [hg6,bs];done)|simp [hg6]),trivial⟩,rfl⟩
 rintro a _ ⟨hf,rfl⟩;refine hK5 _ _ ?_
 refine X9 hf rfl (fun hc7=>?_) (fun hc7=>?_)
 ·have hc7b:=hc7
  have hn:(inR c.n 1 5&&decide ((c.gs.length:Int)≤400))=false:=by revert hc7;cases inR c.n 1 5<;>simp
  refine Zs hf fun _ hK8=>?_;refine Za rfl ?_;refine Zt hK8 fun a hf=>?_;refine wp_ret ?_;refine X3 ?_;refine X4 hf (X01 hf rfl rfl) ?_;exact ⟨by rw [cOk,hn];rfl,hW⟩
 have hc7b:=hc7
 have hy:(inR c.n 1 5&&decide ((c.gs.length:Int)≤400))=true:=by revert hc7;cases inR c.n 1 5<;>simp
 have hy2:=(Bool.and_eq_true _ _▸hy:inR c.n 1 5=true∧decide ((c.gs.length:Int)≤400)=true);have hn:=X0v.1 hy2.1;have hlen:=of_decide_eq_true hy2.2;refine wp_skip ?_;refine hK4 _ _ ?_;refine wp_seq_k fun _ hK9=>?_;refine Zs hf fun _ hK10=>?_;refine Ze (Vd rfl X0z 1)<|Ze (X0 rfl X25 (hB3.at 1))<|Ze (X0x rfl X13)<|Zm rfl ?_;refine Zt hK10 fun a hf=>?_;refine wp_block ?_;refine Xx (σ:=Nat) (fun (k:Nat) (a:Act) (w:World)=>Fr a 28 [(1,.pointer (some ⟨b3,0,none⟩)),(16,.slice Ac c.gs.length cc),(17,vi (c.gs.length:Int)),(18,vi (k:Int))]∧(k≤c.gs.length)∧((c.gs.take k).all (fun x=>gOk c.n x)=true)∧Blk w b3 48 [vi c.n,.slice Ac c.gs.length cc]∧Below w0.heap.size w0 w) (fun (k:Nat)=>c.gs.length+1-k) 0 ?_ ?_
 ·exact ⟨hf.sub ⟨rfl,rfl,rfl,rfl,trivial⟩,(Nat.zero_le _),(by simp),hB3,hW⟩
 rintro k a w2 ⟨hf,hk,hpre,hB3,hW⟩;refine Zs hf fun _ hK11=>?_;refine Ze (X1a rfl rfl) ?_;refine Zt hK11 fun a hf=>?_;refine wp_seq_k fun _ hK12=>?_
 refine X9 hf rfl (fun hc13=>?_) (fun hc13=>?_)
 ·have hc13b:=hc13;have hc13:=of_decide_eq_true hc13
  obtain ⟨u14,hu14⟩:=Xf (l:=c.gs) (k:=k) (by omega)
  refine wp_skip ?_;refine hK12 _ _ ?_;refine wp_seq_k fun _ hK15=>?_;refine wp_block ?_;refine Zs hf fun _ hK16=>?_;refine Zi (k:=k) (u:=u14) (enc:=encG) (l:=c.gs) trivial rfl rfl X13 X14 X0w (hr_c.below' hW) hu14 rfl ?_;intro p18 hat17;refine Ze (X07 (l:=[vi u14.k,vi u14.a,vi u14.b]) rfl X0f hat17 rfl) ?_;refine Zf (X6 (zs:=[vi 0,vi 0,vi 0]) X5b rfl) ?_;rintro _ w3 ⟨b19,rfl,hl19,hE,hB19⟩;have hlo19:=Nat.le_trans hW.size hl19;have haw1_19:=(hr_c.below' hW).away hl19;replace hB3:=hB3.below hE;replace hW:=btr hW hE;refine Zo (Vw [vi u14.k,vi u14.a,vi u14.b] X14 hB19) ?_;rintro _ w4 ⟨ho,hb⟩;have hold:=hB19;replace hB3:=hB3.only ho (Blk.ne hB3 hold rfl);replace hW:=Below.only hW ho hlo19;clear hold;have hB19:=hb;clear hb ho;refine Zt hK16 fun a hf=>?_;refine Zs hf fun _ hK20=>?_;refine Ze (Vd rfl X1g 0)<|Ze (X0 rfl X2 (hB3.at 0))<|Ze (Vn X0f hB19) ?_;refine Zf (Vc (Xq9 _ c.n u14 hn) Xmu) ?_;rintro _ w5 ⟨rfl,hE⟩;replace hB3:=hB3.below hE;replace hB19:=hB19.below hE;replace hW:=btr hW hE;refine Ze (X1d rfl) ?_;refine Zt hK20 fun a hf=>?_
  refine X9 hf rfl (fun hc21=>?_) (fun hc21=>?_)
  ·have hc21b:=hc21
   have hb2:(c.gs.any fun x=>!gOk c.n x)=true:=X7n hu14 hc21
   refine Zs hf fun _ hK22=>?_;refine Za rfl ?_;refine Zt hK22 fun a hf=>?_;refine wp_ret ?_;refine Xm ?_;refine X3 ?_;refine X3 ?_;refine Xm ?_;refine X3 ?_;refine X4 hf (X01 hf rfl rfl) ?_;exact ⟨by rw [cOk,hy,hb2];rfl,hW⟩
  have hc21b:=hc21
  have hok:gOk c.n u14=true:=by revert hc21;cases gOk c.n u14<;>simp
  refine wp_skip ?_;refine X5 ?_;refine hK15 _ _ ?_;refine Zr hf ?_;refine Ze (Xu rfl rfl (by omega) (by omega))<|Zm rfl ?_;refine Zn fun a hf=>?_;refine X8 ?_;exact ⟨k+1,⟨hf.sub ⟨rfl,rfl,rfl,rfl,trivial⟩,(by omega),(X4u hpre hu14 hok),hB3,hW⟩,(by omega)⟩
 have hc13b:=hc13;have hc13:=of_decide_eq_false hc13;refine wp_exit ?_;refine Xh ?_;refine Xh ?_;refine Xt ?_;refine hK9 _ _ ?_;refine Zs hf fun _ hK23=>?_;refine Za rfl ?_;refine Zt hK23 fun a hf=>?_
 refine wp_ret (X4 hf (X01 hf rfl rfl) ?_)
 have hb2:(c.gs.any fun x=>!gOk c.n x)=false:=X66 (by simpa using X44 hpre (by omega))
 exact ⟨by rw [cOk,hy,hb2];rfl,hW⟩
theorem Xqy(w0:World)(x:Gt)(y:Gt) : Ret Tryz.prog 100 [.agg #[vi x.k,vi x.a,vi x.b],.agg #[vi y.k,vi y.a,vi y.b]] w0 (fun v w=>v=.bool (decide (x=y))∧Below w0.heap.size w0 w):=by
 refine enter Tryz.func100 rfl 20 rfl rfl ?_;intro a hf
 have hW:Below w0.heap.size w0 w0:=Below.refl _ _
 refine Zs hf fun _ hK1=>?_;refine Zf (X0t (zs:=[vi x.k,vi x.a,vi x.b]) rfl rfl) ?_;rintro _ w1 ⟨b2,rfl,hl2,hE,hB2⟩;have hlo2:=Nat.le_trans hW.size hl2;replace hW:=btr hW hE;refine Zf (X0t (zs:=[vi y.k,vi y.a,vi y.b]) rfl rfl) ?_;rintro _ w2 ⟨b3,rfl,hl3,hE,hB3⟩
 have hne2_3:b2≠b3:=by have:=hB2.lt;omega
 have hlo3:=Nat.le_trans hW.size hl3;replace hB2:=hB2.below hE;replace hW:=btr hW hE;refine Za rfl ?_;refine Zt hK1 fun a hf=>?_;refine wp_seq_k fun _ hK4=>?_;refine Zs hf fun _ hK5=>?_;refine Ze (Vd rfl X0c 0)<|Ze (X0 rfl X2 (hB2.at 0))<|Ze (Vd rfl X0c 0)<|Ze (X0 rfl X2 (hB3.at 0))<|Ze (X3k rfl rfl) ?_;refine Zt hK5 fun a hf=>?_
 refine X9 hf rfl (fun hc6=>?_) (fun hc6=>?_)
 ·have hc6b:=hc6
  have hne:¬ x=y:=by rintro rfl;simp at hc6
  refine Zs hf fun _ hK7=>?_;refine Za rfl ?_;refine Zt hK7 fun a hf=>?_;refine wp_ret ?_;refine X3 ?_;refine X4 hf (X01 hf rfl rfl) ?_;exact ⟨by simp [hne],hW⟩
 have hc6b:=hc6
 have e1:x.k=y.k:=by simpa using hc6
 refine wp_skip ?_;refine hK4 _ _ ?_;refine wp_seq_k fun _ hK8=>?_;refine Zs hf fun _ hK9=>?_;refine Ze (Vd rfl X0y 1)<|Ze (X0 rfl X2 (hB2.at 1))<|Ze (Vd rfl X0y 1)<|Ze (X0 rfl X2 (hB3.at 1))<|Ze (X3k rfl rfl) ?_;refine Zt hK9 fun a hf=>?_
 refine X9 hf rfl (fun hc10=>?_) (fun hc10=>?_)
 ·have hc10b:=hc10
  have hne:¬ x=y:=by rintro rfl;simp at hc10
  refine Zs hf fun _ hK11=>?_;refine Za rfl ?_;refine Zt hK11 fun a hf=>?_;refine wp_ret ?_;refine X3 ?_;refine X4 hf (X01 hf rfl rfl) ?_;exact ⟨by simp [hne],hW⟩
 have hc10b:=hc10
 have e2:x.a=y.a:=by simpa using hc10
 refine wp_skip ?_;refine hK8 _ _ ?_;refine wp_seq_k fun _ hK12=>?_;refine Zs hf fun _ hK13=>?_;refine Ze (Vd rfl X10 2)<|Ze (X0 rfl X2 (hB2.at 2))<|Ze (Vd rfl X10 2)<|Ze (X0 rfl X2 (hB3.at 2))<|Ze (X3k rfl rfl) ?_;refine Zt hK13 fun a hf=>?_
 refine X9 hf rfl (fun hc14=>?_) (fun hc14=>?_)
 ·have hc14b:=hc14
  have hne:¬ x=y:=by rintro rfl;simp at hc14
  refine Zs hf fun _ hK15=>?_;refine Za rfl ?_;refine Zt hK15 fun a hf=>?_;refine wp_ret ?_;refine X3 ?_;refine X4 hf (X01 hf rfl rfl) ?_;exact ⟨by simp [hne],hW⟩
 have hc14b:=hc14
 have e3:x.b=y.b:=by simpa using hc14
 refine wp_skip ?_;refine hK12 _ _ ?_;refine Zs hf fun _ hK16=>?_;refine Za rfl ?_;refine Zt hK16 fun a hf=>?_
 refine wp_ret (X4 hf (X01 hf rfl rfl) ?_)
 have he:x=y:=by cases x;cases y;simp_all
 exact ⟨by simp [he],hW⟩
theorem F52(w0:World)(Ap:Option Addr)(cp:Nat)(p:List Gt)(hr_p:Rd w0 w0.heap.size 114 encG Ap p)(Aq:Option Addr)(cq:Nat)(q:List Gt)(hr_q:Rd w0 w0.heap.size 114 encG Aq q)(hln:p.length≤2305843009213693951) : Ret Tryz.prog 53 [.slice Ap p.length cp,.slice Aq q.length cq] w0 (fun v w=>v=.bool (decide (p=q))∧Below w0.heap.size w0 w):=by
 refine enter Tryz.func53 rfl 27 rfl rfl ?_;intro a hf
 have hW:Below w0.heap.size w0 w0:=Below.refl _ _
 refine Zs hf fun _ hK3=>?_;refine Za rfl ?_;refine Zt hK3 fun a hf=>?_;refine wp_seq_k fun _ hK4=>?_;refine Zs hf fun _ hK5=>?_;refine Zm rfl<|Ze (X0x rfl X13)<|Zm rfl<|Ze (X0x rfl X13)<|Ze (X3k rfl rfl) ?_;refine Zt hK5 fun a hf=>?_
 refine X9 hf rfl (fun hc6=>?_) (fun hc6=>?_)
 ·have hc6b:=hc6
  have hne:¬ p=q:=by intro h9;rw [h9] at hc6;simp at hc6
  refine Zs hf fun _ hK7=>?_;refine Za rfl ?_;refine Zt hK7 fun a hf=>?_;refine wp_ret ?_;refine X3 ?_;refine X4 hf (X01 hf rfl rfl) ?_;exact ⟨by simp [hne],hW⟩
 have hc6b:=hc6
 have hll:p.length=q.length:=by have h9:(p.length:Int)=q.length:=(by simpa using hc6);omega
 refine wp_skip ?_;refine hK4 _ _ ?_;refine wp_seq_k fun _ hK8=>?_;refine Zs hf fun _ hK9=>?_;refine Za rfl ?_;refine Zt hK9 fun a hf=>?_;refine wp_block ?_;refine Xx (σ:=Nat) (fun (k:Nat) (a:Act) (w:World)=>Fr a 27 [(0,.slice Ap p.length cp),(1,.slice Aq q.length cq),(5,vi (k:Int))]∧(k≤p.length)∧(p.take k=q.take k)∧Below w0.heap.size w0 w) (fun (k:Nat)=>p.length-k) 0 ?_ ?_
 ·exact ⟨hf.sub ⟨rfl,rfl,rfl,trivial⟩,(Nat.zero_le _),(by simp),hW⟩
 rintro k a w1 ⟨hf,hk,hpre,hW⟩;refine wp_seq_k fun _ hK10=>?_;refine Zs hf fun _ hK11=>?_;refine Zm rfl<|Zm rfl<|Ze (X0x rfl X13)<|Ze (X1a rfl rfl) ?_;refine Zt hK11 fun a hf=>?_
 refine X9 hf rfl (fun hc12=>?_) (fun hc12=>?_)
 ·have hc12b:=hc12;have hc12:=of_decide_eq_true hc12
  obtain ⟨u13,hu13⟩:=Xf (l:=p) (k:=k) (by omega)
  obtain ⟨v9,hv9⟩:=Xf (l:=q) (k:=k) (by omega)
  refine wp_skip ?_;refine hK10 _ _ ?_;refine wp_seq_k fun _ hK14=>?_;refine wp_block ?_;refine wp_seq_k fun _ hK15=>?_;refine Xv none (fun _=>false) mixed ?_;intro w2 hE;replace hW:=btr hW hE;refine Yb hf ?_;refine Yo 0 rfl (fun _=>Xa rfl)<|Yo 1 rfl (fun _=>Xa rfl) ?_;refine Yi (k:=k) (u:=u13) (enc:=encG) (l:=p) 2 rfl trivial rfl rfl X13 X14 X0w (hr_p.below' hW) hu13 rfl ?_;intro p17 hat16;refine Ye 3 rfl (X07 (l:=[vi u13.k,vi u13.a,vi u13.b]) rfl X0f hat16 rfl)<|Yo 4 rfl (fun _=>Xa rfl)<|Yo 5 rfl (fun _=>Xa rfl) ?_;refine Yi (k:=k) (u:=v9) (enc:=encG) (l:=q) 6 rfl trivial rfl rfl X13 X14 X0w (hr_q.below' hW) hv9 rfl ?_;intro p19 hat18;refine Ye 7 rfl (X07 (l:=[vi v9.k,vi v9.a,vi v9.b]) rfl X0f hat18 rfl) ?_;refine Y1 8 ?_;refine Yk rfl trivial (Vc (Xqy _ u13 v9) Xn8) (fun _ _ ⟨_,hE⟩=>hE) ?_;rintro _ w3 ⟨rfl,hE⟩;replace hW:=btr hW hE;refine Yo 9 rfl (fun _=>X1d rfl) ?_;refine Yd fun a hf=>?_;refine hK15 _ _ ?_
  refine X9 hf rfl (fun hc20=>?_) (fun hc20=>?_)
  ·have hc20b:=hc20
   have hne:¬ p=q:=by rintro rfl;rw [hu13] at hv9;injection hv9 with e9;revert hc20;simp [e9]
   refine Zs hf fun _ hK21=>?_;refine Za rfl ?_;refine Zt hK21 fun a hf=>?_;refine wp_ret ?_;refine Xm ?_;refine X3 ?_;refine X3 ?_;refine Xm ?_;refine X3 ?_;refine X4 hf (X01 hf rfl rfl) ?_;exact ⟨by simp [hne],hW⟩
  have hc20b:=hc20
  have he9:u13=v9:=by revert hc20;simp
  refine wp_skip ?_;refine X5 ?_;refine hK14 _ _ ?_;refine Zr hf ?_;refine Zm rfl<|Ze (Xu rfl rfl (by omega) (by omega))<|Za rfl ?_;refine Zn fun a hf=>?_;refine X8 ?_;exact ⟨k+1,⟨hf.sub ⟨rfl,rfl,rfl,trivial⟩,(by omega),(Xh2 hpre hu13 hv9 he9),hW⟩,(by omega)⟩
 have hc12b:=hc12;have hc12:=of_decide_eq_false hc12;refine wp_exit ?_;refine Xh ?_;refine Xh ?_;refine Xt ?_;refine hK8 _ _ ?_;refine Zs hf fun _ hK22=>?_;refine Za rfl ?_;refine Zt hK22 fun a hf=>?_
 refine wp_ret (X4 hf (X01 hf rfl rfl) ?_)
 have he:p=q:=by rw [List.take_of_length_le (by omega),List.take_of_length_le (by omega)] at hpre;exact hpre
 exact ⟨by simp [he],hW⟩
def entI(p:Int×Int×Nat) : MapEntry:={ key:=.int .i64 p.1,val:=.int .i64 p.2.1,born:=p.2.2 }
def MapI(w:World)(b:Nat)(l:List (Int×Int×Nat))(clock:Nat) : Prop:=w.heap[b]? = some (.map (l.map entI).toArray clock)
theorem MapI.below{w w':World}{b clock:Nat}{l:List (Int×Int×Nat)}(h:MapI w b l clock)(hb:Below w.heap.size w w') : MapI w' b l clock:=by
 have hlt:b<w.heap.size:=by
  rcases Nat.lt_or_ge b w.heap.size with h'|h'
  ·exact h'
  ·simp [MapI,Array.getElem?_eq_none h'] at h
 exact (hb.block b hlt).trans h
theorem MapI.only{w w':World}{b b' clock:Nat}{l:List (Int×Int×Nat)}(h:MapI w b l clock)(ho:Only b' w w')(hne:b≠b') : MapI w' b l clock:=(ho.block b hne).trans h
theorem MapI.ne{w:World}{b b' clock:Nat}{l:List (Int×Int×Nat)}{T:TypeId}{cs:List Value}(h:MapI w b l clock)(hb:Blk w b' T cs) : b≠b':=by
 rintro rfl
 unfold MapI at h
 unfold Blk at hb
 rw [h] at hb
 cases hb
section
variable {P : Program} {a : Act} {w : World} {n : Nat} {e : Env} {ty : TypeId} {pos : String} {af : Array Edge} {g : Option (Nat × Bool)} {d : Option Tmp}
theorem Xbr{T:TypeId} : Ef P ⟨d,.makeMap T none,ty,pos,af,g⟩ a w (fun v w'=>∃ b,v=.map (some b)∧w.heap.size≤b∧Below w.heap.size w w'∧MapI w' b [] 0):=by
 refine (Ef.of_run (v:=.map (some w.heap.size)) (w':=w.alloc (.map #[] 0)) ?_).mono fun v w' ⟨e1,e2⟩=>?_
 ·rfl
 ·subst e1;subst e2
  exact ⟨_,rfl,Nat.le_refl _,(Below.refl _ _).alloc (Nat.le_refl _) _,heap_alloc_new w _⟩
end
end Go.Proofs.YtiejkplemjkjoaaGreatDoor
namespace Go.Proofs
open Go.Shelf
end Go.Proofs
namespace Go.Proofs.YtiejkplemjkjoaaGreatDoor
open Go.RowKit
section
variable {α : Type}
theorem X4s{enc:α→List Value}{sz:Nat}(hsz:∀ x,(enc x).length=sz){l:List α}{j:Nat}(hj:j<l.length*sz) : ∃ x,l[j/sz]? = some x∧(l.flatMap enc)[j]? = (enc x)[j % sz]?:=by
 have h0:0<sz:=by
  rcases Nat.eq_zero_or_pos sz with h|h
  ·subst h;simp at hj
  ·exact h
 have hk:j/sz<l.length:=Nat.div_lt_of_lt_mul (by rw [Nat.mul_comm];exact hj)
 refine ⟨l[j/sz],List.getElem?_eq_getElem hk,?_⟩
 have hm:j % sz<(enc l[j/sz]).length:=by rw [hsz];exact Nat.mod_lt _ h0
 have h1:=X5c hsz l (j/sz) _ (List.getElem?_eq_getElem hk) (j % sz) _ (List.getElem?_eq_getElem hm)
 rw [show j/sz*sz+j % sz=j from by rw [Nat.mul_comm];exact Nat.div_add_mod j sz] at h1
 rw [h1,List.getElem?_eq_getElem hm]
theorem X7r{enc:α→List Value}{sz:Nat}(hsz:∀ x,(enc x).length=sz){z:Value}{z0:α}(hz:z.cells.toList=enc z0)(n:Nat) : madeCells z.cells (n*sz)=((List.replicate n z0).flatMap enc).toArray:=by
 have hs:z.cells.size=sz:=by rw [← hsz z0,← hz];simp
 apply Array.ext'
 apply List.ext_getElem?
 intro j
 by_cases hj:j<n*sz
 ·obtain ⟨x,hx,h1⟩:=X4s hsz (l:=List.replicate n z0) (j:=j) (by simpa using hj)
  obtain rfl:x=z0:=(List.eq_of_mem_replicate (List.mem_of_getElem? hx))
  have h0:0<sz:=by
   rcases Nat.eq_zero_or_pos sz with h|h
   ·subst h;simp at hj
   ·exact h
  have hm:j % sz<z.cells.size:=by rw [hs];exact Nat.mod_lt _ h0
  rw [List.toList_toArray,h1,← hz]
  simp only [madeCells,Array.getElem?_toList,Array.getElem?_map,Array.getElem?_range,hj,if_true,Option.map_some,hs]
  rw [getElem!_pos z.cells (j % sz) hm,Array.getElem?_eq_getElem hm]
 ·rw [List.getElem?_eq_none (by simp [madeCells];omega),List.toList_toArray,List.getElem?_eq_none (by rw [Xj hsz];simp;omega)]
theorem X4w{enc:α→List Value}{sz:Nat}(hsz:∀ x,(enc x).length=sz) : ∀ (l:List α) (k:Nat) (x:α),k<l.length→splice (l.flatMap enc) (k*sz) (enc x)=(l.set k x).flatMap enc
 | [],k,x,h=>by simp at h
 | y::l,0,x,h=>by
  simp only [splice,Nat.zero_mul,List.take_zero,List.nil_append,Nat.zero_add,List.flatMap_cons,List.set_cons_zero]
  rw [hsz,← hsz y,List.drop_left]
 | y::l,k+1,x,h=>by
  have ih:=X4w hsz l k x (by simpa using h)
  unfold splice at ih ⊢
  have h1:(k+1)*sz=(enc y).length+k*sz:=by rw [hsz,Nat.add_mul];omega
  rw [h1]
  simp only [List.flatMap_cons,List.set_cons_succ]
  rw [List.take_length_add_append,show (enc y).length+k*sz+(enc x).length=(enc y).length+(k*sz+(enc x).length) from by omega,List.drop_length_add_append,List.append_assoc,List.append_assoc]
  rw [← ih,List.append_assoc]
end
section
variable {α : Type} {P : Program} {a : Act} {w : World} {n : Nat} {e : Env} {ty : TypeId} {pos : String} {af : Array Edge} {g : Option (Nat × Bool)} {d : Option Tmp}
theorem X93{T E sz bytes m:Nat}{x y:Operand}{enc:α→List Value}{z:Value}{z0:α}(hf:Fr a n e)(hx:ev e x=some (.int .i64 (m:Int)))(hy:ev e y=some (.int .i64 (m:Int)))(hT:SliceT P T E)(hi:InfoT P E sz bytes)(hz:ZeroT P E z)(hz0:z.cells.toList=enc z0)(hsz:∀ x,(enc x).length=sz)(hb:bytes*m≤281474976710656)(hm:m≤4611686018427387904) :
  Ef P ⟨d,.makeSlice T x y,ty,pos,af,g⟩ a w (fun v w'=>∃ b,v=.slice (some ⟨b,0,none⟩) m m∧w.heap.size≤b∧Below w.heap.size w w'∧Blk w' b E ((List.replicate m z0).flatMap enc)):=by
 obtain ⟨i,z1,hi1,hi2,hi3,hi4,hi5,hi6⟩:=hi;obtain ⟨i',hi1',hz1⟩:=hz
 rw [hi1] at hi1'
 injection hi1' with hi1'
 subst hi1'
 rw [hi2] at hz1
 injection hz1 with hz1
 subst hz1
 have hb':(i.bytes:Int)*(m:Int)≤281474976710656:=by
  have h:((i.bytes*m:Nat) : Int)≤281474976710656:=by rw [hi4];omega
  rwa [Int.natCast_mul] at h
 have hr:=run_make (P:=P) w T E i z1 hT hi1 hi2 .i64 .i64 m m (by omega) (Int.le_refl _) hb' (by omega)
 refine (Ef.of_run (v:=.slice (some ⟨w.heap.size,0,none⟩) m m) (w':=w.alloc (.cells ((List.replicate m z0).flatMap enc).toArray E)) ?_).mono fun v w' ⟨e1,e2⟩=>?_
 ·rw [hi3,Int.toNat_natCast,X7r hsz hz0] at hr
  simp [execOp,hf.ev hx,hf.ev hy,hr]
 ·subst e1;subst e2
  exact ⟨_,rfl,Nat.le_refl _,(Below.refl _ _).alloc (Nat.le_refl _) _,X6d w E _⟩
theorem Xbs{T E sz bytes m:Nat}{x y:Operand}{enc:α→List Value}{z:Value}{z0:α}(hx:ev e x=some (.int .i64 (m:Int)))(hy:ev e y=some (.int .i64 (m:Int)))(hT:SliceT P T E)(hi:InfoT P E sz bytes)(hz:ZeroT P E z)(hz0:z.cells.toList=enc z0)(hsz:∀ x,(enc x).length=sz)(hb:bytes*m≤281474976710656)(hm:m≤4611686018427387904) : EfW P ⟨d,.makeSlice T x y,ty,pos,af,g⟩ n e w (fun v w'=>∃ b,v=.slice (some ⟨b,0,none⟩) m m∧w.heap.size≤b∧Below w.heap.size w w'∧Blk w' b E ((List.replicate m z0).flatMap enc)):=fun a hf=>X93 hf hx hy hT hi hz hz0 hsz hb hm
theorem X86{T E sz b m c k off:Nat}{x y:Operand}{i:Int}(hf:Fr a n e)(hx:ev e x=some (.slice (some ⟨b,0,none⟩) m c))(hy:ev e y=some (.int .i64 i))(hT:SliceT P T E)(hs:SizeT P E sz)(hi:i=(k:Int))(hk:k<m)(ho:k*sz=off) :
  Ev P ⟨d,.indexAddr T x y,ty,pos,af,g⟩ a w (.pointer (some ⟨b,off,none⟩)):=by
 have h:=X6z (P:=P) (w:=w) (d:=d) (ty:=ty) (pos:=pos) (af:=af) (g:=g) hf hx hy hT hs hi hk
 rwa [X1b,Nat.zero_add,ho] at h
theorem Xhh{T E sz b m c k off:Nat}{x y:Operand}{i:Int}(hx:ev e x=some (.slice (some ⟨b,0,none⟩) m c))(hy:ev e y=some (.int .i64 i))(hT:SliceT P T E)(hs:SizeT P E sz)(hi:i=(k:Int))(hk:k<m)(ho:k*sz=off) : EvW P ⟨d,.indexAddr T x y,ty,pos,af,g⟩ n e w (.pointer (some ⟨b,off,none⟩)):=fun a hf=>X86 hf hx hy hT hs hi hk ho
theorem Xe2{t T b k sz:Nat}{x y:Operand}{v:Value}{enc:α→List Value}{l:List α}{u:α}(hf:Fr a n e)(hx:ev e x=some (.pointer (some ⟨b,k*sz,none⟩)))(hy:ev e y=some v)(hs:SizeT P t sz)(hb:Blk w b T (l.flatMap enc))(hsz:∀ x,(enc x).length=sz)(hone:∀ x,(enc x).all one=true)(hv:v.cells.toList=enc u)(hk:k<l.length) :
  Ef P ⟨d,.store t x y,ty,pos,af,g⟩ a w (Stored w b T ((l.set k u).flatMap enc)):=by
 have hl:k*sz+sz≤(l.flatMap enc).length:=by
  rw [Xj hsz]
  have:=Nat.mul_le_mul_right sz (show k+1≤l.length by omega)
  rwa [Nat.add_mul,Nat.one_mul] at this
 exact X73 (vs:=enc u) hf hx hy hs hb hv (by rw [hsz];simp) (hone u) (by rw [Nat.ble_eq];exact hl) (X4w hsz l k u hk)
theorem Xij{t T b k sz:Nat}{x y:Operand}{v:Value}{enc:α→List Value}{l:List α}{u:α}(hx:ev e x=some (.pointer (some ⟨b,k*sz,none⟩)))(hy:ev e y=some v)(hs:SizeT P t sz)(hb:Blk w b T (l.flatMap enc))(hsz:∀ x,(enc x).length=sz)(hone:∀ x,(enc x).all one=true)(hv:v.cells.toList=enc u)(hk:k<l.length) : EfW P ⟨d,.store t x y,ty,pos,af,g⟩ n e w (Stored w b T ((l.set k u).flatMap enc)):=fun a hf=>Xe2 hf hx hy hs hb hsz hone hv hk
theorem Xbd{T E sz m c k:Nat}{x y:Operand}{A:Option Addr}{i:Int}(hf:Fr a n e)(hx:ev e x=some (.slice A m c))(hy:ev e y=some (.int .i64 i))(hT:SliceT P T E)(hs:SizeT P E sz)(hi:i=(k:Int))(hk:k≤c) :
  Ev P ⟨d,.slice T x none (some y) none,ty,pos,af,g⟩ a w (.slice A k c):=fun w' _=>by
 subst hi
 have h0:∀ p:Addr,p.add 0=p:=fun p=>by simp [Addr.add]
 simp [execOp,Instr.sliceAt,Instr.slice,Instr.sliceBounds,run_sliceBound,Xr hT,run_sizeOf' hs,hf.ev hx,hf.ev hy,hk,h0]
theorem X95{T E sz m c k:Nat}{x y:Operand}{A:Option Addr}{i:Int}(hf:Fr a n e)(hx:ev e x=some (.slice A m c))(hy:ev e y=some (.int .i64 i))(hT:SliceT P T E)(hs:SizeT P E sz)(hi:i=(k:Int))(hk:k≤m) :
  Ev P ⟨d,.slice T x (some y) none none,ty,pos,af,g⟩ a w (.slice (if c=k then A else A.map (·.add (k*sz))) (m-k) (c-k)):=fun w' _=>by
 subst hi
 simp [execOp,Instr.sliceAt,Instr.slice,Instr.sliceBounds,run_sliceBound,Xr hT,run_sizeOf' hs,hf.ev hx,hf.ev hy,hk]
end
section
variable {α : Type} {w : World} {B B0 : Nat} {E : TypeId} {sz : Nat} {enc : α → List Value} {A : Option Addr} {c : Nat} {l : List α}
theorem X98(hsz:∀ x,(enc x).length=sz)(k:Nat) : (l.take k).flatMap enc=(l.flatMap enc).take (k*sz):=by
 conv=>rhs;rw [← List.take_append_drop k l]
 rw [List.flatMap_append]
 by_cases hk:k≤l.length
 ·have:((l.take k).flatMap enc).length=k*sz:=by rw [Xj hsz,List.length_take,Nat.min_eq_left hk]
  rw [← this,List.take_left]
 ·rw [List.take_of_length_le (by omega),List.drop_of_length_le (by omega)]
  simp only [List.flatMap_nil,List.append_nil]
  rw [List.take_of_length_le (by rw [Xj hsz];exact Nat.mul_le_mul_right _ (by omega))]
theorem X9b(hsz:∀ x,(enc x).length=sz)(k:Nat) : (l.drop k).flatMap enc=(l.flatMap enc).drop (k*sz):=by
 conv=>rhs;rw [← List.take_append_drop k l]
 rw [List.flatMap_append]
 by_cases hk:k≤l.length
 ·have:((l.take k).flatMap enc).length=k*sz:=by rw [Xj hsz,List.length_take,Nat.min_eq_left hk]
  rw [← this,List.drop_left]
 ·have h1:l.drop k=[]:=List.drop_of_length_le (by omega)
  rw [h1,List.flatMap_nil,List.append_nil,List.drop_of_length_le (by rw [Xj hsz,List.length_take];exact Nat.mul_le_mul_right _ (by omega))]
theorem Rd.takeK(hsz:∀ x,(enc x).length=sz)(h:Rd w B E enc A l)(k:Nat) : Rd w B E enc A (l.take k):=fun hl=>by
 have hl':l≠[]:=by rintro rfl;simp at hl
 obtain ⟨b,off,cs,fz,h1,h2,h3,h4⟩:=h hl'
 refine ⟨b,off,cs,fz,h1,h2,h3,fun j v hj=>h4 j v ?_⟩
 rw [X98 hsz,List.getElem?_take] at hj
 split at hj
 ·exact hj
 ·cases hj
theorem Rd.dropK(hsz:∀ x,(enc x).length=sz)(h:Rd w B E enc A l)(hc:l.length≤c)(k:Nat) : Rd w B E enc (if c=k then A else A.map (·.add (k*sz))) (l.drop k):=fun hl=>by
 have hk:k<l.length:=by
  rcases Nat.lt_or_ge k l.length with h'|h'
  ·exact h'
  ·exact absurd (List.drop_of_length_le h') hl
 have hl':l≠[]:=by rintro rfl;simp at hk
 obtain ⟨b,off,cs,fz,h1,h2,h3,h4⟩:=h hl'
 rw [if_neg (by omega),h1]
 refine ⟨b,off+k*sz,cs,fz,by rw [Option.map_some,X1b],h2,h3,fun j v hj=>?_⟩
 rw [X9b hsz,List.getElem?_drop] at hj
 rw [Nat.add_assoc]
 exact h4 _ v hj
theorem Xgp{P:Program}{a:Act}{n:Nat}{e:Env}{ty:TypeId}{pos:String}{af:Array Edge}{g:Option (Nat×Bool)}{d:Option Tmp}{T k:Nat}{x y:Operand}{i:Int}(hf:Fr a n e)(hx:ev e x=some (.slice A l.length c))(hy:ev e y=some (.int .i64 i))(hT:SliceT P T E)(hs:SizeT P E sz)(hi:i=(k:Int))(hk:k≤l.length)(hc:l.length≤c) :
  Ev P ⟨d,.slice T x none (some y) none,ty,pos,af,g⟩ a w (.slice A (l.take k).length c):=by
 rw [List.length_take,Nat.min_eq_left hk]
 exact Xbd hf hx hy hT hs hi (by omega)
theorem X3w{P:Program}{n:Nat}{e:Env}{ty:TypeId}{pos:String}{af:Array Edge}{g:Option (Nat×Bool)}{d:Option Tmp}{T k:Nat}{x y:Operand}{i:Int}(hx:ev e x=some (.slice A l.length c))(hy:ev e y=some (.int .i64 i))(hT:SliceT P T E)(hs:SizeT P E sz)(hi:i=(k:Int))(hk:k≤l.length)(hc:l.length≤c) : EvW P ⟨d,.slice T x none (some y) none,ty,pos,af,g⟩ n e w (.slice A (l.take k).length c):=fun a hf=>Xgp hf hx hy hT hs hi hk hc
theorem Xgi{P:Program}{a:Act}{n:Nat}{e:Env}{ty:TypeId}{pos:String}{af:Array Edge}{g:Option (Nat×Bool)}{d:Option Tmp}{T k:Nat}{x y:Operand}{i:Int}(hf:Fr a n e)(hx:ev e x=some (.slice A l.length c))(hy:ev e y=some (.int .i64 i))(hT:SliceT P T E)(hs:SizeT P E sz)(hi:i=(k:Int))(hk:k≤l.length) :
  Ev P ⟨d,.slice T x (some y) none none,ty,pos,af,g⟩ a w (.slice (if c=k then A else A.map (·.add (k*sz))) (l.drop k).length (c-k)):=by
 rw [List.length_drop]
 exact X95 hf hx hy hT hs hi hk
theorem Xf7{P:Program}{n:Nat}{e:Env}{ty:TypeId}{pos:String}{af:Array Edge}{g:Option (Nat×Bool)}{d:Option Tmp}{T k:Nat}{x y:Operand}{i:Int}(hx:ev e x=some (.slice A l.length c))(hy:ev e y=some (.int .i64 i))(hT:SliceT P T E)(hs:SizeT P E sz)(hi:i=(k:Int))(hk:k≤l.length) : EvW P ⟨d,.slice T x (some y) none none,ty,pos,af,g⟩ n e w (.slice (if c=k then A else A.map (·.add (k*sz))) (l.drop k).length (c-k)):=fun a hf=>Xgi hf hx hy hT hs hi hk
theorem Own.cap(h:Own w B0 E sz enc A c l) : l.length≤c:=by
 rcases h.2 with ⟨h1,h2⟩|⟨g,cap,cur,h1,h2,h3,h4,h5,h6⟩
 ·omega
 ·injection h1 with _ _ h1
  omega
theorem Own.of_flat(hsz:∀ x,(enc x).length=sz){b m:Nat}(h:Blk w b E (l.flatMap enc))(hb:B0≤b)(hl:l.length=m)(hk:m≤maxLen) : Own w B0 E sz enc (some ⟨b,0,none⟩) m l:=Own.of_blkL hsz h hb rfl hl hk
end
theorem Kept.app{α:Type}{b B B0:Nat}{w0 w w':World}{E:TypeId}{sz:Nat}{enc:α→List Value}{A:Option Addr}{c:Nat}{l:List α}(h:Kept b B w0 w)(ho:Own w B0 E sz enc A c l)(hg:w.grownBy w' (Value.slice A l.length c).ownBlock)(hB:B≤B0)(hs:B≤w.heap.size) : Kept b B w0 w':=
 ⟨hg.os.trans h.os,hg.tape.trans h.tape,hg.output.trans h.output,Nat.le_trans h.size hg.size,fun k hk hne=>(hg.block k (by omega) fun hk'=>by have:=(ho.block hk'.symm).1;omega).trans (h.block k hk hne)⟩
theorem Xbn{α:Type}{P:Program}{a:Act}{w:World}{n:Nat}{e:Env}{ty:TypeId}{pos:String}{af:Array Edge}{g:Option (Nat×Bool)}{d:Option Tmp}{T E:TypeId}{sz bytes B b0:Nat}{x y:Operand}{enc:α→List Value}{A2:Option Addr}{c2:Nat}{l2:List α}(hf:Fr a n e)(hx:ev e x=some (.slice (some ⟨b0,0,none⟩) 0 0))(hy:ev e y=some (.slice A2 l2.length c2))
  (hT:SliceT P T E) (hi:InfoT P E sz bytes) (hsz:∀ x,(enc x).length=sz) (hone:∀ x,(enc x).all one=true) (hb:Blk w b0 E []) (hr:Rd w B E enc A2 l2) (h63:l2.length≤maxLen) (hbytes:l2.length*bytes≤140737488355328) :
  Ef P ⟨d,.call ⟨.builtin .append,#[x,y],#[T,T]⟩,ty,pos,af,g⟩ a w (fun v w'=>∃ A' c',v=.slice A' l2.length c'∧Own w' b0 E sz enc A' c' l2∧Below w.heap.size w w'):=by
 by_cases hl2:l2=[]
 ·subst hl2
  obtain ⟨i,z,hi1,hi2,hi3,hi4,hi5,hi6⟩:=hi
  have hrun:(Builtin.append_ #[T,T] ty #[.slice (some ⟨b0,0,none⟩) 0 0,.slice A2 0 c2]).run P w=.ok (.slice (some ⟨b0,0,none⟩) 0 0) w:=by
   cases A2<;>simp [Builtin.append_,Xr hT,sizeOf,typeInfo,hi1,Builtin.lenOf,Builtin.firstCells,loadCells,loadCellsFrom,storeCells]
  refine (Ef.of_run (v:=.slice (some ⟨b0,0,none⟩) 0 0) (w':=w) ?_).mono fun v w' ⟨e1,e2⟩=>?_
  ·simp only [List.length_nil] at hy
   simp [execOp,resolve,invoke,builtin,hf.ev hx,hf.ev hy,hrun]
  ·subst e1;subst e2
   exact ⟨_,_,rfl,Own.empty hb (Nat.le_refl _),Below.refl _ _⟩
 ·have hown:Own w b0 E sz enc (some ⟨b0,0,none⟩) 0 ([] : List α):=Own.empty hb (Nat.le_refl _)
  obtain ⟨i,z,hi1,hi2,rfl,rfl,hi5,hi6⟩:=hi;obtain ⟨b,off,cs,fz,rfl,h2,h3,h4⟩:=hr hl2;have hlen2:=Xj hsz l2
  have hpos:0<l2.length:=List.length_pos_iff.2 hl2
  have h:=run_append_grow (P:=P) w T ty E i z hT hi1 hi2 ⟨b0,0,none⟩ 0 0 [] (by simp) (fun j u hu=>by simp at hu)
   ⟨b,off,none⟩ l2.length c2 (l2.flatMap enc) hlen2 (fun j u hu=>by
    have:=h4 j u hu
    rw [X1b]
    simp [World.cell?,h3,this])
   (by omega) (by simp only [maxLen] at h63;omega) (growslice_fits (by omega) (by simpa using hbytes))
  simp only [Nat.zero_add] at h
  refine (Ef.of_run (w':=w.drew.alloc (.cells (([] : List Value).toArray++(l2.flatMap enc).toArray++Builtin.zeroCells z.cells (grownCap w l2.length 0 E-l2.length)) E)) (v:=.slice (some ⟨w.heap.size,0,none⟩) l2.length (grownCap w l2.length 0 E)) ?_).mono fun v w' ⟨e1,e2⟩=>?_
  ·simp [execOp,resolve,invoke,builtin,hf.ev hx,hf.ev hy,h]
  ·subst e1;subst e2
   have hb0:=hb.lt;have hge:=grownCap_ge w l2.length 0 E
   refine ⟨_,_,rfl,?_,((Below.refl _ _).drew).alloc (Nat.le_refl _) _⟩
   refine ⟨Xj hsz _,.inr ⟨w.heap.size,_,_,rfl,by omega,heap_alloc_new w.drew _,hge,grownCap_le_maxLen w _ _ E h63,?_,?_⟩⟩
   ·simp only [Array.size_append,List.size_toArray,size_zeroCells,hi5,hlen2,List.length_nil,Nat.zero_add,← Nat.add_mul]
    congr 1
    omega
   ·rw [← hlen2]
    simp only [Array.toList_append,List.append_assoc,List.nil_append]
    exact List.take_left
theorem X4n{α:Type}{P:Program}{w:World}{n:Nat}{e:Env}{ty:TypeId}{pos:String}{af:Array Edge}{g:Option (Nat×Bool)}{d:Option Tmp}{T E:TypeId}{sz bytes B b0:Nat}{x y:Operand}{enc:α→List Value}{A2:Option Addr}{c2:Nat}{l2:List α}(hx:ev e x=some (.slice (some ⟨b0,0,none⟩) 0 0))(hy:ev e y=some (.slice A2 l2.length c2))(hT:SliceT P T E)(hi:InfoT P E sz bytes)(hsz:∀ x,(enc x).length=sz)(hone:∀ x,(enc x).all one=true)(hb:Blk w b0 E [])(hr:Rd w B E enc A2 l2)(h63:l2.length≤maxLen)(hbytes:l2.length*bytes≤140737488355328) : EfW P ⟨d,.call ⟨.builtin .append,#[x,y],#[T,T]⟩,ty,pos,af,g⟩ n e w (fun v w'=>∃ A' c',v=.slice A' l2.length c'∧Own w' b0 E sz enc A' c' l2∧Below w.heap.size w w'):=fun a hf=>Xbn hf hx hy hT hi hsz hone hb hr h63 hbytes
end Go.Proofs.YtiejkplemjkjoaaGreatDoor
namespace Go.Proofs.YtiejkplemjkjoaaGreatDoor
open Go.RowKit Go.Sort
def sortI(l:List Int) : List Int:=l.mergeSort fun x y=>decide (x≤y)
end Go.Proofs.YtiejkplemjkjoaaGreatDoor
namespace Go.Proofs.YtiejkplemjkjoaaGreatDoor
open Go.RowKit
structure Sl where (A:Option Addr) (c:Nat) (l:List Int)
def encS(s:Sl) : List Value:=[.slice s.A s.l.length s.c]
structure Rp where (pos:Int) (old new:List Gt)
theorem X89{α β:Type}{f:α→List β}{l:List α}{k:Nat}{u:α}(h:l[k]? = some u) : (l.take (k+1)).flatMap f=(l.take k).flatMap f++f u:=by
 rw [List.take_add_one,h]
 simp
theorem X9c{α β:Type}(f:α→List β)(l:List α)(k:Nat) : ((l.take k).flatMap f).length≤(l.flatMap f).length:=by
 conv=>rhs;rw [← List.take_append_drop k l]
 rw [List.flatMap_append,List.length_append]
 omega
theorem Xe6{α β:Type}(f:α→List β){l:List α}{k:Nat}(h:l.length≤k) : (l.take k).flatMap f=l.flatMap f:=by rw [List.take_of_length_le h]
def unionI(p q:List Int) : List Int:=Lib.compact (sortI (p++(q++[])))
def qubI(g:Gt) : List Int:=if g.k=12 then [] else if inR g.k 9 11=true then [g.a,g.b] else [g.a]
def usedI(l:List Gt) : List Int:=unionI (l.flatMap qubI) []
def setAll:List Int→Nat→List Int→List Int
 | [],_,to=>to
 | q::l,i,to=>setAll l (i+1) (to.set q.toNat (i:Int))
def numbI(l:List Int) : List Int:=setAll l 0 [0,0,0,0,0]
def mapG(to:List Int)(g:Gt) : Gt:=⟨g.k,if g.k=12 then g.a else to.getD g.a.toNat 0,if inR g.k 9 11=true then to.getD g.b.toNat 0 else g.b⟩
def mapI(l:List Gt)(to:List Int) : List Gt:=l.map (mapG to)
def vrI(n:Int)(r:Rp) : Bool:=inR n 1 5&&inR r.pos 0 400&&decide ((r.old.length:Int)≤40)&&decide ((r.new.length:Int)≤40)&&!(r.old.any fun x=>!gOk n x)&&!(r.new.any fun x=>!gOk n x)
def oA(A:Option Addr)(m:Nat) : Addr:=match A with
 | some p=>⟨p.block,m,none⟩
 | none=>⟨0,m,none⟩
theorem X3c{l vs:List Value}{off:Nat}(h:off+vs.length≤l.length)(i:Nat) : (splice l off vs)[i]? = if i<off then l[i]? else if i<off+vs.length then vs[i-off]? else l[i]?:=by
 unfold splice
 have h1:(l.take off).length=off:=by rw [List.length_take];omega
 by_cases h2:i<off
 ·rw [if_pos h2,List.append_assoc,List.getElem?_append_left (by omega),List.getElem?_take_of_lt h2]
 ·rw [if_neg h2]
  by_cases h3:i<off+vs.length
  ·rw [if_pos h3,List.getElem?_append_left (by rw [List.length_append];omega),List.getElem?_append_right (by omega),h1]
  ·rw [if_neg h3,List.getElem?_append_right (by rw [List.length_append];omega),List.length_append,h1,List.getElem?_drop]
   congr 1
   omega
theorem X3y{l vs:List Value}{off:Nat}(h:off+vs.length≤l.length) : (splice l off vs).length=l.length:=by
 unfold splice
 simp only [List.length_append,List.length_take,List.length_drop]
 omega
theorem Xa8{l x vs:List Value}{o j:Nat}(hx:∀ i,i<x.length→l[o+i]? = x[i]?)(h1:o+x.length≤l.length)(h2:j+vs.length≤x.length) : splice l (o+j) vs=splice l o (splice x j vs):=by
 have h3:=X3y h2
 apply List.ext_getElem?
 intro i
 rw [X3c (by omega),X3c (by omega),h3]
 by_cases a1:i<o
 ·rw [if_pos (by omega),if_pos a1]
 ·rw [if_neg a1]
  by_cases a2:i<o+x.length
  ·rw [if_pos a2,X3c h2]
   by_cases a3:i<o+j
   ·rw [if_pos a3,if_pos (show i-o<j by omega),← hx (i-o) (by omega)];congr 1;omega
   ·rw [if_neg a3,if_neg (show ¬ i-o<j by omega)]
    by_cases a4:i<o+j+vs.length
    ·rw [if_pos a4,if_pos (show i-o<j+vs.length by omega)];congr 1;omega
    ·rw [if_neg a4,if_neg (show ¬ i-o<j+vs.length by omega),← hx (i-o) (by omega)];congr 1;omega
  ·rw [if_neg a2,if_neg (by omega),if_neg (by omega)]
theorem Xa2{l vs:List Value}{off N:Nat}(h:off+vs.length≤N)(hN:N≤l.length) : (splice l off vs).take N=splice (l.take N) off vs:=by
 apply List.ext_getElem?
 intro i
 by_cases hi:i<N
 ·rw [List.getElem?_take_of_lt hi,X3c (by omega),X3c (by rw [List.length_take];omega),List.getElem?_take_of_lt hi]
 ·rw [List.getElem?_take_eq_none (by omega),List.getElem?_eq_none]
  rw [X3y (by rw [List.length_take];omega),List.length_take];omega
theorem Xcf{α:Type}{enc:α→List Value}{sz:Nat}(hsz:∀ x,(enc x).length=sz) : ∀ (l:List α) (k i:Nat) (x:α),l[k]? = some x→i<sz→(l.flatMap enc)[k*sz+i]? = (enc x)[i]?
 | [],k,i,x,h,_=>by simp at h
 | y::l,0,i,x,h,hi=>by
  simp at h;subst h
  rw [List.flatMap_cons,Nat.zero_mul,Nat.zero_add,List.getElem?_append_left (by rw [hsz];exact hi)]
 | y::l,k+1,i,x,h,hi=>by
  have h':l[k]? = some x:=by simpa using h
  have e:(k+1)*sz+i=sz+(k*sz+i):=by rw [Nat.add_mul];omega
  rw [List.flatMap_cons,e,List.getElem?_append_right (by rw [hsz];omega),hsz,Nat.add_sub_cancel_left]
  exact Xcf hsz l k i x h' hi
section
variable {P : Program} {a : Act} {w w' : World} {n : Nat} {e : Env} {ty : TypeId} {pos : String} {af : Array Edge} {g : Option (Nat × Bool)} {d : Option Tmp} {α : Type}
theorem X9w{T E:TypeId}{sz B0 k m:Nat}{x y:Operand}{enc:α→List Value}{A:Option Addr}{c:Nat}{l:List α}{i:Int}(hf:Fr a n e)(hx:ev e x=some (.slice A m c))(hy:ev e y=some (.int .i64 i))(hT:SliceT P T E)(hs:SizeT P E sz)
  (ho:Own w' B0 E sz enc A c l) (hm:m=l.length) (hi:i=(k:Int)) (hk:k<l.length) : Ev P ⟨d,.indexAddr T x y,ty,pos,af,g⟩ a w (.pointer (some (oA A (k*sz)))):=by
 subst hm
 rcases ho.2 with ⟨h1,h2⟩|⟨b,cap,cur,h1,h2,h3,h4⟩
 ·omega
 ·injection h1 with h1
  rw [h1] at hx ⊢
  exact X86 (b:=b) (off:=k*sz) hf hx hy hT hs hi hk rfl
theorem X06{T E:TypeId}{sz B0 k m:Nat}{x y:Operand}{enc:α→List Value}{A:Option Addr}{c:Nat}{l:List α}{i:Int}(hx:ev e x=some (.slice A m c))(hy:ev e y=some (.int .i64 i))(hT:SliceT P T E)(hs:SizeT P E sz)(ho:Own w' B0 E sz enc A c l)(hm:m=l.length)(hi:i=(k:Int))(hk:k<l.length) : EvW P ⟨d,.indexAddr T x y,ty,pos,af,g⟩ n e w (.pointer (some (oA A (k*sz)))):=fun a hf=>X9w hf hx hy hT hs ho hm hi hk
theorem X9r{T f k m:Nat}{x:Operand}{A:Option Addr}(hf:Fr a n e)(hx:ev e x=some (.pointer (some (oA A m))))(hF:FieldT P T f k){m':Nat}(hm:m+k=m') : Ev P ⟨d,.fieldAddr T x f,ty,pos,af,g⟩ a w (.pointer (some (oA A m'))):=by
 subst hm
 have h:=X7h (P:=P) (w:=w) (d:=d) (ty:=ty) (pos:=pos) (af:=af) (g:=g) hf hx hF
 have e:(oA A m).add k=oA A (m+k):=by cases A<;>simp [oA,Addr.add]
 rw [e] at h
 exact h
theorem X20{T f k m:Nat}{x:Operand}{A:Option Addr}(hx:ev e x=some (.pointer (some (oA A m))))(hF:FieldT P T f k){m':Nat}(hm:m+k=m') : EvW P ⟨d,.fieldAddr T x f,ty,pos,af,g⟩ n e w (.pointer (some (oA A m'))):=fun a hf=>X9r hf hx hF hm
theorem Xaa{t E:TypeId}{sz B0 k j m n1:Nat}{x y:Operand}{enc:α→List Value}{A:Option Addr}{c:Nat}{l:List α}{v:Value}{vs:List Value}{x0 u:α}(hf:Fr a n e)(hx:ev e x=some (.pointer (some (oA A m))))(hy:ev e y=some v)(hs:SizeT P t n1)
  (ho:Own w B0 E sz enc A c l) (hsz:∀ x,(enc x).length=sz) (hv:v.cells.toList=vs) (hn:Nat.beq vs.length n1=true) (h1:vs.all one=true) (hm:k*sz+j=m) (hj:j+n1≤sz) (hk:l[k]? = some x0) (hu:splice (enc x0) j vs=enc u) :
  Ef P ⟨d,.store t x y,ty,pos,af,g⟩ a w (fun _ w'=>Own w' B0 E sz enc A c (l.set k u)∧w.grownBy w' (Value.slice A l.length c).ownBlock):=by
 have hkl:k<l.length:=(List.getElem?_eq_some_iff.1 hk).1
 rcases ho.2 with ⟨e1,e2⟩|⟨b,cap,cur,e1,e2,e3,e4,e5,e6,e7⟩
 ·omega
 ·injection e1 with e1 _ e1'
  subst hm;subst e1'
  have hcl:cur.toList.length=c*sz:=Array.length_toList.trans e6
  have hN:l.length*sz≤cur.toList.length:=by rw [hcl];exact Nat.mul_le_mul_right _ e4
  have hks:k*sz+sz≤l.length*sz:=by
   have:=Nat.mul_le_mul_right sz (show k+1≤l.length by omega)
   rwa [Nat.add_mul,Nat.one_mul] at this
  have hn':vs.length=n1:=Nat.eq_of_beq_eq_true hn
  rw [e1] at hx
  have hb:Blk w b E cur.toList:=by unfold Blk;rw [e3]
  refine (X73 (b:=b) (off:=k*sz+j) (vs:=vs) hf hx hy hs hb hv hn h1 (by rw [Nat.ble_eq];omega) rfl).mono fun _ w' ⟨hO,hB⟩=>?_
  have hlen:((l.set k u).flatMap enc).length=(l.set k u).length*sz:=Xj hsz _
  refine ⟨⟨hlen,.inr ⟨b,c,_,by rw [e1],e2,hB,by simp;omega,e5,?_,?_⟩⟩,?_⟩
  ·rw [List.size_toArray,X3y (by omega),hcl]
  ·simp only [List.length_set]
   rw [Xa2 (by omega) hN,e7,Xa8 (x:=enc x0) (fun i hi=>?_) (by rw [Xj hsz,hsz];omega) (by rw [hsz];omega),hu]
   ·exact X4w hsz l k u hkl
   ·exact Xcf hsz l k i x0 hk (by rw [← hsz x0];exact hi)
  ·rw [e1]
   exact ⟨hO.os,hO.tape,hO.output,by rw [hO.size];exact Nat.le_refl _,fun q _ hne=>hO.block q fun e=>hne (by rw [e];rfl)⟩
theorem X18{t E:TypeId}{sz B0 k j m n1:Nat}{x y:Operand}{enc:α→List Value}{A:Option Addr}{c:Nat}{l:List α}{v:Value}{vs:List Value}{x0 u:α}(hx:ev e x=some (.pointer (some (oA A m))))(hy:ev e y=some v)(hs:SizeT P t n1)(ho:Own w B0 E sz enc A c l)(hsz:∀ x,(enc x).length=sz)(hv:v.cells.toList=vs)(hn:Nat.beq vs.length n1=true)(h1:vs.all one=true)(hm:k*sz+j=m)(hj:j+n1≤sz)(hk:l[k]? = some x0)(hu:splice (enc x0) j vs=enc u) : EfW P ⟨d,.store t x y,ty,pos,af,g⟩ n e w (fun _ w'=>Own w' B0 E sz enc A c (l.set k u)∧w.grownBy w' (Value.slice A l.length c).ownBlock):=fun a hf=>Xaa hf hx hy hs ho hsz hv hn h1 hm hj hk hu
end
section
variable {P : Program} {ops : Array Oper} {a : Act} {w : World} {n d : Nat} {e : Env} {ty : TypeId} {pos : String} {af : Array Edge} {g : Option (Nat × Bool)} {α : Type}
end
def Apart(A A':Option Addr) : Prop:=∀ p q,A=some p→A'=some q→p.block≠q.block
section
variable {α β : Type} {w w' : World} {B B0 B1 : Nat} {E E' : TypeId} {sz sz' : Nat} {enc : α → List Value} {enc' : β → List Value} {A A' : Option Addr} {c c' : Nat} {l : List α} {l' : List β}
theorem Own.apart(h:Own w B E sz enc A c l)(h':Own w' B0 E' sz' enc' A' c' l')(hB:w.heap.size≤B0) : Apart A A':=fun p q hp hq=>by
 rcases h.2 with ⟨h1,_⟩|⟨g,cap,cur,h1,h2,h3,_⟩
 ·injection h1 with h1;rw [h1] at hp;cases hp
 ·rcases h'.2 with ⟨k1,_⟩|⟨g',cap',cur',k1,k2,k3,_⟩
  ·injection k1 with k1;rw [k1] at hq;cases hq
  ·injection h1 with h1
   injection k1 with k1
   rw [h1] at hp
   rw [k1] at hq
   injection hp with hp
   injection hq with hq
   subst hp;subst hq
   have:=(Array.getElem?_eq_some_iff.1 h3).1
   intro e
   simp only at e
   omega
theorem Own.appP(h:Own w B1 E' sz' enc' A' c' l')(hg:w.grownBy w' (Value.slice A l.length c).ownBlock)(ha:Apart A' A) : Own w' B1 E' sz' enc' A' c' l':=by
 refine ⟨h.1,?_⟩
 rcases h.2 with h1|⟨g,cap,cur,h1,h2,h3,h4⟩
 ·exact .inl h1
 ·refine .inr ⟨g,cap,cur,h1,h2,(hg.block g (Array.getElem?_eq_some_iff.1 h3).1 fun hk=>?_).trans h3,h4⟩
  injection h1 with h1
  cases A with
  | none=>simp [Value.ownBlock] at hk
  | some q=>
   simp only [Value.ownBlock,Option.some.injEq] at hk
   exact ha _ q h1 rfl hk
theorem X6v(A:Option Addr)(n m c d:Nat) : (Value.slice A n c).ownBlock=(Value.slice A m d).ownBlock:=by cases A<;>rfl
theorem gtr{A:Option Addr}{n m c d:Nat}{w0 w w':World}(h:w0.grownBy w (Value.slice A n c).ownBlock)(k:w.grownBy w' (Value.slice A m d).ownBlock) : w0.grownBy w' (Value.slice A n c).ownBlock:=
 ⟨k.os.trans h.os,k.tape.trans h.tape,k.output.trans h.output,Nat.le_trans h.size k.size,fun q hq hn=>(k.block q (Nat.lt_of_lt_of_le hq h.size) (by rw [X6v A m n d c];exact hn)).trans (h.block q hq hn)⟩
theorem Own.len{m:Nat}(h:Own w B E sz enc A c l)(hm:m=l.length) : Own w B E sz enc A c l∧Value.slice A m c=Value.slice A l.length c:=⟨h,by rw [hm]⟩
theorem Apart.symm(h:Apart A A') : Apart A' A:=fun p q hp hq e=>h q p hq hp e.symm
end
def DeepI(w:World)(B:Nat)(l:List Sl) : Prop:=∀ s ∈ l,Rd w B 3 encI s.A s.l
section
variable {w w' : World} {B : Nat} {l : List Sl}
theorem DeepI.below(h:DeepI w B l)(hb:Below w.heap.size w w') : DeepI w' B l:=fun s hs=>(h s hs).below hb
theorem DeepI.top(h:DeepI w B l) : DeepI w w.heap.size l:=fun s hs=>(h s hs).top
theorem DeepI.only{b:Nat}(h:DeepI w B l)(ho:Only b w w')(hB:B≤b) : DeepI w' B l:=fun s hs=>(h s hs).only ho hB
theorem DeepI.onlyT{b:Nat}{T:TypeId}{lc:List Value}(h:DeepI w B l)(ho:Only b w w')(hb:Blk w b T lc)(hT:Nat.beq 3 T=false) : DeepI w' B l:=fun s hs=>(h s hs).onlyT ho hb hT
theorem DeepI.appB{B0:Nat}{E':TypeId}{sz:Nat}{α:Type}{enc:α→List Value}{A:Option Addr}{c:Nat}{m:List α}(h:DeepI w B l)(ho:Own w B0 E' sz enc A c m)(hg:w.grownBy w' (Value.slice A m.length c).ownBlock)(hB:B≤B0) : DeepI w' B l:=fun s hs=>(h s hs).appB ho hg hB
theorem DeepI.appT{B0:Nat}{E':TypeId}{sz:Nat}{α:Type}{enc:α→List Value}{A:Option Addr}{c:Nat}{m:List α}(h:DeepI w B l)(ho:Own w B0 E' sz enc A c m)(hg:w.grownBy w' (Value.slice A m.length c).ownBlock)(hT:Nat.beq E' 3=false) : DeepI w' B l:=fun s hs=>(h s hs).appT ho hg hT
theorem DeepI.nil(w:World)(B:Nat) : DeepI w B []:=fun s hs=>by cases hs
theorem DeepI.snoc{s:Sl}(h:DeepI w B l)(hr:Rd w B 3 encI s.A s.l) : DeepI w B (l++[s]):=fun t ht=>by
 rcases List.mem_append.1 ht with h1|h1
 ·exact h t h1
 ·rw [List.mem_singleton] at h1;subst h1;exact hr
theorem DeepI.eq{l':List Sl}(h:DeepI w B l)(e:l'=l) : DeepI w B l':=by rw [e];exact h
end
def LowI(B:Nat)(l:List Sl) : Prop:=∀ s ∈ l,∀ p,s.A=some p→B≤p.block
def Und(A:Option Addr)(B:Nat) : Prop:=∀ p,A=some p→p.block<B
theorem LowI.nil(B:Nat) : LowI B []:=fun s hs=>by cases hs
theorem LowI.snoc{B:Nat}{l:List Sl}{s:Sl}(h:LowI B l)(hs:∀ p,s.A=some p→B≤p.block) : LowI B (l++[s]):=fun t ht=>by
 rcases List.mem_append.1 ht with h1|h1
 ·exact h t h1
 ·rw [List.mem_singleton] at h1;subst h1;exact hs
section
variable {α : Type} {w w' : World} {B B1 : Nat} {E : TypeId} {sz : Nat} {enc : α → List Value} {A : Option Addr} {c : Nat} {l : List α} {m : List Sl}
end
theorem Apart.app{α:Type}{w:World}{B:Nat}{E:TypeId}{sz:Nat}{enc:α→List Value}{A A1 A2:Option Addr}{c:Nat}{l:List α}(h:Own w B E sz enc A c l)(ha:Apart A A1)(hat:∀ b,b<w.heap.size→Away A1 b→Away A2 b) : Apart A A2:=by
 intro p q hp hq
 rcases h.2 with ⟨h1,_⟩|⟨g,cap,cur,h1,_,h3,_⟩
 ·injection h1 with h1;rw [h1] at hp;cases hp
 ·injection h1 with h1
  rw [h1] at hp
  injection hp with hp
  have hlt:p.block<w.heap.size:=by rw [← hp];exact (Array.getElem?_eq_some_iff.1 h3).1
  have haw:Away A1 p.block:=fun r hr e=>ha p r (by rw [h1,hp]) hr e.symm
  exact fun e=>hat _ hlt haw q hq e.symm
theorem X9x{α:Type}{P:Program}{a:Act}{w:World}{n:Nat}{e:Env}{ty:TypeId}{pos:String}{af:Array Edge}{g:Option (Nat×Bool)}{d:Option Tmp}{T E:TypeId}{sz bytes B b0:Nat}{x y:Operand}{enc:α→List Value}{A2:Option Addr}{c2:Nat}{l2:List α}(hf:Fr a n e)(hx:ev e x=some (.slice (some ⟨b0,0,none⟩) 0 0))(hy:ev e y=some (.slice A2 l2.length c2))
  (hT:SliceT P T E) (hi:InfoT P E sz bytes) (hsz:∀ x,(enc x).length=sz) (hone:∀ x,(enc x).all one=true) (hb:Blk w b0 E []) (hr:Rd w B E enc A2 l2) (h63:l2.length≤maxLen) (hbytes:l2.length*bytes≤140737488355328) :
  Ef P ⟨d,.call ⟨.builtin .append,#[x,y],#[T,T]⟩,ty,pos,af,g⟩ a w (fun v w'=>∃ A' c',v=.slice A' l2.length c'∧Own w' b0 E sz enc A' c' l2∧Below w.heap.size w w'∧∀ b,b<w.heap.size→b≠b0→Away A' b):=by
 by_cases hl2:l2=[]
 ·subst hl2
  obtain ⟨i,z,hi1,hi2,hi3,hi4,hi5,hi6⟩:=hi
  have hrun:(Builtin.append_ #[T,T] ty #[.slice (some ⟨b0,0,none⟩) 0 0,.slice A2 0 c2]).run P w=.ok (.slice (some ⟨b0,0,none⟩) 0 0) w:=by
   cases A2<;>simp [Builtin.append_,Xr hT,sizeOf,typeInfo,hi1,Builtin.lenOf,Builtin.firstCells,loadCells,loadCellsFrom,storeCells]
  refine (Ef.of_run (v:=.slice (some ⟨b0,0,none⟩) 0 0) (w':=w) ?_).mono fun v w' ⟨e1,e2⟩=>?_
  ·simp only [List.length_nil] at hy
   simp [execOp,resolve,invoke,builtin,hf.ev hx,hf.ev hy,hrun]
  ·subst e1;subst e2
   exact ⟨_,_,rfl,Own.empty hb (Nat.le_refl _),Below.refl _ _,fun b _ hne=>Away.ne hne⟩
 ·have hown:Own w b0 E sz enc (some ⟨b0,0,none⟩) 0 ([] : List α):=Own.empty hb (Nat.le_refl _)
  obtain ⟨i,z,hi1,hi2,rfl,rfl,hi5,hi6⟩:=hi;obtain ⟨b,off,cs,fz,rfl,h2,h3,h4⟩:=hr hl2;have hlen2:=Xj hsz l2
  have hpos:0<l2.length:=List.length_pos_iff.2 hl2
  have h:=run_append_grow (P:=P) w T ty E i z hT hi1 hi2 ⟨b0,0,none⟩ 0 0 [] (by simp) (fun j u hu=>by simp at hu)
   ⟨b,off,none⟩ l2.length c2 (l2.flatMap enc) hlen2 (fun j u hu=>by
    have:=h4 j u hu
    rw [X1b]
    simp [World.cell?,h3,this])
   (by omega) (by simp only [maxLen] at h63;omega) (growslice_fits (by omega) (by simpa using hbytes))
  simp only [Nat.zero_add] at h
  refine (Ef.of_run (w':=w.drew.alloc (.cells (([] : List Value).toArray++(l2.flatMap enc).toArray++Builtin.zeroCells z.cells (grownCap w l2.length 0 E-l2.length)) E)) (v:=.slice (some ⟨w.heap.size,0,none⟩) l2.length (grownCap w l2.length 0 E)) ?_).mono fun v w' ⟨e1,e2⟩=>?_
  ·simp [execOp,resolve,invoke,builtin,hf.ev hx,hf.ev hy,h]
  ·subst e1;subst e2
   have hb0:=hb.lt;have hge:=grownCap_ge w l2.length 0 E
   refine ⟨_,_,rfl,?_,((Below.refl _ _).drew).alloc (Nat.le_refl _) _,fun b hb _=>Away.ne (by omega)⟩
   refine ⟨Xj hsz _,.inr ⟨w.heap.size,_,_,rfl,by omega,heap_alloc_new w.drew _,hge,grownCap_le_maxLen w _ _ E h63,?_,?_⟩⟩
   ·simp only [Array.size_append,List.size_toArray,size_zeroCells,hi5,hlen2,List.length_nil,Nat.zero_add,← Nat.add_mul]
    congr 1
    omega
   ·rw [← hlen2]
    simp only [Array.toList_append,List.append_assoc,List.nil_append]
    exact List.take_left
theorem X50{α:Type}{P:Program}{w:World}{n:Nat}{e:Env}{ty:TypeId}{pos:String}{af:Array Edge}{g:Option (Nat×Bool)}{d:Option Tmp}{T E:TypeId}{sz bytes B b0:Nat}{x y:Operand}{enc:α→List Value}{A2:Option Addr}{c2:Nat}{l2:List α}(hx:ev e x=some (.slice (some ⟨b0,0,none⟩) 0 0))(hy:ev e y=some (.slice A2 l2.length c2))(hT:SliceT P T E)(hi:InfoT P E sz bytes)(hsz:∀ x,(enc x).length=sz)(hone:∀ x,(enc x).all one=true)(hb:Blk w b0 E [])(hr:Rd w B E enc A2 l2)(h63:l2.length≤maxLen)(hbytes:l2.length*bytes≤140737488355328) : EfW P ⟨d,.call ⟨.builtin .append,#[x,y],#[T,T]⟩,ty,pos,af,g⟩ n e w (fun v w'=>∃ A' c',v=.slice A' l2.length c'∧Own w' b0 E sz enc A' c' l2∧Below w.heap.size w w'∧∀ b,b<w.heap.size→b≠b0→Away A' b):=fun a hf=>X9x hf hx hy hT hi hsz hone hb hr h63 hbytes
theorem Apart.new0{α:Type}{w:World}{B b0:Nat}{E:TypeId}{sz:Nat}{enc:α→List Value}{A A':Option Addr}{c:Nat}{l:List α}(h:Own w B E sz enc A c l)(ha:Away A b0)(hat:∀ b,b<w.heap.size→b≠b0→Away A' b) : Apart A A':=fun p q hp hq e=>by
 rcases h.2 with ⟨h1,_⟩|⟨g,cap,cur,h1,_,h3,_⟩
 ·injection h1 with h1;rw [h1] at hp;cases hp
 ·injection h1 with h1
  rw [h1] at hp
  injection hp with hp
  have hlt:p.block<w.heap.size:=by rw [← hp];exact (Array.getElem?_eq_some_iff.1 h3).1
  exact hat _ hlt (ha p (by rw [h1,hp])) q hq e.symm
section
variable {P : Program} {ops : Array Oper} {V : Option Nat} {tl : Nat → Bool} {Q : Act → World → Prop} {fuel : Nat} {done : List Nat} {w : World} {o : Oper} {op : Op} {ty : TypeId} {pos : String} {af : Array Edge} {g : Option (Nat × Bool)} {n d : Nat} {e : Env} {v : Value} {R : Value → World → Prop} {x : Operand}
theorem Xli{a:Act}(i j k l:Nat)(hr:Region.ready .any ops (mask ops done)=[i,j,k,l])(hi:wpR P ops V tl i (wpS P ops V tl Q fuel (mask ops (i::done))) a w)
  (hj:wpR P ops V tl j (wpS P ops V tl Q fuel (mask ops (j::done))) a w) (hk:wpR P ops V tl k (wpS P ops V tl Q fuel (mask ops (k::done))) a w) (hl:wpR P ops V tl l (wpS P ops V tl Q fuel (mask ops (l::done))) a w) : wpS P ops V tl Q (fuel+1) (mask ops done) a w:=by
 refine ⟨fun h0=>(by rw [hr] at h0;cases h0),fun m hm=>?_⟩
 rw [hr] at hm
 rw [X3h]
 simp only [List.mem_cons,List.not_mem_nil,or_false] at hm
 rcases hm with rfl|rfl|rfl|rfl
 ·exact hi
 ·exact hj
 ·exact hk
 ·exact hl
theorem Y4(i j k l:Nat)(hi:WR P ops V tl Q i fuel done n e w)(hj:WR P ops V tl Q j fuel done n e w)(hk:WR P ops V tl Q k fuel done n e w)(hl:WR P ops V tl Q l fuel done n e w)(hr:Region.ready .any ops (mask ops done)=[i,j,k,l]:=by kernel_rfl) : WS P ops V tl Q (fuel+1) done n e w:=fun a hf=>Xli i j k l hr (hi a hf) (hj a hf) (hk a hf) (hl a hf)
end
def markI(k:Int)(n:Nat) : List Int:=(List.range n).map fun (j:Nat)=>k+(j:Int)
def markG(k:Int)(n:Nat) : List Gt:=(List.range n).map fun (j:Nat)=>⟨k+3*(j:Int),k+3*(j:Int)+1,k+3*(j:Int)+2⟩
def heldI:List Int→Int→Int
 | [],k=>k
 | x::l,k=>if x=k then heldI l (k+1) else -1
def heldG:List Gt→Int→Int
 | [],k=>k
 | x::l,k=>if x.k=k∧x.a=k+1∧x.b=k+2 then heldG l (k+3) else -1
def Agree(o:Option Dy)(p:Bool×Dy) : Prop:=(∀ z,o=some z→p=(false,z)∧dOk z=true)∧(o=none→p.1=true)
def dotS(f:Bool)(a b:Mx)(i j:Nat) : Nat→Bool×Dy
 | 0=>(f,dZ)
 | n+1=>if (dotS f a b i j n).1=true then dotS f a b i j n else
   sAdd (sMul false (a.at i n) (b.at n j)).1 (dotS f a b i j n).2 (sMul false (a.at i n) (b.at n j)).2
def AllOk(m:Mx) : Prop:=∀ x ∈ m.cells,dOk x=true
def timesL(f:Bool)(a b:Mx) : Nat→Bool×List Dy
 | 0=>(f,[])
 | n+1=>((dotS (timesL f a b n).1 a b (n/b.cols.toNat) (n % b.cols.toNat) a.cols.toNat).1,(timesL f a b n).2++[(dotS (timesL f a b n).1 a b (n/b.cols.toNat) (n % b.cols.toNat) a.cols.toNat).2])
def timesS(f:Bool)(a b:Mx) : Bool×Mx:=((timesL f a b (a.rows.toNat*b.cols.toNat)).1,⟨a.rows,b.cols,(timesL f a b (a.rows.toNat*b.cols.toNat)).2⟩)
def unitS(d:Nat) : Mx:=⟨(d:Int),(d:Int),gridL (fun i j=>if i=j then dPow 0 else dZ) d (d*d)⟩
def bitT(p s:Nat) : Int:=bits .and .i64 ((s:Int)/2^p) 1
def flipT(p s:Nat) : Int:=bits .xor .i64 (s:Int) (wr (1*2^p))
def chkBits:Bool:=(List.range 5).all fun p=>(List.range 32).all fun s=>
 let f:=flipT p s
 Nat.blt f.toNat 32&&f==(f.toNat:Int)&&flipT p f.toNat==(s:Int)&&(bitT p f.toNat==1-bitT p s)&&(bitT p s==0||bitT p s==1) &&
 (List.range 5).all (fun q=>(q==p)||bitT q f.toNat==bitT q s) &&
 (List.range 5).all (fun q=>let g:=flipT q s;flipT p g.toNat==flipT q f.toNat) &&
 (List.range 32).all fun t=>(((t:Int)==s||f==(t:Int))==(bits .andNot .i64 (bits .xor .i64 (s:Int) (t:Int)) (wr (1*2^p))==0))
def chkSmall:Bool:=(List.range 6).all fun n=>(List.range n).all fun q=>(List.range (2^n)).all fun s=>Nat.blt (flipT (n-1-q) s).toNat (2^n)
structure BitsOk (p s:Nat) : Prop where
 nat:flipT p s=((flipT p s).toNat:Int)
 lt:(flipT p s).toNat<32
 back:flipT p (flipT p s).toNat=(s:Int)
 bit:bitT p (flipT p s).toNat=1-bitT p s
 other:∀ q<5,q≠p→bitT q (flipT p s).toNat=bitT q s
 comm:∀ q<5,flipT p (flipT q s).toNat=flipT q (flipT p s).toNat
 sel:∀ t:Nat,t<32→(((t:Int)=s∨flipT p s=(t:Int))↔bits .andNot .i64 (bits .xor .i64 (s:Int) (t:Int)) (wr (1*2^p))=0)
def applI(n:Int) : List Gt→Mx→Option Mx
 | [],m=>some m
 | g::l,m=>(mulI ((gateI n g).getD mZ) m).bind (applI n l)
def runS(n:Int)(f:Bool) : List Gt→Mx→Bool×Mx
 | [],m=>(f,m)
 | g::l,m=>if f=true then (f,m) else runS n (timesS false (gateS n g) m).1 l (timesS false (gateS n g) m).2
def opI(c:Cx) : Option Mx:=if cOk c=true then (idI ((2^c.n.toNat:Nat) : Int)).bind (applI c.n c.gs) else none
def opS(c:Cx) : Option Mx:=if cOk c=true then (if (runS c.n false c.gs (unitS (2^c.n.toNat))).1=true then none else some (runS c.n false c.gs (unitS (2^c.n.toNat))).2) else none
theorem X7o{c:Cx}(h:cOk c=true) : (1≤c.n∧c.n≤5)∧c.gs.length≤400∧∀ g ∈ c.gs,gOk c.n g=true:=by
 simp only [cOk,Bool.and_eq_true,X0v,decide_eq_true_eq,Bool.not_eq_true',List.any_eq_false] at h
 exact ⟨h.1.1,by omega,fun g hg=>by simpa using h.2 g hg⟩
def sameI(a b:Cx) : Bool×Bool:=
 if ((opI a).isSome&&(opI b).isSome&&a.n==b.n)=true then
  (mOk ((opI a).getD mZ)&&mOk ((opI b).getD mZ)&&eqPh ((opI a).getD mZ) ((opI b).getD mZ),mOk ((opI a).getD mZ)&&mOk ((opI b).getD mZ)) else (false,false)
def sameS(a b:Cx) : Bool×Bool:=
 if ((opS a).isSome&&(opS b).isSome&&a.n==b.n)=true then (phaseS ((opS a).getD mZ) ((opS b).getD mZ),true) else (false,false)
def unitP(d i:Nat) : List Dy:=(List.range (d*d)).map fun m=>if m/d=m % d∧m/d<i then dPow 0 else dZ
def putI:List Int→Int→List Int
 | [],n=>[n]
 | x::l,n=>if x<n then x::putI l n else if x=n then x::l else n::x::l
def usedStep(m:List Int)(g:Gt) : List Int:=if g.k=12 then m else if inR g.k 9 11=true then putI (putI m g.a) g.b else putI m g.a
def usedS(l:List Gt) : List Int:=l.foldl usedStep []
def lastN(l:List Int)(q:Int) : Nat→Int
 | 0=>0
 | k+1=>if l.getD k 0=q then (k:Int) else lastN l q k
section
variable {us : List Int} {j : Nat} {v q x k : Int}
end
def smallG(used:List Int)(g:Gt) : Gt:=⟨g.k,if g.k=12 then 0 else lastN used g.a used.length,if inR g.k 9 11=true then lastN used g.b used.length else 0⟩
def validS(n:Int)(r:Rp) : Bool:=inR n 1 5&&inR r.pos 0 400&&(!(r.old.any fun x=>!gOk n x)&&decide ((r.old.length:Int)≤40))&&(!(r.new.any fun x=>!gOk n x)&&decide ((r.new.length:Int)≤40))
theorem Xg4(n:Int)(r:Rp) : validS n r=vrI n r:=by
 unfold validS vrI
 cases inR n 1 5<;>cases inR r.pos 0 400<;>cases (r.old.any fun x=>!gOk n x)<;>cases (r.new.any fun x=>!gOk n x)<;>cases decide ((r.old.length:Int)≤40)<;>cases decide ((r.new.length:Int)≤40)<;>rfl
abbrev Inc(l:List Int) : Prop:=l.Pairwise (· < ·)
structure GoodG (us:List Int) (n:Int) (g:Gt) : Prop where
 ok:gOk n g=true
 use:∀ x ∈ qubI g,x ∈ us
def smallC(l:List Gt)(us:List Int) : Cx:=⟨max 1 (us.length:Int),l.map (smallG us)⟩
def mapC(l:List Gt)(us:List Int) : Cx:=⟨max (us.length:Int) 1,mapI l (numbI us)⟩
def justS(r:Rp) : Bool×Bool:=sameS (smallC r.old (usedS (r.old++r.new))) (smallC r.new (usedS (r.old++r.new)))
def justI(r:Rp) : Bool×Bool:=sameI (mapC r.old (unionI (usedI r.old) (usedI r.new))) (mapC r.new (unionI (usedI r.old) (usedI r.new)))
theorem Xke{n:Int}{r:Rp}(h:vrI n r=true) : (1≤n∧n≤5)∧(r.old.length≤40∧r.new.length≤40)∧(∀ g ∈ r.old,gOk n g=true)∧(∀ g ∈ r.new,gOk n g=true):=by
 simp only [vrI,Bool.and_eq_true,X0v,decide_eq_true_eq,Bool.not_eq_true',List.any_eq_false] at h
 refine ⟨h.1.1.1.1.1,by omega,fun g hg=>by simpa using h.1.2 g hg,fun g hg=>by simpa using h.2 g hg⟩
def implJ(n:Int)(r:Rp) : Bool×Bool:=if vrI n r=true then justI r else (false,false)
def specJ(n:Int)(r:Rp) : Bool×Bool:=if validS n r=true then justS r else (false,false)
def szG(l:List Gt)(left:Int) : Int:=if left-(l.length:Int)<0 then -1 else left-(l.length:Int)
def szR(r:Rp)(left:Int) : Int:=if szG r.old left<0 then -1 else if szG r.new (szG r.old left)<0 then -1 else szG r.new (szG r.old left)
theorem X9j{l:List Gt}{left:Int}(h:¬ szG l left<0) : szG l left=left-(l.length:Int)∧0≤left-(l.length:Int):=by
 unfold szG at *
 split
 ·rename_i h1;rw [if_pos h1] at h;omega
 ·exact ⟨rfl,by omega⟩
theorem Xgd{α:Type}{m l:List α}{k:Nat}{u:α}(h:m.take k=l.take k)(hk:k<m.length)(hu:l[k]? = some u) : (m.set k u).take (k+1)=l.take (k+1):=by
 rw [List.take_add_one,List.take_add_one,hu,← h]
 congr 1
 ·rw [List.take_set_of_le (Nat.le_refl _)]
 ·simp [hk]
structure Sr where (pos:Int) (A:Option Addr) (c:Nat) (old:List Gt) (B:Option Addr) (d:Nat) (new:List Gt)
def encSr(s:Sr) : List Value:=[.int .i64 s.pos,.slice s.A s.old.length s.c,.slice s.B s.new.length s.d]
abbrev Sr.rp(s:Sr) : Rp:=⟨s.pos,s.old,s.new⟩
def srZ:Sr:=⟨0,none,0,[],none,0,[]⟩
def DeepR(w:World)(B:Nat)(E:TypeId)(l:List Sr) : Prop:=∀ s ∈ l,Rd w B E encG s.A s.old∧Rd w B E encG s.B s.new
def DeepX(w:World)(B:Nat)(l:List Sr) : Prop:=∀ s ∈ l,(∃ E,Rd w B E encG s.A s.old)∧∃ E,Rd w B E encG s.B s.new
section
variable {w w' : World} {B : Nat} {E : TypeId} {l : List Sr}
theorem DeepR.below(h:DeepR w B E l)(hb:Below w.heap.size w w') : DeepR w' B E l:=fun s hs=>⟨(h s hs).1.below hb,(h s hs).2.below hb⟩
theorem DeepR.top(h:DeepR w B E l) : DeepR w w.heap.size E l:=fun s hs=>⟨(h s hs).1.top,(h s hs).2.top⟩
theorem DeepR.only{b:Nat}(h:DeepR w B E l)(ho:Only b w w')(hB:B≤b) : DeepR w' B E l:=fun s hs=>⟨(h s hs).1.only ho hB,(h s hs).2.only ho hB⟩
theorem DeepR.onlyT{b:Nat}{T:TypeId}{lc:List Value}(h:DeepR w B E l)(ho:Only b w w')(hb:Blk w b T lc)(hT:Nat.beq E T=false) : DeepR w' B E l:=fun s hs=>⟨(h s hs).1.onlyT ho hb hT,(h s hs).2.onlyT ho hb hT⟩
theorem DeepR.appB{B0:Nat}{E':TypeId}{sz:Nat}{α:Type}{enc:α→List Value}{A:Option Addr}{c:Nat}{m:List α}(h:DeepR w B E l)(ho:Own w B0 E' sz enc A c m)(hg:w.grownBy w' (Value.slice A m.length c).ownBlock)(hB:B≤B0) : DeepR w' B E l:=fun s hs=>⟨(h s hs).1.appB ho hg hB,(h s hs).2.appB ho hg hB⟩
theorem DeepR.appT{B0:Nat}{E':TypeId}{sz:Nat}{α:Type}{enc:α→List Value}{A:Option Addr}{c:Nat}{m:List α}(h:DeepR w B E l)(ho:Own w B0 E' sz enc A c m)(hg:w.grownBy w' (Value.slice A m.length c).ownBlock)(hT:Nat.beq E' E=false) : DeepR w' B E l:=fun s hs=>⟨(h s hs).1.appT ho hg hT,(h s hs).2.appT ho hg hT⟩
theorem DeepX.below(h:DeepX w B l)(hb:Below w.heap.size w w') : DeepX w' B l:=fun s hs=>⟨(h s hs).1.imp fun _ k=>k.below hb,(h s hs).2.imp fun _ k=>k.below hb⟩
theorem DeepX.top(h:DeepX w B l) : DeepX w w.heap.size l:=fun s hs=>⟨(h s hs).1.imp fun _ k=>k.top,(h s hs).2.imp fun _ k=>k.top⟩
theorem DeepX.only{b:Nat}(h:DeepX w B l)(ho:Only b w w')(hB:B≤b) : DeepX w' B l:=fun s hs=>⟨(h s hs).1.imp fun _ k=>k.only ho hB,(h s hs).2.imp fun _ k=>k.only ho hB⟩
theorem DeepX.appB{B0:Nat}{E':TypeId}{sz:Nat}{α:Type}{enc:α→List Value}{A:Option Addr}{c:Nat}{m:List α}(h:DeepX w B l)(ho:Own w B0 E' sz enc A c m)(hg:w.grownBy w' (Value.slice A m.length c).ownBlock)(hB:B≤B0) : DeepX w' B l:=fun s hs=>⟨(h s hs).1.imp fun _ k=>k.appB ho hg hB,(h s hs).2.imp fun _ k=>k.appB ho hg hB⟩
end
theorem DeepR.zero(w:World)(B:Nat)(E:TypeId)(n:Nat) : DeepR w B E (List.replicate n srZ):=fun s hs=>by
 obtain rfl:=List.eq_of_mem_replicate hs
 exact ⟨Rd.nil _ _ _ _ _,Rd.nil _ _ _ _ _⟩
theorem DeepR.set{w:World}{B:Nat}{E:TypeId}{l:List Sr}(h:DeepR w B E l){x:Sr}(h1:Rd w B E encG x.A x.old)(h2:Rd w B E encG x.B x.new)(k:Nat) : DeepR w B E (l.set k x):=fun s hs=>by
 rcases List.mem_or_eq_of_mem_set hs with hs|hs
 ·exact h s hs
 ·subst hs;exact ⟨h1,h2⟩
def cIf(c:Cx) : Option Cx:=if cOk c=true then some c else none
def midC(c:Cx)(r:Rp) : Cx:=⟨c.n,c.gs.take r.pos.toNat++(r.new++(c.gs.drop (r.pos.toNat+r.old.length)++[]))⟩
def fitI(c:Cx)(r:Rp) : Bool:=cOk c&&vrI c.n r&&decide (r.pos+(r.old.length:Int)≤(c.gs.length:Int))&&decide ((c.gs.take (r.pos.toNat+r.old.length)).drop r.pos.toNat=r.old)
def applyI(c:Cx)(r:Rp) : Option Cx:=if fitI c r=true then cIf (midC c r) else none
def fitS(c:Cx)(r:Rp) : Bool:=validS c.n r&&decide (r.pos+(r.old.length:Int)≤(c.gs.length:Int))&&decide ((c.gs.length:Int)-(r.old.length:Int)+(r.new.length:Int)≤400)
def applyS(c:Cx)(r:Rp) : Option Cx:=if fitS c r=true∧(c.gs.take (r.pos.toNat+r.old.length)).drop r.pos.toNat=r.old then some ⟨c.n,c.gs.take r.pos.toNat++r.new++c.gs.drop (r.pos.toNat+r.old.length)⟩ else none
def eqC(c d:Cx) : Bool:=c.n==d.n&&decide (c.gs=d.gs)
def checkLI(i:Nat)(c:Cx)(d:Cx) : List Rp→Int
 | []=>if eqC c d=true then 0 else (i:Int)+1
 | r::l=>if ((applyI c r).isSome&&(implJ c.n r).2&&(implJ c.n r).1)=true then checkLI (i+1) ((applyI c r).getD ⟨0,[]⟩) d l else (i:Int)+1
def checkLS(i:Nat)(c:Cx)(d:Cx) : List Rp→Int
 | []=>if eqC c d=true then 0 else (i:Int)+1
 | r::l=>if ((applyS c r).isSome&&(justS r).1&&(justS r).2)=true then checkLS (i+1) ((applyS c r).getD ⟨0,[]⟩) d l else (i:Int)+1
def checkI(c d:Cx)(l:List Rp) : Int×Bool:=if (cOk c&&decide ((l.length:Int)≤400))=true then (checkLI 0 c d l,true) else (0,false)
def checkS(c d:Cx)(l:List Rp) : Int×Bool:=if (cOk c&&decide ((l.length:Int)≤400))=true then (checkLS 0 c d l,true) else (0,false)
theorem Xfi{c:Cx}{r:Rp}(hc:cOk c=true) : applyI c r=applyS c r∧∀ c',applyS c r=some c'→cOk c'=true∧c'.n=c.n∧vrI c.n r=true:=by
 obtain ⟨hn,hl,hg⟩:=X7o hc
 unfold applyI applyS fitI fitS
 rw [hc,Xg4,Bool.true_and]
 by_cases hv:vrI c.n r=true
 ·obtain ⟨_,hl2,ho,hw⟩:=Xke hv
  have hp:0≤r.pos:=by simp only [vrI,Bool.and_eq_true,X0v] at hv;omega
  rw [hv,Bool.true_and]
  by_cases hle:r.pos+(r.old.length:Int)≤(c.gs.length:Int)
  ·rw [decide_eq_true hle,Bool.true_and,Bool.true_and]
   by_cases he:(c.gs.take (r.pos.toNat+r.old.length)).drop r.pos.toNat=r.old
   ·rw [decide_eq_true he,if_pos rfl]
    have hlen:(c.gs.take r.pos.toNat++r.new++c.gs.drop (r.pos.toNat+r.old.length)).length=c.gs.length-r.old.length+r.new.length:=by
     simp only [List.length_append,List.length_take,List.length_drop];omega
    have hall:∀ g ∈ c.gs.take r.pos.toNat++r.new++c.gs.drop (r.pos.toNat+r.old.length),gOk c.n g=true:=fun g h=>by
     rcases List.mem_append.1 h with h|h
     ·rcases List.mem_append.1 h with h|h
      ·exact hg g (List.mem_of_mem_take h)
      ·exact hw g h
     ·exact hg g (List.mem_of_mem_drop h)
    have hmid:midC c r=⟨c.n,c.gs.take r.pos.toNat++r.new++c.gs.drop (r.pos.toNat+r.old.length)⟩:=by unfold midC;simp
    by_cases h4:(c.gs.length:Int)-(r.old.length:Int)+(r.new.length:Int)≤400
    ·have hok:cOk (midC c r)=true:=by
      rw [hmid]
      have h5:((c.gs.take r.pos.toNat++r.new++c.gs.drop (r.pos.toNat+r.old.length)).any fun x=>!gOk c.n x)=false:=by
       rw [List.any_eq_false];intro x hx;simp [hall x hx]
      unfold cOk
      simp only
      rw [h5,X0v.2 hn,hlen,decide_eq_true (by omega)];rfl
     rw [cIf,if_pos hok,if_pos ⟨by simpa using h4,he⟩,hmid]
     refine ⟨rfl,fun c' h=>?_⟩
     injection h with h
     rw [← h]
     rw [hmid] at hok
     exact ⟨hok,rfl,rfl⟩
    ·have hok:¬ cOk (midC c r)=true:=fun h=>by
      obtain ⟨_,h6,_⟩:=X7o h
      rw [hmid] at h6
      simp only at h6
      rw [hlen] at h6
      omega
     rw [cIf,if_neg hok,if_neg (fun h=>h4 (by simpa using h.1))]
     exact ⟨rfl,fun c' h=>by cases h⟩
   ·rw [decide_eq_false he,if_neg (by decide),if_neg (fun h=>he h.2)]
    exact ⟨rfl,fun c' h=>by cases h⟩
  ·rw [decide_eq_false hle]
   exact ⟨rfl,fun c' h=>by simp at h⟩
 ·have hv':vrI c.n r=false:=by simpa using hv
  rw [hv']
  exact ⟨rfl,fun c' h=>by simp at h⟩
structure Sg where (A:Option Addr) (c:Nat) (l:List Gt)
def encSg(s:Sg) : List Value:=[.slice s.A s.l.length s.c]
theorem X87:∀ x,(encSg x).length=1:=fun _=>rfl
def growRenG:Go.Shelf.Ren:=⟨fun|4=>154|n=>n,fun|22=>46|25=>114|n=>n,fun|n=>n⟩
theorem Xa6:Lays8.n4 Tryz.prog growRenG:={
 mixed:=by kernel_rfl
 f4:=⟨Tryz.f154.name,by decide,Tryz.func154.trans (congrArg some (by kernel_rfl))⟩
 t0:=Tryz.underlying0
 a0:=Tryz.isAgg0
 z0:=Tryz.sizeOf0
 v0:=Tryz.zeroValue0
 t3:=Tryz.underlying3
 a3:=Tryz.isAgg3
 z3:=Tryz.sizeOf3
 v3:=Tryz.zeroValue3
 t4:=Tryz.underlying4
 a4:=Tryz.isAgg4
 z4:=Tryz.sizeOf4
 v4:=Tryz.zeroValue4
 t9:=Tryz.underlying9
 a9:=Tryz.isAgg9
 z9:=Tryz.sizeOf9
 v9:=Tryz.zeroValue9
 t20:=Tryz.underlying20
 a20:=Tryz.isAgg20
 z20:=Tryz.sizeOf20
 v20:=Tryz.zeroValue20
 t22:=Tryz.underlying46
 a22:=Tryz.isAgg46
 z22:=Tryz.sizeOf46
 v22:=Tryz.zeroValue46 }
theorem Xqz(w0:World)(n:Nat)(hn:n≤1000000000) : Ret Tryz.prog 154 [.slice none 0 0,.int .i64 (n:Int)] w0 (fun v w=>∃ A c,v=.slice A 0 c∧Own w w0.heap.size 114 3 encG A c ([] : List Gt)∧Below w0.heap.size w0 w):=by
 by_cases h0:n=0
 ·subst h0
  refine Calls.mono (Any8.slices_Grow_room Xa6 none 0 0 0 w0 (by omega) (by omega) (by omega) (by omega)) fun e w ⟨e1,e2⟩=>⟨_,e1,none,0,rfl,?_⟩
  subst e2
  exact ⟨Own.nil _ _ _ _ _,Below.refl _ _⟩
 ·obtain ⟨i,z,hi1,hi2,hi3,hi4,hi5,hi6⟩:=X1s
  refine Calls.mono (Any8.slices_Grow_grow Xa6 i z hi1 hi2 (by omega) none 0 0 n [] w0 (by omega) (by omega) (by rw [hi4];omega) (by omega) (by simp) (fun _=>rfl) (fun a h=>by cases h)) fun e w ⟨e1,e2⟩=>⟨_,e1,_,_,rfl,?_⟩
  subst e2
  have hge:=grownCap_ge w0 (0+n) 0 (growRenG.t 25)
  refine ⟨⟨rfl,.inr ⟨w0.heap.size,_,_,rfl,Nat.le_refl _,heap_alloc_new w0.drew _,Nat.zero_le _,grownCap_le_maxLen w0 _ _ _ (by simp only [maxLen];omega),?_,by simp⟩⟩,((Below.refl _ _).drew).alloc (Nat.le_refl _) _⟩
  simp only [Array.size_append,List.size_toArray,size_zeroCells,hi5,List.length_nil,Nat.zero_add,Nat.zero_mul] at hge ⊢
  generalize grownCap w0 n 0 (growRenG.t 25)=G at *
  have h9:n-0+(G-n)=G:=by omega
  rw [← h9,Nat.add_mul,h9]
abbrev cZ:Cx:=⟨0,[]⟩
def midS(c:Cx)(r:Rp) : Cx:=⟨c.n,c.gs.take r.pos.toNat++r.new++c.gs.drop (r.pos.toNat+r.old.length)⟩
theorem Xaq{c:Cx}{r:Rp}(h1:fitS c r=true)(h2:(c.gs.take (r.pos.toNat+r.old.length)).drop r.pos.toNat=r.old) : applyS c r=some (midS c r):=by
 unfold applyS midS
 rw [if_pos ⟨h1,h2⟩]
theorem Xjj{l:List Gt}{t:Int}(h:szG l t<0) : szG l t = -1:=by
 unfold szG at *
 split<;>rename_i h1
 ·rfl
 ·rw [if_neg h1] at h;omega
def szF:List Sr→Int→Int
 | [],t=>t
 | s::l,t=>if szR s.rp t<0 then -1 else szF l (szR s.rp t)
def szL(l:List Sr)(t:Int) : Int:=if t-(l.length:Int)<0 then -1 else szF l (t-(l.length:Int))
def szZ(c:Cx)(l:List Sr)(d:Cx)(t:Int) : Int:=if szG c.gs t<0 then -1 else if szL l (szG c.gs t)<0 then -1 else szG d.gs (szL l (szG c.gs t))
instance:DecidableEq Rp:=fun a b=>decidable_of_iff (a.pos=b.pos∧a.old=b.old∧a.new=b.new) (by cases a;cases b;simp)
theorem F42(w0:World){X_l:TypeId}(Al:Option Addr)(cl:Nat)(l:List Gt)(hr_l:Rd w0 w0.heap.size X_l encG Al l)(t:Int)(ht:0≤t∧t≤1048576)(hln:l.length≤9223372036854775807) : Ret Tryz.prog 48 [.slice Al l.length cl,vi t] w0 (fun v w=>v=vi (szG l t)∧w0=w):=by
 refine enter Tryz.func48 rfl 12 rfl rfl ?_;intro a hf
 have hW:Below w0.heap.size w0 w0:=Below.refl _ _
 refine Zs hf fun _ hK2=>?_;refine Za rfl ?_;refine Zt hK2 fun a hf=>?_;refine Zs hf fun _ hK3=>?_;refine Zm rfl<|Zm rfl<|Ze (X0x rfl Xby)<|Ze (X16 rfl rfl (by omega) (by omega))<|Za rfl ?_;refine Zt hK3 fun a hf=>?_;refine wp_seq_k fun _ hK4=>?_;refine Zs hf fun _ hK5=>?_;refine Zm rfl<|Ze (X1a rfl rfl) ?_;refine Zt hK5 fun a hf=>?_
 refine X9 hf rfl (fun hc6=>?_) (fun hc6=>?_)
 ·have hc6b:=hc6;have hc6:=of_decide_eq_true hc6
  have hfin:szG l t = -1:=by rw [szG,if_pos hc6]
  refine Zs hf fun _ hK7=>?_;refine Za rfl ?_;refine Zt hK7 fun a hf=>?_;refine wp_ret ?_;refine X3 ?_;refine X4 hf (X01 hf rfl rfl) ?_;exact ⟨by rw [hfin],rfl⟩
 have hc6b:=hc6;have hc6:=of_decide_eq_false hc6
 have hfin:szG l t=t-(l.length:Int):=by rw [szG,if_neg hc6]
 refine wp_skip ?_;refine hK4 _ _ ?_;refine Zs hf fun _ hK8=>?_;refine Zm rfl<|Za rfl ?_;refine Zt hK8 fun a hf=>?_
 refine wp_ret (X4 hf (X01 hf rfl rfl) ?_)
 exact ⟨by rw [hfin],rfl⟩
theorem F90(w0:World)(x:Gt) : Ret Tryz.prog 95 [.agg #[vi x.k,vi x.a,vi x.b]] w0 (fun v w=>v=gV x∧Below w0.heap.size w0 w):=by
 refine enter Tryz.func95 rfl 14 rfl rfl ?_;intro a hf
 have hW:Below w0.heap.size w0 w0:=Below.refl _ _
 refine Zs hf fun _ hK1=>?_;refine Zf (X0t (zs:=[vi x.k,vi x.a,vi x.b]) rfl rfl) ?_;rintro _ w1 ⟨b2,rfl,hl2,hE,hB2⟩;have hlo2:=Nat.le_trans hW.size hl2;replace hW:=btr hW hE;refine Zf (X6 (zs:=[vi 0,vi 0,vi 0]) X5b rfl) ?_;rintro _ w2 ⟨b3,rfl,hl3,hE,hB3⟩;have hlo3:=Nat.le_trans hW.size hl3;replace hB2:=hB2.below hE;replace hW:=btr hW hE;refine Zt hK1 fun a hf=>?_;refine Zs hf fun _ hK4=>?_;refine Zf (X6 (zs:=[vi 0,vi 0,vi 0]) X5b rfl) ?_;rintro _ w3 ⟨b5,rfl,hl5,hE,hB5⟩
 have hne3_5:b3≠b5:=by have:=hB3.lt;omega
 have hlo5:=Nat.le_trans hW.size hl5;replace hB2:=hB2.below hE;replace hB3:=hB3.below hE;replace hW:=btr hW hE;refine Zt hK4 fun a hf=>?_;refine Zs hf fun _ hK6=>?_;refine Ze (Vd rfl Xfs 0)<|Ze (X0 rfl X2 (hB2.at 0))<|Ze (Vd rfl X0c 0) ?_;refine Zo (Vu (vs:=[vi x.k]) (l':=[vi x.k,vi 0,vi 0]) rfl rfl X0j hB5) ?_;rintro _ w4 ⟨ho,hb⟩;have hold:=hB5;replace hB2:=hB2.only ho (Blk.ne hB2 hold rfl);replace hB3:=hB3.only ho (by omega);replace hW:=Below.only hW ho hlo5;clear hold;have hB5:=hb;clear hb ho;refine Zt hK6 fun a hf=>?_;refine Zs hf fun _ hK7=>?_;refine Ze (Vd rfl Xg3 1)<|Ze (X0 rfl X2 (hB2.at 1))<|Ze (Vd rfl X0y 1) ?_;refine Zo (Vu (vs:=[vi x.a]) (l':=[vi x.k,vi x.a,vi 0]) rfl rfl X0j hB5) ?_;rintro _ w5 ⟨ho,hb⟩;have hold:=hB5;replace hB2:=hB2.only ho (Blk.ne hB2 hold rfl);replace hB3:=hB3.only ho (by omega);replace hW:=Below.only hW ho hlo5;clear hold;have hB5:=hb;clear hb ho;refine Zt hK7 fun a hf=>?_;refine Zs hf fun _ hK8=>?_;refine Ze (Vd rfl Xfc 2)<|Ze (X0 rfl X2 (hB2.at 2))<|Ze (Vd rfl X10 2) ?_;refine Zo (Vu (vs:=[vi x.b]) (l':=[vi x.k,vi x.a,vi x.b]) rfl rfl X0j hB5) ?_;rintro _ w6 ⟨ho,hb⟩;have hold:=hB5;replace hB2:=hB2.only ho (Blk.ne hB2 hold rfl);replace hB3:=hB3.only ho (by omega);replace hW:=Below.only hW ho hlo5;clear hold;have hB5:=hb;clear hb ho;refine Zt hK8 fun a hf=>?_;refine Zs hf fun _ hK9=>?_;refine Ze (Vn X0f hB5) ?_;refine Zo (Vw [vi x.k,vi x.a,vi x.b] X14 hB3) ?_;rintro _ w7 ⟨ho,hb⟩;have hold:=hB3;replace hB5:=hB5.only ho (by omega);replace hW:=Below.only hW ho hlo3;clear hold;have hB3:=hb;clear hb ho;refine Zt hK9 fun a hf=>?_
 refine wp_ret (X4 hf (X01 hf rfl (ResV.cellN (l:=[vi x.k,vi x.a,vi x.b]) rfl X0f (hB3.at 0) rfl)) ?_)
 exact ⟨rfl,hW⟩
theorem F45(w0:World){X_l:TypeId}(Al:Option Addr)(cl:Nat)(l:List Gt)(hr_l:Rd w0 w0.heap.size X_l encG Al l)(hln:l.length≤1048576) : Ret Tryz.prog 50 [.slice Al l.length cl] w0 (fun v w=>∃ A c,v=.slice A l.length c∧Own w w0.heap.size 114 3 encG A c l∧Below w0.heap.size w0 w):=by
 refine enter Tryz.func50 rfl 23 rfl rfl ?_;intro a hf
 have hW:Below w0.heap.size w0 w0:=Below.refl _ _
 refine Zs hf fun _ hK2=>?_;refine Za rfl ?_;refine Zt hK2 fun a hf=>?_;refine Zs hf fun _ hK4=>?_;refine Zm rfl<|Ze (X0x rfl Xby) ?_;refine Zf (Xbs (m:=l.length) (enc:=encG) (z0:=(⟨0,0,0⟩ : Gt)) rfl rfl X13 X1s X5b rfl X0w (by omega) (by omega)) ?_;rintro _ w1 ⟨b5,rfl,hl5,hE,hB5⟩;have hlo5:=Nat.le_trans hW.size hl5;replace hW:=btr hW hE;refine Za rfl ?_;refine Zt hK4 fun a hf=>?_;refine wp_seq_k fun _ hK7=>?_;refine Zs hf fun _ hK8=>?_;refine Za rfl ?_;refine Zt hK8 fun a hf=>?_;refine wp_block ?_;refine Xx (σ:=Nat×(List Gt)) (fun (s:Nat×(List Gt)) (a:Act) (w:World)=>match s with|(k,m)=>Fr a 23 [(0,.slice Al l.length cl),(3,.slice (some ⟨b5,0,none⟩) l.length l.length),(4,vi (k:Int))]∧(k≤l.length)∧(m.length=l.length)∧(m.take k=l.take k)∧Blk w b5 114 (m.flatMap encG)∧Below w0.heap.size w0 w) (fun (s:Nat×(List Gt))=>match s with|(k,m)=>l.length-k) (0,List.replicate l.length (⟨0,0,0⟩ : Gt)) ?_ ?_
 ·exact ⟨hf.sub ⟨rfl,rfl,rfl,trivial⟩,(Nat.zero_le _),(by simp),rfl,hB5,hW⟩
 rintro ⟨k,m⟩ a w2 ⟨hf,hk,hml,hpre,hB5,hW⟩;refine wp_seq_k fun _ hK9=>?_;refine Zs hf fun _ hK10=>?_;refine Zm rfl<|Zm rfl<|Ze (X0x rfl Xby)<|Ze (X1a rfl rfl) ?_;refine Zt hK10 fun a hf=>?_
 refine X9 hf rfl (fun hc11=>?_) (fun hc11=>?_)
 ·have hc11b:=hc11;have hc11:=of_decide_eq_true hc11
  obtain ⟨u12,hu12⟩:=Xf (l:=l) (k:=k) (by omega)
  refine wp_skip ?_;refine hK9 _ _ ?_;refine wp_seq_k fun _ hK13=>?_;refine wp_block ?_;refine Zr hf ?_;refine Zm rfl<|Zm rfl<|Zm rfl<|Zm rfl ?_;refine Zi (k:=k) (u:=u12) (enc:=encG) (l:=l) trivial rfl rfl Xby Xmp X0w (hr_l.below' hW) hu12 rfl ?_;intro p15 hat14;refine Ze (X07 (l:=[vi u12.k,vi u12.a,vi u12.b]) rfl Xna hat14 rfl) ?_;refine Zf (Vc (F90 _ u12) Xoz) ?_;rintro _ w3 ⟨rfl,hE⟩;replace hB5:=hB5.below hE;replace hW:=btr hW hE;refine Ze (Xhh (k:=k) (off:=k*3) rfl rfl X13 X14 rfl (by omega) rfl) ?_;refine Zo (Xij (enc:=encG) (l:=m) (u:=u12) (k:=k) rfl rfl X14 hB5 X0w X2o rfl (by omega)) ?_;rintro _ w4 ⟨ho,hb⟩;have hold:=hB5;replace hW:=Below.only hW ho hlo5;clear hold;have hB5:=hb;clear hb ho;refine Zn fun a hf=>?_;refine X5 ?_;refine hK13 _ _ ?_;refine Zr hf ?_;refine Zm rfl<|Ze (Xu rfl rfl (by omega) (by omega))<|Za rfl ?_;refine Zn fun a hf=>?_;refine X8 ?_;exact ⟨(k+1,(m.set k u12)),⟨hf.sub ⟨rfl,rfl,rfl,trivial⟩,(by omega),(by simp;exact hml),(Xgd hpre (by omega) hu12),hB5,hW⟩,(by first|omega|(dsimp only;omega))⟩
 have hc11b:=hc11;have hc11:=of_decide_eq_false hc11;refine wp_exit ?_;refine Xh ?_;refine Xh ?_;refine Xt ?_;refine hK7 _ _ ?_;refine Zs hf fun _ hK16=>?_;refine Zm rfl<|Za rfl ?_;refine Zt hK16 fun a hf=>?_
 refine wp_ret (X4 hf (X01 hf rfl rfl) ?_)
 have hmk:m.length=l.length:=hml
 have hmkb:l.length≤maxLen:=by simp only [maxLen];omega
 have hfin:m=l:=by rw [List.take_of_length_le (by omega),List.take_of_length_le (by omega)] at hpre;exact hpre
 have hown:=(Own.of_flat X0w hB5 hlo5 hmk hmkb)
 rw [hfin] at hown
 exact ⟨(some ⟨b5,0,none⟩),l.length,rfl,hown,hW⟩
theorem Xpn(w0:World)(n:Int)(Al:Option Addr)(cl:Nat)(l:List Gt)(hr_l:Rd w0 w0.heap.size 114 encG Al l)(hln:l.length≤1000000000) : Ret Tryz.prog 130 [vi n,.slice Al l.length cl] w0 (fun v w=>∃ A c1,v=.tuple #[.agg #[vi ((cIf ⟨n,l⟩).getD cZ).n,.slice A ((cIf ⟨n,l⟩).getD cZ).gs.length c1],.bool (cIf ⟨n,l⟩).isSome]∧Own w w0.heap.size 114 3 encG A c1 ((cIf ⟨n,l⟩).getD cZ).gs∧Below w0.heap.size w0 w):=by
 refine enter Tryz.func130 rfl 17 rfl rfl ?_;intro a hf
 have hW:Below w0.heap.size w0 w0:=Below.refl _ _
 refine Zs hf fun _ hK2=>?_;refine Zf (X6 (zs:=[vi 0,.slice none 0 0]) X40 rfl) ?_;rintro _ w1 ⟨b4,rfl,hl4,hE,hB4⟩;have hlo4:=Nat.le_trans hW.size hl4;replace hW:=btr hW hE;refine Za rfl ?_;refine Zt hK2 fun a hf=>?_;refine Zs hf fun _ hK5=>?_;refine Zm rfl ?_;refine Zf (Xn (k:=0) (vs:=[]) (zs:=[]) rfl X13 X1s rfl rfl) ?_;rintro _ w2 ⟨b6,rfl,hl6,hE,hB6⟩;have hlo6:=Nat.le_trans hW.size hl6;have haw1_6:=(hr_l.below' hW).away hl6;replace hB4:=hB4.below hE;replace hW:=btr hW hE;refine Zm rfl ?_;refine Zf (X11 (enc:=encG) (l:=([] : List Gt)) (l2:=(l)) (B0:=w0.heap.size) rfl rfl X13 X1s X0w X2o (Own.empty hB6 hlo6) (hr_l.below' hW) (by simp only [maxLen];simp;omega) (by simp;omega) hW.size) ?_;rintro _ w3 ⟨A8,c8,rfl,ho8,hg,hat⟩
 have hown:Own _ w0.heap.size 114 3 encG _ _ ([] : List Gt):=(Own.empty hB6 hlo6)
 clear hat;replace hB4:=hB4.appT hown hg rfl;replace hW:=Below.app hW hown hg (Nat.le_refl _) hW.size;clear hown hg
 simp only [List.nil_append] at ho8
 refine Ze (Xz (ps:=[(0,vi n),(1,.slice A8 l.length c8)]) (cs:=[vi n,.slice A8 l.length c8]) rfl (fun _=>by first|rfl|kernel_rfl)) ?_;refine Zf (X6 (zs:=[vi 0,.slice none 0 0]) X40 rfl) ?_;rintro _ w4 ⟨b11,rfl,hl11,hE,hB11⟩
 have hne4_11:b4≠b11:=by have:=hB4.lt;omega
 have hlo11:=Nat.le_trans hW.size hl11;replace hB4:=hB4.below hE;replace ho8:=ho8.below hE;replace hW:=btr hW hE;refine Zo (Vw [vi n,.slice A8 l.length c8] X1q hB11) ?_;rintro _ w5 ⟨ho,hb⟩;have hold:=hB11;replace hB4:=hB4.only ho (by omega);replace ho8:=ho8.onlyT ho hold rfl;replace hW:=Below.only hW ho hlo11;clear hold;have hB11:=hb;clear hb ho;refine Zt hK5 fun a hf=>?_;refine wp_seq_k fun _ hK12=>?_;refine Zs hf fun _ hK13=>?_;refine Ze (Vn X0s hB11) ?_;refine Zf (Vc (F55 _ (⟨n,l⟩ : Cx) A8 c8 ho8.rd.top (by show l.length≤_;omega)) Xaw) ?_;rintro _ w6 ⟨rfl,hE⟩;replace hB4:=hB4.below hE;replace hB11:=hB11.below hE;replace ho8:=ho8.below hE;replace hW:=btr hW hE;refine Ze (X1d rfl) ?_;refine Zt hK13 fun a hf=>?_
 refine X9 hf rfl (fun hc14=>?_) (fun hc14=>?_)
 ·have hc14b:=hc14
  have hfin:cIf ⟨n,l⟩=none:=by rw [cIf,if_neg];revert hc14;cases cOk ⟨n,l⟩<;>simp
  refine Zs hf fun _ hK15=>?_;refine Ze (Xz (ps:=[]) (cs:=[vi 0,.slice none 0 0]) rfl (fun _=>by first|rfl|kernel_rfl)) ?_;refine Zo (Vw [vi 0,.slice none 0 0] X1q hB4) ?_;rintro _ w7 ⟨ho,hb⟩;have hold:=hB4;replace hB11:=hB11.only ho (by omega);replace ho8:=ho8.onlyT ho hold rfl;replace hW:=Below.only hW ho hlo4;clear hold;have hB4:=hb;clear hb ho;refine Za rfl ?_;refine Zt hK15 fun a hf=>?_;refine wp_ret ?_;refine X3 ?_;refine X4 hf (X2l hf rfl (ResV.cellN (l:=[vi 0,.slice none 0 0]) rfl X0s (hB4.at 0) rfl) rfl) ?_
  rw [hfin]
  exact ⟨none,0,rfl,(Own.nil _ _ _ _ _),hW⟩
 have hc14b:=hc14
 have hfin:cIf ⟨n,l⟩=some ⟨n,l⟩:=by rw [cIf,if_pos];revert hc14;cases cOk ⟨n,l⟩<;>simp
 refine wp_skip ?_;refine hK12 _ _ ?_;refine Zs hf fun _ hK17=>?_;refine Ze (Vn X0s hB11) ?_;refine Zo (Vw [vi n,.slice A8 l.length c8] X1q hB4) ?_;rintro _ w8 ⟨ho,hb⟩;have hold:=hB4;replace hB11:=hB11.only ho (by omega);replace ho8:=ho8.onlyT ho hold rfl;replace hW:=Below.only hW ho hlo4;clear hold;have hB4:=hb;clear hb ho;refine Za rfl ?_;refine Zt hK17 fun a hf=>?_
 refine wp_ret (X4 hf (X2l hf rfl (ResV.cellN (l:=[vi n,.slice A8 l.length c8]) rfl X0s (hB4.at 0) rfl) rfl) ?_)
 rw [hfin]
 exact ⟨A8,c8,rfl,ho8,hW⟩
theorem Xqm(w0:World)(ls:List Sg)(Al:Option Addr)(cl:Nat)(hr_ls:Rd w0 w0.heap.size 46 encSg Al ls)(hall:∀ s ∈ ls,Rd w0 w0.heap.size 114 encG s.A s.l)(hln:ls.length≤1000)(hsum:(ls.flatMap Sg.l).length≤1000000000) : Ret Tryz.prog 131 [.slice Al ls.length cl] w0 (fun v w=>∃ A c,v=.slice A (ls.flatMap Sg.l).length c∧Own w w0.heap.size 114 3 encG A c (ls.flatMap Sg.l)∧Below w0.heap.size w0 w):=by
 refine enter Tryz.func131 rfl 36 rfl rfl ?_;intro a hf
 have hW:Below w0.heap.size w0 w0:=Below.refl _ _
 refine Zs hf fun _ hK2=>?_;refine Za rfl ?_;refine Zt hK2 fun a hf=>?_;refine Zs hf fun _ hK4=>?_;refine Za rfl ?_;refine Zt hK4 fun a hf=>?_;refine wp_seq_k fun _ hK5=>?_;refine Zs hf fun _ hK6=>?_;refine Zm rfl<|Ze (X0x rfl X7l)<|Zm rfl ?_;refine Zt hK6 fun a hf=>?_;refine wp_block ?_;refine Xx (σ:=Nat) (fun (k:Nat) (a:Act) (w:World)=>Fr a 36 [(0,.slice Al ls.length cl),(3,vi (((ls.take k).flatMap Sg.l).length:Int)),(9,.slice Al ls.length cl),(10,vi (ls.length:Int)),(11,vi (k:Int))]∧(k≤ls.length)∧Below w0.heap.size w0 w) (fun (k:Nat)=>ls.length-k) 0 ?_ ?_
 ·exact ⟨hf.sub ⟨rfl,rfl,rfl,rfl,rfl,trivial⟩,(Nat.zero_le _),hW⟩
 rintro k a w1 ⟨hf,hk,hW⟩;refine Zs hf fun _ hK7=>?_;refine Ze (X1a rfl rfl) ?_;refine Zt hK7 fun a hf=>?_;refine wp_seq_k fun _ hK8=>?_
 refine X9 hf rfl (fun hc9=>?_) (fun hc9=>?_)
 ·have hc9b:=hc9;have hc9:=of_decide_eq_true hc9
  obtain ⟨u10,hu10⟩:=Xf (l:=ls) (k:=k) (by omega)
  have hst:=X89 (f:=Sg.l) hu10;have hle:=X9c Sg.l ls (k+1)
  rw [hst,List.length_append] at hle
  refine wp_skip ?_;refine hK8 _ _ ?_;refine wp_seq_k fun _ hK11=>?_;refine wp_block ?_;refine Zs hf fun _ hK12=>?_;refine Zi (k:=k) (u:=u10) (enc:=encSg) (l:=ls) trivial rfl rfl X7l X9q X87 (hr_ls.below' hW) hu10 rfl ?_;intro p14 hat13
  have hr15:Rd w1 w0.heap.size 114 encG u10.A u10.l:=(hall u10 (List.mem_of_getElem? hu10)).below' hW
  refine Ze (X0 rfl X25 hat13)<|Za rfl ?_;refine Zt hK12 fun a hf=>?_;refine Zs hf fun _ hK16=>?_;refine Zm rfl<|Zm rfl<|Ze (X0x rfl X13)<|Ze (Xu rfl rfl (by omega) (by omega))<|Za rfl ?_;refine Zt hK16 fun a hf=>?_;refine Zs hf fun _ hK17=>?_;refine Zm rfl<|Ze (X1a rfl rfl) ?_;refine Zt hK17 fun a hf=>?_
  refine X9 hf rfl (fun hc18=>?_) (fun hc18=>?_)
  ·have hc18b:=hc18;have hc18:=of_decide_eq_true hc18;exact absurd hc18 (by omega)
  have hc18b:=hc18;have hc18:=of_decide_eq_false hc18;refine wp_skip ?_;refine X5 ?_;refine hK11 _ _ ?_;refine Zr hf ?_;refine Ze (Xu rfl rfl (by omega) (by omega))<|Zm rfl ?_;refine Zn fun a hf=>?_
  have hjj:((((ls.take k).flatMap Sg.l).length:Int)+(u10.l.length:Int))=(((ls.take (k+1)).flatMap Sg.l).length:Int):=by rw [hst,List.length_append];omega
  rw [hjj] at hf
  refine X8 ?_;exact ⟨k+1,⟨hf.sub ⟨rfl,rfl,rfl,rfl,rfl,trivial⟩,(by omega),hW⟩,(by omega)⟩
 have hc9b:=hc9;have hc9:=of_decide_eq_false hc9;refine wp_exit ?_;refine Xh ?_;refine Xh ?_;refine Xt ?_;refine hK5 _ _ ?_;refine Zs hf fun _ hK19=>?_;refine Zm rfl ?_;refine Zf (Vc (Xqz _ (((ls.take k).flatMap Sg.l).length) (by have:=X9c Sg.l ls k;omega)) Xm1) ?_;rintro _ w2 ⟨A21,c21,rfl,ho21,hE⟩;replace ho21:=ho21.lower hW.size;replace hW:=btr hW hE;refine Za rfl ?_;refine Zt hK19 fun a hf=>?_;refine wp_seq_k fun _ hK22=>?_;refine Zs hf fun _ hK23=>?_;refine Zm rfl<|Ze (X0x rfl X7l)<|Zm rfl ?_;refine Zt hK23 fun a hf=>?_;refine wp_block ?_;refine Xx (σ:=Nat×(List Gt)) (fun (s:Nat×(List Gt)) (a:Act) (w:World)=>match s with|(j,l)=>∃ A24 c24,Fr a 36 [(6,.slice A24 l.length c24),(25,.slice Al ls.length cl),(26,vi (ls.length:Int)),(27,vi (j:Int))]∧(j≤ls.length)∧(l=(ls.take j).flatMap Sg.l)∧Own w w0.heap.size 114 3 encG A24 c24 l∧Below w0.heap.size w0 w) (fun (s:Nat×(List Gt))=>match s with|(j,l)=>ls.length-j) (0,[]) ?_ ?_
 ·exact ⟨A21,c21,hf.sub ⟨rfl,rfl,rfl,rfl,trivial⟩,(Nat.zero_le _),rfl,ho21,hW⟩
 rintro ⟨j,l⟩ a w3 ⟨A24,c24,hf,hj,hl,ho24,hW⟩;refine Zs hf fun _ hK25=>?_;refine Ze (X1a rfl rfl) ?_;refine Zt hK25 fun a hf=>?_;refine wp_seq_k fun _ hK26=>?_
 refine X9 hf rfl (fun hc27=>?_) (fun hc27=>?_)
 ·have hc27b:=hc27;have hc27:=of_decide_eq_true hc27
  obtain ⟨u28,hu28⟩:=Xf (l:=ls) (k:=j) (by omega)
  have hst:=X89 (f:=Sg.l) hu28;have hle:=X9c Sg.l ls (j+1)
  rw [hst,List.length_append,← hl] at hle
  refine wp_skip ?_;refine hK26 _ _ ?_;refine wp_seq_k fun _ hK29=>?_;refine wp_block ?_;refine Zs hf fun _ hK30=>?_;refine Zi (k:=j) (u:=u28) (enc:=encSg) (l:=ls) trivial rfl rfl X7l X9q X87 (hr_ls.below' hW) hu28 rfl ?_;intro p32 hat31
  have hr33:Rd w3 w0.heap.size 114 encG u28.A u28.l:=(hall u28 (List.mem_of_getElem? hu28)).below' hW
  refine Ze (X0 rfl X25 hat31)<|Za rfl ?_;refine Zt hK30 fun a hf=>?_;refine Zr hf ?_;refine Zm rfl<|Zm rfl ?_;refine Zf (X11 (enc:=encG) (l:=(l)) (l2:=(u28.l)) (B0:=w0.heap.size) rfl rfl X13 X1s X0w X2o ho24 hr33 (by simp only [maxLen];omega) (by omega) hW.size) ?_;rintro _ w4 ⟨A34,c34,rfl,ho34,hg,hat⟩
  have hown:Own _ w0.heap.size 114 3 encG _ _ (l):=ho24
  clear hat;replace hr33:=hr33.appB hown hg (Nat.le_refl _);replace hW:=Below.app hW hown hg (Nat.le_refl _) hW.size;clear hown hg;refine Za rfl ?_;refine Zn fun a hf=>?_;refine X5 ?_;refine hK29 _ _ ?_;refine Zr hf ?_;refine Ze (Xu rfl rfl (by omega) (by omega))<|Zm rfl ?_;refine Zn fun a hf=>?_;refine X8 ?_;exact ⟨(j+1,l++u28.l),⟨A34,c34,hf.sub ⟨rfl,rfl,rfl,rfl,trivial⟩,(by omega),(by rw [hst,hl]),ho34,hW⟩,(by first|omega|(dsimp only;omega))⟩
 have hc27b:=hc27;have hc27:=of_decide_eq_false hc27;refine wp_exit ?_;refine Xh ?_;refine Xh ?_;refine Xt ?_;refine hK22 _ _ ?_;refine Zs hf fun _ hK35=>?_;refine Zm rfl<|Za rfl ?_;refine Zt hK35 fun a hf=>?_
 refine wp_ret (X4 hf (X01 hf rfl rfl) ?_)
 have hfin:l=ls.flatMap Sg.l:=by rw [hl];exact Xe6 _ (by omega)
 rw [← hfin]
 exact ⟨A24,c24,rfl,ho24,hW⟩
theorem F14(w0:World){Xc:TypeId}(c:Cx)(Ac:Option Addr)(cc:Nat)(hr_c:Rd w0 w0.heap.size Xc encG Ac c.gs)(t:Int)(ht:0≤t∧t≤1048576)(hlc:c.gs.length≤9223372036854775807) : Ret Tryz.prog 16 [.agg #[vi c.n,.slice Ac c.gs.length cc],vi t] w0 (fun v w=>v=vi (szG c.gs t)∧Below w0.heap.size w0 w):=by
 refine enter Tryz.func16 rfl 12 rfl rfl ?_;intro a hf
 have hW:Below w0.heap.size w0 w0:=Below.refl _ _
 refine Zs hf fun _ hK2=>?_;refine Zf (X0t (zs:=[vi c.n,.slice Ac c.gs.length cc]) rfl rfl) ?_;rintro _ w1 ⟨b3,rfl,hl3,hE,hB3⟩;have hlo3:=Nat.le_trans hW.size hl3;have haw1_3:=(hr_c.below' hW).away hl3;replace hW:=btr hW hE;refine Za rfl ?_;refine Zt hK2 fun a hf=>?_;refine Zs hf fun _ hK4=>?_;refine Ze (Vd rfl Xc7 1)<|Ze (X0 rfl Xkn (hB3.at 1))<|Zm rfl ?_;refine Zf (Vc (F42 _ Ac cc c.gs (hr_c.below' hW).top t ht hlc) Xpp) ?_;rintro _ _ ⟨rfl,rfl⟩;refine Za rfl ?_;refine Zt hK4 fun a hf=>?_;refine wp_seq_k fun _ hK5=>?_;refine Zs hf fun _ hK6=>?_;refine Zm rfl<|Ze (X1a rfl rfl) ?_;refine Zt hK6 fun a hf=>?_
 refine X9 hf rfl (fun hc7=>?_) (fun hc7=>?_)
 ·have hc7b:=hc7;have hc7:=of_decide_eq_true hc7
  have hfin:szG c.gs t = -1:=Xjj hc7
  refine Zs hf fun _ hK8=>?_;refine Za rfl ?_;refine Zt hK8 fun a hf=>?_;refine wp_ret ?_;refine X3 ?_;refine X4 hf (X01 hf rfl rfl) ?_;exact ⟨by rw [hfin],hW⟩
 have hc7b:=hc7;have hc7:=of_decide_eq_false hc7;have hne:=hc7;refine wp_skip ?_;refine hK5 _ _ ?_;refine Zs hf fun _ hK9=>?_;refine Zm rfl<|Za rfl ?_;refine Zt hK9 fun a hf=>?_
 refine wp_ret (X4 hf (X01 hf rfl rfl) ?_)
 exact ⟨rfl,hW⟩
theorem F16(w0:World){Xc:TypeId}(c:Cx)(Ac:Option Addr)(cc:Nat)(hr_c:Rd w0 w0.heap.size Xc encG Ac c.gs)(hlc:c.gs.length≤1048576) : Ret Tryz.prog 18 [.agg #[vi c.n,.slice Ac c.gs.length cc]] w0 (fun v w=>∃ A c1,v=.agg #[vi c.n,.slice A c.gs.length c1]∧Own w w0.heap.size 114 3 encG A c1 c.gs∧Below w0.heap.size w0 w):=by
 refine enter Tryz.func18 rfl 12 rfl rfl ?_;intro a hf
 have hW:Below w0.heap.size w0 w0:=Below.refl _ _
 refine Zs hf fun _ hK2=>?_;refine Zf (X0t (zs:=[vi c.n,.slice Ac c.gs.length cc]) rfl rfl) ?_;rintro _ w1 ⟨b3,rfl,hl3,hE,hB3⟩;have hlo3:=Nat.le_trans hW.size hl3;have haw1_3:=(hr_c.below' hW).away hl3;replace hW:=btr hW hE;refine Zf (X6 (zs:=[vi 0,.slice none 0 0]) X40 rfl) ?_;rintro _ w2 ⟨b5,rfl,hl5,hE,hB5⟩;have hlo5:=Nat.le_trans hW.size hl5;have haw1_5:=(hr_c.below' hW).away hl5;replace hB3:=hB3.below hE;replace hW:=btr hW hE;refine Zt hK2 fun a hf=>?_;refine Zs hf fun _ hK6=>?_;refine Zf (X6 (zs:=[vi 0,.slice none 0 0]) X40 rfl) ?_;rintro _ w3 ⟨b8,rfl,hl8,hE,hB8⟩
 have hne5_8:b5≠b8:=by have:=hB5.lt;omega
 have hlo8:=Nat.le_trans hW.size hl8;have haw1_8:=(hr_c.below' hW).away hl8;replace hB3:=hB3.below hE;replace hB5:=hB5.below hE;replace hW:=btr hW hE;refine Zt hK6 fun a hf=>?_;refine Zs hf fun _ hK9=>?_;refine Ze (Vd rfl Xi0 0)<|Ze (X0 rfl X2 (hB3.at 0))<|Ze (Vd rfl X1g 0) ?_;refine Zo (Vu (vs:=[vi c.n]) (l':=[vi c.n,.slice none 0 0]) rfl rfl X0j hB8) ?_;rintro _ w4 ⟨ho,hb⟩;have hold:=hB8;replace hB3:=hB3.only ho (Blk.ne hB3 hold rfl);replace hB5:=hB5.only ho (by omega);replace hW:=Below.only hW ho hlo8;clear hold;have hB8:=hb;clear hb ho;refine Zt hK9 fun a hf=>?_;refine Zs hf fun _ hK10=>?_;refine Ze (Vd rfl Xc7 1)<|Ze (X0 rfl Xkn (hB3.at 1)) ?_;refine Zf (Vc (F45 _ Ac cc c.gs (hr_c.below' hW).top hlc) Xp9) ?_;rintro _ w5 ⟨A11,c11,rfl,ho11,hE⟩;replace ho11:=ho11.lower hW.size;replace hB3:=hB3.below hE;replace hB5:=hB5.below hE;replace hB8:=hB8.below hE;replace hW:=btr hW hE;refine Ze (Vd rfl X0z 1) ?_;refine Zo (Vu (vs:=[.slice A11 c.gs.length c11]) (l':=[vi c.n,.slice A11 c.gs.length c11]) rfl rfl X9q hB8) ?_;rintro _ w6 ⟨ho,hb⟩;have hold:=hB8;replace hB3:=hB3.only ho (Blk.ne hB3 hold rfl);replace hB5:=hB5.only ho (by omega);replace ho11:=ho11.onlyT ho hold rfl;replace hW:=Below.only hW ho hlo8;clear hold;have hB8:=hb;clear hb ho;refine Zt hK10 fun a hf=>?_;refine Zs hf fun _ hK12=>?_;refine Ze (Vn X0s hB8) ?_;refine Zo (Vw [vi c.n,.slice A11 c.gs.length c11] X1q hB5) ?_;rintro _ w7 ⟨ho,hb⟩;have hold:=hB5;replace hB8:=hB8.only ho (by omega);replace ho11:=ho11.onlyT ho hold rfl;replace hW:=Below.only hW ho hlo5;clear hold;have hB5:=hb;clear hb ho;refine Zt hK12 fun a hf=>?_
 refine wp_ret (X4 hf (X01 hf rfl (ResV.cellN (l:=[vi c.n,.slice A11 c.gs.length c11]) rfl X0s (hB5.at 0) rfl)) ?_)
 exact ⟨A11,c11,rfl,ho11,hW⟩
theorem F19(w0:World)(p:Cx)(Ap:Option Addr)(cp:Nat)(hr_p:Rd w0 w0.heap.size 114 encG Ap p.gs)(q:Cx)(Aq:Option Addr)(cq:Nat)(hr_q:Rd w0 w0.heap.size 114 encG Aq q.gs)(hln:p.gs.length≤2305843009213693951) : Ret Tryz.prog 20 [.agg #[vi p.n,.slice Ap p.gs.length cp],.agg #[vi q.n,.slice Aq q.gs.length cq]] w0 (fun v w=>v=.bool (eqC p q)∧Below w0.heap.size w0 w):=by
 refine enter Tryz.func20 rfl 16 rfl rfl ?_;intro a hf
 have hW:Below w0.heap.size w0 w0:=Below.refl _ _
 refine Zs hf fun _ hK3=>?_;refine Zf (X0t (zs:=[vi p.n,.slice Ap p.gs.length cp]) rfl rfl) ?_;rintro _ w1 ⟨b4,rfl,hl4,hE,hB4⟩;have hlo4:=Nat.le_trans hW.size hl4;replace hW:=btr hW hE;refine Zf (X0t (zs:=[vi q.n,.slice Aq q.gs.length cq]) rfl rfl) ?_;rintro _ w2 ⟨b5,rfl,hl5,hE,hB5⟩
 have hne4_5:b4≠b5:=by have:=hB4.lt;omega
 have hlo5:=Nat.le_trans hW.size hl5;replace hB4:=hB4.below hE;replace hW:=btr hW hE;refine Za rfl ?_;refine Zt hK3 fun a hf=>?_;refine wp_seq_k fun _ hK6=>?_;refine Zs hf fun _ hK7=>?_;refine Ze (Vd rfl X1g 0)<|Ze (X0 rfl X2 (hB4.at 0))<|Ze (Vd rfl X1g 0)<|Ze (X0 rfl X2 (hB5.at 0))<|Ze (X3k rfl rfl) ?_;refine Zt hK7 fun a hf=>?_
 refine X9 hf rfl (fun hc8=>?_) (fun hc8=>?_)
 ·have hc8b:=hc8
  have hn:¬ p.n=q.n:=by simpa using hc8
  refine Zs hf fun _ hK9=>?_;refine Za rfl ?_;refine Zt hK9 fun a hf=>?_;refine wp_ret ?_;refine X3 ?_;refine X4 hf (X01 hf rfl rfl) ?_;exact ⟨by simp [eqC,hn],hW⟩
 have hc8b:=hc8
 have e1:p.n=q.n:=by simpa using hc8
 refine wp_skip ?_;refine hK6 _ _ ?_;refine wp_seq_k fun _ hK10=>?_;refine Zs hf fun _ hK11=>?_;refine Ze (Vd rfl X0z 1)<|Ze (X0 rfl X25 (hB4.at 1))<|Ze (Vd rfl X0z 1)<|Ze (X0 rfl X25 (hB5.at 1)) ?_;refine Zf (Vc (F52 _ Ap cp p.gs (hr_p.below' hW).top Aq cq q.gs (hr_q.below' hW).top hln) Xo3) ?_;rintro _ w3 ⟨rfl,hE⟩;replace hB4:=hB4.below hE;replace hB5:=hB5.below hE;replace hW:=btr hW hE;refine Ze (X1d rfl) ?_;refine Zt hK11 fun a hf=>?_
 refine X9 hf rfl (fun hc12=>?_) (fun hc12=>?_)
 ·have hc12b:=hc12
  have hn:¬ p.gs=q.gs:=by simpa using hc12
  refine Zs hf fun _ hK13=>?_;refine Za rfl ?_;refine Zt hK13 fun a hf=>?_;refine wp_ret ?_;refine X3 ?_;refine X4 hf (X01 hf rfl rfl) ?_;exact ⟨by simp [eqC,hn],hW⟩
 have hc12b:=hc12
 have e2:p.gs=q.gs:=by simpa using hc12
 refine wp_skip ?_;refine hK10 _ _ ?_;refine Zs hf fun _ hK14=>?_;refine Za rfl ?_;refine Zt hK14 fun a hf=>?_
 refine wp_ret (X4 hf (X01 hf rfl rfl) ?_)
 exact ⟨by simp [eqC,e1,e2],hW⟩
def comS(g h:Gt) : Bool:=(qubI g).any fun x=>(qubI h).any fun y=>y==x
def comI(g h:Gt) : Bool:=(qubI g).any fun x=>(qubI h).any fun y=>x==y
section
variable {p q : Mx}
end
def gZ:Gt:=⟨0,0,0⟩
def eqM(p q:Mx) : Bool:=decide (p.rows=q.rows)&&decide (p.cols=q.cols)&&decide (p.cells=q.cells)
def unionS(g h:Gt) : List Int:=(qubI g++qubI h).foldl putI []
structure PairOk (us:List Int) (g h:Gt) : Prop where
 inc:Inc us
 low:∀ x ∈ us,0≤x∧x≤4
 one:1≤us.length
 len:us.length≤5
 gk:¬ g.k=12
 hk:¬ h.k=12
 ga:g.a ∈ us
 ha:h.a ∈ us
 gb:inR g.k 9 11=true→g.b ∈ us
 hb:inR h.k 9 11=true→h.b ∈ us
 gs:gOk (us.length:Int) (smallG us g)=true
 hs:gOk (us.length:Int) (smallG us h)=true
def commS(g h:Gt) : Bool:=if comS g h=true then
  eqM (timesS false (gateS ((unionS g h).length:Int) (smallG (unionS g h) g)) (gateS ((unionS g h).length:Int) (smallG (unionS g h) h))).2
   (timesS (timesS false (gateS ((unionS g h).length:Int) (smallG (unionS g h) g)) (gateS ((unionS g h).length:Int) (smallG (unionS g h) h))).1 (gateS ((unionS g h).length:Int) (smallG (unionS g h) h)) (gateS ((unionS g h).length:Int) (smallG (unionS g h) g))).2
 else true
def commI(g h:Gt) : Bool:=if comI g h=true then
  eqM ((opI ⟨((unionI (qubI g) (qubI h)).length:Int),mapI [g,h] (numbI (unionI (qubI g) (qubI h)))⟩).getD mZ) ((opI ⟨((unionI (qubI g) (qubI h)).length:Int),[mapG (numbI (unionI (qubI g) (qubI h))) h,mapG (numbI (unionI (qubI g) (qubI h))) g]⟩).getD mZ)
 else true
section
variable (gs : List Gt) (s : List Int) (g : Gt) (x : Int)
def pA(j:Nat) : Bool:=decide (x≤s.getD j 0)&&!commS g (gs.getD j gZ)
def pB(j:Nat) : Bool:=s.getD j 0==x&&comS g (gs.getD j gZ)
def faultG(i:Nat) : Int:=if g.k=12 then (if x=0 then 0 else 1) else if inR x 1 400=true then (if (List.range i).any (pA gs s g x)=true then 2 else if (List.range i).any (pB gs s g x)=true then 3 else 0) else 1
def faultS(i:Nat) : Int:=faultG gs s (gs.getD i gZ) (s.getD i 0) i
def qA(j:Nat) : Bool:=!commI (gs.getD j gZ) g&&decide (x≤s.getD j 0)
def qB(j:Nat) : Bool:=s.getD j 0==x&&comI (gs.getD j gZ) g
def faultH(i:Nat) : Int:=if (g.k==12&&x != 0||g.k != 12&&!inR x 1 400)=true then 1 else if (List.range i).any (qA gs s g x)=true then 2 else if (List.range i).any (qB gs s g x)=true then 3 else 0
def faultI(i:Nat) : Int:=faultH gs s (gs.getD i gZ) (s.getD i 0) i
end
def firstF(f:Nat→Int) : Nat→Nat→Int×Int
 | 0,_=>(0,0)
 | n+1,i=>if f i=0 then firstF f n (i+1) else (f i,(i:Int))
def schedS(gs:List Gt)(s:List Int) : Int×Int:=if s.length=gs.length then firstF (faultS gs s) gs.length 0 else (1,0)
def schedI(gs:List Gt)(s:List Int) : Int×Int:=if s.length=gs.length then firstF (faultI gs s) gs.length 0 else (1,0)
def specC(c:Cx)(s:List Int) : Int×Int×Bool:=if cOk c=true then ((schedS c.gs s).1,(schedS c.gs s).2,true) else (0,0,false)
def implC(c:Cx)(s:List Int) : Int×Int×Bool:=if cOk c=true then ((schedI c.gs s).1,(schedI c.gs s).2,true) else (0,0,false)
section
variable {f : Nat → Int} {n i : Nat} {r : Int × Int} {x : Int}
end
section
variable {p : Nat → Bool} {i j : Nat}
end
section
variable {gs : List Gt} {s : List Int} {i : Nat} {g : Gt}
end
def kV(x y:Gt) : Value:=.agg #[.int .i64 x.k,.int .i64 x.a,.int .i64 x.b,.int .i64 y.k,.int .i64 y.a,.int .i64 y.b]
structure Me where (x y:Gt) (v:Bool) (born:Nat)
def entM(m:Me) : MapEntry:={ key:=kV m.x m.y,val:=.bool m.v,born:=m.born }
def findM(l:List Me)(x y:Gt) : Option Bool:=(l.find? fun m=>decide (x=m.x)&&decide (y=m.y)).map Me.v
def GoodM(l:List Me) : Prop:=∀ m ∈ l,m.v = !commI m.x m.y
def MemoL(w:World)(b:Nat)(l:List Me)(clock:Nat) : Prop:=w.heap[b]? = some (.map (l.map entM).toArray clock)
def MemoG(w:World)(b:Nat) : Prop:=∃ l clock,MemoL w b l clock∧GoodM l
def MemoN(x y:Gt)(w:World)(b:Nat) : Prop:=∃ l clock,MemoL w b l clock∧GoodM l∧findM l x y=none
theorem MemoL.lt{w:World}{b clock:Nat}{l:List Me}(h:MemoL w b l clock) : b<w.heap.size:=by
 rcases Nat.lt_or_ge b w.heap.size with h'|h'
 ·exact h'
 ·simp [MemoL,Array.getElem?_eq_none h'] at h
theorem MemoL.below{w w':World}{b clock:Nat}{l:List Me}(h:MemoL w b l clock)(hb:Below w.heap.size w w') : MemoL w' b l clock:=(hb.block b h.lt).trans h
theorem MemoL.only{w w':World}{b b' clock:Nat}{l:List Me}(h:MemoL w b l clock)(ho:Only b' w w')(hne:b≠b') : MemoL w' b l clock:=(ho.block b hne).trans h
theorem MemoL.ne{w:World}{b b' clock:Nat}{l:List Me}{T:TypeId}{cs:List Value}(h:MemoL w b l clock)(hb:Blk w b' T cs) : b≠b':=by
 rintro rfl
 unfold MemoL at h
 unfold Blk at hb
 rw [h] at hb
 cases hb
section
variable {w w' : World} {b b' : Nat} {x y : Gt}
theorem MemoG.lt(h:MemoG w b) : b<w.heap.size:=let ⟨_,_,h,_⟩:=h;h.lt
theorem MemoG.below(h:MemoG w b)(hb:Below w.heap.size w w') : MemoG w' b:=let ⟨l,c,h,g⟩:=h;⟨l,c,h.below hb,g⟩
theorem MemoG.only(h:MemoG w b)(ho:Only b' w w')(hne:b≠b') : MemoG w' b:=let ⟨l,c,h,g⟩:=h;⟨l,c,h.only ho hne,g⟩
theorem MemoG.ne{T:TypeId}{cs:List Value}(h:MemoG w b)(hb:Blk w b' T cs) : b≠b':=let ⟨_,_,h,_⟩:=h;h.ne hb
theorem MemoG.good(h:MemoG w b) : MemoG w b:=h
theorem MemoN.good(h:MemoN x y w b) : MemoG w b:=let ⟨l,c,h,g,_⟩:=h;⟨l,c,h,g⟩
theorem MemoN.lt(h:MemoN x y w b) : b<w.heap.size:=let ⟨_,_,h,_⟩:=h;h.lt
theorem MemoN.below(h:MemoN x y w b)(hb:Below w.heap.size w w') : MemoN x y w' b:=let ⟨l,c,h,g⟩:=h;⟨l,c,h.below hb,g⟩
theorem MemoN.only(h:MemoN x y w b)(ho:Only b' w w')(hne:b≠b') : MemoN x y w' b:=let ⟨l,c,h,g⟩:=h;⟨l,c,h.only ho hne,g⟩
theorem MemoN.ne{T:TypeId}{cs:List Value}(h:MemoN x y w b)(hb:Blk w b' T cs) : b≠b':=let ⟨_,_,h,_⟩:=h;h.ne hb
theorem Blk.onlyM{T:TypeId}{cs:List Value}(h:Blk w b' T cs)(ho:Only b w w')(hm:MemoG w b) : Blk w' b' T cs:=h.only ho (Ne.symm (hm.ne h))
theorem Rd.onlyM{α:Type}{B:Nat}{E:TypeId}{enc:α→List Value}{A:Option Addr}{l:List α}(h:Rd w B E enc A l)(ho:Only b w w')(hm:MemoG w b) : Rd w' B E enc A l:=h.chg fun k cs fz _ hk=>ho.block k fun e=>by
 obtain ⟨_,_,hL,_⟩:=hm
 unfold MemoL at hL
 rw [e,hL] at hk
 cases hk
end
theorem Xdq{l:List Me}{x y:Gt}{v:Bool}(h:GoodM l)(hf:findM l x y=some v) : v = !commI x y:=by
 unfold findM at hf
 rw [Option.map_eq_some_iff] at hf
 obtain ⟨m,h1,h2⟩:=hf;have h3:=List.find?_some h1
 simp only [Bool.and_eq_true,decide_eq_true_eq] at h3
 rw [← h2,h m (List.mem_of_find?_eq_some h1),h3.1,h3.2]
def LookM(w:World)(b:Nat)(x y:Gt)(v k:Bool) : Prop:=∃ l clock,MemoL w b l clock∧((k=true∧findM l x y=some v)∨(k=false∧v=false∧findM l x y=none))
theorem MemoG.look{w:World}{b:Nat}(h:MemoG w b)(x y:Gt) : ∃ v k,LookM w b x y v k∧(k=true→v = !commI x y)∧(k=false→MemoN x y w b):=by
 obtain ⟨l,clock,hL,hg⟩:=h
 cases hf:findM l x y with
 | none=>exact ⟨false,false,⟨l,clock,hL,.inr ⟨rfl,rfl,hf⟩⟩,(fun h=>by cases h),fun _=>⟨l,clock,hL,hg,hf⟩⟩
 | some v=>exact ⟨v,true,⟨l,clock,hL,.inl ⟨rfl,hf⟩⟩,fun _=>Xdq hg hf,(fun h=>by cases h)⟩
section
variable {a : Act} {w : World} {n : Nat} {e : Env} {ty : TypeId} {pos : String} {af : Array Edge} {g : Option (Nat × Bool)} {d : Option Tmp} {x y : Gt} {b : Nat}
end
section
variable {P : Program} {a : Act} {w : World} {n : Nat} {e : Env} {ty : TypeId} {pos : String} {af : Array Edge} {g : Option (Nat × Bool)} {d : Option Tmp}
end
section
variable {P : Program} {a : Act} {w : World} {n : Nat} {e : Env} {α : Type} {ops : Array Oper} {ty : TypeId} {pos : String} {af : Array Edge} {g : Option (Nat × Bool)} {d : Nat}
end
theorem Xd1{gs:List Gt}{i:Nat}(h:i<gs.length) : gs[i]? = some (gs.getD i gZ):=by
 rw [List.getD_eq_getElem?_getD,List.getElem?_eq_getElem h];rfl
section
variable {gs : List Gt} {s : List Int} {i : Nat} {g : Gt}
end
def RB(k:Int)(x:Rg) : Prop:=(-k≤x.a∧x.a≤k)∧(-k≤x.b∧x.b≤k)∧(-k≤x.c∧x.c≤k)∧(-k≤x.d∧x.d≤k)
def SM(e:Int)(k:Int)(x:Dy) : Prop:=dOk x=true∧RB k x.num∧x.exp≤e
theorem RB.ok{k:Int}{x:Rg}(h:RB k x)(hk:k≤1000000000) : rOk x=true:=by
 unfold RB at h
 exact Xir.2 (by omega)
theorem RB.root{k:Int}{x:Rg}(h:RB k x)(hk:k≤1000000000) : RB (2*k) (rRoot x):=by
 unfold RB at *
 simp only [rRoot]
 rw [X2p (by omega) (by omega),X2p (by omega) (by omega),X2p (by omega) (by omega),X2p (by omega) (by omega)]
 omega
theorem RB.half{k:Int}{x:Rg}(h:RB k x)(h0:0≤k)(hk:k≤1000000000) : RB k (rHalf x):=by
 have h1:=h.root hk
 unfold RB at *
 simp only [rHalf]
 have hd:∀ i:Int,-(2*k)≤i→i≤2*k→-k≤wr (i.tdiv 2)∧wr (i.tdiv 2)≤k:=fun i a b=>by
  have:-k≤i.tdiv 2∧i.tdiv 2≤k:=by
   rcases Int.le_total 0 i with h|h
   ·rw [Int.tdiv_eq_ediv_of_nonneg h];omega
   ·have e:i.tdiv 2 = -((-i).tdiv 2):=by rw [Int.neg_tdiv,Int.neg_neg]
    rw [e,Int.tdiv_eq_ediv_of_nonneg (by omega)];omega
  rw [X2p (by omega) (by omega)]
  exact this
 exact ⟨hd _ h1.1.1 h1.1.2,hd _ h1.2.1.1 h1.2.1.2,hd _ h1.2.2.1.1 h1.2.2.1.2,hd _ h1.2.2.2.1 h1.2.2.2.2⟩
theorem RB.low{k:Int}(h0:0≤k)(hk:k≤1000000000) : ∀ (n:Nat) {x:Rg},RB k x→RB k (lowN n x).1
 | 0,_,h=>h
 | n+1,x,h=>by
  rw [lowN]
  split
  ·exact RB.low h0 hk n (h.half h0 hk)
  ·exact h
theorem one_mul{a b:Int}(ha:-1≤a∧a≤1)(hb:-1≤b∧b≤1) : -1≤a*b∧a*b≤1:=by
 have:a = -1∨a=0∨a=1:=by omega
 rcases this with rfl|rfl|rfl<;>omega
theorem w4:∀ p q r s:Int,(-1≤p∧p≤1)→(-1≤q∧q≤1)→(-1≤r∧r≤1)→(-1≤s∧s≤1)→(-4≤wr (wr (wr (wr p-wr q)-wr r)-wr s)∧wr (wr (wr (wr p-wr q)-wr r)-wr s)≤4)∧(-4≤wr (wr (wr (wr p+wr q)-wr r)-wr s)∧wr (wr (wr (wr p+wr q)-wr r)-wr s)≤4)∧(-4≤wr (wr (wr (wr p+wr q)+wr r)-wr s)∧wr (wr (wr (wr p+wr q)+wr r)-wr s)≤4)∧(-4≤wr (wr (wr (wr p+wr q)+wr r)+wr s)∧wr (wr (wr (wr p+wr q)+wr r)+wr s)≤4):=fun p q r s hp hq hr hs=>by
 have a1:wr p=p:=X2p (by omega) (by omega)
 have a2:wr q=q:=X2p (by omega) (by omega)
 have a3:wr r=r:=X2p (by omega) (by omega)
 have a4:wr s=s:=X2p (by omega) (by omega)
 have b1:wr (p-q)=p-q:=X2p (by omega) (by omega)
 have b2:wr (p+q)=p+q:=X2p (by omega) (by omega)
 have c1:wr (p-q-r)=p-q-r:=X2p (by omega) (by omega)
 have c2:wr (p+q-r)=p+q-r:=X2p (by omega) (by omega)
 have c3:wr (p+q+r)=p+q+r:=X2p (by omega) (by omega)
 have d1:wr (p-q-r-s)=p-q-r-s:=X2p (by omega) (by omega)
 have d2:wr (p+q-r-s)=p+q-r-s:=X2p (by omega) (by omega)
 have d3:wr (p+q+r-s)=p+q+r-s:=X2p (by omega) (by omega)
 have d4:wr (p+q+r+s)=p+q+r+s:=X2p (by omega) (by omega)
 rw [a1,a2,a3,a4,b1,b2,c1,c2,c3,d1,d2,d3,d4]
 refine ⟨⟨?_,?_⟩,⟨?_,?_⟩,⟨?_,?_⟩,?_,?_⟩<;>omega
def dotK:Nat→Int
 | 0=>0
 | n+1=>4*dotK n+16
def smB(z:Dy) : Bool:=dOk z&&inR z.num.a (-1) 1&&inR z.num.b (-1) 1&&inR z.num.c (-1) 1&&inR z.num.d (-1) 1&&decide (z.exp≤1)
def fitA(gs:List Gt)(i:Nat)(k:Int)(out:List Int)(j:Nat) : Bool:=decide (j<i)&&!commI (gs.getD j gZ) (gs.getD i gZ)&&(out.getD j 0==0||decide (k≤out.getD j 0))
def fitB(gs:List Gt)(i:Nat)(k:Int)(out:List Int)(j:Nat) : Bool:=decide (j≠i)&&out.getD j 0==k&&comI (gs.getD j gZ) (gs.getD i gZ)
def fitC(gs:List Gt)(i:Nat)(k:Int)(out:List Int)(j:Nat) : Bool:=fitA gs i k out j||fitB gs i k out j
def fitsI(gs:List Gt)(i:Nat)(k:Int)(out:List Int) : Bool:=!(List.range gs.length).any (fitC gs i k out)
def mayI(gs:List Gt)(k:Int)(out:List Int)(i:Nat) : Bool:=(gs.getD i gZ).k != 12&&out.getD i 0==0&&fitsI gs i k out
def stepI(gs:List Gt)(k:Int)(out:List Int)(i:Nat) : List Int:=if mayI gs k out i=true then out.set i k else out
def sweepN(gs:List Gt)(k:Int)(out:List Int)(i:Nat) : List Int:=(List.range i).foldl (stepI gs k) out
def cntZ:List Gt→List Int→Nat
 | g::gs,x::xs=>(if g.k≠12∧x=0 then 1 else 0)+cntZ gs xs
 | _,_=>0
def runI(gs:List Gt) : Nat→Int→List Int→List Int
 | 0,_,out=>out
 | f+1,k,out=>if cntZ gs out=0 then out else runI gs f (k+1) (sweepN gs k out gs.length)
def schedOf(c:Cx) : List Int:=if cOk c=true then runI c.gs c.gs.length 1 (List.replicate c.gs.length 0) else []
theorem getD_some{α:Type}{l:List α}{i:Nat}{d x:α}(h:l[i]? = some x) : l.getD i d=x:=by rw [List.getD_eq_getElem?_getD,h];rfl
structure Sch (gs:List Gt) (k:Int) (out:List Int) : Prop where
 len:out.length=gs.length
 low:∀ j,j<gs.length→0≤out.getD j 0∧out.getD j 0<k
 w:∀ j,j<gs.length→(gs.getD j gZ).k=12→out.getD j 0=0
theorem X9v{out:List Int}{i j:Nat}{k:Int}(hi:i<out.length) : (out.set i k).getD j 0=if j=i then k else out.getD j 0:=by
 rw [List.getD_eq_getElem?_getD,List.getD_eq_getElem?_getD,List.getElem?_set]
 by_cases h:i=j
 ·subst h;rw [if_pos rfl,if_pos hi,if_pos rfl];rfl
 ·rw [if_neg h,if_neg (Ne.symm h)]
structure SchM (gs:List Gt) (k:Int) (out:List Int) : Prop where
 len:out.length=gs.length
 low:∀ j,j<gs.length→0≤out.getD j 0∧out.getD j 0≤k
 w:∀ j,j<gs.length→(gs.getD j gZ).k=12→out.getD j 0=0
theorem Sch.mid{gs:List Gt}{k:Int}{out:List Int}(h:Sch gs k out) : SchM gs k out:=⟨h.len,fun j hj=>⟨(h.low j hj).1,by have:=(h.low j hj).2;omega⟩,h.w⟩
theorem SchM.step{gs:List Gt}{k:Int}{out:List Int}{i:Nat}(h:SchM gs k out)(hk:1≤k)(hi:i<gs.length) : SchM gs k (stepI gs k out i):=by
 unfold stepI
 split
 ·rename_i hm
  have hio:i<out.length:=by rw [h.len];exact hi
  unfold mayI at hm
  simp only [Bool.and_eq_true] at hm
  refine ⟨by rw [List.length_set];exact h.len,fun j hj=>?_,fun j hj hw=>?_⟩
  ·rw [X9v hio];split
   ·omega
   ·exact h.low j hj
  ·rw [X9v hio];split
   ·rename_i e;subst e;rw [hw] at hm;simp at hm
   ·exact h.w j hj hw
 ·exact h
theorem SchM.next{gs:List Gt}{k:Int}{out:List Int}(h:SchM gs k out) : Sch gs (k+1) out:=⟨h.len,fun j hj=>⟨(h.low j hj).1,by have:=(h.low j hj).2;omega⟩,h.w⟩
def cvt(g:Gt)(x:Int) : Int:=if g.k=12 then 0 else if x=0 then -1 else x
def conv:List Gt→List Int→List Int
 | g::gs,x::xs=>cvt g x::conv gs xs
 | _,_=>[]
def folS(gs:List Gt)(i:Nat)(j:Nat) : List Int:=((List.range j).filter fun q=>!commS (gs.getD i gZ) (gs.getD q gZ)).map fun (q:Nat)=>(q:Int)
def followsS(gs:List Gt)(i:Nat) : List (List Int):=(List.range i).map fun q=>folS gs q q
def freeA(lay:List Int)(k:Int)(j:Int) : Bool:=decide (lay.getD j.toNat 0<0)||decide (k≤lay.getD j.toNat 0)
def freeB(gs:List Gt)(lay:List Int)(k:Int)(i j:Nat) : Bool:=decide (j≠i)&&lay.getD j 0==k&&comS (gs.getD i gZ) (gs.getD j gZ)
def freeS(gs:List Gt)(lay:List Int)(k:Int)(i:Nat)(fol:List Int) : Bool:=!fol.any (freeA lay k)&&!(List.range gs.length).any (freeB gs lay k i)
def sN:Sl:=⟨none,0,[]⟩
def ini(gs:List Gt) : List Int:=gs.map fun g=>if g.k=12 then 0 else -1
def cntW(gs:List Gt) : Nat:=(gs.filter fun g=>g.k != 12).length
structure Ed where (a b:Int) deriving DecidableEq
def encE(x:Ed) : List Value:=[.int .i64 x.a,.int .i64 x.b]
abbrev eV(x:Ed) : Value:=.agg #[.int .i64 x.a,.int .i64 x.b]
def encB(b:Bool) : List Value:=[.bool b]
structure Gp where (n:Int) (es:List Ed)
structure Ro where (st:List Int) (steps:List Gt)
def eZ:Ed:=⟨0,0⟩
def ordE(es:List Ed)(i:Nat)(e:Ed) : Bool:=decide (0<i)&&(decide (e.a<(es.getD (i-1) eZ).a)||(es.getD (i-1) eZ).a==e.a&&decide (e.b≤(es.getD (i-1) eZ).b))
def badS(n:Int)(es:List Ed)(i:Nat) : Bool:=!inR (es.getD i eZ).a 0 (wr ((es.getD i eZ).b-1))||!inR (es.getD i eZ).b 0 (wr (n-1))||ordE es i (es.getD i eZ)
def badI(n:Int)(es:List Ed)(i:Nat) : Bool:=(decide ((es.getD i eZ).a<0)||decide ((es.getD i eZ).b≤(es.getD i eZ).a)||decide (n≤(es.getD i eZ).b))||ordE es i (es.getD i eZ)
def gpS(g:Gp) : Bool:=!(List.range g.es.length).any (badS g.n g.es)&&inR g.n 1 8
def gpI(g:Gp) : Bool:=inR g.n 1 8&&!(List.range g.es.length).any (badI g.n g.es)
def i64(x:Int) : Prop:=-9223372036854775808≤x∧x≤9223372036854775807
def edgS(g:Gp)(a b:Int) : Bool:=g.es.any fun e=>e.a==a&&e.b==b||e.a==b&&e.b==a
def edgI(g:Gp)(a b:Int) : Bool:=g.es.any fun e=>decide ((⟨min a b,max a b⟩ : Ed)=e)
def badP(n:Int)(p:List Int)(i:Nat) : Bool:=!inR (p.getD i 0) 0 (wr (n-1))||(p.take i).any fun y=>y==p.getD i 0
def badQ(n:Int)(p:List Int)(i:Nat) : Bool:=!inR (p.getD i 0) 0 (wr (n-1))||(p.take i).any fun y=>p.getD i 0==y
def plS(n m:Int)(p:List Int) : Bool:=!(List.range p.length).any (badP n p)&&(p.length:Int)==m
def plI(n m:Int)(p:List Int) : Bool:=!(List.range p.length).any (badQ n p)&&(p.length:Int)==m
def swapP(p:List Int)(a b:Int) : List Int:=p.map fun k=>if k=a then b else if k=b then a else k
def redA(gs:List Gt)(done:List Bool)(k i:Nat) : Bool:=!done.getD i false&&comS (gs.getD i gZ) (gs.getD k gZ)
def redB(gs:List Gt)(done:List Bool)(k i:Nat) : Bool:=!done.getD i false&&comI (gs.getD i gZ) (gs.getD k gZ)
def redS(gs:List Gt)(done:List Bool)(k:Int) : Bool:=inR k 0 ((gs.length:Int)-1)&&!done.getD k.toNat false&&!(List.range k.toNat).any (redA gs done k.toNat)
def redI(gs:List Gt)(done:List Bool)(k:Int) : Bool:=inR k 0 ((gs.length:Int)-1)&&!done.getD k.toNat false&&!(List.range k.toNat).any (redB gs done k.toNat)
def nearS(g:Gp)(p:List Int)(x:Gt) : Bool:=!inR x.k 9 11||edgS g (p.getD x.a.toNat 0) (p.getD x.b.toNat 0)
def nearI(g:Gp)(p:List Int)(x:Gt) : Bool:=!inR x.k 9 11||edgI g (p.getD x.a.toNat 0) (p.getD x.b.toNat 0)
section
variable (E : Int → Int → Bool) (N : List Int → Gt → Bool) (R : List Bool → Int → Bool) (gs : List Gt)
def stp(s:Gt)(p:List Int)(d:List Bool) : Int×List Int×List Bool:=
 if s.k = -1 then (if E s.a s.b=true then (0,swapP p s.a s.b,d) else (2,p,d))
 else if (s.a != 0||s.b != 0||!R d s.k)=true then (3,p,d)
 else if N p (gs.getD s.k.toNat gZ)=true then (0,p,d.set s.k.toNat true) else (4,p,d)
def playL:Nat→List Gt→List Int→List Bool→Int×Int×List Int×List Bool
 | i,[],p,d=>if d.any (fun x=>!x)=true then (5,(i:Int),p,d) else (0,0,p,d)
 | i,s::l,p,d=>if (stp E N R gs s p d).1=0 then playL (i+1) l (stp E N R gs s p d).2.1 (stp E N R gs s p d).2.2 else ((stp E N R gs s p d).1,(i:Int),p,d)
def moved(s:Gt)(p:List Int) : Gt:=if s.k = -1 then ⟨11,s.a,s.b⟩ else mapG p (gs.getD s.k.toNat gZ)
def nextP(s:Gt)(p:List Int) : List Int:=if s.k = -1 then swapP p s.a s.b else p
def buildL:List Gt→List Int→List Gt
 | [],_=>[]
 | s::l,p=>moved gs s p::buildL l (nextP s p)
end
def stpS(g:Gp)(gs:List Gt):=stp (edgS g) (nearS g) (redS gs) gs
def stpI(g:Gp)(gs:List Gt):=stp (edgI g) (nearI g) (redI gs) gs
def playS(g:Gp)(gs:List Gt):=playL (edgS g) (nearS g) (redS gs) gs
def playI(g:Gp)(gs:List Gt):=playL (edgI g) (nearI g) (redI gs) gs
def runG(g:Gp)(c:Cx)(r:Ro) : Int×Int:=if plS g.n c.n r.st=true then ((playS g c.gs 0 r.steps r.st (List.replicate c.gs.length false)).1,(playS g c.gs 0 r.steps r.st (List.replicate c.gs.length false)).2.1) else (1,0)
def runR(g:Gp)(c:Cx)(r:Ro) : Int×Int:=if plI g.n c.n r.st=true then ((playI g c.gs 0 r.steps r.st (List.replicate c.gs.length false)).1,(playI g c.gs 0 r.steps r.st (List.replicate c.gs.length false)).2.1) else (1,0)
def fitsS(g:Gp)(c:Cx) : Bool:=gpS g&&cOk c&&decide (c.n≤g.n)
def fitsR(g:Gp)(c:Cx) : Bool:=gpI g&&cOk c&&decide (c.n≤g.n)
def chkRS(g:Gp)(c:Cx)(r:Ro) : Int×Int×Bool:=if fitsS g c=true then ((runG g c r).1,(runG g c r).2,true) else (0,0,false)
def chkRI(g:Gp)(c:Cx)(r:Ro) : Int×Int×Bool:=if fitsR g c=true then ((runR g c r).1,(runR g c r).2,true) else (0,0,false)
def rcS(g:Gp)(c:Cx)(r:Ro) : Option Cx:=if fitsS g c=true∧g.n≤5∧r.steps.length≤400 then (if (runG g c r).1=0 then some ⟨g.n,buildL c.gs r.steps r.st⟩ else none) else none
def rcI(g:Gp)(c:Cx)(r:Ro) : Option Cx:=if (chkRI g c r).2.2=true∧(chkRI g c r).1=0∧g.n≤5 then cIf ⟨g.n,buildL c.gs r.steps r.st⟩ else none
end Go.Proofs.YtiejkplemjkjoaaGreatDoor
