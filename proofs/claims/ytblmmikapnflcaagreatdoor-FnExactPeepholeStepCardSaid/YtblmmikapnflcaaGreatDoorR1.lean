/-
  What is proved: for every circuit, the program's PeepholeStep answers as the reference's does, leaves its argument as it was and hands out memory of its own, and the argument reads as before. Conditions: none beside the table of powers of ten that the card ties to the program's text.
-/
import Derived.WalkKit
import Derived.Maps.AppendAt
import Derived.Test.YtblmmikapnflcaaGreatDoorProg
import Derived.Laws.StructEq
set_option linter.unusedVariables false
set_option linter.unusedSimpArgs false
set_option maxRecDepth 8000
set_option linter.unusedSectionVars false
namespace Go.Proofs.YtblmmikapnflcaaGreatDoor
open Go.RowKit
abbrev vi(x:Int) : Value:=.int .i64 x
def look(t:Nat) : List (Nat×Value)→Option Value
 | []=>none
 | (k,v)::l=>match Nat.beq k t with
  | true=>some v
  | false=>look t l
structure Fr (a:Act) (n:Nat) (e:List (Nat×Value)) : Prop where
 d:a.defers=[]
 s:a.tmps.size=n
 h:∀ t v,look t e=some v→a.tmps[t]? = some v
def ev(e:List (Nat×Value)) : Operand→Option Value
 | .tmp t=>look t e
 | .const v=>some v
 | .global g=>some (.pointer (some ⟨g,0,none⟩))
 | .func f=>some (.func (.func f) #[] #[])
theorem Fr.ev{a:Act}{n:Nat}{e:List (Nat×Value)}{x:Operand}{v:Value}(hf:Fr a n e)(hx:ev e x=some v) : a.eval x=v:=by
 cases x with
 | tmp t=>
  have:=hf.h t v hx
  simp [Act.eval,this]
 | const u=>simpa [YtblmmikapnflcaaGreatDoor.ev,Act.eval] using hx
 | global g=>simpa [YtblmmikapnflcaaGreatDoor.ev,Act.eval] using hx
 | func f=>simpa [YtblmmikapnflcaaGreatDoor.ev,Act.eval] using hx
def evs(e:List (Nat×Value)) : List Operand→Option (List Value)
 | []=>some []
 | x::l=>match ev e x,evs e l with
  | some v,some vs=>some (v::vs)
  | _,_=>none
theorem Fr.evs{a:Act}{n:Nat}{e:List (Nat×Value)}(hf:Fr a n e) : ∀ {l:List Operand} {vs:List Value},evs e l=some vs→l.map a.eval=vs:=by
 intro l
 induction l with
 | nil=>intro vs h;simpa [YtblmmikapnflcaaGreatDoor.evs] using h
 | cons x l ih=>
  intro vs h
  simp only [YtblmmikapnflcaaGreatDoor.evs] at h
  split at h
  ·rename_i v us h1 h2
   injection h with h
   subst h
   simp [hf.ev h1,ih h2]
  ·cases h
theorem X32(d:Nat)(v:Value)(e:List (Nat×Value)) : look d ((d,v)::e)=some v:=by simp [look]
theorem X3s{d t:Nat}(v:Value)(e:List (Nat×Value))(h:d≠t) : look t ((d,v)::e)=look t e:=by
 have:Nat.beq d t=false:=by
  cases hb:Nat.beq d t
  ·rfl
  ·exact absurd (Nat.eq_of_beq_eq_true hb) h
 simp [look,this]
theorem Fr.put{a:Act}{n:Nat}{e:List (Nat×Value)}(hf:Fr a n e)(d:Nat)(v:Value)(hd:Nat.blt d n=true) : Fr (a.put (some d) v) n ((d,v)::e):=by
 have hd':d<n:=by simpa [Nat.blt_eq] using hd
 refine ⟨hf.d,by simp [Act.put,hf.s],fun t u hu=>?_⟩
 by_cases h:d=t
 ·subst h
  rw [X32] at hu
  injection hu with hu
  subst hu
  simp [Act.put,hf.s,hd']
 ·rw [X3s _ _ h] at hu
  simp [Act.put,Array.getElem?_setIfInBounds_ne h,hf.h t u hu]
theorem Fr.put_none{a:Act}{n:Nat}{e:List (Nat×Value)}(hf:Fr a n e)(v:Value) : Fr (a.put none v) n e:=hf
def Sub(e:List (Nat×Value)) : List (Nat×Value)→Prop
 | []=>True
 | (t,v)::l=>look t e=some v∧Sub e l
theorem Fr.sub{a:Act}{n:Nat}{e e':List (Nat×Value)}(hf:Fr a n e)(hs:Sub e e') : Fr a n e':=by
 refine ⟨hf.d,hf.s,?_⟩
 induction e' with
 | nil=>intro t v h;cases h
 | cons p l ih=>
  obtain ⟨k,u⟩:=p;intro t v h
  by_cases hk:k=t
  ·subst hk
   rw [X32] at h
   injection h with h
   subst h
   exact hf.h _ _ hs.1
  ·rw [X3s _ _ hk] at h
   exact ih hs.2 t v h
theorem Fr.sb{a:Act}{n:Nat}{e e':List (Nat×Value)}(hf:Fr a n e)(hs:Sub e e':=by repeat (first|exact trivial|refine ⟨rfl,?_⟩)) : Fr a n e':=hf.sub hs
def zipFrom:Nat→List Value→List (Nat×Value)
 | _,[]=>[]
 | k,v::l=>(k,v)::zipFrom (k+1) l
theorem Xb9{l:List Value}{t:Nat}{v:Value} : ∀ {k:Nat},look t (zipFrom k l)=some v→k≤t∧l[t-k]? = some v:=by
 induction l with
 | nil=>intro k h;cases h
 | cons u l ih=>
  intro k h
  simp only [zipFrom] at h
  by_cases hk:k=t
  ·subst hk
   rw [X32] at h
   exact ⟨Nat.le_refl _,by simpa using h⟩
  ·rw [X3s _ _ hk] at h
   obtain ⟨h1,h2⟩:=ih h
   refine ⟨by omega,?_⟩
   have:t-k=(t-(k+1))+1:=by omega
   rw [this,List.getElem?_cons_succ]
   exact h2
theorem Xny{P:Program}{f:FuncId}{fn:Func}{c:Code}{args:List Value}{w:World}{R:Ending→World→Prop}
  (hf:P.funcs[f]? = some fn) (hb:fn.body=some c) (n:Nat) (hn:fn.ntmps=n) (hl:Nat.ble args.length n=true)
  (h:∀ a,Fr a n (zipFrom 0 args)→c.wp P (bodyPost P fn R) a w) : Calls P f args.toArray w R:=by
 refine calls_of_wp hf hb (h _ ⟨rfl,?_,?_⟩)
 ·have:args.length≤n:=by simpa [Nat.ble_eq] using hl
  simp [hn];omega
 ·intro t v hv;obtain ⟨_,h2⟩:=Xb9 hv
  have hlt:t<args.length:=by
   have:=(List.getElem?_eq_some_iff.1 h2).1
   simpa using this
  simp only [Nat.sub_zero] at h2
  rw [Array.getElem?_append_left (by simpa using hlt)]
  simpa using h2
def Ev(P:Program)(o:Oper)(a:Act)(w:World)(v:Value) : Prop:=∀ w',Below w.heap.size w w'→(execOp a.eval o).run P w'=.ok (.value v) w'
def EfU(P:Program)(R:Value→World→Prop) : Result Next→Prop
 | .ok (.value v) w'=>R v w'
 | .ok .skip w'=>R undef w'
 | .ok (.enter f args) w'=>Calls P f args w' fun e w''=>∃ v,e=.returned v∧R v w''
 | .ok (.row row args) w'=>Rows P row args w' R
 | _=>False
def Ef(P:Program)(o:Oper)(a:Act)(w:World)(R:Value→World→Prop) : Prop:=EfU P R ((execOp a.eval o).run P w)
theorem Ef.wp{P:Program}{o:Oper}{a:Act}{w:World}{R:Value→World→Prop}(h:Ef P o a w R){K:Act→World→Prop}{Q:Exit→Act→World→Prop}
  (hK:∀ v w',R v w'→K (a.put o.dst v) w') : o.wp P a w K Q:=by
 unfold Ef at h
 unfold Oper.wp
 generalize (execOp a.eval o).run P w=r at *
 cases r with
 | ok nx w'=>
  cases nx<;>simp only [EfU] at h<;>simp only [Oper.upon]
  case value u=>exact hK _ _ h
  case skip=>exact hK _ _ h
  case enter f args=>
   refine Calls.mono h fun e w'' ⟨v,he,hR⟩=>?_
   subst he
   exact hK _ _ hR
  case row row args=>exact Rows.mono h fun u w'' hR=>hK _ _ hR
 | halt x w'=>simp only [EfU] at h
def EvW(P:Program)(o:Oper)(n:Nat)(e:List (Nat×Value))(w:World)(v:Value) : Prop:=∀ a,Fr a n e→Ev P o a w v
def EfW(P:Program)(o:Oper)(n:Nat)(e:List (Nat×Value))(w:World)(R:Value→World→Prop) : Prop:=∀ a,Fr a n e→Ef P o a w R
theorem Ef.of_run{P:Program}{o:Oper}{a:Act}{w w':World}{v:Value}(h:(execOp a.eval o).run P w=.ok (.value v) w') : Ef P o a w fun u w1=>u=v∧w1=w':=by
 unfold Ef
 rw [h]
 exact ⟨rfl,rfl⟩
theorem Ef.of_skip{P:Program}{o:Oper}{a:Act}{w w':World}(h:(execOp a.eval o).run P w=.ok .skip w') : Ef P o a w fun u w1=>u=undef∧w1=w':=by
 unfold Ef
 rw [h]
 exact ⟨rfl,rfl⟩
theorem Ef.mono{P:Program}{o:Oper}{a:Act}{w:World}{R R':Value→World→Prop}(h:Ef P o a w R)(hr:∀ v w',R v w'→R' v w') : Ef P o a w R':=by
 unfold Ef at *
 generalize (execOp a.eval o).run P w=r at *
 cases r with
 | ok nx w'=>
  cases nx<;>simp only [EfU] at h ⊢
  case value u=>exact hr _ _ h
  case skip=>exact hr _ _ h
  case enter f args=>exact Calls.mono h fun e w'' ⟨v,he,hR⟩=>⟨v,he,hr _ _ hR⟩
  case row row args=>exact Rows.mono h hr
 | halt x w'=>simp only [EfU] at h
theorem Ef.of_ev{P:Program}{o:Oper}{a:Act}{w:World}{v:Value}(h:Ev P o a w v) : Ef P o a w fun u w1=>u=v∧w1=w:=Ef.of_run (h w (Below.refl _ _))
def Want(ops:Array Oper)(o:Oper)(e:List (Nat×Value)) : Prop:=
 match o.guard with
 | none=>True
 | some (j,b)=>∃ t b',(ops[j]?).bind (·.dst)=some t∧look t e=some (.bool b')∧b'=b
def notB:Value→Bool→Prop
 | .bool b',b=>b' = !b
 | _,_=>True
def Pass(ops:Array Oper)(o:Oper)(e:List (Nat×Value)) : Prop:=
 match o.guard with
 | none=>False
 | some (j,b)=>∃ t v,(ops[j]?).bind (·.dst)=some t∧look t e=some v∧notB v b
theorem bz(w:World) : Below w.heap.size w w:=Below.refl _ _
def WantC(ops:Array Oper)(o:Oper)(e:List (Nat×Value)) : Prop:=
 match o.guard with
 | none=>True
 | some (j,b)=>match (ops[j]?).bind (·.dst) with
  | some t=>match look t e with
   | some (.bool b')=>b'=b
   | _=>False
  | none=>False
def PassC(ops:Array Oper)(o:Oper)(e:List (Nat×Value)) : Prop:=
 match o.guard with
 | none=>False
 | some (j,b)=>match (ops[j]?).bind (·.dst) with
  | some t=>match look t e with
   | some v=>notB v b
   | none=>False
  | none=>False
theorem gW{ops:Array Oper}{o:Oper}{e:List (Nat×Value)}(h:WantC ops o e) : Want ops o e:=by
 unfold WantC at h
 unfold Want
 split
 ·trivial
 ·rename_i j b hg
  rw [hg] at h
  simp only at h
  split at h
  ·rename_i t ht
   split at h
   ·rename_i b' hb
    exact ⟨t,b',ht,hb,h⟩
   ·cases h
  ·cases h
theorem gP{ops:Array Oper}{o:Oper}{e:List (Nat×Value)}(h:PassC ops o e) : Pass ops o e:=by
 unfold PassC at h
 unfold Pass
 split
 ·rename_i hg
  rw [hg] at h
  exact h
 ·rename_i j b hg
  rw [hg] at h
  simp only at h
  split at h
  ·rename_i t ht
   split at h
   ·rename_i v hv
    exact ⟨t,v,ht,hv,h⟩
   ·cases h
  ·cases h
theorem Want.wanted{ops:Array Oper}{o:Oper}{a:Act}{n:Nat}{e:List (Nat×Value)}(h:Want ops o e)(hf:Fr a n e) : Region.wanted o (yielded ops a.tmps)=true:=by
 unfold Want at h
 unfold Region.wanted
 split at h
 ·rename_i hg;simp [hg]
 ·rename_i j b hg
  obtain ⟨t,b',h1,h2,h3⟩:=h
  simp only [hg]
  unfold yielded
  simp [h1,hf.h _ _ h2,h3]
theorem Pass.wanted{ops:Array Oper}{o:Oper}{a:Act}{n:Nat}{e:List (Nat×Value)}(h:Pass ops o e)(hf:Fr a n e) : Region.wanted o (yielded ops a.tmps)=false:=by
 unfold Pass at h
 unfold Region.wanted
 split at h
 ·cases h
 ·rename_i j b hg
  obtain ⟨t,v,h1,h2,h3⟩:=h
  simp only [hg]
  unfold yielded
  rw [h1,Option.bind_some,hf.h _ _ h2]
  cases v<;>first|rfl|(simp only [notB] at h3;subst h3;cases b<;>rfl)
section
variable {P : Program} {ops : Array Oper} {Q : Exit → Act → World → Prop} {a : Act} {w : World} {rest : List Oper} {o : Oper} {n d : Nat} {e : List (Nat × Value)}
theorem Xki{R:Value→World→Prop}(hf:Fr a n e)(hw:Want ops o e)(hd:o.dst=some d)(hn:Nat.blt d n=true)(hr:Ef P o a w R)
  (h:∀ a' v w',R v w'→Fr a' n ((d,v)::e)→wpList P ops Q rest a' w') : wpList P ops Q (o::rest) a w:=
 wpList_step fun K hK=>by
  rw [if_pos (hw.wanted hf)]
  exact hr.wp fun v w' hR=>hK _ _ (h _ v w' hR (by rw [hd];exact hf.put d v hn))
theorem Xve{R:Value→World→Prop}(hf:Fr a n e)(hw:Want ops o e)(hd:o.dst=none)(hr:Ef P o a w R)
  (h:∀ a' v w',R v w'→Fr a' n e→wpList P ops Q rest a' w') : wpList P ops Q (o::rest) a w:=
 wpList_step fun K hK=>by
  rw [if_pos (hw.wanted hf)]
  exact hr.wp fun v w' hR=>hK _ _ (h _ v w' hR (by rw [hd];exact hf.put_none v))
theorem Xuk{v:Value}(hf:Fr a n e)(hw:Want ops o e)(hd:o.dst=some d)(hn:Nat.blt d n=true)(hr:Ev P o a w v)
  (h:∀ a',Fr a' n ((d,v)::e)→wpList P ops Q rest a' w) : wpList P ops Q (o::rest) a w:=
 Xki hf hw hd hn (Ef.of_ev hr) fun a' v' w' hR hf'=>by
  obtain ⟨rfl,rfl⟩:=hR;exact h a' hf'
theorem Xvr(hf:Fr a n e)(hw:Pass ops o e)(hd:o.dst=some d)(hn:Nat.blt d n=true)
  (h:∀ a',Fr a' n ((d,undef)::e)→wpList P ops Q rest a' w) : wpList P ops Q (o::rest) a w:=
 wpList_step fun K hK=>by
  rw [if_neg (by rw [hw.wanted hf];simp)]
  exact hK _ _ (h _ (by rw [hd];exact hf.put d undef hn))
end
section
variable {P : Program} {ops : Array Oper} {Q : Exit → Act → World → Prop} {a : Act} {w : World} {rest : List Oper} {op : Op} {ty : TypeId} {pos : String} {af : Array Edge} {n d : Nat} {e : List (Nat × Value)}
theorem l_e{v:Value}(hf:Fr a n e)(hn:Nat.blt d n=true)(hr:Ev P ⟨some d,op,ty,pos,af,none⟩ a w v)(h:∀ a',Fr a' n ((d,v)::e)→wpList P ops Q rest a' w) : wpList P ops Q (⟨some d,op,ty,pos,af,none⟩::rest) a w:=Xuk hf trivial rfl hn hr h
theorem l_f{R:Value→World→Prop}(hf:Fr a n e)(hn:Nat.blt d n=true)(hr:Ef P ⟨some d,op,ty,pos,af,none⟩ a w R)(h:∀ a' v w',R v w'→Fr a' n ((d,v)::e)→wpList P ops Q rest a' w') : wpList P ops Q (⟨some d,op,ty,pos,af,none⟩::rest) a w:=Xki hf trivial rfl hn hr h
theorem Xyq{R:Value→World→Prop}(hf:Fr a n e)(hr:Ef P ⟨none,op,ty,pos,af,none⟩ a w R)(h:∀ a' v w',R v w'→Fr a' n e→wpList P ops Q rest a' w') : wpList P ops Q (⟨none,op,ty,pos,af,none⟩::rest) a w:=Xve hf trivial rfl hr h
theorem Xym{x:Operand}{v:Value}(hf:Fr a n e)(hx:ev e x=some v)(hn:Nat.blt d n=true)(h:∀ a',Fr a' n ((d,v)::e)→wpList P ops Q rest a' w) : wpList P ops Q (⟨some d,.move x,ty,pos,af,none⟩::rest) a w:=l_e hf hn (fun w' _=>by simp [execOp,hf.ev hx]) h
theorem Xyl{x:Operand}{v:Value}(hf:Fr a n e)(hx:ev e x=some v)(hn:Nat.blt d n=true)(h:∀ a',Fr a' n ((d,v)::e)→wpList P ops Q rest a' w) : wpList P ops Q (⟨some d,.assign x,ty,pos,af,none⟩::rest) a w:=l_e hf hn (fun w' _=>by simp [execOp,hf.ev hx]) h
end
structure Only (b:Nat) (w w':World) : Prop where
 os:w'.os=w.os
 tape:w'.tape=w.tape
 output:w'.output=w.output
 size:w'.heap.size=w.heap.size
 block:∀ k,k≠b→w'.heap[k]? = w.heap[k]?
theorem Only.refl(b:Nat)(w:World) : Only b w w:=⟨rfl,rfl,rfl,rfl,fun _ _=>rfl⟩
theorem Only.trans{b:Nat}{w w' w'':World}(h:Only b w w')(k:Only b w' w'') : Only b w w'':=
 ⟨k.os.trans h.os,k.tape.trans h.tape,k.output.trans h.output,k.size.trans h.size,fun i hi=>(k.block i hi).trans (h.block i hi)⟩
structure Kept (b B:Nat) (w w':World) : Prop where
 os:w'.os=w.os
 tape:w'.tape=w.tape
 output:w'.output=w.output
 size:w.heap.size≤w'.heap.size
 block:∀ k,k<B→k≠b→w'.heap[k]? = w.heap[k]?
theorem Kept.refl(b B:Nat)(w:World) : Kept b B w w:=⟨rfl,rfl,rfl,Nat.le_refl _,fun _ _ _=>rfl⟩
theorem Kept.of_below{b B:Nat}{w w':World}(h:Below B w w') : Kept b B w w':=⟨h.os,h.tape,h.output,h.size,fun k hk _=>h.block k hk⟩
theorem Kept.trans{b B:Nat}{w w' w'':World}(h:Kept b B w w')(k:Below B w' w'') : Kept b B w w'':=
 ⟨k.os.trans h.os,k.tape.trans h.tape,k.output.trans h.output,Nat.le_trans h.size k.size,fun i hi hn=>(k.block i hi).trans (h.block i hi hn)⟩
theorem Kept.transK{b B:Nat}{w w' w'':World}(h:Kept b B w w')(k:Kept b B w' w'') : Kept b B w w'':=
 ⟨k.os.trans h.os,k.tape.trans h.tape,k.output.trans h.output,Nat.le_trans h.size k.size,fun i hi hn=>(k.block i hi hn).trans (h.block i hi hn)⟩
theorem Kept.mono{b B B':Nat}{w w':World}(h:Kept b B w w')(hB:B'≤B) : Kept b B' w w':=⟨h.os,h.tape,h.output,h.size,fun k hk=>h.block k (Nat.lt_of_lt_of_le hk hB)⟩
theorem Kept.only{b b' B:Nat}{w w' w'':World}(h:Kept b B w w')(ho:Only b' w' w'')(hB:B≤b') : Kept b B w w'':=
 h.trans ⟨ho.os,ho.tape,ho.output,by rw [ho.size];exact Nat.le_refl _,fun k hk=>ho.block k (by omega)⟩
theorem Kept.self{b B:Nat}{w w' w'':World}(h:Kept b B w w')(ho:Only b w' w'') : Kept b B w w'':=
 h.transK ⟨ho.os,ho.tape,ho.output,by rw [ho.size];exact Nat.le_refl _,fun k _ hk=>ho.block k hk⟩
theorem Kept.mid{b:Nat}{w w':World}(h:Kept b w.heap.size w w') : ∃ w1,Only b w w1∧(b<w.heap.size→w1.heap[b]? = w'.heap[b]?)∧Below w1.heap.size w1 w':=by
 cases hb:w'.heap[b]? with
 | none=>
  have hlt:w.heap.size≤b:=Nat.le_trans h.size (Array.getElem?_eq_none_iff.1 hb)
  refine ⟨w,Only.refl _ _,fun h'=>by omega,⟨h.os,h.tape,h.output,h.size,fun k hk=>h.block k hk (by omega)⟩⟩
 | some o=>
  refine ⟨{ w with heap:=w.heap.setIfInBounds b o },⟨rfl,rfl,rfl,by simp,fun k hk=>?_⟩,fun h'=>?_,⟨h.os,h.tape,h.output,by simpa using h.size,fun k hk=>?_⟩⟩
  ·show (w.heap.setIfInBounds b o)[k]? = _
   rw [Array.getElem?_setIfInBounds_ne (Ne.symm hk)]
  ·show (w.heap.setIfInBounds b o)[b]? = _
   simp [h']
  ·have hk':k<w.heap.size:=by simpa using hk
   show _=(w.heap.setIfInBounds b o)[k]?
   by_cases hkb:k=b
   ·subst hkb
    simp [hk',hb]
   ·rw [Array.getElem?_setIfInBounds_ne (Ne.symm hkb)]
    exact h.block k hk' hkb
theorem btr{w0 w w':World}(h:Below w0.heap.size w0 w)(hE:Below w.heap.size w w') : Below w0.heap.size w0 w':=h.trans (hE.mono h.size)
theorem ktr{b:Nat}{w0 w w':World}(h:Kept b w0.heap.size w0 w)(hE:Below w.heap.size w w') : Kept b w0.heap.size w0 w':=h.trans (hE.mono h.size)
def Keep(V:Option Nat)(w w':World) : Prop:=match V with
 | none=>Below w.heap.size w w'
 | some b=>∃ w1,Only b w w1∧Below w.heap.size w1 w'
theorem Keep.refl(V:Option Nat)(w:World) : Keep V w w:=by
 cases V with
 | none=>exact Below.refl _ _
 | some b=>exact ⟨w,Only.refl _ _,Below.refl _ _⟩
theorem Keep.kept{b:Nat}{w w':World}(h:Keep (some b) w w') : Kept b w.heap.size w w':=by
 obtain ⟨w1,h1,h2⟩:=h;exact (Kept.self (Kept.refl b w.heap.size w) h1).trans h2
theorem Kept.keep{b:Nat}{w w':World}(h:Kept b w.heap.size w w') : Keep (some b) w w':=by
 obtain ⟨w1,h1,_,h2⟩:=h.mid;exact ⟨w1,h1,by rw [← h1.size];exact h2⟩
theorem Keep.of_below{V:Option Nat}{w w':World}(h:Below w.heap.size w w') : Keep V w w':=by
 cases V with
 | none=>exact h
 | some b=>exact ⟨w,Only.refl _ _,h⟩
theorem Keep.trans{V:Option Nat}{w w' w'':World}(h:Keep V w w')(k:Keep V w' w'') : Keep V w w'':=by
 cases V with
 | none=>exact Below.trans h (Below.mono k h.size)
 | some b=>exact (h.kept.transK (k.kept.mono h.kept.size)).keep
section
variable {P : Program} {ops : Array Oper} {Q : Act → World → Prop} {tl : Nat → Bool} {V : Option Nat}
def wpR(P:Program)(ops:Array Oper)(V:Option Nat)(tl:Nat→Bool)(i:Nat)(K:Act→World→Prop)(a:Act)(w:World) : Prop:=
 match ops[i]? with
 | none=>K a w
 | some o=>if Region.wanted o (yielded ops a.tmps) then Ef P o a w (fun v w'=>(tl i=false→Keep V w w')∧K (a.put o.dst v) w') else K (a.put o.dst undef) w
def wpS(P:Program)(ops:Array Oper)(V:Option Nat)(tl:Nat→Bool)(Q:Act→World→Prop) : Nat→Array Bool→Act→World→Prop
 | 0,listed,a,w=>Region.ready .any ops listed=[]∧Q a w
 | fuel+1,listed,a,w=>(Region.ready .any ops listed=[]→Q a w)∧∀ i ∈ Region.ready .any ops listed,wpR P ops V tl i (wpS P ops V tl Q fuel (listed.setIfInBounds i true)) a w
theorem Xm8{i:Nat}{K K':Act→World→Prop}{a:Act}{w:World}(h:∀ a w,K a w→K' a w)(hh:wpR P ops V tl i K a w) : wpR P ops V tl i K' a w:=by
 unfold wpR at *
 split
 ·exact h _ _ (by simpa [*] using hh)
 ·rename_i o ho
  simp only [ho] at hh
  split
  ·rename_i hw
   simp only [hw,if_true] at hh
   exact hh.mono fun v w' ⟨h1,h2⟩=>⟨h1,h _ _ h2⟩
  ·rename_i hw
   simp only [hw] at hh
   exact h _ _ hh
theorem X2y{Q':Exit→Act→World→Prop}(hQ:∀ a w,Q a w→Q' .normal a w) : ∀ (fuel:Nat) (listed:Array Bool) (a:Act) (w:World),wpS P ops V tl Q fuel listed a w→wpAny P .any ops Q' fuel listed a w
 | 0,_,_,_,h=>⟨h.1,hQ _ _ h.2⟩
 | fuel+1,listed,a,w,h=>by
  refine ⟨fun h0=>hQ _ _ (h.1 h0),fun i hi=>?_⟩
  have h1:=h.2 i hi
  unfold wpR at h1
  unfold wpOp
  split
  ·rename_i ho;simp only [ho] at h1;exact X2y hQ fuel _ _ _ h1
  ·rename_i o ho
   simp only [ho] at h1
   split
   ·rename_i hw
    simp only [hw,if_true] at h1
    exact .inl (h1.wp fun v w' hR=>X2y hQ fuel _ _ _ hR.2)
   ·rename_i hw
    simp only [hw] at h1
    exact X2y hQ fuel _ _ _ h1
def YC(P:Program)(ops:Array Oper)(C:World→Prop)(o:Oper)(v:Value)(a:Act) : Prop:=
 (Region.wanted o (yielded ops a.tmps)=true∧∀ w,C w→(execOp a.eval o).run P w=.ok (.value v) w)∨(Region.wanted o (yielded ops a.tmps)=false∧v=undef)
theorem YC.of_same{C:World→Prop}{o:Oper}{v:Value}{a a':Act}(hy:YC P ops C o v a)(he:execOp a'.eval o=execOp a.eval o)
  (hw:Region.wanted o (yielded ops a'.tmps)=Region.wanted o (yielded ops a.tmps)) : YC P ops C o v a':=by
 unfold YC at *
 rw [he,hw]
 exact hy
theorem YC.wpR{C:World→Prop}{i:Nat}{o:Oper}{v:Value}{a:Act}{w:World}(hi:ops[i]? = some o)(hC:C w)(hy:YC P ops C o v a){K:Act→World→Prop}(h:K (a.put o.dst v) w) : wpR P ops V tl i K a w:=by
 unfold YtblmmikapnflcaaGreatDoor.wpR
 simp only [hi]
 rcases hy with ⟨hw,hv⟩|⟨hw,rfl⟩
 ·simp only [hw,if_true]
  exact (Ef.of_run (hv w hC)).mono fun u w' ⟨e1,e2⟩=>by subst e1;subst e2;exact ⟨fun _=>Keep.refl _ _,h⟩
 ·simp only [hw,Bool.false_eq_true,if_false];exact h
theorem Xtw{oi oj:Oper}{v:Value}(h1:∀ d,oi.dst=some d→d ∉ oj.looksAt ops)(hsj:∀ cs b,oj.op≠.select cs b)
  {a:Act} {w:World} {R:Value→World→Prop} (h:Ef P oj (a.put oi.dst v) w R) : Ef P oj a w R:=by
 unfold Ef at *
 rwa [execOp_put oj hsj a oi.dst v h1] at h
theorem Xop{C:World→Prop}{j:Nat}{oi oj:Oper}{v:Value}(hj:ops[j]? = some oj)(hap:oi.apart ops oj=true)
  (hsi:∀ cs b,oi.op≠.select cs b) (hsj:∀ cs b,oj.op≠.select cs b) (hC:∀ w w',C w→(tl j=false→Keep V w w')→C w') {K:Act→World→Prop} {a:Act} {w:World} (hw0:C w)
  (hy:YC P ops C oi v a) (h:wpR P ops V tl j K (a.put oi.dst v) w) : wpR P ops V tl j (fun a' w'=>C w'∧YC P ops C oi v a'∧K (a'.put oi.dst v) w') a w:=by
 obtain ⟨h1,h2,h3⟩:=Oper.apart_spec hap
 have keep:∀ (a:Act),YC P ops C oi v a→∀ u,YC P ops C oi v (a.put oj.dst u):=fun a hy u=>
  hy.of_same (execOp_put oi hsi a oj.dst u h3) (wanted_put oi a oj.dst u h3)
 unfold wpR at *
 simp only [hj] at *
 rw [wanted_put oj a oi.dst v h1] at h
 split
 ·rename_i hw
  simp only [hw,if_true] at h
  exact (Xtw h1 hsj h).mono fun u w' ⟨hb,hk⟩=>⟨hb,hC w w' hw0 hb,keep a hy u,by rw [← Act.put_comm a v u h2];exact hk⟩
 ·rename_i hw
  simp only [hw] at h
  exact ⟨hw0,keep a hy _,by rw [← Act.put_comm a v undef h2];exact h⟩
def Closed(ops:Array Oper)(listed:Array Bool) : Prop:=∀ k ok,ops[k]? = some ok→listed.getD k false=true→∀ e ∈ ok.after,Region.binds .any e=true→listed.getD e.on false=true
theorem X5c{listed:Array Bool}{j k:Nat}(h:listed.getD k false=true) : (listed.setIfInBounds j true).getD k false=true:=by
 rcases Nat.lt_or_ge k listed.size with hk|hk
 ·by_cases hjk:j=k
  ·subst hjk;simp [hk]
  ·simpa [hk,Array.getElem_setIfInBounds_ne _ hjk] using h
 ·simp [Array.getElem?_eq_none hk] at h
theorem Closed.set{listed:Array Bool}{j:Nat}{oj:Oper}(h:Closed ops listed)(hj:ops[j]? = some oj)(hall:∀ e ∈ oj.after,Region.binds .any e=true→listed.getD e.on false=true) : Closed ops (listed.setIfInBounds j true):=fun k ok hk hl e he hb=>by
 by_cases hjk:j=k
 ·subst hjk
  rw [hj] at hk
  injection hk with hk
  subst hk
  exact X5c (hall e he hb)
 ·rw [getD_set_ne false hjk] at hl
  exact X5c (h k ok hk hl e he hb)
def reach(ops:Array Oper)(i:Nat) : Nat→Nat→Bool
 | 0,_=>false
 | f+1,j=>match ops[j]? with
  | some oj=>oj.after.any fun e=>Region.binds .any e&&(e.on==i||reach ops i f e.on)
  | none=>false
theorem X60{listed:Array Bool}{i:Nat}(hcl:Closed ops listed) : ∀ (f j:Nat) (oj:Oper),ops[j]? = some oj→(∀ e ∈ oj.after,Region.binds .any e=true→listed.getD e.on false=true)→reach ops i f j=true→listed.getD i false=true
 | 0,_,_,_,_,h=>by cases h
 | f+1,j,oj,hj,hall,h=>by
  simp only [reach,hj] at h
  obtain ⟨e,he,hb⟩:=Array.any_eq_true'.1 h
  simp only [Bool.and_eq_true,Bool.or_eq_true,beq_iff_eq] at hb
  have h1:=hall e he hb.1
  rcases hb.2 with h2|h2
  ·rw [← h2];exact h1
  ·cases hk:ops[e.on]? with
   | none=>
    cases f with
    | zero=>cases h2
    | succ f=>simp only [reach,hk] at h2;cases h2
   | some ok=>exact X60 hcl f e.on ok hk (hcl e.on ok hk h1) h2
theorem X72{C:World→Prop}{i:Nat}{oi:Oper}{v:Value}(hi:ops[i]? = some oi)(hsel:∀ (j:Nat) (o:Oper) cs b,ops[j]? = some o→o.op≠.select cs b)
  (hC:∀ j oj,ops[j]? = some oj→(∀ listed,Closed ops listed→(∀ e ∈ oj.after,Region.binds .any e=true→listed.getD e.on false=true)→listed.getD i true=false→∀ w w',C w→(tl j=false→Keep V w w')→C w')) :
  ∀ (fuel:Nat) (listed:Array Bool) (a:Act) (w:World),Closed ops listed→
   (∀ j oj,ops[j]? = some oj→j≠i→listed.getD j true=false→(∀ e ∈ oj.after,Region.binds .any e=true→e.on≠i)→oi.apart ops oj=true)→
   i ∈ Region.ready .any ops listed→C w→YC P ops C oi v a→
   wpS P ops V tl Q fuel (listed.setIfInBounds i true) (a.put oi.dst v) w→wpS P ops V tl Q (fuel+1) listed a w:=by
 intro fuel
 induction fuel with
 | zero=>
  intro listed a w _ _ hr hw hy H
  refine ⟨fun h=>(by rw [h] at hr;cases hr),fun j hj=>?_⟩
  by_cases hji:j=i
  ·subst hji;exact hy.wpR hi hw H
  ·have:=ready_mono hj hji
   rw [H.1] at this
   cases this
 | succ fuel ih=>
  intro listed a w hcl hfree hr hw hy H
  refine ⟨fun h=>(by rw [h] at hr;cases hr),fun j hj=>?_⟩
  by_cases hji:j=i
  ·subst hji;exact hy.wpR hi hw H
  ·have h1:=H.2 j (ready_mono hj hji);obtain ⟨hjun,oj,hoj,hall⟩:=mem_ready.1 hj
   have hnot:∀ e ∈ oj.after,Region.binds .any e=true→e.on≠i:=fun e he hb heq=>by
    have h1:=hall e he hb;have h0:=(mem_ready.1 hr).1
    rw [heq] at h1
    rcases Nat.lt_or_ge i listed.size with h'|h'
    ·simp [h'] at h0 h1;rw [h0] at h1;cases h1
    ·simp [Array.getElem?_eq_none h'] at h1
   have h2:=Xop hoj (hfree j oj hoj hji hjun hnot) (fun cs b=>hsel i oi cs b hi) (fun cs b=>hsel j oj cs b hoj) (hC j oj hoj listed hcl hall (mem_ready.1 hr).1) hw hy h1
   have hfree':∀ k ok,ops[k]? = some ok→k≠i→(listed.setIfInBounds j true).getD k true=false→
     (∀ e ∈ ok.after,Region.binds .any e=true→e.on≠i)→oi.apart ops ok=true:=fun k ok hk hki hun hno=>by
    refine hfree k ok hk hki ?_ hno
    by_cases hjk:j=k
    ·subst hjk;exact hjun
    ·rw [getD_set_ne true hjk] at hun;exact hun
   refine Xm8 (fun a' w' h3=>ih (listed.setIfInBounds j true) a' w' (hcl.set hoj hall) hfree' (ready_mono hr (Ne.symm hji)) h3.1 h3.2.1 ?_) h2
   rw [Array.setIfInBounds_comm _ _ hji]
   exact h3.2.2
def mask(ops:Array Oper)(done:List Nat) : Array Bool:=(Array.range ops.size).map fun i=>done.contains i
theorem X33(ops:Array Oper)(done:List Nat)(i:Nat) : (mask ops done).setIfInBounds i true=mask ops (i::done):=by
 apply Array.ext
 ·simp [mask]
 ·intro k h1 h2
  simp only [mask,Array.size_setIfInBounds,Array.size_map,Array.size_range] at h1
  by_cases hk:i=k
  ·subst hk
   simp [mask]
  ·have hk':¬ k=i:=fun h=>hk h.symm
   rw [Array.getElem_setIfInBounds_ne (by simpa [mask] using h1) hk]
   simp [mask,hk']
theorem Xkp(ops:Array Oper) : Array.replicate ops.size false=mask ops []:=by
 apply Array.ext<;>simp [mask]
def closedB(ops:Array Oper)(done:List Nat) : Bool:=done.all fun k=>match ops[k]? with
 | some ok=>ok.after.all fun e=>!(Region.binds .any e)||done.contains e.on&&Nat.blt e.on ops.size
 | none=>true
def mayFirst(ops:Array Oper)(done:List Nat)(i:Nat) : Bool:=
 Region.noSelect ops&&Region.free .any ops (mask ops done) i&&(Region.ready .any ops (mask ops done)).contains i&&closedB ops done
theorem Xat{done:List Nat}{k:Nat}(d:Bool)(h:k<ops.size) : (mask ops done).getD k d=done.contains k:=by
 simp [mask,h]
theorem mask_getD'{done:List Nat}{k:Nat}(h:(mask ops done).getD k false=true) : done.contains k=true:=by
 rcases Nat.lt_or_ge k ops.size with h'|h'
 ·rwa [Xat false h'] at h
 ·simp [mask,h'] at h
theorem X3n{done:List Nat}(h:closedB ops done=true) : Closed ops (mask ops done):=fun k ok hk hl e he hb=>by
 have h1:=mask_getD' hl
 simp only [closedB,List.all_eq_true] at h
 have h2:=h k (by simpa using h1)
 simp only [hk] at h2
 have h3:=Array.all_eq_true'.1 h2 e he
 simp only [hb,Bool.not_true,Bool.false_or,Bool.and_eq_true] at h3
 have h4:e.on<ops.size:=by simpa [Nat.blt_eq] using h3.2
 rw [Xat false h4]
 exact h3.1
def tailWaits(ops:Array Oper)(tl:Nat→Bool)(i:Nat) : Bool:=
 (List.range ops.size).all fun j=>!tl j||reach ops i 9 j
theorem X87{i:Nat}(h:tailWaits ops tl i=true)(j:Nat)(oj:Oper)(hj:ops[j]? = some oj){listed:Array Bool}(hcl:Closed ops listed)(hall:∀ e ∈ oj.after,Region.binds .any e=true→listed.getD e.on false=true)(hi:listed.getD i true=false) : tl j=false:=by
 simp only [tailWaits,List.all_eq_true,List.mem_range] at h
 have h1:=h j (Array.getElem?_eq_some_iff.1 hj).1
 simp only [Bool.or_eq_true,Bool.not_eq_true'] at h1
 rcases h1 with h1|h1
 ·exact h1
 ·have h2:=X60 hcl 9 j oj hj hall h1
  rcases Nat.lt_or_ge i listed.size with h'|h'
  ·simp [h'] at h2 hi;rw [h2] at hi;cases hi
  ·simp [h'] at h2
section
variable {a : Act} {w : World} {n d fuel : Nat} {e : List (Nat × Value)} {o : Oper} {done : List Nat}
theorem Xrt(i:Nat){v:Value}(hi:ops[i]? = some o)(hm:mayFirst ops done i=true)(ht:tailWaits ops tl i=true)(hf:Fr a n e)(hw:Want ops o e)(hd:o.dst=some d)(hn:Nat.blt d n=true)
  (hr:∀ w',Keep V w w'→(execOp a.eval o).run P w'=.ok (.value v) w') (h:∀ a',Fr a' n ((d,v)::e)→wpS P ops V tl Q fuel (mask ops (i::done)) a' w) : wpS P ops V tl Q (fuel+1) (mask ops done) a w:=by
 simp only [mayFirst,Bool.and_eq_true] at hm
 refine X72 (C:=fun w'=>Keep V w w') hi (Region.noSelect_spec hm.1.1.1) (fun j oj hj lst hcl hall hun w1 w2 h1 h2=>?_) fuel _ a w (X3n hm.2) (Region.free_spec hi hm.1.1.2) (by simpa using hm.1.2) (Keep.refl _ _) (.inl ⟨hw.wanted hf,hr⟩) ?_
 ·exact h1.trans (h2 (X87 ht j oj hj hcl hall hun))
 ·rw [X33]
  exact h _ (by rw [hd];exact hf.put d v hn)
theorem Xti(i:Nat){v:Value}(hi:ops[i]? = some o)(hm:mayFirst ops done i=true)(ht:tailWaits ops tl i=true)(hf:Fr a n e)(hw:Want ops o e)(hd:o.dst=some d)(hn:Nat.blt d n=true)
  (hr:Ev P o a w v) (h:∀ a',Fr a' n ((d,v)::e)→wpS P ops none tl Q fuel (mask ops (i::done)) a' w) : wpS P ops none tl Q (fuel+1) (mask ops done) a w:=Xrt i hi hm ht hf hw hd hn hr h
theorem Xvu(i:Nat){b:Nat}{v:Value}(hi:ops[i]? = some o)(hm:mayFirst ops done i=true)(ht:tailWaits ops tl i=true)(hf:Fr a n e)(hw:Want ops o e)(hd:o.dst=some d)(hn:Nat.blt d n=true)
  (hr:∀ w1,Only b w w1→Ev P o a w1 v) (h:∀ a',Fr a' n ((d,v)::e)→wpS P ops (some b) tl Q fuel (mask ops (i::done)) a' w) : wpS P ops (some b) tl Q (fuel+1) (mask ops done) a w:=
 Xrt i hi hm ht hf hw hd hn (fun w' ⟨w1,h1,h2⟩=>hr w1 h1 w' (by rw [h1.size];exact h2)) h
theorem Xjz(i:Nat){v:Value}(hi:ops[i]? = some o)(hm:mayFirst ops done i=true)(hf:Fr a n e)(hw:Want ops o e)(hd:o.dst=some d)(hn:Nat.blt d n=true)
  (hr:∀ w,Ev P o a w v) (h:∀ a',Fr a' n ((d,v)::e)→wpS P ops V tl Q fuel (mask ops (i::done)) a' w) : wpS P ops V tl Q (fuel+1) (mask ops done) a w:=by
 simp only [mayFirst,Bool.and_eq_true] at hm
 refine X72 (C:=fun _=>True) hi (Region.noSelect_spec hm.1.1.1) (fun _ _ _ _ _ _ _ _ _ _ _=>trivial) fuel _ a w (X3n hm.2) (Region.free_spec hi hm.1.1.2) (by simpa using hm.1.2) trivial (.inl ⟨hw.wanted hf,fun w' _=>hr w' w' (Below.refl _ _)⟩) ?_
 rw [X33]
 exact h _ (by rw [hd];exact hf.put d v hn)
theorem Xv9(i:Nat)(hi:ops[i]? = some o)(hm:mayFirst ops done i=true)(hf:Fr a n e)(hw:Pass ops o e)(hd:o.dst=some d)(hn:Nat.blt d n=true)
  (h:∀ a',Fr a' n ((d,undef)::e)→wpS P ops V tl Q fuel (mask ops (i::done)) a' w) : wpS P ops V tl Q (fuel+1) (mask ops done) a w:=by
 simp only [mayFirst,Bool.and_eq_true] at hm
 refine X72 (C:=fun _=>True) hi (Region.noSelect_spec hm.1.1.1) (fun _ _ _ _ _ _ _ _ _ _ _=>trivial) fuel _ a w (X3n hm.2) (Region.free_spec hi hm.1.1.2) (by simpa using hm.1.2) trivial (.inr ⟨hw.wanted hf,rfl⟩) ?_
 rw [X33]
 exact h _ (by rw [hd];exact hf.put d undef hn)
theorem s_e{op:Op}{ty:TypeId}{pos:String}{af:Array Edge}(i:Nat){v:Value}(hi:ops[i]? = some ⟨some d,op,ty,pos,af,none⟩)(hm:mayFirst ops done i=true)(ht:tailWaits ops tl i=true)(hf:Fr a n e)(hn:Nat.blt d n=true)
  (hr:Ev P ⟨some d,op,ty,pos,af,none⟩ a w v) (h:∀ a',Fr a' n ((d,v)::e)→wpS P ops none tl Q fuel (mask ops (i::done)) a' w) : wpS P ops none tl Q (fuel+1) (mask ops done) a w:=Xti i hi hm ht hf trivial rfl hn hr h
theorem Xze{op:Op}{ty:TypeId}{pos:String}{af:Array Edge}(i:Nat){v:Value}(hi:ops[i]? = some ⟨some d,op,ty,pos,af,none⟩)(hm:mayFirst ops done i=true)(hf:Fr a n e)(hn:Nat.blt d n=true)
  (hr:∀ w,Ev P ⟨some d,op,ty,pos,af,none⟩ a w v) (h:∀ a',Fr a' n ((d,v)::e)→wpS P ops V tl Q fuel (mask ops (i::done)) a' w) : wpS P ops V tl Q (fuel+1) (mask ops done) a w:=Xjz i hi hm hf trivial rfl hn hr h
theorem Xy6(i:Nat)(hr:Region.ready .any ops (mask ops done)=[i])(h:wpR P ops V tl i (wpS P ops V tl Q fuel (mask ops (i::done))) a w) : wpS P ops V tl Q (fuel+1) (mask ops done) a w:=by
 refine ⟨fun h0=>(by rw [hr] at h0;cases h0),fun j hj=>?_⟩
 rw [hr] at hj
 obtain rfl:j=i:=by simpa using hj
 rw [X33]
 exact h
theorem Xwu(i j:Nat)(hr:Region.ready .any ops (mask ops done)=[i,j])(hi:wpR P ops V tl i (wpS P ops V tl Q fuel (mask ops (i::done))) a w)
  (hj:wpR P ops V tl j (wpS P ops V tl Q fuel (mask ops (j::done))) a w) : wpS P ops V tl Q (fuel+1) (mask ops done) a w:=by
 refine ⟨fun h0=>(by rw [hr] at h0;cases h0),fun k hk=>?_⟩
 rw [hr] at hk
 rw [X33]
 simp only [List.mem_cons,List.not_mem_nil,or_false] at hk
 rcases hk with rfl|rfl
 ·exact hi
 ·exact hj
theorem Xpj(i j k:Nat)(hr:Region.ready .any ops (mask ops done)=[i,j,k])(hi:wpR P ops V tl i (wpS P ops V tl Q fuel (mask ops (i::done))) a w)
  (hj:wpR P ops V tl j (wpS P ops V tl Q fuel (mask ops (j::done))) a w) (hk:wpR P ops V tl k (wpS P ops V tl Q fuel (mask ops (k::done))) a w) : wpS P ops V tl Q (fuel+1) (mask ops done) a w:=by
 refine ⟨fun h0=>(by rw [hr] at h0;cases h0),fun m hm=>?_⟩
 rw [hr] at hm
 rw [X33]
 simp only [List.mem_cons,List.not_mem_nil,or_false] at hm
 rcases hm with rfl|rfl|rfl
 ·exact hi
 ·exact hj
 ·exact hk
def sameL(L D:List Nat) : Bool:=L.all D.contains&&D.all L.contains
theorem Xiw{L D:List Nat}(h:sameL L D=true) : mask ops L=mask ops D:=by
 unfold mask
 apply Array.map_congr_left
 intro i _
 unfold sameL at h
 rw [Bool.and_eq_true] at h
 rw [Bool.eq_iff_iff,List.contains_iff_mem,List.contains_iff_mem]
 exact ⟨fun hi=>List.contains_iff_mem.1 (List.all_eq_true.1 h.1 i hi),fun hi=>List.contains_iff_mem.1 (List.all_eq_true.1 h.2 i hi)⟩
theorem Xlu{a:Act}{w:World}{o:Oper}{v:Value}(h:Ev P o a w v) : Ef P o a w (fun v' w'=>v'=v∧w=w'):=by
 unfold Ef
 rw [h w (Below.refl _ _)]
 exact ⟨rfl,rfl⟩
theorem Xvd(hr:Region.ready .any ops (mask ops done)=[])(h:Q a w) : wpS P ops V tl Q fuel (mask ops done) a w:=by
 cases fuel with
 | zero=>exact ⟨hr,h⟩
 | succ f=>exact ⟨fun _=>h,fun j hj=>by rw [hr] at hj;cases hj⟩
theorem Xwd{i:Nat}{K:Act→World→Prop}{R:Value→World→Prop}(hi:ops[i]? = some o)(hf:Fr a n e)(hw:Want ops o e)(hd:o.dst=some d)(hn:Nat.blt d n=true)
  (hr:Ef P o a w fun v w'=>(tl i=false→Keep V w w')∧R v w') (h:∀ a' v w',R v w'→Fr a' n ((d,v)::e)→K a' w') : wpR P ops V tl i K a w:=by
 unfold wpR
 simp only [hi]
 rw [if_pos (hw.wanted hf)]
 exact hr.mono fun v w' ⟨h1,h2⟩=>⟨h1,h _ v w' h2 (by rw [hd];exact hf.put d v hn)⟩
theorem Xvc{i:Nat}{K:Act→World→Prop}{R:Value→World→Prop}(hi:ops[i]? = some o)(hf:Fr a n e)(hw:Want ops o e)(hd:o.dst=none)
  (hr:Ef P o a w fun v w'=>(tl i=false→Keep V w w')∧R v w') (h:∀ a' v w',R v w'→Fr a' n e→K a' w') : wpR P ops V tl i K a w:=by
 unfold wpR
 simp only [hi]
 rw [if_pos (hw.wanted hf)]
 exact hr.mono fun v w' ⟨h1,h2⟩=>⟨h1,h _ v w' h2 (by rw [hd];exact hf.put_none v)⟩
theorem Xuz{i:Nat}{K:Act→World→Prop}(hi:ops[i]? = some o)(hf:Fr a n e)(hw:Pass ops o e)(hd:o.dst=some d)(hn:Nat.blt d n=true)
  (h:∀ a',Fr a' n ((d,undef)::e)→K a' w) : wpR P ops V tl i K a w:=by
 unfold wpR
 simp only [hi]
 rw [if_neg (by rw [hw.wanted hf];simp)]
 exact h _ (by rw [hd];exact hf.put d undef hn)
theorem X0h(V:Option Nat)(tl:Nat→Bool){id:Nat}{l:List Oper}{Q':Exit→Act→World→Prop}(hm:P.follows .mixedOrders=true)
  (h:∀ w',Below w.heap.size w w'→wpS P l.toArray V tl (Q' .normal) l.length (mask l.toArray []) a w') : (Code.region id l.toArray true).wp P Q' a w:=by
 refine wp_region_any hm ?_
 rw [Xkp]
 exact X2y (fun _ _ h=>h) _ _ _ _ (by simpa using h w.drew (Below.refl _ _).drew)
end
end
abbrev Env:=List (Nat×Value)
def At(w:World)(p:Addr)(l:List Value) : Prop:=∀ j v,l[j]? = some v→w.cell? (p.add j)=some v
def Blk(w:World)(b:Nat)(T:TypeId)(l:List Value) : Prop:=w.heap[b]? = some (.cells l.toArray T (0,0))
theorem X65(p:Addr)(i j:Nat) : (p.add i).add j=p.add (i+j):=by
 unfold Addr.add
 by_cases hi:i=0<;>by_cases hj:j=0<;>simp [hi,hj,Nat.add_assoc]
theorem X5e(p:Addr)(i:Nat) : (p.add i).block=p.block:=by unfold Addr.add;split<;>rfl
theorem X1m(b off i:Nat) : (Addr.mk b off none).add i=⟨b,off+i,none⟩:=by
 unfold Addr.add
 by_cases hi:i=0<;>simp [hi]
theorem Xg7{w:World}{p:Addr}{v:Value}(h:w.cell? p=some v) : p.block<w.heap.size:=by
 rcases Nat.lt_or_ge p.block w.heap.size with h'|h'
 ·exact h'
 ·simp [World.cell?,Array.getElem?_eq_none h'] at h
theorem At.below{w w':World}{p:Addr}{l:List Value}(h:At w p l)(hb:Below w.heap.size w w') : At w' p l:=by
 intro j v hj
 have:=h j v hj
 rw [hb.cell (Xg7 this)]
 exact this
theorem At.drop{w:World}{p:Addr}{l:List Value}(h:At w p l)(k:Nat) : At w (p.add k) (l.drop k):=by
 intro j v hj
 rw [X65]
 exact h (k+j) v (by rw [← hj,List.getElem?_drop])
theorem At.take{w:World}{p:Addr}{l:List Value}(h:At w p l)(k:Nat) : At w p (l.take k):=by
 intro j v hj;refine h j v ?_
 rw [List.getElem?_take] at hj
 split at hj
 ·exact hj
 ·cases hj
theorem At.nil(w:World)(p:Addr) : At w p []:=fun j v h=>by simp at h
theorem Blk.lt{w:World}{b:Nat}{T:TypeId}{l:List Value}(h:Blk w b T l) : b<w.heap.size:=by
 rcases Nat.lt_or_ge b w.heap.size with h'|h'
 ·exact h'
 ·simp [Blk,Array.getElem?_eq_none h'] at h
theorem Blk.cell{w:World}{b:Nat}{T:TypeId}{l:List Value}(h:Blk w b T l)(k:Nat) : w.cell? ⟨b,k,none⟩=l[k]?:=by
 unfold Blk at h
 simp [World.cell?,h]
theorem Blk.at{w:World}{b:Nat}{T:TypeId}{l:List Value}(h:Blk w b T l)(k:Nat) : At w ⟨b,k,none⟩ (l.drop k):=by
 intro j v hj
 rw [X1m,h.cell,← hj,List.getElem?_drop]
theorem Blk.below{w w':World}{b:Nat}{T:TypeId}{l:List Value}(h:Blk w b T l)(hb:Below w.heap.size w w') : Blk w' b T l:=(hb.block b h.lt).trans h
theorem Blk.only{w w':World}{b b':Nat}{T:TypeId}{l:List Value}(h:Blk w b T l)(ho:Only b' w w')(hne:b≠b') : Blk w' b T l:=(ho.block b hne).trans h
theorem Blk.drew{w:World}{b:Nat}{T:TypeId}{l:List Value}(h:Blk w b T l) : Blk w.drew b T l:=h
theorem Blk.ne{w:World}{b b':Nat}{T T':TypeId}{l l':List Value}(h:Blk w b T l)(h':Blk w b' T' l')(hT:Nat.beq T T'=false) : b≠b':=by
 rintro rfl
 unfold Blk at h h'
 rw [h] at h'
 injection h' with h'
 injection h' with _ e
 subst e
 simp at hT
theorem Below.only{B b:Nat}{w0 w w':World}(h:Below B w0 w)(ho:Only b w w')(hB:B≤b) : Below B w0 w':=
 h.trans ⟨ho.os,ho.tape,ho.output,by rw [ho.size];exact Nat.le_refl _,fun k hk=>ho.block k (by omega)⟩
theorem At.only{w w':World}{b:Nat}{p:Addr}{l:List Value}(h:At w p l)(ho:Only b w w')(hne:p.block≠b) : At w' p l:=by
 intro j v hj
 rw [World.cell?_of_block (w:=w) (by rw [X5e];exact ho.block _ hne)]
 exact h j v hj
def OneT(P:Program)(t:TypeId) : Prop:=∃ d,P.underlying t=some d∧(match d with|.struct _|.array _ _=>False|_=>True)
def AggT(P:Program)(t:TypeId)(n:Nat) : Prop:=(∃ d,P.underlying t=some d∧(match d with|.struct _|.array _ _=>True|_=>False))∧∃ i,P.info? t=some i∧i.size=n
def SizeT(P:Program)(t:TypeId)(n:Nat) : Prop:=∃ i,P.info? t=some i∧i.size=n
def ZeroT(P:Program)(t:TypeId)(z:Value) : Prop:=∃ i,P.info? t=some i∧i.zero=some z
def FieldT(P:Program)(T f k:Nat) : Prop:=∃ fs F i,P.underlying T=some (.struct fs)∧fs[f]? = some F∧F.offset=k∧P.info? F.type=some i∧(i.size==0)=false
def SliceT(P:Program)(T E:TypeId) : Prop:=P.underlying T=some (.slice E)
def FuncF (P : Program) (f : FuncId) : Prop := ∃ fn, P.funcs[f]? = some fn ∧ (fn.name == "runtime.NumGoroutine") = false ∧ fn.body.isNone = false
section
variable {P : Program} {w : World}
theorem run_sizeOf'{t n:Nat}(h:SizeT P t n)(w:World) : (sizeOf t).run P w=.ok n w:=by
 obtain ⟨i,h1,h2⟩:=h
 simp [sizeOf,typeInfo,h1,h2]
theorem X5a{t:TypeId}{z:Value}(h:ZeroT P t z)(w:World) : (zeroValue t).run P w=.ok z w:=by
 obtain ⟨i,h1,h2⟩:=h
 simp [zeroValue,typeInfo,h1,h2]
theorem X0t{t:TypeId}{d:TypeDesc}(h:P.underlying t=some d)(w:World) : (underlying t).run P w=.ok d w:=by simp [underlying,h]
theorem X5d{t:TypeId}(h:OneT P t)(w:World) : (isAgg t).run P w=.ok false w:=by
 obtain ⟨d,h1,h2⟩:=h
 cases d<;>simp_all [isAgg,underlying]
theorem X59{t n:Nat}(h:AggT P t n)(w:World) : (isAgg t).run P w=.ok true w:=by
 obtain ⟨⟨d,h1,h2⟩,_⟩:=h
 cases d<;>simp_all [isAgg,underlying]
theorem X3b(p:Addr) : ∀ (l:List Value) (i:Nat) (acc:Array Value),(∀ j v,l[j]? = some v→w.cell? (p.add (i+j))=some v)→
  (loadCellsFrom p i l.length acc).run P w=.ok (acc++l.toArray) w
 | [],i,acc,_=>by simp [loadCellsFrom]
 | v::l,i,acc,h=>by
  have h0:=h 0 v rfl
  simp only [Nat.add_zero] at h0
  have ih:=X3b p l (i+1) (acc.push v) (fun j u hj=>by
   have:=h (j+1) u (by simpa using hj)
   rwa [show i+(j+1)=i+1+j from by omega] at this)
  simp [loadCellsFrom,load,Sem.run,h0,ih]
theorem X3x{t:TypeId}{p:Addr}{v:Value}{l:List Value}(h:OneT P t)(hc:At w p (v::l)) : (loadVar t p).run P w=.ok v w:=by
 have h0:=hc 0 v rfl
 have h1:p.add 0=p:=by simp [Addr.add]
 rw [h1] at h0
 simp [loadVar,X5d h,load,Sem.run,h0]
theorem X3w{t n:Nat}{p:Addr}{l:List Value}(h:AggT P t n)(hc:At w p l)(hn:l.length=n) : (loadVar t p).run P w=.ok (.agg l.toArray) w:=by
 subst hn
 have h1:=X3b (P:=P) (w:=w) p l 0 #[] (fun j v hj=>by rw [Nat.zero_add];exact hc j v hj)
 simp [loadVar,X59 h,run_sizeOf' h.2,loadCells,h1]
end
section
variable {P : Program} {a : Act} {w : World} {n : Nat} {e : Env} {ty : TypeId} {pos : String} {af : Array Edge} {g : Option (Nat × Bool)} {d : Option Tmp}
theorem Xo7{x:Operand}{v:Value}(hf:Fr a n e)(hx:ev e x=some v) : Ev P ⟨d,.move x,ty,pos,af,g⟩ a w v:=fun w' _=>by
 simp [execOp,hf.ev hx]
theorem Xa{x:Operand}{v:Value}(hx:ev e x=some v) : EvW P ⟨d,.move x,ty,pos,af,g⟩ n e w v:=fun a hf=>Xo7 hf hx
theorem Xir{x:Operand}{v:Value}(hf:Fr a n e)(hx:ev e x=some v) : Ev P ⟨d,.assign x,ty,pos,af,g⟩ a w v:=fun w' _=>by
 simp [execOp,hf.ev hx]
theorem X18{x:Operand}{v:Value}(hx:ev e x=some v) : EvW P ⟨d,.assign x,ty,pos,af,g⟩ n e w v:=fun a hf=>Xir hf hx
theorem Xia{c x y:Operand}{b:Bool}{v:Value}(hf:Fr a n e)(hc:ev e c=some (.bool b))(hx:ev e (if b then x else y)=some v) : Ev P ⟨d,.pick c x y,ty,pos,af,g⟩ a w v:=fun w' _=>by
 have h1:=hf.ev hc;have h2:=hf.ev hx
 cases b<;>simp_all [execOp,asBool]
theorem Xl8{c x y:Operand}{b:Bool}{v:Value}(hf:Fr a n e)(hc:ev e c=some (.bool b))(hb:b=true)(hx:ev e x=some v) : Ev P ⟨d,.pick c x y,ty,pos,af,g⟩ a w v:=by
 subst hb
 exact Xia hf hc hx
theorem Xn{c x y:Operand}{b:Bool}{v:Value}(hc:ev e c=some (.bool b))(hb:b=true)(hx:ev e x=some v) : EvW P ⟨d,.pick c x y,ty,pos,af,g⟩ n e w v:=fun a hf=>Xl8 hf hc hb hx
theorem Xm4{c x y:Operand}{b:Bool}{v:Value}(hf:Fr a n e)(hc:ev e c=some (.bool b))(hb:b=false)(hx:ev e y=some v) : Ev P ⟨d,.pick c x y,ty,pos,af,g⟩ a w v:=by
 subst hb
 exact Xia hf hc hx
theorem Xj{c x y:Operand}{b:Bool}{v:Value}(hc:ev e c=some (.bool b))(hb:b=false)(hx:ev e y=some v) : EvW P ⟨d,.pick c x y,ty,pos,af,g⟩ n e w v:=fun a hf=>Xm4 hf hc hb hx
theorem Xo2{t:TypeId}{x:Operand}{p:Addr}{v:Value}{l:List Value}(hf:Fr a n e)(hx:ev e x=some (.pointer (some p)))(h1:OneT P t)(hc:At w p (v::l)) : Ev P ⟨d,.load t x,ty,pos,af,g⟩ a w v:=fun w' hw=>by
 simp [execOp,hf.ev hx,Instr.loadAt,Instr.sureAddr,X3x h1 (hc.below hw)]
theorem X0{t:TypeId}{x:Operand}{p:Addr}{v:Value}{l:List Value}(hx:ev e x=some (.pointer (some p)))(h1:OneT P t)(hc:At w p (v::l)) : EvW P ⟨d,.load t x,ty,pos,af,g⟩ n e w v:=fun a hf=>Xo2 hf hx h1 hc
theorem Xkw{t k:Nat}{x:Operand}{p:Addr}{l:List Value}(hf:Fr a n e)(hx:ev e x=some (.pointer (some p)))(hA:AggT P t k)(hc:At w p l)(hl:l.length=k) : Ev P ⟨d,.load t x,ty,pos,af,g⟩ a w (.agg l.toArray):=fun w' hw=>by
 simp [execOp,hf.ev hx,Instr.loadAt,Instr.sureAddr,X3w hA (hc.below hw) hl]
theorem X07{t k:Nat}{x:Operand}{p:Addr}{l:List Value}(hx:ev e x=some (.pointer (some p)))(hA:AggT P t k)(hc:At w p l)(hl:l.length=k) : EvW P ⟨d,.load t x,ty,pos,af,g⟩ n e w (.agg l.toArray):=fun a hf=>Xkw hf hx hA hc hl
theorem X90{T f k:Nat}{x:Operand}{p:Addr}(hf:Fr a n e)(hx:ev e x=some (.pointer (some p)))(hF:FieldT P T f k) : Ev P ⟨d,.fieldAddr T x f,ty,pos,af,g⟩ a w (.pointer (some (p.add k))):=fun w' _=>by
 obtain ⟨fs,F,i,h1,h2,h3,h4,h5⟩:=hF;have h6:=run_sizeOf' ⟨i,h4,rfl⟩ w'
 simp [execOp,hf.ev hx,Instr.fieldAt,X0t h1,h2,Instr.sureAddr,fieldPlace,h6,h3]
 simp at h5
 simp [h5]
theorem X8s{T f k:Nat}{x:Operand}{p:Addr}(hx:ev e x=some (.pointer (some p)))(hF:FieldT P T f k) : EvW P ⟨d,.fieldAddr T x f,ty,pos,af,g⟩ n e w (.pointer (some (p.add k))):=fun a hf=>X90 hf hx hF
theorem Xin{T f k:Nat}{x:Operand}{b off m:Nat}(hf:Fr a n e)(hx:ev e x=some (.pointer (some ⟨b,off,none⟩)))(hF:FieldT P T f k)(hk:off+k=m) : Ev P ⟨d,.fieldAddr T x f,ty,pos,af,g⟩ a w (.pointer (some ⟨b,m,none⟩)):=by
 have:=X90 (P:=P) (w:=w) (d:=d) (ty:=ty) (pos:=pos) (af:=af) (g:=g) hf hx hF
 rwa [X1m,hk] at this
theorem Xqc{T f k:Nat}{x:Operand}{b off m:Nat}(hx:ev e x=some (.pointer (some ⟨b,off,none⟩)))(hF:FieldT P T f k)(hk:off+k=m) : EvW P ⟨d,.fieldAddr T x f,ty,pos,af,g⟩ n e w (.pointer (some ⟨b,m,none⟩)):=fun a hf=>Xin hf hx hF hk
theorem Xeo{x:Operand}{k:Nat}{vs:List Value}{v:Value}(hf:Fr a n e)(hx:ev e x=some (.tuple vs.toArray))(hv:vs[k]? = some v) : Ev P ⟨d,.extract x k,ty,pos,af,g⟩ a w v:=fun w' _=>by
 simp [execOp,hf.ev hx,Instr.extract,hv]
theorem X4{x:Operand}{k:Nat}{vs:List Value}{v:Value}(hx:ev e x=some (.tuple vs.toArray))(hv:vs[k]? = some v) : EvW P ⟨d,.extract x k,ty,pos,af,g⟩ n e w v:=fun a hf=>Xeo hf hx hv
theorem Xvj{t:TypeId}{x:Operand}{b:Bool}(hf:Fr a n e)(hx:ev e x=some (.bool b)) : Ev P ⟨d,.unOp .not t x,ty,pos,af,g⟩ a w (.bool (!b)):=fun w' _=>by
 simp [execOp,hf.ev hx,Op.unary]
theorem X0z{t:TypeId}{x:Operand}{b:Bool}(hx:ev e x=some (.bool b)) : EvW P ⟨d,.unOp .not t x,ty,pos,af,g⟩ n e w (.bool (!b)):=fun a hf=>Xvj hf hx
theorem Xtv{t:TypeId}{x:Operand}{i:Int}(hf:Fr a n e)(hx:ev e x=some (.int .i64 i)) : Ev P ⟨d,.unOp .neg t x,ty,pos,af,g⟩ a w (.int .i64 (IntKind.i64.wrap (-i))):=fun w' _=>by
 simp [execOp,hf.ev hx,Op.unary,Op.intArith]
theorem Xjf{t:TypeId}{x:Operand}{i:Int}(hx:ev e x=some (.int .i64 i)) : EvW P ⟨d,.unOp .neg t x,ty,pos,af,g⟩ n e w (.int .i64 (IntKind.i64.wrap (-i))):=fun a hf=>Xtv hf hx
section
variable {t t' : TypeId} {x y : Operand} {i j : Int}
theorem Xlm(hf:Fr a n e)(hx:ev e x=some (.int .i64 i))(hy:ev e y=some (.int .i64 j)) : Ev P ⟨d,.binOp .add t x y t',ty,pos,af,g⟩ a w (.int .i64 (IntKind.i64.wrap (i+j))):=fun w' _=>by
 simp [execOp,hf.ev hx,hf.ev hy,eqGuard,binOp,Op.intArith]
theorem X26(hx:ev e x=some (.int .i64 i))(hy:ev e y=some (.int .i64 j)) : EvW P ⟨d,.binOp .add t x y t',ty,pos,af,g⟩ n e w (.int .i64 (IntKind.i64.wrap (i+j))):=fun a hf=>Xlm hf hx hy
theorem Xps(hf:Fr a n e)(hx:ev e x=some (.int .i64 i))(hy:ev e y=some (.int .i64 j))(h1:-9223372036854775808≤i+j)(h2:i+j≤9223372036854775807) : Ev P ⟨d,.binOp .add t x y t',ty,pos,af,g⟩ a w (.int .i64 (i+j)):=by
 have h:=Xlm (P:=P) (w:=w) (d:=d) (ty:=ty) (pos:=pos) (af:=af) (g:=g) (t:=t) (t':=t') hf hx hy
 rwa [IntWalk.i64_in _ ⟨h1,h2⟩] at h
theorem X06(hx:ev e x=some (.int .i64 i))(hy:ev e y=some (.int .i64 j))(h1:-9223372036854775808≤i+j)(h2:i+j≤9223372036854775807) : EvW P ⟨d,.binOp .add t x y t',ty,pos,af,g⟩ n e w (.int .i64 (i+j)):=fun a hf=>Xps hf hx hy h1 h2
theorem Xoe(hf:Fr a n e)(hx:ev e x=some (.int .i64 i))(hy:ev e y=some (.int .i64 j))(h1:-9223372036854775808≤i-j)(h2:i-j≤9223372036854775807) : Ev P ⟨d,.binOp .sub t x y t',ty,pos,af,g⟩ a w (.int .i64 (i-j)):=by
 have h:Ev P ⟨d,.binOp .sub t x y t',ty,pos,af,g⟩ a w (.int .i64 (IntKind.i64.wrap (i-j))):=fun w' _=>by
  simp [execOp,hf.ev hx,hf.ev hy,eqGuard,binOp,Op.intArith]
 rwa [IntWalk.i64_in _ ⟨h1,h2⟩] at h
theorem X1h(hx:ev e x=some (.int .i64 i))(hy:ev e y=some (.int .i64 j))(h1:-9223372036854775808≤i-j)(h2:i-j≤9223372036854775807) : EvW P ⟨d,.binOp .sub t x y t',ty,pos,af,g⟩ n e w (.int .i64 (i-j)):=fun a hf=>Xoe hf hx hy h1 h2
theorem Xu5(hf:Fr a n e)(hx:ev e x=some (.int .i64 i))(hy:ev e y=some (.int .i64 j)) : Ev P ⟨d,.binOp .sub t x y t',ty,pos,af,g⟩ a w (.int .i64 (IntKind.i64.wrap (i-j))):=fun w' _=>by
 simp [execOp,hf.ev hx,hf.ev hy,eqGuard,binOp,Op.intArith]
theorem X3u(hx:ev e x=some (.int .i64 i))(hy:ev e y=some (.int .i64 j)) : EvW P ⟨d,.binOp .sub t x y t',ty,pos,af,g⟩ n e w (.int .i64 (IntKind.i64.wrap (i-j))):=fun a hf=>Xu5 hf hx hy
theorem Xsg(hf:Fr a n e)(hx:ev e x=some (.int .i64 i))(hy:ev e y=some (.int .i64 j)) : Ev P ⟨d,.binOp .mul t x y t',ty,pos,af,g⟩ a w (.int .i64 (IntKind.i64.wrap (i*j))):=fun w' _=>by
 simp [execOp,hf.ev hx,hf.ev hy,eqGuard,binOp,Op.intArith]
theorem X25(hx:ev e x=some (.int .i64 i))(hy:ev e y=some (.int .i64 j)) : EvW P ⟨d,.binOp .mul t x y t',ty,pos,af,g⟩ n e w (.int .i64 (IntKind.i64.wrap (i*j))):=fun a hf=>Xsg hf hx hy
theorem Xtq(hf:Fr a n e)(hx:ev e x=some (.int .i64 i))(hy:ev e y=some (.int .i64 j)) : Ev P ⟨d,.binOp .lss t x y t',ty,pos,af,g⟩ a w (.bool (decide (i<j))):=fun w' _=>by
 simp [execOp,hf.ev hx,hf.ev hy,eqGuard,binOp,Op.intCmp]
theorem X10(hx:ev e x=some (.int .i64 i))(hy:ev e y=some (.int .i64 j)) : EvW P ⟨d,.binOp .lss t x y t',ty,pos,af,g⟩ n e w (.bool (decide (i<j))):=fun a hf=>Xtq hf hx hy
theorem Xtj(hf:Fr a n e)(hx:ev e x=some (.int .i64 i))(hy:ev e y=some (.int .i64 j)) : Ev P ⟨d,.binOp .leq t x y t',ty,pos,af,g⟩ a w (.bool (decide (i≤j))):=fun w' _=>by
 simp [execOp,hf.ev hx,hf.ev hy,eqGuard,binOp,Op.intCmp]
theorem Xel(hx:ev e x=some (.int .i64 i))(hy:ev e y=some (.int .i64 j)) : EvW P ⟨d,.binOp .leq t x y t',ty,pos,af,g⟩ n e w (.bool (decide (i≤j))):=fun a hf=>Xtj hf hx hy
theorem Xvh(hf:Fr a n e)(hx:ev e x=some (.int .i64 i))(hy:ev e y=some (.int .i64 j)) : Ev P ⟨d,.binOp .gtr t x y t',ty,pos,af,g⟩ a w (.bool (decide (j<i))):=fun w' _=>by
 simp [execOp,hf.ev hx,hf.ev hy,eqGuard,binOp,Op.intCmp]
theorem X3a(hx:ev e x=some (.int .i64 i))(hy:ev e y=some (.int .i64 j)) : EvW P ⟨d,.binOp .gtr t x y t',ty,pos,af,g⟩ n e w (.bool (decide (j<i))):=fun a hf=>Xvh hf hx hy
theorem Xsq(hf:Fr a n e)(hx:ev e x=some (.int .i64 i))(hy:ev e y=some (.int .i64 j)) : Ev P ⟨d,.binOp .geq t x y t',ty,pos,af,g⟩ a w (.bool (decide (j≤i))):=fun w' _=>by
 simp [execOp,hf.ev hx,hf.ev hy,eqGuard,binOp,Op.intCmp]
theorem X99(hx:ev e x=some (.int .i64 i))(hy:ev e y=some (.int .i64 j)) : EvW P ⟨d,.binOp .geq t x y t',ty,pos,af,g⟩ n e w (.bool (decide (j≤i))):=fun a hf=>Xsq hf hx hy
theorem Xvp(hf:Fr a n e)(hx:ev e x=some (.int .i64 i))(hy:ev e y=some (.int .i64 j)) : Ev P ⟨d,.binOp .eql t x y t',ty,pos,af,g⟩ a w (.bool (i==j)):=fun w' _=>by
 simp [execOp,hf.ev hx,hf.ev hy,eqGuard,binOp,Op.intCmp]
theorem X13(hx:ev e x=some (.int .i64 i))(hy:ev e y=some (.int .i64 j)) : EvW P ⟨d,.binOp .eql t x y t',ty,pos,af,g⟩ n e w (.bool (i==j)):=fun a hf=>Xvp hf hx hy
theorem Xu1(hf:Fr a n e)(hx:ev e x=some (.int .i64 i))(hy:ev e y=some (.int .i64 j)) : Ev P ⟨d,.binOp .neq t x y t',ty,pos,af,g⟩ a w (.bool (i != j)):=fun w' _=>by
 simp [execOp,hf.ev hx,hf.ev hy,eqGuard,binOp,Op.intCmp]
theorem X2h(hx:ev e x=some (.int .i64 i))(hy:ev e y=some (.int .i64 j)) : EvW P ⟨d,.binOp .neq t x y t',ty,pos,af,g⟩ n e w (.bool (i != j)):=fun a hf=>Xu1 hf hx hy
theorem Xu4(hf:Fr a n e)(hx:ev e x=some (.int .i64 i))(hy:ev e y=some (.int .i64 j)) : Ev P ⟨d,.binOp .and t x y t',ty,pos,af,g⟩ a w (.int .i64 (bits .and .i64 i j)):=fun w' _=>by
 simp [execOp,hf.ev hx,hf.ev hy,eqGuard,binOp,Op.intBits,bits]
theorem Xug(hx:ev e x=some (.int .i64 i))(hy:ev e y=some (.int .i64 j)) : EvW P ⟨d,.binOp .and t x y t',ty,pos,af,g⟩ n e w (.int .i64 (bits .and .i64 i j)):=fun a hf=>Xu4 hf hx hy
theorem Xun(hf:Fr a n e)(hx:ev e x=some (.int .i64 i))(hy:ev e y=some (.int .i64 j)) : Ev P ⟨d,.binOp .xor t x y t',ty,pos,af,g⟩ a w (.int .i64 (bits .xor .i64 i j)):=fun w' _=>by
 simp [execOp,hf.ev hx,hf.ev hy,eqGuard,binOp,Op.intBits,bits]
theorem Xlg(hx:ev e x=some (.int .i64 i))(hy:ev e y=some (.int .i64 j)) : EvW P ⟨d,.binOp .xor t x y t',ty,pos,af,g⟩ n e w (.int .i64 (bits .xor .i64 i j)):=fun a hf=>Xun hf hx hy
theorem X74{b c:Bool}(ht:P.underlying t=some .bool)(k:Nat)(w:World) : (Op.equalIn (k+1) t (.bool b) (.bool c)).run P w=.ok (b==c) w:=by
 simp [Op.equalIn,X0t ht]
theorem Xq1{b c:Bool}(ht:P.underlying t=some .bool)(hf:Fr a n e)(hx:ev e x=some (.bool b))(hy:ev e y=some (.bool c)) : Ev P ⟨d,.binOp .neq t x y t',ty,pos,af,g⟩ a w (.bool (b != c)):=fun w' _=>by
 have h:=X74 (P:=P) (b:=b) (c:=c) ht 9999 w'
 simp [execOp,hf.ev hx,hf.ev hy,eqGuard,binOp,Op.equal,Op.maxDepth,h]
 cases b<;>cases c<;>rfl
theorem Xmh{b c:Bool}(ht:P.underlying t=some .bool)(hx:ev e x=some (.bool b))(hy:ev e y=some (.bool c)) : EvW P ⟨d,.binOp .neq t x y t',ty,pos,af,g⟩ n e w (.bool (b != c)):=fun a hf=>Xq1 ht hf hx hy
theorem Xt0{x:Operand}{T E:TypeId}{A:Option Addr}{m c:Nat}(hf:Fr a n e)(hx:ev e x=some (.slice A m c))(hT:SliceT P T E) : Ev P ⟨d,.call ⟨.builtin .len,#[x],#[T]⟩,ty,pos,af,g⟩ a w (.int .i64 (m:Int)):=fun w' _=>by
 have:=X0t (P:=P) hT w'
 simp [execOp,resolve,invoke,builtin,Builtin.len_,hf.ev hx,this,goInt]
theorem X0x{x:Operand}{T E:TypeId}{A:Option Addr}{m c:Nat}(hx:ev e x=some (.slice A m c))(hT:SliceT P T E) : EvW P ⟨d,.call ⟨.builtin .len,#[x],#[T]⟩,ty,pos,af,g⟩ n e w (.int .i64 (m:Int)):=fun a hf=>Xt0 hf hx hT
theorem Xcw{k:FuncId}{cs:List Operand}{vs:List Value}(hf:Fr a n e)(hx:evs e cs=some vs) : Ev P ⟨d,.makeFunc (.func k) #[] cs.toArray,ty,pos,af,g⟩ a w (.func (.func k) #[] vs.toArray):=fun w' _=>by
 simp [execOp,Instr.makeFunc,hf.evs hx]
theorem X2z{k:FuncId}{cs:List Operand}{vs:List Value}(hx:evs e cs=some vs) : EvW P ⟨d,.makeFunc (.func k) #[] cs.toArray,ty,pos,af,g⟩ n e w (.func (.func k) #[] vs.toArray):=fun a hf=>Xcw hf hx
end
end
section
variable {P : Program} {a : Act} {w : World} {n : Nat} {e : Env} {ty : TypeId} {pos : String} {af : Array Edge} {g : Option (Nat × Bool)} {d : Option Tmp}
def IsNew(w:World)(T:TypeId)(zs:List Value)(v:Value)(w':World) : Prop:=
 ∃ b,v=.pointer (some ⟨b,0,none⟩)∧w.heap.size≤b∧Below w.heap.size w w'∧Blk w' b T zs
theorem X75(w:World)(T:TypeId)(zs:List Value) : Blk (w.alloc (.cells zs.toArray T)) w.heap.size T zs:=heap_alloc_new w _
theorem X7j(w:World)(T:TypeId)(zs:List Value) : IsNew w T zs (.pointer (some ⟨w.heap.size,0,none⟩)) (w.alloc (.cells zs.toArray T)):=
 ⟨_,rfl,Nat.le_refl _,(Below.refl _ _).alloc (Nat.le_refl _) _,X75 w T zs⟩
theorem X8a(T:TypeId)(v:Value)(w:World) : (newVar T v).run P w=.ok ⟨w.heap.size,0,none⟩ (w.alloc (.cells v.cells T)):=by
 simp [newVar,newRow,newObj,Sem.run]
theorem Xm0{T:TypeId}{z:Value}{zs:List Value}(hz:ZeroT P T z)(hzs:z.cells.toList=zs) : Ef P ⟨d,.alloc T,ty,pos,af,g⟩ a w (IsNew w T zs):=by
 subst hzs
 have h:(execOp a.eval ⟨d,.alloc T,ty,pos,af,g⟩).run P w=.ok (.value (.pointer (some ⟨w.heap.size,0,none⟩))) (w.alloc (.cells z.cells T)):=by
  simp [execOp,Instr.alloc,X5a hz,X8a]
 refine (Ef.of_run h).mono fun v w' ⟨e1,e2⟩=>?_
 subst e1;subst e2
 have:=X7j w T z.cells.toList
 simpa using this
theorem X8{n:Nat}{e:List (Nat×Value)}{T:TypeId}{z:Value}{zs:List Value}(hz:ZeroT P T z)(hzs:z.cells.toList=zs) : EfW P ⟨d,.alloc T,ty,pos,af,g⟩ n e w (IsNew w T zs):=fun a _=>Xm0 hz hzs
theorem Xv1{T:TypeId}{x:Operand}{v:Value}{zs:List Value}(hf:Fr a n e)(hx:ev e x=some v)(hzs:v.cells.toList=zs) : Ef P ⟨d,.box T x,ty,pos,af,g⟩ a w (IsNew w T zs):=by
 subst hzs
 have h:(execOp a.eval ⟨d,.box T x,ty,pos,af,g⟩).run P w=.ok (.value (.pointer (some ⟨w.heap.size,0,none⟩))) (w.alloc (.cells v.cells T)):=by
  simp [execOp,Instr.box,X8a,hf.ev hx]
 refine (Ef.of_run h).mono fun v' w' ⟨e1,e2⟩=>?_
 subst e1;subst e2
 have:=X7j w T v.cells.toList
 simpa using this
theorem X0i{T:TypeId}{x:Operand}{v:Value}{zs:List Value}(hx:ev e x=some v)(hzs:v.cells.toList=zs) : EfW P ⟨d,.box T x,ty,pos,af,g⟩ n e w (IsNew w T zs):=fun a hf=>Xv1 hf hx hzs
def splice(l:List Value)(k:Nat)(vs:List Value) : List Value:=l.take k++vs++l.drop (k+vs.length)
def one:Value→Bool
 | .agg _=>false
 | .tuple _=>false
 | _=>true
theorem Xc4(w:World)(b k:Nat)(v:Value) : Only b w (w.setCell ⟨b,k,none⟩ v):=
 ⟨rfl,rfl,rfl,by simp [World.setCell],fun i hi=>Below.heap_setCell _ _ _ _ hi⟩
theorem Xdp{T:TypeId}{l:List Value}{b:Nat}(h:Blk w b T l)(k:Nat)(v:Value) : Blk (w.setCell ⟨b,k,none⟩ v) b T (l.set k v):=by
 unfold Blk at h ⊢
 simp [World.setCell,Array.getElem?_modify,h]
theorem X48{b off:Nat}{T:TypeId} : ∀ (vs:List Value) (w:World) (l:List Value) (i:Nat),Blk w b T l→off+i+vs.length≤l.length→vs.all one=true→
  ∃ w',(storeCells ⟨b,off,none⟩ vs i).run P w=.ok () w'∧Only b w w'∧Blk w' b T (splice l (off+i) vs)
 | [],w,l,i,hb,_,_=>⟨w,by simp [storeCells],Only.refl _ _,by simpa [splice] using hb⟩
 | v::vs,w,l,i,hb,hl,h1=>by
  simp only [List.all_cons,Bool.and_eq_true,List.length_cons] at h1 hl
  have hc:w.cell? ⟨b,off+i,none⟩=some (l[off+i]'(by omega)):=by rw [hb.cell];exact List.getElem?_eq_getElem (by omega)
  have hfz:w.frozen? ⟨b,off+i,none⟩=false:=by
   have:=hb
   unfold Blk at this
   simp [World.frozen?,this]
  obtain ⟨w',hr,ho,hb'⟩:=X48 (off:=off) vs (w.setCell ⟨b,off+i,none⟩ v) (l.set (off+i) v) (i+1) (Xdp hb _ _) (by rw [List.length_set];omega) h1.2
  refine ⟨w',?_,(Xc4 w b _ v).trans ho,?_⟩
  ·have h0:(store (⟨b,off+i,none⟩ : Addr) v).run P w=.ok () (w.setCell ⟨b,off+i,none⟩ v):=by
    have h2:=h1.1
    unfold one at h2
    split at h2
    ·cases h2
    ·cases h2
    ·rename_i hx1 hx2
     cases v<;>simp_all [store,Sem.run]
   simp only [storeCells,X1m]
   simp [h0,hr]
  ·have:splice (l.set (off+i) v) (off+(i+1)) vs=splice l (off+i) (v::vs):=by
    unfold splice
    have e1:off+(i+1)=off+i+1:=by omega
    rw [e1,List.take_succ_eq_append_getElem (by rw [List.length_set];omega),List.take_set_of_le (by omega),List.getElem_set_self,List.drop_set_of_lt (by omega)]
    simp only [List.length_cons,List.append_assoc,List.cons_append,List.nil_append]
    rw [show off+i+1+vs.length=off+i+(vs.length+1) from by omega]
   rw [this] at hb'
   exact hb'
def Stored(w:World)(b:Nat)(T:TypeId)(l:List Value)(_:Value)(w':World) : Prop:=Only b w w'∧Blk w' b T l
theorem X88{t T:TypeId}{x y:Operand}{b off k:Nat}{v:Value}{l l' vs:List Value}(hf:Fr a n e)(hx:ev e x=some (.pointer (some ⟨b,off,none⟩)))(hy:ev e y=some v)
  (hs:SizeT P t k) (hb:Blk w b T l) (hvs:v.cells.toList=vs) (hk:Nat.beq vs.length k=true) (h1:vs.all one=true) (hl:Nat.ble (off+k) l.length=true) (hl':splice l off vs=l') :
  Ef P ⟨d,.store t x y,ty,pos,af,g⟩ a w (Stored w b T l'):=by
 subst hl'
 have hk':vs.length=k:=Nat.eq_of_beq_eq_true hk
 have hll:off+k≤l.length:=Nat.le_of_ble_eq_true hl
 obtain ⟨w',hr,ho,hb'⟩:=X48 (P:=P) (b:=b) (off:=off) (T:=T) vs w l 0 hb (by omega) h1
 refine (Ef.of_skip (w':=w') ?_).mono fun v w1 ⟨_,e2⟩=>by subst e2;exact ⟨ho,by simpa using hb'⟩
 have hc:v.cells.size=k:=by rw [← hk',← hvs];simp
 simp [execOp,Instr.storeAt,Instr.sureAddr,hf.ev hx,hf.ev hy,storeVar,run_sizeOf' hs,hc,hvs,hr]
theorem Xba{t T:TypeId}{x y:Operand}{b off k:Nat}{v:Value}{l l' vs:List Value}(hx:ev e x=some (.pointer (some ⟨b,off,none⟩)))(hy:ev e y=some v)(hs:SizeT P t k)(hb:Blk w b T l)(hvs:v.cells.toList=vs)(hk:Nat.beq vs.length k=true)(h1:vs.all one=true)(hl:Nat.ble (off+k) l.length=true)(hl':splice l off vs=l') : EfW P ⟨d,.store t x y,ty,pos,af,g⟩ n e w (Stored w b T l'):=fun a hf=>X88 hf hx hy hs hb hvs hk h1 hl hl'
def Ret(P:Program)(f:FuncId)(args:List Value)(w:World)(R:Value→World→Prop) : Prop:=Calls P f args.toArray w fun e w'=>∃ v,e=.returned v∧R v w'
theorem Ret.mono{f:FuncId}{args:List Value}{R R':Value→World→Prop}(h:Ret P f args w R)(hr:∀ v w',R v w'→R' v w') : Ret P f args w R':=
 Calls.mono h fun _ _ ⟨v,he,hR⟩=>⟨v,he,hr _ _ hR⟩
theorem X5w{f:FuncId}(hF:FuncF P f)(args:Array Value)(w:World) : (callFunc f args).run P w=.ok (.enter f args) w:=by
 obtain ⟨fn,h1,h2,h3⟩:=hF
 have h2' : ¬ fn.name = "runtime.NumGoroutine" := by simpa using h2
 have h3':¬ fn.body=none:=by intro hb;rw [hb] at h3;cases h3
 simp [callFunc,h1,h2',h3']
theorem Xpy{f:FuncId}{xs:List Operand}{vs:List Value}{ts:Array TypeId}{R:Value→World→Prop}(hf:Fr a n e)(hx:evs e xs=some vs)(hF:FuncF P f)(h:Ret P f vs w R) :
  Ef P ⟨d,.call ⟨.value (.func f),xs.toArray,ts⟩,ty,pos,af,g⟩ a w R:=by
 have hm:=hf.evs hx
 unfold Ef
 have hr:(execOp a.eval ⟨d,.call ⟨.value (.func f),xs.toArray,ts⟩,ty,pos,af,g⟩).run P w=.ok (.enter f vs.toArray) w:=by
  simp [execOp,resolve,Act.eval,Deferred.ofValue,invoke,hm,X5w hF]
 rw [hr]
 exact h
theorem X1x{f:FuncId}{xs:List Operand}{vs:List Value}{ts:Array TypeId}{R:Value→World→Prop}(hx:evs e xs=some vs)(hF:FuncF P f)(h:Ret P f vs w R) : EfW P ⟨d,.call ⟨.value (.func f),xs.toArray,ts⟩,ty,pos,af,g⟩ n e w R:=fun a hf=>Xpy hf hx hF h
theorem Xl3{f:FuncId}{x:Operand}{xs:List Operand}{vs cs:List Value}{ts:Array TypeId}{R:Value→World→Prop}(hf:Fr a n e)(hv:ev e x=some (.func (.func f) #[] cs.toArray))(hx:evs e xs=some vs)(hF:FuncF P f)(h:Ret P f (vs++cs) w R) :
  Ef P ⟨d,.call ⟨.value x,xs.toArray,ts⟩,ty,pos,af,g⟩ a w R:=by
 have hm:=hf.evs hx
 have hv':=hf.ev hv
 unfold Ef
 have hr:(execOp a.eval ⟨d,.call ⟨.value x,xs.toArray,ts⟩,ty,pos,af,g⟩).run P w=.ok (.enter f (vs++cs).toArray) w:=by
  simp [execOp,resolve,hv',Deferred.ofValue,invoke,hm,X5w hF]
 rw [hr]
 exact h
theorem X76{f:FuncId}{x:Operand}{xs:List Operand}{vs cs:List Value}{ts:Array TypeId}{R:Value→World→Prop}(hv:ev e x=some (.func (.func f) #[] cs.toArray))(hx:evs e xs=some vs)(hF:FuncF P f)(h:Ret P f (vs++cs) w R) : EfW P ⟨d,.call ⟨.value x,xs.toArray,ts⟩,ty,pos,af,g⟩ n e w R:=fun a hf=>Xl3 hf hv hx hF h
end
section
variable {α : Type}
def Rd(w:World)(B:Nat)(E:TypeId)(enc:α→List Value)(A:Option Addr)(l:List α) : Prop:=
 l≠[]→∃ b off cs fz,A=some ⟨b,off,none⟩∧b<B∧w.heap[b]? = some (.cells cs E fz)∧∀ j v,(l.flatMap enc)[j]? = some v→cs[off+j]? = some v
theorem Rd.nil(w:World)(B:Nat)(E:TypeId)(enc:α→List Value)(A:Option Addr) : Rd w B E enc A []:=fun h=>absurd rfl h
theorem Rd.chg{w w':World}{B:Nat}{E:TypeId}{enc:α→List Value}{A:Option Addr}{l:List α}(h:Rd w B E enc A l)(hk:∀ b cs fz,b<B→w.heap[b]? = some (.cells cs E fz)→w'.heap[b]? = w.heap[b]?) : Rd w' B E enc A l:=fun hl=>by
 obtain ⟨b,off,cs,fz,h1,h2,h3,h4⟩:=h hl;exact ⟨b,off,cs,fz,h1,h2,(hk b cs fz h2 h3).trans h3,h4⟩
theorem Rd.below{w w':World}{B:Nat}{E:TypeId}{enc:α→List Value}{A:Option Addr}{l:List α}(h:Rd w B E enc A l)(hb:Below w.heap.size w w') : Rd w' B E enc A l:=
 h.chg fun b _ _ _ hh=>hb.block b (by
  rcases Nat.lt_or_ge b w.heap.size with h'|h'
  ·exact h'
  ·rw [Array.getElem?_eq_none h'] at hh;cases hh)
theorem Rd.below'{w w':World}{B:Nat}{E:TypeId}{enc:α→List Value}{A:Option Addr}{l:List α}(h:Rd w B E enc A l)(hb:Below B w w') : Rd w' B E enc A l:=
 h.chg fun b _ _ hB _=>hb.block b hB
theorem Rd.only{w w':World}{B b:Nat}{E:TypeId}{enc:α→List Value}{A:Option Addr}{l:List α}(h:Rd w B E enc A l)(ho:Only b w w')(hB:B≤b) : Rd w' B E enc A l:=
 h.chg fun k _ _ hk _=>ho.block k (by omega)
theorem Rd.onlyT{w w':World}{B b:Nat}{E T:TypeId}{lc:List Value}{enc:α→List Value}{A:Option Addr}{l:List α}(h:Rd w B E enc A l)(ho:Only b w w')(hb:Blk w b T lc)(hT:Nat.beq E T=false) : Rd w' B E enc A l:=
 h.chg fun k cs fz _ hh=>ho.block k (by
  rintro rfl
  unfold Blk at hb
  rw [hh] at hb
  injection hb with hb
  injection hb with _ e _
  subst e
  simp at hT)
theorem Rd.drew{w:World}{B:Nat}{E:TypeId}{enc:α→List Value}{A:Option Addr}{l:List α}(h:Rd w B E enc A l) : Rd w.drew B E enc A l:=h
theorem X3p{enc:α→List Value}{sz:Nat}(hsz:∀ x,(enc x).length=sz) : ∀ (l:List α) (k:Nat) (x:α),l[k]? = some x→∀ j v,(enc x)[j]? = some v→(l.flatMap enc)[k*sz+j]? = some v
 | [],k,x,h=>by simp at h
 | y::l,0,x,h=>by
  intro j v hj
  obtain rfl:y=x:=by simpa using h
  simp only [List.flatMap_cons,Nat.zero_mul,Nat.zero_add]
  rw [List.getElem?_append_left (List.getElem?_eq_some_iff.1 hj).1]
  exact hj
 | y::l,k+1,x,h=>by
  intro j v hj
  simp only [List.flatMap_cons]
  have h1:(k+1)*sz+j=sz+(k*sz+j):=by rw [Nat.add_mul];omega
  rw [h1,List.getElem?_append_right (by rw [hsz];omega),hsz,Nat.add_sub_cancel_left]
  exact X3p hsz l k x (by simpa using h) j v hj
theorem Xz{enc:α→List Value}{sz:Nat}(hsz:∀ x,(enc x).length=sz)(l:List α) : (l.flatMap enc).length=l.length*sz:=by
 induction l with
 | nil=>simp
 | cons x l ih=>simp only [List.flatMap_cons,List.length_append,hsz,ih,List.length_cons,Nat.add_mul];omega
theorem Rd.at{w:World}{B:Nat}{E:TypeId}{enc:α→List Value}{A:Option Addr}{l:List α}{sz:Nat}(hsz:∀ x,(enc x).length=sz)(h:Rd w B E enc A l){k:Nat}{x:α}(hk:l[k]? = some x) :
  ∃ p,A=some p∧At w (p.add (k*sz)) (enc x):=by
 have hl:l≠[]:=by rintro rfl;simp at hk
 obtain ⟨b,off,cs,fz,rfl,h2,h3,h4⟩:=h hl
 refine ⟨_,rfl,fun j v hj=>?_⟩
 rw [X1m,X1m]
 have:=h4 _ _ (X3p hsz l k x hk j v hj)
 simp only [World.cell?,h3]
 rw [Nat.add_assoc]
 simpa using this
theorem Rd.of_blk{w:World}{b:Nat}{E:TypeId}{enc:α→List Value}{l:List α}{cs:List Value}(h:Blk w b E cs)(hcs:l.flatMap enc=cs)(B:Nat)(hB:b<B) : Rd w B E enc (some ⟨b,0,none⟩) l:=fun _=>by
 subst hcs
 exact ⟨b,0,_,_,rfl,hB,h,fun j v hj=>by simpa using hj⟩
def Own(w:World)(B0:Nat)(E:TypeId)(sz:Nat)(enc:α→List Value)(A:Option Addr)(c:Nat)(l:List α) : Prop:=w.ownsRow B0 E sz (.slice A l.length c) l.length (l.flatMap enc)
theorem Own.rd{w:World}{B0:Nat}{E:TypeId}{sz:Nat}{enc:α→List Value}{A:Option Addr}{c:Nat}{l:List α}(h:Own w B0 E sz enc A c l) : Rd w w.heap.size E enc A l:=fun hl=>by
 rcases h.2 with ⟨h1,h2⟩|⟨g,cap,cur,h1,h2,h3,h4,h5,h6,h7⟩
 ·exact absurd (List.eq_nil_of_length_eq_zero h2) hl
 ·injection h1 with h1
  refine ⟨g,0,cur,_,h1,(Array.getElem?_eq_some_iff.1 h3).1,h3,fun j v hj=>?_⟩
  rw [← h7,List.getElem?_take] at hj
  split at hj
  ·simpa using hj
  ·cases hj
theorem Own.nil(w:World)(B0:Nat)(E:TypeId)(sz:Nat)(enc:α→List Value) : Own w B0 E sz enc none 0 []:=⟨by simp,.inl ⟨rfl,rfl⟩⟩
theorem Own.empty{w:World}{B0 b:Nat}{E:TypeId}{sz:Nat}{enc:α→List Value}(h:Blk w b E [])(hb:B0≤b) : Own w B0 E sz enc (some ⟨b,0,none⟩) 0 ([] : List α):=
 ⟨by simp,.inr ⟨b,0,#[],rfl,hb,h,Nat.le_refl _,by simp [maxLen],by simp,by simp⟩⟩
theorem Own.of_blk{w:World}{B0 b:Nat}{E:TypeId}{sz:Nat}{enc:α→List Value}{l:List α}{cs:List Value}(h:Blk w b E cs)(hb:B0≤b)(hcs:l.flatMap enc=cs)(hsz:∀ x,(enc x).length=sz)(hm:l.length≤maxLen) : Own w B0 E sz enc (some ⟨b,0,none⟩) l.length l:=by
 subst hcs
 have hl:=Xz hsz l;exact ⟨hl,.inr ⟨b,l.length,_,rfl,hb,h,Nat.le_refl _,hm,by simpa using hl,by simp only [List.toList_toArray];rw [← hl];exact List.take_length⟩⟩
theorem Own.below{w w':World}{B0:Nat}{E:TypeId}{sz:Nat}{enc:α→List Value}{A:Option Addr}{c:Nat}{l:List α}(h:Own w B0 E sz enc A c l)(hb:Below w.heap.size w w') : Own w' B0 E sz enc A c l:=by
 refine ⟨h.1,?_⟩
 rcases h.2 with h1|⟨g,cap,cur,h1,h2,h3,h4⟩
 ·exact .inl h1
 ·exact .inr ⟨g,cap,cur,h1,h2,(hb.block g (Array.getElem?_eq_some_iff.1 h3).1).trans h3,h4⟩
theorem Own.onlyT{w w':World}{B0 b:Nat}{E T:TypeId}{lc:List Value}{sz:Nat}{enc:α→List Value}{A:Option Addr}{c:Nat}{l:List α}(h:Own w B0 E sz enc A c l)(ho:Only b w w')(hb:Blk w b T lc)(hT:Nat.beq E T=false) : Own w' B0 E sz enc A c l:=by
 refine ⟨h.1,?_⟩
 rcases h.2 with h1|⟨g,cap,cur,h1,h2,h3,h4⟩
 ·exact .inl h1
 ·refine .inr ⟨g,cap,cur,h1,h2,(ho.block g ?_).trans h3,h4⟩
  rintro rfl
  unfold Blk at hb
  rw [h3] at hb
  injection hb with hb
  injection hb with _ e _
  subst e
  simp at hT
theorem Own.drew{w:World}{B0:Nat}{E:TypeId}{sz:Nat}{enc:α→List Value}{A:Option Addr}{c:Nat}{l:List α}(h:Own w B0 E sz enc A c l) : Own w.drew B0 E sz enc A c l:=h
theorem Own.block{w:World}{B0:Nat}{E:TypeId}{sz:Nat}{enc:α→List Value}{A:Option Addr}{c:Nat}{l:List α}(h:Own w B0 E sz enc A c l){k:Nat}(hk:(Value.slice A l.length c).ownBlock=some k) : B0≤k∧k<w.heap.size∧∃ cs fz,w.heap[k]? = some (.cells cs E fz):=by
 rcases h.2 with ⟨h1,_⟩|⟨g,cap,cur,h1,h2,h3,_⟩
 ·rw [h1] at hk;simp [Value.ownBlock] at hk
 ·rw [h1] at hk
  simp [Value.ownBlock] at hk
  subst hk
  exact ⟨h2,(Array.getElem?_eq_some_iff.1 h3).1,_,_,h3⟩
def Away(A:Option Addr)(b:Nat) : Prop:=∀ p,A=some p→p.block≠b
def AwayR(l:List α)(A:Option Addr)(b:Nat) : Prop:=l≠[]→Away A b
theorem Away.no(b:Nat) : Away none b:=fun p h=>by cases h
theorem Away.ne{g off b:Nat}(h:b≠g) : Away (some ⟨g,off,none⟩) b:=fun p hp=>by injection hp with hp;subst hp;exact Ne.symm h
theorem Rd.away{w:World}{B b:Nat}{E:TypeId}{enc:α→List Value}{A:Option Addr}{l:List α}(h:Rd w B E enc A l)(hl:w.heap.size≤b) : AwayR l A b:=fun hne p hp=>by
 obtain ⟨g,off,cs,fz,h1,h2,h3,h4⟩:=h hne
 rw [hp] at h1
 injection h1 with h1
 subst h1
 have:=(Array.getElem?_eq_some_iff.1 h3).1
 intro e
 simp only at e
 omega
theorem Own.away{w:World}{B0 b:Nat}{E:TypeId}{sz:Nat}{enc:α→List Value}{A:Option Addr}{c:Nat}{l:List α}(h:Own w B0 E sz enc A c l)(hl:w.heap.size≤b) : Away A b:=fun p hp=>by
 rcases h.2 with ⟨h1,_⟩|⟨g,cap,cur,h1,h2,h3,_⟩
 ·injection h1 with h1;rw [h1] at hp;cases hp
 ·injection h1 with h1
  rw [h1] at hp
  injection hp with hp
  subst hp
  have:=(Array.getElem?_eq_some_iff.1 h3).1
  intro e
  simp only at e
  omega
theorem Own.awayNew{w:World}{B0 b:Nat}{E:TypeId}{sz:Nat}{enc:α→List Value}{A:Option Addr}{c:Nat}{l:List α}(h:Own w B0 E sz enc A c l)(hl:b<B0) : Away A b:=fun p hp=>by
 rcases h.2 with ⟨h1,_⟩|⟨g,cap,cur,h1,h2,h3,_⟩
 ·injection h1 with h1;rw [h1] at hp;cases hp
 ·injection h1 with h1
  rw [h1] at hp
  injection hp with hp
  subst hp
  intro e
  simp only at e
  omega
theorem Away.r{l:List α}{A:Option Addr}{b:Nat}(h:Away A b) : AwayR l A b:=fun _=>h
theorem Rd.onlyA{w w':World}{B b:Nat}{E:TypeId}{enc:α→List Value}{A:Option Addr}{l:List α}(h:Rd w B E enc A l)(ho:Only b w w')(ha:AwayR l A b) : Rd w' B E enc A l:=fun hne=>by
 obtain ⟨g,off,cs,fz,h1,h2,h3,h4⟩:=h hne;exact ⟨g,off,cs,fz,h1,h2,(ho.block g (ha hne _ h1)).trans h3,h4⟩
theorem Own.onlyA{w w':World}{B0 b:Nat}{E:TypeId}{sz:Nat}{enc:α→List Value}{A:Option Addr}{c:Nat}{l:List α}(h:Own w B0 E sz enc A c l)(ho:Only b w w')(ha:Away A b) : Own w' B0 E sz enc A c l:=by
 refine ⟨h.1,?_⟩
 rcases h.2 with h1|⟨g,cap,cur,h1,h2,h3,h4⟩
 ·exact .inl h1
 ·injection h1 with h1 h1' h1''
  exact .inr ⟨g,cap,cur,by rw [h1,h1''],h2,(ho.block g (ha _ h1)).trans h3,h4⟩
def Appended(w:World)(B0:Nat)(E:TypeId)(sz:Nat)(enc:α→List Value)(A:Option Addr)(c:Nat)(l l2:List α)(v:Value)(w':World) : Prop:=
 ∃ A' c',v=.slice A' (l++l2).length c'∧Own w' B0 E sz enc A' c' (l++l2)∧w.grownBy w' (Value.slice A l.length c).ownBlock∧∀ b,b<w.heap.size→Away A b→Away A' b
theorem Blk.appT{w w':World}{b:Nat}{T:TypeId}{lc:List Value}{B0:Nat}{E:TypeId}{sz:Nat}{enc:α→List Value}{A:Option Addr}{c:Nat}{l:List α}(h:Blk w b T lc)(ho:Own w B0 E sz enc A c l)(hg:w.grownBy w' (Value.slice A l.length c).ownBlock)(hT:Nat.beq E T=false) : Blk w' b T lc:=by
 refine (hg.block b h.lt fun hk=>?_).trans h
 obtain ⟨_,_,cs,fz,h3⟩:=ho.block hk.symm
 unfold Blk at h
 rw [h3] at h
 injection h with h
 injection h with _ e _
 subst e
 simp at hT
theorem Blk.appB{w w':World}{b:Nat}{T:TypeId}{lc:List Value}{B0:Nat}{E:TypeId}{sz:Nat}{enc:α→List Value}{A:Option Addr}{c:Nat}{l:List α}(h:Blk w b T lc)(ho:Own w B0 E sz enc A c l)(hg:w.grownBy w' (Value.slice A l.length c).ownBlock)(hb:b<B0) : Blk w' b T lc:=
 (hg.block b h.lt fun hk=>by have:=(ho.block hk.symm).1;omega).trans h
theorem Blk.appA{w w':World}{b:Nat}{T:TypeId}{lc:List Value}{A:Option Addr}{n c:Nat}(h:Blk w b T lc)(hg:w.grownBy w' (Value.slice A n c).ownBlock)(ha:Away A b) : Blk w' b T lc:=by
 refine (hg.block b h.lt fun hk=>?_).trans h
 cases A with
 | none=>simp [Value.ownBlock] at hk
 | some q=>
  simp only [Value.ownBlock,Option.some.injEq] at hk
  exact ha q rfl hk.symm
theorem Rd.appT{β:Type}{w w':World}{B:Nat}{E':TypeId}{enc':β→List Value}{A':Option Addr}{l':List β}{B0:Nat}{E:TypeId}{sz:Nat}{enc:α→List Value}{A:Option Addr}{c:Nat}{l:List α}(h:Rd w B E' enc' A' l')(ho:Own w B0 E sz enc A c l)(hg:w.grownBy w' (Value.slice A l.length c).ownBlock)(hT:Nat.beq E E'=false) : Rd w' B E' enc' A' l':=
 h.chg fun k cs fz _ hh=>hg.block k (Array.getElem?_eq_some_iff.1 hh).1 fun hk=>by
  obtain ⟨_,_,cs',fz',h3⟩:=ho.block hk.symm
  rw [h3] at hh
  injection hh with hh
  injection hh with _ e _
  subst e
  simp at hT
theorem Rd.appB{β:Type}{w w':World}{B:Nat}{E':TypeId}{enc':β→List Value}{A':Option Addr}{l':List β}{B0:Nat}{E:TypeId}{sz:Nat}{enc:α→List Value}{A:Option Addr}{c:Nat}{l:List α}(h:Rd w B E' enc' A' l')(ho:Own w B0 E sz enc A c l)(hg:w.grownBy w' (Value.slice A l.length c).ownBlock)(hB:B≤B0) : Rd w' B E' enc' A' l':=
 h.chg fun k cs fz hk hh=>hg.block k (Array.getElem?_eq_some_iff.1 hh).1 fun hk'=>by have:=(ho.block hk'.symm).1;omega
theorem Own.appT{β:Type}{w w':World}{B1:Nat}{E':TypeId}{sz':Nat}{enc':β→List Value}{A':Option Addr}{c':Nat}{l':List β}{B0:Nat}{E:TypeId}{sz:Nat}{enc:α→List Value}{A:Option Addr}{c:Nat}{l:List α}(h:Own w B1 E' sz' enc' A' c' l')(ho:Own w B0 E sz enc A c l)(hg:w.grownBy w' (Value.slice A l.length c).ownBlock)(hT:Nat.beq E E'=false) : Own w' B1 E' sz' enc' A' c' l':=by
 refine ⟨h.1,?_⟩
 rcases h.2 with h1|⟨g,cap,cur,h1,h2,h3,h4⟩
 ·exact .inl h1
 ·refine .inr ⟨g,cap,cur,h1,h2,(hg.block g (Array.getElem?_eq_some_iff.1 h3).1 fun hk=>?_).trans h3,h4⟩
  obtain ⟨_,_,cs',fz',h5⟩:=ho.block hk.symm
  rw [h5] at h3
  injection h3 with h3
  injection h3 with _ e _
  subst e
  simp at hT
theorem Below.app{w0 w w':World}{B B0:Nat}{E:TypeId}{sz:Nat}{enc:α→List Value}{A:Option Addr}{c:Nat}{l:List α}(h:Below B w0 w)(ho:Own w B0 E sz enc A c l)(hg:w.grownBy w' (Value.slice A l.length c).ownBlock)(hB:B≤B0)(hs:B≤w.heap.size) : Below B w0 w':=
 h.grown hg hs fun k hk=>by have:=(ho.block hk).1;omega
def InfoT(P:Program)(E:TypeId)(sz bytes:Nat) : Prop:=∃ i z,P.info? E=some i∧i.zero=some z∧i.size=sz∧i.bytes=bytes∧z.cells.size=sz∧0<sz
section
variable {P : Program} {a : Act} {w : World} {n : Nat} {e : Env} {ty : TypeId} {pos : String} {af : Array Edge} {g : Option (Nat × Bool)} {d : Option Tmp}
theorem Xif{T E:TypeId}{sz bytes B B0:Nat}{x y:Operand}{enc:α→List Value}{A A2:Option Addr}{c c2:Nat}{l l2:List α}(hf:Fr a n e)(hx:ev e x=some (.slice A l.length c))(hy:ev e y=some (.slice A2 l2.length c2))
  (hT:SliceT P T E) (hi:InfoT P E sz bytes) (hsz:∀ x,(enc x).length=sz) (hone:∀ x,(enc x).all one=true) (ho:Own w B0 E sz enc A c l) (hr:Rd w B E enc A2 l2) (h63:l.length+l2.length≤maxLen) (hbytes:(l.length+l2.length)*bytes≤140737488355328) (hB0:B0≤w.heap.size) :
  Ef P ⟨d,.call ⟨.builtin .append,#[x,y],#[T,T]⟩,ty,pos,af,g⟩ a w (Appended w B0 E sz enc A c l l2):=by
 obtain ⟨i,z,hi1,hi2,hi3,hi4,hi5,hi6⟩:=hi
 by_cases hl2:l2=[]
 ·subst hl2
  have hrun:(Builtin.append_ #[T,T] ty #[.slice A l.length c,.slice A2 0 c2]).run P w=.ok (.slice A l.length c) w:=by
   rcases ho.2 with ⟨h1,h2⟩|⟨gg,cap,cur,h1,h2,h3,h4,h5,h6,h7⟩
   ·injection h1 with h1 h1' h1''
    subst h1
    cases A2<;>simp [Builtin.append_,X0t hT,sizeOf,typeInfo,hi1,Builtin.lenOf,Builtin.firstCells,loadCells,loadCellsFrom,h1',h1'']
   ·injection h1 with h1 _ h1''
    subst h1;subst h1''
    cases A2<;>simp [Builtin.append_,X0t hT,sizeOf,typeInfo,hi1,Builtin.lenOf,Builtin.firstCells,loadCells,loadCellsFrom,h4,storeCells]
  refine (Ef.of_run (v:=.slice A l.length c) (w':=w) ?_).mono fun v w' ⟨e1,e2⟩=>?_
  ·simp only [List.length_nil] at hy
   simp [execOp,resolve,invoke,builtin,hf.ev hx,hf.ev hy,hrun]
  ·subst e1;subst e2
   exact ⟨A,c,by simp,by simpa using ho,World.grownBy.refl w' _,fun _ _ h=>h⟩
 ·obtain ⟨b,off,cs,fz,rfl,h2,h3,h4⟩:=hr hl2;obtain ⟨v',w',hrun,hown,hg,_,hat⟩:=run_append_own_at (P:=P) w B0 T ty E i z sz bytes hT hi1 hi2 hi3 hi4 hi5 hi6 (.slice A l.length c) l.length (l.flatMap enc) ho ⟨b,off,none⟩ l2.length c2 (l2.flatMap enc) (Xz hsz l2)
   (fun j u hu=>by
    have:=h4 j u hu
    rw [X1m]
    simp [World.cell?,h3,this])
   (fun u hu=>by
    obtain ⟨x,_,hx⟩:=List.mem_flatMap.1 hu
    have:=List.all_eq_true.1 (hone x) u hx
    cases u<;>simp_all [Value.oneCell',one]) h63 hbytes hB0
  refine (Ef.of_run (v:=v') (w':=w') ?_).mono fun v w1 ⟨e1,e2⟩=>?_
  ·simp [execOp,resolve,invoke,builtin,hf.ev hx,hf.ev hy,hrun]
  ·subst e1;subst e2
   have hv:∃ A' c',v=.slice A' (l++l2).length c':=by
    rcases hown.2 with ⟨h1,h2⟩|⟨gg,cap,cur,h1,_⟩
    ·exact ⟨none,0,by rw [h1,List.length_append,h2]⟩
    ·exact ⟨_,_,by rw [h1,List.length_append]⟩
   obtain ⟨A',c',rfl⟩:=hv
   refine ⟨A',c',rfl,?_,hg,fun b hb ha p hp=>?_⟩
   rotate_left
   ·subst hp
    rcases hat with hat|hat
    ·cases A with
     | none=>simp [Value.ownBlock] at hat
     | some q=>
      simp only [Value.ownBlock,Option.some.injEq] at hat
      rw [hat]
      exact ha q rfl
    ·simp only [Value.ownBlock,Option.some.injEq] at hat
     rw [hat]
     omega
   unfold Own
   rw [List.length_append,List.flatMap_append]
   simpa [List.length_append] using hown
theorem X11{T E:TypeId}{sz bytes B B0:Nat}{x y:Operand}{enc:α→List Value}{A A2:Option Addr}{c c2:Nat}{l l2:List α}(hx:ev e x=some (.slice A l.length c))(hy:ev e y=some (.slice A2 l2.length c2))(hT:SliceT P T E)(hi:InfoT P E sz bytes)(hsz:∀ x,(enc x).length=sz)(hone:∀ x,(enc x).all one=true)(ho:Own w B0 E sz enc A c l)(hr:Rd w B E enc A2 l2)(h63:l.length+l2.length≤maxLen)(hbytes:(l.length+l2.length)*bytes≤140737488355328)(hB0:B0≤w.heap.size) : EfW P ⟨d,.call ⟨.builtin .append,#[x,y],#[T,T]⟩,ty,pos,af,g⟩ n e w (Appended w B0 E sz enc A c l l2):=fun a hf=>Xif hf hx hy hT hi hsz hone ho hr h63 hbytes hB0
theorem X6d{T E:TypeId}{sz:Nat}{x y:Operand}{p:Addr}{c:Nat}{k:Nat}{i:Int}{m:Nat}(hf:Fr a n e)(hx:ev e x=some (.slice (some p) m c))(hy:ev e y=some (.int .i64 i))(hT:SliceT P T E)(hs:SizeT P E sz)
  (hi:i=(k:Int)) (hk:k<m) : Ev P ⟨d,.indexAddr T x y,ty,pos,af,g⟩ a w (.pointer (some (p.add (k*sz)))):=fun w' _=>by
 subst hi
 have h1:=X0t (P:=P) hT w';have h2:=run_sizeOf' hs w'
 have h3:((k:Int)<(m:Int))=True:=by simp;omega
 simp [execOp,Instr.indexAt,asIntOf,hf.ev hx,hf.ev hy,h1,h2,hk]
end
end
section
variable {P : Program} {Q : Exit → Act → World → Prop} {a : Act} {w : World} {n : Nat} {e : Env}
theorem Xk{c:Operand}{x y:Code}{b:Bool}(hf:Fr a n e)(hc:ev e c=some (.bool b))(ht:b=true→x.wp P Q a w)(he:b=false→y.wp P Q a w) : (Code.cond c x y).wp P Q a w:=
 wp_cond_split (hf.ev hc) ht he
theorem X64{c:Operand}{x y:Code}(hf:Fr a n e)(hc:ev e c=some (.bool false))(ht:y.wp P Q a w) : (Code.cond c x y).wp P Q a w:=wp_cond_false (hf.ev hc) ht
theorem X0o{c:Code}(X:Act→World→Prop)(h:c.wp P (Exit.then X Q) a w)(hX:∀ a w,X a w→Q .normal a w) : c.wp P Q a w:=
 Code.wp_mono (fun e a w hq=>by cases e<;>first|exact hX _ _ hq|exact hq) h
theorem X0b{σ:Type}{c:Code}(I:σ→Act→World→Prop)(μ:σ→Nat)(s:σ)(h0:I s a w)
  (round:∀ s a w,I s a w→c.wp P (Exit.then (fun a' w'=>∃ s',I s' a' w'∧μ s'<μ s) Q) a w) : (Code.loop c).wp P Q a w:=by
 intro b k cs
 have key:∀ n s a w,μ s=n→I s a w→∃ e a' w',Q e a' w'∧Arrives P (lone (b.at a (.code c::.inLoop c::k)) cs w) b k cs e a' w':=by
  intro n
  induction n using Nat.strongRecOn with
  | _ n ih=>
   intro s a w hn hI;obtain ⟨e,a₁,w₁,hq,harr⟩:=round s a w hI b (.inLoop c::k) cs
   cases e with
   | normal=>
    obtain ⟨s',hI₁,hlt⟩:=hq;obtain ⟨e₂,a₂,w₂,hq₂,harr₂⟩:=ih (μ s') (hn▸hlt) s' a₁ w₁ rfl hI₁;exact ⟨e₂,a₂,w₂,hq₂,.of_steps (Steps.trans harr (.one step_inLoop)) harr₂⟩
   | exit id=>exact ⟨_,a₁,w₁,hq,.pass (x:=.inLoop c) rfl (fun _ _=>.inl (by simp)) harr⟩
   | goto l=>exact ⟨_,a₁,w₁,hq,.pass (x:=.inLoop c) rfl (fun _ _=>.inl (by simp)) harr⟩
   | ret=>exact ⟨_,a₁,w₁,hq,.pass (x:=.inLoop c) rfl (fun _ _=>.inl (by simp)) harr⟩
   | panic ch=>exact ⟨_,a₁,w₁,hq,.pass (x:=.inLoop c) rfl (fun _ _=>.inl (by simp)) harr⟩
   | outgrown=>exact ⟨_,a₁,w₁,hq,.pass (x:=.inLoop c) rfl (fun _ _=>.inl (by simp)) harr⟩
 obtain ⟨e,a',w',hq,harr⟩:=key _ s a w rfl h0;exact ⟨e,a',w',hq,.of_steps (.one step_loop) harr⟩
def evp(e:Env) : List (Nat×Operand)→Option (List (Nat×Value))
 | []=>some []
 | (i,x)::l=>match ev e x,evp e l with
  | some v,some vs=>some ((i,v)::vs)
  | _,_=>none
theorem Fr.evp(hf:Fr a n e) : ∀ {l:List (Nat×Operand)} {vs:List (Nat×Value)},evp e l=some vs→l.map (fun p=>(p.1,a.eval p.2))=vs:=by
 intro l
 induction l with
 | nil=>intro vs h;simpa [YtblmmikapnflcaaGreatDoor.evp] using h
 | cons x l ih=>
  obtain ⟨i,x⟩:=x;intro vs h
  simp only [YtblmmikapnflcaaGreatDoor.evp] at h
  split at h
  ·rename_i v us h1 h2
   injection h with h
   subst h
   simp [hf.ev h1,ih h2]
  ·cases h
def numb:Nat→List Value→List (Nat×Value)
 | _,[]=>[]
 | k,v::l=>(k,v)::numb (k+1) l
section
variable {ty : TypeId} {pos : String} {af : Array Edge} {g : Option (Nat × Bool)} {d : Option Tmp}
theorem Xld{T:TypeId}{parts:List (Nat×Operand)}{ps:List (Nat×Value)}{cs:List Value}(hf:Fr a n e)(hp:evp e parts=some ps)(hb:∀ w,(Instr.build T ps.toArray).run P w=.ok (.agg cs.toArray) w) :
  Ev P ⟨d,.build T parts.toArray,ty,pos,af,g⟩ a w (.agg cs.toArray):=fun w' _=>by
 have h1:=hf.evp hp;have h2:=hb w'
 simp only [execOp,List.map_toArray]
 rw [show (List.map (fun x:Nat×Operand=>match x with|(i,x)=>(i,a.eval x)) parts)=ps from h1]
 simp [h2]
theorem Xg{T:TypeId}{parts:List (Nat×Operand)}{ps:List (Nat×Value)}{cs:List Value}(hp:evp e parts=some ps)(hb:∀ w,(Instr.build T ps.toArray).run P w=.ok (.agg cs.toArray) w) : EvW P ⟨d,.build T parts.toArray,ty,pos,af,g⟩ n e w (.agg cs.toArray):=fun a hf=>Xld hf hp hb
theorem Xao(off:Nat) : ∀ (l:List Value) (m:Nat) (cs:Array Value),off+m+l.length≤cs.size→((l.zipIdx m).foldl (fun cs p=>cs.setIfInBounds (off+p.2) p.1) cs).toList=splice cs.toList (off+m) l
 | [],m,cs,_=>by simp [splice]
 | v::l,m,cs,h=>by
  simp only [List.length_cons] at h
  simp only [List.zipIdx_cons,List.foldl_cons]
  rw [Xao off l (m+1) _ (by simp;omega)]
  unfold splice
  have e1:off+(m+1)=off+m+1:=by omega
  rw [e1,Array.toList_setIfInBounds,List.take_succ_eq_append_getElem (by simp;omega),List.take_set_of_le (by omega),List.getElem_set_self,List.drop_set_of_lt (by omega)]
  simp only [List.length_cons,List.append_assoc,List.cons_append,List.nil_append]
  rw [show off+m+1+l.length=off+m+(l.length+1) from by omega]
theorem Xa1(sz:Nat) : ∀ (vs:List Value) (k:Nat) (cells:Array Value),(∀ v ∈ vs,v.cells.size=sz)→cells.size=(k+vs.length)*sz→
  Instr.fill (fun i=>some (i*sz,sz)) cells (numb k vs)=some (cells.toList.take (k*sz)++vs.flatMap fun v=>v.cells.toList).toArray
 | [],k,cells,_,h=>by
  simp only [List.length_nil,Nat.add_zero] at h
  have h9:cells.toList.take (k*sz)=cells.toList:=List.take_of_length_le (by simp [h])
  simp [numb,Instr.fill,h9]
 | v::vs,k,cells,h1,h=>by
  have hv:=h1 v (by simp)
  simp only [List.length_cons] at h
  have h2:k*sz+sz≤cells.size:=by rw [h,Nat.add_mul,Nat.add_mul];omega
  simp only [numb,Instr.fill,hv]
  rw [if_neg (by simp;omega)]
  have e1:(v.cells.zipIdx.foldl (fun cs (p:Value×Nat)=>cs.setIfInBounds (k*sz+p.2) p.1) cells).toList=splice cells.toList (k*sz) v.cells.toList:=by
   have:=Xao (k*sz) v.cells.toList 0 cells (by simp [hv];omega)
   rw [← Array.foldl_toList,Array.toList_zipIdx]
   simpa using this
  have hs:(v.cells.zipIdx.foldl (fun cs (p:Value×Nat)=>cs.setIfInBounds (k*sz+p.2) p.1) cells).size=cells.size:=by
   rw [← Array.length_toList,e1]
   simp [splice,hv]
   omega
  have ih:=Xa1 sz vs (k+1) (v.cells.zipIdx.foldl (fun cs (p:Value×Nat)=>cs.setIfInBounds (k*sz+p.2) p.1) cells) (fun u hu=>h1 u (by simp [hu])) (by rw [hs,h];congr 1;omega)
  refine Eq.trans ih ?_
  rw [e1]
  congr 2
  simp only [List.flatMap_cons]
  rw [← List.append_assoc]
  congr 1
  unfold splice
  have e2:(cells.toList.take (k*sz)++v.cells.toList).length=(k+1)*sz:=by simp [hv,Nat.add_mul];omega
  rw [← e2,List.take_left]
theorem X9a{T E sz bytes:Nat}{k:Nat}{parts:List (Nat×Operand)}{vs zs:List Value}(hf:Fr a n e)(hp:evp e parts=some (numb 0 vs))(hT:SliceT P T E)(hi:InfoT P E sz bytes)(hv:(vs.all (fun v=>Nat.beq v.cells.size sz)&&Nat.beq vs.length k&&Nat.ble (k*sz) 1000)=true)(hz:vs.flatMap (fun v=>v.cells.toList)=zs) :
  Ef P ⟨d,.buildSlice T k parts.toArray,ty,pos,af,g⟩ a w (fun v w'=>∃ b,v=.slice (some ⟨b,0,none⟩) k k∧w.heap.size≤b∧Below w.heap.size w w'∧Blk w' b E zs):=by
 subst hz
 obtain ⟨i,z,hi1,hi2,hi3,hi4,hi5,hi6⟩:=hi
 simp only [Bool.and_eq_true,List.all_eq_true] at hv
 obtain ⟨⟨hv1,hv2⟩,hv3⟩:=hv
 have hk:vs.length=k:=Nat.eq_of_beq_eq_true hv2
 have hk3:k*sz≤1000:=Nat.le_of_ble_eq_true hv3
 have h1:=hf.evp hp
 have hfill:=Xa1 sz vs 0 ((Array.range (k*sz)).map fun j=>z.cells[j % z.cells.size]!) (fun v hv=>Nat.eq_of_beq_eq_true (hv1 v hv)) (by simp [hk])
 simp only [Nat.zero_mul,List.take_zero,List.nil_append] at hfill
 refine (Ef.of_run (v:=.slice (some ⟨w.heap.size,0,none⟩) k k) (w':=w.alloc (.cells (vs.flatMap fun v=>v.cells.toList).toArray E)) ?_).mono fun v w' ⟨e1,e2⟩=>?_
 ·simp only [execOp,List.map_toArray]
  rw [show (List.map (fun x:Nat×Operand=>match x with|(i,x)=>(i,a.eval x)) parts)=numb 0 vs from h1]
  have h24:¬ (16777216<k*sz):=by omega
  by_cases h0:k*sz=0
  ·have hf0:Instr.fill (fun i=>some (i*sz,sz)) #[] (numb 0 vs)=some (vs.flatMap fun v=>v.cells.toList).toArray:=by
    rw [← hfill,h0]
    congr 1
    simp [Array.range_zero']
   simp [Instr.buildSlice,X0t hT,sizeOf,typeInfo,hi1,hi3,h0,newRow,newObj,Sem.run,Array.range_zero',hf0]
  ·simp [Instr.buildSlice,X0t hT,sizeOf,typeInfo,hi1,hi3,h24,h0,zeroValue,hi2,newRow,newObj,Sem.run,hfill]
 ·subst e1;subst e2
  exact ⟨_,rfl,Nat.le_refl _,(Below.refl _ _).alloc (Nat.le_refl _) _,X75 w E _⟩
theorem X5{T E sz bytes:Nat}{k:Nat}{parts:List (Nat×Operand)}{vs zs:List Value}(hp:evp e parts=some (numb 0 vs))(hT:SliceT P T E)(hi:InfoT P E sz bytes)(hv:(vs.all (fun v=>Nat.beq v.cells.size sz)&&Nat.beq vs.length k&&Nat.ble (k*sz) 1000)=true)(hz:vs.flatMap (fun v=>v.cells.toList)=zs) : EfW P ⟨d,.buildSlice T k parts.toArray,ty,pos,af,g⟩ n e w (fun v w'=>∃ b,v=.slice (some ⟨b,0,none⟩) k k∧w.heap.size≤b∧Below w.heap.size w w'∧Blk w' b E zs):=fun a hf=>X9a hf hp hT hi hv hz
theorem Xuc{x y:Operand}{i j:Int}{ts:Array TypeId}(hf:Fr a n e)(hx:ev e x=some (.int .i64 i))(hy:ev e y=some (.int .i64 j)) : Ev P ⟨d,.call ⟨.builtin .max,#[x,y],ts⟩,ty,pos,af,g⟩ a w (.int .i64 (max i j)):=fun w' _=>by
 simp [execOp,resolve,invoke,builtin,Builtin.max_,Builtin.max2,hf.ev hx,hf.ev hy,Int.max_def]
 split<;>simp<;>omega
theorem Xz5{x y:Operand}{i j:Int}{ts:Array TypeId}(hx:ev e x=some (.int .i64 i))(hy:ev e y=some (.int .i64 j)) : EvW P ⟨d,.call ⟨.builtin .max,#[x,y],ts⟩,ty,pos,af,g⟩ n e w (.int .i64 (max i j)):=fun a hf=>Xuc hf hx hy
end
theorem X1{t:Nat}{e:Env}{b b':Bool}(h:look t e=some (.bool b))(hb:b=b') : look t e=some (.bool b'):=hb▸h
theorem Xi{α:Type}{l:List α}{k:Nat}(h:k<l.length) : ∃ u,l[k]? = some u:=⟨l[k],List.getElem?_eq_getElem h⟩
section
variable {α : Type} {ops : Array Oper} {rest : List Oper} {ty : TypeId} {pos : String} {af : Array Edge} {g : Option (Nat × Bool)} {d : Nat}
theorem Rd.top{B:Nat}{E:TypeId}{enc:α→List Value}{A:Option Addr}{l:List α}(h:Rd w B E enc A l) : Rd w w.heap.size E enc A l:=fun hl=>by
 obtain ⟨b,off,cs,fz,h1,h2,h3,h4⟩:=h hl;exact ⟨b,off,cs,fz,h1,(Array.getElem?_eq_some_iff.1 h3).1,h3,h4⟩
theorem Xpt{T E E2:TypeId}{sz B:Nat}{x y:Operand}{enc:α→List Value}{A:Option Addr}{c:Nat}{l:List α}{k:Nat}{i:Int}{u:α}(hf:Fr a n e)(hw:Want ops ⟨some d,.indexAddr T x y,ty,pos,af,g⟩ e)(hn:Nat.blt d n=true)
  (hx:ev e x=some (.slice A l.length c)) (hy:ev e y=some (.int .i64 i)) (hT:SliceT P T E) (hs:SizeT P E sz) (hsz:∀ x,(enc x).length=sz) (hr:Rd w B E2 enc A l) (hk:l[k]? = some u) (hi:i=(k:Int))
  (h:∀ a' p,At w p (enc u)→Fr a' n ((d,.pointer (some p))::e)→wpList P ops Q rest a' w) : wpList P ops Q (⟨some d,.indexAddr T x y,ty,pos,af,g⟩::rest) a w:=by
 obtain ⟨p,rfl,hat⟩:=hr.at hsz hk;exact Xuk hf hw rfl hn (X6d hf hx hy hT hs hi (List.getElem?_eq_some_iff.1 hk).1) fun a' hf'=>h a' _ hat hf'
theorem Xoh{Q:Act→World→Prop}{tl:Nat→Bool}{fuel:Nat}{done:List Nat}{T E E2:TypeId}{sz B:Nat}{x y:Operand}{enc:α→List Value}{A:Option Addr}{c:Nat}{l:List α}{k:Nat}{i:Int}{u:α}(j:Nat)
  (ho:ops[j]? = some ⟨some d,.indexAddr T x y,ty,pos,af,g⟩) (hm:mayFirst ops done j=true) (ht:tailWaits ops tl j=true) (hf:Fr a n e) (hw:Want ops ⟨some d,.indexAddr T x y,ty,pos,af,g⟩ e) (hn:Nat.blt d n=true)
  (hx:ev e x=some (.slice A l.length c)) (hy:ev e y=some (.int .i64 i)) (hT:SliceT P T E) (hs:SizeT P E sz) (hsz:∀ x,(enc x).length=sz) (hr:Rd w B E2 enc A l) (hk:l[k]? = some u) (hi:i=(k:Int))
  (h:∀ a' p,At w p (enc u)→Fr a' n ((d,.pointer (some p))::e)→wpS P ops none tl Q fuel (mask ops (j::done)) a' w) : wpS P ops none tl Q (fuel+1) (mask ops done) a w:=by
 obtain ⟨p,rfl,hat⟩:=hr.at hsz hk;exact Xti j ho hm ht hf hw rfl hn (X6d hf hx hy hT hs hi (List.getElem?_eq_some_iff.1 hk).1) fun a' hf'=>h a' _ hat hf'
end
theorem X3{K:Act→World→Prop}(h:Q .ret a w) : Exit.then K Q .ret a w:=h
theorem Xr{id:Nat}(h:Q .ret a w) : Exit.inBlock id Q .ret a w:=by simp [Exit.inBlock,h]
theorem Xt{id:Nat}(h:Q .normal a w) : Exit.inBlock id Q .normal a w:=by simp [Exit.inBlock,h]
theorem Xl{K:Act→World→Prop}{id:Nat}(h:Q (.exit id) a w) : Exit.then K Q (.exit id) a w:=h
theorem Xp{K:Act→World→Prop}(h:K a w) : Exit.then K Q .normal a w:=h
theorem X0a{id:Nat}(h:Q .normal a w) : Exit.inBlock id Q (.exit id) a w:=by simp [Exit.inBlock,h]
theorem Xhp{id id':Nat}(hne:Nat.beq id' id=false)(h:Q (.exit id') a w) : Exit.inBlock id Q (.exit id') a w:=by
 have:id'≠id:=by rintro rfl;simp at hne
 simp [Exit.inBlock,this,h]
def ResV(P:Program)(w:World)(e:Env) : ResultVar→Value→Prop
 | .tmp t,v=>look t e=some v
 | .cell t T,v=>∃ p,look t e=some (.pointer (some p))∧((OneT P T∧∃ l,At w p (v::l))∨∃ k l,AggT P T k∧At w p l∧l.length=k∧v=.agg l.toArray)
theorem ResV.cellN{t T k:Nat}{p:Addr}{l:List Value}(h:look t e=some (.pointer (some p)))(hA:AggT P T k)(hc:At w p l)(hl:l.length=k) : ResV P w e (.cell t T) (.agg l.toArray):=⟨p,h,.inr ⟨k,l,hA,hc,hl,rfl⟩⟩
theorem X5l(fn:Func)(tmps:Array Value) : ∃ f:ResultVar→Sem Value,(∀ t,f (.tmp t)=pure (tmps.getD t undef))∧(∀ t T,f (.cell t T)=(do loadVar T (← asAddr (tmps.getD t undef))))∧
  results fn tmps=(do let vs ← fn.results.mapM f;pure (if h:vs.size=1 then vs[0] else .tuple vs)):=⟨_,fun _=>rfl,fun _ _=>rfl,rfl⟩
theorem ResV.run{r:ResultVar}{v:Value}{f:ResultVar→Sem Value}(hf:Fr a n e)(h:ResV P w e r v)(f1:∀ t,f (.tmp t)=pure (a.tmps.getD t undef))(f2:∀ t T,f (.cell t T)=(do loadVar T (← asAddr (a.tmps.getD t undef)))) : (f r).run P w=.ok v w:=by
 cases r with
 | tmp t=>
  have:=hf.h _ _ h
  simp [f1,this]
 | cell t T=>
  obtain ⟨p,h1,h2⟩:=h;have h3:=hf.h _ _ h1
  rcases h2 with ⟨h4,l,h5⟩|⟨k,l,h4,h5,h6,rfl⟩
  ·simp [f2,h3,asAddr,X3x h4 h5]
  ·simp [f2,h3,asAddr,X3w h4 h5 h6]
section
variable {fn : Func} {R : Ending → World → Prop}
theorem Xv{r:ResultVar}{v:Value}(hf:Fr a n e)(hr:fn.results = #[r])(h:ResV P w e r v) : (results fn a.tmps).run P w=.ok v w:=by
 obtain ⟨f,f1,f2,h0⟩:=X5l fn a.tmps;have h1:=h.run hf f1 f2
 rw [h0,hr]
 simp [h1]
theorem X0w{r1 r2:ResultVar}{v1 v2:Value}(hf:Fr a n e)(hr:fn.results = #[r1,r2])(h1:ResV P w e r1 v1)(h2:ResV P w e r2 v2) : (results fn a.tmps).run P w=.ok (.tuple #[v1,v2]) w:=by
 obtain ⟨f,f1,f2,h0⟩:=X5l fn a.tmps;have h1:=h1.run hf f1 f2;have h2:=h2.run hf f1 f2
 rw [h0,hr]
 simp [h1,h2]
theorem Xxy{r1 r2 r3:ResultVar}{v1 v2 v3:Value}(hf:Fr a n e)(hr:fn.results = #[r1,r2,r3])(h1:ResV P w e r1 v1)(h2:ResV P w e r2 v2)(h3:ResV P w e r3 v3) : (results fn a.tmps).run P w=.ok (.tuple #[v1,v2,v3]) w:=by
 obtain ⟨f,f1,f2,h0⟩:=X5l fn a.tmps;have h1:=h1.run hf f1 f2;have h2:=h2.run hf f1 f2;have h3:=h3.run hf f1 f2
 rw [h0,hr]
 simp [h1,h2,h3]
theorem X2{v:Value}{R':Value→World→Prop}(hf:Fr a n e)(hr:(results fn a.tmps).run P w=.ok v w)(h:R' v w) : bodyPost P fn (fun e w'=>∃ v,e=.returned v∧R' v w') .ret a w:=⟨hf.d,v,hr,v,rfl,h⟩
end
theorem enter{f:FuncId}{fn:Func}{c:Code}{args:List Value}{R:Value→World→Prop}(hf:P.funcs[f]? = some fn)(hb:fn.body=some c)(n:Nat)(hn:fn.ntmps=n)(hl:Nat.ble args.length n=true)
  (h:∀ a,Fr a n (zipFrom 0 args)→c.wp P (bodyPost P fn (fun e w'=>∃ v,e=.returned v∧R v w')) a w) : Ret P f args w R:=Xny hf hb n hn hl h
end
section
variable {P : Program} {ops : Array Oper} {Q : Exit → Act → World → Prop} {w : World} {rest : List Oper} {o : Oper} {op : Op} {ty : TypeId} {pos : String} {af : Array Edge} {g : Option (Nat × Bool)} {n d : Nat} {e : Env} {v : Value} {R : Value → World → Prop} {x : Operand}
def WL(P:Program)(ops:Array Oper)(Q:Exit→Act→World→Prop)(l:List Oper)(n:Nat)(e:Env)(w:World) : Prop:=∀ a,Fr a n e→wpList P ops Q l a w
theorem bs:(∀ b,(true&&b)=b)∧(∀ b,(false&&b)=false)∧(∀ b,(true||b)=true)∧∀ b,(false||b)=b:=⟨fun _=>rfl,fun _=>rfl,fun _=>rfl,fun _=>rfl⟩
theorem Vc{f:FuncId}{xs:List Operand}{vs:List Value}{ts:Array TypeId}{D:Option Tmp}(h:Ret P f vs w R)(hF:FuncF P f)(hx:evs e xs=some vs:=by rfl) : EfW P ⟨D,.call ⟨.value (.func f),xs.toArray,ts⟩,ty,pos,af,g⟩ n e w R:=X1x hx hF h
theorem Vn{T t k b:Nat}{l:List Value}{D:Option Tmp}(hA:AggT P t k)(hb:Blk w b T l)(hx:ev e x=some (.pointer (some ⟨b,0,none⟩)):=by rfl)(hl:l.length=k:=by rfl) : EvW P ⟨D,.load t x,ty,pos,af,g⟩ n e w (.agg l.toArray):=X07 hx hA (hb.at 0) hl
theorem Vd{T f k b off:Nat}{D:Option Tmp}(hx:ev e x=some (.pointer (some ⟨b,off,none⟩)))(hF:FieldT P T f k)(m:Nat)(hk:off+k=m:=by rfl) : EvW P ⟨D,.fieldAddr T x f,ty,pos,af,g⟩ n e w (.pointer (some ⟨b,m,none⟩)):=Xqc hx hF hk
theorem Vu{t T:TypeId}{y:Operand}{b off k:Nat}{l l' vs:List Value}{D:Option Tmp}(hx:ev e x=some (.pointer (some ⟨b,off,none⟩)))(hy:ev e y=some v)(hs:SizeT P t k)(hb:Blk w b T l)(hvs:v.cells.toList=vs:=by rfl)(hk:Nat.beq vs.length k=true:=by rfl)(h1:vs.all one=true:=by rfl)(hl:Nat.ble (off+k) l.length=true:=by rfl)(hl':splice l off vs=l':=by rfl) : EfW P ⟨D,.store t x y,ty,pos,af,g⟩ n e w (Stored w b T l'):=Xba hx hy hs hb hvs hk h1 hl hl'
theorem Vw{t T:TypeId}{y:Operand}{b k:Nat}{l:List Value}{D:Option Tmp}(vs:List Value)(hs:SizeT P t k)(hb:Blk w b T l)(hx:ev e x=some (.pointer (some ⟨b,0,none⟩)):=by rfl)(hy:ev e y=some v:=by rfl)(hvs:v.cells.toList=vs:=by rfl)(hk:Nat.beq vs.length k=true:=by rfl)(h1:vs.all one=true:=by rfl)(hl:Nat.ble (0+k) l.length=true:=by rfl)(hl':splice l 0 vs=vs:=by rfl) : EfW P ⟨D,.store t x y,ty,pos,af,g⟩ n e w (Stored w b T vs):=Xba hx hy hs hb hvs hk h1 hl hl'
theorem Ze(hr:EvW P ⟨some d,op,ty,pos,af,none⟩ n e w v)(h:WL P ops Q rest n ((d,v)::e) w)(hn:Nat.blt d n=true:=by rfl) : WL P ops Q (⟨some d,op,ty,pos,af,none⟩::rest) n e w:=fun a hf=>l_e hf hn (hr a hf) h
theorem Zm(hx:ev e x=some v)(h:WL P ops Q rest n ((d,v)::e) w)(hn:Nat.blt d n=true:=by rfl) : WL P ops Q (⟨some d,.move x,ty,pos,af,none⟩::rest) n e w:=fun _ hf=>Xym hf hx hn h
theorem Za(hx:ev e x=some v)(h:WL P ops Q rest n ((d,v)::e) w)(hn:Nat.blt d n=true:=by rfl) : WL P ops Q (⟨some d,.assign x,ty,pos,af,none⟩::rest) n e w:=fun _ hf=>Xyl hf hx hn h
theorem Zf(hr:EfW P ⟨some d,op,ty,pos,af,none⟩ n e w R)(h:∀ v w',R v w'→WL P ops Q rest n ((d,v)::e) w')(hn:Nat.blt d n=true:=by rfl) : WL P ops Q (⟨some d,op,ty,pos,af,none⟩::rest) n e w:=fun a hf=>l_f hf hn (hr a hf) fun a' v w' hR hf'=>h v w' hR a' hf'
theorem Zo(hr:EfW P ⟨none,op,ty,pos,af,none⟩ n e w R)(h:∀ v w',R v w'→WL P ops Q rest n e w') : WL P ops Q (⟨none,op,ty,pos,af,none⟩::rest) n e w:=fun a hf=>Xyq hf (hr a hf) fun a' v w' hR hf'=>h v w' hR a' hf'
theorem Zv(hw:Want ops o e)(hr:EvW P o n e w v)(h:WL P ops Q rest n ((d,v)::e) w)(hd:o.dst=some d:=by rfl)(hn:Nat.blt d n=true:=by rfl) : WL P ops Q (o::rest) n e w:=fun a hf=>Xuk hf hw hd hn (hr a hf) h
theorem Zp(hw:Pass ops o e)(h:WL P ops Q rest n ((d,undef)::e) w)(hd:o.dst=some d:=by rfl)(hn:Nat.blt d n=true:=by rfl) : WL P ops Q (o::rest) n e w:=fun _ hf=>Xvr hf hw hd hn h
theorem Zk(hw:Want ops o e)(hr:EfW P o n e w R)(h:∀ v w',R v w'→WL P ops Q rest n ((d,v)::e) w')(hd:o.dst=some d:=by rfl)(hn:Nat.blt d n=true:=by rfl) : WL P ops Q (o::rest) n e w:=fun a hf=>Xki hf hw hd hn (hr a hf) fun a' v w' hR hf'=>h v w' hR a' hf'
theorem Zg(t:Nat){b:Bool}(_:look t e=some (.bool b))(h1:b=true→WL P ops Q rest n e w)(h2:b=false→WL P ops Q rest n e w) : WL P ops Q rest n e w:=by
 cases b
 ·exact h2 rfl
 ·exact h1 rfl
theorem Zn(h:∀ a,Fr a n e→Q .normal a w) : WL P ops Q [] n e w:=h
theorem Zr{a:Act}{id:Nat}{l:List Oper}(hf:Fr a n e)(h:WL P l.toArray Q l n e w) : (Code.region id l.toArray false).wp P Q a w:=wp_region_lit (h a hf)
theorem Zs{a:Act}{id:Nat}{l:List Oper}{c:Code}(hf:Fr a n e)(h:∀ K:Act→World→Prop,(∀ a w,c.wp P Q a w→K a w)→WL P l.toArray (Exit.then K Q) l n e w) : (Code.seq (Code.region id l.toArray false) c).wp P Q a w:=
 wp_seq_k fun K hK=>wp_region_lit (h K hK a hf)
theorem Zt{c:Code}{K:Act→World→Prop}(hK:∀ a w,c.wp P Q a w→K a w)(h:∀ a,Fr a n e→c.wp P Q a w) : WL P ops (Exit.then K Q) [] n e w:=fun a hf=>hK a w (h a hf)
theorem ZX{c1 c2:Code}{K:Act→World→Prop}(hK:∀ a w,(Code.seq c1 c2).wp P Q a w→K a w)(h:∀ a,Fr a n e→∀ K':Act→World→Prop,(∀ a w,c2.wp P Q a w→K' a w)→c1.wp P (Exit.then K' Q) a w) : WL P ops (Exit.then K Q) [] n e w:=fun a hf=>hK a w (wp_seq_k fun K' hK'=>h a hf K' hK')
theorem Zx{id:Nat}{l:List Oper}{c:Code}{K:Act→World→Prop}(hK:∀ a w,(Code.seq (Code.region id l.toArray false) c).wp P Q a w→K a w)(h:∀ a,Fr a n e→∀ K':Act→World→Prop,(∀ a w,c.wp P Q a w→K' a w)→WL P l.toArray (Exit.then K' Q) l n e w) : WL P ops (Exit.then K Q) [] n e w:=fun a hf=>hK a w (wp_seq_k fun K' hK'=>wp_region_lit (h a hf K' hK' a hf))
theorem Zi{α:Type}{T E E2:TypeId}{sz B k:Nat}{y:Operand}{enc:α→List Value}{A:Option Addr}{c:Nat}{l:List α}{i:Int}{u:α}(hw:Want ops ⟨some d,.indexAddr T x y,ty,pos,af,g⟩ e)(hx:ev e x=some (.slice A l.length c))(hy:ev e y=some (.int .i64 i))(hT:SliceT P T E)(hs:SizeT P E sz)(hsz:∀ x,(enc x).length=sz)(hr:Rd w B E2 enc A l)(hk:l[k]? = some u)(hi:i=(k:Int))
  (h:∀ p,At w p (enc u)→WL P ops Q rest n ((d,.pointer (some p))::e) w) (hn:Nat.blt d n=true:=by rfl) : WL P ops Q (⟨some d,.indexAddr T x y,ty,pos,af,g⟩::rest) n e w:=fun _ hf=>Xpt hf hw hn hx hy hT hs hsz hr hk hi fun a' p hp hf'=>h p hp a' hf'
end
section
variable {P : Program} {ops : Array Oper} {V : Option Nat} {tl : Nat → Bool} {Q : Act → World → Prop} {fuel : Nat} {done : List Nat} {w : World} {o : Oper} {op : Op} {ty : TypeId} {pos : String} {af : Array Edge} {g : Option (Nat × Bool)} {n d : Nat} {e : Env} {v : Value} {R : Value → World → Prop} {x : Operand}
def WS(P:Program)(ops:Array Oper)(V:Option Nat)(tl:Nat→Bool)(Q:Act→World→Prop)(m:Nat)(L:List Nat)(n:Nat)(e:Env)(w:World) : Prop:=∀ a,Fr a n e→wpS P ops V tl Q m (mask ops L) a w
def WR(P:Program)(ops:Array Oper)(V:Option Nat)(tl:Nat→Bool)(Q:Act→World→Prop)(i m:Nat)(L:List Nat)(n:Nat)(e:Env)(w:World) : Prop:=∀ a,Fr a n e→wpR P ops V tl i (wpS P ops V tl Q m (mask ops (i::L))) a w
theorem Yb{a:Act}{m:Nat}{L:List Nat}(hf:Fr a n e)(h:WS P ops V tl Q m L n e w) : wpS P ops V tl Q m (mask ops L) a w:=h a hf
theorem Ye(i:Nat)(hi:ops[i]? = some ⟨some d,op,ty,pos,af,none⟩)(hr:EvW P ⟨some d,op,ty,pos,af,none⟩ n e w v)(h:WS P ops none tl Q fuel (i::done) n ((d,v)::e) w)(hm:mayFirst ops done i=true:=by kernel_rfl)(ht:tailWaits ops tl i=true:=by kernel_rfl)(hn:Nat.blt d n=true:=by rfl) : WS P ops none tl Q (fuel+1) done n e w:=fun a hf=>s_e i hi hm ht hf hn (hr a hf) h
theorem Yo(i:Nat)(hi:ops[i]? = some ⟨some d,op,ty,pos,af,none⟩)(hr:∀ w,EvW P ⟨some d,op,ty,pos,af,none⟩ n e w v)(h:WS P ops V tl Q fuel (i::done) n ((d,v)::e) w)(hm:mayFirst ops done i=true:=by kernel_rfl)(hn:Nat.blt d n=true:=by rfl) : WS P ops V tl Q (fuel+1) done n e w:=fun a hf=>Xze i hi hm hf hn (fun w=>hr w a hf) h
theorem Yv(i:Nat)(hi:ops[i]? = some o)(hw:Want ops o e)(hr:EvW P o n e w v)(h:WS P ops none tl Q fuel (i::done) n ((d,v)::e) w)(hm:mayFirst ops done i=true:=by kernel_rfl)(ht:tailWaits ops tl i=true:=by kernel_rfl)(hd:o.dst=some d:=by rfl)(hn:Nat.blt d n=true:=by rfl) : WS P ops none tl Q (fuel+1) done n e w:=fun a hf=>Xti i hi hm ht hf hw hd hn (hr a hf) h
theorem Yw(i:Nat){b:Nat}(hi:ops[i]? = some o)(hw:Want ops o e)(hr:∀ w1,Only b w w1→EvW P o n e w1 v)(h:WS P ops (some b) tl Q fuel (i::done) n ((d,v)::e) w)(hm:mayFirst ops done i=true:=by kernel_rfl)(ht:tailWaits ops tl i=true:=by kernel_rfl)(hd:o.dst=some d:=by rfl)(hn:Nat.blt d n=true:=by rfl) : WS P ops (some b) tl Q (fuel+1) done n e w:=fun a hf=>Xvu i hi hm ht hf hw hd hn (fun w1 h1=>hr w1 h1 a hf) h
theorem Yu(i:Nat)(hi:ops[i]? = some o)(hw:Want ops o e)(hr:∀ w,EvW P o n e w v)(h:WS P ops V tl Q fuel (i::done) n ((d,v)::e) w)(hm:mayFirst ops done i=true:=by kernel_rfl)(hd:o.dst=some d:=by rfl)(hn:Nat.blt d n=true:=by rfl) : WS P ops V tl Q (fuel+1) done n e w:=fun a hf=>Xjz i hi hm hf hw hd hn (fun w=>hr w a hf) h
theorem Yp(i:Nat)(hi:ops[i]? = some o)(hw:Pass ops o e)(h:WS P ops V tl Q fuel (i::done) n ((d,undef)::e) w)(hm:mayFirst ops done i=true:=by kernel_rfl)(hd:o.dst=some d:=by rfl)(hn:Nat.blt d n=true:=by rfl) : WS P ops V tl Q (fuel+1) done n e w:=fun _ hf=>Xv9 i hi hm hf hw hd hn h
theorem Y1(i:Nat)(h:WR P ops V tl Q i fuel done n e w)(hr:Region.ready .any ops (mask ops done)=[i]:=by kernel_rfl) : WS P ops V tl Q (fuel+1) done n e w:=fun a hf=>Xy6 i hr (h a hf)
theorem Y2(i j:Nat)(hi:WR P ops V tl Q i fuel done n e w)(hj:WR P ops V tl Q j fuel done n e w)(hr:Region.ready .any ops (mask ops done)=[i,j]:=by kernel_rfl) : WS P ops V tl Q (fuel+1) done n e w:=fun a hf=>Xwu i j hr (hi a hf) (hj a hf)
theorem Y3(i j k:Nat)(hi:WR P ops V tl Q i fuel done n e w)(hj:WR P ops V tl Q j fuel done n e w)(hk:WR P ops V tl Q k fuel done n e w)(hr:Region.ready .any ops (mask ops done)=[i,j,k]:=by kernel_rfl) : WS P ops V tl Q (fuel+1) done n e w:=fun a hf=>Xpj i j k hr (hi a hf) (hj a hf) (hk a hf)
theorem Yd(h:∀ a,Fr a n e→Q a w)(hr:Region.ready .any ops (mask ops done)=[]:=by kernel_rfl) : WS P ops V tl Q fuel done n e w:=fun a hf=>Xvd hr (h a hf)
theorem Yf{i:Nat}(hi:ops[i]? = some o)(hw:Want ops o e)(hr:EfW P o n e w fun v w'=>(tl i=false→Keep V w w')∧R v w')(h:∀ v w',R v w'→WS P ops V tl Q fuel (i::done) n ((d,v)::e) w')(hd:o.dst=some d:=by rfl)(hn:Nat.blt d n=true:=by rfl) : WR P ops V tl Q i fuel done n e w:=fun a hf=>Xwd hi hf hw hd hn (hr a hf) fun a' v w' hR hf'=>h v w' hR a' hf'
theorem Yg{i:Nat}(hi:ops[i]? = some o)(hw:Want ops o e)(hr:EfW P o n e w fun v w'=>(tl i=false→Keep V w w')∧R v w')(h:∀ v w',R v w'→WS P ops V tl Q fuel (i::done) n e w')(hd:o.dst=none:=by rfl) : WR P ops V tl Q i fuel done n e w:=fun a hf=>Xvc hi hf hw hd (hr a hf) fun a' v w' hR hf'=>h v w' hR a' hf'
theorem Yq{i:Nat}(hi:ops[i]? = some o)(hw:Pass ops o e)(h:WS P ops V tl Q fuel (i::done) n ((d,undef)::e) w)(hd:o.dst=some d:=by rfl)(hn:Nat.blt d n=true:=by rfl) : WR P ops V tl Q i fuel done n e w:=fun _ hf=>Xuz hi hf hw hd hn h
theorem EfW.mono{R':Value→World→Prop}(h:EfW P o n e w R)(hr:∀ v w',R v w'→R' v w') : EfW P o n e w R':=fun a hf=>(h a hf).mono hr
theorem Uev(h:EvW P o n e w v) : EfW P o n e w (fun v' w'=>v'=v∧w=w'):=fun a hf=>Xlu (h a hf)
theorem Yt{i:Nat}(hi:ops[i]? = some o)(hw:Want ops o e)(ht:tl i=true)(hr:EfW P o n e w R)(h:∀ v w',R v w'→WS P ops V tl Q fuel (i::done) n ((d,v)::e) w')(hd:o.dst=some d:=by rfl)(hn:Nat.blt d n=true:=by rfl) : WR P ops V tl Q i fuel done n e w:=Yf hi hw (hr.mono fun _ _ h=>⟨fun h0=>absurd h0 (by rw [ht];decide),h⟩) h hd hn
theorem Yh{i:Nat}(hi:ops[i]? = some o)(hw:Want ops o e)(ht:tl i=true)(hr:EfW P o n e w R)(h:∀ v w',R v w'→WS P ops V tl Q fuel (i::done) n e w')(hd:o.dst=none:=by rfl) : WR P ops V tl Q i fuel done n e w:=Yg hi hw (hr.mono fun _ _ h=>⟨fun h0=>absurd h0 (by rw [ht];decide),h⟩) h hd
theorem Yk{i:Nat}(hi:ops[i]? = some o)(hw:Want ops o e)(hr:EfW P o n e w R)(hk:∀ v w',R v w'→Below w.heap.size w w')(h:∀ v w',R v w'→WS P ops none tl Q fuel (i::done) n ((d,v)::e) w')(hd:o.dst=some d:=by rfl)(hn:Nat.blt d n=true:=by rfl) : WR P ops none tl Q i fuel done n e w:=Yf hi hw (hr.mono fun _ _ h=>⟨fun _=>hk _ _ h,h⟩) h hd hn
theorem Yz{i:Nat}{u:Value}(hi:ops[i]? = some o)(hw:Want ops o e)(hr:EfW P o n e w (fun v w'=>v=u∧w=w'))(h:WS P ops V tl Q fuel (i::done) n ((d,u)::e) w)(hd:o.dst=some d:=by rfl)(hn:Nat.blt d n=true:=by rfl) : WR P ops V tl Q i fuel done n e w:=Yf hi hw (hr.mono fun _ _ h=>⟨fun _=>by rw [← h.2];exact Keep.refl _ _,h⟩) (by rintro _ _ ⟨rfl,rfl⟩;exact h) hd hn
theorem Yl(t:Nat){b:Bool}(_:look t e=some (.bool b))(h1:b=true→WS P ops V tl Q fuel done n e w)(h2:b=false→WS P ops V tl Q fuel done n e w) : WS P ops V tl Q fuel done n e w:=by
 cases b
 ·exact h2 rfl
 ·exact h1 rfl
theorem Yc(D:List Nat)(m:Nat)(X:Act→World→Prop)(h1:∀ a w,X a w→wpS P ops V tl Q m (mask ops D) a w)
  (h2:(∀ L a w,sameL L D=true→X a w→wpS P ops V tl Q m (mask ops L) a w)→WS P ops V tl Q fuel done n e w) : WS P ops V tl Q fuel done n e w:=
 h2 fun L a w h hx=>by rw [Xiw h];exact h1 a w hx
theorem Yi{α:Type}{T E E2:TypeId}{sz B k:Nat}{y:Operand}{enc:α→List Value}{A:Option Addr}{c:Nat}{l:List α}{i:Int}{u:α}(j:Nat)(ho:ops[j]? = some ⟨some d,.indexAddr T x y,ty,pos,af,g⟩)(hw:Want ops ⟨some d,.indexAddr T x y,ty,pos,af,g⟩ e)(hx:ev e x=some (.slice A l.length c))(hy:ev e y=some (.int .i64 i))(hT:SliceT P T E)(hs:SizeT P E sz)(hsz:∀ x,(enc x).length=sz)(hr:Rd w B E2 enc A l)(hk:l[k]? = some u)(hi:i=(k:Int))
  (h:∀ p,At w p (enc u)→WS P ops none tl Q fuel (j::done) n ((d,.pointer (some p))::e) w) (hm:mayFirst ops done j=true:=by kernel_rfl) (ht:tailWaits ops tl j=true:=by kernel_rfl) (hn:Nat.blt d n=true:=by rfl) : WS P ops none tl Q (fuel+1) done n e w:=fun _ hf=>Xoh j ho hm ht hf hw hn hx hy hT hs hsz hr hk hi fun a' p hp hf'=>h p hp a' hf'
end
end Go.Proofs.YtblmmikapnflcaaGreatDoor
namespace Go.Proofs.YtblmmikapnflcaaGreatDoor
theorem X0r{P:Program}{t n:Nat}(h:(P.info? t).map (fun i=>i.size)=some n) : ∃ i,P.info? t=some i∧i.size=n:=by
 cases hi:P.info? t with
 | none=>rw [hi] at h;cases h
 | some i=>rw [hi] at h;injection h with h;exact ⟨i,rfl,h⟩
theorem X1s{P:Program}{t:Nat}{z:Option Value}(h:(P.info? t).map (fun i=>i.zero)=some z) : ∃ i,P.info? t=some i∧i.zero=z:=by
 cases hi:P.info? t with
 | none=>rw [hi] at h;cases h
 | some i=>rw [hi] at h;injection h with h;exact ⟨i,rfl,h⟩
theorem X30{P:Program}{t sz bytes:Nat}{z:Value}(h:(P.info? t).map (fun i=>(i.size,i.bytes,i.zero))=some (sz,bytes,some z))(hz:z.cells.size=sz)(h0:0<sz) : InfoT P t sz bytes:=by
 cases hi:P.info? t with
 | none=>rw [hi] at h;cases h
 | some i=>
  rw [hi] at h
  simp only [Option.map_some,Option.some.injEq,Prod.mk.injEq] at h
  exact ⟨i,z,hi,h.2.2,h.1,h.2.1,hz,h0⟩
theorem X0y{P:Program}{T f k:Nat}{fs:Array Field}{F:Field}(h:P.underlying T=some (.struct fs))(h1:fs[f]? = some F)(h2:F.offset=k){n:Nat}(h3:(P.info? F.type).map (fun i=>i.size)=some n)(h4:(n==0)=false) : FieldT P T f k:=by
 obtain ⟨i,hi,rfl⟩:=X0r h3;exact ⟨fs,F,i,h,h1,h2,hi,h4⟩
theorem X6 {P : Program} {f : FuncId} {fn : Func} (h : P.funcs[f]? = some fn) (h1 : (fn.name == "runtime.NumGoroutine") = false) (h2 : fn.body.isNone = false) : FuncF P f := ⟨fn, h, h1, h2⟩
theorem X7:OneT Tryz.prog 3:=⟨_,Tryz.underlying3,trivial⟩
theorem Xw5:OneT Tryz.prog 4:=⟨_,Tryz.underlying4,trivial⟩
theorem Xru:OneT Tryz.prog 40:=⟨_,Tryz.underlying40,trivial⟩
theorem X15:OneT Tryz.prog 26:=⟨_,Tryz.underlying26,trivial⟩
theorem X4d:OneT Tryz.prog 43:=⟨_,Tryz.underlying43,trivial⟩
theorem X2a:OneT Tryz.prog 31:=⟨_,Tryz.underlying31,trivial⟩
theorem X7p:OneT Tryz.prog 71:=⟨_,Tryz.underlying71,trivial⟩
theorem X1a:AggT Tryz.prog 46 3:=⟨⟨_,Tryz.underlying46,trivial⟩,X0r (by kernel_rfl)⟩
theorem Xdz:AggT Tryz.prog 42 2:=⟨⟨_,Tryz.underlying42,trivial⟩,X0r (by kernel_rfl)⟩
theorem X1l:AggT Tryz.prog 28 2:=⟨⟨_,Tryz.underlying28,trivial⟩,X0r (by kernel_rfl)⟩
theorem X0g:AggT Tryz.prog 115 3:=⟨⟨_,Tryz.underlying115,trivial⟩,X0r (by kernel_rfl)⟩
theorem Xvb:AggT Tryz.prog 132 3:=⟨⟨_,Tryz.underlying132,trivial⟩,X0r (by kernel_rfl)⟩
theorem X0e:AggT Tryz.prog 33 3:=⟨⟨_,Tryz.underlying33,trivial⟩,X0r (by kernel_rfl)⟩
theorem X0c:AggT Tryz.prog 93 4:=⟨⟨_,Tryz.underlying93,trivial⟩,X0r (by kernel_rfl)⟩
theorem Xm:AggT Tryz.prog 95 5:=⟨⟨_,Tryz.underlying95,trivial⟩,X0r (by kernel_rfl)⟩
theorem Xhn:AggT Tryz.prog 73 2:=⟨⟨_,Tryz.underlying73,trivial⟩,X0r (by kernel_rfl)⟩
theorem Xgu:AggT Tryz.prog 111 4:=⟨⟨_,Tryz.underlying111,trivial⟩,X0r (by kernel_rfl)⟩
theorem Xh6:AggT Tryz.prog 85 6:=⟨⟨_,Tryz.underlying85,trivial⟩,X0r (by kernel_rfl)⟩
theorem X1j:SizeT Tryz.prog 3 1:=X0r (by kernel_rfl)
theorem Xww:SizeT Tryz.prog 4 1:=X0r (by kernel_rfl)
theorem Xh9:SizeT Tryz.prog 26 1:=X0r (by kernel_rfl)
theorem X14:SizeT Tryz.prog 46 3:=X0r (by kernel_rfl)
theorem Xdo:SizeT Tryz.prog 43 1:=X0r (by kernel_rfl)
theorem Xcm:SizeT Tryz.prog 28 2:=X0r (by kernel_rfl)
theorem X0p:SizeT Tryz.prog 115 3:=X0r (by kernel_rfl)
theorem Xul:SizeT Tryz.prog 132 3:=X0r (by kernel_rfl)
theorem Xfj:SizeT Tryz.prog 31 1:=X0r (by kernel_rfl)
theorem X17:SizeT Tryz.prog 33 3:=X0r (by kernel_rfl)
theorem X16:SizeT Tryz.prog 93 4:=X0r (by kernel_rfl)
theorem X01:SizeT Tryz.prog 95 5:=X0r (by kernel_rfl)
theorem X7m:SizeT Tryz.prog 73 2:=X0r (by kernel_rfl)
theorem Xbn:SizeT Tryz.prog 111 4:=X0r (by kernel_rfl)
theorem Xou:SizeT Tryz.prog 85 6:=X0r (by kernel_rfl)
theorem z_3:ZeroT Tryz.prog 3 (.int .i64 0):=X1s (by kernel_rfl)
theorem X2l:ZeroT Tryz.prog 46 (.agg #[.int .i64 0,.slice none 0 0,.slice none 0 0]):=X1s (by kernel_rfl)
theorem Xjp:ZeroT Tryz.prog 28 (.agg #[.int .i64 0,.slice none 0 0]):=X1s (by kernel_rfl)
theorem X2i:ZeroT Tryz.prog 115 (.agg #[.int .i64 0,.int .i64 0,.int .i64 0]):=X1s (by kernel_rfl)
theorem X1n:ZeroT Tryz.prog 33 (.agg #[.int .i64 0,.int .i64 0,.slice none 0 0]):=X1s (by kernel_rfl)
theorem X1v:ZeroT Tryz.prog 93 (.agg #[.int .i64 0,.int .i64 0,.int .i64 0,.int .i64 0]):=X1s (by kernel_rfl)
theorem X1i:ZeroT Tryz.prog 95 (.agg #[.int .i64 0,.int .i64 0,.int .i64 0,.int .i64 0,.int .i64 0]):=X1s (by kernel_rfl)
theorem Xnz:ZeroT Tryz.prog 73 (.agg #[.map none,.slice none 0 0]):=X1s (by kernel_rfl)
theorem X37:ZeroT Tryz.prog 111 (.agg #[.slice none 0 0,.int .i64 0,.int .i64 0,.slice none 0 0]):=X1s (by kernel_rfl)
theorem Xv2:ZeroT Tryz.prog 85 (.agg #[.map none,.slice none 0 0,.map none,.slice none 0 0,.map none,.slice none 0 0]):=X1s (by kernel_rfl)
theorem Xgj:FieldT Tryz.prog 46 0 0:=X0y (n:=1) Tryz.underlying46 rfl rfl (by kernel_rfl) rfl
theorem X50:FieldT Tryz.prog 46 1 1:=X0y (n:=1) Tryz.underlying46 rfl rfl (by kernel_rfl) rfl
theorem X2r:FieldT Tryz.prog 46 2 2:=X0y (n:=1) Tryz.underlying46 rfl rfl (by kernel_rfl) rfl
theorem Xot:FieldT Tryz.prog 42 0 0:=X0y (n:=1) Tryz.underlying42 rfl rfl (by kernel_rfl) rfl
theorem Xhj:FieldT Tryz.prog 42 1 1:=X0y (n:=1) Tryz.underlying42 rfl rfl (by kernel_rfl) rfl
theorem X1u:FieldT Tryz.prog 28 0 0:=X0y (n:=1) Tryz.underlying28 rfl rfl (by kernel_rfl) rfl
theorem X0v:FieldT Tryz.prog 28 1 1:=X0y (n:=1) Tryz.underlying28 rfl rfl (by kernel_rfl) rfl
theorem X0n:FieldT Tryz.prog 115 0 0:=X0y (n:=1) Tryz.underlying115 rfl rfl (by kernel_rfl) rfl
theorem X0f:FieldT Tryz.prog 115 1 1:=X0y (n:=1) Tryz.underlying115 rfl rfl (by kernel_rfl) rfl
theorem X0s:FieldT Tryz.prog 115 2 2:=X0y (n:=1) Tryz.underlying115 rfl rfl (by kernel_rfl) rfl
theorem Xo1:FieldT Tryz.prog 132 0 0:=X0y (n:=1) Tryz.underlying132 rfl rfl (by kernel_rfl) rfl
theorem Xkk:FieldT Tryz.prog 132 1 1:=X0y (n:=1) Tryz.underlying132 rfl rfl (by kernel_rfl) rfl
theorem Xmu:FieldT Tryz.prog 132 2 2:=X0y (n:=1) Tryz.underlying132 rfl rfl (by kernel_rfl) rfl
theorem X1w:FieldT Tryz.prog 33 0 0:=X0y (n:=1) Tryz.underlying33 rfl rfl (by kernel_rfl) rfl
theorem X1p:FieldT Tryz.prog 33 1 1:=X0y (n:=1) Tryz.underlying33 rfl rfl (by kernel_rfl) rfl
theorem X1g:FieldT Tryz.prog 33 2 2:=X0y (n:=1) Tryz.underlying33 rfl rfl (by kernel_rfl) rfl
theorem X0j:FieldT Tryz.prog 93 0 0:=X0y (n:=1) Tryz.underlying93 rfl rfl (by kernel_rfl) rfl
theorem X0m:FieldT Tryz.prog 93 1 1:=X0y (n:=1) Tryz.underlying93 rfl rfl (by kernel_rfl) rfl
theorem X0l:FieldT Tryz.prog 93 2 2:=X0y (n:=1) Tryz.underlying93 rfl rfl (by kernel_rfl) rfl
theorem X0k:FieldT Tryz.prog 93 3 3:=X0y (n:=1) Tryz.underlying93 rfl rfl (by kernel_rfl) rfl
theorem X1e:FieldT Tryz.prog 95 0 0:=X0y (n:=4) Tryz.underlying95 rfl rfl (by kernel_rfl) rfl
theorem X1c:FieldT Tryz.prog 95 1 4:=X0y (n:=1) Tryz.underlying95 rfl rfl (by kernel_rfl) rfl
theorem X6j:FieldT Tryz.prog 148 0 0:=X0y (n:=1) Tryz.underlying148 rfl rfl (by kernel_rfl) rfl
theorem X56:FieldT Tryz.prog 73 0 0:=X0y (n:=1) Tryz.underlying73 rfl rfl (by kernel_rfl) rfl
theorem Xag:FieldT Tryz.prog 73 1 1:=X0y (n:=1) Tryz.underlying73 rfl rfl (by kernel_rfl) rfl
theorem Xa5:FieldT Tryz.prog 111 0 0:=X0y (n:=1) Tryz.underlying111 rfl rfl (by kernel_rfl) rfl
theorem Xj2:FieldT Tryz.prog 111 1 1:=X0y (n:=3) Tryz.underlying111 rfl rfl (by kernel_rfl) rfl
theorem X9t:FieldT Tryz.prog 85 0 0:=X0y (n:=6) Tryz.underlying85 rfl rfl (by kernel_rfl) rfl
theorem Xgx:SliceT Tryz.prog 40 132:=Tryz.underlying40
theorem Xf:SliceT Tryz.prog 26 115:=Tryz.underlying26
theorem X08:SliceT Tryz.prog 43 3:=Tryz.underlying43
theorem X24:SliceT Tryz.prog 136 43:=Tryz.underlying136
theorem X1d:SliceT Tryz.prog 31 95:=Tryz.underlying31
theorem X4e:SliceT Tryz.prog 246 93:=Tryz.underlying246
theorem X51:SliceT Tryz.prog 105 9:=Tryz.underlying105
theorem X3q:SliceT Tryz.prog 112 111:=Tryz.underlying112
theorem X1o:InfoT Tryz.prog 3 1 8:=X30 (z:=.int .i64 0) (by kernel_rfl) rfl (by decide)
theorem Xa9:InfoT Tryz.prog 9 1 16:=X30 (z:=.string ByteArray.empty) (by kernel_rfl) rfl (by decide)
theorem X41:InfoT Tryz.prog 43 1 24:=X30 (z:=.slice none 0 0) (by kernel_rfl) rfl (by decide)
theorem Xo:InfoT Tryz.prog 115 3 24:=X30 (z:=.agg #[.int .i64 0,.int .i64 0,.int .i64 0]) (by kernel_rfl) rfl (by decide)
theorem X4q:InfoT Tryz.prog 93 4 32:=X30 (z:=.agg #[.int .i64 0,.int .i64 0,.int .i64 0,.int .i64 0]) (by kernel_rfl) rfl (by decide)
theorem X2f:InfoT Tryz.prog 95 5 40:=X30 (z:=.agg #[.int .i64 0,.int .i64 0,.int .i64 0,.int .i64 0,.int .i64 0]) (by kernel_rfl) rfl (by decide)
theorem X6i:InfoT Tryz.prog 111 4 64:=X30 (z:=.agg #[.slice none 0 0,.int .i64 0,.int .i64 0,.slice none 0 0]) (by kernel_rfl) rfl (by decide)
theorem Xmr:FuncF Tryz.prog 21:=X6 Tryz.func21 (by decide +kernel) rfl
theorem Xwo:FuncF Tryz.prog 16:=X6 Tryz.func16 (by decide +kernel) rfl
theorem Xi2:FuncF Tryz.prog 18:=X6 Tryz.func18 (by decide +kernel) rfl
theorem Xx2:FuncF Tryz.prog 11:=X6 Tryz.func11 (by decide +kernel) rfl
theorem Xwb:FuncF Tryz.prog 14:=X6 Tryz.func14 (by decide +kernel) rfl
theorem Xx5:FuncF Tryz.prog 45:=X6 Tryz.func45 (by decide +kernel) rfl
theorem Xw0:FuncF Tryz.prog 48:=X6 Tryz.func48 (by decide +kernel) rfl
theorem Xs3:FuncF Tryz.prog 155:=X6 Tryz.func155 (by decide +kernel) rfl
theorem Xsb:FuncF Tryz.prog 88:=X6 Tryz.func88 (by decide +kernel) rfl
theorem Xi6:FuncF Tryz.prog 87:=X6 Tryz.func87 (by decide +kernel) rfl
theorem Xng:FuncF Tryz.prog 40:=X6 Tryz.func40 (by decide +kernel) rfl
theorem Xy0:FuncF Tryz.prog 46:=X6 Tryz.func46 (by decide +kernel) rfl
theorem Xl5:FuncF Tryz.prog 52:=X6 Tryz.func52 (by decide +kernel) rfl
theorem Xgi:FuncF Tryz.prog 129:=X6 Tryz.func129 (by decide +kernel) rfl
theorem Xmb:FuncF Tryz.prog 43:=X6 Tryz.func43 (by decide +kernel) rfl
theorem Xs7:FuncF Tryz.prog 44:=X6 Tryz.func44 (by decide +kernel) rfl
theorem X40:FuncF Tryz.prog 74:=X6 Tryz.func74 (by decide +kernel) rfl
theorem Xxd:FuncF Tryz.prog 83:=X6 Tryz.func83 (by decide +kernel) rfl
theorem X38:FuncF Tryz.prog 92:=X6 Tryz.func92 (by decide +kernel) rfl
theorem Xvv:FuncF Tryz.prog 187:=X6 Tryz.func187 (by decide +kernel) rfl
theorem Xwk:FuncF Tryz.prog 188:=X6 Tryz.func188 (by decide +kernel) rfl
theorem Xw9:FuncF Tryz.prog 189:=X6 Tryz.func189 (by decide +kernel) rfl
theorem Xgs:FuncF Tryz.prog 147:=X6 Tryz.func147 (by decide +kernel) rfl
theorem Xs0:FuncF Tryz.prog 86:=X6 Tryz.func86 (by decide +kernel) rfl
theorem X8v:FuncF Tryz.prog 127:=X6 Tryz.func127 (by decide +kernel) rfl
theorem Xui:FuncF Tryz.prog 72:=X6 Tryz.func72 (by decide +kernel) rfl
theorem Xn1:FuncF Tryz.prog 75:=X6 Tryz.func75 (by decide +kernel) rfl
theorem Xv6:FuncF Tryz.prog 93:=X6 Tryz.func93 (by decide +kernel) rfl
theorem Xue:FuncF Tryz.prog 94:=X6 Tryz.func94 (by decide +kernel) rfl
theorem Xfy:FuncF Tryz.prog 95:=X6 Tryz.func95 (by decide +kernel) rfl
theorem Xb2:FuncF Tryz.prog 143:=X6 Tryz.func143 (by decide +kernel) rfl
theorem Xn9:FuncF Tryz.prog 153:=X6 Tryz.func153 (by decide +kernel) rfl
theorem Xtd:FuncF Tryz.prog 104:=X6 Tryz.func104 (by decide +kernel) rfl
theorem Xur:FuncF Tryz.prog 211:=X6 Tryz.func211 (by decide +kernel) rfl
theorem Xmk:FuncF Tryz.prog 67:=X6 Tryz.func67 (by decide +kernel) rfl
theorem Xvk:FuncF Tryz.prog 150:=X6 Tryz.func150 (by decide +kernel) rfl
theorem Xbl:FuncF Tryz.prog 112:=X6 Tryz.func112 (by decide +kernel) rfl
theorem Xnk:FuncF Tryz.prog 115:=X6 Tryz.func115 (by decide +kernel) rfl
theorem X47:FuncF Tryz.prog 116:=X6 Tryz.func116 (by decide +kernel) rfl
theorem Xm3:FuncF Tryz.prog 152:=X6 Tryz.func152 (by decide +kernel) rfl
theorem Xjy:FuncF Tryz.prog 107:=X6 Tryz.func107 (by decide +kernel) rfl
theorem Xt3:FuncF Tryz.prog 140:=X6 Tryz.func140 (by decide +kernel) rfl
theorem Xn8:FuncF Tryz.prog 106:=X6 Tryz.func106 (by decide +kernel) rfl
theorem Xla:FuncF Tryz.prog 101:=X6 Tryz.func101 (by decide +kernel) rfl
theorem Xuw:FuncF Tryz.prog 154:=X6 Tryz.func154 (by decide +kernel) rfl
theorem Xk6:FuncF Tryz.prog 146:=X6 Tryz.func146 (by decide +kernel) rfl
theorem Xev:FuncF Tryz.prog 149:=X6 Tryz.func149 (by decide +kernel) rfl
theorem Xt5:FuncF Tryz.prog 141:=X6 Tryz.func141 (by decide +kernel) rfl
theorem Xfx:FuncF Tryz.prog 62:=X6 Tryz.func62 (by decide +kernel) rfl
theorem Xuy:FuncF Tryz.prog 162:=X6 Tryz.func162 (by decide +kernel) rfl
theorem Xc2:FuncF Tryz.prog 123:=X6 Tryz.func123 (by decide +kernel) rfl
theorem Xvi:FuncF Tryz.prog 124:=X6 Tryz.func124 (by decide +kernel) rfl
theorem Xf6:FuncF Tryz.prog 125:=X6 Tryz.func125 (by decide +kernel) rfl
theorem Xfe:FuncF Tryz.prog 69:=X6 Tryz.func69 (by decide +kernel) rfl
theorem Xnc:FuncF Tryz.prog 70:=X6 Tryz.func70 (by decide +kernel) rfl
theorem Xc1:FuncF Tryz.prog 167:=X6 Tryz.func167 (by decide +kernel) rfl
theorem Xtn:FuncF Tryz.prog 168:=X6 Tryz.func168 (by decide +kernel) rfl
theorem Xvm:FuncF Tryz.prog 169:=X6 Tryz.func169 (by decide +kernel) rfl
theorem X5i:FuncF Tryz.prog 117:=X6 Tryz.func117 (by decide +kernel) rfl
theorem Xty:FuncF Tryz.prog 172:=X6 Tryz.func172 (by decide +kernel) rfl
theorem Xfa:FuncF Tryz.prog 134:=X6 Tryz.func134 (by decide +kernel) rfl
theorem X8c:FuncF Tryz.prog 135:=X6 Tryz.func135 (by decide +kernel) rfl
theorem Xlo:FuncF Tryz.prog 113:=X6 Tryz.func113 (by decide +kernel) rfl
theorem Xuj:FuncF Tryz.prog 165:=X6 Tryz.func165 (by decide +kernel) rfl
theorem Xt6:FuncF Tryz.prog 183:=X6 Tryz.func183 (by decide +kernel) rfl
theorem Xub:FuncF Tryz.prog 163:=X6 Tryz.func163 (by decide +kernel) rfl
theorem Xuq:FuncF Tryz.prog 164:=X6 Tryz.func164 (by decide +kernel) rfl
theorem Xsu:FuncF Tryz.prog 185:=X6 Tryz.func185 (by decide +kernel) rfl
theorem Xv8:FuncF Tryz.prog 186:=X6 Tryz.func186 (by decide +kernel) rfl
theorem X4h:FuncF Tryz.prog 108:=X6 Tryz.func108 (by decide +kernel) rfl
theorem Xls:FuncF Tryz.prog 166:=X6 Tryz.func166 (by decide +kernel) rfl
theorem Xm9:FuncF Tryz.prog 222:=X6 Tryz.func222 (by decide +kernel) rfl
theorem Xuv:FuncF Tryz.prog 126:=X6 Tryz.func126 (by decide +kernel) rfl
theorem Xtr:FuncF Tryz.prog 128:=X6 Tryz.func128 (by decide +kernel) rfl
theorem X6n:FuncF Tryz.prog 130:=X6 Tryz.func130 (by decide +kernel) rfl
theorem Xb7:FuncF Tryz.prog 131:=X6 Tryz.func131 (by decide +kernel) rfl
theorem Xss:FuncF Tryz.prog 132:=X6 Tryz.func132 (by decide +kernel) rfl
theorem Xtf:FuncF Tryz.prog 133:=X6 Tryz.func133 (by decide +kernel) rfl
theorem Xv4:FuncF Tryz.prog 136:=X6 Tryz.func136 (by decide +kernel) rfl
theorem Xme:FuncF Tryz.prog 110:=X6 Tryz.func110 (by decide +kernel) rfl
theorem X6u:FuncF Tryz.prog 170:=X6 Tryz.func170 (by decide +kernel) rfl
theorem Xfg:FuncF Tryz.prog 173:=X6 Tryz.func173 (by decide +kernel) rfl
theorem Xtt:FuncF Tryz.prog 178:=X6 Tryz.func178 (by decide +kernel) rfl
theorem Xml:FuncF Tryz.prog 179:=X6 Tryz.func179 (by decide +kernel) rfl
theorem X5r:FuncF Tryz.prog 201:=X6 Tryz.func201 (by decide +kernel) rfl
theorem Xsj:FuncF Tryz.prog 202:=X6 Tryz.func202 (by decide +kernel) rfl
theorem Xaw:FuncF Tryz.prog 196:=X6 Tryz.func196 (by decide +kernel) rfl
theorem Xf4:FuncF Tryz.prog 197:=X6 Tryz.func197 (by decide +kernel) rfl
theorem Xjw:FuncF Tryz.prog 198:=X6 Tryz.func198 (by decide +kernel) rfl
theorem Xv3:FuncF Tryz.prog 199:=X6 Tryz.func199 (by decide +kernel) rfl
theorem Xsz:FuncF Tryz.prog 200:=X6 Tryz.func200 (by decide +kernel) rfl
theorem Xse:FuncF Tryz.prog 180:=X6 Tryz.func180 (by decide +kernel) rfl
theorem Xsy:FuncF Tryz.prog 181:=X6 Tryz.func181 (by decide +kernel) rfl
theorem Xbx:FuncF Tryz.prog 203:=X6 Tryz.func203 (by decide +kernel) rfl
theorem Xbk:FuncF Tryz.prog 208:=X6 Tryz.func208 (by decide +kernel) rfl
theorem Xvn:FuncF Tryz.prog 209:=X6 Tryz.func209 (by decide +kernel) rfl
theorem Xtp:FuncF Tryz.prog 221:=X6 Tryz.func221 (by decide +kernel) rfl
theorem Xu2:FuncF Tryz.prog 102:=X6 Tryz.func102 (by decide +kernel) rfl
theorem Xt7:FuncF Tryz.prog 103:=X6 Tryz.func103 (by decide +kernel) rfl
theorem Xva:FuncF Tryz.prog 220:=X6 Tryz.func220 (by decide +kernel) rfl
theorem Xk8:FuncF Tryz.prog 210:=X6 Tryz.func210 (by decide +kernel) rfl
theorem Xts:FuncF Tryz.prog 247:=X6 Tryz.func247 (by decide +kernel) rfl
theorem Xua:FuncF Tryz.prog 161:=X6 Tryz.func161 (by decide +kernel) rfl
theorem Xsr:FuncF Tryz.prog 227:=X6 Tryz.func227 (by decide +kernel) rfl
theorem Xq7:FuncF Tryz.prog 151:=X6 Tryz.func151 (by decide +kernel) rfl
theorem X7y:FuncF Tryz.prog 89:=X6 Tryz.func89 (by decide +kernel) rfl
theorem Xr3:FuncF Tryz.prog 79:=X6 Tryz.func79 (by decide +kernel) rfl
theorem X2p:FuncF Tryz.prog 71:=X6 Tryz.func71 (by decide +kernel) rfl
theorem X80:FuncF Tryz.prog 37:=X6 Tryz.func37 (by decide +kernel) rfl
theorem Xgl:FuncF Tryz.prog 38:=X6 Tryz.func38 (by decide +kernel) rfl
theorem Xb3:FuncF Tryz.prog 61:=X6 Tryz.func61 (by decide +kernel) rfl
theorem Xqd:FuncF Tryz.prog 64:=X6 Tryz.func64 (by decide +kernel) rfl
theorem Xqq:FuncF Tryz.prog 65:=X6 Tryz.func65 (by decide +kernel) rfl
theorem Xgc:FuncF Tryz.prog 66:=X6 Tryz.func66 (by decide +kernel) rfl
theorem Xql:FuncF Tryz.prog 68:=X6 Tryz.func68 (by decide +kernel) rfl
theorem Xqb:FuncF Tryz.prog 105:=X6 Tryz.func105 (by decide +kernel) rfl
theorem Xqj:FuncF Tryz.prog 111:=X6 Tryz.func111 (by decide +kernel) rfl
theorem Xqr:FuncF Tryz.prog 114:=X6 Tryz.func114 (by decide +kernel) rfl
theorem Xrc:FuncF Tryz.prog 118:=X6 Tryz.func118 (by decide +kernel) rfl
theorem Xhm:FuncF Tryz.prog 119:=X6 Tryz.func119 (by decide +kernel) rfl
theorem Xoo:FuncF Tryz.prog 171:=X6 Tryz.func171 (by decide +kernel) rfl
theorem Xqp:FuncF Tryz.prog 174:=X6 Tryz.func174 (by decide +kernel) rfl
theorem Xpl:FuncF Tryz.prog 204:=X6 Tryz.func204 (by decide +kernel) rfl
theorem Xol:FuncF Tryz.prog 24:=X6 Tryz.func24 (by decide +kernel) rfl
theorem Xgq:FuncF Tryz.prog 25:=X6 Tryz.func25 (by decide +kernel) rfl
theorem Xos:FuncF Tryz.prog 26:=X6 Tryz.func26 (by decide +kernel) rfl
theorem Xi8:FuncF Tryz.prog 27:=X6 Tryz.func27 (by decide +kernel) rfl
theorem Xox:FuncF Tryz.prog 47:=X6 Tryz.func47 (by decide +kernel) rfl
theorem Xq4:FuncF Tryz.prog 49:=X6 Tryz.func49 (by decide +kernel) rfl
theorem Xqn:FuncF Tryz.prog 50:=X6 Tryz.func50 (by decide +kernel) rfl
theorem Xqu:FuncF Tryz.prog 51:=X6 Tryz.func51 (by decide +kernel) rfl
theorem Xrl:FuncF Tryz.prog 53:=X6 Tryz.func53 (by decide +kernel) rfl
theorem Xq2:FuncF Tryz.prog 76:=X6 Tryz.func76 (by decide +kernel) rfl
theorem Xq8:FuncF Tryz.prog 77:=X6 Tryz.func77 (by decide +kernel) rfl
theorem Xpd:FuncF Tryz.prog 78:=X6 Tryz.func78 (by decide +kernel) rfl
theorem X81:FuncF Tryz.prog 80:=X6 Tryz.func80 (by decide +kernel) rfl
theorem Xg8:FuncF Tryz.prog 81:=X6 Tryz.func81 (by decide +kernel) rfl
theorem Xg3:FuncF Tryz.prog 82:=X6 Tryz.func82 (by decide +kernel) rfl
theorem Xb5:FuncF Tryz.prog 84:=X6 Tryz.func84 (by decide +kernel) rfl
theorem Xhz:FuncF Tryz.prog 85:=X6 Tryz.func85 (by decide +kernel) rfl
theorem Xge:FuncF Tryz.prog 90:=X6 Tryz.func90 (by decide +kernel) rfl
theorem Xrg:FuncF Tryz.prog 91:=X6 Tryz.func91 (by decide +kernel) rfl
theorem Xoy:FuncF Tryz.prog 96:=X6 Tryz.func96 (by decide +kernel) rfl
theorem Xr8:FuncF Tryz.prog 138:=X6 Tryz.func138 (by decide +kernel) rfl
theorem Xcd:FuncF Tryz.prog 139:=X6 Tryz.func139 (by decide +kernel) rfl
theorem Xqh:FuncF Tryz.prog 142:=X6 Tryz.func142 (by decide +kernel) rfl
theorem Xqg:FuncF Tryz.prog 144:=X6 Tryz.func144 (by decide +kernel) rfl
theorem Xbv:FuncF Tryz.prog 145:=X6 Tryz.func145 (by decide +kernel) rfl
theorem Xra:FuncF Tryz.prog 148:=X6 Tryz.func148 (by decide +kernel) rfl
theorem Xpe:FuncF Tryz.prog 182:=X6 Tryz.func182 (by decide +kernel) rfl
theorem Xp3:FuncF Tryz.prog 184:=X6 Tryz.func184 (by decide +kernel) rfl
theorem mixed:Tryz.prog.follows .mixedOrders=true:=by kernel_rfl
end Go.Proofs.YtblmmikapnflcaaGreatDoor
namespace Go.Proofs.YtblmmikapnflcaaGreatDoor
open Go.RowKit
section
variable {P : Program} {a : Act} {w : World} {n : Nat} {e : Env} {ty : TypeId} {pos : String} {af : Array Edge} {g : Option (Nat × Bool)} {d : Option Tmp}
variable {t t' : TypeId} {x y : Operand} {i j : Int}
theorem Xvq(hf:Fr a n e)(hx:ev e x=some (.int .i64 i))(hy:ev e y=some (.int .i64 j))(h0:(j==0)=false) : Ev P ⟨d,.binOp .rem t x y t',ty,pos,af,g⟩ a w (.int .i64 (i.tmod j)):=fun w' _=>by
 have h0':j≠0:=by rintro rfl;simp at h0
 simp [execOp,hf.ev hx,hf.ev hy,eqGuard,binOp,Op.intDiv,h0']
theorem Xe8(hx:ev e x=some (.int .i64 i))(hy:ev e y=some (.int .i64 j))(h0:(j==0)=false) : EvW P ⟨d,.binOp .rem t x y t',ty,pos,af,g⟩ n e w (.int .i64 (i.tmod j)):=fun a hf=>Xvq hf hx hy h0
theorem Xsp(hf:Fr a n e)(hx:ev e x=some (.int .i64 i))(hy:ev e y=some (.int .i64 j))(h0:(j==0)=false) : Ev P ⟨d,.binOp .quo t x y t',ty,pos,af,g⟩ a w (.int .i64 (IntKind.i64.wrap (i.tdiv j))):=fun w' _=>by
 have h0':j≠0:=by rintro rfl;simp at h0
 simp [execOp,hf.ev hx,hf.ev hy,eqGuard,binOp,Op.intDiv,h0']
theorem Xcu(hx:ev e x=some (.int .i64 i))(hy:ev e y=some (.int .i64 j))(h0:(j==0)=false) : EvW P ⟨d,.binOp .quo t x y t',ty,pos,af,g⟩ n e w (.int .i64 (IntKind.i64.wrap (i.tdiv j))):=fun a hf=>Xsp hf hx hy h0
theorem Xp9(hf:Fr a n e)(hx:ev e x=some (.int .i64 i))(hy:ev e y=some (.int .i64 j))(h1:-9223372036854775808≤i*j)(h2:i*j≤9223372036854775807) : Ev P ⟨d,.binOp .mul t x y t',ty,pos,af,g⟩ a w (.int .i64 (i*j)):=fun w' _=>by
 have h:IntKind.i64.wrap (i*j)=i*j:=IntWalk.i64_in _ ⟨h1,h2⟩
 simp [execOp,hf.ev hx,hf.ev hy,eqGuard,binOp,Op.intArith,h]
theorem Xcp(hx:ev e x=some (.int .i64 i))(hy:ev e y=some (.int .i64 j))(h1:-9223372036854775808≤i*j)(h2:i*j≤9223372036854775807) : EvW P ⟨d,.binOp .mul t x y t',ty,pos,af,g⟩ n e w (.int .i64 (i*j)):=fun a hf=>Xp9 hf hx hy h1 h2
theorem Xok{m k:Nat}(hf:Fr a n e)(hx:ev e x=some (.int .i64 (m:Int)))(hy:ev e y=some (.int .i64 (k:Int)))(hb:m*k≤4611686018427387904) : Ev P ⟨d,.binOp .mul t x y t',ty,pos,af,g⟩ a w (.int .i64 ((m*k:Nat) : Int)):=fun w' _=>by
 have h:IntKind.i64.wrap ((m:Int)*(k:Int))=((m*k:Nat) : Int):=by
  rw [← Int.natCast_mul]
  exact IntWalk.i64_in _ ⟨by omega,by omega⟩
 simp [execOp,hf.ev hx,hf.ev hy,eqGuard,binOp,Op.intArith,h]
theorem Xd3{m k:Nat}(hx:ev e x=some (.int .i64 (m:Int)))(hy:ev e y=some (.int .i64 (k:Int)))(hb:m*k≤4611686018427387904) : EvW P ⟨d,.binOp .mul t x y t',ty,pos,af,g⟩ n e w (.int .i64 ((m*k:Nat) : Int)):=fun a hf=>Xok hf hx hy hb
theorem Xlp{k:IntKind}{m:Nat}(hf:Fr a n e)(hx:ev e x=some (.int .i64 i))(hy:ev e y=some (.int k j))(hj:j=(m:Int))(hm:m≤64) : Ev P ⟨d,.binOp .shl t x y t',ty,pos,af,g⟩ a w (.int .i64 (IntKind.i64.wrap (i*2^m))):=fun w' _=>by
 subst hj
 have hm':min m 64=m:=by omega
 simp [execOp,hf.ev hx,hf.ev hy,eqGuard,binOp,Op.shift,IntKind.bits,hm']
theorem Xl0{k:IntKind}{m:Nat}(hx:ev e x=some (.int .i64 i))(hy:ev e y=some (.int k j))(hj:j=(m:Int))(hm:m≤64) : EvW P ⟨d,.binOp .shl t x y t',ty,pos,af,g⟩ n e w (.int .i64 (IntKind.i64.wrap (i*2^m))):=fun a hf=>Xlp hf hx hy hj hm
theorem Xsn{k:IntKind}{m:Nat}(hf:Fr a n e)(hx:ev e x=some (.int .i64 i))(hy:ev e y=some (.int k j))(hj:j=(m:Int))(hm:m≤64) : Ev P ⟨d,.binOp .shr t x y t',ty,pos,af,g⟩ a w (.int .i64 (i/2^m)):=fun w' _=>by
 subst hj
 have hm':min m 64=m:=by omega
 simp [execOp,hf.ev hx,hf.ev hy,eqGuard,binOp,Op.shift,IntKind.bits,hm']
theorem Xx7{k:IntKind}{m:Nat}(hx:ev e x=some (.int .i64 i))(hy:ev e y=some (.int k j))(hj:j=(m:Int))(hm:m≤64) : EvW P ⟨d,.binOp .shr t x y t',ty,pos,af,g⟩ n e w (.int .i64 (i/2^m)):=fun a hf=>Xsn hf hx hy hj hm
theorem Xiq(hf:Fr a n e)(hx:ev e x=some (.int .i64 i))(hy:ev e y=some (.int .i64 j)) : Ev P ⟨d,.binOp .andNot t x y t',ty,pos,af,g⟩ a w (.int .i64 (bits .andNot .i64 i j)):=fun w' _=>by
 simp [execOp,hf.ev hx,hf.ev hy,eqGuard,binOp,Op.intBits,bits]
theorem Xod(hx:ev e x=some (.int .i64 i))(hy:ev e y=some (.int .i64 j)) : EvW P ⟨d,.binOp .andNot t x y t',ty,pos,af,g⟩ n e w (.int .i64 (bits .andNot .i64 i j)):=fun a hf=>Xiq hf hx hy
theorem Xsm{p:Addr}(hf:Fr a n e)(hx:ev e x=some (.pointer (some p))) : Ev P ⟨d,.nilCheck x,ty,pos,af,g⟩ a w (.pointer (some p)):=fun w' _=>by
 simp [execOp,hf.ev hx]
theorem Xqt{p:Addr}(hx:ev e x=some (.pointer (some p))) : EvW P ⟨d,.nilCheck x,ty,pos,af,g⟩ n e w (.pointer (some p)):=fun a hf=>Xsm hf hx
end
theorem Rd.atV{α:Type}{w:World}{B b0:Nat}{E T0:TypeId}{enc:α→List Value}{A:Option Addr}{l:List α}{l0:List Value}{sz:Nat}(hsz:∀ x,(enc x).length=sz)(h:Rd w B E enc A l){k:Nat}{x:α}(hk:l[k]? = some x)
  (hb:Blk w b0 T0 l0) (hT:Nat.beq E T0=false) : ∃ p,A=some p∧At w (p.add (k*sz)) (enc x)∧(p.add (k*sz)).block≠b0:=by
 obtain ⟨p,h1,h2⟩:=h.at hsz hk
 refine ⟨p,h1,h2,?_⟩
 have hl:l≠[]:=by rintro rfl;simp at hk
 obtain ⟨b,off,cs,fz,h3,h4,h5,h6⟩:=h hl
 rw [h1] at h3
 injection h3 with h3
 subst h3
 rw [X5e]
 rintro rfl
 unfold Blk at hb
 rw [h5] at hb
 injection hb with hb
 injection hb with _ e
 subst e
 simp at hT
section
variable {P : Program} {a : Act} {w : World} {n : Nat} {e : Env} {α : Type} {ops : Array Oper} {ty : TypeId} {pos : String} {af : Array Edge} {g : Option (Nat × Bool)} {d : Nat}
theorem Xmn{b0:Nat}{l0:List Value}{Q:Act→World→Prop}{tl:Nat→Bool}{fuel:Nat}{done:List Nat}{T E T0:TypeId}{sz B:Nat}{x y:Operand}{enc:α→List Value}{A:Option Addr}{c:Nat}{l:List α}{k:Nat}{i:Int}{u:α}(j:Nat)
  (ho:ops[j]? = some ⟨some d,.indexAddr T x y,ty,pos,af,g⟩) (hm:mayFirst ops done j=true) (hf:Fr a n e) (hw:Want ops ⟨some d,.indexAddr T x y,ty,pos,af,g⟩ e) (hn:Nat.blt d n=true)
  (hb:Blk w b0 T0 l0) (hT0:Nat.beq E T0=false)
  (hx:ev e x=some (.slice A l.length c)) (hy:ev e y=some (.int .i64 i)) (hT:SliceT P T E) (hs:SizeT P E sz) (hsz:∀ x,(enc x).length=sz) (hr:Rd w B E enc A l) (hk:l[k]? = some u) (hi:i=(k:Int))
  (h:∀ a' p,At w p (enc u)→p.block≠b0→Fr a' n ((d,.pointer (some p))::e)→wpS P ops (some b0) tl Q fuel (mask ops (j::done)) a' w) : wpS P ops (some b0) tl Q (fuel+1) (mask ops done) a w:=by
 obtain ⟨p,rfl,hat,hne⟩:=hr.atV hsz hk hb hT0;exact Xjz j ho hm hf hw rfl hn (fun w=>X6d hf hx hy hT hs hi (List.getElem?_eq_some_iff.1 hk).1) fun a' hf'=>h a' _ hat hne hf'
theorem Ya{b0:Nat}{l0:List Value}{Q:Act→World→Prop}{tl:Nat→Bool}{fuel:Nat}{done:List Nat}{T E T0:TypeId}{sz B:Nat}{x y:Operand}{enc:α→List Value}{A:Option Addr}{c:Nat}{l:List α}{k:Nat}{i:Int}{u:α}(j:Nat)
  (ho:ops[j]? = some ⟨some d,.indexAddr T x y,ty,pos,af,g⟩) (hw:Want ops ⟨some d,.indexAddr T x y,ty,pos,af,g⟩ e) (hb:Blk w b0 T0 l0) (hT0:Nat.beq E T0=false)
  (hx:ev e x=some (.slice A l.length c)) (hy:ev e y=some (.int .i64 i)) (hT:SliceT P T E) (hs:SizeT P E sz) (hsz:∀ x,(enc x).length=sz) (hr:Rd w B E enc A l) (hk:l[k]? = some u) (hi:i=(k:Int))
  (h:∀ p,At w p (enc u)→p.block≠b0→WS P ops (some b0) tl Q fuel (j::done) n ((d,.pointer (some p))::e) w) (hm:mayFirst ops done j=true:=by kernel_rfl) (hn:Nat.blt d n=true:=by rfl) : WS P ops (some b0) tl Q (fuel+1) done n e w:=
 fun _ hf=>Xmn j ho hm hf hw hn hb hT0 hx hy hT hs hsz hr hk hi fun a' p hp hne hf'=>h p hp hne a' hf'
end
theorem Own.lower{α:Type}{w:World}{B0 B1:Nat}{E:TypeId}{sz:Nat}{enc:α→List Value}{A:Option Addr}{c:Nat}{l:List α}(h:Own w B0 E sz enc A c l)(hB:B1≤B0) : Own w B1 E sz enc A c l:=by
 refine ⟨h.1,?_⟩
 rcases h.2 with h1|⟨g,cap,cur,h1,h2,h3⟩
 ·exact .inl h1
 ·exact .inr ⟨g,cap,cur,h1,Nat.le_trans hB h2,h3⟩
section
variable {α : Type} {P : Program} {a : Act} {w : World} {n : Nat} {e : Env} {ty : TypeId} {pos : String} {af : Array Edge} {g : Option (Nat × Bool)} {d : Option Tmp}
theorem X9e{T E:TypeId}{sz bytes B B2:Nat}{x y:Operand}{enc:α→List Value}{A A2:Option Addr}{c c2:Nat}{l l2:List α}(hf:Fr a n e)(hx:ev e x=some (.slice A l.length c))(hy:ev e y=some (.slice A2 l2.length c2))
  (hT:SliceT P T E) (hi:InfoT P E sz bytes) (hsz:∀ x,(enc x).length=sz) (ho:Rd w B E enc A l) (hr:Rd w B2 E enc A2 l2) (hc:c=l.length) (hl:l≠[]) (hl2:l2≠[]) (h63:l.length+l2.length≤maxLen) (hbytes:(l.length+l2.length)*bytes≤140737488355328) :
  Ef P ⟨d,.call ⟨.builtin .append,#[x,y],#[T,T]⟩,ty,pos,af,g⟩ a w (fun v w'=>∃ A' c',v=.slice A' (l++l2).length c'∧Own w' w.heap.size E sz enc A' c' (l++l2)∧Below w.heap.size w w'):=by
 obtain ⟨i,z,hi1,hi2,rfl,rfl,hi5,hi6⟩:=hi;obtain ⟨b1,off1,cs1,fz1,rfl,_,k1,k2⟩:=ho hl;obtain ⟨b,off,cs,fz,rfl,h2,h3,h4⟩:=hr hl2;have hlen1:=Xz hsz l;have hlen2:=Xz hsz l2
 have hpos:0<l2.length:=List.length_pos_iff.2 hl2
 have h:=run_append_grow (P:=P) w T ty E i z hT hi1 hi2 ⟨b1,off1,none⟩ l.length c (l.flatMap enc) hlen1 (fun j u hu=>by
   have:=k2 j u hu
   rw [X1m]
   simp [World.cell?,k1,this])
  ⟨b,off,none⟩ l2.length c2 (l2.flatMap enc) hlen2 (fun j u hu=>by
   have:=h4 j u hu
   rw [X1m]
   simp [World.cell?,h3,this])
  (by omega) (by simp only [maxLen] at h63;omega) (growslice_fits (by omega) hbytes)
 refine (Ef.of_run (w':=w.drew.alloc (.cells ((l.flatMap enc).toArray++(l2.flatMap enc).toArray++Builtin.zeroCells z.cells (grownCap w (l.length+l2.length) c E-(l.length+l2.length))) E)) (v:=.slice (some ⟨w.heap.size,0,none⟩) (l.length+l2.length) (grownCap w (l.length+l2.length) c E)) ?_).mono fun v w' ⟨e1,e2⟩=>?_
 ·simp [execOp,resolve,invoke,builtin,hf.ev hx,hf.ev hy,h]
 ·subst e1;subst e2
  refine ⟨_,_,by rw [List.length_append],?_,((Below.refl _ _).drew).alloc (Nat.le_refl _) _⟩
  refine ⟨Xz hsz _,.inr ⟨w.heap.size,_,_,rfl,Nat.le_refl _,heap_alloc_new w.drew _,?_,grownCap_le_maxLen w _ _ E h63,?_,?_⟩⟩
  ·rw [List.length_append];exact grownCap_ge w _ _ E
  ·have hge:=grownCap_ge w (l.length+l2.length) c E
   simp only [Array.size_append,List.size_toArray,size_zeroCells,hi5,hlen1,hlen2,← Nat.add_mul]
   congr 1
   omega
  ·have e3:(l++l2).length*i.size=(l.flatMap enc++l2.flatMap enc).length:=by rw [List.length_append,List.length_append,hlen1,hlen2,Nat.add_mul]
   rw [e3]
   simp only [Array.toList_append,List.flatMap_append,List.append_assoc]
   rw [← List.append_assoc]
   exact List.take_left
theorem Xe4{T E:TypeId}{sz bytes B B2:Nat}{x y:Operand}{enc:α→List Value}{A A2:Option Addr}{c c2:Nat}{l l2:List α}(hx:ev e x=some (.slice A l.length c))(hy:ev e y=some (.slice A2 l2.length c2))(hT:SliceT P T E)(hi:InfoT P E sz bytes)(hsz:∀ x,(enc x).length=sz)(ho:Rd w B E enc A l)(hr:Rd w B2 E enc A2 l2)(hc:c=l.length)(hl:l≠[])(hl2:l2≠[])(h63:l.length+l2.length≤maxLen)(hbytes:(l.length+l2.length)*bytes≤140737488355328) : EfW P ⟨d,.call ⟨.builtin .append,#[x,y],#[T,T]⟩,ty,pos,af,g⟩ n e w (fun v w'=>∃ A' c',v=.slice A' (l++l2).length c'∧Own w' w.heap.size E sz enc A' c' (l++l2)∧Below w.heap.size w w'):=fun a hf=>X9e hf hx hy hT hi hsz ho hr hc hl hl2 h63 hbytes
end
abbrev wr(i:Int) : Int:=IntKind.i64.wrap i
theorem X0q{i:Int}(h1:-9223372036854775808≤i)(h2:i≤9223372036854775807) : wr i=i:=IntWalk.i64_in _ ⟨h1,h2⟩
structure Rg where (a b c d:Int) deriving DecidableEq
structure Dy where (num:Rg) (exp:Int) deriving DecidableEq
structure Gt where (k a b:Int) deriving DecidableEq
def encI(i:Int) : List Value:=[.int .i64 i]
def encR(r:Rg) : List Value:=[.int .i64 r.a,.int .i64 r.b,.int .i64 r.c,.int .i64 r.d]
def encD(x:Dy) : List Value:=[.int .i64 x.num.a,.int .i64 x.num.b,.int .i64 x.num.c,.int .i64 x.num.d,.int .i64 x.exp]
def encG(x:Gt) : List Value:=[.int .i64 x.k,.int .i64 x.a,.int .i64 x.b]
theorem X02:∀ x,(encI x).length=1:=fun _=>rfl
theorem Xcv:∀ x,(encR x).length=4:=fun _=>rfl
theorem X19:∀ x,(encD x).length=5:=fun _=>rfl
theorem Xb:∀ x,(encG x).length=3:=fun _=>rfl
theorem X2v:∀ x,(encI x).all one=true:=fun _=>rfl
theorem X61:∀ x,(encD x).all one=true:=fun _=>rfl
theorem X0d:∀ x,(encG x).all one=true:=fun _=>rfl
abbrev rV(r:Rg) : Value:=.agg #[.int .i64 r.a,.int .i64 r.b,.int .i64 r.c,.int .i64 r.d]
abbrev dV(x:Dy) : Value:=.agg #[.int .i64 x.num.a,.int .i64 x.num.b,.int .i64 x.num.c,.int .i64 x.num.d,.int .i64 x.exp]
abbrev gV(x:Gt) : Value:=.agg #[.int .i64 x.k,.int .i64 x.a,.int .i64 x.b]
def inR(n lo hi:Int) : Bool:=decide (lo≤n)&&decide (n≤hi)
def rOk(x:Rg) : Bool:=inR x.a (-1000000000) 1000000000&&inR x.b (-1000000000) 1000000000&&inR x.c (-1000000000) 1000000000&&inR x.d (-1000000000) 1000000000
def rAdd(x y:Rg) : Rg:=⟨wr (x.a+y.a),wr (x.b+y.b),wr (x.c+y.c),wr (x.d+y.d)⟩
def rNeg(x:Rg) : Rg:=⟨wr (-x.a),wr (-x.b),wr (-x.c),wr (-x.d)⟩
def rMul(x y:Rg) : Rg:=
 ⟨wr (wr (wr (wr (x.a*y.a)-wr (x.b*y.d))-wr (x.c*y.c))-wr (x.d*y.b)),
 wr (wr (wr (wr (x.a*y.b)+wr (x.b*y.a))-wr (x.c*y.d))-wr (x.d*y.c)),
 wr (wr (wr (wr (x.a*y.c)+wr (x.b*y.b))+wr (x.c*y.a))-wr (x.d*y.d)),
 wr (wr (wr (wr (x.a*y.d)+wr (x.b*y.c))+wr (x.c*y.b))+wr (x.d*y.a))⟩
def rRoot(x:Rg) : Rg:=⟨wr (x.b-x.d),wr (x.a+x.c),wr (x.b+x.d),wr (x.c-x.a)⟩
def rEven(x:Rg) : Bool:=(wr (x.a+x.c)).tmod 2==0&&(wr (x.b+x.d)).tmod 2==0
def rHalf(x:Rg) : Rg:=⟨wr ((rRoot x).a.tdiv 2),wr ((rRoot x).b.tdiv 2),wr ((rRoot x).c.tdiv 2),wr ((rRoot x).d.tdiv 2)⟩
def rOm(x:Rg) : Rg:=⟨wr (-x.d),x.a,x.b,x.c⟩
def rTurnN:Nat→Rg→Rg
 | 0,x=>x
 | k+1,x=>rTurnN k (rOm x)
def turns(k:Int) : Int:=(wr (k.tmod 8+8)).tmod 8
def rTurn(x:Rg)(k:Int) : Rg:=rTurnN (turns k).toNat x
def lowN:Nat→Rg→Rg×Nat
 | 0,x=>(x,0)
 | m+1,x=>if rEven x then lowN m (rHalf x) else (x,m+1)
def dLow(x:Rg)(exp:Int) : Dy:=⟨(lowN exp.toNat x).1,if 0<exp then ((lowN exp.toNat x).2:Int) else exp⟩
def dPow(k:Int) : Dy:=⟨rTurn ⟨1,0,0,0⟩ k,0⟩
def dNeg(x:Dy) : Dy:=⟨rNeg x.num,x.exp⟩
def dZ:Dy:=⟨⟨0,0,0,0⟩,0⟩
theorem X3j{x:Rg}{exp:Int}(h0:0<exp)(he:rEven x=true) : dLow x exp=dLow (rHalf x) (exp-1):=by
 obtain ⟨m,hm⟩ : ∃ m:Nat,exp=m+1:=⟨(exp-1).toNat,by omega⟩
 subst hm
 have e1:((m:Int)+1).toNat=m+1:=by omega
 have e2:((m:Int)+1-1)=m:=by omega
 unfold dLow
 rw [e1,e2,Int.toNat_natCast]
 simp only [lowN,he,if_true,h0]
 cases m with
 | zero=>simp [lowN]
 | succ k=>simp
theorem X21{x:Rg}{exp:Int}(h:0<exp→rEven x=false) : dLow x exp=⟨x,exp⟩:=by
 unfold dLow
 by_cases h0:0<exp
 ·obtain ⟨m,hm⟩ : ∃ m:Nat,exp=m+1:=⟨(exp-1).toNat,by omega⟩
  subst hm
  have e1:((m:Int)+1).toNat=m+1:=by omega
  rw [e1]
  simp only [lowN,h h0,Bool.false_eq_true,if_false,h0,if_true]
  rfl
 ·have e1:exp.toNat=0:=by omega
  rw [e1]
  simp [lowN,h0]
section
variable {α : Type} {p : α → Bool} {l : List α} {k : Nat} {u : α}
theorem X28(h:(l.take k).all p=true)(hu:l[k]? = some u)(hp:p u=true) : (l.take (k+1)).all p=true:=by
 rw [List.take_add_one,hu]
 simp only [List.all_append,h,Option.toList_some,List.all_cons,hp,List.all_nil,Bool.and_self]
theorem X9w(hu:l[k]? = some u)(hp:p u=false) : l.all p=false:=by
 obtain ⟨h1,h2⟩:=List.getElem?_eq_some_iff.1 hu
 subst h2
 rw [List.all_eq_false]
 exact ⟨_,List.getElem_mem h1,by simp [hp]⟩
theorem X1z(h:(l.take k).all p=true)(hk:l.length≤k) : l.all p=true:=by rwa [List.take_of_length_le hk] at h
end
theorem X3g{α:Type}{p:α→Bool}{l:List α}{k:Nat}{u:α}(hu:l[k]? = some u)(hp:p u=true) : l.any p=true:=by
 obtain ⟨h1,h2⟩:=List.getElem?_eq_some_iff.1 hu
 subst h2
 exact List.any_eq_true.2 ⟨_,List.getElem_mem h1,hp⟩
theorem X2j{α:Type}{p:α→Bool}{l:List α}(h:l.all (fun x=>!p x)=true) : l.any p=false:=by
 rw [List.any_eq_false]
 intro x hx
 have:=List.all_eq_true.1 h x hx
 simpa using this
theorem X3c(k:Int) : 0≤turns k∧turns k<8:=by
 have h1:-8<k.tmod 8∧k.tmod 8<8:=by
  rcases Int.le_total 0 k with h|h
  ·rw [Int.tmod_eq_emod_of_nonneg h];omega
  ·have h2:(-k).tmod 8 = -(k.tmod 8):=Int.neg_tmod _ _
   rw [Int.tmod_eq_emod_of_nonneg (by omega)] at h2
   omega
 unfold turns
 rw [X0q (by omega) (by omega)]
 have h4:0≤k.tmod 8+8:=by omega
 rw [Int.tmod_eq_emod_of_nonneg h4]
 omega
def rIf2(x:Rg)(l:List Rg) : Bool:=(l++[x]).all rOk
def rIf1(x:Rg)(l:List Rg) : Rg:=if rIf2 x l=true then x else ⟨0,0,0,0⟩
def rDiv2(x:Rg) : Bool:=rOk x&&rEven x
def rDiv1(x:Rg) : Rg:=if rDiv2 x=true then rHalf x else ⟨0,0,0,0⟩
theorem X03{n lo hi:Int} : inR n lo hi=true↔lo≤n∧n≤hi:=by simp [inR]
theorem X20{x:Rg} : rOk x=true↔(-1000000000≤x.a∧x.a≤1000000000)∧(-1000000000≤x.b∧x.b≤1000000000)∧(-1000000000≤x.c∧x.c≤1000000000)∧(-1000000000≤x.d∧x.d≤1000000000):=by
 simp only [rOk,Bool.and_eq_true,X03,and_assoc]
theorem Xf0{i:Int}(h1:-2000000000≤i)(h2:i≤2000000000) : -1000000000≤i.tdiv 2∧i.tdiv 2≤1000000000:=by
 rcases Int.le_total 0 i with h|h
 ·rw [Int.tdiv_eq_ediv_of_nonneg h];omega
 ·have h3:(-i).tdiv 2 = -(i.tdiv 2):=Int.neg_tdiv _ _
  rw [Int.tdiv_eq_ediv_of_nonneg (by omega)] at h3
  omega
theorem X3r{i:Int}(h1:-2000000000≤i)(h2:i≤2000000000) : -1000000000≤wr ((wr i).tdiv 2)∧wr ((wr i).tdiv 2)≤1000000000:=by
 rw [X0q (i:=i) (by omega) (by omega)]
 have:=Xf0 h1 h2
 rw [X0q (by omega) (by omega)]
 exact this
theorem X5x{x:Rg}(h:rOk x=true) : rOk (rHalf x)=true:=by
 rw [X20] at h ⊢
 exact ⟨X3r (by omega) (by omega),X3r (by omega) (by omega),X3r (by omega) (by omega),X3r (by omega) (by omega)⟩
theorem Xkr{x:Rg}(h:rOk x=true) : rIf2 (rHalf x) [x]=true:=by simp [rIf2,h,X5x h]
def mulOm2(x:Rg)(k:Int) : Bool:=inR k (-1000) 1000&&rOk x
def mulOm1(x:Rg)(k:Int) : Rg:=if mulOm2 x k=true then rTurn x k else ⟨0,0,0,0⟩
def dOk(x:Dy) : Bool:=rOk x.num&&inR x.exp 0 60&&(x.exp==0||!rEven x.num)
theorem X2s{x:Dy}(h:dOk x=true) : 0≤x.exp∧x.exp≤60:=by
 simp only [dOk,Bool.and_eq_true,X03] at h
 exact h.1.2
theorem X9v{a b c:Bool}(h:(!a||!b||!c)=true) : (a&&b&&c)=false:=by revert h;cases a<;>cases b<;>cases c<;>simp
theorem Xch{a b c:Bool}(h:(!a||!b||!c)=false) : (a&&b&&c)=true:=by revert h;cases a<;>cases b<;>cases c<;>simp
theorem X6k{a b:Bool}(h:(!a||!b)=true) : (a&&b)=false:=by revert h;cases a<;>cases b<;>simp
theorem X8o{a b:Bool}(h:(!a||!b)=false) : (a&&b)=true:=by revert h;cases a<;>cases b<;>simp
theorem Xvt{a b c:Bool}(h:(a&&b&&c)=true) : a=true∧b=true∧c=true:=by revert h;cases a<;>cases b<;>cases c<;>simp
def dOf(x:Rg)(m:Int) : Option Dy:=if (rOk x&&inR m 0 60)=true then some (dLow x m) else none
def raiseI:Nat→Rg→Rg×Bool
 | 0,y=>(y,true)
 | n+1,y=>if rIf2 (rRoot y) [y]=true then raiseI n (rRoot y) else (⟨0,0,0,0⟩,false)
def dRaise(x:Dy)(m:Int) : Rg×Bool:=raiseI (m-x.exp).toNat x.num
theorem Xes{x:Dy}{m j:Int}{y:Rg}{b:Bool}(h:(if b=true then raiseI (m-j).toNat y else (y,false))=dRaise x m)(hb:b=true)(hj:j<m) :
  (if rIf2 (rRoot y) [y]=true then raiseI (m-(j+1)).toNat (rIf1 (rRoot y) [y]) else (rIf1 (rRoot y) [y],false))=dRaise x m:=by
 rw [← h,if_pos hb]
 obtain ⟨k,hk⟩ : ∃ k,(m-j).toNat=k+1:=⟨(m-j).toNat-1,by omega⟩
 rw [hk,show (m-(j+1)).toNat=k from by omega]
 unfold rIf1
 by_cases hh:rIf2 (rRoot y) [y]=true<;>simp [raiseI,hh]
def dAddI(x y:Dy) : Option Dy:=
 if (dOk x&&dOk y)=true then
  if ((dRaise x (max x.exp y.exp)).2&&(dRaise y (max x.exp y.exp)).2&&rIf2 (rAdd (dRaise x (max x.exp y.exp)).1 (dRaise y (max x.exp y.exp)).1) [(dRaise x (max x.exp y.exp)).1,(dRaise y (max x.exp y.exp)).1])=true then
   dOf (rIf1 (rAdd (dRaise x (max x.exp y.exp)).1 (dRaise y (max x.exp y.exp)).1) [(dRaise x (max x.exp y.exp)).1,(dRaise y (max x.exp y.exp)).1]) (max x.exp y.exp)
  else none
 else none
def dMulI(x y:Dy) : Option Dy:=
 if (dOk x&&dOk y&&rIf2 (rMul x.num y.num) [x.num,y.num])=true then dOf (rIf1 (rMul x.num y.num) [x.num,y.num]) (x.exp+y.exp) else none
structure Mx where (rows cols:Int) (cells:List Dy)
def mZ:Mx:=⟨0,0,[]⟩
abbrev mV(A:Option Addr)(c:Nat)(m:Mx) : Value:=.agg #[.int .i64 m.rows,.int .i64 m.cols,.slice A m.cells.length c]
def isDimB(n:Int) : Bool:=inR n 1 32&&bits .and .i64 n (wr (n-1))==0
def mOk(m:Mx) : Bool:=isDimB m.rows&&isDimB m.cols&&(m.cells.length:Int)==wr (m.rows*m.cols)&&!(m.cells.any fun x=>!dOk x)
def seqO(g:Nat→Option Dy) : Nat→Option (List Dy)
 | 0=>some []
 | n+1=>match seqO g n,g n with
  | some l,some x=>some (l++[x])
  | _,_=>none
theorem Xak{g:Nat→Option Dy}{n:Nat}{l:List Dy}{x:Dy}(h:seqO g n=some l)(hx:g n=some x) : seqO g (n+1)=some (l++[x]):=by simp [seqO,h,hx]
theorem X9m{g:Nat→Option Dy}{n:Nat}(hx:g n=none) : ∀ m,n<m→seqO g m=none
 | 0,h=>by omega
 | m+1,h=>by
  by_cases hm:n=m
  ·subst hm
   simp only [seqO,hx]
   split<;>simp_all
  ·simp only [seqO,X9m hx m (by omega)]
theorem X44{g:Nat→Option Dy} : ∀ {n:Nat} {l:List Dy},seqO g n=some l→l.length=n
 | 0,l,h=>by simp [seqO] at h;subst h;rfl
 | n+1,l,h=>by
  simp only [seqO] at h
  split at h
  ·rename_i l' x h1 h2
   injection h with h
   subst h
   simp [X44 h1]
  ·cases h
def gridG(f:Nat→Nat→Option Dy)(C:Nat)(n:Nat) : Option Dy:=f (n/C) (n % C)
theorem X8g{f:Nat→Nat→Option Dy}{C i j:Nat}(hj:j<C) : gridG f C (i*C+j)=f i j:=by
 unfold gridG
 have h1:(i*C+j)/C=i:=by rw [Nat.mul_comm,Nat.mul_add_div (by omega),Nat.div_eq_of_lt hj];omega
 have h2:(i*C+j) % C=j:=by rw [Nat.mul_comm,Nat.mul_add_mod,Nat.mod_eq_of_lt hj]
 rw [h1,h2]
def matOf(R C:Int)(f:Nat→Nat→Option Dy) : Option Mx:=
 if (isDimB R&&isDimB C)=true then (seqO (gridG f C.toNat) (R.toNat*C.toNat)).map fun l=>⟨R,C,l⟩ else none
def Mx.at(m:Mx)(i j:Nat) : Dy:=m.cells.getD (i*m.cols.toNat+j) dZ
theorem Mx.at_get{m:Mx}{i j:Nat}(h:i*m.cols.toNat+j<m.cells.length) : m.cells[i*m.cols.toNat+j]? = some (m.at i j):=by
 rw [Mx.at,List.getD_eq_getElem?_getD,List.getElem?_eq_getElem h];rfl
theorem X29{n:Int}(h:isDimB n=true) : 1≤n∧n≤32:=by
 simp only [isDimB,Bool.and_eq_true,X03] at h
 exact h.1
theorem X2n{m:Mx}(h:mOk m=true) : (1≤m.rows∧m.rows≤32)∧(1≤m.cols∧m.cols≤32)∧m.cells.length=m.rows.toNat*m.cols.toNat:=by
 simp only [mOk,Bool.and_eq_true,beq_iff_eq] at h
 obtain ⟨⟨⟨h1,h2⟩,h3⟩,h4⟩:=h;have h1:=X29 h1;have h2:=X29 h2
 refine ⟨h1,h2,?_⟩
 obtain ⟨r,hr⟩ : ∃ r:Nat,m.rows=r:=⟨m.rows.toNat,by omega⟩
 obtain ⟨c,hc⟩ : ∃ c:Nat,m.cols=c:=⟨m.cols.toNat,by omega⟩
 rw [hr] at h1
 rw [hc] at h2
 rw [hr,hc] at h3 ⊢
 have h5:r*c≤32*32:=Nat.mul_le_mul (by omega) (by omega)
 rw [← Int.natCast_mul,X0q (by omega) (by omega)] at h3
 simp only [Int.toNat_natCast]
 exact Int.natCast_inj.1 h3
theorem X3d{R C i j:Nat}(hi:i<R)(hj:j<C) : i*C+j<R*C:=by
 have h1:(i+1)*C≤R*C:=Nat.mul_le_mul_right _ hi
 rw [Nat.add_mul] at h1
 omega
def dotI(a b:Mx)(i j:Nat) : Nat→Option Dy
 | 0=>some dZ
 | n+1=>(dotI a b i j n).bind fun s=>(dMulI (a.at i n) (b.at n j)).bind fun x=>dAddI s x
theorem Xah{a b:Mx}{i j n:Nat}(h:dotI a b i j n=none) : ∀ m,n≤m→dotI a b i j m=none
 | 0,h'=>by
  obtain rfl:n=0:=by omega
  exact h
 | m+1,h'=>by
  by_cases hm:n=m+1
  ·subst hm;exact h
  ·simp [dotI,Xah h m (by omega)]
def mulI(a b:Mx) : Option Mx:=if (mOk a&&mOk b&&a.cols==b.rows)=true then matOf a.rows b.cols fun i j=>dotI a b i j a.cols.toNat else none
def idI(n:Int) : Option Mx:=matOf n n fun i j=>some (if i=j then ⟨⟨1,0,0,0⟩,0⟩ else dZ)
def scaleI(m:Mx)(x:Dy) : Option Mx:=if (mOk m&&dOk x)=true then matOf m.rows m.cols fun i j=>dMulI (m.at i j) x else none
theorem Xa0{P:Program}{t:TypeId}{fs:Array Field}(h:P.underlying t=some (.struct fs)) : P.fieldsOf t=fs:=by simp [Program.fieldsOf,h]
theorem Xa6{P:Program}{w:World}{t k:Nat}{xs:Array Value}{v:Value}(h1:OneT P t)(h:xs[k]? = some v) : (part t xs k).run P w=.ok v w:=by
 simp [part,X5d h1,h]
theorem X2g {P : Program} {w : World} {d : Nat} {xs ys : Array Value} {f : Field} {fs : List Field} {k : IntKind} {i j : Int} (hn : f.name ≠ "_") (hT : OneT P f.type) (hu : P.underlying f.type = some (.int k)) (hx : xs[f.offset]? = some (.int .i64 i)) (hy : ys[f.offset]? = some (.int .i64 j))
  {r:Bool} (h:i=j→(Op.eqFields (d+1) xs ys fs).run P w=.ok r w) : (Op.eqFields (d+1) xs ys (f::fs)).run P w=.ok (decide (i=j)&&r) w:=by
 simp only [Op.eqFields,hn,ne_eq,not_false_eq_true,if_true,Sem.run_bind,Xa6 hT hx,Xa6 hT hy,Result.andThen_ok,run_equalIn_int _ _ _ _ _ _ _ hu]
 by_cases hij:i=j
 ·subst hij
  simp [h rfl]
 ·simp [hij]
theorem eqR(d:Nat)(x y:Rg)(w:World) : (Op.equalIn (d+2) 93 (rV x) (rV y)).run Tryz.prog w=.ok (decide (x=y)) w:=by
 have hf:=Xa0 Tryz.underlying93;refine (run_equalIn_struct w (d+1) 93 _ _ (by rw [hf];exact Tryz.underlying93) (by kernel_rfl)).trans ?_
 rw [hf]
 have:decide (x=y)=(decide (x.a=y.a)&&(decide (x.b=y.b)&&(decide (x.c=y.c)&&(decide (x.d=y.d)&&true)))):=by
  obtain ⟨a,b,c,d⟩:=x;obtain ⟨a',b',c',d'⟩:=y
  simp
 rw [this]
 refine X2g (by decide) X7 Tryz.underlying3 rfl rfl fun _=>?_;refine X2g (by decide) X7 Tryz.underlying3 rfl rfl fun _=>?_;refine X2g (by decide) X7 Tryz.underlying3 rfl rfl fun _=>?_;refine X2g (by decide) X7 Tryz.underlying3 rfl rfl fun _=>?_
 rfl
theorem Xii{P:Program}{w:World}{t k n:Nat}{xs:Array Value}(h1:AggT P t n) : (part t xs k).run P w=.ok (.agg (xs.extract k (k+n))) w:=by
 simp [part,X59 h1,run_sizeOf' h1.2]
theorem Xc7 {P : Program} {w : World} {d n : Nat} {xs ys : Array Value} {f : Field} {fs : List Field} {v1 v2 : Value} {b r : Bool} (hn : f.name ≠ "_") (hT : AggT P f.type n) (hx : .agg (xs.extract f.offset (f.offset + n)) = v1) (hy : .agg (ys.extract f.offset (f.offset + n)) = v2)
  (he:(Op.equalIn d f.type v1 v2).run P w=.ok b w) (h:b=true→(Op.eqFields d xs ys fs).run P w=.ok r w) : (Op.eqFields d xs ys (f::fs)).run P w=.ok (b&&r) w:=by
 simp only [Op.eqFields,hn,ne_eq,not_false_eq_true,if_true,Sem.run_bind,Xii hT,Result.andThen_ok,hx,hy,he]
 cases b
 ·simp
 ·simp [h rfl]
theorem eqD(d:Nat)(x y:Dy)(w:World) : (Op.equalIn (d+3) 95 (dV x) (dV y)).run Tryz.prog w=.ok (decide (x=y)) w:=by
 have hf:=Xa0 Tryz.underlying95;refine (run_equalIn_struct w (d+2) 95 _ _ (by rw [hf];exact Tryz.underlying95) (by kernel_rfl)).trans ?_
 rw [hf]
 have:decide (x=y)=(decide (x.num=y.num)&&(decide (x.exp=y.exp)&&true)):=by
  obtain ⟨a,b⟩:=x;obtain ⟨a',b'⟩:=y
  simp
 rw [this]
 refine Xc7 (v1:=rV x.num) (v2:=rV y.num) (by decide) X0c rfl rfl (eqR d _ _ _) fun _=>?_;exact X2g (by decide) X7 Tryz.underlying3 rfl rfl fun _=>rfl
section
variable {P : Program} {a : Act} {w : World} {n : Nat} {e : Env} {ty : TypeId} {pos : String} {af : Array Edge} {g : Option (Nat × Bool)} {d : Option Tmp} {t t' : TypeId} {x y : Operand} {X Y : Array Value} {b : Bool}
theorem Xrh(hf:Fr a n e)(hx:ev e x=some (.agg X))(hy:ev e y=some (.agg Y))(hm:P.eqGuardType P.depth t=false)(he:∀ w,(Op.equalIn 10000 t (.agg X) (.agg Y)).run P w=.ok b w) : Ev P ⟨d,.binOp .neq t x y t',ty,pos,af,g⟩ a w (.bool (!b)):=fun w' _=>by
 have h1:=run_eqGuard_agg (P:=P) w' .neq t x y X Y hm;have h2:=run_neq_struct (P:=P) w' t X Y
 rw [he] at h2
 simp [execOp,hf.ev hx,hf.ev hy,h1,h2]
theorem Xsc(hx:ev e x=some (.agg X))(hy:ev e y=some (.agg Y))(hm:P.eqGuardType P.depth t=false)(he:∀ w,(Op.equalIn 10000 t (.agg X) (.agg Y)).run P w=.ok b w) : EvW P ⟨d,.binOp .neq t x y t',ty,pos,af,g⟩ n e w (.bool (!b)):=fun a hf=>Xrh hf hx hy hm he
end
theorem Xkt:Tryz.prog.eqGuardType Tryz.prog.depth 95=false:=by kernel_rfl
theorem Xgv{α:Type}{l m:List α}{k:Nat}{u v:α}(h:l.take k=m.take k)(hu:l[k]? = some u)(hv:m[k]? = some v)(he:u=v) : l.take (k+1)=m.take (k+1):=by
 rw [List.take_add_one,List.take_add_one,h,hu,hv,he]
theorem Xtl{P:Program}{a:Act}{w:World}{n:Nat}{e:Env}{ty:TypeId}{pos:String}{af:Array Edge}{g:Option (Nat×Bool)}{d:Option Tmp}{s t:TypeId}{x:Operand}{i:Int}{m:Nat}(hs:P.underlying s=some (.int .i64))(ht:P.underlying t=some (.int .u64))(hf:Fr a n e)(hx:ev e x=some (.int .i64 i))(hi:i=(m:Int))(hm:m≤64) :
  Ev P ⟨d,.convert s t x,ty,pos,af,g⟩ a w (.int .u64 (m:Int)):=fun w' _=>by
 subst hi
 have h:IntKind.u64.wrap (m:Int)=(m:Int):=by
  simp only [IntKind.wrap]
  simp only [IntKind.bits,IntKind.signed,Bool.false_and,Bool.false_eq_true,if_false]
  omega
 simp [execOp,hf.ev hx,convert,X0t hs,X0t ht,Conv.intToInt,h]
theorem Xf1{P:Program}{w:World}{n:Nat}{e:Env}{ty:TypeId}{pos:String}{af:Array Edge}{g:Option (Nat×Bool)}{d:Option Tmp}{s t:TypeId}{x:Operand}{i:Int}{m:Nat}(hs:P.underlying s=some (.int .i64))(ht:P.underlying t=some (.int .u64))(hx:ev e x=some (.int .i64 i))(hi:i=(m:Int))(hm:m≤64) : EvW P ⟨d,.convert s t x,ty,pos,af,g⟩ n e w (.int .u64 (m:Int)):=fun a hf=>Xtl hs ht hf hx hi hm
def bitF(n s q:Int) : Int:=bits .and .i64 (s/2^(n-1-q).toNat) 1
def flipF(n s q:Int) : Int:=bits .xor .i64 s (wr (1*2^(n-1-q).toNat))
def turnOf(k:Int) : Int:=if k=4 then 4 else if k=5 then 2 else if k=6 then 6 else if k=7 then 1 else 7
theorem Xmo{k:Int}(h1:4≤k)(h2:k≤8) : ([4,2,6,1,7] : List Int)[(k-4).toNat]? = some (turnOf k):=by
 have:k=4∨k=5∨k=6∨k=7∨k=8:=by omega
 rcases this with rfl|rfl|rfl|rfl|rfl<;>rfl
def dHalf:Dy:=⟨⟨1,0,0,0⟩,1⟩
def oneL(k:Int) : List Dy:=
 if k=1 then [dHalf,dHalf,dHalf,dNeg dHalf] else if k=2 then [dZ,dPow 0,dPow 0,dZ] else if k=3 then [dZ,dPow 6,dPow 2,dZ] else [dPow 0,dZ,dZ,dPow (turnOf k)]
theorem Own.of_blkL{α:Type}{w:World}{B0 b k:Nat}{E:TypeId}{sz:Nat}{enc:α→List Value}{cs:List Value}{l:List α}(hsz:∀ x,(enc x).length=sz)(h:Blk w b E cs)(hb:B0≤b)(hc:l.flatMap enc=cs)(hl:l.length=k)(hk:k≤maxLen) : Own w B0 E sz enc (some ⟨b,0,none⟩) k l:=by
 subst hc;subst hl
 have h1:=Xz hsz l
 refine ⟨h1,.inr ⟨b,l.length,_,rfl,hb,h,Nat.le_refl _,hk,?_,?_⟩⟩
 ·simpa using h1
 ·rw [← h1];exact List.take_length
structure Cx where (n:Int) (gs:List Gt)
def gOk(n:Int)(x:Gt) : Bool:=
 inR n 1 5&&inR x.k 1 12&&(if x.k=12 then x.a==0&&x.b==0 else if inR x.k 9 11=true then inR x.a 0 (n-1)&&inR x.b 0 (n-1)&&x.a != x.b else inR x.a 0 (n-1)&&x.b==0)
def cOk(c:Cx) : Bool:=inR c.n 1 5&&decide ((c.gs.length:Int)≤400)&&!(c.gs.any fun x=>!gOk c.n x)
def eqPhT(p q:Mx)(k:Nat) : Bool:=(scaleI q (dPow k)).isSome&&(decide (p.rows=((scaleI q (dPow k)).getD mZ).rows)&&decide (p.cols=((scaleI q (dPow k)).getD mZ).cols)&&decide (p.cells=((scaleI q (dPow k)).getD mZ).cells))
def eqPh(p q:Mx) : Bool:=(List.range 8).any (eqPhT p q)
theorem Xj8{f:Nat→Bool}{k:Nat}(h:k<8)(hf:f k=true) : (List.range 8).any f=true:=List.any_eq_true.2 ⟨k,List.mem_range.2 h,hf⟩
theorem Xfs{f:Nat→Bool}(h:∀ k<8,f k=false) : (List.range 8).any f=false:=by
 rw [List.any_eq_false]
 intro k hk
 simp [h k (List.mem_range.1 hk)]
def sRing(x:Rg) : Rg:=if rOk x=true then x else ⟨0,0,0,0⟩
def sRaiseN:Nat→Bool→Dy→Bool×Dy
 | 0,f,x=>(f,x)
 | n+1,f,x=>sRaiseN n (f||!rOk (rRoot x.num)) ⟨sRing (rRoot x.num),x.exp+1⟩
def sAdd(f:Bool)(x y:Dy) : Bool×Dy:=
 ((sRaiseN ((sRaiseN (y.exp-x.exp).toNat f x).2.exp-y.exp).toNat (sRaiseN (y.exp-x.exp).toNat f x).1 y).1||!rOk (rAdd (sRaiseN (y.exp-x.exp).toNat f x).2.num (sRaiseN ((sRaiseN (y.exp-x.exp).toNat f x).2.exp-y.exp).toNat (sRaiseN (y.exp-x.exp).toNat f x).1 y).2.num),
 dLow (sRing (rAdd (sRaiseN (y.exp-x.exp).toNat f x).2.num (sRaiseN ((sRaiseN (y.exp-x.exp).toNat f x).2.exp-y.exp).toNat (sRaiseN (y.exp-x.exp).toNat f x).1 y).2.num)) (sRaiseN (y.exp-x.exp).toNat f x).2.exp)
def sMul(f:Bool)(x y:Dy) : Bool×Dy:=
 if 60<x.exp+y.exp then (true,dZ) else (f||!rOk (rMul x.num y.num),dLow (sRing (rMul x.num y.num)) (x.exp+y.exp))
theorem X79{f1 f:Bool}{x1 x:Dy}{m:Int}{k:Nat}(h:sRaiseN (m-x1.exp).toNat f1 x1=sRaiseN k f x)(hlt:x1.exp<m) :
  sRaiseN (m-(x1.exp+1)).toNat (f1||!rOk (rRoot x1.num)) ⟨sRing (rRoot x1.num),x1.exp+1⟩=sRaiseN k f x:=by
 rw [← h]
 obtain ⟨j,hj⟩ : ∃ j,(m-x1.exp).toNat=j+1:=⟨(m-x1.exp).toNat-1,by omega⟩
 rw [hj,show (m-(x1.exp+1)).toNat=j from by omega]
 rfl
theorem X7f{f1 f:Bool}{x1 x:Dy}{m:Int}{k:Nat}(h:sRaiseN (m-x1.exp).toNat f1 x1=sRaiseN k f x)(hlt:¬ x1.exp<m) : sRaiseN k f x=(f1,x1):=by
 rw [← h,show (m-x1.exp).toNat=0 from by omega]
 rfl
theorem X2o(n s q:Int) : bitF n s q=0∨bitF n s q=1:=by
 have key:∀ b:BitVec 64,IntKind.i64.wrap ((b &&& BitVec.ofInt 64 1).toNat:Int)=0∨IntKind.i64.wrap ((b &&& BitVec.ofInt 64 1).toNat:Int)=1:=fun b=>by
  have:(BitVec.ofInt 64 1).toNat=1:=by decide
  have h:(b &&& BitVec.ofInt 64 1).toNat=0∨(b &&& BitVec.ofInt 64 1).toNat=1:=by
   rw [BitVec.toNat_and,this,Nat.and_one_is_mod]
   omega
  rcases h with h|h<;>rw [h]
  ·exact .inl rfl
  ·exact .inr rfl
 exact key _
theorem X1f{n:Int}{g:Gt}(h:gOk n g=true) : (1≤n∧n≤5)∧(1≤g.k∧g.k≤12)∧(g.k≠12→0≤g.a∧g.a<n)∧(9≤g.k∧g.k≤11→0≤g.b∧g.b<n∧g.a≠g.b):=by
 simp only [gOk,Bool.and_eq_true,X03] at h
 obtain ⟨⟨h1,h2⟩,h3⟩:=h
 refine ⟨h1,h2,fun hk=>?_,fun hk=>?_⟩
 ·rw [if_neg hk] at h3
  split at h3<;>simp only [Bool.and_eq_true,X03] at h3<;>omega
 ·rw [if_neg (by omega),if_pos hk] at h3
  simp only [Bool.and_eq_true,X03,bne_iff_ne] at h3
  exact ⟨h3.1.2.1,by omega,h3.2⟩
def toS(n:Int)(g:Gt)(col:Int) : Int:=
 if g.k=9 then (if bitF n col g.a=1 then flipF n col g.b else col) else if g.k=11 then (if bitF n col g.a≠bitF n col g.b then flipF n (flipF n col g.a) g.b else col) else col
def valS(n:Int)(g:Gt)(col:Int) : Dy:=if g.k=12 then dPow 1 else if g.k=10∧bitF n col g.a=1∧bitF n col g.b=1 then dPow 4 else dPow 0
def cellS(n:Int)(g:Gt)(row col:Int) : Dy:=
 if g.k≤8 then (if bits .andNot .i64 (bits .xor .i64 row col) (wr (1*2^(n-1-g.a).toNat))≠0 then dZ else (oneL g.k).getD (2*bitF n row g.a+bitF n col g.a).toNat dZ)
 else if row=toS n g col then valS n g col else dZ
theorem Xnv(k:Int) : (oneL k).length=4:=by unfold oneL;split<;>(try split)<;>(try split)<;>rfl
theorem Xn5{k:Int}{m:Nat}(h:m<4) : (oneL k)[m]? = some ((oneL k).getD m dZ):=by
 rw [List.getD_eq_getElem?_getD,List.getElem?_eq_getElem (by rw [Xnv];exact h)];rfl
theorem X1b{i j:Int}(h:(i==j)=false) : ¬ i=j:=by simpa using h
theorem Xpo{P:Program}{a:Act}{w:World}{n:Nat}{e:Env}{ty:TypeId}{pos:String}{af:Array Edge}{g:Option (Nat×Bool)}{d:Option Tmp}{t t':TypeId}{x y:Operand}{j:Int}{k:IntKind}{m D:Nat}(hf:Fr a n e)(hx:ev e x=some (.int .i64 1))(hy:ev e y=some (.int k j))(hj:j=(m:Int))(hD:D=2^m∧m≤30) : Ev P ⟨d,.binOp .shl t x y t',ty,pos,af,g⟩ a w (.int .i64 (D:Int)):=by
 have h:=Xlp (P:=P) (w:=w) (d:=d) (ty:=ty) (pos:=pos) (af:=af) (g:=g) (t:=t) (t':=t') (i:=1) hf hx hy hj (by omega)
 have h2:IntKind.i64.wrap (1*2^m)=(D:Int):=by
  rw [hD.1]
  have h3:(2:Nat)^m≤2^30:=Nat.pow_le_pow_right (by decide) hD.2
  have h4:(2:Int)^m=((2^m:Nat) : Int):=by simp
  rw [Int.one_mul,h4]
  exact IntWalk.i64_in _ ⟨by omega,by omega⟩
 rwa [h2] at h
theorem Xaq{P:Program}{w:World}{n:Nat}{e:Env}{ty:TypeId}{pos:String}{af:Array Edge}{g:Option (Nat×Bool)}{d:Option Tmp}{t t':TypeId}{x y:Operand}{j:Int}{k:IntKind}{m D:Nat}(hx:ev e x=some (.int .i64 1))(hy:ev e y=some (.int k j))(hj:j=(m:Int))(hD:D=2^m∧m≤30) : EvW P ⟨d,.binOp .shl t x y t',ty,pos,af,g⟩ n e w (.int .i64 (D:Int)):=fun a hf=>Xpo hf hx hy hj hD
def gridF(f:Nat→Nat→Dy)(C:Nat)(m:Nat) : Dy:=f (m/C) (m % C)
def gridL(f:Nat→Nat→Dy)(C:Nat)(N:Nat) : List Dy:=(List.range N).map (gridF f C)
theorem Xnx{f:Nat→Nat→Dy}{C i j:Nat}(hj:j<C) : gridF f C (i*C+j)=f i j:=by
 unfold gridF
 have h1:(i*C+j)/C=i:=by rw [Nat.mul_comm,Nat.mul_add_div (by omega),Nat.div_eq_of_lt hj];omega
 have h2:(i*C+j) % C=j:=by rw [Nat.mul_comm,Nat.mul_add_mod,Nat.mod_eq_of_lt hj]
 rw [h1,h2]
theorem Xep{f:Nat→Nat→Dy}{C i j:Nat}(hj:j<C) : gridL f C (i*C+(j+1))=gridL f C (i*C+j)++[f i j]:=by
 unfold gridL
 rw [show i*C+(j+1)=(i*C+j)+1 from rfl,List.range_succ,List.map_append,List.map_singleton,Xnx hj]
theorem X57(f:Nat→Nat→Dy)(C N:Nat) : (gridL f C N).length=N:=by simp [gridL]
def gateS(n:Int)(g:Gt) : Mx:=⟨((2^n.toNat:Nat) : Int),((2^n.toNat:Nat) : Int),gridL (fun i j=>cellS n g i j) (2^n.toNat) (2^n.toNat*2^n.toNat)⟩
theorem X43{n:Int}(h:n≤5) : 2^n.toNat≤32:=Nat.pow_le_pow_right (n:=2) (by decide) (show n.toNat≤5 by omega)
def dTurn(k:Int)(x:Dy) : Dy:=⟨rTurn x.num k,x.exp⟩
def turnedS(p q:Mx)(k:Int) : Bool:=decide (p.rows=q.rows)&&decide (p.cols=q.cols)&&decide (p.cells=q.cells.map (dTurn k))
theorem Xht{α β:Type}{f:α→β}{l:List α}{i:Nat}{u:α}(h:l[i]? = some u) : (l.map f)[i]? = some (f u):=by simp [h]
def phaseS(p q:Mx) : Bool:=(List.range 8).any fun k=>turnedS p q (k:Int)
section
variable {n : Int} {g : Gt} (hn : 1 ≤ n ∧ n ≤ 5)
include hn
theorem Xz1(h:inR g.k 1 8=true) : gOk n g=(inR g.a 0 (n-1)&&g.b==0):=by
 have h1:=X03.1 h
 have e1:inR n 1 5=true:=X03.2 hn
 have e2:inR g.k 1 12=true:=X03.2 (by omega)
 have e3:¬ inR g.k 9 11=true:=fun h=>by have:=X03.1 h;omega
 rw [gOk,e1,e2,if_neg (by omega),if_neg e3];rfl
theorem Xzl(h:inR g.k 9 11=true) : gOk n g=(inR g.a 0 (n-1)&&inR g.b 0 (n-1)&&g.a != g.b):=by
 have h1:=X03.1 h
 have e1:inR n 1 5=true:=X03.2 hn
 have e2:inR g.k 1 12=true:=X03.2 (by omega)
 rw [gOk,e1,e2,if_neg (by omega),if_pos h];rfl
theorem Xyx(h1:inR g.k 1 8=false)(h2:inR g.k 9 11=false) : gOk n g=(g.k==12&&g.a==0&&g.b==0):=by
 have e1:inR n 1 5=true:=X03.2 hn
 by_cases hk:g.k=12
 ·have e2:inR g.k 1 12=true:=X03.2 (by omega)
  rw [gOk,e1,e2,if_pos hk,hk];rfl
 ·have e2:inR g.k 1 12=false:=by
   cases h:inR g.k 1 12 with
   | false=>rfl
   | true=>
    have h3:=X03.1 h
    rcases (show g.k<9∨9≤g.k by omega) with h4|h4
    ·rw [X03.2 (by omega)] at h1;cases h1
    ·rw [X03.2 (by omega)] at h2;cases h2
  have e3:(g.k==12)=false:=by simpa using hk
  rw [gOk,e1,e2,e3];rfl
end
def entryI(k i j:Int) : Dy:=
 if k=1 then (if i=1∧j=1 then ⟨⟨-1,0,0,0⟩,1⟩ else dHalf) else if k=2∧i≠j then ⟨⟨1,0,0,0⟩,0⟩ else if k=3∧i≠j then dPow (2+4*j)
 else if k=2∨k=3∨i≠j then dZ else if i=0 then ⟨⟨1,0,0,0⟩,0⟩ else dPow (turnOf k)
theorem Xit{k:Int}(h1:4≤k)(h2:k≤8) : (([(4,4,0),(5,2,1),(6,6,2),(7,1,3),(8,7,4)] : List (Int×Int×Nat)).find? fun p=>p.1==k).map (fun p=>p.2.1)=some (turnOf k):=by
 have:k=4∨k=5∨k=6∨k=7∨k=8:=by omega
 rcases this with rfl|rfl|rfl|rfl|rfl<;>rfl
theorem Xje(k:Int) : inR (turnOf k) (-1000) 1000=true:=by
 unfold turnOf;split<;>(try split)<;>(try split)<;>(try split)<;>rfl
def czI(n:Int)(g:Gt)(i:Int) : Bool:=g.k==10&&bitF n i g.a==1&&bitF n i g.b==1
def cellI(n:Int)(g:Gt)(i j:Int) : Dy:=
 if g.k=12 then (if i=j then dPow 1 else dZ)
 else if inR g.k 9 11=true then (if toS n g i=j then dPow (4*(if czI n g i=true then 1 else 0)) else dZ)
 else if i=j∨flipF n i g.a=j then entryI g.k (bitF n i g.a) (bitF n j g.a) else dZ
def gateI(n:Int)(g:Gt) : Option Mx:=if gOk n g=true then matOf ((2^n.toNat:Nat) : Int) ((2^n.toNat:Nat) : Int) fun i j=>some (cellI n g i j) else none
theorem F91(w0:World)(n:Int)(lo:Int)(hi:Int) : Ret Tryz.prog 92 [vi n,vi lo,vi hi] w0 (fun v w=>v=.bool (inR n lo hi)∧w0=w):=by
 refine enter Tryz.func92 rfl 15 rfl rfl ?_;intro a c
 have hW:=bz w0
 refine Zs c fun _ aA=>?_;refine Za rfl<|ZX aA fun a c _ aB=>?_;refine X0o (fun a w=>Fr a 15 [(6,.bool ((decide (lo≤n))&&(decide (n≤hi))))]∧w0=w) ?_ ?_
 ·refine Zr c<|Zm rfl<|Zm rfl<|Ze (Xel rfl rfl)<|Zm rfl ?_
  refine Zg 10 rfl (fun b=>?_) (fun b=>?_)
  ·refine Zv (gW b) (Xa rfl) ?_;refine Zv (gW b) (Xa rfl) ?_;refine Zv (gW b) (Xel rfl rfl) ?_;refine Ze (Xn rfl b rfl)<|Za rfl ?_;refine Zn fun a c=>?_;exact ⟨c.sub ⟨X1 rfl (by first|rfl|(simp only [b,bs];done)|simp [b]),trivial⟩,rfl⟩
  refine Zp (gP b) ?_;refine Zp (gP b) ?_;refine Zp (gP b) ?_;refine Ze (Xj rfl b rfl)<|Za rfl ?_;refine Zn fun a c=>?_;exact ⟨c.sub ⟨X1 rfl (by first|rfl|(simp only [b,bs];done)|simp [b]),trivial⟩,rfl⟩
 rintro a _ ⟨c,rfl⟩;refine aB _ _ ?_
 refine wp_ret (X2 c (Xv c rfl rfl) ?_)
 exact ⟨by simp [inR, *],rfl⟩
theorem F85(w0:World)(n:Int)(lo:Int)(hi:Int) : Ret Tryz.prog 74 [vi n,vi lo,vi hi] w0 (fun v w=>v=.bool (inR n lo hi)∧w0=w):=by
 refine enter Tryz.func74 rfl 15 rfl rfl ?_;intro a c
 have hW:=bz w0
 refine Zs c fun _ aA=>?_;refine Za rfl<|ZX aA fun a c _ aB=>?_;refine X0o (fun a w=>Fr a 15 [(6,.bool ((decide (lo≤n))&&(decide (n≤hi))))]∧w0=w) ?_ ?_
 ·refine Zr c<|Zm rfl<|Zm rfl<|Ze (X99 rfl rfl)<|Zm rfl ?_
  refine Zg 10 rfl (fun b=>?_) (fun b=>?_)
  ·refine Zv (gW b) (Xa rfl) ?_;refine Zv (gW b) (Xa rfl) ?_;refine Zv (gW b) (Xel rfl rfl) ?_;refine Ze (Xn rfl b rfl)<|Za rfl ?_;refine Zn fun a c=>?_;exact ⟨c.sub ⟨X1 rfl (by first|rfl|(simp only [b,bs];done)|simp [b]),trivial⟩,rfl⟩
  refine Zp (gP b) ?_;refine Zp (gP b) ?_;refine Zp (gP b) ?_;refine Ze (Xj rfl b rfl)<|Za rfl ?_;refine Zn fun a c=>?_;exact ⟨c.sub ⟨X1 rfl (by first|rfl|(simp only [b,bs];done)|simp [b]),trivial⟩,rfl⟩
 rintro a _ ⟨c,rfl⟩;refine aB _ _ ?_
 refine wp_ret (X2 c (Xv c rfl rfl) ?_)
 exact ⟨by simp [inR, *],rfl⟩
theorem F99(w0:World)(k:Int) : Ret Tryz.prog 127 [vi k] w0 (fun v w=>v=.bool (inR k 9 11)∧w0=w):=by
 refine enter Tryz.func127 rfl 5 rfl rfl ?_;intro a hf
 have hW:=bz w0
 refine Zs hf fun _ aA=>?_;refine Za rfl<|Zx aA fun a hf _ aB=>?_;refine Zm rfl<|Zf (Vc (F91 _ k 9 11) X38) ?_;rintro _ _ ⟨rfl,rfl⟩;refine Za rfl<|Zt aB fun a hf=>?_
 refine wp_ret (X2 hf (Xv hf rfl rfl) ?_)
 exact ⟨rfl,rfl⟩
theorem Xzf(e:World)(Al:Option Addr)(cl:Nat)(l:List Int)(aE:Rd e e.heap.size 3 encI Al l)(lo:Int)(hi:Int)(aR:l.length≤2305843009213693951) : Ret Tryz.prog 161 [.slice Al l.length cl,vi lo,vi hi] e (fun v w=>v=.bool (l.all fun n=>inR n lo hi)∧Below e.heap.size e w):=by
 refine enter Tryz.func161 rfl 21 rfl rfl ?_;intro a b
 have hW:=bz e
 refine Zs b fun _ aK=>?_;refine Za rfl<|ZX aK fun a b _ aL=>?_;refine Zs b fun _ aM=>?_;refine Zm rfl<|Ze (X0x rfl X08)<|Zm rfl<|Zt aM fun a b=>?_;refine wp_block<|X0b (σ:=Nat) (fun (k:Nat) (a:Act) (w:World)=>Fr a 21 [(1,vi lo),(2,vi hi),(9,.slice Al l.length cl),(10,vi (l.length:Int)),(11,vi (k:Int))]∧(k≤l.length)∧((l.take k).all (fun n=>inR n lo hi)=true)∧Below e.heap.size e w) (fun (k:Nat)=>l.length+1-k) 0 ?_ ?_
 ·exact ⟨b.sb,(Nat.zero_le _),(by simp),hW⟩
 rintro k a w1 ⟨b,hk,f,hW⟩;refine Zs b fun _ aN=>?_;refine Ze (X10 rfl rfl)<|ZX aN fun a b _ aO=>?_
 refine Xk b rfl (fun d=>?_) (fun d=>?_)
 ·have aF:=d;have d:=of_decide_eq_true d
  obtain ⟨u8,aA⟩:=Xi (l:=l) (k:=k) (by omega)
  refine wp_skip<|aO _ _<|wp_seq_k fun _ aP=>?_;refine wp_block<|Zs b fun _ aG=>?_;refine Zi (k:=k) (u:=u8) (enc:=encI) (l:=l) trivial rfl rfl X08 X1j X02 (aE.below' hW) aA rfl ?_;intro aS aB;refine Ze (X0 rfl X7 aB)<|Za rfl<|Zx aG fun a b _ aH=>?_;refine Zm rfl<|Zm rfl<|Zm rfl<|Zf (Vc (F85 _ u8 lo hi) X40) ?_;rintro _ _ ⟨rfl,rfl⟩;refine Ze (X0z rfl)<|Zt aH fun a b=>?_
  refine Xk b rfl (fun c=>?_) (fun c=>?_)
  ·have aC:=c
   have aD:(l.all fun n=>inR n lo hi)=false:=X9w aA (by simpa using c)
   refine Zs b fun _ aI=>?_;refine Za rfl<|Zt aI fun a b=>?_;refine wp_ret<|Xr<|X3<|X3 ?_;refine Xr<|X3<|X2 b (Xv b rfl rfl) ?_;exact ⟨by rw [aD],hW⟩
  have aC:=c
  have aQ:inR u8 lo hi=true:=by simpa using c
  refine wp_skip<|Xt<|aP _ _<|Zr b ?_;refine Ze (X06 rfl rfl (by omega) (by omega))<|Zm rfl ?_;refine Zn fun a b=>?_;refine Xp ?_;exact ⟨k+1,⟨b.sb,(by omega),(X28 f aA aQ),hW⟩,(by omega)⟩
 have aF:=d;have d:=of_decide_eq_false d;refine wp_exit<|Xl<|Xl<|X0a ?_;refine aL _ _<|Zs b fun _ aJ=>?_;refine Za rfl<|Zt aJ fun a b=>?_
 refine wp_ret (X2 b (Xv b rfl rfl) ?_)
 have aD:(l.all fun n=>inR n lo hi)=true:=X1z f (by omega)
 exact ⟨by rw [aD],hW⟩
theorem Xyw(w0:World)(x:Rg) : Ret Tryz.prog 102 [.agg #[vi x.a,vi x.b,vi x.c,vi x.d]] w0 (fun v w=>v=.bool (rOk x)∧Below w0.heap.size w0 w):=by
 refine enter Tryz.func102 rfl 13 rfl rfl ?_;intro a hf
 have e:=bz w0
 refine Zs hf fun _ aB=>?_;refine Zf (X0i (zs:=[vi x.a,vi x.b,vi x.c,vi x.d]) rfl rfl) ?_;rintro _ w1 ⟨b2,rfl,aC,hE,f⟩;have aF:=Nat.le_trans e.size aC;have e:=btr e hE;refine Za rfl<|Zx aB fun a hf _ aD=>?_;refine Ze (Vd rfl X0j 0)<|Ze (X0 rfl X7 (f.at 0))<|Ze (Vd rfl X0m 1)<|Ze (X0 rfl X7 (f.at 1))<|Ze (Vd rfl X0l 2) ?_;refine Ze (X0 rfl X7 (f.at 2))<|Ze (Vd rfl X0k 3)<|Ze (X0 rfl X7 (f.at 3))<|Zf (X5 (k:=4) (vs:=[vi x.a,vi x.b,vi x.c,vi x.d]) (zs:=[vi x.a,vi x.b,vi x.c,vi x.d]) rfl X08 X1o rfl rfl) ?_;rintro _ w2 ⟨b4,rfl,aE,hE,aA⟩;have aG:=Nat.le_trans e.size aE;have e:=btr e hE;refine Zf (Vc (Xzf _ (some ⟨b4,0,none⟩) 4 ([x.a,x.b,x.c,x.d]) (Rd.of_blk aA rfl _ aA.lt) (-1000000000) 1000000000 (by simp)) Xua) ?_;rintro _ w3 ⟨rfl,hE⟩;have e:=btr e hE;refine Za rfl<|Zt aD fun a hf=>?_
 refine wp_ret (X2 hf (Xv hf rfl rfl) ?_)
 exact ⟨by simp [rOk,Bool.and_assoc],e⟩
theorem Xx4(w0:World)(x:Rg)(k:Int) : Ret Tryz.prog 166 [.agg #[vi x.a,vi x.b,vi x.c,vi x.d],vi k] w0 (fun v w=>v=rV (rTurn x k)∧Below w0.heap.size w0 w):=by
 refine enter Tryz.func166 rfl 24 rfl rfl ?_;intro a f
 have n:=bz w0
 refine Zs f fun _ aG=>?_;refine Zf (X0i (zs:=[vi x.a,vi x.b,vi x.c,vi x.d]) rfl rfl) ?_;rintro _ w1 ⟨b2,rfl,aH,hE,e⟩;have aA:=Nat.le_trans n.size aH;have n:=btr n hE;refine Zf (X8 (zs:=[vi 0,vi 0,vi 0,vi 0]) X1v rfl) ?_;rintro _ w2 ⟨b3,rfl,aI,hE,g⟩
 have aF:b2≠b3:=by have:=e.lt;omega
 have aB:=Nat.le_trans n.size aI;have e:=e.below hE;have n:=btr n hE;refine ZX aG fun a f _ aJ=>?_;refine Zs f fun _ aK=>?_;refine Zm rfl<|Ze (Xe8 rfl rfl rfl)<|Ze (X26 rfl rfl)<|Ze (Xe8 rfl rfl rfl)<|Za rfl ?_;refine Zt aK fun a f=>?_;refine wp_block ?_
 have hj:turns k=((turns k).toNat:Int):=by have:=X3c k;omega
 rw [show (wr (k.tmod 8+8)).tmod 8=turns k from rfl,hj] at f
 have aL:=(X3c k).2;refine X0b (σ:=Rg×Nat) (fun (s:Rg×Nat) (a:Act) (w:World)=>match s with|(y,j)=>Fr a 24 [(1,vi (j:Int)),(2,.pointer (some ⟨b2,0,none⟩)),(4,.pointer (some ⟨b3,0,none⟩))]∧(rTurnN j y=rTurn x k)∧(j<8)∧Blk w b2 93 [vi y.a,vi y.b,vi y.c,vi y.d]∧Blk w b3 93 [vi 0,vi 0,vi 0,vi 0]∧Below w0.heap.size w0 w) (fun (s:Rg×Nat)=>match s with|(y,j)=>j) (x,(turns k).toNat) ?_ ?_
 ·exact ⟨f.sb,rfl,(by omega),e,g,n⟩
 rintro ⟨y,j⟩ a w3 ⟨f,o,aL,e,g,n⟩;refine wp_seq_k fun _ aM=>?_;refine Zs f fun _ aN=>?_;refine Zm rfl<|Ze (X3a rfl rfl)<|Zt aN fun a f=>?_
 refine Xk f rfl (fun i=>?_) (fun i=>?_)
 ·have aC:=i;have i:=of_decide_eq_true i;refine wp_skip<|aM _ _<|wp_seq_k fun _ aO=>?_;refine wp_block<|Zr f<|Ze (Vd rfl X0k 3)<|Ze (X0 rfl X7 (e.at 3))<|Ze (Xjf rfl)<|Ze (Vd rfl X0j 0)<|Ze (X0 rfl X7 (e.at 0)) ?_;refine Ze (Vd rfl X0m 1)<|Ze (X0 rfl X7 (e.at 1))<|Ze (Vd rfl X0l 2)<|Ze (X0 rfl X7 (e.at 2))<|Ze (Xg (ps:=[(0,vi (wr (-y.d))),(1,vi y.a),(2,vi y.b),(3,vi y.c)]) (cs:=[vi (wr (-y.d)),vi y.a,vi y.b,vi y.c]) rfl (fun _=>by first|rfl|kernel_rfl)) ?_;refine Zo (Vw [vi (wr (-y.d)),vi y.a,vi y.b,vi y.c] X16 e) ?_;rintro _ w4 ⟨ho,hb⟩;have aD:=e;have g:=g.only ho (by omega);have n:=Below.only n ho aA;have e:=hb;refine Zn fun a f=>?_;refine Xt<|aO _ _<|Zr f<|Zm rfl<|Ze (X1h rfl rfl (by omega) (by omega))<|Za rfl ?_;refine Zn fun a f=>?_
  have aP:((j:Int)-1)=((j-1:Nat) : Int):=by omega
  rw [aP] at f
  refine Xp ?_;exact ⟨(rOm y,j-1),⟨f.sb,(by rw [← o];obtain ⟨m,rfl⟩ : ∃ m,j=m+1:=⟨j-1,by omega⟩;rfl),(by omega),e,g,n⟩,(by first|omega|(dsimp only;omega))⟩
 have aC:=i;have i:=of_decide_eq_false i;refine wp_exit<|Xl<|Xl<|X0a ?_;refine aJ _ _<|Zs f fun _ aE=>?_;refine Ze (Vn X0c e)<|Zo (Vw [vi y.a,vi y.b,vi y.c,vi y.d] X16 g) ?_;rintro _ w5 ⟨ho,hb⟩;have aD:=g;have n:=Below.only n ho aB;have g:=hb;refine Zt aE fun a f=>?_
 refine wp_ret (X2 f (Xv f rfl (ResV.cellN (l:=[vi y.a,vi y.b,vi y.c,vi y.d]) rfl X0c (g.at 0) rfl)) ?_)
 have aQ:j=0:=by omega
 subst aQ
 rw [← o]
 exact ⟨rfl,n⟩
theorem Xtx(w0:World)(x:Rg) : Ret Tryz.prog 197 [.agg #[vi x.a,vi x.b,vi x.c,vi x.d]] w0 (fun v w=>v=rV (rRoot x)∧Below w0.heap.size w0 w):=by
 refine enter Tryz.func197 rfl 24 rfl rfl ?_;intro a hf
 have f:=bz w0
 refine Zs hf fun _ aC=>?_;refine Zf (X0i (zs:=[vi x.a,vi x.b,vi x.c,vi x.d]) rfl rfl) ?_;rintro _ w1 ⟨b2,rfl,aD,hE,e⟩;have aG:=Nat.le_trans f.size aD;have f:=btr f hE;refine Zf (X8 (zs:=[vi 0,vi 0,vi 0,vi 0]) X1v rfl) ?_;rintro _ w2 ⟨b3,rfl,aE,hE,g⟩
 have aB:b2≠b3:=by have:=e.lt;omega
 have aA:=Nat.le_trans f.size aE;have e:=e.below hE;have f:=btr f hE;refine Zx aC fun a hf _ aF=>?_;refine Ze (Vd rfl X0m 1)<|Ze (X0 rfl X7 (e.at 1))<|Ze (Vd rfl X0k 3)<|Ze (X0 rfl X7 (e.at 3))<|Ze (X3u rfl rfl) ?_;refine Ze (Vd rfl X0j 0)<|Ze (X0 rfl X7 (e.at 0))<|Ze (Vd rfl X0l 2)<|Ze (X0 rfl X7 (e.at 2))<|Ze (X26 rfl rfl) ?_;refine Ze (Vd rfl X0m 1)<|Ze (X0 rfl X7 (e.at 1))<|Ze (Vd rfl X0k 3)<|Ze (X0 rfl X7 (e.at 3))<|Ze (X26 rfl rfl) ?_;refine Ze (Vd rfl X0l 2)<|Ze (X0 rfl X7 (e.at 2))<|Ze (Vd rfl X0j 0)<|Ze (X0 rfl X7 (e.at 0))<|Ze (X3u rfl rfl) ?_;refine Ze (Xg (ps:=[(0,vi (wr (x.b-x.d))),(1,vi (wr (x.a+x.c))),(2,vi (wr (x.b+x.d))),(3,vi (wr (x.c-x.a)))]) (cs:=[vi (wr (x.b-x.d)),vi (wr (x.a+x.c)),vi (wr (x.b+x.d)),vi (wr (x.c-x.a))]) rfl (fun _=>by first|rfl|kernel_rfl))<|Zo (Vw [vi (wr (x.b-x.d)),vi (wr (x.a+x.c)),vi (wr (x.b+x.d)),vi (wr (x.c-x.a))] X16 g) ?_;rintro _ w3 ⟨ho,hb⟩;have aH:=g;have f:=Below.only f ho aA;have g:=hb;refine Zt aF fun a hf=>?_
 refine wp_ret (X2 hf (Xv hf rfl (ResV.cellN (l:=[vi (wr (x.b-x.d)),vi (wr (x.a+x.c)),vi (wr (x.b+x.d)),vi (wr (x.c-x.a))]) rfl X0c (g.at 0) rfl)) ?_)
 exact ⟨rfl,f⟩
theorem Xye(w0:World)(x:Rg)(y:Rg) : Ret Tryz.prog 199 [.agg #[vi x.a,vi x.b,vi x.c,vi x.d],.agg #[vi y.a,vi y.b,vi y.c,vi y.d]] w0 (fun v w=>v=rV (rAdd x y)∧Below w0.heap.size w0 w):=by
 refine enter Tryz.func199 rfl 26 rfl rfl ?_;intro a hf
 have g:=bz w0
 refine Zs hf fun _ aE=>?_;refine Zf (X0i (zs:=[vi x.a,vi x.b,vi x.c,vi x.d]) rfl rfl) ?_;rintro _ w1 ⟨b2,rfl,aF,j,e⟩;have aJ:=Nat.le_trans g.size aF;have g:=btr g j;refine Zf (X0i (zs:=[vi y.a,vi y.b,vi y.c,vi y.d]) rfl rfl) ?_;rintro _ w2 ⟨b3,rfl,aG,j,f⟩
 have aB:b2≠b3:=by have:=e.lt;omega
 have aK:=Nat.le_trans g.size aG;have e:=e.below j;have g:=btr g j;refine Zf (X8 (zs:=[vi 0,vi 0,vi 0,vi 0]) X1v rfl) ?_;rintro _ w3 ⟨b4,rfl,aH,j,i⟩
 have aC:b2≠b4:=by have:=e.lt;omega
 have aD:b3≠b4:=by have:=f.lt;omega
 have aA:=Nat.le_trans g.size aH;have e:=e.below j;have f:=f.below j;have g:=btr g j;refine Zx aE fun a hf _ aI=>?_;refine Ze (Vd rfl X0j 0)<|Ze (X0 rfl X7 (e.at 0))<|Ze (Vd rfl X0j 0)<|Ze (X0 rfl X7 (f.at 0))<|Ze (X26 rfl rfl) ?_;refine Ze (Vd rfl X0m 1)<|Ze (X0 rfl X7 (e.at 1))<|Ze (Vd rfl X0m 1)<|Ze (X0 rfl X7 (f.at 1))<|Ze (X26 rfl rfl) ?_;refine Ze (Vd rfl X0l 2)<|Ze (X0 rfl X7 (e.at 2))<|Ze (Vd rfl X0l 2)<|Ze (X0 rfl X7 (f.at 2))<|Ze (X26 rfl rfl) ?_;refine Ze (Vd rfl X0k 3)<|Ze (X0 rfl X7 (e.at 3))<|Ze (Vd rfl X0k 3)<|Ze (X0 rfl X7 (f.at 3))<|Ze (X26 rfl rfl) ?_;refine Ze (Xg (ps:=[(0,vi (wr (x.a+y.a))),(1,vi (wr (x.b+y.b))),(2,vi (wr (x.c+y.c))),(3,vi (wr (x.d+y.d)))]) (cs:=[vi (wr (x.a+y.a)),vi (wr (x.b+y.b)),vi (wr (x.c+y.c)),vi (wr (x.d+y.d))]) rfl (fun _=>by first|rfl|kernel_rfl))<|Zo (Vw [vi (wr (x.a+y.a)),vi (wr (x.b+y.b)),vi (wr (x.c+y.c)),vi (wr (x.d+y.d))] X16 i) ?_;rintro _ w4 ⟨ho,hb⟩;have aL:=i;have g:=Below.only g ho aA;have i:=hb;refine Zt aI fun a hf=>?_
 refine wp_ret (X2 hf (Xv hf rfl (ResV.cellN (l:=[vi (wr (x.a+y.a)),vi (wr (x.b+y.b)),vi (wr (x.c+y.c)),vi (wr (x.d+y.d))]) rfl X0c (i.at 0) rfl)) ?_)
 exact ⟨rfl,g⟩
theorem Xyj(w0:World)(x:Rg)(y:Rg) : Ret Tryz.prog 200 [.agg #[vi x.a,vi x.b,vi x.c,vi x.d],.agg #[vi y.a,vi y.b,vi y.c,vi y.d]] w0 (fun v w=>v=rV (rMul x y)∧Below w0.heap.size w0 w):=by
 refine enter Tryz.func200 rfl 98 rfl rfl ?_;intro a hf
 have g:=bz w0
 refine Zs hf fun _ aE=>?_;refine Zf (X0i (zs:=[vi x.a,vi x.b,vi x.c,vi x.d]) rfl rfl) ?_;rintro _ w1 ⟨b2,rfl,aF,j,e⟩;have aJ:=Nat.le_trans g.size aF;have g:=btr g j;refine Zf (X0i (zs:=[vi y.a,vi y.b,vi y.c,vi y.d]) rfl rfl) ?_;rintro _ w2 ⟨b3,rfl,aG,j,f⟩
 have aB:b2≠b3:=by have:=e.lt;omega
 have aK:=Nat.le_trans g.size aG;have e:=e.below j;have g:=btr g j;refine Zf (X8 (zs:=[vi 0,vi 0,vi 0,vi 0]) X1v rfl) ?_;rintro _ w3 ⟨b4,rfl,aH,j,i⟩
 have aC:b2≠b4:=by have:=e.lt;omega
 have aD:b3≠b4:=by have:=f.lt;omega
 have aA:=Nat.le_trans g.size aH;have e:=e.below j;have f:=f.below j;have g:=btr g j;refine Zx aE fun a hf _ aI=>?_;refine Ze (Vd rfl X0j 0)<|Ze (X0 rfl X7 (e.at 0))<|Ze (Vd rfl X0j 0)<|Ze (X0 rfl X7 (f.at 0))<|Ze (X25 rfl rfl) ?_;refine Ze (Vd rfl X0m 1)<|Ze (X0 rfl X7 (e.at 1))<|Ze (Vd rfl X0k 3)<|Ze (X0 rfl X7 (f.at 3))<|Ze (X25 rfl rfl) ?_;refine Ze (X3u rfl rfl)<|Ze (Vd rfl X0l 2)<|Ze (X0 rfl X7 (e.at 2))<|Ze (Vd rfl X0l 2)<|Ze (X0 rfl X7 (f.at 2)) ?_;refine Ze (X25 rfl rfl)<|Ze (X3u rfl rfl)<|Ze (Vd rfl X0k 3)<|Ze (X0 rfl X7 (e.at 3))<|Ze (Vd rfl X0m 1) ?_;refine Ze (X0 rfl X7 (f.at 1))<|Ze (X25 rfl rfl)<|Ze (X3u rfl rfl)<|Ze (Vd rfl X0j 0)<|Ze (X0 rfl X7 (e.at 0)) ?_;refine Ze (Vd rfl X0m 1)<|Ze (X0 rfl X7 (f.at 1))<|Ze (X25 rfl rfl)<|Ze (Vd rfl X0m 1)<|Ze (X0 rfl X7 (e.at 1)) ?_;refine Ze (Vd rfl X0j 0)<|Ze (X0 rfl X7 (f.at 0))<|Ze (X25 rfl rfl)<|Ze (X26 rfl rfl)<|Ze (Vd rfl X0l 2) ?_;refine Ze (X0 rfl X7 (e.at 2))<|Ze (Vd rfl X0k 3)<|Ze (X0 rfl X7 (f.at 3))<|Ze (X25 rfl rfl)<|Ze (X3u rfl rfl) ?_;refine Ze (Vd rfl X0k 3)<|Ze (X0 rfl X7 (e.at 3))<|Ze (Vd rfl X0l 2)<|Ze (X0 rfl X7 (f.at 2))<|Ze (X25 rfl rfl) ?_;refine Ze (X3u rfl rfl)<|Ze (Vd rfl X0j 0)<|Ze (X0 rfl X7 (e.at 0))<|Ze (Vd rfl X0l 2)<|Ze (X0 rfl X7 (f.at 2)) ?_;refine Ze (X25 rfl rfl)<|Ze (Vd rfl X0m 1)<|Ze (X0 rfl X7 (e.at 1))<|Ze (Vd rfl X0m 1)<|Ze (X0 rfl X7 (f.at 1)) ?_;refine Ze (X25 rfl rfl)<|Ze (X26 rfl rfl)<|Ze (Vd rfl X0l 2)<|Ze (X0 rfl X7 (e.at 2))<|Ze (Vd rfl X0j 0) ?_;refine Ze (X0 rfl X7 (f.at 0))<|Ze (X25 rfl rfl)<|Ze (X26 rfl rfl)<|Ze (Vd rfl X0k 3)<|Ze (X0 rfl X7 (e.at 3)) ?_
 refine Ze (Vd rfl X0k 3)<|Ze (X0 rfl X7 (f.at 3))<|Ze (X25 rfl rfl)<|Ze (X3u rfl rfl)<|Ze (Vd rfl X0j 0) ?_;refine Ze (X0 rfl X7 (e.at 0))<|Ze (Vd rfl X0k 3)<|Ze (X0 rfl X7 (f.at 3))<|Ze (X25 rfl rfl)<|Ze (Vd rfl X0m 1) ?_;refine Ze (X0 rfl X7 (e.at 1))<|Ze (Vd rfl X0l 2)<|Ze (X0 rfl X7 (f.at 2))<|Ze (X25 rfl rfl)<|Ze (X26 rfl rfl) ?_;refine Ze (Vd rfl X0l 2)<|Ze (X0 rfl X7 (e.at 2))<|Ze (Vd rfl X0m 1)<|Ze (X0 rfl X7 (f.at 1))<|Ze (X25 rfl rfl) ?_;refine Ze (X26 rfl rfl)<|Ze (Vd rfl X0k 3)<|Ze (X0 rfl X7 (e.at 3))<|Ze (Vd rfl X0j 0)<|Ze (X0 rfl X7 (f.at 0)) ?_;refine Ze (X25 rfl rfl)<|Ze (X26 rfl rfl)<|Ze (Xg (ps:=[(0,vi (wr ((wr ((wr ((wr (x.a*y.a))-(wr (x.b*y.d))))-(wr (x.c*y.c))))-(wr (x.d*y.b))))),(1,vi (wr ((wr ((wr ((wr (x.a*y.b))+(wr (x.b*y.a))))-(wr (x.c*y.d))))-(wr (x.d*y.c))))),(2,vi (wr ((wr ((wr ((wr (x.a*y.c))+(wr (x.b*y.b))))+(wr (x.c*y.a))))-(wr (x.d*y.d))))),(3,vi (wr ((wr ((wr ((wr (x.a*y.d))+(wr (x.b*y.c))))+(wr (x.c*y.b))))+(wr (x.d*y.a)))))]) (cs:=[vi (wr ((wr ((wr ((wr (x.a*y.a))-(wr (x.b*y.d))))-(wr (x.c*y.c))))-(wr (x.d*y.b)))),vi (wr ((wr ((wr ((wr (x.a*y.b))+(wr (x.b*y.a))))-(wr (x.c*y.d))))-(wr (x.d*y.c)))),vi (wr ((wr ((wr ((wr (x.a*y.c))+(wr (x.b*y.b))))+(wr (x.c*y.a))))-(wr (x.d*y.d)))),vi (wr ((wr ((wr ((wr (x.a*y.d))+(wr (x.b*y.c))))+(wr (x.c*y.b))))+(wr (x.d*y.a))))]) rfl (fun _=>by first|rfl|kernel_rfl))<|Zo (Vw [vi (wr ((wr ((wr ((wr (x.a*y.a))-(wr (x.b*y.d))))-(wr (x.c*y.c))))-(wr (x.d*y.b)))),vi (wr ((wr ((wr ((wr (x.a*y.b))+(wr (x.b*y.a))))-(wr (x.c*y.d))))-(wr (x.d*y.c)))),vi (wr ((wr ((wr ((wr (x.a*y.c))+(wr (x.b*y.b))))+(wr (x.c*y.a))))-(wr (x.d*y.d)))),vi (wr ((wr ((wr ((wr (x.a*y.d))+(wr (x.b*y.c))))+(wr (x.c*y.b))))+(wr (x.d*y.a))))] X16 i) ?_;rintro _ w4 ⟨ho,hb⟩
 have aL:=i;have g:=Below.only g ho aA;have i:=hb;refine Zt aI fun a hf=>?_
 refine wp_ret (X2 hf (Xv hf rfl (ResV.cellN (l:=[vi (wr ((wr ((wr ((wr (x.a*y.a))-(wr (x.b*y.d))))-(wr (x.c*y.c))))-(wr (x.d*y.b)))),vi (wr ((wr ((wr ((wr (x.a*y.b))+(wr (x.b*y.a))))-(wr (x.c*y.d))))-(wr (x.d*y.c)))),vi (wr ((wr ((wr ((wr (x.a*y.c))+(wr (x.b*y.b))))+(wr (x.c*y.a))))-(wr (x.d*y.d)))),vi (wr ((wr ((wr ((wr (x.a*y.d))+(wr (x.b*y.c))))+(wr (x.c*y.b))))+(wr (x.d*y.a))))]) rfl X0c (i.at 0) rfl)) ?_)
 exact ⟨rfl,g⟩
theorem Xyn(w0:World)(x:Rg) : Ret Tryz.prog 247 [.agg #[vi x.a,vi x.b,vi x.c,vi x.d]] w0 (fun v w=>v=rV (rNeg x)∧Below w0.heap.size w0 w):=by
 refine enter Tryz.func247 rfl 16 rfl rfl ?_;intro a hf
 have f:=bz w0
 refine Zs hf fun _ aC=>?_;refine Zf (X0i (zs:=[vi x.a,vi x.b,vi x.c,vi x.d]) rfl rfl) ?_;rintro _ w1 ⟨b2,rfl,aD,hE,e⟩;have aG:=Nat.le_trans f.size aD;have f:=btr f hE;refine Zf (X8 (zs:=[vi 0,vi 0,vi 0,vi 0]) X1v rfl) ?_;rintro _ w2 ⟨b3,rfl,aE,hE,g⟩
 have aB:b2≠b3:=by have:=e.lt;omega
 have aA:=Nat.le_trans f.size aE;have e:=e.below hE;have f:=btr f hE;refine Zx aC fun a hf _ aF=>?_;refine Ze (Vd rfl X0j 0)<|Ze (X0 rfl X7 (e.at 0))<|Ze (Xjf rfl)<|Ze (Vd rfl X0m 1)<|Ze (X0 rfl X7 (e.at 1)) ?_;refine Ze (Xjf rfl)<|Ze (Vd rfl X0l 2)<|Ze (X0 rfl X7 (e.at 2))<|Ze (Xjf rfl)<|Ze (Vd rfl X0k 3) ?_;refine Ze (X0 rfl X7 (e.at 3))<|Ze (Xjf rfl)<|Ze (Xg (ps:=[(0,vi (wr (-x.a))),(1,vi (wr (-x.b))),(2,vi (wr (-x.c))),(3,vi (wr (-x.d)))]) (cs:=[vi (wr (-x.a)),vi (wr (-x.b)),vi (wr (-x.c)),vi (wr (-x.d))]) rfl (fun _=>by first|rfl|kernel_rfl))<|Zo (Vw [vi (wr (-x.a)),vi (wr (-x.b)),vi (wr (-x.c)),vi (wr (-x.d))] X16 g) ?_;rintro _ w3 ⟨ho,hb⟩;have aH:=g;have f:=Below.only f ho aA;have g:=hb;refine Zt aF fun a hf=>?_
 refine wp_ret (X2 hf (Xv hf rfl (ResV.cellN (l:=[vi (wr (-x.a)),vi (wr (-x.b)),vi (wr (-x.c)),vi (wr (-x.d))]) rfl X0c (g.at 0) rfl)) ?_)
 exact ⟨rfl,f⟩
theorem Xyz(w0:World)(x:Rg) : Ret Tryz.prog 103 [.agg #[vi x.a,vi x.b,vi x.c,vi x.d]] w0 (fun v w=>v=.bool (rEven x)∧Below w0.heap.size w0 w):=by
 refine enter Tryz.func103 rfl 19 rfl rfl ?_;intro a f
 have hW:=bz w0
 refine Zs f fun _ aA=>?_;refine Zf (X0i (zs:=[vi x.a,vi x.b,vi x.c,vi x.d]) rfl rfl) ?_;rintro _ w1 ⟨b2,rfl,aB,hE,g⟩;have aD:=Nat.le_trans hW.size aB;have hW:=btr hW hE;refine Za rfl<|ZX aA fun a f _ aC=>?_;refine X0o (fun a w=>Fr a 19 [(2,.bool ((((wr (x.a+x.c)).tmod 2)==0)&&(((wr (x.b+x.d)).tmod 2)==0)))]∧w1=w) ?_ ?_
 ·refine Zr f<|Ze (Vd rfl X0j 0)<|Ze (X0 rfl X7 (g.at 0))<|Ze (Vd rfl X0l 2)<|Ze (X0 rfl X7 (g.at 2))<|Ze (X26 rfl rfl) ?_;refine Ze (Xe8 rfl rfl rfl)<|Ze (X13 rfl rfl)<|Zm rfl ?_
  refine Zg 10 rfl (fun e=>?_) (fun e=>?_)
  ·refine Zv (gW e) (Vd rfl X0m 1) ?_;refine Zv (gW e) (X0 rfl X7 (g.at 1)) ?_;refine Zv (gW e) (Vd rfl X0k 3) ?_;refine Zv (gW e) (X0 rfl X7 (g.at 3)) ?_;refine Zv (gW e) (X26 rfl rfl) ?_;refine Zv (gW e) (Xe8 rfl rfl rfl) ?_;refine Zv (gW e) (X13 rfl rfl) ?_;refine Ze (Xn rfl e rfl)<|Za rfl ?_;refine Zn fun a f=>?_;exact ⟨f.sub ⟨X1 rfl (by first|rfl|(simp only [e,bs];done)|simp [e]),trivial⟩,rfl⟩
  refine Zp (gP e) ?_;refine Zp (gP e) ?_;refine Zp (gP e) ?_;refine Zp (gP e) ?_;refine Zp (gP e) ?_;refine Zp (gP e) ?_;refine Zp (gP e) ?_;refine Ze (Xj rfl e rfl)<|Za rfl ?_;refine Zn fun a f=>?_;exact ⟨f.sub ⟨X1 rfl (by first|rfl|(simp only [e,bs];done)|simp [e]),trivial⟩,rfl⟩
 rintro a _ ⟨f,rfl⟩;refine aC _ _ ?_
 refine wp_ret (X2 f (Xv f rfl rfl) ?_)
 exact ⟨rfl,hW⟩
theorem Xu8(w0:World)(x:Rg) : Ret Tryz.prog 173 [.agg #[vi x.a,vi x.b,vi x.c,vi x.d]] w0 (fun v w=>v=.bool (rEven x)∧Below w0.heap.size w0 w):=by
 refine enter Tryz.func173 rfl 19 rfl rfl ?_;intro a f
 have hW:=bz w0
 refine Zs f fun _ aA=>?_;refine Zf (X0i (zs:=[vi x.a,vi x.b,vi x.c,vi x.d]) rfl rfl) ?_;rintro _ w1 ⟨b2,rfl,aB,hE,g⟩;have aD:=Nat.le_trans hW.size aB;have hW:=btr hW hE;refine Za rfl<|ZX aA fun a f _ aC=>?_;refine X0o (fun a w=>Fr a 19 [(2,.bool ((((wr (x.a+x.c)).tmod 2)==0)&&(((wr (x.b+x.d)).tmod 2)==0)))]∧w1=w) ?_ ?_
 ·refine Zr f<|Ze (Vd rfl X0j 0)<|Ze (X0 rfl X7 (g.at 0))<|Ze (Vd rfl X0l 2)<|Ze (X0 rfl X7 (g.at 2))<|Ze (X26 rfl rfl) ?_;refine Ze (Xe8 rfl rfl rfl)<|Ze (X13 rfl rfl)<|Zm rfl ?_
  refine Zg 10 rfl (fun e=>?_) (fun e=>?_)
  ·refine Zv (gW e) (Vd rfl X0m 1) ?_;refine Zv (gW e) (X0 rfl X7 (g.at 1)) ?_;refine Zv (gW e) (Vd rfl X0k 3) ?_;refine Zv (gW e) (X0 rfl X7 (g.at 3)) ?_;refine Zv (gW e) (X26 rfl rfl) ?_;refine Zv (gW e) (Xe8 rfl rfl rfl) ?_;refine Zv (gW e) (X13 rfl rfl) ?_;refine Ze (Xn rfl e rfl)<|Za rfl ?_;refine Zn fun a f=>?_;exact ⟨f.sub ⟨X1 rfl (by first|rfl|(simp only [e,bs];done)|simp [e]),trivial⟩,rfl⟩
  refine Zp (gP e) ?_;refine Zp (gP e) ?_;refine Zp (gP e) ?_;refine Zp (gP e) ?_;refine Zp (gP e) ?_;refine Zp (gP e) ?_;refine Zp (gP e) ?_;refine Ze (Xj rfl e rfl)<|Za rfl ?_;refine Zn fun a f=>?_;exact ⟨f.sub ⟨X1 rfl (by first|rfl|(simp only [e,bs];done)|simp [e]),trivial⟩,rfl⟩
 rintro a _ ⟨f,rfl⟩;refine aC _ _ ?_
 refine wp_ret (X2 f (Xv f rfl rfl) ?_)
 exact ⟨rfl,hW⟩
theorem Xyc(w0:World)(x:Rg) : Ret Tryz.prog 220 [.agg #[vi x.a,vi x.b,vi x.c,vi x.d]] w0 (fun v w=>v=rV (rHalf x)∧Below w0.heap.size w0 w):=by
 refine enter Tryz.func220 rfl 19 rfl rfl ?_;intro a hf
 have f:=bz w0
 refine Zs hf fun _ aG=>?_;refine Zf (X0i (zs:=[vi x.a,vi x.b,vi x.c,vi x.d]) rfl rfl) ?_;rintro _ w1 ⟨b2,rfl,aH,j,g⟩;have aM:=Nat.le_trans f.size aH;have f:=btr f j;refine Zf (X8 (zs:=[vi 0,vi 0,vi 0,vi 0]) X1v rfl) ?_;rintro _ w2 ⟨b3,rfl,aI,j,e⟩
 have aD:b2≠b3:=by have:=g.lt;omega
 have aA:=Nat.le_trans f.size aI;have g:=g.below j;have f:=btr f j;refine Zx aG fun a hf _ aJ=>?_;refine Ze (Vn X0c g)<|Zf (Vc (Xtx _ x) Xf4) ?_;rintro _ w3 ⟨rfl,j⟩;have g:=g.below j;have e:=e.below j;have f:=btr f j;refine Zf (X8 (zs:=[vi 0,vi 0,vi 0,vi 0]) X1v rfl) ?_;rintro _ w4 ⟨b5,rfl,aK,j,i⟩
 have aE:b2≠b5:=by have:=g.lt;omega
 have aF:b3≠b5:=by have:=e.lt;omega
 have aB:=Nat.le_trans f.size aK;have e:=e.below j;have f:=btr f j;refine Zo (Vw [vi ((rRoot x).a),vi ((rRoot x).b),vi ((rRoot x).c),vi ((rRoot x).d)] X16 i) ?_;rintro _ w5 ⟨ho,hb⟩;have aC:=i;have e:=e.only ho (by omega);have f:=Below.only f ho aB;have i:=hb;refine Zx aJ fun a hf _ aL=>?_;refine Ze (Vd rfl X0j 0)<|Ze (X0 rfl X7 (i.at 0))<|Ze (Xcu rfl rfl rfl)<|Ze (Vd rfl X0m 1)<|Ze (X0 rfl X7 (i.at 1)) ?_;refine Ze (Xcu rfl rfl rfl)<|Ze (Vd rfl X0l 2)<|Ze (X0 rfl X7 (i.at 2))<|Ze (Xcu rfl rfl rfl)<|Ze (Vd rfl X0k 3) ?_;refine Ze (X0 rfl X7 (i.at 3))<|Ze (Xcu rfl rfl rfl)<|Ze (Xg (ps:=[(0,vi (wr (((rRoot x).a).tdiv 2))),(1,vi (wr (((rRoot x).b).tdiv 2))),(2,vi (wr (((rRoot x).c).tdiv 2))),(3,vi (wr (((rRoot x).d).tdiv 2)))]) (cs:=[vi (wr (((rRoot x).a).tdiv 2)),vi (wr (((rRoot x).b).tdiv 2)),vi (wr (((rRoot x).c).tdiv 2)),vi (wr (((rRoot x).d).tdiv 2))]) rfl (fun _=>by first|rfl|kernel_rfl))<|Zo (Vw [vi (wr (((rRoot x).a).tdiv 2)),vi (wr (((rRoot x).b).tdiv 2)),vi (wr (((rRoot x).c).tdiv 2)),vi (wr (((rRoot x).d).tdiv 2))] X16 e) ?_;rintro _ w6 ⟨ho,hb⟩;have aC:=e;have f:=Below.only f ho aA;have e:=hb;refine Zt aL fun a hf=>?_
 refine wp_ret (X2 hf (Xv hf rfl (ResV.cellN (l:=[vi (wr (((rRoot x).a).tdiv 2)),vi (wr (((rRoot x).b).tdiv 2)),vi (wr (((rRoot x).c).tdiv 2)),vi (wr (((rRoot x).d).tdiv 2))]) rfl X0c (e.at 0) rfl)) ?_)
 exact ⟨rfl,f⟩
theorem Xq0(w0:World)(n:Int) : Ret Tryz.prog 203 [vi n] w0 (fun v w=>v=.bool (inR n (-1000000000) 1000000000)∧w0=w):=by
 refine enter Tryz.func203 rfl 5 rfl rfl ?_;intro a hf
 have hW:=bz w0
 refine Zs hf fun _ aA=>?_;refine Za rfl<|Zx aA fun a hf _ aB=>?_;refine Zm rfl<|Zf (Vc (F91 _ n (-1000000000) 1000000000) X38) ?_;rintro _ _ ⟨rfl,rfl⟩;refine Za rfl<|Zt aB fun a hf=>?_
 refine wp_ret (X2 hf (Xv hf rfl rfl) ?_)
 exact ⟨rfl,rfl⟩
theorem Xjq(w0:World)(x:Rg) : Ret Tryz.prog 170 [.agg #[vi x.a,vi x.b,vi x.c,vi x.d]] w0 (fun v w=>v=.bool (rOk x)∧Below w0.heap.size w0 w):=by
 refine enter Tryz.func170 rfl 21 rfl rfl ?_;intro a i
 have hW:=bz w0
 refine Zs i fun _ aA=>?_;refine Zf (X0i (zs:=[vi x.a,vi x.b,vi x.c,vi x.d]) rfl rfl) ?_;rintro _ w1 ⟨b2,rfl,aB,hE,j⟩;have aD:=Nat.le_trans hW.size aB;have hW:=btr hW hE;refine Za rfl<|ZX aA fun a i _ aC=>?_;refine X0o (fun a w=>Fr a 21 [(2,.bool ((((inR x.a (-1000000000) 1000000000)&&(inR x.b (-1000000000) 1000000000))&&(inR x.c (-1000000000) 1000000000))&&(inR x.d (-1000000000) 1000000000)))]∧w1=w) ?_ ?_
 ·refine Zr i<|Ze (Vd rfl X0j 0)<|Ze (X0 rfl X7 (j.at 0))<|Zf (Vc (Xq0 _ x.a) Xbx) ?_;rintro _ _ ⟨rfl,rfl⟩;refine Zm rfl ?_
  refine Zg 6 rfl (fun e=>?_) (fun e=>?_)
  ·refine Zv (gW e) (Vd rfl X0m 1) ?_;refine Zv (gW e) (X0 rfl X7 (j.at 1)) ?_;refine Zk (gW e) (Vc (Xq0 _ x.b) Xbx) ?_;rintro _ _ ⟨rfl,rfl⟩;refine Ze (Xn rfl e rfl)<|Zm rfl ?_
   refine Zg 11 rfl (fun f=>?_) (fun f=>?_)
   ·refine Zv (gW f) (Vd rfl X0l 2) ?_;refine Zv (gW f) (X0 rfl X7 (j.at 2)) ?_;refine Zk (gW f) (Vc (Xq0 _ x.c) Xbx) ?_;rintro _ _ ⟨rfl,rfl⟩;refine Ze (Xn rfl f rfl)<|Zm rfl ?_
    refine Zg 16 rfl (fun g=>?_) (fun g=>?_)
    ·refine Zv (gW g) (Vd rfl X0k 3) ?_;refine Zv (gW g) (X0 rfl X7 (j.at 3)) ?_;refine Zk (gW g) (Vc (Xq0 _ x.d) Xbx) ?_;rintro _ _ ⟨rfl,rfl⟩;refine Ze (Xn rfl g rfl)<|Za rfl ?_;refine Zn fun a i=>?_;exact ⟨i.sub ⟨X1 rfl (by first|rfl|(simp only [e,f,g,bs];done)|simp [e,f,g]),trivial⟩,rfl⟩
    refine Zp (gP g) ?_;refine Zp (gP g) ?_;refine Zp (gP g) ?_;refine Ze (Xj rfl g rfl)<|Za rfl ?_;refine Zn fun a i=>?_;exact ⟨i.sub ⟨X1 rfl (by first|rfl|(simp only [e,f,g,bs];done)|simp [e,f,g]),trivial⟩,rfl⟩
   refine Zp (gP f) ?_;refine Zp (gP f) ?_;refine Zp (gP f) ?_;refine Ze (Xj rfl f rfl)<|Zm rfl<|Zp (gP rfl) ?_;refine Zp (gP rfl) ?_;refine Zp (gP rfl) ?_;refine Ze (Xj rfl rfl rfl)<|Za rfl ?_;refine Zn fun a i=>?_;exact ⟨i.sub ⟨X1 rfl (by first|rfl|(simp only [e,f,bs];done)|simp [e,f]),trivial⟩,rfl⟩
  refine Zp (gP e) ?_;refine Zp (gP e) ?_;refine Zp (gP e) ?_;refine Ze (Xj rfl e rfl)<|Zm rfl<|Zp (gP rfl) ?_;refine Zp (gP rfl) ?_;refine Zp (gP rfl) ?_;refine Ze (Xj rfl rfl rfl)<|Zm rfl<|Zp (gP rfl) ?_;refine Zp (gP rfl) ?_;refine Zp (gP rfl) ?_;refine Ze (Xj rfl rfl rfl)<|Za rfl ?_;refine Zn fun a i=>?_;exact ⟨i.sub ⟨X1 rfl (by first|rfl|(simp only [e,bs];done)|simp [e]),trivial⟩,rfl⟩
 rintro a _ ⟨i,rfl⟩;refine aC _ _ ?_
 refine wp_ret (X2 i (Xv i rfl rfl) ?_)
 exact ⟨by simp [rOk, *],hW⟩
theorem Xdm(w0:World)(k:Int) : Ret Tryz.prog 108 [vi k] w0 (fun v w=>v=dV (dPow k)∧Below w0.heap.size w0 w):=by
 refine enter Tryz.func108 rfl 7 rfl rfl ?_;intro a hf
 have f:=bz w0
 refine Zs hf fun _ aB=>?_;refine Zf (X8 (zs:=[vi 0,vi 0,vi 0,vi 0,vi 0]) X1i rfl) ?_;rintro _ w1 ⟨b2,rfl,aC,hE,e⟩;have aA:=Nat.le_trans f.size aC;have f:=btr f hE;refine Zx aB fun a hf _ aD=>?_;refine Ze (Xg (ps:=[(0,vi 1)]) (cs:=[vi 1,vi 0,vi 0,vi 0]) rfl (fun _=>by first|rfl|kernel_rfl))<|Zm rfl<|Zf (Vc (Xx4 _ (⟨1,0,0,0⟩ : Rg) k) Xls) ?_;rintro _ w2 ⟨rfl,hE⟩;have e:=e.below hE;have f:=btr f hE;refine Ze (Xg (ps:=[(0,.agg #[vi ((rTurn (⟨1,0,0,0⟩ : Rg) k).a),vi ((rTurn (⟨1,0,0,0⟩ : Rg) k).b),vi ((rTurn (⟨1,0,0,0⟩ : Rg) k).c),vi ((rTurn (⟨1,0,0,0⟩ : Rg) k).d)])]) (cs:=[vi ((rTurn (⟨1,0,0,0⟩ : Rg) k).a),vi ((rTurn (⟨1,0,0,0⟩ : Rg) k).b),vi ((rTurn (⟨1,0,0,0⟩ : Rg) k).c),vi ((rTurn (⟨1,0,0,0⟩ : Rg) k).d),vi 0]) rfl (fun _=>by first|rfl|kernel_rfl))<|Zo (Vw [vi ((rTurn (⟨1,0,0,0⟩ : Rg) k).a),vi ((rTurn (⟨1,0,0,0⟩ : Rg) k).b),vi ((rTurn (⟨1,0,0,0⟩ : Rg) k).c),vi ((rTurn (⟨1,0,0,0⟩ : Rg) k).d),vi 0] X01 e) ?_;rintro _ w3 ⟨ho,hb⟩;have aE:=e;have f:=Below.only f ho aA;have e:=hb;refine Zt aD fun a hf=>?_
 refine wp_ret (X2 hf (Xv hf rfl (ResV.cellN (l:=[vi ((rTurn (⟨1,0,0,0⟩ : Rg) k).a),vi ((rTurn (⟨1,0,0,0⟩ : Rg) k).b),vi ((rTurn (⟨1,0,0,0⟩ : Rg) k).c),vi ((rTurn (⟨1,0,0,0⟩ : Rg) k).d),vi 0]) rfl Xm (e.at 0) rfl)) ?_)
 exact ⟨rfl,f⟩
theorem Xza(w0:World)(x:Dy) : Ret Tryz.prog 221 [.agg #[vi x.num.a,vi x.num.b,vi x.num.c,vi x.num.d,vi x.exp]] w0 (fun v w=>v=dV (dNeg x)∧Below w0.heap.size w0 w):=by
 refine enter Tryz.func221 rfl 9 rfl rfl ?_;intro a hf
 have g:=bz w0
 refine Zs hf fun _ aC=>?_;refine Zf (X0i (zs:=[vi x.num.a,vi x.num.b,vi x.num.c,vi x.num.d,vi x.exp]) rfl rfl) ?_;rintro _ w1 ⟨b2,rfl,aD,i,f⟩;have aG:=Nat.le_trans g.size aD;have g:=btr g i;refine Zf (X8 (zs:=[vi 0,vi 0,vi 0,vi 0,vi 0]) X1i rfl) ?_;rintro _ w2 ⟨b3,rfl,aE,i,e⟩
 have aB:b2≠b3:=by have:=f.lt;omega
 have aA:=Nat.le_trans g.size aE;have f:=f.below i;have g:=btr g i;refine ZX aC fun a hf _ aF=>?_;refine X0h none (fun j=>[6].contains j) mixed ?_;intro w3 i;have f:=f.below i;have e:=e.below i;have g:=btr g i;refine Yb hf<|Yo 0 rfl (fun _=>Vd rfl X1e 0)<|Ye 1 rfl (X07 (l:=[vi x.num.a,vi x.num.b,vi x.num.c,vi x.num.d]) rfl X0c ((f.at 0).take 4) rfl)<|Yo 3 rfl (fun _=>Vd rfl X1c 4)<|Ye 4 rfl (X0 rfl X7 (f.at 4))<|Y1 2 ?_;refine Yk rfl trivial (Vc (Xyn _ x.num) Xts) (fun _ _ ⟨_,i⟩=>i) ?_;rintro _ w4 ⟨rfl,i⟩;have e:=e.below i;have g:=btr g i;refine Yo 5 rfl (fun _=>Xg (ps:=[(0,.agg #[vi ((rNeg x.num).a),vi ((rNeg x.num).b),vi ((rNeg x.num).c),vi ((rNeg x.num).d)]),(1,vi x.exp)]) (cs:=[vi ((rNeg x.num).a),vi ((rNeg x.num).b),vi ((rNeg x.num).c),vi ((rNeg x.num).d),vi x.exp]) rfl (fun _=>by first|rfl|kernel_rfl))<|Y1 6 ?_;refine Yh rfl trivial rfl (Vw [vi ((rNeg x.num).a),vi ((rNeg x.num).b),vi ((rNeg x.num).c),vi ((rNeg x.num).d),vi x.exp] X01 e) ?_;rintro _ w5 ⟨ho,hb⟩;have aH:=e;have g:=Below.only g ho aA;have e:=hb;refine Yd fun a hf=>?_;refine aF _ _ ?_
 refine wp_ret (X2 hf (Xv hf rfl (ResV.cellN (l:=[vi ((rNeg x.num).a),vi ((rNeg x.num).b),vi ((rNeg x.num).c),vi ((rNeg x.num).d),vi x.exp]) rfl Xm (e.at 0) rfl)) ?_)
 exact ⟨rfl,g⟩
theorem F59(w0:World)(b:Bool) : Ret Tryz.prog 129 [.bool b] w0 (fun v w=>v=vi (if b=true then 1 else 0)∧w0=w):=by
 refine enter Tryz.func129 rfl 4 rfl rfl ?_;intro a c
 have hW:=bz w0
 refine Zs c fun _ aC=>?_;refine Za rfl<|ZX aC fun a c _ aD=>?_;refine Zs c fun _ aE=>?_;refine Zm rfl<|Zt aE fun a c=>?_
 refine Xk c rfl (fun aA=>?_) (fun aA=>?_)
 ·have aB:=aA;refine Zs c fun _ aF=>?_;refine Za rfl<|Zt aF fun a c=>?_;refine wp_ret<|X3<|X2 c (Xv c rfl rfl) ?_;exact ⟨by simp [*],rfl⟩
 have aB:=aA;refine wp_skip<|aD _ _<|Zs c fun _ aG=>?_;refine Za rfl<|Zt aG fun a c=>?_
 refine wp_ret (X2 c (Xv c rfl rfl) ?_)
 exact ⟨by simp [*],rfl⟩
theorem Xta(w0:World)(n:Int) : Ret Tryz.prog 125 [vi n] w0 (fun v w=>v=dV (⟨⟨n,0,0,0⟩,0⟩ : Dy)∧Below w0.heap.size w0 w):=by
 refine enter Tryz.func125 rfl 6 rfl rfl ?_;intro a hf
 have hW:=bz w0
 refine Zs hf fun _ aB=>?_;refine Zf (X8 (zs:=[vi 0,vi 0,vi 0,vi 0,vi 0]) X1i rfl) ?_;rintro _ w1 ⟨b2,rfl,aC,hE,b⟩;have aA:=Nat.le_trans hW.size aC;have hW:=btr hW hE;refine Zx aB fun a hf _ aD=>?_;refine Zm rfl<|Ze (Xg (ps:=[(0,vi n)]) (cs:=[vi n,vi 0,vi 0,vi 0]) rfl (fun _=>by first|rfl|kernel_rfl))<|Ze (Xg (ps:=[(0,.agg #[vi n,vi 0,vi 0,vi 0])]) (cs:=[vi n,vi 0,vi 0,vi 0,vi 0]) rfl (fun _=>by first|rfl|kernel_rfl))<|Zo (Vw [vi n,vi 0,vi 0,vi 0,vi 0] X01 b) ?_;rintro _ w2 ⟨ho,hb⟩;have aE:=b;have hW:=Below.only hW ho aA;have b:=hb;refine Zt aD fun a hf=>?_
 refine wp_ret (X2 hf (Xv hf rfl (ResV.cellN (l:=[vi n,vi 0,vi 0,vi 0,vi 0]) rfl Xm (b.at 0) rfl)) ?_)
 exact ⟨rfl,hW⟩
theorem Xrd(A:World)(x:Rg)(Al:Option Addr)(cl:Nat)(l:List Rg)(p:Rd A A.heap.size 93 encR Al l)(hc:cl=l.length)(b5:l≠[])(bG:l.length≤1000) : Ret Tryz.prog 208 [.agg #[vi x.a,vi x.b,vi x.c,vi x.d],.slice Al l.length cl] A (fun v w=>v=.tuple #[rV (rIf1 x l),.bool (rIf2 x l)]∧Below A.heap.size A w):=by
 refine enter Tryz.func208 rfl 23 rfl rfl ?_;intro a j
 have g:=bz A
 refine Zs j fun _ b6=>?_;refine Zf (X0i (zs:=[vi x.a,vi x.b,vi x.c,vi x.d]) rfl rfl) ?_;rintro _ w1 ⟨b3,rfl,aG,o,f⟩;have bD:=Nat.le_trans g.size aG;have aT:=(p.below' g).away aG;have g:=btr g o;refine Zf (X8 (zs:=[vi 0,vi 0,vi 0,vi 0]) X1v rfl) ?_;rintro _ w2 ⟨b4,rfl,aH,o,e⟩
 have aU:b3≠b4:=by have:=f.lt;omega
 have B:=Nat.le_trans g.size aH;have aW:=(p.below' g).away aH;have f:=f.below o;have g:=btr g o;refine Za rfl<|ZX b6 fun a j _ b8=>?_;refine Zs j fun _ b9=>?_;refine Zm rfl<|Ze (Vn X0c f)<|Zf (X5 (k:=1) (vs:=[.agg #[vi x.a,vi x.b,vi x.c,vi x.d]]) (zs:=[vi x.a,vi x.b,vi x.c,vi x.d]) rfl X4e X4q rfl rfl) ?_;rintro _ w3 ⟨b7,rfl,aI,o,aA⟩
 have aX:b3≠b7:=by have:=f.lt;omega
 have aY:b4≠b7:=by have:=e.lt;omega
 have bE:=Nat.le_trans g.size aI;have aZ:=(p.below' g).away aI;have f:=f.below o;have e:=e.below o;have g:=btr g o;refine Zf (Xe4 (enc:=encR) (l:=(l)) (l2:=([x])) rfl rfl X4e X4q Xcv (p.below' g) (Rd.of_blk aA rfl _ aA.lt) hc b5 (by simp) (by simp only [maxLen];simp;omega) (by simp;omega)) ?_;rintro _ w4 ⟨A9,c9,rfl,i,o⟩;have b0:=i.awayNew f.lt;have b1:=i.awayNew e.lt;have b2:=i.awayNew aA.lt;have i:=i.lower g.size;have f:=f.below o;have e:=e.below o;have g:=btr g o;refine Ze (X0x rfl X4e)<|Zm rfl<|Zt b9 fun a j=>?_;refine wp_block ?_
 have bF:(l++[x]).length≤1001:=by simp;omega
 refine X0b (σ:=Nat) (fun (k:Nat) (a:Act) (w:World)=>Fr a 23 [(2,.pointer (some ⟨b3,0,none⟩)),(4,.pointer (some ⟨b4,0,none⟩)),(11,.slice A9 (l++([x])).length c9),(12,vi ((l++([x])).length:Int)),(13,vi (k:Int))]∧(k≤(l++[x]).length)∧(((l++[x]).take k).all rOk=true)∧Blk w b3 93 [vi x.a,vi x.b,vi x.c,vi x.d]∧Blk w b4 93 [vi 0,vi 0,vi 0,vi 0]∧Own w A.heap.size 93 4 encR A9 c9 (l++([x]))∧Below A.heap.size A w) (fun (k:Nat)=>(l++[x]).length+1-k) 0 ?_ ?_
 ·exact ⟨j.sb,(Nat.zero_le _),(by simp),f,e,i,g⟩
 rintro k a w5 ⟨j,hk,C,f,e,i,g⟩;refine Zs j fun _ aJ=>?_;refine Ze (X10 rfl rfl)<|ZX aJ fun a j _ aK=>?_
 refine Xk j rfl (fun m=>?_) (fun m=>?_)
 ·have aB:=m;have m:=of_decide_eq_true m
  obtain ⟨n,y⟩:=Xi (l:=(l++([x]))) (k:=k) (by omega)
  refine wp_skip<|aK _ _<|wp_seq_k fun _ aL=>?_;refine wp_block<|Zs j fun _ aM=>?_;refine Zi (k:=k) (u:=n) (enc:=encR) (l:=l++([x])) trivial rfl rfl X4e X16 Xcv i.rd y rfl ?_;intro bH aC;refine Ze (X07 (l:=[vi n.a,vi n.b,vi n.c,vi n.d]) rfl X0c aC rfl)<|Zf (X8 (zs:=[vi 0,vi 0,vi 0,vi 0]) X1v rfl) ?_;rintro _ w6 ⟨b18,rfl,z,o,t⟩
  have aN:b3≠b18:=by have:=f.lt;omega
  have aO:b4≠b18:=by have:=e.lt;omega
  have aD:=Nat.le_trans g.size z;have aP:=(p.below' g).away z;have h:=i.away z;have f:=f.below o;have e:=e.below o;have i:=i.below o;have g:=btr g o;refine Zo (Vw [vi n.a,vi n.b,vi n.c,vi n.d] X16 t) ?_;rintro _ w7 ⟨D,hb⟩;have E:=t;have f:=f.only D (by omega);have e:=e.only D (by omega);have i:=i.onlyA D h;have g:=Below.only g D aD;have t:=hb;refine Zx aM fun a j _ aQ=>?_;refine Ze (Vn X0c t)<|Zf (Vc (Xjq _ n) X6u) ?_;rintro _ w8 ⟨rfl,o⟩;have f:=f.below o;have e:=e.below o;have i:=i.below o;have g:=btr g o;refine Ze (X0z rfl)<|Zt aQ fun a j=>?_
  refine Xk j rfl (fun q=>?_) (fun q=>?_)
  ·have aE:=q
   have aF:rIf2 x l=false:=X9w y (by simpa using q)
   refine Zs j fun _ aR=>?_;refine Ze (Xg (ps:=[]) (cs:=[vi 0,vi 0,vi 0,vi 0]) rfl (fun _=>by first|rfl|kernel_rfl))<|Zo (Vw [vi 0,vi 0,vi 0,vi 0] X16 e) ?_;rintro _ w9 ⟨D,hb⟩;have E:=e;have g:=Below.only g D B;have e:=hb;refine Za rfl<|Zt aR fun a j=>?_;refine wp_ret<|Xr<|X3<|X3 ?_;refine Xr<|X3<|X2 j (X0w j rfl (ResV.cellN (l:=[vi 0,vi 0,vi 0,vi 0]) rfl X0c (e.at 0) rfl) rfl) ?_;exact ⟨by simp [rIf1,aF],g⟩
  have aE:=q
  have bC:rOk n=true:=by simpa using q
  refine wp_skip<|Xt<|aL _ _<|Zr j ?_;refine Ze (X06 rfl rfl (by omega) (by omega))<|Zm rfl ?_;refine Zn fun a j=>?_;refine Xp ?_;exact ⟨k+1,⟨j.sb,(by omega),(X28 C y bC),f,e,i,g⟩,(by omega)⟩
 have aB:=m;have m:=of_decide_eq_false m;refine wp_exit<|Xl<|Xl<|X0a ?_;refine b8 _ _<|Zs j fun _ aS=>?_;refine Ze (Vn X0c f)<|Zo (Vw [vi x.a,vi x.b,vi x.c,vi x.d] X16 e) ?_;rintro _ bI ⟨D,hb⟩;have E:=e;have g:=Below.only g D B;have e:=hb;refine Za rfl<|Zt aS fun a j=>?_
 refine wp_ret (X2 j (X0w j rfl (ResV.cellN (l:=[vi x.a,vi x.b,vi x.c,vi x.d]) rfl X0c (e.at 0) rfl) rfl) ?_)
 have aF:rIf2 x l=true:=X1z C (by omega)
 exact ⟨by simp [rIf1,aF],g⟩
theorem Xyd(w0:World)(x:Rg)(y:Rg) : Ret Tryz.prog 178 [.agg #[vi x.a,vi x.b,vi x.c,vi x.d],.agg #[vi y.a,vi y.b,vi y.c,vi y.d]] w0 (fun v w=>v=.tuple #[rV (rIf1 (rMul x y) [x,y]),.bool (rIf2 (rMul x y) [x,y])]∧Below w0.heap.size w0 w):=by
 refine enter Tryz.func178 rfl 105 rfl rfl ?_;intro a hf
 have i:=bz w0
 refine Zs hf fun _ aI=>?_;refine Zf (X0i (zs:=[vi x.a,vi x.b,vi x.c,vi x.d]) rfl rfl) ?_;rintro _ w1 ⟨b2,rfl,aJ,j,e⟩;have aO:=Nat.le_trans i.size aJ;have i:=btr i j;refine Zf (X0i (zs:=[vi y.a,vi y.b,vi y.c,vi y.d]) rfl rfl) ?_;rintro _ w2 ⟨b3,rfl,aK,j,f⟩
 have aC:b2≠b3:=by have:=e.lt;omega
 have aP:=Nat.le_trans i.size aK;have e:=e.below j;have i:=btr i j;refine Zf (X8 (zs:=[vi 0,vi 0,vi 0,vi 0]) X1v rfl) ?_;rintro _ w3 ⟨b4,rfl,aL,j,g⟩
 have aD:b2≠b4:=by have:=e.lt;omega
 have aE:b3≠b4:=by have:=f.lt;omega
 have aA:=Nat.le_trans i.size aL;have e:=e.below j;have f:=f.below j;have i:=btr i j;refine Za rfl<|Zx aI fun a hf _ aM=>?_;refine Ze (Vd rfl X0j 0)<|Ze (X0 rfl X7 (e.at 0))<|Ze (Vd rfl X0j 0)<|Ze (X0 rfl X7 (f.at 0))<|Ze (X25 rfl rfl) ?_;refine Ze (Vd rfl X0m 1)<|Ze (X0 rfl X7 (e.at 1))<|Ze (Vd rfl X0k 3)<|Ze (X0 rfl X7 (f.at 3))<|Ze (X25 rfl rfl) ?_;refine Ze (X3u rfl rfl)<|Ze (Vd rfl X0l 2)<|Ze (X0 rfl X7 (e.at 2))<|Ze (Vd rfl X0l 2)<|Ze (X0 rfl X7 (f.at 2)) ?_;refine Ze (X25 rfl rfl)<|Ze (X3u rfl rfl)<|Ze (Vd rfl X0k 3)<|Ze (X0 rfl X7 (e.at 3))<|Ze (Vd rfl X0m 1) ?_;refine Ze (X0 rfl X7 (f.at 1))<|Ze (X25 rfl rfl)<|Ze (X3u rfl rfl)<|Ze (Vd rfl X0j 0)<|Ze (X0 rfl X7 (e.at 0)) ?_;refine Ze (Vd rfl X0m 1)<|Ze (X0 rfl X7 (f.at 1))<|Ze (X25 rfl rfl)<|Ze (Vd rfl X0m 1)<|Ze (X0 rfl X7 (e.at 1)) ?_;refine Ze (Vd rfl X0j 0)<|Ze (X0 rfl X7 (f.at 0))<|Ze (X25 rfl rfl)<|Ze (X26 rfl rfl)<|Ze (Vd rfl X0l 2) ?_;refine Ze (X0 rfl X7 (e.at 2))<|Ze (Vd rfl X0k 3)<|Ze (X0 rfl X7 (f.at 3))<|Ze (X25 rfl rfl)<|Ze (X3u rfl rfl) ?_;refine Ze (Vd rfl X0k 3)<|Ze (X0 rfl X7 (e.at 3))<|Ze (Vd rfl X0l 2)<|Ze (X0 rfl X7 (f.at 2))<|Ze (X25 rfl rfl) ?_;refine Ze (X3u rfl rfl)<|Ze (Vd rfl X0j 0)<|Ze (X0 rfl X7 (e.at 0))<|Ze (Vd rfl X0l 2)<|Ze (X0 rfl X7 (f.at 2)) ?_;refine Ze (X25 rfl rfl)<|Ze (Vd rfl X0m 1)<|Ze (X0 rfl X7 (e.at 1))<|Ze (Vd rfl X0m 1)<|Ze (X0 rfl X7 (f.at 1)) ?_;refine Ze (X25 rfl rfl)<|Ze (X26 rfl rfl)<|Ze (Vd rfl X0l 2)<|Ze (X0 rfl X7 (e.at 2))<|Ze (Vd rfl X0j 0) ?_;refine Ze (X0 rfl X7 (f.at 0))<|Ze (X25 rfl rfl)<|Ze (X26 rfl rfl)<|Ze (Vd rfl X0k 3)<|Ze (X0 rfl X7 (e.at 3)) ?_
 refine Ze (Vd rfl X0k 3)<|Ze (X0 rfl X7 (f.at 3))<|Ze (X25 rfl rfl)<|Ze (X3u rfl rfl)<|Ze (Vd rfl X0j 0) ?_;refine Ze (X0 rfl X7 (e.at 0))<|Ze (Vd rfl X0k 3)<|Ze (X0 rfl X7 (f.at 3))<|Ze (X25 rfl rfl)<|Ze (Vd rfl X0m 1) ?_;refine Ze (X0 rfl X7 (e.at 1))<|Ze (Vd rfl X0l 2)<|Ze (X0 rfl X7 (f.at 2))<|Ze (X25 rfl rfl)<|Ze (X26 rfl rfl) ?_;refine Ze (Vd rfl X0l 2)<|Ze (X0 rfl X7 (e.at 2))<|Ze (Vd rfl X0m 1)<|Ze (X0 rfl X7 (f.at 1))<|Ze (X25 rfl rfl) ?_;refine Ze (X26 rfl rfl)<|Ze (Vd rfl X0k 3)<|Ze (X0 rfl X7 (e.at 3))<|Ze (Vd rfl X0j 0)<|Ze (X0 rfl X7 (f.at 0)) ?_;refine Ze (X25 rfl rfl)<|Ze (X26 rfl rfl)<|Ze (Xg (ps:=[(0,vi (wr ((wr ((wr ((wr (x.a*y.a))-(wr (x.b*y.d))))-(wr (x.c*y.c))))-(wr (x.d*y.b))))),(1,vi (wr ((wr ((wr ((wr (x.a*y.b))+(wr (x.b*y.a))))-(wr (x.c*y.d))))-(wr (x.d*y.c))))),(2,vi (wr ((wr ((wr ((wr (x.a*y.c))+(wr (x.b*y.b))))+(wr (x.c*y.a))))-(wr (x.d*y.d))))),(3,vi (wr ((wr ((wr ((wr (x.a*y.d))+(wr (x.b*y.c))))+(wr (x.c*y.b))))+(wr (x.d*y.a)))))]) (cs:=[vi (wr ((wr ((wr ((wr (x.a*y.a))-(wr (x.b*y.d))))-(wr (x.c*y.c))))-(wr (x.d*y.b)))),vi (wr ((wr ((wr ((wr (x.a*y.b))+(wr (x.b*y.a))))-(wr (x.c*y.d))))-(wr (x.d*y.c)))),vi (wr ((wr ((wr ((wr (x.a*y.c))+(wr (x.b*y.b))))+(wr (x.c*y.a))))-(wr (x.d*y.d)))),vi (wr ((wr ((wr ((wr (x.a*y.d))+(wr (x.b*y.c))))+(wr (x.c*y.b))))+(wr (x.d*y.a))))]) rfl (fun _=>by first|rfl|kernel_rfl))<|Ze (Vn X0c e)<|Ze (Vn X0c f) ?_;refine Zf (X5 (k:=2) (vs:=[.agg #[vi x.a,vi x.b,vi x.c,vi x.d],.agg #[vi y.a,vi y.b,vi y.c,vi y.d]]) (zs:=[vi x.a,vi x.b,vi x.c,vi x.d,vi y.a,vi y.b,vi y.c,vi y.d]) rfl X4e X4q rfl rfl) ?_;rintro _ w4 ⟨b6,rfl,aN,j,aB⟩
 have aF:b2≠b6:=by have:=e.lt;omega
 have aG:b3≠b6:=by have:=f.lt;omega
 have aH:b4≠b6:=by have:=g.lt;omega
 have aQ:=Nat.le_trans i.size aN;have g:=g.below j;have i:=btr i j;refine Zf (Vc (Xrd _ (rMul x y) (some ⟨b6,0,none⟩) 2 ([x,y]) (Rd.of_blk aB rfl _ aB.lt) rfl (by simp) (by simp)) Xbk) ?_;rintro _ w5 ⟨rfl,j⟩;have g:=g.below j;have i:=btr i j;refine Ze (X4 (vs:=[.agg #[vi ((rIf1 (rMul x y) ([x,y])).a),vi ((rIf1 (rMul x y) ([x,y])).b),vi ((rIf1 (rMul x y) ([x,y])).c),vi ((rIf1 (rMul x y) ([x,y])).d)],.bool (rIf2 (rMul x y) ([x,y]))]) rfl rfl)<|Ze (X4 (vs:=[.agg #[vi ((rIf1 (rMul x y) ([x,y])).a),vi ((rIf1 (rMul x y) ([x,y])).b),vi ((rIf1 (rMul x y) ([x,y])).c),vi ((rIf1 (rMul x y) ([x,y])).d)],.bool (rIf2 (rMul x y) ([x,y]))]) rfl rfl)<|Zo (Vw [vi ((rIf1 (rMul x y) ([x,y])).a),vi ((rIf1 (rMul x y) ([x,y])).b),vi ((rIf1 (rMul x y) ([x,y])).c),vi ((rIf1 (rMul x y) ([x,y])).d)] X16 g) ?_;rintro _ w6 ⟨ho,hb⟩;have aR:=g;have i:=Below.only i ho aA;have g:=hb;refine Za rfl<|Zt aM fun a hf=>?_
 refine wp_ret (X2 hf (X0w hf rfl (ResV.cellN (l:=[vi ((rIf1 (rMul x y) ([x,y])).a),vi ((rIf1 (rMul x y) ([x,y])).b),vi ((rIf1 (rMul x y) ([x,y])).c),vi ((rIf1 (rMul x y) ([x,y])).d)]) rfl X0c (g.at 0) rfl) rfl) ?_)
 exact ⟨rfl,i⟩
theorem Xz4(w0:World)(x:Rg)(y:Rg) : Ret Tryz.prog 181 [.agg #[vi x.a,vi x.b,vi x.c,vi x.d],.agg #[vi y.a,vi y.b,vi y.c,vi y.d]] w0 (fun v w=>v=.tuple #[rV (rIf1 (rAdd x y) [x,y]),.bool (rIf2 (rAdd x y) [x,y])]∧Below w0.heap.size w0 w):=by
 refine enter Tryz.func181 rfl 33 rfl rfl ?_;intro a hf
 have i:=bz w0
 refine Zs hf fun _ aI=>?_;refine Zf (X0i (zs:=[vi x.a,vi x.b,vi x.c,vi x.d]) rfl rfl) ?_;rintro _ w1 ⟨b2,rfl,aJ,j,e⟩;have aO:=Nat.le_trans i.size aJ;have i:=btr i j;refine Zf (X0i (zs:=[vi y.a,vi y.b,vi y.c,vi y.d]) rfl rfl) ?_;rintro _ w2 ⟨b3,rfl,aK,j,f⟩
 have aC:b2≠b3:=by have:=e.lt;omega
 have aP:=Nat.le_trans i.size aK;have e:=e.below j;have i:=btr i j;refine Zf (X8 (zs:=[vi 0,vi 0,vi 0,vi 0]) X1v rfl) ?_;rintro _ w3 ⟨b4,rfl,aL,j,g⟩
 have aD:b2≠b4:=by have:=e.lt;omega
 have aE:b3≠b4:=by have:=f.lt;omega
 have aA:=Nat.le_trans i.size aL;have e:=e.below j;have f:=f.below j;have i:=btr i j;refine Za rfl<|Zx aI fun a hf _ aM=>?_;refine Ze (Vd rfl X0j 0)<|Ze (X0 rfl X7 (e.at 0))<|Ze (Vd rfl X0j 0)<|Ze (X0 rfl X7 (f.at 0))<|Ze (X26 rfl rfl) ?_;refine Ze (Vd rfl X0m 1)<|Ze (X0 rfl X7 (e.at 1))<|Ze (Vd rfl X0m 1)<|Ze (X0 rfl X7 (f.at 1))<|Ze (X26 rfl rfl) ?_;refine Ze (Vd rfl X0l 2)<|Ze (X0 rfl X7 (e.at 2))<|Ze (Vd rfl X0l 2)<|Ze (X0 rfl X7 (f.at 2))<|Ze (X26 rfl rfl) ?_;refine Ze (Vd rfl X0k 3)<|Ze (X0 rfl X7 (e.at 3))<|Ze (Vd rfl X0k 3)<|Ze (X0 rfl X7 (f.at 3))<|Ze (X26 rfl rfl) ?_;refine Ze (Xg (ps:=[(0,vi (wr (x.a+y.a))),(1,vi (wr (x.b+y.b))),(2,vi (wr (x.c+y.c))),(3,vi (wr (x.d+y.d)))]) (cs:=[vi (wr (x.a+y.a)),vi (wr (x.b+y.b)),vi (wr (x.c+y.c)),vi (wr (x.d+y.d))]) rfl (fun _=>by first|rfl|kernel_rfl))<|Ze (Vn X0c e)<|Ze (Vn X0c f)<|Zf (X5 (k:=2) (vs:=[.agg #[vi x.a,vi x.b,vi x.c,vi x.d],.agg #[vi y.a,vi y.b,vi y.c,vi y.d]]) (zs:=[vi x.a,vi x.b,vi x.c,vi x.d,vi y.a,vi y.b,vi y.c,vi y.d]) rfl X4e X4q rfl rfl) ?_;rintro _ w4 ⟨b6,rfl,aN,j,aB⟩
 have aF:b2≠b6:=by have:=e.lt;omega
 have aG:b3≠b6:=by have:=f.lt;omega
 have aH:b4≠b6:=by have:=g.lt;omega
 have aQ:=Nat.le_trans i.size aN;have g:=g.below j;have i:=btr i j;refine Zf (Vc (Xrd _ (rAdd x y) (some ⟨b6,0,none⟩) 2 ([x,y]) (Rd.of_blk aB rfl _ aB.lt) rfl (by simp) (by simp)) Xbk) ?_;rintro _ w5 ⟨rfl,j⟩;have g:=g.below j;have i:=btr i j;refine Ze (X4 (vs:=[.agg #[vi ((rIf1 (rAdd x y) ([x,y])).a),vi ((rIf1 (rAdd x y) ([x,y])).b),vi ((rIf1 (rAdd x y) ([x,y])).c),vi ((rIf1 (rAdd x y) ([x,y])).d)],.bool (rIf2 (rAdd x y) ([x,y]))]) rfl rfl)<|Ze (X4 (vs:=[.agg #[vi ((rIf1 (rAdd x y) ([x,y])).a),vi ((rIf1 (rAdd x y) ([x,y])).b),vi ((rIf1 (rAdd x y) ([x,y])).c),vi ((rIf1 (rAdd x y) ([x,y])).d)],.bool (rIf2 (rAdd x y) ([x,y]))]) rfl rfl)<|Zo (Vw [vi ((rIf1 (rAdd x y) ([x,y])).a),vi ((rIf1 (rAdd x y) ([x,y])).b),vi ((rIf1 (rAdd x y) ([x,y])).c),vi ((rIf1 (rAdd x y) ([x,y])).d)] X16 g) ?_;rintro _ w6 ⟨ho,hb⟩;have aR:=g;have i:=Below.only i ho aA;have g:=hb;refine Za rfl<|Zt aM fun a hf=>?_
 refine wp_ret (X2 hf (X0w hf rfl (ResV.cellN (l:=[vi ((rIf1 (rAdd x y) ([x,y])).a),vi ((rIf1 (rAdd x y) ([x,y])).b),vi ((rIf1 (rAdd x y) ([x,y])).c),vi ((rIf1 (rAdd x y) ([x,y])).d)]) rfl X0c (g.at 0) rfl) rfl) ?_)
 exact ⟨rfl,i⟩
theorem Xzj(w0:World)(x:Rg) : Ret Tryz.prog 227 [.agg #[vi x.a,vi x.b,vi x.c,vi x.d]] w0 (fun v w=>v=.tuple #[rV (rIf1 (rRoot x) [x]),.bool (rIf2 (rRoot x) [x])]∧Below w0.heap.size w0 w):=by
 refine enter Tryz.func227 rfl 30 rfl rfl ?_;intro a hf
 have g:=bz w0
 refine Zs hf fun _ aF=>?_;refine Zf (X0i (zs:=[vi x.a,vi x.b,vi x.c,vi x.d]) rfl rfl) ?_;rintro _ w1 ⟨b2,rfl,aG,i,e⟩;have aK:=Nat.le_trans g.size aG;have g:=btr g i;refine Zf (X8 (zs:=[vi 0,vi 0,vi 0,vi 0]) X1v rfl) ?_;rintro _ w2 ⟨b3,rfl,aH,i,f⟩
 have aC:b2≠b3:=by have:=e.lt;omega
 have aA:=Nat.le_trans g.size aH;have e:=e.below i;have g:=btr g i;refine Za rfl<|Zx aF fun a hf _ aI=>?_;refine Ze (Vd rfl X0m 1)<|Ze (X0 rfl X7 (e.at 1))<|Ze (Vd rfl X0k 3)<|Ze (X0 rfl X7 (e.at 3))<|Ze (X3u rfl rfl) ?_;refine Ze (Vd rfl X0j 0)<|Ze (X0 rfl X7 (e.at 0))<|Ze (Vd rfl X0l 2)<|Ze (X0 rfl X7 (e.at 2))<|Ze (X26 rfl rfl) ?_;refine Ze (Vd rfl X0m 1)<|Ze (X0 rfl X7 (e.at 1))<|Ze (Vd rfl X0k 3)<|Ze (X0 rfl X7 (e.at 3))<|Ze (X26 rfl rfl) ?_;refine Ze (Vd rfl X0l 2)<|Ze (X0 rfl X7 (e.at 2))<|Ze (Vd rfl X0j 0)<|Ze (X0 rfl X7 (e.at 0))<|Ze (X3u rfl rfl) ?_;refine Ze (Xg (ps:=[(0,vi (wr (x.b-x.d))),(1,vi (wr (x.a+x.c))),(2,vi (wr (x.b+x.d))),(3,vi (wr (x.c-x.a)))]) (cs:=[vi (wr (x.b-x.d)),vi (wr (x.a+x.c)),vi (wr (x.b+x.d)),vi (wr (x.c-x.a))]) rfl (fun _=>by first|rfl|kernel_rfl))<|Ze (Vn X0c e)<|Zf (X5 (k:=1) (vs:=[.agg #[vi x.a,vi x.b,vi x.c,vi x.d]]) (zs:=[vi x.a,vi x.b,vi x.c,vi x.d]) rfl X4e X4q rfl rfl) ?_;rintro _ w3 ⟨b5,rfl,aJ,i,aB⟩
 have aD:b2≠b5:=by have:=e.lt;omega
 have aE:b3≠b5:=by have:=f.lt;omega
 have aL:=Nat.le_trans g.size aJ;have f:=f.below i;have g:=btr g i;refine Zf (Vc (Xrd _ (rRoot x) (some ⟨b5,0,none⟩) 1 ([x]) (Rd.of_blk aB rfl _ aB.lt) rfl (by simp) (by simp)) Xbk) ?_;rintro _ w4 ⟨rfl,i⟩;have f:=f.below i;have g:=btr g i;refine Ze (X4 (vs:=[.agg #[vi ((rIf1 (rRoot x) ([x])).a),vi ((rIf1 (rRoot x) ([x])).b),vi ((rIf1 (rRoot x) ([x])).c),vi ((rIf1 (rRoot x) ([x])).d)],.bool (rIf2 (rRoot x) ([x]))]) rfl rfl)<|Ze (X4 (vs:=[.agg #[vi ((rIf1 (rRoot x) ([x])).a),vi ((rIf1 (rRoot x) ([x])).b),vi ((rIf1 (rRoot x) ([x])).c),vi ((rIf1 (rRoot x) ([x])).d)],.bool (rIf2 (rRoot x) ([x]))]) rfl rfl)<|Zo (Vw [vi ((rIf1 (rRoot x) ([x])).a),vi ((rIf1 (rRoot x) ([x])).b),vi ((rIf1 (rRoot x) ([x])).c),vi ((rIf1 (rRoot x) ([x])).d)] X16 f) ?_;rintro _ w5 ⟨ho,hb⟩;have aM:=f;have g:=Below.only g ho aA;have f:=hb;refine Za rfl<|Zt aI fun a hf=>?_
 refine wp_ret (X2 hf (X0w hf rfl (ResV.cellN (l:=[vi ((rIf1 (rRoot x) ([x])).a),vi ((rIf1 (rRoot x) ([x])).b),vi ((rIf1 (rRoot x) ([x])).c),vi ((rIf1 (rRoot x) ([x])).d)]) rfl X0c (f.at 0) rfl) rfl) ?_)
 exact ⟨rfl,g⟩
theorem Xx9(w0:World)(x:Rg)(m:Int)(hm:m≤1000) : Ret Tryz.prog 198 [.agg #[vi x.a,vi x.b,vi x.c,vi x.d],vi m] w0 (fun v w=>v=dV (dLow x m)∧Below w0.heap.size w0 w):=by
 refine enter Tryz.func198 rfl 18 rfl rfl ?_;intro a i
 have k:=bz w0
 refine Zs i fun _ aF=>?_;refine Zf (X0i (zs:=[vi x.a,vi x.b,vi x.c,vi x.d]) rfl rfl) ?_;rintro _ w1 ⟨b2,rfl,aG,n,e⟩;have aB:=Nat.le_trans k.size aG;have k:=btr k n;refine Zf (X8 (zs:=[vi 0,vi 0,vi 0,vi 0,vi 0]) X1i rfl) ?_;rintro _ w2 ⟨b3,rfl,aH,n,f⟩;have aC:=Nat.le_trans k.size aH;have e:=e.below n;have k:=btr k n;refine ZX aF fun a i _ aI=>?_;refine wp_block<|X0b (σ:=Rg×Int) (fun (s:Rg×Int) (a:Act) (w:World)=>match s with|(y,j)=>Fr a 18 [(1,vi j),(2,.pointer (some ⟨b2,0,none⟩)),(4,.pointer (some ⟨b3,0,none⟩))]∧(dLow y j=dLow x m)∧(j≤1000)∧Blk w b2 93 [vi y.a,vi y.b,vi y.c,vi y.d]∧Blk w b3 95 [vi 0,vi 0,vi 0,vi 0,vi 0]∧Below w0.heap.size w0 w) (fun (s:Rg×Int)=>match s with|(y,j)=>j.toNat) (x,m) ?_ ?_
 ·exact ⟨i.sb,rfl,hm,e,f,k⟩
 rintro ⟨y,j⟩ a w3 ⟨i,q,aO,e,f,k⟩;refine wp_seq_k fun _ aJ=>?_;refine wp_seq_k fun _ aK=>?_;refine X0o (fun a w=>Fr a 18 [(1,vi j),(2,.pointer (some ⟨b2,0,none⟩)),(4,.pointer (some ⟨b3,0,none⟩)),(10,.bool ((decide (0<j))&&(rEven y)))]∧Below w3.heap.size w3 w) ?_ ?_
 ·have p:Below w3.heap.size w3 w3:=Below.refl _ _
  refine Zr i<|Zm rfl<|Ze (X3a rfl rfl)<|Zm rfl ?_
  refine Zg 7 rfl (fun g=>?_) (fun g=>?_)
  ·refine Zv (gW g) (Vn X0c e) ?_;refine Zk (gW g) (Vc (Xyz _ y) Xt7) ?_;rintro _ w4 ⟨rfl,n⟩;have k:=btr k n;have p:=btr p n;refine Ze (Xn rfl g rfl) ?_;refine Zn fun a i=>?_
   have aA:Below w3.heap.size w3 w4:=p
   exact ⟨i.sub ⟨rfl,rfl,rfl,X1 rfl (by first|rfl|(simp only [g,bs];done)|simp [g]),trivial⟩,aA⟩
  refine Zp (gP g) ?_;refine Zp (gP g) ?_;refine Ze (Xj rfl g rfl) ?_;refine Zn fun a i=>?_
  have aA:Below w3.heap.size w3 w3:=p
  exact ⟨i.sub ⟨rfl,rfl,rfl,X1 rfl (by first|rfl|(simp only [g,bs];done)|simp [g]),trivial⟩,aA⟩
 rintro a w5 ⟨i,n⟩;have e:=e.below n;have f:=f.below n;have k:=btr k n;refine aK _ _ ?_
 refine Xk i rfl (fun o=>?_) (fun o=>?_)
 ·have aD:=o
  have aP:0<j:=by revert o;simp;omega
  have aL:rEven y=true:=by revert o;cases rEven y<;>simp
  refine wp_skip<|aJ _ _<|wp_block<|Zs i fun _ aM=>?_;refine Ze (Vn X0c e)<|Zf (Vc (Xyc _ y) Xva) ?_;rintro _ w6 ⟨rfl,n⟩;have e:=e.below n;have f:=f.below n;have k:=btr k n;refine Zo (Vw [vi ((rHalf y).a),vi ((rHalf y).b),vi ((rHalf y).c),vi ((rHalf y).d)] X16 e) ?_;rintro _ w7 ⟨ho,hb⟩;have t:=e;have f:=f.only ho (Blk.ne f t rfl);have k:=Below.only k ho aB;have e:=hb;refine Zt aM fun a i=>?_;refine Zr i<|Zm rfl<|Ze (X1h rfl rfl (by omega) (by omega))<|Za rfl ?_;refine Zn fun a i=>?_;refine Xt<|Xp ?_;exact ⟨(rHalf y,j-1),⟨i.sb,(by rw [← q];exact (X3j (by omega) aL).symm),(by omega),e,f,k⟩,(by first|omega|(dsimp only;omega))⟩
 have aD:=o
 have aN:dLow y j=⟨y,j⟩:=X21 (by intro h0;revert o;simp [h0])
 refine wp_exit<|Xl<|Xl<|X0a ?_;refine aI _ _<|Zs i fun _ aE=>?_;refine Ze (Vn X0c e)<|Zm rfl<|Ze (Xg (ps:=[(0,.agg #[vi y.a,vi y.b,vi y.c,vi y.d]),(1,vi j)]) (cs:=[vi y.a,vi y.b,vi y.c,vi y.d,vi j]) rfl (fun _=>by first|rfl|kernel_rfl))<|Zo (Vw [vi y.a,vi y.b,vi y.c,vi y.d,vi j] X01 f) ?_;rintro _ w8 ⟨ho,hb⟩;have t:=f;have k:=Below.only k ho aC;have f:=hb;refine Zt aE fun a i=>?_
 refine wp_ret (X2 i (Xv i rfl (ResV.cellN (l:=[vi y.a,vi y.b,vi y.c,vi y.d,vi j]) rfl Xm (f.at 0) rfl)) ?_)
 refine ⟨?_,k⟩
 rw [← q,aN]
theorem Xyg(w0:World)(x:Rg) : Ret Tryz.prog 209 [.agg #[vi x.a,vi x.b,vi x.c,vi x.d]] w0 (fun v w=>v=.tuple #[rV (rDiv1 x),.bool (rDiv2 x)]∧Below w0.heap.size w0 w):=by
 refine enter Tryz.func209 rfl 43 rfl rfl ?_;intro a m
 have i:=bz w0
 refine Zs m fun _ aH=>?_;refine Zf (X0i (zs:=[vi x.a,vi x.b,vi x.c,vi x.d]) rfl rfl) ?_;rintro _ w1 ⟨b2,rfl,aI,j,e⟩;have aQ:=Nat.le_trans i.size aI;have i:=btr i j;refine Zf (X8 (zs:=[vi 0,vi 0,vi 0,vi 0]) X1v rfl) ?_;rintro _ w2 ⟨b3,rfl,aJ,j,f⟩
 have aG:b2≠b3:=by have:=e.lt;omega
 have p:=Nat.le_trans i.size aJ;have e:=e.below j;have i:=btr i j;refine Za rfl<|ZX aH fun a m _ aK=>?_;refine wp_seq_k fun _ aL=>?_;refine X0o (fun a w=>Fr a 43 [(1,.pointer (some ⟨b2,0,none⟩)),(2,.pointer (some ⟨b3,0,none⟩)),(11,.bool ((!(rOk x))||(!(rEven x))))]∧Below w2.heap.size w2 w) ?_ ?_
 ·have n:Below w2.heap.size w2 w2:=Below.refl _ _
  refine Zr m<|Ze (Vn X0c e)<|Zf (Vc (Xjq _ x) X6u) ?_;rintro _ w3 ⟨rfl,j⟩;have e:=e.below j;have i:=btr i j;have n:=btr n j;refine Ze (X0z rfl)<|Zm rfl ?_
  refine Zg 7 rfl (fun g=>?_) (fun g=>?_)
  ·refine Zp (gP g) ?_;refine Zp (gP g) ?_;refine Zp (gP g) ?_;refine Ze (Xn rfl g rfl) ?_;refine Zn fun a m=>?_
   have aA:Below w2.heap.size w2 w3:=n
   exact ⟨m.sub ⟨rfl,rfl,X1 rfl (by first|rfl|(simp only [g,bs];done)|simp [g]),trivial⟩,aA⟩
  refine Zv (gW g) (Vn X0c e) ?_;refine Zk (gW g) (Vc (Xu8 _ x) Xfg) ?_;rintro _ w4 ⟨rfl,j⟩;have i:=btr i j;have n:=btr n j;refine Zv (gW g) (X0z rfl) ?_;refine Ze (Xj rfl g rfl) ?_;refine Zn fun a m=>?_
  have aA:Below w2.heap.size w2 w4:=n
  exact ⟨m.sub ⟨rfl,rfl,X1 rfl (by first|rfl|(simp only [g,bs];done)|simp [g]),trivial⟩,aA⟩
 rintro a w5 ⟨m,j⟩;have e:=e.below j;have f:=f.below j;have i:=btr i j;refine aL _ _ ?_
 refine Xk m rfl (fun o=>?_) (fun o=>?_)
 ·have aB:=o
  have hn:rDiv2 x=false:=by unfold rDiv2;revert o;cases rOk x<;>cases rEven x<;>simp
  refine Zs m fun _ aM=>?_;refine Ze (Xg (ps:=[]) (cs:=[vi 0,vi 0,vi 0,vi 0]) rfl (fun _=>by first|rfl|kernel_rfl))<|Zo (Vw [vi 0,vi 0,vi 0,vi 0] X16 f) ?_;rintro _ w6 ⟨ho,hb⟩;have aC:=f;have i:=Below.only i ho p;have f:=hb;refine Za rfl<|Zt aM fun a m=>?_;refine wp_ret<|X3<|X2 m (X0w m rfl (ResV.cellN (l:=[vi 0,vi 0,vi 0,vi 0]) rfl X0c (f.at 0) rfl) rfl) ?_;exact ⟨by simp [rDiv1,hn],i⟩
 have aB:=o
 have hy:(rOk x&&rEven x)=true:=by revert o;cases rOk x<;>cases rEven x<;>simp
 have aN:rOk x=true:=by revert hy;cases rOk x<;>simp
 refine wp_skip<|aK _ _<|Zs m fun _ aO=>?_;refine Ze (Vd rfl X0m 1)<|Ze (X0 rfl X7 (e.at 1))<|Ze (Vd rfl X0k 3)<|Ze (X0 rfl X7 (e.at 3))<|Ze (X3u rfl rfl) ?_;refine Ze (Xcu rfl rfl rfl)<|Ze (Vd rfl X0j 0)<|Ze (X0 rfl X7 (e.at 0))<|Ze (Vd rfl X0l 2)<|Ze (X0 rfl X7 (e.at 2)) ?_;refine Ze (X26 rfl rfl)<|Ze (Xcu rfl rfl rfl)<|Ze (Vd rfl X0m 1)<|Ze (X0 rfl X7 (e.at 1))<|Ze (Vd rfl X0k 3) ?_;refine Ze (X0 rfl X7 (e.at 3))<|Ze (X26 rfl rfl)<|Ze (Xcu rfl rfl rfl)<|Ze (Vd rfl X0l 2)<|Ze (X0 rfl X7 (e.at 2)) ?_;refine Ze (Vd rfl X0j 0)<|Ze (X0 rfl X7 (e.at 0))<|Ze (X3u rfl rfl)<|Ze (Xcu rfl rfl rfl)<|Ze (Xg (ps:=[(0,vi (wr ((wr (x.b-x.d)).tdiv 2))),(1,vi (wr ((wr (x.a+x.c)).tdiv 2))),(2,vi (wr ((wr (x.b+x.d)).tdiv 2))),(3,vi (wr ((wr (x.c-x.a)).tdiv 2)))]) (cs:=[vi (wr ((wr (x.b-x.d)).tdiv 2)),vi (wr ((wr (x.a+x.c)).tdiv 2)),vi (wr ((wr (x.b+x.d)).tdiv 2)),vi (wr ((wr (x.c-x.a)).tdiv 2))]) rfl (fun _=>by first|rfl|kernel_rfl)) ?_;refine Ze (Vn X0c e)<|Zf (X5 (k:=1) (vs:=[.agg #[vi x.a,vi x.b,vi x.c,vi x.d]]) (zs:=[vi x.a,vi x.b,vi x.c,vi x.d]) rfl X4e X4q rfl rfl) ?_;rintro _ w7 ⟨b10,rfl,aD,j,q⟩
 have aE:b2≠b10:=by have:=e.lt;omega
 have aF:b3≠b10:=by have:=f.lt;omega
 have aP:=Nat.le_trans i.size aD;have f:=f.below j;have i:=btr i j;refine Zf (Vc (Xrd _ (rHalf x) (some ⟨b10,0,none⟩) 1 ([x]) (Rd.of_blk q rfl _ q.lt) rfl (by simp) (by simp)) Xbk) ?_;rintro _ w8 ⟨rfl,j⟩;have f:=f.below j;have i:=btr i j;refine Ze (X4 (vs:=[.agg #[vi ((rIf1 (rHalf x) ([x])).a),vi ((rIf1 (rHalf x) ([x])).b),vi ((rIf1 (rHalf x) ([x])).c),vi ((rIf1 (rHalf x) ([x])).d)],.bool (rIf2 (rHalf x) ([x]))]) rfl rfl)<|Ze (X4 (vs:=[.agg #[vi ((rIf1 (rHalf x) ([x])).a),vi ((rIf1 (rHalf x) ([x])).b),vi ((rIf1 (rHalf x) ([x])).c),vi ((rIf1 (rHalf x) ([x])).d)],.bool (rIf2 (rHalf x) ([x]))]) rfl rfl)<|Zo (Vw [vi ((rIf1 (rHalf x) ([x])).a),vi ((rIf1 (rHalf x) ([x])).b),vi ((rIf1 (rHalf x) ([x])).c),vi ((rIf1 (rHalf x) ([x])).d)] X16 f) ?_;rintro _ w9 ⟨ho,hb⟩;have aC:=f;have i:=Below.only i ho p;have f:=hb;refine Za rfl<|Zt aO fun a m=>?_
 refine wp_ret (X2 m (X0w m rfl (ResV.cellN (l:=[vi ((rIf1 (rHalf x) ([x])).a),vi ((rIf1 (rHalf x) ([x])).b),vi ((rIf1 (rHalf x) ([x])).c),vi ((rIf1 (rHalf x) ([x])).d)]) rfl X0c (f.at 0) rfl) rfl) ?_)
 refine ⟨?_,i⟩
 have hd:rDiv2 x=true:=hy
 have h2:=Xkr aN
 show Value.tuple #[rV (rIf1 (rHalf x) [x]),.bool (rIf2 (rHalf x) [x])]=_
 rw [rIf1,h2,rDiv1,hd]
theorem Xwq(w0:World)(x:Rg)(k:Int) : Ret Tryz.prog 113 [.agg #[vi x.a,vi x.b,vi x.c,vi x.d],vi k] w0 (fun v w=>v=.tuple #[rV (mulOm1 x k),.bool (mulOm2 x k)]∧Below w0.heap.size w0 w):=by
 refine enter Tryz.func113 rfl 33 rfl rfl ?_;intro a g
 have o:=bz w0
 refine Zs g fun _ aK=>?_;refine Zf (X0i (zs:=[vi x.a,vi x.b,vi x.c,vi x.d]) rfl rfl) ?_;rintro _ w1 ⟨b2,rfl,aL,p,e⟩;have aC:=Nat.le_trans o.size aL;have o:=btr o p;refine Zf (X8 (zs:=[vi 0,vi 0,vi 0,vi 0]) X1v rfl) ?_;rintro _ w2 ⟨b3,rfl,aM,p,f⟩
 have aJ:b2≠b3:=by have:=e.lt;omega
 have z:=Nat.le_trans o.size aM;have e:=e.below p;have o:=btr o p;refine Za rfl<|ZX aK fun a g _ aN=>?_;refine wp_seq_k fun _ aO=>?_;refine X0o (fun a w=>Fr a 33 [(1,vi k),(2,.pointer (some ⟨b2,0,none⟩)),(4,.pointer (some ⟨b3,0,none⟩)),(13,.bool ((!(inR k (-1000) 1000))||(!(rOk x))))]∧Below w2.heap.size w2 w) ?_ ?_
 ·have u:Below w2.heap.size w2 w2:=Below.refl _ _
  refine Zr g<|Zm rfl<|Zf (Vc (F91 _ k (-1000) 1000) X38) ?_;rintro _ _ ⟨rfl,rfl⟩;refine Ze (X0z rfl)<|Zm rfl ?_
  refine Zg 9 rfl (fun n=>?_) (fun n=>?_)
  ·refine Zp (gP n) ?_;refine Zp (gP n) ?_;refine Zp (gP n) ?_;refine Ze (Xn rfl n rfl) ?_;refine Zn fun a g=>?_
   have aA:Below w2.heap.size w2 w2:=u
   exact ⟨g.sub ⟨rfl,rfl,rfl,X1 rfl (by first|rfl|(simp only [n,bs];done)|simp [n]),trivial⟩,aA⟩
  refine Zv (gW n) (Vn X0c e) ?_;refine Zk (gW n) (Vc (Xjq _ x) X6u) ?_;rintro _ w3 ⟨rfl,p⟩;have o:=btr o p;have u:=btr u p;refine Zv (gW n) (X0z rfl) ?_;refine Ze (Xj rfl n rfl) ?_;refine Zn fun a g=>?_
  have aA:Below w2.heap.size w2 w3:=u
  exact ⟨g.sub ⟨rfl,rfl,rfl,X1 rfl (by first|rfl|(simp only [n,bs];done)|simp [n]),trivial⟩,aA⟩
 rintro a w4 ⟨g,p⟩;have e:=e.below p;have f:=f.below p;have o:=btr o p;refine aO _ _ ?_
 refine Xk g rfl (fun q=>?_) (fun q=>?_)
 ·have aD:=q
  have hn:mulOm2 x k=false:=by unfold mulOm2;revert q;cases inR k (-1000) 1000<;>cases rOk x<;>simp
  refine Zs g fun _ aP=>?_;refine Ze (Xg (ps:=[]) (cs:=[vi 0,vi 0,vi 0,vi 0]) rfl (fun _=>by first|rfl|kernel_rfl))<|Zo (Vw [vi 0,vi 0,vi 0,vi 0] X16 f) ?_;rintro _ w5 ⟨ho,hb⟩;have h:=f;have o:=Below.only o ho z;have f:=hb;refine Za rfl<|Zt aP fun a g=>?_;refine wp_ret<|X3<|X2 g (X0w g rfl (ResV.cellN (l:=[vi 0,vi 0,vi 0,vi 0]) rfl X0c (f.at 0) rfl) rfl) ?_;exact ⟨by simp [mulOm1,hn],o⟩
 have aD:=q
 have hy:mulOm2 x k=true:=by unfold mulOm2;revert q;cases inR k (-1000) 1000<;>cases rOk x<;>simp
 refine wp_skip<|aN _ _<|wp_seq_k fun _ aQ=>?_;refine Zs g fun _ aE=>?_;refine Zm rfl<|Ze (Xe8 rfl rfl rfl)<|Ze (X26 rfl rfl)<|Ze (Xe8 rfl rfl rfl)<|Zm rfl ?_;refine Zt aE fun a g=>?_;refine wp_block ?_
 have hj:turns k=((turns k).toNat:Int):=by have:=X3c k;omega
 have aR:=(X3c k).2;refine X0b (σ:=Rg×Nat) (fun (s:Rg×Nat) (a:Act) (w:World)=>match s with|(y,j)=>Fr a 33 [(2,.pointer (some ⟨b2,0,none⟩)),(4,.pointer (some ⟨b3,0,none⟩)),(18,vi ((wr ((k.tmod 8)+8)).tmod 8)),(19,vi (j:Int))]∧(rTurnN ((turns k).toNat-j) y=rTurn x k)∧(j≤(turns k).toNat)∧Blk w b2 93 [vi y.a,vi y.b,vi y.c,vi y.d]∧Blk w b3 93 [vi 0,vi 0,vi 0,vi 0]∧Below w0.heap.size w0 w) (fun (s:Rg×Nat)=>match s with|(y,j)=>(turns k).toNat-j) (x,0) ?_ ?_
 ·exact ⟨g.sb,rfl,(Nat.zero_le _),e,f,o⟩
 rintro ⟨y,j⟩ a w6 ⟨g,t,aR,e,f,o⟩;refine Zs g fun _ aF=>?_;refine Ze (X10 rfl rfl)<|ZX aF fun a g _ aG=>?_
 refine Xk g rfl (fun i=>?_) (fun i=>?_)
 ·have aB:=i;have i:=of_decide_eq_true i
  have aS:(j:Int)<turns k:=i
  refine wp_skip<|aG _ _<|wp_seq_k fun _ aH=>?_;refine wp_block<|Zr g<|Ze (Vd rfl X0k 3)<|Ze (X0 rfl X7 (e.at 3))<|Ze (Xjf rfl)<|Ze (Vd rfl X0j 0)<|Ze (X0 rfl X7 (e.at 0)) ?_;refine Ze (Vd rfl X0m 1)<|Ze (X0 rfl X7 (e.at 1))<|Ze (Vd rfl X0l 2)<|Ze (X0 rfl X7 (e.at 2))<|Ze (Xg (ps:=[(0,vi (wr (-y.d))),(1,vi y.a),(2,vi y.b),(3,vi y.c)]) (cs:=[vi (wr (-y.d)),vi y.a,vi y.b,vi y.c]) rfl (fun _=>by first|rfl|kernel_rfl)) ?_;refine Zo (Vw [vi (wr (-y.d)),vi y.a,vi y.b,vi y.c] X16 e) ?_;rintro _ w7 ⟨ho,hb⟩;have h:=e;have f:=f.only ho (by omega);have o:=Below.only o ho aC;have e:=hb;refine Zn fun a g=>?_;refine Xt<|aH _ _<|Zr g<|Ze (X06 rfl rfl (by omega) (by omega))<|Zm rfl ?_;refine Zn fun a g=>?_;refine Xp ?_;exact ⟨(rOm y,j+1),⟨g.sb,(by rw [← t];obtain ⟨m,hm⟩ : ∃ m,(turns k).toNat-j=m+1:=⟨(turns k).toNat-j-1,by omega⟩;rw [hm,show (turns k).toNat-(j+1)=m from by omega];rfl),(by omega),e,f,o⟩,(by first|omega|(dsimp only;omega))⟩
 have aB:=i;have i:=of_decide_eq_false i
 have aS:¬ (j:Int)<turns k:=i
 refine wp_exit<|Xl<|Xl<|X0a ?_;refine aQ _ _<|Zs g fun _ aI=>?_;refine Ze (Vn X0c e)<|Zo (Vw [vi y.a,vi y.b,vi y.c,vi y.d] X16 f) ?_;rintro _ w8 ⟨ho,hb⟩;have h:=f;have o:=Below.only o ho z;have f:=hb;refine Za rfl<|Zt aI fun a g=>?_
 refine wp_ret (X2 g (X0w g rfl (ResV.cellN (l:=[vi y.a,vi y.b,vi y.c,vi y.d]) rfl X0c (f.at 0) rfl) rfl) ?_)
 have aT:(turns k).toNat-j=0:=by omega
 rw [aT] at t
 refine ⟨?_,o⟩
 rw [mulOm1,hy,if_pos rfl,← t];rfl
theorem Xcf(w0:World)(k:Int)(hk:inR k (-1000) 1000=true) : Ret Tryz.prog 116 [vi k] w0 (fun v w=>v=dV (dPow k)∧Below w0.heap.size w0 w):=by
 refine enter Tryz.func116 rfl 13 rfl rfl ?_;intro a hf
 have f:=bz w0
 refine Zs hf fun _ aC=>?_;refine Zf (X8 (zs:=[vi 0,vi 0,vi 0,vi 0,vi 0]) X1i rfl) ?_;rintro _ w1 ⟨b2,rfl,aD,hE,e⟩;have aA:=Nat.le_trans f.size aD;have f:=btr f hE;refine Zx aC fun a hf _ aE=>?_;refine Ze (Xg (ps:=[(0,vi 1)]) (cs:=[vi 1,vi 0,vi 0,vi 0]) rfl (fun _=>by first|rfl|kernel_rfl))<|Zm rfl<|Zf (Vc (Xwq _ (⟨1,0,0,0⟩ : Rg) k) Xlo) ?_;rintro _ w2 ⟨rfl,hE⟩;have e:=e.below hE;have f:=btr f hE;refine Zm rfl<|Ze (X4 (vs:=[.agg #[vi ((mulOm1 (⟨1,0,0,0⟩ : Rg) k).a),vi ((mulOm1 (⟨1,0,0,0⟩ : Rg) k).b),vi ((mulOm1 (⟨1,0,0,0⟩ : Rg) k).c),vi ((mulOm1 (⟨1,0,0,0⟩ : Rg) k).d)],.bool (mulOm2 (⟨1,0,0,0⟩ : Rg) k)]) rfl rfl)<|Ze (X4 (vs:=[.agg #[vi ((mulOm1 (⟨1,0,0,0⟩ : Rg) k).a),vi ((mulOm1 (⟨1,0,0,0⟩ : Rg) k).b),vi ((mulOm1 (⟨1,0,0,0⟩ : Rg) k).c),vi ((mulOm1 (⟨1,0,0,0⟩ : Rg) k).d)],.bool (mulOm2 (⟨1,0,0,0⟩ : Rg) k)]) rfl rfl)<|Zf (X8 (zs:=[vi 0,vi 0,vi 0,vi 0]) X1v rfl) ?_;rintro _ w3 ⟨b4,rfl,aF,hE,g⟩;have aB:=Nat.le_trans f.size aF;have e:=e.below hE;have f:=btr f hE;refine Zo (Vw [vi ((mulOm1 (⟨1,0,0,0⟩ : Rg) k).a),vi ((mulOm1 (⟨1,0,0,0⟩ : Rg) k).b),vi ((mulOm1 (⟨1,0,0,0⟩ : Rg) k).c),vi ((mulOm1 (⟨1,0,0,0⟩ : Rg) k).d)] X16 g) ?_;rintro _ w4 ⟨ho,hb⟩;have i:=g;have e:=e.only ho (Blk.ne e i rfl);have f:=Below.only f ho aB;have g:=hb;refine Za rfl<|Zx aE fun a hf _ aG=>?_;refine Ze (Vn X0c g)<|Ze (Xg (ps:=[(0,.agg #[vi ((mulOm1 (⟨1,0,0,0⟩ : Rg) k).a),vi ((mulOm1 (⟨1,0,0,0⟩ : Rg) k).b),vi ((mulOm1 (⟨1,0,0,0⟩ : Rg) k).c),vi ((mulOm1 (⟨1,0,0,0⟩ : Rg) k).d)])]) (cs:=[vi ((mulOm1 (⟨1,0,0,0⟩ : Rg) k).a),vi ((mulOm1 (⟨1,0,0,0⟩ : Rg) k).b),vi ((mulOm1 (⟨1,0,0,0⟩ : Rg) k).c),vi ((mulOm1 (⟨1,0,0,0⟩ : Rg) k).d),vi 0]) rfl (fun _=>by first|rfl|kernel_rfl))<|Zo (Vw [vi ((mulOm1 (⟨1,0,0,0⟩ : Rg) k).a),vi ((mulOm1 (⟨1,0,0,0⟩ : Rg) k).b),vi ((mulOm1 (⟨1,0,0,0⟩ : Rg) k).c),vi ((mulOm1 (⟨1,0,0,0⟩ : Rg) k).d),vi 0] X01 e) ?_;rintro _ w5 ⟨ho,hb⟩
 have i:=e;have f:=Below.only f ho aA;have e:=hb;refine Zt aG fun a hf=>?_
 refine wp_ret (X2 hf (Xv hf rfl (ResV.cellN (l:=[vi ((mulOm1 (⟨1,0,0,0⟩ : Rg) k).a),vi ((mulOm1 (⟨1,0,0,0⟩ : Rg) k).b),vi ((mulOm1 (⟨1,0,0,0⟩ : Rg) k).c),vi ((mulOm1 (⟨1,0,0,0⟩ : Rg) k).d),vi 0]) rfl Xm (e.at 0) rfl)) ?_)
 refine ⟨?_,f⟩
 have h2:mulOm2 ⟨1,0,0,0⟩ k=true:=by simp only [mulOm2,hk,Bool.true_and];rfl
 rw [mulOm1,h2];rfl
theorem Xfd(w0:World)(x:Dy) : Ret Tryz.prog 117 [.agg #[vi x.num.a,vi x.num.b,vi x.num.c,vi x.num.d,vi x.exp]] w0 (fun v w=>v=.bool (dOk x)∧Below w0.heap.size w0 w):=by
 refine enter Tryz.func117 rfl 22 rfl rfl ?_;intro a k
 have n:=bz w0
 refine Zs k fun _ aA=>?_;refine Zf (X0i (zs:=[vi x.num.a,vi x.num.b,vi x.num.c,vi x.num.d,vi x.exp]) rfl rfl) ?_;rintro _ w1 ⟨b2,rfl,aB,o,m⟩;have aD:=Nat.le_trans n.size aB;have n:=btr n o;refine Za rfl<|ZX aA fun a k _ aC=>?_;refine X0o (fun a w=>Fr a 22 [(2,.bool (((rOk x.num)&&(inR x.exp 0 60))&&((x.exp==0)||(!(rEven x.num)))))]∧Below w1.heap.size w1 w) ?_ ?_
 ·have i:Below w1.heap.size w1 w1:=Below.refl _ _
  refine Zr k<|Ze (Vd rfl X1e 0)<|Ze (X07 (l:=[vi x.num.a,vi x.num.b,vi x.num.c,vi x.num.d]) rfl X0c ((m.at 0).take 4) rfl)<|Zf (Vc (Xjq _ x.num) X6u) ?_;rintro _ w2 ⟨rfl,o⟩;have m:=m.below o;have n:=btr n o;have i:=btr i o;refine Zm rfl ?_
  refine Zg 6 rfl (fun f=>?_) (fun f=>?_)
  ·refine Zv (gW f) (Vd rfl X1c 4) ?_;refine Zv (gW f) (X0 rfl X7 (m.at 4)) ?_;refine Zk (gW f) (Vc (F91 _ x.exp 0 60) X38) ?_;rintro _ _ ⟨rfl,rfl⟩;refine Ze (Xn rfl f rfl)<|Zm rfl ?_
   refine Zg 11 rfl (fun e=>?_) (fun e=>?_)
   ·refine Zv (gW e) (Vd rfl X1c 4) ?_;refine Zv (gW e) (X0 rfl X7 (m.at 4)) ?_;refine Zv (gW e) (X13 rfl rfl) ?_;refine Zv (gW e) (Xa rfl) ?_
    refine Zg 15 rfl (fun g=>?_) (fun g=>?_)
    ·refine Zp (gP g) ?_;refine Zp (gP g) ?_;refine Zp (gP g) ?_;refine Zp (gP g) ?_;refine Zv (gW e) (Xn rfl g rfl) ?_;refine Ze (Xn rfl e rfl)<|Za rfl ?_;refine Zn fun a k=>?_
     have j:Below w1.heap.size w1 w2:=i
     exact ⟨k.sub ⟨X1 rfl (by first|rfl|(simp only [f,e,g,bs];done)|simp [f,e,g]),trivial⟩,j⟩
    refine Zv (gW g) (Vd rfl X1e 0) ?_;refine Zv (gW g) (X07 (l:=[vi x.num.a,vi x.num.b,vi x.num.c,vi x.num.d]) rfl X0c ((m.at 0).take 4) rfl) ?_;refine Zk (gW g) (Vc (Xu8 _ x.num) Xfg) ?_;rintro _ w3 ⟨rfl,o⟩;have n:=btr n o;have i:=btr i o;refine Zv (gW g) (X0z rfl) ?_;refine Zv (gW e) (Xj rfl g rfl) ?_;refine Ze (Xn rfl e rfl)<|Za rfl ?_;refine Zn fun a k=>?_
    have j:Below w1.heap.size w1 w3:=i
    exact ⟨k.sub ⟨X1 rfl (by first|rfl|(simp only [f,e,g,bs];done)|simp [f,e,g]),trivial⟩,j⟩
   refine Zp (gP e) ?_;refine Zp (gP e) ?_;refine Zp (gP e) ?_;refine Zp (gP e) ?_;refine Zp (gP trivial) ?_;refine Zp (gP trivial) ?_;refine Zp (gP trivial) ?_;refine Zp (gP trivial) ?_;refine Zp (gP e) ?_;refine Ze (Xj rfl e rfl)<|Za rfl ?_;refine Zn fun a k=>?_
   have j:Below w1.heap.size w1 w2:=i
   exact ⟨k.sub ⟨X1 rfl (by first|rfl|(simp only [f,e,bs];done)|simp [f,e]),trivial⟩,j⟩
  refine Zp (gP f) ?_;refine Zp (gP f) ?_;refine Zp (gP f) ?_;refine Ze (Xj rfl f rfl)<|Zm rfl<|Zp (gP rfl) ?_;refine Zp (gP rfl) ?_;refine Zp (gP rfl) ?_;refine Zp (gP rfl) ?_;refine Zp (gP trivial) ?_;refine Zp (gP trivial) ?_;refine Zp (gP trivial) ?_;refine Zp (gP trivial) ?_;refine Zp (gP rfl) ?_;refine Ze (Xj rfl rfl rfl)<|Za rfl ?_;refine Zn fun a k=>?_
  have j:Below w1.heap.size w1 w2:=i
  exact ⟨k.sub ⟨X1 rfl (by first|rfl|(simp only [f,bs];done)|simp [f]),trivial⟩,j⟩
 rintro a w4 ⟨k,o⟩;have n:=btr n o;refine aC _ _ ?_
 refine wp_ret (X2 k (Xv k rfl rfl) ?_)
 exact ⟨by simp [dOk, *],n⟩
theorem Xxz(w0:World)(x:Rg)(m:Int) : Ret Tryz.prog 179 [.agg #[vi x.a,vi x.b,vi x.c,vi x.d],vi m] w0 (fun v w=>v=.tuple #[dV ((dOf x m).getD dZ),.bool ((dOf x m).isSome)]∧Below w0.heap.size w0 w):=by
 refine enter Tryz.func179 rfl 31 rfl rfl ?_;intro a i
 have k:=bz w0
 refine Zs i fun _ aJ=>?_;refine Zf (X0i (zs:=[vi x.a,vi x.b,vi x.c,vi x.d]) rfl rfl) ?_;rintro _ w1 ⟨b2,rfl,aK,o,f⟩;have aB:=Nat.le_trans k.size aK;have k:=btr k o;refine Zf (X8 (zs:=[vi 0,vi 0,vi 0,vi 0,vi 0]) X1i rfl) ?_;rintro _ w2 ⟨b3,rfl,aL,o,e⟩;have A:=Nat.le_trans k.size aL;have f:=f.below o;have k:=btr k o;refine Za rfl<|ZX aJ fun a i _ aM=>?_;refine wp_seq_k fun _ aN=>?_;refine X0o (fun a w=>Fr a 31 [(1,vi m),(2,.pointer (some ⟨b2,0,none⟩)),(4,.pointer (some ⟨b3,0,none⟩)),(13,.bool ((!(rOk x))||(!(inR m 0 60))))]∧Below w2.heap.size w2 w) ?_ ?_
 ·have q:Below w2.heap.size w2 w2:=Below.refl _ _
  refine Zr i<|Ze (Vn X0c f)<|Zf (Vc (Xjq _ x) X6u) ?_;rintro _ w3 ⟨rfl,o⟩;have k:=btr k o;have q:=btr q o;refine Ze (X0z rfl)<|Zm rfl ?_
  refine Zg 9 rfl (fun n=>?_) (fun n=>?_)
  ·refine Zp (gP n) ?_;refine Zp (gP n) ?_;refine Zp (gP n) ?_;refine Ze (Xn rfl n rfl) ?_;refine Zn fun a i=>?_
   have u:Below w2.heap.size w2 w3:=q
   exact ⟨i.sub ⟨rfl,rfl,rfl,X1 rfl (by first|rfl|(simp only [n,bs];done)|simp [n]),trivial⟩,u⟩
  refine Zv (gW n) (Xa rfl) ?_;refine Zk (gW n) (Vc (F91 _ m 0 60) X38) ?_;rintro _ _ ⟨rfl,rfl⟩;refine Zv (gW n) (X0z rfl) ?_;refine Ze (Xj rfl n rfl) ?_;refine Zn fun a i=>?_
  have u:Below w2.heap.size w2 w3:=q
  exact ⟨i.sub ⟨rfl,rfl,rfl,X1 rfl (by first|rfl|(simp only [n,bs];done)|simp [n]),trivial⟩,u⟩
 rintro a w4 ⟨i,o⟩;have f:=f.below o;have e:=e.below o;have k:=btr k o;refine aN _ _ ?_
 refine Xk i rfl (fun z=>?_) (fun z=>?_)
 ·have t:=z
  have hn:(rOk x&&inR m 0 60)=false:=by revert z;cases rOk x<;>cases inR m 0 60<;>simp
  refine Zs i fun _ aO=>?_;refine Ze (Xg (ps:=[]) (cs:=[vi 0,vi 0,vi 0,vi 0,vi 0]) rfl (fun _=>by first|rfl|kernel_rfl))<|Zo (Vw [vi 0,vi 0,vi 0,vi 0,vi 0] X01 e) ?_;rintro _ w5 ⟨ho,hb⟩;have h:=e;have k:=Below.only k ho A;have e:=hb;refine Za rfl<|Zt aO fun a i=>?_;refine wp_ret<|X3<|X2 i (X0w i rfl (ResV.cellN (l:=[vi 0,vi 0,vi 0,vi 0,vi 0]) rfl Xm (e.at 0) rfl) rfl) ?_;exact ⟨by simp [dOf,hn,dZ],k⟩
 have t:=z
 have hy:(rOk x&&inR m 0 60)=true:=by revert z;cases rOk x<;>cases inR m 0 60<;>simp
 have aC:=(Bool.and_eq_true _ _▸hy:rOk x=true∧inR m 0 60=true);have hm:=X03.1 aC.2;refine wp_skip<|aM _ _<|wp_seq_k fun _ aP=>?_;refine wp_block<|X0b (σ:=Rg×Int) (fun (s:Rg×Int) (a:Act) (w:World)=>match s with|(y,j)=>Fr a 31 [(1,vi j),(2,.pointer (some ⟨b2,0,none⟩)),(4,.pointer (some ⟨b3,0,none⟩))]∧(dLow y j=dLow x m)∧(rOk y=true)∧(j≤60)∧Blk w b2 93 [vi y.a,vi y.b,vi y.c,vi y.d]∧Blk w b3 95 [vi 0,vi 0,vi 0,vi 0,vi 0]∧Below w0.heap.size w0 w) (fun (s:Rg×Int)=>match s with|(y,j)=>j.toNat) (x,m) ?_ ?_
 ·exact ⟨i.sb,rfl,aC.1,hm.2,f,e,k⟩
 rintro ⟨y,j⟩ a w6 ⟨i,B,aD,aR,f,e,k⟩;refine wp_seq_k fun _ aE=>?_;refine wp_seq_k fun _ aF=>?_;refine X0o (fun a w=>Fr a 31 [(1,vi j),(2,.pointer (some ⟨b2,0,none⟩)),(4,.pointer (some ⟨b3,0,none⟩)),(20,.bool ((decide (0<j))&&(rEven y)))]∧Below w6.heap.size w6 w) ?_ ?_
 ·have q:Below w6.heap.size w6 w6:=Below.refl _ _
  refine Zr i<|Zm rfl<|Ze (X3a rfl rfl)<|Zm rfl ?_
  refine Zg 17 rfl (fun g=>?_) (fun g=>?_)
  ·refine Zv (gW g) (Vn X0c f) ?_;refine Zk (gW g) (Vc (Xu8 _ y) Xfg) ?_;rintro _ w7 ⟨rfl,o⟩;have k:=btr k o;have q:=btr q o;refine Ze (Xn rfl g rfl) ?_;refine Zn fun a i=>?_
   have u:Below w6.heap.size w6 w7:=q
   exact ⟨i.sub ⟨rfl,rfl,rfl,X1 rfl (by first|rfl|(simp only [t,g,bs];done)|simp [t,g]),trivial⟩,u⟩
  refine Zp (gP g) ?_;refine Zp (gP g) ?_;refine Ze (Xj rfl g rfl) ?_;refine Zn fun a i=>?_
  have u:Below w6.heap.size w6 w6:=q
  exact ⟨i.sub ⟨rfl,rfl,rfl,X1 rfl (by first|rfl|(simp only [t,g,bs];done)|simp [t,g]),trivial⟩,u⟩
 rintro a w8 ⟨i,o⟩;have f:=f.below o;have e:=e.below o;have k:=btr k o;refine aF _ _ ?_
 refine Xk i rfl (fun p=>?_) (fun p=>?_)
 ·have aA:=p
  have aS:0<j:=by revert p;simp;omega
  have aG:rEven y=true:=by revert p;cases rEven y<;>simp
  refine wp_skip<|aE _ _<|wp_block<|Zs i fun _ aH=>?_;refine Ze (Vn X0c f)<|Zf (Vc (Xyg _ y) Xvn) ?_;rintro _ w9 ⟨rfl,o⟩;have f:=f.below o;have e:=e.below o;have k:=btr k o;refine Zm rfl<|Ze (X4 (vs:=[.agg #[vi ((rDiv1 y).a),vi ((rDiv1 y).b),vi ((rDiv1 y).c),vi ((rDiv1 y).d)],.bool (rDiv2 y)]) rfl rfl)<|Ze (X4 (vs:=[.agg #[vi ((rDiv1 y).a),vi ((rDiv1 y).b),vi ((rDiv1 y).c),vi ((rDiv1 y).d)],.bool (rDiv2 y)]) rfl rfl)<|Zo (Vw [vi ((rDiv1 y).a),vi ((rDiv1 y).b),vi ((rDiv1 y).c),vi ((rDiv1 y).d)] X16 f) ?_;rintro _ aT ⟨ho,hb⟩;have h:=f;have e:=e.only ho (Blk.ne e h rfl);have k:=Below.only k ho aB;have f:=hb;refine Zt aH fun a i=>?_;refine Zr i<|Zm rfl<|Ze (X1h rfl rfl (by omega) (by omega))<|Za rfl ?_;refine Zn fun a i=>?_;refine Xt ?_
  rw [rDiv1,rDiv2,aD,aG,Bool.and_self,if_pos rfl] at f
  refine Xp ?_;exact ⟨(rHalf y,j-1),⟨i.sb,(by rw [← B];exact (X3j (by omega) aG).symm),(X5x aD),(by omega),f,e,k⟩,(by first|omega|(dsimp only;omega))⟩
 have aA:=p
 have aQ:dLow y j=⟨y,j⟩:=X21 (by intro h0;revert p;simp [h0])
 refine wp_exit<|Xl<|Xl<|X0a ?_;refine aP _ _<|Zs i fun _ aI=>?_;refine Ze (Vn X0c f)<|Zm rfl<|Ze (Xg (ps:=[(0,.agg #[vi y.a,vi y.b,vi y.c,vi y.d]),(1,vi j)]) (cs:=[vi y.a,vi y.b,vi y.c,vi y.d,vi j]) rfl (fun _=>by first|rfl|kernel_rfl))<|Zo (Vw [vi y.a,vi y.b,vi y.c,vi y.d,vi j] X01 e) ?_;rintro _ aU ⟨ho,hb⟩;have h:=e;have k:=Below.only k ho A;have e:=hb;refine Za rfl<|Zt aI fun a i=>?_
 refine wp_ret (X2 i (X0w i rfl (ResV.cellN (l:=[vi y.a,vi y.b,vi y.c,vi y.d,vi j]) rfl Xm (e.at 0) rfl) rfl) ?_)
 refine ⟨?_,k⟩
 have he:dOf x m=some ⟨y,j⟩:=by rw [dOf,if_pos hy,← B,aQ]
 rw [he];rfl
theorem Xxc(w0:World)(x:Dy)(m:Int)(h0:0≤x.exp)(hm:m≤60)(aF:x.exp≤m) : Ret Tryz.prog 210 [.agg #[vi x.num.a,vi x.num.b,vi x.num.c,vi x.num.d,vi x.exp],vi m] w0 (fun v w=>v=.tuple #[rV ((dRaise x m).1),.bool ((dRaise x m).2)]∧Below w0.heap.size w0 w):=by
 refine enter Tryz.func210 rfl 28 rfl rfl ?_;intro a i
 have k:=bz w0
 refine Zs i fun _ aG=>?_;refine Zf (X0i (zs:=[vi x.num.a,vi x.num.b,vi x.num.c,vi x.num.d,vi x.exp]) rfl rfl) ?_;rintro _ w1 ⟨b2,rfl,aH,q,p⟩;have aR:=Nat.le_trans k.size aH;have k:=btr k q;refine Zf (X8 (zs:=[vi 0,vi 0,vi 0,vi 0]) X1v rfl) ?_;rintro _ w2 ⟨b3,rfl,aI,q,e⟩;have aB:=Nat.le_trans k.size aI;have p:=p.below q;have k:=btr k q;refine Za rfl<|Zx aG fun a i _ aJ=>?_;refine Ze (Vd rfl X1e 0)<|Ze (X07 (l:=[vi x.num.a,vi x.num.b,vi x.num.c,vi x.num.d]) rfl X0c ((p.at 0).take 4) rfl)<|Zf (X8 (zs:=[vi 0,vi 0,vi 0,vi 0]) X1v rfl) ?_;rintro _ w3 ⟨b5,rfl,aK,q,g⟩
 have aE:b3≠b5:=by have:=e.lt;omega
 have z:=Nat.le_trans k.size aK;have p:=p.below q;have e:=e.below q;have k:=btr k q;refine Zo (Vw [vi x.num.a,vi x.num.b,vi x.num.c,vi x.num.d] X16 g) ?_;rintro _ w4 ⟨t,u⟩;have n:=g;have p:=p.only t (Blk.ne p n rfl);have e:=e.only t (by omega);have k:=Below.only k t z;clear n;have g:=u;clear u t;refine Za rfl<|ZX aJ fun a i _ aL=>?_;refine Zs i fun _ aM=>?_;refine Ze (Vd rfl X1c 4)<|Ze (X0 rfl X7 (p.at 4))<|Za rfl<|Zt aM fun a i=>?_;refine wp_block<|X0b (σ:=Rg×Bool×Int) (fun (s:Rg×Bool×Int) (a:Act) (w:World)=>match s with|(y,b,j)=>Fr a 28 [(1,vi m),(4,.pointer (some ⟨b3,0,none⟩)),(6,.pointer (some ⟨b5,0,none⟩)),(7,.bool b),(8,vi j)]∧((if b=true then raiseI (m-j).toNat y else (y,false))=dRaise x m)∧(b=true→j≤m)∧(0≤j∧j≤61)∧Blk w b3 93 [vi 0,vi 0,vi 0,vi 0]∧Blk w b5 93 [vi y.a,vi y.b,vi y.c,vi y.d]∧Below w0.heap.size w0 w) (fun (s:Rg×Bool×Int)=>match s with|(y,b,j)=>(62-j).toNat) (x.num,true,x.exp) ?_ ?_
 ·exact ⟨i.sb,rfl,(fun _=>aF),(by omega),e,g,k⟩
 rintro ⟨y,b,j⟩ a w5 ⟨i,h,aT,aS,e,g,k⟩;refine wp_seq_k fun _ aN=>?_;refine wp_seq_k fun _ aO=>?_;refine X0o (fun a w=>Fr a 28 [(1,vi m),(4,.pointer (some ⟨b3,0,none⟩)),(6,.pointer (some ⟨b5,0,none⟩)),(7,.bool b),(8,vi j),(18,.bool ((decide (j<m))&&b))]∧w5=w) ?_ ?_
 ·refine Zr i<|Zm rfl<|Zm rfl<|Ze (X10 rfl rfl)<|Zm rfl ?_
  refine Zg 16 rfl (fun f=>?_) (fun f=>?_)
  ·refine Zv (gW f) (Xa rfl) ?_;refine Ze (Xn rfl f rfl) ?_;refine Zn fun a i=>?_;exact ⟨i.sub ⟨rfl,rfl,rfl,rfl,rfl,X1 rfl (by first|rfl|(simp only [f,bs];done)|simp [f]),trivial⟩,rfl⟩
  refine Zp (gP f) ?_;refine Ze (Xj rfl f rfl) ?_;refine Zn fun a i=>?_;exact ⟨i.sub ⟨rfl,rfl,rfl,rfl,rfl,X1 rfl (by first|rfl|(simp only [f,bs];done)|simp [f]),trivial⟩,rfl⟩
 rintro a _ ⟨i,rfl⟩;refine aO _ _ ?_
 refine Xk i rfl (fun o=>?_) (fun o=>?_)
 ·have aA:=o
  have aP:j<m:=by revert o;simp;omega
  have u:b=true:=by revert o;cases b<;>simp
  refine wp_skip<|aN _ _<|wp_seq_k fun _ aC=>?_;refine wp_block<|Zr i<|Ze (Vn X0c g)<|Zf (Vc (Xzj _ y) Xsr) ?_;rintro _ w6 ⟨rfl,q⟩;have e:=e.below q;have g:=g.below q;have k:=btr k q;refine Zm rfl<|Ze (X4 (vs:=[.agg #[vi ((rIf1 (rRoot y) [y]).a),vi ((rIf1 (rRoot y) [y]).b),vi ((rIf1 (rRoot y) [y]).c),vi ((rIf1 (rRoot y) [y]).d)],.bool (rIf2 (rRoot y) [y])]) rfl rfl)<|Ze (X4 (vs:=[.agg #[vi ((rIf1 (rRoot y) [y]).a),vi ((rIf1 (rRoot y) [y]).b),vi ((rIf1 (rRoot y) [y]).c),vi ((rIf1 (rRoot y) [y]).d)],.bool (rIf2 (rRoot y) [y])]) rfl rfl)<|Zo (Vw [vi ((rIf1 (rRoot y) [y]).a),vi ((rIf1 (rRoot y) [y]).b),vi ((rIf1 (rRoot y) [y]).c),vi ((rIf1 (rRoot y) [y]).d)] X16 g) ?_;rintro _ w7 ⟨t,u⟩;have n:=g;have e:=e.only t (by omega);have k:=Below.only k t z;clear n;have g:=u;clear u t;refine Za rfl ?_;refine Zn fun a i=>?_;refine Xt<|aC _ _<|Zr i<|Zm rfl<|Ze (X06 rfl rfl (by omega) (by omega))<|Za rfl ?_;refine Zn fun a i=>?_;refine Xp ?_;exact ⟨(rIf1 (rRoot y) [y],rIf2 (rRoot y) [y],j+1),⟨i.sb,(Xes h u aP),(by intro _;omega),(by omega),e,g,k⟩,(by first|omega|(dsimp only;omega))⟩
 have aA:=o
 have aQ:b=true→m≤j:=by intro h0;subst h0;revert o;simp
 refine wp_exit<|Xl<|Xl<|X0a ?_;refine aL _ _<|Zs i fun _ aD=>?_;refine Ze (Vn X0c g)<|Zm rfl<|Zo (Vw [vi y.a,vi y.b,vi y.c,vi y.d] X16 e) ?_;rintro _ w8 ⟨t,u⟩;have n:=e;have k:=Below.only k t aB;clear n;have e:=u;clear u t;refine Za rfl<|Zt aD fun a i=>?_
 refine wp_ret (X2 i (X0w i rfl (ResV.cellN (l:=[vi y.a,vi y.b,vi y.c,vi y.d]) rfl X0c (e.at 0) rfl) rfl) ?_)
 refine ⟨?_,k⟩
 have he:dRaise x m=(y,b):=by rw [← h];cases b with
  | false=>rfl
  | true=>rw [if_pos rfl,show (m-j).toNat=0 from by have:=aQ rfl;omega];rfl
 rw [he]
theorem Xya(w0:World)(x:Dy)(y:Dy) : Ret Tryz.prog 180 [.agg #[vi x.num.a,vi x.num.b,vi x.num.c,vi x.num.d,vi x.exp],.agg #[vi y.num.a,vi y.num.b,vi y.num.c,vi y.num.d,vi y.exp],.func (.func 181) #[] #[]] w0 (fun v w=>v=.tuple #[dV ((dAddI x y).getD dZ),.bool ((dAddI x y).isSome)]∧Below w0.heap.size w0 w):=by
 refine enter Tryz.func180 rfl 64 rfl rfl ?_;intro a k
 have f:=bz w0
 refine Zs k fun _ aY=>?_;refine Zf (X0i (zs:=[vi x.num.a,vi x.num.b,vi x.num.c,vi x.num.d,vi x.exp]) rfl rfl) ?_;rintro _ w1 ⟨b2,rfl,aZ,g,q⟩;have bD:=Nat.le_trans f.size aZ;have f:=btr f g;refine Zf (X0i (zs:=[vi y.num.a,vi y.num.b,vi y.num.c,vi y.num.d,vi y.exp]) rfl rfl) ?_;rintro _ w2 ⟨b3,rfl,b0,g,m⟩
 have aU:b2≠b3:=by have:=q.lt;omega
 have bE:=Nat.le_trans f.size b0;have q:=q.below g;have f:=btr f g;refine Zf (X8 (zs:=[vi 0,vi 0,vi 0,vi 0,vi 0]) X1i rfl) ?_;rintro _ w3 ⟨b4,rfl,b1,g,e⟩
 have aW:b2≠b4:=by have:=q.lt;omega
 have aX:b3≠b4:=by have:=m.lt;omega
 have C:=Nat.le_trans f.size b1;have q:=q.below g;have m:=m.below g;have f:=btr f g;refine Za rfl<|ZX aY fun a k _ b5=>?_;refine wp_seq_k fun _ b6=>?_;refine X0o (fun a w=>Fr a 64 [(2,.func (.func 181) #[] #[]),(3,.pointer (some ⟨b2,0,none⟩)),(4,.pointer (some ⟨b3,0,none⟩)),(6,.pointer (some ⟨b4,0,none⟩)),(22,.bool ((!(dOk x))||(!(dOk y))))]∧Below w3.heap.size w3 w) ?_ ?_
 ·have B:Below w3.heap.size w3 w3:=Below.refl _ _
  refine Zr k<|Ze (Vn Xm q)<|Zf (Vc (Xfd _ x) X5i) ?_;rintro _ w4 ⟨rfl,g⟩;have m:=m.below g;have f:=btr f g;have B:=btr B g;refine Ze (X0z rfl)<|Zm rfl ?_
  refine Zg 18 rfl (fun p=>?_) (fun p=>?_)
  ·refine Zp (gP p) ?_;refine Zp (gP p) ?_;refine Zp (gP p) ?_;refine Ze (Xn rfl p rfl) ?_;refine Zn fun a k=>?_
   have aA:Below w3.heap.size w3 w4:=B
   exact ⟨k.sub ⟨rfl,rfl,rfl,rfl,X1 rfl (by first|rfl|(simp only [p,bs];done)|simp [p]),trivial⟩,aA⟩
  refine Zv (gW p) (Vn Xm m) ?_;refine Zk (gW p) (Vc (Xfd _ y) X5i) ?_;rintro _ w5 ⟨rfl,g⟩;have f:=btr f g;have B:=btr B g;refine Zv (gW p) (X0z rfl) ?_;refine Ze (Xj rfl p rfl) ?_;refine Zn fun a k=>?_
  have aA:Below w3.heap.size w3 w5:=B
  exact ⟨k.sub ⟨rfl,rfl,rfl,rfl,X1 rfl (by first|rfl|(simp only [p,bs];done)|simp [p]),trivial⟩,aA⟩
 rintro a w6 ⟨k,g⟩;have q:=q.below g;have m:=m.below g;have e:=e.below g;have f:=btr f g;refine b6 _ _ ?_
 refine Xk k rfl (fun D=>?_) (fun D=>?_)
 ·have t:=D
  have hn:(dOk x&&dOk y)=false:=by revert D;cases dOk x<;>cases dOk y<;>simp
  refine Zs k fun _ b7=>?_;refine Ze (Xg (ps:=[]) (cs:=[vi 0,vi 0,vi 0,vi 0,vi 0]) rfl (fun _=>by first|rfl|kernel_rfl))<|Zo (Vw [vi 0,vi 0,vi 0,vi 0,vi 0] X01 e) ?_;rintro _ w7 ⟨h,E⟩;have o:=e;have f:=Below.only f h C;have e:=E;refine Za rfl<|Zt b7 fun a k=>?_;refine wp_ret<|X3<|X2 k (X0w k rfl (ResV.cellN (l:=[vi 0,vi 0,vi 0,vi 0,vi 0]) rfl Xm (e.at 0) rfl) rfl) ?_;exact ⟨by rw [dAddI,hn];rfl,f⟩
 have t:=D
 have hy:(dOk x&&dOk y)=true:=by revert D;cases dOk x<;>cases dOk y<;>simp
 have hx:=X2s (Bool.and_eq_true _ _▸hy:dOk x=true∧dOk y=true).1;have hz:=X2s (Bool.and_eq_true _ _▸hy:dOk x=true∧dOk y=true).2;refine wp_skip<|b5 _ _<|Zs k fun _ aI=>?_;refine Ze (Vd rfl X1c 4)<|Ze (X0 rfl X7 (q.at 4))<|Ze (Vd rfl X1c 4)<|Ze (X0 rfl X7 (m.at 4))<|Ze (Xz5 rfl rfl) ?_;refine Za rfl<|Zx aI fun a k _ aJ=>?_;refine Ze (Vn Xm q)<|Zm rfl<|Zf (Vc (Xxc _ x (max x.exp y.exp) (by omega) (by omega) (by omega)) Xk8) ?_;rintro _ w8 ⟨rfl,g⟩;have m:=m.below g;have e:=e.below g;have f:=btr f g;refine Zm rfl<|Ze (X4 (vs:=[.agg #[vi (((dRaise x (max x.exp y.exp)).1).a),vi (((dRaise x (max x.exp y.exp)).1).b),vi (((dRaise x (max x.exp y.exp)).1).c),vi (((dRaise x (max x.exp y.exp)).1).d)],.bool ((dRaise x (max x.exp y.exp)).2)]) rfl rfl)<|Ze (X4 (vs:=[.agg #[vi (((dRaise x (max x.exp y.exp)).1).a),vi (((dRaise x (max x.exp y.exp)).1).b),vi (((dRaise x (max x.exp y.exp)).1).c),vi (((dRaise x (max x.exp y.exp)).1).d)],.bool ((dRaise x (max x.exp y.exp)).2)]) rfl rfl)<|Zf (X8 (zs:=[vi 0,vi 0,vi 0,vi 0]) X1v rfl) ?_;rintro _ w9 ⟨aK,rfl,aL,g,i⟩;have aB:=Nat.le_trans f.size aL;have m:=m.below g;have e:=e.below g;have f:=btr f g;refine Zo (Vw [vi (((dRaise x (max x.exp y.exp)).1).a),vi (((dRaise x (max x.exp y.exp)).1).b),vi (((dRaise x (max x.exp y.exp)).1).c),vi (((dRaise x (max x.exp y.exp)).1).d)] X16 i) ?_;rintro _ bF ⟨h,E⟩;have o:=i;have m:=m.only h (Blk.ne m o rfl);have e:=e.only h (Blk.ne e o rfl);have f:=Below.only f h aB;have i:=E;refine Za rfl<|Zx aJ fun a k _ aM=>?_;refine Ze (Vn Xm m)<|Zm rfl<|Zf (Vc (Xxc _ y (max x.exp y.exp) (by omega) (by omega) (by omega)) Xk8) ?_;rintro _ bG ⟨rfl,g⟩
 have e:=e.below g;have i:=i.below g;have f:=btr f g;refine Zm rfl<|Ze (X4 (vs:=[.agg #[vi (((dRaise y (max x.exp y.exp)).1).a),vi (((dRaise y (max x.exp y.exp)).1).b),vi (((dRaise y (max x.exp y.exp)).1).c),vi (((dRaise y (max x.exp y.exp)).1).d)],.bool ((dRaise y (max x.exp y.exp)).2)]) rfl rfl)<|Ze (X4 (vs:=[.agg #[vi (((dRaise y (max x.exp y.exp)).1).a),vi (((dRaise y (max x.exp y.exp)).1).b),vi (((dRaise y (max x.exp y.exp)).1).c),vi (((dRaise y (max x.exp y.exp)).1).d)],.bool ((dRaise y (max x.exp y.exp)).2)]) rfl rfl)<|Zf (X8 (zs:=[vi 0,vi 0,vi 0,vi 0]) X1v rfl) ?_;rintro _ bH ⟨b14,rfl,aN,g,u⟩
 have aF:aK≠b14:=by have:=i.lt;omega
 have aC:=Nat.le_trans f.size aN;have e:=e.below g;have i:=i.below g;have f:=btr f g;refine Zo (Vw [vi (((dRaise y (max x.exp y.exp)).1).a),vi (((dRaise y (max x.exp y.exp)).1).b),vi (((dRaise y (max x.exp y.exp)).1).c),vi (((dRaise y (max x.exp y.exp)).1).d)] X16 u) ?_;rintro _ bI ⟨h,E⟩;have o:=u;have e:=e.only h (Blk.ne e o rfl);have i:=i.only h (by omega);have f:=Below.only f h aC;have u:=E;refine Za rfl<|Zx aM fun a k _ aO=>?_;refine Zm rfl<|Ze (Vn X0c i)<|Ze (Vn X0c u)<|Zf (X76 (cs:=[]) (vs:=[.agg #[vi (((dRaise x (max x.exp y.exp)).1).a),vi (((dRaise x (max x.exp y.exp)).1).b),vi (((dRaise x (max x.exp y.exp)).1).c),vi (((dRaise x (max x.exp y.exp)).1).d)],.agg #[vi (((dRaise y (max x.exp y.exp)).1).a),vi (((dRaise y (max x.exp y.exp)).1).b),vi (((dRaise y (max x.exp y.exp)).1).c),vi (((dRaise y (max x.exp y.exp)).1).d)]]) rfl rfl Xsy (Xz4 _ ((dRaise x (max x.exp y.exp)).1) ((dRaise y (max x.exp y.exp)).1))) ?_;rintro _ bJ ⟨rfl,g⟩;have e:=e.below g;have i:=i.below g;have u:=u.below g;have f:=btr f g;refine Zm rfl<|Ze (X4 (vs:=[.agg #[vi ((rIf1 (rAdd ((dRaise x (max x.exp y.exp)).1) ((dRaise y (max x.exp y.exp)).1)) [((dRaise x (max x.exp y.exp)).1),((dRaise y (max x.exp y.exp)).1)]).a),vi ((rIf1 (rAdd ((dRaise x (max x.exp y.exp)).1) ((dRaise y (max x.exp y.exp)).1)) [((dRaise x (max x.exp y.exp)).1),((dRaise y (max x.exp y.exp)).1)]).b),vi ((rIf1 (rAdd ((dRaise x (max x.exp y.exp)).1) ((dRaise y (max x.exp y.exp)).1)) [((dRaise x (max x.exp y.exp)).1),((dRaise y (max x.exp y.exp)).1)]).c),vi ((rIf1 (rAdd ((dRaise x (max x.exp y.exp)).1) ((dRaise y (max x.exp y.exp)).1)) [((dRaise x (max x.exp y.exp)).1),((dRaise y (max x.exp y.exp)).1)]).d)],.bool (rIf2 (rAdd ((dRaise x (max x.exp y.exp)).1) ((dRaise y (max x.exp y.exp)).1)) [((dRaise x (max x.exp y.exp)).1),((dRaise y (max x.exp y.exp)).1)])]) rfl rfl)<|Ze (X4 (vs:=[.agg #[vi ((rIf1 (rAdd ((dRaise x (max x.exp y.exp)).1) ((dRaise y (max x.exp y.exp)).1)) [((dRaise x (max x.exp y.exp)).1),((dRaise y (max x.exp y.exp)).1)]).a),vi ((rIf1 (rAdd ((dRaise x (max x.exp y.exp)).1) ((dRaise y (max x.exp y.exp)).1)) [((dRaise x (max x.exp y.exp)).1),((dRaise y (max x.exp y.exp)).1)]).b),vi ((rIf1 (rAdd ((dRaise x (max x.exp y.exp)).1) ((dRaise y (max x.exp y.exp)).1)) [((dRaise x (max x.exp y.exp)).1),((dRaise y (max x.exp y.exp)).1)]).c),vi ((rIf1 (rAdd ((dRaise x (max x.exp y.exp)).1) ((dRaise y (max x.exp y.exp)).1)) [((dRaise x (max x.exp y.exp)).1),((dRaise y (max x.exp y.exp)).1)]).d)],.bool (rIf2 (rAdd ((dRaise x (max x.exp y.exp)).1) ((dRaise y (max x.exp y.exp)).1)) [((dRaise x (max x.exp y.exp)).1),((dRaise y (max x.exp y.exp)).1)])]) rfl rfl)<|Zf (X8 (zs:=[vi 0,vi 0,vi 0,vi 0]) X1v rfl) ?_;rintro _ bK ⟨b16,rfl,aP,g,A⟩
 have aG:aK≠b16:=by have:=i.lt;omega
 have aH:b14≠b16:=by have:=u.lt;omega
 have aD:=Nat.le_trans f.size aP;have e:=e.below g;have f:=btr f g;refine Zo (Vw [vi ((rIf1 (rAdd ((dRaise x (max x.exp y.exp)).1) ((dRaise y (max x.exp y.exp)).1)) [((dRaise x (max x.exp y.exp)).1),((dRaise y (max x.exp y.exp)).1)]).a),vi ((rIf1 (rAdd ((dRaise x (max x.exp y.exp)).1) ((dRaise y (max x.exp y.exp)).1)) [((dRaise x (max x.exp y.exp)).1),((dRaise y (max x.exp y.exp)).1)]).b),vi ((rIf1 (rAdd ((dRaise x (max x.exp y.exp)).1) ((dRaise y (max x.exp y.exp)).1)) [((dRaise x (max x.exp y.exp)).1),((dRaise y (max x.exp y.exp)).1)]).c),vi ((rIf1 (rAdd ((dRaise x (max x.exp y.exp)).1) ((dRaise y (max x.exp y.exp)).1)) [((dRaise x (max x.exp y.exp)).1),((dRaise y (max x.exp y.exp)).1)]).d)] X16 A) ?_;rintro _ b8 ⟨h,E⟩;have o:=A;have e:=e.only h (Blk.ne e o rfl);have f:=Below.only f h aD;have A:=E;refine Za rfl<|ZX aO fun a k _ aQ=>?_;refine wp_seq_k fun _ aR=>?_;refine X0o (fun a w=>Fr a 64 [(6,.pointer (some ⟨b4,0,none⟩)),(8,vi (max x.exp y.exp)),(13,.pointer (some ⟨b16,0,none⟩)),(57,.bool (((!((dRaise x (max x.exp y.exp)).2))||(!((dRaise y (max x.exp y.exp)).2)))||(!(rIf2 (rAdd ((dRaise x (max x.exp y.exp)).1) ((dRaise y (max x.exp y.exp)).1)) [((dRaise x (max x.exp y.exp)).1),((dRaise y (max x.exp y.exp)).1)]))))]∧b8=w) ?_ ?_
 ·refine Zr k<|Zm rfl<|Ze (X0z rfl)<|Zm rfl ?_
  refine Zg 50 rfl (fun j=>?_) (fun j=>?_)
  ·refine Zp (gP j) ?_;refine Zp (gP j) ?_;refine Ze (Xn rfl j rfl)<|Zm rfl<|Zp (gP rfl) ?_;refine Zp (gP rfl) ?_;refine Ze (Xn rfl rfl rfl) ?_;refine Zn fun a k=>?_;exact ⟨k.sub ⟨rfl,rfl,rfl,X1 rfl (by first|rfl|(simp only [t,j,bs];done)|simp [t,j]),trivial⟩,rfl⟩
  refine Zv (gW j) (Xa rfl) ?_;refine Zv (gW j) (X0z rfl) ?_;refine Ze (Xj rfl j rfl)<|Zm rfl ?_
  refine Zg 54 rfl (fun n=>?_) (fun n=>?_)
  ·refine Zp (gP n) ?_;refine Zp (gP n) ?_;refine Ze (Xn rfl n rfl) ?_;refine Zn fun a k=>?_;exact ⟨k.sub ⟨rfl,rfl,rfl,X1 rfl (by first|rfl|(simp only [t,j,n,bs];done)|simp [t,j,n]),trivial⟩,rfl⟩
  refine Zv (gW n) (Xa rfl) ?_;refine Zv (gW n) (X0z rfl) ?_;refine Ze (Xj rfl n rfl) ?_;refine Zn fun a k=>?_;exact ⟨k.sub ⟨rfl,rfl,rfl,X1 rfl (by first|rfl|(simp only [t,j,n,bs];done)|simp [t,j,n]),trivial⟩,rfl⟩
 rintro a _ ⟨k,rfl⟩;refine aR _ _ ?_
 refine Xk k rfl (fun z=>?_) (fun z=>?_)
 ·have aE:=z;have b9:=X9v z;refine Zs k fun _ aS=>?_;refine Ze (Xg (ps:=[]) (cs:=[vi 0,vi 0,vi 0,vi 0,vi 0]) rfl (fun _=>by first|rfl|kernel_rfl))<|Zo (Vw [vi 0,vi 0,vi 0,vi 0,vi 0] X01 e) ?_;rintro _ bL ⟨h,E⟩;have o:=e;have f:=Below.only f h C;have e:=E;refine Za rfl<|Zt aS fun a k=>?_;refine wp_ret<|X3<|X2 k (X0w k rfl (ResV.cellN (l:=[vi 0,vi 0,vi 0,vi 0,vi 0]) rfl Xm (e.at 0) rfl) rfl) ?_;exact ⟨by rw [dAddI,if_pos hy,b9];rfl,f⟩
 have aE:=z;have bC:=Xch z;refine wp_skip<|aQ _ _<|Zs k fun _ aT=>?_;refine Ze (Vn X0c A)<|Zm rfl<|Zf (Vc (Xxz _ (rIf1 (rAdd ((dRaise x (max x.exp y.exp)).1) ((dRaise y (max x.exp y.exp)).1)) [((dRaise x (max x.exp y.exp)).1),((dRaise y (max x.exp y.exp)).1)]) (max x.exp y.exp)) Xml) ?_;rintro _ bM ⟨rfl,g⟩;have e:=e.below g;have f:=btr f g;refine Ze (X4 (vs:=[.agg #[vi (((dOf (rIf1 (rAdd ((dRaise x (max x.exp y.exp)).1) ((dRaise y (max x.exp y.exp)).1)) [((dRaise x (max x.exp y.exp)).1),((dRaise y (max x.exp y.exp)).1)]) (max x.exp y.exp)).getD dZ).num.a),vi (((dOf (rIf1 (rAdd ((dRaise x (max x.exp y.exp)).1) ((dRaise y (max x.exp y.exp)).1)) [((dRaise x (max x.exp y.exp)).1),((dRaise y (max x.exp y.exp)).1)]) (max x.exp y.exp)).getD dZ).num.b),vi (((dOf (rIf1 (rAdd ((dRaise x (max x.exp y.exp)).1) ((dRaise y (max x.exp y.exp)).1)) [((dRaise x (max x.exp y.exp)).1),((dRaise y (max x.exp y.exp)).1)]) (max x.exp y.exp)).getD dZ).num.c),vi (((dOf (rIf1 (rAdd ((dRaise x (max x.exp y.exp)).1) ((dRaise y (max x.exp y.exp)).1)) [((dRaise x (max x.exp y.exp)).1),((dRaise y (max x.exp y.exp)).1)]) (max x.exp y.exp)).getD dZ).num.d),vi (((dOf (rIf1 (rAdd ((dRaise x (max x.exp y.exp)).1) ((dRaise y (max x.exp y.exp)).1)) [((dRaise x (max x.exp y.exp)).1),((dRaise y (max x.exp y.exp)).1)]) (max x.exp y.exp)).getD dZ).exp)],.bool ((dOf (rIf1 (rAdd ((dRaise x (max x.exp y.exp)).1) ((dRaise y (max x.exp y.exp)).1)) [((dRaise x (max x.exp y.exp)).1),((dRaise y (max x.exp y.exp)).1)]) (max x.exp y.exp)).isSome)]) rfl rfl)<|Ze (X4 (vs:=[.agg #[vi (((dOf (rIf1 (rAdd ((dRaise x (max x.exp y.exp)).1) ((dRaise y (max x.exp y.exp)).1)) [((dRaise x (max x.exp y.exp)).1),((dRaise y (max x.exp y.exp)).1)]) (max x.exp y.exp)).getD dZ).num.a),vi (((dOf (rIf1 (rAdd ((dRaise x (max x.exp y.exp)).1) ((dRaise y (max x.exp y.exp)).1)) [((dRaise x (max x.exp y.exp)).1),((dRaise y (max x.exp y.exp)).1)]) (max x.exp y.exp)).getD dZ).num.b),vi (((dOf (rIf1 (rAdd ((dRaise x (max x.exp y.exp)).1) ((dRaise y (max x.exp y.exp)).1)) [((dRaise x (max x.exp y.exp)).1),((dRaise y (max x.exp y.exp)).1)]) (max x.exp y.exp)).getD dZ).num.c),vi (((dOf (rIf1 (rAdd ((dRaise x (max x.exp y.exp)).1) ((dRaise y (max x.exp y.exp)).1)) [((dRaise x (max x.exp y.exp)).1),((dRaise y (max x.exp y.exp)).1)]) (max x.exp y.exp)).getD dZ).num.d),vi (((dOf (rIf1 (rAdd ((dRaise x (max x.exp y.exp)).1) ((dRaise y (max x.exp y.exp)).1)) [((dRaise x (max x.exp y.exp)).1),((dRaise y (max x.exp y.exp)).1)]) (max x.exp y.exp)).getD dZ).exp)],.bool ((dOf (rIf1 (rAdd ((dRaise x (max x.exp y.exp)).1) ((dRaise y (max x.exp y.exp)).1)) [((dRaise x (max x.exp y.exp)).1),((dRaise y (max x.exp y.exp)).1)]) (max x.exp y.exp)).isSome)]) rfl rfl)<|Zo (Vw [vi (((dOf (rIf1 (rAdd ((dRaise x (max x.exp y.exp)).1) ((dRaise y (max x.exp y.exp)).1)) [((dRaise x (max x.exp y.exp)).1),((dRaise y (max x.exp y.exp)).1)]) (max x.exp y.exp)).getD dZ).num.a),vi (((dOf (rIf1 (rAdd ((dRaise x (max x.exp y.exp)).1) ((dRaise y (max x.exp y.exp)).1)) [((dRaise x (max x.exp y.exp)).1),((dRaise y (max x.exp y.exp)).1)]) (max x.exp y.exp)).getD dZ).num.b),vi (((dOf (rIf1 (rAdd ((dRaise x (max x.exp y.exp)).1) ((dRaise y (max x.exp y.exp)).1)) [((dRaise x (max x.exp y.exp)).1),((dRaise y (max x.exp y.exp)).1)]) (max x.exp y.exp)).getD dZ).num.c),vi (((dOf (rIf1 (rAdd ((dRaise x (max x.exp y.exp)).1) ((dRaise y (max x.exp y.exp)).1)) [((dRaise x (max x.exp y.exp)).1),((dRaise y (max x.exp y.exp)).1)]) (max x.exp y.exp)).getD dZ).num.d),vi (((dOf (rIf1 (rAdd ((dRaise x (max x.exp y.exp)).1) ((dRaise y (max x.exp y.exp)).1)) [((dRaise x (max x.exp y.exp)).1),((dRaise y (max x.exp y.exp)).1)]) (max x.exp y.exp)).getD dZ).exp)] X01 e) ?_;rintro _ bN ⟨h,E⟩
 have o:=e;have f:=Below.only f h C;have e:=E;refine Za rfl<|Zt aT fun a k=>?_
 refine wp_ret (X2 k (X0w k rfl (ResV.cellN (l:=[vi (((dOf (rIf1 (rAdd ((dRaise x (max x.exp y.exp)).1) ((dRaise y (max x.exp y.exp)).1)) [((dRaise x (max x.exp y.exp)).1),((dRaise y (max x.exp y.exp)).1)]) (max x.exp y.exp)).getD dZ).num.a),vi (((dOf (rIf1 (rAdd ((dRaise x (max x.exp y.exp)).1) ((dRaise y (max x.exp y.exp)).1)) [((dRaise x (max x.exp y.exp)).1),((dRaise y (max x.exp y.exp)).1)]) (max x.exp y.exp)).getD dZ).num.b),vi (((dOf (rIf1 (rAdd ((dRaise x (max x.exp y.exp)).1) ((dRaise y (max x.exp y.exp)).1)) [((dRaise x (max x.exp y.exp)).1),((dRaise y (max x.exp y.exp)).1)]) (max x.exp y.exp)).getD dZ).num.c),vi (((dOf (rIf1 (rAdd ((dRaise x (max x.exp y.exp)).1) ((dRaise y (max x.exp y.exp)).1)) [((dRaise x (max x.exp y.exp)).1),((dRaise y (max x.exp y.exp)).1)]) (max x.exp y.exp)).getD dZ).num.d),vi (((dOf (rIf1 (rAdd ((dRaise x (max x.exp y.exp)).1) ((dRaise y (max x.exp y.exp)).1)) [((dRaise x (max x.exp y.exp)).1),((dRaise y (max x.exp y.exp)).1)]) (max x.exp y.exp)).getD dZ).exp)]) rfl Xm (e.at 0) rfl) rfl) ?_)
 exact ⟨by rw [dAddI,if_pos hy,bC];rfl,f⟩
theorem Xyk(w0:World)(x:Dy)(y:Dy) : Ret Tryz.prog 136 [.agg #[vi x.num.a,vi x.num.b,vi x.num.c,vi x.num.d,vi x.exp],.agg #[vi y.num.a,vi y.num.b,vi y.num.c,vi y.num.d,vi y.exp]] w0 (fun v w=>v=.tuple #[dV ((dAddI x y).getD dZ),.bool ((dAddI x y).isSome)]∧Below w0.heap.size w0 w):=by
 refine enter Tryz.func136 rfl 11 rfl rfl ?_;intro a hf
 have f:=bz w0
 refine Zs hf fun _ aE=>?_;refine Zf (X0i (zs:=[vi x.num.a,vi x.num.b,vi x.num.c,vi x.num.d,vi x.exp]) rfl rfl) ?_;rintro _ w1 ⟨b2,rfl,aF,i,e⟩;have aJ:=Nat.le_trans f.size aF;have f:=btr f i;refine Zf (X0i (zs:=[vi y.num.a,vi y.num.b,vi y.num.c,vi y.num.d,vi y.exp]) rfl rfl) ?_;rintro _ w2 ⟨b3,rfl,aG,i,j⟩
 have aB:b2≠b3:=by have:=e.lt;omega
 have aK:=Nat.le_trans f.size aG;have e:=e.below i;have f:=btr f i;refine Zf (X8 (zs:=[vi 0,vi 0,vi 0,vi 0,vi 0]) X1i rfl) ?_;rintro _ w3 ⟨b4,rfl,aH,i,g⟩
 have aC:b2≠b4:=by have:=e.lt;omega
 have aD:b3≠b4:=by have:=j.lt;omega
 have aA:=Nat.le_trans f.size aH;have e:=e.below i;have j:=j.below i;have f:=btr f i;refine Za rfl<|Zx aE fun a hf _ aI=>?_;refine Ze (Vn Xm e)<|Ze (Vn Xm j)<|Zf (Vc (Xya _ x y) Xse) ?_;rintro _ w4 ⟨rfl,i⟩;have g:=g.below i;have f:=btr f i;refine Ze (X4 (vs:=[.agg #[vi (((dAddI x y).getD dZ).num.a),vi (((dAddI x y).getD dZ).num.b),vi (((dAddI x y).getD dZ).num.c),vi (((dAddI x y).getD dZ).num.d),vi (((dAddI x y).getD dZ).exp)],.bool ((dAddI x y).isSome)]) rfl rfl)<|Ze (X4 (vs:=[.agg #[vi (((dAddI x y).getD dZ).num.a),vi (((dAddI x y).getD dZ).num.b),vi (((dAddI x y).getD dZ).num.c),vi (((dAddI x y).getD dZ).num.d),vi (((dAddI x y).getD dZ).exp)],.bool ((dAddI x y).isSome)]) rfl rfl)<|Zo (Vw [vi (((dAddI x y).getD dZ).num.a),vi (((dAddI x y).getD dZ).num.b),vi (((dAddI x y).getD dZ).num.c),vi (((dAddI x y).getD dZ).num.d),vi (((dAddI x y).getD dZ).exp)] X01 g) ?_;rintro _ w5 ⟨ho,hb⟩;have aL:=g;have f:=Below.only f ho aA;have g:=hb;refine Za rfl<|Zt aI fun a hf=>?_
 refine wp_ret (X2 hf (X0w hf rfl (ResV.cellN (l:=[vi (((dAddI x y).getD dZ).num.a),vi (((dAddI x y).getD dZ).num.b),vi (((dAddI x y).getD dZ).num.c),vi (((dAddI x y).getD dZ).num.d),vi (((dAddI x y).getD dZ).exp)]) rfl Xm (g.at 0) rfl) rfl) ?_)
 exact ⟨rfl,f⟩
theorem Xth(w0:World)(x:Dy)(y:Dy) : Ret Tryz.prog 134 [.agg #[vi x.num.a,vi x.num.b,vi x.num.c,vi x.num.d,vi x.exp],.agg #[vi y.num.a,vi y.num.b,vi y.num.c,vi y.num.d,vi y.exp]] w0 (fun v w=>v=.tuple #[dV ((dMulI x y).getD dZ),.bool ((dMulI x y).isSome)]∧Below w0.heap.size w0 w):=by
 refine enter Tryz.func134 rfl 38 rfl rfl ?_;intro a n
 have m:=bz w0
 refine Zs n fun _ aI=>?_;refine Zf (X0i (zs:=[vi x.num.a,vi x.num.b,vi x.num.c,vi x.num.d,vi x.exp]) rfl rfl) ?_;rintro _ w1 ⟨b2,rfl,aJ,j,f⟩;have aQ:=Nat.le_trans m.size aJ;have m:=btr m j;refine Zf (X0i (zs:=[vi y.num.a,vi y.num.b,vi y.num.c,vi y.num.d,vi y.exp]) rfl rfl) ?_;rintro _ w2 ⟨b3,rfl,aK,j,g⟩
 have aF:b2≠b3:=by have:=f.lt;omega
 have aR:=Nat.le_trans m.size aK;have f:=f.below j;have m:=btr m j;refine Zf (X8 (zs:=[vi 0,vi 0,vi 0,vi 0,vi 0]) X1i rfl) ?_;rintro _ w3 ⟨b4,rfl,aL,j,e⟩
 have aG:b2≠b4:=by have:=f.lt;omega
 have aH:b3≠b4:=by have:=g.lt;omega
 have z:=Nat.le_trans m.size aL;have f:=f.below j;have g:=g.below j;have m:=btr m j;refine Za rfl<|Zx aI fun a n _ aM=>?_;refine Ze (Vd rfl X1e 0)<|Ze (X07 (l:=[vi x.num.a,vi x.num.b,vi x.num.c,vi x.num.d]) rfl X0c ((f.at 0).take 4) rfl)<|Ze (Vd rfl X1e 0)<|Ze (X07 (l:=[vi y.num.a,vi y.num.b,vi y.num.c,vi y.num.d]) rfl X0c ((g.at 0).take 4) rfl)<|Zf (Vc (Xyd _ x.num y.num) Xtt) ?_;rintro _ w4 ⟨rfl,j⟩;have f:=f.below j;have g:=g.below j;have e:=e.below j;have m:=btr m j;refine Zm rfl<|Ze (X4 (vs:=[.agg #[vi ((rIf1 (rMul x.num y.num) [x.num,y.num]).a),vi ((rIf1 (rMul x.num y.num) [x.num,y.num]).b),vi ((rIf1 (rMul x.num y.num) [x.num,y.num]).c),vi ((rIf1 (rMul x.num y.num) [x.num,y.num]).d)],.bool (rIf2 (rMul x.num y.num) [x.num,y.num])]) rfl rfl)<|Ze (X4 (vs:=[.agg #[vi ((rIf1 (rMul x.num y.num) [x.num,y.num]).a),vi ((rIf1 (rMul x.num y.num) [x.num,y.num]).b),vi ((rIf1 (rMul x.num y.num) [x.num,y.num]).c),vi ((rIf1 (rMul x.num y.num) [x.num,y.num]).d)],.bool (rIf2 (rMul x.num y.num) [x.num,y.num])]) rfl rfl)<|Zf (X8 (zs:=[vi 0,vi 0,vi 0,vi 0]) X1v rfl) ?_;rintro _ w5 ⟨b6,rfl,aN,j,t⟩;have aB:=Nat.le_trans m.size aN;have f:=f.below j;have g:=g.below j;have e:=e.below j;have m:=btr m j;refine Zo (Vw [vi ((rIf1 (rMul x.num y.num) [x.num,y.num]).a),vi ((rIf1 (rMul x.num y.num) [x.num,y.num]).b),vi ((rIf1 (rMul x.num y.num) [x.num,y.num]).c),vi ((rIf1 (rMul x.num y.num) [x.num,y.num]).d)] X16 t) ?_;rintro _ w6 ⟨h,hb⟩;have o:=t;have f:=f.only h (Blk.ne f o rfl);have g:=g.only h (Blk.ne g o rfl);have e:=e.only h (Blk.ne e o rfl);have m:=Below.only m h aB;have t:=hb;refine Za rfl<|Zt aM fun a n=>?_
 refine wp_seq_k fun _ aO=>?_;refine wp_seq_k fun _ aP=>?_;refine X0o (fun a w=>Fr a 38 [(2,.pointer (some ⟨b2,0,none⟩)),(3,.pointer (some ⟨b3,0,none⟩)),(4,.pointer (some ⟨b4,0,none⟩)),(6,.pointer (some ⟨b6,0,none⟩)),(27,.bool (((!(dOk x))||(!(dOk y)))||(!(rIf2 (rMul x.num y.num) [x.num,y.num]))))]∧Below w6.heap.size w6 w) ?_ ?_
 ·have q:Below w6.heap.size w6 w6:=Below.refl _ _
  refine Zr n<|Ze (Vn Xm f)<|Zf (Vc (Xfd _ x) X5i) ?_;rintro _ w7 ⟨rfl,j⟩;have g:=g.below j;have m:=btr m j;have q:=btr q j;refine Ze (X0z rfl)<|Zm rfl ?_
  refine Zg 19 rfl (fun k=>?_) (fun k=>?_)
  ·refine Zp (gP k) ?_;refine Zp (gP k) ?_;refine Zp (gP k) ?_;refine Ze (Xn rfl k rfl)<|Zm rfl<|Zp (gP rfl) ?_;refine Zp (gP rfl) ?_;refine Ze (Xn rfl rfl rfl) ?_;refine Zn fun a n=>?_
   have u:Below w6.heap.size w6 w7:=q
   exact ⟨n.sub ⟨rfl,rfl,rfl,rfl,X1 rfl (by first|rfl|(simp only [k,bs];done)|simp [k]),trivial⟩,u⟩
  refine Zv (gW k) (Vn Xm g) ?_;refine Zk (gW k) (Vc (Xfd _ y) X5i) ?_;rintro _ w8 ⟨rfl,j⟩;have m:=btr m j;have q:=btr q j;refine Zv (gW k) (X0z rfl) ?_;refine Ze (Xj rfl k rfl)<|Zm rfl ?_
  refine Zg 24 rfl (fun i=>?_) (fun i=>?_)
  ·refine Zp (gP i) ?_;refine Zp (gP i) ?_;refine Ze (Xn rfl i rfl) ?_;refine Zn fun a n=>?_
   have u:Below w6.heap.size w6 w8:=q
   exact ⟨n.sub ⟨rfl,rfl,rfl,rfl,X1 rfl (by first|rfl|(simp only [k,i,bs];done)|simp [k,i]),trivial⟩,u⟩
  refine Zv (gW i) (Xa rfl) ?_;refine Zv (gW i) (X0z rfl) ?_;refine Ze (Xj rfl i rfl) ?_;refine Zn fun a n=>?_
  have u:Below w6.heap.size w6 w8:=q
  exact ⟨n.sub ⟨rfl,rfl,rfl,rfl,X1 rfl (by first|rfl|(simp only [k,i,bs];done)|simp [k,i]),trivial⟩,u⟩
 rintro a w9 ⟨n,j⟩;have f:=f.below j;have g:=g.below j;have e:=e.below j;have t:=t.below j;have m:=btr m j;refine aP _ _ ?_
 refine Xk n rfl (fun p=>?_) (fun p=>?_)
 ·have aA:=p;have hn:=X9v p;refine Zs n fun _ aC=>?_;refine Ze (Xg (ps:=[]) (cs:=[vi 0,vi 0,vi 0,vi 0,vi 0]) rfl (fun _=>by first|rfl|kernel_rfl))<|Zo (Vw [vi 0,vi 0,vi 0,vi 0,vi 0] X01 e) ?_;rintro _ aS ⟨h,hb⟩;have o:=e;have m:=Below.only m h z;have e:=hb;refine Za rfl<|Zt aC fun a n=>?_;refine wp_ret<|X3<|X2 n (X0w n rfl (ResV.cellN (l:=[vi 0,vi 0,vi 0,vi 0,vi 0]) rfl Xm (e.at 0) rfl) rfl) ?_;exact ⟨by rw [dMulI,hn];rfl,m⟩
 have aA:=p;have hy:=Xch p;have aD:=Xvt hy;have hx:=X2s aD.1;have hz:=X2s aD.2.1;refine wp_skip<|aO _ _<|Zs n fun _ aE=>?_;refine Ze (Vn X0c t)<|Ze (Vd rfl X1c 4)<|Ze (X0 rfl X7 (f.at 4))<|Ze (Vd rfl X1c 4)<|Ze (X0 rfl X7 (g.at 4)) ?_;refine Ze (X06 rfl rfl (by omega) (by omega))<|Zf (Vc (Xxz _ (rIf1 (rMul x.num y.num) [x.num,y.num]) (x.exp+y.exp)) Xml) ?_;rintro _ aT ⟨rfl,j⟩;have e:=e.below j;have m:=btr m j;refine Ze (X4 (vs:=[.agg #[vi (((dOf (rIf1 (rMul x.num y.num) [x.num,y.num]) (x.exp+y.exp)).getD dZ).num.a),vi (((dOf (rIf1 (rMul x.num y.num) [x.num,y.num]) (x.exp+y.exp)).getD dZ).num.b),vi (((dOf (rIf1 (rMul x.num y.num) [x.num,y.num]) (x.exp+y.exp)).getD dZ).num.c),vi (((dOf (rIf1 (rMul x.num y.num) [x.num,y.num]) (x.exp+y.exp)).getD dZ).num.d),vi (((dOf (rIf1 (rMul x.num y.num) [x.num,y.num]) (x.exp+y.exp)).getD dZ).exp)],.bool ((dOf (rIf1 (rMul x.num y.num) [x.num,y.num]) (x.exp+y.exp)).isSome)]) rfl rfl)<|Ze (X4 (vs:=[.agg #[vi (((dOf (rIf1 (rMul x.num y.num) [x.num,y.num]) (x.exp+y.exp)).getD dZ).num.a),vi (((dOf (rIf1 (rMul x.num y.num) [x.num,y.num]) (x.exp+y.exp)).getD dZ).num.b),vi (((dOf (rIf1 (rMul x.num y.num) [x.num,y.num]) (x.exp+y.exp)).getD dZ).num.c),vi (((dOf (rIf1 (rMul x.num y.num) [x.num,y.num]) (x.exp+y.exp)).getD dZ).num.d),vi (((dOf (rIf1 (rMul x.num y.num) [x.num,y.num]) (x.exp+y.exp)).getD dZ).exp)],.bool ((dOf (rIf1 (rMul x.num y.num) [x.num,y.num]) (x.exp+y.exp)).isSome)]) rfl rfl)<|Zo (Vw [vi (((dOf (rIf1 (rMul x.num y.num) [x.num,y.num]) (x.exp+y.exp)).getD dZ).num.a),vi (((dOf (rIf1 (rMul x.num y.num) [x.num,y.num]) (x.exp+y.exp)).getD dZ).num.b),vi (((dOf (rIf1 (rMul x.num y.num) [x.num,y.num]) (x.exp+y.exp)).getD dZ).num.c),vi (((dOf (rIf1 (rMul x.num y.num) [x.num,y.num]) (x.exp+y.exp)).getD dZ).num.d),vi (((dOf (rIf1 (rMul x.num y.num) [x.num,y.num]) (x.exp+y.exp)).getD dZ).exp)] X01 e) ?_;rintro _ aU ⟨h,hb⟩
 have o:=e;have m:=Below.only m h z;have e:=hb;refine Za rfl<|Zt aE fun a n=>?_
 refine wp_ret (X2 n (X0w n rfl (ResV.cellN (l:=[vi (((dOf (rIf1 (rMul x.num y.num) [x.num,y.num]) (x.exp+y.exp)).getD dZ).num.a),vi (((dOf (rIf1 (rMul x.num y.num) [x.num,y.num]) (x.exp+y.exp)).getD dZ).num.b),vi (((dOf (rIf1 (rMul x.num y.num) [x.num,y.num]) (x.exp+y.exp)).getD dZ).num.c),vi (((dOf (rIf1 (rMul x.num y.num) [x.num,y.num]) (x.exp+y.exp)).getD dZ).num.d),vi (((dOf (rIf1 (rMul x.num y.num) [x.num,y.num]) (x.exp+y.exp)).getD dZ).exp)]) rfl Xm (e.at 0) rfl) rfl) ?_)
 exact ⟨by rw [dMulI,if_pos hy],m⟩
theorem Xq3(w0:World)(n:Int) : Ret Tryz.prog 167 [vi n] w0 (fun v w=>v=.bool (isDimB n)∧w0=w):=by
 refine enter Tryz.func167 rfl 12 rfl rfl ?_;intro a c
 have hW:=bz w0
 refine Zs c fun _ aA=>?_;refine Za rfl<|ZX aA fun a c _ aB=>?_;refine X0o (fun a w=>Fr a 12 [(2,.bool ((inR n 1 32)&&((bits .and .i64 n (wr (n-1)))==0)))]∧w0=w) ?_ ?_
 ·refine Zr c<|Zm rfl<|Zf (Vc (F91 _ n 1 32) X38) ?_;rintro _ _ ⟨rfl,rfl⟩;refine Zm rfl ?_
  refine Zg 5 rfl (fun b=>?_) (fun b=>?_)
  ·refine Zv (gW b) (Xa rfl) ?_;refine Zv (gW b) (Xa rfl) ?_;refine Zv (gW b) (X3u rfl rfl) ?_;refine Zv (gW b) (Xug rfl rfl) ?_;refine Zv (gW b) (X13 rfl rfl) ?_;refine Ze (Xn rfl b rfl)<|Za rfl ?_;refine Zn fun a c=>?_;exact ⟨c.sub ⟨X1 rfl (by first|rfl|(simp only [b,bs];done)|simp [b]),trivial⟩,rfl⟩
  refine Zp (gP b) ?_;refine Zp (gP b) ?_;refine Zp (gP b) ?_;refine Zp (gP b) ?_;refine Zp (gP b) ?_;refine Ze (Xj rfl b rfl)<|Za rfl ?_;refine Zn fun a c=>?_;exact ⟨c.sub ⟨X1 rfl (by first|rfl|(simp only [b,bs];done)|simp [b]),trivial⟩,rfl⟩
 rintro a _ ⟨c,rfl⟩;refine aB _ _ ?_
 refine wp_ret (X2 c (Xv c rfl rfl) ?_)
 exact ⟨by simp [isDimB, *],rfl⟩
theorem Xzb(w0:World)(x:Dy) : Ret Tryz.prog 169 [.agg #[vi x.num.a,vi x.num.b,vi x.num.c,vi x.num.d,vi x.exp]] w0 (fun v w=>v=.bool (!dOk x)∧Below w0.heap.size w0 w):=by
 refine enter Tryz.func169 rfl 6 rfl rfl ?_;intro a hf
 have hW:=bz w0
 refine Zs hf fun _ aA=>?_;refine Zf (X0i (zs:=[vi x.num.a,vi x.num.b,vi x.num.c,vi x.num.d,vi x.exp]) rfl rfl) ?_;rintro _ w1 ⟨b2,rfl,aB,hE,aC⟩;have aE:=Nat.le_trans hW.size aB;have hW:=btr hW hE;refine Za rfl<|Zx aA fun a hf _ aD=>?_;refine Ze (Vn Xm aC)<|Zf (Vc (Xfd _ x) X5i) ?_;rintro _ w2 ⟨rfl,hE⟩;have hW:=btr hW hE;refine Ze (X0z rfl)<|Za rfl<|Zt aD fun a hf=>?_
 refine wp_ret (X2 hf (Xv hf rfl rfl) ?_)
 exact ⟨rfl,hW⟩
theorem Xzc(m:World)(Al:Option Addr)(cl:Nat)(l:List Dy)(aE:Rd m m.heap.size 95 encD Al l)(kq:FuncId)(pq:List Value)(Fq:FuncF Tryz.prog kq)(q:Dy→Bool)(hq:∀ x w,Below m.heap.size m w→Ret Tryz.prog kq ([dV x]++pq) w (fun v w'=>v=.bool (q x)∧Below w.heap.size w w'))(aR:l.length≤2305843009213693951) : Ret Tryz.prog 110 [.slice Al l.length cl,.func (.func kq) #[] pq.toArray] m (fun v w=>∃ i:Int,v=vi i∧decide (0≤i)=l.any q∧Below m.heap.size m w):=by
 refine enter Tryz.func110 rfl 19 rfl rfl ?_;intro a e
 have n:=bz m
 refine Zs e fun _ aK=>?_;refine Za rfl<|ZX aK fun a e _ aL=>?_;refine Zs e fun _ aM=>?_;refine Zm rfl<|Ze (X0x rfl X1d)<|Zm rfl<|Zt aM fun a e=>?_;refine wp_block<|X0b (σ:=Nat) (fun (k:Nat) (a:Act) (w:World)=>Fr a 19 [(0,.slice Al l.length cl),(1,.func (.func kq) #[] pq.toArray),(7,vi (l.length:Int)),(8,vi (k:Int))]∧(k≤l.length)∧((l.take k).all (fun x=>!q x)=true)∧Below m.heap.size m w) (fun (k:Nat)=>l.length+1-k) 0 ?_ ?_
 ·exact ⟨e.sb,(Nat.zero_le _),(by simp),n⟩
 rintro k a w1 ⟨e,hk,o,n⟩;refine Zs e fun _ aN=>?_;refine Ze (X10 rfl rfl)<|ZX aN fun a e _ aO=>?_
 refine Xk e rfl (fun g=>?_) (fun g=>?_)
 ·have aF:=g;have g:=of_decide_eq_true g
  obtain ⟨j,aA⟩:=Xi (l:=l) (k:=k) (by omega)
  refine wp_skip<|aO _ _<|wp_seq_k fun _ aP=>?_;refine wp_block<|Zs e fun _ aG=>?_;refine Zm rfl<|Za rfl<|Zx aG fun a e _ aH=>?_;refine Zm rfl<|Zm rfl<|Zm rfl<|Zi (k:=k) (u:=j) (enc:=encD) (l:=l) trivial rfl rfl X1d X01 X19 (aE.below' n) aA rfl ?_;intro aS aB;refine Ze (X07 (l:=[vi j.num.a,vi j.num.b,vi j.num.c,vi j.num.d,vi j.exp]) rfl Xm aB rfl)<|Zf (X76 (cs:=pq) (vs:=[.agg #[vi j.num.a,vi j.num.b,vi j.num.c,vi j.num.d,vi j.exp]]) rfl rfl Fq (hq j _ n)) ?_;rintro _ w2 ⟨rfl,hE⟩;have n:=btr n hE;refine Zt aH fun a e=>?_
  refine Xk e rfl (fun f=>?_) (fun f=>?_)
  ·have aC:=f
   have aD:l.any q=true:=X3g aA f
   refine Zs e fun _ aI=>?_;refine Zm rfl<|Za rfl<|Zt aI fun a e=>?_;refine wp_ret<|Xr<|X3<|X3 ?_;refine Xr<|X3<|X2 e (Xv e rfl rfl) ?_;exact ⟨_,rfl,by rw [aD];simp,n⟩
  have aC:=f
  have aQ:(!q j)=true:=by revert f;cases q j<;>simp
  refine wp_skip<|Xt<|aP _ _<|Zr e ?_;refine Ze (X06 rfl rfl (by omega) (by omega))<|Zm rfl ?_;refine Zn fun a e=>?_;refine Xp ?_;exact ⟨k+1,⟨e.sb,(by omega),(X28 o aA aQ),n⟩,(by omega)⟩
 have aF:=g;have g:=of_decide_eq_false g;refine wp_exit<|Xl<|Xl<|X0a ?_;refine aL _ _<|Zs e fun _ aJ=>?_;refine Za rfl<|Zt aJ fun a e=>?_
 refine wp_ret (X2 e (Xv e rfl rfl) ?_)
 have aD:l.any q=false:=X2j (X1z o (by omega))
 exact ⟨_,rfl,by rw [aD];rfl,n⟩
theorem Xz2(b:World)(Al:Option Addr)(cl:Nat)(l:List Dy)(aA:Rd b b.heap.size 95 encD Al l)(kq:FuncId)(pq:List Value)(Fq:FuncF Tryz.prog kq)(q:Dy→Bool)(hq:∀ x w,Below b.heap.size b w→Ret Tryz.prog kq ([dV x]++pq) w (fun v w'=>v=.bool (q x)∧Below w.heap.size w w'))(aB:l.length≤2305843009213693951) : Ret Tryz.prog 168 [.slice Al l.length cl,.func (.func kq) #[] pq.toArray] b (fun v w=>v=.bool (l.any q)∧Below b.heap.size b w):=by
 refine enter Tryz.func168 rfl 9 rfl rfl ?_;intro a hf
 have hW:=bz b
 refine Zs hf fun _ aC=>?_;refine Za rfl<|Zx aC fun a hf _ aD=>?_;refine Zm rfl<|Zm rfl<|Zf (Vc (Xzc _ Al cl l (aA.below' hW).top kq pq Fq q (fun x w' hE'=>hq x w' (hW.trans (hE'.mono hW.size))) aB) Xme) ?_;rintro _ w1 ⟨ix,rfl,aE,hE⟩;have hW:=btr hW hE;refine Ze (X99 rfl rfl)<|Za rfl<|Zt aD fun a hf=>?_
 refine wp_ret (X2 hf (Xv hf rfl rfl) ?_)
 exact ⟨by rw [← aE],hW⟩
theorem Xr4(w0:World)(m:Mx)(Am:Option Addr)(cm:Nat)(aA:Rd w0 w0.heap.size 95 encD Am m.cells)(aB:m.cells.length≤2305843009213693951) : Ret Tryz.prog 112 [.agg #[vi m.rows,vi m.cols,.slice Am m.cells.length cm]] w0 (fun v w=>v=.bool (mOk m)∧Below w0.heap.size w0 w):=by
 refine enter Tryz.func112 rfl 28 rfl rfl ?_;intro a f
 have j:=bz w0
 refine Zs f fun _ aC=>?_;refine Zf (X0i (zs:=[vi m.rows,vi m.cols,.slice Am m.cells.length cm]) rfl rfl) ?_;rintro _ w1 ⟨b3,rfl,aD,hE,g⟩;have aF:=Nat.le_trans j.size aD;have j:=btr j hE;refine Za rfl<|ZX aC fun a f _ aE=>?_;refine X0o (fun a w=>Fr a 28 [(2,.bool ((((isDimB m.rows)&&(isDimB m.cols))&&((m.cells.length:Int)==(wr (m.rows*m.cols))))&&(!(m.cells.any (fun x=>!dOk x)))))]∧Below w1.heap.size w1 w) ?_ ?_
 ·have i:Below w1.heap.size w1 w1:=Below.refl _ _
  refine Zr f<|Ze (Vd rfl X1w 0)<|Ze (X0 rfl X7 (g.at 0))<|Zf (Vc (Xq3 _ m.rows) Xc1) ?_;rintro _ _ ⟨rfl,rfl⟩;refine Zm rfl ?_
  refine Zg 6 rfl (fun c=>?_) (fun c=>?_)
  ·refine Zv (gW c) (Vd rfl X1p 1) ?_;refine Zv (gW c) (X0 rfl X7 (g.at 1)) ?_;refine Zk (gW c) (Vc (Xq3 _ m.cols) Xc1) ?_;rintro _ _ ⟨rfl,rfl⟩;refine Ze (Xn rfl c rfl)<|Zm rfl ?_
   refine Zg 11 rfl (fun b=>?_) (fun b=>?_)
   ·refine Zv (gW b) (Vd rfl X1g 2) ?_;refine Zv (gW b) (X0 rfl X2a (g.at 2)) ?_;refine Zv (gW b) (X0x rfl X1d) ?_;refine Zv (gW b) (Vd rfl X1w 0) ?_;refine Zv (gW b) (X0 rfl X7 (g.at 0)) ?_;refine Zv (gW b) (Vd rfl X1p 1) ?_;refine Zv (gW b) (X0 rfl X7 (g.at 1)) ?_;refine Zv (gW b) (X25 rfl rfl) ?_;refine Zv (gW b) (X13 rfl rfl) ?_;refine Ze (Xn rfl b rfl)<|Zm rfl ?_
    refine Zg 22 rfl (fun d=>?_) (fun d=>?_)
    ·refine Zv (gW d) (Vd rfl X1g 2) ?_;refine Zv (gW d) (X0 rfl X2a (g.at 2)) ?_;refine Zk (gW d) (Vc (Xz2 _ Am cm m.cells (aA.below' j).top 169 [] Xvm (fun x=>!dOk x) (fun x w' hE'=>Xzb w' x) aB) Xtn) ?_;rintro _ w2 ⟨rfl,hE⟩;have j:=btr j hE;have i:=btr i hE;refine Zv (gW d) (X0z rfl) ?_;refine Ze (Xn rfl d rfl)<|Za rfl ?_;refine Zn fun a f=>?_
     have e:Below w1.heap.size w1 w2:=i
     exact ⟨f.sub ⟨X1 rfl (by first|rfl|(simp only [c,b,d,bs];done)|simp [c,b,d]),trivial⟩,e⟩
    refine Zp (gP d) ?_;refine Zp (gP d) ?_;refine Zp (gP d) ?_;refine Zp (gP d) ?_;refine Ze (Xj rfl d rfl)<|Za rfl ?_;refine Zn fun a f=>?_
    have e:Below w1.heap.size w1 w1:=i
    exact ⟨f.sub ⟨X1 rfl (by first|rfl|(simp only [c,b,d,bs];done)|simp [c,b,d]),trivial⟩,e⟩
   refine Zp (gP b) ?_;refine Zp (gP b) ?_;refine Zp (gP b) ?_;refine Zp (gP b) ?_;refine Zp (gP b) ?_;refine Zp (gP b) ?_;refine Zp (gP b) ?_;refine Zp (gP b) ?_;refine Zp (gP b) ?_;refine Ze (Xj rfl b rfl)<|Zm rfl<|Zp (gP rfl) ?_;refine Zp (gP rfl) ?_;refine Zp (gP rfl) ?_;refine Zp (gP rfl) ?_;refine Ze (Xj rfl rfl rfl)<|Za rfl ?_;refine Zn fun a f=>?_
   have e:Below w1.heap.size w1 w1:=i
   exact ⟨f.sub ⟨X1 rfl (by first|rfl|(simp only [c,b,bs];done)|simp [c,b]),trivial⟩,e⟩
  refine Zp (gP c) ?_;refine Zp (gP c) ?_;refine Zp (gP c) ?_;refine Ze (Xj rfl c rfl)<|Zm rfl<|Zp (gP rfl) ?_;refine Zp (gP rfl) ?_;refine Zp (gP rfl) ?_;refine Zp (gP rfl) ?_;refine Zp (gP rfl) ?_;refine Zp (gP rfl) ?_;refine Zp (gP rfl) ?_;refine Zp (gP rfl) ?_;refine Zp (gP rfl) ?_;refine Ze (Xj rfl rfl rfl)<|Zm rfl<|Zp (gP rfl) ?_;refine Zp (gP rfl) ?_;refine Zp (gP rfl) ?_;refine Zp (gP rfl) ?_;refine Ze (Xj rfl rfl rfl)<|Za rfl ?_;refine Zn fun a f=>?_
  have e:Below w1.heap.size w1 w1:=i
  exact ⟨f.sub ⟨X1 rfl (by first|rfl|(simp only [c,bs];done)|simp [c]),trivial⟩,e⟩
 rintro a w3 ⟨f,hE⟩;have j:=btr j hE;refine aE _ _ ?_
 refine wp_ret (X2 f (Xv f rfl rfl) ?_)
 exact ⟨by simp [mOk, *],j⟩
end Go.Proofs.YtblmmikapnflcaaGreatDoor
