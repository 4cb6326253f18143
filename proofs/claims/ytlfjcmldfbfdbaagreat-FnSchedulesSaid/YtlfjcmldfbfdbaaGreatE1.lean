/-
  What is proved: for every drawn circuit, the schedule is accepted and keeps the operator, and the least number of layers is at most the depth: the law returns true at every input and leaves its arguments as they were. Conditions: none.
-/
import Derived.WalkKit
import Derived.Maps.AppendAt
import Derived.Test.YtlfjcmldfbfdbaaGreatProg
import Derived.Laws.StructEq
set_option linter.unusedVariables false
set_option linter.unusedSimpArgs false
namespace Go.Proofs.YtlfjcmldfbfdbaaGreat
open Go.RowKit
abbrev vi(x:Int) : Value:=.int .i64 x
def look(t:Nat) : List (Nat×Value)→Option Value
 | []=>none
 | (k,v)::l=>match Nat.beq k t with
  | true=>some v
  | false=>look t l
structure Fr (a:Act) (n:Nat) (e:List (Nat×Value)) : Prop where
 d:a.defers=[]
 s:a.tmps.size=n
 h:∀ t v,look t e=some v→a.tmps[t]? = some v
def ev(e:List (Nat×Value)) : Operand→Option Value
 | .tmp t=>look t e
 | .const v=>some v
 | .global g=>some (.pointer (some ⟨g,0,none⟩))
 | .func f=>some (.func (.func f) #[] #[])
theorem Fr.ev{a:Act}{n:Nat}{e:List (Nat×Value)}{x:Operand}{v:Value}(hf:Fr a n e)(hx:ev e x=some v) : a.eval x=v:=by
 cases x with
 | tmp t=>
  have:=hf.h t v hx
  simp [Act.eval,this]
 | const u=>simpa [YtlfjcmldfbfdbaaGreat.ev,Act.eval] using hx
 | global g=>simpa [YtlfjcmldfbfdbaaGreat.ev,Act.eval] using hx
 | func f=>simpa [YtlfjcmldfbfdbaaGreat.ev,Act.eval] using hx
def evs(e:List (Nat×Value)) : List Operand→Option (List Value)
 | []=>some []
 | x::l=>match ev e x,evs e l with
  | some v,some vs=>some (v::vs)
  | _,_=>none
theorem Fr.evs{a:Act}{n:Nat}{e:List (Nat×Value)}(hf:Fr a n e) : ∀ {l:List Operand} {vs:List Value},evs e l=some vs→l.map a.eval=vs:=by
 intro l
 induction l with
 | nil=>intro vs h;simpa [YtlfjcmldfbfdbaaGreat.evs] using h
 | cons x l ih=>
  intro vs h
  simp only [YtlfjcmldfbfdbaaGreat.evs] at h
  split at h
  ·rename_i v us h1 h2
   injection h with h
   subst h
   simp [hf.ev h1,ih h2]
  ·cases h
theorem X3q(d:Nat)(v:Value)(e:List (Nat×Value)) : look d ((d,v)::e)=some v:=by simp [look]
theorem X4i{d t:Nat}(v:Value)(e:List (Nat×Value))(h:d≠t) : look t ((d,v)::e)=look t e:=by
 have:Nat.beq d t=false:=by
  cases hb:Nat.beq d t
  ·rfl
  ·exact absurd (Nat.eq_of_beq_eq_true hb) h
 simp [look,this]
theorem Fr.put{a:Act}{n:Nat}{e:List (Nat×Value)}(hf:Fr a n e)(d:Nat)(v:Value)(hd:Nat.blt d n=true) : Fr (a.put (some d) v) n ((d,v)::e):=by
 have hd':d<n:=by simpa [Nat.blt_eq] using hd
 refine ⟨hf.d,by simp [Act.put,hf.s],fun t u hu=>?_⟩
 by_cases h:d=t
 ·subst h
  rw [X3q] at hu
  injection hu with hu
  subst hu
  simp [Act.put,hf.s,hd']
 ·rw [X4i _ _ h] at hu
  simp [Act.put,Array.getElem?_setIfInBounds_ne h,hf.h t u hu]
theorem Fr.put_none{a:Act}{n:Nat}{e:List (Nat×Value)}(hf:Fr a n e)(v:Value) : Fr (a.put none v) n e:=hf
def Sub(e:List (Nat×Value)) : List (Nat×Value)→Prop
 | []=>True
 | (t,v)::l=>look t e=some v∧Sub e l
theorem Fr.sub{a:Act}{n:Nat}{e e':List (Nat×Value)}(hf:Fr a n e)(hs:Sub e e') : Fr a n e':=by
 refine ⟨hf.d,hf.s,?_⟩
 induction e' with
 | nil=>intro t v h;cases h
 | cons p l ih=>
  obtain ⟨k,u⟩:=p;intro t v h
  by_cases hk:k=t
  ·subst hk
   rw [X3q] at h
   injection h with h
   subst h
   exact hf.h _ _ hs.1
  ·rw [X4i _ _ hk] at h
   exact ih hs.2 t v h
def zipFrom:Nat→List Value→List (Nat×Value)
 | _,[]=>[]
 | k,v::l=>(k,v)::zipFrom (k+1) l
theorem Xbv{l:List Value}{t:Nat}{v:Value} : ∀ {k:Nat},look t (zipFrom k l)=some v→k≤t∧l[t-k]? = some v:=by
 induction l with
 | nil=>intro k h;cases h
 | cons u l ih=>
  intro k h
  simp only [zipFrom] at h
  by_cases hk:k=t
  ·subst hk
   rw [X3q] at h
   exact ⟨Nat.le_refl _,by simpa using h⟩
  ·rw [X4i _ _ hk] at h
   obtain ⟨h1,h2⟩:=ih h
   refine ⟨by omega,?_⟩
   have:t-k=(t-(k+1))+1:=by omega
   rw [this,List.getElem?_cons_succ]
   exact h2
theorem Xm6{P:Program}{f:FuncId}{fn:Func}{c:Code}{args:List Value}{w:World}{R:Ending→World→Prop}
  (hf:P.funcs[f]? = some fn) (hb:fn.body=some c) (n:Nat) (hn:fn.ntmps=n) (hl:Nat.ble args.length n=true)
  (h:∀ a,Fr a n (zipFrom 0 args)→c.wp P (bodyPost P fn R) a w) : Calls P f args.toArray w R:=by
 refine calls_of_wp hf hb (h _ ⟨rfl,?_,?_⟩)
 ·have:args.length≤n:=by simpa [Nat.ble_eq] using hl
  simp [hn];omega
 ·intro t v hv;obtain ⟨_,h2⟩:=Xbv hv
  have hlt:t<args.length:=by
   have:=(List.getElem?_eq_some_iff.1 h2).1
   simpa using this
  simp only [Nat.sub_zero] at h2
  rw [Array.getElem?_append_left (by simpa using hlt)]
  simpa using h2
def Ev(P:Program)(o:Oper)(a:Act)(w:World)(v:Value) : Prop:=∀ w',Below w.heap.size w w'→(execOp a.eval o).run P w'=.ok (.value v) w'
def EfU(P:Program)(R:Value→World→Prop) : Result Next→Prop
 | .ok (.value v) w'=>R v w'
 | .ok .skip w'=>R undef w'
 | .ok (.enter f args) w'=>Calls P f args w' fun e w''=>∃ v,e=.returned v∧R v w''
 | .ok (.row row args) w'=>Rows P row args w' R
 | _=>False
def Ef(P:Program)(o:Oper)(a:Act)(w:World)(R:Value→World→Prop) : Prop:=EfU P R ((execOp a.eval o).run P w)
theorem Ef.wp{P:Program}{o:Oper}{a:Act}{w:World}{R:Value→World→Prop}(h:Ef P o a w R){K:Act→World→Prop}{Q:Exit→Act→World→Prop}
  (hK:∀ v w',R v w'→K (a.put o.dst v) w') : o.wp P a w K Q:=by
 unfold Ef at h
 unfold Oper.wp
 generalize (execOp a.eval o).run P w=r at *
 cases r with
 | ok nx w'=>
  cases nx<;>simp only [EfU] at h<;>simp only [Oper.upon]
  case value u=>exact hK _ _ h
  case skip=>exact hK _ _ h
  case enter f args=>
   refine Calls.mono h fun e w'' ⟨v,he,hR⟩=>?_
   subst he
   exact hK _ _ hR
  case row row args=>exact Rows.mono h fun u w'' hR=>hK _ _ hR
 | halt x w'=>simp only [EfU] at h
def EvW(P:Program)(o:Oper)(n:Nat)(e:List (Nat×Value))(w:World)(v:Value) : Prop:=∀ a,Fr a n e→Ev P o a w v
def EfW(P:Program)(o:Oper)(n:Nat)(e:List (Nat×Value))(w:World)(R:Value→World→Prop) : Prop:=∀ a,Fr a n e→Ef P o a w R
theorem Ef.of_run{P:Program}{o:Oper}{a:Act}{w w':World}{v:Value}(h:(execOp a.eval o).run P w=.ok (.value v) w') : Ef P o a w fun u w1=>u=v∧w1=w':=by
 unfold Ef
 rw [h]
 exact ⟨rfl,rfl⟩
theorem Ef.of_skip{P:Program}{o:Oper}{a:Act}{w w':World}(h:(execOp a.eval o).run P w=.ok .skip w') : Ef P o a w fun u w1=>u=undef∧w1=w':=by
 unfold Ef
 rw [h]
 exact ⟨rfl,rfl⟩
theorem Ef.mono{P:Program}{o:Oper}{a:Act}{w:World}{R R':Value→World→Prop}(h:Ef P o a w R)(hr:∀ v w',R v w'→R' v w') : Ef P o a w R':=by
 unfold Ef at *
 generalize (execOp a.eval o).run P w=r at *
 cases r with
 | ok nx w'=>
  cases nx<;>simp only [EfU] at h ⊢
  case value u=>exact hr _ _ h
  case skip=>exact hr _ _ h
  case enter f args=>exact Calls.mono h fun e w'' ⟨v,he,hR⟩=>⟨v,he,hr _ _ hR⟩
  case row row args=>exact Rows.mono h hr
 | halt x w'=>simp only [EfU] at h
theorem Ef.of_ev{P:Program}{o:Oper}{a:Act}{w:World}{v:Value}(h:Ev P o a w v) : Ef P o a w fun u w1=>u=v∧w1=w:=Ef.of_run (h w (Below.refl _ _))
def Want(ops:Array Oper)(o:Oper)(e:List (Nat×Value)) : Prop:=
 match o.guard with
 | none=>True
 | some (j,b)=>∃ t b',(ops[j]?).bind (·.dst)=some t∧look t e=some (.bool b')∧b'=b
def notB:Value→Bool→Prop
 | .bool b',b=>b' = !b
 | _,_=>True
def Pass(ops:Array Oper)(o:Oper)(e:List (Nat×Value)) : Prop:=
 match o.guard with
 | none=>False
 | some (j,b)=>∃ t v,(ops[j]?).bind (·.dst)=some t∧look t e=some v∧notB v b
theorem Want.wanted{ops:Array Oper}{o:Oper}{a:Act}{n:Nat}{e:List (Nat×Value)}(h:Want ops o e)(hf:Fr a n e) : Region.wanted o (yielded ops a.tmps)=true:=by
 unfold Want at h
 unfold Region.wanted
 split at h
 ·rename_i hg;simp [hg]
 ·rename_i j b hg
  obtain ⟨t,b',h1,h2,h3⟩:=h
  simp only [hg]
  unfold yielded
  simp [h1,hf.h _ _ h2,h3]
theorem Pass.wanted{ops:Array Oper}{o:Oper}{a:Act}{n:Nat}{e:List (Nat×Value)}(h:Pass ops o e)(hf:Fr a n e) : Region.wanted o (yielded ops a.tmps)=false:=by
 unfold Pass at h
 unfold Region.wanted
 split at h
 ·cases h
 ·rename_i j b hg
  obtain ⟨t,v,h1,h2,h3⟩:=h
  simp only [hg]
  unfold yielded
  rw [h1,Option.bind_some,hf.h _ _ h2]
  cases v<;>first|rfl|(simp only [notB] at h3;subst h3;cases b<;>rfl)
section
variable {P : Program} {ops : Array Oper} {Q : Exit → Act → World → Prop} {a : Act} {w : World} {rest : List Oper} {o : Oper} {n d : Nat} {e : List (Nat × Value)}
theorem Xl5{R:Value→World→Prop}(hf:Fr a n e)(hw:Want ops o e)(hd:o.dst=some d)(hn:Nat.blt d n=true)(hr:Ef P o a w R)
  (h:∀ a' v w',R v w'→Fr a' n ((d,v)::e)→wpList P ops Q rest a' w') : wpList P ops Q (o::rest) a w:=
 wpList_step fun K hK=>by
  rw [if_pos (hw.wanted hf)]
  exact hr.wp fun v w' hR=>hK _ _ (h _ v w' hR (by rw [hd];exact hf.put d v hn))
theorem Xsv{R:Value→World→Prop}(hf:Fr a n e)(hw:Want ops o e)(hd:o.dst=none)(hr:Ef P o a w R)
  (h:∀ a' v w',R v w'→Fr a' n e→wpList P ops Q rest a' w') : wpList P ops Q (o::rest) a w:=
 wpList_step fun K hK=>by
  rw [if_pos (hw.wanted hf)]
  exact hr.wp fun v w' hR=>hK _ _ (h _ v w' hR (by rw [hd];exact hf.put_none v))
theorem Xsc{v:Value}(hf:Fr a n e)(hw:Want ops o e)(hd:o.dst=some d)(hn:Nat.blt d n=true)(hr:Ev P o a w v)
  (h:∀ a',Fr a' n ((d,v)::e)→wpList P ops Q rest a' w) : wpList P ops Q (o::rest) a w:=
 Xl5 hf hw hd hn (Ef.of_ev hr) fun a' v' w' hR hf'=>by
  obtain ⟨rfl,rfl⟩:=hR;exact h a' hf'
theorem Xqw(hf:Fr a n e)(hw:Pass ops o e)(hd:o.dst=some d)(hn:Nat.blt d n=true)
  (h:∀ a',Fr a' n ((d,undef)::e)→wpList P ops Q rest a' w) : wpList P ops Q (o::rest) a w:=
 wpList_step fun K hK=>by
  rw [if_neg (by rw [hw.wanted hf];simp)]
  exact hK _ _ (h _ (by rw [hd];exact hf.put d undef hn))
end
section
variable {P : Program} {ops : Array Oper} {Q : Exit → Act → World → Prop} {a : Act} {w : World} {rest : List Oper} {op : Op} {ty : TypeId} {pos : String} {af : Array Edge} {n d : Nat} {e : List (Nat × Value)}
theorem l_e{v:Value}(hf:Fr a n e)(hn:Nat.blt d n=true)(hr:Ev P ⟨some d,op,ty,pos,af,none⟩ a w v)(h:∀ a',Fr a' n ((d,v)::e)→wpList P ops Q rest a' w) : wpList P ops Q (⟨some d,op,ty,pos,af,none⟩::rest) a w:=Xsc hf trivial rfl hn hr h
theorem l_f{R:Value→World→Prop}(hf:Fr a n e)(hn:Nat.blt d n=true)(hr:Ef P ⟨some d,op,ty,pos,af,none⟩ a w R)(h:∀ a' v w',R v w'→Fr a' n ((d,v)::e)→wpList P ops Q rest a' w') : wpList P ops Q (⟨some d,op,ty,pos,af,none⟩::rest) a w:=Xl5 hf trivial rfl hn hr h
theorem Xve{R:Value→World→Prop}(hf:Fr a n e)(hr:Ef P ⟨none,op,ty,pos,af,none⟩ a w R)(h:∀ a' v w',R v w'→Fr a' n e→wpList P ops Q rest a' w') : wpList P ops Q (⟨none,op,ty,pos,af,none⟩::rest) a w:=Xsv hf trivial rfl hr h
theorem Xvw{x:Operand}{v:Value}(hf:Fr a n e)(hx:ev e x=some v)(hn:Nat.blt d n=true)(h:∀ a',Fr a' n ((d,v)::e)→wpList P ops Q rest a' w) : wpList P ops Q (⟨some d,.move x,ty,pos,af,none⟩::rest) a w:=l_e hf hn (fun w' _=>by simp [execOp,hf.ev hx]) h
theorem Xww{x:Operand}{v:Value}(hf:Fr a n e)(hx:ev e x=some v)(hn:Nat.blt d n=true)(h:∀ a',Fr a' n ((d,v)::e)→wpList P ops Q rest a' w) : wpList P ops Q (⟨some d,.assign x,ty,pos,af,none⟩::rest) a w:=l_e hf hn (fun w' _=>by simp [execOp,hf.ev hx]) h
end
structure Only (b:Nat) (w w':World) : Prop where
 os:w'.os=w.os
 tape:w'.tape=w.tape
 output:w'.output=w.output
 size:w'.heap.size=w.heap.size
 block:∀ k,k≠b→w'.heap[k]? = w.heap[k]?
theorem Only.refl(b:Nat)(w:World) : Only b w w:=⟨rfl,rfl,rfl,rfl,fun _ _=>rfl⟩
theorem Only.trans{b:Nat}{w w' w'':World}(h:Only b w w')(k:Only b w' w'') : Only b w w'':=
 ⟨k.os.trans h.os,k.tape.trans h.tape,k.output.trans h.output,k.size.trans h.size,fun i hi=>(k.block i hi).trans (h.block i hi)⟩
structure Kept (b B:Nat) (w w':World) : Prop where
 os:w'.os=w.os
 tape:w'.tape=w.tape
 output:w'.output=w.output
 size:w.heap.size≤w'.heap.size
 block:∀ k,k<B→k≠b→w'.heap[k]? = w.heap[k]?
theorem Kept.refl(b B:Nat)(w:World) : Kept b B w w:=⟨rfl,rfl,rfl,Nat.le_refl _,fun _ _ _=>rfl⟩
theorem Kept.of_below{b B:Nat}{w w':World}(h:Below B w w') : Kept b B w w':=⟨h.os,h.tape,h.output,h.size,fun k hk _=>h.block k hk⟩
theorem Kept.trans{b B:Nat}{w w' w'':World}(h:Kept b B w w')(k:Below B w' w'') : Kept b B w w'':=
 ⟨k.os.trans h.os,k.tape.trans h.tape,k.output.trans h.output,Nat.le_trans h.size k.size,fun i hi hn=>(k.block i hi).trans (h.block i hi hn)⟩
theorem Kept.transK{b B:Nat}{w w' w'':World}(h:Kept b B w w')(k:Kept b B w' w'') : Kept b B w w'':=
 ⟨k.os.trans h.os,k.tape.trans h.tape,k.output.trans h.output,Nat.le_trans h.size k.size,fun i hi hn=>(k.block i hi hn).trans (h.block i hi hn)⟩
theorem Kept.mono{b B B':Nat}{w w':World}(h:Kept b B w w')(hB:B'≤B) : Kept b B' w w':=⟨h.os,h.tape,h.output,h.size,fun k hk=>h.block k (Nat.lt_of_lt_of_le hk hB)⟩
theorem Kept.only{b b' B:Nat}{w w' w'':World}(h:Kept b B w w')(ho:Only b' w' w'')(hB:B≤b') : Kept b B w w'':=
 h.trans ⟨ho.os,ho.tape,ho.output,by rw [ho.size];exact Nat.le_refl _,fun k hk=>ho.block k (by omega)⟩
theorem Kept.self{b B:Nat}{w w' w'':World}(h:Kept b B w w')(ho:Only b w' w'') : Kept b B w w'':=
 h.transK ⟨ho.os,ho.tape,ho.output,by rw [ho.size];exact Nat.le_refl _,fun k _ hk=>ho.block k hk⟩
theorem Kept.mid{b:Nat}{w w':World}(h:Kept b w.heap.size w w') : ∃ w1,Only b w w1∧(b<w.heap.size→w1.heap[b]? = w'.heap[b]?)∧Below w1.heap.size w1 w':=by
 cases hb:w'.heap[b]? with
 | none=>
  have hlt:w.heap.size≤b:=Nat.le_trans h.size (Array.getElem?_eq_none_iff.1 hb)
  refine ⟨w,Only.refl _ _,fun h'=>by omega,⟨h.os,h.tape,h.output,h.size,fun k hk=>h.block k hk (by omega)⟩⟩
 | some o=>
  refine ⟨{ w with heap:=w.heap.setIfInBounds b o },⟨rfl,rfl,rfl,by simp,fun k hk=>?_⟩,fun h'=>?_,⟨h.os,h.tape,h.output,by simpa using h.size,fun k hk=>?_⟩⟩
  ·show (w.heap.setIfInBounds b o)[k]? = _
   rw [Array.getElem?_setIfInBounds_ne (Ne.symm hk)]
  ·show (w.heap.setIfInBounds b o)[b]? = _
   simp [h']
  ·have hk':k<w.heap.size:=by simpa using hk
   show _=(w.heap.setIfInBounds b o)[k]?
   by_cases hkb:k=b
   ·subst hkb
    simp [hk',hb]
   ·rw [Array.getElem?_setIfInBounds_ne (Ne.symm hkb)]
    exact h.block k hk' hkb
theorem btr{w0 w w':World}(h:Below w0.heap.size w0 w)(hE:Below w.heap.size w w') : Below w0.heap.size w0 w':=h.trans (hE.mono h.size)
theorem ktr{b:Nat}{w0 w w':World}(h:Kept b w0.heap.size w0 w)(hE:Below w.heap.size w w') : Kept b w0.heap.size w0 w':=h.trans (hE.mono h.size)
def Keep(V:Option Nat)(w w':World) : Prop:=match V with
 | none=>Below w.heap.size w w'
 | some b=>∃ w1,Only b w w1∧Below w.heap.size w1 w'
theorem Keep.refl(V:Option Nat)(w:World) : Keep V w w:=by
 cases V with
 | none=>exact Below.refl _ _
 | some b=>exact ⟨w,Only.refl _ _,Below.refl _ _⟩
theorem Keep.kept{b:Nat}{w w':World}(h:Keep (some b) w w') : Kept b w.heap.size w w':=by
 obtain ⟨w1,h1,h2⟩:=h;exact (Kept.self (Kept.refl b w.heap.size w) h1).trans h2
theorem Kept.keep{b:Nat}{w w':World}(h:Kept b w.heap.size w w') : Keep (some b) w w':=by
 obtain ⟨w1,h1,_,h2⟩:=h.mid;exact ⟨w1,h1,by rw [← h1.size];exact h2⟩
theorem Keep.of_below{V:Option Nat}{w w':World}(h:Below w.heap.size w w') : Keep V w w':=by
 cases V with
 | none=>exact h
 | some b=>exact ⟨w,Only.refl _ _,h⟩
theorem Keep.trans{V:Option Nat}{w w' w'':World}(h:Keep V w w')(k:Keep V w' w'') : Keep V w w'':=by
 cases V with
 | none=>exact Below.trans h (Below.mono k h.size)
 | some b=>exact (h.kept.transK (k.kept.mono h.kept.size)).keep
section
variable {P : Program} {ops : Array Oper} {Q : Act → World → Prop} {tl : Nat → Bool} {V : Option Nat}
def wpR(P:Program)(ops:Array Oper)(V:Option Nat)(tl:Nat→Bool)(i:Nat)(K:Act→World→Prop)(a:Act)(w:World) : Prop:=
 match ops[i]? with
 | none=>K a w
 | some o=>if Region.wanted o (yielded ops a.tmps) then Ef P o a w (fun v w'=>(tl i=false→Keep V w w')∧K (a.put o.dst v) w') else K (a.put o.dst undef) w
def wpS(P:Program)(ops:Array Oper)(V:Option Nat)(tl:Nat→Bool)(Q:Act→World→Prop) : Nat→Array Bool→Act→World→Prop
 | 0,listed,a,w=>Region.ready .any ops listed=[]∧Q a w
 | fuel+1,listed,a,w=>(Region.ready .any ops listed=[]→Q a w)∧∀ i ∈ Region.ready .any ops listed,wpR P ops V tl i (wpS P ops V tl Q fuel (listed.setIfInBounds i true)) a w
theorem Xkx{i:Nat}{K K':Act→World→Prop}{a:Act}{w:World}(h:∀ a w,K a w→K' a w)(hh:wpR P ops V tl i K a w) : wpR P ops V tl i K' a w:=by
 unfold wpR at *
 split
 ·exact h _ _ (by simpa [*] using hh)
 ·rename_i o ho
  simp only [ho] at hh
  split
  ·rename_i hw
   simp only [hw,if_true] at hh
   exact hh.mono fun v w' ⟨h1,h2⟩=>⟨h1,h _ _ h2⟩
  ·rename_i hw
   simp only [hw] at hh
   exact h _ _ hh
theorem X3f{Q':Exit→Act→World→Prop}(hQ:∀ a w,Q a w→Q' .normal a w) : ∀ (fuel:Nat) (listed:Array Bool) (a:Act) (w:World),wpS P ops V tl Q fuel listed a w→wpAny P .any ops Q' fuel listed a w
 | 0,_,_,_,h=>⟨h.1,hQ _ _ h.2⟩
 | fuel+1,listed,a,w,h=>by
  refine ⟨fun h0=>hQ _ _ (h.1 h0),fun i hi=>?_⟩
  have h1:=h.2 i hi
  unfold wpR at h1
  unfold wpOp
  split
  ·rename_i ho;simp only [ho] at h1;exact X3f hQ fuel _ _ _ h1
  ·rename_i o ho
   simp only [ho] at h1
   split
   ·rename_i hw
    simp only [hw,if_true] at h1
    exact .inl (h1.wp fun v w' hR=>X3f hQ fuel _ _ _ hR.2)
   ·rename_i hw
    simp only [hw] at h1
    exact X3f hQ fuel _ _ _ h1
def YC(P:Program)(ops:Array Oper)(C:World→Prop)(o:Oper)(v:Value)(a:Act) : Prop:=
 (Region.wanted o (yielded ops a.tmps)=true∧∀ w,C w→(execOp a.eval o).run P w=.ok (.value v) w)∨(Region.wanted o (yielded ops a.tmps)=false∧v=undef)
theorem YC.of_same{C:World→Prop}{o:Oper}{v:Value}{a a':Act}(hy:YC P ops C o v a)(he:execOp a'.eval o=execOp a.eval o)
  (hw:Region.wanted o (yielded ops a'.tmps)=Region.wanted o (yielded ops a.tmps)) : YC P ops C o v a':=by
 unfold YC at *
 rw [he,hw]
 exact hy
theorem YC.wpR{C:World→Prop}{i:Nat}{o:Oper}{v:Value}{a:Act}{w:World}(hi:ops[i]? = some o)(hC:C w)(hy:YC P ops C o v a){K:Act→World→Prop}(h:K (a.put o.dst v) w) : wpR P ops V tl i K a w:=by
 unfold YtlfjcmldfbfdbaaGreat.wpR
 simp only [hi]
 rcases hy with ⟨hw,hv⟩|⟨hw,rfl⟩
 ·simp only [hw,if_true]
  exact (Ef.of_run (hv w hC)).mono fun u w' ⟨e1,e2⟩=>by subst e1;subst e2;exact ⟨fun _=>Keep.refl _ _,h⟩
 ·simp only [hw,Bool.false_eq_true,if_false];exact h
theorem Xsp{oi oj:Oper}{v:Value}(h1:∀ d,oi.dst=some d→d ∉ oj.looksAt ops)(hsj:∀ cs b,oj.op≠.select cs b)
  {a:Act} {w:World} {R:Value→World→Prop} (h:Ef P oj (a.put oi.dst v) w R) : Ef P oj a w R:=by
 unfold Ef at *
 rwa [execOp_put oj hsj a oi.dst v h1] at h
theorem Xn3{C:World→Prop}{j:Nat}{oi oj:Oper}{v:Value}(hj:ops[j]? = some oj)(hap:oi.apart ops oj=true)
  (hsi:∀ cs b,oi.op≠.select cs b) (hsj:∀ cs b,oj.op≠.select cs b) (hC:∀ w w',C w→(tl j=false→Keep V w w')→C w') {K:Act→World→Prop} {a:Act} {w:World} (hw0:C w)
  (hy:YC P ops C oi v a) (h:wpR P ops V tl j K (a.put oi.dst v) w) : wpR P ops V tl j (fun a' w'=>C w'∧YC P ops C oi v a'∧K (a'.put oi.dst v) w') a w:=by
 obtain ⟨h1,h2,h3⟩:=Oper.apart_spec hap
 have keep:∀ (a:Act),YC P ops C oi v a→∀ u,YC P ops C oi v (a.put oj.dst u):=fun a hy u=>
  hy.of_same (execOp_put oi hsi a oj.dst u h3) (wanted_put oi a oj.dst u h3)
 unfold wpR at *
 simp only [hj] at *
 rw [wanted_put oj a oi.dst v h1] at h
 split
 ·rename_i hw
  simp only [hw,if_true] at h
  exact (Xsp h1 hsj h).mono fun u w' ⟨hb,hk⟩=>⟨hb,hC w w' hw0 hb,keep a hy u,by rw [← Act.put_comm a v u h2];exact hk⟩
 ·rename_i hw
  simp only [hw] at h
  exact ⟨hw0,keep a hy _,by rw [← Act.put_comm a v undef h2];exact h⟩
def Closed(ops:Array Oper)(listed:Array Bool) : Prop:=∀ k ok,ops[k]? = some ok→listed.getD k false=true→∀ e ∈ ok.after,Region.binds .any e=true→listed.getD e.on false=true
theorem X5v{listed:Array Bool}{j k:Nat}(h:listed.getD k false=true) : (listed.setIfInBounds j true).getD k false=true:=by
 rcases Nat.lt_or_ge k listed.size with hk|hk
 ·by_cases hjk:j=k
  ·subst hjk;simp [hk]
  ·simpa [hk,Array.getElem_setIfInBounds_ne _ hjk] using h
 ·simp [Array.getElem?_eq_none hk] at h
theorem Closed.set{listed:Array Bool}{j:Nat}{oj:Oper}(h:Closed ops listed)(hj:ops[j]? = some oj)(hall:∀ e ∈ oj.after,Region.binds .any e=true→listed.getD e.on false=true) : Closed ops (listed.setIfInBounds j true):=fun k ok hk hl e he hb=>by
 by_cases hjk:j=k
 ·subst hjk
  rw [hj] at hk
  injection hk with hk
  subst hk
  exact X5v (hall e he hb)
 ·rw [getD_set_ne false hjk] at hl
  exact X5v (h k ok hk hl e he hb)
def reach(ops:Array Oper)(i:Nat) : Nat→Nat→Bool
 | 0,_=>false
 | f+1,j=>match ops[j]? with
  | some oj=>oj.after.any fun e=>Region.binds .any e&&(e.on==i||reach ops i f e.on)
  | none=>false
theorem X6p{listed:Array Bool}{i:Nat}(hcl:Closed ops listed) : ∀ (f j:Nat) (oj:Oper),ops[j]? = some oj→(∀ e ∈ oj.after,Region.binds .any e=true→listed.getD e.on false=true)→reach ops i f j=true→listed.getD i false=true
 | 0,_,_,_,_,h=>by cases h
 | f+1,j,oj,hj,hall,h=>by
  simp only [reach,hj] at h
  obtain ⟨e,he,hb⟩:=Array.any_eq_true'.1 h
  simp only [Bool.and_eq_true,Bool.or_eq_true,beq_iff_eq] at hb
  have h1:=hall e he hb.1
  rcases hb.2 with h2|h2
  ·rw [← h2];exact h1
  ·cases hk:ops[e.on]? with
   | none=>
    cases f with
    | zero=>cases h2
    | succ f=>simp only [reach,hk] at h2;cases h2
   | some ok=>exact X6p hcl f e.on ok hk (hcl e.on ok hk h1) h2
theorem X7k{C:World→Prop}{i:Nat}{oi:Oper}{v:Value}(hi:ops[i]? = some oi)(hsel:∀ (j:Nat) (o:Oper) cs b,ops[j]? = some o→o.op≠.select cs b)
  (hC:∀ j oj,ops[j]? = some oj→(∀ listed,Closed ops listed→(∀ e ∈ oj.after,Region.binds .any e=true→listed.getD e.on false=true)→listed.getD i true=false→∀ w w',C w→(tl j=false→Keep V w w')→C w')) :
  ∀ (fuel:Nat) (listed:Array Bool) (a:Act) (w:World),Closed ops listed→
   (∀ j oj,ops[j]? = some oj→j≠i→listed.getD j true=false→(∀ e ∈ oj.after,Region.binds .any e=true→e.on≠i)→oi.apart ops oj=true)→
   i ∈ Region.ready .any ops listed→C w→YC P ops C oi v a→
   wpS P ops V tl Q fuel (listed.setIfInBounds i true) (a.put oi.dst v) w→wpS P ops V tl Q (fuel+1) listed a w:=by
 intro fuel
 induction fuel with
 | zero=>
  intro listed a w _ _ hr hw hy H
  refine ⟨fun h=>(by rw [h] at hr;cases hr),fun j hj=>?_⟩
  by_cases hji:j=i
  ·subst hji;exact hy.wpR hi hw H
  ·have:=ready_mono hj hji
   rw [H.1] at this
   cases this
 | succ fuel ih=>
  intro listed a w hcl hfree hr hw hy H
  refine ⟨fun h=>(by rw [h] at hr;cases hr),fun j hj=>?_⟩
  by_cases hji:j=i
  ·subst hji;exact hy.wpR hi hw H
  ·have h1:=H.2 j (ready_mono hj hji);obtain ⟨hjun,oj,hoj,hall⟩:=mem_ready.1 hj
   have hnot:∀ e ∈ oj.after,Region.binds .any e=true→e.on≠i:=fun e he hb heq=>by
    have h1:=hall e he hb;have h0:=(mem_ready.1 hr).1
    rw [heq] at h1
    rcases Nat.lt_or_ge i listed.size with h'|h'
    ·simp [h'] at h0 h1;rw [h0] at h1;cases h1
    ·simp [Array.getElem?_eq_none h'] at h1
   have h2:=Xn3 hoj (hfree j oj hoj hji hjun hnot) (fun cs b=>hsel i oi cs b hi) (fun cs b=>hsel j oj cs b hoj) (hC j oj hoj listed hcl hall (mem_ready.1 hr).1) hw hy h1
   have hfree':∀ k ok,ops[k]? = some ok→k≠i→(listed.setIfInBounds j true).getD k true=false→
     (∀ e ∈ ok.after,Region.binds .any e=true→e.on≠i)→oi.apart ops ok=true:=fun k ok hk hki hun hno=>by
    refine hfree k ok hk hki ?_ hno
    by_cases hjk:j=k
    ·subst hjk;exact hjun
    ·rw [getD_set_ne true hjk] at hun;exact hun
   refine Xkx (fun a' w' h3=>ih (listed.setIfInBounds j true) a' w' (hcl.set hoj hall) hfree' (ready_mono hr (Ne.symm hji)) h3.1 h3.2.1 ?_) h2
   rw [Array.setIfInBounds_comm _ _ hji]
   exact h3.2.2
def mask(ops:Array Oper)(done:List Nat) : Array Bool:=(Array.range ops.size).map fun i=>done.contains i
theorem X47(ops:Array Oper)(done:List Nat)(i:Nat) : (mask ops done).setIfInBounds i true=mask ops (i::done):=by
 apply Array.ext
 ·simp [mask]
 ·intro k h1 h2
  simp only [mask,Array.size_setIfInBounds,Array.size_map,Array.size_range] at h1
  by_cases hk:i=k
  ·subst hk
   simp [mask]
  ·have hk':¬ k=i:=fun h=>hk h.symm
   rw [Array.getElem_setIfInBounds_ne (by simpa [mask] using h1) hk]
   simp [mask,hk']
theorem Xlt(ops:Array Oper) : Array.replicate ops.size false=mask ops []:=by
 apply Array.ext<;>simp [mask]
def closedB(ops:Array Oper)(done:List Nat) : Bool:=done.all fun k=>match ops[k]? with
 | some ok=>ok.after.all fun e=>!(Region.binds .any e)||done.contains e.on&&Nat.blt e.on ops.size
 | none=>true
def mayFirst(ops:Array Oper)(done:List Nat)(i:Nat) : Bool:=
 Region.noSelect ops&&Region.free .any ops (mask ops done) i&&(Region.ready .any ops (mask ops done)).contains i&&closedB ops done
theorem Xb5{done:List Nat}{k:Nat}(d:Bool)(h:k<ops.size) : (mask ops done).getD k d=done.contains k:=by
 simp [mask,h]
theorem mask_getD'{done:List Nat}{k:Nat}(h:(mask ops done).getD k false=true) : done.contains k=true:=by
 rcases Nat.lt_or_ge k ops.size with h'|h'
 ·rwa [Xb5 false h'] at h
 ·simp [mask,h'] at h
theorem X4o{done:List Nat}(h:closedB ops done=true) : Closed ops (mask ops done):=fun k ok hk hl e he hb=>by
 have h1:=mask_getD' hl
 simp only [closedB,List.all_eq_true] at h
 have h2:=h k (by simpa using h1)
 simp only [hk] at h2
 have h3:=Array.all_eq_true'.1 h2 e he
 simp only [hb,Bool.not_true,Bool.false_or,Bool.and_eq_true] at h3
 have h4:e.on<ops.size:=by simpa [Nat.blt_eq] using h3.2
 rw [Xb5 false h4]
 exact h3.1
def tailWaits(ops:Array Oper)(tl:Nat→Bool)(i:Nat) : Bool:=
 (List.range ops.size).all fun j=>!tl j||reach ops i 9 j
theorem X8w{i:Nat}(h:tailWaits ops tl i=true)(j:Nat)(oj:Oper)(hj:ops[j]? = some oj){listed:Array Bool}(hcl:Closed ops listed)(hall:∀ e ∈ oj.after,Region.binds .any e=true→listed.getD e.on false=true)(hi:listed.getD i true=false) : tl j=false:=by
 simp only [tailWaits,List.all_eq_true,List.mem_range] at h
 have h1:=h j (Array.getElem?_eq_some_iff.1 hj).1
 simp only [Bool.or_eq_true,Bool.not_eq_true'] at h1
 rcases h1 with h1|h1
 ·exact h1
 ·have h2:=X6p hcl 9 j oj hj hall h1
  rcases Nat.lt_or_ge i listed.size with h'|h'
  ·simp [h'] at h2 hi;rw [h2] at hi;cases hi
  ·simp [h'] at h2
section
variable {a : Act} {w : World} {n d fuel : Nat} {e : List (Nat × Value)} {o : Oper} {done : List Nat}
theorem Xpf(i:Nat){v:Value}(hi:ops[i]? = some o)(hm:mayFirst ops done i=true)(ht:tailWaits ops tl i=true)(hf:Fr a n e)(hw:Want ops o e)(hd:o.dst=some d)(hn:Nat.blt d n=true)
  (hr:∀ w',Keep V w w'→(execOp a.eval o).run P w'=.ok (.value v) w') (h:∀ a',Fr a' n ((d,v)::e)→wpS P ops V tl Q fuel (mask ops (i::done)) a' w) : wpS P ops V tl Q (fuel+1) (mask ops done) a w:=by
 simp only [mayFirst,Bool.and_eq_true] at hm
 refine X7k (C:=fun w'=>Keep V w w') hi (Region.noSelect_spec hm.1.1.1) (fun j oj hj lst hcl hall hun w1 w2 h1 h2=>?_) fuel _ a w (X4o hm.2) (Region.free_spec hi hm.1.1.2) (by simpa using hm.1.2) (Keep.refl _ _) (.inl ⟨hw.wanted hf,hr⟩) ?_
 ·exact h1.trans (h2 (X8w ht j oj hj hcl hall hun))
 ·rw [X47]
  exact h _ (by rw [hd];exact hf.put d v hn)
theorem Xr2(i:Nat){v:Value}(hi:ops[i]? = some o)(hm:mayFirst ops done i=true)(ht:tailWaits ops tl i=true)(hf:Fr a n e)(hw:Want ops o e)(hd:o.dst=some d)(hn:Nat.blt d n=true)
  (hr:Ev P o a w v) (h:∀ a',Fr a' n ((d,v)::e)→wpS P ops none tl Q fuel (mask ops (i::done)) a' w) : wpS P ops none tl Q (fuel+1) (mask ops done) a w:=Xpf i hi hm ht hf hw hd hn hr h
theorem Xuw(i:Nat){b:Nat}{v:Value}(hi:ops[i]? = some o)(hm:mayFirst ops done i=true)(ht:tailWaits ops tl i=true)(hf:Fr a n e)(hw:Want ops o e)(hd:o.dst=some d)(hn:Nat.blt d n=true)
  (hr:∀ w1,Only b w w1→Ev P o a w1 v) (h:∀ a',Fr a' n ((d,v)::e)→wpS P ops (some b) tl Q fuel (mask ops (i::done)) a' w) : wpS P ops (some b) tl Q (fuel+1) (mask ops done) a w:=
 Xpf i hi hm ht hf hw hd hn (fun w' ⟨w1,h1,h2⟩=>hr w1 h1 w' (by rw [h1.size];exact h2)) h
theorem Xgl(i:Nat){v:Value}(hi:ops[i]? = some o)(hm:mayFirst ops done i=true)(hf:Fr a n e)(hw:Want ops o e)(hd:o.dst=some d)(hn:Nat.blt d n=true)
  (hr:∀ w,Ev P o a w v) (h:∀ a',Fr a' n ((d,v)::e)→wpS P ops V tl Q fuel (mask ops (i::done)) a' w) : wpS P ops V tl Q (fuel+1) (mask ops done) a w:=by
 simp only [mayFirst,Bool.and_eq_true] at hm
 refine X7k (C:=fun _=>True) hi (Region.noSelect_spec hm.1.1.1) (fun _ _ _ _ _ _ _ _ _ _ _=>trivial) fuel _ a w (X4o hm.2) (Region.free_spec hi hm.1.1.2) (by simpa using hm.1.2) trivial (.inl ⟨hw.wanted hf,fun w' _=>hr w' w' (Below.refl _ _)⟩) ?_
 rw [X47]
 exact h _ (by rw [hd];exact hf.put d v hn)
theorem Xq9(i:Nat)(hi:ops[i]? = some o)(hm:mayFirst ops done i=true)(hf:Fr a n e)(hw:Pass ops o e)(hd:o.dst=some d)(hn:Nat.blt d n=true)
  (h:∀ a',Fr a' n ((d,undef)::e)→wpS P ops V tl Q fuel (mask ops (i::done)) a' w) : wpS P ops V tl Q (fuel+1) (mask ops done) a w:=by
 simp only [mayFirst,Bool.and_eq_true] at hm
 refine X7k (C:=fun _=>True) hi (Region.noSelect_spec hm.1.1.1) (fun _ _ _ _ _ _ _ _ _ _ _=>trivial) fuel _ a w (X4o hm.2) (Region.free_spec hi hm.1.1.2) (by simpa using hm.1.2) trivial (.inr ⟨hw.wanted hf,rfl⟩) ?_
 rw [X47]
 exact h _ (by rw [hd];exact hf.put d undef hn)
theorem s_e{op:Op}{ty:TypeId}{pos:String}{af:Array Edge}(i:Nat){v:Value}(hi:ops[i]? = some ⟨some d,op,ty,pos,af,none⟩)(hm:mayFirst ops done i=true)(ht:tailWaits ops tl i=true)(hf:Fr a n e)(hn:Nat.blt d n=true)
  (hr:Ev P ⟨some d,op,ty,pos,af,none⟩ a w v) (h:∀ a',Fr a' n ((d,v)::e)→wpS P ops none tl Q fuel (mask ops (i::done)) a' w) : wpS P ops none tl Q (fuel+1) (mask ops done) a w:=Xr2 i hi hm ht hf trivial rfl hn hr h
theorem Xw0{op:Op}{ty:TypeId}{pos:String}{af:Array Edge}(i:Nat){v:Value}(hi:ops[i]? = some ⟨some d,op,ty,pos,af,none⟩)(hm:mayFirst ops done i=true)(hf:Fr a n e)(hn:Nat.blt d n=true)
  (hr:∀ w,Ev P ⟨some d,op,ty,pos,af,none⟩ a w v) (h:∀ a',Fr a' n ((d,v)::e)→wpS P ops V tl Q fuel (mask ops (i::done)) a' w) : wpS P ops V tl Q (fuel+1) (mask ops done) a w:=Xgl i hi hm hf trivial rfl hn hr h
theorem Xt7(i:Nat)(hr:Region.ready .any ops (mask ops done)=[i])(h:wpR P ops V tl i (wpS P ops V tl Q fuel (mask ops (i::done))) a w) : wpS P ops V tl Q (fuel+1) (mask ops done) a w:=by
 refine ⟨fun h0=>(by rw [hr] at h0;cases h0),fun j hj=>?_⟩
 rw [hr] at hj
 obtain rfl:j=i:=by simpa using hj
 rw [X47]
 exact h
theorem Xuc(i j:Nat)(hr:Region.ready .any ops (mask ops done)=[i,j])(hi:wpR P ops V tl i (wpS P ops V tl Q fuel (mask ops (i::done))) a w)
  (hj:wpR P ops V tl j (wpS P ops V tl Q fuel (mask ops (j::done))) a w) : wpS P ops V tl Q (fuel+1) (mask ops done) a w:=by
 refine ⟨fun h0=>(by rw [hr] at h0;cases h0),fun k hk=>?_⟩
 rw [hr] at hk
 rw [X47]
 simp only [List.mem_cons,List.not_mem_nil,or_false] at hk
 rcases hk with rfl|rfl
 ·exact hi
 ·exact hj
theorem Xmi(i j k:Nat)(hr:Region.ready .any ops (mask ops done)=[i,j,k])(hi:wpR P ops V tl i (wpS P ops V tl Q fuel (mask ops (i::done))) a w)
  (hj:wpR P ops V tl j (wpS P ops V tl Q fuel (mask ops (j::done))) a w) (hk:wpR P ops V tl k (wpS P ops V tl Q fuel (mask ops (k::done))) a w) : wpS P ops V tl Q (fuel+1) (mask ops done) a w:=by
 refine ⟨fun h0=>(by rw [hr] at h0;cases h0),fun m hm=>?_⟩
 rw [hr] at hm
 rw [X47]
 simp only [List.mem_cons,List.not_mem_nil,or_false] at hm
 rcases hm with rfl|rfl|rfl
 ·exact hi
 ·exact hj
 ·exact hk
def sameL(L D:List Nat) : Bool:=L.all D.contains&&D.all L.contains
theorem Xib{L D:List Nat}(h:sameL L D=true) : mask ops L=mask ops D:=by
 unfold mask
 apply Array.map_congr_left
 intro i _
 unfold sameL at h
 rw [Bool.and_eq_true] at h
 rw [Bool.eq_iff_iff,List.contains_iff_mem,List.contains_iff_mem]
 exact ⟨fun hi=>List.contains_iff_mem.1 (List.all_eq_true.1 h.1 i hi),fun hi=>List.contains_iff_mem.1 (List.all_eq_true.1 h.2 i hi)⟩
theorem Xma{a:Act}{w:World}{o:Oper}{v:Value}(h:Ev P o a w v) : Ef P o a w (fun v' w'=>v'=v∧w=w'):=by
 unfold Ef
 rw [h w (Below.refl _ _)]
 exact ⟨rfl,rfl⟩
theorem Xrl(hr:Region.ready .any ops (mask ops done)=[])(h:Q a w) : wpS P ops V tl Q fuel (mask ops done) a w:=by
 cases fuel with
 | zero=>exact ⟨hr,h⟩
 | succ f=>exact ⟨fun _=>h,fun j hj=>by rw [hr] at hj;cases hj⟩
theorem Xu5{i:Nat}{K:Act→World→Prop}{R:Value→World→Prop}(hi:ops[i]? = some o)(hf:Fr a n e)(hw:Want ops o e)(hd:o.dst=some d)(hn:Nat.blt d n=true)
  (hr:Ef P o a w fun v w'=>(tl i=false→Keep V w w')∧R v w') (h:∀ a' v w',R v w'→Fr a' n ((d,v)::e)→K a' w') : wpR P ops V tl i K a w:=by
 unfold wpR
 simp only [hi]
 rw [if_pos (hw.wanted hf)]
 exact hr.mono fun v w' ⟨h1,h2⟩=>⟨h1,h _ v w' h2 (by rw [hd];exact hf.put d v hn)⟩
theorem Xru{i:Nat}{K:Act→World→Prop}{R:Value→World→Prop}(hi:ops[i]? = some o)(hf:Fr a n e)(hw:Want ops o e)(hd:o.dst=none)
  (hr:Ef P o a w fun v w'=>(tl i=false→Keep V w w')∧R v w') (h:∀ a' v w',R v w'→Fr a' n e→K a' w') : wpR P ops V tl i K a w:=by
 unfold wpR
 simp only [hi]
 rw [if_pos (hw.wanted hf)]
 exact hr.mono fun v w' ⟨h1,h2⟩=>⟨h1,h _ v w' h2 (by rw [hd];exact hf.put_none v)⟩
theorem Xr0{i:Nat}{K:Act→World→Prop}(hi:ops[i]? = some o)(hf:Fr a n e)(hw:Pass ops o e)(hd:o.dst=some d)(hn:Nat.blt d n=true)
  (h:∀ a',Fr a' n ((d,undef)::e)→K a' w) : wpR P ops V tl i K a w:=by
 unfold wpR
 simp only [hi]
 rw [if_neg (by rw [hw.wanted hf];simp)]
 exact h _ (by rw [hd];exact hf.put d undef hn)
theorem X05(V:Option Nat)(tl:Nat→Bool){id:Nat}{l:List Oper}{Q':Exit→Act→World→Prop}(hm:P.follows .mixedOrders=true)
  (h:∀ w',Below w.heap.size w w'→wpS P l.toArray V tl (Q' .normal) l.length (mask l.toArray []) a w') : (Code.region id l.toArray true).wp P Q' a w:=by
 refine wp_region_any hm ?_
 rw [Xlt]
 exact X3f (fun _ _ h=>h) _ _ _ _ (by simpa using h w.drew (Below.refl _ _).drew)
end
end
abbrev Env:=List (Nat×Value)
def At(w:World)(p:Addr)(l:List Value) : Prop:=∀ j v,l[j]? = some v→w.cell? (p.add j)=some v
def Blk(w:World)(b:Nat)(T:TypeId)(l:List Value) : Prop:=w.heap[b]? = some (.cells l.toArray T (0,0))
theorem X6k(p:Addr)(i j:Nat) : (p.add i).add j=p.add (i+j):=by
 unfold Addr.add
 by_cases hi:i=0<;>by_cases hj:j=0<;>simp [hi,hj,Nat.add_assoc]
theorem X4d(p:Addr)(i:Nat) : (p.add i).block=p.block:=by unfold Addr.add;split<;>rfl
theorem X1x(b off i:Nat) : (Addr.mk b off none).add i=⟨b,off+i,none⟩:=by
 unfold Addr.add
 by_cases hi:i=0<;>simp [hi]
theorem Xge{w:World}{p:Addr}{v:Value}(h:w.cell? p=some v) : p.block<w.heap.size:=by
 rcases Nat.lt_or_ge p.block w.heap.size with h'|h'
 ·exact h'
 ·simp [World.cell?,Array.getElem?_eq_none h'] at h
theorem At.below{w w':World}{p:Addr}{l:List Value}(h:At w p l)(hb:Below w.heap.size w w') : At w' p l:=by
 intro j v hj
 have:=h j v hj
 rw [hb.cell (Xge this)]
 exact this
theorem At.drop{w:World}{p:Addr}{l:List Value}(h:At w p l)(k:Nat) : At w (p.add k) (l.drop k):=by
 intro j v hj
 rw [X6k]
 exact h (k+j) v (by rw [← hj,List.getElem?_drop])
theorem At.take{w:World}{p:Addr}{l:List Value}(h:At w p l)(k:Nat) : At w p (l.take k):=by
 intro j v hj;refine h j v ?_
 rw [List.getElem?_take] at hj
 split at hj
 ·exact hj
 ·cases hj
theorem At.append_left{w:World}{p:Addr}{l l':List Value}(h:At w p (l++l')) : At w p l:=by
 intro j v hj;refine h j v ?_
 rw [List.getElem?_append_left (List.getElem?_eq_some_iff.1 hj).1]
 exact hj
theorem At.nil(w:World)(p:Addr) : At w p []:=fun j v h=>by simp at h
theorem Blk.lt{w:World}{b:Nat}{T:TypeId}{l:List Value}(h:Blk w b T l) : b<w.heap.size:=by
 rcases Nat.lt_or_ge b w.heap.size with h'|h'
 ·exact h'
 ·simp [Blk,Array.getElem?_eq_none h'] at h
theorem Blk.cell{w:World}{b:Nat}{T:TypeId}{l:List Value}(h:Blk w b T l)(k:Nat) : w.cell? ⟨b,k,none⟩=l[k]?:=by
 unfold Blk at h
 simp [World.cell?,h]
theorem Blk.at{w:World}{b:Nat}{T:TypeId}{l:List Value}(h:Blk w b T l)(k:Nat) : At w ⟨b,k,none⟩ (l.drop k):=by
 intro j v hj
 rw [X1x,h.cell,← hj,List.getElem?_drop]
theorem Blk.below{w w':World}{b:Nat}{T:TypeId}{l:List Value}(h:Blk w b T l)(hb:Below w.heap.size w w') : Blk w' b T l:=(hb.block b h.lt).trans h
theorem Blk.only{w w':World}{b b':Nat}{T:TypeId}{l:List Value}(h:Blk w b T l)(ho:Only b' w w')(hne:b≠b') : Blk w' b T l:=(ho.block b hne).trans h
theorem Blk.drew{w:World}{b:Nat}{T:TypeId}{l:List Value}(h:Blk w b T l) : Blk w.drew b T l:=h
theorem Blk.ne{w:World}{b b':Nat}{T T':TypeId}{l l':List Value}(h:Blk w b T l)(h':Blk w b' T' l')(hT:Nat.beq T T'=false) : b≠b':=by
 rintro rfl
 unfold Blk at h h'
 rw [h] at h'
 injection h' with h'
 injection h' with _ e
 subst e
 simp at hT
theorem Below.only{B b:Nat}{w0 w w':World}(h:Below B w0 w)(ho:Only b w w')(hB:B≤b) : Below B w0 w':=
 h.trans ⟨ho.os,ho.tape,ho.output,by rw [ho.size];exact Nat.le_refl _,fun k hk=>ho.block k (by omega)⟩
theorem At.only{w w':World}{b:Nat}{p:Addr}{l:List Value}(h:At w p l)(ho:Only b w w')(hne:p.block≠b) : At w' p l:=by
 intro j v hj
 rw [World.cell?_of_block (w:=w) (by rw [X4d];exact ho.block _ hne)]
 exact h j v hj
def OneT(P:Program)(t:TypeId) : Prop:=∃ d,P.underlying t=some d∧(match d with|.struct _|.array _ _=>False|_=>True)
def AggT(P:Program)(t:TypeId)(n:Nat) : Prop:=(∃ d,P.underlying t=some d∧(match d with|.struct _|.array _ _=>True|_=>False))∧∃ i,P.info? t=some i∧i.size=n
def SizeT(P:Program)(t:TypeId)(n:Nat) : Prop:=∃ i,P.info? t=some i∧i.size=n
def ZeroT(P:Program)(t:TypeId)(z:Value) : Prop:=∃ i,P.info? t=some i∧i.zero=some z
def FieldT(P:Program)(T f k:Nat) : Prop:=∃ fs F i,P.underlying T=some (.struct fs)∧fs[f]? = some F∧F.offset=k∧P.info? F.type=some i∧(i.size==0)=false
def SliceT(P:Program)(T E:TypeId) : Prop:=P.underlying T=some (.slice E)
def FuncF (P : Program) (f : FuncId) : Prop := ∃ fn, P.funcs[f]? = some fn ∧ (fn.name == "runtime.NumGoroutine") = false ∧ fn.body.isNone = false
section
variable {P : Program} {w : World}
theorem run_sizeOf'{t n:Nat}(h:SizeT P t n)(w:World) : (sizeOf t).run P w=.ok n w:=by
 obtain ⟨i,h1,h2⟩:=h
 simp [sizeOf,typeInfo,h1,h2]
theorem Xa3{t:TypeId}{z:Value}(h:ZeroT P t z)(w:World) : (zeroValue t).run P w=.ok z w:=by
 obtain ⟨i,h1,h2⟩:=h
 simp [zeroValue,typeInfo,h1,h2]
theorem X0e{t:TypeId}{d:TypeDesc}(h:P.underlying t=some d)(w:World) : (underlying t).run P w=.ok d w:=by simp [underlying,h]
theorem X5w{t:TypeId}(h:OneT P t)(w:World) : (isAgg t).run P w=.ok false w:=by
 obtain ⟨d,h1,h2⟩:=h
 cases d<;>simp_all [isAgg,underlying]
theorem X5z{t n:Nat}(h:AggT P t n)(w:World) : (isAgg t).run P w=.ok true w:=by
 obtain ⟨⟨d,h1,h2⟩,_⟩:=h
 cases d<;>simp_all [isAgg,underlying]
theorem X3x(p:Addr) : ∀ (l:List Value) (i:Nat) (acc:Array Value),(∀ j v,l[j]? = some v→w.cell? (p.add (i+j))=some v)→
  (loadCellsFrom p i l.length acc).run P w=.ok (acc++l.toArray) w
 | [],i,acc,_=>by simp [loadCellsFrom]
 | v::l,i,acc,h=>by
  have h0:=h 0 v rfl
  simp only [Nat.add_zero] at h0
  have ih:=X3x p l (i+1) (acc.push v) (fun j u hj=>by
   have:=h (j+1) u (by simpa using hj)
   rwa [show i+(j+1)=i+1+j from by omega] at this)
  simp [loadCellsFrom,load,Sem.run,h0,ih]
theorem X4s{t:TypeId}{p:Addr}{v:Value}{l:List Value}(h:OneT P t)(hc:At w p (v::l)) : (loadVar t p).run P w=.ok v w:=by
 have h0:=hc 0 v rfl
 have h1:p.add 0=p:=by simp [Addr.add]
 rw [h1] at h0
 simp [loadVar,X5w h,load,Sem.run,h0]
theorem X4t{t n:Nat}{p:Addr}{l:List Value}(h:AggT P t n)(hc:At w p l)(hn:l.length=n) : (loadVar t p).run P w=.ok (.agg l.toArray) w:=by
 subst hn
 have h1:=X3x (P:=P) (w:=w) p l 0 #[] (fun j v hj=>by rw [Nat.zero_add];exact hc j v hj)
 simp [loadVar,X5z h,run_sizeOf' h.2,loadCells,h1]
end
section
variable {P : Program} {a : Act} {w : World} {n : Nat} {e : Env} {ty : TypeId} {pos : String} {af : Array Edge} {g : Option (Nat × Bool)} {d : Option Tmp}
theorem Xo1{x:Operand}{v:Value}(hf:Fr a n e)(hx:ev e x=some v) : Ev P ⟨d,.move x,ty,pos,af,g⟩ a w v:=fun w' _=>by
 simp [execOp,hf.ev hx]
theorem X2{x:Operand}{v:Value}(hx:ev e x=some v) : EvW P ⟨d,.move x,ty,pos,af,g⟩ n e w v:=fun a hf=>Xo1 hf hx
theorem Xhz{x:Operand}{v:Value}(hf:Fr a n e)(hx:ev e x=some v) : Ev P ⟨d,.assign x,ty,pos,af,g⟩ a w v:=fun w' _=>by
 simp [execOp,hf.ev hx]
theorem X1s{x:Operand}{v:Value}(hx:ev e x=some v) : EvW P ⟨d,.assign x,ty,pos,af,g⟩ n e w v:=fun a hf=>Xhz hf hx
theorem Xgu{c x y:Operand}{b:Bool}{v:Value}(hf:Fr a n e)(hc:ev e c=some (.bool b))(hx:ev e (if b then x else y)=some v) : Ev P ⟨d,.pick c x y,ty,pos,af,g⟩ a w v:=fun w' _=>by
 have h1:=hf.ev hc;have h2:=hf.ev hx
 cases b<;>simp_all [execOp,asBool]
theorem Xj1{c x y:Operand}{b:Bool}{v:Value}(hf:Fr a n e)(hc:ev e c=some (.bool b))(hb:b=true)(hx:ev e x=some v) : Ev P ⟨d,.pick c x y,ty,pos,af,g⟩ a w v:=by
 subst hb
 exact Xgu hf hc hx
theorem Xb{c x y:Operand}{b:Bool}{v:Value}(hc:ev e c=some (.bool b))(hb:b=true)(hx:ev e x=some v) : EvW P ⟨d,.pick c x y,ty,pos,af,g⟩ n e w v:=fun a hf=>Xj1 hf hc hb hx
theorem Xld{c x y:Operand}{b:Bool}{v:Value}(hf:Fr a n e)(hc:ev e c=some (.bool b))(hb:b=false)(hx:ev e y=some v) : Ev P ⟨d,.pick c x y,ty,pos,af,g⟩ a w v:=by
 subst hb
 exact Xgu hf hc hx
theorem X9{c x y:Operand}{b:Bool}{v:Value}(hc:ev e c=some (.bool b))(hb:b=false)(hx:ev e y=some v) : EvW P ⟨d,.pick c x y,ty,pos,af,g⟩ n e w v:=fun a hf=>Xld hf hc hb hx
theorem Xd4{t:TypeId}{x:Operand}{p:Addr}{v:Value}{l:List Value}(hf:Fr a n e)(hx:ev e x=some (.pointer (some p)))(h1:OneT P t)(hc:At w p (v::l)) : Ev P ⟨d,.load t x,ty,pos,af,g⟩ a w v:=fun w' hw=>by
 simp [execOp,hf.ev hx,Instr.loadAt,Instr.sureAddr,X4s h1 (hc.below hw)]
theorem X0{t:TypeId}{x:Operand}{p:Addr}{v:Value}{l:List Value}(hx:ev e x=some (.pointer (some p)))(h1:OneT P t)(hc:At w p (v::l)) : EvW P ⟨d,.load t x,ty,pos,af,g⟩ n e w v:=fun a hf=>Xd4 hf hx h1 hc
theorem Xlk{t k:Nat}{x:Operand}{p:Addr}{l:List Value}(hf:Fr a n e)(hx:ev e x=some (.pointer (some p)))(hA:AggT P t k)(hc:At w p l)(hl:l.length=k) : Ev P ⟨d,.load t x,ty,pos,af,g⟩ a w (.agg l.toArray):=fun w' hw=>by
 simp [execOp,hf.ev hx,Instr.loadAt,Instr.sureAddr,X4t hA (hc.below hw) hl]
theorem X09{t k:Nat}{x:Operand}{p:Addr}{l:List Value}(hx:ev e x=some (.pointer (some p)))(hA:AggT P t k)(hc:At w p l)(hl:l.length=k) : EvW P ⟨d,.load t x,ty,pos,af,g⟩ n e w (.agg l.toArray):=fun a hf=>Xlk hf hx hA hc hl
theorem Xer{T f k:Nat}{x:Operand}{p:Addr}(hf:Fr a n e)(hx:ev e x=some (.pointer (some p)))(hF:FieldT P T f k) : Ev P ⟨d,.fieldAddr T x f,ty,pos,af,g⟩ a w (.pointer (some (p.add k))):=fun w' _=>by
 obtain ⟨fs,F,i,h1,h2,h3,h4,h5⟩:=hF;have h6:=run_sizeOf' ⟨i,h4,rfl⟩ w'
 simp [execOp,hf.ev hx,Instr.fieldAt,X0e h1,h2,Instr.sureAddr,fieldPlace,h6,h3]
 simp at h5
 simp [h5]
theorem Xrh{T f k:Nat}{x:Operand}{p:Addr}(hx:ev e x=some (.pointer (some p)))(hF:FieldT P T f k) : EvW P ⟨d,.fieldAddr T x f,ty,pos,af,g⟩ n e w (.pointer (some (p.add k))):=fun a hf=>Xer hf hx hF
theorem Xhp{T f k:Nat}{x:Operand}{b off m:Nat}(hf:Fr a n e)(hx:ev e x=some (.pointer (some ⟨b,off,none⟩)))(hF:FieldT P T f k)(hk:off+k=m) : Ev P ⟨d,.fieldAddr T x f,ty,pos,af,g⟩ a w (.pointer (some ⟨b,m,none⟩)):=by
 have:=Xer (P:=P) (w:=w) (d:=d) (ty:=ty) (pos:=pos) (af:=af) (g:=g) hf hx hF
 rwa [X1x,hk] at this
theorem Xo4{T f k:Nat}{x:Operand}{b off m:Nat}(hx:ev e x=some (.pointer (some ⟨b,off,none⟩)))(hF:FieldT P T f k)(hk:off+k=m) : EvW P ⟨d,.fieldAddr T x f,ty,pos,af,g⟩ n e w (.pointer (some ⟨b,m,none⟩)):=fun a hf=>Xhp hf hx hF hk
theorem Xf6{x:Operand}{k:Nat}{vs:List Value}{v:Value}(hf:Fr a n e)(hx:ev e x=some (.tuple vs.toArray))(hv:vs[k]? = some v) : Ev P ⟨d,.extract x k,ty,pos,af,g⟩ a w v:=fun w' _=>by
 simp [execOp,hf.ev hx,Instr.extract,hv]
theorem X8{x:Operand}{k:Nat}{vs:List Value}{v:Value}(hx:ev e x=some (.tuple vs.toArray))(hv:vs[k]? = some v) : EvW P ⟨d,.extract x k,ty,pos,af,g⟩ n e w v:=fun a hf=>Xf6 hf hx hv
theorem Xpp{t:TypeId}{x:Operand}{b:Bool}(hf:Fr a n e)(hx:ev e x=some (.bool b)) : Ev P ⟨d,.unOp .not t x,ty,pos,af,g⟩ a w (.bool (!b)):=fun w' _=>by
 simp [execOp,hf.ev hx,Op.unary]
theorem X16{t:TypeId}{x:Operand}{b:Bool}(hx:ev e x=some (.bool b)) : EvW P ⟨d,.unOp .not t x,ty,pos,af,g⟩ n e w (.bool (!b)):=fun a hf=>Xpp hf hx
theorem Xs7{t:TypeId}{x:Operand}{i:Int}(hf:Fr a n e)(hx:ev e x=some (.int .i64 i)) : Ev P ⟨d,.unOp .neg t x,ty,pos,af,g⟩ a w (.int .i64 (IntKind.i64.wrap (-i))):=fun w' _=>by
 simp [execOp,hf.ev hx,Op.unary,Op.intArith]
theorem Xiq{t:TypeId}{x:Operand}{i:Int}(hx:ev e x=some (.int .i64 i)) : EvW P ⟨d,.unOp .neg t x,ty,pos,af,g⟩ n e w (.int .i64 (IntKind.i64.wrap (-i))):=fun a hf=>Xs7 hf hx
section
variable {t t' : TypeId} {x y : Operand} {i j : Int}
theorem Xkw(hf:Fr a n e)(hx:ev e x=some (.int .i64 i))(hy:ev e y=some (.int .i64 j)) : Ev P ⟨d,.binOp .add t x y t',ty,pos,af,g⟩ a w (.int .i64 (IntKind.i64.wrap (i+j))):=fun w' _=>by
 simp [execOp,hf.ev hx,hf.ev hy,eqGuard,binOp,Op.intArith]
theorem X2k(hx:ev e x=some (.int .i64 i))(hy:ev e y=some (.int .i64 j)) : EvW P ⟨d,.binOp .add t x y t',ty,pos,af,g⟩ n e w (.int .i64 (IntKind.i64.wrap (i+j))):=fun a hf=>Xkw hf hx hy
theorem Xmk(hf:Fr a n e)(hx:ev e x=some (.int .i64 i))(hy:ev e y=some (.int .i64 j))(h1:-9223372036854775808≤i+j)(h2:i+j≤9223372036854775807) : Ev P ⟨d,.binOp .add t x y t',ty,pos,af,g⟩ a w (.int .i64 (i+j)):=by
 have h:=Xkw (P:=P) (w:=w) (d:=d) (ty:=ty) (pos:=pos) (af:=af) (g:=g) (t:=t) (t':=t') hf hx hy
 rwa [IntWalk.i64_in _ ⟨h1,h2⟩] at h
theorem Xp(hx:ev e x=some (.int .i64 i))(hy:ev e y=some (.int .i64 j))(h1:-9223372036854775808≤i+j)(h2:i+j≤9223372036854775807) : EvW P ⟨d,.binOp .add t x y t',ty,pos,af,g⟩ n e w (.int .i64 (i+j)):=fun a hf=>Xmk hf hx hy h1 h2
theorem Xo9(hf:Fr a n e)(hx:ev e x=some (.int .i64 i))(hy:ev e y=some (.int .i64 j))(h1:-9223372036854775808≤i-j)(h2:i-j≤9223372036854775807) : Ev P ⟨d,.binOp .sub t x y t',ty,pos,af,g⟩ a w (.int .i64 (i-j)):=by
 have h:Ev P ⟨d,.binOp .sub t x y t',ty,pos,af,g⟩ a w (.int .i64 (IntKind.i64.wrap (i-j))):=fun w' _=>by
  simp [execOp,hf.ev hx,hf.ev hy,eqGuard,binOp,Op.intArith]
 rwa [IntWalk.i64_in _ ⟨h1,h2⟩] at h
theorem X0s(hx:ev e x=some (.int .i64 i))(hy:ev e y=some (.int .i64 j))(h1:-9223372036854775808≤i-j)(h2:i-j≤9223372036854775807) : EvW P ⟨d,.binOp .sub t x y t',ty,pos,af,g⟩ n e w (.int .i64 (i-j)):=fun a hf=>Xo9 hf hx hy h1 h2
theorem Xq1(hf:Fr a n e)(hx:ev e x=some (.int .i64 i))(hy:ev e y=some (.int .i64 j)) : Ev P ⟨d,.binOp .sub t x y t',ty,pos,af,g⟩ a w (.int .i64 (IntKind.i64.wrap (i-j))):=fun w' _=>by
 simp [execOp,hf.ev hx,hf.ev hy,eqGuard,binOp,Op.intArith]
theorem X4p(hx:ev e x=some (.int .i64 i))(hy:ev e y=some (.int .i64 j)) : EvW P ⟨d,.binOp .sub t x y t',ty,pos,af,g⟩ n e w (.int .i64 (IntKind.i64.wrap (i-j))):=fun a hf=>Xq1 hf hx hy
theorem Xsq(hf:Fr a n e)(hx:ev e x=some (.int .i64 i))(hy:ev e y=some (.int .i64 j)) : Ev P ⟨d,.binOp .mul t x y t',ty,pos,af,g⟩ a w (.int .i64 (IntKind.i64.wrap (i*j))):=fun w' _=>by
 simp [execOp,hf.ev hx,hf.ev hy,eqGuard,binOp,Op.intArith]
theorem X2j(hx:ev e x=some (.int .i64 i))(hy:ev e y=some (.int .i64 j)) : EvW P ⟨d,.binOp .mul t x y t',ty,pos,af,g⟩ n e w (.int .i64 (IntKind.i64.wrap (i*j))):=fun a hf=>Xsq hf hx hy
theorem Xsz(hf:Fr a n e)(hx:ev e x=some (.int .i64 i))(hy:ev e y=some (.int .i64 j)) : Ev P ⟨d,.binOp .lss t x y t',ty,pos,af,g⟩ a w (.bool (decide (i<j))):=fun w' _=>by
 simp [execOp,hf.ev hx,hf.ev hy,eqGuard,binOp,Op.intCmp]
theorem X0l(hx:ev e x=some (.int .i64 i))(hy:ev e y=some (.int .i64 j)) : EvW P ⟨d,.binOp .lss t x y t',ty,pos,af,g⟩ n e w (.bool (decide (i<j))):=fun a hf=>Xsz hf hx hy
theorem Xrw(hf:Fr a n e)(hx:ev e x=some (.int .i64 i))(hy:ev e y=some (.int .i64 j)) : Ev P ⟨d,.binOp .leq t x y t',ty,pos,af,g⟩ a w (.bool (decide (i≤j))):=fun w' _=>by
 simp [execOp,hf.ev hx,hf.ev hy,eqGuard,binOp,Op.intCmp]
theorem X7h(hx:ev e x=some (.int .i64 i))(hy:ev e y=some (.int .i64 j)) : EvW P ⟨d,.binOp .leq t x y t',ty,pos,af,g⟩ n e w (.bool (decide (i≤j))):=fun a hf=>Xrw hf hx hy
theorem Xqk(hf:Fr a n e)(hx:ev e x=some (.int .i64 i))(hy:ev e y=some (.int .i64 j)) : Ev P ⟨d,.binOp .gtr t x y t',ty,pos,af,g⟩ a w (.bool (decide (j<i))):=fun w' _=>by
 simp [execOp,hf.ev hx,hf.ev hy,eqGuard,binOp,Op.intCmp]
theorem X3e(hx:ev e x=some (.int .i64 i))(hy:ev e y=some (.int .i64 j)) : EvW P ⟨d,.binOp .gtr t x y t',ty,pos,af,g⟩ n e w (.bool (decide (j<i))):=fun a hf=>Xqk hf hx hy
theorem Xsy(hf:Fr a n e)(hx:ev e x=some (.int .i64 i))(hy:ev e y=some (.int .i64 j)) : Ev P ⟨d,.binOp .geq t x y t',ty,pos,af,g⟩ a w (.bool (decide (j≤i))):=fun w' _=>by
 simp [execOp,hf.ev hx,hf.ev hy,eqGuard,binOp,Op.intCmp]
theorem Xde(hx:ev e x=some (.int .i64 i))(hy:ev e y=some (.int .i64 j)) : EvW P ⟨d,.binOp .geq t x y t',ty,pos,af,g⟩ n e w (.bool (decide (j≤i))):=fun a hf=>Xsy hf hx hy
theorem Xro(hf:Fr a n e)(hx:ev e x=some (.int .i64 i))(hy:ev e y=some (.int .i64 j)) : Ev P ⟨d,.binOp .eql t x y t',ty,pos,af,g⟩ a w (.bool (i==j)):=fun w' _=>by
 simp [execOp,hf.ev hx,hf.ev hy,eqGuard,binOp,Op.intCmp]
theorem X0u(hx:ev e x=some (.int .i64 i))(hy:ev e y=some (.int .i64 j)) : EvW P ⟨d,.binOp .eql t x y t',ty,pos,af,g⟩ n e w (.bool (i==j)):=fun a hf=>Xro hf hx hy
theorem Xpo(hf:Fr a n e)(hx:ev e x=some (.int .i64 i))(hy:ev e y=some (.int .i64 j)) : Ev P ⟨d,.binOp .neq t x y t',ty,pos,af,g⟩ a w (.bool (i != j)):=fun w' _=>by
 simp [execOp,hf.ev hx,hf.ev hy,eqGuard,binOp,Op.intCmp]
theorem X29(hx:ev e x=some (.int .i64 i))(hy:ev e y=some (.int .i64 j)) : EvW P ⟨d,.binOp .neq t x y t',ty,pos,af,g⟩ n e w (.bool (i != j)):=fun a hf=>Xpo hf hx hy
theorem Xpl(hf:Fr a n e)(hx:ev e x=some (.int .i64 i))(hy:ev e y=some (.int .i64 j)) : Ev P ⟨d,.binOp .and t x y t',ty,pos,af,g⟩ a w (.int .i64 (bits .and .i64 i j)):=fun w' _=>by
 simp [execOp,hf.ev hx,hf.ev hy,eqGuard,binOp,Op.intBits,bits]
theorem Xqr(hx:ev e x=some (.int .i64 i))(hy:ev e y=some (.int .i64 j)) : EvW P ⟨d,.binOp .and t x y t',ty,pos,af,g⟩ n e w (.int .i64 (bits .and .i64 i j)):=fun a hf=>Xpl hf hx hy
theorem Xrp(hf:Fr a n e)(hx:ev e x=some (.int .i64 i))(hy:ev e y=some (.int .i64 j)) : Ev P ⟨d,.binOp .xor t x y t',ty,pos,af,g⟩ a w (.int .i64 (bits .xor .i64 i j)):=fun w' _=>by
 simp [execOp,hf.ev hx,hf.ev hy,eqGuard,binOp,Op.intBits,bits]
theorem Xl6(hx:ev e x=some (.int .i64 i))(hy:ev e y=some (.int .i64 j)) : EvW P ⟨d,.binOp .xor t x y t',ty,pos,af,g⟩ n e w (.int .i64 (bits .xor .i64 i j)):=fun a hf=>Xrp hf hx hy
theorem X7g{b c:Bool}(ht:P.underlying t=some .bool)(k:Nat)(w:World) : (Op.equalIn (k+1) t (.bool b) (.bool c)).run P w=.ok (b==c) w:=by
 simp [Op.equalIn,X0e ht]
theorem Xo0{b c:Bool}(ht:P.underlying t=some .bool)(hf:Fr a n e)(hx:ev e x=some (.bool b))(hy:ev e y=some (.bool c)) : Ev P ⟨d,.binOp .neq t x y t',ty,pos,af,g⟩ a w (.bool (b != c)):=fun w' _=>by
 have h:=X7g (P:=P) (b:=b) (c:=c) ht 9999 w'
 simp [execOp,hf.ev hx,hf.ev hy,eqGuard,binOp,Op.equal,Op.maxDepth,h]
 cases b<;>cases c<;>rfl
theorem Xoy{b c:Bool}(ht:P.underlying t=some .bool)(hx:ev e x=some (.bool b))(hy:ev e y=some (.bool c)) : EvW P ⟨d,.binOp .neq t x y t',ty,pos,af,g⟩ n e w (.bool (b != c)):=fun a hf=>Xo0 ht hf hx hy
theorem Xqu{x:Operand}{T E:TypeId}{A:Option Addr}{m c:Nat}(hf:Fr a n e)(hx:ev e x=some (.slice A m c))(hT:SliceT P T E) : Ev P ⟨d,.call ⟨.builtin .len,#[x],#[T]⟩,ty,pos,af,g⟩ a w (.int .i64 (m:Int)):=fun w' _=>by
 have:=X0e (P:=P) hT w'
 simp [execOp,resolve,invoke,builtin,Builtin.len_,hf.ev hx,this,goInt]
theorem X0y{x:Operand}{T E:TypeId}{A:Option Addr}{m c:Nat}(hx:ev e x=some (.slice A m c))(hT:SliceT P T E) : EvW P ⟨d,.call ⟨.builtin .len,#[x],#[T]⟩,ty,pos,af,g⟩ n e w (.int .i64 (m:Int)):=fun a hf=>Xqu hf hx hT
theorem Xdq{k:FuncId}{cs:List Operand}{vs:List Value}(hf:Fr a n e)(hx:evs e cs=some vs) : Ev P ⟨d,.makeFunc (.func k) #[] cs.toArray,ty,pos,af,g⟩ a w (.func (.func k) #[] vs.toArray):=fun w' _=>by
 simp [execOp,Instr.makeFunc,hf.evs hx]
theorem X3n{k:FuncId}{cs:List Operand}{vs:List Value}(hx:evs e cs=some vs) : EvW P ⟨d,.makeFunc (.func k) #[] cs.toArray,ty,pos,af,g⟩ n e w (.func (.func k) #[] vs.toArray):=fun a hf=>Xdq hf hx
end
end
section
variable {P : Program} {a : Act} {w : World} {n : Nat} {e : Env} {ty : TypeId} {pos : String} {af : Array Edge} {g : Option (Nat × Bool)} {d : Option Tmp}
def IsNew(w:World)(T:TypeId)(zs:List Value)(v:Value)(w':World) : Prop:=
 ∃ b,v=.pointer (some ⟨b,0,none⟩)∧w.heap.size≤b∧Below w.heap.size w w'∧Blk w' b T zs
theorem X7m(w:World)(T:TypeId)(zs:List Value) : Blk (w.alloc (.cells zs.toArray T)) w.heap.size T zs:=heap_alloc_new w _
theorem X81(w:World)(T:TypeId)(zs:List Value) : IsNew w T zs (.pointer (some ⟨w.heap.size,0,none⟩)) (w.alloc (.cells zs.toArray T)):=
 ⟨_,rfl,Nat.le_refl _,(Below.refl _ _).alloc (Nat.le_refl _) _,X7m w T zs⟩
theorem X9r(T:TypeId)(v:Value)(w:World) : (newVar T v).run P w=.ok ⟨w.heap.size,0,none⟩ (w.alloc (.cells v.cells T)):=by
 simp [newVar,newRow,newObj,Sem.run]
theorem Xl0{T:TypeId}{z:Value}{zs:List Value}(hz:ZeroT P T z)(hzs:z.cells.toList=zs) : Ef P ⟨d,.alloc T,ty,pos,af,g⟩ a w (IsNew w T zs):=by
 subst hzs
 have h:(execOp a.eval ⟨d,.alloc T,ty,pos,af,g⟩).run P w=.ok (.value (.pointer (some ⟨w.heap.size,0,none⟩))) (w.alloc (.cells z.cells T)):=by
  simp [execOp,Instr.alloc,Xa3 hz,X9r]
 refine (Ef.of_run h).mono fun v w' ⟨e1,e2⟩=>?_
 subst e1;subst e2
 have:=X81 w T z.cells.toList
 simpa using this
theorem Xa{n:Nat}{e:List (Nat×Value)}{T:TypeId}{z:Value}{zs:List Value}(hz:ZeroT P T z)(hzs:z.cells.toList=zs) : EfW P ⟨d,.alloc T,ty,pos,af,g⟩ n e w (IsNew w T zs):=fun a _=>Xl0 hz hzs
theorem Xrs{T:TypeId}{x:Operand}{v:Value}{zs:List Value}(hf:Fr a n e)(hx:ev e x=some v)(hzs:v.cells.toList=zs) : Ef P ⟨d,.box T x,ty,pos,af,g⟩ a w (IsNew w T zs):=by
 subst hzs
 have h:(execOp a.eval ⟨d,.box T x,ty,pos,af,g⟩).run P w=.ok (.value (.pointer (some ⟨w.heap.size,0,none⟩))) (w.alloc (.cells v.cells T)):=by
  simp [execOp,Instr.box,X9r,hf.ev hx]
 refine (Ef.of_run h).mono fun v' w' ⟨e1,e2⟩=>?_
 subst e1;subst e2
 have:=X81 w T v.cells.toList
 simpa using this
theorem X0p{T:TypeId}{x:Operand}{v:Value}{zs:List Value}(hx:ev e x=some v)(hzs:v.cells.toList=zs) : EfW P ⟨d,.box T x,ty,pos,af,g⟩ n e w (IsNew w T zs):=fun a hf=>Xrs hf hx hzs
def splice(l:List Value)(k:Nat)(vs:List Value) : List Value:=l.take k++vs++l.drop (k+vs.length)
def one:Value→Bool
 | .agg _=>false
 | .tuple _=>false
 | _=>true
theorem Xbp(w:World)(b k:Nat)(v:Value) : Only b w (w.setCell ⟨b,k,none⟩ v):=
 ⟨rfl,rfl,rfl,by simp [World.setCell],fun i hi=>Below.heap_setCell _ _ _ _ hi⟩
theorem Xef{T:TypeId}{l:List Value}{b:Nat}(h:Blk w b T l)(k:Nat)(v:Value) : Blk (w.setCell ⟨b,k,none⟩ v) b T (l.set k v):=by
 unfold Blk at h ⊢
 simp [World.setCell,Array.getElem?_modify,h]
theorem X4w{b off:Nat}{T:TypeId} : ∀ (vs:List Value) (w:World) (l:List Value) (i:Nat),Blk w b T l→off+i+vs.length≤l.length→vs.all one=true→
  ∃ w',(storeCells ⟨b,off,none⟩ vs i).run P w=.ok () w'∧Only b w w'∧Blk w' b T (splice l (off+i) vs)
 | [],w,l,i,hb,_,_=>⟨w,by simp [storeCells],Only.refl _ _,by simpa [splice] using hb⟩
 | v::vs,w,l,i,hb,hl,h1=>by
  simp only [List.all_cons,Bool.and_eq_true,List.length_cons] at h1 hl
  have hc:w.cell? ⟨b,off+i,none⟩=some (l[off+i]'(by omega)):=by rw [hb.cell];exact List.getElem?_eq_getElem (by omega)
  have hfz:w.frozen? ⟨b,off+i,none⟩=false:=by
   have:=hb
   unfold Blk at this
   simp [World.frozen?,this]
  obtain ⟨w',hr,ho,hb'⟩:=X4w (off:=off) vs (w.setCell ⟨b,off+i,none⟩ v) (l.set (off+i) v) (i+1) (Xef hb _ _) (by rw [List.length_set];omega) h1.2
  refine ⟨w',?_,(Xbp w b _ v).trans ho,?_⟩
  ·have h0:(store (⟨b,off+i,none⟩ : Addr) v).run P w=.ok () (w.setCell ⟨b,off+i,none⟩ v):=by
    have h2:=h1.1
    unfold one at h2
    split at h2
    ·cases h2
    ·cases h2
    ·rename_i hx1 hx2
     cases v<;>simp_all [store,Sem.run]
   simp only [storeCells,X1x]
   simp [h0,hr]
  ·have:splice (l.set (off+i) v) (off+(i+1)) vs=splice l (off+i) (v::vs):=by
    unfold splice
    have e1:off+(i+1)=off+i+1:=by omega
    rw [e1,List.take_succ_eq_append_getElem (by rw [List.length_set];omega),List.take_set_of_le (by omega),List.getElem_set_self,List.drop_set_of_lt (by omega)]
    simp only [List.length_cons,List.append_assoc,List.cons_append,List.nil_append]
    rw [show off+i+1+vs.length=off+i+(vs.length+1) from by omega]
   rw [this] at hb'
   exact hb'
def Stored(w:World)(b:Nat)(T:TypeId)(l:List Value)(_:Value)(w':World) : Prop:=Only b w w'∧Blk w' b T l
theorem X9v{t T:TypeId}{x y:Operand}{b off k:Nat}{v:Value}{l l' vs:List Value}(hf:Fr a n e)(hx:ev e x=some (.pointer (some ⟨b,off,none⟩)))(hy:ev e y=some v)
  (hs:SizeT P t k) (hb:Blk w b T l) (hvs:v.cells.toList=vs) (hk:Nat.beq vs.length k=true) (h1:vs.all one=true) (hl:Nat.ble (off+k) l.length=true) (hl':splice l off vs=l') :
  Ef P ⟨d,.store t x y,ty,pos,af,g⟩ a w (Stored w b T l'):=by
 subst hl'
 have hk':vs.length=k:=Nat.eq_of_beq_eq_true hk
 have hll:off+k≤l.length:=Nat.le_of_ble_eq_true hl
 obtain ⟨w',hr,ho,hb'⟩:=X4w (P:=P) (b:=b) (off:=off) (T:=T) vs w l 0 hb (by omega) h1
 refine (Ef.of_skip (w':=w') ?_).mono fun v w1 ⟨_,e2⟩=>by subst e2;exact ⟨ho,by simpa using hb'⟩
 have hc:v.cells.size=k:=by rw [← hk',← hvs];simp
 simp [execOp,Instr.storeAt,Instr.sureAddr,hf.ev hx,hf.ev hy,storeVar,run_sizeOf' hs,hc,hvs,hr]
theorem X52{t T:TypeId}{x y:Operand}{b off k:Nat}{v:Value}{l l' vs:List Value}(hx:ev e x=some (.pointer (some ⟨b,off,none⟩)))(hy:ev e y=some v)(hs:SizeT P t k)(hb:Blk w b T l)(hvs:v.cells.toList=vs)(hk:Nat.beq vs.length k=true)(h1:vs.all one=true)(hl:Nat.ble (off+k) l.length=true)(hl':splice l off vs=l') : EfW P ⟨d,.store t x y,ty,pos,af,g⟩ n e w (Stored w b T l'):=fun a hf=>X9v hf hx hy hs hb hvs hk h1 hl hl'
def Ret(P:Program)(f:FuncId)(args:List Value)(w:World)(R:Value→World→Prop) : Prop:=Calls P f args.toArray w fun e w'=>∃ v,e=.returned v∧R v w'
theorem Ret.mono{f:FuncId}{args:List Value}{R R':Value→World→Prop}(h:Ret P f args w R)(hr:∀ v w',R v w'→R' v w') : Ret P f args w R':=
 Calls.mono h fun _ _ ⟨v,he,hR⟩=>⟨v,he,hr _ _ hR⟩
theorem X6o{f:FuncId}(hF:FuncF P f)(args:Array Value)(w:World) : (callFunc f args).run P w=.ok (.enter f args) w:=by
 obtain ⟨fn,h1,h2,h3⟩:=hF
 have h2' : ¬ fn.name = "runtime.NumGoroutine" := by simpa using h2
 have h3':¬ fn.body=none:=by intro hb;rw [hb] at h3;cases h3
 simp [callFunc,h1,h2',h3']
theorem Xn9{f:FuncId}{xs:List Operand}{vs:List Value}{ts:Array TypeId}{R:Value→World→Prop}(hf:Fr a n e)(hx:evs e xs=some vs)(hF:FuncF P f)(h:Ret P f vs w R) :
  Ef P ⟨d,.call ⟨.value (.func f),xs.toArray,ts⟩,ty,pos,af,g⟩ a w R:=by
 have hm:=hf.evs hx
 unfold Ef
 have hr:(execOp a.eval ⟨d,.call ⟨.value (.func f),xs.toArray,ts⟩,ty,pos,af,g⟩).run P w=.ok (.enter f vs.toArray) w:=by
  simp [execOp,resolve,Act.eval,Deferred.ofValue,invoke,hm,X6o hF]
 rw [hr]
 exact h
theorem X1z{f:FuncId}{xs:List Operand}{vs:List Value}{ts:Array TypeId}{R:Value→World→Prop}(hx:evs e xs=some vs)(hF:FuncF P f)(h:Ret P f vs w R) : EfW P ⟨d,.call ⟨.value (.func f),xs.toArray,ts⟩,ty,pos,af,g⟩ n e w R:=fun a hf=>Xn9 hf hx hF h
theorem Xky{f:FuncId}{x:Operand}{xs:List Operand}{vs cs:List Value}{ts:Array TypeId}{R:Value→World→Prop}(hf:Fr a n e)(hv:ev e x=some (.func (.func f) #[] cs.toArray))(hx:evs e xs=some vs)(hF:FuncF P f)(h:Ret P f (vs++cs) w R) :
  Ef P ⟨d,.call ⟨.value x,xs.toArray,ts⟩,ty,pos,af,g⟩ a w R:=by
 have hm:=hf.evs hx
 have hv':=hf.ev hv
 unfold Ef
 have hr:(execOp a.eval ⟨d,.call ⟨.value x,xs.toArray,ts⟩,ty,pos,af,g⟩).run P w=.ok (.enter f (vs++cs).toArray) w:=by
  simp [execOp,resolve,hv',Deferred.ofValue,invoke,hm,X6o hF]
 rw [hr]
 exact h
theorem X37{f:FuncId}{x:Operand}{xs:List Operand}{vs cs:List Value}{ts:Array TypeId}{R:Value→World→Prop}(hv:ev e x=some (.func (.func f) #[] cs.toArray))(hx:evs e xs=some vs)(hF:FuncF P f)(h:Ret P f (vs++cs) w R) : EfW P ⟨d,.call ⟨.value x,xs.toArray,ts⟩,ty,pos,af,g⟩ n e w R:=fun a hf=>Xky hf hv hx hF h
end
section
variable {α : Type}
def Rd(w:World)(B:Nat)(E:TypeId)(enc:α→List Value)(A:Option Addr)(l:List α) : Prop:=
 l≠[]→∃ b off cs fz,A=some ⟨b,off,none⟩∧b<B∧w.heap[b]? = some (.cells cs E fz)∧∀ j v,(l.flatMap enc)[j]? = some v→cs[off+j]? = some v
theorem Rd.nil(w:World)(B:Nat)(E:TypeId)(enc:α→List Value)(A:Option Addr) : Rd w B E enc A []:=fun h=>absurd rfl h
theorem Rd.chg{w w':World}{B:Nat}{E:TypeId}{enc:α→List Value}{A:Option Addr}{l:List α}(h:Rd w B E enc A l)(hk:∀ b cs fz,b<B→w.heap[b]? = some (.cells cs E fz)→w'.heap[b]? = w.heap[b]?) : Rd w' B E enc A l:=fun hl=>by
 obtain ⟨b,off,cs,fz,h1,h2,h3,h4⟩:=h hl;exact ⟨b,off,cs,fz,h1,h2,(hk b cs fz h2 h3).trans h3,h4⟩
theorem Rd.more{w:World}{B B':Nat}{E:TypeId}{enc:α→List Value}{A:Option Addr}{l:List α}(h:Rd w B E enc A l)(hB:B≤B') : Rd w B' E enc A l:=fun hl=>by
 obtain ⟨b,off,cs,fz,h1,h2,h3,h4⟩:=h hl;exact ⟨b,off,cs,fz,h1,by omega,h3,h4⟩
theorem Rd.below{w w':World}{B:Nat}{E:TypeId}{enc:α→List Value}{A:Option Addr}{l:List α}(h:Rd w B E enc A l)(hb:Below w.heap.size w w') : Rd w' B E enc A l:=
 h.chg fun b _ _ _ hh=>hb.block b (by
  rcases Nat.lt_or_ge b w.heap.size with h'|h'
  ·exact h'
  ·rw [Array.getElem?_eq_none h'] at hh;cases hh)
theorem Rd.below'{w w':World}{B:Nat}{E:TypeId}{enc:α→List Value}{A:Option Addr}{l:List α}(h:Rd w B E enc A l)(hb:Below B w w') : Rd w' B E enc A l:=
 h.chg fun b _ _ hB _=>hb.block b hB
theorem Rd.only{w w':World}{B b:Nat}{E:TypeId}{enc:α→List Value}{A:Option Addr}{l:List α}(h:Rd w B E enc A l)(ho:Only b w w')(hB:B≤b) : Rd w' B E enc A l:=
 h.chg fun k _ _ hk _=>ho.block k (by omega)
theorem Rd.onlyT{w w':World}{B b:Nat}{E T:TypeId}{lc:List Value}{enc:α→List Value}{A:Option Addr}{l:List α}(h:Rd w B E enc A l)(ho:Only b w w')(hb:Blk w b T lc)(hT:Nat.beq E T=false) : Rd w' B E enc A l:=
 h.chg fun k cs fz _ hh=>ho.block k (by
  rintro rfl
  unfold Blk at hb
  rw [hh] at hb
  injection hb with hb
  injection hb with _ e _
  subst e
  simp at hT)
theorem Rd.drew{w:World}{B:Nat}{E:TypeId}{enc:α→List Value}{A:Option Addr}{l:List α}(h:Rd w B E enc A l) : Rd w.drew B E enc A l:=h
theorem X63{enc:α→List Value}{sz:Nat}(hsz:∀ x,(enc x).length=sz) : ∀ (l:List α) (k:Nat) (x:α),l[k]? = some x→∀ j v,(enc x)[j]? = some v→(l.flatMap enc)[k*sz+j]? = some v
 | [],k,x,h=>by simp at h
 | y::l,0,x,h=>by
  intro j v hj
  obtain rfl:y=x:=by simpa using h
  simp only [List.flatMap_cons,Nat.zero_mul,Nat.zero_add]
  rw [List.getElem?_append_left (List.getElem?_eq_some_iff.1 hj).1]
  exact hj
 | y::l,k+1,x,h=>by
  intro j v hj
  simp only [List.flatMap_cons]
  have h1:(k+1)*sz+j=sz+(k*sz+j):=by rw [Nat.add_mul];omega
  rw [h1,List.getElem?_append_right (by rw [hsz];omega),hsz,Nat.add_sub_cancel_left]
  exact X63 hsz l k x (by simpa using h) j v hj
theorem X04{enc:α→List Value}{sz:Nat}(hsz:∀ x,(enc x).length=sz)(l:List α) : (l.flatMap enc).length=l.length*sz:=by
 induction l with
 | nil=>simp
 | cons x l ih=>simp only [List.flatMap_cons,List.length_append,hsz,ih,List.length_cons,Nat.add_mul];omega
theorem Rd.at{w:World}{B:Nat}{E:TypeId}{enc:α→List Value}{A:Option Addr}{l:List α}{sz:Nat}(hsz:∀ x,(enc x).length=sz)(h:Rd w B E enc A l){k:Nat}{x:α}(hk:l[k]? = some x) :
  ∃ p,A=some p∧At w (p.add (k*sz)) (enc x):=by
 have hl:l≠[]:=by rintro rfl;simp at hk
 obtain ⟨b,off,cs,fz,rfl,h2,h3,h4⟩:=h hl
 refine ⟨_,rfl,fun j v hj=>?_⟩
 rw [X1x,X1x]
 have:=h4 _ _ (X63 hsz l k x hk j v hj)
 simp only [World.cell?,h3]
 rw [Nat.add_assoc]
 simpa using this
theorem Rd.of_blk{w:World}{b:Nat}{E:TypeId}{enc:α→List Value}{l:List α}{cs:List Value}(h:Blk w b E cs)(hcs:l.flatMap enc=cs)(B:Nat)(hB:b<B) : Rd w B E enc (some ⟨b,0,none⟩) l:=fun _=>by
 subst hcs
 exact ⟨b,0,_,_,rfl,hB,h,fun j v hj=>by simpa using hj⟩
def Own(w:World)(B0:Nat)(E:TypeId)(sz:Nat)(enc:α→List Value)(A:Option Addr)(c:Nat)(l:List α) : Prop:=w.ownsRow B0 E sz (.slice A l.length c) l.length (l.flatMap enc)
theorem Own.rd{w:World}{B0:Nat}{E:TypeId}{sz:Nat}{enc:α→List Value}{A:Option Addr}{c:Nat}{l:List α}(h:Own w B0 E sz enc A c l) : Rd w w.heap.size E enc A l:=fun hl=>by
 rcases h.2 with ⟨h1,h2⟩|⟨g,cap,cur,h1,h2,h3,h4,h5,h6,h7⟩
 ·exact absurd (List.eq_nil_of_length_eq_zero h2) hl
 ·injection h1 with h1
  refine ⟨g,0,cur,_,h1,(Array.getElem?_eq_some_iff.1 h3).1,h3,fun j v hj=>?_⟩
  rw [← h7,List.getElem?_take] at hj
  split at hj
  ·simpa using hj
  ·cases hj
theorem Own.nil(w:World)(B0:Nat)(E:TypeId)(sz:Nat)(enc:α→List Value) : Own w B0 E sz enc none 0 []:=⟨by simp,.inl ⟨rfl,rfl⟩⟩
theorem Own.empty{w:World}{B0 b:Nat}{E:TypeId}{sz:Nat}{enc:α→List Value}(h:Blk w b E [])(hb:B0≤b) : Own w B0 E sz enc (some ⟨b,0,none⟩) 0 ([] : List α):=
 ⟨by simp,.inr ⟨b,0,#[],rfl,hb,h,Nat.le_refl _,by simp [maxLen],by simp,by simp⟩⟩
theorem Own.of_blk{w:World}{B0 b:Nat}{E:TypeId}{sz:Nat}{enc:α→List Value}{l:List α}{cs:List Value}(h:Blk w b E cs)(hb:B0≤b)(hcs:l.flatMap enc=cs)(hsz:∀ x,(enc x).length=sz)(hm:l.length≤maxLen) : Own w B0 E sz enc (some ⟨b,0,none⟩) l.length l:=by
 subst hcs
 have hl:=X04 hsz l;exact ⟨hl,.inr ⟨b,l.length,_,rfl,hb,h,Nat.le_refl _,hm,by simpa using hl,by simp only [List.toList_toArray];rw [← hl];exact List.take_length⟩⟩
theorem Own.below{w w':World}{B0:Nat}{E:TypeId}{sz:Nat}{enc:α→List Value}{A:Option Addr}{c:Nat}{l:List α}(h:Own w B0 E sz enc A c l)(hb:Below w.heap.size w w') : Own w' B0 E sz enc A c l:=by
 refine ⟨h.1,?_⟩
 rcases h.2 with h1|⟨g,cap,cur,h1,h2,h3,h4⟩
 ·exact .inl h1
 ·exact .inr ⟨g,cap,cur,h1,h2,(hb.block g (Array.getElem?_eq_some_iff.1 h3).1).trans h3,h4⟩
theorem Own.onlyT{w w':World}{B0 b:Nat}{E T:TypeId}{lc:List Value}{sz:Nat}{enc:α→List Value}{A:Option Addr}{c:Nat}{l:List α}(h:Own w B0 E sz enc A c l)(ho:Only b w w')(hb:Blk w b T lc)(hT:Nat.beq E T=false) : Own w' B0 E sz enc A c l:=by
 refine ⟨h.1,?_⟩
 rcases h.2 with h1|⟨g,cap,cur,h1,h2,h3,h4⟩
 ·exact .inl h1
 ·refine .inr ⟨g,cap,cur,h1,h2,(ho.block g ?_).trans h3,h4⟩
  rintro rfl
  unfold Blk at hb
  rw [h3] at hb
  injection hb with hb
  injection hb with _ e _
  subst e
  simp at hT
theorem Own.drew{w:World}{B0:Nat}{E:TypeId}{sz:Nat}{enc:α→List Value}{A:Option Addr}{c:Nat}{l:List α}(h:Own w B0 E sz enc A c l) : Own w.drew B0 E sz enc A c l:=h
theorem Own.block{w:World}{B0:Nat}{E:TypeId}{sz:Nat}{enc:α→List Value}{A:Option Addr}{c:Nat}{l:List α}(h:Own w B0 E sz enc A c l){k:Nat}(hk:(Value.slice A l.length c).ownBlock=some k) : B0≤k∧k<w.heap.size∧∃ cs fz,w.heap[k]? = some (.cells cs E fz):=by
 rcases h.2 with ⟨h1,_⟩|⟨g,cap,cur,h1,h2,h3,_⟩
 ·rw [h1] at hk;simp [Value.ownBlock] at hk
 ·rw [h1] at hk
  simp [Value.ownBlock] at hk
  subst hk
  exact ⟨h2,(Array.getElem?_eq_some_iff.1 h3).1,_,_,h3⟩
def Away(A:Option Addr)(b:Nat) : Prop:=∀ p,A=some p→p.block≠b
def AwayR(l:List α)(A:Option Addr)(b:Nat) : Prop:=l≠[]→Away A b
theorem Away.no(b:Nat) : Away none b:=fun p h=>by cases h
theorem Away.ne{g off b:Nat}(h:b≠g) : Away (some ⟨g,off,none⟩) b:=fun p hp=>by injection hp with hp;subst hp;exact Ne.symm h
theorem Rd.away{w:World}{B b:Nat}{E:TypeId}{enc:α→List Value}{A:Option Addr}{l:List α}(h:Rd w B E enc A l)(hl:w.heap.size≤b) : AwayR l A b:=fun hne p hp=>by
 obtain ⟨g,off,cs,fz,h1,h2,h3,h4⟩:=h hne
 rw [hp] at h1
 injection h1 with h1
 subst h1
 have:=(Array.getElem?_eq_some_iff.1 h3).1
 intro e
 simp only at e
 omega
theorem Own.away{w:World}{B0 b:Nat}{E:TypeId}{sz:Nat}{enc:α→List Value}{A:Option Addr}{c:Nat}{l:List α}(h:Own w B0 E sz enc A c l)(hl:w.heap.size≤b) : Away A b:=fun p hp=>by
 rcases h.2 with ⟨h1,_⟩|⟨g,cap,cur,h1,h2,h3,_⟩
 ·injection h1 with h1;rw [h1] at hp;cases hp
 ·injection h1 with h1
  rw [h1] at hp
  injection hp with hp
  subst hp
  have:=(Array.getElem?_eq_some_iff.1 h3).1
  intro e
  simp only at e
  omega
theorem Own.awayNew{w:World}{B0 b:Nat}{E:TypeId}{sz:Nat}{enc:α→List Value}{A:Option Addr}{c:Nat}{l:List α}(h:Own w B0 E sz enc A c l)(hl:b<B0) : Away A b:=fun p hp=>by
 rcases h.2 with ⟨h1,_⟩|⟨g,cap,cur,h1,h2,h3,_⟩
 ·injection h1 with h1;rw [h1] at hp;cases hp
 ·injection h1 with h1
  rw [h1] at hp
  injection hp with hp
  subst hp
  intro e
  simp only at e
  omega
theorem Away.r{l:List α}{A:Option Addr}{b:Nat}(h:Away A b) : AwayR l A b:=fun _=>h
theorem Rd.onlyA{w w':World}{B b:Nat}{E:TypeId}{enc:α→List Value}{A:Option Addr}{l:List α}(h:Rd w B E enc A l)(ho:Only b w w')(ha:AwayR l A b) : Rd w' B E enc A l:=fun hne=>by
 obtain ⟨g,off,cs,fz,h1,h2,h3,h4⟩:=h hne;exact ⟨g,off,cs,fz,h1,h2,(ho.block g (ha hne _ h1)).trans h3,h4⟩
theorem Own.onlyA{w w':World}{B0 b:Nat}{E:TypeId}{sz:Nat}{enc:α→List Value}{A:Option Addr}{c:Nat}{l:List α}(h:Own w B0 E sz enc A c l)(ho:Only b w w')(ha:Away A b) : Own w' B0 E sz enc A c l:=by
 refine ⟨h.1,?_⟩
 rcases h.2 with h1|⟨g,cap,cur,h1,h2,h3,h4⟩
 ·exact .inl h1
 ·injection h1 with h1 h1' h1''
  exact .inr ⟨g,cap,cur,by rw [h1,h1''],h2,(ho.block g (ha _ h1)).trans h3,h4⟩
def Appended(w:World)(B0:Nat)(E:TypeId)(sz:Nat)(enc:α→List Value)(A:Option Addr)(c:Nat)(l l2:List α)(v:Value)(w':World) : Prop:=
 ∃ A' c',v=.slice A' (l++l2).length c'∧Own w' B0 E sz enc A' c' (l++l2)∧w.grownBy w' (Value.slice A l.length c).ownBlock∧∀ b,b<w.heap.size→Away A b→Away A' b
theorem Blk.appT{w w':World}{b:Nat}{T:TypeId}{lc:List Value}{B0:Nat}{E:TypeId}{sz:Nat}{enc:α→List Value}{A:Option Addr}{c:Nat}{l:List α}(h:Blk w b T lc)(ho:Own w B0 E sz enc A c l)(hg:w.grownBy w' (Value.slice A l.length c).ownBlock)(hT:Nat.beq E T=false) : Blk w' b T lc:=by
 refine (hg.block b h.lt fun hk=>?_).trans h
 obtain ⟨_,_,cs,fz,h3⟩:=ho.block hk.symm
 unfold Blk at h
 rw [h3] at h
 injection h with h
 injection h with _ e _
 subst e
 simp at hT
theorem Blk.appB{w w':World}{b:Nat}{T:TypeId}{lc:List Value}{B0:Nat}{E:TypeId}{sz:Nat}{enc:α→List Value}{A:Option Addr}{c:Nat}{l:List α}(h:Blk w b T lc)(ho:Own w B0 E sz enc A c l)(hg:w.grownBy w' (Value.slice A l.length c).ownBlock)(hb:b<B0) : Blk w' b T lc:=
 (hg.block b h.lt fun hk=>by have:=(ho.block hk.symm).1;omega).trans h
theorem Blk.appA{w w':World}{b:Nat}{T:TypeId}{lc:List Value}{A:Option Addr}{n c:Nat}(h:Blk w b T lc)(hg:w.grownBy w' (Value.slice A n c).ownBlock)(ha:Away A b) : Blk w' b T lc:=by
 refine (hg.block b h.lt fun hk=>?_).trans h
 cases A with
 | none=>simp [Value.ownBlock] at hk
 | some q=>
  simp only [Value.ownBlock,Option.some.injEq] at hk
  exact ha q rfl hk.symm
theorem Rd.appT{β:Type}{w w':World}{B:Nat}{E':TypeId}{enc':β→List Value}{A':Option Addr}{l':List β}{B0:Nat}{E:TypeId}{sz:Nat}{enc:α→List Value}{A:Option Addr}{c:Nat}{l:List α}(h:Rd w B E' enc' A' l')(ho:Own w B0 E sz enc A c l)(hg:w.grownBy w' (Value.slice A l.length c).ownBlock)(hT:Nat.beq E E'=false) : Rd w' B E' enc' A' l':=
 h.chg fun k cs fz _ hh=>hg.block k (Array.getElem?_eq_some_iff.1 hh).1 fun hk=>by
  obtain ⟨_,_,cs',fz',h3⟩:=ho.block hk.symm
  rw [h3] at hh
  injection hh with hh
  injection hh with _ e _
  subst e
  simp at hT
theorem Rd.appB{β:Type}{w w':World}{B:Nat}{E':TypeId}{enc':β→List Value}{A':Option Addr}{l':List β}{B0:Nat}{E:TypeId}{sz:Nat}{enc:α→List Value}{A:Option Addr}{c:Nat}{l:List α}(h:Rd w B E' enc' A' l')(ho:Own w B0 E sz enc A c l)(hg:w.grownBy w' (Value.slice A l.length c).ownBlock)(hB:B≤B0) : Rd w' B E' enc' A' l':=
 h.chg fun k cs fz hk hh=>hg.block k (Array.getElem?_eq_some_iff.1 hh).1 fun hk'=>by have:=(ho.block hk'.symm).1;omega
theorem Own.appT{β:Type}{w w':World}{B1:Nat}{E':TypeId}{sz':Nat}{enc':β→List Value}{A':Option Addr}{c':Nat}{l':List β}{B0:Nat}{E:TypeId}{sz:Nat}{enc:α→List Value}{A:Option Addr}{c:Nat}{l:List α}(h:Own w B1 E' sz' enc' A' c' l')(ho:Own w B0 E sz enc A c l)(hg:w.grownBy w' (Value.slice A l.length c).ownBlock)(hT:Nat.beq E E'=false) : Own w' B1 E' sz' enc' A' c' l':=by
 refine ⟨h.1,?_⟩
 rcases h.2 with h1|⟨g,cap,cur,h1,h2,h3,h4⟩
 ·exact .inl h1
 ·refine .inr ⟨g,cap,cur,h1,h2,(hg.block g (Array.getElem?_eq_some_iff.1 h3).1 fun hk=>?_).trans h3,h4⟩
  obtain ⟨_,_,cs',fz',h5⟩:=ho.block hk.symm
  rw [h5] at h3
  injection h3 with h3
  injection h3 with _ e _
  subst e
  simp at hT
theorem Below.app{w0 w w':World}{B B0:Nat}{E:TypeId}{sz:Nat}{enc:α→List Value}{A:Option Addr}{c:Nat}{l:List α}(h:Below B w0 w)(ho:Own w B0 E sz enc A c l)(hg:w.grownBy w' (Value.slice A l.length c).ownBlock)(hB:B≤B0)(hs:B≤w.heap.size) : Below B w0 w':=
 h.grown hg hs fun k hk=>by have:=(ho.block hk).1;omega
def InfoT(P:Program)(E:TypeId)(sz bytes:Nat) : Prop:=∃ i z,P.info? E=some i∧i.zero=some z∧i.size=sz∧i.bytes=bytes∧z.cells.size=sz∧0<sz
section
variable {P : Program} {a : Act} {w : World} {n : Nat} {e : Env} {ty : TypeId} {pos : String} {af : Array Edge} {g : Option (Nat × Bool)} {d : Option Tmp}
theorem Xhx{T E:TypeId}{sz bytes B B0:Nat}{x y:Operand}{enc:α→List Value}{A A2:Option Addr}{c c2:Nat}{l l2:List α}(hf:Fr a n e)(hx:ev e x=some (.slice A l.length c))(hy:ev e y=some (.slice A2 l2.length c2))
  (hT:SliceT P T E) (hi:InfoT P E sz bytes) (hsz:∀ x,(enc x).length=sz) (hone:∀ x,(enc x).all one=true) (ho:Own w B0 E sz enc A c l) (hr:Rd w B E enc A2 l2) (h63:l.length+l2.length≤maxLen) (hbytes:(l.length+l2.length)*bytes≤140737488355328) (hB0:B0≤w.heap.size) :
  Ef P ⟨d,.call ⟨.builtin .append,#[x,y],#[T,T]⟩,ty,pos,af,g⟩ a w (Appended w B0 E sz enc A c l l2):=by
 obtain ⟨i,z,hi1,hi2,hi3,hi4,hi5,hi6⟩:=hi
 by_cases hl2:l2=[]
 ·subst hl2
  have hrun:(Builtin.append_ #[T,T] ty #[.slice A l.length c,.slice A2 0 c2]).run P w=.ok (.slice A l.length c) w:=by
   rcases ho.2 with ⟨h1,h2⟩|⟨gg,cap,cur,h1,h2,h3,h4,h5,h6,h7⟩
   ·injection h1 with h1 h1' h1''
    subst h1
    cases A2<;>simp [Builtin.append_,X0e hT,sizeOf,typeInfo,hi1,Builtin.lenOf,Builtin.firstCells,loadCells,loadCellsFrom,h1',h1'']
   ·injection h1 with h1 _ h1''
    subst h1;subst h1''
    cases A2<;>simp [Builtin.append_,X0e hT,sizeOf,typeInfo,hi1,Builtin.lenOf,Builtin.firstCells,loadCells,loadCellsFrom,h4,storeCells]
  refine (Ef.of_run (v:=.slice A l.length c) (w':=w) ?_).mono fun v w' ⟨e1,e2⟩=>?_
  ·simp only [List.length_nil] at hy
   simp [execOp,resolve,invoke,builtin,hf.ev hx,hf.ev hy,hrun]
  ·subst e1;subst e2
   exact ⟨A,c,by simp,by simpa using ho,World.grownBy.refl w' _,fun _ _ h=>h⟩
 ·obtain ⟨b,off,cs,fz,rfl,h2,h3,h4⟩:=hr hl2;obtain ⟨v',w',hrun,hown,hg,_,hat⟩:=run_append_own_at (P:=P) w B0 T ty E i z sz bytes hT hi1 hi2 hi3 hi4 hi5 hi6 (.slice A l.length c) l.length (l.flatMap enc) ho ⟨b,off,none⟩ l2.length c2 (l2.flatMap enc) (X04 hsz l2)
   (fun j u hu=>by
    have:=h4 j u hu
    rw [X1x]
    simp [World.cell?,h3,this])
   (fun u hu=>by
    obtain ⟨x,_,hx⟩:=List.mem_flatMap.1 hu
    have:=List.all_eq_true.1 (hone x) u hx
    cases u<;>simp_all [Value.oneCell',one]) h63 hbytes hB0
  refine (Ef.of_run (v:=v') (w':=w') ?_).mono fun v w1 ⟨e1,e2⟩=>?_
  ·simp [execOp,resolve,invoke,builtin,hf.ev hx,hf.ev hy,hrun]
  ·subst e1;subst e2
   have hv:∃ A' c',v=.slice A' (l++l2).length c':=by
    rcases hown.2 with ⟨h1,h2⟩|⟨gg,cap,cur,h1,_⟩
    ·exact ⟨none,0,by rw [h1,List.length_append,h2]⟩
    ·exact ⟨_,_,by rw [h1,List.length_append]⟩
   obtain ⟨A',c',rfl⟩:=hv
   refine ⟨A',c',rfl,?_,hg,fun b hb ha p hp=>?_⟩
   rotate_left
   ·subst hp
    rcases hat with hat|hat
    ·cases A with
     | none=>simp [Value.ownBlock] at hat
     | some q=>
      simp only [Value.ownBlock,Option.some.injEq] at hat
      rw [hat]
      exact ha q rfl
    ·simp only [Value.ownBlock,Option.some.injEq] at hat
     rw [hat]
     omega
   unfold Own
   rw [List.length_append,List.flatMap_append]
   simpa [List.length_append] using hown
theorem X1h{T E:TypeId}{sz bytes B B0:Nat}{x y:Operand}{enc:α→List Value}{A A2:Option Addr}{c c2:Nat}{l l2:List α}(hx:ev e x=some (.slice A l.length c))(hy:ev e y=some (.slice A2 l2.length c2))(hT:SliceT P T E)(hi:InfoT P E sz bytes)(hsz:∀ x,(enc x).length=sz)(hone:∀ x,(enc x).all one=true)(ho:Own w B0 E sz enc A c l)(hr:Rd w B E enc A2 l2)(h63:l.length+l2.length≤maxLen)(hbytes:(l.length+l2.length)*bytes≤140737488355328)(hB0:B0≤w.heap.size) : EfW P ⟨d,.call ⟨.builtin .append,#[x,y],#[T,T]⟩,ty,pos,af,g⟩ n e w (Appended w B0 E sz enc A c l l2):=fun a hf=>Xhx hf hx hy hT hi hsz hone ho hr h63 hbytes hB0
theorem X54{T E:TypeId}{sz:Nat}{x y:Operand}{p:Addr}{c:Nat}{k:Nat}{i:Int}{m:Nat}(hf:Fr a n e)(hx:ev e x=some (.slice (some p) m c))(hy:ev e y=some (.int .i64 i))(hT:SliceT P T E)(hs:SizeT P E sz)
  (hi:i=(k:Int)) (hk:k<m) : Ev P ⟨d,.indexAddr T x y,ty,pos,af,g⟩ a w (.pointer (some (p.add (k*sz)))):=fun w' _=>by
 subst hi
 have h1:=X0e (P:=P) hT w';have h2:=run_sizeOf' hs w'
 have h3:((k:Int)<(m:Int))=True:=by simp;omega
 simp [execOp,Instr.indexAt,asIntOf,hf.ev hx,hf.ev hy,h1,h2,hk]
end
end
section
variable {P : Program} {Q : Exit → Act → World → Prop} {a : Act} {w : World} {n : Nat} {e : Env}
theorem Xe{c:Operand}{x y:Code}{b:Bool}(hf:Fr a n e)(hc:ev e c=some (.bool b))(ht:b=true→x.wp P Q a w)(he:b=false→y.wp P Q a w) : (Code.cond c x y).wp P Q a w:=
 wp_cond_split (hf.ev hc) ht he
theorem X6n{c:Operand}{x y:Code}(hf:Fr a n e)(hc:ev e c=some (.bool false))(ht:y.wp P Q a w) : (Code.cond c x y).wp P Q a w:=wp_cond_false (hf.ev hc) ht
theorem X08{c:Code}(X:Act→World→Prop)(h:c.wp P (Exit.then X Q) a w)(hX:∀ a w,X a w→Q .normal a w) : c.wp P Q a w:=
 Code.wp_mono (fun e a w hq=>by cases e<;>first|exact hX _ _ hq|exact hq) h
theorem Xx{σ:Type}{c:Code}(I:σ→Act→World→Prop)(μ:σ→Nat)(s:σ)(h0:I s a w)
  (round:∀ s a w,I s a w→c.wp P (Exit.then (fun a' w'=>∃ s',I s' a' w'∧μ s'<μ s) Q) a w) : (Code.loop c).wp P Q a w:=by
 intro b k cs
 have key:∀ n s a w,μ s=n→I s a w→∃ e a' w',Q e a' w'∧Arrives P (lone (b.at a (.code c::.inLoop c::k)) cs w) b k cs e a' w':=by
  intro n
  induction n using Nat.strongRecOn with
  | _ n ih=>
   intro s a w hn hI;obtain ⟨e,a₁,w₁,hq,harr⟩:=round s a w hI b (.inLoop c::k) cs
   cases e with
   | normal=>
    obtain ⟨s',hI₁,hlt⟩:=hq;obtain ⟨e₂,a₂,w₂,hq₂,harr₂⟩:=ih (μ s') (hn▸hlt) s' a₁ w₁ rfl hI₁;exact ⟨e₂,a₂,w₂,hq₂,.of_steps (Steps.trans harr (.one step_inLoop)) harr₂⟩
   | exit id=>exact ⟨_,a₁,w₁,hq,.pass (x:=.inLoop c) rfl (fun _ _=>.inl (by simp)) harr⟩
   | goto l=>exact ⟨_,a₁,w₁,hq,.pass (x:=.inLoop c) rfl (fun _ _=>.inl (by simp)) harr⟩
   | ret=>exact ⟨_,a₁,w₁,hq,.pass (x:=.inLoop c) rfl (fun _ _=>.inl (by simp)) harr⟩
   | panic ch=>exact ⟨_,a₁,w₁,hq,.pass (x:=.inLoop c) rfl (fun _ _=>.inl (by simp)) harr⟩
   | outgrown=>exact ⟨_,a₁,w₁,hq,.pass (x:=.inLoop c) rfl (fun _ _=>.inl (by simp)) harr⟩
 obtain ⟨e,a',w',hq,harr⟩:=key _ s a w rfl h0;exact ⟨e,a',w',hq,.of_steps (.one step_loop) harr⟩
def evp(e:Env) : List (Nat×Operand)→Option (List (Nat×Value))
 | []=>some []
 | (i,x)::l=>match ev e x,evp e l with
  | some v,some vs=>some ((i,v)::vs)
  | _,_=>none
theorem Fr.evp(hf:Fr a n e) : ∀ {l:List (Nat×Operand)} {vs:List (Nat×Value)},evp e l=some vs→l.map (fun p=>(p.1,a.eval p.2))=vs:=by
 intro l
 induction l with
 | nil=>intro vs h;simpa [YtlfjcmldfbfdbaaGreat.evp] using h
 | cons x l ih=>
  obtain ⟨i,x⟩:=x;intro vs h
  simp only [YtlfjcmldfbfdbaaGreat.evp] at h
  split at h
  ·rename_i v us h1 h2
   injection h with h
   subst h
   simp [hf.ev h1,ih h2]
  ·cases h
def numb:Nat→List Value→List (Nat×Value)
 | _,[]=>[]
 | k,v::l=>(k,v)::numb (k+1) l
section
variable {ty : TypeId} {pos : String} {af : Array Edge} {g : Option (Nat × Bool)} {d : Option Tmp}
theorem Xl3{T:TypeId}{parts:List (Nat×Operand)}{ps:List (Nat×Value)}{cs:List Value}(hf:Fr a n e)(hp:evp e parts=some ps)(hb:∀ w,(Instr.build T ps.toArray).run P w=.ok (.agg cs.toArray) w) :
  Ev P ⟨d,.build T parts.toArray,ty,pos,af,g⟩ a w (.agg cs.toArray):=fun w' _=>by
 have h1:=hf.evp hp;have h2:=hb w'
 simp only [execOp,List.map_toArray]
 rw [show (List.map (fun x:Nat×Operand=>match x with|(i,x)=>(i,a.eval x)) parts)=ps from h1]
 simp [h2]
theorem Xz{T:TypeId}{parts:List (Nat×Operand)}{ps:List (Nat×Value)}{cs:List Value}(hp:evp e parts=some ps)(hb:∀ w,(Instr.build T ps.toArray).run P w=.ok (.agg cs.toArray) w) : EvW P ⟨d,.build T parts.toArray,ty,pos,af,g⟩ n e w (.agg cs.toArray):=fun a hf=>Xl3 hf hp hb
theorem Xba(off:Nat) : ∀ (l:List Value) (m:Nat) (cs:Array Value),off+m+l.length≤cs.size→((l.zipIdx m).foldl (fun cs p=>cs.setIfInBounds (off+p.2) p.1) cs).toList=splice cs.toList (off+m) l
 | [],m,cs,_=>by simp [splice]
 | v::l,m,cs,h=>by
  simp only [List.length_cons] at h
  simp only [List.zipIdx_cons,List.foldl_cons]
  rw [Xba off l (m+1) _ (by simp;omega)]
  unfold splice
  have e1:off+(m+1)=off+m+1:=by omega
  rw [e1,Array.toList_setIfInBounds,List.take_succ_eq_append_getElem (by simp;omega),List.take_set_of_le (by omega),List.getElem_set_self,List.drop_set_of_lt (by omega)]
  simp only [List.length_cons,List.append_assoc,List.cons_append,List.nil_append]
  rw [show off+m+1+l.length=off+m+(l.length+1) from by omega]
theorem Xb1(sz:Nat) : ∀ (vs:List Value) (k:Nat) (cells:Array Value),(∀ v ∈ vs,v.cells.size=sz)→cells.size=(k+vs.length)*sz→
  Instr.fill (fun i=>some (i*sz,sz)) cells (numb k vs)=some (cells.toList.take (k*sz)++vs.flatMap fun v=>v.cells.toList).toArray
 | [],k,cells,_,h=>by
  simp only [List.length_nil,Nat.add_zero] at h
  have h9:cells.toList.take (k*sz)=cells.toList:=List.take_of_length_le (by simp [h])
  simp [numb,Instr.fill,h9]
 | v::vs,k,cells,h1,h=>by
  have hv:=h1 v (by simp)
  simp only [List.length_cons] at h
  have h2:k*sz+sz≤cells.size:=by rw [h,Nat.add_mul,Nat.add_mul];omega
  simp only [numb,Instr.fill,hv]
  rw [if_neg (by simp;omega)]
  have e1:(v.cells.zipIdx.foldl (fun cs (p:Value×Nat)=>cs.setIfInBounds (k*sz+p.2) p.1) cells).toList=splice cells.toList (k*sz) v.cells.toList:=by
   have:=Xba (k*sz) v.cells.toList 0 cells (by simp [hv];omega)
   rw [← Array.foldl_toList,Array.toList_zipIdx]
   simpa using this
  have hs:(v.cells.zipIdx.foldl (fun cs (p:Value×Nat)=>cs.setIfInBounds (k*sz+p.2) p.1) cells).size=cells.size:=by
   rw [← Array.length_toList,e1]
   simp [splice,hv]
   omega
  have ih:=Xb1 sz vs (k+1) (v.cells.zipIdx.foldl (fun cs (p:Value×Nat)=>cs.setIfInBounds (k*sz+p.2) p.1) cells) (fun u hu=>h1 u (by simp [hu])) (by rw [hs,h];congr 1;omega)
  refine Eq.trans ih ?_
  rw [e1]
  congr 2
  simp only [List.flatMap_cons]
  rw [← List.append_assoc]
  congr 1
  unfold splice
  have e2:(cells.toList.take (k*sz)++v.cells.toList).length=(k+1)*sz:=by simp [hv,Nat.add_mul];omega
  rw [← e2,List.take_left]
theorem Xa1{T E sz bytes:Nat}{k:Nat}{parts:List (Nat×Operand)}{vs zs:List Value}(hf:Fr a n e)(hp:evp e parts=some (numb 0 vs))(hT:SliceT P T E)(hi:InfoT P E sz bytes)(hv:(vs.all (fun v=>Nat.beq v.cells.size sz)&&Nat.beq vs.length k&&Nat.ble (k*sz) 1000)=true)(hz:vs.flatMap (fun v=>v.cells.toList)=zs) :
  Ef P ⟨d,.buildSlice T k parts.toArray,ty,pos,af,g⟩ a w (fun v w'=>∃ b,v=.slice (some ⟨b,0,none⟩) k k∧w.heap.size≤b∧Below w.heap.size w w'∧Blk w' b E zs):=by
 subst hz
 obtain ⟨i,z,hi1,hi2,hi3,hi4,hi5,hi6⟩:=hi
 simp only [Bool.and_eq_true,List.all_eq_true] at hv
 obtain ⟨⟨hv1,hv2⟩,hv3⟩:=hv
 have hk:vs.length=k:=Nat.eq_of_beq_eq_true hv2
 have hk3:k*sz≤1000:=Nat.le_of_ble_eq_true hv3
 have h1:=hf.evp hp
 have hfill:=Xb1 sz vs 0 ((Array.range (k*sz)).map fun j=>z.cells[j % z.cells.size]!) (fun v hv=>Nat.eq_of_beq_eq_true (hv1 v hv)) (by simp [hk])
 simp only [Nat.zero_mul,List.take_zero,List.nil_append] at hfill
 refine (Ef.of_run (v:=.slice (some ⟨w.heap.size,0,none⟩) k k) (w':=w.alloc (.cells (vs.flatMap fun v=>v.cells.toList).toArray E)) ?_).mono fun v w' ⟨e1,e2⟩=>?_
 ·simp only [execOp,List.map_toArray]
  rw [show (List.map (fun x:Nat×Operand=>match x with|(i,x)=>(i,a.eval x)) parts)=numb 0 vs from h1]
  have h24:¬ (16777216<k*sz):=by omega
  by_cases h0:k*sz=0
  ·have hf0:Instr.fill (fun i=>some (i*sz,sz)) #[] (numb 0 vs)=some (vs.flatMap fun v=>v.cells.toList).toArray:=by
    rw [← hfill,h0]
    congr 1
    simp [Array.range_zero']
   simp [Instr.buildSlice,X0e hT,sizeOf,typeInfo,hi1,hi3,h0,newRow,newObj,Sem.run,Array.range_zero',hf0]
  ·simp [Instr.buildSlice,X0e hT,sizeOf,typeInfo,hi1,hi3,h24,h0,zeroValue,hi2,newRow,newObj,Sem.run,hfill]
 ·subst e1;subst e2
  exact ⟨_,rfl,Nat.le_refl _,(Below.refl _ _).alloc (Nat.le_refl _) _,X7m w E _⟩
theorem Xm{T E sz bytes:Nat}{k:Nat}{parts:List (Nat×Operand)}{vs zs:List Value}(hp:evp e parts=some (numb 0 vs))(hT:SliceT P T E)(hi:InfoT P E sz bytes)(hv:(vs.all (fun v=>Nat.beq v.cells.size sz)&&Nat.beq vs.length k&&Nat.ble (k*sz) 1000)=true)(hz:vs.flatMap (fun v=>v.cells.toList)=zs) : EfW P ⟨d,.buildSlice T k parts.toArray,ty,pos,af,g⟩ n e w (fun v w'=>∃ b,v=.slice (some ⟨b,0,none⟩) k k∧w.heap.size≤b∧Below w.heap.size w w'∧Blk w' b E zs):=fun a hf=>Xa1 hf hp hT hi hv hz
theorem Xss{x y:Operand}{i j:Int}{ts:Array TypeId}(hf:Fr a n e)(hx:ev e x=some (.int .i64 i))(hy:ev e y=some (.int .i64 j)) : Ev P ⟨d,.call ⟨.builtin .max,#[x,y],ts⟩,ty,pos,af,g⟩ a w (.int .i64 (max i j)):=fun w' _=>by
 simp [execOp,resolve,invoke,builtin,Builtin.max_,Builtin.max2,hf.ev hx,hf.ev hy,Int.max_def]
 split<;>simp<;>omega
theorem Xtf{x y:Operand}{i j:Int}{ts:Array TypeId}(hx:ev e x=some (.int .i64 i))(hy:ev e y=some (.int .i64 j)) : EvW P ⟨d,.call ⟨.builtin .max,#[x,y],ts⟩,ty,pos,af,g⟩ n e w (.int .i64 (max i j)):=fun a hf=>Xss hf hx hy
end
theorem X1{t:Nat}{e:Env}{b b':Bool}(h:look t e=some (.bool b))(hb:b=b') : look t e=some (.bool b'):=hb▸h
theorem Xl{α:Type}{l:List α}{k:Nat}(h:k<l.length) : ∃ u,l[k]? = some u:=⟨l[k],List.getElem?_eq_getElem h⟩
section
variable {α : Type} {ops : Array Oper} {rest : List Oper} {ty : TypeId} {pos : String} {af : Array Edge} {g : Option (Nat × Bool)} {d : Nat}
theorem Rd.top{B:Nat}{E:TypeId}{enc:α→List Value}{A:Option Addr}{l:List α}(h:Rd w B E enc A l) : Rd w w.heap.size E enc A l:=fun hl=>by
 obtain ⟨b,off,cs,fz,h1,h2,h3,h4⟩:=h hl;exact ⟨b,off,cs,fz,h1,(Array.getElem?_eq_some_iff.1 h3).1,h3,h4⟩
theorem Xmp{T E E2:TypeId}{sz B:Nat}{x y:Operand}{enc:α→List Value}{A:Option Addr}{c:Nat}{l:List α}{k:Nat}{i:Int}{u:α}(hf:Fr a n e)(hw:Want ops ⟨some d,.indexAddr T x y,ty,pos,af,g⟩ e)(hn:Nat.blt d n=true)
  (hx:ev e x=some (.slice A l.length c)) (hy:ev e y=some (.int .i64 i)) (hT:SliceT P T E) (hs:SizeT P E sz) (hsz:∀ x,(enc x).length=sz) (hr:Rd w B E2 enc A l) (hk:l[k]? = some u) (hi:i=(k:Int))
  (h:∀ a' p,At w p (enc u)→Fr a' n ((d,.pointer (some p))::e)→wpList P ops Q rest a' w) : wpList P ops Q (⟨some d,.indexAddr T x y,ty,pos,af,g⟩::rest) a w:=by
 obtain ⟨p,rfl,hat⟩:=hr.at hsz hk;exact Xsc hf hw rfl hn (X54 hf hx hy hT hs hi (List.getElem?_eq_some_iff.1 hk).1) fun a' hf'=>h a' _ hat hf'
theorem Xmg{Q:Act→World→Prop}{tl:Nat→Bool}{fuel:Nat}{done:List Nat}{T E E2:TypeId}{sz B:Nat}{x y:Operand}{enc:α→List Value}{A:Option Addr}{c:Nat}{l:List α}{k:Nat}{i:Int}{u:α}(j:Nat)
  (ho:ops[j]? = some ⟨some d,.indexAddr T x y,ty,pos,af,g⟩) (hm:mayFirst ops done j=true) (ht:tailWaits ops tl j=true) (hf:Fr a n e) (hw:Want ops ⟨some d,.indexAddr T x y,ty,pos,af,g⟩ e) (hn:Nat.blt d n=true)
  (hx:ev e x=some (.slice A l.length c)) (hy:ev e y=some (.int .i64 i)) (hT:SliceT P T E) (hs:SizeT P E sz) (hsz:∀ x,(enc x).length=sz) (hr:Rd w B E2 enc A l) (hk:l[k]? = some u) (hi:i=(k:Int))
  (h:∀ a' p,At w p (enc u)→Fr a' n ((d,.pointer (some p))::e)→wpS P ops none tl Q fuel (mask ops (j::done)) a' w) : wpS P ops none tl Q (fuel+1) (mask ops done) a w:=by
 obtain ⟨p,rfl,hat⟩:=hr.at hsz hk;exact Xr2 j ho hm ht hf hw rfl hn (X54 hf hx hy hT hs hi (List.getElem?_eq_some_iff.1 hk).1) fun a' hf'=>h a' _ hat hf'
end
theorem X5{K:Act→World→Prop}(h:Q .ret a w) : Exit.then K Q .ret a w:=h
theorem Xr{id:Nat}(h:Q .ret a w) : Exit.inBlock id Q .ret a w:=by simp [Exit.inBlock,h]
theorem Xd{id:Nat}(h:Q .normal a w) : Exit.inBlock id Q .normal a w:=by simp [Exit.inBlock,h]
theorem Xf{K:Act→World→Prop}{id:Nat}(h:Q (.exit id) a w) : Exit.then K Q (.exit id) a w:=h
theorem Xc{K:Act→World→Prop}(h:K a w) : Exit.then K Q .normal a w:=h
theorem Xy{id:Nat}(h:Q .normal a w) : Exit.inBlock id Q (.exit id) a w:=by simp [Exit.inBlock,h]
def ResV(P:Program)(w:World)(e:Env) : ResultVar→Value→Prop
 | .tmp t,v=>look t e=some v
 | .cell t T,v=>∃ p,look t e=some (.pointer (some p))∧((OneT P T∧∃ l,At w p (v::l))∨∃ k l,AggT P T k∧At w p l∧l.length=k∧v=.agg l.toArray)
theorem ResV.cellN{t T k:Nat}{p:Addr}{l:List Value}(h:look t e=some (.pointer (some p)))(hA:AggT P T k)(hc:At w p l)(hl:l.length=k) : ResV P w e (.cell t T) (.agg l.toArray):=⟨p,h,.inr ⟨k,l,hA,hc,hl,rfl⟩⟩
theorem X68(fn:Func)(tmps:Array Value) : ∃ f:ResultVar→Sem Value,(∀ t,f (.tmp t)=pure (tmps.getD t undef))∧(∀ t T,f (.cell t T)=(do loadVar T (← asAddr (tmps.getD t undef))))∧
  results fn tmps=(do let vs ← fn.results.mapM f;pure (if h:vs.size=1 then vs[0] else .tuple vs)):=⟨_,fun _=>rfl,fun _ _=>rfl,rfl⟩
theorem ResV.run{r:ResultVar}{v:Value}{f:ResultVar→Sem Value}(hf:Fr a n e)(h:ResV P w e r v)(f1:∀ t,f (.tmp t)=pure (a.tmps.getD t undef))(f2:∀ t T,f (.cell t T)=(do loadVar T (← asAddr (a.tmps.getD t undef)))) : (f r).run P w=.ok v w:=by
 cases r with
 | tmp t=>
  have:=hf.h _ _ h
  simp [f1,this]
 | cell t T=>
  obtain ⟨p,h1,h2⟩:=h;have h3:=hf.h _ _ h1
  rcases h2 with ⟨h4,l,h5⟩|⟨k,l,h4,h5,h6,rfl⟩
  ·simp [f2,h3,asAddr,X4s h4 h5]
  ·simp [f2,h3,asAddr,X4t h4 h5 h6]
section
variable {fn : Func} {R : Ending → World → Prop}
theorem Xq{r:ResultVar}{v:Value}(hf:Fr a n e)(hr:fn.results = #[r])(h:ResV P w e r v) : (results fn a.tmps).run P w=.ok v w:=by
 obtain ⟨f,f1,f2,h0⟩:=X68 fn a.tmps;have h1:=h.run hf f1 f2
 rw [h0,hr]
 simp [h1]
theorem X15{r1 r2:ResultVar}{v1 v2:Value}(hf:Fr a n e)(hr:fn.results = #[r1,r2])(h1:ResV P w e r1 v1)(h2:ResV P w e r2 v2) : (results fn a.tmps).run P w=.ok (.tuple #[v1,v2]) w:=by
 obtain ⟨f,f1,f2,h0⟩:=X68 fn a.tmps;have h1:=h1.run hf f1 f2;have h2:=h2.run hf f1 f2
 rw [h0,hr]
 simp [h1,h2]
theorem Xhy{r1 r2 r3:ResultVar}{v1 v2 v3:Value}(hf:Fr a n e)(hr:fn.results = #[r1,r2,r3])(h1:ResV P w e r1 v1)(h2:ResV P w e r2 v2)(h3:ResV P w e r3 v3) : (results fn a.tmps).run P w=.ok (.tuple #[v1,v2,v3]) w:=by
 obtain ⟨f,f1,f2,h0⟩:=X68 fn a.tmps;have h1:=h1.run hf f1 f2;have h2:=h2.run hf f1 f2;have h3:=h3.run hf f1 f2
 rw [h0,hr]
 simp [h1,h2,h3]
theorem X3{v:Value}{R':Value→World→Prop}(hf:Fr a n e)(hr:(results fn a.tmps).run P w=.ok v w)(h:R' v w) : bodyPost P fn (fun e w'=>∃ v,e=.returned v∧R' v w') .ret a w:=⟨hf.d,v,hr,v,rfl,h⟩
theorem X2l{v:Value}{R':Value→World→Prop}(hf:Fr a n e)(hr:(results fn a.tmps).run P w=.ok v w)(h:R' v w) : bodyPost P fn (fun e w'=>∃ v,e=.returned v∧R' v w') .normal a w:=⟨hf.d,v,hr,v,rfl,h⟩
theorem X3s(hr:fn.results = #[]) : (results fn a.tmps).run P w=.ok (.tuple #[]) w:=by
 simp only [results,hr]
 simp
end
theorem enter{f:FuncId}{fn:Func}{c:Code}{args:List Value}{R:Value→World→Prop}(hf:P.funcs[f]? = some fn)(hb:fn.body=some c)(n:Nat)(hn:fn.ntmps=n)(hl:Nat.ble args.length n=true)
  (h:∀ a,Fr a n (zipFrom 0 args)→c.wp P (bodyPost P fn (fun e w'=>∃ v,e=.returned v∧R v w')) a w) : Ret P f args w R:=Xm6 hf hb n hn hl h
end
section
variable {P : Program} {ops : Array Oper} {Q : Exit → Act → World → Prop} {w : World} {rest : List Oper} {o : Oper} {op : Op} {ty : TypeId} {pos : String} {af : Array Edge} {g : Option (Nat × Bool)} {n d : Nat} {e : Env} {v : Value} {R : Value → World → Prop} {x : Operand}
def WL(P:Program)(ops:Array Oper)(Q:Exit→Act→World→Prop)(l:List Oper)(n:Nat)(e:Env)(w:World) : Prop:=∀ a,Fr a n e→wpList P ops Q l a w
theorem bs:(∀ b,(true&&b)=b)∧(∀ b,(false&&b)=false)∧(∀ b,(true||b)=true)∧∀ b,(false||b)=b:=⟨fun _=>rfl,fun _=>rfl,fun _=>rfl,fun _=>rfl⟩
theorem Vc{f:FuncId}{xs:List Operand}{vs:List Value}{ts:Array TypeId}{D:Option Tmp}(h:Ret P f vs w R)(hF:FuncF P f)(hx:evs e xs=some vs:=by rfl) : EfW P ⟨D,.call ⟨.value (.func f),xs.toArray,ts⟩,ty,pos,af,g⟩ n e w R:=X1z hx hF h
theorem Vn{T t k b:Nat}{l:List Value}{D:Option Tmp}(hA:AggT P t k)(hb:Blk w b T l)(hx:ev e x=some (.pointer (some ⟨b,0,none⟩)):=by rfl)(hl:l.length=k:=by rfl) : EvW P ⟨D,.load t x,ty,pos,af,g⟩ n e w (.agg l.toArray):=X09 hx hA (hb.at 0) hl
theorem Vd{T f k b off:Nat}{D:Option Tmp}(hx:ev e x=some (.pointer (some ⟨b,off,none⟩)))(hF:FieldT P T f k)(m:Nat)(hk:off+k=m:=by rfl) : EvW P ⟨D,.fieldAddr T x f,ty,pos,af,g⟩ n e w (.pointer (some ⟨b,m,none⟩)):=Xo4 hx hF hk
theorem Vu{t T:TypeId}{y:Operand}{b off k:Nat}{l l' vs:List Value}{D:Option Tmp}(hx:ev e x=some (.pointer (some ⟨b,off,none⟩)))(hy:ev e y=some v)(hs:SizeT P t k)(hb:Blk w b T l)(hvs:v.cells.toList=vs:=by rfl)(hk:Nat.beq vs.length k=true:=by rfl)(h1:vs.all one=true:=by rfl)(hl:Nat.ble (off+k) l.length=true:=by rfl)(hl':splice l off vs=l':=by rfl) : EfW P ⟨D,.store t x y,ty,pos,af,g⟩ n e w (Stored w b T l'):=X52 hx hy hs hb hvs hk h1 hl hl'
theorem Vw{t T:TypeId}{y:Operand}{b k:Nat}{l:List Value}{D:Option Tmp}(vs:List Value)(hs:SizeT P t k)(hb:Blk w b T l)(hx:ev e x=some (.pointer (some ⟨b,0,none⟩)):=by rfl)(hy:ev e y=some v:=by rfl)(hvs:v.cells.toList=vs:=by rfl)(hk:Nat.beq vs.length k=true:=by rfl)(h1:vs.all one=true:=by rfl)(hl:Nat.ble (0+k) l.length=true:=by rfl)(hl':splice l 0 vs=vs:=by rfl) : EfW P ⟨D,.store t x y,ty,pos,af,g⟩ n e w (Stored w b T vs):=X52 hx hy hs hb hvs hk h1 hl hl'
theorem Ze(hr:EvW P ⟨some d,op,ty,pos,af,none⟩ n e w v)(h:WL P ops Q rest n ((d,v)::e) w)(hn:Nat.blt d n=true:=by rfl) : WL P ops Q (⟨some d,op,ty,pos,af,none⟩::rest) n e w:=fun a hf=>l_e hf hn (hr a hf) h
theorem Zm(hx:ev e x=some v)(h:WL P ops Q rest n ((d,v)::e) w)(hn:Nat.blt d n=true:=by rfl) : WL P ops Q (⟨some d,.move x,ty,pos,af,none⟩::rest) n e w:=fun _ hf=>Xvw hf hx hn h
theorem Za(hx:ev e x=some v)(h:WL P ops Q rest n ((d,v)::e) w)(hn:Nat.blt d n=true:=by rfl) : WL P ops Q (⟨some d,.assign x,ty,pos,af,none⟩::rest) n e w:=fun _ hf=>Xww hf hx hn h
theorem Zf(hr:EfW P ⟨some d,op,ty,pos,af,none⟩ n e w R)(h:∀ v w',R v w'→WL P ops Q rest n ((d,v)::e) w')(hn:Nat.blt d n=true:=by rfl) : WL P ops Q (⟨some d,op,ty,pos,af,none⟩::rest) n e w:=fun a hf=>l_f hf hn (hr a hf) fun a' v w' hR hf'=>h v w' hR a' hf'
theorem Zo(hr:EfW P ⟨none,op,ty,pos,af,none⟩ n e w R)(h:∀ v w',R v w'→WL P ops Q rest n e w') : WL P ops Q (⟨none,op,ty,pos,af,none⟩::rest) n e w:=fun a hf=>Xve hf (hr a hf) fun a' v w' hR hf'=>h v w' hR a' hf'
theorem Zv(hw:Want ops o e)(hr:EvW P o n e w v)(h:WL P ops Q rest n ((d,v)::e) w)(hd:o.dst=some d:=by rfl)(hn:Nat.blt d n=true:=by rfl) : WL P ops Q (o::rest) n e w:=fun a hf=>Xsc hf hw hd hn (hr a hf) h
theorem Zp(hw:Pass ops o e)(h:WL P ops Q rest n ((d,undef)::e) w)(hd:o.dst=some d:=by rfl)(hn:Nat.blt d n=true:=by rfl) : WL P ops Q (o::rest) n e w:=fun _ hf=>Xqw hf hw hd hn h
theorem Zk(hw:Want ops o e)(hr:EfW P o n e w R)(h:∀ v w',R v w'→WL P ops Q rest n ((d,v)::e) w')(hd:o.dst=some d:=by rfl)(hn:Nat.blt d n=true:=by rfl) : WL P ops Q (o::rest) n e w:=fun a hf=>Xl5 hf hw hd hn (hr a hf) fun a' v w' hR hf'=>h v w' hR a' hf'
theorem Zg(t:Nat){b:Bool}(_:look t e=some (.bool b))(h1:b=true→WL P ops Q rest n e w)(h2:b=false→WL P ops Q rest n e w) : WL P ops Q rest n e w:=by
 cases b
 ·exact h2 rfl
 ·exact h1 rfl
theorem Zn(h:∀ a,Fr a n e→Q .normal a w) : WL P ops Q [] n e w:=h
theorem Zr{a:Act}{id:Nat}{l:List Oper}(hf:Fr a n e)(h:WL P l.toArray Q l n e w) : (Code.region id l.toArray false).wp P Q a w:=wp_region_lit (h a hf)
theorem Zs{a:Act}{id:Nat}{l:List Oper}{c:Code}(hf:Fr a n e)(h:∀ K:Act→World→Prop,(∀ a w,c.wp P Q a w→K a w)→WL P l.toArray (Exit.then K Q) l n e w) : (Code.seq (Code.region id l.toArray false) c).wp P Q a w:=
 wp_seq_k fun K hK=>wp_region_lit (h K hK a hf)
theorem Zt{c:Code}{K:Act→World→Prop}(hK:∀ a w,c.wp P Q a w→K a w)(h:∀ a,Fr a n e→c.wp P Q a w) : WL P ops (Exit.then K Q) [] n e w:=fun a hf=>hK a w (h a hf)
theorem Zi{α:Type}{T E E2:TypeId}{sz B k:Nat}{y:Operand}{enc:α→List Value}{A:Option Addr}{c:Nat}{l:List α}{i:Int}{u:α}(hw:Want ops ⟨some d,.indexAddr T x y,ty,pos,af,g⟩ e)(hx:ev e x=some (.slice A l.length c))(hy:ev e y=some (.int .i64 i))(hT:SliceT P T E)(hs:SizeT P E sz)(hsz:∀ x,(enc x).length=sz)(hr:Rd w B E2 enc A l)(hk:l[k]? = some u)(hi:i=(k:Int))
  (h:∀ p,At w p (enc u)→WL P ops Q rest n ((d,.pointer (some p))::e) w) (hn:Nat.blt d n=true:=by rfl) : WL P ops Q (⟨some d,.indexAddr T x y,ty,pos,af,g⟩::rest) n e w:=fun _ hf=>Xmp hf hw hn hx hy hT hs hsz hr hk hi fun a' p hp hf'=>h p hp a' hf'
theorem Zj{α:Type}{T E E2:TypeId}{sz B m k:Nat}{y:Operand}{enc:α→List Value}{A:Option Addr}{c:Nat}{l:List α}{i:Int}{u:α}(hw:Want ops ⟨some d,.indexAddr T x y,ty,pos,af,g⟩ e)(hx:ev e x=some (.slice A m c))(hm:m=l.length)(hy:ev e y=some (.int .i64 i))(hT:SliceT P T E)(hs:SizeT P E sz)(hsz:∀ x,(enc x).length=sz)(hr:Rd w B E2 enc A l)(hk:l[k]? = some u)(hi:i=(k:Int))
  (h:∀ p,At w p (enc u)→WL P ops Q rest n ((d,.pointer (some p))::e) w) (hn:Nat.blt d n=true:=by rfl) : WL P ops Q (⟨some d,.indexAddr T x y,ty,pos,af,g⟩::rest) n e w:=by
 subst hm
 exact Zi hw hx hy hT hs hsz hr hk hi h hn
end
section
variable {P : Program} {ops : Array Oper} {V : Option Nat} {tl : Nat → Bool} {Q : Act → World → Prop} {fuel : Nat} {done : List Nat} {w : World} {o : Oper} {op : Op} {ty : TypeId} {pos : String} {af : Array Edge} {g : Option (Nat × Bool)} {n d : Nat} {e : Env} {v : Value} {R : Value → World → Prop} {x : Operand}
def WS(P:Program)(ops:Array Oper)(V:Option Nat)(tl:Nat→Bool)(Q:Act→World→Prop)(m:Nat)(L:List Nat)(n:Nat)(e:Env)(w:World) : Prop:=∀ a,Fr a n e→wpS P ops V tl Q m (mask ops L) a w
def WR(P:Program)(ops:Array Oper)(V:Option Nat)(tl:Nat→Bool)(Q:Act→World→Prop)(i m:Nat)(L:List Nat)(n:Nat)(e:Env)(w:World) : Prop:=∀ a,Fr a n e→wpR P ops V tl i (wpS P ops V tl Q m (mask ops (i::L))) a w
theorem Yb{a:Act}{m:Nat}{L:List Nat}(hf:Fr a n e)(h:WS P ops V tl Q m L n e w) : wpS P ops V tl Q m (mask ops L) a w:=h a hf
theorem Ye(i:Nat)(hi:ops[i]? = some ⟨some d,op,ty,pos,af,none⟩)(hr:EvW P ⟨some d,op,ty,pos,af,none⟩ n e w v)(h:WS P ops none tl Q fuel (i::done) n ((d,v)::e) w)(hm:mayFirst ops done i=true:=by kernel_rfl)(ht:tailWaits ops tl i=true:=by kernel_rfl)(hn:Nat.blt d n=true:=by rfl) : WS P ops none tl Q (fuel+1) done n e w:=fun a hf=>s_e i hi hm ht hf hn (hr a hf) h
theorem Yo(i:Nat)(hi:ops[i]? = some ⟨some d,op,ty,pos,af,none⟩)(hr:∀ w,EvW P ⟨some d,op,ty,pos,af,none⟩ n e w v)(h:WS P ops V tl Q fuel (i::done) n ((d,v)::e) w)(hm:mayFirst ops done i=true:=by kernel_rfl)(hn:Nat.blt d n=true:=by rfl) : WS P ops V tl Q (fuel+1) done n e w:=fun a hf=>Xw0 i hi hm hf hn (fun w=>hr w a hf) h
theorem Yv(i:Nat)(hi:ops[i]? = some o)(hw:Want ops o e)(hr:EvW P o n e w v)(h:WS P ops none tl Q fuel (i::done) n ((d,v)::e) w)(hm:mayFirst ops done i=true:=by kernel_rfl)(ht:tailWaits ops tl i=true:=by kernel_rfl)(hd:o.dst=some d:=by rfl)(hn:Nat.blt d n=true:=by rfl) : WS P ops none tl Q (fuel+1) done n e w:=fun a hf=>Xr2 i hi hm ht hf hw hd hn (hr a hf) h
theorem Yw(i:Nat){b:Nat}(hi:ops[i]? = some o)(hw:Want ops o e)(hr:∀ w1,Only b w w1→EvW P o n e w1 v)(h:WS P ops (some b) tl Q fuel (i::done) n ((d,v)::e) w)(hm:mayFirst ops done i=true:=by kernel_rfl)(ht:tailWaits ops tl i=true:=by kernel_rfl)(hd:o.dst=some d:=by rfl)(hn:Nat.blt d n=true:=by rfl) : WS P ops (some b) tl Q (fuel+1) done n e w:=fun a hf=>Xuw i hi hm ht hf hw hd hn (fun w1 h1=>hr w1 h1 a hf) h
theorem Yu(i:Nat)(hi:ops[i]? = some o)(hw:Want ops o e)(hr:∀ w,EvW P o n e w v)(h:WS P ops V tl Q fuel (i::done) n ((d,v)::e) w)(hm:mayFirst ops done i=true:=by kernel_rfl)(hd:o.dst=some d:=by rfl)(hn:Nat.blt d n=true:=by rfl) : WS P ops V tl Q (fuel+1) done n e w:=fun a hf=>Xgl i hi hm hf hw hd hn (fun w=>hr w a hf) h
theorem Yp(i:Nat)(hi:ops[i]? = some o)(hw:Pass ops o e)(h:WS P ops V tl Q fuel (i::done) n ((d,undef)::e) w)(hm:mayFirst ops done i=true:=by kernel_rfl)(hd:o.dst=some d:=by rfl)(hn:Nat.blt d n=true:=by rfl) : WS P ops V tl Q (fuel+1) done n e w:=fun _ hf=>Xq9 i hi hm hf hw hd hn h
theorem Y1(i:Nat)(h:WR P ops V tl Q i fuel done n e w)(hr:Region.ready .any ops (mask ops done)=[i]:=by kernel_rfl) : WS P ops V tl Q (fuel+1) done n e w:=fun a hf=>Xt7 i hr (h a hf)
theorem Y2(i j:Nat)(hi:WR P ops V tl Q i fuel done n e w)(hj:WR P ops V tl Q j fuel done n e w)(hr:Region.ready .any ops (mask ops done)=[i,j]:=by kernel_rfl) : WS P ops V tl Q (fuel+1) done n e w:=fun a hf=>Xuc i j hr (hi a hf) (hj a hf)
theorem Y3(i j k:Nat)(hi:WR P ops V tl Q i fuel done n e w)(hj:WR P ops V tl Q j fuel done n e w)(hk:WR P ops V tl Q k fuel done n e w)(hr:Region.ready .any ops (mask ops done)=[i,j,k]:=by kernel_rfl) : WS P ops V tl Q (fuel+1) done n e w:=fun a hf=>Xmi i j k hr (hi a hf) (hj a hf) (hk a hf)
theorem Yd(h:∀ a,Fr a n e→Q a w)(hr:Region.ready .any ops (mask ops done)=[]:=by kernel_rfl) : WS P ops V tl Q fuel done n e w:=fun a hf=>Xrl hr (h a hf)
theorem Yf{i:Nat}(hi:ops[i]? = some o)(hw:Want ops o e)(hr:EfW P o n e w fun v w'=>(tl i=false→Keep V w w')∧R v w')(h:∀ v w',R v w'→WS P ops V tl Q fuel (i::done) n ((d,v)::e) w')(hd:o.dst=some d:=by rfl)(hn:Nat.blt d n=true:=by rfl) : WR P ops V tl Q i fuel done n e w:=fun a hf=>Xu5 hi hf hw hd hn (hr a hf) fun a' v w' hR hf'=>h v w' hR a' hf'
theorem Yg{i:Nat}(hi:ops[i]? = some o)(hw:Want ops o e)(hr:EfW P o n e w fun v w'=>(tl i=false→Keep V w w')∧R v w')(h:∀ v w',R v w'→WS P ops V tl Q fuel (i::done) n e w')(hd:o.dst=none:=by rfl) : WR P ops V tl Q i fuel done n e w:=fun a hf=>Xru hi hf hw hd (hr a hf) fun a' v w' hR hf'=>h v w' hR a' hf'
theorem Yq{i:Nat}(hi:ops[i]? = some o)(hw:Pass ops o e)(h:WS P ops V tl Q fuel (i::done) n ((d,undef)::e) w)(hd:o.dst=some d:=by rfl)(hn:Nat.blt d n=true:=by rfl) : WR P ops V tl Q i fuel done n e w:=fun _ hf=>Xr0 hi hf hw hd hn h
theorem EfW.mono{R':Value→World→Prop}(h:EfW P o n e w R)(hr:∀ v w',R v w'→R' v w') : EfW P o n e w R':=fun a hf=>(h a hf).mono hr
theorem Uev(h:EvW P o n e w v) : EfW P o n e w (fun v' w'=>v'=v∧w=w'):=fun a hf=>Xma (h a hf)
theorem Yt{i:Nat}(hi:ops[i]? = some o)(hw:Want ops o e)(ht:tl i=true)(hr:EfW P o n e w R)(h:∀ v w',R v w'→WS P ops V tl Q fuel (i::done) n ((d,v)::e) w')(hd:o.dst=some d:=by rfl)(hn:Nat.blt d n=true:=by rfl) : WR P ops V tl Q i fuel done n e w:=Yf hi hw (hr.mono fun _ _ h=>⟨fun h0=>absurd h0 (by rw [ht];decide),h⟩) h hd hn
theorem Yh{i:Nat}(hi:ops[i]? = some o)(hw:Want ops o e)(ht:tl i=true)(hr:EfW P o n e w R)(h:∀ v w',R v w'→WS P ops V tl Q fuel (i::done) n e w')(hd:o.dst=none:=by rfl) : WR P ops V tl Q i fuel done n e w:=Yg hi hw (hr.mono fun _ _ h=>⟨fun h0=>absurd h0 (by rw [ht];decide),h⟩) h hd
theorem Yk{i:Nat}(hi:ops[i]? = some o)(hw:Want ops o e)(hr:EfW P o n e w R)(hk:∀ v w',R v w'→Below w.heap.size w w')(h:∀ v w',R v w'→WS P ops none tl Q fuel (i::done) n ((d,v)::e) w')(hd:o.dst=some d:=by rfl)(hn:Nat.blt d n=true:=by rfl) : WR P ops none tl Q i fuel done n e w:=Yf hi hw (hr.mono fun _ _ h=>⟨fun _=>hk _ _ h,h⟩) h hd hn
theorem Yz{i:Nat}{u:Value}(hi:ops[i]? = some o)(hw:Want ops o e)(hr:EfW P o n e w (fun v w'=>v=u∧w=w'))(h:WS P ops V tl Q fuel (i::done) n ((d,u)::e) w)(hd:o.dst=some d:=by rfl)(hn:Nat.blt d n=true:=by rfl) : WR P ops V tl Q i fuel done n e w:=Yf hi hw (hr.mono fun _ _ h=>⟨fun _=>by rw [← h.2];exact Keep.refl _ _,h⟩) (by rintro _ _ ⟨rfl,rfl⟩;exact h) hd hn
theorem Yl(t:Nat){b:Bool}(_:look t e=some (.bool b))(h1:b=true→WS P ops V tl Q fuel done n e w)(h2:b=false→WS P ops V tl Q fuel done n e w) : WS P ops V tl Q fuel done n e w:=by
 cases b
 ·exact h2 rfl
 ·exact h1 rfl
theorem Yc(D:List Nat)(m:Nat)(X:Act→World→Prop)(h1:∀ a w,X a w→wpS P ops V tl Q m (mask ops D) a w)
  (h2:(∀ L a w,sameL L D=true→X a w→wpS P ops V tl Q m (mask ops L) a w)→WS P ops V tl Q fuel done n e w) : WS P ops V tl Q fuel done n e w:=
 h2 fun L a w h hx=>by rw [Xib h];exact h1 a w hx
theorem Yi{α:Type}{T E E2:TypeId}{sz B k:Nat}{y:Operand}{enc:α→List Value}{A:Option Addr}{c:Nat}{l:List α}{i:Int}{u:α}(j:Nat)(ho:ops[j]? = some ⟨some d,.indexAddr T x y,ty,pos,af,g⟩)(hw:Want ops ⟨some d,.indexAddr T x y,ty,pos,af,g⟩ e)(hx:ev e x=some (.slice A l.length c))(hy:ev e y=some (.int .i64 i))(hT:SliceT P T E)(hs:SizeT P E sz)(hsz:∀ x,(enc x).length=sz)(hr:Rd w B E2 enc A l)(hk:l[k]? = some u)(hi:i=(k:Int))
  (h:∀ p,At w p (enc u)→WS P ops none tl Q fuel (j::done) n ((d,.pointer (some p))::e) w) (hm:mayFirst ops done j=true:=by kernel_rfl) (ht:tailWaits ops tl j=true:=by kernel_rfl) (hn:Nat.blt d n=true:=by rfl) : WS P ops none tl Q (fuel+1) done n e w:=fun _ hf=>Xmg j ho hm ht hf hw hn hx hy hT hs hsz hr hk hi fun a' p hp hf'=>h p hp a' hf'
theorem Yj{α:Type}{T E E2:TypeId}{sz B m k:Nat}{y:Operand}{enc:α→List Value}{A:Option Addr}{c:Nat}{l:List α}{i:Int}{u:α}(j:Nat)(ho:ops[j]? = some ⟨some d,.indexAddr T x y,ty,pos,af,g⟩)(hw:Want ops ⟨some d,.indexAddr T x y,ty,pos,af,g⟩ e)(hx:ev e x=some (.slice A m c))(hlm:m=l.length)(hy:ev e y=some (.int .i64 i))(hT:SliceT P T E)(hs:SizeT P E sz)(hsz:∀ x,(enc x).length=sz)(hr:Rd w B E2 enc A l)(hk:l[k]? = some u)(hi:i=(k:Int))
  (h:∀ p,At w p (enc u)→WS P ops none tl Q fuel (j::done) n ((d,.pointer (some p))::e) w) (hm:mayFirst ops done j=true:=by kernel_rfl) (ht:tailWaits ops tl j=true:=by kernel_rfl) (hn:Nat.blt d n=true:=by rfl) : WS P ops none tl Q (fuel+1) done n e w:=by
 subst hlm
 exact Yi j ho hw hx hy hT hs hsz hr hk hi h hm ht hn
end
end Go.Proofs.YtlfjcmldfbfdbaaGreat
namespace Go.Proofs.YtlfjcmldfbfdbaaGreat
theorem X0w{P:Program}{t n:Nat}(h:(P.info? t).map (fun i=>i.size)=some n) : ∃ i,P.info? t=some i∧i.size=n:=by
 cases hi:P.info? t with
 | none=>rw [hi] at h;cases h
 | some i=>rw [hi] at h;injection h with h;exact ⟨i,rfl,h⟩
theorem X25{P:Program}{t:Nat}{z:Option Value}(h:(P.info? t).map (fun i=>i.zero)=some z) : ∃ i,P.info? t=some i∧i.zero=z:=by
 cases hi:P.info? t with
 | none=>rw [hi] at h;cases h
 | some i=>rw [hi] at h;injection h with h;exact ⟨i,rfl,h⟩
theorem X55{P:Program}{t sz bytes:Nat}{z:Value}(h:(P.info? t).map (fun i=>(i.size,i.bytes,i.zero))=some (sz,bytes,some z))(hz:z.cells.size=sz)(h0:0<sz) : InfoT P t sz bytes:=by
 cases hi:P.info? t with
 | none=>rw [hi] at h;cases h
 | some i=>
  rw [hi] at h
  simp only [Option.map_some,Option.some.injEq,Prod.mk.injEq] at h
  exact ⟨i,z,hi,h.2.2,h.1,h.2.1,hz,h0⟩
theorem X18{P:Program}{T f k:Nat}{fs:Array Field}{F:Field}(h:P.underlying T=some (.struct fs))(h1:fs[f]? = some F)(h2:F.offset=k){n:Nat}(h3:(P.info? F.type).map (fun i=>i.size)=some n)(h4:(n==0)=false) : FieldT P T f k:=by
 obtain ⟨i,hi,rfl⟩:=X0w h3;exact ⟨fs,F,i,h,h1,h2,hi,h4⟩
theorem X7 {P : Program} {f : FuncId} {fn : Func} (h : P.funcs[f]? = some fn) (h1 : (fn.name == "runtime.NumGoroutine") = false) (h2 : fn.body.isNone = false) : FuncF P f := ⟨fn, h, h1, h2⟩
theorem X4:OneT Tryz.prog 3:=⟨_,Tryz.underlying3,trivial⟩
theorem Xws:OneT Tryz.prog 4:=⟨_,Tryz.underlying4,trivial⟩
theorem Xw5:OneT Tryz.prog 5:=⟨_,Tryz.underlying5,trivial⟩
theorem X14:OneT Tryz.prog 29:=⟨_,Tryz.underlying29,trivial⟩
theorem Xai:OneT Tryz.prog 66:=⟨_,Tryz.underlying66,trivial⟩
theorem Xjt:OneT Tryz.prog 125:=⟨_,Tryz.underlying125,trivial⟩
theorem Xkg:OneT Tryz.prog 136:=⟨_,Tryz.underlying136,trivial⟩
theorem X2s:OneT Tryz.prog 36:=⟨_,Tryz.underlying36,trivial⟩
theorem Xck:OneT Tryz.prog 78:=⟨_,Tryz.underlying78,trivial⟩
theorem X8l:OneT Tryz.prog 22:=⟨_,Tryz.underlying22,trivial⟩
theorem X0q:AggT Tryz.prog 31 2:=⟨⟨_,Tryz.underlying31,trivial⟩,X0w (by kernel_rfl)⟩
theorem X4v:AggT Tryz.prog 127 3:=⟨⟨_,Tryz.underlying127,trivial⟩,X0w (by kernel_rfl)⟩
theorem Xt:AggT Tryz.prog 24 3:=⟨⟨_,Tryz.underlying24,trivial⟩,X0w (by kernel_rfl)⟩
theorem X13:AggT Tryz.prog 38 3:=⟨⟨_,Tryz.underlying38,trivial⟩,X0w (by kernel_rfl)⟩
theorem X0a:AggT Tryz.prog 96 4:=⟨⟨_,Tryz.underlying96,trivial⟩,X0w (by kernel_rfl)⟩
theorem Xk:AggT Tryz.prog 98 5:=⟨⟨_,Tryz.underlying98,trivial⟩,X0w (by kernel_rfl)⟩
theorem Xlv:AggT Tryz.prog 201 6:=⟨⟨_,Tryz.underlying201,trivial⟩,X0w (by kernel_rfl)⟩
theorem X0h:SizeT Tryz.prog 3 1:=X0w (by kernel_rfl)
theorem Xtv:SizeT Tryz.prog 4 1:=X0w (by kernel_rfl)
theorem Xwr:SizeT Tryz.prog 5 1:=X0w (by kernel_rfl)
theorem Xl8:SizeT Tryz.prog 29 1:=X0w (by kernel_rfl)
theorem Xas:SizeT Tryz.prog 66 1:=X0w (by kernel_rfl)
theorem X22:SizeT Tryz.prog 31 2:=X0w (by kernel_rfl)
theorem X9l:SizeT Tryz.prog 127 3:=X0w (by kernel_rfl)
theorem X0g:SizeT Tryz.prog 24 3:=X0w (by kernel_rfl)
theorem Xff:SizeT Tryz.prog 36 1:=X0w (by kernel_rfl)
theorem X1j:SizeT Tryz.prog 38 3:=X0w (by kernel_rfl)
theorem X12:SizeT Tryz.prog 96 4:=X0w (by kernel_rfl)
theorem Xw:SizeT Tryz.prog 98 5:=X0w (by kernel_rfl)
theorem Xq7:SizeT Tryz.prog 201 6:=X0w (by kernel_rfl)
theorem Xm7:SizeT Tryz.prog 78 1:=X0w (by kernel_rfl)
theorem Xnk:SizeT Tryz.prog 89 5:=X0w (by kernel_rfl)
theorem z_3:ZeroT Tryz.prog 3 (.int .i64 0):=X25 (by kernel_rfl)
theorem X5t:ZeroT Tryz.prog 31 (.agg #[.int .i64 0,.slice none 0 0]):=X25 (by kernel_rfl)
theorem X85:ZeroT Tryz.prog 127 (.agg #[.int .i64 0,.slice none 0 0,.map none]):=X25 (by kernel_rfl)
theorem X32:ZeroT Tryz.prog 24 (.agg #[.int .i64 0,.int .i64 0,.int .i64 0]):=X25 (by kernel_rfl)
theorem X1a:ZeroT Tryz.prog 38 (.agg #[.int .i64 0,.int .i64 0,.slice none 0 0]):=X25 (by kernel_rfl)
theorem X2i:ZeroT Tryz.prog 96 (.agg #[.int .i64 0,.int .i64 0,.int .i64 0,.int .i64 0]):=X25 (by kernel_rfl)
theorem X1p:ZeroT Tryz.prog 98 (.agg #[.int .i64 0,.int .i64 0,.int .i64 0,.int .i64 0,.int .i64 0]):=X25 (by kernel_rfl)
theorem Xta:ZeroT Tryz.prog 201 (.agg #[.int .i64 0,.int .i64 0,.int .i64 0,.int .i64 0,.int .i64 0,.int .i64 0]):=X25 (by kernel_rfl)
theorem Xsf:ZeroT Tryz.prog 89 (.agg #[.int .i64 0,.int .i64 0,.int .i64 0,.int .i64 0,.int .i64 0]):=X25 (by kernel_rfl)
theorem X3h:FieldT Tryz.prog 31 0 0:=X18 (n:=1) Tryz.underlying31 rfl rfl (by kernel_rfl) rfl
theorem X0k:FieldT Tryz.prog 31 1 1:=X18 (n:=1) Tryz.underlying31 rfl rfl (by kernel_rfl) rfl
theorem X30:FieldT Tryz.prog 127 0 0:=X18 (n:=2) Tryz.underlying127 rfl rfl (by kernel_rfl) rfl
theorem Xd8:FieldT Tryz.prog 127 1 2:=X18 (n:=1) Tryz.underlying127 rfl rfl (by kernel_rfl) rfl
theorem X0i:FieldT Tryz.prog 24 0 0:=X18 (n:=1) Tryz.underlying24 rfl rfl (by kernel_rfl) rfl
theorem X0r:FieldT Tryz.prog 24 1 1:=X18 (n:=1) Tryz.underlying24 rfl rfl (by kernel_rfl) rfl
theorem X10:FieldT Tryz.prog 24 2 2:=X18 (n:=1) Tryz.underlying24 rfl rfl (by kernel_rfl) rfl
theorem X2m:FieldT Tryz.prog 38 0 0:=X18 (n:=1) Tryz.underlying38 rfl rfl (by kernel_rfl) rfl
theorem X1q:FieldT Tryz.prog 38 1 1:=X18 (n:=1) Tryz.underlying38 rfl rfl (by kernel_rfl) rfl
theorem X1e:FieldT Tryz.prog 38 2 2:=X18 (n:=1) Tryz.underlying38 rfl rfl (by kernel_rfl) rfl
theorem X0j:FieldT Tryz.prog 96 0 0:=X18 (n:=1) Tryz.underlying96 rfl rfl (by kernel_rfl) rfl
theorem X0n:FieldT Tryz.prog 96 1 1:=X18 (n:=1) Tryz.underlying96 rfl rfl (by kernel_rfl) rfl
theorem X0o:FieldT Tryz.prog 96 2 2:=X18 (n:=1) Tryz.underlying96 rfl rfl (by kernel_rfl) rfl
theorem X0m:FieldT Tryz.prog 96 3 3:=X18 (n:=1) Tryz.underlying96 rfl rfl (by kernel_rfl) rfl
theorem X1y:FieldT Tryz.prog 98 0 0:=X18 (n:=4) Tryz.underlying98 rfl rfl (by kernel_rfl) rfl
theorem X1c:FieldT Tryz.prog 98 1 4:=X18 (n:=1) Tryz.underlying98 rfl rfl (by kernel_rfl) rfl
theorem X9h:FieldT Tryz.prog 142 0 0:=X18 (n:=1) Tryz.underlying142 rfl rfl (by kernel_rfl) rfl
theorem X5i:FieldT Tryz.prog 80 0 0:=X18 (n:=1) Tryz.underlying80 rfl rfl (by kernel_rfl) rfl
theorem X2w:FieldT Tryz.prog 80 1 1:=X18 (n:=1) Tryz.underlying80 rfl rfl (by kernel_rfl) rfl
theorem X3l:FieldT Tryz.prog 80 2 2:=X18 (n:=1) Tryz.underlying80 rfl rfl (by kernel_rfl) rfl
theorem X0c:SliceT Tryz.prog 29 24:=Tryz.underlying29
theorem Xg:SliceT Tryz.prog 66 3:=Tryz.underlying66
theorem X4k:SliceT Tryz.prog 129 66:=Tryz.underlying129
theorem X1f:SliceT Tryz.prog 36 98:=Tryz.underlying36
theorem X5c:SliceT Tryz.prog 209 96:=Tryz.underlying209
theorem X5k:SliceT Tryz.prog 22 5:=Tryz.underlying22
theorem X19:InfoT Tryz.prog 3 1 8:=X55 (z:=.int .i64 0) (by kernel_rfl) rfl (by decide)
theorem Xkb:InfoT Tryz.prog 66 1 24:=X55 (z:=.slice none 0 0) (by kernel_rfl) rfl (by decide)
theorem X1v:InfoT Tryz.prog 24 3 24:=X55 (z:=.agg #[.int .i64 0,.int .i64 0,.int .i64 0]) (by kernel_rfl) rfl (by decide)
theorem X5d:InfoT Tryz.prog 96 4 32:=X55 (z:=.agg #[.int .i64 0,.int .i64 0,.int .i64 0,.int .i64 0]) (by kernel_rfl) rfl (by decide)
theorem X3b:InfoT Tryz.prog 98 5 40:=X55 (z:=.agg #[.int .i64 0,.int .i64 0,.int .i64 0,.int .i64 0,.int .i64 0]) (by kernel_rfl) rfl (by decide)
theorem Xv0:FuncF Tryz.prog 39:=X7 Tryz.func39 (by decide +kernel) rfl
theorem Xgq:FuncF Tryz.prog 38:=X7 Tryz.func38 (by decide +kernel) rfl
theorem Xph:FuncF Tryz.prog 36:=X7 Tryz.func36 (by decide +kernel) rfl
theorem Xu9:FuncF Tryz.prog 35:=X7 Tryz.func35 (by decide +kernel) rfl
theorem Xtt:FuncF Tryz.prog 41:=X7 Tryz.func41 (by decide +kernel) rfl
theorem Xtq:FuncF Tryz.prog 99:=X7 Tryz.func99 (by decide +kernel) rfl
theorem Xty:FuncF Tryz.prog 103:=X7 Tryz.func103 (by decide +kernel) rfl
theorem Xp9:FuncF Tryz.prog 61:=X7 Tryz.func61 (by decide +kernel) rfl
theorem Xuy:FuncF Tryz.prog 111:=X7 Tryz.func111 (by decide +kernel) rfl
theorem Xd3:FuncF Tryz.prog 57:=X7 Tryz.func57 (by decide +kernel) rfl
theorem Xp8:FuncF Tryz.prog 110:=X7 Tryz.func110 (by decide +kernel) rfl
theorem Xuk:FuncF Tryz.prog 106:=X7 Tryz.func106 (by decide +kernel) rfl
theorem Xt9:FuncF Tryz.prog 107:=X7 Tryz.func107 (by decide +kernel) rfl
theorem Xh9:FuncF Tryz.prog 59:=X7 Tryz.func59 (by decide +kernel) rfl
theorem Xuq:FuncF Tryz.prog 105:=X7 Tryz.func105 (by decide +kernel) rfl
theorem Xud:FuncF Tryz.prog 112:=X7 Tryz.func112 (by decide +kernel) rfl
theorem Xu0:FuncF Tryz.prog 113:=X7 Tryz.func113 (by decide +kernel) rfl
theorem X6v:FuncF Tryz.prog 53:=X7 Tryz.func53 (by decide +kernel) rfl
theorem X40:FuncF Tryz.prog 120:=X7 Tryz.func120 (by decide +kernel) rfl
theorem Xuo:FuncF Tryz.prog 159:=X7 Tryz.func159 (by decide +kernel) rfl
theorem Xus:FuncF Tryz.prog 160:=X7 Tryz.func160 (by decide +kernel) rfl
theorem Xu2:FuncF Tryz.prog 161:=X7 Tryz.func161 (by decide +kernel) rfl
theorem Xao:FuncF Tryz.prog 58:=X7 Tryz.func58 (by decide +kernel) rfl
theorem Xeu:FuncF Tryz.prog 114:=X7 Tryz.func114 (by decide +kernel) rfl
theorem Xdn:FuncF Tryz.prog 70:=X7 Tryz.func70 (by decide +kernel) rfl
theorem Xpm:FuncF Tryz.prog 54:=X7 Tryz.func54 (by decide +kernel) rfl
theorem Xk9:FuncF Tryz.prog 55:=X7 Tryz.func55 (by decide +kernel) rfl
theorem Xc6:FuncF Tryz.prog 62:=X7 Tryz.func62 (by decide +kernel) rfl
theorem Xpv:FuncF Tryz.prog 129:=X7 Tryz.func129 (by decide +kernel) rfl
theorem Xr4:FuncF Tryz.prog 130:=X7 Tryz.func130 (by decide +kernel) rfl
theorem Xjx:FuncF Tryz.prog 51:=X7 Tryz.func51 (by decide +kernel) rfl
theorem Xli:FuncF Tryz.prog 164:=X7 Tryz.func164 (by decide +kernel) rfl
theorem Xfj:FuncF Tryz.prog 121:=X7 Tryz.func121 (by decide +kernel) rfl
theorem Xst:FuncF Tryz.prog 165:=X7 Tryz.func165 (by decide +kernel) rfl
theorem Xry:FuncF Tryz.prog 166:=X7 Tryz.func166 (by decide +kernel) rfl
theorem Xiz:FuncF Tryz.prog 173:=X7 Tryz.func173 (by decide +kernel) rfl
theorem Xrg:FuncF Tryz.prog 124:=X7 Tryz.func124 (by decide +kernel) rfl
theorem Xpn:FuncF Tryz.prog 63:=X7 Tryz.func63 (by decide +kernel) rfl
theorem Xpw:FuncF Tryz.prog 189:=X7 Tryz.func189 (by decide +kernel) rfl
theorem Xs0:FuncF Tryz.prog 167:=X7 Tryz.func167 (by decide +kernel) rfl
theorem Xrc:FuncF Tryz.prog 168:=X7 Tryz.func168 (by decide +kernel) rfl
theorem Xk5:FuncF Tryz.prog 75:=X7 Tryz.func75 (by decide +kernel) rfl
theorem X7p:FuncF Tryz.prog 69:=X7 Tryz.func69 (by decide +kernel) rfl
theorem Xre:FuncF Tryz.prog 122:=X7 Tryz.func122 (by decide +kernel) rfl
theorem Xbj:FuncF Tryz.prog 123:=X7 Tryz.func123 (by decide +kernel) rfl
theorem X57:FuncF Tryz.prog 125:=X7 Tryz.func125 (by decide +kernel) rfl
theorem X5a:FuncF Tryz.prog 126:=X7 Tryz.func126 (by decide +kernel) rfl
theorem Xiy:FuncF Tryz.prog 17:=X7 Tryz.func17 (by decide +kernel) rfl
theorem Xjo:FuncF Tryz.prog 127:=X7 Tryz.func127 (by decide +kernel) rfl
theorem Xsd:FuncF Tryz.prog 131:=X7 Tryz.func131 (by decide +kernel) rfl
theorem Xr9:FuncF Tryz.prog 178:=X7 Tryz.func178 (by decide +kernel) rfl
theorem Xpx:FuncF Tryz.prog 52:=X7 Tryz.func52 (by decide +kernel) rfl
theorem Xrb:FuncF Tryz.prog 169:=X7 Tryz.func169 (by decide +kernel) rfl
theorem Xqo:FuncF Tryz.prog 170:=X7 Tryz.func170 (by decide +kernel) rfl
theorem Xqq:FuncF Tryz.prog 171:=X7 Tryz.func171 (by decide +kernel) rfl
theorem Xso:FuncF Tryz.prog 193:=X7 Tryz.func193 (by decide +kernel) rfl
theorem Xfd:FuncF Tryz.prog 67:=X7 Tryz.func67 (by decide +kernel) rfl
theorem Xrf:FuncF Tryz.prog 194:=X7 Tryz.func194 (by decide +kernel) rfl
theorem Xfb:FuncF Tryz.prog 134:=X7 Tryz.func134 (by decide +kernel) rfl
theorem Xm0:FuncF Tryz.prog 15:=X7 Tryz.func15 (by decide +kernel) rfl
theorem Xq0:FuncF Tryz.prog 16:=X7 Tryz.func16 (by decide +kernel) rfl
theorem Xcg:FuncF Tryz.prog 132:=X7 Tryz.func132 (by decide +kernel) rfl
theorem Xrj:FuncF Tryz.prog 135:=X7 Tryz.func135 (by decide +kernel) rfl
theorem Xpq:FuncF Tryz.prog 136:=X7 Tryz.func136 (by decide +kernel) rfl
theorem X9m:FuncF Tryz.prog 137:=X7 Tryz.func137 (by decide +kernel) rfl
theorem Xkm:FuncF Tryz.prog 77:=X7 Tryz.func77 (by decide +kernel) rfl
theorem Xc5:FuncF Tryz.prog 78:=X7 Tryz.func78 (by decide +kernel) rfl
theorem Xrx:FuncF Tryz.prog 133:=X7 Tryz.func133 (by decide +kernel) rfl
theorem Xqt:FuncF Tryz.prog 172:=X7 Tryz.func172 (by decide +kernel) rfl
theorem Xql:FuncF Tryz.prog 174:=X7 Tryz.func174 (by decide +kernel) rfl
theorem Xsx:FuncF Tryz.prog 175:=X7 Tryz.func175 (by decide +kernel) rfl
theorem Xpt:FuncF Tryz.prog 176:=X7 Tryz.func176 (by decide +kernel) rfl
theorem Xqj:FuncF Tryz.prog 177:=X7 Tryz.func177 (by decide +kernel) rfl
theorem Xrv:FuncF Tryz.prog 195:=X7 Tryz.func195 (by decide +kernel) rfl
theorem Xq8:FuncF Tryz.prog 196:=X7 Tryz.func196 (by decide +kernel) rfl
theorem Xku:FuncF Tryz.prog 218:=X7 Tryz.func218 (by decide +kernel) rfl
theorem X31:FuncF Tryz.prog 219:=X7 Tryz.func219 (by decide +kernel) rfl
theorem X6b:FuncF Tryz.prog 186:=X7 Tryz.func186 (by decide +kernel) rfl
theorem Xqd:FuncF Tryz.prog 187:=X7 Tryz.func187 (by decide +kernel) rfl
theorem Xr7:FuncF Tryz.prog 68:=X7 Tryz.func68 (by decide +kernel) rfl
theorem Xqf:FuncF Tryz.prog 71:=X7 Tryz.func71 (by decide +kernel) rfl
theorem X7v:FuncF Tryz.prog 72:=X7 Tryz.func72 (by decide +kernel) rfl
theorem Xbm:FuncF Tryz.prog 73:=X7 Tryz.func73 (by decide +kernel) rfl
theorem Xra:FuncF Tryz.prog 74:=X7 Tryz.func74 (by decide +kernel) rfl
theorem Xr6:FuncF Tryz.prog 76:=X7 Tryz.func76 (by decide +kernel) rfl
theorem Xq2:FuncF Tryz.prog 79:=X7 Tryz.func79 (by decide +kernel) rfl
theorem Xrm:FuncF Tryz.prog 180:=X7 Tryz.func180 (by decide +kernel) rfl
theorem X95:FuncF Tryz.prog 179:=X7 Tryz.func179 (by decide +kernel) rfl
theorem Xfa:FuncF Tryz.prog 181:=X7 Tryz.func181 (by decide +kernel) rfl
theorem Xq4:FuncF Tryz.prog 138:=X7 Tryz.func138 (by decide +kernel) rfl
theorem Xm5:FuncF Tryz.prog 139:=X7 Tryz.func139 (by decide +kernel) rfl
theorem X6c:FuncF Tryz.prog 197:=X7 Tryz.func197 (by decide +kernel) rfl
theorem Xrz:FuncF Tryz.prog 198:=X7 Tryz.func198 (by decide +kernel) rfl
theorem Xci:FuncF Tryz.prog 199:=X7 Tryz.func199 (by decide +kernel) rfl
theorem Xf4:FuncF Tryz.prog 200:=X7 Tryz.func200 (by decide +kernel) rfl
theorem Xjy:FuncF Tryz.prog 201:=X7 Tryz.func201 (by decide +kernel) rfl
theorem Xs1:FuncF Tryz.prog 202:=X7 Tryz.func202 (by decide +kernel) rfl
theorem Xrr:FuncF Tryz.prog 203:=X7 Tryz.func203 (by decide +kernel) rfl
theorem Xk0:FuncF Tryz.prog 230:=X7 Tryz.func230 (by decide +kernel) rfl
theorem Xs8:FuncF Tryz.prog 140:=X7 Tryz.func140 (by decide +kernel) rfl
theorem Xsl:FuncF Tryz.prog 141:=X7 Tryz.func141 (by decide +kernel) rfl
theorem Xc1:FuncF Tryz.prog 204:=X7 Tryz.func204 (by decide +kernel) rfl
theorem Xbw:FuncF Tryz.prog 182:=X7 Tryz.func182 (by decide +kernel) rfl
theorem Xqg:FuncF Tryz.prog 183:=X7 Tryz.func183 (by decide +kernel) rfl
theorem Xsu:FuncF Tryz.prog 220:=X7 Tryz.func220 (by decide +kernel) rfl
theorem Xq6:FuncF Tryz.prog 221:=X7 Tryz.func221 (by decide +kernel) rfl
theorem Xse:FuncF Tryz.prog 222:=X7 Tryz.func222 (by decide +kernel) rfl
theorem Xsg:FuncF Tryz.prog 223:=X7 Tryz.func223 (by decide +kernel) rfl
theorem Xfl:FuncF Tryz.prog 234:=X7 Tryz.func234 (by decide +kernel) rfl
theorem Xjg:FuncF Tryz.prog 184:=X7 Tryz.func184 (by decide +kernel) rfl
theorem Xsr:FuncF Tryz.prog 231:=X7 Tryz.func231 (by decide +kernel) rfl
theorem Xqb:FuncF Tryz.prog 232:=X7 Tryz.func232 (by decide +kernel) rfl
theorem Xsw:FuncF Tryz.prog 205:=X7 Tryz.func205 (by decide +kernel) rfl
theorem Xmv:FuncF Tryz.prog 44:=X7 Tryz.func44 (by decide +kernel) rfl
theorem Xnq:FuncF Tryz.prog 115:=X7 Tryz.func115 (by decide +kernel) rfl
theorem Xo7:FuncF Tryz.prog 116:=X7 Tryz.func116 (by decide +kernel) rfl
theorem Xch:FuncF Tryz.prog 117:=X7 Tryz.func117 (by decide +kernel) rfl
theorem Xnx:FuncF Tryz.prog 34:=X7 Tryz.func34 (by decide +kernel) rfl
theorem Xmo:FuncF Tryz.prog 37:=X7 Tryz.func37 (by decide +kernel) rfl
theorem Xol:FuncF Tryz.prog 40:=X7 Tryz.func40 (by decide +kernel) rfl
theorem Xmd:FuncF Tryz.prog 42:=X7 Tryz.func42 (by decide +kernel) rfl
theorem Xo2:FuncF Tryz.prog 43:=X7 Tryz.func43 (by decide +kernel) rfl
theorem Xg8:FuncF Tryz.prog 45:=X7 Tryz.func45 (by decide +kernel) rfl
theorem X26:FuncF Tryz.prog 46:=X7 Tryz.func46 (by decide +kernel) rfl
theorem X6s:FuncF Tryz.prog 47:=X7 Tryz.func47 (by decide +kernel) rfl
theorem Xo5:FuncF Tryz.prog 49:=X7 Tryz.func49 (by decide +kernel) rfl
theorem Xgm:FuncF Tryz.prog 56:=X7 Tryz.func56 (by decide +kernel) rfl
theorem Xna:FuncF Tryz.prog 65:=X7 Tryz.func65 (by decide +kernel) rfl
theorem Xoh:FuncF Tryz.prog 90:=X7 Tryz.func90 (by decide +kernel) rfl
theorem Xmf:FuncF Tryz.prog 108:=X7 Tryz.func108 (by decide +kernel) rfl
theorem Xbs:FuncF Tryz.prog 109:=X7 Tryz.func109 (by decide +kernel) rfl
theorem Xg3:FuncF Tryz.prog 118:=X7 Tryz.func118 (by decide +kernel) rfl
theorem Xn6:FuncF Tryz.prog 128:=X7 Tryz.func128 (by decide +kernel) rfl
theorem Xng:FuncF Tryz.prog 152:=X7 Tryz.func152 (by decide +kernel) rfl
theorem Xg5:FuncF Tryz.prog 153:=X7 Tryz.func153 (by decide +kernel) rfl
theorem mixed:Tryz.prog.follows .mixedOrders=true:=by kernel_rfl
end Go.Proofs.YtlfjcmldfbfdbaaGreat
namespace Go.Proofs.YtlfjcmldfbfdbaaGreat
open Go.RowKit
section
variable {P : Program} {a : Act} {w : World} {n : Nat} {e : Env} {ty : TypeId} {pos : String} {af : Array Edge} {g : Option (Nat × Bool)} {d : Option Tmp}
variable {t t' : TypeId} {x y : Operand} {i j : Int}
theorem Xqp(hf:Fr a n e)(hx:ev e x=some (.int .i64 i))(hy:ev e y=some (.int .i64 j))(h0:(j==0)=false) : Ev P ⟨d,.binOp .rem t x y t',ty,pos,af,g⟩ a w (.int .i64 (i.tmod j)):=fun w' _=>by
 have h0':j≠0:=by rintro rfl;simp at h0
 simp [execOp,hf.ev hx,hf.ev hy,eqGuard,binOp,Op.intDiv,h0']
theorem X90(hx:ev e x=some (.int .i64 i))(hy:ev e y=some (.int .i64 j))(h0:(j==0)=false) : EvW P ⟨d,.binOp .rem t x y t',ty,pos,af,g⟩ n e w (.int .i64 (i.tmod j)):=fun a hf=>Xqp hf hx hy h0
theorem Xpz(hf:Fr a n e)(hx:ev e x=some (.int .i64 i))(hy:ev e y=some (.int .i64 j))(h0:(j==0)=false) : Ev P ⟨d,.binOp .quo t x y t',ty,pos,af,g⟩ a w (.int .i64 (IntKind.i64.wrap (i.tdiv j))):=fun w' _=>by
 have h0':j≠0:=by rintro rfl;simp at h0
 simp [execOp,hf.ev hx,hf.ev hy,eqGuard,binOp,Op.intDiv,h0']
theorem Xeb(hx:ev e x=some (.int .i64 i))(hy:ev e y=some (.int .i64 j))(h0:(j==0)=false) : EvW P ⟨d,.binOp .quo t x y t',ty,pos,af,g⟩ n e w (.int .i64 (IntKind.i64.wrap (i.tdiv j))):=fun a hf=>Xpz hf hx hy h0
theorem Xnc(hf:Fr a n e)(hx:ev e x=some (.int .i64 i))(hy:ev e y=some (.int .i64 j))(h1:-9223372036854775808≤i*j)(h2:i*j≤9223372036854775807) : Ev P ⟨d,.binOp .mul t x y t',ty,pos,af,g⟩ a w (.int .i64 (i*j)):=fun w' _=>by
 have h:IntKind.i64.wrap (i*j)=i*j:=IntWalk.i64_in _ ⟨h1,h2⟩
 simp [execOp,hf.ev hx,hf.ev hy,eqGuard,binOp,Op.intArith,h]
theorem Xal(hx:ev e x=some (.int .i64 i))(hy:ev e y=some (.int .i64 j))(h1:-9223372036854775808≤i*j)(h2:i*j≤9223372036854775807) : EvW P ⟨d,.binOp .mul t x y t',ty,pos,af,g⟩ n e w (.int .i64 (i*j)):=fun a hf=>Xnc hf hx hy h1 h2
theorem Xoa{m k:Nat}(hf:Fr a n e)(hx:ev e x=some (.int .i64 (m:Int)))(hy:ev e y=some (.int .i64 (k:Int)))(hb:m*k≤4611686018427387904) : Ev P ⟨d,.binOp .mul t x y t',ty,pos,af,g⟩ a w (.int .i64 ((m*k:Nat) : Int)):=fun w' _=>by
 have h:IntKind.i64.wrap ((m:Int)*(k:Int))=((m*k:Nat) : Int):=by
  rw [← Int.natCast_mul]
  exact IntWalk.i64_in _ ⟨by omega,by omega⟩
 simp [execOp,hf.ev hx,hf.ev hy,eqGuard,binOp,Op.intArith,h]
theorem X9c{m k:Nat}(hx:ev e x=some (.int .i64 (m:Int)))(hy:ev e y=some (.int .i64 (k:Int)))(hb:m*k≤4611686018427387904) : EvW P ⟨d,.binOp .mul t x y t',ty,pos,af,g⟩ n e w (.int .i64 ((m*k:Nat) : Int)):=fun a hf=>Xoa hf hx hy hb
theorem Xm1{k:IntKind}{m:Nat}(hf:Fr a n e)(hx:ev e x=some (.int .i64 i))(hy:ev e y=some (.int k j))(hj:j=(m:Int))(hm:m≤64) : Ev P ⟨d,.binOp .shl t x y t',ty,pos,af,g⟩ a w (.int .i64 (IntKind.i64.wrap (i*2^m))):=fun w' _=>by
 subst hj
 have hm':min m 64=m:=by omega
 simp [execOp,hf.ev hx,hf.ev hy,eqGuard,binOp,Op.shift,IntKind.bits,hm']
theorem Xji{k:IntKind}{m:Nat}(hx:ev e x=some (.int .i64 i))(hy:ev e y=some (.int k j))(hj:j=(m:Int))(hm:m≤64) : EvW P ⟨d,.binOp .shl t x y t',ty,pos,af,g⟩ n e w (.int .i64 (IntKind.i64.wrap (i*2^m))):=fun a hf=>Xm1 hf hx hy hj hm
theorem Xs6{k:IntKind}{m:Nat}(hf:Fr a n e)(hx:ev e x=some (.int .i64 i))(hy:ev e y=some (.int k j))(hj:j=(m:Int))(hm:m≤64) : Ev P ⟨d,.binOp .shr t x y t',ty,pos,af,g⟩ a w (.int .i64 (i/2^m)):=fun w' _=>by
 subst hj
 have hm':min m 64=m:=by omega
 simp [execOp,hf.ev hx,hf.ev hy,eqGuard,binOp,Op.shift,IntKind.bits,hm']
theorem Xuz{k:IntKind}{m:Nat}(hx:ev e x=some (.int .i64 i))(hy:ev e y=some (.int k j))(hj:j=(m:Int))(hm:m≤64) : EvW P ⟨d,.binOp .shr t x y t',ty,pos,af,g⟩ n e w (.int .i64 (i/2^m)):=fun a hf=>Xs6 hf hx hy hj hm
theorem Xhw(hf:Fr a n e)(hx:ev e x=some (.int .i64 i))(hy:ev e y=some (.int .i64 j)) : Ev P ⟨d,.binOp .andNot t x y t',ty,pos,af,g⟩ a w (.int .i64 (bits .andNot .i64 i j)):=fun w' _=>by
 simp [execOp,hf.ev hx,hf.ev hy,eqGuard,binOp,Op.intBits,bits]
theorem Xnr(hx:ev e x=some (.int .i64 i))(hy:ev e y=some (.int .i64 j)) : EvW P ⟨d,.binOp .andNot t x y t',ty,pos,af,g⟩ n e w (.int .i64 (bits .andNot .i64 i j)):=fun a hf=>Xhw hf hx hy
theorem Xsn{p:Addr}(hf:Fr a n e)(hx:ev e x=some (.pointer (some p))) : Ev P ⟨d,.nilCheck x,ty,pos,af,g⟩ a w (.pointer (some p)):=fun w' _=>by
 simp [execOp,hf.ev hx]
theorem X43{p:Addr}(hx:ev e x=some (.pointer (some p))) : EvW P ⟨d,.nilCheck x,ty,pos,af,g⟩ n e w (.pointer (some p)):=fun a hf=>Xsn hf hx
end
theorem Rd.atV{α:Type}{w:World}{B b0:Nat}{E T0:TypeId}{enc:α→List Value}{A:Option Addr}{l:List α}{l0:List Value}{sz:Nat}(hsz:∀ x,(enc x).length=sz)(h:Rd w B E enc A l){k:Nat}{x:α}(hk:l[k]? = some x)
  (hb:Blk w b0 T0 l0) (hT:Nat.beq E T0=false) : ∃ p,A=some p∧At w (p.add (k*sz)) (enc x)∧(p.add (k*sz)).block≠b0:=by
 obtain ⟨p,h1,h2⟩:=h.at hsz hk
 refine ⟨p,h1,h2,?_⟩
 have hl:l≠[]:=by rintro rfl;simp at hk
 obtain ⟨b,off,cs,fz,h3,h4,h5,h6⟩:=h hl
 rw [h1] at h3
 injection h3 with h3
 subst h3
 rw [X4d]
 rintro rfl
 unfold Blk at hb
 rw [h5] at hb
 injection hb with hb
 injection hb with _ e
 subst e
 simp at hT
section
variable {P : Program} {a : Act} {w : World} {n : Nat} {e : Env} {α : Type} {ops : Array Oper} {ty : TypeId} {pos : String} {af : Array Edge} {g : Option (Nat × Bool)} {d : Nat}
theorem Xm8{b0:Nat}{l0:List Value}{Q:Act→World→Prop}{tl:Nat→Bool}{fuel:Nat}{done:List Nat}{T E T0:TypeId}{sz B:Nat}{x y:Operand}{enc:α→List Value}{A:Option Addr}{c:Nat}{l:List α}{k:Nat}{i:Int}{u:α}(j:Nat)
  (ho:ops[j]? = some ⟨some d,.indexAddr T x y,ty,pos,af,g⟩) (hm:mayFirst ops done j=true) (hf:Fr a n e) (hw:Want ops ⟨some d,.indexAddr T x y,ty,pos,af,g⟩ e) (hn:Nat.blt d n=true)
  (hb:Blk w b0 T0 l0) (hT0:Nat.beq E T0=false)
  (hx:ev e x=some (.slice A l.length c)) (hy:ev e y=some (.int .i64 i)) (hT:SliceT P T E) (hs:SizeT P E sz) (hsz:∀ x,(enc x).length=sz) (hr:Rd w B E enc A l) (hk:l[k]? = some u) (hi:i=(k:Int))
  (h:∀ a' p,At w p (enc u)→p.block≠b0→Fr a' n ((d,.pointer (some p))::e)→wpS P ops (some b0) tl Q fuel (mask ops (j::done)) a' w) : wpS P ops (some b0) tl Q (fuel+1) (mask ops done) a w:=by
 obtain ⟨p,rfl,hat,hne⟩:=hr.atV hsz hk hb hT0;exact Xgl j ho hm hf hw rfl hn (fun w=>X54 hf hx hy hT hs hi (List.getElem?_eq_some_iff.1 hk).1) fun a' hf'=>h a' _ hat hne hf'
theorem Ya{b0:Nat}{l0:List Value}{Q:Act→World→Prop}{tl:Nat→Bool}{fuel:Nat}{done:List Nat}{T E T0:TypeId}{sz B:Nat}{x y:Operand}{enc:α→List Value}{A:Option Addr}{c:Nat}{l:List α}{k:Nat}{i:Int}{u:α}(j:Nat)
  (ho:ops[j]? = some ⟨some d,.indexAddr T x y,ty,pos,af,g⟩) (hw:Want ops ⟨some d,.indexAddr T x y,ty,pos,af,g⟩ e) (hb:Blk w b0 T0 l0) (hT0:Nat.beq E T0=false)
  (hx:ev e x=some (.slice A l.length c)) (hy:ev e y=some (.int .i64 i)) (hT:SliceT P T E) (hs:SizeT P E sz) (hsz:∀ x,(enc x).length=sz) (hr:Rd w B E enc A l) (hk:l[k]? = some u) (hi:i=(k:Int))
  (h:∀ p,At w p (enc u)→p.block≠b0→WS P ops (some b0) tl Q fuel (j::done) n ((d,.pointer (some p))::e) w) (hm:mayFirst ops done j=true:=by kernel_rfl) (hn:Nat.blt d n=true:=by rfl) : WS P ops (some b0) tl Q (fuel+1) done n e w:=
 fun _ hf=>Xm8 j ho hm hf hw hn hb hT0 hx hy hT hs hsz hr hk hi fun a' p hp hne hf'=>h p hp hne a' hf'
end
theorem Own.lower{α:Type}{w:World}{B0 B1:Nat}{E:TypeId}{sz:Nat}{enc:α→List Value}{A:Option Addr}{c:Nat}{l:List α}(h:Own w B0 E sz enc A c l)(hB:B1≤B0) : Own w B1 E sz enc A c l:=by
 refine ⟨h.1,?_⟩
 rcases h.2 with h1|⟨g,cap,cur,h1,h2,h3⟩
 ·exact .inl h1
 ·exact .inr ⟨g,cap,cur,h1,Nat.le_trans hB h2,h3⟩
section
variable {α : Type} {P : Program} {a : Act} {w : World} {n : Nat} {e : Env} {ty : TypeId} {pos : String} {af : Array Edge} {g : Option (Nat × Bool)} {d : Option Tmp}
theorem Xa5{T E:TypeId}{sz bytes B B2:Nat}{x y:Operand}{enc:α→List Value}{A A2:Option Addr}{c c2:Nat}{l l2:List α}(hf:Fr a n e)(hx:ev e x=some (.slice A l.length c))(hy:ev e y=some (.slice A2 l2.length c2))
  (hT:SliceT P T E) (hi:InfoT P E sz bytes) (hsz:∀ x,(enc x).length=sz) (ho:Rd w B E enc A l) (hr:Rd w B2 E enc A2 l2) (hc:c=l.length) (hl:l≠[]) (hl2:l2≠[]) (h63:l.length+l2.length≤maxLen) (hbytes:(l.length+l2.length)*bytes≤140737488355328) :
  Ef P ⟨d,.call ⟨.builtin .append,#[x,y],#[T,T]⟩,ty,pos,af,g⟩ a w (fun v w'=>∃ A' c',v=.slice A' (l++l2).length c'∧Own w' w.heap.size E sz enc A' c' (l++l2)∧Below w.heap.size w w'):=by
 obtain ⟨i,z,hi1,hi2,rfl,rfl,hi5,hi6⟩:=hi;obtain ⟨b1,off1,cs1,fz1,rfl,_,k1,k2⟩:=ho hl;obtain ⟨b,off,cs,fz,rfl,h2,h3,h4⟩:=hr hl2;have hlen1:=X04 hsz l;have hlen2:=X04 hsz l2
 have hpos:0<l2.length:=List.length_pos_iff.2 hl2
 have h:=run_append_grow (P:=P) w T ty E i z hT hi1 hi2 ⟨b1,off1,none⟩ l.length c (l.flatMap enc) hlen1 (fun j u hu=>by
   have:=k2 j u hu
   rw [X1x]
   simp [World.cell?,k1,this])
  ⟨b,off,none⟩ l2.length c2 (l2.flatMap enc) hlen2 (fun j u hu=>by
   have:=h4 j u hu
   rw [X1x]
   simp [World.cell?,h3,this])
  (by omega) (by simp only [maxLen] at h63;omega) (growslice_fits (by omega) hbytes)
 refine (Ef.of_run (w':=w.drew.alloc (.cells ((l.flatMap enc).toArray++(l2.flatMap enc).toArray++Builtin.zeroCells z.cells (grownCap w (l.length+l2.length) c E-(l.length+l2.length))) E)) (v:=.slice (some ⟨w.heap.size,0,none⟩) (l.length+l2.length) (grownCap w (l.length+l2.length) c E)) ?_).mono fun v w' ⟨e1,e2⟩=>?_
 ·simp [execOp,resolve,invoke,builtin,hf.ev hx,hf.ev hy,h]
 ·subst e1;subst e2
  refine ⟨_,_,by rw [List.length_append],?_,((Below.refl _ _).drew).alloc (Nat.le_refl _) _⟩
  refine ⟨X04 hsz _,.inr ⟨w.heap.size,_,_,rfl,Nat.le_refl _,heap_alloc_new w.drew _,?_,grownCap_le_maxLen w _ _ E h63,?_,?_⟩⟩
  ·rw [List.length_append];exact grownCap_ge w _ _ E
  ·have hge:=grownCap_ge w (l.length+l2.length) c E
   simp only [Array.size_append,List.size_toArray,size_zeroCells,hi5,hlen1,hlen2,← Nat.add_mul]
   congr 1
   omega
  ·have e3:(l++l2).length*i.size=(l.flatMap enc++l2.flatMap enc).length:=by rw [List.length_append,List.length_append,hlen1,hlen2,Nat.add_mul]
   rw [e3]
   simp only [Array.toList_append,List.flatMap_append,List.append_assoc]
   rw [← List.append_assoc]
   exact List.take_left
theorem Xcp{T E:TypeId}{sz bytes B B2:Nat}{x y:Operand}{enc:α→List Value}{A A2:Option Addr}{c c2:Nat}{l l2:List α}(hx:ev e x=some (.slice A l.length c))(hy:ev e y=some (.slice A2 l2.length c2))(hT:SliceT P T E)(hi:InfoT P E sz bytes)(hsz:∀ x,(enc x).length=sz)(ho:Rd w B E enc A l)(hr:Rd w B2 E enc A2 l2)(hc:c=l.length)(hl:l≠[])(hl2:l2≠[])(h63:l.length+l2.length≤maxLen)(hbytes:(l.length+l2.length)*bytes≤140737488355328) : EfW P ⟨d,.call ⟨.builtin .append,#[x,y],#[T,T]⟩,ty,pos,af,g⟩ n e w (fun v w'=>∃ A' c',v=.slice A' (l++l2).length c'∧Own w' w.heap.size E sz enc A' c' (l++l2)∧Below w.heap.size w w'):=fun a hf=>Xa5 hf hx hy hT hi hsz ho hr hc hl hl2 h63 hbytes
end
abbrev wr(i:Int) : Int:=IntKind.i64.wrap i
theorem X0f{i:Int}(h1:-9223372036854775808≤i)(h2:i≤9223372036854775807) : wr i=i:=IntWalk.i64_in _ ⟨h1,h2⟩
structure Rg where (a b c d:Int) deriving DecidableEq
structure Dy where (num:Rg) (exp:Int) deriving DecidableEq
structure Gt where (k a b:Int) deriving DecidableEq
def encI(i:Int) : List Value:=[.int .i64 i]
def encR(r:Rg) : List Value:=[.int .i64 r.a,.int .i64 r.b,.int .i64 r.c,.int .i64 r.d]
def encD(x:Dy) : List Value:=[.int .i64 x.num.a,.int .i64 x.num.b,.int .i64 x.num.c,.int .i64 x.num.d,.int .i64 x.exp]
def encG(x:Gt) : List Value:=[.int .i64 x.k,.int .i64 x.a,.int .i64 x.b]
theorem X6:∀ x,(encI x).length=1:=fun _=>rfl
theorem Xeo:∀ x,(encR x).length=4:=fun _=>rfl
theorem X1k:∀ x,(encD x).length=5:=fun _=>rfl
theorem X0d:∀ x,(encG x).length=3:=fun _=>rfl
theorem X1n:∀ x,(encI x).all one=true:=fun _=>rfl
theorem X9p:∀ x,(encD x).all one=true:=fun _=>rfl
theorem X45:∀ x,(encG x).all one=true:=fun _=>rfl
abbrev rV(r:Rg) : Value:=.agg #[.int .i64 r.a,.int .i64 r.b,.int .i64 r.c,.int .i64 r.d]
abbrev dV(x:Dy) : Value:=.agg #[.int .i64 x.num.a,.int .i64 x.num.b,.int .i64 x.num.c,.int .i64 x.num.d,.int .i64 x.exp]
abbrev gV(x:Gt) : Value:=.agg #[.int .i64 x.k,.int .i64 x.a,.int .i64 x.b]
def inR(n lo hi:Int) : Bool:=decide (lo≤n)&&decide (n≤hi)
def rOk(x:Rg) : Bool:=inR x.a (-1000000000) 1000000000&&inR x.b (-1000000000) 1000000000&&inR x.c (-1000000000) 1000000000&&inR x.d (-1000000000) 1000000000
def rAdd(x y:Rg) : Rg:=⟨wr (x.a+y.a),wr (x.b+y.b),wr (x.c+y.c),wr (x.d+y.d)⟩
def rNeg(x:Rg) : Rg:=⟨wr (-x.a),wr (-x.b),wr (-x.c),wr (-x.d)⟩
def rMul(x y:Rg) : Rg:=
 ⟨wr (wr (wr (wr (x.a*y.a)-wr (x.b*y.d))-wr (x.c*y.c))-wr (x.d*y.b)),
 wr (wr (wr (wr (x.a*y.b)+wr (x.b*y.a))-wr (x.c*y.d))-wr (x.d*y.c)),
 wr (wr (wr (wr (x.a*y.c)+wr (x.b*y.b))+wr (x.c*y.a))-wr (x.d*y.d)),
 wr (wr (wr (wr (x.a*y.d)+wr (x.b*y.c))+wr (x.c*y.b))+wr (x.d*y.a))⟩
def rRoot(x:Rg) : Rg:=⟨wr (x.b-x.d),wr (x.a+x.c),wr (x.b+x.d),wr (x.c-x.a)⟩
def rEven(x:Rg) : Bool:=(wr (x.a+x.c)).tmod 2==0&&(wr (x.b+x.d)).tmod 2==0
def rHalf(x:Rg) : Rg:=⟨wr ((rRoot x).a.tdiv 2),wr ((rRoot x).b.tdiv 2),wr ((rRoot x).c.tdiv 2),wr ((rRoot x).d.tdiv 2)⟩
def rOm(x:Rg) : Rg:=⟨wr (-x.d),x.a,x.b,x.c⟩
def rTurnN:Nat→Rg→Rg
 | 0,x=>x
 | k+1,x=>rTurnN k (rOm x)
def turns(k:Int) : Int:=(wr (k.tmod 8+8)).tmod 8
def rTurn(x:Rg)(k:Int) : Rg:=rTurnN (turns k).toNat x
def lowN:Nat→Rg→Rg×Nat
 | 0,x=>(x,0)
 | m+1,x=>if rEven x then lowN m (rHalf x) else (x,m+1)
def dLow(x:Rg)(exp:Int) : Dy:=⟨(lowN exp.toNat x).1,if 0<exp then ((lowN exp.toNat x).2:Int) else exp⟩
def dPow(k:Int) : Dy:=⟨rTurn ⟨1,0,0,0⟩ k,0⟩
def dNeg(x:Dy) : Dy:=⟨rNeg x.num,x.exp⟩
def dZ:Dy:=⟨⟨0,0,0,0⟩,0⟩
theorem X49{x:Rg}{exp:Int}(h0:0<exp)(he:rEven x=true) : dLow x exp=dLow (rHalf x) (exp-1):=by
 obtain ⟨m,hm⟩ : ∃ m:Nat,exp=m+1:=⟨(exp-1).toNat,by omega⟩
 subst hm
 have e1:((m:Int)+1).toNat=m+1:=by omega
 have e2:((m:Int)+1-1)=m:=by omega
 unfold dLow
 rw [e1,e2,Int.toNat_natCast]
 simp only [lowN,he,if_true,h0]
 cases m with
 | zero=>simp [lowN]
 | succ k=>simp
theorem X23{x:Rg}{exp:Int}(h:0<exp→rEven x=false) : dLow x exp=⟨x,exp⟩:=by
 unfold dLow
 by_cases h0:0<exp
 ·obtain ⟨m,hm⟩ : ∃ m:Nat,exp=m+1:=⟨(exp-1).toNat,by omega⟩
  subst hm
  have e1:((m:Int)+1).toNat=m+1:=by omega
  rw [e1]
  simp only [lowN,h h0,Bool.false_eq_true,if_false,h0,if_true]
  rfl
 ·have e1:exp.toNat=0:=by omega
  rw [e1]
  simp [lowN,h0]
section
variable {α : Type} {p : α → Bool} {l : List α} {k : Nat} {u : α}
theorem X2a(h:(l.take k).all p=true)(hu:l[k]? = some u)(hp:p u=true) : (l.take (k+1)).all p=true:=by
 rw [List.take_add_one,hu]
 simp only [List.all_append,h,Option.toList_some,List.all_cons,hp,List.all_nil,Bool.and_self]
theorem Xak(hu:l[k]? = some u)(hp:p u=false) : l.all p=false:=by
 obtain ⟨h1,h2⟩:=List.getElem?_eq_some_iff.1 hu
 subst h2
 rw [List.all_eq_false]
 exact ⟨_,List.getElem_mem h1,by simp [hp]⟩
theorem X24(h:(l.take k).all p=true)(hk:l.length≤k) : l.all p=true:=by rwa [List.take_of_length_le hk] at h
end
theorem X3c{α:Type}{p:α→Bool}{l:List α}{k:Nat}{u:α}(hu:l[k]? = some u)(hp:p u=true) : l.any p=true:=by
 obtain ⟨h1,h2⟩:=List.getElem?_eq_some_iff.1 hu
 subst h2
 exact List.any_eq_true.2 ⟨_,List.getElem_mem h1,hp⟩
theorem X2v{α:Type}{p:α→Bool}{l:List α}(h:l.all (fun x=>!p x)=true) : l.any p=false:=by
 rw [List.any_eq_false]
 intro x hx
 have:=List.all_eq_true.1 h x hx
 simpa using this
theorem X3y(k:Int) : 0≤turns k∧turns k<8:=by
 have h1:-8<k.tmod 8∧k.tmod 8<8:=by
  rcases Int.le_total 0 k with h|h
  ·rw [Int.tmod_eq_emod_of_nonneg h];omega
  ·have h2:(-k).tmod 8 = -(k.tmod 8):=Int.neg_tmod _ _
   rw [Int.tmod_eq_emod_of_nonneg (by omega)] at h2
   omega
 unfold turns
 rw [X0f (by omega) (by omega)]
 have h4:0≤k.tmod 8+8:=by omega
 rw [Int.tmod_eq_emod_of_nonneg h4]
 omega
def rIf2(x:Rg)(l:List Rg) : Bool:=(l++[x]).all rOk
def rIf1(x:Rg)(l:List Rg) : Rg:=if rIf2 x l=true then x else ⟨0,0,0,0⟩
def rDiv2(x:Rg) : Bool:=rOk x&&rEven x
def rDiv1(x:Rg) : Rg:=if rDiv2 x=true then rHalf x else ⟨0,0,0,0⟩
theorem Xo{n lo hi:Int} : inR n lo hi=true↔lo≤n∧n≤hi:=by simp [inR]
theorem X28{x:Rg} : rOk x=true↔(-1000000000≤x.a∧x.a≤1000000000)∧(-1000000000≤x.b∧x.b≤1000000000)∧(-1000000000≤x.c∧x.c≤1000000000)∧(-1000000000≤x.d∧x.d≤1000000000):=by
 simp only [rOk,Bool.and_eq_true,Xo,and_assoc]
theorem Xf3{i:Int}(h1:-2000000000≤i)(h2:i≤2000000000) : -1000000000≤i.tdiv 2∧i.tdiv 2≤1000000000:=by
 rcases Int.le_total 0 i with h|h
 ·rw [Int.tdiv_eq_ediv_of_nonneg h];omega
 ·have h3:(-i).tdiv 2 = -(i.tdiv 2):=Int.neg_tdiv _ _
  rw [Int.tdiv_eq_ediv_of_nonneg (by omega)] at h3
  omega
theorem X4j{i:Int}(h1:-2000000000≤i)(h2:i≤2000000000) : -1000000000≤wr ((wr i).tdiv 2)∧wr ((wr i).tdiv 2)≤1000000000:=by
 rw [X0f (i:=i) (by omega) (by omega)]
 have:=Xf3 h1 h2
 rw [X0f (by omega) (by omega)]
 exact this
theorem X75{x:Rg}(h:rOk x=true) : rOk (rHalf x)=true:=by
 rw [X28] at h ⊢
 exact ⟨X4j (by omega) (by omega),X4j (by omega) (by omega),X4j (by omega) (by omega),X4j (by omega) (by omega)⟩
theorem Xlh{x:Rg}(h:rOk x=true) : rIf2 (rHalf x) [x]=true:=by simp [rIf2,h,X75 h]
def mulOm2(x:Rg)(k:Int) : Bool:=inR k (-1000) 1000&&rOk x
def mulOm1(x:Rg)(k:Int) : Rg:=if mulOm2 x k=true then rTurn x k else ⟨0,0,0,0⟩
def dOk(x:Dy) : Bool:=rOk x.num&&inR x.exp 0 60&&(x.exp==0||!rEven x.num)
theorem X27{x:Dy}(h:dOk x=true) : 0≤x.exp∧x.exp≤60:=by
 simp only [dOk,Bool.and_eq_true,Xo] at h
 exact h.1.2
theorem Xau{a b c:Bool}(h:(!a||!b||!c)=true) : (a&&b&&c)=false:=by revert h;cases a<;>cases b<;>cases c<;>simp
theorem Xdt{a b c:Bool}(h:(!a||!b||!c)=false) : (a&&b&&c)=true:=by revert h;cases a<;>cases b<;>cases c<;>simp
theorem X7x{a b:Bool}(h:(!a||!b)=true) : (a&&b)=false:=by revert h;cases a<;>cases b<;>simp
theorem X9k{a b:Bool}(h:(!a||!b)=false) : (a&&b)=true:=by revert h;cases a<;>cases b<;>simp
theorem Xtx{a b c:Bool}(h:(a&&b&&c)=true) : a=true∧b=true∧c=true:=by revert h;cases a<;>cases b<;>cases c<;>simp
def dOf(x:Rg)(m:Int) : Option Dy:=if (rOk x&&inR m 0 60)=true then some (dLow x m) else none
def raiseI:Nat→Rg→Rg×Bool
 | 0,y=>(y,true)
 | n+1,y=>if rIf2 (rRoot y) [y]=true then raiseI n (rRoot y) else (⟨0,0,0,0⟩,false)
def dRaise(x:Dy)(m:Int) : Rg×Bool:=raiseI (m-x.exp).toNat x.num
theorem Xf2{x:Dy}{m j:Int}{y:Rg}{b:Bool}(h:(if b=true then raiseI (m-j).toNat y else (y,false))=dRaise x m)(hb:b=true)(hj:j<m) :
  (if rIf2 (rRoot y) [y]=true then raiseI (m-(j+1)).toNat (rIf1 (rRoot y) [y]) else (rIf1 (rRoot y) [y],false))=dRaise x m:=by
 rw [← h,if_pos hb]
 obtain ⟨k,hk⟩ : ∃ k,(m-j).toNat=k+1:=⟨(m-j).toNat-1,by omega⟩
 rw [hk,show (m-(j+1)).toNat=k from by omega]
 unfold rIf1
 by_cases hh:rIf2 (rRoot y) [y]=true<;>simp [raiseI,hh]
def dAddI(x y:Dy) : Option Dy:=
 if (dOk x&&dOk y)=true then
  if ((dRaise x (max x.exp y.exp)).2&&(dRaise y (max x.exp y.exp)).2&&rIf2 (rAdd (dRaise x (max x.exp y.exp)).1 (dRaise y (max x.exp y.exp)).1) [(dRaise x (max x.exp y.exp)).1,(dRaise y (max x.exp y.exp)).1])=true then
   dOf (rIf1 (rAdd (dRaise x (max x.exp y.exp)).1 (dRaise y (max x.exp y.exp)).1) [(dRaise x (max x.exp y.exp)).1,(dRaise y (max x.exp y.exp)).1]) (max x.exp y.exp)
  else none
 else none
def dMulI(x y:Dy) : Option Dy:=
 if (dOk x&&dOk y&&rIf2 (rMul x.num y.num) [x.num,y.num])=true then dOf (rIf1 (rMul x.num y.num) [x.num,y.num]) (x.exp+y.exp) else none
structure Mx where (rows cols:Int) (cells:List Dy)
def mZ:Mx:=⟨0,0,[]⟩
abbrev mV(A:Option Addr)(c:Nat)(m:Mx) : Value:=.agg #[.int .i64 m.rows,.int .i64 m.cols,.slice A m.cells.length c]
def isDimB(n:Int) : Bool:=inR n 1 32&&bits .and .i64 n (wr (n-1))==0
def mOk(m:Mx) : Bool:=isDimB m.rows&&isDimB m.cols&&(m.cells.length:Int)==wr (m.rows*m.cols)&&!(m.cells.any fun x=>!dOk x)
def seqO(g:Nat→Option Dy) : Nat→Option (List Dy)
 | 0=>some []
 | n+1=>match seqO g n,g n with
  | some l,some x=>some (l++[x])
  | _,_=>none
theorem X7e{g:Nat→Option Dy}{n:Nat}{l:List Dy}{x:Dy}(h:seqO g n=some l)(hx:g n=some x) : seqO g (n+1)=some (l++[x]):=by simp [seqO,h,hx]
theorem Xad{g:Nat→Option Dy}{n:Nat}(hx:g n=none) : ∀ m,n<m→seqO g m=none
 | 0,h=>by omega
 | m+1,h=>by
  by_cases hm:n=m
  ·subst hm
   simp only [seqO,hx]
   split<;>simp_all
  ·simp only [seqO,Xad hx m (by omega)]
theorem X56{g:Nat→Option Dy} : ∀ {n:Nat} {l:List Dy},seqO g n=some l→l.length=n
 | 0,l,h=>by simp [seqO] at h;subst h;rfl
 | n+1,l,h=>by
  simp only [seqO] at h
  split at h
  ·rename_i l' x h1 h2
   injection h with h
   subst h
   simp [X56 h1]
  ·cases h
def gridG(f:Nat→Nat→Option Dy)(C:Nat)(n:Nat) : Option Dy:=f (n/C) (n % C)
theorem X8u{f:Nat→Nat→Option Dy}{C i j:Nat}(hj:j<C) : gridG f C (i*C+j)=f i j:=by
 unfold gridG
 have h1:(i*C+j)/C=i:=by rw [Nat.mul_comm,Nat.mul_add_div (by omega),Nat.div_eq_of_lt hj];omega
 have h2:(i*C+j) % C=j:=by rw [Nat.mul_comm,Nat.mul_add_mod,Nat.mod_eq_of_lt hj]
 rw [h1,h2]
def matOf(R C:Int)(f:Nat→Nat→Option Dy) : Option Mx:=
 if (isDimB R&&isDimB C)=true then (seqO (gridG f C.toNat) (R.toNat*C.toNat)).map fun l=>⟨R,C,l⟩ else none
def Mx.at(m:Mx)(i j:Nat) : Dy:=m.cells.getD (i*m.cols.toNat+j) dZ
theorem Mx.at_get{m:Mx}{i j:Nat}(h:i*m.cols.toNat+j<m.cells.length) : m.cells[i*m.cols.toNat+j]? = some (m.at i j):=by
 rw [Mx.at,List.getD_eq_getElem?_getD,List.getElem?_eq_getElem h];rfl
theorem X2q{n:Int}(h:isDimB n=true) : 1≤n∧n≤32:=by
 simp only [isDimB,Bool.and_eq_true,Xo] at h
 exact h.1
theorem X3g{m:Mx}(h:mOk m=true) : (1≤m.rows∧m.rows≤32)∧(1≤m.cols∧m.cols≤32)∧m.cells.length=m.rows.toNat*m.cols.toNat:=by
 simp only [mOk,Bool.and_eq_true,beq_iff_eq] at h
 obtain ⟨⟨⟨h1,h2⟩,h3⟩,h4⟩:=h;have h1:=X2q h1;have h2:=X2q h2
 refine ⟨h1,h2,?_⟩
 obtain ⟨r,hr⟩ : ∃ r:Nat,m.rows=r:=⟨m.rows.toNat,by omega⟩
 obtain ⟨c,hc⟩ : ∃ c:Nat,m.cols=c:=⟨m.cols.toNat,by omega⟩
 rw [hr] at h1
 rw [hc] at h2
 rw [hr,hc] at h3 ⊢
 have h5:r*c≤32*32:=Nat.mul_le_mul (by omega) (by omega)
 rw [← Int.natCast_mul,X0f (by omega) (by omega)] at h3
 simp only [Int.toNat_natCast]
 exact Int.natCast_inj.1 h3
theorem X4q{R C i j:Nat}(hi:i<R)(hj:j<C) : i*C+j<R*C:=by
 have h1:(i+1)*C≤R*C:=Nat.mul_le_mul_right _ hi
 rw [Nat.add_mul] at h1
 omega
def dotI(a b:Mx)(i j:Nat) : Nat→Option Dy
 | 0=>some dZ
 | n+1=>(dotI a b i j n).bind fun s=>(dMulI (a.at i n) (b.at n j)).bind fun x=>dAddI s x
theorem Xay{a b:Mx}{i j n:Nat}(h:dotI a b i j n=none) : ∀ m,n≤m→dotI a b i j m=none
 | 0,h'=>by
  obtain rfl:n=0:=by omega
  exact h
 | m+1,h'=>by
  by_cases hm:n=m+1
  ·subst hm;exact h
  ·simp [dotI,Xay h m (by omega)]
def mulI(a b:Mx) : Option Mx:=if (mOk a&&mOk b&&a.cols==b.rows)=true then matOf a.rows b.cols fun i j=>dotI a b i j a.cols.toNat else none
def idI(n:Int) : Option Mx:=matOf n n fun i j=>some (if i=j then ⟨⟨1,0,0,0⟩,0⟩ else dZ)
def scaleI(m:Mx)(x:Dy) : Option Mx:=if (mOk m&&dOk x)=true then matOf m.rows m.cols fun i j=>dMulI (m.at i j) x else none
set_option maxRecDepth 8000
theorem X7s{P:Program}{t:TypeId}{fs:Array Field}(h:P.underlying t=some (.struct fs)) : P.fieldsOf t=fs:=by simp [Program.fieldsOf,h]
theorem X7z{P:Program}{w:World}{t k:Nat}{xs:Array Value}{v:Value}(h1:OneT P t)(h:xs[k]? = some v) : (part t xs k).run P w=.ok v w:=by
 simp [part,X5w h1,h]
theorem X1r {P : Program} {w : World} {d : Nat} {xs ys : Array Value} {f : Field} {fs : List Field} {k : IntKind} {i j : Int} (hn : f.name ≠ "_") (hT : OneT P f.type) (hu : P.underlying f.type = some (.int k)) (hx : xs[f.offset]? = some (.int .i64 i)) (hy : ys[f.offset]? = some (.int .i64 j))
  {r:Bool} (h:i=j→(Op.eqFields (d+1) xs ys fs).run P w=.ok r w) : (Op.eqFields (d+1) xs ys (f::fs)).run P w=.ok (decide (i=j)&&r) w:=by
 simp only [Op.eqFields,hn,ne_eq,not_false_eq_true,if_true,Sem.run_bind,X7z hT hx,X7z hT hy,Result.andThen_ok,run_equalIn_int _ _ _ _ _ _ _ hu]
 by_cases hij:i=j
 ·subst hij
  simp [h rfl]
 ·simp [hij]
theorem eqR(d:Nat)(x y:Rg)(w:World) : (Op.equalIn (d+2) 96 (rV x) (rV y)).run Tryz.prog w=.ok (decide (x=y)) w:=by
 have hf:=X7s Tryz.underlying96;refine (run_equalIn_struct w (d+1) 96 _ _ (by rw [hf];exact Tryz.underlying96) (by kernel_rfl)).trans ?_
 rw [hf]
 have:decide (x=y)=(decide (x.a=y.a)&&(decide (x.b=y.b)&&(decide (x.c=y.c)&&(decide (x.d=y.d)&&true)))):=by
  obtain ⟨a,b,c,d⟩:=x;obtain ⟨a',b',c',d'⟩:=y
  simp
 rw [this]
 refine X1r (by decide) X4 Tryz.underlying3 rfl rfl fun _=>?_;refine X1r (by decide) X4 Tryz.underlying3 rfl rfl fun _=>?_;refine X1r (by decide) X4 Tryz.underlying3 rfl rfl fun _=>?_;refine X1r (by decide) X4 Tryz.underlying3 rfl rfl fun _=>?_
 rfl
theorem X48{P:Program}{w:World}{t k n:Nat}{xs:Array Value}(h1:AggT P t n) : (part t xs k).run P w=.ok (.agg (xs.extract k (k+n))) w:=by
 simp [part,X5z h1,run_sizeOf' h1.2]
theorem Xbz {P : Program} {w : World} {d n : Nat} {xs ys : Array Value} {f : Field} {fs : List Field} {v1 v2 : Value} {b r : Bool} (hn : f.name ≠ "_") (hT : AggT P f.type n) (hx : .agg (xs.extract f.offset (f.offset + n)) = v1) (hy : .agg (ys.extract f.offset (f.offset + n)) = v2)
  (he:(Op.equalIn d f.type v1 v2).run P w=.ok b w) (h:b=true→(Op.eqFields d xs ys fs).run P w=.ok r w) : (Op.eqFields d xs ys (f::fs)).run P w=.ok (b&&r) w:=by
 simp only [Op.eqFields,hn,ne_eq,not_false_eq_true,if_true,Sem.run_bind,X48 hT,Result.andThen_ok,hx,hy,he]
 cases b
 ·simp
 ·simp [h rfl]
theorem eqD(d:Nat)(x y:Dy)(w:World) : (Op.equalIn (d+3) 98 (dV x) (dV y)).run Tryz.prog w=.ok (decide (x=y)) w:=by
 have hf:=X7s Tryz.underlying98;refine (run_equalIn_struct w (d+2) 98 _ _ (by rw [hf];exact Tryz.underlying98) (by kernel_rfl)).trans ?_
 rw [hf]
 have:decide (x=y)=(decide (x.num=y.num)&&(decide (x.exp=y.exp)&&true)):=by
  obtain ⟨a,b⟩:=x;obtain ⟨a',b'⟩:=y
  simp
 rw [this]
 refine Xbz (v1:=rV x.num) (v2:=rV y.num) (by decide) X0a rfl rfl (eqR d _ _ _) fun _=>?_;exact X1r (by decide) X4 Tryz.underlying3 rfl rfl fun _=>rfl
theorem Xkc(d:Nat)(x y:Gt)(w:World) : (Op.equalIn (d+2) 24 (gV x) (gV y)).run Tryz.prog w=.ok (decide (x=y)) w:=by
 have hf:=X7s Tryz.underlying24;refine (run_equalIn_struct w (d+1) 24 _ _ (by rw [hf];exact Tryz.underlying24) (by kernel_rfl)).trans ?_
 rw [hf]
 have:decide (x=y)=(decide (x.k=y.k)&&(decide (x.a=y.a)&&(decide (x.b=y.b)&&true))):=by
  obtain ⟨a,b,c⟩:=x;obtain ⟨a',b',c'⟩:=y
  simp
 rw [this]
 refine X1r (by decide) X4 Tryz.underlying3 rfl rfl fun _=>?_;refine X1r (by decide) X4 Tryz.underlying3 rfl rfl fun _=>?_;refine X1r (by decide) X4 Tryz.underlying3 rfl rfl fun _=>?_
 rfl
section
variable {P : Program} {a : Act} {w : World} {n : Nat} {e : Env} {ty : TypeId} {pos : String} {af : Array Edge} {g : Option (Nat × Bool)} {d : Option Tmp} {t t' : TypeId} {x y : Operand} {X Y : Array Value} {b : Bool}
theorem Xmt(hf:Fr a n e)(hx:ev e x=some (.agg X))(hy:ev e y=some (.agg Y))(hm:P.eqGuardType P.depth t=false)(he:∀ w,(Op.equalIn 10000 t (.agg X) (.agg Y)).run P w=.ok b w) : Ev P ⟨d,.binOp .neq t x y t',ty,pos,af,g⟩ a w (.bool (!b)):=fun w' _=>by
 have h1:=run_eqGuard_agg (P:=P) w' .neq t x y X Y hm;have h2:=run_neq_struct (P:=P) w' t X Y
 rw [he] at h2
 simp [execOp,hf.ev hx,hf.ev hy,h1,h2]
theorem Xpb(hx:ev e x=some (.agg X))(hy:ev e y=some (.agg Y))(hm:P.eqGuardType P.depth t=false)(he:∀ w,(Op.equalIn 10000 t (.agg X) (.agg Y)).run P w=.ok b w) : EvW P ⟨d,.binOp .neq t x y t',ty,pos,af,g⟩ n e w (.bool (!b)):=fun a hf=>Xmt hf hx hy hm he
end
theorem Xko:Tryz.prog.eqGuardType Tryz.prog.depth 98=false:=by kernel_rfl
theorem Xh8{α:Type}{l m:List α}{k:Nat}{u v:α}(h:l.take k=m.take k)(hu:l[k]? = some u)(hv:m[k]? = some v)(he:u=v) : l.take (k+1)=m.take (k+1):=by
 rw [List.take_add_one,List.take_add_one,h,hu,hv,he]
theorem Xqe{P:Program}{a:Act}{w:World}{n:Nat}{e:Env}{ty:TypeId}{pos:String}{af:Array Edge}{g:Option (Nat×Bool)}{d:Option Tmp}{s t:TypeId}{x:Operand}{i:Int}{m:Nat}(hs:P.underlying s=some (.int .i64))(ht:P.underlying t=some (.int .u64))(hf:Fr a n e)(hx:ev e x=some (.int .i64 i))(hi:i=(m:Int))(hm:m≤64) :
  Ev P ⟨d,.convert s t x,ty,pos,af,g⟩ a w (.int .u64 (m:Int)):=fun w' _=>by
 subst hi
 have h:IntKind.u64.wrap (m:Int)=(m:Int):=by
  simp only [IntKind.wrap]
  simp only [IntKind.bits,IntKind.signed,Bool.false_and,Bool.false_eq_true,if_false]
  omega
 simp [execOp,hf.ev hx,convert,X0e hs,X0e ht,Conv.intToInt,h]
theorem Xif{P:Program}{w:World}{n:Nat}{e:Env}{ty:TypeId}{pos:String}{af:Array Edge}{g:Option (Nat×Bool)}{d:Option Tmp}{s t:TypeId}{x:Operand}{i:Int}{m:Nat}(hs:P.underlying s=some (.int .i64))(ht:P.underlying t=some (.int .u64))(hx:ev e x=some (.int .i64 i))(hi:i=(m:Int))(hm:m≤64) : EvW P ⟨d,.convert s t x,ty,pos,af,g⟩ n e w (.int .u64 (m:Int)):=fun a hf=>Xqe hs ht hf hx hi hm
def bitF(n s q:Int) : Int:=bits .and .i64 (s/2^(n-1-q).toNat) 1
def flipF(n s q:Int) : Int:=bits .xor .i64 s (wr (1*2^(n-1-q).toNat))
def turnOf(k:Int) : Int:=if k=4 then 4 else if k=5 then 2 else if k=6 then 6 else if k=7 then 1 else 7
theorem Xlp{k:Int}(h1:4≤k)(h2:k≤8) : ([4,2,6,1,7] : List Int)[(k-4).toNat]? = some (turnOf k):=by
 have:k=4∨k=5∨k=6∨k=7∨k=8:=by omega
 rcases this with rfl|rfl|rfl|rfl|rfl<;>rfl
def dHalf:Dy:=⟨⟨1,0,0,0⟩,1⟩
def oneL(k:Int) : List Dy:=
 if k=1 then [dHalf,dHalf,dHalf,dNeg dHalf] else if k=2 then [dZ,dPow 0,dPow 0,dZ] else if k=3 then [dZ,dPow 6,dPow 2,dZ] else [dPow 0,dZ,dZ,dPow (turnOf k)]
theorem Own.of_blkL{α:Type}{w:World}{B0 b k:Nat}{E:TypeId}{sz:Nat}{enc:α→List Value}{cs:List Value}{l:List α}(hsz:∀ x,(enc x).length=sz)(h:Blk w b E cs)(hb:B0≤b)(hc:l.flatMap enc=cs)(hl:l.length=k)(hk:k≤maxLen) : Own w B0 E sz enc (some ⟨b,0,none⟩) k l:=by
 subst hc;subst hl
 have h1:=X04 hsz l
 refine ⟨h1,.inr ⟨b,l.length,_,rfl,hb,h,Nat.le_refl _,hk,?_,?_⟩⟩
 ·simpa using h1
 ·rw [← h1];exact List.take_length
structure Cx where (n:Int) (gs:List Gt)
def gOk(n:Int)(x:Gt) : Bool:=
 inR n 1 5&&inR x.k 1 12&&(if x.k=12 then x.a==0&&x.b==0 else if inR x.k 9 11=true then inR x.a 0 (n-1)&&inR x.b 0 (n-1)&&x.a != x.b else inR x.a 0 (n-1)&&x.b==0)
def cOk(c:Cx) : Bool:=inR c.n 1 5&&decide ((c.gs.length:Int)≤400)&&!(c.gs.any fun x=>!gOk c.n x)
def eqPhT(p q:Mx)(k:Nat) : Bool:=(scaleI q (dPow k)).isSome&&(decide (p.rows=((scaleI q (dPow k)).getD mZ).rows)&&decide (p.cols=((scaleI q (dPow k)).getD mZ).cols)&&decide (p.cells=((scaleI q (dPow k)).getD mZ).cells))
def eqPh(p q:Mx) : Bool:=(List.range 8).any (eqPhT p q)
def sRing(x:Rg) : Rg:=if rOk x=true then x else ⟨0,0,0,0⟩
def sRaiseN:Nat→Bool→Dy→Bool×Dy
 | 0,f,x=>(f,x)
 | n+1,f,x=>sRaiseN n (f||!rOk (rRoot x.num)) ⟨sRing (rRoot x.num),x.exp+1⟩
def sAdd(f:Bool)(x y:Dy) : Bool×Dy:=
 ((sRaiseN ((sRaiseN (y.exp-x.exp).toNat f x).2.exp-y.exp).toNat (sRaiseN (y.exp-x.exp).toNat f x).1 y).1||!rOk (rAdd (sRaiseN (y.exp-x.exp).toNat f x).2.num (sRaiseN ((sRaiseN (y.exp-x.exp).toNat f x).2.exp-y.exp).toNat (sRaiseN (y.exp-x.exp).toNat f x).1 y).2.num),
 dLow (sRing (rAdd (sRaiseN (y.exp-x.exp).toNat f x).2.num (sRaiseN ((sRaiseN (y.exp-x.exp).toNat f x).2.exp-y.exp).toNat (sRaiseN (y.exp-x.exp).toNat f x).1 y).2.num)) (sRaiseN (y.exp-x.exp).toNat f x).2.exp)
def sMul(f:Bool)(x y:Dy) : Bool×Dy:=
 if 60<x.exp+y.exp then (true,dZ) else (f||!rOk (rMul x.num y.num),dLow (sRing (rMul x.num y.num)) (x.exp+y.exp))
theorem X8e{f1 f:Bool}{x1 x:Dy}{m:Int}{k:Nat}(h:sRaiseN (m-x1.exp).toNat f1 x1=sRaiseN k f x)(hlt:x1.exp<m) :
  sRaiseN (m-(x1.exp+1)).toNat (f1||!rOk (rRoot x1.num)) ⟨sRing (rRoot x1.num),x1.exp+1⟩=sRaiseN k f x:=by
 rw [← h]
 obtain ⟨j,hj⟩ : ∃ j,(m-x1.exp).toNat=j+1:=⟨(m-x1.exp).toNat-1,by omega⟩
 rw [hj,show (m-(x1.exp+1)).toNat=j from by omega]
 rfl
theorem X83{f1 f:Bool}{x1 x:Dy}{m:Int}{k:Nat}(h:sRaiseN (m-x1.exp).toNat f1 x1=sRaiseN k f x)(hlt:¬ x1.exp<m) : sRaiseN k f x=(f1,x1):=by
 rw [← h,show (m-x1.exp).toNat=0 from by omega]
 rfl
theorem X2p(n s q:Int) : bitF n s q=0∨bitF n s q=1:=by
 have key:∀ b:BitVec 64,IntKind.i64.wrap ((b &&& BitVec.ofInt 64 1).toNat:Int)=0∨IntKind.i64.wrap ((b &&& BitVec.ofInt 64 1).toNat:Int)=1:=fun b=>by
  have:(BitVec.ofInt 64 1).toNat=1:=by decide
  have h:(b &&& BitVec.ofInt 64 1).toNat=0∨(b &&& BitVec.ofInt 64 1).toNat=1:=by
   rw [BitVec.toNat_and,this,Nat.and_one_is_mod]
   omega
  rcases h with h|h<;>rw [h]
  ·exact .inl rfl
  ·exact .inr rfl
 exact key _
theorem X11{n:Int}{g:Gt}(h:gOk n g=true) : (1≤n∧n≤5)∧(1≤g.k∧g.k≤12)∧(g.k≠12→0≤g.a∧g.a<n)∧(9≤g.k∧g.k≤11→0≤g.b∧g.b<n∧g.a≠g.b):=by
 simp only [gOk,Bool.and_eq_true,Xo] at h
 obtain ⟨⟨h1,h2⟩,h3⟩:=h
 refine ⟨h1,h2,fun hk=>?_,fun hk=>?_⟩
 ·rw [if_neg hk] at h3
  split at h3<;>simp only [Bool.and_eq_true,Xo] at h3<;>omega
 ·rw [if_neg (by omega),if_pos hk] at h3
  simp only [Bool.and_eq_true,Xo,bne_iff_ne] at h3
  exact ⟨h3.1.2.1,by omega,h3.2⟩
def toS(n:Int)(g:Gt)(col:Int) : Int:=
 if g.k=9 then (if bitF n col g.a=1 then flipF n col g.b else col) else if g.k=11 then (if bitF n col g.a≠bitF n col g.b then flipF n (flipF n col g.a) g.b else col) else col
def valS(n:Int)(g:Gt)(col:Int) : Dy:=if g.k=12 then dPow 1 else if g.k=10∧bitF n col g.a=1∧bitF n col g.b=1 then dPow 4 else dPow 0
def cellS(n:Int)(g:Gt)(row col:Int) : Dy:=
 if g.k≤8 then (if bits .andNot .i64 (bits .xor .i64 row col) (wr (1*2^(n-1-g.a).toNat))≠0 then dZ else (oneL g.k).getD (2*bitF n row g.a+bitF n col g.a).toNat dZ)
 else if row=toS n g col then valS n g col else dZ
theorem Xk2(k:Int) : (oneL k).length=4:=by unfold oneL;split<;>(try split)<;>(try split)<;>rfl
theorem Xkh{k:Int}{m:Nat}(h:m<4) : (oneL k)[m]? = some ((oneL k).getD m dZ):=by
 rw [List.getD_eq_getElem?_getD,List.getElem?_eq_getElem (by rw [Xk2];exact h)];rfl
theorem X17{i j:Int}(h:(i==j)=false) : ¬ i=j:=by simpa using h
theorem Xmw{P:Program}{a:Act}{w:World}{n:Nat}{e:Env}{ty:TypeId}{pos:String}{af:Array Edge}{g:Option (Nat×Bool)}{d:Option Tmp}{t t':TypeId}{x y:Operand}{j:Int}{k:IntKind}{m D:Nat}(hf:Fr a n e)(hx:ev e x=some (.int .i64 1))(hy:ev e y=some (.int k j))(hj:j=(m:Int))(hD:D=2^m∧m≤30) : Ev P ⟨d,.binOp .shl t x y t',ty,pos,af,g⟩ a w (.int .i64 (D:Int)):=by
 have h:=Xm1 (P:=P) (w:=w) (d:=d) (ty:=ty) (pos:=pos) (af:=af) (g:=g) (t:=t) (t':=t') (i:=1) hf hx hy hj (by omega)
 have h2:IntKind.i64.wrap (1*2^m)=(D:Int):=by
  rw [hD.1]
  have h3:(2:Nat)^m≤2^30:=Nat.pow_le_pow_right (by decide) hD.2
  have h4:(2:Int)^m=((2^m:Nat) : Int):=by simp
  rw [Int.one_mul,h4]
  exact IntWalk.i64_in _ ⟨by omega,by omega⟩
 rwa [h2] at h
theorem Xgn{P:Program}{w:World}{n:Nat}{e:Env}{ty:TypeId}{pos:String}{af:Array Edge}{g:Option (Nat×Bool)}{d:Option Tmp}{t t':TypeId}{x y:Operand}{j:Int}{k:IntKind}{m D:Nat}(hx:ev e x=some (.int .i64 1))(hy:ev e y=some (.int k j))(hj:j=(m:Int))(hD:D=2^m∧m≤30) : EvW P ⟨d,.binOp .shl t x y t',ty,pos,af,g⟩ n e w (.int .i64 (D:Int)):=fun a hf=>Xmw hf hx hy hj hD
def gridF(f:Nat→Nat→Dy)(C:Nat)(m:Nat) : Dy:=f (m/C) (m % C)
def gridL(f:Nat→Nat→Dy)(C:Nat)(N:Nat) : List Dy:=(List.range N).map (gridF f C)
theorem X9s{f:Nat→Nat→Dy}{C i j:Nat}(hj:j<C) : gridF f C (i*C+j)=f i j:=by
 unfold gridF
 have h1:(i*C+j)/C=i:=by rw [Nat.mul_comm,Nat.mul_add_div (by omega),Nat.div_eq_of_lt hj];omega
 have h2:(i*C+j) % C=j:=by rw [Nat.mul_comm,Nat.mul_add_mod,Nat.mod_eq_of_lt hj]
 rw [h1,h2]
theorem Xf9{f:Nat→Nat→Dy}{C i j:Nat}(hj:j<C) : gridL f C (i*C+(j+1))=gridL f C (i*C+j)++[f i j]:=by
 unfold gridL
 rw [show i*C+(j+1)=(i*C+j)+1 from rfl,List.range_succ,List.map_append,List.map_singleton,X9s hj]
theorem X3i(f:Nat→Nat→Dy)(C N:Nat) : (gridL f C N).length=N:=by simp [gridL]
def gateS(n:Int)(g:Gt) : Mx:=⟨((2^n.toNat:Nat) : Int),((2^n.toNat:Nat) : Int),gridL (fun i j=>cellS n g i j) (2^n.toNat) (2^n.toNat*2^n.toNat)⟩
theorem X6m{n:Int}(h:n≤5) : 2^n.toNat≤32:=Nat.pow_le_pow_right (n:=2) (by decide) (show n.toNat≤5 by omega)
def dTurn(k:Int)(x:Dy) : Dy:=⟨rTurn x.num k,x.exp⟩
def turnedS(p q:Mx)(k:Int) : Bool:=decide (p.rows=q.rows)&&decide (p.cols=q.cols)&&decide (p.cells=q.cells.map (dTurn k))
def phaseS(p q:Mx) : Bool:=(List.range 8).any fun k=>turnedS p q (k:Int)
section
variable {n : Int} {g : Gt} (hn : 1 ≤ n ∧ n ≤ 5)
include hn
theorem Xv7(h:inR g.k 1 8=true) : gOk n g=(inR g.a 0 (n-1)&&g.b==0):=by
 have h1:=Xo.1 h
 have e1:inR n 1 5=true:=Xo.2 hn
 have e2:inR g.k 1 12=true:=Xo.2 (by omega)
 have e3:¬ inR g.k 9 11=true:=fun h=>by have:=Xo.1 h;omega
 rw [gOk,e1,e2,if_neg (by omega),if_neg e3];rfl
theorem Xwf(h:inR g.k 9 11=true) : gOk n g=(inR g.a 0 (n-1)&&inR g.b 0 (n-1)&&g.a != g.b):=by
 have h1:=Xo.1 h
 have e1:inR n 1 5=true:=Xo.2 hn
 have e2:inR g.k 1 12=true:=Xo.2 (by omega)
 rw [gOk,e1,e2,if_neg (by omega),if_pos h];rfl
theorem Xvb(h1:inR g.k 1 8=false)(h2:inR g.k 9 11=false) : gOk n g=(g.k==12&&g.a==0&&g.b==0):=by
 have e1:inR n 1 5=true:=Xo.2 hn
 by_cases hk:g.k=12
 ·have e2:inR g.k 1 12=true:=Xo.2 (by omega)
  rw [gOk,e1,e2,if_pos hk,hk];rfl
 ·have e2:inR g.k 1 12=false:=by
   cases h:inR g.k 1 12 with
   | false=>rfl
   | true=>
    have h3:=Xo.1 h
    rcases (show g.k<9∨9≤g.k by omega) with h4|h4
    ·rw [Xo.2 (by omega)] at h1;cases h1
    ·rw [Xo.2 (by omega)] at h2;cases h2
  have e3:(g.k==12)=false:=by simpa using hk
  rw [gOk,e1,e2,e3];rfl
end
def entryI(k i j:Int) : Dy:=
 if k=1 then (if i=1∧j=1 then ⟨⟨-1,0,0,0⟩,1⟩ else dHalf) else if k=2∧i≠j then ⟨⟨1,0,0,0⟩,0⟩ else if k=3∧i≠j then dPow (2+4*j)
 else if k=2∨k=3∨i≠j then dZ else if i=0 then ⟨⟨1,0,0,0⟩,0⟩ else dPow (turnOf k)
theorem Xig{k:Int}(h1:4≤k)(h2:k≤8) : (([(4,4,0),(5,2,1),(6,6,2),(7,1,3),(8,7,4)] : List (Int×Int×Nat)).find? fun p=>p.1==k).map (fun p=>p.2.1)=some (turnOf k):=by
 have:k=4∨k=5∨k=6∨k=7∨k=8:=by omega
 rcases this with rfl|rfl|rfl|rfl|rfl<;>rfl
theorem Xi9(k:Int) : inR (turnOf k) (-1000) 1000=true:=by
 unfold turnOf;split<;>(try split)<;>(try split)<;>(try split)<;>rfl
def czI(n:Int)(g:Gt)(i:Int) : Bool:=g.k==10&&bitF n i g.a==1&&bitF n i g.b==1
def cellI(n:Int)(g:Gt)(i j:Int) : Dy:=
 if g.k=12 then (if i=j then dPow 1 else dZ)
 else if inR g.k 9 11=true then (if toS n g i=j then dPow (4*(if czI n g i=true then 1 else 0)) else dZ)
 else if i=j∨flipF n i g.a=j then entryI g.k (bitF n i g.a) (bitF n j g.a) else dZ
def gateI(n:Int)(g:Gt) : Option Mx:=if gOk n g=true then matOf ((2^n.toNat:Nat) : Int) ((2^n.toNat:Nat) : Int) fun i j=>some (cellI n g i j) else none
set_option maxRecDepth 4000
theorem F91(w0:World)(n:Int)(lo:Int)(hi:Int) : Ret Tryz.prog 120 [vi n,vi lo,vi hi] w0 (fun v w=>v=.bool (inR n lo hi)∧w0=w):=by
 refine enter Tryz.func120 rfl 15 rfl rfl ?_;intro a hf
 have hW:Below w0.heap.size w0 w0:=Below.refl _ _
 refine Zs hf fun _ hK1=>?_;refine Za rfl ?_;refine Zt hK1 fun a hf=>?_;refine wp_seq_k fun _ hK2=>?_;refine X08 (fun a w=>Fr a 15 [(6,.bool ((decide (lo≤n))&&(decide (n≤hi))))]∧w0=w) ?_ ?_
 ·refine Zr hf ?_;refine Zm rfl<|Zm rfl<|Ze (X7h rfl rfl)<|Zm rfl ?_
  refine Zg 10 rfl (fun hg3=>?_) (fun hg3=>?_)
  ·refine Zv ⟨_,_,rfl,rfl,hg3⟩ (X2 rfl) ?_;refine Zv ⟨_,_,rfl,rfl,hg3⟩ (X2 rfl) ?_;refine Zv ⟨_,_,rfl,rfl,hg3⟩ (X7h rfl rfl) ?_;refine Ze (Xb rfl hg3 rfl)<|Za rfl ?_;refine Zn fun a hf=>?_;exact ⟨hf.sub ⟨X1 rfl (by first|rfl|(simp only [hg3,bs];done)|simp [hg3]),trivial⟩,rfl⟩
  refine Zp ⟨_,_,rfl,rfl,hg3⟩ ?_;refine Zp ⟨_,_,rfl,rfl,hg3⟩ ?_;refine Zp ⟨_,_,rfl,rfl,hg3⟩ ?_;refine Ze (X9 rfl hg3 rfl)<|Za rfl ?_;refine Zn fun a hf=>?_;exact ⟨hf.sub ⟨X1 rfl (by first|rfl|(simp only [hg3,bs];done)|simp [hg3]),trivial⟩,rfl⟩
 rintro a _ ⟨hf,rfl⟩;refine hK2 _ _ ?_
 refine wp_ret (X3 hf (Xq hf rfl rfl) ?_)
 exact ⟨by simp [inR, *],rfl⟩
theorem F85(w0:World)(n:Int)(lo:Int)(hi:Int) : Ret Tryz.prog 53 [vi n,vi lo,vi hi] w0 (fun v w=>v=.bool (inR n lo hi)∧w0=w):=by
 refine enter Tryz.func53 rfl 15 rfl rfl ?_;intro a hf
 have hW:Below w0.heap.size w0 w0:=Below.refl _ _
 refine Zs hf fun _ hK1=>?_;refine Za rfl ?_;refine Zt hK1 fun a hf=>?_;refine wp_seq_k fun _ hK2=>?_;refine X08 (fun a w=>Fr a 15 [(6,.bool ((decide (lo≤n))&&(decide (n≤hi))))]∧w0=w) ?_ ?_
 ·refine Zr hf ?_;refine Zm rfl<|Zm rfl<|Ze (Xde rfl rfl)<|Zm rfl ?_
  refine Zg 10 rfl (fun hg3=>?_) (fun hg3=>?_)
  ·refine Zv ⟨_,_,rfl,rfl,hg3⟩ (X2 rfl) ?_;refine Zv ⟨_,_,rfl,rfl,hg3⟩ (X2 rfl) ?_;refine Zv ⟨_,_,rfl,rfl,hg3⟩ (X7h rfl rfl) ?_;refine Ze (Xb rfl hg3 rfl)<|Za rfl ?_;refine Zn fun a hf=>?_;exact ⟨hf.sub ⟨X1 rfl (by first|rfl|(simp only [hg3,bs];done)|simp [hg3]),trivial⟩,rfl⟩
  refine Zp ⟨_,_,rfl,rfl,hg3⟩ ?_;refine Zp ⟨_,_,rfl,rfl,hg3⟩ ?_;refine Zp ⟨_,_,rfl,rfl,hg3⟩ ?_;refine Ze (X9 rfl hg3 rfl)<|Za rfl ?_;refine Zn fun a hf=>?_;exact ⟨hf.sub ⟨X1 rfl (by first|rfl|(simp only [hg3,bs];done)|simp [hg3]),trivial⟩,rfl⟩
 rintro a _ ⟨hf,rfl⟩;refine hK2 _ _ ?_
 refine wp_ret (X3 hf (Xq hf rfl rfl) ?_)
 exact ⟨by simp [inR, *],rfl⟩
theorem Xv9(w0:World)(x:Int)(y:Int) : Ret Tryz.prog 63 [vi x,vi y] w0 (fun v w=>v=vi (max x y)∧w0=w):=by
 refine enter Tryz.func63 rfl 10 rfl rfl ?_;intro a hf
 have hW:Below w0.heap.size w0 w0:=Below.refl _ _
 refine Zs hf fun _ hK1=>?_;refine Za rfl ?_;refine Zt hK1 fun a hf=>?_;refine wp_seq_k fun _ hK2=>?_;refine Zs hf fun _ hK3=>?_;refine Zm rfl<|Zm rfl<|Ze (X3e rfl rfl) ?_;refine Zt hK3 fun a hf=>?_
 refine Xe hf rfl (fun hc4=>?_) (fun hc4=>?_)
 ·have hc4b:=hc4;have hc4:=of_decide_eq_true hc4;refine Zs hf fun _ hK5=>?_;refine Zm rfl<|Za rfl ?_;refine Zt hK5 fun a hf=>?_;refine wp_ret ?_;refine X5 ?_;refine X3 hf (Xq hf rfl rfl) ?_;exact ⟨by congr 1;omega,rfl⟩
 have hc4b:=hc4;have hc4:=of_decide_eq_false hc4;refine wp_skip ?_;refine hK2 _ _ ?_;refine Zs hf fun _ hK6=>?_;refine Zm rfl<|Za rfl ?_;refine Zt hK6 fun a hf=>?_
 refine wp_ret (X3 hf (Xq hf rfl rfl) ?_)
 exact ⟨by congr 1;omega,rfl⟩
theorem F99(w0:World)(k:Int) : Ret Tryz.prog 70 [vi k] w0 (fun v w=>v=.bool (inR k 9 11)∧w0=w):=by
 refine enter Tryz.func70 rfl 5 rfl rfl ?_;intro a hf
 have hW:Below w0.heap.size w0 w0:=Below.refl _ _
 refine Zs hf fun _ hK1=>?_;refine Za rfl ?_;refine Zt hK1 fun a hf=>?_;refine Zs hf fun _ hK2=>?_;refine Zm rfl ?_;refine Zf (Vc (F91 _ k 9 11) X40) ?_;rintro _ _ ⟨rfl,rfl⟩;refine Za rfl ?_;refine Zt hK2 fun a hf=>?_
 refine wp_ret (X3 hf (Xq hf rfl rfl) ?_)
 exact ⟨rfl,rfl⟩
theorem Xvg(w0:World)(Al:Option Addr)(cl:Nat)(l:List Int)(hr_l:Rd w0 w0.heap.size 3 encI Al l)(lo:Int)(hi:Int)(hln:l.length≤2305843009213693951) : Ret Tryz.prog 232 [.slice Al l.length cl,vi lo,vi hi] w0 (fun v w=>v=.bool (l.all fun n=>inR n lo hi)∧Below w0.heap.size w0 w):=by
 refine enter Tryz.func232 rfl 21 rfl rfl ?_;intro a hf
 have hW:Below w0.heap.size w0 w0:=Below.refl _ _
 refine Zs hf fun _ hK2=>?_;refine Za rfl ?_;refine Zt hK2 fun a hf=>?_;refine wp_seq_k fun _ hK3=>?_;refine Zs hf fun _ hK4=>?_;refine Zm rfl<|Ze (X0y rfl Xg)<|Zm rfl ?_;refine Zt hK4 fun a hf=>?_;refine wp_block ?_;refine Xx (σ:=Nat) (fun (k:Nat) (a:Act) (w:World)=>Fr a 21 [(1,vi lo),(2,vi hi),(9,.slice Al l.length cl),(10,vi (l.length:Int)),(11,vi (k:Int))]∧(k≤l.length)∧((l.take k).all (fun n=>inR n lo hi)=true)∧Below w0.heap.size w0 w) (fun (k:Nat)=>l.length+1-k) 0 ?_ ?_
 ·exact ⟨hf.sub ⟨rfl,rfl,rfl,rfl,rfl,trivial⟩,(Nat.zero_le _),(by simp),hW⟩
 rintro k a w1 ⟨hf,hk,hpre,hW⟩;refine Zs hf fun _ hK5=>?_;refine Ze (X0l rfl rfl) ?_;refine Zt hK5 fun a hf=>?_;refine wp_seq_k fun _ hK6=>?_
 refine Xe hf rfl (fun hc7=>?_) (fun hc7=>?_)
 ·have hc7b:=hc7;have hc7:=of_decide_eq_true hc7
  obtain ⟨u8,hu8⟩:=Xl (l:=l) (k:=k) (by omega)
  refine wp_skip ?_;refine hK6 _ _ ?_;refine wp_seq_k fun _ hK9=>?_;refine wp_block ?_;refine Zs hf fun _ hK10=>?_;refine Zi (k:=k) (u:=u8) (enc:=encI) (l:=l) trivial rfl rfl Xg X0h X6 (hr_l.below' hW) hu8 rfl ?_;intro p12 hat11;refine Ze (X0 rfl X4 hat11)<|Za rfl ?_;refine Zt hK10 fun a hf=>?_;refine Zs hf fun _ hK13=>?_;refine Zm rfl<|Zm rfl<|Zm rfl ?_;refine Zf (Vc (F85 _ u8 lo hi) X6v) ?_;rintro _ _ ⟨rfl,rfl⟩;refine Ze (X16 rfl) ?_;refine Zt hK13 fun a hf=>?_
  refine Xe hf rfl (fun hc14=>?_) (fun hc14=>?_)
  ·have hc14b:=hc14
   have hb2:(l.all fun n=>inR n lo hi)=false:=Xak hu8 (by simpa using hc14)
   refine Zs hf fun _ hK15=>?_;refine Za rfl ?_;refine Zt hK15 fun a hf=>?_;refine wp_ret ?_;refine Xr ?_;refine X5 ?_;refine X5 ?_;refine Xr ?_;refine X5 ?_;refine X3 hf (Xq hf rfl rfl) ?_;exact ⟨by rw [hb2],hW⟩
  have hc14b:=hc14
  have hok:inR u8 lo hi=true:=by simpa using hc14
  refine wp_skip ?_;refine Xd ?_;refine hK9 _ _ ?_;refine Zr hf ?_;refine Ze (Xp rfl rfl (by omega) (by omega))<|Zm rfl ?_;refine Zn fun a hf=>?_;refine Xc ?_;exact ⟨k+1,⟨hf.sub ⟨rfl,rfl,rfl,rfl,rfl,trivial⟩,(by omega),(X2a hpre hu8 hok),hW⟩,(by omega)⟩
 have hc7b:=hc7;have hc7:=of_decide_eq_false hc7;refine wp_exit ?_;refine Xf ?_;refine Xf ?_;refine Xy ?_;refine hK3 _ _ ?_;refine Zs hf fun _ hK16=>?_;refine Za rfl ?_;refine Zt hK16 fun a hf=>?_
 refine wp_ret (X3 hf (Xq hf rfl rfl) ?_)
 have hb2:(l.all fun n=>inR n lo hi)=true:=X24 hpre (by omega)
 exact ⟨by rw [hb2],hW⟩
theorem Xw4(w0:World)(x:Rg) : Ret Tryz.prog 221 [.agg #[vi x.a,vi x.b,vi x.c,vi x.d]] w0 (fun v w=>v=.bool (rOk x)∧Below w0.heap.size w0 w):=by
 refine enter Tryz.func221 rfl 13 rfl rfl ?_;intro a hf
 have hW:Below w0.heap.size w0 w0:=Below.refl _ _
 refine Zs hf fun _ hK1=>?_;refine Zf (X0p (zs:=[vi x.a,vi x.b,vi x.c,vi x.d]) rfl rfl) ?_;rintro _ w1 ⟨b2,rfl,hl2,hE,hB2⟩;have hlo2:=Nat.le_trans hW.size hl2;replace hW:=btr hW hE;refine Za rfl ?_;refine Zt hK1 fun a hf=>?_;refine Zs hf fun _ hK3=>?_;refine Ze (Vd rfl X0j 0)<|Ze (X0 rfl X4 (hB2.at 0))<|Ze (Vd rfl X0n 1)<|Ze (X0 rfl X4 (hB2.at 1))<|Ze (Vd rfl X0o 2) ?_;refine Ze (X0 rfl X4 (hB2.at 2))<|Ze (Vd rfl X0m 3)<|Ze (X0 rfl X4 (hB2.at 3)) ?_;refine Zf (Xm (k:=4) (vs:=[vi x.a,vi x.b,vi x.c,vi x.d]) (zs:=[vi x.a,vi x.b,vi x.c,vi x.d]) rfl Xg X19 rfl rfl) ?_;rintro _ w2 ⟨b4,rfl,hl4,hE,hB4⟩;have hlo4:=Nat.le_trans hW.size hl4;replace hB2:=hB2.below hE;replace hW:=btr hW hE;refine Zf (Vc (Xvg _ (some ⟨b4,0,none⟩) 4 ([x.a,x.b,x.c,x.d]) (Rd.of_blk hB4 rfl _ hB4.lt) (-1000000000) 1000000000 (by simp)) Xqb) ?_;rintro _ w3 ⟨rfl,hE⟩;replace hB2:=hB2.below hE;replace hB4:=hB4.below hE;replace hW:=btr hW hE;refine Za rfl ?_;refine Zt hK3 fun a hf=>?_
 refine wp_ret (X3 hf (Xq hf rfl rfl) ?_)
 exact ⟨by simp [rOk,Bool.and_assoc],hW⟩
theorem Xwi(w0:World)(x:Rg)(k:Int) : Ret Tryz.prog 187 [.agg #[vi x.a,vi x.b,vi x.c,vi x.d],vi k] w0 (fun v w=>v=rV (rTurn x k)∧Below w0.heap.size w0 w):=by
 refine enter Tryz.func187 rfl 24 rfl rfl ?_;intro a hf
 have hW:Below w0.heap.size w0 w0:=Below.refl _ _
 refine Zs hf fun _ hK1=>?_;refine Zf (X0p (zs:=[vi x.a,vi x.b,vi x.c,vi x.d]) rfl rfl) ?_;rintro _ w1 ⟨b2,rfl,hl2,hE,hB2⟩;have hlo2:=Nat.le_trans hW.size hl2;replace hW:=btr hW hE;refine Zf (Xa (zs:=[vi 0,vi 0,vi 0,vi 0]) X2i rfl) ?_;rintro _ w2 ⟨b3,rfl,hl3,hE,hB3⟩
 have hne2_3:b2≠b3:=by have:=hB2.lt;omega
 have hlo3:=Nat.le_trans hW.size hl3;replace hB2:=hB2.below hE;replace hW:=btr hW hE;refine Zt hK1 fun a hf=>?_;refine wp_seq_k fun _ hK4=>?_;refine Zs hf fun _ hK5=>?_;refine Zm rfl<|Ze (X90 rfl rfl rfl)<|Ze (X2k rfl rfl)<|Ze (X90 rfl rfl rfl)<|Za rfl ?_;refine Zt hK5 fun a hf=>?_;refine wp_block ?_
 have hj:turns k=((turns k).toNat:Int):=by have:=X3y k;omega
 rw [show (wr (k.tmod 8+8)).tmod 8=turns k from rfl,hj] at hf
 have hj8:=(X3y k).2;refine Xx (σ:=Rg×Nat) (fun (s:Rg×Nat) (a:Act) (w:World)=>match s with|(y,j)=>Fr a 24 [(1,vi (j:Int)),(2,.pointer (some ⟨b2,0,none⟩)),(4,.pointer (some ⟨b3,0,none⟩))]∧(rTurnN j y=rTurn x k)∧(j<8)∧Blk w b2 96 [vi y.a,vi y.b,vi y.c,vi y.d]∧Blk w b3 96 [vi 0,vi 0,vi 0,vi 0]∧Below w0.heap.size w0 w) (fun (s:Rg×Nat)=>match s with|(y,j)=>j) (x,(turns k).toNat) ?_ ?_
 ·exact ⟨hf.sub ⟨rfl,rfl,rfl,trivial⟩,rfl,(by omega),hB2,hB3,hW⟩
 rintro ⟨y,j⟩ a w3 ⟨hf,hinv,hj8,hB2,hB3,hW⟩;refine wp_seq_k fun _ hK6=>?_;refine Zs hf fun _ hK7=>?_;refine Zm rfl<|Ze (X3e rfl rfl) ?_;refine Zt hK7 fun a hf=>?_
 refine Xe hf rfl (fun hc8=>?_) (fun hc8=>?_)
 ·have hc8b:=hc8;have hc8:=of_decide_eq_true hc8;refine wp_skip ?_;refine hK6 _ _ ?_;refine wp_seq_k fun _ hK9=>?_;refine wp_block ?_;refine Zr hf ?_;refine Ze (Vd rfl X0m 3)<|Ze (X0 rfl X4 (hB2.at 3))<|Ze (Xiq rfl)<|Ze (Vd rfl X0j 0)<|Ze (X0 rfl X4 (hB2.at 0)) ?_;refine Ze (Vd rfl X0n 1)<|Ze (X0 rfl X4 (hB2.at 1))<|Ze (Vd rfl X0o 2)<|Ze (X0 rfl X4 (hB2.at 2))<|Ze (Xz (ps:=[(0,vi (wr (-y.d))),(1,vi y.a),(2,vi y.b),(3,vi y.c)]) (cs:=[vi (wr (-y.d)),vi y.a,vi y.b,vi y.c]) rfl (fun _=>by first|rfl|kernel_rfl)) ?_;refine Zo (Vw [vi (wr (-y.d)),vi y.a,vi y.b,vi y.c] X12 hB2) ?_;rintro _ w4 ⟨ho,hb⟩;have hold:=hB2;replace hB3:=hB3.only ho (by omega);replace hW:=Below.only hW ho hlo2;clear hold;have hB2:=hb;clear hb ho;refine Zn fun a hf=>?_;refine Xd ?_;refine hK9 _ _ ?_;refine Zr hf ?_;refine Zm rfl<|Ze (X0s rfl rfl (by omega) (by omega))<|Za rfl ?_;refine Zn fun a hf=>?_
  have hjj:((j:Int)-1)=((j-1:Nat) : Int):=by omega
  rw [hjj] at hf
  refine Xc ?_;exact ⟨(rOm y,j-1),⟨hf.sub ⟨rfl,rfl,rfl,trivial⟩,(by rw [← hinv];obtain ⟨m,rfl⟩ : ∃ m,j=m+1:=⟨j-1,by omega⟩;rfl),(by omega),hB2,hB3,hW⟩,(by first|omega|(dsimp only;omega))⟩
 have hc8b:=hc8;have hc8:=of_decide_eq_false hc8;refine wp_exit ?_;refine Xf ?_;refine Xf ?_;refine Xy ?_;refine hK4 _ _ ?_;refine Zs hf fun _ hK10=>?_;refine Ze (Vn X0a hB2) ?_;refine Zo (Vw [vi y.a,vi y.b,vi y.c,vi y.d] X12 hB3) ?_;rintro _ w5 ⟨ho,hb⟩;have hold:=hB3;replace hB2:=hB2.only ho (by omega);replace hW:=Below.only hW ho hlo3;clear hold;have hB3:=hb;clear hb ho;refine Zt hK10 fun a hf=>?_
 refine wp_ret (X3 hf (Xq hf rfl (ResV.cellN (l:=[vi y.a,vi y.b,vi y.c,vi y.d]) rfl X0a (hB3.at 0) rfl)) ?_)
 have hj0:j=0:=by omega
 subst hj0
 rw [← hinv]
 exact ⟨rfl,hW⟩
theorem Xrk(w0:World)(x:Rg) : Ret Tryz.prog 200 [.agg #[vi x.a,vi x.b,vi x.c,vi x.d]] w0 (fun v w=>v=rV (rRoot x)∧Below w0.heap.size w0 w):=by
 refine enter Tryz.func200 rfl 24 rfl rfl ?_;intro a hf
 have hW:Below w0.heap.size w0 w0:=Below.refl _ _
 refine Zs hf fun _ hK1=>?_;refine Zf (X0p (zs:=[vi x.a,vi x.b,vi x.c,vi x.d]) rfl rfl) ?_;rintro _ w1 ⟨b2,rfl,hl2,hE,hB2⟩;have hlo2:=Nat.le_trans hW.size hl2;replace hW:=btr hW hE;refine Zf (Xa (zs:=[vi 0,vi 0,vi 0,vi 0]) X2i rfl) ?_;rintro _ w2 ⟨b3,rfl,hl3,hE,hB3⟩
 have hne2_3:b2≠b3:=by have:=hB2.lt;omega
 have hlo3:=Nat.le_trans hW.size hl3;replace hB2:=hB2.below hE;replace hW:=btr hW hE;refine Zt hK1 fun a hf=>?_;refine Zs hf fun _ hK4=>?_;refine Ze (Vd rfl X0n 1)<|Ze (X0 rfl X4 (hB2.at 1))<|Ze (Vd rfl X0m 3)<|Ze (X0 rfl X4 (hB2.at 3))<|Ze (X4p rfl rfl) ?_;refine Ze (Vd rfl X0j 0)<|Ze (X0 rfl X4 (hB2.at 0))<|Ze (Vd rfl X0o 2)<|Ze (X0 rfl X4 (hB2.at 2))<|Ze (X2k rfl rfl) ?_;refine Ze (Vd rfl X0n 1)<|Ze (X0 rfl X4 (hB2.at 1))<|Ze (Vd rfl X0m 3)<|Ze (X0 rfl X4 (hB2.at 3))<|Ze (X2k rfl rfl) ?_;refine Ze (Vd rfl X0o 2)<|Ze (X0 rfl X4 (hB2.at 2))<|Ze (Vd rfl X0j 0)<|Ze (X0 rfl X4 (hB2.at 0))<|Ze (X4p rfl rfl) ?_;refine Ze (Xz (ps:=[(0,vi (wr (x.b-x.d))),(1,vi (wr (x.a+x.c))),(2,vi (wr (x.b+x.d))),(3,vi (wr (x.c-x.a)))]) (cs:=[vi (wr (x.b-x.d)),vi (wr (x.a+x.c)),vi (wr (x.b+x.d)),vi (wr (x.c-x.a))]) rfl (fun _=>by first|rfl|kernel_rfl)) ?_;refine Zo (Vw [vi (wr (x.b-x.d)),vi (wr (x.a+x.c)),vi (wr (x.b+x.d)),vi (wr (x.c-x.a))] X12 hB3) ?_;rintro _ w3 ⟨ho,hb⟩;have hold:=hB3;replace hB2:=hB2.only ho (by omega);replace hW:=Below.only hW ho hlo3;clear hold;have hB3:=hb;clear hb ho;refine Zt hK4 fun a hf=>?_
 refine wp_ret (X3 hf (Xq hf rfl (ResV.cellN (l:=[vi (wr (x.b-x.d)),vi (wr (x.a+x.c)),vi (wr (x.b+x.d)),vi (wr (x.c-x.a))]) rfl X0a (hB3.at 0) rfl)) ?_)
 exact ⟨rfl,hW⟩
theorem Xwq(w0:World)(x:Rg)(y:Rg) : Ret Tryz.prog 202 [.agg #[vi x.a,vi x.b,vi x.c,vi x.d],.agg #[vi y.a,vi y.b,vi y.c,vi y.d]] w0 (fun v w=>v=rV (rAdd x y)∧Below w0.heap.size w0 w):=by
 refine enter Tryz.func202 rfl 26 rfl rfl ?_;intro a hf
 have hW:Below w0.heap.size w0 w0:=Below.refl _ _
 refine Zs hf fun _ hK1=>?_;refine Zf (X0p (zs:=[vi x.a,vi x.b,vi x.c,vi x.d]) rfl rfl) ?_;rintro _ w1 ⟨b2,rfl,hl2,hE,hB2⟩;have hlo2:=Nat.le_trans hW.size hl2;replace hW:=btr hW hE;refine Zf (X0p (zs:=[vi y.a,vi y.b,vi y.c,vi y.d]) rfl rfl) ?_;rintro _ w2 ⟨b3,rfl,hl3,hE,hB3⟩
 have hne2_3:b2≠b3:=by have:=hB2.lt;omega
 have hlo3:=Nat.le_trans hW.size hl3;replace hB2:=hB2.below hE;replace hW:=btr hW hE;refine Zf (Xa (zs:=[vi 0,vi 0,vi 0,vi 0]) X2i rfl) ?_;rintro _ w3 ⟨b4,rfl,hl4,hE,hB4⟩
 have hne2_4:b2≠b4:=by have:=hB2.lt;omega
 have hne3_4:b3≠b4:=by have:=hB3.lt;omega
 have hlo4:=Nat.le_trans hW.size hl4;replace hB2:=hB2.below hE;replace hB3:=hB3.below hE;replace hW:=btr hW hE;refine Zt hK1 fun a hf=>?_;refine Zs hf fun _ hK5=>?_;refine Ze (Vd rfl X0j 0)<|Ze (X0 rfl X4 (hB2.at 0))<|Ze (Vd rfl X0j 0)<|Ze (X0 rfl X4 (hB3.at 0))<|Ze (X2k rfl rfl) ?_;refine Ze (Vd rfl X0n 1)<|Ze (X0 rfl X4 (hB2.at 1))<|Ze (Vd rfl X0n 1)<|Ze (X0 rfl X4 (hB3.at 1))<|Ze (X2k rfl rfl) ?_;refine Ze (Vd rfl X0o 2)<|Ze (X0 rfl X4 (hB2.at 2))<|Ze (Vd rfl X0o 2)<|Ze (X0 rfl X4 (hB3.at 2))<|Ze (X2k rfl rfl) ?_;refine Ze (Vd rfl X0m 3)<|Ze (X0 rfl X4 (hB2.at 3))<|Ze (Vd rfl X0m 3)<|Ze (X0 rfl X4 (hB3.at 3))<|Ze (X2k rfl rfl) ?_;refine Ze (Xz (ps:=[(0,vi (wr (x.a+y.a))),(1,vi (wr (x.b+y.b))),(2,vi (wr (x.c+y.c))),(3,vi (wr (x.d+y.d)))]) (cs:=[vi (wr (x.a+y.a)),vi (wr (x.b+y.b)),vi (wr (x.c+y.c)),vi (wr (x.d+y.d))]) rfl (fun _=>by first|rfl|kernel_rfl)) ?_;refine Zo (Vw [vi (wr (x.a+y.a)),vi (wr (x.b+y.b)),vi (wr (x.c+y.c)),vi (wr (x.d+y.d))] X12 hB4) ?_;rintro _ w4 ⟨ho,hb⟩;have hold:=hB4;replace hB2:=hB2.only ho (by omega);replace hB3:=hB3.only ho (by omega);replace hW:=Below.only hW ho hlo4;clear hold;have hB4:=hb;clear hb ho;refine Zt hK5 fun a hf=>?_
 refine wp_ret (X3 hf (Xq hf rfl (ResV.cellN (l:=[vi (wr (x.a+y.a)),vi (wr (x.b+y.b)),vi (wr (x.c+y.c)),vi (wr (x.d+y.d))]) rfl X0a (hB4.at 0) rfl)) ?_)
 exact ⟨rfl,hW⟩
theorem Xwk(w0:World)(x:Rg)(y:Rg) : Ret Tryz.prog 203 [.agg #[vi x.a,vi x.b,vi x.c,vi x.d],.agg #[vi y.a,vi y.b,vi y.c,vi y.d]] w0 (fun v w=>v=rV (rMul x y)∧Below w0.heap.size w0 w):=by
 refine enter Tryz.func203 rfl 98 rfl rfl ?_;intro a hf
 have hW:Below w0.heap.size w0 w0:=Below.refl _ _
 refine Zs hf fun _ hK1=>?_;refine Zf (X0p (zs:=[vi x.a,vi x.b,vi x.c,vi x.d]) rfl rfl) ?_;rintro _ w1 ⟨b2,rfl,hl2,hE,hB2⟩;have hlo2:=Nat.le_trans hW.size hl2;replace hW:=btr hW hE;refine Zf (X0p (zs:=[vi y.a,vi y.b,vi y.c,vi y.d]) rfl rfl) ?_;rintro _ w2 ⟨b3,rfl,hl3,hE,hB3⟩
 have hne2_3:b2≠b3:=by have:=hB2.lt;omega
 have hlo3:=Nat.le_trans hW.size hl3;replace hB2:=hB2.below hE;replace hW:=btr hW hE;refine Zf (Xa (zs:=[vi 0,vi 0,vi 0,vi 0]) X2i rfl) ?_;rintro _ w3 ⟨b4,rfl,hl4,hE,hB4⟩
 have hne2_4:b2≠b4:=by have:=hB2.lt;omega
 have hne3_4:b3≠b4:=by have:=hB3.lt;omega
 have hlo4:=Nat.le_trans hW.size hl4;replace hB2:=hB2.below hE;replace hB3:=hB3.below hE;replace hW:=btr hW hE;refine Zt hK1 fun a hf=>?_;refine Zs hf fun _ hK5=>?_;refine Ze (Vd rfl X0j 0)<|Ze (X0 rfl X4 (hB2.at 0))<|Ze (Vd rfl X0j 0)<|Ze (X0 rfl X4 (hB3.at 0))<|Ze (X2j rfl rfl) ?_;refine Ze (Vd rfl X0n 1)<|Ze (X0 rfl X4 (hB2.at 1))<|Ze (Vd rfl X0m 3)<|Ze (X0 rfl X4 (hB3.at 3))<|Ze (X2j rfl rfl) ?_;refine Ze (X4p rfl rfl)<|Ze (Vd rfl X0o 2)<|Ze (X0 rfl X4 (hB2.at 2))<|Ze (Vd rfl X0o 2)<|Ze (X0 rfl X4 (hB3.at 2)) ?_;refine Ze (X2j rfl rfl)<|Ze (X4p rfl rfl)<|Ze (Vd rfl X0m 3)<|Ze (X0 rfl X4 (hB2.at 3))<|Ze (Vd rfl X0n 1) ?_;refine Ze (X0 rfl X4 (hB3.at 1))<|Ze (X2j rfl rfl)<|Ze (X4p rfl rfl)<|Ze (Vd rfl X0j 0)<|Ze (X0 rfl X4 (hB2.at 0)) ?_;refine Ze (Vd rfl X0n 1)<|Ze (X0 rfl X4 (hB3.at 1))<|Ze (X2j rfl rfl)<|Ze (Vd rfl X0n 1)<|Ze (X0 rfl X4 (hB2.at 1)) ?_;refine Ze (Vd rfl X0j 0)<|Ze (X0 rfl X4 (hB3.at 0))<|Ze (X2j rfl rfl)<|Ze (X2k rfl rfl)<|Ze (Vd rfl X0o 2) ?_;refine Ze (X0 rfl X4 (hB2.at 2))<|Ze (Vd rfl X0m 3)<|Ze (X0 rfl X4 (hB3.at 3))<|Ze (X2j rfl rfl)<|Ze (X4p rfl rfl) ?_;refine Ze (Vd rfl X0m 3)<|Ze (X0 rfl X4 (hB2.at 3))<|Ze (Vd rfl X0o 2)<|Ze (X0 rfl X4 (hB3.at 2))<|Ze (X2j rfl rfl) ?_;refine Ze (X4p rfl rfl)<|Ze (Vd rfl X0j 0)<|Ze (X0 rfl X4 (hB2.at 0))<|Ze (Vd rfl X0o 2)<|Ze (X0 rfl X4 (hB3.at 2)) ?_;refine Ze (X2j rfl rfl)<|Ze (Vd rfl X0n 1)<|Ze (X0 rfl X4 (hB2.at 1))<|Ze (Vd rfl X0n 1)<|Ze (X0 rfl X4 (hB3.at 1)) ?_;refine Ze (X2j rfl rfl)<|Ze (X2k rfl rfl)<|Ze (Vd rfl X0o 2)<|Ze (X0 rfl X4 (hB2.at 2))<|Ze (Vd rfl X0j 0) ?_;refine Ze (X0 rfl X4 (hB3.at 0))<|Ze (X2j rfl rfl)<|Ze (X2k rfl rfl)<|Ze (Vd rfl X0m 3)<|Ze (X0 rfl X4 (hB2.at 3)) ?_
 refine Ze (Vd rfl X0m 3)<|Ze (X0 rfl X4 (hB3.at 3))<|Ze (X2j rfl rfl)<|Ze (X4p rfl rfl)<|Ze (Vd rfl X0j 0) ?_;refine Ze (X0 rfl X4 (hB2.at 0))<|Ze (Vd rfl X0m 3)<|Ze (X0 rfl X4 (hB3.at 3))<|Ze (X2j rfl rfl)<|Ze (Vd rfl X0n 1) ?_;refine Ze (X0 rfl X4 (hB2.at 1))<|Ze (Vd rfl X0o 2)<|Ze (X0 rfl X4 (hB3.at 2))<|Ze (X2j rfl rfl)<|Ze (X2k rfl rfl) ?_;refine Ze (Vd rfl X0o 2)<|Ze (X0 rfl X4 (hB2.at 2))<|Ze (Vd rfl X0n 1)<|Ze (X0 rfl X4 (hB3.at 1))<|Ze (X2j rfl rfl) ?_;refine Ze (X2k rfl rfl)<|Ze (Vd rfl X0m 3)<|Ze (X0 rfl X4 (hB2.at 3))<|Ze (Vd rfl X0j 0)<|Ze (X0 rfl X4 (hB3.at 0)) ?_;refine Ze (X2j rfl rfl)<|Ze (X2k rfl rfl)<|Ze (Xz (ps:=[(0,vi (wr ((wr ((wr ((wr (x.a*y.a))-(wr (x.b*y.d))))-(wr (x.c*y.c))))-(wr (x.d*y.b))))),(1,vi (wr ((wr ((wr ((wr (x.a*y.b))+(wr (x.b*y.a))))-(wr (x.c*y.d))))-(wr (x.d*y.c))))),(2,vi (wr ((wr ((wr ((wr (x.a*y.c))+(wr (x.b*y.b))))+(wr (x.c*y.a))))-(wr (x.d*y.d))))),(3,vi (wr ((wr ((wr ((wr (x.a*y.d))+(wr (x.b*y.c))))+(wr (x.c*y.b))))+(wr (x.d*y.a)))))]) (cs:=[vi (wr ((wr ((wr ((wr (x.a*y.a))-(wr (x.b*y.d))))-(wr (x.c*y.c))))-(wr (x.d*y.b)))),vi (wr ((wr ((wr ((wr (x.a*y.b))+(wr (x.b*y.a))))-(wr (x.c*y.d))))-(wr (x.d*y.c)))),vi (wr ((wr ((wr ((wr (x.a*y.c))+(wr (x.b*y.b))))+(wr (x.c*y.a))))-(wr (x.d*y.d)))),vi (wr ((wr ((wr ((wr (x.a*y.d))+(wr (x.b*y.c))))+(wr (x.c*y.b))))+(wr (x.d*y.a))))]) rfl (fun _=>by first|rfl|kernel_rfl)) ?_;refine Zo (Vw [vi (wr ((wr ((wr ((wr (x.a*y.a))-(wr (x.b*y.d))))-(wr (x.c*y.c))))-(wr (x.d*y.b)))),vi (wr ((wr ((wr ((wr (x.a*y.b))+(wr (x.b*y.a))))-(wr (x.c*y.d))))-(wr (x.d*y.c)))),vi (wr ((wr ((wr ((wr (x.a*y.c))+(wr (x.b*y.b))))+(wr (x.c*y.a))))-(wr (x.d*y.d)))),vi (wr ((wr ((wr ((wr (x.a*y.d))+(wr (x.b*y.c))))+(wr (x.c*y.b))))+(wr (x.d*y.a))))] X12 hB4) ?_;rintro _ w4 ⟨ho,hb⟩
 have hold:=hB4;replace hB2:=hB2.only ho (by omega);replace hB3:=hB3.only ho (by omega);replace hW:=Below.only hW ho hlo4;clear hold;have hB4:=hb;clear hb ho;refine Zt hK5 fun a hf=>?_
 refine wp_ret (X3 hf (Xq hf rfl (ResV.cellN (l:=[vi (wr ((wr ((wr ((wr (x.a*y.a))-(wr (x.b*y.d))))-(wr (x.c*y.c))))-(wr (x.d*y.b)))),vi (wr ((wr ((wr ((wr (x.a*y.b))+(wr (x.b*y.a))))-(wr (x.c*y.d))))-(wr (x.d*y.c)))),vi (wr ((wr ((wr ((wr (x.a*y.c))+(wr (x.b*y.b))))+(wr (x.c*y.a))))-(wr (x.d*y.d)))),vi (wr ((wr ((wr ((wr (x.a*y.d))+(wr (x.b*y.c))))+(wr (x.c*y.b))))+(wr (x.d*y.a))))]) rfl X0a (hB4.at 0) rfl)) ?_)
 exact ⟨rfl,hW⟩
theorem Xw3(w0:World)(x:Rg) : Ret Tryz.prog 231 [.agg #[vi x.a,vi x.b,vi x.c,vi x.d]] w0 (fun v w=>v=rV (rNeg x)∧Below w0.heap.size w0 w):=by
 refine enter Tryz.func231 rfl 16 rfl rfl ?_;intro a hf
 have hW:Below w0.heap.size w0 w0:=Below.refl _ _
 refine Zs hf fun _ hK1=>?_;refine Zf (X0p (zs:=[vi x.a,vi x.b,vi x.c,vi x.d]) rfl rfl) ?_;rintro _ w1 ⟨b2,rfl,hl2,hE,hB2⟩;have hlo2:=Nat.le_trans hW.size hl2;replace hW:=btr hW hE;refine Zf (Xa (zs:=[vi 0,vi 0,vi 0,vi 0]) X2i rfl) ?_;rintro _ w2 ⟨b3,rfl,hl3,hE,hB3⟩
 have hne2_3:b2≠b3:=by have:=hB2.lt;omega
 have hlo3:=Nat.le_trans hW.size hl3;replace hB2:=hB2.below hE;replace hW:=btr hW hE;refine Zt hK1 fun a hf=>?_;refine Zs hf fun _ hK4=>?_;refine Ze (Vd rfl X0j 0)<|Ze (X0 rfl X4 (hB2.at 0))<|Ze (Xiq rfl)<|Ze (Vd rfl X0n 1)<|Ze (X0 rfl X4 (hB2.at 1)) ?_;refine Ze (Xiq rfl)<|Ze (Vd rfl X0o 2)<|Ze (X0 rfl X4 (hB2.at 2))<|Ze (Xiq rfl)<|Ze (Vd rfl X0m 3) ?_;refine Ze (X0 rfl X4 (hB2.at 3))<|Ze (Xiq rfl)<|Ze (Xz (ps:=[(0,vi (wr (-x.a))),(1,vi (wr (-x.b))),(2,vi (wr (-x.c))),(3,vi (wr (-x.d)))]) (cs:=[vi (wr (-x.a)),vi (wr (-x.b)),vi (wr (-x.c)),vi (wr (-x.d))]) rfl (fun _=>by first|rfl|kernel_rfl)) ?_;refine Zo (Vw [vi (wr (-x.a)),vi (wr (-x.b)),vi (wr (-x.c)),vi (wr (-x.d))] X12 hB3) ?_;rintro _ w3 ⟨ho,hb⟩;have hold:=hB3;replace hB2:=hB2.only ho (by omega);replace hW:=Below.only hW ho hlo3;clear hold;have hB3:=hb;clear hb ho;refine Zt hK4 fun a hf=>?_
 refine wp_ret (X3 hf (Xq hf rfl (ResV.cellN (l:=[vi (wr (-x.a)),vi (wr (-x.b)),vi (wr (-x.c)),vi (wr (-x.d))]) rfl X0a (hB3.at 0) rfl)) ?_)
 exact ⟨rfl,hW⟩
theorem Xv5(w0:World)(x:Rg) : Ret Tryz.prog 222 [.agg #[vi x.a,vi x.b,vi x.c,vi x.d]] w0 (fun v w=>v=.bool (rEven x)∧Below w0.heap.size w0 w):=by
 refine enter Tryz.func222 rfl 19 rfl rfl ?_;intro a hf
 have hW:Below w0.heap.size w0 w0:=Below.refl _ _
 refine Zs hf fun _ hK1=>?_;refine Zf (X0p (zs:=[vi x.a,vi x.b,vi x.c,vi x.d]) rfl rfl) ?_;rintro _ w1 ⟨b2,rfl,hl2,hE,hB2⟩;have hlo2:=Nat.le_trans hW.size hl2;replace hW:=btr hW hE;refine Za rfl ?_;refine Zt hK1 fun a hf=>?_;refine wp_seq_k fun _ hK3=>?_;refine X08 (fun a w=>Fr a 19 [(2,.bool ((((wr (x.a+x.c)).tmod 2)==0)&&(((wr (x.b+x.d)).tmod 2)==0)))]∧w1=w) ?_ ?_
 ·refine Zr hf ?_;refine Ze (Vd rfl X0j 0)<|Ze (X0 rfl X4 (hB2.at 0))<|Ze (Vd rfl X0o 2)<|Ze (X0 rfl X4 (hB2.at 2))<|Ze (X2k rfl rfl) ?_;refine Ze (X90 rfl rfl rfl)<|Ze (X0u rfl rfl)<|Zm rfl ?_
  refine Zg 10 rfl (fun hg4=>?_) (fun hg4=>?_)
  ·refine Zv ⟨_,_,rfl,rfl,hg4⟩ (Vd rfl X0n 1) ?_;refine Zv ⟨_,_,rfl,rfl,hg4⟩ (X0 rfl X4 (hB2.at 1)) ?_;refine Zv ⟨_,_,rfl,rfl,hg4⟩ (Vd rfl X0m 3) ?_;refine Zv ⟨_,_,rfl,rfl,hg4⟩ (X0 rfl X4 (hB2.at 3)) ?_;refine Zv ⟨_,_,rfl,rfl,hg4⟩ (X2k rfl rfl) ?_;refine Zv ⟨_,_,rfl,rfl,hg4⟩ (X90 rfl rfl rfl) ?_;refine Zv ⟨_,_,rfl,rfl,hg4⟩ (X0u rfl rfl) ?_;refine Ze (Xb rfl hg4 rfl)<|Za rfl ?_;refine Zn fun a hf=>?_;exact ⟨hf.sub ⟨X1 rfl (by first|rfl|(simp only [hg4,bs];done)|simp [hg4]),trivial⟩,rfl⟩
  refine Zp ⟨_,_,rfl,rfl,hg4⟩ ?_;refine Zp ⟨_,_,rfl,rfl,hg4⟩ ?_;refine Zp ⟨_,_,rfl,rfl,hg4⟩ ?_;refine Zp ⟨_,_,rfl,rfl,hg4⟩ ?_;refine Zp ⟨_,_,rfl,rfl,hg4⟩ ?_;refine Zp ⟨_,_,rfl,rfl,hg4⟩ ?_;refine Zp ⟨_,_,rfl,rfl,hg4⟩ ?_;refine Ze (X9 rfl hg4 rfl)<|Za rfl ?_;refine Zn fun a hf=>?_;exact ⟨hf.sub ⟨X1 rfl (by first|rfl|(simp only [hg4,bs];done)|simp [hg4]),trivial⟩,rfl⟩
 rintro a _ ⟨hf,rfl⟩;refine hK3 _ _ ?_
 refine wp_ret (X3 hf (Xq hf rfl rfl) ?_)
 exact ⟨rfl,hW⟩
theorem Xqm(w0:World)(x:Rg) : Ret Tryz.prog 181 [.agg #[vi x.a,vi x.b,vi x.c,vi x.d]] w0 (fun v w=>v=.bool (rEven x)∧Below w0.heap.size w0 w):=by
 refine enter Tryz.func181 rfl 19 rfl rfl ?_;intro a hf
 have hW:Below w0.heap.size w0 w0:=Below.refl _ _
 refine Zs hf fun _ hK1=>?_;refine Zf (X0p (zs:=[vi x.a,vi x.b,vi x.c,vi x.d]) rfl rfl) ?_;rintro _ w1 ⟨b2,rfl,hl2,hE,hB2⟩;have hlo2:=Nat.le_trans hW.size hl2;replace hW:=btr hW hE;refine Za rfl ?_;refine Zt hK1 fun a hf=>?_;refine wp_seq_k fun _ hK3=>?_;refine X08 (fun a w=>Fr a 19 [(2,.bool ((((wr (x.a+x.c)).tmod 2)==0)&&(((wr (x.b+x.d)).tmod 2)==0)))]∧w1=w) ?_ ?_
 ·refine Zr hf ?_;refine Ze (Vd rfl X0j 0)<|Ze (X0 rfl X4 (hB2.at 0))<|Ze (Vd rfl X0o 2)<|Ze (X0 rfl X4 (hB2.at 2))<|Ze (X2k rfl rfl) ?_;refine Ze (X90 rfl rfl rfl)<|Ze (X0u rfl rfl)<|Zm rfl ?_
  refine Zg 10 rfl (fun hg4=>?_) (fun hg4=>?_)
  ·refine Zv ⟨_,_,rfl,rfl,hg4⟩ (Vd rfl X0n 1) ?_;refine Zv ⟨_,_,rfl,rfl,hg4⟩ (X0 rfl X4 (hB2.at 1)) ?_;refine Zv ⟨_,_,rfl,rfl,hg4⟩ (Vd rfl X0m 3) ?_;refine Zv ⟨_,_,rfl,rfl,hg4⟩ (X0 rfl X4 (hB2.at 3)) ?_;refine Zv ⟨_,_,rfl,rfl,hg4⟩ (X2k rfl rfl) ?_;refine Zv ⟨_,_,rfl,rfl,hg4⟩ (X90 rfl rfl rfl) ?_;refine Zv ⟨_,_,rfl,rfl,hg4⟩ (X0u rfl rfl) ?_;refine Ze (Xb rfl hg4 rfl)<|Za rfl ?_;refine Zn fun a hf=>?_;exact ⟨hf.sub ⟨X1 rfl (by first|rfl|(simp only [hg4,bs];done)|simp [hg4]),trivial⟩,rfl⟩
  refine Zp ⟨_,_,rfl,rfl,hg4⟩ ?_;refine Zp ⟨_,_,rfl,rfl,hg4⟩ ?_;refine Zp ⟨_,_,rfl,rfl,hg4⟩ ?_;refine Zp ⟨_,_,rfl,rfl,hg4⟩ ?_;refine Zp ⟨_,_,rfl,rfl,hg4⟩ ?_;refine Zp ⟨_,_,rfl,rfl,hg4⟩ ?_;refine Zp ⟨_,_,rfl,rfl,hg4⟩ ?_;refine Ze (X9 rfl hg4 rfl)<|Za rfl ?_;refine Zn fun a hf=>?_;exact ⟨hf.sub ⟨X1 rfl (by first|rfl|(simp only [hg4,bs];done)|simp [hg4]),trivial⟩,rfl⟩
 rintro a _ ⟨hf,rfl⟩;refine hK3 _ _ ?_
 refine wp_ret (X3 hf (Xq hf rfl rfl) ?_)
 exact ⟨rfl,hW⟩
theorem Xwe(w0:World)(x:Rg) : Ret Tryz.prog 223 [.agg #[vi x.a,vi x.b,vi x.c,vi x.d]] w0 (fun v w=>v=rV (rHalf x)∧Below w0.heap.size w0 w):=by
 refine enter Tryz.func223 rfl 19 rfl rfl ?_;intro a hf
 have hW:Below w0.heap.size w0 w0:=Below.refl _ _
 refine Zs hf fun _ hK1=>?_;refine Zf (X0p (zs:=[vi x.a,vi x.b,vi x.c,vi x.d]) rfl rfl) ?_;rintro _ w1 ⟨b2,rfl,hl2,hE,hB2⟩;have hlo2:=Nat.le_trans hW.size hl2;replace hW:=btr hW hE;refine Zf (Xa (zs:=[vi 0,vi 0,vi 0,vi 0]) X2i rfl) ?_;rintro _ w2 ⟨b3,rfl,hl3,hE,hB3⟩
 have hne2_3:b2≠b3:=by have:=hB2.lt;omega
 have hlo3:=Nat.le_trans hW.size hl3;replace hB2:=hB2.below hE;replace hW:=btr hW hE;refine Zt hK1 fun a hf=>?_;refine Zs hf fun _ hK4=>?_;refine Ze (Vn X0a hB2) ?_;refine Zf (Vc (Xrk _ x) Xf4) ?_;rintro _ w3 ⟨rfl,hE⟩;replace hB2:=hB2.below hE;replace hB3:=hB3.below hE;replace hW:=btr hW hE;refine Zf (Xa (zs:=[vi 0,vi 0,vi 0,vi 0]) X2i rfl) ?_;rintro _ w4 ⟨b5,rfl,hl5,hE,hB5⟩
 have hne2_5:b2≠b5:=by have:=hB2.lt;omega
 have hne3_5:b3≠b5:=by have:=hB3.lt;omega
 have hlo5:=Nat.le_trans hW.size hl5;replace hB2:=hB2.below hE;replace hB3:=hB3.below hE;replace hW:=btr hW hE;refine Zo (Vw [vi ((rRoot x).a),vi ((rRoot x).b),vi ((rRoot x).c),vi ((rRoot x).d)] X12 hB5) ?_;rintro _ w5 ⟨ho,hb⟩;have hold:=hB5;replace hB2:=hB2.only ho (by omega);replace hB3:=hB3.only ho (by omega);replace hW:=Below.only hW ho hlo5;clear hold;have hB5:=hb;clear hb ho;refine Zt hK4 fun a hf=>?_;refine Zs hf fun _ hK6=>?_;refine Ze (Vd rfl X0j 0)<|Ze (X0 rfl X4 (hB5.at 0))<|Ze (Xeb rfl rfl rfl)<|Ze (Vd rfl X0n 1)<|Ze (X0 rfl X4 (hB5.at 1)) ?_;refine Ze (Xeb rfl rfl rfl)<|Ze (Vd rfl X0o 2)<|Ze (X0 rfl X4 (hB5.at 2))<|Ze (Xeb rfl rfl rfl)<|Ze (Vd rfl X0m 3) ?_;refine Ze (X0 rfl X4 (hB5.at 3))<|Ze (Xeb rfl rfl rfl)<|Ze (Xz (ps:=[(0,vi (wr (((rRoot x).a).tdiv 2))),(1,vi (wr (((rRoot x).b).tdiv 2))),(2,vi (wr (((rRoot x).c).tdiv 2))),(3,vi (wr (((rRoot x).d).tdiv 2)))]) (cs:=[vi (wr (((rRoot x).a).tdiv 2)),vi (wr (((rRoot x).b).tdiv 2)),vi (wr (((rRoot x).c).tdiv 2)),vi (wr (((rRoot x).d).tdiv 2))]) rfl (fun _=>by first|rfl|kernel_rfl)) ?_;refine Zo (Vw [vi (wr (((rRoot x).a).tdiv 2)),vi (wr (((rRoot x).b).tdiv 2)),vi (wr (((rRoot x).c).tdiv 2)),vi (wr (((rRoot x).d).tdiv 2))] X12 hB3) ?_;rintro _ w6 ⟨ho,hb⟩;have hold:=hB3;replace hB5:=hB5.only ho (by omega);replace hW:=Below.only hW ho hlo3;clear hold;have hB3:=hb;clear hb ho;refine Zt hK6 fun a hf=>?_
 refine wp_ret (X3 hf (Xq hf rfl (ResV.cellN (l:=[vi (wr (((rRoot x).a).tdiv 2)),vi (wr (((rRoot x).b).tdiv 2)),vi (wr (((rRoot x).c).tdiv 2)),vi (wr (((rRoot x).d).tdiv 2))]) rfl X0a (hB3.at 0) rfl)) ?_)
 exact ⟨rfl,hW⟩
theorem Xo8(w0:World)(n:Int) : Ret Tryz.prog 204 [vi n] w0 (fun v w=>v=.bool (inR n (-1000000000) 1000000000)∧w0=w):=by
 refine enter Tryz.func204 rfl 5 rfl rfl ?_;intro a hf
 have hW:Below w0.heap.size w0 w0:=Below.refl _ _
 refine Zs hf fun _ hK1=>?_;refine Za rfl ?_;refine Zt hK1 fun a hf=>?_;refine Zs hf fun _ hK2=>?_;refine Zm rfl ?_;refine Zf (Vc (F91 _ n (-1000000000) 1000000000) X40) ?_;rintro _ _ ⟨rfl,rfl⟩;refine Za rfl ?_;refine Zt hK2 fun a hf=>?_
 refine wp_ret (X3 hf (Xq hf rfl rfl) ?_)
 exact ⟨rfl,rfl⟩
theorem Xjf(w0:World)(x:Rg) : Ret Tryz.prog 179 [.agg #[vi x.a,vi x.b,vi x.c,vi x.d]] w0 (fun v w=>v=.bool (rOk x)∧Below w0.heap.size w0 w):=by
 refine enter Tryz.func179 rfl 21 rfl rfl ?_;intro a hf
 have hW:Below w0.heap.size w0 w0:=Below.refl _ _
 refine Zs hf fun _ hK1=>?_;refine Zf (X0p (zs:=[vi x.a,vi x.b,vi x.c,vi x.d]) rfl rfl) ?_;rintro _ w1 ⟨b2,rfl,hl2,hE,hB2⟩;have hlo2:=Nat.le_trans hW.size hl2;replace hW:=btr hW hE;refine Za rfl ?_;refine Zt hK1 fun a hf=>?_;refine wp_seq_k fun _ hK3=>?_;refine X08 (fun a w=>Fr a 21 [(2,.bool ((((inR x.a (-1000000000) 1000000000)&&(inR x.b (-1000000000) 1000000000))&&(inR x.c (-1000000000) 1000000000))&&(inR x.d (-1000000000) 1000000000)))]∧w1=w) ?_ ?_
 ·refine Zr hf ?_;refine Ze (Vd rfl X0j 0)<|Ze (X0 rfl X4 (hB2.at 0)) ?_;refine Zf (Vc (Xo8 _ x.a) Xc1) ?_;rintro _ _ ⟨rfl,rfl⟩;refine Zm rfl ?_
  refine Zg 6 rfl (fun hg4=>?_) (fun hg4=>?_)
  ·refine Zv ⟨_,_,rfl,rfl,hg4⟩ (Vd rfl X0n 1) ?_;refine Zv ⟨_,_,rfl,rfl,hg4⟩ (X0 rfl X4 (hB2.at 1)) ?_;refine Zk ⟨_,_,rfl,rfl,hg4⟩ (Vc (Xo8 _ x.b) Xc1) ?_;rintro _ _ ⟨rfl,rfl⟩;refine Ze (Xb rfl hg4 rfl)<|Zm rfl ?_
   refine Zg 11 rfl (fun hg5=>?_) (fun hg5=>?_)
   ·refine Zv ⟨_,_,rfl,rfl,hg5⟩ (Vd rfl X0o 2) ?_;refine Zv ⟨_,_,rfl,rfl,hg5⟩ (X0 rfl X4 (hB2.at 2)) ?_;refine Zk ⟨_,_,rfl,rfl,hg5⟩ (Vc (Xo8 _ x.c) Xc1) ?_;rintro _ _ ⟨rfl,rfl⟩;refine Ze (Xb rfl hg5 rfl)<|Zm rfl ?_
    refine Zg 16 rfl (fun hg6=>?_) (fun hg6=>?_)
    ·refine Zv ⟨_,_,rfl,rfl,hg6⟩ (Vd rfl X0m 3) ?_;refine Zv ⟨_,_,rfl,rfl,hg6⟩ (X0 rfl X4 (hB2.at 3)) ?_;refine Zk ⟨_,_,rfl,rfl,hg6⟩ (Vc (Xo8 _ x.d) Xc1) ?_;rintro _ _ ⟨rfl,rfl⟩;refine Ze (Xb rfl hg6 rfl)<|Za rfl ?_;refine Zn fun a hf=>?_;exact ⟨hf.sub ⟨X1 rfl (by first|rfl|(simp only [hg4,hg5,hg6,bs];done)|simp [hg4,hg5,hg6]),trivial⟩,rfl⟩
    refine Zp ⟨_,_,rfl,rfl,hg6⟩ ?_;refine Zp ⟨_,_,rfl,rfl,hg6⟩ ?_;refine Zp ⟨_,_,rfl,rfl,hg6⟩ ?_;refine Ze (X9 rfl hg6 rfl)<|Za rfl ?_;refine Zn fun a hf=>?_;exact ⟨hf.sub ⟨X1 rfl (by first|rfl|(simp only [hg4,hg5,hg6,bs];done)|simp [hg4,hg5,hg6]),trivial⟩,rfl⟩
   refine Zp ⟨_,_,rfl,rfl,hg5⟩ ?_;refine Zp ⟨_,_,rfl,rfl,hg5⟩ ?_;refine Zp ⟨_,_,rfl,rfl,hg5⟩ ?_;refine Ze (X9 rfl hg5 rfl)<|Zm rfl<|Zp ⟨_,_,rfl,rfl,rfl⟩ ?_;refine Zp ⟨_,_,rfl,rfl,rfl⟩ ?_;refine Zp ⟨_,_,rfl,rfl,rfl⟩ ?_;refine Ze (X9 rfl rfl rfl)<|Za rfl ?_;refine Zn fun a hf=>?_;exact ⟨hf.sub ⟨X1 rfl (by first|rfl|(simp only [hg4,hg5,bs];done)|simp [hg4,hg5]),trivial⟩,rfl⟩
  refine Zp ⟨_,_,rfl,rfl,hg4⟩ ?_;refine Zp ⟨_,_,rfl,rfl,hg4⟩ ?_;refine Zp ⟨_,_,rfl,rfl,hg4⟩ ?_;refine Ze (X9 rfl hg4 rfl)<|Zm rfl<|Zp ⟨_,_,rfl,rfl,rfl⟩ ?_;refine Zp ⟨_,_,rfl,rfl,rfl⟩ ?_;refine Zp ⟨_,_,rfl,rfl,rfl⟩ ?_;refine Ze (X9 rfl rfl rfl)<|Zm rfl<|Zp ⟨_,_,rfl,rfl,rfl⟩ ?_;refine Zp ⟨_,_,rfl,rfl,rfl⟩ ?_;refine Zp ⟨_,_,rfl,rfl,rfl⟩ ?_;refine Ze (X9 rfl rfl rfl)<|Za rfl ?_;refine Zn fun a hf=>?_;exact ⟨hf.sub ⟨X1 rfl (by first|rfl|(simp only [hg4,bs];done)|simp [hg4]),trivial⟩,rfl⟩
 rintro a _ ⟨hf,rfl⟩;refine hK3 _ _ ?_
 refine wp_ret (X3 hf (Xq hf rfl rfl) ?_)
 exact ⟨by simp [rOk, *],hW⟩
theorem Xfe(w0:World)(k:Int) : Ret Tryz.prog 186 [vi k] w0 (fun v w=>v=dV (dPow k)∧Below w0.heap.size w0 w):=by
 refine enter Tryz.func186 rfl 7 rfl rfl ?_;intro a hf
 have hW:Below w0.heap.size w0 w0:=Below.refl _ _
 refine Zs hf fun _ hK1=>?_;refine Zf (Xa (zs:=[vi 0,vi 0,vi 0,vi 0,vi 0]) X1p rfl) ?_;rintro _ w1 ⟨b2,rfl,hl2,hE,hB2⟩;have hlo2:=Nat.le_trans hW.size hl2;replace hW:=btr hW hE;refine Zt hK1 fun a hf=>?_;refine Zs hf fun _ hK3=>?_;refine Ze (Xz (ps:=[(0,vi 1)]) (cs:=[vi 1,vi 0,vi 0,vi 0]) rfl (fun _=>by first|rfl|kernel_rfl))<|Zm rfl ?_;refine Zf (Vc (Xwi _ (⟨1,0,0,0⟩ : Rg) k) Xqd) ?_;rintro _ w2 ⟨rfl,hE⟩;replace hB2:=hB2.below hE;replace hW:=btr hW hE;refine Ze (Xz (ps:=[(0,.agg #[vi ((rTurn (⟨1,0,0,0⟩ : Rg) k).a),vi ((rTurn (⟨1,0,0,0⟩ : Rg) k).b),vi ((rTurn (⟨1,0,0,0⟩ : Rg) k).c),vi ((rTurn (⟨1,0,0,0⟩ : Rg) k).d)])]) (cs:=[vi ((rTurn (⟨1,0,0,0⟩ : Rg) k).a),vi ((rTurn (⟨1,0,0,0⟩ : Rg) k).b),vi ((rTurn (⟨1,0,0,0⟩ : Rg) k).c),vi ((rTurn (⟨1,0,0,0⟩ : Rg) k).d),vi 0]) rfl (fun _=>by first|rfl|kernel_rfl)) ?_;refine Zo (Vw [vi ((rTurn (⟨1,0,0,0⟩ : Rg) k).a),vi ((rTurn (⟨1,0,0,0⟩ : Rg) k).b),vi ((rTurn (⟨1,0,0,0⟩ : Rg) k).c),vi ((rTurn (⟨1,0,0,0⟩ : Rg) k).d),vi 0] Xw hB2) ?_;rintro _ w3 ⟨ho,hb⟩;have hold:=hB2;replace hW:=Below.only hW ho hlo2;clear hold;have hB2:=hb;clear hb ho;refine Zt hK3 fun a hf=>?_
 refine wp_ret (X3 hf (Xq hf rfl (ResV.cellN (l:=[vi ((rTurn (⟨1,0,0,0⟩ : Rg) k).a),vi ((rTurn (⟨1,0,0,0⟩ : Rg) k).b),vi ((rTurn (⟨1,0,0,0⟩ : Rg) k).c),vi ((rTurn (⟨1,0,0,0⟩ : Rg) k).d),vi 0]) rfl Xk (hB2.at 0) rfl)) ?_)
 exact ⟨rfl,hW⟩
theorem Xwu(w0:World)(x:Dy) : Ret Tryz.prog 220 [.agg #[vi x.num.a,vi x.num.b,vi x.num.c,vi x.num.d,vi x.exp]] w0 (fun v w=>v=dV (dNeg x)∧Below w0.heap.size w0 w):=by
 refine enter Tryz.func220 rfl 9 rfl rfl ?_;intro a hf
 have hW:Below w0.heap.size w0 w0:=Below.refl _ _
 refine Zs hf fun _ hK1=>?_;refine Zf (X0p (zs:=[vi x.num.a,vi x.num.b,vi x.num.c,vi x.num.d,vi x.exp]) rfl rfl) ?_;rintro _ w1 ⟨b2,rfl,hl2,hE,hB2⟩;have hlo2:=Nat.le_trans hW.size hl2;replace hW:=btr hW hE;refine Zf (Xa (zs:=[vi 0,vi 0,vi 0,vi 0,vi 0]) X1p rfl) ?_;rintro _ w2 ⟨b3,rfl,hl3,hE,hB3⟩
 have hne2_3:b2≠b3:=by have:=hB2.lt;omega
 have hlo3:=Nat.le_trans hW.size hl3;replace hB2:=hB2.below hE;replace hW:=btr hW hE;refine Zt hK1 fun a hf=>?_;refine wp_seq_k fun _ hK4=>?_;refine X05 none (fun j=>[6].contains j) mixed ?_;intro w3 hE;replace hB2:=hB2.below hE;replace hB3:=hB3.below hE;replace hW:=btr hW hE;refine Yb hf ?_;refine Yo 0 rfl (fun _=>Vd rfl X1y 0)<|Ye 1 rfl (X09 (l:=[vi x.num.a,vi x.num.b,vi x.num.c,vi x.num.d]) rfl X0a ((hB2.at 0).take 4) rfl)<|Yo 3 rfl (fun _=>Vd rfl X1c 4)<|Ye 4 rfl (X0 rfl X4 (hB2.at 4)) ?_;refine Y1 2 ?_;refine Yk rfl trivial (Vc (Xw3 _ x.num) Xsr) (fun _ _ ⟨_,hE⟩=>hE) ?_;rintro _ w4 ⟨rfl,hE⟩;replace hB2:=hB2.below hE;replace hB3:=hB3.below hE;replace hW:=btr hW hE;refine Yo 5 rfl (fun _=>Xz (ps:=[(0,.agg #[vi ((rNeg x.num).a),vi ((rNeg x.num).b),vi ((rNeg x.num).c),vi ((rNeg x.num).d)]),(1,vi x.exp)]) (cs:=[vi ((rNeg x.num).a),vi ((rNeg x.num).b),vi ((rNeg x.num).c),vi ((rNeg x.num).d),vi x.exp]) rfl (fun _=>by first|rfl|kernel_rfl)) ?_;refine Y1 6 ?_;refine Yh rfl trivial rfl (Vw [vi ((rNeg x.num).a),vi ((rNeg x.num).b),vi ((rNeg x.num).c),vi ((rNeg x.num).d),vi x.exp] Xw hB3) ?_;rintro _ w5 ⟨ho,hb⟩;have hold:=hB3;replace hB2:=hB2.only ho (by omega);replace hW:=Below.only hW ho hlo3;clear hold;have hB3:=hb;clear hb ho;refine Yd fun a hf=>?_;refine hK4 _ _ ?_
 refine wp_ret (X3 hf (Xq hf rfl (ResV.cellN (l:=[vi ((rNeg x.num).a),vi ((rNeg x.num).b),vi ((rNeg x.num).c),vi ((rNeg x.num).d),vi x.exp]) rfl Xk (hB3.at 0) rfl)) ?_)
 exact ⟨rfl,hW⟩
theorem F59(w0:World)(b:Bool) : Ret Tryz.prog 59 [.bool b] w0 (fun v w=>v=vi (if b=true then 1 else 0)∧w0=w):=by
 refine enter Tryz.func59 rfl 4 rfl rfl ?_;intro a hf
 have hW:Below w0.heap.size w0 w0:=Below.refl _ _
 refine Zs hf fun _ hK1=>?_;refine Za rfl ?_;refine Zt hK1 fun a hf=>?_;refine wp_seq_k fun _ hK2=>?_;refine Zs hf fun _ hK3=>?_;refine Zm rfl ?_;refine Zt hK3 fun a hf=>?_
 refine Xe hf rfl (fun hc4=>?_) (fun hc4=>?_)
 ·have hc4b:=hc4;refine Zs hf fun _ hK5=>?_;refine Za rfl ?_;refine Zt hK5 fun a hf=>?_;refine wp_ret ?_;refine X5 ?_;refine X3 hf (Xq hf rfl rfl) ?_;exact ⟨by simp [*],rfl⟩
 have hc4b:=hc4;refine wp_skip ?_;refine hK2 _ _ ?_;refine Zs hf fun _ hK6=>?_;refine Za rfl ?_;refine Zt hK6 fun a hf=>?_
 refine wp_ret (X3 hf (Xq hf rfl rfl) ?_)
 exact ⟨by simp [*],rfl⟩
theorem Xsh(w0:World)(n:Int) : Ret Tryz.prog 134 [vi n] w0 (fun v w=>v=dV (⟨⟨n,0,0,0⟩,0⟩ : Dy)∧Below w0.heap.size w0 w):=by
 refine enter Tryz.func134 rfl 6 rfl rfl ?_;intro a hf
 have hW:Below w0.heap.size w0 w0:=Below.refl _ _
 refine Zs hf fun _ hK1=>?_;refine Zf (Xa (zs:=[vi 0,vi 0,vi 0,vi 0,vi 0]) X1p rfl) ?_;rintro _ w1 ⟨b2,rfl,hl2,hE,hB2⟩;have hlo2:=Nat.le_trans hW.size hl2;replace hW:=btr hW hE;refine Zt hK1 fun a hf=>?_;refine Zs hf fun _ hK3=>?_;refine Zm rfl<|Ze (Xz (ps:=[(0,vi n)]) (cs:=[vi n,vi 0,vi 0,vi 0]) rfl (fun _=>by first|rfl|kernel_rfl))<|Ze (Xz (ps:=[(0,.agg #[vi n,vi 0,vi 0,vi 0])]) (cs:=[vi n,vi 0,vi 0,vi 0,vi 0]) rfl (fun _=>by first|rfl|kernel_rfl)) ?_;refine Zo (Vw [vi n,vi 0,vi 0,vi 0,vi 0] Xw hB2) ?_;rintro _ w2 ⟨ho,hb⟩;have hold:=hB2;replace hW:=Below.only hW ho hlo2;clear hold;have hB2:=hb;clear hb ho;refine Zt hK3 fun a hf=>?_
 refine wp_ret (X3 hf (Xq hf rfl (ResV.cellN (l:=[vi n,vi 0,vi 0,vi 0,vi 0]) rfl Xk (hB2.at 0) rfl)) ?_)
 exact ⟨rfl,hW⟩
theorem Xor(w0:World)(x:Rg)(Al:Option Addr)(cl:Nat)(l:List Rg)(hr_l:Rd w0 w0.heap.size 96 encR Al l)(hc:cl=l.length)(hl0:l≠[])(hln:l.length≤1000) : Ret Tryz.prog 182 [.agg #[vi x.a,vi x.b,vi x.c,vi x.d],.slice Al l.length cl] w0 (fun v w=>v=.tuple #[rV (rIf1 x l),.bool (rIf2 x l)]∧Below w0.heap.size w0 w):=by
 refine enter Tryz.func182 rfl 23 rfl rfl ?_;intro a hf
 have hW:Below w0.heap.size w0 w0:=Below.refl _ _
 refine Zs hf fun _ hK2=>?_;refine Zf (X0p (zs:=[vi x.a,vi x.b,vi x.c,vi x.d]) rfl rfl) ?_;rintro _ w1 ⟨b3,rfl,hl3,hE,hB3⟩;have hlo3:=Nat.le_trans hW.size hl3;have haw1_3:=(hr_l.below' hW).away hl3;replace hW:=btr hW hE;refine Zf (Xa (zs:=[vi 0,vi 0,vi 0,vi 0]) X2i rfl) ?_;rintro _ w2 ⟨b4,rfl,hl4,hE,hB4⟩
 have hne3_4:b3≠b4:=by have:=hB3.lt;omega
 have hlo4:=Nat.le_trans hW.size hl4;have haw1_4:=(hr_l.below' hW).away hl4;replace hB3:=hB3.below hE;replace hW:=btr hW hE;refine Za rfl ?_;refine Zt hK2 fun a hf=>?_;refine wp_seq_k fun _ hK5=>?_;refine Zs hf fun _ hK6=>?_;refine Zm rfl<|Ze (Vn X0a hB3) ?_;refine Zf (Xm (k:=1) (vs:=[.agg #[vi x.a,vi x.b,vi x.c,vi x.d]]) (zs:=[vi x.a,vi x.b,vi x.c,vi x.d]) rfl X5c X5d rfl rfl) ?_;rintro _ w3 ⟨b7,rfl,hl7,hE,hB7⟩
 have hne3_7:b3≠b7:=by have:=hB3.lt;omega
 have hne4_7:b4≠b7:=by have:=hB4.lt;omega
 have hlo7:=Nat.le_trans hW.size hl7;have haw1_7:=(hr_l.below' hW).away hl7;replace hB3:=hB3.below hE;replace hB4:=hB4.below hE;replace hW:=btr hW hE;refine Zf (Xcp (enc:=encR) (l:=(l)) (l2:=([x])) rfl rfl X5c X5d Xeo (hr_l.below' hW) (Rd.of_blk hB7 rfl _ hB7.lt) hc hl0 (by simp) (by simp only [maxLen];simp;omega) (by simp;omega)) ?_;rintro _ w4 ⟨A9,c9,rfl,ho9,hE⟩;have haw9_3:=ho9.awayNew hB3.lt;have haw9_4:=ho9.awayNew hB4.lt;have haw9_7:=ho9.awayNew hB7.lt;replace ho9:=ho9.lower hW.size;replace hB3:=hB3.below hE;replace hB4:=hB4.below hE;replace hB7:=hB7.below hE;replace hW:=btr hW hE;refine Ze (X0y rfl X5c)<|Zm rfl ?_;refine Zt hK6 fun a hf=>?_;refine wp_block ?_
 have hlen:(l++[x]).length≤1001:=by simp;omega
 refine Xx (σ:=Nat) (fun (k:Nat) (a:Act) (w:World)=>Fr a 23 [(2,.pointer (some ⟨b3,0,none⟩)),(4,.pointer (some ⟨b4,0,none⟩)),(11,.slice A9 (l++([x])).length c9),(12,vi ((l++([x])).length:Int)),(13,vi (k:Int))]∧(k≤(l++[x]).length)∧(((l++[x]).take k).all rOk=true)∧Blk w b3 96 [vi x.a,vi x.b,vi x.c,vi x.d]∧Blk w b4 96 [vi 0,vi 0,vi 0,vi 0]∧Own w w0.heap.size 96 4 encR A9 c9 (l++([x]))∧Below w0.heap.size w0 w) (fun (k:Nat)=>(l++[x]).length+1-k) 0 ?_ ?_
 ·exact ⟨hf.sub ⟨rfl,rfl,rfl,rfl,rfl,trivial⟩,(Nat.zero_le _),(by simp),hB3,hB4,ho9,hW⟩
 rintro k a w5 ⟨hf,hk,hpre,hB3,hB4,ho9,hW⟩;refine Zs hf fun _ hK10=>?_;refine Ze (X0l rfl rfl) ?_;refine Zt hK10 fun a hf=>?_;refine wp_seq_k fun _ hK11=>?_
 refine Xe hf rfl (fun hc12=>?_) (fun hc12=>?_)
 ·have hc12b:=hc12;have hc12:=of_decide_eq_true hc12
  obtain ⟨u13,hu13⟩:=Xl (l:=(l++([x]))) (k:=k) (by omega)
  refine wp_skip ?_;refine hK11 _ _ ?_;refine wp_seq_k fun _ hK14=>?_;refine wp_block ?_;refine Zs hf fun _ hK15=>?_;refine Zi (k:=k) (u:=u13) (enc:=encR) (l:=l++([x])) trivial rfl rfl X5c X12 Xeo ho9.rd hu13 rfl ?_;intro p17 hat16;refine Ze (X09 (l:=[vi u13.a,vi u13.b,vi u13.c,vi u13.d]) rfl X0a hat16 rfl) ?_;refine Zf (Xa (zs:=[vi 0,vi 0,vi 0,vi 0]) X2i rfl) ?_;rintro _ w6 ⟨b18,rfl,hl18,hE,hB18⟩
  have hne3_18:b3≠b18:=by have:=hB3.lt;omega
  have hne4_18:b4≠b18:=by have:=hB4.lt;omega
  have hlo18:=Nat.le_trans hW.size hl18;have haw1_18:=(hr_l.below' hW).away hl18;have haw9_18:=ho9.away hl18;replace hB3:=hB3.below hE;replace hB4:=hB4.below hE;replace ho9:=ho9.below hE;replace hW:=btr hW hE;refine Zo (Vw [vi u13.a,vi u13.b,vi u13.c,vi u13.d] X12 hB18) ?_;rintro _ w7 ⟨ho,hb⟩;have hold:=hB18;replace hB3:=hB3.only ho (by omega);replace hB4:=hB4.only ho (by omega);replace ho9:=ho9.onlyA ho haw9_18;replace hW:=Below.only hW ho hlo18;clear hold;have hB18:=hb;clear hb ho;refine Zt hK15 fun a hf=>?_;refine Zs hf fun _ hK19=>?_;refine Ze (Vn X0a hB18) ?_;refine Zf (Vc (Xjf _ u13) X95) ?_;rintro _ w8 ⟨rfl,hE⟩;replace hB3:=hB3.below hE;replace hB4:=hB4.below hE;replace hB18:=hB18.below hE;replace ho9:=ho9.below hE;replace hW:=btr hW hE;refine Ze (X16 rfl) ?_;refine Zt hK19 fun a hf=>?_
  refine Xe hf rfl (fun hc20=>?_) (fun hc20=>?_)
  ·have hc20b:=hc20
   have hb2:rIf2 x l=false:=Xak hu13 (by simpa using hc20)
   refine Zs hf fun _ hK21=>?_;refine Ze (Xz (ps:=[]) (cs:=[vi 0,vi 0,vi 0,vi 0]) rfl (fun _=>by first|rfl|kernel_rfl)) ?_;refine Zo (Vw [vi 0,vi 0,vi 0,vi 0] X12 hB4) ?_;rintro _ w9 ⟨ho,hb⟩;have hold:=hB4;replace hB3:=hB3.only ho (by omega);replace ho9:=ho9.onlyA ho haw9_4;replace hW:=Below.only hW ho hlo4;clear hold;have hB4:=hb;clear hb ho;refine Za rfl ?_;refine Zt hK21 fun a hf=>?_;refine wp_ret ?_;refine Xr ?_;refine X5 ?_;refine X5 ?_;refine Xr ?_;refine X5 ?_;refine X3 hf (X15 hf rfl (ResV.cellN (l:=[vi 0,vi 0,vi 0,vi 0]) rfl X0a (hB4.at 0) rfl) rfl) ?_;exact ⟨by simp [rIf1,hb2],hW⟩
  have hc20b:=hc20
  have hok:rOk u13=true:=by simpa using hc20
  refine wp_skip ?_;refine Xd ?_;refine hK14 _ _ ?_;refine Zr hf ?_;refine Ze (Xp rfl rfl (by omega) (by omega))<|Zm rfl ?_;refine Zn fun a hf=>?_;refine Xc ?_;exact ⟨k+1,⟨hf.sub ⟨rfl,rfl,rfl,rfl,rfl,trivial⟩,(by omega),(X2a hpre hu13 hok),hB3,hB4,ho9,hW⟩,(by omega)⟩
 have hc12b:=hc12;have hc12:=of_decide_eq_false hc12;refine wp_exit ?_;refine Xf ?_;refine Xf ?_;refine Xy ?_;refine hK5 _ _ ?_;refine Zs hf fun _ hK22=>?_;refine Ze (Vn X0a hB3) ?_;refine Zo (Vw [vi x.a,vi x.b,vi x.c,vi x.d] X12 hB4) ?_;rintro _ w10 ⟨ho,hb⟩;have hold:=hB4;replace hB3:=hB3.only ho (by omega);replace ho9:=ho9.onlyA ho haw9_4;replace hW:=Below.only hW ho hlo4;clear hold;have hB4:=hb;clear hb ho;refine Za rfl ?_;refine Zt hK22 fun a hf=>?_
 refine wp_ret (X3 hf (X15 hf rfl (ResV.cellN (l:=[vi x.a,vi x.b,vi x.c,vi x.d]) rfl X0a (hB4.at 0) rfl) rfl) ?_)
 have hb2:rIf2 x l=true:=X24 hpre (by omega)
 exact ⟨by simp [rIf1,hb2],hW⟩
theorem Xwp(w0:World)(x:Rg)(y:Rg) : Ret Tryz.prog 138 [.agg #[vi x.a,vi x.b,vi x.c,vi x.d],.agg #[vi y.a,vi y.b,vi y.c,vi y.d]] w0 (fun v w=>v=.tuple #[rV (rIf1 (rMul x y) [x,y]),.bool (rIf2 (rMul x y) [x,y])]∧Below w0.heap.size w0 w):=by
 refine enter Tryz.func138 rfl 105 rfl rfl ?_;intro a hf
 have hW:Below w0.heap.size w0 w0:=Below.refl _ _
 refine Zs hf fun _ hK1=>?_;refine Zf (X0p (zs:=[vi x.a,vi x.b,vi x.c,vi x.d]) rfl rfl) ?_;rintro _ w1 ⟨b2,rfl,hl2,hE,hB2⟩;have hlo2:=Nat.le_trans hW.size hl2;replace hW:=btr hW hE;refine Zf (X0p (zs:=[vi y.a,vi y.b,vi y.c,vi y.d]) rfl rfl) ?_;rintro _ w2 ⟨b3,rfl,hl3,hE,hB3⟩
 have hne2_3:b2≠b3:=by have:=hB2.lt;omega
 have hlo3:=Nat.le_trans hW.size hl3;replace hB2:=hB2.below hE;replace hW:=btr hW hE;refine Zf (Xa (zs:=[vi 0,vi 0,vi 0,vi 0]) X2i rfl) ?_;rintro _ w3 ⟨b4,rfl,hl4,hE,hB4⟩
 have hne2_4:b2≠b4:=by have:=hB2.lt;omega
 have hne3_4:b3≠b4:=by have:=hB3.lt;omega
 have hlo4:=Nat.le_trans hW.size hl4;replace hB2:=hB2.below hE;replace hB3:=hB3.below hE;replace hW:=btr hW hE;refine Za rfl ?_;refine Zt hK1 fun a hf=>?_;refine Zs hf fun _ hK5=>?_;refine Ze (Vd rfl X0j 0)<|Ze (X0 rfl X4 (hB2.at 0))<|Ze (Vd rfl X0j 0)<|Ze (X0 rfl X4 (hB3.at 0))<|Ze (X2j rfl rfl) ?_;refine Ze (Vd rfl X0n 1)<|Ze (X0 rfl X4 (hB2.at 1))<|Ze (Vd rfl X0m 3)<|Ze (X0 rfl X4 (hB3.at 3))<|Ze (X2j rfl rfl) ?_;refine Ze (X4p rfl rfl)<|Ze (Vd rfl X0o 2)<|Ze (X0 rfl X4 (hB2.at 2))<|Ze (Vd rfl X0o 2)<|Ze (X0 rfl X4 (hB3.at 2)) ?_;refine Ze (X2j rfl rfl)<|Ze (X4p rfl rfl)<|Ze (Vd rfl X0m 3)<|Ze (X0 rfl X4 (hB2.at 3))<|Ze (Vd rfl X0n 1) ?_;refine Ze (X0 rfl X4 (hB3.at 1))<|Ze (X2j rfl rfl)<|Ze (X4p rfl rfl)<|Ze (Vd rfl X0j 0)<|Ze (X0 rfl X4 (hB2.at 0)) ?_;refine Ze (Vd rfl X0n 1)<|Ze (X0 rfl X4 (hB3.at 1))<|Ze (X2j rfl rfl)<|Ze (Vd rfl X0n 1)<|Ze (X0 rfl X4 (hB2.at 1)) ?_;refine Ze (Vd rfl X0j 0)<|Ze (X0 rfl X4 (hB3.at 0))<|Ze (X2j rfl rfl)<|Ze (X2k rfl rfl)<|Ze (Vd rfl X0o 2) ?_;refine Ze (X0 rfl X4 (hB2.at 2))<|Ze (Vd rfl X0m 3)<|Ze (X0 rfl X4 (hB3.at 3))<|Ze (X2j rfl rfl)<|Ze (X4p rfl rfl) ?_;refine Ze (Vd rfl X0m 3)<|Ze (X0 rfl X4 (hB2.at 3))<|Ze (Vd rfl X0o 2)<|Ze (X0 rfl X4 (hB3.at 2))<|Ze (X2j rfl rfl) ?_;refine Ze (X4p rfl rfl)<|Ze (Vd rfl X0j 0)<|Ze (X0 rfl X4 (hB2.at 0))<|Ze (Vd rfl X0o 2)<|Ze (X0 rfl X4 (hB3.at 2)) ?_;refine Ze (X2j rfl rfl)<|Ze (Vd rfl X0n 1)<|Ze (X0 rfl X4 (hB2.at 1))<|Ze (Vd rfl X0n 1)<|Ze (X0 rfl X4 (hB3.at 1)) ?_;refine Ze (X2j rfl rfl)<|Ze (X2k rfl rfl)<|Ze (Vd rfl X0o 2)<|Ze (X0 rfl X4 (hB2.at 2))<|Ze (Vd rfl X0j 0) ?_;refine Ze (X0 rfl X4 (hB3.at 0))<|Ze (X2j rfl rfl)<|Ze (X2k rfl rfl)<|Ze (Vd rfl X0m 3)<|Ze (X0 rfl X4 (hB2.at 3)) ?_
 refine Ze (Vd rfl X0m 3)<|Ze (X0 rfl X4 (hB3.at 3))<|Ze (X2j rfl rfl)<|Ze (X4p rfl rfl)<|Ze (Vd rfl X0j 0) ?_;refine Ze (X0 rfl X4 (hB2.at 0))<|Ze (Vd rfl X0m 3)<|Ze (X0 rfl X4 (hB3.at 3))<|Ze (X2j rfl rfl)<|Ze (Vd rfl X0n 1) ?_;refine Ze (X0 rfl X4 (hB2.at 1))<|Ze (Vd rfl X0o 2)<|Ze (X0 rfl X4 (hB3.at 2))<|Ze (X2j rfl rfl)<|Ze (X2k rfl rfl) ?_;refine Ze (Vd rfl X0o 2)<|Ze (X0 rfl X4 (hB2.at 2))<|Ze (Vd rfl X0n 1)<|Ze (X0 rfl X4 (hB3.at 1))<|Ze (X2j rfl rfl) ?_;refine Ze (X2k rfl rfl)<|Ze (Vd rfl X0m 3)<|Ze (X0 rfl X4 (hB2.at 3))<|Ze (Vd rfl X0j 0)<|Ze (X0 rfl X4 (hB3.at 0)) ?_;refine Ze (X2j rfl rfl)<|Ze (X2k rfl rfl)<|Ze (Xz (ps:=[(0,vi (wr ((wr ((wr ((wr (x.a*y.a))-(wr (x.b*y.d))))-(wr (x.c*y.c))))-(wr (x.d*y.b))))),(1,vi (wr ((wr ((wr ((wr (x.a*y.b))+(wr (x.b*y.a))))-(wr (x.c*y.d))))-(wr (x.d*y.c))))),(2,vi (wr ((wr ((wr ((wr (x.a*y.c))+(wr (x.b*y.b))))+(wr (x.c*y.a))))-(wr (x.d*y.d))))),(3,vi (wr ((wr ((wr ((wr (x.a*y.d))+(wr (x.b*y.c))))+(wr (x.c*y.b))))+(wr (x.d*y.a)))))]) (cs:=[vi (wr ((wr ((wr ((wr (x.a*y.a))-(wr (x.b*y.d))))-(wr (x.c*y.c))))-(wr (x.d*y.b)))),vi (wr ((wr ((wr ((wr (x.a*y.b))+(wr (x.b*y.a))))-(wr (x.c*y.d))))-(wr (x.d*y.c)))),vi (wr ((wr ((wr ((wr (x.a*y.c))+(wr (x.b*y.b))))+(wr (x.c*y.a))))-(wr (x.d*y.d)))),vi (wr ((wr ((wr ((wr (x.a*y.d))+(wr (x.b*y.c))))+(wr (x.c*y.b))))+(wr (x.d*y.a))))]) rfl (fun _=>by first|rfl|kernel_rfl))<|Ze (Vn X0a hB2)<|Ze (Vn X0a hB3) ?_;refine Zf (Xm (k:=2) (vs:=[.agg #[vi x.a,vi x.b,vi x.c,vi x.d],.agg #[vi y.a,vi y.b,vi y.c,vi y.d]]) (zs:=[vi x.a,vi x.b,vi x.c,vi x.d,vi y.a,vi y.b,vi y.c,vi y.d]) rfl X5c X5d rfl rfl) ?_;rintro _ w4 ⟨b6,rfl,hl6,hE,hB6⟩
 have hne2_6:b2≠b6:=by have:=hB2.lt;omega
 have hne3_6:b3≠b6:=by have:=hB3.lt;omega
 have hne4_6:b4≠b6:=by have:=hB4.lt;omega
 have hlo6:=Nat.le_trans hW.size hl6;replace hB2:=hB2.below hE;replace hB3:=hB3.below hE;replace hB4:=hB4.below hE;replace hW:=btr hW hE;refine Zf (Vc (Xor _ (⟨wr ((wr ((wr ((wr (x.a*y.a))-(wr (x.b*y.d))))-(wr (x.c*y.c))))-(wr (x.d*y.b))),wr ((wr ((wr ((wr (x.a*y.b))+(wr (x.b*y.a))))-(wr (x.c*y.d))))-(wr (x.d*y.c))),wr ((wr ((wr ((wr (x.a*y.c))+(wr (x.b*y.b))))+(wr (x.c*y.a))))-(wr (x.d*y.d))),wr ((wr ((wr ((wr (x.a*y.d))+(wr (x.b*y.c))))+(wr (x.c*y.b))))+(wr (x.d*y.a)))⟩ : Rg) (some ⟨b6,0,none⟩) 2 ([x,y]) (Rd.of_blk hB6 rfl _ hB6.lt) rfl (by simp) (by simp)) Xbw) ?_;rintro _ w5 ⟨rfl,hE⟩;replace hB2:=hB2.below hE;replace hB3:=hB3.below hE;replace hB4:=hB4.below hE;replace hB6:=hB6.below hE;replace hW:=btr hW hE;refine Ze (X8 (vs:=[.agg #[vi ((rIf1 (⟨wr ((wr ((wr ((wr (x.a*y.a))-(wr (x.b*y.d))))-(wr (x.c*y.c))))-(wr (x.d*y.b))),wr ((wr ((wr ((wr (x.a*y.b))+(wr (x.b*y.a))))-(wr (x.c*y.d))))-(wr (x.d*y.c))),wr ((wr ((wr ((wr (x.a*y.c))+(wr (x.b*y.b))))+(wr (x.c*y.a))))-(wr (x.d*y.d))),wr ((wr ((wr ((wr (x.a*y.d))+(wr (x.b*y.c))))+(wr (x.c*y.b))))+(wr (x.d*y.a)))⟩ : Rg) ([x,y])).a),vi ((rIf1 (⟨wr ((wr ((wr ((wr (x.a*y.a))-(wr (x.b*y.d))))-(wr (x.c*y.c))))-(wr (x.d*y.b))),wr ((wr ((wr ((wr (x.a*y.b))+(wr (x.b*y.a))))-(wr (x.c*y.d))))-(wr (x.d*y.c))),wr ((wr ((wr ((wr (x.a*y.c))+(wr (x.b*y.b))))+(wr (x.c*y.a))))-(wr (x.d*y.d))),wr ((wr ((wr ((wr (x.a*y.d))+(wr (x.b*y.c))))+(wr (x.c*y.b))))+(wr (x.d*y.a)))⟩ : Rg) ([x,y])).b),vi ((rIf1 (⟨wr ((wr ((wr ((wr (x.a*y.a))-(wr (x.b*y.d))))-(wr (x.c*y.c))))-(wr (x.d*y.b))),wr ((wr ((wr ((wr (x.a*y.b))+(wr (x.b*y.a))))-(wr (x.c*y.d))))-(wr (x.d*y.c))),wr ((wr ((wr ((wr (x.a*y.c))+(wr (x.b*y.b))))+(wr (x.c*y.a))))-(wr (x.d*y.d))),wr ((wr ((wr ((wr (x.a*y.d))+(wr (x.b*y.c))))+(wr (x.c*y.b))))+(wr (x.d*y.a)))⟩ : Rg) ([x,y])).c),vi ((rIf1 (⟨wr ((wr ((wr ((wr (x.a*y.a))-(wr (x.b*y.d))))-(wr (x.c*y.c))))-(wr (x.d*y.b))),wr ((wr ((wr ((wr (x.a*y.b))+(wr (x.b*y.a))))-(wr (x.c*y.d))))-(wr (x.d*y.c))),wr ((wr ((wr ((wr (x.a*y.c))+(wr (x.b*y.b))))+(wr (x.c*y.a))))-(wr (x.d*y.d))),wr ((wr ((wr ((wr (x.a*y.d))+(wr (x.b*y.c))))+(wr (x.c*y.b))))+(wr (x.d*y.a)))⟩ : Rg) ([x,y])).d)],.bool (rIf2 (⟨wr ((wr ((wr ((wr (x.a*y.a))-(wr (x.b*y.d))))-(wr (x.c*y.c))))-(wr (x.d*y.b))),wr ((wr ((wr ((wr (x.a*y.b))+(wr (x.b*y.a))))-(wr (x.c*y.d))))-(wr (x.d*y.c))),wr ((wr ((wr ((wr (x.a*y.c))+(wr (x.b*y.b))))+(wr (x.c*y.a))))-(wr (x.d*y.d))),wr ((wr ((wr ((wr (x.a*y.d))+(wr (x.b*y.c))))+(wr (x.c*y.b))))+(wr (x.d*y.a)))⟩ : Rg) ([x,y]))]) rfl rfl)<|Ze (X8 (vs:=[.agg #[vi ((rIf1 (⟨wr ((wr ((wr ((wr (x.a*y.a))-(wr (x.b*y.d))))-(wr (x.c*y.c))))-(wr (x.d*y.b))),wr ((wr ((wr ((wr (x.a*y.b))+(wr (x.b*y.a))))-(wr (x.c*y.d))))-(wr (x.d*y.c))),wr ((wr ((wr ((wr (x.a*y.c))+(wr (x.b*y.b))))+(wr (x.c*y.a))))-(wr (x.d*y.d))),wr ((wr ((wr ((wr (x.a*y.d))+(wr (x.b*y.c))))+(wr (x.c*y.b))))+(wr (x.d*y.a)))⟩ : Rg) ([x,y])).a),vi ((rIf1 (⟨wr ((wr ((wr ((wr (x.a*y.a))-(wr (x.b*y.d))))-(wr (x.c*y.c))))-(wr (x.d*y.b))),wr ((wr ((wr ((wr (x.a*y.b))+(wr (x.b*y.a))))-(wr (x.c*y.d))))-(wr (x.d*y.c))),wr ((wr ((wr ((wr (x.a*y.c))+(wr (x.b*y.b))))+(wr (x.c*y.a))))-(wr (x.d*y.d))),wr ((wr ((wr ((wr (x.a*y.d))+(wr (x.b*y.c))))+(wr (x.c*y.b))))+(wr (x.d*y.a)))⟩ : Rg) ([x,y])).b),vi ((rIf1 (⟨wr ((wr ((wr ((wr (x.a*y.a))-(wr (x.b*y.d))))-(wr (x.c*y.c))))-(wr (x.d*y.b))),wr ((wr ((wr ((wr (x.a*y.b))+(wr (x.b*y.a))))-(wr (x.c*y.d))))-(wr (x.d*y.c))),wr ((wr ((wr ((wr (x.a*y.c))+(wr (x.b*y.b))))+(wr (x.c*y.a))))-(wr (x.d*y.d))),wr ((wr ((wr ((wr (x.a*y.d))+(wr (x.b*y.c))))+(wr (x.c*y.b))))+(wr (x.d*y.a)))⟩ : Rg) ([x,y])).c),vi ((rIf1 (⟨wr ((wr ((wr ((wr (x.a*y.a))-(wr (x.b*y.d))))-(wr (x.c*y.c))))-(wr (x.d*y.b))),wr ((wr ((wr ((wr (x.a*y.b))+(wr (x.b*y.a))))-(wr (x.c*y.d))))-(wr (x.d*y.c))),wr ((wr ((wr ((wr (x.a*y.c))+(wr (x.b*y.b))))+(wr (x.c*y.a))))-(wr (x.d*y.d))),wr ((wr ((wr ((wr (x.a*y.d))+(wr (x.b*y.c))))+(wr (x.c*y.b))))+(wr (x.d*y.a)))⟩ : Rg) ([x,y])).d)],.bool (rIf2 (⟨wr ((wr ((wr ((wr (x.a*y.a))-(wr (x.b*y.d))))-(wr (x.c*y.c))))-(wr (x.d*y.b))),wr ((wr ((wr ((wr (x.a*y.b))+(wr (x.b*y.a))))-(wr (x.c*y.d))))-(wr (x.d*y.c))),wr ((wr ((wr ((wr (x.a*y.c))+(wr (x.b*y.b))))+(wr (x.c*y.a))))-(wr (x.d*y.d))),wr ((wr ((wr ((wr (x.a*y.d))+(wr (x.b*y.c))))+(wr (x.c*y.b))))+(wr (x.d*y.a)))⟩ : Rg) ([x,y]))]) rfl rfl) ?_
 refine Zo (Vw [vi ((rIf1 (⟨wr ((wr ((wr ((wr (x.a*y.a))-(wr (x.b*y.d))))-(wr (x.c*y.c))))-(wr (x.d*y.b))),wr ((wr ((wr ((wr (x.a*y.b))+(wr (x.b*y.a))))-(wr (x.c*y.d))))-(wr (x.d*y.c))),wr ((wr ((wr ((wr (x.a*y.c))+(wr (x.b*y.b))))+(wr (x.c*y.a))))-(wr (x.d*y.d))),wr ((wr ((wr ((wr (x.a*y.d))+(wr (x.b*y.c))))+(wr (x.c*y.b))))+(wr (x.d*y.a)))⟩ : Rg) ([x,y])).a),vi ((rIf1 (⟨wr ((wr ((wr ((wr (x.a*y.a))-(wr (x.b*y.d))))-(wr (x.c*y.c))))-(wr (x.d*y.b))),wr ((wr ((wr ((wr (x.a*y.b))+(wr (x.b*y.a))))-(wr (x.c*y.d))))-(wr (x.d*y.c))),wr ((wr ((wr ((wr (x.a*y.c))+(wr (x.b*y.b))))+(wr (x.c*y.a))))-(wr (x.d*y.d))),wr ((wr ((wr ((wr (x.a*y.d))+(wr (x.b*y.c))))+(wr (x.c*y.b))))+(wr (x.d*y.a)))⟩ : Rg) ([x,y])).b),vi ((rIf1 (⟨wr ((wr ((wr ((wr (x.a*y.a))-(wr (x.b*y.d))))-(wr (x.c*y.c))))-(wr (x.d*y.b))),wr ((wr ((wr ((wr (x.a*y.b))+(wr (x.b*y.a))))-(wr (x.c*y.d))))-(wr (x.d*y.c))),wr ((wr ((wr ((wr (x.a*y.c))+(wr (x.b*y.b))))+(wr (x.c*y.a))))-(wr (x.d*y.d))),wr ((wr ((wr ((wr (x.a*y.d))+(wr (x.b*y.c))))+(wr (x.c*y.b))))+(wr (x.d*y.a)))⟩ : Rg) ([x,y])).c),vi ((rIf1 (⟨wr ((wr ((wr ((wr (x.a*y.a))-(wr (x.b*y.d))))-(wr (x.c*y.c))))-(wr (x.d*y.b))),wr ((wr ((wr ((wr (x.a*y.b))+(wr (x.b*y.a))))-(wr (x.c*y.d))))-(wr (x.d*y.c))),wr ((wr ((wr ((wr (x.a*y.c))+(wr (x.b*y.b))))+(wr (x.c*y.a))))-(wr (x.d*y.d))),wr ((wr ((wr ((wr (x.a*y.d))+(wr (x.b*y.c))))+(wr (x.c*y.b))))+(wr (x.d*y.a)))⟩ : Rg) ([x,y])).d)] X12 hB4) ?_;rintro _ w6 ⟨ho,hb⟩;have hold:=hB4;replace hB2:=hB2.only ho (by omega);replace hB3:=hB3.only ho (by omega);replace hB6:=hB6.only ho (by omega);replace hW:=Below.only hW ho hlo4;clear hold;have hB4:=hb;clear hb ho;refine Za rfl ?_;refine Zt hK5 fun a hf=>?_
 refine wp_ret (X3 hf (X15 hf rfl (ResV.cellN (l:=[vi ((rIf1 (⟨wr ((wr ((wr ((wr (x.a*y.a))-(wr (x.b*y.d))))-(wr (x.c*y.c))))-(wr (x.d*y.b))),wr ((wr ((wr ((wr (x.a*y.b))+(wr (x.b*y.a))))-(wr (x.c*y.d))))-(wr (x.d*y.c))),wr ((wr ((wr ((wr (x.a*y.c))+(wr (x.b*y.b))))+(wr (x.c*y.a))))-(wr (x.d*y.d))),wr ((wr ((wr ((wr (x.a*y.d))+(wr (x.b*y.c))))+(wr (x.c*y.b))))+(wr (x.d*y.a)))⟩ : Rg) ([x,y])).a),vi ((rIf1 (⟨wr ((wr ((wr ((wr (x.a*y.a))-(wr (x.b*y.d))))-(wr (x.c*y.c))))-(wr (x.d*y.b))),wr ((wr ((wr ((wr (x.a*y.b))+(wr (x.b*y.a))))-(wr (x.c*y.d))))-(wr (x.d*y.c))),wr ((wr ((wr ((wr (x.a*y.c))+(wr (x.b*y.b))))+(wr (x.c*y.a))))-(wr (x.d*y.d))),wr ((wr ((wr ((wr (x.a*y.d))+(wr (x.b*y.c))))+(wr (x.c*y.b))))+(wr (x.d*y.a)))⟩ : Rg) ([x,y])).b),vi ((rIf1 (⟨wr ((wr ((wr ((wr (x.a*y.a))-(wr (x.b*y.d))))-(wr (x.c*y.c))))-(wr (x.d*y.b))),wr ((wr ((wr ((wr (x.a*y.b))+(wr (x.b*y.a))))-(wr (x.c*y.d))))-(wr (x.d*y.c))),wr ((wr ((wr ((wr (x.a*y.c))+(wr (x.b*y.b))))+(wr (x.c*y.a))))-(wr (x.d*y.d))),wr ((wr ((wr ((wr (x.a*y.d))+(wr (x.b*y.c))))+(wr (x.c*y.b))))+(wr (x.d*y.a)))⟩ : Rg) ([x,y])).c),vi ((rIf1 (⟨wr ((wr ((wr ((wr (x.a*y.a))-(wr (x.b*y.d))))-(wr (x.c*y.c))))-(wr (x.d*y.b))),wr ((wr ((wr ((wr (x.a*y.b))+(wr (x.b*y.a))))-(wr (x.c*y.d))))-(wr (x.d*y.c))),wr ((wr ((wr ((wr (x.a*y.c))+(wr (x.b*y.b))))+(wr (x.c*y.a))))-(wr (x.d*y.d))),wr ((wr ((wr ((wr (x.a*y.d))+(wr (x.b*y.c))))+(wr (x.c*y.b))))+(wr (x.d*y.a)))⟩ : Rg) ([x,y])).d)]) rfl X0a (hB4.at 0) rfl) rfl) ?_)
 exact ⟨rfl,hW⟩
theorem Xva(w0:World)(x:Rg)(y:Rg) : Ret Tryz.prog 141 [.agg #[vi x.a,vi x.b,vi x.c,vi x.d],.agg #[vi y.a,vi y.b,vi y.c,vi y.d]] w0 (fun v w=>v=.tuple #[rV (rIf1 (rAdd x y) [x,y]),.bool (rIf2 (rAdd x y) [x,y])]∧Below w0.heap.size w0 w):=by
 refine enter Tryz.func141 rfl 33 rfl rfl ?_;intro a hf
 have hW:Below w0.heap.size w0 w0:=Below.refl _ _
 refine Zs hf fun _ hK1=>?_;refine Zf (X0p (zs:=[vi x.a,vi x.b,vi x.c,vi x.d]) rfl rfl) ?_;rintro _ w1 ⟨b2,rfl,hl2,hE,hB2⟩;have hlo2:=Nat.le_trans hW.size hl2;replace hW:=btr hW hE;refine Zf (X0p (zs:=[vi y.a,vi y.b,vi y.c,vi y.d]) rfl rfl) ?_;rintro _ w2 ⟨b3,rfl,hl3,hE,hB3⟩
 have hne2_3:b2≠b3:=by have:=hB2.lt;omega
 have hlo3:=Nat.le_trans hW.size hl3;replace hB2:=hB2.below hE;replace hW:=btr hW hE;refine Zf (Xa (zs:=[vi 0,vi 0,vi 0,vi 0]) X2i rfl) ?_;rintro _ w3 ⟨b4,rfl,hl4,hE,hB4⟩
 have hne2_4:b2≠b4:=by have:=hB2.lt;omega
 have hne3_4:b3≠b4:=by have:=hB3.lt;omega
 have hlo4:=Nat.le_trans hW.size hl4;replace hB2:=hB2.below hE;replace hB3:=hB3.below hE;replace hW:=btr hW hE;refine Za rfl ?_;refine Zt hK1 fun a hf=>?_;refine Zs hf fun _ hK5=>?_;refine Ze (Vd rfl X0j 0)<|Ze (X0 rfl X4 (hB2.at 0))<|Ze (Vd rfl X0j 0)<|Ze (X0 rfl X4 (hB3.at 0))<|Ze (X2k rfl rfl) ?_;refine Ze (Vd rfl X0n 1)<|Ze (X0 rfl X4 (hB2.at 1))<|Ze (Vd rfl X0n 1)<|Ze (X0 rfl X4 (hB3.at 1))<|Ze (X2k rfl rfl) ?_;refine Ze (Vd rfl X0o 2)<|Ze (X0 rfl X4 (hB2.at 2))<|Ze (Vd rfl X0o 2)<|Ze (X0 rfl X4 (hB3.at 2))<|Ze (X2k rfl rfl) ?_;refine Ze (Vd rfl X0m 3)<|Ze (X0 rfl X4 (hB2.at 3))<|Ze (Vd rfl X0m 3)<|Ze (X0 rfl X4 (hB3.at 3))<|Ze (X2k rfl rfl) ?_;refine Ze (Xz (ps:=[(0,vi (wr (x.a+y.a))),(1,vi (wr (x.b+y.b))),(2,vi (wr (x.c+y.c))),(3,vi (wr (x.d+y.d)))]) (cs:=[vi (wr (x.a+y.a)),vi (wr (x.b+y.b)),vi (wr (x.c+y.c)),vi (wr (x.d+y.d))]) rfl (fun _=>by first|rfl|kernel_rfl))<|Ze (Vn X0a hB2)<|Ze (Vn X0a hB3) ?_;refine Zf (Xm (k:=2) (vs:=[.agg #[vi x.a,vi x.b,vi x.c,vi x.d],.agg #[vi y.a,vi y.b,vi y.c,vi y.d]]) (zs:=[vi x.a,vi x.b,vi x.c,vi x.d,vi y.a,vi y.b,vi y.c,vi y.d]) rfl X5c X5d rfl rfl) ?_;rintro _ w4 ⟨b6,rfl,hl6,hE,hB6⟩
 have hne2_6:b2≠b6:=by have:=hB2.lt;omega
 have hne3_6:b3≠b6:=by have:=hB3.lt;omega
 have hne4_6:b4≠b6:=by have:=hB4.lt;omega
 have hlo6:=Nat.le_trans hW.size hl6;replace hB2:=hB2.below hE;replace hB3:=hB3.below hE;replace hB4:=hB4.below hE;replace hW:=btr hW hE;refine Zf (Vc (Xor _ (⟨wr (x.a+y.a),wr (x.b+y.b),wr (x.c+y.c),wr (x.d+y.d)⟩ : Rg) (some ⟨b6,0,none⟩) 2 ([x,y]) (Rd.of_blk hB6 rfl _ hB6.lt) rfl (by simp) (by simp)) Xbw) ?_;rintro _ w5 ⟨rfl,hE⟩;replace hB2:=hB2.below hE;replace hB3:=hB3.below hE;replace hB4:=hB4.below hE;replace hB6:=hB6.below hE;replace hW:=btr hW hE;refine Ze (X8 (vs:=[.agg #[vi ((rIf1 (⟨wr (x.a+y.a),wr (x.b+y.b),wr (x.c+y.c),wr (x.d+y.d)⟩ : Rg) ([x,y])).a),vi ((rIf1 (⟨wr (x.a+y.a),wr (x.b+y.b),wr (x.c+y.c),wr (x.d+y.d)⟩ : Rg) ([x,y])).b),vi ((rIf1 (⟨wr (x.a+y.a),wr (x.b+y.b),wr (x.c+y.c),wr (x.d+y.d)⟩ : Rg) ([x,y])).c),vi ((rIf1 (⟨wr (x.a+y.a),wr (x.b+y.b),wr (x.c+y.c),wr (x.d+y.d)⟩ : Rg) ([x,y])).d)],.bool (rIf2 (⟨wr (x.a+y.a),wr (x.b+y.b),wr (x.c+y.c),wr (x.d+y.d)⟩ : Rg) ([x,y]))]) rfl rfl)<|Ze (X8 (vs:=[.agg #[vi ((rIf1 (⟨wr (x.a+y.a),wr (x.b+y.b),wr (x.c+y.c),wr (x.d+y.d)⟩ : Rg) ([x,y])).a),vi ((rIf1 (⟨wr (x.a+y.a),wr (x.b+y.b),wr (x.c+y.c),wr (x.d+y.d)⟩ : Rg) ([x,y])).b),vi ((rIf1 (⟨wr (x.a+y.a),wr (x.b+y.b),wr (x.c+y.c),wr (x.d+y.d)⟩ : Rg) ([x,y])).c),vi ((rIf1 (⟨wr (x.a+y.a),wr (x.b+y.b),wr (x.c+y.c),wr (x.d+y.d)⟩ : Rg) ([x,y])).d)],.bool (rIf2 (⟨wr (x.a+y.a),wr (x.b+y.b),wr (x.c+y.c),wr (x.d+y.d)⟩ : Rg) ([x,y]))]) rfl rfl) ?_;refine Zo (Vw [vi ((rIf1 (⟨wr (x.a+y.a),wr (x.b+y.b),wr (x.c+y.c),wr (x.d+y.d)⟩ : Rg) ([x,y])).a),vi ((rIf1 (⟨wr (x.a+y.a),wr (x.b+y.b),wr (x.c+y.c),wr (x.d+y.d)⟩ : Rg) ([x,y])).b),vi ((rIf1 (⟨wr (x.a+y.a),wr (x.b+y.b),wr (x.c+y.c),wr (x.d+y.d)⟩ : Rg) ([x,y])).c),vi ((rIf1 (⟨wr (x.a+y.a),wr (x.b+y.b),wr (x.c+y.c),wr (x.d+y.d)⟩ : Rg) ([x,y])).d)] X12 hB4) ?_;rintro _ w6 ⟨ho,hb⟩;have hold:=hB4
 replace hB2:=hB2.only ho (by omega);replace hB3:=hB3.only ho (by omega);replace hB6:=hB6.only ho (by omega);replace hW:=Below.only hW ho hlo4;clear hold;have hB4:=hb;clear hb ho;refine Za rfl ?_;refine Zt hK5 fun a hf=>?_
 refine wp_ret (X3 hf (X15 hf rfl (ResV.cellN (l:=[vi ((rIf1 (⟨wr (x.a+y.a),wr (x.b+y.b),wr (x.c+y.c),wr (x.d+y.d)⟩ : Rg) ([x,y])).a),vi ((rIf1 (⟨wr (x.a+y.a),wr (x.b+y.b),wr (x.c+y.c),wr (x.d+y.d)⟩ : Rg) ([x,y])).b),vi ((rIf1 (⟨wr (x.a+y.a),wr (x.b+y.b),wr (x.c+y.c),wr (x.d+y.d)⟩ : Rg) ([x,y])).c),vi ((rIf1 (⟨wr (x.a+y.a),wr (x.b+y.b),wr (x.c+y.c),wr (x.d+y.d)⟩ : Rg) ([x,y])).d)]) rfl X0a (hB4.at 0) rfl) rfl) ?_)
 exact ⟨rfl,hW⟩
theorem Xvu(w0:World)(x:Rg) : Ret Tryz.prog 205 [.agg #[vi x.a,vi x.b,vi x.c,vi x.d]] w0 (fun v w=>v=.tuple #[rV (rIf1 (rRoot x) [x]),.bool (rIf2 (rRoot x) [x])]∧Below w0.heap.size w0 w):=by
 refine enter Tryz.func205 rfl 30 rfl rfl ?_;intro a hf
 have hW:Below w0.heap.size w0 w0:=Below.refl _ _
 refine Zs hf fun _ hK1=>?_;refine Zf (X0p (zs:=[vi x.a,vi x.b,vi x.c,vi x.d]) rfl rfl) ?_;rintro _ w1 ⟨b2,rfl,hl2,hE,hB2⟩;have hlo2:=Nat.le_trans hW.size hl2;replace hW:=btr hW hE;refine Zf (Xa (zs:=[vi 0,vi 0,vi 0,vi 0]) X2i rfl) ?_;rintro _ w2 ⟨b3,rfl,hl3,hE,hB3⟩
 have hne2_3:b2≠b3:=by have:=hB2.lt;omega
 have hlo3:=Nat.le_trans hW.size hl3;replace hB2:=hB2.below hE;replace hW:=btr hW hE;refine Za rfl ?_;refine Zt hK1 fun a hf=>?_;refine Zs hf fun _ hK4=>?_;refine Ze (Vd rfl X0n 1)<|Ze (X0 rfl X4 (hB2.at 1))<|Ze (Vd rfl X0m 3)<|Ze (X0 rfl X4 (hB2.at 3))<|Ze (X4p rfl rfl) ?_;refine Ze (Vd rfl X0j 0)<|Ze (X0 rfl X4 (hB2.at 0))<|Ze (Vd rfl X0o 2)<|Ze (X0 rfl X4 (hB2.at 2))<|Ze (X2k rfl rfl) ?_;refine Ze (Vd rfl X0n 1)<|Ze (X0 rfl X4 (hB2.at 1))<|Ze (Vd rfl X0m 3)<|Ze (X0 rfl X4 (hB2.at 3))<|Ze (X2k rfl rfl) ?_;refine Ze (Vd rfl X0o 2)<|Ze (X0 rfl X4 (hB2.at 2))<|Ze (Vd rfl X0j 0)<|Ze (X0 rfl X4 (hB2.at 0))<|Ze (X4p rfl rfl) ?_;refine Ze (Xz (ps:=[(0,vi (wr (x.b-x.d))),(1,vi (wr (x.a+x.c))),(2,vi (wr (x.b+x.d))),(3,vi (wr (x.c-x.a)))]) (cs:=[vi (wr (x.b-x.d)),vi (wr (x.a+x.c)),vi (wr (x.b+x.d)),vi (wr (x.c-x.a))]) rfl (fun _=>by first|rfl|kernel_rfl))<|Ze (Vn X0a hB2) ?_;refine Zf (Xm (k:=1) (vs:=[.agg #[vi x.a,vi x.b,vi x.c,vi x.d]]) (zs:=[vi x.a,vi x.b,vi x.c,vi x.d]) rfl X5c X5d rfl rfl) ?_;rintro _ w3 ⟨b5,rfl,hl5,hE,hB5⟩
 have hne2_5:b2≠b5:=by have:=hB2.lt;omega
 have hne3_5:b3≠b5:=by have:=hB3.lt;omega
 have hlo5:=Nat.le_trans hW.size hl5;replace hB2:=hB2.below hE;replace hB3:=hB3.below hE;replace hW:=btr hW hE;refine Zf (Vc (Xor _ (⟨wr (x.b-x.d),wr (x.a+x.c),wr (x.b+x.d),wr (x.c-x.a)⟩ : Rg) (some ⟨b5,0,none⟩) 1 ([x]) (Rd.of_blk hB5 rfl _ hB5.lt) rfl (by simp) (by simp)) Xbw) ?_;rintro _ w4 ⟨rfl,hE⟩;replace hB2:=hB2.below hE;replace hB3:=hB3.below hE;replace hB5:=hB5.below hE;replace hW:=btr hW hE;refine Ze (X8 (vs:=[.agg #[vi ((rIf1 (⟨wr (x.b-x.d),wr (x.a+x.c),wr (x.b+x.d),wr (x.c-x.a)⟩ : Rg) ([x])).a),vi ((rIf1 (⟨wr (x.b-x.d),wr (x.a+x.c),wr (x.b+x.d),wr (x.c-x.a)⟩ : Rg) ([x])).b),vi ((rIf1 (⟨wr (x.b-x.d),wr (x.a+x.c),wr (x.b+x.d),wr (x.c-x.a)⟩ : Rg) ([x])).c),vi ((rIf1 (⟨wr (x.b-x.d),wr (x.a+x.c),wr (x.b+x.d),wr (x.c-x.a)⟩ : Rg) ([x])).d)],.bool (rIf2 (⟨wr (x.b-x.d),wr (x.a+x.c),wr (x.b+x.d),wr (x.c-x.a)⟩ : Rg) ([x]))]) rfl rfl)<|Ze (X8 (vs:=[.agg #[vi ((rIf1 (⟨wr (x.b-x.d),wr (x.a+x.c),wr (x.b+x.d),wr (x.c-x.a)⟩ : Rg) ([x])).a),vi ((rIf1 (⟨wr (x.b-x.d),wr (x.a+x.c),wr (x.b+x.d),wr (x.c-x.a)⟩ : Rg) ([x])).b),vi ((rIf1 (⟨wr (x.b-x.d),wr (x.a+x.c),wr (x.b+x.d),wr (x.c-x.a)⟩ : Rg) ([x])).c),vi ((rIf1 (⟨wr (x.b-x.d),wr (x.a+x.c),wr (x.b+x.d),wr (x.c-x.a)⟩ : Rg) ([x])).d)],.bool (rIf2 (⟨wr (x.b-x.d),wr (x.a+x.c),wr (x.b+x.d),wr (x.c-x.a)⟩ : Rg) ([x]))]) rfl rfl) ?_;refine Zo (Vw [vi ((rIf1 (⟨wr (x.b-x.d),wr (x.a+x.c),wr (x.b+x.d),wr (x.c-x.a)⟩ : Rg) ([x])).a),vi ((rIf1 (⟨wr (x.b-x.d),wr (x.a+x.c),wr (x.b+x.d),wr (x.c-x.a)⟩ : Rg) ([x])).b),vi ((rIf1 (⟨wr (x.b-x.d),wr (x.a+x.c),wr (x.b+x.d),wr (x.c-x.a)⟩ : Rg) ([x])).c),vi ((rIf1 (⟨wr (x.b-x.d),wr (x.a+x.c),wr (x.b+x.d),wr (x.c-x.a)⟩ : Rg) ([x])).d)] X12 hB3) ?_;rintro _ w5 ⟨ho,hb⟩;have hold:=hB3;replace hB2:=hB2.only ho (by omega);replace hB5:=hB5.only ho (by omega);replace hW:=Below.only hW ho hlo3
 clear hold;have hB3:=hb;clear hb ho;refine Za rfl ?_;refine Zt hK4 fun a hf=>?_
 refine wp_ret (X3 hf (X15 hf rfl (ResV.cellN (l:=[vi ((rIf1 (⟨wr (x.b-x.d),wr (x.a+x.c),wr (x.b+x.d),wr (x.c-x.a)⟩ : Rg) ([x])).a),vi ((rIf1 (⟨wr (x.b-x.d),wr (x.a+x.c),wr (x.b+x.d),wr (x.c-x.a)⟩ : Rg) ([x])).b),vi ((rIf1 (⟨wr (x.b-x.d),wr (x.a+x.c),wr (x.b+x.d),wr (x.c-x.a)⟩ : Rg) ([x])).c),vi ((rIf1 (⟨wr (x.b-x.d),wr (x.a+x.c),wr (x.b+x.d),wr (x.c-x.a)⟩ : Rg) ([x])).d)]) rfl X0a (hB3.at 0) rfl) rfl) ?_)
 exact ⟨rfl,hW⟩
theorem Xuu(w0:World)(x:Rg)(m:Int)(hm:m≤1000) : Ret Tryz.prog 201 [.agg #[vi x.a,vi x.b,vi x.c,vi x.d],vi m] w0 (fun v w=>v=dV (dLow x m)∧Below w0.heap.size w0 w):=by
 refine enter Tryz.func201 rfl 18 rfl rfl ?_;intro a hf
 have hW:Below w0.heap.size w0 w0:=Below.refl _ _
 refine Zs hf fun _ hK1=>?_;refine Zf (X0p (zs:=[vi x.a,vi x.b,vi x.c,vi x.d]) rfl rfl) ?_;rintro _ w1 ⟨b2,rfl,hl2,hE,hB2⟩;have hlo2:=Nat.le_trans hW.size hl2;replace hW:=btr hW hE;refine Zf (Xa (zs:=[vi 0,vi 0,vi 0,vi 0,vi 0]) X1p rfl) ?_;rintro _ w2 ⟨b3,rfl,hl3,hE,hB3⟩;have hlo3:=Nat.le_trans hW.size hl3;replace hB2:=hB2.below hE;replace hW:=btr hW hE;refine Zt hK1 fun a hf=>?_;refine wp_seq_k fun _ hK4=>?_;refine wp_block ?_;refine Xx (σ:=Rg×Int) (fun (s:Rg×Int) (a:Act) (w:World)=>match s with|(y,j)=>Fr a 18 [(1,vi j),(2,.pointer (some ⟨b2,0,none⟩)),(4,.pointer (some ⟨b3,0,none⟩))]∧(dLow y j=dLow x m)∧(j≤1000)∧Blk w b2 96 [vi y.a,vi y.b,vi y.c,vi y.d]∧Blk w b3 98 [vi 0,vi 0,vi 0,vi 0,vi 0]∧Below w0.heap.size w0 w) (fun (s:Rg×Int)=>match s with|(y,j)=>j.toNat) (x,m) ?_ ?_
 ·exact ⟨hf.sub ⟨rfl,rfl,rfl,trivial⟩,rfl,hm,hB2,hB3,hW⟩
 rintro ⟨y,j⟩ a w3 ⟨hf,hinv,hjm,hB2,hB3,hW⟩;refine wp_seq_k fun _ hK5=>?_;refine wp_seq_k fun _ hK6=>?_;refine X08 (fun a w=>Fr a 18 [(1,vi j),(2,.pointer (some ⟨b2,0,none⟩)),(4,.pointer (some ⟨b3,0,none⟩)),(10,.bool ((decide (0<j))&&(rEven y)))]∧Below w3.heap.size w3 w) ?_ ?_
 ·have hEc:Below w3.heap.size w3 w3:=Below.refl _ _
  refine Zr hf ?_;refine Zm rfl<|Ze (X3e rfl rfl)<|Zm rfl ?_
  refine Zg 7 rfl (fun hg7=>?_) (fun hg7=>?_)
  ·refine Zv ⟨_,_,rfl,rfl,hg7⟩ (Vn X0a hB2) ?_;refine Zk ⟨_,_,rfl,rfl,hg7⟩ (Vc (Xv5 _ y) Xse) ?_;rintro _ w4 ⟨rfl,hE⟩;replace hB2:=hB2.below hE;replace hB3:=hB3.below hE;replace hW:=btr hW hE;replace hEc:=btr hEc hE;refine Ze (Xb rfl hg7 rfl) ?_;refine Zn fun a hf=>?_
   have hEE:Below w3.heap.size w3 w4:=hEc
   exact ⟨hf.sub ⟨rfl,rfl,rfl,X1 rfl (by first|rfl|(simp only [hg7,bs];done)|simp [hg7]),trivial⟩,hEE⟩
  refine Zp ⟨_,_,rfl,rfl,hg7⟩ ?_;refine Zp ⟨_,_,rfl,rfl,hg7⟩ ?_;refine Ze (X9 rfl hg7 rfl) ?_;refine Zn fun a hf=>?_
  have hEE:Below w3.heap.size w3 w3:=hEc
  exact ⟨hf.sub ⟨rfl,rfl,rfl,X1 rfl (by first|rfl|(simp only [hg7,bs];done)|simp [hg7]),trivial⟩,hEE⟩
 rintro a w5 ⟨hf,hE⟩;replace hB2:=hB2.below hE;replace hB3:=hB3.below hE;replace hW:=btr hW hE;refine hK6 _ _ ?_
 refine Xe hf rfl (fun hc8=>?_) (fun hc8=>?_)
 ·have hc8b:=hc8
  have hj0:0<j:=by revert hc8;simp;omega
  have hev:rEven y=true:=by revert hc8;cases rEven y<;>simp
  refine wp_skip ?_;refine hK5 _ _ ?_;refine wp_block ?_;refine Zs hf fun _ hK9=>?_;refine Ze (Vn X0a hB2) ?_;refine Zf (Vc (Xwe _ y) Xsg) ?_;rintro _ w6 ⟨rfl,hE⟩;replace hB2:=hB2.below hE;replace hB3:=hB3.below hE;replace hW:=btr hW hE;refine Zo (Vw [vi ((rHalf y).a),vi ((rHalf y).b),vi ((rHalf y).c),vi ((rHalf y).d)] X12 hB2) ?_;rintro _ w7 ⟨ho,hb⟩;have hold:=hB2;replace hB3:=hB3.only ho (Blk.ne hB3 hold rfl);replace hW:=Below.only hW ho hlo2;clear hold;have hB2:=hb;clear hb ho;refine Zt hK9 fun a hf=>?_;refine Zr hf ?_;refine Zm rfl<|Ze (X0s rfl rfl (by omega) (by omega))<|Za rfl ?_;refine Zn fun a hf=>?_;refine Xd ?_;refine Xc ?_;exact ⟨(rHalf y,j-1),⟨hf.sub ⟨rfl,rfl,rfl,trivial⟩,(by rw [← hinv];exact (X49 (by omega) hev).symm),(by omega),hB2,hB3,hW⟩,(by first|omega|(dsimp only;omega))⟩
 have hc8b:=hc8
 have hst:dLow y j=⟨y,j⟩:=X23 (by intro h0;revert hc8;simp [h0])
 refine wp_exit ?_;refine Xf ?_;refine Xf ?_;refine Xy ?_;refine hK4 _ _ ?_;refine Zs hf fun _ hK10=>?_;refine Ze (Vn X0a hB2)<|Zm rfl<|Ze (Xz (ps:=[(0,.agg #[vi y.a,vi y.b,vi y.c,vi y.d]),(1,vi j)]) (cs:=[vi y.a,vi y.b,vi y.c,vi y.d,vi j]) rfl (fun _=>by first|rfl|kernel_rfl)) ?_;refine Zo (Vw [vi y.a,vi y.b,vi y.c,vi y.d,vi j] Xw hB3) ?_;rintro _ w8 ⟨ho,hb⟩;have hold:=hB3;replace hB2:=hB2.only ho (Blk.ne hB2 hold rfl);replace hW:=Below.only hW ho hlo3;clear hold;have hB3:=hb;clear hb ho;refine Zt hK10 fun a hf=>?_
 refine wp_ret (X3 hf (Xq hf rfl (ResV.cellN (l:=[vi y.a,vi y.b,vi y.c,vi y.d,vi j]) rfl Xk (hB3.at 0) rfl)) ?_)
 refine ⟨?_,hW⟩
 rw [← hinv,hst]
theorem Xwj(w0:World)(x:Rg) : Ret Tryz.prog 183 [.agg #[vi x.a,vi x.b,vi x.c,vi x.d]] w0 (fun v w=>v=.tuple #[rV (rDiv1 x),.bool (rDiv2 x)]∧Below w0.heap.size w0 w):=by
 refine enter Tryz.func183 rfl 43 rfl rfl ?_;intro a hf
 have hW:Below w0.heap.size w0 w0:=Below.refl _ _
 refine Zs hf fun _ hK1=>?_;refine Zf (X0p (zs:=[vi x.a,vi x.b,vi x.c,vi x.d]) rfl rfl) ?_;rintro _ w1 ⟨b2,rfl,hl2,hE,hB2⟩;have hlo2:=Nat.le_trans hW.size hl2;replace hW:=btr hW hE;refine Zf (Xa (zs:=[vi 0,vi 0,vi 0,vi 0]) X2i rfl) ?_;rintro _ w2 ⟨b3,rfl,hl3,hE,hB3⟩
 have hne2_3:b2≠b3:=by have:=hB2.lt;omega
 have hlo3:=Nat.le_trans hW.size hl3;replace hB2:=hB2.below hE;replace hW:=btr hW hE;refine Za rfl ?_;refine Zt hK1 fun a hf=>?_;refine wp_seq_k fun _ hK4=>?_;refine wp_seq_k fun _ hK5=>?_;refine X08 (fun a w=>Fr a 43 [(1,.pointer (some ⟨b2,0,none⟩)),(2,.pointer (some ⟨b3,0,none⟩)),(11,.bool ((!(rOk x))||(!(rEven x))))]∧Below w2.heap.size w2 w) ?_ ?_
 ·have hEc:Below w2.heap.size w2 w2:=Below.refl _ _
  refine Zr hf ?_;refine Ze (Vn X0a hB2) ?_;refine Zf (Vc (Xjf _ x) X95) ?_;rintro _ w3 ⟨rfl,hE⟩;replace hB2:=hB2.below hE;replace hB3:=hB3.below hE;replace hW:=btr hW hE;replace hEc:=btr hEc hE;refine Ze (X16 rfl)<|Zm rfl ?_
  refine Zg 7 rfl (fun hg6=>?_) (fun hg6=>?_)
  ·refine Zp ⟨_,_,rfl,rfl,hg6⟩ ?_;refine Zp ⟨_,_,rfl,rfl,hg6⟩ ?_;refine Zp ⟨_,_,rfl,rfl,hg6⟩ ?_;refine Ze (Xb rfl hg6 rfl) ?_;refine Zn fun a hf=>?_
   have hEE:Below w2.heap.size w2 w3:=hEc
   exact ⟨hf.sub ⟨rfl,rfl,X1 rfl (by first|rfl|(simp only [hg6,bs];done)|simp [hg6]),trivial⟩,hEE⟩
  refine Zv ⟨_,_,rfl,rfl,hg6⟩ (Vn X0a hB2) ?_;refine Zk ⟨_,_,rfl,rfl,hg6⟩ (Vc (Xqm _ x) Xfa) ?_;rintro _ w4 ⟨rfl,hE⟩;replace hB2:=hB2.below hE;replace hB3:=hB3.below hE;replace hW:=btr hW hE;replace hEc:=btr hEc hE;refine Zv ⟨_,_,rfl,rfl,hg6⟩ (X16 rfl) ?_;refine Ze (X9 rfl hg6 rfl) ?_;refine Zn fun a hf=>?_
  have hEE:Below w2.heap.size w2 w4:=hEc
  exact ⟨hf.sub ⟨rfl,rfl,X1 rfl (by first|rfl|(simp only [hg6,bs];done)|simp [hg6]),trivial⟩,hEE⟩
 rintro a w5 ⟨hf,hE⟩;replace hB2:=hB2.below hE;replace hB3:=hB3.below hE;replace hW:=btr hW hE;refine hK5 _ _ ?_
 refine Xe hf rfl (fun hc7=>?_) (fun hc7=>?_)
 ·have hc7b:=hc7
  have hn:rDiv2 x=false:=by unfold rDiv2;revert hc7;cases rOk x<;>cases rEven x<;>simp
  refine Zs hf fun _ hK8=>?_;refine Ze (Xz (ps:=[]) (cs:=[vi 0,vi 0,vi 0,vi 0]) rfl (fun _=>by first|rfl|kernel_rfl)) ?_;refine Zo (Vw [vi 0,vi 0,vi 0,vi 0] X12 hB3) ?_;rintro _ w6 ⟨ho,hb⟩;have hold:=hB3;replace hB2:=hB2.only ho (by omega);replace hW:=Below.only hW ho hlo3;clear hold;have hB3:=hb;clear hb ho;refine Za rfl ?_;refine Zt hK8 fun a hf=>?_;refine wp_ret ?_;refine X5 ?_;refine X3 hf (X15 hf rfl (ResV.cellN (l:=[vi 0,vi 0,vi 0,vi 0]) rfl X0a (hB3.at 0) rfl) rfl) ?_;exact ⟨by simp [rDiv1,hn],hW⟩
 have hc7b:=hc7
 have hy:(rOk x&&rEven x)=true:=by revert hc7;cases rOk x<;>cases rEven x<;>simp
 have hok:rOk x=true:=by revert hy;cases rOk x<;>simp
 refine wp_skip ?_;refine hK4 _ _ ?_;refine Zs hf fun _ hK9=>?_;refine Ze (Vd rfl X0n 1)<|Ze (X0 rfl X4 (hB2.at 1))<|Ze (Vd rfl X0m 3)<|Ze (X0 rfl X4 (hB2.at 3))<|Ze (X4p rfl rfl) ?_;refine Ze (Xeb rfl rfl rfl)<|Ze (Vd rfl X0j 0)<|Ze (X0 rfl X4 (hB2.at 0))<|Ze (Vd rfl X0o 2)<|Ze (X0 rfl X4 (hB2.at 2)) ?_;refine Ze (X2k rfl rfl)<|Ze (Xeb rfl rfl rfl)<|Ze (Vd rfl X0n 1)<|Ze (X0 rfl X4 (hB2.at 1))<|Ze (Vd rfl X0m 3) ?_;refine Ze (X0 rfl X4 (hB2.at 3))<|Ze (X2k rfl rfl)<|Ze (Xeb rfl rfl rfl)<|Ze (Vd rfl X0o 2)<|Ze (X0 rfl X4 (hB2.at 2)) ?_;refine Ze (Vd rfl X0j 0)<|Ze (X0 rfl X4 (hB2.at 0))<|Ze (X4p rfl rfl)<|Ze (Xeb rfl rfl rfl)<|Ze (Xz (ps:=[(0,vi (wr ((wr (x.b-x.d)).tdiv 2))),(1,vi (wr ((wr (x.a+x.c)).tdiv 2))),(2,vi (wr ((wr (x.b+x.d)).tdiv 2))),(3,vi (wr ((wr (x.c-x.a)).tdiv 2)))]) (cs:=[vi (wr ((wr (x.b-x.d)).tdiv 2)),vi (wr ((wr (x.a+x.c)).tdiv 2)),vi (wr ((wr (x.b+x.d)).tdiv 2)),vi (wr ((wr (x.c-x.a)).tdiv 2))]) rfl (fun _=>by first|rfl|kernel_rfl)) ?_;refine Ze (Vn X0a hB2) ?_;refine Zf (Xm (k:=1) (vs:=[.agg #[vi x.a,vi x.b,vi x.c,vi x.d]]) (zs:=[vi x.a,vi x.b,vi x.c,vi x.d]) rfl X5c X5d rfl rfl) ?_;rintro _ w7 ⟨b10,rfl,hl10,hE,hB10⟩
 have hne2_10:b2≠b10:=by have:=hB2.lt;omega
 have hne3_10:b3≠b10:=by have:=hB3.lt;omega
 have hlo10:=Nat.le_trans hW.size hl10;replace hB2:=hB2.below hE;replace hB3:=hB3.below hE;replace hW:=btr hW hE;refine Zf (Vc (Xor _ (⟨wr ((wr (x.b-x.d)).tdiv 2),wr ((wr (x.a+x.c)).tdiv 2),wr ((wr (x.b+x.d)).tdiv 2),wr ((wr (x.c-x.a)).tdiv 2)⟩ : Rg) (some ⟨b10,0,none⟩) 1 ([x]) (Rd.of_blk hB10 rfl _ hB10.lt) rfl (by simp) (by simp)) Xbw) ?_;rintro _ w8 ⟨rfl,hE⟩;replace hB2:=hB2.below hE;replace hB3:=hB3.below hE;replace hB10:=hB10.below hE;replace hW:=btr hW hE;refine Ze (X8 (vs:=[.agg #[vi ((rIf1 (⟨wr ((wr (x.b-x.d)).tdiv 2),wr ((wr (x.a+x.c)).tdiv 2),wr ((wr (x.b+x.d)).tdiv 2),wr ((wr (x.c-x.a)).tdiv 2)⟩ : Rg) ([x])).a),vi ((rIf1 (⟨wr ((wr (x.b-x.d)).tdiv 2),wr ((wr (x.a+x.c)).tdiv 2),wr ((wr (x.b+x.d)).tdiv 2),wr ((wr (x.c-x.a)).tdiv 2)⟩ : Rg) ([x])).b),vi ((rIf1 (⟨wr ((wr (x.b-x.d)).tdiv 2),wr ((wr (x.a+x.c)).tdiv 2),wr ((wr (x.b+x.d)).tdiv 2),wr ((wr (x.c-x.a)).tdiv 2)⟩ : Rg) ([x])).c),vi ((rIf1 (⟨wr ((wr (x.b-x.d)).tdiv 2),wr ((wr (x.a+x.c)).tdiv 2),wr ((wr (x.b+x.d)).tdiv 2),wr ((wr (x.c-x.a)).tdiv 2)⟩ : Rg) ([x])).d)],.bool (rIf2 (⟨wr ((wr (x.b-x.d)).tdiv 2),wr ((wr (x.a+x.c)).tdiv 2),wr ((wr (x.b+x.d)).tdiv 2),wr ((wr (x.c-x.a)).tdiv 2)⟩ : Rg) ([x]))]) rfl rfl)<|Ze (X8 (vs:=[.agg #[vi ((rIf1 (⟨wr ((wr (x.b-x.d)).tdiv 2),wr ((wr (x.a+x.c)).tdiv 2),wr ((wr (x.b+x.d)).tdiv 2),wr ((wr (x.c-x.a)).tdiv 2)⟩ : Rg) ([x])).a),vi ((rIf1 (⟨wr ((wr (x.b-x.d)).tdiv 2),wr ((wr (x.a+x.c)).tdiv 2),wr ((wr (x.b+x.d)).tdiv 2),wr ((wr (x.c-x.a)).tdiv 2)⟩ : Rg) ([x])).b),vi ((rIf1 (⟨wr ((wr (x.b-x.d)).tdiv 2),wr ((wr (x.a+x.c)).tdiv 2),wr ((wr (x.b+x.d)).tdiv 2),wr ((wr (x.c-x.a)).tdiv 2)⟩ : Rg) ([x])).c),vi ((rIf1 (⟨wr ((wr (x.b-x.d)).tdiv 2),wr ((wr (x.a+x.c)).tdiv 2),wr ((wr (x.b+x.d)).tdiv 2),wr ((wr (x.c-x.a)).tdiv 2)⟩ : Rg) ([x])).d)],.bool (rIf2 (⟨wr ((wr (x.b-x.d)).tdiv 2),wr ((wr (x.a+x.c)).tdiv 2),wr ((wr (x.b+x.d)).tdiv 2),wr ((wr (x.c-x.a)).tdiv 2)⟩ : Rg) ([x]))]) rfl rfl) ?_
 refine Zo (Vw [vi ((rIf1 (⟨wr ((wr (x.b-x.d)).tdiv 2),wr ((wr (x.a+x.c)).tdiv 2),wr ((wr (x.b+x.d)).tdiv 2),wr ((wr (x.c-x.a)).tdiv 2)⟩ : Rg) ([x])).a),vi ((rIf1 (⟨wr ((wr (x.b-x.d)).tdiv 2),wr ((wr (x.a+x.c)).tdiv 2),wr ((wr (x.b+x.d)).tdiv 2),wr ((wr (x.c-x.a)).tdiv 2)⟩ : Rg) ([x])).b),vi ((rIf1 (⟨wr ((wr (x.b-x.d)).tdiv 2),wr ((wr (x.a+x.c)).tdiv 2),wr ((wr (x.b+x.d)).tdiv 2),wr ((wr (x.c-x.a)).tdiv 2)⟩ : Rg) ([x])).c),vi ((rIf1 (⟨wr ((wr (x.b-x.d)).tdiv 2),wr ((wr (x.a+x.c)).tdiv 2),wr ((wr (x.b+x.d)).tdiv 2),wr ((wr (x.c-x.a)).tdiv 2)⟩ : Rg) ([x])).d)] X12 hB3) ?_;rintro _ w9 ⟨ho,hb⟩;have hold:=hB3;replace hB2:=hB2.only ho (by omega);replace hB10:=hB10.only ho (by omega);replace hW:=Below.only hW ho hlo3;clear hold;have hB3:=hb;clear hb ho;refine Za rfl ?_;refine Zt hK9 fun a hf=>?_
 refine wp_ret (X3 hf (X15 hf rfl (ResV.cellN (l:=[vi ((rIf1 (⟨wr ((wr (x.b-x.d)).tdiv 2),wr ((wr (x.a+x.c)).tdiv 2),wr ((wr (x.b+x.d)).tdiv 2),wr ((wr (x.c-x.a)).tdiv 2)⟩ : Rg) ([x])).a),vi ((rIf1 (⟨wr ((wr (x.b-x.d)).tdiv 2),wr ((wr (x.a+x.c)).tdiv 2),wr ((wr (x.b+x.d)).tdiv 2),wr ((wr (x.c-x.a)).tdiv 2)⟩ : Rg) ([x])).b),vi ((rIf1 (⟨wr ((wr (x.b-x.d)).tdiv 2),wr ((wr (x.a+x.c)).tdiv 2),wr ((wr (x.b+x.d)).tdiv 2),wr ((wr (x.c-x.a)).tdiv 2)⟩ : Rg) ([x])).c),vi ((rIf1 (⟨wr ((wr (x.b-x.d)).tdiv 2),wr ((wr (x.a+x.c)).tdiv 2),wr ((wr (x.b+x.d)).tdiv 2),wr ((wr (x.c-x.a)).tdiv 2)⟩ : Rg) ([x])).d)]) rfl X0a (hB3.at 0) rfl) rfl) ?_)
 refine ⟨?_,hW⟩
 have hd:rDiv2 x=true:=hy
 have h2:=Xlh hok
 show Value.tuple #[rV (rIf1 (rHalf x) [x]),.bool (rIf2 (rHalf x) [x])]=_
 rw [rIf1,h2,rDiv1,hd]
theorem Xvh(w0:World)(x:Rg)(k:Int) : Ret Tryz.prog 133 [.agg #[vi x.a,vi x.b,vi x.c,vi x.d],vi k] w0 (fun v w=>v=.tuple #[rV (mulOm1 x k),.bool (mulOm2 x k)]∧Below w0.heap.size w0 w):=by
 refine enter Tryz.func133 rfl 33 rfl rfl ?_;intro a hf
 have hW:Below w0.heap.size w0 w0:=Below.refl _ _
 refine Zs hf fun _ hK1=>?_;refine Zf (X0p (zs:=[vi x.a,vi x.b,vi x.c,vi x.d]) rfl rfl) ?_;rintro _ w1 ⟨b2,rfl,hl2,hE,hB2⟩;have hlo2:=Nat.le_trans hW.size hl2;replace hW:=btr hW hE;refine Zf (Xa (zs:=[vi 0,vi 0,vi 0,vi 0]) X2i rfl) ?_;rintro _ w2 ⟨b3,rfl,hl3,hE,hB3⟩
 have hne2_3:b2≠b3:=by have:=hB2.lt;omega
 have hlo3:=Nat.le_trans hW.size hl3;replace hB2:=hB2.below hE;replace hW:=btr hW hE;refine Za rfl ?_;refine Zt hK1 fun a hf=>?_;refine wp_seq_k fun _ hK4=>?_;refine wp_seq_k fun _ hK5=>?_;refine X08 (fun a w=>Fr a 33 [(1,vi k),(2,.pointer (some ⟨b2,0,none⟩)),(4,.pointer (some ⟨b3,0,none⟩)),(13,.bool ((!(inR k (-1000) 1000))||(!(rOk x))))]∧Below w2.heap.size w2 w) ?_ ?_
 ·have hEc:Below w2.heap.size w2 w2:=Below.refl _ _
  refine Zr hf ?_;refine Zm rfl ?_;refine Zf (Vc (F91 _ k (-1000) 1000) X40) ?_;rintro _ _ ⟨rfl,rfl⟩;refine Ze (X16 rfl)<|Zm rfl ?_
  refine Zg 9 rfl (fun hg6=>?_) (fun hg6=>?_)
  ·refine Zp ⟨_,_,rfl,rfl,hg6⟩ ?_;refine Zp ⟨_,_,rfl,rfl,hg6⟩ ?_;refine Zp ⟨_,_,rfl,rfl,hg6⟩ ?_;refine Ze (Xb rfl hg6 rfl) ?_;refine Zn fun a hf=>?_
   have hEE:Below w2.heap.size w2 w2:=hEc
   exact ⟨hf.sub ⟨rfl,rfl,rfl,X1 rfl (by first|rfl|(simp only [hg6,bs];done)|simp [hg6]),trivial⟩,hEE⟩
  refine Zv ⟨_,_,rfl,rfl,hg6⟩ (Vn X0a hB2) ?_;refine Zk ⟨_,_,rfl,rfl,hg6⟩ (Vc (Xjf _ x) X95) ?_;rintro _ w3 ⟨rfl,hE⟩;replace hB2:=hB2.below hE;replace hB3:=hB3.below hE;replace hW:=btr hW hE;replace hEc:=btr hEc hE;refine Zv ⟨_,_,rfl,rfl,hg6⟩ (X16 rfl) ?_;refine Ze (X9 rfl hg6 rfl) ?_;refine Zn fun a hf=>?_
  have hEE:Below w2.heap.size w2 w3:=hEc
  exact ⟨hf.sub ⟨rfl,rfl,rfl,X1 rfl (by first|rfl|(simp only [hg6,bs];done)|simp [hg6]),trivial⟩,hEE⟩
 rintro a w4 ⟨hf,hE⟩;replace hB2:=hB2.below hE;replace hB3:=hB3.below hE;replace hW:=btr hW hE;refine hK5 _ _ ?_
 refine Xe hf rfl (fun hc7=>?_) (fun hc7=>?_)
 ·have hc7b:=hc7
  have hn:mulOm2 x k=false:=by unfold mulOm2;revert hc7;cases inR k (-1000) 1000<;>cases rOk x<;>simp
  refine Zs hf fun _ hK8=>?_;refine Ze (Xz (ps:=[]) (cs:=[vi 0,vi 0,vi 0,vi 0]) rfl (fun _=>by first|rfl|kernel_rfl)) ?_;refine Zo (Vw [vi 0,vi 0,vi 0,vi 0] X12 hB3) ?_;rintro _ w5 ⟨ho,hb⟩;have hold:=hB3;replace hB2:=hB2.only ho (by omega);replace hW:=Below.only hW ho hlo3;clear hold;have hB3:=hb;clear hb ho;refine Za rfl ?_;refine Zt hK8 fun a hf=>?_;refine wp_ret ?_;refine X5 ?_;refine X3 hf (X15 hf rfl (ResV.cellN (l:=[vi 0,vi 0,vi 0,vi 0]) rfl X0a (hB3.at 0) rfl) rfl) ?_;exact ⟨by simp [mulOm1,hn],hW⟩
 have hc7b:=hc7
 have hy:mulOm2 x k=true:=by unfold mulOm2;revert hc7;cases inR k (-1000) 1000<;>cases rOk x<;>simp
 refine wp_skip ?_;refine hK4 _ _ ?_;refine wp_seq_k fun _ hK9=>?_;refine Zs hf fun _ hK10=>?_;refine Zm rfl<|Ze (X90 rfl rfl rfl)<|Ze (X2k rfl rfl)<|Ze (X90 rfl rfl rfl)<|Zm rfl ?_;refine Zt hK10 fun a hf=>?_;refine wp_block ?_
 have hj:turns k=((turns k).toNat:Int):=by have:=X3y k;omega
 have hj8:=(X3y k).2;refine Xx (σ:=Rg×Nat) (fun (s:Rg×Nat) (a:Act) (w:World)=>match s with|(y,j)=>Fr a 33 [(2,.pointer (some ⟨b2,0,none⟩)),(4,.pointer (some ⟨b3,0,none⟩)),(18,vi ((wr ((k.tmod 8)+8)).tmod 8)),(19,vi (j:Int))]∧(rTurnN ((turns k).toNat-j) y=rTurn x k)∧(j≤(turns k).toNat)∧Blk w b2 96 [vi y.a,vi y.b,vi y.c,vi y.d]∧Blk w b3 96 [vi 0,vi 0,vi 0,vi 0]∧Below w0.heap.size w0 w) (fun (s:Rg×Nat)=>match s with|(y,j)=>(turns k).toNat-j) (x,0) ?_ ?_
 ·exact ⟨hf.sub ⟨rfl,rfl,rfl,rfl,trivial⟩,rfl,(Nat.zero_le _),hB2,hB3,hW⟩
 rintro ⟨y,j⟩ a w6 ⟨hf,hinv,hj8,hB2,hB3,hW⟩;refine Zs hf fun _ hK11=>?_;refine Ze (X0l rfl rfl) ?_;refine Zt hK11 fun a hf=>?_;refine wp_seq_k fun _ hK12=>?_
 refine Xe hf rfl (fun hc13=>?_) (fun hc13=>?_)
 ·have hc13b:=hc13;have hc13:=of_decide_eq_true hc13
  have hj1:(j:Int)<turns k:=hc13
  refine wp_skip ?_;refine hK12 _ _ ?_;refine wp_seq_k fun _ hK14=>?_;refine wp_block ?_;refine Zr hf ?_;refine Ze (Vd rfl X0m 3)<|Ze (X0 rfl X4 (hB2.at 3))<|Ze (Xiq rfl)<|Ze (Vd rfl X0j 0)<|Ze (X0 rfl X4 (hB2.at 0)) ?_;refine Ze (Vd rfl X0n 1)<|Ze (X0 rfl X4 (hB2.at 1))<|Ze (Vd rfl X0o 2)<|Ze (X0 rfl X4 (hB2.at 2))<|Ze (Xz (ps:=[(0,vi (wr (-y.d))),(1,vi y.a),(2,vi y.b),(3,vi y.c)]) (cs:=[vi (wr (-y.d)),vi y.a,vi y.b,vi y.c]) rfl (fun _=>by first|rfl|kernel_rfl)) ?_;refine Zo (Vw [vi (wr (-y.d)),vi y.a,vi y.b,vi y.c] X12 hB2) ?_;rintro _ w7 ⟨ho,hb⟩;have hold:=hB2;replace hB3:=hB3.only ho (by omega);replace hW:=Below.only hW ho hlo2;clear hold;have hB2:=hb;clear hb ho;refine Zn fun a hf=>?_;refine Xd ?_;refine hK14 _ _ ?_;refine Zr hf ?_;refine Ze (Xp rfl rfl (by omega) (by omega))<|Zm rfl ?_;refine Zn fun a hf=>?_;refine Xc ?_;exact ⟨(rOm y,j+1),⟨hf.sub ⟨rfl,rfl,rfl,rfl,trivial⟩,(by rw [← hinv];obtain ⟨m,hm⟩ : ∃ m,(turns k).toNat-j=m+1:=⟨(turns k).toNat-j-1,by omega⟩;rw [hm,show (turns k).toNat-(j+1)=m from by omega];rfl),(by omega),hB2,hB3,hW⟩,(by first|omega|(dsimp only;omega))⟩
 have hc13b:=hc13;have hc13:=of_decide_eq_false hc13
 have hj1:¬ (j:Int)<turns k:=hc13
 refine wp_exit ?_;refine Xf ?_;refine Xf ?_;refine Xy ?_;refine hK9 _ _ ?_;refine Zs hf fun _ hK15=>?_;refine Ze (Vn X0a hB2) ?_;refine Zo (Vw [vi y.a,vi y.b,vi y.c,vi y.d] X12 hB3) ?_;rintro _ w8 ⟨ho,hb⟩;have hold:=hB3;replace hB2:=hB2.only ho (by omega);replace hW:=Below.only hW ho hlo3;clear hold;have hB3:=hb;clear hb ho;refine Za rfl ?_;refine Zt hK15 fun a hf=>?_
 refine wp_ret (X3 hf (X15 hf rfl (ResV.cellN (l:=[vi y.a,vi y.b,vi y.c,vi y.d]) rfl X0a (hB3.at 0) rfl) rfl) ?_)
 have hj0:(turns k).toNat-j=0:=by omega
 rw [hj0] at hinv
 refine ⟨?_,hW⟩
 rw [mulOm1,hy,if_pos rfl,← hinv];rfl
theorem Xhr(w0:World)(k:Int)(hk:inR k (-1000) 1000=true) : Ret Tryz.prog 69 [vi k] w0 (fun v w=>v=dV (dPow k)∧Below w0.heap.size w0 w):=by
 refine enter Tryz.func69 rfl 13 rfl rfl ?_;intro a hf
 have hW:Below w0.heap.size w0 w0:=Below.refl _ _
 refine Zs hf fun _ hK1=>?_;refine Zf (Xa (zs:=[vi 0,vi 0,vi 0,vi 0,vi 0]) X1p rfl) ?_;rintro _ w1 ⟨b2,rfl,hl2,hE,hB2⟩;have hlo2:=Nat.le_trans hW.size hl2;replace hW:=btr hW hE;refine Zt hK1 fun a hf=>?_;refine Zs hf fun _ hK3=>?_;refine Ze (Xz (ps:=[(0,vi 1)]) (cs:=[vi 1,vi 0,vi 0,vi 0]) rfl (fun _=>by first|rfl|kernel_rfl))<|Zm rfl ?_;refine Zf (Vc (Xvh _ (⟨1,0,0,0⟩ : Rg) k) Xrx) ?_;rintro _ w2 ⟨rfl,hE⟩;replace hB2:=hB2.below hE;replace hW:=btr hW hE;refine Zm rfl<|Ze (X8 (vs:=[.agg #[vi ((mulOm1 (⟨1,0,0,0⟩ : Rg) k).a),vi ((mulOm1 (⟨1,0,0,0⟩ : Rg) k).b),vi ((mulOm1 (⟨1,0,0,0⟩ : Rg) k).c),vi ((mulOm1 (⟨1,0,0,0⟩ : Rg) k).d)],.bool (mulOm2 (⟨1,0,0,0⟩ : Rg) k)]) rfl rfl)<|Ze (X8 (vs:=[.agg #[vi ((mulOm1 (⟨1,0,0,0⟩ : Rg) k).a),vi ((mulOm1 (⟨1,0,0,0⟩ : Rg) k).b),vi ((mulOm1 (⟨1,0,0,0⟩ : Rg) k).c),vi ((mulOm1 (⟨1,0,0,0⟩ : Rg) k).d)],.bool (mulOm2 (⟨1,0,0,0⟩ : Rg) k)]) rfl rfl) ?_;refine Zf (Xa (zs:=[vi 0,vi 0,vi 0,vi 0]) X2i rfl) ?_;rintro _ w3 ⟨b4,rfl,hl4,hE,hB4⟩;have hlo4:=Nat.le_trans hW.size hl4;replace hB2:=hB2.below hE;replace hW:=btr hW hE;refine Zo (Vw [vi ((mulOm1 (⟨1,0,0,0⟩ : Rg) k).a),vi ((mulOm1 (⟨1,0,0,0⟩ : Rg) k).b),vi ((mulOm1 (⟨1,0,0,0⟩ : Rg) k).c),vi ((mulOm1 (⟨1,0,0,0⟩ : Rg) k).d)] X12 hB4) ?_;rintro _ w4 ⟨ho,hb⟩;have hold:=hB4;replace hB2:=hB2.only ho (Blk.ne hB2 hold rfl);replace hW:=Below.only hW ho hlo4;clear hold;have hB4:=hb;clear hb ho;refine Za rfl ?_;refine Zt hK3 fun a hf=>?_;refine Zs hf fun _ hK5=>?_;refine Ze (Vn X0a hB4)<|Ze (Xz (ps:=[(0,.agg #[vi ((mulOm1 (⟨1,0,0,0⟩ : Rg) k).a),vi ((mulOm1 (⟨1,0,0,0⟩ : Rg) k).b),vi ((mulOm1 (⟨1,0,0,0⟩ : Rg) k).c),vi ((mulOm1 (⟨1,0,0,0⟩ : Rg) k).d)])]) (cs:=[vi ((mulOm1 (⟨1,0,0,0⟩ : Rg) k).a),vi ((mulOm1 (⟨1,0,0,0⟩ : Rg) k).b),vi ((mulOm1 (⟨1,0,0,0⟩ : Rg) k).c),vi ((mulOm1 (⟨1,0,0,0⟩ : Rg) k).d),vi 0]) rfl (fun _=>by first|rfl|kernel_rfl)) ?_
 refine Zo (Vw [vi ((mulOm1 (⟨1,0,0,0⟩ : Rg) k).a),vi ((mulOm1 (⟨1,0,0,0⟩ : Rg) k).b),vi ((mulOm1 (⟨1,0,0,0⟩ : Rg) k).c),vi ((mulOm1 (⟨1,0,0,0⟩ : Rg) k).d),vi 0] Xw hB2) ?_;rintro _ w5 ⟨ho,hb⟩;have hold:=hB2;replace hB4:=hB4.only ho (Blk.ne hB4 hold rfl);replace hW:=Below.only hW ho hlo2;clear hold;have hB2:=hb;clear hb ho;refine Zt hK5 fun a hf=>?_
 refine wp_ret (X3 hf (Xq hf rfl (ResV.cellN (l:=[vi ((mulOm1 (⟨1,0,0,0⟩ : Rg) k).a),vi ((mulOm1 (⟨1,0,0,0⟩ : Rg) k).b),vi ((mulOm1 (⟨1,0,0,0⟩ : Rg) k).c),vi ((mulOm1 (⟨1,0,0,0⟩ : Rg) k).d),vi 0]) rfl Xk (hB2.at 0) rfl)) ?_)
 refine ⟨?_,hW⟩
 have h2:mulOm2 ⟨1,0,0,0⟩ k=true:=by simp only [mulOm2,hk,Bool.true_and];rfl
 rw [mulOm1,h2];rfl
theorem Xlf(w0:World)(x:Dy) : Ret Tryz.prog 137 [.agg #[vi x.num.a,vi x.num.b,vi x.num.c,vi x.num.d,vi x.exp]] w0 (fun v w=>v=.bool (dOk x)∧Below w0.heap.size w0 w):=by
 refine enter Tryz.func137 rfl 22 rfl rfl ?_;intro a hf
 have hW:Below w0.heap.size w0 w0:=Below.refl _ _
 refine Zs hf fun _ hK1=>?_;refine Zf (X0p (zs:=[vi x.num.a,vi x.num.b,vi x.num.c,vi x.num.d,vi x.exp]) rfl rfl) ?_;rintro _ w1 ⟨b2,rfl,hl2,hE,hB2⟩;have hlo2:=Nat.le_trans hW.size hl2;replace hW:=btr hW hE;refine Za rfl ?_;refine Zt hK1 fun a hf=>?_;refine wp_seq_k fun _ hK3=>?_;refine X08 (fun a w=>Fr a 22 [(2,.bool (((rOk x.num)&&(inR x.exp 0 60))&&((x.exp==0)||(!(rEven x.num)))))]∧Below w1.heap.size w1 w) ?_ ?_
 ·have hEc:Below w1.heap.size w1 w1:=Below.refl _ _
  refine Zr hf ?_;refine Ze (Vd rfl X1y 0)<|Ze (X09 (l:=[vi x.num.a,vi x.num.b,vi x.num.c,vi x.num.d]) rfl X0a ((hB2.at 0).take 4) rfl) ?_;refine Zf (Vc (Xjf _ x.num) X95) ?_;rintro _ w2 ⟨rfl,hE⟩;replace hB2:=hB2.below hE;replace hW:=btr hW hE;replace hEc:=btr hEc hE;refine Zm rfl ?_
  refine Zg 6 rfl (fun hg4=>?_) (fun hg4=>?_)
  ·refine Zv ⟨_,_,rfl,rfl,hg4⟩ (Vd rfl X1c 4) ?_;refine Zv ⟨_,_,rfl,rfl,hg4⟩ (X0 rfl X4 (hB2.at 4)) ?_;refine Zk ⟨_,_,rfl,rfl,hg4⟩ (Vc (F91 _ x.exp 0 60) X40) ?_;rintro _ _ ⟨rfl,rfl⟩;refine Ze (Xb rfl hg4 rfl)<|Zm rfl ?_
   refine Zg 11 rfl (fun hg5=>?_) (fun hg5=>?_)
   ·refine Zv ⟨_,_,rfl,rfl,hg5⟩ (Vd rfl X1c 4) ?_;refine Zv ⟨_,_,rfl,rfl,hg5⟩ (X0 rfl X4 (hB2.at 4)) ?_;refine Zv ⟨_,_,rfl,rfl,hg5⟩ (X0u rfl rfl) ?_;refine Zv ⟨_,_,rfl,rfl,hg5⟩ (X2 rfl) ?_
    refine Zg 15 rfl (fun hg6=>?_) (fun hg6=>?_)
    ·refine Zp ⟨_,_,rfl,rfl,hg6⟩ ?_;refine Zp ⟨_,_,rfl,rfl,hg6⟩ ?_;refine Zp ⟨_,_,rfl,rfl,hg6⟩ ?_;refine Zp ⟨_,_,rfl,rfl,hg6⟩ ?_;refine Zv ⟨_,_,rfl,rfl,hg5⟩ (Xb rfl hg6 rfl) ?_;refine Ze (Xb rfl hg5 rfl)<|Za rfl ?_;refine Zn fun a hf=>?_
     have hEE:Below w1.heap.size w1 w2:=hEc
     exact ⟨hf.sub ⟨X1 rfl (by first|rfl|(simp only [hg4,hg5,hg6,bs];done)|simp [hg4,hg5,hg6]),trivial⟩,hEE⟩
    refine Zv ⟨_,_,rfl,rfl,hg6⟩ (Vd rfl X1y 0) ?_;refine Zv ⟨_,_,rfl,rfl,hg6⟩ (X09 (l:=[vi x.num.a,vi x.num.b,vi x.num.c,vi x.num.d]) rfl X0a ((hB2.at 0).take 4) rfl) ?_;refine Zk ⟨_,_,rfl,rfl,hg6⟩ (Vc (Xqm _ x.num) Xfa) ?_;rintro _ w3 ⟨rfl,hE⟩;replace hB2:=hB2.below hE;replace hW:=btr hW hE;replace hEc:=btr hEc hE;refine Zv ⟨_,_,rfl,rfl,hg6⟩ (X16 rfl) ?_;refine Zv ⟨_,_,rfl,rfl,hg5⟩ (X9 rfl hg6 rfl) ?_;refine Ze (Xb rfl hg5 rfl)<|Za rfl ?_;refine Zn fun a hf=>?_
    have hEE:Below w1.heap.size w1 w3:=hEc
    exact ⟨hf.sub ⟨X1 rfl (by first|rfl|(simp only [hg4,hg5,hg6,bs];done)|simp [hg4,hg5,hg6]),trivial⟩,hEE⟩
   refine Zp ⟨_,_,rfl,rfl,hg5⟩ ?_;refine Zp ⟨_,_,rfl,rfl,hg5⟩ ?_;refine Zp ⟨_,_,rfl,rfl,hg5⟩ ?_;refine Zp ⟨_,_,rfl,rfl,hg5⟩ ?_;refine Zp ⟨_,_,rfl,rfl,trivial⟩ ?_;refine Zp ⟨_,_,rfl,rfl,trivial⟩ ?_;refine Zp ⟨_,_,rfl,rfl,trivial⟩ ?_;refine Zp ⟨_,_,rfl,rfl,trivial⟩ ?_;refine Zp ⟨_,_,rfl,rfl,hg5⟩ ?_;refine Ze (X9 rfl hg5 rfl)<|Za rfl ?_;refine Zn fun a hf=>?_
   have hEE:Below w1.heap.size w1 w2:=hEc
   exact ⟨hf.sub ⟨X1 rfl (by first|rfl|(simp only [hg4,hg5,bs];done)|simp [hg4,hg5]),trivial⟩,hEE⟩
  refine Zp ⟨_,_,rfl,rfl,hg4⟩ ?_;refine Zp ⟨_,_,rfl,rfl,hg4⟩ ?_;refine Zp ⟨_,_,rfl,rfl,hg4⟩ ?_;refine Ze (X9 rfl hg4 rfl)<|Zm rfl<|Zp ⟨_,_,rfl,rfl,rfl⟩ ?_;refine Zp ⟨_,_,rfl,rfl,rfl⟩ ?_;refine Zp ⟨_,_,rfl,rfl,rfl⟩ ?_;refine Zp ⟨_,_,rfl,rfl,rfl⟩ ?_;refine Zp ⟨_,_,rfl,rfl,trivial⟩ ?_;refine Zp ⟨_,_,rfl,rfl,trivial⟩ ?_;refine Zp ⟨_,_,rfl,rfl,trivial⟩ ?_;refine Zp ⟨_,_,rfl,rfl,trivial⟩ ?_;refine Zp ⟨_,_,rfl,rfl,rfl⟩ ?_;refine Ze (X9 rfl rfl rfl)<|Za rfl ?_;refine Zn fun a hf=>?_
  have hEE:Below w1.heap.size w1 w2:=hEc
  exact ⟨hf.sub ⟨X1 rfl (by first|rfl|(simp only [hg4,bs];done)|simp [hg4]),trivial⟩,hEE⟩
 rintro a w4 ⟨hf,hE⟩;replace hB2:=hB2.below hE;replace hW:=btr hW hE;refine hK3 _ _ ?_
 refine wp_ret (X3 hf (Xq hf rfl rfl) ?_)
 exact ⟨by simp [dOk, *],hW⟩
theorem Xu3(w0:World)(x:Rg)(m:Int) : Ret Tryz.prog 139 [.agg #[vi x.a,vi x.b,vi x.c,vi x.d],vi m] w0 (fun v w=>v=.tuple #[dV ((dOf x m).getD dZ),.bool ((dOf x m).isSome)]∧Below w0.heap.size w0 w):=by
 refine enter Tryz.func139 rfl 31 rfl rfl ?_;intro a hf
 have hW:Below w0.heap.size w0 w0:=Below.refl _ _
 refine Zs hf fun _ hK1=>?_;refine Zf (X0p (zs:=[vi x.a,vi x.b,vi x.c,vi x.d]) rfl rfl) ?_;rintro _ w1 ⟨b2,rfl,hl2,hE,hB2⟩;have hlo2:=Nat.le_trans hW.size hl2;replace hW:=btr hW hE;refine Zf (Xa (zs:=[vi 0,vi 0,vi 0,vi 0,vi 0]) X1p rfl) ?_;rintro _ w2 ⟨b3,rfl,hl3,hE,hB3⟩;have hlo3:=Nat.le_trans hW.size hl3;replace hB2:=hB2.below hE;replace hW:=btr hW hE;refine Za rfl ?_;refine Zt hK1 fun a hf=>?_;refine wp_seq_k fun _ hK4=>?_;refine wp_seq_k fun _ hK5=>?_;refine X08 (fun a w=>Fr a 31 [(1,vi m),(2,.pointer (some ⟨b2,0,none⟩)),(4,.pointer (some ⟨b3,0,none⟩)),(13,.bool ((!(rOk x))||(!(inR m 0 60))))]∧Below w2.heap.size w2 w) ?_ ?_
 ·have hEc:Below w2.heap.size w2 w2:=Below.refl _ _
  refine Zr hf ?_;refine Ze (Vn X0a hB2) ?_;refine Zf (Vc (Xjf _ x) X95) ?_;rintro _ w3 ⟨rfl,hE⟩;replace hB2:=hB2.below hE;replace hB3:=hB3.below hE;replace hW:=btr hW hE;replace hEc:=btr hEc hE;refine Ze (X16 rfl)<|Zm rfl ?_
  refine Zg 9 rfl (fun hg6=>?_) (fun hg6=>?_)
  ·refine Zp ⟨_,_,rfl,rfl,hg6⟩ ?_;refine Zp ⟨_,_,rfl,rfl,hg6⟩ ?_;refine Zp ⟨_,_,rfl,rfl,hg6⟩ ?_;refine Ze (Xb rfl hg6 rfl) ?_;refine Zn fun a hf=>?_
   have hEE:Below w2.heap.size w2 w3:=hEc
   exact ⟨hf.sub ⟨rfl,rfl,rfl,X1 rfl (by first|rfl|(simp only [hg6,bs];done)|simp [hg6]),trivial⟩,hEE⟩
  refine Zv ⟨_,_,rfl,rfl,hg6⟩ (X2 rfl) ?_;refine Zk ⟨_,_,rfl,rfl,hg6⟩ (Vc (F91 _ m 0 60) X40) ?_;rintro _ _ ⟨rfl,rfl⟩;refine Zv ⟨_,_,rfl,rfl,hg6⟩ (X16 rfl) ?_;refine Ze (X9 rfl hg6 rfl) ?_;refine Zn fun a hf=>?_
  have hEE:Below w2.heap.size w2 w3:=hEc
  exact ⟨hf.sub ⟨rfl,rfl,rfl,X1 rfl (by first|rfl|(simp only [hg6,bs];done)|simp [hg6]),trivial⟩,hEE⟩
 rintro a w4 ⟨hf,hE⟩;replace hB2:=hB2.below hE;replace hB3:=hB3.below hE;replace hW:=btr hW hE;refine hK5 _ _ ?_
 refine Xe hf rfl (fun hc7=>?_) (fun hc7=>?_)
 ·have hc7b:=hc7
  have hn:(rOk x&&inR m 0 60)=false:=by revert hc7;cases rOk x<;>cases inR m 0 60<;>simp
  refine Zs hf fun _ hK8=>?_;refine Ze (Xz (ps:=[]) (cs:=[vi 0,vi 0,vi 0,vi 0,vi 0]) rfl (fun _=>by first|rfl|kernel_rfl)) ?_;refine Zo (Vw [vi 0,vi 0,vi 0,vi 0,vi 0] Xw hB3) ?_;rintro _ w5 ⟨ho,hb⟩;have hold:=hB3;replace hB2:=hB2.only ho (Blk.ne hB2 hold rfl);replace hW:=Below.only hW ho hlo3;clear hold;have hB3:=hb;clear hb ho;refine Za rfl ?_;refine Zt hK8 fun a hf=>?_;refine wp_ret ?_;refine X5 ?_;refine X3 hf (X15 hf rfl (ResV.cellN (l:=[vi 0,vi 0,vi 0,vi 0,vi 0]) rfl Xk (hB3.at 0) rfl) rfl) ?_;exact ⟨by simp [dOf,hn,dZ],hW⟩
 have hc7b:=hc7
 have hy:(rOk x&&inR m 0 60)=true:=by revert hc7;cases rOk x<;>cases inR m 0 60<;>simp
 have hy2:=(Bool.and_eq_true _ _▸hy:rOk x=true∧inR m 0 60=true);have hm:=Xo.1 hy2.2;refine wp_skip ?_;refine hK4 _ _ ?_;refine wp_seq_k fun _ hK9=>?_;refine wp_block ?_;refine Xx (σ:=Rg×Int) (fun (s:Rg×Int) (a:Act) (w:World)=>match s with|(y,j)=>Fr a 31 [(1,vi j),(2,.pointer (some ⟨b2,0,none⟩)),(4,.pointer (some ⟨b3,0,none⟩))]∧(dLow y j=dLow x m)∧(rOk y=true)∧(j≤60)∧Blk w b2 96 [vi y.a,vi y.b,vi y.c,vi y.d]∧Blk w b3 98 [vi 0,vi 0,vi 0,vi 0,vi 0]∧Below w0.heap.size w0 w) (fun (s:Rg×Int)=>match s with|(y,j)=>j.toNat) (x,m) ?_ ?_
 ·exact ⟨hf.sub ⟨rfl,rfl,rfl,trivial⟩,rfl,hy2.1,hm.2,hB2,hB3,hW⟩
 rintro ⟨y,j⟩ a w6 ⟨hf,hinv,hok,hjm,hB2,hB3,hW⟩;refine wp_seq_k fun _ hK10=>?_;refine wp_seq_k fun _ hK11=>?_;refine X08 (fun a w=>Fr a 31 [(1,vi j),(2,.pointer (some ⟨b2,0,none⟩)),(4,.pointer (some ⟨b3,0,none⟩)),(20,.bool ((decide (0<j))&&(rEven y)))]∧Below w6.heap.size w6 w) ?_ ?_
 ·have hEc:Below w6.heap.size w6 w6:=Below.refl _ _
  refine Zr hf ?_;refine Zm rfl<|Ze (X3e rfl rfl)<|Zm rfl ?_
  refine Zg 17 rfl (fun hg12=>?_) (fun hg12=>?_)
  ·refine Zv ⟨_,_,rfl,rfl,hg12⟩ (Vn X0a hB2) ?_;refine Zk ⟨_,_,rfl,rfl,hg12⟩ (Vc (Xqm _ y) Xfa) ?_;rintro _ w7 ⟨rfl,hE⟩;replace hB2:=hB2.below hE;replace hB3:=hB3.below hE;replace hW:=btr hW hE;replace hEc:=btr hEc hE;refine Ze (Xb rfl hg12 rfl) ?_;refine Zn fun a hf=>?_
   have hEE:Below w6.heap.size w6 w7:=hEc
   exact ⟨hf.sub ⟨rfl,rfl,rfl,X1 rfl (by first|rfl|(simp only [hc7b,hg12,bs];done)|simp [hc7b,hg12]),trivial⟩,hEE⟩
  refine Zp ⟨_,_,rfl,rfl,hg12⟩ ?_;refine Zp ⟨_,_,rfl,rfl,hg12⟩ ?_;refine Ze (X9 rfl hg12 rfl) ?_;refine Zn fun a hf=>?_
  have hEE:Below w6.heap.size w6 w6:=hEc
  exact ⟨hf.sub ⟨rfl,rfl,rfl,X1 rfl (by first|rfl|(simp only [hc7b,hg12,bs];done)|simp [hc7b,hg12]),trivial⟩,hEE⟩
 rintro a w8 ⟨hf,hE⟩;replace hB2:=hB2.below hE;replace hB3:=hB3.below hE;replace hW:=btr hW hE;refine hK11 _ _ ?_
 refine Xe hf rfl (fun hc13=>?_) (fun hc13=>?_)
 ·have hc13b:=hc13
  have hj0:0<j:=by revert hc13;simp;omega
  have hev:rEven y=true:=by revert hc13;cases rEven y<;>simp
  refine wp_skip ?_;refine hK10 _ _ ?_;refine wp_block ?_;refine Zs hf fun _ hK14=>?_;refine Ze (Vn X0a hB2) ?_;refine Zf (Vc (Xwj _ y) Xqg) ?_;rintro _ w9 ⟨rfl,hE⟩;replace hB2:=hB2.below hE;replace hB3:=hB3.below hE;replace hW:=btr hW hE;refine Zm rfl<|Ze (X8 (vs:=[.agg #[vi ((rDiv1 y).a),vi ((rDiv1 y).b),vi ((rDiv1 y).c),vi ((rDiv1 y).d)],.bool (rDiv2 y)]) rfl rfl)<|Ze (X8 (vs:=[.agg #[vi ((rDiv1 y).a),vi ((rDiv1 y).b),vi ((rDiv1 y).c),vi ((rDiv1 y).d)],.bool (rDiv2 y)]) rfl rfl) ?_;refine Zo (Vw [vi ((rDiv1 y).a),vi ((rDiv1 y).b),vi ((rDiv1 y).c),vi ((rDiv1 y).d)] X12 hB2) ?_;rintro _ w10 ⟨ho,hb⟩;have hold:=hB2;replace hB3:=hB3.only ho (Blk.ne hB3 hold rfl);replace hW:=Below.only hW ho hlo2;clear hold;have hB2:=hb;clear hb ho;refine Zt hK14 fun a hf=>?_;refine Zr hf ?_;refine Zm rfl<|Ze (X0s rfl rfl (by omega) (by omega))<|Za rfl ?_;refine Zn fun a hf=>?_;refine Xd ?_
  rw [rDiv1,rDiv2,hok,hev,Bool.and_self,if_pos rfl] at hB2
  refine Xc ?_;exact ⟨(rHalf y,j-1),⟨hf.sub ⟨rfl,rfl,rfl,trivial⟩,(by rw [← hinv];exact (X49 (by omega) hev).symm),(X75 hok),(by omega),hB2,hB3,hW⟩,(by first|omega|(dsimp only;omega))⟩
 have hc13b:=hc13
 have hst:dLow y j=⟨y,j⟩:=X23 (by intro h0;revert hc13;simp [h0])
 refine wp_exit ?_;refine Xf ?_;refine Xf ?_;refine Xy ?_;refine hK9 _ _ ?_;refine Zs hf fun _ hK15=>?_;refine Ze (Vn X0a hB2)<|Zm rfl<|Ze (Xz (ps:=[(0,.agg #[vi y.a,vi y.b,vi y.c,vi y.d]),(1,vi j)]) (cs:=[vi y.a,vi y.b,vi y.c,vi y.d,vi j]) rfl (fun _=>by first|rfl|kernel_rfl)) ?_;refine Zo (Vw [vi y.a,vi y.b,vi y.c,vi y.d,vi j] Xw hB3) ?_;rintro _ w11 ⟨ho,hb⟩;have hold:=hB3;replace hB2:=hB2.only ho (Blk.ne hB2 hold rfl);replace hW:=Below.only hW ho hlo3;clear hold;have hB3:=hb;clear hb ho;refine Za rfl ?_;refine Zt hK15 fun a hf=>?_
 refine wp_ret (X3 hf (X15 hf rfl (ResV.cellN (l:=[vi y.a,vi y.b,vi y.c,vi y.d,vi j]) rfl Xk (hB3.at 0) rfl) rfl) ?_)
 refine ⟨?_,hW⟩
 have he:dOf x m=some ⟨y,j⟩:=by rw [dOf,if_pos hy,← hinv,hst]
 rw [he];rfl
theorem Xui(w0:World)(x:Dy)(m:Int)(h0:0≤x.exp)(hm:m≤60)(hxm:x.exp≤m) : Ret Tryz.prog 184 [.agg #[vi x.num.a,vi x.num.b,vi x.num.c,vi x.num.d,vi x.exp],vi m] w0 (fun v w=>v=.tuple #[rV ((dRaise x m).1),.bool ((dRaise x m).2)]∧Below w0.heap.size w0 w):=by
 refine enter Tryz.func184 rfl 28 rfl rfl ?_;intro a hf
 have hW:Below w0.heap.size w0 w0:=Below.refl _ _
 refine Zs hf fun _ hK1=>?_;refine Zf (X0p (zs:=[vi x.num.a,vi x.num.b,vi x.num.c,vi x.num.d,vi x.exp]) rfl rfl) ?_;rintro _ w1 ⟨b2,rfl,hl2,hE,hB2⟩;have hlo2:=Nat.le_trans hW.size hl2;replace hW:=btr hW hE;refine Zf (Xa (zs:=[vi 0,vi 0,vi 0,vi 0]) X2i rfl) ?_;rintro _ w2 ⟨b3,rfl,hl3,hE,hB3⟩;have hlo3:=Nat.le_trans hW.size hl3;replace hB2:=hB2.below hE;replace hW:=btr hW hE;refine Za rfl ?_;refine Zt hK1 fun a hf=>?_;refine Zs hf fun _ hK4=>?_;refine Ze (Vd rfl X1y 0)<|Ze (X09 (l:=[vi x.num.a,vi x.num.b,vi x.num.c,vi x.num.d]) rfl X0a ((hB2.at 0).take 4) rfl) ?_;refine Zf (Xa (zs:=[vi 0,vi 0,vi 0,vi 0]) X2i rfl) ?_;rintro _ w3 ⟨b5,rfl,hl5,hE,hB5⟩
 have hne3_5:b3≠b5:=by have:=hB3.lt;omega
 have hlo5:=Nat.le_trans hW.size hl5;replace hB2:=hB2.below hE;replace hB3:=hB3.below hE;replace hW:=btr hW hE;refine Zo (Vw [vi x.num.a,vi x.num.b,vi x.num.c,vi x.num.d] X12 hB5) ?_;rintro _ w4 ⟨ho,hb⟩;have hold:=hB5;replace hB2:=hB2.only ho (Blk.ne hB2 hold rfl);replace hB3:=hB3.only ho (by omega);replace hW:=Below.only hW ho hlo5;clear hold;have hB5:=hb;clear hb ho;refine Za rfl ?_;refine Zt hK4 fun a hf=>?_;refine wp_seq_k fun _ hK6=>?_;refine Zs hf fun _ hK7=>?_;refine Ze (Vd rfl X1c 4)<|Ze (X0 rfl X4 (hB2.at 4))<|Za rfl ?_;refine Zt hK7 fun a hf=>?_;refine wp_block ?_;refine Xx (σ:=Rg×Bool×Int) (fun (s:Rg×Bool×Int) (a:Act) (w:World)=>match s with|(y,b,j)=>Fr a 28 [(1,vi m),(4,.pointer (some ⟨b3,0,none⟩)),(6,.pointer (some ⟨b5,0,none⟩)),(7,.bool b),(8,vi j)]∧((if b=true then raiseI (m-j).toNat y else (y,false))=dRaise x m)∧(b=true→j≤m)∧(0≤j∧j≤61)∧Blk w b3 96 [vi 0,vi 0,vi 0,vi 0]∧Blk w b5 96 [vi y.a,vi y.b,vi y.c,vi y.d]∧Below w0.heap.size w0 w) (fun (s:Rg×Bool×Int)=>match s with|(y,b,j)=>(62-j).toNat) (x.num,true,x.exp) ?_ ?_
 ·exact ⟨hf.sub ⟨rfl,rfl,rfl,rfl,rfl,trivial⟩,rfl,(fun _=>hxm),(by omega),hB3,hB5,hW⟩
 rintro ⟨y,b,j⟩ a w5 ⟨hf,hinv,hjm,hj60,hB3,hB5,hW⟩;refine wp_seq_k fun _ hK8=>?_;refine wp_seq_k fun _ hK9=>?_;refine X08 (fun a w=>Fr a 28 [(1,vi m),(4,.pointer (some ⟨b3,0,none⟩)),(6,.pointer (some ⟨b5,0,none⟩)),(7,.bool b),(8,vi j),(18,.bool ((decide (j<m))&&b))]∧w5=w) ?_ ?_
 ·refine Zr hf ?_;refine Zm rfl<|Zm rfl<|Ze (X0l rfl rfl)<|Zm rfl ?_
  refine Zg 16 rfl (fun hg10=>?_) (fun hg10=>?_)
  ·refine Zv ⟨_,_,rfl,rfl,hg10⟩ (X2 rfl) ?_;refine Ze (Xb rfl hg10 rfl) ?_;refine Zn fun a hf=>?_;exact ⟨hf.sub ⟨rfl,rfl,rfl,rfl,rfl,X1 rfl (by first|rfl|(simp only [hg10,bs];done)|simp [hg10]),trivial⟩,rfl⟩
  refine Zp ⟨_,_,rfl,rfl,hg10⟩ ?_;refine Ze (X9 rfl hg10 rfl) ?_;refine Zn fun a hf=>?_;exact ⟨hf.sub ⟨rfl,rfl,rfl,rfl,rfl,X1 rfl (by first|rfl|(simp only [hg10,bs];done)|simp [hg10]),trivial⟩,rfl⟩
 rintro a _ ⟨hf,rfl⟩;refine hK9 _ _ ?_
 refine Xe hf rfl (fun hc11=>?_) (fun hc11=>?_)
 ·have hc11b:=hc11
  have hj0:j<m:=by revert hc11;simp;omega
  have hb:b=true:=by revert hc11;cases b<;>simp
  refine wp_skip ?_;refine hK8 _ _ ?_;refine wp_seq_k fun _ hK12=>?_;refine wp_block ?_;refine Zr hf ?_;refine Ze (Vn X0a hB5) ?_;refine Zf (Vc (Xvu _ y) Xsw) ?_;rintro _ w6 ⟨rfl,hE⟩;replace hB3:=hB3.below hE;replace hB5:=hB5.below hE;replace hW:=btr hW hE;refine Zm rfl<|Ze (X8 (vs:=[.agg #[vi ((rIf1 (rRoot y) [y]).a),vi ((rIf1 (rRoot y) [y]).b),vi ((rIf1 (rRoot y) [y]).c),vi ((rIf1 (rRoot y) [y]).d)],.bool (rIf2 (rRoot y) [y])]) rfl rfl)<|Ze (X8 (vs:=[.agg #[vi ((rIf1 (rRoot y) [y]).a),vi ((rIf1 (rRoot y) [y]).b),vi ((rIf1 (rRoot y) [y]).c),vi ((rIf1 (rRoot y) [y]).d)],.bool (rIf2 (rRoot y) [y])]) rfl rfl) ?_;refine Zo (Vw [vi ((rIf1 (rRoot y) [y]).a),vi ((rIf1 (rRoot y) [y]).b),vi ((rIf1 (rRoot y) [y]).c),vi ((rIf1 (rRoot y) [y]).d)] X12 hB5) ?_;rintro _ w7 ⟨ho,hb⟩;have hold:=hB5;replace hB3:=hB3.only ho (by omega);replace hW:=Below.only hW ho hlo5;clear hold;have hB5:=hb;clear hb ho;refine Za rfl ?_;refine Zn fun a hf=>?_;refine Xd ?_;refine hK12 _ _ ?_;refine Zr hf ?_;refine Zm rfl<|Ze (Xp rfl rfl (by omega) (by omega))<|Za rfl ?_;refine Zn fun a hf=>?_;refine Xc ?_;exact ⟨(rIf1 (rRoot y) [y],rIf2 (rRoot y) [y],j+1),⟨hf.sub ⟨rfl,rfl,rfl,rfl,rfl,trivial⟩,(Xf2 hinv hb hj0),(by intro _;omega),(by omega),hB3,hB5,hW⟩,(by first|omega|(dsimp only;omega))⟩
 have hc11b:=hc11
 have hst:b=true→m≤j:=by intro h0;subst h0;revert hc11;simp
 refine wp_exit ?_;refine Xf ?_;refine Xf ?_;refine Xy ?_;refine hK6 _ _ ?_;refine Zs hf fun _ hK13=>?_;refine Ze (Vn X0a hB5)<|Zm rfl ?_;refine Zo (Vw [vi y.a,vi y.b,vi y.c,vi y.d] X12 hB3) ?_;rintro _ w8 ⟨ho,hb⟩;have hold:=hB3;replace hB5:=hB5.only ho (by omega);replace hW:=Below.only hW ho hlo3;clear hold;have hB3:=hb;clear hb ho;refine Za rfl ?_;refine Zt hK13 fun a hf=>?_
 refine wp_ret (X3 hf (X15 hf rfl (ResV.cellN (l:=[vi y.a,vi y.b,vi y.c,vi y.d]) rfl X0a (hB3.at 0) rfl) rfl) ?_)
 refine ⟨?_,hW⟩
 have he:dRaise x m=(y,b):=by rw [← hinv];cases b with
  | false=>rfl
  | true=>rw [if_pos rfl,show (m-j).toNat=0 from by have:=hst rfl;omega];rfl
 rw [he]
end Go.Proofs.YtlfjcmldfbfdbaaGreat
