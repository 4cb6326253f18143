/-
  What is proved: for every drawn pair of gates, they commute exactly if the products of their matrices in both orders are equal (and depths of drawn circuits agree and are bounded): the law returns true at every input and leaves its arguments as they were. Conditions: none.
-/
import Derived.WalkKit
import Derived.Maps.AppendAt
import Derived.Test.YtlfjcmldfbfdbaaGreatProg
import Derived.Laws.StructEq
set_option linter.unusedVariables false
set_option linter.unusedSimpArgs false
namespace Go.Proofs.YtlfjcmldfbfdbaaGreat
open Go.RowKit
abbrev vi(x:Int) : Value:=.int .i64 x
def look(t:Nat) : List (Nat×Value)→Option Value
 | []=>none
 | (k,v)::l=>match Nat.beq k t with
  | true=>some v
  | false=>look t l
structure Fr (a:Act) (n:Nat) (e:List (Nat×Value)) : Prop where
 d:a.defers=[]
 s:a.tmps.size=n
 h:∀ t v,look t e=some v→a.tmps[t]? = some v
def ev(e:List (Nat×Value)) : Operand→Option Value
 | .tmp t=>look t e
 | .const v=>some v
 | .global g=>some (.pointer (some ⟨g,0,none⟩))
 | .func f=>some (.func (.func f) #[] #[])
theorem Fr.ev{a:Act}{n:Nat}{e:List (Nat×Value)}{x:Operand}{v:Value}(hf:Fr a n e)(hx:ev e x=some v) : a.eval x=v:=by
 cases x with
 | tmp t=>
  have:=hf.h t v hx
  simp [Act.eval,this]
 | const u=>simpa [YtlfjcmldfbfdbaaGreat.ev,Act.eval] using hx
 | global g=>simpa [YtlfjcmldfbfdbaaGreat.ev,Act.eval] using hx
 | func f=>simpa [YtlfjcmldfbfdbaaGreat.ev,Act.eval] using hx
def evs(e:List (Nat×Value)) : List Operand→Option (List Value)
 | []=>some []
 | x::l=>match ev e x,evs e l with
  | some v,some vs=>some (v::vs)
  | _,_=>none
theorem Fr.evs{a:Act}{n:Nat}{e:List (Nat×Value)}(hf:Fr a n e) : ∀ {l:List Operand} {vs:List Value},evs e l=some vs→l.map a.eval=vs:=by
 intro l
 induction l with
 | nil=>intro vs h;simpa [YtlfjcmldfbfdbaaGreat.evs] using h
 | cons x l ih=>
  intro vs h
  simp only [YtlfjcmldfbfdbaaGreat.evs] at h
  split at h
  ·rename_i v us h1 h2
   injection h with h
   subst h
   simp [hf.ev h1,ih h2]
  ·cases h
theorem X2o(d:Nat)(v:Value)(e:List (Nat×Value)) : look d ((d,v)::e)=some v:=by simp [look]
theorem X39{d t:Nat}(v:Value)(e:List (Nat×Value))(h:d≠t) : look t ((d,v)::e)=look t e:=by
 have:Nat.beq d t=false:=by
  cases hb:Nat.beq d t
  ·rfl
  ·exact absurd (Nat.eq_of_beq_eq_true hb) h
 simp [look,this]
theorem Fr.put{a:Act}{n:Nat}{e:List (Nat×Value)}(hf:Fr a n e)(d:Nat)(v:Value)(hd:Nat.blt d n=true) : Fr (a.put (some d) v) n ((d,v)::e):=by
 have hd':d<n:=by simpa [Nat.blt_eq] using hd
 refine ⟨hf.d,by simp [Act.put,hf.s],fun t u hu=>?_⟩
 by_cases h:d=t
 ·subst h
  rw [X2o] at hu
  injection hu with hu
  subst hu
  simp [Act.put,hf.s,hd']
 ·rw [X39 _ _ h] at hu
  simp [Act.put,Array.getElem?_setIfInBounds_ne h,hf.h t u hu]
theorem Fr.put_none{a:Act}{n:Nat}{e:List (Nat×Value)}(hf:Fr a n e)(v:Value) : Fr (a.put none v) n e:=hf
def Sub(e:List (Nat×Value)) : List (Nat×Value)→Prop
 | []=>True
 | (t,v)::l=>look t e=some v∧Sub e l
theorem Fr.sub{a:Act}{n:Nat}{e e':List (Nat×Value)}(hf:Fr a n e)(hs:Sub e e') : Fr a n e':=by
 refine ⟨hf.d,hf.s,?_⟩
 induction e' with
 | nil=>intro t v h;cases h
 | cons p l ih=>
  obtain ⟨k,u⟩:=p
  intro t v h
  by_cases hk:k=t
  ·subst hk
   rw [X2o] at h
   injection h with h
   subst h
   exact hf.h _ _ hs.1
  ·rw [X39 _ _ hk] at h
   exact ih hs.2 t v h
def zipFrom:Nat→List Value→List (Nat×Value)
 | _,[]=>[]
 | k,v::l=>(k,v)::zipFrom (k+1) l
theorem X8s{l:List Value}{t:Nat}{v:Value} : ∀ {k:Nat},look t (zipFrom k l)=some v→k≤t∧l[t-k]? = some v:=by
 induction l with
 | nil=>intro k h;cases h
 | cons u l ih=>
  intro k h
  simp only [zipFrom] at h
  by_cases hk:k=t
  ·subst hk
   rw [X2o] at h
   exact ⟨Nat.le_refl _,by simpa using h⟩
  ·rw [X39 _ _ hk] at h
   obtain ⟨h1,h2⟩:=ih h
   refine ⟨by omega,?_⟩
   have:t-k=(t-(k+1))+1:=by omega
   rw [this,List.getElem?_cons_succ]
   exact h2
theorem Xf1{P:Program}{f:FuncId}{fn:Func}{c:Code}{args:List Value}{w:World}{R:Ending→World→Prop}
  (hf:P.funcs[f]? = some fn) (hb:fn.body=some c) (n:Nat) (hn:fn.ntmps=n) (hl:Nat.ble args.length n=true)
  (h:∀ a,Fr a n (zipFrom 0 args)→c.wp P (bodyPost P fn R) a w) : Calls P f args.toArray w R:=by
 refine calls_of_wp hf hb (h _ ⟨rfl,?_,?_⟩)
 ·have:args.length≤n:=by simpa [Nat.ble_eq] using hl
  simp [hn];omega
 ·intro t v hv
  obtain ⟨_,h2⟩:=X8s hv
  have hlt:t<args.length:=by
   have:=(List.getElem?_eq_some_iff.1 h2).1
   simpa using this
  simp only [Nat.sub_zero] at h2
  rw [Array.getElem?_append_left (by simpa using hlt)]
  simpa using h2
def Ev(P:Program)(o:Oper)(a:Act)(w:World)(v:Value) : Prop:=∀ w',Below w.heap.size w w'→(execOp a.eval o).run P w'=.ok (.value v) w'
def EfU(P:Program)(R:Value→World→Prop) : Result Next→Prop
 | .ok (.value v) w'=>R v w'
 | .ok .skip w'=>R undef w'
 | .ok (.enter f args) w'=>Calls P f args w' fun e w''=>∃ v,e=.returned v∧R v w''
 | .ok (.row row args) w'=>Rows P row args w' R
 | _=>False
def Ef(P:Program)(o:Oper)(a:Act)(w:World)(R:Value→World→Prop) : Prop:=EfU P R ((execOp a.eval o).run P w)
theorem Ef.wp{P:Program}{o:Oper}{a:Act}{w:World}{R:Value→World→Prop}(h:Ef P o a w R){K:Act→World→Prop}{Q:Exit→Act→World→Prop}
  (hK:∀ v w',R v w'→K (a.put o.dst v) w') : o.wp P a w K Q:=by
 unfold Ef at h
 unfold Oper.wp
 generalize (execOp a.eval o).run P w=r at *
 cases r with
 | ok nx w'=>
  cases nx<;>simp only [EfU] at h<;>simp only [Oper.upon]
  case value u=>exact hK _ _ h
  case skip=>exact hK _ _ h
  case enter f args=>
   refine Calls.mono h fun e w'' ⟨v,he,hR⟩=>?_
   subst he
   exact hK _ _ hR
  case row row args=>exact Rows.mono h fun u w'' hR=>hK _ _ hR
 | halt x w'=>simp only [EfU] at h
def EvW(P:Program)(o:Oper)(n:Nat)(e:List (Nat×Value))(w:World)(v:Value) : Prop:=∀ a,Fr a n e→Ev P o a w v
def EfW(P:Program)(o:Oper)(n:Nat)(e:List (Nat×Value))(w:World)(R:Value→World→Prop) : Prop:=∀ a,Fr a n e→Ef P o a w R
theorem Ef.of_run{P:Program}{o:Oper}{a:Act}{w w':World}{v:Value}(h:(execOp a.eval o).run P w=.ok (.value v) w') : Ef P o a w fun u w1=>u=v∧w1=w':=by
 unfold Ef
 rw [h]
 exact ⟨rfl,rfl⟩
theorem Ef.of_skip{P:Program}{o:Oper}{a:Act}{w w':World}(h:(execOp a.eval o).run P w=.ok .skip w') : Ef P o a w fun u w1=>u=undef∧w1=w':=by
 unfold Ef
 rw [h]
 exact ⟨rfl,rfl⟩
theorem Ef.mono{P:Program}{o:Oper}{a:Act}{w:World}{R R':Value→World→Prop}(h:Ef P o a w R)(hr:∀ v w',R v w'→R' v w') : Ef P o a w R':=by
 unfold Ef at *
 generalize (execOp a.eval o).run P w=r at *
 cases r with
 | ok nx w'=>
  cases nx<;>simp only [EfU] at h ⊢
  case value u=>exact hr _ _ h
  case skip=>exact hr _ _ h
  case enter f args=>exact Calls.mono h fun e w'' ⟨v,he,hR⟩=>⟨v,he,hr _ _ hR⟩
  case row row args=>exact Rows.mono h hr
 | halt x w'=>simp only [EfU] at h
theorem Ef.of_ev{P:Program}{o:Oper}{a:Act}{w:World}{v:Value}(h:Ev P o a w v) : Ef P o a w fun u w1=>u=v∧w1=w:=Ef.of_run (h w (Below.refl _ _))
def Want(ops:Array Oper)(o:Oper)(e:List (Nat×Value)) : Prop:=
 match o.guard with
 | none=>True
 | some (j,b)=>∃ t b',(ops[j]?).bind (·.dst)=some t∧look t e=some (.bool b')∧b'=b
def notB:Value→Bool→Prop
 | .bool b',b=>b' = !b
 | _,_=>True
def Pass(ops:Array Oper)(o:Oper)(e:List (Nat×Value)) : Prop:=
 match o.guard with
 | none=>False
 | some (j,b)=>∃ t v,(ops[j]?).bind (·.dst)=some t∧look t e=some v∧notB v b
theorem Want.wanted{ops:Array Oper}{o:Oper}{a:Act}{n:Nat}{e:List (Nat×Value)}(h:Want ops o e)(hf:Fr a n e) : Region.wanted o (yielded ops a.tmps)=true:=by
 unfold Want at h
 unfold Region.wanted
 split at h
 ·rename_i hg;simp [hg]
 ·rename_i j b hg
  obtain ⟨t,b',h1,h2,h3⟩:=h
  simp only [hg]
  unfold yielded
  simp [h1,hf.h _ _ h2,h3]
theorem Pass.wanted{ops:Array Oper}{o:Oper}{a:Act}{n:Nat}{e:List (Nat×Value)}(h:Pass ops o e)(hf:Fr a n e) : Region.wanted o (yielded ops a.tmps)=false:=by
 unfold Pass at h
 unfold Region.wanted
 split at h
 ·cases h
 ·rename_i j b hg
  obtain ⟨t,v,h1,h2,h3⟩:=h
  simp only [hg]
  unfold yielded
  rw [h1,Option.bind_some,hf.h _ _ h2]
  cases v<;>first|rfl|(simp only [notB] at h3;subst h3;cases b<;>rfl)
section
variable {P : Program} {ops : Array Oper} {Q : Exit → Act → World → Prop} {a : Act} {w : World} {rest : List Oper} {o : Oper} {n d : Nat} {e : List (Nat × Value)}
theorem Xf2{R:Value→World→Prop}(hf:Fr a n e)(hw:Want ops o e)(hd:o.dst=some d)(hn:Nat.blt d n=true)(hr:Ef P o a w R)
  (h:∀ a' v w',R v w'→Fr a' n ((d,v)::e)→wpList P ops Q rest a' w') : wpList P ops Q (o::rest) a w:=
 wpList_step fun K hK=>by
  rw [if_pos (hw.wanted hf)]
  exact hr.wp fun v w' hR=>hK _ _ (h _ v w' hR (by rw [hd];exact hf.put d v hn))
theorem Xl9{R:Value→World→Prop}(hf:Fr a n e)(hw:Want ops o e)(hd:o.dst=none)(hr:Ef P o a w R)
  (h:∀ a' v w',R v w'→Fr a' n e→wpList P ops Q rest a' w') : wpList P ops Q (o::rest) a w:=
 wpList_step fun K hK=>by
  rw [if_pos (hw.wanted hf)]
  exact hr.wp fun v w' hR=>hK _ _ (h _ v w' hR (by rw [hd];exact hf.put_none v))
theorem Xmu{v:Value}(hf:Fr a n e)(hw:Want ops o e)(hd:o.dst=some d)(hn:Nat.blt d n=true)(hr:Ev P o a w v)
  (h:∀ a',Fr a' n ((d,v)::e)→wpList P ops Q rest a' w) : wpList P ops Q (o::rest) a w:=
 Xf2 hf hw hd hn (Ef.of_ev hr) fun a' v' w' hR hf'=>by
  obtain ⟨rfl,rfl⟩:=hR
  exact h a' hf'
theorem Xkx(hf:Fr a n e)(hw:Pass ops o e)(hd:o.dst=some d)(hn:Nat.blt d n=true)
  (h:∀ a',Fr a' n ((d,undef)::e)→wpList P ops Q rest a' w) : wpList P ops Q (o::rest) a w:=
 wpList_step fun K hK=>by
  rw [if_neg (by rw [hw.wanted hf];simp)]
  exact hK _ _ (h _ (by rw [hd];exact hf.put d undef hn))
end
section
variable {P : Program} {ops : Array Oper} {Q : Exit → Act → World → Prop} {a : Act} {w : World} {rest : List Oper} {op : Op} {ty : TypeId} {pos : String} {af : Array Edge} {n d : Nat} {e : List (Nat × Value)}
theorem l_e{v:Value}(hf:Fr a n e)(hn:Nat.blt d n=true)(hr:Ev P ⟨some d,op,ty,pos,af,none⟩ a w v)(h:∀ a',Fr a' n ((d,v)::e)→wpList P ops Q rest a' w) : wpList P ops Q (⟨some d,op,ty,pos,af,none⟩::rest) a w:=Xmu hf trivial rfl hn hr h
theorem l_f{R:Value→World→Prop}(hf:Fr a n e)(hn:Nat.blt d n=true)(hr:Ef P ⟨some d,op,ty,pos,af,none⟩ a w R)(h:∀ a' v w',R v w'→Fr a' n ((d,v)::e)→wpList P ops Q rest a' w') : wpList P ops Q (⟨some d,op,ty,pos,af,none⟩::rest) a w:=Xf2 hf trivial rfl hn hr h
theorem Xp1{R:Value→World→Prop}(hf:Fr a n e)(hr:Ef P ⟨none,op,ty,pos,af,none⟩ a w R)(h:∀ a' v w',R v w'→Fr a' n e→wpList P ops Q rest a' w') : wpList P ops Q (⟨none,op,ty,pos,af,none⟩::rest) a w:=Xl9 hf trivial rfl hr h
theorem Xow{x:Operand}{v:Value}(hf:Fr a n e)(hx:ev e x=some v)(hn:Nat.blt d n=true)(h:∀ a',Fr a' n ((d,v)::e)→wpList P ops Q rest a' w) : wpList P ops Q (⟨some d,.move x,ty,pos,af,none⟩::rest) a w:=l_e hf hn (fun w' _=>by simp [execOp,hf.ev hx]) h
theorem Xpw{x:Operand}{v:Value}(hf:Fr a n e)(hx:ev e x=some v)(hn:Nat.blt d n=true)(h:∀ a',Fr a' n ((d,v)::e)→wpList P ops Q rest a' w) : wpList P ops Q (⟨some d,.assign x,ty,pos,af,none⟩::rest) a w:=l_e hf hn (fun w' _=>by simp [execOp,hf.ev hx]) h
end
structure Only (b:Nat) (w w':World) : Prop where
 os:w'.os=w.os
 tape:w'.tape=w.tape
 output:w'.output=w.output
 size:w'.heap.size=w.heap.size
 block:∀ k,k≠b→w'.heap[k]? = w.heap[k]?
theorem Only.refl(b:Nat)(w:World) : Only b w w:=⟨rfl,rfl,rfl,rfl,fun _ _=>rfl⟩
theorem Only.trans{b:Nat}{w w' w'':World}(h:Only b w w')(k:Only b w' w'') : Only b w w'':=
 ⟨k.os.trans h.os,k.tape.trans h.tape,k.output.trans h.output,k.size.trans h.size,fun i hi=>(k.block i hi).trans (h.block i hi)⟩
structure Kept (b B:Nat) (w w':World) : Prop where
 os:w'.os=w.os
 tape:w'.tape=w.tape
 output:w'.output=w.output
 size:w.heap.size≤w'.heap.size
 block:∀ k,k<B→k≠b→w'.heap[k]? = w.heap[k]?
theorem Kept.refl(b B:Nat)(w:World) : Kept b B w w:=⟨rfl,rfl,rfl,Nat.le_refl _,fun _ _ _=>rfl⟩
theorem Kept.of_below{b B:Nat}{w w':World}(h:Below B w w') : Kept b B w w':=⟨h.os,h.tape,h.output,h.size,fun k hk _=>h.block k hk⟩
theorem Kept.trans{b B:Nat}{w w' w'':World}(h:Kept b B w w')(k:Below B w' w'') : Kept b B w w'':=
 ⟨k.os.trans h.os,k.tape.trans h.tape,k.output.trans h.output,Nat.le_trans h.size k.size,fun i hi hn=>(k.block i hi).trans (h.block i hi hn)⟩
theorem Kept.transK{b B:Nat}{w w' w'':World}(h:Kept b B w w')(k:Kept b B w' w'') : Kept b B w w'':=
 ⟨k.os.trans h.os,k.tape.trans h.tape,k.output.trans h.output,Nat.le_trans h.size k.size,fun i hi hn=>(k.block i hi hn).trans (h.block i hi hn)⟩
theorem Kept.mono{b B B':Nat}{w w':World}(h:Kept b B w w')(hB:B'≤B) : Kept b B' w w':=⟨h.os,h.tape,h.output,h.size,fun k hk=>h.block k (Nat.lt_of_lt_of_le hk hB)⟩
theorem Kept.only{b b' B:Nat}{w w' w'':World}(h:Kept b B w w')(ho:Only b' w' w'')(hB:B≤b') : Kept b B w w'':=
 h.trans ⟨ho.os,ho.tape,ho.output,by rw [ho.size];exact Nat.le_refl _,fun k hk=>ho.block k (by omega)⟩
theorem Kept.self{b B:Nat}{w w' w'':World}(h:Kept b B w w')(ho:Only b w' w'') : Kept b B w w'':=
 h.transK ⟨ho.os,ho.tape,ho.output,by rw [ho.size];exact Nat.le_refl _,fun k _ hk=>ho.block k hk⟩
theorem Kept.mid{b:Nat}{w w':World}(h:Kept b w.heap.size w w') : ∃ w1,Only b w w1∧(b<w.heap.size→w1.heap[b]? = w'.heap[b]?)∧Below w1.heap.size w1 w':=by
 cases hb:w'.heap[b]? with
 | none=>
  have hlt:w.heap.size≤b:=Nat.le_trans h.size (Array.getElem?_eq_none_iff.1 hb)
  refine ⟨w,Only.refl _ _,fun h'=>by omega,⟨h.os,h.tape,h.output,h.size,fun k hk=>h.block k hk (by omega)⟩⟩
 | some o=>
  refine ⟨{ w with heap:=w.heap.setIfInBounds b o },⟨rfl,rfl,rfl,by simp,fun k hk=>?_⟩,fun h'=>?_,⟨h.os,h.tape,h.output,by simpa using h.size,fun k hk=>?_⟩⟩
  ·show (w.heap.setIfInBounds b o)[k]? = _
   rw [Array.getElem?_setIfInBounds_ne (Ne.symm hk)]
  ·show (w.heap.setIfInBounds b o)[b]? = _
   simp [h']
  ·have hk':k<w.heap.size:=by simpa using hk
   show _=(w.heap.setIfInBounds b o)[k]?
   by_cases hkb:k=b
   ·subst hkb
    simp [hk',hb]
   ·rw [Array.getElem?_setIfInBounds_ne (Ne.symm hkb)]
    exact h.block k hk' hkb
theorem btr{w0 w w':World}(h:Below w0.heap.size w0 w)(hE:Below w.heap.size w w') : Below w0.heap.size w0 w':=h.trans (hE.mono h.size)
theorem ktr{b:Nat}{w0 w w':World}(h:Kept b w0.heap.size w0 w)(hE:Below w.heap.size w w') : Kept b w0.heap.size w0 w':=h.trans (hE.mono h.size)
def Keep(V:Option Nat)(w w':World) : Prop:=match V with
 | none=>Below w.heap.size w w'
 | some b=>∃ w1,Only b w w1∧Below w.heap.size w1 w'
theorem Keep.refl(V:Option Nat)(w:World) : Keep V w w:=by
 cases V with
 | none=>exact Below.refl _ _
 | some b=>exact ⟨w,Only.refl _ _,Below.refl _ _⟩
theorem Keep.kept{b:Nat}{w w':World}(h:Keep (some b) w w') : Kept b w.heap.size w w':=by
 obtain ⟨w1,h1,h2⟩:=h
 exact (Kept.self (Kept.refl b w.heap.size w) h1).trans h2
theorem Kept.keep{b:Nat}{w w':World}(h:Kept b w.heap.size w w') : Keep (some b) w w':=by
 obtain ⟨w1,h1,_,h2⟩:=h.mid
 exact ⟨w1,h1,by rw [← h1.size];exact h2⟩
theorem Keep.of_below{V:Option Nat}{w w':World}(h:Below w.heap.size w w') : Keep V w w':=by
 cases V with
 | none=>exact h
 | some b=>exact ⟨w,Only.refl _ _,h⟩
theorem Keep.trans{V:Option Nat}{w w' w'':World}(h:Keep V w w')(k:Keep V w' w'') : Keep V w w'':=by
 cases V with
 | none=>exact Below.trans h (Below.mono k h.size)
 | some b=>exact (h.kept.transK (k.kept.mono h.kept.size)).keep
section
variable {P : Program} {ops : Array Oper} {Q : Act → World → Prop} {tl : Nat → Bool} {V : Option Nat}
def wpR(P:Program)(ops:Array Oper)(V:Option Nat)(tl:Nat→Bool)(i:Nat)(K:Act→World→Prop)(a:Act)(w:World) : Prop:=
 match ops[i]? with
 | none=>K a w
 | some o=>if Region.wanted o (yielded ops a.tmps) then Ef P o a w (fun v w'=>(tl i=false→Keep V w w')∧K (a.put o.dst v) w') else K (a.put o.dst undef) w
def wpS(P:Program)(ops:Array Oper)(V:Option Nat)(tl:Nat→Bool)(Q:Act→World→Prop) : Nat→Array Bool→Act→World→Prop
 | 0,listed,a,w=>Region.ready .any ops listed=[]∧Q a w
 | fuel+1,listed,a,w=>(Region.ready .any ops listed=[]→Q a w)∧∀ i ∈ Region.ready .any ops listed,wpR P ops V tl i (wpS P ops V tl Q fuel (listed.setIfInBounds i true)) a w
theorem Xh5{i:Nat}{K K':Act→World→Prop}{a:Act}{w:World}(h:∀ a w,K a w→K' a w)(hh:wpR P ops V tl i K a w) : wpR P ops V tl i K' a w:=by
 unfold wpR at *
 split
 ·exact h _ _ (by simpa [*] using hh)
 ·rename_i o ho
  simp only [ho] at hh
  split
  ·rename_i hw
   simp only [hw,if_true] at hh
   exact hh.mono fun v w' ⟨h1,h2⟩=>⟨h1,h _ _ h2⟩
  ·rename_i hw
   simp only [hw] at hh
   exact h _ _ hh
theorem X2i{Q':Exit→Act→World→Prop}(hQ:∀ a w,Q a w→Q' .normal a w) : ∀ (fuel:Nat) (listed:Array Bool) (a:Act) (w:World),wpS P ops V tl Q fuel listed a w→wpAny P .any ops Q' fuel listed a w
 | 0,_,_,_,h=>⟨h.1,hQ _ _ h.2⟩
 | fuel+1,listed,a,w,h=>by
  refine ⟨fun h0=>hQ _ _ (h.1 h0),fun i hi=>?_⟩
  have h1:=h.2 i hi
  unfold wpR at h1
  unfold wpOp
  split
  ·rename_i ho;simp only [ho] at h1;exact X2i hQ fuel _ _ _ h1
  ·rename_i o ho
   simp only [ho] at h1
   split
   ·rename_i hw
    simp only [hw,if_true] at h1
    exact .inl (h1.wp fun v w' hR=>X2i hQ fuel _ _ _ hR.2)
   ·rename_i hw
    simp only [hw] at h1
    exact X2i hQ fuel _ _ _ h1
def YC(P:Program)(ops:Array Oper)(C:World→Prop)(o:Oper)(v:Value)(a:Act) : Prop:=
 (Region.wanted o (yielded ops a.tmps)=true∧∀ w,C w→(execOp a.eval o).run P w=.ok (.value v) w)∨(Region.wanted o (yielded ops a.tmps)=false∧v=undef)
theorem YC.of_same{C:World→Prop}{o:Oper}{v:Value}{a a':Act}(hy:YC P ops C o v a)(he:execOp a'.eval o=execOp a.eval o)
  (hw:Region.wanted o (yielded ops a'.tmps)=Region.wanted o (yielded ops a.tmps)) : YC P ops C o v a':=by
 unfold YC at *
 rw [he,hw]
 exact hy
theorem YC.wpR{C:World→Prop}{i:Nat}{o:Oper}{v:Value}{a:Act}{w:World}(hi:ops[i]? = some o)(hC:C w)(hy:YC P ops C o v a){K:Act→World→Prop}(h:K (a.put o.dst v) w) : wpR P ops V tl i K a w:=by
 unfold YtlfjcmldfbfdbaaGreat.wpR
 simp only [hi]
 rcases hy with ⟨hw,hv⟩|⟨hw,rfl⟩
 ·simp only [hw,if_true]
  exact (Ef.of_run (hv w hC)).mono fun u w' ⟨e1,e2⟩=>by subst e1;subst e2;exact ⟨fun _=>Keep.refl _ _,h⟩
 ·simp only [hw,Bool.false_eq_true,if_false];exact h
theorem Xmo{oi oj:Oper}{v:Value}(h1:∀ d,oi.dst=some d→d ∉ oj.looksAt ops)(hsj:∀ cs b,oj.op≠.select cs b)
  {a:Act} {w:World} {R:Value→World→Prop} (h:Ef P oj (a.put oi.dst v) w R) : Ef P oj a w R:=by
 unfold Ef at *
 rwa [execOp_put oj hsj a oi.dst v h1] at h
theorem Xhk{C:World→Prop}{j:Nat}{oi oj:Oper}{v:Value}(hj:ops[j]? = some oj)(hap:oi.apart ops oj=true)
  (hsi:∀ cs b,oi.op≠.select cs b) (hsj:∀ cs b,oj.op≠.select cs b) (hC:∀ w w',C w→(tl j=false→Keep V w w')→C w') {K:Act→World→Prop} {a:Act} {w:World} (hw0:C w)
  (hy:YC P ops C oi v a) (h:wpR P ops V tl j K (a.put oi.dst v) w) : wpR P ops V tl j (fun a' w'=>C w'∧YC P ops C oi v a'∧K (a'.put oi.dst v) w') a w:=by
 obtain ⟨h1,h2,h3⟩:=Oper.apart_spec hap
 have keep:∀ (a:Act),YC P ops C oi v a→∀ u,YC P ops C oi v (a.put oj.dst u):=fun a hy u=>
  hy.of_same (execOp_put oi hsi a oj.dst u h3) (wanted_put oi a oj.dst u h3)
 unfold wpR at *
 simp only [hj] at *
 rw [wanted_put oj a oi.dst v h1] at h
 split
 ·rename_i hw
  simp only [hw,if_true] at h
  exact (Xmo h1 hsj h).mono fun u w' ⟨hb,hk⟩=>⟨hb,hC w w' hw0 hb,keep a hy u,by rw [← Act.put_comm a v u h2];exact hk⟩
 ·rename_i hw
  simp only [hw] at h
  exact ⟨hw0,keep a hy _,by rw [← Act.put_comm a v undef h2];exact h⟩
def Closed(ops:Array Oper)(listed:Array Bool) : Prop:=∀ k ok,ops[k]? = some ok→listed.getD k false=true→∀ e ∈ ok.after,Region.binds .any e=true→listed.getD e.on false=true
theorem X4d{listed:Array Bool}{j k:Nat}(h:listed.getD k false=true) : (listed.setIfInBounds j true).getD k false=true:=by
 rcases Nat.lt_or_ge k listed.size with hk|hk
 ·by_cases hjk:j=k
  ·subst hjk;simp [hk]
  ·simpa [hk,Array.getElem_setIfInBounds_ne _ hjk] using h
 ·simp [Array.getElem?_eq_none hk] at h
theorem Closed.set{listed:Array Bool}{j:Nat}{oj:Oper}(h:Closed ops listed)(hj:ops[j]? = some oj)(hall:∀ e ∈ oj.after,Region.binds .any e=true→listed.getD e.on false=true) : Closed ops (listed.setIfInBounds j true):=fun k ok hk hl e he hb=>by
 by_cases hjk:j=k
 ·subst hjk
  rw [hj] at hk
  injection hk with hk
  subst hk
  exact X4d (hall e he hb)
 ·rw [getD_set_ne false hjk] at hl
  exact X4d (h k ok hk hl e he hb)
def reach(ops:Array Oper)(i:Nat) : Nat→Nat→Bool
 | 0,_=>false
 | f+1,j=>match ops[j]? with
  | some oj=>oj.after.any fun e=>Region.binds .any e&&(e.on==i||reach ops i f e.on)
  | none=>false
theorem X51{listed:Array Bool}{i:Nat}(hcl:Closed ops listed) : ∀ (f j:Nat) (oj:Oper),ops[j]? = some oj→(∀ e ∈ oj.after,Region.binds .any e=true→listed.getD e.on false=true)→reach ops i f j=true→listed.getD i false=true
 | 0,_,_,_,_,h=>by cases h
 | f+1,j,oj,hj,hall,h=>by
  simp only [reach,hj] at h
  obtain ⟨e,he,hb⟩:=Array.any_eq_true'.1 h
  simp only [Bool.and_eq_true,Bool.or_eq_true,beq_iff_eq] at hb
  have h1:=hall e he hb.1
  rcases hb.2 with h2|h2
  ·rw [← h2];exact h1
  ·cases hk:ops[e.on]? with
   | none=>
    cases f with
    | zero=>cases h2
    | succ f=>simp only [reach,hk] at h2;cases h2
   | some ok=>exact X51 hcl f e.on ok hk (hcl e.on ok hk h1) h2
theorem X8f{C:World→Prop}{i:Nat}{oi:Oper}{v:Value}(hi:ops[i]? = some oi)(hsel:∀ (j:Nat) (o:Oper) cs b,ops[j]? = some o→o.op≠.select cs b)
  (hC:∀ j oj,ops[j]? = some oj→(∀ listed,Closed ops listed→(∀ e ∈ oj.after,Region.binds .any e=true→listed.getD e.on false=true)→listed.getD i true=false→∀ w w',C w→(tl j=false→Keep V w w')→C w')) :
  ∀ (fuel:Nat) (listed:Array Bool) (a:Act) (w:World),Closed ops listed→
   (∀ j oj,ops[j]? = some oj→j≠i→listed.getD j true=false→(∀ e ∈ oj.after,Region.binds .any e=true→e.on≠i)→oi.apart ops oj=true)→
   i ∈ Region.ready .any ops listed→C w→YC P ops C oi v a→
   wpS P ops V tl Q fuel (listed.setIfInBounds i true) (a.put oi.dst v) w→wpS P ops V tl Q (fuel+1) listed a w:=by
 intro fuel
 induction fuel with
 | zero=>
  intro listed a w _ _ hr hw hy H
  refine ⟨fun h=>(by rw [h] at hr;cases hr),fun j hj=>?_⟩
  by_cases hji:j=i
  ·subst hji;exact hy.wpR hi hw H
  ·have:=ready_mono hj hji
   rw [H.1] at this
   cases this
 | succ fuel ih=>
  intro listed a w hcl hfree hr hw hy H
  refine ⟨fun h=>(by rw [h] at hr;cases hr),fun j hj=>?_⟩
  by_cases hji:j=i
  ·subst hji;exact hy.wpR hi hw H
  ·have h1:=H.2 j (ready_mono hj hji)
   obtain ⟨hjun,oj,hoj,hall⟩:=mem_ready.1 hj
   have hnot:∀ e ∈ oj.after,Region.binds .any e=true→e.on≠i:=fun e he hb heq=>by
    have h1:=hall e he hb
    have h0:=(mem_ready.1 hr).1
    rw [heq] at h1
    rcases Nat.lt_or_ge i listed.size with h'|h'
    ·simp [h'] at h0 h1;rw [h0] at h1;cases h1
    ·simp [Array.getElem?_eq_none h'] at h1
   have h2:=Xhk hoj (hfree j oj hoj hji hjun hnot) (fun cs b=>hsel i oi cs b hi) (fun cs b=>hsel j oj cs b hoj) (hC j oj hoj listed hcl hall (mem_ready.1 hr).1) hw hy h1
   have hfree':∀ k ok,ops[k]? = some ok→k≠i→(listed.setIfInBounds j true).getD k true=false→
     (∀ e ∈ ok.after,Region.binds .any e=true→e.on≠i)→oi.apart ops ok=true:=fun k ok hk hki hun hno=>by
    refine hfree k ok hk hki ?_ hno
    by_cases hjk:j=k
    ·subst hjk;exact hjun
    ·rw [getD_set_ne true hjk] at hun;exact hun
   refine Xh5 (fun a' w' h3=>ih (listed.setIfInBounds j true) a' w' (hcl.set hoj hall) hfree' (ready_mono hr (Ne.symm hji)) h3.1 h3.2.1 ?_) h2
   rw [Array.setIfInBounds_comm _ _ hji]
   exact h3.2.2
def mask(ops:Array Oper)(done:List Nat) : Array Bool:=(Array.range ops.size).map fun i=>done.contains i
theorem X3w(ops:Array Oper)(done:List Nat)(i:Nat) : (mask ops done).setIfInBounds i true=mask ops (i::done):=by
 apply Array.ext
 ·simp [mask]
 ·intro k h1 h2
  simp only [mask,Array.size_setIfInBounds,Array.size_map,Array.size_range] at h1
  by_cases hk:i=k
  ·subst hk
   simp [mask]
  ·have hk':¬ k=i:=fun h=>hk h.symm
   rw [Array.getElem_setIfInBounds_ne (by simpa [mask] using h1) hk]
   simp [mask,hk']
theorem Xgz(ops:Array Oper) : Array.replicate ops.size false=mask ops []:=by
 apply Array.ext<;>simp [mask]
def closedB(ops:Array Oper)(done:List Nat) : Bool:=done.all fun k=>match ops[k]? with
 | some ok=>ok.after.all fun e=>!(Region.binds .any e)||done.contains e.on&&Nat.blt e.on ops.size
 | none=>true
def mayFirst(ops:Array Oper)(done:List Nat)(i:Nat) : Bool:=
 Region.noSelect ops&&Region.free .any ops (mask ops done) i&&(Region.ready .any ops (mask ops done)).contains i&&closedB ops done
theorem X7j{done:List Nat}{k:Nat}(d:Bool)(h:k<ops.size) : (mask ops done).getD k d=done.contains k:=by
 simp [mask,h]
theorem mask_getD'{done:List Nat}{k:Nat}(h:(mask ops done).getD k false=true) : done.contains k=true:=by
 rcases Nat.lt_or_ge k ops.size with h'|h'
 ·rwa [X7j false h'] at h
 ·simp [mask,h'] at h
theorem X52{done:List Nat}(h:closedB ops done=true) : Closed ops (mask ops done):=fun k ok hk hl e he hb=>by
 have h1:=mask_getD' hl
 simp only [closedB,List.all_eq_true] at h
 have h2:=h k (by simpa using h1)
 simp only [hk] at h2
 have h3:=Array.all_eq_true'.1 h2 e he
 simp only [hb,Bool.not_true,Bool.false_or,Bool.and_eq_true] at h3
 have h4:e.on<ops.size:=by simpa [Nat.blt_eq] using h3.2
 rw [X7j false h4]
 exact h3.1
def tailWaits(ops:Array Oper)(tl:Nat→Bool)(i:Nat) : Bool:=
 (List.range ops.size).all fun j=>!tl j||reach ops i 9 j
theorem X78{i:Nat}(h:tailWaits ops tl i=true)(j:Nat)(oj:Oper)(hj:ops[j]? = some oj){listed:Array Bool}(hcl:Closed ops listed)(hall:∀ e ∈ oj.after,Region.binds .any e=true→listed.getD e.on false=true)(hi:listed.getD i true=false) : tl j=false:=by
 simp only [tailWaits,List.all_eq_true,List.mem_range] at h
 have h1:=h j (Array.getElem?_eq_some_iff.1 hj).1
 simp only [Bool.or_eq_true,Bool.not_eq_true'] at h1
 rcases h1 with h1|h1
 ·exact h1
 ·have h2:=X51 hcl 9 j oj hj hall h1
  rcases Nat.lt_or_ge i listed.size with h'|h'
  ·simp [h'] at h2 hi;rw [h2] at hi;cases hi
  ·simp [h'] at h2
section
variable {a : Act} {w : World} {n d fuel : Nat} {e : List (Nat × Value)} {o : Oper} {done : List Nat}
theorem Xjr(i:Nat){v:Value}(hi:ops[i]? = some o)(hm:mayFirst ops done i=true)(ht:tailWaits ops tl i=true)(hf:Fr a n e)(hw:Want ops o e)(hd:o.dst=some d)(hn:Nat.blt d n=true)
  (hr:∀ w',Keep V w w'→(execOp a.eval o).run P w'=.ok (.value v) w') (h:∀ a',Fr a' n ((d,v)::e)→wpS P ops V tl Q fuel (mask ops (i::done)) a' w) : wpS P ops V tl Q (fuel+1) (mask ops done) a w:=by
 simp only [mayFirst,Bool.and_eq_true] at hm
 refine X8f (C:=fun w'=>Keep V w w') hi (Region.noSelect_spec hm.1.1.1) (fun j oj hj lst hcl hall hun w1 w2 h1 h2=>?_) fuel _ a w (X52 hm.2) (Region.free_spec hi hm.1.1.2) (by simpa using hm.1.2) (Keep.refl _ _) (.inl ⟨hw.wanted hf,hr⟩) ?_
 ·exact h1.trans (h2 (X78 ht j oj hj hcl hall hun))
 ·rw [X3w]
  exact h _ (by rw [hd];exact hf.put d v hn)
theorem Xns(i:Nat){v:Value}(hi:ops[i]? = some o)(hm:mayFirst ops done i=true)(ht:tailWaits ops tl i=true)(hf:Fr a n e)(hw:Want ops o e)(hd:o.dst=some d)(hn:Nat.blt d n=true)
  (hr:Ev P o a w v) (h:∀ a',Fr a' n ((d,v)::e)→wpS P ops none tl Q fuel (mask ops (i::done)) a' w) : wpS P ops none tl Q (fuel+1) (mask ops done) a w:=Xjr i hi hm ht hf hw hd hn hr h
theorem Xoc(i:Nat){b:Nat}{v:Value}(hi:ops[i]? = some o)(hm:mayFirst ops done i=true)(ht:tailWaits ops tl i=true)(hf:Fr a n e)(hw:Want ops o e)(hd:o.dst=some d)(hn:Nat.blt d n=true)
  (hr:∀ w1,Only b w w1→Ev P o a w1 v) (h:∀ a',Fr a' n ((d,v)::e)→wpS P ops (some b) tl Q fuel (mask ops (i::done)) a' w) : wpS P ops (some b) tl Q (fuel+1) (mask ops done) a w:=
 Xjr i hi hm ht hf hw hd hn (fun w' ⟨w1,h1,h2⟩=>hr w1 h1 w' (by rw [h1.size];exact h2)) h
theorem Xjb(i:Nat){v:Value}(hi:ops[i]? = some o)(hm:mayFirst ops done i=true)(hf:Fr a n e)(hw:Want ops o e)(hd:o.dst=some d)(hn:Nat.blt d n=true)
  (hr:∀ w,Ev P o a w v) (h:∀ a',Fr a' n ((d,v)::e)→wpS P ops V tl Q fuel (mask ops (i::done)) a' w) : wpS P ops V tl Q (fuel+1) (mask ops done) a w:=by
 simp only [mayFirst,Bool.and_eq_true] at hm
 refine X8f (C:=fun _=>True) hi (Region.noSelect_spec hm.1.1.1) (fun _ _ _ _ _ _ _ _ _ _ _=>trivial) fuel _ a w (X52 hm.2) (Region.free_spec hi hm.1.1.2) (by simpa using hm.1.2) trivial (.inl ⟨hw.wanted hf,fun w' _=>hr w' w' (Below.refl _ _)⟩) ?_
 rw [X3w]
 exact h _ (by rw [hd];exact hf.put d v hn)
theorem s_e{op:Op}{ty:TypeId}{pos:String}{af:Array Edge}(i:Nat){v:Value}(hi:ops[i]? = some ⟨some d,op,ty,pos,af,none⟩)(hm:mayFirst ops done i=true)(ht:tailWaits ops tl i=true)(hf:Fr a n e)(hn:Nat.blt d n=true)
  (hr:Ev P ⟨some d,op,ty,pos,af,none⟩ a w v) (h:∀ a',Fr a' n ((d,v)::e)→wpS P ops none tl Q fuel (mask ops (i::done)) a' w) : wpS P ops none tl Q (fuel+1) (mask ops done) a w:=Xns i hi hm ht hf trivial rfl hn hr h
theorem Xop{op:Op}{ty:TypeId}{pos:String}{af:Array Edge}(i:Nat){v:Value}(hi:ops[i]? = some ⟨some d,op,ty,pos,af,none⟩)(hm:mayFirst ops done i=true)(hf:Fr a n e)(hn:Nat.blt d n=true)
  (hr:∀ w,Ev P ⟨some d,op,ty,pos,af,none⟩ a w v) (h:∀ a',Fr a' n ((d,v)::e)→wpS P ops V tl Q fuel (mask ops (i::done)) a' w) : wpS P ops V tl Q (fuel+1) (mask ops done) a w:=Xjb i hi hm hf trivial rfl hn hr h
theorem Xnf(i:Nat)(hr:Region.ready .any ops (mask ops done)=[i])(h:wpR P ops V tl i (wpS P ops V tl Q fuel (mask ops (i::done))) a w) : wpS P ops V tl Q (fuel+1) (mask ops done) a w:=by
 refine ⟨fun h0=>(by rw [hr] at h0;cases h0),fun j hj=>?_⟩
 rw [hr] at hj
 obtain rfl:j=i:=by simpa using hj
 rw [X3w]
 exact h
theorem Xo9(i j:Nat)(hr:Region.ready .any ops (mask ops done)=[i,j])(hi:wpR P ops V tl i (wpS P ops V tl Q fuel (mask ops (i::done))) a w)
  (hj:wpR P ops V tl j (wpS P ops V tl Q fuel (mask ops (j::done))) a w) : wpS P ops V tl Q (fuel+1) (mask ops done) a w:=by
 refine ⟨fun h0=>(by rw [hr] at h0;cases h0),fun k hk=>?_⟩
 rw [hr] at hk
 rw [X3w]
 simp only [List.mem_cons,List.not_mem_nil,or_false] at hk
 rcases hk with rfl|rfl
 ·exact hi
 ·exact hj
theorem Xj0(i j k:Nat)(hr:Region.ready .any ops (mask ops done)=[i,j,k])(hi:wpR P ops V tl i (wpS P ops V tl Q fuel (mask ops (i::done))) a w)
  (hj:wpR P ops V tl j (wpS P ops V tl Q fuel (mask ops (j::done))) a w) (hk:wpR P ops V tl k (wpS P ops V tl Q fuel (mask ops (k::done))) a w) : wpS P ops V tl Q (fuel+1) (mask ops done) a w:=by
 refine ⟨fun h0=>(by rw [hr] at h0;cases h0),fun m hm=>?_⟩
 rw [hr] at hm
 rw [X3w]
 simp only [List.mem_cons,List.not_mem_nil,or_false] at hm
 rcases hm with rfl|rfl|rfl
 ·exact hi
 ·exact hj
 ·exact hk
def sameL(L D:List Nat) : Bool:=L.all D.contains&&D.all L.contains
theorem Xe2{L D:List Nat}(h:sameL L D=true) : mask ops L=mask ops D:=by
 unfold mask
 apply Array.map_congr_left
 intro i _
 unfold sameL at h
 rw [Bool.and_eq_true] at h
 rw [Bool.eq_iff_iff,List.contains_iff_mem,List.contains_iff_mem]
 exact ⟨fun hi=>List.contains_iff_mem.1 (List.all_eq_true.1 h.1 i hi),fun hi=>List.contains_iff_mem.1 (List.all_eq_true.1 h.2 i hi)⟩
theorem Xmg(hr:Region.ready .any ops (mask ops done)=[])(h:Q a w) : wpS P ops V tl Q fuel (mask ops done) a w:=by
 cases fuel with
 | zero=>exact ⟨hr,h⟩
 | succ f=>exact ⟨fun _=>h,fun j hj=>by rw [hr] at hj;cases hj⟩
theorem Xnq{i:Nat}{K:Act→World→Prop}{R:Value→World→Prop}(hi:ops[i]? = some o)(hf:Fr a n e)(hw:Want ops o e)(hd:o.dst=some d)(hn:Nat.blt d n=true)
  (hr:Ef P o a w fun v w'=>(tl i=false→Keep V w w')∧R v w') (h:∀ a' v w',R v w'→Fr a' n ((d,v)::e)→K a' w') : wpR P ops V tl i K a w:=by
 unfold wpR
 simp only [hi]
 rw [if_pos (hw.wanted hf)]
 exact hr.mono fun v w' ⟨h1,h2⟩=>⟨h1,h _ v w' h2 (by rw [hd];exact hf.put d v hn)⟩
theorem Xlf{i:Nat}{K:Act→World→Prop}{R:Value→World→Prop}(hi:ops[i]? = some o)(hf:Fr a n e)(hw:Want ops o e)(hd:o.dst=none)
  (hr:Ef P o a w fun v w'=>(tl i=false→Keep V w w')∧R v w') (h:∀ a' v w',R v w'→Fr a' n e→K a' w') : wpR P ops V tl i K a w:=by
 unfold wpR
 simp only [hi]
 rw [if_pos (hw.wanted hf)]
 exact hr.mono fun v w' ⟨h1,h2⟩=>⟨h1,h _ v w' h2 (by rw [hd];exact hf.put_none v)⟩
theorem X0h(V:Option Nat)(tl:Nat→Bool){id:Nat}{l:List Oper}{Q':Exit→Act→World→Prop}(hm:P.follows .mixedOrders=true)
  (h:∀ w',Below w.heap.size w w'→wpS P l.toArray V tl (Q' .normal) l.length (mask l.toArray []) a w') : (Code.region id l.toArray true).wp P Q' a w:=by
 refine wp_region_any hm ?_
 rw [Xgz]
 exact X2i (fun _ _ h=>h) _ _ _ _ (by simpa using h w.drew (Below.refl _ _).drew)
end
end
end Go.Proofs.YtlfjcmldfbfdbaaGreat
namespace Go.Proofs.YtlfjcmldfbfdbaaGreat
open Go.RowKit
abbrev Env:=List (Nat×Value)
def At(w:World)(p:Addr)(l:List Value) : Prop:=∀ j v,l[j]? = some v→w.cell? (p.add j)=some v
def Blk(w:World)(b:Nat)(T:TypeId)(l:List Value) : Prop:=w.heap[b]? = some (.cells l.toArray T (0,0))
theorem X59(p:Addr)(i j:Nat) : (p.add i).add j=p.add (i+j):=by
 unfold Addr.add
 by_cases hi:i=0<;>by_cases hj:j=0<;>simp [hi,hj,Nat.add_assoc]
theorem X4j(p:Addr)(i:Nat) : (p.add i).block=p.block:=by unfold Addr.add;split<;>rfl
theorem X1h(b off i:Nat) : (Addr.mk b off none).add i=⟨b,off+i,none⟩:=by
 unfold Addr.add
 by_cases hi:i=0<;>simp [hi]
theorem Xbs{w:World}{p:Addr}{v:Value}(h:w.cell? p=some v) : p.block<w.heap.size:=by
 rcases Nat.lt_or_ge p.block w.heap.size with h'|h'
 ·exact h'
 ·simp [World.cell?,Array.getElem?_eq_none h'] at h
theorem At.below{w w':World}{p:Addr}{l:List Value}(h:At w p l)(hb:Below w.heap.size w w') : At w' p l:=by
 intro j v hj
 have:=h j v hj
 rw [hb.cell (Xbs this)]
 exact this
theorem At.drop{w:World}{p:Addr}{l:List Value}(h:At w p l)(k:Nat) : At w (p.add k) (l.drop k):=by
 intro j v hj
 rw [X59]
 exact h (k+j) v (by rw [← hj,List.getElem?_drop])
theorem At.take{w:World}{p:Addr}{l:List Value}(h:At w p l)(k:Nat) : At w p (l.take k):=by
 intro j v hj
 refine h j v ?_
 rw [List.getElem?_take] at hj
 split at hj
 ·exact hj
 ·cases hj
theorem At.nil(w:World)(p:Addr) : At w p []:=fun j v h=>by simp at h
theorem Blk.lt{w:World}{b:Nat}{T:TypeId}{l:List Value}(h:Blk w b T l) : b<w.heap.size:=by
 rcases Nat.lt_or_ge b w.heap.size with h'|h'
 ·exact h'
 ·simp [Blk,Array.getElem?_eq_none h'] at h
theorem Blk.cell{w:World}{b:Nat}{T:TypeId}{l:List Value}(h:Blk w b T l)(k:Nat) : w.cell? ⟨b,k,none⟩=l[k]?:=by
 unfold Blk at h
 simp [World.cell?,h]
theorem Blk.at{w:World}{b:Nat}{T:TypeId}{l:List Value}(h:Blk w b T l)(k:Nat) : At w ⟨b,k,none⟩ (l.drop k):=by
 intro j v hj
 rw [X1h,h.cell,← hj,List.getElem?_drop]
theorem Blk.below{w w':World}{b:Nat}{T:TypeId}{l:List Value}(h:Blk w b T l)(hb:Below w.heap.size w w') : Blk w' b T l:=(hb.block b h.lt).trans h
theorem Blk.only{w w':World}{b b':Nat}{T:TypeId}{l:List Value}(h:Blk w b T l)(ho:Only b' w w')(hne:b≠b') : Blk w' b T l:=(ho.block b hne).trans h
theorem Blk.drew{w:World}{b:Nat}{T:TypeId}{l:List Value}(h:Blk w b T l) : Blk w.drew b T l:=h
theorem Blk.ne{w:World}{b b':Nat}{T T':TypeId}{l l':List Value}(h:Blk w b T l)(h':Blk w b' T' l')(hT:Nat.beq T T'=false) : b≠b':=by
 rintro rfl
 unfold Blk at h h'
 rw [h] at h'
 injection h' with h'
 injection h' with _ e
 subst e
 simp at hT
theorem Below.only{B b:Nat}{w0 w w':World}(h:Below B w0 w)(ho:Only b w w')(hB:B≤b) : Below B w0 w':=
 h.trans ⟨ho.os,ho.tape,ho.output,by rw [ho.size];exact Nat.le_refl _,fun k hk=>ho.block k (by omega)⟩
theorem At.only{w w':World}{b:Nat}{p:Addr}{l:List Value}(h:At w p l)(ho:Only b w w')(hne:p.block≠b) : At w' p l:=by
 intro j v hj
 rw [World.cell?_of_block (w:=w) (by rw [X4j];exact ho.block _ hne)]
 exact h j v hj
def OneT(P:Program)(t:TypeId) : Prop:=∃ d,P.underlying t=some d∧(match d with|.struct _|.array _ _=>False|_=>True)
def AggT(P:Program)(t:TypeId)(n:Nat) : Prop:=(∃ d,P.underlying t=some d∧(match d with|.struct _|.array _ _=>True|_=>False))∧∃ i,P.info? t=some i∧i.size=n
def SizeT(P:Program)(t:TypeId)(n:Nat) : Prop:=∃ i,P.info? t=some i∧i.size=n
def ZeroT(P:Program)(t:TypeId)(z:Value) : Prop:=∃ i,P.info? t=some i∧i.zero=some z
def FieldT(P:Program)(T f k:Nat) : Prop:=∃ fs F i,P.underlying T=some (.struct fs)∧fs[f]? = some F∧F.offset=k∧P.info? F.type=some i∧(i.size==0)=false
def SliceT(P:Program)(T E:TypeId) : Prop:=P.underlying T=some (.slice E)
def FuncF (P : Program) (f : FuncId) : Prop := ∃ fn, P.funcs[f]? = some fn ∧ (fn.name == "runtime.NumGoroutine") = false ∧ fn.body.isNone = false
section
variable {P : Program} {w : World}
theorem run_sizeOf'{t n:Nat}(h:SizeT P t n)(w:World) : (sizeOf t).run P w=.ok n w:=by
 obtain ⟨i,h1,h2⟩:=h
 simp [sizeOf,typeInfo,h1,h2]
theorem X7e{t:TypeId}{z:Value}(h:ZeroT P t z)(w:World) : (zeroValue t).run P w=.ok z w:=by
 obtain ⟨i,h1,h2⟩:=h
 simp [zeroValue,typeInfo,h1,h2]
theorem X0l{t:TypeId}{d:TypeDesc}(h:P.underlying t=some d)(w:World) : (underlying t).run P w=.ok d w:=by simp [underlying,h]
theorem X4c{t:TypeId}(h:OneT P t)(w:World) : (isAgg t).run P w=.ok false w:=by
 obtain ⟨d,h1,h2⟩:=h
 cases d<;>simp_all [isAgg,underlying]
theorem X4e{t n:Nat}(h:AggT P t n)(w:World) : (isAgg t).run P w=.ok true w:=by
 obtain ⟨⟨d,h1,h2⟩,_⟩:=h
 cases d<;>simp_all [isAgg,underlying]
theorem X2v(p:Addr) : ∀ (l:List Value) (i:Nat) (acc:Array Value),(∀ j v,l[j]? = some v→w.cell? (p.add (i+j))=some v)→
  (loadCellsFrom p i l.length acc).run P w=.ok (acc++l.toArray) w
 | [],i,acc,_=>by simp [loadCellsFrom]
 | v::l,i,acc,h=>by
  have h0:=h 0 v rfl
  simp only [Nat.add_zero] at h0
  have ih:=X2v p l (i+1) (acc.push v) (fun j u hj=>by
   have:=h (j+1) u (by simpa using hj)
   rwa [show i+(j+1)=i+1+j from by omega] at this)
  simp [loadCellsFrom,load,Sem.run,h0,ih]
theorem X3f{t:TypeId}{p:Addr}{v:Value}{l:List Value}(h:OneT P t)(hc:At w p (v::l)) : (loadVar t p).run P w=.ok v w:=by
 have h0:=hc 0 v rfl
 have h1:p.add 0=p:=by simp [Addr.add]
 rw [h1] at h0
 simp [loadVar,X4c h,load,Sem.run,h0]
theorem X3d{t n:Nat}{p:Addr}{l:List Value}(h:AggT P t n)(hc:At w p l)(hn:l.length=n) : (loadVar t p).run P w=.ok (.agg l.toArray) w:=by
 subst hn
 have h1:=X2v (P:=P) (w:=w) p l 0 #[] (fun j v hj=>by rw [Nat.zero_add];exact hc j v hj)
 simp [loadVar,X4e h,run_sizeOf' h.2,loadCells,h1]
end
section
variable {P : Program} {a : Act} {w : World} {n : Nat} {e : Env} {ty : TypeId} {pos : String} {af : Array Edge} {g : Option (Nat × Bool)} {d : Option Tmp}
theorem Xin{x:Operand}{v:Value}(hf:Fr a n e)(hx:ev e x=some v) : Ev P ⟨d,.move x,ty,pos,af,g⟩ a w v:=fun w' _=>by
 simp [execOp,hf.ev hx]
theorem X8{x:Operand}{v:Value}(hx:ev e x=some v) : EvW P ⟨d,.move x,ty,pos,af,g⟩ n e w v:=fun a hf=>Xin hf hx
theorem Xe5{x:Operand}{v:Value}(hf:Fr a n e)(hx:ev e x=some v) : Ev P ⟨d,.assign x,ty,pos,af,g⟩ a w v:=fun w' _=>by
 simp [execOp,hf.ev hx]
theorem X1m{x:Operand}{v:Value}(hx:ev e x=some v) : EvW P ⟨d,.assign x,ty,pos,af,g⟩ n e w v:=fun a hf=>Xe5 hf hx
theorem Xc1{c x y:Operand}{b:Bool}{v:Value}(hf:Fr a n e)(hc:ev e c=some (.bool b))(hx:ev e (if b then x else y)=some v) : Ev P ⟨d,.pick c x y,ty,pos,af,g⟩ a w v:=fun w' _=>by
 have h1:=hf.ev hc
 have h2:=hf.ev hx
 cases b<;>simp_all [execOp,asBool]
theorem Xfx{c x y:Operand}{b:Bool}{v:Value}(hf:Fr a n e)(hc:ev e c=some (.bool b))(hb:b=true)(hx:ev e x=some v) : Ev P ⟨d,.pick c x y,ty,pos,af,g⟩ a w v:=by
 subst hb
 exact Xc1 hf hc hx
theorem Xg{c x y:Operand}{b:Bool}{v:Value}(hc:ev e c=some (.bool b))(hb:b=true)(hx:ev e x=some v) : EvW P ⟨d,.pick c x y,ty,pos,af,g⟩ n e w v:=fun a hf=>Xfx hf hc hb hx
theorem Xgc{c x y:Operand}{b:Bool}{v:Value}(hf:Fr a n e)(hc:ev e c=some (.bool b))(hb:b=false)(hx:ev e y=some v) : Ev P ⟨d,.pick c x y,ty,pos,af,g⟩ a w v:=by
 subst hb
 exact Xc1 hf hc hx
theorem Xf{c x y:Operand}{b:Bool}{v:Value}(hc:ev e c=some (.bool b))(hb:b=false)(hx:ev e y=some v) : EvW P ⟨d,.pick c x y,ty,pos,af,g⟩ n e w v:=fun a hf=>Xgc hf hc hb hx
theorem Xaw{t:TypeId}{x:Operand}{p:Addr}{v:Value}{l:List Value}(hf:Fr a n e)(hx:ev e x=some (.pointer (some p)))(h1:OneT P t)(hc:At w p (v::l)) : Ev P ⟨d,.load t x,ty,pos,af,g⟩ a w v:=fun w' hw=>by
 simp [execOp,hf.ev hx,Instr.loadAt,Instr.sureAddr,X3f h1 (hc.below hw)]
theorem X0{t:TypeId}{x:Operand}{p:Addr}{v:Value}{l:List Value}(hx:ev e x=some (.pointer (some p)))(h1:OneT P t)(hc:At w p (v::l)) : EvW P ⟨d,.load t x,ty,pos,af,g⟩ n e w v:=fun a hf=>Xaw hf hx h1 hc
theorem Xgg{t k:Nat}{x:Operand}{p:Addr}{l:List Value}(hf:Fr a n e)(hx:ev e x=some (.pointer (some p)))(hA:AggT P t k)(hc:At w p l)(hl:l.length=k) : Ev P ⟨d,.load t x,ty,pos,af,g⟩ a w (.agg l.toArray):=fun w' hw=>by
 simp [execOp,hf.ev hx,Instr.loadAt,Instr.sureAddr,X3d hA (hc.below hw) hl]
theorem X0i{t k:Nat}{x:Operand}{p:Addr}{l:List Value}(hx:ev e x=some (.pointer (some p)))(hA:AggT P t k)(hc:At w p l)(hl:l.length=k) : EvW P ⟨d,.load t x,ty,pos,af,g⟩ n e w (.agg l.toArray):=fun a hf=>Xgg hf hx hA hc hl
theorem Xfl{T f k:Nat}{x:Operand}{p:Addr}(hf:Fr a n e)(hx:ev e x=some (.pointer (some p)))(hF:FieldT P T f k) : Ev P ⟨d,.fieldAddr T x f,ty,pos,af,g⟩ a w (.pointer (some (p.add k))):=fun w' _=>by
 obtain ⟨fs,F,i,h1,h2,h3,h4,h5⟩:=hF
 have h6:=run_sizeOf' ⟨i,h4,rfl⟩ w'
 simp [execOp,hf.ev hx,Instr.fieldAt,X0l h1,h2,Instr.sureAddr,fieldPlace,h6,h3]
 simp at h5
 simp [h5]
theorem Xda{T f k:Nat}{x:Operand}{b off m:Nat}(hf:Fr a n e)(hx:ev e x=some (.pointer (some ⟨b,off,none⟩)))(hF:FieldT P T f k)(hk:off+k=m) : Ev P ⟨d,.fieldAddr T x f,ty,pos,af,g⟩ a w (.pointer (some ⟨b,m,none⟩)):=by
 have:=Xfl (P:=P) (w:=w) (d:=d) (ty:=ty) (pos:=pos) (af:=af) (g:=g) hf hx hF
 rwa [X1h,hk] at this
theorem Xhv{T f k:Nat}{x:Operand}{b off m:Nat}(hx:ev e x=some (.pointer (some ⟨b,off,none⟩)))(hF:FieldT P T f k)(hk:off+k=m) : EvW P ⟨d,.fieldAddr T x f,ty,pos,af,g⟩ n e w (.pointer (some ⟨b,m,none⟩)):=fun a hf=>Xda hf hx hF hk
theorem Xb2{x:Operand}{k:Nat}{vs:List Value}{v:Value}(hf:Fr a n e)(hx:ev e x=some (.tuple vs.toArray))(hv:vs[k]? = some v) : Ev P ⟨d,.extract x k,ty,pos,af,g⟩ a w v:=fun w' _=>by
 simp [execOp,hf.ev hx,Instr.extract,hv]
theorem X5{x:Operand}{k:Nat}{vs:List Value}{v:Value}(hx:ev e x=some (.tuple vs.toArray))(hv:vs[k]? = some v) : EvW P ⟨d,.extract x k,ty,pos,af,g⟩ n e w v:=fun a hf=>Xb2 hf hx hv
theorem Xmd{t:TypeId}{x:Operand}{b:Bool}(hf:Fr a n e)(hx:ev e x=some (.bool b)) : Ev P ⟨d,.unOp .not t x,ty,pos,af,g⟩ a w (.bool (!b)):=fun w' _=>by
 simp [execOp,hf.ev hx,Op.unary]
theorem X15{t:TypeId}{x:Operand}{b:Bool}(hx:ev e x=some (.bool b)) : EvW P ⟨d,.unOp .not t x,ty,pos,af,g⟩ n e w (.bool (!b)):=fun a hf=>Xmd hf hx
theorem Xlj{t:TypeId}{x:Operand}{i:Int}(hf:Fr a n e)(hx:ev e x=some (.int .i64 i)) : Ev P ⟨d,.unOp .neg t x,ty,pos,af,g⟩ a w (.int .i64 (IntKind.i64.wrap (-i))):=fun w' _=>by
 simp [execOp,hf.ev hx,Op.unary,Op.intArith]
theorem Xee{t:TypeId}{x:Operand}{i:Int}(hx:ev e x=some (.int .i64 i)) : EvW P ⟨d,.unOp .neg t x,ty,pos,af,g⟩ n e w (.int .i64 (IntKind.i64.wrap (-i))):=fun a hf=>Xlj hf hx
section
variable {t t' : TypeId} {x y : Operand} {i j : Int}
theorem Xei(hf:Fr a n e)(hx:ev e x=some (.int .i64 i))(hy:ev e y=some (.int .i64 j)) : Ev P ⟨d,.binOp .add t x y t',ty,pos,af,g⟩ a w (.int .i64 (IntKind.i64.wrap (i+j))):=fun w' _=>by
 simp [execOp,hf.ev hx,hf.ev hy,eqGuard,binOp,Op.intArith]
theorem X1u(hx:ev e x=some (.int .i64 i))(hy:ev e y=some (.int .i64 j)) : EvW P ⟨d,.binOp .add t x y t',ty,pos,af,g⟩ n e w (.int .i64 (IntKind.i64.wrap (i+j))):=fun a hf=>Xei hf hx hy
theorem Xiw(hf:Fr a n e)(hx:ev e x=some (.int .i64 i))(hy:ev e y=some (.int .i64 j))(h1:-9223372036854775808≤i+j)(h2:i+j≤9223372036854775807) : Ev P ⟨d,.binOp .add t x y t',ty,pos,af,g⟩ a w (.int .i64 (i+j)):=by
 have h:=Xei (P:=P) (w:=w) (d:=d) (ty:=ty) (pos:=pos) (af:=af) (g:=g) (t:=t) (t':=t') hf hx hy
 rwa [IntWalk.i64_in _ ⟨h1,h2⟩] at h
theorem X0a(hx:ev e x=some (.int .i64 i))(hy:ev e y=some (.int .i64 j))(h1:-9223372036854775808≤i+j)(h2:i+j≤9223372036854775807) : EvW P ⟨d,.binOp .add t x y t',ty,pos,af,g⟩ n e w (.int .i64 (i+j)):=fun a hf=>Xiw hf hx hy h1 h2
theorem Xj3(hf:Fr a n e)(hx:ev e x=some (.int .i64 i))(hy:ev e y=some (.int .i64 j))(h1:-9223372036854775808≤i-j)(h2:i-j≤9223372036854775807) : Ev P ⟨d,.binOp .sub t x y t',ty,pos,af,g⟩ a w (.int .i64 (i-j)):=by
 have h:Ev P ⟨d,.binOp .sub t x y t',ty,pos,af,g⟩ a w (.int .i64 (IntKind.i64.wrap (i-j))):=fun w' _=>by
  simp [execOp,hf.ev hx,hf.ev hy,eqGuard,binOp,Op.intArith]
 rwa [IntWalk.i64_in _ ⟨h1,h2⟩] at h
theorem X1d(hx:ev e x=some (.int .i64 i))(hy:ev e y=some (.int .i64 j))(h1:-9223372036854775808≤i-j)(h2:i-j≤9223372036854775807) : EvW P ⟨d,.binOp .sub t x y t',ty,pos,af,g⟩ n e w (.int .i64 (i-j)):=fun a hf=>Xj3 hf hx hy h1 h2
theorem Xlq(hf:Fr a n e)(hx:ev e x=some (.int .i64 i))(hy:ev e y=some (.int .i64 j)) : Ev P ⟨d,.binOp .sub t x y t',ty,pos,af,g⟩ a w (.int .i64 (IntKind.i64.wrap (i-j))):=fun w' _=>by
 simp [execOp,hf.ev hx,hf.ev hy,eqGuard,binOp,Op.intArith]
theorem X33(hx:ev e x=some (.int .i64 i))(hy:ev e y=some (.int .i64 j)) : EvW P ⟨d,.binOp .sub t x y t',ty,pos,af,g⟩ n e w (.int .i64 (IntKind.i64.wrap (i-j))):=fun a hf=>Xlq hf hx hy
theorem Xl5(hf:Fr a n e)(hx:ev e x=some (.int .i64 i))(hy:ev e y=some (.int .i64 j)) : Ev P ⟨d,.binOp .mul t x y t',ty,pos,af,g⟩ a w (.int .i64 (IntKind.i64.wrap (i*j))):=fun w' _=>by
 simp [execOp,hf.ev hx,hf.ev hy,eqGuard,binOp,Op.intArith]
theorem X1v(hx:ev e x=some (.int .i64 i))(hy:ev e y=some (.int .i64 j)) : EvW P ⟨d,.binOp .mul t x y t',ty,pos,af,g⟩ n e w (.int .i64 (IntKind.i64.wrap (i*j))):=fun a hf=>Xl5 hf hx hy
theorem Xn2(hf:Fr a n e)(hx:ev e x=some (.int .i64 i))(hy:ev e y=some (.int .i64 j)) : Ev P ⟨d,.binOp .lss t x y t',ty,pos,af,g⟩ a w (.bool (decide (i<j))):=fun w' _=>by
 simp [execOp,hf.ev hx,hf.ev hy,eqGuard,binOp,Op.intCmp]
theorem X16(hx:ev e x=some (.int .i64 i))(hy:ev e y=some (.int .i64 j)) : EvW P ⟨d,.binOp .lss t x y t',ty,pos,af,g⟩ n e w (.bool (decide (i<j))):=fun a hf=>Xn2 hf hx hy
theorem Xky(hf:Fr a n e)(hx:ev e x=some (.int .i64 i))(hy:ev e y=some (.int .i64 j)) : Ev P ⟨d,.binOp .leq t x y t',ty,pos,af,g⟩ a w (.bool (decide (i≤j))):=fun w' _=>by
 simp [execOp,hf.ev hx,hf.ev hy,eqGuard,binOp,Op.intCmp]
theorem Xb3(hx:ev e x=some (.int .i64 i))(hy:ev e y=some (.int .i64 j)) : EvW P ⟨d,.binOp .leq t x y t',ty,pos,af,g⟩ n e w (.bool (decide (i≤j))):=fun a hf=>Xky hf hx hy
theorem Xlt(hf:Fr a n e)(hx:ev e x=some (.int .i64 i))(hy:ev e y=some (.int .i64 j)) : Ev P ⟨d,.binOp .gtr t x y t',ty,pos,af,g⟩ a w (.bool (decide (j<i))):=fun w' _=>by
 simp [execOp,hf.ev hx,hf.ev hy,eqGuard,binOp,Op.intCmp]
theorem X5r(hx:ev e x=some (.int .i64 i))(hy:ev e y=some (.int .i64 j)) : EvW P ⟨d,.binOp .gtr t x y t',ty,pos,af,g⟩ n e w (.bool (decide (j<i))):=fun a hf=>Xlt hf hx hy
theorem Xki(hf:Fr a n e)(hx:ev e x=some (.int .i64 i))(hy:ev e y=some (.int .i64 j)) : Ev P ⟨d,.binOp .geq t x y t',ty,pos,af,g⟩ a w (.bool (decide (j≤i))):=fun w' _=>by
 simp [execOp,hf.ev hx,hf.ev hy,eqGuard,binOp,Op.intCmp]
theorem Xgs(hx:ev e x=some (.int .i64 i))(hy:ev e y=some (.int .i64 j)) : EvW P ⟨d,.binOp .geq t x y t',ty,pos,af,g⟩ n e w (.bool (decide (j≤i))):=fun a hf=>Xki hf hx hy
theorem Xl0(hf:Fr a n e)(hx:ev e x=some (.int .i64 i))(hy:ev e y=some (.int .i64 j)) : Ev P ⟨d,.binOp .eql t x y t',ty,pos,af,g⟩ a w (.bool (i==j)):=fun w' _=>by
 simp [execOp,hf.ev hx,hf.ev hy,eqGuard,binOp,Op.intCmp]
theorem X0n(hx:ev e x=some (.int .i64 i))(hy:ev e y=some (.int .i64 j)) : EvW P ⟨d,.binOp .eql t x y t',ty,pos,af,g⟩ n e w (.bool (i==j)):=fun a hf=>Xl0 hf hx hy
theorem Xl4(hf:Fr a n e)(hx:ev e x=some (.int .i64 i))(hy:ev e y=some (.int .i64 j)) : Ev P ⟨d,.binOp .neq t x y t',ty,pos,af,g⟩ a w (.bool (i != j)):=fun w' _=>by
 simp [execOp,hf.ev hx,hf.ev hy,eqGuard,binOp,Op.intCmp]
theorem X4o(hx:ev e x=some (.int .i64 i))(hy:ev e y=some (.int .i64 j)) : EvW P ⟨d,.binOp .neq t x y t',ty,pos,af,g⟩ n e w (.bool (i != j)):=fun a hf=>Xl4 hf hx hy
theorem Xle(hf:Fr a n e)(hx:ev e x=some (.int .i64 i))(hy:ev e y=some (.int .i64 j)) : Ev P ⟨d,.binOp .and t x y t',ty,pos,af,g⟩ a w (.int .i64 (bits .and .i64 i j)):=fun w' _=>by
 simp [execOp,hf.ev hx,hf.ev hy,eqGuard,binOp,Op.intBits,bits]
theorem Xl2(hx:ev e x=some (.int .i64 i))(hy:ev e y=some (.int .i64 j)) : EvW P ⟨d,.binOp .and t x y t',ty,pos,af,g⟩ n e w (.int .i64 (bits .and .i64 i j)):=fun a hf=>Xle hf hx hy
theorem Xmr(hf:Fr a n e)(hx:ev e x=some (.int .i64 i))(hy:ev e y=some (.int .i64 j)) : Ev P ⟨d,.binOp .xor t x y t',ty,pos,af,g⟩ a w (.int .i64 (bits .xor .i64 i j)):=fun w' _=>by
 simp [execOp,hf.ev hx,hf.ev hy,eqGuard,binOp,Op.intBits,bits]
theorem Xf4(hx:ev e x=some (.int .i64 i))(hy:ev e y=some (.int .i64 j)) : EvW P ⟨d,.binOp .xor t x y t',ty,pos,af,g⟩ n e w (.int .i64 (bits .xor .i64 i j)):=fun a hf=>Xmr hf hx hy
theorem X30{b c:Bool}(ht:P.underlying t=some .bool)(k:Nat)(w:World) : (Op.equalIn (k+1) t (.bool b) (.bool c)).run P w=.ok (b==c) w:=by
 simp [Op.equalIn,X0l ht]
theorem Xhr{b c:Bool}(ht:P.underlying t=some .bool)(hf:Fr a n e)(hx:ev e x=some (.bool b))(hy:ev e y=some (.bool c)) : Ev P ⟨d,.binOp .eql t x y t',ty,pos,af,g⟩ a w (.bool (b==c)):=fun w' _=>by
 have h:=X30 (P:=P) (b:=b) (c:=c) ht 9999 w'
 simp [execOp,hf.ev hx,hf.ev hy,eqGuard,binOp,Op.equal,Op.maxDepth,h]
theorem Xji{b c:Bool}(ht:P.underlying t=some .bool)(hx:ev e x=some (.bool b))(hy:ev e y=some (.bool c)) : EvW P ⟨d,.binOp .eql t x y t',ty,pos,af,g⟩ n e w (.bool (b==c)):=fun a hf=>Xhr ht hf hx hy
theorem Xi0{b c:Bool}(ht:P.underlying t=some .bool)(hf:Fr a n e)(hx:ev e x=some (.bool b))(hy:ev e y=some (.bool c)) : Ev P ⟨d,.binOp .neq t x y t',ty,pos,af,g⟩ a w (.bool (b != c)):=fun w' _=>by
 have h:=X30 (P:=P) (b:=b) (c:=c) ht 9999 w'
 simp [execOp,hf.ev hx,hf.ev hy,eqGuard,binOp,Op.equal,Op.maxDepth,h]
 cases b<;>cases c<;>rfl
theorem Xfb{b c:Bool}(ht:P.underlying t=some .bool)(hx:ev e x=some (.bool b))(hy:ev e y=some (.bool c)) : EvW P ⟨d,.binOp .neq t x y t',ty,pos,af,g⟩ n e w (.bool (b != c)):=fun a hf=>Xi0 ht hf hx hy
theorem Xlc{x:Operand}{T E:TypeId}{A:Option Addr}{m c:Nat}(hf:Fr a n e)(hx:ev e x=some (.slice A m c))(hT:SliceT P T E) : Ev P ⟨d,.call ⟨.builtin .len,#[x],#[T]⟩,ty,pos,af,g⟩ a w (.int .i64 (m:Int)):=fun w' _=>by
 have:=X0l (P:=P) hT w'
 simp [execOp,resolve,invoke,builtin,Builtin.len_,hf.ev hx,this,goInt]
theorem X14{x:Operand}{T E:TypeId}{A:Option Addr}{m c:Nat}(hx:ev e x=some (.slice A m c))(hT:SliceT P T E) : EvW P ⟨d,.call ⟨.builtin .len,#[x],#[T]⟩,ty,pos,af,g⟩ n e w (.int .i64 (m:Int)):=fun a hf=>Xlc hf hx hT
theorem X9z{k:FuncId}{cs:List Operand}{vs:List Value}(hf:Fr a n e)(hx:evs e cs=some vs) : Ev P ⟨d,.makeFunc (.func k) #[] cs.toArray,ty,pos,af,g⟩ a w (.func (.func k) #[] vs.toArray):=fun w' _=>by
 simp [execOp,Instr.makeFunc,hf.evs hx]
theorem X3x{k:FuncId}{cs:List Operand}{vs:List Value}(hx:evs e cs=some vs) : EvW P ⟨d,.makeFunc (.func k) #[] cs.toArray,ty,pos,af,g⟩ n e w (.func (.func k) #[] vs.toArray):=fun a hf=>X9z hf hx
end
end
end Go.Proofs.YtlfjcmldfbfdbaaGreat
namespace Go.Proofs.YtlfjcmldfbfdbaaGreat
open Go.RowKit
section
variable {P : Program} {a : Act} {w : World} {n : Nat} {e : Env} {ty : TypeId} {pos : String} {af : Array Edge} {g : Option (Nat × Bool)} {d : Option Tmp}
def IsNew(w:World)(T:TypeId)(zs:List Value)(v:Value)(w':World) : Prop:=
 ∃ b,v=.pointer (some ⟨b,0,none⟩)∧w.heap.size≤b∧Below w.heap.size w w'∧Blk w' b T zs
theorem X5p(w:World)(T:TypeId)(zs:List Value) : Blk (w.alloc (.cells zs.toArray T)) w.heap.size T zs:=heap_alloc_new w _
theorem X61(w:World)(T:TypeId)(zs:List Value) : IsNew w T zs (.pointer (some ⟨w.heap.size,0,none⟩)) (w.alloc (.cells zs.toArray T)):=
 ⟨_,rfl,Nat.le_refl _,(Below.refl _ _).alloc (Nat.le_refl _) _,X5p w T zs⟩
theorem X6r(T:TypeId)(v:Value)(w:World) : (newVar T v).run P w=.ok ⟨w.heap.size,0,none⟩ (w.alloc (.cells v.cells T)):=by
 simp [newVar,newRow,newObj,Sem.run]
theorem Xf7{T:TypeId}{z:Value}{zs:List Value}(hz:ZeroT P T z)(hzs:z.cells.toList=zs) : Ef P ⟨d,.alloc T,ty,pos,af,g⟩ a w (IsNew w T zs):=by
 subst hzs
 have h:(execOp a.eval ⟨d,.alloc T,ty,pos,af,g⟩).run P w=.ok (.value (.pointer (some ⟨w.heap.size,0,none⟩))) (w.alloc (.cells z.cells T)):=by
  simp [execOp,Instr.alloc,X7e hz,X6r]
 refine (Ef.of_run h).mono fun v w' ⟨e1,e2⟩=>?_
 subst e1;subst e2
 have:=X61 w T z.cells.toList
 simpa using this
theorem X6{n:Nat}{e:List (Nat×Value)}{T:TypeId}{z:Value}{zs:List Value}(hz:ZeroT P T z)(hzs:z.cells.toList=zs) : EfW P ⟨d,.alloc T,ty,pos,af,g⟩ n e w (IsNew w T zs):=fun a _=>Xf7 hz hzs
theorem Xkt{T:TypeId}{x:Operand}{v:Value}{zs:List Value}(hf:Fr a n e)(hx:ev e x=some v)(hzs:v.cells.toList=zs) : Ef P ⟨d,.box T x,ty,pos,af,g⟩ a w (IsNew w T zs):=by
 subst hzs
 have h:(execOp a.eval ⟨d,.box T x,ty,pos,af,g⟩).run P w=.ok (.value (.pointer (some ⟨w.heap.size,0,none⟩))) (w.alloc (.cells v.cells T)):=by
  simp [execOp,Instr.box,X6r,hf.ev hx]
 refine (Ef.of_run h).mono fun v' w' ⟨e1,e2⟩=>?_
 subst e1;subst e2
 have:=X61 w T v.cells.toList
 simpa using this
theorem X0j{T:TypeId}{x:Operand}{v:Value}{zs:List Value}(hx:ev e x=some v)(hzs:v.cells.toList=zs) : EfW P ⟨d,.box T x,ty,pos,af,g⟩ n e w (IsNew w T zs):=fun a hf=>Xkt hf hx hzs
def splice(l:List Value)(k:Nat)(vs:List Value) : List Value:=l.take k++vs++l.drop (k+vs.length)
def one:Value→Bool
 | .agg _=>false
 | .tuple _=>false
 | _=>true
theorem X95(w:World)(b k:Nat)(v:Value) : Only b w (w.setCell ⟨b,k,none⟩ v):=
 ⟨rfl,rfl,rfl,by simp [World.setCell],fun i hi=>Below.heap_setCell _ _ _ _ hi⟩
theorem Xaf{T:TypeId}{l:List Value}{b:Nat}(h:Blk w b T l)(k:Nat)(v:Value) : Blk (w.setCell ⟨b,k,none⟩ v) b T (l.set k v):=by
 unfold Blk at h ⊢
 simp [World.setCell,Array.getElem?_modify,h]
theorem X3u{b off:Nat}{T:TypeId} : ∀ (vs:List Value) (w:World) (l:List Value) (i:Nat),Blk w b T l→off+i+vs.length≤l.length→vs.all one=true→
  ∃ w',(storeCells ⟨b,off,none⟩ vs i).run P w=.ok () w'∧Only b w w'∧Blk w' b T (splice l (off+i) vs)
 | [],w,l,i,hb,_,_=>⟨w,by simp [storeCells],Only.refl _ _,by simpa [splice] using hb⟩
 | v::vs,w,l,i,hb,hl,h1=>by
  simp only [List.all_cons,Bool.and_eq_true,List.length_cons] at h1 hl
  have hc:w.cell? ⟨b,off+i,none⟩=some (l[off+i]'(by omega)):=by rw [hb.cell];exact List.getElem?_eq_getElem (by omega)
  have hfz:w.frozen? ⟨b,off+i,none⟩=false:=by
   have:=hb
   unfold Blk at this
   simp [World.frozen?,this]
  obtain ⟨w',hr,ho,hb'⟩:=X3u (off:=off) vs (w.setCell ⟨b,off+i,none⟩ v) (l.set (off+i) v) (i+1) (Xaf hb _ _) (by rw [List.length_set];omega) h1.2
  refine ⟨w',?_,(X95 w b _ v).trans ho,?_⟩
  ·have h0:(store (⟨b,off+i,none⟩ : Addr) v).run P w=.ok () (w.setCell ⟨b,off+i,none⟩ v):=by
    have h2:=h1.1
    unfold one at h2
    split at h2
    ·cases h2
    ·cases h2
    ·rename_i hx1 hx2
     cases v<;>simp_all [store,Sem.run]
   simp only [storeCells,X1h]
   simp [h0,hr]
  ·have:splice (l.set (off+i) v) (off+(i+1)) vs=splice l (off+i) (v::vs):=by
    unfold splice
    have e1:off+(i+1)=off+i+1:=by omega
    rw [e1,List.take_succ_eq_append_getElem (by rw [List.length_set];omega),List.take_set_of_le (by omega),List.getElem_set_self,List.drop_set_of_lt (by omega)]
    simp only [List.length_cons,List.append_assoc,List.cons_append,List.nil_append]
    rw [show off+i+1+vs.length=off+i+(vs.length+1) from by omega]
   rw [this] at hb'
   exact hb'
def Stored(w:World)(b:Nat)(T:TypeId)(l:List Value)(_:Value)(w':World) : Prop:=Only b w w'∧Blk w' b T l
theorem X9w{t T:TypeId}{x y:Operand}{b off k:Nat}{v:Value}{l l' vs:List Value}(hf:Fr a n e)(hx:ev e x=some (.pointer (some ⟨b,off,none⟩)))(hy:ev e y=some v)
  (hs:SizeT P t k) (hb:Blk w b T l) (hvs:v.cells.toList=vs) (hk:Nat.beq vs.length k=true) (h1:vs.all one=true) (hl:Nat.ble (off+k) l.length=true) (hl':splice l off vs=l') :
  Ef P ⟨d,.store t x y,ty,pos,af,g⟩ a w (Stored w b T l'):=by
 subst hl'
 have hk':vs.length=k:=Nat.eq_of_beq_eq_true hk
 have hll:off+k≤l.length:=Nat.le_of_ble_eq_true hl
 obtain ⟨w',hr,ho,hb'⟩:=X3u (P:=P) (b:=b) (off:=off) (T:=T) vs w l 0 hb (by omega) h1
 refine (Ef.of_skip (w':=w') ?_).mono fun v w1 ⟨_,e2⟩=>by subst e2;exact ⟨ho,by simpa using hb'⟩
 have hc:v.cells.size=k:=by rw [← hk',← hvs];simp
 simp [execOp,Instr.storeAt,Instr.sureAddr,hf.ev hx,hf.ev hy,storeVar,run_sizeOf' hs,hc,hvs,hr]
theorem X3t{t T:TypeId}{x y:Operand}{b off k:Nat}{v:Value}{l l' vs:List Value}(hx:ev e x=some (.pointer (some ⟨b,off,none⟩)))(hy:ev e y=some v)(hs:SizeT P t k)(hb:Blk w b T l)(hvs:v.cells.toList=vs)(hk:Nat.beq vs.length k=true)(h1:vs.all one=true)(hl:Nat.ble (off+k) l.length=true)(hl':splice l off vs=l') : EfW P ⟨d,.store t x y,ty,pos,af,g⟩ n e w (Stored w b T l'):=fun a hf=>X9w hf hx hy hs hb hvs hk h1 hl hl'
def Ret(P:Program)(f:FuncId)(args:List Value)(w:World)(R:Value→World→Prop) : Prop:=Calls P f args.toArray w fun e w'=>∃ v,e=.returned v∧R v w'
theorem Ret.mono{f:FuncId}{args:List Value}{R R':Value→World→Prop}(h:Ret P f args w R)(hr:∀ v w',R v w'→R' v w') : Ret P f args w R':=
 Calls.mono h fun _ _ ⟨v,he,hR⟩=>⟨v,he,hr _ _ hR⟩
theorem X4x{f:FuncId}(hF:FuncF P f)(args:Array Value)(w:World) : (callFunc f args).run P w=.ok (.enter f args) w:=by
 obtain ⟨fn,h1,h2,h3⟩:=hF
 have h2' : ¬ fn.name = "runtime.NumGoroutine" := by simpa using h2
 have h3':¬ fn.body=none:=by intro hb;rw [hb] at h3;cases h3
 simp [callFunc,h1,h2',h3']
theorem Xi4{f:FuncId}{xs:List Operand}{vs:List Value}{ts:Array TypeId}{R:Value→World→Prop}(hf:Fr a n e)(hx:evs e xs=some vs)(hF:FuncF P f)(h:Ret P f vs w R) :
  Ef P ⟨d,.call ⟨.value (.func f),xs.toArray,ts⟩,ty,pos,af,g⟩ a w R:=by
 have hm:=hf.evs hx
 unfold Ef
 have hr:(execOp a.eval ⟨d,.call ⟨.value (.func f),xs.toArray,ts⟩,ty,pos,af,g⟩).run P w=.ok (.enter f vs.toArray) w:=by
  simp [execOp,resolve,Act.eval,Deferred.ofValue,invoke,hm,X4x hF]
 rw [hr]
 exact h
theorem Xnt{f:FuncId}{xs:List Operand}{vs:List Value}{ts:Array TypeId}{R:Value→World→Prop}(hx:evs e xs=some vs)(hF:FuncF P f)(h:Ret P f vs w R) : EfW P ⟨d,.call ⟨.value (.func f),xs.toArray,ts⟩,ty,pos,af,g⟩ n e w R:=fun a hf=>Xi4 hf hx hF h
theorem Xgm{f:FuncId}{x:Operand}{xs:List Operand}{vs cs:List Value}{ts:Array TypeId}{R:Value→World→Prop}(hf:Fr a n e)(hv:ev e x=some (.func (.func f) #[] cs.toArray))(hx:evs e xs=some vs)(hF:FuncF P f)(h:Ret P f (vs++cs) w R) :
  Ef P ⟨d,.call ⟨.value x,xs.toArray,ts⟩,ty,pos,af,g⟩ a w R:=by
 have hm:=hf.evs hx
 have hv':=hf.ev hv
 unfold Ef
 have hr:(execOp a.eval ⟨d,.call ⟨.value x,xs.toArray,ts⟩,ty,pos,af,g⟩).run P w=.ok (.enter f (vs++cs).toArray) w:=by
  simp [execOp,resolve,hv',Deferred.ofValue,invoke,hm,X4x hF]
 rw [hr]
 exact h
theorem X5n{f:FuncId}{x:Operand}{xs:List Operand}{vs cs:List Value}{ts:Array TypeId}{R:Value→World→Prop}(hv:ev e x=some (.func (.func f) #[] cs.toArray))(hx:evs e xs=some vs)(hF:FuncF P f)(h:Ret P f (vs++cs) w R) : EfW P ⟨d,.call ⟨.value x,xs.toArray,ts⟩,ty,pos,af,g⟩ n e w R:=fun a hf=>Xgm hf hv hx hF h
end
section
variable {α : Type}
def Rd(w:World)(B:Nat)(E:TypeId)(enc:α→List Value)(A:Option Addr)(l:List α) : Prop:=
 l≠[]→∃ b off cs fz,A=some ⟨b,off,none⟩∧b<B∧w.heap[b]? = some (.cells cs E fz)∧∀ j v,(l.flatMap enc)[j]? = some v→cs[off+j]? = some v
theorem Rd.nil(w:World)(B:Nat)(E:TypeId)(enc:α→List Value)(A:Option Addr) : Rd w B E enc A []:=fun h=>absurd rfl h
theorem Rd.chg{w w':World}{B:Nat}{E:TypeId}{enc:α→List Value}{A:Option Addr}{l:List α}(h:Rd w B E enc A l)(hk:∀ b cs fz,b<B→w.heap[b]? = some (.cells cs E fz)→w'.heap[b]? = w.heap[b]?) : Rd w' B E enc A l:=fun hl=>by
 obtain ⟨b,off,cs,fz,h1,h2,h3,h4⟩:=h hl
 exact ⟨b,off,cs,fz,h1,h2,(hk b cs fz h2 h3).trans h3,h4⟩
theorem Rd.more{w:World}{B B':Nat}{E:TypeId}{enc:α→List Value}{A:Option Addr}{l:List α}(h:Rd w B E enc A l)(hB:B≤B') : Rd w B' E enc A l:=fun hl=>by
 obtain ⟨b,off,cs,fz,h1,h2,h3,h4⟩:=h hl
 exact ⟨b,off,cs,fz,h1,by omega,h3,h4⟩
theorem Rd.below{w w':World}{B:Nat}{E:TypeId}{enc:α→List Value}{A:Option Addr}{l:List α}(h:Rd w B E enc A l)(hb:Below w.heap.size w w') : Rd w' B E enc A l:=
 h.chg fun b _ _ _ hh=>hb.block b (by
  rcases Nat.lt_or_ge b w.heap.size with h'|h'
  ·exact h'
  ·rw [Array.getElem?_eq_none h'] at hh;cases hh)
theorem Rd.below'{w w':World}{B:Nat}{E:TypeId}{enc:α→List Value}{A:Option Addr}{l:List α}(h:Rd w B E enc A l)(hb:Below B w w') : Rd w' B E enc A l:=
 h.chg fun b _ _ hB _=>hb.block b hB
theorem Rd.only{w w':World}{B b:Nat}{E:TypeId}{enc:α→List Value}{A:Option Addr}{l:List α}(h:Rd w B E enc A l)(ho:Only b w w')(hB:B≤b) : Rd w' B E enc A l:=
 h.chg fun k _ _ hk _=>ho.block k (by omega)
theorem Rd.onlyT{w w':World}{B b:Nat}{E T:TypeId}{lc:List Value}{enc:α→List Value}{A:Option Addr}{l:List α}(h:Rd w B E enc A l)(ho:Only b w w')(hb:Blk w b T lc)(hT:Nat.beq E T=false) : Rd w' B E enc A l:=
 h.chg fun k cs fz _ hh=>ho.block k (by
  rintro rfl
  unfold Blk at hb
  rw [hh] at hb
  injection hb with hb
  injection hb with _ e _
  subst e
  simp at hT)
theorem Rd.drew{w:World}{B:Nat}{E:TypeId}{enc:α→List Value}{A:Option Addr}{l:List α}(h:Rd w B E enc A l) : Rd w.drew B E enc A l:=h
theorem X4n{enc:α→List Value}{sz:Nat}(hsz:∀ x,(enc x).length=sz) : ∀ (l:List α) (k:Nat) (x:α),l[k]? = some x→∀ j v,(enc x)[j]? = some v→(l.flatMap enc)[k*sz+j]? = some v
 | [],k,x,h=>by simp at h
 | y::l,0,x,h=>by
  intro j v hj
  obtain rfl:y=x:=by simpa using h
  simp only [List.flatMap_cons,Nat.zero_mul,Nat.zero_add]
  rw [List.getElem?_append_left (List.getElem?_eq_some_iff.1 hj).1]
  exact hj
 | y::l,k+1,x,h=>by
  intro j v hj
  simp only [List.flatMap_cons]
  have h1:(k+1)*sz+j=sz+(k*sz+j):=by rw [Nat.add_mul];omega
  rw [h1,List.getElem?_append_right (by rw [hsz];omega),hsz,Nat.add_sub_cancel_left]
  exact X4n hsz l k x (by simpa using h) j v hj
theorem X00{enc:α→List Value}{sz:Nat}(hsz:∀ x,(enc x).length=sz)(l:List α) : (l.flatMap enc).length=l.length*sz:=by
 induction l with
 | nil=>simp
 | cons x l ih=>simp only [List.flatMap_cons,List.length_append,hsz,ih,List.length_cons,Nat.add_mul];omega
theorem Rd.at{w:World}{B:Nat}{E:TypeId}{enc:α→List Value}{A:Option Addr}{l:List α}{sz:Nat}(hsz:∀ x,(enc x).length=sz)(h:Rd w B E enc A l){k:Nat}{x:α}(hk:l[k]? = some x) :
  ∃ p,A=some p∧At w (p.add (k*sz)) (enc x):=by
 have hl:l≠[]:=by rintro rfl;simp at hk
 obtain ⟨b,off,cs,fz,rfl,h2,h3,h4⟩:=h hl
 refine ⟨_,rfl,fun j v hj=>?_⟩
 rw [X1h,X1h]
 have:=h4 _ _ (X4n hsz l k x hk j v hj)
 simp only [World.cell?,h3]
 rw [Nat.add_assoc]
 simpa using this
theorem Rd.of_blk{w:World}{b:Nat}{E:TypeId}{enc:α→List Value}{l:List α}{cs:List Value}(h:Blk w b E cs)(hcs:l.flatMap enc=cs)(B:Nat)(hB:b<B) : Rd w B E enc (some ⟨b,0,none⟩) l:=fun _=>by
 subst hcs
 exact ⟨b,0,_,_,rfl,hB,h,fun j v hj=>by simpa using hj⟩
def Own(w:World)(B0:Nat)(E:TypeId)(sz:Nat)(enc:α→List Value)(A:Option Addr)(c:Nat)(l:List α) : Prop:=w.ownsRow B0 E sz (.slice A l.length c) l.length (l.flatMap enc)
theorem Own.rd{w:World}{B0:Nat}{E:TypeId}{sz:Nat}{enc:α→List Value}{A:Option Addr}{c:Nat}{l:List α}(h:Own w B0 E sz enc A c l) : Rd w w.heap.size E enc A l:=fun hl=>by
 rcases h.2 with ⟨h1,h2⟩|⟨g,cap,cur,h1,h2,h3,h4,h5,h6,h7⟩
 ·exact absurd (List.eq_nil_of_length_eq_zero h2) hl
 ·injection h1 with h1
  refine ⟨g,0,cur,_,h1,(Array.getElem?_eq_some_iff.1 h3).1,h3,fun j v hj=>?_⟩
  rw [← h7,List.getElem?_take] at hj
  split at hj
  ·simpa using hj
  ·cases hj
theorem Own.nil(w:World)(B0:Nat)(E:TypeId)(sz:Nat)(enc:α→List Value) : Own w B0 E sz enc none 0 []:=⟨by simp,.inl ⟨rfl,rfl⟩⟩
theorem Own.empty{w:World}{B0 b:Nat}{E:TypeId}{sz:Nat}{enc:α→List Value}(h:Blk w b E [])(hb:B0≤b) : Own w B0 E sz enc (some ⟨b,0,none⟩) 0 ([] : List α):=
 ⟨by simp,.inr ⟨b,0,#[],rfl,hb,h,Nat.le_refl _,by simp [maxLen],by simp,by simp⟩⟩
theorem Own.of_blk{w:World}{B0 b:Nat}{E:TypeId}{sz:Nat}{enc:α→List Value}{l:List α}{cs:List Value}(h:Blk w b E cs)(hb:B0≤b)(hcs:l.flatMap enc=cs)(hsz:∀ x,(enc x).length=sz)(hm:l.length≤maxLen) : Own w B0 E sz enc (some ⟨b,0,none⟩) l.length l:=by
 subst hcs
 have hl:=X00 hsz l
 exact ⟨hl,.inr ⟨b,l.length,_,rfl,hb,h,Nat.le_refl _,hm,by simpa using hl,by simp only [List.toList_toArray];rw [← hl];exact List.take_length⟩⟩
theorem Own.below{w w':World}{B0:Nat}{E:TypeId}{sz:Nat}{enc:α→List Value}{A:Option Addr}{c:Nat}{l:List α}(h:Own w B0 E sz enc A c l)(hb:Below w.heap.size w w') : Own w' B0 E sz enc A c l:=by
 refine ⟨h.1,?_⟩
 rcases h.2 with h1|⟨g,cap,cur,h1,h2,h3,h4⟩
 ·exact .inl h1
 ·exact .inr ⟨g,cap,cur,h1,h2,(hb.block g (Array.getElem?_eq_some_iff.1 h3).1).trans h3,h4⟩
theorem Own.onlyT{w w':World}{B0 b:Nat}{E T:TypeId}{lc:List Value}{sz:Nat}{enc:α→List Value}{A:Option Addr}{c:Nat}{l:List α}(h:Own w B0 E sz enc A c l)(ho:Only b w w')(hb:Blk w b T lc)(hT:Nat.beq E T=false) : Own w' B0 E sz enc A c l:=by
 refine ⟨h.1,?_⟩
 rcases h.2 with h1|⟨g,cap,cur,h1,h2,h3,h4⟩
 ·exact .inl h1
 ·refine .inr ⟨g,cap,cur,h1,h2,(ho.block g ?_).trans h3,h4⟩
  rintro rfl
  unfold Blk at hb
  rw [h3] at hb
  injection hb with hb
  injection hb with _ e _
  subst e
  simp at hT
theorem Own.drew{w:World}{B0:Nat}{E:TypeId}{sz:Nat}{enc:α→List Value}{A:Option Addr}{c:Nat}{l:List α}(h:Own w B0 E sz enc A c l) : Own w.drew B0 E sz enc A c l:=h
theorem Own.block{w:World}{B0:Nat}{E:TypeId}{sz:Nat}{enc:α→List Value}{A:Option Addr}{c:Nat}{l:List α}(h:Own w B0 E sz enc A c l){k:Nat}(hk:(Value.slice A l.length c).ownBlock=some k) : B0≤k∧k<w.heap.size∧∃ cs fz,w.heap[k]? = some (.cells cs E fz):=by
 rcases h.2 with ⟨h1,_⟩|⟨g,cap,cur,h1,h2,h3,_⟩
 ·rw [h1] at hk;simp [Value.ownBlock] at hk
 ·rw [h1] at hk
  simp [Value.ownBlock] at hk
  subst hk
  exact ⟨h2,(Array.getElem?_eq_some_iff.1 h3).1,_,_,h3⟩
def Away(A:Option Addr)(b:Nat) : Prop:=∀ p,A=some p→p.block≠b
def AwayR(l:List α)(A:Option Addr)(b:Nat) : Prop:=l≠[]→Away A b
theorem Away.no(b:Nat) : Away none b:=fun p h=>by cases h
theorem Away.ne{g off b:Nat}(h:b≠g) : Away (some ⟨g,off,none⟩) b:=fun p hp=>by injection hp with hp;subst hp;exact Ne.symm h
theorem Rd.away{w:World}{B b:Nat}{E:TypeId}{enc:α→List Value}{A:Option Addr}{l:List α}(h:Rd w B E enc A l)(hl:w.heap.size≤b) : AwayR l A b:=fun hne p hp=>by
 obtain ⟨g,off,cs,fz,h1,h2,h3,h4⟩:=h hne
 rw [hp] at h1
 injection h1 with h1
 subst h1
 have:=(Array.getElem?_eq_some_iff.1 h3).1
 intro e
 simp only at e
 omega
theorem Own.away{w:World}{B0 b:Nat}{E:TypeId}{sz:Nat}{enc:α→List Value}{A:Option Addr}{c:Nat}{l:List α}(h:Own w B0 E sz enc A c l)(hl:w.heap.size≤b) : Away A b:=fun p hp=>by
 rcases h.2 with ⟨h1,_⟩|⟨g,cap,cur,h1,h2,h3,_⟩
 ·injection h1 with h1;rw [h1] at hp;cases hp
 ·injection h1 with h1
  rw [h1] at hp
  injection hp with hp
  subst hp
  have:=(Array.getElem?_eq_some_iff.1 h3).1
  intro e
  simp only at e
  omega
theorem Own.awayNew{w:World}{B0 b:Nat}{E:TypeId}{sz:Nat}{enc:α→List Value}{A:Option Addr}{c:Nat}{l:List α}(h:Own w B0 E sz enc A c l)(hl:b<B0) : Away A b:=fun p hp=>by
 rcases h.2 with ⟨h1,_⟩|⟨g,cap,cur,h1,h2,h3,_⟩
 ·injection h1 with h1;rw [h1] at hp;cases hp
 ·injection h1 with h1
  rw [h1] at hp
  injection hp with hp
  subst hp
  intro e
  simp only at e
  omega
theorem Away.r{l:List α}{A:Option Addr}{b:Nat}(h:Away A b) : AwayR l A b:=fun _=>h
theorem Rd.onlyA{w w':World}{B b:Nat}{E:TypeId}{enc:α→List Value}{A:Option Addr}{l:List α}(h:Rd w B E enc A l)(ho:Only b w w')(ha:AwayR l A b) : Rd w' B E enc A l:=fun hne=>by
 obtain ⟨g,off,cs,fz,h1,h2,h3,h4⟩:=h hne
 exact ⟨g,off,cs,fz,h1,h2,(ho.block g (ha hne _ h1)).trans h3,h4⟩
theorem Own.onlyA{w w':World}{B0 b:Nat}{E:TypeId}{sz:Nat}{enc:α→List Value}{A:Option Addr}{c:Nat}{l:List α}(h:Own w B0 E sz enc A c l)(ho:Only b w w')(ha:Away A b) : Own w' B0 E sz enc A c l:=by
 refine ⟨h.1,?_⟩
 rcases h.2 with h1|⟨g,cap,cur,h1,h2,h3,h4⟩
 ·exact .inl h1
 ·injection h1 with h1 h1' h1''
  exact .inr ⟨g,cap,cur,by rw [h1,h1''],h2,(ho.block g (ha _ h1)).trans h3,h4⟩
def Appended(w:World)(B0:Nat)(E:TypeId)(sz:Nat)(enc:α→List Value)(A:Option Addr)(c:Nat)(l l2:List α)(v:Value)(w':World) : Prop:=
 ∃ A' c',v=.slice A' (l++l2).length c'∧Own w' B0 E sz enc A' c' (l++l2)∧w.grownBy w' (Value.slice A l.length c).ownBlock∧∀ b,b<w.heap.size→Away A b→Away A' b
theorem Blk.appT{w w':World}{b:Nat}{T:TypeId}{lc:List Value}{B0:Nat}{E:TypeId}{sz:Nat}{enc:α→List Value}{A:Option Addr}{c:Nat}{l:List α}(h:Blk w b T lc)(ho:Own w B0 E sz enc A c l)(hg:w.grownBy w' (Value.slice A l.length c).ownBlock)(hT:Nat.beq E T=false) : Blk w' b T lc:=by
 refine (hg.block b h.lt fun hk=>?_).trans h
 obtain ⟨_,_,cs,fz,h3⟩:=ho.block hk.symm
 unfold Blk at h
 rw [h3] at h
 injection h with h
 injection h with _ e _
 subst e
 simp at hT
theorem Blk.appB{w w':World}{b:Nat}{T:TypeId}{lc:List Value}{B0:Nat}{E:TypeId}{sz:Nat}{enc:α→List Value}{A:Option Addr}{c:Nat}{l:List α}(h:Blk w b T lc)(ho:Own w B0 E sz enc A c l)(hg:w.grownBy w' (Value.slice A l.length c).ownBlock)(hb:b<B0) : Blk w' b T lc:=
 (hg.block b h.lt fun hk=>by have:=(ho.block hk.symm).1;omega).trans h
theorem Blk.appA{w w':World}{b:Nat}{T:TypeId}{lc:List Value}{A:Option Addr}{n c:Nat}(h:Blk w b T lc)(hg:w.grownBy w' (Value.slice A n c).ownBlock)(ha:Away A b) : Blk w' b T lc:=by
 refine (hg.block b h.lt fun hk=>?_).trans h
 cases A with
 | none=>simp [Value.ownBlock] at hk
 | some q=>
  simp only [Value.ownBlock,Option.some.injEq] at hk
  exact ha q rfl hk.symm
theorem Rd.appT{β:Type}{w w':World}{B:Nat}{E':TypeId}{enc':β→List Value}{A':Option Addr}{l':List β}{B0:Nat}{E:TypeId}{sz:Nat}{enc:α→List Value}{A:Option Addr}{c:Nat}{l:List α}(h:Rd w B E' enc' A' l')(ho:Own w B0 E sz enc A c l)(hg:w.grownBy w' (Value.slice A l.length c).ownBlock)(hT:Nat.beq E E'=false) : Rd w' B E' enc' A' l':=
 h.chg fun k cs fz _ hh=>hg.block k (Array.getElem?_eq_some_iff.1 hh).1 fun hk=>by
  obtain ⟨_,_,cs',fz',h3⟩:=ho.block hk.symm
  rw [h3] at hh
  injection hh with hh
  injection hh with _ e _
  subst e
  simp at hT
theorem Rd.appB{β:Type}{w w':World}{B:Nat}{E':TypeId}{enc':β→List Value}{A':Option Addr}{l':List β}{B0:Nat}{E:TypeId}{sz:Nat}{enc:α→List Value}{A:Option Addr}{c:Nat}{l:List α}(h:Rd w B E' enc' A' l')(ho:Own w B0 E sz enc A c l)(hg:w.grownBy w' (Value.slice A l.length c).ownBlock)(hB:B≤B0) : Rd w' B E' enc' A' l':=
 h.chg fun k cs fz hk hh=>hg.block k (Array.getElem?_eq_some_iff.1 hh).1 fun hk'=>by have:=(ho.block hk'.symm).1;omega
theorem Own.appT{β:Type}{w w':World}{B1:Nat}{E':TypeId}{sz':Nat}{enc':β→List Value}{A':Option Addr}{c':Nat}{l':List β}{B0:Nat}{E:TypeId}{sz:Nat}{enc:α→List Value}{A:Option Addr}{c:Nat}{l:List α}(h:Own w B1 E' sz' enc' A' c' l')(ho:Own w B0 E sz enc A c l)(hg:w.grownBy w' (Value.slice A l.length c).ownBlock)(hT:Nat.beq E E'=false) : Own w' B1 E' sz' enc' A' c' l':=by
 refine ⟨h.1,?_⟩
 rcases h.2 with h1|⟨g,cap,cur,h1,h2,h3,h4⟩
 ·exact .inl h1
 ·refine .inr ⟨g,cap,cur,h1,h2,(hg.block g (Array.getElem?_eq_some_iff.1 h3).1 fun hk=>?_).trans h3,h4⟩
  obtain ⟨_,_,cs',fz',h5⟩:=ho.block hk.symm
  rw [h5] at h3
  injection h3 with h3
  injection h3 with _ e _
  subst e
  simp at hT
theorem Below.app{w0 w w':World}{B B0:Nat}{E:TypeId}{sz:Nat}{enc:α→List Value}{A:Option Addr}{c:Nat}{l:List α}(h:Below B w0 w)(ho:Own w B0 E sz enc A c l)(hg:w.grownBy w' (Value.slice A l.length c).ownBlock)(hB:B≤B0)(hs:B≤w.heap.size) : Below B w0 w':=
 h.grown hg hs fun k hk=>by have:=(ho.block hk).1;omega
def InfoT(P:Program)(E:TypeId)(sz bytes:Nat) : Prop:=∃ i z,P.info? E=some i∧i.zero=some z∧i.size=sz∧i.bytes=bytes∧z.cells.size=sz∧0<sz
section
variable {P : Program} {a : Act} {w : World} {n : Nat} {e : Env} {ty : TypeId} {pos : String} {af : Array Edge} {g : Option (Nat × Bool)} {d : Option Tmp}
theorem Xdj{T E:TypeId}{sz bytes B B0:Nat}{x y:Operand}{enc:α→List Value}{A A2:Option Addr}{c c2:Nat}{l l2:List α}(hf:Fr a n e)(hx:ev e x=some (.slice A l.length c))(hy:ev e y=some (.slice A2 l2.length c2))
  (hT:SliceT P T E) (hi:InfoT P E sz bytes) (hsz:∀ x,(enc x).length=sz) (hone:∀ x,(enc x).all one=true) (ho:Own w B0 E sz enc A c l) (hr:Rd w B E enc A2 l2) (h63:l.length+l2.length≤maxLen) (hbytes:(l.length+l2.length)*bytes≤140737488355328) (hB0:B0≤w.heap.size) :
  Ef P ⟨d,.call ⟨.builtin .append,#[x,y],#[T,T]⟩,ty,pos,af,g⟩ a w (Appended w B0 E sz enc A c l l2):=by
 obtain ⟨i,z,hi1,hi2,hi3,hi4,hi5,hi6⟩:=hi
 by_cases hl2:l2=[]
 ·subst hl2
  have hrun:(Builtin.append_ #[T,T] ty #[.slice A l.length c,.slice A2 0 c2]).run P w=.ok (.slice A l.length c) w:=by
   rcases ho.2 with ⟨h1,h2⟩|⟨gg,cap,cur,h1,h2,h3,h4,h5,h6,h7⟩
   ·injection h1 with h1 h1' h1''
    subst h1
    cases A2<;>simp [Builtin.append_,X0l hT,sizeOf,typeInfo,hi1,Builtin.lenOf,Builtin.firstCells,loadCells,loadCellsFrom,h1',h1'']
   ·injection h1 with h1 _ h1''
    subst h1;subst h1''
    cases A2<;>simp [Builtin.append_,X0l hT,sizeOf,typeInfo,hi1,Builtin.lenOf,Builtin.firstCells,loadCells,loadCellsFrom,h4,storeCells]
  refine (Ef.of_run (v:=.slice A l.length c) (w':=w) ?_).mono fun v w' ⟨e1,e2⟩=>?_
  ·simp only [List.length_nil] at hy
   simp [execOp,resolve,invoke,builtin,hf.ev hx,hf.ev hy,hrun]
  ·subst e1;subst e2
   exact ⟨A,c,by simp,by simpa using ho,World.grownBy.refl w' _,fun _ _ h=>h⟩
 ·obtain ⟨b,off,cs,fz,rfl,h2,h3,h4⟩:=hr hl2
  obtain ⟨v',w',hrun,hown,hg,_,hat⟩:=run_append_own_at (P:=P) w B0 T ty E i z sz bytes hT hi1 hi2 hi3 hi4 hi5 hi6 (.slice A l.length c) l.length (l.flatMap enc) ho ⟨b,off,none⟩ l2.length c2 (l2.flatMap enc) (X00 hsz l2)
   (fun j u hu=>by
    have:=h4 j u hu
    rw [X1h]
    simp [World.cell?,h3,this])
   (fun u hu=>by
    obtain ⟨x,_,hx⟩:=List.mem_flatMap.1 hu
    have:=List.all_eq_true.1 (hone x) u hx
    cases u<;>simp_all [Value.oneCell',one]) h63 hbytes hB0
  refine (Ef.of_run (v:=v') (w':=w') ?_).mono fun v w1 ⟨e1,e2⟩=>?_
  ·simp [execOp,resolve,invoke,builtin,hf.ev hx,hf.ev hy,hrun]
  ·subst e1;subst e2
   have hv:∃ A' c',v=.slice A' (l++l2).length c':=by
    rcases hown.2 with ⟨h1,h2⟩|⟨gg,cap,cur,h1,_⟩
    ·exact ⟨none,0,by rw [h1,List.length_append,h2]⟩
    ·exact ⟨_,_,by rw [h1,List.length_append]⟩
   obtain ⟨A',c',rfl⟩:=hv
   refine ⟨A',c',rfl,?_,hg,fun b hb ha p hp=>?_⟩
   rotate_left
   ·subst hp
    rcases hat with hat|hat
    ·cases A with
     | none=>simp [Value.ownBlock] at hat
     | some q=>
      simp only [Value.ownBlock,Option.some.injEq] at hat
      rw [hat]
      exact ha q rfl
    ·simp only [Value.ownBlock,Option.some.injEq] at hat
     rw [hat]
     omega
   unfold Own
   rw [List.length_append,List.flatMap_append]
   simpa [List.length_append] using hown
theorem X1e{T E:TypeId}{sz bytes B B0:Nat}{x y:Operand}{enc:α→List Value}{A A2:Option Addr}{c c2:Nat}{l l2:List α}(hx:ev e x=some (.slice A l.length c))(hy:ev e y=some (.slice A2 l2.length c2))(hT:SliceT P T E)(hi:InfoT P E sz bytes)(hsz:∀ x,(enc x).length=sz)(hone:∀ x,(enc x).all one=true)(ho:Own w B0 E sz enc A c l)(hr:Rd w B E enc A2 l2)(h63:l.length+l2.length≤maxLen)(hbytes:(l.length+l2.length)*bytes≤140737488355328)(hB0:B0≤w.heap.size) : EfW P ⟨d,.call ⟨.builtin .append,#[x,y],#[T,T]⟩,ty,pos,af,g⟩ n e w (Appended w B0 E sz enc A c l l2):=fun a hf=>Xdj hf hx hy hT hi hsz hone ho hr h63 hbytes hB0
theorem X4r{T E:TypeId}{sz:Nat}{x y:Operand}{p:Addr}{c:Nat}{k:Nat}{i:Int}{m:Nat}(hf:Fr a n e)(hx:ev e x=some (.slice (some p) m c))(hy:ev e y=some (.int .i64 i))(hT:SliceT P T E)(hs:SizeT P E sz)
  (hi:i=(k:Int)) (hk:k<m) : Ev P ⟨d,.indexAddr T x y,ty,pos,af,g⟩ a w (.pointer (some (p.add (k*sz)))):=fun w' _=>by
 subst hi
 have h1:=X0l (P:=P) hT w'
 have h2:=run_sizeOf' hs w'
 have h3:((k:Int)<(m:Int))=True:=by simp;omega
 simp [execOp,Instr.indexAt,asIntOf,hf.ev hx,hf.ev hy,h1,h2,hk]
end
end
end Go.Proofs.YtlfjcmldfbfdbaaGreat
namespace Go.Proofs.YtlfjcmldfbfdbaaGreat
open Go.RowKit
section
variable {P : Program} {Q : Exit → Act → World → Prop} {a : Act} {w : World} {n : Nat} {e : Env}
theorem Xm{c:Operand}{x y:Code}{b:Bool}(hf:Fr a n e)(hc:ev e c=some (.bool b))(ht:b=true→x.wp P Q a w)(he:b=false→y.wp P Q a w) : (Code.cond c x y).wp P Q a w:=
 wp_cond_split (hf.ev hc) ht he
theorem X0g{c:Code}(X:Act→World→Prop)(h:c.wp P (Exit.then X Q) a w)(hX:∀ a w,X a w→Q .normal a w) : c.wp P Q a w:=
 Code.wp_mono (fun e a w hq=>by cases e<;>first|exact hX _ _ hq|exact hq) h
theorem X0c{σ:Type}{c:Code}(I:σ→Act→World→Prop)(μ:σ→Nat)(s:σ)(h0:I s a w)
  (round:∀ s a w,I s a w→c.wp P (Exit.then (fun a' w'=>∃ s',I s' a' w'∧μ s'<μ s) Q) a w) : (Code.loop c).wp P Q a w:=by
 intro b k cs
 have key:∀ n s a w,μ s=n→I s a w→∃ e a' w',Q e a' w'∧Arrives P (lone (b.at a (.code c::.inLoop c::k)) cs w) b k cs e a' w':=by
  intro n
  induction n using Nat.strongRecOn with
  | _ n ih=>
   intro s a w hn hI
   obtain ⟨e,a₁,w₁,hq,harr⟩:=round s a w hI b (.inLoop c::k) cs
   cases e with
   | normal=>
    obtain ⟨s',hI₁,hlt⟩:=hq
    obtain ⟨e₂,a₂,w₂,hq₂,harr₂⟩:=ih (μ s') (hn▸hlt) s' a₁ w₁ rfl hI₁
    exact ⟨e₂,a₂,w₂,hq₂,.of_steps (Steps.trans harr (.one step_inLoop)) harr₂⟩
   | exit id=>exact ⟨_,a₁,w₁,hq,.pass (x:=.inLoop c) rfl (fun _ _=>.inl (by simp)) harr⟩
   | goto l=>exact ⟨_,a₁,w₁,hq,.pass (x:=.inLoop c) rfl (fun _ _=>.inl (by simp)) harr⟩
   | ret=>exact ⟨_,a₁,w₁,hq,.pass (x:=.inLoop c) rfl (fun _ _=>.inl (by simp)) harr⟩
   | panic ch=>exact ⟨_,a₁,w₁,hq,.pass (x:=.inLoop c) rfl (fun _ _=>.inl (by simp)) harr⟩
   | outgrown=>exact ⟨_,a₁,w₁,hq,.pass (x:=.inLoop c) rfl (fun _ _=>.inl (by simp)) harr⟩
 obtain ⟨e,a',w',hq,harr⟩:=key _ s a w rfl h0
 exact ⟨e,a',w',hq,.of_steps (.one step_loop) harr⟩
def evp(e:Env) : List (Nat×Operand)→Option (List (Nat×Value))
 | []=>some []
 | (i,x)::l=>match ev e x,evp e l with
  | some v,some vs=>some ((i,v)::vs)
  | _,_=>none
theorem Fr.evp(hf:Fr a n e) : ∀ {l:List (Nat×Operand)} {vs:List (Nat×Value)},evp e l=some vs→l.map (fun p=>(p.1,a.eval p.2))=vs:=by
 intro l
 induction l with
 | nil=>intro vs h;simpa [YtlfjcmldfbfdbaaGreat.evp] using h
 | cons x l ih=>
  obtain ⟨i,x⟩:=x
  intro vs h
  simp only [YtlfjcmldfbfdbaaGreat.evp] at h
  split at h
  ·rename_i v us h1 h2
   injection h with h
   subst h
   simp [hf.ev h1,ih h2]
  ·cases h
def numb:Nat→List Value→List (Nat×Value)
 | _,[]=>[]
 | k,v::l=>(k,v)::numb (k+1) l
section
variable {ty : TypeId} {pos : String} {af : Array Edge} {g : Option (Nat × Bool)} {d : Option Tmp}
theorem Xgv{T:TypeId}{parts:List (Nat×Operand)}{ps:List (Nat×Value)}{cs:List Value}(hf:Fr a n e)(hp:evp e parts=some ps)(hb:∀ w,(Instr.build T ps.toArray).run P w=.ok (.agg cs.toArray) w) :
  Ev P ⟨d,.build T parts.toArray,ty,pos,af,g⟩ a w (.agg cs.toArray):=fun w' _=>by
 have h1:=hf.evp hp
 have h2:=hb w'
 simp only [execOp,List.map_toArray]
 rw [show (List.map (fun x:Nat×Operand=>match x with|(i,x)=>(i,a.eval x)) parts)=ps from h1]
 simp [h2]
theorem Xt{T:TypeId}{parts:List (Nat×Operand)}{ps:List (Nat×Value)}{cs:List Value}(hp:evp e parts=some ps)(hb:∀ w,(Instr.build T ps.toArray).run P w=.ok (.agg cs.toArray) w) : EvW P ⟨d,.build T parts.toArray,ty,pos,af,g⟩ n e w (.agg cs.toArray):=fun a hf=>Xgv hf hp hb
theorem X83(off:Nat) : ∀ (l:List Value) (m:Nat) (cs:Array Value),off+m+l.length≤cs.size→((l.zipIdx m).foldl (fun cs p=>cs.setIfInBounds (off+p.2) p.1) cs).toList=splice cs.toList (off+m) l
 | [],m,cs,_=>by simp [splice]
 | v::l,m,cs,h=>by
  simp only [List.length_cons] at h
  simp only [List.zipIdx_cons,List.foldl_cons]
  rw [X83 off l (m+1) _ (by simp;omega)]
  unfold splice
  have e1:off+(m+1)=off+m+1:=by omega
  rw [e1,Array.toList_setIfInBounds,List.take_succ_eq_append_getElem (by simp;omega),List.take_set_of_le (by omega),List.getElem_set_self,List.drop_set_of_lt (by omega)]
  simp only [List.length_cons,List.append_assoc,List.cons_append,List.nil_append]
  rw [show off+m+1+l.length=off+m+(l.length+1) from by omega]
theorem X7z(sz:Nat) : ∀ (vs:List Value) (k:Nat) (cells:Array Value),(∀ v ∈ vs,v.cells.size=sz)→cells.size=(k+vs.length)*sz→
  Instr.fill (fun i=>some (i*sz,sz)) cells (numb k vs)=some (cells.toList.take (k*sz)++vs.flatMap fun v=>v.cells.toList).toArray
 | [],k,cells,_,h=>by
  simp only [List.length_nil,Nat.add_zero] at h
  have h9:cells.toList.take (k*sz)=cells.toList:=List.take_of_length_le (by simp [h])
  simp [numb,Instr.fill,h9]
 | v::vs,k,cells,h1,h=>by
  have hv:=h1 v (by simp)
  simp only [List.length_cons] at h
  have h2:k*sz+sz≤cells.size:=by rw [h,Nat.add_mul,Nat.add_mul];omega
  simp only [numb,Instr.fill,hv]
  rw [if_neg (by simp;omega)]
  have e1:(v.cells.zipIdx.foldl (fun cs (p:Value×Nat)=>cs.setIfInBounds (k*sz+p.2) p.1) cells).toList=splice cells.toList (k*sz) v.cells.toList:=by
   have:=X83 (k*sz) v.cells.toList 0 cells (by simp [hv];omega)
   rw [← Array.foldl_toList,Array.toList_zipIdx]
   simpa using this
  have hs:(v.cells.zipIdx.foldl (fun cs (p:Value×Nat)=>cs.setIfInBounds (k*sz+p.2) p.1) cells).size=cells.size:=by
   rw [← Array.length_toList,e1]
   simp [splice,hv]
   omega
  have ih:=X7z sz vs (k+1) (v.cells.zipIdx.foldl (fun cs (p:Value×Nat)=>cs.setIfInBounds (k*sz+p.2) p.1) cells) (fun u hu=>h1 u (by simp [hu])) (by rw [hs,h];congr 1;omega)
  refine Eq.trans ih ?_
  rw [e1]
  congr 2
  simp only [List.flatMap_cons]
  rw [← List.append_assoc]
  congr 1
  unfold splice
  have e2:(cells.toList.take (k*sz)++v.cells.toList).length=(k+1)*sz:=by simp [hv,Nat.add_mul];omega
  rw [← e2,List.take_left]
theorem X7d{T E sz bytes:Nat}{k:Nat}{parts:List (Nat×Operand)}{vs zs:List Value}(hf:Fr a n e)(hp:evp e parts=some (numb 0 vs))(hT:SliceT P T E)(hi:InfoT P E sz bytes)(hv:(vs.all (fun v=>Nat.beq v.cells.size sz)&&Nat.beq vs.length k&&Nat.ble (k*sz) 1000)=true)(hz:vs.flatMap (fun v=>v.cells.toList)=zs) :
  Ef P ⟨d,.buildSlice T k parts.toArray,ty,pos,af,g⟩ a w (fun v w'=>∃ b,v=.slice (some ⟨b,0,none⟩) k k∧w.heap.size≤b∧Below w.heap.size w w'∧Blk w' b E zs):=by
 subst hz
 obtain ⟨i,z,hi1,hi2,hi3,hi4,hi5,hi6⟩:=hi
 simp only [Bool.and_eq_true,List.all_eq_true] at hv
 obtain ⟨⟨hv1,hv2⟩,hv3⟩:=hv
 have hk:vs.length=k:=Nat.eq_of_beq_eq_true hv2
 have hk3:k*sz≤1000:=Nat.le_of_ble_eq_true hv3
 have h1:=hf.evp hp
 have hfill:=X7z sz vs 0 ((Array.range (k*sz)).map fun j=>z.cells[j % z.cells.size]!) (fun v hv=>Nat.eq_of_beq_eq_true (hv1 v hv)) (by simp [hk])
 simp only [Nat.zero_mul,List.take_zero,List.nil_append] at hfill
 refine (Ef.of_run (v:=.slice (some ⟨w.heap.size,0,none⟩) k k) (w':=w.alloc (.cells (vs.flatMap fun v=>v.cells.toList).toArray E)) ?_).mono fun v w' ⟨e1,e2⟩=>?_
 ·simp only [execOp,List.map_toArray]
  rw [show (List.map (fun x:Nat×Operand=>match x with|(i,x)=>(i,a.eval x)) parts)=numb 0 vs from h1]
  have h24:¬ (16777216<k*sz):=by omega
  by_cases h0:k*sz=0
  ·have hf0:Instr.fill (fun i=>some (i*sz,sz)) #[] (numb 0 vs)=some (vs.flatMap fun v=>v.cells.toList).toArray:=by
    rw [← hfill,h0]
    congr 1
    simp [Array.range_zero']
   simp [Instr.buildSlice,X0l hT,sizeOf,typeInfo,hi1,hi3,h0,newRow,newObj,Sem.run,Array.range_zero',hf0]
  ·simp [Instr.buildSlice,X0l hT,sizeOf,typeInfo,hi1,hi3,h24,h0,zeroValue,hi2,newRow,newObj,Sem.run,hfill]
 ·subst e1;subst e2
  exact ⟨_,rfl,Nat.le_refl _,(Below.refl _ _).alloc (Nat.le_refl _) _,X5p w E _⟩
theorem Xd{T E sz bytes:Nat}{k:Nat}{parts:List (Nat×Operand)}{vs zs:List Value}(hp:evp e parts=some (numb 0 vs))(hT:SliceT P T E)(hi:InfoT P E sz bytes)(hv:(vs.all (fun v=>Nat.beq v.cells.size sz)&&Nat.beq vs.length k&&Nat.ble (k*sz) 1000)=true)(hz:vs.flatMap (fun v=>v.cells.toList)=zs) : EfW P ⟨d,.buildSlice T k parts.toArray,ty,pos,af,g⟩ n e w (fun v w'=>∃ b,v=.slice (some ⟨b,0,none⟩) k k∧w.heap.size≤b∧Below w.heap.size w w'∧Blk w' b E zs):=fun a hf=>X7d hf hp hT hi hv hz
theorem Xkk{x y:Operand}{i j:Int}{ts:Array TypeId}(hf:Fr a n e)(hx:ev e x=some (.int .i64 i))(hy:ev e y=some (.int .i64 j)) : Ev P ⟨d,.call ⟨.builtin .max,#[x,y],ts⟩,ty,pos,af,g⟩ a w (.int .i64 (max i j)):=fun w' _=>by
 simp [execOp,resolve,invoke,builtin,Builtin.max_,Builtin.max2,hf.ev hx,hf.ev hy,Int.max_def]
 split<;>simp<;>omega
theorem Xfe{x y:Operand}{i j:Int}{ts:Array TypeId}(hx:ev e x=some (.int .i64 i))(hy:ev e y=some (.int .i64 j)) : EvW P ⟨d,.call ⟨.builtin .max,#[x,y],ts⟩,ty,pos,af,g⟩ n e w (.int .i64 (max i j)):=fun a hf=>Xkk hf hx hy
end
theorem X1{t:Nat}{e:Env}{b b':Bool}(h:look t e=some (.bool b))(hb:b=b') : look t e=some (.bool b'):=hb▸h
theorem Xx{α:Type}{l:List α}{k:Nat}(h:k<l.length) : ∃ u,l[k]? = some u:=⟨l[k],List.getElem?_eq_getElem h⟩
section
variable {α : Type} {ops : Array Oper} {rest : List Oper} {ty : TypeId} {pos : String} {af : Array Edge} {g : Option (Nat × Bool)} {d : Nat}
theorem Rd.top{B:Nat}{E:TypeId}{enc:α→List Value}{A:Option Addr}{l:List α}(h:Rd w B E enc A l) : Rd w w.heap.size E enc A l:=fun hl=>by
 obtain ⟨b,off,cs,fz,h1,h2,h3,h4⟩:=h hl
 exact ⟨b,off,cs,fz,h1,(Array.getElem?_eq_some_iff.1 h3).1,h3,h4⟩
theorem Xhj{T E E2:TypeId}{sz B:Nat}{x y:Operand}{enc:α→List Value}{A:Option Addr}{c:Nat}{l:List α}{k:Nat}{i:Int}{u:α}(hf:Fr a n e)(hw:Want ops ⟨some d,.indexAddr T x y,ty,pos,af,g⟩ e)(hn:Nat.blt d n=true)
  (hx:ev e x=some (.slice A l.length c)) (hy:ev e y=some (.int .i64 i)) (hT:SliceT P T E) (hs:SizeT P E sz) (hsz:∀ x,(enc x).length=sz) (hr:Rd w B E2 enc A l) (hk:l[k]? = some u) (hi:i=(k:Int))
  (h:∀ a' p,At w p (enc u)→Fr a' n ((d,.pointer (some p))::e)→wpList P ops Q rest a' w) : wpList P ops Q (⟨some d,.indexAddr T x y,ty,pos,af,g⟩::rest) a w:=by
 obtain ⟨p,rfl,hat⟩:=hr.at hsz hk
 exact Xmu hf hw rfl hn (X4r hf hx hy hT hs hi (List.getElem?_eq_some_iff.1 hk).1) fun a' hf'=>h a' _ hat hf'
theorem Xie{Q:Act→World→Prop}{tl:Nat→Bool}{fuel:Nat}{done:List Nat}{T E E2:TypeId}{sz B:Nat}{x y:Operand}{enc:α→List Value}{A:Option Addr}{c:Nat}{l:List α}{k:Nat}{i:Int}{u:α}(j:Nat)
  (ho:ops[j]? = some ⟨some d,.indexAddr T x y,ty,pos,af,g⟩) (hm:mayFirst ops done j=true) (ht:tailWaits ops tl j=true) (hf:Fr a n e) (hw:Want ops ⟨some d,.indexAddr T x y,ty,pos,af,g⟩ e) (hn:Nat.blt d n=true)
  (hx:ev e x=some (.slice A l.length c)) (hy:ev e y=some (.int .i64 i)) (hT:SliceT P T E) (hs:SizeT P E sz) (hsz:∀ x,(enc x).length=sz) (hr:Rd w B E2 enc A l) (hk:l[k]? = some u) (hi:i=(k:Int))
  (h:∀ a' p,At w p (enc u)→Fr a' n ((d,.pointer (some p))::e)→wpS P ops none tl Q fuel (mask ops (j::done)) a' w) : wpS P ops none tl Q (fuel+1) (mask ops done) a w:=by
 obtain ⟨p,rfl,hat⟩:=hr.at hsz hk
 exact Xns j ho hm ht hf hw rfl hn (X4r hf hx hy hT hs hi (List.getElem?_eq_some_iff.1 hk).1) fun a' hf'=>h a' _ hat hf'
end
theorem X7{K:Act→World→Prop}(h:Q .ret a w) : Exit.then K Q .ret a w:=h
theorem X05{id:Nat}(h:Q .ret a w) : Exit.inBlock id Q .ret a w:=by simp [Exit.inBlock,h]
theorem Xr{id:Nat}(h:Q .normal a w) : Exit.inBlock id Q .normal a w:=by simp [Exit.inBlock,h]
theorem Xu{K:Act→World→Prop}{id:Nat}(h:Q (.exit id) a w) : Exit.then K Q (.exit id) a w:=h
theorem Xz{K:Act→World→Prop}(h:K a w) : Exit.then K Q .normal a w:=h
theorem X0f{id:Nat}(h:Q .normal a w) : Exit.inBlock id Q (.exit id) a w:=by simp [Exit.inBlock,h]
def ResV(P:Program)(w:World)(e:Env) : ResultVar→Value→Prop
 | .tmp t,v=>look t e=some v
 | .cell t T,v=>∃ p,look t e=some (.pointer (some p))∧((OneT P T∧∃ l,At w p (v::l))∨∃ k l,AggT P T k∧At w p l∧l.length=k∧v=.agg l.toArray)
theorem ResV.cellN{t T k:Nat}{p:Addr}{l:List Value}(h:look t e=some (.pointer (some p)))(hA:AggT P T k)(hc:At w p l)(hl:l.length=k) : ResV P w e (.cell t T) (.agg l.toArray):=⟨p,h,.inr ⟨k,l,hA,hc,hl,rfl⟩⟩
theorem X4h(fn:Func)(tmps:Array Value) : ∃ f:ResultVar→Sem Value,(∀ t,f (.tmp t)=pure (tmps.getD t undef))∧(∀ t T,f (.cell t T)=(do loadVar T (← asAddr (tmps.getD t undef))))∧
  results fn tmps=(do let vs ← fn.results.mapM f;pure (if h:vs.size=1 then vs[0] else .tuple vs)):=⟨_,fun _=>rfl,fun _ _=>rfl,rfl⟩
theorem ResV.run{r:ResultVar}{v:Value}{f:ResultVar→Sem Value}(hf:Fr a n e)(h:ResV P w e r v)(f1:∀ t,f (.tmp t)=pure (a.tmps.getD t undef))(f2:∀ t T,f (.cell t T)=(do loadVar T (← asAddr (a.tmps.getD t undef)))) : (f r).run P w=.ok v w:=by
 cases r with
 | tmp t=>
  have:=hf.h _ _ h
  simp [f1,this]
 | cell t T=>
  obtain ⟨p,h1,h2⟩:=h
  have h3:=hf.h _ _ h1
  rcases h2 with ⟨h4,l,h5⟩|⟨k,l,h4,h5,h6,rfl⟩
  ·simp [f2,h3,asAddr,X3f h4 h5]
  ·simp [f2,h3,asAddr,X3d h4 h5 h6]
section
variable {fn : Func} {R : Ending → World → Prop}
theorem Xj{r:ResultVar}{v:Value}(hf:Fr a n e)(hr:fn.results = #[r])(h:ResV P w e r v) : (results fn a.tmps).run P w=.ok v w:=by
 obtain ⟨f,f1,f2,h0⟩:=X4h fn a.tmps
 have h1:=h.run hf f1 f2
 rw [h0,hr]
 simp [h1]
theorem X12{r1 r2:ResultVar}{v1 v2:Value}(hf:Fr a n e)(hr:fn.results = #[r1,r2])(h1:ResV P w e r1 v1)(h2:ResV P w e r2 v2) : (results fn a.tmps).run P w=.ok (.tuple #[v1,v2]) w:=by
 obtain ⟨f,f1,f2,h0⟩:=X4h fn a.tmps
 have h1:=h1.run hf f1 f2
 have h2:=h2.run hf f1 f2
 rw [h0,hr]
 simp [h1,h2]
theorem Xke{r1 r2 r3:ResultVar}{v1 v2 v3:Value}(hf:Fr a n e)(hr:fn.results = #[r1,r2,r3])(h1:ResV P w e r1 v1)(h2:ResV P w e r2 v2)(h3:ResV P w e r3 v3) : (results fn a.tmps).run P w=.ok (.tuple #[v1,v2,v3]) w:=by
 obtain ⟨f,f1,f2,h0⟩:=X4h fn a.tmps
 have h1:=h1.run hf f1 f2
 have h2:=h2.run hf f1 f2
 have h3:=h3.run hf f1 f2
 rw [h0,hr]
 simp [h1,h2,h3]
theorem X2{v:Value}{R':Value→World→Prop}(hf:Fr a n e)(hr:(results fn a.tmps).run P w=.ok v w)(h:R' v w) : bodyPost P fn (fun e w'=>∃ v,e=.returned v∧R' v w') .ret a w:=⟨hf.d,v,hr,v,rfl,h⟩
end
theorem enter{f:FuncId}{fn:Func}{c:Code}{args:List Value}{R:Value→World→Prop}(hf:P.funcs[f]? = some fn)(hb:fn.body=some c)(n:Nat)(hn:fn.ntmps=n)(hl:Nat.ble args.length n=true)
  (h:∀ a,Fr a n (zipFrom 0 args)→c.wp P (bodyPost P fn (fun e w'=>∃ v,e=.returned v∧R v w')) a w) : Ret P f args w R:=Xf1 hf hb n hn hl h
end
section
variable {P : Program} {ops : Array Oper} {Q : Exit → Act → World → Prop} {w : World} {rest : List Oper} {o : Oper} {op : Op} {ty : TypeId} {pos : String} {af : Array Edge} {g : Option (Nat × Bool)} {n d : Nat} {e : Env} {v : Value} {R : Value → World → Prop} {x : Operand}
def WL(P:Program)(ops:Array Oper)(Q:Exit→Act→World→Prop)(l:List Oper)(n:Nat)(e:Env)(w:World) : Prop:=∀ a,Fr a n e→wpList P ops Q l a w
theorem bs:(∀ b,(true&&b)=b)∧(∀ b,(false&&b)=false)∧(∀ b,(true||b)=true)∧∀ b,(false||b)=b:=⟨fun _=>rfl,fun _=>rfl,fun _=>rfl,fun _=>rfl⟩
theorem Vc{f:FuncId}{xs:List Operand}{vs:List Value}{ts:Array TypeId}{D:Option Tmp}(h:Ret P f vs w R)(hF:FuncF P f)(hx:evs e xs=some vs:=by rfl) : EfW P ⟨D,.call ⟨.value (.func f),xs.toArray,ts⟩,ty,pos,af,g⟩ n e w R:=Xnt hx hF h
theorem Vn{T t k b:Nat}{l:List Value}{D:Option Tmp}(hA:AggT P t k)(hb:Blk w b T l)(hx:ev e x=some (.pointer (some ⟨b,0,none⟩)):=by rfl)(hl:l.length=k:=by rfl) : EvW P ⟨D,.load t x,ty,pos,af,g⟩ n e w (.agg l.toArray):=X0i hx hA (hb.at 0) hl
theorem Vd{T f k b off:Nat}{D:Option Tmp}(hx:ev e x=some (.pointer (some ⟨b,off,none⟩)))(hF:FieldT P T f k)(m:Nat)(hk:off+k=m:=by rfl) : EvW P ⟨D,.fieldAddr T x f,ty,pos,af,g⟩ n e w (.pointer (some ⟨b,m,none⟩)):=Xhv hx hF hk
theorem Vu{t T:TypeId}{y:Operand}{b off k:Nat}{l l' vs:List Value}{D:Option Tmp}(hx:ev e x=some (.pointer (some ⟨b,off,none⟩)))(hy:ev e y=some v)(hs:SizeT P t k)(hb:Blk w b T l)(hvs:v.cells.toList=vs:=by rfl)(hk:Nat.beq vs.length k=true:=by rfl)(h1:vs.all one=true:=by rfl)(hl:Nat.ble (off+k) l.length=true:=by rfl)(hl':splice l off vs=l':=by rfl) : EfW P ⟨D,.store t x y,ty,pos,af,g⟩ n e w (Stored w b T l'):=X3t hx hy hs hb hvs hk h1 hl hl'
theorem Vw{t T:TypeId}{y:Operand}{b k:Nat}{l:List Value}{D:Option Tmp}(vs:List Value)(hs:SizeT P t k)(hb:Blk w b T l)(hx:ev e x=some (.pointer (some ⟨b,0,none⟩)):=by rfl)(hy:ev e y=some v:=by rfl)(hvs:v.cells.toList=vs:=by rfl)(hk:Nat.beq vs.length k=true:=by rfl)(h1:vs.all one=true:=by rfl)(hl:Nat.ble (0+k) l.length=true:=by rfl)(hl':splice l 0 vs=vs:=by rfl) : EfW P ⟨D,.store t x y,ty,pos,af,g⟩ n e w (Stored w b T vs):=X3t hx hy hs hb hvs hk h1 hl hl'
theorem Ze(hr:EvW P ⟨some d,op,ty,pos,af,none⟩ n e w v)(h:WL P ops Q rest n ((d,v)::e) w)(hn:Nat.blt d n=true:=by rfl) : WL P ops Q (⟨some d,op,ty,pos,af,none⟩::rest) n e w:=fun a hf=>l_e hf hn (hr a hf) h
theorem Zm(hx:ev e x=some v)(h:WL P ops Q rest n ((d,v)::e) w)(hn:Nat.blt d n=true:=by rfl) : WL P ops Q (⟨some d,.move x,ty,pos,af,none⟩::rest) n e w:=fun _ hf=>Xow hf hx hn h
theorem Za(hx:ev e x=some v)(h:WL P ops Q rest n ((d,v)::e) w)(hn:Nat.blt d n=true:=by rfl) : WL P ops Q (⟨some d,.assign x,ty,pos,af,none⟩::rest) n e w:=fun _ hf=>Xpw hf hx hn h
theorem Zf(hr:EfW P ⟨some d,op,ty,pos,af,none⟩ n e w R)(h:∀ v w',R v w'→WL P ops Q rest n ((d,v)::e) w')(hn:Nat.blt d n=true:=by rfl) : WL P ops Q (⟨some d,op,ty,pos,af,none⟩::rest) n e w:=fun a hf=>l_f hf hn (hr a hf) fun a' v w' hR hf'=>h v w' hR a' hf'
theorem Zo(hr:EfW P ⟨none,op,ty,pos,af,none⟩ n e w R)(h:∀ v w',R v w'→WL P ops Q rest n e w') : WL P ops Q (⟨none,op,ty,pos,af,none⟩::rest) n e w:=fun a hf=>Xp1 hf (hr a hf) fun a' v w' hR hf'=>h v w' hR a' hf'
theorem Zv(hw:Want ops o e)(hr:EvW P o n e w v)(h:WL P ops Q rest n ((d,v)::e) w)(hd:o.dst=some d:=by rfl)(hn:Nat.blt d n=true:=by rfl) : WL P ops Q (o::rest) n e w:=fun a hf=>Xmu hf hw hd hn (hr a hf) h
theorem Zp(hw:Pass ops o e)(h:WL P ops Q rest n ((d,undef)::e) w)(hd:o.dst=some d:=by rfl)(hn:Nat.blt d n=true:=by rfl) : WL P ops Q (o::rest) n e w:=fun _ hf=>Xkx hf hw hd hn h
theorem Zk(hw:Want ops o e)(hr:EfW P o n e w R)(h:∀ v w',R v w'→WL P ops Q rest n ((d,v)::e) w')(hd:o.dst=some d:=by rfl)(hn:Nat.blt d n=true:=by rfl) : WL P ops Q (o::rest) n e w:=fun a hf=>Xf2 hf hw hd hn (hr a hf) fun a' v w' hR hf'=>h v w' hR a' hf'
theorem Zg(t:Nat){b:Bool}(_:look t e=some (.bool b))(h1:b=true→WL P ops Q rest n e w)(h2:b=false→WL P ops Q rest n e w) : WL P ops Q rest n e w:=by
 cases b
 ·exact h2 rfl
 ·exact h1 rfl
theorem Zn(h:∀ a,Fr a n e→Q .normal a w) : WL P ops Q [] n e w:=h
theorem Zr{a:Act}{id:Nat}{l:List Oper}(hf:Fr a n e)(h:WL P l.toArray Q l n e w) : (Code.region id l.toArray false).wp P Q a w:=wp_region_lit (h a hf)
theorem Zs{a:Act}{id:Nat}{l:List Oper}{c:Code}(hf:Fr a n e)(h:∀ K:Act→World→Prop,(∀ a w,c.wp P Q a w→K a w)→WL P l.toArray (Exit.then K Q) l n e w) : (Code.seq (Code.region id l.toArray false) c).wp P Q a w:=
 wp_seq_k fun K hK=>wp_region_lit (h K hK a hf)
theorem Zt{c:Code}{K:Act→World→Prop}(hK:∀ a w,c.wp P Q a w→K a w)(h:∀ a,Fr a n e→c.wp P Q a w) : WL P ops (Exit.then K Q) [] n e w:=fun a hf=>hK a w (h a hf)
theorem Zi{α:Type}{T E E2:TypeId}{sz B k:Nat}{y:Operand}{enc:α→List Value}{A:Option Addr}{c:Nat}{l:List α}{i:Int}{u:α}(hw:Want ops ⟨some d,.indexAddr T x y,ty,pos,af,g⟩ e)(hx:ev e x=some (.slice A l.length c))(hy:ev e y=some (.int .i64 i))(hT:SliceT P T E)(hs:SizeT P E sz)(hsz:∀ x,(enc x).length=sz)(hr:Rd w B E2 enc A l)(hk:l[k]? = some u)(hi:i=(k:Int))
  (h:∀ p,At w p (enc u)→WL P ops Q rest n ((d,.pointer (some p))::e) w) (hn:Nat.blt d n=true:=by rfl) : WL P ops Q (⟨some d,.indexAddr T x y,ty,pos,af,g⟩::rest) n e w:=fun _ hf=>Xhj hf hw hn hx hy hT hs hsz hr hk hi fun a' p hp hf'=>h p hp a' hf'
end
section
variable {P : Program} {ops : Array Oper} {V : Option Nat} {tl : Nat → Bool} {Q : Act → World → Prop} {fuel : Nat} {done : List Nat} {w : World} {o : Oper} {op : Op} {ty : TypeId} {pos : String} {af : Array Edge} {g : Option (Nat × Bool)} {n d : Nat} {e : Env} {v : Value} {R : Value → World → Prop} {x : Operand}
def WS(P:Program)(ops:Array Oper)(V:Option Nat)(tl:Nat→Bool)(Q:Act→World→Prop)(m:Nat)(L:List Nat)(n:Nat)(e:Env)(w:World) : Prop:=∀ a,Fr a n e→wpS P ops V tl Q m (mask ops L) a w
def WR(P:Program)(ops:Array Oper)(V:Option Nat)(tl:Nat→Bool)(Q:Act→World→Prop)(i m:Nat)(L:List Nat)(n:Nat)(e:Env)(w:World) : Prop:=∀ a,Fr a n e→wpR P ops V tl i (wpS P ops V tl Q m (mask ops (i::L))) a w
theorem Yb{a:Act}{m:Nat}{L:List Nat}(hf:Fr a n e)(h:WS P ops V tl Q m L n e w) : wpS P ops V tl Q m (mask ops L) a w:=h a hf
theorem Ye(i:Nat)(hi:ops[i]? = some ⟨some d,op,ty,pos,af,none⟩)(hr:EvW P ⟨some d,op,ty,pos,af,none⟩ n e w v)(h:WS P ops none tl Q fuel (i::done) n ((d,v)::e) w)(hm:mayFirst ops done i=true:=by kernel_rfl)(ht:tailWaits ops tl i=true:=by kernel_rfl)(hn:Nat.blt d n=true:=by rfl) : WS P ops none tl Q (fuel+1) done n e w:=fun a hf=>s_e i hi hm ht hf hn (hr a hf) h
theorem Yo(i:Nat)(hi:ops[i]? = some ⟨some d,op,ty,pos,af,none⟩)(hr:∀ w,EvW P ⟨some d,op,ty,pos,af,none⟩ n e w v)(h:WS P ops V tl Q fuel (i::done) n ((d,v)::e) w)(hm:mayFirst ops done i=true:=by kernel_rfl)(hn:Nat.blt d n=true:=by rfl) : WS P ops V tl Q (fuel+1) done n e w:=fun a hf=>Xop i hi hm hf hn (fun w=>hr w a hf) h
theorem Yw(i:Nat){b:Nat}(hi:ops[i]? = some o)(hw:Want ops o e)(hr:∀ w1,Only b w w1→EvW P o n e w1 v)(h:WS P ops (some b) tl Q fuel (i::done) n ((d,v)::e) w)(hm:mayFirst ops done i=true:=by kernel_rfl)(ht:tailWaits ops tl i=true:=by kernel_rfl)(hd:o.dst=some d:=by rfl)(hn:Nat.blt d n=true:=by rfl) : WS P ops (some b) tl Q (fuel+1) done n e w:=fun a hf=>Xoc i hi hm ht hf hw hd hn (fun w1 h1=>hr w1 h1 a hf) h
theorem Y1(i:Nat)(h:WR P ops V tl Q i fuel done n e w)(hr:Region.ready .any ops (mask ops done)=[i]:=by kernel_rfl) : WS P ops V tl Q (fuel+1) done n e w:=fun a hf=>Xnf i hr (h a hf)
theorem Y2(i j:Nat)(hi:WR P ops V tl Q i fuel done n e w)(hj:WR P ops V tl Q j fuel done n e w)(hr:Region.ready .any ops (mask ops done)=[i,j]:=by kernel_rfl) : WS P ops V tl Q (fuel+1) done n e w:=fun a hf=>Xo9 i j hr (hi a hf) (hj a hf)
theorem Y3(i j k:Nat)(hi:WR P ops V tl Q i fuel done n e w)(hj:WR P ops V tl Q j fuel done n e w)(hk:WR P ops V tl Q k fuel done n e w)(hr:Region.ready .any ops (mask ops done)=[i,j,k]:=by kernel_rfl) : WS P ops V tl Q (fuel+1) done n e w:=fun a hf=>Xj0 i j k hr (hi a hf) (hj a hf) (hk a hf)
theorem Yd(h:∀ a,Fr a n e→Q a w)(hr:Region.ready .any ops (mask ops done)=[]:=by kernel_rfl) : WS P ops V tl Q fuel done n e w:=fun a hf=>Xmg hr (h a hf)
theorem Yf{i:Nat}(hi:ops[i]? = some o)(hw:Want ops o e)(hr:EfW P o n e w fun v w'=>(tl i=false→Keep V w w')∧R v w')(h:∀ v w',R v w'→WS P ops V tl Q fuel (i::done) n ((d,v)::e) w')(hd:o.dst=some d:=by rfl)(hn:Nat.blt d n=true:=by rfl) : WR P ops V tl Q i fuel done n e w:=fun a hf=>Xnq hi hf hw hd hn (hr a hf) fun a' v w' hR hf'=>h v w' hR a' hf'
theorem Yg{i:Nat}(hi:ops[i]? = some o)(hw:Want ops o e)(hr:EfW P o n e w fun v w'=>(tl i=false→Keep V w w')∧R v w')(h:∀ v w',R v w'→WS P ops V tl Q fuel (i::done) n e w')(hd:o.dst=none:=by rfl) : WR P ops V tl Q i fuel done n e w:=fun a hf=>Xlf hi hf hw hd (hr a hf) fun a' v w' hR hf'=>h v w' hR a' hf'
theorem EfW.mono{R':Value→World→Prop}(h:EfW P o n e w R)(hr:∀ v w',R v w'→R' v w') : EfW P o n e w R':=fun a hf=>(h a hf).mono hr
theorem Yt{i:Nat}(hi:ops[i]? = some o)(hw:Want ops o e)(ht:tl i=true)(hr:EfW P o n e w R)(h:∀ v w',R v w'→WS P ops V tl Q fuel (i::done) n ((d,v)::e) w')(hd:o.dst=some d:=by rfl)(hn:Nat.blt d n=true:=by rfl) : WR P ops V tl Q i fuel done n e w:=Yf hi hw (hr.mono fun _ _ h=>⟨fun h0=>absurd h0 (by rw [ht];decide),h⟩) h hd hn
theorem Yh{i:Nat}(hi:ops[i]? = some o)(hw:Want ops o e)(ht:tl i=true)(hr:EfW P o n e w R)(h:∀ v w',R v w'→WS P ops V tl Q fuel (i::done) n e w')(hd:o.dst=none:=by rfl) : WR P ops V tl Q i fuel done n e w:=Yg hi hw (hr.mono fun _ _ h=>⟨fun h0=>absurd h0 (by rw [ht];decide),h⟩) h hd
theorem Yk{i:Nat}(hi:ops[i]? = some o)(hw:Want ops o e)(hr:EfW P o n e w R)(hk:∀ v w',R v w'→Below w.heap.size w w')(h:∀ v w',R v w'→WS P ops none tl Q fuel (i::done) n ((d,v)::e) w')(hd:o.dst=some d:=by rfl)(hn:Nat.blt d n=true:=by rfl) : WR P ops none tl Q i fuel done n e w:=Yf hi hw (hr.mono fun _ _ h=>⟨fun _=>hk _ _ h,h⟩) h hd hn
theorem Yz{i:Nat}{u:Value}(hi:ops[i]? = some o)(hw:Want ops o e)(hr:EfW P o n e w (fun v w'=>v=u∧w=w'))(h:WS P ops V tl Q fuel (i::done) n ((d,u)::e) w)(hd:o.dst=some d:=by rfl)(hn:Nat.blt d n=true:=by rfl) : WR P ops V tl Q i fuel done n e w:=Yf hi hw (hr.mono fun _ _ h=>⟨fun _=>by rw [← h.2];exact Keep.refl _ _,h⟩) (by rintro _ _ ⟨rfl,rfl⟩;exact h) hd hn
theorem Yc(D:List Nat)(m:Nat)(X:Act→World→Prop)(h1:∀ a w,X a w→wpS P ops V tl Q m (mask ops D) a w)
  (h2:(∀ L a w,sameL L D=true→X a w→wpS P ops V tl Q m (mask ops L) a w)→WS P ops V tl Q fuel done n e w) : WS P ops V tl Q fuel done n e w:=
 h2 fun L a w h hx=>by rw [Xe2 h];exact h1 a w hx
theorem Yi{α:Type}{T E E2:TypeId}{sz B k:Nat}{y:Operand}{enc:α→List Value}{A:Option Addr}{c:Nat}{l:List α}{i:Int}{u:α}(j:Nat)(ho:ops[j]? = some ⟨some d,.indexAddr T x y,ty,pos,af,g⟩)(hw:Want ops ⟨some d,.indexAddr T x y,ty,pos,af,g⟩ e)(hx:ev e x=some (.slice A l.length c))(hy:ev e y=some (.int .i64 i))(hT:SliceT P T E)(hs:SizeT P E sz)(hsz:∀ x,(enc x).length=sz)(hr:Rd w B E2 enc A l)(hk:l[k]? = some u)(hi:i=(k:Int))
  (h:∀ p,At w p (enc u)→WS P ops none tl Q fuel (j::done) n ((d,.pointer (some p))::e) w) (hm:mayFirst ops done j=true:=by kernel_rfl) (ht:tailWaits ops tl j=true:=by kernel_rfl) (hn:Nat.blt d n=true:=by rfl) : WS P ops none tl Q (fuel+1) done n e w:=fun _ hf=>Xie j ho hm ht hf hw hn hx hy hT hs hsz hr hk hi fun a' p hp hf'=>h p hp a' hf'
end
end Go.Proofs.YtlfjcmldfbfdbaaGreat
namespace Go.Proofs.YtlfjcmldfbfdbaaGreat
theorem X0q{P:Program}{t n:Nat}(h:(P.info? t).map (fun i=>i.size)=some n) : ∃ i,P.info? t=some i∧i.size=n:=by
 cases hi:P.info? t with
 | none=>rw [hi] at h;cases h
 | some i=>rw [hi] at h;injection h with h;exact ⟨i,rfl,h⟩
theorem X2d{P:Program}{t:Nat}{z:Option Value}(h:(P.info? t).map (fun i=>i.zero)=some z) : ∃ i,P.info? t=some i∧i.zero=z:=by
 cases hi:P.info? t with
 | none=>rw [hi] at h;cases h
 | some i=>rw [hi] at h;injection h with h;exact ⟨i,rfl,h⟩
theorem X3k{P:Program}{t sz bytes:Nat}{z:Value}(h:(P.info? t).map (fun i=>(i.size,i.bytes,i.zero))=some (sz,bytes,some z))(hz:z.cells.size=sz)(h0:0<sz) : InfoT P t sz bytes:=by
 cases hi:P.info? t with
 | none=>rw [hi] at h;cases h
 | some i=>
  rw [hi] at h
  simp only [Option.map_some,Option.some.injEq,Prod.mk.injEq] at h
  exact ⟨i,z,hi,h.2.2,h.1,h.2.1,hz,h0⟩
theorem X0y{P:Program}{T f k:Nat}{fs:Array Field}{F:Field}(h:P.underlying T=some (.struct fs))(h1:fs[f]? = some F)(h2:F.offset=k){n:Nat}(h3:(P.info? F.type).map (fun i=>i.size)=some n)(h4:(n==0)=false) : FieldT P T f k:=by
 obtain ⟨i,hi,rfl⟩:=X0q h3
 exact ⟨fs,F,i,h,h1,h2,hi,h4⟩
theorem X4 {P : Program} {f : FuncId} {fn : Func} (h : P.funcs[f]? = some fn) (h1 : (fn.name == "runtime.NumGoroutine") = false) (h2 : fn.body.isNone = false) : FuncF P f := ⟨fn, h, h1, h2⟩
theorem X3:OneT Tryz.prog 3:=⟨_,Tryz.underlying3,trivial⟩
theorem Xp0:OneT Tryz.prog 4:=⟨_,Tryz.underlying4,trivial⟩
theorem Xq7:OneT Tryz.prog 5:=⟨_,Tryz.underlying5,trivial⟩
theorem X2t:OneT Tryz.prog 29:=⟨_,Tryz.underlying29,trivial⟩
theorem Xjz:OneT Tryz.prog 66:=⟨_,Tryz.underlying66,trivial⟩
theorem X22:OneT Tryz.prog 36:=⟨_,Tryz.underlying36,trivial⟩
theorem X98:OneT Tryz.prog 78:=⟨_,Tryz.underlying78,trivial⟩
theorem X6f:OneT Tryz.prog 22:=⟨_,Tryz.underlying22,trivial⟩
theorem X1k:AggT Tryz.prog 31 2:=⟨⟨_,Tryz.underlying31,trivial⟩,X0q (by kernel_rfl)⟩
theorem Xo:AggT Tryz.prog 24 3:=⟨⟨_,Tryz.underlying24,trivial⟩,X0q (by kernel_rfl)⟩
theorem X0k:AggT Tryz.prog 38 3:=⟨⟨_,Tryz.underlying38,trivial⟩,X0q (by kernel_rfl)⟩
theorem X01:AggT Tryz.prog 96 4:=⟨⟨_,Tryz.underlying96,trivial⟩,X0q (by kernel_rfl)⟩
theorem X9:AggT Tryz.prog 98 5:=⟨⟨_,Tryz.underlying98,trivial⟩,X0q (by kernel_rfl)⟩
theorem X1a:SizeT Tryz.prog 3 1:=X0q (by kernel_rfl)
theorem Xny:SizeT Tryz.prog 4 1:=X0q (by kernel_rfl)
theorem Xpq:SizeT Tryz.prog 5 1:=X0q (by kernel_rfl)
theorem Xjp:SizeT Tryz.prog 29 1:=X0q (by kernel_rfl)
theorem Xjh:SizeT Tryz.prog 66 1:=X0q (by kernel_rfl)
theorem X3g:SizeT Tryz.prog 31 2:=X0q (by kernel_rfl)
theorem X0o:SizeT Tryz.prog 24 3:=X0q (by kernel_rfl)
theorem Xb4:SizeT Tryz.prog 36 1:=X0q (by kernel_rfl)
theorem X0u:SizeT Tryz.prog 38 3:=X0q (by kernel_rfl)
theorem X0s:SizeT Tryz.prog 96 4:=X0q (by kernel_rfl)
theorem Xk:SizeT Tryz.prog 98 5:=X0q (by kernel_rfl)
theorem Xfy:SizeT Tryz.prog 78 1:=X0q (by kernel_rfl)
theorem Xcc:SizeT Tryz.prog 89 5:=X0q (by kernel_rfl)
theorem z_3:ZeroT Tryz.prog 3 (.int .i64 0):=X2d (by kernel_rfl)
theorem X92:ZeroT Tryz.prog 31 (.agg #[.int .i64 0,.slice none 0 0]):=X2d (by kernel_rfl)
theorem X2h:ZeroT Tryz.prog 24 (.agg #[.int .i64 0,.int .i64 0,.int .i64 0]):=X2d (by kernel_rfl)
theorem X0p:ZeroT Tryz.prog 38 (.agg #[.int .i64 0,.int .i64 0,.slice none 0 0]):=X2d (by kernel_rfl)
theorem X1t:ZeroT Tryz.prog 96 (.agg #[.int .i64 0,.int .i64 0,.int .i64 0,.int .i64 0]):=X2d (by kernel_rfl)
theorem X17:ZeroT Tryz.prog 98 (.agg #[.int .i64 0,.int .i64 0,.int .i64 0,.int .i64 0,.int .i64 0]):=X2d (by kernel_rfl)
theorem Xfz:ZeroT Tryz.prog 89 (.agg #[.int .i64 0,.int .i64 0,.int .i64 0,.int .i64 0,.int .i64 0]):=X2d (by kernel_rfl)
theorem X35:FieldT Tryz.prog 31 0 0:=X0y (n:=1) Tryz.underlying31 rfl rfl (by kernel_rfl) rfl
theorem X1f:FieldT Tryz.prog 31 1 1:=X0y (n:=1) Tryz.underlying31 rfl rfl (by kernel_rfl) rfl
theorem X0e:FieldT Tryz.prog 24 0 0:=X0y (n:=1) Tryz.underlying24 rfl rfl (by kernel_rfl) rfl
theorem X0d:FieldT Tryz.prog 24 1 1:=X0y (n:=1) Tryz.underlying24 rfl rfl (by kernel_rfl) rfl
theorem X0r:FieldT Tryz.prog 24 2 2:=X0y (n:=1) Tryz.underlying24 rfl rfl (by kernel_rfl) rfl
theorem X1y:FieldT Tryz.prog 38 0 0:=X0y (n:=1) Tryz.underlying38 rfl rfl (by kernel_rfl) rfl
theorem X19:FieldT Tryz.prog 38 1 1:=X0y (n:=1) Tryz.underlying38 rfl rfl (by kernel_rfl) rfl
theorem X0z:FieldT Tryz.prog 38 2 2:=X0y (n:=1) Tryz.underlying38 rfl rfl (by kernel_rfl) rfl
theorem X07:FieldT Tryz.prog 96 0 0:=X0y (n:=1) Tryz.underlying96 rfl rfl (by kernel_rfl) rfl
theorem X09:FieldT Tryz.prog 96 1 1:=X0y (n:=1) Tryz.underlying96 rfl rfl (by kernel_rfl) rfl
theorem X08:FieldT Tryz.prog 96 2 2:=X0y (n:=1) Tryz.underlying96 rfl rfl (by kernel_rfl) rfl
theorem X0b:FieldT Tryz.prog 96 3 3:=X0y (n:=1) Tryz.underlying96 rfl rfl (by kernel_rfl) rfl
theorem X1i:FieldT Tryz.prog 98 0 0:=X0y (n:=4) Tryz.underlying98 rfl rfl (by kernel_rfl) rfl
theorem X0v:FieldT Tryz.prog 98 1 4:=X0y (n:=1) Tryz.underlying98 rfl rfl (by kernel_rfl) rfl
theorem X6p:FieldT Tryz.prog 142 0 0:=X0y (n:=1) Tryz.underlying142 rfl rfl (by kernel_rfl) rfl
theorem X3y:FieldT Tryz.prog 80 0 0:=X0y (n:=1) Tryz.underlying80 rfl rfl (by kernel_rfl) rfl
theorem X27:FieldT Tryz.prog 80 1 1:=X0y (n:=1) Tryz.underlying80 rfl rfl (by kernel_rfl) rfl
theorem X2n:FieldT Tryz.prog 80 2 2:=X0y (n:=1) Tryz.underlying80 rfl rfl (by kernel_rfl) rfl
theorem X0w:SliceT Tryz.prog 29 24:=Tryz.underlying29
theorem X03:SliceT Tryz.prog 66 3:=Tryz.underlying66
theorem X6y:SliceT Tryz.prog 129 66:=Tryz.underlying129
theorem X10:SliceT Tryz.prog 36 98:=Tryz.underlying36
theorem X3i:SliceT Tryz.prog 209 96:=Tryz.underlying209
theorem X46:SliceT Tryz.prog 22 5:=Tryz.underlying22
theorem X18:InfoT Tryz.prog 3 1 8:=X3k (z:=.int .i64 0) (by kernel_rfl) rfl (by decide)
theorem Xmm:InfoT Tryz.prog 66 1 24:=X3k (z:=.slice none 0 0) (by kernel_rfl) rfl (by decide)
theorem X1p:InfoT Tryz.prog 24 3 24:=X3k (z:=.agg #[.int .i64 0,.int .i64 0,.int .i64 0]) (by kernel_rfl) rfl (by decide)
theorem X45:InfoT Tryz.prog 96 4 32:=X3k (z:=.agg #[.int .i64 0,.int .i64 0,.int .i64 0,.int .i64 0]) (by kernel_rfl) rfl (by decide)
theorem X2f:InfoT Tryz.prog 98 5 40:=X3k (z:=.agg #[.int .i64 0,.int .i64 0,.int .i64 0,.int .i64 0,.int .i64 0]) (by kernel_rfl) rfl (by decide)
theorem Xn8:FuncF Tryz.prog 99:=X4 Tryz.func99 (by decide +kernel) rfl
theorem Xoj:FuncF Tryz.prog 103:=X4 Tryz.func103 (by decide +kernel) rfl
theorem Xo3:FuncF Tryz.prog 61:=X4 Tryz.func61 (by decide +kernel) rfl
theorem Xcv:FuncF Tryz.prog 57:=X4 Tryz.func57 (by decide +kernel) rfl
theorem Xd3:FuncF Tryz.prog 59:=X4 Tryz.func59 (by decide +kernel) rfl
theorem X4z:FuncF Tryz.prog 53:=X4 Tryz.func53 (by decide +kernel) rfl
theorem X3e:FuncF Tryz.prog 120:=X4 Tryz.func120 (by decide +kernel) rfl
theorem Xnz:FuncF Tryz.prog 159:=X4 Tryz.func159 (by decide +kernel) rfl
theorem Xn6:FuncF Tryz.prog 160:=X4 Tryz.func160 (by decide +kernel) rfl
theorem Xo6:FuncF Tryz.prog 161:=X4 Tryz.func161 (by decide +kernel) rfl
theorem X5z:FuncF Tryz.prog 58:=X4 Tryz.func58 (by decide +kernel) rfl
theorem Xf9:FuncF Tryz.prog 114:=X4 Tryz.func114 (by decide +kernel) rfl
theorem X9x:FuncF Tryz.prog 70:=X4 Tryz.func70 (by decide +kernel) rfl
theorem Xb7:FuncF Tryz.prog 54:=X4 Tryz.func54 (by decide +kernel) rfl
theorem Xmf:FuncF Tryz.prog 55:=X4 Tryz.func55 (by decide +kernel) rfl
theorem Xfr:FuncF Tryz.prog 62:=X4 Tryz.func62 (by decide +kernel) rfl
theorem Xkc:FuncF Tryz.prog 129:=X4 Tryz.func129 (by decide +kernel) rfl
theorem Xkh:FuncF Tryz.prog 130:=X4 Tryz.func130 (by decide +kernel) rfl
theorem X97:FuncF Tryz.prog 51:=X4 Tryz.func51 (by decide +kernel) rfl
theorem Xn3:FuncF Tryz.prog 121:=X4 Tryz.func121 (by decide +kernel) rfl
theorem Xgq:FuncF Tryz.prog 173:=X4 Tryz.func173 (by decide +kernel) rfl
theorem Xlo:FuncF Tryz.prog 124:=X4 Tryz.func124 (by decide +kernel) rfl
theorem X9e:FuncF Tryz.prog 63:=X4 Tryz.func63 (by decide +kernel) rfl
theorem Xkj:FuncF Tryz.prog 189:=X4 Tryz.func189 (by decide +kernel) rfl
theorem Xko:FuncF Tryz.prog 167:=X4 Tryz.func167 (by decide +kernel) rfl
theorem Xme:FuncF Tryz.prog 168:=X4 Tryz.func168 (by decide +kernel) rfl
theorem Xfu:FuncF Tryz.prog 75:=X4 Tryz.func75 (by decide +kernel) rfl
theorem X5j:FuncF Tryz.prog 69:=X4 Tryz.func69 (by decide +kernel) rfl
theorem Xkp:FuncF Tryz.prog 122:=X4 Tryz.func122 (by decide +kernel) rfl
theorem X99:FuncF Tryz.prog 123:=X4 Tryz.func123 (by decide +kernel) rfl
theorem X3o:FuncF Tryz.prog 125:=X4 Tryz.func125 (by decide +kernel) rfl
theorem X3h:FuncF Tryz.prog 126:=X4 Tryz.func126 (by decide +kernel) rfl
theorem Xbl:FuncF Tryz.prog 17:=X4 Tryz.func17 (by decide +kernel) rfl
theorem Xgi:FuncF Tryz.prog 127:=X4 Tryz.func127 (by decide +kernel) rfl
theorem Xlv:FuncF Tryz.prog 131:=X4 Tryz.func131 (by decide +kernel) rfl
theorem Xm2:FuncF Tryz.prog 178:=X4 Tryz.func178 (by decide +kernel) rfl
theorem Xn1:FuncF Tryz.prog 52:=X4 Tryz.func52 (by decide +kernel) rfl
theorem Xl7:FuncF Tryz.prog 169:=X4 Tryz.func169 (by decide +kernel) rfl
theorem Xk2:FuncF Tryz.prog 170:=X4 Tryz.func170 (by decide +kernel) rfl
theorem Xly:FuncF Tryz.prog 171:=X4 Tryz.func171 (by decide +kernel) rfl
theorem Xbk:FuncF Tryz.prog 67:=X4 Tryz.func67 (by decide +kernel) rfl
theorem Xli:FuncF Tryz.prog 194:=X4 Tryz.func194 (by decide +kernel) rfl
theorem Xbn:FuncF Tryz.prog 134:=X4 Tryz.func134 (by decide +kernel) rfl
theorem X5h:FuncF Tryz.prog 15:=X4 Tryz.func15 (by decide +kernel) rfl
theorem X7b:FuncF Tryz.prog 16:=X4 Tryz.func16 (by decide +kernel) rfl
theorem X9h:FuncF Tryz.prog 132:=X4 Tryz.func132 (by decide +kernel) rfl
theorem Xmi:FuncF Tryz.prog 135:=X4 Tryz.func135 (by decide +kernel) rfl
theorem Xml:FuncF Tryz.prog 136:=X4 Tryz.func136 (by decide +kernel) rfl
theorem X6q:FuncF Tryz.prog 137:=X4 Tryz.func137 (by decide +kernel) rfl
theorem Xex:FuncF Tryz.prog 77:=X4 Tryz.func77 (by decide +kernel) rfl
theorem X8n:FuncF Tryz.prog 78:=X4 Tryz.func78 (by decide +kernel) rfl
theorem Xla:FuncF Tryz.prog 133:=X4 Tryz.func133 (by decide +kernel) rfl
theorem Xlk:FuncF Tryz.prog 172:=X4 Tryz.func172 (by decide +kernel) rfl
theorem Xlm:FuncF Tryz.prog 174:=X4 Tryz.func174 (by decide +kernel) rfl
theorem Xkb:FuncF Tryz.prog 175:=X4 Tryz.func175 (by decide +kernel) rfl
theorem Xkn:FuncF Tryz.prog 176:=X4 Tryz.func176 (by decide +kernel) rfl
theorem Xlz:FuncF Tryz.prog 177:=X4 Tryz.func177 (by decide +kernel) rfl
theorem Xmy:FuncF Tryz.prog 195:=X4 Tryz.func195 (by decide +kernel) rfl
theorem Xk7:FuncF Tryz.prog 196:=X4 Tryz.func196 (by decide +kernel) rfl
theorem X4i:FuncF Tryz.prog 186:=X4 Tryz.func186 (by decide +kernel) rfl
theorem Xks:FuncF Tryz.prog 187:=X4 Tryz.func187 (by decide +kernel) rfl
theorem Xkf:FuncF Tryz.prog 68:=X4 Tryz.func68 (by decide +kernel) rfl
theorem Xmq:FuncF Tryz.prog 71:=X4 Tryz.func71 (by decide +kernel) rfl
theorem X5i:FuncF Tryz.prog 72:=X4 Tryz.func72 (by decide +kernel) rfl
theorem X91:FuncF Tryz.prog 73:=X4 Tryz.func73 (by decide +kernel) rfl
theorem Xlr:FuncF Tryz.prog 74:=X4 Tryz.func74 (by decide +kernel) rfl
theorem Xmx:FuncF Tryz.prog 76:=X4 Tryz.func76 (by decide +kernel) rfl
theorem Xm5:FuncF Tryz.prog 79:=X4 Tryz.func79 (by decide +kernel) rfl
theorem Xl3:FuncF Tryz.prog 180:=X4 Tryz.func180 (by decide +kernel) rfl
theorem X6s:FuncF Tryz.prog 179:=X4 Tryz.func179 (by decide +kernel) rfl
theorem Xbe:FuncF Tryz.prog 181:=X4 Tryz.func181 (by decide +kernel) rfl
theorem Xm9:FuncF Tryz.prog 138:=X4 Tryz.func138 (by decide +kernel) rfl
theorem Xh1:FuncF Tryz.prog 139:=X4 Tryz.func139 (by decide +kernel) rfl
theorem X4k:FuncF Tryz.prog 197:=X4 Tryz.func197 (by decide +kernel) rfl
theorem Xk5:FuncF Tryz.prog 198:=X4 Tryz.func198 (by decide +kernel) rfl
theorem X8o:FuncF Tryz.prog 199:=X4 Tryz.func199 (by decide +kernel) rfl
theorem Xb5:FuncF Tryz.prog 200:=X4 Tryz.func200 (by decide +kernel) rfl
theorem Xes:FuncF Tryz.prog 201:=X4 Tryz.func201 (by decide +kernel) rfl
theorem Xk9:FuncF Tryz.prog 202:=X4 Tryz.func202 (by decide +kernel) rfl
theorem Xll:FuncF Tryz.prog 203:=X4 Tryz.func203 (by decide +kernel) rfl
theorem Xm0:FuncF Tryz.prog 140:=X4 Tryz.func140 (by decide +kernel) rfl
theorem Xl1:FuncF Tryz.prog 141:=X4 Tryz.func141 (by decide +kernel) rfl
theorem X8w:FuncF Tryz.prog 204:=X4 Tryz.func204 (by decide +kernel) rfl
theorem X9g:FuncF Tryz.prog 182:=X4 Tryz.func182 (by decide +kernel) rfl
theorem Xkq:FuncF Tryz.prog 183:=X4 Tryz.func183 (by decide +kernel) rfl
theorem Xlh:FuncF Tryz.prog 220:=X4 Tryz.func220 (by decide +kernel) rfl
theorem Xl6:FuncF Tryz.prog 221:=X4 Tryz.func221 (by decide +kernel) rfl
theorem Xl8:FuncF Tryz.prog 222:=X4 Tryz.func222 (by decide +kernel) rfl
theorem Xka:FuncF Tryz.prog 223:=X4 Tryz.func223 (by decide +kernel) rfl
theorem Xf6:FuncF Tryz.prog 184:=X4 Tryz.func184 (by decide +kernel) rfl
theorem Xls:FuncF Tryz.prog 231:=X4 Tryz.func231 (by decide +kernel) rfl
theorem Xk8:FuncF Tryz.prog 232:=X4 Tryz.func232 (by decide +kernel) rfl
theorem Xm3:FuncF Tryz.prog 205:=X4 Tryz.func205 (by decide +kernel) rfl
theorem Xhf:FuncF Tryz.prog 115:=X4 Tryz.func115 (by decide +kernel) rfl
theorem Xix:FuncF Tryz.prog 7:=X4 Tryz.func7 (by decide +kernel) rfl
theorem Xhl:FuncF Tryz.prog 8:=X4 Tryz.func8 (by decide +kernel) rfl
theorem Xhd:FuncF Tryz.prog 9:=X4 Tryz.func9 (by decide +kernel) rfl
theorem Xj2:FuncF Tryz.prog 10:=X4 Tryz.func10 (by decide +kernel) rfl
theorem Xiv:FuncF Tryz.prog 11:=X4 Tryz.func11 (by decide +kernel) rfl
theorem Xhi:FuncF Tryz.prog 12:=X4 Tryz.func12 (by decide +kernel) rfl
theorem Xhs:FuncF Tryz.prog 13:=X4 Tryz.func13 (by decide +kernel) rfl
theorem Xhz:FuncF Tryz.prog 14:=X4 Tryz.func14 (by decide +kernel) rfl
theorem X1l:FuncF Tryz.prog 46:=X4 Tryz.func46 (by decide +kernel) rfl
theorem Xc2:FuncF Tryz.prog 47:=X4 Tryz.func47 (by decide +kernel) rfl
theorem Xj7:FuncF Tryz.prog 48:=X4 Tryz.func48 (by decide +kernel) rfl
theorem X4u:FuncF Tryz.prog 49:=X4 Tryz.func49 (by decide +kernel) rfl
theorem Xcu:FuncF Tryz.prog 50:=X4 Tryz.func50 (by decide +kernel) rfl
theorem Xi1:FuncF Tryz.prog 56:=X4 Tryz.func56 (by decide +kernel) rfl
theorem Xck:FuncF Tryz.prog 60:=X4 Tryz.func60 (by decide +kernel) rfl
theorem Xja:FuncF Tryz.prog 64:=X4 Tryz.func64 (by decide +kernel) rfl
theorem Xhn:FuncF Tryz.prog 65:=X4 Tryz.func65 (by decide +kernel) rfl
theorem Xhb:FuncF Tryz.prog 66:=X4 Tryz.func66 (by decide +kernel) rfl
theorem Xih:FuncF Tryz.prog 90:=X4 Tryz.func90 (by decide +kernel) rfl
theorem X6l:FuncF Tryz.prog 109:=X4 Tryz.func109 (by decide +kernel) rfl
theorem Xct:FuncF Tryz.prog 118:=X4 Tryz.func118 (by decide +kernel) rfl
theorem Xia:FuncF Tryz.prog 119:=X4 Tryz.func119 (by decide +kernel) rfl
theorem Xip:FuncF Tryz.prog 128:=X4 Tryz.func128 (by decide +kernel) rfl
theorem Xj9:FuncF Tryz.prog 152:=X4 Tryz.func152 (by decide +kernel) rfl
theorem Xbp:FuncF Tryz.prog 153:=X4 Tryz.func153 (by decide +kernel) rfl
theorem mixed:Tryz.prog.follows .mixedOrders=true:=by kernel_rfl
end Go.Proofs.YtlfjcmldfbfdbaaGreat
namespace Go.Proofs.YtlfjcmldfbfdbaaGreat
open Go.RowKit
section
variable {P : Program} {a : Act} {w : World} {n : Nat} {e : Env} {ty : TypeId} {pos : String} {af : Array Edge} {g : Option (Nat × Bool)} {d : Option Tmp}
variable {t t' : TypeId} {x y : Operand} {i j : Int}
theorem Xkg(hf:Fr a n e)(hx:ev e x=some (.int .i64 i))(hy:ev e y=some (.int .i64 j))(h0:(j==0)=false) : Ev P ⟨d,.binOp .rem t x y t',ty,pos,af,g⟩ a w (.int .i64 (i.tmod j)):=fun w' _=>by
 have h0':j≠0:=by rintro rfl;simp at h0
 simp [execOp,hf.ev hx,hf.ev hy,eqGuard,binOp,Op.intDiv,h0']
theorem X6x(hx:ev e x=some (.int .i64 i))(hy:ev e y=some (.int .i64 j))(h0:(j==0)=false) : EvW P ⟨d,.binOp .rem t x y t',ty,pos,af,g⟩ n e w (.int .i64 (i.tmod j)):=fun a hf=>Xkg hf hx hy h0
theorem Xn0(hf:Fr a n e)(hx:ev e x=some (.int .i64 i))(hy:ev e y=some (.int .i64 j))(h0:(j==0)=false) : Ev P ⟨d,.binOp .quo t x y t',ty,pos,af,g⟩ a w (.int .i64 (IntKind.i64.wrap (i.tdiv j))):=fun w' _=>by
 have h0':j≠0:=by rintro rfl;simp at h0
 simp [execOp,hf.ev hx,hf.ev hy,eqGuard,binOp,Op.intDiv,h0']
theorem X8q(hx:ev e x=some (.int .i64 i))(hy:ev e y=some (.int .i64 j))(h0:(j==0)=false) : EvW P ⟨d,.binOp .quo t x y t',ty,pos,af,g⟩ n e w (.int .i64 (IntKind.i64.wrap (i.tdiv j))):=fun a hf=>Xn0 hf hx hy h0
theorem Xhq(hf:Fr a n e)(hx:ev e x=some (.int .i64 i))(hy:ev e y=some (.int .i64 j))(h1:-9223372036854775808≤i*j)(h2:i*j≤9223372036854775807) : Ev P ⟨d,.binOp .mul t x y t',ty,pos,af,g⟩ a w (.int .i64 (i*j)):=fun w' _=>by
 have h:IntKind.i64.wrap (i*j)=i*j:=IntWalk.i64_in _ ⟨h1,h2⟩
 simp [execOp,hf.ev hx,hf.ev hy,eqGuard,binOp,Op.intArith,h]
theorem X89(hx:ev e x=some (.int .i64 i))(hy:ev e y=some (.int .i64 j))(h1:-9223372036854775808≤i*j)(h2:i*j≤9223372036854775807) : EvW P ⟨d,.binOp .mul t x y t',ty,pos,af,g⟩ n e w (.int .i64 (i*j)):=fun a hf=>Xhq hf hx hy h1 h2
theorem Xht{m k:Nat}(hf:Fr a n e)(hx:ev e x=some (.int .i64 (m:Int)))(hy:ev e y=some (.int .i64 (k:Int)))(hb:m*k≤4611686018427387904) : Ev P ⟨d,.binOp .mul t x y t',ty,pos,af,g⟩ a w (.int .i64 ((m*k:Nat) : Int)):=fun w' _=>by
 have h:IntKind.i64.wrap ((m:Int)*(k:Int))=((m*k:Nat) : Int):=by
  rw [← Int.natCast_mul]
  exact IntWalk.i64_in _ ⟨by omega,by omega⟩
 simp [execOp,hf.ev hx,hf.ev hy,eqGuard,binOp,Op.intArith,h]
theorem Xg4{m k:Nat}(hx:ev e x=some (.int .i64 (m:Int)))(hy:ev e y=some (.int .i64 (k:Int)))(hb:m*k≤4611686018427387904) : EvW P ⟨d,.binOp .mul t x y t',ty,pos,af,g⟩ n e w (.int .i64 ((m*k:Nat) : Int)):=fun a hf=>Xht hf hx hy hb
theorem Xfp{k:IntKind}{m:Nat}(hf:Fr a n e)(hx:ev e x=some (.int .i64 i))(hy:ev e y=some (.int k j))(hj:j=(m:Int))(hm:m≤64) : Ev P ⟨d,.binOp .shl t x y t',ty,pos,af,g⟩ a w (.int .i64 (IntKind.i64.wrap (i*2^m))):=fun w' _=>by
 subst hj
 have hm':min m 64=m:=by omega
 simp [execOp,hf.ev hx,hf.ev hy,eqGuard,binOp,Op.shift,IntKind.bits,hm']
theorem Xej{k:IntKind}{m:Nat}(hx:ev e x=some (.int .i64 i))(hy:ev e y=some (.int k j))(hj:j=(m:Int))(hm:m≤64) : EvW P ⟨d,.binOp .shl t x y t',ty,pos,af,g⟩ n e w (.int .i64 (IntKind.i64.wrap (i*2^m))):=fun a hf=>Xfp hf hx hy hj hm
theorem Xm7{k:IntKind}{m:Nat}(hf:Fr a n e)(hx:ev e x=some (.int .i64 i))(hy:ev e y=some (.int k j))(hj:j=(m:Int))(hm:m≤64) : Ev P ⟨d,.binOp .shr t x y t',ty,pos,af,g⟩ a w (.int .i64 (i/2^m)):=fun w' _=>by
 subst hj
 have hm':min m 64=m:=by omega
 simp [execOp,hf.ev hx,hf.ev hy,eqGuard,binOp,Op.shift,IntKind.bits,hm']
theorem Xo4{k:IntKind}{m:Nat}(hx:ev e x=some (.int .i64 i))(hy:ev e y=some (.int k j))(hj:j=(m:Int))(hm:m≤64) : EvW P ⟨d,.binOp .shr t x y t',ty,pos,af,g⟩ n e w (.int .i64 (i/2^m)):=fun a hf=>Xm7 hf hx hy hj hm
theorem Xdw(hf:Fr a n e)(hx:ev e x=some (.int .i64 i))(hy:ev e y=some (.int .i64 j)) : Ev P ⟨d,.binOp .andNot t x y t',ty,pos,af,g⟩ a w (.int .i64 (bits .andNot .i64 i j)):=fun w' _=>by
 simp [execOp,hf.ev hx,hf.ev hy,eqGuard,binOp,Op.intBits,bits]
theorem Xh9(hx:ev e x=some (.int .i64 i))(hy:ev e y=some (.int .i64 j)) : EvW P ⟨d,.binOp .andNot t x y t',ty,pos,af,g⟩ n e w (.int .i64 (bits .andNot .i64 i j)):=fun a hf=>Xdw hf hx hy
theorem Xmk{p:Addr}(hf:Fr a n e)(hx:ev e x=some (.pointer (some p))) : Ev P ⟨d,.nilCheck x,ty,pos,af,g⟩ a w (.pointer (some p)):=fun w' _=>by
 simp [execOp,hf.ev hx]
theorem X2x{p:Addr}(hx:ev e x=some (.pointer (some p))) : EvW P ⟨d,.nilCheck x,ty,pos,af,g⟩ n e w (.pointer (some p)):=fun a hf=>Xmk hf hx
end
theorem Rd.atV{α:Type}{w:World}{B b0:Nat}{E T0:TypeId}{enc:α→List Value}{A:Option Addr}{l:List α}{l0:List Value}{sz:Nat}(hsz:∀ x,(enc x).length=sz)(h:Rd w B E enc A l){k:Nat}{x:α}(hk:l[k]? = some x)
  (hb:Blk w b0 T0 l0) (hT:Nat.beq E T0=false) : ∃ p,A=some p∧At w (p.add (k*sz)) (enc x)∧(p.add (k*sz)).block≠b0:=by
 obtain ⟨p,h1,h2⟩:=h.at hsz hk
 refine ⟨p,h1,h2,?_⟩
 have hl:l≠[]:=by rintro rfl;simp at hk
 obtain ⟨b,off,cs,fz,h3,h4,h5,h6⟩:=h hl
 rw [h1] at h3
 injection h3 with h3
 subst h3
 rw [X4j]
 rintro rfl
 unfold Blk at hb
 rw [h5] at hb
 injection hb with hb
 injection hb with _ e
 subst e
 simp at hT
section
variable {P : Program} {a : Act} {w : World} {n : Nat} {e : Env} {α : Type} {ops : Array Oper} {ty : TypeId} {pos : String} {af : Array Edge} {g : Option (Nat × Bool)} {d : Nat}
theorem Xgf{b0:Nat}{l0:List Value}{Q:Act→World→Prop}{tl:Nat→Bool}{fuel:Nat}{done:List Nat}{T E T0:TypeId}{sz B:Nat}{x y:Operand}{enc:α→List Value}{A:Option Addr}{c:Nat}{l:List α}{k:Nat}{i:Int}{u:α}(j:Nat)
  (ho:ops[j]? = some ⟨some d,.indexAddr T x y,ty,pos,af,g⟩) (hm:mayFirst ops done j=true) (hf:Fr a n e) (hw:Want ops ⟨some d,.indexAddr T x y,ty,pos,af,g⟩ e) (hn:Nat.blt d n=true)
  (hb:Blk w b0 T0 l0) (hT0:Nat.beq E T0=false)
  (hx:ev e x=some (.slice A l.length c)) (hy:ev e y=some (.int .i64 i)) (hT:SliceT P T E) (hs:SizeT P E sz) (hsz:∀ x,(enc x).length=sz) (hr:Rd w B E enc A l) (hk:l[k]? = some u) (hi:i=(k:Int))
  (h:∀ a' p,At w p (enc u)→p.block≠b0→Fr a' n ((d,.pointer (some p))::e)→wpS P ops (some b0) tl Q fuel (mask ops (j::done)) a' w) : wpS P ops (some b0) tl Q (fuel+1) (mask ops done) a w:=by
 obtain ⟨p,rfl,hat,hne⟩:=hr.atV hsz hk hb hT0
 exact Xjb j ho hm hf hw rfl hn (fun w=>X4r hf hx hy hT hs hi (List.getElem?_eq_some_iff.1 hk).1) fun a' hf'=>h a' _ hat hne hf'
theorem Ya{b0:Nat}{l0:List Value}{Q:Act→World→Prop}{tl:Nat→Bool}{fuel:Nat}{done:List Nat}{T E T0:TypeId}{sz B:Nat}{x y:Operand}{enc:α→List Value}{A:Option Addr}{c:Nat}{l:List α}{k:Nat}{i:Int}{u:α}(j:Nat)
  (ho:ops[j]? = some ⟨some d,.indexAddr T x y,ty,pos,af,g⟩) (hw:Want ops ⟨some d,.indexAddr T x y,ty,pos,af,g⟩ e) (hb:Blk w b0 T0 l0) (hT0:Nat.beq E T0=false)
  (hx:ev e x=some (.slice A l.length c)) (hy:ev e y=some (.int .i64 i)) (hT:SliceT P T E) (hs:SizeT P E sz) (hsz:∀ x,(enc x).length=sz) (hr:Rd w B E enc A l) (hk:l[k]? = some u) (hi:i=(k:Int))
  (h:∀ p,At w p (enc u)→p.block≠b0→WS P ops (some b0) tl Q fuel (j::done) n ((d,.pointer (some p))::e) w) (hm:mayFirst ops done j=true:=by kernel_rfl) (hn:Nat.blt d n=true:=by rfl) : WS P ops (some b0) tl Q (fuel+1) done n e w:=
 fun _ hf=>Xgf j ho hm hf hw hn hb hT0 hx hy hT hs hsz hr hk hi fun a' p hp hne hf'=>h p hp hne a' hf'
end
theorem Own.lower{α:Type}{w:World}{B0 B1:Nat}{E:TypeId}{sz:Nat}{enc:α→List Value}{A:Option Addr}{c:Nat}{l:List α}(h:Own w B0 E sz enc A c l)(hB:B1≤B0) : Own w B1 E sz enc A c l:=by
 refine ⟨h.1,?_⟩
 rcases h.2 with h1|⟨g,cap,cur,h1,h2,h3⟩
 ·exact .inl h1
 ·exact .inr ⟨g,cap,cur,h1,Nat.le_trans hB h2,h3⟩
section
variable {α : Type} {P : Program} {a : Act} {w : World} {n : Nat} {e : Env} {ty : TypeId} {pos : String} {af : Array Edge} {g : Option (Nat × Bool)} {d : Option Tmp}
theorem X7f{T E:TypeId}{sz bytes B B2:Nat}{x y:Operand}{enc:α→List Value}{A A2:Option Addr}{c c2:Nat}{l l2:List α}(hf:Fr a n e)(hx:ev e x=some (.slice A l.length c))(hy:ev e y=some (.slice A2 l2.length c2))
  (hT:SliceT P T E) (hi:InfoT P E sz bytes) (hsz:∀ x,(enc x).length=sz) (ho:Rd w B E enc A l) (hr:Rd w B2 E enc A2 l2) (hc:c=l.length) (hl:l≠[]) (hl2:l2≠[]) (h63:l.length+l2.length≤maxLen) (hbytes:(l.length+l2.length)*bytes≤140737488355328) :
  Ef P ⟨d,.call ⟨.builtin .append,#[x,y],#[T,T]⟩,ty,pos,af,g⟩ a w (fun v w'=>∃ A' c',v=.slice A' (l++l2).length c'∧Own w' w.heap.size E sz enc A' c' (l++l2)∧Below w.heap.size w w'):=by
 obtain ⟨i,z,hi1,hi2,rfl,rfl,hi5,hi6⟩:=hi
 obtain ⟨b1,off1,cs1,fz1,rfl,_,k1,k2⟩:=ho hl
 obtain ⟨b,off,cs,fz,rfl,h2,h3,h4⟩:=hr hl2
 have hlen1:=X00 hsz l
 have hlen2:=X00 hsz l2
 have hpos:0<l2.length:=List.length_pos_iff.2 hl2
 have h:=run_append_grow (P:=P) w T ty E i z hT hi1 hi2 ⟨b1,off1,none⟩ l.length c (l.flatMap enc) hlen1 (fun j u hu=>by
   have:=k2 j u hu
   rw [X1h]
   simp [World.cell?,k1,this])
  ⟨b,off,none⟩ l2.length c2 (l2.flatMap enc) hlen2 (fun j u hu=>by
   have:=h4 j u hu
   rw [X1h]
   simp [World.cell?,h3,this])
  (by omega) (by simp only [maxLen] at h63;omega) (growslice_fits (by omega) hbytes)
 refine (Ef.of_run (w':=w.drew.alloc (.cells ((l.flatMap enc).toArray++(l2.flatMap enc).toArray++Builtin.zeroCells z.cells (grownCap w (l.length+l2.length) c E-(l.length+l2.length))) E)) (v:=.slice (some ⟨w.heap.size,0,none⟩) (l.length+l2.length) (grownCap w (l.length+l2.length) c E)) ?_).mono fun v w' ⟨e1,e2⟩=>?_
 ·simp [execOp,resolve,invoke,builtin,hf.ev hx,hf.ev hy,h]
 ·subst e1;subst e2
  refine ⟨_,_,by rw [List.length_append],?_,((Below.refl _ _).drew).alloc (Nat.le_refl _) _⟩
  refine ⟨X00 hsz _,.inr ⟨w.heap.size,_,_,rfl,Nat.le_refl _,heap_alloc_new w.drew _,?_,grownCap_le_maxLen w _ _ E h63,?_,?_⟩⟩
  ·rw [List.length_append];exact grownCap_ge w _ _ E
  ·have hge:=grownCap_ge w (l.length+l2.length) c E
   simp only [Array.size_append,List.size_toArray,size_zeroCells,hi5,hlen1,hlen2,← Nat.add_mul]
   congr 1
   omega
  ·have e3:(l++l2).length*i.size=(l.flatMap enc++l2.flatMap enc).length:=by rw [List.length_append,List.length_append,hlen1,hlen2,Nat.add_mul]
   rw [e3]
   simp only [Array.toList_append,List.flatMap_append,List.append_assoc]
   rw [← List.append_assoc]
   exact List.take_left
theorem Xa4{T E:TypeId}{sz bytes B B2:Nat}{x y:Operand}{enc:α→List Value}{A A2:Option Addr}{c c2:Nat}{l l2:List α}(hx:ev e x=some (.slice A l.length c))(hy:ev e y=some (.slice A2 l2.length c2))(hT:SliceT P T E)(hi:InfoT P E sz bytes)(hsz:∀ x,(enc x).length=sz)(ho:Rd w B E enc A l)(hr:Rd w B2 E enc A2 l2)(hc:c=l.length)(hl:l≠[])(hl2:l2≠[])(h63:l.length+l2.length≤maxLen)(hbytes:(l.length+l2.length)*bytes≤140737488355328) : EfW P ⟨d,.call ⟨.builtin .append,#[x,y],#[T,T]⟩,ty,pos,af,g⟩ n e w (fun v w'=>∃ A' c',v=.slice A' (l++l2).length c'∧Own w' w.heap.size E sz enc A' c' (l++l2)∧Below w.heap.size w w'):=fun a hf=>X7f hf hx hy hT hi hsz ho hr hc hl hl2 h63 hbytes
end
abbrev wr(i:Int) : Int:=IntKind.i64.wrap i
theorem X06{i:Int}(h1:-9223372036854775808≤i)(h2:i≤9223372036854775807) : wr i=i:=IntWalk.i64_in _ ⟨h1,h2⟩
structure Rg where (a b c d:Int) deriving DecidableEq
structure Dy where (num:Rg) (exp:Int) deriving DecidableEq
structure Gt where (k a b:Int) deriving DecidableEq
def encI(i:Int) : List Value:=[.int .i64 i]
def encR(r:Rg) : List Value:=[.int .i64 r.a,.int .i64 r.b,.int .i64 r.c,.int .i64 r.d]
def encD(x:Dy) : List Value:=[.int .i64 x.num.a,.int .i64 x.num.b,.int .i64 x.num.c,.int .i64 x.num.d,.int .i64 x.exp]
def encG(x:Gt) : List Value:=[.int .i64 x.k,.int .i64 x.a,.int .i64 x.b]
theorem Xp:∀ x,(encI x).length=1:=fun _=>rfl
theorem Xa5:∀ x,(encR x).length=4:=fun _=>rfl
theorem X13:∀ x,(encD x).length=5:=fun _=>rfl
theorem X11:∀ x,(encG x).length=3:=fun _=>rfl
theorem X1n:∀ x,(encI x).all one=true:=fun _=>rfl
theorem X74:∀ x,(encD x).all one=true:=fun _=>rfl
theorem X3q:∀ x,(encG x).all one=true:=fun _=>rfl
abbrev rV(r:Rg) : Value:=.agg #[.int .i64 r.a,.int .i64 r.b,.int .i64 r.c,.int .i64 r.d]
abbrev dV(x:Dy) : Value:=.agg #[.int .i64 x.num.a,.int .i64 x.num.b,.int .i64 x.num.c,.int .i64 x.num.d,.int .i64 x.exp]
abbrev gV(x:Gt) : Value:=.agg #[.int .i64 x.k,.int .i64 x.a,.int .i64 x.b]
def inR(n lo hi:Int) : Bool:=decide (lo≤n)&&decide (n≤hi)
def rOk(x:Rg) : Bool:=inR x.a (-1000000000) 1000000000&&inR x.b (-1000000000) 1000000000&&inR x.c (-1000000000) 1000000000&&inR x.d (-1000000000) 1000000000
def rAdd(x y:Rg) : Rg:=⟨wr (x.a+y.a),wr (x.b+y.b),wr (x.c+y.c),wr (x.d+y.d)⟩
def rNeg(x:Rg) : Rg:=⟨wr (-x.a),wr (-x.b),wr (-x.c),wr (-x.d)⟩
def rMul(x y:Rg) : Rg:=
 ⟨wr (wr (wr (wr (x.a*y.a)-wr (x.b*y.d))-wr (x.c*y.c))-wr (x.d*y.b)),
 wr (wr (wr (wr (x.a*y.b)+wr (x.b*y.a))-wr (x.c*y.d))-wr (x.d*y.c)),
 wr (wr (wr (wr (x.a*y.c)+wr (x.b*y.b))+wr (x.c*y.a))-wr (x.d*y.d)),
 wr (wr (wr (wr (x.a*y.d)+wr (x.b*y.c))+wr (x.c*y.b))+wr (x.d*y.a))⟩
def rRoot(x:Rg) : Rg:=⟨wr (x.b-x.d),wr (x.a+x.c),wr (x.b+x.d),wr (x.c-x.a)⟩
def rEven(x:Rg) : Bool:=(wr (x.a+x.c)).tmod 2==0&&(wr (x.b+x.d)).tmod 2==0
def rHalf(x:Rg) : Rg:=⟨wr ((rRoot x).a.tdiv 2),wr ((rRoot x).b.tdiv 2),wr ((rRoot x).c.tdiv 2),wr ((rRoot x).d.tdiv 2)⟩
def rOm(x:Rg) : Rg:=⟨wr (-x.d),x.a,x.b,x.c⟩
def rTurnN:Nat→Rg→Rg
 | 0,x=>x
 | k+1,x=>rTurnN k (rOm x)
def turns(k:Int) : Int:=(wr (k.tmod 8+8)).tmod 8
def rTurn(x:Rg)(k:Int) : Rg:=rTurnN (turns k).toNat x
def lowN:Nat→Rg→Rg×Nat
 | 0,x=>(x,0)
 | m+1,x=>if rEven x then lowN m (rHalf x) else (x,m+1)
def dLow(x:Rg)(exp:Int) : Dy:=⟨(lowN exp.toNat x).1,if 0<exp then ((lowN exp.toNat x).2:Int) else exp⟩
def dPow(k:Int) : Dy:=⟨rTurn ⟨1,0,0,0⟩ k,0⟩
def dNeg(x:Dy) : Dy:=⟨rNeg x.num,x.exp⟩
def dZ:Dy:=⟨⟨0,0,0,0⟩,0⟩
theorem X2y{x:Rg}{exp:Int}(h0:0<exp)(he:rEven x=true) : dLow x exp=dLow (rHalf x) (exp-1):=by
 obtain ⟨m,hm⟩ : ∃ m:Nat,exp=m+1:=⟨(exp-1).toNat,by omega⟩
 subst hm
 have e1:((m:Int)+1).toNat=m+1:=by omega
 have e2:((m:Int)+1-1)=m:=by omega
 unfold dLow
 rw [e1,e2,Int.toNat_natCast]
 simp only [lowN,he,if_true,h0]
 cases m with
 | zero=>simp [lowN]
 | succ k=>simp
theorem X1o{x:Rg}{exp:Int}(h:0<exp→rEven x=false) : dLow x exp=⟨x,exp⟩:=by
 unfold dLow
 by_cases h0:0<exp
 ·obtain ⟨m,hm⟩ : ∃ m:Nat,exp=m+1:=⟨(exp-1).toNat,by omega⟩
  subst hm
  have e1:((m:Int)+1).toNat=m+1:=by omega
  rw [e1]
  simp only [lowN,h h0,Bool.false_eq_true,if_false,h0,if_true]
  rfl
 ·have e1:exp.toNat=0:=by omega
  rw [e1]
  simp [lowN,h0]
end Go.Proofs.YtlfjcmldfbfdbaaGreat
namespace Go.Proofs.YtlfjcmldfbfdbaaGreat
open Go.RowKit
section
variable {α : Type} {p : α → Bool} {l : List α} {k : Nat} {u : α}
theorem X1x(h:(l.take k).all p=true)(hu:l[k]? = some u)(hp:p u=true) : (l.take (k+1)).all p=true:=by
 rw [List.take_add_one,hu]
 simp only [List.all_append,h,Option.toList_some,List.all_cons,hp,List.all_nil,Bool.and_self]
theorem X82(hu:l[k]? = some u)(hp:p u=false) : l.all p=false:=by
 obtain ⟨h1,h2⟩:=List.getElem?_eq_some_iff.1 hu
 subst h2
 rw [List.all_eq_false]
 exact ⟨_,List.getElem_mem h1,by simp [hp]⟩
theorem X1s(h:(l.take k).all p=true)(hk:l.length≤k) : l.all p=true:=by rwa [List.take_of_length_le hk] at h
end
theorem X2s{α:Type}{p:α→Bool}{l:List α}{k:Nat}{u:α}(hu:l[k]? = some u)(hp:p u=true) : l.any p=true:=by
 obtain ⟨h1,h2⟩:=List.getElem?_eq_some_iff.1 hu
 subst h2
 exact List.any_eq_true.2 ⟨_,List.getElem_mem h1,hp⟩
theorem X2e{α:Type}{p:α→Bool}{l:List α}(h:l.all (fun x=>!p x)=true) : l.any p=false:=by
 rw [List.any_eq_false]
 intro x hx
 have:=List.all_eq_true.1 h x hx
 simpa using this
theorem X2w(k:Int) : 0≤turns k∧turns k<8:=by
 have h1:-8<k.tmod 8∧k.tmod 8<8:=by
  rcases Int.le_total 0 k with h|h
  ·rw [Int.tmod_eq_emod_of_nonneg h];omega
  ·have h2:(-k).tmod 8 = -(k.tmod 8):=Int.neg_tmod _ _
   rw [Int.tmod_eq_emod_of_nonneg (by omega)] at h2
   omega
 unfold turns
 rw [X06 (by omega) (by omega)]
 have h4:0≤k.tmod 8+8:=by omega
 rw [Int.tmod_eq_emod_of_nonneg h4]
 omega
def rIf2(x:Rg)(l:List Rg) : Bool:=(l++[x]).all rOk
def rIf1(x:Rg)(l:List Rg) : Rg:=if rIf2 x l=true then x else ⟨0,0,0,0⟩
def rDiv2(x:Rg) : Bool:=rOk x&&rEven x
def rDiv1(x:Rg) : Rg:=if rDiv2 x=true then rHalf x else ⟨0,0,0,0⟩
theorem Xh{n lo hi:Int} : inR n lo hi=true↔lo≤n∧n≤hi:=by simp [inR]
theorem X1q{x:Rg} : rOk x=true↔(-1000000000≤x.a∧x.a≤1000000000)∧(-1000000000≤x.b∧x.b≤1000000000)∧(-1000000000≤x.c∧x.c≤1000000000)∧(-1000000000≤x.d∧x.d≤1000000000):=by
 simp only [rOk,Bool.and_eq_true,Xh,and_assoc]
theorem Xba{i:Int}(h1:-2000000000≤i)(h2:i≤2000000000) : -1000000000≤i.tdiv 2∧i.tdiv 2≤1000000000:=by
 rcases Int.le_total 0 i with h|h
 ·rw [Int.tdiv_eq_ediv_of_nonneg h];omega
 ·have h3:(-i).tdiv 2 = -(i.tdiv 2):=Int.neg_tdiv _ _
  rw [Int.tdiv_eq_ediv_of_nonneg (by omega)] at h3
  omega
theorem X36{i:Int}(h1:-2000000000≤i)(h2:i≤2000000000) : -1000000000≤wr ((wr i).tdiv 2)∧wr ((wr i).tdiv 2)≤1000000000:=by
 rw [X06 (i:=i) (by omega) (by omega)]
 have:=Xba h1 h2
 rw [X06 (by omega) (by omega)]
 exact this
theorem X4y{x:Rg}(h:rOk x=true) : rOk (rHalf x)=true:=by
 rw [X1q] at h ⊢
 exact ⟨X36 (by omega) (by omega),X36 (by omega) (by omega),X36 (by omega) (by omega),X36 (by omega) (by omega)⟩
theorem Xg6{x:Rg}(h:rOk x=true) : rIf2 (rHalf x) [x]=true:=by simp [rIf2,h,X4y h]
def mulOm2(x:Rg)(k:Int) : Bool:=inR k (-1000) 1000&&rOk x
def mulOm1(x:Rg)(k:Int) : Rg:=if mulOm2 x k=true then rTurn x k else ⟨0,0,0,0⟩
def dOk(x:Dy) : Bool:=rOk x.num&&inR x.exp 0 60&&(x.exp==0||!rEven x.num)
theorem X1r{x:Dy}(h:dOk x=true) : 0≤x.exp∧x.exp≤60:=by
 simp only [dOk,Bool.and_eq_true,Xh] at h
 exact h.1.2
theorem X7q{a b c:Bool}(h:(!a||!b||!c)=true) : (a&&b&&c)=false:=by revert h;cases a<;>cases b<;>cases c<;>simp
theorem X9o{a b c:Bool}(h:(!a||!b||!c)=false) : (a&&b&&c)=true:=by revert h;cases a<;>cases b<;>cases c<;>simp
theorem X5g{a b:Bool}(h:(!a||!b)=true) : (a&&b)=false:=by revert h;cases a<;>cases b<;>simp
theorem X7c{a b:Bool}(h:(!a||!b)=false) : (a&&b)=true:=by revert h;cases a<;>cases b<;>simp
theorem Xoi{a b c:Bool}(h:(a&&b&&c)=true) : a=true∧b=true∧c=true:=by revert h;cases a<;>cases b<;>cases c<;>simp
def dOf(x:Rg)(m:Int) : Option Dy:=if (rOk x&&inR m 0 60)=true then some (dLow x m) else none
def raiseI:Nat→Rg→Rg×Bool
 | 0,y=>(y,true)
 | n+1,y=>if rIf2 (rRoot y) [y]=true then raiseI n (rRoot y) else (⟨0,0,0,0⟩,false)
def dRaise(x:Dy)(m:Int) : Rg×Bool:=raiseI (m-x.exp).toNat x.num
theorem Xbf{x:Dy}{m j:Int}{y:Rg}{b:Bool}(h:(if b=true then raiseI (m-j).toNat y else (y,false))=dRaise x m)(hb:b=true)(hj:j<m) :
  (if rIf2 (rRoot y) [y]=true then raiseI (m-(j+1)).toNat (rIf1 (rRoot y) [y]) else (rIf1 (rRoot y) [y],false))=dRaise x m:=by
 rw [← h,if_pos hb]
 obtain ⟨k,hk⟩ : ∃ k,(m-j).toNat=k+1:=⟨(m-j).toNat-1,by omega⟩
 rw [hk,show (m-(j+1)).toNat=k from by omega]
 unfold rIf1
 by_cases hh:rIf2 (rRoot y) [y]=true<;>simp [raiseI,hh]
def dAddI(x y:Dy) : Option Dy:=
 if (dOk x&&dOk y)=true then
  if ((dRaise x (max x.exp y.exp)).2&&(dRaise y (max x.exp y.exp)).2&&rIf2 (rAdd (dRaise x (max x.exp y.exp)).1 (dRaise y (max x.exp y.exp)).1) [(dRaise x (max x.exp y.exp)).1,(dRaise y (max x.exp y.exp)).1])=true then
   dOf (rIf1 (rAdd (dRaise x (max x.exp y.exp)).1 (dRaise y (max x.exp y.exp)).1) [(dRaise x (max x.exp y.exp)).1,(dRaise y (max x.exp y.exp)).1]) (max x.exp y.exp)
  else none
 else none
def dMulI(x y:Dy) : Option Dy:=
 if (dOk x&&dOk y&&rIf2 (rMul x.num y.num) [x.num,y.num])=true then dOf (rIf1 (rMul x.num y.num) [x.num,y.num]) (x.exp+y.exp) else none
structure Mx where (rows cols:Int) (cells:List Dy)
def mZ:Mx:=⟨0,0,[]⟩
abbrev mV(A:Option Addr)(c:Nat)(m:Mx) : Value:=.agg #[.int .i64 m.rows,.int .i64 m.cols,.slice A m.cells.length c]
def isDimB(n:Int) : Bool:=inR n 1 32&&bits .and .i64 n (wr (n-1))==0
def mOk(m:Mx) : Bool:=isDimB m.rows&&isDimB m.cols&&(m.cells.length:Int)==wr (m.rows*m.cols)&&!(m.cells.any fun x=>!dOk x)
def seqO(g:Nat→Option Dy) : Nat→Option (List Dy)
 | 0=>some []
 | n+1=>match seqO g n,g n with
  | some l,some x=>some (l++[x])
  | _,_=>none
theorem X5t{g:Nat→Option Dy}{n:Nat}{l:List Dy}{x:Dy}(h:seqO g n=some l)(hx:g n=some x) : seqO g (n+1)=some (l++[x]):=by simp [seqO,h,hx]
theorem X7n{g:Nat→Option Dy}{n:Nat}(hx:g n=none) : ∀ m,n<m→seqO g m=none
 | 0,h=>by omega
 | m+1,h=>by
  by_cases hm:n=m
  ·subst hm
   simp only [seqO,hx]
   split<;>simp_all
  ·simp only [seqO,X7n hx m (by omega)]
theorem X3p{g:Nat→Option Dy} : ∀ {n:Nat} {l:List Dy},seqO g n=some l→l.length=n
 | 0,l,h=>by simp [seqO] at h;subst h;rfl
 | n+1,l,h=>by
  simp only [seqO] at h
  split at h
  ·rename_i l' x h1 h2
   injection h with h
   subst h
   simp [X3p h1]
  ·cases h
def gridG(f:Nat→Nat→Option Dy)(C:Nat)(n:Nat) : Option Dy:=f (n/C) (n % C)
theorem X75{f:Nat→Nat→Option Dy}{C i j:Nat}(hj:j<C) : gridG f C (i*C+j)=f i j:=by
 unfold gridG
 have h1:(i*C+j)/C=i:=by rw [Nat.mul_comm,Nat.mul_add_div (by omega),Nat.div_eq_of_lt hj];omega
 have h2:(i*C+j) % C=j:=by rw [Nat.mul_comm,Nat.mul_add_mod,Nat.mod_eq_of_lt hj]
 rw [h1,h2]
def matOf(R C:Int)(f:Nat→Nat→Option Dy) : Option Mx:=
 if (isDimB R&&isDimB C)=true then (seqO (gridG f C.toNat) (R.toNat*C.toNat)).map fun l=>⟨R,C,l⟩ else none
def Mx.at(m:Mx)(i j:Nat) : Dy:=m.cells.getD (i*m.cols.toNat+j) dZ
theorem Mx.at_get{m:Mx}{i j:Nat}(h:i*m.cols.toNat+j<m.cells.length) : m.cells[i*m.cols.toNat+j]? = some (m.at i j):=by
 rw [Mx.at,List.getD_eq_getElem?_getD,List.getElem?_eq_getElem h];rfl
theorem X23{n:Int}(h:isDimB n=true) : 1≤n∧n≤32:=by
 simp only [isDimB,Bool.and_eq_true,Xh] at h
 exact h.1
theorem X2k{m:Mx}(h:mOk m=true) : (1≤m.rows∧m.rows≤32)∧(1≤m.cols∧m.cols≤32)∧m.cells.length=m.rows.toNat*m.cols.toNat:=by
 simp only [mOk,Bool.and_eq_true,beq_iff_eq] at h
 obtain ⟨⟨⟨h1,h2⟩,h3⟩,h4⟩:=h
 have h1:=X23 h1
 have h2:=X23 h2
 refine ⟨h1,h2,?_⟩
 obtain ⟨r,hr⟩ : ∃ r:Nat,m.rows=r:=⟨m.rows.toNat,by omega⟩
 obtain ⟨c,hc⟩ : ∃ c:Nat,m.cols=c:=⟨m.cols.toNat,by omega⟩
 rw [hr] at h1
 rw [hc] at h2
 rw [hr,hc] at h3 ⊢
 have h5:r*c≤32*32:=Nat.mul_le_mul (by omega) (by omega)
 rw [← Int.natCast_mul,X06 (by omega) (by omega)] at h3
 simp only [Int.toNat_natCast]
 exact Int.natCast_inj.1 h3
theorem X3c{R C i j:Nat}(hi:i<R)(hj:j<C) : i*C+j<R*C:=by
 have h1:(i+1)*C≤R*C:=Nat.mul_le_mul_right _ hi
 rw [Nat.add_mul] at h1
 omega
def dotI(a b:Mx)(i j:Nat) : Nat→Option Dy
 | 0=>some dZ
 | n+1=>(dotI a b i j n).bind fun s=>(dMulI (a.at i n) (b.at n j)).bind fun x=>dAddI s x
theorem X8e{a b:Mx}{i j n:Nat}(h:dotI a b i j n=none) : ∀ m,n≤m→dotI a b i j m=none
 | 0,h'=>by
  obtain rfl:n=0:=by omega
  exact h
 | m+1,h'=>by
  by_cases hm:n=m+1
  ·subst hm;exact h
  ·simp [dotI,X8e h m (by omega)]
def mulI(a b:Mx) : Option Mx:=if (mOk a&&mOk b&&a.cols==b.rows)=true then matOf a.rows b.cols fun i j=>dotI a b i j a.cols.toNat else none
def idI(n:Int) : Option Mx:=matOf n n fun i j=>some (if i=j then ⟨⟨1,0,0,0⟩,0⟩ else dZ)
def scaleI(m:Mx)(x:Dy) : Option Mx:=if (mOk m&&dOk x)=true then matOf m.rows m.cols fun i j=>dMulI (m.at i j) x else none
end Go.Proofs.YtlfjcmldfbfdbaaGreat
set_option maxRecDepth 8000
namespace Go.Proofs.YtlfjcmldfbfdbaaGreat
open Go.RowKit
theorem X7l{P:Program}{t:TypeId}{fs:Array Field}(h:P.underlying t=some (.struct fs)) : P.fieldsOf t=fs:=by simp [Program.fieldsOf,h]
theorem X84{P:Program}{w:World}{t k:Nat}{xs:Array Value}{v:Value}(h1:OneT P t)(h:xs[k]? = some v) : (part t xs k).run P w=.ok v w:=by
 simp [part,X4c h1,h]
theorem X2a {P : Program} {w : World} {d : Nat} {xs ys : Array Value} {f : Field} {fs : List Field} {k : IntKind} {i j : Int} (hn : f.name ≠ "_") (hT : OneT P f.type) (hu : P.underlying f.type = some (.int k)) (hx : xs[f.offset]? = some (.int .i64 i)) (hy : ys[f.offset]? = some (.int .i64 j))
  {r:Bool} (h:i=j→(Op.eqFields (d+1) xs ys fs).run P w=.ok r w) : (Op.eqFields (d+1) xs ys (f::fs)).run P w=.ok (decide (i=j)&&r) w:=by
 simp only [Op.eqFields,hn,ne_eq,not_false_eq_true,if_true,Sem.run_bind,X84 hT hx,X84 hT hy,Result.andThen_ok,run_equalIn_int _ _ _ _ _ _ _ hu]
 by_cases hij:i=j
 ·subst hij
  simp [h rfl]
 ·simp [hij]
theorem eqR(d:Nat)(x y:Rg)(w:World) : (Op.equalIn (d+2) 96 (rV x) (rV y)).run Tryz.prog w=.ok (decide (x=y)) w:=by
 have hf:=X7l Tryz.underlying96
 refine (run_equalIn_struct w (d+1) 96 _ _ (by rw [hf];exact Tryz.underlying96) (by kernel_rfl)).trans ?_
 rw [hf]
 have:decide (x=y)=(decide (x.a=y.a)&&(decide (x.b=y.b)&&(decide (x.c=y.c)&&(decide (x.d=y.d)&&true)))):=by
  obtain ⟨a,b,c,d⟩:=x
  obtain ⟨a',b',c',d'⟩:=y
  simp
 rw [this]
 refine X2a (by decide) X3 Tryz.underlying3 rfl rfl fun _=>?_
 refine X2a (by decide) X3 Tryz.underlying3 rfl rfl fun _=>?_
 refine X2a (by decide) X3 Tryz.underlying3 rfl rfl fun _=>?_
 refine X2a (by decide) X3 Tryz.underlying3 rfl rfl fun _=>?_
 rfl
theorem Xe4{P:Program}{w:World}{t k n:Nat}{xs:Array Value}(h1:AggT P t n) : (part t xs k).run P w=.ok (.agg (xs.extract k (k+n))) w:=by
 simp [part,X4e h1,run_sizeOf' h1.2]
theorem X96 {P : Program} {w : World} {d n : Nat} {xs ys : Array Value} {f : Field} {fs : List Field} {v1 v2 : Value} {b r : Bool} (hn : f.name ≠ "_") (hT : AggT P f.type n) (hx : .agg (xs.extract f.offset (f.offset + n)) = v1) (hy : .agg (ys.extract f.offset (f.offset + n)) = v2)
  (he:(Op.equalIn d f.type v1 v2).run P w=.ok b w) (h:b=true→(Op.eqFields d xs ys fs).run P w=.ok r w) : (Op.eqFields d xs ys (f::fs)).run P w=.ok (b&&r) w:=by
 simp only [Op.eqFields,hn,ne_eq,not_false_eq_true,if_true,Sem.run_bind,Xe4 hT,Result.andThen_ok,hx,hy,he]
 cases b
 ·simp
 ·simp [h rfl]
theorem eqD(d:Nat)(x y:Dy)(w:World) : (Op.equalIn (d+3) 98 (dV x) (dV y)).run Tryz.prog w=.ok (decide (x=y)) w:=by
 have hf:=X7l Tryz.underlying98
 refine (run_equalIn_struct w (d+2) 98 _ _ (by rw [hf];exact Tryz.underlying98) (by kernel_rfl)).trans ?_
 rw [hf]
 have:decide (x=y)=(decide (x.num=y.num)&&(decide (x.exp=y.exp)&&true)):=by
  obtain ⟨a,b⟩:=x
  obtain ⟨a',b'⟩:=y
  simp
 rw [this]
 refine X96 (v1:=rV x.num) (v2:=rV y.num) (by decide) X01 rfl rfl (eqR d _ _ _) fun _=>?_
 exact X2a (by decide) X3 Tryz.underlying3 rfl rfl fun _=>rfl
section
variable {P : Program} {a : Act} {w : World} {n : Nat} {e : Env} {ty : TypeId} {pos : String} {af : Array Edge} {g : Option (Nat × Bool)} {d : Option Tmp} {t t' : TypeId} {x y : Operand} {X Y : Array Value} {b : Bool}
theorem Xhy(hf:Fr a n e)(hx:ev e x=some (.agg X))(hy:ev e y=some (.agg Y))(hm:P.eqGuardType P.depth t=false)(he:∀ w,(Op.equalIn 10000 t (.agg X) (.agg Y)).run P w=.ok b w) : Ev P ⟨d,.binOp .neq t x y t',ty,pos,af,g⟩ a w (.bool (!b)):=fun w' _=>by
 have h1:=run_eqGuard_agg (P:=P) w' .neq t x y X Y hm
 have h2:=run_neq_struct (P:=P) w' t X Y
 rw [he] at h2
 simp [execOp,hf.ev hx,hf.ev hy,h1,h2]
theorem Xk0(hx:ev e x=some (.agg X))(hy:ev e y=some (.agg Y))(hm:P.eqGuardType P.depth t=false)(he:∀ w,(Op.equalIn 10000 t (.agg X) (.agg Y)).run P w=.ok b w) : EvW P ⟨d,.binOp .neq t x y t',ty,pos,af,g⟩ n e w (.bool (!b)):=fun a hf=>Xhy hf hx hy hm he
end
theorem Xgk:Tryz.prog.eqGuardType Tryz.prog.depth 98=false:=by kernel_rfl
theorem Xcm{α:Type}{l m:List α}{k:Nat}{u v:α}(h:l.take k=m.take k)(hu:l[k]? = some u)(hv:m[k]? = some v)(he:u=v) : l.take (k+1)=m.take (k+1):=by
 rw [List.take_add_one,List.take_add_one,h,hu,hv,he]
theorem Xk3{P:Program}{a:Act}{w:World}{n:Nat}{e:Env}{ty:TypeId}{pos:String}{af:Array Edge}{g:Option (Nat×Bool)}{d:Option Tmp}{s t:TypeId}{x:Operand}{i:Int}{m:Nat}(hs:P.underlying s=some (.int .i64))(ht:P.underlying t=some (.int .u64))(hf:Fr a n e)(hx:ev e x=some (.int .i64 i))(hi:i=(m:Int))(hm:m≤64) :
  Ev P ⟨d,.convert s t x,ty,pos,af,g⟩ a w (.int .u64 (m:Int)):=fun w' _=>by
 subst hi
 have h:IntKind.u64.wrap (m:Int)=(m:Int):=by
  simp only [IntKind.wrap]
  simp only [IntKind.bits,IntKind.signed,Bool.false_and,Bool.false_eq_true,if_false]
  omega
 simp [execOp,hf.ev hx,convert,X0l hs,X0l ht,Conv.intToInt,h]
theorem Xe3{P:Program}{w:World}{n:Nat}{e:Env}{ty:TypeId}{pos:String}{af:Array Edge}{g:Option (Nat×Bool)}{d:Option Tmp}{s t:TypeId}{x:Operand}{i:Int}{m:Nat}(hs:P.underlying s=some (.int .i64))(ht:P.underlying t=some (.int .u64))(hx:ev e x=some (.int .i64 i))(hi:i=(m:Int))(hm:m≤64) : EvW P ⟨d,.convert s t x,ty,pos,af,g⟩ n e w (.int .u64 (m:Int)):=fun a hf=>Xk3 hs ht hf hx hi hm
def bitF(n s q:Int) : Int:=bits .and .i64 (s/2^(n-1-q).toNat) 1
def flipF(n s q:Int) : Int:=bits .xor .i64 s (wr (1*2^(n-1-q).toNat))
def turnOf(k:Int) : Int:=if k=4 then 4 else if k=5 then 2 else if k=6 then 6 else if k=7 then 1 else 7
theorem Xg7{k:Int}(h1:4≤k)(h2:k≤8) : ([4,2,6,1,7] : List Int)[(k-4).toNat]? = some (turnOf k):=by
 have:k=4∨k=5∨k=6∨k=7∨k=8:=by omega
 rcases this with rfl|rfl|rfl|rfl|rfl<;>rfl
def dHalf:Dy:=⟨⟨1,0,0,0⟩,1⟩
def oneL(k:Int) : List Dy:=
 if k=1 then [dHalf,dHalf,dHalf,dNeg dHalf] else if k=2 then [dZ,dPow 0,dPow 0,dZ] else if k=3 then [dZ,dPow 6,dPow 2,dZ] else [dPow 0,dZ,dZ,dPow (turnOf k)]
theorem Own.of_blkL{α:Type}{w:World}{B0 b k:Nat}{E:TypeId}{sz:Nat}{enc:α→List Value}{cs:List Value}{l:List α}(hsz:∀ x,(enc x).length=sz)(h:Blk w b E cs)(hb:B0≤b)(hc:l.flatMap enc=cs)(hl:l.length=k)(hk:k≤maxLen) : Own w B0 E sz enc (some ⟨b,0,none⟩) k l:=by
 subst hc;subst hl
 have h1:=X00 hsz l
 refine ⟨h1,.inr ⟨b,l.length,_,rfl,hb,h,Nat.le_refl _,hk,?_,?_⟩⟩
 ·simpa using h1
 ·rw [← h1];exact List.take_length
end Go.Proofs.YtlfjcmldfbfdbaaGreat
namespace Go.Proofs.YtlfjcmldfbfdbaaGreat
open Go.RowKit
structure Cx where (n:Int) (gs:List Gt)
def gOk(n:Int)(x:Gt) : Bool:=
 inR n 1 5&&inR x.k 1 12&&(if x.k=12 then x.a==0&&x.b==0 else if inR x.k 9 11=true then inR x.a 0 (n-1)&&inR x.b 0 (n-1)&&x.a != x.b else inR x.a 0 (n-1)&&x.b==0)
def cOk(c:Cx) : Bool:=inR c.n 1 5&&decide ((c.gs.length:Int)≤400)&&!(c.gs.any fun x=>!gOk c.n x)
def eqPhT(p q:Mx)(k:Nat) : Bool:=(scaleI q (dPow k)).isSome&&(decide (p.rows=((scaleI q (dPow k)).getD mZ).rows)&&decide (p.cols=((scaleI q (dPow k)).getD mZ).cols)&&decide (p.cells=((scaleI q (dPow k)).getD mZ).cells))
def eqPh(p q:Mx) : Bool:=(List.range 8).any (eqPhT p q)
def sRing(x:Rg) : Rg:=if rOk x=true then x else ⟨0,0,0,0⟩
def sRaiseN:Nat→Bool→Dy→Bool×Dy
 | 0,f,x=>(f,x)
 | n+1,f,x=>sRaiseN n (f||!rOk (rRoot x.num)) ⟨sRing (rRoot x.num),x.exp+1⟩
def sAdd(f:Bool)(x y:Dy) : Bool×Dy:=
 ((sRaiseN ((sRaiseN (y.exp-x.exp).toNat f x).2.exp-y.exp).toNat (sRaiseN (y.exp-x.exp).toNat f x).1 y).1||!rOk (rAdd (sRaiseN (y.exp-x.exp).toNat f x).2.num (sRaiseN ((sRaiseN (y.exp-x.exp).toNat f x).2.exp-y.exp).toNat (sRaiseN (y.exp-x.exp).toNat f x).1 y).2.num),
 dLow (sRing (rAdd (sRaiseN (y.exp-x.exp).toNat f x).2.num (sRaiseN ((sRaiseN (y.exp-x.exp).toNat f x).2.exp-y.exp).toNat (sRaiseN (y.exp-x.exp).toNat f x).1 y).2.num)) (sRaiseN (y.exp-x.exp).toNat f x).2.exp)
def sMul(f:Bool)(x y:Dy) : Bool×Dy:=
 if 60<x.exp+y.exp then (true,dZ) else (f||!rOk (rMul x.num y.num),dLow (sRing (rMul x.num y.num)) (x.exp+y.exp))
theorem X5x{f1 f:Bool}{x1 x:Dy}{m:Int}{k:Nat}(h:sRaiseN (m-x1.exp).toNat f1 x1=sRaiseN k f x)(hlt:x1.exp<m) :
  sRaiseN (m-(x1.exp+1)).toNat (f1||!rOk (rRoot x1.num)) ⟨sRing (rRoot x1.num),x1.exp+1⟩=sRaiseN k f x:=by
 rw [← h]
 obtain ⟨j,hj⟩ : ∃ j,(m-x1.exp).toNat=j+1:=⟨(m-x1.exp).toNat-1,by omega⟩
 rw [hj,show (m-(x1.exp+1)).toNat=j from by omega]
 rfl
theorem X62{f1 f:Bool}{x1 x:Dy}{m:Int}{k:Nat}(h:sRaiseN (m-x1.exp).toNat f1 x1=sRaiseN k f x)(hlt:¬ x1.exp<m) : sRaiseN k f x=(f1,x1):=by
 rw [← h,show (m-x1.exp).toNat=0 from by omega]
 rfl
theorem X21(n s q:Int) : bitF n s q=0∨bitF n s q=1:=by
 have key:∀ b:BitVec 64,IntKind.i64.wrap ((b &&& BitVec.ofInt 64 1).toNat:Int)=0∨IntKind.i64.wrap ((b &&& BitVec.ofInt 64 1).toNat:Int)=1:=fun b=>by
  have:(BitVec.ofInt 64 1).toNat=1:=by decide
  have h:(b &&& BitVec.ofInt 64 1).toNat=0∨(b &&& BitVec.ofInt 64 1).toNat=1:=by
   rw [BitVec.toNat_and,this,Nat.and_one_is_mod]
   omega
  rcases h with h|h<;>rw [h]
  ·exact .inl rfl
  ·exact .inr rfl
 exact key _
theorem X0m{n:Int}{g:Gt}(h:gOk n g=true) : (1≤n∧n≤5)∧(1≤g.k∧g.k≤12)∧(g.k≠12→0≤g.a∧g.a<n)∧(9≤g.k∧g.k≤11→0≤g.b∧g.b<n∧g.a≠g.b):=by
 simp only [gOk,Bool.and_eq_true,Xh] at h
 obtain ⟨⟨h1,h2⟩,h3⟩:=h
 refine ⟨h1,h2,fun hk=>?_,fun hk=>?_⟩
 ·rw [if_neg hk] at h3
  split at h3<;>simp only [Bool.and_eq_true,Xh] at h3<;>omega
 ·rw [if_neg (by omega),if_pos hk] at h3
  simp only [Bool.and_eq_true,Xh,bne_iff_ne] at h3
  exact ⟨h3.1.2.1,by omega,h3.2⟩
def toS(n:Int)(g:Gt)(col:Int) : Int:=
 if g.k=9 then (if bitF n col g.a=1 then flipF n col g.b else col) else if g.k=11 then (if bitF n col g.a≠bitF n col g.b then flipF n (flipF n col g.a) g.b else col) else col
def valS(n:Int)(g:Gt)(col:Int) : Dy:=if g.k=12 then dPow 1 else if g.k=10∧bitF n col g.a=1∧bitF n col g.b=1 then dPow 4 else dPow 0
def cellS(n:Int)(g:Gt)(row col:Int) : Dy:=
 if g.k≤8 then (if bits .andNot .i64 (bits .xor .i64 row col) (wr (1*2^(n-1-g.a).toNat))≠0 then dZ else (oneL g.k).getD (2*bitF n row g.a+bitF n col g.a).toNat dZ)
 else if row=toS n g col then valS n g col else dZ
theorem Xgr(k:Int) : (oneL k).length=4:=by unfold oneL;split<;>(try split)<;>(try split)<;>rfl
theorem Xgh{k:Int}{m:Nat}(h:m<4) : (oneL k)[m]? = some ((oneL k).getD m dZ):=by
 rw [List.getD_eq_getElem?_getD,List.getElem?_eq_getElem (by rw [Xgr];exact h)];rfl
theorem X0t{i j:Int}(h:(i==j)=false) : ¬ i=j:=by simpa using h
theorem Xic{P:Program}{a:Act}{w:World}{n:Nat}{e:Env}{ty:TypeId}{pos:String}{af:Array Edge}{g:Option (Nat×Bool)}{d:Option Tmp}{t t':TypeId}{x y:Operand}{j:Int}{k:IntKind}{m D:Nat}(hf:Fr a n e)(hx:ev e x=some (.int .i64 1))(hy:ev e y=some (.int k j))(hj:j=(m:Int))(hD:D=2^m∧m≤30) : Ev P ⟨d,.binOp .shl t x y t',ty,pos,af,g⟩ a w (.int .i64 (D:Int)):=by
 have h:=Xfp (P:=P) (w:=w) (d:=d) (ty:=ty) (pos:=pos) (af:=af) (g:=g) (t:=t) (t':=t') (i:=1) hf hx hy hj (by omega)
 have h2:IntKind.i64.wrap (1*2^m)=(D:Int):=by
  rw [hD.1]
  have h3:(2:Nat)^m≤2^30:=Nat.pow_le_pow_right (by decide) hD.2
  have h4:(2:Int)^m=((2^m:Nat) : Int):=by simp
  rw [Int.one_mul,h4]
  exact IntWalk.i64_in _ ⟨by omega,by omega⟩
 rwa [h2] at h
theorem Xbx{P:Program}{w:World}{n:Nat}{e:Env}{ty:TypeId}{pos:String}{af:Array Edge}{g:Option (Nat×Bool)}{d:Option Tmp}{t t':TypeId}{x y:Operand}{j:Int}{k:IntKind}{m D:Nat}(hx:ev e x=some (.int .i64 1))(hy:ev e y=some (.int k j))(hj:j=(m:Int))(hD:D=2^m∧m≤30) : EvW P ⟨d,.binOp .shl t x y t',ty,pos,af,g⟩ n e w (.int .i64 (D:Int)):=fun a hf=>Xic hf hx hy hj hD
def gridF(f:Nat→Nat→Dy)(C:Nat)(m:Nat) : Dy:=f (m/C) (m % C)
def gridL(f:Nat→Nat→Dy)(C:Nat)(N:Nat) : List Dy:=(List.range N).map (gridF f C)
theorem X6t{f:Nat→Nat→Dy}{C i j:Nat}(hj:j<C) : gridF f C (i*C+j)=f i j:=by
 unfold gridF
 have h1:(i*C+j)/C=i:=by rw [Nat.mul_comm,Nat.mul_add_div (by omega),Nat.div_eq_of_lt hj];omega
 have h2:(i*C+j) % C=j:=by rw [Nat.mul_comm,Nat.mul_add_mod,Nat.mod_eq_of_lt hj]
 rw [h1,h2]
theorem Xbd{f:Nat→Nat→Dy}{C i j:Nat}(hj:j<C) : gridL f C (i*C+(j+1))=gridL f C (i*C+j)++[f i j]:=by
 unfold gridL
 rw [show i*C+(j+1)=(i*C+j)+1 from rfl,List.range_succ,List.map_append,List.map_singleton,X6t hj]
theorem X2m(f:Nat→Nat→Dy)(C N:Nat) : (gridL f C N).length=N:=by simp [gridL]
def gateS(n:Int)(g:Gt) : Mx:=⟨((2^n.toNat:Nat) : Int),((2^n.toNat:Nat) : Int),gridL (fun i j=>cellS n g i j) (2^n.toNat) (2^n.toNat*2^n.toNat)⟩
theorem X4s{n:Int}(h:n≤5) : 2^n.toNat≤32:=Nat.pow_le_pow_right (n:=2) (by decide) (show n.toNat≤5 by omega)
def dTurn(k:Int)(x:Dy) : Dy:=⟨rTurn x.num k,x.exp⟩
def turnedS(p q:Mx)(k:Int) : Bool:=decide (p.rows=q.rows)&&decide (p.cols=q.cols)&&decide (p.cells=q.cells.map (dTurn k))
def phaseS(p q:Mx) : Bool:=(List.range 8).any fun k=>turnedS p q (k:Int)
end Go.Proofs.YtlfjcmldfbfdbaaGreat
namespace Go.Proofs.YtlfjcmldfbfdbaaGreat
open Go.RowKit
section
variable {n : Int} {g : Gt} (hn : 1 ≤ n ∧ n ≤ 5)
include hn
theorem Xpx(h:inR g.k 1 8=true) : gOk n g=(inR g.a 0 (n-1)&&g.b==0):=by
 have h1:=Xh.1 h
 have e1:inR n 1 5=true:=Xh.2 hn
 have e2:inR g.k 1 12=true:=Xh.2 (by omega)
 have e3:¬ inR g.k 9 11=true:=fun h=>by have:=Xh.1 h;omega
 rw [gOk,e1,e2,if_neg (by omega),if_neg e3];rfl
theorem Xq4(h:inR g.k 9 11=true) : gOk n g=(inR g.a 0 (n-1)&&inR g.b 0 (n-1)&&g.a != g.b):=by
 have h1:=Xh.1 h
 have e1:inR n 1 5=true:=Xh.2 hn
 have e2:inR g.k 1 12=true:=Xh.2 (by omega)
 rw [gOk,e1,e2,if_neg (by omega),if_pos h];rfl
theorem Xoz(h1:inR g.k 1 8=false)(h2:inR g.k 9 11=false) : gOk n g=(g.k==12&&g.a==0&&g.b==0):=by
 have e1:inR n 1 5=true:=Xh.2 hn
 by_cases hk:g.k=12
 ·have e2:inR g.k 1 12=true:=Xh.2 (by omega)
  rw [gOk,e1,e2,if_pos hk,hk];rfl
 ·have e2:inR g.k 1 12=false:=by
   cases h:inR g.k 1 12 with
   | false=>rfl
   | true=>
    have h3:=Xh.1 h
    rcases (show g.k<9∨9≤g.k by omega) with h4|h4
    ·rw [Xh.2 (by omega)] at h1;cases h1
    ·rw [Xh.2 (by omega)] at h2;cases h2
  have e3:(g.k==12)=false:=by simpa using hk
  rw [gOk,e1,e2,e3];rfl
end
def entryI(k i j:Int) : Dy:=
 if k=1 then (if i=1∧j=1 then ⟨⟨-1,0,0,0⟩,1⟩ else dHalf) else if k=2∧i≠j then ⟨⟨1,0,0,0⟩,0⟩ else if k=3∧i≠j then dPow (2+4*j)
 else if k=2∨k=3∨i≠j then dZ else if i=0 then ⟨⟨1,0,0,0⟩,0⟩ else dPow (turnOf k)
theorem Xdn{k:Int}(h1:4≤k)(h2:k≤8) : (([(4,4,0),(5,2,1),(6,6,2),(7,1,3),(8,7,4)] : List (Int×Int×Nat)).find? fun p=>p.1==k).map (fun p=>p.2.1)=some (turnOf k):=by
 have:k=4∨k=5∨k=6∨k=7∨k=8:=by omega
 rcases this with rfl|rfl|rfl|rfl|rfl<;>rfl
theorem Xd8(k:Int) : inR (turnOf k) (-1000) 1000=true:=by
 unfold turnOf;split<;>(try split)<;>(try split)<;>(try split)<;>rfl
def czI(n:Int)(g:Gt)(i:Int) : Bool:=g.k==10&&bitF n i g.a==1&&bitF n i g.b==1
def cellI(n:Int)(g:Gt)(i j:Int) : Dy:=
 if g.k=12 then (if i=j then dPow 1 else dZ)
 else if inR g.k 9 11=true then (if toS n g i=j then dPow (4*(if czI n g i=true then 1 else 0)) else dZ)
 else if i=j∨flipF n i g.a=j then entryI g.k (bitF n i g.a) (bitF n j g.a) else dZ
def gateI(n:Int)(g:Gt) : Option Mx:=if gOk n g=true then matOf ((2^n.toNat:Nat) : Int) ((2^n.toNat:Nat) : Int) fun i j=>some (cellI n g i j) else none
end Go.Proofs.YtlfjcmldfbfdbaaGreat
set_option maxRecDepth 4000
namespace Go.Proofs.YtlfjcmldfbfdbaaGreat
open Go.RowKit
theorem F91(w0:World)(n:Int)(lo:Int)(hi:Int) : Ret Tryz.prog 120 [vi n,vi lo,vi hi] w0 (fun v w=>v=.bool (inR n lo hi)∧w0=w):=by
 refine enter Tryz.func120 rfl 15 rfl rfl ?_
 intro a hf
 have hW:Below w0.heap.size w0 w0:=Below.refl _ _
 refine Zs hf fun _ hK1=>?_
 refine Za rfl ?_
 refine Zt hK1 fun a hf=>?_
 refine wp_seq_k fun _ hK2=>?_
 refine X0g (fun a w=>Fr a 15 [(6,.bool ((decide (lo≤n))&&(decide (n≤hi))))]∧w0=w) ?_ ?_
 ·refine Zr hf ?_
  refine Zm rfl<|Zm rfl<|Ze (Xb3 rfl rfl)<|Zm rfl ?_
  refine Zg 10 rfl (fun hg3=>?_) (fun hg3=>?_)
  ·refine Zv ⟨_,_,rfl,rfl,hg3⟩ (X8 rfl) ?_
   refine Zv ⟨_,_,rfl,rfl,hg3⟩ (X8 rfl) ?_
   refine Zv ⟨_,_,rfl,rfl,hg3⟩ (Xb3 rfl rfl) ?_
   refine Ze (Xg rfl hg3 rfl)<|Za rfl ?_
   refine Zn fun a hf=>?_
   exact ⟨hf.sub ⟨X1 rfl (by first|rfl|(simp only [hg3,bs];done)|simp [hg3]),trivial⟩,rfl⟩
  refine Zp ⟨_,_,rfl,rfl,hg3⟩ ?_
  refine Zp ⟨_,_,rfl,rfl,hg3⟩ ?_
  refine Zp ⟨_,_,rfl,rfl,hg3⟩ ?_
  refine Ze (Xf rfl hg3 rfl)<|Za rfl ?_
  refine Zn fun a hf=>?_
  exact ⟨hf.sub ⟨X1 rfl (by first|rfl|(simp only [hg3,bs];done)|simp [hg3]),trivial⟩,rfl⟩
 rintro a _ ⟨hf,rfl⟩
 refine hK2 _ _ ?_
 refine wp_ret (X2 hf (Xj hf rfl rfl) ?_)
 exact ⟨by simp [inR, *],rfl⟩
theorem F85(w0:World)(n:Int)(lo:Int)(hi:Int) : Ret Tryz.prog 53 [vi n,vi lo,vi hi] w0 (fun v w=>v=.bool (inR n lo hi)∧w0=w):=by
 refine enter Tryz.func53 rfl 15 rfl rfl ?_
 intro a hf
 have hW:Below w0.heap.size w0 w0:=Below.refl _ _
 refine Zs hf fun _ hK1=>?_
 refine Za rfl ?_
 refine Zt hK1 fun a hf=>?_
 refine wp_seq_k fun _ hK2=>?_
 refine X0g (fun a w=>Fr a 15 [(6,.bool ((decide (lo≤n))&&(decide (n≤hi))))]∧w0=w) ?_ ?_
 ·refine Zr hf ?_
  refine Zm rfl<|Zm rfl<|Ze (Xgs rfl rfl)<|Zm rfl ?_
  refine Zg 10 rfl (fun hg3=>?_) (fun hg3=>?_)
  ·refine Zv ⟨_,_,rfl,rfl,hg3⟩ (X8 rfl) ?_
   refine Zv ⟨_,_,rfl,rfl,hg3⟩ (X8 rfl) ?_
   refine Zv ⟨_,_,rfl,rfl,hg3⟩ (Xb3 rfl rfl) ?_
   refine Ze (Xg rfl hg3 rfl)<|Za rfl ?_
   refine Zn fun a hf=>?_
   exact ⟨hf.sub ⟨X1 rfl (by first|rfl|(simp only [hg3,bs];done)|simp [hg3]),trivial⟩,rfl⟩
  refine Zp ⟨_,_,rfl,rfl,hg3⟩ ?_
  refine Zp ⟨_,_,rfl,rfl,hg3⟩ ?_
  refine Zp ⟨_,_,rfl,rfl,hg3⟩ ?_
  refine Ze (Xf rfl hg3 rfl)<|Za rfl ?_
  refine Zn fun a hf=>?_
  exact ⟨hf.sub ⟨X1 rfl (by first|rfl|(simp only [hg3,bs];done)|simp [hg3]),trivial⟩,rfl⟩
 rintro a _ ⟨hf,rfl⟩
 refine hK2 _ _ ?_
 refine wp_ret (X2 hf (Xj hf rfl rfl) ?_)
 exact ⟨by simp [inR, *],rfl⟩
theorem Xi5(w0:World)(x:Int)(y:Int) : Ret Tryz.prog 63 [vi x,vi y] w0 (fun v w=>v=vi (max x y)∧w0=w):=by
 refine enter Tryz.func63 rfl 10 rfl rfl ?_
 intro a hf
 have hW:Below w0.heap.size w0 w0:=Below.refl _ _
 refine Zs hf fun _ hK1=>?_
 refine Za rfl ?_
 refine Zt hK1 fun a hf=>?_
 refine wp_seq_k fun _ hK2=>?_
 refine Zs hf fun _ hK3=>?_
 refine Zm rfl<|Zm rfl<|Ze (X5r rfl rfl) ?_
 refine Zt hK3 fun a hf=>?_
 refine Xm hf rfl (fun hc4=>?_) (fun hc4=>?_)
 ·have hc4b:=hc4
  have hc4:=of_decide_eq_true hc4
  refine Zs hf fun _ hK5=>?_
  refine Zm rfl<|Za rfl ?_
  refine Zt hK5 fun a hf=>?_
  refine wp_ret ?_
  refine X7 ?_
  refine X2 hf (Xj hf rfl rfl) ?_
  exact ⟨by congr 1;omega,rfl⟩
 have hc4b:=hc4
 have hc4:=of_decide_eq_false hc4
 refine wp_skip ?_
 refine hK2 _ _ ?_
 refine Zs hf fun _ hK6=>?_
 refine Zm rfl<|Za rfl ?_
 refine Zt hK6 fun a hf=>?_
 refine wp_ret (X2 hf (Xj hf rfl rfl) ?_)
 exact ⟨by congr 1;omega,rfl⟩
theorem F99(w0:World)(k:Int) : Ret Tryz.prog 70 [vi k] w0 (fun v w=>v=.bool (inR k 9 11)∧w0=w):=by
 refine enter Tryz.func70 rfl 5 rfl rfl ?_
 intro a hf
 have hW:Below w0.heap.size w0 w0:=Below.refl _ _
 refine Zs hf fun _ hK1=>?_
 refine Za rfl ?_
 refine Zt hK1 fun a hf=>?_
 refine Zs hf fun _ hK2=>?_
 refine Zm rfl ?_
 refine Zf (Vc (F91 _ k 9 11) X3e) ?_;rintro _ _ ⟨rfl,rfl⟩
 refine Za rfl ?_
 refine Zt hK2 fun a hf=>?_
 refine wp_ret (X2 hf (Xj hf rfl rfl) ?_)
 exact ⟨rfl,rfl⟩
theorem Xpa(w0:World)(Al:Option Addr)(cl:Nat)(l:List Int)(hr_l:Rd w0 w0.heap.size 3 encI Al l)(lo:Int)(hi:Int)(hln:l.length≤2305843009213693951) : Ret Tryz.prog 232 [.slice Al l.length cl,vi lo,vi hi] w0 (fun v w=>v=.bool (l.all fun n=>inR n lo hi)∧Below w0.heap.size w0 w):=by
 refine enter Tryz.func232 rfl 21 rfl rfl ?_
 intro a hf
 have hW:Below w0.heap.size w0 w0:=Below.refl _ _
 refine Zs hf fun _ hK2=>?_
 refine Za rfl ?_
 refine Zt hK2 fun a hf=>?_
 refine wp_seq_k fun _ hK3=>?_
 refine Zs hf fun _ hK4=>?_
 refine Zm rfl<|Ze (X14 rfl X03)<|Zm rfl ?_
 refine Zt hK4 fun a hf=>?_
 refine wp_block ?_
 refine X0c (σ:=Nat) (fun (k:Nat) (a:Act) (w:World)=>Fr a 21 [(1,vi lo),(2,vi hi),(9,.slice Al l.length cl),(10,vi (l.length:Int)),(11,vi (k:Int))]∧(k≤l.length)∧((l.take k).all (fun n=>inR n lo hi)=true)∧Below w0.heap.size w0 w) (fun (k:Nat)=>l.length+1-k) 0 ?_ ?_
 ·exact ⟨hf.sub ⟨rfl,rfl,rfl,rfl,rfl,trivial⟩,(Nat.zero_le _),(by simp),hW⟩
 rintro k a w1 ⟨hf,hk,hpre,hW⟩
 refine Zs hf fun _ hK5=>?_
 refine Ze (X16 rfl rfl) ?_
 refine Zt hK5 fun a hf=>?_
 refine wp_seq_k fun _ hK6=>?_
 refine Xm hf rfl (fun hc7=>?_) (fun hc7=>?_)
 ·have hc7b:=hc7
  have hc7:=of_decide_eq_true hc7
  obtain ⟨u8,hu8⟩:=Xx (l:=l) (k:=k) (by omega)
  refine wp_skip ?_
  refine hK6 _ _ ?_
  refine wp_seq_k fun _ hK9=>?_
  refine wp_block ?_
  refine Zs hf fun _ hK10=>?_
  refine Zi (k:=k) (u:=u8) (enc:=encI) (l:=l) trivial rfl rfl X03 X1a Xp (hr_l.below' hW) hu8 rfl ?_;intro p12 hat11
  refine Ze (X0 rfl X3 hat11)<|Za rfl ?_
  refine Zt hK10 fun a hf=>?_
  refine Zs hf fun _ hK13=>?_
  refine Zm rfl<|Zm rfl<|Zm rfl ?_
  refine Zf (Vc (F85 _ u8 lo hi) X4z) ?_;rintro _ _ ⟨rfl,rfl⟩
  refine Ze (X15 rfl) ?_
  refine Zt hK13 fun a hf=>?_
  refine Xm hf rfl (fun hc14=>?_) (fun hc14=>?_)
  ·have hc14b:=hc14
   have hb2:(l.all fun n=>inR n lo hi)=false:=X82 hu8 (by simpa using hc14)
   refine Zs hf fun _ hK15=>?_
   refine Za rfl ?_
   refine Zt hK15 fun a hf=>?_
   refine wp_ret ?_
   refine X05 ?_
   refine X7 ?_
   refine X7 ?_
   refine X05 ?_
   refine X7 ?_
   refine X2 hf (Xj hf rfl rfl) ?_
   exact ⟨by rw [hb2],hW⟩
  have hc14b:=hc14
  have hok:inR u8 lo hi=true:=by simpa using hc14
  refine wp_skip ?_
  refine Xr ?_
  refine hK9 _ _ ?_
  refine Zr hf ?_
  refine Ze (X0a rfl rfl (by omega) (by omega))<|Zm rfl ?_
  refine Zn fun a hf=>?_
  refine Xz ?_
  exact ⟨k+1,⟨hf.sub ⟨rfl,rfl,rfl,rfl,rfl,trivial⟩,(by omega),(X1x hpre hu8 hok),hW⟩,(by omega)⟩
 have hc7b:=hc7
 have hc7:=of_decide_eq_false hc7
 refine wp_exit ?_
 refine Xu ?_
 refine Xu ?_
 refine X0f ?_
 refine hK3 _ _ ?_
 refine Zs hf fun _ hK16=>?_
 refine Za rfl ?_
 refine Zt hK16 fun a hf=>?_
 refine wp_ret (X2 hf (Xj hf rfl rfl) ?_)
 have hb2:(l.all fun n=>inR n lo hi)=true:=X1s hpre (by omega)
 exact ⟨by rw [hb2],hW⟩
theorem Xpt(w0:World)(x:Rg) : Ret Tryz.prog 221 [.agg #[vi x.a,vi x.b,vi x.c,vi x.d]] w0 (fun v w=>v=.bool (rOk x)∧Below w0.heap.size w0 w):=by
 refine enter Tryz.func221 rfl 13 rfl rfl ?_
 intro a hf
 have hW:Below w0.heap.size w0 w0:=Below.refl _ _
 refine Zs hf fun _ hK1=>?_
 refine Zf (X0j (zs:=[vi x.a,vi x.b,vi x.c,vi x.d]) rfl rfl) ?_;rintro _ w1 ⟨b2,rfl,hl2,hE,hB2⟩
 have hlo2:=Nat.le_trans hW.size hl2
 replace hW:=btr hW hE
 refine Za rfl ?_
 refine Zt hK1 fun a hf=>?_
 refine Zs hf fun _ hK3=>?_
 refine Ze (Vd rfl X07 0)<|Ze (X0 rfl X3 (hB2.at 0))<|Ze (Vd rfl X09 1)<|Ze (X0 rfl X3 (hB2.at 1))<|Ze (Vd rfl X08 2) ?_
 refine Ze (X0 rfl X3 (hB2.at 2))<|Ze (Vd rfl X0b 3)<|Ze (X0 rfl X3 (hB2.at 3)) ?_
 refine Zf (Xd (k:=4) (vs:=[vi x.a,vi x.b,vi x.c,vi x.d]) (zs:=[vi x.a,vi x.b,vi x.c,vi x.d]) rfl X03 X18 rfl rfl) ?_;rintro _ w2 ⟨b4,rfl,hl4,hE,hB4⟩
 have hlo4:=Nat.le_trans hW.size hl4
 replace hB2:=hB2.below hE
 replace hW:=btr hW hE
 refine Zf (Vc (Xpa _ (some ⟨b4,0,none⟩) 4 ([x.a,x.b,x.c,x.d]) (Rd.of_blk hB4 rfl _ hB4.lt) (-1000000000) 1000000000 (by simp)) Xk8) ?_;rintro _ w3 ⟨rfl,hE⟩
 replace hB2:=hB2.below hE
 replace hB4:=hB4.below hE
 replace hW:=btr hW hE
 refine Za rfl ?_
 refine Zt hK3 fun a hf=>?_
 refine wp_ret (X2 hf (Xj hf rfl rfl) ?_)
 exact ⟨by simp [rOk,Bool.and_assoc],hW⟩
theorem Xq9(w0:World)(x:Rg)(k:Int) : Ret Tryz.prog 187 [.agg #[vi x.a,vi x.b,vi x.c,vi x.d],vi k] w0 (fun v w=>v=rV (rTurn x k)∧Below w0.heap.size w0 w):=by
 refine enter Tryz.func187 rfl 24 rfl rfl ?_
 intro a hf
 have hW:Below w0.heap.size w0 w0:=Below.refl _ _
 refine Zs hf fun _ hK1=>?_
 refine Zf (X0j (zs:=[vi x.a,vi x.b,vi x.c,vi x.d]) rfl rfl) ?_;rintro _ w1 ⟨b2,rfl,hl2,hE,hB2⟩
 have hlo2:=Nat.le_trans hW.size hl2
 replace hW:=btr hW hE
 refine Zf (X6 (zs:=[vi 0,vi 0,vi 0,vi 0]) X1t rfl) ?_;rintro _ w2 ⟨b3,rfl,hl3,hE,hB3⟩
 have hne2_3:b2≠b3:=by have:=hB2.lt;omega
 have hlo3:=Nat.le_trans hW.size hl3
 replace hB2:=hB2.below hE
 replace hW:=btr hW hE
 refine Zt hK1 fun a hf=>?_
 refine wp_seq_k fun _ hK4=>?_
 refine Zs hf fun _ hK5=>?_
 refine Zm rfl<|Ze (X6x rfl rfl rfl)<|Ze (X1u rfl rfl)<|Ze (X6x rfl rfl rfl)<|Za rfl ?_
 refine Zt hK5 fun a hf=>?_
 refine wp_block ?_
 have hj:turns k=((turns k).toNat:Int):=by have:=X2w k;omega
 rw [show (wr (k.tmod 8+8)).tmod 8=turns k from rfl,hj] at hf
 have hj8:=(X2w k).2
 refine X0c (σ:=Rg×Nat) (fun (s:Rg×Nat) (a:Act) (w:World)=>match s with|(y,j)=>Fr a 24 [(1,vi (j:Int)),(2,.pointer (some ⟨b2,0,none⟩)),(4,.pointer (some ⟨b3,0,none⟩))]∧(rTurnN j y=rTurn x k)∧(j<8)∧Blk w b2 96 [vi y.a,vi y.b,vi y.c,vi y.d]∧Blk w b3 96 [vi 0,vi 0,vi 0,vi 0]∧Below w0.heap.size w0 w) (fun (s:Rg×Nat)=>match s with|(y,j)=>j) (x,(turns k).toNat) ?_ ?_
 ·exact ⟨hf.sub ⟨rfl,rfl,rfl,trivial⟩,rfl,(by omega),hB2,hB3,hW⟩
 rintro ⟨y,j⟩ a w3 ⟨hf,hinv,hj8,hB2,hB3,hW⟩
 refine wp_seq_k fun _ hK6=>?_
 refine Zs hf fun _ hK7=>?_
 refine Zm rfl<|Ze (X5r rfl rfl) ?_
 refine Zt hK7 fun a hf=>?_
 refine Xm hf rfl (fun hc8=>?_) (fun hc8=>?_)
 ·have hc8b:=hc8
  have hc8:=of_decide_eq_true hc8
  refine wp_skip ?_
  refine hK6 _ _ ?_
  refine wp_seq_k fun _ hK9=>?_
  refine wp_block ?_
  refine Zr hf ?_
  refine Ze (Vd rfl X0b 3)<|Ze (X0 rfl X3 (hB2.at 3))<|Ze (Xee rfl)<|Ze (Vd rfl X07 0)<|Ze (X0 rfl X3 (hB2.at 0)) ?_
  refine Ze (Vd rfl X09 1)<|Ze (X0 rfl X3 (hB2.at 1))<|Ze (Vd rfl X08 2)<|Ze (X0 rfl X3 (hB2.at 2))<|Ze (Xt (ps:=[(0,vi (wr (-y.d))),(1,vi y.a),(2,vi y.b),(3,vi y.c)]) (cs:=[vi (wr (-y.d)),vi y.a,vi y.b,vi y.c]) rfl (fun _=>by first|rfl|kernel_rfl)) ?_
  refine Zo (Vw [vi (wr (-y.d)),vi y.a,vi y.b,vi y.c] X0s hB2) ?_;rintro _ w4 ⟨ho,hb⟩
  have hold:=hB2
  replace hB3:=hB3.only ho (by omega)
  replace hW:=Below.only hW ho hlo2
  clear hold
  have hB2:=hb
  clear hb ho
  refine Zn fun a hf=>?_
  refine Xr ?_
  refine hK9 _ _ ?_
  refine Zr hf ?_
  refine Zm rfl<|Ze (X1d rfl rfl (by omega) (by omega))<|Za rfl ?_
  refine Zn fun a hf=>?_
  have hjj:((j:Int)-1)=((j-1:Nat) : Int):=by omega
  rw [hjj] at hf
  refine Xz ?_
  exact ⟨(rOm y,j-1),⟨hf.sub ⟨rfl,rfl,rfl,trivial⟩,(by rw [← hinv];obtain ⟨m,rfl⟩ : ∃ m,j=m+1:=⟨j-1,by omega⟩;rfl),(by omega),hB2,hB3,hW⟩,(by first|omega|(dsimp only;omega))⟩
 have hc8b:=hc8
 have hc8:=of_decide_eq_false hc8
 refine wp_exit ?_
 refine Xu ?_
 refine Xu ?_
 refine X0f ?_
 refine hK4 _ _ ?_
 refine Zs hf fun _ hK10=>?_
 refine Ze (Vn X01 hB2) ?_
 refine Zo (Vw [vi y.a,vi y.b,vi y.c,vi y.d] X0s hB3) ?_;rintro _ w5 ⟨ho,hb⟩
 have hold:=hB3
 replace hB2:=hB2.only ho (by omega)
 replace hW:=Below.only hW ho hlo3
 clear hold
 have hB3:=hb
 clear hb ho
 refine Zt hK10 fun a hf=>?_
 refine wp_ret (X2 hf (Xj hf rfl (ResV.cellN (l:=[vi y.a,vi y.b,vi y.c,vi y.d]) rfl X01 (hB3.at 0) rfl)) ?_)
 have hj0:j=0:=by omega
 subst hj0
 rw [← hinv]
 exact ⟨rfl,hW⟩
theorem Xmz(w0:World)(x:Rg) : Ret Tryz.prog 200 [.agg #[vi x.a,vi x.b,vi x.c,vi x.d]] w0 (fun v w=>v=rV (rRoot x)∧Below w0.heap.size w0 w):=by
 refine enter Tryz.func200 rfl 24 rfl rfl ?_
 intro a hf
 have hW:Below w0.heap.size w0 w0:=Below.refl _ _
 refine Zs hf fun _ hK1=>?_
 refine Zf (X0j (zs:=[vi x.a,vi x.b,vi x.c,vi x.d]) rfl rfl) ?_;rintro _ w1 ⟨b2,rfl,hl2,hE,hB2⟩
 have hlo2:=Nat.le_trans hW.size hl2
 replace hW:=btr hW hE
 refine Zf (X6 (zs:=[vi 0,vi 0,vi 0,vi 0]) X1t rfl) ?_;rintro _ w2 ⟨b3,rfl,hl3,hE,hB3⟩
 have hne2_3:b2≠b3:=by have:=hB2.lt;omega
 have hlo3:=Nat.le_trans hW.size hl3
 replace hB2:=hB2.below hE
 replace hW:=btr hW hE
 refine Zt hK1 fun a hf=>?_
 refine Zs hf fun _ hK4=>?_
 refine Ze (Vd rfl X09 1)<|Ze (X0 rfl X3 (hB2.at 1))<|Ze (Vd rfl X0b 3)<|Ze (X0 rfl X3 (hB2.at 3))<|Ze (X33 rfl rfl) ?_
 refine Ze (Vd rfl X07 0)<|Ze (X0 rfl X3 (hB2.at 0))<|Ze (Vd rfl X08 2)<|Ze (X0 rfl X3 (hB2.at 2))<|Ze (X1u rfl rfl) ?_
 refine Ze (Vd rfl X09 1)<|Ze (X0 rfl X3 (hB2.at 1))<|Ze (Vd rfl X0b 3)<|Ze (X0 rfl X3 (hB2.at 3))<|Ze (X1u rfl rfl) ?_
 refine Ze (Vd rfl X08 2)<|Ze (X0 rfl X3 (hB2.at 2))<|Ze (Vd rfl X07 0)<|Ze (X0 rfl X3 (hB2.at 0))<|Ze (X33 rfl rfl) ?_
 refine Ze (Xt (ps:=[(0,vi (wr (x.b-x.d))),(1,vi (wr (x.a+x.c))),(2,vi (wr (x.b+x.d))),(3,vi (wr (x.c-x.a)))]) (cs:=[vi (wr (x.b-x.d)),vi (wr (x.a+x.c)),vi (wr (x.b+x.d)),vi (wr (x.c-x.a))]) rfl (fun _=>by first|rfl|kernel_rfl)) ?_
 refine Zo (Vw [vi (wr (x.b-x.d)),vi (wr (x.a+x.c)),vi (wr (x.b+x.d)),vi (wr (x.c-x.a))] X0s hB3) ?_;rintro _ w3 ⟨ho,hb⟩
 have hold:=hB3
 replace hB2:=hB2.only ho (by omega)
 replace hW:=Below.only hW ho hlo3
 clear hold
 have hB3:=hb
 clear hb ho
 refine Zt hK4 fun a hf=>?_
 refine wp_ret (X2 hf (Xj hf rfl (ResV.cellN (l:=[vi (wr (x.b-x.d)),vi (wr (x.a+x.c)),vi (wr (x.b+x.d)),vi (wr (x.c-x.a))]) rfl X01 (hB3.at 0) rfl)) ?_)
 exact ⟨rfl,hW⟩
theorem Xoy(w0:World)(x:Rg)(y:Rg) : Ret Tryz.prog 202 [.agg #[vi x.a,vi x.b,vi x.c,vi x.d],.agg #[vi y.a,vi y.b,vi y.c,vi y.d]] w0 (fun v w=>v=rV (rAdd x y)∧Below w0.heap.size w0 w):=by
 refine enter Tryz.func202 rfl 26 rfl rfl ?_
 intro a hf
 have hW:Below w0.heap.size w0 w0:=Below.refl _ _
 refine Zs hf fun _ hK1=>?_
 refine Zf (X0j (zs:=[vi x.a,vi x.b,vi x.c,vi x.d]) rfl rfl) ?_;rintro _ w1 ⟨b2,rfl,hl2,hE,hB2⟩
 have hlo2:=Nat.le_trans hW.size hl2
 replace hW:=btr hW hE
 refine Zf (X0j (zs:=[vi y.a,vi y.b,vi y.c,vi y.d]) rfl rfl) ?_;rintro _ w2 ⟨b3,rfl,hl3,hE,hB3⟩
 have hne2_3:b2≠b3:=by have:=hB2.lt;omega
 have hlo3:=Nat.le_trans hW.size hl3
 replace hB2:=hB2.below hE
 replace hW:=btr hW hE
 refine Zf (X6 (zs:=[vi 0,vi 0,vi 0,vi 0]) X1t rfl) ?_;rintro _ w3 ⟨b4,rfl,hl4,hE,hB4⟩
 have hne2_4:b2≠b4:=by have:=hB2.lt;omega
 have hne3_4:b3≠b4:=by have:=hB3.lt;omega
 have hlo4:=Nat.le_trans hW.size hl4
 replace hB2:=hB2.below hE
 replace hB3:=hB3.below hE
 replace hW:=btr hW hE
 refine Zt hK1 fun a hf=>?_
 refine Zs hf fun _ hK5=>?_
 refine Ze (Vd rfl X07 0)<|Ze (X0 rfl X3 (hB2.at 0))<|Ze (Vd rfl X07 0)<|Ze (X0 rfl X3 (hB3.at 0))<|Ze (X1u rfl rfl) ?_
 refine Ze (Vd rfl X09 1)<|Ze (X0 rfl X3 (hB2.at 1))<|Ze (Vd rfl X09 1)<|Ze (X0 rfl X3 (hB3.at 1))<|Ze (X1u rfl rfl) ?_
 refine Ze (Vd rfl X08 2)<|Ze (X0 rfl X3 (hB2.at 2))<|Ze (Vd rfl X08 2)<|Ze (X0 rfl X3 (hB3.at 2))<|Ze (X1u rfl rfl) ?_
 refine Ze (Vd rfl X0b 3)<|Ze (X0 rfl X3 (hB2.at 3))<|Ze (Vd rfl X0b 3)<|Ze (X0 rfl X3 (hB3.at 3))<|Ze (X1u rfl rfl) ?_
 refine Ze (Xt (ps:=[(0,vi (wr (x.a+y.a))),(1,vi (wr (x.b+y.b))),(2,vi (wr (x.c+y.c))),(3,vi (wr (x.d+y.d)))]) (cs:=[vi (wr (x.a+y.a)),vi (wr (x.b+y.b)),vi (wr (x.c+y.c)),vi (wr (x.d+y.d))]) rfl (fun _=>by first|rfl|kernel_rfl)) ?_
 refine Zo (Vw [vi (wr (x.a+y.a)),vi (wr (x.b+y.b)),vi (wr (x.c+y.c)),vi (wr (x.d+y.d))] X0s hB4) ?_;rintro _ w4 ⟨ho,hb⟩
 have hold:=hB4
 replace hB2:=hB2.only ho (by omega)
 replace hB3:=hB3.only ho (by omega)
 replace hW:=Below.only hW ho hlo4
 clear hold
 have hB4:=hb
 clear hb ho
 refine Zt hK5 fun a hf=>?_
 refine wp_ret (X2 hf (Xj hf rfl (ResV.cellN (l:=[vi (wr (x.a+y.a)),vi (wr (x.b+y.b)),vi (wr (x.c+y.c)),vi (wr (x.d+y.d))]) rfl X01 (hB4.at 0) rfl)) ?_)
 exact ⟨rfl,hW⟩
theorem Xos(w0:World)(x:Rg)(y:Rg) : Ret Tryz.prog 203 [.agg #[vi x.a,vi x.b,vi x.c,vi x.d],.agg #[vi y.a,vi y.b,vi y.c,vi y.d]] w0 (fun v w=>v=rV (rMul x y)∧Below w0.heap.size w0 w):=by
 refine enter Tryz.func203 rfl 98 rfl rfl ?_
 intro a hf
 have hW:Below w0.heap.size w0 w0:=Below.refl _ _
 refine Zs hf fun _ hK1=>?_
 refine Zf (X0j (zs:=[vi x.a,vi x.b,vi x.c,vi x.d]) rfl rfl) ?_;rintro _ w1 ⟨b2,rfl,hl2,hE,hB2⟩
 have hlo2:=Nat.le_trans hW.size hl2
 replace hW:=btr hW hE
 refine Zf (X0j (zs:=[vi y.a,vi y.b,vi y.c,vi y.d]) rfl rfl) ?_;rintro _ w2 ⟨b3,rfl,hl3,hE,hB3⟩
 have hne2_3:b2≠b3:=by have:=hB2.lt;omega
 have hlo3:=Nat.le_trans hW.size hl3
 replace hB2:=hB2.below hE
 replace hW:=btr hW hE
 refine Zf (X6 (zs:=[vi 0,vi 0,vi 0,vi 0]) X1t rfl) ?_;rintro _ w3 ⟨b4,rfl,hl4,hE,hB4⟩
 have hne2_4:b2≠b4:=by have:=hB2.lt;omega
 have hne3_4:b3≠b4:=by have:=hB3.lt;omega
 have hlo4:=Nat.le_trans hW.size hl4
 replace hB2:=hB2.below hE
 replace hB3:=hB3.below hE
 replace hW:=btr hW hE
 refine Zt hK1 fun a hf=>?_
 refine Zs hf fun _ hK5=>?_
 refine Ze (Vd rfl X07 0)<|Ze (X0 rfl X3 (hB2.at 0))<|Ze (Vd rfl X07 0)<|Ze (X0 rfl X3 (hB3.at 0))<|Ze (X1v rfl rfl) ?_
 refine Ze (Vd rfl X09 1)<|Ze (X0 rfl X3 (hB2.at 1))<|Ze (Vd rfl X0b 3)<|Ze (X0 rfl X3 (hB3.at 3))<|Ze (X1v rfl rfl) ?_
 refine Ze (X33 rfl rfl)<|Ze (Vd rfl X08 2)<|Ze (X0 rfl X3 (hB2.at 2))<|Ze (Vd rfl X08 2)<|Ze (X0 rfl X3 (hB3.at 2)) ?_
 refine Ze (X1v rfl rfl)<|Ze (X33 rfl rfl)<|Ze (Vd rfl X0b 3)<|Ze (X0 rfl X3 (hB2.at 3))<|Ze (Vd rfl X09 1) ?_
 refine Ze (X0 rfl X3 (hB3.at 1))<|Ze (X1v rfl rfl)<|Ze (X33 rfl rfl)<|Ze (Vd rfl X07 0)<|Ze (X0 rfl X3 (hB2.at 0)) ?_
 refine Ze (Vd rfl X09 1)<|Ze (X0 rfl X3 (hB3.at 1))<|Ze (X1v rfl rfl)<|Ze (Vd rfl X09 1)<|Ze (X0 rfl X3 (hB2.at 1)) ?_
 refine Ze (Vd rfl X07 0)<|Ze (X0 rfl X3 (hB3.at 0))<|Ze (X1v rfl rfl)<|Ze (X1u rfl rfl)<|Ze (Vd rfl X08 2) ?_
 refine Ze (X0 rfl X3 (hB2.at 2))<|Ze (Vd rfl X0b 3)<|Ze (X0 rfl X3 (hB3.at 3))<|Ze (X1v rfl rfl)<|Ze (X33 rfl rfl) ?_
 refine Ze (Vd rfl X0b 3)<|Ze (X0 rfl X3 (hB2.at 3))<|Ze (Vd rfl X08 2)<|Ze (X0 rfl X3 (hB3.at 2))<|Ze (X1v rfl rfl) ?_
 refine Ze (X33 rfl rfl)<|Ze (Vd rfl X07 0)<|Ze (X0 rfl X3 (hB2.at 0))<|Ze (Vd rfl X08 2)<|Ze (X0 rfl X3 (hB3.at 2)) ?_
 refine Ze (X1v rfl rfl)<|Ze (Vd rfl X09 1)<|Ze (X0 rfl X3 (hB2.at 1))<|Ze (Vd rfl X09 1)<|Ze (X0 rfl X3 (hB3.at 1)) ?_
 refine Ze (X1v rfl rfl)<|Ze (X1u rfl rfl)<|Ze (Vd rfl X08 2)<|Ze (X0 rfl X3 (hB2.at 2))<|Ze (Vd rfl X07 0) ?_
 refine Ze (X0 rfl X3 (hB3.at 0))<|Ze (X1v rfl rfl)<|Ze (X1u rfl rfl)<|Ze (Vd rfl X0b 3)<|Ze (X0 rfl X3 (hB2.at 3)) ?_
 refine Ze (Vd rfl X0b 3)<|Ze (X0 rfl X3 (hB3.at 3))<|Ze (X1v rfl rfl)<|Ze (X33 rfl rfl)<|Ze (Vd rfl X07 0) ?_
 refine Ze (X0 rfl X3 (hB2.at 0))<|Ze (Vd rfl X0b 3)<|Ze (X0 rfl X3 (hB3.at 3))<|Ze (X1v rfl rfl)<|Ze (Vd rfl X09 1) ?_
 refine Ze (X0 rfl X3 (hB2.at 1))<|Ze (Vd rfl X08 2)<|Ze (X0 rfl X3 (hB3.at 2))<|Ze (X1v rfl rfl)<|Ze (X1u rfl rfl) ?_
 refine Ze (Vd rfl X08 2)<|Ze (X0 rfl X3 (hB2.at 2))<|Ze (Vd rfl X09 1)<|Ze (X0 rfl X3 (hB3.at 1))<|Ze (X1v rfl rfl) ?_
 refine Ze (X1u rfl rfl)<|Ze (Vd rfl X0b 3)<|Ze (X0 rfl X3 (hB2.at 3))<|Ze (Vd rfl X07 0)<|Ze (X0 rfl X3 (hB3.at 0)) ?_
 refine Ze (X1v rfl rfl)<|Ze (X1u rfl rfl)<|Ze (Xt (ps:=[(0,vi (wr ((wr ((wr ((wr (x.a*y.a))-(wr (x.b*y.d))))-(wr (x.c*y.c))))-(wr (x.d*y.b))))),(1,vi (wr ((wr ((wr ((wr (x.a*y.b))+(wr (x.b*y.a))))-(wr (x.c*y.d))))-(wr (x.d*y.c))))),(2,vi (wr ((wr ((wr ((wr (x.a*y.c))+(wr (x.b*y.b))))+(wr (x.c*y.a))))-(wr (x.d*y.d))))),(3,vi (wr ((wr ((wr ((wr (x.a*y.d))+(wr (x.b*y.c))))+(wr (x.c*y.b))))+(wr (x.d*y.a)))))]) (cs:=[vi (wr ((wr ((wr ((wr (x.a*y.a))-(wr (x.b*y.d))))-(wr (x.c*y.c))))-(wr (x.d*y.b)))),vi (wr ((wr ((wr ((wr (x.a*y.b))+(wr (x.b*y.a))))-(wr (x.c*y.d))))-(wr (x.d*y.c)))),vi (wr ((wr ((wr ((wr (x.a*y.c))+(wr (x.b*y.b))))+(wr (x.c*y.a))))-(wr (x.d*y.d)))),vi (wr ((wr ((wr ((wr (x.a*y.d))+(wr (x.b*y.c))))+(wr (x.c*y.b))))+(wr (x.d*y.a))))]) rfl (fun _=>by first|rfl|kernel_rfl)) ?_
 refine Zo (Vw [vi (wr ((wr ((wr ((wr (x.a*y.a))-(wr (x.b*y.d))))-(wr (x.c*y.c))))-(wr (x.d*y.b)))),vi (wr ((wr ((wr ((wr (x.a*y.b))+(wr (x.b*y.a))))-(wr (x.c*y.d))))-(wr (x.d*y.c)))),vi (wr ((wr ((wr ((wr (x.a*y.c))+(wr (x.b*y.b))))+(wr (x.c*y.a))))-(wr (x.d*y.d)))),vi (wr ((wr ((wr ((wr (x.a*y.d))+(wr (x.b*y.c))))+(wr (x.c*y.b))))+(wr (x.d*y.a))))] X0s hB4) ?_;rintro _ w4 ⟨ho,hb⟩
 have hold:=hB4
 replace hB2:=hB2.only ho (by omega)
 replace hB3:=hB3.only ho (by omega)
 replace hW:=Below.only hW ho hlo4
 clear hold
 have hB4:=hb
 clear hb ho
 refine Zt hK5 fun a hf=>?_
 refine wp_ret (X2 hf (Xj hf rfl (ResV.cellN (l:=[vi (wr ((wr ((wr ((wr (x.a*y.a))-(wr (x.b*y.d))))-(wr (x.c*y.c))))-(wr (x.d*y.b)))),vi (wr ((wr ((wr ((wr (x.a*y.b))+(wr (x.b*y.a))))-(wr (x.c*y.d))))-(wr (x.d*y.c)))),vi (wr ((wr ((wr ((wr (x.a*y.c))+(wr (x.b*y.b))))+(wr (x.c*y.a))))-(wr (x.d*y.d)))),vi (wr ((wr ((wr ((wr (x.a*y.d))+(wr (x.b*y.c))))+(wr (x.c*y.b))))+(wr (x.d*y.a))))]) rfl X01 (hB4.at 0) rfl)) ?_)
 exact ⟨rfl,hW⟩
theorem Xph(w0:World)(x:Rg) : Ret Tryz.prog 231 [.agg #[vi x.a,vi x.b,vi x.c,vi x.d]] w0 (fun v w=>v=rV (rNeg x)∧Below w0.heap.size w0 w):=by
 refine enter Tryz.func231 rfl 16 rfl rfl ?_
 intro a hf
 have hW:Below w0.heap.size w0 w0:=Below.refl _ _
 refine Zs hf fun _ hK1=>?_
 refine Zf (X0j (zs:=[vi x.a,vi x.b,vi x.c,vi x.d]) rfl rfl) ?_;rintro _ w1 ⟨b2,rfl,hl2,hE,hB2⟩
 have hlo2:=Nat.le_trans hW.size hl2
 replace hW:=btr hW hE
 refine Zf (X6 (zs:=[vi 0,vi 0,vi 0,vi 0]) X1t rfl) ?_;rintro _ w2 ⟨b3,rfl,hl3,hE,hB3⟩
 have hne2_3:b2≠b3:=by have:=hB2.lt;omega
 have hlo3:=Nat.le_trans hW.size hl3
 replace hB2:=hB2.below hE
 replace hW:=btr hW hE
 refine Zt hK1 fun a hf=>?_
 refine Zs hf fun _ hK4=>?_
 refine Ze (Vd rfl X07 0)<|Ze (X0 rfl X3 (hB2.at 0))<|Ze (Xee rfl)<|Ze (Vd rfl X09 1)<|Ze (X0 rfl X3 (hB2.at 1)) ?_
 refine Ze (Xee rfl)<|Ze (Vd rfl X08 2)<|Ze (X0 rfl X3 (hB2.at 2))<|Ze (Xee rfl)<|Ze (Vd rfl X0b 3) ?_
 refine Ze (X0 rfl X3 (hB2.at 3))<|Ze (Xee rfl)<|Ze (Xt (ps:=[(0,vi (wr (-x.a))),(1,vi (wr (-x.b))),(2,vi (wr (-x.c))),(3,vi (wr (-x.d)))]) (cs:=[vi (wr (-x.a)),vi (wr (-x.b)),vi (wr (-x.c)),vi (wr (-x.d))]) rfl (fun _=>by first|rfl|kernel_rfl)) ?_
 refine Zo (Vw [vi (wr (-x.a)),vi (wr (-x.b)),vi (wr (-x.c)),vi (wr (-x.d))] X0s hB3) ?_;rintro _ w3 ⟨ho,hb⟩
 have hold:=hB3
 replace hB2:=hB2.only ho (by omega)
 replace hW:=Below.only hW ho hlo3
 clear hold
 have hB3:=hb
 clear hb ho
 refine Zt hK4 fun a hf=>?_
 refine wp_ret (X2 hf (Xj hf rfl (ResV.cellN (l:=[vi (wr (-x.a)),vi (wr (-x.b)),vi (wr (-x.c)),vi (wr (-x.d))]) rfl X01 (hB3.at 0) rfl)) ?_)
 exact ⟨rfl,hW⟩
theorem Xot(w0:World)(x:Rg) : Ret Tryz.prog 222 [.agg #[vi x.a,vi x.b,vi x.c,vi x.d]] w0 (fun v w=>v=.bool (rEven x)∧Below w0.heap.size w0 w):=by
 refine enter Tryz.func222 rfl 19 rfl rfl ?_
 intro a hf
 have hW:Below w0.heap.size w0 w0:=Below.refl _ _
 refine Zs hf fun _ hK1=>?_
 refine Zf (X0j (zs:=[vi x.a,vi x.b,vi x.c,vi x.d]) rfl rfl) ?_;rintro _ w1 ⟨b2,rfl,hl2,hE,hB2⟩
 have hlo2:=Nat.le_trans hW.size hl2
 replace hW:=btr hW hE
 refine Za rfl ?_
 refine Zt hK1 fun a hf=>?_
 refine wp_seq_k fun _ hK3=>?_
 refine X0g (fun a w=>Fr a 19 [(2,.bool ((((wr (x.a+x.c)).tmod 2)==0)&&(((wr (x.b+x.d)).tmod 2)==0)))]∧w1=w) ?_ ?_
 ·refine Zr hf ?_
  refine Ze (Vd rfl X07 0)<|Ze (X0 rfl X3 (hB2.at 0))<|Ze (Vd rfl X08 2)<|Ze (X0 rfl X3 (hB2.at 2))<|Ze (X1u rfl rfl) ?_
  refine Ze (X6x rfl rfl rfl)<|Ze (X0n rfl rfl)<|Zm rfl ?_
  refine Zg 10 rfl (fun hg4=>?_) (fun hg4=>?_)
  ·refine Zv ⟨_,_,rfl,rfl,hg4⟩ (Vd rfl X09 1) ?_
   refine Zv ⟨_,_,rfl,rfl,hg4⟩ (X0 rfl X3 (hB2.at 1)) ?_
   refine Zv ⟨_,_,rfl,rfl,hg4⟩ (Vd rfl X0b 3) ?_
   refine Zv ⟨_,_,rfl,rfl,hg4⟩ (X0 rfl X3 (hB2.at 3)) ?_
   refine Zv ⟨_,_,rfl,rfl,hg4⟩ (X1u rfl rfl) ?_
   refine Zv ⟨_,_,rfl,rfl,hg4⟩ (X6x rfl rfl rfl) ?_
   refine Zv ⟨_,_,rfl,rfl,hg4⟩ (X0n rfl rfl) ?_
   refine Ze (Xg rfl hg4 rfl)<|Za rfl ?_
   refine Zn fun a hf=>?_
   exact ⟨hf.sub ⟨X1 rfl (by first|rfl|(simp only [hg4,bs];done)|simp [hg4]),trivial⟩,rfl⟩
  refine Zp ⟨_,_,rfl,rfl,hg4⟩ ?_
  refine Zp ⟨_,_,rfl,rfl,hg4⟩ ?_
  refine Zp ⟨_,_,rfl,rfl,hg4⟩ ?_
  refine Zp ⟨_,_,rfl,rfl,hg4⟩ ?_
  refine Zp ⟨_,_,rfl,rfl,hg4⟩ ?_
  refine Zp ⟨_,_,rfl,rfl,hg4⟩ ?_
  refine Zp ⟨_,_,rfl,rfl,hg4⟩ ?_
  refine Ze (Xf rfl hg4 rfl)<|Za rfl ?_
  refine Zn fun a hf=>?_
  exact ⟨hf.sub ⟨X1 rfl (by first|rfl|(simp only [hg4,bs];done)|simp [hg4]),trivial⟩,rfl⟩
 rintro a _ ⟨hf,rfl⟩
 refine hK3 _ _ ?_
 refine wp_ret (X2 hf (Xj hf rfl rfl) ?_)
 exact ⟨rfl,hW⟩
theorem Xkv(w0:World)(x:Rg) : Ret Tryz.prog 181 [.agg #[vi x.a,vi x.b,vi x.c,vi x.d]] w0 (fun v w=>v=.bool (rEven x)∧Below w0.heap.size w0 w):=by
 refine enter Tryz.func181 rfl 19 rfl rfl ?_
 intro a hf
 have hW:Below w0.heap.size w0 w0:=Below.refl _ _
 refine Zs hf fun _ hK1=>?_
 refine Zf (X0j (zs:=[vi x.a,vi x.b,vi x.c,vi x.d]) rfl rfl) ?_;rintro _ w1 ⟨b2,rfl,hl2,hE,hB2⟩
 have hlo2:=Nat.le_trans hW.size hl2
 replace hW:=btr hW hE
 refine Za rfl ?_
 refine Zt hK1 fun a hf=>?_
 refine wp_seq_k fun _ hK3=>?_
 refine X0g (fun a w=>Fr a 19 [(2,.bool ((((wr (x.a+x.c)).tmod 2)==0)&&(((wr (x.b+x.d)).tmod 2)==0)))]∧w1=w) ?_ ?_
 ·refine Zr hf ?_
  refine Ze (Vd rfl X07 0)<|Ze (X0 rfl X3 (hB2.at 0))<|Ze (Vd rfl X08 2)<|Ze (X0 rfl X3 (hB2.at 2))<|Ze (X1u rfl rfl) ?_
  refine Ze (X6x rfl rfl rfl)<|Ze (X0n rfl rfl)<|Zm rfl ?_
  refine Zg 10 rfl (fun hg4=>?_) (fun hg4=>?_)
  ·refine Zv ⟨_,_,rfl,rfl,hg4⟩ (Vd rfl X09 1) ?_
   refine Zv ⟨_,_,rfl,rfl,hg4⟩ (X0 rfl X3 (hB2.at 1)) ?_
   refine Zv ⟨_,_,rfl,rfl,hg4⟩ (Vd rfl X0b 3) ?_
   refine Zv ⟨_,_,rfl,rfl,hg4⟩ (X0 rfl X3 (hB2.at 3)) ?_
   refine Zv ⟨_,_,rfl,rfl,hg4⟩ (X1u rfl rfl) ?_
   refine Zv ⟨_,_,rfl,rfl,hg4⟩ (X6x rfl rfl rfl) ?_
   refine Zv ⟨_,_,rfl,rfl,hg4⟩ (X0n rfl rfl) ?_
   refine Ze (Xg rfl hg4 rfl)<|Za rfl ?_
   refine Zn fun a hf=>?_
   exact ⟨hf.sub ⟨X1 rfl (by first|rfl|(simp only [hg4,bs];done)|simp [hg4]),trivial⟩,rfl⟩
  refine Zp ⟨_,_,rfl,rfl,hg4⟩ ?_
  refine Zp ⟨_,_,rfl,rfl,hg4⟩ ?_
  refine Zp ⟨_,_,rfl,rfl,hg4⟩ ?_
  refine Zp ⟨_,_,rfl,rfl,hg4⟩ ?_
  refine Zp ⟨_,_,rfl,rfl,hg4⟩ ?_
  refine Zp ⟨_,_,rfl,rfl,hg4⟩ ?_
  refine Zp ⟨_,_,rfl,rfl,hg4⟩ ?_
  refine Ze (Xf rfl hg4 rfl)<|Za rfl ?_
  refine Zn fun a hf=>?_
  exact ⟨hf.sub ⟨X1 rfl (by first|rfl|(simp only [hg4,bs];done)|simp [hg4]),trivial⟩,rfl⟩
 rintro a _ ⟨hf,rfl⟩
 refine hK3 _ _ ?_
 refine wp_ret (X2 hf (Xj hf rfl rfl) ?_)
 exact ⟨rfl,hW⟩
theorem Xpg(w0:World)(x:Rg) : Ret Tryz.prog 223 [.agg #[vi x.a,vi x.b,vi x.c,vi x.d]] w0 (fun v w=>v=rV (rHalf x)∧Below w0.heap.size w0 w):=by
 refine enter Tryz.func223 rfl 19 rfl rfl ?_
 intro a hf
 have hW:Below w0.heap.size w0 w0:=Below.refl _ _
 refine Zs hf fun _ hK1=>?_
 refine Zf (X0j (zs:=[vi x.a,vi x.b,vi x.c,vi x.d]) rfl rfl) ?_;rintro _ w1 ⟨b2,rfl,hl2,hE,hB2⟩
 have hlo2:=Nat.le_trans hW.size hl2
 replace hW:=btr hW hE
 refine Zf (X6 (zs:=[vi 0,vi 0,vi 0,vi 0]) X1t rfl) ?_;rintro _ w2 ⟨b3,rfl,hl3,hE,hB3⟩
 have hne2_3:b2≠b3:=by have:=hB2.lt;omega
 have hlo3:=Nat.le_trans hW.size hl3
 replace hB2:=hB2.below hE
 replace hW:=btr hW hE
 refine Zt hK1 fun a hf=>?_
 refine Zs hf fun _ hK4=>?_
 refine Ze (Vn X01 hB2) ?_
 refine Zf (Vc (Xmz _ x) Xb5) ?_;rintro _ w3 ⟨rfl,hE⟩
 replace hB2:=hB2.below hE
 replace hB3:=hB3.below hE
 replace hW:=btr hW hE
 refine Zf (X6 (zs:=[vi 0,vi 0,vi 0,vi 0]) X1t rfl) ?_;rintro _ w4 ⟨b5,rfl,hl5,hE,hB5⟩
 have hne2_5:b2≠b5:=by have:=hB2.lt;omega
 have hne3_5:b3≠b5:=by have:=hB3.lt;omega
 have hlo5:=Nat.le_trans hW.size hl5
 replace hB2:=hB2.below hE
 replace hB3:=hB3.below hE
 replace hW:=btr hW hE
 refine Zo (Vw [vi ((rRoot x).a),vi ((rRoot x).b),vi ((rRoot x).c),vi ((rRoot x).d)] X0s hB5) ?_;rintro _ w5 ⟨ho,hb⟩
 have hold:=hB5
 replace hB2:=hB2.only ho (by omega)
 replace hB3:=hB3.only ho (by omega)
 replace hW:=Below.only hW ho hlo5
 clear hold
 have hB5:=hb
 clear hb ho
 refine Zt hK4 fun a hf=>?_
 refine Zs hf fun _ hK6=>?_
 refine Ze (Vd rfl X07 0)<|Ze (X0 rfl X3 (hB5.at 0))<|Ze (X8q rfl rfl rfl)<|Ze (Vd rfl X09 1)<|Ze (X0 rfl X3 (hB5.at 1)) ?_
 refine Ze (X8q rfl rfl rfl)<|Ze (Vd rfl X08 2)<|Ze (X0 rfl X3 (hB5.at 2))<|Ze (X8q rfl rfl rfl)<|Ze (Vd rfl X0b 3) ?_
 refine Ze (X0 rfl X3 (hB5.at 3))<|Ze (X8q rfl rfl rfl)<|Ze (Xt (ps:=[(0,vi (wr (((rRoot x).a).tdiv 2))),(1,vi (wr (((rRoot x).b).tdiv 2))),(2,vi (wr (((rRoot x).c).tdiv 2))),(3,vi (wr (((rRoot x).d).tdiv 2)))]) (cs:=[vi (wr (((rRoot x).a).tdiv 2)),vi (wr (((rRoot x).b).tdiv 2)),vi (wr (((rRoot x).c).tdiv 2)),vi (wr (((rRoot x).d).tdiv 2))]) rfl (fun _=>by first|rfl|kernel_rfl)) ?_
 refine Zo (Vw [vi (wr (((rRoot x).a).tdiv 2)),vi (wr (((rRoot x).b).tdiv 2)),vi (wr (((rRoot x).c).tdiv 2)),vi (wr (((rRoot x).d).tdiv 2))] X0s hB3) ?_;rintro _ w6 ⟨ho,hb⟩
 have hold:=hB3
 replace hB5:=hB5.only ho (by omega)
 replace hW:=Below.only hW ho hlo3
 clear hold
 have hB3:=hb
 clear hb ho
 refine Zt hK6 fun a hf=>?_
 refine wp_ret (X2 hf (Xj hf rfl (ResV.cellN (l:=[vi (wr (((rRoot x).a).tdiv 2)),vi (wr (((rRoot x).b).tdiv 2)),vi (wr (((rRoot x).c).tdiv 2)),vi (wr (((rRoot x).d).tdiv 2))]) rfl X01 (hB3.at 0) rfl)) ?_)
 exact ⟨rfl,hW⟩
end Go.Proofs.YtlfjcmldfbfdbaaGreat
set_option maxRecDepth 4000
namespace Go.Proofs.YtlfjcmldfbfdbaaGreat
open Go.RowKit
theorem Xir(w0:World)(n:Int) : Ret Tryz.prog 204 [vi n] w0 (fun v w=>v=.bool (inR n (-1000000000) 1000000000)∧w0=w):=by
 refine enter Tryz.func204 rfl 5 rfl rfl ?_
 intro a hf
 have hW:Below w0.heap.size w0 w0:=Below.refl _ _
 refine Zs hf fun _ hK1=>?_
 refine Za rfl ?_
 refine Zt hK1 fun a hf=>?_
 refine Zs hf fun _ hK2=>?_
 refine Zm rfl ?_
 refine Zf (Vc (F91 _ n (-1000000000) 1000000000) X3e) ?_;rintro _ _ ⟨rfl,rfl⟩
 refine Za rfl ?_
 refine Zt hK2 fun a hf=>?_
 refine wp_ret (X2 hf (Xj hf rfl rfl) ?_)
 exact ⟨rfl,rfl⟩
theorem Xen(w0:World)(x:Rg) : Ret Tryz.prog 179 [.agg #[vi x.a,vi x.b,vi x.c,vi x.d]] w0 (fun v w=>v=.bool (rOk x)∧Below w0.heap.size w0 w):=by
 refine enter Tryz.func179 rfl 21 rfl rfl ?_
 intro a hf
 have hW:Below w0.heap.size w0 w0:=Below.refl _ _
 refine Zs hf fun _ hK1=>?_
 refine Zf (X0j (zs:=[vi x.a,vi x.b,vi x.c,vi x.d]) rfl rfl) ?_;rintro _ w1 ⟨b2,rfl,hl2,hE,hB2⟩
 have hlo2:=Nat.le_trans hW.size hl2
 replace hW:=btr hW hE
 refine Za rfl ?_
 refine Zt hK1 fun a hf=>?_
 refine wp_seq_k fun _ hK3=>?_
 refine X0g (fun a w=>Fr a 21 [(2,.bool ((((inR x.a (-1000000000) 1000000000)&&(inR x.b (-1000000000) 1000000000))&&(inR x.c (-1000000000) 1000000000))&&(inR x.d (-1000000000) 1000000000)))]∧w1=w) ?_ ?_
 ·refine Zr hf ?_
  refine Ze (Vd rfl X07 0)<|Ze (X0 rfl X3 (hB2.at 0)) ?_
  refine Zf (Vc (Xir _ x.a) X8w) ?_;rintro _ _ ⟨rfl,rfl⟩
  refine Zm rfl ?_
  refine Zg 6 rfl (fun hg4=>?_) (fun hg4=>?_)
  ·refine Zv ⟨_,_,rfl,rfl,hg4⟩ (Vd rfl X09 1) ?_
   refine Zv ⟨_,_,rfl,rfl,hg4⟩ (X0 rfl X3 (hB2.at 1)) ?_
   refine Zk ⟨_,_,rfl,rfl,hg4⟩ (Vc (Xir _ x.b) X8w) ?_;rintro _ _ ⟨rfl,rfl⟩
   refine Ze (Xg rfl hg4 rfl)<|Zm rfl ?_
   refine Zg 11 rfl (fun hg5=>?_) (fun hg5=>?_)
   ·refine Zv ⟨_,_,rfl,rfl,hg5⟩ (Vd rfl X08 2) ?_
    refine Zv ⟨_,_,rfl,rfl,hg5⟩ (X0 rfl X3 (hB2.at 2)) ?_
    refine Zk ⟨_,_,rfl,rfl,hg5⟩ (Vc (Xir _ x.c) X8w) ?_;rintro _ _ ⟨rfl,rfl⟩
    refine Ze (Xg rfl hg5 rfl)<|Zm rfl ?_
    refine Zg 16 rfl (fun hg6=>?_) (fun hg6=>?_)
    ·refine Zv ⟨_,_,rfl,rfl,hg6⟩ (Vd rfl X0b 3) ?_
     refine Zv ⟨_,_,rfl,rfl,hg6⟩ (X0 rfl X3 (hB2.at 3)) ?_
     refine Zk ⟨_,_,rfl,rfl,hg6⟩ (Vc (Xir _ x.d) X8w) ?_;rintro _ _ ⟨rfl,rfl⟩
     refine Ze (Xg rfl hg6 rfl)<|Za rfl ?_
     refine Zn fun a hf=>?_
     exact ⟨hf.sub ⟨X1 rfl (by first|rfl|(simp only [hg4,hg5,hg6,bs];done)|simp [hg4,hg5,hg6]),trivial⟩,rfl⟩
    refine Zp ⟨_,_,rfl,rfl,hg6⟩ ?_
    refine Zp ⟨_,_,rfl,rfl,hg6⟩ ?_
    refine Zp ⟨_,_,rfl,rfl,hg6⟩ ?_
    refine Ze (Xf rfl hg6 rfl)<|Za rfl ?_
    refine Zn fun a hf=>?_
    exact ⟨hf.sub ⟨X1 rfl (by first|rfl|(simp only [hg4,hg5,hg6,bs];done)|simp [hg4,hg5,hg6]),trivial⟩,rfl⟩
   refine Zp ⟨_,_,rfl,rfl,hg5⟩ ?_
   refine Zp ⟨_,_,rfl,rfl,hg5⟩ ?_
   refine Zp ⟨_,_,rfl,rfl,hg5⟩ ?_
   refine Ze (Xf rfl hg5 rfl)<|Zm rfl<|Zp ⟨_,_,rfl,rfl,rfl⟩ ?_
   refine Zp ⟨_,_,rfl,rfl,rfl⟩ ?_
   refine Zp ⟨_,_,rfl,rfl,rfl⟩ ?_
   refine Ze (Xf rfl rfl rfl)<|Za rfl ?_
   refine Zn fun a hf=>?_
   exact ⟨hf.sub ⟨X1 rfl (by first|rfl|(simp only [hg4,hg5,bs];done)|simp [hg4,hg5]),trivial⟩,rfl⟩
  refine Zp ⟨_,_,rfl,rfl,hg4⟩ ?_
  refine Zp ⟨_,_,rfl,rfl,hg4⟩ ?_
  refine Zp ⟨_,_,rfl,rfl,hg4⟩ ?_
  refine Ze (Xf rfl hg4 rfl)<|Zm rfl<|Zp ⟨_,_,rfl,rfl,rfl⟩ ?_
  refine Zp ⟨_,_,rfl,rfl,rfl⟩ ?_
  refine Zp ⟨_,_,rfl,rfl,rfl⟩ ?_
  refine Ze (Xf rfl rfl rfl)<|Zm rfl<|Zp ⟨_,_,rfl,rfl,rfl⟩ ?_
  refine Zp ⟨_,_,rfl,rfl,rfl⟩ ?_
  refine Zp ⟨_,_,rfl,rfl,rfl⟩ ?_
  refine Ze (Xf rfl rfl rfl)<|Za rfl ?_
  refine Zn fun a hf=>?_
  exact ⟨hf.sub ⟨X1 rfl (by first|rfl|(simp only [hg4,bs];done)|simp [hg4]),trivial⟩,rfl⟩
 rintro a _ ⟨hf,rfl⟩
 refine hK3 _ _ ?_
 refine wp_ret (X2 hf (Xj hf rfl rfl) ?_)
 exact ⟨by simp [rOk, *],hW⟩
theorem Xbc(w0:World)(k:Int) : Ret Tryz.prog 186 [vi k] w0 (fun v w=>v=dV (dPow k)∧Below w0.heap.size w0 w):=by
 refine enter Tryz.func186 rfl 7 rfl rfl ?_
 intro a hf
 have hW:Below w0.heap.size w0 w0:=Below.refl _ _
 refine Zs hf fun _ hK1=>?_
 refine Zf (X6 (zs:=[vi 0,vi 0,vi 0,vi 0,vi 0]) X17 rfl) ?_;rintro _ w1 ⟨b2,rfl,hl2,hE,hB2⟩
 have hlo2:=Nat.le_trans hW.size hl2
 replace hW:=btr hW hE
 refine Zt hK1 fun a hf=>?_
 refine Zs hf fun _ hK3=>?_
 refine Ze (Xt (ps:=[(0,vi 1)]) (cs:=[vi 1,vi 0,vi 0,vi 0]) rfl (fun _=>by first|rfl|kernel_rfl))<|Zm rfl ?_
 refine Zf (Vc (Xq9 _ (⟨1,0,0,0⟩ : Rg) k) Xks) ?_;rintro _ w2 ⟨rfl,hE⟩
 replace hB2:=hB2.below hE
 replace hW:=btr hW hE
 refine Ze (Xt (ps:=[(0,.agg #[vi ((rTurn (⟨1,0,0,0⟩ : Rg) k).a),vi ((rTurn (⟨1,0,0,0⟩ : Rg) k).b),vi ((rTurn (⟨1,0,0,0⟩ : Rg) k).c),vi ((rTurn (⟨1,0,0,0⟩ : Rg) k).d)])]) (cs:=[vi ((rTurn (⟨1,0,0,0⟩ : Rg) k).a),vi ((rTurn (⟨1,0,0,0⟩ : Rg) k).b),vi ((rTurn (⟨1,0,0,0⟩ : Rg) k).c),vi ((rTurn (⟨1,0,0,0⟩ : Rg) k).d),vi 0]) rfl (fun _=>by first|rfl|kernel_rfl)) ?_
 refine Zo (Vw [vi ((rTurn (⟨1,0,0,0⟩ : Rg) k).a),vi ((rTurn (⟨1,0,0,0⟩ : Rg) k).b),vi ((rTurn (⟨1,0,0,0⟩ : Rg) k).c),vi ((rTurn (⟨1,0,0,0⟩ : Rg) k).d),vi 0] Xk hB2) ?_;rintro _ w3 ⟨ho,hb⟩
 have hold:=hB2
 replace hW:=Below.only hW ho hlo2
 clear hold
 have hB2:=hb
 clear hb ho
 refine Zt hK3 fun a hf=>?_
 refine wp_ret (X2 hf (Xj hf rfl (ResV.cellN (l:=[vi ((rTurn (⟨1,0,0,0⟩ : Rg) k).a),vi ((rTurn (⟨1,0,0,0⟩ : Rg) k).b),vi ((rTurn (⟨1,0,0,0⟩ : Rg) k).c),vi ((rTurn (⟨1,0,0,0⟩ : Rg) k).d),vi 0]) rfl X9 (hB2.at 0) rfl)) ?_)
 exact ⟨rfl,hW⟩
theorem Xpz(w0:World)(x:Dy) : Ret Tryz.prog 220 [.agg #[vi x.num.a,vi x.num.b,vi x.num.c,vi x.num.d,vi x.exp]] w0 (fun v w=>v=dV (dNeg x)∧Below w0.heap.size w0 w):=by
 refine enter Tryz.func220 rfl 9 rfl rfl ?_
 intro a hf
 have hW:Below w0.heap.size w0 w0:=Below.refl _ _
 refine Zs hf fun _ hK1=>?_
 refine Zf (X0j (zs:=[vi x.num.a,vi x.num.b,vi x.num.c,vi x.num.d,vi x.exp]) rfl rfl) ?_;rintro _ w1 ⟨b2,rfl,hl2,hE,hB2⟩
 have hlo2:=Nat.le_trans hW.size hl2
 replace hW:=btr hW hE
 refine Zf (X6 (zs:=[vi 0,vi 0,vi 0,vi 0,vi 0]) X17 rfl) ?_;rintro _ w2 ⟨b3,rfl,hl3,hE,hB3⟩
 have hne2_3:b2≠b3:=by have:=hB2.lt;omega
 have hlo3:=Nat.le_trans hW.size hl3
 replace hB2:=hB2.below hE
 replace hW:=btr hW hE
 refine Zt hK1 fun a hf=>?_
 refine wp_seq_k fun _ hK4=>?_
 refine X0h none (fun j=>[6].contains j) mixed ?_
 intro w3 hE
 replace hB2:=hB2.below hE
 replace hB3:=hB3.below hE
 replace hW:=btr hW hE
 refine Yb hf ?_
 refine Yo 0 rfl (fun _=>Vd rfl X1i 0)<|Ye 1 rfl (X0i (l:=[vi x.num.a,vi x.num.b,vi x.num.c,vi x.num.d]) rfl X01 ((hB2.at 0).take 4) rfl)<|Yo 3 rfl (fun _=>Vd rfl X0v 4)<|Ye 4 rfl (X0 rfl X3 (hB2.at 4)) ?_
 refine Y1 2 ?_
 refine Yk rfl trivial (Vc (Xph _ x.num) Xls) (fun _ _ ⟨_,hE⟩=>hE) ?_;rintro _ w4 ⟨rfl,hE⟩
 replace hB2:=hB2.below hE
 replace hB3:=hB3.below hE
 replace hW:=btr hW hE
 refine Yo 5 rfl (fun _=>Xt (ps:=[(0,.agg #[vi ((rNeg x.num).a),vi ((rNeg x.num).b),vi ((rNeg x.num).c),vi ((rNeg x.num).d)]),(1,vi x.exp)]) (cs:=[vi ((rNeg x.num).a),vi ((rNeg x.num).b),vi ((rNeg x.num).c),vi ((rNeg x.num).d),vi x.exp]) rfl (fun _=>by first|rfl|kernel_rfl)) ?_
 refine Y1 6 ?_
 refine Yh rfl trivial rfl (Vw [vi ((rNeg x.num).a),vi ((rNeg x.num).b),vi ((rNeg x.num).c),vi ((rNeg x.num).d),vi x.exp] Xk hB3) ?_;rintro _ w5 ⟨ho,hb⟩
 have hold:=hB3
 replace hB2:=hB2.only ho (by omega)
 replace hW:=Below.only hW ho hlo3
 clear hold
 have hB3:=hb
 clear hb ho
 refine Yd fun a hf=>?_
 refine hK4 _ _ ?_
 refine wp_ret (X2 hf (Xj hf rfl (ResV.cellN (l:=[vi ((rNeg x.num).a),vi ((rNeg x.num).b),vi ((rNeg x.num).c),vi ((rNeg x.num).d),vi x.exp]) rfl X9 (hB3.at 0) rfl)) ?_)
 exact ⟨rfl,hW⟩
theorem F59(w0:World)(b:Bool) : Ret Tryz.prog 59 [.bool b] w0 (fun v w=>v=vi (if b=true then 1 else 0)∧w0=w):=by
 refine enter Tryz.func59 rfl 4 rfl rfl ?_
 intro a hf
 have hW:Below w0.heap.size w0 w0:=Below.refl _ _
 refine Zs hf fun _ hK1=>?_
 refine Za rfl ?_
 refine Zt hK1 fun a hf=>?_
 refine wp_seq_k fun _ hK2=>?_
 refine Zs hf fun _ hK3=>?_
 refine Zm rfl ?_
 refine Zt hK3 fun a hf=>?_
 refine Xm hf rfl (fun hc4=>?_) (fun hc4=>?_)
 ·have hc4b:=hc4
  refine Zs hf fun _ hK5=>?_
  refine Za rfl ?_
  refine Zt hK5 fun a hf=>?_
  refine wp_ret ?_
  refine X7 ?_
  refine X2 hf (Xj hf rfl rfl) ?_
  exact ⟨by simp [*],rfl⟩
 have hc4b:=hc4
 refine wp_skip ?_
 refine hK2 _ _ ?_
 refine Zs hf fun _ hK6=>?_
 refine Za rfl ?_
 refine Zt hK6 fun a hf=>?_
 refine wp_ret (X2 hf (Xj hf rfl rfl) ?_)
 exact ⟨by simp [*],rfl⟩
theorem Xk6(w0:World)(n:Int) : Ret Tryz.prog 134 [vi n] w0 (fun v w=>v=dV (⟨⟨n,0,0,0⟩,0⟩ : Dy)∧Below w0.heap.size w0 w):=by
 refine enter Tryz.func134 rfl 6 rfl rfl ?_
 intro a hf
 have hW:Below w0.heap.size w0 w0:=Below.refl _ _
 refine Zs hf fun _ hK1=>?_
 refine Zf (X6 (zs:=[vi 0,vi 0,vi 0,vi 0,vi 0]) X17 rfl) ?_;rintro _ w1 ⟨b2,rfl,hl2,hE,hB2⟩
 have hlo2:=Nat.le_trans hW.size hl2
 replace hW:=btr hW hE
 refine Zt hK1 fun a hf=>?_
 refine Zs hf fun _ hK3=>?_
 refine Zm rfl<|Ze (Xt (ps:=[(0,vi n)]) (cs:=[vi n,vi 0,vi 0,vi 0]) rfl (fun _=>by first|rfl|kernel_rfl))<|Ze (Xt (ps:=[(0,.agg #[vi n,vi 0,vi 0,vi 0])]) (cs:=[vi n,vi 0,vi 0,vi 0,vi 0]) rfl (fun _=>by first|rfl|kernel_rfl)) ?_
 refine Zo (Vw [vi n,vi 0,vi 0,vi 0,vi 0] Xk hB2) ?_;rintro _ w2 ⟨ho,hb⟩
 have hold:=hB2
 replace hW:=Below.only hW ho hlo2
 clear hold
 have hB2:=hb
 clear hb ho
 refine Zt hK3 fun a hf=>?_
 refine wp_ret (X2 hf (Xj hf rfl (ResV.cellN (l:=[vi n,vi 0,vi 0,vi 0,vi 0]) rfl X9 (hB2.at 0) rfl)) ?_)
 exact ⟨rfl,hW⟩
theorem Xh8(w0:World)(x:Rg)(Al:Option Addr)(cl:Nat)(l:List Rg)(hr_l:Rd w0 w0.heap.size 96 encR Al l)(hc:cl=l.length)(hl0:l≠[])(hln:l.length≤1000) : Ret Tryz.prog 182 [.agg #[vi x.a,vi x.b,vi x.c,vi x.d],.slice Al l.length cl] w0 (fun v w=>v=.tuple #[rV (rIf1 x l),.bool (rIf2 x l)]∧Below w0.heap.size w0 w):=by
 refine enter Tryz.func182 rfl 23 rfl rfl ?_
 intro a hf
 have hW:Below w0.heap.size w0 w0:=Below.refl _ _
 refine Zs hf fun _ hK2=>?_
 refine Zf (X0j (zs:=[vi x.a,vi x.b,vi x.c,vi x.d]) rfl rfl) ?_;rintro _ w1 ⟨b3,rfl,hl3,hE,hB3⟩
 have hlo3:=Nat.le_trans hW.size hl3
 have haw1_3:=(hr_l.below' hW).away hl3
 replace hW:=btr hW hE
 refine Zf (X6 (zs:=[vi 0,vi 0,vi 0,vi 0]) X1t rfl) ?_;rintro _ w2 ⟨b4,rfl,hl4,hE,hB4⟩
 have hne3_4:b3≠b4:=by have:=hB3.lt;omega
 have hlo4:=Nat.le_trans hW.size hl4
 have haw1_4:=(hr_l.below' hW).away hl4
 replace hB3:=hB3.below hE
 replace hW:=btr hW hE
 refine Za rfl ?_
 refine Zt hK2 fun a hf=>?_
 refine wp_seq_k fun _ hK5=>?_
 refine Zs hf fun _ hK6=>?_
 refine Zm rfl<|Ze (Vn X01 hB3) ?_
 refine Zf (Xd (k:=1) (vs:=[.agg #[vi x.a,vi x.b,vi x.c,vi x.d]]) (zs:=[vi x.a,vi x.b,vi x.c,vi x.d]) rfl X3i X45 rfl rfl) ?_;rintro _ w3 ⟨b7,rfl,hl7,hE,hB7⟩
 have hne3_7:b3≠b7:=by have:=hB3.lt;omega
 have hne4_7:b4≠b7:=by have:=hB4.lt;omega
 have hlo7:=Nat.le_trans hW.size hl7
 have haw1_7:=(hr_l.below' hW).away hl7
 replace hB3:=hB3.below hE
 replace hB4:=hB4.below hE
 replace hW:=btr hW hE
 refine Zf (Xa4 (enc:=encR) (l:=(l)) (l2:=([x])) rfl rfl X3i X45 Xa5 (hr_l.below' hW) (Rd.of_blk hB7 rfl _ hB7.lt) hc hl0 (by simp) (by simp only [maxLen];simp;omega) (by simp;omega)) ?_;rintro _ w4 ⟨A9,c9,rfl,ho9,hE⟩
 have haw9_3:=ho9.awayNew hB3.lt
 have haw9_4:=ho9.awayNew hB4.lt
 have haw9_7:=ho9.awayNew hB7.lt
 replace ho9:=ho9.lower hW.size
 replace hB3:=hB3.below hE
 replace hB4:=hB4.below hE
 replace hB7:=hB7.below hE
 replace hW:=btr hW hE
 refine Ze (X14 rfl X3i)<|Zm rfl ?_
 refine Zt hK6 fun a hf=>?_
 refine wp_block ?_
 have hlen:(l++[x]).length≤1001:=by simp;omega
 refine X0c (σ:=Nat) (fun (k:Nat) (a:Act) (w:World)=>Fr a 23 [(2,.pointer (some ⟨b3,0,none⟩)),(4,.pointer (some ⟨b4,0,none⟩)),(11,.slice A9 (l++([x])).length c9),(12,vi ((l++([x])).length:Int)),(13,vi (k:Int))]∧(k≤(l++[x]).length)∧(((l++[x]).take k).all rOk=true)∧Blk w b3 96 [vi x.a,vi x.b,vi x.c,vi x.d]∧Blk w b4 96 [vi 0,vi 0,vi 0,vi 0]∧Own w w0.heap.size 96 4 encR A9 c9 (l++([x]))∧Below w0.heap.size w0 w) (fun (k:Nat)=>(l++[x]).length+1-k) 0 ?_ ?_
 ·exact ⟨hf.sub ⟨rfl,rfl,rfl,rfl,rfl,trivial⟩,(Nat.zero_le _),(by simp),hB3,hB4,ho9,hW⟩
 rintro k a w5 ⟨hf,hk,hpre,hB3,hB4,ho9,hW⟩
 refine Zs hf fun _ hK10=>?_
 refine Ze (X16 rfl rfl) ?_
 refine Zt hK10 fun a hf=>?_
 refine wp_seq_k fun _ hK11=>?_
 refine Xm hf rfl (fun hc12=>?_) (fun hc12=>?_)
 ·have hc12b:=hc12
  have hc12:=of_decide_eq_true hc12
  obtain ⟨u13,hu13⟩:=Xx (l:=(l++([x]))) (k:=k) (by omega)
  refine wp_skip ?_
  refine hK11 _ _ ?_
  refine wp_seq_k fun _ hK14=>?_
  refine wp_block ?_
  refine Zs hf fun _ hK15=>?_
  refine Zi (k:=k) (u:=u13) (enc:=encR) (l:=l++([x])) trivial rfl rfl X3i X0s Xa5 ho9.rd hu13 rfl ?_;intro p17 hat16
  refine Ze (X0i (l:=[vi u13.a,vi u13.b,vi u13.c,vi u13.d]) rfl X01 hat16 rfl) ?_
  refine Zf (X6 (zs:=[vi 0,vi 0,vi 0,vi 0]) X1t rfl) ?_;rintro _ w6 ⟨b18,rfl,hl18,hE,hB18⟩
  have hne3_18:b3≠b18:=by have:=hB3.lt;omega
  have hne4_18:b4≠b18:=by have:=hB4.lt;omega
  have hlo18:=Nat.le_trans hW.size hl18
  have haw1_18:=(hr_l.below' hW).away hl18
  have haw9_18:=ho9.away hl18
  replace hB3:=hB3.below hE
  replace hB4:=hB4.below hE
  replace ho9:=ho9.below hE
  replace hW:=btr hW hE
  refine Zo (Vw [vi u13.a,vi u13.b,vi u13.c,vi u13.d] X0s hB18) ?_;rintro _ w7 ⟨ho,hb⟩
  have hold:=hB18
  replace hB3:=hB3.only ho (by omega)
  replace hB4:=hB4.only ho (by omega)
  replace ho9:=ho9.onlyA ho haw9_18
  replace hW:=Below.only hW ho hlo18
  clear hold
  have hB18:=hb
  clear hb ho
  refine Zt hK15 fun a hf=>?_
  refine Zs hf fun _ hK19=>?_
  refine Ze (Vn X01 hB18) ?_
  refine Zf (Vc (Xen _ u13) X6s) ?_;rintro _ w8 ⟨rfl,hE⟩
  replace hB3:=hB3.below hE
  replace hB4:=hB4.below hE
  replace hB18:=hB18.below hE
  replace ho9:=ho9.below hE
  replace hW:=btr hW hE
  refine Ze (X15 rfl) ?_
  refine Zt hK19 fun a hf=>?_
  refine Xm hf rfl (fun hc20=>?_) (fun hc20=>?_)
  ·have hc20b:=hc20
   have hb2:rIf2 x l=false:=X82 hu13 (by simpa using hc20)
   refine Zs hf fun _ hK21=>?_
   refine Ze (Xt (ps:=[]) (cs:=[vi 0,vi 0,vi 0,vi 0]) rfl (fun _=>by first|rfl|kernel_rfl)) ?_
   refine Zo (Vw [vi 0,vi 0,vi 0,vi 0] X0s hB4) ?_;rintro _ w9 ⟨ho,hb⟩
   have hold:=hB4
   replace hB3:=hB3.only ho (by omega)
   replace ho9:=ho9.onlyA ho haw9_4
   replace hW:=Below.only hW ho hlo4
   clear hold
   have hB4:=hb
   clear hb ho
   refine Za rfl ?_
   refine Zt hK21 fun a hf=>?_
   refine wp_ret ?_
   refine X05 ?_
   refine X7 ?_
   refine X7 ?_
   refine X05 ?_
   refine X7 ?_
   refine X2 hf (X12 hf rfl (ResV.cellN (l:=[vi 0,vi 0,vi 0,vi 0]) rfl X01 (hB4.at 0) rfl) rfl) ?_
   exact ⟨by simp [rIf1,hb2],hW⟩
  have hc20b:=hc20
  have hok:rOk u13=true:=by simpa using hc20
  refine wp_skip ?_
  refine Xr ?_
  refine hK14 _ _ ?_
  refine Zr hf ?_
  refine Ze (X0a rfl rfl (by omega) (by omega))<|Zm rfl ?_
  refine Zn fun a hf=>?_
  refine Xz ?_
  exact ⟨k+1,⟨hf.sub ⟨rfl,rfl,rfl,rfl,rfl,trivial⟩,(by omega),(X1x hpre hu13 hok),hB3,hB4,ho9,hW⟩,(by omega)⟩
 have hc12b:=hc12
 have hc12:=of_decide_eq_false hc12
 refine wp_exit ?_
 refine Xu ?_
 refine Xu ?_
 refine X0f ?_
 refine hK5 _ _ ?_
 refine Zs hf fun _ hK22=>?_
 refine Ze (Vn X01 hB3) ?_
 refine Zo (Vw [vi x.a,vi x.b,vi x.c,vi x.d] X0s hB4) ?_;rintro _ w10 ⟨ho,hb⟩
 have hold:=hB4
 replace hB3:=hB3.only ho (by omega)
 replace ho9:=ho9.onlyA ho haw9_4
 replace hW:=Below.only hW ho hlo4
 clear hold
 have hB4:=hb
 clear hb ho
 refine Za rfl ?_
 refine Zt hK22 fun a hf=>?_
 refine wp_ret (X2 hf (X12 hf rfl (ResV.cellN (l:=[vi x.a,vi x.b,vi x.c,vi x.d]) rfl X01 (hB4.at 0) rfl) rfl) ?_)
 have hb2:rIf2 x l=true:=X1s hpre (by omega)
 exact ⟨by simp [rIf1,hb2],hW⟩
theorem Xou(w0:World)(x:Rg)(y:Rg) : Ret Tryz.prog 138 [.agg #[vi x.a,vi x.b,vi x.c,vi x.d],.agg #[vi y.a,vi y.b,vi y.c,vi y.d]] w0 (fun v w=>v=.tuple #[rV (rIf1 (rMul x y) [x,y]),.bool (rIf2 (rMul x y) [x,y])]∧Below w0.heap.size w0 w):=by
 refine enter Tryz.func138 rfl 105 rfl rfl ?_
 intro a hf
 have hW:Below w0.heap.size w0 w0:=Below.refl _ _
 refine Zs hf fun _ hK1=>?_
 refine Zf (X0j (zs:=[vi x.a,vi x.b,vi x.c,vi x.d]) rfl rfl) ?_;rintro _ w1 ⟨b2,rfl,hl2,hE,hB2⟩
 have hlo2:=Nat.le_trans hW.size hl2
 replace hW:=btr hW hE
 refine Zf (X0j (zs:=[vi y.a,vi y.b,vi y.c,vi y.d]) rfl rfl) ?_;rintro _ w2 ⟨b3,rfl,hl3,hE,hB3⟩
 have hne2_3:b2≠b3:=by have:=hB2.lt;omega
 have hlo3:=Nat.le_trans hW.size hl3
 replace hB2:=hB2.below hE
 replace hW:=btr hW hE
 refine Zf (X6 (zs:=[vi 0,vi 0,vi 0,vi 0]) X1t rfl) ?_;rintro _ w3 ⟨b4,rfl,hl4,hE,hB4⟩
 have hne2_4:b2≠b4:=by have:=hB2.lt;omega
 have hne3_4:b3≠b4:=by have:=hB3.lt;omega
 have hlo4:=Nat.le_trans hW.size hl4
 replace hB2:=hB2.below hE
 replace hB3:=hB3.below hE
 replace hW:=btr hW hE
 refine Za rfl ?_
 refine Zt hK1 fun a hf=>?_
 refine Zs hf fun _ hK5=>?_
 refine Ze (Vd rfl X07 0)<|Ze (X0 rfl X3 (hB2.at 0))<|Ze (Vd rfl X07 0)<|Ze (X0 rfl X3 (hB3.at 0))<|Ze (X1v rfl rfl) ?_
 refine Ze (Vd rfl X09 1)<|Ze (X0 rfl X3 (hB2.at 1))<|Ze (Vd rfl X0b 3)<|Ze (X0 rfl X3 (hB3.at 3))<|Ze (X1v rfl rfl) ?_
 refine Ze (X33 rfl rfl)<|Ze (Vd rfl X08 2)<|Ze (X0 rfl X3 (hB2.at 2))<|Ze (Vd rfl X08 2)<|Ze (X0 rfl X3 (hB3.at 2)) ?_
 refine Ze (X1v rfl rfl)<|Ze (X33 rfl rfl)<|Ze (Vd rfl X0b 3)<|Ze (X0 rfl X3 (hB2.at 3))<|Ze (Vd rfl X09 1) ?_
 refine Ze (X0 rfl X3 (hB3.at 1))<|Ze (X1v rfl rfl)<|Ze (X33 rfl rfl)<|Ze (Vd rfl X07 0)<|Ze (X0 rfl X3 (hB2.at 0)) ?_
 refine Ze (Vd rfl X09 1)<|Ze (X0 rfl X3 (hB3.at 1))<|Ze (X1v rfl rfl)<|Ze (Vd rfl X09 1)<|Ze (X0 rfl X3 (hB2.at 1)) ?_
 refine Ze (Vd rfl X07 0)<|Ze (X0 rfl X3 (hB3.at 0))<|Ze (X1v rfl rfl)<|Ze (X1u rfl rfl)<|Ze (Vd rfl X08 2) ?_
 refine Ze (X0 rfl X3 (hB2.at 2))<|Ze (Vd rfl X0b 3)<|Ze (X0 rfl X3 (hB3.at 3))<|Ze (X1v rfl rfl)<|Ze (X33 rfl rfl) ?_
 refine Ze (Vd rfl X0b 3)<|Ze (X0 rfl X3 (hB2.at 3))<|Ze (Vd rfl X08 2)<|Ze (X0 rfl X3 (hB3.at 2))<|Ze (X1v rfl rfl) ?_
 refine Ze (X33 rfl rfl)<|Ze (Vd rfl X07 0)<|Ze (X0 rfl X3 (hB2.at 0))<|Ze (Vd rfl X08 2)<|Ze (X0 rfl X3 (hB3.at 2)) ?_
 refine Ze (X1v rfl rfl)<|Ze (Vd rfl X09 1)<|Ze (X0 rfl X3 (hB2.at 1))<|Ze (Vd rfl X09 1)<|Ze (X0 rfl X3 (hB3.at 1)) ?_
 refine Ze (X1v rfl rfl)<|Ze (X1u rfl rfl)<|Ze (Vd rfl X08 2)<|Ze (X0 rfl X3 (hB2.at 2))<|Ze (Vd rfl X07 0) ?_
 refine Ze (X0 rfl X3 (hB3.at 0))<|Ze (X1v rfl rfl)<|Ze (X1u rfl rfl)<|Ze (Vd rfl X0b 3)<|Ze (X0 rfl X3 (hB2.at 3)) ?_
 refine Ze (Vd rfl X0b 3)<|Ze (X0 rfl X3 (hB3.at 3))<|Ze (X1v rfl rfl)<|Ze (X33 rfl rfl)<|Ze (Vd rfl X07 0) ?_
 refine Ze (X0 rfl X3 (hB2.at 0))<|Ze (Vd rfl X0b 3)<|Ze (X0 rfl X3 (hB3.at 3))<|Ze (X1v rfl rfl)<|Ze (Vd rfl X09 1) ?_
 refine Ze (X0 rfl X3 (hB2.at 1))<|Ze (Vd rfl X08 2)<|Ze (X0 rfl X3 (hB3.at 2))<|Ze (X1v rfl rfl)<|Ze (X1u rfl rfl) ?_
 refine Ze (Vd rfl X08 2)<|Ze (X0 rfl X3 (hB2.at 2))<|Ze (Vd rfl X09 1)<|Ze (X0 rfl X3 (hB3.at 1))<|Ze (X1v rfl rfl) ?_
 refine Ze (X1u rfl rfl)<|Ze (Vd rfl X0b 3)<|Ze (X0 rfl X3 (hB2.at 3))<|Ze (Vd rfl X07 0)<|Ze (X0 rfl X3 (hB3.at 0)) ?_
 refine Ze (X1v rfl rfl)<|Ze (X1u rfl rfl)<|Ze (Xt (ps:=[(0,vi (wr ((wr ((wr ((wr (x.a*y.a))-(wr (x.b*y.d))))-(wr (x.c*y.c))))-(wr (x.d*y.b))))),(1,vi (wr ((wr ((wr ((wr (x.a*y.b))+(wr (x.b*y.a))))-(wr (x.c*y.d))))-(wr (x.d*y.c))))),(2,vi (wr ((wr ((wr ((wr (x.a*y.c))+(wr (x.b*y.b))))+(wr (x.c*y.a))))-(wr (x.d*y.d))))),(3,vi (wr ((wr ((wr ((wr (x.a*y.d))+(wr (x.b*y.c))))+(wr (x.c*y.b))))+(wr (x.d*y.a)))))]) (cs:=[vi (wr ((wr ((wr ((wr (x.a*y.a))-(wr (x.b*y.d))))-(wr (x.c*y.c))))-(wr (x.d*y.b)))),vi (wr ((wr ((wr ((wr (x.a*y.b))+(wr (x.b*y.a))))-(wr (x.c*y.d))))-(wr (x.d*y.c)))),vi (wr ((wr ((wr ((wr (x.a*y.c))+(wr (x.b*y.b))))+(wr (x.c*y.a))))-(wr (x.d*y.d)))),vi (wr ((wr ((wr ((wr (x.a*y.d))+(wr (x.b*y.c))))+(wr (x.c*y.b))))+(wr (x.d*y.a))))]) rfl (fun _=>by first|rfl|kernel_rfl))<|Ze (Vn X01 hB2)<|Ze (Vn X01 hB3) ?_
 refine Zf (Xd (k:=2) (vs:=[.agg #[vi x.a,vi x.b,vi x.c,vi x.d],.agg #[vi y.a,vi y.b,vi y.c,vi y.d]]) (zs:=[vi x.a,vi x.b,vi x.c,vi x.d,vi y.a,vi y.b,vi y.c,vi y.d]) rfl X3i X45 rfl rfl) ?_;rintro _ w4 ⟨b6,rfl,hl6,hE,hB6⟩
 have hne2_6:b2≠b6:=by have:=hB2.lt;omega
 have hne3_6:b3≠b6:=by have:=hB3.lt;omega
 have hne4_6:b4≠b6:=by have:=hB4.lt;omega
 have hlo6:=Nat.le_trans hW.size hl6
 replace hB2:=hB2.below hE
 replace hB3:=hB3.below hE
 replace hB4:=hB4.below hE
 replace hW:=btr hW hE
 refine Zf (Vc (Xh8 _ (⟨wr ((wr ((wr ((wr (x.a*y.a))-(wr (x.b*y.d))))-(wr (x.c*y.c))))-(wr (x.d*y.b))),wr ((wr ((wr ((wr (x.a*y.b))+(wr (x.b*y.a))))-(wr (x.c*y.d))))-(wr (x.d*y.c))),wr ((wr ((wr ((wr (x.a*y.c))+(wr (x.b*y.b))))+(wr (x.c*y.a))))-(wr (x.d*y.d))),wr ((wr ((wr ((wr (x.a*y.d))+(wr (x.b*y.c))))+(wr (x.c*y.b))))+(wr (x.d*y.a)))⟩ : Rg) (some ⟨b6,0,none⟩) 2 ([x,y]) (Rd.of_blk hB6 rfl _ hB6.lt) rfl (by simp) (by simp)) X9g) ?_;rintro _ w5 ⟨rfl,hE⟩
 replace hB2:=hB2.below hE
 replace hB3:=hB3.below hE
 replace hB4:=hB4.below hE
 replace hB6:=hB6.below hE
 replace hW:=btr hW hE
 refine Ze (X5 (vs:=[.agg #[vi ((rIf1 (⟨wr ((wr ((wr ((wr (x.a*y.a))-(wr (x.b*y.d))))-(wr (x.c*y.c))))-(wr (x.d*y.b))),wr ((wr ((wr ((wr (x.a*y.b))+(wr (x.b*y.a))))-(wr (x.c*y.d))))-(wr (x.d*y.c))),wr ((wr ((wr ((wr (x.a*y.c))+(wr (x.b*y.b))))+(wr (x.c*y.a))))-(wr (x.d*y.d))),wr ((wr ((wr ((wr (x.a*y.d))+(wr (x.b*y.c))))+(wr (x.c*y.b))))+(wr (x.d*y.a)))⟩ : Rg) ([x,y])).a),vi ((rIf1 (⟨wr ((wr ((wr ((wr (x.a*y.a))-(wr (x.b*y.d))))-(wr (x.c*y.c))))-(wr (x.d*y.b))),wr ((wr ((wr ((wr (x.a*y.b))+(wr (x.b*y.a))))-(wr (x.c*y.d))))-(wr (x.d*y.c))),wr ((wr ((wr ((wr (x.a*y.c))+(wr (x.b*y.b))))+(wr (x.c*y.a))))-(wr (x.d*y.d))),wr ((wr ((wr ((wr (x.a*y.d))+(wr (x.b*y.c))))+(wr (x.c*y.b))))+(wr (x.d*y.a)))⟩ : Rg) ([x,y])).b),vi ((rIf1 (⟨wr ((wr ((wr ((wr (x.a*y.a))-(wr (x.b*y.d))))-(wr (x.c*y.c))))-(wr (x.d*y.b))),wr ((wr ((wr ((wr (x.a*y.b))+(wr (x.b*y.a))))-(wr (x.c*y.d))))-(wr (x.d*y.c))),wr ((wr ((wr ((wr (x.a*y.c))+(wr (x.b*y.b))))+(wr (x.c*y.a))))-(wr (x.d*y.d))),wr ((wr ((wr ((wr (x.a*y.d))+(wr (x.b*y.c))))+(wr (x.c*y.b))))+(wr (x.d*y.a)))⟩ : Rg) ([x,y])).c),vi ((rIf1 (⟨wr ((wr ((wr ((wr (x.a*y.a))-(wr (x.b*y.d))))-(wr (x.c*y.c))))-(wr (x.d*y.b))),wr ((wr ((wr ((wr (x.a*y.b))+(wr (x.b*y.a))))-(wr (x.c*y.d))))-(wr (x.d*y.c))),wr ((wr ((wr ((wr (x.a*y.c))+(wr (x.b*y.b))))+(wr (x.c*y.a))))-(wr (x.d*y.d))),wr ((wr ((wr ((wr (x.a*y.d))+(wr (x.b*y.c))))+(wr (x.c*y.b))))+(wr (x.d*y.a)))⟩ : Rg) ([x,y])).d)],.bool (rIf2 (⟨wr ((wr ((wr ((wr (x.a*y.a))-(wr (x.b*y.d))))-(wr (x.c*y.c))))-(wr (x.d*y.b))),wr ((wr ((wr ((wr (x.a*y.b))+(wr (x.b*y.a))))-(wr (x.c*y.d))))-(wr (x.d*y.c))),wr ((wr ((wr ((wr (x.a*y.c))+(wr (x.b*y.b))))+(wr (x.c*y.a))))-(wr (x.d*y.d))),wr ((wr ((wr ((wr (x.a*y.d))+(wr (x.b*y.c))))+(wr (x.c*y.b))))+(wr (x.d*y.a)))⟩ : Rg) ([x,y]))]) rfl rfl)<|Ze (X5 (vs:=[.agg #[vi ((rIf1 (⟨wr ((wr ((wr ((wr (x.a*y.a))-(wr (x.b*y.d))))-(wr (x.c*y.c))))-(wr (x.d*y.b))),wr ((wr ((wr ((wr (x.a*y.b))+(wr (x.b*y.a))))-(wr (x.c*y.d))))-(wr (x.d*y.c))),wr ((wr ((wr ((wr (x.a*y.c))+(wr (x.b*y.b))))+(wr (x.c*y.a))))-(wr (x.d*y.d))),wr ((wr ((wr ((wr (x.a*y.d))+(wr (x.b*y.c))))+(wr (x.c*y.b))))+(wr (x.d*y.a)))⟩ : Rg) ([x,y])).a),vi ((rIf1 (⟨wr ((wr ((wr ((wr (x.a*y.a))-(wr (x.b*y.d))))-(wr (x.c*y.c))))-(wr (x.d*y.b))),wr ((wr ((wr ((wr (x.a*y.b))+(wr (x.b*y.a))))-(wr (x.c*y.d))))-(wr (x.d*y.c))),wr ((wr ((wr ((wr (x.a*y.c))+(wr (x.b*y.b))))+(wr (x.c*y.a))))-(wr (x.d*y.d))),wr ((wr ((wr ((wr (x.a*y.d))+(wr (x.b*y.c))))+(wr (x.c*y.b))))+(wr (x.d*y.a)))⟩ : Rg) ([x,y])).b),vi ((rIf1 (⟨wr ((wr ((wr ((wr (x.a*y.a))-(wr (x.b*y.d))))-(wr (x.c*y.c))))-(wr (x.d*y.b))),wr ((wr ((wr ((wr (x.a*y.b))+(wr (x.b*y.a))))-(wr (x.c*y.d))))-(wr (x.d*y.c))),wr ((wr ((wr ((wr (x.a*y.c))+(wr (x.b*y.b))))+(wr (x.c*y.a))))-(wr (x.d*y.d))),wr ((wr ((wr ((wr (x.a*y.d))+(wr (x.b*y.c))))+(wr (x.c*y.b))))+(wr (x.d*y.a)))⟩ : Rg) ([x,y])).c),vi ((rIf1 (⟨wr ((wr ((wr ((wr (x.a*y.a))-(wr (x.b*y.d))))-(wr (x.c*y.c))))-(wr (x.d*y.b))),wr ((wr ((wr ((wr (x.a*y.b))+(wr (x.b*y.a))))-(wr (x.c*y.d))))-(wr (x.d*y.c))),wr ((wr ((wr ((wr (x.a*y.c))+(wr (x.b*y.b))))+(wr (x.c*y.a))))-(wr (x.d*y.d))),wr ((wr ((wr ((wr (x.a*y.d))+(wr (x.b*y.c))))+(wr (x.c*y.b))))+(wr (x.d*y.a)))⟩ : Rg) ([x,y])).d)],.bool (rIf2 (⟨wr ((wr ((wr ((wr (x.a*y.a))-(wr (x.b*y.d))))-(wr (x.c*y.c))))-(wr (x.d*y.b))),wr ((wr ((wr ((wr (x.a*y.b))+(wr (x.b*y.a))))-(wr (x.c*y.d))))-(wr (x.d*y.c))),wr ((wr ((wr ((wr (x.a*y.c))+(wr (x.b*y.b))))+(wr (x.c*y.a))))-(wr (x.d*y.d))),wr ((wr ((wr ((wr (x.a*y.d))+(wr (x.b*y.c))))+(wr (x.c*y.b))))+(wr (x.d*y.a)))⟩ : Rg) ([x,y]))]) rfl rfl) ?_
 refine Zo (Vw [vi ((rIf1 (⟨wr ((wr ((wr ((wr (x.a*y.a))-(wr (x.b*y.d))))-(wr (x.c*y.c))))-(wr (x.d*y.b))),wr ((wr ((wr ((wr (x.a*y.b))+(wr (x.b*y.a))))-(wr (x.c*y.d))))-(wr (x.d*y.c))),wr ((wr ((wr ((wr (x.a*y.c))+(wr (x.b*y.b))))+(wr (x.c*y.a))))-(wr (x.d*y.d))),wr ((wr ((wr ((wr (x.a*y.d))+(wr (x.b*y.c))))+(wr (x.c*y.b))))+(wr (x.d*y.a)))⟩ : Rg) ([x,y])).a),vi ((rIf1 (⟨wr ((wr ((wr ((wr (x.a*y.a))-(wr (x.b*y.d))))-(wr (x.c*y.c))))-(wr (x.d*y.b))),wr ((wr ((wr ((wr (x.a*y.b))+(wr (x.b*y.a))))-(wr (x.c*y.d))))-(wr (x.d*y.c))),wr ((wr ((wr ((wr (x.a*y.c))+(wr (x.b*y.b))))+(wr (x.c*y.a))))-(wr (x.d*y.d))),wr ((wr ((wr ((wr (x.a*y.d))+(wr (x.b*y.c))))+(wr (x.c*y.b))))+(wr (x.d*y.a)))⟩ : Rg) ([x,y])).b),vi ((rIf1 (⟨wr ((wr ((wr ((wr (x.a*y.a))-(wr (x.b*y.d))))-(wr (x.c*y.c))))-(wr (x.d*y.b))),wr ((wr ((wr ((wr (x.a*y.b))+(wr (x.b*y.a))))-(wr (x.c*y.d))))-(wr (x.d*y.c))),wr ((wr ((wr ((wr (x.a*y.c))+(wr (x.b*y.b))))+(wr (x.c*y.a))))-(wr (x.d*y.d))),wr ((wr ((wr ((wr (x.a*y.d))+(wr (x.b*y.c))))+(wr (x.c*y.b))))+(wr (x.d*y.a)))⟩ : Rg) ([x,y])).c),vi ((rIf1 (⟨wr ((wr ((wr ((wr (x.a*y.a))-(wr (x.b*y.d))))-(wr (x.c*y.c))))-(wr (x.d*y.b))),wr ((wr ((wr ((wr (x.a*y.b))+(wr (x.b*y.a))))-(wr (x.c*y.d))))-(wr (x.d*y.c))),wr ((wr ((wr ((wr (x.a*y.c))+(wr (x.b*y.b))))+(wr (x.c*y.a))))-(wr (x.d*y.d))),wr ((wr ((wr ((wr (x.a*y.d))+(wr (x.b*y.c))))+(wr (x.c*y.b))))+(wr (x.d*y.a)))⟩ : Rg) ([x,y])).d)] X0s hB4) ?_;rintro _ w6 ⟨ho,hb⟩
 have hold:=hB4
 replace hB2:=hB2.only ho (by omega)
 replace hB3:=hB3.only ho (by omega)
 replace hB6:=hB6.only ho (by omega)
 replace hW:=Below.only hW ho hlo4
 clear hold
 have hB4:=hb
 clear hb ho
 refine Za rfl ?_
 refine Zt hK5 fun a hf=>?_
 refine wp_ret (X2 hf (X12 hf rfl (ResV.cellN (l:=[vi ((rIf1 (⟨wr ((wr ((wr ((wr (x.a*y.a))-(wr (x.b*y.d))))-(wr (x.c*y.c))))-(wr (x.d*y.b))),wr ((wr ((wr ((wr (x.a*y.b))+(wr (x.b*y.a))))-(wr (x.c*y.d))))-(wr (x.d*y.c))),wr ((wr ((wr ((wr (x.a*y.c))+(wr (x.b*y.b))))+(wr (x.c*y.a))))-(wr (x.d*y.d))),wr ((wr ((wr ((wr (x.a*y.d))+(wr (x.b*y.c))))+(wr (x.c*y.b))))+(wr (x.d*y.a)))⟩ : Rg) ([x,y])).a),vi ((rIf1 (⟨wr ((wr ((wr ((wr (x.a*y.a))-(wr (x.b*y.d))))-(wr (x.c*y.c))))-(wr (x.d*y.b))),wr ((wr ((wr ((wr (x.a*y.b))+(wr (x.b*y.a))))-(wr (x.c*y.d))))-(wr (x.d*y.c))),wr ((wr ((wr ((wr (x.a*y.c))+(wr (x.b*y.b))))+(wr (x.c*y.a))))-(wr (x.d*y.d))),wr ((wr ((wr ((wr (x.a*y.d))+(wr (x.b*y.c))))+(wr (x.c*y.b))))+(wr (x.d*y.a)))⟩ : Rg) ([x,y])).b),vi ((rIf1 (⟨wr ((wr ((wr ((wr (x.a*y.a))-(wr (x.b*y.d))))-(wr (x.c*y.c))))-(wr (x.d*y.b))),wr ((wr ((wr ((wr (x.a*y.b))+(wr (x.b*y.a))))-(wr (x.c*y.d))))-(wr (x.d*y.c))),wr ((wr ((wr ((wr (x.a*y.c))+(wr (x.b*y.b))))+(wr (x.c*y.a))))-(wr (x.d*y.d))),wr ((wr ((wr ((wr (x.a*y.d))+(wr (x.b*y.c))))+(wr (x.c*y.b))))+(wr (x.d*y.a)))⟩ : Rg) ([x,y])).c),vi ((rIf1 (⟨wr ((wr ((wr ((wr (x.a*y.a))-(wr (x.b*y.d))))-(wr (x.c*y.c))))-(wr (x.d*y.b))),wr ((wr ((wr ((wr (x.a*y.b))+(wr (x.b*y.a))))-(wr (x.c*y.d))))-(wr (x.d*y.c))),wr ((wr ((wr ((wr (x.a*y.c))+(wr (x.b*y.b))))+(wr (x.c*y.a))))-(wr (x.d*y.d))),wr ((wr ((wr ((wr (x.a*y.d))+(wr (x.b*y.c))))+(wr (x.c*y.b))))+(wr (x.d*y.a)))⟩ : Rg) ([x,y])).d)]) rfl X01 (hB4.at 0) rfl) rfl) ?_)
 exact ⟨rfl,hW⟩
theorem Xq3(w0:World)(x:Rg)(y:Rg) : Ret Tryz.prog 141 [.agg #[vi x.a,vi x.b,vi x.c,vi x.d],.agg #[vi y.a,vi y.b,vi y.c,vi y.d]] w0 (fun v w=>v=.tuple #[rV (rIf1 (rAdd x y) [x,y]),.bool (rIf2 (rAdd x y) [x,y])]∧Below w0.heap.size w0 w):=by
 refine enter Tryz.func141 rfl 33 rfl rfl ?_
 intro a hf
 have hW:Below w0.heap.size w0 w0:=Below.refl _ _
 refine Zs hf fun _ hK1=>?_
 refine Zf (X0j (zs:=[vi x.a,vi x.b,vi x.c,vi x.d]) rfl rfl) ?_;rintro _ w1 ⟨b2,rfl,hl2,hE,hB2⟩
 have hlo2:=Nat.le_trans hW.size hl2
 replace hW:=btr hW hE
 refine Zf (X0j (zs:=[vi y.a,vi y.b,vi y.c,vi y.d]) rfl rfl) ?_;rintro _ w2 ⟨b3,rfl,hl3,hE,hB3⟩
 have hne2_3:b2≠b3:=by have:=hB2.lt;omega
 have hlo3:=Nat.le_trans hW.size hl3
 replace hB2:=hB2.below hE
 replace hW:=btr hW hE
 refine Zf (X6 (zs:=[vi 0,vi 0,vi 0,vi 0]) X1t rfl) ?_;rintro _ w3 ⟨b4,rfl,hl4,hE,hB4⟩
 have hne2_4:b2≠b4:=by have:=hB2.lt;omega
 have hne3_4:b3≠b4:=by have:=hB3.lt;omega
 have hlo4:=Nat.le_trans hW.size hl4
 replace hB2:=hB2.below hE
 replace hB3:=hB3.below hE
 replace hW:=btr hW hE
 refine Za rfl ?_
 refine Zt hK1 fun a hf=>?_
 refine Zs hf fun _ hK5=>?_
 refine Ze (Vd rfl X07 0)<|Ze (X0 rfl X3 (hB2.at 0))<|Ze (Vd rfl X07 0)<|Ze (X0 rfl X3 (hB3.at 0))<|Ze (X1u rfl rfl) ?_
 refine Ze (Vd rfl X09 1)<|Ze (X0 rfl X3 (hB2.at 1))<|Ze (Vd rfl X09 1)<|Ze (X0 rfl X3 (hB3.at 1))<|Ze (X1u rfl rfl) ?_
 refine Ze (Vd rfl X08 2)<|Ze (X0 rfl X3 (hB2.at 2))<|Ze (Vd rfl X08 2)<|Ze (X0 rfl X3 (hB3.at 2))<|Ze (X1u rfl rfl) ?_
 refine Ze (Vd rfl X0b 3)<|Ze (X0 rfl X3 (hB2.at 3))<|Ze (Vd rfl X0b 3)<|Ze (X0 rfl X3 (hB3.at 3))<|Ze (X1u rfl rfl) ?_
 refine Ze (Xt (ps:=[(0,vi (wr (x.a+y.a))),(1,vi (wr (x.b+y.b))),(2,vi (wr (x.c+y.c))),(3,vi (wr (x.d+y.d)))]) (cs:=[vi (wr (x.a+y.a)),vi (wr (x.b+y.b)),vi (wr (x.c+y.c)),vi (wr (x.d+y.d))]) rfl (fun _=>by first|rfl|kernel_rfl))<|Ze (Vn X01 hB2)<|Ze (Vn X01 hB3) ?_
 refine Zf (Xd (k:=2) (vs:=[.agg #[vi x.a,vi x.b,vi x.c,vi x.d],.agg #[vi y.a,vi y.b,vi y.c,vi y.d]]) (zs:=[vi x.a,vi x.b,vi x.c,vi x.d,vi y.a,vi y.b,vi y.c,vi y.d]) rfl X3i X45 rfl rfl) ?_;rintro _ w4 ⟨b6,rfl,hl6,hE,hB6⟩
 have hne2_6:b2≠b6:=by have:=hB2.lt;omega
 have hne3_6:b3≠b6:=by have:=hB3.lt;omega
 have hne4_6:b4≠b6:=by have:=hB4.lt;omega
 have hlo6:=Nat.le_trans hW.size hl6
 replace hB2:=hB2.below hE
 replace hB3:=hB3.below hE
 replace hB4:=hB4.below hE
 replace hW:=btr hW hE
 refine Zf (Vc (Xh8 _ (⟨wr (x.a+y.a),wr (x.b+y.b),wr (x.c+y.c),wr (x.d+y.d)⟩ : Rg) (some ⟨b6,0,none⟩) 2 ([x,y]) (Rd.of_blk hB6 rfl _ hB6.lt) rfl (by simp) (by simp)) X9g) ?_;rintro _ w5 ⟨rfl,hE⟩
 replace hB2:=hB2.below hE
 replace hB3:=hB3.below hE
 replace hB4:=hB4.below hE
 replace hB6:=hB6.below hE
 replace hW:=btr hW hE
 refine Ze (X5 (vs:=[.agg #[vi ((rIf1 (⟨wr (x.a+y.a),wr (x.b+y.b),wr (x.c+y.c),wr (x.d+y.d)⟩ : Rg) ([x,y])).a),vi ((rIf1 (⟨wr (x.a+y.a),wr (x.b+y.b),wr (x.c+y.c),wr (x.d+y.d)⟩ : Rg) ([x,y])).b),vi ((rIf1 (⟨wr (x.a+y.a),wr (x.b+y.b),wr (x.c+y.c),wr (x.d+y.d)⟩ : Rg) ([x,y])).c),vi ((rIf1 (⟨wr (x.a+y.a),wr (x.b+y.b),wr (x.c+y.c),wr (x.d+y.d)⟩ : Rg) ([x,y])).d)],.bool (rIf2 (⟨wr (x.a+y.a),wr (x.b+y.b),wr (x.c+y.c),wr (x.d+y.d)⟩ : Rg) ([x,y]))]) rfl rfl)<|Ze (X5 (vs:=[.agg #[vi ((rIf1 (⟨wr (x.a+y.a),wr (x.b+y.b),wr (x.c+y.c),wr (x.d+y.d)⟩ : Rg) ([x,y])).a),vi ((rIf1 (⟨wr (x.a+y.a),wr (x.b+y.b),wr (x.c+y.c),wr (x.d+y.d)⟩ : Rg) ([x,y])).b),vi ((rIf1 (⟨wr (x.a+y.a),wr (x.b+y.b),wr (x.c+y.c),wr (x.d+y.d)⟩ : Rg) ([x,y])).c),vi ((rIf1 (⟨wr (x.a+y.a),wr (x.b+y.b),wr (x.c+y.c),wr (x.d+y.d)⟩ : Rg) ([x,y])).d)],.bool (rIf2 (⟨wr (x.a+y.a),wr (x.b+y.b),wr (x.c+y.c),wr (x.d+y.d)⟩ : Rg) ([x,y]))]) rfl rfl) ?_
 refine Zo (Vw [vi ((rIf1 (⟨wr (x.a+y.a),wr (x.b+y.b),wr (x.c+y.c),wr (x.d+y.d)⟩ : Rg) ([x,y])).a),vi ((rIf1 (⟨wr (x.a+y.a),wr (x.b+y.b),wr (x.c+y.c),wr (x.d+y.d)⟩ : Rg) ([x,y])).b),vi ((rIf1 (⟨wr (x.a+y.a),wr (x.b+y.b),wr (x.c+y.c),wr (x.d+y.d)⟩ : Rg) ([x,y])).c),vi ((rIf1 (⟨wr (x.a+y.a),wr (x.b+y.b),wr (x.c+y.c),wr (x.d+y.d)⟩ : Rg) ([x,y])).d)] X0s hB4) ?_;rintro _ w6 ⟨ho,hb⟩
 have hold:=hB4
 replace hB2:=hB2.only ho (by omega)
 replace hB3:=hB3.only ho (by omega)
 replace hB6:=hB6.only ho (by omega)
 replace hW:=Below.only hW ho hlo4
 clear hold
 have hB4:=hb
 clear hb ho
 refine Za rfl ?_
 refine Zt hK5 fun a hf=>?_
 refine wp_ret (X2 hf (X12 hf rfl (ResV.cellN (l:=[vi ((rIf1 (⟨wr (x.a+y.a),wr (x.b+y.b),wr (x.c+y.c),wr (x.d+y.d)⟩ : Rg) ([x,y])).a),vi ((rIf1 (⟨wr (x.a+y.a),wr (x.b+y.b),wr (x.c+y.c),wr (x.d+y.d)⟩ : Rg) ([x,y])).b),vi ((rIf1 (⟨wr (x.a+y.a),wr (x.b+y.b),wr (x.c+y.c),wr (x.d+y.d)⟩ : Rg) ([x,y])).c),vi ((rIf1 (⟨wr (x.a+y.a),wr (x.b+y.b),wr (x.c+y.c),wr (x.d+y.d)⟩ : Rg) ([x,y])).d)]) rfl X01 (hB4.at 0) rfl) rfl) ?_)
 exact ⟨rfl,hW⟩
theorem Xpn(w0:World)(x:Rg) : Ret Tryz.prog 205 [.agg #[vi x.a,vi x.b,vi x.c,vi x.d]] w0 (fun v w=>v=.tuple #[rV (rIf1 (rRoot x) [x]),.bool (rIf2 (rRoot x) [x])]∧Below w0.heap.size w0 w):=by
 refine enter Tryz.func205 rfl 30 rfl rfl ?_
 intro a hf
 have hW:Below w0.heap.size w0 w0:=Below.refl _ _
 refine Zs hf fun _ hK1=>?_
 refine Zf (X0j (zs:=[vi x.a,vi x.b,vi x.c,vi x.d]) rfl rfl) ?_;rintro _ w1 ⟨b2,rfl,hl2,hE,hB2⟩
 have hlo2:=Nat.le_trans hW.size hl2
 replace hW:=btr hW hE
 refine Zf (X6 (zs:=[vi 0,vi 0,vi 0,vi 0]) X1t rfl) ?_;rintro _ w2 ⟨b3,rfl,hl3,hE,hB3⟩
 have hne2_3:b2≠b3:=by have:=hB2.lt;omega
 have hlo3:=Nat.le_trans hW.size hl3
 replace hB2:=hB2.below hE
 replace hW:=btr hW hE
 refine Za rfl ?_
 refine Zt hK1 fun a hf=>?_
 refine Zs hf fun _ hK4=>?_
 refine Ze (Vd rfl X09 1)<|Ze (X0 rfl X3 (hB2.at 1))<|Ze (Vd rfl X0b 3)<|Ze (X0 rfl X3 (hB2.at 3))<|Ze (X33 rfl rfl) ?_
 refine Ze (Vd rfl X07 0)<|Ze (X0 rfl X3 (hB2.at 0))<|Ze (Vd rfl X08 2)<|Ze (X0 rfl X3 (hB2.at 2))<|Ze (X1u rfl rfl) ?_
 refine Ze (Vd rfl X09 1)<|Ze (X0 rfl X3 (hB2.at 1))<|Ze (Vd rfl X0b 3)<|Ze (X0 rfl X3 (hB2.at 3))<|Ze (X1u rfl rfl) ?_
 refine Ze (Vd rfl X08 2)<|Ze (X0 rfl X3 (hB2.at 2))<|Ze (Vd rfl X07 0)<|Ze (X0 rfl X3 (hB2.at 0))<|Ze (X33 rfl rfl) ?_
 refine Ze (Xt (ps:=[(0,vi (wr (x.b-x.d))),(1,vi (wr (x.a+x.c))),(2,vi (wr (x.b+x.d))),(3,vi (wr (x.c-x.a)))]) (cs:=[vi (wr (x.b-x.d)),vi (wr (x.a+x.c)),vi (wr (x.b+x.d)),vi (wr (x.c-x.a))]) rfl (fun _=>by first|rfl|kernel_rfl))<|Ze (Vn X01 hB2) ?_
 refine Zf (Xd (k:=1) (vs:=[.agg #[vi x.a,vi x.b,vi x.c,vi x.d]]) (zs:=[vi x.a,vi x.b,vi x.c,vi x.d]) rfl X3i X45 rfl rfl) ?_;rintro _ w3 ⟨b5,rfl,hl5,hE,hB5⟩
 have hne2_5:b2≠b5:=by have:=hB2.lt;omega
 have hne3_5:b3≠b5:=by have:=hB3.lt;omega
 have hlo5:=Nat.le_trans hW.size hl5
 replace hB2:=hB2.below hE
 replace hB3:=hB3.below hE
 replace hW:=btr hW hE
 refine Zf (Vc (Xh8 _ (⟨wr (x.b-x.d),wr (x.a+x.c),wr (x.b+x.d),wr (x.c-x.a)⟩ : Rg) (some ⟨b5,0,none⟩) 1 ([x]) (Rd.of_blk hB5 rfl _ hB5.lt) rfl (by simp) (by simp)) X9g) ?_;rintro _ w4 ⟨rfl,hE⟩
 replace hB2:=hB2.below hE
 replace hB3:=hB3.below hE
 replace hB5:=hB5.below hE
 replace hW:=btr hW hE
 refine Ze (X5 (vs:=[.agg #[vi ((rIf1 (⟨wr (x.b-x.d),wr (x.a+x.c),wr (x.b+x.d),wr (x.c-x.a)⟩ : Rg) ([x])).a),vi ((rIf1 (⟨wr (x.b-x.d),wr (x.a+x.c),wr (x.b+x.d),wr (x.c-x.a)⟩ : Rg) ([x])).b),vi ((rIf1 (⟨wr (x.b-x.d),wr (x.a+x.c),wr (x.b+x.d),wr (x.c-x.a)⟩ : Rg) ([x])).c),vi ((rIf1 (⟨wr (x.b-x.d),wr (x.a+x.c),wr (x.b+x.d),wr (x.c-x.a)⟩ : Rg) ([x])).d)],.bool (rIf2 (⟨wr (x.b-x.d),wr (x.a+x.c),wr (x.b+x.d),wr (x.c-x.a)⟩ : Rg) ([x]))]) rfl rfl)<|Ze (X5 (vs:=[.agg #[vi ((rIf1 (⟨wr (x.b-x.d),wr (x.a+x.c),wr (x.b+x.d),wr (x.c-x.a)⟩ : Rg) ([x])).a),vi ((rIf1 (⟨wr (x.b-x.d),wr (x.a+x.c),wr (x.b+x.d),wr (x.c-x.a)⟩ : Rg) ([x])).b),vi ((rIf1 (⟨wr (x.b-x.d),wr (x.a+x.c),wr (x.b+x.d),wr (x.c-x.a)⟩ : Rg) ([x])).c),vi ((rIf1 (⟨wr (x.b-x.d),wr (x.a+x.c),wr (x.b+x.d),wr (x.c-x.a)⟩ : Rg) ([x])).d)],.bool (rIf2 (⟨wr (x.b-x.d),wr (x.a+x.c),wr (x.b+x.d),wr (x.c-x.a)⟩ : Rg) ([x]))]) rfl rfl) ?_
 refine Zo (Vw [vi ((rIf1 (⟨wr (x.b-x.d),wr (x.a+x.c),wr (x.b+x.d),wr (x.c-x.a)⟩ : Rg) ([x])).a),vi ((rIf1 (⟨wr (x.b-x.d),wr (x.a+x.c),wr (x.b+x.d),wr (x.c-x.a)⟩ : Rg) ([x])).b),vi ((rIf1 (⟨wr (x.b-x.d),wr (x.a+x.c),wr (x.b+x.d),wr (x.c-x.a)⟩ : Rg) ([x])).c),vi ((rIf1 (⟨wr (x.b-x.d),wr (x.a+x.c),wr (x.b+x.d),wr (x.c-x.a)⟩ : Rg) ([x])).d)] X0s hB3) ?_;rintro _ w5 ⟨ho,hb⟩
 have hold:=hB3
 replace hB2:=hB2.only ho (by omega)
 replace hB5:=hB5.only ho (by omega)
 replace hW:=Below.only hW ho hlo3
 clear hold
 have hB3:=hb
 clear hb ho
 refine Za rfl ?_
 refine Zt hK4 fun a hf=>?_
 refine wp_ret (X2 hf (X12 hf rfl (ResV.cellN (l:=[vi ((rIf1 (⟨wr (x.b-x.d),wr (x.a+x.c),wr (x.b+x.d),wr (x.c-x.a)⟩ : Rg) ([x])).a),vi ((rIf1 (⟨wr (x.b-x.d),wr (x.a+x.c),wr (x.b+x.d),wr (x.c-x.a)⟩ : Rg) ([x])).b),vi ((rIf1 (⟨wr (x.b-x.d),wr (x.a+x.c),wr (x.b+x.d),wr (x.c-x.a)⟩ : Rg) ([x])).c),vi ((rIf1 (⟨wr (x.b-x.d),wr (x.a+x.c),wr (x.b+x.d),wr (x.c-x.a)⟩ : Rg) ([x])).d)]) rfl X01 (hB3.at 0) rfl) rfl) ?_)
 exact ⟨rfl,hW⟩
end Go.Proofs.YtlfjcmldfbfdbaaGreat
set_option maxRecDepth 4000
namespace Go.Proofs.YtlfjcmldfbfdbaaGreat
open Go.RowKit
theorem Xo2(w0:World)(x:Rg)(m:Int)(hm:m≤1000) : Ret Tryz.prog 201 [.agg #[vi x.a,vi x.b,vi x.c,vi x.d],vi m] w0 (fun v w=>v=dV (dLow x m)∧Below w0.heap.size w0 w):=by
 refine enter Tryz.func201 rfl 18 rfl rfl ?_
 intro a hf
 have hW:Below w0.heap.size w0 w0:=Below.refl _ _
 refine Zs hf fun _ hK1=>?_
 refine Zf (X0j (zs:=[vi x.a,vi x.b,vi x.c,vi x.d]) rfl rfl) ?_;rintro _ w1 ⟨b2,rfl,hl2,hE,hB2⟩
 have hlo2:=Nat.le_trans hW.size hl2
 replace hW:=btr hW hE
 refine Zf (X6 (zs:=[vi 0,vi 0,vi 0,vi 0,vi 0]) X17 rfl) ?_;rintro _ w2 ⟨b3,rfl,hl3,hE,hB3⟩
 have hlo3:=Nat.le_trans hW.size hl3
 replace hB2:=hB2.below hE
 replace hW:=btr hW hE
 refine Zt hK1 fun a hf=>?_
 refine wp_seq_k fun _ hK4=>?_
 refine wp_block ?_
 refine X0c (σ:=Rg×Int) (fun (s:Rg×Int) (a:Act) (w:World)=>match s with|(y,j)=>Fr a 18 [(1,vi j),(2,.pointer (some ⟨b2,0,none⟩)),(4,.pointer (some ⟨b3,0,none⟩))]∧(dLow y j=dLow x m)∧(j≤1000)∧Blk w b2 96 [vi y.a,vi y.b,vi y.c,vi y.d]∧Blk w b3 98 [vi 0,vi 0,vi 0,vi 0,vi 0]∧Below w0.heap.size w0 w) (fun (s:Rg×Int)=>match s with|(y,j)=>j.toNat) (x,m) ?_ ?_
 ·exact ⟨hf.sub ⟨rfl,rfl,rfl,trivial⟩,rfl,hm,hB2,hB3,hW⟩
 rintro ⟨y,j⟩ a w3 ⟨hf,hinv,hjm,hB2,hB3,hW⟩
 refine wp_seq_k fun _ hK5=>?_
 refine wp_seq_k fun _ hK6=>?_
 refine X0g (fun a w=>Fr a 18 [(1,vi j),(2,.pointer (some ⟨b2,0,none⟩)),(4,.pointer (some ⟨b3,0,none⟩)),(10,.bool ((decide (0<j))&&(rEven y)))]∧Below w3.heap.size w3 w) ?_ ?_
 ·have hEc:Below w3.heap.size w3 w3:=Below.refl _ _
  refine Zr hf ?_
  refine Zm rfl<|Ze (X5r rfl rfl)<|Zm rfl ?_
  refine Zg 7 rfl (fun hg7=>?_) (fun hg7=>?_)
  ·refine Zv ⟨_,_,rfl,rfl,hg7⟩ (Vn X01 hB2) ?_
   refine Zk ⟨_,_,rfl,rfl,hg7⟩ (Vc (Xot _ y) Xl8) ?_;rintro _ w4 ⟨rfl,hE⟩
   replace hB2:=hB2.below hE
   replace hB3:=hB3.below hE
   replace hW:=btr hW hE
   replace hEc:=btr hEc hE
   refine Ze (Xg rfl hg7 rfl) ?_
   refine Zn fun a hf=>?_
   have hEE:Below w3.heap.size w3 w4:=hEc
   exact ⟨hf.sub ⟨rfl,rfl,rfl,X1 rfl (by first|rfl|(simp only [hg7,bs];done)|simp [hg7]),trivial⟩,hEE⟩
  refine Zp ⟨_,_,rfl,rfl,hg7⟩ ?_
  refine Zp ⟨_,_,rfl,rfl,hg7⟩ ?_
  refine Ze (Xf rfl hg7 rfl) ?_
  refine Zn fun a hf=>?_
  have hEE:Below w3.heap.size w3 w3:=hEc
  exact ⟨hf.sub ⟨rfl,rfl,rfl,X1 rfl (by first|rfl|(simp only [hg7,bs];done)|simp [hg7]),trivial⟩,hEE⟩
 rintro a w5 ⟨hf,hE⟩
 replace hB2:=hB2.below hE
 replace hB3:=hB3.below hE
 replace hW:=btr hW hE
 refine hK6 _ _ ?_
 refine Xm hf rfl (fun hc8=>?_) (fun hc8=>?_)
 ·have hc8b:=hc8
  have hj0:0<j:=by revert hc8;simp;omega
  have hev:rEven y=true:=by revert hc8;cases rEven y<;>simp
  refine wp_skip ?_
  refine hK5 _ _ ?_
  refine wp_block ?_
  refine Zs hf fun _ hK9=>?_
  refine Ze (Vn X01 hB2) ?_
  refine Zf (Vc (Xpg _ y) Xka) ?_;rintro _ w6 ⟨rfl,hE⟩
  replace hB2:=hB2.below hE
  replace hB3:=hB3.below hE
  replace hW:=btr hW hE
  refine Zo (Vw [vi ((rHalf y).a),vi ((rHalf y).b),vi ((rHalf y).c),vi ((rHalf y).d)] X0s hB2) ?_;rintro _ w7 ⟨ho,hb⟩
  have hold:=hB2
  replace hB3:=hB3.only ho (Blk.ne hB3 hold rfl)
  replace hW:=Below.only hW ho hlo2
  clear hold
  have hB2:=hb
  clear hb ho
  refine Zt hK9 fun a hf=>?_
  refine Zr hf ?_
  refine Zm rfl<|Ze (X1d rfl rfl (by omega) (by omega))<|Za rfl ?_
  refine Zn fun a hf=>?_
  refine Xr ?_
  refine Xz ?_
  exact ⟨(rHalf y,j-1),⟨hf.sub ⟨rfl,rfl,rfl,trivial⟩,(by rw [← hinv];exact (X2y (by omega) hev).symm),(by omega),hB2,hB3,hW⟩,(by first|omega|(dsimp only;omega))⟩
 have hc8b:=hc8
 have hst:dLow y j=⟨y,j⟩:=X1o (by intro h0;revert hc8;simp [h0])
 refine wp_exit ?_
 refine Xu ?_
 refine Xu ?_
 refine X0f ?_
 refine hK4 _ _ ?_
 refine Zs hf fun _ hK10=>?_
 refine Ze (Vn X01 hB2)<|Zm rfl<|Ze (Xt (ps:=[(0,.agg #[vi y.a,vi y.b,vi y.c,vi y.d]),(1,vi j)]) (cs:=[vi y.a,vi y.b,vi y.c,vi y.d,vi j]) rfl (fun _=>by first|rfl|kernel_rfl)) ?_
 refine Zo (Vw [vi y.a,vi y.b,vi y.c,vi y.d,vi j] Xk hB3) ?_;rintro _ w8 ⟨ho,hb⟩
 have hold:=hB3
 replace hB2:=hB2.only ho (Blk.ne hB2 hold rfl)
 replace hW:=Below.only hW ho hlo3
 clear hold
 have hB3:=hb
 clear hb ho
 refine Zt hK10 fun a hf=>?_
 refine wp_ret (X2 hf (Xj hf rfl (ResV.cellN (l:=[vi y.a,vi y.b,vi y.c,vi y.d,vi j]) rfl X9 (hB3.at 0) rfl)) ?_)
 refine ⟨?_,hW⟩
 rw [← hinv,hst]
theorem Xp7(w0:World)(x:Rg) : Ret Tryz.prog 183 [.agg #[vi x.a,vi x.b,vi x.c,vi x.d]] w0 (fun v w=>v=.tuple #[rV (rDiv1 x),.bool (rDiv2 x)]∧Below w0.heap.size w0 w):=by
 refine enter Tryz.func183 rfl 43 rfl rfl ?_
 intro a hf
 have hW:Below w0.heap.size w0 w0:=Below.refl _ _
 refine Zs hf fun _ hK1=>?_
 refine Zf (X0j (zs:=[vi x.a,vi x.b,vi x.c,vi x.d]) rfl rfl) ?_;rintro _ w1 ⟨b2,rfl,hl2,hE,hB2⟩
 have hlo2:=Nat.le_trans hW.size hl2
 replace hW:=btr hW hE
 refine Zf (X6 (zs:=[vi 0,vi 0,vi 0,vi 0]) X1t rfl) ?_;rintro _ w2 ⟨b3,rfl,hl3,hE,hB3⟩
 have hne2_3:b2≠b3:=by have:=hB2.lt;omega
 have hlo3:=Nat.le_trans hW.size hl3
 replace hB2:=hB2.below hE
 replace hW:=btr hW hE
 refine Za rfl ?_
 refine Zt hK1 fun a hf=>?_
 refine wp_seq_k fun _ hK4=>?_
 refine wp_seq_k fun _ hK5=>?_
 refine X0g (fun a w=>Fr a 43 [(1,.pointer (some ⟨b2,0,none⟩)),(2,.pointer (some ⟨b3,0,none⟩)),(11,.bool ((!(rOk x))||(!(rEven x))))]∧Below w2.heap.size w2 w) ?_ ?_
 ·have hEc:Below w2.heap.size w2 w2:=Below.refl _ _
  refine Zr hf ?_
  refine Ze (Vn X01 hB2) ?_
  refine Zf (Vc (Xen _ x) X6s) ?_;rintro _ w3 ⟨rfl,hE⟩
  replace hB2:=hB2.below hE
  replace hB3:=hB3.below hE
  replace hW:=btr hW hE
  replace hEc:=btr hEc hE
  refine Ze (X15 rfl)<|Zm rfl ?_
  refine Zg 7 rfl (fun hg6=>?_) (fun hg6=>?_)
  ·refine Zp ⟨_,_,rfl,rfl,hg6⟩ ?_
   refine Zp ⟨_,_,rfl,rfl,hg6⟩ ?_
   refine Zp ⟨_,_,rfl,rfl,hg6⟩ ?_
   refine Ze (Xg rfl hg6 rfl) ?_
   refine Zn fun a hf=>?_
   have hEE:Below w2.heap.size w2 w3:=hEc
   exact ⟨hf.sub ⟨rfl,rfl,X1 rfl (by first|rfl|(simp only [hg6,bs];done)|simp [hg6]),trivial⟩,hEE⟩
  refine Zv ⟨_,_,rfl,rfl,hg6⟩ (Vn X01 hB2) ?_
  refine Zk ⟨_,_,rfl,rfl,hg6⟩ (Vc (Xkv _ x) Xbe) ?_;rintro _ w4 ⟨rfl,hE⟩
  replace hB2:=hB2.below hE
  replace hB3:=hB3.below hE
  replace hW:=btr hW hE
  replace hEc:=btr hEc hE
  refine Zv ⟨_,_,rfl,rfl,hg6⟩ (X15 rfl) ?_
  refine Ze (Xf rfl hg6 rfl) ?_
  refine Zn fun a hf=>?_
  have hEE:Below w2.heap.size w2 w4:=hEc
  exact ⟨hf.sub ⟨rfl,rfl,X1 rfl (by first|rfl|(simp only [hg6,bs];done)|simp [hg6]),trivial⟩,hEE⟩
 rintro a w5 ⟨hf,hE⟩
 replace hB2:=hB2.below hE
 replace hB3:=hB3.below hE
 replace hW:=btr hW hE
 refine hK5 _ _ ?_
 refine Xm hf rfl (fun hc7=>?_) (fun hc7=>?_)
 ·have hc7b:=hc7
  have hn:rDiv2 x=false:=by unfold rDiv2;revert hc7;cases rOk x<;>cases rEven x<;>simp
  refine Zs hf fun _ hK8=>?_
  refine Ze (Xt (ps:=[]) (cs:=[vi 0,vi 0,vi 0,vi 0]) rfl (fun _=>by first|rfl|kernel_rfl)) ?_
  refine Zo (Vw [vi 0,vi 0,vi 0,vi 0] X0s hB3) ?_;rintro _ w6 ⟨ho,hb⟩
  have hold:=hB3
  replace hB2:=hB2.only ho (by omega)
  replace hW:=Below.only hW ho hlo3
  clear hold
  have hB3:=hb
  clear hb ho
  refine Za rfl ?_
  refine Zt hK8 fun a hf=>?_
  refine wp_ret ?_
  refine X7 ?_
  refine X2 hf (X12 hf rfl (ResV.cellN (l:=[vi 0,vi 0,vi 0,vi 0]) rfl X01 (hB3.at 0) rfl) rfl) ?_
  exact ⟨by simp [rDiv1,hn],hW⟩
 have hc7b:=hc7
 have hy:(rOk x&&rEven x)=true:=by revert hc7;cases rOk x<;>cases rEven x<;>simp
 have hok:rOk x=true:=by revert hy;cases rOk x<;>simp
 refine wp_skip ?_
 refine hK4 _ _ ?_
 refine Zs hf fun _ hK9=>?_
 refine Ze (Vd rfl X09 1)<|Ze (X0 rfl X3 (hB2.at 1))<|Ze (Vd rfl X0b 3)<|Ze (X0 rfl X3 (hB2.at 3))<|Ze (X33 rfl rfl) ?_
 refine Ze (X8q rfl rfl rfl)<|Ze (Vd rfl X07 0)<|Ze (X0 rfl X3 (hB2.at 0))<|Ze (Vd rfl X08 2)<|Ze (X0 rfl X3 (hB2.at 2)) ?_
 refine Ze (X1u rfl rfl)<|Ze (X8q rfl rfl rfl)<|Ze (Vd rfl X09 1)<|Ze (X0 rfl X3 (hB2.at 1))<|Ze (Vd rfl X0b 3) ?_
 refine Ze (X0 rfl X3 (hB2.at 3))<|Ze (X1u rfl rfl)<|Ze (X8q rfl rfl rfl)<|Ze (Vd rfl X08 2)<|Ze (X0 rfl X3 (hB2.at 2)) ?_
 refine Ze (Vd rfl X07 0)<|Ze (X0 rfl X3 (hB2.at 0))<|Ze (X33 rfl rfl)<|Ze (X8q rfl rfl rfl)<|Ze (Xt (ps:=[(0,vi (wr ((wr (x.b-x.d)).tdiv 2))),(1,vi (wr ((wr (x.a+x.c)).tdiv 2))),(2,vi (wr ((wr (x.b+x.d)).tdiv 2))),(3,vi (wr ((wr (x.c-x.a)).tdiv 2)))]) (cs:=[vi (wr ((wr (x.b-x.d)).tdiv 2)),vi (wr ((wr (x.a+x.c)).tdiv 2)),vi (wr ((wr (x.b+x.d)).tdiv 2)),vi (wr ((wr (x.c-x.a)).tdiv 2))]) rfl (fun _=>by first|rfl|kernel_rfl)) ?_
 refine Ze (Vn X01 hB2) ?_
 refine Zf (Xd (k:=1) (vs:=[.agg #[vi x.a,vi x.b,vi x.c,vi x.d]]) (zs:=[vi x.a,vi x.b,vi x.c,vi x.d]) rfl X3i X45 rfl rfl) ?_;rintro _ w7 ⟨b10,rfl,hl10,hE,hB10⟩
 have hne2_10:b2≠b10:=by have:=hB2.lt;omega
 have hne3_10:b3≠b10:=by have:=hB3.lt;omega
 have hlo10:=Nat.le_trans hW.size hl10
 replace hB2:=hB2.below hE
 replace hB3:=hB3.below hE
 replace hW:=btr hW hE
 refine Zf (Vc (Xh8 _ (⟨wr ((wr (x.b-x.d)).tdiv 2),wr ((wr (x.a+x.c)).tdiv 2),wr ((wr (x.b+x.d)).tdiv 2),wr ((wr (x.c-x.a)).tdiv 2)⟩ : Rg) (some ⟨b10,0,none⟩) 1 ([x]) (Rd.of_blk hB10 rfl _ hB10.lt) rfl (by simp) (by simp)) X9g) ?_;rintro _ w8 ⟨rfl,hE⟩
 replace hB2:=hB2.below hE
 replace hB3:=hB3.below hE
 replace hB10:=hB10.below hE
 replace hW:=btr hW hE
 refine Ze (X5 (vs:=[.agg #[vi ((rIf1 (⟨wr ((wr (x.b-x.d)).tdiv 2),wr ((wr (x.a+x.c)).tdiv 2),wr ((wr (x.b+x.d)).tdiv 2),wr ((wr (x.c-x.a)).tdiv 2)⟩ : Rg) ([x])).a),vi ((rIf1 (⟨wr ((wr (x.b-x.d)).tdiv 2),wr ((wr (x.a+x.c)).tdiv 2),wr ((wr (x.b+x.d)).tdiv 2),wr ((wr (x.c-x.a)).tdiv 2)⟩ : Rg) ([x])).b),vi ((rIf1 (⟨wr ((wr (x.b-x.d)).tdiv 2),wr ((wr (x.a+x.c)).tdiv 2),wr ((wr (x.b+x.d)).tdiv 2),wr ((wr (x.c-x.a)).tdiv 2)⟩ : Rg) ([x])).c),vi ((rIf1 (⟨wr ((wr (x.b-x.d)).tdiv 2),wr ((wr (x.a+x.c)).tdiv 2),wr ((wr (x.b+x.d)).tdiv 2),wr ((wr (x.c-x.a)).tdiv 2)⟩ : Rg) ([x])).d)],.bool (rIf2 (⟨wr ((wr (x.b-x.d)).tdiv 2),wr ((wr (x.a+x.c)).tdiv 2),wr ((wr (x.b+x.d)).tdiv 2),wr ((wr (x.c-x.a)).tdiv 2)⟩ : Rg) ([x]))]) rfl rfl)<|Ze (X5 (vs:=[.agg #[vi ((rIf1 (⟨wr ((wr (x.b-x.d)).tdiv 2),wr ((wr (x.a+x.c)).tdiv 2),wr ((wr (x.b+x.d)).tdiv 2),wr ((wr (x.c-x.a)).tdiv 2)⟩ : Rg) ([x])).a),vi ((rIf1 (⟨wr ((wr (x.b-x.d)).tdiv 2),wr ((wr (x.a+x.c)).tdiv 2),wr ((wr (x.b+x.d)).tdiv 2),wr ((wr (x.c-x.a)).tdiv 2)⟩ : Rg) ([x])).b),vi ((rIf1 (⟨wr ((wr (x.b-x.d)).tdiv 2),wr ((wr (x.a+x.c)).tdiv 2),wr ((wr (x.b+x.d)).tdiv 2),wr ((wr (x.c-x.a)).tdiv 2)⟩ : Rg) ([x])).c),vi ((rIf1 (⟨wr ((wr (x.b-x.d)).tdiv 2),wr ((wr (x.a+x.c)).tdiv 2),wr ((wr (x.b+x.d)).tdiv 2),wr ((wr (x.c-x.a)).tdiv 2)⟩ : Rg) ([x])).d)],.bool (rIf2 (⟨wr ((wr (x.b-x.d)).tdiv 2),wr ((wr (x.a+x.c)).tdiv 2),wr ((wr (x.b+x.d)).tdiv 2),wr ((wr (x.c-x.a)).tdiv 2)⟩ : Rg) ([x]))]) rfl rfl) ?_
 refine Zo (Vw [vi ((rIf1 (⟨wr ((wr (x.b-x.d)).tdiv 2),wr ((wr (x.a+x.c)).tdiv 2),wr ((wr (x.b+x.d)).tdiv 2),wr ((wr (x.c-x.a)).tdiv 2)⟩ : Rg) ([x])).a),vi ((rIf1 (⟨wr ((wr (x.b-x.d)).tdiv 2),wr ((wr (x.a+x.c)).tdiv 2),wr ((wr (x.b+x.d)).tdiv 2),wr ((wr (x.c-x.a)).tdiv 2)⟩ : Rg) ([x])).b),vi ((rIf1 (⟨wr ((wr (x.b-x.d)).tdiv 2),wr ((wr (x.a+x.c)).tdiv 2),wr ((wr (x.b+x.d)).tdiv 2),wr ((wr (x.c-x.a)).tdiv 2)⟩ : Rg) ([x])).c),vi ((rIf1 (⟨wr ((wr (x.b-x.d)).tdiv 2),wr ((wr (x.a+x.c)).tdiv 2),wr ((wr (x.b+x.d)).tdiv 2),wr ((wr (x.c-x.a)).tdiv 2)⟩ : Rg) ([x])).d)] X0s hB3) ?_;rintro _ w9 ⟨ho,hb⟩
 have hold:=hB3
 replace hB2:=hB2.only ho (by omega)
 replace hB10:=hB10.only ho (by omega)
 replace hW:=Below.only hW ho hlo3
 clear hold
 have hB3:=hb
 clear hb ho
 refine Za rfl ?_
 refine Zt hK9 fun a hf=>?_
 refine wp_ret (X2 hf (X12 hf rfl (ResV.cellN (l:=[vi ((rIf1 (⟨wr ((wr (x.b-x.d)).tdiv 2),wr ((wr (x.a+x.c)).tdiv 2),wr ((wr (x.b+x.d)).tdiv 2),wr ((wr (x.c-x.a)).tdiv 2)⟩ : Rg) ([x])).a),vi ((rIf1 (⟨wr ((wr (x.b-x.d)).tdiv 2),wr ((wr (x.a+x.c)).tdiv 2),wr ((wr (x.b+x.d)).tdiv 2),wr ((wr (x.c-x.a)).tdiv 2)⟩ : Rg) ([x])).b),vi ((rIf1 (⟨wr ((wr (x.b-x.d)).tdiv 2),wr ((wr (x.a+x.c)).tdiv 2),wr ((wr (x.b+x.d)).tdiv 2),wr ((wr (x.c-x.a)).tdiv 2)⟩ : Rg) ([x])).c),vi ((rIf1 (⟨wr ((wr (x.b-x.d)).tdiv 2),wr ((wr (x.a+x.c)).tdiv 2),wr ((wr (x.b+x.d)).tdiv 2),wr ((wr (x.c-x.a)).tdiv 2)⟩ : Rg) ([x])).d)]) rfl X01 (hB3.at 0) rfl) rfl) ?_)
 refine ⟨?_,hW⟩
 have hd:rDiv2 x=true:=hy
 have h2:=Xg6 hok
 show Value.tuple #[rV (rIf1 (rHalf x) [x]),.bool (rIf2 (rHalf x) [x])]=_
 rw [rIf1,h2,rDiv1,hd]
theorem Xpf(w0:World)(x:Rg)(k:Int) : Ret Tryz.prog 133 [.agg #[vi x.a,vi x.b,vi x.c,vi x.d],vi k] w0 (fun v w=>v=.tuple #[rV (mulOm1 x k),.bool (mulOm2 x k)]∧Below w0.heap.size w0 w):=by
 refine enter Tryz.func133 rfl 33 rfl rfl ?_
 intro a hf
 have hW:Below w0.heap.size w0 w0:=Below.refl _ _
 refine Zs hf fun _ hK1=>?_
 refine Zf (X0j (zs:=[vi x.a,vi x.b,vi x.c,vi x.d]) rfl rfl) ?_;rintro _ w1 ⟨b2,rfl,hl2,hE,hB2⟩
 have hlo2:=Nat.le_trans hW.size hl2
 replace hW:=btr hW hE
 refine Zf (X6 (zs:=[vi 0,vi 0,vi 0,vi 0]) X1t rfl) ?_;rintro _ w2 ⟨b3,rfl,hl3,hE,hB3⟩
 have hne2_3:b2≠b3:=by have:=hB2.lt;omega
 have hlo3:=Nat.le_trans hW.size hl3
 replace hB2:=hB2.below hE
 replace hW:=btr hW hE
 refine Za rfl ?_
 refine Zt hK1 fun a hf=>?_
 refine wp_seq_k fun _ hK4=>?_
 refine wp_seq_k fun _ hK5=>?_
 refine X0g (fun a w=>Fr a 33 [(1,vi k),(2,.pointer (some ⟨b2,0,none⟩)),(4,.pointer (some ⟨b3,0,none⟩)),(13,.bool ((!(inR k (-1000) 1000))||(!(rOk x))))]∧Below w2.heap.size w2 w) ?_ ?_
 ·have hEc:Below w2.heap.size w2 w2:=Below.refl _ _
  refine Zr hf ?_
  refine Zm rfl ?_
  refine Zf (Vc (F91 _ k (-1000) 1000) X3e) ?_;rintro _ _ ⟨rfl,rfl⟩
  refine Ze (X15 rfl)<|Zm rfl ?_
  refine Zg 9 rfl (fun hg6=>?_) (fun hg6=>?_)
  ·refine Zp ⟨_,_,rfl,rfl,hg6⟩ ?_
   refine Zp ⟨_,_,rfl,rfl,hg6⟩ ?_
   refine Zp ⟨_,_,rfl,rfl,hg6⟩ ?_
   refine Ze (Xg rfl hg6 rfl) ?_
   refine Zn fun a hf=>?_
   have hEE:Below w2.heap.size w2 w2:=hEc
   exact ⟨hf.sub ⟨rfl,rfl,rfl,X1 rfl (by first|rfl|(simp only [hg6,bs];done)|simp [hg6]),trivial⟩,hEE⟩
  refine Zv ⟨_,_,rfl,rfl,hg6⟩ (Vn X01 hB2) ?_
  refine Zk ⟨_,_,rfl,rfl,hg6⟩ (Vc (Xen _ x) X6s) ?_;rintro _ w3 ⟨rfl,hE⟩
  replace hB2:=hB2.below hE
  replace hB3:=hB3.below hE
  replace hW:=btr hW hE
  replace hEc:=btr hEc hE
  refine Zv ⟨_,_,rfl,rfl,hg6⟩ (X15 rfl) ?_
  refine Ze (Xf rfl hg6 rfl) ?_
  refine Zn fun a hf=>?_
  have hEE:Below w2.heap.size w2 w3:=hEc
  exact ⟨hf.sub ⟨rfl,rfl,rfl,X1 rfl (by first|rfl|(simp only [hg6,bs];done)|simp [hg6]),trivial⟩,hEE⟩
 rintro a w4 ⟨hf,hE⟩
 replace hB2:=hB2.below hE
 replace hB3:=hB3.below hE
 replace hW:=btr hW hE
 refine hK5 _ _ ?_
 refine Xm hf rfl (fun hc7=>?_) (fun hc7=>?_)
 ·have hc7b:=hc7
  have hn:mulOm2 x k=false:=by unfold mulOm2;revert hc7;cases inR k (-1000) 1000<;>cases rOk x<;>simp
  refine Zs hf fun _ hK8=>?_
  refine Ze (Xt (ps:=[]) (cs:=[vi 0,vi 0,vi 0,vi 0]) rfl (fun _=>by first|rfl|kernel_rfl)) ?_
  refine Zo (Vw [vi 0,vi 0,vi 0,vi 0] X0s hB3) ?_;rintro _ w5 ⟨ho,hb⟩
  have hold:=hB3
  replace hB2:=hB2.only ho (by omega)
  replace hW:=Below.only hW ho hlo3
  clear hold
  have hB3:=hb
  clear hb ho
  refine Za rfl ?_
  refine Zt hK8 fun a hf=>?_
  refine wp_ret ?_
  refine X7 ?_
  refine X2 hf (X12 hf rfl (ResV.cellN (l:=[vi 0,vi 0,vi 0,vi 0]) rfl X01 (hB3.at 0) rfl) rfl) ?_
  exact ⟨by simp [mulOm1,hn],hW⟩
 have hc7b:=hc7
 have hy:mulOm2 x k=true:=by unfold mulOm2;revert hc7;cases inR k (-1000) 1000<;>cases rOk x<;>simp
 refine wp_skip ?_
 refine hK4 _ _ ?_
 refine wp_seq_k fun _ hK9=>?_
 refine Zs hf fun _ hK10=>?_
 refine Zm rfl<|Ze (X6x rfl rfl rfl)<|Ze (X1u rfl rfl)<|Ze (X6x rfl rfl rfl)<|Zm rfl ?_
 refine Zt hK10 fun a hf=>?_
 refine wp_block ?_
 have hj:turns k=((turns k).toNat:Int):=by have:=X2w k;omega
 have hj8:=(X2w k).2
 refine X0c (σ:=Rg×Nat) (fun (s:Rg×Nat) (a:Act) (w:World)=>match s with|(y,j)=>Fr a 33 [(2,.pointer (some ⟨b2,0,none⟩)),(4,.pointer (some ⟨b3,0,none⟩)),(18,vi ((wr ((k.tmod 8)+8)).tmod 8)),(19,vi (j:Int))]∧(rTurnN ((turns k).toNat-j) y=rTurn x k)∧(j≤(turns k).toNat)∧Blk w b2 96 [vi y.a,vi y.b,vi y.c,vi y.d]∧Blk w b3 96 [vi 0,vi 0,vi 0,vi 0]∧Below w0.heap.size w0 w) (fun (s:Rg×Nat)=>match s with|(y,j)=>(turns k).toNat-j) (x,0) ?_ ?_
 ·exact ⟨hf.sub ⟨rfl,rfl,rfl,rfl,trivial⟩,rfl,(Nat.zero_le _),hB2,hB3,hW⟩
 rintro ⟨y,j⟩ a w6 ⟨hf,hinv,hj8,hB2,hB3,hW⟩
 refine Zs hf fun _ hK11=>?_
 refine Ze (X16 rfl rfl) ?_
 refine Zt hK11 fun a hf=>?_
 refine wp_seq_k fun _ hK12=>?_
 refine Xm hf rfl (fun hc13=>?_) (fun hc13=>?_)
 ·have hc13b:=hc13
  have hc13:=of_decide_eq_true hc13
  have hj1:(j:Int)<turns k:=hc13
  refine wp_skip ?_
  refine hK12 _ _ ?_
  refine wp_seq_k fun _ hK14=>?_
  refine wp_block ?_
  refine Zr hf ?_
  refine Ze (Vd rfl X0b 3)<|Ze (X0 rfl X3 (hB2.at 3))<|Ze (Xee rfl)<|Ze (Vd rfl X07 0)<|Ze (X0 rfl X3 (hB2.at 0)) ?_
  refine Ze (Vd rfl X09 1)<|Ze (X0 rfl X3 (hB2.at 1))<|Ze (Vd rfl X08 2)<|Ze (X0 rfl X3 (hB2.at 2))<|Ze (Xt (ps:=[(0,vi (wr (-y.d))),(1,vi y.a),(2,vi y.b),(3,vi y.c)]) (cs:=[vi (wr (-y.d)),vi y.a,vi y.b,vi y.c]) rfl (fun _=>by first|rfl|kernel_rfl)) ?_
  refine Zo (Vw [vi (wr (-y.d)),vi y.a,vi y.b,vi y.c] X0s hB2) ?_;rintro _ w7 ⟨ho,hb⟩
  have hold:=hB2
  replace hB3:=hB3.only ho (by omega)
  replace hW:=Below.only hW ho hlo2
  clear hold
  have hB2:=hb
  clear hb ho
  refine Zn fun a hf=>?_
  refine Xr ?_
  refine hK14 _ _ ?_
  refine Zr hf ?_
  refine Ze (X0a rfl rfl (by omega) (by omega))<|Zm rfl ?_
  refine Zn fun a hf=>?_
  refine Xz ?_
  exact ⟨(rOm y,j+1),⟨hf.sub ⟨rfl,rfl,rfl,rfl,trivial⟩,(by rw [← hinv];obtain ⟨m,hm⟩ : ∃ m,(turns k).toNat-j=m+1:=⟨(turns k).toNat-j-1,by omega⟩;rw [hm,show (turns k).toNat-(j+1)=m from by omega];rfl),(by omega),hB2,hB3,hW⟩,(by first|omega|(dsimp only;omega))⟩
 have hc13b:=hc13
 have hc13:=of_decide_eq_false hc13
 have hj1:¬ (j:Int)<turns k:=hc13
 refine wp_exit ?_
 refine Xu ?_
 refine Xu ?_
 refine X0f ?_
 refine hK9 _ _ ?_
 refine Zs hf fun _ hK15=>?_
 refine Ze (Vn X01 hB2) ?_
 refine Zo (Vw [vi y.a,vi y.b,vi y.c,vi y.d] X0s hB3) ?_;rintro _ w8 ⟨ho,hb⟩
 have hold:=hB3
 replace hB2:=hB2.only ho (by omega)
 replace hW:=Below.only hW ho hlo3
 clear hold
 have hB3:=hb
 clear hb ho
 refine Za rfl ?_
 refine Zt hK15 fun a hf=>?_
 refine wp_ret (X2 hf (X12 hf rfl (ResV.cellN (l:=[vi y.a,vi y.b,vi y.c,vi y.d]) rfl X01 (hB3.at 0) rfl) rfl) ?_)
 have hj0:(turns k).toNat-j=0:=by omega
 rw [hj0] at hinv
 refine ⟨?_,hW⟩
 rw [mulOm1,hy,if_pos rfl,← hinv];rfl
theorem Xds(w0:World)(k:Int)(hk:inR k (-1000) 1000=true) : Ret Tryz.prog 69 [vi k] w0 (fun v w=>v=dV (dPow k)∧Below w0.heap.size w0 w):=by
 refine enter Tryz.func69 rfl 13 rfl rfl ?_
 intro a hf
 have hW:Below w0.heap.size w0 w0:=Below.refl _ _
 refine Zs hf fun _ hK1=>?_
 refine Zf (X6 (zs:=[vi 0,vi 0,vi 0,vi 0,vi 0]) X17 rfl) ?_;rintro _ w1 ⟨b2,rfl,hl2,hE,hB2⟩
 have hlo2:=Nat.le_trans hW.size hl2
 replace hW:=btr hW hE
 refine Zt hK1 fun a hf=>?_
 refine Zs hf fun _ hK3=>?_
 refine Ze (Xt (ps:=[(0,vi 1)]) (cs:=[vi 1,vi 0,vi 0,vi 0]) rfl (fun _=>by first|rfl|kernel_rfl))<|Zm rfl ?_
 refine Zf (Vc (Xpf _ (⟨1,0,0,0⟩ : Rg) k) Xla) ?_;rintro _ w2 ⟨rfl,hE⟩
 replace hB2:=hB2.below hE
 replace hW:=btr hW hE
 refine Zm rfl<|Ze (X5 (vs:=[.agg #[vi ((mulOm1 (⟨1,0,0,0⟩ : Rg) k).a),vi ((mulOm1 (⟨1,0,0,0⟩ : Rg) k).b),vi ((mulOm1 (⟨1,0,0,0⟩ : Rg) k).c),vi ((mulOm1 (⟨1,0,0,0⟩ : Rg) k).d)],.bool (mulOm2 (⟨1,0,0,0⟩ : Rg) k)]) rfl rfl)<|Ze (X5 (vs:=[.agg #[vi ((mulOm1 (⟨1,0,0,0⟩ : Rg) k).a),vi ((mulOm1 (⟨1,0,0,0⟩ : Rg) k).b),vi ((mulOm1 (⟨1,0,0,0⟩ : Rg) k).c),vi ((mulOm1 (⟨1,0,0,0⟩ : Rg) k).d)],.bool (mulOm2 (⟨1,0,0,0⟩ : Rg) k)]) rfl rfl) ?_
 refine Zf (X6 (zs:=[vi 0,vi 0,vi 0,vi 0]) X1t rfl) ?_;rintro _ w3 ⟨b4,rfl,hl4,hE,hB4⟩
 have hlo4:=Nat.le_trans hW.size hl4
 replace hB2:=hB2.below hE
 replace hW:=btr hW hE
 refine Zo (Vw [vi ((mulOm1 (⟨1,0,0,0⟩ : Rg) k).a),vi ((mulOm1 (⟨1,0,0,0⟩ : Rg) k).b),vi ((mulOm1 (⟨1,0,0,0⟩ : Rg) k).c),vi ((mulOm1 (⟨1,0,0,0⟩ : Rg) k).d)] X0s hB4) ?_;rintro _ w4 ⟨ho,hb⟩
 have hold:=hB4
 replace hB2:=hB2.only ho (Blk.ne hB2 hold rfl)
 replace hW:=Below.only hW ho hlo4
 clear hold
 have hB4:=hb
 clear hb ho
 refine Za rfl ?_
 refine Zt hK3 fun a hf=>?_
 refine Zs hf fun _ hK5=>?_
 refine Ze (Vn X01 hB4)<|Ze (Xt (ps:=[(0,.agg #[vi ((mulOm1 (⟨1,0,0,0⟩ : Rg) k).a),vi ((mulOm1 (⟨1,0,0,0⟩ : Rg) k).b),vi ((mulOm1 (⟨1,0,0,0⟩ : Rg) k).c),vi ((mulOm1 (⟨1,0,0,0⟩ : Rg) k).d)])]) (cs:=[vi ((mulOm1 (⟨1,0,0,0⟩ : Rg) k).a),vi ((mulOm1 (⟨1,0,0,0⟩ : Rg) k).b),vi ((mulOm1 (⟨1,0,0,0⟩ : Rg) k).c),vi ((mulOm1 (⟨1,0,0,0⟩ : Rg) k).d),vi 0]) rfl (fun _=>by first|rfl|kernel_rfl)) ?_
 refine Zo (Vw [vi ((mulOm1 (⟨1,0,0,0⟩ : Rg) k).a),vi ((mulOm1 (⟨1,0,0,0⟩ : Rg) k).b),vi ((mulOm1 (⟨1,0,0,0⟩ : Rg) k).c),vi ((mulOm1 (⟨1,0,0,0⟩ : Rg) k).d),vi 0] Xk hB2) ?_;rintro _ w5 ⟨ho,hb⟩
 have hold:=hB2
 replace hB4:=hB4.only ho (Blk.ne hB4 hold rfl)
 replace hW:=Below.only hW ho hlo2
 clear hold
 have hB2:=hb
 clear hb ho
 refine Zt hK5 fun a hf=>?_
 refine wp_ret (X2 hf (Xj hf rfl (ResV.cellN (l:=[vi ((mulOm1 (⟨1,0,0,0⟩ : Rg) k).a),vi ((mulOm1 (⟨1,0,0,0⟩ : Rg) k).b),vi ((mulOm1 (⟨1,0,0,0⟩ : Rg) k).c),vi ((mulOm1 (⟨1,0,0,0⟩ : Rg) k).d),vi 0]) rfl X9 (hB2.at 0) rfl)) ?_)
 refine ⟨?_,hW⟩
 have h2:mulOm2 ⟨1,0,0,0⟩ k=true:=by simp only [mulOm2,hk,Bool.true_and];rfl
 rw [mulOm1,h2];rfl
theorem Xfw(w0:World)(x:Dy) : Ret Tryz.prog 137 [.agg #[vi x.num.a,vi x.num.b,vi x.num.c,vi x.num.d,vi x.exp]] w0 (fun v w=>v=.bool (dOk x)∧Below w0.heap.size w0 w):=by
 refine enter Tryz.func137 rfl 22 rfl rfl ?_
 intro a hf
 have hW:Below w0.heap.size w0 w0:=Below.refl _ _
 refine Zs hf fun _ hK1=>?_
 refine Zf (X0j (zs:=[vi x.num.a,vi x.num.b,vi x.num.c,vi x.num.d,vi x.exp]) rfl rfl) ?_;rintro _ w1 ⟨b2,rfl,hl2,hE,hB2⟩
 have hlo2:=Nat.le_trans hW.size hl2
 replace hW:=btr hW hE
 refine Za rfl ?_
 refine Zt hK1 fun a hf=>?_
 refine wp_seq_k fun _ hK3=>?_
 refine X0g (fun a w=>Fr a 22 [(2,.bool (((rOk x.num)&&(inR x.exp 0 60))&&((x.exp==0)||(!(rEven x.num)))))]∧Below w1.heap.size w1 w) ?_ ?_
 ·have hEc:Below w1.heap.size w1 w1:=Below.refl _ _
  refine Zr hf ?_
  refine Ze (Vd rfl X1i 0)<|Ze (X0i (l:=[vi x.num.a,vi x.num.b,vi x.num.c,vi x.num.d]) rfl X01 ((hB2.at 0).take 4) rfl) ?_
  refine Zf (Vc (Xen _ x.num) X6s) ?_;rintro _ w2 ⟨rfl,hE⟩
  replace hB2:=hB2.below hE
  replace hW:=btr hW hE
  replace hEc:=btr hEc hE
  refine Zm rfl ?_
  refine Zg 6 rfl (fun hg4=>?_) (fun hg4=>?_)
  ·refine Zv ⟨_,_,rfl,rfl,hg4⟩ (Vd rfl X0v 4) ?_
   refine Zv ⟨_,_,rfl,rfl,hg4⟩ (X0 rfl X3 (hB2.at 4)) ?_
   refine Zk ⟨_,_,rfl,rfl,hg4⟩ (Vc (F91 _ x.exp 0 60) X3e) ?_;rintro _ _ ⟨rfl,rfl⟩
   refine Ze (Xg rfl hg4 rfl)<|Zm rfl ?_
   refine Zg 11 rfl (fun hg5=>?_) (fun hg5=>?_)
   ·refine Zv ⟨_,_,rfl,rfl,hg5⟩ (Vd rfl X0v 4) ?_
    refine Zv ⟨_,_,rfl,rfl,hg5⟩ (X0 rfl X3 (hB2.at 4)) ?_
    refine Zv ⟨_,_,rfl,rfl,hg5⟩ (X0n rfl rfl) ?_
    refine Zv ⟨_,_,rfl,rfl,hg5⟩ (X8 rfl) ?_
    refine Zg 15 rfl (fun hg6=>?_) (fun hg6=>?_)
    ·refine Zp ⟨_,_,rfl,rfl,hg6⟩ ?_
     refine Zp ⟨_,_,rfl,rfl,hg6⟩ ?_
     refine Zp ⟨_,_,rfl,rfl,hg6⟩ ?_
     refine Zp ⟨_,_,rfl,rfl,hg6⟩ ?_
     refine Zv ⟨_,_,rfl,rfl,hg5⟩ (Xg rfl hg6 rfl) ?_
     refine Ze (Xg rfl hg5 rfl)<|Za rfl ?_
     refine Zn fun a hf=>?_
     have hEE:Below w1.heap.size w1 w2:=hEc
     exact ⟨hf.sub ⟨X1 rfl (by first|rfl|(simp only [hg4,hg5,hg6,bs];done)|simp [hg4,hg5,hg6]),trivial⟩,hEE⟩
    refine Zv ⟨_,_,rfl,rfl,hg6⟩ (Vd rfl X1i 0) ?_
    refine Zv ⟨_,_,rfl,rfl,hg6⟩ (X0i (l:=[vi x.num.a,vi x.num.b,vi x.num.c,vi x.num.d]) rfl X01 ((hB2.at 0).take 4) rfl) ?_
    refine Zk ⟨_,_,rfl,rfl,hg6⟩ (Vc (Xkv _ x.num) Xbe) ?_;rintro _ w3 ⟨rfl,hE⟩
    replace hB2:=hB2.below hE
    replace hW:=btr hW hE
    replace hEc:=btr hEc hE
    refine Zv ⟨_,_,rfl,rfl,hg6⟩ (X15 rfl) ?_
    refine Zv ⟨_,_,rfl,rfl,hg5⟩ (Xf rfl hg6 rfl) ?_
    refine Ze (Xg rfl hg5 rfl)<|Za rfl ?_
    refine Zn fun a hf=>?_
    have hEE:Below w1.heap.size w1 w3:=hEc
    exact ⟨hf.sub ⟨X1 rfl (by first|rfl|(simp only [hg4,hg5,hg6,bs];done)|simp [hg4,hg5,hg6]),trivial⟩,hEE⟩
   refine Zp ⟨_,_,rfl,rfl,hg5⟩ ?_
   refine Zp ⟨_,_,rfl,rfl,hg5⟩ ?_
   refine Zp ⟨_,_,rfl,rfl,hg5⟩ ?_
   refine Zp ⟨_,_,rfl,rfl,hg5⟩ ?_
   refine Zp ⟨_,_,rfl,rfl,trivial⟩ ?_
   refine Zp ⟨_,_,rfl,rfl,trivial⟩ ?_
   refine Zp ⟨_,_,rfl,rfl,trivial⟩ ?_
   refine Zp ⟨_,_,rfl,rfl,trivial⟩ ?_
   refine Zp ⟨_,_,rfl,rfl,hg5⟩ ?_
   refine Ze (Xf rfl hg5 rfl)<|Za rfl ?_
   refine Zn fun a hf=>?_
   have hEE:Below w1.heap.size w1 w2:=hEc
   exact ⟨hf.sub ⟨X1 rfl (by first|rfl|(simp only [hg4,hg5,bs];done)|simp [hg4,hg5]),trivial⟩,hEE⟩
  refine Zp ⟨_,_,rfl,rfl,hg4⟩ ?_
  refine Zp ⟨_,_,rfl,rfl,hg4⟩ ?_
  refine Zp ⟨_,_,rfl,rfl,hg4⟩ ?_
  refine Ze (Xf rfl hg4 rfl)<|Zm rfl<|Zp ⟨_,_,rfl,rfl,rfl⟩ ?_
  refine Zp ⟨_,_,rfl,rfl,rfl⟩ ?_
  refine Zp ⟨_,_,rfl,rfl,rfl⟩ ?_
  refine Zp ⟨_,_,rfl,rfl,rfl⟩ ?_
  refine Zp ⟨_,_,rfl,rfl,trivial⟩ ?_
  refine Zp ⟨_,_,rfl,rfl,trivial⟩ ?_
  refine Zp ⟨_,_,rfl,rfl,trivial⟩ ?_
  refine Zp ⟨_,_,rfl,rfl,trivial⟩ ?_
  refine Zp ⟨_,_,rfl,rfl,rfl⟩ ?_
  refine Ze (Xf rfl rfl rfl)<|Za rfl ?_
  refine Zn fun a hf=>?_
  have hEE:Below w1.heap.size w1 w2:=hEc
  exact ⟨hf.sub ⟨X1 rfl (by first|rfl|(simp only [hg4,bs];done)|simp [hg4]),trivial⟩,hEE⟩
 rintro a w4 ⟨hf,hE⟩
 replace hB2:=hB2.below hE
 replace hW:=btr hW hE
 refine hK3 _ _ ?_
 refine wp_ret (X2 hf (Xj hf rfl rfl) ?_)
 exact ⟨by simp [dOk, *],hW⟩
theorem Xnl(w0:World)(x:Rg)(m:Int) : Ret Tryz.prog 139 [.agg #[vi x.a,vi x.b,vi x.c,vi x.d],vi m] w0 (fun v w=>v=.tuple #[dV ((dOf x m).getD dZ),.bool ((dOf x m).isSome)]∧Below w0.heap.size w0 w):=by
 refine enter Tryz.func139 rfl 31 rfl rfl ?_
 intro a hf
 have hW:Below w0.heap.size w0 w0:=Below.refl _ _
 refine Zs hf fun _ hK1=>?_
 refine Zf (X0j (zs:=[vi x.a,vi x.b,vi x.c,vi x.d]) rfl rfl) ?_;rintro _ w1 ⟨b2,rfl,hl2,hE,hB2⟩
 have hlo2:=Nat.le_trans hW.size hl2
 replace hW:=btr hW hE
 refine Zf (X6 (zs:=[vi 0,vi 0,vi 0,vi 0,vi 0]) X17 rfl) ?_;rintro _ w2 ⟨b3,rfl,hl3,hE,hB3⟩
 have hlo3:=Nat.le_trans hW.size hl3
 replace hB2:=hB2.below hE
 replace hW:=btr hW hE
 refine Za rfl ?_
 refine Zt hK1 fun a hf=>?_
 refine wp_seq_k fun _ hK4=>?_
 refine wp_seq_k fun _ hK5=>?_
 refine X0g (fun a w=>Fr a 31 [(1,vi m),(2,.pointer (some ⟨b2,0,none⟩)),(4,.pointer (some ⟨b3,0,none⟩)),(13,.bool ((!(rOk x))||(!(inR m 0 60))))]∧Below w2.heap.size w2 w) ?_ ?_
 ·have hEc:Below w2.heap.size w2 w2:=Below.refl _ _
  refine Zr hf ?_
  refine Ze (Vn X01 hB2) ?_
  refine Zf (Vc (Xen _ x) X6s) ?_;rintro _ w3 ⟨rfl,hE⟩
  replace hB2:=hB2.below hE
  replace hB3:=hB3.below hE
  replace hW:=btr hW hE
  replace hEc:=btr hEc hE
  refine Ze (X15 rfl)<|Zm rfl ?_
  refine Zg 9 rfl (fun hg6=>?_) (fun hg6=>?_)
  ·refine Zp ⟨_,_,rfl,rfl,hg6⟩ ?_
   refine Zp ⟨_,_,rfl,rfl,hg6⟩ ?_
   refine Zp ⟨_,_,rfl,rfl,hg6⟩ ?_
   refine Ze (Xg rfl hg6 rfl) ?_
   refine Zn fun a hf=>?_
   have hEE:Below w2.heap.size w2 w3:=hEc
   exact ⟨hf.sub ⟨rfl,rfl,rfl,X1 rfl (by first|rfl|(simp only [hg6,bs];done)|simp [hg6]),trivial⟩,hEE⟩
  refine Zv ⟨_,_,rfl,rfl,hg6⟩ (X8 rfl) ?_
  refine Zk ⟨_,_,rfl,rfl,hg6⟩ (Vc (F91 _ m 0 60) X3e) ?_;rintro _ _ ⟨rfl,rfl⟩
  refine Zv ⟨_,_,rfl,rfl,hg6⟩ (X15 rfl) ?_
  refine Ze (Xf rfl hg6 rfl) ?_
  refine Zn fun a hf=>?_
  have hEE:Below w2.heap.size w2 w3:=hEc
  exact ⟨hf.sub ⟨rfl,rfl,rfl,X1 rfl (by first|rfl|(simp only [hg6,bs];done)|simp [hg6]),trivial⟩,hEE⟩
 rintro a w4 ⟨hf,hE⟩
 replace hB2:=hB2.below hE
 replace hB3:=hB3.below hE
 replace hW:=btr hW hE
 refine hK5 _ _ ?_
 refine Xm hf rfl (fun hc7=>?_) (fun hc7=>?_)
 ·have hc7b:=hc7
  have hn:(rOk x&&inR m 0 60)=false:=by revert hc7;cases rOk x<;>cases inR m 0 60<;>simp
  refine Zs hf fun _ hK8=>?_
  refine Ze (Xt (ps:=[]) (cs:=[vi 0,vi 0,vi 0,vi 0,vi 0]) rfl (fun _=>by first|rfl|kernel_rfl)) ?_
  refine Zo (Vw [vi 0,vi 0,vi 0,vi 0,vi 0] Xk hB3) ?_;rintro _ w5 ⟨ho,hb⟩
  have hold:=hB3
  replace hB2:=hB2.only ho (Blk.ne hB2 hold rfl)
  replace hW:=Below.only hW ho hlo3
  clear hold
  have hB3:=hb
  clear hb ho
  refine Za rfl ?_
  refine Zt hK8 fun a hf=>?_
  refine wp_ret ?_
  refine X7 ?_
  refine X2 hf (X12 hf rfl (ResV.cellN (l:=[vi 0,vi 0,vi 0,vi 0,vi 0]) rfl X9 (hB3.at 0) rfl) rfl) ?_
  exact ⟨by simp [dOf,hn,dZ],hW⟩
 have hc7b:=hc7
 have hy:(rOk x&&inR m 0 60)=true:=by revert hc7;cases rOk x<;>cases inR m 0 60<;>simp
 have hy2:=(Bool.and_eq_true _ _▸hy:rOk x=true∧inR m 0 60=true)
 have hm:=Xh.1 hy2.2
 refine wp_skip ?_
 refine hK4 _ _ ?_
 refine wp_seq_k fun _ hK9=>?_
 refine wp_block ?_
 refine X0c (σ:=Rg×Int) (fun (s:Rg×Int) (a:Act) (w:World)=>match s with|(y,j)=>Fr a 31 [(1,vi j),(2,.pointer (some ⟨b2,0,none⟩)),(4,.pointer (some ⟨b3,0,none⟩))]∧(dLow y j=dLow x m)∧(rOk y=true)∧(j≤60)∧Blk w b2 96 [vi y.a,vi y.b,vi y.c,vi y.d]∧Blk w b3 98 [vi 0,vi 0,vi 0,vi 0,vi 0]∧Below w0.heap.size w0 w) (fun (s:Rg×Int)=>match s with|(y,j)=>j.toNat) (x,m) ?_ ?_
 ·exact ⟨hf.sub ⟨rfl,rfl,rfl,trivial⟩,rfl,hy2.1,hm.2,hB2,hB3,hW⟩
 rintro ⟨y,j⟩ a w6 ⟨hf,hinv,hok,hjm,hB2,hB3,hW⟩
 refine wp_seq_k fun _ hK10=>?_
 refine wp_seq_k fun _ hK11=>?_
 refine X0g (fun a w=>Fr a 31 [(1,vi j),(2,.pointer (some ⟨b2,0,none⟩)),(4,.pointer (some ⟨b3,0,none⟩)),(20,.bool ((decide (0<j))&&(rEven y)))]∧Below w6.heap.size w6 w) ?_ ?_
 ·have hEc:Below w6.heap.size w6 w6:=Below.refl _ _
  refine Zr hf ?_
  refine Zm rfl<|Ze (X5r rfl rfl)<|Zm rfl ?_
  refine Zg 17 rfl (fun hg12=>?_) (fun hg12=>?_)
  ·refine Zv ⟨_,_,rfl,rfl,hg12⟩ (Vn X01 hB2) ?_
   refine Zk ⟨_,_,rfl,rfl,hg12⟩ (Vc (Xkv _ y) Xbe) ?_;rintro _ w7 ⟨rfl,hE⟩
   replace hB2:=hB2.below hE
   replace hB3:=hB3.below hE
   replace hW:=btr hW hE
   replace hEc:=btr hEc hE
   refine Ze (Xg rfl hg12 rfl) ?_
   refine Zn fun a hf=>?_
   have hEE:Below w6.heap.size w6 w7:=hEc
   exact ⟨hf.sub ⟨rfl,rfl,rfl,X1 rfl (by first|rfl|(simp only [hc7b,hg12,bs];done)|simp [hc7b,hg12]),trivial⟩,hEE⟩
  refine Zp ⟨_,_,rfl,rfl,hg12⟩ ?_
  refine Zp ⟨_,_,rfl,rfl,hg12⟩ ?_
  refine Ze (Xf rfl hg12 rfl) ?_
  refine Zn fun a hf=>?_
  have hEE:Below w6.heap.size w6 w6:=hEc
  exact ⟨hf.sub ⟨rfl,rfl,rfl,X1 rfl (by first|rfl|(simp only [hc7b,hg12,bs];done)|simp [hc7b,hg12]),trivial⟩,hEE⟩
 rintro a w8 ⟨hf,hE⟩
 replace hB2:=hB2.below hE
 replace hB3:=hB3.below hE
 replace hW:=btr hW hE
 refine hK11 _ _ ?_
 refine Xm hf rfl (fun hc13=>?_) (fun hc13=>?_)
 ·have hc13b:=hc13
  have hj0:0<j:=by revert hc13;simp;omega
  have hev:rEven y=true:=by revert hc13;cases rEven y<;>simp
  refine wp_skip ?_
  refine hK10 _ _ ?_
  refine wp_block ?_
  refine Zs hf fun _ hK14=>?_
  refine Ze (Vn X01 hB2) ?_
  refine Zf (Vc (Xp7 _ y) Xkq) ?_;rintro _ w9 ⟨rfl,hE⟩
  replace hB2:=hB2.below hE
  replace hB3:=hB3.below hE
  replace hW:=btr hW hE
  refine Zm rfl<|Ze (X5 (vs:=[.agg #[vi ((rDiv1 y).a),vi ((rDiv1 y).b),vi ((rDiv1 y).c),vi ((rDiv1 y).d)],.bool (rDiv2 y)]) rfl rfl)<|Ze (X5 (vs:=[.agg #[vi ((rDiv1 y).a),vi ((rDiv1 y).b),vi ((rDiv1 y).c),vi ((rDiv1 y).d)],.bool (rDiv2 y)]) rfl rfl) ?_
  refine Zo (Vw [vi ((rDiv1 y).a),vi ((rDiv1 y).b),vi ((rDiv1 y).c),vi ((rDiv1 y).d)] X0s hB2) ?_;rintro _ w10 ⟨ho,hb⟩
  have hold:=hB2
  replace hB3:=hB3.only ho (Blk.ne hB3 hold rfl)
  replace hW:=Below.only hW ho hlo2
  clear hold
  have hB2:=hb
  clear hb ho
  refine Zt hK14 fun a hf=>?_
  refine Zr hf ?_
  refine Zm rfl<|Ze (X1d rfl rfl (by omega) (by omega))<|Za rfl ?_
  refine Zn fun a hf=>?_
  refine Xr ?_
  rw [rDiv1,rDiv2,hok,hev,Bool.and_self,if_pos rfl] at hB2
  refine Xz ?_
  exact ⟨(rHalf y,j-1),⟨hf.sub ⟨rfl,rfl,rfl,trivial⟩,(by rw [← hinv];exact (X2y (by omega) hev).symm),(X4y hok),(by omega),hB2,hB3,hW⟩,(by first|omega|(dsimp only;omega))⟩
 have hc13b:=hc13
 have hst:dLow y j=⟨y,j⟩:=X1o (by intro h0;revert hc13;simp [h0])
 refine wp_exit ?_
 refine Xu ?_
 refine Xu ?_
 refine X0f ?_
 refine hK9 _ _ ?_
 refine Zs hf fun _ hK15=>?_
 refine Ze (Vn X01 hB2)<|Zm rfl<|Ze (Xt (ps:=[(0,.agg #[vi y.a,vi y.b,vi y.c,vi y.d]),(1,vi j)]) (cs:=[vi y.a,vi y.b,vi y.c,vi y.d,vi j]) rfl (fun _=>by first|rfl|kernel_rfl)) ?_
 refine Zo (Vw [vi y.a,vi y.b,vi y.c,vi y.d,vi j] Xk hB3) ?_;rintro _ w11 ⟨ho,hb⟩
 have hold:=hB3
 replace hB2:=hB2.only ho (Blk.ne hB2 hold rfl)
 replace hW:=Below.only hW ho hlo3
 clear hold
 have hB3:=hb
 clear hb ho
 refine Za rfl ?_
 refine Zt hK15 fun a hf=>?_
 refine wp_ret (X2 hf (X12 hf rfl (ResV.cellN (l:=[vi y.a,vi y.b,vi y.c,vi y.d,vi j]) rfl X9 (hB3.at 0) rfl) rfl) ?_)
 refine ⟨?_,hW⟩
 have he:dOf x m=some ⟨y,j⟩:=by rw [dOf,if_pos hy,← hinv,hst]
 rw [he];rfl
theorem Xog(w0:World)(x:Dy)(m:Int)(h0:0≤x.exp)(hm:m≤60)(hxm:x.exp≤m) : Ret Tryz.prog 184 [.agg #[vi x.num.a,vi x.num.b,vi x.num.c,vi x.num.d,vi x.exp],vi m] w0 (fun v w=>v=.tuple #[rV ((dRaise x m).1),.bool ((dRaise x m).2)]∧Below w0.heap.size w0 w):=by
 refine enter Tryz.func184 rfl 28 rfl rfl ?_
 intro a hf
 have hW:Below w0.heap.size w0 w0:=Below.refl _ _
 refine Zs hf fun _ hK1=>?_
 refine Zf (X0j (zs:=[vi x.num.a,vi x.num.b,vi x.num.c,vi x.num.d,vi x.exp]) rfl rfl) ?_;rintro _ w1 ⟨b2,rfl,hl2,hE,hB2⟩
 have hlo2:=Nat.le_trans hW.size hl2
 replace hW:=btr hW hE
 refine Zf (X6 (zs:=[vi 0,vi 0,vi 0,vi 0]) X1t rfl) ?_;rintro _ w2 ⟨b3,rfl,hl3,hE,hB3⟩
 have hlo3:=Nat.le_trans hW.size hl3
 replace hB2:=hB2.below hE
 replace hW:=btr hW hE
 refine Za rfl ?_
 refine Zt hK1 fun a hf=>?_
 refine Zs hf fun _ hK4=>?_
 refine Ze (Vd rfl X1i 0)<|Ze (X0i (l:=[vi x.num.a,vi x.num.b,vi x.num.c,vi x.num.d]) rfl X01 ((hB2.at 0).take 4) rfl) ?_
 refine Zf (X6 (zs:=[vi 0,vi 0,vi 0,vi 0]) X1t rfl) ?_;rintro _ w3 ⟨b5,rfl,hl5,hE,hB5⟩
 have hne3_5:b3≠b5:=by have:=hB3.lt;omega
 have hlo5:=Nat.le_trans hW.size hl5
 replace hB2:=hB2.below hE
 replace hB3:=hB3.below hE
 replace hW:=btr hW hE
 refine Zo (Vw [vi x.num.a,vi x.num.b,vi x.num.c,vi x.num.d] X0s hB5) ?_;rintro _ w4 ⟨ho,hb⟩
 have hold:=hB5
 replace hB2:=hB2.only ho (Blk.ne hB2 hold rfl)
 replace hB3:=hB3.only ho (by omega)
 replace hW:=Below.only hW ho hlo5
 clear hold
 have hB5:=hb
 clear hb ho
 refine Za rfl ?_
 refine Zt hK4 fun a hf=>?_
 refine wp_seq_k fun _ hK6=>?_
 refine Zs hf fun _ hK7=>?_
 refine Ze (Vd rfl X0v 4)<|Ze (X0 rfl X3 (hB2.at 4))<|Za rfl ?_
 refine Zt hK7 fun a hf=>?_
 refine wp_block ?_
 refine X0c (σ:=Rg×Bool×Int) (fun (s:Rg×Bool×Int) (a:Act) (w:World)=>match s with|(y,b,j)=>Fr a 28 [(1,vi m),(4,.pointer (some ⟨b3,0,none⟩)),(6,.pointer (some ⟨b5,0,none⟩)),(7,.bool b),(8,vi j)]∧((if b=true then raiseI (m-j).toNat y else (y,false))=dRaise x m)∧(b=true→j≤m)∧(0≤j∧j≤61)∧Blk w b3 96 [vi 0,vi 0,vi 0,vi 0]∧Blk w b5 96 [vi y.a,vi y.b,vi y.c,vi y.d]∧Below w0.heap.size w0 w) (fun (s:Rg×Bool×Int)=>match s with|(y,b,j)=>(62-j).toNat) (x.num,true,x.exp) ?_ ?_
 ·exact ⟨hf.sub ⟨rfl,rfl,rfl,rfl,rfl,trivial⟩,rfl,(fun _=>hxm),(by omega),hB3,hB5,hW⟩
 rintro ⟨y,b,j⟩ a w5 ⟨hf,hinv,hjm,hj60,hB3,hB5,hW⟩
 refine wp_seq_k fun _ hK8=>?_
 refine wp_seq_k fun _ hK9=>?_
 refine X0g (fun a w=>Fr a 28 [(1,vi m),(4,.pointer (some ⟨b3,0,none⟩)),(6,.pointer (some ⟨b5,0,none⟩)),(7,.bool b),(8,vi j),(18,.bool ((decide (j<m))&&b))]∧w5=w) ?_ ?_
 ·refine Zr hf ?_
  refine Zm rfl<|Zm rfl<|Ze (X16 rfl rfl)<|Zm rfl ?_
  refine Zg 16 rfl (fun hg10=>?_) (fun hg10=>?_)
  ·refine Zv ⟨_,_,rfl,rfl,hg10⟩ (X8 rfl) ?_
   refine Ze (Xg rfl hg10 rfl) ?_
   refine Zn fun a hf=>?_
   exact ⟨hf.sub ⟨rfl,rfl,rfl,rfl,rfl,X1 rfl (by first|rfl|(simp only [hg10,bs];done)|simp [hg10]),trivial⟩,rfl⟩
  refine Zp ⟨_,_,rfl,rfl,hg10⟩ ?_
  refine Ze (Xf rfl hg10 rfl) ?_
  refine Zn fun a hf=>?_
  exact ⟨hf.sub ⟨rfl,rfl,rfl,rfl,rfl,X1 rfl (by first|rfl|(simp only [hg10,bs];done)|simp [hg10]),trivial⟩,rfl⟩
 rintro a _ ⟨hf,rfl⟩
 refine hK9 _ _ ?_
 refine Xm hf rfl (fun hc11=>?_) (fun hc11=>?_)
 ·have hc11b:=hc11
  have hj0:j<m:=by revert hc11;simp;omega
  have hb:b=true:=by revert hc11;cases b<;>simp
  refine wp_skip ?_
  refine hK8 _ _ ?_
  refine wp_seq_k fun _ hK12=>?_
  refine wp_block ?_
  refine Zr hf ?_
  refine Ze (Vn X01 hB5) ?_
  refine Zf (Vc (Xpn _ y) Xm3) ?_;rintro _ w6 ⟨rfl,hE⟩
  replace hB3:=hB3.below hE
  replace hB5:=hB5.below hE
  replace hW:=btr hW hE
  refine Zm rfl<|Ze (X5 (vs:=[.agg #[vi ((rIf1 (rRoot y) [y]).a),vi ((rIf1 (rRoot y) [y]).b),vi ((rIf1 (rRoot y) [y]).c),vi ((rIf1 (rRoot y) [y]).d)],.bool (rIf2 (rRoot y) [y])]) rfl rfl)<|Ze (X5 (vs:=[.agg #[vi ((rIf1 (rRoot y) [y]).a),vi ((rIf1 (rRoot y) [y]).b),vi ((rIf1 (rRoot y) [y]).c),vi ((rIf1 (rRoot y) [y]).d)],.bool (rIf2 (rRoot y) [y])]) rfl rfl) ?_
  refine Zo (Vw [vi ((rIf1 (rRoot y) [y]).a),vi ((rIf1 (rRoot y) [y]).b),vi ((rIf1 (rRoot y) [y]).c),vi ((rIf1 (rRoot y) [y]).d)] X0s hB5) ?_;rintro _ w7 ⟨ho,hb⟩
  have hold:=hB5
  replace hB3:=hB3.only ho (by omega)
  replace hW:=Below.only hW ho hlo5
  clear hold
  have hB5:=hb
  clear hb ho
  refine Za rfl ?_
  refine Zn fun a hf=>?_
  refine Xr ?_
  refine hK12 _ _ ?_
  refine Zr hf ?_
  refine Zm rfl<|Ze (X0a rfl rfl (by omega) (by omega))<|Za rfl ?_
  refine Zn fun a hf=>?_
  refine Xz ?_
  exact ⟨(rIf1 (rRoot y) [y],rIf2 (rRoot y) [y],j+1),⟨hf.sub ⟨rfl,rfl,rfl,rfl,rfl,trivial⟩,(Xbf hinv hb hj0),(by intro _;omega),(by omega),hB3,hB5,hW⟩,(by first|omega|(dsimp only;omega))⟩
 have hc11b:=hc11
 have hst:b=true→m≤j:=by intro h0;subst h0;revert hc11;simp
 refine wp_exit ?_
 refine Xu ?_
 refine Xu ?_
 refine X0f ?_
 refine hK6 _ _ ?_
 refine Zs hf fun _ hK13=>?_
 refine Ze (Vn X01 hB5)<|Zm rfl ?_
 refine Zo (Vw [vi y.a,vi y.b,vi y.c,vi y.d] X0s hB3) ?_;rintro _ w8 ⟨ho,hb⟩
 have hold:=hB3
 replace hB5:=hB5.only ho (by omega)
 replace hW:=Below.only hW ho hlo3
 clear hold
 have hB3:=hb
 clear hb ho
 refine Za rfl ?_
 refine Zt hK13 fun a hf=>?_
 refine wp_ret (X2 hf (X12 hf rfl (ResV.cellN (l:=[vi y.a,vi y.b,vi y.c,vi y.d]) rfl X01 (hB3.at 0) rfl) rfl) ?_)
 refine ⟨?_,hW⟩
 have he:dRaise x m=(y,b):=by rw [← hinv];cases b with
  | false=>rfl
  | true=>rw [if_pos rfl,show (m-j).toNat=0 from by have:=hst rfl;omega];rfl
 rw [he]
end Go.Proofs.YtlfjcmldfbfdbaaGreat
