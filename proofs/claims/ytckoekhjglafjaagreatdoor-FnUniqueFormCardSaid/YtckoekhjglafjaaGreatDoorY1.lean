/-
  For every drawn normal form, the code and the reference have one matrix for it, the normal form of that matrix, where there is one, is the form again, and its text is read back; forms at two places differ, and a form at a place is valid and has its length.
-/
import Derived.WalkKit
import Derived.Maps.AppendAt
import Derived.Test.YtckoekhjglafjaaGreatDoorProg
import Derived.Laws.StructEq
set_option linter.unusedVariables false
set_option linter.unusedSimpArgs false
set_option maxRecDepth 8000
set_option linter.unusedSectionVars false
namespace Go.Proofs.YtckoekhjglafjaaGreatDoor
open Go.RowKit
abbrev Q0:=@Nat.le_trans
abbrev Q1:=@of_decide_eq_false
abbrev Q2:=@of_decide_eq_true
abbrev Q3:=@if_neg
abbrev Q4:=@if_pos
abbrev Q5:=@wp_seq_k
abbrev Q6:=@wp_ret
abbrev Q7:=@wp_skip
abbrev Q8:=@wp_block
abbrev Q9:=@wp_exit
abbrev Qa:=@List.getD_eq_getElem?_getD
abbrev Qb:=@Nat.le_refl
abbrev Qc:=@List.getElem?_eq_getElem
abbrev Qd:=@Bool.and_eq_true
abbrev Qe:=@List.mem_of_getElem?
abbrev Qf:=@Nat.zero_le
abbrev Qg:=@List.getElem?_eq_some_iff
abbrev Qh:=@List.length_append
abbrev Qi:=@List.take_of_length_le
abbrev Qj:=@Int.toNat_natCast
abbrev Qk:=@List.mem_cons_self
abbrev Ql:=@List.mem_cons_of_mem
abbrev Qm:=@List.mem_singleton
abbrev Qn:=@List.length_take
abbrev Qo:=@List.length_map
abbrev Qp:=@Array.getElem?_eq_some_iff
abbrev Qq:=@Option.getD_some
abbrev Qr:=@decide_eq_true_eq
abbrev Qs:=@List.length_cons
abbrev Qt:=@List.take_add_one
abbrev Qu:=@List.mem_append
abbrev Qv:=@List.mem_cons
abbrev Qw:=@Bool.true_and
abbrev Qx:=@List.append_assoc
abbrev Qy:=@List.drop_eq_getElem_cons
abbrev Qz:=@Option.bind_some
abbrev W0:=@List.pairwise_iff_getElem
abbrev W1:=@List.all_eq_true
abbrev W2:=@List.mem_range
abbrev W3:=@List.drop_of_length_le
abbrev W4:=@Nat.lt_or_ge
abbrev W5:=@List.getElem?_append_right
abbrev W6:=@List.mem_map
abbrev W7:=@List.any_eq_false
abbrev W8:=@List.pairwise_cons
abbrev W9:=@List.take_append_drop
abbrev Wa:=@List.cons_append
abbrev Wb:=@Nat.add_mul
abbrev Wc:=@List.flatMap_cons
abbrev Wd:=@List.mem_of_mem_take
abbrev We:=@Array.getElem?_eq_none
abbrev Wf:=@List.take_succ_eq_append_getElem
abbrev Wg:=@List.getElem?_take_of_lt
abbrev Wh:=@Array.getElem?_setIfInBounds_ne
abbrev Wi:=@Nat.mul_comm
abbrev vi(x:Int) : Value:=.int .i64 x
def look(t:Nat) : List (Nat×Value)→Option Value
 | []=>none
 | (k,v)::l=>match Nat.beq k t with
  | true=>some v
  | false=>look t l
structure Fr (a:Act) (n:Nat) (e:List (Nat×Value)) : Prop where
 d:a.defers=[]
 s:a.tmps.size=n
 h:∀ t v,look t e=some v→a.tmps[t]? = some v
def ev(e:List (Nat×Value)) : Operand→Option Value
 | .tmp t=>look t e
 | .const v=>some v
 | .global g=>some (.pointer (some ⟨g,0,none⟩))
 | .func f=>some (.func (.func f) #[] #[])
theorem Fr.ev{a:Act}{n:Nat}{e:List (Nat×Value)}{x:Operand}{v:Value}(hf:Fr a n e)(hx:ev e x=some v) : a.eval x=v:=by
 cases x with
 | tmp t=>
  have:=hf.h t v hx
  simp [Act.eval,this]
 | const u=>simpa [YtckoekhjglafjaaGreatDoor.ev,Act.eval] using hx
 | global g=>simpa [YtckoekhjglafjaaGreatDoor.ev,Act.eval] using hx
 | func f=>simpa [YtckoekhjglafjaaGreatDoor.ev,Act.eval] using hx
def evs(e:List (Nat×Value)) : List Operand→Option (List Value)
 | []=>some []
 | x::l=>match ev e x,evs e l with
  | some v,some vs=>some (v::vs)
  | _,_=>none
theorem Fr.evs{a:Act}{n:Nat}{e:List (Nat×Value)}(hf:Fr a n e) : ∀ {l:List Operand} {vs:List Value},evs e l=some vs→l.map a.eval=vs:=by
 intro l
 induction l with
 | nil=>intro vs h;simpa [YtckoekhjglafjaaGreatDoor.evs] using h
 | cons x l ih=>
  intro vs h
  simp only [YtckoekhjglafjaaGreatDoor.evs] at h
  split at h
  ·rename_i v us h1 h2
   injection h with h
   subst h
   simp [hf.ev h1,ih h2]
  ·cases h
theorem X45(d:Nat)(v:Value)(e:List (Nat×Value)) : look d ((d,v)::e)=some v:=by simp [look]
theorem X58{d t:Nat}(v:Value)(e:List (Nat×Value))(h:d≠t) : look t ((d,v)::e)=look t e:=by
 have:Nat.beq d t=false:=by
  cases hb:Nat.beq d t
  ·rfl
  ·exact absurd (Nat.eq_of_beq_eq_true hb) h
 simp [look,this]
theorem Fr.put{a:Act}{n:Nat}{e:List (Nat×Value)}(hf:Fr a n e)(d:Nat)(v:Value)(hd:Nat.blt d n=true) : Fr (a.put (some d) v) n ((d,v)::e):=by
 have hd':d<n:=by simpa [Nat.blt_eq] using hd
 refine ⟨hf.d,by simp [Act.put,hf.s],fun t u hu=>?_⟩
 by_cases h:d=t
 ·subst h
  rw [X45] at hu
  injection hu with hu
  subst hu
  simp [Act.put,hf.s,hd']
 ·rw [X58 _ _ h] at hu
  simp [Act.put,Wh h,hf.h t u hu]
theorem Fr.put_none{a:Act}{n:Nat}{e:List (Nat×Value)}(hf:Fr a n e)(v:Value) : Fr (a.put none v) n e:=hf
def Sub(e:List (Nat×Value)) : List (Nat×Value)→Prop
 | []=>True
 | (t,v)::l=>look t e=some v∧Sub e l
theorem Fr.sub{a:Act}{n:Nat}{e e':List (Nat×Value)}(hf:Fr a n e)(hs:Sub e e') : Fr a n e':=by
 refine ⟨hf.d,hf.s,?_⟩
 induction e' with
 | nil=>intro t v h;cases h
 | cons p l ih=>
  obtain ⟨k,u⟩:=p;intro t v h
  by_cases hk:k=t
  ·subst hk
   rw [X45] at h
   injection h with h
   subst h
   exact hf.h _ _ hs.1
  ·rw [X58 _ _ hk] at h
   exact ih hs.2 t v h
theorem Fr.sb{a:Act}{n:Nat}{e e':List (Nat×Value)}(hf:Fr a n e)(hs:Sub e e':=by repeat (first|exact trivial|refine ⟨rfl,?_⟩)) : Fr a n e':=hf.sub hs
def zipFrom:Nat→List Value→List (Nat×Value)
 | _,[]=>[]
 | k,v::l=>(k,v)::zipFrom (k+1) l
theorem Xda{l:List Value}{t:Nat}{v:Value} : ∀ {k:Nat},look t (zipFrom k l)=some v→k≤t∧l[t-k]? = some v:=by
 induction l with
 | nil=>intro k h;cases h
 | cons u l ih=>
  intro k h
  simp only [zipFrom] at h
  by_cases hk:k=t
  ·subst hk
   rw [X45] at h
   exact ⟨Qb _,by simpa using h⟩
  ·rw [X58 _ _ hk] at h
   obtain ⟨h1,h2⟩:=ih h
   refine ⟨by omega,?_⟩
   have:t-k=(t-(k+1))+1:=by omega
   rw [this,List.getElem?_cons_succ]
   exact h2
theorem Xjj{P:Program}{f:FuncId}{fn:Func}{c:Code}{args:List Value}{w:World}{R:Ending→World→Prop}
  (hf:P.funcs[f]? = some fn) (hb:fn.body=some c) (n:Nat) (hn:fn.ntmps=n) (hl:Nat.ble args.length n=true)
  (h:∀ a,Fr a n (zipFrom 0 args)→c.wp P (bodyPost P fn R) a w) : Calls P f args.toArray w R:=by
 refine calls_of_wp hf hb (h _ ⟨rfl,?_,?_⟩)
 ·have:args.length≤n:=by simpa [Nat.ble_eq] using hl
  simp [hn];omega
 ·intro t v hv;obtain ⟨_,h2⟩:=Xda hv
  have hlt:t<args.length:=by
   have:=(Qg.1 h2).1
   simpa using this
  simp only [Nat.sub_zero] at h2
  rw [Array.getElem?_append_left (by simpa using hlt)]
  simpa using h2
def Ev(P:Program)(o:Oper)(a:Act)(w:World)(v:Value) : Prop:=∀ w',Below w.heap.size w w'→(execOp a.eval o).run P w'=.ok (.value v) w'
def EfU(P:Program)(R:Value→World→Prop) : Result Next→Prop
 | .ok (.value v) w'=>R v w'
 | .ok .skip w'=>R undef w'
 | .ok (.enter f args) w'=>Calls P f args w' fun e w''=>∃ v,e=.returned v∧R v w''
 | .ok (.row row args) w'=>Rows P row args w' R
 | _=>False
def Ef(P:Program)(o:Oper)(a:Act)(w:World)(R:Value→World→Prop) : Prop:=EfU P R ((execOp a.eval o).run P w)
theorem Ef.wp{P:Program}{o:Oper}{a:Act}{w:World}{R:Value→World→Prop}(h:Ef P o a w R){K:Act→World→Prop}{Q:Exit→Act→World→Prop}
  (hK:∀ v w',R v w'→K (a.put o.dst v) w') : o.wp P a w K Q:=by
 unfold Ef at h
 unfold Oper.wp
 generalize (execOp a.eval o).run P w=r at *
 cases r with
 | ok nx w'=>
  cases nx<;>simp only [EfU] at h<;>simp only [Oper.upon]
  case value u=>exact hK _ _ h
  case skip=>exact hK _ _ h
  case enter f args=>
   refine Calls.mono h fun e w'' ⟨v,he,hR⟩=>?_
   subst he
   exact hK _ _ hR
  case row row args=>exact Rows.mono h fun u w'' hR=>hK _ _ hR
 | halt x w'=>simp only [EfU] at h
def EvW(P:Program)(o:Oper)(n:Nat)(e:List (Nat×Value))(w:World)(v:Value) : Prop:=∀ a,Fr a n e→Ev P o a w v
def EfW(P:Program)(o:Oper)(n:Nat)(e:List (Nat×Value))(w:World)(R:Value→World→Prop) : Prop:=∀ a,Fr a n e→Ef P o a w R
theorem Ef.of_run{P:Program}{o:Oper}{a:Act}{w w':World}{v:Value}(h:(execOp a.eval o).run P w=.ok (.value v) w') : Ef P o a w fun u w1=>u=v∧w1=w':=by
 unfold Ef
 rw [h]
 exact ⟨rfl,rfl⟩
theorem Ef.of_skip{P:Program}{o:Oper}{a:Act}{w w':World}(h:(execOp a.eval o).run P w=.ok .skip w') : Ef P o a w fun u w1=>u=undef∧w1=w':=by
 unfold Ef
 rw [h]
 exact ⟨rfl,rfl⟩
theorem Ef.mono{P:Program}{o:Oper}{a:Act}{w:World}{R R':Value→World→Prop}(h:Ef P o a w R)(hr:∀ v w',R v w'→R' v w') : Ef P o a w R':=by
 unfold Ef at *
 generalize (execOp a.eval o).run P w=r at *
 cases r with
 | ok nx w'=>
  cases nx<;>simp only [EfU] at h ⊢
  case value u=>exact hr _ _ h
  case skip=>exact hr _ _ h
  case enter f args=>exact Calls.mono h fun e w'' ⟨v,he,hR⟩=>⟨v,he,hr _ _ hR⟩
  case row row args=>exact Rows.mono h hr
 | halt x w'=>simp only [EfU] at h
theorem Ef.of_ev{P:Program}{o:Oper}{a:Act}{w:World}{v:Value}(h:Ev P o a w v) : Ef P o a w fun u w1=>u=v∧w1=w:=Ef.of_run (h w (Below.refl _ _))
def Want(ops:Array Oper)(o:Oper)(e:List (Nat×Value)) : Prop:=
 match o.guard with
 | none=>True
 | some (j,b)=>∃ t b',(ops[j]?).bind (·.dst)=some t∧look t e=some (.bool b')∧b'=b
def notB:Value→Bool→Prop
 | .bool b',b=>b' = !b
 | _,_=>True
def Pass(ops:Array Oper)(o:Oper)(e:List (Nat×Value)) : Prop:=
 match o.guard with
 | none=>False
 | some (j,b)=>∃ t v,(ops[j]?).bind (·.dst)=some t∧look t e=some v∧notB v b
theorem bz(w:World) : Below w.heap.size w w:=Below.refl _ _
def WantC(ops:Array Oper)(o:Oper)(e:List (Nat×Value)) : Prop:=
 match o.guard with
 | none=>True
 | some (j,b)=>match (ops[j]?).bind (·.dst) with
  | some t=>match look t e with
   | some (.bool b')=>b'=b
   | _=>False
  | none=>False
def PassC(ops:Array Oper)(o:Oper)(e:List (Nat×Value)) : Prop:=
 match o.guard with
 | none=>False
 | some (j,b)=>match (ops[j]?).bind (·.dst) with
  | some t=>match look t e with
   | some v=>notB v b
   | none=>False
  | none=>False
theorem gW{ops:Array Oper}{o:Oper}{e:List (Nat×Value)}(h:WantC ops o e) : Want ops o e:=by
 unfold WantC at h
 unfold Want
 split
 ·trivial
 ·rename_i j b hg
  rw [hg] at h
  simp only at h
  split at h
  ·rename_i t ht
   split at h
   ·rename_i b' hb
    exact ⟨t,b',ht,hb,h⟩
   ·cases h
  ·cases h
theorem gP{ops:Array Oper}{o:Oper}{e:List (Nat×Value)}(h:PassC ops o e) : Pass ops o e:=by
 unfold PassC at h
 unfold Pass
 split
 ·rename_i hg
  rw [hg] at h
  exact h
 ·rename_i j b hg
  rw [hg] at h
  simp only at h
  split at h
  ·rename_i t ht
   split at h
   ·rename_i v hv
    exact ⟨t,v,ht,hv,h⟩
   ·cases h
  ·cases h
theorem Want.wanted{ops:Array Oper}{o:Oper}{a:Act}{n:Nat}{e:List (Nat×Value)}(h:Want ops o e)(hf:Fr a n e) : Region.wanted o (yielded ops a.tmps)=true:=by
 unfold Want at h
 unfold Region.wanted
 split at h
 ·rename_i hg;simp [hg]
 ·rename_i j b hg
  obtain ⟨t,b',h1,h2,h3⟩:=h
  simp only [hg]
  unfold yielded
  simp [h1,hf.h _ _ h2,h3]
theorem Pass.wanted{ops:Array Oper}{o:Oper}{a:Act}{n:Nat}{e:List (Nat×Value)}(h:Pass ops o e)(hf:Fr a n e) : Region.wanted o (yielded ops a.tmps)=false:=by
 unfold Pass at h
 unfold Region.wanted
 split at h
 ·cases h
 ·rename_i j b hg
  obtain ⟨t,v,h1,h2,h3⟩:=h
  simp only [hg]
  unfold yielded
  rw [h1,Qz,hf.h _ _ h2]
  cases v<;>first|rfl|(simp only [notB] at h3;subst h3;cases b<;>rfl)
section
variable {P : Program} {ops : Array Oper} {Q : Exit → Act → World → Prop} {a : Act} {w : World} {rest : List Oper} {o : Oper} {n d : Nat} {e : List (Nat × Value)}
theorem Xmv{R:Value→World→Prop}(hf:Fr a n e)(hw:Want ops o e)(hd:o.dst=some d)(hn:Nat.blt d n=true)(hr:Ef P o a w R)
  (h:∀ a' v w',R v w'→Fr a' n ((d,v)::e)→wpList P ops Q rest a' w') : wpList P ops Q (o::rest) a w:=
 wpList_step fun K hK=>by
  rw [Q4 (hw.wanted hf)]
  exact hr.wp fun v w' hR=>hK _ _ (h _ v w' hR (by rw [hd];exact hf.put d v hn))
theorem Xt5{R:Value→World→Prop}(hf:Fr a n e)(hw:Want ops o e)(hd:o.dst=none)(hr:Ef P o a w R)
  (h:∀ a' v w',R v w'→Fr a' n e→wpList P ops Q rest a' w') : wpList P ops Q (o::rest) a w:=
 wpList_step fun K hK=>by
  rw [Q4 (hw.wanted hf)]
  exact hr.wp fun v w' hR=>hK _ _ (h _ v w' hR (by rw [hd];exact hf.put_none v))
theorem Xsa{v:Value}(hf:Fr a n e)(hw:Want ops o e)(hd:o.dst=some d)(hn:Nat.blt d n=true)(hr:Ev P o a w v)
  (h:∀ a',Fr a' n ((d,v)::e)→wpList P ops Q rest a' w) : wpList P ops Q (o::rest) a w:=
 Xmv hf hw hd hn (Ef.of_ev hr) fun a' v' w' hR hf'=>by
  obtain ⟨rfl,rfl⟩:=hR;exact h a' hf'
theorem Xsf(hf:Fr a n e)(hw:Pass ops o e)(hd:o.dst=some d)(hn:Nat.blt d n=true)
  (h:∀ a',Fr a' n ((d,undef)::e)→wpList P ops Q rest a' w) : wpList P ops Q (o::rest) a w:=
 wpList_step fun K hK=>by
  rw [Q3 (by rw [hw.wanted hf];simp)]
  exact hK _ _ (h _ (by rw [hd];exact hf.put d undef hn))
end
section
variable {P : Program} {ops : Array Oper} {Q : Exit → Act → World → Prop} {a : Act} {w : World} {rest : List Oper} {op : Op} {ty : TypeId} {pos : String} {af : Array Edge} {n d : Nat} {e : List (Nat × Value)}
theorem l_e{v:Value}(hf:Fr a n e)(hn:Nat.blt d n=true)(hr:Ev P ⟨some d,op,ty,pos,af,none⟩ a w v)(h:∀ a',Fr a' n ((d,v)::e)→wpList P ops Q rest a' w) : wpList P ops Q (⟨some d,op,ty,pos,af,none⟩::rest) a w:=Xsa hf trivial rfl hn hr h
theorem l_f{R:Value→World→Prop}(hf:Fr a n e)(hn:Nat.blt d n=true)(hr:Ef P ⟨some d,op,ty,pos,af,none⟩ a w R)(h:∀ a' v w',R v w'→Fr a' n ((d,v)::e)→wpList P ops Q rest a' w') : wpList P ops Q (⟨some d,op,ty,pos,af,none⟩::rest) a w:=Xmv hf trivial rfl hn hr h
theorem Xzl{R:Value→World→Prop}(hf:Fr a n e)(hr:Ef P ⟨none,op,ty,pos,af,none⟩ a w R)(h:∀ a' v w',R v w'→Fr a' n e→wpList P ops Q rest a' w') : wpList P ops Q (⟨none,op,ty,pos,af,none⟩::rest) a w:=Xt5 hf trivial rfl hr h
theorem Y07{x:Operand}{v:Value}(hf:Fr a n e)(hx:ev e x=some v)(hn:Nat.blt d n=true)(h:∀ a',Fr a' n ((d,v)::e)→wpList P ops Q rest a' w) : wpList P ops Q (⟨some d,.move x,ty,pos,af,none⟩::rest) a w:=l_e hf hn (fun w' _=>by simp [execOp,hf.ev hx]) h
theorem Xzj{x:Operand}{v:Value}(hf:Fr a n e)(hx:ev e x=some v)(hn:Nat.blt d n=true)(h:∀ a',Fr a' n ((d,v)::e)→wpList P ops Q rest a' w) : wpList P ops Q (⟨some d,.assign x,ty,pos,af,none⟩::rest) a w:=l_e hf hn (fun w' _=>by simp [execOp,hf.ev hx]) h
end
structure Only (b:Nat) (w w':World) : Prop where
 os:w'.os=w.os
 tape:w'.tape=w.tape
 output:w'.output=w.output
 size:w'.heap.size=w.heap.size
 block:∀ k,k≠b→w'.heap[k]? = w.heap[k]?
theorem Only.refl(b:Nat)(w:World) : Only b w w:=⟨rfl,rfl,rfl,rfl,fun _ _=>rfl⟩
theorem Only.trans{b:Nat}{w w' w'':World}(h:Only b w w')(k:Only b w' w'') : Only b w w'':=
 ⟨k.os.trans h.os,k.tape.trans h.tape,k.output.trans h.output,k.size.trans h.size,fun i hi=>(k.block i hi).trans (h.block i hi)⟩
structure Kept (b B:Nat) (w w':World) : Prop where
 os:w'.os=w.os
 tape:w'.tape=w.tape
 output:w'.output=w.output
 size:w.heap.size≤w'.heap.size
 block:∀ k,k<B→k≠b→w'.heap[k]? = w.heap[k]?
theorem Kept.refl(b B:Nat)(w:World) : Kept b B w w:=⟨rfl,rfl,rfl,Qb _,fun _ _ _=>rfl⟩
theorem Kept.of_below{b B:Nat}{w w':World}(h:Below B w w') : Kept b B w w':=⟨h.os,h.tape,h.output,h.size,fun k hk _=>h.block k hk⟩
theorem Kept.trans{b B:Nat}{w w' w'':World}(h:Kept b B w w')(k:Below B w' w'') : Kept b B w w'':=
 ⟨k.os.trans h.os,k.tape.trans h.tape,k.output.trans h.output,Q0 h.size k.size,fun i hi hn=>(k.block i hi).trans (h.block i hi hn)⟩
theorem Kept.transK{b B:Nat}{w w' w'':World}(h:Kept b B w w')(k:Kept b B w' w'') : Kept b B w w'':=
 ⟨k.os.trans h.os,k.tape.trans h.tape,k.output.trans h.output,Q0 h.size k.size,fun i hi hn=>(k.block i hi hn).trans (h.block i hi hn)⟩
theorem Kept.mono{b B B':Nat}{w w':World}(h:Kept b B w w')(hB:B'≤B) : Kept b B' w w':=⟨h.os,h.tape,h.output,h.size,fun k hk=>h.block k (Nat.lt_of_lt_of_le hk hB)⟩
theorem Kept.only{b b' B:Nat}{w w' w'':World}(h:Kept b B w w')(ho:Only b' w' w'')(hB:B≤b') : Kept b B w w'':=
 h.trans ⟨ho.os,ho.tape,ho.output,by rw [ho.size];exact Qb _,fun k hk=>ho.block k (by omega)⟩
theorem Kept.self{b B:Nat}{w w' w'':World}(h:Kept b B w w')(ho:Only b w' w'') : Kept b B w w'':=
 h.transK ⟨ho.os,ho.tape,ho.output,by rw [ho.size];exact Qb _,fun k _ hk=>ho.block k hk⟩
theorem Kept.mid{b:Nat}{w w':World}(h:Kept b w.heap.size w w') : ∃ w1,Only b w w1∧(b<w.heap.size→w1.heap[b]? = w'.heap[b]?)∧Below w1.heap.size w1 w':=by
 cases hb:w'.heap[b]? with
 | none=>
  have hlt:w.heap.size≤b:=Q0 h.size (Array.getElem?_eq_none_iff.1 hb)
  refine ⟨w,Only.refl _ _,fun h'=>by omega,⟨h.os,h.tape,h.output,h.size,fun k hk=>h.block k hk (by omega)⟩⟩
 | some o=>
  refine ⟨{ w with heap:=w.heap.setIfInBounds b o },⟨rfl,rfl,rfl,by simp,fun k hk=>?_⟩,fun h'=>?_,⟨h.os,h.tape,h.output,by simpa using h.size,fun k hk=>?_⟩⟩
  ·show (w.heap.setIfInBounds b o)[k]? = _
   rw [Wh (Ne.symm hk)]
  ·show (w.heap.setIfInBounds b o)[b]? = _
   simp [h']
  ·have hk':k<w.heap.size:=by simpa using hk
   show _=(w.heap.setIfInBounds b o)[k]?
   by_cases hkb:k=b
   ·subst hkb
    simp [hk',hb]
   ·rw [Wh (Ne.symm hkb)]
    exact h.block k hk' hkb
theorem btr{w0 w w':World}(h:Below w0.heap.size w0 w)(hE:Below w.heap.size w w') : Below w0.heap.size w0 w':=h.trans (hE.mono h.size)
theorem ktr{b:Nat}{w0 w w':World}(h:Kept b w0.heap.size w0 w)(hE:Below w.heap.size w w') : Kept b w0.heap.size w0 w':=h.trans (hE.mono h.size)
def Keep(V:Option Nat)(w w':World) : Prop:=match V with
 | none=>Below w.heap.size w w'
 | some b=>∃ w1,Only b w w1∧Below w.heap.size w1 w'
theorem Keep.refl(V:Option Nat)(w:World) : Keep V w w:=by
 cases V with
 | none=>exact Below.refl _ _
 | some b=>exact ⟨w,Only.refl _ _,Below.refl _ _⟩
theorem Keep.kept{b:Nat}{w w':World}(h:Keep (some b) w w') : Kept b w.heap.size w w':=by
 obtain ⟨w1,h1,h2⟩:=h;exact (Kept.self (Kept.refl b w.heap.size w) h1).trans h2
theorem Kept.keep{b:Nat}{w w':World}(h:Kept b w.heap.size w w') : Keep (some b) w w':=by
 obtain ⟨w1,h1,_,h2⟩:=h.mid;exact ⟨w1,h1,by rw [← h1.size];exact h2⟩
theorem Keep.of_below{V:Option Nat}{w w':World}(h:Below w.heap.size w w') : Keep V w w':=by
 cases V with
 | none=>exact h
 | some b=>exact ⟨w,Only.refl _ _,h⟩
theorem Keep.trans{V:Option Nat}{w w' w'':World}(h:Keep V w w')(k:Keep V w' w'') : Keep V w w'':=by
 cases V with
 | none=>exact Below.trans h (Below.mono k h.size)
 | some b=>exact (h.kept.transK (k.kept.mono h.kept.size)).keep
section
variable {P : Program} {ops : Array Oper} {Q : Act → World → Prop} {tl : Nat → Bool} {V : Option Nat}
def wpR(P:Program)(ops:Array Oper)(V:Option Nat)(tl:Nat→Bool)(i:Nat)(K:Act→World→Prop)(a:Act)(w:World) : Prop:=
 match ops[i]? with
 | none=>K a w
 | some o=>if Region.wanted o (yielded ops a.tmps) then Ef P o a w (fun v w'=>(tl i=false→Keep V w w')∧K (a.put o.dst v) w') else K (a.put o.dst undef) w
def wpS(P:Program)(ops:Array Oper)(V:Option Nat)(tl:Nat→Bool)(Q:Act→World→Prop) : Nat→Array Bool→Act→World→Prop
 | 0,listed,a,w=>Region.ready .any ops listed=[]∧Q a w
 | fuel+1,listed,a,w=>(Region.ready .any ops listed=[]→Q a w)∧∀ i ∈ Region.ready .any ops listed,wpR P ops V tl i (wpS P ops V tl Q fuel (listed.setIfInBounds i true)) a w
theorem Xl7{i:Nat}{K K':Act→World→Prop}{a:Act}{w:World}(h:∀ a w,K a w→K' a w)(hh:wpR P ops V tl i K a w) : wpR P ops V tl i K' a w:=by
 unfold wpR at *
 split
 ·exact h _ _ (by simpa [*] using hh)
 ·rename_i o ho
  simp only [ho] at hh
  split
  ·rename_i hw
   simp only [hw,if_true] at hh
   exact hh.mono fun v w' ⟨h1,h2⟩=>⟨h1,h _ _ h2⟩
  ·rename_i hw
   simp only [hw] at hh
   exact h _ _ hh
theorem X3r{Q':Exit→Act→World→Prop}(hQ:∀ a w,Q a w→Q' .normal a w) : ∀ (fuel:Nat) (listed:Array Bool) (a:Act) (w:World),wpS P ops V tl Q fuel listed a w→wpAny P .any ops Q' fuel listed a w
 | 0,_,_,_,h=>⟨h.1,hQ _ _ h.2⟩
 | fuel+1,listed,a,w,h=>by
  refine ⟨fun h0=>hQ _ _ (h.1 h0),fun i hi=>?_⟩
  have h1:=h.2 i hi
  unfold wpR at h1
  unfold wpOp
  split
  ·rename_i ho;simp only [ho] at h1;exact X3r hQ fuel _ _ _ h1
  ·rename_i o ho
   simp only [ho] at h1
   split
   ·rename_i hw
    simp only [hw,if_true] at h1
    exact .inl (h1.wp fun v w' hR=>X3r hQ fuel _ _ _ hR.2)
   ·rename_i hw
    simp only [hw] at h1
    exact X3r hQ fuel _ _ _ h1
def YC(P:Program)(ops:Array Oper)(C:World→Prop)(o:Oper)(v:Value)(a:Act) : Prop:=
 (Region.wanted o (yielded ops a.tmps)=true∧∀ w,C w→(execOp a.eval o).run P w=.ok (.value v) w)∨(Region.wanted o (yielded ops a.tmps)=false∧v=undef)
theorem YC.of_same{C:World→Prop}{o:Oper}{v:Value}{a a':Act}(hy:YC P ops C o v a)(he:execOp a'.eval o=execOp a.eval o)
  (hw:Region.wanted o (yielded ops a'.tmps)=Region.wanted o (yielded ops a.tmps)) : YC P ops C o v a':=by
 unfold YC at *
 rw [he,hw]
 exact hy
theorem YC.wpR{C:World→Prop}{i:Nat}{o:Oper}{v:Value}{a:Act}{w:World}(hi:ops[i]? = some o)(hC:C w)(hy:YC P ops C o v a){K:Act→World→Prop}(h:K (a.put o.dst v) w) : wpR P ops V tl i K a w:=by
 unfold YtckoekhjglafjaaGreatDoor.wpR
 simp only [hi]
 rcases hy with ⟨hw,hv⟩|⟨hw,rfl⟩
 ·simp only [hw,if_true]
  exact (Ef.of_run (hv w hC)).mono fun u w' ⟨e1,e2⟩=>by subst e1;subst e2;exact ⟨fun _=>Keep.refl _ _,h⟩
 ·simp only [hw,Bool.false_eq_true,if_false];exact h
theorem Xsd{oi oj:Oper}{v:Value}(h1:∀ d,oi.dst=some d→d ∉ oj.looksAt ops)(hsj:∀ cs b,oj.op≠.select cs b)
  {a:Act} {w:World} {R:Value→World→Prop} (h:Ef P oj (a.put oi.dst v) w R) : Ef P oj a w R:=by
 unfold Ef at *
 rwa [execOp_put oj hsj a oi.dst v h1] at h
theorem Xq0{C:World→Prop}{j:Nat}{oi oj:Oper}{v:Value}(hj:ops[j]? = some oj)(hap:oi.apart ops oj=true)
  (hsi:∀ cs b,oi.op≠.select cs b) (hsj:∀ cs b,oj.op≠.select cs b) (hC:∀ w w',C w→(tl j=false→Keep V w w')→C w') {K:Act→World→Prop} {a:Act} {w:World} (hw0:C w)
  (hy:YC P ops C oi v a) (h:wpR P ops V tl j K (a.put oi.dst v) w) : wpR P ops V tl j (fun a' w'=>C w'∧YC P ops C oi v a'∧K (a'.put oi.dst v) w') a w:=by
 obtain ⟨h1,h2,h3⟩:=Oper.apart_spec hap
 have keep:∀ (a:Act),YC P ops C oi v a→∀ u,YC P ops C oi v (a.put oj.dst u):=fun a hy u=>
  hy.of_same (execOp_put oi hsi a oj.dst u h3) (wanted_put oi a oj.dst u h3)
 unfold wpR at *
 simp only [hj] at *
 rw [wanted_put oj a oi.dst v h1] at h
 split
 ·rename_i hw
  simp only [hw,if_true] at h
  exact (Xsd h1 hsj h).mono fun u w' ⟨hb,hk⟩=>⟨hb,hC w w' hw0 hb,keep a hy u,by rw [← Act.put_comm a v u h2];exact hk⟩
 ·rename_i hw
  simp only [hw] at h
  exact ⟨hw0,keep a hy _,by rw [← Act.put_comm a v undef h2];exact h⟩
def Closed(ops:Array Oper)(listed:Array Bool) : Prop:=∀ k ok,ops[k]? = some ok→listed.getD k false=true→∀ e ∈ ok.after,Region.binds .any e=true→listed.getD e.on false=true
theorem X6r{listed:Array Bool}{j k:Nat}(h:listed.getD k false=true) : (listed.setIfInBounds j true).getD k false=true:=by
 rcases W4 k listed.size with hk|hk
 ·by_cases hjk:j=k
  ·subst hjk;simp [hk]
  ·simpa [hk,Array.getElem_setIfInBounds_ne _ hjk] using h
 ·simp [We hk] at h
theorem Closed.set{listed:Array Bool}{j:Nat}{oj:Oper}(h:Closed ops listed)(hj:ops[j]? = some oj)(hall:∀ e ∈ oj.after,Region.binds .any e=true→listed.getD e.on false=true) : Closed ops (listed.setIfInBounds j true):=fun k ok hk hl e he hb=>by
 by_cases hjk:j=k
 ·subst hjk
  rw [hj] at hk
  injection hk with hk
  subst hk
  exact X6r (hall e he hb)
 ·rw [getD_set_ne false hjk] at hl
  exact X6r (h k ok hk hl e he hb)
def reach(ops:Array Oper)(i:Nat) : Nat→Nat→Bool
 | 0,_=>false
 | f+1,j=>match ops[j]? with
  | some oj=>oj.after.any fun e=>Region.binds .any e&&(e.on==i||reach ops i f e.on)
  | none=>false
theorem X7d{listed:Array Bool}{i:Nat}(hcl:Closed ops listed) : ∀ (f j:Nat) (oj:Oper),ops[j]? = some oj→(∀ e ∈ oj.after,Region.binds .any e=true→listed.getD e.on false=true)→reach ops i f j=true→listed.getD i false=true
 | 0,_,_,_,_,h=>by cases h
 | f+1,j,oj,hj,hall,h=>by
  simp only [reach,hj] at h
  obtain ⟨e,he,hb⟩:=Array.any_eq_true'.1 h
  simp only [Qd,Bool.or_eq_true,beq_iff_eq] at hb
  have h1:=hall e he hb.1
  rcases hb.2 with h2|h2
  ·rw [← h2];exact h1
  ·cases hk:ops[e.on]? with
   | none=>
    cases f with
    | zero=>cases h2
    | succ f=>simp only [reach,hk] at h2;cases h2
   | some ok=>exact X7d hcl f e.on ok hk (hcl e.on ok hk h1) h2
theorem Xb8{C:World→Prop}{i:Nat}{oi:Oper}{v:Value}(hi:ops[i]? = some oi)(hsel:∀ (j:Nat) (o:Oper) cs b,ops[j]? = some o→o.op≠.select cs b)
  (hC:∀ j oj,ops[j]? = some oj→(∀ listed,Closed ops listed→(∀ e ∈ oj.after,Region.binds .any e=true→listed.getD e.on false=true)→listed.getD i true=false→∀ w w',C w→(tl j=false→Keep V w w')→C w')) :
  ∀ (fuel:Nat) (listed:Array Bool) (a:Act) (w:World),Closed ops listed→
   (∀ j oj,ops[j]? = some oj→j≠i→listed.getD j true=false→(∀ e ∈ oj.after,Region.binds .any e=true→e.on≠i)→oi.apart ops oj=true)→
   i ∈ Region.ready .any ops listed→C w→YC P ops C oi v a→
   wpS P ops V tl Q fuel (listed.setIfInBounds i true) (a.put oi.dst v) w→wpS P ops V tl Q (fuel+1) listed a w:=by
 intro fuel
 induction fuel with
 | zero=>
  intro listed a w _ _ hr hw hy H
  refine ⟨fun h=>(by rw [h] at hr;cases hr),fun j hj=>?_⟩
  by_cases hji:j=i
  ·subst hji;exact hy.wpR hi hw H
  ·have:=ready_mono hj hji
   rw [H.1] at this
   cases this
 | succ fuel ih=>
  intro listed a w hcl hfree hr hw hy H
  refine ⟨fun h=>(by rw [h] at hr;cases hr),fun j hj=>?_⟩
  by_cases hji:j=i
  ·subst hji;exact hy.wpR hi hw H
  ·have h1:=H.2 j (ready_mono hj hji);obtain ⟨hjun,oj,hoj,hall⟩:=mem_ready.1 hj
   have hnot:∀ e ∈ oj.after,Region.binds .any e=true→e.on≠i:=fun e he hb heq=>by
    have h1:=hall e he hb;have h0:=(mem_ready.1 hr).1
    rw [heq] at h1
    rcases W4 i listed.size with h'|h'
    ·simp [h'] at h0 h1;rw [h0] at h1;cases h1
    ·simp [We h'] at h1
   have h2:=Xq0 hoj (hfree j oj hoj hji hjun hnot) (fun cs b=>hsel i oi cs b hi) (fun cs b=>hsel j oj cs b hoj) (hC j oj hoj listed hcl hall (mem_ready.1 hr).1) hw hy h1
   have hfree':∀ k ok,ops[k]? = some ok→k≠i→(listed.setIfInBounds j true).getD k true=false→
     (∀ e ∈ ok.after,Region.binds .any e=true→e.on≠i)→oi.apart ops ok=true:=fun k ok hk hki hun hno=>by
    refine hfree k ok hk hki ?_ hno
    by_cases hjk:j=k
    ·subst hjk;exact hjun
    ·rw [getD_set_ne true hjk] at hun;exact hun
   refine Xl7 (fun a' w' h3=>ih (listed.setIfInBounds j true) a' w' (hcl.set hoj hall) hfree' (ready_mono hr (Ne.symm hji)) h3.1 h3.2.1 ?_) h2
   rw [Array.setIfInBounds_comm _ _ hji]
   exact h3.2.2
def mask(ops:Array Oper)(done:List Nat) : Array Bool:=(Array.range ops.size).map fun i=>done.contains i
theorem X7l(ops:Array Oper)(done:List Nat)(i:Nat) : (mask ops done).setIfInBounds i true=mask ops (i::done):=by
 apply Array.ext
 ·simp [mask]
 ·intro k h1 h2
  simp only [mask,Array.size_setIfInBounds,Array.size_map,Array.size_range] at h1
  by_cases hk:i=k
  ·subst hk
   simp [mask]
  ·have hk':¬ k=i:=fun h=>hk h.symm
   rw [Array.getElem_setIfInBounds_ne (by simpa [mask] using h1) hk]
   simp [mask,hk']
theorem Xjs(ops:Array Oper) : Array.replicate ops.size false=mask ops []:=by
 apply Array.ext<;>simp [mask]
def closedB(ops:Array Oper)(done:List Nat) : Bool:=done.all fun k=>match ops[k]? with
 | some ok=>ok.after.all fun e=>!(Region.binds .any e)||done.contains e.on&&Nat.blt e.on ops.size
 | none=>true
def mayFirst(ops:Array Oper)(done:List Nat)(i:Nat) : Bool:=
 Region.noSelect ops&&Region.free .any ops (mask ops done) i&&(Region.ready .any ops (mask ops done)).contains i&&closedB ops done
theorem Xb5{done:List Nat}{k:Nat}(d:Bool)(h:k<ops.size) : (mask ops done).getD k d=done.contains k:=by
 simp [mask,h]
theorem mask_getD'{done:List Nat}{k:Nat}(h:(mask ops done).getD k false=true) : done.contains k=true:=by
 rcases W4 k ops.size with h'|h'
 ·rwa [Xb5 false h'] at h
 ·simp [mask,h'] at h
theorem X7t{done:List Nat}(h:closedB ops done=true) : Closed ops (mask ops done):=fun k ok hk hl e he hb=>by
 have h1:=mask_getD' hl
 simp only [closedB,W1] at h
 have h2:=h k (by simpa using h1)
 simp only [hk] at h2
 have h3:=Array.all_eq_true'.1 h2 e he
 simp only [hb,Bool.not_true,Bool.false_or,Qd] at h3
 have h4:e.on<ops.size:=by simpa [Nat.blt_eq] using h3.2
 rw [Xb5 false h4]
 exact h3.1
def tailWaits(ops:Array Oper)(tl:Nat→Bool)(i:Nat) : Bool:=
 (List.range ops.size).all fun j=>!tl j||reach ops i 9 j
theorem Xa4{i:Nat}(h:tailWaits ops tl i=true)(j:Nat)(oj:Oper)(hj:ops[j]? = some oj){listed:Array Bool}(hcl:Closed ops listed)(hall:∀ e ∈ oj.after,Region.binds .any e=true→listed.getD e.on false=true)(hi:listed.getD i true=false) : tl j=false:=by
 simp only [tailWaits,W1,W2] at h
 have h1:=h j (Qp.1 hj).1
 simp only [Bool.or_eq_true,Bool.not_eq_true'] at h1
 rcases h1 with h1|h1
 ·exact h1
 ·have h2:=X7d hcl 9 j oj hj hall h1
  rcases W4 i listed.size with h'|h'
  ·simp [h'] at h2 hi;rw [h2] at hi;cases hi
  ·simp [h'] at h2
section
variable {a : Act} {w : World} {n d fuel : Nat} {e : List (Nat × Value)} {o : Oper} {done : List Nat}
theorem Xr5(i:Nat){v:Value}(hi:ops[i]? = some o)(hm:mayFirst ops done i=true)(ht:tailWaits ops tl i=true)(hf:Fr a n e)(hw:Want ops o e)(hd:o.dst=some d)(hn:Nat.blt d n=true)
  (hr:∀ w',Keep V w w'→(execOp a.eval o).run P w'=.ok (.value v) w') (h:∀ a',Fr a' n ((d,v)::e)→wpS P ops V tl Q fuel (mask ops (i::done)) a' w) : wpS P ops V tl Q (fuel+1) (mask ops done) a w:=by
 simp only [mayFirst,Qd] at hm
 refine Xb8 (C:=fun w'=>Keep V w w') hi (Region.noSelect_spec hm.1.1.1) (fun j oj hj lst hcl hall hun w1 w2 h1 h2=>?_) fuel _ a w (X7t hm.2) (Region.free_spec hi hm.1.1.2) (by simpa using hm.1.2) (Keep.refl _ _) (.inl ⟨hw.wanted hf,hr⟩) ?_
 ·exact h1.trans (h2 (Xa4 ht j oj hj hcl hall hun))
 ·rw [X7l]
  exact h _ (by rw [hd];exact hf.put d v hn)
theorem Xse(i:Nat){v:Value}(hi:ops[i]? = some o)(hm:mayFirst ops done i=true)(ht:tailWaits ops tl i=true)(hf:Fr a n e)(hw:Want ops o e)(hd:o.dst=some d)(hn:Nat.blt d n=true)
  (hr:Ev P o a w v) (h:∀ a',Fr a' n ((d,v)::e)→wpS P ops none tl Q fuel (mask ops (i::done)) a' w) : wpS P ops none tl Q (fuel+1) (mask ops done) a w:=Xr5 i hi hm ht hf hw hd hn hr h
theorem Xxt(i:Nat){b:Nat}{v:Value}(hi:ops[i]? = some o)(hm:mayFirst ops done i=true)(ht:tailWaits ops tl i=true)(hf:Fr a n e)(hw:Want ops o e)(hd:o.dst=some d)(hn:Nat.blt d n=true)
  (hr:∀ w1,Only b w w1→Ev P o a w1 v) (h:∀ a',Fr a' n ((d,v)::e)→wpS P ops (some b) tl Q fuel (mask ops (i::done)) a' w) : wpS P ops (some b) tl Q (fuel+1) (mask ops done) a w:=
 Xr5 i hi hm ht hf hw hd hn (fun w' ⟨w1,h1,h2⟩=>hr w1 h1 w' (by rw [h1.size];exact h2)) h
theorem Xjn(i:Nat){v:Value}(hi:ops[i]? = some o)(hm:mayFirst ops done i=true)(hf:Fr a n e)(hw:Want ops o e)(hd:o.dst=some d)(hn:Nat.blt d n=true)
  (hr:∀ w,Ev P o a w v) (h:∀ a',Fr a' n ((d,v)::e)→wpS P ops V tl Q fuel (mask ops (i::done)) a' w) : wpS P ops V tl Q (fuel+1) (mask ops done) a w:=by
 simp only [mayFirst,Qd] at hm
 refine Xb8 (C:=fun _=>True) hi (Region.noSelect_spec hm.1.1.1) (fun _ _ _ _ _ _ _ _ _ _ _=>trivial) fuel _ a w (X7t hm.2) (Region.free_spec hi hm.1.1.2) (by simpa using hm.1.2) trivial (.inl ⟨hw.wanted hf,fun w' _=>hr w' w' (Below.refl _ _)⟩) ?_
 rw [X7l]
 exact h _ (by rw [hd];exact hf.put d v hn)
theorem s_e{op:Op}{ty:TypeId}{pos:String}{af:Array Edge}(i:Nat){v:Value}(hi:ops[i]? = some ⟨some d,op,ty,pos,af,none⟩)(hm:mayFirst ops done i=true)(ht:tailWaits ops tl i=true)(hf:Fr a n e)(hn:Nat.blt d n=true)
  (hr:Ev P ⟨some d,op,ty,pos,af,none⟩ a w v) (h:∀ a',Fr a' n ((d,v)::e)→wpS P ops none tl Q fuel (mask ops (i::done)) a' w) : wpS P ops none tl Q (fuel+1) (mask ops done) a w:=Xse i hi hm ht hf trivial rfl hn hr h
theorem Y03{op:Op}{ty:TypeId}{pos:String}{af:Array Edge}(i:Nat){v:Value}(hi:ops[i]? = some ⟨some d,op,ty,pos,af,none⟩)(hm:mayFirst ops done i=true)(hf:Fr a n e)(hn:Nat.blt d n=true)
  (hr:∀ w,Ev P ⟨some d,op,ty,pos,af,none⟩ a w v) (h:∀ a',Fr a' n ((d,v)::e)→wpS P ops V tl Q fuel (mask ops (i::done)) a' w) : wpS P ops V tl Q (fuel+1) (mask ops done) a w:=Xjn i hi hm hf trivial rfl hn hr h
theorem Xym(i:Nat)(hr:Region.ready .any ops (mask ops done)=[i])(h:wpR P ops V tl i (wpS P ops V tl Q fuel (mask ops (i::done))) a w) : wpS P ops V tl Q (fuel+1) (mask ops done) a w:=by
 refine ⟨fun h0=>(by rw [hr] at h0;cases h0),fun j hj=>?_⟩
 rw [hr] at hj
 obtain rfl:j=i:=by simpa using hj
 rw [X7l]
 exact h
theorem Xw2(i j:Nat)(hr:Region.ready .any ops (mask ops done)=[i,j])(hi:wpR P ops V tl i (wpS P ops V tl Q fuel (mask ops (i::done))) a w)
  (hj:wpR P ops V tl j (wpS P ops V tl Q fuel (mask ops (j::done))) a w) : wpS P ops V tl Q (fuel+1) (mask ops done) a w:=by
 refine ⟨fun h0=>(by rw [hr] at h0;cases h0),fun k hk=>?_⟩
 rw [hr] at hk
 rw [X7l]
 simp only [Qv,List.not_mem_nil,or_false] at hk
 rcases hk with rfl|rfl
 ·exact hi
 ·exact hj
def sameL(L D:List Nat) : Bool:=L.all D.contains&&D.all L.contains
theorem Xj4{L D:List Nat}(h:sameL L D=true) : mask ops L=mask ops D:=by
 unfold mask
 apply Array.map_congr_left
 intro i _
 unfold sameL at h
 rw [Qd] at h
 rw [Bool.eq_iff_iff,List.contains_iff_mem,List.contains_iff_mem]
 exact ⟨fun hi=>List.contains_iff_mem.1 (W1.1 h.1 i hi),fun hi=>List.contains_iff_mem.1 (W1.1 h.2 i hi)⟩
theorem Xm1{a:Act}{w:World}{o:Oper}{v:Value}(h:Ev P o a w v) : Ef P o a w (fun v' w'=>v'=v∧w=w'):=by
 unfold Ef
 rw [h w (Below.refl _ _)]
 exact ⟨rfl,rfl⟩
theorem Xso(hr:Region.ready .any ops (mask ops done)=[])(h:Q a w) : wpS P ops V tl Q fuel (mask ops done) a w:=by
 cases fuel with
 | zero=>exact ⟨hr,h⟩
 | succ f=>exact ⟨fun _=>h,fun j hj=>by rw [hr] at hj;cases hj⟩
theorem Xwm{i:Nat}{K:Act→World→Prop}{R:Value→World→Prop}(hi:ops[i]? = some o)(hf:Fr a n e)(hw:Want ops o e)(hd:o.dst=some d)(hn:Nat.blt d n=true)
  (hr:Ef P o a w fun v w'=>(tl i=false→Keep V w w')∧R v w') (h:∀ a' v w',R v w'→Fr a' n ((d,v)::e)→K a' w') : wpR P ops V tl i K a w:=by
 unfold wpR
 simp only [hi]
 rw [Q4 (hw.wanted hf)]
 exact hr.mono fun v w' ⟨h1,h2⟩=>⟨h1,h _ v w' h2 (by rw [hd];exact hf.put d v hn)⟩
theorem Xvb{i:Nat}{K:Act→World→Prop}{R:Value→World→Prop}(hi:ops[i]? = some o)(hf:Fr a n e)(hw:Want ops o e)(hd:o.dst=none)
  (hr:Ef P o a w fun v w'=>(tl i=false→Keep V w w')∧R v w') (h:∀ a' v w',R v w'→Fr a' n e→K a' w') : wpR P ops V tl i K a w:=by
 unfold wpR
 simp only [hi]
 rw [Q4 (hw.wanted hf)]
 exact hr.mono fun v w' ⟨h1,h2⟩=>⟨h1,h _ v w' h2 (by rw [hd];exact hf.put_none v)⟩
theorem Xz(V:Option Nat)(tl:Nat→Bool){id:Nat}{l:List Oper}{Q':Exit→Act→World→Prop}(hm:P.follows .mixedOrders=true)
  (h:∀ w',Below w.heap.size w w'→wpS P l.toArray V tl (Q' .normal) l.length (mask l.toArray []) a w') : (Code.region id l.toArray true).wp P Q' a w:=by
 refine wp_region_any hm ?_
 rw [Xjs]
 exact X3r (fun _ _ h=>h) _ _ _ _ (by simpa using h w.drew (Below.refl _ _).drew)
end
end
abbrev Env:=List (Nat×Value)
def At(w:World)(p:Addr)(l:List Value) : Prop:=∀ j v,l[j]? = some v→w.cell? (p.add j)=some v
def Blk(w:World)(b:Nat)(T:TypeId)(l:List Value) : Prop:=w.heap[b]? = some (.cells l.toArray T (0,0))
theorem X7b(p:Addr)(i j:Nat) : (p.add i).add j=p.add (i+j):=by
 unfold Addr.add
 by_cases hi:i=0<;>by_cases hj:j=0<;>simp [hi,hj,Nat.add_assoc]
theorem X71(p:Addr)(i:Nat) : (p.add i).block=p.block:=by unfold Addr.add;split<;>rfl
theorem X1v(b off i:Nat) : (Addr.mk b off none).add i=⟨b,off+i,none⟩:=by
 unfold Addr.add
 by_cases hi:i=0<;>simp [hi]
theorem Xhp{w:World}{p:Addr}{v:Value}(h:w.cell? p=some v) : p.block<w.heap.size:=by
 rcases W4 p.block w.heap.size with h'|h'
 ·exact h'
 ·simp [World.cell?,We h'] at h
theorem At.below{w w':World}{p:Addr}{l:List Value}(h:At w p l)(hb:Below w.heap.size w w') : At w' p l:=by
 intro j v hj
 have:=h j v hj
 rw [hb.cell (Xhp this)]
 exact this
theorem At.drop{w:World}{p:Addr}{l:List Value}(h:At w p l)(k:Nat) : At w (p.add k) (l.drop k):=by
 intro j v hj
 rw [X7b]
 exact h (k+j) v (by rw [← hj,List.getElem?_drop])
theorem At.take{w:World}{p:Addr}{l:List Value}(h:At w p l)(k:Nat) : At w p (l.take k):=by
 intro j v hj;refine h j v ?_
 rw [List.getElem?_take] at hj
 split at hj
 ·exact hj
 ·cases hj
theorem At.nil(w:World)(p:Addr) : At w p []:=fun j v h=>by simp at h
theorem Blk.lt{w:World}{b:Nat}{T:TypeId}{l:List Value}(h:Blk w b T l) : b<w.heap.size:=by
 rcases W4 b w.heap.size with h'|h'
 ·exact h'
 ·simp [Blk,We h'] at h
theorem Blk.cell{w:World}{b:Nat}{T:TypeId}{l:List Value}(h:Blk w b T l)(k:Nat) : w.cell? ⟨b,k,none⟩=l[k]?:=by
 unfold Blk at h
 simp [World.cell?,h]
theorem Blk.at{w:World}{b:Nat}{T:TypeId}{l:List Value}(h:Blk w b T l)(k:Nat) : At w ⟨b,k,none⟩ (l.drop k):=by
 intro j v hj
 rw [X1v,h.cell,← hj,List.getElem?_drop]
theorem Blk.below{w w':World}{b:Nat}{T:TypeId}{l:List Value}(h:Blk w b T l)(hb:Below w.heap.size w w') : Blk w' b T l:=(hb.block b h.lt).trans h
theorem Blk.only{w w':World}{b b':Nat}{T:TypeId}{l:List Value}(h:Blk w b T l)(ho:Only b' w w')(hne:b≠b') : Blk w' b T l:=(ho.block b hne).trans h
theorem Blk.drew{w:World}{b:Nat}{T:TypeId}{l:List Value}(h:Blk w b T l) : Blk w.drew b T l:=h
theorem Blk.ne{w:World}{b b':Nat}{T T':TypeId}{l l':List Value}(h:Blk w b T l)(h':Blk w b' T' l')(hT:Nat.beq T T'=false) : b≠b':=by
 rintro rfl
 unfold Blk at h h'
 rw [h] at h'
 injection h' with h'
 injection h' with _ e
 subst e
 simp at hT
theorem Below.only{B b:Nat}{w0 w w':World}(h:Below B w0 w)(ho:Only b w w')(hB:B≤b) : Below B w0 w':=
 h.trans ⟨ho.os,ho.tape,ho.output,by rw [ho.size];exact Qb _,fun k hk=>ho.block k (by omega)⟩
theorem At.only{w w':World}{b:Nat}{p:Addr}{l:List Value}(h:At w p l)(ho:Only b w w')(hne:p.block≠b) : At w' p l:=by
 intro j v hj
 rw [World.cell?_of_block (w:=w) (by rw [X71];exact ho.block _ hne)]
 exact h j v hj
def OneT(P:Program)(t:TypeId) : Prop:=∃ d,P.underlying t=some d∧(match d with|.struct _|.array _ _=>False|_=>True)
def AggT(P:Program)(t:TypeId)(n:Nat) : Prop:=(∃ d,P.underlying t=some d∧(match d with|.struct _|.array _ _=>True|_=>False))∧∃ i,P.info? t=some i∧i.size=n
def SizeT(P:Program)(t:TypeId)(n:Nat) : Prop:=∃ i,P.info? t=some i∧i.size=n
def ZeroT(P:Program)(t:TypeId)(z:Value) : Prop:=∃ i,P.info? t=some i∧i.zero=some z
def FieldT(P:Program)(T f k:Nat) : Prop:=∃ fs F i,P.underlying T=some (.struct fs)∧fs[f]? = some F∧F.offset=k∧P.info? F.type=some i∧(i.size==0)=false
def SliceT(P:Program)(T E:TypeId) : Prop:=P.underlying T=some (.slice E)
def FuncF (P : Program) (f : FuncId) : Prop := ∃ fn, P.funcs[f]? = some fn ∧ (fn.name == "runtime.NumGoroutine") = false ∧ fn.body.isNone = false
section
variable {P : Program} {w : World}
theorem run_sizeOf'{t n:Nat}(h:SizeT P t n)(w:World) : (sizeOf t).run P w=.ok n w:=by
 obtain ⟨i,h1,h2⟩:=h
 simp [sizeOf,typeInfo,h1,h2]
theorem Xax{t:TypeId}{z:Value}(h:ZeroT P t z)(w:World) : (zeroValue t).run P w=.ok z w:=by
 obtain ⟨i,h1,h2⟩:=h
 simp [zeroValue,typeInfo,h1,h2]
theorem X0v{t:TypeId}{d:TypeDesc}(h:P.underlying t=some d)(w:World) : (underlying t).run P w=.ok d w:=by simp [underlying,h]
theorem X4j{t:TypeId}(h:OneT P t)(w:World) : (isAgg t).run P w=.ok false w:=by
 obtain ⟨d,h1,h2⟩:=h
 cases d<;>simp_all [isAgg,underlying]
theorem X6v{t n:Nat}(h:AggT P t n)(w:World) : (isAgg t).run P w=.ok true w:=by
 obtain ⟨⟨d,h1,h2⟩,_⟩:=h
 cases d<;>simp_all [isAgg,underlying]
theorem X4c(p:Addr) : ∀ (l:List Value) (i:Nat) (acc:Array Value),(∀ j v,l[j]? = some v→w.cell? (p.add (i+j))=some v)→
  (loadCellsFrom p i l.length acc).run P w=.ok (acc++l.toArray) w
 | [],i,acc,_=>by simp [loadCellsFrom]
 | v::l,i,acc,h=>by
  have h0:=h 0 v rfl
  simp only [Nat.add_zero] at h0
  have ih:=X4c p l (i+1) (acc.push v) (fun j u hj=>by
   have:=h (j+1) u (by simpa using hj)
   rwa [show i+(j+1)=i+1+j from by omega] at this)
  simp [loadCellsFrom,load,Sem.run,h0,ih]
theorem X5g{t:TypeId}{p:Addr}{v:Value}{l:List Value}(h:OneT P t)(hc:At w p (v::l)) : (loadVar t p).run P w=.ok v w:=by
 have h0:=hc 0 v rfl
 have h1:p.add 0=p:=by simp [Addr.add]
 rw [h1] at h0
 simp [loadVar,X4j h,load,Sem.run,h0]
theorem X5h{t n:Nat}{p:Addr}{l:List Value}(h:AggT P t n)(hc:At w p l)(hn:l.length=n) : (loadVar t p).run P w=.ok (.agg l.toArray) w:=by
 subst hn
 have h1:=X4c (P:=P) (w:=w) p l 0 #[] (fun j v hj=>by rw [Nat.zero_add];exact hc j v hj)
 simp [loadVar,X6v h,run_sizeOf' h.2,loadCells,h1]
end
section
variable {P : Program} {a : Act} {w : World} {n : Nat} {e : Env} {ty : TypeId} {pos : String} {af : Array Edge} {g : Option (Nat × Bool)} {d : Option Tmp}
theorem Xnc{x:Operand}{v:Value}(hf:Fr a n e)(hx:ev e x=some v) : Ev P ⟨d,.move x,ty,pos,af,g⟩ a w v:=fun w' _=>by
 simp [execOp,hf.ev hx]
theorem X7{x:Operand}{v:Value}(hx:ev e x=some v) : EvW P ⟨d,.move x,ty,pos,af,g⟩ n e w v:=fun a hf=>Xnc hf hx
theorem Xir{x:Operand}{v:Value}(hf:Fr a n e)(hx:ev e x=some v) : Ev P ⟨d,.assign x,ty,pos,af,g⟩ a w v:=fun w' _=>by
 simp [execOp,hf.ev hx]
theorem X0i{x:Operand}{v:Value}(hx:ev e x=some v) : EvW P ⟨d,.assign x,ty,pos,af,g⟩ n e w v:=fun a hf=>Xir hf hx
theorem Xh3{c x y:Operand}{b:Bool}{v:Value}(hf:Fr a n e)(hc:ev e c=some (.bool b))(hx:ev e (if b then x else y)=some v) : Ev P ⟨d,.pick c x y,ty,pos,af,g⟩ a w v:=fun w' _=>by
 have h1:=hf.ev hc;have h2:=hf.ev hx
 cases b<;>simp_all [execOp,asBool]
theorem Xmd{c x y:Operand}{b:Bool}{v:Value}(hf:Fr a n e)(hc:ev e c=some (.bool b))(hb:b=true)(hx:ev e x=some v) : Ev P ⟨d,.pick c x y,ty,pos,af,g⟩ a w v:=by
 subst hb
 exact Xh3 hf hc hx
theorem Xe{c x y:Operand}{b:Bool}{v:Value}(hc:ev e c=some (.bool b))(hb:b=true)(hx:ev e x=some v) : EvW P ⟨d,.pick c x y,ty,pos,af,g⟩ n e w v:=fun a hf=>Xmd hf hc hb hx
theorem Xlg{c x y:Operand}{b:Bool}{v:Value}(hf:Fr a n e)(hc:ev e c=some (.bool b))(hb:b=false)(hx:ev e y=some v) : Ev P ⟨d,.pick c x y,ty,pos,af,g⟩ a w v:=by
 subst hb
 exact Xh3 hf hc hx
theorem Xc{c x y:Operand}{b:Bool}{v:Value}(hc:ev e c=some (.bool b))(hb:b=false)(hx:ev e y=some v) : EvW P ⟨d,.pick c x y,ty,pos,af,g⟩ n e w v:=fun a hf=>Xlg hf hc hb hx
theorem Xn0{t:TypeId}{x:Operand}{p:Addr}{v:Value}{l:List Value}(hf:Fr a n e)(hx:ev e x=some (.pointer (some p)))(h1:OneT P t)(hc:At w p (v::l)) : Ev P ⟨d,.load t x,ty,pos,af,g⟩ a w v:=fun w' hw=>by
 simp [execOp,hf.ev hx,Instr.loadAt,Instr.sureAddr,X5g h1 (hc.below hw)]
theorem X0{t:TypeId}{x:Operand}{p:Addr}{v:Value}{l:List Value}(hx:ev e x=some (.pointer (some p)))(h1:OneT P t)(hc:At w p (v::l)) : EvW P ⟨d,.load t x,ty,pos,af,g⟩ n e w v:=fun a hf=>Xn0 hf hx h1 hc
theorem Xkj{t k:Nat}{x:Operand}{p:Addr}{l:List Value}(hf:Fr a n e)(hx:ev e x=some (.pointer (some p)))(hA:AggT P t k)(hc:At w p l)(hl:l.length=k) : Ev P ⟨d,.load t x,ty,pos,af,g⟩ a w (.agg l.toArray):=fun w' hw=>by
 simp [execOp,hf.ev hx,Instr.loadAt,Instr.sureAddr,X5h hA (hc.below hw) hl]
theorem X09{t k:Nat}{x:Operand}{p:Addr}{l:List Value}(hx:ev e x=some (.pointer (some p)))(hA:AggT P t k)(hc:At w p l)(hl:l.length=k) : EvW P ⟨d,.load t x,ty,pos,af,g⟩ n e w (.agg l.toArray):=fun a hf=>Xkj hf hx hA hc hl
theorem Xjk{T f k:Nat}{x:Operand}{p:Addr}(hf:Fr a n e)(hx:ev e x=some (.pointer (some p)))(hF:FieldT P T f k) : Ev P ⟨d,.fieldAddr T x f,ty,pos,af,g⟩ a w (.pointer (some (p.add k))):=fun w' _=>by
 obtain ⟨fs,F,i,h1,h2,h3,h4,h5⟩:=hF;have h6:=run_sizeOf' ⟨i,h4,rfl⟩ w'
 simp [execOp,hf.ev hx,Instr.fieldAt,X0v h1,h2,Instr.sureAddr,fieldPlace,h6,h3]
 simp at h5
 simp [h5]
theorem Xim{T f k:Nat}{x:Operand}{b off m:Nat}(hf:Fr a n e)(hx:ev e x=some (.pointer (some ⟨b,off,none⟩)))(hF:FieldT P T f k)(hk:off+k=m) : Ev P ⟨d,.fieldAddr T x f,ty,pos,af,g⟩ a w (.pointer (some ⟨b,m,none⟩)):=by
 have:=Xjk (P:=P) (w:=w) (d:=d) (ty:=ty) (pos:=pos) (af:=af) (g:=g) hf hx hF
 rwa [X1v,hk] at this
theorem Xqh{T f k:Nat}{x:Operand}{b off m:Nat}(hx:ev e x=some (.pointer (some ⟨b,off,none⟩)))(hF:FieldT P T f k)(hk:off+k=m) : EvW P ⟨d,.fieldAddr T x f,ty,pos,af,g⟩ n e w (.pointer (some ⟨b,m,none⟩)):=fun a hf=>Xim hf hx hF hk
theorem Xfh{x:Operand}{k:Nat}{vs:List Value}{v:Value}(hf:Fr a n e)(hx:ev e x=some (.tuple vs.toArray))(hv:vs[k]? = some v) : Ev P ⟨d,.extract x k,ty,pos,af,g⟩ a w v:=fun w' _=>by
 simp [execOp,hf.ev hx,Instr.extract,hv]
theorem X1{x:Operand}{k:Nat}{vs:List Value}{v:Value}(hx:ev e x=some (.tuple vs.toArray))(hv:vs[k]? = some v) : EvW P ⟨d,.extract x k,ty,pos,af,g⟩ n e w v:=fun a hf=>Xfh hf hx hv
theorem Xuy{t:TypeId}{x:Operand}{b:Bool}(hf:Fr a n e)(hx:ev e x=some (.bool b)) : Ev P ⟨d,.unOp .not t x,ty,pos,af,g⟩ a w (.bool (!b)):=fun w' _=>by
 simp [execOp,hf.ev hx,Op.unary]
theorem X0o{t:TypeId}{x:Operand}{b:Bool}(hx:ev e x=some (.bool b)) : EvW P ⟨d,.unOp .not t x,ty,pos,af,g⟩ n e w (.bool (!b)):=fun a hf=>Xuy hf hx
theorem Xv9{t:TypeId}{x:Operand}{i:Int}(hf:Fr a n e)(hx:ev e x=some (.int .i64 i)) : Ev P ⟨d,.unOp .neg t x,ty,pos,af,g⟩ a w (.int .i64 (IntKind.i64.wrap (-i))):=fun w' _=>by
 simp [execOp,hf.ev hx,Op.unary,Op.intArith]
theorem X8g{t:TypeId}{x:Operand}{i:Int}(hx:ev e x=some (.int .i64 i)) : EvW P ⟨d,.unOp .neg t x,ty,pos,af,g⟩ n e w (.int .i64 (IntKind.i64.wrap (-i))):=fun a hf=>Xv9 hf hx
section
variable {t t' : TypeId} {x y : Operand} {i j : Int}
theorem Xk8(hf:Fr a n e)(hx:ev e x=some (.int .i64 i))(hy:ev e y=some (.int .i64 j)) : Ev P ⟨d,.binOp .add t x y t',ty,pos,af,g⟩ a w (.int .i64 (IntKind.i64.wrap (i+j))):=fun w' _=>by
 simp [execOp,hf.ev hx,hf.ev hy,eqGuard,binOp,Op.intArith]
theorem X2x(hx:ev e x=some (.int .i64 i))(hy:ev e y=some (.int .i64 j)) : EvW P ⟨d,.binOp .add t x y t',ty,pos,af,g⟩ n e w (.int .i64 (IntKind.i64.wrap (i+j))):=fun a hf=>Xk8 hf hx hy
theorem Xp7(hf:Fr a n e)(hx:ev e x=some (.int .i64 i))(hy:ev e y=some (.int .i64 j))(h1:-9223372036854775808≤i+j)(h2:i+j≤9223372036854775807) : Ev P ⟨d,.binOp .add t x y t',ty,pos,af,g⟩ a w (.int .i64 (i+j)):=by
 have h:=Xk8 (P:=P) (w:=w) (d:=d) (ty:=ty) (pos:=pos) (af:=af) (g:=g) (t:=t) (t':=t') hf hx hy
 rwa [IntWalk.i64_in _ ⟨h1,h2⟩] at h
theorem X03(hx:ev e x=some (.int .i64 i))(hy:ev e y=some (.int .i64 j))(h1:-9223372036854775808≤i+j)(h2:i+j≤9223372036854775807) : EvW P ⟨d,.binOp .add t x y t',ty,pos,af,g⟩ n e w (.int .i64 (i+j)):=fun a hf=>Xp7 hf hx hy h1 h2
theorem Xou(hf:Fr a n e)(hx:ev e x=some (.int .i64 i))(hy:ev e y=some (.int .i64 j))(h1:-9223372036854775808≤i-j)(h2:i-j≤9223372036854775807) : Ev P ⟨d,.binOp .sub t x y t',ty,pos,af,g⟩ a w (.int .i64 (i-j)):=by
 have h:Ev P ⟨d,.binOp .sub t x y t',ty,pos,af,g⟩ a w (.int .i64 (IntKind.i64.wrap (i-j))):=fun w' _=>by
  simp [execOp,hf.ev hx,hf.ev hy,eqGuard,binOp,Op.intArith]
 rwa [IntWalk.i64_in _ ⟨h1,h2⟩] at h
theorem X1m(hx:ev e x=some (.int .i64 i))(hy:ev e y=some (.int .i64 j))(h1:-9223372036854775808≤i-j)(h2:i-j≤9223372036854775807) : EvW P ⟨d,.binOp .sub t x y t',ty,pos,af,g⟩ n e w (.int .i64 (i-j)):=fun a hf=>Xou hf hx hy h1 h2
theorem Xuw(hf:Fr a n e)(hx:ev e x=some (.int .i64 i))(hy:ev e y=some (.int .i64 j)) : Ev P ⟨d,.binOp .sub t x y t',ty,pos,af,g⟩ a w (.int .i64 (IntKind.i64.wrap (i-j))):=fun w' _=>by
 simp [execOp,hf.ev hx,hf.ev hy,eqGuard,binOp,Op.intArith]
theorem X3t(hx:ev e x=some (.int .i64 i))(hy:ev e y=some (.int .i64 j)) : EvW P ⟨d,.binOp .sub t x y t',ty,pos,af,g⟩ n e w (.int .i64 (IntKind.i64.wrap (i-j))):=fun a hf=>Xuw hf hx hy
theorem Xvc(hf:Fr a n e)(hx:ev e x=some (.int .i64 i))(hy:ev e y=some (.int .i64 j)) : Ev P ⟨d,.binOp .mul t x y t',ty,pos,af,g⟩ a w (.int .i64 (IntKind.i64.wrap (i*j))):=fun w' _=>by
 simp [execOp,hf.ev hx,hf.ev hy,eqGuard,binOp,Op.intArith]
theorem X2v(hx:ev e x=some (.int .i64 i))(hy:ev e y=some (.int .i64 j)) : EvW P ⟨d,.binOp .mul t x y t',ty,pos,af,g⟩ n e w (.int .i64 (IntKind.i64.wrap (i*j))):=fun a hf=>Xvc hf hx hy
theorem Xst(hf:Fr a n e)(hx:ev e x=some (.int .i64 i))(hy:ev e y=some (.int .i64 j)) : Ev P ⟨d,.binOp .lss t x y t',ty,pos,af,g⟩ a w (.bool (decide (i<j))):=fun w' _=>by
 simp [execOp,hf.ev hx,hf.ev hy,eqGuard,binOp,Op.intCmp]
theorem X1h(hx:ev e x=some (.int .i64 i))(hy:ev e y=some (.int .i64 j)) : EvW P ⟨d,.binOp .lss t x y t',ty,pos,af,g⟩ n e w (.bool (decide (i<j))):=fun a hf=>Xst hf hx hy
theorem Xva(hf:Fr a n e)(hx:ev e x=some (.int .i64 i))(hy:ev e y=some (.int .i64 j)) : Ev P ⟨d,.binOp .leq t x y t',ty,pos,af,g⟩ a w (.bool (decide (i≤j))):=fun w' _=>by
 simp [execOp,hf.ev hx,hf.ev hy,eqGuard,binOp,Op.intCmp]
theorem Xat(hx:ev e x=some (.int .i64 i))(hy:ev e y=some (.int .i64 j)) : EvW P ⟨d,.binOp .leq t x y t',ty,pos,af,g⟩ n e w (.bool (decide (i≤j))):=fun a hf=>Xva hf hx hy
theorem Xun(hf:Fr a n e)(hx:ev e x=some (.int .i64 i))(hy:ev e y=some (.int .i64 j)) : Ev P ⟨d,.binOp .gtr t x y t',ty,pos,af,g⟩ a w (.bool (decide (j<i))):=fun w' _=>by
 simp [execOp,hf.ev hx,hf.ev hy,eqGuard,binOp,Op.intCmp]
theorem X72(hx:ev e x=some (.int .i64 i))(hy:ev e y=some (.int .i64 j)) : EvW P ⟨d,.binOp .gtr t x y t',ty,pos,af,g⟩ n e w (.bool (decide (j<i))):=fun a hf=>Xun hf hx hy
theorem Xv3(hf:Fr a n e)(hx:ev e x=some (.int .i64 i))(hy:ev e y=some (.int .i64 j)) : Ev P ⟨d,.binOp .geq t x y t',ty,pos,af,g⟩ a w (.bool (decide (j≤i))):=fun w' _=>by
 simp [execOp,hf.ev hx,hf.ev hy,eqGuard,binOp,Op.intCmp]
theorem Xdd(hx:ev e x=some (.int .i64 i))(hy:ev e y=some (.int .i64 j)) : EvW P ⟨d,.binOp .geq t x y t',ty,pos,af,g⟩ n e w (.bool (decide (j≤i))):=fun a hf=>Xv3 hf hx hy
theorem Xt0(hf:Fr a n e)(hx:ev e x=some (.int .i64 i))(hy:ev e y=some (.int .i64 j)) : Ev P ⟨d,.binOp .eql t x y t',ty,pos,af,g⟩ a w (.bool (i==j)):=fun w' _=>by
 simp [execOp,hf.ev hx,hf.ev hy,eqGuard,binOp,Op.intCmp]
theorem X1b(hx:ev e x=some (.int .i64 i))(hy:ev e y=some (.int .i64 j)) : EvW P ⟨d,.binOp .eql t x y t',ty,pos,af,g⟩ n e w (.bool (i==j)):=fun a hf=>Xt0 hf hx hy
theorem Xtl(hf:Fr a n e)(hx:ev e x=some (.int .i64 i))(hy:ev e y=some (.int .i64 j)) : Ev P ⟨d,.binOp .neq t x y t',ty,pos,af,g⟩ a w (.bool (i != j)):=fun w' _=>by
 simp [execOp,hf.ev hx,hf.ev hy,eqGuard,binOp,Op.intCmp]
theorem X4h(hx:ev e x=some (.int .i64 i))(hy:ev e y=some (.int .i64 j)) : EvW P ⟨d,.binOp .neq t x y t',ty,pos,af,g⟩ n e w (.bool (i != j)):=fun a hf=>Xtl hf hx hy
theorem Xvl(hf:Fr a n e)(hx:ev e x=some (.int .i64 i))(hy:ev e y=some (.int .i64 j)) : Ev P ⟨d,.binOp .and t x y t',ty,pos,af,g⟩ a w (.int .i64 (bits .and .i64 i j)):=fun w' _=>by
 simp [execOp,hf.ev hx,hf.ev hy,eqGuard,binOp,Op.intBits,bits]
theorem Xsh(hx:ev e x=some (.int .i64 i))(hy:ev e y=some (.int .i64 j)) : EvW P ⟨d,.binOp .and t x y t',ty,pos,af,g⟩ n e w (.int .i64 (bits .and .i64 i j)):=fun a hf=>Xvl hf hx hy
theorem Xum(hf:Fr a n e)(hx:ev e x=some (.int .i64 i))(hy:ev e y=some (.int .i64 j)) : Ev P ⟨d,.binOp .xor t x y t',ty,pos,af,g⟩ a w (.int .i64 (bits .xor .i64 i j)):=fun w' _=>by
 simp [execOp,hf.ev hx,hf.ev hy,eqGuard,binOp,Op.intBits,bits]
theorem Xkf(hx:ev e x=some (.int .i64 i))(hy:ev e y=some (.int .i64 j)) : EvW P ⟨d,.binOp .xor t x y t',ty,pos,af,g⟩ n e w (.int .i64 (bits .xor .i64 i j)):=fun a hf=>Xum hf hx hy
theorem X8i{b c:Bool}(ht:P.underlying t=some .bool)(k:Nat)(w:World) : (Op.equalIn (k+1) t (.bool b) (.bool c)).run P w=.ok (b==c) w:=by
 simp [Op.equalIn,X0v ht]
theorem Xqq{b c:Bool}(ht:P.underlying t=some .bool)(hf:Fr a n e)(hx:ev e x=some (.bool b))(hy:ev e y=some (.bool c)) : Ev P ⟨d,.binOp .neq t x y t',ty,pos,af,g⟩ a w (.bool (b != c)):=fun w' _=>by
 have h:=X8i (P:=P) (b:=b) (c:=c) ht 9999 w'
 simp [execOp,hf.ev hx,hf.ev hy,eqGuard,binOp,Op.equal,Op.maxDepth,h]
 cases b<;>cases c<;>rfl
theorem Xx6{b c:Bool}(ht:P.underlying t=some .bool)(hx:ev e x=some (.bool b))(hy:ev e y=some (.bool c)) : EvW P ⟨d,.binOp .neq t x y t',ty,pos,af,g⟩ n e w (.bool (b != c)):=fun a hf=>Xqq ht hf hx hy
theorem Xti{x:Operand}{T E:TypeId}{A:Option Addr}{m c:Nat}(hf:Fr a n e)(hx:ev e x=some (.slice A m c))(hT:SliceT P T E) : Ev P ⟨d,.call ⟨.builtin .len,#[x],#[T]⟩,ty,pos,af,g⟩ a w (.int .i64 (m:Int)):=fun w' _=>by
 have:=X0v (P:=P) hT w'
 simp [execOp,resolve,invoke,builtin,Builtin.len_,hf.ev hx,this,goInt]
theorem X2k{x:Operand}{T E:TypeId}{A:Option Addr}{m c:Nat}(hx:ev e x=some (.slice A m c))(hT:SliceT P T E) : EvW P ⟨d,.call ⟨.builtin .len,#[x],#[T]⟩,ty,pos,af,g⟩ n e w (.int .i64 (m:Int)):=fun a hf=>Xti hf hx hT
theorem Xev{k:FuncId}{cs:List Operand}{vs:List Value}(hf:Fr a n e)(hx:evs e cs=some vs) : Ev P ⟨d,.makeFunc (.func k) #[] cs.toArray,ty,pos,af,g⟩ a w (.func (.func k) #[] vs.toArray):=fun w' _=>by
 simp [execOp,Instr.makeFunc,hf.evs hx]
theorem X3z{k:FuncId}{cs:List Operand}{vs:List Value}(hx:evs e cs=some vs) : EvW P ⟨d,.makeFunc (.func k) #[] cs.toArray,ty,pos,af,g⟩ n e w (.func (.func k) #[] vs.toArray):=fun a hf=>Xev hf hx
end
end
section
variable {P : Program} {a : Act} {w : World} {n : Nat} {e : Env} {ty : TypeId} {pos : String} {af : Array Edge} {g : Option (Nat × Bool)} {d : Option Tmp}
def IsNew(w:World)(T:TypeId)(zs:List Value)(v:Value)(w':World) : Prop:=
 ∃ b,v=.pointer (some ⟨b,0,none⟩)∧w.heap.size≤b∧Below w.heap.size w w'∧Blk w' b T zs
theorem X4q(w:World)(T:TypeId)(zs:List Value) : Blk (w.alloc (.cells zs.toArray T)) w.heap.size T zs:=heap_alloc_new w _
theorem X91(w:World)(T:TypeId)(zs:List Value) : IsNew w T zs (.pointer (some ⟨w.heap.size,0,none⟩)) (w.alloc (.cells zs.toArray T)):=
 ⟨_,rfl,Qb _,(Below.refl _ _).alloc (Qb _) _,X4q w T zs⟩
theorem Xa1(T:TypeId)(v:Value)(w:World) : (newVar T v).run P w=.ok ⟨w.heap.size,0,none⟩ (w.alloc (.cells v.cells T)):=by
 simp [newVar,newRow,newObj,Sem.run]
theorem Xjr{T:TypeId}{z:Value}{zs:List Value}(hz:ZeroT P T z)(hzs:z.cells.toList=zs) : Ef P ⟨d,.alloc T,ty,pos,af,g⟩ a w (IsNew w T zs):=by
 subst hzs
 have h:(execOp a.eval ⟨d,.alloc T,ty,pos,af,g⟩).run P w=.ok (.value (.pointer (some ⟨w.heap.size,0,none⟩))) (w.alloc (.cells z.cells T)):=by
  simp [execOp,Instr.alloc,Xax hz,Xa1]
 refine (Ef.of_run h).mono fun v w' ⟨e1,e2⟩=>?_
 subst e1;subst e2
 have:=X91 w T z.cells.toList
 simpa using this
theorem X3{n:Nat}{e:List (Nat×Value)}{T:TypeId}{z:Value}{zs:List Value}(hz:ZeroT P T z)(hzs:z.cells.toList=zs) : EfW P ⟨d,.alloc T,ty,pos,af,g⟩ n e w (IsNew w T zs):=fun a _=>Xjr hz hzs
theorem Xu4{T:TypeId}{x:Operand}{v:Value}{zs:List Value}(hf:Fr a n e)(hx:ev e x=some v)(hzs:v.cells.toList=zs) : Ef P ⟨d,.box T x,ty,pos,af,g⟩ a w (IsNew w T zs):=by
 subst hzs
 have h:(execOp a.eval ⟨d,.box T x,ty,pos,af,g⟩).run P w=.ok (.value (.pointer (some ⟨w.heap.size,0,none⟩))) (w.alloc (.cells v.cells T)):=by
  simp [execOp,Instr.box,Xa1,hf.ev hx]
 refine (Ef.of_run h).mono fun v' w' ⟨e1,e2⟩=>?_
 subst e1;subst e2
 have:=X91 w T v.cells.toList
 simpa using this
theorem X0j{T:TypeId}{x:Operand}{v:Value}{zs:List Value}(hx:ev e x=some v)(hzs:v.cells.toList=zs) : EfW P ⟨d,.box T x,ty,pos,af,g⟩ n e w (IsNew w T zs):=fun a hf=>Xu4 hf hx hzs
def splice(l:List Value)(k:Nat)(vs:List Value) : List Value:=l.take k++vs++l.drop (k+vs.length)
def one:Value→Bool
 | .agg _=>false
 | .tuple _=>false
 | _=>true
theorem Xcf(w:World)(b k:Nat)(v:Value) : Only b w (w.setCell ⟨b,k,none⟩ v):=
 ⟨rfl,rfl,rfl,by simp [World.setCell],fun i hi=>Below.heap_setCell _ _ _ _ hi⟩
theorem Xep{T:TypeId}{l:List Value}{b:Nat}(h:Blk w b T l)(k:Nat)(v:Value) : Blk (w.setCell ⟨b,k,none⟩ v) b T (l.set k v):=by
 unfold Blk at h ⊢
 simp [World.setCell,Array.getElem?_modify,h]
theorem X5t{b off:Nat}{T:TypeId} : ∀ (vs:List Value) (w:World) (l:List Value) (i:Nat),Blk w b T l→off+i+vs.length≤l.length→vs.all one=true→
  ∃ w',(storeCells ⟨b,off,none⟩ vs i).run P w=.ok () w'∧Only b w w'∧Blk w' b T (splice l (off+i) vs)
 | [],w,l,i,hb,_,_=>⟨w,by simp [storeCells],Only.refl _ _,by simpa [splice] using hb⟩
 | v::vs,w,l,i,hb,hl,h1=>by
  simp only [List.all_cons,Qd,Qs] at h1 hl
  have hc:w.cell? ⟨b,off+i,none⟩=some (l[off+i]'(by omega)):=by rw [hb.cell];exact Qc (by omega)
  have hfz:w.frozen? ⟨b,off+i,none⟩=false:=by
   have:=hb
   unfold Blk at this
   simp [World.frozen?,this]
  obtain ⟨w',hr,ho,hb'⟩:=X5t (off:=off) vs (w.setCell ⟨b,off+i,none⟩ v) (l.set (off+i) v) (i+1) (Xep hb _ _) (by rw [List.length_set];omega) h1.2
  refine ⟨w',?_,(Xcf w b _ v).trans ho,?_⟩
  ·have h0:(store (⟨b,off+i,none⟩ : Addr) v).run P w=.ok () (w.setCell ⟨b,off+i,none⟩ v):=by
    have h2:=h1.1
    unfold one at h2
    split at h2
    ·cases h2
    ·cases h2
    ·rename_i hx1 hx2
     cases v<;>simp_all [store,Sem.run]
   simp only [storeCells,X1v]
   simp [h0,hr]
  ·have:splice (l.set (off+i) v) (off+(i+1)) vs=splice l (off+i) (v::vs):=by
    unfold splice
    have e1:off+(i+1)=off+i+1:=by omega
    rw [e1,Wf (by rw [List.length_set];omega),List.take_set_of_le (by omega),List.getElem_set_self,List.drop_set_of_lt (by omega)]
    simp only [Qs,Qx,Wa,List.nil_append]
    rw [show off+i+1+vs.length=off+i+(vs.length+1) from by omega]
   rw [this] at hb'
   exact hb'
def Stored(w:World)(b:Nat)(T:TypeId)(l:List Value)(_:Value)(w':World) : Prop:=Only b w w'∧Blk w' b T l
theorem Xdw{t T:TypeId}{x y:Operand}{b off k:Nat}{v:Value}{l l' vs:List Value}(hf:Fr a n e)(hx:ev e x=some (.pointer (some ⟨b,off,none⟩)))(hy:ev e y=some v)
  (hs:SizeT P t k) (hb:Blk w b T l) (hvs:v.cells.toList=vs) (hk:Nat.beq vs.length k=true) (h1:vs.all one=true) (hl:Nat.ble (off+k) l.length=true) (hl':splice l off vs=l') :
  Ef P ⟨d,.store t x y,ty,pos,af,g⟩ a w (Stored w b T l'):=by
 subst hl'
 have hk':vs.length=k:=Nat.eq_of_beq_eq_true hk
 have hll:off+k≤l.length:=Nat.le_of_ble_eq_true hl
 obtain ⟨w',hr,ho,hb'⟩:=X5t (P:=P) (b:=b) (off:=off) (T:=T) vs w l 0 hb (by omega) h1
 refine (Ef.of_skip (w':=w') ?_).mono fun v w1 ⟨_,e2⟩=>by subst e2;exact ⟨ho,by simpa using hb'⟩
 have hc:v.cells.size=k:=by rw [← hk',← hvs];simp
 simp [execOp,Instr.storeAt,Instr.sureAddr,hf.ev hx,hf.ev hy,storeVar,run_sizeOf' hs,hc,hvs,hr]
theorem X5q{t T:TypeId}{x y:Operand}{b off k:Nat}{v:Value}{l l' vs:List Value}(hx:ev e x=some (.pointer (some ⟨b,off,none⟩)))(hy:ev e y=some v)(hs:SizeT P t k)(hb:Blk w b T l)(hvs:v.cells.toList=vs)(hk:Nat.beq vs.length k=true)(h1:vs.all one=true)(hl:Nat.ble (off+k) l.length=true)(hl':splice l off vs=l') : EfW P ⟨d,.store t x y,ty,pos,af,g⟩ n e w (Stored w b T l'):=fun a hf=>Xdw hf hx hy hs hb hvs hk h1 hl hl'
def Ret(P:Program)(f:FuncId)(args:List Value)(w:World)(R:Value→World→Prop) : Prop:=Calls P f args.toArray w fun e w'=>∃ v,e=.returned v∧R v w'
theorem Ret.mono{f:FuncId}{args:List Value}{R R':Value→World→Prop}(h:Ret P f args w R)(hr:∀ v w',R v w'→R' v w') : Ret P f args w R':=
 Calls.mono h fun _ _ ⟨v,he,hR⟩=>⟨v,he,hr _ _ hR⟩
theorem X7y{f:FuncId}(hF:FuncF P f)(args:Array Value)(w:World) : (callFunc f args).run P w=.ok (.enter f args) w:=by
 obtain ⟨fn,h1,h2,h3⟩:=hF
 have h2' : ¬ fn.name = "runtime.NumGoroutine" := by simpa using h2
 have h3':¬ fn.body=none:=by intro hb;rw [hb] at h3;cases h3
 simp [callFunc,h1,h2',h3']
theorem Xpg{f:FuncId}{xs:List Operand}{vs:List Value}{ts:Array TypeId}{R:Value→World→Prop}(hf:Fr a n e)(hx:evs e xs=some vs)(hF:FuncF P f)(h:Ret P f vs w R) :
  Ef P ⟨d,.call ⟨.value (.func f),xs.toArray,ts⟩,ty,pos,af,g⟩ a w R:=by
 have hm:=hf.evs hx
 unfold Ef
 have hr:(execOp a.eval ⟨d,.call ⟨.value (.func f),xs.toArray,ts⟩,ty,pos,af,g⟩).run P w=.ok (.enter f vs.toArray) w:=by
  simp [execOp,resolve,Act.eval,Deferred.ofValue,invoke,hm,X7y hF]
 rw [hr]
 exact h
theorem X1d{f:FuncId}{xs:List Operand}{vs:List Value}{ts:Array TypeId}{R:Value→World→Prop}(hx:evs e xs=some vs)(hF:FuncF P f)(h:Ret P f vs w R) : EfW P ⟨d,.call ⟨.value (.func f),xs.toArray,ts⟩,ty,pos,af,g⟩ n e w R:=fun a hf=>Xpg hf hx hF h
theorem Xmj{f:FuncId}{x:Operand}{xs:List Operand}{vs cs:List Value}{ts:Array TypeId}{R:Value→World→Prop}(hf:Fr a n e)(hv:ev e x=some (.func (.func f) #[] cs.toArray))(hx:evs e xs=some vs)(hF:FuncF P f)(h:Ret P f (vs++cs) w R) :
  Ef P ⟨d,.call ⟨.value x,xs.toArray,ts⟩,ty,pos,af,g⟩ a w R:=by
 have hm:=hf.evs hx
 have hv':=hf.ev hv
 unfold Ef
 have hr:(execOp a.eval ⟨d,.call ⟨.value x,xs.toArray,ts⟩,ty,pos,af,g⟩).run P w=.ok (.enter f (vs++cs).toArray) w:=by
  simp [execOp,resolve,hv',Deferred.ofValue,invoke,hm,X7y hF]
 rw [hr]
 exact h
theorem X64{f:FuncId}{x:Operand}{xs:List Operand}{vs cs:List Value}{ts:Array TypeId}{R:Value→World→Prop}(hv:ev e x=some (.func (.func f) #[] cs.toArray))(hx:evs e xs=some vs)(hF:FuncF P f)(h:Ret P f (vs++cs) w R) : EfW P ⟨d,.call ⟨.value x,xs.toArray,ts⟩,ty,pos,af,g⟩ n e w R:=fun a hf=>Xmj hf hv hx hF h
end
section
variable {α : Type}
def Rd(w:World)(B:Nat)(E:TypeId)(enc:α→List Value)(A:Option Addr)(l:List α) : Prop:=
 l≠[]→∃ b off cs fz,A=some ⟨b,off,none⟩∧b<B∧w.heap[b]? = some (.cells cs E fz)∧∀ j v,(l.flatMap enc)[j]? = some v→cs[off+j]? = some v
theorem Rd.nil(w:World)(B:Nat)(E:TypeId)(enc:α→List Value)(A:Option Addr) : Rd w B E enc A []:=fun h=>absurd rfl h
theorem Rd.chg{w w':World}{B:Nat}{E:TypeId}{enc:α→List Value}{A:Option Addr}{l:List α}(h:Rd w B E enc A l)(hk:∀ b cs fz,b<B→w.heap[b]? = some (.cells cs E fz)→w'.heap[b]? = w.heap[b]?) : Rd w' B E enc A l:=fun hl=>by
 obtain ⟨b,off,cs,fz,h1,h2,h3,h4⟩:=h hl;exact ⟨b,off,cs,fz,h1,h2,(hk b cs fz h2 h3).trans h3,h4⟩
theorem Rd.more{w:World}{B B':Nat}{E:TypeId}{enc:α→List Value}{A:Option Addr}{l:List α}(h:Rd w B E enc A l)(hB:B≤B') : Rd w B' E enc A l:=fun hl=>by
 obtain ⟨b,off,cs,fz,h1,h2,h3,h4⟩:=h hl;exact ⟨b,off,cs,fz,h1,by omega,h3,h4⟩
theorem Rd.below{w w':World}{B:Nat}{E:TypeId}{enc:α→List Value}{A:Option Addr}{l:List α}(h:Rd w B E enc A l)(hb:Below w.heap.size w w') : Rd w' B E enc A l:=
 h.chg fun b _ _ _ hh=>hb.block b (by
  rcases W4 b w.heap.size with h'|h'
  ·exact h'
  ·rw [We h'] at hh;cases hh)
theorem Rd.below'{w w':World}{B:Nat}{E:TypeId}{enc:α→List Value}{A:Option Addr}{l:List α}(h:Rd w B E enc A l)(hb:Below B w w') : Rd w' B E enc A l:=
 h.chg fun b _ _ hB _=>hb.block b hB
theorem Rd.only{w w':World}{B b:Nat}{E:TypeId}{enc:α→List Value}{A:Option Addr}{l:List α}(h:Rd w B E enc A l)(ho:Only b w w')(hB:B≤b) : Rd w' B E enc A l:=
 h.chg fun k _ _ hk _=>ho.block k (by omega)
theorem Rd.onlyT{w w':World}{B b:Nat}{E T:TypeId}{lc:List Value}{enc:α→List Value}{A:Option Addr}{l:List α}(h:Rd w B E enc A l)(ho:Only b w w')(hb:Blk w b T lc)(hT:Nat.beq E T=false) : Rd w' B E enc A l:=
 h.chg fun k cs fz _ hh=>ho.block k (by
  rintro rfl
  unfold Blk at hb
  rw [hh] at hb
  injection hb with hb
  injection hb with _ e _
  subst e
  simp at hT)
theorem Rd.drew{w:World}{B:Nat}{E:TypeId}{enc:α→List Value}{A:Option Addr}{l:List α}(h:Rd w B E enc A l) : Rd w.drew B E enc A l:=h
theorem X79{enc:α→List Value}{sz:Nat}(hsz:∀ x,(enc x).length=sz) : ∀ (l:List α) (k:Nat) (x:α),l[k]? = some x→∀ j v,(enc x)[j]? = some v→(l.flatMap enc)[k*sz+j]? = some v
 | [],k,x,h=>by simp at h
 | y::l,0,x,h=>by
  intro j v hj
  obtain rfl:y=x:=by simpa using h
  simp only [Wc,Nat.zero_mul,Nat.zero_add]
  rw [List.getElem?_append_left (Qg.1 hj).1]
  exact hj
 | y::l,k+1,x,h=>by
  intro j v hj
  simp only [Wc]
  have h1:(k+1)*sz+j=sz+(k*sz+j):=by rw [Wb];omega
  rw [h1,W5 (by rw [hsz];omega),hsz,Nat.add_sub_cancel_left]
  exact X79 hsz l k x (by simpa using h) j v hj
theorem X0x{enc:α→List Value}{sz:Nat}(hsz:∀ x,(enc x).length=sz)(l:List α) : (l.flatMap enc).length=l.length*sz:=by
 induction l with
 | nil=>simp
 | cons x l ih=>simp only [Wc,Qh,hsz,ih,Qs,Wb];omega
theorem Rd.at{w:World}{B:Nat}{E:TypeId}{enc:α→List Value}{A:Option Addr}{l:List α}{sz:Nat}(hsz:∀ x,(enc x).length=sz)(h:Rd w B E enc A l){k:Nat}{x:α}(hk:l[k]? = some x) :
  ∃ p,A=some p∧At w (p.add (k*sz)) (enc x):=by
 have hl:l≠[]:=by rintro rfl;simp at hk
 obtain ⟨b,off,cs,fz,rfl,h2,h3,h4⟩:=h hl
 refine ⟨_,rfl,fun j v hj=>?_⟩
 rw [X1v,X1v]
 have:=h4 _ _ (X79 hsz l k x hk j v hj)
 simp only [World.cell?,h3]
 rw [Nat.add_assoc]
 simpa using this
theorem Rd.of_blk{w:World}{b:Nat}{E:TypeId}{enc:α→List Value}{l:List α}{cs:List Value}(h:Blk w b E cs)(hcs:l.flatMap enc=cs)(B:Nat)(hB:b<B) : Rd w B E enc (some ⟨b,0,none⟩) l:=fun _=>by
 subst hcs
 exact ⟨b,0,_,_,rfl,hB,h,fun j v hj=>by simpa using hj⟩
def Own(w:World)(B0:Nat)(E:TypeId)(sz:Nat)(enc:α→List Value)(A:Option Addr)(c:Nat)(l:List α) : Prop:=w.ownsRow B0 E sz (.slice A l.length c) l.length (l.flatMap enc)
theorem Own.rd{w:World}{B0:Nat}{E:TypeId}{sz:Nat}{enc:α→List Value}{A:Option Addr}{c:Nat}{l:List α}(h:Own w B0 E sz enc A c l) : Rd w w.heap.size E enc A l:=fun hl=>by
 rcases h.2 with ⟨h1,h2⟩|⟨g,cap,cur,h1,h2,h3,h4,h5,h6,h7⟩
 ·exact absurd (List.eq_nil_of_length_eq_zero h2) hl
 ·injection h1 with h1
  refine ⟨g,0,cur,_,h1,(Qp.1 h3).1,h3,fun j v hj=>?_⟩
  rw [← h7,List.getElem?_take] at hj
  split at hj
  ·simpa using hj
  ·cases hj
theorem Own.nil(w:World)(B0:Nat)(E:TypeId)(sz:Nat)(enc:α→List Value) : Own w B0 E sz enc none 0 []:=⟨by simp,.inl ⟨rfl,rfl⟩⟩
theorem Own.empty{w:World}{B0 b:Nat}{E:TypeId}{sz:Nat}{enc:α→List Value}(h:Blk w b E [])(hb:B0≤b) : Own w B0 E sz enc (some ⟨b,0,none⟩) 0 ([] : List α):=
 ⟨by simp,.inr ⟨b,0,#[],rfl,hb,h,Qb _,by simp [maxLen],by simp,by simp⟩⟩
theorem Own.of_blk{w:World}{B0 b:Nat}{E:TypeId}{sz:Nat}{enc:α→List Value}{l:List α}{cs:List Value}(h:Blk w b E cs)(hb:B0≤b)(hcs:l.flatMap enc=cs)(hsz:∀ x,(enc x).length=sz)(hm:l.length≤maxLen) : Own w B0 E sz enc (some ⟨b,0,none⟩) l.length l:=by
 subst hcs
 have hl:=X0x hsz l;exact ⟨hl,.inr ⟨b,l.length,_,rfl,hb,h,Qb _,hm,by simpa using hl,by simp only [List.toList_toArray];rw [← hl];exact List.take_length⟩⟩
theorem Own.below{w w':World}{B0:Nat}{E:TypeId}{sz:Nat}{enc:α→List Value}{A:Option Addr}{c:Nat}{l:List α}(h:Own w B0 E sz enc A c l)(hb:Below w.heap.size w w') : Own w' B0 E sz enc A c l:=by
 refine ⟨h.1,?_⟩
 rcases h.2 with h1|⟨g,cap,cur,h1,h2,h3,h4⟩
 ·exact .inl h1
 ·exact .inr ⟨g,cap,cur,h1,h2,(hb.block g (Qp.1 h3).1).trans h3,h4⟩
theorem Own.onlyT{w w':World}{B0 b:Nat}{E T:TypeId}{lc:List Value}{sz:Nat}{enc:α→List Value}{A:Option Addr}{c:Nat}{l:List α}(h:Own w B0 E sz enc A c l)(ho:Only b w w')(hb:Blk w b T lc)(hT:Nat.beq E T=false) : Own w' B0 E sz enc A c l:=by
 refine ⟨h.1,?_⟩
 rcases h.2 with h1|⟨g,cap,cur,h1,h2,h3,h4⟩
 ·exact .inl h1
 ·refine .inr ⟨g,cap,cur,h1,h2,(ho.block g ?_).trans h3,h4⟩
  rintro rfl
  unfold Blk at hb
  rw [h3] at hb
  injection hb with hb
  injection hb with _ e _
  subst e
  simp at hT
theorem Own.drew{w:World}{B0:Nat}{E:TypeId}{sz:Nat}{enc:α→List Value}{A:Option Addr}{c:Nat}{l:List α}(h:Own w B0 E sz enc A c l) : Own w.drew B0 E sz enc A c l:=h
theorem Own.block{w:World}{B0:Nat}{E:TypeId}{sz:Nat}{enc:α→List Value}{A:Option Addr}{c:Nat}{l:List α}(h:Own w B0 E sz enc A c l){k:Nat}(hk:(Value.slice A l.length c).ownBlock=some k) : B0≤k∧k<w.heap.size∧∃ cs fz,w.heap[k]? = some (.cells cs E fz):=by
 rcases h.2 with ⟨h1,_⟩|⟨g,cap,cur,h1,h2,h3,_⟩
 ·rw [h1] at hk;simp [Value.ownBlock] at hk
 ·rw [h1] at hk
  simp [Value.ownBlock] at hk
  subst hk
  exact ⟨h2,(Qp.1 h3).1,_,_,h3⟩
def Away(A:Option Addr)(b:Nat) : Prop:=∀ p,A=some p→p.block≠b
def AwayR(l:List α)(A:Option Addr)(b:Nat) : Prop:=l≠[]→Away A b
theorem Away.no(b:Nat) : Away none b:=fun p h=>by cases h
theorem Away.ne{g off b:Nat}(h:b≠g) : Away (some ⟨g,off,none⟩) b:=fun p hp=>by injection hp with hp;subst hp;exact Ne.symm h
theorem Rd.away{w:World}{B b:Nat}{E:TypeId}{enc:α→List Value}{A:Option Addr}{l:List α}(h:Rd w B E enc A l)(hl:w.heap.size≤b) : AwayR l A b:=fun hne p hp=>by
 obtain ⟨g,off,cs,fz,h1,h2,h3,h4⟩:=h hne
 rw [hp] at h1
 injection h1 with h1
 subst h1
 have:=(Qp.1 h3).1
 intro e
 simp only at e
 omega
theorem Own.away{w:World}{B0 b:Nat}{E:TypeId}{sz:Nat}{enc:α→List Value}{A:Option Addr}{c:Nat}{l:List α}(h:Own w B0 E sz enc A c l)(hl:w.heap.size≤b) : Away A b:=fun p hp=>by
 rcases h.2 with ⟨h1,_⟩|⟨g,cap,cur,h1,h2,h3,_⟩
 ·injection h1 with h1;rw [h1] at hp;cases hp
 ·injection h1 with h1
  rw [h1] at hp
  injection hp with hp
  subst hp
  have:=(Qp.1 h3).1
  intro e
  simp only at e
  omega
theorem Own.awayNew{w:World}{B0 b:Nat}{E:TypeId}{sz:Nat}{enc:α→List Value}{A:Option Addr}{c:Nat}{l:List α}(h:Own w B0 E sz enc A c l)(hl:b<B0) : Away A b:=fun p hp=>by
 rcases h.2 with ⟨h1,_⟩|⟨g,cap,cur,h1,h2,h3,_⟩
 ·injection h1 with h1;rw [h1] at hp;cases hp
 ·injection h1 with h1
  rw [h1] at hp
  injection hp with hp
  subst hp
  intro e
  simp only at e
  omega
theorem Away.r{l:List α}{A:Option Addr}{b:Nat}(h:Away A b) : AwayR l A b:=fun _=>h
theorem Rd.onlyA{w w':World}{B b:Nat}{E:TypeId}{enc:α→List Value}{A:Option Addr}{l:List α}(h:Rd w B E enc A l)(ho:Only b w w')(ha:AwayR l A b) : Rd w' B E enc A l:=fun hne=>by
 obtain ⟨g,off,cs,fz,h1,h2,h3,h4⟩:=h hne;exact ⟨g,off,cs,fz,h1,h2,(ho.block g (ha hne _ h1)).trans h3,h4⟩
theorem Own.onlyA{w w':World}{B0 b:Nat}{E:TypeId}{sz:Nat}{enc:α→List Value}{A:Option Addr}{c:Nat}{l:List α}(h:Own w B0 E sz enc A c l)(ho:Only b w w')(ha:Away A b) : Own w' B0 E sz enc A c l:=by
 refine ⟨h.1,?_⟩
 rcases h.2 with h1|⟨g,cap,cur,h1,h2,h3,h4⟩
 ·exact .inl h1
 ·injection h1 with h1 h1' h1''
  exact .inr ⟨g,cap,cur,by rw [h1,h1''],h2,(ho.block g (ha _ h1)).trans h3,h4⟩
def Appended(w:World)(B0:Nat)(E:TypeId)(sz:Nat)(enc:α→List Value)(A:Option Addr)(c:Nat)(l l2:List α)(v:Value)(w':World) : Prop:=
 ∃ A' c',v=.slice A' (l++l2).length c'∧Own w' B0 E sz enc A' c' (l++l2)∧w.grownBy w' (Value.slice A l.length c).ownBlock∧∀ b,b<w.heap.size→Away A b→Away A' b
theorem Blk.appT{w w':World}{b:Nat}{T:TypeId}{lc:List Value}{B0:Nat}{E:TypeId}{sz:Nat}{enc:α→List Value}{A:Option Addr}{c:Nat}{l:List α}(h:Blk w b T lc)(ho:Own w B0 E sz enc A c l)(hg:w.grownBy w' (Value.slice A l.length c).ownBlock)(hT:Nat.beq E T=false) : Blk w' b T lc:=by
 refine (hg.block b h.lt fun hk=>?_).trans h
 obtain ⟨_,_,cs,fz,h3⟩:=ho.block hk.symm
 unfold Blk at h
 rw [h3] at h
 injection h with h
 injection h with _ e _
 subst e
 simp at hT
theorem Blk.appB{w w':World}{b:Nat}{T:TypeId}{lc:List Value}{B0:Nat}{E:TypeId}{sz:Nat}{enc:α→List Value}{A:Option Addr}{c:Nat}{l:List α}(h:Blk w b T lc)(ho:Own w B0 E sz enc A c l)(hg:w.grownBy w' (Value.slice A l.length c).ownBlock)(hb:b<B0) : Blk w' b T lc:=
 (hg.block b h.lt fun hk=>by have:=(ho.block hk.symm).1;omega).trans h
theorem Blk.appA{w w':World}{b:Nat}{T:TypeId}{lc:List Value}{A:Option Addr}{n c:Nat}(h:Blk w b T lc)(hg:w.grownBy w' (Value.slice A n c).ownBlock)(ha:Away A b) : Blk w' b T lc:=by
 refine (hg.block b h.lt fun hk=>?_).trans h
 cases A with
 | none=>simp [Value.ownBlock] at hk
 | some q=>
  simp only [Value.ownBlock,Option.some.injEq] at hk
  exact ha q rfl hk.symm
theorem Rd.appT{β:Type}{w w':World}{B:Nat}{E':TypeId}{enc':β→List Value}{A':Option Addr}{l':List β}{B0:Nat}{E:TypeId}{sz:Nat}{enc:α→List Value}{A:Option Addr}{c:Nat}{l:List α}(h:Rd w B E' enc' A' l')(ho:Own w B0 E sz enc A c l)(hg:w.grownBy w' (Value.slice A l.length c).ownBlock)(hT:Nat.beq E E'=false) : Rd w' B E' enc' A' l':=
 h.chg fun k cs fz _ hh=>hg.block k (Qp.1 hh).1 fun hk=>by
  obtain ⟨_,_,cs',fz',h3⟩:=ho.block hk.symm
  rw [h3] at hh
  injection hh with hh
  injection hh with _ e _
  subst e
  simp at hT
theorem Rd.appB{β:Type}{w w':World}{B:Nat}{E':TypeId}{enc':β→List Value}{A':Option Addr}{l':List β}{B0:Nat}{E:TypeId}{sz:Nat}{enc:α→List Value}{A:Option Addr}{c:Nat}{l:List α}(h:Rd w B E' enc' A' l')(ho:Own w B0 E sz enc A c l)(hg:w.grownBy w' (Value.slice A l.length c).ownBlock)(hB:B≤B0) : Rd w' B E' enc' A' l':=
 h.chg fun k cs fz hk hh=>hg.block k (Qp.1 hh).1 fun hk'=>by have:=(ho.block hk'.symm).1;omega
theorem Own.appT{β:Type}{w w':World}{B1:Nat}{E':TypeId}{sz':Nat}{enc':β→List Value}{A':Option Addr}{c':Nat}{l':List β}{B0:Nat}{E:TypeId}{sz:Nat}{enc:α→List Value}{A:Option Addr}{c:Nat}{l:List α}(h:Own w B1 E' sz' enc' A' c' l')(ho:Own w B0 E sz enc A c l)(hg:w.grownBy w' (Value.slice A l.length c).ownBlock)(hT:Nat.beq E E'=false) : Own w' B1 E' sz' enc' A' c' l':=by
 refine ⟨h.1,?_⟩
 rcases h.2 with h1|⟨g,cap,cur,h1,h2,h3,h4⟩
 ·exact .inl h1
 ·refine .inr ⟨g,cap,cur,h1,h2,(hg.block g (Qp.1 h3).1 fun hk=>?_).trans h3,h4⟩
  obtain ⟨_,_,cs',fz',h5⟩:=ho.block hk.symm
  rw [h5] at h3
  injection h3 with h3
  injection h3 with _ e _
  subst e
  simp at hT
theorem Below.app{w0 w w':World}{B B0:Nat}{E:TypeId}{sz:Nat}{enc:α→List Value}{A:Option Addr}{c:Nat}{l:List α}(h:Below B w0 w)(ho:Own w B0 E sz enc A c l)(hg:w.grownBy w' (Value.slice A l.length c).ownBlock)(hB:B≤B0)(hs:B≤w.heap.size) : Below B w0 w':=
 h.grown hg hs fun k hk=>by have:=(ho.block hk).1;omega
def InfoT(P:Program)(E:TypeId)(sz bytes:Nat) : Prop:=∃ i z,P.info? E=some i∧i.zero=some z∧i.size=sz∧i.bytes=bytes∧z.cells.size=sz∧0<sz
section
variable {P : Program} {a : Act} {w : World} {n : Nat} {e : Env} {ty : TypeId} {pos : String} {af : Array Edge} {g : Option (Nat × Bool)} {d : Option Tmp}
theorem Xif{T E:TypeId}{sz bytes B B0:Nat}{x y:Operand}{enc:α→List Value}{A A2:Option Addr}{c c2:Nat}{l l2:List α}(hf:Fr a n e)(hx:ev e x=some (.slice A l.length c))(hy:ev e y=some (.slice A2 l2.length c2))
  (hT:SliceT P T E) (hi:InfoT P E sz bytes) (hsz:∀ x,(enc x).length=sz) (hone:∀ x,(enc x).all one=true) (ho:Own w B0 E sz enc A c l) (hr:Rd w B E enc A2 l2) (h63:l.length+l2.length≤maxLen) (hbytes:(l.length+l2.length)*bytes≤140737488355328) (hB0:B0≤w.heap.size) :
  Ef P ⟨d,.call ⟨.builtin .append,#[x,y],#[T,T]⟩,ty,pos,af,g⟩ a w (Appended w B0 E sz enc A c l l2):=by
 obtain ⟨i,z,hi1,hi2,hi3,hi4,hi5,hi6⟩:=hi
 by_cases hl2:l2=[]
 ·subst hl2
  have hrun:(Builtin.append_ #[T,T] ty #[.slice A l.length c,.slice A2 0 c2]).run P w=.ok (.slice A l.length c) w:=by
   rcases ho.2 with ⟨h1,h2⟩|⟨gg,cap,cur,h1,h2,h3,h4,h5,h6,h7⟩
   ·injection h1 with h1 h1' h1''
    subst h1
    cases A2<;>simp [Builtin.append_,X0v hT,sizeOf,typeInfo,hi1,Builtin.lenOf,Builtin.firstCells,loadCells,loadCellsFrom,h1',h1'']
   ·injection h1 with h1 _ h1''
    subst h1;subst h1''
    cases A2<;>simp [Builtin.append_,X0v hT,sizeOf,typeInfo,hi1,Builtin.lenOf,Builtin.firstCells,loadCells,loadCellsFrom,h4,storeCells]
  refine (Ef.of_run (v:=.slice A l.length c) (w':=w) ?_).mono fun v w' ⟨e1,e2⟩=>?_
  ·simp only [List.length_nil] at hy
   simp [execOp,resolve,invoke,builtin,hf.ev hx,hf.ev hy,hrun]
  ·subst e1;subst e2
   exact ⟨A,c,by simp,by simpa using ho,World.grownBy.refl w' _,fun _ _ h=>h⟩
 ·obtain ⟨b,off,cs,fz,rfl,h2,h3,h4⟩:=hr hl2;obtain ⟨v',w',hrun,hown,hg,_,hat⟩:=run_append_own_at (P:=P) w B0 T ty E i z sz bytes hT hi1 hi2 hi3 hi4 hi5 hi6 (.slice A l.length c) l.length (l.flatMap enc) ho ⟨b,off,none⟩ l2.length c2 (l2.flatMap enc) (X0x hsz l2)
   (fun j u hu=>by
    have:=h4 j u hu
    rw [X1v]
    simp [World.cell?,h3,this])
   (fun u hu=>by
    obtain ⟨x,_,hx⟩:=List.mem_flatMap.1 hu
    have:=W1.1 (hone x) u hx
    cases u<;>simp_all [Value.oneCell',one]) h63 hbytes hB0
  refine (Ef.of_run (v:=v') (w':=w') ?_).mono fun v w1 ⟨e1,e2⟩=>?_
  ·simp [execOp,resolve,invoke,builtin,hf.ev hx,hf.ev hy,hrun]
  ·subst e1;subst e2
   have hv:∃ A' c',v=.slice A' (l++l2).length c':=by
    rcases hown.2 with ⟨h1,h2⟩|⟨gg,cap,cur,h1,_⟩
    ·exact ⟨none,0,by rw [h1,Qh,h2]⟩
    ·exact ⟨_,_,by rw [h1,Qh]⟩
   obtain ⟨A',c',rfl⟩:=hv
   refine ⟨A',c',rfl,?_,hg,fun b hb ha p hp=>?_⟩
   rotate_left
   ·subst hp
    rcases hat with hat|hat
    ·cases A with
     | none=>simp [Value.ownBlock] at hat
     | some q=>
      simp only [Value.ownBlock,Option.some.injEq] at hat
      rw [hat]
      exact ha q rfl
    ·simp only [Value.ownBlock,Option.some.injEq] at hat
     rw [hat]
     omega
   unfold Own
   rw [Qh,List.flatMap_append]
   simpa [Qh] using hown
theorem X0q{T E:TypeId}{sz bytes B B0:Nat}{x y:Operand}{enc:α→List Value}{A A2:Option Addr}{c c2:Nat}{l l2:List α}(hx:ev e x=some (.slice A l.length c))(hy:ev e y=some (.slice A2 l2.length c2))(hT:SliceT P T E)(hi:InfoT P E sz bytes)(hsz:∀ x,(enc x).length=sz)(hone:∀ x,(enc x).all one=true)(ho:Own w B0 E sz enc A c l)(hr:Rd w B E enc A2 l2)(h63:l.length+l2.length≤maxLen)(hbytes:(l.length+l2.length)*bytes≤140737488355328)(hB0:B0≤w.heap.size) : EfW P ⟨d,.call ⟨.builtin .append,#[x,y],#[T,T]⟩,ty,pos,af,g⟩ n e w (Appended w B0 E sz enc A c l l2):=fun a hf=>Xif hf hx hy hT hi hsz hone ho hr h63 hbytes hB0
theorem X7k{T E:TypeId}{sz:Nat}{x y:Operand}{p:Addr}{c:Nat}{k:Nat}{i:Int}{m:Nat}(hf:Fr a n e)(hx:ev e x=some (.slice (some p) m c))(hy:ev e y=some (.int .i64 i))(hT:SliceT P T E)(hs:SizeT P E sz)
  (hi:i=(k:Int)) (hk:k<m) : Ev P ⟨d,.indexAddr T x y,ty,pos,af,g⟩ a w (.pointer (some (p.add (k*sz)))):=fun w' _=>by
 subst hi
 have h1:=X0v (P:=P) hT w';have h2:=run_sizeOf' hs w'
 have h3:((k:Int)<(m:Int))=True:=by simp;omega
 simp [execOp,Instr.indexAt,asIntOf,hf.ev hx,hf.ev hy,h1,h2,hk]
end
end
section
variable {P : Program} {Q : Exit → Act → World → Prop} {a : Act} {w : World} {n : Nat} {e : Env}
theorem Xl{c:Operand}{x y:Code}{b:Bool}(hf:Fr a n e)(hc:ev e c=some (.bool b))(ht:b=true→x.wp P Q a w)(he:b=false→y.wp P Q a w) : (Code.cond c x y).wp P Q a w:=
 wp_cond_split (hf.ev hc) ht he
theorem Xjx{c:Operand}{x y:Code}(hf:Fr a n e)(hc:ev e c=some (.bool true))(ht:x.wp P Q a w) : (Code.cond c x y).wp P Q a w:=wp_cond_true (hf.ev hc) ht
theorem X3i{c:Operand}{x y:Code}(hf:Fr a n e)(hc:ev e c=some (.bool false))(ht:y.wp P Q a w) : (Code.cond c x y).wp P Q a w:=wp_cond_false (hf.ev hc) ht
theorem X02{c:Code}(X:Act→World→Prop)(h:c.wp P (Exit.then X Q) a w)(hX:∀ a w,X a w→Q .normal a w) : c.wp P Q a w:=
 Code.wp_mono (fun e a w hq=>by cases e<;>first|exact hX _ _ hq|exact hq) h
theorem X07{σ:Type}{c:Code}(I:σ→Act→World→Prop)(μ:σ→Nat)(s:σ)(h0:I s a w)
  (round:∀ s a w,I s a w→c.wp P (Exit.then (fun a' w'=>∃ s',I s' a' w'∧μ s'<μ s) Q) a w) : (Code.loop c).wp P Q a w:=by
 intro b k cs
 have key:∀ n s a w,μ s=n→I s a w→∃ e a' w',Q e a' w'∧Arrives P (lone (b.at a (.code c::.inLoop c::k)) cs w) b k cs e a' w':=by
  intro n
  induction n using Nat.strongRecOn with
  | _ n ih=>
   intro s a w hn hI;obtain ⟨e,a₁,w₁,hq,harr⟩:=round s a w hI b (.inLoop c::k) cs
   cases e with
   | normal=>
    obtain ⟨s',hI₁,hlt⟩:=hq;obtain ⟨e₂,a₂,w₂,hq₂,harr₂⟩:=ih (μ s') (hn▸hlt) s' a₁ w₁ rfl hI₁;exact ⟨e₂,a₂,w₂,hq₂,.of_steps (Steps.trans harr (.one step_inLoop)) harr₂⟩
   | exit id=>exact ⟨_,a₁,w₁,hq,.pass (x:=.inLoop c) rfl (fun _ _=>.inl (by simp)) harr⟩
   | goto l=>exact ⟨_,a₁,w₁,hq,.pass (x:=.inLoop c) rfl (fun _ _=>.inl (by simp)) harr⟩
   | ret=>exact ⟨_,a₁,w₁,hq,.pass (x:=.inLoop c) rfl (fun _ _=>.inl (by simp)) harr⟩
   | panic ch=>exact ⟨_,a₁,w₁,hq,.pass (x:=.inLoop c) rfl (fun _ _=>.inl (by simp)) harr⟩
   | outgrown=>exact ⟨_,a₁,w₁,hq,.pass (x:=.inLoop c) rfl (fun _ _=>.inl (by simp)) harr⟩
 obtain ⟨e,a',w',hq,harr⟩:=key _ s a w rfl h0;exact ⟨e,a',w',hq,.of_steps (.one step_loop) harr⟩
def evp(e:Env) : List (Nat×Operand)→Option (List (Nat×Value))
 | []=>some []
 | (i,x)::l=>match ev e x,evp e l with
  | some v,some vs=>some ((i,v)::vs)
  | _,_=>none
theorem Fr.evp(hf:Fr a n e) : ∀ {l:List (Nat×Operand)} {vs:List (Nat×Value)},evp e l=some vs→l.map (fun p=>(p.1,a.eval p.2))=vs:=by
 intro l
 induction l with
 | nil=>intro vs h;simpa [YtckoekhjglafjaaGreatDoor.evp] using h
 | cons x l ih=>
  obtain ⟨i,x⟩:=x;intro vs h
  simp only [YtckoekhjglafjaaGreatDoor.evp] at h
  split at h
  ·rename_i v us h1 h2
   injection h with h
   subst h
   simp [hf.ev h1,ih h2]
  ·cases h
def numb:Nat→List Value→List (Nat×Value)
 | _,[]=>[]
 | k,v::l=>(k,v)::numb (k+1) l
section
variable {ty : TypeId} {pos : String} {af : Array Edge} {g : Option (Nat × Bool)} {d : Option Tmp}
theorem Xm6{T:TypeId}{parts:List (Nat×Operand)}{ps:List (Nat×Value)}{cs:List Value}(hf:Fr a n e)(hp:evp e parts=some ps)(hb:∀ w,(Instr.build T ps.toArray).run P w=.ok (.agg cs.toArray) w) :
  Ev P ⟨d,.build T parts.toArray,ty,pos,af,g⟩ a w (.agg cs.toArray):=fun w' _=>by
 have h1:=hf.evp hp;have h2:=hb w'
 simp only [execOp,List.map_toArray]
 rw [show (List.map (fun x:Nat×Operand=>match x with|(i,x)=>(i,a.eval x)) parts)=ps from h1]
 simp [h2]
theorem Xg{T:TypeId}{parts:List (Nat×Operand)}{ps:List (Nat×Value)}{cs:List Value}(hp:evp e parts=some ps)(hb:∀ w,(Instr.build T ps.toArray).run P w=.ok (.agg cs.toArray) w) : EvW P ⟨d,.build T parts.toArray,ty,pos,af,g⟩ n e w (.agg cs.toArray):=fun a hf=>Xm6 hf hp hb
theorem Xbu(off:Nat) : ∀ (l:List Value) (m:Nat) (cs:Array Value),off+m+l.length≤cs.size→((l.zipIdx m).foldl (fun cs p=>cs.setIfInBounds (off+p.2) p.1) cs).toList=splice cs.toList (off+m) l
 | [],m,cs,_=>by simp [splice]
 | v::l,m,cs,h=>by
  simp only [Qs] at h
  simp only [List.zipIdx_cons,List.foldl_cons]
  rw [Xbu off l (m+1) _ (by simp;omega)]
  unfold splice
  have e1:off+(m+1)=off+m+1:=by omega
  rw [e1,Array.toList_setIfInBounds,Wf (by simp;omega),List.take_set_of_le (by omega),List.getElem_set_self,List.drop_set_of_lt (by omega)]
  simp only [Qs,Qx,Wa,List.nil_append]
  rw [show off+m+1+l.length=off+m+(l.length+1) from by omega]
theorem Xbo(sz:Nat) : ∀ (vs:List Value) (k:Nat) (cells:Array Value),(∀ v ∈ vs,v.cells.size=sz)→cells.size=(k+vs.length)*sz→
  Instr.fill (fun i=>some (i*sz,sz)) cells (numb k vs)=some (cells.toList.take (k*sz)++vs.flatMap fun v=>v.cells.toList).toArray
 | [],k,cells,_,h=>by
  simp only [List.length_nil,Nat.add_zero] at h
  have h9:cells.toList.take (k*sz)=cells.toList:=Qi (by simp [h])
  simp [numb,Instr.fill,h9]
 | v::vs,k,cells,h1,h=>by
  have hv:=h1 v (by simp)
  simp only [Qs] at h
  have h2:k*sz+sz≤cells.size:=by rw [h,Wb,Wb];omega
  simp only [numb,Instr.fill,hv]
  rw [Q3 (by simp;omega)]
  have e1:(v.cells.zipIdx.foldl (fun cs (p:Value×Nat)=>cs.setIfInBounds (k*sz+p.2) p.1) cells).toList=splice cells.toList (k*sz) v.cells.toList:=by
   have:=Xbu (k*sz) v.cells.toList 0 cells (by simp [hv];omega)
   rw [← Array.foldl_toList,Array.toList_zipIdx]
   simpa using this
  have hs:(v.cells.zipIdx.foldl (fun cs (p:Value×Nat)=>cs.setIfInBounds (k*sz+p.2) p.1) cells).size=cells.size:=by
   rw [← Array.length_toList,e1]
   simp [splice,hv]
   omega
  have ih:=Xbo sz vs (k+1) (v.cells.zipIdx.foldl (fun cs (p:Value×Nat)=>cs.setIfInBounds (k*sz+p.2) p.1) cells) (fun u hu=>h1 u (by simp [hu])) (by rw [hs,h];congr 1;omega)
  refine Eq.trans ih ?_
  rw [e1]
  congr 2
  simp only [Wc]
  rw [← Qx]
  congr 1
  unfold splice
  have e2:(cells.toList.take (k*sz)++v.cells.toList).length=(k+1)*sz:=by simp [hv,Wb];omega
  rw [← e2,List.take_left]
theorem Xau{T E sz bytes:Nat}{k:Nat}{parts:List (Nat×Operand)}{vs zs:List Value}(hf:Fr a n e)(hp:evp e parts=some (numb 0 vs))(hT:SliceT P T E)(hi:InfoT P E sz bytes)(hv:(vs.all (fun v=>Nat.beq v.cells.size sz)&&Nat.beq vs.length k&&Nat.ble (k*sz) 1000)=true)(hz:vs.flatMap (fun v=>v.cells.toList)=zs) :
  Ef P ⟨d,.buildSlice T k parts.toArray,ty,pos,af,g⟩ a w (fun v w'=>∃ b,v=.slice (some ⟨b,0,none⟩) k k∧w.heap.size≤b∧Below w.heap.size w w'∧Blk w' b E zs):=by
 subst hz
 obtain ⟨i,z,hi1,hi2,hi3,hi4,hi5,hi6⟩:=hi
 simp only [Qd,W1] at hv
 obtain ⟨⟨hv1,hv2⟩,hv3⟩:=hv
 have hk:vs.length=k:=Nat.eq_of_beq_eq_true hv2
 have hk3:k*sz≤1000:=Nat.le_of_ble_eq_true hv3
 have h1:=hf.evp hp
 have hfill:=Xbo sz vs 0 ((Array.range (k*sz)).map fun j=>z.cells[j % z.cells.size]!) (fun v hv=>Nat.eq_of_beq_eq_true (hv1 v hv)) (by simp [hk])
 simp only [Nat.zero_mul,List.take_zero,List.nil_append] at hfill
 refine (Ef.of_run (v:=.slice (some ⟨w.heap.size,0,none⟩) k k) (w':=w.alloc (.cells (vs.flatMap fun v=>v.cells.toList).toArray E)) ?_).mono fun v w' ⟨e1,e2⟩=>?_
 ·simp only [execOp,List.map_toArray]
  rw [show (List.map (fun x:Nat×Operand=>match x with|(i,x)=>(i,a.eval x)) parts)=numb 0 vs from h1]
  have h24:¬ (16777216<k*sz):=by omega
  by_cases h0:k*sz=0
  ·have hf0:Instr.fill (fun i=>some (i*sz,sz)) #[] (numb 0 vs)=some (vs.flatMap fun v=>v.cells.toList).toArray:=by
    rw [← hfill,h0]
    congr 1
    simp [Array.range_zero']
   simp [Instr.buildSlice,X0v hT,sizeOf,typeInfo,hi1,hi3,h0,newRow,newObj,Sem.run,Array.range_zero',hf0]
  ·simp [Instr.buildSlice,X0v hT,sizeOf,typeInfo,hi1,hi3,h24,h0,zeroValue,hi2,newRow,newObj,Sem.run,hfill]
 ·subst e1;subst e2
  exact ⟨_,rfl,Qb _,(Below.refl _ _).alloc (Qb _) _,X4q w E _⟩
theorem Xb{T E sz bytes:Nat}{k:Nat}{parts:List (Nat×Operand)}{vs zs:List Value}(hp:evp e parts=some (numb 0 vs))(hT:SliceT P T E)(hi:InfoT P E sz bytes)(hv:(vs.all (fun v=>Nat.beq v.cells.size sz)&&Nat.beq vs.length k&&Nat.ble (k*sz) 1000)=true)(hz:vs.flatMap (fun v=>v.cells.toList)=zs) : EfW P ⟨d,.buildSlice T k parts.toArray,ty,pos,af,g⟩ n e w (fun v w'=>∃ b,v=.slice (some ⟨b,0,none⟩) k k∧w.heap.size≤b∧Below w.heap.size w w'∧Blk w' b E zs):=fun a hf=>Xau hf hp hT hi hv hz
theorem Xut{x y:Operand}{i j:Int}{ts:Array TypeId}(hf:Fr a n e)(hx:ev e x=some (.int .i64 i))(hy:ev e y=some (.int .i64 j)) : Ev P ⟨d,.call ⟨.builtin .max,#[x,y],ts⟩,ty,pos,af,g⟩ a w (.int .i64 (max i j)):=fun w' _=>by
 simp [execOp,resolve,invoke,builtin,Builtin.max_,Builtin.max2,hf.ev hx,hf.ev hy,Int.max_def]
 split<;>simp<;>omega
theorem Xur{x y:Operand}{i j:Int}{ts:Array TypeId}(hx:ev e x=some (.int .i64 i))(hy:ev e y=some (.int .i64 j)) : EvW P ⟨d,.call ⟨.builtin .max,#[x,y],ts⟩,ty,pos,af,g⟩ n e w (.int .i64 (max i j)):=fun a hf=>Xut hf hx hy
end
theorem X2{t:Nat}{e:Env}{b b':Bool}(h:look t e=some (.bool b))(hb:b=b') : look t e=some (.bool b'):=hb▸h
theorem Xw{α:Type}{l:List α}{k:Nat}(h:k<l.length) : ∃ u,l[k]? = some u:=⟨l[k],Qc h⟩
section
variable {α : Type} {ops : Array Oper} {rest : List Oper} {ty : TypeId} {pos : String} {af : Array Edge} {g : Option (Nat × Bool)} {d : Nat}
theorem Rd.top{B:Nat}{E:TypeId}{enc:α→List Value}{A:Option Addr}{l:List α}(h:Rd w B E enc A l) : Rd w w.heap.size E enc A l:=fun hl=>by
 obtain ⟨b,off,cs,fz,h1,h2,h3,h4⟩:=h hl;exact ⟨b,off,cs,fz,h1,(Qp.1 h3).1,h3,h4⟩
theorem Xns{T E E2:TypeId}{sz B:Nat}{x y:Operand}{enc:α→List Value}{A:Option Addr}{c:Nat}{l:List α}{k:Nat}{i:Int}{u:α}(hf:Fr a n e)(hw:Want ops ⟨some d,.indexAddr T x y,ty,pos,af,g⟩ e)(hn:Nat.blt d n=true)
  (hx:ev e x=some (.slice A l.length c)) (hy:ev e y=some (.int .i64 i)) (hT:SliceT P T E) (hs:SizeT P E sz) (hsz:∀ x,(enc x).length=sz) (hr:Rd w B E2 enc A l) (hk:l[k]? = some u) (hi:i=(k:Int))
  (h:∀ a' p,At w p (enc u)→Fr a' n ((d,.pointer (some p))::e)→wpList P ops Q rest a' w) : wpList P ops Q (⟨some d,.indexAddr T x y,ty,pos,af,g⟩::rest) a w:=by
 obtain ⟨p,rfl,hat⟩:=hr.at hsz hk;exact Xsa hf hw rfl hn (X7k hf hx hy hT hs hi (Qg.1 hk).1) fun a' hf'=>h a' _ hat hf'
theorem Xpn{Q:Act→World→Prop}{tl:Nat→Bool}{fuel:Nat}{done:List Nat}{T E E2:TypeId}{sz B:Nat}{x y:Operand}{enc:α→List Value}{A:Option Addr}{c:Nat}{l:List α}{k:Nat}{i:Int}{u:α}(j:Nat)
  (ho:ops[j]? = some ⟨some d,.indexAddr T x y,ty,pos,af,g⟩) (hm:mayFirst ops done j=true) (ht:tailWaits ops tl j=true) (hf:Fr a n e) (hw:Want ops ⟨some d,.indexAddr T x y,ty,pos,af,g⟩ e) (hn:Nat.blt d n=true)
  (hx:ev e x=some (.slice A l.length c)) (hy:ev e y=some (.int .i64 i)) (hT:SliceT P T E) (hs:SizeT P E sz) (hsz:∀ x,(enc x).length=sz) (hr:Rd w B E2 enc A l) (hk:l[k]? = some u) (hi:i=(k:Int))
  (h:∀ a' p,At w p (enc u)→Fr a' n ((d,.pointer (some p))::e)→wpS P ops none tl Q fuel (mask ops (j::done)) a' w) : wpS P ops none tl Q (fuel+1) (mask ops done) a w:=by
 obtain ⟨p,rfl,hat⟩:=hr.at hsz hk;exact Xse j ho hm ht hf hw rfl hn (X7k hf hx hy hT hs hi (Qg.1 hk).1) fun a' hf'=>h a' _ hat hf'
end
theorem Xf{K:Act→World→Prop}(h:Q .ret a w) : Exit.then K Q .ret a w:=h
theorem X05{id:Nat}(h:Q .ret a w) : Exit.inBlock id Q .ret a w:=by simp [Exit.inBlock,h]
theorem Xn{id:Nat}(h:Q .normal a w) : Exit.inBlock id Q .normal a w:=by simp [Exit.inBlock,h]
theorem Xm{K:Act→World→Prop}{id:Nat}(h:Q (.exit id) a w) : Exit.then K Q (.exit id) a w:=h
theorem Xo{K:Act→World→Prop}(h:K a w) : Exit.then K Q .normal a w:=h
theorem X08{id:Nat}(h:Q .normal a w) : Exit.inBlock id Q (.exit id) a w:=by simp [Exit.inBlock,h]
def ResV(P:Program)(w:World)(e:Env) : ResultVar→Value→Prop
 | .tmp t,v=>look t e=some v
 | .cell t T,v=>∃ p,look t e=some (.pointer (some p))∧((OneT P T∧∃ l,At w p (v::l))∨∃ k l,AggT P T k∧At w p l∧l.length=k∧v=.agg l.toArray)
theorem ResV.cellN{t T k:Nat}{p:Addr}{l:List Value}(h:look t e=some (.pointer (some p)))(hA:AggT P T k)(hc:At w p l)(hl:l.length=k) : ResV P w e (.cell t T) (.agg l.toArray):=⟨p,h,.inr ⟨k,l,hA,hc,hl,rfl⟩⟩
theorem X6y(fn:Func)(tmps:Array Value) : ∃ f:ResultVar→Sem Value,(∀ t,f (.tmp t)=pure (tmps.getD t undef))∧(∀ t T,f (.cell t T)=(do loadVar T (← asAddr (tmps.getD t undef))))∧
  results fn tmps=(do let vs ← fn.results.mapM f;pure (if h:vs.size=1 then vs[0] else .tuple vs)):=⟨_,fun _=>rfl,fun _ _=>rfl,rfl⟩
theorem ResV.run{r:ResultVar}{v:Value}{f:ResultVar→Sem Value}(hf:Fr a n e)(h:ResV P w e r v)(f1:∀ t,f (.tmp t)=pure (a.tmps.getD t undef))(f2:∀ t T,f (.cell t T)=(do loadVar T (← asAddr (a.tmps.getD t undef)))) : (f r).run P w=.ok v w:=by
 cases r with
 | tmp t=>
  have:=hf.h _ _ h
  simp [f1,this]
 | cell t T=>
  obtain ⟨p,h1,h2⟩:=h;have h3:=hf.h _ _ h1
  rcases h2 with ⟨h4,l,h5⟩|⟨k,l,h4,h5,h6,rfl⟩
  ·simp [f2,h3,asAddr,X5g h4 h5]
  ·simp [f2,h3,asAddr,X5h h4 h5 h6]
section
variable {fn : Func} {R : Ending → World → Prop}
theorem Xx{r:ResultVar}{v:Value}(hf:Fr a n e)(hr:fn.results = #[r])(h:ResV P w e r v) : (results fn a.tmps).run P w=.ok v w:=by
 obtain ⟨f,f1,f2,h0⟩:=X6y fn a.tmps;have h1:=h.run hf f1 f2
 rw [h0,hr]
 simp [h1]
theorem X0r{r1 r2:ResultVar}{v1 v2:Value}(hf:Fr a n e)(hr:fn.results = #[r1,r2])(h1:ResV P w e r1 v1)(h2:ResV P w e r2 v2) : (results fn a.tmps).run P w=.ok (.tuple #[v1,v2]) w:=by
 obtain ⟨f,f1,f2,h0⟩:=X6y fn a.tmps;have h1:=h1.run hf f1 f2;have h2:=h2.run hf f1 f2
 rw [h0,hr]
 simp [h1,h2]
theorem Xnk{r1 r2 r3:ResultVar}{v1 v2 v3:Value}(hf:Fr a n e)(hr:fn.results = #[r1,r2,r3])(h1:ResV P w e r1 v1)(h2:ResV P w e r2 v2)(h3:ResV P w e r3 v3) : (results fn a.tmps).run P w=.ok (.tuple #[v1,v2,v3]) w:=by
 obtain ⟨f,f1,f2,h0⟩:=X6y fn a.tmps;have h1:=h1.run hf f1 f2;have h2:=h2.run hf f1 f2;have h3:=h3.run hf f1 f2
 rw [h0,hr]
 simp [h1,h2,h3]
theorem X4{v:Value}{R':Value→World→Prop}(hf:Fr a n e)(hr:(results fn a.tmps).run P w=.ok v w)(h:R' v w) : bodyPost P fn (fun e w'=>∃ v,e=.returned v∧R' v w') .ret a w:=⟨hf.d,v,hr,v,rfl,h⟩
end
theorem enter{f:FuncId}{fn:Func}{c:Code}{args:List Value}{R:Value→World→Prop}(hf:P.funcs[f]? = some fn)(hb:fn.body=some c)(n:Nat)(hn:fn.ntmps=n)(hl:Nat.ble args.length n=true)
  (h:∀ a,Fr a n (zipFrom 0 args)→c.wp P (bodyPost P fn (fun e w'=>∃ v,e=.returned v∧R v w')) a w) : Ret P f args w R:=Xjj hf hb n hn hl h
end
section
variable {P : Program} {ops : Array Oper} {Q : Exit → Act → World → Prop} {w : World} {rest : List Oper} {o : Oper} {op : Op} {ty : TypeId} {pos : String} {af : Array Edge} {g : Option (Nat × Bool)} {n d : Nat} {e : Env} {v : Value} {R : Value → World → Prop} {x : Operand}
def WL(P:Program)(ops:Array Oper)(Q:Exit→Act→World→Prop)(l:List Oper)(n:Nat)(e:Env)(w:World) : Prop:=∀ a,Fr a n e→wpList P ops Q l a w
theorem bs:(∀ b,(true&&b)=b)∧(∀ b,(false&&b)=false)∧(∀ b,(true||b)=true)∧∀ b,(false||b)=b:=⟨fun _=>rfl,fun _=>rfl,fun _=>rfl,fun _=>rfl⟩
theorem Vc{f:FuncId}{xs:List Operand}{vs:List Value}{ts:Array TypeId}{D:Option Tmp}(h:Ret P f vs w R)(hF:FuncF P f)(hx:evs e xs=some vs:=by rfl) : EfW P ⟨D,.call ⟨.value (.func f),xs.toArray,ts⟩,ty,pos,af,g⟩ n e w R:=X1d hx hF h
theorem Vn{T t k b:Nat}{l:List Value}{D:Option Tmp}(hA:AggT P t k)(hb:Blk w b T l)(hx:ev e x=some (.pointer (some ⟨b,0,none⟩)):=by rfl)(hl:l.length=k:=by rfl) : EvW P ⟨D,.load t x,ty,pos,af,g⟩ n e w (.agg l.toArray):=X09 hx hA (hb.at 0) hl
theorem Vd{T f k b off:Nat}{D:Option Tmp}(hx:ev e x=some (.pointer (some ⟨b,off,none⟩)))(hF:FieldT P T f k)(m:Nat)(hk:off+k=m:=by rfl) : EvW P ⟨D,.fieldAddr T x f,ty,pos,af,g⟩ n e w (.pointer (some ⟨b,m,none⟩)):=Xqh hx hF hk
theorem Vu{t T:TypeId}{y:Operand}{b off k:Nat}{l l' vs:List Value}{D:Option Tmp}(hx:ev e x=some (.pointer (some ⟨b,off,none⟩)))(hy:ev e y=some v)(hs:SizeT P t k)(hb:Blk w b T l)(hvs:v.cells.toList=vs:=by rfl)(hk:Nat.beq vs.length k=true:=by rfl)(h1:vs.all one=true:=by rfl)(hl:Nat.ble (off+k) l.length=true:=by rfl)(hl':splice l off vs=l':=by rfl) : EfW P ⟨D,.store t x y,ty,pos,af,g⟩ n e w (Stored w b T l'):=X5q hx hy hs hb hvs hk h1 hl hl'
theorem Vw{t T:TypeId}{y:Operand}{b k:Nat}{l:List Value}{D:Option Tmp}(vs:List Value)(hs:SizeT P t k)(hb:Blk w b T l)(hx:ev e x=some (.pointer (some ⟨b,0,none⟩)):=by rfl)(hy:ev e y=some v:=by rfl)(hvs:v.cells.toList=vs:=by rfl)(hk:Nat.beq vs.length k=true:=by rfl)(h1:vs.all one=true:=by rfl)(hl:Nat.ble (0+k) l.length=true:=by rfl)(hl':splice l 0 vs=vs:=by rfl) : EfW P ⟨D,.store t x y,ty,pos,af,g⟩ n e w (Stored w b T vs):=X5q hx hy hs hb hvs hk h1 hl hl'
theorem Ze(hr:EvW P ⟨some d,op,ty,pos,af,none⟩ n e w v)(h:WL P ops Q rest n ((d,v)::e) w)(hn:Nat.blt d n=true:=by rfl) : WL P ops Q (⟨some d,op,ty,pos,af,none⟩::rest) n e w:=fun a hf=>l_e hf hn (hr a hf) h
theorem Zm(hx:ev e x=some v)(h:WL P ops Q rest n ((d,v)::e) w)(hn:Nat.blt d n=true:=by rfl) : WL P ops Q (⟨some d,.move x,ty,pos,af,none⟩::rest) n e w:=fun _ hf=>Y07 hf hx hn h
theorem Za(hx:ev e x=some v)(h:WL P ops Q rest n ((d,v)::e) w)(hn:Nat.blt d n=true:=by rfl) : WL P ops Q (⟨some d,.assign x,ty,pos,af,none⟩::rest) n e w:=fun _ hf=>Xzj hf hx hn h
theorem Zf(hr:EfW P ⟨some d,op,ty,pos,af,none⟩ n e w R)(h:∀ v w',R v w'→WL P ops Q rest n ((d,v)::e) w')(hn:Nat.blt d n=true:=by rfl) : WL P ops Q (⟨some d,op,ty,pos,af,none⟩::rest) n e w:=fun a hf=>l_f hf hn (hr a hf) fun a' v w' hR hf'=>h v w' hR a' hf'
theorem Zo(hr:EfW P ⟨none,op,ty,pos,af,none⟩ n e w R)(h:∀ v w',R v w'→WL P ops Q rest n e w') : WL P ops Q (⟨none,op,ty,pos,af,none⟩::rest) n e w:=fun a hf=>Xzl hf (hr a hf) fun a' v w' hR hf'=>h v w' hR a' hf'
theorem Zv(hw:Want ops o e)(hr:EvW P o n e w v)(h:WL P ops Q rest n ((d,v)::e) w)(hd:o.dst=some d:=by rfl)(hn:Nat.blt d n=true:=by rfl) : WL P ops Q (o::rest) n e w:=fun a hf=>Xsa hf hw hd hn (hr a hf) h
theorem Zp(hw:Pass ops o e)(h:WL P ops Q rest n ((d,undef)::e) w)(hd:o.dst=some d:=by rfl)(hn:Nat.blt d n=true:=by rfl) : WL P ops Q (o::rest) n e w:=fun _ hf=>Xsf hf hw hd hn h
theorem Zk(hw:Want ops o e)(hr:EfW P o n e w R)(h:∀ v w',R v w'→WL P ops Q rest n ((d,v)::e) w')(hd:o.dst=some d:=by rfl)(hn:Nat.blt d n=true:=by rfl) : WL P ops Q (o::rest) n e w:=fun a hf=>Xmv hf hw hd hn (hr a hf) fun a' v w' hR hf'=>h v w' hR a' hf'
theorem Zg(t:Nat){b:Bool}(_:look t e=some (.bool b))(h1:b=true→WL P ops Q rest n e w)(h2:b=false→WL P ops Q rest n e w) : WL P ops Q rest n e w:=by
 cases b
 ·exact h2 rfl
 ·exact h1 rfl
theorem Zn(h:∀ a,Fr a n e→Q .normal a w) : WL P ops Q [] n e w:=h
theorem Zr{a:Act}{id:Nat}{l:List Oper}(hf:Fr a n e)(h:WL P l.toArray Q l n e w) : (Code.region id l.toArray false).wp P Q a w:=wp_region_lit (h a hf)
theorem Zs{a:Act}{id:Nat}{l:List Oper}{c:Code}(hf:Fr a n e)(h:∀ K:Act→World→Prop,(∀ a w,c.wp P Q a w→K a w)→WL P l.toArray (Exit.then K Q) l n e w) : (Code.seq (Code.region id l.toArray false) c).wp P Q a w:=
 Q5 fun K hK=>wp_region_lit (h K hK a hf)
theorem Zt{c:Code}{K:Act→World→Prop}(hK:∀ a w,c.wp P Q a w→K a w)(h:∀ a,Fr a n e→c.wp P Q a w) : WL P ops (Exit.then K Q) [] n e w:=fun a hf=>hK a w (h a hf)
theorem ZX{c1 c2:Code}{K:Act→World→Prop}(hK:∀ a w,(Code.seq c1 c2).wp P Q a w→K a w)(h:∀ a,Fr a n e→∀ K':Act→World→Prop,(∀ a w,c2.wp P Q a w→K' a w)→c1.wp P (Exit.then K' Q) a w) : WL P ops (Exit.then K Q) [] n e w:=fun a hf=>hK a w (Q5 fun K' hK'=>h a hf K' hK')
theorem Zx{id:Nat}{l:List Oper}{c:Code}{K:Act→World→Prop}(hK:∀ a w,(Code.seq (Code.region id l.toArray false) c).wp P Q a w→K a w)(h:∀ a,Fr a n e→∀ K':Act→World→Prop,(∀ a w,c.wp P Q a w→K' a w)→WL P l.toArray (Exit.then K' Q) l n e w) : WL P ops (Exit.then K Q) [] n e w:=fun a hf=>hK a w (Q5 fun K' hK'=>wp_region_lit (h a hf K' hK' a hf))
theorem Zi{α:Type}{T E E2:TypeId}{sz B k:Nat}{y:Operand}{enc:α→List Value}{A:Option Addr}{c:Nat}{l:List α}{i:Int}{u:α}(hw:Want ops ⟨some d,.indexAddr T x y,ty,pos,af,g⟩ e)(hx:ev e x=some (.slice A l.length c))(hy:ev e y=some (.int .i64 i))(hT:SliceT P T E)(hs:SizeT P E sz)(hsz:∀ x,(enc x).length=sz)(hr:Rd w B E2 enc A l)(hk:l[k]? = some u)(hi:i=(k:Int))
  (h:∀ p,At w p (enc u)→WL P ops Q rest n ((d,.pointer (some p))::e) w) (hn:Nat.blt d n=true:=by rfl) : WL P ops Q (⟨some d,.indexAddr T x y,ty,pos,af,g⟩::rest) n e w:=fun _ hf=>Xns hf hw hn hx hy hT hs hsz hr hk hi fun a' p hp hf'=>h p hp a' hf'
theorem Zj{α:Type}{T E E2:TypeId}{sz B m k:Nat}{y:Operand}{enc:α→List Value}{A:Option Addr}{c:Nat}{l:List α}{i:Int}{u:α}(hw:Want ops ⟨some d,.indexAddr T x y,ty,pos,af,g⟩ e)(hx:ev e x=some (.slice A m c))(hm:m=l.length)(hy:ev e y=some (.int .i64 i))(hT:SliceT P T E)(hs:SizeT P E sz)(hsz:∀ x,(enc x).length=sz)(hr:Rd w B E2 enc A l)(hk:l[k]? = some u)(hi:i=(k:Int))
  (h:∀ p,At w p (enc u)→WL P ops Q rest n ((d,.pointer (some p))::e) w) (hn:Nat.blt d n=true:=by rfl) : WL P ops Q (⟨some d,.indexAddr T x y,ty,pos,af,g⟩::rest) n e w:=by
 subst hm
 exact Zi hw hx hy hT hs hsz hr hk hi h hn
end
section
variable {P : Program} {ops : Array Oper} {V : Option Nat} {tl : Nat → Bool} {Q : Act → World → Prop} {fuel : Nat} {done : List Nat} {w : World} {o : Oper} {op : Op} {ty : TypeId} {pos : String} {af : Array Edge} {g : Option (Nat × Bool)} {n d : Nat} {e : Env} {v : Value} {R : Value → World → Prop} {x : Operand}
def WS(P:Program)(ops:Array Oper)(V:Option Nat)(tl:Nat→Bool)(Q:Act→World→Prop)(m:Nat)(L:List Nat)(n:Nat)(e:Env)(w:World) : Prop:=∀ a,Fr a n e→wpS P ops V tl Q m (mask ops L) a w
def WR(P:Program)(ops:Array Oper)(V:Option Nat)(tl:Nat→Bool)(Q:Act→World→Prop)(i m:Nat)(L:List Nat)(n:Nat)(e:Env)(w:World) : Prop:=∀ a,Fr a n e→wpR P ops V tl i (wpS P ops V tl Q m (mask ops (i::L))) a w
theorem Yb{a:Act}{m:Nat}{L:List Nat}(hf:Fr a n e)(h:WS P ops V tl Q m L n e w) : wpS P ops V tl Q m (mask ops L) a w:=h a hf
theorem Ye(i:Nat)(hi:ops[i]? = some ⟨some d,op,ty,pos,af,none⟩)(hr:EvW P ⟨some d,op,ty,pos,af,none⟩ n e w v)(h:WS P ops none tl Q fuel (i::done) n ((d,v)::e) w)(hm:mayFirst ops done i=true:=by kernel_rfl)(ht:tailWaits ops tl i=true:=by kernel_rfl)(hn:Nat.blt d n=true:=by rfl) : WS P ops none tl Q (fuel+1) done n e w:=fun a hf=>s_e i hi hm ht hf hn (hr a hf) h
theorem Yo(i:Nat)(hi:ops[i]? = some ⟨some d,op,ty,pos,af,none⟩)(hr:∀ w,EvW P ⟨some d,op,ty,pos,af,none⟩ n e w v)(h:WS P ops V tl Q fuel (i::done) n ((d,v)::e) w)(hm:mayFirst ops done i=true:=by kernel_rfl)(hn:Nat.blt d n=true:=by rfl) : WS P ops V tl Q (fuel+1) done n e w:=fun a hf=>Y03 i hi hm hf hn (fun w=>hr w a hf) h
theorem Yv(i:Nat)(hi:ops[i]? = some o)(hw:Want ops o e)(hr:EvW P o n e w v)(h:WS P ops none tl Q fuel (i::done) n ((d,v)::e) w)(hm:mayFirst ops done i=true:=by kernel_rfl)(ht:tailWaits ops tl i=true:=by kernel_rfl)(hd:o.dst=some d:=by rfl)(hn:Nat.blt d n=true:=by rfl) : WS P ops none tl Q (fuel+1) done n e w:=fun a hf=>Xse i hi hm ht hf hw hd hn (hr a hf) h
theorem Yw(i:Nat){b:Nat}(hi:ops[i]? = some o)(hw:Want ops o e)(hr:∀ w1,Only b w w1→EvW P o n e w1 v)(h:WS P ops (some b) tl Q fuel (i::done) n ((d,v)::e) w)(hm:mayFirst ops done i=true:=by kernel_rfl)(ht:tailWaits ops tl i=true:=by kernel_rfl)(hd:o.dst=some d:=by rfl)(hn:Nat.blt d n=true:=by rfl) : WS P ops (some b) tl Q (fuel+1) done n e w:=fun a hf=>Xxt i hi hm ht hf hw hd hn (fun w1 h1=>hr w1 h1 a hf) h
theorem Yu(i:Nat)(hi:ops[i]? = some o)(hw:Want ops o e)(hr:∀ w,EvW P o n e w v)(h:WS P ops V tl Q fuel (i::done) n ((d,v)::e) w)(hm:mayFirst ops done i=true:=by kernel_rfl)(hd:o.dst=some d:=by rfl)(hn:Nat.blt d n=true:=by rfl) : WS P ops V tl Q (fuel+1) done n e w:=fun a hf=>Xjn i hi hm hf hw hd hn (fun w=>hr w a hf) h
theorem Y1(i:Nat)(h:WR P ops V tl Q i fuel done n e w)(hr:Region.ready .any ops (mask ops done)=[i]:=by kernel_rfl) : WS P ops V tl Q (fuel+1) done n e w:=fun a hf=>Xym i hr (h a hf)
theorem Y2(i j:Nat)(hi:WR P ops V tl Q i fuel done n e w)(hj:WR P ops V tl Q j fuel done n e w)(hr:Region.ready .any ops (mask ops done)=[i,j]:=by kernel_rfl) : WS P ops V tl Q (fuel+1) done n e w:=fun a hf=>Xw2 i j hr (hi a hf) (hj a hf)
theorem Yd(h:∀ a,Fr a n e→Q a w)(hr:Region.ready .any ops (mask ops done)=[]:=by kernel_rfl) : WS P ops V tl Q fuel done n e w:=fun a hf=>Xso hr (h a hf)
theorem Yf{i:Nat}(hi:ops[i]? = some o)(hw:Want ops o e)(hr:EfW P o n e w fun v w'=>(tl i=false→Keep V w w')∧R v w')(h:∀ v w',R v w'→WS P ops V tl Q fuel (i::done) n ((d,v)::e) w')(hd:o.dst=some d:=by rfl)(hn:Nat.blt d n=true:=by rfl) : WR P ops V tl Q i fuel done n e w:=fun a hf=>Xwm hi hf hw hd hn (hr a hf) fun a' v w' hR hf'=>h v w' hR a' hf'
theorem Yg{i:Nat}(hi:ops[i]? = some o)(hw:Want ops o e)(hr:EfW P o n e w fun v w'=>(tl i=false→Keep V w w')∧R v w')(h:∀ v w',R v w'→WS P ops V tl Q fuel (i::done) n e w')(hd:o.dst=none:=by rfl) : WR P ops V tl Q i fuel done n e w:=fun a hf=>Xvb hi hf hw hd (hr a hf) fun a' v w' hR hf'=>h v w' hR a' hf'
theorem EfW.mono{R':Value→World→Prop}(h:EfW P o n e w R)(hr:∀ v w',R v w'→R' v w') : EfW P o n e w R':=fun a hf=>(h a hf).mono hr
theorem Uev(h:EvW P o n e w v) : EfW P o n e w (fun v' w'=>v'=v∧w=w'):=fun a hf=>Xm1 (h a hf)
theorem Yt{i:Nat}(hi:ops[i]? = some o)(hw:Want ops o e)(ht:tl i=true)(hr:EfW P o n e w R)(h:∀ v w',R v w'→WS P ops V tl Q fuel (i::done) n ((d,v)::e) w')(hd:o.dst=some d:=by rfl)(hn:Nat.blt d n=true:=by rfl) : WR P ops V tl Q i fuel done n e w:=Yf hi hw (hr.mono fun _ _ h=>⟨fun h0=>absurd h0 (by rw [ht];decide),h⟩) h hd hn
theorem Yh{i:Nat}(hi:ops[i]? = some o)(hw:Want ops o e)(ht:tl i=true)(hr:EfW P o n e w R)(h:∀ v w',R v w'→WS P ops V tl Q fuel (i::done) n e w')(hd:o.dst=none:=by rfl) : WR P ops V tl Q i fuel done n e w:=Yg hi hw (hr.mono fun _ _ h=>⟨fun h0=>absurd h0 (by rw [ht];decide),h⟩) h hd
theorem Yk{i:Nat}(hi:ops[i]? = some o)(hw:Want ops o e)(hr:EfW P o n e w R)(hk:∀ v w',R v w'→Below w.heap.size w w')(h:∀ v w',R v w'→WS P ops none tl Q fuel (i::done) n ((d,v)::e) w')(hd:o.dst=some d:=by rfl)(hn:Nat.blt d n=true:=by rfl) : WR P ops none tl Q i fuel done n e w:=Yf hi hw (hr.mono fun _ _ h=>⟨fun _=>hk _ _ h,h⟩) h hd hn
theorem Yz{i:Nat}{u:Value}(hi:ops[i]? = some o)(hw:Want ops o e)(hr:EfW P o n e w (fun v w'=>v=u∧w=w'))(h:WS P ops V tl Q fuel (i::done) n ((d,u)::e) w)(hd:o.dst=some d:=by rfl)(hn:Nat.blt d n=true:=by rfl) : WR P ops V tl Q i fuel done n e w:=Yf hi hw (hr.mono fun _ _ h=>⟨fun _=>by rw [← h.2];exact Keep.refl _ _,h⟩) (by rintro _ _ ⟨rfl,rfl⟩;exact h) hd hn
theorem Yc(D:List Nat)(m:Nat)(X:Act→World→Prop)(h1:∀ a w,X a w→wpS P ops V tl Q m (mask ops D) a w)
  (h2:(∀ L a w,sameL L D=true→X a w→wpS P ops V tl Q m (mask ops L) a w)→WS P ops V tl Q fuel done n e w) : WS P ops V tl Q fuel done n e w:=
 h2 fun L a w h hx=>by rw [Xj4 h];exact h1 a w hx
theorem Yi{α:Type}{T E E2:TypeId}{sz B k:Nat}{y:Operand}{enc:α→List Value}{A:Option Addr}{c:Nat}{l:List α}{i:Int}{u:α}(j:Nat)(ho:ops[j]? = some ⟨some d,.indexAddr T x y,ty,pos,af,g⟩)(hw:Want ops ⟨some d,.indexAddr T x y,ty,pos,af,g⟩ e)(hx:ev e x=some (.slice A l.length c))(hy:ev e y=some (.int .i64 i))(hT:SliceT P T E)(hs:SizeT P E sz)(hsz:∀ x,(enc x).length=sz)(hr:Rd w B E2 enc A l)(hk:l[k]? = some u)(hi:i=(k:Int))
  (h:∀ p,At w p (enc u)→WS P ops none tl Q fuel (j::done) n ((d,.pointer (some p))::e) w) (hm:mayFirst ops done j=true:=by kernel_rfl) (ht:tailWaits ops tl j=true:=by kernel_rfl) (hn:Nat.blt d n=true:=by rfl) : WS P ops none tl Q (fuel+1) done n e w:=fun _ hf=>Xpn j ho hm ht hf hw hn hx hy hT hs hsz hr hk hi fun a' p hp hf'=>h p hp a' hf'
end
end Go.Proofs.YtckoekhjglafjaaGreatDoor
namespace Go.Proofs.YtckoekhjglafjaaGreatDoor
theorem X0u{P:Program}{t n:Nat}(h:(P.info? t).map (fun i=>i.size)=some n) : ∃ i,P.info? t=some i∧i.size=n:=by
 cases hi:P.info? t with
 | none=>rw [hi] at h;cases h
 | some i=>rw [hi] at h;injection h with h;exact ⟨i,rfl,h⟩
theorem X2t{P:Program}{t:Nat}{z:Option Value}(h:(P.info? t).map (fun i=>i.zero)=some z) : ∃ i,P.info? t=some i∧i.zero=z:=by
 cases hi:P.info? t with
 | none=>rw [hi] at h;cases h
 | some i=>rw [hi] at h;injection h with h;exact ⟨i,rfl,h⟩
theorem X3l{P:Program}{t sz bytes:Nat}{z:Value}(h:(P.info? t).map (fun i=>(i.size,i.bytes,i.zero))=some (sz,bytes,some z))(hz:z.cells.size=sz)(h0:0<sz) : InfoT P t sz bytes:=by
 cases hi:P.info? t with
 | none=>rw [hi] at h;cases h
 | some i=>
  rw [hi] at h
  simp only [Option.map_some,Option.some.injEq,Prod.mk.injEq] at h
  exact ⟨i,z,hi,h.2.2,h.1,h.2.1,hz,h0⟩
theorem X16{P:Program}{T f k:Nat}{fs:Array Field}{F:Field}(h:P.underlying T=some (.struct fs))(h1:fs[f]? = some F)(h2:F.offset=k){n:Nat}(h3:(P.info? F.type).map (fun i=>i.size)=some n)(h4:(n==0)=false) : FieldT P T f k:=by
 obtain ⟨i,hi,rfl⟩:=X0u h3;exact ⟨fs,F,i,h,h1,h2,hi,h4⟩
theorem X5 {P : Program} {f : FuncId} {fn : Func} (h : P.funcs[f]? = some fn) (h1 : (fn.name == "runtime.NumGoroutine") = false) (h2 : fn.body.isNone = false) : FuncF P f := ⟨fn, h, h1, h2⟩
theorem X9:OneT Tryz.prog 3:=⟨_,Tryz.underlying3,trivial⟩
theorem Xtj:OneT Tryz.prog 4:=⟨_,Tryz.underlying4,trivial⟩
theorem Xzq:OneT Tryz.prog 5:=⟨_,Tryz.underlying5,trivial⟩
theorem X2j:OneT Tryz.prog 9:=⟨_,Tryz.underlying9,trivial⟩
theorem X6b:OneT Tryz.prog 45:=⟨_,Tryz.underlying45,trivial⟩
theorem X0p:OneT Tryz.prog 27:=⟨_,Tryz.underlying27,trivial⟩
theorem Xcl:OneT Tryz.prog 72:=⟨_,Tryz.underlying72,trivial⟩
theorem X9f:OneT Tryz.prog 22:=⟨_,Tryz.underlying22,trivial⟩
theorem Xbq:AggT Tryz.prog 48 2:=⟨⟨_,Tryz.underlying48,trivial⟩,X0u (by kernel_rfl)⟩
theorem X61:AggT Tryz.prog 103 3:=⟨⟨_,Tryz.underlying103,trivial⟩,X0u (by kernel_rfl)⟩
theorem Xr:AggT Tryz.prog 29 3:=⟨⟨_,Tryz.underlying29,trivial⟩,X0u (by kernel_rfl)⟩
theorem Xv:AggT Tryz.prog 51 4:=⟨⟨_,Tryz.underlying51,trivial⟩,X0u (by kernel_rfl)⟩
theorem X6:AggT Tryz.prog 53 5:=⟨⟨_,Tryz.underlying53,trivial⟩,X0u (by kernel_rfl)⟩
theorem X04:AggT Tryz.prog 25 3:=⟨⟨_,Tryz.underlying25,trivial⟩,X0u (by kernel_rfl)⟩
theorem X23:AggT Tryz.prog 58 1:=⟨⟨_,Tryz.underlying58,trivial⟩,X0u (by kernel_rfl)⟩
theorem X65:SizeT Tryz.prog 3 1:=X0u (by kernel_rfl)
theorem Xw6:SizeT Tryz.prog 4 1:=X0u (by kernel_rfl)
theorem Xzr:SizeT Tryz.prog 5 1:=X0u (by kernel_rfl)
theorem X5l:SizeT Tryz.prog 9 1:=X0u (by kernel_rfl)
theorem Xbs:SizeT Tryz.prog 45 1:=X0u (by kernel_rfl)
theorem Xkt:SizeT Tryz.prog 48 2:=X0u (by kernel_rfl)
theorem Xdg:SizeT Tryz.prog 103 3:=X0u (by kernel_rfl)
theorem X4a:SizeT Tryz.prog 27 1:=X0u (by kernel_rfl)
theorem X0b:SizeT Tryz.prog 29 3:=X0u (by kernel_rfl)
theorem X0w:SizeT Tryz.prog 51 4:=X0u (by kernel_rfl)
theorem Xd:SizeT Tryz.prog 53 5:=X0u (by kernel_rfl)
theorem Xme:SizeT Tryz.prog 72 1:=X0u (by kernel_rfl)
theorem X0z:SizeT Tryz.prog 25 3:=X0u (by kernel_rfl)
theorem X2s:SizeT Tryz.prog 58 1:=X0u (by kernel_rfl)
theorem Xqg:SizeT Tryz.prog 140 3:=X0u (by kernel_rfl)
theorem Xvm:ZeroT Tryz.prog 48 (.agg #[.int .i64 0,.slice none 0 0]):=X2t (by kernel_rfl)
theorem Xy1:ZeroT Tryz.prog 103 (.agg #[.int .i64 0,.int .i64 0,.int .i64 0]):=X2t (by kernel_rfl)
theorem Xyn:ZeroT Tryz.prog 27 (.slice none 0 0):=X2t (by kernel_rfl)
theorem X0y:ZeroT Tryz.prog 29 (.agg #[.int .i64 0,.int .i64 0,.slice none 0 0]):=X2t (by kernel_rfl)
theorem X1y:ZeroT Tryz.prog 51 (.agg #[.int .i64 0,.int .i64 0,.int .i64 0,.int .i64 0]):=X2t (by kernel_rfl)
theorem X0n:ZeroT Tryz.prog 53 (.agg #[.int .i64 0,.int .i64 0,.int .i64 0,.int .i64 0,.int .i64 0]):=X2t (by kernel_rfl)
theorem X1s:ZeroT Tryz.prog 25 (.agg #[.string ByteArray.empty,.int .i64 0,.int .i64 0]):=X2t (by kernel_rfl)
theorem X4k:ZeroT Tryz.prog 58 (.agg #[.slice none 0 0]):=X2t (by kernel_rfl)
theorem Xsx:ZeroT Tryz.prog 140 (.agg #[.int .i64 0,.int .i64 0,.int .i64 0]):=X2t (by kernel_rfl)
theorem X6h:FieldT Tryz.prog 48 0 0:=X16 (n:=1) Tryz.underlying48 rfl rfl (by kernel_rfl) rfl
theorem X1x:FieldT Tryz.prog 48 1 1:=X16 (n:=1) Tryz.underlying48 rfl rfl (by kernel_rfl) rfl
theorem X2i:FieldT Tryz.prog 103 0 0:=X16 (n:=1) Tryz.underlying103 rfl rfl (by kernel_rfl) rfl
theorem X1l:FieldT Tryz.prog 103 1 1:=X16 (n:=1) Tryz.underlying103 rfl rfl (by kernel_rfl) rfl
theorem X27:FieldT Tryz.prog 103 2 2:=X16 (n:=1) Tryz.underlying103 rfl rfl (by kernel_rfl) rfl
theorem X1c:FieldT Tryz.prog 29 0 0:=X16 (n:=1) Tryz.underlying29 rfl rfl (by kernel_rfl) rfl
theorem X14:FieldT Tryz.prog 29 1 1:=X16 (n:=1) Tryz.underlying29 rfl rfl (by kernel_rfl) rfl
theorem X11:FieldT Tryz.prog 29 2 2:=X16 (n:=1) Tryz.underlying29 rfl rfl (by kernel_rfl) rfl
theorem X0c:FieldT Tryz.prog 51 0 0:=X16 (n:=1) Tryz.underlying51 rfl rfl (by kernel_rfl) rfl
theorem X0a:FieldT Tryz.prog 51 1 1:=X16 (n:=1) Tryz.underlying51 rfl rfl (by kernel_rfl) rfl
theorem X0d:FieldT Tryz.prog 51 2 2:=X16 (n:=1) Tryz.underlying51 rfl rfl (by kernel_rfl) rfl
theorem X0f:FieldT Tryz.prog 51 3 3:=X16 (n:=1) Tryz.underlying51 rfl rfl (by kernel_rfl) rfl
theorem X1i:FieldT Tryz.prog 53 0 0:=X16 (n:=4) Tryz.underlying53 rfl rfl (by kernel_rfl) rfl
theorem X12:FieldT Tryz.prog 53 1 4:=X16 (n:=1) Tryz.underlying53 rfl rfl (by kernel_rfl) rfl
theorem X5x:FieldT Tryz.prog 97 0 0:=X16 (n:=1) Tryz.underlying97 rfl rfl (by kernel_rfl) rfl
theorem X6n:FieldT Tryz.prog 74 0 0:=X16 (n:=1) Tryz.underlying74 rfl rfl (by kernel_rfl) rfl
theorem X30:FieldT Tryz.prog 74 1 1:=X16 (n:=1) Tryz.underlying74 rfl rfl (by kernel_rfl) rfl
theorem X41:FieldT Tryz.prog 74 2 2:=X16 (n:=1) Tryz.underlying74 rfl rfl (by kernel_rfl) rfl
theorem X0m:FieldT Tryz.prog 25 0 0:=X16 (n:=1) Tryz.underlying25 rfl rfl (by kernel_rfl) rfl
theorem X21:FieldT Tryz.prog 25 1 1:=X16 (n:=1) Tryz.underlying25 rfl rfl (by kernel_rfl) rfl
theorem X1u:FieldT Tryz.prog 25 2 2:=X16 (n:=1) Tryz.underlying25 rfl rfl (by kernel_rfl) rfl
theorem X1e:FieldT Tryz.prog 58 0 0:=X16 (n:=1) Tryz.underlying58 rfl rfl (by kernel_rfl) rfl
theorem X1p:SliceT Tryz.prog 45 103:=Tryz.underlying45
theorem X6a:SliceT Tryz.prog 78 3:=Tryz.underlying78
theorem X01:SliceT Tryz.prog 27 53:=Tryz.underlying27
theorem X4g:SliceT Tryz.prog 182 51:=Tryz.underlying182
theorem X3v:SliceT Tryz.prog 22 5:=Tryz.underlying22
theorem X0t:SliceT Tryz.prog 68 9:=Tryz.underlying68
theorem X99:SliceT Tryz.prog 134 58:=Tryz.underlying134
theorem X1k:SliceT Tryz.prog 111 27:=Tryz.underlying111
theorem Xbc:InfoT Tryz.prog 3 1 8:=X3l (z:=.int .i64 0) (by kernel_rfl) rfl (by decide)
theorem Xrx:InfoT Tryz.prog 5 1 1:=X3l (z:=.int .u8 0) (by kernel_rfl) rfl (by decide)
theorem X3q:InfoT Tryz.prog 9 1 16:=X3l (z:=.string ByteArray.empty) (by kernel_rfl) rfl (by decide)
theorem X18:InfoT Tryz.prog 103 3 24:=X3l (z:=.agg #[.int .i64 0,.int .i64 0,.int .i64 0]) (by kernel_rfl) rfl (by decide)
theorem X2a:InfoT Tryz.prog 27 1 24:=X3l (z:=.slice none 0 0) (by kernel_rfl) rfl (by decide)
theorem X4e:InfoT Tryz.prog 51 4 32:=X3l (z:=.agg #[.int .i64 0,.int .i64 0,.int .i64 0,.int .i64 0]) (by kernel_rfl) rfl (by decide)
theorem X13:InfoT Tryz.prog 53 5 40:=X3l (z:=.agg #[.int .i64 0,.int .i64 0,.int .i64 0,.int .i64 0,.int .i64 0]) (by kernel_rfl) rfl (by decide)
theorem Xe6:InfoT Tryz.prog 58 1 24:=X3l (z:=.agg #[.slice none 0 0]) (by kernel_rfl) rfl (by decide)
theorem Xxy:FuncF Tryz.prog 38:=X5 Tryz.func38 (by decide +kernel) rfl
theorem Xdt:FuncF Tryz.prog 100:=X5 Tryz.func100 (by decide +kernel) rfl
theorem Xjh:FuncF Tryz.prog 50:=X5 Tryz.func50 (by decide +kernel) rfl
theorem X36:FuncF Tryz.prog 36:=X5 Tryz.func36 (by decide +kernel) rfl
theorem Xr7:FuncF Tryz.prog 17:=X5 Tryz.func17 (by decide +kernel) rfl
theorem Xy5:FuncF Tryz.prog 28:=X5 Tryz.func28 (by decide +kernel) rfl
theorem Xrv:FuncF Tryz.prog 112:=X5 Tryz.func112 (by decide +kernel) rfl
theorem Xsb:FuncF Tryz.prog 71:=X5 Tryz.func71 (by decide +kernel) rfl
theorem Xt8:FuncF Tryz.prog 72:=X5 Tryz.func72 (by decide +kernel) rfl
theorem Xmf:FuncF Tryz.prog 73:=X5 Tryz.func73 (by decide +kernel) rfl
theorem Xkw:FuncF Tryz.prog 39:=X5 Tryz.func39 (by decide +kernel) rfl
theorem Xta:FuncF Tryz.prog 40:=X5 Tryz.func40 (by decide +kernel) rfl
theorem X55:FuncF Tryz.prog 43:=X5 Tryz.func43 (by decide +kernel) rfl
theorem Xfr:FuncF Tryz.prog 19:=X5 Tryz.func19 (by decide +kernel) rfl
theorem X53:FuncF Tryz.prog 20:=X5 Tryz.func20 (by decide +kernel) rfl
theorem Xk7:FuncF Tryz.prog 64:=X5 Tryz.func64 (by decide +kernel) rfl
theorem Xvh:FuncF Tryz.prog 87:=X5 Tryz.func87 (by decide +kernel) rfl
theorem Xts:FuncF Tryz.prog 8:=X5 Tryz.func8 (by decide +kernel) rfl
theorem X2w:FuncF Tryz.prog 86:=X5 Tryz.func86 (by decide +kernel) rfl
theorem Xu6:FuncF Tryz.prog 111:=X5 Tryz.func111 (by decide +kernel) rfl
theorem Xsr:FuncF Tryz.prog 51:=X5 Tryz.func51 (by decide +kernel) rfl
theorem Xs9:FuncF Tryz.prog 52:=X5 Tryz.func52 (by decide +kernel) rfl
theorem X9t:FuncF Tryz.prog 45:=X5 Tryz.func45 (by decide +kernel) rfl
theorem Xuc:FuncF Tryz.prog 74:=X5 Tryz.func74 (by decide +kernel) rfl
theorem X87:FuncF Tryz.prog 75:=X5 Tryz.func75 (by decide +kernel) rfl
theorem X9s:FuncF Tryz.prog 76:=X5 Tryz.func76 (by decide +kernel) rfl
theorem Xa3:FuncF Tryz.prog 77:=X5 Tryz.func77 (by decide +kernel) rfl
theorem Xcw:FuncF Tryz.prog 79:=X5 Tryz.func79 (by decide +kernel) rfl
theorem Xju:FuncF Tryz.prog 80:=X5 Tryz.func80 (by decide +kernel) rfl
theorem Xvu:FuncF Tryz.prog 81:=X5 Tryz.func81 (by decide +kernel) rfl
theorem X4i:FuncF Tryz.prog 44:=X5 Tryz.func44 (by decide +kernel) rfl
theorem Xug:FuncF Tryz.prog 46:=X5 Tryz.func46 (by decide +kernel) rfl
theorem X4l:FuncF Tryz.prog 47:=X5 Tryz.func47 (by decide +kernel) rfl
theorem X74:FuncF Tryz.prog 48:=X5 Tryz.func48 (by decide +kernel) rfl
theorem Xuu:FuncF Tryz.prog 49:=X5 Tryz.func49 (by decide +kernel) rfl
theorem Xfn:FuncF Tryz.prog 63:=X5 Tryz.func63 (by decide +kernel) rfl
theorem Xtr:FuncF Tryz.prog 125:=X5 Tryz.func125 (by decide +kernel) rfl
theorem Xg6:FuncF Tryz.prog 123:=X5 Tryz.func123 (by decide +kernel) rfl
theorem Xlw:FuncF Tryz.prog 124:=X5 Tryz.func124 (by decide +kernel) rfl
theorem X69:FuncF Tryz.prog 88:=X5 Tryz.func88 (by decide +kernel) rfl
theorem Xsg:FuncF Tryz.prog 126:=X5 Tryz.func126 (by decide +kernel) rfl
theorem Xsm:FuncF Tryz.prog 113:=X5 Tryz.func113 (by decide +kernel) rfl
theorem Xtu:FuncF Tryz.prog 114:=X5 Tryz.func114 (by decide +kernel) rfl
theorem X86:FuncF Tryz.prog 115:=X5 Tryz.func115 (by decide +kernel) rfl
theorem Xcm:FuncF Tryz.prog 116:=X5 Tryz.func116 (by decide +kernel) rfl
theorem Xui:FuncF Tryz.prog 117:=X5 Tryz.func117 (by decide +kernel) rfl
theorem Xv7:FuncF Tryz.prog 118:=X5 Tryz.func118 (by decide +kernel) rfl
theorem Xca:FuncF Tryz.prog 96:=X5 Tryz.func96 (by decide +kernel) rfl
theorem Xup:FuncF Tryz.prog 119:=X5 Tryz.func119 (by decide +kernel) rfl
theorem Xal:FuncF Tryz.prog 82:=X5 Tryz.func82 (by decide +kernel) rfl
theorem Xfj:FuncF Tryz.prog 83:=X5 Tryz.func83 (by decide +kernel) rfl
theorem Xt7:FuncF Tryz.prog 84:=X5 Tryz.func84 (by decide +kernel) rfl
theorem Xf3:FuncF Tryz.prog 85:=X5 Tryz.func85 (by decide +kernel) rfl
theorem X70:FuncF Tryz.prog 153:=X5 Tryz.func153 (by decide +kernel) rfl
theorem Xn1:FuncF Tryz.prog 154:=X5 Tryz.func154 (by decide +kernel) rfl
theorem Xdj:FuncF Tryz.prog 148:=X5 Tryz.func148 (by decide +kernel) rfl
theorem Xf6:FuncF Tryz.prog 149:=X5 Tryz.func149 (by decide +kernel) rfl
theorem Xla:FuncF Tryz.prog 150:=X5 Tryz.func150 (by decide +kernel) rfl
theorem Xtg:FuncF Tryz.prog 151:=X5 Tryz.func151 (by decide +kernel) rfl
theorem Xul:FuncF Tryz.prog 152:=X5 Tryz.func152 (by decide +kernel) rfl
theorem Xl4:FuncF Tryz.prog 130:=X5 Tryz.func130 (by decide +kernel) rfl
theorem Xvs:FuncF Tryz.prog 131:=X5 Tryz.func131 (by decide +kernel) rfl
theorem Xdb:FuncF Tryz.prog 120:=X5 Tryz.func120 (by decide +kernel) rfl
theorem X8u:FuncF Tryz.prog 121:=X5 Tryz.func121 (by decide +kernel) rfl
theorem Xv2:FuncF Tryz.prog 122:=X5 Tryz.func122 (by decide +kernel) rfl
theorem Xsk:FuncF Tryz.prog 174:=X5 Tryz.func174 (by decide +kernel) rfl
theorem Xsw:FuncF Tryz.prog 171:=X5 Tryz.func171 (by decide +kernel) rfl
theorem Xsv:FuncF Tryz.prog 172:=X5 Tryz.func172 (by decide +kernel) rfl
theorem Xsc:FuncF Tryz.prog 173:=X5 Tryz.func173 (by decide +kernel) rfl
theorem Xcv:FuncF Tryz.prog 156:=X5 Tryz.func156 (by decide +kernel) rfl
theorem Xvt:FuncF Tryz.prog 184:=X5 Tryz.func184 (by decide +kernel) rfl
theorem Xuq:FuncF Tryz.prog 183:=X5 Tryz.func183 (by decide +kernel) rfl
theorem Xt2:FuncF Tryz.prog 176:=X5 Tryz.func176 (by decide +kernel) rfl
theorem Xoq:FuncF Tryz.prog 4:=X5 Tryz.func4 (by decide +kernel) rfl
theorem X3s:FuncF Tryz.prog 32:=X5 Tryz.func32 (by decide +kernel) rfl
theorem Xpd:FuncF Tryz.prog 33:=X5 Tryz.func33 (by decide +kernel) rfl
theorem X9n:FuncF Tryz.prog 34:=X5 Tryz.func34 (by decide +kernel) rfl
theorem Xgv:FuncF Tryz.prog 68:=X5 Tryz.func68 (by decide +kernel) rfl
theorem X80:FuncF Tryz.prog 29:=X5 Tryz.func29 (by decide +kernel) rfl
theorem Xgo:FuncF Tryz.prog 22:=X5 Tryz.func22 (by decide +kernel) rfl
theorem Xo4:FuncF Tryz.prog 23:=X5 Tryz.func23 (by decide +kernel) rfl
theorem Xpm:FuncF Tryz.prog 53:=X5 Tryz.func53 (by decide +kernel) rfl
theorem Xq8:FuncF Tryz.prog 54:=X5 Tryz.func54 (by decide +kernel) rfl
theorem Xnt:FuncF Tryz.prog 89:=X5 Tryz.func89 (by decide +kernel) rfl
theorem Xqb:FuncF Tryz.prog 90:=X5 Tryz.func90 (by decide +kernel) rfl
theorem Xqz:FuncF Tryz.prog 91:=X5 Tryz.func91 (by decide +kernel) rfl
theorem X6m:FuncF Tryz.prog 128:=X5 Tryz.func128 (by decide +kernel) rfl
theorem X6p:FuncF Tryz.prog 127:=X5 Tryz.func127 (by decide +kernel) rfl
theorem Xqj:FuncF Tryz.prog 155:=X5 Tryz.func155 (by decide +kernel) rfl
theorem Xny:FuncF Tryz.prog 175:=X5 Tryz.func175 (by decide +kernel) rfl
theorem Xnf:FuncF Tryz.prog 9:=X5 Tryz.func9 (by decide +kernel) rfl
theorem Xgh:FuncF Tryz.prog 6:=X5 Tryz.func6 (by decide +kernel) rfl
theorem X6d:FuncF Tryz.prog 15:=X5 Tryz.func15 (by decide +kernel) rfl
theorem Xci:FuncF Tryz.prog 24:=X5 Tryz.func24 (by decide +kernel) rfl
theorem X9j:FuncF Tryz.prog 25:=X5 Tryz.func25 (by decide +kernel) rfl
theorem Xq3:FuncF Tryz.prog 26:=X5 Tryz.func26 (by decide +kernel) rfl
theorem Xqp:FuncF Tryz.prog 27:=X5 Tryz.func27 (by decide +kernel) rfl
theorem Xqm:FuncF Tryz.prog 18:=X5 Tryz.func18 (by decide +kernel) rfl
theorem Xpi:FuncF Tryz.prog 55:=X5 Tryz.func55 (by decide +kernel) rfl
theorem Xgx:FuncF Tryz.prog 56:=X5 Tryz.func56 (by decide +kernel) rfl
theorem Xpl:FuncF Tryz.prog 57:=X5 Tryz.func57 (by decide +kernel) rfl
theorem Xcb:FuncF Tryz.prog 58:=X5 Tryz.func58 (by decide +kernel) rfl
theorem Xhi:FuncF Tryz.prog 59:=X5 Tryz.func59 (by decide +kernel) rfl
theorem Xq6:FuncF Tryz.prog 60:=X5 Tryz.func60 (by decide +kernel) rfl
theorem Xh8:FuncF Tryz.prog 42:=X5 Tryz.func42 (by decide +kernel) rfl
theorem Xnu:FuncF Tryz.prog 61:=X5 Tryz.func61 (by decide +kernel) rfl
theorem Xi5:FuncF Tryz.prog 62:=X5 Tryz.func62 (by decide +kernel) rfl
theorem Xo2:FuncF Tryz.prog 41:=X5 Tryz.func41 (by decide +kernel) rfl
theorem Xqs:FuncF Tryz.prog 92:=X5 Tryz.func92 (by decide +kernel) rfl
theorem Xn9:FuncF Tryz.prog 93:=X5 Tryz.func93 (by decide +kernel) rfl
theorem Xng:FuncF Tryz.prog 94:=X5 Tryz.func94 (by decide +kernel) rfl
theorem Xnr:FuncF Tryz.prog 95:=X5 Tryz.func95 (by decide +kernel) rfl
theorem Xpe:FuncF Tryz.prog 97:=X5 Tryz.func97 (by decide +kernel) rfl
theorem Xnm:FuncF Tryz.prog 98:=X5 Tryz.func98 (by decide +kernel) rfl
theorem Xnj:FuncF Tryz.prog 99:=X5 Tryz.func99 (by decide +kernel) rfl
theorem Xhr:FuncF Tryz.prog 101:=X5 Tryz.func101 (by decide +kernel) rfl
theorem Xqd:FuncF Tryz.prog 102:=X5 Tryz.func102 (by decide +kernel) rfl
theorem Xpx:FuncF Tryz.prog 103:=X5 Tryz.func103 (by decide +kernel) rfl
theorem Xpb:FuncF Tryz.prog 78:=X5 Tryz.func78 (by decide +kernel) rfl
theorem Xpz:FuncF Tryz.prog 129:=X5 Tryz.func129 (by decide +kernel) rfl
theorem Xhv:FuncF Tryz.prog 132:=X5 Tryz.func132 (by decide +kernel) rfl
theorem Xhs:FuncF Tryz.prog 133:=X5 Tryz.func133 (by decide +kernel) rfl
theorem Xpj:FuncF Tryz.prog 134:=X5 Tryz.func134 (by decide +kernel) rfl
theorem Xq1:FuncF Tryz.prog 157:=X5 Tryz.func157 (by decide +kernel) rfl
theorem Xnp:FuncF Tryz.prog 5:=X5 Tryz.func5 (by decide +kernel) rfl
theorem Xn8:FuncF Tryz.prog 7:=X5 Tryz.func7 (by decide +kernel) rfl
theorem Xde:FuncF Tryz.prog 10:=X5 Tryz.func10 (by decide +kernel) rfl
theorem Xnn:FuncF Tryz.prog 11:=X5 Tryz.func11 (by decide +kernel) rfl
theorem Xhg:FuncF Tryz.prog 12:=X5 Tryz.func12 (by decide +kernel) rfl
theorem X9c:FuncF Tryz.prog 13:=X5 Tryz.func13 (by decide +kernel) rfl
theorem Xdk:FuncF Tryz.prog 14:=X5 Tryz.func14 (by decide +kernel) rfl
theorem Xpf:FuncF Tryz.prog 16:=X5 Tryz.func16 (by decide +kernel) rfl
theorem Xhe:FuncF Tryz.prog 21:=X5 Tryz.func21 (by decide +kernel) rfl
theorem Xnx:FuncF Tryz.prog 30:=X5 Tryz.func30 (by decide +kernel) rfl
theorem X9l:FuncF Tryz.prog 31:=X5 Tryz.func31 (by decide +kernel) rfl
theorem Xgz:FuncF Tryz.prog 35:=X5 Tryz.func35 (by decide +kernel) rfl
theorem Xo3:FuncF Tryz.prog 37:=X5 Tryz.func37 (by decide +kernel) rfl
theorem Xnw:FuncF Tryz.prog 67:=X5 Tryz.func67 (by decide +kernel) rfl
theorem Xos:FuncF Tryz.prog 69:=X5 Tryz.func69 (by decide +kernel) rfl
theorem Xqw:FuncF Tryz.prog 70:=X5 Tryz.func70 (by decide +kernel) rfl
theorem Xn4:FuncF Tryz.prog 110:=X5 Tryz.func110 (by decide +kernel) rfl
theorem mixed:Tryz.prog.follows .mixedOrders=true:=by kernel_rfl
end Go.Proofs.YtckoekhjglafjaaGreatDoor
namespace Go.Proofs.YtckoekhjglafjaaGreatDoor
open Go.RowKit
section
variable {P : Program} {a : Act} {w : World} {n : Nat} {e : Env} {ty : TypeId} {pos : String} {af : Array Edge} {g : Option (Nat × Bool)} {d : Option Tmp}
variable {t t' : TypeId} {x y : Operand} {i j : Int}
theorem Xvo(hf:Fr a n e)(hx:ev e x=some (.int .i64 i))(hy:ev e y=some (.int .i64 j))(h0:(j==0)=false) : Ev P ⟨d,.binOp .rem t x y t',ty,pos,af,g⟩ a w (.int .i64 (i.tmod j)):=fun w' _=>by
 have h0':j≠0:=by rintro rfl;simp at h0
 simp [execOp,hf.ev hx,hf.ev hy,eqGuard,binOp,Op.intDiv,h0']
theorem X67(hx:ev e x=some (.int .i64 i))(hy:ev e y=some (.int .i64 j))(h0:(j==0)=false) : EvW P ⟨d,.binOp .rem t x y t',ty,pos,af,g⟩ n e w (.int .i64 (i.tmod j)):=fun a hf=>Xvo hf hx hy h0
theorem Xub(hf:Fr a n e)(hx:ev e x=some (.int .i64 i))(hy:ev e y=some (.int .i64 j))(h0:(j==0)=false) : Ev P ⟨d,.binOp .quo t x y t',ty,pos,af,g⟩ a w (.int .i64 (IntKind.i64.wrap (i.tdiv j))):=fun w' _=>by
 have h0':j≠0:=by rintro rfl;simp at h0
 simp [execOp,hf.ev hx,hf.ev hy,eqGuard,binOp,Op.intDiv,h0']
theorem X95(hx:ev e x=some (.int .i64 i))(hy:ev e y=some (.int .i64 j))(h0:(j==0)=false) : EvW P ⟨d,.binOp .quo t x y t',ty,pos,af,g⟩ n e w (.int .i64 (IntKind.i64.wrap (i.tdiv j))):=fun a hf=>Xub hf hx hy h0
theorem Xqi(hf:Fr a n e)(hx:ev e x=some (.int .i64 i))(hy:ev e y=some (.int .i64 j))(h1:-9223372036854775808≤i*j)(h2:i*j≤9223372036854775807) : Ev P ⟨d,.binOp .mul t x y t',ty,pos,af,g⟩ a w (.int .i64 (i*j)):=fun w' _=>by
 have h:IntKind.i64.wrap (i*j)=i*j:=IntWalk.i64_in _ ⟨h1,h2⟩
 simp [execOp,hf.ev hx,hf.ev hy,eqGuard,binOp,Op.intArith,h]
theorem X7x(hx:ev e x=some (.int .i64 i))(hy:ev e y=some (.int .i64 j))(h1:-9223372036854775808≤i*j)(h2:i*j≤9223372036854775807) : EvW P ⟨d,.binOp .mul t x y t',ty,pos,af,g⟩ n e w (.int .i64 (i*j)):=fun a hf=>Xqi hf hx hy h1 h2
theorem Xox{m k:Nat}(hf:Fr a n e)(hx:ev e x=some (.int .i64 (m:Int)))(hy:ev e y=some (.int .i64 (k:Int)))(hb:m*k≤4611686018427387904) : Ev P ⟨d,.binOp .mul t x y t',ty,pos,af,g⟩ a w (.int .i64 ((m*k:Nat) : Int)):=fun w' _=>by
 have h:IntKind.i64.wrap ((m:Int)*(k:Int))=((m*k:Nat) : Int):=by
  rw [← Int.natCast_mul]
  exact IntWalk.i64_in _ ⟨by omega,by omega⟩
 simp [execOp,hf.ev hx,hf.ev hy,eqGuard,binOp,Op.intArith,h]
theorem Xbx{m k:Nat}(hx:ev e x=some (.int .i64 (m:Int)))(hy:ev e y=some (.int .i64 (k:Int)))(hb:m*k≤4611686018427387904) : EvW P ⟨d,.binOp .mul t x y t',ty,pos,af,g⟩ n e w (.int .i64 ((m*k:Nat) : Int)):=fun a hf=>Xox hf hx hy hb
theorem Xn2{k:IntKind}{m:Nat}(hf:Fr a n e)(hx:ev e x=some (.int .i64 i))(hy:ev e y=some (.int k j))(hj:j=(m:Int))(hm:m≤64) : Ev P ⟨d,.binOp .shl t x y t',ty,pos,af,g⟩ a w (.int .i64 (IntKind.i64.wrap (i*2^m))):=fun w' _=>by
 subst hj
 have hm':min m 64=m:=by omega
 simp [execOp,hf.ev hx,hf.ev hy,eqGuard,binOp,Op.shift,IntKind.bits,hm']
theorem Xfw{k:IntKind}{m:Nat}(hx:ev e x=some (.int .i64 i))(hy:ev e y=some (.int k j))(hj:j=(m:Int))(hm:m≤64) : EvW P ⟨d,.binOp .shl t x y t',ty,pos,af,g⟩ n e w (.int .i64 (IntKind.i64.wrap (i*2^m))):=fun a hf=>Xn2 hf hx hy hj hm
theorem Xuo{k:IntKind}{m:Nat}(hf:Fr a n e)(hx:ev e x=some (.int .i64 i))(hy:ev e y=some (.int k j))(hj:j=(m:Int))(hm:m≤64) : Ev P ⟨d,.binOp .shr t x y t',ty,pos,af,g⟩ a w (.int .i64 (i/2^m)):=fun w' _=>by
 subst hj
 have hm':min m 64=m:=by omega
 simp [execOp,hf.ev hx,hf.ev hy,eqGuard,binOp,Op.shift,IntKind.bits,hm']
theorem Xx0{k:IntKind}{m:Nat}(hx:ev e x=some (.int .i64 i))(hy:ev e y=some (.int k j))(hj:j=(m:Int))(hm:m≤64) : EvW P ⟨d,.binOp .shr t x y t',ty,pos,af,g⟩ n e w (.int .i64 (i/2^m)):=fun a hf=>Xuo hf hx hy hj hm
theorem Xiv(hf:Fr a n e)(hx:ev e x=some (.int .i64 i))(hy:ev e y=some (.int .i64 j)) : Ev P ⟨d,.binOp .andNot t x y t',ty,pos,af,g⟩ a w (.int .i64 (bits .andNot .i64 i j)):=fun w' _=>by
 simp [execOp,hf.ev hx,hf.ev hy,eqGuard,binOp,Op.intBits,bits]
theorem Xp6(hx:ev e x=some (.int .i64 i))(hy:ev e y=some (.int .i64 j)) : EvW P ⟨d,.binOp .andNot t x y t',ty,pos,af,g⟩ n e w (.int .i64 (bits .andNot .i64 i j)):=fun a hf=>Xiv hf hx hy
theorem Xt9{p:Addr}(hf:Fr a n e)(hx:ev e x=some (.pointer (some p))) : Ev P ⟨d,.nilCheck x,ty,pos,af,g⟩ a w (.pointer (some p)):=fun w' _=>by
 simp [execOp,hf.ev hx]
theorem X48{p:Addr}(hx:ev e x=some (.pointer (some p))) : EvW P ⟨d,.nilCheck x,ty,pos,af,g⟩ n e w (.pointer (some p)):=fun a hf=>Xt9 hf hx
end
theorem Rd.atV{α:Type}{w:World}{B b0:Nat}{E T0:TypeId}{enc:α→List Value}{A:Option Addr}{l:List α}{l0:List Value}{sz:Nat}(hsz:∀ x,(enc x).length=sz)(h:Rd w B E enc A l){k:Nat}{x:α}(hk:l[k]? = some x)
  (hb:Blk w b0 T0 l0) (hT:Nat.beq E T0=false) : ∃ p,A=some p∧At w (p.add (k*sz)) (enc x)∧(p.add (k*sz)).block≠b0:=by
 obtain ⟨p,h1,h2⟩:=h.at hsz hk
 refine ⟨p,h1,h2,?_⟩
 have hl:l≠[]:=by rintro rfl;simp at hk
 obtain ⟨b,off,cs,fz,h3,h4,h5,h6⟩:=h hl
 rw [h1] at h3
 injection h3 with h3
 subst h3
 rw [X71]
 rintro rfl
 unfold Blk at hb
 rw [h5] at hb
 injection hb with hb
 injection hb with _ e
 subst e
 simp at hT
section
variable {P : Program} {a : Act} {w : World} {n : Nat} {e : Env} {α : Type} {ops : Array Oper} {ty : TypeId} {pos : String} {af : Array Edge} {g : Option (Nat × Bool)} {d : Nat}
theorem Xkq{b0:Nat}{l0:List Value}{Q:Act→World→Prop}{tl:Nat→Bool}{fuel:Nat}{done:List Nat}{T E T0:TypeId}{sz B:Nat}{x y:Operand}{enc:α→List Value}{A:Option Addr}{c:Nat}{l:List α}{k:Nat}{i:Int}{u:α}(j:Nat)
  (ho:ops[j]? = some ⟨some d,.indexAddr T x y,ty,pos,af,g⟩) (hm:mayFirst ops done j=true) (hf:Fr a n e) (hw:Want ops ⟨some d,.indexAddr T x y,ty,pos,af,g⟩ e) (hn:Nat.blt d n=true)
  (hb:Blk w b0 T0 l0) (hT0:Nat.beq E T0=false)
  (hx:ev e x=some (.slice A l.length c)) (hy:ev e y=some (.int .i64 i)) (hT:SliceT P T E) (hs:SizeT P E sz) (hsz:∀ x,(enc x).length=sz) (hr:Rd w B E enc A l) (hk:l[k]? = some u) (hi:i=(k:Int))
  (h:∀ a' p,At w p (enc u)→p.block≠b0→Fr a' n ((d,.pointer (some p))::e)→wpS P ops (some b0) tl Q fuel (mask ops (j::done)) a' w) : wpS P ops (some b0) tl Q (fuel+1) (mask ops done) a w:=by
 obtain ⟨p,rfl,hat,hne⟩:=hr.atV hsz hk hb hT0;exact Xjn j ho hm hf hw rfl hn (fun w=>X7k hf hx hy hT hs hi (Qg.1 hk).1) fun a' hf'=>h a' _ hat hne hf'
theorem Ya{b0:Nat}{l0:List Value}{Q:Act→World→Prop}{tl:Nat→Bool}{fuel:Nat}{done:List Nat}{T E T0:TypeId}{sz B:Nat}{x y:Operand}{enc:α→List Value}{A:Option Addr}{c:Nat}{l:List α}{k:Nat}{i:Int}{u:α}(j:Nat)
  (ho:ops[j]? = some ⟨some d,.indexAddr T x y,ty,pos,af,g⟩) (hw:Want ops ⟨some d,.indexAddr T x y,ty,pos,af,g⟩ e) (hb:Blk w b0 T0 l0) (hT0:Nat.beq E T0=false)
  (hx:ev e x=some (.slice A l.length c)) (hy:ev e y=some (.int .i64 i)) (hT:SliceT P T E) (hs:SizeT P E sz) (hsz:∀ x,(enc x).length=sz) (hr:Rd w B E enc A l) (hk:l[k]? = some u) (hi:i=(k:Int))
  (h:∀ p,At w p (enc u)→p.block≠b0→WS P ops (some b0) tl Q fuel (j::done) n ((d,.pointer (some p))::e) w) (hm:mayFirst ops done j=true:=by kernel_rfl) (hn:Nat.blt d n=true:=by rfl) : WS P ops (some b0) tl Q (fuel+1) done n e w:=
 fun _ hf=>Xkq j ho hm hf hw hn hb hT0 hx hy hT hs hsz hr hk hi fun a' p hp hne hf'=>h p hp hne a' hf'
end
theorem Own.lower{α:Type}{w:World}{B0 B1:Nat}{E:TypeId}{sz:Nat}{enc:α→List Value}{A:Option Addr}{c:Nat}{l:List α}(h:Own w B0 E sz enc A c l)(hB:B1≤B0) : Own w B1 E sz enc A c l:=by
 refine ⟨h.1,?_⟩
 rcases h.2 with h1|⟨g,cap,cur,h1,h2,h3⟩
 ·exact .inl h1
 ·exact .inr ⟨g,cap,cur,h1,Q0 hB h2,h3⟩
section
variable {α : Type} {P : Program} {a : Act} {w : World} {n : Nat} {e : Env} {ty : TypeId} {pos : String} {af : Array Edge} {g : Option (Nat × Bool)} {d : Option Tmp}
theorem Xaz{T E:TypeId}{sz bytes B B2:Nat}{x y:Operand}{enc:α→List Value}{A A2:Option Addr}{c c2:Nat}{l l2:List α}(hf:Fr a n e)(hx:ev e x=some (.slice A l.length c))(hy:ev e y=some (.slice A2 l2.length c2))
  (hT:SliceT P T E) (hi:InfoT P E sz bytes) (hsz:∀ x,(enc x).length=sz) (ho:Rd w B E enc A l) (hr:Rd w B2 E enc A2 l2) (hc:c=l.length) (hl:l≠[]) (hl2:l2≠[]) (h63:l.length+l2.length≤maxLen) (hbytes:(l.length+l2.length)*bytes≤140737488355328) :
  Ef P ⟨d,.call ⟨.builtin .append,#[x,y],#[T,T]⟩,ty,pos,af,g⟩ a w (fun v w'=>∃ A' c',v=.slice A' (l++l2).length c'∧Own w' w.heap.size E sz enc A' c' (l++l2)∧Below w.heap.size w w'):=by
 obtain ⟨i,z,hi1,hi2,rfl,rfl,hi5,hi6⟩:=hi;obtain ⟨b1,off1,cs1,fz1,rfl,_,k1,k2⟩:=ho hl;obtain ⟨b,off,cs,fz,rfl,h2,h3,h4⟩:=hr hl2;have hlen1:=X0x hsz l;have hlen2:=X0x hsz l2
 have hpos:0<l2.length:=List.length_pos_iff.2 hl2
 have h:=run_append_grow (P:=P) w T ty E i z hT hi1 hi2 ⟨b1,off1,none⟩ l.length c (l.flatMap enc) hlen1 (fun j u hu=>by
   have:=k2 j u hu
   rw [X1v]
   simp [World.cell?,k1,this])
  ⟨b,off,none⟩ l2.length c2 (l2.flatMap enc) hlen2 (fun j u hu=>by
   have:=h4 j u hu
   rw [X1v]
   simp [World.cell?,h3,this])
  (by omega) (by simp only [maxLen] at h63;omega) (growslice_fits (by omega) hbytes)
 refine (Ef.of_run (w':=w.drew.alloc (.cells ((l.flatMap enc).toArray++(l2.flatMap enc).toArray++Builtin.zeroCells z.cells (grownCap w (l.length+l2.length) c E-(l.length+l2.length))) E)) (v:=.slice (some ⟨w.heap.size,0,none⟩) (l.length+l2.length) (grownCap w (l.length+l2.length) c E)) ?_).mono fun v w' ⟨e1,e2⟩=>?_
 ·simp [execOp,resolve,invoke,builtin,hf.ev hx,hf.ev hy,h]
 ·subst e1;subst e2
  refine ⟨_,_,by rw [Qh],?_,((Below.refl _ _).drew).alloc (Qb _) _⟩
  refine ⟨X0x hsz _,.inr ⟨w.heap.size,_,_,rfl,Qb _,heap_alloc_new w.drew _,?_,grownCap_le_maxLen w _ _ E h63,?_,?_⟩⟩
  ·rw [Qh];exact grownCap_ge w _ _ E
  ·have hge:=grownCap_ge w (l.length+l2.length) c E
   simp only [Array.size_append,List.size_toArray,size_zeroCells,hi5,hlen1,hlen2,← Wb]
   congr 1
   omega
  ·have e3:(l++l2).length*i.size=(l.flatMap enc++l2.flatMap enc).length:=by rw [Qh,Qh,hlen1,hlen2,Wb]
   rw [e3]
   simp only [Array.toList_append,List.flatMap_append,Qx]
   rw [← Qx]
   exact List.take_left
theorem Xdu{T E:TypeId}{sz bytes B B2:Nat}{x y:Operand}{enc:α→List Value}{A A2:Option Addr}{c c2:Nat}{l l2:List α}(hx:ev e x=some (.slice A l.length c))(hy:ev e y=some (.slice A2 l2.length c2))(hT:SliceT P T E)(hi:InfoT P E sz bytes)(hsz:∀ x,(enc x).length=sz)(ho:Rd w B E enc A l)(hr:Rd w B2 E enc A2 l2)(hc:c=l.length)(hl:l≠[])(hl2:l2≠[])(h63:l.length+l2.length≤maxLen)(hbytes:(l.length+l2.length)*bytes≤140737488355328) : EfW P ⟨d,.call ⟨.builtin .append,#[x,y],#[T,T]⟩,ty,pos,af,g⟩ n e w (fun v w'=>∃ A' c',v=.slice A' (l++l2).length c'∧Own w' w.heap.size E sz enc A' c' (l++l2)∧Below w.heap.size w w'):=fun a hf=>Xaz hf hx hy hT hi hsz ho hr hc hl hl2 h63 hbytes
end
abbrev wr(i:Int) : Int:=IntKind.i64.wrap i
theorem X0h{i:Int}(h1:-9223372036854775808≤i)(h2:i≤9223372036854775807) : wr i=i:=IntWalk.i64_in _ ⟨h1,h2⟩
structure Rg where (a b c d:Int) deriving DecidableEq
structure Dy where (num:Rg) (exp:Int) deriving DecidableEq
structure Gt where (k a b:Int) deriving DecidableEq
def encI(i:Int) : List Value:=[.int .i64 i]
def encR(r:Rg) : List Value:=[.int .i64 r.a,.int .i64 r.b,.int .i64 r.c,.int .i64 r.d]
def encD(x:Dy) : List Value:=[.int .i64 x.num.a,.int .i64 x.num.b,.int .i64 x.num.c,.int .i64 x.num.d,.int .i64 x.exp]
def encG(x:Gt) : List Value:=[.int .i64 x.k,.int .i64 x.a,.int .i64 x.b]
theorem Xa0:∀ x,(encI x).length=1:=fun _=>rfl
theorem Xeq:∀ x,(encR x).length=4:=fun _=>rfl
theorem X06:∀ x,(encD x).length=5:=fun _=>rfl
theorem X1a:∀ x,(encG x).length=3:=fun _=>rfl
theorem X2h:∀ x,(encD x).all one=true:=fun _=>rfl
theorem X2l:∀ x,(encG x).all one=true:=fun _=>rfl
abbrev rV(r:Rg) : Value:=.agg #[.int .i64 r.a,.int .i64 r.b,.int .i64 r.c,.int .i64 r.d]
abbrev dV(x:Dy) : Value:=.agg #[.int .i64 x.num.a,.int .i64 x.num.b,.int .i64 x.num.c,.int .i64 x.num.d,.int .i64 x.exp]
abbrev gV(x:Gt) : Value:=.agg #[.int .i64 x.k,.int .i64 x.a,.int .i64 x.b]
def inR(n lo hi:Int) : Bool:=decide (lo≤n)&&decide (n≤hi)
def rOk(x:Rg) : Bool:=inR x.a (-1000000000) 1000000000&&inR x.b (-1000000000) 1000000000&&inR x.c (-1000000000) 1000000000&&inR x.d (-1000000000) 1000000000
def rAdd(x y:Rg) : Rg:=⟨wr (x.a+y.a),wr (x.b+y.b),wr (x.c+y.c),wr (x.d+y.d)⟩
def rNeg(x:Rg) : Rg:=⟨wr (-x.a),wr (-x.b),wr (-x.c),wr (-x.d)⟩
def rMul(x y:Rg) : Rg:=
 ⟨wr (wr (wr (wr (x.a*y.a)-wr (x.b*y.d))-wr (x.c*y.c))-wr (x.d*y.b)),
 wr (wr (wr (wr (x.a*y.b)+wr (x.b*y.a))-wr (x.c*y.d))-wr (x.d*y.c)),
 wr (wr (wr (wr (x.a*y.c)+wr (x.b*y.b))+wr (x.c*y.a))-wr (x.d*y.d)),
 wr (wr (wr (wr (x.a*y.d)+wr (x.b*y.c))+wr (x.c*y.b))+wr (x.d*y.a))⟩
def rRoot(x:Rg) : Rg:=⟨wr (x.b-x.d),wr (x.a+x.c),wr (x.b+x.d),wr (x.c-x.a)⟩
def rEven(x:Rg) : Bool:=(wr (x.a+x.c)).tmod 2==0&&(wr (x.b+x.d)).tmod 2==0
def rHalf(x:Rg) : Rg:=⟨wr ((rRoot x).a.tdiv 2),wr ((rRoot x).b.tdiv 2),wr ((rRoot x).c.tdiv 2),wr ((rRoot x).d.tdiv 2)⟩
def rOm(x:Rg) : Rg:=⟨wr (-x.d),x.a,x.b,x.c⟩
def rTurnN:Nat→Rg→Rg
 | 0,x=>x
 | k+1,x=>rTurnN k (rOm x)
def turns(k:Int) : Int:=(wr (k.tmod 8+8)).tmod 8
def rTurn(x:Rg)(k:Int) : Rg:=rTurnN (turns k).toNat x
def lowN:Nat→Rg→Rg×Nat
 | 0,x=>(x,0)
 | m+1,x=>if rEven x then lowN m (rHalf x) else (x,m+1)
def dLow(x:Rg)(exp:Int) : Dy:=⟨(lowN exp.toNat x).1,if 0<exp then ((lowN exp.toNat x).2:Int) else exp⟩
def dPow(k:Int) : Dy:=⟨rTurn ⟨1,0,0,0⟩ k,0⟩
def dNeg(x:Dy) : Dy:=⟨rNeg x.num,x.exp⟩
def dZ:Dy:=⟨⟨0,0,0,0⟩,0⟩
theorem X4t{x:Rg}{exp:Int}(h0:0<exp)(he:rEven x=true) : dLow x exp=dLow (rHalf x) (exp-1):=by
 obtain ⟨m,hm⟩ : ∃ m:Nat,exp=m+1:=⟨(exp-1).toNat,by omega⟩
 subst hm
 have e1:((m:Int)+1).toNat=m+1:=by omega
 have e2:((m:Int)+1-1)=m:=by omega
 unfold dLow
 rw [e1,e2,Qj]
 simp only [lowN,he,if_true,h0]
 cases m with
 | zero=>simp [lowN]
 | succ k=>simp
theorem X29{x:Rg}{exp:Int}(h:0<exp→rEven x=false) : dLow x exp=⟨x,exp⟩:=by
 unfold dLow
 by_cases h0:0<exp
 ·obtain ⟨m,hm⟩ : ∃ m:Nat,exp=m+1:=⟨(exp-1).toNat,by omega⟩
  subst hm
  have e1:((m:Int)+1).toNat=m+1:=by omega
  rw [e1]
  simp only [lowN,h h0,Bool.false_eq_true,if_false,h0,if_true]
  rfl
 ·have e1:exp.toNat=0:=by omega
  rw [e1]
  simp [lowN,h0]
section
variable {α : Type} {p : α → Bool} {l : List α} {k : Nat} {u : α}
theorem X66(h:(l.take k).all p=true)(hu:l[k]? = some u)(hp:p u=true) : (l.take (k+1)).all p=true:=by
 rw [Qt,hu]
 simp only [List.all_append,h,Option.toList_some,List.all_cons,hp,List.all_nil,Bool.and_self]
theorem Xb2(hu:l[k]? = some u)(hp:p u=false) : l.all p=false:=by
 obtain ⟨h1,h2⟩:=Qg.1 hu
 subst h2
 rw [List.all_eq_false]
 exact ⟨_,List.getElem_mem h1,by simp [hp]⟩
theorem X4m(h:(l.take k).all p=true)(hk:l.length≤k) : l.all p=true:=by rwa [Qi hk] at h
end
theorem Xab{α:Type}{p:α→Bool}{l:List α}{k:Nat}{u:α}(hu:l[k]? = some u)(hp:p u=true) : l.any p=true:=by
 obtain ⟨h1,h2⟩:=Qg.1 hu
 subst h2
 exact List.any_eq_true.2 ⟨_,List.getElem_mem h1,hp⟩
theorem X8e{α:Type}{p:α→Bool}{l:List α}(h:l.all (fun x=>!p x)=true) : l.any p=false:=by
 rw [W7]
 intro x hx
 have:=W1.1 h x hx
 simpa using this
theorem X4d(k:Int) : 0≤turns k∧turns k<8:=by
 have h1:-8<k.tmod 8∧k.tmod 8<8:=by
  rcases Int.le_total 0 k with h|h
  ·rw [Int.tmod_eq_emod_of_nonneg h];omega
  ·have h2:(-k).tmod 8 = -(k.tmod 8):=Int.neg_tmod _ _
   rw [Int.tmod_eq_emod_of_nonneg (by omega)] at h2
   omega
 unfold turns
 rw [X0h (by omega) (by omega)]
 have h4:0≤k.tmod 8+8:=by omega
 rw [Int.tmod_eq_emod_of_nonneg h4]
 omega
def rIf2(x:Rg)(l:List Rg) : Bool:=(l++[x]).all rOk
def rIf1(x:Rg)(l:List Rg) : Rg:=if rIf2 x l=true then x else ⟨0,0,0,0⟩
def rDiv2(x:Rg) : Bool:=rOk x&&rEven x
def rDiv1(x:Rg) : Rg:=if rDiv2 x=true then rHalf x else ⟨0,0,0,0⟩
theorem X0g{n lo hi:Int} : inR n lo hi=true↔lo≤n∧n≤hi:=by simp [inR]
theorem X1w{x:Rg} : rOk x=true↔(-1000000000≤x.a∧x.a≤1000000000)∧(-1000000000≤x.b∧x.b≤1000000000)∧(-1000000000≤x.c∧x.c≤1000000000)∧(-1000000000≤x.d∧x.d≤1000000000):=by
 simp only [rOk,Qd,X0g,and_assoc]
theorem Xfk{i:Int}(h1:-2000000000≤i)(h2:i≤2000000000) : -1000000000≤i.tdiv 2∧i.tdiv 2≤1000000000:=by
 rcases Int.le_total 0 i with h|h
 ·rw [Int.tdiv_eq_ediv_of_nonneg h];omega
 ·have h3:(-i).tdiv 2 = -(i.tdiv 2):=Int.neg_tdiv _ _
  rw [Int.tdiv_eq_ediv_of_nonneg (by omega)] at h3
  omega
theorem X5e{i:Int}(h1:-2000000000≤i)(h2:i≤2000000000) : -1000000000≤wr ((wr i).tdiv 2)∧wr ((wr i).tdiv 2)≤1000000000:=by
 rw [X0h (i:=i) (by omega) (by omega)]
 have:=Xfk h1 h2
 rw [X0h (by omega) (by omega)]
 exact this
theorem X7f{x:Rg}(h:rOk x=true) : rOk (rHalf x)=true:=by
 rw [X1w] at h ⊢
 exact ⟨X5e (by omega) (by omega),X5e (by omega) (by omega),X5e (by omega) (by omega),X5e (by omega) (by omega)⟩
theorem Xmm{x:Rg}(h:rOk x=true) : rIf2 (rHalf x) [x]=true:=by simp [rIf2,h,X7f h]
def mulOm2(x:Rg)(k:Int) : Bool:=inR k (-1000) 1000&&rOk x
def mulOm1(x:Rg)(k:Int) : Rg:=if mulOm2 x k=true then rTurn x k else ⟨0,0,0,0⟩
def dOk(x:Dy) : Bool:=rOk x.num&&inR x.exp 0 60&&(x.exp==0||!rEven x.num)
theorem X26{x:Dy}(h:dOk x=true) : 0≤x.exp∧x.exp≤60:=by
 simp only [dOk,Qd,X0g] at h
 exact h.1.2
theorem X88{a b c:Bool}(h:(!a||!b||!c)=true) : (a&&b&&c)=false:=by revert h;cases a<;>cases b<;>cases c<;>simp
theorem Xad{a b c:Bool}(h:(!a||!b||!c)=false) : (a&&b&&c)=true:=by revert h;cases a<;>cases b<;>cases c<;>simp
theorem X4w{a b:Bool}(h:(!a||!b)=true) : (a&&b)=false:=by revert h;cases a<;>cases b<;>simp
theorem X5p{a b:Bool}(h:(!a||!b)=false) : (a&&b)=true:=by revert h;cases a<;>cases b<;>simp
theorem Xy2{a b c:Bool}(h:(a&&b&&c)=true) : a=true∧b=true∧c=true:=by revert h;cases a<;>cases b<;>cases c<;>simp
def dOf(x:Rg)(m:Int) : Option Dy:=if (rOk x&&inR m 0 60)=true then some (dLow x m) else none
def raiseI:Nat→Rg→Rg×Bool
 | 0,y=>(y,true)
 | n+1,y=>if rIf2 (rRoot y) [y]=true then raiseI n (rRoot y) else (⟨0,0,0,0⟩,false)
def dRaise(x:Dy)(m:Int) : Rg×Bool:=raiseI (m-x.exp).toNat x.num
theorem Xg8{x:Dy}{m j:Int}{y:Rg}{b:Bool}(h:(if b=true then raiseI (m-j).toNat y else (y,false))=dRaise x m)(hb:b=true)(hj:j<m) :
  (if rIf2 (rRoot y) [y]=true then raiseI (m-(j+1)).toNat (rIf1 (rRoot y) [y]) else (rIf1 (rRoot y) [y],false))=dRaise x m:=by
 rw [← h,Q4 hb]
 obtain ⟨k,hk⟩ : ∃ k,(m-j).toNat=k+1:=⟨(m-j).toNat-1,by omega⟩
 rw [hk,show (m-(j+1)).toNat=k from by omega]
 unfold rIf1
 by_cases hh:rIf2 (rRoot y) [y]=true<;>simp [raiseI,hh]
def dAddI(x y:Dy) : Option Dy:=
 if (dOk x&&dOk y)=true then
  if ((dRaise x (max x.exp y.exp)).2&&(dRaise y (max x.exp y.exp)).2&&rIf2 (rAdd (dRaise x (max x.exp y.exp)).1 (dRaise y (max x.exp y.exp)).1) [(dRaise x (max x.exp y.exp)).1,(dRaise y (max x.exp y.exp)).1])=true then
   dOf (rIf1 (rAdd (dRaise x (max x.exp y.exp)).1 (dRaise y (max x.exp y.exp)).1) [(dRaise x (max x.exp y.exp)).1,(dRaise y (max x.exp y.exp)).1]) (max x.exp y.exp)
  else none
 else none
def dMulI(x y:Dy) : Option Dy:=
 if (dOk x&&dOk y&&rIf2 (rMul x.num y.num) [x.num,y.num])=true then dOf (rIf1 (rMul x.num y.num) [x.num,y.num]) (x.exp+y.exp) else none
structure Mx where (rows cols:Int) (cells:List Dy)
def mZ:Mx:=⟨0,0,[]⟩
abbrev mV(A:Option Addr)(c:Nat)(m:Mx) : Value:=.agg #[.int .i64 m.rows,.int .i64 m.cols,.slice A m.cells.length c]
def isDimB(n:Int) : Bool:=inR n 1 32&&bits .and .i64 n (wr (n-1))==0
def mOk(m:Mx) : Bool:=isDimB m.rows&&isDimB m.cols&&(m.cells.length:Int)==wr (m.rows*m.cols)&&!(m.cells.any fun x=>!dOk x)
def seqO(g:Nat→Option Dy) : Nat→Option (List Dy)
 | 0=>some []
 | n+1=>match seqO g n,g n with
  | some l,some x=>some (l++[x])
  | _,_=>none
theorem X4n{g:Nat→Option Dy}{n:Nat}{l:List Dy}{x:Dy}(h:seqO g n=some l)(hx:g n=some x) : seqO g (n+1)=some (l++[x]):=by simp [seqO,h,hx]
theorem X4z{g:Nat→Option Dy}{n:Nat}(hx:g n=none) : ∀ m,n<m→seqO g m=none
 | 0,h=>by omega
 | m+1,h=>by
  by_cases hm:n=m
  ·subst hm
   simp only [seqO,hx]
   split<;>simp_all
  ·simp only [seqO,X4z hx m (by omega)]
theorem X35{g:Nat→Option Dy} : ∀ {n:Nat} {l:List Dy},seqO g n=some l→l.length=n
 | 0,l,h=>by simp [seqO] at h;subst h;rfl
 | n+1,l,h=>by
  simp only [seqO] at h
  split at h
  ·rename_i l' x h1 h2
   injection h with h
   subst h
   simp [X35 h1]
  ·cases h
def gridG(f:Nat→Nat→Option Dy)(C:Nat)(n:Nat) : Option Dy:=f (n/C) (n % C)
theorem X3a{f:Nat→Nat→Option Dy}{C i j:Nat}(hj:j<C) : gridG f C (i*C+j)=f i j:=by
 unfold gridG
 have h1:(i*C+j)/C=i:=by rw [Wi,Nat.mul_add_div (by omega),Nat.div_eq_of_lt hj];omega
 have h2:(i*C+j) % C=j:=by rw [Wi,Nat.mul_add_mod,Nat.mod_eq_of_lt hj]
 rw [h1,h2]
def matOf(R C:Int)(f:Nat→Nat→Option Dy) : Option Mx:=
 if (isDimB R&&isDimB C)=true then (seqO (gridG f C.toNat) (R.toNat*C.toNat)).map fun l=>⟨R,C,l⟩ else none
def Mx.at(m:Mx)(i j:Nat) : Dy:=m.cells.getD (i*m.cols.toNat+j) dZ
theorem Mx.at_get{m:Mx}{i j:Nat}(h:i*m.cols.toNat+j<m.cells.length) : m.cells[i*m.cols.toNat+j]? = some (m.at i j):=by
 rw [Mx.at,Qa,Qc h];rfl
theorem X24{n:Int}(h:isDimB n=true) : 1≤n∧n≤32:=by
 simp only [isDimB,Qd,X0g] at h
 exact h.1
theorem X2q{m:Mx}(h:mOk m=true) : (1≤m.rows∧m.rows≤32)∧(1≤m.cols∧m.cols≤32)∧m.cells.length=m.rows.toNat*m.cols.toNat:=by
 simp only [mOk,Qd,beq_iff_eq] at h
 obtain ⟨⟨⟨h1,h2⟩,h3⟩,h4⟩:=h;have h1:=X24 h1;have h2:=X24 h2
 refine ⟨h1,h2,?_⟩
 obtain ⟨r,hr⟩ : ∃ r:Nat,m.rows=r:=⟨m.rows.toNat,by omega⟩
 obtain ⟨c,hc⟩ : ∃ c:Nat,m.cols=c:=⟨m.cols.toNat,by omega⟩
 rw [hr] at h1
 rw [hc] at h2
 rw [hr,hc] at h3 ⊢
 have h5:r*c≤32*32:=Nat.mul_le_mul (by omega) (by omega)
 rw [← Int.natCast_mul,X0h (by omega) (by omega)] at h3
 simp only [Qj]
 exact Int.natCast_inj.1 h3
theorem X3u{R C i j:Nat}(hi:i<R)(hj:j<C) : i*C+j<R*C:=by
 have h1:(i+1)*C≤R*C:=Nat.mul_le_mul_right _ hi
 rw [Wb] at h1
 omega
def dotI(a b:Mx)(i j:Nat) : Nat→Option Dy
 | 0=>some dZ
 | n+1=>(dotI a b i j n).bind fun s=>(dMulI (a.at i n) (b.at n j)).bind fun x=>dAddI s x
theorem X8n{a b:Mx}{i j n:Nat}(h:dotI a b i j n=none) : ∀ m,n≤m→dotI a b i j m=none
 | 0,h'=>by
  obtain rfl:n=0:=by omega
  exact h
 | m+1,h'=>by
  by_cases hm:n=m+1
  ·subst hm;exact h
  ·simp [dotI,X8n h m (by omega)]
def mulI(a b:Mx) : Option Mx:=if (mOk a&&mOk b&&a.cols==b.rows)=true then matOf a.rows b.cols fun i j=>dotI a b i j a.cols.toNat else none
def idI(n:Int) : Option Mx:=matOf n n fun i j=>some (if i=j then ⟨⟨1,0,0,0⟩,0⟩ else dZ)
def scaleI(m:Mx)(x:Dy) : Option Mx:=if (mOk m&&dOk x)=true then matOf m.rows m.cols fun i j=>dMulI (m.at i j) x else none
abbrev Za3(x y:Dy):=rIf1 (rAdd ((dRaise x (max x.exp y.exp)).1) ((dRaise y (max x.exp y.exp)).1)) [((dRaise x (max x.exp y.exp)).1),((dRaise y (max x.exp y.exp)).1)]
abbrev Za5(p q:Mx)(i k l j:Nat) : Dy:=(dMulI (p.at i k) (q.at l j)).getD dZ
theorem X6l{P:Program}{t:TypeId}{fs:Array Field}(h:P.underlying t=some (.struct fs)) : P.fieldsOf t=fs:=by simp [Program.fieldsOf,h]
theorem X3y{P:Program}{w:World}{t k:Nat}{xs:Array Value}{v:Value}(h1:OneT P t)(h:xs[k]? = some v) : (part t xs k).run P w=.ok v w:=by
 simp [part,X4j h1,h]
theorem X1o {P : Program} {w : World} {d : Nat} {xs ys : Array Value} {f : Field} {fs : List Field} {k : IntKind} {i j : Int} (hn : f.name ≠ "_") (hT : OneT P f.type) (hu : P.underlying f.type = some (.int k)) (hx : xs[f.offset]? = some (.int .i64 i)) (hy : ys[f.offset]? = some (.int .i64 j))
  {r:Bool} (h:i=j→(Op.eqFields (d+1) xs ys fs).run P w=.ok r w) : (Op.eqFields (d+1) xs ys (f::fs)).run P w=.ok (decide (i=j)&&r) w:=by
 simp only [Op.eqFields,hn,ne_eq,not_false_eq_true,if_true,Sem.run_bind,X3y hT hx,X3y hT hy,Result.andThen_ok,run_equalIn_int _ _ _ _ _ _ _ hu]
 by_cases hij:i=j
 ·subst hij
  simp [h rfl]
 ·simp [hij]
theorem eqR(d:Nat)(x y:Rg)(w:World) : (Op.equalIn (d+2) 51 (rV x) (rV y)).run Tryz.prog w=.ok (decide (x=y)) w:=by
 have hf:=X6l Tryz.underlying51;refine (run_equalIn_struct w (d+1) 51 _ _ (by rw [hf];exact Tryz.underlying51) (by kernel_rfl)).trans ?_
 rw [hf]
 have:decide (x=y)=(decide (x.a=y.a)&&(decide (x.b=y.b)&&(decide (x.c=y.c)&&(decide (x.d=y.d)&&true)))):=by
  obtain ⟨a,b,c,d⟩:=x;obtain ⟨a',b',c',d'⟩:=y
  simp
 rw [this]
 refine X1o (by decide) X9 Tryz.underlying3 rfl rfl fun _=>?_;refine X1o (by decide) X9 Tryz.underlying3 rfl rfl fun _=>?_;refine X1o (by decide) X9 Tryz.underlying3 rfl rfl fun _=>?_;refine X1o (by decide) X9 Tryz.underlying3 rfl rfl fun _=>?_
 rfl
theorem Xiz{P:Program}{w:World}{t k n:Nat}{xs:Array Value}(h1:AggT P t n) : (part t xs k).run P w=.ok (.agg (xs.extract k (k+n))) w:=by
 simp [part,X6v h1,run_sizeOf' h1.2]
theorem Xcg {P : Program} {w : World} {d n : Nat} {xs ys : Array Value} {f : Field} {fs : List Field} {v1 v2 : Value} {b r : Bool} (hn : f.name ≠ "_") (hT : AggT P f.type n) (hx : .agg (xs.extract f.offset (f.offset + n)) = v1) (hy : .agg (ys.extract f.offset (f.offset + n)) = v2)
  (he:(Op.equalIn d f.type v1 v2).run P w=.ok b w) (h:b=true→(Op.eqFields d xs ys fs).run P w=.ok r w) : (Op.eqFields d xs ys (f::fs)).run P w=.ok (b&&r) w:=by
 simp only [Op.eqFields,hn,ne_eq,not_false_eq_true,if_true,Sem.run_bind,Xiz hT,Result.andThen_ok,hx,hy,he]
 cases b
 ·simp
 ·simp [h rfl]
theorem eqD(d:Nat)(x y:Dy)(w:World) : (Op.equalIn (d+3) 53 (dV x) (dV y)).run Tryz.prog w=.ok (decide (x=y)) w:=by
 have hf:=X6l Tryz.underlying53;refine (run_equalIn_struct w (d+2) 53 _ _ (by rw [hf];exact Tryz.underlying53) (by kernel_rfl)).trans ?_
 rw [hf]
 have:decide (x=y)=(decide (x.num=y.num)&&(decide (x.exp=y.exp)&&true)):=by
  obtain ⟨a,b⟩:=x;obtain ⟨a',b'⟩:=y
  simp
 rw [this]
 refine Xcg (v1:=rV x.num) (v2:=rV y.num) (by decide) Xv rfl rfl (eqR d _ _ _) fun _=>?_;exact X1o (by decide) X9 Tryz.underlying3 rfl rfl fun _=>rfl
section
variable {P : Program} {a : Act} {w : World} {n : Nat} {e : Env} {ty : TypeId} {pos : String} {af : Array Edge} {g : Option (Nat × Bool)} {d : Option Tmp} {t t' : TypeId} {x y : Operand} {X Y : Array Value} {b : Bool}
theorem Xpo(hf:Fr a n e)(hx:ev e x=some (.agg X))(hy:ev e y=some (.agg Y))(hm:P.eqGuardType P.depth t=false)(he:∀ w,(Op.equalIn 10000 t (.agg X) (.agg Y)).run P w=.ok b w) : Ev P ⟨d,.binOp .neq t x y t',ty,pos,af,g⟩ a w (.bool (!b)):=fun w' _=>by
 have h1:=run_eqGuard_agg (P:=P) w' .neq t x y X Y hm;have h2:=run_neq_struct (P:=P) w' t X Y
 rw [he] at h2
 simp [execOp,hf.ev hx,hf.ev hy,h1,h2]
theorem X7w(hx:ev e x=some (.agg X))(hy:ev e y=some (.agg Y))(hm:P.eqGuardType P.depth t=false)(he:∀ w,(Op.equalIn 10000 t (.agg X) (.agg Y)).run P w=.ok b w) : EvW P ⟨d,.binOp .neq t x y t',ty,pos,af,g⟩ n e w (.bool (!b)):=fun a hf=>Xpo hf hx hy hm he
end
theorem Xaa:Tryz.prog.eqGuardType Tryz.prog.depth 53=false:=by kernel_rfl
theorem Xd3{α:Type}{l m:List α}{k:Nat}{u v:α}(h:l.take k=m.take k)(hu:l[k]? = some u)(hv:m[k]? = some v)(he:u=v) : l.take (k+1)=m.take (k+1):=by
 rw [Qt,Qt,h,hu,hv,he]
theorem Xu7{P:Program}{a:Act}{w:World}{n:Nat}{e:Env}{ty:TypeId}{pos:String}{af:Array Edge}{g:Option (Nat×Bool)}{d:Option Tmp}{s t:TypeId}{x:Operand}{i:Int}{m:Nat}(hs:P.underlying s=some (.int .i64))(ht:P.underlying t=some (.int .u64))(hf:Fr a n e)(hx:ev e x=some (.int .i64 i))(hi:i=(m:Int))(hm:m≤64) :
  Ev P ⟨d,.convert s t x,ty,pos,af,g⟩ a w (.int .u64 (m:Int)):=fun w' _=>by
 subst hi
 have h:IntKind.u64.wrap (m:Int)=(m:Int):=by
  simp only [IntKind.wrap]
  simp only [IntKind.bits,IntKind.signed,Bool.false_and,Bool.false_eq_true,if_false]
  omega
 simp [execOp,hf.ev hx,convert,X0v hs,X0v ht,Conv.intToInt,h]
theorem Xea{P:Program}{w:World}{n:Nat}{e:Env}{ty:TypeId}{pos:String}{af:Array Edge}{g:Option (Nat×Bool)}{d:Option Tmp}{s t:TypeId}{x:Operand}{i:Int}{m:Nat}(hs:P.underlying s=some (.int .i64))(ht:P.underlying t=some (.int .u64))(hx:ev e x=some (.int .i64 i))(hi:i=(m:Int))(hm:m≤64) : EvW P ⟨d,.convert s t x,ty,pos,af,g⟩ n e w (.int .u64 (m:Int)):=fun a hf=>Xu7 hs ht hf hx hi hm
def bitF(n s q:Int) : Int:=bits .and .i64 (s/2^(n-1-q).toNat) 1
def flipF(n s q:Int) : Int:=bits .xor .i64 s (wr (1*2^(n-1-q).toNat))
def turnOf(k:Int) : Int:=if k=4 then 4 else if k=5 then 2 else if k=6 then 6 else if k=7 then 1 else 7
theorem Xks{k:Int}(h1:4≤k)(h2:k≤8) : ([4,2,6,1,7] : List Int)[(k-4).toNat]? = some (turnOf k):=by
 have:k=4∨k=5∨k=6∨k=7∨k=8:=by omega
 rcases this with rfl|rfl|rfl|rfl|rfl<;>rfl
def dHalf:Dy:=⟨⟨1,0,0,0⟩,1⟩
def oneL(k:Int) : List Dy:=
 if k=1 then [dHalf,dHalf,dHalf,dNeg dHalf] else if k=2 then [dZ,dPow 0,dPow 0,dZ] else if k=3 then [dZ,dPow 6,dPow 2,dZ] else [dPow 0,dZ,dZ,dPow (turnOf k)]
theorem Own.of_blkL{α:Type}{w:World}{B0 b k:Nat}{E:TypeId}{sz:Nat}{enc:α→List Value}{cs:List Value}{l:List α}(hsz:∀ x,(enc x).length=sz)(h:Blk w b E cs)(hb:B0≤b)(hc:l.flatMap enc=cs)(hl:l.length=k)(hk:k≤maxLen) : Own w B0 E sz enc (some ⟨b,0,none⟩) k l:=by
 subst hc;subst hl
 have h1:=X0x hsz l
 refine ⟨h1,.inr ⟨b,l.length,_,rfl,hb,h,Qb _,hk,?_,?_⟩⟩
 ·simpa using h1
 ·rw [← h1];exact List.take_length
structure Cx where (n:Int) (gs:List Gt)
def gOk(n:Int)(x:Gt) : Bool:=
 inR n 1 5&&inR x.k 1 12&&(if x.k=12 then x.a==0&&x.b==0 else if inR x.k 9 11=true then inR x.a 0 (n-1)&&inR x.b 0 (n-1)&&x.a != x.b else inR x.a 0 (n-1)&&x.b==0)
def cOk(c:Cx) : Bool:=inR c.n 1 5&&decide ((c.gs.length:Int)≤400)&&!(c.gs.any fun x=>!gOk c.n x)
def eqPhT(p q:Mx)(k:Nat) : Bool:=(scaleI q (dPow k)).isSome&&(decide (p.rows=((scaleI q (dPow k)).getD mZ).rows)&&decide (p.cols=((scaleI q (dPow k)).getD mZ).cols)&&decide (p.cells=((scaleI q (dPow k)).getD mZ).cells))
def eqPh(p q:Mx) : Bool:=(List.range 8).any (eqPhT p q)
theorem Xiy{f:Nat→Bool}{k:Nat}(h:k<8)(hf:f k=true) : (List.range 8).any f=true:=List.any_eq_true.2 ⟨k,W2.2 h,hf⟩
theorem Xa7{f:Nat→Bool}(h:∀ k<8,f k=false) : (List.range 8).any f=false:=by
 rw [W7]
 intro k hk
 simp [h k (W2.1 hk)]
def sRing(x:Rg) : Rg:=if rOk x=true then x else ⟨0,0,0,0⟩
def sRaiseN:Nat→Bool→Dy→Bool×Dy
 | 0,f,x=>(f,x)
 | n+1,f,x=>sRaiseN n (f||!rOk (rRoot x.num)) ⟨sRing (rRoot x.num),x.exp+1⟩
def sAdd(f:Bool)(x y:Dy) : Bool×Dy:=
 ((sRaiseN ((sRaiseN (y.exp-x.exp).toNat f x).2.exp-y.exp).toNat (sRaiseN (y.exp-x.exp).toNat f x).1 y).1||!rOk (rAdd (sRaiseN (y.exp-x.exp).toNat f x).2.num (sRaiseN ((sRaiseN (y.exp-x.exp).toNat f x).2.exp-y.exp).toNat (sRaiseN (y.exp-x.exp).toNat f x).1 y).2.num),
 dLow (sRing (rAdd (sRaiseN (y.exp-x.exp).toNat f x).2.num (sRaiseN ((sRaiseN (y.exp-x.exp).toNat f x).2.exp-y.exp).toNat (sRaiseN (y.exp-x.exp).toNat f x).1 y).2.num)) (sRaiseN (y.exp-x.exp).toNat f x).2.exp)
def sMul(f:Bool)(x y:Dy) : Bool×Dy:=
 if 60<x.exp+y.exp then (true,dZ) else (f||!rOk (rMul x.num y.num),dLow (sRing (rMul x.num y.num)) (x.exp+y.exp))
theorem X8z{f1 f:Bool}{x1 x:Dy}{m:Int}{k:Nat}(h:sRaiseN (m-x1.exp).toNat f1 x1=sRaiseN k f x)(hlt:x1.exp<m) :
  sRaiseN (m-(x1.exp+1)).toNat (f1||!rOk (rRoot x1.num)) ⟨sRing (rRoot x1.num),x1.exp+1⟩=sRaiseN k f x:=by
 rw [← h]
 obtain ⟨j,hj⟩ : ∃ j,(m-x1.exp).toNat=j+1:=⟨(m-x1.exp).toNat-1,by omega⟩
 rw [hj,show (m-(x1.exp+1)).toNat=j from by omega]
 rfl
theorem X90{f1 f:Bool}{x1 x:Dy}{m:Int}{k:Nat}(h:sRaiseN (m-x1.exp).toNat f1 x1=sRaiseN k f x)(hlt:¬ x1.exp<m) : sRaiseN k f x=(f1,x1):=by
 rw [← h,show (m-x1.exp).toNat=0 from by omega]
 rfl
theorem X3j(n s q:Int) : bitF n s q=0∨bitF n s q=1:=by
 have key:∀ b:BitVec 64,IntKind.i64.wrap ((b &&& BitVec.ofInt 64 1).toNat:Int)=0∨IntKind.i64.wrap ((b &&& BitVec.ofInt 64 1).toNat:Int)=1:=fun b=>by
  have:(BitVec.ofInt 64 1).toNat=1:=by decide
  have h:(b &&& BitVec.ofInt 64 1).toNat=0∨(b &&& BitVec.ofInt 64 1).toNat=1:=by
   rw [BitVec.toNat_and,this,Nat.and_one_is_mod]
   omega
  rcases h with h|h<;>rw [h]
  ·exact .inl rfl
  ·exact .inr rfl
 exact key _
theorem X28{n:Int}{g:Gt}(h:gOk n g=true) : (1≤n∧n≤5)∧(1≤g.k∧g.k≤12)∧(g.k≠12→0≤g.a∧g.a<n)∧(9≤g.k∧g.k≤11→0≤g.b∧g.b<n∧g.a≠g.b):=by
 simp only [gOk,Qd,X0g] at h
 obtain ⟨⟨h1,h2⟩,h3⟩:=h
 refine ⟨h1,h2,fun hk=>?_,fun hk=>?_⟩
 ·rw [Q3 hk] at h3
  split at h3<;>simp only [Qd,X0g] at h3<;>omega
 ·rw [Q3 (by omega),Q4 hk] at h3
  simp only [Qd,X0g,bne_iff_ne] at h3
  exact ⟨h3.1.2.1,by omega,h3.2⟩
def toS(n:Int)(g:Gt)(col:Int) : Int:=
 if g.k=9 then (if bitF n col g.a=1 then flipF n col g.b else col) else if g.k=11 then (if bitF n col g.a≠bitF n col g.b then flipF n (flipF n col g.a) g.b else col) else col
def valS(n:Int)(g:Gt)(col:Int) : Dy:=if g.k=12 then dPow 1 else if g.k=10∧bitF n col g.a=1∧bitF n col g.b=1 then dPow 4 else dPow 0
def cellS(n:Int)(g:Gt)(row col:Int) : Dy:=
 if g.k≤8 then (if bits .andNot .i64 (bits .xor .i64 row col) (wr (1*2^(n-1-g.a).toNat))≠0 then dZ else (oneL g.k).getD (2*bitF n row g.a+bitF n col g.a).toNat dZ)
 else if row=toS n g col then valS n g col else dZ
theorem Xjq(k:Int) : (oneL k).length=4:=by unfold oneL;split<;>(try split)<;>(try split)<;>rfl
theorem Xm2{k:Int}{m:Nat}(h:m<4) : (oneL k)[m]? = some ((oneL k).getD m dZ):=by
 rw [Qa,Qc (by rw [Xjq];exact h)];rfl
theorem X19{i j:Int}(h:(i==j)=false) : ¬ i=j:=by simpa using h
theorem Xr0{P:Program}{a:Act}{w:World}{n:Nat}{e:Env}{ty:TypeId}{pos:String}{af:Array Edge}{g:Option (Nat×Bool)}{d:Option Tmp}{t t':TypeId}{x y:Operand}{j:Int}{k:IntKind}{m D:Nat}(hf:Fr a n e)(hx:ev e x=some (.int .i64 1))(hy:ev e y=some (.int k j))(hj:j=(m:Int))(hD:D=2^m∧m≤30) : Ev P ⟨d,.binOp .shl t x y t',ty,pos,af,g⟩ a w (.int .i64 (D:Int)):=by
 have h:=Xn2 (P:=P) (w:=w) (d:=d) (ty:=ty) (pos:=pos) (af:=af) (g:=g) (t:=t) (t':=t') (i:=1) hf hx hy hj (by omega)
 have h2:IntKind.i64.wrap (1*2^m)=(D:Int):=by
  rw [hD.1]
  have h3:(2:Nat)^m≤2^30:=Nat.pow_le_pow_right (by decide) hD.2
  have h4:(2:Int)^m=((2^m:Nat) : Int):=by simp
  rw [Int.one_mul,h4]
  exact IntWalk.i64_in _ ⟨by omega,by omega⟩
 rwa [h2] at h
theorem Xet{P:Program}{w:World}{n:Nat}{e:Env}{ty:TypeId}{pos:String}{af:Array Edge}{g:Option (Nat×Bool)}{d:Option Tmp}{t t':TypeId}{x y:Operand}{j:Int}{k:IntKind}{m D:Nat}(hx:ev e x=some (.int .i64 1))(hy:ev e y=some (.int k j))(hj:j=(m:Int))(hD:D=2^m∧m≤30) : EvW P ⟨d,.binOp .shl t x y t',ty,pos,af,g⟩ n e w (.int .i64 (D:Int)):=fun a hf=>Xr0 hf hx hy hj hD
def gridF(f:Nat→Nat→Dy)(C:Nat)(m:Nat) : Dy:=f (m/C) (m % C)
def gridL(f:Nat→Nat→Dy)(C:Nat)(N:Nat) : List Dy:=(List.range N).map (gridF f C)
theorem Xew{f:Nat→Nat→Dy}{C i j:Nat}(hj:j<C) : gridF f C (i*C+j)=f i j:=by
 unfold gridF
 have h1:(i*C+j)/C=i:=by rw [Wi,Nat.mul_add_div (by omega),Nat.div_eq_of_lt hj];omega
 have h2:(i*C+j) % C=j:=by rw [Wi,Nat.mul_add_mod,Nat.mod_eq_of_lt hj]
 rw [h1,h2]
theorem X77{f:Nat→Nat→Dy}{C i j:Nat}(hj:j<C) : gridL f C (i*C+(j+1))=gridL f C (i*C+j)++[f i j]:=by
 unfold gridL
 rw [show i*C+(j+1)=(i*C+j)+1 from rfl,List.range_succ,List.map_append,List.map_singleton,Xew hj]
theorem X2p(f:Nat→Nat→Dy)(C N:Nat) : (gridL f C N).length=N:=by simp [gridL]
def gateS(n:Int)(g:Gt) : Mx:=⟨((2^n.toNat:Nat) : Int),((2^n.toNat:Nat) : Int),gridL (fun i j=>cellS n g i j) (2^n.toNat) (2^n.toNat*2^n.toNat)⟩
theorem X5v{n:Int}(h:n≤5) : 2^n.toNat≤32:=Nat.pow_le_pow_right (n:=2) (by decide) (show n.toNat≤5 by omega)
def dTurn(k:Int)(x:Dy) : Dy:=⟨rTurn x.num k,x.exp⟩
def turnedS(p q:Mx)(k:Int) : Bool:=decide (p.rows=q.rows)&&decide (p.cols=q.cols)&&decide (p.cells=q.cells.map (dTurn k))
def phaseS(p q:Mx) : Bool:=(List.range 8).any fun k=>turnedS p q (k:Int)
section
variable {n : Int} {g : Gt} (hn : 1 ≤ n ∧ n ≤ 5)
include hn
end
def entryI(k i j:Int) : Dy:=
 if k=1 then (if i=1∧j=1 then ⟨⟨-1,0,0,0⟩,1⟩ else dHalf) else if k=2∧i≠j then ⟨⟨1,0,0,0⟩,0⟩ else if k=3∧i≠j then dPow (2+4*j)
 else if k=2∨k=3∨i≠j then dZ else if i=0 then ⟨⟨1,0,0,0⟩,0⟩ else dPow (turnOf k)
theorem Xil{k:Int}(h1:4≤k)(h2:k≤8) : (([(4,4,0),(5,2,1),(6,6,2),(7,1,3),(8,7,4)] : List (Int×Int×Nat)).find? fun p=>p.1==k).map (fun p=>p.2.1)=some (turnOf k):=by
 have:k=4∨k=5∨k=6∨k=7∨k=8:=by omega
 rcases this with rfl|rfl|rfl|rfl|rfl<;>rfl
theorem Xip(k:Int) : inR (turnOf k) (-1000) 1000=true:=by
 unfold turnOf;split<;>(try split)<;>(try split)<;>(try split)<;>rfl
def czI(n:Int)(g:Gt)(i:Int) : Bool:=g.k==10&&bitF n i g.a==1&&bitF n i g.b==1
def cellI(n:Int)(g:Gt)(i j:Int) : Dy:=
 if g.k=12 then (if i=j then dPow 1 else dZ)
 else if inR g.k 9 11=true then (if toS n g i=j then dPow (4*(if czI n g i=true then 1 else 0)) else dZ)
 else if i=j∨flipF n i g.a=j then entryI g.k (bitF n i g.a) (bitF n j g.a) else dZ
def gateI(n:Int)(g:Gt) : Option Mx:=if gOk n g=true then matOf ((2^n.toNat:Nat) : Int) ((2^n.toNat:Nat) : Int) fun i j=>some (cellI n g i j) else none
theorem F91(w0:World)(n:Int)(lo:Int)(hi:Int) : Ret Tryz.prog 36 [vi n,vi lo,vi hi] w0 (fun v w=>v=.bool (inR n lo hi)∧w0=w):=by
 refine enter Tryz.func36 rfl 15 rfl rfl ?_;intro a c
 have hW:=bz w0
 refine Zs c fun _ aA=>?_;refine Za rfl<|ZX aA fun a c _ aB=>?_;refine X02 (fun a w=>Fr a 15 [(6,.bool ((decide (lo≤n))&&(decide (n≤hi))))]∧w0=w) ?_ ?_
 ·refine Zr c<|Zm rfl<|Zm rfl<|Ze (Xat rfl rfl)<|Zm rfl ?_
  refine Zg 10 rfl (fun b=>?_) (fun b=>?_)
  ·refine Zv (gW b) (X7 rfl) ?_;refine Zv (gW b) (X7 rfl) ?_;refine Zv (gW b) (Xat rfl rfl) ?_;refine Ze (Xe rfl b rfl)<|Za rfl ?_;refine Zn fun a c=>?_;exact ⟨c.sub ⟨X2 rfl (by first|rfl|(simp only [b,bs];done)|simp [b]),trivial⟩,rfl⟩
  refine Zp (gP b) ?_;refine Zp (gP b) ?_;refine Zp (gP b) ?_;refine Ze (Xc rfl b rfl)<|Za rfl ?_;refine Zn fun a c=>?_;exact ⟨c.sub ⟨X2 rfl (by first|rfl|(simp only [b,bs];done)|simp [b]),trivial⟩,rfl⟩
 rintro a _ ⟨c,rfl⟩;refine aB _ _ ?_
 refine Q6 (X4 c (Xx c rfl rfl) ?_)
 exact ⟨by simp [inR, *],rfl⟩
theorem F85(w0:World)(n:Int)(lo:Int)(hi:Int) : Ret Tryz.prog 50 [vi n,vi lo,vi hi] w0 (fun v w=>v=.bool (inR n lo hi)∧w0=w):=by
 refine enter Tryz.func50 rfl 15 rfl rfl ?_;intro a c
 have hW:=bz w0
 refine Zs c fun _ aA=>?_;refine Za rfl<|ZX aA fun a c _ aB=>?_;refine X02 (fun a w=>Fr a 15 [(6,.bool ((decide (lo≤n))&&(decide (n≤hi))))]∧w0=w) ?_ ?_
 ·refine Zr c<|Zm rfl<|Zm rfl<|Ze (Xdd rfl rfl)<|Zm rfl ?_
  refine Zg 10 rfl (fun b=>?_) (fun b=>?_)
  ·refine Zv (gW b) (X7 rfl) ?_;refine Zv (gW b) (X7 rfl) ?_;refine Zv (gW b) (Xat rfl rfl) ?_;refine Ze (Xe rfl b rfl)<|Za rfl ?_;refine Zn fun a c=>?_;exact ⟨c.sub ⟨X2 rfl (by first|rfl|(simp only [b,bs];done)|simp [b]),trivial⟩,rfl⟩
  refine Zp (gP b) ?_;refine Zp (gP b) ?_;refine Zp (gP b) ?_;refine Ze (Xc rfl b rfl)<|Za rfl ?_;refine Zn fun a c=>?_;exact ⟨c.sub ⟨X2 rfl (by first|rfl|(simp only [b,bs];done)|simp [b]),trivial⟩,rfl⟩
 rintro a _ ⟨c,rfl⟩;refine aB _ _ ?_
 refine Q6 (X4 c (Xx c rfl rfl) ?_)
 exact ⟨by simp [inR, *],rfl⟩
theorem F99(w0:World)(k:Int) : Ret Tryz.prog 112 [vi k] w0 (fun v w=>v=.bool (inR k 9 11)∧w0=w):=by
 refine enter Tryz.func112 rfl 5 rfl rfl ?_;intro a hf
 have hW:=bz w0
 refine Zs hf fun _ aA=>?_;refine Za rfl<|Zx aA fun a hf _ aB=>?_;refine Zm rfl<|Zf (Vc (F91 _ k 9 11) X36) ?_;rintro _ _ ⟨rfl,rfl⟩;refine Za rfl<|Zt aB fun a hf=>?_
 refine Q6 (X4 hf (Xx hf rfl rfl) ?_)
 exact ⟨rfl,rfl⟩
theorem Y0n(e:World)(Al:Option Addr)(cl:Nat)(l:List Int)(aE:Rd e e.heap.size 3 encI Al l)(lo:Int)(f:Int)(aR:l.length≤2305843009213693951) : Ret Tryz.prog 183 [.slice Al l.length cl,vi lo,vi f] e (fun v w=>v=.bool (l.all fun n=>inR n lo f)∧Below e.heap.size e w):=by
 refine enter Tryz.func183 rfl 21 rfl rfl ?_;intro a b
 have hW:=bz e
 refine Zs b fun _ aK=>?_;refine Za rfl<|ZX aK fun a b _ aL=>?_;refine Zs b fun _ aM=>?_;refine Zm rfl<|Ze (X2k rfl X6a)<|Zm rfl<|Zt aM fun a b=>?_;refine Q8<|X07 (σ:=Nat) (fun (k:Nat) (a:Act) (w:World)=>Fr a 21 [(1,vi lo),(2,vi f),(9,.slice Al l.length cl),(10,vi (l.length:Int)),(11,vi (k:Int))]∧(k≤l.length)∧((l.take k).all (fun n=>inR n lo f)=true)∧Below e.heap.size e w) (fun (k:Nat)=>l.length+1-k) 0 ?_ ?_
 ·exact ⟨b.sb,(Qf _),(by simp),hW⟩
 rintro k a w1 ⟨b,hk,g,hW⟩;refine Zs b fun _ aN=>?_;refine Ze (X1h rfl rfl)<|ZX aN fun a b _ aO=>?_
 refine Xl b rfl (fun d=>?_) (fun d=>?_)
 ·have aF:=d;have d:=Q2 d
  obtain ⟨u8,aA⟩:=Xw (l:=l) (k:=k) (by omega)
  refine Q7<|aO _ _<|Q5 fun _ aP=>?_;refine Q8<|Zs b fun _ aG=>?_;refine Zi (k:=k) (u:=u8) (enc:=encI) (l:=l) trivial rfl rfl X6a X65 Xa0 (aE.below' hW) aA rfl ?_;intro aS aB;refine Ze (X0 rfl X9 aB)<|Za rfl<|Zx aG fun a b _ aH=>?_;refine Zm rfl<|Zm rfl<|Zm rfl<|Zf (Vc (F85 _ u8 lo f) Xjh) ?_;rintro _ _ ⟨rfl,rfl⟩;refine Ze (X0o rfl)<|Zt aH fun a b=>?_
  refine Xl b rfl (fun c=>?_) (fun c=>?_)
  ·have aC:=c
   have aD:(l.all fun n=>inR n lo f)=false:=Xb2 aA (by simpa using c)
   refine Zs b fun _ aI=>?_;refine Za rfl<|Zt aI fun a b=>?_;refine Q6<|X05<|Xf<|Xf ?_;refine X05<|Xf<|X4 b (Xx b rfl rfl) ?_;exact ⟨by rw [aD],hW⟩
  have aC:=c
  have aQ:inR u8 lo f=true:=by simpa using c
  refine Q7<|Xn<|aP _ _<|Zr b ?_;refine Ze (X03 rfl rfl (by omega) (by omega))<|Zm rfl ?_;refine Zn fun a b=>?_;refine Xo ?_;exact ⟨k+1,⟨b.sb,(by omega),(X66 g aA aQ),hW⟩,(by omega)⟩
 have aF:=d;have d:=Q1 d;refine Q9<|Xm<|Xm<|X08 ?_;refine aL _ _<|Zs b fun _ aJ=>?_;refine Za rfl<|Zt aJ fun a b=>?_
 refine Q6 (X4 b (Xx b rfl rfl) ?_)
 have aD:(l.all fun n=>inR n lo f)=true:=X4m g (by omega)
 exact ⟨by rw [aD],hW⟩
theorem Y0q(w0:World)(x:Rg) : Ret Tryz.prog 171 [.agg #[vi x.a,vi x.b,vi x.c,vi x.d]] w0 (fun v w=>v=.bool (rOk x)∧Below w0.heap.size w0 w):=by
 refine enter Tryz.func171 rfl 13 rfl rfl ?_;intro a hf
 have e:=bz w0
 refine Zs hf fun _ aB=>?_;refine Zf (X0j (zs:=[vi x.a,vi x.b,vi x.c,vi x.d]) rfl rfl) ?_;rintro _ w1 ⟨b2,rfl,aC,hE,f⟩;have aF:=Q0 e.size aC;have e:=btr e hE;refine Za rfl<|Zx aB fun a hf _ aD=>?_;refine Ze (Vd rfl X0c 0)<|Ze (X0 rfl X9 (f.at 0))<|Ze (Vd rfl X0a 1)<|Ze (X0 rfl X9 (f.at 1))<|Ze (Vd rfl X0d 2)<|Ze (X0 rfl X9 (f.at 2))<|Ze (Vd rfl X0f 3)<|Ze (X0 rfl X9 (f.at 3))<|Zf (Xb (k:=4) (vs:=[vi x.a,vi x.b,vi x.c,vi x.d]) (zs:=[vi x.a,vi x.b,vi x.c,vi x.d]) rfl X6a Xbc rfl rfl) ?_;rintro _ w2 ⟨b4,rfl,aE,hE,aA⟩;have aG:=Q0 e.size aE;have e:=btr e hE;refine Zf (Vc (Y0n _ (some ⟨b4,0,none⟩) 4 ([x.a,x.b,x.c,x.d]) (Rd.of_blk aA rfl _ aA.lt) (-1000000000) 1000000000 (by simp)) Xuq) ?_;rintro _ w3 ⟨rfl,hE⟩;have e:=btr e hE;refine Za rfl<|Zt aD fun a hf=>?_
 refine Q6 (X4 hf (Xx hf rfl rfl) ?_)
 exact ⟨by simp [rOk,Bool.and_assoc],e⟩
theorem Y05(w0:World)(x:Rg)(k:Int) : Ret Tryz.prog 126 [.agg #[vi x.a,vi x.b,vi x.c,vi x.d],vi k] w0 (fun v w=>v=rV (rTurn x k)∧Below w0.heap.size w0 w):=by
 refine enter Tryz.func126 rfl 24 rfl rfl ?_;intro a f
 have n:=bz w0
 refine Zs f fun _ aG=>?_;refine Zf (X0j (zs:=[vi x.a,vi x.b,vi x.c,vi x.d]) rfl rfl) ?_;rintro _ w1 ⟨b2,rfl,aH,hE,e⟩;have aA:=Q0 n.size aH;have n:=btr n hE;refine Zf (X3 (zs:=[vi 0,vi 0,vi 0,vi 0]) X1y rfl) ?_;rintro _ w2 ⟨b3,rfl,aI,hE,g⟩
 have aF:b2≠b3:=by have:=e.lt;omega
 have aB:=Q0 n.size aI;have e:=e.below hE;have n:=btr n hE;refine ZX aG fun a f _ aJ=>?_;refine Zs f fun _ aK=>?_;refine Zm rfl<|Ze (X67 rfl rfl rfl)<|Ze (X2x rfl rfl)<|Ze (X67 rfl rfl rfl)<|Za rfl<|Zt aK fun a f=>?_;refine Q8 ?_
 have hj:turns k=((turns k).toNat:Int):=by have:=X4d k;omega
 rw [show (wr (k.tmod 8+8)).tmod 8=turns k from rfl,hj] at f
 have aL:=(X4d k).2;refine X07 (σ:=Rg×Nat) (fun (s:Rg×Nat) (a:Act) (w:World)=>match s with|(y,j)=>Fr a 24 [(1,vi (j:Int)),(2,.pointer (some ⟨b2,0,none⟩)),(4,.pointer (some ⟨b3,0,none⟩))]∧(rTurnN j y=rTurn x k)∧(j<8)∧Blk w b2 51 [vi y.a,vi y.b,vi y.c,vi y.d]∧Blk w b3 51 [vi 0,vi 0,vi 0,vi 0]∧Below w0.heap.size w0 w) (fun (s:Rg×Nat)=>match s with|(y,j)=>j) (x,(turns k).toNat) ?_ ?_
 ·exact ⟨f.sb,rfl,(by omega),e,g,n⟩
 rintro ⟨y,j⟩ a w3 ⟨f,o,aL,e,g,n⟩;refine Q5 fun _ aM=>?_;refine Zs f fun _ aN=>?_;refine Zm rfl<|Ze (X72 rfl rfl)<|Zt aN fun a f=>?_
 refine Xl f rfl (fun i=>?_) (fun i=>?_)
 ·have aC:=i;have i:=Q2 i;refine Q7<|aM _ _<|Q5 fun _ aO=>?_;refine Q8<|Zr f<|Ze (Vd rfl X0f 3)<|Ze (X0 rfl X9 (e.at 3))<|Ze (X8g rfl)<|Ze (Vd rfl X0c 0)<|Ze (X0 rfl X9 (e.at 0))<|Ze (Vd rfl X0a 1)<|Ze (X0 rfl X9 (e.at 1))<|Ze (Vd rfl X0d 2)<|Ze (X0 rfl X9 (e.at 2))<|Ze (Xg (ps:=[(0,vi (wr (-y.d))),(1,vi y.a),(2,vi y.b),(3,vi y.c)]) (cs:=[vi (wr (-y.d)),vi y.a,vi y.b,vi y.c]) rfl (fun _=>by first|rfl|kernel_rfl)) ?_;refine Zo (Vw [vi (wr (-y.d)),vi y.a,vi y.b,vi y.c] X0w e) ?_;rintro _ w4 ⟨ho,hb⟩;have aD:=e;have g:=g.only ho (by omega);have n:=Below.only n ho aA;have e:=hb;refine Zn fun a f=>?_;refine Xn<|aO _ _<|Zr f<|Zm rfl<|Ze (X1m rfl rfl (by omega) (by omega))<|Za rfl ?_;refine Zn fun a f=>?_
  have aP:((j:Int)-1)=((j-1:Nat) : Int):=by omega
  rw [aP] at f
  refine Xo ?_;exact ⟨(rOm y,j-1),⟨f.sb,(by rw [← o];obtain ⟨m,rfl⟩ : ∃ m,j=m+1:=⟨j-1,by omega⟩;rfl),(by omega),e,g,n⟩,(by first|omega|(dsimp only;omega))⟩
 have aC:=i;have i:=Q1 i;refine Q9<|Xm<|Xm<|X08 ?_;refine aJ _ _<|Zs f fun _ aE=>?_;refine Ze (Vn Xv e)<|Zo (Vw [vi y.a,vi y.b,vi y.c,vi y.d] X0w g) ?_;rintro _ w5 ⟨ho,hb⟩;have aD:=g;have n:=Below.only n ho aB;have g:=hb;refine Zt aE fun a f=>?_
 refine Q6 (X4 f (Xx f rfl (ResV.cellN (l:=[vi y.a,vi y.b,vi y.c,vi y.d]) rfl Xv (g.at 0) rfl)) ?_)
 have aQ:j=0:=by omega
 subst aQ
 rw [← o]
 exact ⟨rfl,n⟩
theorem Xv8(w0:World)(x:Rg) : Ret Tryz.prog 149 [.agg #[vi x.a,vi x.b,vi x.c,vi x.d]] w0 (fun v w=>v=rV (rRoot x)∧Below w0.heap.size w0 w):=by
 refine enter Tryz.func149 rfl 24 rfl rfl ?_;intro a hf
 have f:=bz w0
 refine Zs hf fun _ aC=>?_;refine Zf (X0j (zs:=[vi x.a,vi x.b,vi x.c,vi x.d]) rfl rfl) ?_;rintro _ w1 ⟨b2,rfl,aD,hE,e⟩;have aG:=Q0 f.size aD;have f:=btr f hE;refine Zf (X3 (zs:=[vi 0,vi 0,vi 0,vi 0]) X1y rfl) ?_;rintro _ w2 ⟨b3,rfl,aE,hE,g⟩
 have aB:b2≠b3:=by have:=e.lt;omega
 have aA:=Q0 f.size aE;have e:=e.below hE;have f:=btr f hE;refine Zx aC fun a hf _ aF=>?_;refine Ze (Vd rfl X0a 1)<|Ze (X0 rfl X9 (e.at 1))<|Ze (Vd rfl X0f 3)<|Ze (X0 rfl X9 (e.at 3))<|Ze (X3t rfl rfl)<|Ze (Vd rfl X0c 0)<|Ze (X0 rfl X9 (e.at 0))<|Ze (Vd rfl X0d 2)<|Ze (X0 rfl X9 (e.at 2))<|Ze (X2x rfl rfl) ?_;refine Ze (Vd rfl X0a 1)<|Ze (X0 rfl X9 (e.at 1))<|Ze (Vd rfl X0f 3)<|Ze (X0 rfl X9 (e.at 3))<|Ze (X2x rfl rfl)<|Ze (Vd rfl X0d 2)<|Ze (X0 rfl X9 (e.at 2))<|Ze (Vd rfl X0c 0)<|Ze (X0 rfl X9 (e.at 0))<|Ze (X3t rfl rfl) ?_;refine Ze (Xg (ps:=[(0,vi (wr (x.b-x.d))),(1,vi (wr (x.a+x.c))),(2,vi (wr (x.b+x.d))),(3,vi (wr (x.c-x.a)))]) (cs:=[vi (wr (x.b-x.d)),vi (wr (x.a+x.c)),vi (wr (x.b+x.d)),vi (wr (x.c-x.a))]) rfl (fun _=>by first|rfl|kernel_rfl))<|Zo (Vw [vi (wr (x.b-x.d)),vi (wr (x.a+x.c)),vi (wr (x.b+x.d)),vi (wr (x.c-x.a))] X0w g) ?_;rintro _ w3 ⟨ho,hb⟩;have aH:=g;have f:=Below.only f ho aA;have g:=hb;refine Zt aF fun a hf=>?_
 refine Q6 (X4 hf (Xx hf rfl (ResV.cellN (l:=[vi (wr (x.b-x.d)),vi (wr (x.a+x.c)),vi (wr (x.b+x.d)),vi (wr (x.c-x.a))]) rfl Xv (g.at 0) rfl)) ?_)
 exact ⟨rfl,f⟩
theorem Y0r(w0:World)(x:Rg)(y:Rg) : Ret Tryz.prog 151 [.agg #[vi x.a,vi x.b,vi x.c,vi x.d],.agg #[vi y.a,vi y.b,vi y.c,vi y.d]] w0 (fun v w=>v=rV (rAdd x y)∧Below w0.heap.size w0 w):=by
 refine enter Tryz.func151 rfl 26 rfl rfl ?_;intro a hf
 have g:=bz w0
 refine Zs hf fun _ aE=>?_;refine Zf (X0j (zs:=[vi x.a,vi x.b,vi x.c,vi x.d]) rfl rfl) ?_;rintro _ w1 ⟨b2,rfl,aF,j,e⟩;have aJ:=Q0 g.size aF;have g:=btr g j;refine Zf (X0j (zs:=[vi y.a,vi y.b,vi y.c,vi y.d]) rfl rfl) ?_;rintro _ w2 ⟨b3,rfl,aG,j,f⟩
 have aB:b2≠b3:=by have:=e.lt;omega
 have aK:=Q0 g.size aG;have e:=e.below j;have g:=btr g j;refine Zf (X3 (zs:=[vi 0,vi 0,vi 0,vi 0]) X1y rfl) ?_;rintro _ w3 ⟨b4,rfl,aH,j,i⟩
 have aC:b2≠b4:=by have:=e.lt;omega
 have aD:b3≠b4:=by have:=f.lt;omega
 have aA:=Q0 g.size aH;have e:=e.below j;have f:=f.below j;have g:=btr g j;refine Zx aE fun a hf _ aI=>?_;refine Ze (Vd rfl X0c 0)<|Ze (X0 rfl X9 (e.at 0))<|Ze (Vd rfl X0c 0)<|Ze (X0 rfl X9 (f.at 0))<|Ze (X2x rfl rfl)<|Ze (Vd rfl X0a 1)<|Ze (X0 rfl X9 (e.at 1))<|Ze (Vd rfl X0a 1)<|Ze (X0 rfl X9 (f.at 1))<|Ze (X2x rfl rfl) ?_;refine Ze (Vd rfl X0d 2)<|Ze (X0 rfl X9 (e.at 2))<|Ze (Vd rfl X0d 2)<|Ze (X0 rfl X9 (f.at 2))<|Ze (X2x rfl rfl)<|Ze (Vd rfl X0f 3)<|Ze (X0 rfl X9 (e.at 3))<|Ze (Vd rfl X0f 3)<|Ze (X0 rfl X9 (f.at 3))<|Ze (X2x rfl rfl) ?_;refine Ze (Xg (ps:=[(0,vi (wr (x.a+y.a))),(1,vi (wr (x.b+y.b))),(2,vi (wr (x.c+y.c))),(3,vi (wr (x.d+y.d)))]) (cs:=[vi (wr (x.a+y.a)),vi (wr (x.b+y.b)),vi (wr (x.c+y.c)),vi (wr (x.d+y.d))]) rfl (fun _=>by first|rfl|kernel_rfl))<|Zo (Vw [vi (wr (x.a+y.a)),vi (wr (x.b+y.b)),vi (wr (x.c+y.c)),vi (wr (x.d+y.d))] X0w i) ?_;rintro _ w4 ⟨ho,hb⟩;have aL:=i;have g:=Below.only g ho aA;have i:=hb;refine Zt aI fun a hf=>?_
 refine Q6 (X4 hf (Xx hf rfl (ResV.cellN (l:=[vi (wr (x.a+y.a)),vi (wr (x.b+y.b)),vi (wr (x.c+y.c)),vi (wr (x.d+y.d))]) rfl Xv (i.at 0) rfl)) ?_)
 exact ⟨rfl,g⟩
theorem Xzh(w0:World)(x:Rg)(y:Rg) : Ret Tryz.prog 152 [.agg #[vi x.a,vi x.b,vi x.c,vi x.d],.agg #[vi y.a,vi y.b,vi y.c,vi y.d]] w0 (fun v w=>v=rV (rMul x y)∧Below w0.heap.size w0 w):=by
 refine enter Tryz.func152 rfl 98 rfl rfl ?_;intro a hf
 have g:=bz w0
 refine Zs hf fun _ aF=>?_;refine Zf (X0j (zs:=[vi x.a,vi x.b,vi x.c,vi x.d]) rfl rfl) ?_;rintro _ w1 ⟨b2,rfl,aG,j,e⟩;have aK:=Q0 g.size aG;have g:=btr g j;refine Zf (X0j (zs:=[vi y.a,vi y.b,vi y.c,vi y.d]) rfl rfl) ?_;rintro _ w2 ⟨b3,rfl,aH,j,f⟩
 have aC:b2≠b3:=by have:=e.lt;omega
 have aL:=Q0 g.size aH;have e:=e.below j;have g:=btr g j;refine Zf (X3 (zs:=[vi 0,vi 0,vi 0,vi 0]) X1y rfl) ?_;rintro _ w3 ⟨b4,rfl,aI,j,i⟩
 have aD:b2≠b4:=by have:=e.lt;omega
 have aE:b3≠b4:=by have:=f.lt;omega
 have aA:=Q0 g.size aI;have e:=e.below j;have f:=f.below j;have g:=btr g j;refine Zx aF fun a hf _ aJ=>?_;refine Ze (Vd rfl X0c 0)<|Ze (X0 rfl X9 (e.at 0))<|Ze (Vd rfl X0c 0)<|Ze (X0 rfl X9 (f.at 0))<|Ze (X2v rfl rfl)<|Ze (Vd rfl X0a 1)<|Ze (X0 rfl X9 (e.at 1))<|Ze (Vd rfl X0f 3)<|Ze (X0 rfl X9 (f.at 3))<|Ze (X2v rfl rfl) ?_;refine Ze (X3t rfl rfl)<|Ze (Vd rfl X0d 2)<|Ze (X0 rfl X9 (e.at 2))<|Ze (Vd rfl X0d 2)<|Ze (X0 rfl X9 (f.at 2))<|Ze (X2v rfl rfl)<|Ze (X3t rfl rfl)<|Ze (Vd rfl X0f 3)<|Ze (X0 rfl X9 (e.at 3))<|Ze (Vd rfl X0a 1) ?_;refine Ze (X0 rfl X9 (f.at 1))<|Ze (X2v rfl rfl)<|Ze (X3t rfl rfl)<|Ze (Vd rfl X0c 0)<|Ze (X0 rfl X9 (e.at 0))<|Ze (Vd rfl X0a 1)<|Ze (X0 rfl X9 (f.at 1))<|Ze (X2v rfl rfl)<|Ze (Vd rfl X0a 1)<|Ze (X0 rfl X9 (e.at 1)) ?_;refine Ze (Vd rfl X0c 0)<|Ze (X0 rfl X9 (f.at 0))<|Ze (X2v rfl rfl)<|Ze (X2x rfl rfl)<|Ze (Vd rfl X0d 2)<|Ze (X0 rfl X9 (e.at 2))<|Ze (Vd rfl X0f 3)<|Ze (X0 rfl X9 (f.at 3))<|Ze (X2v rfl rfl)<|Ze (X3t rfl rfl) ?_;refine Ze (Vd rfl X0f 3)<|Ze (X0 rfl X9 (e.at 3))<|Ze (Vd rfl X0d 2)<|Ze (X0 rfl X9 (f.at 2))<|Ze (X2v rfl rfl)<|Ze (X3t rfl rfl)<|Ze (Vd rfl X0c 0)<|Ze (X0 rfl X9 (e.at 0))<|Ze (Vd rfl X0d 2)<|Ze (X0 rfl X9 (f.at 2)) ?_;refine Ze (X2v rfl rfl)<|Ze (Vd rfl X0a 1)<|Ze (X0 rfl X9 (e.at 1))<|Ze (Vd rfl X0a 1)<|Ze (X0 rfl X9 (f.at 1))<|Ze (X2v rfl rfl)<|Ze (X2x rfl rfl)<|Ze (Vd rfl X0d 2)<|Ze (X0 rfl X9 (e.at 2))<|Ze (Vd rfl X0c 0) ?_;refine Ze (X0 rfl X9 (f.at 0))<|Ze (X2v rfl rfl)<|Ze (X2x rfl rfl)<|Ze (Vd rfl X0f 3)<|Ze (X0 rfl X9 (e.at 3))<|Ze (Vd rfl X0f 3)<|Ze (X0 rfl X9 (f.at 3))<|Ze (X2v rfl rfl)<|Ze (X3t rfl rfl)<|Ze (Vd rfl X0c 0) ?_
 refine Ze (X0 rfl X9 (e.at 0))<|Ze (Vd rfl X0f 3)<|Ze (X0 rfl X9 (f.at 3))<|Ze (X2v rfl rfl)<|Ze (Vd rfl X0a 1)<|Ze (X0 rfl X9 (e.at 1))<|Ze (Vd rfl X0d 2)<|Ze (X0 rfl X9 (f.at 2))<|Ze (X2v rfl rfl)<|Ze (X2x rfl rfl) ?_;refine Ze (Vd rfl X0d 2)<|Ze (X0 rfl X9 (e.at 2))<|Ze (Vd rfl X0a 1)<|Ze (X0 rfl X9 (f.at 1))<|Ze (X2v rfl rfl)<|Ze (X2x rfl rfl)<|Ze (Vd rfl X0f 3)<|Ze (X0 rfl X9 (e.at 3))<|Ze (Vd rfl X0c 0)<|Ze (X0 rfl X9 (f.at 0)) ?_;refine Ze (X2v rfl rfl)<|Ze (X2x rfl rfl)<|Ze (Xg (ps:=[(0,vi (wr ((wr ((wr ((wr (x.a*y.a))-(wr (x.b*y.d))))-(wr (x.c*y.c))))-(wr (x.d*y.b))))),(1,vi (wr ((wr ((wr ((wr (x.a*y.b))+(wr (x.b*y.a))))-(wr (x.c*y.d))))-(wr (x.d*y.c))))),(2,vi (wr ((wr ((wr ((wr (x.a*y.c))+(wr (x.b*y.b))))+(wr (x.c*y.a))))-(wr (x.d*y.d))))),(3,vi (wr ((wr ((wr ((wr (x.a*y.d))+(wr (x.b*y.c))))+(wr (x.c*y.b))))+(wr (x.d*y.a)))))]) (cs:=[vi (wr ((wr ((wr ((wr (x.a*y.a))-(wr (x.b*y.d))))-(wr (x.c*y.c))))-(wr (x.d*y.b)))),vi (wr ((wr ((wr ((wr (x.a*y.b))+(wr (x.b*y.a))))-(wr (x.c*y.d))))-(wr (x.d*y.c)))),vi (wr ((wr ((wr ((wr (x.a*y.c))+(wr (x.b*y.b))))+(wr (x.c*y.a))))-(wr (x.d*y.d)))),vi (wr ((wr ((wr ((wr (x.a*y.d))+(wr (x.b*y.c))))+(wr (x.c*y.b))))+(wr (x.d*y.a))))]) rfl (fun _=>by first|rfl|kernel_rfl))<|Zo (Vw [vi (wr ((wr ((wr ((wr (x.a*y.a))-(wr (x.b*y.d))))-(wr (x.c*y.c))))-(wr (x.d*y.b)))),vi (wr ((wr ((wr ((wr (x.a*y.b))+(wr (x.b*y.a))))-(wr (x.c*y.d))))-(wr (x.d*y.c)))),vi (wr ((wr ((wr ((wr (x.a*y.c))+(wr (x.b*y.b))))+(wr (x.c*y.a))))-(wr (x.d*y.d)))),vi (wr ((wr ((wr ((wr (x.a*y.d))+(wr (x.b*y.c))))+(wr (x.c*y.b))))+(wr (x.d*y.a))))] X0w i) ?_;rintro _ w4 ⟨ho,hb⟩;have aB:=i;have g:=Below.only g ho aA
 clear aB;have i:=hb;refine Zt aJ fun a hf=>?_
 refine Q6 (X4 hf (Xx hf rfl (ResV.cellN (l:=[vi (wr ((wr ((wr ((wr (x.a*y.a))-(wr (x.b*y.d))))-(wr (x.c*y.c))))-(wr (x.d*y.b)))),vi (wr ((wr ((wr ((wr (x.a*y.b))+(wr (x.b*y.a))))-(wr (x.c*y.d))))-(wr (x.d*y.c)))),vi (wr ((wr ((wr ((wr (x.a*y.c))+(wr (x.b*y.b))))+(wr (x.c*y.a))))-(wr (x.d*y.d)))),vi (wr ((wr ((wr ((wr (x.a*y.d))+(wr (x.b*y.c))))+(wr (x.c*y.b))))+(wr (x.d*y.a))))]) rfl Xv (i.at 0) rfl)) ?_)
 exact ⟨rfl,g⟩
theorem Xzw(w0:World)(x:Rg) : Ret Tryz.prog 184 [.agg #[vi x.a,vi x.b,vi x.c,vi x.d]] w0 (fun v w=>v=rV (rNeg x)∧Below w0.heap.size w0 w):=by
 refine enter Tryz.func184 rfl 16 rfl rfl ?_;intro a hf
 have f:=bz w0
 refine Zs hf fun _ aC=>?_;refine Zf (X0j (zs:=[vi x.a,vi x.b,vi x.c,vi x.d]) rfl rfl) ?_;rintro _ w1 ⟨b2,rfl,aD,hE,e⟩;have aG:=Q0 f.size aD;have f:=btr f hE;refine Zf (X3 (zs:=[vi 0,vi 0,vi 0,vi 0]) X1y rfl) ?_;rintro _ w2 ⟨b3,rfl,aE,hE,g⟩
 have aB:b2≠b3:=by have:=e.lt;omega
 have aA:=Q0 f.size aE;have e:=e.below hE;have f:=btr f hE;refine Zx aC fun a hf _ aF=>?_;refine Ze (Vd rfl X0c 0)<|Ze (X0 rfl X9 (e.at 0))<|Ze (X8g rfl)<|Ze (Vd rfl X0a 1)<|Ze (X0 rfl X9 (e.at 1))<|Ze (X8g rfl)<|Ze (Vd rfl X0d 2)<|Ze (X0 rfl X9 (e.at 2))<|Ze (X8g rfl)<|Ze (Vd rfl X0f 3) ?_;refine Ze (X0 rfl X9 (e.at 3))<|Ze (X8g rfl)<|Ze (Xg (ps:=[(0,vi (wr (-x.a))),(1,vi (wr (-x.b))),(2,vi (wr (-x.c))),(3,vi (wr (-x.d)))]) (cs:=[vi (wr (-x.a)),vi (wr (-x.b)),vi (wr (-x.c)),vi (wr (-x.d))]) rfl (fun _=>by first|rfl|kernel_rfl))<|Zo (Vw [vi (wr (-x.a)),vi (wr (-x.b)),vi (wr (-x.c)),vi (wr (-x.d))] X0w g) ?_;rintro _ w3 ⟨ho,hb⟩;have aH:=g;have f:=Below.only f ho aA;have g:=hb;refine Zt aF fun a hf=>?_
 refine Q6 (X4 hf (Xx hf rfl (ResV.cellN (l:=[vi (wr (-x.a)),vi (wr (-x.b)),vi (wr (-x.c)),vi (wr (-x.d))]) rfl Xv (g.at 0) rfl)) ?_)
 exact ⟨rfl,f⟩
theorem Y04(w0:World)(x:Rg) : Ret Tryz.prog 172 [.agg #[vi x.a,vi x.b,vi x.c,vi x.d]] w0 (fun v w=>v=.bool (rEven x)∧Below w0.heap.size w0 w):=by
 refine enter Tryz.func172 rfl 19 rfl rfl ?_;intro a f
 have hW:=bz w0
 refine Zs f fun _ aA=>?_;refine Zf (X0j (zs:=[vi x.a,vi x.b,vi x.c,vi x.d]) rfl rfl) ?_;rintro _ w1 ⟨b2,rfl,aB,hE,g⟩;have aD:=Q0 hW.size aB;have hW:=btr hW hE;refine Za rfl<|ZX aA fun a f _ aC=>?_;refine X02 (fun a w=>Fr a 19 [(2,.bool ((((wr (x.a+x.c)).tmod 2)==0)&&(((wr (x.b+x.d)).tmod 2)==0)))]∧w1=w) ?_ ?_
 ·refine Zr f<|Ze (Vd rfl X0c 0)<|Ze (X0 rfl X9 (g.at 0))<|Ze (Vd rfl X0d 2)<|Ze (X0 rfl X9 (g.at 2))<|Ze (X2x rfl rfl)<|Ze (X67 rfl rfl rfl)<|Ze (X1b rfl rfl)<|Zm rfl ?_
  refine Zg 10 rfl (fun e=>?_) (fun e=>?_)
  ·refine Zv (gW e) (Vd rfl X0a 1) ?_;refine Zv (gW e) (X0 rfl X9 (g.at 1)) ?_;refine Zv (gW e) (Vd rfl X0f 3) ?_;refine Zv (gW e) (X0 rfl X9 (g.at 3)) ?_;refine Zv (gW e) (X2x rfl rfl) ?_;refine Zv (gW e) (X67 rfl rfl rfl) ?_;refine Zv (gW e) (X1b rfl rfl) ?_;refine Ze (Xe rfl e rfl)<|Za rfl ?_;refine Zn fun a f=>?_;exact ⟨f.sub ⟨X2 rfl (by first|rfl|(simp only [e,bs];done)|simp [e]),trivial⟩,rfl⟩
  refine Zp (gP e) ?_;refine Zp (gP e) ?_;refine Zp (gP e) ?_;refine Zp (gP e) ?_;refine Zp (gP e) ?_;refine Zp (gP e) ?_;refine Zp (gP e) ?_;refine Ze (Xc rfl e rfl)<|Za rfl ?_;refine Zn fun a f=>?_;exact ⟨f.sub ⟨X2 rfl (by first|rfl|(simp only [e,bs];done)|simp [e]),trivial⟩,rfl⟩
 rintro a _ ⟨f,rfl⟩;refine aC _ _ ?_
 refine Q6 (X4 f (Xx f rfl rfl) ?_)
 exact ⟨rfl,hW⟩
theorem Xu2(w0:World)(x:Rg) : Ret Tryz.prog 83 [.agg #[vi x.a,vi x.b,vi x.c,vi x.d]] w0 (fun v w=>v=.bool (rEven x)∧Below w0.heap.size w0 w):=by
 refine enter Tryz.func83 rfl 19 rfl rfl ?_;intro a f
 have hW:=bz w0
 refine Zs f fun _ aA=>?_;refine Zf (X0j (zs:=[vi x.a,vi x.b,vi x.c,vi x.d]) rfl rfl) ?_;rintro _ w1 ⟨b2,rfl,aB,hE,g⟩;have aD:=Q0 hW.size aB;have hW:=btr hW hE;refine Za rfl<|ZX aA fun a f _ aC=>?_;refine X02 (fun a w=>Fr a 19 [(2,.bool ((((wr (x.a+x.c)).tmod 2)==0)&&(((wr (x.b+x.d)).tmod 2)==0)))]∧w1=w) ?_ ?_
 ·refine Zr f<|Ze (Vd rfl X0c 0)<|Ze (X0 rfl X9 (g.at 0))<|Ze (Vd rfl X0d 2)<|Ze (X0 rfl X9 (g.at 2))<|Ze (X2x rfl rfl)<|Ze (X67 rfl rfl rfl)<|Ze (X1b rfl rfl)<|Zm rfl ?_
  refine Zg 10 rfl (fun e=>?_) (fun e=>?_)
  ·refine Zv (gW e) (Vd rfl X0a 1) ?_;refine Zv (gW e) (X0 rfl X9 (g.at 1)) ?_;refine Zv (gW e) (Vd rfl X0f 3) ?_;refine Zv (gW e) (X0 rfl X9 (g.at 3)) ?_;refine Zv (gW e) (X2x rfl rfl) ?_;refine Zv (gW e) (X67 rfl rfl rfl) ?_;refine Zv (gW e) (X1b rfl rfl) ?_;refine Ze (Xe rfl e rfl)<|Za rfl ?_;refine Zn fun a f=>?_;exact ⟨f.sub ⟨X2 rfl (by first|rfl|(simp only [e,bs];done)|simp [e]),trivial⟩,rfl⟩
  refine Zp (gP e) ?_;refine Zp (gP e) ?_;refine Zp (gP e) ?_;refine Zp (gP e) ?_;refine Zp (gP e) ?_;refine Zp (gP e) ?_;refine Zp (gP e) ?_;refine Ze (Xc rfl e rfl)<|Za rfl ?_;refine Zn fun a f=>?_;exact ⟨f.sub ⟨X2 rfl (by first|rfl|(simp only [e,bs];done)|simp [e]),trivial⟩,rfl⟩
 rintro a _ ⟨f,rfl⟩;refine aC _ _ ?_
 refine Q6 (X4 f (Xx f rfl rfl) ?_)
 exact ⟨rfl,hW⟩
theorem Xzv(w0:World)(x:Rg) : Ret Tryz.prog 173 [.agg #[vi x.a,vi x.b,vi x.c,vi x.d]] w0 (fun v w=>v=rV (rHalf x)∧Below w0.heap.size w0 w):=by
 refine enter Tryz.func173 rfl 19 rfl rfl ?_;intro a hf
 have f:=bz w0
 refine Zs hf fun _ aG=>?_;refine Zf (X0j (zs:=[vi x.a,vi x.b,vi x.c,vi x.d]) rfl rfl) ?_;rintro _ w1 ⟨b2,rfl,aH,j,g⟩;have aM:=Q0 f.size aH;have f:=btr f j;refine Zf (X3 (zs:=[vi 0,vi 0,vi 0,vi 0]) X1y rfl) ?_;rintro _ w2 ⟨b3,rfl,aI,j,e⟩
 have aD:b2≠b3:=by have:=g.lt;omega
 have aA:=Q0 f.size aI;have g:=g.below j;have f:=btr f j;refine Zx aG fun a hf _ aJ=>?_;refine Ze (Vn Xv g)<|Zf (Vc (Xv8 _ x) Xf6) ?_;rintro _ w3 ⟨rfl,j⟩;have g:=g.below j;have e:=e.below j;have f:=btr f j;refine Zf (X3 (zs:=[vi 0,vi 0,vi 0,vi 0]) X1y rfl) ?_;rintro _ w4 ⟨b5,rfl,aK,j,i⟩
 have aE:b2≠b5:=by have:=g.lt;omega
 have aF:b3≠b5:=by have:=e.lt;omega
 have aB:=Q0 f.size aK;have e:=e.below j;have f:=btr f j;refine Zo (Vw [vi ((rRoot x).a),vi ((rRoot x).b),vi ((rRoot x).c),vi ((rRoot x).d)] X0w i) ?_;rintro _ w5 ⟨ho,hb⟩;have aC:=i;have e:=e.only ho (by omega);have f:=Below.only f ho aB;have i:=hb;refine Zx aJ fun a hf _ aL=>?_;refine Ze (Vd rfl X0c 0)<|Ze (X0 rfl X9 (i.at 0))<|Ze (X95 rfl rfl rfl)<|Ze (Vd rfl X0a 1)<|Ze (X0 rfl X9 (i.at 1))<|Ze (X95 rfl rfl rfl)<|Ze (Vd rfl X0d 2)<|Ze (X0 rfl X9 (i.at 2))<|Ze (X95 rfl rfl rfl)<|Ze (Vd rfl X0f 3) ?_;refine Ze (X0 rfl X9 (i.at 3))<|Ze (X95 rfl rfl rfl)<|Ze (Xg (ps:=[(0,vi (wr (((rRoot x).a).tdiv 2))),(1,vi (wr (((rRoot x).b).tdiv 2))),(2,vi (wr (((rRoot x).c).tdiv 2))),(3,vi (wr (((rRoot x).d).tdiv 2)))]) (cs:=[vi (wr (((rRoot x).a).tdiv 2)),vi (wr (((rRoot x).b).tdiv 2)),vi (wr (((rRoot x).c).tdiv 2)),vi (wr (((rRoot x).d).tdiv 2))]) rfl (fun _=>by first|rfl|kernel_rfl))<|Zo (Vw [vi (wr (((rRoot x).a).tdiv 2)),vi (wr (((rRoot x).b).tdiv 2)),vi (wr (((rRoot x).c).tdiv 2)),vi (wr (((rRoot x).d).tdiv 2))] X0w e) ?_;rintro _ w6 ⟨ho,hb⟩;have aC:=e;have f:=Below.only f ho aA;have e:=hb;refine Zt aL fun a hf=>?_
 refine Q6 (X4 hf (Xx hf rfl (ResV.cellN (l:=[vi (wr (((rRoot x).a).tdiv 2)),vi (wr (((rRoot x).b).tdiv 2)),vi (wr (((rRoot x).c).tdiv 2)),vi (wr (((rRoot x).d).tdiv 2))]) rfl Xv (e.at 0) rfl)) ?_)
 exact ⟨rfl,f⟩
theorem Xqx(w0:World)(n:Int) : Ret Tryz.prog 120 [vi n] w0 (fun v w=>v=.bool (inR n (-1000000000) 1000000000)∧w0=w):=by
 refine enter Tryz.func120 rfl 5 rfl rfl ?_;intro a hf
 have hW:=bz w0
 refine Zs hf fun _ aA=>?_;refine Za rfl<|Zx aA fun a hf _ aB=>?_;refine Zm rfl<|Zf (Vc (F91 _ n (-1000000000) 1000000000) X36) ?_;rintro _ _ ⟨rfl,rfl⟩;refine Za rfl<|Zt aB fun a hf=>?_
 refine Q6 (X4 hf (Xx hf rfl rfl) ?_)
 exact ⟨rfl,rfl⟩
theorem Xk2(w0:World)(x:Rg) : Ret Tryz.prog 82 [.agg #[vi x.a,vi x.b,vi x.c,vi x.d]] w0 (fun v w=>v=.bool (rOk x)∧Below w0.heap.size w0 w):=by
 refine enter Tryz.func82 rfl 21 rfl rfl ?_;intro a i
 have hW:=bz w0
 refine Zs i fun _ aA=>?_;refine Zf (X0j (zs:=[vi x.a,vi x.b,vi x.c,vi x.d]) rfl rfl) ?_;rintro _ w1 ⟨b2,rfl,aB,hE,j⟩;have aD:=Q0 hW.size aB;have hW:=btr hW hE;refine Za rfl<|ZX aA fun a i _ aC=>?_;refine X02 (fun a w=>Fr a 21 [(2,.bool ((((inR x.a (-1000000000) 1000000000)&&(inR x.b (-1000000000) 1000000000))&&(inR x.c (-1000000000) 1000000000))&&(inR x.d (-1000000000) 1000000000)))]∧w1=w) ?_ ?_
 ·refine Zr i<|Ze (Vd rfl X0c 0)<|Ze (X0 rfl X9 (j.at 0))<|Zf (Vc (Xqx _ x.a) Xdb) ?_;rintro _ _ ⟨rfl,rfl⟩;refine Zm rfl ?_
  refine Zg 6 rfl (fun e=>?_) (fun e=>?_)
  ·refine Zv (gW e) (Vd rfl X0a 1) ?_;refine Zv (gW e) (X0 rfl X9 (j.at 1)) ?_;refine Zk (gW e) (Vc (Xqx _ x.b) Xdb) ?_;rintro _ _ ⟨rfl,rfl⟩;refine Ze (Xe rfl e rfl)<|Zm rfl ?_
   refine Zg 11 rfl (fun f=>?_) (fun f=>?_)
   ·refine Zv (gW f) (Vd rfl X0d 2) ?_;refine Zv (gW f) (X0 rfl X9 (j.at 2)) ?_;refine Zk (gW f) (Vc (Xqx _ x.c) Xdb) ?_;rintro _ _ ⟨rfl,rfl⟩;refine Ze (Xe rfl f rfl)<|Zm rfl ?_
    refine Zg 16 rfl (fun g=>?_) (fun g=>?_)
    ·refine Zv (gW g) (Vd rfl X0f 3) ?_;refine Zv (gW g) (X0 rfl X9 (j.at 3)) ?_;refine Zk (gW g) (Vc (Xqx _ x.d) Xdb) ?_;rintro _ _ ⟨rfl,rfl⟩;refine Ze (Xe rfl g rfl)<|Za rfl ?_;refine Zn fun a i=>?_;exact ⟨i.sub ⟨X2 rfl (by first|rfl|(simp only [e,f,g,bs];done)|simp [e,f,g]),trivial⟩,rfl⟩
    refine Zp (gP g) ?_;refine Zp (gP g) ?_;refine Zp (gP g) ?_;refine Ze (Xc rfl g rfl)<|Za rfl ?_;refine Zn fun a i=>?_;exact ⟨i.sub ⟨X2 rfl (by first|rfl|(simp only [e,f,g,bs];done)|simp [e,f,g]),trivial⟩,rfl⟩
   refine Zp (gP f) ?_;refine Zp (gP f) ?_;refine Zp (gP f) ?_;refine Ze (Xc rfl f rfl)<|Zm rfl<|Zp (gP rfl) ?_;refine Zp (gP rfl) ?_;refine Zp (gP rfl) ?_;refine Ze (Xc rfl rfl rfl)<|Za rfl ?_;refine Zn fun a i=>?_;exact ⟨i.sub ⟨X2 rfl (by first|rfl|(simp only [e,f,bs];done)|simp [e,f]),trivial⟩,rfl⟩
  refine Zp (gP e) ?_;refine Zp (gP e) ?_;refine Zp (gP e) ?_;refine Ze (Xc rfl e rfl)<|Zm rfl<|Zp (gP rfl) ?_;refine Zp (gP rfl) ?_;refine Zp (gP rfl) ?_;refine Ze (Xc rfl rfl rfl)<|Zm rfl<|Zp (gP rfl) ?_;refine Zp (gP rfl) ?_;refine Zp (gP rfl) ?_;refine Ze (Xc rfl rfl rfl)<|Za rfl ?_;refine Zn fun a i=>?_;exact ⟨i.sub ⟨X2 rfl (by first|rfl|(simp only [e,bs];done)|simp [e]),trivial⟩,rfl⟩
 rintro a _ ⟨i,rfl⟩;refine aC _ _ ?_
 refine Q6 (X4 i (Xx i rfl rfl) ?_)
 exact ⟨by simp [rOk, *],hW⟩
theorem Xdn(w0:World)(k:Int) : Ret Tryz.prog 88 [vi k] w0 (fun v w=>v=dV (dPow k)∧Below w0.heap.size w0 w):=by
 refine enter Tryz.func88 rfl 7 rfl rfl ?_;intro a hf
 have f:=bz w0
 refine Zs hf fun _ aB=>?_;refine Zf (X3 (zs:=[vi 0,vi 0,vi 0,vi 0,vi 0]) X0n rfl) ?_;rintro _ w1 ⟨b2,rfl,aC,hE,e⟩;have aA:=Q0 f.size aC;have f:=btr f hE;refine Zx aB fun a hf _ aD=>?_;refine Ze (Xg (ps:=[(0,vi 1)]) (cs:=[vi 1,vi 0,vi 0,vi 0]) rfl (fun _=>by first|rfl|kernel_rfl))<|Zm rfl<|Zf (Vc (Y05 _ (⟨1,0,0,0⟩ : Rg) k) Xsg) ?_;rintro _ w2 ⟨rfl,hE⟩;have e:=e.below hE;have f:=btr f hE;refine Ze (Xg (ps:=[(0,.agg #[vi ((rTurn (⟨1,0,0,0⟩ : Rg) k).a),vi ((rTurn (⟨1,0,0,0⟩ : Rg) k).b),vi ((rTurn (⟨1,0,0,0⟩ : Rg) k).c),vi ((rTurn (⟨1,0,0,0⟩ : Rg) k).d)])]) (cs:=[vi ((rTurn (⟨1,0,0,0⟩ : Rg) k).a),vi ((rTurn (⟨1,0,0,0⟩ : Rg) k).b),vi ((rTurn (⟨1,0,0,0⟩ : Rg) k).c),vi ((rTurn (⟨1,0,0,0⟩ : Rg) k).d),vi 0]) rfl (fun _=>by first|rfl|kernel_rfl))<|Zo (Vw [vi ((rTurn (⟨1,0,0,0⟩ : Rg) k).a),vi ((rTurn (⟨1,0,0,0⟩ : Rg) k).b),vi ((rTurn (⟨1,0,0,0⟩ : Rg) k).c),vi ((rTurn (⟨1,0,0,0⟩ : Rg) k).d),vi 0] Xd e) ?_;rintro _ w3 ⟨ho,hb⟩;have aE:=e;have f:=Below.only f ho aA;have e:=hb;refine Zt aD fun a hf=>?_
 refine Q6 (X4 hf (Xx hf rfl (ResV.cellN (l:=[vi ((rTurn (⟨1,0,0,0⟩ : Rg) k).a),vi ((rTurn (⟨1,0,0,0⟩ : Rg) k).b),vi ((rTurn (⟨1,0,0,0⟩ : Rg) k).c),vi ((rTurn (⟨1,0,0,0⟩ : Rg) k).d),vi 0]) rfl X6 (e.at 0) rfl)) ?_)
 exact ⟨rfl,f⟩
theorem Xzy(w0:World)(x:Dy) : Ret Tryz.prog 174 [.agg #[vi x.num.a,vi x.num.b,vi x.num.c,vi x.num.d,vi x.exp]] w0 (fun v w=>v=dV (dNeg x)∧Below w0.heap.size w0 w):=by
 refine enter Tryz.func174 rfl 9 rfl rfl ?_;intro a hf
 have g:=bz w0
 refine Zs hf fun _ aC=>?_;refine Zf (X0j (zs:=[vi x.num.a,vi x.num.b,vi x.num.c,vi x.num.d,vi x.exp]) rfl rfl) ?_;rintro _ w1 ⟨b2,rfl,aD,i,f⟩;have aG:=Q0 g.size aD;have g:=btr g i;refine Zf (X3 (zs:=[vi 0,vi 0,vi 0,vi 0,vi 0]) X0n rfl) ?_;rintro _ w2 ⟨b3,rfl,aE,i,e⟩
 have aB:b2≠b3:=by have:=f.lt;omega
 have aA:=Q0 g.size aE;have f:=f.below i;have g:=btr g i;refine ZX aC fun a hf _ aF=>?_;refine Xz none (fun j=>[6].contains j) mixed ?_;intro w3 i;have f:=f.below i;have e:=e.below i;have g:=btr g i;refine Yb hf<|Yo 0 rfl (fun _=>Vd rfl X1i 0)<|Ye 1 rfl (X09 (l:=[vi x.num.a,vi x.num.b,vi x.num.c,vi x.num.d]) rfl Xv ((f.at 0).take 4) rfl)<|Yo 3 rfl (fun _=>Vd rfl X12 4)<|Ye 4 rfl (X0 rfl X9 (f.at 4))<|Y1 2 ?_;refine Yk rfl trivial (Vc (Xzw _ x.num) Xvt) (fun _ _ ⟨_,i⟩=>i) ?_;rintro _ w4 ⟨rfl,i⟩;have e:=e.below i;have g:=btr g i;refine Yo 5 rfl (fun _=>Xg (ps:=[(0,.agg #[vi ((rNeg x.num).a),vi ((rNeg x.num).b),vi ((rNeg x.num).c),vi ((rNeg x.num).d)]),(1,vi x.exp)]) (cs:=[vi ((rNeg x.num).a),vi ((rNeg x.num).b),vi ((rNeg x.num).c),vi ((rNeg x.num).d),vi x.exp]) rfl (fun _=>by first|rfl|kernel_rfl))<|Y1 6 ?_;refine Yh rfl trivial rfl (Vw [vi ((rNeg x.num).a),vi ((rNeg x.num).b),vi ((rNeg x.num).c),vi ((rNeg x.num).d),vi x.exp] Xd e) ?_;rintro _ w5 ⟨ho,hb⟩;have aH:=e;have g:=Below.only g ho aA;have e:=hb;refine Yd fun a hf=>?_;refine aF _ _ ?_
 refine Q6 (X4 hf (Xx hf rfl (ResV.cellN (l:=[vi ((rNeg x.num).a),vi ((rNeg x.num).b),vi ((rNeg x.num).c),vi ((rNeg x.num).d),vi x.exp]) rfl X6 (e.at 0) rfl)) ?_)
 exact ⟨rfl,g⟩
theorem F59(w0:World)(b:Bool) : Ret Tryz.prog 100 [.bool b] w0 (fun v w=>v=vi (if b=true then 1 else 0)∧w0=w):=by
 refine enter Tryz.func100 rfl 4 rfl rfl ?_;intro a c
 have hW:=bz w0
 refine Zs c fun _ aC=>?_;refine Za rfl<|ZX aC fun a c _ aD=>?_;refine Zs c fun _ aE=>?_;refine Zm rfl<|Zt aE fun a c=>?_
 refine Xl c rfl (fun aA=>?_) (fun aA=>?_)
 ·have aB:=aA;refine Zs c fun _ aF=>?_;refine Za rfl<|Zt aF fun a c=>?_;refine Q6<|Xf<|X4 c (Xx c rfl rfl) ?_;exact ⟨by simp [*],rfl⟩
 have aB:=aA;refine Q7<|aD _ _<|Zs c fun _ aG=>?_;refine Za rfl<|Zt aG fun a c=>?_
 refine Q6 (X4 c (Xx c rfl rfl) ?_)
 exact ⟨by simp [*],rfl⟩
theorem Xik(w0:World)(n:Int) : Ret Tryz.prog 75 [vi n] w0 (fun v w=>v=dV (⟨⟨n,0,0,0⟩,0⟩ : Dy)∧Below w0.heap.size w0 w):=by
 refine enter Tryz.func75 rfl 6 rfl rfl ?_;intro a hf
 have hW:=bz w0
 refine Zs hf fun _ aB=>?_;refine Zf (X3 (zs:=[vi 0,vi 0,vi 0,vi 0,vi 0]) X0n rfl) ?_;rintro _ w1 ⟨b2,rfl,aC,hE,b⟩;have aA:=Q0 hW.size aC;have hW:=btr hW hE;refine Zx aB fun a hf _ aD=>?_;refine Zm rfl<|Ze (Xg (ps:=[(0,vi n)]) (cs:=[vi n,vi 0,vi 0,vi 0]) rfl (fun _=>by first|rfl|kernel_rfl))<|Ze (Xg (ps:=[(0,.agg #[vi n,vi 0,vi 0,vi 0])]) (cs:=[vi n,vi 0,vi 0,vi 0,vi 0]) rfl (fun _=>by first|rfl|kernel_rfl))<|Zo (Vw [vi n,vi 0,vi 0,vi 0,vi 0] Xd b) ?_;rintro _ w2 ⟨ho,hb⟩;have aE:=b;have hW:=Below.only hW ho aA;have b:=hb;refine Zt aD fun a hf=>?_
 refine Q6 (X4 hf (Xx hf rfl (ResV.cellN (l:=[vi n,vi 0,vi 0,vi 0,vi 0]) rfl X6 (b.at 0) rfl)) ?_)
 exact ⟨rfl,hW⟩
theorem Xio(A:World)(x:Rg)(Al:Option Addr)(cl:Nat)(l:List Rg)(p:Rd A A.heap.size 51 encR Al l)(hc:cl=l.length)(b5:l≠[])(bG:l.length≤1000) : Ret Tryz.prog 121 [.agg #[vi x.a,vi x.b,vi x.c,vi x.d],.slice Al l.length cl] A (fun v w=>v=.tuple #[rV (rIf1 x l),.bool (rIf2 x l)]∧Below A.heap.size A w):=by
 refine enter Tryz.func121 rfl 23 rfl rfl ?_;intro a j
 have g:=bz A
 refine Zs j fun _ b6=>?_;refine Zf (X0j (zs:=[vi x.a,vi x.b,vi x.c,vi x.d]) rfl rfl) ?_;rintro _ w1 ⟨b3,rfl,aG,o,f⟩;have bD:=Q0 g.size aG;have aT:=(p.below' g).away aG;have g:=btr g o;refine Zf (X3 (zs:=[vi 0,vi 0,vi 0,vi 0]) X1y rfl) ?_;rintro _ w2 ⟨b4,rfl,aH,o,e⟩
 have aU:b3≠b4:=by have:=f.lt;omega
 have B:=Q0 g.size aH;have aW:=(p.below' g).away aH;have f:=f.below o;have g:=btr g o;refine Za rfl<|ZX b6 fun a j _ b8=>?_;refine Zs j fun _ b9=>?_;refine Zm rfl<|Ze (Vn Xv f)<|Zf (Xb (k:=1) (vs:=[.agg #[vi x.a,vi x.b,vi x.c,vi x.d]]) (zs:=[vi x.a,vi x.b,vi x.c,vi x.d]) rfl X4g X4e rfl rfl) ?_;rintro _ w3 ⟨b7,rfl,aI,o,aA⟩
 have aX:b3≠b7:=by have:=f.lt;omega
 have aY:b4≠b7:=by have:=e.lt;omega
 have bE:=Q0 g.size aI;have aZ:=(p.below' g).away aI;have f:=f.below o;have e:=e.below o;have g:=btr g o;refine Zf (Xdu (enc:=encR) (l:=(l)) (l2:=([x])) rfl rfl X4g X4e Xeq (p.below' g) (Rd.of_blk aA rfl _ aA.lt) hc b5 (by simp) (by simp only [maxLen];simp;omega) (by simp;omega)) ?_;rintro _ w4 ⟨A9,c9,rfl,i,o⟩;have b0:=i.awayNew f.lt;have b1:=i.awayNew e.lt;have b2:=i.awayNew aA.lt;have i:=i.lower g.size;have f:=f.below o;have e:=e.below o;have g:=btr g o;refine Ze (X2k rfl X4g)<|Zm rfl<|Zt b9 fun a j=>?_;refine Q8 ?_
 have bF:(l++[x]).length≤1001:=by simp;omega
 refine X07 (σ:=Nat) (fun (k:Nat) (a:Act) (w:World)=>Fr a 23 [(2,.pointer (some ⟨b3,0,none⟩)),(4,.pointer (some ⟨b4,0,none⟩)),(11,.slice A9 (l++([x])).length c9),(12,vi ((l++([x])).length:Int)),(13,vi (k:Int))]∧(k≤(l++[x]).length)∧(((l++[x]).take k).all rOk=true)∧Blk w b3 51 [vi x.a,vi x.b,vi x.c,vi x.d]∧Blk w b4 51 [vi 0,vi 0,vi 0,vi 0]∧Own w A.heap.size 51 4 encR A9 c9 (l++([x]))∧Below A.heap.size A w) (fun (k:Nat)=>(l++[x]).length+1-k) 0 ?_ ?_
 ·exact ⟨j.sb,(Qf _),(by simp),f,e,i,g⟩
 rintro k a w5 ⟨j,hk,C,f,e,i,g⟩;refine Zs j fun _ aJ=>?_;refine Ze (X1h rfl rfl)<|ZX aJ fun a j _ aK=>?_
 refine Xl j rfl (fun m=>?_) (fun m=>?_)
 ·have aB:=m;have m:=Q2 m
  obtain ⟨n,y⟩:=Xw (l:=(l++([x]))) (k:=k) (by omega)
  refine Q7<|aK _ _<|Q5 fun _ aL=>?_;refine Q8<|Zs j fun _ aM=>?_;refine Zi (k:=k) (u:=n) (enc:=encR) (l:=l++([x])) trivial rfl rfl X4g X0w Xeq i.rd y rfl ?_;intro bH aC;refine Ze (X09 (l:=[vi n.a,vi n.b,vi n.c,vi n.d]) rfl Xv aC rfl)<|Zf (X3 (zs:=[vi 0,vi 0,vi 0,vi 0]) X1y rfl) ?_;rintro _ w6 ⟨b18,rfl,z,o,t⟩
  have aN:b3≠b18:=by have:=f.lt;omega
  have aO:b4≠b18:=by have:=e.lt;omega
  have aD:=Q0 g.size z;have aP:=(p.below' g).away z;have h:=i.away z;have f:=f.below o;have e:=e.below o;have i:=i.below o;have g:=btr g o;refine Zo (Vw [vi n.a,vi n.b,vi n.c,vi n.d] X0w t) ?_;rintro _ w7 ⟨D,hb⟩;have E:=t;have f:=f.only D (by omega);have e:=e.only D (by omega);have i:=i.onlyA D h;have g:=Below.only g D aD;have t:=hb;refine Zx aM fun a j _ aQ=>?_;refine Ze (Vn Xv t)<|Zf (Vc (Xk2 _ n) Xal) ?_;rintro _ w8 ⟨rfl,o⟩;have f:=f.below o;have e:=e.below o;have i:=i.below o;have g:=btr g o;refine Ze (X0o rfl)<|Zt aQ fun a j=>?_
  refine Xl j rfl (fun q=>?_) (fun q=>?_)
  ·have aE:=q
   have aF:rIf2 x l=false:=Xb2 y (by simpa using q)
   refine Zs j fun _ aR=>?_;refine Ze (Xg (ps:=[]) (cs:=[vi 0,vi 0,vi 0,vi 0]) rfl (fun _=>by first|rfl|kernel_rfl))<|Zo (Vw [vi 0,vi 0,vi 0,vi 0] X0w e) ?_;rintro _ w9 ⟨D,hb⟩;have E:=e;have g:=Below.only g D B;have e:=hb;refine Za rfl<|Zt aR fun a j=>?_;refine Q6<|X05<|Xf<|Xf ?_;refine X05<|Xf<|X4 j (X0r j rfl (ResV.cellN (l:=[vi 0,vi 0,vi 0,vi 0]) rfl Xv (e.at 0) rfl) rfl) ?_;exact ⟨by simp [rIf1,aF],g⟩
  have aE:=q
  have bC:rOk n=true:=by simpa using q
  refine Q7<|Xn<|aL _ _<|Zr j ?_;refine Ze (X03 rfl rfl (by omega) (by omega))<|Zm rfl ?_;refine Zn fun a j=>?_;refine Xo ?_;exact ⟨k+1,⟨j.sb,(by omega),(X66 C y bC),f,e,i,g⟩,(by omega)⟩
 have aB:=m;have m:=Q1 m;refine Q9<|Xm<|Xm<|X08 ?_;refine b8 _ _<|Zs j fun _ aS=>?_;refine Ze (Vn Xv f)<|Zo (Vw [vi x.a,vi x.b,vi x.c,vi x.d] X0w e) ?_;rintro _ bI ⟨D,hb⟩;have E:=e;have g:=Below.only g D B;have e:=hb;refine Za rfl<|Zt aS fun a j=>?_
 refine Q6 (X4 j (X0r j rfl (ResV.cellN (l:=[vi x.a,vi x.b,vi x.c,vi x.d]) rfl Xv (e.at 0) rfl) rfl) ?_)
 have aF:rIf2 x l=true:=X4m C (by omega)
 exact ⟨by simp [rIf1,aF],g⟩
theorem Y0l(w0:World)(x:Rg)(y:Rg) : Ret Tryz.prog 84 [.agg #[vi x.a,vi x.b,vi x.c,vi x.d],.agg #[vi y.a,vi y.b,vi y.c,vi y.d]] w0 (fun v w=>v=.tuple #[rV (rIf1 (rMul x y) [x,y]),.bool (rIf2 (rMul x y) [x,y])]∧Below w0.heap.size w0 w):=by
 refine enter Tryz.func84 rfl 105 rfl rfl ?_;intro a hf
 have i:=bz w0
 refine Zs hf fun _ aI=>?_;refine Zf (X0j (zs:=[vi x.a,vi x.b,vi x.c,vi x.d]) rfl rfl) ?_;rintro _ w1 ⟨b2,rfl,aJ,j,e⟩;have aO:=Q0 i.size aJ;have i:=btr i j;refine Zf (X0j (zs:=[vi y.a,vi y.b,vi y.c,vi y.d]) rfl rfl) ?_;rintro _ w2 ⟨b3,rfl,aK,j,f⟩
 have aC:b2≠b3:=by have:=e.lt;omega
 have aP:=Q0 i.size aK;have e:=e.below j;have i:=btr i j;refine Zf (X3 (zs:=[vi 0,vi 0,vi 0,vi 0]) X1y rfl) ?_;rintro _ w3 ⟨b4,rfl,aL,j,g⟩
 have aD:b2≠b4:=by have:=e.lt;omega
 have aE:b3≠b4:=by have:=f.lt;omega
 have aA:=Q0 i.size aL;have e:=e.below j;have f:=f.below j;have i:=btr i j;refine Za rfl<|Zx aI fun a hf _ aM=>?_;refine Ze (Vd rfl X0c 0)<|Ze (X0 rfl X9 (e.at 0))<|Ze (Vd rfl X0c 0)<|Ze (X0 rfl X9 (f.at 0))<|Ze (X2v rfl rfl)<|Ze (Vd rfl X0a 1)<|Ze (X0 rfl X9 (e.at 1))<|Ze (Vd rfl X0f 3)<|Ze (X0 rfl X9 (f.at 3))<|Ze (X2v rfl rfl) ?_;refine Ze (X3t rfl rfl)<|Ze (Vd rfl X0d 2)<|Ze (X0 rfl X9 (e.at 2))<|Ze (Vd rfl X0d 2)<|Ze (X0 rfl X9 (f.at 2))<|Ze (X2v rfl rfl)<|Ze (X3t rfl rfl)<|Ze (Vd rfl X0f 3)<|Ze (X0 rfl X9 (e.at 3))<|Ze (Vd rfl X0a 1) ?_;refine Ze (X0 rfl X9 (f.at 1))<|Ze (X2v rfl rfl)<|Ze (X3t rfl rfl)<|Ze (Vd rfl X0c 0)<|Ze (X0 rfl X9 (e.at 0))<|Ze (Vd rfl X0a 1)<|Ze (X0 rfl X9 (f.at 1))<|Ze (X2v rfl rfl)<|Ze (Vd rfl X0a 1)<|Ze (X0 rfl X9 (e.at 1)) ?_;refine Ze (Vd rfl X0c 0)<|Ze (X0 rfl X9 (f.at 0))<|Ze (X2v rfl rfl)<|Ze (X2x rfl rfl)<|Ze (Vd rfl X0d 2)<|Ze (X0 rfl X9 (e.at 2))<|Ze (Vd rfl X0f 3)<|Ze (X0 rfl X9 (f.at 3))<|Ze (X2v rfl rfl)<|Ze (X3t rfl rfl) ?_;refine Ze (Vd rfl X0f 3)<|Ze (X0 rfl X9 (e.at 3))<|Ze (Vd rfl X0d 2)<|Ze (X0 rfl X9 (f.at 2))<|Ze (X2v rfl rfl)<|Ze (X3t rfl rfl)<|Ze (Vd rfl X0c 0)<|Ze (X0 rfl X9 (e.at 0))<|Ze (Vd rfl X0d 2)<|Ze (X0 rfl X9 (f.at 2)) ?_;refine Ze (X2v rfl rfl)<|Ze (Vd rfl X0a 1)<|Ze (X0 rfl X9 (e.at 1))<|Ze (Vd rfl X0a 1)<|Ze (X0 rfl X9 (f.at 1))<|Ze (X2v rfl rfl)<|Ze (X2x rfl rfl)<|Ze (Vd rfl X0d 2)<|Ze (X0 rfl X9 (e.at 2))<|Ze (Vd rfl X0c 0) ?_;refine Ze (X0 rfl X9 (f.at 0))<|Ze (X2v rfl rfl)<|Ze (X2x rfl rfl)<|Ze (Vd rfl X0f 3)<|Ze (X0 rfl X9 (e.at 3))<|Ze (Vd rfl X0f 3)<|Ze (X0 rfl X9 (f.at 3))<|Ze (X2v rfl rfl)<|Ze (X3t rfl rfl)<|Ze (Vd rfl X0c 0) ?_
 refine Ze (X0 rfl X9 (e.at 0))<|Ze (Vd rfl X0f 3)<|Ze (X0 rfl X9 (f.at 3))<|Ze (X2v rfl rfl)<|Ze (Vd rfl X0a 1)<|Ze (X0 rfl X9 (e.at 1))<|Ze (Vd rfl X0d 2)<|Ze (X0 rfl X9 (f.at 2))<|Ze (X2v rfl rfl)<|Ze (X2x rfl rfl) ?_;refine Ze (Vd rfl X0d 2)<|Ze (X0 rfl X9 (e.at 2))<|Ze (Vd rfl X0a 1)<|Ze (X0 rfl X9 (f.at 1))<|Ze (X2v rfl rfl)<|Ze (X2x rfl rfl)<|Ze (Vd rfl X0f 3)<|Ze (X0 rfl X9 (e.at 3))<|Ze (Vd rfl X0c 0)<|Ze (X0 rfl X9 (f.at 0)) ?_;refine Ze (X2v rfl rfl)<|Ze (X2x rfl rfl)<|Ze (Xg (ps:=[(0,vi (wr ((wr ((wr ((wr (x.a*y.a))-(wr (x.b*y.d))))-(wr (x.c*y.c))))-(wr (x.d*y.b))))),(1,vi (wr ((wr ((wr ((wr (x.a*y.b))+(wr (x.b*y.a))))-(wr (x.c*y.d))))-(wr (x.d*y.c))))),(2,vi (wr ((wr ((wr ((wr (x.a*y.c))+(wr (x.b*y.b))))+(wr (x.c*y.a))))-(wr (x.d*y.d))))),(3,vi (wr ((wr ((wr ((wr (x.a*y.d))+(wr (x.b*y.c))))+(wr (x.c*y.b))))+(wr (x.d*y.a)))))]) (cs:=[vi (wr ((wr ((wr ((wr (x.a*y.a))-(wr (x.b*y.d))))-(wr (x.c*y.c))))-(wr (x.d*y.b)))),vi (wr ((wr ((wr ((wr (x.a*y.b))+(wr (x.b*y.a))))-(wr (x.c*y.d))))-(wr (x.d*y.c)))),vi (wr ((wr ((wr ((wr (x.a*y.c))+(wr (x.b*y.b))))+(wr (x.c*y.a))))-(wr (x.d*y.d)))),vi (wr ((wr ((wr ((wr (x.a*y.d))+(wr (x.b*y.c))))+(wr (x.c*y.b))))+(wr (x.d*y.a))))]) rfl (fun _=>by first|rfl|kernel_rfl))<|Ze (Vn Xv e)<|Ze (Vn Xv f)<|Zf (Xb (k:=2) (vs:=[.agg #[vi x.a,vi x.b,vi x.c,vi x.d],.agg #[vi y.a,vi y.b,vi y.c,vi y.d]]) (zs:=[vi x.a,vi x.b,vi x.c,vi x.d,vi y.a,vi y.b,vi y.c,vi y.d]) rfl X4g X4e rfl rfl) ?_;rintro _ w4 ⟨b6,rfl,aN,j,aB⟩
 have aF:b2≠b6:=by have:=e.lt;omega
 have aG:b3≠b6:=by have:=f.lt;omega
 have aH:b4≠b6:=by have:=g.lt;omega
 have aQ:=Q0 i.size aN;have g:=g.below j;have i:=btr i j;refine Zf (Vc (Xio _ (rMul x y) (some ⟨b6,0,none⟩) 2 ([x,y]) (Rd.of_blk aB rfl _ aB.lt) rfl (by simp) (by simp)) X8u) ?_;rintro _ w5 ⟨rfl,j⟩;have g:=g.below j;have i:=btr i j;refine Ze (X1 (vs:=[.agg #[vi ((rIf1 (rMul x y) ([x,y])).a),vi ((rIf1 (rMul x y) ([x,y])).b),vi ((rIf1 (rMul x y) ([x,y])).c),vi ((rIf1 (rMul x y) ([x,y])).d)],.bool (rIf2 (rMul x y) ([x,y]))]) rfl rfl)<|Ze (X1 (vs:=[.agg #[vi ((rIf1 (rMul x y) ([x,y])).a),vi ((rIf1 (rMul x y) ([x,y])).b),vi ((rIf1 (rMul x y) ([x,y])).c),vi ((rIf1 (rMul x y) ([x,y])).d)],.bool (rIf2 (rMul x y) ([x,y]))]) rfl rfl)<|Zo (Vw [vi ((rIf1 (rMul x y) ([x,y])).a),vi ((rIf1 (rMul x y) ([x,y])).b),vi ((rIf1 (rMul x y) ([x,y])).c),vi ((rIf1 (rMul x y) ([x,y])).d)] X0w g) ?_;rintro _ w6 ⟨ho,hb⟩;have aR:=g;have i:=Below.only i ho aA;have g:=hb;refine Za rfl<|Zt aM fun a hf=>?_
 refine Q6 (X4 hf (X0r hf rfl (ResV.cellN (l:=[vi ((rIf1 (rMul x y) ([x,y])).a),vi ((rIf1 (rMul x y) ([x,y])).b),vi ((rIf1 (rMul x y) ([x,y])).c),vi ((rIf1 (rMul x y) ([x,y])).d)]) rfl Xv (g.at 0) rfl) rfl) ?_)
 exact ⟨rfl,i⟩
theorem Y06(w0:World)(x:Rg)(y:Rg) : Ret Tryz.prog 131 [.agg #[vi x.a,vi x.b,vi x.c,vi x.d],.agg #[vi y.a,vi y.b,vi y.c,vi y.d]] w0 (fun v w=>v=.tuple #[rV (rIf1 (rAdd x y) [x,y]),.bool (rIf2 (rAdd x y) [x,y])]∧Below w0.heap.size w0 w):=by
 refine enter Tryz.func131 rfl 33 rfl rfl ?_;intro a hf
 have i:=bz w0
 refine Zs hf fun _ aI=>?_;refine Zf (X0j (zs:=[vi x.a,vi x.b,vi x.c,vi x.d]) rfl rfl) ?_;rintro _ w1 ⟨b2,rfl,aJ,j,e⟩;have aO:=Q0 i.size aJ;have i:=btr i j;refine Zf (X0j (zs:=[vi y.a,vi y.b,vi y.c,vi y.d]) rfl rfl) ?_;rintro _ w2 ⟨b3,rfl,aK,j,f⟩
 have aC:b2≠b3:=by have:=e.lt;omega
 have aP:=Q0 i.size aK;have e:=e.below j;have i:=btr i j;refine Zf (X3 (zs:=[vi 0,vi 0,vi 0,vi 0]) X1y rfl) ?_;rintro _ w3 ⟨b4,rfl,aL,j,g⟩
 have aD:b2≠b4:=by have:=e.lt;omega
 have aE:b3≠b4:=by have:=f.lt;omega
 have aA:=Q0 i.size aL;have e:=e.below j;have f:=f.below j;have i:=btr i j;refine Za rfl<|Zx aI fun a hf _ aM=>?_;refine Ze (Vd rfl X0c 0)<|Ze (X0 rfl X9 (e.at 0))<|Ze (Vd rfl X0c 0)<|Ze (X0 rfl X9 (f.at 0))<|Ze (X2x rfl rfl)<|Ze (Vd rfl X0a 1)<|Ze (X0 rfl X9 (e.at 1))<|Ze (Vd rfl X0a 1)<|Ze (X0 rfl X9 (f.at 1))<|Ze (X2x rfl rfl) ?_;refine Ze (Vd rfl X0d 2)<|Ze (X0 rfl X9 (e.at 2))<|Ze (Vd rfl X0d 2)<|Ze (X0 rfl X9 (f.at 2))<|Ze (X2x rfl rfl)<|Ze (Vd rfl X0f 3)<|Ze (X0 rfl X9 (e.at 3))<|Ze (Vd rfl X0f 3)<|Ze (X0 rfl X9 (f.at 3))<|Ze (X2x rfl rfl) ?_;refine Ze (Xg (ps:=[(0,vi (wr (x.a+y.a))),(1,vi (wr (x.b+y.b))),(2,vi (wr (x.c+y.c))),(3,vi (wr (x.d+y.d)))]) (cs:=[vi (wr (x.a+y.a)),vi (wr (x.b+y.b)),vi (wr (x.c+y.c)),vi (wr (x.d+y.d))]) rfl (fun _=>by first|rfl|kernel_rfl))<|Ze (Vn Xv e)<|Ze (Vn Xv f)<|Zf (Xb (k:=2) (vs:=[.agg #[vi x.a,vi x.b,vi x.c,vi x.d],.agg #[vi y.a,vi y.b,vi y.c,vi y.d]]) (zs:=[vi x.a,vi x.b,vi x.c,vi x.d,vi y.a,vi y.b,vi y.c,vi y.d]) rfl X4g X4e rfl rfl) ?_;rintro _ w4 ⟨b6,rfl,aN,j,aB⟩
 have aF:b2≠b6:=by have:=e.lt;omega
 have aG:b3≠b6:=by have:=f.lt;omega
 have aH:b4≠b6:=by have:=g.lt;omega
 have aQ:=Q0 i.size aN;have g:=g.below j;have i:=btr i j;refine Zf (Vc (Xio _ (rAdd x y) (some ⟨b6,0,none⟩) 2 ([x,y]) (Rd.of_blk aB rfl _ aB.lt) rfl (by simp) (by simp)) X8u) ?_;rintro _ w5 ⟨rfl,j⟩;have g:=g.below j;have i:=btr i j;refine Ze (X1 (vs:=[.agg #[vi ((rIf1 (rAdd x y) ([x,y])).a),vi ((rIf1 (rAdd x y) ([x,y])).b),vi ((rIf1 (rAdd x y) ([x,y])).c),vi ((rIf1 (rAdd x y) ([x,y])).d)],.bool (rIf2 (rAdd x y) ([x,y]))]) rfl rfl)<|Ze (X1 (vs:=[.agg #[vi ((rIf1 (rAdd x y) ([x,y])).a),vi ((rIf1 (rAdd x y) ([x,y])).b),vi ((rIf1 (rAdd x y) ([x,y])).c),vi ((rIf1 (rAdd x y) ([x,y])).d)],.bool (rIf2 (rAdd x y) ([x,y]))]) rfl rfl)<|Zo (Vw [vi ((rIf1 (rAdd x y) ([x,y])).a),vi ((rIf1 (rAdd x y) ([x,y])).b),vi ((rIf1 (rAdd x y) ([x,y])).c),vi ((rIf1 (rAdd x y) ([x,y])).d)] X0w g) ?_;rintro _ w6 ⟨ho,hb⟩;have aR:=g;have i:=Below.only i ho aA;have g:=hb;refine Za rfl<|Zt aM fun a hf=>?_
 refine Q6 (X4 hf (X0r hf rfl (ResV.cellN (l:=[vi ((rIf1 (rAdd x y) ([x,y])).a),vi ((rIf1 (rAdd x y) ([x,y])).b),vi ((rIf1 (rAdd x y) ([x,y])).c),vi ((rIf1 (rAdd x y) ([x,y])).d)]) rfl Xv (g.at 0) rfl) rfl) ?_)
 exact ⟨rfl,i⟩
theorem Y0i(w0:World)(x:Rg) : Ret Tryz.prog 176 [.agg #[vi x.a,vi x.b,vi x.c,vi x.d]] w0 (fun v w=>v=.tuple #[rV (rIf1 (rRoot x) [x]),.bool (rIf2 (rRoot x) [x])]∧Below w0.heap.size w0 w):=by
 refine enter Tryz.func176 rfl 30 rfl rfl ?_;intro a hf
 have g:=bz w0
 refine Zs hf fun _ aF=>?_;refine Zf (X0j (zs:=[vi x.a,vi x.b,vi x.c,vi x.d]) rfl rfl) ?_;rintro _ w1 ⟨b2,rfl,aG,i,e⟩;have aK:=Q0 g.size aG;have g:=btr g i;refine Zf (X3 (zs:=[vi 0,vi 0,vi 0,vi 0]) X1y rfl) ?_;rintro _ w2 ⟨b3,rfl,aH,i,f⟩
 have aC:b2≠b3:=by have:=e.lt;omega
 have aA:=Q0 g.size aH;have e:=e.below i;have g:=btr g i;refine Za rfl<|Zx aF fun a hf _ aI=>?_;refine Ze (Vd rfl X0a 1)<|Ze (X0 rfl X9 (e.at 1))<|Ze (Vd rfl X0f 3)<|Ze (X0 rfl X9 (e.at 3))<|Ze (X3t rfl rfl)<|Ze (Vd rfl X0c 0)<|Ze (X0 rfl X9 (e.at 0))<|Ze (Vd rfl X0d 2)<|Ze (X0 rfl X9 (e.at 2))<|Ze (X2x rfl rfl) ?_;refine Ze (Vd rfl X0a 1)<|Ze (X0 rfl X9 (e.at 1))<|Ze (Vd rfl X0f 3)<|Ze (X0 rfl X9 (e.at 3))<|Ze (X2x rfl rfl)<|Ze (Vd rfl X0d 2)<|Ze (X0 rfl X9 (e.at 2))<|Ze (Vd rfl X0c 0)<|Ze (X0 rfl X9 (e.at 0))<|Ze (X3t rfl rfl) ?_;refine Ze (Xg (ps:=[(0,vi (wr (x.b-x.d))),(1,vi (wr (x.a+x.c))),(2,vi (wr (x.b+x.d))),(3,vi (wr (x.c-x.a)))]) (cs:=[vi (wr (x.b-x.d)),vi (wr (x.a+x.c)),vi (wr (x.b+x.d)),vi (wr (x.c-x.a))]) rfl (fun _=>by first|rfl|kernel_rfl))<|Ze (Vn Xv e)<|Zf (Xb (k:=1) (vs:=[.agg #[vi x.a,vi x.b,vi x.c,vi x.d]]) (zs:=[vi x.a,vi x.b,vi x.c,vi x.d]) rfl X4g X4e rfl rfl) ?_;rintro _ w3 ⟨b5,rfl,aJ,i,aB⟩
 have aD:b2≠b5:=by have:=e.lt;omega
 have aE:b3≠b5:=by have:=f.lt;omega
 have aL:=Q0 g.size aJ;have f:=f.below i;have g:=btr g i;refine Zf (Vc (Xio _ (rRoot x) (some ⟨b5,0,none⟩) 1 ([x]) (Rd.of_blk aB rfl _ aB.lt) rfl (by simp) (by simp)) X8u) ?_;rintro _ w4 ⟨rfl,i⟩;have f:=f.below i;have g:=btr g i;refine Ze (X1 (vs:=[.agg #[vi ((rIf1 (rRoot x) ([x])).a),vi ((rIf1 (rRoot x) ([x])).b),vi ((rIf1 (rRoot x) ([x])).c),vi ((rIf1 (rRoot x) ([x])).d)],.bool (rIf2 (rRoot x) ([x]))]) rfl rfl)<|Ze (X1 (vs:=[.agg #[vi ((rIf1 (rRoot x) ([x])).a),vi ((rIf1 (rRoot x) ([x])).b),vi ((rIf1 (rRoot x) ([x])).c),vi ((rIf1 (rRoot x) ([x])).d)],.bool (rIf2 (rRoot x) ([x]))]) rfl rfl)<|Zo (Vw [vi ((rIf1 (rRoot x) ([x])).a),vi ((rIf1 (rRoot x) ([x])).b),vi ((rIf1 (rRoot x) ([x])).c),vi ((rIf1 (rRoot x) ([x])).d)] X0w f) ?_;rintro _ w5 ⟨ho,hb⟩;have aM:=f;have g:=Below.only g ho aA;have f:=hb;refine Za rfl<|Zt aI fun a hf=>?_
 refine Q6 (X4 hf (X0r hf rfl (ResV.cellN (l:=[vi ((rIf1 (rRoot x) ([x])).a),vi ((rIf1 (rRoot x) ([x])).b),vi ((rIf1 (rRoot x) ([x])).c),vi ((rIf1 (rRoot x) ([x])).d)]) rfl Xv (f.at 0) rfl) rfl) ?_)
 exact ⟨rfl,g⟩
theorem Xwd(w0:World)(x:Rg)(m:Int)(hm:m≤1000) : Ret Tryz.prog 150 [.agg #[vi x.a,vi x.b,vi x.c,vi x.d],vi m] w0 (fun v w=>v=dV (dLow x m)∧Below w0.heap.size w0 w):=by
 refine enter Tryz.func150 rfl 18 rfl rfl ?_;intro a i
 have k:=bz w0
 refine Zs i fun _ aF=>?_;refine Zf (X0j (zs:=[vi x.a,vi x.b,vi x.c,vi x.d]) rfl rfl) ?_;rintro _ w1 ⟨b2,rfl,aG,n,e⟩;have aB:=Q0 k.size aG;have k:=btr k n;refine Zf (X3 (zs:=[vi 0,vi 0,vi 0,vi 0,vi 0]) X0n rfl) ?_;rintro _ w2 ⟨b3,rfl,aH,n,f⟩;have aC:=Q0 k.size aH;have e:=e.below n;have k:=btr k n;refine ZX aF fun a i _ aI=>?_;refine Q8<|X07 (σ:=Rg×Int) (fun (s:Rg×Int) (a:Act) (w:World)=>match s with|(y,j)=>Fr a 18 [(1,vi j),(2,.pointer (some ⟨b2,0,none⟩)),(4,.pointer (some ⟨b3,0,none⟩))]∧(dLow y j=dLow x m)∧(j≤1000)∧Blk w b2 51 [vi y.a,vi y.b,vi y.c,vi y.d]∧Blk w b3 53 [vi 0,vi 0,vi 0,vi 0,vi 0]∧Below w0.heap.size w0 w) (fun (s:Rg×Int)=>match s with|(y,j)=>j.toNat) (x,m) ?_ ?_
 ·exact ⟨i.sb,rfl,hm,e,f,k⟩
 rintro ⟨y,j⟩ a w3 ⟨i,q,aO,e,f,k⟩;refine Q5 fun _ aJ=>?_;refine Q5 fun _ aK=>?_;refine X02 (fun a w=>Fr a 18 [(1,vi j),(2,.pointer (some ⟨b2,0,none⟩)),(4,.pointer (some ⟨b3,0,none⟩)),(10,.bool ((decide (0<j))&&(rEven y)))]∧Below w3.heap.size w3 w) ?_ ?_
 ·have p:Below w3.heap.size w3 w3:=Below.refl _ _
  refine Zr i<|Zm rfl<|Ze (X72 rfl rfl)<|Zm rfl ?_
  refine Zg 7 rfl (fun g=>?_) (fun g=>?_)
  ·refine Zv (gW g) (Vn Xv e) ?_;refine Zk (gW g) (Vc (Y04 _ y) Xsv) ?_;rintro _ w4 ⟨rfl,n⟩;have k:=btr k n;have p:=btr p n;refine Ze (Xe rfl g rfl) ?_;refine Zn fun a i=>?_
   have aA:Below w3.heap.size w3 w4:=p
   exact ⟨i.sub ⟨rfl,rfl,rfl,X2 rfl (by first|rfl|(simp only [g,bs];done)|simp [g]),trivial⟩,aA⟩
  refine Zp (gP g) ?_;refine Zp (gP g) ?_;refine Ze (Xc rfl g rfl) ?_;refine Zn fun a i=>?_
  have aA:Below w3.heap.size w3 w3:=p
  exact ⟨i.sub ⟨rfl,rfl,rfl,X2 rfl (by first|rfl|(simp only [g,bs];done)|simp [g]),trivial⟩,aA⟩
 rintro a w5 ⟨i,n⟩;have e:=e.below n;have f:=f.below n;have k:=btr k n;refine aK _ _ ?_
 refine Xl i rfl (fun o=>?_) (fun o=>?_)
 ·have aD:=o
  have aP:0<j:=by revert o;simp;omega
  have aL:rEven y=true:=by revert o;cases rEven y<;>simp
  refine Q7<|aJ _ _<|Q8<|Zs i fun _ aM=>?_;refine Ze (Vn Xv e)<|Zf (Vc (Xzv _ y) Xsc) ?_;rintro _ w6 ⟨rfl,n⟩;have e:=e.below n;have f:=f.below n;have k:=btr k n;refine Zo (Vw [vi ((rHalf y).a),vi ((rHalf y).b),vi ((rHalf y).c),vi ((rHalf y).d)] X0w e) ?_;rintro _ w7 ⟨ho,hb⟩;have t:=e;have f:=f.only ho (Blk.ne f t rfl);have k:=Below.only k ho aB;have e:=hb;refine Zt aM fun a i=>?_;refine Zr i<|Zm rfl<|Ze (X1m rfl rfl (by omega) (by omega))<|Za rfl ?_;refine Zn fun a i=>?_;refine Xn<|Xo ?_;exact ⟨(rHalf y,j-1),⟨i.sb,(by rw [← q];exact (X4t (by omega) aL).symm),(by omega),e,f,k⟩,(by first|omega|(dsimp only;omega))⟩
 have aD:=o
 have aN:dLow y j=⟨y,j⟩:=X29 (by intro h0;revert o;simp [h0])
 refine Q9<|Xm<|Xm<|X08 ?_;refine aI _ _<|Zs i fun _ aE=>?_;refine Ze (Vn Xv e)<|Zm rfl<|Ze (Xg (ps:=[(0,.agg #[vi y.a,vi y.b,vi y.c,vi y.d]),(1,vi j)]) (cs:=[vi y.a,vi y.b,vi y.c,vi y.d,vi j]) rfl (fun _=>by first|rfl|kernel_rfl))<|Zo (Vw [vi y.a,vi y.b,vi y.c,vi y.d,vi j] Xd f) ?_;rintro _ w8 ⟨ho,hb⟩;have t:=f;have k:=Below.only k ho aC;have f:=hb;refine Zt aE fun a i=>?_
 refine Q6 (X4 i (Xx i rfl (ResV.cellN (l:=[vi y.a,vi y.b,vi y.c,vi y.d,vi j]) rfl X6 (f.at 0) rfl)) ?_)
 refine ⟨?_,k⟩
 rw [← q,aN]
theorem Y0b(w0:World)(x:Rg) : Ret Tryz.prog 122 [.agg #[vi x.a,vi x.b,vi x.c,vi x.d]] w0 (fun v w=>v=.tuple #[rV (rDiv1 x),.bool (rDiv2 x)]∧Below w0.heap.size w0 w):=by
 refine enter Tryz.func122 rfl 43 rfl rfl ?_;intro a m
 have i:=bz w0
 refine Zs m fun _ aH=>?_;refine Zf (X0j (zs:=[vi x.a,vi x.b,vi x.c,vi x.d]) rfl rfl) ?_;rintro _ w1 ⟨b2,rfl,aI,j,e⟩;have aQ:=Q0 i.size aI;have i:=btr i j;refine Zf (X3 (zs:=[vi 0,vi 0,vi 0,vi 0]) X1y rfl) ?_;rintro _ w2 ⟨b3,rfl,aJ,j,f⟩
 have aG:b2≠b3:=by have:=e.lt;omega
 have p:=Q0 i.size aJ;have e:=e.below j;have i:=btr i j;refine Za rfl<|ZX aH fun a m _ aK=>?_;refine Q5 fun _ aL=>?_;refine X02 (fun a w=>Fr a 43 [(1,.pointer (some ⟨b2,0,none⟩)),(2,.pointer (some ⟨b3,0,none⟩)),(11,.bool ((!(rOk x))||(!(rEven x))))]∧Below w2.heap.size w2 w) ?_ ?_
 ·have n:Below w2.heap.size w2 w2:=Below.refl _ _
  refine Zr m<|Ze (Vn Xv e)<|Zf (Vc (Xk2 _ x) Xal) ?_;rintro _ w3 ⟨rfl,j⟩;have e:=e.below j;have i:=btr i j;have n:=btr n j;refine Ze (X0o rfl)<|Zm rfl ?_
  refine Zg 7 rfl (fun g=>?_) (fun g=>?_)
  ·refine Zp (gP g) ?_;refine Zp (gP g) ?_;refine Zp (gP g) ?_;refine Ze (Xe rfl g rfl) ?_;refine Zn fun a m=>?_
   have aA:Below w2.heap.size w2 w3:=n
   exact ⟨m.sub ⟨rfl,rfl,X2 rfl (by first|rfl|(simp only [g,bs];done)|simp [g]),trivial⟩,aA⟩
  refine Zv (gW g) (Vn Xv e) ?_;refine Zk (gW g) (Vc (Xu2 _ x) Xfj) ?_;rintro _ w4 ⟨rfl,j⟩;have i:=btr i j;have n:=btr n j;refine Zv (gW g) (X0o rfl) ?_;refine Ze (Xc rfl g rfl) ?_;refine Zn fun a m=>?_
  have aA:Below w2.heap.size w2 w4:=n
  exact ⟨m.sub ⟨rfl,rfl,X2 rfl (by first|rfl|(simp only [g,bs];done)|simp [g]),trivial⟩,aA⟩
 rintro a w5 ⟨m,j⟩;have e:=e.below j;have f:=f.below j;have i:=btr i j;refine aL _ _ ?_
 refine Xl m rfl (fun o=>?_) (fun o=>?_)
 ·have aB:=o
  have hn:rDiv2 x=false:=by unfold rDiv2;revert o;cases rOk x<;>cases rEven x<;>simp
  refine Zs m fun _ aM=>?_;refine Ze (Xg (ps:=[]) (cs:=[vi 0,vi 0,vi 0,vi 0]) rfl (fun _=>by first|rfl|kernel_rfl))<|Zo (Vw [vi 0,vi 0,vi 0,vi 0] X0w f) ?_;rintro _ w6 ⟨ho,hb⟩;have aC:=f;have i:=Below.only i ho p;have f:=hb;refine Za rfl<|Zt aM fun a m=>?_;refine Q6<|Xf<|X4 m (X0r m rfl (ResV.cellN (l:=[vi 0,vi 0,vi 0,vi 0]) rfl Xv (f.at 0) rfl) rfl) ?_;exact ⟨by simp [rDiv1,hn],i⟩
 have aB:=o
 have hy:(rOk x&&rEven x)=true:=by revert o;cases rOk x<;>cases rEven x<;>simp
 have aN:rOk x=true:=by revert hy;cases rOk x<;>simp
 refine Q7<|aK _ _<|Zs m fun _ aO=>?_;refine Ze (Vd rfl X0a 1)<|Ze (X0 rfl X9 (e.at 1))<|Ze (Vd rfl X0f 3)<|Ze (X0 rfl X9 (e.at 3))<|Ze (X3t rfl rfl)<|Ze (X95 rfl rfl rfl)<|Ze (Vd rfl X0c 0)<|Ze (X0 rfl X9 (e.at 0))<|Ze (Vd rfl X0d 2)<|Ze (X0 rfl X9 (e.at 2)) ?_;refine Ze (X2x rfl rfl)<|Ze (X95 rfl rfl rfl)<|Ze (Vd rfl X0a 1)<|Ze (X0 rfl X9 (e.at 1))<|Ze (Vd rfl X0f 3)<|Ze (X0 rfl X9 (e.at 3))<|Ze (X2x rfl rfl)<|Ze (X95 rfl rfl rfl)<|Ze (Vd rfl X0d 2)<|Ze (X0 rfl X9 (e.at 2)) ?_;refine Ze (Vd rfl X0c 0)<|Ze (X0 rfl X9 (e.at 0))<|Ze (X3t rfl rfl)<|Ze (X95 rfl rfl rfl)<|Ze (Xg (ps:=[(0,vi (wr ((wr (x.b-x.d)).tdiv 2))),(1,vi (wr ((wr (x.a+x.c)).tdiv 2))),(2,vi (wr ((wr (x.b+x.d)).tdiv 2))),(3,vi (wr ((wr (x.c-x.a)).tdiv 2)))]) (cs:=[vi (wr ((wr (x.b-x.d)).tdiv 2)),vi (wr ((wr (x.a+x.c)).tdiv 2)),vi (wr ((wr (x.b+x.d)).tdiv 2)),vi (wr ((wr (x.c-x.a)).tdiv 2))]) rfl (fun _=>by first|rfl|kernel_rfl))<|Ze (Vn Xv e)<|Zf (Xb (k:=1) (vs:=[.agg #[vi x.a,vi x.b,vi x.c,vi x.d]]) (zs:=[vi x.a,vi x.b,vi x.c,vi x.d]) rfl X4g X4e rfl rfl) ?_;rintro _ w7 ⟨b10,rfl,aD,j,q⟩
 have aE:b2≠b10:=by have:=e.lt;omega
 have aF:b3≠b10:=by have:=f.lt;omega
 have aP:=Q0 i.size aD;have f:=f.below j;have i:=btr i j;refine Zf (Vc (Xio _ (rHalf x) (some ⟨b10,0,none⟩) 1 ([x]) (Rd.of_blk q rfl _ q.lt) rfl (by simp) (by simp)) X8u) ?_;rintro _ w8 ⟨rfl,j⟩;have f:=f.below j;have i:=btr i j;refine Ze (X1 (vs:=[.agg #[vi ((rIf1 (rHalf x) ([x])).a),vi ((rIf1 (rHalf x) ([x])).b),vi ((rIf1 (rHalf x) ([x])).c),vi ((rIf1 (rHalf x) ([x])).d)],.bool (rIf2 (rHalf x) ([x]))]) rfl rfl)<|Ze (X1 (vs:=[.agg #[vi ((rIf1 (rHalf x) ([x])).a),vi ((rIf1 (rHalf x) ([x])).b),vi ((rIf1 (rHalf x) ([x])).c),vi ((rIf1 (rHalf x) ([x])).d)],.bool (rIf2 (rHalf x) ([x]))]) rfl rfl)<|Zo (Vw [vi ((rIf1 (rHalf x) ([x])).a),vi ((rIf1 (rHalf x) ([x])).b),vi ((rIf1 (rHalf x) ([x])).c),vi ((rIf1 (rHalf x) ([x])).d)] X0w f) ?_;rintro _ w9 ⟨ho,hb⟩;have aC:=f;have i:=Below.only i ho p;have f:=hb;refine Za rfl<|Zt aO fun a m=>?_
 refine Q6 (X4 m (X0r m rfl (ResV.cellN (l:=[vi ((rIf1 (rHalf x) ([x])).a),vi ((rIf1 (rHalf x) ([x])).b),vi ((rIf1 (rHalf x) ([x])).c),vi ((rIf1 (rHalf x) ([x])).d)]) rfl Xv (f.at 0) rfl) rfl) ?_)
 refine ⟨?_,i⟩
 have hd:rDiv2 x=true:=hy
 have h2:=Xmm aN
 show Value.tuple #[rV (rIf1 (rHalf x) [x]),.bool (rIf2 (rHalf x) [x])]=_
 rw [rIf1,h2,rDiv1,hd]
theorem Y09(w0:World)(x:Rg)(k:Int) : Ret Tryz.prog 49 [.agg #[vi x.a,vi x.b,vi x.c,vi x.d],vi k] w0 (fun v w=>v=.tuple #[rV (mulOm1 x k),.bool (mulOm2 x k)]∧Below w0.heap.size w0 w):=by
 refine enter Tryz.func49 rfl 33 rfl rfl ?_;intro a g
 have o:=bz w0
 refine Zs g fun _ aK=>?_;refine Zf (X0j (zs:=[vi x.a,vi x.b,vi x.c,vi x.d]) rfl rfl) ?_;rintro _ w1 ⟨b2,rfl,aL,p,e⟩;have aC:=Q0 o.size aL;have o:=btr o p;refine Zf (X3 (zs:=[vi 0,vi 0,vi 0,vi 0]) X1y rfl) ?_;rintro _ w2 ⟨b3,rfl,aM,p,f⟩
 have aJ:b2≠b3:=by have:=e.lt;omega
 have z:=Q0 o.size aM;have e:=e.below p;have o:=btr o p;refine Za rfl<|ZX aK fun a g _ aN=>?_;refine Q5 fun _ aO=>?_;refine X02 (fun a w=>Fr a 33 [(1,vi k),(2,.pointer (some ⟨b2,0,none⟩)),(4,.pointer (some ⟨b3,0,none⟩)),(13,.bool ((!(inR k (-1000) 1000))||(!(rOk x))))]∧Below w2.heap.size w2 w) ?_ ?_
 ·have u:Below w2.heap.size w2 w2:=Below.refl _ _
  refine Zr g<|Zm rfl<|Zf (Vc (F91 _ k (-1000) 1000) X36) ?_;rintro _ _ ⟨rfl,rfl⟩;refine Ze (X0o rfl)<|Zm rfl ?_
  refine Zg 9 rfl (fun n=>?_) (fun n=>?_)
  ·refine Zp (gP n) ?_;refine Zp (gP n) ?_;refine Zp (gP n) ?_;refine Ze (Xe rfl n rfl) ?_;refine Zn fun a g=>?_
   have aA:Below w2.heap.size w2 w2:=u
   exact ⟨g.sub ⟨rfl,rfl,rfl,X2 rfl (by first|rfl|(simp only [n,bs];done)|simp [n]),trivial⟩,aA⟩
  refine Zv (gW n) (Vn Xv e) ?_;refine Zk (gW n) (Vc (Xk2 _ x) Xal) ?_;rintro _ w3 ⟨rfl,p⟩;have o:=btr o p;have u:=btr u p;refine Zv (gW n) (X0o rfl) ?_;refine Ze (Xc rfl n rfl) ?_;refine Zn fun a g=>?_
  have aA:Below w2.heap.size w2 w3:=u
  exact ⟨g.sub ⟨rfl,rfl,rfl,X2 rfl (by first|rfl|(simp only [n,bs];done)|simp [n]),trivial⟩,aA⟩
 rintro a w4 ⟨g,p⟩;have e:=e.below p;have f:=f.below p;have o:=btr o p;refine aO _ _ ?_
 refine Xl g rfl (fun q=>?_) (fun q=>?_)
 ·have aD:=q
  have hn:mulOm2 x k=false:=by unfold mulOm2;revert q;cases inR k (-1000) 1000<;>cases rOk x<;>simp
  refine Zs g fun _ aP=>?_;refine Ze (Xg (ps:=[]) (cs:=[vi 0,vi 0,vi 0,vi 0]) rfl (fun _=>by first|rfl|kernel_rfl))<|Zo (Vw [vi 0,vi 0,vi 0,vi 0] X0w f) ?_;rintro _ w5 ⟨ho,hb⟩;have h:=f;have o:=Below.only o ho z;have f:=hb;refine Za rfl<|Zt aP fun a g=>?_;refine Q6<|Xf<|X4 g (X0r g rfl (ResV.cellN (l:=[vi 0,vi 0,vi 0,vi 0]) rfl Xv (f.at 0) rfl) rfl) ?_;exact ⟨by simp [mulOm1,hn],o⟩
 have aD:=q
 have hy:mulOm2 x k=true:=by unfold mulOm2;revert q;cases inR k (-1000) 1000<;>cases rOk x<;>simp
 refine Q7<|aN _ _<|Q5 fun _ aQ=>?_;refine Zs g fun _ aE=>?_;refine Zm rfl<|Ze (X67 rfl rfl rfl)<|Ze (X2x rfl rfl)<|Ze (X67 rfl rfl rfl)<|Zm rfl<|Zt aE fun a g=>?_;refine Q8 ?_
 have hj:turns k=((turns k).toNat:Int):=by have:=X4d k;omega
 have aR:=(X4d k).2;refine X07 (σ:=Rg×Nat) (fun (s:Rg×Nat) (a:Act) (w:World)=>match s with|(y,j)=>Fr a 33 [(2,.pointer (some ⟨b2,0,none⟩)),(4,.pointer (some ⟨b3,0,none⟩)),(18,vi ((wr ((k.tmod 8)+8)).tmod 8)),(19,vi (j:Int))]∧(rTurnN ((turns k).toNat-j) y=rTurn x k)∧(j≤(turns k).toNat)∧Blk w b2 51 [vi y.a,vi y.b,vi y.c,vi y.d]∧Blk w b3 51 [vi 0,vi 0,vi 0,vi 0]∧Below w0.heap.size w0 w) (fun (s:Rg×Nat)=>match s with|(y,j)=>(turns k).toNat-j) (x,0) ?_ ?_
 ·exact ⟨g.sb,rfl,(Qf _),e,f,o⟩
 rintro ⟨y,j⟩ a w6 ⟨g,t,aR,e,f,o⟩;refine Zs g fun _ aF=>?_;refine Ze (X1h rfl rfl)<|ZX aF fun a g _ aG=>?_
 refine Xl g rfl (fun i=>?_) (fun i=>?_)
 ·have aB:=i;have i:=Q2 i
  have aS:(j:Int)<turns k:=i
  refine Q7<|aG _ _<|Q5 fun _ aH=>?_;refine Q8<|Zr g<|Ze (Vd rfl X0f 3)<|Ze (X0 rfl X9 (e.at 3))<|Ze (X8g rfl)<|Ze (Vd rfl X0c 0)<|Ze (X0 rfl X9 (e.at 0))<|Ze (Vd rfl X0a 1)<|Ze (X0 rfl X9 (e.at 1))<|Ze (Vd rfl X0d 2)<|Ze (X0 rfl X9 (e.at 2))<|Ze (Xg (ps:=[(0,vi (wr (-y.d))),(1,vi y.a),(2,vi y.b),(3,vi y.c)]) (cs:=[vi (wr (-y.d)),vi y.a,vi y.b,vi y.c]) rfl (fun _=>by first|rfl|kernel_rfl)) ?_;refine Zo (Vw [vi (wr (-y.d)),vi y.a,vi y.b,vi y.c] X0w e) ?_;rintro _ w7 ⟨ho,hb⟩;have h:=e;have f:=f.only ho (by omega);have o:=Below.only o ho aC;have e:=hb;refine Zn fun a g=>?_;refine Xn<|aH _ _<|Zr g<|Ze (X03 rfl rfl (by omega) (by omega))<|Zm rfl ?_;refine Zn fun a g=>?_;refine Xo ?_;exact ⟨(rOm y,j+1),⟨g.sb,(by rw [← t];obtain ⟨m,hm⟩ : ∃ m,(turns k).toNat-j=m+1:=⟨(turns k).toNat-j-1,by omega⟩;rw [hm,show (turns k).toNat-(j+1)=m from by omega];rfl),(by omega),e,f,o⟩,(by first|omega|(dsimp only;omega))⟩
 have aB:=i;have i:=Q1 i
 have aS:¬ (j:Int)<turns k:=i
 refine Q9<|Xm<|Xm<|X08 ?_;refine aQ _ _<|Zs g fun _ aI=>?_;refine Ze (Vn Xv e)<|Zo (Vw [vi y.a,vi y.b,vi y.c,vi y.d] X0w f) ?_;rintro _ w8 ⟨ho,hb⟩;have h:=f;have o:=Below.only o ho z;have f:=hb;refine Za rfl<|Zt aI fun a g=>?_
 refine Q6 (X4 g (X0r g rfl (ResV.cellN (l:=[vi y.a,vi y.b,vi y.c,vi y.d]) rfl Xv (f.at 0) rfl) rfl) ?_)
 have aT:(turns k).toNat-j=0:=by omega
 rw [aT] at t
 refine ⟨?_,o⟩
 rw [mulOm1,hy,Q4 rfl,← t];rfl
theorem Xc2(w0:World)(k:Int)(hk:inR k (-1000) 1000=true) : Ret Tryz.prog 20 [vi k] w0 (fun v w=>v=dV (dPow k)∧Below w0.heap.size w0 w):=by
 refine enter Tryz.func20 rfl 13 rfl rfl ?_;intro a hf
 have f:=bz w0
 refine Zs hf fun _ aC=>?_;refine Zf (X3 (zs:=[vi 0,vi 0,vi 0,vi 0,vi 0]) X0n rfl) ?_;rintro _ w1 ⟨b2,rfl,aD,hE,e⟩;have aA:=Q0 f.size aD;have f:=btr f hE;refine Zx aC fun a hf _ aE=>?_;refine Ze (Xg (ps:=[(0,vi 1)]) (cs:=[vi 1,vi 0,vi 0,vi 0]) rfl (fun _=>by first|rfl|kernel_rfl))<|Zm rfl<|Zf (Vc (Y09 _ (⟨1,0,0,0⟩ : Rg) k) Xuu) ?_;rintro _ w2 ⟨rfl,hE⟩;have e:=e.below hE;have f:=btr f hE;refine Zm rfl<|Ze (X1 (vs:=[.agg #[vi ((mulOm1 (⟨1,0,0,0⟩ : Rg) k).a),vi ((mulOm1 (⟨1,0,0,0⟩ : Rg) k).b),vi ((mulOm1 (⟨1,0,0,0⟩ : Rg) k).c),vi ((mulOm1 (⟨1,0,0,0⟩ : Rg) k).d)],.bool (mulOm2 (⟨1,0,0,0⟩ : Rg) k)]) rfl rfl)<|Ze (X1 (vs:=[.agg #[vi ((mulOm1 (⟨1,0,0,0⟩ : Rg) k).a),vi ((mulOm1 (⟨1,0,0,0⟩ : Rg) k).b),vi ((mulOm1 (⟨1,0,0,0⟩ : Rg) k).c),vi ((mulOm1 (⟨1,0,0,0⟩ : Rg) k).d)],.bool (mulOm2 (⟨1,0,0,0⟩ : Rg) k)]) rfl rfl)<|Zf (X3 (zs:=[vi 0,vi 0,vi 0,vi 0]) X1y rfl) ?_;rintro _ w3 ⟨b4,rfl,aF,hE,g⟩;have aB:=Q0 f.size aF;have e:=e.below hE;have f:=btr f hE;refine Zo (Vw [vi ((mulOm1 (⟨1,0,0,0⟩ : Rg) k).a),vi ((mulOm1 (⟨1,0,0,0⟩ : Rg) k).b),vi ((mulOm1 (⟨1,0,0,0⟩ : Rg) k).c),vi ((mulOm1 (⟨1,0,0,0⟩ : Rg) k).d)] X0w g) ?_;rintro _ w4 ⟨ho,hb⟩;have i:=g;have e:=e.only ho (Blk.ne e i rfl);have f:=Below.only f ho aB;have g:=hb;refine Za rfl<|Zx aE fun a hf _ aG=>?_;refine Ze (Vn Xv g)<|Ze (Xg (ps:=[(0,.agg #[vi ((mulOm1 (⟨1,0,0,0⟩ : Rg) k).a),vi ((mulOm1 (⟨1,0,0,0⟩ : Rg) k).b),vi ((mulOm1 (⟨1,0,0,0⟩ : Rg) k).c),vi ((mulOm1 (⟨1,0,0,0⟩ : Rg) k).d)])]) (cs:=[vi ((mulOm1 (⟨1,0,0,0⟩ : Rg) k).a),vi ((mulOm1 (⟨1,0,0,0⟩ : Rg) k).b),vi ((mulOm1 (⟨1,0,0,0⟩ : Rg) k).c),vi ((mulOm1 (⟨1,0,0,0⟩ : Rg) k).d),vi 0]) rfl (fun _=>by first|rfl|kernel_rfl))<|Zo (Vw [vi ((mulOm1 (⟨1,0,0,0⟩ : Rg) k).a),vi ((mulOm1 (⟨1,0,0,0⟩ : Rg) k).b),vi ((mulOm1 (⟨1,0,0,0⟩ : Rg) k).c),vi ((mulOm1 (⟨1,0,0,0⟩ : Rg) k).d),vi 0] Xd e) ?_;rintro _ w5 ⟨ho,hb⟩
 have i:=e;have f:=Below.only f ho aA;have e:=hb;refine Zt aG fun a hf=>?_
 refine Q6 (X4 hf (Xx hf rfl (ResV.cellN (l:=[vi ((mulOm1 (⟨1,0,0,0⟩ : Rg) k).a),vi ((mulOm1 (⟨1,0,0,0⟩ : Rg) k).b),vi ((mulOm1 (⟨1,0,0,0⟩ : Rg) k).c),vi ((mulOm1 (⟨1,0,0,0⟩ : Rg) k).d),vi 0]) rfl X6 (e.at 0) rfl)) ?_)
 refine ⟨?_,f⟩
 have h2:mulOm2 ⟨1,0,0,0⟩ k=true:=by simp only [mulOm2,hk,Qw];rfl
 rw [mulOm1,h2];rfl
theorem Xar(w0:World)(x:Dy) : Ret Tryz.prog 44 [.agg #[vi x.num.a,vi x.num.b,vi x.num.c,vi x.num.d,vi x.exp]] w0 (fun v w=>v=.bool (dOk x)∧Below w0.heap.size w0 w):=by
 refine enter Tryz.func44 rfl 22 rfl rfl ?_;intro a k
 have n:=bz w0
 refine Zs k fun _ aA=>?_;refine Zf (X0j (zs:=[vi x.num.a,vi x.num.b,vi x.num.c,vi x.num.d,vi x.exp]) rfl rfl) ?_;rintro _ w1 ⟨b2,rfl,aB,o,m⟩;have aD:=Q0 n.size aB;have n:=btr n o;refine Za rfl<|ZX aA fun a k _ aC=>?_;refine X02 (fun a w=>Fr a 22 [(2,.bool (((rOk x.num)&&(inR x.exp 0 60))&&((x.exp==0)||(!(rEven x.num)))))]∧Below w1.heap.size w1 w) ?_ ?_
 ·have i:Below w1.heap.size w1 w1:=Below.refl _ _
  refine Zr k<|Ze (Vd rfl X1i 0)<|Ze (X09 (l:=[vi x.num.a,vi x.num.b,vi x.num.c,vi x.num.d]) rfl Xv ((m.at 0).take 4) rfl)<|Zf (Vc (Xk2 _ x.num) Xal) ?_;rintro _ w2 ⟨rfl,o⟩;have m:=m.below o;have n:=btr n o;have i:=btr i o;refine Zm rfl ?_
  refine Zg 6 rfl (fun f=>?_) (fun f=>?_)
  ·refine Zv (gW f) (Vd rfl X12 4) ?_;refine Zv (gW f) (X0 rfl X9 (m.at 4)) ?_;refine Zk (gW f) (Vc (F91 _ x.exp 0 60) X36) ?_;rintro _ _ ⟨rfl,rfl⟩;refine Ze (Xe rfl f rfl)<|Zm rfl ?_
   refine Zg 11 rfl (fun e=>?_) (fun e=>?_)
   ·refine Zv (gW e) (Vd rfl X12 4) ?_;refine Zv (gW e) (X0 rfl X9 (m.at 4)) ?_;refine Zv (gW e) (X1b rfl rfl) ?_;refine Zv (gW e) (X7 rfl) ?_
    refine Zg 15 rfl (fun g=>?_) (fun g=>?_)
    ·refine Zp (gP g) ?_;refine Zp (gP g) ?_;refine Zp (gP g) ?_;refine Zp (gP g) ?_;refine Zv (gW e) (Xe rfl g rfl) ?_;refine Ze (Xe rfl e rfl)<|Za rfl ?_;refine Zn fun a k=>?_
     have j:Below w1.heap.size w1 w2:=i
     exact ⟨k.sub ⟨X2 rfl (by first|rfl|(simp only [f,e,g,bs];done)|simp [f,e,g]),trivial⟩,j⟩
    refine Zv (gW g) (Vd rfl X1i 0) ?_;refine Zv (gW g) (X09 (l:=[vi x.num.a,vi x.num.b,vi x.num.c,vi x.num.d]) rfl Xv ((m.at 0).take 4) rfl) ?_;refine Zk (gW g) (Vc (Xu2 _ x.num) Xfj) ?_;rintro _ w3 ⟨rfl,o⟩;have n:=btr n o;have i:=btr i o;refine Zv (gW g) (X0o rfl) ?_;refine Zv (gW e) (Xc rfl g rfl) ?_;refine Ze (Xe rfl e rfl)<|Za rfl ?_;refine Zn fun a k=>?_
    have j:Below w1.heap.size w1 w3:=i
    exact ⟨k.sub ⟨X2 rfl (by first|rfl|(simp only [f,e,g,bs];done)|simp [f,e,g]),trivial⟩,j⟩
   refine Zp (gP e) ?_;refine Zp (gP e) ?_;refine Zp (gP e) ?_;refine Zp (gP e) ?_;refine Zp (gP trivial) ?_;refine Zp (gP trivial) ?_;refine Zp (gP trivial) ?_;refine Zp (gP trivial) ?_;refine Zp (gP e) ?_;refine Ze (Xc rfl e rfl)<|Za rfl ?_;refine Zn fun a k=>?_
   have j:Below w1.heap.size w1 w2:=i
   exact ⟨k.sub ⟨X2 rfl (by first|rfl|(simp only [f,e,bs];done)|simp [f,e]),trivial⟩,j⟩
  refine Zp (gP f) ?_;refine Zp (gP f) ?_;refine Zp (gP f) ?_;refine Ze (Xc rfl f rfl)<|Zm rfl<|Zp (gP rfl) ?_;refine Zp (gP rfl) ?_;refine Zp (gP rfl) ?_;refine Zp (gP rfl) ?_;refine Zp (gP trivial) ?_;refine Zp (gP trivial) ?_;refine Zp (gP trivial) ?_;refine Zp (gP trivial) ?_;refine Zp (gP rfl) ?_;refine Ze (Xc rfl rfl rfl)<|Za rfl ?_;refine Zn fun a k=>?_
  have j:Below w1.heap.size w1 w2:=i
  exact ⟨k.sub ⟨X2 rfl (by first|rfl|(simp only [f,bs];done)|simp [f]),trivial⟩,j⟩
 rintro a w4 ⟨k,o⟩;have n:=btr n o;refine aC _ _ ?_
 refine Q6 (X4 k (Xx k rfl rfl) ?_)
 exact ⟨by simp [dOk, *],n⟩
theorem Xv6(w0:World)(x:Rg)(m:Int) : Ret Tryz.prog 85 [.agg #[vi x.a,vi x.b,vi x.c,vi x.d],vi m] w0 (fun v w=>v=.tuple #[dV ((dOf x m).getD dZ),.bool ((dOf x m).isSome)]∧Below w0.heap.size w0 w):=by
 refine enter Tryz.func85 rfl 31 rfl rfl ?_;intro a i
 have k:=bz w0
 refine Zs i fun _ aJ=>?_;refine Zf (X0j (zs:=[vi x.a,vi x.b,vi x.c,vi x.d]) rfl rfl) ?_;rintro _ w1 ⟨b2,rfl,aK,o,f⟩;have aB:=Q0 k.size aK;have k:=btr k o;refine Zf (X3 (zs:=[vi 0,vi 0,vi 0,vi 0,vi 0]) X0n rfl) ?_;rintro _ w2 ⟨b3,rfl,aL,o,e⟩;have A:=Q0 k.size aL;have f:=f.below o;have k:=btr k o;refine Za rfl<|ZX aJ fun a i _ aM=>?_;refine Q5 fun _ aN=>?_;refine X02 (fun a w=>Fr a 31 [(1,vi m),(2,.pointer (some ⟨b2,0,none⟩)),(4,.pointer (some ⟨b3,0,none⟩)),(13,.bool ((!(rOk x))||(!(inR m 0 60))))]∧Below w2.heap.size w2 w) ?_ ?_
 ·have q:Below w2.heap.size w2 w2:=Below.refl _ _
  refine Zr i<|Ze (Vn Xv f)<|Zf (Vc (Xk2 _ x) Xal) ?_;rintro _ w3 ⟨rfl,o⟩;have k:=btr k o;have q:=btr q o;refine Ze (X0o rfl)<|Zm rfl ?_
  refine Zg 9 rfl (fun n=>?_) (fun n=>?_)
  ·refine Zp (gP n) ?_;refine Zp (gP n) ?_;refine Zp (gP n) ?_;refine Ze (Xe rfl n rfl) ?_;refine Zn fun a i=>?_
   have u:Below w2.heap.size w2 w3:=q
   exact ⟨i.sub ⟨rfl,rfl,rfl,X2 rfl (by first|rfl|(simp only [n,bs];done)|simp [n]),trivial⟩,u⟩
  refine Zv (gW n) (X7 rfl) ?_;refine Zk (gW n) (Vc (F91 _ m 0 60) X36) ?_;rintro _ _ ⟨rfl,rfl⟩;refine Zv (gW n) (X0o rfl) ?_;refine Ze (Xc rfl n rfl) ?_;refine Zn fun a i=>?_
  have u:Below w2.heap.size w2 w3:=q
  exact ⟨i.sub ⟨rfl,rfl,rfl,X2 rfl (by first|rfl|(simp only [n,bs];done)|simp [n]),trivial⟩,u⟩
 rintro a w4 ⟨i,o⟩;have f:=f.below o;have e:=e.below o;have k:=btr k o;refine aN _ _ ?_
 refine Xl i rfl (fun z=>?_) (fun z=>?_)
 ·have t:=z
  have hn:(rOk x&&inR m 0 60)=false:=by revert z;cases rOk x<;>cases inR m 0 60<;>simp
  refine Zs i fun _ aO=>?_;refine Ze (Xg (ps:=[]) (cs:=[vi 0,vi 0,vi 0,vi 0,vi 0]) rfl (fun _=>by first|rfl|kernel_rfl))<|Zo (Vw [vi 0,vi 0,vi 0,vi 0,vi 0] Xd e) ?_;rintro _ w5 ⟨ho,hb⟩;have h:=e;have k:=Below.only k ho A;have e:=hb;refine Za rfl<|Zt aO fun a i=>?_;refine Q6<|Xf<|X4 i (X0r i rfl (ResV.cellN (l:=[vi 0,vi 0,vi 0,vi 0,vi 0]) rfl X6 (e.at 0) rfl) rfl) ?_;exact ⟨by simp [dOf,hn,dZ],k⟩
 have t:=z
 have hy:(rOk x&&inR m 0 60)=true:=by revert z;cases rOk x<;>cases inR m 0 60<;>simp
 have aC:=(Qd _ _▸hy:rOk x=true∧inR m 0 60=true);have hm:=X0g.1 aC.2;refine Q7<|aM _ _<|Q5 fun _ aP=>?_;refine Q8<|X07 (σ:=Rg×Int) (fun (s:Rg×Int) (a:Act) (w:World)=>match s with|(y,j)=>Fr a 31 [(1,vi j),(2,.pointer (some ⟨b2,0,none⟩)),(4,.pointer (some ⟨b3,0,none⟩))]∧(dLow y j=dLow x m)∧(rOk y=true)∧(j≤60)∧Blk w b2 51 [vi y.a,vi y.b,vi y.c,vi y.d]∧Blk w b3 53 [vi 0,vi 0,vi 0,vi 0,vi 0]∧Below w0.heap.size w0 w) (fun (s:Rg×Int)=>match s with|(y,j)=>j.toNat) (x,m) ?_ ?_
 ·exact ⟨i.sb,rfl,aC.1,hm.2,f,e,k⟩
 rintro ⟨y,j⟩ a w6 ⟨i,B,aD,aR,f,e,k⟩;refine Q5 fun _ aE=>?_;refine Q5 fun _ aF=>?_;refine X02 (fun a w=>Fr a 31 [(1,vi j),(2,.pointer (some ⟨b2,0,none⟩)),(4,.pointer (some ⟨b3,0,none⟩)),(20,.bool ((decide (0<j))&&(rEven y)))]∧Below w6.heap.size w6 w) ?_ ?_
 ·have q:Below w6.heap.size w6 w6:=Below.refl _ _
  refine Zr i<|Zm rfl<|Ze (X72 rfl rfl)<|Zm rfl ?_
  refine Zg 17 rfl (fun g=>?_) (fun g=>?_)
  ·refine Zv (gW g) (Vn Xv f) ?_;refine Zk (gW g) (Vc (Xu2 _ y) Xfj) ?_;rintro _ w7 ⟨rfl,o⟩;have k:=btr k o;have q:=btr q o;refine Ze (Xe rfl g rfl) ?_;refine Zn fun a i=>?_
   have u:Below w6.heap.size w6 w7:=q
   exact ⟨i.sub ⟨rfl,rfl,rfl,X2 rfl (by first|rfl|(simp only [t,g,bs];done)|simp [t,g]),trivial⟩,u⟩
  refine Zp (gP g) ?_;refine Zp (gP g) ?_;refine Ze (Xc rfl g rfl) ?_;refine Zn fun a i=>?_
  have u:Below w6.heap.size w6 w6:=q
  exact ⟨i.sub ⟨rfl,rfl,rfl,X2 rfl (by first|rfl|(simp only [t,g,bs];done)|simp [t,g]),trivial⟩,u⟩
 rintro a w8 ⟨i,o⟩;have f:=f.below o;have e:=e.below o;have k:=btr k o;refine aF _ _ ?_
 refine Xl i rfl (fun p=>?_) (fun p=>?_)
 ·have aA:=p
  have aS:0<j:=by revert p;simp;omega
  have aG:rEven y=true:=by revert p;cases rEven y<;>simp
  refine Q7<|aE _ _<|Q8<|Zs i fun _ aH=>?_;refine Ze (Vn Xv f)<|Zf (Vc (Y0b _ y) Xv2) ?_;rintro _ w9 ⟨rfl,o⟩;have f:=f.below o;have e:=e.below o;have k:=btr k o;refine Zm rfl<|Ze (X1 (vs:=[.agg #[vi ((rDiv1 y).a),vi ((rDiv1 y).b),vi ((rDiv1 y).c),vi ((rDiv1 y).d)],.bool (rDiv2 y)]) rfl rfl)<|Ze (X1 (vs:=[.agg #[vi ((rDiv1 y).a),vi ((rDiv1 y).b),vi ((rDiv1 y).c),vi ((rDiv1 y).d)],.bool (rDiv2 y)]) rfl rfl)<|Zo (Vw [vi ((rDiv1 y).a),vi ((rDiv1 y).b),vi ((rDiv1 y).c),vi ((rDiv1 y).d)] X0w f) ?_;rintro _ aT ⟨ho,hb⟩;have h:=f;have e:=e.only ho (Blk.ne e h rfl);have k:=Below.only k ho aB;have f:=hb;refine Zt aH fun a i=>?_;refine Zr i<|Zm rfl<|Ze (X1m rfl rfl (by omega) (by omega))<|Za rfl ?_;refine Zn fun a i=>?_;refine Xn ?_
  rw [rDiv1,rDiv2,aD,aG,Bool.and_self,Q4 rfl] at f
  refine Xo ?_;exact ⟨(rHalf y,j-1),⟨i.sb,(by rw [← B];exact (X4t (by omega) aG).symm),(X7f aD),(by omega),f,e,k⟩,(by first|omega|(dsimp only;omega))⟩
 have aA:=p
 have aQ:dLow y j=⟨y,j⟩:=X29 (by intro h0;revert p;simp [h0])
 refine Q9<|Xm<|Xm<|X08 ?_;refine aP _ _<|Zs i fun _ aI=>?_;refine Ze (Vn Xv f)<|Zm rfl<|Ze (Xg (ps:=[(0,.agg #[vi y.a,vi y.b,vi y.c,vi y.d]),(1,vi j)]) (cs:=[vi y.a,vi y.b,vi y.c,vi y.d,vi j]) rfl (fun _=>by first|rfl|kernel_rfl))<|Zo (Vw [vi y.a,vi y.b,vi y.c,vi y.d,vi j] Xd e) ?_;rintro _ aU ⟨ho,hb⟩;have h:=e;have k:=Below.only k ho A;have e:=hb;refine Za rfl<|Zt aI fun a i=>?_
 refine Q6 (X4 i (X0r i rfl (ResV.cellN (l:=[vi y.a,vi y.b,vi y.c,vi y.d,vi j]) rfl X6 (e.at 0) rfl) rfl) ?_)
 refine ⟨?_,k⟩
 have he:dOf x m=some ⟨y,j⟩:=by rw [dOf,Q4 hy,← B,aQ]
 rw [he];rfl
theorem Xo1(w0:World)(x:Dy)(m:Int)(h0:0≤x.exp)(hm:m≤60)(aF:x.exp≤m) : Ret Tryz.prog 156 [.agg #[vi x.num.a,vi x.num.b,vi x.num.c,vi x.num.d,vi x.exp],vi m] w0 (fun v w=>v=.tuple #[rV ((dRaise x m).1),.bool ((dRaise x m).2)]∧Below w0.heap.size w0 w):=by
 refine enter Tryz.func156 rfl 28 rfl rfl ?_;intro a i
 have k:=bz w0
 refine Zs i fun _ aG=>?_;refine Zf (X0j (zs:=[vi x.num.a,vi x.num.b,vi x.num.c,vi x.num.d,vi x.exp]) rfl rfl) ?_;rintro _ w1 ⟨b2,rfl,aH,q,p⟩;have aR:=Q0 k.size aH;have k:=btr k q;refine Zf (X3 (zs:=[vi 0,vi 0,vi 0,vi 0]) X1y rfl) ?_;rintro _ w2 ⟨b3,rfl,aI,q,e⟩;have aB:=Q0 k.size aI;have p:=p.below q;have k:=btr k q;refine Za rfl<|Zx aG fun a i _ aJ=>?_;refine Ze (Vd rfl X1i 0)<|Ze (X09 (l:=[vi x.num.a,vi x.num.b,vi x.num.c,vi x.num.d]) rfl Xv ((p.at 0).take 4) rfl)<|Zf (X3 (zs:=[vi 0,vi 0,vi 0,vi 0]) X1y rfl) ?_;rintro _ w3 ⟨b5,rfl,aK,q,g⟩
 have aE:b3≠b5:=by have:=e.lt;omega
 have z:=Q0 k.size aK;have p:=p.below q;have e:=e.below q;have k:=btr k q;refine Zo (Vw [vi x.num.a,vi x.num.b,vi x.num.c,vi x.num.d] X0w g) ?_;rintro _ w4 ⟨t,u⟩;have n:=g;have p:=p.only t (Blk.ne p n rfl);have e:=e.only t (by omega);have k:=Below.only k t z;clear n;have g:=u;clear u t;refine Za rfl<|ZX aJ fun a i _ aL=>?_;refine Zs i fun _ aM=>?_;refine Ze (Vd rfl X12 4)<|Ze (X0 rfl X9 (p.at 4))<|Za rfl<|Zt aM fun a i=>?_;refine Q8<|X07 (σ:=Rg×Bool×Int) (fun (s:Rg×Bool×Int) (a:Act) (w:World)=>match s with|(y,b,j)=>Fr a 28 [(1,vi m),(4,.pointer (some ⟨b3,0,none⟩)),(6,.pointer (some ⟨b5,0,none⟩)),(7,.bool b),(8,vi j)]∧((if b=true then raiseI (m-j).toNat y else (y,false))=dRaise x m)∧(b=true→j≤m)∧(0≤j∧j≤61)∧Blk w b3 51 [vi 0,vi 0,vi 0,vi 0]∧Blk w b5 51 [vi y.a,vi y.b,vi y.c,vi y.d]∧Below w0.heap.size w0 w) (fun (s:Rg×Bool×Int)=>match s with|(y,b,j)=>(62-j).toNat) (x.num,true,x.exp) ?_ ?_
 ·exact ⟨i.sb,rfl,(fun _=>aF),(by omega),e,g,k⟩
 rintro ⟨y,b,j⟩ a w5 ⟨i,h,aT,aS,e,g,k⟩;refine Q5 fun _ aN=>?_;refine Q5 fun _ aO=>?_;refine X02 (fun a w=>Fr a 28 [(1,vi m),(4,.pointer (some ⟨b3,0,none⟩)),(6,.pointer (some ⟨b5,0,none⟩)),(7,.bool b),(8,vi j),(18,.bool ((decide (j<m))&&b))]∧w5=w) ?_ ?_
 ·refine Zr i<|Zm rfl<|Zm rfl<|Ze (X1h rfl rfl)<|Zm rfl ?_
  refine Zg 16 rfl (fun f=>?_) (fun f=>?_)
  ·refine Zv (gW f) (X7 rfl) ?_;refine Ze (Xe rfl f rfl) ?_;refine Zn fun a i=>?_;exact ⟨i.sub ⟨rfl,rfl,rfl,rfl,rfl,X2 rfl (by first|rfl|(simp only [f,bs];done)|simp [f]),trivial⟩,rfl⟩
  refine Zp (gP f) ?_;refine Ze (Xc rfl f rfl) ?_;refine Zn fun a i=>?_;exact ⟨i.sub ⟨rfl,rfl,rfl,rfl,rfl,X2 rfl (by first|rfl|(simp only [f,bs];done)|simp [f]),trivial⟩,rfl⟩
 rintro a _ ⟨i,rfl⟩;refine aO _ _ ?_
 refine Xl i rfl (fun o=>?_) (fun o=>?_)
 ·have aA:=o
  have aP:j<m:=by revert o;simp;omega
  have u:b=true:=by revert o;cases b<;>simp
  refine Q7<|aN _ _<|Q5 fun _ aC=>?_;refine Q8<|Zr i<|Ze (Vn Xv g)<|Zf (Vc (Y0i _ y) Xt2) ?_;rintro _ w6 ⟨rfl,q⟩;have e:=e.below q;have g:=g.below q;have k:=btr k q;refine Zm rfl<|Ze (X1 (vs:=[.agg #[vi ((rIf1 (rRoot y) [y]).a),vi ((rIf1 (rRoot y) [y]).b),vi ((rIf1 (rRoot y) [y]).c),vi ((rIf1 (rRoot y) [y]).d)],.bool (rIf2 (rRoot y) [y])]) rfl rfl)<|Ze (X1 (vs:=[.agg #[vi ((rIf1 (rRoot y) [y]).a),vi ((rIf1 (rRoot y) [y]).b),vi ((rIf1 (rRoot y) [y]).c),vi ((rIf1 (rRoot y) [y]).d)],.bool (rIf2 (rRoot y) [y])]) rfl rfl)<|Zo (Vw [vi ((rIf1 (rRoot y) [y]).a),vi ((rIf1 (rRoot y) [y]).b),vi ((rIf1 (rRoot y) [y]).c),vi ((rIf1 (rRoot y) [y]).d)] X0w g) ?_;rintro _ w7 ⟨t,u⟩;have n:=g;have e:=e.only t (by omega);have k:=Below.only k t z;clear n;have g:=u;clear u t;refine Za rfl ?_;refine Zn fun a i=>?_;refine Xn<|aC _ _<|Zr i<|Zm rfl<|Ze (X03 rfl rfl (by omega) (by omega))<|Za rfl ?_;refine Zn fun a i=>?_;refine Xo ?_;exact ⟨(rIf1 (rRoot y) [y],rIf2 (rRoot y) [y],j+1),⟨i.sb,(Xg8 h u aP),(by intro _;omega),(by omega),e,g,k⟩,(by first|omega|(dsimp only;omega))⟩
 have aA:=o
 have aQ:b=true→m≤j:=by intro h0;subst h0;revert o;simp
 refine Q9<|Xm<|Xm<|X08 ?_;refine aL _ _<|Zs i fun _ aD=>?_;refine Ze (Vn Xv g)<|Zm rfl<|Zo (Vw [vi y.a,vi y.b,vi y.c,vi y.d] X0w e) ?_;rintro _ w8 ⟨t,u⟩;have n:=e;have k:=Below.only k t aB;clear n;have e:=u;clear u t;refine Za rfl<|Zt aD fun a i=>?_
 refine Q6 (X4 i (X0r i rfl (ResV.cellN (l:=[vi y.a,vi y.b,vi y.c,vi y.d]) rfl Xv (e.at 0) rfl) rfl) ?_)
 refine ⟨?_,k⟩
 have he:dRaise x m=(y,b):=by rw [← h];cases b with
  | false=>rfl
  | true=>rw [Q4 rfl,show (m-j).toNat=0 from by have:=aQ rfl;omega];rfl
 rw [he]
theorem Y0a(w0:World)(x:Dy)(y:Dy) : Ret Tryz.prog 130 [.agg #[vi x.num.a,vi x.num.b,vi x.num.c,vi x.num.d,vi x.exp],.agg #[vi y.num.a,vi y.num.b,vi y.num.c,vi y.num.d,vi y.exp],.func (.func 131) #[] #[]] w0 (fun v w=>v=.tuple #[dV ((dAddI x y).getD dZ),.bool ((dAddI x y).isSome)]∧Below w0.heap.size w0 w):=by
 refine enter Tryz.func130 rfl 64 rfl rfl ?_;intro a k
 have f:=bz w0
 refine Zs k fun _ aY=>?_;refine Zf (X0j (zs:=[vi x.num.a,vi x.num.b,vi x.num.c,vi x.num.d,vi x.exp]) rfl rfl) ?_;rintro _ w1 ⟨b2,rfl,aZ,g,q⟩;have bD:=Q0 f.size aZ;have f:=btr f g;refine Zf (X0j (zs:=[vi y.num.a,vi y.num.b,vi y.num.c,vi y.num.d,vi y.exp]) rfl rfl) ?_;rintro _ w2 ⟨b3,rfl,b0,g,m⟩
 have aU:b2≠b3:=by have:=q.lt;omega
 have bE:=Q0 f.size b0;have q:=q.below g;have f:=btr f g;refine Zf (X3 (zs:=[vi 0,vi 0,vi 0,vi 0,vi 0]) X0n rfl) ?_;rintro _ w3 ⟨b4,rfl,b1,g,e⟩
 have aW:b2≠b4:=by have:=q.lt;omega
 have aX:b3≠b4:=by have:=m.lt;omega
 have C:=Q0 f.size b1;have q:=q.below g;have m:=m.below g;have f:=btr f g;refine Za rfl<|ZX aY fun a k _ b5=>?_;refine Q5 fun _ b6=>?_;refine X02 (fun a w=>Fr a 64 [(2,.func (.func 131) #[] #[]),(3,.pointer (some ⟨b2,0,none⟩)),(4,.pointer (some ⟨b3,0,none⟩)),(6,.pointer (some ⟨b4,0,none⟩)),(22,.bool ((!(dOk x))||(!(dOk y))))]∧Below w3.heap.size w3 w) ?_ ?_
 ·have B:Below w3.heap.size w3 w3:=Below.refl _ _
  refine Zr k<|Ze (Vn X6 q)<|Zf (Vc (Xar _ x) X4i) ?_;rintro _ w4 ⟨rfl,g⟩;have m:=m.below g;have f:=btr f g;have B:=btr B g;refine Ze (X0o rfl)<|Zm rfl ?_
  refine Zg 18 rfl (fun p=>?_) (fun p=>?_)
  ·refine Zp (gP p) ?_;refine Zp (gP p) ?_;refine Zp (gP p) ?_;refine Ze (Xe rfl p rfl) ?_;refine Zn fun a k=>?_
   have aA:Below w3.heap.size w3 w4:=B
   exact ⟨k.sub ⟨rfl,rfl,rfl,rfl,X2 rfl (by first|rfl|(simp only [p,bs];done)|simp [p]),trivial⟩,aA⟩
  refine Zv (gW p) (Vn X6 m) ?_;refine Zk (gW p) (Vc (Xar _ y) X4i) ?_;rintro _ w5 ⟨rfl,g⟩;have f:=btr f g;have B:=btr B g;refine Zv (gW p) (X0o rfl) ?_;refine Ze (Xc rfl p rfl) ?_;refine Zn fun a k=>?_
  have aA:Below w3.heap.size w3 w5:=B
  exact ⟨k.sub ⟨rfl,rfl,rfl,rfl,X2 rfl (by first|rfl|(simp only [p,bs];done)|simp [p]),trivial⟩,aA⟩
 rintro a w6 ⟨k,g⟩;have q:=q.below g;have m:=m.below g;have e:=e.below g;have f:=btr f g;refine b6 _ _ ?_
 refine Xl k rfl (fun D=>?_) (fun D=>?_)
 ·have t:=D
  have hn:(dOk x&&dOk y)=false:=by revert D;cases dOk x<;>cases dOk y<;>simp
  refine Zs k fun _ b7=>?_;refine Ze (Xg (ps:=[]) (cs:=[vi 0,vi 0,vi 0,vi 0,vi 0]) rfl (fun _=>by first|rfl|kernel_rfl))<|Zo (Vw [vi 0,vi 0,vi 0,vi 0,vi 0] Xd e) ?_;rintro _ w7 ⟨h,E⟩;have o:=e;have f:=Below.only f h C;have e:=E;refine Za rfl<|Zt b7 fun a k=>?_;refine Q6<|Xf<|X4 k (X0r k rfl (ResV.cellN (l:=[vi 0,vi 0,vi 0,vi 0,vi 0]) rfl X6 (e.at 0) rfl) rfl) ?_;exact ⟨by rw [dAddI,hn];rfl,f⟩
 have t:=D
 have hy:(dOk x&&dOk y)=true:=by revert D;cases dOk x<;>cases dOk y<;>simp
 have hx:=X26 (Qd _ _▸hy:dOk x=true∧dOk y=true).1;have hz:=X26 (Qd _ _▸hy:dOk x=true∧dOk y=true).2;refine Q7<|b5 _ _<|Zs k fun _ aI=>?_;refine Ze (Vd rfl X12 4)<|Ze (X0 rfl X9 (q.at 4))<|Ze (Vd rfl X12 4)<|Ze (X0 rfl X9 (m.at 4))<|Ze (Xur rfl rfl)<|Za rfl<|Zx aI fun a k _ aJ=>?_;refine Ze (Vn X6 q)<|Zm rfl<|Zf (Vc (Xo1 _ x (max x.exp y.exp) (by omega) (by omega) (by omega)) Xcv) ?_;rintro _ w8 ⟨rfl,g⟩;have m:=m.below g;have e:=e.below g;have f:=btr f g;refine Zm rfl<|Ze (X1 (vs:=[.agg #[vi (((dRaise x (max x.exp y.exp)).1).a),vi (((dRaise x (max x.exp y.exp)).1).b),vi (((dRaise x (max x.exp y.exp)).1).c),vi (((dRaise x (max x.exp y.exp)).1).d)],.bool ((dRaise x (max x.exp y.exp)).2)]) rfl rfl)<|Ze (X1 (vs:=[.agg #[vi (((dRaise x (max x.exp y.exp)).1).a),vi (((dRaise x (max x.exp y.exp)).1).b),vi (((dRaise x (max x.exp y.exp)).1).c),vi (((dRaise x (max x.exp y.exp)).1).d)],.bool ((dRaise x (max x.exp y.exp)).2)]) rfl rfl)<|Zf (X3 (zs:=[vi 0,vi 0,vi 0,vi 0]) X1y rfl) ?_;rintro _ w9 ⟨aK,rfl,aL,g,i⟩;have aB:=Q0 f.size aL;have m:=m.below g;have e:=e.below g;have f:=btr f g;refine Zo (Vw [vi (((dRaise x (max x.exp y.exp)).1).a),vi (((dRaise x (max x.exp y.exp)).1).b),vi (((dRaise x (max x.exp y.exp)).1).c),vi (((dRaise x (max x.exp y.exp)).1).d)] X0w i) ?_;rintro _ bF ⟨h,E⟩;have o:=i;have m:=m.only h (Blk.ne m o rfl);have e:=e.only h (Blk.ne e o rfl);have f:=Below.only f h aB;have i:=E;refine Za rfl<|Zx aJ fun a k _ aM=>?_;refine Ze (Vn X6 m)<|Zm rfl<|Zf (Vc (Xo1 _ y (max x.exp y.exp) (by omega) (by omega) (by omega)) Xcv) ?_;rintro _ bG ⟨rfl,g⟩
 have e:=e.below g;have i:=i.below g;have f:=btr f g;refine Zm rfl<|Ze (X1 (vs:=[.agg #[vi (((dRaise y (max x.exp y.exp)).1).a),vi (((dRaise y (max x.exp y.exp)).1).b),vi (((dRaise y (max x.exp y.exp)).1).c),vi (((dRaise y (max x.exp y.exp)).1).d)],.bool ((dRaise y (max x.exp y.exp)).2)]) rfl rfl)<|Ze (X1 (vs:=[.agg #[vi (((dRaise y (max x.exp y.exp)).1).a),vi (((dRaise y (max x.exp y.exp)).1).b),vi (((dRaise y (max x.exp y.exp)).1).c),vi (((dRaise y (max x.exp y.exp)).1).d)],.bool ((dRaise y (max x.exp y.exp)).2)]) rfl rfl)<|Zf (X3 (zs:=[vi 0,vi 0,vi 0,vi 0]) X1y rfl) ?_;rintro _ bH ⟨b14,rfl,aN,g,u⟩
 have aF:aK≠b14:=by have:=i.lt;omega
 have aC:=Q0 f.size aN;have e:=e.below g;have i:=i.below g;have f:=btr f g;refine Zo (Vw [vi (((dRaise y (max x.exp y.exp)).1).a),vi (((dRaise y (max x.exp y.exp)).1).b),vi (((dRaise y (max x.exp y.exp)).1).c),vi (((dRaise y (max x.exp y.exp)).1).d)] X0w u) ?_;rintro _ bI ⟨h,E⟩;have o:=u;have e:=e.only h (Blk.ne e o rfl);have i:=i.only h (by omega);have f:=Below.only f h aC;have u:=E;refine Za rfl<|Zx aM fun a k _ aO=>?_;refine Zm rfl<|Ze (Vn Xv i)<|Ze (Vn Xv u)<|Zf (X64 (cs:=[]) (vs:=[.agg #[vi (((dRaise x (max x.exp y.exp)).1).a),vi (((dRaise x (max x.exp y.exp)).1).b),vi (((dRaise x (max x.exp y.exp)).1).c),vi (((dRaise x (max x.exp y.exp)).1).d)],.agg #[vi (((dRaise y (max x.exp y.exp)).1).a),vi (((dRaise y (max x.exp y.exp)).1).b),vi (((dRaise y (max x.exp y.exp)).1).c),vi (((dRaise y (max x.exp y.exp)).1).d)]]) rfl rfl Xvs (Y06 _ ((dRaise x (max x.exp y.exp)).1) ((dRaise y (max x.exp y.exp)).1))) ?_;rintro _ bJ ⟨rfl,g⟩;have e:=e.below g;have i:=i.below g;have u:=u.below g;have f:=btr f g;refine Zm rfl<|Ze (X1 (vs:=[.agg #[vi ((Za3 x y).a),vi ((Za3 x y).b),vi ((Za3 x y).c),vi ((Za3 x y).d)],.bool (rIf2 (rAdd ((dRaise x (max x.exp y.exp)).1) ((dRaise y (max x.exp y.exp)).1)) [((dRaise x (max x.exp y.exp)).1),((dRaise y (max x.exp y.exp)).1)])]) rfl rfl)<|Ze (X1 (vs:=[.agg #[vi ((Za3 x y).a),vi ((Za3 x y).b),vi ((Za3 x y).c),vi ((Za3 x y).d)],.bool (rIf2 (rAdd ((dRaise x (max x.exp y.exp)).1) ((dRaise y (max x.exp y.exp)).1)) [((dRaise x (max x.exp y.exp)).1),((dRaise y (max x.exp y.exp)).1)])]) rfl rfl)<|Zf (X3 (zs:=[vi 0,vi 0,vi 0,vi 0]) X1y rfl) ?_;rintro _ bK ⟨b16,rfl,aP,g,A⟩
 have aG:aK≠b16:=by have:=i.lt;omega
 have aH:b14≠b16:=by have:=u.lt;omega
 have aD:=Q0 f.size aP;have e:=e.below g;have f:=btr f g;refine Zo (Vw [vi ((Za3 x y).a),vi ((Za3 x y).b),vi ((Za3 x y).c),vi ((Za3 x y).d)] X0w A) ?_;rintro _ b8 ⟨h,E⟩;have o:=A;have e:=e.only h (Blk.ne e o rfl);have f:=Below.only f h aD;have A:=E;refine Za rfl<|ZX aO fun a k _ aQ=>?_;refine Q5 fun _ aR=>?_;refine X02 (fun a w=>Fr a 64 [(6,.pointer (some ⟨b4,0,none⟩)),(8,vi (max x.exp y.exp)),(13,.pointer (some ⟨b16,0,none⟩)),(57,.bool (((!((dRaise x (max x.exp y.exp)).2))||(!((dRaise y (max x.exp y.exp)).2)))||(!(rIf2 (rAdd ((dRaise x (max x.exp y.exp)).1) ((dRaise y (max x.exp y.exp)).1)) [((dRaise x (max x.exp y.exp)).1),((dRaise y (max x.exp y.exp)).1)]))))]∧b8=w) ?_ ?_
 ·refine Zr k<|Zm rfl<|Ze (X0o rfl)<|Zm rfl ?_
  refine Zg 50 rfl (fun j=>?_) (fun j=>?_)
  ·refine Zp (gP j) ?_;refine Zp (gP j) ?_;refine Ze (Xe rfl j rfl)<|Zm rfl<|Zp (gP rfl) ?_;refine Zp (gP rfl) ?_;refine Ze (Xe rfl rfl rfl) ?_;refine Zn fun a k=>?_;exact ⟨k.sub ⟨rfl,rfl,rfl,X2 rfl (by first|rfl|(simp only [t,j,bs];done)|simp [t,j]),trivial⟩,rfl⟩
  refine Zv (gW j) (X7 rfl) ?_;refine Zv (gW j) (X0o rfl) ?_;refine Ze (Xc rfl j rfl)<|Zm rfl ?_
  refine Zg 54 rfl (fun n=>?_) (fun n=>?_)
  ·refine Zp (gP n) ?_;refine Zp (gP n) ?_;refine Ze (Xe rfl n rfl) ?_;refine Zn fun a k=>?_;exact ⟨k.sub ⟨rfl,rfl,rfl,X2 rfl (by first|rfl|(simp only [t,j,n,bs];done)|simp [t,j,n]),trivial⟩,rfl⟩
  refine Zv (gW n) (X7 rfl) ?_;refine Zv (gW n) (X0o rfl) ?_;refine Ze (Xc rfl n rfl) ?_;refine Zn fun a k=>?_;exact ⟨k.sub ⟨rfl,rfl,rfl,X2 rfl (by first|rfl|(simp only [t,j,n,bs];done)|simp [t,j,n]),trivial⟩,rfl⟩
 rintro a _ ⟨k,rfl⟩;refine aR _ _ ?_
 refine Xl k rfl (fun z=>?_) (fun z=>?_)
 ·have aE:=z;have b9:=X88 z;refine Zs k fun _ aS=>?_;refine Ze (Xg (ps:=[]) (cs:=[vi 0,vi 0,vi 0,vi 0,vi 0]) rfl (fun _=>by first|rfl|kernel_rfl))<|Zo (Vw [vi 0,vi 0,vi 0,vi 0,vi 0] Xd e) ?_;rintro _ bL ⟨h,E⟩;have o:=e;have f:=Below.only f h C;have e:=E;refine Za rfl<|Zt aS fun a k=>?_;refine Q6<|Xf<|X4 k (X0r k rfl (ResV.cellN (l:=[vi 0,vi 0,vi 0,vi 0,vi 0]) rfl X6 (e.at 0) rfl) rfl) ?_;exact ⟨by rw [dAddI,Q4 hy,b9];rfl,f⟩
 have aE:=z;have bC:=Xad z;refine Q7<|aQ _ _<|Zs k fun _ aT=>?_;refine Ze (Vn Xv A)<|Zm rfl<|Zf (Vc (Xv6 _ (Za3 x y) (max x.exp y.exp)) Xf3) ?_;rintro _ bM ⟨rfl,g⟩;have e:=e.below g;have f:=btr f g;refine Ze (X1 (vs:=[.agg #[vi (((dOf (Za3 x y) (max x.exp y.exp)).getD dZ).num.a),vi (((dOf (Za3 x y) (max x.exp y.exp)).getD dZ).num.b),vi (((dOf (Za3 x y) (max x.exp y.exp)).getD dZ).num.c),vi (((dOf (Za3 x y) (max x.exp y.exp)).getD dZ).num.d),vi (((dOf (Za3 x y) (max x.exp y.exp)).getD dZ).exp)],.bool ((dOf (Za3 x y) (max x.exp y.exp)).isSome)]) rfl rfl)<|Ze (X1 (vs:=[.agg #[vi (((dOf (Za3 x y) (max x.exp y.exp)).getD dZ).num.a),vi (((dOf (Za3 x y) (max x.exp y.exp)).getD dZ).num.b),vi (((dOf (Za3 x y) (max x.exp y.exp)).getD dZ).num.c),vi (((dOf (Za3 x y) (max x.exp y.exp)).getD dZ).num.d),vi (((dOf (Za3 x y) (max x.exp y.exp)).getD dZ).exp)],.bool ((dOf (Za3 x y) (max x.exp y.exp)).isSome)]) rfl rfl)<|Zo (Vw [vi (((dOf (Za3 x y) (max x.exp y.exp)).getD dZ).num.a),vi (((dOf (Za3 x y) (max x.exp y.exp)).getD dZ).num.b),vi (((dOf (Za3 x y) (max x.exp y.exp)).getD dZ).num.c),vi (((dOf (Za3 x y) (max x.exp y.exp)).getD dZ).num.d),vi (((dOf (Za3 x y) (max x.exp y.exp)).getD dZ).exp)] Xd e) ?_;rintro _ bN ⟨h,E⟩
 have o:=e;have f:=Below.only f h C;have e:=E;refine Za rfl<|Zt aT fun a k=>?_
 refine Q6 (X4 k (X0r k rfl (ResV.cellN (l:=[vi (((dOf (Za3 x y) (max x.exp y.exp)).getD dZ).num.a),vi (((dOf (Za3 x y) (max x.exp y.exp)).getD dZ).num.b),vi (((dOf (Za3 x y) (max x.exp y.exp)).getD dZ).num.c),vi (((dOf (Za3 x y) (max x.exp y.exp)).getD dZ).num.d),vi (((dOf (Za3 x y) (max x.exp y.exp)).getD dZ).exp)]) rfl X6 (e.at 0) rfl) rfl) ?_)
 exact ⟨by rw [dAddI,Q4 hy,bC];rfl,f⟩
theorem Xqe(w0:World)(x:Dy)(y:Dy) : Ret Tryz.prog 96 [.agg #[vi x.num.a,vi x.num.b,vi x.num.c,vi x.num.d,vi x.exp],.agg #[vi y.num.a,vi y.num.b,vi y.num.c,vi y.num.d,vi y.exp]] w0 (fun v w=>v=.tuple #[dV ((dAddI x y).getD dZ),.bool ((dAddI x y).isSome)]∧Below w0.heap.size w0 w):=by
 refine enter Tryz.func96 rfl 11 rfl rfl ?_;intro a hf
 have f:=bz w0
 refine Zs hf fun _ aE=>?_;refine Zf (X0j (zs:=[vi x.num.a,vi x.num.b,vi x.num.c,vi x.num.d,vi x.exp]) rfl rfl) ?_;rintro _ w1 ⟨b2,rfl,aF,i,e⟩;have aJ:=Q0 f.size aF;have f:=btr f i;refine Zf (X0j (zs:=[vi y.num.a,vi y.num.b,vi y.num.c,vi y.num.d,vi y.exp]) rfl rfl) ?_;rintro _ w2 ⟨b3,rfl,aG,i,j⟩
 have aB:b2≠b3:=by have:=e.lt;omega
 have aK:=Q0 f.size aG;have e:=e.below i;have f:=btr f i;refine Zf (X3 (zs:=[vi 0,vi 0,vi 0,vi 0,vi 0]) X0n rfl) ?_;rintro _ w3 ⟨b4,rfl,aH,i,g⟩
 have aC:b2≠b4:=by have:=e.lt;omega
 have aD:b3≠b4:=by have:=j.lt;omega
 have aA:=Q0 f.size aH;have e:=e.below i;have j:=j.below i;have f:=btr f i;refine Za rfl<|Zx aE fun a hf _ aI=>?_;refine Ze (Vn X6 e)<|Ze (Vn X6 j)<|Zf (Vc (Y0a _ x y) Xl4) ?_;rintro _ w4 ⟨rfl,i⟩;have g:=g.below i;have f:=btr f i;refine Ze (X1 (vs:=[.agg #[vi (((dAddI x y).getD dZ).num.a),vi (((dAddI x y).getD dZ).num.b),vi (((dAddI x y).getD dZ).num.c),vi (((dAddI x y).getD dZ).num.d),vi (((dAddI x y).getD dZ).exp)],.bool ((dAddI x y).isSome)]) rfl rfl)<|Ze (X1 (vs:=[.agg #[vi (((dAddI x y).getD dZ).num.a),vi (((dAddI x y).getD dZ).num.b),vi (((dAddI x y).getD dZ).num.c),vi (((dAddI x y).getD dZ).num.d),vi (((dAddI x y).getD dZ).exp)],.bool ((dAddI x y).isSome)]) rfl rfl)<|Zo (Vw [vi (((dAddI x y).getD dZ).num.a),vi (((dAddI x y).getD dZ).num.b),vi (((dAddI x y).getD dZ).num.c),vi (((dAddI x y).getD dZ).num.d),vi (((dAddI x y).getD dZ).exp)] Xd g) ?_;rintro _ w5 ⟨ho,hb⟩;have aL:=g;have f:=Below.only f ho aA;have g:=hb;refine Za rfl<|Zt aI fun a hf=>?_
 refine Q6 (X4 hf (X0r hf rfl (ResV.cellN (l:=[vi (((dAddI x y).getD dZ).num.a),vi (((dAddI x y).getD dZ).num.b),vi (((dAddI x y).getD dZ).num.c),vi (((dAddI x y).getD dZ).num.d),vi (((dAddI x y).getD dZ).exp)]) rfl X6 (g.at 0) rfl) rfl) ?_)
 exact ⟨rfl,f⟩
theorem Xas(w0:World)(x:Dy)(y:Dy) : Ret Tryz.prog 47 [.agg #[vi x.num.a,vi x.num.b,vi x.num.c,vi x.num.d,vi x.exp],.agg #[vi y.num.a,vi y.num.b,vi y.num.c,vi y.num.d,vi y.exp]] w0 (fun v w=>v=.tuple #[dV ((dMulI x y).getD dZ),.bool ((dMulI x y).isSome)]∧Below w0.heap.size w0 w):=by
 refine enter Tryz.func47 rfl 38 rfl rfl ?_;intro a n
 have m:=bz w0
 refine Zs n fun _ aI=>?_;refine Zf (X0j (zs:=[vi x.num.a,vi x.num.b,vi x.num.c,vi x.num.d,vi x.exp]) rfl rfl) ?_;rintro _ w1 ⟨b2,rfl,aJ,j,f⟩;have aQ:=Q0 m.size aJ;have m:=btr m j;refine Zf (X0j (zs:=[vi y.num.a,vi y.num.b,vi y.num.c,vi y.num.d,vi y.exp]) rfl rfl) ?_;rintro _ w2 ⟨b3,rfl,aK,j,g⟩
 have aF:b2≠b3:=by have:=f.lt;omega
 have aR:=Q0 m.size aK;have f:=f.below j;have m:=btr m j;refine Zf (X3 (zs:=[vi 0,vi 0,vi 0,vi 0,vi 0]) X0n rfl) ?_;rintro _ w3 ⟨b4,rfl,aL,j,e⟩
 have aG:b2≠b4:=by have:=f.lt;omega
 have aH:b3≠b4:=by have:=g.lt;omega
 have z:=Q0 m.size aL;have f:=f.below j;have g:=g.below j;have m:=btr m j;refine Za rfl<|Zx aI fun a n _ aM=>?_;refine Ze (Vd rfl X1i 0)<|Ze (X09 (l:=[vi x.num.a,vi x.num.b,vi x.num.c,vi x.num.d]) rfl Xv ((f.at 0).take 4) rfl)<|Ze (Vd rfl X1i 0)<|Ze (X09 (l:=[vi y.num.a,vi y.num.b,vi y.num.c,vi y.num.d]) rfl Xv ((g.at 0).take 4) rfl)<|Zf (Vc (Y0l _ x.num y.num) Xt7) ?_;rintro _ w4 ⟨rfl,j⟩;have f:=f.below j;have g:=g.below j;have e:=e.below j;have m:=btr m j;refine Zm rfl<|Ze (X1 (vs:=[.agg #[vi ((rIf1 (rMul x.num y.num) [x.num,y.num]).a),vi ((rIf1 (rMul x.num y.num) [x.num,y.num]).b),vi ((rIf1 (rMul x.num y.num) [x.num,y.num]).c),vi ((rIf1 (rMul x.num y.num) [x.num,y.num]).d)],.bool (rIf2 (rMul x.num y.num) [x.num,y.num])]) rfl rfl)<|Ze (X1 (vs:=[.agg #[vi ((rIf1 (rMul x.num y.num) [x.num,y.num]).a),vi ((rIf1 (rMul x.num y.num) [x.num,y.num]).b),vi ((rIf1 (rMul x.num y.num) [x.num,y.num]).c),vi ((rIf1 (rMul x.num y.num) [x.num,y.num]).d)],.bool (rIf2 (rMul x.num y.num) [x.num,y.num])]) rfl rfl)<|Zf (X3 (zs:=[vi 0,vi 0,vi 0,vi 0]) X1y rfl) ?_;rintro _ w5 ⟨b6,rfl,aN,j,t⟩;have aB:=Q0 m.size aN;have f:=f.below j;have g:=g.below j;have e:=e.below j;have m:=btr m j;refine Zo (Vw [vi ((rIf1 (rMul x.num y.num) [x.num,y.num]).a),vi ((rIf1 (rMul x.num y.num) [x.num,y.num]).b),vi ((rIf1 (rMul x.num y.num) [x.num,y.num]).c),vi ((rIf1 (rMul x.num y.num) [x.num,y.num]).d)] X0w t) ?_;rintro _ w6 ⟨h,hb⟩;have o:=t;have f:=f.only h (Blk.ne f o rfl);have g:=g.only h (Blk.ne g o rfl);have e:=e.only h (Blk.ne e o rfl);have m:=Below.only m h aB;have t:=hb;refine Za rfl<|Zt aM fun a n=>?_
 refine Q5 fun _ aO=>?_;refine Q5 fun _ aP=>?_;refine X02 (fun a w=>Fr a 38 [(2,.pointer (some ⟨b2,0,none⟩)),(3,.pointer (some ⟨b3,0,none⟩)),(4,.pointer (some ⟨b4,0,none⟩)),(6,.pointer (some ⟨b6,0,none⟩)),(27,.bool (((!(dOk x))||(!(dOk y)))||(!(rIf2 (rMul x.num y.num) [x.num,y.num]))))]∧Below w6.heap.size w6 w) ?_ ?_
 ·have q:Below w6.heap.size w6 w6:=Below.refl _ _
  refine Zr n<|Ze (Vn X6 f)<|Zf (Vc (Xar _ x) X4i) ?_;rintro _ w7 ⟨rfl,j⟩;have g:=g.below j;have m:=btr m j;have q:=btr q j;refine Ze (X0o rfl)<|Zm rfl ?_
  refine Zg 19 rfl (fun k=>?_) (fun k=>?_)
  ·refine Zp (gP k) ?_;refine Zp (gP k) ?_;refine Zp (gP k) ?_;refine Ze (Xe rfl k rfl)<|Zm rfl<|Zp (gP rfl) ?_;refine Zp (gP rfl) ?_;refine Ze (Xe rfl rfl rfl) ?_;refine Zn fun a n=>?_
   have u:Below w6.heap.size w6 w7:=q
   exact ⟨n.sub ⟨rfl,rfl,rfl,rfl,X2 rfl (by first|rfl|(simp only [k,bs];done)|simp [k]),trivial⟩,u⟩
  refine Zv (gW k) (Vn X6 g) ?_;refine Zk (gW k) (Vc (Xar _ y) X4i) ?_;rintro _ w8 ⟨rfl,j⟩;have m:=btr m j;have q:=btr q j;refine Zv (gW k) (X0o rfl) ?_;refine Ze (Xc rfl k rfl)<|Zm rfl ?_
  refine Zg 24 rfl (fun i=>?_) (fun i=>?_)
  ·refine Zp (gP i) ?_;refine Zp (gP i) ?_;refine Ze (Xe rfl i rfl) ?_;refine Zn fun a n=>?_
   have u:Below w6.heap.size w6 w8:=q
   exact ⟨n.sub ⟨rfl,rfl,rfl,rfl,X2 rfl (by first|rfl|(simp only [k,i,bs];done)|simp [k,i]),trivial⟩,u⟩
  refine Zv (gW i) (X7 rfl) ?_;refine Zv (gW i) (X0o rfl) ?_;refine Ze (Xc rfl i rfl) ?_;refine Zn fun a n=>?_
  have u:Below w6.heap.size w6 w8:=q
  exact ⟨n.sub ⟨rfl,rfl,rfl,rfl,X2 rfl (by first|rfl|(simp only [k,i,bs];done)|simp [k,i]),trivial⟩,u⟩
 rintro a w9 ⟨n,j⟩;have f:=f.below j;have g:=g.below j;have e:=e.below j;have t:=t.below j;have m:=btr m j;refine aP _ _ ?_
 refine Xl n rfl (fun p=>?_) (fun p=>?_)
 ·have aA:=p;have hn:=X88 p;refine Zs n fun _ aC=>?_;refine Ze (Xg (ps:=[]) (cs:=[vi 0,vi 0,vi 0,vi 0,vi 0]) rfl (fun _=>by first|rfl|kernel_rfl))<|Zo (Vw [vi 0,vi 0,vi 0,vi 0,vi 0] Xd e) ?_;rintro _ aS ⟨h,hb⟩;have o:=e;have m:=Below.only m h z;have e:=hb;refine Za rfl<|Zt aC fun a n=>?_;refine Q6<|Xf<|X4 n (X0r n rfl (ResV.cellN (l:=[vi 0,vi 0,vi 0,vi 0,vi 0]) rfl X6 (e.at 0) rfl) rfl) ?_;exact ⟨by rw [dMulI,hn];rfl,m⟩
 have aA:=p;have hy:=Xad p;have aD:=Xy2 hy;have hx:=X26 aD.1;have hz:=X26 aD.2.1;refine Q7<|aO _ _<|Zs n fun _ aE=>?_;refine Ze (Vn Xv t)<|Ze (Vd rfl X12 4)<|Ze (X0 rfl X9 (f.at 4))<|Ze (Vd rfl X12 4)<|Ze (X0 rfl X9 (g.at 4))<|Ze (X03 rfl rfl (by omega) (by omega))<|Zf (Vc (Xv6 _ (rIf1 (rMul x.num y.num) [x.num,y.num]) (x.exp+y.exp)) Xf3) ?_;rintro _ aT ⟨rfl,j⟩;have e:=e.below j;have m:=btr m j;refine Ze (X1 (vs:=[.agg #[vi (((dOf (rIf1 (rMul x.num y.num) [x.num,y.num]) (x.exp+y.exp)).getD dZ).num.a),vi (((dOf (rIf1 (rMul x.num y.num) [x.num,y.num]) (x.exp+y.exp)).getD dZ).num.b),vi (((dOf (rIf1 (rMul x.num y.num) [x.num,y.num]) (x.exp+y.exp)).getD dZ).num.c),vi (((dOf (rIf1 (rMul x.num y.num) [x.num,y.num]) (x.exp+y.exp)).getD dZ).num.d),vi (((dOf (rIf1 (rMul x.num y.num) [x.num,y.num]) (x.exp+y.exp)).getD dZ).exp)],.bool ((dOf (rIf1 (rMul x.num y.num) [x.num,y.num]) (x.exp+y.exp)).isSome)]) rfl rfl)<|Ze (X1 (vs:=[.agg #[vi (((dOf (rIf1 (rMul x.num y.num) [x.num,y.num]) (x.exp+y.exp)).getD dZ).num.a),vi (((dOf (rIf1 (rMul x.num y.num) [x.num,y.num]) (x.exp+y.exp)).getD dZ).num.b),vi (((dOf (rIf1 (rMul x.num y.num) [x.num,y.num]) (x.exp+y.exp)).getD dZ).num.c),vi (((dOf (rIf1 (rMul x.num y.num) [x.num,y.num]) (x.exp+y.exp)).getD dZ).num.d),vi (((dOf (rIf1 (rMul x.num y.num) [x.num,y.num]) (x.exp+y.exp)).getD dZ).exp)],.bool ((dOf (rIf1 (rMul x.num y.num) [x.num,y.num]) (x.exp+y.exp)).isSome)]) rfl rfl)<|Zo (Vw [vi (((dOf (rIf1 (rMul x.num y.num) [x.num,y.num]) (x.exp+y.exp)).getD dZ).num.a),vi (((dOf (rIf1 (rMul x.num y.num) [x.num,y.num]) (x.exp+y.exp)).getD dZ).num.b),vi (((dOf (rIf1 (rMul x.num y.num) [x.num,y.num]) (x.exp+y.exp)).getD dZ).num.c),vi (((dOf (rIf1 (rMul x.num y.num) [x.num,y.num]) (x.exp+y.exp)).getD dZ).num.d),vi (((dOf (rIf1 (rMul x.num y.num) [x.num,y.num]) (x.exp+y.exp)).getD dZ).exp)] Xd e) ?_;rintro _ aU ⟨h,hb⟩
 have o:=e;have m:=Below.only m h z;have e:=hb;refine Za rfl<|Zt aE fun a n=>?_
 refine Q6 (X4 n (X0r n rfl (ResV.cellN (l:=[vi (((dOf (rIf1 (rMul x.num y.num) [x.num,y.num]) (x.exp+y.exp)).getD dZ).num.a),vi (((dOf (rIf1 (rMul x.num y.num) [x.num,y.num]) (x.exp+y.exp)).getD dZ).num.b),vi (((dOf (rIf1 (rMul x.num y.num) [x.num,y.num]) (x.exp+y.exp)).getD dZ).num.c),vi (((dOf (rIf1 (rMul x.num y.num) [x.num,y.num]) (x.exp+y.exp)).getD dZ).num.d),vi (((dOf (rIf1 (rMul x.num y.num) [x.num,y.num]) (x.exp+y.exp)).getD dZ).exp)]) rfl X6 (e.at 0) rfl) rfl) ?_)
 exact ⟨by rw [dMulI,Q4 hy],m⟩
theorem Xok(w0:World)(n:Int) : Ret Tryz.prog 79 [vi n] w0 (fun v w=>v=.bool (isDimB n)∧w0=w):=by
 refine enter Tryz.func79 rfl 12 rfl rfl ?_;intro a c
 have hW:=bz w0
 refine Zs c fun _ aA=>?_;refine Za rfl<|ZX aA fun a c _ aB=>?_;refine X02 (fun a w=>Fr a 12 [(2,.bool ((inR n 1 32)&&((bits .and .i64 n (wr (n-1)))==0)))]∧w0=w) ?_ ?_
 ·refine Zr c<|Zm rfl<|Zf (Vc (F91 _ n 1 32) X36) ?_;rintro _ _ ⟨rfl,rfl⟩;refine Zm rfl ?_
  refine Zg 5 rfl (fun b=>?_) (fun b=>?_)
  ·refine Zv (gW b) (X7 rfl) ?_;refine Zv (gW b) (X7 rfl) ?_;refine Zv (gW b) (X3t rfl rfl) ?_;refine Zv (gW b) (Xsh rfl rfl) ?_;refine Zv (gW b) (X1b rfl rfl) ?_;refine Ze (Xe rfl b rfl)<|Za rfl ?_;refine Zn fun a c=>?_;exact ⟨c.sub ⟨X2 rfl (by first|rfl|(simp only [b,bs];done)|simp [b]),trivial⟩,rfl⟩
  refine Zp (gP b) ?_;refine Zp (gP b) ?_;refine Zp (gP b) ?_;refine Zp (gP b) ?_;refine Zp (gP b) ?_;refine Ze (Xc rfl b rfl)<|Za rfl ?_;refine Zn fun a c=>?_;exact ⟨c.sub ⟨X2 rfl (by first|rfl|(simp only [b,bs];done)|simp [b]),trivial⟩,rfl⟩
 rintro a _ ⟨c,rfl⟩;refine aB _ _ ?_
 refine Q6 (X4 c (Xx c rfl rfl) ?_)
 exact ⟨by simp [isDimB, *],rfl⟩
theorem Xzk(w0:World)(x:Dy) : Ret Tryz.prog 81 [.agg #[vi x.num.a,vi x.num.b,vi x.num.c,vi x.num.d,vi x.exp]] w0 (fun v w=>v=.bool (!dOk x)∧Below w0.heap.size w0 w):=by
 refine enter Tryz.func81 rfl 6 rfl rfl ?_;intro a hf
 have hW:=bz w0
 refine Zs hf fun _ aA=>?_;refine Zf (X0j (zs:=[vi x.num.a,vi x.num.b,vi x.num.c,vi x.num.d,vi x.exp]) rfl rfl) ?_;rintro _ w1 ⟨b2,rfl,aB,hE,aC⟩;have aE:=Q0 hW.size aB;have hW:=btr hW hE;refine Za rfl<|Zx aA fun a hf _ aD=>?_;refine Ze (Vn X6 aC)<|Zf (Vc (Xar _ x) X4i) ?_;rintro _ w2 ⟨rfl,hE⟩;have hW:=btr hW hE;refine Ze (X0o rfl)<|Za rfl<|Zt aD fun a hf=>?_
 refine Q6 (X4 hf (Xx hf rfl rfl) ?_)
 exact ⟨rfl,hW⟩
theorem Y0m(m:World)(Al:Option Addr)(cl:Nat)(l:List Dy)(aE:Rd m m.heap.size 53 encD Al l)(kq:FuncId)(pq:List Value)(Fq:FuncF Tryz.prog kq)(q:Dy→Bool)(hq:∀ x w,Below m.heap.size m w→Ret Tryz.prog kq ([dV x]++pq) w (fun v w'=>v=.bool (q x)∧Below w.heap.size w w'))(aR:l.length≤2305843009213693951) : Ret Tryz.prog 119 [.slice Al l.length cl,.func (.func kq) #[] pq.toArray] m (fun v w=>∃ i:Int,v=vi i∧decide (0≤i)=l.any q∧Below m.heap.size m w):=by
 refine enter Tryz.func119 rfl 19 rfl rfl ?_;intro a e
 have n:=bz m
 refine Zs e fun _ aK=>?_;refine Za rfl<|ZX aK fun a e _ aL=>?_;refine Zs e fun _ aM=>?_;refine Zm rfl<|Ze (X2k rfl X01)<|Zm rfl<|Zt aM fun a e=>?_;refine Q8<|X07 (σ:=Nat) (fun (k:Nat) (a:Act) (w:World)=>Fr a 19 [(0,.slice Al l.length cl),(1,.func (.func kq) #[] pq.toArray),(7,vi (l.length:Int)),(8,vi (k:Int))]∧(k≤l.length)∧((l.take k).all (fun x=>!q x)=true)∧Below m.heap.size m w) (fun (k:Nat)=>l.length+1-k) 0 ?_ ?_
 ·exact ⟨e.sb,(Qf _),(by simp),n⟩
 rintro k a w1 ⟨e,hk,o,n⟩;refine Zs e fun _ aN=>?_;refine Ze (X1h rfl rfl)<|ZX aN fun a e _ aO=>?_
 refine Xl e rfl (fun g=>?_) (fun g=>?_)
 ·have aF:=g;have g:=Q2 g
  obtain ⟨j,aA⟩:=Xw (l:=l) (k:=k) (by omega)
  refine Q7<|aO _ _<|Q5 fun _ aP=>?_;refine Q8<|Zs e fun _ aG=>?_;refine Zm rfl<|Za rfl<|Zx aG fun a e _ aH=>?_;refine Zm rfl<|Zm rfl<|Zm rfl<|Zi (k:=k) (u:=j) (enc:=encD) (l:=l) trivial rfl rfl X01 Xd X06 (aE.below' n) aA rfl ?_;intro aS aB;refine Ze (X09 (l:=[vi j.num.a,vi j.num.b,vi j.num.c,vi j.num.d,vi j.exp]) rfl X6 aB rfl)<|Zf (X64 (cs:=pq) (vs:=[.agg #[vi j.num.a,vi j.num.b,vi j.num.c,vi j.num.d,vi j.exp]]) rfl rfl Fq (hq j _ n)) ?_;rintro _ w2 ⟨rfl,hE⟩;have n:=btr n hE;refine Zt aH fun a e=>?_
  refine Xl e rfl (fun f=>?_) (fun f=>?_)
  ·have aC:=f
   have aD:l.any q=true:=Xab aA f
   refine Zs e fun _ aI=>?_;refine Zm rfl<|Za rfl<|Zt aI fun a e=>?_;refine Q6<|X05<|Xf<|Xf ?_;refine X05<|Xf<|X4 e (Xx e rfl rfl) ?_;exact ⟨_,rfl,by rw [aD];simp,n⟩
  have aC:=f
  have aQ:(!q j)=true:=by revert f;cases q j<;>simp
  refine Q7<|Xn<|aP _ _<|Zr e ?_;refine Ze (X03 rfl rfl (by omega) (by omega))<|Zm rfl ?_;refine Zn fun a e=>?_;refine Xo ?_;exact ⟨k+1,⟨e.sb,(by omega),(X66 o aA aQ),n⟩,(by omega)⟩
 have aF:=g;have g:=Q1 g;refine Q9<|Xm<|Xm<|X08 ?_;refine aL _ _<|Zs e fun _ aJ=>?_;refine Za rfl<|Zt aJ fun a e=>?_
 refine Q6 (X4 e (Xx e rfl rfl) ?_)
 have aD:l.any q=false:=X8e (X4m o (by omega))
 exact ⟨_,rfl,by rw [aD];rfl,n⟩
theorem Xy4(b:World)(Al:Option Addr)(cl:Nat)(l:List Dy)(aA:Rd b b.heap.size 53 encD Al l)(kq:FuncId)(pq:List Value)(Fq:FuncF Tryz.prog kq)(q:Dy→Bool)(hq:∀ x w,Below b.heap.size b w→Ret Tryz.prog kq ([dV x]++pq) w (fun v w'=>v=.bool (q x)∧Below w.heap.size w w'))(aB:l.length≤2305843009213693951) : Ret Tryz.prog 80 [.slice Al l.length cl,.func (.func kq) #[] pq.toArray] b (fun v w=>v=.bool (l.any q)∧Below b.heap.size b w):=by
 refine enter Tryz.func80 rfl 9 rfl rfl ?_;intro a hf
 have hW:=bz b
 refine Zs hf fun _ aC=>?_;refine Za rfl<|Zx aC fun a hf _ aD=>?_;refine Zm rfl<|Zm rfl<|Zf (Vc (Y0m _ Al cl l (aA.below' hW).top kq pq Fq q (fun x w' hE'=>hq x w' (hW.trans (hE'.mono hW.size))) aB) Xup) ?_;rintro _ w1 ⟨ix,rfl,aE,hE⟩;have hW:=btr hW hE;refine Ze (Xdd rfl rfl)<|Za rfl<|Zt aD fun a hf=>?_
 refine Q6 (X4 hf (Xx hf rfl rfl) ?_)
 exact ⟨by rw [← aE],hW⟩
theorem Xct(w0:World)(m:Mx)(Am:Option Addr)(cm:Nat)(aA:Rd w0 w0.heap.size 53 encD Am m.cells)(aB:m.cells.length≤2305843009213693951) : Ret Tryz.prog 43 [.agg #[vi m.rows,vi m.cols,.slice Am m.cells.length cm]] w0 (fun v w=>v=.bool (mOk m)∧Below w0.heap.size w0 w):=by
 refine enter Tryz.func43 rfl 28 rfl rfl ?_;intro a f
 have j:=bz w0
 refine Zs f fun _ aC=>?_;refine Zf (X0j (zs:=[vi m.rows,vi m.cols,.slice Am m.cells.length cm]) rfl rfl) ?_;rintro _ w1 ⟨b3,rfl,aD,hE,g⟩;have aF:=Q0 j.size aD;have j:=btr j hE;refine Za rfl<|ZX aC fun a f _ aE=>?_;refine X02 (fun a w=>Fr a 28 [(2,.bool ((((isDimB m.rows)&&(isDimB m.cols))&&((m.cells.length:Int)==(wr (m.rows*m.cols))))&&(!(m.cells.any (fun x=>!dOk x)))))]∧Below w1.heap.size w1 w) ?_ ?_
 ·have i:Below w1.heap.size w1 w1:=Below.refl _ _
  refine Zr f<|Ze (Vd rfl X1c 0)<|Ze (X0 rfl X9 (g.at 0))<|Zf (Vc (Xok _ m.rows) Xcw) ?_;rintro _ _ ⟨rfl,rfl⟩;refine Zm rfl ?_
  refine Zg 6 rfl (fun c=>?_) (fun c=>?_)
  ·refine Zv (gW c) (Vd rfl X14 1) ?_;refine Zv (gW c) (X0 rfl X9 (g.at 1)) ?_;refine Zk (gW c) (Vc (Xok _ m.cols) Xcw) ?_;rintro _ _ ⟨rfl,rfl⟩;refine Ze (Xe rfl c rfl)<|Zm rfl ?_
   refine Zg 11 rfl (fun b=>?_) (fun b=>?_)
   ·refine Zv (gW b) (Vd rfl X11 2) ?_;refine Zv (gW b) (X0 rfl X0p (g.at 2)) ?_;refine Zv (gW b) (X2k rfl X01) ?_;refine Zv (gW b) (Vd rfl X1c 0) ?_;refine Zv (gW b) (X0 rfl X9 (g.at 0)) ?_;refine Zv (gW b) (Vd rfl X14 1) ?_;refine Zv (gW b) (X0 rfl X9 (g.at 1)) ?_;refine Zv (gW b) (X2v rfl rfl) ?_;refine Zv (gW b) (X1b rfl rfl) ?_;refine Ze (Xe rfl b rfl)<|Zm rfl ?_
    refine Zg 22 rfl (fun d=>?_) (fun d=>?_)
    ·refine Zv (gW d) (Vd rfl X11 2) ?_;refine Zv (gW d) (X0 rfl X0p (g.at 2)) ?_;refine Zk (gW d) (Vc (Xy4 _ Am cm m.cells (aA.below' j).top 81 [] Xvu (fun x=>!dOk x) (fun x w' hE'=>Xzk w' x) aB) Xju) ?_;rintro _ w2 ⟨rfl,hE⟩;have j:=btr j hE;have i:=btr i hE;refine Zv (gW d) (X0o rfl) ?_;refine Ze (Xe rfl d rfl)<|Za rfl ?_;refine Zn fun a f=>?_
     have e:Below w1.heap.size w1 w2:=i
     exact ⟨f.sub ⟨X2 rfl (by first|rfl|(simp only [c,b,d,bs];done)|simp [c,b,d]),trivial⟩,e⟩
    refine Zp (gP d) ?_;refine Zp (gP d) ?_;refine Zp (gP d) ?_;refine Zp (gP d) ?_;refine Ze (Xc rfl d rfl)<|Za rfl ?_;refine Zn fun a f=>?_
    have e:Below w1.heap.size w1 w1:=i
    exact ⟨f.sub ⟨X2 rfl (by first|rfl|(simp only [c,b,d,bs];done)|simp [c,b,d]),trivial⟩,e⟩
   refine Zp (gP b) ?_;refine Zp (gP b) ?_;refine Zp (gP b) ?_;refine Zp (gP b) ?_;refine Zp (gP b) ?_;refine Zp (gP b) ?_;refine Zp (gP b) ?_;refine Zp (gP b) ?_;refine Zp (gP b) ?_;refine Ze (Xc rfl b rfl)<|Zm rfl<|Zp (gP rfl) ?_;refine Zp (gP rfl) ?_;refine Zp (gP rfl) ?_;refine Zp (gP rfl) ?_;refine Ze (Xc rfl rfl rfl)<|Za rfl ?_;refine Zn fun a f=>?_
   have e:Below w1.heap.size w1 w1:=i
   exact ⟨f.sub ⟨X2 rfl (by first|rfl|(simp only [c,b,bs];done)|simp [c,b]),trivial⟩,e⟩
  refine Zp (gP c) ?_;refine Zp (gP c) ?_;refine Zp (gP c) ?_;refine Ze (Xc rfl c rfl)<|Zm rfl<|Zp (gP rfl) ?_;refine Zp (gP rfl) ?_;refine Zp (gP rfl) ?_;refine Zp (gP rfl) ?_;refine Zp (gP rfl) ?_;refine Zp (gP rfl) ?_;refine Zp (gP rfl) ?_;refine Zp (gP rfl) ?_;refine Zp (gP rfl) ?_;refine Ze (Xc rfl rfl rfl)<|Zm rfl<|Zp (gP rfl) ?_;refine Zp (gP rfl) ?_;refine Zp (gP rfl) ?_;refine Zp (gP rfl) ?_;refine Ze (Xc rfl rfl rfl)<|Za rfl ?_;refine Zn fun a f=>?_
  have e:Below w1.heap.size w1 w1:=i
  exact ⟨f.sub ⟨X2 rfl (by first|rfl|(simp only [c,bs];done)|simp [c]),trivial⟩,e⟩
 rintro a w3 ⟨f,hE⟩;have j:=btr j hE;refine aE _ _ ?_
 refine Q6 (X4 f (Xx f rfl rfl) ?_)
 exact ⟨by simp [mOk, *],j⟩
theorem Xfe(f:World)(m:Mx)(Am:Option Addr)(cm:Nat)(hm:Rd f f.heap.size 53 encD Am m.cells)(i j:Nat)(aG:mOk m=true)(hi:(i:Int)<m.rows)(hj:(j:Int)<m.cols) : Ret Tryz.prog 48 [.agg #[vi m.rows,vi m.cols,.slice Am m.cells.length cm],vi (i:Int),vi (j:Int)] f (fun v w=>v=dV (m.at i j)∧Below f.heap.size f w):=by
 have aA:=X2q aG
 have aH:i*m.cols.toNat+j<m.cells.length:=by rw [aA.2.2];exact X3u (by omega) (by omega)
 have aO:m.cells.length≤1024:=by rw [aA.2.2];exact Q0 (Nat.mul_le_mul (show m.rows.toNat≤32 by omega) (show m.cols.toNat≤32 by omega)) (by decide)
 have aB:=Mx.at_get aH
 have aI:m.cols=(m.cols.toNat:Int):=by omega
 suffices hgoal:Ret Tryz.prog 48 [.agg #[vi m.rows,vi (m.cols.toNat:Int),.slice Am m.cells.length cm],vi (i:Int),vi (j:Int)] f (fun v w=>v=dV (m.at i j)∧Below f.heap.size f w) by rw [← aI] at hgoal;exact hgoal
 refine enter Tryz.func48 rfl 17 rfl rfl ?_;intro a hf
 have e:=bz f
 refine Zs hf fun _ aJ=>?_;refine Zf (X0j (zs:=[vi m.rows,vi (m.cols.toNat:Int),.slice Am m.cells.length cm]) rfl rfl) ?_;rintro _ w1 ⟨b3,rfl,aK,hE,g⟩;have aM:=Q0 e.size aK;have e:=btr e hE;refine Zf (X3 (zs:=[vi 0,vi 0,vi 0,vi 0,vi 0]) X0n rfl) ?_;rintro _ w2 ⟨b4,rfl,aC,hE,n⟩;have aD:=Q0 e.size aC;have aF:=(hm.below' e).away aC;have g:=g.below hE;have e:=btr e hE;refine Zx aJ fun a hf _ aL=>?_;refine Ze (Vd rfl X11 2)<|Ze (X0 rfl X0p (g.at 2))<|Zm rfl<|Ze (Vd rfl X14 1)<|Ze (X0 rfl X9 (g.at 1))<|Ze (Xbx (m:=i) (k:=m.cols.toNat) rfl rfl (by omega))<|Zm rfl<|Ze (X03 rfl rfl (by omega) (by omega))<|Zi (k:=(i*m.cols.toNat+j)) (u:=(m.at i j)) (enc:=encD) (l:=m.cells) trivial rfl rfl X01 Xd X06 (hm.below' e) aB (by omega) ?_;intro p7 aE;refine Ze (X09 (l:=[vi ((m.at i j).num.a),vi ((m.at i j).num.b),vi ((m.at i j).num.c),vi ((m.at i j).num.d),vi ((m.at i j).exp)]) rfl X6 aE rfl)<|Zo (Vw [vi ((m.at i j).num.a),vi ((m.at i j).num.b),vi ((m.at i j).num.c),vi ((m.at i j).num.d),vi ((m.at i j).exp)] Xd n) ?_;rintro _ w3 ⟨ho,hb⟩;have aN:=n;have e:=Below.only e ho aD;have n:=hb;refine Zt aL fun a hf=>?_
 refine Q6 (X4 hf (Xx hf rfl (ResV.cellN (l:=[vi ((m.at i j).num.a),vi ((m.at i j).num.b),vi ((m.at i j).num.c),vi ((m.at i j).num.d),vi ((m.at i j).exp)]) rfl X6 (n.at 0) rfl)) ?_)
 exact ⟨rfl,e⟩
theorem Xj9(E:World)(R C:Int)(k:FuncId)(caps:List Value)(hF:FuncF Tryz.prog k)(f:Nat→Nat→Option Dy)(aG:∀ (i j:Nat) w,(i:Int)<R→(j:Int)<C→Below E.heap.size E w→Ret Tryz.prog k ([vi (i:Int),vi (j:Int)]++caps) w (fun v w'=>v=.tuple #[dV ((f i j).getD dZ),.bool (f i j).isSome]∧Below w.heap.size w w')) : Ret Tryz.prog 45 [vi R,vi C,.func (.func k) #[] caps.toArray] E (fun v w=>∃ A c,v=.tuple #[mV A c ((matOf R C f).getD mZ),.bool (matOf R C f).isSome]∧Own w E.heap.size 53 5 encD A c ((matOf R C f).getD mZ).cells∧Below E.heap.size E w):=by
 refine enter Tryz.func45 rfl 52 rfl rfl ?_;intro a g
 have p:=bz E
 refine Zs g fun _ bH=>?_;refine Zf (X3 (zs:=[vi 0,vi 0,.slice none 0 0]) X0y rfl) ?_;rintro _ w1 ⟨b3,rfl,bI,y,e⟩;have M:=Q0 p.size bI;have p:=btr p y;refine Za rfl<|Zx bH fun a g _ bJ=>?_;refine Zm rfl<|Zm rfl<|Ze (Xg (ps:=[(0,vi R),(1,vi C)]) (cs:=[vi R,vi C,.slice none 0 0]) rfl (fun _=>by first|rfl|kernel_rfl))<|Zf (X3 (zs:=[vi 0,vi 0,.slice none 0 0]) X0y rfl) ?_;rintro _ w2 ⟨b7,rfl,bK,y,m⟩
 have bG:b3≠b7:=by have:=e.lt;omega
 have aD:=Q0 p.size bK;have e:=e.below y;have p:=btr p y;refine Zo (Vw [vi R,vi C,.slice none 0 0] X0b m) ?_;rintro _ w3 ⟨h,N⟩;have q:=m;have e:=e.only h (by omega);have p:=Below.only p h aD;have m:=N;refine ZX bJ fun a g _ bL=>?_;refine Q5 fun _ bM=>?_;refine X02 (fun a w=>Fr a 52 [(0,vi R),(1,vi C),(2,.func (.func k) #[] caps.toArray),(6,.pointer (some ⟨b3,0,none⟩)),(8,.pointer (some ⟨b7,0,none⟩)),(23,.bool ((!(isDimB R))||(!(isDimB C))))]∧w3=w) ?_ ?_
 ·refine Zr g<|Zm rfl<|Zf (Vc (Xok _ R) Xcw) ?_;rintro _ _ ⟨rfl,rfl⟩;refine Ze (X0o rfl)<|Zm rfl ?_
  refine Zg 19 rfl (fun n=>?_) (fun n=>?_)
  ·refine Zp (gP n) ?_;refine Zp (gP n) ?_;refine Zp (gP n) ?_;refine Ze (Xe rfl n rfl) ?_;refine Zn fun a g=>?_;exact ⟨g.sub ⟨rfl,rfl,rfl,rfl,rfl,X2 rfl (by first|rfl|(simp only [n,bs];done)|simp [n]),trivial⟩,rfl⟩
  refine Zv (gW n) (X7 rfl) ?_;refine Zk (gW n) (Vc (Xok _ C) Xcw) ?_;rintro _ _ ⟨rfl,rfl⟩;refine Zv (gW n) (X0o rfl) ?_;refine Ze (Xc rfl n rfl) ?_;refine Zn fun a g=>?_;exact ⟨g.sub ⟨rfl,rfl,rfl,rfl,rfl,X2 rfl (by first|rfl|(simp only [n,bs];done)|simp [n]),trivial⟩,rfl⟩
 rintro a _ ⟨g,rfl⟩;refine bM _ _ ?_
 refine Xl g rfl (fun B=>?_) (fun B=>?_)
 ·have aH:=B;have hn:=X4w B;refine Zs g fun _ aT=>?_;refine Ze (Xg (ps:=[]) (cs:=[vi 0,vi 0,.slice none 0 0]) rfl (fun _=>by first|rfl|kernel_rfl))<|Zo (Vw [vi 0,vi 0,.slice none 0 0] X0b e) ?_;rintro _ w4 ⟨h,N⟩;have q:=e;have p:=Below.only p h M;have e:=N;refine Za rfl<|Zt aT fun a g=>?_;refine Q6<|Xf<|X4 g (X0r g rfl (ResV.cellN (l:=[vi 0,vi 0,.slice none 0 0]) rfl Xr (e.at 0) rfl) rfl) ?_
  have he:matOf R C f=none:=by rw [matOf,hn];rfl
  rw [he]
  exact ⟨none,0,rfl,(Own.nil _ _ _ _ _),p⟩
 have aH:=B;have hy:=X5p B;have aU:=(Qd _ _▸hy:isDimB R=true∧isDimB C=true);have hR:=X24 aU.1;have hC:=X24 aU.2;refine Q7<|bL _ _<|Q5 fun _ aW=>?_;refine Zs g fun _ aX=>?_;refine Zm rfl<|Zm rfl<|Zt aX fun a g=>?_;refine Q8<|X07 (σ:=Nat×(List Dy)) (fun (s:Nat×(List Dy)) (a:Act) (w:World)=>match s with|(i,l)=>∃ G H,Fr a 52 [(1,vi C),(2,.func (.func k) #[] caps.toArray),(6,.pointer (some ⟨b3,0,none⟩)),(8,.pointer (some ⟨b7,0,none⟩)),(25,vi R),(26,vi (i:Int))]∧((i:Int)≤R)∧(seqO (gridG f C.toNat) (i*C.toNat)=some l)∧Blk w b3 29 [vi 0,vi 0,.slice none 0 0]∧Blk w b7 29 [vi R,vi C,.slice G l.length H]∧Own w E.heap.size 53 5 encD G H l∧Below E.heap.size E w) (fun (s:Nat×(List Dy))=>match s with|(i,l)=>(R-i).toNat) (0,[]) ?_ ?_
 ·exact ⟨none,0,g.sb,(by omega),(by rw [Nat.zero_mul];rfl),e,m,(Own.nil _ _ _ _ _),p⟩
 rintro ⟨i,l⟩ a w5 ⟨G,H,g,bQ,hl,e,m,I,p⟩;refine Zs g fun _ aY=>?_;refine Ze (X1h rfl rfl)<|ZX aY fun a g _ aZ=>?_
 refine Xl g rfl (fun t=>?_) (fun t=>?_)
 ·have aI:=t;have t:=Q2 t
  have aJ:(i:Int)<R:=t
  have bR:i*C.toNat≤1024:=Q0 (Nat.mul_le_mul (show i≤32 by omega) (show C.toNat≤32 by omega)) (by decide)
  refine Q7<|aZ _ _<|Q5 fun _ b0=>?_;refine Q8<|Zs g fun _ b1=>?_;refine Zm rfl<|Za rfl<|Zx b1 fun a g _ b2=>?_;refine Zm rfl<|Zm rfl<|Zt b2 fun a g=>?_;refine Q8<|X07 (σ:=Nat×(List Dy)) (fun (s:Nat×(List Dy)) (a:Act) (w:World)=>match s with|(j,l2)=>∃ W aA,Fr a 52 [(1,vi C),(2,.func (.func k) #[] caps.toArray),(6,.pointer (some ⟨b3,0,none⟩)),(8,.pointer (some ⟨b7,0,none⟩)),(9,vi (i:Int)),(25,vi R),(26,vi (i:Int)),(29,vi C),(30,vi (j:Int))]∧((j:Int)≤C)∧(seqO (gridG f C.toNat) (i*C.toNat+j)=some l2)∧Blk w b3 29 [vi 0,vi 0,.slice none 0 0]∧Blk w b7 29 [vi R,vi C,.slice W l2.length aA]∧Own w E.heap.size 53 5 encD W aA l2∧Below E.heap.size E w) (fun (s:Nat×(List Dy))=>match s with|(j,l2)=>(C-j).toNat) (0,l) ?_ ?_
  ·exact ⟨G,H,g.sb,(by omega),hl,e,m,I,p⟩
  rintro ⟨j,l2⟩ a w6 ⟨W,aA,g,bS,aB,e,m,o,p⟩;refine Zs g fun _ b4=>?_;refine Ze (X1h rfl rfl)<|ZX b4 fun a g _ b5=>?_
  refine Xl g rfl (fun u=>?_) (fun u=>?_)
  ·have aK:=u;have u:=Q2 u
   have aC:(j:Int)<C:=u
   have bP:=X35 aB;refine Q7<|b5 _ _<|Q5 fun _ b6=>?_;refine Q8<|Zs g fun _ b8=>?_;refine Zm rfl<|Za rfl<|Zx b8 fun a g _ b9=>?_;refine Zm rfl<|Zm rfl<|Zm rfl<|Zf (X64 (cs:=caps) (vs:=[vi (i:Int),vi (j:Int)]) rfl rfl hF (aG i j _ aJ aC p)) ?_;rintro _ w7 ⟨rfl,y⟩;have e:=e.below y;have m:=m.below y;have o:=o.below y;have p:=btr p y;refine Zm rfl<|Ze (X1 (vs:=[.agg #[vi (((f i j).getD dZ).num.a),vi (((f i j).getD dZ).num.b),vi (((f i j).getD dZ).num.c),vi (((f i j).getD dZ).num.d),vi (((f i j).getD dZ).exp)],.bool ((f i j).isSome)]) rfl rfl)<|Ze (X1 (vs:=[.agg #[vi (((f i j).getD dZ).num.a),vi (((f i j).getD dZ).num.b),vi (((f i j).getD dZ).num.c),vi (((f i j).getD dZ).num.d),vi (((f i j).getD dZ).exp)],.bool ((f i j).isSome)]) rfl rfl)<|Zf (X3 (zs:=[vi 0,vi 0,vi 0,vi 0,vi 0]) X0n rfl) ?_;rintro _ w8 ⟨bN,rfl,aE,y,x⟩;have aL:=Q0 p.size aE;have z:=o.away aE;have e:=e.below y;have m:=m.below y;have o:=o.below y;have p:=btr p y;refine Zo (Vw [vi (((f i j).getD dZ).num.a),vi (((f i j).getD dZ).num.b),vi (((f i j).getD dZ).num.c),vi (((f i j).getD dZ).num.d),vi (((f i j).getD dZ).exp)] Xd x) ?_;rintro _ w9 ⟨h,N⟩;have q:=x;have e:=e.only h (Blk.ne e q rfl);have m:=m.only h (Blk.ne m q rfl);have o:=o.onlyA h z;have p:=Below.only p h aL;have x:=N;refine Za rfl<|ZX b9 fun a g _ bC=>?_;refine Zs g fun _ bD=>?_;refine Zm rfl<|Ze (X0o rfl)<|Zt bD fun a g=>?_
   refine Xl g rfl (fun D=>?_) (fun D=>?_)
   ·have aM:=D
    have hn:gridG f C.toNat (i*C.toNat+j)=none:=by rw [X3a (by omega)];revert D;cases f i j<;>simp
    refine Zs g fun _ bE=>?_;refine Ze (Xg (ps:=[]) (cs:=[vi 0,vi 0,.slice none 0 0]) rfl (fun _=>by first|rfl|kernel_rfl))<|Zo (Vw [vi 0,vi 0,.slice none 0 0] X0b e) ?_;rintro _ bU ⟨h,N⟩;have q:=e;have p:=Below.only p h M;have e:=N;refine Za rfl<|Zt bE fun a g=>?_;refine Q6<|Xf<|X05<|Xf ?_;refine Xf<|X05<|X05<|Xf ?_;refine Xf<|X05<|Xf<|X4 g (X0r g rfl (ResV.cellN (l:=[vi 0,vi 0,.slice none 0 0]) rfl Xr (e.at 0) rfl) rfl) ?_
    have he:matOf R C f=none:=by rw [matOf,Q4 hy,X4z hn _ (X3u (by omega) (by omega))];rfl
    rw [he]
    exact ⟨none,0,rfl,(Own.nil _ _ _ _ _),p⟩
   have aM:=D
   have hx:gridG f C.toNat (i*C.toNat+j)=some ((f i j).getD dZ):=by rw [X3a (by omega)];revert D;cases f i j<;>simp
   refine Q7<|bC _ _<|Zr g<|Ze (Vd rfl X11 2)<|Ze (X0 rfl X0p (m.at 2))<|Ze (Vn X6 x)<|Zf (Xb (k:=1) (vs:=[.agg #[vi (((f i j).getD dZ).num.a),vi (((f i j).getD dZ).num.b),vi (((f i j).getD dZ).num.c),vi (((f i j).getD dZ).num.d),vi (((f i j).getD dZ).exp)]]) (zs:=[vi (((f i j).getD dZ).num.a),vi (((f i j).getD dZ).num.b),vi (((f i j).getD dZ).num.c),vi (((f i j).getD dZ).num.d),vi (((f i j).getD dZ).exp)]) rfl X01 X13 rfl rfl) ?_;rintro _ bW ⟨b36,rfl,aF,y,Q⟩
   have aQ:bN≠b36:=by have:=x.lt;omega
   have bO:=Q0 p.size aF;have L:=o.away aF;have e:=e.below y;have m:=m.below y;have x:=x.below y;have o:=o.below y;have p:=btr p y;refine Zf (X0q (enc:=encD) (l:=(l2)) (l2:=([((f i j).getD dZ)])) (B0:=E.heap.size) rfl rfl X01 X13 X06 X2h o (Rd.of_blk Q rfl _ Q.lt) (by simp only [maxLen];simp;omega) (by simp;omega) p.size) ?_;rintro _ bZ ⟨aN,aO,rfl,U,hg,aP⟩
   have J:Own _ E.heap.size 53 5 encD _ _ (l2):=o
   have aR:=aP _ x.lt z;have aS:=aP _ Q.lt L;clear aP;have e:=e.appT J hg rfl;have m:=m.appT J hg rfl;have p:=Below.app p J hg (Qb _) p.size;clear J hg;refine Ze (Vd rfl X11 2)<|Zo (Vu (vs:=[.slice aN (l2++([((f i j).getD dZ)])).length aO]) (l':=[vi R,vi C,.slice aN (l2++([((f i j).getD dZ)])).length aO]) rfl rfl X4a m) ?_;rintro _ cA ⟨h,N⟩;have q:=m;have e:=e.only h (by omega);have U:=U.onlyT h q rfl;have p:=Below.only p h aD;have m:=N;refine Zn fun a g=>?_;refine Xn<|b6 _ _<|Zr g<|Ze (X03 rfl rfl (by omega) (by omega))<|Zm rfl ?_;refine Zn fun a g=>?_;refine Xo ?_;exact ⟨(j+1,l2++[((f i j).getD dZ)]),⟨aN,aO,g.sb,(by omega),(X4n aB hx),e,m,U,p⟩,(by first|omega|(dsimp only;omega))⟩
  have aK:=u;have u:=Q1 u
  have aC:j=C.toNat:=by omega
  refine Q9<|Xm<|Xm<|X08 ?_;refine Xn<|b0 _ _<|Zr g<|Ze (X03 rfl rfl (by omega) (by omega))<|Zm rfl ?_;refine Zn fun a g=>?_;refine Xo ?_;exact ⟨(i+1,l2),⟨W,aA,g.sb,(by omega),(by rw [Wb,Nat.one_mul,← aC];rw [← aC] at aB;exact aB),e,m,o,p⟩,(by first|omega|(dsimp only;omega))⟩
 have aI:=t;have t:=Q1 t
 have aJ:i=R.toNat:=by omega
 refine Q9<|Xm<|Xm<|X08 ?_;refine aW _ _<|Zs g fun _ bF=>?_;refine Ze (Vn Xr m)<|Zo (Vw [vi R,vi C,.slice G l.length H] X0b e) ?_;rintro _ cB ⟨h,N⟩;have q:=e;have I:=I.onlyT h q rfl;have p:=Below.only p h M;have e:=N;refine Za rfl<|Zt bF fun a g=>?_
 refine Q6 (X4 g (X0r g rfl (ResV.cellN (l:=[vi R,vi C,.slice G l.length H]) rfl Xr (e.at 0) rfl) rfl) ?_)
 have he:matOf R C f=some ⟨R,C,l⟩:=by rw [matOf,Q4 hy,← aJ,hl];rfl
 rw [he]
 exact ⟨G,H,rfl,I,p⟩
end Go.Proofs.YtckoekhjglafjaaGreatDoor
