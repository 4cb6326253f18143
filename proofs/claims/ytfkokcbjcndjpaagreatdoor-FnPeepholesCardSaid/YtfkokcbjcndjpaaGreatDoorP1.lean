/-
  For every drawn circuit, the certificate of the peephole pass is accepted, gates and T gates do not become more, and nothing is left to replace. Conditions: none beside the variables' values, which the card ties to the program's text.
-/
import Derived.WalkKit
import Derived.Maps.AppendAt
import Derived.Test.YtfkokcbjcndjpaaGreatDoorProg
import Derived.Laws.StructEq
set_option linter.unusedVariables false
set_option linter.unusedSimpArgs false
set_option maxRecDepth 8000
set_option linter.unusedSectionVars false
namespace Go.Proofs.YtfkokcbjcndjpaaGreatDoor
open Go.RowKit
theorem O{α:Sort _}{a:α}:a=a:=rfl
theorem Z{p:Prop}(h:p:=by omega):p:=h
theorem O0{p:Prop}(h:p:=by decide +kernel):p:=h
theorem O1{p:Prop}(h:p:=by first|omega|(dsimp only;omega)):p:=h
theorem O2{p:Prop}(h:p:=by kernel_rfl):p:=h
theorem O3{p:Prop}(h:p:=by simp;omega):p:=h
theorem O4{p:Prop}(h:p:=by decide):p:=h
theorem O5{p:Prop}(h:p:=by simp):p:=h
theorem O6{p:Prop}(h:p:=by assumption):p:=h
theorem O7{p:Prop}(h:p:=by dsimp only;omega):p:=h
theorem O8{p:Prop}(h:p:=by first|omega|(simp;omega)):p:=h
theorem O9{p:Prop}(h:p:=by rw [Nat.zero_mul];rfl):p:=h
abbrev Q0:=@Nat.le_trans
abbrev Q1:=@of_decide_eq_false
abbrev Q2:=@of_decide_eq_true
abbrev Q3:=@if_neg
abbrev Q4:=@if_pos
abbrev Q5:=@wp_seq_k
abbrev Q6:=@wp_ret
abbrev Q7:=@wp_skip
abbrev Q8:=@wp_block
abbrev Q9:=@wp_exit
abbrev Qa:=@List.getD_eq_getElem?_getD
abbrev Qb:=@Nat.le_refl
abbrev Qc:=@List.getElem?_eq_getElem
abbrev Qd:=@Bool.and_eq_true
abbrev Qe:=@List.mem_of_getElem?
abbrev Qf:=@Nat.zero_le
abbrev Qg:=@List.getElem?_eq_some_iff
abbrev Qh:=@List.length_append
abbrev Qi:=@List.take_of_length_le
abbrev Qj:=@Int.toNat_natCast
abbrev Qk:=@List.mem_cons_self
abbrev Ql:=@List.mem_cons_of_mem
abbrev Qm:=@List.mem_singleton
abbrev Qn:=@List.length_take
abbrev Qo:=@List.length_map
abbrev Qp:=@Array.getElem?_eq_some_iff
abbrev Qq:=@Option.getD_some
abbrev Qr:=@decide_eq_true_eq
abbrev Qs:=@List.length_cons
abbrev Qt:=@List.take_add_one
abbrev Qu:=@List.mem_append
abbrev Qv:=@List.mem_cons
abbrev Qw:=@Bool.true_and
abbrev Qx:=@List.append_assoc
abbrev Qy:=@List.drop_eq_getElem_cons
abbrev Qz:=@Option.bind_some
abbrev W0:=@List.pairwise_iff_getElem
abbrev W1:=@List.all_eq_true
abbrev W2:=@List.mem_range
abbrev W3:=@List.drop_of_length_le
abbrev W4:=@Nat.lt_or_ge
abbrev W5:=@List.getElem?_append_right
abbrev W6:=@List.mem_map
abbrev W7:=@List.any_eq_false
abbrev W8:=@List.pairwise_cons
abbrev W9:=@List.take_append_drop
abbrev Wa:=@List.cons_append
abbrev Wb:=@Nat.add_mul
abbrev Wc:=@List.flatMap_cons
abbrev Wd:=@List.mem_of_mem_take
abbrev We:=@Array.getElem?_eq_none
abbrev Wf:=@List.take_succ_eq_append_getElem
abbrev Wg:=@List.getElem?_take_of_lt
abbrev Wh:=@Array.getElem?_setIfInBounds_ne
abbrev Wi:=@Nat.mul_comm
abbrev vi(x:Int) : Value:=.int .i64 x
abbrev pZ9(b:Nat):Value:=.pointer (some ⟨b,0,none⟩)
theorem tv0:True:=trivial
def look(t:Nat) : List (Nat×Value)->Option Value
 | []=>none
 | (k,v)::l=>match Nat.beq k t with
  | true=>some v
  | false=>look t l
structure Fr (a:Act) (n:Nat) (e:List (Nat×Value)) : Prop where
 d:a.defers=[]
 s:a.tmps.size=n
 h:∀ t v,look t e=some v->a.tmps[t]? = some v
def ev(e:List (Nat×Value)) : Operand->Option Value
 | .tmp t=>look t e
 | .const v=>some v
 | .global g=>some (.pointer (some ⟨g,0,none⟩))
 | .func f=>some (.func (.func f) #[] #[])
theorem Fr.ev{a:Act}{n:Nat}{e:List (Nat×Value)}{x:Operand}{v:Value}(hf:Fr a n e)(hx:ev e x=some v) : a.eval x=v:=by
 cases x with
 | tmp t=>
  have:=hf.h t v hx
  simp [Act.eval,this]
 | const u=>simpa [YtfkokcbjcndjpaaGreatDoor.ev,Act.eval] using hx
 | global g=>simpa [YtfkokcbjcndjpaaGreatDoor.ev,Act.eval] using hx
 | func f=>simpa [YtfkokcbjcndjpaaGreatDoor.ev,Act.eval] using hx
def evs(e:List (Nat×Value)) : List Operand->Option (List Value)
 | []=>some []
 | x::l=>match ev e x,evs e l with
  | some v,some vs=>some (v::vs)
  | _,_=>none
theorem Fr.evs{a:Act}{n:Nat}{e:List (Nat×Value)}(hf:Fr a n e) : ∀ {l:List Operand} {vs:List Value},evs e l=some vs->l.map a.eval=vs:=by
 intro l
 induction l with
 | nil=>intro vs h;simpa [YtfkokcbjcndjpaaGreatDoor.evs] using h
 | cons x l ih=>
  intro vs h
  simp only [YtfkokcbjcndjpaaGreatDoor.evs] at h
  split at h
  ·rename_i v us h1 h2
   injection h with h
   subst h
   simp [hf.ev h1,ih h2]
  ·cases h
theorem X3s(d:Nat)(v:Value)(e:List (Nat×Value)) : look d ((d,v)::e)=some v:=by simp [look]
theorem X4v{d t:Nat}(v:Value)(e:List (Nat×Value))(h:d≠t) : look t ((d,v)::e)=look t e:=by
 have:Nat.beq d t=false:=by
  cases hb:Nat.beq d t
  ·rfl
  ·exact absurd (Nat.eq_of_beq_eq_true hb) h
 simp [look,this]
theorem Fr.put{a:Act}{n:Nat}{e:List (Nat×Value)}(hf:Fr a n e)(d:Nat)(v:Value)(hd:Nat.blt d n=true) : Fr (a.put (some d) v) n ((d,v)::e):=by
 have hd':d<n:=by simpa [Nat.blt_eq] using hd
 refine ⟨hf.d,by simp [Act.put,hf.s],fun t u hu=>?_⟩
 by_cases h:d=t
 ·subst h
  rw [X3s] at hu
  injection hu with hu
  subst hu
  simp [Act.put,hf.s,hd']
 ·rw [X4v _ _ h] at hu
  simp [Act.put,Wh h,hf.h t u hu]
theorem Fr.put_none{a:Act}{n:Nat}{e:List (Nat×Value)}(hf:Fr a n e)(v:Value) : Fr (a.put none v) n e:=hf
def Sub(e:List (Nat×Value)) : List (Nat×Value)->Prop
 | []=>True
 | (t,v)::l=>look t e=some v/\Sub e l
theorem Fr.sub{a:Act}{n:Nat}{e e':List (Nat×Value)}(hf:Fr a n e)(hs:Sub e e') : Fr a n e':=by
 refine ⟨hf.d,hf.s,?_⟩
 induction e' with
 | nil=>intro t v h;cases h
 | cons p l ih=>
  obtain ⟨k,u⟩:=p;intro t v h
  by_cases hk:k=t
  ·subst hk
   rw [X3s] at h
   injection h with h
   subst h
   exact hf.h _ _ hs.1
  ·rw [X4v _ _ hk] at h
   exact ih hs.2 t v h
theorem Fr.sb{a:Act}{n:Nat}{e e':List (Nat×Value)}(hf:Fr a n e)(hs:Sub e e':=by repeat (first|exact trivial|refine ⟨rfl,?_⟩)) : Fr a n e':=hf.sub hs
def zipFrom:Nat->List Value->List (Nat×Value)
 | _,[]=>[]
 | k,v::l=>(k,v)::zipFrom (k+1) l
theorem Xec{l:List Value}{t:Nat}{v:Value} : ∀ {k:Nat},look t (zipFrom k l)=some v->k<=t/\l[t-k]? = some v:=by
 induction l with
 | nil=>intro k h;cases h
 | cons u l ih=>
  intro k h
  simp only [zipFrom] at h
  by_cases hk:k=t
  ·subst hk
   rw [X3s] at h
   exact ⟨Qb _,by simpa using h⟩
  ·rw [X4v _ _ hk] at h
   obtain ⟨h1,h2⟩:=ih h
   refine ⟨by omega,?_⟩
   have:t-k=(t-(k+1))+1:=by omega
   rw [this,List.getElem?_cons_succ]
   exact h2
theorem Xn4{P:Program}{f:FuncId}{fn:Func}{c:Code}{args:List Value}{w:World}{R:Ending->World->Prop}
  (hf:P.funcs[f]? = some fn) (hb:fn.body=some c) (n:Nat) (hn:fn.ntmps=n) (hl:Nat.ble args.length n=true)
  (h:∀ a,Fr a n (zipFrom 0 args)->c.wp P (bodyPost P fn R) a w) : Calls P f args.toArray w R:=by
 refine calls_of_wp hf hb (h _ ⟨O,?_,?_⟩)
 ·have:args.length<=n:=by simpa [Nat.ble_eq] using hl
  simp [hn];omega
 ·intro t v hv;obtain ⟨_,h2⟩:=Xec hv
  have hlt:t<args.length:=by
   have:=(Qg.1 h2).1
   simpa using this
  simp only [Nat.sub_zero] at h2
  rw [Array.getElem?_append_left (by simpa using hlt)]
  simpa using h2
def Ev(P:Program)(o:Oper)(a:Act)(w:World)(v:Value) : Prop:=∀ w',Below w.heap.size w w'->(execOp a.eval o).run P w'=.ok (.value v) w'
def EfU(P:Program)(R:Value->World->Prop) : Result Next->Prop
 | .ok (.value v) w'=>R v w'
 | .ok .skip w'=>R undef w'
 | .ok (.enter f args) w'=>Calls P f args w' fun e w''=>∃ v,e=.returned v/\R v w''
 | .ok (.row row args) w'=>Rows P row args w' R
 | _=>False
def Ef(P:Program)(o:Oper)(a:Act)(w:World)(R:Value->World->Prop) : Prop:=EfU P R ((execOp a.eval o).run P w)
theorem Ef.wp{P:Program}{o:Oper}{a:Act}{w:World}{R:Value->World->Prop}(h:Ef P o a w R){K:Act->World->Prop}{Q:Exit->Act->World->Prop}
  (hK:∀ v w',R v w'->K (a.put o.dst v) w') : o.wp P a w K Q:=by
 unfold Ef at h
 unfold Oper.wp
 generalize (execOp a.eval o).run P w=r at *
 cases r with
 | ok nx w'=>
  cases nx<;>simp only [EfU] at h<;>simp only [Oper.upon]
  case value u=>exact hK _ _ h
  case skip=>exact hK _ _ h
  case enter f args=>
   refine Calls.mono h fun e w'' ⟨v,he,hR⟩=>?_
   subst he
   exact hK _ _ hR
  case row row args=>exact Rows.mono h fun u w'' hR=>hK _ _ hR
 | halt x w'=>simp only [EfU] at h
def EvW(P:Program)(o:Oper)(n:Nat)(e:List (Nat×Value))(w:World)(v:Value) : Prop:=∀ a,Fr a n e->Ev P o a w v
def EfW(P:Program)(o:Oper)(n:Nat)(e:List (Nat×Value))(w:World)(R:Value->World->Prop) : Prop:=∀ a,Fr a n e->Ef P o a w R
theorem Ef.of_run{P:Program}{o:Oper}{a:Act}{w w':World}{v:Value}(h:(execOp a.eval o).run P w=.ok (.value v) w') : Ef P o a w fun u w1=>u=v/\w1=w':=by
 unfold Ef
 rw [h]
 exact ⟨O,O⟩
theorem Ef.of_skip{P:Program}{o:Oper}{a:Act}{w w':World}(h:(execOp a.eval o).run P w=.ok .skip w') : Ef P o a w fun u w1=>u=undef/\w1=w':=by
 unfold Ef
 rw [h]
 exact ⟨O,O⟩
theorem Ef.mono{P:Program}{o:Oper}{a:Act}{w:World}{R R':Value->World->Prop}(h:Ef P o a w R)(hr:∀ v w',R v w'->R' v w') : Ef P o a w R':=by
 unfold Ef at *
 generalize (execOp a.eval o).run P w=r at *
 cases r with
 | ok nx w'=>
  cases nx<;>simp only [EfU] at h ⊢
  case value u=>exact hr _ _ h
  case skip=>exact hr _ _ h
  case enter f args=>exact Calls.mono h fun e w'' ⟨v,he,hR⟩=>⟨v,he,hr _ _ hR⟩
  case row row args=>exact Rows.mono h hr
 | halt x w'=>simp only [EfU] at h
theorem Ef.of_ev{P:Program}{o:Oper}{a:Act}{w:World}{v:Value}(h:Ev P o a w v) : Ef P o a w fun u w1=>u=v/\w1=w:=Ef.of_run (h w (Below.refl _ _))
def Want(ops:Array Oper)(o:Oper)(e:List (Nat×Value)) : Prop:=
 match o.guard with
 | none=>True
 | some (j,b)=>∃ t b',(ops[j]?).bind (·.dst)=some t/\look t e=some (.bool b')/\b'=b
def notB:Value->Bool->Prop
 | .bool b',b=>b' = !b
 | _,_=>True
def Pass(ops:Array Oper)(o:Oper)(e:List (Nat×Value)) : Prop:=
 match o.guard with
 | none=>False
 | some (j,b)=>∃ t v,(ops[j]?).bind (·.dst)=some t/\look t e=some v/\notB v b
theorem bz(w:World) : Below w.heap.size w w:=Below.refl _ _
def WantC(ops:Array Oper)(o:Oper)(e:List (Nat×Value)) : Prop:=
 match o.guard with
 | none=>True
 | some (j,b)=>match (ops[j]?).bind (·.dst) with
  | some t=>match look t e with
   | some (.bool b')=>b'=b
   | _=>False
  | none=>False
def PassC(ops:Array Oper)(o:Oper)(e:List (Nat×Value)) : Prop:=
 match o.guard with
 | none=>False
 | some (j,b)=>match (ops[j]?).bind (·.dst) with
  | some t=>match look t e with
   | some v=>notB v b
   | none=>False
  | none=>False
theorem gW{ops:Array Oper}{o:Oper}{e:List (Nat×Value)}(h:WantC ops o e) : Want ops o e:=by grind [Want,WantC]
theorem gP{ops:Array Oper}{o:Oper}{e:List (Nat×Value)}(h:PassC ops o e) : Pass ops o e:=by
 unfold PassC at h
 unfold Pass
 split
 ·rename_i hg
  rw [hg] at h
  exact h
 ·rename_i j b hg
  rw [hg] at h
  simp only at h
  split at h
  ·rename_i t ht
   split at h
   ·rename_i v hv
    exact ⟨t,v,ht,hv,h⟩
   ·cases h
  ·cases h
theorem Want.wanted{ops:Array Oper}{o:Oper}{a:Act}{n:Nat}{e:List (Nat×Value)}(h:Want ops o e)(hf:Fr a n e) : Region.wanted o (yielded ops a.tmps)=true:=by
 unfold Want at h
 unfold Region.wanted
 split at h
 ·rename_i hg;simp [hg]
 ·rename_i j b hg
  obtain ⟨t,b',h1,h2,h3⟩:=h
  simp only [hg]
  unfold yielded
  simp [h1,hf.h _ _ h2,h3]
theorem Pass.wanted{ops:Array Oper}{o:Oper}{a:Act}{n:Nat}{e:List (Nat×Value)}(h:Pass ops o e)(hf:Fr a n e) : Region.wanted o (yielded ops a.tmps)=false:=by
 unfold Pass at h
 unfold Region.wanted
 split at h
 ·cases h
 ·rename_i j b hg
  obtain ⟨t,v,h1,h2,h3⟩:=h
  simp only [hg]
  unfold yielded
  rw [h1,Qz,hf.h _ _ h2]
  cases v<;>first|rfl|(simp only [notB] at h3;subst h3;cases b<;>rfl)
section
variable {P : Program} {ops : Array Oper} {Q : Exit -> Act -> World -> Prop} {a : Act} {w : World} {rest : List Oper} {o : Oper} {n d : Nat} {e : List (Nat × Value)}
theorem Xp6{R:Value->World->Prop}(hf:Fr a n e)(hw:Want ops o e)(hd:o.dst=some d)(hn:Nat.blt d n=true)(hr:Ef P o a w R)
  (h:∀ a' v w',R v w'->Fr a' n ((d,v)::e)->wpList P ops Q rest a' w') : wpList P ops Q (o::rest) a w:=
 wpList_step fun K hK=>by
  rw [Q4 (hw.wanted hf)]
  exact hr.wp fun v w' hR=>hK _ _ (h _ v w' hR (by rw [hd];exact hf.put d v hn))
theorem Xyc{R:Value->World->Prop}(hf:Fr a n e)(hw:Want ops o e)(hd:o.dst=none)(hr:Ef P o a w R)
  (h:∀ a' v w',R v w'->Fr a' n e->wpList P ops Q rest a' w') : wpList P ops Q (o::rest) a w:=
 wpList_step fun K hK=>by
  rw [Q4 (hw.wanted hf)]
  exact hr.wp fun v w' hR=>hK _ _ (h _ v w' hR (by rw [hd];exact hf.put_none v))
theorem Xyd{v:Value}(hf:Fr a n e)(hw:Want ops o e)(hd:o.dst=some d)(hn:Nat.blt d n=true)(hr:Ev P o a w v)
  (h:∀ a',Fr a' n ((d,v)::e)->wpList P ops Q rest a' w) : wpList P ops Q (o::rest) a w:=
 Xp6 hf hw hd hn (Ef.of_ev hr) fun a' v' w' hR hf'=>by
  obtain ⟨rfl,rfl⟩:=hR;exact h a' hf'
theorem Xye(hf:Fr a n e)(hw:Pass ops o e)(hd:o.dst=some d)(hn:Nat.blt d n=true)
  (h:∀ a',Fr a' n ((d,undef)::e)->wpList P ops Q rest a' w) : wpList P ops Q (o::rest) a w:=
 wpList_step fun K hK=>by
  rw [Q3 (by rw [hw.wanted hf];simp)]
  exact hK _ _ (h _ (by rw [hd];exact hf.put d undef hn))
end
section
variable {P : Program} {ops : Array Oper} {Q : Exit -> Act -> World -> Prop} {a : Act} {w : World} {rest : List Oper} {op : Op} {ty : TypeId} {pos : String} {af : Array Edge} {n d : Nat} {e : List (Nat × Value)}
theorem l_e{v:Value}(hf:Fr a n e)(hn:Nat.blt d n=true)(hr:Ev P ⟨some d,op,ty,pos,af,none⟩ a w v)(h:∀ a',Fr a' n ((d,v)::e)->wpList P ops Q rest a' w) : wpList P ops Q (⟨some d,op,ty,pos,af,none⟩::rest) a w:=Xyd hf trivial rfl hn hr h
theorem l_f{R:Value->World->Prop}(hf:Fr a n e)(hn:Nat.blt d n=true)(hr:Ef P ⟨some d,op,ty,pos,af,none⟩ a w R)(h:∀ a' v w',R v w'->Fr a' n ((d,v)::e)->wpList P ops Q rest a' w') : wpList P ops Q (⟨some d,op,ty,pos,af,none⟩::rest) a w:=Xp6 hf trivial rfl hn hr h
theorem Y33{R:Value->World->Prop}(hf:Fr a n e)(hr:Ef P ⟨none,op,ty,pos,af,none⟩ a w R)(h:∀ a' v w',R v w'->Fr a' n e->wpList P ops Q rest a' w') : wpList P ops Q (⟨none,op,ty,pos,af,none⟩::rest) a w:=Xyc hf trivial rfl hr h
theorem Y34{x:Operand}{v:Value}(hf:Fr a n e)(hx:ev e x=some v)(hn:Nat.blt d n=true)(h:∀ a',Fr a' n ((d,v)::e)->wpList P ops Q rest a' w) : wpList P ops Q (⟨some d,.move x,ty,pos,af,none⟩::rest) a w:=l_e hf hn (fun w' _=>by simp [execOp,hf.ev hx]) h
theorem Y32{x:Operand}{v:Value}(hf:Fr a n e)(hx:ev e x=some v)(hn:Nat.blt d n=true)(h:∀ a',Fr a' n ((d,v)::e)->wpList P ops Q rest a' w) : wpList P ops Q (⟨some d,.assign x,ty,pos,af,none⟩::rest) a w:=l_e hf hn (fun w' _=>by simp [execOp,hf.ev hx]) h
end
structure Only (b:Nat) (w w':World) : Prop where
 os:w'.os=w.os
 tape:w'.tape=w.tape
 output:w'.output=w.output
 size:w'.heap.size=w.heap.size
 block:∀ k,k≠b->w'.heap[k]? = w.heap[k]?
theorem Only.refl(b:Nat)(w:World) : Only b w w:=⟨rfl,rfl,rfl,rfl,fun _ _=>rfl⟩
theorem Only.trans{b:Nat}{w w' w'':World}(h:Only b w w')(k:Only b w' w'') : Only b w w'':=
 ⟨k.os.trans h.os,k.tape.trans h.tape,k.output.trans h.output,k.size.trans h.size,fun i hi=>(k.block i hi).trans (h.block i hi)⟩
structure Kept (b B:Nat) (w w':World) : Prop where
 os:w'.os=w.os
 tape:w'.tape=w.tape
 output:w'.output=w.output
 size:w.heap.size<=w'.heap.size
 block:∀ k,k<B->k≠b->w'.heap[k]? = w.heap[k]?
theorem Kept.refl(b B:Nat)(w:World) : Kept b B w w:=⟨rfl,rfl,rfl,Qb _,fun _ _ _=>rfl⟩
theorem Kept.of_below{b B:Nat}{w w':World}(h:Below B w w') : Kept b B w w':=⟨h.os,h.tape,h.output,h.size,fun k hk _=>h.block k hk⟩
theorem Kept.trans{b B:Nat}{w w' w'':World}(h:Kept b B w w')(k:Below B w' w'') : Kept b B w w'':=
 ⟨k.os.trans h.os,k.tape.trans h.tape,k.output.trans h.output,Q0 h.size k.size,fun i hi hn=>(k.block i hi).trans (h.block i hi hn)⟩
theorem Kept.transK{b B:Nat}{w w' w'':World}(h:Kept b B w w')(k:Kept b B w' w'') : Kept b B w w'':=
 ⟨k.os.trans h.os,k.tape.trans h.tape,k.output.trans h.output,Q0 h.size k.size,fun i hi hn=>(k.block i hi hn).trans (h.block i hi hn)⟩
theorem Kept.mono{b B B':Nat}{w w':World}(h:Kept b B w w')(hB:B'<=B) : Kept b B' w w':=⟨h.os,h.tape,h.output,h.size,fun k hk=>h.block k (Nat.lt_of_lt_of_le hk hB)⟩
theorem Kept.oy{b b' B:Nat}{w w' w'':World}(h:Kept b B w w')(ho:Only b' w' w'')(hB:B<=b') : Kept b B w w'':=
 h.trans ⟨ho.os,ho.tape,ho.output,by rw [ho.size];exact Qb _,fun k hk=>ho.block k Z⟩
theorem Kept.self{b B:Nat}{w w' w'':World}(h:Kept b B w w')(ho:Only b w' w'') : Kept b B w w'':=
 h.transK ⟨ho.os,ho.tape,ho.output,by rw [ho.size];exact Qb _,fun k _ hk=>ho.block k hk⟩
theorem Kept.mid{b:Nat}{w w':World}(h:Kept b w.heap.size w w') : ∃ w1,Only b w w1/\(b<w.heap.size->w1.heap[b]? = w'.heap[b]?)/\Below w1.heap.size w1 w':=by
 cases hb:w'.heap[b]? with
 | none=>
  have hlt:w.heap.size<=b:=Q0 h.size (Array.getElem?_eq_none_iff.1 hb)
  refine ⟨w,Only.refl _ _,fun h'=>by omega,⟨h.os,h.tape,h.output,h.size,fun k hk=>h.block k hk Z⟩⟩
 | some o=>
  refine ⟨{ w with heap:=w.heap.setIfInBounds b o },⟨O,O,O,by simp,fun k hk=>?_⟩,fun h'=>?_,⟨h.os,h.tape,h.output,by simpa using h.size,fun k hk=>?_⟩⟩
  ·show (w.heap.setIfInBounds b o)[k]? = _
   rw [Wh (Ne.symm hk)]
  ·show (w.heap.setIfInBounds b o)[b]? = _
   simp [h']
  ·have hk':k<w.heap.size:=by simpa using hk
   show _=(w.heap.setIfInBounds b o)[k]?
   by_cases hkb:k=b
   ·subst hkb
    simp [hk',hb]
   ·rw [Wh (Ne.symm hkb)]
    exact h.block k hk' hkb
theorem btr{w0 w w':World}(h:Below w0.heap.size w0 w)(hE:Below w.heap.size w w') : Below w0.heap.size w0 w':=h.trans (hE.mono h.size)
theorem ktr{b:Nat}{w0 w w':World}(h:Kept b w0.heap.size w0 w)(hE:Below w.heap.size w w') : Kept b w0.heap.size w0 w':=h.trans (hE.mono h.size)
inductive Vk
 | but (b:Nat)
 | base (N:Nat)
instance:Coe Nat Vk:=⟨Vk.but⟩
def Keep(V:Option Vk)(w w':World) : Prop:=match V with
 | none=>Below w.heap.size w w'
 | some (.but b)=>∃ w1,Only b w w1/\Below w.heap.size w1 w'
 | some (.base N)=>Below (min N w.heap.size) w w'
theorem Keep.refl(V:Option Vk)(w:World) : Keep V w w:=by
 cases V with
 | none=>exact Below.refl _ _
 | some b=>cases b with
  | but b=>exact ⟨w,Only.refl _ _,Below.refl _ _⟩
  | base N=>exact Below.refl _ _
theorem Keep.kept{b:Nat}{w w':World}(h:Keep (some b) w w') : Kept b w.heap.size w w':=by
 obtain ⟨w1,h1,h2⟩:=h;exact (Kept.self (Kept.refl b w.heap.size w) h1).trans h2
theorem Kept.keep{b:Nat}{w w':World}(h:Kept b w.heap.size w w') : Keep (some b) w w':=by
 obtain ⟨w1,h1,_,h2⟩:=h.mid;exact ⟨w1,h1,by rw [<- h1.size];exact h2⟩
theorem Keep.of_below{V:Option Vk}{w w':World}(h:Below w.heap.size w w') : Keep V w w':=by
 cases V with
 | none=>exact h
 | some b=>cases b with
  | but b=>exact ⟨w,Only.refl _ _,h⟩
  | base N=>exact Below.mono h (Nat.min_le_right _ _)
theorem Keep.trans{V:Option Vk}{w w' w'':World}(h:Keep V w w')(k:Keep V w' w'') : Keep V w w'':=by
 cases V with
 | none=>exact Below.trans h (Below.mono k h.size)
 | some b=>cases b with
  | but b=>exact (h.kept.transK (k.kept.mono h.kept.size)).keep
  | base N=>exact Below.trans h (Below.mono k (by have:=h.size;omega))
section
variable {P : Program} {ops : Array Oper} {Q : Act -> World -> Prop} {tl : Nat -> Bool} {V : Option Vk}
def wpR(P:Program)(ops:Array Oper)(V:Option Vk)(tl:Nat->Bool)(i:Nat)(K:Act->World->Prop)(a:Act)(w:World) : Prop:=
 match ops[i]? with
 | none=>K a w
 | some o=>if Region.wanted o (yielded ops a.tmps) then Ef P o a w (fun v w'=>(tl i=false->Keep V w w')/\K (a.put o.dst v) w') else K (a.put o.dst undef) w
def wpS(P:Program)(ops:Array Oper)(V:Option Vk)(tl:Nat->Bool)(Q:Act->World->Prop) : Nat->Array Bool->Act->World->Prop
 | 0,listed,a,w=>Region.ready .any ops listed=[]/\Q a w
 | fuel+1,listed,a,w=>(Region.ready .any ops listed=[]->Q a w)/\∀ i ∈ Region.ready .any ops listed,wpR P ops V tl i (wpS P ops V tl Q fuel (listed.setIfInBounds i true)) a w
theorem Xqu{i:Nat}{K K':Act->World->Prop}{a:Act}{w:World}(h:∀ a w,K a w->K' a w)(hh:wpR P ops V tl i K a w) : wpR P ops V tl i K' a w:=by
 unfold wpR at *
 split
 ·exact h _ _ (by simpa [*] using hh)
 ·rename_i o ho
  simp only [ho] at hh
  split
  ·rename_i hw
   simp only [hw,if_true] at hh
   exact hh.mono fun v w' ⟨h1,h2⟩=>⟨h1,h _ _ h2⟩
  ·rename_i hw
   simp only [hw] at hh
   exact h _ _ hh
theorem X3k{Q':Exit->Act->World->Prop}(hQ:∀ a w,Q a w->Q' .normal a w) : ∀ (fuel:Nat) (listed:Array Bool) (a:Act) (w:World),wpS P ops V tl Q fuel listed a w->wpAny P .any ops Q' fuel listed a w
 | 0,_,_,_,h=>⟨h.1,hQ _ _ h.2⟩
 | fuel+1,listed,a,w,h=>by
  refine ⟨fun h0=>hQ _ _ (h.1 h0),fun i hi=>?_⟩
  have h1:=h.2 i hi
  unfold wpR at h1
  unfold wpOp
  split
  ·rename_i ho;simp only [ho] at h1;exact X3k hQ fuel _ _ _ h1
  ·rename_i o ho
   simp only [ho] at h1
   split
   ·rename_i hw
    simp only [hw,if_true] at h1
    exact .inl (h1.wp fun v w' hR=>X3k hQ fuel _ _ _ hR.2)
   ·rename_i hw
    simp only [hw] at h1
    exact X3k hQ fuel _ _ _ h1
def YC(P:Program)(ops:Array Oper)(C:World->Prop)(o:Oper)(v:Value)(a:Act) : Prop:=
 (Region.wanted o (yielded ops a.tmps)=true/\∀ w,C w->(execOp a.eval o).run P w=.ok (.value v) w)∨(Region.wanted o (yielded ops a.tmps)=false/\v=undef)
theorem YC.of_same{C:World->Prop}{o:Oper}{v:Value}{a a':Act}(hy:YC P ops C o v a)(he:execOp a'.eval o=execOp a.eval o)
  (hw:Region.wanted o (yielded ops a'.tmps)=Region.wanted o (yielded ops a.tmps)) : YC P ops C o v a':=by
 unfold YC at *
 rw [he,hw]
 exact hy
theorem YC.wpR{C:World->Prop}{i:Nat}{o:Oper}{v:Value}{a:Act}{w:World}(hi:ops[i]? = some o)(hC:C w)(hy:YC P ops C o v a){K:Act->World->Prop}(h:K (a.put o.dst v) w) : wpR P ops V tl i K a w:=by
 unfold YtfkokcbjcndjpaaGreatDoor.wpR
 simp only [hi]
 rcases hy with ⟨hw,hv⟩|⟨hw,rfl⟩
 ·simp only [hw,if_true]
  exact (Ef.of_run (hv w hC)).mono fun u w' ⟨e1,e2⟩=>by subst e1;subst e2;exact ⟨fun _=>Keep.refl _ _,h⟩
 ·simp only [hw,Bool.false_eq_true,if_false];exact h
theorem Xvl{oi oj:Oper}{v:Value}(h1:∀ d,oi.dst=some d->d ∉ oj.looksAt ops)(hsj:∀ cs b,oj.op≠.select cs b)
  {a:Act} {w:World} {R:Value->World->Prop} (h:Ef P oj (a.put oi.dst v) w R) : Ef P oj a w R:=by
 unfold Ef at *
 rwa [execOp_put oj hsj a oi.dst v h1] at h
theorem Xuf{C:World->Prop}{j:Nat}{oi oj:Oper}{v:Value}(hj:ops[j]? = some oj)(hap:oi.apart ops oj=true)
  (hsi:∀ cs b,oi.op≠.select cs b) (hsj:∀ cs b,oj.op≠.select cs b) (hC:∀ w w',C w->(tl j=false->Keep V w w')->C w') {K:Act->World->Prop} {a:Act} {w:World} (hw0:C w)
  (hy:YC P ops C oi v a) (h:wpR P ops V tl j K (a.put oi.dst v) w) : wpR P ops V tl j (fun a' w'=>C w'/\YC P ops C oi v a'/\K (a'.put oi.dst v) w') a w:=by
 obtain ⟨h1,h2,h3⟩:=Oper.apart_spec hap
 have keep:∀ (a:Act),YC P ops C oi v a->∀ u,YC P ops C oi v (a.put oj.dst u):=fun a hy u=>
  hy.of_same (execOp_put oi hsi a oj.dst u h3) (wanted_put oi a oj.dst u h3)
 unfold wpR at *
 simp only [hj] at *
 rw [wanted_put oj a oi.dst v h1] at h
 split
 ·rename_i hw
  simp only [hw,if_true] at h
  exact (Xvl h1 hsj h).mono fun u w' ⟨hb,hk⟩=>⟨hb,hC w w' hw0 hb,keep a hy u,by rw [<- Act.put_comm a v u h2];exact hk⟩
 ·rename_i hw
  simp only [hw] at h
  exact ⟨hw0,keep a hy _,by rw [<- Act.put_comm a v undef h2];exact h⟩
def Closed(ops:Array Oper)(listed:Array Bool) : Prop:=∀ k ok,ops[k]? = some ok->listed.getD k false=true->∀ e ∈ ok.after,Region.binds .any e=true->listed.getD e.on false=true
theorem X6k{listed:Array Bool}{j k:Nat}(h:listed.getD k false=true) : (listed.setIfInBounds j true).getD k false=true:=by
 rcases W4 k listed.size with hk|hk
 ·by_cases hjk:j=k
  ·subst hjk;simp [hk]
  ·simpa [hk,Array.getElem_setIfInBounds_ne _ hjk] using h
 ·simp [We hk] at h
theorem Closed.set{listed:Array Bool}{j:Nat}{oj:Oper}(h:Closed ops listed)(hj:ops[j]? = some oj)(hall:∀ e ∈ oj.after,Region.binds .any e=true->listed.getD e.on false=true) : Closed ops (listed.setIfInBounds j true):=fun k ok hk hl e he hb=>by
 by_cases hjk:j=k
 ·subst hjk
  rw [hj] at hk
  injection hk with hk
  subst hk
  exact X6k (hall e he hb)
 ·rw [getD_set_ne false hjk] at hl
  exact X6k (h k ok hk hl e he hb)
def reach(ops:Array Oper)(i:Nat) : Nat->Nat->Bool
 | 0,_=>false
 | f+1,j=>match ops[j]? with
  | some oj=>oj.after.any fun e=>Region.binds .any e&&(e.on==i||reach ops i f e.on)
  | none=>false
theorem X7q{listed:Array Bool}{i:Nat}(hcl:Closed ops listed) : ∀ (f j:Nat) (oj:Oper),ops[j]? = some oj->(∀ e ∈ oj.after,Region.binds .any e=true->listed.getD e.on false=true)->reach ops i f j=true->listed.getD i false=true
 | 0,_,_,_,_,h=>by cases h
 | f+1,j,oj,hj,hall,h=>by
  simp only [reach,hj] at h
  obtain ⟨e,he,hb⟩:=Array.any_eq_true'.1 h
  simp only [Qd,Bool.or_eq_true,beq_iff_eq] at hb
  have h1:=hall e he hb.1
  rcases hb.2 with h2|h2
  ·rw [<- h2];exact h1
  ·cases hk:ops[e.on]? with
   | none=>
    cases f with
    | zero=>cases h2
    | succ f=>simp only [reach,hk] at h2;cases h2
   | some ok=>exact X7q hcl f e.on ok hk (hcl e.on ok hk h1) h2
theorem X8p{C:World->Prop}{i:Nat}{oi:Oper}{v:Value}(hi:ops[i]? = some oi)(hsel:∀ (j:Nat) (o:Oper) cs b,ops[j]? = some o->o.op≠.select cs b)
  (hC:∀ j oj,ops[j]? = some oj->(∀ listed,Closed ops listed->(∀ e ∈ oj.after,Region.binds .any e=true->listed.getD e.on false=true)->listed.getD i true=false->∀ w w',C w->(tl j=false->Keep V w w')->C w')) :
  ∀ (fuel:Nat) (listed:Array Bool) (a:Act) (w:World),Closed ops listed->
   (∀ j oj,ops[j]? = some oj->j≠i->listed.getD j true=false->(∀ e ∈ oj.after,Region.binds .any e=true->e.on≠i)->oi.apart ops oj=true)->
   i ∈ Region.ready .any ops listed->C w->YC P ops C oi v a->
   wpS P ops V tl Q fuel (listed.setIfInBounds i true) (a.put oi.dst v) w->wpS P ops V tl Q (fuel+1) listed a w:=by
 intro fuel
 induction fuel with
 | zero=>
  intro listed a w _ _ hr hw hy H
  refine ⟨fun h=>(by rw [h] at hr;cases hr),fun j hj=>?_⟩
  by_cases hji:j=i
  ·subst hji;exact hy.wpR hi hw H
  ·have:=ready_mono hj hji
   rw [H.1] at this
   cases this
 | succ fuel ih=>
  intro listed a w hcl hfree hr hw hy H
  refine ⟨fun h=>(by rw [h] at hr;cases hr),fun j hj=>?_⟩
  by_cases hji:j=i
  ·subst hji;exact hy.wpR hi hw H
  ·have h1:=H.2 j (ready_mono hj hji);obtain ⟨hjun,oj,hoj,hall⟩:=mem_ready.1 hj
   have hnot:∀ e ∈ oj.after,Region.binds .any e=true->e.on≠i:=fun e he hb heq=>by
    have h1:=hall e he hb;have h0:=(mem_ready.1 hr).1
    rw [heq] at h1
    rcases W4 i listed.size with h'|h'
    ·simp [h'] at h0 h1;rw [h0] at h1;cases h1
    ·simp [We h'] at h1
   have h2:=Xuf hoj (hfree j oj hoj hji hjun hnot) (fun cs b=>hsel i oi cs b hi) (fun cs b=>hsel j oj cs b hoj) (hC j oj hoj listed hcl hall (mem_ready.1 hr).1) hw hy h1
   have hfree':∀ k ok,ops[k]? = some ok->k≠i->(listed.setIfInBounds j true).getD k true=false->
     (∀ e ∈ ok.after,Region.binds .any e=true->e.on≠i)->oi.apart ops ok=true:=fun k ok hk hki hun hno=>by
    refine hfree k ok hk hki ?_ hno
    by_cases hjk:j=k
    ·subst hjk;exact hjun
    ·rw [getD_set_ne true hjk] at hun;exact hun
   refine Xqu (fun a' w' h3=>ih (listed.setIfInBounds j true) a' w' (hcl.set hoj hall) hfree' (ready_mono hr (Ne.symm hji)) h3.1 h3.2.1 ?_) h2
   rw [Array.setIfInBounds_comm _ _ hji]
   exact h3.2.2
def mask(ops:Array Oper)(done:List Nat) : Array Bool:=(Array.range ops.size).map fun i=>done.contains i
theorem X3t(ops:Array Oper)(done:List Nat)(i:Nat) : (mask ops done).setIfInBounds i true=mask ops (i::done):=by grind [mask]
theorem Xpa(ops:Array Oper) : Array.replicate ops.size false=mask ops []:=by
 apply Array.ext<;>simp [mask]
def closedB(ops:Array Oper)(done:List Nat) : Bool:=done.all fun k=>match ops[k]? with
 | some ok=>ok.after.all fun e=>!(Region.binds .any e)||done.contains e.on&&Nat.blt e.on ops.size
 | none=>true
def mayFirst(ops:Array Oper)(done:List Nat)(i:Nat) : Bool:=
 Region.noSelect ops&&Region.free .any ops (mask ops done) i&&(Region.ready .any ops (mask ops done)).contains i&&closedB ops done
theorem Xcn{done:List Nat}{k:Nat}(d:Bool)(h:k<ops.size) : (mask ops done).getD k d=done.contains k:=by
 simp [mask,h]
theorem mask_getD'{done:List Nat}{k:Nat}(h:(mask ops done).getD k false=true) : done.contains k=true:=by
 rcases W4 k ops.size with h'|h'
 ·rwa [Xcn false h'] at h
 ·simp [mask,h'] at h
theorem X4q{done:List Nat}(h:closedB ops done=true) : Closed ops (mask ops done):=fun k ok hk hl e he hb=>by
 have h1:=mask_getD' hl
 simp only [closedB,W1] at h
 have h2:=h k (by simpa using h1)
 simp only [hk] at h2
 have h3:=Array.all_eq_true'.1 h2 e he
 simp only [hb,Bool.not_true,Bool.false_or,Qd] at h3
 have h4:e.on<ops.size:=by simpa [Nat.blt_eq] using h3.2
 rw [Xcn false h4]
 exact h3.1
def tailWaits(ops:Array Oper)(tl:Nat->Bool)(i:Nat) : Bool:=
 (List.range ops.size).all fun j=>!tl j||reach ops i 9 j
theorem Xbe{i:Nat}(h:tailWaits ops tl i=true)(j:Nat)(oj:Oper)(hj:ops[j]? = some oj){listed:Array Bool}(hcl:Closed ops listed)(hall:∀ e ∈ oj.after,Region.binds .any e=true->listed.getD e.on false=true)(hi:listed.getD i true=false) : tl j=false:=by
 simp only [tailWaits,W1,W2] at h
 have h1:=h j (Qp.1 hj).1
 simp only [Bool.or_eq_true,Bool.not_eq_true'] at h1
 rcases h1 with h1|h1
 ·exact h1
 ·have h2:=X7q hcl 9 j oj hj hall h1
  rcases W4 i listed.size with h'|h'
  ·simp [h'] at h2 hi;rw [h2] at hi;cases hi
  ·simp [h'] at h2
section
variable {a : Act} {w : World} {n d fuel : Nat} {e : List (Nat × Value)} {o : Oper} {done : List Nat}
theorem Xvj(i:Nat){v:Value}(hi:ops[i]? = some o)(hm:mayFirst ops done i=true)(ht:tailWaits ops tl i=true)(hf:Fr a n e)(hw:Want ops o e)(hd:o.dst=some d)(hn:Nat.blt d n=true)
  (hr:∀ w',Keep V w w'->(execOp a.eval o).run P w'=.ok (.value v) w') (h:∀ a',Fr a' n ((d,v)::e)->wpS P ops V tl Q fuel (mask ops (i::done)) a' w) : wpS P ops V tl Q (fuel+1) (mask ops done) a w:=by
 simp only [mayFirst,Qd] at hm
 refine X8p (C:=fun w'=>Keep V w w') hi (Region.noSelect_spec hm.1.1.1) (fun j oj hj lst hcl hall hun w1 w2 h1 h2=>?_) fuel _ a w (X4q hm.2) (Region.free_spec hi hm.1.1.2) (by simpa using hm.1.2) (Keep.refl _ _) (.inl ⟨hw.wanted hf,hr⟩) ?_
 ·exact h1.trans (h2 (Xbe ht j oj hj hcl hall hun))
 ·rw [X3t]
  exact h _ (by rw [hd];exact hf.put d v hn)
theorem Xyq(i:Nat){v:Value}(hi:ops[i]? = some o)(hm:mayFirst ops done i=true)(ht:tailWaits ops tl i=true)(hf:Fr a n e)(hw:Want ops o e)(hd:o.dst=some d)(hn:Nat.blt d n=true)
  (hr:Ev P o a w v) (h:∀ a',Fr a' n ((d,v)::e)->wpS P ops none tl Q fuel (mask ops (i::done)) a' w) : wpS P ops none tl Q (fuel+1) (mask ops done) a w:=Xvj i hi hm ht hf hw hd hn hr h
theorem Y1h(i:Nat){b:Nat}{v:Value}(hi:ops[i]? = some o)(hm:mayFirst ops done i=true)(ht:tailWaits ops tl i=true)(hf:Fr a n e)(hw:Want ops o e)(hd:o.dst=some d)(hn:Nat.blt d n=true)
  (hr:∀ w1,Only b w w1->Ev P o a w1 v) (h:∀ a',Fr a' n ((d,v)::e)->wpS P ops (some b) tl Q fuel (mask ops (i::done)) a' w) : wpS P ops (some b) tl Q (fuel+1) (mask ops done) a w:=
 Xvj i hi hm ht hf hw hd hn (fun w' ⟨w1,h1,h2⟩=>hr w1 h1 w' (by rw [h1.size];exact h2)) h
theorem Xq5(i:Nat){v:Value}(hi:ops[i]? = some o)(hm:mayFirst ops done i=true)(hf:Fr a n e)(hw:Want ops o e)(hd:o.dst=some d)(hn:Nat.blt d n=true)
  (hr:∀ w,Ev P o a w v) (h:∀ a',Fr a' n ((d,v)::e)->wpS P ops V tl Q fuel (mask ops (i::done)) a' w) : wpS P ops V tl Q (fuel+1) (mask ops done) a w:=by
 simp only [mayFirst,Qd] at hm
 refine X8p (C:=fun _=>True) hi (Region.noSelect_spec hm.1.1.1) (fun _ _ _ _ _ _ _ _ _ _ _=>trivial) fuel _ a w (X4q hm.2) (Region.free_spec hi hm.1.1.2) (by simpa using hm.1.2) trivial (.inl ⟨hw.wanted hf,fun w' _=>hr w' w' (Below.refl _ _)⟩) ?_
 rw [X3t]
 exact h _ (by rw [hd];exact hf.put d v hn)
theorem Xys(i:Nat)(hi:ops[i]? = some o)(hm:mayFirst ops done i=true)(hf:Fr a n e)(hw:Pass ops o e)(hd:o.dst=some d)(hn:Nat.blt d n=true)
  (h:∀ a',Fr a' n ((d,undef)::e)->wpS P ops V tl Q fuel (mask ops (i::done)) a' w) : wpS P ops V tl Q (fuel+1) (mask ops done) a w:=by
 simp only [mayFirst,Qd] at hm
 refine X8p (C:=fun _=>True) hi (Region.noSelect_spec hm.1.1.1) (fun _ _ _ _ _ _ _ _ _ _ _=>trivial) fuel _ a w (X4q hm.2) (Region.free_spec hi hm.1.1.2) (by simpa using hm.1.2) trivial (.inr ⟨hw.wanted hf,O⟩) ?_
 rw [X3t]
 exact h _ (by rw [hd];exact hf.put d undef hn)
theorem s_e{op:Op}{ty:TypeId}{pos:String}{af:Array Edge}(i:Nat){v:Value}(hi:ops[i]? = some ⟨some d,op,ty,pos,af,none⟩)(hm:mayFirst ops done i=true)(ht:tailWaits ops tl i=true)(hf:Fr a n e)(hn:Nat.blt d n=true)
  (hr:Ev P ⟨some d,op,ty,pos,af,none⟩ a w v) (h:∀ a',Fr a' n ((d,v)::e)->wpS P ops none tl Q fuel (mask ops (i::done)) a' w) : wpS P ops none tl Q (fuel+1) (mask ops done) a w:=Xyq i hi hm ht hf trivial rfl hn hr h
theorem Y37{op:Op}{ty:TypeId}{pos:String}{af:Array Edge}(i:Nat){v:Value}(hi:ops[i]? = some ⟨some d,op,ty,pos,af,none⟩)(hm:mayFirst ops done i=true)(hf:Fr a n e)(hn:Nat.blt d n=true)
  (hr:∀ w,Ev P ⟨some d,op,ty,pos,af,none⟩ a w v) (h:∀ a',Fr a' n ((d,v)::e)->wpS P ops V tl Q fuel (mask ops (i::done)) a' w) : wpS P ops V tl Q (fuel+1) (mask ops done) a w:=Xq5 i hi hm hf trivial rfl hn hr h
theorem Y1i(i:Nat)(hr:Region.ready .any ops (mask ops done)=[i])(h:wpR P ops V tl i (wpS P ops V tl Q fuel (mask ops (i::done))) a w) : wpS P ops V tl Q (fuel+1) (mask ops done) a w:=by
 refine ⟨fun h0=>(by rw [hr] at h0;cases h0),fun j hj=>?_⟩
 rw [hr] at hj
 obtain rfl:j=i:=by simpa using hj
 rw [X3t]
 exact h
theorem Y1j(i j:Nat)(hr:Region.ready .any ops (mask ops done)=[i,j])(hi:wpR P ops V tl i (wpS P ops V tl Q fuel (mask ops (i::done))) a w)
  (hj:wpR P ops V tl j (wpS P ops V tl Q fuel (mask ops (j::done))) a w) : wpS P ops V tl Q (fuel+1) (mask ops done) a w:=by
 refine ⟨fun h0=>(by rw [hr] at h0;cases h0),fun k hk=>?_⟩
 rw [hr] at hk
 rw [X3t]
 simp only [Qv,List.not_mem_nil,or_false] at hk
 rcases hk with rfl|rfl
 ·exact hi
 ·exact hj
theorem Xtu(i j k:Nat)(hr:Region.ready .any ops (mask ops done)=[i,j,k])(hi:wpR P ops V tl i (wpS P ops V tl Q fuel (mask ops (i::done))) a w)
  (hj:wpR P ops V tl j (wpS P ops V tl Q fuel (mask ops (j::done))) a w) (hk:wpR P ops V tl k (wpS P ops V tl Q fuel (mask ops (k::done))) a w) : wpS P ops V tl Q (fuel+1) (mask ops done) a w:=by
 refine ⟨fun h0=>(by rw [hr] at h0;cases h0),fun m hm=>?_⟩
 rw [hr] at hm
 rw [X3t]
 simp only [Qv,List.not_mem_nil,or_false] at hm
 rcases hm with rfl|rfl|rfl
 ·exact hi
 ·exact hj
 ·exact hk
def sameL(L D:List Nat) : Bool:=L.all D.contains&&D.all L.contains
theorem Xlu{L D:List Nat}(h:sameL L D=true) : mask ops L=mask ops D:=by grind [mask,sameL]
theorem Xnn{a:Act}{w:World}{o:Oper}{v:Value}(h:Ev P o a w v) : Ef P o a w (fun v' w'=>v'=v/\w=w'):=by
 unfold Ef
 rw [h w (Below.refl _ _)]
 exact ⟨O,O⟩
theorem Xyp(hr:Region.ready .any ops (mask ops done)=[])(h:Q a w) : wpS P ops V tl Q fuel (mask ops done) a w:=by
 cases fuel with
 | zero=>exact ⟨hr,h⟩
 | succ f=>exact ⟨fun _=>h,fun j hj=>by rw [hr] at hj;cases hj⟩
theorem Y1b{i:Nat}{K:Act->World->Prop}{R:Value->World->Prop}(hi:ops[i]? = some o)(hf:Fr a n e)(hw:Want ops o e)(hd:o.dst=some d)(hn:Nat.blt d n=true)
  (hr:Ef P o a w fun v w'=>(tl i=false->Keep V w w')/\R v w') (h:∀ a' v w',R v w'->Fr a' n ((d,v)::e)->K a' w') : wpR P ops V tl i K a w:=by
 unfold wpR
 simp only [hi]
 rw [Q4 (hw.wanted hf)]
 exact hr.mono fun v w' ⟨h1,h2⟩=>⟨h1,h _ v w' h2 (by rw [hd];exact hf.put d v hn)⟩
theorem Xyi{i:Nat}{K:Act->World->Prop}{R:Value->World->Prop}(hi:ops[i]? = some o)(hf:Fr a n e)(hw:Want ops o e)(hd:o.dst=none)
  (hr:Ef P o a w fun v w'=>(tl i=false->Keep V w w')/\R v w') (h:∀ a' v w',R v w'->Fr a' n e->K a' w') : wpR P ops V tl i K a w:=by
 unfold wpR
 simp only [hi]
 rw [Q4 (hw.wanted hf)]
 exact hr.mono fun v w' ⟨h1,h2⟩=>⟨h1,h _ v w' h2 (by rw [hd];exact hf.put_none v)⟩
theorem Xyj{i:Nat}{K:Act->World->Prop}(hi:ops[i]? = some o)(hf:Fr a n e)(hw:Pass ops o e)(hd:o.dst=some d)(hn:Nat.blt d n=true)
  (h:∀ a',Fr a' n ((d,undef)::e)->K a' w) : wpR P ops V tl i K a w:=by
 unfold wpR
 simp only [hi]
 rw [Q3 (by rw [hw.wanted hf];simp)]
 exact h _ (by rw [hd];exact hf.put d undef hn)
theorem X08(V:Option Vk)(tl:Nat->Bool){id:Nat}{l:List Oper}{Q':Exit->Act->World->Prop}(hm:P.follows .mixedOrders=true)
  (h:∀ w',Below w.heap.size w w'->wpS P l.toArray V tl (Q' .normal) l.length (mask l.toArray []) a w') : (Code.region id l.toArray true).wp P Q' a w:=by
 refine wp_region_any hm ?_
 rw [Xpa]
 exact X3k (fun _ _ h=>h) _ _ _ _ (by simpa using h w.drew (Below.refl _ _).drew)
end
end
abbrev Env:=List (Nat×Value)
def At(w:World)(p:Addr)(l:List Value) : Prop:=∀ j v,l[j]? = some v->w.cell? (p.add j)=some v
def Blk(w:World)(b:Nat)(T:TypeId)(l:List Value) : Prop:=w.heap[b]? = some (.cells l.toArray T (0,0))
theorem X74(p:Addr)(i j:Nat) : (p.add i).add j=p.add (i+j):=by
 unfold Addr.add
 by_cases hi:i=0<;>by_cases hj:j=0<;>simp [hi,hj,Nat.add_assoc]
theorem X6q(p:Addr)(i:Nat) : (p.add i).block=p.block:=by unfold Addr.add;split<;>rfl
theorem X1w(b off i:Nat) : (Addr.mk b off none).add i=⟨b,off+i,none⟩:=by
 unfold Addr.add
 by_cases hi:i=0<;>simp [hi]
theorem Xim{w:World}{p:Addr}{v:Value}(h:w.cell? p=some v) : p.block<w.heap.size:=by
 rcases W4 p.block w.heap.size with h'|h'
 ·exact h'
 ·simp [World.cell?,We h'] at h
theorem At.bw{w w':World}{p:Addr}{l:List Value}(h:At w p l)(hb:Below w.heap.size w w') : At w' p l:=by
 intro j v hj
 have:=h j v hj
 rw [hb.cell (Xim this)]
 exact this
theorem At.drop{w:World}{p:Addr}{l:List Value}(h:At w p l)(k:Nat) : At w (p.add k) (l.drop k):=by
 intro j v hj
 rw [X74]
 exact h (k+j) v (by rw [<- hj,List.getElem?_drop])
theorem At.take{w:World}{p:Addr}{l:List Value}(h:At w p l)(k:Nat) : At w p (l.take k):=by grind [At]
theorem At.nil(w:World)(p:Addr) : At w p []:=fun j v h=>by simp at h
theorem Blk.lt{w:World}{b:Nat}{T:TypeId}{l:List Value}(h:Blk w b T l) : b<w.heap.size:=by grind [Blk]
theorem Blk.cell{w:World}{b:Nat}{T:TypeId}{l:List Value}(h:Blk w b T l)(k:Nat) : w.cell? ⟨b,k,none⟩=l[k]?:=by
 unfold Blk at h
 simp [World.cell?,h]
theorem Blk.at{w:World}{b:Nat}{T:TypeId}{l:List Value}(h:Blk w b T l)(k:Nat) : At w ⟨b,k,none⟩ (l.drop k):=by
 intro j v hj
 rw [X1w,h.cell,<- hj,List.getElem?_drop]
theorem Blk.bw{w w':World}{b:Nat}{T:TypeId}{l:List Value}(h:Blk w b T l)(hb:Below w.heap.size w w') : Blk w' b T l:=(hb.block b h.lt).trans h
theorem Blk.oy{w w':World}{b b':Nat}{T:TypeId}{l:List Value}(h:Blk w b T l)(ho:Only b' w w')(hne:b≠b') : Blk w' b T l:=(ho.block b hne).trans h
theorem Blk.drew{w:World}{b:Nat}{T:TypeId}{l:List Value}(h:Blk w b T l) : Blk w.drew b T l:=h
theorem Blk.ne{w:World}{b b':Nat}{T T':TypeId}{l l':List Value}(h:Blk w b T l)(h':Blk w b' T' l')(hT:Nat.beq T T'=false) : b≠b':=by
 rintro rfl
 unfold Blk at h h'
 rw [h] at h'
 injection h' with h'
 injection h' with _ e
 subst e
 simp at hT
theorem Blk.oz{w w' : World}{b b' : Nat}{T T' : TypeId}{l l' : List Value}(h : Blk w b T l)(ho : Only b' w w')(h' : Blk w b' T' l')(hT : Nat.beq T T' = false) : Blk w' b T l:=h.oy ho (Blk.ne h h' hT)
theorem Below.oy{B b:Nat}{w0 w w':World}(h:Below B w0 w)(ho:Only b w w')(hB:B<=b) : Below B w0 w':=
 h.trans ⟨ho.os,ho.tape,ho.output,by rw [ho.size];exact Qb _,fun k hk=>ho.block k Z⟩
theorem At.oy{w w':World}{b:Nat}{p:Addr}{l:List Value}(h:At w p l)(ho:Only b w w')(hne:p.block≠b) : At w' p l:=by
 intro j v hj
 rw [World.cell?_of_block (w:=w) (by rw [X6q];exact ho.block _ hne)]
 exact h j v hj
def OneT(P:Program)(t:TypeId) : Prop:=∃ d,P.underlying t=some d/\(match d with|.struct _|.array _ _=>False|_=>True)
def AggT(P:Program)(t:TypeId)(n:Nat) : Prop:=(∃ d,P.underlying t=some d/\(match d with|.struct _|.array _ _=>True|_=>False))/\∃ i,P.info? t=some i/\i.size=n
def SizeT(P:Program)(t:TypeId)(n:Nat) : Prop:=∃ i,P.info? t=some i/\i.size=n
def ZeroT(P:Program)(t:TypeId)(z:Value) : Prop:=∃ i,P.info? t=some i/\i.zero=some z
def FieldT(P:Program)(T f k:Nat) : Prop:=∃ fs F i,P.underlying T=some (.struct fs)/\fs[f]? = some F/\F.offset=k/\P.info? F.type=some i/\(i.size==0)=false
def SliceT(P:Program)(T E:TypeId) : Prop:=P.underlying T=some (.slice E)
def FuncF (P : Program) (f : FuncId) : Prop := ∃ fn, P.funcs[f]? = some fn /\ (fn.name == "runtime.NumGoroutine") = false /\ fn.body.isNone = false
section
variable {P : Program} {w : World}
theorem run_sizeOf'{t n:Nat}(h:SizeT P t n)(w:World) : (sizeOf t).run P w=.ok n w:=by
 obtain ⟨i,h1,h2⟩:=h
 simp [sizeOf,typeInfo,h1,h2]
theorem X6o{t:TypeId}{z:Value}(h:ZeroT P t z)(w:World) : (zeroValue t).run P w=.ok z w:=by
 obtain ⟨i,h1,h2⟩:=h
 simp [zeroValue,typeInfo,h1,h2]
theorem X0t{t:TypeId}{d:TypeDesc}(h:P.underlying t=some d)(w:World) : (underlying t).run P w=.ok d w:=by simp [underlying,h]
theorem X6n{t:TypeId}(h:OneT P t)(w:World) : (isAgg t).run P w=.ok false w:=by
 obtain ⟨d,h1,h2⟩:=h
 cases d<;>simp_all [isAgg,underlying]
theorem X6m{t n:Nat}(h:AggT P t n)(w:World) : (isAgg t).run P w=.ok true w:=by
 obtain ⟨⟨d,h1,h2⟩,_⟩:=h
 cases d<;>simp_all [isAgg,underlying]
theorem X42(p:Addr) : ∀ (l:List Value) (i:Nat) (acc:Array Value),(∀ j v,l[j]? = some v->w.cell? (p.add (i+j))=some v)->
  (loadCellsFrom p i l.length acc).run P w=.ok (acc++l.toArray) w
 | [],i,acc,_=>by simp [loadCellsFrom]
 | v::l,i,acc,h=>by
  have h0:=h 0 v O
  simp only [Nat.add_zero] at h0
  have ih:=X42 p l (i+1) (acc.push v) (fun j u hj=>by
   have:=h (j+1) u (by simpa using hj)
   rwa [show i+(j+1)=i+1+j from by omega] at this)
  simp [loadCellsFrom,load,Sem.run,h0,ih]
theorem X52{t:TypeId}{p:Addr}{v:Value}{l:List Value}(h:OneT P t)(hc:At w p (v::l)) : (loadVar t p).run P w=.ok v w:=by
 have h0:=hc 0 v O
 have h1:p.add 0=p:=by simp [Addr.add]
 rw [h1] at h0
 simp [loadVar,X6n h,load,Sem.run,h0]
theorem X51{t n:Nat}{p:Addr}{l:List Value}(h:AggT P t n)(hc:At w p l)(hn:l.length=n) : (loadVar t p).run P w=.ok (.agg l.toArray) w:=by
 subst hn
 have h1:=X42 (P:=P) (w:=w) p l 0 #[] (fun j v hj=>by rw [Nat.zero_add];exact hc j v hj)
 simp [loadVar,X6m h,run_sizeOf' h.2,loadCells,h1]
end
section
variable {P : Program} {a : Act} {w : World} {n : Nat} {e : Env} {ty : TypeId} {pos : String} {af : Array Edge} {g : Option (Nat × Bool)} {d : Option Tmp}
theorem Xrv{x:Operand}{v:Value}(hf:Fr a n e)(hx:ev e x=some v) : Ev P ⟨d,.move x,ty,pos,af,g⟩ a w v:=fun w' _=>by
 simp [execOp,hf.ev hx]
theorem X7{x:Operand}{v:Value}(hx:ev e x=some v) : EvW P ⟨d,.move x,ty,pos,af,g⟩ n e w v:=fun a hf=>Xrv hf hx
theorem Xlj{x:Operand}{v:Value}(hf:Fr a n e)(hx:ev e x=some v) : Ev P ⟨d,.assign x,ty,pos,af,g⟩ a w v:=fun w' _=>by
 simp [execOp,hf.ev hx]
theorem X0y{x:Operand}{v:Value}(hx:ev e x=some v) : EvW P ⟨d,.assign x,ty,pos,af,g⟩ n e w v:=fun a hf=>Xlj hf hx
theorem Xiu{c x y:Operand}{b:Bool}{v:Value}(hf:Fr a n e)(hc:ev e c=some (.bool b))(hx:ev e (if b then x else y)=some v) : Ev P ⟨d,.pick c x y,ty,pos,af,g⟩ a w v:=fun w' _=>by
 have h1:=hf.ev hc;have h2:=hf.ev hx
 cases b<;>simp_all [execOp,asBool]
theorem Xo3{c x y:Operand}{b:Bool}{v:Value}(hf:Fr a n e)(hc:ev e c=some (.bool b))(hb:b=true)(hx:ev e x=some v) : Ev P ⟨d,.pick c x y,ty,pos,af,g⟩ a w v:=by
 subst hb
 exact Xiu hf hc hx
theorem Xf{c x y:Operand}{b:Bool}{v:Value}(hc:ev e c=some (.bool b))(hb:b=true)(hx:ev e x=some v) : EvW P ⟨d,.pick c x y,ty,pos,af,g⟩ n e w v:=fun a hf=>Xo3 hf hc hb hx
theorem Xo2{c x y:Operand}{b:Bool}{v:Value}(hf:Fr a n e)(hc:ev e c=some (.bool b))(hb:b=false)(hx:ev e y=some v) : Ev P ⟨d,.pick c x y,ty,pos,af,g⟩ a w v:=by
 subst hb
 exact Xiu hf hc hx
theorem Xb{c x y:Operand}{b:Bool}{v:Value}(hc:ev e c=some (.bool b))(hb:b=false)(hx:ev e y=some v) : EvW P ⟨d,.pick c x y,ty,pos,af,g⟩ n e w v:=fun a hf=>Xo2 hf hc hb hx
theorem Xny{t:TypeId}{x:Operand}{p:Addr}{v:Value}{l:List Value}(hf:Fr a n e)(hx:ev e x=some (.pointer (some p)))(h1:OneT P t)(hc:At w p (v::l)) : Ev P ⟨d,.load t x,ty,pos,af,g⟩ a w v:=fun w' hw=>by
 simp [execOp,hf.ev hx,Instr.loadAt,Instr.sureAddr,X52 h1 (hc.bw hw)]
theorem X0{t:TypeId}{x:Operand}{p:Addr}{v:Value}{l:List Value}(hx:ev e x=some (.pointer (some p)))(h1:OneT P t)(hc:At w p (v::l)) : EvW P ⟨d,.load t x,ty,pos,af,g⟩ n e w v:=fun a hf=>Xny hf hx h1 hc
theorem Xnz{t k:Nat}{x:Operand}{p:Addr}{l:List Value}(hf:Fr a n e)(hx:ev e x=some (.pointer (some p)))(hA:AggT P t k)(hc:At w p l)(hl:l.length=k) : Ev P ⟨d,.load t x,ty,pos,af,g⟩ a w (.agg l.toArray):=fun w' hw=>by
 simp [execOp,hf.ev hx,Instr.loadAt,Instr.sureAddr,X51 hA (hc.bw hw) hl]
theorem Xx{t k:Nat}{x:Operand}{p:Addr}{l:List Value}(hx:ev e x=some (.pointer (some p)))(hA:AggT P t k)(hc:At w p l)(hl:l.length=k) : EvW P ⟨d,.load t x,ty,pos,af,g⟩ n e w (.agg l.toArray):=fun a hf=>Xnz hf hx hA hc hl
theorem Xfl{T f k:Nat}{x:Operand}{p:Addr}(hf:Fr a n e)(hx:ev e x=some (.pointer (some p)))(hF:FieldT P T f k) : Ev P ⟨d,.fieldAddr T x f,ty,pos,af,g⟩ a w (.pointer (some (p.add k))):=fun w' _=>by
 obtain ⟨fs,F,i,h1,h2,h3,h4,h5⟩:=hF;have h6:=run_sizeOf' ⟨i,h4,O⟩ w'
 simp [execOp,hf.ev hx,Instr.fieldAt,X0t h1,h2,Instr.sureAddr,fieldPlace,h6,h3]
 simp at h5
 simp [h5]
theorem Xmt{T f k:Nat}{x:Operand}{p:Addr}(hx:ev e x=some (.pointer (some p)))(hF:FieldT P T f k) : EvW P ⟨d,.fieldAddr T x f,ty,pos,af,g⟩ n e w (.pointer (some (p.add k))):=fun a hf=>Xfl hf hx hF
theorem Xlk{T f k:Nat}{x:Operand}{b off m:Nat}(hf:Fr a n e)(hx:ev e x=some (.pointer (some ⟨b,off,none⟩)))(hF:FieldT P T f k)(hk:off+k=m) : Ev P ⟨d,.fieldAddr T x f,ty,pos,af,g⟩ a w (.pointer (some ⟨b,m,none⟩)):=by
 have:=Xfl (P:=P) (w:=w) (d:=d) (ty:=ty) (pos:=pos) (af:=af) (g:=g) hf hx hF
 rwa [X1w,hk] at this
theorem Xr7{T f k:Nat}{x:Operand}{b off m:Nat}(hx:ev e x=some (.pointer (some ⟨b,off,none⟩)))(hF:FieldT P T f k)(hk:off+k=m) : EvW P ⟨d,.fieldAddr T x f,ty,pos,af,g⟩ n e w (.pointer (some ⟨b,m,none⟩)):=fun a hf=>Xlk hf hx hF hk
theorem Xh9{x:Operand}{k:Nat}{vs:List Value}{v:Value}(hf:Fr a n e)(hx:ev e x=some (.tuple vs.toArray))(hv:vs[k]? = some v) : Ev P ⟨d,.extract x k,ty,pos,af,g⟩ a w v:=fun w' _=>by
 simp [execOp,hf.ev hx,Instr.extract,hv]
theorem X3{x:Operand}{k:Nat}{vs:List Value}{v:Value}(hx:ev e x=some (.tuple vs.toArray))(hv:vs[k]? = some v) : EvW P ⟨d,.extract x k,ty,pos,af,g⟩ n e w v:=fun a hf=>Xh9 hf hx hv
theorem Xwo{t:TypeId}{x:Operand}{b:Bool}(hf:Fr a n e)(hx:ev e x=some (.bool b)) : Ev P ⟨d,.unOp .not t x,ty,pos,af,g⟩ a w (.bool (!b)):=fun w' _=>by
 simp [execOp,hf.ev hx,Op.unary]
theorem X0x{t:TypeId}{x:Operand}{b:Bool}(hx:ev e x=some (.bool b)) : EvW P ⟨d,.unOp .not t x,ty,pos,af,g⟩ n e w (.bool (!b)):=fun a hf=>Xwo hf hx
theorem Xwl{t:TypeId}{x:Operand}{i:Int}(hf:Fr a n e)(hx:ev e x=some (.int .i64 i)) : Ev P ⟨d,.unOp .neg t x,ty,pos,af,g⟩ a w (.int .i64 (IntKind.i64.wrap (-i))):=fun w' _=>by
 simp [execOp,hf.ev hx,Op.unary,Op.intArith]
theorem Xl4{t:TypeId}{x:Operand}{i:Int}(hx:ev e x=some (.int .i64 i)) : EvW P ⟨d,.unOp .neg t x,ty,pos,af,g⟩ n e w (.int .i64 (IntKind.i64.wrap (-i))):=fun a hf=>Xwl hf hx
section
variable {t t' : TypeId} {x y : Operand} {i j : Int}
theorem Xnu(hf:Fr a n e)(hx:ev e x=some (.int .i64 i))(hy:ev e y=some (.int .i64 j)) : Ev P ⟨d,.binOp .add t x y t',ty,pos,af,g⟩ a w (.int .i64 (IntKind.i64.wrap (i+j))):=fun w' _=>by
 simp [execOp,hf.ev hx,hf.ev hy,eqGuard,binOp,Op.intArith]
theorem X2d(hx:ev e x=some (.int .i64 i))(hy:ev e y=some (.int .i64 j)) : EvW P ⟨d,.binOp .add t x y t',ty,pos,af,g⟩ n e w (.int .i64 (IntKind.i64.wrap (i+j))):=fun a hf=>Xnu hf hx hy
theorem Xrr(hf:Fr a n e)(hx:ev e x=some (.int .i64 i))(hy:ev e y=some (.int .i64 j))(h1:-9223372036854775808<=i+j)(h2:i+j<=9223372036854775807) : Ev P ⟨d,.binOp .add t x y t',ty,pos,af,g⟩ a w (.int .i64 (i+j)):=by
 have h:=Xnu (P:=P) (w:=w) (d:=d) (ty:=ty) (pos:=pos) (af:=af) (g:=g) (t:=t) (t':=t') hf hx hy
 rwa [IntWalk.i64_in _ ⟨h1,h2⟩] at h
theorem X03(hx:ev e x=some (.int .i64 i))(hy:ev e y=some (.int .i64 j))(h1:-9223372036854775808<=i+j)(h2:i+j<=9223372036854775807) : EvW P ⟨d,.binOp .add t x y t',ty,pos,af,g⟩ n e w (.int .i64 (i+j)):=fun a hf=>Xrr hf hx hy h1 h2
theorem Xs2(hf:Fr a n e)(hx:ev e x=some (.int .i64 i))(hy:ev e y=some (.int .i64 j))(h1:-9223372036854775808<=i-j)(h2:i-j<=9223372036854775807) : Ev P ⟨d,.binOp .sub t x y t',ty,pos,af,g⟩ a w (.int .i64 (i-j)):=by
 have h:Ev P ⟨d,.binOp .sub t x y t',ty,pos,af,g⟩ a w (.int .i64 (IntKind.i64.wrap (i-j))):=fun w' _=>by
  simp [execOp,hf.ev hx,hf.ev hy,eqGuard,binOp,Op.intArith]
 rwa [IntWalk.i64_in _ ⟨h1,h2⟩] at h
theorem X18(hx:ev e x=some (.int .i64 i))(hy:ev e y=some (.int .i64 j))(h1:-9223372036854775808<=i-j)(h2:i-j<=9223372036854775807) : EvW P ⟨d,.binOp .sub t x y t',ty,pos,af,g⟩ n e w (.int .i64 (i-j)):=fun a hf=>Xs2 hf hx hy h1 h2
theorem Xws(hf:Fr a n e)(hx:ev e x=some (.int .i64 i))(hy:ev e y=some (.int .i64 j)) : Ev P ⟨d,.binOp .sub t x y t',ty,pos,af,g⟩ a w (.int .i64 (IntKind.i64.wrap (i-j))):=fun w' _=>by
 simp [execOp,hf.ev hx,hf.ev hy,eqGuard,binOp,Op.intArith]
theorem X4a(hx:ev e x=some (.int .i64 i))(hy:ev e y=some (.int .i64 j)) : EvW P ⟨d,.binOp .sub t x y t',ty,pos,af,g⟩ n e w (.int .i64 (IntKind.i64.wrap (i-j))):=fun a hf=>Xws hf hx hy
theorem Xwk(hf:Fr a n e)(hx:ev e x=some (.int .i64 i))(hy:ev e y=some (.int .i64 j)) : Ev P ⟨d,.binOp .mul t x y t',ty,pos,af,g⟩ a w (.int .i64 (IntKind.i64.wrap (i*j))):=fun w' _=>by
 simp [execOp,hf.ev hx,hf.ev hy,eqGuard,binOp,Op.intArith]
theorem X2n(hx:ev e x=some (.int .i64 i))(hy:ev e y=some (.int .i64 j)) : EvW P ⟨d,.binOp .mul t x y t',ty,pos,af,g⟩ n e w (.int .i64 (IntKind.i64.wrap (i*j))):=fun a hf=>Xwk hf hx hy
theorem Xwi(hf:Fr a n e)(hx:ev e x=some (.int .i64 i))(hy:ev e y=some (.int .i64 j)) : Ev P ⟨d,.binOp .lss t x y t',ty,pos,af,g⟩ a w (.bool (decide (i<j))):=fun w' _=>by
 simp [execOp,hf.ev hx,hf.ev hy,eqGuard,binOp,Op.intCmp]
theorem X16(hx:ev e x=some (.int .i64 i))(hy:ev e y=some (.int .i64 j)) : EvW P ⟨d,.binOp .lss t x y t',ty,pos,af,g⟩ n e w (.bool (decide (i<j))):=fun a hf=>Xwi hf hx hy
theorem Xwh(hf:Fr a n e)(hx:ev e x=some (.int .i64 i))(hy:ev e y=some (.int .i64 j)) : Ev P ⟨d,.binOp .leq t x y t',ty,pos,af,g⟩ a w (.bool (decide (i<=j))):=fun w' _=>by
 simp [execOp,hf.ev hx,hf.ev hy,eqGuard,binOp,Op.intCmp]
theorem X6i(hx:ev e x=some (.int .i64 i))(hy:ev e y=some (.int .i64 j)) : EvW P ⟨d,.binOp .leq t x y t',ty,pos,af,g⟩ n e w (.bool (decide (i<=j))):=fun a hf=>Xwh hf hx hy
theorem Xwf(hf:Fr a n e)(hx:ev e x=some (.int .i64 i))(hy:ev e y=some (.int .i64 j)) : Ev P ⟨d,.binOp .gtr t x y t',ty,pos,af,g⟩ a w (.bool (decide (j<i))):=fun w' _=>by
 simp [execOp,hf.ev hx,hf.ev hy,eqGuard,binOp,Op.intCmp]
theorem X29(hx:ev e x=some (.int .i64 i))(hy:ev e y=some (.int .i64 j)) : EvW P ⟨d,.binOp .gtr t x y t',ty,pos,af,g⟩ n e w (.bool (decide (j<i))):=fun a hf=>Xwf hf hx hy
theorem Xwe(hf:Fr a n e)(hx:ev e x=some (.int .i64 i))(hy:ev e y=some (.int .i64 j)) : Ev P ⟨d,.binOp .geq t x y t',ty,pos,af,g⟩ a w (.bool (decide (j<=i))):=fun w' _=>by
 simp [execOp,hf.ev hx,hf.ev hy,eqGuard,binOp,Op.intCmp]
theorem Xa2(hx:ev e x=some (.int .i64 i))(hy:ev e y=some (.int .i64 j)) : EvW P ⟨d,.binOp .geq t x y t',ty,pos,af,g⟩ n e w (.bool (decide (j<=i))):=fun a hf=>Xwe hf hx hy
theorem Xwd(hf:Fr a n e)(hx:ev e x=some (.int .i64 i))(hy:ev e y=some (.int .i64 j)) : Ev P ⟨d,.binOp .eql t x y t',ty,pos,af,g⟩ a w (.bool (i==j)):=fun w' _=>by
 simp [execOp,hf.ev hx,hf.ev hy,eqGuard,binOp,Op.intCmp]
theorem X13(hx:ev e x=some (.int .i64 i))(hy:ev e y=some (.int .i64 j)) : EvW P ⟨d,.binOp .eql t x y t',ty,pos,af,g⟩ n e w (.bool (i==j)):=fun a hf=>Xwd hf hx hy
theorem Xwm(hf:Fr a n e)(hx:ev e x=some (.int .i64 i))(hy:ev e y=some (.int .i64 j)) : Ev P ⟨d,.binOp .neq t x y t',ty,pos,af,g⟩ a w (.bool (i != j)):=fun w' _=>by
 simp [execOp,hf.ev hx,hf.ev hy,eqGuard,binOp,Op.intCmp]
theorem X47(hx:ev e x=some (.int .i64 i))(hy:ev e y=some (.int .i64 j)) : EvW P ⟨d,.binOp .neq t x y t',ty,pos,af,g⟩ n e w (.bool (i != j)):=fun a hf=>Xwm hf hx hy
theorem Xwc(hf:Fr a n e)(hx:ev e x=some (.int .i64 i))(hy:ev e y=some (.int .i64 j)) : Ev P ⟨d,.binOp .and t x y t',ty,pos,af,g⟩ a w (.int .i64 (bits .and .i64 i j)):=fun w' _=>by
 simp [execOp,hf.ev hx,hf.ev hy,eqGuard,binOp,Op.intBits,bits]
theorem Xw3(hx:ev e x=some (.int .i64 i))(hy:ev e y=some (.int .i64 j)) : EvW P ⟨d,.binOp .and t x y t',ty,pos,af,g⟩ n e w (.int .i64 (bits .and .i64 i j)):=fun a hf=>Xwc hf hx hy
theorem Xwx(hf:Fr a n e)(hx:ev e x=some (.int .i64 i))(hy:ev e y=some (.int .i64 j)) : Ev P ⟨d,.binOp .xor t x y t',ty,pos,af,g⟩ a w (.int .i64 (bits .xor .i64 i j)):=fun w' _=>by
 simp [execOp,hf.ev hx,hf.ev hy,eqGuard,binOp,Op.intBits,bits]
theorem Xmv(hx:ev e x=some (.int .i64 i))(hy:ev e y=some (.int .i64 j)) : EvW P ⟨d,.binOp .xor t x y t',ty,pos,af,g⟩ n e w (.int .i64 (bits .xor .i64 i j)):=fun a hf=>Xwx hf hx hy
theorem X8j{b c:Bool}(ht:P.underlying t=some .bool)(k:Nat)(w:World) : (Op.equalIn (k+1) t (.bool b) (.bool c)).run P w=.ok (b==c) w:=by
 simp [Op.equalIn,X0t ht]
theorem Xrt{b c:Bool}(ht:P.underlying t=some .bool)(hf:Fr a n e)(hx:ev e x=some (.bool b))(hy:ev e y=some (.bool c)) : Ev P ⟨d,.binOp .neq t x y t',ty,pos,af,g⟩ a w (.bool (b != c)):=fun w' _=>by
 have h:=X8j (P:=P) (b:=b) (c:=c) ht 9999 w'
 simp [execOp,hf.ev hx,hf.ev hy,eqGuard,binOp,Op.equal,Op.maxDepth,h]
 cases b<;>cases c<;>rfl
theorem Xv6{b c:Bool}(ht:P.underlying t=some .bool)(hx:ev e x=some (.bool b))(hy:ev e y=some (.bool c)) : EvW P ⟨d,.binOp .neq t x y t',ty,pos,af,g⟩ n e w (.bool (b != c)):=fun a hf=>Xrt ht hf hx hy
theorem Xwg{x:Operand}{T E:TypeId}{A:Option Addr}{m c:Nat}(hf:Fr a n e)(hx:ev e x=some (.slice A m c))(hT:SliceT P T E) : Ev P ⟨d,.call ⟨.builtin .len,#[x],#[T]⟩,ty,pos,af,g⟩ a w (.int .i64 (m:Int)):=fun w' _=>by
 have:=X0t (P:=P) hT w'
 simp [execOp,resolve,invoke,builtin,Builtin.len_,hf.ev hx,this,goInt]
theorem X0o{x:Operand}{T E:TypeId}{A:Option Addr}{m c:Nat}(hx:ev e x=some (.slice A m c))(hT:SliceT P T E) : EvW P ⟨d,.call ⟨.builtin .len,#[x],#[T]⟩,ty,pos,af,g⟩ n e w (.int .i64 (m:Int)):=fun a hf=>Xwg hf hx hT
theorem Xfn{k:FuncId}{cs:List Operand}{vs:List Value}(hf:Fr a n e)(hx:evs e cs=some vs) : Ev P ⟨d,.makeFunc (.func k) #[] cs.toArray,ty,pos,af,g⟩ a w (.func (.func k) #[] vs.toArray):=fun w' _=>by
 simp [execOp,Instr.makeFunc,hf.evs hx]
theorem X33{k:FuncId}{cs:List Operand}{vs:List Value}(hx:evs e cs=some vs) : EvW P ⟨d,.makeFunc (.func k) #[] cs.toArray,ty,pos,af,g⟩ n e w (.func (.func k) #[] vs.toArray):=fun a hf=>Xfn hf hx
end
end
section
variable {P : Program} {a : Act} {w : World} {n : Nat} {e : Env} {ty : TypeId} {pos : String} {af : Array Edge} {g : Option (Nat × Bool)} {d : Option Tmp}
def IsNew(w:World)(T:TypeId)(zs:List Value)(v:Value)(w':World) : Prop:=
 ∃ b,v=.pointer (some ⟨b,0,none⟩)/\w.heap.size<=b/\Below w.heap.size w w'/\Blk w' b T zs
theorem X82(w:World)(T:TypeId)(zs:List Value) : Blk (w.alloc (.cells zs.toArray T)) w.heap.size T zs:=heap_alloc_new w _
theorem X8w(w:World)(T:TypeId)(zs:List Value) : IsNew w T zs (.pointer (some ⟨w.heap.size,0,none⟩)) (w.alloc (.cells zs.toArray T)):=
 ⟨_,rfl,Qb _,(Below.refl _ _).alloc (Qb _) _,X82 w T zs⟩
theorem Xb6(T:TypeId)(v:Value)(w:World) : (newVar T v).run P w=.ok ⟨w.heap.size,0,none⟩ (w.alloc (.cells v.cells T)):=by
 simp [newVar,newRow,newObj,Sem.run]
theorem Xnj{T:TypeId}{z:Value}{zs:List Value}(hz:ZeroT P T z)(hzs:z.cells.toList=zs) : Ef P ⟨d,.alloc T,ty,pos,af,g⟩ a w (IsNew w T zs):=by
 subst hzs
 have h:(execOp a.eval ⟨d,.alloc T,ty,pos,af,g⟩).run P w=.ok (.value (.pointer (some ⟨w.heap.size,0,none⟩))) (w.alloc (.cells z.cells T)):=by
  simp [execOp,Instr.alloc,X6o hz,Xb6]
 refine (Ef.of_run h).mono fun v w' ⟨e1,e2⟩=>?_
 subst e1;subst e2
 have:=X8w w T z.cells.toList
 simpa using this
theorem Xl{n:Nat}{e:List (Nat×Value)}{T:TypeId}{z:Value}{zs:List Value}(hz:ZeroT P T z)(hzs:z.cells.toList=zs) : EfW P ⟨d,.alloc T,ty,pos,af,g⟩ n e w (IsNew w T zs):=fun a _=>Xnj hz hzs
theorem Xwb{T:TypeId}{x:Operand}{v:Value}{zs:List Value}(hf:Fr a n e)(hx:ev e x=some v)(hzs:v.cells.toList=zs) : Ef P ⟨d,.box T x,ty,pos,af,g⟩ a w (IsNew w T zs):=by
 subst hzs
 have h:(execOp a.eval ⟨d,.box T x,ty,pos,af,g⟩).run P w=.ok (.value (.pointer (some ⟨w.heap.size,0,none⟩))) (w.alloc (.cells v.cells T)):=by
  simp [execOp,Instr.box,Xb6,hf.ev hx]
 refine (Ef.of_run h).mono fun v' w' ⟨e1,e2⟩=>?_
 subst e1;subst e2
 have:=X8w w T v.cells.toList
 simpa using this
theorem X0m{T:TypeId}{x:Operand}{v:Value}{zs:List Value}(hx:ev e x=some v)(hzs:v.cells.toList=zs) : EfW P ⟨d,.box T x,ty,pos,af,g⟩ n e w (IsNew w T zs):=fun a hf=>Xwb hf hx hzs
def splice(l:List Value)(k:Nat)(vs:List Value) : List Value:=l.take k++vs++l.drop (k+vs.length)
def one:Value->Bool
 | .agg _=>false
 | .tuple _=>false
 | _=>true
theorem Xee(w:World)(b k:Nat)(v:Value) : Only b w (w.setCell ⟨b,k,none⟩ v):=
 ⟨rfl,rfl,rfl,by simp [World.setCell],fun i hi=>Below.heap_setCell _ _ _ _ hi⟩
theorem Xfc{T:TypeId}{l:List Value}{b:Nat}(h:Blk w b T l)(k:Nat)(v:Value) : Blk (w.setCell ⟨b,k,none⟩ v) b T (l.set k v):=by
 unfold Blk at h ⊢
 simp [World.setCell,Array.getElem?_modify,h]
theorem X5g{b off:Nat}{T:TypeId} : ∀ (vs:List Value) (w:World) (l:List Value) (i:Nat),Blk w b T l->off+i+vs.length<=l.length->vs.all one=true->
  ∃ w',(storeCells ⟨b,off,none⟩ vs i).run P w=.ok () w'/\Only b w w'/\Blk w' b T (splice l (off+i) vs)
 | [],w,l,i,hb,_,_=>⟨w,by simp [storeCells],Only.refl _ _,by simpa [splice] using hb⟩
 | v::vs,w,l,i,hb,hl,h1=>by
  simp only [List.all_cons,Qd,Qs] at h1 hl
  have hc:w.cell? ⟨b,off+i,none⟩=some (l[off+i]'Z):=by rw [hb.cell];exact Qc Z
  have hfz:w.frozen? ⟨b,off+i,none⟩=false:=by
   have:=hb
   unfold Blk at this
   simp [World.frozen?,this]
  obtain ⟨w',hr,ho,hb'⟩:=X5g (off:=off) vs (w.setCell ⟨b,off+i,none⟩ v) (l.set (off+i) v) (i+1) (Xfc hb _ _) (by rw [List.length_set];omega) h1.2
  refine ⟨w',?_,(Xee w b _ v).trans ho,?_⟩
  ·have h0:(store (⟨b,off+i,none⟩ : Addr) v).run P w=.ok () (w.setCell ⟨b,off+i,none⟩ v):=by
    have h2:=h1.1
    unfold one at h2
    split at h2
    ·cases h2
    ·cases h2
    ·rename_i hx1 hx2
     cases v<;>simp_all [store,Sem.run]
   simp only [storeCells,X1w]
   simp [h0,hr]
  ·have:splice (l.set (off+i) v) (off+(i+1)) vs=splice l (off+i) (v::vs):=by
    unfold splice
    have e1:off+(i+1)=off+i+1:=by omega
    rw [e1,Wf (by rw [List.length_set];omega),List.take_set_of_le Z,List.getElem_set_self,List.drop_set_of_lt Z]
    simp only [Qs,Qx,Wa,List.nil_append]
    rw [show off+i+1+vs.length=off+i+(vs.length+1) from by omega]
   rw [this] at hb'
   exact hb'
def Stored(w:World)(b:Nat)(T:TypeId)(l:List Value)(_:Value)(w':World) : Prop:=Only b w w'/\Blk w' b T l
theorem Xfi{t T:TypeId}{x y:Operand}{b off k:Nat}{v:Value}{l l' vs:List Value}(hf:Fr a n e)(hx:ev e x=some (.pointer (some ⟨b,off,none⟩)))(hy:ev e y=some v)
  (hs:SizeT P t k) (hb:Blk w b T l) (hvs:v.cells.toList=vs) (hk:Nat.beq vs.length k=true) (h1:vs.all one=true) (hl:Nat.ble (off+k) l.length=true) (hl':splice l off vs=l') :
  Ef P ⟨d,.store t x y,ty,pos,af,g⟩ a w (Stored w b T l'):=by
 subst hl'
 have hk':vs.length=k:=Nat.eq_of_beq_eq_true hk
 have hll:off+k<=l.length:=Nat.le_of_ble_eq_true hl
 obtain ⟨w',hr,ho,hb'⟩:=X5g (P:=P) (b:=b) (off:=off) (T:=T) vs w l 0 hb Z h1
 refine (Ef.of_skip (w':=w') ?_).mono fun v w1 ⟨_,e2⟩=>by subst e2;exact ⟨ho,by simpa using hb'⟩
 have hc:v.cells.size=k:=by rw [<- hk',<- hvs];simp
 simp [execOp,Instr.storeAt,Instr.sureAddr,hf.ev hx,hf.ev hy,storeVar,run_sizeOf' hs,hc,hvs,hr]
theorem X4o{t T:TypeId}{x y:Operand}{b off k:Nat}{v:Value}{l l' vs:List Value}(hx:ev e x=some (.pointer (some ⟨b,off,none⟩)))(hy:ev e y=some v)(hs:SizeT P t k)(hb:Blk w b T l)(hvs:v.cells.toList=vs)(hk:Nat.beq vs.length k=true)(h1:vs.all one=true)(hl:Nat.ble (off+k) l.length=true)(hl':splice l off vs=l') : EfW P ⟨d,.store t x y,ty,pos,af,g⟩ n e w (Stored w b T l'):=fun a hf=>Xfi hf hx hy hs hb hvs hk h1 hl hl'
def Ret(P:Program)(f:FuncId)(args:List Value)(w:World)(R:Value->World->Prop) : Prop:=Calls P f args.toArray w fun e w'=>∃ v,e=.returned v/\R v w'
theorem Ret.mono{f:FuncId}{args:List Value}{R R':Value->World->Prop}(h:Ret P f args w R)(hr:∀ v w',R v w'->R' v w') : Ret P f args w R':=
 Calls.mono h fun _ _ ⟨v,he,hR⟩=>⟨v,he,hr _ _ hR⟩
theorem X4w{f:FuncId}(hF:FuncF P f)(args:Array Value)(w:World) : (callFunc f args).run P w=.ok (.enter f args) w:=by
 obtain ⟨fn,h1,h2,h3⟩:=hF
 have h2' : ¬ fn.name = "runtime.NumGoroutine" := by simpa using h2
 have h3':¬ fn.body=none:=by intro hb;rw [hb] at h3;cases h3
 simp [callFunc,h1,h2',h3']
theorem Xrm{f:FuncId}{xs:List Operand}{vs:List Value}{ts:Array TypeId}{R:Value->World->Prop}(hf:Fr a n e)(hx:evs e xs=some vs)(hF:FuncF P f)(h:Ret P f vs w R) :
  Ef P ⟨d,.call ⟨.value (.func f),xs.toArray,ts⟩,ty,pos,af,g⟩ a w R:=by
 have hm:=hf.evs hx
 unfold Ef
 have hr:(execOp a.eval ⟨d,.call ⟨.value (.func f),xs.toArray,ts⟩,ty,pos,af,g⟩).run P w=.ok (.enter f vs.toArray) w:=by
  simp [execOp,resolve,Act.eval,Deferred.ofValue,invoke,hm,X4w hF]
 rw [hr]
 exact h
theorem X23{f:FuncId}{xs:List Operand}{vs:List Value}{ts:Array TypeId}{R:Value->World->Prop}(hx:evs e xs=some vs)(hF:FuncF P f)(h:Ret P f vs w R) : EfW P ⟨d,.call ⟨.value (.func f),xs.toArray,ts⟩,ty,pos,af,g⟩ n e w R:=fun a hf=>Xrm hf hx hF h
theorem Xnl{f:FuncId}{x:Operand}{xs:List Operand}{vs cs:List Value}{ts:Array TypeId}{R:Value->World->Prop}(hf:Fr a n e)(hv:ev e x=some (.func (.func f) #[] cs.toArray))(hx:evs e xs=some vs)(hF:FuncF P f)(h:Ret P f (vs++cs) w R) :
  Ef P ⟨d,.call ⟨.value x,xs.toArray,ts⟩,ty,pos,af,g⟩ a w R:=by
 have hm:=hf.evs hx
 have hv':=hf.ev hv
 unfold Ef
 have hr:(execOp a.eval ⟨d,.call ⟨.value x,xs.toArray,ts⟩,ty,pos,af,g⟩).run P w=.ok (.enter f (vs++cs).toArray) w:=by
  simp [execOp,resolve,hv',Deferred.ofValue,invoke,hm,X4w hF]
 rw [hr]
 exact h
theorem X6p{f:FuncId}{x:Operand}{xs:List Operand}{vs cs:List Value}{ts:Array TypeId}{R:Value->World->Prop}(hv:ev e x=some (.func (.func f) #[] cs.toArray))(hx:evs e xs=some vs)(hF:FuncF P f)(h:Ret P f (vs++cs) w R) : EfW P ⟨d,.call ⟨.value x,xs.toArray,ts⟩,ty,pos,af,g⟩ n e w R:=fun a hf=>Xnl hf hv hx hF h
end
section
variable {α : Type}
def Rd(w:World)(B:Nat)(E:TypeId)(enc:α->List Value)(A:Option Addr)(l:List α) : Prop:=
 l≠[]->∃ b off cs fz,A=some ⟨b,off,none⟩/\b<B/\w.heap[b]? = some (.cells cs E fz)/\∀ j v,(l.flatMap enc)[j]? = some v->cs[off+j]? = some v
theorem Rd.nil(w:World)(B:Nat)(E:TypeId)(enc:α->List Value)(A:Option Addr) : Rd w B E enc A []:=fun h=>absurd rfl h
theorem Rd.chg{w w':World}{B:Nat}{E:TypeId}{enc:α->List Value}{A:Option Addr}{l:List α}(h:Rd w B E enc A l)(hk:∀ b cs fz,b<B->w.heap[b]? = some (.cells cs E fz)->w'.heap[b]? = w.heap[b]?) : Rd w' B E enc A l:=by grind [Rd]
theorem Rd.more{w:World}{B B':Nat}{E:TypeId}{enc:α->List Value}{A:Option Addr}{l:List α}(h:Rd w B E enc A l)(hB:B<=B') : Rd w B' E enc A l:=by grind [Rd]
theorem Rd.bw{w w':World}{B:Nat}{E:TypeId}{enc:α->List Value}{A:Option Addr}{l:List α}(h:Rd w B E enc A l)(hb:Below w.heap.size w w') : Rd w' B E enc A l:=
 h.chg fun b _ _ _ hh=>hb.block b (by
  rcases W4 b w.heap.size with h'|h'
  ·exact h'
  ·rw [We h'] at hh;cases hh)
theorem Rd.bx{w w':World}{B:Nat}{E:TypeId}{enc:α->List Value}{A:Option Addr}{l:List α}(h:Rd w B E enc A l)(hb:Below B w w') : Rd w' B E enc A l:=
 h.chg fun b _ _ hB _=>hb.block b hB
theorem Rd.oy{w w':World}{B b:Nat}{E:TypeId}{enc:α->List Value}{A:Option Addr}{l:List α}(h:Rd w B E enc A l)(ho:Only b w w')(hB:B<=b) : Rd w' B E enc A l:=
 h.chg fun k _ _ hk _=>ho.block k Z
theorem Rd.oT{w w':World}{B b:Nat}{E T:TypeId}{lc:List Value}{enc:α->List Value}{A:Option Addr}{l:List α}(h:Rd w B E enc A l)(ho:Only b w w')(hb:Blk w b T lc)(hT:Nat.beq E T=false) : Rd w' B E enc A l:=
 h.chg fun k cs fz _ hh=>ho.block k (by
  rintro rfl
  unfold Blk at hb
  rw [hh] at hb
  injection hb with hb
  injection hb with _ e _
  subst e
  simp at hT)
theorem Rd.drew{w:World}{B:Nat}{E:TypeId}{enc:α->List Value}{A:Option Addr}{l:List α}(h:Rd w B E enc A l) : Rd w.drew B E enc A l:=h
theorem X4s{enc:α->List Value}{sz:Nat}(hsz:∀ x,(enc x).length=sz) : ∀ (l:List α) (k:Nat) (x:α),l[k]? = some x->∀ j v,(enc x)[j]? = some v->(l.flatMap enc)[k*sz+j]? = some v
 | [],k,x,h=>by simp at h
 | y::l,0,x,h=>by
  intro j v hj
  obtain rfl:y=x:=by simpa using h
  simp only [Wc,Nat.zero_mul,Nat.zero_add]
  rw [List.getElem?_append_left (Qg.1 hj).1]
  exact hj
 | y::l,k+1,x,h=>by
  intro j v hj
  simp only [Wc]
  have h1:(k+1)*sz+j=sz+(k*sz+j):=by rw [Wb];omega
  rw [h1,W5 (by rw [hsz];omega),hsz,Nat.add_sub_cancel_left]
  exact X4s hsz l k x (by simpa using h) j v hj
theorem X0h{enc:α->List Value}{sz:Nat}(hsz:∀ x,(enc x).length=sz)(l:List α) : (l.flatMap enc).length=l.length*sz:=by
 induction l with
 | nil=>simp
 | cons x l ih=>simp only [Wc,Qh,hsz,ih,Qs,Wb];omega
theorem Rd.at{w:World}{B:Nat}{E:TypeId}{enc:α->List Value}{A:Option Addr}{l:List α}{sz:Nat}(hsz:∀ x,(enc x).length=sz)(h:Rd w B E enc A l){k:Nat}{x:α}(hk:l[k]? = some x) :
  ∃ p,A=some p/\At w (p.add (k*sz)) (enc x):=by
 have hl:l≠[]:=by rintro rfl;simp at hk
 obtain ⟨b,off,cs,fz,rfl,h2,h3,h4⟩:=h hl
 refine ⟨_,O,fun j v hj=>?_⟩
 rw [X1w,X1w]
 have:=h4 _ _ (X4s hsz l k x hk j v hj)
 simp only [World.cell?,h3]
 rw [Nat.add_assoc]
 simpa using this
theorem Rd.of_blk{w:World}{b:Nat}{E:TypeId}{enc:α->List Value}{l:List α}{cs:List Value}(h:Blk w b E cs)(hcs:l.flatMap enc=cs)(B:Nat)(hB:b<B) : Rd w B E enc (some ⟨b,0,none⟩) l:=by grind [Blk,Rd]
def Own(w:World)(B0:Nat)(E:TypeId)(sz:Nat)(enc:α->List Value)(A:Option Addr)(c:Nat)(l:List α) : Prop:=w.ownsRow B0 E sz (.slice A l.length c) l.length (l.flatMap enc)
theorem Own.rd{w:World}{B0:Nat}{E:TypeId}{sz:Nat}{enc:α->List Value}{A:Option Addr}{c:Nat}{l:List α}(h:Own w B0 E sz enc A c l) : Rd w w.heap.size E enc A l:=fun hl=>by
 rcases h.2 with ⟨h1,h2⟩|⟨g,cap,cur,h1,h2,h3,h4,h5,h6,h7⟩
 ·exact absurd (List.eq_nil_of_length_eq_zero h2) hl
 ·injection h1 with h1
  refine ⟨g,0,cur,_,h1,(Qp.1 h3).1,h3,fun j v hj=>?_⟩
  rw [<- h7,List.getElem?_take] at hj
  split at hj
  ·simpa using hj
  ·cases hj
theorem Own.nil(w:World)(B0:Nat)(E:TypeId)(sz:Nat)(enc:α->List Value) : Own w B0 E sz enc none 0 []:=⟨by simp,.inl ⟨rfl,rfl⟩⟩
theorem Own.empty{w:World}{B0 b:Nat}{E:TypeId}{sz:Nat}{enc:α->List Value}(h:Blk w b E [])(hb:B0<=b) : Own w B0 E sz enc (some ⟨b,0,none⟩) 0 ([] : List α):=
 ⟨by simp,.inr ⟨b,0,#[],rfl,hb,h,Qb _,by simp [maxLen],by simp,by simp⟩⟩
theorem Own.of_blk{w:World}{B0 b:Nat}{E:TypeId}{sz:Nat}{enc:α->List Value}{l:List α}{cs:List Value}(h:Blk w b E cs)(hb:B0<=b)(hcs:l.flatMap enc=cs)(hsz:∀ x,(enc x).length=sz)(hm:l.length<=maxLen) : Own w B0 E sz enc (some ⟨b,0,none⟩) l.length l:=by
 subst hcs
 have hl:=X0h hsz l;exact ⟨hl,.inr ⟨b,l.length,_,O,hb,h,Qb _,hm,by simpa using hl,by simp only [List.toList_toArray];rw [<- hl];exact List.take_length⟩⟩
theorem Own.bw{w w':World}{B0:Nat}{E:TypeId}{sz:Nat}{enc:α->List Value}{A:Option Addr}{c:Nat}{l:List α}(h:Own w B0 E sz enc A c l)(hb:Below w.heap.size w w') : Own w' B0 E sz enc A c l:=by
 refine ⟨h.1,?_⟩
 rcases h.2 with h1|⟨g,cap,cur,h1,h2,h3,h4⟩
 ·exact .inl h1
 ·exact .inr ⟨g,cap,cur,h1,h2,(hb.block g (Qp.1 h3).1).trans h3,h4⟩
theorem Own.oT{w w':World}{B0 b:Nat}{E T:TypeId}{lc:List Value}{sz:Nat}{enc:α->List Value}{A:Option Addr}{c:Nat}{l:List α}(h:Own w B0 E sz enc A c l)(ho:Only b w w')(hb:Blk w b T lc)(hT:Nat.beq E T=false) : Own w' B0 E sz enc A c l:=by
 refine ⟨h.1,?_⟩
 rcases h.2 with h1|⟨g,cap,cur,h1,h2,h3,h4⟩
 ·exact .inl h1
 ·refine .inr ⟨g,cap,cur,h1,h2,(ho.block g ?_).trans h3,h4⟩
  rintro rfl
  unfold Blk at hb
  rw [h3] at hb
  injection hb with hb
  injection hb with _ e _
  subst e
  simp at hT
theorem Own.drew{w:World}{B0:Nat}{E:TypeId}{sz:Nat}{enc:α->List Value}{A:Option Addr}{c:Nat}{l:List α}(h:Own w B0 E sz enc A c l) : Own w.drew B0 E sz enc A c l:=h
theorem Own.block{w:World}{B0:Nat}{E:TypeId}{sz:Nat}{enc:α->List Value}{A:Option Addr}{c:Nat}{l:List α}(h:Own w B0 E sz enc A c l){k:Nat}(hk:(Value.slice A l.length c).ownBlock=some k) : B0<=k/\k<w.heap.size/\∃ cs fz,w.heap[k]? = some (.cells cs E fz):=by
 rcases h.2 with ⟨h1,_⟩|⟨g,cap,cur,h1,h2,h3,_⟩
 ·rw [h1] at hk;simp [Value.ownBlock] at hk
 ·rw [h1] at hk
  simp [Value.ownBlock] at hk
  subst hk
  exact ⟨h2,(Qp.1 h3).1,_,_,h3⟩
def Away(A:Option Addr)(b:Nat) : Prop:=∀ p,A=some p->p.block≠b
def AwayR(l:List α)(A:Option Addr)(b:Nat) : Prop:=l≠[]->Away A b
theorem Away.ne{g off b:Nat}(h:b≠g) : Away (some ⟨g,off,none⟩) b:=by grind [Away]
theorem Rd.away{w:World}{B b:Nat}{E:TypeId}{enc:α->List Value}{A:Option Addr}{l:List α}(h:Rd w B E enc A l)(hl:w.heap.size<=b) : AwayR l A b:=fun hne p hp=>by
 obtain ⟨g,off,cs,fz,h1,h2,h3,h4⟩:=h hne
 rw [hp] at h1
 injection h1 with h1
 subst h1
 have:=(Qp.1 h3).1
 intro e
 simp only at e
 omega
theorem Own.away{w:World}{B0 b:Nat}{E:TypeId}{sz:Nat}{enc:α->List Value}{A:Option Addr}{c:Nat}{l:List α}(h:Own w B0 E sz enc A c l)(hl:w.heap.size<=b) : Away A b:=fun p hp=>by
 rcases h.2 with ⟨h1,_⟩|⟨g,cap,cur,h1,h2,h3,_⟩
 ·injection h1 with h1;rw [h1] at hp;cases hp
 ·injection h1 with h1
  rw [h1] at hp
  injection hp with hp
  subst hp
  have:=(Qp.1 h3).1
  intro e
  simp only at e
  omega
theorem Own.awayNew{w:World}{B0 b:Nat}{E:TypeId}{sz:Nat}{enc:α->List Value}{A:Option Addr}{c:Nat}{l:List α}(h:Own w B0 E sz enc A c l)(hl:b<B0) : Away A b:=fun p hp=>by
 rcases h.2 with ⟨h1,_⟩|⟨g,cap,cur,h1,h2,h3,_⟩
 ·injection h1 with h1;rw [h1] at hp;cases hp
 ·injection h1 with h1
  rw [h1] at hp
  injection hp with hp
  subst hp
  intro e
  simp only at e
  omega
theorem Away.r{l:List α}{A:Option Addr}{b:Nat}(h:Away A b) : AwayR l A b:=fun _=>h
theorem Rd.onlyA{w w':World}{B b:Nat}{E:TypeId}{enc:α->List Value}{A:Option Addr}{l:List α}(h:Rd w B E enc A l)(ho:Only b w w')(ha:AwayR l A b) : Rd w' B E enc A l:=fun hne=>by
 obtain ⟨g,off,cs,fz,h1,h2,h3,h4⟩:=h hne;exact ⟨g,off,cs,fz,h1,h2,(ho.block g (ha hne _ h1)).trans h3,h4⟩
theorem Own.onlyA{w w':World}{B0 b:Nat}{E:TypeId}{sz:Nat}{enc:α->List Value}{A:Option Addr}{c:Nat}{l:List α}(h:Own w B0 E sz enc A c l)(ho:Only b w w')(ha:Away A b) : Own w' B0 E sz enc A c l:=by
 refine ⟨h.1,?_⟩
 rcases h.2 with h1|⟨g,cap,cur,h1,h2,h3,h4⟩
 ·exact .inl h1
 ·injection h1 with h1 h1' h1''
  exact .inr ⟨g,cap,cur,by rw [h1,h1''],h2,(ho.block g (ha _ h1)).trans h3,h4⟩
def Appended(w:World)(B0:Nat)(E:TypeId)(sz:Nat)(enc:α->List Value)(A:Option Addr)(c:Nat)(l l2:List α)(v:Value)(w':World) : Prop:=
 ∃ A' c',v=.slice A' (l++l2).length c'/\Own w' B0 E sz enc A' c' (l++l2)/\w.grownBy w' (Value.slice A l.length c).ownBlock/\∀ b,b<w.heap.size->Away A b->Away A' b
theorem Blk.appT{w w':World}{b:Nat}{T:TypeId}{lc:List Value}{B0:Nat}{E:TypeId}{sz:Nat}{enc:α->List Value}{A:Option Addr}{c:Nat}{l:List α}(h:Blk w b T lc)(ho:Own w B0 E sz enc A c l)(hg:w.grownBy w' (Value.slice A l.length c).ownBlock)(hT:Nat.beq E T=false) : Blk w' b T lc:=by
 refine (hg.block b h.lt fun hk=>?_).trans h
 obtain ⟨_,_,cs,fz,h3⟩:=ho.block hk.symm
 unfold Blk at h
 rw [h3] at h
 injection h with h
 injection h with _ e _
 subst e
 simp at hT
theorem Blk.appB{w w':World}{b:Nat}{T:TypeId}{lc:List Value}{B0:Nat}{E:TypeId}{sz:Nat}{enc:α->List Value}{A:Option Addr}{c:Nat}{l:List α}(h:Blk w b T lc)(ho:Own w B0 E sz enc A c l)(hg:w.grownBy w' (Value.slice A l.length c).ownBlock)(hb:b<B0) : Blk w' b T lc:=
 (hg.block b h.lt fun hk=>by have:=(ho.block hk.symm).1;omega).trans h
theorem Blk.appA{w w':World}{b:Nat}{T:TypeId}{lc:List Value}{A:Option Addr}{n c:Nat}(h:Blk w b T lc)(hg:w.grownBy w' (Value.slice A n c).ownBlock)(ha:Away A b) : Blk w' b T lc:=by
 refine (hg.block b h.lt fun hk=>?_).trans h
 cases A with
 | none=>simp [Value.ownBlock] at hk
 | some q=>
  simp only [Value.ownBlock,Option.some.injEq] at hk
  exact ha q O hk.symm
theorem Rd.appT{β:Type}{w w':World}{B:Nat}{E':TypeId}{enc':β->List Value}{A':Option Addr}{l':List β}{B0:Nat}{E:TypeId}{sz:Nat}{enc:α->List Value}{A:Option Addr}{c:Nat}{l:List α}(h:Rd w B E' enc' A' l')(ho:Own w B0 E sz enc A c l)(hg:w.grownBy w' (Value.slice A l.length c).ownBlock)(hT:Nat.beq E E'=false) : Rd w' B E' enc' A' l':=
 h.chg fun k cs fz _ hh=>hg.block k (Qp.1 hh).1 fun hk=>by
  obtain ⟨_,_,cs',fz',h3⟩:=ho.block hk.symm
  rw [h3] at hh
  injection hh with hh
  injection hh with _ e _
  subst e
  simp at hT
theorem Rd.appB{β:Type}{w w':World}{B:Nat}{E':TypeId}{enc':β->List Value}{A':Option Addr}{l':List β}{B0:Nat}{E:TypeId}{sz:Nat}{enc:α->List Value}{A:Option Addr}{c:Nat}{l:List α}(h:Rd w B E' enc' A' l')(ho:Own w B0 E sz enc A c l)(hg:w.grownBy w' (Value.slice A l.length c).ownBlock)(hB:B<=B0) : Rd w' B E' enc' A' l':=
 h.chg fun k cs fz hk hh=>hg.block k (Qp.1 hh).1 fun hk'=>by have:=(ho.block hk'.symm).1;omega
theorem Own.appT{β:Type}{w w':World}{B1:Nat}{E':TypeId}{sz':Nat}{enc':β->List Value}{A':Option Addr}{c':Nat}{l':List β}{B0:Nat}{E:TypeId}{sz:Nat}{enc:α->List Value}{A:Option Addr}{c:Nat}{l:List α}(h:Own w B1 E' sz' enc' A' c' l')(ho:Own w B0 E sz enc A c l)(hg:w.grownBy w' (Value.slice A l.length c).ownBlock)(hT:Nat.beq E E'=false) : Own w' B1 E' sz' enc' A' c' l':=by
 refine ⟨h.1,?_⟩
 rcases h.2 with h1|⟨g,cap,cur,h1,h2,h3,h4⟩
 ·exact .inl h1
 ·refine .inr ⟨g,cap,cur,h1,h2,(hg.block g (Qp.1 h3).1 fun hk=>?_).trans h3,h4⟩
  obtain ⟨_,_,cs',fz',h5⟩:=ho.block hk.symm
  rw [h5] at h3
  injection h3 with h3
  injection h3 with _ e _
  subst e
  simp at hT
theorem Below.app{w0 w w':World}{B B0:Nat}{E:TypeId}{sz:Nat}{enc:α->List Value}{A:Option Addr}{c:Nat}{l:List α}(h:Below B w0 w)(ho:Own w B0 E sz enc A c l)(hg:w.grownBy w' (Value.slice A l.length c).ownBlock)(hB:B<=B0)(hs:B<=w.heap.size) : Below B w0 w':=
 h.grown hg hs fun k hk=>by have:=(ho.block hk).1;omega
def InfoT(P:Program)(E:TypeId)(sz bytes:Nat) : Prop:=∃ i z,P.info? E=some i/\i.zero=some z/\i.size=sz/\i.bytes=bytes/\z.cells.size=sz/\0<sz
section
variable {P : Program} {a : Act} {w : World} {n : Nat} {e : Env} {ty : TypeId} {pos : String} {af : Array Edge} {g : Option (Nat × Bool)} {d : Option Tmp}
theorem Xld{T E:TypeId}{sz bytes B B0:Nat}{x y:Operand}{enc:α->List Value}{A A2:Option Addr}{c c2:Nat}{l l2:List α}(hf:Fr a n e)(hx:ev e x=some (.slice A l.length c))(hy:ev e y=some (.slice A2 l2.length c2))
  (hT:SliceT P T E) (hi:InfoT P E sz bytes) (hsz:∀ x,(enc x).length=sz) (hone:∀ x,(enc x).all one=true) (ho:Own w B0 E sz enc A c l) (hr:Rd w B E enc A2 l2) (h63:l.length+l2.length<=maxLen) (hbytes:(l.length+l2.length)*bytes<=140737488355328) (hB0:B0<=w.heap.size) :
  Ef P ⟨d,.call ⟨.builtin .append,#[x,y],#[T,T]⟩,ty,pos,af,g⟩ a w (Appended w B0 E sz enc A c l l2):=by
 obtain ⟨i,z,hi1,hi2,hi3,hi4,hi5,hi6⟩:=hi
 by_cases hl2:l2=[]
 ·subst hl2
  have hrun:(Builtin.append_ #[T,T] ty #[.slice A l.length c,.slice A2 0 c2]).run P w=.ok (.slice A l.length c) w:=by
   rcases ho.2 with ⟨h1,h2⟩|⟨gg,cap,cur,h1,h2,h3,h4,h5,h6,h7⟩
   ·injection h1 with h1 h1' h1''
    subst h1
    cases A2<;>simp [Builtin.append_,X0t hT,sizeOf,typeInfo,hi1,Builtin.lenOf,Builtin.firstCells,loadCells,loadCellsFrom,h1',h1'']
   ·injection h1 with h1 _ h1''
    subst h1;subst h1''
    cases A2<;>simp [Builtin.append_,X0t hT,sizeOf,typeInfo,hi1,Builtin.lenOf,Builtin.firstCells,loadCells,loadCellsFrom,h4,storeCells]
  refine (Ef.of_run (v:=.slice A l.length c) (w':=w) ?_).mono fun v w' ⟨e1,e2⟩=>?_
  ·simp only [List.length_nil] at hy
   simp [execOp,resolve,invoke,builtin,hf.ev hx,hf.ev hy,hrun]
  ·subst e1;subst e2
   exact ⟨A,c,by simp,by simpa using ho,World.grownBy.refl w' _,fun _ _ h=>h⟩
 ·obtain ⟨b,off,cs,fz,rfl,h2,h3,h4⟩:=hr hl2;obtain ⟨v',w',hrun,hown,hg,_,hat⟩:=run_append_own_at (P:=P) w B0 T ty E i z sz bytes hT hi1 hi2 hi3 hi4 hi5 hi6 (.slice A l.length c) l.length (l.flatMap enc) ho ⟨b,off,none⟩ l2.length c2 (l2.flatMap enc) (X0h hsz l2)
   (fun j u hu=>by
    have:=h4 j u hu
    rw [X1w]
    simp [World.cell?,h3,this])
   (fun u hu=>by
    obtain ⟨x,_,hx⟩:=List.mem_flatMap.1 hu
    have:=W1.1 (hone x) u hx
    cases u<;>simp_all [Value.oneCell',one]) h63 hbytes hB0
  refine (Ef.of_run (v:=v') (w':=w') ?_).mono fun v w1 ⟨e1,e2⟩=>?_
  ·simp [execOp,resolve,invoke,builtin,hf.ev hx,hf.ev hy,hrun]
  ·subst e1;subst e2
   have hv:∃ A' c',v=.slice A' (l++l2).length c':=by
    rcases hown.2 with ⟨h1,h2⟩|⟨gg,cap,cur,h1,_⟩
    ·exact ⟨none,0,by rw [h1,Qh,h2]⟩
    ·exact ⟨_,_,by rw [h1,Qh]⟩
   obtain ⟨A',c',rfl⟩:=hv
   refine ⟨A',c',O,?_,hg,fun b hb ha p hp=>?_⟩
   rotate_left
   ·subst hp
    rcases hat with hat|hat
    ·cases A with
     | none=>simp [Value.ownBlock] at hat
     | some q=>
      simp only [Value.ownBlock,Option.some.injEq] at hat
      rw [hat]
      exact ha q O
    ·simp only [Value.ownBlock,Option.some.injEq] at hat
     rw [hat]
     omega
   unfold Own
   rw [Qh,List.flatMap_append]
   simpa [Qh] using hown
theorem X0i{T E:TypeId}{sz bytes B B0:Nat}{x y:Operand}{enc:α->List Value}{A A2:Option Addr}{c c2:Nat}{l l2:List α}(hx:ev e x=some (.slice A l.length c))(hy:ev e y=some (.slice A2 l2.length c2))(hT:SliceT P T E)(hi:InfoT P E sz bytes)(hsz:∀ x,(enc x).length=sz)(hone:∀ x,(enc x).all one=true)(ho:Own w B0 E sz enc A c l)(hr:Rd w B E enc A2 l2)(h63:l.length+l2.length<=maxLen)(hbytes:(l.length+l2.length)*bytes<=140737488355328)(hB0:B0<=w.heap.size) : EfW P ⟨d,.call ⟨.builtin .append,#[x,y],#[T,T]⟩,ty,pos,af,g⟩ n e w (Appended w B0 E sz enc A c l l2):=fun a hf=>Xld hf hx hy hT hi hsz hone ho hr h63 hbytes hB0
theorem X77{T E:TypeId}{sz:Nat}{x y:Operand}{p:Addr}{c:Nat}{k:Nat}{i:Int}{m:Nat}(hf:Fr a n e)(hx:ev e x=some (.slice (some p) m c))(hy:ev e y=some (.int .i64 i))(hT:SliceT P T E)(hs:SizeT P E sz)
  (hi:i=(k:Int)) (hk:k<m) : Ev P ⟨d,.indexAddr T x y,ty,pos,af,g⟩ a w (.pointer (some (p.add (k*sz)))):=fun w' _=>by
 subst hi
 have h1:=X0t (P:=P) hT w';have h2:=run_sizeOf' hs w'
 have h3:((k:Int)<(m:Int))=True:=by simp;omega
 simp [execOp,Instr.indexAt,asIntOf,hf.ev hx,hf.ev hy,h1,h2,hk]
end
end
section
variable {P : Program} {Q : Exit -> Act -> World -> Prop} {a : Act} {w : World} {n : Nat} {e : Env}
theorem X04{c:Operand}{x y:Code}{b:Bool}(hf:Fr a n e)(hc:ev e c=some (.bool b))(ht:b=true->x.wp P Q a w)(he:b=false->y.wp P Q a w) : (Code.cond c x y).wp P Q a w:=
 wp_cond_split (hf.ev hc) ht he
theorem Xn3{c:Operand}{x y:Code}(hf:Fr a n e)(hc:ev e c=some (.bool true))(ht:x.wp P Q a w) : (Code.cond c x y).wp P Q a w:=wp_cond_true (hf.ev hc) ht
theorem X40{c:Operand}{x y:Code}(hf:Fr a n e)(hc:ev e c=some (.bool false))(ht:y.wp P Q a w) : (Code.cond c x y).wp P Q a w:=wp_cond_false (hf.ev hc) ht
theorem X12{c:Operand}{x y:Code}{p:Prop}[Decidable p](hf:Fr a n e)(hc:ev e c=some (.bool (decide p)))(ht:decide p=true->p->x.wp P Q a w)(he:decide p=false->¬p->y.wp P Q a w) : (Code.cond c x y).wp P Q a w:=
 wp_cond_split (hf.ev hc) (fun h=>ht h (Q2 h)) (fun h=>he h (Q1 h))
theorem X0f{c:Code}(X:Act->World->Prop)(h:c.wp P (Exit.then X Q) a w)(hX:∀ a w,X a w->Q .normal a w) : c.wp P Q a w:=
 Code.wp_mono (fun e a w hq=>by cases e<;>first|exact hX _ _ hq|exact hq) h
theorem X0d{σ:Type}{c:Code}(I:σ->Act->World->Prop)(μ:σ->Nat)(s:σ)(h0:I s a w)
  (round:∀ s a w,I s a w->c.wp P (Exit.then (fun a' w'=>∃ s',I s' a' w'/\μ s'<μ s) Q) a w) : (Code.loop c).wp P Q a w:=by
 intro b k cs
 have key:∀ n s a w,μ s=n->I s a w->∃ e a' w',Q e a' w'/\Arrives P (lone (b.at a (.code c::.inLoop c::k)) cs w) b k cs e a' w':=by
  intro n
  induction n using Nat.strongRecOn with
  | _ n ih=>
   intro s a w hn hI;obtain ⟨e,a₁,w₁,hq,harr⟩:=round s a w hI b (.inLoop c::k) cs
   cases e with
   | normal=>
    obtain ⟨s',hI₁,hlt⟩:=hq;obtain ⟨e₂,a₂,w₂,hq₂,harr₂⟩:=ih (μ s') (hn▸hlt) s' a₁ w₁ O hI₁;exact ⟨e₂,a₂,w₂,hq₂,.of_steps (Steps.trans harr (.one step_inLoop)) harr₂⟩
   | exit id=>exact ⟨_,a₁,w₁,hq,.pass (x:=.inLoop c) rfl (fun _ _=>.inl O5) harr⟩
   | goto l=>exact ⟨_,a₁,w₁,hq,.pass (x:=.inLoop c) rfl (fun _ _=>.inl O5) harr⟩
   | ret=>exact ⟨_,a₁,w₁,hq,.pass (x:=.inLoop c) rfl (fun _ _=>.inl O5) harr⟩
   | panic ch=>exact ⟨_,a₁,w₁,hq,.pass (x:=.inLoop c) rfl (fun _ _=>.inl O5) harr⟩
   | outgrown=>exact ⟨_,a₁,w₁,hq,.pass (x:=.inLoop c) rfl (fun _ _=>.inl O5) harr⟩
 obtain ⟨e,a',w',hq,harr⟩:=key _ s a w O h0;exact ⟨e,a',w',hq,.of_steps (.one step_loop) harr⟩
def evp(e:Env) : List (Nat×Operand)->Option (List (Nat×Value))
 | []=>some []
 | (i,x)::l=>match ev e x,evp e l with
  | some v,some vs=>some ((i,v)::vs)
  | _,_=>none
theorem Fr.evp(hf:Fr a n e) : ∀ {l:List (Nat×Operand)} {vs:List (Nat×Value)},evp e l=some vs->l.map (fun p=>(p.1,a.eval p.2))=vs:=by
 intro l
 induction l with
 | nil=>intro vs h;simpa [YtfkokcbjcndjpaaGreatDoor.evp] using h
 | cons x l ih=>
  obtain ⟨i,x⟩:=x;intro vs h
  simp only [YtfkokcbjcndjpaaGreatDoor.evp] at h
  split at h
  ·rename_i v us h1 h2
   injection h with h
   subst h
   simp [hf.ev h1,ih h2]
  ·cases h
def numb:Nat->List Value->List (Nat×Value)
 | _,[]=>[]
 | k,v::l=>(k,v)::numb (k+1) l
section
variable {ty : TypeId} {pos : String} {af : Array Edge} {g : Option (Nat × Bool)} {d : Option Tmp}
theorem Xnw{T:TypeId}{parts:List (Nat×Operand)}{ps:List (Nat×Value)}{cs:List Value}(hf:Fr a n e)(hp:evp e parts=some ps)(hb:∀ w,(Instr.build T ps.toArray).run P w=.ok (.agg cs.toArray) w) :
  Ev P ⟨d,.build T parts.toArray,ty,pos,af,g⟩ a w (.agg cs.toArray):=fun w' _=>by
 have h1:=hf.evp hp;have h2:=hb w'
 simp only [execOp,List.map_toArray]
 rw [show (List.map (fun x:Nat×Operand=>match x with|(i,x)=>(i,a.eval x)) parts)=ps from h1]
 simp [h2]
theorem Xi{T:TypeId}{parts:List (Nat×Operand)}{ps:List (Nat×Value)}{cs:List Value}(hp:evp e parts=some ps)(hb:∀ w,(Instr.build T ps.toArray).run P w=.ok (.agg cs.toArray) w) : EvW P ⟨d,.build T parts.toArray,ty,pos,af,g⟩ n e w (.agg cs.toArray):=fun a hf=>Xnw hf hp hb
theorem Xcb(off:Nat) : ∀ (l:List Value) (m:Nat) (cs:Array Value),off+m+l.length<=cs.size->((l.zipIdx m).foldl (fun cs p=>cs.setIfInBounds (off+p.2) p.1) cs).toList=splice cs.toList (off+m) l
 | [],m,cs,_=>by simp [splice]
 | v::l,m,cs,h=>by
  simp only [Qs] at h
  simp only [List.zipIdx_cons,List.foldl_cons]
  rw [Xcb off l (m+1) _ O3]
  unfold splice
  have e1:off+(m+1)=off+m+1:=by omega
  rw [e1,Array.toList_setIfInBounds,Wf O3,List.take_set_of_le Z,List.getElem_set_self,List.drop_set_of_lt Z]
  simp only [Qs,Qx,Wa,List.nil_append]
  rw [show off+m+1+l.length=off+m+(l.length+1) from by omega]
theorem Xc7(sz:Nat) : ∀ (vs:List Value) (k:Nat) (cells:Array Value),(∀ v ∈ vs,v.cells.size=sz)->cells.size=(k+vs.length)*sz->
  Instr.fill (fun i=>some (i*sz,sz)) cells (numb k vs)=some (cells.toList.take (k*sz)++vs.flatMap fun v=>v.cells.toList).toArray
 | [],k,cells,_,h=>by
  simp only [List.length_nil,Nat.add_zero] at h
  have h9:cells.toList.take (k*sz)=cells.toList:=Qi (by simp [h])
  simp [numb,Instr.fill,h9]
 | v::vs,k,cells,h1,h=>by
  have hv:=h1 v O5
  simp only [Qs] at h
  have h2:k*sz+sz<=cells.size:=by rw [h,Wb,Wb];omega
  simp only [numb,Instr.fill,hv]
  rw [Q3 O3]
  have e1:(v.cells.zipIdx.foldl (fun cs (p:Value×Nat)=>cs.setIfInBounds (k*sz+p.2) p.1) cells).toList=splice cells.toList (k*sz) v.cells.toList:=by
   have:=Xcb (k*sz) v.cells.toList 0 cells (by simp [hv];omega)
   rw [<- Array.foldl_toList,Array.toList_zipIdx]
   simpa using this
  have hs:(v.cells.zipIdx.foldl (fun cs (p:Value×Nat)=>cs.setIfInBounds (k*sz+p.2) p.1) cells).size=cells.size:=by
   rw [<- Array.length_toList,e1]
   simp [splice,hv]
   omega
  have ih:=Xc7 sz vs (k+1) (v.cells.zipIdx.foldl (fun cs (p:Value×Nat)=>cs.setIfInBounds (k*sz+p.2) p.1) cells) (fun u hu=>h1 u (by simp [hu])) (by rw [hs,h];congr 1;omega)
  refine Eq.trans ih ?_
  rw [e1]
  congr 2
  simp only [Wc]
  rw [<- Qx]
  congr 1
  unfold splice
  have e2:(cells.toList.take (k*sz)++v.cells.toList).length=(k+1)*sz:=by simp [hv,Wb];omega
  rw [<- e2,List.take_left]
theorem Xbk{T E sz bytes:Nat}{k:Nat}{parts:List (Nat×Operand)}{vs zs:List Value}(hf:Fr a n e)(hp:evp e parts=some (numb 0 vs))(hT:SliceT P T E)(hi:InfoT P E sz bytes)(hv:(vs.all (fun v=>Nat.beq v.cells.size sz)&&Nat.beq vs.length k&&Nat.ble (k*sz) 1000)=true)(hz:vs.flatMap (fun v=>v.cells.toList)=zs) :
  Ef P ⟨d,.buildSlice T k parts.toArray,ty,pos,af,g⟩ a w (fun v w'=>∃ b,v=.slice (some ⟨b,0,none⟩) k k/\w.heap.size<=b/\Below w.heap.size w w'/\Blk w' b E zs):=by
 subst hz
 obtain ⟨i,z,hi1,hi2,hi3,hi4,hi5,hi6⟩:=hi
 simp only [Qd,W1] at hv
 obtain ⟨⟨hv1,hv2⟩,hv3⟩:=hv
 have hk:vs.length=k:=Nat.eq_of_beq_eq_true hv2
 have hk3:k*sz<=1000:=Nat.le_of_ble_eq_true hv3
 have h1:=hf.evp hp
 have hfill:=Xc7 sz vs 0 ((Array.range (k*sz)).map fun j=>z.cells[j % z.cells.size]!) (fun v hv=>Nat.eq_of_beq_eq_true (hv1 v hv)) (by simp [hk])
 simp only [Nat.zero_mul,List.take_zero,List.nil_append] at hfill
 refine (Ef.of_run (v:=.slice (some ⟨w.heap.size,0,none⟩) k k) (w':=w.alloc (.cells (vs.flatMap fun v=>v.cells.toList).toArray E)) ?_).mono fun v w' ⟨e1,e2⟩=>?_
 ·simp only [execOp,List.map_toArray]
  rw [show (List.map (fun x:Nat×Operand=>match x with|(i,x)=>(i,a.eval x)) parts)=numb 0 vs from h1]
  have h24:¬ (16777216<k*sz):=by omega
  by_cases h0:k*sz=0
  ·have hf0:Instr.fill (fun i=>some (i*sz,sz)) #[] (numb 0 vs)=some (vs.flatMap fun v=>v.cells.toList).toArray:=by
    rw [<- hfill,h0]
    congr 1
    simp [Array.range_zero']
   simp [Instr.buildSlice,X0t hT,sizeOf,typeInfo,hi1,hi3,h0,newRow,newObj,Sem.run,Array.range_zero',hf0]
  ·simp [Instr.buildSlice,X0t hT,sizeOf,typeInfo,hi1,hi3,h24,h0,zeroValue,hi2,newRow,newObj,Sem.run,hfill]
 ·subst e1;subst e2
  exact ⟨_,O,Qb _,(Below.refl _ _).alloc (Qb _) _,X82 w E _⟩
theorem X2{T E sz bytes:Nat}{k:Nat}{parts:List (Nat×Operand)}{vs zs:List Value}(hp:evp e parts=some (numb 0 vs))(hT:SliceT P T E)(hi:InfoT P E sz bytes)(hv:(vs.all (fun v=>Nat.beq v.cells.size sz)&&Nat.beq vs.length k&&Nat.ble (k*sz) 1000)=true)(hz:vs.flatMap (fun v=>v.cells.toList)=zs) : EfW P ⟨d,.buildSlice T k parts.toArray,ty,pos,af,g⟩ n e w (fun v w'=>∃ b,v=.slice (some ⟨b,0,none⟩) k k/\w.heap.size<=b/\Below w.heap.size w w'/\Blk w' b E zs):=fun a hf=>Xbk hf hp hT hi hv hz
theorem Xwj{x y:Operand}{i j:Int}{ts:Array TypeId}(hf:Fr a n e)(hx:ev e x=some (.int .i64 i))(hy:ev e y=some (.int .i64 j)) : Ev P ⟨d,.call ⟨.builtin .max,#[x,y],ts⟩,ty,pos,af,g⟩ a w (.int .i64 (max i j)):=fun w' _=>by
 simp [execOp,resolve,invoke,builtin,Builtin.max_,Builtin.max2,hf.ev hx,hf.ev hy,Int.max_def]
 split<;>simp<;>omega
theorem Y0q{x y:Operand}{i j:Int}{ts:Array TypeId}(hx:ev e x=some (.int .i64 i))(hy:ev e y=some (.int .i64 j)) : EvW P ⟨d,.call ⟨.builtin .max,#[x,y],ts⟩,ty,pos,af,g⟩ n e w (.int .i64 (max i j)):=fun a hf=>Xwj hf hx hy
end
theorem X1{t:Nat}{e:Env}{b b':Bool}(h:look t e=some (.bool b))(hb:b=b') : look t e=some (.bool b'):=hb▸h
theorem Xj{α:Type}{l:List α}{k:Nat}(h:k<l.length) : ∃ u,l[k]? = some u:=⟨l[k],Qc h⟩
section
variable {α : Type} {ops : Array Oper} {rest : List Oper} {ty : TypeId} {pos : String} {af : Array Edge} {g : Option (Nat × Bool)} {d : Nat}
theorem Rd.top{B:Nat}{E:TypeId}{enc:α->List Value}{A:Option Addr}{l:List α}(h:Rd w B E enc A l) : Rd w w.heap.size E enc A l:=fun hl=>by
 obtain ⟨b,off,cs,fz,h1,h2,h3,h4⟩:=h hl;exact ⟨b,off,cs,fz,h1,(Qp.1 h3).1,h3,h4⟩
theorem Xti{T E E2:TypeId}{sz B:Nat}{x y:Operand}{enc:α->List Value}{A:Option Addr}{c:Nat}{l:List α}{k:Nat}{i:Int}{u:α}(hf:Fr a n e)(hw:Want ops ⟨some d,.indexAddr T x y,ty,pos,af,g⟩ e)(hn:Nat.blt d n=true)
  (hx:ev e x=some (.slice A l.length c)) (hy:ev e y=some (.int .i64 i)) (hT:SliceT P T E) (hs:SizeT P E sz) (hsz:∀ x,(enc x).length=sz) (hr:Rd w B E2 enc A l) (hk:l[k]? = some u) (hi:i=(k:Int))
  (h:∀ a' p,At w p (enc u)->Fr a' n ((d,.pointer (some p))::e)->wpList P ops Q rest a' w) : wpList P ops Q (⟨some d,.indexAddr T x y,ty,pos,af,g⟩::rest) a w:=by
 obtain ⟨p,rfl,hat⟩:=hr.at hsz hk;exact Xyd hf hw O hn (X77 hf hx hy hT hs hi (Qg.1 hk).1) fun a' hf'=>h a' _ hat hf'
theorem Xtt{Q:Act->World->Prop}{tl:Nat->Bool}{fuel:Nat}{done:List Nat}{T E E2:TypeId}{sz B:Nat}{x y:Operand}{enc:α->List Value}{A:Option Addr}{c:Nat}{l:List α}{k:Nat}{i:Int}{u:α}(j:Nat)
  (ho:ops[j]? = some ⟨some d,.indexAddr T x y,ty,pos,af,g⟩) (hm:mayFirst ops done j=true) (ht:tailWaits ops tl j=true) (hf:Fr a n e) (hw:Want ops ⟨some d,.indexAddr T x y,ty,pos,af,g⟩ e) (hn:Nat.blt d n=true)
  (hx:ev e x=some (.slice A l.length c)) (hy:ev e y=some (.int .i64 i)) (hT:SliceT P T E) (hs:SizeT P E sz) (hsz:∀ x,(enc x).length=sz) (hr:Rd w B E2 enc A l) (hk:l[k]? = some u) (hi:i=(k:Int))
  (h:∀ a' p,At w p (enc u)->Fr a' n ((d,.pointer (some p))::e)->wpS P ops none tl Q fuel (mask ops (j::done)) a' w) : wpS P ops none tl Q (fuel+1) (mask ops done) a w:=by
 obtain ⟨p,rfl,hat⟩:=hr.at hsz hk;exact Xyq j ho hm ht hf hw O hn (X77 hf hx hy hT hs hi (Qg.1 hk).1) fun a' hf'=>h a' _ hat hf'
end
theorem X5{K:Act->World->Prop}(h:Q .ret a w) : Exit.then K Q .ret a w:=h
theorem Xo{id:Nat}(h:Q .ret a w) : Exit.inBlock id Q .ret a w:=by simp [Exit.inBlock,h]
theorem Xn{id:Nat}(h:Q .normal a w) : Exit.inBlock id Q .normal a w:=by simp [Exit.inBlock,h]
theorem Xm{K:Act->World->Prop}{id:Nat}(h:Q (.exit id) a w) : Exit.then K Q (.exit id) a w:=h
theorem Xd{K:Act->World->Prop}(h:K a w) : Exit.then K Q .normal a w:=h
theorem X0a{id:Nat}(h:Q .normal a w) : Exit.inBlock id Q (.exit id) a w:=by simp [Exit.inBlock,h]
theorem Xl0{id id':Nat}(hne:Nat.beq id' id=false)(h:Q (.exit id') a w) : Exit.inBlock id Q (.exit id') a w:=by
 have:id'≠id:=by rintro rfl;simp at hne
 simp [Exit.inBlock,this,h]
def ResV(P:Program)(w:World)(e:Env) : ResultVar->Value->Prop
 | .tmp t,v=>look t e=some v
 | .cell t T,v=>∃ p,look t e=some (.pointer (some p))/\((OneT P T/\∃ l,At w p (v::l))∨∃ k l,AggT P T k/\At w p l/\l.length=k/\v=.agg l.toArray)
theorem ResV.cellN{t T k:Nat}{p:Addr}{l:List Value}(h:look t e=some (.pointer (some p)))(hA:AggT P T k)(hc:At w p l)(hl:l.length=k) : ResV P w e (.cell t T) (.agg l.toArray):=⟨p,h,.inr ⟨k,l,hA,hc,hl,rfl⟩⟩
theorem X6z(fn:Func)(tmps:Array Value) : ∃ f:ResultVar->Sem Value,(∀ t,f (.tmp t)=pure (tmps.getD t undef))/\(∀ t T,f (.cell t T)=(do loadVar T (<- asAddr (tmps.getD t undef))))/\
  results fn tmps=(do let vs <- fn.results.mapM f;pure (if h:vs.size=1 then vs[0] else .tuple vs)):=⟨_,fun _=>rfl,fun _ _=>rfl,rfl⟩
theorem ResV.run{r:ResultVar}{v:Value}{f:ResultVar->Sem Value}(hf:Fr a n e)(h:ResV P w e r v)(f1:∀ t,f (.tmp t)=pure (a.tmps.getD t undef))(f2:∀ t T,f (.cell t T)=(do loadVar T (<- asAddr (a.tmps.getD t undef)))) : (f r).run P w=.ok v w:=by
 cases r with
 | tmp t=>
  have:=hf.h _ _ h
  simp [f1,this]
 | cell t T=>
  obtain ⟨p,h1,h2⟩:=h;have h3:=hf.h _ _ h1
  rcases h2 with ⟨h4,l,h5⟩|⟨k,l,h4,h5,h6,rfl⟩
  ·simp [f2,h3,asAddr,X52 h4 h5]
  ·simp [f2,h3,asAddr,X51 h4 h5 h6]
section
variable {fn : Func} {R : Ending -> World -> Prop}
theorem Xv{r:ResultVar}{v:Value}(hf:Fr a n e)(hr:fn.results = #[r])(h:ResV P w e r v) : (results fn a.tmps).run P w=.ok v w:=by
 obtain ⟨f,f1,f2,h0⟩:=X6z fn a.tmps;have h1:=h.run hf f1 f2
 rw [h0,hr]
 simp [h1]
theorem X0q{r1 r2:ResultVar}{v1 v2:Value}(hf:Fr a n e)(hr:fn.results = #[r1,r2])(h1:ResV P w e r1 v1)(h2:ResV P w e r2 v2) : (results fn a.tmps).run P w=.ok (.tuple #[v1,v2]) w:=by
 obtain ⟨f,f1,f2,h0⟩:=X6z fn a.tmps;have h1:=h1.run hf f1 f2;have h2:=h2.run hf f1 f2
 rw [h0,hr]
 simp [h1,h2]
theorem X99{r1 r2 r3:ResultVar}{v1 v2 v3:Value}(hf:Fr a n e)(hr:fn.results = #[r1,r2,r3])(h1:ResV P w e r1 v1)(h2:ResV P w e r2 v2)(h3:ResV P w e r3 v3) : (results fn a.tmps).run P w=.ok (.tuple #[v1,v2,v3]) w:=by
 obtain ⟨f,f1,f2,h0⟩:=X6z fn a.tmps;have h1:=h1.run hf f1 f2;have h2:=h2.run hf f1 f2;have h3:=h3.run hf f1 f2
 rw [h0,hr]
 simp [h1,h2,h3]
theorem X4{v:Value}{R':Value->World->Prop}(hf:Fr a n e)(hr:(results fn a.tmps).run P w=.ok v w)(h:R' v w) : bodyPost P fn (fun e w'=>∃ v,e=.returned v/\R' v w') .ret a w:=⟨hf.d,v,hr,v,rfl,h⟩
end
theorem enter{f:FuncId}{fn:Func}{c:Code}{args:List Value}{R:Value->World->Prop}(hf:P.funcs[f]? = some fn)(hb:fn.body=some c)(n:Nat)(hn:fn.ntmps=n)(hl:Nat.ble args.length n=true)
  (h:∀ a,Fr a n (zipFrom 0 args)->c.wp P (bodyPost P fn (fun e w'=>∃ v,e=.returned v/\R v w')) a w) : Ret P f args w R:=Xn4 hf hb n hn hl h
end
section
variable {P : Program} {ops : Array Oper} {Q : Exit -> Act -> World -> Prop} {w : World} {rest : List Oper} {o : Oper} {op : Op} {ty : TypeId} {pos : String} {af : Array Edge} {g : Option (Nat × Bool)} {n d : Nat} {e : Env} {v : Value} {R : Value -> World -> Prop} {x : Operand}
def WL(P:Program)(ops:Array Oper)(Q:Exit->Act->World->Prop)(l:List Oper)(n:Nat)(e:Env)(w:World) : Prop:=∀ a,Fr a n e->wpList P ops Q l a w
theorem bs:(∀ b,(true&&b)=b)/\(∀ b,(false&&b)=false)/\(∀ b,(true||b)=true)/\∀ b,(false||b)=b:=⟨fun _=>rfl,fun _=>rfl,fun _=>rfl,fun _=>rfl⟩
theorem Vc{f:FuncId}{xs:List Operand}{vs:List Value}{ts:Array TypeId}{D:Option Tmp}(h:Ret P f vs w R)(hF:FuncF P f)(hx:evs e xs=some vs:=by rfl) : EfW P ⟨D,.call ⟨.value (.func f),xs.toArray,ts⟩,ty,pos,af,g⟩ n e w R:=X23 hx hF h
theorem Vn{T t k b:Nat}{l:List Value}{D:Option Tmp}(hA:AggT P t k)(hb:Blk w b T l)(hx:ev e x=some (.pointer (some ⟨b,0,none⟩)):=by rfl)(hl:l.length=k:=by rfl) : EvW P ⟨D,.load t x,ty,pos,af,g⟩ n e w (.agg l.toArray):=Xx hx hA (hb.at 0) hl
theorem Vd{T f k b off:Nat}{D:Option Tmp}(hx:ev e x=some (.pointer (some ⟨b,off,none⟩)))(hF:FieldT P T f k)(m:Nat)(hk:off+k=m:=by rfl) : EvW P ⟨D,.fieldAddr T x f,ty,pos,af,g⟩ n e w (.pointer (some ⟨b,m,none⟩)):=Xr7 hx hF hk
theorem Vu{t T:TypeId}{y:Operand}{b off k:Nat}{l l' vs:List Value}{D:Option Tmp}(hx:ev e x=some (.pointer (some ⟨b,off,none⟩)))(hy:ev e y=some v)(hs:SizeT P t k)(hb:Blk w b T l)(hvs:v.cells.toList=vs:=by rfl)(hk:Nat.beq vs.length k=true:=by rfl)(h1:vs.all one=true:=by rfl)(hl:Nat.ble (off+k) l.length=true:=by rfl)(hl':splice l off vs=l':=by rfl) : EfW P ⟨D,.store t x y,ty,pos,af,g⟩ n e w (Stored w b T l'):=X4o hx hy hs hb hvs hk h1 hl hl'
theorem Vw{t T:TypeId}{y:Operand}{b k:Nat}{l:List Value}{D:Option Tmp}(vs:List Value)(hs:SizeT P t k)(hb:Blk w b T l)(hx:ev e x=some (.pointer (some ⟨b,0,none⟩)):=by rfl)(hy:ev e y=some v:=by rfl)(hvs:v.cells.toList=vs:=by rfl)(hk:Nat.beq vs.length k=true:=by rfl)(h1:vs.all one=true:=by rfl)(hl:Nat.ble (0+k) l.length=true:=by rfl)(hl':splice l 0 vs=vs:=by rfl) : EfW P ⟨D,.store t x y,ty,pos,af,g⟩ n e w (Stored w b T vs):=X4o hx hy hs hb hvs hk h1 hl hl'
theorem Ze(hr:EvW P ⟨some d,op,ty,pos,af,none⟩ n e w v)(h:WL P ops Q rest n ((d,v)::e) w)(hn:Nat.blt d n=true:=by rfl) : WL P ops Q (⟨some d,op,ty,pos,af,none⟩::rest) n e w:=fun a hf=>l_e hf hn (hr a hf) h
theorem Zm(hx:ev e x=some v)(h:WL P ops Q rest n ((d,v)::e) w)(hn:Nat.blt d n=true:=by rfl) : WL P ops Q (⟨some d,.move x,ty,pos,af,none⟩::rest) n e w:=fun _ hf=>Y34 hf hx hn h
theorem Za(hx:ev e x=some v)(h:WL P ops Q rest n ((d,v)::e) w)(hn:Nat.blt d n=true:=by rfl) : WL P ops Q (⟨some d,.assign x,ty,pos,af,none⟩::rest) n e w:=fun _ hf=>Y32 hf hx hn h
theorem Zf(hr:EfW P ⟨some d,op,ty,pos,af,none⟩ n e w R)(h:∀ v w',R v w'->WL P ops Q rest n ((d,v)::e) w')(hn:Nat.blt d n=true:=by rfl) : WL P ops Q (⟨some d,op,ty,pos,af,none⟩::rest) n e w:=fun a hf=>l_f hf hn (hr a hf) fun a' v w' hR hf'=>h v w' hR a' hf'
theorem Zo(hr:EfW P ⟨none,op,ty,pos,af,none⟩ n e w R)(h:∀ v w',R v w'->WL P ops Q rest n e w') : WL P ops Q (⟨none,op,ty,pos,af,none⟩::rest) n e w:=fun a hf=>Y33 hf (hr a hf) fun a' v w' hR hf'=>h v w' hR a' hf'
theorem ZB{T t:TypeId}{ty':TypeId}{pos':String}{af':Array Edge}{z v:Value}{y:Operand}{k:Nat}(vs:List Value)(hz:ZeroT P T z)(hs:SizeT P t k)(h:∀ b w',w.heap.size<=b->Below w.heap.size w w'->Blk w' b T vs->WL P ops Q rest n ((d,.pointer (some ⟨b,0,none⟩))::e) w')(hn:Nat.blt d n=true:=by rfl)(hy:∀ u,ev ((d,u)::e) y=some v:=by intro _;rfl)(hvs:v.cells.toList=vs:=by rfl)(hk:Nat.beq vs.length k=true:=by rfl)(h1:vs.all one=true:=by rfl)(hl:Nat.beq z.cells.toList.length k=true:=by rfl) : WL P ops Q (⟨some d,.alloc T,ty,pos,af,none⟩::⟨none,.store t (.tmp d) y,ty',pos',af',none⟩::rest) n e w:=by
 refine Zf (Xl hz O) ?_ hn
 rintro _ w1 ⟨b,rfl,h2,h3,h4⟩
 have hk':=Nat.eq_of_beq_eq_true hk
 have hl':=Nat.eq_of_beq_eq_true hl
 have hx:ev ((d,(.pointer (some ⟨b,0,none⟩) : Value))::e) (.tmp d)=some (.pointer (some ⟨b,0,none⟩)):=by simp [ev,look]
 refine Zo (X4o (l':=vs) hx (hy _) hs h4 hvs hk h1 (by rw [Nat.ble_eq];omega) ?_) ?_
 ·unfold splice
  rw [List.take_zero,List.nil_append,W3 Z,List.append_nil]
 ·rintro _ w2 ⟨h5,h6⟩;exact h b w2 h2 (Below.oy h3 h5 h2) h6
theorem Zv(hw:Want ops o e)(hr:EvW P o n e w v)(h:WL P ops Q rest n ((d,v)::e) w)(hd:o.dst=some d:=by rfl)(hn:Nat.blt d n=true:=by rfl) : WL P ops Q (o::rest) n e w:=fun a hf=>Xyd hf hw hd hn (hr a hf) h
theorem Zp(hw:Pass ops o e)(h:WL P ops Q rest n ((d,undef)::e) w)(hd:o.dst=some d:=by rfl)(hn:Nat.blt d n=true:=by rfl) : WL P ops Q (o::rest) n e w:=fun _ hf=>Xye hf hw hd hn h
theorem Zk(hw:Want ops o e)(hr:EfW P o n e w R)(h:∀ v w',R v w'->WL P ops Q rest n ((d,v)::e) w')(hd:o.dst=some d:=by rfl)(hn:Nat.blt d n=true:=by rfl) : WL P ops Q (o::rest) n e w:=fun a hf=>Xp6 hf hw hd hn (hr a hf) fun a' v w' hR hf'=>h v w' hR a' hf'
theorem Zg(t:Nat){b:Bool}(_:look t e=some (.bool b))(h1:b=true->WL P ops Q rest n e w)(h2:b=false->WL P ops Q rest n e w) : WL P ops Q rest n e w:=by
 cases b
 ·exact h2 O
 ·exact h1 O
theorem Zn(h:∀ a,Fr a n e->Q .normal a w) : WL P ops Q [] n e w:=h
theorem Zr{a:Act}{id:Nat}{l:List Oper}(hf:Fr a n e)(h:WL P l.toArray Q l n e w) : (Code.region id l.toArray false).wp P Q a w:=wp_region_lit (h a hf)
theorem Zs{a:Act}{id:Nat}{l:List Oper}{c:Code}(hf:Fr a n e)(h:∀ K:Act->World->Prop,(∀ a w,c.wp P Q a w->K a w)->WL P l.toArray (Exit.then K Q) l n e w) : (Code.seq (Code.region id l.toArray false) c).wp P Q a w:=
 Q5 fun K hK=>wp_region_lit (h K hK a hf)
theorem Zt{c:Code}{K:Act->World->Prop}(hK:∀ a w,c.wp P Q a w->K a w)(h:∀ a,Fr a n e->c.wp P Q a w) : WL P ops (Exit.then K Q) [] n e w:=fun a hf=>hK a w (h a hf)
theorem ZX{c1 c2:Code}{K:Act->World->Prop}(hK:∀ a w,(Code.seq c1 c2).wp P Q a w->K a w)(h:∀ a,Fr a n e->∀ K':Act->World->Prop,(∀ a w,c2.wp P Q a w->K' a w)->c1.wp P (Exit.then K' Q) a w) : WL P ops (Exit.then K Q) [] n e w:=fun a hf=>hK a w (Q5 fun K' hK'=>h a hf K' hK')
theorem Zx{id:Nat}{l:List Oper}{c:Code}{K:Act->World->Prop}(hK:∀ a w,(Code.seq (Code.region id l.toArray false) c).wp P Q a w->K a w)(h:∀ a,Fr a n e->∀ K':Act->World->Prop,(∀ a w,c.wp P Q a w->K' a w)->WL P l.toArray (Exit.then K' Q) l n e w) : WL P ops (Exit.then K Q) [] n e w:=fun a hf=>hK a w (Q5 fun K' hK'=>wp_region_lit (h a hf K' hK' a hf))
theorem Zi{α:Type}{T E E2:TypeId}{sz B k:Nat}{y:Operand}{enc:α->List Value}{A:Option Addr}{c:Nat}{l:List α}{i:Int}{u:α}(hw:Want ops ⟨some d,.indexAddr T x y,ty,pos,af,g⟩ e)(hx:ev e x=some (.slice A l.length c))(hy:ev e y=some (.int .i64 i))(hT:SliceT P T E)(hs:SizeT P E sz)(hsz:∀ x,(enc x).length=sz)(hr:Rd w B E2 enc A l)(hk:l[k]? = some u)(hi:i=(k:Int))
  (h:∀ p,At w p (enc u)->WL P ops Q rest n ((d,.pointer (some p))::e) w) (hn:Nat.blt d n=true:=by rfl) : WL P ops Q (⟨some d,.indexAddr T x y,ty,pos,af,g⟩::rest) n e w:=fun _ hf=>Xti hf hw hn hx hy hT hs hsz hr hk hi fun a' p hp hf'=>h p hp a' hf'
end
section
variable {P : Program} {ops : Array Oper} {V : Option Vk} {tl : Nat -> Bool} {Q : Act -> World -> Prop} {fuel : Nat} {done : List Nat} {w : World} {o : Oper} {op : Op} {ty : TypeId} {pos : String} {af : Array Edge} {g : Option (Nat × Bool)} {n d : Nat} {e : Env} {v : Value} {R : Value -> World -> Prop} {x : Operand}
def WS(P:Program)(ops:Array Oper)(V:Option Vk)(tl:Nat->Bool)(Q:Act->World->Prop)(m:Nat)(L:List Nat)(n:Nat)(e:Env)(w:World) : Prop:=∀ a,Fr a n e->wpS P ops V tl Q m (mask ops L) a w
def WR(P:Program)(ops:Array Oper)(V:Option Vk)(tl:Nat->Bool)(Q:Act->World->Prop)(i m:Nat)(L:List Nat)(n:Nat)(e:Env)(w:World) : Prop:=∀ a,Fr a n e->wpR P ops V tl i (wpS P ops V tl Q m (mask ops (i::L))) a w
theorem Yb{a:Act}{m:Nat}{L:List Nat}(hf:Fr a n e)(h:WS P ops V tl Q m L n e w) : wpS P ops V tl Q m (mask ops L) a w:=h a hf
theorem Ye(i:Nat)(hi:ops[i]? = some ⟨some d,op,ty,pos,af,none⟩)(hr:EvW P ⟨some d,op,ty,pos,af,none⟩ n e w v)(h:WS P ops none tl Q fuel (i::done) n ((d,v)::e) w)(hm:mayFirst ops done i=true:=by kernel_rfl)(ht:tailWaits ops tl i=true:=by kernel_rfl)(hn:Nat.blt d n=true:=by rfl) : WS P ops none tl Q (fuel+1) done n e w:=fun a hf=>s_e i hi hm ht hf hn (hr a hf) h
theorem Yo(i:Nat)(hi:ops[i]? = some ⟨some d,op,ty,pos,af,none⟩)(hr:∀ w,EvW P ⟨some d,op,ty,pos,af,none⟩ n e w v)(h:WS P ops V tl Q fuel (i::done) n ((d,v)::e) w)(hm:mayFirst ops done i=true:=by kernel_rfl)(hn:Nat.blt d n=true:=by rfl) : WS P ops V tl Q (fuel+1) done n e w:=fun a hf=>Y37 i hi hm hf hn (fun w=>hr w a hf) h
theorem Yv(i:Nat)(hi:ops[i]? = some o)(hw:Want ops o e)(hr:EvW P o n e w v)(h:WS P ops none tl Q fuel (i::done) n ((d,v)::e) w)(hm:mayFirst ops done i=true:=by kernel_rfl)(ht:tailWaits ops tl i=true:=by kernel_rfl)(hd:o.dst=some d:=by rfl)(hn:Nat.blt d n=true:=by rfl) : WS P ops none tl Q (fuel+1) done n e w:=fun a hf=>Xyq i hi hm ht hf hw hd hn (hr a hf) h
theorem Yw(i:Nat){b:Nat}(hi:ops[i]? = some o)(hw:Want ops o e)(hr:∀ w1,Only b w w1->EvW P o n e w1 v)(h:WS P ops (some b) tl Q fuel (i::done) n ((d,v)::e) w)(hm:mayFirst ops done i=true:=by kernel_rfl)(ht:tailWaits ops tl i=true:=by kernel_rfl)(hd:o.dst=some d:=by rfl)(hn:Nat.blt d n=true:=by rfl) : WS P ops (some b) tl Q (fuel+1) done n e w:=fun a hf=>Y1h i hi hm ht hf hw hd hn (fun w1 h1=>hr w1 h1 a hf) h
theorem Yu(i:Nat)(hi:ops[i]? = some o)(hw:Want ops o e)(hr:∀ w,EvW P o n e w v)(h:WS P ops V tl Q fuel (i::done) n ((d,v)::e) w)(hm:mayFirst ops done i=true:=by kernel_rfl)(hd:o.dst=some d:=by rfl)(hn:Nat.blt d n=true:=by rfl) : WS P ops V tl Q (fuel+1) done n e w:=fun a hf=>Xq5 i hi hm hf hw hd hn (fun w=>hr w a hf) h
theorem Yp(i:Nat)(hi:ops[i]? = some o)(hw:Pass ops o e)(h:WS P ops V tl Q fuel (i::done) n ((d,undef)::e) w)(hm:mayFirst ops done i=true:=by kernel_rfl)(hd:o.dst=some d:=by rfl)(hn:Nat.blt d n=true:=by rfl) : WS P ops V tl Q (fuel+1) done n e w:=fun _ hf=>Xys i hi hm hf hw hd hn h
theorem Y1(i:Nat)(h:WR P ops V tl Q i fuel done n e w)(hr:Region.ready .any ops (mask ops done)=[i]:=by kernel_rfl) : WS P ops V tl Q (fuel+1) done n e w:=fun a hf=>Y1i i hr (h a hf)
theorem Y2(i j:Nat)(hi:WR P ops V tl Q i fuel done n e w)(hj:WR P ops V tl Q j fuel done n e w)(hr:Region.ready .any ops (mask ops done)=[i,j]:=by kernel_rfl) : WS P ops V tl Q (fuel+1) done n e w:=fun a hf=>Y1j i j hr (hi a hf) (hj a hf)
theorem Y3(i j k:Nat)(hi:WR P ops V tl Q i fuel done n e w)(hj:WR P ops V tl Q j fuel done n e w)(hk:WR P ops V tl Q k fuel done n e w)(hr:Region.ready .any ops (mask ops done)=[i,j,k]:=by kernel_rfl) : WS P ops V tl Q (fuel+1) done n e w:=fun a hf=>Xtu i j k hr (hi a hf) (hj a hf) (hk a hf)
theorem Yd(h:∀ a,Fr a n e->Q a w)(hr:Region.ready .any ops (mask ops done)=[]:=by kernel_rfl) : WS P ops V tl Q fuel done n e w:=fun a hf=>Xyp hr (h a hf)
theorem Yf{i:Nat}(hi:ops[i]? = some o)(hw:Want ops o e)(hr:EfW P o n e w fun v w'=>(tl i=false->Keep V w w')/\R v w')(h:∀ v w',R v w'->WS P ops V tl Q fuel (i::done) n ((d,v)::e) w')(hd:o.dst=some d:=by rfl)(hn:Nat.blt d n=true:=by rfl) : WR P ops V tl Q i fuel done n e w:=fun a hf=>Y1b hi hf hw hd hn (hr a hf) fun a' v w' hR hf'=>h v w' hR a' hf'
theorem Yg{i:Nat}(hi:ops[i]? = some o)(hw:Want ops o e)(hr:EfW P o n e w fun v w'=>(tl i=false->Keep V w w')/\R v w')(h:∀ v w',R v w'->WS P ops V tl Q fuel (i::done) n e w')(hd:o.dst=none:=by rfl) : WR P ops V tl Q i fuel done n e w:=fun a hf=>Xyi hi hf hw hd (hr a hf) fun a' v w' hR hf'=>h v w' hR a' hf'
theorem Yq{i:Nat}(hi:ops[i]? = some o)(hw:Pass ops o e)(h:WS P ops V tl Q fuel (i::done) n ((d,undef)::e) w)(hd:o.dst=some d:=by rfl)(hn:Nat.blt d n=true:=by rfl) : WR P ops V tl Q i fuel done n e w:=fun _ hf=>Xyj hi hf hw hd hn h
theorem EfW.mono{R':Value->World->Prop}(h:EfW P o n e w R)(hr:∀ v w',R v w'->R' v w') : EfW P o n e w R':=fun a hf=>(h a hf).mono hr
theorem Uev(h:EvW P o n e w v) : EfW P o n e w (fun v' w'=>v'=v/\w=w'):=fun a hf=>Xnn (h a hf)
theorem Yt{i:Nat}(hi:ops[i]? = some o)(hw:Want ops o e)(ht:tl i=true)(hr:EfW P o n e w R)(h:∀ v w',R v w'->WS P ops V tl Q fuel (i::done) n ((d,v)::e) w')(hd:o.dst=some d:=by rfl)(hn:Nat.blt d n=true:=by rfl) : WR P ops V tl Q i fuel done n e w:=Yf hi hw (hr.mono fun _ _ h=>⟨fun h0=>absurd h0 (by rw [ht];decide),h⟩) h hd hn
theorem Yh{i:Nat}(hi:ops[i]? = some o)(hw:Want ops o e)(ht:tl i=true)(hr:EfW P o n e w R)(h:∀ v w',R v w'->WS P ops V tl Q fuel (i::done) n e w')(hd:o.dst=none:=by rfl) : WR P ops V tl Q i fuel done n e w:=Yg hi hw (hr.mono fun _ _ h=>⟨fun h0=>absurd h0 (by rw [ht];decide),h⟩) h hd
theorem Yk{i:Nat}(hi:ops[i]? = some o)(hw:Want ops o e)(hr:EfW P o n e w R)(hk:∀ v w',R v w'->Below w.heap.size w w')(h:∀ v w',R v w'->WS P ops none tl Q fuel (i::done) n ((d,v)::e) w')(hd:o.dst=some d:=by rfl)(hn:Nat.blt d n=true:=by rfl) : WR P ops none tl Q i fuel done n e w:=Yf hi hw (hr.mono fun _ _ h=>⟨fun _=>hk _ _ h,h⟩) h hd hn
theorem Yz{i:Nat}{u:Value}(hi:ops[i]? = some o)(hw:Want ops o e)(hr:EfW P o n e w (fun v w'=>v=u/\w=w'))(h:WS P ops V tl Q fuel (i::done) n ((d,u)::e) w)(hd:o.dst=some d:=by rfl)(hn:Nat.blt d n=true:=by rfl) : WR P ops V tl Q i fuel done n e w:=Yf hi hw (hr.mono fun _ _ h=>⟨fun _=>by rw [<- h.2];exact Keep.refl _ _,h⟩) (by rintro _ _ ⟨rfl,rfl⟩;exact h) hd hn
theorem Yl(t:Nat){b:Bool}(_:look t e=some (.bool b))(h1:b=true->WS P ops V tl Q fuel done n e w)(h2:b=false->WS P ops V tl Q fuel done n e w) : WS P ops V tl Q fuel done n e w:=by
 cases b
 ·exact h2 O
 ·exact h1 O
theorem Yc(D:List Nat)(m:Nat)(X:Act->World->Prop)(h1:∀ a w,X a w->wpS P ops V tl Q m (mask ops D) a w)
  (h2:(∀ L a w,sameL L D=true->X a w->wpS P ops V tl Q m (mask ops L) a w)->WS P ops V tl Q fuel done n e w) : WS P ops V tl Q fuel done n e w:=
 h2 fun L a w h hx=>by rw [Xlu h];exact h1 a w hx
theorem Yi{α:Type}{T E E2:TypeId}{sz B k:Nat}{y:Operand}{enc:α->List Value}{A:Option Addr}{c:Nat}{l:List α}{i:Int}{u:α}(j:Nat)(ho:ops[j]? = some ⟨some d,.indexAddr T x y,ty,pos,af,g⟩)(hw:Want ops ⟨some d,.indexAddr T x y,ty,pos,af,g⟩ e)(hx:ev e x=some (.slice A l.length c))(hy:ev e y=some (.int .i64 i))(hT:SliceT P T E)(hs:SizeT P E sz)(hsz:∀ x,(enc x).length=sz)(hr:Rd w B E2 enc A l)(hk:l[k]? = some u)(hi:i=(k:Int))
  (h:∀ p,At w p (enc u)->WS P ops none tl Q fuel (j::done) n ((d,.pointer (some p))::e) w) (hm:mayFirst ops done j=true:=by kernel_rfl) (ht:tailWaits ops tl j=true:=by kernel_rfl) (hn:Nat.blt d n=true:=by rfl) : WS P ops none tl Q (fuel+1) done n e w:=fun _ hf=>Xtt j ho hm ht hf hw hn hx hy hT hs hsz hr hk hi fun a' p hp hf'=>h p hp a' hf'
end
end Go.Proofs.YtfkokcbjcndjpaaGreatDoor
namespace Go.Proofs.YtfkokcbjcndjpaaGreatDoor
theorem X0z{P:Program}{t n:Nat}(h:(P.info? t).map (fun i=>i.size)=some n) : ∃ i,P.info? t=some i/\i.size=n:=by simp_all
theorem X1y{P:Program}{t:Nat}{z:Option Value}(h:(P.info? t).map (fun i=>i.zero)=some z) : ∃ i,P.info? t=some i/\i.zero=z:=by simp_all
theorem X31{P:Program}{t sz bytes:Nat}{z:Value}(h:(P.info? t).map (fun i=>(i.size,i.bytes,i.zero))=some (sz,bytes,some z))(hz:z.cells.size=sz)(h0:0<sz) : InfoT P t sz bytes:=by
 cases hi:P.info? t with
 | none=>rw [hi] at h;cases h
 | some i=>
  rw [hi] at h
  simp only [Option.map_some,Option.some.injEq,Prod.mk.injEq] at h
  exact ⟨i,z,hi,h.2.2,h.1,h.2.1,hz,h0⟩
theorem X15{P:Program}{T f k:Nat}{fs:Array Field}{F:Field}(h:P.underlying T=some (.struct fs))(h1:fs[f]? = some F)(h2:F.offset=k){n:Nat}(h3:(P.info? F.type).map (fun i=>i.size)=some n)(h4:(n==0)=false) : FieldT P T f k:=by
 obtain ⟨i,hi,rfl⟩:=X0z h3;exact ⟨fs,F,i,h,h1,h2,hi,h4⟩
theorem X6 {P : Program} {f : FuncId} {fn : Func} (h : P.funcs[f]? = some fn) (h1 : (fn.name == "runtime.NumGoroutine") = false) (h2 : fn.body.isNone = false) : FuncF P f := ⟨fn, h, h1, h2⟩
theorem X8:OneT Tryz.prog 3:=⟨_,Tryz.underlying3,trivial⟩
theorem Y1l:OneT Tryz.prog 4:=⟨_,Tryz.underlying4,trivial⟩
theorem Y39:OneT Tryz.prog 5:=⟨_,Tryz.underlying5,trivial⟩
theorem X0l:OneT Tryz.prog 23:=⟨_,Tryz.underlying23,trivial⟩
theorem X4k:OneT Tryz.prog 32:=⟨_,Tryz.underlying32,trivial⟩
theorem X97:OneT Tryz.prog 27:=⟨_,Tryz.underlying27,trivial⟩
theorem X2f:OneT Tryz.prog 90:=⟨_,Tryz.underlying90,trivial⟩
theorem Xep:OneT Tryz.prog 70:=⟨_,Tryz.underlying70,trivial⟩
theorem X9v:OneT Tryz.prog 22:=⟨_,Tryz.underlying22,trivial⟩
theorem X9w:OneT Tryz.prog 49:=⟨_,Tryz.underlying49,trivial⟩
theorem X1g:AggT Tryz.prog 36 3:=⟨⟨_,Tryz.underlying36,trivial⟩,X0z O2⟩
theorem X0e:AggT Tryz.prog 25 2:=⟨⟨_,Tryz.underlying25,trivial⟩,X0z O2⟩
theorem X5l:AggT Tryz.prog 29 5:=⟨⟨_,Tryz.underlying29,trivial⟩,X0z O2⟩
theorem X01:AggT Tryz.prog 59 3:=⟨⟨_,Tryz.underlying59,trivial⟩,X0z O2⟩
theorem X0j:AggT Tryz.prog 92 3:=⟨⟨_,Tryz.underlying92,trivial⟩,X0z O2⟩
theorem X0k:AggT Tryz.prog 137 4:=⟨⟨_,Tryz.underlying137,trivial⟩,X0z O2⟩
theorem Xr:AggT Tryz.prog 139 5:=⟨⟨_,Tryz.underlying139,trivial⟩,X0z O2⟩
theorem Xks:AggT Tryz.prog 51 2:=⟨⟨_,Tryz.underlying51,trivial⟩,X0z O2⟩
theorem Xkt:AggT Tryz.prog 121 4:=⟨⟨_,Tryz.underlying121,trivial⟩,X0z O2⟩
theorem Xku:AggT Tryz.prog 54 6:=⟨⟨_,Tryz.underlying54,trivial⟩,X0z O2⟩
theorem X1o:SizeT Tryz.prog 3 1:=X0z O2
theorem Y1k:SizeT Tryz.prog 4 1:=X0z O2
theorem Y38:SizeT Tryz.prog 5 1:=X0z O2
theorem X3w:SizeT Tryz.prog 23 1:=X0z O2
theorem X17:SizeT Tryz.prog 36 3:=X0z O2
theorem Xbd:SizeT Tryz.prog 32 1:=X0z O2
theorem X1b:SizeT Tryz.prog 25 2:=X0z O2
theorem Xgv:SizeT Tryz.prog 27 1:=X0z O2
theorem X45:SizeT Tryz.prog 29 5:=X0z O2
theorem X0g:SizeT Tryz.prog 59 3:=X0z O2
theorem Xi4:SizeT Tryz.prog 90 1:=X0z O2
theorem X19:SizeT Tryz.prog 92 3:=X0z O2
theorem X1c:SizeT Tryz.prog 137 4:=X0z O2
theorem X09:SizeT Tryz.prog 139 5:=X0z O2
theorem Xqf:SizeT Tryz.prog 70 1:=X0z O2
theorem X9u:SizeT Tryz.prog 51 2:=X0z O2
theorem Xeo:SizeT Tryz.prog 121 4:=X0z O2
theorem Xu4:SizeT Tryz.prog 54 6:=X0z O2
theorem z_3:ZeroT Tryz.prog 3 (.int .i64 0):=X1y O2
theorem X2v:ZeroT Tryz.prog 36 (.agg #[.int .i64 0,.slice none 0 0,.slice none 0 0]):=X1y O2
theorem X2y:ZeroT Tryz.prog 25 (.agg #[.int .i64 0,.slice none 0 0]):=X1y O2
theorem Xbm:ZeroT Tryz.prog 29 (.agg #[.int .i64 0,.slice none 0 0,.slice none 0 0,.int .i64 0,.slice none 0 0]):=X1y O2
theorem X26:ZeroT Tryz.prog 59 (.agg #[.int .i64 0,.int .i64 0,.int .i64 0]):=X1y O2
theorem X1r:ZeroT Tryz.prog 92 (.agg #[.int .i64 0,.int .i64 0,.slice none 0 0]):=X1y O2
theorem X2c:ZeroT Tryz.prog 137 (.agg #[.int .i64 0,.int .i64 0,.int .i64 0,.int .i64 0]):=X1y O2
theorem X1s:ZeroT Tryz.prog 139 (.agg #[.int .i64 0,.int .i64 0,.int .i64 0,.int .i64 0,.int .i64 0]):=X1y O2
theorem Xqv:ZeroT Tryz.prog 51 (.agg #[.map none,.slice none 0 0]):=X1y O2
theorem X3y:ZeroT Tryz.prog 121 (.agg #[.slice none 0 0,.int .i64 0,.int .i64 0,.slice none 0 0]):=X1y O2
theorem Xz4:ZeroT Tryz.prog 54 (.agg #[.map none,.slice none 0 0,.map none,.slice none 0 0,.map none,.slice none 0 0]):=X1y O2
theorem X3h:FieldT Tryz.prog 36 0 0:=X15 (n:=1) Tryz.underlying36 rfl rfl O2 rfl
theorem X2b:FieldT Tryz.prog 36 1 1:=X15 (n:=1) Tryz.underlying36 rfl rfl O2 rfl
theorem X24:FieldT Tryz.prog 36 2 2:=X15 (n:=1) Tryz.underlying36 rfl rfl O2 rfl
theorem X1d:FieldT Tryz.prog 25 0 0:=X15 (n:=1) Tryz.underlying25 rfl rfl O2 rfl
theorem X05:FieldT Tryz.prog 25 1 1:=X15 (n:=1) Tryz.underlying25 rfl rfl O2 rfl
theorem Xdk:FieldT Tryz.prog 29 0 0:=X15 (n:=2) Tryz.underlying29 rfl rfl O2 rfl
theorem X2p:FieldT Tryz.prog 29 1 2:=X15 (n:=1) Tryz.underlying29 rfl rfl O2 rfl
theorem X20:FieldT Tryz.prog 29 2 3:=X15 (n:=2) Tryz.underlying29 rfl rfl O2 rfl
theorem X0n:FieldT Tryz.prog 59 0 0:=X15 (n:=1) Tryz.underlying59 rfl rfl O2 rfl
theorem X0p:FieldT Tryz.prog 59 1 1:=X15 (n:=1) Tryz.underlying59 rfl rfl O2 rfl
theorem X14:FieldT Tryz.prog 59 2 2:=X15 (n:=1) Tryz.underlying59 rfl rfl O2 rfl
theorem X22:FieldT Tryz.prog 92 0 0:=X15 (n:=1) Tryz.underlying92 rfl rfl O2 rfl
theorem X1v:FieldT Tryz.prog 92 1 1:=X15 (n:=1) Tryz.underlying92 rfl rfl O2 rfl
theorem X1l:FieldT Tryz.prog 92 2 2:=X15 (n:=1) Tryz.underlying92 rfl rfl O2 rfl
theorem X0s:FieldT Tryz.prog 137 0 0:=X15 (n:=1) Tryz.underlying137 rfl rfl O2 rfl
theorem X0u:FieldT Tryz.prog 137 1 1:=X15 (n:=1) Tryz.underlying137 rfl rfl O2 rfl
theorem X0v:FieldT Tryz.prog 137 2 2:=X15 (n:=1) Tryz.underlying137 rfl rfl O2 rfl
theorem X0w:FieldT Tryz.prog 137 3 3:=X15 (n:=1) Tryz.underlying137 rfl rfl O2 rfl
theorem X1q:FieldT Tryz.prog 139 0 0:=X15 (n:=4) Tryz.underlying139 rfl rfl O2 rfl
theorem X1m:FieldT Tryz.prog 139 1 4:=X15 (n:=1) Tryz.underlying139 rfl rfl O2 rfl
theorem X78:FieldT Tryz.prog 149 0 0:=X15 (n:=1) Tryz.underlying149 rfl rfl O2 rfl
theorem X5w:FieldT Tryz.prog 72 0 0:=X15 (n:=1) Tryz.underlying72 rfl rfl O2 rfl
theorem X2x:FieldT Tryz.prog 72 1 1:=X15 (n:=1) Tryz.underlying72 rfl rfl O2 rfl
theorem X3l:FieldT Tryz.prog 72 2 2:=X15 (n:=1) Tryz.underlying72 rfl rfl O2 rfl
theorem X5x:FieldT Tryz.prog 51 0 0:=X15 (n:=1) Tryz.underlying51 rfl rfl O2 rfl
theorem Xc2:FieldT Tryz.prog 51 1 1:=X15 (n:=1) Tryz.underlying51 rfl rfl O2 rfl
theorem Xc3:FieldT Tryz.prog 121 0 0:=X15 (n:=1) Tryz.underlying121 rfl rfl O2 rfl
theorem Xln:FieldT Tryz.prog 121 1 1:=X15 (n:=3) Tryz.underlying121 rfl rfl O2 rfl
theorem Xc4:FieldT Tryz.prog 54 0 0:=X15 (n:=6) Tryz.underlying54 rfl rfl O2 rfl
theorem Xa:SliceT Tryz.prog 23 59:=Tryz.underlying23
theorem Xy:SliceT Tryz.prog 32 3:=Tryz.underlying32
theorem X44:SliceT Tryz.prog 27 36:=Tryz.underlying27
theorem X1u:SliceT Tryz.prog 81 32:=Tryz.underlying81
theorem X1h:SliceT Tryz.prog 90 139:=Tryz.underlying90
theorem Xb9:SliceT Tryz.prog 162 23:=Tryz.underlying162
theorem X5k:SliceT Tryz.prog 256 137:=Tryz.underlying256
theorem X6c:SliceT Tryz.prog 22 5:=Tryz.underlying22
theorem X6d:SliceT Tryz.prog 135 9:=Tryz.underlying135
theorem X4x:SliceT Tryz.prog 122 121:=Tryz.underlying122
theorem X1a:InfoT Tryz.prog 3 1 8:=X31 (z:=.int .i64 0) O2 rfl O4
theorem Xch:InfoT Tryz.prog 9 1 16:=X31 (z:=.string ByteArray.empty) O2 rfl O4
theorem Xy9:InfoT Tryz.prog 23 1 24:=X31 (z:=.slice none 0 0) O2 rfl O4
theorem X6w:InfoT Tryz.prog 36 3 56:=X31 (z:=.agg #[.int .i64 0,.slice none 0 0,.slice none 0 0]) O2 rfl O4
theorem X3q:InfoT Tryz.prog 32 1 24:=X31 (z:=.slice none 0 0) O2 rfl O4
theorem Xc:InfoT Tryz.prog 59 3 24:=X31 (z:=.agg #[.int .i64 0,.int .i64 0,.int .i64 0]) O2 rfl O4
theorem X64:InfoT Tryz.prog 137 4 32:=X31 (z:=.agg #[.int .i64 0,.int .i64 0,.int .i64 0,.int .i64 0]) O2 rfl O4
theorem X30:InfoT Tryz.prog 139 5 40:=X31 (z:=.agg #[.int .i64 0,.int .i64 0,.int .i64 0,.int .i64 0,.int .i64 0]) O2 rfl O4
theorem X7f:InfoT Tryz.prog 121 4 64:=X31 (z:=.agg #[.slice none 0 0,.int .i64 0,.int .i64 0,.slice none 0 0]) O2 rfl O4
theorem Xvb:FuncF Tryz.prog 11:=X6 Tryz.func11 O0 rfl
theorem Y11:FuncF Tryz.prog 12:=X6 Tryz.func12 O0 rfl
theorem Y12:FuncF Tryz.prog 93:=X6 Tryz.func93 O0 rfl
theorem Xvc:FuncF Tryz.prog 26:=X6 Tryz.func26 O0 rfl
theorem Xje:FuncF Tryz.prog 27:=X6 Tryz.func27 O0 rfl
theorem Xvd:FuncF Tryz.prog 28:=X6 Tryz.func28 O0 rfl
theorem Xoo:FuncF Tryz.prog 29:=X6 Tryz.func29 O0 rfl
theorem Y13:FuncF Tryz.prog 30:=X6 Tryz.func30 O0 rfl
theorem Xc6:FuncF Tryz.prog 31:=X6 Tryz.func31 O0 rfl
theorem Xjf:FuncF Tryz.prog 20:=X6 Tryz.func20 O0 rfl
theorem X8u:FuncF Tryz.prog 16:=X6 Tryz.func16 O0 rfl
theorem Xjg:FuncF Tryz.prog 105:=X6 Tryz.func105 O0 rfl
theorem Y14:FuncF Tryz.prog 49:=X6 Tryz.func49 O0 rfl
theorem Xve:FuncF Tryz.prog 32:=X6 Tryz.func32 O0 rfl
theorem Xop:FuncF Tryz.prog 10:=X6 Tryz.func10 O0 rfl
theorem X3g:FuncF Tryz.prog 44:=X6 Tryz.func44 O0 rfl
theorem Xvf:FuncF Tryz.prog 141:=X6 Tryz.func141 O0 rfl
theorem X3c:FuncF Tryz.prog 37:=X6 Tryz.func37 O0 rfl
theorem Xvg:FuncF Tryz.prog 70:=X6 Tryz.func70 O0 rfl
theorem Y15:FuncF Tryz.prog 71:=X6 Tryz.func71 O0 rfl
theorem Y16:FuncF Tryz.prog 72:=X6 Tryz.func72 O0 rfl
theorem Y17:FuncF Tryz.prog 73:=X6 Tryz.func73 O0 rfl
theorem Xfp:FuncF Tryz.prog 74:=X6 Tryz.func74 O0 rfl
theorem Xjh:FuncF Tryz.prog 57:=X6 Tryz.func57 O0 rfl
theorem Y18:FuncF Tryz.prog 75:=X6 Tryz.func75 O0 rfl
theorem Xal:FuncF Tryz.prog 76:=X6 Tryz.func76 O0 rfl
theorem Xhc:FuncF Tryz.prog 45:=X6 Tryz.func45 O0 rfl
theorem Xo8:FuncF Tryz.prog 38:=X6 Tryz.func38 O0 rfl
theorem Xwy:FuncF Tryz.prog 39:=X6 Tryz.func39 O0 rfl
theorem Xdl:FuncF Tryz.prog 40:=X6 Tryz.func40 O0 rfl
theorem Xo9:FuncF Tryz.prog 25:=X6 Tryz.func25 O0 rfl
theorem Xhd:FuncF Tryz.prog 41:=X6 Tryz.func41 O0 rfl
theorem Xwz:FuncF Tryz.prog 77:=X6 Tryz.func77 O0 rfl
theorem Xai:FuncF Tryz.prog 95:=X6 Tryz.func95 O0 rfl
theorem Xaj:FuncF Tryz.prog 53:=X6 Tryz.func53 O0 rfl
theorem Xx0:FuncF Tryz.prog 110:=X6 Tryz.func110 O0 rfl
theorem Xoa:FuncF Tryz.prog 51:=X6 Tryz.func51 O0 rfl
theorem Xx1:FuncF Tryz.prog 117:=X6 Tryz.func117 O0 rfl
theorem Xx2:FuncF Tryz.prog 118:=X6 Tryz.func118 O0 rfl
theorem Xob:FuncF Tryz.prog 86:=X6 Tryz.func86 O0 rfl
theorem Xx3:FuncF Tryz.prog 101:=X6 Tryz.func101 O0 rfl
theorem X87:FuncF Tryz.prog 121:=X6 Tryz.func121 O0 rfl
theorem Xdm:FuncF Tryz.prog 122:=X6 Tryz.func122 O0 rfl
theorem X48:FuncF Tryz.prog 123:=X6 Tryz.func123 O0 rfl
theorem Xx4:FuncF Tryz.prog 124:=X6 Tryz.func124 O0 rfl
theorem Xhe:FuncF Tryz.prog 91:=X6 Tryz.func91 O0 rfl
theorem Xoc:FuncF Tryz.prog 113:=X6 Tryz.func113 O0 rfl
theorem Xx5:FuncF Tryz.prog 108:=X6 Tryz.func108 O0 rfl
theorem Xod:FuncF Tryz.prog 112:=X6 Tryz.func112 O0 rfl
theorem Xoe:FuncF Tryz.prog 116:=X6 Tryz.func116 O0 rfl
theorem Xx6:FuncF Tryz.prog 85:=X6 Tryz.func85 O0 rfl
theorem Xof:FuncF Tryz.prog 98:=X6 Tryz.func98 O0 rfl
theorem Xhf:FuncF Tryz.prog 100:=X6 Tryz.func100 O0 rfl
theorem Xx7:FuncF Tryz.prog 125:=X6 Tryz.func125 O0 rfl
theorem Xx8:FuncF Tryz.prog 109:=X6 Tryz.func109 O0 rfl
theorem Xhg:FuncF Tryz.prog 66:=X6 Tryz.func66 O0 rfl
theorem Xx9:FuncF Tryz.prog 157:=X6 Tryz.func157 O0 rfl
theorem Xdn:FuncF Tryz.prog 126:=X6 Tryz.func126 O0 rfl
theorem Xxa:FuncF Tryz.prog 127:=X6 Tryz.func127 O0 rfl
theorem Xhh:FuncF Tryz.prog 128:=X6 Tryz.func128 O0 rfl
theorem Xhi:FuncF Tryz.prog 88:=X6 Tryz.func88 O0 rfl
theorem Xog:FuncF Tryz.prog 89:=X6 Tryz.func89 O0 rfl
theorem Xdo:FuncF Tryz.prog 173:=X6 Tryz.func173 O0 rfl
theorem Xxb:FuncF Tryz.prog 174:=X6 Tryz.func174 O0 rfl
theorem Xxc:FuncF Tryz.prog 175:=X6 Tryz.func175 O0 rfl
theorem X6s:FuncF Tryz.prog 149:=X6 Tryz.func149 O0 rfl
theorem Xxd:FuncF Tryz.prog 176:=X6 Tryz.func176 O0 rfl
theorem Xhj:FuncF Tryz.prog 135:=X6 Tryz.func135 O0 rfl
theorem Xak:FuncF Tryz.prog 136:=X6 Tryz.func136 O0 rfl
theorem Xoh:FuncF Tryz.prog 147:=X6 Tryz.func147 O0 rfl
theorem Xxe:FuncF Tryz.prog 177:=X6 Tryz.func177 O0 rfl
theorem Xxf:FuncF Tryz.prog 160:=X6 Tryz.func160 O0 rfl
theorem Xxg:FuncF Tryz.prog 156:=X6 Tryz.func156 O0 rfl
theorem Xxh:FuncF Tryz.prog 158:=X6 Tryz.func158 O0 rfl
theorem Xxi:FuncF Tryz.prog 159:=X6 Tryz.func159 O0 rfl
theorem Xxj:FuncF Tryz.prog 143:=X6 Tryz.func143 O0 rfl
theorem Xxk:FuncF Tryz.prog 144:=X6 Tryz.func144 O0 rfl
theorem X57:FuncF Tryz.prog 114:=X6 Tryz.func114 O0 rfl
theorem Xoi:FuncF Tryz.prog 161:=X6 Tryz.func161 O0 rfl
theorem Xoj:FuncF Tryz.prog 206:=X6 Tryz.func206 O0 rfl
theorem Xxl:FuncF Tryz.prog 129:=X6 Tryz.func129 O0 rfl
theorem Xxm:FuncF Tryz.prog 130:=X6 Tryz.func130 O0 rfl
theorem X88:FuncF Tryz.prog 131:=X6 Tryz.func131 O0 rfl
theorem Xdr:FuncF Tryz.prog 132:=X6 Tryz.func132 O0 rfl
theorem Xxn:FuncF Tryz.prog 133:=X6 Tryz.func133 O0 rfl
theorem Xxo:FuncF Tryz.prog 134:=X6 Tryz.func134 O0 rfl
theorem Xxp:FuncF Tryz.prog 137:=X6 Tryz.func137 O0 rfl
theorem Xok:FuncF Tryz.prog 145:=X6 Tryz.func145 O0 rfl
theorem X89:FuncF Tryz.prog 187:=X6 Tryz.func187 O0 rfl
theorem Xhk:FuncF Tryz.prog 189:=X6 Tryz.func189 O0 rfl
theorem Xxq:FuncF Tryz.prog 178:=X6 Tryz.func178 O0 rfl
theorem Xol:FuncF Tryz.prog 179:=X6 Tryz.func179 O0 rfl
theorem X6t:FuncF Tryz.prog 199:=X6 Tryz.func199 O0 rfl
theorem Xxr:FuncF Tryz.prog 200:=X6 Tryz.func200 O0 rfl
theorem Xdx:FuncF Tryz.prog 194:=X6 Tryz.func194 O0 rfl
theorem Xhl:FuncF Tryz.prog 195:=X6 Tryz.func195 O0 rfl
theorem Xom:FuncF Tryz.prog 196:=X6 Tryz.func196 O0 rfl
theorem Xxs:FuncF Tryz.prog 197:=X6 Tryz.func197 O0 rfl
theorem Xxt:FuncF Tryz.prog 198:=X6 Tryz.func198 O0 rfl
theorem Xxu:FuncF Tryz.prog 180:=X6 Tryz.func180 O0 rfl
theorem Xxv:FuncF Tryz.prog 181:=X6 Tryz.func181 O0 rfl
theorem Xdy:FuncF Tryz.prog 218:=X6 Tryz.func218 O0 rfl
theorem Xdz:FuncF Tryz.prog 207:=X6 Tryz.func207 O0 rfl
theorem Xxw:FuncF Tryz.prog 208:=X6 Tryz.func208 O0 rfl
theorem Xxx:FuncF Tryz.prog 226:=X6 Tryz.func226 O0 rfl
theorem Xxy:FuncF Tryz.prog 223:=X6 Tryz.func223 O0 rfl
theorem Xxz:FuncF Tryz.prog 224:=X6 Tryz.func224 O0 rfl
theorem Xy0:FuncF Tryz.prog 225:=X6 Tryz.func225 O0 rfl
theorem Xon:FuncF Tryz.prog 209:=X6 Tryz.func209 O0 rfl
theorem Xy1:FuncF Tryz.prog 239:=X6 Tryz.func239 O0 rfl
theorem Xy2:FuncF Tryz.prog 238:=X6 Tryz.func238 O0 rfl
theorem Xy3:FuncF Tryz.prog 228:=X6 Tryz.func228 O0 rfl
theorem Xs4:FuncF Tryz.prog 78:=X6 Tryz.func78 O0 rfl
theorem Xiw:FuncF Tryz.prog 14:=X6 Tryz.func14 O0 rfl
theorem X1n:FuncF Tryz.prog 50:=X6 Tryz.func50 O0 rfl
theorem X2q:FuncF Tryz.prog 34:=X6 Tryz.func34 O0 rfl
theorem Xix:FuncF Tryz.prog 83:=X6 Tryz.func83 O0 rfl
theorem Xs5:FuncF Tryz.prog 52:=X6 Tryz.func52 O0 rfl
theorem Xiy:FuncF Tryz.prog 79:=X6 Tryz.func79 O0 rfl
theorem Xs6:FuncF Tryz.prog 33:=X6 Tryz.func33 O0 rfl
theorem Xiz:FuncF Tryz.prog 35:=X6 Tryz.func35 O0 rfl
theorem Xs7:FuncF Tryz.prog 17:=X6 Tryz.func17 O0 rfl
theorem X79:FuncF Tryz.prog 46:=X6 Tryz.func46 O0 rfl
theorem X9g:FuncF Tryz.prog 59:=X6 Tryz.func59 O0 rfl
theorem Xdp:FuncF Tryz.prog 81:=X6 Tryz.func81 O0 rfl
theorem Xj0:FuncF Tryz.prog 94:=X6 Tryz.func94 O0 rfl
theorem Xj1:FuncF Tryz.prog 64:=X6 Tryz.func64 O0 rfl
theorem Xs8:FuncF Tryz.prog 80:=X6 Tryz.func80 O0 rfl
theorem Xj2:FuncF Tryz.prog 82:=X6 Tryz.func82 O0 rfl
theorem Xs9:FuncF Tryz.prog 84:=X6 Tryz.func84 O0 rfl
theorem X38:FuncF Tryz.prog 90:=X6 Tryz.func90 O0 rfl
theorem X9h:FuncF Tryz.prog 58:=X6 Tryz.func58 O0 rfl
theorem Xj3:FuncF Tryz.prog 42:=X6 Tryz.func42 O0 rfl
theorem Xdq:FuncF Tryz.prog 65:=X6 Tryz.func65 O0 rfl
theorem Xsa:FuncF Tryz.prog 102:=X6 Tryz.func102 O0 rfl
theorem Xsb:FuncF Tryz.prog 103:=X6 Tryz.func103 O0 rfl
theorem Xj4:FuncF Tryz.prog 104:=X6 Tryz.func104 O0 rfl
theorem Xsc:FuncF Tryz.prog 87:=X6 Tryz.func87 O0 rfl
theorem Xsd:FuncF Tryz.prog 111:=X6 Tryz.func111 O0 rfl
theorem Xse:FuncF Tryz.prog 146:=X6 Tryz.func146 O0 rfl
theorem Xsf:FuncF Tryz.prog 148:=X6 Tryz.func148 O0 rfl
theorem Xsg:FuncF Tryz.prog 150:=X6 Tryz.func150 O0 rfl
theorem Xj5:FuncF Tryz.prog 151:=X6 Tryz.func151 O0 rfl
theorem Xsh:FuncF Tryz.prog 188:=X6 Tryz.func188 O0 rfl
theorem Xsi:FuncF Tryz.prog 190:=X6 Tryz.func190 O0 rfl
theorem Xsj:FuncF Tryz.prog 219:=X6 Tryz.func219 O0 rfl
theorem Xsk:FuncF Tryz.prog 9:=X6 Tryz.func9 O0 rfl
theorem Xsl:FuncF Tryz.prog 8:=X6 Tryz.func8 O0 rfl
theorem Xsm:FuncF Tryz.prog 13:=X6 Tryz.func13 O0 rfl
theorem Xsn:FuncF Tryz.prog 6:=X6 Tryz.func6 O0 rfl
theorem Xso:FuncF Tryz.prog 5:=X6 Tryz.func5 O0 rfl
theorem Xj6:FuncF Tryz.prog 24:=X6 Tryz.func24 O0 rfl
theorem Xds:FuncF Tryz.prog 18:=X6 Tryz.func18 O0 rfl
theorem Xj7:FuncF Tryz.prog 23:=X6 Tryz.func23 O0 rfl
theorem Xsp:FuncF Tryz.prog 47:=X6 Tryz.func47 O0 rfl
theorem Xj8:FuncF Tryz.prog 19:=X6 Tryz.func19 O0 rfl
theorem Xsq:FuncF Tryz.prog 21:=X6 Tryz.func21 O0 rfl
theorem Xsr:FuncF Tryz.prog 61:=X6 Tryz.func61 O0 rfl
theorem Xss:FuncF Tryz.prog 62:=X6 Tryz.func62 O0 rfl
theorem Xst:FuncF Tryz.prog 63:=X6 Tryz.func63 O0 rfl
theorem X9i:FuncF Tryz.prog 67:=X6 Tryz.func67 O0 rfl
theorem Xj9:FuncF Tryz.prog 68:=X6 Tryz.func68 O0 rfl
theorem Xja:FuncF Tryz.prog 69:=X6 Tryz.func69 O0 rfl
theorem Xdt:FuncF Tryz.prog 55:=X6 Tryz.func55 O0 rfl
theorem Xjb:FuncF Tryz.prog 56:=X6 Tryz.func56 O0 rfl
theorem Xjc:FuncF Tryz.prog 60:=X6 Tryz.func60 O0 rfl
theorem Xdu:FuncF Tryz.prog 54:=X6 Tryz.func54 O0 rfl
theorem Xsu:FuncF Tryz.prog 43:=X6 Tryz.func43 O0 rfl
theorem Xsv:FuncF Tryz.prog 106:=X6 Tryz.func106 O0 rfl
theorem Xdv:FuncF Tryz.prog 107:=X6 Tryz.func107 O0 rfl
theorem Xsw:FuncF Tryz.prog 115:=X6 Tryz.func115 O0 rfl
theorem Xsx:FuncF Tryz.prog 96:=X6 Tryz.func96 O0 rfl
theorem Xdw:FuncF Tryz.prog 97:=X6 Tryz.func97 O0 rfl
theorem Xsy:FuncF Tryz.prog 99:=X6 Tryz.func99 O0 rfl
theorem Xsz:FuncF Tryz.prog 155:=X6 Tryz.func155 O0 rfl
theorem Xt0:FuncF Tryz.prog 142:=X6 Tryz.func142 O0 rfl
theorem Xt1:FuncF Tryz.prog 4:=X6 Tryz.func4 O0 rfl
theorem Xt2:FuncF Tryz.prog 7:=X6 Tryz.func7 O0 rfl
theorem Xt3:FuncF Tryz.prog 15:=X6 Tryz.func15 O0 rfl
theorem Xt4:FuncF Tryz.prog 22:=X6 Tryz.func22 O0 rfl
theorem Xjd:FuncF Tryz.prog 36:=X6 Tryz.func36 O0 rfl
theorem mixed:Tryz.prog.follows .mixedOrders=true:=by kernel_rfl
end Go.Proofs.YtfkokcbjcndjpaaGreatDoor
namespace Go.Proofs.YtfkokcbjcndjpaaGreatDoor
open Go.RowKit
section
variable {P : Program} {a : Act} {w : World} {n : Nat} {e : Env} {ty : TypeId} {pos : String} {af : Array Edge} {g : Option (Nat × Bool)} {d : Option Tmp}
variable {t t' : TypeId} {x y : Operand} {i j : Int}
theorem Xwq(hf:Fr a n e)(hx:ev e x=some (.int .i64 i))(hy:ev e y=some (.int .i64 j))(h0:(j==0)=false) : Ev P ⟨d,.binOp .rem t x y t',ty,pos,af,g⟩ a w (.int .i64 (i.tmod j)):=fun w' _=>by
 have h0':j≠0:=by rintro rfl;simp at h0
 simp [execOp,hf.ev hx,hf.ev hy,eqGuard,binOp,Op.intDiv,h0']
theorem Xa3(hx:ev e x=some (.int .i64 i))(hy:ev e y=some (.int .i64 j))(h0:(j==0)=false) : EvW P ⟨d,.binOp .rem t x y t',ty,pos,af,g⟩ n e w (.int .i64 (i.tmod j)):=fun a hf=>Xwq hf hx hy h0
theorem Xwp(hf:Fr a n e)(hx:ev e x=some (.int .i64 i))(hy:ev e y=some (.int .i64 j))(h0:(j==0)=false) : Ev P ⟨d,.binOp .quo t x y t',ty,pos,af,g⟩ a w (.int .i64 (IntKind.i64.wrap (i.tdiv j))):=fun w' _=>by
 have h0':j≠0:=by rintro rfl;simp at h0
 simp [execOp,hf.ev hx,hf.ev hy,eqGuard,binOp,Op.intDiv,h0']
theorem Xda(hx:ev e x=some (.int .i64 i))(hy:ev e y=some (.int .i64 j))(h0:(j==0)=false) : EvW P ⟨d,.binOp .quo t x y t',ty,pos,af,g⟩ n e w (.int .i64 (IntKind.i64.wrap (i.tdiv j))):=fun a hf=>Xwp hf hx hy h0
theorem Xry(hf:Fr a n e)(hx:ev e x=some (.int .i64 i))(hy:ev e y=some (.int .i64 j))(h1:-9223372036854775808<=i*j)(h2:i*j<=9223372036854775807) : Ev P ⟨d,.binOp .mul t x y t',ty,pos,af,g⟩ a w (.int .i64 (i*j)):=fun w' _=>by
 have h:IntKind.i64.wrap (i*j)=i*j:=IntWalk.i64_in _ ⟨h1,h2⟩
 simp [execOp,hf.ev hx,hf.ev hy,eqGuard,binOp,Op.intArith,h]
theorem Xbo(hx:ev e x=some (.int .i64 i))(hy:ev e y=some (.int .i64 j))(h1:-9223372036854775808<=i*j)(h2:i*j<=9223372036854775807) : EvW P ⟨d,.binOp .mul t x y t',ty,pos,af,g⟩ n e w (.int .i64 (i*j)):=fun a hf=>Xry hf hx hy h1 h2
theorem Xrw{m k:Nat}(hf:Fr a n e)(hx:ev e x=some (.int .i64 (m:Int)))(hy:ev e y=some (.int .i64 (k:Int)))(hb:m*k<=4611686018427387904) : Ev P ⟨d,.binOp .mul t x y t',ty,pos,af,g⟩ a w (.int .i64 ((m*k:Nat) : Int)):=fun w' _=>by
 have h:IntKind.i64.wrap ((m:Int)*(k:Int))=((m*k:Nat) : Int):=by
  rw [<- Int.natCast_mul]
  exact IntWalk.i64_in _ ⟨by omega,by omega⟩
 simp [execOp,hf.ev hx,hf.ev hy,eqGuard,binOp,Op.intArith,h]
theorem Xf5{m k:Nat}(hx:ev e x=some (.int .i64 (m:Int)))(hy:ev e y=some (.int .i64 (k:Int)))(hb:m*k<=4611686018427387904) : EvW P ⟨d,.binOp .mul t x y t',ty,pos,af,g⟩ n e w (.int .i64 ((m*k:Nat) : Int)):=fun a hf=>Xrw hf hx hy hb
theorem Xo4{k:IntKind}{m:Nat}(hf:Fr a n e)(hx:ev e x=some (.int .i64 i))(hy:ev e y=some (.int k j))(hj:j=(m:Int))(hm:m<=64) : Ev P ⟨d,.binOp .shl t x y t',ty,pos,af,g⟩ a w (.int .i64 (IntKind.i64.wrap (i*2^m))):=fun w' _=>by
 subst hj
 have hm':min m 64=m:=by omega
 simp [execOp,hf.ev hx,hf.ev hy,eqGuard,binOp,Op.shift,IntKind.bits,hm']
theorem Xmu{k:IntKind}{m:Nat}(hx:ev e x=some (.int .i64 i))(hy:ev e y=some (.int k j))(hj:j=(m:Int))(hm:m<=64) : EvW P ⟨d,.binOp .shl t x y t',ty,pos,af,g⟩ n e w (.int .i64 (IntKind.i64.wrap (i*2^m))):=fun a hf=>Xo4 hf hx hy hj hm
theorem Xwr{k:IntKind}{m:Nat}(hf:Fr a n e)(hx:ev e x=some (.int .i64 i))(hy:ev e y=some (.int k j))(hj:j=(m:Int))(hm:m<=64) : Ev P ⟨d,.binOp .shr t x y t',ty,pos,af,g⟩ a w (.int .i64 (i/2^m)):=fun w' _=>by
 subst hj
 have hm':min m 64=m:=by omega
 simp [execOp,hf.ev hx,hf.ev hy,eqGuard,binOp,Op.shift,IntKind.bits,hm']
theorem Y0r{k:IntKind}{m:Nat}(hx:ev e x=some (.int .i64 i))(hy:ev e y=some (.int k j))(hj:j=(m:Int))(hm:m<=64) : EvW P ⟨d,.binOp .shr t x y t',ty,pos,af,g⟩ n e w (.int .i64 (i/2^m)):=fun a hf=>Xwr hf hx hy hj hm
theorem Xli(hf:Fr a n e)(hx:ev e x=some (.int .i64 i))(hy:ev e y=some (.int .i64 j)) : Ev P ⟨d,.binOp .andNot t x y t',ty,pos,af,g⟩ a w (.int .i64 (bits .andNot .i64 i j)):=fun w' _=>by
 simp [execOp,hf.ev hx,hf.ev hy,eqGuard,binOp,Op.intBits,bits]
theorem Xr6(hx:ev e x=some (.int .i64 i))(hy:ev e y=some (.int .i64 j)) : EvW P ⟨d,.binOp .andNot t x y t',ty,pos,af,g⟩ n e w (.int .i64 (bits .andNot .i64 i j)):=fun a hf=>Xli hf hx hy
theorem Xwn{p:Addr}(hf:Fr a n e)(hx:ev e x=some (.pointer (some p))) : Ev P ⟨d,.nilCheck x,ty,pos,af,g⟩ a w (.pointer (some p)):=fun w' _=>by
 simp [execOp,hf.ev hx]
theorem X3z{p:Addr}(hx:ev e x=some (.pointer (some p))) : EvW P ⟨d,.nilCheck x,ty,pos,af,g⟩ n e w (.pointer (some p)):=fun a hf=>Xwn hf hx
end
theorem Rd.atV{α:Type}{w:World}{B b0:Nat}{E T0:TypeId}{enc:α->List Value}{A:Option Addr}{l:List α}{l0:List Value}{sz:Nat}(hsz:∀ x,(enc x).length=sz)(h:Rd w B E enc A l){k:Nat}{x:α}(hk:l[k]? = some x)
  (hb:Blk w b0 T0 l0) (hT:Nat.beq E T0=false) : ∃ p,A=some p/\At w (p.add (k*sz)) (enc x)/\(p.add (k*sz)).block≠b0:=by
 obtain ⟨p,h1,h2⟩:=h.at hsz hk
 refine ⟨p,h1,h2,?_⟩
 have hl:l≠[]:=by rintro rfl;simp at hk
 obtain ⟨b,off,cs,fz,h3,h4,h5,h6⟩:=h hl
 rw [h1] at h3
 injection h3 with h3
 subst h3
 rw [X6q]
 rintro rfl
 unfold Blk at hb
 rw [h5] at hb
 injection hb with hb
 injection hb with _ e
 subst e
 simp at hT
section
variable {P : Program} {a : Act} {w : World} {n : Nat} {e : Env} {α : Type} {ops : Array Oper} {ty : TypeId} {pos : String} {af : Array Edge} {g : Option (Nat × Bool)} {d : Nat}
theorem Xq6{b0:Nat}{l0:List Value}{Q:Act->World->Prop}{tl:Nat->Bool}{fuel:Nat}{done:List Nat}{T E T0:TypeId}{sz B:Nat}{x y:Operand}{enc:α->List Value}{A:Option Addr}{c:Nat}{l:List α}{k:Nat}{i:Int}{u:α}(j:Nat)
  (ho:ops[j]? = some ⟨some d,.indexAddr T x y,ty,pos,af,g⟩) (hm:mayFirst ops done j=true) (hf:Fr a n e) (hw:Want ops ⟨some d,.indexAddr T x y,ty,pos,af,g⟩ e) (hn:Nat.blt d n=true)
  (hb:Blk w b0 T0 l0) (hT0:Nat.beq E T0=false)
  (hx:ev e x=some (.slice A l.length c)) (hy:ev e y=some (.int .i64 i)) (hT:SliceT P T E) (hs:SizeT P E sz) (hsz:∀ x,(enc x).length=sz) (hr:Rd w B E enc A l) (hk:l[k]? = some u) (hi:i=(k:Int))
  (h:∀ a' p,At w p (enc u)->p.block≠b0->Fr a' n ((d,.pointer (some p))::e)->wpS P ops (some b0) tl Q fuel (mask ops (j::done)) a' w) : wpS P ops (some b0) tl Q (fuel+1) (mask ops done) a w:=by
 obtain ⟨p,rfl,hat,hne⟩:=hr.atV hsz hk hb hT0;exact Xq5 j ho hm hf hw O hn (fun w=>X77 hf hx hy hT hs hi (Qg.1 hk).1) fun a' hf'=>h a' _ hat hne hf'
theorem Ya{b0:Nat}{l0:List Value}{Q:Act->World->Prop}{tl:Nat->Bool}{fuel:Nat}{done:List Nat}{T E T0:TypeId}{sz B:Nat}{x y:Operand}{enc:α->List Value}{A:Option Addr}{c:Nat}{l:List α}{k:Nat}{i:Int}{u:α}(j:Nat)
  (ho:ops[j]? = some ⟨some d,.indexAddr T x y,ty,pos,af,g⟩) (hw:Want ops ⟨some d,.indexAddr T x y,ty,pos,af,g⟩ e) (hb:Blk w b0 T0 l0) (hT0:Nat.beq E T0=false)
  (hx:ev e x=some (.slice A l.length c)) (hy:ev e y=some (.int .i64 i)) (hT:SliceT P T E) (hs:SizeT P E sz) (hsz:∀ x,(enc x).length=sz) (hr:Rd w B E enc A l) (hk:l[k]? = some u) (hi:i=(k:Int))
  (h:∀ p,At w p (enc u)->p.block≠b0->WS P ops (some b0) tl Q fuel (j::done) n ((d,.pointer (some p))::e) w) (hm:mayFirst ops done j=true:=by kernel_rfl) (hn:Nat.blt d n=true:=by rfl) : WS P ops (some b0) tl Q (fuel+1) done n e w:=
 fun _ hf=>Xq6 j ho hm hf hw hn hb hT0 hx hy hT hs hsz hr hk hi fun a' p hp hne hf'=>h p hp hne a' hf'
end
theorem Own.lower{α:Type}{w:World}{B0 B1:Nat}{E:TypeId}{sz:Nat}{enc:α->List Value}{A:Option Addr}{c:Nat}{l:List α}(h:Own w B0 E sz enc A c l)(hB:B1<=B0) : Own w B1 E sz enc A c l:=by
 refine ⟨h.1,?_⟩
 rcases h.2 with h1|⟨g,cap,cur,h1,h2,h3⟩
 ·exact .inl h1
 ·exact .inr ⟨g,cap,cur,h1,Q0 hB h2,h3⟩
section
variable {α : Type} {P : Program} {a : Act} {w : World} {n : Nat} {e : Env} {ty : TypeId} {pos : String} {af : Array Edge} {g : Option (Nat × Bool)} {d : Option Tmp}
theorem Xbj{T E:TypeId}{sz bytes B B2:Nat}{x y:Operand}{enc:α->List Value}{A A2:Option Addr}{c c2:Nat}{l l2:List α}(hf:Fr a n e)(hx:ev e x=some (.slice A l.length c))(hy:ev e y=some (.slice A2 l2.length c2))
  (hT:SliceT P T E) (hi:InfoT P E sz bytes) (hsz:∀ x,(enc x).length=sz) (ho:Rd w B E enc A l) (hr:Rd w B2 E enc A2 l2) (hc:c=l.length) (hl:l≠[]) (hl2:l2≠[]) (h63:l.length+l2.length<=maxLen) (hbytes:(l.length+l2.length)*bytes<=140737488355328) :
  Ef P ⟨d,.call ⟨.builtin .append,#[x,y],#[T,T]⟩,ty,pos,af,g⟩ a w (fun v w'=>∃ A' c',v=.slice A' (l++l2).length c'/\Own w' w.heap.size E sz enc A' c' (l++l2)/\Below w.heap.size w w'):=by
 obtain ⟨i,z,hi1,hi2,rfl,rfl,hi5,hi6⟩:=hi;obtain ⟨b1,off1,cs1,fz1,rfl,_,k1,k2⟩:=ho hl;obtain ⟨b,off,cs,fz,rfl,h2,h3,h4⟩:=hr hl2;have hlen1:=X0h hsz l;have hlen2:=X0h hsz l2
 have hpos:0<l2.length:=List.length_pos_iff.2 hl2
 have h:=run_append_grow (P:=P) w T ty E i z hT hi1 hi2 ⟨b1,off1,none⟩ l.length c (l.flatMap enc) hlen1 (fun j u hu=>by
   have:=k2 j u hu
   rw [X1w]
   simp [World.cell?,k1,this])
  ⟨b,off,none⟩ l2.length c2 (l2.flatMap enc) hlen2 (fun j u hu=>by
   have:=h4 j u hu
   rw [X1w]
   simp [World.cell?,h3,this])
  Z (by simp only [maxLen] at h63;omega) (growslice_fits Z hbytes)
 refine (Ef.of_run (w':=w.drew.alloc (.cells ((l.flatMap enc).toArray++(l2.flatMap enc).toArray++Builtin.zeroCells z.cells (grownCap w (l.length+l2.length) c E-(l.length+l2.length))) E)) (v:=.slice (some ⟨w.heap.size,0,none⟩) (l.length+l2.length) (grownCap w (l.length+l2.length) c E)) ?_).mono fun v w' ⟨e1,e2⟩=>?_
 ·simp [execOp,resolve,invoke,builtin,hf.ev hx,hf.ev hy,h]
 ·subst e1;subst e2
  refine ⟨_,_,by rw [Qh],?_,((Below.refl _ _).drew).alloc (Qb _) _⟩
  refine ⟨X0h hsz _,.inr ⟨w.heap.size,_,_,O,Qb _,heap_alloc_new w.drew _,?_,grownCap_le_maxLen w _ _ E h63,?_,?_⟩⟩
  ·rw [Qh];exact grownCap_ge w _ _ E
  ·have hge:=grownCap_ge w (l.length+l2.length) c E
   simp only [Array.size_append,List.size_toArray,size_zeroCells,hi5,hlen1,hlen2,<- Wb]
   congr 1
   omega
  ·have e3:(l++l2).length*i.size=(l.flatMap enc++l2.flatMap enc).length:=by rw [Qh,Qh,hlen1,hlen2,Wb]
   rw [e3]
   simp only [Array.toList_append,List.flatMap_append,Qx]
   rw [<- Qx]
   exact List.take_left
theorem Xf3{T E:TypeId}{sz bytes B B2:Nat}{x y:Operand}{enc:α->List Value}{A A2:Option Addr}{c c2:Nat}{l l2:List α}(hx:ev e x=some (.slice A l.length c))(hy:ev e y=some (.slice A2 l2.length c2))(hT:SliceT P T E)(hi:InfoT P E sz bytes)(hsz:∀ x,(enc x).length=sz)(ho:Rd w B E enc A l)(hr:Rd w B2 E enc A2 l2)(hc:c=l.length)(hl:l≠[])(hl2:l2≠[])(h63:l.length+l2.length<=maxLen)(hbytes:(l.length+l2.length)*bytes<=140737488355328) : EfW P ⟨d,.call ⟨.builtin .append,#[x,y],#[T,T]⟩,ty,pos,af,g⟩ n e w (fun v w'=>∃ A' c',v=.slice A' (l++l2).length c'/\Own w' w.heap.size E sz enc A' c' (l++l2)/\Below w.heap.size w w'):=fun a hf=>Xbj hf hx hy hT hi hsz ho hr hc hl hl2 h63 hbytes
end
abbrev wr(i:Int) : Int:=IntKind.i64.wrap i
theorem X11{i:Int}(h1:-9223372036854775808<=i)(h2:i<=9223372036854775807) : wr i=i:=IntWalk.i64_in _ ⟨h1,h2⟩
structure Rg where (a b c d:Int) deriving DecidableEq
structure Dy where (num:Rg) (exp:Int) deriving DecidableEq
structure Gt where (k a b:Int) deriving DecidableEq
def encI(i:Int) : List Value:=[.int .i64 i]
def encR(r:Rg) : List Value:=[.int .i64 r.a,.int .i64 r.b,.int .i64 r.c,.int .i64 r.d]
def encD(x:Dy) : List Value:=[.int .i64 x.num.a,.int .i64 x.num.b,.int .i64 x.num.c,.int .i64 x.num.d,.int .i64 x.exp]
def encG(x:Gt) : List Value:=[.int .i64 x.k,.int .i64 x.a,.int .i64 x.b]
theorem Xt:∀ x,(encI x).length=1:=fun _=>rfl
theorem Xfj:∀ x,(encR x).length=4:=fun _=>rfl
theorem X1e:∀ x,(encD x).length=5:=fun _=>rfl
theorem X9:∀ x,(encG x).length=3:=fun _=>rfl
theorem X1x:∀ x,(encI x).all one=true:=fun _=>rfl
theorem X76:∀ x,(encD x).all one=true:=fun _=>rfl
theorem Xq:∀ x,(encG x).all one=true:=fun _=>rfl
abbrev rV(r:Rg) : Value:=.agg #[.int .i64 r.a,.int .i64 r.b,.int .i64 r.c,.int .i64 r.d]
abbrev dV(x:Dy) : Value:=.agg #[.int .i64 x.num.a,.int .i64 x.num.b,.int .i64 x.num.c,.int .i64 x.num.d,.int .i64 x.exp]
abbrev gV(x:Gt) : Value:=.agg #[.int .i64 x.k,.int .i64 x.a,.int .i64 x.b]
def inR(n lo hi:Int) : Bool:=decide (lo<=n)&&decide (n<=hi)
def rOk(x:Rg) : Bool:=inR x.a (-1000000000) 1000000000&&inR x.b (-1000000000) 1000000000&&inR x.c (-1000000000) 1000000000&&inR x.d (-1000000000) 1000000000
def rAdd(x y:Rg) : Rg:=⟨wr (x.a+y.a),wr (x.b+y.b),wr (x.c+y.c),wr (x.d+y.d)⟩
def rNeg(x:Rg) : Rg:=⟨wr (-x.a),wr (-x.b),wr (-x.c),wr (-x.d)⟩
def rMul(x y:Rg) : Rg:=
 ⟨wr (wr (wr (wr (x.a*y.a)-wr (x.b*y.d))-wr (x.c*y.c))-wr (x.d*y.b)),
 wr (wr (wr (wr (x.a*y.b)+wr (x.b*y.a))-wr (x.c*y.d))-wr (x.d*y.c)),
 wr (wr (wr (wr (x.a*y.c)+wr (x.b*y.b))+wr (x.c*y.a))-wr (x.d*y.d)),
 wr (wr (wr (wr (x.a*y.d)+wr (x.b*y.c))+wr (x.c*y.b))+wr (x.d*y.a))⟩
def rRoot(x:Rg) : Rg:=⟨wr (x.b-x.d),wr (x.a+x.c),wr (x.b+x.d),wr (x.c-x.a)⟩
def rEven(x:Rg) : Bool:=(wr (x.a+x.c)).tmod 2==0&&(wr (x.b+x.d)).tmod 2==0
def rHalf(x:Rg) : Rg:=⟨wr ((rRoot x).a.tdiv 2),wr ((rRoot x).b.tdiv 2),wr ((rRoot x).c.tdiv 2),wr ((rRoot x).d.tdiv 2)⟩
def rOm(x:Rg) : Rg:=⟨wr (-x.d),x.a,x.b,x.c⟩
def rTurnN:Nat->Rg->Rg
 | 0,x=>x
 | k+1,x=>rTurnN k (rOm x)
def turns(k:Int) : Int:=(wr (k.tmod 8+8)).tmod 8
def rTurn(x:Rg)(k:Int) : Rg:=rTurnN (turns k).toNat x
def lowN:Nat->Rg->Rg×Nat
 | 0,x=>(x,0)
 | m+1,x=>if rEven x then lowN m (rHalf x) else (x,m+1)
def dLow(x:Rg)(exp:Int) : Dy:=⟨(lowN exp.toNat x).1,if 0<exp then ((lowN exp.toNat x).2:Int) else exp⟩
def dPow(k:Int) : Dy:=⟨rTurn ⟨1,0,0,0⟩ k,0⟩
def dNeg(x:Dy) : Dy:=⟨rNeg x.num,x.exp⟩
def dZ:Dy:=⟨⟨0,0,0,0⟩,0⟩
theorem X4c{x:Rg}{exp:Int}(h0:0<exp)(he:rEven x=true) : dLow x exp=dLow (rHalf x) (exp-1):=by
 obtain ⟨m,hm⟩ : ∃ m:Nat,exp=m+1:=⟨(exp-1).toNat,by omega⟩
 subst hm
 have e1:((m:Int)+1).toNat=m+1:=by omega
 have e2:((m:Int)+1-1)=m:=by omega
 unfold dLow
 rw [e1,e2,Qj]
 simp only [lowN,he,if_true,h0]
 cases m with
 | zero=>simp [lowN]
 | succ k=>simp
theorem X2h{x:Rg}{exp:Int}(h:0<exp->rEven x=false) : dLow x exp=⟨x,exp⟩:=by
 unfold dLow
 by_cases h0:0<exp
 ·obtain ⟨m,hm⟩ : ∃ m:Nat,exp=m+1:=⟨(exp-1).toNat,by omega⟩
  subst hm
  have e1:((m:Int)+1).toNat=m+1:=by omega
  rw [e1]
  simp only [lowN,h h0,Bool.false_eq_true,if_false,h0,if_true]
  rfl
 ·have e1:exp.toNat=0:=by omega
  rw [e1]
  simp [lowN,h0]
section
variable {α : Type} {p : α -> Bool} {l : List α} {k : Nat} {u : α}
theorem X2g(h:(l.take k).all p=true)(hu:l[k]? = some u)(hp:p u=true) : (l.take (k+1)).all p=true:=by
 rw [Qt,hu]
 simp only [List.all_append,h,Option.toList_some,List.all_cons,hp,List.all_nil,Bool.and_self]
theorem Xbs(hu:l[k]? = some u)(hp:p u=false) : l.all p=false:=by grind
theorem X28(h:(l.take k).all p=true)(hk:l.length<=k) : l.all p=true:=by rwa [Qi hk] at h
end
theorem X3n{α:Type}{p:α->Bool}{l:List α}{k:Nat}{u:α}(hu:l[k]? = some u)(hp:p u=true) : l.any p=true:=by grind
theorem X2w{α:Type}{p:α->Bool}{l:List α}(h:l.all (fun x=>!p x)=true) : l.any p=false:=by grind
theorem X46(k:Int) : 0<=turns k/\turns k<8:=by
 have h1:-8<k.tmod 8/\k.tmod 8<8:=by
  rcases Int.le_total 0 k with h|h
  ·rw [Int.tmod_eq_emod_of_nonneg h];omega
  ·have h2:(-k).tmod 8 = -(k.tmod 8):=Int.neg_tmod _ _
   rw [Int.tmod_eq_emod_of_nonneg Z] at h2
   omega
 unfold turns
 rw [X11 Z Z]
 have h4:0<=k.tmod 8+8:=by omega
 rw [Int.tmod_eq_emod_of_nonneg h4]
 omega
def rIf2(x:Rg)(l:List Rg) : Bool:=(l++[x]).all rOk
def rIf1(x:Rg)(l:List Rg) : Rg:=if rIf2 x l=true then x else ⟨0,0,0,0⟩
def rDiv2(x:Rg) : Bool:=rOk x&&rEven x
def rDiv1(x:Rg) : Rg:=if rDiv2 x=true then rHalf x else ⟨0,0,0,0⟩
theorem X0b{n lo hi:Int} : inR n lo hi=true↔lo<=n/\n<=hi:=by simp [inR]
theorem X2r{x:Rg} : rOk x=true↔(-1000000000<=x.a/\x.a<=1000000000)/\(-1000000000<=x.b/\x.b<=1000000000)/\(-1000000000<=x.c/\x.c<=1000000000)/\(-1000000000<=x.d/\x.d<=1000000000):=by
 simp only [rOk,Qd,X0b,and_assoc]
theorem Xi6{i:Int}(h1:-2000000000<=i)(h2:i<=2000000000) : -1000000000<=i.tdiv 2/\i.tdiv 2<=1000000000:=by grind
theorem X4u{i:Int}(h1:-2000000000<=i)(h2:i<=2000000000) : -1000000000<=wr ((wr i).tdiv 2)/\wr ((wr i).tdiv 2)<=1000000000:=by
 rw [X11 (i:=i) Z Z]
 have:=Xi6 h1 h2
 rw [X11 Z Z]
 exact this
theorem X7o{x:Rg}(h:rOk x=true) : rOk (rHalf x)=true:=by
 rw [X2r] at h ⊢
 exact ⟨X4u Z Z,X4u Z Z,X4u Z Z,X4u Z Z⟩
theorem Xpw{x:Rg}(h:rOk x=true) : rIf2 (rHalf x) [x]=true:=by simp [rIf2,h,X7o h]
def mulOm2(x:Rg)(k:Int) : Bool:=inR k (-1000) 1000&&rOk x
def mulOm1(x:Rg)(k:Int) : Rg:=if mulOm2 x k=true then rTurn x k else ⟨0,0,0,0⟩
def dOk(x:Dy) : Bool:=rOk x.num&&inR x.exp 0 60&&(x.exp==0||!rEven x.num)
theorem X37{x:Dy}(h:dOk x=true) : 0<=x.exp/\x.exp<=60:=by
 simp only [dOk,Qd,X0b] at h
 exact h.1.2
theorem Xcs{a b c:Bool}(h:(!a||!b||!c)=true) : (a&&b&&c)=false:=by revert h;cases a<;>cases b<;>cases c<;>simp
theorem Xg8{a b c:Bool}(h:(!a||!b||!c)=false) : (a&&b&&c)=true:=by revert h;cases a<;>cases b<;>cases c<;>simp
theorem X66{a b:Bool}(h:(!a||!b)=true) : (a&&b)=false:=by revert h;cases a<;>cases b<;>simp
theorem X7k{a b:Bool}(h:(!a||!b)=false) : (a&&b)=true:=by revert h;cases a<;>cases b<;>simp
theorem Y0v{a b c:Bool}(h:(a&&b&&c)=true) : a=true/\b=true/\c=true:=by revert h;cases a<;>cases b<;>cases c<;>simp
def dOf(x:Rg)(m:Int) : Option Dy:=if (rOk x&&inR m 0 60)=true then some (dLow x m) else none
def raiseI:Nat->Rg->Rg×Bool
 | 0,y=>(y,true)
 | n+1,y=>if rIf2 (rRoot y) [y]=true then raiseI n (rRoot y) else (⟨0,0,0,0⟩,false)
def dRaise(x:Dy)(m:Int) : Rg×Bool:=raiseI (m-x.exp).toNat x.num
theorem Xhz{x:Dy}{m j:Int}{y:Rg}{b:Bool}(h:(if b=true then raiseI (m-j).toNat y else (y,false))=dRaise x m)(hb:b=true)(hj:j<m) :
  (if rIf2 (rRoot y) [y]=true then raiseI (m-(j+1)).toNat (rIf1 (rRoot y) [y]) else (rIf1 (rRoot y) [y],false))=dRaise x m:=by
 rw [<- h,Q4 hb]
 obtain ⟨k,hk⟩ : ∃ k,(m-j).toNat=k+1:=⟨(m-j).toNat-1,by omega⟩
 rw [hk,show (m-(j+1)).toNat=k from by omega]
 unfold rIf1
 by_cases hh:rIf2 (rRoot y) [y]=true<;>simp [raiseI,hh]
def dAddI(x y:Dy) : Option Dy:=
 if (dOk x&&dOk y)=true then
  if ((dRaise x (max x.exp y.exp)).2&&(dRaise y (max x.exp y.exp)).2&&rIf2 (rAdd (dRaise x (max x.exp y.exp)).1 (dRaise y (max x.exp y.exp)).1) [(dRaise x (max x.exp y.exp)).1,(dRaise y (max x.exp y.exp)).1])=true then
   dOf (rIf1 (rAdd (dRaise x (max x.exp y.exp)).1 (dRaise y (max x.exp y.exp)).1) [(dRaise x (max x.exp y.exp)).1,(dRaise y (max x.exp y.exp)).1]) (max x.exp y.exp)
  else none
 else none
def dMulI(x y:Dy) : Option Dy:=
 if (dOk x&&dOk y&&rIf2 (rMul x.num y.num) [x.num,y.num])=true then dOf (rIf1 (rMul x.num y.num) [x.num,y.num]) (x.exp+y.exp) else none
structure Mx where (rows cols:Int) (cells:List Dy)
def mZ:Mx:=⟨0,0,[]⟩
abbrev mV(A:Option Addr)(c:Nat)(m:Mx) : Value:=.agg #[.int .i64 m.rows,.int .i64 m.cols,.slice A m.cells.length c]
def isDimB(n:Int) : Bool:=inR n 1 32&&bits .and .i64 n (wr (n-1))==0
def mOk(m:Mx) : Bool:=isDimB m.rows&&isDimB m.cols&&(m.cells.length:Int)==wr (m.rows*m.cols)&&!(m.cells.any fun x=>!dOk x)
def seqO(g:Nat->Option Dy) : Nat->Option (List Dy)
 | 0=>some []
 | n+1=>match seqO g n,g n with
  | some l,some x=>some (l++[x])
  | _,_=>none
theorem Xd0{g:Nat->Option Dy}{n:Nat}{l:List Dy}{x:Dy}(h:seqO g n=some l)(hx:g n=some x) : seqO g (n+1)=some (l++[x]):=by simp [seqO,h,hx]
theorem Xcy{g:Nat->Option Dy}{n:Nat}(hx:g n=none) : ∀ m,n<m->seqO g m=none
 | 0,h=>by omega
 | m+1,h=>by
  by_cases hm:n=m
  ·subst hm
   simp only [seqO,hx]
   split<;>simp_all
  ·simp only [seqO,Xcy hx m Z]
theorem X5j{g:Nat->Option Dy} : ∀ {n:Nat} {l:List Dy},seqO g n=some l->l.length=n
 | 0,l,h=>by simp [seqO] at h;subst h;rfl
 | n+1,l,h=>by
  simp only [seqO] at h
  split at h
  ·rename_i l' x h1 h2
   injection h with h
   subst h
   simp [X5j h1]
  ·cases h
def gridG(f:Nat->Nat->Option Dy)(C:Nat)(n:Nat) : Option Dy:=f (n/C) (n % C)
theorem Xas{f:Nat->Nat->Option Dy}{C i j:Nat}(hj:j<C) : gridG f C (i*C+j)=f i j:=by
 unfold gridG
 have h1:(i*C+j)/C=i:=by rw [Wi,Nat.mul_add_div Z,Nat.div_eq_of_lt hj];omega
 have h2:(i*C+j) % C=j:=by rw [Wi,Nat.mul_add_mod,Nat.mod_eq_of_lt hj]
 rw [h1,h2]
def matOf(R C:Int)(f:Nat->Nat->Option Dy) : Option Mx:=
 if (isDimB R&&isDimB C)=true then (seqO (gridG f C.toNat) (R.toNat*C.toNat)).map fun l=>⟨R,C,l⟩ else none
def Mx.at(m:Mx)(i j:Nat) : Dy:=m.cells.getD (i*m.cols.toNat+j) dZ
theorem Mx.at_get{m:Mx}{i j:Nat}(h:i*m.cols.toNat+j<m.cells.length) : m.cells[i*m.cols.toNat+j]? = some (m.at i j):=by
 rw [Mx.at,Qa,Qc h];rfl
theorem X2t{n:Int}(h:isDimB n=true) : 1<=n/\n<=32:=by
 simp only [isDimB,Qd,X0b] at h
 exact h.1
theorem X3b{m:Mx}(h:mOk m=true) : (1<=m.rows/\m.rows<=32)/\(1<=m.cols/\m.cols<=32)/\m.cells.length=m.rows.toNat*m.cols.toNat:=by
 simp only [mOk,Qd,beq_iff_eq] at h
 obtain ⟨⟨⟨h1,h2⟩,h3⟩,h4⟩:=h;have h1:=X2t h1;have h2:=X2t h2
 refine ⟨h1,h2,?_⟩
 obtain ⟨r,hr⟩ : ∃ r:Nat,m.rows=r:=⟨m.rows.toNat,by omega⟩
 obtain ⟨c,hc⟩ : ∃ c:Nat,m.cols=c:=⟨m.cols.toNat,by omega⟩
 rw [hr] at h1
 rw [hc] at h2
 rw [hr,hc] at h3 ⊢
 have h5:r*c<=32*32:=Nat.mul_le_mul Z Z
 rw [<- Int.natCast_mul,X11 Z Z] at h3
 simp only [Qj]
 exact Int.natCast_inj.1 h3
theorem X41{R C i j:Nat}(hi:i<R)(hj:j<C) : i*C+j<R*C:=by
 have h1:(i+1)*C<=R*C:=Nat.mul_le_mul_right _ hi
 rw [Wb] at h1
 omega
def dotI(a b:Mx)(i j:Nat) : Nat->Option Dy
 | 0=>some dZ
 | n+1=>(dotI a b i j n).bind fun s=>(dMulI (a.at i n) (b.at n j)).bind fun x=>dAddI s x
theorem Xby{a b:Mx}{i j n:Nat}(h:dotI a b i j n=none) : ∀ m,n<=m->dotI a b i j m=none
 | 0,h'=>by
  obtain rfl:n=0:=by omega
  exact h
 | m+1,h'=>by
  by_cases hm:n=m+1
  ·subst hm;exact h
  ·simp [dotI,Xby h m Z]
def mulI(a b:Mx) : Option Mx:=if (mOk a&&mOk b&&a.cols==b.rows)=true then matOf a.rows b.cols fun i j=>dotI a b i j a.cols.toNat else none
def idI(n:Int) : Option Mx:=matOf n n fun i j=>some (if i=j then ⟨⟨1,0,0,0⟩,0⟩ else dZ)
def scaleI(m:Mx)(x:Dy) : Option Mx:=if (mOk m&&dOk x)=true then matOf m.rows m.cols fun i j=>dMulI (m.at i j) x else none
abbrev Za3(x y:Dy):=rIf1 (rAdd ((dRaise x (max x.exp y.exp)).1) ((dRaise y (max x.exp y.exp)).1)) [((dRaise x (max x.exp y.exp)).1),((dRaise y (max x.exp y.exp)).1)]
abbrev Za5(p q:Mx)(i k l j:Nat) : Dy:=(dMulI (p.at i k) (q.at l j)).getD dZ
theorem X8a{P:Program}{t:TypeId}{fs:Array Field}(h:P.underlying t=some (.struct fs)) : P.fieldsOf t=fs:=by simp [Program.fieldsOf,h]
theorem Xcx{P:Program}{w:World}{t k:Nat}{xs:Array Value}{v:Value}(h1:OneT P t)(h:xs[k]? = some v) : (part t xs k).run P w=.ok v w:=by
 simp [part,X6n h1,h]
theorem X1z {P : Program} {w : World} {d : Nat} {xs ys : Array Value} {f : Field} {fs : List Field} {k : IntKind} {i j : Int} (hn : f.name ≠ "_") (hT : OneT P f.type) (hu : P.underlying f.type = some (.int k)) (hx : xs[f.offset]? = some (.int .i64 i)) (hy : ys[f.offset]? = some (.int .i64 j))
  {r:Bool} (h:i=j->(Op.eqFields (d+1) xs ys fs).run P w=.ok r w) : (Op.eqFields (d+1) xs ys (f::fs)).run P w=.ok (decide (i=j)&&r) w:=by
 simp only [Op.eqFields,hn,ne_eq,not_false_eq_true,if_true,Sem.run_bind,Xcx hT hx,Xcx hT hy,Result.andThen_ok,run_equalIn_int _ _ _ _ _ _ _ hu]
 by_cases hij:i=j
 ·subst hij
  simp [h rfl]
 ·simp [hij]
theorem eqR(d:Nat)(x y:Rg)(w:World) : (Op.equalIn (d+2) 137 (rV x) (rV y)).run Tryz.prog w=.ok (decide (x=y)) w:=by
 have hf:=X8a Tryz.underlying137;refine (run_equalIn_struct w (d+1) 137 _ _ (by rw [hf];exact Tryz.underlying137) O2).trans ?_
 rw [hf]
 have:decide (x=y)=(decide (x.a=y.a)&&(decide (x.b=y.b)&&(decide (x.c=y.c)&&(decide (x.d=y.d)&&true)))):=by
  obtain ⟨a,b,c,d⟩:=x;obtain ⟨a',b',c',d'⟩:=y
  simp
 rw [this]
 refine X1z O4 X8 Tryz.underlying3 O O fun _=>?_;refine X1z O4 X8 Tryz.underlying3 O O fun _=>?_;refine X1z O4 X8 Tryz.underlying3 O O fun _=>?_;refine X1z O4 X8 Tryz.underlying3 O O fun _=>?_
 rfl
theorem Xm6{P:Program}{w:World}{t k n:Nat}{xs:Array Value}(h1:AggT P t n) : (part t xs k).run P w=.ok (.agg (xs.extract k (k+n))) w:=by
 simp [part,X6m h1,run_sizeOf' h1.2]
theorem Xdh {P : Program} {w : World} {d n : Nat} {xs ys : Array Value} {f : Field} {fs : List Field} {v1 v2 : Value} {b r : Bool} (hn : f.name ≠ "_") (hT : AggT P f.type n) (hx : .agg (xs.extract f.offset (f.offset + n)) = v1) (hy : .agg (ys.extract f.offset (f.offset + n)) = v2)
  (he:(Op.equalIn d f.type v1 v2).run P w=.ok b w) (h:b=true->(Op.eqFields d xs ys fs).run P w=.ok r w) : (Op.eqFields d xs ys (f::fs)).run P w=.ok (b&&r) w:=by
 simp only [Op.eqFields,hn,ne_eq,not_false_eq_true,if_true,Sem.run_bind,Xm6 hT,Result.andThen_ok,hx,hy,he]
 cases b
 ·simp
 ·simp [h rfl]
theorem eqD(d:Nat)(x y:Dy)(w:World) : (Op.equalIn (d+3) 139 (dV x) (dV y)).run Tryz.prog w=.ok (decide (x=y)) w:=by
 have hf:=X8a Tryz.underlying139;refine (run_equalIn_struct w (d+2) 139 _ _ (by rw [hf];exact Tryz.underlying139) O2).trans ?_
 rw [hf]
 have:decide (x=y)=(decide (x.num=y.num)&&(decide (x.exp=y.exp)&&true)):=by
  obtain ⟨a,b⟩:=x;obtain ⟨a',b'⟩:=y
  simp
 rw [this]
 refine Xdh (v1:=rV x.num) (v2:=rV y.num) O4 X0k O O (eqR d _ _ _) fun _=>?_;exact X1z O4 X8 Tryz.underlying3 O O fun _=>rfl
theorem Xns(d:Nat)(x y:Gt)(w:World) : (Op.equalIn (d+2) 59 (gV x) (gV y)).run Tryz.prog w=.ok (decide (x=y)) w:=by
 have hf:=X8a Tryz.underlying59;refine (run_equalIn_struct w (d+1) 59 _ _ (by rw [hf];exact Tryz.underlying59) O2).trans ?_
 rw [hf]
 have:decide (x=y)=(decide (x.k=y.k)&&(decide (x.a=y.a)&&(decide (x.b=y.b)&&true))):=by
  obtain ⟨a,b,c⟩:=x;obtain ⟨a',b',c'⟩:=y
  simp
 rw [this]
 refine X1z O4 X8 Tryz.underlying3 O O fun _=>?_;refine X1z O4 X8 Tryz.underlying3 O O fun _=>?_;refine X1z O4 X8 Tryz.underlying3 O O fun _=>?_
 rfl
section
variable {P : Program} {a : Act} {w : World} {n : Nat} {e : Env} {ty : TypeId} {pos : String} {af : Array Edge} {g : Option (Nat × Bool)} {d : Option Tmp} {t t' : TypeId} {x y : Operand} {X Y : Array Value} {b : Bool}
theorem Xrz(hf:Fr a n e)(hx:ev e x=some (.agg X))(hy:ev e y=some (.agg Y))(hm:P.eqGuardType P.depth t=false)(he:∀ w,(Op.equalIn 10000 t (.agg X) (.agg Y)).run P w=.ok b w) : Ev P ⟨d,.binOp .neq t x y t',ty,pos,af,g⟩ a w (.bool (!b)):=fun w' _=>by
 have h1:=run_eqGuard_agg (P:=P) w' .neq t x y X Y hm;have h2:=run_neq_struct (P:=P) w' t X Y
 rw [he] at h2
 simp [execOp,hf.ev hx,hf.ev hy,h1,h2]
theorem Xf6(hx:ev e x=some (.agg X))(hy:ev e y=some (.agg Y))(hm:P.eqGuardType P.depth t=false)(he:∀ w,(Op.equalIn 10000 t (.agg X) (.agg Y)).run P w=.ok b w) : EvW P ⟨d,.binOp .neq t x y t',ty,pos,af,g⟩ n e w (.bool (!b)):=fun a hf=>Xrz hf hx hy hm he
end
theorem Xho:Tryz.prog.eqGuardType Tryz.prog.depth 139=false:=by kernel_rfl
theorem Xow:Tryz.prog.eqGuardType Tryz.prog.depth 59=false:=by kernel_rfl
theorem X9x{α:Type}{l m:List α}{k:Nat}{u v:α}(h:l.take k=m.take k)(hu:l[k]? = some u)(hv:m[k]? = some v)(he:u=v) : l.take (k+1)=m.take (k+1):=by
 rw [Qt,Qt,h,hu,hv,he]
theorem Xwv{P:Program}{a:Act}{w:World}{n:Nat}{e:Env}{ty:TypeId}{pos:String}{af:Array Edge}{g:Option (Nat×Bool)}{d:Option Tmp}{s t:TypeId}{x:Operand}{i:Int}{m:Nat}(hs:P.underlying s=some (.int .i64))(ht:P.underlying t=some (.int .u64))(hf:Fr a n e)(hx:ev e x=some (.int .i64 i))(hi:i=(m:Int))(hm:m<=64) :
  Ev P ⟨d,.convert s t x,ty,pos,af,g⟩ a w (.int .u64 (m:Int)):=fun w' _=>by
 subst hi
 have h:IntKind.u64.wrap (m:Int)=(m:Int):=by
  simp only [IntKind.wrap]
  simp only [IntKind.bits,IntKind.signed,Bool.false_and,Bool.false_eq_true,if_false]
  omega
 simp [execOp,hf.ev hx,convert,X0t hs,X0t ht,Conv.intToInt,h]
theorem Xh4{P:Program}{w:World}{n:Nat}{e:Env}{ty:TypeId}{pos:String}{af:Array Edge}{g:Option (Nat×Bool)}{d:Option Tmp}{s t:TypeId}{x:Operand}{i:Int}{m:Nat}(hs:P.underlying s=some (.int .i64))(ht:P.underlying t=some (.int .u64))(hx:ev e x=some (.int .i64 i))(hi:i=(m:Int))(hm:m<=64) : EvW P ⟨d,.convert s t x,ty,pos,af,g⟩ n e w (.int .u64 (m:Int)):=fun a hf=>Xwv hs ht hf hx hi hm
def bitF(n s q:Int) : Int:=bits .and .i64 (s/2^(n-1-q).toNat) 1
def flipF(n s q:Int) : Int:=bits .xor .i64 s (wr (1*2^(n-1-q).toNat))
def turnOf(k:Int) : Int:=if k=4 then 4 else if k=5 then 2 else if k=6 then 6 else if k=7 then 1 else 7
theorem Xqo{k:Int}(h1:4<=k)(h2:k<=8) : ([4,2,6,1,7] : List Int)[(k-4).toNat]? = some (turnOf k):=by
 have:k=4∨k=5∨k=6∨k=7∨k=8:=by omega
 rcases this with rfl|rfl|rfl|rfl|rfl<;>rfl
def dHalf:Dy:=⟨⟨1,0,0,0⟩,1⟩
def oneL(k:Int) : List Dy:=
 if k=1 then [dHalf,dHalf,dHalf,dNeg dHalf] else if k=2 then [dZ,dPow 0,dPow 0,dZ] else if k=3 then [dZ,dPow 6,dPow 2,dZ] else [dPow 0,dZ,dZ,dPow (turnOf k)]
theorem Own.of_blkL{α:Type}{w:World}{B0 b k:Nat}{E:TypeId}{sz:Nat}{enc:α->List Value}{cs:List Value}{l:List α}(hsz:∀ x,(enc x).length=sz)(h:Blk w b E cs)(hb:B0<=b)(hc:l.flatMap enc=cs)(hl:l.length=k)(hk:k<=maxLen) : Own w B0 E sz enc (some ⟨b,0,none⟩) k l:=by
 subst hc;subst hl
 have h1:=X0h hsz l
 refine ⟨h1,.inr ⟨b,l.length,_,O,hb,h,Qb _,hk,?_,?_⟩⟩
 ·simpa using h1
 ·rw [<- h1];exact List.take_length
structure Cx where (n:Int) (gs:List Gt)
def gOk(n:Int)(x:Gt) : Bool:=
 inR n 1 5&&inR x.k 1 12&&(if x.k=12 then x.a==0&&x.b==0 else if inR x.k 9 11=true then inR x.a 0 (n-1)&&inR x.b 0 (n-1)&&x.a != x.b else inR x.a 0 (n-1)&&x.b==0)
def cOk(c:Cx) : Bool:=inR c.n 1 5&&decide ((c.gs.length:Int)<=400)&&!(c.gs.any fun x=>!gOk c.n x)
def eqPhT(p q:Mx)(k:Nat) : Bool:=(scaleI q (dPow k)).isSome&&(decide (p.rows=((scaleI q (dPow k)).getD mZ).rows)&&decide (p.cols=((scaleI q (dPow k)).getD mZ).cols)&&decide (p.cells=((scaleI q (dPow k)).getD mZ).cells))
def eqPh(p q:Mx) : Bool:=(List.range 8).any (eqPhT p q)
theorem Xcu{f:Nat->Bool}{k:Nat}(h:k<8)(hf:f k=true) : (List.range 8).any f=true:=List.any_eq_true.2 ⟨k,W2.2 h,hf⟩
theorem Xb3{f:Nat->Bool}(h:∀ k<8,f k=false) : (List.range 8).any f=false:=by grind
def sRing(x:Rg) : Rg:=if rOk x=true then x else ⟨0,0,0,0⟩
def sRaiseN:Nat->Bool->Dy->Bool×Dy
 | 0,f,x=>(f,x)
 | n+1,f,x=>sRaiseN n (f||!rOk (rRoot x.num)) ⟨sRing (rRoot x.num),x.exp+1⟩
def sAdd(f:Bool)(x y:Dy) : Bool×Dy:=
 ((sRaiseN ((sRaiseN (y.exp-x.exp).toNat f x).2.exp-y.exp).toNat (sRaiseN (y.exp-x.exp).toNat f x).1 y).1||!rOk (rAdd (sRaiseN (y.exp-x.exp).toNat f x).2.num (sRaiseN ((sRaiseN (y.exp-x.exp).toNat f x).2.exp-y.exp).toNat (sRaiseN (y.exp-x.exp).toNat f x).1 y).2.num),
 dLow (sRing (rAdd (sRaiseN (y.exp-x.exp).toNat f x).2.num (sRaiseN ((sRaiseN (y.exp-x.exp).toNat f x).2.exp-y.exp).toNat (sRaiseN (y.exp-x.exp).toNat f x).1 y).2.num)) (sRaiseN (y.exp-x.exp).toNat f x).2.exp)
def sMul(f:Bool)(x y:Dy) : Bool×Dy:=
 if 60<x.exp+y.exp then (true,dZ) else (f||!rOk (rMul x.num y.num),dLow (sRing (rMul x.num y.num)) (x.exp+y.exp))
theorem X94{f1 f:Bool}{x1 x:Dy}{m:Int}{k:Nat}(h:sRaiseN (m-x1.exp).toNat f1 x1=sRaiseN k f x)(hlt:x1.exp<m) :
  sRaiseN (m-(x1.exp+1)).toNat (f1||!rOk (rRoot x1.num)) ⟨sRing (rRoot x1.num),x1.exp+1⟩=sRaiseN k f x:=by
 rw [<- h]
 obtain ⟨j,hj⟩ : ∃ j,(m-x1.exp).toNat=j+1:=⟨(m-x1.exp).toNat-1,by omega⟩
 rw [hj,show (m-(x1.exp+1)).toNat=j from by omega]
 rfl
theorem X93{f1 f:Bool}{x1 x:Dy}{m:Int}{k:Nat}(h:sRaiseN (m-x1.exp).toNat f1 x1=sRaiseN k f x)(hlt:¬ x1.exp<m) : sRaiseN k f x=(f1,x1):=by
 rw [<- h,show (m-x1.exp).toNat=0 from by omega]
 rfl
theorem X36(n s q:Int) : bitF n s q=0∨bitF n s q=1:=by
 have key:∀ b:BitVec 64,IntKind.i64.wrap ((b &&& BitVec.ofInt 64 1).toNat:Int)=0∨IntKind.i64.wrap ((b &&& BitVec.ofInt 64 1).toNat:Int)=1:=fun b=>by
  have:(BitVec.ofInt 64 1).toNat=1:=by decide
  have h:(b &&& BitVec.ofInt 64 1).toNat=0∨(b &&& BitVec.ofInt 64 1).toNat=1:=by
   rw [BitVec.toNat_and,this,Nat.and_one_is_mod]
   omega
  rcases h with h|h<;>rw [h]
  ·exact .inl O
  ·exact .inr O
 exact key _
theorem X1i{n:Int}{g:Gt}(h:gOk n g=true) : (1<=n/\n<=5)/\(1<=g.k/\g.k<=12)/\(g.k≠12->0<=g.a/\g.a<n)/\(9<=g.k/\g.k<=11->0<=g.b/\g.b<n/\g.a≠g.b):=by
 simp only [gOk,Qd,X0b] at h
 obtain ⟨⟨h1,h2⟩,h3⟩:=h
 refine ⟨h1,h2,fun hk=>?_,fun hk=>?_⟩
 ·rw [Q3 hk] at h3
  split at h3<;>simp only [Qd,X0b] at h3<;>omega
 ·rw [Q3 Z,Q4 hk] at h3
  simp only [Qd,X0b,bne_iff_ne] at h3
  exact ⟨h3.1.2.1,by omega,h3.2⟩
def toS(n:Int)(g:Gt)(col:Int) : Int:=
 if g.k=9 then (if bitF n col g.a=1 then flipF n col g.b else col) else if g.k=11 then (if bitF n col g.a≠bitF n col g.b then flipF n (flipF n col g.a) g.b else col) else col
def valS(n:Int)(g:Gt)(col:Int) : Dy:=if g.k=12 then dPow 1 else if g.k=10/\bitF n col g.a=1/\bitF n col g.b=1 then dPow 4 else dPow 0
def cellS(n:Int)(g:Gt)(row col:Int) : Dy:=
 if g.k<=8 then (if bits .andNot .i64 (bits .xor .i64 row col) (wr (1*2^(n-1-g.a).toNat))≠0 then dZ else (oneL g.k).getD (2*bitF n row g.a+bitF n col g.a).toNat dZ)
 else if row=toS n g col then valS n g col else dZ
theorem Xph{k:Int}{m:Nat}(h:m<4) : (oneL k)[m]? = some ((oneL k).getD m dZ):=by grind [dZ,oneL]
theorem X1k{i j:Int}(h:(i==j)=false) : ¬ i=j:=by simpa using h
theorem Xs0{P:Program}{a:Act}{w:World}{n:Nat}{e:Env}{ty:TypeId}{pos:String}{af:Array Edge}{g:Option (Nat×Bool)}{d:Option Tmp}{t t':TypeId}{x y:Operand}{j:Int}{k:IntKind}{m D:Nat}(hf:Fr a n e)(hx:ev e x=some (.int .i64 1))(hy:ev e y=some (.int k j))(hj:j=(m:Int))(hD:D=2^m/\m<=30) : Ev P ⟨d,.binOp .shl t x y t',ty,pos,af,g⟩ a w (.int .i64 (D:Int)):=by
 have h:=Xo4 (P:=P) (w:=w) (d:=d) (ty:=ty) (pos:=pos) (af:=af) (g:=g) (t:=t) (t':=t') (i:=1) hf hx hy hj Z
 have h2:IntKind.i64.wrap (1*2^m)=(D:Int):=by
  rw [hD.1]
  have h3:(2:Nat)^m<=2^30:=Nat.pow_le_pow_right O4 hD.2
  have h4:(2:Int)^m=((2^m:Nat) : Int):=by simp
  rw [Int.one_mul,h4]
  exact IntWalk.i64_in _ ⟨by omega,by omega⟩
 rwa [h2] at h
theorem Xbp{P:Program}{w:World}{n:Nat}{e:Env}{ty:TypeId}{pos:String}{af:Array Edge}{g:Option (Nat×Bool)}{d:Option Tmp}{t t':TypeId}{x y:Operand}{j:Int}{k:IntKind}{m D:Nat}(hx:ev e x=some (.int .i64 1))(hy:ev e y=some (.int k j))(hj:j=(m:Int))(hD:D=2^m/\m<=30) : EvW P ⟨d,.binOp .shl t x y t',ty,pos,af,g⟩ n e w (.int .i64 (D:Int)):=fun a hf=>Xs0 hf hx hy hj hD
def gridF(f:Nat->Nat->Dy)(C:Nat)(m:Nat) : Dy:=f (m/C) (m % C)
def gridL(f:Nat->Nat->Dy)(C:Nat)(N:Nat) : List Dy:=(List.range N).map (gridF f C)
theorem Xoy{f:Nat->Nat->Dy}{C i j:Nat}(hj:j<C) : gridF f C (i*C+j)=f i j:=by
 unfold gridF
 have h1:(i*C+j)/C=i:=by rw [Wi,Nat.mul_add_div Z,Nat.div_eq_of_lt hj];omega
 have h2:(i*C+j) % C=j:=by rw [Wi,Nat.mul_add_mod,Nat.mod_eq_of_lt hj]
 rw [h1,h2]
theorem Xhp{f:Nat->Nat->Dy}{C i j:Nat}(hj:j<C) : gridL f C (i*C+(j+1))=gridL f C (i*C+j)++[f i j]:=by
 unfold gridL
 rw [show i*C+(j+1)=(i*C+j)+1 from O,List.range_succ,List.map_append,List.map_singleton,Xoy hj]
theorem X63(f:Nat->Nat->Dy)(C N:Nat) : (gridL f C N).length=N:=by simp [gridL]
def gateS(n:Int)(g:Gt) : Mx:=⟨((2^n.toNat:Nat) : Int),((2^n.toNat:Nat) : Int),gridL (fun i j=>cellS n g i j) (2^n.toNat) (2^n.toNat*2^n.toNat)⟩
theorem X5b{n:Int}(h:n<=5) : 2^n.toNat<=32:=Nat.pow_le_pow_right (n:=2) O4 (show n.toNat<=5 by omega)
def dTurn(k:Int)(x:Dy) : Dy:=⟨rTurn x.num k,x.exp⟩
def turnedS(p q:Mx)(k:Int) : Bool:=decide (p.rows=q.rows)&&decide (p.cols=q.cols)&&decide (p.cells=q.cells.map (dTurn k))
theorem Xjy{α β:Type}{f:α->β}{l:List α}{i:Nat}{u:α}(h:l[i]? = some u) : (l.map f)[i]? = some (f u):=by simp [h]
def phaseS(p q:Mx) : Bool:=(List.range 8).any fun k=>turnedS p q (k:Int)
section
variable {n : Int} {g : Gt} (hn : 1 <= n /\ n <= 5)
include hn
theorem Y2z(h:inR g.k 1 8=true) : gOk n g=(inR g.a 0 (n-1)&&g.b==0):=by grind [gOk,inR]
theorem Y30(h:inR g.k 9 11=true) : gOk n g=(inR g.a 0 (n-1)&&inR g.b 0 (n-1)&&g.a != g.b):=by grind [gOk,inR]
theorem Y31(h1:inR g.k 1 8=false)(h2:inR g.k 9 11=false) : gOk n g=(g.k==12&&g.a==0&&g.b==0):=by grind [gOk,inR]
end
def entryI(k i j:Int) : Dy:=
 if k=1 then (if i=1/\j=1 then ⟨⟨-1,0,0,0⟩,1⟩ else dHalf) else if k=2/\i≠j then ⟨⟨1,0,0,0⟩,0⟩ else if k=3/\i≠j then dPow (2+4*j)
 else if k=2∨k=3∨i≠j then dZ else if i=0 then ⟨⟨1,0,0,0⟩,0⟩ else dPow (turnOf k)
theorem Xmd{k:Int}(h1:4<=k)(h2:k<=8) : (([(4,4,0),(5,2,1),(6,6,2),(7,1,3),(8,7,4)] : List (Int×Int×Nat)).find? fun p=>p.1==k).map (fun p=>p.2.1)=some (turnOf k):=by
 have:k=4∨k=5∨k=6∨k=7∨k=8:=by omega
 rcases this with rfl|rfl|rfl|rfl|rfl<;>rfl
theorem Xmc(k:Int) : inR (turnOf k) (-1000) 1000=true:=by
 unfold turnOf;split<;>(try split)<;>(try split)<;>(try split)<;>rfl
def czI(n:Int)(g:Gt)(i:Int) : Bool:=g.k==10&&bitF n i g.a==1&&bitF n i g.b==1
def cellI(n:Int)(g:Gt)(i j:Int) : Dy:=
 if g.k=12 then (if i=j then dPow 1 else dZ)
 else if inR g.k 9 11=true then (if toS n g i=j then dPow (4*(if czI n g i=true then 1 else 0)) else dZ)
 else if i=j∨flipF n i g.a=j then entryI g.k (bitF n i g.a) (bitF n j g.a) else dZ
def gateI(n:Int)(g:Gt) : Option Mx:=if gOk n g=true then matOf ((2^n.toNat:Nat) : Int) ((2^n.toNat:Nat) : Int) fun i j=>some (cellI n g i j) else none
theorem F91(w0:World)(n:Int)(lo:Int)(hi:Int) : Ret Tryz.prog 37 [vi n,vi lo,vi hi] w0 (fun v w=>v=.bool (inR n lo hi)/\w0=w):=by
 refine enter Tryz.func37 O 15 O O ?_;intro a c
 have hW:=bz w0
 refine Zs c fun _ aA=>?_;refine Za O<|ZX aA fun a c _ aB=>?_;refine X0f (fun a w=>Fr a 15 [(6,.bool ((decide (lo<=n))&&(decide (n<=hi))))]/\w0=w) ?_ ?_
 ·refine Zr c<|Zm O<|Zm O<|Ze (X6i O O)<|Zm O ?_
  refine Zg 10 O (fun b=>?_) (fun b=>?_)
  ·refine Zv (gW b) (X7 O) ?_;refine Zv (gW b) (X7 O) ?_;refine Zv (gW b) (X6i O O) ?_;refine Ze (Xf O b O)<|Za O ?_;refine Zn fun a c=>?_;exact ⟨c.sub ⟨X1 O (by first|rfl|(simp only [b,bs];done)|simp [b]),trivial⟩,O⟩
  (iterate 3 refine Zp (gP b) ?_);refine Ze (Xb O b O)<|Za O ?_;refine Zn fun a c=>?_;exact ⟨c.sub ⟨X1 O (by first|rfl|(simp only [b,bs];done)|simp [b]),trivial⟩,O⟩
 rintro a _ ⟨c,rfl⟩;refine aB _ _ ?_
 refine Q6 (X4 c (Xv c O O) ?_)
 exact ⟨by simp [inR, *],rfl⟩
theorem F85(w0:World)(n:Int)(lo:Int)(hi:Int) : Ret Tryz.prog 44 [vi n,vi lo,vi hi] w0 (fun v w=>v=.bool (inR n lo hi)/\w0=w):=by
 refine enter Tryz.func44 O 15 O O ?_;intro a c
 have hW:=bz w0
 refine Zs c fun _ aA=>?_;refine Za O<|ZX aA fun a c _ aB=>?_;refine X0f (fun a w=>Fr a 15 [(6,.bool ((decide (lo<=n))&&(decide (n<=hi))))]/\w0=w) ?_ ?_
 ·refine Zr c<|Zm O<|Zm O<|Ze (Xa2 O O)<|Zm O ?_
  refine Zg 10 O (fun b=>?_) (fun b=>?_)
  ·refine Zv (gW b) (X7 O) ?_;refine Zv (gW b) (X7 O) ?_;refine Zv (gW b) (X6i O O) ?_;refine Ze (Xf O b O)<|Za O ?_;refine Zn fun a c=>?_;exact ⟨c.sub ⟨X1 O (by first|rfl|(simp only [b,bs];done)|simp [b]),trivial⟩,O⟩
  (iterate 3 refine Zp (gP b) ?_);refine Ze (Xb O b O)<|Za O ?_;refine Zn fun a c=>?_;exact ⟨c.sub ⟨X1 O (by first|rfl|(simp only [b,bs];done)|simp [b]),trivial⟩,O⟩
 rintro a _ ⟨c,rfl⟩;refine aB _ _ ?_
 refine Q6 (X4 c (Xv c O O) ?_)
 exact ⟨by simp [inR, *],rfl⟩
theorem Xz8(w0:World)(x:Int)(y:Int) : Ret Tryz.prog 51 [vi x,vi y] w0 (fun v w=>v=vi (max x y)/\w0=w):=by
 refine enter Tryz.func51 O 10 O O ?_;intro a b
 have hW:=bz w0
 refine Zs b fun _ aB=>?_;refine Za O<|ZX aB fun a b _ aC=>?_;refine Zs b fun _ aD=>?_;refine Zm O<|Zm O<|Ze (X29 O O)<|Zt aD fun a b=>?_
 refine X12 b O (fun aA aE=>?_) (fun aA aE=>?_)
 ·refine Zs b fun _ aF=>?_;refine Zm O<|Za O<|Zt aF fun a b=>?_;refine Q6<|X5<|X4 b (Xv b O O) ?_;exact ⟨by congr 1;omega,rfl⟩
 refine Q7<|aC _ _<|Zs b fun _ aG=>?_;refine Zm O<|Za O<|Zt aG fun a b=>?_
 refine Q6 (X4 b (Xv b O O) ?_)
 exact ⟨by congr 1;omega,rfl⟩
theorem F99(w0:World)(k:Int) : Ret Tryz.prog 76 [vi k] w0 (fun v w=>v=.bool (inR k 9 11)/\w0=w):=by
 refine enter Tryz.func76 O 5 O O ?_;intro a hf
 have hW:=bz w0
 refine Zs hf fun _ aA=>?_;refine Za O<|Zx aA fun a hf _ aB=>?_;refine Zm O<|Zf (Vc (F91 _ k 9 11) X3c) ?_;rintro _ _ ⟨rfl,rfl⟩;refine Za O<|Zt aB fun a hf=>?_
 refine Q6 (X4 hf (Xv hf O O) ?_)
 exact ⟨O,O⟩
theorem Y2t(d:World)(Al:Option Addr)(cl:Nat)(l:List Int)(aD:Rd d d.heap.size 3 encI Al l)(lo:Int)(e:Int)(aR:l.length<=2305843009213693951) : Ret Tryz.prog 238 [.slice Al l.length cl,vi lo,vi e] d (fun v w=>v=.bool (l.all fun n=>inR n lo e)/\Below d.heap.size d w):=by
 refine enter Tryz.func238 O 21 O O ?_;intro a b
 have hW:=bz d
 refine Zs b fun _ aJ=>?_;refine Za O<|ZX aJ fun a b _ aK=>?_;refine Zs b fun _ aL=>?_;refine Zm O<|Ze (X0o O Xy)<|Zm O<|Zt aL fun a b=>?_;refine Q8<|X0d (σ:=Nat) (fun (k:Nat) (a:Act) (w:World)=>Fr a 21 [(1,vi lo),(2,vi e),(9,.slice Al l.length cl),(10,vi (l.length:Int)),(11,vi (k:Int))]/\(k<=l.length)/\((l.take k).all (fun n=>inR n lo e)=true)/\Below d.heap.size d w) (fun (k:Nat)=>l.length+1-k) 0 ?_ ?_
 ·exact ⟨b.sb,(Qf _),O5,hW⟩
 rintro k a w1 ⟨b,hk,f,hW⟩;refine Zs b fun _ aM=>?_;refine Ze (X16 O O)<|ZX aM fun a b _ aN=>?_
 refine X12 b O (fun aE aO=>?_) (fun aE aO=>?_)
 ·obtain ⟨u8,aA⟩:=Xj (l:=l) (k:=k) Z
  refine Q7<|aN _ _<|Q5 fun _ aP=>?_;refine Q8<|Zs b fun _ aF=>?_;refine Zi (k:=k) (u:=u8) (enc:=encI) (l:=l) tv0 O O Xy X1o Xt (aD.bx hW) aA O ?_;intro aS aB;refine Ze (X0 O X8 aB)<|Za O<|Zx aF fun a b _ aG=>?_;refine Zm O<|Zm O<|Zm O<|Zf (Vc (F85 _ u8 lo e) X3g) ?_;rintro _ _ ⟨rfl,rfl⟩;refine Ze (X0x O)<|Zt aG fun a b=>?_
  refine X04 b O (fun c=>?_) (fun c=>?_)
  ·have aC:(l.all fun n=>inR n lo e)=false:=Xbs aA (by simpa using c)
   refine Zs b fun _ aH=>?_;refine Za O<|Zt aH fun a b=>?_;refine Q6<|Xo<|X5<|X5 ?_;refine Xo<|X5<|X4 b (Xv b O O) ?_;exact ⟨by rw [aC],hW⟩
  have aQ:inR u8 lo e=true:=by simpa using c
  refine Q7<|Xn<|aP _ _<|Zr b ?_;refine Ze (X03 O O Z Z)<|Zm O ?_;refine Zn fun a b=>?_;refine Xd ?_;exact ⟨k+1,⟨b.sb,Z,(X2g f aA aQ),hW⟩,Z⟩
 refine Q9<|Xm<|Xm<|X0a ?_;refine aK _ _<|Zs b fun _ aI=>?_;refine Za O<|Zt aI fun a b=>?_
 refine Q6 (X4 b (Xv b O O) ?_)
 have aC:(l.all fun n=>inR n lo e)=true:=X28 f Z
 exact ⟨by rw [aC],hW⟩
theorem Y2p(w0:World)(x:Rg) : Ret Tryz.prog 223 [.agg #[vi x.a,vi x.b,vi x.c,vi x.d]] w0 (fun v w=>v=.bool (rOk x)/\Below w0.heap.size w0 w):=by
 refine enter Tryz.func223 O 13 O O ?_;intro a hf
 have e:=bz w0
 refine Zs hf fun _ aB=>?_;refine Zf (X0m (zs:=[vi x.a,vi x.b,vi x.c,vi x.d]) O O) ?_;rintro _ w1 ⟨b2,rfl,aC,hE,f⟩;have aF:=Q0 e.size aC;have e:=btr e hE;refine Za O<|Zx aB fun a hf _ aD=>?_;refine Ze (Vd O X0s 0)<|Ze (X0 O X8 (f.at 0))<|Ze (Vd O X0u 1)<|Ze (X0 O X8 (f.at 1))<|Ze (Vd O X0v 2)<|Ze (X0 O X8 (f.at 2))<|Ze (Vd O X0w 3)<|Ze (X0 O X8 (f.at 3))<|Zf (X2 (k:=4) (vs:=[vi x.a,vi x.b,vi x.c,vi x.d]) (zs:=[vi x.a,vi x.b,vi x.c,vi x.d]) O Xy X1a O O) ?_;rintro _ w2 ⟨b4,rfl,aE,hE,aA⟩;have aG:=Q0 e.size aE;have e:=btr e hE;refine Zf (Vc (Y2t _ (some ⟨b4,0,none⟩) 4 ([x.a,x.b,x.c,x.d]) (Rd.of_blk aA O _ aA.lt) (-1000000000) 1000000000 O5) Xy2) ?_;rintro _ w3 ⟨rfl,hE⟩;have e:=btr e hE;refine Za O<|Zt aD fun a hf=>?_
 refine Q6 (X4 hf (Xv hf O O) ?_)
 exact ⟨by simp [rOk,Bool.and_assoc],e⟩
theorem Xzm(w0:World)(x:Rg)(k:Int) : Ret Tryz.prog 161 [.agg #[vi x.a,vi x.b,vi x.c,vi x.d],vi k] w0 (fun v w=>v=rV (rTurn x k)/\Below w0.heap.size w0 w):=by
 refine enter Tryz.func161 O 24 O O ?_;intro a f
 have i:=bz w0
 refine Zs f fun _ aF=>?_;refine Zf (X0m (zs:=[vi x.a,vi x.b,vi x.c,vi x.d]) O O) ?_;rintro _ w1 ⟨b2,rfl,aG,hE,e⟩;have aA:=Q0 i.size aG;have i:=btr i hE;refine Zf (Xl (zs:=[vi 0,vi 0,vi 0,vi 0]) X2c O) ?_;rintro _ w2 ⟨b3,rfl,aH,hE,g⟩
 have aE:b2≠b3:=by have:=e.lt;omega
 have aB:=Q0 i.size aH;have e:=e.bw hE;have i:=btr i hE;refine ZX aF fun a f _ aI=>?_;refine Zs f fun _ aJ=>?_;refine Zm O<|Ze (Xa3 O O O)<|Ze (X2d O O)<|Ze (Xa3 O O O)<|Za O<|Zt aJ fun a f=>?_;refine Q8 ?_
 have hj:turns k=((turns k).toNat:Int):=by have:=X46 k;omega
 rw [show (wr (k.tmod 8+8)).tmod 8=turns k from O,hj] at f
 have aK:=(X46 k).2;refine X0d (σ:=Rg×Nat) (fun (s:Rg×Nat) (a:Act) (w:World)=>match s with|(y,j)=>Fr a 24 [(1,vi (j:Int)),(2,(pZ9 b2)),(4,(pZ9 b3))]/\(rTurnN j y=rTurn x k)/\(j<8)/\Blk w b2 137 [vi y.a,vi y.b,vi y.c,vi y.d]/\Blk w b3 137 [vi 0,vi 0,vi 0,vi 0]/\Below w0.heap.size w0 w) (fun (s:Rg×Nat)=>match s with|(y,j)=>j) (x,(turns k).toNat) ?_ ?_
 ·exact ⟨f.sb,O,Z,e,g,i⟩
 rintro ⟨y,j⟩ a w3 ⟨f,n,aK,e,g,i⟩;refine Q5 fun _ aL=>?_;refine Zs f fun _ aM=>?_;refine Zm O<|Ze (X29 O O)<|Zt aM fun a f=>?_
 refine X12 f O (fun aC aN=>?_) (fun aC aN=>?_)
 ·refine Q7<|aL _ _<|Q5 fun _ aO=>?_;refine Q8<|Zr f<|Ze (Vd O X0w 3)<|Ze (X0 O X8 (e.at 3))<|Ze (Xl4 O)<|Ze (Vd O X0s 0)<|Ze (X0 O X8 (e.at 0))<|Ze (Vd O X0u 1)<|Ze (X0 O X8 (e.at 1))<|Ze (Vd O X0v 2)<|Ze (X0 O X8 (e.at 2))<|Ze (Xi (ps:=[(0,vi (wr (-y.d))),(1,vi y.a),(2,vi y.b),(3,vi y.c)]) (cs:=[vi (wr (-y.d)),vi y.a,vi y.b,vi y.c]) O (fun _=>by first|rfl|kernel_rfl)) ?_;refine Zo (Vw [vi (wr (-y.d)),vi y.a,vi y.b,vi y.c] X1c e) ?_;rintro _ w4 ⟨ho,hb⟩;have g:=g.oy ho Z;have i:=Below.oy i ho aA;have e:=hb;refine Zn fun a f=>?_;refine Xn<|aO _ _<|Zr f<|Zm O<|Ze (X18 O O Z Z)<|Za O ?_;refine Zn fun a f=>?_
  have aP:((j:Int)-1)=((j-1:Nat) : Int):=by omega
  rw [aP] at f
  refine Xd ?_;exact ⟨(rOm y,j-1),⟨f.sb,(by rw [<- n];obtain ⟨m,rfl⟩ : ∃ m,j=m+1:=⟨j-1,by omega⟩;rfl),Z,e,g,i⟩,O1⟩
 refine Q9<|Xm<|Xm<|X0a ?_;refine aI _ _<|Zs f fun _ aD=>?_;refine Ze (Vn X0k e)<|Zo (Vw [vi y.a,vi y.b,vi y.c,vi y.d] X1c g) ?_;rintro _ w5 ⟨ho,hb⟩;have i:=Below.oy i ho aB;have g:=hb;refine Zt aD fun a f=>?_
 refine Q6 (X4 f (Xv f O (ResV.cellN (l:=[vi y.a,vi y.b,vi y.c,vi y.d]) O X0k (g.at 0) O)) ?_)
 have aQ:j=0:=by omega
 subst aQ
 rw [<- n]
 exact ⟨O,i⟩
theorem Xvy(w0:World)(x:Rg) : Ret Tryz.prog 195 [.agg #[vi x.a,vi x.b,vi x.c,vi x.d]] w0 (fun v w=>v=rV (rRoot x)/\Below w0.heap.size w0 w):=by
 refine enter Tryz.func195 O 24 O O ?_;intro a hf
 have f:=bz w0
 refine Zs hf fun _ aD=>?_;refine Zf (X0m (zs:=[vi x.a,vi x.b,vi x.c,vi x.d]) O O) ?_;rintro _ w1 ⟨b2,rfl,aE,hE,e⟩;have aH:=Q0 f.size aE;have f:=btr f hE;refine Zf (Xl (zs:=[vi 0,vi 0,vi 0,vi 0]) X2c O) ?_;rintro _ w2 ⟨b3,rfl,aF,hE,aA⟩
 have aC:b2≠b3:=by have:=e.lt;omega
 have aB:=Q0 f.size aF;have e:=e.bw hE;have f:=btr f hE;refine Zx aD fun a hf _ aG=>?_;refine Ze (Vd O X0u 1)<|Ze (X0 O X8 (e.at 1))<|Ze (Vd O X0w 3)<|Ze (X0 O X8 (e.at 3))<|Ze (X4a O O)<|Ze (Vd O X0s 0)<|Ze (X0 O X8 (e.at 0))<|Ze (Vd O X0v 2)<|Ze (X0 O X8 (e.at 2))<|Ze (X2d O O) ?_;refine Ze (Vd O X0u 1)<|Ze (X0 O X8 (e.at 1))<|Ze (Vd O X0w 3)<|Ze (X0 O X8 (e.at 3))<|Ze (X2d O O)<|Ze (Vd O X0v 2)<|Ze (X0 O X8 (e.at 2))<|Ze (Vd O X0s 0)<|Ze (X0 O X8 (e.at 0))<|Ze (X4a O O) ?_;refine Ze (Xi (ps:=[(0,vi (wr (x.b-x.d))),(1,vi (wr (x.a+x.c))),(2,vi (wr (x.b+x.d))),(3,vi (wr (x.c-x.a)))]) (cs:=[vi (wr (x.b-x.d)),vi (wr (x.a+x.c)),vi (wr (x.b+x.d)),vi (wr (x.c-x.a))]) O (fun _=>by first|rfl|kernel_rfl))<|Zo (Vw [vi (wr (x.b-x.d)),vi (wr (x.a+x.c)),vi (wr (x.b+x.d)),vi (wr (x.c-x.a))] X1c aA) ?_;rintro _ w3 ⟨ho,hb⟩;have f:=Below.oy f ho aB;have aA:=hb;refine Zt aG fun a hf=>?_
 refine Q6 (X4 hf (Xv hf O (ResV.cellN (l:=[vi (wr (x.b-x.d)),vi (wr (x.a+x.c)),vi (wr (x.b+x.d)),vi (wr (x.c-x.a))]) O X0k (aA.at 0) O)) ?_)
 exact ⟨O,f⟩
theorem Y2j(w0:World)(x:Rg)(y:Rg) : Ret Tryz.prog 197 [.agg #[vi x.a,vi x.b,vi x.c,vi x.d],.agg #[vi y.a,vi y.b,vi y.c,vi y.d]] w0 (fun v w=>v=rV (rAdd x y)/\Below w0.heap.size w0 w):=by
 refine enter Tryz.func197 O 26 O O ?_;intro a hf
 have g:=bz w0
 refine Zs hf fun _ aF=>?_;refine Zf (X0m (zs:=[vi x.a,vi x.b,vi x.c,vi x.d]) O O) ?_;rintro _ w1 ⟨b2,rfl,aG,i,e⟩;have aK:=Q0 g.size aG;have g:=btr g i;refine Zf (X0m (zs:=[vi y.a,vi y.b,vi y.c,vi y.d]) O O) ?_;rintro _ w2 ⟨b3,rfl,aH,i,f⟩
 have aC:b2≠b3:=by have:=e.lt;omega
 have aL:=Q0 g.size aH;have e:=e.bw i;have g:=btr g i;refine Zf (Xl (zs:=[vi 0,vi 0,vi 0,vi 0]) X2c O) ?_;rintro _ w3 ⟨b4,rfl,aI,i,aA⟩
 have aD:b2≠b4:=by have:=e.lt;omega
 have aE:b3≠b4:=by have:=f.lt;omega
 have aB:=Q0 g.size aI;have e:=e.bw i;have f:=f.bw i;have g:=btr g i;refine Zx aF fun a hf _ aJ=>?_;refine Ze (Vd O X0s 0)<|Ze (X0 O X8 (e.at 0))<|Ze (Vd O X0s 0)<|Ze (X0 O X8 (f.at 0))<|Ze (X2d O O)<|Ze (Vd O X0u 1)<|Ze (X0 O X8 (e.at 1))<|Ze (Vd O X0u 1)<|Ze (X0 O X8 (f.at 1))<|Ze (X2d O O) ?_;refine Ze (Vd O X0v 2)<|Ze (X0 O X8 (e.at 2))<|Ze (Vd O X0v 2)<|Ze (X0 O X8 (f.at 2))<|Ze (X2d O O)<|Ze (Vd O X0w 3)<|Ze (X0 O X8 (e.at 3))<|Ze (Vd O X0w 3)<|Ze (X0 O X8 (f.at 3))<|Ze (X2d O O) ?_;refine Ze (Xi (ps:=[(0,vi (wr (x.a+y.a))),(1,vi (wr (x.b+y.b))),(2,vi (wr (x.c+y.c))),(3,vi (wr (x.d+y.d)))]) (cs:=[vi (wr (x.a+y.a)),vi (wr (x.b+y.b)),vi (wr (x.c+y.c)),vi (wr (x.d+y.d))]) O (fun _=>by first|rfl|kernel_rfl))<|Zo (Vw [vi (wr (x.a+y.a)),vi (wr (x.b+y.b)),vi (wr (x.c+y.c)),vi (wr (x.d+y.d))] X1c aA) ?_;rintro _ w4 ⟨ho,hb⟩;have g:=Below.oy g ho aB;have aA:=hb;refine Zt aJ fun a hf=>?_
 refine Q6 (X4 hf (Xv hf O (ResV.cellN (l:=[vi (wr (x.a+y.a)),vi (wr (x.b+y.b)),vi (wr (x.c+y.c)),vi (wr (x.d+y.d))]) O X0k (aA.at 0) O)) ?_)
 exact ⟨O,g⟩
theorem Y2k(w0:World)(x:Rg)(y:Rg) : Ret Tryz.prog 198 [.agg #[vi x.a,vi x.b,vi x.c,vi x.d],.agg #[vi y.a,vi y.b,vi y.c,vi y.d]] w0 (fun v w=>v=rV (rMul x y)/\Below w0.heap.size w0 w):=by
 refine enter Tryz.func198 O 98 O O ?_;intro a hf
 have g:=bz w0
 refine Zs hf fun _ aF=>?_;refine Zf (X0m (zs:=[vi x.a,vi x.b,vi x.c,vi x.d]) O O) ?_;rintro _ w1 ⟨b2,rfl,aG,i,e⟩;have aK:=Q0 g.size aG;have g:=btr g i;refine Zf (X0m (zs:=[vi y.a,vi y.b,vi y.c,vi y.d]) O O) ?_;rintro _ w2 ⟨b3,rfl,aH,i,f⟩
 have aC:b2≠b3:=by have:=e.lt;omega
 have aL:=Q0 g.size aH;have e:=e.bw i;have g:=btr g i;refine Zf (Xl (zs:=[vi 0,vi 0,vi 0,vi 0]) X2c O) ?_;rintro _ w3 ⟨b4,rfl,aI,i,aA⟩
 have aD:b2≠b4:=by have:=e.lt;omega
 have aE:b3≠b4:=by have:=f.lt;omega
 have aB:=Q0 g.size aI;have e:=e.bw i;have f:=f.bw i;have g:=btr g i;refine Zx aF fun a hf _ aJ=>?_;refine Ze (Vd O X0s 0)<|Ze (X0 O X8 (e.at 0))<|Ze (Vd O X0s 0)<|Ze (X0 O X8 (f.at 0))<|Ze (X2n O O)<|Ze (Vd O X0u 1)<|Ze (X0 O X8 (e.at 1))<|Ze (Vd O X0w 3)<|Ze (X0 O X8 (f.at 3))<|Ze (X2n O O) ?_;refine Ze (X4a O O)<|Ze (Vd O X0v 2)<|Ze (X0 O X8 (e.at 2))<|Ze (Vd O X0v 2)<|Ze (X0 O X8 (f.at 2))<|Ze (X2n O O)<|Ze (X4a O O)<|Ze (Vd O X0w 3)<|Ze (X0 O X8 (e.at 3))<|Ze (Vd O X0u 1) ?_;refine Ze (X0 O X8 (f.at 1))<|Ze (X2n O O)<|Ze (X4a O O)<|Ze (Vd O X0s 0)<|Ze (X0 O X8 (e.at 0))<|Ze (Vd O X0u 1)<|Ze (X0 O X8 (f.at 1))<|Ze (X2n O O)<|Ze (Vd O X0u 1)<|Ze (X0 O X8 (e.at 1)) ?_;refine Ze (Vd O X0s 0)<|Ze (X0 O X8 (f.at 0))<|Ze (X2n O O)<|Ze (X2d O O)<|Ze (Vd O X0v 2)<|Ze (X0 O X8 (e.at 2))<|Ze (Vd O X0w 3)<|Ze (X0 O X8 (f.at 3))<|Ze (X2n O O)<|Ze (X4a O O) ?_;refine Ze (Vd O X0w 3)<|Ze (X0 O X8 (e.at 3))<|Ze (Vd O X0v 2)<|Ze (X0 O X8 (f.at 2))<|Ze (X2n O O)<|Ze (X4a O O)<|Ze (Vd O X0s 0)<|Ze (X0 O X8 (e.at 0))<|Ze (Vd O X0v 2)<|Ze (X0 O X8 (f.at 2)) ?_;refine Ze (X2n O O)<|Ze (Vd O X0u 1)<|Ze (X0 O X8 (e.at 1))<|Ze (Vd O X0u 1)<|Ze (X0 O X8 (f.at 1))<|Ze (X2n O O)<|Ze (X2d O O)<|Ze (Vd O X0v 2)<|Ze (X0 O X8 (e.at 2))<|Ze (Vd O X0s 0) ?_;refine Ze (X0 O X8 (f.at 0))<|Ze (X2n O O)<|Ze (X2d O O)<|Ze (Vd O X0w 3)<|Ze (X0 O X8 (e.at 3))<|Ze (Vd O X0w 3)<|Ze (X0 O X8 (f.at 3))<|Ze (X2n O O)<|Ze (X4a O O)<|Ze (Vd O X0s 0) ?_
 refine Ze (X0 O X8 (e.at 0))<|Ze (Vd O X0w 3)<|Ze (X0 O X8 (f.at 3))<|Ze (X2n O O)<|Ze (Vd O X0u 1)<|Ze (X0 O X8 (e.at 1))<|Ze (Vd O X0v 2)<|Ze (X0 O X8 (f.at 2))<|Ze (X2n O O)<|Ze (X2d O O) ?_;refine Ze (Vd O X0v 2)<|Ze (X0 O X8 (e.at 2))<|Ze (Vd O X0u 1)<|Ze (X0 O X8 (f.at 1))<|Ze (X2n O O)<|Ze (X2d O O)<|Ze (Vd O X0w 3)<|Ze (X0 O X8 (e.at 3))<|Ze (Vd O X0s 0)<|Ze (X0 O X8 (f.at 0)) ?_;refine Ze (X2n O O)<|Ze (X2d O O)<|Ze (Xi (ps:=[(0,vi (wr ((wr ((wr ((wr (x.a*y.a))-(wr (x.b*y.d))))-(wr (x.c*y.c))))-(wr (x.d*y.b))))),(1,vi (wr ((wr ((wr ((wr (x.a*y.b))+(wr (x.b*y.a))))-(wr (x.c*y.d))))-(wr (x.d*y.c))))),(2,vi (wr ((wr ((wr ((wr (x.a*y.c))+(wr (x.b*y.b))))+(wr (x.c*y.a))))-(wr (x.d*y.d))))),(3,vi (wr ((wr ((wr ((wr (x.a*y.d))+(wr (x.b*y.c))))+(wr (x.c*y.b))))+(wr (x.d*y.a)))))]) (cs:=[vi (wr ((wr ((wr ((wr (x.a*y.a))-(wr (x.b*y.d))))-(wr (x.c*y.c))))-(wr (x.d*y.b)))),vi (wr ((wr ((wr ((wr (x.a*y.b))+(wr (x.b*y.a))))-(wr (x.c*y.d))))-(wr (x.d*y.c)))),vi (wr ((wr ((wr ((wr (x.a*y.c))+(wr (x.b*y.b))))+(wr (x.c*y.a))))-(wr (x.d*y.d)))),vi (wr ((wr ((wr ((wr (x.a*y.d))+(wr (x.b*y.c))))+(wr (x.c*y.b))))+(wr (x.d*y.a))))]) O (fun _=>by first|rfl|kernel_rfl))<|Zo (Vw [vi (wr ((wr ((wr ((wr (x.a*y.a))-(wr (x.b*y.d))))-(wr (x.c*y.c))))-(wr (x.d*y.b)))),vi (wr ((wr ((wr ((wr (x.a*y.b))+(wr (x.b*y.a))))-(wr (x.c*y.d))))-(wr (x.d*y.c)))),vi (wr ((wr ((wr ((wr (x.a*y.c))+(wr (x.b*y.b))))+(wr (x.c*y.a))))-(wr (x.d*y.d)))),vi (wr ((wr ((wr ((wr (x.a*y.d))+(wr (x.b*y.c))))+(wr (x.c*y.b))))+(wr (x.d*y.a))))] X1c aA) ?_;rintro _ w4 ⟨ho,hb⟩;have g:=Below.oy g ho aB;have aA:=hb
 clear hb ho;refine Zt aJ fun a hf=>?_
 refine Q6 (X4 hf (Xv hf O (ResV.cellN (l:=[vi (wr ((wr ((wr ((wr (x.a*y.a))-(wr (x.b*y.d))))-(wr (x.c*y.c))))-(wr (x.d*y.b)))),vi (wr ((wr ((wr ((wr (x.a*y.b))+(wr (x.b*y.a))))-(wr (x.c*y.d))))-(wr (x.d*y.c)))),vi (wr ((wr ((wr ((wr (x.a*y.c))+(wr (x.b*y.b))))+(wr (x.c*y.a))))-(wr (x.d*y.d)))),vi (wr ((wr ((wr ((wr (x.a*y.d))+(wr (x.b*y.c))))+(wr (x.c*y.b))))+(wr (x.d*y.a))))]) O X0k (aA.at 0) O)) ?_)
 exact ⟨O,g⟩
theorem Y2s(w0:World)(x:Rg) : Ret Tryz.prog 239 [.agg #[vi x.a,vi x.b,vi x.c,vi x.d]] w0 (fun v w=>v=rV (rNeg x)/\Below w0.heap.size w0 w):=by
 refine enter Tryz.func239 O 16 O O ?_;intro a hf
 have f:=bz w0
 refine Zs hf fun _ aD=>?_;refine Zf (X0m (zs:=[vi x.a,vi x.b,vi x.c,vi x.d]) O O) ?_;rintro _ w1 ⟨b2,rfl,aE,hE,e⟩;have aH:=Q0 f.size aE;have f:=btr f hE;refine Zf (Xl (zs:=[vi 0,vi 0,vi 0,vi 0]) X2c O) ?_;rintro _ w2 ⟨b3,rfl,aF,hE,aA⟩
 have aC:b2≠b3:=by have:=e.lt;omega
 have aB:=Q0 f.size aF;have e:=e.bw hE;have f:=btr f hE;refine Zx aD fun a hf _ aG=>?_;refine Ze (Vd O X0s 0)<|Ze (X0 O X8 (e.at 0))<|Ze (Xl4 O)<|Ze (Vd O X0u 1)<|Ze (X0 O X8 (e.at 1))<|Ze (Xl4 O)<|Ze (Vd O X0v 2)<|Ze (X0 O X8 (e.at 2))<|Ze (Xl4 O)<|Ze (Vd O X0w 3) ?_;refine Ze (X0 O X8 (e.at 3))<|Ze (Xl4 O)<|Ze (Xi (ps:=[(0,vi (wr (-x.a))),(1,vi (wr (-x.b))),(2,vi (wr (-x.c))),(3,vi (wr (-x.d)))]) (cs:=[vi (wr (-x.a)),vi (wr (-x.b)),vi (wr (-x.c)),vi (wr (-x.d))]) O (fun _=>by first|rfl|kernel_rfl))<|Zo (Vw [vi (wr (-x.a)),vi (wr (-x.b)),vi (wr (-x.c)),vi (wr (-x.d))] X1c aA) ?_;rintro _ w3 ⟨ho,hb⟩;have f:=Below.oy f ho aB;have aA:=hb;refine Zt aG fun a hf=>?_
 refine Q6 (X4 hf (Xv hf O (ResV.cellN (l:=[vi (wr (-x.a)),vi (wr (-x.b)),vi (wr (-x.c)),vi (wr (-x.d))]) O X0k (aA.at 0) O)) ?_)
 exact ⟨O,f⟩
theorem Y2q(w0:World)(x:Rg) : Ret Tryz.prog 224 [.agg #[vi x.a,vi x.b,vi x.c,vi x.d]] w0 (fun v w=>v=.bool (rEven x)/\Below w0.heap.size w0 w):=by
 refine enter Tryz.func224 O 19 O O ?_;intro a f
 have hW:=bz w0
 refine Zs f fun _ aA=>?_;refine Zf (X0m (zs:=[vi x.a,vi x.b,vi x.c,vi x.d]) O O) ?_;rintro _ w1 ⟨b2,rfl,aB,hE,g⟩;have aD:=Q0 hW.size aB;have hW:=btr hW hE;refine Za O<|ZX aA fun a f _ aC=>?_;refine X0f (fun a w=>Fr a 19 [(2,.bool ((((wr (x.a+x.c)).tmod 2)==0)&&(((wr (x.b+x.d)).tmod 2)==0)))]/\w1=w) ?_ ?_
 ·refine Zr f<|Ze (Vd O X0s 0)<|Ze (X0 O X8 (g.at 0))<|Ze (Vd O X0v 2)<|Ze (X0 O X8 (g.at 2))<|Ze (X2d O O)<|Ze (Xa3 O O O)<|Ze (X13 O O)<|Zm O ?_
  refine Zg 10 O (fun e=>?_) (fun e=>?_)
  ·refine Zv (gW e) (Vd O X0u 1) ?_;refine Zv (gW e) (X0 O X8 (g.at 1)) ?_;refine Zv (gW e) (Vd O X0w 3) ?_;refine Zv (gW e) (X0 O X8 (g.at 3)) ?_;refine Zv (gW e) (X2d O O) ?_;refine Zv (gW e) (Xa3 O O O) ?_;refine Zv (gW e) (X13 O O) ?_;refine Ze (Xf O e O)<|Za O ?_;refine Zn fun a f=>?_;exact ⟨f.sub ⟨X1 O (by first|rfl|(simp only [e,bs];done)|simp [e]),trivial⟩,O⟩
  (iterate 7 refine Zp (gP e) ?_);refine Ze (Xb O e O)<|Za O ?_;refine Zn fun a f=>?_;exact ⟨f.sub ⟨X1 O (by first|rfl|(simp only [e,bs];done)|simp [e]),trivial⟩,O⟩
 rintro a _ ⟨f,rfl⟩;refine aC _ _ ?_
 refine Q6 (X4 f (Xv f O O) ?_)
 exact ⟨O,hW⟩
theorem Xvx(w0:World)(x:Rg) : Ret Tryz.prog 189 [.agg #[vi x.a,vi x.b,vi x.c,vi x.d]] w0 (fun v w=>v=.bool (rEven x)/\Below w0.heap.size w0 w):=by
 refine enter Tryz.func189 O 19 O O ?_;intro a f
 have hW:=bz w0
 refine Zs f fun _ aA=>?_;refine Zf (X0m (zs:=[vi x.a,vi x.b,vi x.c,vi x.d]) O O) ?_;rintro _ w1 ⟨b2,rfl,aB,hE,g⟩;have aD:=Q0 hW.size aB;have hW:=btr hW hE;refine Za O<|ZX aA fun a f _ aC=>?_;refine X0f (fun a w=>Fr a 19 [(2,.bool ((((wr (x.a+x.c)).tmod 2)==0)&&(((wr (x.b+x.d)).tmod 2)==0)))]/\w1=w) ?_ ?_
 ·refine Zr f<|Ze (Vd O X0s 0)<|Ze (X0 O X8 (g.at 0))<|Ze (Vd O X0v 2)<|Ze (X0 O X8 (g.at 2))<|Ze (X2d O O)<|Ze (Xa3 O O O)<|Ze (X13 O O)<|Zm O ?_
  refine Zg 10 O (fun e=>?_) (fun e=>?_)
  ·refine Zv (gW e) (Vd O X0u 1) ?_;refine Zv (gW e) (X0 O X8 (g.at 1)) ?_;refine Zv (gW e) (Vd O X0w 3) ?_;refine Zv (gW e) (X0 O X8 (g.at 3)) ?_;refine Zv (gW e) (X2d O O) ?_;refine Zv (gW e) (Xa3 O O O) ?_;refine Zv (gW e) (X13 O O) ?_;refine Ze (Xf O e O)<|Za O ?_;refine Zn fun a f=>?_;exact ⟨f.sub ⟨X1 O (by first|rfl|(simp only [e,bs];done)|simp [e]),trivial⟩,O⟩
  (iterate 7 refine Zp (gP e) ?_);refine Ze (Xb O e O)<|Za O ?_;refine Zn fun a f=>?_;exact ⟨f.sub ⟨X1 O (by first|rfl|(simp only [e,bs];done)|simp [e]),trivial⟩,O⟩
 rintro a _ ⟨f,rfl⟩;refine aC _ _ ?_
 refine Q6 (X4 f (Xv f O O) ?_)
 exact ⟨O,hW⟩
theorem Y2r(w0:World)(x:Rg) : Ret Tryz.prog 225 [.agg #[vi x.a,vi x.b,vi x.c,vi x.d]] w0 (fun v w=>v=rV (rHalf x)/\Below w0.heap.size w0 w):=by
 refine enter Tryz.func225 O 19 O O ?_;intro a hf
 have g:=bz w0
 refine Zs hf fun _ aE=>?_;refine Zf (X0m (zs:=[vi x.a,vi x.b,vi x.c,vi x.d]) O O) ?_;rintro _ w1 ⟨b2,rfl,aF,i,f⟩;have aK:=Q0 g.size aF;have g:=btr g i;refine Zf (Xl (zs:=[vi 0,vi 0,vi 0,vi 0]) X2c O) ?_;rintro _ w2 ⟨b3,rfl,aG,i,e⟩
 have aB:b2≠b3:=by have:=f.lt;omega
 have aA:=Q0 g.size aG;have f:=f.bw i;have g:=btr g i;refine Zx aE fun a hf _ aH=>?_;refine Ze (Vn X0k f)<|Zf (Vc (Xvy _ x) Xhl) ?_;rintro _ w3 ⟨rfl,i⟩;have f:=f.bw i;have e:=e.bw i;have g:=btr g i;refine ZB [vi ((rRoot x).a),vi ((rRoot x).b),vi ((rRoot x).c),vi ((rRoot x).d)] X2c X1c fun b5 w5 aI i j=>?_
 have aC:b2≠b5:=by have:=f.lt;omega
 have aD:b3≠b5:=by have:=e.lt;omega
 have aL:=Q0 g.size aI;have e:=e.bw i;have g:=btr g i;refine Zx aH fun a hf _ aJ=>?_;refine Ze (Vd O X0s 0)<|Ze (X0 O X8 (j.at 0))<|Ze (Xda O O O)<|Ze (Vd O X0u 1)<|Ze (X0 O X8 (j.at 1))<|Ze (Xda O O O)<|Ze (Vd O X0v 2)<|Ze (X0 O X8 (j.at 2))<|Ze (Xda O O O)<|Ze (Vd O X0w 3) ?_;refine Ze (X0 O X8 (j.at 3))<|Ze (Xda O O O)<|Ze (Xi (ps:=[(0,vi (wr (((rRoot x).a).tdiv 2))),(1,vi (wr (((rRoot x).b).tdiv 2))),(2,vi (wr (((rRoot x).c).tdiv 2))),(3,vi (wr (((rRoot x).d).tdiv 2)))]) (cs:=[vi (wr (((rRoot x).a).tdiv 2)),vi (wr (((rRoot x).b).tdiv 2)),vi (wr (((rRoot x).c).tdiv 2)),vi (wr (((rRoot x).d).tdiv 2))]) O (fun _=>by first|rfl|kernel_rfl))<|Zo (Vw [vi (wr (((rRoot x).a).tdiv 2)),vi (wr (((rRoot x).b).tdiv 2)),vi (wr (((rRoot x).c).tdiv 2)),vi (wr (((rRoot x).d).tdiv 2))] X1c e) ?_;rintro _ w6 ⟨ho,hb⟩;have g:=Below.oy g ho aA;have e:=hb;refine Zt aJ fun a hf=>?_
 refine Q6 (X4 hf (Xv hf O (ResV.cellN (l:=[vi (wr (((rRoot x).a).tdiv 2)),vi (wr (((rRoot x).b).tdiv 2)),vi (wr (((rRoot x).c).tdiv 2)),vi (wr (((rRoot x).d).tdiv 2))]) O X0k (e.at 0) O)) ?_)
 exact ⟨O,g⟩
theorem Xr3(w0:World)(n:Int) : Ret Tryz.prog 218 [vi n] w0 (fun v w=>v=.bool (inR n (-1000000000) 1000000000)/\w0=w):=by
 refine enter Tryz.func218 O 5 O O ?_;intro a hf
 have hW:=bz w0
 refine Zs hf fun _ aA=>?_;refine Za O<|Zx aA fun a hf _ aB=>?_;refine Zm O<|Zf (Vc (F91 _ n (-1000000000) 1000000000) X3c) ?_;rintro _ _ ⟨rfl,rfl⟩;refine Za O<|Zt aB fun a hf=>?_
 refine Q6 (X4 hf (Xv hf O O) ?_)
 exact ⟨O,O⟩
theorem Xl3(w0:World)(x:Rg) : Ret Tryz.prog 187 [.agg #[vi x.a,vi x.b,vi x.c,vi x.d]] w0 (fun v w=>v=.bool (rOk x)/\Below w0.heap.size w0 w):=by
 refine enter Tryz.func187 O 21 O O ?_;intro a i
 have hW:=bz w0
 refine Zs i fun _ aA=>?_;refine Zf (X0m (zs:=[vi x.a,vi x.b,vi x.c,vi x.d]) O O) ?_;rintro _ w1 ⟨b2,rfl,aB,hE,j⟩;have aD:=Q0 hW.size aB;have hW:=btr hW hE;refine Za O<|ZX aA fun a i _ aC=>?_;refine X0f (fun a w=>Fr a 21 [(2,.bool ((((inR x.a (-1000000000) 1000000000)&&(inR x.b (-1000000000) 1000000000))&&(inR x.c (-1000000000) 1000000000))&&(inR x.d (-1000000000) 1000000000)))]/\w1=w) ?_ ?_
 ·refine Zr i<|Ze (Vd O X0s 0)<|Ze (X0 O X8 (j.at 0))<|Zf (Vc (Xr3 _ x.a) Xdy) ?_;rintro _ _ ⟨rfl,rfl⟩;refine Zm O ?_
  refine Zg 6 O (fun e=>?_) (fun e=>?_)
  ·refine Zv (gW e) (Vd O X0u 1) ?_;refine Zv (gW e) (X0 O X8 (j.at 1)) ?_;refine Zk (gW e) (Vc (Xr3 _ x.b) Xdy) ?_;rintro _ _ ⟨rfl,rfl⟩;refine Ze (Xf O e O)<|Zm O ?_
   refine Zg 11 O (fun f=>?_) (fun f=>?_)
   ·refine Zv (gW f) (Vd O X0v 2) ?_;refine Zv (gW f) (X0 O X8 (j.at 2)) ?_;refine Zk (gW f) (Vc (Xr3 _ x.c) Xdy) ?_;rintro _ _ ⟨rfl,rfl⟩;refine Ze (Xf O f O)<|Zm O ?_
    refine Zg 16 O (fun g=>?_) (fun g=>?_)
    ·refine Zv (gW g) (Vd O X0w 3) ?_;refine Zv (gW g) (X0 O X8 (j.at 3)) ?_;refine Zk (gW g) (Vc (Xr3 _ x.d) Xdy) ?_;rintro _ _ ⟨rfl,rfl⟩;refine Ze (Xf O g O)<|Za O ?_;refine Zn fun a i=>?_;exact ⟨i.sub ⟨X1 O (by first|rfl|(simp only [e,f,g,bs];done)|simp [e,f,g]),trivial⟩,O⟩
    (iterate 3 refine Zp (gP g) ?_);refine Ze (Xb O g O)<|Za O ?_;refine Zn fun a i=>?_;exact ⟨i.sub ⟨X1 O (by first|rfl|(simp only [e,f,g,bs];done)|simp [e,f,g]),trivial⟩,O⟩
   (iterate 3 refine Zp (gP f) ?_);refine Ze (Xb O f O)<|Zm O<|Zp (gP O) ?_;(iterate 2 refine Zp (gP O) ?_);refine Ze (Xb O O O)<|Za O ?_;refine Zn fun a i=>?_;exact ⟨i.sub ⟨X1 O (by first|rfl|(simp only [e,f,bs];done)|simp [e,f]),trivial⟩,O⟩
  (iterate 3 refine Zp (gP e) ?_);refine Ze (Xb O e O)<|Zm O<|Zp (gP O) ?_;(iterate 2 refine Zp (gP O) ?_);refine Ze (Xb O O O)<|Zm O<|Zp (gP O) ?_;(iterate 2 refine Zp (gP O) ?_);refine Ze (Xb O O O)<|Za O ?_;refine Zn fun a i=>?_;exact ⟨i.sub ⟨X1 O (by first|rfl|(simp only [e,bs];done)|simp [e]),trivial⟩,O⟩
 rintro a _ ⟨i,rfl⟩;refine aC _ _ ?_
 refine Q6 (X4 i (Xv i O O) ?_)
 exact ⟨by simp [rOk, *],hW⟩
theorem Xf2(w0:World)(k:Int) : Ret Tryz.prog 114 [vi k] w0 (fun v w=>v=dV (dPow k)/\Below w0.heap.size w0 w):=by
 refine enter Tryz.func114 O 7 O O ?_;intro a hf
 have f:=bz w0
 refine Zs hf fun _ aB=>?_;refine Zf (Xl (zs:=[vi 0,vi 0,vi 0,vi 0,vi 0]) X1s O) ?_;rintro _ w1 ⟨b2,rfl,aC,hE,e⟩;have aA:=Q0 f.size aC;have f:=btr f hE;refine Zx aB fun a hf _ aD=>?_;refine Ze (Xi (ps:=[(0,vi 1)]) (cs:=[vi 1,vi 0,vi 0,vi 0]) O (fun _=>by first|rfl|kernel_rfl))<|Zm O<|Zf (Vc (Xzm _ (⟨1,0,0,0⟩ : Rg) k) Xoi) ?_;rintro _ w2 ⟨rfl,hE⟩;have e:=e.bw hE;have f:=btr f hE;refine Ze (Xi (ps:=[(0,.agg #[vi ((rTurn (⟨1,0,0,0⟩ : Rg) k).a),vi ((rTurn (⟨1,0,0,0⟩ : Rg) k).b),vi ((rTurn (⟨1,0,0,0⟩ : Rg) k).c),vi ((rTurn (⟨1,0,0,0⟩ : Rg) k).d)])]) (cs:=[vi ((rTurn (⟨1,0,0,0⟩ : Rg) k).a),vi ((rTurn (⟨1,0,0,0⟩ : Rg) k).b),vi ((rTurn (⟨1,0,0,0⟩ : Rg) k).c),vi ((rTurn (⟨1,0,0,0⟩ : Rg) k).d),vi 0]) O (fun _=>by first|rfl|kernel_rfl))<|Zo (Vw [vi ((rTurn (⟨1,0,0,0⟩ : Rg) k).a),vi ((rTurn (⟨1,0,0,0⟩ : Rg) k).b),vi ((rTurn (⟨1,0,0,0⟩ : Rg) k).c),vi ((rTurn (⟨1,0,0,0⟩ : Rg) k).d),vi 0] X09 e) ?_;rintro _ w3 ⟨ho,hb⟩;have f:=Below.oy f ho aA;have e:=hb;refine Zt aD fun a hf=>?_
 refine Q6 (X4 hf (Xv hf O (ResV.cellN (l:=[vi ((rTurn (⟨1,0,0,0⟩ : Rg) k).a),vi ((rTurn (⟨1,0,0,0⟩ : Rg) k).b),vi ((rTurn (⟨1,0,0,0⟩ : Rg) k).c),vi ((rTurn (⟨1,0,0,0⟩ : Rg) k).d),vi 0]) O Xr (e.at 0) O)) ?_)
 exact ⟨O,f⟩
theorem Y2o(w0:World)(x:Dy) : Ret Tryz.prog 226 [.agg #[vi x.num.a,vi x.num.b,vi x.num.c,vi x.num.d,vi x.exp]] w0 (fun v w=>v=dV (dNeg x)/\Below w0.heap.size w0 w):=by
 refine enter Tryz.func226 O 9 O O ?_;intro a hf
 have g:=bz w0
 refine Zs hf fun _ aC=>?_;refine Zf (X0m (zs:=[vi x.num.a,vi x.num.b,vi x.num.c,vi x.num.d,vi x.exp]) O O) ?_;rintro _ w1 ⟨b2,rfl,aD,i,e⟩;have aG:=Q0 g.size aD;have g:=btr g i;refine Zf (Xl (zs:=[vi 0,vi 0,vi 0,vi 0,vi 0]) X1s O) ?_;rintro _ w2 ⟨b3,rfl,aE,i,f⟩
 have aB:b2≠b3:=by have:=e.lt;omega
 have aA:=Q0 g.size aE;have e:=e.bw i;have g:=btr g i;refine ZX aC fun a hf _ aF=>?_;refine X08 none (fun j=>[6].contains j) mixed ?_;intro w3 i;have e:=e.bw i;have f:=f.bw i;have g:=btr g i;refine Yb hf<|Yo 0 O (fun _=>Vd O X1q 0)<|Ye 1 O (Xx (l:=[vi x.num.a,vi x.num.b,vi x.num.c,vi x.num.d]) O X0k ((e.at 0).take 4) O)<|Yo 3 O (fun _=>Vd O X1m 4)<|Ye 4 O (X0 O X8 (e.at 4))<|Y1 2 ?_;refine Yk O tv0 (Vc (Y2s _ x.num) Xy1) (fun _ _ ⟨_,i⟩=>i) ?_;rintro _ w4 ⟨rfl,i⟩;have f:=f.bw i;have g:=btr g i;refine Yo 5 O (fun _=>Xi (ps:=[(0,.agg #[vi ((rNeg x.num).a),vi ((rNeg x.num).b),vi ((rNeg x.num).c),vi ((rNeg x.num).d)]),(1,vi x.exp)]) (cs:=[vi ((rNeg x.num).a),vi ((rNeg x.num).b),vi ((rNeg x.num).c),vi ((rNeg x.num).d),vi x.exp]) O (fun _=>by first|rfl|kernel_rfl))<|Y1 6 ?_;refine Yh O tv0 O (Vw [vi ((rNeg x.num).a),vi ((rNeg x.num).b),vi ((rNeg x.num).c),vi ((rNeg x.num).d),vi x.exp] X09 f) ?_;rintro _ w5 ⟨ho,hb⟩;have g:=Below.oy g ho aA;have f:=hb;refine Yd fun a hf=>?_;refine aF _ _ ?_
 refine Q6 (X4 hf (Xv hf O (ResV.cellN (l:=[vi ((rNeg x.num).a),vi ((rNeg x.num).b),vi ((rNeg x.num).c),vi ((rNeg x.num).d),vi x.exp]) O Xr (f.at 0) O)) ?_)
 exact ⟨O,g⟩
theorem F59(w0:World)(b:Bool) : Ret Tryz.prog 105 [.bool b] w0 (fun v w=>v=vi (if b=true then 1 else 0)/\w0=w):=by
 refine enter Tryz.func105 O 4 O O ?_;intro a c
 have hW:=bz w0
 refine Zs c fun _ aA=>?_;refine Za O<|ZX aA fun a c _ aB=>?_;refine Zs c fun _ aC=>?_;refine Zm O<|Zt aC fun a c=>?_
 refine X04 c O (fun aD=>?_) (fun aD=>?_)
 ·refine Zs c fun _ aE=>?_;refine Za O<|Zt aE fun a c=>?_;refine Q6<|X5<|X4 c (Xv c O O) ?_;exact ⟨by simp [*],rfl⟩
 refine Q7<|aB _ _<|Zs c fun _ aF=>?_;refine Za O<|Zt aF fun a c=>?_
 refine Q6 (X4 c (Xv c O O) ?_)
 exact ⟨by simp [*],rfl⟩
theorem Xvr(w0:World)(n:Int) : Ret Tryz.prog 128 [vi n] w0 (fun v w=>v=dV (⟨⟨n,0,0,0⟩,0⟩ : Dy)/\Below w0.heap.size w0 w):=by
 refine enter Tryz.func128 O 6 O O ?_;intro a hf
 have hW:=bz w0
 refine Zs hf fun _ aC=>?_;refine Zf (Xl (zs:=[vi 0,vi 0,vi 0,vi 0,vi 0]) X1s O) ?_;rintro _ w1 ⟨b2,rfl,aD,hE,aA⟩;have aB:=Q0 hW.size aD;have hW:=btr hW hE;refine Zx aC fun a hf _ aE=>?_;refine Zm O<|Ze (Xi (ps:=[(0,vi n)]) (cs:=[vi n,vi 0,vi 0,vi 0]) O (fun _=>by first|rfl|kernel_rfl))<|Ze (Xi (ps:=[(0,.agg #[vi n,vi 0,vi 0,vi 0])]) (cs:=[vi n,vi 0,vi 0,vi 0,vi 0]) O (fun _=>by first|rfl|kernel_rfl))<|Zo (Vw [vi n,vi 0,vi 0,vi 0,vi 0] X09 aA) ?_;rintro _ w2 ⟨ho,hb⟩;have hW:=Below.oy hW ho aB;have aA:=hb;refine Zt aE fun a hf=>?_
 refine Q6 (X4 hf (Xv hf O (ResV.cellN (l:=[vi n,vi 0,vi 0,vi 0,vi 0]) O Xr (aA.at 0) O)) ?_)
 exact ⟨O,hW⟩
theorem Xr4(q:World)(x:Rg)(Al:Option Addr)(cl:Nat)(l:List Rg)(aE:Rd q q.heap.size 137 encR Al l)(hc:cl=l.length)(aX:l≠[])(bE:l.length<=1000) : Ret Tryz.prog 207 [.agg #[vi x.a,vi x.b,vi x.c,vi x.d],.slice Al l.length cl] q (fun v w=>v=.tuple #[rV (rIf1 x l),.bool (rIf2 x l)]/\Below q.heap.size q w):=by
 refine enter Tryz.func207 O 23 O O ?_;intro a j
 have g:=bz q
 refine Zs j fun _ aY=>?_;refine Zf (X0m (zs:=[vi x.a,vi x.b,vi x.c,vi x.d]) O O) ?_;rintro _ w1 ⟨b3,rfl,aZ,n,f⟩;have b9:=Q0 g.size aZ;have g:=btr g n;refine Zf (Xl (zs:=[vi 0,vi 0,vi 0,vi 0]) X2c O) ?_;rintro _ w2 ⟨b4,rfl,b0,n,e⟩
 have aR:b3≠b4:=by have:=f.lt;omega
 have t:=Q0 g.size b0;have f:=f.bw n;have g:=btr g n;refine Za O<|ZX aY fun a j _ b1=>?_;refine Zs j fun _ b2=>?_;refine Zm O<|Ze (Vn X0k f)<|Zf (X2 (k:=1) (vs:=[.agg #[vi x.a,vi x.b,vi x.c,vi x.d]]) (zs:=[vi x.a,vi x.b,vi x.c,vi x.d]) O X5k X64 O O) ?_;rintro _ w3 ⟨b7,rfl,b5,n,aA⟩
 have aS:b3≠b7:=by have:=f.lt;omega
 have aT:b4≠b7:=by have:=e.lt;omega
 have bC:=Q0 g.size b5;have f:=f.bw n;have e:=e.bw n;have g:=btr g n;refine Zf (Xf3 (enc:=encR) (l:=(l)) (l2:=([x])) O O X5k X64 Xfj (aE.bx g) (Rd.of_blk aA O _ aA.lt) hc aX O5 (by simp only [maxLen];simp;omega) O3) ?_;rintro _ w4 ⟨A9,c9,rfl,i,n⟩;have aU:=i.awayNew f.lt;have aV:=i.awayNew e.lt;have aW:=i.awayNew aA.lt;have i:=i.lower g.size;have f:=f.bw n;have e:=e.bw n;have g:=btr g n;refine Ze (X0o O X5k)<|Zm O<|Zt b2 fun a j=>?_;refine Q8 ?_
 have bD:(l++[x]).length<=1001:=by simp;omega
 refine X0d (σ:=Nat) (fun (k:Nat) (a:Act) (w:World)=>Fr a 23 [(2,(pZ9 b3)),(4,(pZ9 b4)),(11,.slice A9 (l++([x])).length c9),(12,vi ((l++([x])).length:Int)),(13,vi (k:Int))]/\(k<=(l++[x]).length)/\(((l++[x]).take k).all rOk=true)/\Blk w b3 137 [vi x.a,vi x.b,vi x.c,vi x.d]/\Blk w b4 137 [vi 0,vi 0,vi 0,vi 0]/\Own w q.heap.size 137 4 encR A9 c9 (l++([x]))/\Below q.heap.size q w) (fun (k:Nat)=>(l++[x]).length+1-k) 0 ?_ ?_
 ·exact ⟨j.sb,(Qf _),O5,f,e,i,g⟩
 rintro k a w5 ⟨j,hk,y,f,e,i,g⟩;refine Zs j fun _ aF=>?_;refine Ze (X16 O O)<|ZX aF fun a j _ aG=>?_
 refine X12 j O (fun aB aH=>?_) (fun aB aH=>?_)
 ·obtain ⟨m,o⟩:=Xj (l:=(l++([x]))) (k:=k) Z
  refine Q7<|aG _ _<|Q5 fun _ aI=>?_;refine Q8<|Zs j fun _ aJ=>?_;refine Zi (k:=k) (u:=m) (enc:=encR) (l:=l++([x])) tv0 O O X5k X1c Xfj i.rd o O ?_;intro bF aC;refine Ze (Xx (l:=[vi m.a,vi m.b,vi m.c,vi m.d]) O X0k aC O) ?_;refine ZB [vi m.a,vi m.b,vi m.c,vi m.d] X2c X1c fun b18 w7 aK n aL=>?_
  have aM:b3≠b18:=by have:=f.lt;omega
  have aN:b4≠b18:=by have:=e.lt;omega
  have b6:=Q0 g.size aK;have f:=f.bw n;have e:=e.bw n;have i:=i.bw n;have g:=btr g n;refine Zx aJ fun a j _ aO=>?_;refine Ze (Vn X0k aL)<|Zf (Vc (Xl3 _ m) X89) ?_;rintro _ w8 ⟨rfl,n⟩;have f:=f.bw n;have e:=e.bw n;have i:=i.bw n;have g:=btr g n;refine Ze (X0x O)<|Zt aO fun a j=>?_
  refine X04 j O (fun p=>?_) (fun p=>?_)
  ·have aD:rIf2 x l=false:=Xbs o (by simpa using p)
   refine Zs j fun _ aP=>?_;refine Ze (Xi (ps:=[]) (cs:=[vi 0,vi 0,vi 0,vi 0]) O (fun _=>by first|rfl|kernel_rfl))<|Zo (Vw [vi 0,vi 0,vi 0,vi 0] X1c e) ?_;rintro _ w9 ⟨ho,hb⟩;have g:=Below.oy g ho t;have e:=hb;refine Za O<|Zt aP fun a j=>?_;refine Q6<|Xo<|X5<|X5 ?_;refine Xo<|X5<|X4 j (X0q j O (ResV.cellN (l:=[vi 0,vi 0,vi 0,vi 0]) O X0k (e.at 0) O) O) ?_;exact ⟨by simp [rIf1,aD],g⟩
  have b8:rOk m=true:=by simpa using p
  refine Q7<|Xn<|aI _ _<|Zr j ?_;refine Ze (X03 O O Z Z)<|Zm O ?_;refine Zn fun a j=>?_;refine Xd ?_;exact ⟨k+1,⟨j.sb,Z,(X2g y o b8),f,e,i,g⟩,Z⟩
 refine Q9<|Xm<|Xm<|X0a ?_;refine b1 _ _<|Zs j fun _ aQ=>?_;refine Ze (Vn X0k f)<|Zo (Vw [vi x.a,vi x.b,vi x.c,vi x.d] X1c e) ?_;rintro _ bG ⟨ho,hb⟩;have g:=Below.oy g ho t;have e:=hb;refine Za O<|Zt aQ fun a j=>?_
 refine Q6 (X4 j (X0q j O (ResV.cellN (l:=[vi x.a,vi x.b,vi x.c,vi x.d]) O X0k (e.at 0) O) O) ?_)
 have aD:rIf2 x l=true:=X28 y Z
 exact ⟨by simp [rIf1,aD],g⟩
theorem Y2h(w0:World)(x:Rg)(y:Rg) : Ret Tryz.prog 178 [.agg #[vi x.a,vi x.b,vi x.c,vi x.d],.agg #[vi y.a,vi y.b,vi y.c,vi y.d]] w0 (fun v w=>v=.tuple #[rV (rIf1 (rMul x y) [x,y]),.bool (rIf2 (rMul x y) [x,y])]/\Below w0.heap.size w0 w):=by
 refine enter Tryz.func178 O 105 O O ?_;intro a hf
 have g:=bz w0
 refine Zs hf fun _ aI=>?_;refine Zf (X0m (zs:=[vi x.a,vi x.b,vi x.c,vi x.d]) O O) ?_;rintro _ w1 ⟨b2,rfl,aJ,j,e⟩;have aO:=Q0 g.size aJ;have g:=btr g j;refine Zf (X0m (zs:=[vi y.a,vi y.b,vi y.c,vi y.d]) O O) ?_;rintro _ w2 ⟨b3,rfl,aK,j,f⟩
 have aC:b2≠b3:=by have:=e.lt;omega
 have aP:=Q0 g.size aK;have e:=e.bw j;have g:=btr g j;refine Zf (Xl (zs:=[vi 0,vi 0,vi 0,vi 0]) X2c O) ?_;rintro _ w3 ⟨b4,rfl,aL,j,i⟩
 have aD:b2≠b4:=by have:=e.lt;omega
 have aE:b3≠b4:=by have:=f.lt;omega
 have aA:=Q0 g.size aL;have e:=e.bw j;have f:=f.bw j;have g:=btr g j;refine Za O<|Zx aI fun a hf _ aM=>?_;refine Ze (Vd O X0s 0)<|Ze (X0 O X8 (e.at 0))<|Ze (Vd O X0s 0)<|Ze (X0 O X8 (f.at 0))<|Ze (X2n O O)<|Ze (Vd O X0u 1)<|Ze (X0 O X8 (e.at 1))<|Ze (Vd O X0w 3)<|Ze (X0 O X8 (f.at 3))<|Ze (X2n O O) ?_;refine Ze (X4a O O)<|Ze (Vd O X0v 2)<|Ze (X0 O X8 (e.at 2))<|Ze (Vd O X0v 2)<|Ze (X0 O X8 (f.at 2))<|Ze (X2n O O)<|Ze (X4a O O)<|Ze (Vd O X0w 3)<|Ze (X0 O X8 (e.at 3))<|Ze (Vd O X0u 1) ?_;refine Ze (X0 O X8 (f.at 1))<|Ze (X2n O O)<|Ze (X4a O O)<|Ze (Vd O X0s 0)<|Ze (X0 O X8 (e.at 0))<|Ze (Vd O X0u 1)<|Ze (X0 O X8 (f.at 1))<|Ze (X2n O O)<|Ze (Vd O X0u 1)<|Ze (X0 O X8 (e.at 1)) ?_;refine Ze (Vd O X0s 0)<|Ze (X0 O X8 (f.at 0))<|Ze (X2n O O)<|Ze (X2d O O)<|Ze (Vd O X0v 2)<|Ze (X0 O X8 (e.at 2))<|Ze (Vd O X0w 3)<|Ze (X0 O X8 (f.at 3))<|Ze (X2n O O)<|Ze (X4a O O) ?_;refine Ze (Vd O X0w 3)<|Ze (X0 O X8 (e.at 3))<|Ze (Vd O X0v 2)<|Ze (X0 O X8 (f.at 2))<|Ze (X2n O O)<|Ze (X4a O O)<|Ze (Vd O X0s 0)<|Ze (X0 O X8 (e.at 0))<|Ze (Vd O X0v 2)<|Ze (X0 O X8 (f.at 2)) ?_;refine Ze (X2n O O)<|Ze (Vd O X0u 1)<|Ze (X0 O X8 (e.at 1))<|Ze (Vd O X0u 1)<|Ze (X0 O X8 (f.at 1))<|Ze (X2n O O)<|Ze (X2d O O)<|Ze (Vd O X0v 2)<|Ze (X0 O X8 (e.at 2))<|Ze (Vd O X0s 0) ?_;refine Ze (X0 O X8 (f.at 0))<|Ze (X2n O O)<|Ze (X2d O O)<|Ze (Vd O X0w 3)<|Ze (X0 O X8 (e.at 3))<|Ze (Vd O X0w 3)<|Ze (X0 O X8 (f.at 3))<|Ze (X2n O O)<|Ze (X4a O O)<|Ze (Vd O X0s 0) ?_
 refine Ze (X0 O X8 (e.at 0))<|Ze (Vd O X0w 3)<|Ze (X0 O X8 (f.at 3))<|Ze (X2n O O)<|Ze (Vd O X0u 1)<|Ze (X0 O X8 (e.at 1))<|Ze (Vd O X0v 2)<|Ze (X0 O X8 (f.at 2))<|Ze (X2n O O)<|Ze (X2d O O) ?_;refine Ze (Vd O X0v 2)<|Ze (X0 O X8 (e.at 2))<|Ze (Vd O X0u 1)<|Ze (X0 O X8 (f.at 1))<|Ze (X2n O O)<|Ze (X2d O O)<|Ze (Vd O X0w 3)<|Ze (X0 O X8 (e.at 3))<|Ze (Vd O X0s 0)<|Ze (X0 O X8 (f.at 0)) ?_;refine Ze (X2n O O)<|Ze (X2d O O)<|Ze (Xi (ps:=[(0,vi (wr ((wr ((wr ((wr (x.a*y.a))-(wr (x.b*y.d))))-(wr (x.c*y.c))))-(wr (x.d*y.b))))),(1,vi (wr ((wr ((wr ((wr (x.a*y.b))+(wr (x.b*y.a))))-(wr (x.c*y.d))))-(wr (x.d*y.c))))),(2,vi (wr ((wr ((wr ((wr (x.a*y.c))+(wr (x.b*y.b))))+(wr (x.c*y.a))))-(wr (x.d*y.d))))),(3,vi (wr ((wr ((wr ((wr (x.a*y.d))+(wr (x.b*y.c))))+(wr (x.c*y.b))))+(wr (x.d*y.a)))))]) (cs:=[vi (wr ((wr ((wr ((wr (x.a*y.a))-(wr (x.b*y.d))))-(wr (x.c*y.c))))-(wr (x.d*y.b)))),vi (wr ((wr ((wr ((wr (x.a*y.b))+(wr (x.b*y.a))))-(wr (x.c*y.d))))-(wr (x.d*y.c)))),vi (wr ((wr ((wr ((wr (x.a*y.c))+(wr (x.b*y.b))))+(wr (x.c*y.a))))-(wr (x.d*y.d)))),vi (wr ((wr ((wr ((wr (x.a*y.d))+(wr (x.b*y.c))))+(wr (x.c*y.b))))+(wr (x.d*y.a))))]) O (fun _=>by first|rfl|kernel_rfl))<|Ze (Vn X0k e)<|Ze (Vn X0k f)<|Zf (X2 (k:=2) (vs:=[.agg #[vi x.a,vi x.b,vi x.c,vi x.d],.agg #[vi y.a,vi y.b,vi y.c,vi y.d]]) (zs:=[vi x.a,vi x.b,vi x.c,vi x.d,vi y.a,vi y.b,vi y.c,vi y.d]) O X5k X64 O O) ?_;rintro _ w4 ⟨b6,rfl,aN,j,aB⟩
 have aF:b2≠b6:=by have:=e.lt;omega
 have aG:b3≠b6:=by have:=f.lt;omega
 have aH:b4≠b6:=by have:=i.lt;omega
 have aQ:=Q0 g.size aN;have i:=i.bw j;have g:=btr g j;refine Zf (Vc (Xr4 _ (rMul x y) (some ⟨b6,0,none⟩) 2 ([x,y]) (Rd.of_blk aB O _ aB.lt) O O5 O5) Xdz) ?_;rintro _ w5 ⟨rfl,j⟩;have i:=i.bw j;have g:=btr g j;refine Ze (X3 (vs:=[.agg #[vi ((rIf1 (rMul x y) ([x,y])).a),vi ((rIf1 (rMul x y) ([x,y])).b),vi ((rIf1 (rMul x y) ([x,y])).c),vi ((rIf1 (rMul x y) ([x,y])).d)],.bool (rIf2 (rMul x y) ([x,y]))]) O O)<|Ze (X3 (vs:=[.agg #[vi ((rIf1 (rMul x y) ([x,y])).a),vi ((rIf1 (rMul x y) ([x,y])).b),vi ((rIf1 (rMul x y) ([x,y])).c),vi ((rIf1 (rMul x y) ([x,y])).d)],.bool (rIf2 (rMul x y) ([x,y]))]) O O)<|Zo (Vw [vi ((rIf1 (rMul x y) ([x,y])).a),vi ((rIf1 (rMul x y) ([x,y])).b),vi ((rIf1 (rMul x y) ([x,y])).c),vi ((rIf1 (rMul x y) ([x,y])).d)] X1c i) ?_;rintro _ w6 ⟨ho,hb⟩;have g:=Below.oy g ho aA;have i:=hb;refine Za O<|Zt aM fun a hf=>?_
 refine Q6 (X4 hf (X0q hf O (ResV.cellN (l:=[vi ((rIf1 (rMul x y) ([x,y])).a),vi ((rIf1 (rMul x y) ([x,y])).b),vi ((rIf1 (rMul x y) ([x,y])).c),vi ((rIf1 (rMul x y) ([x,y])).d)]) O X0k (i.at 0) O) O) ?_)
 exact ⟨O,g⟩
theorem Y2m(w0:World)(x:Rg)(y:Rg) : Ret Tryz.prog 181 [.agg #[vi x.a,vi x.b,vi x.c,vi x.d],.agg #[vi y.a,vi y.b,vi y.c,vi y.d]] w0 (fun v w=>v=.tuple #[rV (rIf1 (rAdd x y) [x,y]),.bool (rIf2 (rAdd x y) [x,y])]/\Below w0.heap.size w0 w):=by
 refine enter Tryz.func181 O 33 O O ?_;intro a hf
 have g:=bz w0
 refine Zs hf fun _ aI=>?_;refine Zf (X0m (zs:=[vi x.a,vi x.b,vi x.c,vi x.d]) O O) ?_;rintro _ w1 ⟨b2,rfl,aJ,j,e⟩;have aO:=Q0 g.size aJ;have g:=btr g j;refine Zf (X0m (zs:=[vi y.a,vi y.b,vi y.c,vi y.d]) O O) ?_;rintro _ w2 ⟨b3,rfl,aK,j,f⟩
 have aC:b2≠b3:=by have:=e.lt;omega
 have aP:=Q0 g.size aK;have e:=e.bw j;have g:=btr g j;refine Zf (Xl (zs:=[vi 0,vi 0,vi 0,vi 0]) X2c O) ?_;rintro _ w3 ⟨b4,rfl,aL,j,i⟩
 have aD:b2≠b4:=by have:=e.lt;omega
 have aE:b3≠b4:=by have:=f.lt;omega
 have aA:=Q0 g.size aL;have e:=e.bw j;have f:=f.bw j;have g:=btr g j;refine Za O<|Zx aI fun a hf _ aM=>?_;refine Ze (Vd O X0s 0)<|Ze (X0 O X8 (e.at 0))<|Ze (Vd O X0s 0)<|Ze (X0 O X8 (f.at 0))<|Ze (X2d O O)<|Ze (Vd O X0u 1)<|Ze (X0 O X8 (e.at 1))<|Ze (Vd O X0u 1)<|Ze (X0 O X8 (f.at 1))<|Ze (X2d O O) ?_;refine Ze (Vd O X0v 2)<|Ze (X0 O X8 (e.at 2))<|Ze (Vd O X0v 2)<|Ze (X0 O X8 (f.at 2))<|Ze (X2d O O)<|Ze (Vd O X0w 3)<|Ze (X0 O X8 (e.at 3))<|Ze (Vd O X0w 3)<|Ze (X0 O X8 (f.at 3))<|Ze (X2d O O) ?_;refine Ze (Xi (ps:=[(0,vi (wr (x.a+y.a))),(1,vi (wr (x.b+y.b))),(2,vi (wr (x.c+y.c))),(3,vi (wr (x.d+y.d)))]) (cs:=[vi (wr (x.a+y.a)),vi (wr (x.b+y.b)),vi (wr (x.c+y.c)),vi (wr (x.d+y.d))]) O (fun _=>by first|rfl|kernel_rfl))<|Ze (Vn X0k e)<|Ze (Vn X0k f)<|Zf (X2 (k:=2) (vs:=[.agg #[vi x.a,vi x.b,vi x.c,vi x.d],.agg #[vi y.a,vi y.b,vi y.c,vi y.d]]) (zs:=[vi x.a,vi x.b,vi x.c,vi x.d,vi y.a,vi y.b,vi y.c,vi y.d]) O X5k X64 O O) ?_;rintro _ w4 ⟨b6,rfl,aN,j,aB⟩
 have aF:b2≠b6:=by have:=e.lt;omega
 have aG:b3≠b6:=by have:=f.lt;omega
 have aH:b4≠b6:=by have:=i.lt;omega
 have aQ:=Q0 g.size aN;have i:=i.bw j;have g:=btr g j;refine Zf (Vc (Xr4 _ (rAdd x y) (some ⟨b6,0,none⟩) 2 ([x,y]) (Rd.of_blk aB O _ aB.lt) O O5 O5) Xdz) ?_;rintro _ w5 ⟨rfl,j⟩;have i:=i.bw j;have g:=btr g j;refine Ze (X3 (vs:=[.agg #[vi ((rIf1 (rAdd x y) ([x,y])).a),vi ((rIf1 (rAdd x y) ([x,y])).b),vi ((rIf1 (rAdd x y) ([x,y])).c),vi ((rIf1 (rAdd x y) ([x,y])).d)],.bool (rIf2 (rAdd x y) ([x,y]))]) O O)<|Ze (X3 (vs:=[.agg #[vi ((rIf1 (rAdd x y) ([x,y])).a),vi ((rIf1 (rAdd x y) ([x,y])).b),vi ((rIf1 (rAdd x y) ([x,y])).c),vi ((rIf1 (rAdd x y) ([x,y])).d)],.bool (rIf2 (rAdd x y) ([x,y]))]) O O)<|Zo (Vw [vi ((rIf1 (rAdd x y) ([x,y])).a),vi ((rIf1 (rAdd x y) ([x,y])).b),vi ((rIf1 (rAdd x y) ([x,y])).c),vi ((rIf1 (rAdd x y) ([x,y])).d)] X1c i) ?_;rintro _ w6 ⟨ho,hb⟩;have g:=Below.oy g ho aA;have i:=hb;refine Za O<|Zt aM fun a hf=>?_
 refine Q6 (X4 hf (X0q hf O (ResV.cellN (l:=[vi ((rIf1 (rAdd x y) ([x,y])).a),vi ((rIf1 (rAdd x y) ([x,y])).b),vi ((rIf1 (rAdd x y) ([x,y])).c),vi ((rIf1 (rAdd x y) ([x,y])).d)]) O X0k (i.at 0) O) O) ?_)
 exact ⟨O,g⟩
theorem Y2u(w0:World)(x:Rg) : Ret Tryz.prog 228 [.agg #[vi x.a,vi x.b,vi x.c,vi x.d]] w0 (fun v w=>v=.tuple #[rV (rIf1 (rRoot x) [x]),.bool (rIf2 (rRoot x) [x])]/\Below w0.heap.size w0 w):=by
 refine enter Tryz.func228 O 30 O O ?_;intro a hf
 have g:=bz w0
 refine Zs hf fun _ aF=>?_;refine Zf (X0m (zs:=[vi x.a,vi x.b,vi x.c,vi x.d]) O O) ?_;rintro _ w1 ⟨b2,rfl,aG,i,e⟩;have aK:=Q0 g.size aG;have g:=btr g i;refine Zf (Xl (zs:=[vi 0,vi 0,vi 0,vi 0]) X2c O) ?_;rintro _ w2 ⟨b3,rfl,aH,i,f⟩
 have aC:b2≠b3:=by have:=e.lt;omega
 have aA:=Q0 g.size aH;have e:=e.bw i;have g:=btr g i;refine Za O<|Zx aF fun a hf _ aI=>?_;refine Ze (Vd O X0u 1)<|Ze (X0 O X8 (e.at 1))<|Ze (Vd O X0w 3)<|Ze (X0 O X8 (e.at 3))<|Ze (X4a O O)<|Ze (Vd O X0s 0)<|Ze (X0 O X8 (e.at 0))<|Ze (Vd O X0v 2)<|Ze (X0 O X8 (e.at 2))<|Ze (X2d O O) ?_;refine Ze (Vd O X0u 1)<|Ze (X0 O X8 (e.at 1))<|Ze (Vd O X0w 3)<|Ze (X0 O X8 (e.at 3))<|Ze (X2d O O)<|Ze (Vd O X0v 2)<|Ze (X0 O X8 (e.at 2))<|Ze (Vd O X0s 0)<|Ze (X0 O X8 (e.at 0))<|Ze (X4a O O) ?_;refine Ze (Xi (ps:=[(0,vi (wr (x.b-x.d))),(1,vi (wr (x.a+x.c))),(2,vi (wr (x.b+x.d))),(3,vi (wr (x.c-x.a)))]) (cs:=[vi (wr (x.b-x.d)),vi (wr (x.a+x.c)),vi (wr (x.b+x.d)),vi (wr (x.c-x.a))]) O (fun _=>by first|rfl|kernel_rfl))<|Ze (Vn X0k e)<|Zf (X2 (k:=1) (vs:=[.agg #[vi x.a,vi x.b,vi x.c,vi x.d]]) (zs:=[vi x.a,vi x.b,vi x.c,vi x.d]) O X5k X64 O O) ?_;rintro _ w3 ⟨b5,rfl,aJ,i,aB⟩
 have aD:b2≠b5:=by have:=e.lt;omega
 have aE:b3≠b5:=by have:=f.lt;omega
 have aL:=Q0 g.size aJ;have f:=f.bw i;have g:=btr g i;refine Zf (Vc (Xr4 _ (rRoot x) (some ⟨b5,0,none⟩) 1 ([x]) (Rd.of_blk aB O _ aB.lt) O O5 O5) Xdz) ?_;rintro _ w4 ⟨rfl,i⟩;have f:=f.bw i;have g:=btr g i;refine Ze (X3 (vs:=[.agg #[vi ((rIf1 (rRoot x) ([x])).a),vi ((rIf1 (rRoot x) ([x])).b),vi ((rIf1 (rRoot x) ([x])).c),vi ((rIf1 (rRoot x) ([x])).d)],.bool (rIf2 (rRoot x) ([x]))]) O O)<|Ze (X3 (vs:=[.agg #[vi ((rIf1 (rRoot x) ([x])).a),vi ((rIf1 (rRoot x) ([x])).b),vi ((rIf1 (rRoot x) ([x])).c),vi ((rIf1 (rRoot x) ([x])).d)],.bool (rIf2 (rRoot x) ([x]))]) O O)<|Zo (Vw [vi ((rIf1 (rRoot x) ([x])).a),vi ((rIf1 (rRoot x) ([x])).b),vi ((rIf1 (rRoot x) ([x])).c),vi ((rIf1 (rRoot x) ([x])).d)] X1c f) ?_;rintro _ w5 ⟨ho,hb⟩;have g:=Below.oy g ho aA;have f:=hb;refine Za O<|Zt aI fun a hf=>?_
 refine Q6 (X4 hf (X0q hf O (ResV.cellN (l:=[vi ((rIf1 (rRoot x) ([x])).a),vi ((rIf1 (rRoot x) ([x])).b),vi ((rIf1 (rRoot x) ([x])).c),vi ((rIf1 (rRoot x) ([x])).d)]) O X0k (f.at 0) O) O) ?_)
 exact ⟨O,g⟩
theorem Y0h(w0:World)(x:Rg)(m:Int)(hm:m<=1000) : Ret Tryz.prog 196 [.agg #[vi x.a,vi x.b,vi x.c,vi x.d],vi m] w0 (fun v w=>v=dV (dLow x m)/\Below w0.heap.size w0 w):=by
 refine enter Tryz.func196 O 18 O O ?_;intro a i
 have k:=bz w0
 refine Zs i fun _ aE=>?_;refine Zf (X0m (zs:=[vi x.a,vi x.b,vi x.c,vi x.d]) O O) ?_;rintro _ w1 ⟨b2,rfl,aF,n,e⟩;have aA:=Q0 k.size aF;have k:=btr k n;refine Zf (Xl (zs:=[vi 0,vi 0,vi 0,vi 0,vi 0]) X1s O) ?_;rintro _ w2 ⟨b3,rfl,aG,n,f⟩;have aB:=Q0 k.size aG;have e:=e.bw n;have k:=btr k n;refine ZX aE fun a i _ aH=>?_;refine Q8<|X0d (σ:=Rg×Int) (fun (s:Rg×Int) (a:Act) (w:World)=>match s with|(y,j)=>Fr a 18 [(1,vi j),(2,(pZ9 b2)),(4,(pZ9 b3))]/\(dLow y j=dLow x m)/\(j<=1000)/\Blk w b2 137 [vi y.a,vi y.b,vi y.c,vi y.d]/\Blk w b3 139 [vi 0,vi 0,vi 0,vi 0,vi 0]/\Below w0.heap.size w0 w) (fun (s:Rg×Int)=>match s with|(y,j)=>j.toNat) (x,m) ?_ ?_
 ·exact ⟨i.sb,O,hm,e,f,k⟩
 rintro ⟨y,j⟩ a w3 ⟨i,q,aN,e,f,k⟩;refine Q5 fun _ aI=>?_;refine Q5 fun _ aJ=>?_;refine X0f (fun a w=>Fr a 18 [(1,vi j),(2,(pZ9 b2)),(4,(pZ9 b3)),(10,.bool ((decide (0<j))&&(rEven y)))]/\Below w3.heap.size w3 w) ?_ ?_
 ·have p:Below w3.heap.size w3 w3:=Below.refl _ _
  refine Zr i<|Zm O<|Ze (X29 O O)<|Zm O ?_
  refine Zg 7 O (fun g=>?_) (fun g=>?_)
  ·refine Zv (gW g) (Vn X0k e) ?_;refine Zk (gW g) (Vc (Y2q _ y) Xxz) ?_;rintro _ w4 ⟨rfl,n⟩;have k:=btr k n;have p:=btr p n;refine Ze (Xf O g O) ?_;refine Zn fun a i=>?_;exact ⟨i.sub ⟨O,O,O,X1 O (by first|rfl|(simp only [g,bs];done)|simp [g]),trivial⟩,p⟩
  (iterate 2 refine Zp (gP g) ?_);refine Ze (Xb O g O) ?_;refine Zn fun a i=>?_;exact ⟨i.sub ⟨O,O,O,X1 O (by first|rfl|(simp only [g,bs];done)|simp [g]),trivial⟩,p⟩
 rintro a w5 ⟨i,n⟩;have e:=e.bw n;have f:=f.bw n;have k:=btr k n;refine aJ _ _ ?_
 refine X04 i O (fun o=>?_) (fun o=>?_)
 ·have aC:=o
  have aO:0<j:=by revert o;simp;omega
  have aK:rEven y=true:=by revert o;cases rEven y<;>simp
  refine Q7<|aI _ _<|Q8<|Zs i fun _ aL=>?_;refine Ze (Vn X0k e)<|Zf (Vc (Y2r _ y) Xy0) ?_;rintro _ w6 ⟨rfl,n⟩;have e:=e.bw n;have f:=f.bw n;have k:=btr k n;refine Zo (Vw [vi ((rHalf y).a),vi ((rHalf y).b),vi ((rHalf y).c),vi ((rHalf y).d)] X1c e) ?_;rintro _ w7 ⟨ho,hb⟩;have f:=f.oz ho e O;have k:=Below.oy k ho aA;have e:=hb;refine Zt aL fun a i=>?_;refine Zr i<|Zm O<|Ze (X18 O O Z Z)<|Za O ?_;refine Zn fun a i=>?_;refine Xn<|Xd ?_;exact ⟨(rHalf y,j-1),⟨i.sb,(by rw [<- q];exact (X4c Z aK).symm),Z,e,f,k⟩,O1⟩
 have aC:=o
 have aM:dLow y j=⟨y,j⟩:=X2h (by intro h0;revert o;simp [h0])
 refine Q9<|Xm<|Xm<|X0a ?_;refine aH _ _<|Zs i fun _ aD=>?_;refine Ze (Vn X0k e)<|Zm O<|Ze (Xi (ps:=[(0,.agg #[vi y.a,vi y.b,vi y.c,vi y.d]),(1,vi j)]) (cs:=[vi y.a,vi y.b,vi y.c,vi y.d,vi j]) O (fun _=>by first|rfl|kernel_rfl))<|Zo (Vw [vi y.a,vi y.b,vi y.c,vi y.d,vi j] X09 f) ?_;rintro _ w8 ⟨ho,hb⟩;have k:=Below.oy k ho aB;have f:=hb;refine Zt aD fun a i=>?_
 refine Q6 (X4 i (Xv i O (ResV.cellN (l:=[vi y.a,vi y.b,vi y.c,vi y.d,vi j]) O Xr (f.at 0) O)) ?_)
 refine ⟨?_,k⟩
 rw [<- q,aM]
theorem Y2n(w0:World)(x:Rg) : Ret Tryz.prog 208 [.agg #[vi x.a,vi x.b,vi x.c,vi x.d]] w0 (fun v w=>v=.tuple #[rV (rDiv1 x),.bool (rDiv2 x)]/\Below w0.heap.size w0 w):=by
 refine enter Tryz.func208 O 43 O O ?_;intro a m
 have i:=bz w0
 refine Zs m fun _ aF=>?_;refine Zf (X0m (zs:=[vi x.a,vi x.b,vi x.c,vi x.d]) O O) ?_;rintro _ w1 ⟨b2,rfl,aG,j,e⟩;have aO:=Q0 i.size aG;have i:=btr i j;refine Zf (Xl (zs:=[vi 0,vi 0,vi 0,vi 0]) X2c O) ?_;rintro _ w2 ⟨b3,rfl,aH,j,f⟩
 have aE:b2≠b3:=by have:=e.lt;omega
 have p:=Q0 i.size aH;have e:=e.bw j;have i:=btr i j;refine Za O<|ZX aF fun a m _ aI=>?_;refine Q5 fun _ aJ=>?_;refine X0f (fun a w=>Fr a 43 [(1,(pZ9 b2)),(2,(pZ9 b3)),(11,.bool ((!(rOk x))||(!(rEven x))))]/\Below w2.heap.size w2 w) ?_ ?_
 ·have n:Below w2.heap.size w2 w2:=Below.refl _ _
  refine Zr m<|Ze (Vn X0k e)<|Zf (Vc (Xl3 _ x) X89) ?_;rintro _ w3 ⟨rfl,j⟩;have e:=e.bw j;have i:=btr i j;have n:=btr n j;refine Ze (X0x O)<|Zm O ?_
  refine Zg 7 O (fun g=>?_) (fun g=>?_)
  ·(iterate 3 refine Zp (gP g) ?_);refine Ze (Xf O g O) ?_;refine Zn fun a m=>?_;exact ⟨m.sub ⟨O,O,X1 O (by first|rfl|(simp only [g,bs];done)|simp [g]),trivial⟩,n⟩
  refine Zv (gW g) (Vn X0k e) ?_;refine Zk (gW g) (Vc (Xvx _ x) Xhk) ?_;rintro _ w4 ⟨rfl,j⟩;have i:=btr i j;have n:=btr n j;refine Zv (gW g) (X0x O) ?_;refine Ze (Xb O g O) ?_;refine Zn fun a m=>?_;exact ⟨m.sub ⟨O,O,X1 O (by first|rfl|(simp only [g,bs];done)|simp [g]),trivial⟩,n⟩
 rintro a w5 ⟨m,j⟩;have e:=e.bw j;have f:=f.bw j;have i:=btr i j;refine aJ _ _ ?_
 refine X04 m O (fun o=>?_) (fun o=>?_)
 ·have aA:=o
  have hn:rDiv2 x=false:=by unfold rDiv2;revert o;cases rOk x<;>cases rEven x<;>simp
  refine Zs m fun _ aK=>?_;refine Ze (Xi (ps:=[]) (cs:=[vi 0,vi 0,vi 0,vi 0]) O (fun _=>by first|rfl|kernel_rfl))<|Zo (Vw [vi 0,vi 0,vi 0,vi 0] X1c f) ?_;rintro _ w6 ⟨ho,hb⟩;have i:=Below.oy i ho p;have f:=hb;refine Za O<|Zt aK fun a m=>?_;refine Q6<|X5<|X4 m (X0q m O (ResV.cellN (l:=[vi 0,vi 0,vi 0,vi 0]) O X0k (f.at 0) O) O) ?_;exact ⟨by simp [rDiv1,hn],i⟩
 have aA:=o
 have hy:(rOk x&&rEven x)=true:=by revert o;cases rOk x<;>cases rEven x<;>simp
 have aL:rOk x=true:=by revert hy;cases rOk x<;>simp
 refine Q7<|aI _ _<|Zs m fun _ aM=>?_;refine Ze (Vd O X0u 1)<|Ze (X0 O X8 (e.at 1))<|Ze (Vd O X0w 3)<|Ze (X0 O X8 (e.at 3))<|Ze (X4a O O)<|Ze (Xda O O O)<|Ze (Vd O X0s 0)<|Ze (X0 O X8 (e.at 0))<|Ze (Vd O X0v 2)<|Ze (X0 O X8 (e.at 2)) ?_;refine Ze (X2d O O)<|Ze (Xda O O O)<|Ze (Vd O X0u 1)<|Ze (X0 O X8 (e.at 1))<|Ze (Vd O X0w 3)<|Ze (X0 O X8 (e.at 3))<|Ze (X2d O O)<|Ze (Xda O O O)<|Ze (Vd O X0v 2)<|Ze (X0 O X8 (e.at 2)) ?_;refine Ze (Vd O X0s 0)<|Ze (X0 O X8 (e.at 0))<|Ze (X4a O O)<|Ze (Xda O O O)<|Ze (Xi (ps:=[(0,vi (wr ((wr (x.b-x.d)).tdiv 2))),(1,vi (wr ((wr (x.a+x.c)).tdiv 2))),(2,vi (wr ((wr (x.b+x.d)).tdiv 2))),(3,vi (wr ((wr (x.c-x.a)).tdiv 2)))]) (cs:=[vi (wr ((wr (x.b-x.d)).tdiv 2)),vi (wr ((wr (x.a+x.c)).tdiv 2)),vi (wr ((wr (x.b+x.d)).tdiv 2)),vi (wr ((wr (x.c-x.a)).tdiv 2))]) O (fun _=>by first|rfl|kernel_rfl))<|Ze (Vn X0k e)<|Zf (X2 (k:=1) (vs:=[.agg #[vi x.a,vi x.b,vi x.c,vi x.d]]) (zs:=[vi x.a,vi x.b,vi x.c,vi x.d]) O X5k X64 O O) ?_;rintro _ w7 ⟨b10,rfl,aB,j,q⟩
 have aC:b2≠b10:=by have:=e.lt;omega
 have aD:b3≠b10:=by have:=f.lt;omega
 have aN:=Q0 i.size aB;have f:=f.bw j;have i:=btr i j;refine Zf (Vc (Xr4 _ (rHalf x) (some ⟨b10,0,none⟩) 1 ([x]) (Rd.of_blk q O _ q.lt) O O5 O5) Xdz) ?_;rintro _ w8 ⟨rfl,j⟩;have f:=f.bw j;have i:=btr i j;refine Ze (X3 (vs:=[.agg #[vi ((rIf1 (rHalf x) ([x])).a),vi ((rIf1 (rHalf x) ([x])).b),vi ((rIf1 (rHalf x) ([x])).c),vi ((rIf1 (rHalf x) ([x])).d)],.bool (rIf2 (rHalf x) ([x]))]) O O)<|Ze (X3 (vs:=[.agg #[vi ((rIf1 (rHalf x) ([x])).a),vi ((rIf1 (rHalf x) ([x])).b),vi ((rIf1 (rHalf x) ([x])).c),vi ((rIf1 (rHalf x) ([x])).d)],.bool (rIf2 (rHalf x) ([x]))]) O O)<|Zo (Vw [vi ((rIf1 (rHalf x) ([x])).a),vi ((rIf1 (rHalf x) ([x])).b),vi ((rIf1 (rHalf x) ([x])).c),vi ((rIf1 (rHalf x) ([x])).d)] X1c f) ?_;rintro _ w9 ⟨ho,hb⟩;have i:=Below.oy i ho p;have f:=hb;refine Za O<|Zt aM fun a m=>?_
 refine Q6 (X4 m (X0q m O (ResV.cellN (l:=[vi ((rIf1 (rHalf x) ([x])).a),vi ((rIf1 (rHalf x) ([x])).b),vi ((rIf1 (rHalf x) ([x])).c),vi ((rIf1 (rHalf x) ([x])).d)]) O X0k (f.at 0) O) O) ?_)
 refine ⟨?_,i⟩
 have hd:rDiv2 x=true:=hy
 have h2:=Xpw aL
 show Value.tuple #[rV (rIf1 (rHalf x) [x]),.bool (rIf2 (rHalf x) [x])]=_
 rw [rIf1,h2,rDiv1,hd]
theorem Xzg(w0:World)(x:Rg)(k:Int) : Ret Tryz.prog 147 [.agg #[vi x.a,vi x.b,vi x.c,vi x.d],vi k] w0 (fun v w=>v=.tuple #[rV (mulOm1 x k),.bool (mulOm2 x k)]/\Below w0.heap.size w0 w):=by
 refine enter Tryz.func147 O 33 O O ?_;intro a f
 have n:=bz w0
 refine Zs f fun _ aJ=>?_;refine Zf (X0m (zs:=[vi x.a,vi x.b,vi x.c,vi x.d]) O O) ?_;rintro _ w1 ⟨b2,rfl,aK,o,e⟩;have aB:=Q0 n.size aK;have n:=btr n o;refine Zf (Xl (zs:=[vi 0,vi 0,vi 0,vi 0]) X2c O) ?_;rintro _ w2 ⟨b3,rfl,aL,o,g⟩
 have aI:b2≠b3:=by have:=e.lt;omega
 have z:=Q0 n.size aL;have e:=e.bw o;have n:=btr n o;refine Za O<|ZX aJ fun a f _ aM=>?_;refine Q5 fun _ aN=>?_;refine X0f (fun a w=>Fr a 33 [(1,vi k),(2,(pZ9 b2)),(4,(pZ9 b3)),(13,.bool ((!(inR k (-1000) 1000))||(!(rOk x))))]/\Below w2.heap.size w2 w) ?_ ?_
 ·have u:Below w2.heap.size w2 w2:=Below.refl _ _
  refine Zr f<|Zm O<|Zf (Vc (F91 _ k (-1000) 1000) X3c) ?_;rintro _ _ ⟨rfl,rfl⟩;refine Ze (X0x O)<|Zm O ?_
  refine Zg 9 O (fun i=>?_) (fun i=>?_)
  ·(iterate 3 refine Zp (gP i) ?_);refine Ze (Xf O i O) ?_;refine Zn fun a f=>?_;exact ⟨f.sub ⟨O,O,O,X1 O (by first|rfl|(simp only [i,bs];done)|simp [i]),trivial⟩,u⟩
  refine Zv (gW i) (Vn X0k e) ?_;refine Zk (gW i) (Vc (Xl3 _ x) X89) ?_;rintro _ w3 ⟨rfl,o⟩;have n:=btr n o;have u:=btr u o;refine Zv (gW i) (X0x O) ?_;refine Ze (Xb O i O) ?_;refine Zn fun a f=>?_;exact ⟨f.sub ⟨O,O,O,X1 O (by first|rfl|(simp only [i,bs];done)|simp [i]),trivial⟩,u⟩
 rintro a w4 ⟨f,o⟩;have e:=e.bw o;have g:=g.bw o;have n:=btr n o;refine aN _ _ ?_
 refine X04 f O (fun p=>?_) (fun p=>?_)
 ·have aC:=p
  have hn:mulOm2 x k=false:=by unfold mulOm2;revert p;cases inR k (-1000) 1000<;>cases rOk x<;>simp
  refine Zs f fun _ aO=>?_;refine Ze (Xi (ps:=[]) (cs:=[vi 0,vi 0,vi 0,vi 0]) O (fun _=>by first|rfl|kernel_rfl))<|Zo (Vw [vi 0,vi 0,vi 0,vi 0] X1c g) ?_;rintro _ w5 ⟨ho,hb⟩;have n:=Below.oy n ho z;have g:=hb;refine Za O<|Zt aO fun a f=>?_;refine Q6<|X5<|X4 f (X0q f O (ResV.cellN (l:=[vi 0,vi 0,vi 0,vi 0]) O X0k (g.at 0) O) O) ?_;exact ⟨by simp [mulOm1,hn],n⟩
 have aC:=p
 have hy:mulOm2 x k=true:=by unfold mulOm2;revert p;cases inR k (-1000) 1000<;>cases rOk x<;>simp
 refine Q7<|aM _ _<|Q5 fun _ aP=>?_;refine Zs f fun _ aD=>?_;refine Zm O<|Ze (Xa3 O O O)<|Ze (X2d O O)<|Ze (Xa3 O O O)<|Zm O<|Zt aD fun a f=>?_;refine Q8 ?_
 have hj:turns k=((turns k).toNat:Int):=by have:=X46 k;omega
 have aQ:=(X46 k).2;refine X0d (σ:=Rg×Nat) (fun (s:Rg×Nat) (a:Act) (w:World)=>match s with|(y,j)=>Fr a 33 [(2,(pZ9 b2)),(4,(pZ9 b3)),(18,vi ((wr ((k.tmod 8)+8)).tmod 8)),(19,vi (j:Int))]/\(rTurnN ((turns k).toNat-j) y=rTurn x k)/\(j<=(turns k).toNat)/\Blk w b2 137 [vi y.a,vi y.b,vi y.c,vi y.d]/\Blk w b3 137 [vi 0,vi 0,vi 0,vi 0]/\Below w0.heap.size w0 w) (fun (s:Rg×Nat)=>match s with|(y,j)=>(turns k).toNat-j) (x,0) ?_ ?_
 ·exact ⟨f.sb,O,(Qf _),e,g,n⟩
 rintro ⟨y,j⟩ a w6 ⟨f,q,aQ,e,g,n⟩;refine Zs f fun _ aE=>?_;refine Ze (X16 O O)<|ZX aE fun a f _ aF=>?_
 refine X12 f O (fun aA t=>?_) (fun aA t=>?_)
 ·have aR:(j:Int)<turns k:=t
  refine Q7<|aF _ _<|Q5 fun _ aG=>?_;refine Q8<|Zr f<|Ze (Vd O X0w 3)<|Ze (X0 O X8 (e.at 3))<|Ze (Xl4 O)<|Ze (Vd O X0s 0)<|Ze (X0 O X8 (e.at 0))<|Ze (Vd O X0u 1)<|Ze (X0 O X8 (e.at 1))<|Ze (Vd O X0v 2)<|Ze (X0 O X8 (e.at 2))<|Ze (Xi (ps:=[(0,vi (wr (-y.d))),(1,vi y.a),(2,vi y.b),(3,vi y.c)]) (cs:=[vi (wr (-y.d)),vi y.a,vi y.b,vi y.c]) O (fun _=>by first|rfl|kernel_rfl)) ?_;refine Zo (Vw [vi (wr (-y.d)),vi y.a,vi y.b,vi y.c] X1c e) ?_;rintro _ w7 ⟨ho,hb⟩;have g:=g.oy ho Z;have n:=Below.oy n ho aB;have e:=hb;refine Zn fun a f=>?_;refine Xn<|aG _ _<|Zr f<|Ze (X03 O O Z Z)<|Zm O ?_;refine Zn fun a f=>?_;refine Xd ?_;exact ⟨(rOm y,j+1),⟨f.sb,(by rw [<- q];obtain ⟨m,hm⟩ : ∃ m,(turns k).toNat-j=m+1:=⟨(turns k).toNat-j-1,by omega⟩;rw [hm,show (turns k).toNat-(j+1)=m from by omega];rfl),Z,e,g,n⟩,O1⟩
 have aR:¬ (j:Int)<turns k:=t
 refine Q9<|Xm<|Xm<|X0a ?_;refine aP _ _<|Zs f fun _ aH=>?_;refine Ze (Vn X0k e)<|Zo (Vw [vi y.a,vi y.b,vi y.c,vi y.d] X1c g) ?_;rintro _ w8 ⟨ho,hb⟩;have n:=Below.oy n ho z;have g:=hb;refine Za O<|Zt aH fun a f=>?_
 refine Q6 (X4 f (X0q f O (ResV.cellN (l:=[vi y.a,vi y.b,vi y.c,vi y.d]) O X0k (g.at 0) O) O) ?_)
 have aS:(turns k).toNat-j=0:=by omega
 rw [aS] at q
 refine ⟨?_,n⟩
 rw [mulOm1,hy,Q4 O,<- q];rfl
theorem Xbh(w0:World)(k:Int)(hk:inR k (-1000) 1000=true) : Ret Tryz.prog 123 [vi k] w0 (fun v w=>v=dV (dPow k)/\Below w0.heap.size w0 w):=by
 refine enter Tryz.func123 O 13 O O ?_;intro a hf
 have f:=bz w0
 refine Zs hf fun _ aB=>?_;refine Zf (Xl (zs:=[vi 0,vi 0,vi 0,vi 0,vi 0]) X1s O) ?_;rintro _ w1 ⟨b2,rfl,aC,hE,e⟩;have aA:=Q0 f.size aC;have f:=btr f hE;refine Zx aB fun a hf _ aD=>?_;refine Ze (Xi (ps:=[(0,vi 1)]) (cs:=[vi 1,vi 0,vi 0,vi 0]) O (fun _=>by first|rfl|kernel_rfl))<|Zm O<|Zf (Vc (Xzg _ (⟨1,0,0,0⟩ : Rg) k) Xoh) ?_;rintro _ w2 ⟨rfl,hE⟩;have e:=e.bw hE;have f:=btr f hE;refine Zm O<|Ze (X3 (vs:=[.agg #[vi ((mulOm1 (⟨1,0,0,0⟩ : Rg) k).a),vi ((mulOm1 (⟨1,0,0,0⟩ : Rg) k).b),vi ((mulOm1 (⟨1,0,0,0⟩ : Rg) k).c),vi ((mulOm1 (⟨1,0,0,0⟩ : Rg) k).d)],.bool (mulOm2 (⟨1,0,0,0⟩ : Rg) k)]) O O)<|Ze (X3 (vs:=[.agg #[vi ((mulOm1 (⟨1,0,0,0⟩ : Rg) k).a),vi ((mulOm1 (⟨1,0,0,0⟩ : Rg) k).b),vi ((mulOm1 (⟨1,0,0,0⟩ : Rg) k).c),vi ((mulOm1 (⟨1,0,0,0⟩ : Rg) k).d)],.bool (mulOm2 (⟨1,0,0,0⟩ : Rg) k)]) O O) ?_;refine ZB [vi ((mulOm1 (⟨1,0,0,0⟩ : Rg) k).a),vi ((mulOm1 (⟨1,0,0,0⟩ : Rg) k).b),vi ((mulOm1 (⟨1,0,0,0⟩ : Rg) k).c),vi ((mulOm1 (⟨1,0,0,0⟩ : Rg) k).d)] X2c X1c fun b4 w4 aE hE aF=>?_;have aH:=Q0 f.size aE;have e:=e.bw hE;have f:=btr f hE;refine Za O<|Zx aD fun a hf _ aG=>?_;refine Ze (Vn X0k aF)<|Ze (Xi (ps:=[(0,.agg #[vi ((mulOm1 (⟨1,0,0,0⟩ : Rg) k).a),vi ((mulOm1 (⟨1,0,0,0⟩ : Rg) k).b),vi ((mulOm1 (⟨1,0,0,0⟩ : Rg) k).c),vi ((mulOm1 (⟨1,0,0,0⟩ : Rg) k).d)])]) (cs:=[vi ((mulOm1 (⟨1,0,0,0⟩ : Rg) k).a),vi ((mulOm1 (⟨1,0,0,0⟩ : Rg) k).b),vi ((mulOm1 (⟨1,0,0,0⟩ : Rg) k).c),vi ((mulOm1 (⟨1,0,0,0⟩ : Rg) k).d),vi 0]) O (fun _=>by first|rfl|kernel_rfl))<|Zo (Vw [vi ((mulOm1 (⟨1,0,0,0⟩ : Rg) k).a),vi ((mulOm1 (⟨1,0,0,0⟩ : Rg) k).b),vi ((mulOm1 (⟨1,0,0,0⟩ : Rg) k).c),vi ((mulOm1 (⟨1,0,0,0⟩ : Rg) k).d),vi 0] X09 e) ?_;rintro _ w5 ⟨ho,hb⟩
 have f:=Below.oy f ho aA;have e:=hb;refine Zt aG fun a hf=>?_
 refine Q6 (X4 hf (Xv hf O (ResV.cellN (l:=[vi ((mulOm1 (⟨1,0,0,0⟩ : Rg) k).a),vi ((mulOm1 (⟨1,0,0,0⟩ : Rg) k).b),vi ((mulOm1 (⟨1,0,0,0⟩ : Rg) k).c),vi ((mulOm1 (⟨1,0,0,0⟩ : Rg) k).d),vi 0]) O Xr (e.at 0) O)) ?_)
 refine ⟨?_,f⟩
 have h2:mulOm2 ⟨1,0,0,0⟩ k=true:=by simp only [mulOm2,hk,Qw];rfl
 rw [mulOm1,h2];rfl
theorem Xgy(w0:World)(x:Dy) : Ret Tryz.prog 149 [.agg #[vi x.num.a,vi x.num.b,vi x.num.c,vi x.num.d,vi x.exp]] w0 (fun v w=>v=.bool (dOk x)/\Below w0.heap.size w0 w):=by
 refine enter Tryz.func149 O 22 O O ?_;intro a j
 have m:=bz w0
 refine Zs j fun _ aA=>?_;refine Zf (X0m (zs:=[vi x.num.a,vi x.num.b,vi x.num.c,vi x.num.d,vi x.exp]) O O) ?_;rintro _ w1 ⟨b2,rfl,aB,n,k⟩;have aD:=Q0 m.size aB;have m:=btr m n;refine Za O<|ZX aA fun a j _ aC=>?_;refine X0f (fun a w=>Fr a 22 [(2,.bool (((rOk x.num)&&(inR x.exp 0 60))&&((x.exp==0)||(!(rEven x.num)))))]/\Below w1.heap.size w1 w) ?_ ?_
 ·have i:Below w1.heap.size w1 w1:=Below.refl _ _
  refine Zr j<|Ze (Vd O X1q 0)<|Ze (Xx (l:=[vi x.num.a,vi x.num.b,vi x.num.c,vi x.num.d]) O X0k ((k.at 0).take 4) O)<|Zf (Vc (Xl3 _ x.num) X89) ?_;rintro _ w2 ⟨rfl,n⟩;have k:=k.bw n;have m:=btr m n;have i:=btr i n;refine Zm O ?_
  refine Zg 6 O (fun f=>?_) (fun f=>?_)
  ·refine Zv (gW f) (Vd O X1m 4) ?_;refine Zv (gW f) (X0 O X8 (k.at 4)) ?_;refine Zk (gW f) (Vc (F91 _ x.exp 0 60) X3c) ?_;rintro _ _ ⟨rfl,rfl⟩;refine Ze (Xf O f O)<|Zm O ?_
   refine Zg 11 O (fun e=>?_) (fun e=>?_)
   ·refine Zv (gW e) (Vd O X1m 4) ?_;refine Zv (gW e) (X0 O X8 (k.at 4)) ?_;refine Zv (gW e) (X13 O O) ?_;refine Zv (gW e) (X7 O) ?_
    refine Zg 15 O (fun g=>?_) (fun g=>?_)
    ·(iterate 4 refine Zp (gP g) ?_);refine Zv (gW e) (Xf O g O) ?_;refine Ze (Xf O e O)<|Za O ?_;refine Zn fun a j=>?_;exact ⟨j.sub ⟨X1 O (by first|rfl|(simp only [f,e,g,bs];done)|simp [f,e,g]),trivial⟩,i⟩
    refine Zv (gW g) (Vd O X1q 0) ?_;refine Zv (gW g) (Xx (l:=[vi x.num.a,vi x.num.b,vi x.num.c,vi x.num.d]) O X0k ((k.at 0).take 4) O) ?_;refine Zk (gW g) (Vc (Xvx _ x.num) Xhk) ?_;rintro _ w3 ⟨rfl,n⟩;have m:=btr m n;have i:=btr i n;refine Zv (gW g) (X0x O) ?_;refine Zv (gW e) (Xb O g O) ?_;refine Ze (Xf O e O)<|Za O ?_;refine Zn fun a j=>?_;exact ⟨j.sub ⟨X1 O (by first|rfl|(simp only [f,e,g,bs];done)|simp [f,e,g]),trivial⟩,i⟩
   (iterate 4 refine Zp (gP e) ?_);(iterate 4 refine Zp (gP tv0) ?_);refine Zp (gP e) ?_;refine Ze (Xb O e O)<|Za O ?_;refine Zn fun a j=>?_;exact ⟨j.sub ⟨X1 O (by first|rfl|(simp only [f,e,bs];done)|simp [f,e]),trivial⟩,i⟩
  (iterate 3 refine Zp (gP f) ?_);refine Ze (Xb O f O)<|Zm O<|Zp (gP O) ?_;(iterate 3 refine Zp (gP O) ?_);(iterate 4 refine Zp (gP tv0) ?_);refine Zp (gP O) ?_;refine Ze (Xb O O O)<|Za O ?_;refine Zn fun a j=>?_;exact ⟨j.sub ⟨X1 O (by first|rfl|(simp only [f,bs];done)|simp [f]),trivial⟩,i⟩
 rintro a w4 ⟨j,n⟩;have m:=btr m n;refine aC _ _ ?_
 refine Q6 (X4 j (Xv j O O) ?_)
 exact ⟨by simp [dOk, *],m⟩
theorem Y0g(w0:World)(x:Rg)(m:Int) : Ret Tryz.prog 179 [.agg #[vi x.a,vi x.b,vi x.c,vi x.d],vi m] w0 (fun v w=>v=.tuple #[dV ((dOf x m).getD dZ),.bool ((dOf x m).isSome)]/\Below w0.heap.size w0 w):=by
 refine enter Tryz.func179 O 31 O O ?_;intro a i
 have k:=bz w0
 refine Zs i fun _ aJ=>?_;refine Zf (X0m (zs:=[vi x.a,vi x.b,vi x.c,vi x.d]) O O) ?_;rintro _ w1 ⟨b2,rfl,aK,o,e⟩;have aB:=Q0 k.size aK;have k:=btr k o;refine Zf (Xl (zs:=[vi 0,vi 0,vi 0,vi 0,vi 0]) X1s O) ?_;rintro _ w2 ⟨b3,rfl,aL,o,f⟩;have z:=Q0 k.size aL;have e:=e.bw o;have k:=btr k o;refine Za O<|ZX aJ fun a i _ aM=>?_;refine Q5 fun _ aN=>?_;refine X0f (fun a w=>Fr a 31 [(1,vi m),(2,(pZ9 b2)),(4,(pZ9 b3)),(13,.bool ((!(rOk x))||(!(inR m 0 60))))]/\Below w2.heap.size w2 w) ?_ ?_
 ·have q:Below w2.heap.size w2 w2:=Below.refl _ _
  refine Zr i<|Ze (Vn X0k e)<|Zf (Vc (Xl3 _ x) X89) ?_;rintro _ w3 ⟨rfl,o⟩;have k:=btr k o;have q:=btr q o;refine Ze (X0x O)<|Zm O ?_
  refine Zg 9 O (fun n=>?_) (fun n=>?_)
  ·(iterate 3 refine Zp (gP n) ?_);refine Ze (Xf O n O) ?_;refine Zn fun a i=>?_;exact ⟨i.sub ⟨O,O,O,X1 O (by first|rfl|(simp only [n,bs];done)|simp [n]),trivial⟩,q⟩
  refine Zv (gW n) (X7 O) ?_;refine Zk (gW n) (Vc (F91 _ m 0 60) X3c) ?_;rintro _ _ ⟨rfl,rfl⟩;refine Zv (gW n) (X0x O) ?_;refine Ze (Xb O n O) ?_;refine Zn fun a i=>?_;exact ⟨i.sub ⟨O,O,O,X1 O (by first|rfl|(simp only [n,bs];done)|simp [n]),trivial⟩,q⟩
 rintro a w4 ⟨i,o⟩;have e:=e.bw o;have f:=f.bw o;have k:=btr k o;refine aN _ _ ?_
 refine X04 i O (fun u=>?_) (fun u=>?_)
 ·have t:=u
  have hn:(rOk x&&inR m 0 60)=false:=by revert u;cases rOk x<;>cases inR m 0 60<;>simp
  refine Zs i fun _ aO=>?_;refine Ze (Xi (ps:=[]) (cs:=[vi 0,vi 0,vi 0,vi 0,vi 0]) O (fun _=>by first|rfl|kernel_rfl))<|Zo (Vw [vi 0,vi 0,vi 0,vi 0,vi 0] X09 f) ?_;rintro _ w5 ⟨ho,hb⟩;have k:=Below.oy k ho z;have f:=hb;refine Za O<|Zt aO fun a i=>?_;refine Q6<|X5<|X4 i (X0q i O (ResV.cellN (l:=[vi 0,vi 0,vi 0,vi 0,vi 0]) O Xr (f.at 0) O) O) ?_;exact ⟨by simp [dOf,hn,dZ],k⟩
 have t:=u
 have hy:(rOk x&&inR m 0 60)=true:=by revert u;cases rOk x<;>cases inR m 0 60<;>simp
 have aC:=(Qd _ _▸hy:rOk x=true/\inR m 0 60=true);have hm:=X0b.1 aC.2;refine Q7<|aM _ _<|Q5 fun _ aP=>?_;refine Q8<|X0d (σ:=Rg×Int) (fun (s:Rg×Int) (a:Act) (w:World)=>match s with|(y,j)=>Fr a 31 [(1,vi j),(2,(pZ9 b2)),(4,(pZ9 b3))]/\(dLow y j=dLow x m)/\(rOk y=true)/\(j<=60)/\Blk w b2 137 [vi y.a,vi y.b,vi y.c,vi y.d]/\Blk w b3 139 [vi 0,vi 0,vi 0,vi 0,vi 0]/\Below w0.heap.size w0 w) (fun (s:Rg×Int)=>match s with|(y,j)=>j.toNat) (x,m) ?_ ?_
 ·exact ⟨i.sb,O,aC.1,hm.2,e,f,k⟩
 rintro ⟨y,j⟩ a w6 ⟨i,h,aD,aR,e,f,k⟩;refine Q5 fun _ aE=>?_;refine Q5 fun _ aF=>?_;refine X0f (fun a w=>Fr a 31 [(1,vi j),(2,(pZ9 b2)),(4,(pZ9 b3)),(20,.bool ((decide (0<j))&&(rEven y)))]/\Below w6.heap.size w6 w) ?_ ?_
 ·have q:Below w6.heap.size w6 w6:=Below.refl _ _
  refine Zr i<|Zm O<|Ze (X29 O O)<|Zm O ?_
  refine Zg 17 O (fun g=>?_) (fun g=>?_)
  ·refine Zv (gW g) (Vn X0k e) ?_;refine Zk (gW g) (Vc (Xvx _ y) Xhk) ?_;rintro _ w7 ⟨rfl,o⟩;have k:=btr k o;have q:=btr q o;refine Ze (Xf O g O) ?_;refine Zn fun a i=>?_;exact ⟨i.sub ⟨O,O,O,X1 O (by first|rfl|(simp only [t,g,bs];done)|simp [t,g]),trivial⟩,q⟩
  (iterate 2 refine Zp (gP g) ?_);refine Ze (Xb O g O) ?_;refine Zn fun a i=>?_;exact ⟨i.sub ⟨O,O,O,X1 O (by first|rfl|(simp only [t,g,bs];done)|simp [t,g]),trivial⟩,q⟩
 rintro a w8 ⟨i,o⟩;have e:=e.bw o;have f:=f.bw o;have k:=btr k o;refine aF _ _ ?_
 refine X04 i O (fun p=>?_) (fun p=>?_)
 ·have aA:=p
  have aS:0<j:=by revert p;simp;omega
  have aG:rEven y=true:=by revert p;cases rEven y<;>simp
  refine Q7<|aE _ _<|Q8<|Zs i fun _ aH=>?_;refine Ze (Vn X0k e)<|Zf (Vc (Y2n _ y) Xxw) ?_;rintro _ w9 ⟨rfl,o⟩;have e:=e.bw o;have f:=f.bw o;have k:=btr k o;refine Zm O<|Ze (X3 (vs:=[.agg #[vi ((rDiv1 y).a),vi ((rDiv1 y).b),vi ((rDiv1 y).c),vi ((rDiv1 y).d)],.bool (rDiv2 y)]) O O)<|Ze (X3 (vs:=[.agg #[vi ((rDiv1 y).a),vi ((rDiv1 y).b),vi ((rDiv1 y).c),vi ((rDiv1 y).d)],.bool (rDiv2 y)]) O O)<|Zo (Vw [vi ((rDiv1 y).a),vi ((rDiv1 y).b),vi ((rDiv1 y).c),vi ((rDiv1 y).d)] X1c e) ?_;rintro _ aT ⟨ho,hb⟩;have f:=f.oz ho e O;have k:=Below.oy k ho aB;have e:=hb;refine Zt aH fun a i=>?_;refine Zr i<|Zm O<|Ze (X18 O O Z Z)<|Za O ?_;refine Zn fun a i=>?_;refine Xn ?_
  rw [rDiv1,rDiv2,aD,aG,Bool.and_self,Q4 rfl] at e
  refine Xd ?_;exact ⟨(rHalf y,j-1),⟨i.sb,(by rw [<- h];exact (X4c Z aG).symm),(X7o aD),Z,e,f,k⟩,O1⟩
 have aA:=p
 have aQ:dLow y j=⟨y,j⟩:=X2h (by intro h0;revert p;simp [h0])
 refine Q9<|Xm<|Xm<|X0a ?_;refine aP _ _<|Zs i fun _ aI=>?_;refine Ze (Vn X0k e)<|Zm O<|Ze (Xi (ps:=[(0,.agg #[vi y.a,vi y.b,vi y.c,vi y.d]),(1,vi j)]) (cs:=[vi y.a,vi y.b,vi y.c,vi y.d,vi j]) O (fun _=>by first|rfl|kernel_rfl))<|Zo (Vw [vi y.a,vi y.b,vi y.c,vi y.d,vi j] X09 f) ?_;rintro _ aU ⟨ho,hb⟩;have k:=Below.oy k ho z;have f:=hb;refine Za O<|Zt aI fun a i=>?_
 refine Q6 (X4 i (X0q i O (ResV.cellN (l:=[vi y.a,vi y.b,vi y.c,vi y.d,vi j]) O Xr (f.at 0) O) O) ?_)
 refine ⟨?_,k⟩
 have he:dOf x m=some ⟨y,j⟩:=by rw [dOf,Q4 hy,<- h,aQ]
 rw [he];rfl
theorem Y0i(w0:World)(x:Dy)(m:Int)(h0:0<=x.exp)(hm:m<=60)(aG:x.exp<=m) : Ret Tryz.prog 209 [.agg #[vi x.num.a,vi x.num.b,vi x.num.c,vi x.num.d,vi x.exp],vi m] w0 (fun v w=>v=.tuple #[rV ((dRaise x m).1),.bool ((dRaise x m).2)]/\Below w0.heap.size w0 w):=by
 refine enter Tryz.func209 O 28 O O ?_;intro a g
 have k:=bz w0
 refine Zs g fun _ aH=>?_;refine Zf (X0m (zs:=[vi x.num.a,vi x.num.b,vi x.num.c,vi x.num.d,vi x.exp]) O O) ?_;rintro _ w1 ⟨b2,rfl,aI,p,o⟩;have aS:=Q0 k.size aI;have k:=btr k p;refine Zf (Xl (zs:=[vi 0,vi 0,vi 0,vi 0]) X2c O) ?_;rintro _ w2 ⟨b3,rfl,aJ,p,f⟩;have aB:=Q0 k.size aJ;have o:=o.bw p;have k:=btr k p;refine Za O<|Zx aH fun a g _ aK=>?_;refine Ze (Vd O X1q 0)<|Ze (Xx (l:=[vi x.num.a,vi x.num.b,vi x.num.c,vi x.num.d]) O X0k ((o.at 0).take 4) O) ?_;refine ZB [vi x.num.a,vi x.num.b,vi x.num.c,vi x.num.d] X2c X1c fun b5 w4 aL p n=>?_
 have aF:b3≠b5:=by have:=f.lt;omega
 have aC:=Q0 k.size aL;have o:=o.bw p;have f:=f.bw p;have k:=btr k p;refine Za O<|ZX aK fun a g _ aM=>?_;refine Zs g fun _ aN=>?_;refine Ze (Vd O X1m 4)<|Ze (X0 O X8 (o.at 4))<|Za O<|Zt aN fun a g=>?_;refine Q8<|X0d (σ:=Rg×Bool×Int) (fun (s:Rg×Bool×Int) (a:Act) (w:World)=>match s with|(y,b,j)=>Fr a 28 [(1,vi m),(4,(pZ9 b3)),(6,(pZ9 b5)),(7,.bool b),(8,vi j)]/\((if b=true then raiseI (m-j).toNat y else (y,false))=dRaise x m)/\(b=true->j<=m)/\(0<=j/\j<=61)/\Blk w b3 137 [vi 0,vi 0,vi 0,vi 0]/\Blk w b5 137 [vi y.a,vi y.b,vi y.c,vi y.d]/\Below w0.heap.size w0 w) (fun (s:Rg×Bool×Int)=>match s with|(y,b,j)=>(62-j).toNat) (x.num,true,x.exp) ?_ ?_
 ·exact ⟨g.sb,O,(fun _=>aG),Z,f,n,k⟩
 rintro ⟨y,b,j⟩ a w5 ⟨g,q,aU,aT,f,n,k⟩;refine Q5 fun _ aO=>?_;refine Q5 fun _ aP=>?_;refine X0f (fun a w=>Fr a 28 [(1,vi m),(4,(pZ9 b3)),(6,(pZ9 b5)),(7,.bool b),(8,vi j),(18,.bool ((decide (j<m))&&b))]/\w5=w) ?_ ?_
 ·refine Zr g<|Zm O<|Zm O<|Ze (X16 O O)<|Zm O ?_
  refine Zg 16 O (fun e=>?_) (fun e=>?_)
  ·refine Zv (gW e) (X7 O) ?_;refine Ze (Xf O e O) ?_;refine Zn fun a g=>?_;exact ⟨g.sub ⟨O,O,O,O,O,X1 O (by first|rfl|(simp only [e,bs];done)|simp [e]),trivial⟩,O⟩
  refine Zp (gP e) ?_;refine Ze (Xb O e O) ?_;refine Zn fun a g=>?_;exact ⟨g.sub ⟨O,O,O,O,O,X1 O (by first|rfl|(simp only [e,bs];done)|simp [e]),trivial⟩,O⟩
 rintro a _ ⟨g,rfl⟩;refine aP _ _ ?_
 refine X04 g O (fun i=>?_) (fun i=>?_)
 ·have aA:=i
  have aQ:j<m:=by revert i;simp;omega
  have hb:b=true:=by revert i;cases b<;>simp
  refine Q7<|aO _ _<|Q5 fun _ aD=>?_;refine Q8<|Zr g<|Ze (Vn X0k n)<|Zf (Vc (Y2u _ y) Xy3) ?_;rintro _ w6 ⟨rfl,p⟩;have f:=f.bw p;have n:=n.bw p;have k:=btr k p;refine Zm O<|Ze (X3 (vs:=[.agg #[vi ((rIf1 (rRoot y) [y]).a),vi ((rIf1 (rRoot y) [y]).b),vi ((rIf1 (rRoot y) [y]).c),vi ((rIf1 (rRoot y) [y]).d)],.bool (rIf2 (rRoot y) [y])]) O O)<|Ze (X3 (vs:=[.agg #[vi ((rIf1 (rRoot y) [y]).a),vi ((rIf1 (rRoot y) [y]).b),vi ((rIf1 (rRoot y) [y]).c),vi ((rIf1 (rRoot y) [y]).d)],.bool (rIf2 (rRoot y) [y])]) O O)<|Zo (Vw [vi ((rIf1 (rRoot y) [y]).a),vi ((rIf1 (rRoot y) [y]).b),vi ((rIf1 (rRoot y) [y]).c),vi ((rIf1 (rRoot y) [y]).d)] X1c n) ?_;rintro _ w7 ⟨ho,hb⟩;have f:=f.oy ho Z;have k:=Below.oy k ho aC;have n:=hb;clear hb ho;refine Za O ?_;refine Zn fun a g=>?_;refine Xn<|aD _ _<|Zr g<|Zm O<|Ze (X03 O O Z Z)<|Za O ?_;refine Zn fun a g=>?_;refine Xd ?_;exact ⟨(rIf1 (rRoot y) [y],rIf2 (rRoot y) [y],j+1),⟨g.sb,(Xhz q hb aQ),(by intro _;omega),Z,f,n,k⟩,O1⟩
 have aA:=i
 have aR:b=true->m<=j:=by intro h0;subst h0;revert i;simp
 refine Q9<|Xm<|Xm<|X0a ?_;refine aM _ _<|Zs g fun _ aE=>?_;refine Ze (Vn X0k n)<|Zm O<|Zo (Vw [vi y.a,vi y.b,vi y.c,vi y.d] X1c f) ?_;rintro _ w8 ⟨ho,hb⟩;have k:=Below.oy k ho aB;have f:=hb;clear hb ho;refine Za O<|Zt aE fun a g=>?_
 refine Q6 (X4 g (X0q g O (ResV.cellN (l:=[vi y.a,vi y.b,vi y.c,vi y.d]) O X0k (f.at 0) O) O) ?_)
 refine ⟨?_,k⟩
 have he:dRaise x m=(y,b):=by rw [<- q];cases b with
  | false=>rfl
  | true=>rw [Q4 rfl,show (m-j).toNat=0 from by have:=aR rfl;omega];rfl
 rw [he]
theorem Y2l(w0:World)(x:Dy)(y:Dy) : Ret Tryz.prog 180 [.agg #[vi x.num.a,vi x.num.b,vi x.num.c,vi x.num.d,vi x.exp],.agg #[vi y.num.a,vi y.num.b,vi y.num.c,vi y.num.d,vi y.exp],.func (.func 181) #[] #[]] w0 (fun v w=>v=.tuple #[dV ((dAddI x y).getD dZ),.bool ((dAddI x y).isSome)]/\Below w0.heap.size w0 w):=by
 refine enter Tryz.func180 O 64 O O ?_;intro a j
 have g:=bz w0
 refine Zs j fun _ aT=>?_;refine Zf (X0m (zs:=[vi x.num.a,vi x.num.b,vi x.num.c,vi x.num.d,vi x.exp]) O O) ?_;rintro _ w1 ⟨b2,rfl,aU,f,p⟩;have b9:=Q0 g.size aU;have g:=btr g f;refine Zf (X0m (zs:=[vi y.num.a,vi y.num.b,vi y.num.c,vi y.num.d,vi y.exp]) O O) ?_;rintro _ w2 ⟨b3,rfl,aV,f,m⟩
 have aQ:b2≠b3:=by have:=p.lt;omega
 have bC:=Q0 g.size aV;have p:=p.bw f;have g:=btr g f;refine Zf (Xl (zs:=[vi 0,vi 0,vi 0,vi 0,vi 0]) X1s O) ?_;rintro _ w3 ⟨b4,rfl,aW,f,e⟩
 have aR:b2≠b4:=by have:=p.lt;omega
 have aS:b3≠b4:=by have:=m.lt;omega
 have z:=Q0 g.size aW;have p:=p.bw f;have m:=m.bw f;have g:=btr g f;refine Za O<|ZX aT fun a j _ aX=>?_;refine Q5 fun _ aY=>?_;refine X0f (fun a w=>Fr a 64 [(2,.func (.func 181) #[] #[]),(3,(pZ9 b2)),(4,(pZ9 b3)),(6,(pZ9 b4)),(22,.bool ((!(dOk x))||(!(dOk y))))]/\Below w3.heap.size w3 w) ?_ ?_
 ·have u:Below w3.heap.size w3 w3:=Below.refl _ _
  refine Zr j<|Ze (Vn Xr p)<|Zf (Vc (Xgy _ x) X6s) ?_;rintro _ w4 ⟨rfl,f⟩;have m:=m.bw f;have g:=btr g f;have u:=btr u f;refine Ze (X0x O)<|Zm O ?_
  refine Zg 18 O (fun o=>?_) (fun o=>?_)
  ·(iterate 3 refine Zp (gP o) ?_);refine Ze (Xf O o O) ?_;refine Zn fun a j=>?_;exact ⟨j.sub ⟨O,O,O,O,X1 O (by first|rfl|(simp only [o,bs];done)|simp [o]),trivial⟩,u⟩
  refine Zv (gW o) (Vn Xr m) ?_;refine Zk (gW o) (Vc (Xgy _ y) X6s) ?_;rintro _ w5 ⟨rfl,f⟩;have g:=btr g f;have u:=btr u f;refine Zv (gW o) (X0x O) ?_;refine Ze (Xb O o O) ?_;refine Zn fun a j=>?_;exact ⟨j.sub ⟨O,O,O,O,X1 O (by first|rfl|(simp only [o,bs];done)|simp [o]),trivial⟩,u⟩
 rintro a w6 ⟨j,f⟩;have p:=p.bw f;have m:=m.bw f;have e:=e.bw f;have g:=btr g f;refine aY _ _ ?_
 refine X04 j O (fun h=>?_) (fun h=>?_)
 ·have q:=h
  have hn:(dOk x&&dOk y)=false:=by revert h;cases dOk x<;>cases dOk y<;>simp
  refine Zs j fun _ aZ=>?_;refine Ze (Xi (ps:=[]) (cs:=[vi 0,vi 0,vi 0,vi 0,vi 0]) O (fun _=>by first|rfl|kernel_rfl))<|Zo (Vw [vi 0,vi 0,vi 0,vi 0,vi 0] X09 e) ?_;rintro _ w7 ⟨ho,hb⟩;have g:=Below.oy g ho z;have e:=hb;refine Za O<|Zt aZ fun a j=>?_;refine Q6<|X5<|X4 j (X0q j O (ResV.cellN (l:=[vi 0,vi 0,vi 0,vi 0,vi 0]) O Xr (e.at 0) O) O) ?_;exact ⟨by rw [dAddI,hn];rfl,g⟩
 have q:=h
 have hy:(dOk x&&dOk y)=true:=by revert h;cases dOk x<;>cases dOk y<;>simp
 have hx:=X37 (Qd _ _▸hy:dOk x=true/\dOk y=true).1;have hz:=X37 (Qd _ _▸hy:dOk x=true/\dOk y=true).2;refine Q7<|aX _ _<|Zs j fun _ aD=>?_;refine Ze (Vd O X1m 4)<|Ze (X0 O X8 (p.at 4))<|Ze (Vd O X1m 4)<|Ze (X0 O X8 (m.at 4))<|Ze (Y0q O O)<|Za O<|Zx aD fun a j _ aE=>?_;refine Ze (Vn Xr p)<|Zm O<|Zf (Vc (Y0i _ x (max x.exp y.exp) Z Z Z) Xon) ?_;rintro _ w8 ⟨rfl,f⟩;have m:=m.bw f;have e:=e.bw f;have g:=btr g f;refine Zm O<|Ze (X3 (vs:=[.agg #[vi (((dRaise x (max x.exp y.exp)).1).a),vi (((dRaise x (max x.exp y.exp)).1).b),vi (((dRaise x (max x.exp y.exp)).1).c),vi (((dRaise x (max x.exp y.exp)).1).d)],.bool ((dRaise x (max x.exp y.exp)).2)]) O O)<|Ze (X3 (vs:=[.agg #[vi (((dRaise x (max x.exp y.exp)).1).a),vi (((dRaise x (max x.exp y.exp)).1).b),vi (((dRaise x (max x.exp y.exp)).1).c),vi (((dRaise x (max x.exp y.exp)).1).d)],.bool ((dRaise x (max x.exp y.exp)).2)]) O O) ?_;refine ZB [vi (((dRaise x (max x.exp y.exp)).1).a),vi (((dRaise x (max x.exp y.exp)).1).b),vi (((dRaise x (max x.exp y.exp)).1).c),vi (((dRaise x (max x.exp y.exp)).1).d)] X2c X1c fun aF bD aG f n=>?_;have b0:=Q0 g.size aG;have m:=m.bw f;have e:=e.bw f;have g:=btr g f;refine Za O<|Zx aE fun a j _ aH=>?_;refine Ze (Vn Xr m)<|Zm O<|Zf (Vc (Y0i _ y (max x.exp y.exp) Z Z Z) Xon) ?_;rintro _ bE ⟨rfl,f⟩;have e:=e.bw f;have n:=n.bw f;have g:=btr g f;refine Zm O<|Ze (X3 (vs:=[.agg #[vi (((dRaise y (max x.exp y.exp)).1).a),vi (((dRaise y (max x.exp y.exp)).1).b),vi (((dRaise y (max x.exp y.exp)).1).c),vi (((dRaise y (max x.exp y.exp)).1).d)],.bool ((dRaise y (max x.exp y.exp)).2)]) O O)<|Ze (X3 (vs:=[.agg #[vi (((dRaise y (max x.exp y.exp)).1).a),vi (((dRaise y (max x.exp y.exp)).1).b),vi (((dRaise y (max x.exp y.exp)).1).c),vi (((dRaise y (max x.exp y.exp)).1).d)],.bool ((dRaise y (max x.exp y.exp)).2)]) O O) ?_
 refine ZB [vi (((dRaise y (max x.exp y.exp)).1).a),vi (((dRaise y (max x.exp y.exp)).1).b),vi (((dRaise y (max x.exp y.exp)).1).c),vi (((dRaise y (max x.exp y.exp)).1).d)] X2c X1c fun b14 bF aI f t=>?_
 have aA:aF≠b14:=by have:=n.lt;omega
 have b1:=Q0 g.size aI;have e:=e.bw f;have n:=n.bw f;have g:=btr g f;refine Za O<|Zx aH fun a j _ aJ=>?_;refine Zm O<|Ze (Vn X0k n)<|Ze (Vn X0k t)<|Zf (X6p (cs:=[]) (vs:=[.agg #[vi (((dRaise x (max x.exp y.exp)).1).a),vi (((dRaise x (max x.exp y.exp)).1).b),vi (((dRaise x (max x.exp y.exp)).1).c),vi (((dRaise x (max x.exp y.exp)).1).d)],.agg #[vi (((dRaise y (max x.exp y.exp)).1).a),vi (((dRaise y (max x.exp y.exp)).1).b),vi (((dRaise y (max x.exp y.exp)).1).c),vi (((dRaise y (max x.exp y.exp)).1).d)]]) O O Xxv (Y2m _ ((dRaise x (max x.exp y.exp)).1) ((dRaise y (max x.exp y.exp)).1))) ?_;rintro _ bG ⟨rfl,f⟩;have e:=e.bw f;have n:=n.bw f;have t:=t.bw f;have g:=btr g f;refine Zm O<|Ze (X3 (vs:=[.agg #[vi ((Za3 x y).a),vi ((Za3 x y).b),vi ((Za3 x y).c),vi ((Za3 x y).d)],.bool (rIf2 (rAdd ((dRaise x (max x.exp y.exp)).1) ((dRaise y (max x.exp y.exp)).1)) [((dRaise x (max x.exp y.exp)).1),((dRaise y (max x.exp y.exp)).1)])]) O O)<|Ze (X3 (vs:=[.agg #[vi ((Za3 x y).a),vi ((Za3 x y).b),vi ((Za3 x y).c),vi ((Za3 x y).d)],.bool (rIf2 (rAdd ((dRaise x (max x.exp y.exp)).1) ((dRaise y (max x.exp y.exp)).1)) [((dRaise x (max x.exp y.exp)).1),((dRaise y (max x.exp y.exp)).1)])]) O O) ?_
 refine ZB [vi ((Za3 x y).a),vi ((Za3 x y).b),vi ((Za3 x y).c),vi ((Za3 x y).d)] X2c X1c fun b16 b5 aK f aL=>?_
 have aB:aF≠b16:=by have:=n.lt;omega
 have aC:b14≠b16:=by have:=t.lt;omega
 have b6:=Q0 g.size aK;have e:=e.bw f;have g:=btr g f;refine Za O<|ZX aJ fun a j _ aM=>?_;refine Q5 fun _ aN=>?_;refine X0f (fun a w=>Fr a 64 [(6,(pZ9 b4)),(8,vi (max x.exp y.exp)),(13,(pZ9 b16)),(57,.bool (((!((dRaise x (max x.exp y.exp)).2))||(!((dRaise y (max x.exp y.exp)).2)))||(!(rIf2 (rAdd ((dRaise x (max x.exp y.exp)).1) ((dRaise y (max x.exp y.exp)).1)) [((dRaise x (max x.exp y.exp)).1),((dRaise y (max x.exp y.exp)).1)]))))]/\b5=w) ?_ ?_
 ·refine Zr j<|Zm O<|Ze (X0x O)<|Zm O ?_
  refine Zg 50 O (fun i=>?_) (fun i=>?_)
  ·(iterate 2 refine Zp (gP i) ?_);refine Ze (Xf O i O)<|Zm O<|Zp (gP O) ?_;refine Zp (gP O) ?_;refine Ze (Xf O O O) ?_;refine Zn fun a j=>?_;exact ⟨j.sub ⟨O,O,O,X1 O (by first|rfl|(simp only [q,i,bs];done)|simp [q,i]),trivial⟩,O⟩
  refine Zv (gW i) (X7 O) ?_;refine Zv (gW i) (X0x O) ?_;refine Ze (Xb O i O)<|Zm O ?_
  refine Zg 54 O (fun k=>?_) (fun k=>?_)
  ·(iterate 2 refine Zp (gP k) ?_);refine Ze (Xf O k O) ?_;refine Zn fun a j=>?_;exact ⟨j.sub ⟨O,O,O,X1 O (by first|rfl|(simp only [q,i,k,bs];done)|simp [q,i,k]),trivial⟩,O⟩
  refine Zv (gW k) (X7 O) ?_;refine Zv (gW k) (X0x O) ?_;refine Ze (Xb O k O) ?_;refine Zn fun a j=>?_;exact ⟨j.sub ⟨O,O,O,X1 O (by first|rfl|(simp only [q,i,k,bs];done)|simp [q,i,k]),trivial⟩,O⟩
 rintro a _ ⟨j,rfl⟩;refine aN _ _ ?_
 refine X04 j O (fun A=>?_) (fun A=>?_)
 ·have b7:=Xcs A;refine Zs j fun _ aO=>?_;refine Ze (Xi (ps:=[]) (cs:=[vi 0,vi 0,vi 0,vi 0,vi 0]) O (fun _=>by first|rfl|kernel_rfl))<|Zo (Vw [vi 0,vi 0,vi 0,vi 0,vi 0] X09 e) ?_;rintro _ bH ⟨ho,hb⟩;have g:=Below.oy g ho z;have e:=hb;refine Za O<|Zt aO fun a j=>?_;refine Q6<|X5<|X4 j (X0q j O (ResV.cellN (l:=[vi 0,vi 0,vi 0,vi 0,vi 0]) O Xr (e.at 0) O) O) ?_;exact ⟨by rw [dAddI,Q4 hy,b7];rfl,g⟩
 have b8:=Xg8 A;refine Q7<|aM _ _<|Zs j fun _ aP=>?_;refine Ze (Vn X0k aL)<|Zm O<|Zf (Vc (Y0g _ (Za3 x y) (max x.exp y.exp)) Xol) ?_;rintro _ bI ⟨rfl,f⟩;have e:=e.bw f;have g:=btr g f;refine Ze (X3 (vs:=[.agg #[vi (((dOf (Za3 x y) (max x.exp y.exp)).getD dZ).num.a),vi (((dOf (Za3 x y) (max x.exp y.exp)).getD dZ).num.b),vi (((dOf (Za3 x y) (max x.exp y.exp)).getD dZ).num.c),vi (((dOf (Za3 x y) (max x.exp y.exp)).getD dZ).num.d),vi (((dOf (Za3 x y) (max x.exp y.exp)).getD dZ).exp)],.bool ((dOf (Za3 x y) (max x.exp y.exp)).isSome)]) O O)<|Ze (X3 (vs:=[.agg #[vi (((dOf (Za3 x y) (max x.exp y.exp)).getD dZ).num.a),vi (((dOf (Za3 x y) (max x.exp y.exp)).getD dZ).num.b),vi (((dOf (Za3 x y) (max x.exp y.exp)).getD dZ).num.c),vi (((dOf (Za3 x y) (max x.exp y.exp)).getD dZ).num.d),vi (((dOf (Za3 x y) (max x.exp y.exp)).getD dZ).exp)],.bool ((dOf (Za3 x y) (max x.exp y.exp)).isSome)]) O O)<|Zo (Vw [vi (((dOf (Za3 x y) (max x.exp y.exp)).getD dZ).num.a),vi (((dOf (Za3 x y) (max x.exp y.exp)).getD dZ).num.b),vi (((dOf (Za3 x y) (max x.exp y.exp)).getD dZ).num.c),vi (((dOf (Za3 x y) (max x.exp y.exp)).getD dZ).num.d),vi (((dOf (Za3 x y) (max x.exp y.exp)).getD dZ).exp)] X09 e) ?_;rintro _ bJ ⟨ho,hb⟩
 have g:=Below.oy g ho z;have e:=hb;refine Za O<|Zt aP fun a j=>?_
 refine Q6 (X4 j (X0q j O (ResV.cellN (l:=[vi (((dOf (Za3 x y) (max x.exp y.exp)).getD dZ).num.a),vi (((dOf (Za3 x y) (max x.exp y.exp)).getD dZ).num.b),vi (((dOf (Za3 x y) (max x.exp y.exp)).getD dZ).num.c),vi (((dOf (Za3 x y) (max x.exp y.exp)).getD dZ).num.d),vi (((dOf (Za3 x y) (max x.exp y.exp)).getD dZ).exp)]) O Xr (e.at 0) O) O) ?_)
 exact ⟨by rw [dAddI,Q4 hy,b8];rfl,g⟩
theorem Y2f(w0:World)(x:Dy)(y:Dy) : Ret Tryz.prog 137 [.agg #[vi x.num.a,vi x.num.b,vi x.num.c,vi x.num.d,vi x.exp],.agg #[vi y.num.a,vi y.num.b,vi y.num.c,vi y.num.d,vi y.exp]] w0 (fun v w=>v=.tuple #[dV ((dAddI x y).getD dZ),.bool ((dAddI x y).isSome)]/\Below w0.heap.size w0 w):=by
 refine enter Tryz.func137 O 11 O O ?_;intro a hf
 have f:=bz w0
 refine Zs hf fun _ aE=>?_;refine Zf (X0m (zs:=[vi x.num.a,vi x.num.b,vi x.num.c,vi x.num.d,vi x.exp]) O O) ?_;rintro _ w1 ⟨b2,rfl,aF,g,e⟩;have aJ:=Q0 f.size aF;have f:=btr f g;refine Zf (X0m (zs:=[vi y.num.a,vi y.num.b,vi y.num.c,vi y.num.d,vi y.exp]) O O) ?_;rintro _ w2 ⟨b3,rfl,aG,g,j⟩
 have aB:b2≠b3:=by have:=e.lt;omega
 have aK:=Q0 f.size aG;have e:=e.bw g;have f:=btr f g;refine Zf (Xl (zs:=[vi 0,vi 0,vi 0,vi 0,vi 0]) X1s O) ?_;rintro _ w3 ⟨b4,rfl,aH,g,i⟩
 have aC:b2≠b4:=by have:=e.lt;omega
 have aD:b3≠b4:=by have:=j.lt;omega
 have aA:=Q0 f.size aH;have e:=e.bw g;have j:=j.bw g;have f:=btr f g;refine Za O<|Zx aE fun a hf _ aI=>?_;refine Ze (Vn Xr e)<|Ze (Vn Xr j)<|Zf (Vc (Y2l _ x y) Xxu) ?_;rintro _ w4 ⟨rfl,g⟩;have i:=i.bw g;have f:=btr f g;refine Ze (X3 (vs:=[.agg #[vi (((dAddI x y).getD dZ).num.a),vi (((dAddI x y).getD dZ).num.b),vi (((dAddI x y).getD dZ).num.c),vi (((dAddI x y).getD dZ).num.d),vi (((dAddI x y).getD dZ).exp)],.bool ((dAddI x y).isSome)]) O O)<|Ze (X3 (vs:=[.agg #[vi (((dAddI x y).getD dZ).num.a),vi (((dAddI x y).getD dZ).num.b),vi (((dAddI x y).getD dZ).num.c),vi (((dAddI x y).getD dZ).num.d),vi (((dAddI x y).getD dZ).exp)],.bool ((dAddI x y).isSome)]) O O)<|Zo (Vw [vi (((dAddI x y).getD dZ).num.a),vi (((dAddI x y).getD dZ).num.b),vi (((dAddI x y).getD dZ).num.c),vi (((dAddI x y).getD dZ).num.d),vi (((dAddI x y).getD dZ).exp)] X09 i) ?_;rintro _ w5 ⟨ho,hb⟩;have f:=Below.oy f ho aA;have i:=hb;refine Za O<|Zt aI fun a hf=>?_
 refine Q6 (X4 hf (X0q hf O (ResV.cellN (l:=[vi (((dAddI x y).getD dZ).num.a),vi (((dAddI x y).getD dZ).num.b),vi (((dAddI x y).getD dZ).num.c),vi (((dAddI x y).getD dZ).num.d),vi (((dAddI x y).getD dZ).exp)]) O Xr (i.at 0) O) O) ?_)
 exact ⟨O,f⟩
theorem Xvt(w0:World)(x:Dy)(y:Dy) : Ret Tryz.prog 135 [.agg #[vi x.num.a,vi x.num.b,vi x.num.c,vi x.num.d,vi x.exp],.agg #[vi y.num.a,vi y.num.b,vi y.num.c,vi y.num.d,vi y.exp]] w0 (fun v w=>v=.tuple #[dV ((dMulI x y).getD dZ),.bool ((dMulI x y).isSome)]/\Below w0.heap.size w0 w):=by
 refine enter Tryz.func135 O 38 O O ?_;intro a n
 have m:=bz w0
 refine Zs n fun _ aH=>?_;refine Zf (X0m (zs:=[vi x.num.a,vi x.num.b,vi x.num.c,vi x.num.d,vi x.exp]) O O) ?_;rintro _ w1 ⟨b2,rfl,aI,f,g⟩;have aP:=Q0 m.size aI;have m:=btr m f;refine Zf (X0m (zs:=[vi y.num.a,vi y.num.b,vi y.num.c,vi y.num.d,vi y.exp]) O O) ?_;rintro _ w2 ⟨b3,rfl,aJ,f,j⟩
 have aE:b2≠b3:=by have:=g.lt;omega
 have aQ:=Q0 m.size aJ;have g:=g.bw f;have m:=btr m f;refine Zf (Xl (zs:=[vi 0,vi 0,vi 0,vi 0,vi 0]) X1s O) ?_;rintro _ w3 ⟨b4,rfl,aK,f,k⟩
 have aF:b2≠b4:=by have:=g.lt;omega
 have aG:b3≠b4:=by have:=j.lt;omega
 have q:=Q0 m.size aK;have g:=g.bw f;have j:=j.bw f;have m:=btr m f;refine Za O<|Zx aH fun a n _ aL=>?_;refine Ze (Vd O X1q 0)<|Ze (Xx (l:=[vi x.num.a,vi x.num.b,vi x.num.c,vi x.num.d]) O X0k ((g.at 0).take 4) O)<|Ze (Vd O X1q 0)<|Ze (Xx (l:=[vi y.num.a,vi y.num.b,vi y.num.c,vi y.num.d]) O X0k ((j.at 0).take 4) O)<|Zf (Vc (Y2h _ x.num y.num) Xxq) ?_;rintro _ w4 ⟨rfl,f⟩;have g:=g.bw f;have j:=j.bw f;have k:=k.bw f;have m:=btr m f;refine Zm O<|Ze (X3 (vs:=[.agg #[vi ((rIf1 (rMul x.num y.num) [x.num,y.num]).a),vi ((rIf1 (rMul x.num y.num) [x.num,y.num]).b),vi ((rIf1 (rMul x.num y.num) [x.num,y.num]).c),vi ((rIf1 (rMul x.num y.num) [x.num,y.num]).d)],.bool (rIf2 (rMul x.num y.num) [x.num,y.num])]) O O)<|Ze (X3 (vs:=[.agg #[vi ((rIf1 (rMul x.num y.num) [x.num,y.num]).a),vi ((rIf1 (rMul x.num y.num) [x.num,y.num]).b),vi ((rIf1 (rMul x.num y.num) [x.num,y.num]).c),vi ((rIf1 (rMul x.num y.num) [x.num,y.num]).d)],.bool (rIf2 (rMul x.num y.num) [x.num,y.num])]) O O) ?_;refine ZB [vi ((rIf1 (rMul x.num y.num) [x.num,y.num]).a),vi ((rIf1 (rMul x.num y.num) [x.num,y.num]).b),vi ((rIf1 (rMul x.num y.num) [x.num,y.num]).c),vi ((rIf1 (rMul x.num y.num) [x.num,y.num]).d)] X2c X1c fun b6 w6 aM f aA=>?_;have aR:=Q0 m.size aM;have g:=g.bw f;have j:=j.bw f;have k:=k.bw f;have m:=btr m f;refine Za O<|ZX aL fun a n _ aN=>?_;refine Q5 fun _ aO=>?_;refine X0f (fun a w=>Fr a 38 [(2,(pZ9 b2)),(3,(pZ9 b3)),(4,(pZ9 b4)),(6,(pZ9 b6)),(27,.bool (((!(dOk x))||(!(dOk y)))||(!(rIf2 (rMul x.num y.num) [x.num,y.num]))))]/\Below w6.heap.size w6 w) ?_ ?_
 ·have o:Below w6.heap.size w6 w6:=Below.refl _ _
  refine Zr n<|Ze (Vn Xr g)<|Zf (Vc (Xgy _ x) X6s) ?_;rintro _ w7 ⟨rfl,f⟩;have j:=j.bw f;have m:=btr m f;have o:=btr o f;refine Ze (X0x O)<|Zm O ?_
  refine Zg 19 O (fun i=>?_) (fun i=>?_)
  ·(iterate 3 refine Zp (gP i) ?_);refine Ze (Xf O i O)<|Zm O<|Zp (gP O) ?_;refine Zp (gP O) ?_;refine Ze (Xf O O O) ?_;refine Zn fun a n=>?_;exact ⟨n.sub ⟨O,O,O,O,X1 O (by first|rfl|(simp only [i,bs];done)|simp [i]),trivial⟩,o⟩
  refine Zv (gW i) (Vn Xr j) ?_;refine Zk (gW i) (Vc (Xgy _ y) X6s) ?_;rintro _ w8 ⟨rfl,f⟩;have m:=btr m f;have o:=btr o f;refine Zv (gW i) (X0x O) ?_;refine Ze (Xb O i O)<|Zm O ?_
  refine Zg 24 O (fun e=>?_) (fun e=>?_)
  ·(iterate 2 refine Zp (gP e) ?_);refine Ze (Xf O e O) ?_;refine Zn fun a n=>?_;exact ⟨n.sub ⟨O,O,O,O,X1 O (by first|rfl|(simp only [i,e,bs];done)|simp [i,e]),trivial⟩,o⟩
  refine Zv (gW e) (X7 O) ?_;refine Zv (gW e) (X0x O) ?_;refine Ze (Xb O e O) ?_;refine Zn fun a n=>?_;exact ⟨n.sub ⟨O,O,O,O,X1 O (by first|rfl|(simp only [i,e,bs];done)|simp [i,e]),trivial⟩,o⟩
 rintro a w9 ⟨n,f⟩;have g:=g.bw f;have j:=j.bw f;have k:=k.bw f;have aA:=aA.bw f;have m:=btr m f;refine aO _ _ ?_
 refine X04 n O (fun p=>?_) (fun p=>?_)
 ·have hn:=Xcs p;refine Zs n fun _ aB=>?_;refine Ze (Xi (ps:=[]) (cs:=[vi 0,vi 0,vi 0,vi 0,vi 0]) O (fun _=>by first|rfl|kernel_rfl))<|Zo (Vw [vi 0,vi 0,vi 0,vi 0,vi 0] X09 k) ?_;rintro _ aS ⟨ho,hb⟩;have m:=Below.oy m ho q;have k:=hb;refine Za O<|Zt aB fun a n=>?_;refine Q6<|X5<|X4 n (X0q n O (ResV.cellN (l:=[vi 0,vi 0,vi 0,vi 0,vi 0]) O Xr (k.at 0) O) O) ?_;exact ⟨by rw [dMulI,hn];rfl,m⟩
 have hy:=Xg8 p;have aC:=Y0v hy;have hx:=X37 aC.1;have hz:=X37 aC.2.1;refine Q7<|aN _ _<|Zs n fun _ aD=>?_;refine Ze (Vn X0k aA)<|Ze (Vd O X1m 4)<|Ze (X0 O X8 (g.at 4))<|Ze (Vd O X1m 4)<|Ze (X0 O X8 (j.at 4))<|Ze (X03 O O Z Z)<|Zf (Vc (Y0g _ (rIf1 (rMul x.num y.num) [x.num,y.num]) (x.exp+y.exp)) Xol) ?_;rintro _ aT ⟨rfl,f⟩;have k:=k.bw f;have m:=btr m f;refine Ze (X3 (vs:=[.agg #[vi (((dOf (rIf1 (rMul x.num y.num) [x.num,y.num]) (x.exp+y.exp)).getD dZ).num.a),vi (((dOf (rIf1 (rMul x.num y.num) [x.num,y.num]) (x.exp+y.exp)).getD dZ).num.b),vi (((dOf (rIf1 (rMul x.num y.num) [x.num,y.num]) (x.exp+y.exp)).getD dZ).num.c),vi (((dOf (rIf1 (rMul x.num y.num) [x.num,y.num]) (x.exp+y.exp)).getD dZ).num.d),vi (((dOf (rIf1 (rMul x.num y.num) [x.num,y.num]) (x.exp+y.exp)).getD dZ).exp)],.bool ((dOf (rIf1 (rMul x.num y.num) [x.num,y.num]) (x.exp+y.exp)).isSome)]) O O)<|Ze (X3 (vs:=[.agg #[vi (((dOf (rIf1 (rMul x.num y.num) [x.num,y.num]) (x.exp+y.exp)).getD dZ).num.a),vi (((dOf (rIf1 (rMul x.num y.num) [x.num,y.num]) (x.exp+y.exp)).getD dZ).num.b),vi (((dOf (rIf1 (rMul x.num y.num) [x.num,y.num]) (x.exp+y.exp)).getD dZ).num.c),vi (((dOf (rIf1 (rMul x.num y.num) [x.num,y.num]) (x.exp+y.exp)).getD dZ).num.d),vi (((dOf (rIf1 (rMul x.num y.num) [x.num,y.num]) (x.exp+y.exp)).getD dZ).exp)],.bool ((dOf (rIf1 (rMul x.num y.num) [x.num,y.num]) (x.exp+y.exp)).isSome)]) O O)<|Zo (Vw [vi (((dOf (rIf1 (rMul x.num y.num) [x.num,y.num]) (x.exp+y.exp)).getD dZ).num.a),vi (((dOf (rIf1 (rMul x.num y.num) [x.num,y.num]) (x.exp+y.exp)).getD dZ).num.b),vi (((dOf (rIf1 (rMul x.num y.num) [x.num,y.num]) (x.exp+y.exp)).getD dZ).num.c),vi (((dOf (rIf1 (rMul x.num y.num) [x.num,y.num]) (x.exp+y.exp)).getD dZ).num.d),vi (((dOf (rIf1 (rMul x.num y.num) [x.num,y.num]) (x.exp+y.exp)).getD dZ).exp)] X09 k) ?_;rintro _ aU ⟨ho,hb⟩
 have m:=Below.oy m ho q;have k:=hb;refine Za O<|Zt aD fun a n=>?_
 refine Q6 (X4 n (X0q n O (ResV.cellN (l:=[vi (((dOf (rIf1 (rMul x.num y.num) [x.num,y.num]) (x.exp+y.exp)).getD dZ).num.a),vi (((dOf (rIf1 (rMul x.num y.num) [x.num,y.num]) (x.exp+y.exp)).getD dZ).num.b),vi (((dOf (rIf1 (rMul x.num y.num) [x.num,y.num]) (x.exp+y.exp)).getD dZ).num.c),vi (((dOf (rIf1 (rMul x.num y.num) [x.num,y.num]) (x.exp+y.exp)).getD dZ).num.d),vi (((dOf (rIf1 (rMul x.num y.num) [x.num,y.num]) (x.exp+y.exp)).getD dZ).exp)]) O Xr (k.at 0) O) O) ?_)
 exact ⟨by rw [dMulI,Q4 hy],m⟩
theorem Xr0(w0:World)(n:Int) : Ret Tryz.prog 173 [vi n] w0 (fun v w=>v=.bool (isDimB n)/\w0=w):=by
 refine enter Tryz.func173 O 12 O O ?_;intro a c
 have hW:=bz w0
 refine Zs c fun _ aA=>?_;refine Za O<|ZX aA fun a c _ aB=>?_;refine X0f (fun a w=>Fr a 12 [(2,.bool ((inR n 1 32)&&((bits .and .i64 n (wr (n-1)))==0)))]/\w0=w) ?_ ?_
 ·refine Zr c<|Zm O<|Zf (Vc (F91 _ n 1 32) X3c) ?_;rintro _ _ ⟨rfl,rfl⟩;refine Zm O ?_
  refine Zg 5 O (fun b=>?_) (fun b=>?_)
  ·refine Zv (gW b) (X7 O) ?_;refine Zv (gW b) (X7 O) ?_;refine Zv (gW b) (X4a O O) ?_;refine Zv (gW b) (Xw3 O O) ?_;refine Zv (gW b) (X13 O O) ?_;refine Ze (Xf O b O)<|Za O ?_;refine Zn fun a c=>?_;exact ⟨c.sub ⟨X1 O (by first|rfl|(simp only [b,bs];done)|simp [b]),trivial⟩,O⟩
  (iterate 5 refine Zp (gP b) ?_);refine Ze (Xb O b O)<|Za O ?_;refine Zn fun a c=>?_;exact ⟨c.sub ⟨X1 O (by first|rfl|(simp only [b,bs];done)|simp [b]),trivial⟩,O⟩
 rintro a _ ⟨c,rfl⟩;refine aB _ _ ?_
 refine Q6 (X4 c (Xv c O O) ?_)
 exact ⟨by simp [isDimB, *],rfl⟩
theorem Y22(w0:World)(x:Dy) : Ret Tryz.prog 175 [.agg #[vi x.num.a,vi x.num.b,vi x.num.c,vi x.num.d,vi x.exp]] w0 (fun v w=>v=.bool (!dOk x)/\Below w0.heap.size w0 w):=by
 refine enter Tryz.func175 O 6 O O ?_;intro a hf
 have hW:=bz w0
 refine Zs hf fun _ aA=>?_;refine Zf (X0m (zs:=[vi x.num.a,vi x.num.b,vi x.num.c,vi x.num.d,vi x.exp]) O O) ?_;rintro _ w1 ⟨b2,rfl,aB,hE,aC⟩;have aE:=Q0 hW.size aB;have hW:=btr hW hE;refine Za O<|Zx aA fun a hf _ aD=>?_;refine Ze (Vn Xr aC)<|Zf (Vc (Xgy _ x) X6s) ?_;rintro _ w2 ⟨rfl,hE⟩;have hW:=btr hW hE;refine Ze (X0x O)<|Za O<|Zt aD fun a hf=>?_
 refine Q6 (X4 hf (Xv hf O O) ?_)
 exact ⟨O,hW⟩
theorem Y2g(j:World)(Al:Option Addr)(cl:Nat)(l:List Dy)(aD:Rd j j.heap.size 139 encD Al l)(kq:FuncId)(pq:List Value)(Fq:FuncF Tryz.prog kq)(q:Dy->Bool)(hq:∀ x w,Below j.heap.size j w->Ret Tryz.prog kq ([dV x]++pq) w (fun v w'=>v=.bool (q x)/\Below w.heap.size w w'))(aS:l.length<=2305843009213693951) : Ret Tryz.prog 145 [.slice Al l.length cl,.func (.func kq) #[] pq.toArray] j (fun v w=>∃ i:Int,v=vi i/\decide (0<=i)=l.any q/\Below j.heap.size j w):=by
 refine enter Tryz.func145 O 19 O O ?_;intro a e
 have m:=bz j
 refine Zs e fun _ aJ=>?_;refine Za O<|ZX aJ fun a e _ aK=>?_;refine Zs e fun _ aL=>?_;refine Zm O<|Ze (X0o O X1h)<|Zm O<|Zt aL fun a e=>?_;refine Q8<|X0d (σ:=Nat) (fun (k:Nat) (a:Act) (w:World)=>Fr a 19 [(0,.slice Al l.length cl),(1,.func (.func kq) #[] pq.toArray),(7,vi (l.length:Int)),(8,vi (k:Int))]/\(k<=l.length)/\((l.take k).all (fun x=>!q x)=true)/\Below j.heap.size j w) (fun (k:Nat)=>l.length+1-k) 0 ?_ ?_
 ·exact ⟨e.sb,(Qf _),O5,m⟩
 rintro k a w1 ⟨e,hk,n,m⟩;refine Zs e fun _ aM=>?_;refine Ze (X16 O O)<|ZX aM fun a e _ aN=>?_
 refine X12 e O (fun aE aO=>?_) (fun aE aO=>?_)
 ·obtain ⟨f,aA⟩:=Xj (l:=l) (k:=k) Z
  refine Q7<|aN _ _<|Q5 fun _ aP=>?_;refine Q8<|Zs e fun _ aF=>?_;refine Zm O<|Za O<|Zx aF fun a e _ aG=>?_;refine Zm O<|Zm O<|Zm O<|Zi (k:=k) (u:=f) (enc:=encD) (l:=l) tv0 O O X1h X09 X1e (aD.bx m) aA O ?_;intro aT aB;refine Ze (Xx (l:=[vi f.num.a,vi f.num.b,vi f.num.c,vi f.num.d,vi f.exp]) O Xr aB O)<|Zf (X6p (cs:=pq) (vs:=[.agg #[vi f.num.a,vi f.num.b,vi f.num.c,vi f.num.d,vi f.exp]]) O O Fq (hq f _ m)) ?_;rintro _ w2 ⟨rfl,hE⟩;have m:=btr m hE;refine Zt aG fun a e=>?_
  refine X04 e O (fun g=>?_) (fun g=>?_)
  ·have aC:l.any q=true:=X3n aA g
   refine Zs e fun _ aH=>?_;refine Zm O<|Za O<|Zt aH fun a e=>?_;refine Q6<|Xo<|X5<|X5 ?_;refine Xo<|X5<|X4 e (Xv e O O) ?_;exact ⟨_,O,by rw [aC];simp,m⟩
  have aQ:=g
  have aR:(!q f)=true:=by revert g;cases q f<;>simp
  refine Q7<|Xn<|aP _ _<|Zr e ?_;refine Ze (X03 O O Z Z)<|Zm O ?_;refine Zn fun a e=>?_;refine Xd ?_;exact ⟨k+1,⟨e.sb,Z,(X2g n aA aR),m⟩,Z⟩
 refine Q9<|Xm<|Xm<|X0a ?_;refine aK _ _<|Zs e fun _ aI=>?_;refine Za O<|Zt aI fun a e=>?_
 refine Q6 (X4 e (Xv e O O) ?_)
 have aC:l.any q=false:=X2w (X28 n Z)
 exact ⟨_,O,by rw [aC];rfl,m⟩
theorem Y21(b:World)(Al:Option Addr)(cl:Nat)(l:List Dy)(aA:Rd b b.heap.size 139 encD Al l)(kq:FuncId)(pq:List Value)(Fq:FuncF Tryz.prog kq)(q:Dy->Bool)(hq:∀ x w,Below b.heap.size b w->Ret Tryz.prog kq ([dV x]++pq) w (fun v w'=>v=.bool (q x)/\Below w.heap.size w w'))(aB:l.length<=2305843009213693951) : Ret Tryz.prog 174 [.slice Al l.length cl,.func (.func kq) #[] pq.toArray] b (fun v w=>v=.bool (l.any q)/\Below b.heap.size b w):=by
 refine enter Tryz.func174 O 9 O O ?_;intro a hf
 have hW:=bz b
 refine Zs hf fun _ aC=>?_;refine Za O<|Zx aC fun a hf _ aD=>?_;refine Zm O<|Zm O<|Zf (Vc (Y2g _ Al cl l (aA.bx hW).top kq pq Fq q (fun x w' hE'=>hq x w' (hW.trans (hE'.mono hW.size))) aB) Xok) ?_;rintro _ w1 ⟨ix,rfl,aE,hE⟩;have hW:=btr hW hE;refine Ze (Xa2 O O)<|Za O<|Zt aD fun a hf=>?_
 refine Q6 (X4 hf (Xv hf O O) ?_)
 exact ⟨by rw [<- aE],hW⟩
theorem Xl1(w0:World)(m:Mx)(Am:Option Addr)(cm:Nat)(aA:Rd w0 w0.heap.size 139 encD Am m.cells)(aB:m.cells.length<=2305843009213693951) : Ret Tryz.prog 121 [.agg #[vi m.rows,vi m.cols,.slice Am m.cells.length cm]] w0 (fun v w=>v=.bool (mOk m)/\Below w0.heap.size w0 w):=by
 refine enter Tryz.func121 O 28 O O ?_;intro a e
 have i:=bz w0
 refine Zs e fun _ aC=>?_;refine Zf (X0m (zs:=[vi m.rows,vi m.cols,.slice Am m.cells.length cm]) O O) ?_;rintro _ w1 ⟨b3,rfl,aD,hE,f⟩;have aF:=Q0 i.size aD;have i:=btr i hE;refine Za O<|ZX aC fun a e _ aE=>?_;refine X0f (fun a w=>Fr a 28 [(2,.bool ((((isDimB m.rows)&&(isDimB m.cols))&&((m.cells.length:Int)==(wr (m.rows*m.cols))))&&(!(m.cells.any (fun x=>!dOk x)))))]/\Below w1.heap.size w1 w) ?_ ?_
 ·have g:Below w1.heap.size w1 w1:=Below.refl _ _
  refine Zr e<|Ze (Vd O X22 0)<|Ze (X0 O X8 (f.at 0))<|Zf (Vc (Xr0 _ m.rows) Xdo) ?_;rintro _ _ ⟨rfl,rfl⟩;refine Zm O ?_
  refine Zg 6 O (fun c=>?_) (fun c=>?_)
  ·refine Zv (gW c) (Vd O X1v 1) ?_;refine Zv (gW c) (X0 O X8 (f.at 1)) ?_;refine Zk (gW c) (Vc (Xr0 _ m.cols) Xdo) ?_;rintro _ _ ⟨rfl,rfl⟩;refine Ze (Xf O c O)<|Zm O ?_
   refine Zg 11 O (fun b=>?_) (fun b=>?_)
   ·refine Zv (gW b) (Vd O X1l 2) ?_;refine Zv (gW b) (X0 O X2f (f.at 2)) ?_;refine Zv (gW b) (X0o O X1h) ?_;refine Zv (gW b) (Vd O X22 0) ?_;refine Zv (gW b) (X0 O X8 (f.at 0)) ?_;refine Zv (gW b) (Vd O X1v 1) ?_;refine Zv (gW b) (X0 O X8 (f.at 1)) ?_;refine Zv (gW b) (X2n O O) ?_;refine Zv (gW b) (X13 O O) ?_;refine Ze (Xf O b O)<|Zm O ?_
    refine Zg 22 O (fun d=>?_) (fun d=>?_)
    ·refine Zv (gW d) (Vd O X1l 2) ?_;refine Zv (gW d) (X0 O X2f (f.at 2)) ?_;refine Zk (gW d) (Vc (Y21 _ Am cm m.cells (aA.bx i).top 175 [] Xxc (fun x=>!dOk x) (fun x w' hE'=>Y22 w' x) aB) Xxb) ?_;rintro _ w2 ⟨rfl,hE⟩;have i:=btr i hE;have g:=btr g hE;refine Zv (gW d) (X0x O) ?_;refine Ze (Xf O d O)<|Za O ?_;refine Zn fun a e=>?_;exact ⟨e.sub ⟨X1 O (by first|rfl|(simp only [c,b,d,bs];done)|simp [c,b,d]),trivial⟩,g⟩
    (iterate 4 refine Zp (gP d) ?_);refine Ze (Xb O d O)<|Za O ?_;refine Zn fun a e=>?_;exact ⟨e.sub ⟨X1 O (by first|rfl|(simp only [c,b,d,bs];done)|simp [c,b,d]),trivial⟩,g⟩
   (iterate 9 refine Zp (gP b) ?_);refine Ze (Xb O b O)<|Zm O<|Zp (gP O) ?_;(iterate 3 refine Zp (gP O) ?_);refine Ze (Xb O O O)<|Za O ?_;refine Zn fun a e=>?_;exact ⟨e.sub ⟨X1 O (by first|rfl|(simp only [c,b,bs];done)|simp [c,b]),trivial⟩,g⟩
  (iterate 3 refine Zp (gP c) ?_);refine Ze (Xb O c O)<|Zm O<|Zp (gP O) ?_;(iterate 8 refine Zp (gP O) ?_);refine Ze (Xb O O O)<|Zm O<|Zp (gP O) ?_;(iterate 3 refine Zp (gP O) ?_);refine Ze (Xb O O O)<|Za O ?_;refine Zn fun a e=>?_;exact ⟨e.sub ⟨X1 O (by first|rfl|(simp only [c,bs];done)|simp [c]),trivial⟩,g⟩
 rintro a w3 ⟨e,hE⟩;have i:=btr i hE;refine aE _ _ ?_
 refine Q6 (X4 e (Xv e O O) ?_)
 exact ⟨by simp [mOk, *],i⟩
theorem Xmh(f:World)(m:Mx)(Am:Option Addr)(cm:Nat)(hm:Rd f f.heap.size 139 encD Am m.cells)(i j:Nat)(aF:mOk m=true)(hi:(i:Int)<m.rows)(hj:(j:Int)<m.cols) : Ret Tryz.prog 136 [.agg #[vi m.rows,vi m.cols,.slice Am m.cells.length cm],vi (i:Int),vi (j:Int)] f (fun v w=>v=dV (m.at i j)/\Below f.heap.size f w):=by
 have aB:=X3b aF
 have aG:i*m.cols.toNat+j<m.cells.length:=by rw [aB.2.2];exact X41 Z Z
 have aN:m.cells.length<=1024:=by rw [aB.2.2];exact Q0 (Nat.mul_le_mul (show m.rows.toNat<=32 by omega) (show m.cols.toNat<=32 by omega)) O4
 have aC:=Mx.at_get aG
 have aH:m.cols=(m.cols.toNat:Int):=by omega
 suffices hgoal:Ret Tryz.prog 136 [.agg #[vi m.rows,vi (m.cols.toNat:Int),.slice Am m.cells.length cm],vi (i:Int),vi (j:Int)] f (fun v w=>v=dV (m.at i j)/\Below f.heap.size f w) by rw [<- aH] at hgoal;exact hgoal
 refine enter Tryz.func136 O 17 O O ?_;intro a hf
 have e:=bz f
 refine Zs hf fun _ aI=>?_;refine Zf (X0m (zs:=[vi m.rows,vi (m.cols.toNat:Int),.slice Am m.cells.length cm]) O O) ?_;rintro _ w1 ⟨b3,rfl,aJ,hE,g⟩;have aM:=Q0 e.size aJ;have e:=btr e hE;refine Zf (Xl (zs:=[vi 0,vi 0,vi 0,vi 0,vi 0]) X1s O) ?_;rintro _ w2 ⟨b4,rfl,aK,hE,aA⟩;have aD:=Q0 e.size aK;have g:=g.bw hE;have e:=btr e hE;refine Zx aI fun a hf _ aL=>?_;refine Ze (Vd O X1l 2)<|Ze (X0 O X2f (g.at 2))<|Zm O<|Ze (Vd O X1v 1)<|Ze (X0 O X8 (g.at 1))<|Ze (Xf5 (m:=i) (k:=m.cols.toNat) O O Z)<|Zm O<|Ze (X03 O O Z Z)<|Zi (k:=(i*m.cols.toNat+j)) (u:=(m.at i j)) (enc:=encD) (l:=m.cells) tv0 O O X1h X09 X1e (hm.bx e) aC Z ?_;intro p7 aE;refine Ze (Xx (l:=[vi ((m.at i j).num.a),vi ((m.at i j).num.b),vi ((m.at i j).num.c),vi ((m.at i j).num.d),vi ((m.at i j).exp)]) O Xr aE O)<|Zo (Vw [vi ((m.at i j).num.a),vi ((m.at i j).num.b),vi ((m.at i j).num.c),vi ((m.at i j).num.d),vi ((m.at i j).exp)] X09 aA) ?_;rintro _ w3 ⟨ho,hb⟩;have e:=Below.oy e ho aD;have aA:=hb;refine Zt aL fun a hf=>?_
 refine Q6 (X4 hf (Xv hf O (ResV.cellN (l:=[vi ((m.at i j).num.a),vi ((m.at i j).num.b),vi ((m.at i j).num.c),vi ((m.at i j).num.d),vi ((m.at i j).exp)]) O Xr (aA.at 0) O)) ?_)
 exact ⟨O,e⟩
theorem Xqz(x:World)(R C:Int)(k:FuncId)(caps:List Value)(hF:FuncF Tryz.prog k)(f:Nat->Nat->Option Dy)(aD:∀ (i j:Nat) w,(i:Int)<R->(j:Int)<C->Below x.heap.size x w->Ret Tryz.prog k ([vi (i:Int),vi (j:Int)]++caps) w (fun v w'=>v=.tuple #[dV ((f i j).getD dZ),.bool (f i j).isSome]/\Below w.heap.size w w')) : Ret Tryz.prog 126 [vi R,vi C,.func (.func k) #[] caps.toArray] x (fun v w=>∃ A c,v=.tuple #[mV A c ((matOf R C f).getD mZ),.bool (matOf R C f).isSome]/\Own w x.heap.size 139 5 encD A c ((matOf R C f).getD mZ).cells/\Below x.heap.size x w):=by
 refine enter Tryz.func126 O 52 O O ?_;intro a g
 have o:=bz x
 refine Zs g fun _ bC=>?_;refine Zf (Xl (zs:=[vi 0,vi 0,.slice none 0 0]) X1r O) ?_;rintro _ w1 ⟨b3,rfl,bD,q,e⟩;have G:=Q0 o.size bD;have o:=btr o q;refine Za O<|Zx bC fun a g _ bE=>?_;refine Zm O<|Zm O<|Ze (Xi (ps:=[(0,vi R),(1,vi C)]) (cs:=[vi R,vi C,.slice none 0 0]) O (fun _=>by first|rfl|kernel_rfl)) ?_;refine ZB [vi R,vi C,.slice none 0 0] X1r X19 fun b7 w3 bF q n=>?_
 have b9:b3≠b7:=by have:=e.lt;omega
 have aO:=Q0 o.size bF;have e:=e.bw q;have o:=btr o q;refine ZX bE fun a g _ bG=>?_;refine Q5 fun _ bH=>?_;refine X0f (fun a w=>Fr a 52 [(0,vi R),(1,vi C),(2,.func (.func k) #[] caps.toArray),(6,(pZ9 b3)),(8,(pZ9 b7)),(23,.bool ((!(isDimB R))||(!(isDimB C))))]/\w3=w) ?_ ?_
 ·refine Zr g<|Zm O<|Zf (Vc (Xr0 _ R) Xdo) ?_;rintro _ _ ⟨rfl,rfl⟩;refine Ze (X0x O)<|Zm O ?_
  refine Zg 19 O (fun m=>?_) (fun m=>?_)
  ·(iterate 3 refine Zp (gP m) ?_);refine Ze (Xf O m O) ?_;refine Zn fun a g=>?_;exact ⟨g.sub ⟨O,O,O,O,O,X1 O (by first|rfl|(simp only [m,bs];done)|simp [m]),trivial⟩,O⟩
  refine Zv (gW m) (X7 O) ?_;refine Zk (gW m) (Vc (Xr0 _ C) Xdo) ?_;rintro _ _ ⟨rfl,rfl⟩;refine Zv (gW m) (X0x O) ?_;refine Ze (Xb O m O) ?_;refine Zn fun a g=>?_;exact ⟨g.sub ⟨O,O,O,O,O,X1 O (by first|rfl|(simp only [m,bs];done)|simp [m]),trivial⟩,O⟩
 rintro a _ ⟨g,rfl⟩;refine bH _ _ ?_
 refine X04 g O (fun H=>?_) (fun H=>?_)
 ·have hn:=X66 H;refine Zs g fun _ aP=>?_;refine Ze (Xi (ps:=[]) (cs:=[vi 0,vi 0,.slice none 0 0]) O (fun _=>by first|rfl|kernel_rfl))<|Zo (Vw [vi 0,vi 0,.slice none 0 0] X19 e) ?_;rintro _ w4 ⟨L,hb⟩;have o:=Below.oy o L G;have e:=hb;refine Za O<|Zt aP fun a g=>?_;refine Q6<|X5<|X4 g (X0q g O (ResV.cellN (l:=[vi 0,vi 0,.slice none 0 0]) O X0j (e.at 0) O) O) ?_
  have he:matOf R C f=none:=by rw [matOf,hn];rfl
  rw [he]
  exact ⟨none,0,O,(Own.nil _ _ _ _ _),o⟩
 have hy:=X7k H;have aQ:=(Qd _ _▸hy:isDimB R=true/\isDimB C=true);have hR:=X2t aQ.1;have hC:=X2t aQ.2;refine Q7<|bG _ _<|Q5 fun _ aR=>?_;refine Zs g fun _ aS=>?_;refine Zm O<|Zm O<|Zt aS fun a g=>?_;refine Q8<|X0d (σ:=Nat×(List Dy)) (fun (s:Nat×(List Dy)) (a:Act) (w:World)=>match s with|(i,l)=>∃ y z,Fr a 52 [(1,vi C),(2,.func (.func k) #[] caps.toArray),(6,(pZ9 b3)),(8,(pZ9 b7)),(25,vi R),(26,vi (i:Int))]/\((i:Int)<=R)/\(seqO (gridG f C.toNat) (i*C.toNat)=some l)/\Blk w b3 92 [vi 0,vi 0,.slice none 0 0]/\Blk w b7 92 [vi R,vi C,.slice y l.length z]/\Own w x.heap.size 139 5 encD y z l/\Below x.heap.size x w) (fun (s:Nat×(List Dy))=>match s with|(i,l)=>(R-i).toNat) (0,[]) ?_ ?_
 ·exact ⟨none,0,g.sb,Z,O9,e,n,(Own.nil _ _ _ _ _),o⟩
 rintro ⟨i,l⟩ a w5 ⟨y,z,g,bM,hl,e,n,h,o⟩;refine Zs g fun _ aT=>?_;refine Ze (X16 O O)<|ZX aT fun a g _ aU=>?_
 refine X12 g O (fun aE W=>?_) (fun aE W=>?_)
 ·have aF:(i:Int)<R:=W
  have bN:i*C.toNat<=1024:=Q0 (Nat.mul_le_mul (show i<=32 by omega) (show C.toNat<=32 by omega)) O4
  refine Q7<|aU _ _<|Q5 fun _ aV=>?_;refine Q8<|Zs g fun _ aW=>?_;refine Zm O<|Za O<|Zx aW fun a g _ aX=>?_;refine Zm O<|Zm O<|Zt aX fun a g=>?_;refine Q8<|X0d (σ:=Nat×(List Dy)) (fun (s:Nat×(List Dy)) (a:Act) (w:World)=>match s with|(j,l2)=>∃ M N,Fr a 52 [(1,vi C),(2,.func (.func k) #[] caps.toArray),(6,(pZ9 b3)),(8,(pZ9 b7)),(9,vi (i:Int)),(25,vi R),(26,vi (i:Int)),(29,vi C),(30,vi (j:Int))]/\((j:Int)<=C)/\(seqO (gridG f C.toNat) (i*C.toNat+j)=some l2)/\Blk w b3 92 [vi 0,vi 0,.slice none 0 0]/\Blk w b7 92 [vi R,vi C,.slice M l2.length N]/\Own w x.heap.size 139 5 encD M N l2/\Below x.heap.size x w) (fun (s:Nat×(List Dy))=>match s with|(j,l2)=>(C-j).toNat) (0,l) ?_ ?_
  ·exact ⟨y,z,g.sb,Z,hl,e,n,h,o⟩
  rintro ⟨j,l2⟩ a w6 ⟨M,N,g,bO,Q,e,n,p,o⟩;refine Zs g fun _ aY=>?_;refine Ze (X16 O O)<|ZX aY fun a g _ aZ=>?_
  refine X12 g O (fun aG aA=>?_) (fun aG aA=>?_)
  ·have U:(j:Int)<C:=aA
   have bL:=X5j Q;refine Q7<|aZ _ _<|Q5 fun _ b0=>?_;refine Q8<|Zs g fun _ b1=>?_;refine Zm O<|Za O<|Zx b1 fun a g _ b2=>?_;refine Zm O<|Zm O<|Zm O<|Zf (X6p (cs:=caps) (vs:=[vi (i:Int),vi (j:Int)]) O O hF (aD i j _ aF U o)) ?_;rintro _ w7 ⟨rfl,q⟩;have e:=e.bw q;have n:=n.bw q;have p:=p.bw q;have o:=btr o q;refine Zm O<|Ze (X3 (vs:=[.agg #[vi (((f i j).getD dZ).num.a),vi (((f i j).getD dZ).num.b),vi (((f i j).getD dZ).num.c),vi (((f i j).getD dZ).num.d),vi (((f i j).getD dZ).exp)],.bool ((f i j).isSome)]) O O)<|Ze (X3 (vs:=[.agg #[vi (((f i j).getD dZ).num.a),vi (((f i j).getD dZ).num.b),vi (((f i j).getD dZ).num.c),vi (((f i j).getD dZ).num.d),vi (((f i j).getD dZ).exp)],.bool ((f i j).isSome)]) O O) ?_;refine ZB [vi (((f i j).getD dZ).num.a),vi (((f i j).getD dZ).num.b),vi (((f i j).getD dZ).num.c),vi (((f i j).getD dZ).num.d),vi (((f i j).getD dZ).exp)] X1s X09 fun bI w9 aB q t=>?_;have bJ:=Q0 o.size aB;have D:=p.away aB;have e:=e.bw q;have n:=n.bw q;have p:=p.bw q;have o:=btr o q;refine Za O<|ZX b2 fun a g _ b4=>?_;refine Zs g fun _ b5=>?_;refine Zm O<|Ze (X0x O)<|Zt b5 fun a g=>?_
   refine X04 g O (fun u=>?_) (fun u=>?_)
   ·have aH:=u
    have hn:gridG f C.toNat (i*C.toNat+j)=none:=by rw [Xas Z];revert u;cases f i j<;>simp
    refine Zs g fun _ b6=>?_;refine Ze (Xi (ps:=[]) (cs:=[vi 0,vi 0,.slice none 0 0]) O (fun _=>by first|rfl|kernel_rfl))<|Zo (Vw [vi 0,vi 0,.slice none 0 0] X19 e) ?_;rintro _ bP ⟨L,hb⟩;have o:=Below.oy o L G;have e:=hb;refine Za O<|Zt b6 fun a g=>?_;refine Q6<|X5<|Xo<|X5 ?_;refine X5<|Xo<|Xo<|X5 ?_;refine X5<|Xo<|X5<|X4 g (X0q g O (ResV.cellN (l:=[vi 0,vi 0,.slice none 0 0]) O X0j (e.at 0) O) O) ?_
    have he:matOf R C f=none:=by rw [matOf,Q4 hy,Xcy hn _ (X41 Z Z)];rfl
    rw [he]
    exact ⟨none,0,O,(Own.nil _ _ _ _ _),o⟩
   have aH:=u
   have hx:gridG f C.toNat (i*C.toNat+j)=some ((f i j).getD dZ):=by rw [Xas Z];revert u;cases f i j<;>simp
   refine Q7<|b4 _ _<|Zr g<|Ze (Vd O X1l 2)<|Ze (X0 O X2f (n.at 2))<|Ze (Vn Xr t)<|Zf (X2 (k:=1) (vs:=[.agg #[vi (((f i j).getD dZ).num.a),vi (((f i j).getD dZ).num.b),vi (((f i j).getD dZ).num.c),vi (((f i j).getD dZ).num.d),vi (((f i j).getD dZ).exp)]]) (zs:=[vi (((f i j).getD dZ).num.a),vi (((f i j).getD dZ).num.b),vi (((f i j).getD dZ).num.c),vi (((f i j).getD dZ).num.d),vi (((f i j).getD dZ).exp)]) O X1h X30 O O) ?_;rintro _ bQ ⟨b36,rfl,aC,q,I⟩
   have aL:bI≠b36:=by have:=t.lt;omega
   have bK:=Q0 o.size aC;have E:=p.away aC;have e:=e.bw q;have n:=n.bw q;have t:=t.bw q;have p:=p.bw q;have o:=btr o q;refine Zf (X0i (enc:=encD) (l:=(l2)) (l2:=([((f i j).getD dZ)])) (B0:=x.heap.size) O O X1h X30 X1e X76 p (Rd.of_blk I O _ I.lt) (by simp only [maxLen];simp;omega) O3 o.size) ?_;rintro _ bR ⟨aI,aJ,rfl,J,hg,aK⟩
   have B:Own _ x.heap.size 139 5 encD _ _ (l2):=p
   have aM:=aK _ t.lt D;have aN:=aK _ I.lt E;clear aK;have e:=e.appT B hg O;have n:=n.appT B hg O;have o:=Below.app o B hg (Qb _) o.size;clear B hg;refine Ze (Vd O X1l 2)<|Zo (Vu (vs:=[.slice aI (l2++([((f i j).getD dZ)])).length aJ]) (l':=[vi R,vi C,.slice aI (l2++([((f i j).getD dZ)])).length aJ]) O O Xi4 n) ?_;rintro _ bS ⟨L,hb⟩;have e:=e.oy L Z;have J:=J.oT L n O;have o:=Below.oy o L aO;have n:=hb;refine Zn fun a g=>?_;refine Xn<|b0 _ _<|Zr g<|Ze (X03 O O Z Z)<|Zm O ?_;refine Zn fun a g=>?_;refine Xd ?_;exact ⟨(j+1,l2++[((f i j).getD dZ)]),⟨aI,aJ,g.sb,Z,(Xd0 Q hx),e,n,J,o⟩,O1⟩
  have U:j=C.toNat:=by omega
  refine Q9<|Xm<|Xm<|X0a ?_;refine Xn<|aV _ _<|Zr g<|Ze (X03 O O Z Z)<|Zm O ?_;refine Zn fun a g=>?_;refine Xd ?_;exact ⟨(i+1,l2),⟨M,N,g.sb,Z,(by rw [Wb,Nat.one_mul,<- U];rw [<- U] at Q;exact Q),e,n,p,o⟩,O1⟩
 have aF:i=R.toNat:=by omega
 refine Q9<|Xm<|Xm<|X0a ?_;refine aR _ _<|Zs g fun _ b8=>?_;refine Ze (Vn X0j n)<|Zo (Vw [vi R,vi C,.slice y l.length z] X19 e) ?_;rintro _ bU ⟨L,hb⟩;have h:=h.oT L e O;have o:=Below.oy o L G;have e:=hb;refine Za O<|Zt b8 fun a g=>?_
 refine Q6 (X4 g (X0q g O (ResV.cellN (l:=[vi R,vi C,.slice y l.length z]) O X0j (e.at 0) O) O) ?_)
 have he:matOf R C f=some ⟨R,C,l⟩:=by rw [matOf,Q4 hy,<- aF,hl];rfl
 rw [he]
 exact ⟨y,z,O,h,o⟩
end Go.Proofs.YtfkokcbjcndjpaaGreatDoor
