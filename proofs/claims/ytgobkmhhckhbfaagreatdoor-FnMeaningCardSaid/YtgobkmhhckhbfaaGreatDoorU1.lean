/-
  For all drawn circuits and diagrams, the diagram of a circuit stands for its operator, the adjoint diagram for the adjoint matrix, and texts are parsed back. Conditions: none beside the variables' values, which the card ties to the program's text.
-/
import Derived.WalkKit
import Derived.Maps.AppendAt
import Derived.Test.YtgobkmhhckhbfaaGreatDoorProg
import Derived.Laws.StructEq
import Derived.MapKept
import Derived.Shelf.Slices.Turned
import Derived.Ground.Names2Prog
import Derived.Shelf.Slices.Clone
import Derived.Shelf.Slices.CompactI
import Derived.Shelf.Slices.Cells
set_option linter.unusedVariables false
set_option linter.unusedSimpArgs false
set_option maxRecDepth 8000
set_option linter.unusedSectionVars false
namespace Go.Proofs.YtgobkmhhckhbfaaGreatDoor
open Go.RowKit
theorem O{α:Sort _}{a:α}:a=a:=rfl
theorem Z{p:Prop}(h:p:=by omega):p:=h
theorem O0{p:Prop}(h:p:=by first|omega|(dsimp only;omega)):p:=h
theorem O1{p:Prop}(h:p:=by decide +kernel):p:=h
theorem O2{p:Prop}(h:p:=by first|omega|(rw [List.length_set];omega)):p:=h
theorem O3{p:Prop}(h:p:=by kernel_rfl):p:=h
theorem O4{p:Prop}(h:p:=by decide):p:=h
theorem O5{p:Prop}(h:p:=by simp):p:=h
theorem O6{p:Prop}(h:p:=by simp;omega):p:=h
theorem O7{p:Prop}(h:p:=by first|rfl|(simp only [List.length_set])):p:=h
theorem O8{p:Prop}(h:p:=by rw [Nat.zero_mul];rfl):p:=h
theorem O9{p:Prop}(h:p:=by rw [List.length_set];omega):p:=h
abbrev Q0:=@Nat.le_trans
abbrev Q1:=@of_decide_eq_false
abbrev Q2:=@of_decide_eq_true
abbrev Q3:=@if_neg
abbrev Q4:=@if_pos
abbrev Q5:=@wp_seq_k
abbrev Q6:=@wp_ret
abbrev Q7:=@wp_skip
abbrev Q8:=@wp_block
abbrev Q9:=@wp_exit
abbrev Qa:=@List.getD_eq_getElem?_getD
abbrev Qb:=@Nat.le_refl
abbrev Qc:=@List.getElem?_eq_getElem
abbrev Qd:=@Bool.and_eq_true
abbrev Qe:=@List.mem_of_getElem?
abbrev Qf:=@Nat.zero_le
abbrev Qg:=@List.getElem?_eq_some_iff
abbrev Qh:=@List.length_append
abbrev Qi:=@List.take_of_length_le
abbrev Qj:=@Int.toNat_natCast
abbrev Qk:=@List.mem_cons_self
abbrev Ql:=@List.mem_cons_of_mem
abbrev Qm:=@List.mem_singleton
abbrev Qn:=@List.length_take
abbrev Qo:=@List.length_map
abbrev Qp:=@Array.getElem?_eq_some_iff
abbrev Qq:=@Option.getD_some
abbrev Qr:=@decide_eq_true_eq
abbrev Qs:=@List.length_cons
abbrev Qt:=@List.take_add_one
abbrev Qu:=@List.mem_append
abbrev Qv:=@List.mem_cons
abbrev Qw:=@Bool.true_and
abbrev Qx:=@List.append_assoc
abbrev Qy:=@List.drop_eq_getElem_cons
abbrev Qz:=@Option.bind_some
abbrev W0:=@List.pairwise_iff_getElem
abbrev W1:=@List.all_eq_true
abbrev W2:=@List.mem_range
abbrev W3:=@List.drop_of_length_le
abbrev W4:=@Nat.lt_or_ge
abbrev W5:=@List.getElem?_append_right
abbrev W6:=@List.mem_map
abbrev W7:=@List.any_eq_false
abbrev W8:=@List.pairwise_cons
abbrev W9:=@List.take_append_drop
abbrev Wa:=@List.cons_append
abbrev Wb:=@Nat.add_mul
abbrev Wc:=@List.flatMap_cons
abbrev Wd:=@List.mem_of_mem_take
abbrev We:=@Array.getElem?_eq_none
abbrev Wf:=@List.take_succ_eq_append_getElem
abbrev Wg:=@List.getElem?_take_of_lt
abbrev Wh:=@Array.getElem?_setIfInBounds_ne
abbrev Wi:=@Nat.mul_comm
abbrev vi(x:Int) : Value:=.int .i64 x
abbrev pZ9(b:Nat):Value:=.pointer (some ⟨b,0,none⟩)
theorem tv0:True:=trivial
def look(t:Nat) : List (Nat×Value)->Option Value
 | []=>none
 | (k,v)::l=>match Nat.beq k t with
  | true=>some v
  | false=>look t l
structure Fr (a:Act) (n:Nat) (e:List (Nat×Value)) : Prop where
 d:a.defers=[]
 s:a.tmps.size=n
 h:∀ t v,look t e=some v->a.tmps[t]? = some v
def ev(e:List (Nat×Value)) : Operand->Option Value
 | .tmp t=>look t e
 | .const v=>some v
 | .global g=>some (.pointer (some ⟨g,0,none⟩))
 | .func f=>some (.func (.func f) #[] #[])
theorem Fr.ev{a:Act}{n:Nat}{e:List (Nat×Value)}{x:Operand}{v:Value}(hf:Fr a n e)(hx:ev e x=some v) : a.eval x=v:=by
 cases x with
 | tmp t=>
  have:=hf.h t v hx
  simp [Act.eval,this]
 | const u=>simpa [YtgobkmhhckhbfaaGreatDoor.ev,Act.eval] using hx
 | global g=>simpa [YtgobkmhhckhbfaaGreatDoor.ev,Act.eval] using hx
 | func f=>simpa [YtgobkmhhckhbfaaGreatDoor.ev,Act.eval] using hx
def evs(e:List (Nat×Value)) : List Operand->Option (List Value)
 | []=>some []
 | x::l=>match ev e x,evs e l with
  | some v,some vs=>some (v::vs)
  | _,_=>none
theorem Fr.evs{a:Act}{n:Nat}{e:List (Nat×Value)}(hf:Fr a n e) : ∀ {l:List Operand} {vs:List Value},evs e l=some vs->l.map a.eval=vs:=by
 intro l
 induction l with
 | nil=>intro vs h;simpa [YtgobkmhhckhbfaaGreatDoor.evs] using h
 | cons x l ih=>
  intro vs h
  simp only [YtgobkmhhckhbfaaGreatDoor.evs] at h
  split at h
  ·rename_i v us h1 h2
   injection h with h
   subst h
   simp [hf.ev h1,ih h2]
  ·cases h
theorem X4o(d:Nat)(v:Value)(e:List (Nat×Value)) : look d ((d,v)::e)=some v:=by simp [look]
theorem X5j{d t:Nat}(v:Value)(e:List (Nat×Value))(h:d≠t) : look t ((d,v)::e)=look t e:=by
 have:Nat.beq d t=false:=by
  cases hb:Nat.beq d t
  ·rfl
  ·exact absurd (Nat.eq_of_beq_eq_true hb) h
 simp [look,this]
theorem Fr.put{a:Act}{n:Nat}{e:List (Nat×Value)}(hf:Fr a n e)(d:Nat)(v:Value)(hd:Nat.blt d n=true) : Fr (a.put (some d) v) n ((d,v)::e):=by
 have hd':d<n:=by simpa [Nat.blt_eq] using hd
 refine ⟨hf.d,by simp [Act.put,hf.s],fun t u hu=>?_⟩
 by_cases h:d=t
 ·subst h
  rw [X4o] at hu
  injection hu with hu
  subst hu
  simp [Act.put,hf.s,hd']
 ·rw [X5j _ _ h] at hu
  simp [Act.put,Wh h,hf.h t u hu]
theorem Fr.put_none{a:Act}{n:Nat}{e:List (Nat×Value)}(hf:Fr a n e)(v:Value) : Fr (a.put none v) n e:=hf
def Sub(e:List (Nat×Value)) : List (Nat×Value)->Prop
 | []=>True
 | (t,v)::l=>look t e=some v/\Sub e l
theorem Fr.sub{a:Act}{n:Nat}{e e':List (Nat×Value)}(hf:Fr a n e)(hs:Sub e e') : Fr a n e':=by
 refine ⟨hf.d,hf.s,?_⟩
 induction e' with
 | nil=>intro t v h;cases h
 | cons p l ih=>
  obtain ⟨k,u⟩:=p;intro t v h
  by_cases hk:k=t
  ·subst hk
   rw [X4o] at h
   injection h with h
   subst h
   exact hf.h _ _ hs.1
  ·rw [X5j _ _ hk] at h
   exact ih hs.2 t v h
theorem Fr.sb{a:Act}{n:Nat}{e e':List (Nat×Value)}(hf:Fr a n e)(hs:Sub e e':=by repeat (first|exact trivial|refine ⟨rfl,?_⟩)) : Fr a n e':=hf.sub hs
def zipFrom:Nat->List Value->List (Nat×Value)
 | _,[]=>[]
 | k,v::l=>(k,v)::zipFrom (k+1) l
theorem Xcl{l:List Value}{t:Nat}{v:Value} : ∀ {k:Nat},look t (zipFrom k l)=some v->k<=t/\l[t-k]? = some v:=by
 induction l with
 | nil=>intro k h;cases h
 | cons u l ih=>
  intro k h
  simp only [zipFrom] at h
  by_cases hk:k=t
  ·subst hk
   rw [X4o] at h
   exact ⟨Qb _,by simpa using h⟩
  ·rw [X5j _ _ hk] at h
   obtain ⟨h1,h2⟩:=ih h
   refine ⟨by omega,?_⟩
   have:t-k=(t-(k+1))+1:=by omega
   rw [this,List.getElem?_cons_succ]
   exact h2
theorem Xk2{P:Program}{f:FuncId}{fn:Func}{c:Code}{args:List Value}{w:World}{R:Ending->World->Prop}
  (hf:P.funcs[f]? = some fn) (hb:fn.body=some c) (n:Nat) (hn:fn.ntmps=n) (hl:Nat.ble args.length n=true)
  (h:∀ a,Fr a n (zipFrom 0 args)->c.wp P (bodyPost P fn R) a w) : Calls P f args.toArray w R:=by
 refine calls_of_wp hf hb (h _ ⟨O,?_,?_⟩)
 ·have:args.length<=n:=by simpa [Nat.ble_eq] using hl
  simp [hn];omega
 ·intro t v hv;obtain ⟨_,h2⟩:=Xcl hv
  have hlt:t<args.length:=by
   have:=(Qg.1 h2).1
   simpa using this
  simp only [Nat.sub_zero] at h2
  rw [Array.getElem?_append_left (by simpa using hlt)]
  simpa using h2
def Ev(P:Program)(o:Oper)(a:Act)(w:World)(v:Value) : Prop:=∀ w',Below w.heap.size w w'->(execOp a.eval o).run P w'=.ok (.value v) w'
def EfU(P:Program)(R:Value->World->Prop) : Result Next->Prop
 | .ok (.value v) w'=>R v w'
 | .ok .skip w'=>R undef w'
 | .ok (.enter f args) w'=>Calls P f args w' fun e w''=>∃ v,e=.returned v/\R v w''
 | .ok (.row row args) w'=>Rows P row args w' R
 | _=>False
def Ef(P:Program)(o:Oper)(a:Act)(w:World)(R:Value->World->Prop) : Prop:=EfU P R ((execOp a.eval o).run P w)
theorem Ef.wp{P:Program}{o:Oper}{a:Act}{w:World}{R:Value->World->Prop}(h:Ef P o a w R){K:Act->World->Prop}{Q:Exit->Act->World->Prop}
  (hK:∀ v w',R v w'->K (a.put o.dst v) w') : o.wp P a w K Q:=by
 unfold Ef at h
 unfold Oper.wp
 generalize (execOp a.eval o).run P w=r at *
 cases r with
 | ok nx w'=>
  cases nx<;>simp only [EfU] at h<;>simp only [Oper.upon]
  case value u=>exact hK _ _ h
  case skip=>exact hK _ _ h
  case enter f args=>
   refine Calls.mono h fun e w'' ⟨v,he,hR⟩=>?_
   subst he
   exact hK _ _ hR
  case row row args=>exact Rows.mono h fun u w'' hR=>hK _ _ hR
 | halt x w'=>simp only [EfU] at h
def EvW(P:Program)(o:Oper)(n:Nat)(e:List (Nat×Value))(w:World)(v:Value) : Prop:=∀ a,Fr a n e->Ev P o a w v
def EfW(P:Program)(o:Oper)(n:Nat)(e:List (Nat×Value))(w:World)(R:Value->World->Prop) : Prop:=∀ a,Fr a n e->Ef P o a w R
theorem Ef.of_run{P:Program}{o:Oper}{a:Act}{w w':World}{v:Value}(h:(execOp a.eval o).run P w=.ok (.value v) w') : Ef P o a w fun u w1=>u=v/\w1=w':=by
 unfold Ef
 rw [h]
 exact ⟨O,O⟩
theorem Ef.of_skip{P:Program}{o:Oper}{a:Act}{w w':World}(h:(execOp a.eval o).run P w=.ok .skip w') : Ef P o a w fun u w1=>u=undef/\w1=w':=by
 unfold Ef
 rw [h]
 exact ⟨O,O⟩
theorem Ef.mono{P:Program}{o:Oper}{a:Act}{w:World}{R R':Value->World->Prop}(h:Ef P o a w R)(hr:∀ v w',R v w'->R' v w') : Ef P o a w R':=by
 unfold Ef at *
 generalize (execOp a.eval o).run P w=r at *
 cases r with
 | ok nx w'=>
  cases nx<;>simp only [EfU] at h ⊢
  case value u=>exact hr _ _ h
  case skip=>exact hr _ _ h
  case enter f args=>exact Calls.mono h fun e w'' ⟨v,he,hR⟩=>⟨v,he,hr _ _ hR⟩
  case row row args=>exact Rows.mono h hr
 | halt x w'=>simp only [EfU] at h
theorem Ef.of_ev{P:Program}{o:Oper}{a:Act}{w:World}{v:Value}(h:Ev P o a w v) : Ef P o a w fun u w1=>u=v/\w1=w:=Ef.of_run (h w (Below.refl _ _))
def Want(ops:Array Oper)(o:Oper)(e:List (Nat×Value)) : Prop:=
 match o.guard with
 | none=>True
 | some (j,b)=>∃ t b',(ops[j]?).bind (·.dst)=some t/\look t e=some (.bool b')/\b'=b
def notB:Value->Bool->Prop
 | .bool b',b=>b' = !b
 | _,_=>True
def Pass(ops:Array Oper)(o:Oper)(e:List (Nat×Value)) : Prop:=
 match o.guard with
 | none=>False
 | some (j,b)=>∃ t v,(ops[j]?).bind (·.dst)=some t/\look t e=some v/\notB v b
theorem bz(w:World) : Below w.heap.size w w:=Below.refl _ _
def WantC(ops:Array Oper)(o:Oper)(e:List (Nat×Value)) : Prop:=
 match o.guard with
 | none=>True
 | some (j,b)=>match (ops[j]?).bind (·.dst) with
  | some t=>match look t e with
   | some (.bool b')=>b'=b
   | _=>False
  | none=>False
def PassC(ops:Array Oper)(o:Oper)(e:List (Nat×Value)) : Prop:=
 match o.guard with
 | none=>False
 | some (j,b)=>match (ops[j]?).bind (·.dst) with
  | some t=>match look t e with
   | some v=>notB v b
   | none=>False
  | none=>False
theorem gW{ops:Array Oper}{o:Oper}{e:List (Nat×Value)}(h:WantC ops o e) : Want ops o e:=by grind [Want,WantC]
theorem gP{ops:Array Oper}{o:Oper}{e:List (Nat×Value)}(h:PassC ops o e) : Pass ops o e:=by
 unfold PassC at h
 unfold Pass
 split
 ·rename_i hg
  rw [hg] at h
  exact h
 ·rename_i j b hg
  rw [hg] at h
  simp only at h
  split at h
  ·rename_i t ht
   split at h
   ·rename_i v hv
    exact ⟨t,v,ht,hv,h⟩
   ·cases h
  ·cases h
theorem Want.wanted{ops:Array Oper}{o:Oper}{a:Act}{n:Nat}{e:List (Nat×Value)}(h:Want ops o e)(hf:Fr a n e) : Region.wanted o (yielded ops a.tmps)=true:=by
 unfold Want at h
 unfold Region.wanted
 split at h
 ·rename_i hg;simp [hg]
 ·rename_i j b hg
  obtain ⟨t,b',h1,h2,h3⟩:=h
  simp only [hg]
  unfold yielded
  simp [h1,hf.h _ _ h2,h3]
theorem Pass.wanted{ops:Array Oper}{o:Oper}{a:Act}{n:Nat}{e:List (Nat×Value)}(h:Pass ops o e)(hf:Fr a n e) : Region.wanted o (yielded ops a.tmps)=false:=by
 unfold Pass at h
 unfold Region.wanted
 split at h
 ·cases h
 ·rename_i j b hg
  obtain ⟨t,v,h1,h2,h3⟩:=h
  simp only [hg]
  unfold yielded
  rw [h1,Qz,hf.h _ _ h2]
  cases v<;>first|rfl|(simp only [notB] at h3;subst h3;cases b<;>rfl)
section
variable {P : Program} {ops : Array Oper} {Q : Exit -> Act -> World -> Prop} {a : Act} {w : World} {rest : List Oper} {o : Oper} {n d : Nat} {e : List (Nat × Value)}
theorem Xlw{R:Value->World->Prop}(hf:Fr a n e)(hw:Want ops o e)(hd:o.dst=some d)(hn:Nat.blt d n=true)(hr:Ef P o a w R)
  (h:∀ a' v w',R v w'->Fr a' n ((d,v)::e)->wpList P ops Q rest a' w') : wpList P ops Q (o::rest) a w:=
 wpList_step fun K hK=>by
  rw [Q4 (hw.wanted hf)]
  exact hr.wp fun v w' hR=>hK _ _ (h _ v w' hR (by rw [hd];exact hf.put d v hn))
theorem Xwu{R:Value->World->Prop}(hf:Fr a n e)(hw:Want ops o e)(hd:o.dst=none)(hr:Ef P o a w R)
  (h:∀ a' v w',R v w'->Fr a' n e->wpList P ops Q rest a' w') : wpList P ops Q (o::rest) a w:=
 wpList_step fun K hK=>by
  rw [Q4 (hw.wanted hf)]
  exact hr.wp fun v w' hR=>hK _ _ (h _ v w' hR (by rw [hd];exact hf.put_none v))
theorem Xwv{v:Value}(hf:Fr a n e)(hw:Want ops o e)(hd:o.dst=some d)(hn:Nat.blt d n=true)(hr:Ev P o a w v)
  (h:∀ a',Fr a' n ((d,v)::e)->wpList P ops Q rest a' w) : wpList P ops Q (o::rest) a w:=
 Xlw hf hw hd hn (Ef.of_ev hr) fun a' v' w' hR hf'=>by
  obtain ⟨rfl,rfl⟩:=hR;exact h a' hf'
theorem Xww(hf:Fr a n e)(hw:Pass ops o e)(hd:o.dst=some d)(hn:Nat.blt d n=true)
  (h:∀ a',Fr a' n ((d,undef)::e)->wpList P ops Q rest a' w) : wpList P ops Q (o::rest) a w:=
 wpList_step fun K hK=>by
  rw [Q3 (by rw [hw.wanted hf];simp)]
  exact hK _ _ (h _ (by rw [hd];exact hf.put d undef hn))
end
section
variable {P : Program} {ops : Array Oper} {Q : Exit -> Act -> World -> Prop} {a : Act} {w : World} {rest : List Oper} {op : Op} {ty : TypeId} {pos : String} {af : Array Edge} {n d : Nat} {e : List (Nat × Value)}
theorem l_e{v:Value}(hf:Fr a n e)(hn:Nat.blt d n=true)(hr:Ev P ⟨some d,op,ty,pos,af,none⟩ a w v)(h:∀ a',Fr a' n ((d,v)::e)->wpList P ops Q rest a' w) : wpList P ops Q (⟨some d,op,ty,pos,af,none⟩::rest) a w:=Xwv hf trivial rfl hn hr h
theorem l_f{R:Value->World->Prop}(hf:Fr a n e)(hn:Nat.blt d n=true)(hr:Ef P ⟨some d,op,ty,pos,af,none⟩ a w R)(h:∀ a' v w',R v w'->Fr a' n ((d,v)::e)->wpList P ops Q rest a' w') : wpList P ops Q (⟨some d,op,ty,pos,af,none⟩::rest) a w:=Xlw hf trivial rfl hn hr h
theorem Y4f{R:Value->World->Prop}(hf:Fr a n e)(hr:Ef P ⟨none,op,ty,pos,af,none⟩ a w R)(h:∀ a' v w',R v w'->Fr a' n e->wpList P ops Q rest a' w') : wpList P ops Q (⟨none,op,ty,pos,af,none⟩::rest) a w:=Xwu hf trivial rfl hr h
theorem Y4g{x:Operand}{v:Value}(hf:Fr a n e)(hx:ev e x=some v)(hn:Nat.blt d n=true)(h:∀ a',Fr a' n ((d,v)::e)->wpList P ops Q rest a' w) : wpList P ops Q (⟨some d,.move x,ty,pos,af,none⟩::rest) a w:=l_e hf hn (fun w' _=>by simp [execOp,hf.ev hx]) h
theorem Y4e{x:Operand}{v:Value}(hf:Fr a n e)(hx:ev e x=some v)(hn:Nat.blt d n=true)(h:∀ a',Fr a' n ((d,v)::e)->wpList P ops Q rest a' w) : wpList P ops Q (⟨some d,.assign x,ty,pos,af,none⟩::rest) a w:=l_e hf hn (fun w' _=>by simp [execOp,hf.ev hx]) h
end
structure Only (b:Nat) (w w':World) : Prop where
 os:w'.os=w.os
 tape:w'.tape=w.tape
 output:w'.output=w.output
 size:w'.heap.size=w.heap.size
 block:∀ k,k≠b->w'.heap[k]? = w.heap[k]?
theorem Only.refl(b:Nat)(w:World) : Only b w w:=⟨rfl,rfl,rfl,rfl,fun _ _=>rfl⟩
theorem Only.trans{b:Nat}{w w' w'':World}(h:Only b w w')(k:Only b w' w'') : Only b w w'':=
 ⟨k.os.trans h.os,k.tape.trans h.tape,k.output.trans h.output,k.size.trans h.size,fun i hi=>(k.block i hi).trans (h.block i hi)⟩
structure Kept (b B:Nat) (w w':World) : Prop where
 os:w'.os=w.os
 tape:w'.tape=w.tape
 output:w'.output=w.output
 size:w.heap.size<=w'.heap.size
 block:∀ k,k<B->k≠b->w'.heap[k]? = w.heap[k]?
theorem Kept.refl(b B:Nat)(w:World) : Kept b B w w:=⟨rfl,rfl,rfl,Qb _,fun _ _ _=>rfl⟩
theorem Kept.of_below{b B:Nat}{w w':World}(h:Below B w w') : Kept b B w w':=⟨h.os,h.tape,h.output,h.size,fun k hk _=>h.block k hk⟩
theorem Kept.trans{b B:Nat}{w w' w'':World}(h:Kept b B w w')(k:Below B w' w'') : Kept b B w w'':=
 ⟨k.os.trans h.os,k.tape.trans h.tape,k.output.trans h.output,Q0 h.size k.size,fun i hi hn=>(k.block i hi).trans (h.block i hi hn)⟩
theorem Kept.transK{b B:Nat}{w w' w'':World}(h:Kept b B w w')(k:Kept b B w' w'') : Kept b B w w'':=
 ⟨k.os.trans h.os,k.tape.trans h.tape,k.output.trans h.output,Q0 h.size k.size,fun i hi hn=>(k.block i hi hn).trans (h.block i hi hn)⟩
theorem Kept.mono{b B B':Nat}{w w':World}(h:Kept b B w w')(hB:B'<=B) : Kept b B' w w':=⟨h.os,h.tape,h.output,h.size,fun k hk=>h.block k (Nat.lt_of_lt_of_le hk hB)⟩
theorem Kept.oy{b b' B:Nat}{w w' w'':World}(h:Kept b B w w')(ho:Only b' w' w'')(hB:B<=b') : Kept b B w w'':=
 h.trans ⟨ho.os,ho.tape,ho.output,by rw [ho.size];exact Qb _,fun k hk=>ho.block k Z⟩
theorem Kept.self{b B:Nat}{w w' w'':World}(h:Kept b B w w')(ho:Only b w' w'') : Kept b B w w'':=
 h.transK ⟨ho.os,ho.tape,ho.output,by rw [ho.size];exact Qb _,fun k _ hk=>ho.block k hk⟩
theorem Kept.mid{b:Nat}{w w':World}(h:Kept b w.heap.size w w') : ∃ w1,Only b w w1/\(b<w.heap.size->w1.heap[b]? = w'.heap[b]?)/\Below w1.heap.size w1 w':=by
 cases hb:w'.heap[b]? with
 | none=>
  have hlt:w.heap.size<=b:=Q0 h.size (Array.getElem?_eq_none_iff.1 hb)
  refine ⟨w,Only.refl _ _,fun h'=>by omega,⟨h.os,h.tape,h.output,h.size,fun k hk=>h.block k hk Z⟩⟩
 | some o=>
  refine ⟨{ w with heap:=w.heap.setIfInBounds b o },⟨O,O,O,by simp,fun k hk=>?_⟩,fun h'=>?_,⟨h.os,h.tape,h.output,by simpa using h.size,fun k hk=>?_⟩⟩
  ·show (w.heap.setIfInBounds b o)[k]? = _
   rw [Wh (Ne.symm hk)]
  ·show (w.heap.setIfInBounds b o)[b]? = _
   simp [h']
  ·have hk':k<w.heap.size:=by simpa using hk
   show _=(w.heap.setIfInBounds b o)[k]?
   by_cases hkb:k=b
   ·subst hkb
    simp [hk',hb]
   ·rw [Wh (Ne.symm hkb)]
    exact h.block k hk' hkb
theorem btr{w0 w w':World}(h:Below w0.heap.size w0 w)(hE:Below w.heap.size w w') : Below w0.heap.size w0 w':=h.trans (hE.mono h.size)
theorem ktr{b:Nat}{w0 w w':World}(h:Kept b w0.heap.size w0 w)(hE:Below w.heap.size w w') : Kept b w0.heap.size w0 w':=h.trans (hE.mono h.size)
inductive Vk
 | but (b:Nat)
 | base (N:Nat)
instance:Coe Nat Vk:=⟨Vk.but⟩
def Keep(V:Option Vk)(w w':World) : Prop:=match V with
 | none=>Below w.heap.size w w'
 | some (.but b)=>∃ w1,Only b w w1/\Below w.heap.size w1 w'
 | some (.base N)=>Below (min N w.heap.size) w w'
theorem Keep.refl(V:Option Vk)(w:World) : Keep V w w:=by
 cases V with
 | none=>exact Below.refl _ _
 | some b=>cases b with
  | but b=>exact ⟨w,Only.refl _ _,Below.refl _ _⟩
  | base N=>exact Below.refl _ _
theorem Keep.kept{b:Nat}{w w':World}(h:Keep (some b) w w') : Kept b w.heap.size w w':=by
 obtain ⟨w1,h1,h2⟩:=h;exact (Kept.self (Kept.refl b w.heap.size w) h1).trans h2
theorem Kept.keep{b:Nat}{w w':World}(h:Kept b w.heap.size w w') : Keep (some b) w w':=by
 obtain ⟨w1,h1,_,h2⟩:=h.mid;exact ⟨w1,h1,by rw [<- h1.size];exact h2⟩
theorem Keep.of_below{V:Option Vk}{w w':World}(h:Below w.heap.size w w') : Keep V w w':=by
 cases V with
 | none=>exact h
 | some b=>cases b with
  | but b=>exact ⟨w,Only.refl _ _,h⟩
  | base N=>exact Below.mono h (Nat.min_le_right _ _)
theorem Keep.trans{V:Option Vk}{w w' w'':World}(h:Keep V w w')(k:Keep V w' w'') : Keep V w w'':=by
 cases V with
 | none=>exact Below.trans h (Below.mono k h.size)
 | some b=>cases b with
  | but b=>exact (h.kept.transK (k.kept.mono h.kept.size)).keep
  | base N=>exact Below.trans h (Below.mono k (by have:=h.size;omega))
section
variable {P : Program} {ops : Array Oper} {Q : Act -> World -> Prop} {tl : Nat -> Bool} {V : Option Vk}
def wpR(P:Program)(ops:Array Oper)(V:Option Vk)(tl:Nat->Bool)(i:Nat)(K:Act->World->Prop)(a:Act)(w:World) : Prop:=
 match ops[i]? with
 | none=>K a w
 | some o=>if Region.wanted o (yielded ops a.tmps) then Ef P o a w (fun v w'=>(tl i=false->Keep V w w')/\K (a.put o.dst v) w') else K (a.put o.dst undef) w
def wpS(P:Program)(ops:Array Oper)(V:Option Vk)(tl:Nat->Bool)(Q:Act->World->Prop) : Nat->Array Bool->Act->World->Prop
 | 0,listed,a,w=>Region.ready .any ops listed=[]/\Q a w
 | fuel+1,listed,a,w=>(Region.ready .any ops listed=[]->Q a w)/\∀ i ∈ Region.ready .any ops listed,wpR P ops V tl i (wpS P ops V tl Q fuel (listed.setIfInBounds i true)) a w
theorem Xnz{i:Nat}{K K':Act->World->Prop}{a:Act}{w:World}(h:∀ a w,K a w->K' a w)(hh:wpR P ops V tl i K a w) : wpR P ops V tl i K' a w:=by
 unfold wpR at *
 split
 ·exact h _ _ (by simpa [*] using hh)
 ·rename_i o ho
  simp only [ho] at hh
  split
  ·rename_i hw
   simp only [hw,if_true] at hh
   exact hh.mono fun v w' ⟨h1,h2⟩=>⟨h1,h _ _ h2⟩
  ·rename_i hw
   simp only [hw] at hh
   exact h _ _ hh
theorem X3z{Q':Exit->Act->World->Prop}(hQ:∀ a w,Q a w->Q' .normal a w) : ∀ (fuel:Nat) (listed:Array Bool) (a:Act) (w:World),wpS P ops V tl Q fuel listed a w->wpAny P .any ops Q' fuel listed a w
 | 0,_,_,_,h=>⟨h.1,hQ _ _ h.2⟩
 | fuel+1,listed,a,w,h=>by
  refine ⟨fun h0=>hQ _ _ (h.1 h0),fun i hi=>?_⟩
  have h1:=h.2 i hi
  unfold wpR at h1
  unfold wpOp
  split
  ·rename_i ho;simp only [ho] at h1;exact X3z hQ fuel _ _ _ h1
  ·rename_i o ho
   simp only [ho] at h1
   split
   ·rename_i hw
    simp only [hw,if_true] at h1
    exact .inl (h1.wp fun v w' hR=>X3z hQ fuel _ _ _ hR.2)
   ·rename_i hw
    simp only [hw] at h1
    exact X3z hQ fuel _ _ _ h1
def YC(P:Program)(ops:Array Oper)(C:World->Prop)(o:Oper)(v:Value)(a:Act) : Prop:=
 (Region.wanted o (yielded ops a.tmps)=true/\∀ w,C w->(execOp a.eval o).run P w=.ok (.value v) w)∨(Region.wanted o (yielded ops a.tmps)=false/\v=undef)
theorem YC.of_same{C:World->Prop}{o:Oper}{v:Value}{a a':Act}(hy:YC P ops C o v a)(he:execOp a'.eval o=execOp a.eval o)
  (hw:Region.wanted o (yielded ops a'.tmps)=Region.wanted o (yielded ops a.tmps)) : YC P ops C o v a':=by
 unfold YC at *
 rw [he,hw]
 exact hy
theorem YC.wpR{C:World->Prop}{i:Nat}{o:Oper}{v:Value}{a:Act}{w:World}(hi:ops[i]? = some o)(hC:C w)(hy:YC P ops C o v a){K:Act->World->Prop}(h:K (a.put o.dst v) w) : wpR P ops V tl i K a w:=by
 unfold YtgobkmhhckhbfaaGreatDoor.wpR
 simp only [hi]
 rcases hy with ⟨hw,hv⟩|⟨hw,rfl⟩
 ·simp only [hw,if_true]
  exact (Ef.of_run (hv w hC)).mono fun u w' ⟨e1,e2⟩=>by subst e1;subst e2;exact ⟨fun _=>Keep.refl _ _,h⟩
 ·simp only [hw,Bool.false_eq_true,if_false];exact h
theorem Xud{oi oj:Oper}{v:Value}(h1:∀ d,oi.dst=some d->d ∉ oj.looksAt ops)(hsj:∀ cs b,oj.op≠.select cs b)
  {a:Act} {w:World} {R:Value->World->Prop} (h:Ef P oj (a.put oi.dst v) w R) : Ef P oj a w R:=by
 unfold Ef at *
 rwa [execOp_put oj hsj a oi.dst v h1] at h
theorem Xs1{C:World->Prop}{j:Nat}{oi oj:Oper}{v:Value}(hj:ops[j]? = some oj)(hap:oi.apart ops oj=true)
  (hsi:∀ cs b,oi.op≠.select cs b) (hsj:∀ cs b,oj.op≠.select cs b) (hC:∀ w w',C w->(tl j=false->Keep V w w')->C w') {K:Act->World->Prop} {a:Act} {w:World} (hw0:C w)
  (hy:YC P ops C oi v a) (h:wpR P ops V tl j K (a.put oi.dst v) w) : wpR P ops V tl j (fun a' w'=>C w'/\YC P ops C oi v a'/\K (a'.put oi.dst v) w') a w:=by
 obtain ⟨h1,h2,h3⟩:=Oper.apart_spec hap
 have keep:∀ (a:Act),YC P ops C oi v a->∀ u,YC P ops C oi v (a.put oj.dst u):=fun a hy u=>
  hy.of_same (execOp_put oi hsi a oj.dst u h3) (wanted_put oi a oj.dst u h3)
 unfold wpR at *
 simp only [hj] at *
 rw [wanted_put oj a oi.dst v h1] at h
 split
 ·rename_i hw
  simp only [hw,if_true] at h
  exact (Xud h1 hsj h).mono fun u w' ⟨hb,hk⟩=>⟨hb,hC w w' hw0 hb,keep a hy u,by rw [<- Act.put_comm a v u h2];exact hk⟩
 ·rename_i hw
  simp only [hw] at h
  exact ⟨hw0,keep a hy _,by rw [<- Act.put_comm a v undef h2];exact h⟩
def Closed(ops:Array Oper)(listed:Array Bool) : Prop:=∀ k ok,ops[k]? = some ok->listed.getD k false=true->∀ e ∈ ok.after,Region.binds .any e=true->listed.getD e.on false=true
theorem X6w{listed:Array Bool}{j k:Nat}(h:listed.getD k false=true) : (listed.setIfInBounds j true).getD k false=true:=by
 rcases W4 k listed.size with hk|hk
 ·by_cases hjk:j=k
  ·subst hjk;simp [hk]
  ·simpa [hk,Array.getElem_setIfInBounds_ne _ hjk] using h
 ·simp [We hk] at h
theorem Closed.set{listed:Array Bool}{j:Nat}{oj:Oper}(h:Closed ops listed)(hj:ops[j]? = some oj)(hall:∀ e ∈ oj.after,Region.binds .any e=true->listed.getD e.on false=true) : Closed ops (listed.setIfInBounds j true):=fun k ok hk hl e he hb=>by
 by_cases hjk:j=k
 ·subst hjk
  rw [hj] at hk
  injection hk with hk
  subst hk
  exact X6w (hall e he hb)
 ·rw [getD_set_ne false hjk] at hl
  exact X6w (h k ok hk hl e he hb)
def reach(ops:Array Oper)(i:Nat) : Nat->Nat->Bool
 | 0,_=>false
 | f+1,j=>match ops[j]? with
  | some oj=>oj.after.any fun e=>Region.binds .any e&&(e.on==i||reach ops i f e.on)
  | none=>false
theorem X83{listed:Array Bool}{i:Nat}(hcl:Closed ops listed) : ∀ (f j:Nat) (oj:Oper),ops[j]? = some oj->(∀ e ∈ oj.after,Region.binds .any e=true->listed.getD e.on false=true)->reach ops i f j=true->listed.getD i false=true
 | 0,_,_,_,_,h=>by cases h
 | f+1,j,oj,hj,hall,h=>by
  simp only [reach,hj] at h
  obtain ⟨e,he,hb⟩:=Array.any_eq_true'.1 h
  simp only [Qd,Bool.or_eq_true,beq_iff_eq] at hb
  have h1:=hall e he hb.1
  rcases hb.2 with h2|h2
  ·rw [<- h2];exact h1
  ·cases hk:ops[e.on]? with
   | none=>
    cases f with
    | zero=>cases h2
    | succ f=>simp only [reach,hk] at h2;cases h2
   | some ok=>exact X83 hcl f e.on ok hk (hcl e.on ok hk h1) h2
theorem X8i{C:World->Prop}{i:Nat}{oi:Oper}{v:Value}(hi:ops[i]? = some oi)(hsel:∀ (j:Nat) (o:Oper) cs b,ops[j]? = some o->o.op≠.select cs b)
  (hC:∀ j oj,ops[j]? = some oj->(∀ listed,Closed ops listed->(∀ e ∈ oj.after,Region.binds .any e=true->listed.getD e.on false=true)->listed.getD i true=false->∀ w w',C w->(tl j=false->Keep V w w')->C w')) :
  ∀ (fuel:Nat) (listed:Array Bool) (a:Act) (w:World),Closed ops listed->
   (∀ j oj,ops[j]? = some oj->j≠i->listed.getD j true=false->(∀ e ∈ oj.after,Region.binds .any e=true->e.on≠i)->oi.apart ops oj=true)->
   i ∈ Region.ready .any ops listed->C w->YC P ops C oi v a->
   wpS P ops V tl Q fuel (listed.setIfInBounds i true) (a.put oi.dst v) w->wpS P ops V tl Q (fuel+1) listed a w:=by
 intro fuel
 induction fuel with
 | zero=>
  intro listed a w _ _ hr hw hy H
  refine ⟨fun h=>(by rw [h] at hr;cases hr),fun j hj=>?_⟩
  by_cases hji:j=i
  ·subst hji;exact hy.wpR hi hw H
  ·have:=ready_mono hj hji
   rw [H.1] at this
   cases this
 | succ fuel ih=>
  intro listed a w hcl hfree hr hw hy H
  refine ⟨fun h=>(by rw [h] at hr;cases hr),fun j hj=>?_⟩
  by_cases hji:j=i
  ·subst hji;exact hy.wpR hi hw H
  ·have h1:=H.2 j (ready_mono hj hji);obtain ⟨hjun,oj,hoj,hall⟩:=mem_ready.1 hj
   have hnot:∀ e ∈ oj.after,Region.binds .any e=true->e.on≠i:=fun e he hb heq=>by
    have h1:=hall e he hb;have h0:=(mem_ready.1 hr).1
    rw [heq] at h1
    rcases W4 i listed.size with h'|h'
    ·simp [h'] at h0 h1;rw [h0] at h1;cases h1
    ·simp [We h'] at h1
   have h2:=Xs1 hoj (hfree j oj hoj hji hjun hnot) (fun cs b=>hsel i oi cs b hi) (fun cs b=>hsel j oj cs b hoj) (hC j oj hoj listed hcl hall (mem_ready.1 hr).1) hw hy h1
   have hfree':∀ k ok,ops[k]? = some ok->k≠i->(listed.setIfInBounds j true).getD k true=false->
     (∀ e ∈ ok.after,Region.binds .any e=true->e.on≠i)->oi.apart ops ok=true:=fun k ok hk hki hun hno=>by
    refine hfree k ok hk hki ?_ hno
    by_cases hjk:j=k
    ·subst hjk;exact hjun
    ·rw [getD_set_ne true hjk] at hun;exact hun
   refine Xnz (fun a' w' h3=>ih (listed.setIfInBounds j true) a' w' (hcl.set hoj hall) hfree' (ready_mono hr (Ne.symm hji)) h3.1 h3.2.1 ?_) h2
   rw [Array.setIfInBounds_comm _ _ hji]
   exact h3.2.2
def mask(ops:Array Oper)(done:List Nat) : Array Bool:=(Array.range ops.size).map fun i=>done.contains i
theorem X62(ops:Array Oper)(done:List Nat)(i:Nat) : (mask ops done).setIfInBounds i true=mask ops (i::done):=by grind [mask]
theorem Xe8(ops:Array Oper) : Array.replicate ops.size false=mask ops []:=by
 apply Array.ext<;>simp [mask]
def closedB(ops:Array Oper)(done:List Nat) : Bool:=done.all fun k=>match ops[k]? with
 | some ok=>ok.after.all fun e=>!(Region.binds .any e)||done.contains e.on&&Nat.blt e.on ops.size
 | none=>true
def mayFirst(ops:Array Oper)(done:List Nat)(i:Nat) : Bool:=
 Region.noSelect ops&&Region.free .any ops (mask ops done) i&&(Region.ready .any ops (mask ops done)).contains i&&closedB ops done
theorem Xb0{done:List Nat}{k:Nat}(d:Bool)(h:k<ops.size) : (mask ops done).getD k d=done.contains k:=by
 simp [mask,h]
theorem mask_getD'{done:List Nat}{k:Nat}(h:(mask ops done).getD k false=true) : done.contains k=true:=by
 rcases W4 k ops.size with h'|h'
 ·rwa [Xb0 false h'] at h
 ·simp [mask,h'] at h
theorem X5d{done:List Nat}(h:closedB ops done=true) : Closed ops (mask ops done):=fun k ok hk hl e he hb=>by
 have h1:=mask_getD' hl
 simp only [closedB,W1] at h
 have h2:=h k (by simpa using h1)
 simp only [hk] at h2
 have h3:=Array.all_eq_true'.1 h2 e he
 simp only [hb,Bool.not_true,Bool.false_or,Qd] at h3
 have h4:e.on<ops.size:=by simpa [Nat.blt_eq] using h3.2
 rw [Xb0 false h4]
 exact h3.1
def tailWaits(ops:Array Oper)(tl:Nat->Bool)(i:Nat) : Bool:=
 (List.range ops.size).all fun j=>!tl j||reach ops i 9 j
theorem Xab{i:Nat}(h:tailWaits ops tl i=true)(j:Nat)(oj:Oper)(hj:ops[j]? = some oj){listed:Array Bool}(hcl:Closed ops listed)(hall:∀ e ∈ oj.after,Region.binds .any e=true->listed.getD e.on false=true)(hi:listed.getD i true=false) : tl j=false:=by
 simp only [tailWaits,W1,W2] at h
 have h1:=h j (Qp.1 hj).1
 simp only [Bool.or_eq_true,Bool.not_eq_true'] at h1
 rcases h1 with h1|h1
 ·exact h1
 ·have h2:=X83 hcl 9 j oj hj hall h1
  rcases W4 i listed.size with h'|h'
  ·simp [h'] at h2 hi;rw [h2] at hi;cases hi
  ·simp [h'] at h2
section
variable {a : Act} {w : World} {n d fuel : Nat} {e : List (Nat × Value)} {o : Oper} {done : List Nat}
theorem Xu2(i:Nat){v:Value}(hi:ops[i]? = some o)(hm:mayFirst ops done i=true)(ht:tailWaits ops tl i=true)(hf:Fr a n e)(hw:Want ops o e)(hd:o.dst=some d)(hn:Nat.blt d n=true)
  (hr:∀ w',Keep V w w'->(execOp a.eval o).run P w'=.ok (.value v) w') (h:∀ a',Fr a' n ((d,v)::e)->wpS P ops V tl Q fuel (mask ops (i::done)) a' w) : wpS P ops V tl Q (fuel+1) (mask ops done) a w:=by
 simp only [mayFirst,Qd] at hm
 refine X8i (C:=fun w'=>Keep V w w') hi (Region.noSelect_spec hm.1.1.1) (fun j oj hj lst hcl hall hun w1 w2 h1 h2=>?_) fuel _ a w (X5d hm.2) (Region.free_spec hi hm.1.1.2) (by simpa using hm.1.2) (Keep.refl _ _) (.inl ⟨hw.wanted hf,hr⟩) ?_
 ·exact h1.trans (h2 (Xab ht j oj hj hcl hall hun))
 ·rw [X62]
  exact h _ (by rw [hd];exact hf.put d v hn)
theorem Xxl(i:Nat){v:Value}(hi:ops[i]? = some o)(hm:mayFirst ops done i=true)(ht:tailWaits ops tl i=true)(hf:Fr a n e)(hw:Want ops o e)(hd:o.dst=some d)(hn:Nat.blt d n=true)
  (hr:Ev P o a w v) (h:∀ a',Fr a' n ((d,v)::e)->wpS P ops none tl Q fuel (mask ops (i::done)) a' w) : wpS P ops none tl Q (fuel+1) (mask ops done) a w:=Xu2 i hi hm ht hf hw hd hn hr h
theorem Y2f(i:Nat){b:Nat}{v:Value}(hi:ops[i]? = some o)(hm:mayFirst ops done i=true)(ht:tailWaits ops tl i=true)(hf:Fr a n e)(hw:Want ops o e)(hd:o.dst=some d)(hn:Nat.blt d n=true)
  (hr:∀ w1,Only b w w1->Ev P o a w1 v) (h:∀ a',Fr a' n ((d,v)::e)->wpS P ops (some b) tl Q fuel (mask ops (i::done)) a' w) : wpS P ops (some b) tl Q (fuel+1) (mask ops done) a w:=
 Xu2 i hi hm ht hf hw hd hn (fun w' ⟨w1,h1,h2⟩=>hr w1 h1 w' (by rw [h1.size];exact h2)) h
theorem Xn9(i:Nat){v:Value}(hi:ops[i]? = some o)(hm:mayFirst ops done i=true)(hf:Fr a n e)(hw:Want ops o e)(hd:o.dst=some d)(hn:Nat.blt d n=true)
  (hr:∀ w,Ev P o a w v) (h:∀ a',Fr a' n ((d,v)::e)->wpS P ops V tl Q fuel (mask ops (i::done)) a' w) : wpS P ops V tl Q (fuel+1) (mask ops done) a w:=by
 simp only [mayFirst,Qd] at hm
 refine X8i (C:=fun _=>True) hi (Region.noSelect_spec hm.1.1.1) (fun _ _ _ _ _ _ _ _ _ _ _=>trivial) fuel _ a w (X5d hm.2) (Region.free_spec hi hm.1.1.2) (by simpa using hm.1.2) trivial (.inl ⟨hw.wanted hf,fun w' _=>hr w' w' (Below.refl _ _)⟩) ?_
 rw [X62]
 exact h _ (by rw [hd];exact hf.put d v hn)
theorem Xxm(i:Nat)(hi:ops[i]? = some o)(hm:mayFirst ops done i=true)(hf:Fr a n e)(hw:Pass ops o e)(hd:o.dst=some d)(hn:Nat.blt d n=true)
  (h:∀ a',Fr a' n ((d,undef)::e)->wpS P ops V tl Q fuel (mask ops (i::done)) a' w) : wpS P ops V tl Q (fuel+1) (mask ops done) a w:=by
 simp only [mayFirst,Qd] at hm
 refine X8i (C:=fun _=>True) hi (Region.noSelect_spec hm.1.1.1) (fun _ _ _ _ _ _ _ _ _ _ _=>trivial) fuel _ a w (X5d hm.2) (Region.free_spec hi hm.1.1.2) (by simpa using hm.1.2) trivial (.inr ⟨hw.wanted hf,O⟩) ?_
 rw [X62]
 exact h _ (by rw [hd];exact hf.put d undef hn)
theorem s_e{op:Op}{ty:TypeId}{pos:String}{af:Array Edge}(i:Nat){v:Value}(hi:ops[i]? = some ⟨some d,op,ty,pos,af,none⟩)(hm:mayFirst ops done i=true)(ht:tailWaits ops tl i=true)(hf:Fr a n e)(hn:Nat.blt d n=true)
  (hr:Ev P ⟨some d,op,ty,pos,af,none⟩ a w v) (h:∀ a',Fr a' n ((d,v)::e)->wpS P ops none tl Q fuel (mask ops (i::done)) a' w) : wpS P ops none tl Q (fuel+1) (mask ops done) a w:=Xxl i hi hm ht hf trivial rfl hn hr h
theorem Y4l{op:Op}{ty:TypeId}{pos:String}{af:Array Edge}(i:Nat){v:Value}(hi:ops[i]? = some ⟨some d,op,ty,pos,af,none⟩)(hm:mayFirst ops done i=true)(hf:Fr a n e)(hn:Nat.blt d n=true)
  (hr:∀ w,Ev P ⟨some d,op,ty,pos,af,none⟩ a w v) (h:∀ a',Fr a' n ((d,v)::e)->wpS P ops V tl Q fuel (mask ops (i::done)) a' w) : wpS P ops V tl Q (fuel+1) (mask ops done) a w:=Xn9 i hi hm hf trivial rfl hn hr h
theorem Y2g(i:Nat)(hr:Region.ready .any ops (mask ops done)=[i])(h:wpR P ops V tl i (wpS P ops V tl Q fuel (mask ops (i::done))) a w) : wpS P ops V tl Q (fuel+1) (mask ops done) a w:=by
 refine ⟨fun h0=>(by rw [hr] at h0;cases h0),fun j hj=>?_⟩
 rw [hr] at hj
 obtain rfl:j=i:=by simpa using hj
 rw [X62]
 exact h
theorem Y2h(i j:Nat)(hr:Region.ready .any ops (mask ops done)=[i,j])(hi:wpR P ops V tl i (wpS P ops V tl Q fuel (mask ops (i::done))) a w)
  (hj:wpR P ops V tl j (wpS P ops V tl Q fuel (mask ops (j::done))) a w) : wpS P ops V tl Q (fuel+1) (mask ops done) a w:=by
 refine ⟨fun h0=>(by rw [hr] at h0;cases h0),fun k hk=>?_⟩
 rw [hr] at hk
 rw [X62]
 simp only [Qv,List.not_mem_nil,or_false] at hk
 rcases hk with rfl|rfl
 ·exact hi
 ·exact hj
theorem Xke{a:Act}{w:World}{o:Oper}{v:Value}(h:Ev P o a w v) : Ef P o a w (fun v' w'=>v'=v/\w=w'):=by
 unfold Ef
 rw [h w (Below.refl _ _)]
 exact ⟨O,O⟩
theorem Xxk(hr:Region.ready .any ops (mask ops done)=[])(h:Q a w) : wpS P ops V tl Q fuel (mask ops done) a w:=by
 cases fuel with
 | zero=>exact ⟨hr,h⟩
 | succ f=>exact ⟨fun _=>h,fun j hj=>by rw [hr] at hj;cases hj⟩
theorem Y27{i:Nat}{K:Act->World->Prop}{R:Value->World->Prop}(hi:ops[i]? = some o)(hf:Fr a n e)(hw:Want ops o e)(hd:o.dst=some d)(hn:Nat.blt d n=true)
  (hr:Ef P o a w fun v w'=>(tl i=false->Keep V w w')/\R v w') (h:∀ a' v w',R v w'->Fr a' n ((d,v)::e)->K a' w') : wpR P ops V tl i K a w:=by
 unfold wpR
 simp only [hi]
 rw [Q4 (hw.wanted hf)]
 exact hr.mono fun v w' ⟨h1,h2⟩=>⟨h1,h _ v w' h2 (by rw [hd];exact hf.put d v hn)⟩
theorem Xxa{i:Nat}{K:Act->World->Prop}{R:Value->World->Prop}(hi:ops[i]? = some o)(hf:Fr a n e)(hw:Want ops o e)(hd:o.dst=none)
  (hr:Ef P o a w fun v w'=>(tl i=false->Keep V w w')/\R v w') (h:∀ a' v w',R v w'->Fr a' n e->K a' w') : wpR P ops V tl i K a w:=by
 unfold wpR
 simp only [hi]
 rw [Q4 (hw.wanted hf)]
 exact hr.mono fun v w' ⟨h1,h2⟩=>⟨h1,h _ v w' h2 (by rw [hd];exact hf.put_none v)⟩
theorem Xxb{i:Nat}{K:Act->World->Prop}(hi:ops[i]? = some o)(hf:Fr a n e)(hw:Pass ops o e)(hd:o.dst=some d)(hn:Nat.blt d n=true)
  (h:∀ a',Fr a' n ((d,undef)::e)->K a' w) : wpR P ops V tl i K a w:=by
 unfold wpR
 simp only [hi]
 rw [Q3 (by rw [hw.wanted hf];simp)]
 exact h _ (by rw [hd];exact hf.put d undef hn)
theorem Xl(V:Option Vk)(tl:Nat->Bool){id:Nat}{l:List Oper}{Q':Exit->Act->World->Prop}(hm:P.follows .mixedOrders=true)
  (h:∀ w',Below w.heap.size w w'->wpS P l.toArray V tl (Q' .normal) l.length (mask l.toArray []) a w') : (Code.region id l.toArray true).wp P Q' a w:=by
 refine wp_region_any hm ?_
 rw [Xe8]
 exact X3z (fun _ _ h=>h) _ _ _ _ (by simpa using h w.drew (Below.refl _ _).drew)
end
end
abbrev Env:=List (Nat×Value)
def At(w:World)(p:Addr)(l:List Value) : Prop:=∀ j v,l[j]? = some v->w.cell? (p.add j)=some v
def Blk(w:World)(b:Nat)(T:TypeId)(l:List Value) : Prop:=w.heap[b]? = some (.cells l.toArray T (0,0))
theorem X7d(p:Addr)(i j:Nat) : (p.add i).add j=p.add (i+j):=by
 unfold Addr.add
 by_cases hi:i=0<;>by_cases hj:j=0<;>simp [hi,hj,Nat.add_assoc]
theorem X70(p:Addr)(i:Nat) : (p.add i).block=p.block:=by unfold Addr.add;split<;>rfl
theorem X24(b off i:Nat) : (Addr.mk b off none).add i=⟨b,off+i,none⟩:=by
 unfold Addr.add
 by_cases hi:i=0<;>simp [hi]
theorem Xgl{w:World}{p:Addr}{v:Value}(h:w.cell? p=some v) : p.block<w.heap.size:=by
 rcases W4 p.block w.heap.size with h'|h'
 ·exact h'
 ·simp [World.cell?,We h'] at h
theorem At.bw{w w':World}{p:Addr}{l:List Value}(h:At w p l)(hb:Below w.heap.size w w') : At w' p l:=by
 intro j v hj
 have:=h j v hj
 rw [hb.cell (Xgl this)]
 exact this
theorem At.drop{w:World}{p:Addr}{l:List Value}(h:At w p l)(k:Nat) : At w (p.add k) (l.drop k):=by
 intro j v hj
 rw [X7d]
 exact h (k+j) v (by rw [<- hj,List.getElem?_drop])
theorem At.take{w:World}{p:Addr}{l:List Value}(h:At w p l)(k:Nat) : At w p (l.take k):=by grind [At]
theorem At.nil(w:World)(p:Addr) : At w p []:=fun j v h=>by simp at h
theorem Blk.lt{w:World}{b:Nat}{T:TypeId}{l:List Value}(h:Blk w b T l) : b<w.heap.size:=by grind [Blk]
theorem Blk.cell{w:World}{b:Nat}{T:TypeId}{l:List Value}(h:Blk w b T l)(k:Nat) : w.cell? ⟨b,k,none⟩=l[k]?:=by
 unfold Blk at h
 simp [World.cell?,h]
theorem Blk.at{w:World}{b:Nat}{T:TypeId}{l:List Value}(h:Blk w b T l)(k:Nat) : At w ⟨b,k,none⟩ (l.drop k):=by
 intro j v hj
 rw [X24,h.cell,<- hj,List.getElem?_drop]
theorem Blk.bw{w w':World}{b:Nat}{T:TypeId}{l:List Value}(h:Blk w b T l)(hb:Below w.heap.size w w') : Blk w' b T l:=(hb.block b h.lt).trans h
theorem Blk.oy{w w':World}{b b':Nat}{T:TypeId}{l:List Value}(h:Blk w b T l)(ho:Only b' w w')(hne:b≠b') : Blk w' b T l:=(ho.block b hne).trans h
theorem Blk.drew{w:World}{b:Nat}{T:TypeId}{l:List Value}(h:Blk w b T l) : Blk w.drew b T l:=h
theorem Blk.ne{w:World}{b b':Nat}{T T':TypeId}{l l':List Value}(h:Blk w b T l)(h':Blk w b' T' l')(hT:Nat.beq T T'=false) : b≠b':=by
 rintro rfl
 unfold Blk at h h'
 rw [h] at h'
 injection h' with h'
 injection h' with _ e
 subst e
 simp at hT
theorem Blk.oz{w w' : World}{b b' : Nat}{T T' : TypeId}{l l' : List Value}(h : Blk w b T l)(ho : Only b' w w')(h' : Blk w b' T' l')(hT : Nat.beq T T' = false) : Blk w' b T l:=h.oy ho (Blk.ne h h' hT)
theorem Below.oy{B b:Nat}{w0 w w':World}(h:Below B w0 w)(ho:Only b w w')(hB:B<=b) : Below B w0 w':=
 h.trans ⟨ho.os,ho.tape,ho.output,by rw [ho.size];exact Qb _,fun k hk=>ho.block k Z⟩
theorem At.oy{w w':World}{b:Nat}{p:Addr}{l:List Value}(h:At w p l)(ho:Only b w w')(hne:p.block≠b) : At w' p l:=by
 intro j v hj
 rw [World.cell?_of_block (w:=w) (by rw [X70];exact ho.block _ hne)]
 exact h j v hj
def OneT(P:Program)(t:TypeId) : Prop:=∃ d,P.underlying t=some d/\(match d with|.struct _|.array _ _=>False|_=>True)
def AggT(P:Program)(t:TypeId)(n:Nat) : Prop:=(∃ d,P.underlying t=some d/\(match d with|.struct _|.array _ _=>True|_=>False))/\∃ i,P.info? t=some i/\i.size=n
def SizeT(P:Program)(t:TypeId)(n:Nat) : Prop:=∃ i,P.info? t=some i/\i.size=n
def ZeroT(P:Program)(t:TypeId)(z:Value) : Prop:=∃ i,P.info? t=some i/\i.zero=some z
def FieldT(P:Program)(T f k:Nat) : Prop:=∃ fs F i,P.underlying T=some (.struct fs)/\fs[f]? = some F/\F.offset=k/\P.info? F.type=some i/\(i.size==0)=false
def SliceT(P:Program)(T E:TypeId) : Prop:=P.underlying T=some (.slice E)
def FuncF (P : Program) (f : FuncId) : Prop := ∃ fn, P.funcs[f]? = some fn /\ (fn.name == "runtime.NumGoroutine") = false /\ fn.body.isNone = false
section
variable {P : Program} {w : World}
theorem run_sizeOf'{t n:Nat}(h:SizeT P t n)(w:World) : (sizeOf t).run P w=.ok n w:=by
 obtain ⟨i,h1,h2⟩:=h
 simp [sizeOf,typeInfo,h1,h2]
theorem Xai{t:TypeId}{z:Value}(h:ZeroT P t z)(w:World) : (zeroValue t).run P w=.ok z w:=by
 obtain ⟨i,h1,h2⟩:=h
 simp [zeroValue,typeInfo,h1,h2]
theorem X0m{t:TypeId}{d:TypeDesc}(h:P.underlying t=some d)(w:World) : (underlying t).run P w=.ok d w:=by simp [underlying,h]
theorem X51{t:TypeId}(h:OneT P t)(w:World) : (isAgg t).run P w=.ok false w:=by
 obtain ⟨d,h1,h2⟩:=h
 cases d<;>simp_all [isAgg,underlying]
theorem X6y{t n:Nat}(h:AggT P t n)(w:World) : (isAgg t).run P w=.ok true w:=by
 obtain ⟨⟨d,h1,h2⟩,_⟩:=h
 cases d<;>simp_all [isAgg,underlying]
theorem X4z(p:Addr) : ∀ (l:List Value) (i:Nat) (acc:Array Value),(∀ j v,l[j]? = some v->w.cell? (p.add (i+j))=some v)->
  (loadCellsFrom p i l.length acc).run P w=.ok (acc++l.toArray) w
 | [],i,acc,_=>by simp [loadCellsFrom]
 | v::l,i,acc,h=>by
  have h0:=h 0 v O
  simp only [Nat.add_zero] at h0
  have ih:=X4z p l (i+1) (acc.push v) (fun j u hj=>by
   have:=h (j+1) u (by simpa using hj)
   rwa [show i+(j+1)=i+1+j from by omega] at this)
  simp [loadCellsFrom,load,Sem.run,h0,ih]
theorem X5r{t:TypeId}{p:Addr}{v:Value}{l:List Value}(h:OneT P t)(hc:At w p (v::l)) : (loadVar t p).run P w=.ok v w:=by
 have h0:=hc 0 v O
 have h1:p.add 0=p:=by simp [Addr.add]
 rw [h1] at h0
 simp [loadVar,X51 h,load,Sem.run,h0]
theorem X5q{t n:Nat}{p:Addr}{l:List Value}(h:AggT P t n)(hc:At w p l)(hn:l.length=n) : (loadVar t p).run P w=.ok (.agg l.toArray) w:=by
 subst hn
 have h1:=X4z (P:=P) (w:=w) p l 0 #[] (fun j v hj=>by rw [Nat.zero_add];exact hc j v hj)
 simp [loadVar,X6y h,run_sizeOf' h.2,loadCells,h1]
end
section
variable {P : Program} {a : Act} {w : World} {n : Nat} {e : Env} {ty : TypeId} {pos : String} {af : Array Edge} {g : Option (Nat × Bool)} {d : Option Tmp}
theorem Xp7{x:Operand}{v:Value}(hf:Fr a n e)(hx:ev e x=some v) : Ev P ⟨d,.move x,ty,pos,af,g⟩ a w v:=fun w' _=>by
 simp [execOp,hf.ev hx]
theorem X3{x:Operand}{v:Value}(hx:ev e x=some v) : EvW P ⟨d,.move x,ty,pos,af,g⟩ n e w v:=fun a hf=>Xp7 hf hx
theorem Xit{x:Operand}{v:Value}(hf:Fr a n e)(hx:ev e x=some v) : Ev P ⟨d,.assign x,ty,pos,af,g⟩ a w v:=fun w' _=>by
 simp [execOp,hf.ev hx]
theorem X19{x:Operand}{v:Value}(hx:ev e x=some v) : EvW P ⟨d,.assign x,ty,pos,af,g⟩ n e w v:=fun a hf=>Xit hf hx
theorem Xgs{c x y:Operand}{b:Bool}{v:Value}(hf:Fr a n e)(hc:ev e c=some (.bool b))(hx:ev e (if b then x else y)=some v) : Ev P ⟨d,.pick c x y,ty,pos,af,g⟩ a w v:=fun w' _=>by
 have h1:=hf.ev hc;have h2:=hf.ev hx
 cases b<;>simp_all [execOp,asBool]
theorem Xkp{c x y:Operand}{b:Bool}{v:Value}(hf:Fr a n e)(hc:ev e c=some (.bool b))(hb:b=true)(hx:ev e x=some v) : Ev P ⟨d,.pick c x y,ty,pos,af,g⟩ a w v:=by
 subst hb
 exact Xgs hf hc hx
theorem Xa{c x y:Operand}{b:Bool}{v:Value}(hc:ev e c=some (.bool b))(hb:b=true)(hx:ev e x=some v) : EvW P ⟨d,.pick c x y,ty,pos,af,g⟩ n e w v:=fun a hf=>Xkp hf hc hb hx
theorem Xko{c x y:Operand}{b:Bool}{v:Value}(hf:Fr a n e)(hc:ev e c=some (.bool b))(hb:b=false)(hx:ev e y=some v) : Ev P ⟨d,.pick c x y,ty,pos,af,g⟩ a w v:=by
 subst hb
 exact Xgs hf hc hx
theorem Xh{c x y:Operand}{b:Bool}{v:Value}(hc:ev e c=some (.bool b))(hb:b=false)(hx:ev e y=some v) : EvW P ⟨d,.pick c x y,ty,pos,af,g⟩ n e w v:=fun a hf=>Xko hf hc hb hx
theorem Xdy{t:TypeId}{x:Operand}{p:Addr}{v:Value}{l:List Value}(hf:Fr a n e)(hx:ev e x=some (.pointer (some p)))(h1:OneT P t)(hc:At w p (v::l)) : Ev P ⟨d,.load t x,ty,pos,af,g⟩ a w v:=fun w' hw=>by
 simp [execOp,hf.ev hx,Instr.loadAt,Instr.sureAddr,X5r h1 (hc.bw hw)]
theorem X0{t:TypeId}{x:Operand}{p:Addr}{v:Value}{l:List Value}(hx:ev e x=some (.pointer (some p)))(h1:OneT P t)(hc:At w p (v::l)) : EvW P ⟨d,.load t x,ty,pos,af,g⟩ n e w v:=fun a hf=>Xdy hf hx h1 hc
theorem Xkn{t k:Nat}{x:Operand}{p:Addr}{l:List Value}(hf:Fr a n e)(hx:ev e x=some (.pointer (some p)))(hA:AggT P t k)(hc:At w p l)(hl:l.length=k) : Ev P ⟨d,.load t x,ty,pos,af,g⟩ a w (.agg l.toArray):=fun w' hw=>by
 simp [execOp,hf.ev hx,Instr.loadAt,Instr.sureAddr,X5q hA (hc.bw hw) hl]
theorem X09{t k:Nat}{x:Operand}{p:Addr}{l:List Value}(hx:ev e x=some (.pointer (some p)))(hA:AggT P t k)(hc:At w p l)(hl:l.length=k) : EvW P ⟨d,.load t x,ty,pos,af,g⟩ n e w (.agg l.toArray):=fun a hf=>Xkn hf hx hA hc hl
theorem Xdu{T f k:Nat}{x:Operand}{p:Addr}(hf:Fr a n e)(hx:ev e x=some (.pointer (some p)))(hF:FieldT P T f k) : Ev P ⟨d,.fieldAddr T x f,ty,pos,af,g⟩ a w (.pointer (some (p.add k))):=fun w' _=>by
 obtain ⟨fs,F,i,h1,h2,h3,h4,h5⟩:=hF;have h6:=run_sizeOf' ⟨i,h4,O⟩ w'
 simp [execOp,hf.ev hx,Instr.fieldAt,X0m h1,h2,Instr.sureAddr,fieldPlace,h6,h3]
 simp at h5
 simp [h5]
theorem Xiv{T f k:Nat}{x:Operand}{b off m:Nat}(hf:Fr a n e)(hx:ev e x=some (.pointer (some ⟨b,off,none⟩)))(hF:FieldT P T f k)(hk:off+k=m) : Ev P ⟨d,.fieldAddr T x f,ty,pos,af,g⟩ a w (.pointer (some ⟨b,m,none⟩)):=by
 have:=Xdu (P:=P) (w:=w) (d:=d) (ty:=ty) (pos:=pos) (af:=af) (g:=g) hf hx hF
 rwa [X24,hk] at this
theorem Xoc{T f k:Nat}{x:Operand}{b off m:Nat}(hx:ev e x=some (.pointer (some ⟨b,off,none⟩)))(hF:FieldT P T f k)(hk:off+k=m) : EvW P ⟨d,.fieldAddr T x f,ty,pos,af,g⟩ n e w (.pointer (some ⟨b,m,none⟩)):=fun a hf=>Xiv hf hx hF hk
theorem Xf6{x:Operand}{k:Nat}{vs:List Value}{v:Value}(hf:Fr a n e)(hx:ev e x=some (.tuple vs.toArray))(hv:vs[k]? = some v) : Ev P ⟨d,.extract x k,ty,pos,af,g⟩ a w v:=fun w' _=>by
 simp [execOp,hf.ev hx,Instr.extract,hv]
theorem Xj{x:Operand}{k:Nat}{vs:List Value}{v:Value}(hx:ev e x=some (.tuple vs.toArray))(hv:vs[k]? = some v) : EvW P ⟨d,.extract x k,ty,pos,af,g⟩ n e w v:=fun a hf=>Xf6 hf hx hv
theorem Xve{t:TypeId}{x:Operand}{b:Bool}(hf:Fr a n e)(hx:ev e x=some (.bool b)) : Ev P ⟨d,.unOp .not t x,ty,pos,af,g⟩ a w (.bool (!b)):=fun w' _=>by
 simp [execOp,hf.ev hx,Op.unary]
theorem X1w{t:TypeId}{x:Operand}{b:Bool}(hx:ev e x=some (.bool b)) : EvW P ⟨d,.unOp .not t x,ty,pos,af,g⟩ n e w (.bool (!b)):=fun a hf=>Xve hf hx
theorem Xvb{t:TypeId}{x:Operand}{i:Int}(hf:Fr a n e)(hx:ev e x=some (.int .i64 i)) : Ev P ⟨d,.unOp .neg t x,ty,pos,af,g⟩ a w (.int .i64 (IntKind.i64.wrap (-i))):=fun w' _=>by
 simp [execOp,hf.ev hx,Op.unary,Op.intArith]
theorem Xbi{t:TypeId}{x:Operand}{i:Int}(hx:ev e x=some (.int .i64 i)) : EvW P ⟨d,.unOp .neg t x,ty,pos,af,g⟩ n e w (.int .i64 (IntKind.i64.wrap (-i))):=fun a hf=>Xvb hf hx
section
variable {t t' : TypeId} {x y : Operand} {i j : Int}
theorem Xkg(hf:Fr a n e)(hx:ev e x=some (.int .i64 i))(hy:ev e y=some (.int .i64 j)) : Ev P ⟨d,.binOp .add t x y t',ty,pos,af,g⟩ a w (.int .i64 (IntKind.i64.wrap (i+j))):=fun w' _=>by
 simp [execOp,hf.ev hx,hf.ev hy,eqGuard,binOp,Op.intArith]
theorem X3s(hx:ev e x=some (.int .i64 i))(hy:ev e y=some (.int .i64 j)) : EvW P ⟨d,.binOp .add t x y t',ty,pos,af,g⟩ n e w (.int .i64 (IntKind.i64.wrap (i+j))):=fun a hf=>Xkg hf hx hy
theorem Xp0(hf:Fr a n e)(hx:ev e x=some (.int .i64 i))(hy:ev e y=some (.int .i64 j))(h1:-9223372036854775808<=i+j)(h2:i+j<=9223372036854775807) : Ev P ⟨d,.binOp .add t x y t',ty,pos,af,g⟩ a w (.int .i64 (i+j)):=by
 have h:=Xkg (P:=P) (w:=w) (d:=d) (ty:=ty) (pos:=pos) (af:=af) (g:=g) (t:=t) (t':=t') hf hx hy
 rwa [IntWalk.i64_in _ ⟨h1,h2⟩] at h
theorem Xr(hx:ev e x=some (.int .i64 i))(hy:ev e y=some (.int .i64 j))(h1:-9223372036854775808<=i+j)(h2:i+j<=9223372036854775807) : EvW P ⟨d,.binOp .add t x y t',ty,pos,af,g⟩ n e w (.int .i64 (i+j)):=fun a hf=>Xp0 hf hx hy h1 h2
theorem Xpf(hf:Fr a n e)(hx:ev e x=some (.int .i64 i))(hy:ev e y=some (.int .i64 j))(h1:-9223372036854775808<=i-j)(h2:i-j<=9223372036854775807) : Ev P ⟨d,.binOp .sub t x y t',ty,pos,af,g⟩ a w (.int .i64 (i-j)):=by
 have h:Ev P ⟨d,.binOp .sub t x y t',ty,pos,af,g⟩ a w (.int .i64 (IntKind.i64.wrap (i-j))):=fun w' _=>by
  simp [execOp,hf.ev hx,hf.ev hy,eqGuard,binOp,Op.intArith]
 rwa [IntWalk.i64_in _ ⟨h1,h2⟩] at h
theorem X1c(hx:ev e x=some (.int .i64 i))(hy:ev e y=some (.int .i64 j))(h1:-9223372036854775808<=i-j)(h2:i-j<=9223372036854775807) : EvW P ⟨d,.binOp .sub t x y t',ty,pos,af,g⟩ n e w (.int .i64 (i-j)):=fun a hf=>Xpf hf hx hy h1 h2
theorem Xvi(hf:Fr a n e)(hx:ev e x=some (.int .i64 i))(hy:ev e y=some (.int .i64 j)) : Ev P ⟨d,.binOp .sub t x y t',ty,pos,af,g⟩ a w (.int .i64 (IntKind.i64.wrap (i-j))):=fun w' _=>by
 simp [execOp,hf.ev hx,hf.ev hy,eqGuard,binOp,Op.intArith]
theorem X5u(hx:ev e x=some (.int .i64 i))(hy:ev e y=some (.int .i64 j)) : EvW P ⟨d,.binOp .sub t x y t',ty,pos,af,g⟩ n e w (.int .i64 (IntKind.i64.wrap (i-j))):=fun a hf=>Xvi hf hx hy
theorem Xva(hf:Fr a n e)(hx:ev e x=some (.int .i64 i))(hy:ev e y=some (.int .i64 j)) : Ev P ⟨d,.binOp .mul t x y t',ty,pos,af,g⟩ a w (.int .i64 (IntKind.i64.wrap (i*j))):=fun w' _=>by
 simp [execOp,hf.ev hx,hf.ev hy,eqGuard,binOp,Op.intArith]
theorem X5s(hx:ev e x=some (.int .i64 i))(hy:ev e y=some (.int .i64 j)) : EvW P ⟨d,.binOp .mul t x y t',ty,pos,af,g⟩ n e w (.int .i64 (IntKind.i64.wrap (i*j))):=fun a hf=>Xva hf hx hy
theorem Xv7(hf:Fr a n e)(hx:ev e x=some (.int .i64 i))(hy:ev e y=some (.int .i64 j)) : Ev P ⟨d,.binOp .lss t x y t',ty,pos,af,g⟩ a w (.bool (decide (i<j))):=fun w' _=>by
 simp [execOp,hf.ev hx,hf.ev hy,eqGuard,binOp,Op.intCmp]
theorem X1a(hx:ev e x=some (.int .i64 i))(hy:ev e y=some (.int .i64 j)) : EvW P ⟨d,.binOp .lss t x y t',ty,pos,af,g⟩ n e w (.bool (decide (i<j))):=fun a hf=>Xv7 hf hx hy
theorem Xv6(hf:Fr a n e)(hx:ev e x=some (.int .i64 i))(hy:ev e y=some (.int .i64 j)) : Ev P ⟨d,.binOp .leq t x y t',ty,pos,af,g⟩ a w (.bool (decide (i<=j))):=fun w' _=>by
 simp [execOp,hf.ev hx,hf.ev hy,eqGuard,binOp,Op.intCmp]
theorem Xdc(hx:ev e x=some (.int .i64 i))(hy:ev e y=some (.int .i64 j)) : EvW P ⟨d,.binOp .leq t x y t',ty,pos,af,g⟩ n e w (.bool (decide (i<=j))):=fun a hf=>Xv6 hf hx hy
theorem Xv4(hf:Fr a n e)(hx:ev e x=some (.int .i64 i))(hy:ev e y=some (.int .i64 j)) : Ev P ⟨d,.binOp .gtr t x y t',ty,pos,af,g⟩ a w (.bool (decide (j<i))):=fun w' _=>by
 simp [execOp,hf.ev hx,hf.ev hy,eqGuard,binOp,Op.intCmp]
theorem X4e(hx:ev e x=some (.int .i64 i))(hy:ev e y=some (.int .i64 j)) : EvW P ⟨d,.binOp .gtr t x y t',ty,pos,af,g⟩ n e w (.bool (decide (j<i))):=fun a hf=>Xv4 hf hx hy
theorem Xv3(hf:Fr a n e)(hx:ev e x=some (.int .i64 i))(hy:ev e y=some (.int .i64 j)) : Ev P ⟨d,.binOp .geq t x y t',ty,pos,af,g⟩ a w (.bool (decide (j<=i))):=fun w' _=>by
 simp [execOp,hf.ev hx,hf.ev hy,eqGuard,binOp,Op.intCmp]
theorem X8s(hx:ev e x=some (.int .i64 i))(hy:ev e y=some (.int .i64 j)) : EvW P ⟨d,.binOp .geq t x y t',ty,pos,af,g⟩ n e w (.bool (decide (j<=i))):=fun a hf=>Xv3 hf hx hy
theorem Xv2(hf:Fr a n e)(hx:ev e x=some (.int .i64 i))(hy:ev e y=some (.int .i64 j)) : Ev P ⟨d,.binOp .eql t x y t',ty,pos,af,g⟩ a w (.bool (i==j)):=fun w' _=>by
 simp [execOp,hf.ev hx,hf.ev hy,eqGuard,binOp,Op.intCmp]
theorem X0f(hx:ev e x=some (.int .i64 i))(hy:ev e y=some (.int .i64 j)) : EvW P ⟨d,.binOp .eql t x y t',ty,pos,af,g⟩ n e w (.bool (i==j)):=fun a hf=>Xv2 hf hx hy
theorem Xvc(hf:Fr a n e)(hx:ev e x=some (.int .i64 i))(hy:ev e y=some (.int .i64 j)) : Ev P ⟨d,.binOp .neq t x y t',ty,pos,af,g⟩ a w (.bool (i != j)):=fun w' _=>by
 simp [execOp,hf.ev hx,hf.ev hy,eqGuard,binOp,Op.intCmp]
theorem X3t(hx:ev e x=some (.int .i64 i))(hy:ev e y=some (.int .i64 j)) : EvW P ⟨d,.binOp .neq t x y t',ty,pos,af,g⟩ n e w (.bool (i != j)):=fun a hf=>Xvc hf hx hy
theorem Xv1(hf:Fr a n e)(hx:ev e x=some (.int .i64 i))(hy:ev e y=some (.int .i64 j)) : Ev P ⟨d,.binOp .and t x y t',ty,pos,af,g⟩ a w (.int .i64 (bits .and .i64 i j)):=fun w' _=>by
 simp [execOp,hf.ev hx,hf.ev hy,eqGuard,binOp,Op.intBits,bits]
theorem Xjq(hx:ev e x=some (.int .i64 i))(hy:ev e y=some (.int .i64 j)) : EvW P ⟨d,.binOp .and t x y t',ty,pos,af,g⟩ n e w (.int .i64 (bits .and .i64 i j)):=fun a hf=>Xv1 hf hx hy
theorem Xvn(hf:Fr a n e)(hx:ev e x=some (.int .i64 i))(hy:ev e y=some (.int .i64 j)) : Ev P ⟨d,.binOp .xor t x y t',ty,pos,af,g⟩ a w (.int .i64 (bits .xor .i64 i j)):=fun w' _=>by
 simp [execOp,hf.ev hx,hf.ev hy,eqGuard,binOp,Op.intBits,bits]
theorem Xog(hx:ev e x=some (.int .i64 i))(hy:ev e y=some (.int .i64 j)) : EvW P ⟨d,.binOp .xor t x y t',ty,pos,af,g⟩ n e w (.int .i64 (bits .xor .i64 i j)):=fun a hf=>Xvn hf hx hy
theorem X58{b c:Bool}(ht:P.underlying t=some .bool)(k:Nat)(w:World) : (Op.equalIn (k+1) t (.bool b) (.bool c)).run P w=.ok (b==c) w:=by
 simp [Op.equalIn,X0m ht]
theorem Xp2{b c:Bool}(ht:P.underlying t=some .bool)(hf:Fr a n e)(hx:ev e x=some (.bool b))(hy:ev e y=some (.bool c)) : Ev P ⟨d,.binOp .neq t x y t',ty,pos,af,g⟩ a w (.bool (b != c)):=fun w' _=>by
 have h:=X58 (P:=P) (b:=b) (c:=c) ht 9999 w'
 simp [execOp,hf.ev hx,hf.ev hy,eqGuard,binOp,Op.equal,Op.maxDepth,h]
 cases b<;>cases c<;>rfl
theorem Xsr{b c:Bool}(ht:P.underlying t=some .bool)(hx:ev e x=some (.bool b))(hy:ev e y=some (.bool c)) : EvW P ⟨d,.binOp .neq t x y t',ty,pos,af,g⟩ n e w (.bool (b != c)):=fun a hf=>Xp2 ht hf hx hy
theorem Xv5{x:Operand}{T E:TypeId}{A:Option Addr}{m c:Nat}(hf:Fr a n e)(hx:ev e x=some (.slice A m c))(hT:SliceT P T E) : Ev P ⟨d,.call ⟨.builtin .len,#[x],#[T]⟩,ty,pos,af,g⟩ a w (.int .i64 (m:Int)):=fun w' _=>by
 have:=X0m (P:=P) hT w'
 simp [execOp,resolve,invoke,builtin,Builtin.len_,hf.ev hx,this,goInt]
theorem X11{x:Operand}{T E:TypeId}{A:Option Addr}{m c:Nat}(hx:ev e x=some (.slice A m c))(hT:SliceT P T E) : EvW P ⟨d,.call ⟨.builtin .len,#[x],#[T]⟩,ty,pos,af,g⟩ n e w (.int .i64 (m:Int)):=fun a hf=>Xv5 hf hx hT
theorem Xdz{k:FuncId}{cs:List Operand}{vs:List Value}(hf:Fr a n e)(hx:evs e cs=some vs) : Ev P ⟨d,.makeFunc (.func k) #[] cs.toArray,ty,pos,af,g⟩ a w (.func (.func k) #[] vs.toArray):=fun w' _=>by
 simp [execOp,Instr.makeFunc,hf.evs hx]
theorem X6a{k:FuncId}{cs:List Operand}{vs:List Value}(hx:evs e cs=some vs) : EvW P ⟨d,.makeFunc (.func k) #[] cs.toArray,ty,pos,af,g⟩ n e w (.func (.func k) #[] vs.toArray):=fun a hf=>Xdz hf hx
end
end
section
variable {P : Program} {a : Act} {w : World} {n : Nat} {e : Env} {ty : TypeId} {pos : String} {af : Array Edge} {g : Option (Nat × Bool)} {d : Option Tmp}
def IsNew(w:World)(T:TypeId)(zs:List Value)(v:Value)(w':World) : Prop:=
 ∃ b,v=.pointer (some ⟨b,0,none⟩)/\w.heap.size<=b/\Below w.heap.size w w'/\Blk w' b T zs
theorem X42(w:World)(T:TypeId)(zs:List Value) : Blk (w.alloc (.cells zs.toArray T)) w.heap.size T zs:=heap_alloc_new w _
theorem X8m(w:World)(T:TypeId)(zs:List Value) : IsNew w T zs (.pointer (some ⟨w.heap.size,0,none⟩)) (w.alloc (.cells zs.toArray T)):=
 ⟨_,rfl,Qb _,(Below.refl _ _).alloc (Qb _) _,X42 w T zs⟩
theorem X78(T:TypeId)(v:Value)(w:World) : (newVar T v).run P w=.ok ⟨w.heap.size,0,none⟩ (w.alloc (.cells v.cells T)):=by
 simp [newVar,newRow,newObj,Sem.run]
theorem Xkb{T:TypeId}{z:Value}{zs:List Value}(hz:ZeroT P T z)(hzs:z.cells.toList=zs) : Ef P ⟨d,.alloc T,ty,pos,af,g⟩ a w (IsNew w T zs):=by
 subst hzs
 have h:(execOp a.eval ⟨d,.alloc T,ty,pos,af,g⟩).run P w=.ok (.value (.pointer (some ⟨w.heap.size,0,none⟩))) (w.alloc (.cells z.cells T)):=by
  simp [execOp,Instr.alloc,Xai hz,X78]
 refine (Ef.of_run h).mono fun v w' ⟨e1,e2⟩=>?_
 subst e1;subst e2
 have:=X8m w T z.cells.toList
 simpa using this
theorem X03{n:Nat}{e:List (Nat×Value)}{T:TypeId}{z:Value}{zs:List Value}(hz:ZeroT P T z)(hzs:z.cells.toList=zs) : EfW P ⟨d,.alloc T,ty,pos,af,g⟩ n e w (IsNew w T zs):=fun a _=>Xkb hz hzs
theorem Xv0{T:TypeId}{x:Operand}{v:Value}{zs:List Value}(hf:Fr a n e)(hx:ev e x=some v)(hzs:v.cells.toList=zs) : Ef P ⟨d,.box T x,ty,pos,af,g⟩ a w (IsNew w T zs):=by
 subst hzs
 have h:(execOp a.eval ⟨d,.box T x,ty,pos,af,g⟩).run P w=.ok (.value (.pointer (some ⟨w.heap.size,0,none⟩))) (w.alloc (.cells v.cells T)):=by
  simp [execOp,Instr.box,X78,hf.ev hx]
 refine (Ef.of_run h).mono fun v' w' ⟨e1,e2⟩=>?_
 subst e1;subst e2
 have:=X8m w T v.cells.toList
 simpa using this
theorem X0u{T:TypeId}{x:Operand}{v:Value}{zs:List Value}(hx:ev e x=some v)(hzs:v.cells.toList=zs) : EfW P ⟨d,.box T x,ty,pos,af,g⟩ n e w (IsNew w T zs):=fun a hf=>Xv0 hf hx hzs
def splice(l:List Value)(k:Nat)(vs:List Value) : List Value:=l.take k++vs++l.drop (k+vs.length)
def one:Value->Bool
 | .agg _=>false
 | .tuple _=>false
 | _=>true
theorem Xcq(w:World)(b k:Nat)(v:Value) : Only b w (w.setCell ⟨b,k,none⟩ v):=
 ⟨rfl,rfl,rfl,by simp [World.setCell],fun i hi=>Below.heap_setCell _ _ _ _ hi⟩
theorem Xdj{T:TypeId}{l:List Value}{b:Nat}(h:Blk w b T l)(k:Nat)(v:Value) : Blk (w.setCell ⟨b,k,none⟩ v) b T (l.set k v):=by
 unfold Blk at h ⊢
 simp [World.setCell,Array.getElem?_modify,h]
theorem X4r{b off:Nat}{T:TypeId} : ∀ (vs:List Value) (w:World) (l:List Value) (i:Nat),Blk w b T l->off+i+vs.length<=l.length->vs.all one=true->
  ∃ w',(storeCells ⟨b,off,none⟩ vs i).run P w=.ok () w'/\Only b w w'/\Blk w' b T (splice l (off+i) vs)
 | [],w,l,i,hb,_,_=>⟨w,by simp [storeCells],Only.refl _ _,by simpa [splice] using hb⟩
 | v::vs,w,l,i,hb,hl,h1=>by
  simp only [List.all_cons,Qd,Qs] at h1 hl
  have hc:w.cell? ⟨b,off+i,none⟩=some (l[off+i]'Z):=by rw [hb.cell];exact Qc Z
  have hfz:w.frozen? ⟨b,off+i,none⟩=false:=by
   have:=hb
   unfold Blk at this
   simp [World.frozen?,this]
  obtain ⟨w',hr,ho,hb'⟩:=X4r (off:=off) vs (w.setCell ⟨b,off+i,none⟩ v) (l.set (off+i) v) (i+1) (Xdj hb _ _) O9 h1.2
  refine ⟨w',?_,(Xcq w b _ v).trans ho,?_⟩
  ·have h0:(store (⟨b,off+i,none⟩ : Addr) v).run P w=.ok () (w.setCell ⟨b,off+i,none⟩ v):=by
    have h2:=h1.1
    unfold one at h2
    split at h2
    ·cases h2
    ·cases h2
    ·rename_i hx1 hx2
     cases v<;>simp_all [store,Sem.run]
   simp only [storeCells,X24]
   simp [h0,hr]
  ·have:splice (l.set (off+i) v) (off+(i+1)) vs=splice l (off+i) (v::vs):=by
    unfold splice
    have e1:off+(i+1)=off+i+1:=by omega
    rw [e1,Wf O9,List.take_set_of_le Z,List.getElem_set_self,List.drop_set_of_lt Z]
    simp only [Qs,Qx,Wa,List.nil_append]
    rw [show off+i+1+vs.length=off+i+(vs.length+1) from by omega]
   rw [this] at hb'
   exact hb'
def Stored(w:World)(b:Nat)(T:TypeId)(l:List Value)(_:Value)(w':World) : Prop:=Only b w w'/\Blk w' b T l
theorem X9r{t T:TypeId}{x y:Operand}{b off k:Nat}{v:Value}{l l' vs:List Value}(hf:Fr a n e)(hx:ev e x=some (.pointer (some ⟨b,off,none⟩)))(hy:ev e y=some v)
  (hs:SizeT P t k) (hb:Blk w b T l) (hvs:v.cells.toList=vs) (hk:Nat.beq vs.length k=true) (h1:vs.all one=true) (hl:Nat.ble (off+k) l.length=true) (hl':splice l off vs=l') :
  Ef P ⟨d,.store t x y,ty,pos,af,g⟩ a w (Stored w b T l'):=by
 subst hl'
 have hk':vs.length=k:=Nat.eq_of_beq_eq_true hk
 have hll:off+k<=l.length:=Nat.le_of_ble_eq_true hl
 obtain ⟨w',hr,ho,hb'⟩:=X4r (P:=P) (b:=b) (off:=off) (T:=T) vs w l 0 hb Z h1
 refine (Ef.of_skip (w':=w') ?_).mono fun v w1 ⟨_,e2⟩=>by subst e2;exact ⟨ho,by simpa using hb'⟩
 have hc:v.cells.size=k:=by rw [<- hk',<- hvs];simp
 simp [execOp,Instr.storeAt,Instr.sureAddr,hf.ev hx,hf.ev hy,storeVar,run_sizeOf' hs,hc,hvs,hr]
theorem X1m{t T:TypeId}{x y:Operand}{b off k:Nat}{v:Value}{l l' vs:List Value}(hx:ev e x=some (.pointer (some ⟨b,off,none⟩)))(hy:ev e y=some v)(hs:SizeT P t k)(hb:Blk w b T l)(hvs:v.cells.toList=vs)(hk:Nat.beq vs.length k=true)(h1:vs.all one=true)(hl:Nat.ble (off+k) l.length=true)(hl':splice l off vs=l') : EfW P ⟨d,.store t x y,ty,pos,af,g⟩ n e w (Stored w b T l'):=fun a hf=>X9r hf hx hy hs hb hvs hk h1 hl hl'
def Ret(P:Program)(f:FuncId)(args:List Value)(w:World)(R:Value->World->Prop) : Prop:=Calls P f args.toArray w fun e w'=>∃ v,e=.returned v/\R v w'
theorem Ret.mono{f:FuncId}{args:List Value}{R R':Value->World->Prop}(h:Ret P f args w R)(hr:∀ v w',R v w'->R' v w') : Ret P f args w R':=
 Calls.mono h fun _ _ ⟨v,he,hR⟩=>⟨v,he,hr _ _ hR⟩
theorem X84{f:FuncId}(hF:FuncF P f)(args:Array Value)(w:World) : (callFunc f args).run P w=.ok (.enter f args) w:=by
 obtain ⟨fn,h1,h2,h3⟩:=hF
 have h2' : ¬ fn.name = "runtime.NumGoroutine" := by simpa using h2
 have h3':¬ fn.body=none:=by intro hb;rw [hb] at h3;cases h3
 simp [callFunc,h1,h2',h3']
theorem Xow{f:FuncId}{xs:List Operand}{vs:List Value}{ts:Array TypeId}{R:Value->World->Prop}(hf:Fr a n e)(hx:evs e xs=some vs)(hF:FuncF P f)(h:Ret P f vs w R) :
  Ef P ⟨d,.call ⟨.value (.func f),xs.toArray,ts⟩,ty,pos,af,g⟩ a w R:=by
 have hm:=hf.evs hx
 unfold Ef
 have hr:(execOp a.eval ⟨d,.call ⟨.value (.func f),xs.toArray,ts⟩,ty,pos,af,g⟩).run P w=.ok (.enter f vs.toArray) w:=by
  simp [execOp,resolve,Act.eval,Deferred.ofValue,invoke,hm,X84 hF]
 rw [hr]
 exact h
theorem X2b{f:FuncId}{xs:List Operand}{vs:List Value}{ts:Array TypeId}{R:Value->World->Prop}(hx:evs e xs=some vs)(hF:FuncF P f)(h:Ret P f vs w R) : EfW P ⟨d,.call ⟨.value (.func f),xs.toArray,ts⟩,ty,pos,af,g⟩ n e w R:=fun a hf=>Xow hf hx hF h
theorem Xkc{f:FuncId}{x:Operand}{xs:List Operand}{vs cs:List Value}{ts:Array TypeId}{R:Value->World->Prop}(hf:Fr a n e)(hv:ev e x=some (.func (.func f) #[] cs.toArray))(hx:evs e xs=some vs)(hF:FuncF P f)(h:Ret P f (vs++cs) w R) :
  Ef P ⟨d,.call ⟨.value x,xs.toArray,ts⟩,ty,pos,af,g⟩ a w R:=by
 have hm:=hf.evs hx
 have hv':=hf.ev hv
 unfold Ef
 have hr:(execOp a.eval ⟨d,.call ⟨.value x,xs.toArray,ts⟩,ty,pos,af,g⟩).run P w=.ok (.enter f (vs++cs).toArray) w:=by
  simp [execOp,resolve,hv',Deferred.ofValue,invoke,hm,X84 hF]
 rw [hr]
 exact h
theorem Xbg{f:FuncId}{x:Operand}{xs:List Operand}{vs cs:List Value}{ts:Array TypeId}{R:Value->World->Prop}(hv:ev e x=some (.func (.func f) #[] cs.toArray))(hx:evs e xs=some vs)(hF:FuncF P f)(h:Ret P f (vs++cs) w R) : EfW P ⟨d,.call ⟨.value x,xs.toArray,ts⟩,ty,pos,af,g⟩ n e w R:=fun a hf=>Xkc hf hv hx hF h
end
section
variable {α : Type}
def Rd(w:World)(B:Nat)(E:TypeId)(enc:α->List Value)(A:Option Addr)(l:List α) : Prop:=
 l≠[]->∃ b off cs fz,A=some ⟨b,off,none⟩/\b<B/\w.heap[b]? = some (.cells cs E fz)/\∀ j v,(l.flatMap enc)[j]? = some v->cs[off+j]? = some v
theorem Rd.nil(w:World)(B:Nat)(E:TypeId)(enc:α->List Value)(A:Option Addr) : Rd w B E enc A []:=fun h=>absurd rfl h
theorem Rd.chg{w w':World}{B:Nat}{E:TypeId}{enc:α->List Value}{A:Option Addr}{l:List α}(h:Rd w B E enc A l)(hk:∀ b cs fz,b<B->w.heap[b]? = some (.cells cs E fz)->w'.heap[b]? = w.heap[b]?) : Rd w' B E enc A l:=by grind [Rd]
theorem Rd.more{w:World}{B B':Nat}{E:TypeId}{enc:α->List Value}{A:Option Addr}{l:List α}(h:Rd w B E enc A l)(hB:B<=B') : Rd w B' E enc A l:=by grind [Rd]
theorem Rd.bw{w w':World}{B:Nat}{E:TypeId}{enc:α->List Value}{A:Option Addr}{l:List α}(h:Rd w B E enc A l)(hb:Below w.heap.size w w') : Rd w' B E enc A l:=
 h.chg fun b _ _ _ hh=>hb.block b (by
  rcases W4 b w.heap.size with h'|h'
  ·exact h'
  ·rw [We h'] at hh;cases hh)
theorem Rd.bx{w w':World}{B:Nat}{E:TypeId}{enc:α->List Value}{A:Option Addr}{l:List α}(h:Rd w B E enc A l)(hb:Below B w w') : Rd w' B E enc A l:=
 h.chg fun b _ _ hB _=>hb.block b hB
theorem Rd.oy{w w':World}{B b:Nat}{E:TypeId}{enc:α->List Value}{A:Option Addr}{l:List α}(h:Rd w B E enc A l)(ho:Only b w w')(hB:B<=b) : Rd w' B E enc A l:=
 h.chg fun k _ _ hk _=>ho.block k Z
theorem Rd.oT{w w':World}{B b:Nat}{E T:TypeId}{lc:List Value}{enc:α->List Value}{A:Option Addr}{l:List α}(h:Rd w B E enc A l)(ho:Only b w w')(hb:Blk w b T lc)(hT:Nat.beq E T=false) : Rd w' B E enc A l:=
 h.chg fun k cs fz _ hh=>ho.block k (by
  rintro rfl
  unfold Blk at hb
  rw [hh] at hb
  injection hb with hb
  injection hb with _ e _
  subst e
  simp at hT)
theorem Rd.drew{w:World}{B:Nat}{E:TypeId}{enc:α->List Value}{A:Option Addr}{l:List α}(h:Rd w B E enc A l) : Rd w.drew B E enc A l:=h
theorem X5g{enc:α->List Value}{sz:Nat}(hsz:∀ x,(enc x).length=sz) : ∀ (l:List α) (k:Nat) (x:α),l[k]? = some x->∀ j v,(enc x)[j]? = some v->(l.flatMap enc)[k*sz+j]? = some v
 | [],k,x,h=>by simp at h
 | y::l,0,x,h=>by
  intro j v hj
  obtain rfl:y=x:=by simpa using h
  simp only [Wc,Nat.zero_mul,Nat.zero_add]
  rw [List.getElem?_append_left (Qg.1 hj).1]
  exact hj
 | y::l,k+1,x,h=>by
  intro j v hj
  simp only [Wc]
  have h1:(k+1)*sz+j=sz+(k*sz+j):=by rw [Wb];omega
  rw [h1,W5 (by rw [hsz];omega),hsz,Nat.add_sub_cancel_left]
  exact X5g hsz l k x (by simpa using h) j v hj
theorem Xq{enc:α->List Value}{sz:Nat}(hsz:∀ x,(enc x).length=sz)(l:List α) : (l.flatMap enc).length=l.length*sz:=by
 induction l with
 | nil=>simp
 | cons x l ih=>simp only [Wc,Qh,hsz,ih,Qs,Wb];omega
theorem Rd.at{w:World}{B:Nat}{E:TypeId}{enc:α->List Value}{A:Option Addr}{l:List α}{sz:Nat}(hsz:∀ x,(enc x).length=sz)(h:Rd w B E enc A l){k:Nat}{x:α}(hk:l[k]? = some x) :
  ∃ p,A=some p/\At w (p.add (k*sz)) (enc x):=by
 have hl:l≠[]:=by rintro rfl;simp at hk
 obtain ⟨b,off,cs,fz,rfl,h2,h3,h4⟩:=h hl
 refine ⟨_,O,fun j v hj=>?_⟩
 rw [X24,X24]
 have:=h4 _ _ (X5g hsz l k x hk j v hj)
 simp only [World.cell?,h3]
 rw [Nat.add_assoc]
 simpa using this
theorem Rd.of_blk{w:World}{b:Nat}{E:TypeId}{enc:α->List Value}{l:List α}{cs:List Value}(h:Blk w b E cs)(hcs:l.flatMap enc=cs)(B:Nat)(hB:b<B) : Rd w B E enc (some ⟨b,0,none⟩) l:=by grind [Blk,Rd]
def Own(w:World)(B0:Nat)(E:TypeId)(sz:Nat)(enc:α->List Value)(A:Option Addr)(c:Nat)(l:List α) : Prop:=w.ownsRow B0 E sz (.slice A l.length c) l.length (l.flatMap enc)
theorem Own.rd{w:World}{B0:Nat}{E:TypeId}{sz:Nat}{enc:α->List Value}{A:Option Addr}{c:Nat}{l:List α}(h:Own w B0 E sz enc A c l) : Rd w w.heap.size E enc A l:=fun hl=>by
 rcases h.2 with ⟨h1,h2⟩|⟨g,cap,cur,h1,h2,h3,h4,h5,h6,h7⟩
 ·exact absurd (List.eq_nil_of_length_eq_zero h2) hl
 ·injection h1 with h1
  refine ⟨g,0,cur,_,h1,(Qp.1 h3).1,h3,fun j v hj=>?_⟩
  rw [<- h7,List.getElem?_take] at hj
  split at hj
  ·simpa using hj
  ·cases hj
theorem Own.nil(w:World)(B0:Nat)(E:TypeId)(sz:Nat)(enc:α->List Value) : Own w B0 E sz enc none 0 []:=⟨by simp,.inl ⟨rfl,rfl⟩⟩
theorem Own.empty{w:World}{B0 b:Nat}{E:TypeId}{sz:Nat}{enc:α->List Value}(h:Blk w b E [])(hb:B0<=b) : Own w B0 E sz enc (some ⟨b,0,none⟩) 0 ([] : List α):=
 ⟨by simp,.inr ⟨b,0,#[],rfl,hb,h,Qb _,by simp [maxLen],by simp,by simp⟩⟩
theorem Own.of_blk{w:World}{B0 b:Nat}{E:TypeId}{sz:Nat}{enc:α->List Value}{l:List α}{cs:List Value}(h:Blk w b E cs)(hb:B0<=b)(hcs:l.flatMap enc=cs)(hsz:∀ x,(enc x).length=sz)(hm:l.length<=maxLen) : Own w B0 E sz enc (some ⟨b,0,none⟩) l.length l:=by
 subst hcs
 have hl:=Xq hsz l;exact ⟨hl,.inr ⟨b,l.length,_,O,hb,h,Qb _,hm,by simpa using hl,by simp only [List.toList_toArray];rw [<- hl];exact List.take_length⟩⟩
theorem Own.bw{w w':World}{B0:Nat}{E:TypeId}{sz:Nat}{enc:α->List Value}{A:Option Addr}{c:Nat}{l:List α}(h:Own w B0 E sz enc A c l)(hb:Below w.heap.size w w') : Own w' B0 E sz enc A c l:=by
 refine ⟨h.1,?_⟩
 rcases h.2 with h1|⟨g,cap,cur,h1,h2,h3,h4⟩
 ·exact .inl h1
 ·exact .inr ⟨g,cap,cur,h1,h2,(hb.block g (Qp.1 h3).1).trans h3,h4⟩
theorem Own.oT{w w':World}{B0 b:Nat}{E T:TypeId}{lc:List Value}{sz:Nat}{enc:α->List Value}{A:Option Addr}{c:Nat}{l:List α}(h:Own w B0 E sz enc A c l)(ho:Only b w w')(hb:Blk w b T lc)(hT:Nat.beq E T=false) : Own w' B0 E sz enc A c l:=by
 refine ⟨h.1,?_⟩
 rcases h.2 with h1|⟨g,cap,cur,h1,h2,h3,h4⟩
 ·exact .inl h1
 ·refine .inr ⟨g,cap,cur,h1,h2,(ho.block g ?_).trans h3,h4⟩
  rintro rfl
  unfold Blk at hb
  rw [h3] at hb
  injection hb with hb
  injection hb with _ e _
  subst e
  simp at hT
theorem Own.drew{w:World}{B0:Nat}{E:TypeId}{sz:Nat}{enc:α->List Value}{A:Option Addr}{c:Nat}{l:List α}(h:Own w B0 E sz enc A c l) : Own w.drew B0 E sz enc A c l:=h
theorem Own.block{w:World}{B0:Nat}{E:TypeId}{sz:Nat}{enc:α->List Value}{A:Option Addr}{c:Nat}{l:List α}(h:Own w B0 E sz enc A c l){k:Nat}(hk:(Value.slice A l.length c).ownBlock=some k) : B0<=k/\k<w.heap.size/\∃ cs fz,w.heap[k]? = some (.cells cs E fz):=by
 rcases h.2 with ⟨h1,_⟩|⟨g,cap,cur,h1,h2,h3,_⟩
 ·rw [h1] at hk;simp [Value.ownBlock] at hk
 ·rw [h1] at hk
  simp [Value.ownBlock] at hk
  subst hk
  exact ⟨h2,(Qp.1 h3).1,_,_,h3⟩
def Away(A:Option Addr)(b:Nat) : Prop:=∀ p,A=some p->p.block≠b
def AwayR(l:List α)(A:Option Addr)(b:Nat) : Prop:=l≠[]->Away A b
theorem Away.ne{g off b:Nat}(h:b≠g) : Away (some ⟨g,off,none⟩) b:=by grind [Away]
theorem Rd.away{w:World}{B b:Nat}{E:TypeId}{enc:α->List Value}{A:Option Addr}{l:List α}(h:Rd w B E enc A l)(hl:w.heap.size<=b) : AwayR l A b:=fun hne p hp=>by
 obtain ⟨g,off,cs,fz,h1,h2,h3,h4⟩:=h hne
 rw [hp] at h1
 injection h1 with h1
 subst h1
 have:=(Qp.1 h3).1
 intro e
 simp only at e
 omega
theorem Own.away{w:World}{B0 b:Nat}{E:TypeId}{sz:Nat}{enc:α->List Value}{A:Option Addr}{c:Nat}{l:List α}(h:Own w B0 E sz enc A c l)(hl:w.heap.size<=b) : Away A b:=fun p hp=>by
 rcases h.2 with ⟨h1,_⟩|⟨g,cap,cur,h1,h2,h3,_⟩
 ·injection h1 with h1;rw [h1] at hp;cases hp
 ·injection h1 with h1
  rw [h1] at hp
  injection hp with hp
  subst hp
  have:=(Qp.1 h3).1
  intro e
  simp only at e
  omega
theorem Own.awayNew{w:World}{B0 b:Nat}{E:TypeId}{sz:Nat}{enc:α->List Value}{A:Option Addr}{c:Nat}{l:List α}(h:Own w B0 E sz enc A c l)(hl:b<B0) : Away A b:=fun p hp=>by
 rcases h.2 with ⟨h1,_⟩|⟨g,cap,cur,h1,h2,h3,_⟩
 ·injection h1 with h1;rw [h1] at hp;cases hp
 ·injection h1 with h1
  rw [h1] at hp
  injection hp with hp
  subst hp
  intro e
  simp only at e
  omega
theorem Away.r{l:List α}{A:Option Addr}{b:Nat}(h:Away A b) : AwayR l A b:=fun _=>h
theorem Rd.onlyA{w w':World}{B b:Nat}{E:TypeId}{enc:α->List Value}{A:Option Addr}{l:List α}(h:Rd w B E enc A l)(ho:Only b w w')(ha:AwayR l A b) : Rd w' B E enc A l:=fun hne=>by
 obtain ⟨g,off,cs,fz,h1,h2,h3,h4⟩:=h hne;exact ⟨g,off,cs,fz,h1,h2,(ho.block g (ha hne _ h1)).trans h3,h4⟩
theorem Own.onlyA{w w':World}{B0 b:Nat}{E:TypeId}{sz:Nat}{enc:α->List Value}{A:Option Addr}{c:Nat}{l:List α}(h:Own w B0 E sz enc A c l)(ho:Only b w w')(ha:Away A b) : Own w' B0 E sz enc A c l:=by
 refine ⟨h.1,?_⟩
 rcases h.2 with h1|⟨g,cap,cur,h1,h2,h3,h4⟩
 ·exact .inl h1
 ·injection h1 with h1 h1' h1''
  exact .inr ⟨g,cap,cur,by rw [h1,h1''],h2,(ho.block g (ha _ h1)).trans h3,h4⟩
def Appended(w:World)(B0:Nat)(E:TypeId)(sz:Nat)(enc:α->List Value)(A:Option Addr)(c:Nat)(l l2:List α)(v:Value)(w':World) : Prop:=
 ∃ A' c',v=.slice A' (l++l2).length c'/\Own w' B0 E sz enc A' c' (l++l2)/\w.grownBy w' (Value.slice A l.length c).ownBlock/\∀ b,b<w.heap.size->Away A b->Away A' b
theorem Blk.appT{w w':World}{b:Nat}{T:TypeId}{lc:List Value}{B0:Nat}{E:TypeId}{sz:Nat}{enc:α->List Value}{A:Option Addr}{c:Nat}{l:List α}(h:Blk w b T lc)(ho:Own w B0 E sz enc A c l)(hg:w.grownBy w' (Value.slice A l.length c).ownBlock)(hT:Nat.beq E T=false) : Blk w' b T lc:=by
 refine (hg.block b h.lt fun hk=>?_).trans h
 obtain ⟨_,_,cs,fz,h3⟩:=ho.block hk.symm
 unfold Blk at h
 rw [h3] at h
 injection h with h
 injection h with _ e _
 subst e
 simp at hT
theorem Blk.appB{w w':World}{b:Nat}{T:TypeId}{lc:List Value}{B0:Nat}{E:TypeId}{sz:Nat}{enc:α->List Value}{A:Option Addr}{c:Nat}{l:List α}(h:Blk w b T lc)(ho:Own w B0 E sz enc A c l)(hg:w.grownBy w' (Value.slice A l.length c).ownBlock)(hb:b<B0) : Blk w' b T lc:=
 (hg.block b h.lt fun hk=>by have:=(ho.block hk.symm).1;omega).trans h
theorem Blk.appA{w w':World}{b:Nat}{T:TypeId}{lc:List Value}{A:Option Addr}{n c:Nat}(h:Blk w b T lc)(hg:w.grownBy w' (Value.slice A n c).ownBlock)(ha:Away A b) : Blk w' b T lc:=by
 refine (hg.block b h.lt fun hk=>?_).trans h
 cases A with
 | none=>simp [Value.ownBlock] at hk
 | some q=>
  simp only [Value.ownBlock,Option.some.injEq] at hk
  exact ha q O hk.symm
theorem Rd.appT{β:Type}{w w':World}{B:Nat}{E':TypeId}{enc':β->List Value}{A':Option Addr}{l':List β}{B0:Nat}{E:TypeId}{sz:Nat}{enc:α->List Value}{A:Option Addr}{c:Nat}{l:List α}(h:Rd w B E' enc' A' l')(ho:Own w B0 E sz enc A c l)(hg:w.grownBy w' (Value.slice A l.length c).ownBlock)(hT:Nat.beq E E'=false) : Rd w' B E' enc' A' l':=
 h.chg fun k cs fz _ hh=>hg.block k (Qp.1 hh).1 fun hk=>by
  obtain ⟨_,_,cs',fz',h3⟩:=ho.block hk.symm
  rw [h3] at hh
  injection hh with hh
  injection hh with _ e _
  subst e
  simp at hT
theorem Rd.appB{β:Type}{w w':World}{B:Nat}{E':TypeId}{enc':β->List Value}{A':Option Addr}{l':List β}{B0:Nat}{E:TypeId}{sz:Nat}{enc:α->List Value}{A:Option Addr}{c:Nat}{l:List α}(h:Rd w B E' enc' A' l')(ho:Own w B0 E sz enc A c l)(hg:w.grownBy w' (Value.slice A l.length c).ownBlock)(hB:B<=B0) : Rd w' B E' enc' A' l':=
 h.chg fun k cs fz hk hh=>hg.block k (Qp.1 hh).1 fun hk'=>by have:=(ho.block hk'.symm).1;omega
theorem Own.appT{β:Type}{w w':World}{B1:Nat}{E':TypeId}{sz':Nat}{enc':β->List Value}{A':Option Addr}{c':Nat}{l':List β}{B0:Nat}{E:TypeId}{sz:Nat}{enc:α->List Value}{A:Option Addr}{c:Nat}{l:List α}(h:Own w B1 E' sz' enc' A' c' l')(ho:Own w B0 E sz enc A c l)(hg:w.grownBy w' (Value.slice A l.length c).ownBlock)(hT:Nat.beq E E'=false) : Own w' B1 E' sz' enc' A' c' l':=by
 refine ⟨h.1,?_⟩
 rcases h.2 with h1|⟨g,cap,cur,h1,h2,h3,h4⟩
 ·exact .inl h1
 ·refine .inr ⟨g,cap,cur,h1,h2,(hg.block g (Qp.1 h3).1 fun hk=>?_).trans h3,h4⟩
  obtain ⟨_,_,cs',fz',h5⟩:=ho.block hk.symm
  rw [h5] at h3
  injection h3 with h3
  injection h3 with _ e _
  subst e
  simp at hT
theorem Below.app{w0 w w':World}{B B0:Nat}{E:TypeId}{sz:Nat}{enc:α->List Value}{A:Option Addr}{c:Nat}{l:List α}(h:Below B w0 w)(ho:Own w B0 E sz enc A c l)(hg:w.grownBy w' (Value.slice A l.length c).ownBlock)(hB:B<=B0)(hs:B<=w.heap.size) : Below B w0 w':=
 h.grown hg hs fun k hk=>by have:=(ho.block hk).1;omega
def InfoT(P:Program)(E:TypeId)(sz bytes:Nat) : Prop:=∃ i z,P.info? E=some i/\i.zero=some z/\i.size=sz/\i.bytes=bytes/\z.cells.size=sz/\0<sz
section
variable {P : Program} {a : Act} {w : World} {n : Nat} {e : Env} {ty : TypeId} {pos : String} {af : Array Edge} {g : Option (Nat × Bool)} {d : Option Tmp}
theorem Xiq{T E:TypeId}{sz bytes B B0:Nat}{x y:Operand}{enc:α->List Value}{A A2:Option Addr}{c c2:Nat}{l l2:List α}(hf:Fr a n e)(hx:ev e x=some (.slice A l.length c))(hy:ev e y=some (.slice A2 l2.length c2))
  (hT:SliceT P T E) (hi:InfoT P E sz bytes) (hsz:∀ x,(enc x).length=sz) (hone:∀ x,(enc x).all one=true) (ho:Own w B0 E sz enc A c l) (hr:Rd w B E enc A2 l2) (h63:l.length+l2.length<=maxLen) (hbytes:(l.length+l2.length)*bytes<=140737488355328) (hB0:B0<=w.heap.size) :
  Ef P ⟨d,.call ⟨.builtin .append,#[x,y],#[T,T]⟩,ty,pos,af,g⟩ a w (Appended w B0 E sz enc A c l l2):=by
 obtain ⟨i,z,hi1,hi2,hi3,hi4,hi5,hi6⟩:=hi
 by_cases hl2:l2=[]
 ·subst hl2
  have hrun:(Builtin.append_ #[T,T] ty #[.slice A l.length c,.slice A2 0 c2]).run P w=.ok (.slice A l.length c) w:=by
   rcases ho.2 with ⟨h1,h2⟩|⟨gg,cap,cur,h1,h2,h3,h4,h5,h6,h7⟩
   ·injection h1 with h1 h1' h1''
    subst h1
    cases A2<;>simp [Builtin.append_,X0m hT,sizeOf,typeInfo,hi1,Builtin.lenOf,Builtin.firstCells,loadCells,loadCellsFrom,h1',h1'']
   ·injection h1 with h1 _ h1''
    subst h1;subst h1''
    cases A2<;>simp [Builtin.append_,X0m hT,sizeOf,typeInfo,hi1,Builtin.lenOf,Builtin.firstCells,loadCells,loadCellsFrom,h4,storeCells]
  refine (Ef.of_run (v:=.slice A l.length c) (w':=w) ?_).mono fun v w' ⟨e1,e2⟩=>?_
  ·simp only [List.length_nil] at hy
   simp [execOp,resolve,invoke,builtin,hf.ev hx,hf.ev hy,hrun]
  ·subst e1;subst e2
   exact ⟨A,c,by simp,by simpa using ho,World.grownBy.refl w' _,fun _ _ h=>h⟩
 ·obtain ⟨b,off,cs,fz,rfl,h2,h3,h4⟩:=hr hl2;obtain ⟨v',w',hrun,hown,hg,_,hat⟩:=run_append_own_at (P:=P) w B0 T ty E i z sz bytes hT hi1 hi2 hi3 hi4 hi5 hi6 (.slice A l.length c) l.length (l.flatMap enc) ho ⟨b,off,none⟩ l2.length c2 (l2.flatMap enc) (Xq hsz l2)
   (fun j u hu=>by
    have:=h4 j u hu
    rw [X24]
    simp [World.cell?,h3,this])
   (fun u hu=>by
    obtain ⟨x,_,hx⟩:=List.mem_flatMap.1 hu
    have:=W1.1 (hone x) u hx
    cases u<;>simp_all [Value.oneCell',one]) h63 hbytes hB0
  refine (Ef.of_run (v:=v') (w':=w') ?_).mono fun v w1 ⟨e1,e2⟩=>?_
  ·simp [execOp,resolve,invoke,builtin,hf.ev hx,hf.ev hy,hrun]
  ·subst e1;subst e2
   have hv:∃ A' c',v=.slice A' (l++l2).length c':=by
    rcases hown.2 with ⟨h1,h2⟩|⟨gg,cap,cur,h1,_⟩
    ·exact ⟨none,0,by rw [h1,Qh,h2]⟩
    ·exact ⟨_,_,by rw [h1,Qh]⟩
   obtain ⟨A',c',rfl⟩:=hv
   refine ⟨A',c',O,?_,hg,fun b hb ha p hp=>?_⟩
   rotate_left
   ·subst hp
    rcases hat with hat|hat
    ·cases A with
     | none=>simp [Value.ownBlock] at hat
     | some q=>
      simp only [Value.ownBlock,Option.some.injEq] at hat
      rw [hat]
      exact ha q O
    ·simp only [Value.ownBlock,Option.some.injEq] at hat
     rw [hat]
     omega
   unfold Own
   rw [Qh,List.flatMap_append]
   simpa [Qh] using hown
theorem X15{T E:TypeId}{sz bytes B B0:Nat}{x y:Operand}{enc:α->List Value}{A A2:Option Addr}{c c2:Nat}{l l2:List α}(hx:ev e x=some (.slice A l.length c))(hy:ev e y=some (.slice A2 l2.length c2))(hT:SliceT P T E)(hi:InfoT P E sz bytes)(hsz:∀ x,(enc x).length=sz)(hone:∀ x,(enc x).all one=true)(ho:Own w B0 E sz enc A c l)(hr:Rd w B E enc A2 l2)(h63:l.length+l2.length<=maxLen)(hbytes:(l.length+l2.length)*bytes<=140737488355328)(hB0:B0<=w.heap.size) : EfW P ⟨d,.call ⟨.builtin .append,#[x,y],#[T,T]⟩,ty,pos,af,g⟩ n e w (Appended w B0 E sz enc A c l l2):=fun a hf=>Xiq hf hx hy hT hi hsz hone ho hr h63 hbytes hB0
theorem X7i{T E:TypeId}{sz:Nat}{x y:Operand}{p:Addr}{c:Nat}{k:Nat}{i:Int}{m:Nat}(hf:Fr a n e)(hx:ev e x=some (.slice (some p) m c))(hy:ev e y=some (.int .i64 i))(hT:SliceT P T E)(hs:SizeT P E sz)
  (hi:i=(k:Int)) (hk:k<m) : Ev P ⟨d,.indexAddr T x y,ty,pos,af,g⟩ a w (.pointer (some (p.add (k*sz)))):=fun w' _=>by
 subst hi
 have h1:=X0m (P:=P) hT w';have h2:=run_sizeOf' hs w'
 have h3:((k:Int)<(m:Int))=True:=by simp;omega
 simp [execOp,Instr.indexAt,asIntOf,hf.ev hx,hf.ev hy,h1,h2,hk]
end
end
section
variable {P : Program} {Q : Exit -> Act -> World -> Prop} {a : Act} {w : World} {n : Nat} {e : Env}
theorem Xz{c:Operand}{x y:Code}{b:Bool}(hf:Fr a n e)(hc:ev e c=some (.bool b))(ht:b=true->x.wp P Q a w)(he:b=false->y.wp P Q a w) : (Code.cond c x y).wp P Q a w:=
 wp_cond_split (hf.ev hc) ht he
theorem Xbo{c:Operand}{x y:Code}(hf:Fr a n e)(hc:ev e c=some (.bool true))(ht:x.wp P Q a w) : (Code.cond c x y).wp P Q a w:=wp_cond_true (hf.ev hc) ht
theorem X6d{c:Operand}{x y:Code}(hf:Fr a n e)(hc:ev e c=some (.bool false))(ht:y.wp P Q a w) : (Code.cond c x y).wp P Q a w:=wp_cond_false (hf.ev hc) ht
theorem X0z{c:Operand}{x y:Code}{p:Prop}[Decidable p](hf:Fr a n e)(hc:ev e c=some (.bool (decide p)))(ht:decide p=true->p->x.wp P Q a w)(he:decide p=false->¬p->y.wp P Q a w) : (Code.cond c x y).wp P Q a w:=
 wp_cond_split (hf.ev hc) (fun h=>ht h (Q2 h)) (fun h=>he h (Q1 h))
theorem X0p{c:Code}(X:Act->World->Prop)(h:c.wp P (Exit.then X Q) a w)(hX:∀ a w,X a w->Q .normal a w) : c.wp P Q a w:=
 Code.wp_mono (fun e a w hq=>by cases e<;>first|exact hX _ _ hq|exact hq) h
theorem X00{σ:Type}{c:Code}(I:σ->Act->World->Prop)(μ:σ->Nat)(s:σ)(h0:I s a w)
  (round:∀ s a w,I s a w->c.wp P (Exit.then (fun a' w'=>∃ s',I s' a' w'/\μ s'<μ s) Q) a w) : (Code.loop c).wp P Q a w:=by
 intro b k cs
 have key:∀ n s a w,μ s=n->I s a w->∃ e a' w',Q e a' w'/\Arrives P (lone (b.at a (.code c::.inLoop c::k)) cs w) b k cs e a' w':=by
  intro n
  induction n using Nat.strongRecOn with
  | _ n ih=>
   intro s a w hn hI;obtain ⟨e,a₁,w₁,hq,harr⟩:=round s a w hI b (.inLoop c::k) cs
   cases e with
   | normal=>
    obtain ⟨s',hI₁,hlt⟩:=hq;obtain ⟨e₂,a₂,w₂,hq₂,harr₂⟩:=ih (μ s') (hn▸hlt) s' a₁ w₁ O hI₁;exact ⟨e₂,a₂,w₂,hq₂,.of_steps (Steps.trans harr (.one step_inLoop)) harr₂⟩
   | exit id=>exact ⟨_,a₁,w₁,hq,.pass (x:=.inLoop c) rfl (fun _ _=>.inl O5) harr⟩
   | goto l=>exact ⟨_,a₁,w₁,hq,.pass (x:=.inLoop c) rfl (fun _ _=>.inl O5) harr⟩
   | ret=>exact ⟨_,a₁,w₁,hq,.pass (x:=.inLoop c) rfl (fun _ _=>.inl O5) harr⟩
   | panic ch=>exact ⟨_,a₁,w₁,hq,.pass (x:=.inLoop c) rfl (fun _ _=>.inl O5) harr⟩
   | outgrown=>exact ⟨_,a₁,w₁,hq,.pass (x:=.inLoop c) rfl (fun _ _=>.inl O5) harr⟩
 obtain ⟨e,a',w',hq,harr⟩:=key _ s a w O h0;exact ⟨e,a',w',hq,.of_steps (.one step_loop) harr⟩
def evp(e:Env) : List (Nat×Operand)->Option (List (Nat×Value))
 | []=>some []
 | (i,x)::l=>match ev e x,evp e l with
  | some v,some vs=>some ((i,v)::vs)
  | _,_=>none
theorem Fr.evp(hf:Fr a n e) : ∀ {l:List (Nat×Operand)} {vs:List (Nat×Value)},evp e l=some vs->l.map (fun p=>(p.1,a.eval p.2))=vs:=by
 intro l
 induction l with
 | nil=>intro vs h;simpa [YtgobkmhhckhbfaaGreatDoor.evp] using h
 | cons x l ih=>
  obtain ⟨i,x⟩:=x;intro vs h
  simp only [YtgobkmhhckhbfaaGreatDoor.evp] at h
  split at h
  ·rename_i v us h1 h2
   injection h with h
   subst h
   simp [hf.ev h1,ih h2]
  ·cases h
def numb:Nat->List Value->List (Nat×Value)
 | _,[]=>[]
 | k,v::l=>(k,v)::numb (k+1) l
section
variable {ty : TypeId} {pos : String} {af : Array Edge} {g : Option (Nat × Bool)} {d : Option Tmp}
theorem Xki{T:TypeId}{parts:List (Nat×Operand)}{ps:List (Nat×Value)}{cs:List Value}(hf:Fr a n e)(hp:evp e parts=some ps)(hb:∀ w,(Instr.build T ps.toArray).run P w=.ok (.agg cs.toArray) w) :
  Ev P ⟨d,.build T parts.toArray,ty,pos,af,g⟩ a w (.agg cs.toArray):=fun w' _=>by
 have h1:=hf.evp hp;have h2:=hb w'
 simp only [execOp,List.map_toArray]
 rw [show (List.map (fun x:Nat×Operand=>match x with|(i,x)=>(i,a.eval x)) parts)=ps from h1]
 simp [h2]
theorem Xt{T:TypeId}{parts:List (Nat×Operand)}{ps:List (Nat×Value)}{cs:List Value}(hp:evp e parts=some ps)(hb:∀ w,(Instr.build T ps.toArray).run P w=.ok (.agg cs.toArray) w) : EvW P ⟨d,.build T parts.toArray,ty,pos,af,g⟩ n e w (.agg cs.toArray):=fun a hf=>Xki hf hp hb
theorem Xau(off:Nat) : ∀ (l:List Value) (m:Nat) (cs:Array Value),off+m+l.length<=cs.size->((l.zipIdx m).foldl (fun cs p=>cs.setIfInBounds (off+p.2) p.1) cs).toList=splice cs.toList (off+m) l
 | [],m,cs,_=>by simp [splice]
 | v::l,m,cs,h=>by
  simp only [Qs] at h
  simp only [List.zipIdx_cons,List.foldl_cons]
  rw [Xau off l (m+1) _ O6]
  unfold splice
  have e1:off+(m+1)=off+m+1:=by omega
  rw [e1,Array.toList_setIfInBounds,Wf O6,List.take_set_of_le Z,List.getElem_set_self,List.drop_set_of_lt Z]
  simp only [Qs,Qx,Wa,List.nil_append]
  rw [show off+m+1+l.length=off+m+(l.length+1) from by omega]
theorem X8b(sz:Nat) : ∀ (vs:List Value) (k:Nat) (cells:Array Value),(∀ v ∈ vs,v.cells.size=sz)->cells.size=(k+vs.length)*sz->
  Instr.fill (fun i=>some (i*sz,sz)) cells (numb k vs)=some (cells.toList.take (k*sz)++vs.flatMap fun v=>v.cells.toList).toArray
 | [],k,cells,_,h=>by
  simp only [List.length_nil,Nat.add_zero] at h
  have h9:cells.toList.take (k*sz)=cells.toList:=Qi (by simp [h])
  simp [numb,Instr.fill,h9]
 | v::vs,k,cells,h1,h=>by
  have hv:=h1 v O5
  simp only [Qs] at h
  have h2:k*sz+sz<=cells.size:=by rw [h,Wb,Wb];omega
  simp only [numb,Instr.fill,hv]
  rw [Q3 O6]
  have e1:(v.cells.zipIdx.foldl (fun cs (p:Value×Nat)=>cs.setIfInBounds (k*sz+p.2) p.1) cells).toList=splice cells.toList (k*sz) v.cells.toList:=by
   have:=Xau (k*sz) v.cells.toList 0 cells (by simp [hv];omega)
   rw [<- Array.foldl_toList,Array.toList_zipIdx]
   simpa using this
  have hs:(v.cells.zipIdx.foldl (fun cs (p:Value×Nat)=>cs.setIfInBounds (k*sz+p.2) p.1) cells).size=cells.size:=by
   rw [<- Array.length_toList,e1]
   simp [splice,hv]
   omega
  have ih:=X8b sz vs (k+1) (v.cells.zipIdx.foldl (fun cs (p:Value×Nat)=>cs.setIfInBounds (k*sz+p.2) p.1) cells) (fun u hu=>h1 u (by simp [hu])) (by rw [hs,h];congr 1;omega)
  refine Eq.trans ih ?_
  rw [e1]
  congr 2
  simp only [Wc]
  rw [<- Qx]
  congr 1
  unfold splice
  have e2:(cells.toList.take (k*sz)++v.cells.toList).length=(k+1)*sz:=by simp [hv,Wb];omega
  rw [<- e2,List.take_left]
theorem Xag{T E sz bytes:Nat}{k:Nat}{parts:List (Nat×Operand)}{vs zs:List Value}(hf:Fr a n e)(hp:evp e parts=some (numb 0 vs))(hT:SliceT P T E)(hi:InfoT P E sz bytes)(hv:(vs.all (fun v=>Nat.beq v.cells.size sz)&&Nat.beq vs.length k&&Nat.ble (k*sz) 1000)=true)(hz:vs.flatMap (fun v=>v.cells.toList)=zs) :
  Ef P ⟨d,.buildSlice T k parts.toArray,ty,pos,af,g⟩ a w (fun v w'=>∃ b,v=.slice (some ⟨b,0,none⟩) k k/\w.heap.size<=b/\Below w.heap.size w w'/\Blk w' b E zs):=by
 subst hz
 obtain ⟨i,z,hi1,hi2,hi3,hi4,hi5,hi6⟩:=hi
 simp only [Qd,W1] at hv
 obtain ⟨⟨hv1,hv2⟩,hv3⟩:=hv
 have hk:vs.length=k:=Nat.eq_of_beq_eq_true hv2
 have hk3:k*sz<=1000:=Nat.le_of_ble_eq_true hv3
 have h1:=hf.evp hp
 have hfill:=X8b sz vs 0 ((Array.range (k*sz)).map fun j=>z.cells[j % z.cells.size]!) (fun v hv=>Nat.eq_of_beq_eq_true (hv1 v hv)) (by simp [hk])
 simp only [Nat.zero_mul,List.take_zero,List.nil_append] at hfill
 refine (Ef.of_run (v:=.slice (some ⟨w.heap.size,0,none⟩) k k) (w':=w.alloc (.cells (vs.flatMap fun v=>v.cells.toList).toArray E)) ?_).mono fun v w' ⟨e1,e2⟩=>?_
 ·simp only [execOp,List.map_toArray]
  rw [show (List.map (fun x:Nat×Operand=>match x with|(i,x)=>(i,a.eval x)) parts)=numb 0 vs from h1]
  have h24:¬ (16777216<k*sz):=by omega
  by_cases h0:k*sz=0
  ·have hf0:Instr.fill (fun i=>some (i*sz,sz)) #[] (numb 0 vs)=some (vs.flatMap fun v=>v.cells.toList).toArray:=by
    rw [<- hfill,h0]
    congr 1
    simp [Array.range_zero']
   simp [Instr.buildSlice,X0m hT,sizeOf,typeInfo,hi1,hi3,h0,newRow,newObj,Sem.run,Array.range_zero',hf0]
  ·simp [Instr.buildSlice,X0m hT,sizeOf,typeInfo,hi1,hi3,h24,h0,zeroValue,hi2,newRow,newObj,Sem.run,hfill]
 ·subst e1;subst e2
  exact ⟨_,O,Qb _,(Below.refl _ _).alloc (Qb _) _,X42 w E _⟩
theorem X9{T E sz bytes:Nat}{k:Nat}{parts:List (Nat×Operand)}{vs zs:List Value}(hp:evp e parts=some (numb 0 vs))(hT:SliceT P T E)(hi:InfoT P E sz bytes)(hv:(vs.all (fun v=>Nat.beq v.cells.size sz)&&Nat.beq vs.length k&&Nat.ble (k*sz) 1000)=true)(hz:vs.flatMap (fun v=>v.cells.toList)=zs) : EfW P ⟨d,.buildSlice T k parts.toArray,ty,pos,af,g⟩ n e w (fun v w'=>∃ b,v=.slice (some ⟨b,0,none⟩) k k/\w.heap.size<=b/\Below w.heap.size w w'/\Blk w' b E zs):=fun a hf=>Xag hf hp hT hi hv hz
theorem Xv8{x y:Operand}{i j:Int}{ts:Array TypeId}(hf:Fr a n e)(hx:ev e x=some (.int .i64 i))(hy:ev e y=some (.int .i64 j)) : Ev P ⟨d,.call ⟨.builtin .max,#[x,y],ts⟩,ty,pos,af,g⟩ a w (.int .i64 (max i j)):=fun w' _=>by
 simp [execOp,resolve,invoke,builtin,Builtin.max_,Builtin.max2,hf.ev hx,hf.ev hy,Int.max_def]
 split<;>simp<;>omega
theorem Y0c{x y:Operand}{i j:Int}{ts:Array TypeId}(hx:ev e x=some (.int .i64 i))(hy:ev e y=some (.int .i64 j)) : EvW P ⟨d,.call ⟨.builtin .max,#[x,y],ts⟩,ty,pos,af,g⟩ n e w (.int .i64 (max i j)):=fun a hf=>Xv8 hf hx hy
end
theorem X1{t:Nat}{e:Env}{b b':Bool}(h:look t e=some (.bool b))(hb:b=b') : look t e=some (.bool b'):=hb▸h
theorem X8{α:Type}{l:List α}{k:Nat}(h:k<l.length) : ∃ u,l[k]? = some u:=⟨l[k],Qc h⟩
section
variable {α : Type} {ops : Array Oper} {rest : List Oper} {ty : TypeId} {pos : String} {af : Array Edge} {g : Option (Nat × Bool)} {d : Nat}
theorem Rd.top{B:Nat}{E:TypeId}{enc:α->List Value}{A:Option Addr}{l:List α}(h:Rd w B E enc A l) : Rd w w.heap.size E enc A l:=fun hl=>by
 obtain ⟨b,off,cs,fz,h1,h2,h3,h4⟩:=h hl;exact ⟨b,off,cs,fz,h1,(Qp.1 h3).1,h3,h4⟩
theorem Xrc{T E E2:TypeId}{sz B:Nat}{x y:Operand}{enc:α->List Value}{A:Option Addr}{c:Nat}{l:List α}{k:Nat}{i:Int}{u:α}(hf:Fr a n e)(hw:Want ops ⟨some d,.indexAddr T x y,ty,pos,af,g⟩ e)(hn:Nat.blt d n=true)
  (hx:ev e x=some (.slice A l.length c)) (hy:ev e y=some (.int .i64 i)) (hT:SliceT P T E) (hs:SizeT P E sz) (hsz:∀ x,(enc x).length=sz) (hr:Rd w B E2 enc A l) (hk:l[k]? = some u) (hi:i=(k:Int))
  (h:∀ a' p,At w p (enc u)->Fr a' n ((d,.pointer (some p))::e)->wpList P ops Q rest a' w) : wpList P ops Q (⟨some d,.indexAddr T x y,ty,pos,af,g⟩::rest) a w:=by
 obtain ⟨p,rfl,hat⟩:=hr.at hsz hk;exact Xwv hf hw O hn (X7i hf hx hy hT hs hi (Qg.1 hk).1) fun a' hf'=>h a' _ hat hf'
theorem Xrp{Q:Act->World->Prop}{tl:Nat->Bool}{fuel:Nat}{done:List Nat}{T E E2:TypeId}{sz B:Nat}{x y:Operand}{enc:α->List Value}{A:Option Addr}{c:Nat}{l:List α}{k:Nat}{i:Int}{u:α}(j:Nat)
  (ho:ops[j]? = some ⟨some d,.indexAddr T x y,ty,pos,af,g⟩) (hm:mayFirst ops done j=true) (ht:tailWaits ops tl j=true) (hf:Fr a n e) (hw:Want ops ⟨some d,.indexAddr T x y,ty,pos,af,g⟩ e) (hn:Nat.blt d n=true)
  (hx:ev e x=some (.slice A l.length c)) (hy:ev e y=some (.int .i64 i)) (hT:SliceT P T E) (hs:SizeT P E sz) (hsz:∀ x,(enc x).length=sz) (hr:Rd w B E2 enc A l) (hk:l[k]? = some u) (hi:i=(k:Int))
  (h:∀ a' p,At w p (enc u)->Fr a' n ((d,.pointer (some p))::e)->wpS P ops none tl Q fuel (mask ops (j::done)) a' w) : wpS P ops none tl Q (fuel+1) (mask ops done) a w:=by
 obtain ⟨p,rfl,hat⟩:=hr.at hsz hk;exact Xxl j ho hm ht hf hw O hn (X7i hf hx hy hT hs hi (Qg.1 hk).1) fun a' hf'=>h a' _ hat hf'
end
theorem X7{K:Act->World->Prop}(h:Q .ret a w) : Exit.then K Q .ret a w:=h
theorem X05{id:Nat}(h:Q .ret a w) : Exit.inBlock id Q .ret a w:=by simp [Exit.inBlock,h]
theorem X6{id:Nat}(h:Q .normal a w) : Exit.inBlock id Q .normal a w:=by simp [Exit.inBlock,h]
theorem Xg{K:Act->World->Prop}{id:Nat}(h:Q (.exit id) a w) : Exit.then K Q (.exit id) a w:=h
theorem Xc{K:Act->World->Prop}(h:K a w) : Exit.then K Q .normal a w:=h
theorem X01{id:Nat}(h:Q .normal a w) : Exit.inBlock id Q (.exit id) a w:=by simp [Exit.inBlock,h]
def ResV(P:Program)(w:World)(e:Env) : ResultVar->Value->Prop
 | .tmp t,v=>look t e=some v
 | .cell t T,v=>∃ p,look t e=some (.pointer (some p))/\((OneT P T/\∃ l,At w p (v::l))∨∃ k l,AggT P T k/\At w p l/\l.length=k/\v=.agg l.toArray)
theorem ResV.cellN{t T k:Nat}{p:Addr}{l:List Value}(h:look t e=some (.pointer (some p)))(hA:AggT P T k)(hc:At w p l)(hl:l.length=k) : ResV P w e (.cell t T) (.agg l.toArray):=⟨p,h,.inr ⟨k,l,hA,hc,hl,rfl⟩⟩
theorem Xa6(fn:Func)(tmps:Array Value) : ∃ f:ResultVar->Sem Value,(∀ t,f (.tmp t)=pure (tmps.getD t undef))/\(∀ t T,f (.cell t T)=(do loadVar T (<- asAddr (tmps.getD t undef))))/\
  results fn tmps=(do let vs <- fn.results.mapM f;pure (if h:vs.size=1 then vs[0] else .tuple vs)):=⟨_,fun _=>rfl,fun _ _=>rfl,rfl⟩
theorem ResV.run{r:ResultVar}{v:Value}{f:ResultVar->Sem Value}(hf:Fr a n e)(h:ResV P w e r v)(f1:∀ t,f (.tmp t)=pure (a.tmps.getD t undef))(f2:∀ t T,f (.cell t T)=(do loadVar T (<- asAddr (a.tmps.getD t undef)))) : (f r).run P w=.ok v w:=by
 cases r with
 | tmp t=>
  have:=hf.h _ _ h
  simp [f1,this]
 | cell t T=>
  obtain ⟨p,h1,h2⟩:=h;have h3:=hf.h _ _ h1
  rcases h2 with ⟨h4,l,h5⟩|⟨k,l,h4,h5,h6,rfl⟩
  ·simp [f2,h3,asAddr,X5r h4 h5]
  ·simp [f2,h3,asAddr,X5q h4 h5 h6]
section
variable {fn : Func} {R : Ending -> World -> Prop}
theorem Xo{r:ResultVar}{v:Value}(hf:Fr a n e)(hr:fn.results = #[r])(h:ResV P w e r v) : (results fn a.tmps).run P w=.ok v w:=by
 obtain ⟨f,f1,f2,h0⟩:=Xa6 fn a.tmps;have h1:=h.run hf f1 f2
 rw [h0,hr]
 simp [h1]
theorem X2u{r1 r2:ResultVar}{v1 v2:Value}(hf:Fr a n e)(hr:fn.results = #[r1,r2])(h1:ResV P w e r1 v1)(h2:ResV P w e r2 v2) : (results fn a.tmps).run P w=.ok (.tuple #[v1,v2]) w:=by
 obtain ⟨f,f1,f2,h0⟩:=Xa6 fn a.tmps;have h1:=h1.run hf f1 f2;have h2:=h2.run hf f1 f2
 rw [h0,hr]
 simp [h1,h2]
theorem X4{v:Value}{R':Value->World->Prop}(hf:Fr a n e)(hr:(results fn a.tmps).run P w=.ok v w)(h:R' v w) : bodyPost P fn (fun e w'=>∃ v,e=.returned v/\R' v w') .ret a w:=⟨hf.d,v,hr,v,rfl,h⟩
theorem X1u{v:Value}{R':Value->World->Prop}(hf:Fr a n e)(hr:(results fn a.tmps).run P w=.ok v w)(h:R' v w) : bodyPost P fn (fun e w'=>∃ v,e=.returned v/\R' v w') .normal a w:=⟨hf.d,v,hr,v,rfl,h⟩
theorem X2s(hr:fn.results = #[]) : (results fn a.tmps).run P w=.ok (.tuple #[]) w:=by
 simp only [results,hr]
 simp
end
theorem enter{f:FuncId}{fn:Func}{c:Code}{args:List Value}{R:Value->World->Prop}(hf:P.funcs[f]? = some fn)(hb:fn.body=some c)(n:Nat)(hn:fn.ntmps=n)(hl:Nat.ble args.length n=true)
  (h:∀ a,Fr a n (zipFrom 0 args)->c.wp P (bodyPost P fn (fun e w'=>∃ v,e=.returned v/\R v w')) a w) : Ret P f args w R:=Xk2 hf hb n hn hl h
end
section
variable {P : Program} {ops : Array Oper} {Q : Exit -> Act -> World -> Prop} {w : World} {rest : List Oper} {o : Oper} {op : Op} {ty : TypeId} {pos : String} {af : Array Edge} {g : Option (Nat × Bool)} {n d : Nat} {e : Env} {v : Value} {R : Value -> World -> Prop} {x : Operand}
def WL(P:Program)(ops:Array Oper)(Q:Exit->Act->World->Prop)(l:List Oper)(n:Nat)(e:Env)(w:World) : Prop:=∀ a,Fr a n e->wpList P ops Q l a w
theorem bs:(∀ b,(true&&b)=b)/\(∀ b,(false&&b)=false)/\(∀ b,(true||b)=true)/\∀ b,(false||b)=b:=⟨fun _=>rfl,fun _=>rfl,fun _=>rfl,fun _=>rfl⟩
theorem Vc{f:FuncId}{xs:List Operand}{vs:List Value}{ts:Array TypeId}{D:Option Tmp}(h:Ret P f vs w R)(hF:FuncF P f)(hx:evs e xs=some vs:=by rfl) : EfW P ⟨D,.call ⟨.value (.func f),xs.toArray,ts⟩,ty,pos,af,g⟩ n e w R:=X2b hx hF h
theorem Vn{T t k b:Nat}{l:List Value}{D:Option Tmp}(hA:AggT P t k)(hb:Blk w b T l)(hx:ev e x=some (.pointer (some ⟨b,0,none⟩)):=by rfl)(hl:l.length=k:=by rfl) : EvW P ⟨D,.load t x,ty,pos,af,g⟩ n e w (.agg l.toArray):=X09 hx hA (hb.at 0) hl
theorem Vd{T f k b off:Nat}{D:Option Tmp}(hx:ev e x=some (.pointer (some ⟨b,off,none⟩)))(hF:FieldT P T f k)(m:Nat)(hk:off+k=m:=by rfl) : EvW P ⟨D,.fieldAddr T x f,ty,pos,af,g⟩ n e w (.pointer (some ⟨b,m,none⟩)):=Xoc hx hF hk
theorem Vu{t T:TypeId}{y:Operand}{b off k:Nat}{l l' vs:List Value}{D:Option Tmp}(hx:ev e x=some (.pointer (some ⟨b,off,none⟩)))(hy:ev e y=some v)(hs:SizeT P t k)(hb:Blk w b T l)(hvs:v.cells.toList=vs:=by rfl)(hk:Nat.beq vs.length k=true:=by rfl)(h1:vs.all one=true:=by rfl)(hl:Nat.ble (off+k) l.length=true:=by rfl)(hl':splice l off vs=l':=by rfl) : EfW P ⟨D,.store t x y,ty,pos,af,g⟩ n e w (Stored w b T l'):=X1m hx hy hs hb hvs hk h1 hl hl'
theorem Vw{t T:TypeId}{y:Operand}{b k:Nat}{l:List Value}{D:Option Tmp}(vs:List Value)(hs:SizeT P t k)(hb:Blk w b T l)(hx:ev e x=some (.pointer (some ⟨b,0,none⟩)):=by rfl)(hy:ev e y=some v:=by rfl)(hvs:v.cells.toList=vs:=by rfl)(hk:Nat.beq vs.length k=true:=by rfl)(h1:vs.all one=true:=by rfl)(hl:Nat.ble (0+k) l.length=true:=by rfl)(hl':splice l 0 vs=vs:=by rfl) : EfW P ⟨D,.store t x y,ty,pos,af,g⟩ n e w (Stored w b T vs):=X1m hx hy hs hb hvs hk h1 hl hl'
theorem Ze(hr:EvW P ⟨some d,op,ty,pos,af,none⟩ n e w v)(h:WL P ops Q rest n ((d,v)::e) w)(hn:Nat.blt d n=true:=by rfl) : WL P ops Q (⟨some d,op,ty,pos,af,none⟩::rest) n e w:=fun a hf=>l_e hf hn (hr a hf) h
theorem Zm(hx:ev e x=some v)(h:WL P ops Q rest n ((d,v)::e) w)(hn:Nat.blt d n=true:=by rfl) : WL P ops Q (⟨some d,.move x,ty,pos,af,none⟩::rest) n e w:=fun _ hf=>Y4g hf hx hn h
theorem Za(hx:ev e x=some v)(h:WL P ops Q rest n ((d,v)::e) w)(hn:Nat.blt d n=true:=by rfl) : WL P ops Q (⟨some d,.assign x,ty,pos,af,none⟩::rest) n e w:=fun _ hf=>Y4e hf hx hn h
theorem Zf(hr:EfW P ⟨some d,op,ty,pos,af,none⟩ n e w R)(h:∀ v w',R v w'->WL P ops Q rest n ((d,v)::e) w')(hn:Nat.blt d n=true:=by rfl) : WL P ops Q (⟨some d,op,ty,pos,af,none⟩::rest) n e w:=fun a hf=>l_f hf hn (hr a hf) fun a' v w' hR hf'=>h v w' hR a' hf'
theorem Zo(hr:EfW P ⟨none,op,ty,pos,af,none⟩ n e w R)(h:∀ v w',R v w'->WL P ops Q rest n e w') : WL P ops Q (⟨none,op,ty,pos,af,none⟩::rest) n e w:=fun a hf=>Y4f hf (hr a hf) fun a' v w' hR hf'=>h v w' hR a' hf'
theorem ZB{T t:TypeId}{ty':TypeId}{pos':String}{af':Array Edge}{z v:Value}{y:Operand}{k:Nat}(vs:List Value)(hz:ZeroT P T z)(hs:SizeT P t k)(h:∀ b w',w.heap.size<=b->Below w.heap.size w w'->Blk w' b T vs->WL P ops Q rest n ((d,.pointer (some ⟨b,0,none⟩))::e) w')(hn:Nat.blt d n=true:=by rfl)(hy:∀ u,ev ((d,u)::e) y=some v:=by intro _;rfl)(hvs:v.cells.toList=vs:=by rfl)(hk:Nat.beq vs.length k=true:=by rfl)(h1:vs.all one=true:=by rfl)(hl:Nat.beq z.cells.toList.length k=true:=by rfl) : WL P ops Q (⟨some d,.alloc T,ty,pos,af,none⟩::⟨none,.store t (.tmp d) y,ty',pos',af',none⟩::rest) n e w:=by
 refine Zf (X03 hz O) ?_ hn
 rintro _ w1 ⟨b,rfl,h2,h3,h4⟩
 have hk':=Nat.eq_of_beq_eq_true hk
 have hl':=Nat.eq_of_beq_eq_true hl
 have hx:ev ((d,(.pointer (some ⟨b,0,none⟩) : Value))::e) (.tmp d)=some (.pointer (some ⟨b,0,none⟩)):=by simp [ev,look]
 refine Zo (X1m (l':=vs) hx (hy _) hs h4 hvs hk h1 (by rw [Nat.ble_eq];omega) ?_) ?_
 ·unfold splice
  rw [List.take_zero,List.nil_append,W3 Z,List.append_nil]
 ·rintro _ w2 ⟨h5,h6⟩;exact h b w2 h2 (Below.oy h3 h5 h2) h6
theorem Zv(hw:Want ops o e)(hr:EvW P o n e w v)(h:WL P ops Q rest n ((d,v)::e) w)(hd:o.dst=some d:=by rfl)(hn:Nat.blt d n=true:=by rfl) : WL P ops Q (o::rest) n e w:=fun a hf=>Xwv hf hw hd hn (hr a hf) h
theorem Zp(hw:Pass ops o e)(h:WL P ops Q rest n ((d,undef)::e) w)(hd:o.dst=some d:=by rfl)(hn:Nat.blt d n=true:=by rfl) : WL P ops Q (o::rest) n e w:=fun _ hf=>Xww hf hw hd hn h
theorem Zk(hw:Want ops o e)(hr:EfW P o n e w R)(h:∀ v w',R v w'->WL P ops Q rest n ((d,v)::e) w')(hd:o.dst=some d:=by rfl)(hn:Nat.blt d n=true:=by rfl) : WL P ops Q (o::rest) n e w:=fun a hf=>Xlw hf hw hd hn (hr a hf) fun a' v w' hR hf'=>h v w' hR a' hf'
theorem Zg(t:Nat){b:Bool}(_:look t e=some (.bool b))(h1:b=true->WL P ops Q rest n e w)(h2:b=false->WL P ops Q rest n e w) : WL P ops Q rest n e w:=by
 cases b
 ·exact h2 O
 ·exact h1 O
theorem Zn(h:∀ a,Fr a n e->Q .normal a w) : WL P ops Q [] n e w:=h
theorem Zr{a:Act}{id:Nat}{l:List Oper}(hf:Fr a n e)(h:WL P l.toArray Q l n e w) : (Code.region id l.toArray false).wp P Q a w:=wp_region_lit (h a hf)
theorem Zs{a:Act}{id:Nat}{l:List Oper}{c:Code}(hf:Fr a n e)(h:∀ K:Act->World->Prop,(∀ a w,c.wp P Q a w->K a w)->WL P l.toArray (Exit.then K Q) l n e w) : (Code.seq (Code.region id l.toArray false) c).wp P Q a w:=
 Q5 fun K hK=>wp_region_lit (h K hK a hf)
theorem Zt{c:Code}{K:Act->World->Prop}(hK:∀ a w,c.wp P Q a w->K a w)(h:∀ a,Fr a n e->c.wp P Q a w) : WL P ops (Exit.then K Q) [] n e w:=fun a hf=>hK a w (h a hf)
theorem ZX{c1 c2:Code}{K:Act->World->Prop}(hK:∀ a w,(Code.seq c1 c2).wp P Q a w->K a w)(h:∀ a,Fr a n e->∀ K':Act->World->Prop,(∀ a w,c2.wp P Q a w->K' a w)->c1.wp P (Exit.then K' Q) a w) : WL P ops (Exit.then K Q) [] n e w:=fun a hf=>hK a w (Q5 fun K' hK'=>h a hf K' hK')
theorem Zx{id:Nat}{l:List Oper}{c:Code}{K:Act->World->Prop}(hK:∀ a w,(Code.seq (Code.region id l.toArray false) c).wp P Q a w->K a w)(h:∀ a,Fr a n e->∀ K':Act->World->Prop,(∀ a w,c.wp P Q a w->K' a w)->WL P l.toArray (Exit.then K' Q) l n e w) : WL P ops (Exit.then K Q) [] n e w:=fun a hf=>hK a w (Q5 fun K' hK'=>wp_region_lit (h a hf K' hK' a hf))
theorem Zi{α:Type}{T E E2:TypeId}{sz B k:Nat}{y:Operand}{enc:α->List Value}{A:Option Addr}{c:Nat}{l:List α}{i:Int}{u:α}(hw:Want ops ⟨some d,.indexAddr T x y,ty,pos,af,g⟩ e)(hx:ev e x=some (.slice A l.length c))(hy:ev e y=some (.int .i64 i))(hT:SliceT P T E)(hs:SizeT P E sz)(hsz:∀ x,(enc x).length=sz)(hr:Rd w B E2 enc A l)(hk:l[k]? = some u)(hi:i=(k:Int))
  (h:∀ p,At w p (enc u)->WL P ops Q rest n ((d,.pointer (some p))::e) w) (hn:Nat.blt d n=true:=by rfl) : WL P ops Q (⟨some d,.indexAddr T x y,ty,pos,af,g⟩::rest) n e w:=fun _ hf=>Xrc hf hw hn hx hy hT hs hsz hr hk hi fun a' p hp hf'=>h p hp a' hf'
theorem Zj{α:Type}{T E E2:TypeId}{sz B m k:Nat}{y:Operand}{enc:α->List Value}{A:Option Addr}{c:Nat}{l:List α}{i:Int}{u:α}(hw:Want ops ⟨some d,.indexAddr T x y,ty,pos,af,g⟩ e)(hx:ev e x=some (.slice A m c))(hm:m=l.length)(hy:ev e y=some (.int .i64 i))(hT:SliceT P T E)(hs:SizeT P E sz)(hsz:∀ x,(enc x).length=sz)(hr:Rd w B E2 enc A l)(hk:l[k]? = some u)(hi:i=(k:Int))
  (h:∀ p,At w p (enc u)->WL P ops Q rest n ((d,.pointer (some p))::e) w) (hn:Nat.blt d n=true:=by rfl) : WL P ops Q (⟨some d,.indexAddr T x y,ty,pos,af,g⟩::rest) n e w:=by
 subst hm
 exact Zi hw hx hy hT hs hsz hr hk hi h hn
end
section
variable {P : Program} {ops : Array Oper} {V : Option Vk} {tl : Nat -> Bool} {Q : Act -> World -> Prop} {fuel : Nat} {done : List Nat} {w : World} {o : Oper} {op : Op} {ty : TypeId} {pos : String} {af : Array Edge} {g : Option (Nat × Bool)} {n d : Nat} {e : Env} {v : Value} {R : Value -> World -> Prop} {x : Operand}
def WS(P:Program)(ops:Array Oper)(V:Option Vk)(tl:Nat->Bool)(Q:Act->World->Prop)(m:Nat)(L:List Nat)(n:Nat)(e:Env)(w:World) : Prop:=∀ a,Fr a n e->wpS P ops V tl Q m (mask ops L) a w
def WR(P:Program)(ops:Array Oper)(V:Option Vk)(tl:Nat->Bool)(Q:Act->World->Prop)(i m:Nat)(L:List Nat)(n:Nat)(e:Env)(w:World) : Prop:=∀ a,Fr a n e->wpR P ops V tl i (wpS P ops V tl Q m (mask ops (i::L))) a w
theorem Yb{a:Act}{m:Nat}{L:List Nat}(hf:Fr a n e)(h:WS P ops V tl Q m L n e w) : wpS P ops V tl Q m (mask ops L) a w:=h a hf
theorem Ye(i:Nat)(hi:ops[i]? = some ⟨some d,op,ty,pos,af,none⟩)(hr:EvW P ⟨some d,op,ty,pos,af,none⟩ n e w v)(h:WS P ops none tl Q fuel (i::done) n ((d,v)::e) w)(hm:mayFirst ops done i=true:=by kernel_rfl)(ht:tailWaits ops tl i=true:=by kernel_rfl)(hn:Nat.blt d n=true:=by rfl) : WS P ops none tl Q (fuel+1) done n e w:=fun a hf=>s_e i hi hm ht hf hn (hr a hf) h
theorem Yo(i:Nat)(hi:ops[i]? = some ⟨some d,op,ty,pos,af,none⟩)(hr:∀ w,EvW P ⟨some d,op,ty,pos,af,none⟩ n e w v)(h:WS P ops V tl Q fuel (i::done) n ((d,v)::e) w)(hm:mayFirst ops done i=true:=by kernel_rfl)(hn:Nat.blt d n=true:=by rfl) : WS P ops V tl Q (fuel+1) done n e w:=fun a hf=>Y4l i hi hm hf hn (fun w=>hr w a hf) h
theorem Yv(i:Nat)(hi:ops[i]? = some o)(hw:Want ops o e)(hr:EvW P o n e w v)(h:WS P ops none tl Q fuel (i::done) n ((d,v)::e) w)(hm:mayFirst ops done i=true:=by kernel_rfl)(ht:tailWaits ops tl i=true:=by kernel_rfl)(hd:o.dst=some d:=by rfl)(hn:Nat.blt d n=true:=by rfl) : WS P ops none tl Q (fuel+1) done n e w:=fun a hf=>Xxl i hi hm ht hf hw hd hn (hr a hf) h
theorem Yw(i:Nat){b:Nat}(hi:ops[i]? = some o)(hw:Want ops o e)(hr:∀ w1,Only b w w1->EvW P o n e w1 v)(h:WS P ops (some b) tl Q fuel (i::done) n ((d,v)::e) w)(hm:mayFirst ops done i=true:=by kernel_rfl)(ht:tailWaits ops tl i=true:=by kernel_rfl)(hd:o.dst=some d:=by rfl)(hn:Nat.blt d n=true:=by rfl) : WS P ops (some b) tl Q (fuel+1) done n e w:=fun a hf=>Y2f i hi hm ht hf hw hd hn (fun w1 h1=>hr w1 h1 a hf) h
theorem Yu(i:Nat)(hi:ops[i]? = some o)(hw:Want ops o e)(hr:∀ w,EvW P o n e w v)(h:WS P ops V tl Q fuel (i::done) n ((d,v)::e) w)(hm:mayFirst ops done i=true:=by kernel_rfl)(hd:o.dst=some d:=by rfl)(hn:Nat.blt d n=true:=by rfl) : WS P ops V tl Q (fuel+1) done n e w:=fun a hf=>Xn9 i hi hm hf hw hd hn (fun w=>hr w a hf) h
theorem Yp(i:Nat)(hi:ops[i]? = some o)(hw:Pass ops o e)(h:WS P ops V tl Q fuel (i::done) n ((d,undef)::e) w)(hm:mayFirst ops done i=true:=by kernel_rfl)(hd:o.dst=some d:=by rfl)(hn:Nat.blt d n=true:=by rfl) : WS P ops V tl Q (fuel+1) done n e w:=fun _ hf=>Xxm i hi hm hf hw hd hn h
theorem Y1(i:Nat)(h:WR P ops V tl Q i fuel done n e w)(hr:Region.ready .any ops (mask ops done)=[i]:=by kernel_rfl) : WS P ops V tl Q (fuel+1) done n e w:=fun a hf=>Y2g i hr (h a hf)
theorem Y2(i j:Nat)(hi:WR P ops V tl Q i fuel done n e w)(hj:WR P ops V tl Q j fuel done n e w)(hr:Region.ready .any ops (mask ops done)=[i,j]:=by kernel_rfl) : WS P ops V tl Q (fuel+1) done n e w:=fun a hf=>Y2h i j hr (hi a hf) (hj a hf)
theorem Yd(h:∀ a,Fr a n e->Q a w)(hr:Region.ready .any ops (mask ops done)=[]:=by kernel_rfl) : WS P ops V tl Q fuel done n e w:=fun a hf=>Xxk hr (h a hf)
theorem Yf{i:Nat}(hi:ops[i]? = some o)(hw:Want ops o e)(hr:EfW P o n e w fun v w'=>(tl i=false->Keep V w w')/\R v w')(h:∀ v w',R v w'->WS P ops V tl Q fuel (i::done) n ((d,v)::e) w')(hd:o.dst=some d:=by rfl)(hn:Nat.blt d n=true:=by rfl) : WR P ops V tl Q i fuel done n e w:=fun a hf=>Y27 hi hf hw hd hn (hr a hf) fun a' v w' hR hf'=>h v w' hR a' hf'
theorem Yg{i:Nat}(hi:ops[i]? = some o)(hw:Want ops o e)(hr:EfW P o n e w fun v w'=>(tl i=false->Keep V w w')/\R v w')(h:∀ v w',R v w'->WS P ops V tl Q fuel (i::done) n e w')(hd:o.dst=none:=by rfl) : WR P ops V tl Q i fuel done n e w:=fun a hf=>Xxa hi hf hw hd (hr a hf) fun a' v w' hR hf'=>h v w' hR a' hf'
theorem Yq{i:Nat}(hi:ops[i]? = some o)(hw:Pass ops o e)(h:WS P ops V tl Q fuel (i::done) n ((d,undef)::e) w)(hd:o.dst=some d:=by rfl)(hn:Nat.blt d n=true:=by rfl) : WR P ops V tl Q i fuel done n e w:=fun _ hf=>Xxb hi hf hw hd hn h
theorem EfW.mono{R':Value->World->Prop}(h:EfW P o n e w R)(hr:∀ v w',R v w'->R' v w') : EfW P o n e w R':=fun a hf=>(h a hf).mono hr
theorem Uev(h:EvW P o n e w v) : EfW P o n e w (fun v' w'=>v'=v/\w=w'):=fun a hf=>Xke (h a hf)
theorem Yt{i:Nat}(hi:ops[i]? = some o)(hw:Want ops o e)(ht:tl i=true)(hr:EfW P o n e w R)(h:∀ v w',R v w'->WS P ops V tl Q fuel (i::done) n ((d,v)::e) w')(hd:o.dst=some d:=by rfl)(hn:Nat.blt d n=true:=by rfl) : WR P ops V tl Q i fuel done n e w:=Yf hi hw (hr.mono fun _ _ h=>⟨fun h0=>absurd h0 (by rw [ht];decide),h⟩) h hd hn
theorem Yh{i:Nat}(hi:ops[i]? = some o)(hw:Want ops o e)(ht:tl i=true)(hr:EfW P o n e w R)(h:∀ v w',R v w'->WS P ops V tl Q fuel (i::done) n e w')(hd:o.dst=none:=by rfl) : WR P ops V tl Q i fuel done n e w:=Yg hi hw (hr.mono fun _ _ h=>⟨fun h0=>absurd h0 (by rw [ht];decide),h⟩) h hd
theorem Yk{i:Nat}(hi:ops[i]? = some o)(hw:Want ops o e)(hr:EfW P o n e w R)(hk:∀ v w',R v w'->Below w.heap.size w w')(h:∀ v w',R v w'->WS P ops none tl Q fuel (i::done) n ((d,v)::e) w')(hd:o.dst=some d:=by rfl)(hn:Nat.blt d n=true:=by rfl) : WR P ops none tl Q i fuel done n e w:=Yf hi hw (hr.mono fun _ _ h=>⟨fun _=>hk _ _ h,h⟩) h hd hn
theorem Yz{i:Nat}{u:Value}(hi:ops[i]? = some o)(hw:Want ops o e)(hr:EfW P o n e w (fun v w'=>v=u/\w=w'))(h:WS P ops V tl Q fuel (i::done) n ((d,u)::e) w)(hd:o.dst=some d:=by rfl)(hn:Nat.blt d n=true:=by rfl) : WR P ops V tl Q i fuel done n e w:=Yf hi hw (hr.mono fun _ _ h=>⟨fun _=>by rw [<- h.2];exact Keep.refl _ _,h⟩) (by rintro _ _ ⟨rfl,rfl⟩;exact h) hd hn
theorem Yl(t:Nat){b:Bool}(_:look t e=some (.bool b))(h1:b=true->WS P ops V tl Q fuel done n e w)(h2:b=false->WS P ops V tl Q fuel done n e w) : WS P ops V tl Q fuel done n e w:=by
 cases b
 ·exact h2 O
 ·exact h1 O
theorem Yi{α:Type}{T E E2:TypeId}{sz B k:Nat}{y:Operand}{enc:α->List Value}{A:Option Addr}{c:Nat}{l:List α}{i:Int}{u:α}(j:Nat)(ho:ops[j]? = some ⟨some d,.indexAddr T x y,ty,pos,af,g⟩)(hw:Want ops ⟨some d,.indexAddr T x y,ty,pos,af,g⟩ e)(hx:ev e x=some (.slice A l.length c))(hy:ev e y=some (.int .i64 i))(hT:SliceT P T E)(hs:SizeT P E sz)(hsz:∀ x,(enc x).length=sz)(hr:Rd w B E2 enc A l)(hk:l[k]? = some u)(hi:i=(k:Int))
  (h:∀ p,At w p (enc u)->WS P ops none tl Q fuel (j::done) n ((d,.pointer (some p))::e) w) (hm:mayFirst ops done j=true:=by kernel_rfl) (ht:tailWaits ops tl j=true:=by kernel_rfl) (hn:Nat.blt d n=true:=by rfl) : WS P ops none tl Q (fuel+1) done n e w:=fun _ hf=>Xrp j ho hm ht hf hw hn hx hy hT hs hsz hr hk hi fun a' p hp hf'=>h p hp a' hf'
end
end Go.Proofs.YtgobkmhhckhbfaaGreatDoor
namespace Go.Proofs.YtgobkmhhckhbfaaGreatDoor
theorem X0r{P:Program}{t n:Nat}(h:(P.info? t).map (fun i=>i.size)=some n) : ∃ i,P.info? t=some i/\i.size=n:=by simp_all
theorem X2q{P:Program}{t:Nat}{z:Option Value}(h:(P.info? t).map (fun i=>i.zero)=some z) : ∃ i,P.info? t=some i/\i.zero=z:=by simp_all
theorem X4c{P:Program}{t sz bytes:Nat}{z:Value}(h:(P.info? t).map (fun i=>(i.size,i.bytes,i.zero))=some (sz,bytes,some z))(hz:z.cells.size=sz)(h0:0<sz) : InfoT P t sz bytes:=by
 cases hi:P.info? t with
 | none=>rw [hi] at h;cases h
 | some i=>
  rw [hi] at h
  simp only [Option.map_some,Option.some.injEq,Prod.mk.injEq] at h
  exact ⟨i,z,hi,h.2.2,h.1,h.2.1,hz,h0⟩
theorem X0q{P:Program}{T f k:Nat}{fs:Array Field}{F:Field}(h:P.underlying T=some (.struct fs))(h1:fs[f]? = some F)(h2:F.offset=k){n:Nat}(h3:(P.info? F.type).map (fun i=>i.size)=some n)(h4:(n==0)=false) : FieldT P T f k:=by
 obtain ⟨i,hi,rfl⟩:=X0r h3;exact ⟨fs,F,i,h,h1,h2,hi,h4⟩
theorem X5 {P : Program} {f : FuncId} {fn : Func} (h : P.funcs[f]? = some fn) (h1 : (fn.name == "runtime.NumGoroutine") = false) (h2 : fn.body.isNone = false) : FuncF P f := ⟨fn, h, h1, h2⟩
theorem X2:OneT Tryz.prog 3:=⟨_,Tryz.underlying3,trivial⟩
theorem X4d:OneT Tryz.prog 4:=⟨_,Tryz.underlying4,trivial⟩
theorem Y4q:OneT Tryz.prog 5:=⟨_,Tryz.underlying5,trivial⟩
theorem Xd1:OneT Tryz.prog 9:=⟨_,Tryz.underlying9,trivial⟩
theorem X69:OneT Tryz.prog 24:=⟨_,Tryz.underlying24,trivial⟩
theorem X2d:OneT Tryz.prog 56:=⟨_,Tryz.underlying56,trivial⟩
theorem X3i:OneT Tryz.prog 35:=⟨_,Tryz.underlying35,trivial⟩
theorem X27:OneT Tryz.prog 60:=⟨_,Tryz.underlying60,trivial⟩
theorem Xd0:OneT Tryz.prog 50:=⟨_,Tryz.underlying50,trivial⟩
theorem X9b:OneT Tryz.prog 22:=⟨_,Tryz.underlying22,trivial⟩
theorem X0b:OneT Tryz.prog 28:=⟨_,Tryz.underlying28,trivial⟩
theorem X12:OneT Tryz.prog 29:=⟨_,Tryz.underlying29,trivial⟩
theorem X3g:AggT Tryz.prog 26 2:=⟨⟨_,Tryz.underlying26,trivial⟩,X0r O3⟩
theorem X28:AggT Tryz.prog 66 3:=⟨⟨_,Tryz.underlying66,trivial⟩,X0r O3⟩
theorem X1d:AggT Tryz.prog 37 3:=⟨⟨_,Tryz.underlying37,trivial⟩,X0r O3⟩
theorem X0j:AggT Tryz.prog 76 4:=⟨⟨_,Tryz.underlying76,trivial⟩,X0r O3⟩
theorem X04:AggT Tryz.prog 78 5:=⟨⟨_,Tryz.underlying78,trivial⟩,X0r O3⟩
theorem Xrv:AggT Tryz.prog 128 8:=⟨⟨_,Tryz.underlying128,trivial⟩,X0r O3⟩
theorem Xm:AggT Tryz.prog 31 5:=⟨⟨_,Tryz.underlying31,trivial⟩,X0r O3⟩
theorem X23:AggT Tryz.prog 64 2:=⟨⟨_,Tryz.underlying64,trivial⟩,X0r O3⟩
theorem X1y:AggT Tryz.prog 72 3:=⟨⟨_,Tryz.underlying72,trivial⟩,X0r O3⟩
theorem X0e:SizeT Tryz.prog 3 1:=X0r O3
theorem X2k:SizeT Tryz.prog 4 1:=X0r O3
theorem Y4p:SizeT Tryz.prog 5 1:=X0r O3
theorem Xcz:SizeT Tryz.prog 9 1:=X0r O3
theorem Xnt:SizeT Tryz.prog 24 1:=X0r O3
theorem Xid:SizeT Tryz.prog 56 1:=X0r O3
theorem X59:SizeT Tryz.prog 26 2:=X0r O3
theorem X2t:SizeT Tryz.prog 66 3:=X0r O3
theorem Xa9:SizeT Tryz.prog 35 1:=X0r O3
theorem X1o:SizeT Tryz.prog 37 3:=X0r O3
theorem X2a:SizeT Tryz.prog 76 4:=X0r O3
theorem X0i:SizeT Tryz.prog 78 5:=X0r O3
theorem Xns:SizeT Tryz.prog 50 1:=X0r O3
theorem Xru:SizeT Tryz.prog 128 8:=X0r O3
theorem X3x:SizeT Tryz.prog 28 1:=X0r O3
theorem X32:SizeT Tryz.prog 29 1:=X0r O3
theorem X10:SizeT Tryz.prog 31 5:=X0r O3
theorem X0g:SizeT Tryz.prog 64 2:=X0r O3
theorem X0s:SizeT Tryz.prog 72 3:=X0r O3
theorem z_3:ZeroT Tryz.prog 3 (.int .i64 0):=X2q O3
theorem Xd6:ZeroT Tryz.prog 26 (.agg #[.int .i64 0,.slice none 0 0]):=X2q O3
theorem X87:ZeroT Tryz.prog 66 (.agg #[.int .i64 0,.int .i64 0,.int .i64 0]):=X2q O3
theorem X3a:ZeroT Tryz.prog 37 (.agg #[.int .i64 0,.int .i64 0,.slice none 0 0]):=X2q O3
theorem X4u:ZeroT Tryz.prog 76 (.agg #[.int .i64 0,.int .i64 0,.int .i64 0,.int .i64 0]):=X2q O3
theorem X3d:ZeroT Tryz.prog 78 (.agg #[.int .i64 0,.int .i64 0,.int .i64 0,.int .i64 0,.int .i64 0]):=X2q O3
theorem X2l:ZeroT Tryz.prog 31 (.agg #[.int .i64 0,.slice none 0 0,.slice none 0 0,.int .i64 0,.int .i64 0]):=X2q O3
theorem X40:ZeroT Tryz.prog 64 (.agg #[.int .i64 0,.int .i64 0]):=X2q O3
theorem X3n:ZeroT Tryz.prog 72 (.agg #[.int .i64 0,.int .i64 0,.bool false]):=X2q O3
theorem X2f:FieldT Tryz.prog 26 0 0:=X0q (n:=1) Tryz.underlying26 rfl rfl O3 rfl
theorem X38:FieldT Tryz.prog 26 1 1:=X0q (n:=1) Tryz.underlying26 rfl rfl O3 rfl
theorem X25:FieldT Tryz.prog 66 0 0:=X0q (n:=1) Tryz.underlying66 rfl rfl O3 rfl
theorem Xs:FieldT Tryz.prog 66 1 1:=X0q (n:=1) Tryz.underlying66 rfl rfl O3 rfl
theorem X0h:FieldT Tryz.prog 66 2 2:=X0q (n:=1) Tryz.underlying66 rfl rfl O3 rfl
theorem X4a:FieldT Tryz.prog 37 0 0:=X0q (n:=1) Tryz.underlying37 rfl rfl O3 rfl
theorem X34:FieldT Tryz.prog 37 1 1:=X0q (n:=1) Tryz.underlying37 rfl rfl O3 rfl
theorem X1q:FieldT Tryz.prog 37 2 2:=X0q (n:=1) Tryz.underlying37 rfl rfl O3 rfl
theorem X1g:FieldT Tryz.prog 76 0 0:=X0q (n:=1) Tryz.underlying76 rfl rfl O3 rfl
theorem X1h:FieldT Tryz.prog 76 1 1:=X0q (n:=1) Tryz.underlying76 rfl rfl O3 rfl
theorem X1i:FieldT Tryz.prog 76 2 2:=X0q (n:=1) Tryz.underlying76 rfl rfl O3 rfl
theorem X1j:FieldT Tryz.prog 76 3 3:=X0q (n:=1) Tryz.underlying76 rfl rfl O3 rfl
theorem X35:FieldT Tryz.prog 78 0 0:=X0q (n:=4) Tryz.underlying78 rfl rfl O3 rfl
theorem X26:FieldT Tryz.prog 78 1 4:=X0q (n:=1) Tryz.underlying78 rfl rfl O3 rfl
theorem X3w:FieldT Tryz.prog 84 0 0:=X0q (n:=1) Tryz.underlying84 rfl rfl O3 rfl
theorem X6g:FieldT Tryz.prog 52 0 0:=X0q (n:=1) Tryz.underlying52 rfl rfl O3 rfl
theorem X3o:FieldT Tryz.prog 52 1 1:=X0q (n:=1) Tryz.underlying52 rfl rfl O3 rfl
theorem X4k:FieldT Tryz.prog 52 2 2:=X0q (n:=1) Tryz.underlying52 rfl rfl O3 rfl
theorem X1e:FieldT Tryz.prog 31 0 0:=X0q (n:=1) Tryz.underlying31 rfl rfl O3 rfl
theorem Xi:FieldT Tryz.prog 31 1 1:=X0q (n:=1) Tryz.underlying31 rfl rfl O3 rfl
theorem Xv:FieldT Tryz.prog 31 2 2:=X0q (n:=1) Tryz.underlying31 rfl rfl O3 rfl
theorem X0w:FieldT Tryz.prog 31 3 3:=X0q (n:=1) Tryz.underlying31 rfl rfl O3 rfl
theorem X1f:FieldT Tryz.prog 31 4 4:=X0q (n:=1) Tryz.underlying31 rfl rfl O3 rfl
theorem X0y:FieldT Tryz.prog 64 0 0:=X0q (n:=1) Tryz.underlying64 rfl rfl O3 rfl
theorem X0x:FieldT Tryz.prog 64 1 1:=X0q (n:=1) Tryz.underlying64 rfl rfl O3 rfl
theorem X1k:FieldT Tryz.prog 72 0 0:=X0q (n:=1) Tryz.underlying72 rfl rfl O3 rfl
theorem X1n:FieldT Tryz.prog 72 1 1:=X0q (n:=1) Tryz.underlying72 rfl rfl O3 rfl
theorem X55:FieldT Tryz.prog 72 2 2:=X0q (n:=1) Tryz.underlying72 rfl rfl O3 rfl
theorem X1l:FieldT Tryz.prog 62 0 0:=X0q (n:=5) Tryz.underlying62 rfl rfl O3 rfl
theorem X2o:FieldT Tryz.prog 62 1 5:=X0q (n:=1) Tryz.underlying62 rfl rfl O3 rfl
theorem X3e:FieldT Tryz.prog 62 2 6:=X0q (n:=1) Tryz.underlying62 rfl rfl O3 rfl
theorem Xu:FieldT Tryz.prog 119 0 0:=X0q (n:=5) Tryz.underlying119 rfl rfl O3 rfl
theorem X18:FieldT Tryz.prog 119 1 5:=X0q (n:=1) Tryz.underlying119 rfl rfl O3 rfl
theorem X1p:FieldT Tryz.prog 119 2 6:=X0q (n:=1) Tryz.underlying119 rfl rfl O3 rfl
theorem X3q:SliceT Tryz.prog 24 66:=Tryz.underlying24
theorem Xy:SliceT Tryz.prog 56 3:=Tryz.underlying56
theorem X21:SliceT Tryz.prog 35 78:=Tryz.underlying35
theorem X1t:SliceT Tryz.prog 60 4:=Tryz.underlying60
theorem X8h:SliceT Tryz.prog 213 76:=Tryz.underlying213
theorem X5l:SliceT Tryz.prog 22 5:=Tryz.underlying22
theorem X29:SliceT Tryz.prog 88 9:=Tryz.underlying88
theorem Xp:SliceT Tryz.prog 28 64:=Tryz.underlying28
theorem Xx:SliceT Tryz.prog 29 72:=Tryz.underlying29
theorem X2j:InfoT Tryz.prog 3 1 8:=X4c (z:=.int .i64 0) O3 rfl O4
theorem Xlo:InfoT Tryz.prog 4 1 1:=X4c (z:=.bool false) O3 rfl O4
theorem X61:InfoT Tryz.prog 9 1 16:=X4c (z:=.string ByteArray.empty) O3 rfl O4
theorem X6m:InfoT Tryz.prog 66 3 24:=X4c (z:=.agg #[.int .i64 0,.int .i64 0,.int .i64 0]) O3 rfl O4
theorem X97:InfoT Tryz.prog 76 4 32:=X4c (z:=.agg #[.int .i64 0,.int .i64 0,.int .i64 0,.int .i64 0]) O3 rfl O4
theorem X31:InfoT Tryz.prog 78 5 40:=X4c (z:=.agg #[.int .i64 0,.int .i64 0,.int .i64 0,.int .i64 0,.int .i64 0]) O3 rfl O4
theorem X1r:InfoT Tryz.prog 64 2 16:=X4c (z:=.agg #[.int .i64 0,.int .i64 0]) O3 rfl O4
theorem X1v:InfoT Tryz.prog 72 3 24:=X4c (z:=.agg #[.int .i64 0,.int .i64 0,.bool false]) O3 rfl O4
theorem Xt8:FuncF Tryz.prog 27:=X5 Tryz.func27 O1 rfl
theorem Y1d:FuncF Tryz.prog 23:=X5 Tryz.func23 O1 rfl
theorem Xt9:FuncF Tryz.prog 39:=X5 Tryz.func39 O1 rfl
theorem X4b:FuncF Tryz.prog 65:=X5 Tryz.func65 O1 rfl
theorem X4g:FuncF Tryz.prog 56:=X5 Tryz.func56 O1 rfl
theorem Y1e:FuncF Tryz.prog 101:=X5 Tryz.func101 O1 rfl
theorem Xvs:FuncF Tryz.prog 66:=X5 Tryz.func66 O1 rfl
theorem Xvt:FuncF Tryz.prog 57:=X5 Tryz.func57 O1 rfl
theorem Xvu:FuncF Tryz.prog 58:=X5 Tryz.func58 O1 rfl
theorem Xvv:FuncF Tryz.prog 59:=X5 Tryz.func59 O1 rfl
theorem Xvw:FuncF Tryz.prog 10:=X5 Tryz.func10 O1 rfl
theorem Xky:FuncF Tryz.prog 152:=X5 Tryz.func152 O1 rfl
theorem Xvx:FuncF Tryz.prog 85:=X5 Tryz.func85 O1 rfl
theorem Xkz:FuncF Tryz.prog 11:=X5 Tryz.func11 O1 rfl
theorem Xvy:FuncF Tryz.prog 84:=X5 Tryz.func84 O1 rfl
theorem Xvz:FuncF Tryz.prog 140:=X5 Tryz.func140 O1 rfl
theorem Xw0:FuncF Tryz.prog 100:=X5 Tryz.func100 O1 rfl
theorem Xw1:FuncF Tryz.prog 35:=X5 Tryz.func35 O1 rfl
theorem Xw2:FuncF Tryz.prog 36:=X5 Tryz.func36 O1 rfl
theorem Xw3:FuncF Tryz.prog 37:=X5 Tryz.func37 O1 rfl
theorem Xw4:FuncF Tryz.prog 32:=X5 Tryz.func32 O1 rfl
theorem Xl0:FuncF Tryz.prog 78:=X5 Tryz.func78 O1 rfl
theorem Xw5:FuncF Tryz.prog 118:=X5 Tryz.func118 O1 rfl
theorem Xw6:FuncF Tryz.prog 121:=X5 Tryz.func121 O1 rfl
theorem Xw7:FuncF Tryz.prog 119:=X5 Tryz.func119 O1 rfl
theorem Xw8:FuncF Tryz.prog 120:=X5 Tryz.func120 O1 rfl
theorem X5v:FuncF Tryz.prog 86:=X5 Tryz.func86 O1 rfl
theorem Xl1:FuncF Tryz.prog 122:=X5 Tryz.func122 O1 rfl
theorem Xl2:FuncF Tryz.prog 154:=X5 Tryz.func154 O1 rfl
theorem Xl3:FuncF Tryz.prog 79:=X5 Tryz.func79 O1 rfl
theorem Xf9:FuncF Tryz.prog 156:=X5 Tryz.func156 O1 rfl
theorem Xfa:FuncF Tryz.prog 116:=X5 Tryz.func116 O1 rfl
theorem X5e:FuncF Tryz.prog 134:=X5 Tryz.func134 O1 rfl
theorem Xw9:FuncF Tryz.prog 159:=X5 Tryz.func159 O1 rfl
theorem Xbw:FuncF Tryz.prog 157:=X5 Tryz.func157 O1 rfl
theorem Xbx:FuncF Tryz.prog 138:=X5 Tryz.func138 O1 rfl
theorem Xfb:FuncF Tryz.prog 139:=X5 Tryz.func139 O1 rfl
theorem Xl4:FuncF Tryz.prog 136:=X5 Tryz.func136 O1 rfl
theorem Xwa:FuncF Tryz.prog 158:=X5 Tryz.func158 O1 rfl
theorem Xbz:FuncF Tryz.prog 188:=X5 Tryz.func188 O1 rfl
theorem Xl5:FuncF Tryz.prog 155:=X5 Tryz.func155 O1 rfl
theorem Xwb:FuncF Tryz.prog 117:=X5 Tryz.func117 O1 rfl
theorem Xwc:FuncF Tryz.prog 189:=X5 Tryz.func189 O1 rfl
theorem Xc2:FuncF Tryz.prog 137:=X5 Tryz.func137 O1 rfl
theorem Xfc:FuncF Tryz.prog 141:=X5 Tryz.func141 O1 rfl
theorem Xl6:FuncF Tryz.prog 177:=X5 Tryz.func177 O1 rfl
theorem Xwd:FuncF Tryz.prog 206:=X5 Tryz.func206 O1 rfl
theorem Xwe:FuncF Tryz.prog 176:=X5 Tryz.func176 O1 rfl
theorem Xwf:FuncF Tryz.prog 115:=X5 Tryz.func115 O1 rfl
theorem Xpi:FuncF Tryz.prog 4:=X5 Tryz.func4 O1 rfl
theorem X1b:FuncF Tryz.prog 22:=X5 Tryz.func22 O1 rfl
theorem Xgu:FuncF Tryz.prog 19:=X5 Tryz.func19 O1 rfl
theorem Xgv:FuncF Tryz.prog 54:=X5 Tryz.func54 O1 rfl
theorem Xpj:FuncF Tryz.prog 20:=X5 Tryz.func20 O1 rfl
theorem X6h:FuncF Tryz.prog 53:=X5 Tryz.func53 O1 rfl
theorem Xgw:FuncF Tryz.prog 55:=X5 Tryz.func55 O1 rfl
theorem Xgx:FuncF Tryz.prog 151:=X5 Tryz.func151 O1 rfl
theorem Xpk:FuncF Tryz.prog 52:=X5 Tryz.func52 O1 rfl
theorem X8z:FuncF Tryz.prog 21:=X5 Tryz.func21 O1 rfl
theorem Xpl:FuncF Tryz.prog 81:=X5 Tryz.func81 O1 rfl
theorem Xpm:FuncF Tryz.prog 82:=X5 Tryz.func82 O1 rfl
theorem Xpn:FuncF Tryz.prog 63:=X5 Tryz.func63 O1 rfl
theorem Xpo:FuncF Tryz.prog 50:=X5 Tryz.func50 O1 rfl
theorem Xgy:FuncF Tryz.prog 97:=X5 Tryz.func97 O1 rfl
theorem Xpp:FuncF Tryz.prog 98:=X5 Tryz.func98 O1 rfl
theorem Xbv:FuncF Tryz.prog 41:=X5 Tryz.func41 O1 rfl
theorem X7l:FuncF Tryz.prog 38:=X5 Tryz.func38 O1 rfl
theorem Xpq:FuncF Tryz.prog 40:=X5 Tryz.func40 O1 rfl
theorem X90:FuncF Tryz.prog 114:=X5 Tryz.func114 O1 rfl
theorem Xpr:FuncF Tryz.prog 51:=X5 Tryz.func51 O1 rfl
theorem Xps:FuncF Tryz.prog 99:=X5 Tryz.func99 O1 rfl
theorem Xpt:FuncF Tryz.prog 142:=X5 Tryz.func142 O1 rfl
theorem Xby:FuncF Tryz.prog 42:=X5 Tryz.func42 O1 rfl
theorem X4w:FuncF Tryz.prog 43:=X5 Tryz.func43 O1 rfl
theorem Xpu:FuncF Tryz.prog 92:=X5 Tryz.func92 O1 rfl
theorem Xgz:FuncF Tryz.prog 8:=X5 Tryz.func8 O1 rfl
theorem Xpv:FuncF Tryz.prog 17:=X5 Tryz.func17 O1 rfl
theorem Xpw:FuncF Tryz.prog 16:=X5 Tryz.func16 O1 rfl
theorem Xh0:FuncF Tryz.prog 9:=X5 Tryz.func9 O1 rfl
theorem Xpx:FuncF Tryz.prog 7:=X5 Tryz.func7 O1 rfl
theorem Xpy:FuncF Tryz.prog 6:=X5 Tryz.func6 O1 rfl
theorem X91:FuncF Tryz.prog 30:=X5 Tryz.func30 O1 rfl
theorem Xc0:FuncF Tryz.prog 29:=X5 Tryz.func29 O1 rfl
theorem Xc1:FuncF Tryz.prog 48:=X5 Tryz.func48 O1 rfl
theorem Xpz:FuncF Tryz.prog 49:=X5 Tryz.func49 O1 rfl
theorem Xq0:FuncF Tryz.prog 95:=X5 Tryz.func95 O1 rfl
theorem Xq1:FuncF Tryz.prog 31:=X5 Tryz.func31 O1 rfl
theorem Xq2:FuncF Tryz.prog 33:=X5 Tryz.func33 O1 rfl
theorem Xq3:FuncF Tryz.prog 34:=X5 Tryz.func34 O1 rfl
theorem Xq4:FuncF Tryz.prog 47:=X5 Tryz.func47 O1 rfl
theorem Xq5:FuncF Tryz.prog 26:=X5 Tryz.func26 O1 rfl
theorem Xh1:FuncF Tryz.prog 28:=X5 Tryz.func28 O1 rfl
theorem Xq6:FuncF Tryz.prog 24:=X5 Tryz.func24 O1 rfl
theorem Xh2:FuncF Tryz.prog 25:=X5 Tryz.func25 O1 rfl
theorem Xq7:FuncF Tryz.prog 72:=X5 Tryz.func72 O1 rfl
theorem Xq8:FuncF Tryz.prog 73:=X5 Tryz.func73 O1 rfl
theorem Xq9:FuncF Tryz.prog 74:=X5 Tryz.func74 O1 rfl
theorem Xqa:FuncF Tryz.prog 75:=X5 Tryz.func75 O1 rfl
theorem Xqb:FuncF Tryz.prog 76:=X5 Tryz.func76 O1 rfl
theorem X7m:FuncF Tryz.prog 77:=X5 Tryz.func77 O1 rfl
theorem Xh3:FuncF Tryz.prog 69:=X5 Tryz.func69 O1 rfl
theorem Xqc:FuncF Tryz.prog 70:=X5 Tryz.func70 O1 rfl
theorem Xqd:FuncF Tryz.prog 71:=X5 Tryz.func71 O1 rfl
theorem Xqe:FuncF Tryz.prog 96:=X5 Tryz.func96 O1 rfl
theorem Xh4:FuncF Tryz.prog 112:=X5 Tryz.func112 O1 rfl
theorem Xqf:FuncF Tryz.prog 133:=X5 Tryz.func133 O1 rfl
theorem Xqg:FuncF Tryz.prog 80:=X5 Tryz.func80 O1 rfl
theorem Xqh:FuncF Tryz.prog 83:=X5 Tryz.func83 O1 rfl
theorem Xh5:FuncF Tryz.prog 64:=X5 Tryz.func64 O1 rfl
theorem Xqi:FuncF Tryz.prog 104:=X5 Tryz.func104 O1 rfl
theorem Xc3:FuncF Tryz.prog 149:=X5 Tryz.func149 O1 rfl
theorem Xh6:FuncF Tryz.prog 150:=X5 Tryz.func150 O1 rfl
theorem X7n:FuncF Tryz.prog 109:=X5 Tryz.func109 O1 rfl
theorem Xh7:FuncF Tryz.prog 67:=X5 Tryz.func67 O1 rfl
theorem X92:FuncF Tryz.prog 68:=X5 Tryz.func68 O1 rfl
theorem X5f:FuncF Tryz.prog 60:=X5 Tryz.func60 O1 rfl
theorem X93:FuncF Tryz.prog 61:=X5 Tryz.func61 O1 rfl
theorem Xh8:FuncF Tryz.prog 62:=X5 Tryz.func62 O1 rfl
theorem Xqj:FuncF Tryz.prog 111:=X5 Tryz.func111 O1 rfl
theorem Xh9:FuncF Tryz.prog 113:=X5 Tryz.func113 O1 rfl
theorem Xc4:FuncF Tryz.prog 110:=X5 Tryz.func110 O1 rfl
theorem Xqk:FuncF Tryz.prog 135:=X5 Tryz.func135 O1 rfl
theorem Xql:FuncF Tryz.prog 143:=X5 Tryz.func143 O1 rfl
theorem Xha:FuncF Tryz.prog 103:=X5 Tryz.func103 O1 rfl
theorem Xqm:FuncF Tryz.prog 153:=X5 Tryz.func153 O1 rfl
theorem Xqn:FuncF Tryz.prog 105:=X5 Tryz.func105 O1 rfl
theorem Xqo:FuncF Tryz.prog 145:=X5 Tryz.func145 O1 rfl
theorem X39:FuncF Tryz.prog 106:=X5 Tryz.func106 O1 rfl
theorem X4x:FuncF Tryz.prog 107:=X5 Tryz.func107 O1 rfl
theorem X94:FuncF Tryz.prog 108:=X5 Tryz.func108 O1 rfl
theorem Xc5:FuncF Tryz.prog 102:=X5 Tryz.func102 O1 rfl
theorem Xqp:FuncF Tryz.prog 144:=X5 Tryz.func144 O1 rfl
theorem X6i:FuncF Tryz.prog 148:=X5 Tryz.func148 O1 rfl
theorem Xqq:FuncF Tryz.prog 5:=X5 Tryz.func5 O1 rfl
theorem Xhb:FuncF Tryz.prog 12:=X5 Tryz.func12 O1 rfl
theorem Xqr:FuncF Tryz.prog 13:=X5 Tryz.func13 O1 rfl
theorem Xqs:FuncF Tryz.prog 14:=X5 Tryz.func14 O1 rfl
theorem Xqt:FuncF Tryz.prog 15:=X5 Tryz.func15 O1 rfl
theorem Xqu:FuncF Tryz.prog 18:=X5 Tryz.func18 O1 rfl
theorem Xqv:FuncF Tryz.prog 44:=X5 Tryz.func44 O1 rfl
theorem Xqw:FuncF Tryz.prog 45:=X5 Tryz.func45 O1 rfl
theorem Xqx:FuncF Tryz.prog 46:=X5 Tryz.func46 O1 rfl
theorem Xqy:FuncF Tryz.prog 93:=X5 Tryz.func93 O1 rfl
theorem Xc6:FuncF Tryz.prog 94:=X5 Tryz.func94 O1 rfl
theorem mixed:Tryz.prog.follows .mixedOrders=true:=by kernel_rfl
end Go.Proofs.YtgobkmhhckhbfaaGreatDoor
namespace Go.Proofs.YtgobkmhhckhbfaaGreatDoor
open Go.RowKit
section
variable {P : Program} {a : Act} {w : World} {n : Nat} {e : Env} {ty : TypeId} {pos : String} {af : Array Edge} {g : Option (Nat × Bool)} {d : Option Tmp}
variable {t t' : TypeId} {x y : Operand} {i j : Int}
theorem Xvg(hf:Fr a n e)(hx:ev e x=some (.int .i64 i))(hy:ev e y=some (.int .i64 j))(h0:(j==0)=false) : Ev P ⟨d,.binOp .rem t x y t',ty,pos,af,g⟩ a w (.int .i64 (i.tmod j)):=fun w' _=>by
 have h0':j≠0:=by rintro rfl;simp at h0
 simp [execOp,hf.ev hx,hf.ev hy,eqGuard,binOp,Op.intDiv,h0']
theorem X4n(hx:ev e x=some (.int .i64 i))(hy:ev e y=some (.int .i64 j))(h0:(j==0)=false) : EvW P ⟨d,.binOp .rem t x y t',ty,pos,af,g⟩ n e w (.int .i64 (i.tmod j)):=fun a hf=>Xvg hf hx hy h0
theorem Xvf(hf:Fr a n e)(hx:ev e x=some (.int .i64 i))(hy:ev e y=some (.int .i64 j))(h0:(j==0)=false) : Ev P ⟨d,.binOp .quo t x y t',ty,pos,af,g⟩ a w (.int .i64 (IntKind.i64.wrap (i.tdiv j))):=fun w' _=>by
 have h0':j≠0:=by rintro rfl;simp at h0
 simp [execOp,hf.ev hx,hf.ev hy,eqGuard,binOp,Op.intDiv,h0']
theorem Xbj(hx:ev e x=some (.int .i64 i))(hy:ev e y=some (.int .i64 j))(h0:(j==0)=false) : EvW P ⟨d,.binOp .quo t x y t',ty,pos,af,g⟩ n e w (.int .i64 (IntKind.i64.wrap (i.tdiv j))):=fun a hf=>Xvf hf hx hy h0
theorem Xpa(hf:Fr a n e)(hx:ev e x=some (.int .i64 i))(hy:ev e y=some (.int .i64 j))(h1:-9223372036854775808<=i*j)(h2:i*j<=9223372036854775807) : Ev P ⟨d,.binOp .mul t x y t',ty,pos,af,g⟩ a w (.int .i64 (i*j)):=fun w' _=>by
 have h:IntKind.i64.wrap (i*j)=i*j:=IntWalk.i64_in _ ⟨h1,h2⟩
 simp [execOp,hf.ev hx,hf.ev hy,eqGuard,binOp,Op.intArith,h]
theorem X5t(hx:ev e x=some (.int .i64 i))(hy:ev e y=some (.int .i64 j))(h1:-9223372036854775808<=i*j)(h2:i*j<=9223372036854775807) : EvW P ⟨d,.binOp .mul t x y t',ty,pos,af,g⟩ n e w (.int .i64 (i*j)):=fun a hf=>Xpa hf hx hy h1 h2
theorem Xp8{m k:Nat}(hf:Fr a n e)(hx:ev e x=some (.int .i64 (m:Int)))(hy:ev e y=some (.int .i64 (k:Int)))(hb:m*k<=4611686018427387904) : Ev P ⟨d,.binOp .mul t x y t',ty,pos,af,g⟩ a w (.int .i64 ((m*k:Nat) : Int)):=fun w' _=>by
 have h:IntKind.i64.wrap ((m:Int)*(k:Int))=((m*k:Nat) : Int):=by
  rw [<- Int.natCast_mul]
  exact IntWalk.i64_in _ ⟨by omega,by omega⟩
 simp [execOp,hf.ev hx,hf.ev hy,eqGuard,binOp,Op.intArith,h]
theorem Xal{m k:Nat}(hx:ev e x=some (.int .i64 (m:Int)))(hy:ev e y=some (.int .i64 (k:Int)))(hb:m*k<=4611686018427387904) : EvW P ⟨d,.binOp .mul t x y t',ty,pos,af,g⟩ n e w (.int .i64 ((m*k:Nat) : Int)):=fun a hf=>Xp8 hf hx hy hb
theorem Xkq{k:IntKind}{m:Nat}(hf:Fr a n e)(hx:ev e x=some (.int .i64 i))(hy:ev e y=some (.int k j))(hj:j=(m:Int))(hm:m<=64) : Ev P ⟨d,.binOp .shl t x y t',ty,pos,af,g⟩ a w (.int .i64 (IntKind.i64.wrap (i*2^m))):=fun w' _=>by
 subst hj
 have hm':min m 64=m:=by omega
 simp [execOp,hf.ev hx,hf.ev hy,eqGuard,binOp,Op.shift,IntKind.bits,hm']
theorem Xbk{k:IntKind}{m:Nat}(hx:ev e x=some (.int .i64 i))(hy:ev e y=some (.int k j))(hj:j=(m:Int))(hm:m<=64) : EvW P ⟨d,.binOp .shl t x y t',ty,pos,af,g⟩ n e w (.int .i64 (IntKind.i64.wrap (i*2^m))):=fun a hf=>Xkq hf hx hy hj hm
theorem Xvh{k:IntKind}{m:Nat}(hf:Fr a n e)(hx:ev e x=some (.int .i64 i))(hy:ev e y=some (.int k j))(hj:j=(m:Int))(hm:m<=64) : Ev P ⟨d,.binOp .shr t x y t',ty,pos,af,g⟩ a w (.int .i64 (i/2^m)):=fun w' _=>by
 subst hj
 have hm':min m 64=m:=by omega
 simp [execOp,hf.ev hx,hf.ev hy,eqGuard,binOp,Op.shift,IntKind.bits,hm']
theorem Xod{k:IntKind}{m:Nat}(hx:ev e x=some (.int .i64 i))(hy:ev e y=some (.int k j))(hj:j=(m:Int))(hm:m<=64) : EvW P ⟨d,.binOp .shr t x y t',ty,pos,af,g⟩ n e w (.int .i64 (i/2^m)):=fun a hf=>Xvh hf hx hy hj hm
theorem Xis(hf:Fr a n e)(hx:ev e x=some (.int .i64 i))(hy:ev e y=some (.int .i64 j)) : Ev P ⟨d,.binOp .andNot t x y t',ty,pos,af,g⟩ a w (.int .i64 (bits .andNot .i64 i j)):=fun w' _=>by
 simp [execOp,hf.ev hx,hf.ev hy,eqGuard,binOp,Op.intBits,bits]
theorem Xoa(hx:ev e x=some (.int .i64 i))(hy:ev e y=some (.int .i64 j)) : EvW P ⟨d,.binOp .andNot t x y t',ty,pos,af,g⟩ n e w (.int .i64 (bits .andNot .i64 i j)):=fun a hf=>Xis hf hx hy
theorem Xvd{p:Addr}(hf:Fr a n e)(hx:ev e x=some (.pointer (some p))) : Ev P ⟨d,.nilCheck x,ty,pos,af,g⟩ a w (.pointer (some p)):=fun w' _=>by
 simp [execOp,hf.ev hx]
theorem Xw{p:Addr}(hx:ev e x=some (.pointer (some p))) : EvW P ⟨d,.nilCheck x,ty,pos,af,g⟩ n e w (.pointer (some p)):=fun a hf=>Xvd hf hx
end
theorem Rd.atV{α:Type}{w:World}{B b0:Nat}{E T0:TypeId}{enc:α->List Value}{A:Option Addr}{l:List α}{l0:List Value}{sz:Nat}(hsz:∀ x,(enc x).length=sz)(h:Rd w B E enc A l){k:Nat}{x:α}(hk:l[k]? = some x)
  (hb:Blk w b0 T0 l0) (hT:Nat.beq E T0=false) : ∃ p,A=some p/\At w (p.add (k*sz)) (enc x)/\(p.add (k*sz)).block≠b0:=by
 obtain ⟨p,h1,h2⟩:=h.at hsz hk
 refine ⟨p,h1,h2,?_⟩
 have hl:l≠[]:=by rintro rfl;simp at hk
 obtain ⟨b,off,cs,fz,h3,h4,h5,h6⟩:=h hl
 rw [h1] at h3
 injection h3 with h3
 subst h3
 rw [X70]
 rintro rfl
 unfold Blk at hb
 rw [h5] at hb
 injection hb with hb
 injection hb with _ e
 subst e
 simp at hT
section
variable {P : Program} {a : Act} {w : World} {n : Nat} {e : Env} {α : Type} {ops : Array Oper} {ty : TypeId} {pos : String} {af : Array Edge} {g : Option (Nat × Bool)} {d : Nat}
theorem Xna{b0:Nat}{l0:List Value}{Q:Act->World->Prop}{tl:Nat->Bool}{fuel:Nat}{done:List Nat}{T E T0:TypeId}{sz B:Nat}{x y:Operand}{enc:α->List Value}{A:Option Addr}{c:Nat}{l:List α}{k:Nat}{i:Int}{u:α}(j:Nat)
  (ho:ops[j]? = some ⟨some d,.indexAddr T x y,ty,pos,af,g⟩) (hm:mayFirst ops done j=true) (hf:Fr a n e) (hw:Want ops ⟨some d,.indexAddr T x y,ty,pos,af,g⟩ e) (hn:Nat.blt d n=true)
  (hb:Blk w b0 T0 l0) (hT0:Nat.beq E T0=false)
  (hx:ev e x=some (.slice A l.length c)) (hy:ev e y=some (.int .i64 i)) (hT:SliceT P T E) (hs:SizeT P E sz) (hsz:∀ x,(enc x).length=sz) (hr:Rd w B E enc A l) (hk:l[k]? = some u) (hi:i=(k:Int))
  (h:∀ a' p,At w p (enc u)->p.block≠b0->Fr a' n ((d,.pointer (some p))::e)->wpS P ops (some b0) tl Q fuel (mask ops (j::done)) a' w) : wpS P ops (some b0) tl Q (fuel+1) (mask ops done) a w:=by
 obtain ⟨p,rfl,hat,hne⟩:=hr.atV hsz hk hb hT0;exact Xn9 j ho hm hf hw O hn (fun w=>X7i hf hx hy hT hs hi (Qg.1 hk).1) fun a' hf'=>h a' _ hat hne hf'
theorem Ya{b0:Nat}{l0:List Value}{Q:Act->World->Prop}{tl:Nat->Bool}{fuel:Nat}{done:List Nat}{T E T0:TypeId}{sz B:Nat}{x y:Operand}{enc:α->List Value}{A:Option Addr}{c:Nat}{l:List α}{k:Nat}{i:Int}{u:α}(j:Nat)
  (ho:ops[j]? = some ⟨some d,.indexAddr T x y,ty,pos,af,g⟩) (hw:Want ops ⟨some d,.indexAddr T x y,ty,pos,af,g⟩ e) (hb:Blk w b0 T0 l0) (hT0:Nat.beq E T0=false)
  (hx:ev e x=some (.slice A l.length c)) (hy:ev e y=some (.int .i64 i)) (hT:SliceT P T E) (hs:SizeT P E sz) (hsz:∀ x,(enc x).length=sz) (hr:Rd w B E enc A l) (hk:l[k]? = some u) (hi:i=(k:Int))
  (h:∀ p,At w p (enc u)->p.block≠b0->WS P ops (some b0) tl Q fuel (j::done) n ((d,.pointer (some p))::e) w) (hm:mayFirst ops done j=true:=by kernel_rfl) (hn:Nat.blt d n=true:=by rfl) : WS P ops (some b0) tl Q (fuel+1) done n e w:=
 fun _ hf=>Xna j ho hm hf hw hn hb hT0 hx hy hT hs hsz hr hk hi fun a' p hp hne hf'=>h p hp hne a' hf'
end
theorem Own.lower{α:Type}{w:World}{B0 B1:Nat}{E:TypeId}{sz:Nat}{enc:α->List Value}{A:Option Addr}{c:Nat}{l:List α}(h:Own w B0 E sz enc A c l)(hB:B1<=B0) : Own w B1 E sz enc A c l:=by
 refine ⟨h.1,?_⟩
 rcases h.2 with h1|⟨g,cap,cur,h1,h2,h3⟩
 ·exact .inl h1
 ·exact .inr ⟨g,cap,cur,h1,Q0 hB h2,h3⟩
section
variable {α : Type} {P : Program} {a : Act} {w : World} {n : Nat} {e : Env} {ty : TypeId} {pos : String} {af : Array Edge} {g : Option (Nat × Bool)} {d : Option Tmp}
theorem Xaf{T E:TypeId}{sz bytes B B2:Nat}{x y:Operand}{enc:α->List Value}{A A2:Option Addr}{c c2:Nat}{l l2:List α}(hf:Fr a n e)(hx:ev e x=some (.slice A l.length c))(hy:ev e y=some (.slice A2 l2.length c2))
  (hT:SliceT P T E) (hi:InfoT P E sz bytes) (hsz:∀ x,(enc x).length=sz) (ho:Rd w B E enc A l) (hr:Rd w B2 E enc A2 l2) (hc:c=l.length) (hl:l≠[]) (hl2:l2≠[]) (h63:l.length+l2.length<=maxLen) (hbytes:(l.length+l2.length)*bytes<=140737488355328) :
  Ef P ⟨d,.call ⟨.builtin .append,#[x,y],#[T,T]⟩,ty,pos,af,g⟩ a w (fun v w'=>∃ A' c',v=.slice A' (l++l2).length c'/\Own w' w.heap.size E sz enc A' c' (l++l2)/\Below w.heap.size w w'):=by
 obtain ⟨i,z,hi1,hi2,rfl,rfl,hi5,hi6⟩:=hi;obtain ⟨b1,off1,cs1,fz1,rfl,_,k1,k2⟩:=ho hl;obtain ⟨b,off,cs,fz,rfl,h2,h3,h4⟩:=hr hl2;have hlen1:=Xq hsz l;have hlen2:=Xq hsz l2
 have hpos:0<l2.length:=List.length_pos_iff.2 hl2
 have h:=run_append_grow (P:=P) w T ty E i z hT hi1 hi2 ⟨b1,off1,none⟩ l.length c (l.flatMap enc) hlen1 (fun j u hu=>by
   have:=k2 j u hu
   rw [X24]
   simp [World.cell?,k1,this])
  ⟨b,off,none⟩ l2.length c2 (l2.flatMap enc) hlen2 (fun j u hu=>by
   have:=h4 j u hu
   rw [X24]
   simp [World.cell?,h3,this])
  Z (by simp only [maxLen] at h63;omega) (growslice_fits Z hbytes)
 refine (Ef.of_run (w':=w.drew.alloc (.cells ((l.flatMap enc).toArray++(l2.flatMap enc).toArray++Builtin.zeroCells z.cells (grownCap w (l.length+l2.length) c E-(l.length+l2.length))) E)) (v:=.slice (some ⟨w.heap.size,0,none⟩) (l.length+l2.length) (grownCap w (l.length+l2.length) c E)) ?_).mono fun v w' ⟨e1,e2⟩=>?_
 ·simp [execOp,resolve,invoke,builtin,hf.ev hx,hf.ev hy,h]
 ·subst e1;subst e2
  refine ⟨_,_,by rw [Qh],?_,((Below.refl _ _).drew).alloc (Qb _) _⟩
  refine ⟨Xq hsz _,.inr ⟨w.heap.size,_,_,O,Qb _,heap_alloc_new w.drew _,?_,grownCap_le_maxLen w _ _ E h63,?_,?_⟩⟩
  ·rw [Qh];exact grownCap_ge w _ _ E
  ·have hge:=grownCap_ge w (l.length+l2.length) c E
   simp only [Array.size_append,List.size_toArray,size_zeroCells,hi5,hlen1,hlen2,<- Wb]
   congr 1
   omega
  ·have e3:(l++l2).length*i.size=(l.flatMap enc++l2.flatMap enc).length:=by rw [Qh,Qh,hlen1,hlen2,Wb]
   rw [e3]
   simp only [Array.toList_append,List.flatMap_append,Qx]
   rw [<- Qx]
   exact List.take_left
theorem Xdb{T E:TypeId}{sz bytes B B2:Nat}{x y:Operand}{enc:α->List Value}{A A2:Option Addr}{c c2:Nat}{l l2:List α}(hx:ev e x=some (.slice A l.length c))(hy:ev e y=some (.slice A2 l2.length c2))(hT:SliceT P T E)(hi:InfoT P E sz bytes)(hsz:∀ x,(enc x).length=sz)(ho:Rd w B E enc A l)(hr:Rd w B2 E enc A2 l2)(hc:c=l.length)(hl:l≠[])(hl2:l2≠[])(h63:l.length+l2.length<=maxLen)(hbytes:(l.length+l2.length)*bytes<=140737488355328) : EfW P ⟨d,.call ⟨.builtin .append,#[x,y],#[T,T]⟩,ty,pos,af,g⟩ n e w (fun v w'=>∃ A' c',v=.slice A' (l++l2).length c'/\Own w' w.heap.size E sz enc A' c' (l++l2)/\Below w.heap.size w w'):=fun a hf=>Xaf hf hx hy hT hi hsz ho hr hc hl hl2 h63 hbytes
end
abbrev wr(i:Int) : Int:=IntKind.i64.wrap i
theorem X0v{i:Int}(h1:-9223372036854775808<=i)(h2:i<=9223372036854775807) : wr i=i:=IntWalk.i64_in _ ⟨h1,h2⟩
structure Rg where (a b c d:Int) deriving DecidableEq
structure Dy where (num:Rg) (exp:Int) deriving DecidableEq
structure Gt where (k a b:Int) deriving DecidableEq
def encI(i:Int) : List Value:=[.int .i64 i]
def encR(r:Rg) : List Value:=[.int .i64 r.a,.int .i64 r.b,.int .i64 r.c,.int .i64 r.d]
def encD(x:Dy) : List Value:=[.int .i64 x.num.a,.int .i64 x.num.b,.int .i64 x.num.c,.int .i64 x.num.d,.int .i64 x.exp]
def encG(x:Gt) : List Value:=[.int .i64 x.k,.int .i64 x.a,.int .i64 x.b]
theorem Xn:∀ x,(encI x).length=1:=fun _=>rfl
theorem Xdr:∀ x,(encR x).length=4:=fun _=>rfl
theorem X1x:∀ x,(encD x).length=5:=fun _=>rfl
theorem X3u:∀ x,(encG x).length=3:=fun _=>rfl
theorem X33:∀ x,(encI x).all one=true:=fun _=>rfl
theorem X54:∀ x,(encD x).all one=true:=fun _=>rfl
theorem X9s:∀ x,(encG x).all one=true:=fun _=>rfl
abbrev rV(r:Rg) : Value:=.agg #[.int .i64 r.a,.int .i64 r.b,.int .i64 r.c,.int .i64 r.d]
abbrev dV(x:Dy) : Value:=.agg #[.int .i64 x.num.a,.int .i64 x.num.b,.int .i64 x.num.c,.int .i64 x.num.d,.int .i64 x.exp]
abbrev gV(x:Gt) : Value:=.agg #[.int .i64 x.k,.int .i64 x.a,.int .i64 x.b]
def inR(n lo hi:Int) : Bool:=decide (lo<=n)&&decide (n<=hi)
def rOk(x:Rg) : Bool:=inR x.a (-1000000000) 1000000000&&inR x.b (-1000000000) 1000000000&&inR x.c (-1000000000) 1000000000&&inR x.d (-1000000000) 1000000000
def rAdd(x y:Rg) : Rg:=⟨wr (x.a+y.a),wr (x.b+y.b),wr (x.c+y.c),wr (x.d+y.d)⟩
def rNeg(x:Rg) : Rg:=⟨wr (-x.a),wr (-x.b),wr (-x.c),wr (-x.d)⟩
def rMul(x y:Rg) : Rg:=
 ⟨wr (wr (wr (wr (x.a*y.a)-wr (x.b*y.d))-wr (x.c*y.c))-wr (x.d*y.b)),
 wr (wr (wr (wr (x.a*y.b)+wr (x.b*y.a))-wr (x.c*y.d))-wr (x.d*y.c)),
 wr (wr (wr (wr (x.a*y.c)+wr (x.b*y.b))+wr (x.c*y.a))-wr (x.d*y.d)),
 wr (wr (wr (wr (x.a*y.d)+wr (x.b*y.c))+wr (x.c*y.b))+wr (x.d*y.a))⟩
def rRoot(x:Rg) : Rg:=⟨wr (x.b-x.d),wr (x.a+x.c),wr (x.b+x.d),wr (x.c-x.a)⟩
def rEven(x:Rg) : Bool:=(wr (x.a+x.c)).tmod 2==0&&(wr (x.b+x.d)).tmod 2==0
def rHalf(x:Rg) : Rg:=⟨wr ((rRoot x).a.tdiv 2),wr ((rRoot x).b.tdiv 2),wr ((rRoot x).c.tdiv 2),wr ((rRoot x).d.tdiv 2)⟩
def rOm(x:Rg) : Rg:=⟨wr (-x.d),x.a,x.b,x.c⟩
def rTurnN:Nat->Rg->Rg
 | 0,x=>x
 | k+1,x=>rTurnN k (rOm x)
def turns(k:Int) : Int:=(wr (k.tmod 8+8)).tmod 8
def rTurn(x:Rg)(k:Int) : Rg:=rTurnN (turns k).toNat x
def lowN:Nat->Rg->Rg×Nat
 | 0,x=>(x,0)
 | m+1,x=>if rEven x then lowN m (rHalf x) else (x,m+1)
def dLow(x:Rg)(exp:Int) : Dy:=⟨(lowN exp.toNat x).1,if 0<exp then ((lowN exp.toNat x).2:Int) else exp⟩
def dPow(k:Int) : Dy:=⟨rTurn ⟨1,0,0,0⟩ k,0⟩
def dNeg(x:Dy) : Dy:=⟨rNeg x.num,x.exp⟩
def dZ:Dy:=⟨⟨0,0,0,0⟩,0⟩
theorem X43{x:Rg}{exp:Int}(h0:0<exp)(he:rEven x=true) : dLow x exp=dLow (rHalf x) (exp-1):=by
 obtain ⟨m,hm⟩ : ∃ m:Nat,exp=m+1:=⟨(exp-1).toNat,by omega⟩
 subst hm
 have e1:((m:Int)+1).toNat=m+1:=by omega
 have e2:((m:Int)+1-1)=m:=by omega
 unfold dLow
 rw [e1,e2,Qj]
 simp only [lowN,he,if_true,h0]
 cases m with
 | zero=>simp [lowN]
 | succ k=>simp
theorem X2w{x:Rg}{exp:Int}(h:0<exp->rEven x=false) : dLow x exp=⟨x,exp⟩:=by
 unfold dLow
 by_cases h0:0<exp
 ·obtain ⟨m,hm⟩ : ∃ m:Nat,exp=m+1:=⟨(exp-1).toNat,by omega⟩
  subst hm
  have e1:((m:Int)+1).toNat=m+1:=by omega
  rw [e1]
  simp only [lowN,h h0,Bool.false_eq_true,if_false,h0,if_true]
  rfl
 ·have e1:exp.toNat=0:=by omega
  rw [e1]
  simp [lowN,h0]
section
variable {α : Type} {p : α -> Bool} {l : List α} {k : Nat} {u : α}
theorem X5a(h:(l.take k).all p=true)(hu:l[k]? = some u)(hp:p u=true) : (l.take (k+1)).all p=true:=by
 rw [Qt,hu]
 simp only [List.all_append,h,Option.toList_some,List.all_cons,hp,List.all_nil,Bool.and_self]
theorem Xao(hu:l[k]? = some u)(hp:p u=false) : l.all p=false:=by grind
theorem X4m(h:(l.take k).all p=true)(hk:l.length<=k) : l.all p=true:=by rwa [Qi hk] at h
end
theorem X7e{α:Type}{p:α->Bool}{l:List α}{k:Nat}{u:α}(hu:l[k]? = some u)(hp:p u=true) : l.any p=true:=by grind
theorem X6c{α:Type}{p:α->Bool}{l:List α}(h:l.all (fun x=>!p x)=true) : l.any p=false:=by grind
theorem X8p(k:Int) : 0<=turns k/\turns k<8:=by
 have h1:-8<k.tmod 8/\k.tmod 8<8:=by
  rcases Int.le_total 0 k with h|h
  ·rw [Int.tmod_eq_emod_of_nonneg h];omega
  ·have h2:(-k).tmod 8 = -(k.tmod 8):=Int.neg_tmod _ _
   rw [Int.tmod_eq_emod_of_nonneg Z] at h2
   omega
 unfold turns
 rw [X0v Z Z]
 have h4:0<=k.tmod 8+8:=by omega
 rw [Int.tmod_eq_emod_of_nonneg h4]
 omega
def rIf2(x:Rg)(l:List Rg) : Bool:=(l++[x]).all rOk
def rIf1(x:Rg)(l:List Rg) : Rg:=if rIf2 x l=true then x else ⟨0,0,0,0⟩
def rDiv2(x:Rg) : Bool:=rOk x&&rEven x
def rDiv1(x:Rg) : Rg:=if rDiv2 x=true then rHalf x else ⟨0,0,0,0⟩
theorem X0o{n lo hi:Int} : inR n lo hi=true↔lo<=n/\n<=hi:=by simp [inR]
theorem X3l{x:Rg} : rOk x=true↔(-1000000000<=x.a/\x.a<=1000000000)/\(-1000000000<=x.b/\x.b<=1000000000)/\(-1000000000<=x.c/\x.c<=1000000000)/\(-1000000000<=x.d/\x.d<=1000000000):=by
 simp only [rOk,Qd,X0o,and_assoc]
theorem Xg0{i:Int}(h1:-2000000000<=i)(h2:i<=2000000000) : -1000000000<=i.tdiv 2/\i.tdiv 2<=1000000000:=by grind
theorem X5i{i:Int}(h1:-2000000000<=i)(h2:i<=2000000000) : -1000000000<=wr ((wr i).tdiv 2)/\wr ((wr i).tdiv 2)<=1000000000:=by
 rw [X0v (i:=i) Z Z]
 have:=Xg0 h1 h2
 rw [X0v Z Z]
 exact this
theorem X63{x:Rg}(h:rOk x=true) : rOk (rHalf x)=true:=by
 rw [X3l] at h ⊢
 exact ⟨X5i Z Z,X5i Z Z,X5i Z Z,X5i Z Z⟩
theorem Xn3{x:Rg}(h:rOk x=true) : rIf2 (rHalf x) [x]=true:=by simp [rIf2,h,X63 h]
def dOk(x:Dy) : Bool:=rOk x.num&&inR x.exp 0 60&&(x.exp==0||!rEven x.num)
theorem X6e{x:Dy}(h:dOk x=true) : 0<=x.exp/\x.exp<=60:=by
 simp only [dOk,Qd,X0o] at h
 exact h.1.2
theorem Xb3{a b:Bool}(h:(!a||!b)=true) : (a&&b)=false:=by revert h;cases a<;>cases b<;>simp
theorem Xed{a b:Bool}(h:(!a||!b)=false) : (a&&b)=true:=by revert h;cases a<;>cases b<;>simp
def dOf(x:Rg)(m:Int) : Option Dy:=if (rOk x&&inR m 0 60)=true then some (dLow x m) else none
def raiseI:Nat->Rg->Rg×Bool
 | 0,y=>(y,true)
 | n+1,y=>if rIf2 (rRoot y) [y]=true then raiseI n (rRoot y) else (⟨0,0,0,0⟩,false)
def dRaise(x:Dy)(m:Int) : Rg×Bool:=raiseI (m-x.exp).toNat x.num
def dAddI(x y:Dy) : Option Dy:=
 if (dOk x&&dOk y)=true then
  if ((dRaise x (max x.exp y.exp)).2&&(dRaise y (max x.exp y.exp)).2&&rIf2 (rAdd (dRaise x (max x.exp y.exp)).1 (dRaise y (max x.exp y.exp)).1) [(dRaise x (max x.exp y.exp)).1,(dRaise y (max x.exp y.exp)).1])=true then
   dOf (rIf1 (rAdd (dRaise x (max x.exp y.exp)).1 (dRaise y (max x.exp y.exp)).1) [(dRaise x (max x.exp y.exp)).1,(dRaise y (max x.exp y.exp)).1]) (max x.exp y.exp)
  else none
 else none
def dMulI(x y:Dy) : Option Dy:=
 if (dOk x&&dOk y&&rIf2 (rMul x.num y.num) [x.num,y.num])=true then dOf (rIf1 (rMul x.num y.num) [x.num,y.num]) (x.exp+y.exp) else none
structure Mx where (rows cols:Int) (cells:List Dy)
def mZ:Mx:=⟨0,0,[]⟩
abbrev mV(A:Option Addr)(c:Nat)(m:Mx) : Value:=.agg #[.int .i64 m.rows,.int .i64 m.cols,.slice A m.cells.length c]
def isDimB(n:Int) : Bool:=inR n 1 32&&bits .and .i64 n (wr (n-1))==0
def mOk(m:Mx) : Bool:=isDimB m.rows&&isDimB m.cols&&(m.cells.length:Int)==wr (m.rows*m.cols)&&!(m.cells.any fun x=>!dOk x)
def seqO(g:Nat->Option Dy) : Nat->Option (List Dy)
 | 0=>some []
 | n+1=>match seqO g n,g n with
  | some l,some x=>some (l++[x])
  | _,_=>none
theorem Xjc{g:Nat->Option Dy}{n:Nat}{l:List Dy}{x:Dy}(h:seqO g n=some l)(hx:g n=some x) : seqO g (n+1)=some (l++[x]):=by simp [seqO,h,hx]
theorem Xb7{g:Nat->Option Dy}{n:Nat}(hx:g n=none) : ∀ m,n<m->seqO g m=none
 | 0,h=>by omega
 | m+1,h=>by
  by_cases hm:n=m
  ·subst hm
   simp only [seqO,hx]
   split<;>simp_all
  ·simp only [seqO,Xb7 hx m Z]
theorem X66{g:Nat->Option Dy} : ∀ {n:Nat} {l:List Dy},seqO g n=some l->l.length=n
 | 0,l,h=>by simp [seqO] at h;subst h;rfl
 | n+1,l,h=>by
  simp only [seqO] at h
  split at h
  ·rename_i l' x h1 h2
   injection h with h
   subst h
   simp [X66 h1]
  ·cases h
def gridG(f:Nat->Nat->Option Dy)(C:Nat)(n:Nat) : Option Dy:=f (n/C) (n % C)
theorem X9x{f:Nat->Nat->Option Dy}{C i j:Nat}(hj:j<C) : gridG f C (i*C+j)=f i j:=by
 unfold gridG
 have h1:(i*C+j)/C=i:=by rw [Wi,Nat.mul_add_div Z,Nat.div_eq_of_lt hj];omega
 have h2:(i*C+j) % C=j:=by rw [Wi,Nat.mul_add_mod,Nat.mod_eq_of_lt hj]
 rw [h1,h2]
def matOf(R C:Int)(f:Nat->Nat->Option Dy) : Option Mx:=
 if (isDimB R&&isDimB C)=true then (seqO (gridG f C.toNat) (R.toNat*C.toNat)).map fun l=>⟨R,C,l⟩ else none
def Mx.at(m:Mx)(i j:Nat) : Dy:=m.cells.getD (i*m.cols.toNat+j) dZ
theorem Mx.at_get{m:Mx}{i j:Nat}(h:i*m.cols.toNat+j<m.cells.length) : m.cells[i*m.cols.toNat+j]? = some (m.at i j):=by
 rw [Mx.at,Qa,Qc h];rfl
theorem X45{n:Int}(h:isDimB n=true) : 1<=n/\n<=32:=by
 simp only [isDimB,Qd,X0o] at h
 exact h.1
theorem X98{m:Mx}(h:mOk m=true) : (1<=m.rows/\m.rows<=32)/\(1<=m.cols/\m.cols<=32)/\m.cells.length=m.rows.toNat*m.cols.toNat:=by
 simp only [mOk,Qd,beq_iff_eq] at h
 obtain ⟨⟨⟨h1,h2⟩,h3⟩,h4⟩:=h;have h1:=X45 h1;have h2:=X45 h2
 refine ⟨h1,h2,?_⟩
 obtain ⟨r,hr⟩ : ∃ r:Nat,m.rows=r:=⟨m.rows.toNat,by omega⟩
 obtain ⟨c,hc⟩ : ∃ c:Nat,m.cols=c:=⟨m.cols.toNat,by omega⟩
 rw [hr] at h1
 rw [hc] at h2
 rw [hr,hc] at h3 ⊢
 have h5:r*c<=32*32:=Nat.mul_le_mul Z Z
 rw [<- Int.natCast_mul,X0v Z Z] at h3
 simp only [Qj]
 exact Int.natCast_inj.1 h3
theorem X4y{R C i j:Nat}(hi:i<R)(hj:j<C) : i*C+j<R*C:=by
 have h1:(i+1)*C<=R*C:=Nat.mul_le_mul_right _ hi
 rw [Wb] at h1
 omega
def dotI(a b:Mx)(i j:Nat) : Nat->Option Dy
 | 0=>some dZ
 | n+1=>(dotI a b i j n).bind fun s=>(dMulI (a.at i n) (b.at n j)).bind fun x=>dAddI s x
def mulI(a b:Mx) : Option Mx:=if (mOk a&&mOk b&&a.cols==b.rows)=true then matOf a.rows b.cols fun i j=>dotI a b i j a.cols.toNat else none
def idI(n:Int) : Option Mx:=matOf n n fun i j=>some (if i=j then ⟨⟨1,0,0,0⟩,0⟩ else dZ)
theorem X6j{P:Program}{t:TypeId}{fs:Array Field}(h:P.underlying t=some (.struct fs)) : P.fieldsOf t=fs:=by simp [Program.fieldsOf,h]
theorem X6r{P:Program}{w:World}{t k:Nat}{xs:Array Value}{v:Value}(h1:OneT P t)(h:xs[k]? = some v) : (part t xs k).run P w=.ok v w:=by
 simp [part,X51 h1,h]
theorem X2e {P : Program} {w : World} {d : Nat} {xs ys : Array Value} {f : Field} {fs : List Field} {k : IntKind} {i j : Int} (hn : f.name ≠ "_") (hT : OneT P f.type) (hu : P.underlying f.type = some (.int k)) (hx : xs[f.offset]? = some (.int .i64 i)) (hy : ys[f.offset]? = some (.int .i64 j))
  {r:Bool} (h:i=j->(Op.eqFields (d+1) xs ys fs).run P w=.ok r w) : (Op.eqFields (d+1) xs ys (f::fs)).run P w=.ok (decide (i=j)&&r) w:=by
 simp only [Op.eqFields,hn,ne_eq,not_false_eq_true,if_true,Sem.run_bind,X6r hT hx,X6r hT hy,Result.andThen_ok,run_equalIn_int _ _ _ _ _ _ _ hu]
 by_cases hij:i=j
 ·subst hij
  simp [h rfl]
 ·simp [hij]
theorem eqR(d:Nat)(x y:Rg)(w:World) : (Op.equalIn (d+2) 76 (rV x) (rV y)).run Tryz.prog w=.ok (decide (x=y)) w:=by
 have hf:=X6j Tryz.underlying76;refine (run_equalIn_struct w (d+1) 76 _ _ (by rw [hf];exact Tryz.underlying76) O3).trans ?_
 rw [hf]
 have:decide (x=y)=(decide (x.a=y.a)&&(decide (x.b=y.b)&&(decide (x.c=y.c)&&(decide (x.d=y.d)&&true)))):=by
  obtain ⟨a,b,c,d⟩:=x;obtain ⟨a',b',c',d'⟩:=y
  simp
 rw [this]
 refine X2e O4 X2 Tryz.underlying3 O O fun _=>?_;refine X2e O4 X2 Tryz.underlying3 O O fun _=>?_;refine X2e O4 X2 Tryz.underlying3 O O fun _=>?_;refine X2e O4 X2 Tryz.underlying3 O O fun _=>?_
 rfl
theorem Xja{P:Program}{w:World}{t k n:Nat}{xs:Array Value}(h1:AggT P t n) : (part t xs k).run P w=.ok (.agg (xs.extract k (k+n))) w:=by
 simp [part,X6y h1,run_sizeOf' h1.2]
theorem Xbt {P : Program} {w : World} {d n : Nat} {xs ys : Array Value} {f : Field} {fs : List Field} {v1 v2 : Value} {b r : Bool} (hn : f.name ≠ "_") (hT : AggT P f.type n) (hx : .agg (xs.extract f.offset (f.offset + n)) = v1) (hy : .agg (ys.extract f.offset (f.offset + n)) = v2)
  (he:(Op.equalIn d f.type v1 v2).run P w=.ok b w) (h:b=true->(Op.eqFields d xs ys fs).run P w=.ok r w) : (Op.eqFields d xs ys (f::fs)).run P w=.ok (b&&r) w:=by
 simp only [Op.eqFields,hn,ne_eq,not_false_eq_true,if_true,Sem.run_bind,Xja hT,Result.andThen_ok,hx,hy,he]
 cases b
 ·simp
 ·simp [h rfl]
theorem eqD(d:Nat)(x y:Dy)(w:World) : (Op.equalIn (d+3) 78 (dV x) (dV y)).run Tryz.prog w=.ok (decide (x=y)) w:=by
 have hf:=X6j Tryz.underlying78;refine (run_equalIn_struct w (d+2) 78 _ _ (by rw [hf];exact Tryz.underlying78) O3).trans ?_
 rw [hf]
 have:decide (x=y)=(decide (x.num=y.num)&&(decide (x.exp=y.exp)&&true)):=by
  obtain ⟨a,b⟩:=x;obtain ⟨a',b'⟩:=y
  simp
 rw [this]
 refine Xbt (v1:=rV x.num) (v2:=rV y.num) O4 X0j O O (eqR d _ _ _) fun _=>?_;exact X2e O4 X2 Tryz.underlying3 O O fun _=>rfl
section
variable {P : Program} {a : Act} {w : World} {n : Nat} {e : Env} {ty : TypeId} {pos : String} {af : Array Edge} {g : Option (Nat × Bool)} {d : Option Tmp} {t t' : TypeId} {x y : Operand} {X Y : Array Value} {b : Bool}
theorem Xp3(hf:Fr a n e)(hx:ev e x=some (.agg X))(hy:ev e y=some (.agg Y))(hm:P.eqGuardType P.depth t=false)(he:∀ w,(Op.equalIn 10000 t (.agg X) (.agg Y)).run P w=.ok b w) : Ev P ⟨d,.binOp .eql t x y t',ty,pos,af,g⟩ a w (.bool b):=fun w' _=>by
 have h1:=run_eqGuard_agg (P:=P) w' .eql t x y X Y hm;have h2:=run_eql_struct (P:=P) w' t X Y
 rw [he] at h2
 simp [execOp,hf.ev hx,hf.ev hy,h1,h2]
theorem Xjr(hx:ev e x=some (.agg X))(hy:ev e y=some (.agg Y))(hm:P.eqGuardType P.depth t=false)(he:∀ w,(Op.equalIn 10000 t (.agg X) (.agg Y)).run P w=.ok b w) : EvW P ⟨d,.binOp .eql t x y t',ty,pos,af,g⟩ n e w (.bool b):=fun a hf=>Xp3 hf hx hy hm he
theorem Xpb(hf:Fr a n e)(hx:ev e x=some (.agg X))(hy:ev e y=some (.agg Y))(hm:P.eqGuardType P.depth t=false)(he:∀ w,(Op.equalIn 10000 t (.agg X) (.agg Y)).run P w=.ok b w) : Ev P ⟨d,.binOp .neq t x y t',ty,pos,af,g⟩ a w (.bool (!b)):=fun w' _=>by
 have h1:=run_eqGuard_agg (P:=P) w' .neq t x y X Y hm;have h2:=run_neq_struct (P:=P) w' t X Y
 rw [he] at h2
 simp [execOp,hf.ev hx,hf.ev hy,h1,h2]
theorem Xjt(hx:ev e x=some (.agg X))(hy:ev e y=some (.agg Y))(hm:P.eqGuardType P.depth t=false)(he:∀ w,(Op.equalIn 10000 t (.agg X) (.agg Y)).run P w=.ok b w) : EvW P ⟨d,.binOp .neq t x y t',ty,pos,af,g⟩ n e w (.bool (!b)):=fun a hf=>Xpb hf hx hy hm he
end
theorem Xwh:Tryz.prog.eqGuardType Tryz.prog.depth 78=false:=by kernel_rfl
theorem Xrw{α:Type}{l m:List α}{k:Nat}{u v:α}(h:l.take k=m.take k)(hu:l[k]? = some u)(hv:m[k]? = some v)(he:u=v) : l.take (k+1)=m.take (k+1):=by
 rw [Qt,Qt,h,hu,hv,he]
theorem Xvl{P:Program}{a:Act}{w:World}{n:Nat}{e:Env}{ty:TypeId}{pos:String}{af:Array Edge}{g:Option (Nat×Bool)}{d:Option Tmp}{s t:TypeId}{x:Operand}{i:Int}{m:Nat}(hs:P.underlying s=some (.int .i64))(ht:P.underlying t=some (.int .u64))(hf:Fr a n e)(hx:ev e x=some (.int .i64 i))(hi:i=(m:Int))(hm:m<=64) :
  Ev P ⟨d,.convert s t x,ty,pos,af,g⟩ a w (.int .u64 (m:Int)):=fun w' _=>by
 subst hi
 have h:IntKind.u64.wrap (m:Int)=(m:Int):=by
  simp only [IntKind.wrap]
  simp only [IntKind.bits,IntKind.signed,Bool.false_and,Bool.false_eq_true,if_false]
  omega
 simp [execOp,hf.ev hx,convert,X0m hs,X0m ht,Conv.intToInt,h]
theorem Xew{P:Program}{w:World}{n:Nat}{e:Env}{ty:TypeId}{pos:String}{af:Array Edge}{g:Option (Nat×Bool)}{d:Option Tmp}{s t:TypeId}{x:Operand}{i:Int}{m:Nat}(hs:P.underlying s=some (.int .i64))(ht:P.underlying t=some (.int .u64))(hx:ev e x=some (.int .i64 i))(hi:i=(m:Int))(hm:m<=64) : EvW P ⟨d,.convert s t x,ty,pos,af,g⟩ n e w (.int .u64 (m:Int)):=fun a hf=>Xvl hs ht hf hx hi hm
def bitF(n s q:Int) : Int:=bits .and .i64 (s/2^(n-1-q).toNat) 1
def flipF(n s q:Int) : Int:=bits .xor .i64 s (wr (1*2^(n-1-q).toNat))
def turnOf(k:Int) : Int:=if k=4 then 4 else if k=5 then 2 else if k=6 then 6 else if k=7 then 1 else 7
theorem Xnv{k:Int}(h1:4<=k)(h2:k<=8) : ([4,2,6,1,7] : List Int)[(k-4).toNat]? = some (turnOf k):=by
 have:k=4∨k=5∨k=6∨k=7∨k=8:=by omega
 rcases this with rfl|rfl|rfl|rfl|rfl<;>rfl
def dHalf:Dy:=⟨⟨1,0,0,0⟩,1⟩
def oneL(k:Int) : List Dy:=
 if k=1 then [dHalf,dHalf,dHalf,dNeg dHalf] else if k=2 then [dZ,dPow 0,dPow 0,dZ] else if k=3 then [dZ,dPow 6,dPow 2,dZ] else [dPow 0,dZ,dZ,dPow (turnOf k)]
theorem Own.of_blkL{α:Type}{w:World}{B0 b k:Nat}{E:TypeId}{sz:Nat}{enc:α->List Value}{cs:List Value}{l:List α}(hsz:∀ x,(enc x).length=sz)(h:Blk w b E cs)(hb:B0<=b)(hc:l.flatMap enc=cs)(hl:l.length=k)(hk:k<=maxLen) : Own w B0 E sz enc (some ⟨b,0,none⟩) k l:=by
 subst hc;subst hl
 have h1:=Xq hsz l
 refine ⟨h1,.inr ⟨b,l.length,_,O,hb,h,Qb _,hk,?_,?_⟩⟩
 ·simpa using h1
 ·rw [<- h1];exact List.take_length
structure Cx where (n:Int) (gs:List Gt)
def gOk(n:Int)(x:Gt) : Bool:=
 inR n 1 5&&inR x.k 1 12&&(if x.k=12 then x.a==0&&x.b==0 else if inR x.k 9 11=true then inR x.a 0 (n-1)&&inR x.b 0 (n-1)&&x.a != x.b else inR x.a 0 (n-1)&&x.b==0)
def cOk(c:Cx) : Bool:=inR c.n 1 5&&decide ((c.gs.length:Int)<=400)&&!(c.gs.any fun x=>!gOk c.n x)
def sRing(x:Rg) : Rg:=if rOk x=true then x else ⟨0,0,0,0⟩
def sRaiseN:Nat->Bool->Dy->Bool×Dy
 | 0,f,x=>(f,x)
 | n+1,f,x=>sRaiseN n (f||!rOk (rRoot x.num)) ⟨sRing (rRoot x.num),x.exp+1⟩
def sAdd(f:Bool)(x y:Dy) : Bool×Dy:=
 ((sRaiseN ((sRaiseN (y.exp-x.exp).toNat f x).2.exp-y.exp).toNat (sRaiseN (y.exp-x.exp).toNat f x).1 y).1||!rOk (rAdd (sRaiseN (y.exp-x.exp).toNat f x).2.num (sRaiseN ((sRaiseN (y.exp-x.exp).toNat f x).2.exp-y.exp).toNat (sRaiseN (y.exp-x.exp).toNat f x).1 y).2.num),
 dLow (sRing (rAdd (sRaiseN (y.exp-x.exp).toNat f x).2.num (sRaiseN ((sRaiseN (y.exp-x.exp).toNat f x).2.exp-y.exp).toNat (sRaiseN (y.exp-x.exp).toNat f x).1 y).2.num)) (sRaiseN (y.exp-x.exp).toNat f x).2.exp)
def sMul(f:Bool)(x y:Dy) : Bool×Dy:=
 if 60<x.exp+y.exp then (true,dZ) else (f||!rOk (rMul x.num y.num),dLow (sRing (rMul x.num y.num)) (x.exp+y.exp))
theorem X8o{f1 f:Bool}{x1 x:Dy}{m:Int}{k:Nat}(h:sRaiseN (m-x1.exp).toNat f1 x1=sRaiseN k f x)(hlt:x1.exp<m) :
  sRaiseN (m-(x1.exp+1)).toNat (f1||!rOk (rRoot x1.num)) ⟨sRing (rRoot x1.num),x1.exp+1⟩=sRaiseN k f x:=by
 rw [<- h]
 obtain ⟨j,hj⟩ : ∃ j,(m-x1.exp).toNat=j+1:=⟨(m-x1.exp).toNat-1,by omega⟩
 rw [hj,show (m-(x1.exp+1)).toNat=j from by omega]
 rfl
theorem X8n{f1 f:Bool}{x1 x:Dy}{m:Int}{k:Nat}(h:sRaiseN (m-x1.exp).toNat f1 x1=sRaiseN k f x)(hlt:¬ x1.exp<m) : sRaiseN k f x=(f1,x1):=by
 rw [<- h,show (m-x1.exp).toNat=0 from by omega]
 rfl
theorem X47(n s q:Int) : bitF n s q=0∨bitF n s q=1:=by
 have key:∀ b:BitVec 64,IntKind.i64.wrap ((b &&& BitVec.ofInt 64 1).toNat:Int)=0∨IntKind.i64.wrap ((b &&& BitVec.ofInt 64 1).toNat:Int)=1:=fun b=>by
  have:(BitVec.ofInt 64 1).toNat=1:=by decide
  have h:(b &&& BitVec.ofInt 64 1).toNat=0∨(b &&& BitVec.ofInt 64 1).toNat=1:=by
   rw [BitVec.toNat_and,this,Nat.and_one_is_mod]
   omega
  rcases h with h|h<;>rw [h]
  ·exact .inl O
  ·exact .inr O
 exact key _
theorem X2i{n:Int}{g:Gt}(h:gOk n g=true) : (1<=n/\n<=5)/\(1<=g.k/\g.k<=12)/\(g.k≠12->0<=g.a/\g.a<n)/\(9<=g.k/\g.k<=11->0<=g.b/\g.b<n/\g.a≠g.b):=by
 simp only [gOk,Qd,X0o] at h
 obtain ⟨⟨h1,h2⟩,h3⟩:=h
 refine ⟨h1,h2,fun hk=>?_,fun hk=>?_⟩
 ·rw [Q3 hk] at h3
  split at h3<;>simp only [Qd,X0o] at h3<;>omega
 ·rw [Q3 Z,Q4 hk] at h3
  simp only [Qd,X0o,bne_iff_ne] at h3
  exact ⟨h3.1.2.1,by omega,h3.2⟩
def toS(n:Int)(g:Gt)(col:Int) : Int:=
 if g.k=9 then (if bitF n col g.a=1 then flipF n col g.b else col) else if g.k=11 then (if bitF n col g.a≠bitF n col g.b then flipF n (flipF n col g.a) g.b else col) else col
def valS(n:Int)(g:Gt)(col:Int) : Dy:=if g.k=12 then dPow 1 else if g.k=10/\bitF n col g.a=1/\bitF n col g.b=1 then dPow 4 else dPow 0
def cellS(n:Int)(g:Gt)(row col:Int) : Dy:=
 if g.k<=8 then (if bits .andNot .i64 (bits .xor .i64 row col) (wr (1*2^(n-1-g.a).toNat))≠0 then dZ else (oneL g.k).getD (2*bitF n row g.a+bitF n col g.a).toNat dZ)
 else if row=toS n g col then valS n g col else dZ
theorem Xmr{k:Int}{m:Nat}(h:m<4) : (oneL k)[m]? = some ((oneL k).getD m dZ):=by grind [dZ,oneL]
theorem X2c{i j:Int}(h:(i==j)=false) : ¬ i=j:=by simpa using h
theorem Xpd{P:Program}{a:Act}{w:World}{n:Nat}{e:Env}{ty:TypeId}{pos:String}{af:Array Edge}{g:Option (Nat×Bool)}{d:Option Tmp}{t t':TypeId}{x y:Operand}{j:Int}{k:IntKind}{m D:Nat}(hf:Fr a n e)(hx:ev e x=some (.int .i64 1))(hy:ev e y=some (.int k j))(hj:j=(m:Int))(hD:D=2^m/\m<=30) : Ev P ⟨d,.binOp .shl t x y t',ty,pos,af,g⟩ a w (.int .i64 (D:Int)):=by
 have h:=Xkq (P:=P) (w:=w) (d:=d) (ty:=ty) (pos:=pos) (af:=af) (g:=g) (t:=t) (t':=t') (i:=1) hf hx hy hj Z
 have h2:IntKind.i64.wrap (1*2^m)=(D:Int):=by
  rw [hD.1]
  have h3:(2:Nat)^m<=2^30:=Nat.pow_le_pow_right O4 hD.2
  have h4:(2:Int)^m=((2^m:Nat) : Int):=by simp
  rw [Int.one_mul,h4]
  exact IntWalk.i64_in _ ⟨by omega,by omega⟩
 rwa [h2] at h
theorem Xsu{P:Program}{w:World}{n:Nat}{e:Env}{ty:TypeId}{pos:String}{af:Array Edge}{g:Option (Nat×Bool)}{d:Option Tmp}{t t':TypeId}{x y:Operand}{j:Int}{k:IntKind}{m D:Nat}(hx:ev e x=some (.int .i64 1))(hy:ev e y=some (.int k j))(hj:j=(m:Int))(hD:D=2^m/\m<=30) : EvW P ⟨d,.binOp .shl t x y t',ty,pos,af,g⟩ n e w (.int .i64 (D:Int)):=fun a hf=>Xpd hf hx hy hj hD
def gridF(f:Nat->Nat->Dy)(C:Nat)(m:Nat) : Dy:=f (m/C) (m % C)
def gridL(f:Nat->Nat->Dy)(C:Nat)(N:Nat) : List Dy:=(List.range N).map (gridF f C)
theorem Xe0{f:Nat->Nat->Dy}{C i j:Nat}(hj:j<C) : gridF f C (i*C+j)=f i j:=by
 unfold gridF
 have h1:(i*C+j)/C=i:=by rw [Wi,Nat.mul_add_div Z,Nat.div_eq_of_lt hj];omega
 have h2:(i*C+j) % C=j:=by rw [Wi,Nat.mul_add_mod,Nat.mod_eq_of_lt hj]
 rw [h1,h2]
theorem X9y{f:Nat->Nat->Dy}{C i j:Nat}(hj:j<C) : gridL f C (i*C+(j+1))=gridL f C (i*C+j)++[f i j]:=by
 unfold gridL
 rw [show i*C+(j+1)=(i*C+j)+1 from O,List.range_succ,List.map_append,List.map_singleton,Xe0 hj]
theorem X56(f:Nat->Nat->Dy)(C N:Nat) : (gridL f C N).length=N:=by simp [gridL]
def gateS(n:Int)(g:Gt) : Mx:=⟨((2^n.toNat:Nat) : Int),((2^n.toNat:Nat) : Int),gridL (fun i j=>cellS n g i j) (2^n.toNat) (2^n.toNat*2^n.toNat)⟩
theorem X80{n:Int}(h:n<=5) : 2^n.toNat<=32:=Nat.pow_le_pow_right (n:=2) O4 (show n.toNat<=5 by omega)
section
variable {n : Int} {g : Gt} (hn : 1 <= n /\ n <= 5)
include hn
theorem Y3w(h:inR g.k 1 8=true) : gOk n g=(inR g.a 0 (n-1)&&g.b==0):=by grind [gOk,inR]
theorem Y3x(h:inR g.k 9 11=true) : gOk n g=(inR g.a 0 (n-1)&&inR g.b 0 (n-1)&&g.a != g.b):=by grind [gOk,inR]
theorem Y3y(h1:inR g.k 1 8=false)(h2:inR g.k 9 11=false) : gOk n g=(g.k==12&&g.a==0&&g.b==0):=by grind [gOk,inR]
end
def entryI(k i j:Int) : Dy:=
 if k=1 then (if i=1/\j=1 then ⟨⟨-1,0,0,0⟩,1⟩ else dHalf) else if k=2/\i≠j then ⟨⟨1,0,0,0⟩,0⟩ else if k=3/\i≠j then dPow (2+4*j)
 else if k=2∨k=3∨i≠j then dZ else if i=0 then ⟨⟨1,0,0,0⟩,0⟩ else dPow (turnOf k)
def czI(n:Int)(g:Gt)(i:Int) : Bool:=g.k==10&&bitF n i g.a==1&&bitF n i g.b==1
def cellI(n:Int)(g:Gt)(i j:Int) : Dy:=
 if g.k=12 then (if i=j then dPow 1 else dZ)
 else if inR g.k 9 11=true then (if toS n g i=j then dPow (4*(if czI n g i=true then 1 else 0)) else dZ)
 else if i=j∨flipF n i g.a=j then entryI g.k (bitF n i g.a) (bitF n j g.a) else dZ
def gateI(n:Int)(g:Gt) : Option Mx:=if gOk n g=true then matOf ((2^n.toNat:Nat) : Int) ((2^n.toNat:Nat) : Int) fun i j=>some (cellI n g i j) else none
theorem F91(w0:World)(n:Int)(lo:Int)(hi:Int) : Ret Tryz.prog 56 [vi n,vi lo,vi hi] w0 (fun v w=>v=.bool (inR n lo hi)/\w0=w):=by
 refine enter Tryz.func56 O 15 O O ?_;intro a c
 have hW:=bz w0
 refine Zs c fun _ a6=>?_;refine Za O<|ZX a6 fun a c _ a7=>?_;refine X0p (fun a w=>Fr a 15 [(6,.bool ((decide (lo<=n))&&(decide (n<=hi))))]/\w0=w) ?_ ?_
 ·refine Zr c<|Zm O<|Zm O<|Ze (Xdc O O)<|Zm O ?_
  refine Zg 10 O (fun b=>?_) (fun b=>?_)
  ·refine Zv (gW b) (X3 O) ?_;refine Zv (gW b) (X3 O) ?_;refine Zv (gW b) (Xdc O O) ?_;refine Ze (Xa O b O)<|Za O ?_;refine Zn fun a c=>?_;exact ⟨c.sub ⟨X1 O (by first|rfl|(simp only [b,bs];done)|simp [b]),trivial⟩,O⟩
  (iterate 3 refine Zp (gP b) ?_);refine Ze (Xh O b O)<|Za O ?_;refine Zn fun a c=>?_;exact ⟨c.sub ⟨X1 O (by first|rfl|(simp only [b,bs];done)|simp [b]),trivial⟩,O⟩
 rintro a _ ⟨c,rfl⟩;refine a7 _ _ ?_
 refine Q6 (X4 c (Xo c O O) ?_)
 exact ⟨by simp [inR, *],rfl⟩
theorem F85(w0:World)(n:Int)(lo:Int)(hi:Int) : Ret Tryz.prog 65 [vi n,vi lo,vi hi] w0 (fun v w=>v=.bool (inR n lo hi)/\w0=w):=by
 refine enter Tryz.func65 O 15 O O ?_;intro a c
 have hW:=bz w0
 refine Zs c fun _ a6=>?_;refine Za O<|ZX a6 fun a c _ a7=>?_;refine X0p (fun a w=>Fr a 15 [(6,.bool ((decide (lo<=n))&&(decide (n<=hi))))]/\w0=w) ?_ ?_
 ·refine Zr c<|Zm O<|Zm O<|Ze (X8s O O)<|Zm O ?_
  refine Zg 10 O (fun b=>?_) (fun b=>?_)
  ·refine Zv (gW b) (X3 O) ?_;refine Zv (gW b) (X3 O) ?_;refine Zv (gW b) (Xdc O O) ?_;refine Ze (Xa O b O)<|Za O ?_;refine Zn fun a c=>?_;exact ⟨c.sub ⟨X1 O (by first|rfl|(simp only [b,bs];done)|simp [b]),trivial⟩,O⟩
  (iterate 3 refine Zp (gP b) ?_);refine Ze (Xh O b O)<|Za O ?_;refine Zn fun a c=>?_;exact ⟨c.sub ⟨X1 O (by first|rfl|(simp only [b,bs];done)|simp [b]),trivial⟩,O⟩
 rintro a _ ⟨c,rfl⟩;refine a7 _ _ ?_
 refine Q6 (X4 c (Xo c O O) ?_)
 exact ⟨by simp [inR, *],rfl⟩
theorem Xy7(w0:World)(x:Int)(y:Int) : Ret Tryz.prog 152 [vi x,vi y] w0 (fun v w=>v=vi (max x y)/\w0=w):=by
 refine enter Tryz.func152 O 10 O O ?_;intro a b
 have hW:=bz w0
 refine Zs b fun _ a7=>?_;refine Za O<|ZX a7 fun a b _ a8=>?_;refine Zs b fun _ aA=>?_;refine Zm O<|Zm O<|Ze (X4e O O)<|Zt aA fun a b=>?_
 refine X0z b O (fun a6 aB=>?_) (fun a6 aB=>?_)
 ·refine Zs b fun _ aC=>?_;refine Zm O<|Za O<|Zt aC fun a b=>?_;refine Q6<|X7<|X4 b (Xo b O O) ?_;exact ⟨by congr 1;omega,rfl⟩
 refine Q7<|a8 _ _<|Zs b fun _ aD=>?_;refine Zm O<|Za O<|Zt aD fun a b=>?_
 refine Q6 (X4 b (Xo b O O) ?_)
 exact ⟨by congr 1;omega,rfl⟩
theorem F99(w0:World)(k:Int) : Ret Tryz.prog 101 [vi k] w0 (fun v w=>v=.bool (inR k 9 11)/\w0=w):=by
 refine enter Tryz.func101 O 5 O O ?_;intro a hf
 have hW:=bz w0
 refine Zs hf fun _ a6=>?_;refine Za O<|Zx a6 fun a hf _ a7=>?_;refine Zm O<|Zf (Vc (F91 _ k 9 11) X4g) ?_;rintro _ _ ⟨rfl,rfl⟩;refine Za O<|Zt a7 fun a hf=>?_
 refine Q6 (X4 hf (Xo hf O O) ?_)
 exact ⟨O,O⟩
theorem Y3i(d:World)(Al:Option Addr)(cl:Nat)(l:List Int)(aA:Rd d d.heap.size 3 encI Al l)(lo:Int)(e:Int)(aO:l.length<=2305843009213693951) : Ret Tryz.prog 176 [.slice Al l.length cl,vi lo,vi e] d (fun v w=>v=.bool (l.all fun n=>inR n lo e)/\Below d.heap.size d w):=by
 refine enter Tryz.func176 O 21 O O ?_;intro a b
 have hW:=bz d
 refine Zs b fun _ aG=>?_;refine Za O<|ZX aG fun a b _ aH=>?_;refine Zs b fun _ aI=>?_;refine Zm O<|Ze (X11 O Xy)<|Zm O<|Zt aI fun a b=>?_;refine Q8<|X00 (σ:=Nat) (fun (k:Nat) (a:Act) (w:World)=>Fr a 21 [(1,vi lo),(2,vi e),(9,.slice Al l.length cl),(10,vi (l.length:Int)),(11,vi (k:Int))]/\(k<=l.length)/\((l.take k).all (fun n=>inR n lo e)=true)/\Below d.heap.size d w) (fun (k:Nat)=>l.length+1-k) 0 ?_ ?_
 ·exact ⟨b.sb,(Qf _),O5,hW⟩
 rintro k a w1 ⟨b,hk,f,hW⟩;refine Zs b fun _ aJ=>?_;refine Ze (X1a O O)<|ZX aJ fun a b _ aK=>?_
 refine X0z b O (fun aB aL=>?_) (fun aB aL=>?_)
 ·obtain ⟨u8,a6⟩:=X8 (l:=l) (k:=k) Z
  refine Q7<|aK _ _<|Q5 fun _ aM=>?_;refine Q8<|Zs b fun _ aC=>?_;refine Zi (k:=k) (u:=u8) (enc:=encI) (l:=l) tv0 O O Xy X0e Xn (aA.bx hW) a6 O ?_;intro aP a7;refine Ze (X0 O X2 a7)<|Za O<|Zx aC fun a b _ aD=>?_;refine Zm O<|Zm O<|Zm O<|Zf (Vc (F85 _ u8 lo e) X4b) ?_;rintro _ _ ⟨rfl,rfl⟩;refine Ze (X1w O)<|Zt aD fun a b=>?_
  refine Xz b O (fun c=>?_) (fun c=>?_)
  ·have a8:(l.all fun n=>inR n lo e)=false:=Xao a6 (by simpa using c)
   refine Zs b fun _ aE=>?_;refine Za O<|Zt aE fun a b=>?_;refine Q6<|X05<|X7<|X7 ?_;refine X05<|X7<|X4 b (Xo b O O) ?_;exact ⟨by rw [a8],hW⟩
  have aN:inR u8 lo e=true:=by simpa using c
  refine Q7<|X6<|aM _ _<|Zr b ?_;refine Ze (Xr O O Z Z)<|Zm O ?_;refine Zn fun a b=>?_;refine Xc ?_;exact ⟨k+1,⟨b.sb,Z,(X5a f a6 aN),hW⟩,Z⟩
 refine Q9<|Xg<|Xg<|X01 ?_;refine aH _ _<|Zs b fun _ aF=>?_;refine Za O<|Zt aF fun a b=>?_
 refine Q6 (X4 b (Xo b O O) ?_)
 have a8:(l.all fun n=>inR n lo e)=true:=X4m f Z
 exact ⟨by rw [a8],hW⟩
theorem Xo8(w0:World)(x:Rg) : Ret Tryz.prog 137 [.agg #[vi x.a,vi x.b,vi x.c,vi x.d]] w0 (fun v w=>v=.bool (rOk x)/\Below w0.heap.size w0 w):=by
 refine enter Tryz.func137 O 13 O O ?_;intro a hf
 have e:=bz w0
 refine Zs hf fun _ a7=>?_;refine Zf (X0u (zs:=[vi x.a,vi x.b,vi x.c,vi x.d]) O O) ?_;rintro _ w1 ⟨b2,rfl,a8,hE,f⟩;have aC:=Q0 e.size a8;have e:=btr e hE;refine Za O<|Zx a7 fun a hf _ aA=>?_;refine Ze (Vd O X1g 0)<|Ze (X0 O X2 (f.at 0))<|Ze (Vd O X1h 1)<|Ze (X0 O X2 (f.at 1))<|Ze (Vd O X1i 2)<|Ze (X0 O X2 (f.at 2))<|Ze (Vd O X1j 3)<|Ze (X0 O X2 (f.at 3))<|Zf (X9 (k:=4) (vs:=[vi x.a,vi x.b,vi x.c,vi x.d]) (zs:=[vi x.a,vi x.b,vi x.c,vi x.d]) O Xy X2j O O) ?_;rintro _ w2 ⟨b4,rfl,aB,hE,a6⟩;have aD:=Q0 e.size aB;have e:=btr e hE;refine Zf (Vc (Y3i _ (some ⟨b4,0,none⟩) 4 ([x.a,x.b,x.c,x.d]) (Rd.of_blk a6 O _ a6.lt) (-1000000000) 1000000000 O5) Xwe) ?_;rintro _ w3 ⟨rfl,hE⟩;have e:=btr e hE;refine Za O<|Zt aA fun a hf=>?_
 refine Q6 (X4 hf (Xo hf O O) ?_)
 exact ⟨by simp [rOk,Bool.and_assoc],e⟩
theorem Xyf(w0:World)(x:Rg)(k:Int) : Ret Tryz.prog 122 [.agg #[vi x.a,vi x.b,vi x.c,vi x.d],vi k] w0 (fun v w=>v=rV (rTurn x k)/\Below w0.heap.size w0 w):=by
 refine enter Tryz.func122 O 24 O O ?_;intro a f
 have i:=bz w0
 refine Zs f fun _ aC=>?_;refine Zf (X0u (zs:=[vi x.a,vi x.b,vi x.c,vi x.d]) O O) ?_;rintro _ w1 ⟨b2,rfl,aD,hE,e⟩;have a6:=Q0 i.size aD;have i:=btr i hE;refine Zf (X03 (zs:=[vi 0,vi 0,vi 0,vi 0]) X4u O) ?_;rintro _ w2 ⟨b3,rfl,aE,hE,g⟩
 have aB:b2≠b3:=by have:=e.lt;omega
 have a7:=Q0 i.size aE;have e:=e.bw hE;have i:=btr i hE;refine ZX aC fun a f _ aF=>?_;refine Zs f fun _ aG=>?_;refine Zm O<|Ze (X4n O O O)<|Ze (X3s O O)<|Ze (X4n O O O)<|Za O<|Zt aG fun a f=>?_;refine Q8 ?_
 have hj:turns k=((turns k).toNat:Int):=by have:=X8p k;omega
 rw [show (wr (k.tmod 8+8)).tmod 8=turns k from O,hj] at f
 have aH:=(X8p k).2;refine X00 (σ:=Rg×Nat) (fun (s:Rg×Nat) (a:Act) (w:World)=>match s with|(y,j)=>Fr a 24 [(1,vi (j:Int)),(2,(pZ9 b2)),(4,(pZ9 b3))]/\(rTurnN j y=rTurn x k)/\(j<8)/\Blk w b2 76 [vi y.a,vi y.b,vi y.c,vi y.d]/\Blk w b3 76 [vi 0,vi 0,vi 0,vi 0]/\Below w0.heap.size w0 w) (fun (s:Rg×Nat)=>match s with|(y,j)=>j) (x,(turns k).toNat) ?_ ?_
 ·exact ⟨f.sb,O,Z,e,g,i⟩
 rintro ⟨y,j⟩ a w3 ⟨f,o,aH,e,g,i⟩;refine Q5 fun _ aI=>?_;refine Zs f fun _ aJ=>?_;refine Zm O<|Ze (X4e O O)<|Zt aJ fun a f=>?_
 refine X0z f O (fun a8 aK=>?_) (fun a8 aK=>?_)
 ·refine Q7<|aI _ _<|Q5 fun _ aL=>?_;refine Q8<|Zr f<|Ze (Vd O X1j 3)<|Ze (X0 O X2 (e.at 3))<|Ze (Xbi O)<|Ze (Vd O X1g 0)<|Ze (X0 O X2 (e.at 0))<|Ze (Vd O X1h 1)<|Ze (X0 O X2 (e.at 1))<|Ze (Vd O X1i 2)<|Ze (X0 O X2 (e.at 2))<|Ze (Xt (ps:=[(0,vi (wr (-y.d))),(1,vi y.a),(2,vi y.b),(3,vi y.c)]) (cs:=[vi (wr (-y.d)),vi y.a,vi y.b,vi y.c]) O (fun _=>by first|rfl|kernel_rfl)) ?_;refine Zo (Vw [vi (wr (-y.d)),vi y.a,vi y.b,vi y.c] X2a e) ?_;rintro _ w4 ⟨ho,hb⟩;have g:=g.oy ho Z;have i:=Below.oy i ho a6;have e:=hb;refine Zn fun a f=>?_;refine X6<|aL _ _<|Zr f<|Zm O<|Ze (X1c O O Z Z)<|Za O ?_;refine Zn fun a f=>?_
  have aM:((j:Int)-1)=((j-1:Nat) : Int):=by omega
  rw [aM] at f
  refine Xc ?_;exact ⟨(rOm y,j-1),⟨f.sb,(by rw [<- o];obtain ⟨m,rfl⟩ : ∃ m,j=m+1:=⟨j-1,by omega⟩;rfl),Z,e,g,i⟩,O0⟩
 refine Q9<|Xg<|Xg<|X01 ?_;refine aF _ _<|Zs f fun _ aA=>?_;refine Ze (Vn X0j e)<|Zo (Vw [vi y.a,vi y.b,vi y.c,vi y.d] X2a g) ?_;rintro _ w5 ⟨ho,hb⟩;have i:=Below.oy i ho a7;have g:=hb;refine Zt aA fun a f=>?_
 refine Q6 (X4 f (Xo f O (ResV.cellN (l:=[vi y.a,vi y.b,vi y.c,vi y.d]) O X0j (g.at 0) O)) ?_)
 have aN:j=0:=by omega
 subst aN
 rw [<- o]
 exact ⟨O,i⟩
theorem Xo6(w0:World)(x:Rg) : Ret Tryz.prog 138 [.agg #[vi x.a,vi x.b,vi x.c,vi x.d]] w0 (fun v w=>v=rV (rRoot x)/\Below w0.heap.size w0 w):=by
 refine enter Tryz.func138 O 24 O O ?_;intro a hf
 have f:=bz w0
 refine Zs hf fun _ aA=>?_;refine Zf (X0u (zs:=[vi x.a,vi x.b,vi x.c,vi x.d]) O O) ?_;rintro _ w1 ⟨b2,rfl,aB,hE,e⟩;have aE:=Q0 f.size aB;have f:=btr f hE;refine Zf (X03 (zs:=[vi 0,vi 0,vi 0,vi 0]) X4u O) ?_;rintro _ w2 ⟨b3,rfl,aC,hE,a6⟩
 have a8:b2≠b3:=by have:=e.lt;omega
 have a7:=Q0 f.size aC;have e:=e.bw hE;have f:=btr f hE;refine Zx aA fun a hf _ aD=>?_;refine Ze (Vd O X1h 1)<|Ze (X0 O X2 (e.at 1))<|Ze (Vd O X1j 3)<|Ze (X0 O X2 (e.at 3))<|Ze (X5u O O)<|Ze (Vd O X1g 0)<|Ze (X0 O X2 (e.at 0))<|Ze (Vd O X1i 2)<|Ze (X0 O X2 (e.at 2))<|Ze (X3s O O) ?_;refine Ze (Vd O X1h 1)<|Ze (X0 O X2 (e.at 1))<|Ze (Vd O X1j 3)<|Ze (X0 O X2 (e.at 3))<|Ze (X3s O O)<|Ze (Vd O X1i 2)<|Ze (X0 O X2 (e.at 2))<|Ze (Vd O X1g 0)<|Ze (X0 O X2 (e.at 0))<|Ze (X5u O O) ?_;refine Ze (Xt (ps:=[(0,vi (wr (x.b-x.d))),(1,vi (wr (x.a+x.c))),(2,vi (wr (x.b+x.d))),(3,vi (wr (x.c-x.a)))]) (cs:=[vi (wr (x.b-x.d)),vi (wr (x.a+x.c)),vi (wr (x.b+x.d)),vi (wr (x.c-x.a))]) O (fun _=>by first|rfl|kernel_rfl))<|Zo (Vw [vi (wr (x.b-x.d)),vi (wr (x.a+x.c)),vi (wr (x.b+x.d)),vi (wr (x.c-x.a))] X2a a6) ?_;rintro _ w3 ⟨ho,hb⟩;have f:=Below.oy f ho a7;have a6:=hb;refine Zt aD fun a hf=>?_
 refine Q6 (X4 hf (Xo hf O (ResV.cellN (l:=[vi (wr (x.b-x.d)),vi (wr (x.a+x.c)),vi (wr (x.b+x.d)),vi (wr (x.c-x.a))]) O X0j (a6.at 0) O)) ?_)
 exact ⟨O,f⟩
theorem Xyp(w0:World)(x:Rg)(y:Rg) : Ret Tryz.prog 136 [.agg #[vi x.a,vi x.b,vi x.c,vi x.d],.agg #[vi y.a,vi y.b,vi y.c,vi y.d]] w0 (fun v w=>v=rV (rAdd x y)/\Below w0.heap.size w0 w):=by
 refine enter Tryz.func136 O 26 O O ?_;intro a hf
 have g:=bz w0
 refine Zs hf fun _ aC=>?_;refine Zf (X0u (zs:=[vi x.a,vi x.b,vi x.c,vi x.d]) O O) ?_;rintro _ w1 ⟨b2,rfl,aD,i,e⟩;have aH:=Q0 g.size aD;have g:=btr g i;refine Zf (X0u (zs:=[vi y.a,vi y.b,vi y.c,vi y.d]) O O) ?_;rintro _ w2 ⟨b3,rfl,aE,i,f⟩
 have a8:b2≠b3:=by have:=e.lt;omega
 have aI:=Q0 g.size aE;have e:=e.bw i;have g:=btr g i;refine Zf (X03 (zs:=[vi 0,vi 0,vi 0,vi 0]) X4u O) ?_;rintro _ w3 ⟨b4,rfl,aF,i,a6⟩
 have aA:b2≠b4:=by have:=e.lt;omega
 have aB:b3≠b4:=by have:=f.lt;omega
 have a7:=Q0 g.size aF;have e:=e.bw i;have f:=f.bw i;have g:=btr g i;refine Zx aC fun a hf _ aG=>?_;refine Ze (Vd O X1g 0)<|Ze (X0 O X2 (e.at 0))<|Ze (Vd O X1g 0)<|Ze (X0 O X2 (f.at 0))<|Ze (X3s O O)<|Ze (Vd O X1h 1)<|Ze (X0 O X2 (e.at 1))<|Ze (Vd O X1h 1)<|Ze (X0 O X2 (f.at 1))<|Ze (X3s O O) ?_;refine Ze (Vd O X1i 2)<|Ze (X0 O X2 (e.at 2))<|Ze (Vd O X1i 2)<|Ze (X0 O X2 (f.at 2))<|Ze (X3s O O)<|Ze (Vd O X1j 3)<|Ze (X0 O X2 (e.at 3))<|Ze (Vd O X1j 3)<|Ze (X0 O X2 (f.at 3))<|Ze (X3s O O) ?_;refine Ze (Xt (ps:=[(0,vi (wr (x.a+y.a))),(1,vi (wr (x.b+y.b))),(2,vi (wr (x.c+y.c))),(3,vi (wr (x.d+y.d)))]) (cs:=[vi (wr (x.a+y.a)),vi (wr (x.b+y.b)),vi (wr (x.c+y.c)),vi (wr (x.d+y.d))]) O (fun _=>by first|rfl|kernel_rfl))<|Zo (Vw [vi (wr (x.a+y.a)),vi (wr (x.b+y.b)),vi (wr (x.c+y.c)),vi (wr (x.d+y.d))] X2a a6) ?_;rintro _ w4 ⟨ho,hb⟩;have g:=Below.oy g ho a7;have a6:=hb;refine Zt aG fun a hf=>?_
 refine Q6 (X4 hf (Xo hf O (ResV.cellN (l:=[vi (wr (x.a+y.a)),vi (wr (x.b+y.b)),vi (wr (x.c+y.c)),vi (wr (x.d+y.d))]) O X0j (a6.at 0) O)) ?_)
 exact ⟨O,g⟩
theorem Y3e(w0:World)(x:Rg)(y:Rg) : Ret Tryz.prog 158 [.agg #[vi x.a,vi x.b,vi x.c,vi x.d],.agg #[vi y.a,vi y.b,vi y.c,vi y.d]] w0 (fun v w=>v=rV (rMul x y)/\Below w0.heap.size w0 w):=by
 refine enter Tryz.func158 O 98 O O ?_;intro a hf
 have g:=bz w0
 refine Zs hf fun _ aC=>?_;refine Zf (X0u (zs:=[vi x.a,vi x.b,vi x.c,vi x.d]) O O) ?_;rintro _ w1 ⟨b2,rfl,aD,i,e⟩;have aH:=Q0 g.size aD;have g:=btr g i;refine Zf (X0u (zs:=[vi y.a,vi y.b,vi y.c,vi y.d]) O O) ?_;rintro _ w2 ⟨b3,rfl,aE,i,f⟩
 have a8:b2≠b3:=by have:=e.lt;omega
 have aI:=Q0 g.size aE;have e:=e.bw i;have g:=btr g i;refine Zf (X03 (zs:=[vi 0,vi 0,vi 0,vi 0]) X4u O) ?_;rintro _ w3 ⟨b4,rfl,aF,i,a6⟩
 have aA:b2≠b4:=by have:=e.lt;omega
 have aB:b3≠b4:=by have:=f.lt;omega
 have a7:=Q0 g.size aF;have e:=e.bw i;have f:=f.bw i;have g:=btr g i;refine Zx aC fun a hf _ aG=>?_;refine Ze (Vd O X1g 0)<|Ze (X0 O X2 (e.at 0))<|Ze (Vd O X1g 0)<|Ze (X0 O X2 (f.at 0))<|Ze (X5s O O)<|Ze (Vd O X1h 1)<|Ze (X0 O X2 (e.at 1))<|Ze (Vd O X1j 3)<|Ze (X0 O X2 (f.at 3))<|Ze (X5s O O) ?_;refine Ze (X5u O O)<|Ze (Vd O X1i 2)<|Ze (X0 O X2 (e.at 2))<|Ze (Vd O X1i 2)<|Ze (X0 O X2 (f.at 2))<|Ze (X5s O O)<|Ze (X5u O O)<|Ze (Vd O X1j 3)<|Ze (X0 O X2 (e.at 3))<|Ze (Vd O X1h 1) ?_;refine Ze (X0 O X2 (f.at 1))<|Ze (X5s O O)<|Ze (X5u O O)<|Ze (Vd O X1g 0)<|Ze (X0 O X2 (e.at 0))<|Ze (Vd O X1h 1)<|Ze (X0 O X2 (f.at 1))<|Ze (X5s O O)<|Ze (Vd O X1h 1)<|Ze (X0 O X2 (e.at 1)) ?_;refine Ze (Vd O X1g 0)<|Ze (X0 O X2 (f.at 0))<|Ze (X5s O O)<|Ze (X3s O O)<|Ze (Vd O X1i 2)<|Ze (X0 O X2 (e.at 2))<|Ze (Vd O X1j 3)<|Ze (X0 O X2 (f.at 3))<|Ze (X5s O O)<|Ze (X5u O O) ?_;refine Ze (Vd O X1j 3)<|Ze (X0 O X2 (e.at 3))<|Ze (Vd O X1i 2)<|Ze (X0 O X2 (f.at 2))<|Ze (X5s O O)<|Ze (X5u O O)<|Ze (Vd O X1g 0)<|Ze (X0 O X2 (e.at 0))<|Ze (Vd O X1i 2)<|Ze (X0 O X2 (f.at 2)) ?_;refine Ze (X5s O O)<|Ze (Vd O X1h 1)<|Ze (X0 O X2 (e.at 1))<|Ze (Vd O X1h 1)<|Ze (X0 O X2 (f.at 1))<|Ze (X5s O O)<|Ze (X3s O O)<|Ze (Vd O X1i 2)<|Ze (X0 O X2 (e.at 2))<|Ze (Vd O X1g 0) ?_;refine Ze (X0 O X2 (f.at 0))<|Ze (X5s O O)<|Ze (X3s O O)<|Ze (Vd O X1j 3)<|Ze (X0 O X2 (e.at 3))<|Ze (Vd O X1j 3)<|Ze (X0 O X2 (f.at 3))<|Ze (X5s O O)<|Ze (X5u O O)<|Ze (Vd O X1g 0) ?_
 refine Ze (X0 O X2 (e.at 0))<|Ze (Vd O X1j 3)<|Ze (X0 O X2 (f.at 3))<|Ze (X5s O O)<|Ze (Vd O X1h 1)<|Ze (X0 O X2 (e.at 1))<|Ze (Vd O X1i 2)<|Ze (X0 O X2 (f.at 2))<|Ze (X5s O O)<|Ze (X3s O O) ?_;refine Ze (Vd O X1i 2)<|Ze (X0 O X2 (e.at 2))<|Ze (Vd O X1h 1)<|Ze (X0 O X2 (f.at 1))<|Ze (X5s O O)<|Ze (X3s O O)<|Ze (Vd O X1j 3)<|Ze (X0 O X2 (e.at 3))<|Ze (Vd O X1g 0)<|Ze (X0 O X2 (f.at 0)) ?_;refine Ze (X5s O O)<|Ze (X3s O O)<|Ze (Xt (ps:=[(0,vi (wr ((wr ((wr ((wr (x.a*y.a))-(wr (x.b*y.d))))-(wr (x.c*y.c))))-(wr (x.d*y.b))))),(1,vi (wr ((wr ((wr ((wr (x.a*y.b))+(wr (x.b*y.a))))-(wr (x.c*y.d))))-(wr (x.d*y.c))))),(2,vi (wr ((wr ((wr ((wr (x.a*y.c))+(wr (x.b*y.b))))+(wr (x.c*y.a))))-(wr (x.d*y.d))))),(3,vi (wr ((wr ((wr ((wr (x.a*y.d))+(wr (x.b*y.c))))+(wr (x.c*y.b))))+(wr (x.d*y.a)))))]) (cs:=[vi (wr ((wr ((wr ((wr (x.a*y.a))-(wr (x.b*y.d))))-(wr (x.c*y.c))))-(wr (x.d*y.b)))),vi (wr ((wr ((wr ((wr (x.a*y.b))+(wr (x.b*y.a))))-(wr (x.c*y.d))))-(wr (x.d*y.c)))),vi (wr ((wr ((wr ((wr (x.a*y.c))+(wr (x.b*y.b))))+(wr (x.c*y.a))))-(wr (x.d*y.d)))),vi (wr ((wr ((wr ((wr (x.a*y.d))+(wr (x.b*y.c))))+(wr (x.c*y.b))))+(wr (x.d*y.a))))]) O (fun _=>by first|rfl|kernel_rfl))<|Zo (Vw [vi (wr ((wr ((wr ((wr (x.a*y.a))-(wr (x.b*y.d))))-(wr (x.c*y.c))))-(wr (x.d*y.b)))),vi (wr ((wr ((wr ((wr (x.a*y.b))+(wr (x.b*y.a))))-(wr (x.c*y.d))))-(wr (x.d*y.c)))),vi (wr ((wr ((wr ((wr (x.a*y.c))+(wr (x.b*y.b))))+(wr (x.c*y.a))))-(wr (x.d*y.d)))),vi (wr ((wr ((wr ((wr (x.a*y.d))+(wr (x.b*y.c))))+(wr (x.c*y.b))))+(wr (x.d*y.a))))] X2a a6) ?_;rintro _ w4 ⟨ho,hb⟩;have g:=Below.oy g ho a7;have a6:=hb
 clear hb ho;refine Zt aG fun a hf=>?_
 refine Q6 (X4 hf (Xo hf O (ResV.cellN (l:=[vi (wr ((wr ((wr ((wr (x.a*y.a))-(wr (x.b*y.d))))-(wr (x.c*y.c))))-(wr (x.d*y.b)))),vi (wr ((wr ((wr ((wr (x.a*y.b))+(wr (x.b*y.a))))-(wr (x.c*y.d))))-(wr (x.d*y.c)))),vi (wr ((wr ((wr ((wr (x.a*y.c))+(wr (x.b*y.b))))+(wr (x.c*y.a))))-(wr (x.d*y.d)))),vi (wr ((wr ((wr ((wr (x.a*y.d))+(wr (x.b*y.c))))+(wr (x.c*y.b))))+(wr (x.d*y.a))))]) O X0j (a6.at 0) O)) ?_)
 exact ⟨O,g⟩
theorem Y3h(w0:World)(x:Rg) : Ret Tryz.prog 206 [.agg #[vi x.a,vi x.b,vi x.c,vi x.d]] w0 (fun v w=>v=rV (rNeg x)/\Below w0.heap.size w0 w):=by
 refine enter Tryz.func206 O 16 O O ?_;intro a hf
 have f:=bz w0
 refine Zs hf fun _ aA=>?_;refine Zf (X0u (zs:=[vi x.a,vi x.b,vi x.c,vi x.d]) O O) ?_;rintro _ w1 ⟨b2,rfl,aB,hE,e⟩;have aE:=Q0 f.size aB;have f:=btr f hE;refine Zf (X03 (zs:=[vi 0,vi 0,vi 0,vi 0]) X4u O) ?_;rintro _ w2 ⟨b3,rfl,aC,hE,a6⟩
 have a8:b2≠b3:=by have:=e.lt;omega
 have a7:=Q0 f.size aC;have e:=e.bw hE;have f:=btr f hE;refine Zx aA fun a hf _ aD=>?_;refine Ze (Vd O X1g 0)<|Ze (X0 O X2 (e.at 0))<|Ze (Xbi O)<|Ze (Vd O X1h 1)<|Ze (X0 O X2 (e.at 1))<|Ze (Xbi O)<|Ze (Vd O X1i 2)<|Ze (X0 O X2 (e.at 2))<|Ze (Xbi O)<|Ze (Vd O X1j 3) ?_;refine Ze (X0 O X2 (e.at 3))<|Ze (Xbi O)<|Ze (Xt (ps:=[(0,vi (wr (-x.a))),(1,vi (wr (-x.b))),(2,vi (wr (-x.c))),(3,vi (wr (-x.d)))]) (cs:=[vi (wr (-x.a)),vi (wr (-x.b)),vi (wr (-x.c)),vi (wr (-x.d))]) O (fun _=>by first|rfl|kernel_rfl))<|Zo (Vw [vi (wr (-x.a)),vi (wr (-x.b)),vi (wr (-x.c)),vi (wr (-x.d))] X2a a6) ?_;rintro _ w3 ⟨ho,hb⟩;have f:=Below.oy f ho a7;have a6:=hb;refine Zt aD fun a hf=>?_
 refine Q6 (X4 hf (Xo hf O (ResV.cellN (l:=[vi (wr (-x.a)),vi (wr (-x.b)),vi (wr (-x.c)),vi (wr (-x.d))]) O X0j (a6.at 0) O)) ?_)
 exact ⟨O,f⟩
theorem Xug(w0:World)(x:Rg) : Ret Tryz.prog 141 [.agg #[vi x.a,vi x.b,vi x.c,vi x.d]] w0 (fun v w=>v=.bool (rEven x)/\Below w0.heap.size w0 w):=by
 refine enter Tryz.func141 O 19 O O ?_;intro a f
 have hW:=bz w0
 refine Zs f fun _ a6=>?_;refine Zf (X0u (zs:=[vi x.a,vi x.b,vi x.c,vi x.d]) O O) ?_;rintro _ w1 ⟨b2,rfl,a7,hE,g⟩;have aA:=Q0 hW.size a7;have hW:=btr hW hE;refine Za O<|ZX a6 fun a f _ a8=>?_;refine X0p (fun a w=>Fr a 19 [(2,.bool ((((wr (x.a+x.c)).tmod 2)==0)&&(((wr (x.b+x.d)).tmod 2)==0)))]/\w1=w) ?_ ?_
 ·refine Zr f<|Ze (Vd O X1g 0)<|Ze (X0 O X2 (g.at 0))<|Ze (Vd O X1i 2)<|Ze (X0 O X2 (g.at 2))<|Ze (X3s O O)<|Ze (X4n O O O)<|Ze (X0f O O)<|Zm O ?_
  refine Zg 10 O (fun e=>?_) (fun e=>?_)
  ·refine Zv (gW e) (Vd O X1h 1) ?_;refine Zv (gW e) (X0 O X2 (g.at 1)) ?_;refine Zv (gW e) (Vd O X1j 3) ?_;refine Zv (gW e) (X0 O X2 (g.at 3)) ?_;refine Zv (gW e) (X3s O O) ?_;refine Zv (gW e) (X4n O O O) ?_;refine Zv (gW e) (X0f O O) ?_;refine Ze (Xa O e O)<|Za O ?_;refine Zn fun a f=>?_;exact ⟨f.sub ⟨X1 O (by first|rfl|(simp only [e,bs];done)|simp [e]),trivial⟩,O⟩
  (iterate 7 refine Zp (gP e) ?_);refine Ze (Xh O e O)<|Za O ?_;refine Zn fun a f=>?_;exact ⟨f.sub ⟨X1 O (by first|rfl|(simp only [e,bs];done)|simp [e]),trivial⟩,O⟩
 rintro a _ ⟨f,rfl⟩;refine a8 _ _ ?_
 refine Q6 (X4 f (Xo f O O) ?_)
 exact ⟨O,hW⟩
theorem Xuf(w0:World)(x:Rg) : Ret Tryz.prog 116 [.agg #[vi x.a,vi x.b,vi x.c,vi x.d]] w0 (fun v w=>v=.bool (rEven x)/\Below w0.heap.size w0 w):=by
 refine enter Tryz.func116 O 19 O O ?_;intro a f
 have hW:=bz w0
 refine Zs f fun _ a6=>?_;refine Zf (X0u (zs:=[vi x.a,vi x.b,vi x.c,vi x.d]) O O) ?_;rintro _ w1 ⟨b2,rfl,a7,hE,g⟩;have aA:=Q0 hW.size a7;have hW:=btr hW hE;refine Za O<|ZX a6 fun a f _ a8=>?_;refine X0p (fun a w=>Fr a 19 [(2,.bool ((((wr (x.a+x.c)).tmod 2)==0)&&(((wr (x.b+x.d)).tmod 2)==0)))]/\w1=w) ?_ ?_
 ·refine Zr f<|Ze (Vd O X1g 0)<|Ze (X0 O X2 (g.at 0))<|Ze (Vd O X1i 2)<|Ze (X0 O X2 (g.at 2))<|Ze (X3s O O)<|Ze (X4n O O O)<|Ze (X0f O O)<|Zm O ?_
  refine Zg 10 O (fun e=>?_) (fun e=>?_)
  ·refine Zv (gW e) (Vd O X1h 1) ?_;refine Zv (gW e) (X0 O X2 (g.at 1)) ?_;refine Zv (gW e) (Vd O X1j 3) ?_;refine Zv (gW e) (X0 O X2 (g.at 3)) ?_;refine Zv (gW e) (X3s O O) ?_;refine Zv (gW e) (X4n O O O) ?_;refine Zv (gW e) (X0f O O) ?_;refine Ze (Xa O e O)<|Za O ?_;refine Zn fun a f=>?_;exact ⟨f.sub ⟨X1 O (by first|rfl|(simp only [e,bs];done)|simp [e]),trivial⟩,O⟩
  (iterate 7 refine Zp (gP e) ?_);refine Ze (Xh O e O)<|Za O ?_;refine Zn fun a f=>?_;exact ⟨f.sub ⟨X1 O (by first|rfl|(simp only [e,bs];done)|simp [e]),trivial⟩,O⟩
 rintro a _ ⟨f,rfl⟩;refine a8 _ _ ?_
 refine Q6 (X4 f (Xo f O O) ?_)
 exact ⟨O,hW⟩
theorem Xza(w0:World)(x:Rg) : Ret Tryz.prog 177 [.agg #[vi x.a,vi x.b,vi x.c,vi x.d]] w0 (fun v w=>v=rV (rHalf x)/\Below w0.heap.size w0 w):=by
 refine enter Tryz.func177 O 19 O O ?_;intro a hf
 have g:=bz w0
 refine Zs hf fun _ aB=>?_;refine Zf (X0u (zs:=[vi x.a,vi x.b,vi x.c,vi x.d]) O O) ?_;rintro _ w1 ⟨b2,rfl,aC,i,f⟩;have aH:=Q0 g.size aC;have g:=btr g i;refine Zf (X03 (zs:=[vi 0,vi 0,vi 0,vi 0]) X4u O) ?_;rintro _ w2 ⟨b3,rfl,aD,i,e⟩
 have a7:b2≠b3:=by have:=f.lt;omega
 have a6:=Q0 g.size aD;have f:=f.bw i;have g:=btr g i;refine Zx aB fun a hf _ aE=>?_;refine Ze (Vn X0j f)<|Zf (Vc (Xo6 _ x) Xbx) ?_;rintro _ w3 ⟨rfl,i⟩;have f:=f.bw i;have e:=e.bw i;have g:=btr g i;refine ZB [vi ((rRoot x).a),vi ((rRoot x).b),vi ((rRoot x).c),vi ((rRoot x).d)] X4u X2a fun b5 w5 aF i j=>?_
 have a8:b2≠b5:=by have:=f.lt;omega
 have aA:b3≠b5:=by have:=e.lt;omega
 have aI:=Q0 g.size aF;have e:=e.bw i;have g:=btr g i;refine Zx aE fun a hf _ aG=>?_;refine Ze (Vd O X1g 0)<|Ze (X0 O X2 (j.at 0))<|Ze (Xbj O O O)<|Ze (Vd O X1h 1)<|Ze (X0 O X2 (j.at 1))<|Ze (Xbj O O O)<|Ze (Vd O X1i 2)<|Ze (X0 O X2 (j.at 2))<|Ze (Xbj O O O)<|Ze (Vd O X1j 3) ?_;refine Ze (X0 O X2 (j.at 3))<|Ze (Xbj O O O)<|Ze (Xt (ps:=[(0,vi (wr (((rRoot x).a).tdiv 2))),(1,vi (wr (((rRoot x).b).tdiv 2))),(2,vi (wr (((rRoot x).c).tdiv 2))),(3,vi (wr (((rRoot x).d).tdiv 2)))]) (cs:=[vi (wr (((rRoot x).a).tdiv 2)),vi (wr (((rRoot x).b).tdiv 2)),vi (wr (((rRoot x).c).tdiv 2)),vi (wr (((rRoot x).d).tdiv 2))]) O (fun _=>by first|rfl|kernel_rfl))<|Zo (Vw [vi (wr (((rRoot x).a).tdiv 2)),vi (wr (((rRoot x).b).tdiv 2)),vi (wr (((rRoot x).c).tdiv 2)),vi (wr (((rRoot x).d).tdiv 2))] X2a e) ?_;rintro _ w6 ⟨ho,hb⟩;have g:=Below.oy g ho a6;have e:=hb;refine Zt aG fun a hf=>?_
 refine Q6 (X4 hf (Xo hf O (ResV.cellN (l:=[vi (wr (((rRoot x).a).tdiv 2)),vi (wr (((rRoot x).b).tdiv 2)),vi (wr (((rRoot x).c).tdiv 2)),vi (wr (((rRoot x).d).tdiv 2))]) O X0j (e.at 0) O)) ?_)
 exact ⟨O,g⟩
theorem Xo7(w0:World)(n:Int) : Ret Tryz.prog 188 [vi n] w0 (fun v w=>v=.bool (inR n (-1000000000) 1000000000)/\w0=w):=by
 refine enter Tryz.func188 O 5 O O ?_;intro a hf
 have hW:=bz w0
 refine Zs hf fun _ a6=>?_;refine Za O<|Zx a6 fun a hf _ a7=>?_;refine Zm O<|Zf (Vc (F91 _ n (-1000000000) 1000000000) X4g) ?_;rintro _ _ ⟨rfl,rfl⟩;refine Za O<|Zt a7 fun a hf=>?_
 refine Q6 (X4 hf (Xo hf O O) ?_)
 exact ⟨O,O⟩
theorem Xue(w0:World)(x:Rg) : Ret Tryz.prog 156 [.agg #[vi x.a,vi x.b,vi x.c,vi x.d]] w0 (fun v w=>v=.bool (rOk x)/\Below w0.heap.size w0 w):=by
 refine enter Tryz.func156 O 21 O O ?_;intro a i
 have hW:=bz w0
 refine Zs i fun _ a6=>?_;refine Zf (X0u (zs:=[vi x.a,vi x.b,vi x.c,vi x.d]) O O) ?_;rintro _ w1 ⟨b2,rfl,a7,hE,j⟩;have aA:=Q0 hW.size a7;have hW:=btr hW hE;refine Za O<|ZX a6 fun a i _ a8=>?_;refine X0p (fun a w=>Fr a 21 [(2,.bool ((((inR x.a (-1000000000) 1000000000)&&(inR x.b (-1000000000) 1000000000))&&(inR x.c (-1000000000) 1000000000))&&(inR x.d (-1000000000) 1000000000)))]/\w1=w) ?_ ?_
 ·refine Zr i<|Ze (Vd O X1g 0)<|Ze (X0 O X2 (j.at 0))<|Zf (Vc (Xo7 _ x.a) Xbz) ?_;rintro _ _ ⟨rfl,rfl⟩;refine Zm O ?_
  refine Zg 6 O (fun e=>?_) (fun e=>?_)
  ·refine Zv (gW e) (Vd O X1h 1) ?_;refine Zv (gW e) (X0 O X2 (j.at 1)) ?_;refine Zk (gW e) (Vc (Xo7 _ x.b) Xbz) ?_;rintro _ _ ⟨rfl,rfl⟩;refine Ze (Xa O e O)<|Zm O ?_
   refine Zg 11 O (fun f=>?_) (fun f=>?_)
   ·refine Zv (gW f) (Vd O X1i 2) ?_;refine Zv (gW f) (X0 O X2 (j.at 2)) ?_;refine Zk (gW f) (Vc (Xo7 _ x.c) Xbz) ?_;rintro _ _ ⟨rfl,rfl⟩;refine Ze (Xa O f O)<|Zm O ?_
    refine Zg 16 O (fun g=>?_) (fun g=>?_)
    ·refine Zv (gW g) (Vd O X1j 3) ?_;refine Zv (gW g) (X0 O X2 (j.at 3)) ?_;refine Zk (gW g) (Vc (Xo7 _ x.d) Xbz) ?_;rintro _ _ ⟨rfl,rfl⟩;refine Ze (Xa O g O)<|Za O ?_;refine Zn fun a i=>?_;exact ⟨i.sub ⟨X1 O (by first|rfl|(simp only [e,f,g,bs];done)|simp [e,f,g]),trivial⟩,O⟩
    (iterate 3 refine Zp (gP g) ?_);refine Ze (Xh O g O)<|Za O ?_;refine Zn fun a i=>?_;exact ⟨i.sub ⟨X1 O (by first|rfl|(simp only [e,f,g,bs];done)|simp [e,f,g]),trivial⟩,O⟩
   (iterate 3 refine Zp (gP f) ?_);refine Ze (Xh O f O)<|Zm O<|Zp (gP O) ?_;(iterate 2 refine Zp (gP O) ?_);refine Ze (Xh O O O)<|Za O ?_;refine Zn fun a i=>?_;exact ⟨i.sub ⟨X1 O (by first|rfl|(simp only [e,f,bs];done)|simp [e,f]),trivial⟩,O⟩
  (iterate 3 refine Zp (gP e) ?_);refine Ze (Xh O e O)<|Zm O<|Zp (gP O) ?_;(iterate 2 refine Zp (gP O) ?_);refine Ze (Xh O O O)<|Zm O<|Zp (gP O) ?_;(iterate 2 refine Zp (gP O) ?_);refine Ze (Xh O O O)<|Za O ?_;refine Zn fun a i=>?_;exact ⟨i.sub ⟨X1 O (by first|rfl|(simp only [e,bs];done)|simp [e]),trivial⟩,O⟩
 rintro a _ ⟨i,rfl⟩;refine a8 _ _ ?_
 refine Q6 (X4 i (Xo i O O) ?_)
 exact ⟨by simp [rOk, *],hW⟩
theorem Xd7(w0:World)(k:Int) : Ret Tryz.prog 86 [vi k] w0 (fun v w=>v=dV (dPow k)/\Below w0.heap.size w0 w):=by
 refine enter Tryz.func86 O 7 O O ?_;intro a hf
 have f:=bz w0
 refine Zs hf fun _ a7=>?_;refine Zf (X03 (zs:=[vi 0,vi 0,vi 0,vi 0,vi 0]) X3d O) ?_;rintro _ w1 ⟨b2,rfl,a8,hE,e⟩;have a6:=Q0 f.size a8;have f:=btr f hE;refine Zx a7 fun a hf _ aA=>?_;refine Ze (Xt (ps:=[(0,vi 1)]) (cs:=[vi 1,vi 0,vi 0,vi 0]) O (fun _=>by first|rfl|kernel_rfl))<|Zm O<|Zf (Vc (Xyf _ (⟨1,0,0,0⟩ : Rg) k) Xl1) ?_;rintro _ w2 ⟨rfl,hE⟩;have e:=e.bw hE;have f:=btr f hE;refine Ze (Xt (ps:=[(0,.agg #[vi ((rTurn (⟨1,0,0,0⟩ : Rg) k).a),vi ((rTurn (⟨1,0,0,0⟩ : Rg) k).b),vi ((rTurn (⟨1,0,0,0⟩ : Rg) k).c),vi ((rTurn (⟨1,0,0,0⟩ : Rg) k).d)])]) (cs:=[vi ((rTurn (⟨1,0,0,0⟩ : Rg) k).a),vi ((rTurn (⟨1,0,0,0⟩ : Rg) k).b),vi ((rTurn (⟨1,0,0,0⟩ : Rg) k).c),vi ((rTurn (⟨1,0,0,0⟩ : Rg) k).d),vi 0]) O (fun _=>by first|rfl|kernel_rfl))<|Zo (Vw [vi ((rTurn (⟨1,0,0,0⟩ : Rg) k).a),vi ((rTurn (⟨1,0,0,0⟩ : Rg) k).b),vi ((rTurn (⟨1,0,0,0⟩ : Rg) k).c),vi ((rTurn (⟨1,0,0,0⟩ : Rg) k).d),vi 0] X0i e) ?_;rintro _ w3 ⟨ho,hb⟩;have f:=Below.oy f ho a6;have e:=hb;refine Zt aA fun a hf=>?_
 refine Q6 (X4 hf (Xo hf O (ResV.cellN (l:=[vi ((rTurn (⟨1,0,0,0⟩ : Rg) k).a),vi ((rTurn (⟨1,0,0,0⟩ : Rg) k).b),vi ((rTurn (⟨1,0,0,0⟩ : Rg) k).c),vi ((rTurn (⟨1,0,0,0⟩ : Rg) k).d),vi 0]) O X04 (e.at 0) O)) ?_)
 exact ⟨O,f⟩
theorem Y3g(w0:World)(x:Dy) : Ret Tryz.prog 189 [.agg #[vi x.num.a,vi x.num.b,vi x.num.c,vi x.num.d,vi x.exp]] w0 (fun v w=>v=dV (dNeg x)/\Below w0.heap.size w0 w):=by
 refine enter Tryz.func189 O 9 O O ?_;intro a hf
 have g:=bz w0
 refine Zs hf fun _ a8=>?_;refine Zf (X0u (zs:=[vi x.num.a,vi x.num.b,vi x.num.c,vi x.num.d,vi x.exp]) O O) ?_;rintro _ w1 ⟨b2,rfl,aA,i,e⟩;have aD:=Q0 g.size aA;have g:=btr g i;refine Zf (X03 (zs:=[vi 0,vi 0,vi 0,vi 0,vi 0]) X3d O) ?_;rintro _ w2 ⟨b3,rfl,aB,i,f⟩
 have a7:b2≠b3:=by have:=e.lt;omega
 have a6:=Q0 g.size aB;have e:=e.bw i;have g:=btr g i;refine ZX a8 fun a hf _ aC=>?_;refine Xl none (fun j=>[6].contains j) mixed ?_;intro w3 i;have e:=e.bw i;have f:=f.bw i;have g:=btr g i;refine Yb hf<|Yo 0 O (fun _=>Vd O X35 0)<|Ye 1 O (X09 (l:=[vi x.num.a,vi x.num.b,vi x.num.c,vi x.num.d]) O X0j ((e.at 0).take 4) O)<|Yo 3 O (fun _=>Vd O X26 4)<|Ye 4 O (X0 O X2 (e.at 4))<|Y1 2 ?_;refine Yk O tv0 (Vc (Y3h _ x.num) Xwd) (fun _ _ ⟨_,i⟩=>i) ?_;rintro _ w4 ⟨rfl,i⟩;have f:=f.bw i;have g:=btr g i;refine Yo 5 O (fun _=>Xt (ps:=[(0,.agg #[vi ((rNeg x.num).a),vi ((rNeg x.num).b),vi ((rNeg x.num).c),vi ((rNeg x.num).d)]),(1,vi x.exp)]) (cs:=[vi ((rNeg x.num).a),vi ((rNeg x.num).b),vi ((rNeg x.num).c),vi ((rNeg x.num).d),vi x.exp]) O (fun _=>by first|rfl|kernel_rfl))<|Y1 6 ?_;refine Yh O tv0 O (Vw [vi ((rNeg x.num).a),vi ((rNeg x.num).b),vi ((rNeg x.num).c),vi ((rNeg x.num).d),vi x.exp] X0i f) ?_;rintro _ w5 ⟨ho,hb⟩;have g:=Below.oy g ho a6;have f:=hb;refine Yd fun a hf=>?_;refine aC _ _ ?_
 refine Q6 (X4 hf (Xo hf O (ResV.cellN (l:=[vi ((rNeg x.num).a),vi ((rNeg x.num).b),vi ((rNeg x.num).c),vi ((rNeg x.num).d),vi x.exp]) O X04 (f.at 0) O)) ?_)
 exact ⟨O,g⟩
theorem F59(w0:World)(b:Bool) : Ret Tryz.prog 39 [.bool b] w0 (fun v w=>v=vi (if b=true then 1 else 0)/\w0=w):=by
 refine enter Tryz.func39 O 4 O O ?_;intro a c
 have hW:=bz w0
 refine Zs c fun _ a6=>?_;refine Za O<|ZX a6 fun a c _ a7=>?_;refine Zs c fun _ a8=>?_;refine Zm O<|Zt a8 fun a c=>?_
 refine Xz c O (fun aA=>?_) (fun aA=>?_)
 ·refine Zs c fun _ aB=>?_;refine Za O<|Zt aB fun a c=>?_;refine Q6<|X7<|X4 c (Xo c O O) ?_;exact ⟨by simp [*],rfl⟩
 refine Q7<|a7 _ _<|Zs c fun _ aC=>?_;refine Za O<|Zt aC fun a c=>?_
 refine Q6 (X4 c (Xo c O O) ?_)
 exact ⟨by simp [*],rfl⟩
theorem Xyu(t:World)(x:Rg)(Al:Option Addr)(cl:Nat)(l:List Rg)(aB:Rd t t.heap.size 76 encR Al l)(hc:cl=l.length)(aU:l≠[])(b9:l.length<=1000) : Ret Tryz.prog 155 [.agg #[vi x.a,vi x.b,vi x.c,vi x.d],.slice Al l.length cl] t (fun v w=>v=.tuple #[rV (rIf1 x l),.bool (rIf2 x l)]/\Below t.heap.size t w):=by
 refine enter Tryz.func155 O 23 O O ?_;intro a j
 have g:=bz t
 refine Zs j fun _ aV=>?_;refine Zf (X0u (zs:=[vi x.a,vi x.b,vi x.c,vi x.d]) O O) ?_;rintro _ w1 ⟨b3,rfl,aW,o,f⟩;have b5:=Q0 g.size aW;have g:=btr g o;refine Zf (X03 (zs:=[vi 0,vi 0,vi 0,vi 0]) X4u O) ?_;rintro _ w2 ⟨b4,rfl,aX,o,e⟩
 have aO:b3≠b4:=by have:=f.lt;omega
 have z:=Q0 g.size aX;have f:=f.bw o;have g:=btr g o;refine Za O<|ZX aV fun a j _ aY=>?_;refine Zs j fun _ aZ=>?_;refine Zm O<|Ze (Vn X0j f)<|Zf (X9 (k:=1) (vs:=[.agg #[vi x.a,vi x.b,vi x.c,vi x.d]]) (zs:=[vi x.a,vi x.b,vi x.c,vi x.d]) O X8h X97 O O) ?_;rintro _ w3 ⟨b7,rfl,b0,o,a6⟩
 have aP:b3≠b7:=by have:=f.lt;omega
 have aQ:b4≠b7:=by have:=e.lt;omega
 have b6:=Q0 g.size b0;have f:=f.bw o;have e:=e.bw o;have g:=btr g o;refine Zf (Xdb (enc:=encR) (l:=(l)) (l2:=([x])) O O X8h X97 Xdr (aB.bx g) (Rd.of_blk a6 O _ a6.lt) hc aU O5 (by simp only [maxLen];simp;omega) O6) ?_;rintro _ w4 ⟨A9,c9,rfl,i,o⟩;have aR:=i.awayNew f.lt;have aS:=i.awayNew e.lt;have aT:=i.awayNew a6.lt;have i:=i.lower g.size;have f:=f.bw o;have e:=e.bw o;have g:=btr g o;refine Ze (X11 O X8h)<|Zm O<|Zt aZ fun a j=>?_;refine Q8 ?_
 have b8:(l++[x]).length<=1001:=by simp;omega
 refine X00 (σ:=Nat) (fun (k:Nat) (a:Act) (w:World)=>Fr a 23 [(2,(pZ9 b3)),(4,(pZ9 b4)),(11,.slice A9 (l++([x])).length c9),(12,vi ((l++([x])).length:Int)),(13,vi (k:Int))]/\(k<=(l++[x]).length)/\(((l++[x]).take k).all rOk=true)/\Blk w b3 76 [vi x.a,vi x.b,vi x.c,vi x.d]/\Blk w b4 76 [vi 0,vi 0,vi 0,vi 0]/\Own w t.heap.size 76 4 encR A9 c9 (l++([x]))/\Below t.heap.size t w) (fun (k:Nat)=>(l++[x]).length+1-k) 0 ?_ ?_
 ·exact ⟨j.sb,(Qf _),O5,f,e,i,g⟩
 rintro k a w5 ⟨j,hk,h,f,e,i,g⟩;refine Zs j fun _ aC=>?_;refine Ze (X1a O O)<|ZX aC fun a j _ aD=>?_
 refine X0z j O (fun a7 aE=>?_) (fun a7 aE=>?_)
 ·obtain ⟨m,p⟩:=X8 (l:=(l++([x]))) (k:=k) Z
  refine Q7<|aD _ _<|Q5 fun _ aF=>?_;refine Q8<|Zs j fun _ aG=>?_;refine Zi (k:=k) (u:=m) (enc:=encR) (l:=l++([x])) tv0 O O X8h X2a Xdr i.rd p O ?_;intro bC a8;refine Ze (X09 (l:=[vi m.a,vi m.b,vi m.c,vi m.d]) O X0j a8 O) ?_;refine ZB [vi m.a,vi m.b,vi m.c,vi m.d] X4u X2a fun b18 w7 aH o aI=>?_
  have aJ:b3≠b18:=by have:=f.lt;omega
  have aK:b4≠b18:=by have:=e.lt;omega
  have b1:=Q0 g.size aH;have f:=f.bw o;have e:=e.bw o;have i:=i.bw o;have g:=btr g o;refine Zx aG fun a j _ aL=>?_;refine Ze (Vn X0j aI)<|Zf (Vc (Xue _ m) Xf9) ?_;rintro _ w8 ⟨rfl,o⟩;have f:=f.bw o;have e:=e.bw o;have i:=i.bw o;have g:=btr g o;refine Ze (X1w O)<|Zt aL fun a j=>?_
  refine Xz j O (fun q=>?_) (fun q=>?_)
  ·have aA:rIf2 x l=false:=Xao p (by simpa using q)
   refine Zs j fun _ aM=>?_;refine Ze (Xt (ps:=[]) (cs:=[vi 0,vi 0,vi 0,vi 0]) O (fun _=>by first|rfl|kernel_rfl))<|Zo (Vw [vi 0,vi 0,vi 0,vi 0] X2a e) ?_;rintro _ w9 ⟨ho,hb⟩;have g:=Below.oy g ho z;have e:=hb;refine Za O<|Zt aM fun a j=>?_;refine Q6<|X05<|X7<|X7 ?_;refine X05<|X7<|X4 j (X2u j O (ResV.cellN (l:=[vi 0,vi 0,vi 0,vi 0]) O X0j (e.at 0) O) O) ?_;exact ⟨by simp [rIf1,aA],g⟩
  have b2:rOk m=true:=by simpa using q
  refine Q7<|X6<|aF _ _<|Zr j ?_;refine Ze (Xr O O Z Z)<|Zm O ?_;refine Zn fun a j=>?_;refine Xc ?_;exact ⟨k+1,⟨j.sb,Z,(X5a h p b2),f,e,i,g⟩,Z⟩
 refine Q9<|Xg<|Xg<|X01 ?_;refine aY _ _<|Zs j fun _ aN=>?_;refine Ze (Vn X0j f)<|Zo (Vw [vi x.a,vi x.b,vi x.c,vi x.d] X2a e) ?_;rintro _ bD ⟨ho,hb⟩;have g:=Below.oy g ho z;have e:=hb;refine Za O<|Zt aN fun a j=>?_
 refine Q6 (X4 j (X2u j O (ResV.cellN (l:=[vi x.a,vi x.b,vi x.c,vi x.d]) O X0j (e.at 0) O) O) ?_)
 have aA:rIf2 x l=true:=X4m h Z
 exact ⟨by simp [rIf1,aA],g⟩
theorem Y3j(w0:World)(x:Rg) : Ret Tryz.prog 115 [.agg #[vi x.a,vi x.b,vi x.c,vi x.d]] w0 (fun v w=>v=.tuple #[rV (rIf1 (rRoot x) [x]),.bool (rIf2 (rRoot x) [x])]/\Below w0.heap.size w0 w):=by
 refine enter Tryz.func115 O 30 O O ?_;intro a hf
 have g:=bz w0
 refine Zs hf fun _ aC=>?_;refine Zf (X0u (zs:=[vi x.a,vi x.b,vi x.c,vi x.d]) O O) ?_;rintro _ w1 ⟨b2,rfl,aD,i,e⟩;have aH:=Q0 g.size aD;have g:=btr g i;refine Zf (X03 (zs:=[vi 0,vi 0,vi 0,vi 0]) X4u O) ?_;rintro _ w2 ⟨b3,rfl,aE,i,f⟩
 have a8:b2≠b3:=by have:=e.lt;omega
 have a6:=Q0 g.size aE;have e:=e.bw i;have g:=btr g i;refine Za O<|Zx aC fun a hf _ aF=>?_;refine Ze (Vd O X1h 1)<|Ze (X0 O X2 (e.at 1))<|Ze (Vd O X1j 3)<|Ze (X0 O X2 (e.at 3))<|Ze (X5u O O)<|Ze (Vd O X1g 0)<|Ze (X0 O X2 (e.at 0))<|Ze (Vd O X1i 2)<|Ze (X0 O X2 (e.at 2))<|Ze (X3s O O) ?_;refine Ze (Vd O X1h 1)<|Ze (X0 O X2 (e.at 1))<|Ze (Vd O X1j 3)<|Ze (X0 O X2 (e.at 3))<|Ze (X3s O O)<|Ze (Vd O X1i 2)<|Ze (X0 O X2 (e.at 2))<|Ze (Vd O X1g 0)<|Ze (X0 O X2 (e.at 0))<|Ze (X5u O O) ?_;refine Ze (Xt (ps:=[(0,vi (wr (x.b-x.d))),(1,vi (wr (x.a+x.c))),(2,vi (wr (x.b+x.d))),(3,vi (wr (x.c-x.a)))]) (cs:=[vi (wr (x.b-x.d)),vi (wr (x.a+x.c)),vi (wr (x.b+x.d)),vi (wr (x.c-x.a))]) O (fun _=>by first|rfl|kernel_rfl))<|Ze (Vn X0j e)<|Zf (X9 (k:=1) (vs:=[.agg #[vi x.a,vi x.b,vi x.c,vi x.d]]) (zs:=[vi x.a,vi x.b,vi x.c,vi x.d]) O X8h X97 O O) ?_;rintro _ w3 ⟨b5,rfl,aG,i,a7⟩
 have aA:b2≠b5:=by have:=e.lt;omega
 have aB:b3≠b5:=by have:=f.lt;omega
 have aI:=Q0 g.size aG;have f:=f.bw i;have g:=btr g i;refine Zf (Vc (Xyu _ (rRoot x) (some ⟨b5,0,none⟩) 1 ([x]) (Rd.of_blk a7 O _ a7.lt) O O5 O5) Xl5) ?_;rintro _ w4 ⟨rfl,i⟩;have f:=f.bw i;have g:=btr g i;refine Ze (Xj (vs:=[.agg #[vi ((rIf1 (rRoot x) ([x])).a),vi ((rIf1 (rRoot x) ([x])).b),vi ((rIf1 (rRoot x) ([x])).c),vi ((rIf1 (rRoot x) ([x])).d)],.bool (rIf2 (rRoot x) ([x]))]) O O)<|Ze (Xj (vs:=[.agg #[vi ((rIf1 (rRoot x) ([x])).a),vi ((rIf1 (rRoot x) ([x])).b),vi ((rIf1 (rRoot x) ([x])).c),vi ((rIf1 (rRoot x) ([x])).d)],.bool (rIf2 (rRoot x) ([x]))]) O O)<|Zo (Vw [vi ((rIf1 (rRoot x) ([x])).a),vi ((rIf1 (rRoot x) ([x])).b),vi ((rIf1 (rRoot x) ([x])).c),vi ((rIf1 (rRoot x) ([x])).d)] X2a f) ?_;rintro _ w5 ⟨ho,hb⟩;have g:=Below.oy g ho a6;have f:=hb;refine Za O<|Zt aF fun a hf=>?_
 refine Q6 (X4 hf (X2u hf O (ResV.cellN (l:=[vi ((rIf1 (rRoot x) ([x])).a),vi ((rIf1 (rRoot x) ([x])).b),vi ((rIf1 (rRoot x) ([x])).c),vi ((rIf1 (rRoot x) ([x])).d)]) O X0j (f.at 0) O) O) ?_)
 exact ⟨O,g⟩
theorem Xyo(w0:World)(x:Rg)(m:Int)(hm:m<=1000) : Ret Tryz.prog 139 [.agg #[vi x.a,vi x.b,vi x.c,vi x.d],vi m] w0 (fun v w=>v=dV (dLow x m)/\Below w0.heap.size w0 w):=by
 refine enter Tryz.func139 O 18 O O ?_;intro a i
 have k:=bz w0
 refine Zs i fun _ aB=>?_;refine Zf (X0u (zs:=[vi x.a,vi x.b,vi x.c,vi x.d]) O O) ?_;rintro _ w1 ⟨b2,rfl,aC,o,e⟩;have a6:=Q0 k.size aC;have k:=btr k o;refine Zf (X03 (zs:=[vi 0,vi 0,vi 0,vi 0,vi 0]) X3d O) ?_;rintro _ w2 ⟨b3,rfl,aD,o,f⟩;have a7:=Q0 k.size aD;have e:=e.bw o;have k:=btr k o;refine ZX aB fun a i _ aE=>?_;refine Q8<|X00 (σ:=Rg×Int) (fun (s:Rg×Int) (a:Act) (w:World)=>match s with|(y,j)=>Fr a 18 [(1,vi j),(2,(pZ9 b2)),(4,(pZ9 b3))]/\(dLow y j=dLow x m)/\(j<=1000)/\Blk w b2 76 [vi y.a,vi y.b,vi y.c,vi y.d]/\Blk w b3 78 [vi 0,vi 0,vi 0,vi 0,vi 0]/\Below w0.heap.size w0 w) (fun (s:Rg×Int)=>match s with|(y,j)=>j.toNat) (x,m) ?_ ?_
 ·exact ⟨i.sb,O,hm,e,f,k⟩
 rintro ⟨y,j⟩ a w3 ⟨i,t,aK,e,f,k⟩;refine Q5 fun _ aF=>?_;refine Q5 fun _ aG=>?_;refine X0p (fun a w=>Fr a 18 [(1,vi j),(2,(pZ9 b2)),(4,(pZ9 b3)),(10,.bool ((decide (0<j))&&(rEven y)))]/\Below w3.heap.size w3 w) ?_ ?_
 ·have q:Below w3.heap.size w3 w3:=Below.refl _ _
  refine Zr i<|Zm O<|Ze (X4e O O)<|Zm O ?_
  refine Zg 7 O (fun g=>?_) (fun g=>?_)
  ·refine Zv (gW g) (Vn X0j e) ?_;refine Zk (gW g) (Vc (Xug _ y) Xfc) ?_;rintro _ w4 ⟨rfl,o⟩;have k:=btr k o;have q:=btr q o;refine Ze (Xa O g O) ?_;refine Zn fun a i=>?_;exact ⟨i.sub ⟨O,O,O,X1 O (by first|rfl|(simp only [g,bs];done)|simp [g]),trivial⟩,q⟩
  (iterate 2 refine Zp (gP g) ?_);refine Ze (Xh O g O) ?_;refine Zn fun a i=>?_;exact ⟨i.sub ⟨O,O,O,X1 O (by first|rfl|(simp only [g,bs];done)|simp [g]),trivial⟩,q⟩
 rintro a w5 ⟨i,o⟩;have e:=e.bw o;have f:=f.bw o;have k:=btr k o;refine aG _ _ ?_
 refine Xz i O (fun p=>?_) (fun p=>?_)
 ·have a8:=p
  have aL:0<j:=by revert p;simp;omega
  have aH:rEven y=true:=by revert p;cases rEven y<;>simp
  refine Q7<|aF _ _<|Q8<|Zs i fun _ aI=>?_;refine Ze (Vn X0j e)<|Zf (Vc (Xza _ y) Xl6) ?_;rintro _ w6 ⟨rfl,o⟩;have e:=e.bw o;have f:=f.bw o;have k:=btr k o;refine Zo (Vw [vi ((rHalf y).a),vi ((rHalf y).b),vi ((rHalf y).c),vi ((rHalf y).d)] X2a e) ?_;rintro _ w7 ⟨ho,hb⟩;have f:=f.oz ho e O;have k:=Below.oy k ho a6;have e:=hb;refine Zt aI fun a i=>?_;refine Zr i<|Zm O<|Ze (X1c O O Z Z)<|Za O ?_;refine Zn fun a i=>?_;refine X6<|Xc ?_;exact ⟨(rHalf y,j-1),⟨i.sb,(by rw [<- t];exact (X43 Z aH).symm),Z,e,f,k⟩,O0⟩
 have a8:=p
 have aJ:dLow y j=⟨y,j⟩:=X2w (by intro h0;revert p;simp [h0])
 refine Q9<|Xg<|Xg<|X01 ?_;refine aE _ _<|Zs i fun _ aA=>?_;refine Ze (Vn X0j e)<|Zm O<|Ze (Xt (ps:=[(0,.agg #[vi y.a,vi y.b,vi y.c,vi y.d]),(1,vi j)]) (cs:=[vi y.a,vi y.b,vi y.c,vi y.d,vi j]) O (fun _=>by first|rfl|kernel_rfl))<|Zo (Vw [vi y.a,vi y.b,vi y.c,vi y.d,vi j] X0i f) ?_;rintro _ w8 ⟨ho,hb⟩;have k:=Below.oy k ho a7;have f:=hb;refine Zt aA fun a i=>?_
 refine Q6 (X4 i (Xo i O (ResV.cellN (l:=[vi y.a,vi y.b,vi y.c,vi y.d,vi j]) O X04 (f.at 0) O)) ?_)
 refine ⟨?_,k⟩
 rw [<- t,aJ]
theorem Y3f(w0:World)(x:Rg) : Ret Tryz.prog 117 [.agg #[vi x.a,vi x.b,vi x.c,vi x.d]] w0 (fun v w=>v=.tuple #[rV (rDiv1 x),.bool (rDiv2 x)]/\Below w0.heap.size w0 w):=by
 refine enter Tryz.func117 O 43 O O ?_;intro a m
 have i:=bz w0
 refine Zs m fun _ aC=>?_;refine Zf (X0u (zs:=[vi x.a,vi x.b,vi x.c,vi x.d]) O O) ?_;rintro _ w1 ⟨b2,rfl,aD,j,e⟩;have aL:=Q0 i.size aD;have i:=btr i j;refine Zf (X03 (zs:=[vi 0,vi 0,vi 0,vi 0]) X4u O) ?_;rintro _ w2 ⟨b3,rfl,aE,j,f⟩
 have aB:b2≠b3:=by have:=e.lt;omega
 have q:=Q0 i.size aE;have e:=e.bw j;have i:=btr i j;refine Za O<|ZX aC fun a m _ aF=>?_;refine Q5 fun _ aG=>?_;refine X0p (fun a w=>Fr a 43 [(1,(pZ9 b2)),(2,(pZ9 b3)),(11,.bool ((!(rOk x))||(!(rEven x))))]/\Below w2.heap.size w2 w) ?_ ?_
 ·have o:Below w2.heap.size w2 w2:=Below.refl _ _
  refine Zr m<|Ze (Vn X0j e)<|Zf (Vc (Xue _ x) Xf9) ?_;rintro _ w3 ⟨rfl,j⟩;have e:=e.bw j;have i:=btr i j;have o:=btr o j;refine Ze (X1w O)<|Zm O ?_
  refine Zg 7 O (fun g=>?_) (fun g=>?_)
  ·(iterate 3 refine Zp (gP g) ?_);refine Ze (Xa O g O) ?_;refine Zn fun a m=>?_;exact ⟨m.sub ⟨O,O,X1 O (by first|rfl|(simp only [g,bs];done)|simp [g]),trivial⟩,o⟩
  refine Zv (gW g) (Vn X0j e) ?_;refine Zk (gW g) (Vc (Xuf _ x) Xfa) ?_;rintro _ w4 ⟨rfl,j⟩;have i:=btr i j;have o:=btr o j;refine Zv (gW g) (X1w O) ?_;refine Ze (Xh O g O) ?_;refine Zn fun a m=>?_;exact ⟨m.sub ⟨O,O,X1 O (by first|rfl|(simp only [g,bs];done)|simp [g]),trivial⟩,o⟩
 rintro a w5 ⟨m,j⟩;have e:=e.bw j;have f:=f.bw j;have i:=btr i j;refine aG _ _ ?_
 refine Xz m O (fun p=>?_) (fun p=>?_)
 ·have a6:=p
  have hn:rDiv2 x=false:=by unfold rDiv2;revert p;cases rOk x<;>cases rEven x<;>simp
  refine Zs m fun _ aH=>?_;refine Ze (Xt (ps:=[]) (cs:=[vi 0,vi 0,vi 0,vi 0]) O (fun _=>by first|rfl|kernel_rfl))<|Zo (Vw [vi 0,vi 0,vi 0,vi 0] X2a f) ?_;rintro _ w6 ⟨ho,hb⟩;have i:=Below.oy i ho q;have f:=hb;refine Za O<|Zt aH fun a m=>?_;refine Q6<|X7<|X4 m (X2u m O (ResV.cellN (l:=[vi 0,vi 0,vi 0,vi 0]) O X0j (f.at 0) O) O) ?_;exact ⟨by simp [rDiv1,hn],i⟩
 have a6:=p
 have hy:(rOk x&&rEven x)=true:=by revert p;cases rOk x<;>cases rEven x<;>simp
 have aI:rOk x=true:=by revert hy;cases rOk x<;>simp
 refine Q7<|aF _ _<|Zs m fun _ aJ=>?_;refine Ze (Vd O X1h 1)<|Ze (X0 O X2 (e.at 1))<|Ze (Vd O X1j 3)<|Ze (X0 O X2 (e.at 3))<|Ze (X5u O O)<|Ze (Xbj O O O)<|Ze (Vd O X1g 0)<|Ze (X0 O X2 (e.at 0))<|Ze (Vd O X1i 2)<|Ze (X0 O X2 (e.at 2)) ?_;refine Ze (X3s O O)<|Ze (Xbj O O O)<|Ze (Vd O X1h 1)<|Ze (X0 O X2 (e.at 1))<|Ze (Vd O X1j 3)<|Ze (X0 O X2 (e.at 3))<|Ze (X3s O O)<|Ze (Xbj O O O)<|Ze (Vd O X1i 2)<|Ze (X0 O X2 (e.at 2)) ?_;refine Ze (Vd O X1g 0)<|Ze (X0 O X2 (e.at 0))<|Ze (X5u O O)<|Ze (Xbj O O O)<|Ze (Xt (ps:=[(0,vi (wr ((wr (x.b-x.d)).tdiv 2))),(1,vi (wr ((wr (x.a+x.c)).tdiv 2))),(2,vi (wr ((wr (x.b+x.d)).tdiv 2))),(3,vi (wr ((wr (x.c-x.a)).tdiv 2)))]) (cs:=[vi (wr ((wr (x.b-x.d)).tdiv 2)),vi (wr ((wr (x.a+x.c)).tdiv 2)),vi (wr ((wr (x.b+x.d)).tdiv 2)),vi (wr ((wr (x.c-x.a)).tdiv 2))]) O (fun _=>by first|rfl|kernel_rfl))<|Ze (Vn X0j e)<|Zf (X9 (k:=1) (vs:=[.agg #[vi x.a,vi x.b,vi x.c,vi x.d]]) (zs:=[vi x.a,vi x.b,vi x.c,vi x.d]) O X8h X97 O O) ?_;rintro _ w7 ⟨b10,rfl,a7,j,t⟩
 have a8:b2≠b10:=by have:=e.lt;omega
 have aA:b3≠b10:=by have:=f.lt;omega
 have aK:=Q0 i.size a7;have f:=f.bw j;have i:=btr i j;refine Zf (Vc (Xyu _ (rHalf x) (some ⟨b10,0,none⟩) 1 ([x]) (Rd.of_blk t O _ t.lt) O O5 O5) Xl5) ?_;rintro _ w8 ⟨rfl,j⟩;have f:=f.bw j;have i:=btr i j;refine Ze (Xj (vs:=[.agg #[vi ((rIf1 (rHalf x) ([x])).a),vi ((rIf1 (rHalf x) ([x])).b),vi ((rIf1 (rHalf x) ([x])).c),vi ((rIf1 (rHalf x) ([x])).d)],.bool (rIf2 (rHalf x) ([x]))]) O O)<|Ze (Xj (vs:=[.agg #[vi ((rIf1 (rHalf x) ([x])).a),vi ((rIf1 (rHalf x) ([x])).b),vi ((rIf1 (rHalf x) ([x])).c),vi ((rIf1 (rHalf x) ([x])).d)],.bool (rIf2 (rHalf x) ([x]))]) O O)<|Zo (Vw [vi ((rIf1 (rHalf x) ([x])).a),vi ((rIf1 (rHalf x) ([x])).b),vi ((rIf1 (rHalf x) ([x])).c),vi ((rIf1 (rHalf x) ([x])).d)] X2a f) ?_;rintro _ w9 ⟨ho,hb⟩;have i:=Below.oy i ho q;have f:=hb;refine Za O<|Zt aJ fun a m=>?_
 refine Q6 (X4 m (X2u m O (ResV.cellN (l:=[vi ((rIf1 (rHalf x) ([x])).a),vi ((rIf1 (rHalf x) ([x])).b),vi ((rIf1 (rHalf x) ([x])).c),vi ((rIf1 (rHalf x) ([x])).d)]) O X0j (f.at 0) O) O) ?_)
 refine ⟨?_,i⟩
 have hd:rDiv2 x=true:=hy
 have h2:=Xn3 aI
 show Value.tuple #[rV (rIf1 (rHalf x) [x]),.bool (rIf2 (rHalf x) [x])]=_
 rw [rIf1,h2,rDiv1,hd]
theorem Y39(w0:World)(x:Dy) : Ret Tryz.prog 118 [.agg #[vi x.num.a,vi x.num.b,vi x.num.c,vi x.num.d,vi x.exp]] w0 (fun v w=>v=.bool (dOk x)/\Below w0.heap.size w0 w):=by
 refine enter Tryz.func118 O 22 O O ?_;intro a j
 have m:=bz w0
 refine Zs j fun _ a6=>?_;refine Zf (X0u (zs:=[vi x.num.a,vi x.num.b,vi x.num.c,vi x.num.d,vi x.exp]) O O) ?_;rintro _ w1 ⟨b2,rfl,a7,o,k⟩;have aA:=Q0 m.size a7;have m:=btr m o;refine Za O<|ZX a6 fun a j _ a8=>?_;refine X0p (fun a w=>Fr a 22 [(2,.bool (((rOk x.num)&&(inR x.exp 0 60))&&((x.exp==0)||(!(rEven x.num)))))]/\Below w1.heap.size w1 w) ?_ ?_
 ·have i:Below w1.heap.size w1 w1:=Below.refl _ _
  refine Zr j<|Ze (Vd O X35 0)<|Ze (X09 (l:=[vi x.num.a,vi x.num.b,vi x.num.c,vi x.num.d]) O X0j ((k.at 0).take 4) O)<|Zf (Vc (Xue _ x.num) Xf9) ?_;rintro _ w2 ⟨rfl,o⟩;have k:=k.bw o;have m:=btr m o;have i:=btr i o;refine Zm O ?_
  refine Zg 6 O (fun f=>?_) (fun f=>?_)
  ·refine Zv (gW f) (Vd O X26 4) ?_;refine Zv (gW f) (X0 O X2 (k.at 4)) ?_;refine Zk (gW f) (Vc (F91 _ x.exp 0 60) X4g) ?_;rintro _ _ ⟨rfl,rfl⟩;refine Ze (Xa O f O)<|Zm O ?_
   refine Zg 11 O (fun e=>?_) (fun e=>?_)
   ·refine Zv (gW e) (Vd O X26 4) ?_;refine Zv (gW e) (X0 O X2 (k.at 4)) ?_;refine Zv (gW e) (X0f O O) ?_;refine Zv (gW e) (X3 O) ?_
    refine Zg 15 O (fun g=>?_) (fun g=>?_)
    ·(iterate 4 refine Zp (gP g) ?_);refine Zv (gW e) (Xa O g O) ?_;refine Ze (Xa O e O)<|Za O ?_;refine Zn fun a j=>?_;exact ⟨j.sub ⟨X1 O (by first|rfl|(simp only [f,e,g,bs];done)|simp [f,e,g]),trivial⟩,i⟩
    refine Zv (gW g) (Vd O X35 0) ?_;refine Zv (gW g) (X09 (l:=[vi x.num.a,vi x.num.b,vi x.num.c,vi x.num.d]) O X0j ((k.at 0).take 4) O) ?_;refine Zk (gW g) (Vc (Xuf _ x.num) Xfa) ?_;rintro _ w3 ⟨rfl,o⟩;have m:=btr m o;have i:=btr i o;refine Zv (gW g) (X1w O) ?_;refine Zv (gW e) (Xh O g O) ?_;refine Ze (Xa O e O)<|Za O ?_;refine Zn fun a j=>?_;exact ⟨j.sub ⟨X1 O (by first|rfl|(simp only [f,e,g,bs];done)|simp [f,e,g]),trivial⟩,i⟩
   (iterate 4 refine Zp (gP e) ?_);(iterate 4 refine Zp (gP tv0) ?_);refine Zp (gP e) ?_;refine Ze (Xh O e O)<|Za O ?_;refine Zn fun a j=>?_;exact ⟨j.sub ⟨X1 O (by first|rfl|(simp only [f,e,bs];done)|simp [f,e]),trivial⟩,i⟩
  (iterate 3 refine Zp (gP f) ?_);refine Ze (Xh O f O)<|Zm O<|Zp (gP O) ?_;(iterate 3 refine Zp (gP O) ?_);(iterate 4 refine Zp (gP tv0) ?_);refine Zp (gP O) ?_;refine Ze (Xh O O O)<|Za O ?_;refine Zn fun a j=>?_;exact ⟨j.sub ⟨X1 O (by first|rfl|(simp only [f,bs];done)|simp [f]),trivial⟩,i⟩
 rintro a w4 ⟨j,o⟩;have m:=btr m o;refine a8 _ _ ?_
 refine Q6 (X4 j (Xo j O O) ?_)
 exact ⟨by simp [dOk, *],m⟩
theorem Xy9(w0:World)(n:Int) : Ret Tryz.prog 78 [vi n] w0 (fun v w=>v=.bool (isDimB n)/\w0=w):=by
 refine enter Tryz.func78 O 12 O O ?_;intro a c
 have hW:=bz w0
 refine Zs c fun _ a6=>?_;refine Za O<|ZX a6 fun a c _ a7=>?_;refine X0p (fun a w=>Fr a 12 [(2,.bool ((inR n 1 32)&&((bits .and .i64 n (wr (n-1)))==0)))]/\w0=w) ?_ ?_
 ·refine Zr c<|Zm O<|Zf (Vc (F91 _ n 1 32) X4g) ?_;rintro _ _ ⟨rfl,rfl⟩;refine Zm O ?_
  refine Zg 5 O (fun b=>?_) (fun b=>?_)
  ·refine Zv (gW b) (X3 O) ?_;refine Zv (gW b) (X3 O) ?_;refine Zv (gW b) (X5u O O) ?_;refine Zv (gW b) (Xjq O O) ?_;refine Zv (gW b) (X0f O O) ?_;refine Ze (Xa O b O)<|Za O ?_;refine Zn fun a c=>?_;exact ⟨c.sub ⟨X1 O (by first|rfl|(simp only [b,bs];done)|simp [b]),trivial⟩,O⟩
  (iterate 5 refine Zp (gP b) ?_);refine Ze (Xh O b O)<|Za O ?_;refine Zn fun a c=>?_;exact ⟨c.sub ⟨X1 O (by first|rfl|(simp only [b,bs];done)|simp [b]),trivial⟩,O⟩
 rintro a _ ⟨c,rfl⟩;refine a7 _ _ ?_
 refine Q6 (X4 c (Xo c O O) ?_)
 exact ⟨by simp [isDimB, *],rfl⟩
theorem Y30(w0:World)(n:Int)(x:Gt) : Ret Tryz.prog 59 [vi n,.agg #[vi x.k,vi x.a,vi x.b]] w0 (fun v w=>v=.bool (gOk n x)/\Below w0.heap.size w0 w):=by
 refine enter Tryz.func59 O 60 O O ?_;intro a e
 have hW:=bz w0
 refine Zs e fun _ aC=>?_;refine Zf (X0u (zs:=[vi x.k,vi x.a,vi x.b]) O O) ?_;rintro _ w1 ⟨b2,rfl,aD,hE,p⟩;have aJ:=Q0 hW.size aD;have hW:=btr hW hE;refine Za O<|ZX aC fun a e _ aE=>?_;refine Q8<|Q5 fun _ aF=>?_;refine X0p (fun a w=>Fr a 60 [(0,vi n),(3,(pZ9 b2)),(5,.bool ((!(inR n 1 5))||(!(inR x.k 1 12))))]/\w1=w) ?_ ?_
 ·refine Zr e<|Zm O<|Zf (Vc (F91 _ n 1 5) X4g) ?_;rintro _ _ ⟨rfl,rfl⟩;refine Ze (X1w O)<|Zm O ?_
  refine Zg 9 O (fun o=>?_) (fun o=>?_)
  ·(iterate 4 refine Zp (gP o) ?_);refine Ze (Xa O o O)<|Za O ?_;refine Zn fun a e=>?_;exact ⟨e.sub ⟨O,O,X1 O (by first|rfl|(simp only [o,bs];done)|simp [o]),trivial⟩,O⟩
  refine Zv (gW o) (Vd O X25 0) ?_;refine Zv (gW o) (X0 O X2 (p.at 0)) ?_;refine Zk (gW o) (Vc (F91 _ x.k 1 12) X4g) ?_;rintro _ _ ⟨rfl,rfl⟩;refine Zv (gW o) (X1w O) ?_;refine Ze (Xh O o O)<|Za O ?_;refine Zn fun a e=>?_;exact ⟨e.sub ⟨O,O,X1 O (by first|rfl|(simp only [o,bs];done)|simp [o]),trivial⟩,O⟩
 rintro a _ ⟨e,rfl⟩;refine aF _ _ ?_
 refine Xz e O (fun j=>?_) (fun j=>?_)
 ·have hn:=Xb3 j;refine Zs e fun _ aG=>?_;refine Za O<|Zt aG fun a e=>?_;refine Q6<|X05<|X7<|X4 e (Xo e O O) ?_;exact ⟨by rw [gOk,hn];rfl,hW⟩
 have hy:=Xed j;have aH:=(Qd _ _▸hy:inR n 1 5=true/\inR x.k 1 12=true);have aK:=X0o.1 aH.1;refine Zs e fun _ aI=>?_;refine Ze (Vd O X25 0)<|Ze (X0 O X2 (p.at 0))<|Ze (X0f O O)<|Za O<|Zt aI fun a e=>?_
 refine Xz e O (fun m=>?_) (fun m=>?_)
 ·have hk:x.k=12:=by simpa using m
  refine Q5 fun _ a7=>?_;refine X0p (fun a w=>Fr a 60 [(4,.bool ((x.a==0)&&(x.b==0)))]/\w1=w) ?_ ?_
  ·refine Zr e<|Ze (Vd O Xs 1)<|Ze (X0 O X2 (p.at 1))<|Ze (X0f O O)<|Zm O ?_
   refine Zg 22 O (fun f=>?_) (fun f=>?_)
   ·refine Zv (gW f) (Vd O X0h 2) ?_;refine Zv (gW f) (X0 O X2 (p.at 2)) ?_;refine Zv (gW f) (X0f O O) ?_;refine Ze (Xa O f O)<|Za O ?_;refine Zn fun a e=>?_;exact ⟨e.sub ⟨X1 O (by first|rfl|(simp only [j,m,f,bs];done)|simp [j,m,f]),trivial⟩,O⟩
   (iterate 3 refine Zp (gP f) ?_);refine Ze (Xh O f O)<|Za O ?_;refine Zn fun a e=>?_;exact ⟨e.sub ⟨X1 O (by first|rfl|(simp only [j,m,f,bs];done)|simp [j,m,f]),trivial⟩,O⟩
  rintro a _ ⟨e,rfl⟩;refine a7 _ _<|Q6<|X05<|X7 ?_;refine X4 e (Xo e O O) ?_;exact ⟨by rw [gOk,hy,Q4 hk,Qw],hW⟩
 have hk:¬ x.k=12:=by simpa using m
 refine Zs e fun _ a8=>?_;refine Ze (Vd O X25 0)<|Ze (X0 O X2 (p.at 0))<|Zf (Vc (F99 _ x.k) Y1e) ?_;rintro _ _ ⟨rfl,rfl⟩;refine Za O<|Zt a8 fun a e=>?_
 refine Xz e O (fun g=>?_) (fun g=>?_)
 ·have a6:=g;refine Q5 fun _ aA=>?_;refine X0p (fun a w=>Fr a 60 [(4,.bool (((inR x.a 0 (n-1))&&(inR x.b 0 (n-1)))&&(x.a != x.b)))]/\w1=w) ?_ ?_
  ·refine Zr e<|Ze (Vd O Xs 1)<|Ze (X0 O X2 (p.at 1))<|Zm O<|Ze (X1c O O Z Z)<|Zf (Vc (F91 _ x.a 0 (n-1)) X4g) ?_;rintro _ _ ⟨rfl,rfl⟩;refine Zm O ?_
   refine Zg 36 O (fun c=>?_) (fun c=>?_)
   ·refine Zv (gW c) (Vd O X0h 2) ?_;refine Zv (gW c) (X0 O X2 (p.at 2)) ?_;refine Zv (gW c) (X3 O) ?_;refine Zv (gW c) (X1c O O Z Z) ?_;refine Zk (gW c) (Vc (F91 _ x.b 0 (n-1)) X4g) ?_;rintro _ _ ⟨rfl,rfl⟩;refine Ze (Xa O c O)<|Zm O ?_
    refine Zg 43 O (fun d=>?_) (fun d=>?_)
    ·refine Zv (gW d) (Vd O Xs 1) ?_;refine Zv (gW d) (X0 O X2 (p.at 1)) ?_;refine Zv (gW d) (Vd O X0h 2) ?_;refine Zv (gW d) (X0 O X2 (p.at 2)) ?_;refine Zv (gW d) (X3t O O) ?_;refine Ze (Xa O d O)<|Za O ?_;refine Zn fun a e=>?_;exact ⟨e.sub ⟨X1 O (by first|rfl|(simp only [j,m,g,c,d,bs];done)|simp [j,m,g,c,d]),trivial⟩,O⟩
    (iterate 5 refine Zp (gP d) ?_);refine Ze (Xh O d O)<|Za O ?_;refine Zn fun a e=>?_;exact ⟨e.sub ⟨X1 O (by first|rfl|(simp only [j,m,g,c,d,bs];done)|simp [j,m,g,c,d]),trivial⟩,O⟩
   (iterate 5 refine Zp (gP c) ?_);refine Ze (Xh O c O)<|Zm O<|Zp (gP O) ?_;(iterate 4 refine Zp (gP O) ?_);refine Ze (Xh O O O)<|Za O ?_;refine Zn fun a e=>?_;exact ⟨e.sub ⟨X1 O (by first|rfl|(simp only [j,m,g,c,bs];done)|simp [j,m,g,c]),trivial⟩,O⟩
  rintro a _ ⟨e,rfl⟩;refine aA _ _<|Q6<|X05<|X7 ?_;refine X4 e (Xo e O O) ?_;exact ⟨by rw [gOk,hy,Q3 hk,Q4 a6,Qw],hW⟩
 have a6:¬ inR x.k 9 11=true:=by rw [g];simp
 refine Q7<|X6<|aE _ _<|Q5 fun _ aB=>?_;refine X0p (fun a w=>Fr a 60 [(4,.bool ((inR x.a 0 (n-1))&&(x.b==0)))]/\w1=w) ?_ ?_
 ·refine Zr e<|Ze (Vd O Xs 1)<|Ze (X0 O X2 (p.at 1))<|Zm O<|Ze (X1c O O Z Z)<|Zf (Vc (F91 _ x.a 0 (n-1)) X4g) ?_;rintro _ _ ⟨rfl,rfl⟩;refine Zm O ?_
  refine Zg 55 O (fun i=>?_) (fun i=>?_)
  ·refine Zv (gW i) (Vd O X0h 2) ?_;refine Zv (gW i) (X0 O X2 (p.at 2)) ?_;refine Zv (gW i) (X0f O O) ?_;refine Ze (Xa O i O)<|Za O ?_;refine Zn fun a e=>?_;exact ⟨e.sub ⟨X1 O (by first|rfl|(simp only [j,m,g,i,bs];done)|simp [j,m,g,i]),trivial⟩,O⟩
  (iterate 3 refine Zp (gP i) ?_);refine Ze (Xh O i O)<|Za O ?_;refine Zn fun a e=>?_;exact ⟨e.sub ⟨X1 O (by first|rfl|(simp only [j,m,g,i,bs];done)|simp [j,m,g,i]),trivial⟩,O⟩
 rintro a _ ⟨e,rfl⟩;refine aB _ _ ?_
 refine Q6 (X4 e (Xo e O O) ?_)
 exact ⟨by rw [gOk,hy,Q3 hk,Q3 a6,Qw],hW⟩
theorem Y35(e:World)(Al:Option Addr)(cl:Nat)(l:List Gt)(aA:Rd e e.heap.size 66 encG Al l)(kq:FuncId)(pq:List Value)(Fq:FuncF Tryz.prog kq)(q:Gt->Bool)(hq:∀ x w,Below e.heap.size e w->Ret Tryz.prog kq ([gV x]++pq) w (fun v w'=>v=.bool (q x)/\Below w.heap.size w w'))(aP:l.length<=2305843009213693951) : Ret Tryz.prog 100 [.slice Al l.length cl,.func (.func kq) #[] pq.toArray] e (fun v w=>∃ i:Int,v=vi i/\decide (0<=i)=l.any q/\Below e.heap.size e w):=by
 refine enter Tryz.func100 O 19 O O ?_;intro a c
 have g:=bz e
 refine Zs c fun _ aG=>?_;refine Za O<|ZX aG fun a c _ aH=>?_;refine Zs c fun _ aI=>?_;refine Zm O<|Ze (X11 O X3q)<|Zm O<|Zt aI fun a c=>?_;refine Q8<|X00 (σ:=Nat) (fun (k:Nat) (a:Act) (w:World)=>Fr a 19 [(0,.slice Al l.length cl),(1,.func (.func kq) #[] pq.toArray),(7,vi (l.length:Int)),(8,vi (k:Int))]/\(k<=l.length)/\((l.take k).all (fun x=>!q x)=true)/\Below e.heap.size e w) (fun (k:Nat)=>l.length+1-k) 0 ?_ ?_
 ·exact ⟨c.sb,(Qf _),O5,g⟩
 rintro k a w1 ⟨c,hk,j,g⟩;refine Zs c fun _ aJ=>?_;refine Ze (X1a O O)<|ZX aJ fun a c _ aK=>?_
 refine X0z c O (fun aB aL=>?_) (fun aB aL=>?_)
 ·obtain ⟨f,a6⟩:=X8 (l:=l) (k:=k) Z
  refine Q7<|aK _ _<|Q5 fun _ aM=>?_;refine Q8<|Zs c fun _ aC=>?_;refine Zm O<|Za O<|Zx aC fun a c _ aD=>?_;refine Zm O<|Zm O<|Zm O<|Zi (k:=k) (u:=f) (enc:=encG) (l:=l) tv0 O O X3q X2t X3u (aA.bx g) a6 O ?_;intro aQ a7;refine Ze (X09 (l:=[vi f.k,vi f.a,vi f.b]) O X28 a7 O)<|Zf (Xbg (cs:=pq) (vs:=[.agg #[vi f.k,vi f.a,vi f.b]]) O O Fq (hq f _ g)) ?_;rintro _ w2 ⟨rfl,hE⟩;have g:=btr g hE;refine Zt aD fun a c=>?_
  refine Xz c O (fun d=>?_) (fun d=>?_)
  ·have a8:l.any q=true:=X7e a6 d
   refine Zs c fun _ aE=>?_;refine Zm O<|Za O<|Zt aE fun a c=>?_;refine Q6<|X05<|X7<|X7 ?_;refine X05<|X7<|X4 c (Xo c O O) ?_;exact ⟨_,O,by rw [a8];simp,g⟩
  have aN:=d
  have aO:(!q f)=true:=by revert d;cases q f<;>simp
  refine Q7<|X6<|aM _ _<|Zr c ?_;refine Ze (Xr O O Z Z)<|Zm O ?_;refine Zn fun a c=>?_;refine Xc ?_;exact ⟨k+1,⟨c.sb,Z,(X5a j a6 aO),g⟩,Z⟩
 refine Q9<|Xg<|Xg<|X01 ?_;refine aH _ _<|Zs c fun _ aF=>?_;refine Za O<|Zt aF fun a c=>?_
 refine Q6 (X4 c (Xo c O O) ?_)
 have a8:l.any q=false:=X6c (X4m j Z)
 exact ⟨_,O,by rw [a8];rfl,g⟩
theorem Y2y(b:World)(Al:Option Addr)(cl:Nat)(l:List Gt)(a6:Rd b b.heap.size 66 encG Al l)(kq:FuncId)(pq:List Value)(Fq:FuncF Tryz.prog kq)(q:Gt->Bool)(hq:∀ x w,Below b.heap.size b w->Ret Tryz.prog kq ([gV x]++pq) w (fun v w'=>v=.bool (q x)/\Below w.heap.size w w'))(a7:l.length<=2305843009213693951) : Ret Tryz.prog 57 [.slice Al l.length cl,.func (.func kq) #[] pq.toArray] b (fun v w=>v=.bool (l.any q)/\Below b.heap.size b w):=by
 refine enter Tryz.func57 O 9 O O ?_;intro a hf
 have hW:=bz b
 refine Zs hf fun _ a8=>?_;refine Za O<|Zx a8 fun a hf _ aA=>?_;refine Zm O<|Zm O<|Zf (Vc (Y35 _ Al cl l (a6.bx hW).top kq pq Fq q (fun x w' hE'=>hq x w' (hW.trans (hE'.mono hW.size))) a7) Xw0) ?_;rintro _ w1 ⟨ix,rfl,aB,hE⟩;have hW:=btr hW hE;refine Ze (X8s O O)<|Za O<|Zt aA fun a hf=>?_
 refine Q6 (X4 hf (Xo hf O O) ?_)
 exact ⟨by rw [<- aB],hW⟩
theorem Y2z(w0:World)(x:Gt)(n:Int)(ba:Nat)(v1:Value)(c:Blk w0 ba 26 [vi n,v1]) : Ret Tryz.prog 58 [.agg #[vi x.k,vi x.a,vi x.b],(pZ9 ba)] w0 (fun v w=>v=.bool (!gOk n x)/\Below w0.heap.size w0 w):=by
 have a6:=c.lt;refine enter Tryz.func58 O 9 O O ?_;intro a hf
 have hW:=bz w0
 refine Zs hf fun _ a7=>?_;refine Zf (X0u (zs:=[vi x.k,vi x.a,vi x.b]) O O) ?_;rintro _ w1 ⟨b2,rfl,a8,hE,aA⟩;have aC:=Q0 hW.size a8;have c:=c.bw hE;have hW:=btr hW hE;refine Za O<|Zx a7 fun a hf _ aB=>?_;refine Ze (Vd O X2f 0)<|Ze (X0 O X2 (c.at 0))<|Ze (Vn X28 aA)<|Zf (Vc (Y30 _ n x) Xvv) ?_;rintro _ w2 ⟨rfl,hE⟩;have hW:=btr hW hE;refine Ze (X1w O)<|Za O<|Zt aB fun a hf=>?_
 refine Q6 (X4 hf (Xo hf O O) ?_)
 exact ⟨O,hW⟩
theorem F55(w0:World)(c:Cx)(Ac:Option Addr)(cc:Nat)(a6:Rd w0 w0.heap.size 66 encG Ac c.gs)(a7:c.gs.length<=2305843009213693951) : Ret Tryz.prog 23 [.agg #[vi c.n,.slice Ac c.gs.length cc]] w0 (fun v w=>v=.bool (cOk c)/\Below w0.heap.size w0 w):=by
 refine enter Tryz.func23 O 19 O O ?_;intro a e
 have g:=bz w0
 refine Zs e fun _ a8=>?_;refine Zf (X0u (zs:=[vi c.n,.slice Ac c.gs.length cc]) O O) ?_;rintro _ w1 ⟨b3,rfl,aA,hE,i⟩;have aC:=Q0 g.size aA;have g:=btr g hE;refine Za O<|ZX a8 fun a e _ aB=>?_;refine X0p (fun a w=>Fr a 19 [(2,.bool (((inR c.n 1 5)&&(decide ((c.gs.length:Int)<=400)))&&(!(c.gs.any (fun x=>!gOk c.n x)))))]/\Below w1.heap.size w1 w) ?_ ?_
 ·have f:Below w1.heap.size w1 w1:=Below.refl _ _
  refine Zr e<|Ze (Vd O X2f 0)<|Ze (X0 O X2 (i.at 0))<|Zf (Vc (F91 _ c.n 1 5) X4g) ?_;rintro _ _ ⟨rfl,rfl⟩;refine Zm O ?_
  refine Zg 6 O (fun b=>?_) (fun b=>?_)
  ·refine Zv (gW b) (Vd O X38 1) ?_;refine Zv (gW b) (X0 O X69 (i.at 1)) ?_;refine Zv (gW b) (X11 O X3q) ?_;refine Zv (gW b) (Xdc O O) ?_;refine Ze (Xa O b O)<|Zm O ?_
   refine Zg 12 O (fun d=>?_) (fun d=>?_)
   ·refine Zv (gW d) (Vd O X38 1) ?_;refine Zv (gW d) (X0 O X69 (i.at 1)) ?_;refine Zv (gW d) (X6a (vs:=[(pZ9 b3)]) O) ?_;refine Zk (gW d) (Vc (Y2y _ Ac cc c.gs (a6.bx g).top 58 [(pZ9 b3)] Xvu (fun x=>!gOk c.n x) (fun x w' hE'=>Y2z w' x c.n _ _ (i.bw hE')) a7) Xvt) ?_;rintro _ w2 ⟨rfl,hE⟩;have g:=btr g hE;have f:=btr f hE;refine Zv (gW d) (X1w O) ?_;refine Ze (Xa O d O)<|Za O ?_;refine Zn fun a e=>?_;exact ⟨e.sub ⟨X1 O (by first|rfl|(simp only [b,d,bs];done)|simp [b,d]),trivial⟩,f⟩
   (iterate 5 refine Zp (gP d) ?_);refine Ze (Xh O d O)<|Za O ?_;refine Zn fun a e=>?_;exact ⟨e.sub ⟨X1 O (by first|rfl|(simp only [b,d,bs];done)|simp [b,d]),trivial⟩,f⟩
  (iterate 4 refine Zp (gP b) ?_);refine Ze (Xh O b O)<|Zm O<|Zp (gP O) ?_;(iterate 4 refine Zp (gP O) ?_);refine Ze (Xh O O O)<|Za O ?_;refine Zn fun a e=>?_;exact ⟨e.sub ⟨X1 O (by first|rfl|(simp only [b,bs];done)|simp [b]),trivial⟩,f⟩
 rintro a w3 ⟨e,hE⟩;have g:=btr g hE;refine aB _ _ ?_
 refine Q6 (X4 e (Xo e O O) ?_)
 exact ⟨by simp [cOk, *],g⟩
theorem Xo5(w0:World)(bV:Nat)(f:Bool)(e:Blk w0 bV 84 [.bool f])(x:Rg) : Ret Tryz.prog 157 [(pZ9 bV),.agg #[vi x.a,vi x.b,vi x.c,vi x.d]] w0 (fun v w=>v=rV (sRing x)/\Kept bV w0.heap.size w0 w/\Blk w bV 84 [.bool (f||!rOk x)]):=by
 have aH:=e.lt;refine enter Tryz.func157 O 13 O O ?_;intro a m
 have j:Kept bV w0.heap.size w0 w0:=Kept.refl _ _ _
 refine Zs m fun _ a8=>?_;refine Zf (X0u (zs:=[vi x.a,vi x.b,vi x.c,vi x.d]) O O) ?_;rintro _ w1 ⟨b2,rfl,aA,o,k⟩;have aI:=Q0 j.size aA;have e:=e.bw o;have j:=ktr j o;refine Zf (X03 (zs:=[vi 0,vi 0,vi 0,vi 0]) X4u O) ?_;rintro _ w2 ⟨b3,rfl,aB,o,g⟩
 have a7:b2≠b3:=by have:=k.lt;omega
 have q:=Q0 j.size aB;have e:=e.bw o;have k:=k.bw o;have j:=ktr j o;refine ZX a8 fun a m _ aC=>?_;refine Zs m fun _ aD=>?_;refine Ze (Vn X0j k)<|Zf (Vc (Xo8 _ x) Xc2) ?_;rintro _ w3 ⟨rfl,o⟩;have e:=e.bw o;have k:=k.bw o;have g:=g.bw o;have j:=ktr j o;refine Ze (X1w O)<|Zt aD fun a m=>?_
 refine Xz m O (fun p=>?_) (fun p=>?_)
 ·have a6:=p
  have i:rOk x=false:=by revert p;cases rOk x<;>simp
  refine Zs m fun _ aE=>?_;refine Zm O<|Ze (Xw O)<|Ze (Vd O X3w 0)<|Zo (X1m (vs:=[.bool true]) (l':=[.bool true]) O O X2k e O O O O O) ?_;rintro _ w4 ⟨i,t⟩;have g:=g.oz i e O;have j:=j.self i;have e:=t;clear t i;refine Zx aE fun a m _ aF=>?_;refine Ze (Xt (ps:=[]) (cs:=[vi 0,vi 0,vi 0,vi 0]) O (fun _=>by first|rfl|kernel_rfl))<|Zo (Vw [vi 0,vi 0,vi 0,vi 0] X2a g) ?_;rintro _ w5 ⟨i,t⟩;have e:=e.oz i g O;have j:=Kept.oy j i q;have g:=t;clear t i;refine Zt aF fun a m=>?_;refine Q6<|X7<|X4 m (Xo m O (ResV.cellN (l:=[vi 0,vi 0,vi 0,vi 0]) O X0j (g.at 0) O)) ?_;exact ⟨by simp [sRing,i],j,by simpa [i] using e⟩
 have a6:=p
 have i:rOk x=true:=by revert p;cases rOk x<;>simp
 refine Q7<|aC _ _<|Zs m fun _ aG=>?_;refine Ze (Vn X0j k)<|Zo (Vw [vi x.a,vi x.b,vi x.c,vi x.d] X2a g) ?_;rintro _ w6 ⟨i,t⟩;have e:=e.oz i g O;have j:=Kept.oy j i q;have g:=t;clear t i;refine Zt aG fun a m=>?_
 refine Q6 (X4 m (Xo m O (ResV.cellN (l:=[vi x.a,vi x.b,vi x.c,vi x.d]) O X0j (g.at 0) O)) ?_)
 exact ⟨by simp [sRing,i],j,by simpa [i] using e⟩
theorem Y3c(w0:World)(bV:Nat)(f:Bool)(e:Blk w0 bV 84 [.bool f])(x:Dy)(y:Dy)(hx:0<=x.exp/\x.exp<=60)(hy:0<=y.exp/\y.exp<=60) : Ret Tryz.prog 120 [(pZ9 bV),.agg #[vi x.num.a,vi x.num.b,vi x.num.c,vi x.num.d,vi x.exp],.agg #[vi y.num.a,vi y.num.b,vi y.num.c,vi y.num.d,vi y.exp]] w0 (fun v w=>v=dV ((sMul f x y).2)/\Kept bV w0.heap.size w0 w/\Blk w bV 84 [.bool ((sMul f x y).1)]):=by
 have aM:=e.lt;refine enter Tryz.func120 O 30 O O ?_;intro a p
 have k:Kept bV w0.heap.size w0 w0:=Kept.refl _ _ _
 refine Zs p fun _ aE=>?_;refine Zf (X0u (zs:=[vi x.num.a,vi x.num.b,vi x.num.c,vi x.num.d,vi x.exp]) O O) ?_;rintro _ w1 ⟨b2,rfl,aF,i,m⟩;have aN:=Q0 k.size aF;have e:=e.bw i;have k:=ktr k i;refine Zf (X0u (zs:=[vi y.num.a,vi y.num.b,vi y.num.c,vi y.num.d,vi y.exp]) O O) ?_;rintro _ w2 ⟨b3,rfl,aG,i,o⟩
 have aB:b2≠b3:=by have:=m.lt;omega
 have aO:=Q0 k.size aG;have e:=e.bw i;have m:=m.bw i;have k:=ktr k i;refine Zf (X03 (zs:=[vi 0,vi 0,vi 0,vi 0,vi 0]) X3d O) ?_;rintro _ w3 ⟨b4,rfl,aH,i,g⟩
 have aC:b2≠b4:=by have:=m.lt;omega
 have aD:b3≠b4:=by have:=o.lt;omega
 have q:=Q0 k.size aH;have e:=e.bw i;have m:=m.bw i;have o:=o.bw i;have k:=ktr k i;refine ZX aE fun a p _ aI=>?_;refine Zs p fun _ aJ=>?_;refine Ze (Vd O X26 4)<|Ze (X0 O X2 (m.at 4))<|Ze (Vd O X26 4)<|Ze (X0 O X2 (o.at 4))<|Ze (Xr O O Z Z)<|Ze (X4e O O)<|Zt aJ fun a p=>?_
 refine X0z p O (fun a8 a6=>?_) (fun a8 a6=>?_)
 ·have hm:60<x.exp+y.exp:=a6
  refine Zs p fun _ aK=>?_;refine Zm O<|Ze (Xw O)<|Ze (Vd O X3w 0)<|Zo (X1m (vs:=[.bool true]) (l':=[.bool true]) O O X2k e O O O O O) ?_;rintro _ w4 ⟨t,hb⟩;have g:=g.oz t e O;have k:=k.self t;have e:=hb;refine Zx aK fun a p _ aL=>?_;refine Ze (Xt (ps:=[]) (cs:=[vi 0,vi 0,vi 0,vi 0,vi 0]) O (fun _=>by first|rfl|kernel_rfl))<|Zo (Vw [vi 0,vi 0,vi 0,vi 0,vi 0] X0i g) ?_;rintro _ w5 ⟨t,hb⟩;have e:=e.oz t g O;have k:=Kept.oy k t q;have g:=hb;refine Zt aL fun a p=>?_;refine Q6<|X7<|X4 p (Xo p O (ResV.cellN (l:=[vi 0,vi 0,vi 0,vi 0,vi 0]) O X04 (g.at 0) O)) ?_;exact ⟨by rw [sMul,Q4 hm];rfl,k,by rw [sMul,Q4 hm];exact e⟩
 have hm:¬ 60<x.exp+y.exp:=a6
 refine Q7<|aI _ _<|Q5 fun _ aA=>?_;refine Xl (some bV) (fun j=>[13].contains j) mixed ?_;intro w6 i;have e:=e.bw i;have m:=m.bw i;have o:=o.bw i;have g:=g.bw i;have k:=ktr k i;refine Yb p<|Yo 0 O (fun _=>X3 O)<|Yo 1 O (fun _=>Vd O X35 0) ?_;refine Yw 2 O tv0 (fun w1 h1=>X09 (l:=[vi x.num.a,vi x.num.b,vi x.num.c,vi x.num.d]) O X0j (((m.oz h1 e O).at 0).take 4) O) ?_;refine Yo 3 O (fun _=>Vd O X35 0) ?_;refine Yw 4 O tv0 (fun w1 h1=>X09 (l:=[vi y.num.a,vi y.num.b,vi y.num.c,vi y.num.d]) O X0j (((o.oz h1 e O).at 0).take 4) O) ?_;refine Yo 7 O (fun _=>Vd O X26 4) ?_;refine Yw 8 O tv0 (fun w1 h1=>X0 O X2 ((m.oz h1 e O).at 4)) ?_;refine Yo 9 O (fun _=>Vd O X26 4) ?_;refine Yw 10 O tv0 (fun w1 h1=>X0 O X2 ((o.oz h1 e O).at 4)) ?_;refine Yo 11 O (fun _=>Xr O O Z Z)<|Y1 5 ?_;refine Yf O tv0 (EfW.mono (Vc (Y3e _ x.num y.num) Xwa) (fun _ _ h=>⟨fun _=>by obtain ⟨rfl,i⟩:=h;exact Keep.of_below i,h⟩)) ?_;rintro _ w7 ⟨rfl,i⟩;have e:=e.bw i;have g:=g.bw i;have k:=ktr k i;refine Y1 6<|Yf O tv0 (EfW.mono (Vc (Xo5 _ bV f e (rMul x.num y.num)) Xbw) (fun _ _ h=>⟨fun _=>by obtain ⟨rfl,hK,a7⟩:=h;exact hK.keep,h⟩)) ?_;rintro _ w8 ⟨rfl,hK,a7⟩;obtain ⟨wm,hO,hm,i⟩:=hK.mid;clear hm;have u:=e;have g:=g.oz hO u O;have k:=k.self hO;have g:=g.bw i;have k:=ktr k i
 clear u i hO hK;have e:=a7;clear a7;refine Y1 12<|Yf O tv0 (EfW.mono (Vc (Xyo _ (sRing (rMul x.num y.num)) (x.exp+y.exp) Z) Xfb) (fun _ _ h=>⟨fun _=>by obtain ⟨rfl,i⟩:=h;exact Keep.of_below i,h⟩)) ?_;rintro _ w9 ⟨rfl,i⟩;have e:=e.bw i;have g:=g.bw i;have k:=ktr k i;refine Y1 13<|Yh O tv0 O (Vw [vi ((dLow (sRing (rMul x.num y.num)) (x.exp+y.exp)).num.a),vi ((dLow (sRing (rMul x.num y.num)) (x.exp+y.exp)).num.b),vi ((dLow (sRing (rMul x.num y.num)) (x.exp+y.exp)).num.c),vi ((dLow (sRing (rMul x.num y.num)) (x.exp+y.exp)).num.d),vi ((dLow (sRing (rMul x.num y.num)) (x.exp+y.exp)).exp)] X0i g) ?_;rintro _ aP ⟨t,hb⟩;have e:=e.oz t g O;have k:=Kept.oy k t q;have g:=hb;refine Yd fun a p=>?_;refine aA _ _ ?_
 refine Q6 (X4 p (Xo p O (ResV.cellN (l:=[vi ((dLow (sRing (rMul x.num y.num)) (x.exp+y.exp)).num.a),vi ((dLow (sRing (rMul x.num y.num)) (x.exp+y.exp)).num.b),vi ((dLow (sRing (rMul x.num y.num)) (x.exp+y.exp)).num.c),vi ((dLow (sRing (rMul x.num y.num)) (x.exp+y.exp)).num.d),vi ((dLow (sRing (rMul x.num y.num)) (x.exp+y.exp)).exp)]) O X04 (g.at 0) O)) ?_)
 exact ⟨by rw [sMul,Q3 hm],k,by rw [sMul,Q3 hm];exact e⟩
theorem Y3b(w0:World)(bV:Nat)(f:Bool)(e:Blk w0 bV 84 [.bool f])(x:Dy)(y:Dy)(hx:0<=x.exp/\x.exp<=60)(hy:0<=y.exp/\y.exp<=60) : Ret Tryz.prog 119 [(pZ9 bV),.agg #[vi x.num.a,vi x.num.b,vi x.num.c,vi x.num.d,vi x.exp],.agg #[vi y.num.a,vi y.num.b,vi y.num.c,vi y.num.d,vi y.exp]] w0 (fun v w=>v=dV ((sAdd f x y).2)/\Kept bV w0.heap.size w0 w/\Blk w bV 84 [.bool ((sAdd f x y).1)]):=by
 have aU:=e.lt;refine enter Tryz.func119 O 45 O O ?_;intro a z
 have q:Kept bV w0.heap.size w0 w0:=Kept.refl _ _ _
 refine Zs z fun _ aM=>?_;refine Zf (X0u (zs:=[vi x.num.a,vi x.num.b,vi x.num.c,vi x.num.d,vi x.exp]) O O) ?_;rintro _ w1 ⟨b2,rfl,aN,o,g⟩;have aA:=Q0 q.size aN;have e:=e.bw o;have q:=ktr q o;refine Zf (X0u (zs:=[vi y.num.a,vi y.num.b,vi y.num.c,vi y.num.d,vi y.exp]) O O) ?_;rintro _ w2 ⟨b3,rfl,aO,o,k⟩
 have aJ:b2≠b3:=by have:=g.lt;omega
 have aB:=Q0 q.size aO;have e:=e.bw o;have g:=g.bw o;have q:=ktr q o;refine Zf (X03 (zs:=[vi 0,vi 0,vi 0,vi 0,vi 0]) X3d O) ?_;rintro _ w3 ⟨b4,rfl,aP,o,i⟩
 have aK:b2≠b4:=by have:=g.lt;omega
 have aL:b3≠b4:=by have:=k.lt;omega
 have aC:=Q0 q.size aP;have e:=e.bw o;have g:=g.bw o;have k:=k.bw o;have q:=ktr q o;refine ZX aM fun a z _ aQ=>?_;refine Q8<|X00 (σ:=Bool×Dy) (fun (s:Bool×Dy) (a:Act) (w:World)=>match s with|(H,m)=>Fr a 45 [(0,(pZ9 bV)),(4,(pZ9 b2)),(5,(pZ9 b3)),(6,(pZ9 b4))]/\(sRaiseN (y.exp-m.exp).toNat H m=sRaiseN (y.exp-x.exp).toNat f x)/\(0<=m.exp/\m.exp<=60)/\Blk w bV 84 [.bool H]/\Blk w b2 78 [vi m.num.a,vi m.num.b,vi m.num.c,vi m.num.d,vi m.exp]/\Blk w b3 78 [vi y.num.a,vi y.num.b,vi y.num.c,vi y.num.d,vi y.exp]/\Blk w b4 78 [vi 0,vi 0,vi 0,vi 0,vi 0]/\Kept bV w0.heap.size w0 w) (fun (s:Bool×Dy)=>match s with|(H,m)=>(y.exp-m.exp).toNat) (f,x) ?_ ?_
 ·exact ⟨z.sb,O,hx,e,g,k,i,q⟩
 rintro ⟨H,m⟩ a w4 ⟨z,I,aV,e,g,k,i,q⟩;refine Q5 fun _ aR=>?_;refine Zs z fun _ aS=>?_;refine Ze (Vd O X26 4)<|Ze (X0 O X2 (g.at 4))<|Ze (Vd O X26 4)<|Ze (X0 O X2 (k.at 4))<|Ze (X1a O O)<|Zt aS fun a z=>?_
 refine X0z z O (fun aD a6=>?_) (fun aD a6=>?_)
 ·have a7:m.exp<y.exp:=a6
  refine Q7<|aR _ _<|Q8<|Xl (some bV) (fun j=>[9].contains j) mixed ?_;intro w5 o;have e:=e.bw o;have g:=g.bw o;have k:=k.bw o;have i:=i.bw o;have q:=ktr q o;refine Yb z<|Yo 0 O (fun _=>X3 O)<|Yo 1 O (fun _=>Vd O X35 0) ?_;refine Yw 2 O tv0 (fun w1 C=>X09 (l:=[vi m.num.a,vi m.num.b,vi m.num.c,vi m.num.d]) O X0j (((g.oz C e O).at 0).take 4) O) ?_;refine Yo 5 O (fun _=>Vd O X26 4) ?_;refine Yw 6 O tv0 (fun w1 C=>X0 O X2 ((g.oz C e O).at 4)) ?_;refine Yo 7 O (fun _=>Xr O O Z Z)<|Y1 3 ?_;refine Yf O tv0 (EfW.mono (Vc (Xo6 _ m.num) Xbx) (fun _ _ h=>⟨fun _=>by obtain ⟨rfl,o⟩:=h;exact Keep.of_below o,h⟩)) ?_;rintro _ w6 ⟨rfl,o⟩;have e:=e.bw o;have g:=g.bw o;have k:=k.bw o;have i:=i.bw o;have q:=ktr q o;refine Y1 4<|Yf O tv0 (EfW.mono (Vc (Xo5 _ bV H e (rRoot m.num)) Xbw) (fun _ _ h=>⟨fun _=>by obtain ⟨rfl,B,u⟩:=h;exact B.keep,h⟩)) ?_;rintro _ w7 ⟨rfl,B,u⟩;obtain ⟨wm,A,hm,o⟩:=B.mid;clear hm;have t:=e;have g:=g.oz A t O;have k:=k.oz A t O;have i:=i.oz A t O;have q:=q.self A;have g:=g.bw o;have k:=k.bw o;have i:=i.bw o;have q:=ktr q o
  clear t o A B;have e:=u;clear u;refine Yo 8 O (fun _=>Xt (ps:=[(0,.agg #[vi ((sRing (rRoot m.num)).a),vi ((sRing (rRoot m.num)).b),vi ((sRing (rRoot m.num)).c),vi ((sRing (rRoot m.num)).d)]),(1,vi (m.exp+1))]) (cs:=[vi ((sRing (rRoot m.num)).a),vi ((sRing (rRoot m.num)).b),vi ((sRing (rRoot m.num)).c),vi ((sRing (rRoot m.num)).d),vi (m.exp+1)]) O (fun _=>by first|rfl|kernel_rfl))<|Y1 9 ?_;refine Yh O tv0 O (Vw [vi ((sRing (rRoot m.num)).a),vi ((sRing (rRoot m.num)).b),vi ((sRing (rRoot m.num)).c),vi ((sRing (rRoot m.num)).d),vi (m.exp+1)] X0i g) ?_;rintro _ w8 ⟨D,hb⟩;have e:=e.oz D g O;have k:=k.oy D Z;have i:=i.oy D Z;have q:=Kept.oy q D aA;have g:=hb;refine Yd fun a z=>?_;refine X6<|Xc ?_;exact ⟨(H||!rOk (rRoot m.num),⟨sRing (rRoot m.num),m.exp+1⟩),⟨z.sb,(X8o I a7),(by dsimp only;omega),e,g,k,i,q⟩,O0⟩
 have aE:=X8n I a6;refine Q9<|Xg<|Xg<|X01 ?_;refine aQ _ _<|Q5 fun _ aT=>?_;refine Q8<|X00 (σ:=Bool×Dy) (fun (s:Bool×Dy) (a:Act) (w:World)=>match s with|(f2,p)=>Fr a 45 [(0,(pZ9 bV)),(4,(pZ9 b2)),(5,(pZ9 b3)),(6,(pZ9 b4))]/\(sRaiseN (m.exp-p.exp).toNat f2 p=sRaiseN (m.exp-y.exp).toNat H y)/\(0<=p.exp/\p.exp<=60)/\Blk w bV 84 [.bool f2]/\Blk w b2 78 [vi m.num.a,vi m.num.b,vi m.num.c,vi m.num.d,vi m.exp]/\Blk w b3 78 [vi p.num.a,vi p.num.b,vi p.num.c,vi p.num.d,vi p.exp]/\Blk w b4 78 [vi 0,vi 0,vi 0,vi 0,vi 0]/\Kept bV w0.heap.size w0 w) (fun (s:Bool×Dy)=>match s with|(f2,p)=>(m.exp-p.exp).toNat) (H,y) ?_ ?_
 ·exact ⟨z.sb,O,hy,e,g,k,i,q⟩
 rintro ⟨f2,p⟩ a w9 ⟨z,E,aW,e,g,k,i,q⟩;refine Q5 fun _ aF=>?_;refine Zs z fun _ aG=>?_;refine Ze (Vd O X26 4)<|Ze (X0 O X2 (k.at 4))<|Ze (Vd O X26 4)<|Ze (X0 O X2 (g.at 4))<|Ze (X1a O O)<|Zt aG fun a z=>?_
 refine X0z z O (fun a8 G=>?_) (fun a8 G=>?_)
 ·have a7:p.exp<m.exp:=G
  refine Q7<|aF _ _<|Q8<|Xl (some bV) (fun j=>[9].contains j) mixed ?_;intro aX o;have e:=e.bw o;have g:=g.bw o;have k:=k.bw o;have i:=i.bw o;have q:=ktr q o;refine Yb z<|Yo 0 O (fun _=>X3 O)<|Yo 1 O (fun _=>Vd O X35 0) ?_;refine Yw 2 O tv0 (fun w1 C=>X09 (l:=[vi p.num.a,vi p.num.b,vi p.num.c,vi p.num.d]) O X0j (((k.oz C e O).at 0).take 4) O) ?_;refine Yo 5 O (fun _=>Vd O X26 4) ?_;refine Yw 6 O tv0 (fun w1 C=>X0 O X2 ((k.oz C e O).at 4)) ?_;refine Yo 7 O (fun _=>Xr O O Z Z)<|Y1 3 ?_;refine Yf O tv0 (EfW.mono (Vc (Xo6 _ p.num) Xbx) (fun _ _ h=>⟨fun _=>by obtain ⟨rfl,o⟩:=h;exact Keep.of_below o,h⟩)) ?_;rintro _ aY ⟨rfl,o⟩;have e:=e.bw o;have g:=g.bw o;have k:=k.bw o;have i:=i.bw o;have q:=ktr q o;refine Y1 4<|Yf O tv0 (EfW.mono (Vc (Xo5 _ bV f2 e (rRoot p.num)) Xbw) (fun _ _ h=>⟨fun _=>by obtain ⟨rfl,B,u⟩:=h;exact B.keep,h⟩)) ?_;rintro _ aZ ⟨rfl,B,u⟩;obtain ⟨wm,A,hm,o⟩:=B.mid;clear hm;have t:=e;have g:=g.oz A t O;have k:=k.oz A t O;have i:=i.oz A t O;have q:=q.self A;have g:=g.bw o;have k:=k.bw o;have i:=i.bw o;have q:=ktr q o
  clear t o A B;have e:=u;clear u;refine Yo 8 O (fun _=>Xt (ps:=[(0,.agg #[vi ((sRing (rRoot p.num)).a),vi ((sRing (rRoot p.num)).b),vi ((sRing (rRoot p.num)).c),vi ((sRing (rRoot p.num)).d)]),(1,vi (p.exp+1))]) (cs:=[vi ((sRing (rRoot p.num)).a),vi ((sRing (rRoot p.num)).b),vi ((sRing (rRoot p.num)).c),vi ((sRing (rRoot p.num)).d),vi (p.exp+1)]) O (fun _=>by first|rfl|kernel_rfl))<|Y1 9 ?_;refine Yh O tv0 O (Vw [vi ((sRing (rRoot p.num)).a),vi ((sRing (rRoot p.num)).b),vi ((sRing (rRoot p.num)).c),vi ((sRing (rRoot p.num)).d),vi (p.exp+1)] X0i k) ?_;rintro _ b0 ⟨D,hb⟩;have e:=e.oz D k O;have g:=g.oy D Z;have i:=i.oy D Z;have q:=Kept.oy q D aB;have k:=hb;refine Yd fun a z=>?_;refine X6<|Xc ?_;exact ⟨(f2||!rOk (rRoot p.num),⟨sRing (rRoot p.num),p.exp+1⟩),⟨z.sb,(X8o E a7),(by dsimp only;omega),e,g,k,i,q⟩,O0⟩
 have aH:=X8n E G;refine Q9<|Xg<|Xg<|X01 ?_;refine aT _ _<|Q5 fun _ aI=>?_;refine Xl (some bV) (fun j=>[10].contains j) mixed ?_;intro b1 o;have e:=e.bw o;have g:=g.bw o;have k:=k.bw o;have i:=i.bw o;have q:=ktr q o;refine Yb z<|Yo 0 O (fun _=>X3 O)<|Yo 1 O (fun _=>Vd O X35 0) ?_;refine Yw 2 O tv0 (fun w1 C=>X09 (l:=[vi m.num.a,vi m.num.b,vi m.num.c,vi m.num.d]) O X0j (((g.oz C e O).at 0).take 4) O) ?_;refine Yo 3 O (fun _=>Vd O X35 0) ?_;refine Yw 4 O tv0 (fun w1 C=>X09 (l:=[vi p.num.a,vi p.num.b,vi p.num.c,vi p.num.d]) O X0j (((k.oz C e O).at 0).take 4) O) ?_;refine Yo 7 O (fun _=>Vd O X26 4) ?_;refine Yw 8 O tv0 (fun w1 C=>X0 O X2 ((g.oz C e O).at 4)) ?_;refine Y1 5<|Yf O tv0 (EfW.mono (Vc (Xyp _ m.num p.num) Xl4) (fun _ _ h=>⟨fun _=>by obtain ⟨rfl,o⟩:=h;exact Keep.of_below o,h⟩)) ?_;rintro _ b5 ⟨rfl,o⟩;have e:=e.bw o;have i:=i.bw o;have q:=ktr q o;refine Y1 6<|Yf O tv0 (EfW.mono (Vc (Xo5 _ bV f2 e (rAdd m.num p.num)) Xbw) (fun _ _ h=>⟨fun _=>by obtain ⟨rfl,B,u⟩:=h;exact B.keep,h⟩)) ?_;rintro _ b6 ⟨rfl,B,u⟩;obtain ⟨wm,A,hm,o⟩:=B.mid;clear hm;have t:=e;have i:=i.oz A t O;have q:=q.self A;have i:=i.bw o;have q:=ktr q o
 clear t o A B;have e:=u;clear u;refine Y1 9<|Yf O tv0 (EfW.mono (Vc (Xyo _ (sRing (rAdd m.num p.num)) m.exp Z) Xfb) (fun _ _ h=>⟨fun _=>by obtain ⟨rfl,o⟩:=h;exact Keep.of_below o,h⟩)) ?_;rintro _ b7 ⟨rfl,o⟩;have e:=e.bw o;have i:=i.bw o;have q:=ktr q o;refine Y1 10<|Yh O tv0 O (Vw [vi ((dLow (sRing (rAdd m.num p.num)) m.exp).num.a),vi ((dLow (sRing (rAdd m.num p.num)) m.exp).num.b),vi ((dLow (sRing (rAdd m.num p.num)) m.exp).num.c),vi ((dLow (sRing (rAdd m.num p.num)) m.exp).num.d),vi ((dLow (sRing (rAdd m.num p.num)) m.exp).exp)] X0i i) ?_;rintro _ b8 ⟨D,hb⟩;have e:=e.oz D i O;have q:=Kept.oy q D aC;have i:=hb;refine Yd fun a z=>?_;refine aI _ _ ?_
 refine Q6 (X4 z (Xo z O (ResV.cellN (l:=[vi ((dLow (sRing (rAdd m.num p.num)) m.exp).num.a),vi ((dLow (sRing (rAdd m.num p.num)) m.exp).num.b),vi ((dLow (sRing (rAdd m.num p.num)) m.exp).num.c),vi ((dLow (sRing (rAdd m.num p.num)) m.exp).num.d),vi ((dLow (sRing (rAdd m.num p.num)) m.exp).exp)]) O X04 (i.at 0) O)) ?_)
 exact ⟨by rw [sAdd,aE];dsimp only;rw [aH],q,by rw [sAdd,aE];dsimp only;rw [aH];exact e⟩
theorem Xyj(w0:World)(n:Int)(s:Int)(q:Int)(h0:0<=q)(h1:q<n)(h2:n<=5) : Ret Tryz.prog 79 [vi n,vi s,vi q] w0 (fun v w=>v=vi (bitF n s q)/\w0=w):=by
 refine enter Tryz.func79 O 14 O O ?_;intro a hf
 have hW:=bz w0
 refine Zs hf fun _ a6=>?_;refine Za O<|Zx a6 fun a hf _ a7=>?_;refine Zm O<|Zm O<|Ze (X1c O O Z Z)<|Zm O<|Ze (X1c O O Z Z)<|Ze (Xod (m:=(n-1-q).toNat) O O Z Z)<|Ze (Xjq O O)<|Za O<|Zt a7 fun a hf=>?_
 refine Q6 (X4 hf (Xo hf O O) ?_)
 exact ⟨O,O⟩
theorem Xbe(w0:World)(n:Int)(s:Int)(q:Int)(h0:0<=q)(h1:q<n)(h2:n<=5) : Ret Tryz.prog 134 [vi n,vi s,vi q] w0 (fun v w=>v=vi (bitF n s q)/\w0=w):=by
 refine enter Tryz.func134 O 15 O O ?_;intro a hf
 have hW:=bz w0
 refine Zs hf fun _ a6=>?_;refine Za O<|Zx a6 fun a hf _ a7=>?_;refine Zm O<|Zm O<|Ze (X1c O O Z Z)<|Zm O<|Ze (X1c O O Z Z)<|Ze (Xew (m:=(n-1-q).toNat) Tryz.underlying3 Tryz.underlying87 O Z Z)<|Ze (Xod (m:=(n-1-q).toNat) O O O Z)<|Ze (Xjq O O)<|Za O<|Zt a7 fun a hf=>?_
 refine Q6 (X4 hf (Xo hf O O) ?_)
 exact ⟨O,O⟩
theorem Y3d(w0:World)(k:Int)(hk:1<=k/\k<=8) : Ret Tryz.prog 159 [vi k] w0 (fun v w=>∃ A c,v=.slice A (oneL k).length c/\Own w w0.heap.size 78 5 encD A c (oneL k)/\Below w0.heap.size w0 w):=by
 refine enter Tryz.func159 O 43 O O ?_;intro a j
 have i:=bz w0
 refine Zs j fun _ b9=>?_;refine Za O<|Zx b9 fun a j _ bC=>?_;refine Zf (Vc (Xd7 _ 0) X5v) ?_;rintro _ w1 ⟨rfl,g⟩;have i:=btr i g;refine Ze (Xt (ps:=[]) (cs:=[vi 0,vi 0,vi 0,vi 0,vi 0]) O (fun _=>by first|rfl|kernel_rfl))<|Zf (X03 (zs:=[vi 0,vi 0,vi 0,vi 0,vi 0]) X3d O) ?_;rintro _ w2 ⟨b4,rfl,bD,g,e⟩;have aC:=Q0 i.size bD;have i:=btr i g;refine Zf (X03 (zs:=[vi 0,vi 0,vi 0,vi 0,vi 0]) X3d O) ?_;rintro _ w3 ⟨b5,rfl,bE,g,f⟩
 have b3:b4≠b5:=by have:=e.lt;omega
 have aD:=Q0 i.size bE;have e:=e.bw g;have i:=btr i g;refine Zo (Vw [vi ((dPow 0).num.a),vi ((dPow 0).num.b),vi ((dPow 0).num.c),vi ((dPow 0).num.d),vi ((dPow 0).exp)] X0i e) ?_;rintro _ w4 ⟨ho,hb⟩;have f:=f.oy ho Z;have i:=Below.oy i ho aC;have e:=hb;refine Zo (Vw [vi 0,vi 0,vi 0,vi 0,vi 0] X0i f) ?_;rintro _ w5 ⟨ho,hb⟩;have e:=e.oy ho Z;have i:=Below.oy i ho aD;have f:=hb;refine Zx bC fun a j _ bF=>?_;refine Ze (Xt (ps:=[(0,vi 1)]) (cs:=[vi 1,vi 0,vi 0,vi 0]) O (fun _=>by first|rfl|kernel_rfl))<|Ze (Xt (ps:=[(0,.agg #[vi 1,vi 0,vi 0,vi 0]),(1,vi 1)]) (cs:=[vi 1,vi 0,vi 0,vi 0,vi 1]) O (fun _=>by first|rfl|kernel_rfl)) ?_;refine ZB [vi 1,vi 0,vi 0,vi 0,vi 1] X3d X0i fun b7 w7 bG g m=>?_
 have b6:b4≠b7:=by have:=e.lt;omega
 have b8:b5≠b7:=by have:=f.lt;omega
 have bL:=Q0 i.size bG;have e:=e.bw g;have f:=f.bw g;have i:=btr i g;refine ZX bF fun a j _ bH=>?_;refine Zs j fun _ bJ=>?_;refine Zm O<|Zt bJ fun a j=>?_;refine Q8<|Zs j fun _ aE=>?_;refine Ze (X0f O O)<|Za O<|Zt aE fun a j=>?_
 refine Xz j O (fun o=>?_) (fun o=>?_)
 ·have t:k=1:=by simpa using o
  refine Q5 fun _ aF=>?_;refine Xl none (fun _=>false) mixed ?_;intro w8 g;have e:=e.bw g;have f:=f.bw g;have m:=m.bw g;have i:=btr i g;refine Yb j<|Ye 0 O (Vn X04 m)<|Ye 1 O (Vn X04 m)<|Ye 2 O (Vn X04 m)<|Ye 3 O (Vn X04 m)<|Y1 4 ?_;refine Yk O tv0 (Vc (Y3g _ (⟨(⟨1,0,0,0⟩ : Rg),1⟩ : Dy)) Xwc) (fun _ _ ⟨_,g⟩=>g) ?_;rintro _ w9 ⟨rfl,g⟩;have e:=e.bw g;have f:=f.bw g;have m:=m.bw g;have i:=btr i g;refine Y1 5<|Yk O tv0 (X9 (k:=4) (vs:=[.agg #[vi 1,vi 0,vi 0,vi 0,vi 1],.agg #[vi 1,vi 0,vi 0,vi 0,vi 1],.agg #[vi 1,vi 0,vi 0,vi 0,vi 1],.agg #[vi ((dNeg (⟨(⟨1,0,0,0⟩ : Rg),1⟩ : Dy)).num.a),vi ((dNeg (⟨(⟨1,0,0,0⟩ : Rg),1⟩ : Dy)).num.b),vi ((dNeg (⟨(⟨1,0,0,0⟩ : Rg),1⟩ : Dy)).num.c),vi ((dNeg (⟨(⟨1,0,0,0⟩ : Rg),1⟩ : Dy)).num.d),vi ((dNeg (⟨(⟨1,0,0,0⟩ : Rg),1⟩ : Dy)).exp)]]) (zs:=[vi 1,vi 0,vi 0,vi 0,vi 1,vi 1,vi 0,vi 0,vi 0,vi 1,vi 1,vi 0,vi 0,vi 0,vi 1,vi ((dNeg (⟨(⟨1,0,0,0⟩ : Rg),1⟩ : Dy)).num.a),vi ((dNeg (⟨(⟨1,0,0,0⟩ : Rg),1⟩ : Dy)).num.b),vi ((dNeg (⟨(⟨1,0,0,0⟩ : Rg),1⟩ : Dy)).num.c),vi ((dNeg (⟨(⟨1,0,0,0⟩ : Rg),1⟩ : Dy)).num.d),vi ((dNeg (⟨(⟨1,0,0,0⟩ : Rg),1⟩ : Dy)).exp)]) O X21 X31 O O) (fun _ _ ⟨_,_,_,h,_⟩=>h) ?_;rintro _ bM ⟨b13,rfl,aG,g,aH⟩
  have aI:b4≠b13:=by have:=e.lt;omega
  have aJ:b5≠b13:=by have:=f.lt;omega
  have aK:b7≠b13:=by have:=m.lt;omega
  have a6:=Q0 i.size aG;have i:=btr i g;refine Yo 6 O (fun _=>X19 O) ?_;refine Yd fun a j=>?_;refine aF _ _<|Q6<|X05<|X7 ?_;refine X4 j (Xo j O O) ?_;exact ⟨(some ⟨b13,0,none⟩),4,by rw [oneL,Q4 t];rfl,by rw [oneL,Q4 t];exact (Own.of_blkL X1x aH a6 rfl rfl O4),i⟩
 have t:¬ k=1:=by simpa using o
 refine Zs j fun _ aL=>?_;refine Ze (X0f O O)<|Za O<|Zt aL fun a j=>?_
 refine Xz j O (fun p=>?_) (fun p=>?_)
 ·have e2:k=2:=by simpa using p
  refine Zs j fun _ aM=>?_;refine Ze (Vn X04 f)<|Ze (Vn X04 e)<|Ze (Vn X04 e)<|Ze (Vn X04 f)<|Zf (X9 (k:=4) (vs:=[.agg #[vi 0,vi 0,vi 0,vi 0,vi 0],.agg #[vi ((dPow 0).num.a),vi ((dPow 0).num.b),vi ((dPow 0).num.c),vi ((dPow 0).num.d),vi ((dPow 0).exp)],.agg #[vi ((dPow 0).num.a),vi ((dPow 0).num.b),vi ((dPow 0).num.c),vi ((dPow 0).num.d),vi ((dPow 0).exp)],.agg #[vi 0,vi 0,vi 0,vi 0,vi 0]]) (zs:=[vi 0,vi 0,vi 0,vi 0,vi 0,vi ((dPow 0).num.a),vi ((dPow 0).num.b),vi ((dPow 0).num.c),vi ((dPow 0).num.d),vi ((dPow 0).exp),vi ((dPow 0).num.a),vi ((dPow 0).num.b),vi ((dPow 0).num.c),vi ((dPow 0).num.d),vi ((dPow 0).exp),vi 0,vi 0,vi 0,vi 0,vi 0]) O X21 X31 O O) ?_;rintro _ bN ⟨b18,rfl,aN,g,aO⟩
  have aP:b4≠b18:=by have:=e.lt;omega
  have aQ:b5≠b18:=by have:=f.lt;omega
  have a7:=Q0 i.size aN;have i:=btr i g;refine Za O<|Zt aM fun a j=>?_;refine Q6<|X05<|X7<|X4 j (Xo j O O) ?_;exact ⟨(some ⟨b18,0,none⟩),4,by rw [oneL,Q3 t,Q4 e2];rfl,by rw [oneL,Q3 t,Q4 e2];exact (Own.of_blkL X1x aO a7 rfl rfl O4),i⟩
 have e2:¬ k=2:=by simpa using p
 refine Zs j fun _ aR=>?_;refine Ze (X0f O O)<|Za O<|Zt aR fun a j=>?_
 refine Xz j O (fun q=>?_) (fun q=>?_)
 ·have e3:k=3:=by simpa using q
  refine Q5 fun _ aS=>?_;refine Xl none (fun _=>false) mixed ?_;intro bO g;have e:=e.bw g;have f:=f.bw g;have i:=btr i g;refine Yb j<|Ye 0 O (Vn X04 f)<|Ye 3 O (Vn X04 f)<|Y1 1 ?_;refine Yk O tv0 (Vc (Xd7 _ 6) X5v) (fun _ _ ⟨_,g⟩=>g) ?_;rintro _ bP ⟨rfl,g⟩;have e:=e.bw g;have f:=f.bw g;have i:=btr i g;refine Y1 2<|Yk O tv0 (Vc (Xd7 _ 2) X5v) (fun _ _ ⟨_,g⟩=>g) ?_;rintro _ bQ ⟨rfl,g⟩;have e:=e.bw g;have f:=f.bw g;have i:=btr i g;refine Y1 4<|Yk O tv0 (X9 (k:=4) (vs:=[.agg #[vi 0,vi 0,vi 0,vi 0,vi 0],.agg #[vi ((dPow 6).num.a),vi ((dPow 6).num.b),vi ((dPow 6).num.c),vi ((dPow 6).num.d),vi ((dPow 6).exp)],.agg #[vi ((dPow 2).num.a),vi ((dPow 2).num.b),vi ((dPow 2).num.c),vi ((dPow 2).num.d),vi ((dPow 2).exp)],.agg #[vi 0,vi 0,vi 0,vi 0,vi 0]]) (zs:=[vi 0,vi 0,vi 0,vi 0,vi 0,vi ((dPow 6).num.a),vi ((dPow 6).num.b),vi ((dPow 6).num.c),vi ((dPow 6).num.d),vi ((dPow 6).exp),vi ((dPow 2).num.a),vi ((dPow 2).num.b),vi ((dPow 2).num.c),vi ((dPow 2).num.d),vi ((dPow 2).exp),vi 0,vi 0,vi 0,vi 0,vi 0]) O X21 X31 O O) (fun _ _ ⟨_,_,_,h,_⟩=>h) ?_;rintro _ bR ⟨b23,rfl,aT,g,aU⟩
  have aV:b4≠b23:=by have:=e.lt;omega
  have aW:b5≠b23:=by have:=f.lt;omega
  have a8:=Q0 i.size aT;have i:=btr i g;refine Yo 5 O (fun _=>X19 O) ?_;refine Yd fun a j=>?_;refine aS _ _<|Q6<|X05<|X7 ?_;refine X4 j (Xo j O O) ?_;exact ⟨(some ⟨b23,0,none⟩),4,by rw [oneL,Q3 t,Q3 e2,Q4 e3];rfl,by rw [oneL,Q3 t,Q3 e2,Q4 e3];exact (Own.of_blkL X1x aU a8 rfl rfl O4),i⟩
 have e3:¬ k=3:=by simpa using q
 refine Q7<|X6<|bH _ _<|Q5 fun _ aX=>?_;refine Xl none (fun _=>false) mixed ?_;intro bS g;have e:=e.bw g;have f:=f.bw g;have i:=btr i g;refine Yb j<|Ye 0 O (Vn X04 e)<|Ye 1 O (Vn X04 f)<|Ye 2 O (Vn X04 f)<|Yo 4 O (fun _=>X3 O)<|Yo 5 O (fun _=>X1c O O Z Z)<|Y1 3 ?_;refine Yk O tv0 (X9 (k:=5) (vs:=[vi 4,vi 2,vi 6,vi 1,vi 7]) (zs:=[vi 4,vi 2,vi 6,vi 1,vi 7]) O Xy X2j O O) (fun _ _ ⟨_,_,_,h,_⟩=>h) ?_;rintro _ bU ⟨bW,rfl,aY,g,x⟩;have bK:=Q0 i.size aY;have e:=e.bw g;have f:=f.bw g;have i:=btr i g;refine Yi (k:=(k-4).toNat) (u:=(turnOf k)) (enc:=encI) (l:=[4,2,6,1,7]) 6 O tv0 O O Xy X0e Xn (Rd.of_blk x O _ x.lt) (Xnv Z Z) Z ?_;intro bX aA;refine Ye 7 O (X0 O X2 aA)<|Y1 8 ?_;refine Yk O tv0 (Vc (Xd7 _ (turnOf k)) X5v) (fun _ _ ⟨_,g⟩=>g) ?_;rintro _ bY ⟨rfl,g⟩;have e:=e.bw g;have f:=f.bw g;have i:=btr i g;refine Y1 9<|Yk O tv0 (X9 (k:=4) (vs:=[.agg #[vi ((dPow 0).num.a),vi ((dPow 0).num.b),vi ((dPow 0).num.c),vi ((dPow 0).num.d),vi ((dPow 0).exp)],.agg #[vi 0,vi 0,vi 0,vi 0,vi 0],.agg #[vi 0,vi 0,vi 0,vi 0,vi 0],.agg #[vi ((dPow (turnOf k)).num.a),vi ((dPow (turnOf k)).num.b),vi ((dPow (turnOf k)).num.c),vi ((dPow (turnOf k)).num.d),vi ((dPow (turnOf k)).exp)]]) (zs:=[vi ((dPow 0).num.a),vi ((dPow 0).num.b),vi ((dPow 0).num.c),vi ((dPow 0).num.d),vi ((dPow 0).exp),vi 0,vi 0,vi 0,vi 0,vi 0,vi 0,vi 0,vi 0,vi 0,vi 0,vi ((dPow (turnOf k)).num.a),vi ((dPow (turnOf k)).num.b),vi ((dPow (turnOf k)).num.c),vi ((dPow (turnOf k)).num.d),vi ((dPow (turnOf k)).exp)]) O X21 X31 O O) (fun _ _ ⟨_,_,_,h,_⟩=>h) ?_;rintro _ bZ ⟨b30,rfl,aZ,g,b0⟩
 have b1:b4≠b30:=by have:=e.lt;omega
 have b2:b5≠b30:=by have:=f.lt;omega
 have aB:=Q0 i.size aZ;have i:=btr i g;refine Yo 10 O (fun _=>X19 O) ?_;refine Yd fun a j=>?_;refine aX _ _ ?_
 refine Q6 (X4 j (Xo j O O) ?_)
 exact ⟨(some ⟨b30,0,none⟩),4,by rw [oneL,Q3 t,Q3 e2,Q3 e3];rfl,by rw [oneL,Q3 t,Q3 e2,Q3 e3];exact (Own.of_blkL X1x b0 aB rfl rfl O4),i⟩
theorem Y3a(w0:World)(n:Int)(g:Gt)(row:Int)(col:Int)(hg:gOk n g=true) : Ret Tryz.prog 121 [vi n,.agg #[vi g.k,vi g.a,vi g.b],vi row,vi col] w0 (fun v w=>v=dV (cellS n g row col)/\Below w0.heap.size w0 w):=by
 have cM:=X2i hg;have cN:=X47 n row g.a;have cO:=X47 n col g.a;refine enter Tryz.func121 O 119 O O ?_;intro a f
 have o:=bz w0
 refine Zs f fun _ cA=>?_;refine Zf (X0u (zs:=[vi g.k,vi g.a,vi g.b]) O O) ?_;rintro _ w1 ⟨b2,rfl,cB,A,p⟩;have cL:=Q0 o.size cB;have o:=btr o A;refine Zf (X03 (zs:=[vi 0,vi 0,vi 0,vi 0,vi 0]) X3d O) ?_;rintro _ w2 ⟨b3,rfl,cC,A,e⟩;have z:=Q0 o.size cC;have p:=p.bw A;have o:=btr o A;refine Zx cA fun a f _ cD=>?_;refine Zf (Vc (Xd7 _ 0) X5v) ?_;rintro _ w3 ⟨rfl,A⟩;have p:=p.bw A;have e:=e.bw A;have o:=btr o A;refine Ze (Xt (ps:=[]) (cs:=[vi 0,vi 0,vi 0,vi 0,vi 0]) O (fun _=>by first|rfl|kernel_rfl))<|Zf (X03 (zs:=[vi 0,vi 0,vi 0,vi 0,vi 0]) X3d O) ?_;rintro _ w4 ⟨b5,rfl,cE,A,x⟩
 have bX:b3≠b5:=by have:=e.lt;omega
 have N:=Q0 o.size cE;have p:=p.bw A;have e:=e.bw A;have o:=btr o A;refine Zf (X03 (zs:=[vi 0,vi 0,vi 0,vi 0,vi 0]) X3d O) ?_;rintro _ w5 ⟨b6,rfl,cG,A,t⟩
 have bY:b3≠b6:=by have:=e.lt;omega
 have bZ:b5≠b6:=by have:=x.lt;omega
 have aI:=Q0 o.size cG;have p:=p.bw A;have e:=e.bw A;have x:=x.bw A;have o:=btr o A;refine Zo (Vw [vi ((dPow 0).num.a),vi ((dPow 0).num.b),vi ((dPow 0).num.c),vi ((dPow 0).num.d),vi ((dPow 0).exp)] X0i x) ?_;rintro _ w6 ⟨h,B⟩;have p:=p.oz h x O;have e:=e.oy h Z;have t:=t.oy h Z;have o:=Below.oy o h N;have x:=B;refine Zo (Vw [vi 0,vi 0,vi 0,vi 0,vi 0] X0i t) ?_;rintro _ w7 ⟨h,B⟩;have p:=p.oz h t O;have e:=e.oy h Z;have x:=x.oy h Z;have o:=Below.oy o h aI;have t:=B;refine Zx cD fun a f _ cH=>?_;refine Zm O<|Za O<|ZX cH fun a f _ J=>?_;refine Zs f fun _ cI=>?_;refine Ze (Vd O X25 0)<|Ze (X0 O X2 (p.at 0))<|Zt cI fun a f=>?_;refine Q8<|Zs f fun _ aJ=>?_;refine Ze (X0f O O)<|Za O<|Zt aJ fun a f=>?_
 refine Xz f O (fun D=>?_) (fun D=>?_)
 ·have L:=eq_of_beq D
  have H:¬ g.k<=8:=by omega
  have C:toS n g col=col:=by simp [toS,L]
  have Q:valS n g col=dPow 1:=by simp [valS,L]
  refine Zr f<|Zf (Vc (Xd7 _ 1) X5v) ?_;rintro _ w8 ⟨rfl,A⟩;have e:=e.bw A;have x:=x.bw A;have t:=t.bw A;have o:=btr o A;refine Zo (Vw [vi ((dPow 1).num.a),vi ((dPow 1).num.b),vi ((dPow 1).num.c),vi ((dPow 1).num.d),vi ((dPow 1).exp)] X0i x) ?_;rintro _ w9 ⟨h,B⟩;have e:=e.oy h Z;have t:=t.oy h Z;have o:=Below.oy o h N;have x:=B;refine Zn fun a f=>?_;refine X6<|J _ _<|Q5 fun _ aK=>?_;refine Zs f fun _ aL=>?_;refine Zm O<|Zm O<|Ze (X0f O O)<|Zt aL fun a f=>?_
  refine Xz f O (fun U=>?_) (fun U=>?_)
  ·have i:cellS n g row col=valS n g col:=by rw [cellS,Q3 H,Q4 ((eq_of_beq U).trans C.symm)]
   rw [Q] at i
   refine Zs f fun _ aM=>?_;refine Ze (Vn X04 x)<|Zo (Vw [vi ((dPow 1).num.a),vi ((dPow 1).num.b),vi ((dPow 1).num.c),vi ((dPow 1).num.d),vi ((dPow 1).exp)] X0i e) ?_;rintro _ cP ⟨h,B⟩;have o:=Below.oy o h z;have e:=B;refine Zt aM fun a f=>?_;refine Q6<|X7<|X4 f (Xo f O (ResV.cellN (l:=[vi ((dPow 1).num.a),vi ((dPow 1).num.b),vi ((dPow 1).num.c),vi ((dPow 1).num.d),vi ((dPow 1).exp)]) O X04 (e.at 0) O)) ?_;exact ⟨(by rw [i];try rfl),o⟩
  have i:cellS n g row col=dZ:=by rw [cellS,Q3 H,Q3 (fun M=>X2c U (M.trans C))]
  refine Q7<|aK _ _<|Zs f fun _ aN=>?_;refine Ze (Vn X04 t)<|Zo (Vw [vi 0,vi 0,vi 0,vi 0,vi 0] X0i e) ?_;rintro _ cQ ⟨h,B⟩;have o:=Below.oy o h z;have e:=B;refine Zt aN fun a f=>?_
  refine Q6 (X4 f (Xo f O (ResV.cellN (l:=[vi 0,vi 0,vi 0,vi 0,vi 0]) O X04 (e.at 0) O)) ?_)
  exact ⟨(by rw [i];try rfl),o⟩
 have cR:=X2c D;refine Zs f fun _ aO=>?_;refine Ze (X0f O O)<|Za O<|Zt aO fun a f=>?_
 refine Xz f O (fun E=>?_) (fun E=>?_)
 ·have L:=eq_of_beq E
  have H:¬ g.k<=8:=by omega
  have Q:valS n g col=dPow 0:=by simp [valS,L]
  refine Zs f fun _ aP=>?_;refine Zm O<|Zm O<|Ze (Vd O Xs 1)<|Ze (X0 O X2 (p.at 1))<|Zf (Vc (Xbe _ n col g.a Z Z Z) X5e) ?_;rintro _ _ ⟨rfl,rfl⟩;refine Ze (X0f O O)<|Zt aP fun a f=>?_
  refine Xz f O (fun W=>?_) (fun W=>?_)
  ·have C:toS n g col=flipF n col g.b:=by rw [toS,Q4 L,Q4 (eq_of_beq W)]
   refine Zr f<|Zm O<|Zm O<|Ze (X1c O O Z Z)<|Ze (Vd O X0h 2)<|Ze (X0 O X2 (p.at 2))<|Ze (X1c O O Z Z)<|Ze (Xew (m:=(n-1-g.b).toNat) Tryz.underlying3 Tryz.underlying87 O Z Z)<|Ze (Xbk (m:=(n-1-g.b).toNat) O O O Z)<|Ze (Xog O O)<|Za O ?_;refine Zn fun a f=>?_;refine X6<|J _ _<|Q5 fun _ aQ=>?_;refine Zs f fun _ aR=>?_;refine Zm O<|Zm O<|Ze (X0f O O)<|Zt aR fun a f=>?_
   refine Xz f O (fun a6=>?_) (fun a6=>?_)
   ·have i:cellS n g row col=valS n g col:=by rw [cellS,Q3 H,Q4 ((eq_of_beq a6).trans C.symm)]
    rw [Q] at i
    refine Zs f fun _ aS=>?_;refine Ze (Vn X04 x)<|Zo (Vw [vi ((dPow 0).num.a),vi ((dPow 0).num.b),vi ((dPow 0).num.c),vi ((dPow 0).num.d),vi ((dPow 0).exp)] X0i e) ?_;rintro _ cS ⟨h,B⟩;have o:=Below.oy o h z;have e:=B;refine Zt aS fun a f=>?_;refine Q6<|X7<|X4 f (Xo f O (ResV.cellN (l:=[vi ((dPow 0).num.a),vi ((dPow 0).num.b),vi ((dPow 0).num.c),vi ((dPow 0).num.d),vi ((dPow 0).exp)]) O X04 (e.at 0) O)) ?_;exact ⟨(by rw [i];try rfl),o⟩
   have i:cellS n g row col=dZ:=by rw [cellS,Q3 H,Q3 (fun M=>X2c a6 (M.trans C))]
   refine Q7<|aQ _ _<|Zs f fun _ aT=>?_;refine Ze (Vn X04 t)<|Zo (Vw [vi 0,vi 0,vi 0,vi 0,vi 0] X0i e) ?_;rintro _ cT ⟨h,B⟩;have o:=Below.oy o h z;have e:=B;refine Zt aT fun a f=>?_
   refine Q6 (X4 f (Xo f O (ResV.cellN (l:=[vi 0,vi 0,vi 0,vi 0,vi 0]) O X04 (e.at 0) O)) ?_)
   exact ⟨(by rw [i];try rfl),o⟩
  have C:toS n g col=col:=by rw [toS,Q4 L,Q3 (X2c W)]
  refine Q7<|X6<|J _ _<|Q5 fun _ aU=>?_;refine Zs f fun _ aV=>?_;refine Zm O<|Zm O<|Ze (X0f O O)<|Zt aV fun a f=>?_
  refine Xz f O (fun a7=>?_) (fun a7=>?_)
  ·have i:cellS n g row col=valS n g col:=by rw [cellS,Q3 H,Q4 ((eq_of_beq a7).trans C.symm)]
   rw [Q] at i
   refine Zs f fun _ aW=>?_;refine Ze (Vn X04 x)<|Zo (Vw [vi ((dPow 0).num.a),vi ((dPow 0).num.b),vi ((dPow 0).num.c),vi ((dPow 0).num.d),vi ((dPow 0).exp)] X0i e) ?_;rintro _ cU ⟨h,B⟩;have o:=Below.oy o h z;have e:=B;refine Zt aW fun a f=>?_;refine Q6<|X7<|X4 f (Xo f O (ResV.cellN (l:=[vi ((dPow 0).num.a),vi ((dPow 0).num.b),vi ((dPow 0).num.c),vi ((dPow 0).num.d),vi ((dPow 0).exp)]) O X04 (e.at 0) O)) ?_;exact ⟨(by rw [i];try rfl),o⟩
  have i:cellS n g row col=dZ:=by rw [cellS,Q3 H,Q3 (fun M=>X2c a7 (M.trans C))]
  refine Q7<|aU _ _<|Zs f fun _ aX=>?_;refine Ze (Vn X04 t)<|Zo (Vw [vi 0,vi 0,vi 0,vi 0,vi 0] X0i e) ?_;rintro _ cV ⟨h,B⟩;have o:=Below.oy o h z;have e:=B;refine Zt aX fun a f=>?_
  refine Q6 (X4 f (Xo f O (ResV.cellN (l:=[vi 0,vi 0,vi 0,vi 0,vi 0]) O X04 (e.at 0) O)) ?_)
  exact ⟨(by rw [i];try rfl),o⟩
 have h9:=X2c E;refine Zs f fun _ aY=>?_;refine Ze (X0f O O)<|Za O<|Zt aY fun a f=>?_
 refine Xz f O (fun G=>?_) (fun G=>?_)
 ·have L:=eq_of_beq G
  have H:¬ g.k<=8:=by omega
  have C:toS n g col=col:=by simp [toS,L]
  refine Q5 fun _ aZ=>?_;refine X0p (fun a w=>Fr a 119 [(2,vi row),(8,(pZ9 b3)),(9,(pZ9 b5)),(10,(pZ9 b6)),(11,vi col),(82,.bool (((bitF n col g.a)==1)&&((bitF n col g.b)==1)))]/\w7=w) ?_ ?_
  ·refine Zr f<|Zm O<|Zm O<|Ze (Vd O Xs 1)<|Ze (X0 O X2 (p.at 1))<|Zf (Vc (Xbe _ n col g.a Z Z Z) X5e) ?_;rintro _ _ ⟨rfl,rfl⟩;refine Ze (X0f O O)<|Zm O ?_
   refine Zg 75 O (fun q=>?_) (fun q=>?_)
   ·refine Zv (gW q) (X3 O) ?_;refine Zv (gW q) (X3 O) ?_;refine Zv (gW q) (Vd O X0h 2) ?_;refine Zv (gW q) (X0 O X2 (p.at 2)) ?_;refine Zk (gW q) (Vc (Xbe _ n col g.b Z Z Z) X5e) ?_;rintro _ _ ⟨rfl,rfl⟩;refine Zv (gW q) (X0f O O) ?_;refine Ze (Xa O q O) ?_;refine Zn fun a f=>?_;exact ⟨f.sub ⟨O,O,O,O,O,X1 O (by first|rfl|(simp only [D,E,G,q,bs];done)|simp [D,E,G,q]),trivial⟩,O⟩
   (iterate 6 refine Zp (gP q) ?_);refine Ze (Xh O q O) ?_;refine Zn fun a f=>?_;exact ⟨f.sub ⟨O,O,O,O,O,X1 O (by first|rfl|(simp only [D,E,G,q,bs];done)|simp [D,E,G,q]),trivial⟩,O⟩
  rintro a _ ⟨f,rfl⟩;refine aZ _ _ ?_
  refine Xz f O (fun a8=>?_) (fun a8=>?_)
  ·have Q:valS n g col=dPow 4:=by have h9:bitF n col g.a=1/\bitF n col g.b=1:=(by simpa using a8);simp [valS,L,h9]
   refine Zr f<|Zf (Vc (Xd7 _ 4) X5v) ?_;rintro _ cW ⟨rfl,A⟩;have e:=e.bw A;have x:=x.bw A;have t:=t.bw A;have o:=btr o A;refine Zo (Vw [vi ((dPow 4).num.a),vi ((dPow 4).num.b),vi ((dPow 4).num.c),vi ((dPow 4).num.d),vi ((dPow 4).exp)] X0i x) ?_;rintro _ cX ⟨h,B⟩;have e:=e.oy h Z;have t:=t.oy h Z;have o:=Below.oy o h N;have x:=B;refine Zn fun a f=>?_;refine X6<|J _ _<|Q5 fun _ b0=>?_;refine Zs f fun _ b1=>?_;refine Zm O<|Zm O<|Ze (X0f O O)<|Zt b1 fun a f=>?_
   refine Xz f O (fun aA=>?_) (fun aA=>?_)
   ·have i:cellS n g row col=valS n g col:=by rw [cellS,Q3 H,Q4 ((eq_of_beq aA).trans C.symm)]
    rw [Q] at i
    refine Zs f fun _ b4=>?_;refine Ze (Vn X04 x)<|Zo (Vw [vi ((dPow 4).num.a),vi ((dPow 4).num.b),vi ((dPow 4).num.c),vi ((dPow 4).num.d),vi ((dPow 4).exp)] X0i e) ?_;rintro _ cY ⟨h,B⟩;have o:=Below.oy o h z;have e:=B;refine Zt b4 fun a f=>?_;refine Q6<|X7<|X4 f (Xo f O (ResV.cellN (l:=[vi ((dPow 4).num.a),vi ((dPow 4).num.b),vi ((dPow 4).num.c),vi ((dPow 4).num.d),vi ((dPow 4).exp)]) O X04 (e.at 0) O)) ?_;exact ⟨(by rw [i];try rfl),o⟩
   have i:cellS n g row col=dZ:=by rw [cellS,Q3 H,Q3 (fun M=>X2c aA (M.trans C))]
   refine Q7<|b0 _ _<|Zs f fun _ b7=>?_;refine Ze (Vn X04 t)<|Zo (Vw [vi 0,vi 0,vi 0,vi 0,vi 0] X0i e) ?_;rintro _ cZ ⟨h,B⟩;have o:=Below.oy o h z;have e:=B;refine Zt b7 fun a f=>?_
   refine Q6 (X4 f (Xo f O (ResV.cellN (l:=[vi 0,vi 0,vi 0,vi 0,vi 0]) O X04 (e.at 0) O)) ?_)
   exact ⟨(by rw [i];try rfl),o⟩
  have Q:valS n g col=dPow 0:=by have h9:¬ (bitF n col g.a=1/\bitF n col g.b=1):=(by simpa using a8);simp only [valS,L,h9];simp
  refine Q7<|X6<|J _ _<|Q5 fun _ b8=>?_;refine Zs f fun _ b9=>?_;refine Zm O<|Zm O<|Ze (X0f O O)<|Zt b9 fun a f=>?_
  refine Xz f O (fun aB=>?_) (fun aB=>?_)
  ·have i:cellS n g row col=valS n g col:=by rw [cellS,Q3 H,Q4 ((eq_of_beq aB).trans C.symm)]
   rw [Q] at i
   refine Zs f fun _ bC=>?_;refine Ze (Vn X04 x)<|Zo (Vw [vi ((dPow 0).num.a),vi ((dPow 0).num.b),vi ((dPow 0).num.c),vi ((dPow 0).num.d),vi ((dPow 0).exp)] X0i e) ?_;rintro _ d5 ⟨h,B⟩;have o:=Below.oy o h z;have e:=B;refine Zt bC fun a f=>?_;refine Q6<|X7<|X4 f (Xo f O (ResV.cellN (l:=[vi ((dPow 0).num.a),vi ((dPow 0).num.b),vi ((dPow 0).num.c),vi ((dPow 0).num.d),vi ((dPow 0).exp)]) O X04 (e.at 0) O)) ?_;exact ⟨(by rw [i];try rfl),o⟩
  have i:cellS n g row col=dZ:=by rw [cellS,Q3 H,Q3 (fun M=>X2c aB (M.trans C))]
  refine Q7<|b8 _ _<|Zs f fun _ bD=>?_;refine Ze (Vn X04 t)<|Zo (Vw [vi 0,vi 0,vi 0,vi 0,vi 0] X0i e) ?_;rintro _ d6 ⟨h,B⟩;have o:=Below.oy o h z;have e:=B;refine Zt bD fun a f=>?_
  refine Q6 (X4 f (Xo f O (ResV.cellN (l:=[vi 0,vi 0,vi 0,vi 0,vi 0]) O X04 (e.at 0) O)) ?_)
  exact ⟨(by rw [i];try rfl),o⟩
 have d7:=X2c G;refine Zs f fun _ bE=>?_;refine Ze (X0f O O)<|Za O<|Zt bE fun a f=>?_
 refine Xz f O (fun aC=>?_) (fun aC=>?_)
 ·have L:=eq_of_beq aC
  have H:¬ g.k<=8:=by omega
  have Q:valS n g col=dPow 0:=by simp [valS,L]
  refine Q5 fun _ bF=>?_;refine Xl none (fun _=>false) mixed ?_;intro d8 A;have p:=p.bw A;have e:=e.bw A;have x:=x.bw A;have t:=t.bw A;have o:=btr o A;refine Yb f<|Yo 0 O (fun _=>X3 O)<|Yo 1 O (fun _=>X3 O)<|Yo 2 O (fun _=>Vd O Xs 1)<|Ye 3 O (X0 O X2 (p.at 1))<|Yo 5 O (fun _=>X3 O)<|Yo 6 O (fun _=>X3 O)<|Yo 7 O (fun _=>Vd O X0h 2)<|Ye 8 O (X0 O X2 (p.at 2))<|Y1 4 ?_;refine Yz O tv0 (Vc (Xbe _ n col g.a Z Z Z) X5e) ?_;refine Y1 9<|Yz O tv0 (Vc (Xbe _ n col g.b Z Z Z) X5e) ?_;refine Yo 10 O (fun _=>X3t O O) ?_;refine Yd fun a f=>?_;refine bF _ _ ?_
  refine Xz f O (fun aD=>?_) (fun aD=>?_)
  ·have C:toS n g col=flipF n (flipF n col g.a) g.b:=by have h9:bitF n col g.a≠bitF n col g.b:=(by simpa using aD);simp [toS,L,h9]
   refine Zr f<|Zm O<|Zm O<|Ze (X1c O O Z Z)<|Ze (Vd O Xs 1)<|Ze (X0 O X2 (p.at 1))<|Ze (X1c O O Z Z)<|Ze (Xew (m:=(n-1-g.a).toNat) Tryz.underlying3 Tryz.underlying87 O Z Z)<|Ze (Xbk (m:=(n-1-g.a).toNat) O O O Z)<|Ze (Xog O O)<|Zm O ?_;refine Ze (X1c O O Z Z)<|Ze (Vd O X0h 2)<|Ze (X0 O X2 (p.at 2))<|Ze (X1c O O Z Z)<|Ze (Xew (m:=(n-1-g.b).toNat) Tryz.underlying3 Tryz.underlying87 O Z Z)<|Ze (Xbk (m:=(n-1-g.b).toNat) O O O Z)<|Ze (Xog O O)<|Za O ?_;refine Zn fun a f=>?_;refine X6<|J _ _<|Q5 fun _ bG=>?_;refine Zs f fun _ bH=>?_;refine Zm O<|Zm O<|Ze (X0f O O)<|Zt bH fun a f=>?_
   refine Xz f O (fun aE=>?_) (fun aE=>?_)
   ·have i:cellS n g row col=valS n g col:=by rw [cellS,Q3 H,Q4 ((eq_of_beq aE).trans C.symm)]
    rw [Q] at i
    refine Zs f fun _ bJ=>?_;refine Ze (Vn X04 x)<|Zo (Vw [vi ((dPow 0).num.a),vi ((dPow 0).num.b),vi ((dPow 0).num.c),vi ((dPow 0).num.d),vi ((dPow 0).exp)] X0i e) ?_;rintro _ dA ⟨h,B⟩;have o:=Below.oy o h z;have e:=B;refine Zt bJ fun a f=>?_;refine Q6<|X7<|X4 f (Xo f O (ResV.cellN (l:=[vi ((dPow 0).num.a),vi ((dPow 0).num.b),vi ((dPow 0).num.c),vi ((dPow 0).num.d),vi ((dPow 0).exp)]) O X04 (e.at 0) O)) ?_;exact ⟨(by rw [i];try rfl),o⟩
   have i:cellS n g row col=dZ:=by rw [cellS,Q3 H,Q3 (fun M=>X2c aE (M.trans C))]
   refine Q7<|bG _ _<|Zs f fun _ bK=>?_;refine Ze (Vn X04 t)<|Zo (Vw [vi 0,vi 0,vi 0,vi 0,vi 0] X0i e) ?_;rintro _ dB ⟨h,B⟩;have o:=Below.oy o h z;have e:=B;refine Zt bK fun a f=>?_
   refine Q6 (X4 f (Xo f O (ResV.cellN (l:=[vi 0,vi 0,vi 0,vi 0,vi 0]) O X04 (e.at 0) O)) ?_)
   exact ⟨(by rw [i];try rfl),o⟩
  have C:toS n g col=col:=by have h9:bitF n col g.a=bitF n col g.b:=(by simpa using aD);simp [toS,L,h9]
  refine Q7<|X6<|J _ _<|Q5 fun _ bL=>?_;refine Zs f fun _ bM=>?_;refine Zm O<|Zm O<|Ze (X0f O O)<|Zt bM fun a f=>?_
  refine Xz f O (fun aF=>?_) (fun aF=>?_)
  ·have i:cellS n g row col=valS n g col:=by rw [cellS,Q3 H,Q4 ((eq_of_beq aF).trans C.symm)]
   rw [Q] at i
   refine Zs f fun _ bN=>?_;refine Ze (Vn X04 x)<|Zo (Vw [vi ((dPow 0).num.a),vi ((dPow 0).num.b),vi ((dPow 0).num.c),vi ((dPow 0).num.d),vi ((dPow 0).exp)] X0i e) ?_;rintro _ dC ⟨h,B⟩;have o:=Below.oy o h z;have e:=B;refine Zt bN fun a f=>?_;refine Q6<|X7<|X4 f (Xo f O (ResV.cellN (l:=[vi ((dPow 0).num.a),vi ((dPow 0).num.b),vi ((dPow 0).num.c),vi ((dPow 0).num.d),vi ((dPow 0).exp)]) O X04 (e.at 0) O)) ?_;exact ⟨(by rw [i];try rfl),o⟩
  have i:cellS n g row col=dZ:=by rw [cellS,Q3 H,Q3 (fun M=>X2c aF (M.trans C))]
  refine Q7<|bL _ _<|Zs f fun _ bO=>?_;refine Ze (Vn X04 t)<|Zo (Vw [vi 0,vi 0,vi 0,vi 0,vi 0] X0i e) ?_;rintro _ dD ⟨h,B⟩;have o:=Below.oy o h z;have e:=B;refine Zt bO fun a f=>?_
  refine Q6 (X4 f (Xo f O (ResV.cellN (l:=[vi 0,vi 0,vi 0,vi 0,vi 0]) O X04 (e.at 0) O)) ?_)
  exact ⟨(by rw [i];try rfl),o⟩
 have dE:=X2c aC
 have H:g.k<=8:=by omega
 refine Q5 fun _ bP=>?_;refine Zs f fun _ bQ=>?_;refine Zm O<|Zm O<|Ze (Xog O O)<|Zm O<|Ze (X1c O O Z Z)<|Ze (Vd O Xs 1)<|Ze (X0 O X2 (p.at 1))<|Ze (X1c O O Z Z)<|Ze (Xew (m:=(n-1-g.a).toNat) Tryz.underlying3 Tryz.underlying87 O Z Z)<|Ze (Xbk (m:=(n-1-g.a).toNat) O O O Z) ?_;refine Ze (Xoa O O)<|Ze (X3t O O)<|Zt bQ fun a f=>?_
 refine Xz f O (fun aG=>?_) (fun aG=>?_)
 ·have i:cellS n g row col=dZ:=by rw [cellS,Q4 H,Q4 (by simpa using aG)]
  refine Zs f fun _ bR=>?_;refine Ze (Vn X04 t)<|Zo (Vw [vi 0,vi 0,vi 0,vi 0,vi 0] X0i e) ?_;rintro _ dF ⟨h,B⟩;have o:=Below.oy o h z;have e:=B;refine Zt bR fun a f=>?_;refine Q6<|X7<|X05<|X7 ?_;refine X4 f (Xo f O (ResV.cellN (l:=[vi 0,vi 0,vi 0,vi 0,vi 0]) O X04 (e.at 0) O)) ?_;exact ⟨(by rw [i];try rfl),o⟩
 have i:cellS n g row col=(oneL g.k).getD (2*bitF n row g.a+bitF n col g.a).toNat dZ:=by rw [cellS,Q4 H,Q3 (by simpa using aG)]
 refine Q7<|bP _ _<|Q5 fun _ bS=>?_;refine Xl none (fun j=>[17].contains j) mixed ?_;intro dG A;have p:=p.bw A;have e:=e.bw A;have t:=t.bw A;have o:=btr o A;refine Yb f<|Yo 0 O (fun _=>Vd O X25 0)<|Ye 1 O (X0 O X2 (p.at 0))<|Yo 3 O (fun _=>X3 O)<|Yo 4 O (fun _=>X3 O)<|Yo 5 O (fun _=>Vd O Xs 1)<|Ye 6 O (X0 O X2 (p.at 1))<|Yo 9 O (fun _=>X3 O)<|Yo 10 O (fun _=>X3 O)<|Yo 11 O (fun _=>Vd O Xs 1)<|Ye 12 O (X0 O X2 (p.at 1)) ?_;refine Y1 2<|Yk O tv0 (Vc (Y3d _ g.k Z) Xw9) (fun _ _ ⟨cJ,cK,_,I,A⟩=>A) ?_;rintro _ dH ⟨cJ,cK,rfl,I,A⟩;have bU:=I.awayNew e.lt;have bW:=I.awayNew t.lt;have I:=I.lower o.size;have e:=e.bw A;have o:=btr o A;refine Y1 7<|Yz O tv0 (Vc (Xbe _ n row g.a Z Z Z) X5e) ?_;refine Yo 8 O (fun _=>X5t O O Z Z)<|Y1 13 ?_;refine Yz O tv0 (Vc (Xbe _ n col g.a Z Z Z) X5e) ?_;refine Yo 14 O (fun _=>Xr O O Z Z)<|Yi (k:=(2*bitF n row g.a+bitF n col g.a).toNat) (u:=((oneL g.k).getD (2*bitF n row g.a+bitF n col g.a).toNat dZ)) (enc:=encD) (l:=(oneL g.k)) 15 O tv0 O O X21 X0i X1x I.rd (Xmr Z) Z ?_;intro dI aH;refine Ye 16 O (X09 (l:=[vi (((oneL g.k).getD (2*bitF n row g.a+bitF n col g.a).toNat dZ).num.a),vi (((oneL g.k).getD (2*bitF n row g.a+bitF n col g.a).toNat dZ).num.b),vi (((oneL g.k).getD (2*bitF n row g.a+bitF n col g.a).toNat dZ).num.c),vi (((oneL g.k).getD (2*bitF n row g.a+bitF n col g.a).toNat dZ).num.d),vi (((oneL g.k).getD (2*bitF n row g.a+bitF n col g.a).toNat dZ).exp)]) O X04 aH O)<|Y1 17 ?_
 refine Yh O tv0 O (Vw [vi (((oneL g.k).getD (2*bitF n row g.a+bitF n col g.a).toNat dZ).num.a),vi (((oneL g.k).getD (2*bitF n row g.a+bitF n col g.a).toNat dZ).num.b),vi (((oneL g.k).getD (2*bitF n row g.a+bitF n col g.a).toNat dZ).num.c),vi (((oneL g.k).getD (2*bitF n row g.a+bitF n col g.a).toNat dZ).num.d),vi (((oneL g.k).getD (2*bitF n row g.a+bitF n col g.a).toNat dZ).exp)] X0i e) ?_;rintro _ dJ ⟨h,B⟩;have o:=Below.oy o h z;have e:=B;refine Yd fun a f=>?_;refine bS _ _<|Q6<|X05<|X7 ?_;refine X4 f (Xo f O (ResV.cellN (l:=[vi (((oneL g.k).getD (2*bitF n row g.a+bitF n col g.a).toNat dZ).num.a),vi (((oneL g.k).getD (2*bitF n row g.a+bitF n col g.a).toNat dZ).num.b),vi (((oneL g.k).getD (2*bitF n row g.a+bitF n col g.a).toNat dZ).num.c),vi (((oneL g.k).getD (2*bitF n row g.a+bitF n col g.a).toNat dZ).num.d),vi (((oneL g.k).getD (2*bitF n row g.a+bitF n col g.a).toNat dZ).exp)]) O X04 (e.at 0) O)) ?_;exact ⟨(by rw [i];try rfl),o⟩
theorem Y32(E:World)(n:Int)(g:Gt)(U:gOk n g=true) : Ret Tryz.prog 85 [vi n,.agg #[vi g.k,vi g.a,vi g.b]] E (fun v w=>∃ A c,v=mV A c (gateS n g)/\Own w E.heap.size 78 5 encD A c (gateS n g).cells/\Below E.heap.size E w):=by
 have aU:=X2i U
 obtain ⟨d,hd⟩ : ∃ d:Nat,d=2^n.toNat:=⟨_,O⟩
 have aD:d<=32:=by rw [hd];exact X80 aU.1.2
 refine enter Tryz.func85 O 36 O O ?_;intro a t
 have q:=bz E
 refine Zs t fun _ aV=>?_;refine Zf (X0u (zs:=[vi g.k,vi g.a,vi g.b]) O O) ?_;rintro _ w1 ⟨b2,rfl,H,u,f⟩;have b1:=Q0 q.size H;have q:=btr q u;refine Zf (X03 (zs:=[vi 0,vi 0,.slice none 0 0]) X3a O) ?_;rintro _ w2 ⟨b4,rfl,aW,u,e⟩;have aE:=Q0 q.size aW;have f:=f.bw u;have q:=btr q u;refine Zx aV fun a t _ aX=>?_;refine Zm O<|Ze (Xew (m:=n.toNat) Tryz.underlying3 Tryz.underlying87 O Z Z)<|Ze (Xsu (m:=n.toNat) (D:=d) O O O ⟨hd,by omega⟩)<|Za O<|Zx aX fun a t _ aY=>?_;refine Zm O<|Zm O<|Ze (Xt (ps:=[(0,vi (d:Int)),(1,vi (d:Int))]) (cs:=[vi (d:Int),vi (d:Int),.slice none 0 0]) O (fun _=>by first|rfl|kernel_rfl)) ?_;refine ZB [vi (d:Int),vi (d:Int),.slice none 0 0] X3a X1o fun b9 w4 aZ u o=>?_
 have aT:b4≠b9:=by have:=e.lt;omega
 have aF:=Q0 q.size aZ;have f:=f.bw u;have e:=e.bw u;have q:=btr q u;refine ZX aY fun a t _ aG=>?_;refine Zs t fun _ aH=>?_;refine Za O<|Zt aH fun a t=>?_;refine Q8<|X00 (σ:=Nat×(List Dy)) (fun (s:Nat×(List Dy)) (a:Act) (w:World)=>match s with|(i,l)=>∃ z B,Fr a 36 [(0,vi n),(3,(pZ9 b2)),(4,(pZ9 b4)),(5,vi (d:Int)),(6,(pZ9 b9)),(7,vi (i:Int))]/\(i<=d)/\(gridL (fun i j=>cellS n g (i:Int) (j:Int)) d (i*d)=l)/\Blk w b2 66 [vi g.k,vi g.a,vi g.b]/\Blk w b4 37 [vi 0,vi 0,.slice none 0 0]/\Blk w b9 37 [vi (d:Int),vi (d:Int),.slice z l.length B]/\Own w E.heap.size 78 5 encD z B l/\Below E.heap.size E w) (fun (s:Nat×(List Dy))=>match s with|(i,l)=>d-i) (0,[]) ?_ ?_
 ·exact ⟨none,0,t.sb,(Qf _),O8,f,e,o,(Own.nil _ _ _ _ _),q⟩
 rintro ⟨i,l⟩ a w5 ⟨z,B,t,b5,hl,f,e,o,C,q⟩;refine Q5 fun _ aI=>?_;refine Zs t fun _ aJ=>?_;refine Zm O<|Zm O<|Ze (X1a O O)<|Zt aJ fun a t=>?_
 refine X0z t O (fun a6 I=>?_) (fun a6 I=>?_)
 ·have aK:i<d:=by have:=I;omega
  have b6:i*d<=1024:=Q0 (Nat.mul_le_mul (show i<=32 by omega) aD) O4
  refine Q7<|aI _ _<|Q5 fun _ aL=>?_;refine Q8<|Zs t fun _ aM=>?_;refine Za O<|Zt aM fun a t=>?_;refine Q8<|X00 (σ:=Nat×(List Dy)) (fun (s:Nat×(List Dy)) (a:Act) (w:World)=>match s with|(j,l2)=>∃ N Q,Fr a 36 [(0,vi n),(3,(pZ9 b2)),(4,(pZ9 b4)),(5,vi (d:Int)),(6,(pZ9 b9)),(7,vi (i:Int)),(8,vi (j:Int))]/\(j<=d)/\(gridL (fun i j=>cellS n g (i:Int) (j:Int)) d (i*d+j)=l2)/\Blk w b2 66 [vi g.k,vi g.a,vi g.b]/\Blk w b4 37 [vi 0,vi 0,.slice none 0 0]/\Blk w b9 37 [vi (d:Int),vi (d:Int),.slice N l2.length Q]/\Own w E.heap.size 78 5 encD N Q l2/\Below E.heap.size E w) (fun (s:Nat×(List Dy))=>match s with|(j,l2)=>d-j) (0,l) ?_ ?_
  ·exact ⟨z,B,t.sb,(Qf _),hl,f,e,o,C,q⟩
  rintro ⟨j,l2⟩ a w6 ⟨N,Q,t,b7,H,f,e,o,p,q⟩;refine Q5 fun _ aN=>?_;refine Zs t fun _ aO=>?_;refine Zm O<|Zm O<|Ze (X1a O O)<|Zt aO fun a t=>?_
  refine X0z t O (fun a7 J=>?_) (fun a7 J=>?_)
  ·have a8:j<d:=by have:=J;omega
   have b3:l2.length=i*d+j:=by rw [<- H,X56]
   refine Q7<|aN _ _<|Q5 fun _ aP=>?_;refine Q8<|Xl none (fun j=>[8,10].contains j) mixed ?_;intro w7 u;have f:=f.bw u;have e:=e.bw u;have o:=o.bw u;have p:=p.bw u;have q:=btr q u;refine Yb t<|Yo 0 O (fun _=>Vd O X1q 2)<|Ye 1 O (X0 O X3i (o.at 2))<|Yo 2 O (fun _=>X3 O)<|Ye 3 O (Vn X28 f)<|Yo 4 O (fun _=>X3 O)<|Yo 5 O (fun _=>X3 O)<|Y1 6 ?_;refine Yk O tv0 (Vc (Y3a _ n g (i:Int) (j:Int) U) Xw6) (fun _ _ ⟨_,u⟩=>u) ?_;rintro _ w8 ⟨rfl,u⟩;have f:=f.bw u;have e:=e.bw u;have o:=o.bw u;have p:=p.bw u;have q:=btr q u;refine Y1 7<|Yk O tv0 (X9 (k:=1) (vs:=[.agg #[vi ((cellS n g (i:Int) (j:Int)).num.a),vi ((cellS n g (i:Int) (j:Int)).num.b),vi ((cellS n g (i:Int) (j:Int)).num.c),vi ((cellS n g (i:Int) (j:Int)).num.d),vi ((cellS n g (i:Int) (j:Int)).exp)]]) (zs:=[vi ((cellS n g (i:Int) (j:Int)).num.a),vi ((cellS n g (i:Int) (j:Int)).num.b),vi ((cellS n g (i:Int) (j:Int)).num.c),vi ((cellS n g (i:Int) (j:Int)).num.d),vi ((cellS n g (i:Int) (j:Int)).exp)]) O X21 X31 O O) (fun _ _ ⟨_,_,_,h,_⟩=>h) ?_;rintro _ w9 ⟨b8,rfl,W,u,L⟩;have b0:=Q0 q.size W;have G:=p.away W;have f:=f.bw u;have e:=e.bw u;have o:=o.bw u;have p:=p.bw u;have q:=btr q u;refine Y1 8<|Yt O tv0 O (X15 (enc:=encD) (l:=(l2)) (l2:=([(cellS n g (i:Int) (j:Int))])) (B0:=E.heap.size) O O X21 X31 X1x X54 p (Rd.of_blk L O _ L.lt) (by simp only [maxLen];simp;omega) O6 q.size) ?_;rintro _ bC ⟨aA,aB,rfl,M,U,aQ⟩
   have x:Own _ E.heap.size 78 5 encD _ _ (l2):=p
   have aC:=aQ _ L.lt G;clear aQ;have f:=f.appT x U O;have e:=e.appT x U O;have o:=o.appT x U O;have q:=Below.app q x U (Qb _) q.size;clear x U;refine Yo 9 O (fun _=>Vd O X1q 2)<|Y1 10 ?_;refine Yh O tv0 O (Vu (vs:=[.slice aA (l2++([(cellS n g (i:Int) (j:Int))])).length aB]) (l':=[vi (d:Int),vi (d:Int),.slice aA (l2++([(cellS n g (i:Int) (j:Int))])).length aB]) O O Xa9 o) ?_;rintro _ bD ⟨ho,hb⟩;have f:=f.oz ho o O;have e:=e.oy ho Z;have M:=M.oT ho o O;have q:=Below.oy q ho aF;have o:=hb;refine Yd fun a t=>?_;refine X6<|aP _ _<|Zr t<|Zm O<|Ze (Xr O O Z Z)<|Za O ?_;refine Zn fun a t=>?_;refine Xc ?_;exact ⟨(j+1,l2++[(cellS n g (i:Int) (j:Int))]),⟨aA,aB,t.sb,Z,(by rw [X9y a8,H]),f,e,o,M,q⟩,O0⟩
  have a8:j=d:=by have:=J;omega
  refine Q9<|Xg<|Xg<|X01 ?_;refine X6<|aL _ _<|Zr t<|Zm O<|Ze (Xr O O Z Z)<|Za O ?_;refine Zn fun a t=>?_;refine Xc ?_;exact ⟨(i+1,l2),⟨N,Q,t.sb,Z,(by rw [Wb,Nat.one_mul,<- H,a8]),f,e,o,p,q⟩,O0⟩
 have aK:i=d:=by have:=I;omega
 refine Q9<|Xg<|Xg<|X01 ?_;refine aG _ _<|Zs t fun _ aR=>?_;refine Ze (Vn X1d o)<|Zo (Vw [vi (d:Int),vi (d:Int),.slice z l.length B] X1o e) ?_;rintro _ bE ⟨ho,hb⟩;have C:=C.oT ho e O;have q:=Below.oy q ho aE;have e:=hb;refine Zt aR fun a t=>?_
 refine Q6 (X4 t (Xo t O (ResV.cellN (l:=[vi (d:Int),vi (d:Int),.slice z l.length B]) O X1d (e.at 0) O)) ?_)
 have aS:gateS n g=⟨(d:Int),(d:Int),l⟩:=by rw [gateS,<- hl,aK,hd]
 rw [aS]
 exact ⟨z,B,O,C,q⟩
theorem Y2x(w0:World)(n:Int)(g:Gt)(hn:1<=n/\n<=5) : Ret Tryz.prog 66 [vi n,.agg #[vi g.k,vi g.a,vi g.b]] w0 (fun v w=>v=.bool (gOk n g)/\Below w0.heap.size w0 w):=by
 refine enter Tryz.func66 O 55 O O ?_;intro a j
 have hW:=bz w0
 refine Zs j fun _ a8=>?_;refine Zf (X0u (zs:=[vi g.k,vi g.a,vi g.b]) O O) ?_;rintro _ w1 ⟨b2,rfl,aA,hE,p⟩;have aG:=Q0 hW.size aA;have hW:=btr hW hE;refine Za O<|ZX a8 fun a j _ aB=>?_;refine Q8<|Zs j fun _ aC=>?_;refine Ze (Vd O X25 0)<|Ze (X0 O X2 (p.at 0))<|Zf (Vc (F85 _ g.k 1 8) X4b) ?_;rintro _ _ ⟨rfl,rfl⟩;refine Za O<|Zt aC fun a j=>?_
 refine Xz j O (fun i=>?_) (fun i=>?_)
 ·have q:=Y3w hn i;refine Q5 fun _ aD=>?_;refine X0p (fun a w=>Fr a 55 [(4,.bool ((inR g.a 0 (n-1))&&(g.b==0)))]/\w1=w) ?_ ?_
  ·refine Zr j<|Ze (Vd O Xs 1)<|Ze (X0 O X2 (p.at 1))<|Zm O<|Ze (X1c O O Z Z)<|Zf (Vc (F85 _ g.a 0 (n-1)) X4b) ?_;rintro _ _ ⟨rfl,rfl⟩;refine Zm O ?_
   refine Zg 14 O (fun o=>?_) (fun o=>?_)
   ·refine Zv (gW o) (Vd O X0h 2) ?_;refine Zv (gW o) (X0 O X2 (p.at 2)) ?_;refine Zv (gW o) (X0f O O) ?_;refine Ze (Xa O o O)<|Za O ?_;refine Zn fun a j=>?_;exact ⟨j.sub ⟨X1 O (by first|rfl|(simp only [i,o,bs];done)|simp [i,o]),trivial⟩,O⟩
   (iterate 3 refine Zp (gP o) ?_);refine Ze (Xh O o O)<|Za O ?_;refine Zn fun a j=>?_;exact ⟨j.sub ⟨X1 O (by first|rfl|(simp only [i,o,bs];done)|simp [i,o]),trivial⟩,O⟩
  rintro a _ ⟨j,rfl⟩;refine aD _ _<|Q6<|X05<|X7 ?_;refine X4 j (Xo j O O) ?_;exact ⟨by rw [q],hW⟩
 have aE:=i;refine Zs j fun _ aF=>?_;refine Ze (Vd O X25 0)<|Ze (X0 O X2 (p.at 0))<|Zf (Vc (F85 _ g.k 9 11) X4b) ?_;rintro _ _ ⟨rfl,rfl⟩;refine Za O<|Zt aF fun a j=>?_
 refine Xz j O (fun m=>?_) (fun m=>?_)
 ·have q:=Y3x hn m;refine Q5 fun _ a6=>?_;refine X0p (fun a w=>Fr a 55 [(4,.bool (((inR g.a 0 (n-1))&&(inR g.b 0 (n-1)))&&(g.a != g.b)))]/\w1=w) ?_ ?_
  ·refine Zr j<|Ze (Vd O Xs 1)<|Ze (X0 O X2 (p.at 1))<|Zm O<|Ze (X1c O O Z Z)<|Zf (Vc (F85 _ g.a 0 (n-1)) X4b) ?_;rintro _ _ ⟨rfl,rfl⟩;refine Zm O ?_
   refine Zg 28 O (fun c=>?_) (fun c=>?_)
   ·refine Zv (gW c) (Vd O X0h 2) ?_;refine Zv (gW c) (X0 O X2 (p.at 2)) ?_;refine Zv (gW c) (X3 O) ?_;refine Zv (gW c) (X1c O O Z Z) ?_;refine Zk (gW c) (Vc (F85 _ g.b 0 (n-1)) X4b) ?_;rintro _ _ ⟨rfl,rfl⟩;refine Ze (Xa O c O)<|Zm O ?_
    refine Zg 35 O (fun d=>?_) (fun d=>?_)
    ·refine Zv (gW d) (Vd O Xs 1) ?_;refine Zv (gW d) (X0 O X2 (p.at 1)) ?_;refine Zv (gW d) (Vd O X0h 2) ?_;refine Zv (gW d) (X0 O X2 (p.at 2)) ?_;refine Zv (gW d) (X3t O O) ?_;refine Ze (Xa O d O)<|Za O ?_;refine Zn fun a j=>?_;exact ⟨j.sub ⟨X1 O (by first|rfl|(simp only [i,m,c,d,bs];done)|simp [i,m,c,d]),trivial⟩,O⟩
    (iterate 5 refine Zp (gP d) ?_);refine Ze (Xh O d O)<|Za O ?_;refine Zn fun a j=>?_;exact ⟨j.sub ⟨X1 O (by first|rfl|(simp only [i,m,c,d,bs];done)|simp [i,m,c,d]),trivial⟩,O⟩
   (iterate 5 refine Zp (gP c) ?_);refine Ze (Xh O c O)<|Zm O<|Zp (gP O) ?_;(iterate 4 refine Zp (gP O) ?_);refine Ze (Xh O O O)<|Za O ?_;refine Zn fun a j=>?_;exact ⟨j.sub ⟨X1 O (by first|rfl|(simp only [i,m,c,bs];done)|simp [i,m,c]),trivial⟩,O⟩
  rintro a _ ⟨j,rfl⟩;refine a6 _ _<|Q6<|X05<|X7 ?_;refine X4 j (Xo j O O) ?_;exact ⟨by rw [q],hW⟩
 have q:=Y3y hn aE m;refine Q7<|X6<|aB _ _<|Q5 fun _ a7=>?_;refine X0p (fun a w=>Fr a 55 [(4,.bool (((g.k==12)&&(g.a==0))&&(g.b==0)))]/\w1=w) ?_ ?_
 ·refine Zr j<|Ze (Vd O X25 0)<|Ze (X0 O X2 (p.at 0))<|Ze (X0f O O)<|Zm O ?_
  refine Zg 45 O (fun e=>?_) (fun e=>?_)
  ·refine Zv (gW e) (Vd O Xs 1) ?_;refine Zv (gW e) (X0 O X2 (p.at 1)) ?_;refine Zv (gW e) (X0f O O) ?_;refine Ze (Xa O e O)<|Zm O ?_
   refine Zg 50 O (fun f=>?_) (fun f=>?_)
   ·refine Zv (gW f) (Vd O X0h 2) ?_;refine Zv (gW f) (X0 O X2 (p.at 2)) ?_;refine Zv (gW f) (X0f O O) ?_;refine Ze (Xa O f O)<|Za O ?_;refine Zn fun a j=>?_;exact ⟨j.sub ⟨X1 O (by first|rfl|(simp only [i,m,e,f,bs];done)|simp [i,m,e,f]),trivial⟩,O⟩
   (iterate 3 refine Zp (gP f) ?_);refine Ze (Xh O f O)<|Za O ?_;refine Zn fun a j=>?_;exact ⟨j.sub ⟨X1 O (by first|rfl|(simp only [i,m,e,f,bs];done)|simp [i,m,e,f]),trivial⟩,O⟩
  (iterate 3 refine Zp (gP e) ?_);refine Ze (Xh O e O)<|Zm O<|Zp (gP O) ?_;(iterate 2 refine Zp (gP O) ?_);refine Ze (Xh O O O)<|Za O ?_;refine Zn fun a j=>?_;exact ⟨j.sub ⟨X1 O (by first|rfl|(simp only [i,m,e,bs];done)|simp [i,m,e]),trivial⟩,O⟩
 rintro a _ ⟨j,rfl⟩;refine a7 _ _ ?_
 refine Q6 (X4 j (Xo j O O) ?_)
 exact ⟨by rw [q],hW⟩
theorem F53(p:World)(c:Cx)(Ac:Option Addr)(cc:Nat)(aA:Rd p p.heap.size 66 encG Ac c.gs) : Ret Tryz.prog 27 [.agg #[vi c.n,.slice Ac c.gs.length cc]] p (fun v w=>v=.bool (cOk c)/\Below p.heap.size p w):=by
 refine enter Tryz.func27 O 28 O O ?_;intro a d
 have i:=bz p
 refine Zs d fun _ aO=>?_;refine Zf (X0u (zs:=[vi c.n,.slice Ac c.gs.length cc]) O O) ?_;rintro _ w1 ⟨b3,rfl,aP,hE,f⟩;have aX:=Q0 i.size aP;have i:=btr i hE;refine Za O<|ZX aO fun a d _ aQ=>?_;refine Q5 fun _ aR=>?_;refine X0p (fun a w=>Fr a 28 [(1,(pZ9 b3)),(14,.bool ((!(inR c.n 1 5))||(decide (400<(c.gs.length:Int)))))]/\w1=w) ?_ ?_
 ·refine Zr d<|Ze (Vd O X2f 0)<|Ze (X0 O X2 (f.at 0))<|Zf (Vc (F85 _ c.n 1 5) X4b) ?_;rintro _ _ ⟨rfl,rfl⟩;refine Ze (X1w O)<|Zm O ?_
  refine Zg 9 O (fun e=>?_) (fun e=>?_)
  ·(iterate 4 refine Zp (gP e) ?_);refine Ze (Xa O e O) ?_;refine Zn fun a d=>?_;exact ⟨d.sub ⟨O,X1 O (by first|rfl|(simp only [e,bs];done)|simp [e]),trivial⟩,O⟩
  refine Zv (gW e) (Vd O X38 1) ?_;refine Zv (gW e) (X0 O X69 (f.at 1)) ?_;refine Zv (gW e) (X11 O X3q) ?_;refine Zv (gW e) (X4e O O) ?_;refine Ze (Xh O e O) ?_;refine Zn fun a d=>?_;exact ⟨d.sub ⟨O,X1 O (by first|rfl|(simp only [e,bs];done)|simp [e]),trivial⟩,O⟩
 rintro a _ ⟨d,rfl⟩;refine aR _ _ ?_
 refine Xz d O (fun m=>?_) (fun m=>?_)
 ·have aB:=m
  have hn:(inR c.n 1 5&&decide ((c.gs.length:Int)<=400))=false:=by revert m;cases inR c.n 1 5<;>simp
  refine Zs d fun _ aS=>?_;refine Za O<|Zt aS fun a d=>?_;refine Q6<|X7<|X4 d (Xo d O O) ?_;exact ⟨by rw [cOk,hn];rfl,i⟩
 have aB:=m
 have hy:(inR c.n 1 5&&decide ((c.gs.length:Int)<=400))=true:=by revert m;cases inR c.n 1 5<;>simp
 have aC:=(Qd _ _▸hy:inR c.n 1 5=true/\decide ((c.gs.length:Int)<=400)=true);have hn:=X0o.1 aC.1;have aY:=Q2 aC.2;refine Q7<|aQ _ _<|Q5 fun _ aT=>?_;refine Zs d fun _ aD=>?_;refine Ze (Vd O X38 1)<|Ze (X0 O X69 (f.at 1))<|Ze (X11 O X3q)<|Zm O<|Zt aD fun a d=>?_;refine Q8<|X00 (σ:=Nat) (fun (k:Nat) (a:Act) (w:World)=>Fr a 28 [(1,(pZ9 b3)),(16,.slice Ac c.gs.length cc),(17,vi (c.gs.length:Int)),(18,vi (k:Int))]/\(k<=c.gs.length)/\((c.gs.take k).all (fun x=>gOk c.n x)=true)/\Blk w b3 26 [vi c.n,.slice Ac c.gs.length cc]/\Below p.heap.size p w) (fun (k:Nat)=>c.gs.length+1-k) 0 ?_ ?_
 ·exact ⟨d.sb,(Qf _),O5,f,i⟩
 rintro k a w2 ⟨d,hk,q,f,i⟩;refine Zs d fun _ aE=>?_;refine Ze (X1a O O)<|ZX aE fun a d _ aF=>?_
 refine X0z d O (fun a6 aG=>?_) (fun a6 aG=>?_)
 ·obtain ⟨g,o⟩:=X8 (l:=c.gs) (k:=k) Z
  refine Q7<|aF _ _<|Q5 fun _ aH=>?_;refine Q8<|Zs d fun _ aI=>?_;refine Zi (k:=k) (u:=g) (enc:=encG) (l:=c.gs) tv0 O O X3q X2t X3u (aA.bx i) o O ?_;intro aZ a7;refine Ze (X09 (l:=[vi g.k,vi g.a,vi g.b]) O X28 a7 O) ?_;refine ZB [vi g.k,vi g.a,vi g.b] X87 X2t fun b0 w4 aJ hE aK=>?_;have aU:=Q0 i.size aJ;have f:=f.bw hE;have i:=btr i hE;refine Zx aI fun a d _ aL=>?_;refine Ze (Vd O X2f 0)<|Ze (X0 O X2 (f.at 0))<|Ze (Vn X28 aK)<|Zf (Vc (Y2x _ c.n g hn) Xvs) ?_;rintro _ w5 ⟨rfl,hE⟩;have f:=f.bw hE;have i:=btr i hE;refine Ze (X1w O)<|Zt aL fun a d=>?_
  refine Xz d O (fun j=>?_) (fun j=>?_)
  ·have a8:(c.gs.any fun x=>!gOk c.n x)=true:=X7e o j
   refine Zs d fun _ aM=>?_;refine Za O<|Zt aM fun a d=>?_;refine Q6<|X05<|X7<|X7 ?_;refine X05<|X7<|X4 d (Xo d O O) ?_;exact ⟨by rw [cOk,hy,a8];rfl,i⟩
  have aV:=j
  have aW:gOk c.n g=true:=by revert j;cases gOk c.n g<;>simp
  refine Q7<|X6<|aH _ _<|Zr d ?_;refine Ze (Xr O O Z Z)<|Zm O ?_;refine Zn fun a d=>?_;refine Xc ?_;exact ⟨k+1,⟨d.sb,Z,(X5a q o aW),f,i⟩,Z⟩
 refine Q9<|Xg<|Xg<|X01 ?_;refine aT _ _<|Zs d fun _ aN=>?_;refine Za O<|Zt aN fun a d=>?_
 refine Q6 (X4 d (Xo d O O) ?_)
 have a8:(c.gs.any fun x=>!gOk c.n x)=false:=X6c (by simpa using X4m q Z)
 exact ⟨by rw [cOk,hy,a8];rfl,i⟩
section
end
end Go.Proofs.YtgobkmhhckhbfaaGreatDoor
namespace Go.Proofs
open Go.Shelf
end Go.Proofs
