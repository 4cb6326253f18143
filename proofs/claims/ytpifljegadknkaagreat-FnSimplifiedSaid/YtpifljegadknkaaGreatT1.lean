/-
  For all drawn diagrams, the simplified diagram admits no further step, is reached by the log, and has the same meaning. Conditions: none.
-/
import Derived.WalkKit
import Derived.Maps.AppendAt
import Derived.Test.YtpifljegadknkaaGreatProg
import Derived.Laws.StructEq
import Derived.MapKept
import Derived.Shelf.Sort.Plain
import Derived.Shelf.Slices.Turned
import Derived.Ground.Names2Prog
import Derived.Shelf.Slices.Clone
import Derived.Shelf.Slices.CompactI
import Derived.Shelf.Slices.Cells
import Derived.Shelf.Spec.SlicesGrow
import Derived.Laws.MakeOwn
import Derived.Laws.Slices
import Derived.Shelf.Slices.In.SortNone
import Derived.WideKeyRuns
import Derived.Deep.Strs
import Derived.ProofKit
import Derived.OpenShut
import Derived.Deep.Slices
import Derived.Deep.Fields
import Derived.ChangeSame
import Derived.Lib.SmallJoins
set_option linter.unusedVariables false
set_option linter.unusedSimpArgs false
set_option maxRecDepth 8000
set_option linter.unusedSectionVars false
namespace Go.Proofs.YtpifljegadknkaaGreat
open Go.RowKit
abbrev Q0:=@Nat.le_trans
abbrev Q1:=@of_decide_eq_false
abbrev Q2:=@of_decide_eq_true
abbrev Q3:=@if_neg
abbrev Q4:=@if_pos
abbrev Q5:=@wp_seq_k
abbrev Q6:=@wp_ret
abbrev Q7:=@wp_skip
abbrev Q8:=@wp_block
abbrev Q9:=@wp_exit
abbrev Qa:=@List.getD_eq_getElem?_getD
abbrev Qb:=@Nat.le_refl
abbrev Qc:=@List.getElem?_eq_getElem
abbrev Qd:=@Bool.and_eq_true
abbrev Qe:=@List.mem_of_getElem?
abbrev Qf:=@Nat.zero_le
abbrev Qg:=@List.getElem?_eq_some_iff
abbrev Qh:=@List.length_append
abbrev Qi:=@List.take_of_length_le
abbrev Qj:=@Int.toNat_natCast
abbrev Qk:=@List.mem_cons_self
abbrev Ql:=@List.mem_cons_of_mem
abbrev Qm:=@List.mem_singleton
abbrev Qn:=@List.length_take
abbrev Qo:=@List.length_map
abbrev Qp:=@Array.getElem?_eq_some_iff
abbrev Qq:=@Option.getD_some
abbrev Qr:=@decide_eq_true_eq
abbrev Qs:=@List.length_cons
abbrev Qt:=@List.take_add_one
abbrev Qu:=@List.mem_append
abbrev Qv:=@List.mem_cons
abbrev Qw:=@Bool.true_and
abbrev Qx:=@List.append_assoc
abbrev Qy:=@List.drop_eq_getElem_cons
abbrev Qz:=@Option.bind_some
abbrev W0:=@List.pairwise_iff_getElem
abbrev W1:=@List.all_eq_true
abbrev W2:=@List.mem_range
abbrev W3:=@List.drop_of_length_le
abbrev W4:=@Nat.lt_or_ge
abbrev W5:=@List.getElem?_append_right
abbrev W6:=@List.mem_map
abbrev W7:=@List.any_eq_false
abbrev W8:=@List.pairwise_cons
abbrev W9:=@List.take_append_drop
abbrev Wa:=@List.cons_append
abbrev Wb:=@Nat.add_mul
abbrev Wc:=@List.flatMap_cons
abbrev Wd:=@List.mem_of_mem_take
abbrev We:=@Array.getElem?_eq_none
abbrev Wf:=@List.take_succ_eq_append_getElem
abbrev Wg:=@List.getElem?_take_of_lt
abbrev Wh:=@Array.getElem?_setIfInBounds_ne
abbrev Wi:=@Nat.mul_comm
abbrev vi(x:Int) : Value:=.int .i64 x
abbrev pZ9(b:Nat):Value:=.pointer (some ⟨b,0,none⟩)
theorem tv0:True:=trivial
def look(t:Nat) : List (Nat×Value)->Option Value
 | []=>none
 | (k,v)::l=>match Nat.beq k t with
  | true=>some v
  | false=>look t l
structure Fr (a:Act) (n:Nat) (e:List (Nat×Value)) : Prop where
 d:a.defers=[]
 s:a.tmps.size=n
 h:∀ t v,look t e=some v->a.tmps[t]? = some v
def ev(e:List (Nat×Value)) : Operand->Option Value
 | .tmp t=>look t e
 | .const v=>some v
 | .global g=>some (.pointer (some ⟨g,0,none⟩))
 | .func f=>some (.func (.func f) #[] #[])
theorem Fr.ev{a:Act}{n:Nat}{e:List (Nat×Value)}{x:Operand}{v:Value}(hf:Fr a n e)(hx:ev e x=some v) : a.eval x=v:=by
 cases x with
 | tmp t=>
  have:=hf.h t v hx
  simp [Act.eval,this]
 | const u=>simpa [YtpifljegadknkaaGreat.ev,Act.eval] using hx
 | global g=>simpa [YtpifljegadknkaaGreat.ev,Act.eval] using hx
 | func f=>simpa [YtpifljegadknkaaGreat.ev,Act.eval] using hx
def evs(e:List (Nat×Value)) : List Operand->Option (List Value)
 | []=>some []
 | x::l=>match ev e x,evs e l with
  | some v,some vs=>some (v::vs)
  | _,_=>none
theorem Fr.evs{a:Act}{n:Nat}{e:List (Nat×Value)}(hf:Fr a n e) : ∀ {l:List Operand} {vs:List Value},evs e l=some vs->l.map a.eval=vs:=by
 intro l
 induction l with
 | nil=>intro vs h;simpa [YtpifljegadknkaaGreat.evs] using h
 | cons x l ih=>
  intro vs h
  simp only [YtpifljegadknkaaGreat.evs] at h
  split at h
  ·rename_i v us h1 h2
   injection h with h
   subst h
   simp [hf.ev h1,ih h2]
  ·cases h
theorem X3r(d:Nat)(v:Value)(e:List (Nat×Value)) : look d ((d,v)::e)=some v:=by simp [look]
theorem X4o{d t:Nat}(v:Value)(e:List (Nat×Value))(h:d≠t) : look t ((d,v)::e)=look t e:=by
 have:Nat.beq d t=false:=by
  cases hb:Nat.beq d t
  ·rfl
  ·exact absurd (Nat.eq_of_beq_eq_true hb) h
 simp [look,this]
theorem Fr.put{a:Act}{n:Nat}{e:List (Nat×Value)}(hf:Fr a n e)(d:Nat)(v:Value)(hd:Nat.blt d n=true) : Fr (a.put (some d) v) n ((d,v)::e):=by
 have hd':d<n:=by simpa [Nat.blt_eq] using hd
 refine ⟨hf.d,by simp [Act.put,hf.s],fun t u hu=>?_⟩
 by_cases h:d=t
 ·subst h
  rw [X3r] at hu
  injection hu with hu
  subst hu
  simp [Act.put,hf.s,hd']
 ·rw [X4o _ _ h] at hu
  simp [Act.put,Wh h,hf.h t u hu]
theorem Fr.put_none{a:Act}{n:Nat}{e:List (Nat×Value)}(hf:Fr a n e)(v:Value) : Fr (a.put none v) n e:=hf
def Sub(e:List (Nat×Value)) : List (Nat×Value)->Prop
 | []=>True
 | (t,v)::l=>look t e=some v/\Sub e l
theorem Fr.sub{a:Act}{n:Nat}{e e':List (Nat×Value)}(hf:Fr a n e)(hs:Sub e e') : Fr a n e':=by
 refine ⟨hf.d,hf.s,?_⟩
 induction e' with
 | nil=>intro t v h;cases h
 | cons p l ih=>
  obtain ⟨k,u⟩:=p;intro t v h
  by_cases hk:k=t
  ·subst hk
   rw [X3r] at h
   injection h with h
   subst h
   exact hf.h _ _ hs.1
  ·rw [X4o _ _ hk] at h
   exact ih hs.2 t v h
theorem Fr.sb{a:Act}{n:Nat}{e e':List (Nat×Value)}(hf:Fr a n e)(hs:Sub e e':=by repeat (first|exact trivial|refine ⟨rfl,?_⟩)) : Fr a n e':=hf.sub hs
def zipFrom:Nat->List Value->List (Nat×Value)
 | _,[]=>[]
 | k,v::l=>(k,v)::zipFrom (k+1) l
theorem Xav{l:List Value}{t:Nat}{v:Value} : ∀ {k:Nat},look t (zipFrom k l)=some v->k<=t/\l[t-k]? = some v:=by
 induction l with
 | nil=>intro k h;cases h
 | cons u l ih=>
  intro k h
  simp only [zipFrom] at h
  by_cases hk:k=t
  ·subst hk
   rw [X3r] at h
   exact ⟨Qb _,by simpa using h⟩
  ·rw [X4o _ _ hk] at h
   obtain ⟨h1,h2⟩:=ih h
   refine ⟨by omega,?_⟩
   have:t-k=(t-(k+1))+1:=by omega
   rw [this,List.getElem?_cons_succ]
   exact h2
theorem Xl6{P:Program}{f:FuncId}{fn:Func}{c:Code}{args:List Value}{w:World}{R:Ending->World->Prop}
  (hf:P.funcs[f]? = some fn) (hb:fn.body=some c) (n:Nat) (hn:fn.ntmps=n) (hl:Nat.ble args.length n=true)
  (h:∀ a,Fr a n (zipFrom 0 args)->c.wp P (bodyPost P fn R) a w) : Calls P f args.toArray w R:=by
 refine calls_of_wp hf hb (h _ ⟨rfl,?_,?_⟩)
 ·have:args.length<=n:=by simpa [Nat.ble_eq] using hl
  simp [hn];omega
 ·intro t v hv;obtain ⟨_,h2⟩:=Xav hv
  have hlt:t<args.length:=by
   have:=(Qg.1 h2).1
   simpa using this
  simp only [Nat.sub_zero] at h2
  rw [Array.getElem?_append_left (by simpa using hlt)]
  simpa using h2
def Ev(P:Program)(o:Oper)(a:Act)(w:World)(v:Value) : Prop:=∀ w',Below w.heap.size w w'->(execOp a.eval o).run P w'=.ok (.value v) w'
def EfU(P:Program)(R:Value->World->Prop) : Result Next->Prop
 | .ok (.value v) w'=>R v w'
 | .ok .skip w'=>R undef w'
 | .ok (.enter f args) w'=>Calls P f args w' fun e w''=>∃ v,e=.returned v/\R v w''
 | .ok (.row row args) w'=>Rows P row args w' R
 | _=>False
def Ef(P:Program)(o:Oper)(a:Act)(w:World)(R:Value->World->Prop) : Prop:=EfU P R ((execOp a.eval o).run P w)
theorem Ef.wp{P:Program}{o:Oper}{a:Act}{w:World}{R:Value->World->Prop}(h:Ef P o a w R){K:Act->World->Prop}{Q:Exit->Act->World->Prop}
  (hK:∀ v w',R v w'->K (a.put o.dst v) w') : o.wp P a w K Q:=by
 unfold Ef at h
 unfold Oper.wp
 generalize (execOp a.eval o).run P w=r at *
 cases r with
 | ok nx w'=>
  cases nx<;>simp only [EfU] at h<;>simp only [Oper.upon]
  case value u=>exact hK _ _ h
  case skip=>exact hK _ _ h
  case enter f args=>
   refine Calls.mono h fun e w'' ⟨v,he,hR⟩=>?_
   subst he
   exact hK _ _ hR
  case row row args=>exact Rows.mono h fun u w'' hR=>hK _ _ hR
 | halt x w'=>simp only [EfU] at h
def EvW(P:Program)(o:Oper)(n:Nat)(e:List (Nat×Value))(w:World)(v:Value) : Prop:=∀ a,Fr a n e->Ev P o a w v
def EfW(P:Program)(o:Oper)(n:Nat)(e:List (Nat×Value))(w:World)(R:Value->World->Prop) : Prop:=∀ a,Fr a n e->Ef P o a w R
theorem Ef.of_run{P:Program}{o:Oper}{a:Act}{w w':World}{v:Value}(h:(execOp a.eval o).run P w=.ok (.value v) w') : Ef P o a w fun u w1=>u=v/\w1=w':=by
 unfold Ef
 rw [h]
 exact ⟨rfl,rfl⟩
theorem Ef.of_skip{P:Program}{o:Oper}{a:Act}{w w':World}(h:(execOp a.eval o).run P w=.ok .skip w') : Ef P o a w fun u w1=>u=undef/\w1=w':=by
 unfold Ef
 rw [h]
 exact ⟨rfl,rfl⟩
theorem Ef.mono{P:Program}{o:Oper}{a:Act}{w:World}{R R':Value->World->Prop}(h:Ef P o a w R)(hr:∀ v w',R v w'->R' v w') : Ef P o a w R':=by
 unfold Ef at *
 generalize (execOp a.eval o).run P w=r at *
 cases r with
 | ok nx w'=>
  cases nx<;>simp only [EfU] at h ⊢
  case value u=>exact hr _ _ h
  case skip=>exact hr _ _ h
  case enter f args=>exact Calls.mono h fun e w'' ⟨v,he,hR⟩=>⟨v,he,hr _ _ hR⟩
  case row row args=>exact Rows.mono h hr
 | halt x w'=>simp only [EfU] at h
theorem Ef.of_ev{P:Program}{o:Oper}{a:Act}{w:World}{v:Value}(h:Ev P o a w v) : Ef P o a w fun u w1=>u=v/\w1=w:=Ef.of_run (h w (Below.refl _ _))
def Want(ops:Array Oper)(o:Oper)(e:List (Nat×Value)) : Prop:=
 match o.guard with
 | none=>True
 | some (j,b)=>∃ t b',(ops[j]?).bind (·.dst)=some t/\look t e=some (.bool b')/\b'=b
def notB:Value->Bool->Prop
 | .bool b',b=>b' = !b
 | _,_=>True
def Pass(ops:Array Oper)(o:Oper)(e:List (Nat×Value)) : Prop:=
 match o.guard with
 | none=>False
 | some (j,b)=>∃ t v,(ops[j]?).bind (·.dst)=some t/\look t e=some v/\notB v b
theorem bz(w:World) : Below w.heap.size w w:=Below.refl _ _
def WantC(ops:Array Oper)(o:Oper)(e:List (Nat×Value)) : Prop:=
 match o.guard with
 | none=>True
 | some (j,b)=>match (ops[j]?).bind (·.dst) with
  | some t=>match look t e with
   | some (.bool b')=>b'=b
   | _=>False
  | none=>False
def PassC(ops:Array Oper)(o:Oper)(e:List (Nat×Value)) : Prop:=
 match o.guard with
 | none=>False
 | some (j,b)=>match (ops[j]?).bind (·.dst) with
  | some t=>match look t e with
   | some v=>notB v b
   | none=>False
  | none=>False
theorem gW{ops:Array Oper}{o:Oper}{e:List (Nat×Value)}(h:WantC ops o e) : Want ops o e:=by
 unfold WantC at h
 unfold Want
 split
 ·trivial
 ·rename_i j b hg
  rw [hg] at h
  simp only at h
  split at h
  ·rename_i t ht
   split at h
   ·rename_i b' hb
    exact ⟨t,b',ht,hb,h⟩
   ·cases h
  ·cases h
theorem gP{ops:Array Oper}{o:Oper}{e:List (Nat×Value)}(h:PassC ops o e) : Pass ops o e:=by
 unfold PassC at h
 unfold Pass
 split
 ·rename_i hg
  rw [hg] at h
  exact h
 ·rename_i j b hg
  rw [hg] at h
  simp only at h
  split at h
  ·rename_i t ht
   split at h
   ·rename_i v hv
    exact ⟨t,v,ht,hv,h⟩
   ·cases h
  ·cases h
theorem Want.wanted{ops:Array Oper}{o:Oper}{a:Act}{n:Nat}{e:List (Nat×Value)}(h:Want ops o e)(hf:Fr a n e) : Region.wanted o (yielded ops a.tmps)=true:=by
 unfold Want at h
 unfold Region.wanted
 split at h
 ·rename_i hg;simp [hg]
 ·rename_i j b hg
  obtain ⟨t,b',h1,h2,h3⟩:=h
  simp only [hg]
  unfold yielded
  simp [h1,hf.h _ _ h2,h3]
theorem Pass.wanted{ops:Array Oper}{o:Oper}{a:Act}{n:Nat}{e:List (Nat×Value)}(h:Pass ops o e)(hf:Fr a n e) : Region.wanted o (yielded ops a.tmps)=false:=by
 unfold Pass at h
 unfold Region.wanted
 split at h
 ·cases h
 ·rename_i j b hg
  obtain ⟨t,v,h1,h2,h3⟩:=h
  simp only [hg]
  unfold yielded
  rw [h1,Qz,hf.h _ _ h2]
  cases v<;>first|rfl|(simp only [notB] at h3;subst h3;cases b<;>rfl)
section
variable {P : Program} {ops : Array Oper} {Q : Exit -> Act -> World -> Prop} {a : Act} {w : World} {rest : List Oper} {o : Oper} {n d : Nat} {e : List (Nat × Value)}
theorem Xjf{R:Value->World->Prop}(hf:Fr a n e)(hw:Want ops o e)(hd:o.dst=some d)(hn:Nat.blt d n=true)(hr:Ef P o a w R)
  (h:∀ a' v w',R v w'->Fr a' n ((d,v)::e)->wpList P ops Q rest a' w') : wpList P ops Q (o::rest) a w:=
 wpList_step fun K hK=>by
  rw [Q4 (hw.wanted hf)]
  exact hr.wp fun v w' hR=>hK _ _ (h _ v w' hR (by rw [hd];exact hf.put d v hn))
theorem Xu3{R:Value->World->Prop}(hf:Fr a n e)(hw:Want ops o e)(hd:o.dst=none)(hr:Ef P o a w R)
  (h:∀ a' v w',R v w'->Fr a' n e->wpList P ops Q rest a' w') : wpList P ops Q (o::rest) a w:=
 wpList_step fun K hK=>by
  rw [Q4 (hw.wanted hf)]
  exact hr.wp fun v w' hR=>hK _ _ (h _ v w' hR (by rw [hd];exact hf.put_none v))
theorem Xy5{v:Value}(hf:Fr a n e)(hw:Want ops o e)(hd:o.dst=some d)(hn:Nat.blt d n=true)(hr:Ev P o a w v)
  (h:∀ a',Fr a' n ((d,v)::e)->wpList P ops Q rest a' w) : wpList P ops Q (o::rest) a w:=
 Xjf hf hw hd hn (Ef.of_ev hr) fun a' v' w' hR hf'=>by
  obtain ⟨rfl,rfl⟩:=hR;exact h a' hf'
theorem Xwb(hf:Fr a n e)(hw:Pass ops o e)(hd:o.dst=some d)(hn:Nat.blt d n=true)
  (h:∀ a',Fr a' n ((d,undef)::e)->wpList P ops Q rest a' w) : wpList P ops Q (o::rest) a w:=
 wpList_step fun K hK=>by
  rw [Q3 (by rw [hw.wanted hf];simp)]
  exact hK _ _ (h _ (by rw [hd];exact hf.put d undef hn))
end
section
variable {P : Program} {ops : Array Oper} {Q : Exit -> Act -> World -> Prop} {a : Act} {w : World} {rest : List Oper} {op : Op} {ty : TypeId} {pos : String} {af : Array Edge} {n d : Nat} {e : List (Nat × Value)}
theorem l_e{v:Value}(hf:Fr a n e)(hn:Nat.blt d n=true)(hr:Ev P ⟨some d,op,ty,pos,af,none⟩ a w v)(h:∀ a',Fr a' n ((d,v)::e)->wpList P ops Q rest a' w) : wpList P ops Q (⟨some d,op,ty,pos,af,none⟩::rest) a w:=Xy5 hf trivial rfl hn hr h
theorem l_f{R:Value->World->Prop}(hf:Fr a n e)(hn:Nat.blt d n=true)(hr:Ef P ⟨some d,op,ty,pos,af,none⟩ a w R)(h:∀ a' v w',R v w'->Fr a' n ((d,v)::e)->wpList P ops Q rest a' w') : wpList P ops Q (⟨some d,op,ty,pos,af,none⟩::rest) a w:=Xjf hf trivial rfl hn hr h
theorem Y57{R:Value->World->Prop}(hf:Fr a n e)(hr:Ef P ⟨none,op,ty,pos,af,none⟩ a w R)(h:∀ a' v w',R v w'->Fr a' n e->wpList P ops Q rest a' w') : wpList P ops Q (⟨none,op,ty,pos,af,none⟩::rest) a w:=Xu3 hf trivial rfl hr h
theorem Y4j{x:Operand}{v:Value}(hf:Fr a n e)(hx:ev e x=some v)(hn:Nat.blt d n=true)(h:∀ a',Fr a' n ((d,v)::e)->wpList P ops Q rest a' w) : wpList P ops Q (⟨some d,.move x,ty,pos,af,none⟩::rest) a w:=l_e hf hn (fun w' _=>by simp [execOp,hf.ev hx]) h
theorem Y4a{x:Operand}{v:Value}(hf:Fr a n e)(hx:ev e x=some v)(hn:Nat.blt d n=true)(h:∀ a',Fr a' n ((d,v)::e)->wpList P ops Q rest a' w) : wpList P ops Q (⟨some d,.assign x,ty,pos,af,none⟩::rest) a w:=l_e hf hn (fun w' _=>by simp [execOp,hf.ev hx]) h
end
structure Only (b:Nat) (w w':World) : Prop where
 os:w'.os=w.os
 tape:w'.tape=w.tape
 output:w'.output=w.output
 size:w'.heap.size=w.heap.size
 block:∀ k,k≠b->w'.heap[k]? = w.heap[k]?
theorem Only.refl(b:Nat)(w:World) : Only b w w:=⟨rfl,rfl,rfl,rfl,fun _ _=>rfl⟩
theorem Only.trans{b:Nat}{w w' w'':World}(h:Only b w w')(k:Only b w' w'') : Only b w w'':=
 ⟨k.os.trans h.os,k.tape.trans h.tape,k.output.trans h.output,k.size.trans h.size,fun i hi=>(k.block i hi).trans (h.block i hi)⟩
structure Kept (b B:Nat) (w w':World) : Prop where
 os:w'.os=w.os
 tape:w'.tape=w.tape
 output:w'.output=w.output
 size:w.heap.size<=w'.heap.size
 block:∀ k,k<B->k≠b->w'.heap[k]? = w.heap[k]?
theorem Kept.refl(b B:Nat)(w:World) : Kept b B w w:=⟨rfl,rfl,rfl,Qb _,fun _ _ _=>rfl⟩
theorem Kept.of_below{b B:Nat}{w w':World}(h:Below B w w') : Kept b B w w':=⟨h.os,h.tape,h.output,h.size,fun k hk _=>h.block k hk⟩
theorem Kept.trans{b B:Nat}{w w' w'':World}(h:Kept b B w w')(k:Below B w' w'') : Kept b B w w'':=
 ⟨k.os.trans h.os,k.tape.trans h.tape,k.output.trans h.output,Q0 h.size k.size,fun i hi hn=>(k.block i hi).trans (h.block i hi hn)⟩
theorem Kept.transK{b B:Nat}{w w' w'':World}(h:Kept b B w w')(k:Kept b B w' w'') : Kept b B w w'':=
 ⟨k.os.trans h.os,k.tape.trans h.tape,k.output.trans h.output,Q0 h.size k.size,fun i hi hn=>(k.block i hi hn).trans (h.block i hi hn)⟩
theorem Kept.mono{b B B':Nat}{w w':World}(h:Kept b B w w')(hB:B'<=B) : Kept b B' w w':=⟨h.os,h.tape,h.output,h.size,fun k hk=>h.block k (Nat.lt_of_lt_of_le hk hB)⟩
theorem Kept.oy{b b' B:Nat}{w w' w'':World}(h:Kept b B w w')(ho:Only b' w' w'')(hB:B<=b') : Kept b B w w'':=
 h.trans ⟨ho.os,ho.tape,ho.output,by rw [ho.size];exact Qb _,fun k hk=>ho.block k (by omega)⟩
theorem Kept.self{b B:Nat}{w w' w'':World}(h:Kept b B w w')(ho:Only b w' w'') : Kept b B w w'':=
 h.transK ⟨ho.os,ho.tape,ho.output,by rw [ho.size];exact Qb _,fun k _ hk=>ho.block k hk⟩
theorem Kept.mid{b:Nat}{w w':World}(h:Kept b w.heap.size w w') : ∃ w1,Only b w w1/\(b<w.heap.size->w1.heap[b]? = w'.heap[b]?)/\Below w1.heap.size w1 w':=by
 cases hb:w'.heap[b]? with
 | none=>
  have hlt:w.heap.size<=b:=Q0 h.size (Array.getElem?_eq_none_iff.1 hb)
  refine ⟨w,Only.refl _ _,fun h'=>by omega,⟨h.os,h.tape,h.output,h.size,fun k hk=>h.block k hk (by omega)⟩⟩
 | some o=>
  refine ⟨{ w with heap:=w.heap.setIfInBounds b o },⟨rfl,rfl,rfl,by simp,fun k hk=>?_⟩,fun h'=>?_,⟨h.os,h.tape,h.output,by simpa using h.size,fun k hk=>?_⟩⟩
  ·show (w.heap.setIfInBounds b o)[k]? = _
   rw [Wh (Ne.symm hk)]
  ·show (w.heap.setIfInBounds b o)[b]? = _
   simp [h']
  ·have hk':k<w.heap.size:=by simpa using hk
   show _=(w.heap.setIfInBounds b o)[k]?
   by_cases hkb:k=b
   ·subst hkb
    simp [hk',hb]
   ·rw [Wh (Ne.symm hkb)]
    exact h.block k hk' hkb
theorem btr{w0 w w':World}(h:Below w0.heap.size w0 w)(hE:Below w.heap.size w w') : Below w0.heap.size w0 w':=h.trans (hE.mono h.size)
theorem ktr{b:Nat}{w0 w w':World}(h:Kept b w0.heap.size w0 w)(hE:Below w.heap.size w w') : Kept b w0.heap.size w0 w':=h.trans (hE.mono h.size)
inductive Vk
 | but (b:Nat)
 | base (N:Nat)
instance:Coe Nat Vk:=⟨Vk.but⟩
def Keep(V:Option Vk)(w w':World) : Prop:=match V with
 | none=>Below w.heap.size w w'
 | some (.but b)=>∃ w1,Only b w w1/\Below w.heap.size w1 w'
 | some (.base N)=>Below (min N w.heap.size) w w'
theorem Keep.refl(V:Option Vk)(w:World) : Keep V w w:=by
 cases V with
 | none=>exact Below.refl _ _
 | some b=>cases b with
  | but b=>exact ⟨w,Only.refl _ _,Below.refl _ _⟩
  | base N=>exact Below.refl _ _
theorem Keep.kept{b:Nat}{w w':World}(h:Keep (some b) w w') : Kept b w.heap.size w w':=by
 obtain ⟨w1,h1,h2⟩:=h;exact (Kept.self (Kept.refl b w.heap.size w) h1).trans h2
theorem Kept.keep{b:Nat}{w w':World}(h:Kept b w.heap.size w w') : Keep (some b) w w':=by
 obtain ⟨w1,h1,_,h2⟩:=h.mid;exact ⟨w1,h1,by rw [<- h1.size];exact h2⟩
theorem Keep.of_below{V:Option Vk}{w w':World}(h:Below w.heap.size w w') : Keep V w w':=by
 cases V with
 | none=>exact h
 | some b=>cases b with
  | but b=>exact ⟨w,Only.refl _ _,h⟩
  | base N=>exact Below.mono h (Nat.min_le_right _ _)
theorem Keep.trans{V:Option Vk}{w w' w'':World}(h:Keep V w w')(k:Keep V w' w'') : Keep V w w'':=by
 cases V with
 | none=>exact Below.trans h (Below.mono k h.size)
 | some b=>cases b with
  | but b=>exact (h.kept.transK (k.kept.mono h.kept.size)).keep
  | base N=>exact Below.trans h (Below.mono k (by have:=h.size;omega))
section
variable {P : Program} {ops : Array Oper} {Q : Act -> World -> Prop} {tl : Nat -> Bool} {V : Option Vk}
def wpR(P:Program)(ops:Array Oper)(V:Option Vk)(tl:Nat->Bool)(i:Nat)(K:Act->World->Prop)(a:Act)(w:World) : Prop:=
 match ops[i]? with
 | none=>K a w
 | some o=>if Region.wanted o (yielded ops a.tmps) then Ef P o a w (fun v w'=>(tl i=false->Keep V w w')/\K (a.put o.dst v) w') else K (a.put o.dst undef) w
def wpS(P:Program)(ops:Array Oper)(V:Option Vk)(tl:Nat->Bool)(Q:Act->World->Prop) : Nat->Array Bool->Act->World->Prop
 | 0,listed,a,w=>Region.ready .any ops listed=[]/\Q a w
 | fuel+1,listed,a,w=>(Region.ready .any ops listed=[]->Q a w)/\∀ i ∈ Region.ready .any ops listed,wpR P ops V tl i (wpS P ops V tl Q fuel (listed.setIfInBounds i true)) a w
theorem Xly{i:Nat}{K K':Act->World->Prop}{a:Act}{w:World}(h:∀ a w,K a w->K' a w)(hh:wpR P ops V tl i K a w) : wpR P ops V tl i K' a w:=by
 unfold wpR at *
 split
 ·exact h _ _ (by simpa [*] using hh)
 ·rename_i o ho
  simp only [ho] at hh
  split
  ·rename_i hw
   simp only [hw,if_true] at hh
   exact hh.mono fun v w' ⟨h1,h2⟩=>⟨h1,h _ _ h2⟩
  ·rename_i hw
   simp only [hw] at hh
   exact h _ _ hh
theorem X2o{Q':Exit->Act->World->Prop}(hQ:∀ a w,Q a w->Q' .normal a w) : ∀ (fuel:Nat) (listed:Array Bool) (a:Act) (w:World),wpS P ops V tl Q fuel listed a w->wpAny P .any ops Q' fuel listed a w
 | 0,_,_,_,h=>⟨h.1,hQ _ _ h.2⟩
 | fuel+1,listed,a,w,h=>by
  refine ⟨fun h0=>hQ _ _ (h.1 h0),fun i hi=>?_⟩
  have h1:=h.2 i hi
  unfold wpR at h1
  unfold wpOp
  split
  ·rename_i ho;simp only [ho] at h1;exact X2o hQ fuel _ _ _ h1
  ·rename_i o ho
   simp only [ho] at h1
   split
   ·rename_i hw
    simp only [hw,if_true] at h1
    exact .inl (h1.wp fun v w' hR=>X2o hQ fuel _ _ _ hR.2)
   ·rename_i hw
    simp only [hw] at h1
    exact X2o hQ fuel _ _ _ h1
def YC(P:Program)(ops:Array Oper)(C:World->Prop)(o:Oper)(v:Value)(a:Act) : Prop:=
 (Region.wanted o (yielded ops a.tmps)=true/\∀ w,C w->(execOp a.eval o).run P w=.ok (.value v) w)∨(Region.wanted o (yielded ops a.tmps)=false/\v=undef)
theorem YC.of_same{C:World->Prop}{o:Oper}{v:Value}{a a':Act}(hy:YC P ops C o v a)(he:execOp a'.eval o=execOp a.eval o)
  (hw:Region.wanted o (yielded ops a'.tmps)=Region.wanted o (yielded ops a.tmps)) : YC P ops C o v a':=by
 unfold YC at *
 rw [he,hw]
 exact hy
theorem YC.wpR{C:World->Prop}{i:Nat}{o:Oper}{v:Value}{a:Act}{w:World}(hi:ops[i]? = some o)(hC:C w)(hy:YC P ops C o v a){K:Act->World->Prop}(h:K (a.put o.dst v) w) : wpR P ops V tl i K a w:=by
 unfold YtpifljegadknkaaGreat.wpR
 simp only [hi]
 rcases hy with ⟨hw,hv⟩|⟨hw,rfl⟩
 ·simp only [hw,if_true]
  exact (Ef.of_run (hv w hC)).mono fun u w' ⟨e1,e2⟩=>by subst e1;subst e2;exact ⟨fun _=>Keep.refl _ _,h⟩
 ·simp only [hw,Bool.false_eq_true,if_false];exact h
theorem Xuv{oi oj:Oper}{v:Value}(h1:∀ d,oi.dst=some d->d ∉ oj.looksAt ops)(hsj:∀ cs b,oj.op≠.select cs b)
  {a:Act} {w:World} {R:Value->World->Prop} (h:Ef P oj (a.put oi.dst v) w R) : Ef P oj a w R:=by
 unfold Ef at *
 rwa [execOp_put oj hsj a oi.dst v h1] at h
theorem Xpa{C:World->Prop}{j:Nat}{oi oj:Oper}{v:Value}(hj:ops[j]? = some oj)(hap:oi.apart ops oj=true)
  (hsi:∀ cs b,oi.op≠.select cs b) (hsj:∀ cs b,oj.op≠.select cs b) (hC:∀ w w',C w->(tl j=false->Keep V w w')->C w') {K:Act->World->Prop} {a:Act} {w:World} (hw0:C w)
  (hy:YC P ops C oi v a) (h:wpR P ops V tl j K (a.put oi.dst v) w) : wpR P ops V tl j (fun a' w'=>C w'/\YC P ops C oi v a'/\K (a'.put oi.dst v) w') a w:=by
 obtain ⟨h1,h2,h3⟩:=Oper.apart_spec hap
 have keep:∀ (a:Act),YC P ops C oi v a->∀ u,YC P ops C oi v (a.put oj.dst u):=fun a hy u=>
  hy.of_same (execOp_put oi hsi a oj.dst u h3) (wanted_put oi a oj.dst u h3)
 unfold wpR at *
 simp only [hj] at *
 rw [wanted_put oj a oi.dst v h1] at h
 split
 ·rename_i hw
  simp only [hw,if_true] at h
  exact (Xuv h1 hsj h).mono fun u w' ⟨hb,hk⟩=>⟨hb,hC w w' hw0 hb,keep a hy u,by rw [<- Act.put_comm a v u h2];exact hk⟩
 ·rename_i hw
  simp only [hw] at h
  exact ⟨hw0,keep a hy _,by rw [<- Act.put_comm a v undef h2];exact h⟩
def Closed(ops:Array Oper)(listed:Array Bool) : Prop:=∀ k ok,ops[k]? = some ok->listed.getD k false=true->∀ e ∈ ok.after,Region.binds .any e=true->listed.getD e.on false=true
theorem X65{listed:Array Bool}{j k:Nat}(h:listed.getD k false=true) : (listed.setIfInBounds j true).getD k false=true:=by
 rcases W4 k listed.size with hk|hk
 ·by_cases hjk:j=k
  ·subst hjk;simp [hk]
  ·simpa [hk,Array.getElem_setIfInBounds_ne _ hjk] using h
 ·simp [We hk] at h
theorem Closed.set{listed:Array Bool}{j:Nat}{oj:Oper}(h:Closed ops listed)(hj:ops[j]? = some oj)(hall:∀ e ∈ oj.after,Region.binds .any e=true->listed.getD e.on false=true) : Closed ops (listed.setIfInBounds j true):=fun k ok hk hl e he hb=>by
 by_cases hjk:j=k
 ·subst hjk
  rw [hj] at hk
  injection hk with hk
  subst hk
  exact X65 (hall e he hb)
 ·rw [getD_set_ne false hjk] at hl
  exact X65 (h k ok hk hl e he hb)
def reach(ops:Array Oper)(i:Nat) : Nat->Nat->Bool
 | 0,_=>false
 | f+1,j=>match ops[j]? with
  | some oj=>oj.after.any fun e=>Region.binds .any e&&(e.on==i||reach ops i f e.on)
  | none=>false
theorem X7k{listed:Array Bool}{i:Nat}(hcl:Closed ops listed) : ∀ (f j:Nat) (oj:Oper),ops[j]? = some oj->(∀ e ∈ oj.after,Region.binds .any e=true->listed.getD e.on false=true)->reach ops i f j=true->listed.getD i false=true
 | 0,_,_,_,_,h=>by cases h
 | f+1,j,oj,hj,hall,h=>by
  simp only [reach,hj] at h
  obtain ⟨e,he,hb⟩:=Array.any_eq_true'.1 h
  simp only [Qd,Bool.or_eq_true,beq_iff_eq] at hb
  have h1:=hall e he hb.1
  rcases hb.2 with h2|h2
  ·rw [<- h2];exact h1
  ·cases hk:ops[e.on]? with
   | none=>
    cases f with
    | zero=>cases h2
    | succ f=>simp only [reach,hk] at h2;cases h2
   | some ok=>exact X7k hcl f e.on ok hk (hcl e.on ok hk h1) h2
theorem X7r{C:World->Prop}{i:Nat}{oi:Oper}{v:Value}(hi:ops[i]? = some oi)(hsel:∀ (j:Nat) (o:Oper) cs b,ops[j]? = some o->o.op≠.select cs b)
  (hC:∀ j oj,ops[j]? = some oj->(∀ listed,Closed ops listed->(∀ e ∈ oj.after,Region.binds .any e=true->listed.getD e.on false=true)->listed.getD i true=false->∀ w w',C w->(tl j=false->Keep V w w')->C w')) :
  ∀ (fuel:Nat) (listed:Array Bool) (a:Act) (w:World),Closed ops listed->
   (∀ j oj,ops[j]? = some oj->j≠i->listed.getD j true=false->(∀ e ∈ oj.after,Region.binds .any e=true->e.on≠i)->oi.apart ops oj=true)->
   i ∈ Region.ready .any ops listed->C w->YC P ops C oi v a->
   wpS P ops V tl Q fuel (listed.setIfInBounds i true) (a.put oi.dst v) w->wpS P ops V tl Q (fuel+1) listed a w:=by
 intro fuel
 induction fuel with
 | zero=>
  intro listed a w _ _ hr hw hy H
  refine ⟨fun h=>(by rw [h] at hr;cases hr),fun j hj=>?_⟩
  by_cases hji:j=i
  ·subst hji;exact hy.wpR hi hw H
  ·have:=ready_mono hj hji
   rw [H.1] at this
   cases this
 | succ fuel ih=>
  intro listed a w hcl hfree hr hw hy H
  refine ⟨fun h=>(by rw [h] at hr;cases hr),fun j hj=>?_⟩
  by_cases hji:j=i
  ·subst hji;exact hy.wpR hi hw H
  ·have h1:=H.2 j (ready_mono hj hji);obtain ⟨hjun,oj,hoj,hall⟩:=mem_ready.1 hj
   have hnot:∀ e ∈ oj.after,Region.binds .any e=true->e.on≠i:=fun e he hb heq=>by
    have h1:=hall e he hb;have h0:=(mem_ready.1 hr).1
    rw [heq] at h1
    rcases W4 i listed.size with h'|h'
    ·simp [h'] at h0 h1;rw [h0] at h1;cases h1
    ·simp [We h'] at h1
   have h2:=Xpa hoj (hfree j oj hoj hji hjun hnot) (fun cs b=>hsel i oi cs b hi) (fun cs b=>hsel j oj cs b hoj) (hC j oj hoj listed hcl hall (mem_ready.1 hr).1) hw hy h1
   have hfree':∀ k ok,ops[k]? = some ok->k≠i->(listed.setIfInBounds j true).getD k true=false->
     (∀ e ∈ ok.after,Region.binds .any e=true->e.on≠i)->oi.apart ops ok=true:=fun k ok hk hki hun hno=>by
    refine hfree k ok hk hki ?_ hno
    by_cases hjk:j=k
    ·subst hjk;exact hjun
    ·rw [getD_set_ne true hjk] at hun;exact hun
   refine Xly (fun a' w' h3=>ih (listed.setIfInBounds j true) a' w' (hcl.set hoj hall) hfree' (ready_mono hr (Ne.symm hji)) h3.1 h3.2.1 ?_) h2
   rw [Array.setIfInBounds_comm _ _ hji]
   exact h3.2.2
def mask(ops:Array Oper)(done:List Nat) : Array Bool:=(Array.range ops.size).map fun i=>done.contains i
theorem X59(ops:Array Oper)(done:List Nat)(i:Nat) : (mask ops done).setIfInBounds i true=mask ops (i::done):=by
 apply Array.ext
 ·simp [mask]
 ·intro k h1 h2
  simp only [mask,Array.size_setIfInBounds,Array.size_map,Array.size_range] at h1
  by_cases hk:i=k
  ·subst hk
   simp [mask]
  ·have hk':¬ k=i:=fun h=>hk h.symm
   rw [Array.getElem_setIfInBounds_ne (by simpa [mask] using h1) hk]
   simp [mask,hk']
theorem Xcd(ops:Array Oper) : Array.replicate ops.size false=mask ops []:=by
 apply Array.ext<;>simp [mask]
def closedB(ops:Array Oper)(done:List Nat) : Bool:=done.all fun k=>match ops[k]? with
 | some ok=>ok.after.all fun e=>!(Region.binds .any e)||done.contains e.on&&Nat.blt e.on ops.size
 | none=>true
def mayFirst(ops:Array Oper)(done:List Nat)(i:Nat) : Bool:=
 Region.noSelect ops&&Region.free .any ops (mask ops done) i&&(Region.ready .any ops (mask ops done)).contains i&&closedB ops done
theorem X9t{done:List Nat}{k:Nat}(d:Bool)(h:k<ops.size) : (mask ops done).getD k d=done.contains k:=by
 simp [mask,h]
theorem mask_getD'{done:List Nat}{k:Nat}(h:(mask ops done).getD k false=true) : done.contains k=true:=by
 rcases W4 k ops.size with h'|h'
 ·rwa [X9t false h'] at h
 ·simp [mask,h'] at h
theorem X4l{done:List Nat}(h:closedB ops done=true) : Closed ops (mask ops done):=fun k ok hk hl e he hb=>by
 have h1:=mask_getD' hl
 simp only [closedB,W1] at h
 have h2:=h k (by simpa using h1)
 simp only [hk] at h2
 have h3:=Array.all_eq_true'.1 h2 e he
 simp only [hb,Bool.not_true,Bool.false_or,Qd] at h3
 have h4:e.on<ops.size:=by simpa [Nat.blt_eq] using h3.2
 rw [X9t false h4]
 exact h3.1
def tailWaits(ops:Array Oper)(tl:Nat->Bool)(i:Nat) : Bool:=
 (List.range ops.size).all fun j=>!tl j||reach ops i 9 j
theorem X8z{i:Nat}(h:tailWaits ops tl i=true)(j:Nat)(oj:Oper)(hj:ops[j]? = some oj){listed:Array Bool}(hcl:Closed ops listed)(hall:∀ e ∈ oj.after,Region.binds .any e=true->listed.getD e.on false=true)(hi:listed.getD i true=false) : tl j=false:=by
 simp only [tailWaits,W1,W2] at h
 have h1:=h j (Qp.1 hj).1
 simp only [Bool.or_eq_true,Bool.not_eq_true'] at h1
 rcases h1 with h1|h1
 ·exact h1
 ·have h2:=X7k hcl 9 j oj hj hall h1
  rcases W4 i listed.size with h'|h'
  ·simp [h'] at h2 hi;rw [h2] at hi;cases hi
  ·simp [h'] at h2
section
variable {a : Act} {w : World} {n d fuel : Nat} {e : List (Nat × Value)} {o : Oper} {done : List Nat}
theorem Xjd(i:Nat){v:Value}(hi:ops[i]? = some o)(hm:mayFirst ops done i=true)(ht:tailWaits ops tl i=true)(hf:Fr a n e)(hw:Want ops o e)(hd:o.dst=some d)(hn:Nat.blt d n=true)
  (hr:∀ w',Keep V w w'->(execOp a.eval o).run P w'=.ok (.value v) w') (h:∀ a',Fr a' n ((d,v)::e)->wpS P ops V tl Q fuel (mask ops (i::done)) a' w) : wpS P ops V tl Q (fuel+1) (mask ops done) a w:=by
 simp only [mayFirst,Qd] at hm
 refine X7r (C:=fun w'=>Keep V w w') hi (Region.noSelect_spec hm.1.1.1) (fun j oj hj lst hcl hall hun w1 w2 h1 h2=>?_) fuel _ a w (X4l hm.2) (Region.free_spec hi hm.1.1.2) (by simpa using hm.1.2) (Keep.refl _ _) (.inl ⟨hw.wanted hf,hr⟩) ?_
 ·exact h1.trans (h2 (X8z ht j oj hj hcl hall hun))
 ·rw [X59]
  exact h _ (by rw [hd];exact hf.put d v hn)
theorem Xy4(i:Nat){v:Value}(hi:ops[i]? = some o)(hm:mayFirst ops done i=true)(ht:tailWaits ops tl i=true)(hf:Fr a n e)(hw:Want ops o e)(hd:o.dst=some d)(hn:Nat.blt d n=true)
  (hr:Ev P o a w v) (h:∀ a',Fr a' n ((d,v)::e)->wpS P ops none tl Q fuel (mask ops (i::done)) a' w) : wpS P ops none tl Q (fuel+1) (mask ops done) a w:=Xjd i hi hm ht hf hw hd hn hr h
theorem Xzd(i:Nat){b:Nat}{v:Value}(hi:ops[i]? = some o)(hm:mayFirst ops done i=true)(ht:tailWaits ops tl i=true)(hf:Fr a n e)(hw:Want ops o e)(hd:o.dst=some d)(hn:Nat.blt d n=true)
  (hr:∀ w1,Only b w w1->Ev P o a w1 v) (h:∀ a',Fr a' n ((d,v)::e)->wpS P ops (some b) tl Q fuel (mask ops (i::done)) a' w) : wpS P ops (some b) tl Q (fuel+1) (mask ops done) a w:=
 Xjd i hi hm ht hf hw hd hn (fun w' ⟨w1,h1,h2⟩=>hr w1 h1 w' (by rw [h1.size];exact h2)) h
theorem Y3w(i:Nat){N:Nat}{v:Value}(hi:ops[i]? = some o)(hm:mayFirst ops done i=true)(ht:tailWaits ops tl i=true)(hf:Fr a n e)(hw:Want ops o e)(hd:o.dst=some d)(hn:Nat.blt d n=true)(hN:N<=w.heap.size)
  (hr:∀ w1,Below N w w1->Ev P o a w1 v) (h:∀ a',Fr a' n ((d,v)::e)->wpS P ops (some (.base N)) tl Q fuel (mask ops (i::done)) a' w) : wpS P ops (some (.base N)) tl Q (fuel+1) (mask ops done) a w:=
 Xjd i hi hm ht hf hw hd hn (fun w' h1=>hr w' (Below.mono h1 (by omega)) w' (Below.refl _ _)) h
theorem Xiw(i:Nat){v:Value}(hi:ops[i]? = some o)(hm:mayFirst ops done i=true)(hf:Fr a n e)(hw:Want ops o e)(hd:o.dst=some d)(hn:Nat.blt d n=true)
  (hr:∀ w,Ev P o a w v) (h:∀ a',Fr a' n ((d,v)::e)->wpS P ops V tl Q fuel (mask ops (i::done)) a' w) : wpS P ops V tl Q (fuel+1) (mask ops done) a w:=by
 simp only [mayFirst,Qd] at hm
 refine X7r (C:=fun _=>True) hi (Region.noSelect_spec hm.1.1.1) (fun _ _ _ _ _ _ _ _ _ _ _=>trivial) fuel _ a w (X4l hm.2) (Region.free_spec hi hm.1.1.2) (by simpa using hm.1.2) trivial (.inl ⟨hw.wanted hf,fun w' _=>hr w' w' (Below.refl _ _)⟩) ?_
 rw [X59]
 exact h _ (by rw [hd];exact hf.put d v hn)
theorem Xx6(i:Nat)(hi:ops[i]? = some o)(hm:mayFirst ops done i=true)(hf:Fr a n e)(hw:Pass ops o e)(hd:o.dst=some d)(hn:Nat.blt d n=true)
  (h:∀ a',Fr a' n ((d,undef)::e)->wpS P ops V tl Q fuel (mask ops (i::done)) a' w) : wpS P ops V tl Q (fuel+1) (mask ops done) a w:=by
 simp only [mayFirst,Qd] at hm
 refine X7r (C:=fun _=>True) hi (Region.noSelect_spec hm.1.1.1) (fun _ _ _ _ _ _ _ _ _ _ _=>trivial) fuel _ a w (X4l hm.2) (Region.free_spec hi hm.1.1.2) (by simpa using hm.1.2) trivial (.inr ⟨hw.wanted hf,rfl⟩) ?_
 rw [X59]
 exact h _ (by rw [hd];exact hf.put d undef hn)
theorem s_e{op:Op}{ty:TypeId}{pos:String}{af:Array Edge}(i:Nat){v:Value}(hi:ops[i]? = some ⟨some d,op,ty,pos,af,none⟩)(hm:mayFirst ops done i=true)(ht:tailWaits ops tl i=true)(hf:Fr a n e)(hn:Nat.blt d n=true)
  (hr:Ev P ⟨some d,op,ty,pos,af,none⟩ a w v) (h:∀ a',Fr a' n ((d,v)::e)->wpS P ops none tl Q fuel (mask ops (i::done)) a' w) : wpS P ops none tl Q (fuel+1) (mask ops done) a w:=Xy4 i hi hm ht hf trivial rfl hn hr h
theorem Y47{op:Op}{ty:TypeId}{pos:String}{af:Array Edge}(i:Nat){v:Value}(hi:ops[i]? = some ⟨some d,op,ty,pos,af,none⟩)(hm:mayFirst ops done i=true)(hf:Fr a n e)(hn:Nat.blt d n=true)
  (hr:∀ w,Ev P ⟨some d,op,ty,pos,af,none⟩ a w v) (h:∀ a',Fr a' n ((d,v)::e)->wpS P ops V tl Q fuel (mask ops (i::done)) a' w) : wpS P ops V tl Q (fuel+1) (mask ops done) a w:=Xiw i hi hm hf trivial rfl hn hr h
theorem Y0v(i:Nat)(hr:Region.ready .any ops (mask ops done)=[i])(h:wpR P ops V tl i (wpS P ops V tl Q fuel (mask ops (i::done))) a w) : wpS P ops V tl Q (fuel+1) (mask ops done) a w:=by
 refine ⟨fun h0=>(by rw [hr] at h0;cases h0),fun j hj=>?_⟩
 rw [hr] at hj
 obtain rfl:j=i:=by simpa using hj
 rw [X59]
 exact h
theorem Y3a(i j:Nat)(hr:Region.ready .any ops (mask ops done)=[i,j])(hi:wpR P ops V tl i (wpS P ops V tl Q fuel (mask ops (i::done))) a w)
  (hj:wpR P ops V tl j (wpS P ops V tl Q fuel (mask ops (j::done))) a w) : wpS P ops V tl Q (fuel+1) (mask ops done) a w:=by
 refine ⟨fun h0=>(by rw [hr] at h0;cases h0),fun k hk=>?_⟩
 rw [hr] at hk
 rw [X59]
 simp only [Qv,List.not_mem_nil,or_false] at hk
 rcases hk with rfl|rfl
 ·exact hi
 ·exact hj
def sameL(L D:List Nat) : Bool:=L.all D.contains&&D.all L.contains
theorem Xhp{L D:List Nat}(h:sameL L D=true) : mask ops L=mask ops D:=by
 unfold mask
 apply Array.map_congr_left
 intro i _
 unfold sameL at h
 rw [Qd] at h
 rw [Bool.eq_iff_iff,List.contains_iff_mem,List.contains_iff_mem]
 exact ⟨fun hi=>List.contains_iff_mem.1 (W1.1 h.1 i hi),fun hi=>List.contains_iff_mem.1 (W1.1 h.2 i hi)⟩
theorem Xuo(hr:Region.ready .any ops (mask ops done)=[])(h:Q a w) : wpS P ops V tl Q fuel (mask ops done) a w:=by
 cases fuel with
 | zero=>exact ⟨hr,h⟩
 | succ f=>exact ⟨fun _=>h,fun j hj=>by rw [hr] at hj;cases hj⟩
theorem Xys{i:Nat}{K:Act->World->Prop}{R:Value->World->Prop}(hi:ops[i]? = some o)(hf:Fr a n e)(hw:Want ops o e)(hd:o.dst=some d)(hn:Nat.blt d n=true)
  (hr:Ef P o a w fun v w'=>(tl i=false->Keep V w w')/\R v w') (h:∀ a' v w',R v w'->Fr a' n ((d,v)::e)->K a' w') : wpR P ops V tl i K a w:=by
 unfold wpR
 simp only [hi]
 rw [Q4 (hw.wanted hf)]
 exact hr.mono fun v w' ⟨h1,h2⟩=>⟨h1,h _ v w' h2 (by rw [hd];exact hf.put d v hn)⟩
theorem Xxj{i:Nat}{K:Act->World->Prop}{R:Value->World->Prop}(hi:ops[i]? = some o)(hf:Fr a n e)(hw:Want ops o e)(hd:o.dst=none)
  (hr:Ef P o a w fun v w'=>(tl i=false->Keep V w w')/\R v w') (h:∀ a' v w',R v w'->Fr a' n e->K a' w') : wpR P ops V tl i K a w:=by
 unfold wpR
 simp only [hi]
 rw [Q4 (hw.wanted hf)]
 exact hr.mono fun v w' ⟨h1,h2⟩=>⟨h1,h _ v w' h2 (by rw [hd];exact hf.put_none v)⟩
theorem Xu7{i:Nat}{K:Act->World->Prop}(hi:ops[i]? = some o)(hf:Fr a n e)(hw:Pass ops o e)(hd:o.dst=some d)(hn:Nat.blt d n=true)
  (h:∀ a',Fr a' n ((d,undef)::e)->K a' w) : wpR P ops V tl i K a w:=by
 unfold wpR
 simp only [hi]
 rw [Q3 (by rw [hw.wanted hf];simp)]
 exact h _ (by rw [hd];exact hf.put d undef hn)
theorem X04(V:Option Vk)(tl:Nat->Bool){id:Nat}{l:List Oper}{Q':Exit->Act->World->Prop}(hm:P.follows .mixedOrders=true)
  (h:∀ w',Below w.heap.size w w'->wpS P l.toArray V tl (Q' .normal) l.length (mask l.toArray []) a w') : (Code.region id l.toArray true).wp P Q' a w:=by
 refine wp_region_any hm ?_
 rw [Xcd]
 exact X2o (fun _ _ h=>h) _ _ _ _ (by simpa using h w.drew (Below.refl _ _).drew)
end
end
abbrev Env:=List (Nat×Value)
def At(w:World)(p:Addr)(l:List Value) : Prop:=∀ j v,l[j]? = some v->w.cell? (p.add j)=some v
def Blk(w:World)(b:Nat)(T:TypeId)(l:List Value) : Prop:=w.heap[b]? = some (.cells l.toArray T (0,0))
theorem X7d(p:Addr)(i j:Nat) : (p.add i).add j=p.add (i+j):=by
 unfold Addr.add
 by_cases hi:i=0<;>by_cases hj:j=0<;>simp [hi,hj,Nat.add_assoc]
theorem X6h(p:Addr)(i:Nat) : (p.add i).block=p.block:=by unfold Addr.add;split<;>rfl
theorem X1s(b off i:Nat) : (Addr.mk b off none).add i=⟨b,off+i,none⟩:=by
 unfold Addr.add
 by_cases hi:i=0<;>simp [hi]
theorem Xfs{w:World}{p:Addr}{v:Value}(h:w.cell? p=some v) : p.block<w.heap.size:=by
 rcases W4 p.block w.heap.size with h'|h'
 ·exact h'
 ·simp [World.cell?,We h'] at h
theorem At.bw{w w':World}{p:Addr}{l:List Value}(h:At w p l)(hb:Below w.heap.size w w') : At w' p l:=by
 intro j v hj
 have:=h j v hj
 rw [hb.cell (Xfs this)]
 exact this
theorem At.drop{w:World}{p:Addr}{l:List Value}(h:At w p l)(k:Nat) : At w (p.add k) (l.drop k):=by
 intro j v hj
 rw [X7d]
 exact h (k+j) v (by rw [<- hj,List.getElem?_drop])
theorem At.take{w:World}{p:Addr}{l:List Value}(h:At w p l)(k:Nat) : At w p (l.take k):=by
 intro j v hj;refine h j v ?_
 rw [List.getElem?_take] at hj
 split at hj
 ·exact hj
 ·cases hj
theorem At.nil(w:World)(p:Addr) : At w p []:=fun j v h=>by simp at h
theorem Blk.lt{w:World}{b:Nat}{T:TypeId}{l:List Value}(h:Blk w b T l) : b<w.heap.size:=by
 rcases W4 b w.heap.size with h'|h'
 ·exact h'
 ·simp [Blk,We h'] at h
theorem Blk.cell{w:World}{b:Nat}{T:TypeId}{l:List Value}(h:Blk w b T l)(k:Nat) : w.cell? ⟨b,k,none⟩=l[k]?:=by
 unfold Blk at h
 simp [World.cell?,h]
theorem Blk.at{w:World}{b:Nat}{T:TypeId}{l:List Value}(h:Blk w b T l)(k:Nat) : At w ⟨b,k,none⟩ (l.drop k):=by
 intro j v hj
 rw [X1s,h.cell,<- hj,List.getElem?_drop]
theorem Blk.bw{w w':World}{b:Nat}{T:TypeId}{l:List Value}(h:Blk w b T l)(hb:Below w.heap.size w w') : Blk w' b T l:=(hb.block b h.lt).trans h
theorem Blk.oy{w w':World}{b b':Nat}{T:TypeId}{l:List Value}(h:Blk w b T l)(ho:Only b' w w')(hne:b≠b') : Blk w' b T l:=(ho.block b hne).trans h
theorem Blk.drew{w:World}{b:Nat}{T:TypeId}{l:List Value}(h:Blk w b T l) : Blk w.drew b T l:=h
theorem Blk.ne{w:World}{b b':Nat}{T T':TypeId}{l l':List Value}(h:Blk w b T l)(h':Blk w b' T' l')(hT:Nat.beq T T'=false) : b≠b':=by
 rintro rfl
 unfold Blk at h h'
 rw [h] at h'
 injection h' with h'
 injection h' with _ e
 subst e
 simp at hT
theorem Blk.oz{w w' : World}{b b' : Nat}{T T' : TypeId}{l l' : List Value}(h : Blk w b T l)(ho : Only b' w w')(h' : Blk w b' T' l')(hT : Nat.beq T T' = false) : Blk w' b T l:=h.oy ho (Blk.ne h h' hT)
theorem Below.oy{B b:Nat}{w0 w w':World}(h:Below B w0 w)(ho:Only b w w')(hB:B<=b) : Below B w0 w':=
 h.trans ⟨ho.os,ho.tape,ho.output,by rw [ho.size];exact Qb _,fun k hk=>ho.block k (by omega)⟩
theorem At.oy{w w':World}{b:Nat}{p:Addr}{l:List Value}(h:At w p l)(ho:Only b w w')(hne:p.block≠b) : At w' p l:=by
 intro j v hj
 rw [World.cell?_of_block (w:=w) (by rw [X6h];exact ho.block _ hne)]
 exact h j v hj
def OneT(P:Program)(t:TypeId) : Prop:=∃ d,P.underlying t=some d/\(match d with|.struct _|.array _ _=>False|_=>True)
def AggT(P:Program)(t:TypeId)(n:Nat) : Prop:=(∃ d,P.underlying t=some d/\(match d with|.struct _|.array _ _=>True|_=>False))/\∃ i,P.info? t=some i/\i.size=n
def SizeT(P:Program)(t:TypeId)(n:Nat) : Prop:=∃ i,P.info? t=some i/\i.size=n
def ZeroT(P:Program)(t:TypeId)(z:Value) : Prop:=∃ i,P.info? t=some i/\i.zero=some z
def FieldT(P:Program)(T f k:Nat) : Prop:=∃ fs F i,P.underlying T=some (.struct fs)/\fs[f]? = some F/\F.offset=k/\P.info? F.type=some i/\(i.size==0)=false
def SliceT(P:Program)(T E:TypeId) : Prop:=P.underlying T=some (.slice E)
def FuncF (P : Program) (f : FuncId) : Prop := ∃ fn, P.funcs[f]? = some fn /\ (fn.name == "runtime.NumGoroutine") = false /\ fn.body.isNone = false
section
variable {P : Program} {w : World}
theorem run_sizeOf'{t n:Nat}(h:SizeT P t n)(w:World) : (sizeOf t).run P w=.ok n w:=by
 obtain ⟨i,h1,h2⟩:=h
 simp [sizeOf,typeInfo,h1,h2]
theorem X9p{t:TypeId}{z:Value}(h:ZeroT P t z)(w:World) : (zeroValue t).run P w=.ok z w:=by
 obtain ⟨i,h1,h2⟩:=h
 simp [zeroValue,typeInfo,h1,h2]
theorem X0g{t:TypeId}{d:TypeDesc}(h:P.underlying t=some d)(w:World) : (underlying t).run P w=.ok d w:=by simp [underlying,h]
theorem X41{t:TypeId}(h:OneT P t)(w:World) : (isAgg t).run P w=.ok false w:=by
 obtain ⟨d,h1,h2⟩:=h
 cases d<;>simp_all [isAgg,underlying]
theorem X68{t n:Nat}(h:AggT P t n)(w:World) : (isAgg t).run P w=.ok true w:=by
 obtain ⟨⟨d,h1,h2⟩,_⟩:=h
 cases d<;>simp_all [isAgg,underlying]
theorem X3z(p:Addr) : ∀ (l:List Value) (i:Nat) (acc:Array Value),(∀ j v,l[j]? = some v->w.cell? (p.add (i+j))=some v)->
  (loadCellsFrom p i l.length acc).run P w=.ok (acc++l.toArray) w
 | [],i,acc,_=>by simp [loadCellsFrom]
 | v::l,i,acc,h=>by
  have h0:=h 0 v rfl
  simp only [Nat.add_zero] at h0
  have ih:=X3z p l (i+1) (acc.push v) (fun j u hj=>by
   have:=h (j+1) u (by simpa using hj)
   rwa [show i+(j+1)=i+1+j from by omega] at this)
  simp [loadCellsFrom,load,Sem.run,h0,ih]
theorem X56{t:TypeId}{p:Addr}{v:Value}{l:List Value}(h:OneT P t)(hc:At w p (v::l)) : (loadVar t p).run P w=.ok v w:=by
 have h0:=hc 0 v rfl
 have h1:p.add 0=p:=by simp [Addr.add]
 rw [h1] at h0
 simp [loadVar,X41 h,load,Sem.run,h0]
theorem X51{t n:Nat}{p:Addr}{l:List Value}(h:AggT P t n)(hc:At w p l)(hn:l.length=n) : (loadVar t p).run P w=.ok (.agg l.toArray) w:=by
 subst hn
 have h1:=X3z (P:=P) (w:=w) p l 0 #[] (fun j v hj=>by rw [Nat.zero_add];exact hc j v hj)
 simp [loadVar,X68 h,run_sizeOf' h.2,loadCells,h1]
end
section
variable {P : Program} {a : Act} {w : World} {n : Nat} {e : Env} {ty : TypeId} {pos : String} {af : Array Edge} {g : Option (Nat × Bool)} {d : Option Tmp}
theorem Xrm{x:Operand}{v:Value}(hf:Fr a n e)(hx:ev e x=some v) : Ev P ⟨d,.move x,ty,pos,af,g⟩ a w v:=fun w' _=>by
 simp [execOp,hf.ev hx]
theorem X3{x:Operand}{v:Value}(hx:ev e x=some v) : EvW P ⟨d,.move x,ty,pos,af,g⟩ n e w v:=fun a hf=>Xrm hf hx
theorem Xhz{x:Operand}{v:Value}(hf:Fr a n e)(hx:ev e x=some v) : Ev P ⟨d,.assign x,ty,pos,af,g⟩ a w v:=fun w' _=>by
 simp [execOp,hf.ev hx]
theorem X0u{x:Operand}{v:Value}(hx:ev e x=some v) : EvW P ⟨d,.assign x,ty,pos,af,g⟩ n e w v:=fun a hf=>Xhz hf hx
theorem Xh8{c x y:Operand}{b:Bool}{v:Value}(hf:Fr a n e)(hc:ev e c=some (.bool b))(hx:ev e (if b then x else y)=some v) : Ev P ⟨d,.pick c x y,ty,pos,af,g⟩ a w v:=fun w' _=>by
 have h1:=hf.ev hc;have h2:=hf.ev hx
 cases b<;>simp_all [execOp,asBool]
theorem Xmd{c x y:Operand}{b:Bool}{v:Value}(hf:Fr a n e)(hc:ev e c=some (.bool b))(hb:b=true)(hx:ev e x=some v) : Ev P ⟨d,.pick c x y,ty,pos,af,g⟩ a w v:=by
 subst hb
 exact Xh8 hf hc hx
theorem X5{c x y:Operand}{b:Bool}{v:Value}(hc:ev e c=some (.bool b))(hb:b=true)(hx:ev e x=some v) : EvW P ⟨d,.pick c x y,ty,pos,af,g⟩ n e w v:=fun a hf=>Xmd hf hc hb hx
theorem Xjm{c x y:Operand}{b:Bool}{v:Value}(hf:Fr a n e)(hc:ev e c=some (.bool b))(hb:b=false)(hx:ev e y=some v) : Ev P ⟨d,.pick c x y,ty,pos,af,g⟩ a w v:=by
 subst hb
 exact Xh8 hf hc hx
theorem Xb{c x y:Operand}{b:Bool}{v:Value}(hc:ev e c=some (.bool b))(hb:b=false)(hx:ev e y=some v) : EvW P ⟨d,.pick c x y,ty,pos,af,g⟩ n e w v:=fun a hf=>Xjm hf hc hb hx
theorem Xim{t:TypeId}{x:Operand}{p:Addr}{v:Value}{l:List Value}(hf:Fr a n e)(hx:ev e x=some (.pointer (some p)))(h1:OneT P t)(hc:At w p (v::l)) : Ev P ⟨d,.load t x,ty,pos,af,g⟩ a w v:=fun w' hw=>by
 simp [execOp,hf.ev hx,Instr.loadAt,Instr.sureAddr,X56 h1 (hc.bw hw)]
theorem X0{t:TypeId}{x:Operand}{p:Addr}{v:Value}{l:List Value}(hx:ev e x=some (.pointer (some p)))(h1:OneT P t)(hc:At w p (v::l)) : EvW P ⟨d,.load t x,ty,pos,af,g⟩ n e w v:=fun a hf=>Xim hf hx h1 hc
theorem Xl2{t k:Nat}{x:Operand}{p:Addr}{l:List Value}(hf:Fr a n e)(hx:ev e x=some (.pointer (some p)))(hA:AggT P t k)(hc:At w p l)(hl:l.length=k) : Ev P ⟨d,.load t x,ty,pos,af,g⟩ a w (.agg l.toArray):=fun w' hw=>by
 simp [execOp,hf.ev hx,Instr.loadAt,Instr.sureAddr,X51 hA (hc.bw hw) hl]
theorem X03{t k:Nat}{x:Operand}{p:Addr}{l:List Value}(hx:ev e x=some (.pointer (some p)))(hA:AggT P t k)(hc:At w p l)(hl:l.length=k) : EvW P ⟨d,.load t x,ty,pos,af,g⟩ n e w (.agg l.toArray):=fun a hf=>Xl2 hf hx hA hc hl
theorem X8x{T f k:Nat}{x:Operand}{p:Addr}(hf:Fr a n e)(hx:ev e x=some (.pointer (some p)))(hF:FieldT P T f k) : Ev P ⟨d,.fieldAddr T x f,ty,pos,af,g⟩ a w (.pointer (some (p.add k))):=fun w' _=>by
 obtain ⟨fs,F,i,h1,h2,h3,h4,h5⟩:=hF;have h6:=run_sizeOf' ⟨i,h4,rfl⟩ w'
 simp [execOp,hf.ev hx,Instr.fieldAt,X0g h1,h2,Instr.sureAddr,fieldPlace,h6,h3]
 simp at h5
 simp [h5]
theorem X2j{T f k:Nat}{x:Operand}{p:Addr}(hx:ev e x=some (.pointer (some p)))(hF:FieldT P T f k) : EvW P ⟨d,.fieldAddr T x f,ty,pos,af,g⟩ n e w (.pointer (some (p.add k))):=fun a hf=>X8x hf hx hF
theorem Xi8{T f k:Nat}{x:Operand}{b off m:Nat}(hf:Fr a n e)(hx:ev e x=some (.pointer (some ⟨b,off,none⟩)))(hF:FieldT P T f k)(hk:off+k=m) : Ev P ⟨d,.fieldAddr T x f,ty,pos,af,g⟩ a w (.pointer (some ⟨b,m,none⟩)):=by
 have:=X8x (P:=P) (w:=w) (d:=d) (ty:=ty) (pos:=pos) (af:=af) (g:=g) hf hx hF
 rwa [X1s,hk] at this
theorem Xpk{T f k:Nat}{x:Operand}{b off m:Nat}(hx:ev e x=some (.pointer (some ⟨b,off,none⟩)))(hF:FieldT P T f k)(hk:off+k=m) : EvW P ⟨d,.fieldAddr T x f,ty,pos,af,g⟩ n e w (.pointer (some ⟨b,m,none⟩)):=fun a hf=>Xi8 hf hx hF hk
theorem Xer{x:Operand}{k:Nat}{vs:List Value}{v:Value}(hf:Fr a n e)(hx:ev e x=some (.tuple vs.toArray))(hv:vs[k]? = some v) : Ev P ⟨d,.extract x k,ty,pos,af,g⟩ a w v:=fun w' _=>by
 simp [execOp,hf.ev hx,Instr.extract,hv]
theorem Xo{x:Operand}{k:Nat}{vs:List Value}{v:Value}(hx:ev e x=some (.tuple vs.toArray))(hv:vs[k]? = some v) : EvW P ⟨d,.extract x k,ty,pos,af,g⟩ n e w v:=fun a hf=>Xer hf hx hv
theorem Xut{t:TypeId}{x:Operand}{b:Bool}(hf:Fr a n e)(hx:ev e x=some (.bool b)) : Ev P ⟨d,.unOp .not t x,ty,pos,af,g⟩ a w (.bool (!b)):=fun w' _=>by
 simp [execOp,hf.ev hx,Op.unary]
theorem X0w{t:TypeId}{x:Operand}{b:Bool}(hx:ev e x=some (.bool b)) : EvW P ⟨d,.unOp .not t x,ty,pos,af,g⟩ n e w (.bool (!b)):=fun a hf=>Xut hf hx
theorem Xwq{t:TypeId}{x:Operand}{i:Int}(hf:Fr a n e)(hx:ev e x=some (.int .i64 i)) : Ev P ⟨d,.unOp .neg t x,ty,pos,af,g⟩ a w (.int .i64 (IntKind.i64.wrap (-i))):=fun w' _=>by
 simp [execOp,hf.ev hx,Op.unary,Op.intArith]
theorem Xv5{t:TypeId}{x:Operand}{i:Int}(hx:ev e x=some (.int .i64 i)) : EvW P ⟨d,.unOp .neg t x,ty,pos,af,g⟩ n e w (.int .i64 (IntKind.i64.wrap (-i))):=fun a hf=>Xwq hf hx
section
variable {t t' : TypeId} {x y : Operand} {i j : Int}
theorem Xii(hf:Fr a n e)(hx:ev e x=some (.int .i64 i))(hy:ev e y=some (.int .i64 j)) : Ev P ⟨d,.binOp .add t x y t',ty,pos,af,g⟩ a w (.int .i64 (IntKind.i64.wrap (i+j))):=fun w' _=>by
 simp [execOp,hf.ev hx,hf.ev hy,eqGuard,binOp,Op.intArith]
theorem X2z(hx:ev e x=some (.int .i64 i))(hy:ev e y=some (.int .i64 j)) : EvW P ⟨d,.binOp .add t x y t',ty,pos,af,g⟩ n e w (.int .i64 (IntKind.i64.wrap (i+j))):=fun a hf=>Xii hf hx hy
theorem Xo3(hf:Fr a n e)(hx:ev e x=some (.int .i64 i))(hy:ev e y=some (.int .i64 j))(h1:-9223372036854775808<=i+j)(h2:i+j<=9223372036854775807) : Ev P ⟨d,.binOp .add t x y t',ty,pos,af,g⟩ a w (.int .i64 (i+j)):=by
 have h:=Xii (P:=P) (w:=w) (d:=d) (ty:=ty) (pos:=pos) (af:=af) (g:=g) (t:=t) (t':=t') hf hx hy
 rwa [IntWalk.i64_in _ ⟨h1,h2⟩] at h
theorem Xs(hx:ev e x=some (.int .i64 i))(hy:ev e y=some (.int .i64 j))(h1:-9223372036854775808<=i+j)(h2:i+j<=9223372036854775807) : EvW P ⟨d,.binOp .add t x y t',ty,pos,af,g⟩ n e w (.int .i64 (i+j)):=fun a hf=>Xo3 hf hx hy h1 h2
theorem Xol(hf:Fr a n e)(hx:ev e x=some (.int .i64 i))(hy:ev e y=some (.int .i64 j))(h1:-9223372036854775808<=i-j)(h2:i-j<=9223372036854775807) : Ev P ⟨d,.binOp .sub t x y t',ty,pos,af,g⟩ a w (.int .i64 (i-j)):=by
 have h:Ev P ⟨d,.binOp .sub t x y t',ty,pos,af,g⟩ a w (.int .i64 (IntKind.i64.wrap (i-j))):=fun w' _=>by
  simp [execOp,hf.ev hx,hf.ev hy,eqGuard,binOp,Op.intArith]
 rwa [IntWalk.i64_in _ ⟨h1,h2⟩] at h
theorem X1h(hx:ev e x=some (.int .i64 i))(hy:ev e y=some (.int .i64 j))(h1:-9223372036854775808<=i-j)(h2:i-j<=9223372036854775807) : EvW P ⟨d,.binOp .sub t x y t',ty,pos,af,g⟩ n e w (.int .i64 (i-j)):=fun a hf=>Xol hf hx hy h1 h2
theorem Xx3(hf:Fr a n e)(hx:ev e x=some (.int .i64 i))(hy:ev e y=some (.int .i64 j)) : Ev P ⟨d,.binOp .sub t x y t',ty,pos,af,g⟩ a w (.int .i64 (IntKind.i64.wrap (i-j))):=fun w' _=>by
 simp [execOp,hf.ev hx,hf.ev hy,eqGuard,binOp,Op.intArith]
theorem X9m(hx:ev e x=some (.int .i64 i))(hy:ev e y=some (.int .i64 j)) : EvW P ⟨d,.binOp .sub t x y t',ty,pos,af,g⟩ n e w (.int .i64 (IntKind.i64.wrap (i-j))):=fun a hf=>Xx3 hf hx hy
theorem Xup(hf:Fr a n e)(hx:ev e x=some (.int .i64 i))(hy:ev e y=some (.int .i64 j)) : Ev P ⟨d,.binOp .mul t x y t',ty,pos,af,g⟩ a w (.int .i64 (IntKind.i64.wrap (i*j))):=fun w' _=>by
 simp [execOp,hf.ev hx,hf.ev hy,eqGuard,binOp,Op.intArith]
theorem Y4s(hx:ev e x=some (.int .i64 i))(hy:ev e y=some (.int .i64 j)) : EvW P ⟨d,.binOp .mul t x y t',ty,pos,af,g⟩ n e w (.int .i64 (IntKind.i64.wrap (i*j))):=fun a hf=>Xup hf hx hy
theorem Xvq(hf:Fr a n e)(hx:ev e x=some (.int .i64 i))(hy:ev e y=some (.int .i64 j)) : Ev P ⟨d,.binOp .lss t x y t',ty,pos,af,g⟩ a w (.bool (decide (i<j))):=fun w' _=>by
 simp [execOp,hf.ev hx,hf.ev hy,eqGuard,binOp,Op.intCmp]
theorem X0n(hx:ev e x=some (.int .i64 i))(hy:ev e y=some (.int .i64 j)) : EvW P ⟨d,.binOp .lss t x y t',ty,pos,af,g⟩ n e w (.bool (decide (i<j))):=fun a hf=>Xvq hf hx hy
theorem Xvs(hf:Fr a n e)(hx:ev e x=some (.int .i64 i))(hy:ev e y=some (.int .i64 j)) : Ev P ⟨d,.binOp .leq t x y t',ty,pos,af,g⟩ a w (.bool (decide (i<=j))):=fun w' _=>by
 simp [execOp,hf.ev hx,hf.ev hy,eqGuard,binOp,Op.intCmp]
theorem Xdx(hx:ev e x=some (.int .i64 i))(hy:ev e y=some (.int .i64 j)) : EvW P ⟨d,.binOp .leq t x y t',ty,pos,af,g⟩ n e w (.bool (decide (i<=j))):=fun a hf=>Xvs hf hx hy
theorem Xw3(hf:Fr a n e)(hx:ev e x=some (.int .i64 i))(hy:ev e y=some (.int .i64 j)) : Ev P ⟨d,.binOp .gtr t x y t',ty,pos,af,g⟩ a w (.bool (decide (j<i))):=fun w' _=>by
 simp [execOp,hf.ev hx,hf.ev hy,eqGuard,binOp,Op.intCmp]
theorem X2y(hx:ev e x=some (.int .i64 i))(hy:ev e y=some (.int .i64 j)) : EvW P ⟨d,.binOp .gtr t x y t',ty,pos,af,g⟩ n e w (.bool (decide (j<i))):=fun a hf=>Xw3 hf hx hy
theorem Xuj(hf:Fr a n e)(hx:ev e x=some (.int .i64 i))(hy:ev e y=some (.int .i64 j)) : Ev P ⟨d,.binOp .geq t x y t',ty,pos,af,g⟩ a w (.bool (decide (j<=i))):=fun w' _=>by
 simp [execOp,hf.ev hx,hf.ev hy,eqGuard,binOp,Op.intCmp]
theorem X5h(hx:ev e x=some (.int .i64 i))(hy:ev e y=some (.int .i64 j)) : EvW P ⟨d,.binOp .geq t x y t',ty,pos,af,g⟩ n e w (.bool (decide (j<=i))):=fun a hf=>Xuj hf hx hy
theorem Xwx(hf:Fr a n e)(hx:ev e x=some (.int .i64 i))(hy:ev e y=some (.int .i64 j)) : Ev P ⟨d,.binOp .eql t x y t',ty,pos,af,g⟩ a w (.bool (i==j)):=fun w' _=>by
 simp [execOp,hf.ev hx,hf.ev hy,eqGuard,binOp,Op.intCmp]
theorem X0k(hx:ev e x=some (.int .i64 i))(hy:ev e y=some (.int .i64 j)) : EvW P ⟨d,.binOp .eql t x y t',ty,pos,af,g⟩ n e w (.bool (i==j)):=fun a hf=>Xwx hf hx hy
theorem Xvu(hf:Fr a n e)(hx:ev e x=some (.int .i64 i))(hy:ev e y=some (.int .i64 j)) : Ev P ⟨d,.binOp .neq t x y t',ty,pos,af,g⟩ a w (.bool (i != j)):=fun w' _=>by
 simp [execOp,hf.ev hx,hf.ev hy,eqGuard,binOp,Op.intCmp]
theorem X1e(hx:ev e x=some (.int .i64 i))(hy:ev e y=some (.int .i64 j)) : EvW P ⟨d,.binOp .neq t x y t',ty,pos,af,g⟩ n e w (.bool (i != j)):=fun a hf=>Xvu hf hx hy
theorem Xul(hf:Fr a n e)(hx:ev e x=some (.int .i64 i))(hy:ev e y=some (.int .i64 j)) : Ev P ⟨d,.binOp .and t x y t',ty,pos,af,g⟩ a w (.int .i64 (bits .and .i64 i j)):=fun w' _=>by
 simp [execOp,hf.ev hx,hf.ev hy,eqGuard,binOp,Op.intBits,bits]
theorem Xyy(hx:ev e x=some (.int .i64 i))(hy:ev e y=some (.int .i64 j)) : EvW P ⟨d,.binOp .and t x y t',ty,pos,af,g⟩ n e w (.int .i64 (bits .and .i64 i j)):=fun a hf=>Xul hf hx hy
theorem X30{b c:Bool}(ht:P.underlying t=some .bool)(k:Nat)(w:World) : (Op.equalIn (k+1) t (.bool b) (.bool c)).run P w=.ok (b==c) w:=by
 simp [Op.equalIn,X0g ht]
theorem Xok{b c:Bool}(ht:P.underlying t=some .bool)(hf:Fr a n e)(hx:ev e x=some (.bool b))(hy:ev e y=some (.bool c)) : Ev P ⟨d,.binOp .eql t x y t',ty,pos,af,g⟩ a w (.bool (b==c)):=fun w' _=>by
 have h:=X30 (P:=P) (b:=b) (c:=c) ht 9999 w'
 simp [execOp,hf.ev hx,hf.ev hy,eqGuard,binOp,Op.equal,Op.maxDepth,h]
theorem Y34{b c:Bool}(ht:P.underlying t=some .bool)(hx:ev e x=some (.bool b))(hy:ev e y=some (.bool c)) : EvW P ⟨d,.binOp .eql t x y t',ty,pos,af,g⟩ n e w (.bool (b==c)):=fun a hf=>Xok ht hf hx hy
theorem Xpe{b c:Bool}(ht:P.underlying t=some .bool)(hf:Fr a n e)(hx:ev e x=some (.bool b))(hy:ev e y=some (.bool c)) : Ev P ⟨d,.binOp .neq t x y t',ty,pos,af,g⟩ a w (.bool (b != c)):=fun w' _=>by
 have h:=X30 (P:=P) (b:=b) (c:=c) ht 9999 w'
 simp [execOp,hf.ev hx,hf.ev hy,eqGuard,binOp,Op.equal,Op.maxDepth,h]
 cases b<;>cases c<;>rfl
theorem X93{b c:Bool}(ht:P.underlying t=some .bool)(hx:ev e x=some (.bool b))(hy:ev e y=some (.bool c)) : EvW P ⟨d,.binOp .neq t x y t',ty,pos,af,g⟩ n e w (.bool (b != c)):=fun a hf=>Xpe ht hf hx hy
theorem Xxu{x:Operand}{T E:TypeId}{A:Option Addr}{m c:Nat}(hf:Fr a n e)(hx:ev e x=some (.slice A m c))(hT:SliceT P T E) : Ev P ⟨d,.call ⟨.builtin .len,#[x],#[T]⟩,ty,pos,af,g⟩ a w (.int .i64 (m:Int)):=fun w' _=>by
 have:=X0g (P:=P) hT w'
 simp [execOp,resolve,invoke,builtin,Builtin.len_,hf.ev hx,this,goInt]
theorem X09{x:Operand}{T E:TypeId}{A:Option Addr}{m c:Nat}(hx:ev e x=some (.slice A m c))(hT:SliceT P T E) : EvW P ⟨d,.call ⟨.builtin .len,#[x],#[T]⟩,ty,pos,af,g⟩ n e w (.int .i64 (m:Int)):=fun a hf=>Xxu hf hx hT
theorem Xcp{k:FuncId}{cs:List Operand}{vs:List Value}(hf:Fr a n e)(hx:evs e cs=some vs) : Ev P ⟨d,.makeFunc (.func k) #[] cs.toArray,ty,pos,af,g⟩ a w (.func (.func k) #[] vs.toArray):=fun w' _=>by
 simp [execOp,Instr.makeFunc,hf.evs hx]
theorem X3p{k:FuncId}{cs:List Operand}{vs:List Value}(hx:evs e cs=some vs) : EvW P ⟨d,.makeFunc (.func k) #[] cs.toArray,ty,pos,af,g⟩ n e w (.func (.func k) #[] vs.toArray):=fun a hf=>Xcp hf hx
end
end
section
variable {P : Program} {a : Act} {w : World} {n : Nat} {e : Env} {ty : TypeId} {pos : String} {af : Array Edge} {g : Option (Nat × Bool)} {d : Option Tmp}
def IsNew(w:World)(T:TypeId)(zs:List Value)(v:Value)(w':World) : Prop:=
 ∃ b,v=.pointer (some ⟨b,0,none⟩)/\w.heap.size<=b/\Below w.heap.size w w'/\Blk w' b T zs
theorem X4e(w:World)(T:TypeId)(zs:List Value) : Blk (w.alloc (.cells zs.toArray T)) w.heap.size T zs:=heap_alloc_new w _
theorem X7y(w:World)(T:TypeId)(zs:List Value) : IsNew w T zs (.pointer (some ⟨w.heap.size,0,none⟩)) (w.alloc (.cells zs.toArray T)):=
 ⟨_,rfl,Qb _,(Below.refl _ _).alloc (Qb _) _,X4e w T zs⟩
theorem X6m(T:TypeId)(v:Value)(w:World) : (newVar T v).run P w=.ok ⟨w.heap.size,0,none⟩ (w.alloc (.cells v.cells T)):=by
 simp [newVar,newRow,newObj,Sem.run]
theorem Xji{T:TypeId}{z:Value}{zs:List Value}(hz:ZeroT P T z)(hzs:z.cells.toList=zs) : Ef P ⟨d,.alloc T,ty,pos,af,g⟩ a w (IsNew w T zs):=by
 subst hzs
 have h:(execOp a.eval ⟨d,.alloc T,ty,pos,af,g⟩).run P w=.ok (.value (.pointer (some ⟨w.heap.size,0,none⟩))) (w.alloc (.cells z.cells T)):=by
  simp [execOp,Instr.alloc,X9p hz,X6m]
 refine (Ef.of_run h).mono fun v w' ⟨e1,e2⟩=>?_
 subst e1;subst e2
 have:=X7y w T z.cells.toList
 simpa using this
theorem Xq{n:Nat}{e:List (Nat×Value)}{T:TypeId}{z:Value}{zs:List Value}(hz:ZeroT P T z)(hzs:z.cells.toList=zs) : EfW P ⟨d,.alloc T,ty,pos,af,g⟩ n e w (IsNew w T zs):=fun a _=>Xji hz hzs
theorem Xuq{T:TypeId}{x:Operand}{v:Value}{zs:List Value}(hf:Fr a n e)(hx:ev e x=some v)(hzs:v.cells.toList=zs) : Ef P ⟨d,.box T x,ty,pos,af,g⟩ a w (IsNew w T zs):=by
 subst hzs
 have h:(execOp a.eval ⟨d,.box T x,ty,pos,af,g⟩).run P w=.ok (.value (.pointer (some ⟨w.heap.size,0,none⟩))) (w.alloc (.cells v.cells T)):=by
  simp [execOp,Instr.box,X6m,hf.ev hx]
 refine (Ef.of_run h).mono fun v' w' ⟨e1,e2⟩=>?_
 subst e1;subst e2
 have:=X7y w T v.cells.toList
 simpa using this
theorem X0l{T:TypeId}{x:Operand}{v:Value}{zs:List Value}(hx:ev e x=some v)(hzs:v.cells.toList=zs) : EfW P ⟨d,.box T x,ty,pos,af,g⟩ n e w (IsNew w T zs):=fun a hf=>Xuq hf hx hzs
def splice(l:List Value)(k:Nat)(vs:List Value) : List Value:=l.take k++vs++l.drop (k+vs.length)
def one:Value->Bool
 | .agg _=>false
 | .tuple _=>false
 | _=>true
theorem Xbl(w:World)(b k:Nat)(v:Value) : Only b w (w.setCell ⟨b,k,none⟩ v):=
 ⟨rfl,rfl,rfl,by simp [World.setCell],fun i hi=>Below.heap_setCell _ _ _ _ hi⟩
theorem Xcm{T:TypeId}{l:List Value}{b:Nat}(h:Blk w b T l)(k:Nat)(v:Value) : Blk (w.setCell ⟨b,k,none⟩ v) b T (l.set k v):=by
 unfold Blk at h ⊢
 simp [World.setCell,Array.getElem?_modify,h]
theorem X3s{b off:Nat}{T:TypeId} : ∀ (vs:List Value) (w:World) (l:List Value) (i:Nat),Blk w b T l->off+i+vs.length<=l.length->vs.all one=true->
  ∃ w',(storeCells ⟨b,off,none⟩ vs i).run P w=.ok () w'/\Only b w w'/\Blk w' b T (splice l (off+i) vs)
 | [],w,l,i,hb,_,_=>⟨w,by simp [storeCells],Only.refl _ _,by simpa [splice] using hb⟩
 | v::vs,w,l,i,hb,hl,h1=>by
  simp only [List.all_cons,Qd,Qs] at h1 hl
  have hc:w.cell? ⟨b,off+i,none⟩=some (l[off+i]'(by omega)):=by rw [hb.cell];exact Qc (by omega)
  have hfz:w.frozen? ⟨b,off+i,none⟩=false:=by
   have:=hb
   unfold Blk at this
   simp [World.frozen?,this]
  obtain ⟨w',hr,ho,hb'⟩:=X3s (off:=off) vs (w.setCell ⟨b,off+i,none⟩ v) (l.set (off+i) v) (i+1) (Xcm hb _ _) (by rw [List.length_set];omega) h1.2
  refine ⟨w',?_,(Xbl w b _ v).trans ho,?_⟩
  ·have h0:(store (⟨b,off+i,none⟩ : Addr) v).run P w=.ok () (w.setCell ⟨b,off+i,none⟩ v):=by
    have h2:=h1.1
    unfold one at h2
    split at h2
    ·cases h2
    ·cases h2
    ·rename_i hx1 hx2
     cases v<;>simp_all [store,Sem.run]
   simp only [storeCells,X1s]
   simp [h0,hr]
  ·have:splice (l.set (off+i) v) (off+(i+1)) vs=splice l (off+i) (v::vs):=by
    unfold splice
    have e1:off+(i+1)=off+i+1:=by omega
    rw [e1,Wf (by rw [List.length_set];omega),List.take_set_of_le (by omega),List.getElem_set_self,List.drop_set_of_lt (by omega)]
    simp only [Qs,Qx,Wa,List.nil_append]
    rw [show off+i+1+vs.length=off+i+(vs.length+1) from by omega]
   rw [this] at hb'
   exact hb'
def Stored(w:World)(b:Nat)(T:TypeId)(l:List Value)(_:Value)(w':World) : Prop:=Only b w w'/\Blk w' b T l
theorem X9g{t T:TypeId}{x y:Operand}{b off k:Nat}{v:Value}{l l' vs:List Value}(hf:Fr a n e)(hx:ev e x=some (.pointer (some ⟨b,off,none⟩)))(hy:ev e y=some v)
  (hs:SizeT P t k) (hb:Blk w b T l) (hvs:v.cells.toList=vs) (hk:Nat.beq vs.length k=true) (h1:vs.all one=true) (hl:Nat.ble (off+k) l.length=true) (hl':splice l off vs=l') :
  Ef P ⟨d,.store t x y,ty,pos,af,g⟩ a w (Stored w b T l'):=by
 subst hl'
 have hk':vs.length=k:=Nat.eq_of_beq_eq_true hk
 have hll:off+k<=l.length:=Nat.le_of_ble_eq_true hl
 obtain ⟨w',hr,ho,hb'⟩:=X3s (P:=P) (b:=b) (off:=off) (T:=T) vs w l 0 hb (by omega) h1
 refine (Ef.of_skip (w':=w') ?_).mono fun v w1 ⟨_,e2⟩=>by subst e2;exact ⟨ho,by simpa using hb'⟩
 have hc:v.cells.size=k:=by rw [<- hk',<- hvs];simp
 simp [execOp,Instr.storeAt,Instr.sureAddr,hf.ev hx,hf.ev hy,storeVar,run_sizeOf' hs,hc,hvs,hr]
theorem X15{t T:TypeId}{x y:Operand}{b off k:Nat}{v:Value}{l l' vs:List Value}(hx:ev e x=some (.pointer (some ⟨b,off,none⟩)))(hy:ev e y=some v)(hs:SizeT P t k)(hb:Blk w b T l)(hvs:v.cells.toList=vs)(hk:Nat.beq vs.length k=true)(h1:vs.all one=true)(hl:Nat.ble (off+k) l.length=true)(hl':splice l off vs=l') : EfW P ⟨d,.store t x y,ty,pos,af,g⟩ n e w (Stored w b T l'):=fun a hf=>X9g hf hx hy hs hb hvs hk h1 hl hl'
def Ret(P:Program)(f:FuncId)(args:List Value)(w:World)(R:Value->World->Prop) : Prop:=Calls P f args.toArray w fun e w'=>∃ v,e=.returned v/\R v w'
theorem Ret.mono{f:FuncId}{args:List Value}{R R':Value->World->Prop}(h:Ret P f args w R)(hr:∀ v w',R v w'->R' v w') : Ret P f args w R':=
 Calls.mono h fun _ _ ⟨v,he,hR⟩=>⟨v,he,hr _ _ hR⟩
theorem X6z{f:FuncId}(hF:FuncF P f)(args:Array Value)(w:World) : (callFunc f args).run P w=.ok (.enter f args) w:=by
 obtain ⟨fn,h1,h2,h3⟩:=hF
 have h2' : ¬ fn.name = "runtime.NumGoroutine" := by simpa using h2
 have h3':¬ fn.body=none:=by intro hb;rw [hb] at h3;cases h3
 simp [callFunc,h1,h2',h3']
theorem Xr5{f:FuncId}{xs:List Operand}{vs:List Value}{ts:Array TypeId}{R:Value->World->Prop}(hf:Fr a n e)(hx:evs e xs=some vs)(hF:FuncF P f)(h:Ret P f vs w R) :
  Ef P ⟨d,.call ⟨.value (.func f),xs.toArray,ts⟩,ty,pos,af,g⟩ a w R:=by
 have hm:=hf.evs hx
 unfold Ef
 have hr:(execOp a.eval ⟨d,.call ⟨.value (.func f),xs.toArray,ts⟩,ty,pos,af,g⟩).run P w=.ok (.enter f vs.toArray) w:=by
  simp [execOp,resolve,Act.eval,Deferred.ofValue,invoke,hm,X6z hF]
 rw [hr]
 exact h
theorem X1k{f:FuncId}{xs:List Operand}{vs:List Value}{ts:Array TypeId}{R:Value->World->Prop}(hx:evs e xs=some vs)(hF:FuncF P f)(h:Ret P f vs w R) : EfW P ⟨d,.call ⟨.value (.func f),xs.toArray,ts⟩,ty,pos,af,g⟩ n e w R:=fun a hf=>Xr5 hf hx hF h
theorem Xkz{f:FuncId}{x:Operand}{xs:List Operand}{vs cs:List Value}{ts:Array TypeId}{R:Value->World->Prop}(hf:Fr a n e)(hv:ev e x=some (.func (.func f) #[] cs.toArray))(hx:evs e xs=some vs)(hF:FuncF P f)(h:Ret P f (vs++cs) w R) :
  Ef P ⟨d,.call ⟨.value x,xs.toArray,ts⟩,ty,pos,af,g⟩ a w R:=by
 have hm:=hf.evs hx
 have hv':=hf.ev hv
 unfold Ef
 have hr:(execOp a.eval ⟨d,.call ⟨.value x,xs.toArray,ts⟩,ty,pos,af,g⟩).run P w=.ok (.enter f (vs++cs).toArray) w:=by
  simp [execOp,resolve,hv',Deferred.ofValue,invoke,hm,X6z hF]
 rw [hr]
 exact h
theorem X7o{f:FuncId}{x:Operand}{xs:List Operand}{vs cs:List Value}{ts:Array TypeId}{R:Value->World->Prop}(hv:ev e x=some (.func (.func f) #[] cs.toArray))(hx:evs e xs=some vs)(hF:FuncF P f)(h:Ret P f (vs++cs) w R) : EfW P ⟨d,.call ⟨.value x,xs.toArray,ts⟩,ty,pos,af,g⟩ n e w R:=fun a hf=>Xkz hf hv hx hF h
end
section
variable {α : Type}
def Rd(w:World)(B:Nat)(E:TypeId)(enc:α->List Value)(A:Option Addr)(l:List α) : Prop:=
 l≠[]->∃ b off cs fz,A=some ⟨b,off,none⟩/\b<B/\w.heap[b]? = some (.cells cs E fz)/\∀ j v,(l.flatMap enc)[j]? = some v->cs[off+j]? = some v
theorem Rd.nil(w:World)(B:Nat)(E:TypeId)(enc:α->List Value)(A:Option Addr) : Rd w B E enc A []:=fun h=>absurd rfl h
theorem Rd.chg{w w':World}{B:Nat}{E:TypeId}{enc:α->List Value}{A:Option Addr}{l:List α}(h:Rd w B E enc A l)(hk:∀ b cs fz,b<B->w.heap[b]? = some (.cells cs E fz)->w'.heap[b]? = w.heap[b]?) : Rd w' B E enc A l:=fun hl=>by
 obtain ⟨b,off,cs,fz,h1,h2,h3,h4⟩:=h hl;exact ⟨b,off,cs,fz,h1,h2,(hk b cs fz h2 h3).trans h3,h4⟩
theorem Rd.more{w:World}{B B':Nat}{E:TypeId}{enc:α->List Value}{A:Option Addr}{l:List α}(h:Rd w B E enc A l)(hB:B<=B') : Rd w B' E enc A l:=fun hl=>by
 obtain ⟨b,off,cs,fz,h1,h2,h3,h4⟩:=h hl;exact ⟨b,off,cs,fz,h1,by omega,h3,h4⟩
theorem Rd.bw{w w':World}{B:Nat}{E:TypeId}{enc:α->List Value}{A:Option Addr}{l:List α}(h:Rd w B E enc A l)(hb:Below w.heap.size w w') : Rd w' B E enc A l:=
 h.chg fun b _ _ _ hh=>hb.block b (by
  rcases W4 b w.heap.size with h'|h'
  ·exact h'
  ·rw [We h'] at hh;cases hh)
theorem Rd.bx{w w':World}{B:Nat}{E:TypeId}{enc:α->List Value}{A:Option Addr}{l:List α}(h:Rd w B E enc A l)(hb:Below B w w') : Rd w' B E enc A l:=
 h.chg fun b _ _ hB _=>hb.block b hB
theorem Rd.oy{w w':World}{B b:Nat}{E:TypeId}{enc:α->List Value}{A:Option Addr}{l:List α}(h:Rd w B E enc A l)(ho:Only b w w')(hB:B<=b) : Rd w' B E enc A l:=
 h.chg fun k _ _ hk _=>ho.block k (by omega)
theorem Rd.oT{w w':World}{B b:Nat}{E T:TypeId}{lc:List Value}{enc:α->List Value}{A:Option Addr}{l:List α}(h:Rd w B E enc A l)(ho:Only b w w')(hb:Blk w b T lc)(hT:Nat.beq E T=false) : Rd w' B E enc A l:=
 h.chg fun k cs fz _ hh=>ho.block k (by
  rintro rfl
  unfold Blk at hb
  rw [hh] at hb
  injection hb with hb
  injection hb with _ e _
  subst e
  simp at hT)
theorem Rd.drew{w:World}{B:Nat}{E:TypeId}{enc:α->List Value}{A:Option Addr}{l:List α}(h:Rd w B E enc A l) : Rd w.drew B E enc A l:=h
theorem X6d{enc:α->List Value}{sz:Nat}(hsz:∀ x,(enc x).length=sz) : ∀ (l:List α) (k:Nat) (x:α),l[k]? = some x->∀ j v,(enc x)[j]? = some v->(l.flatMap enc)[k*sz+j]? = some v
 | [],k,x,h=>by simp at h
 | y::l,0,x,h=>by
  intro j v hj
  obtain rfl:y=x:=by simpa using h
  simp only [Wc,Nat.zero_mul,Nat.zero_add]
  rw [List.getElem?_append_left (Qg.1 hj).1]
  exact hj
 | y::l,k+1,x,h=>by
  intro j v hj
  simp only [Wc]
  have h1:(k+1)*sz+j=sz+(k*sz+j):=by rw [Wb];omega
  rw [h1,W5 (by rw [hsz];omega),hsz,Nat.add_sub_cancel_left]
  exact X6d hsz l k x (by simpa using h) j v hj
theorem Xu{enc:α->List Value}{sz:Nat}(hsz:∀ x,(enc x).length=sz)(l:List α) : (l.flatMap enc).length=l.length*sz:=by
 induction l with
 | nil=>simp
 | cons x l ih=>simp only [Wc,Qh,hsz,ih,Qs,Wb];omega
theorem Rd.at{w:World}{B:Nat}{E:TypeId}{enc:α->List Value}{A:Option Addr}{l:List α}{sz:Nat}(hsz:∀ x,(enc x).length=sz)(h:Rd w B E enc A l){k:Nat}{x:α}(hk:l[k]? = some x) :
  ∃ p,A=some p/\At w (p.add (k*sz)) (enc x):=by
 have hl:l≠[]:=by rintro rfl;simp at hk
 obtain ⟨b,off,cs,fz,rfl,h2,h3,h4⟩:=h hl
 refine ⟨_,rfl,fun j v hj=>?_⟩
 rw [X1s,X1s]
 have:=h4 _ _ (X6d hsz l k x hk j v hj)
 simp only [World.cell?,h3]
 rw [Nat.add_assoc]
 simpa using this
theorem Rd.of_blk{w:World}{b:Nat}{E:TypeId}{enc:α->List Value}{l:List α}{cs:List Value}(h:Blk w b E cs)(hcs:l.flatMap enc=cs)(B:Nat)(hB:b<B) : Rd w B E enc (some ⟨b,0,none⟩) l:=fun _=>by
 subst hcs
 exact ⟨b,0,_,_,rfl,hB,h,fun j v hj=>by simpa using hj⟩
def Own(w:World)(B0:Nat)(E:TypeId)(sz:Nat)(enc:α->List Value)(A:Option Addr)(c:Nat)(l:List α) : Prop:=w.ownsRow B0 E sz (.slice A l.length c) l.length (l.flatMap enc)
theorem Own.rd{w:World}{B0:Nat}{E:TypeId}{sz:Nat}{enc:α->List Value}{A:Option Addr}{c:Nat}{l:List α}(h:Own w B0 E sz enc A c l) : Rd w w.heap.size E enc A l:=fun hl=>by
 rcases h.2 with ⟨h1,h2⟩|⟨g,cap,cur,h1,h2,h3,h4,h5,h6,h7⟩
 ·exact absurd (List.eq_nil_of_length_eq_zero h2) hl
 ·injection h1 with h1
  refine ⟨g,0,cur,_,h1,(Qp.1 h3).1,h3,fun j v hj=>?_⟩
  rw [<- h7,List.getElem?_take] at hj
  split at hj
  ·simpa using hj
  ·cases hj
theorem Own.nil(w:World)(B0:Nat)(E:TypeId)(sz:Nat)(enc:α->List Value) : Own w B0 E sz enc none 0 []:=⟨by simp,.inl ⟨rfl,rfl⟩⟩
theorem Own.empty{w:World}{B0 b:Nat}{E:TypeId}{sz:Nat}{enc:α->List Value}(h:Blk w b E [])(hb:B0<=b) : Own w B0 E sz enc (some ⟨b,0,none⟩) 0 ([] : List α):=
 ⟨by simp,.inr ⟨b,0,#[],rfl,hb,h,Qb _,by simp [maxLen],by simp,by simp⟩⟩
theorem Own.of_blk{w:World}{B0 b:Nat}{E:TypeId}{sz:Nat}{enc:α->List Value}{l:List α}{cs:List Value}(h:Blk w b E cs)(hb:B0<=b)(hcs:l.flatMap enc=cs)(hsz:∀ x,(enc x).length=sz)(hm:l.length<=maxLen) : Own w B0 E sz enc (some ⟨b,0,none⟩) l.length l:=by
 subst hcs
 have hl:=Xu hsz l;exact ⟨hl,.inr ⟨b,l.length,_,rfl,hb,h,Qb _,hm,by simpa using hl,by simp only [List.toList_toArray];rw [<- hl];exact List.take_length⟩⟩
theorem Own.bw{w w':World}{B0:Nat}{E:TypeId}{sz:Nat}{enc:α->List Value}{A:Option Addr}{c:Nat}{l:List α}(h:Own w B0 E sz enc A c l)(hb:Below w.heap.size w w') : Own w' B0 E sz enc A c l:=by
 refine ⟨h.1,?_⟩
 rcases h.2 with h1|⟨g,cap,cur,h1,h2,h3,h4⟩
 ·exact .inl h1
 ·exact .inr ⟨g,cap,cur,h1,h2,(hb.block g (Qp.1 h3).1).trans h3,h4⟩
theorem Own.oT{w w':World}{B0 b:Nat}{E T:TypeId}{lc:List Value}{sz:Nat}{enc:α->List Value}{A:Option Addr}{c:Nat}{l:List α}(h:Own w B0 E sz enc A c l)(ho:Only b w w')(hb:Blk w b T lc)(hT:Nat.beq E T=false) : Own w' B0 E sz enc A c l:=by
 refine ⟨h.1,?_⟩
 rcases h.2 with h1|⟨g,cap,cur,h1,h2,h3,h4⟩
 ·exact .inl h1
 ·refine .inr ⟨g,cap,cur,h1,h2,(ho.block g ?_).trans h3,h4⟩
  rintro rfl
  unfold Blk at hb
  rw [h3] at hb
  injection hb with hb
  injection hb with _ e _
  subst e
  simp at hT
theorem Own.drew{w:World}{B0:Nat}{E:TypeId}{sz:Nat}{enc:α->List Value}{A:Option Addr}{c:Nat}{l:List α}(h:Own w B0 E sz enc A c l) : Own w.drew B0 E sz enc A c l:=h
theorem Own.block{w:World}{B0:Nat}{E:TypeId}{sz:Nat}{enc:α->List Value}{A:Option Addr}{c:Nat}{l:List α}(h:Own w B0 E sz enc A c l){k:Nat}(hk:(Value.slice A l.length c).ownBlock=some k) : B0<=k/\k<w.heap.size/\∃ cs fz,w.heap[k]? = some (.cells cs E fz):=by
 rcases h.2 with ⟨h1,_⟩|⟨g,cap,cur,h1,h2,h3,_⟩
 ·rw [h1] at hk;simp [Value.ownBlock] at hk
 ·rw [h1] at hk
  simp [Value.ownBlock] at hk
  subst hk
  exact ⟨h2,(Qp.1 h3).1,_,_,h3⟩
def Away(A:Option Addr)(b:Nat) : Prop:=∀ p,A=some p->p.block≠b
def AwayR(l:List α)(A:Option Addr)(b:Nat) : Prop:=l≠[]->Away A b
theorem Away.no(b:Nat) : Away none b:=fun p h=>by cases h
theorem Away.ne{g off b:Nat}(h:b≠g) : Away (some ⟨g,off,none⟩) b:=fun p hp=>by injection hp with hp;subst hp;exact Ne.symm h
theorem Rd.away{w:World}{B b:Nat}{E:TypeId}{enc:α->List Value}{A:Option Addr}{l:List α}(h:Rd w B E enc A l)(hl:w.heap.size<=b) : AwayR l A b:=fun hne p hp=>by
 obtain ⟨g,off,cs,fz,h1,h2,h3,h4⟩:=h hne
 rw [hp] at h1
 injection h1 with h1
 subst h1
 have:=(Qp.1 h3).1
 intro e
 simp only at e
 omega
theorem Own.away{w:World}{B0 b:Nat}{E:TypeId}{sz:Nat}{enc:α->List Value}{A:Option Addr}{c:Nat}{l:List α}(h:Own w B0 E sz enc A c l)(hl:w.heap.size<=b) : Away A b:=fun p hp=>by
 rcases h.2 with ⟨h1,_⟩|⟨g,cap,cur,h1,h2,h3,_⟩
 ·injection h1 with h1;rw [h1] at hp;cases hp
 ·injection h1 with h1
  rw [h1] at hp
  injection hp with hp
  subst hp
  have:=(Qp.1 h3).1
  intro e
  simp only at e
  omega
theorem Own.awayNew{w:World}{B0 b:Nat}{E:TypeId}{sz:Nat}{enc:α->List Value}{A:Option Addr}{c:Nat}{l:List α}(h:Own w B0 E sz enc A c l)(hl:b<B0) : Away A b:=fun p hp=>by
 rcases h.2 with ⟨h1,_⟩|⟨g,cap,cur,h1,h2,h3,_⟩
 ·injection h1 with h1;rw [h1] at hp;cases hp
 ·injection h1 with h1
  rw [h1] at hp
  injection hp with hp
  subst hp
  intro e
  simp only at e
  omega
theorem Away.r{l:List α}{A:Option Addr}{b:Nat}(h:Away A b) : AwayR l A b:=fun _=>h
theorem Rd.onlyA{w w':World}{B b:Nat}{E:TypeId}{enc:α->List Value}{A:Option Addr}{l:List α}(h:Rd w B E enc A l)(ho:Only b w w')(ha:AwayR l A b) : Rd w' B E enc A l:=fun hne=>by
 obtain ⟨g,off,cs,fz,h1,h2,h3,h4⟩:=h hne;exact ⟨g,off,cs,fz,h1,h2,(ho.block g (ha hne _ h1)).trans h3,h4⟩
theorem Own.onlyA{w w':World}{B0 b:Nat}{E:TypeId}{sz:Nat}{enc:α->List Value}{A:Option Addr}{c:Nat}{l:List α}(h:Own w B0 E sz enc A c l)(ho:Only b w w')(ha:Away A b) : Own w' B0 E sz enc A c l:=by
 refine ⟨h.1,?_⟩
 rcases h.2 with h1|⟨g,cap,cur,h1,h2,h3,h4⟩
 ·exact .inl h1
 ·injection h1 with h1 h1' h1''
  exact .inr ⟨g,cap,cur,by rw [h1,h1''],h2,(ho.block g (ha _ h1)).trans h3,h4⟩
def Appended(w:World)(B0:Nat)(E:TypeId)(sz:Nat)(enc:α->List Value)(A:Option Addr)(c:Nat)(l l2:List α)(v:Value)(w':World) : Prop:=
 ∃ A' c',v=.slice A' (l++l2).length c'/\Own w' B0 E sz enc A' c' (l++l2)/\w.grownBy w' (Value.slice A l.length c).ownBlock/\∀ b,b<w.heap.size->Away A b->Away A' b
theorem Blk.appT{w w':World}{b:Nat}{T:TypeId}{lc:List Value}{B0:Nat}{E:TypeId}{sz:Nat}{enc:α->List Value}{A:Option Addr}{c:Nat}{l:List α}(h:Blk w b T lc)(ho:Own w B0 E sz enc A c l)(hg:w.grownBy w' (Value.slice A l.length c).ownBlock)(hT:Nat.beq E T=false) : Blk w' b T lc:=by
 refine (hg.block b h.lt fun hk=>?_).trans h
 obtain ⟨_,_,cs,fz,h3⟩:=ho.block hk.symm
 unfold Blk at h
 rw [h3] at h
 injection h with h
 injection h with _ e _
 subst e
 simp at hT
theorem Blk.appB{w w':World}{b:Nat}{T:TypeId}{lc:List Value}{B0:Nat}{E:TypeId}{sz:Nat}{enc:α->List Value}{A:Option Addr}{c:Nat}{l:List α}(h:Blk w b T lc)(ho:Own w B0 E sz enc A c l)(hg:w.grownBy w' (Value.slice A l.length c).ownBlock)(hb:b<B0) : Blk w' b T lc:=
 (hg.block b h.lt fun hk=>by have:=(ho.block hk.symm).1;omega).trans h
theorem Blk.appA{w w':World}{b:Nat}{T:TypeId}{lc:List Value}{A:Option Addr}{n c:Nat}(h:Blk w b T lc)(hg:w.grownBy w' (Value.slice A n c).ownBlock)(ha:Away A b) : Blk w' b T lc:=by
 refine (hg.block b h.lt fun hk=>?_).trans h
 cases A with
 | none=>simp [Value.ownBlock] at hk
 | some q=>
  simp only [Value.ownBlock,Option.some.injEq] at hk
  exact ha q rfl hk.symm
theorem Rd.appT{β:Type}{w w':World}{B:Nat}{E':TypeId}{enc':β->List Value}{A':Option Addr}{l':List β}{B0:Nat}{E:TypeId}{sz:Nat}{enc:α->List Value}{A:Option Addr}{c:Nat}{l:List α}(h:Rd w B E' enc' A' l')(ho:Own w B0 E sz enc A c l)(hg:w.grownBy w' (Value.slice A l.length c).ownBlock)(hT:Nat.beq E E'=false) : Rd w' B E' enc' A' l':=
 h.chg fun k cs fz _ hh=>hg.block k (Qp.1 hh).1 fun hk=>by
  obtain ⟨_,_,cs',fz',h3⟩:=ho.block hk.symm
  rw [h3] at hh
  injection hh with hh
  injection hh with _ e _
  subst e
  simp at hT
theorem Rd.appB{β:Type}{w w':World}{B:Nat}{E':TypeId}{enc':β->List Value}{A':Option Addr}{l':List β}{B0:Nat}{E:TypeId}{sz:Nat}{enc:α->List Value}{A:Option Addr}{c:Nat}{l:List α}(h:Rd w B E' enc' A' l')(ho:Own w B0 E sz enc A c l)(hg:w.grownBy w' (Value.slice A l.length c).ownBlock)(hB:B<=B0) : Rd w' B E' enc' A' l':=
 h.chg fun k cs fz hk hh=>hg.block k (Qp.1 hh).1 fun hk'=>by have:=(ho.block hk'.symm).1;omega
theorem Own.appT{β:Type}{w w':World}{B1:Nat}{E':TypeId}{sz':Nat}{enc':β->List Value}{A':Option Addr}{c':Nat}{l':List β}{B0:Nat}{E:TypeId}{sz:Nat}{enc:α->List Value}{A:Option Addr}{c:Nat}{l:List α}(h:Own w B1 E' sz' enc' A' c' l')(ho:Own w B0 E sz enc A c l)(hg:w.grownBy w' (Value.slice A l.length c).ownBlock)(hT:Nat.beq E E'=false) : Own w' B1 E' sz' enc' A' c' l':=by
 refine ⟨h.1,?_⟩
 rcases h.2 with h1|⟨g,cap,cur,h1,h2,h3,h4⟩
 ·exact .inl h1
 ·refine .inr ⟨g,cap,cur,h1,h2,(hg.block g (Qp.1 h3).1 fun hk=>?_).trans h3,h4⟩
  obtain ⟨_,_,cs',fz',h5⟩:=ho.block hk.symm
  rw [h5] at h3
  injection h3 with h3
  injection h3 with _ e _
  subst e
  simp at hT
theorem Below.app{w0 w w':World}{B B0:Nat}{E:TypeId}{sz:Nat}{enc:α->List Value}{A:Option Addr}{c:Nat}{l:List α}(h:Below B w0 w)(ho:Own w B0 E sz enc A c l)(hg:w.grownBy w' (Value.slice A l.length c).ownBlock)(hB:B<=B0)(hs:B<=w.heap.size) : Below B w0 w':=
 h.grown hg hs fun k hk=>by have:=(ho.block hk).1;omega
def InfoT(P:Program)(E:TypeId)(sz bytes:Nat) : Prop:=∃ i z,P.info? E=some i/\i.zero=some z/\i.size=sz/\i.bytes=bytes/\z.cells.size=sz/\0<sz
section
variable {P : Program} {a : Act} {w : World} {n : Nat} {e : Env} {ty : TypeId} {pos : String} {af : Array Edge} {g : Option (Nat × Bool)} {d : Option Tmp}
theorem Xhy{T E:TypeId}{sz bytes B B0:Nat}{x y:Operand}{enc:α->List Value}{A A2:Option Addr}{c c2:Nat}{l l2:List α}(hf:Fr a n e)(hx:ev e x=some (.slice A l.length c))(hy:ev e y=some (.slice A2 l2.length c2))
  (hT:SliceT P T E) (hi:InfoT P E sz bytes) (hsz:∀ x,(enc x).length=sz) (hone:∀ x,(enc x).all one=true) (ho:Own w B0 E sz enc A c l) (hr:Rd w B E enc A2 l2) (h63:l.length+l2.length<=maxLen) (hbytes:(l.length+l2.length)*bytes<=140737488355328) (hB0:B0<=w.heap.size) :
  Ef P ⟨d,.call ⟨.builtin .append,#[x,y],#[T,T]⟩,ty,pos,af,g⟩ a w (Appended w B0 E sz enc A c l l2):=by
 obtain ⟨i,z,hi1,hi2,hi3,hi4,hi5,hi6⟩:=hi
 by_cases hl2:l2=[]
 ·subst hl2
  have hrun:(Builtin.append_ #[T,T] ty #[.slice A l.length c,.slice A2 0 c2]).run P w=.ok (.slice A l.length c) w:=by
   rcases ho.2 with ⟨h1,h2⟩|⟨gg,cap,cur,h1,h2,h3,h4,h5,h6,h7⟩
   ·injection h1 with h1 h1' h1''
    subst h1
    cases A2<;>simp [Builtin.append_,X0g hT,sizeOf,typeInfo,hi1,Builtin.lenOf,Builtin.firstCells,loadCells,loadCellsFrom,h1',h1'']
   ·injection h1 with h1 _ h1''
    subst h1;subst h1''
    cases A2<;>simp [Builtin.append_,X0g hT,sizeOf,typeInfo,hi1,Builtin.lenOf,Builtin.firstCells,loadCells,loadCellsFrom,h4,storeCells]
  refine (Ef.of_run (v:=.slice A l.length c) (w':=w) ?_).mono fun v w' ⟨e1,e2⟩=>?_
  ·simp only [List.length_nil] at hy
   simp [execOp,resolve,invoke,builtin,hf.ev hx,hf.ev hy,hrun]
  ·subst e1;subst e2
   exact ⟨A,c,by simp,by simpa using ho,World.grownBy.refl w' _,fun _ _ h=>h⟩
 ·obtain ⟨b,off,cs,fz,rfl,h2,h3,h4⟩:=hr hl2;obtain ⟨v',w',hrun,hown,hg,_,hat⟩:=run_append_own_at (P:=P) w B0 T ty E i z sz bytes hT hi1 hi2 hi3 hi4 hi5 hi6 (.slice A l.length c) l.length (l.flatMap enc) ho ⟨b,off,none⟩ l2.length c2 (l2.flatMap enc) (Xu hsz l2)
   (fun j u hu=>by
    have:=h4 j u hu
    rw [X1s]
    simp [World.cell?,h3,this])
   (fun u hu=>by
    obtain ⟨x,_,hx⟩:=List.mem_flatMap.1 hu
    have:=W1.1 (hone x) u hx
    cases u<;>simp_all [Value.oneCell',one]) h63 hbytes hB0
  refine (Ef.of_run (v:=v') (w':=w') ?_).mono fun v w1 ⟨e1,e2⟩=>?_
  ·simp [execOp,resolve,invoke,builtin,hf.ev hx,hf.ev hy,hrun]
  ·subst e1;subst e2
   have hv:∃ A' c',v=.slice A' (l++l2).length c':=by
    rcases hown.2 with ⟨h1,h2⟩|⟨gg,cap,cur,h1,_⟩
    ·exact ⟨none,0,by rw [h1,Qh,h2]⟩
    ·exact ⟨_,_,by rw [h1,Qh]⟩
   obtain ⟨A',c',rfl⟩:=hv
   refine ⟨A',c',rfl,?_,hg,fun b hb ha p hp=>?_⟩
   rotate_left
   ·subst hp
    rcases hat with hat|hat
    ·cases A with
     | none=>simp [Value.ownBlock] at hat
     | some q=>
      simp only [Value.ownBlock,Option.some.injEq] at hat
      rw [hat]
      exact ha q rfl
    ·simp only [Value.ownBlock,Option.some.injEq] at hat
     rw [hat]
     omega
   unfold Own
   rw [Qh,List.flatMap_append]
   simpa [Qh] using hown
theorem X0t{T E:TypeId}{sz bytes B B0:Nat}{x y:Operand}{enc:α->List Value}{A A2:Option Addr}{c c2:Nat}{l l2:List α}(hx:ev e x=some (.slice A l.length c))(hy:ev e y=some (.slice A2 l2.length c2))(hT:SliceT P T E)(hi:InfoT P E sz bytes)(hsz:∀ x,(enc x).length=sz)(hone:∀ x,(enc x).all one=true)(ho:Own w B0 E sz enc A c l)(hr:Rd w B E enc A2 l2)(h63:l.length+l2.length<=maxLen)(hbytes:(l.length+l2.length)*bytes<=140737488355328)(hB0:B0<=w.heap.size) : EfW P ⟨d,.call ⟨.builtin .append,#[x,y],#[T,T]⟩,ty,pos,af,g⟩ n e w (Appended w B0 E sz enc A c l l2):=fun a hf=>Xhy hf hx hy hT hi hsz hone ho hr h63 hbytes hB0
theorem X7i{T E:TypeId}{sz:Nat}{x y:Operand}{p:Addr}{c:Nat}{k:Nat}{i:Int}{m:Nat}(hf:Fr a n e)(hx:ev e x=some (.slice (some p) m c))(hy:ev e y=some (.int .i64 i))(hT:SliceT P T E)(hs:SizeT P E sz)
  (hi:i=(k:Int)) (hk:k<m) : Ev P ⟨d,.indexAddr T x y,ty,pos,af,g⟩ a w (.pointer (some (p.add (k*sz)))):=fun w' _=>by
 subst hi
 have h1:=X0g (P:=P) hT w';have h2:=run_sizeOf' hs w'
 have h3:((k:Int)<(m:Int))=True:=by simp;omega
 simp [execOp,Instr.indexAt,asIntOf,hf.ev hx,hf.ev hy,h1,h2,hk]
end
end
section
variable {P : Program} {Q : Exit -> Act -> World -> Prop} {a : Act} {w : World} {n : Nat} {e : Env}
theorem Xi{c:Operand}{x y:Code}{b:Bool}(hf:Fr a n e)(hc:ev e c=some (.bool b))(ht:b=true->x.wp P Q a w)(he:b=false->y.wp P Q a w) : (Code.cond c x y).wp P Q a w:=
 wp_cond_split (hf.ev hc) ht he
theorem Xlx{c:Operand}{x y:Code}(hf:Fr a n e)(hc:ev e c=some (.bool true))(ht:x.wp P Q a w) : (Code.cond c x y).wp P Q a w:=wp_cond_true (hf.ev hc) ht
theorem Xbu{c:Operand}{x y:Code}(hf:Fr a n e)(hc:ev e c=some (.bool false))(ht:y.wp P Q a w) : (Code.cond c x y).wp P Q a w:=wp_cond_false (hf.ev hc) ht
theorem X0a{c:Code}(X:Act->World->Prop)(h:c.wp P (Exit.then X Q) a w)(hX:∀ a w,X a w->Q .normal a w) : c.wp P Q a w:=
 Code.wp_mono (fun e a w hq=>by cases e<;>first|exact hX _ _ hq|exact hq) h
theorem X01{σ:Type}{c:Code}(I:σ->Act->World->Prop)(μ:σ->Nat)(s:σ)(h0:I s a w)
  (round:∀ s a w,I s a w->c.wp P (Exit.then (fun a' w'=>∃ s',I s' a' w'/\μ s'<μ s) Q) a w) : (Code.loop c).wp P Q a w:=by
 intro b k cs
 have key:∀ n s a w,μ s=n->I s a w->∃ e a' w',Q e a' w'/\Arrives P (lone (b.at a (.code c::.inLoop c::k)) cs w) b k cs e a' w':=by
  intro n
  induction n using Nat.strongRecOn with
  | _ n ih=>
   intro s a w hn hI;obtain ⟨e,a₁,w₁,hq,harr⟩:=round s a w hI b (.inLoop c::k) cs
   cases e with
   | normal=>
    obtain ⟨s',hI₁,hlt⟩:=hq;obtain ⟨e₂,a₂,w₂,hq₂,harr₂⟩:=ih (μ s') (hn▸hlt) s' a₁ w₁ rfl hI₁;exact ⟨e₂,a₂,w₂,hq₂,.of_steps (Steps.trans harr (.one step_inLoop)) harr₂⟩
   | exit id=>exact ⟨_,a₁,w₁,hq,.pass (x:=.inLoop c) rfl (fun _ _=>.inl (by simp)) harr⟩
   | goto l=>exact ⟨_,a₁,w₁,hq,.pass (x:=.inLoop c) rfl (fun _ _=>.inl (by simp)) harr⟩
   | ret=>exact ⟨_,a₁,w₁,hq,.pass (x:=.inLoop c) rfl (fun _ _=>.inl (by simp)) harr⟩
   | panic ch=>exact ⟨_,a₁,w₁,hq,.pass (x:=.inLoop c) rfl (fun _ _=>.inl (by simp)) harr⟩
   | outgrown=>exact ⟨_,a₁,w₁,hq,.pass (x:=.inLoop c) rfl (fun _ _=>.inl (by simp)) harr⟩
 obtain ⟨e,a',w',hq,harr⟩:=key _ s a w rfl h0;exact ⟨e,a',w',hq,.of_steps (.one step_loop) harr⟩
def evp(e:Env) : List (Nat×Operand)->Option (List (Nat×Value))
 | []=>some []
 | (i,x)::l=>match ev e x,evp e l with
  | some v,some vs=>some ((i,v)::vs)
  | _,_=>none
theorem Fr.evp(hf:Fr a n e) : ∀ {l:List (Nat×Operand)} {vs:List (Nat×Value)},evp e l=some vs->l.map (fun p=>(p.1,a.eval p.2))=vs:=by
 intro l
 induction l with
 | nil=>intro vs h;simpa [YtpifljegadknkaaGreat.evp] using h
 | cons x l ih=>
  obtain ⟨i,x⟩:=x;intro vs h
  simp only [YtpifljegadknkaaGreat.evp] at h
  split at h
  ·rename_i v us h1 h2
   injection h with h
   subst h
   simp [hf.ev h1,ih h2]
  ·cases h
def numb:Nat->List Value->List (Nat×Value)
 | _,[]=>[]
 | k,v::l=>(k,v)::numb (k+1) l
section
variable {ty : TypeId} {pos : String} {af : Array Edge} {g : Option (Nat × Bool)} {d : Option Tmp}
theorem Xma{T:TypeId}{parts:List (Nat×Operand)}{ps:List (Nat×Value)}{cs:List Value}(hf:Fr a n e)(hp:evp e parts=some ps)(hb:∀ w,(Instr.build T ps.toArray).run P w=.ok (.agg cs.toArray) w) :
  Ev P ⟨d,.build T parts.toArray,ty,pos,af,g⟩ a w (.agg cs.toArray):=fun w' _=>by
 have h1:=hf.evp hp;have h2:=hb w'
 simp only [execOp,List.map_toArray]
 rw [show (List.map (fun x:Nat×Operand=>match x with|(i,x)=>(i,a.eval x)) parts)=ps from h1]
 simp [h2]
theorem X0s{T:TypeId}{parts:List (Nat×Operand)}{ps:List (Nat×Value)}{cs:List Value}(hp:evp e parts=some ps)(hb:∀ w,(Instr.build T ps.toArray).run P w=.ok (.agg cs.toArray) w) : EvW P ⟨d,.build T parts.toArray,ty,pos,af,g⟩ n e w (.agg cs.toArray):=fun a hf=>Xma hf hp hb
theorem X9y(off:Nat) : ∀ (l:List Value) (m:Nat) (cs:Array Value),off+m+l.length<=cs.size->((l.zipIdx m).foldl (fun cs p=>cs.setIfInBounds (off+p.2) p.1) cs).toList=splice cs.toList (off+m) l
 | [],m,cs,_=>by simp [splice]
 | v::l,m,cs,h=>by
  simp only [Qs] at h
  simp only [List.zipIdx_cons,List.foldl_cons]
  rw [X9y off l (m+1) _ (by simp;omega)]
  unfold splice
  have e1:off+(m+1)=off+m+1:=by omega
  rw [e1,Array.toList_setIfInBounds,Wf (by simp;omega),List.take_set_of_le (by omega),List.getElem_set_self,List.drop_set_of_lt (by omega)]
  simp only [Qs,Qx,Wa,List.nil_append]
  rw [show off+m+1+l.length=off+m+(l.length+1) from by omega]
theorem X7m(sz:Nat) : ∀ (vs:List Value) (k:Nat) (cells:Array Value),(∀ v ∈ vs,v.cells.size=sz)->cells.size=(k+vs.length)*sz->
  Instr.fill (fun i=>some (i*sz,sz)) cells (numb k vs)=some (cells.toList.take (k*sz)++vs.flatMap fun v=>v.cells.toList).toArray
 | [],k,cells,_,h=>by
  simp only [List.length_nil,Nat.add_zero] at h
  have h9:cells.toList.take (k*sz)=cells.toList:=Qi (by simp [h])
  simp [numb,Instr.fill,h9]
 | v::vs,k,cells,h1,h=>by
  have hv:=h1 v (by simp)
  simp only [Qs] at h
  have h2:k*sz+sz<=cells.size:=by rw [h,Wb,Wb];omega
  simp only [numb,Instr.fill,hv]
  rw [Q3 (by simp;omega)]
  have e1:(v.cells.zipIdx.foldl (fun cs (p:Value×Nat)=>cs.setIfInBounds (k*sz+p.2) p.1) cells).toList=splice cells.toList (k*sz) v.cells.toList:=by
   have:=X9y (k*sz) v.cells.toList 0 cells (by simp [hv];omega)
   rw [<- Array.foldl_toList,Array.toList_zipIdx]
   simpa using this
  have hs:(v.cells.zipIdx.foldl (fun cs (p:Value×Nat)=>cs.setIfInBounds (k*sz+p.2) p.1) cells).size=cells.size:=by
   rw [<- Array.length_toList,e1]
   simp [splice,hv]
   omega
  have ih:=X7m sz vs (k+1) (v.cells.zipIdx.foldl (fun cs (p:Value×Nat)=>cs.setIfInBounds (k*sz+p.2) p.1) cells) (fun u hu=>h1 u (by simp [hu])) (by rw [hs,h];congr 1;omega)
  refine Eq.trans ih ?_
  rw [e1]
  congr 2
  simp only [Wc]
  rw [<- Qx]
  congr 1
  unfold splice
  have e2:(cells.toList.take (k*sz)++v.cells.toList).length=(k+1)*sz:=by simp [hv,Wb];omega
  rw [<- e2,List.take_left]
theorem X9l{T E sz bytes:Nat}{k:Nat}{parts:List (Nat×Operand)}{vs zs:List Value}(hf:Fr a n e)(hp:evp e parts=some (numb 0 vs))(hT:SliceT P T E)(hi:InfoT P E sz bytes)(hv:(vs.all (fun v=>Nat.beq v.cells.size sz)&&Nat.beq vs.length k&&Nat.ble (k*sz) 1000)=true)(hz:vs.flatMap (fun v=>v.cells.toList)=zs) :
  Ef P ⟨d,.buildSlice T k parts.toArray,ty,pos,af,g⟩ a w (fun v w'=>∃ b,v=.slice (some ⟨b,0,none⟩) k k/\w.heap.size<=b/\Below w.heap.size w w'/\Blk w' b E zs):=by
 subst hz
 obtain ⟨i,z,hi1,hi2,hi3,hi4,hi5,hi6⟩:=hi
 simp only [Qd,W1] at hv
 obtain ⟨⟨hv1,hv2⟩,hv3⟩:=hv
 have hk:vs.length=k:=Nat.eq_of_beq_eq_true hv2
 have hk3:k*sz<=1000:=Nat.le_of_ble_eq_true hv3
 have h1:=hf.evp hp
 have hfill:=X7m sz vs 0 ((Array.range (k*sz)).map fun j=>z.cells[j % z.cells.size]!) (fun v hv=>Nat.eq_of_beq_eq_true (hv1 v hv)) (by simp [hk])
 simp only [Nat.zero_mul,List.take_zero,List.nil_append] at hfill
 refine (Ef.of_run (v:=.slice (some ⟨w.heap.size,0,none⟩) k k) (w':=w.alloc (.cells (vs.flatMap fun v=>v.cells.toList).toArray E)) ?_).mono fun v w' ⟨e1,e2⟩=>?_
 ·simp only [execOp,List.map_toArray]
  rw [show (List.map (fun x:Nat×Operand=>match x with|(i,x)=>(i,a.eval x)) parts)=numb 0 vs from h1]
  have h24:¬ (16777216<k*sz):=by omega
  by_cases h0:k*sz=0
  ·have hf0:Instr.fill (fun i=>some (i*sz,sz)) #[] (numb 0 vs)=some (vs.flatMap fun v=>v.cells.toList).toArray:=by
    rw [<- hfill,h0]
    congr 1
    simp [Array.range_zero']
   simp [Instr.buildSlice,X0g hT,sizeOf,typeInfo,hi1,hi3,h0,newRow,newObj,Sem.run,Array.range_zero',hf0]
  ·simp [Instr.buildSlice,X0g hT,sizeOf,typeInfo,hi1,hi3,h24,h0,zeroValue,hi2,newRow,newObj,Sem.run,hfill]
 ·subst e1;subst e2
  exact ⟨_,rfl,Qb _,(Below.refl _ _).alloc (Qb _) _,X4e w E _⟩
theorem Xn{T E sz bytes:Nat}{k:Nat}{parts:List (Nat×Operand)}{vs zs:List Value}(hp:evp e parts=some (numb 0 vs))(hT:SliceT P T E)(hi:InfoT P E sz bytes)(hv:(vs.all (fun v=>Nat.beq v.cells.size sz)&&Nat.beq vs.length k&&Nat.ble (k*sz) 1000)=true)(hz:vs.flatMap (fun v=>v.cells.toList)=zs) : EfW P ⟨d,.buildSlice T k parts.toArray,ty,pos,af,g⟩ n e w (fun v w'=>∃ b,v=.slice (some ⟨b,0,none⟩) k k/\w.heap.size<=b/\Below w.heap.size w w'/\Blk w' b E zs):=fun a hf=>X9l hf hp hT hi hv hz
theorem Xx0{x y:Operand}{i j:Int}{ts:Array TypeId}(hf:Fr a n e)(hx:ev e x=some (.int .i64 i))(hy:ev e y=some (.int .i64 j)) : Ev P ⟨d,.call ⟨.builtin .max,#[x,y],ts⟩,ty,pos,af,g⟩ a w (.int .i64 (max i j)):=fun w' _=>by
 simp [execOp,resolve,invoke,builtin,Builtin.max_,Builtin.max2,hf.ev hx,hf.ev hy,Int.max_def]
 split<;>simp<;>omega
theorem Xzv{x y:Operand}{i j:Int}{ts:Array TypeId}(hx:ev e x=some (.int .i64 i))(hy:ev e y=some (.int .i64 j)) : EvW P ⟨d,.call ⟨.builtin .max,#[x,y],ts⟩,ty,pos,af,g⟩ n e w (.int .i64 (max i j)):=fun a hf=>Xx0 hf hx hy
end
theorem X1{t:Nat}{e:Env}{b b':Bool}(h:look t e=some (.bool b))(hb:b=b') : look t e=some (.bool b'):=hb▸h
theorem X4{α:Type}{l:List α}{k:Nat}(h:k<l.length) : ∃ u,l[k]? = some u:=⟨l[k],Qc h⟩
section
variable {α : Type} {ops : Array Oper} {rest : List Oper} {ty : TypeId} {pos : String} {af : Array Edge} {g : Option (Nat × Bool)} {d : Nat}
theorem Rd.top{B:Nat}{E:TypeId}{enc:α->List Value}{A:Option Addr}{l:List α}(h:Rd w B E enc A l) : Rd w w.heap.size E enc A l:=fun hl=>by
 obtain ⟨b,off,cs,fz,h1,h2,h3,h4⟩:=h hl;exact ⟨b,off,cs,fz,h1,(Qp.1 h3).1,h3,h4⟩
theorem Xp4{T E E2:TypeId}{sz B:Nat}{x y:Operand}{enc:α->List Value}{A:Option Addr}{c:Nat}{l:List α}{k:Nat}{i:Int}{u:α}(hf:Fr a n e)(hw:Want ops ⟨some d,.indexAddr T x y,ty,pos,af,g⟩ e)(hn:Nat.blt d n=true)
  (hx:ev e x=some (.slice A l.length c)) (hy:ev e y=some (.int .i64 i)) (hT:SliceT P T E) (hs:SizeT P E sz) (hsz:∀ x,(enc x).length=sz) (hr:Rd w B E2 enc A l) (hk:l[k]? = some u) (hi:i=(k:Int))
  (h:∀ a' p,At w p (enc u)->Fr a' n ((d,.pointer (some p))::e)->wpList P ops Q rest a' w) : wpList P ops Q (⟨some d,.indexAddr T x y,ty,pos,af,g⟩::rest) a w:=by
 obtain ⟨p,rfl,hat⟩:=hr.at hsz hk;exact Xy5 hf hw rfl hn (X7i hf hx hy hT hs hi (Qg.1 hk).1) fun a' hf'=>h a' _ hat hf'
theorem Xqg{Q:Act->World->Prop}{tl:Nat->Bool}{fuel:Nat}{done:List Nat}{T E E2:TypeId}{sz B:Nat}{x y:Operand}{enc:α->List Value}{A:Option Addr}{c:Nat}{l:List α}{k:Nat}{i:Int}{u:α}(j:Nat)
  (ho:ops[j]? = some ⟨some d,.indexAddr T x y,ty,pos,af,g⟩) (hm:mayFirst ops done j=true) (ht:tailWaits ops tl j=true) (hf:Fr a n e) (hw:Want ops ⟨some d,.indexAddr T x y,ty,pos,af,g⟩ e) (hn:Nat.blt d n=true)
  (hx:ev e x=some (.slice A l.length c)) (hy:ev e y=some (.int .i64 i)) (hT:SliceT P T E) (hs:SizeT P E sz) (hsz:∀ x,(enc x).length=sz) (hr:Rd w B E2 enc A l) (hk:l[k]? = some u) (hi:i=(k:Int))
  (h:∀ a' p,At w p (enc u)->Fr a' n ((d,.pointer (some p))::e)->wpS P ops none tl Q fuel (mask ops (j::done)) a' w) : wpS P ops none tl Q (fuel+1) (mask ops done) a w:=by
 obtain ⟨p,rfl,hat⟩:=hr.at hsz hk;exact Xy4 j ho hm ht hf hw rfl hn (X7i hf hx hy hT hs hi (Qg.1 hk).1) fun a' hf'=>h a' _ hat hf'
end
theorem X8{K:Act->World->Prop}(h:Q .ret a w) : Exit.then K Q .ret a w:=h
theorem Xw{id:Nat}(h:Q .ret a w) : Exit.inBlock id Q .ret a w:=by simp [Exit.inBlock,h]
theorem Xa{id:Nat}(h:Q .normal a w) : Exit.inBlock id Q .normal a w:=by simp [Exit.inBlock,h]
theorem Xk{K:Act->World->Prop}{id:Nat}(h:Q (.exit id) a w) : Exit.then K Q (.exit id) a w:=h
theorem Xc{K:Act->World->Prop}(h:K a w) : Exit.then K Q .normal a w:=h
theorem X02{id:Nat}(h:Q .normal a w) : Exit.inBlock id Q (.exit id) a w:=by simp [Exit.inBlock,h]
def ResV(P:Program)(w:World)(e:Env) : ResultVar->Value->Prop
 | .tmp t,v=>look t e=some v
 | .cell t T,v=>∃ p,look t e=some (.pointer (some p))/\((OneT P T/\∃ l,At w p (v::l))∨∃ k l,AggT P T k/\At w p l/\l.length=k/\v=.agg l.toArray)
theorem ResV.cellN{t T k:Nat}{p:Addr}{l:List Value}(h:look t e=some (.pointer (some p)))(hA:AggT P T k)(hc:At w p l)(hl:l.length=k) : ResV P w e (.cell t T) (.agg l.toArray):=⟨p,h,.inr ⟨k,l,hA,hc,hl,rfl⟩⟩
theorem X6b(fn:Func)(tmps:Array Value) : ∃ f:ResultVar->Sem Value,(∀ t,f (.tmp t)=pure (tmps.getD t undef))/\(∀ t T,f (.cell t T)=(do loadVar T (<- asAddr (tmps.getD t undef))))/\
  results fn tmps=(do let vs <- fn.results.mapM f;pure (if h:vs.size=1 then vs[0] else .tuple vs)):=⟨_,fun _=>rfl,fun _ _=>rfl,rfl⟩
theorem ResV.run{r:ResultVar}{v:Value}{f:ResultVar->Sem Value}(hf:Fr a n e)(h:ResV P w e r v)(f1:∀ t,f (.tmp t)=pure (a.tmps.getD t undef))(f2:∀ t T,f (.cell t T)=(do loadVar T (<- asAddr (a.tmps.getD t undef)))) : (f r).run P w=.ok v w:=by
 cases r with
 | tmp t=>
  have:=hf.h _ _ h
  simp [f1,this]
 | cell t T=>
  obtain ⟨p,h1,h2⟩:=h;have h3:=hf.h _ _ h1
  rcases h2 with ⟨h4,l,h5⟩|⟨k,l,h4,h5,h6,rfl⟩
  ·simp [f2,h3,asAddr,X56 h4 h5]
  ·simp [f2,h3,asAddr,X51 h4 h5 h6]
section
variable {fn : Func} {R : Ending -> World -> Prop}
theorem Xp{r:ResultVar}{v:Value}(hf:Fr a n e)(hr:fn.results = #[r])(h:ResV P w e r v) : (results fn a.tmps).run P w=.ok v w:=by
 obtain ⟨f,f1,f2,h0⟩:=X6b fn a.tmps;have h1:=h.run hf f1 f2
 rw [h0,hr]
 simp [h1]
theorem X1v{r1 r2:ResultVar}{v1 v2:Value}(hf:Fr a n e)(hr:fn.results = #[r1,r2])(h1:ResV P w e r1 v1)(h2:ResV P w e r2 v2) : (results fn a.tmps).run P w=.ok (.tuple #[v1,v2]) w:=by
 obtain ⟨f,f1,f2,h0⟩:=X6b fn a.tmps;have h1:=h1.run hf f1 f2;have h2:=h2.run hf f1 f2
 rw [h0,hr]
 simp [h1,h2]
theorem Xdk{r1 r2 r3:ResultVar}{v1 v2 v3:Value}(hf:Fr a n e)(hr:fn.results = #[r1,r2,r3])(h1:ResV P w e r1 v1)(h2:ResV P w e r2 v2)(h3:ResV P w e r3 v3) : (results fn a.tmps).run P w=.ok (.tuple #[v1,v2,v3]) w:=by
 obtain ⟨f,f1,f2,h0⟩:=X6b fn a.tmps;have h1:=h1.run hf f1 f2;have h2:=h2.run hf f1 f2;have h3:=h3.run hf f1 f2
 rw [h0,hr]
 simp [h1,h2,h3]
theorem X6{v:Value}{R':Value->World->Prop}(hf:Fr a n e)(hr:(results fn a.tmps).run P w=.ok v w)(h:R' v w) : bodyPost P fn (fun e w'=>∃ v,e=.returned v/\R' v w') .ret a w:=⟨hf.d,v,hr,v,rfl,h⟩
theorem X28{v:Value}{R':Value->World->Prop}(hf:Fr a n e)(hr:(results fn a.tmps).run P w=.ok v w)(h:R' v w) : bodyPost P fn (fun e w'=>∃ v,e=.returned v/\R' v w') .normal a w:=⟨hf.d,v,hr,v,rfl,h⟩
theorem X3g(hr:fn.results = #[]) : (results fn a.tmps).run P w=.ok (.tuple #[]) w:=by
 simp only [results,hr]
 simp
end
theorem enter{f:FuncId}{fn:Func}{c:Code}{args:List Value}{R:Value->World->Prop}(hf:P.funcs[f]? = some fn)(hb:fn.body=some c)(n:Nat)(hn:fn.ntmps=n)(hl:Nat.ble args.length n=true)
  (h:∀ a,Fr a n (zipFrom 0 args)->c.wp P (bodyPost P fn (fun e w'=>∃ v,e=.returned v/\R v w')) a w) : Ret P f args w R:=Xl6 hf hb n hn hl h
end
section
variable {P : Program} {ops : Array Oper} {Q : Exit -> Act -> World -> Prop} {w : World} {rest : List Oper} {o : Oper} {op : Op} {ty : TypeId} {pos : String} {af : Array Edge} {g : Option (Nat × Bool)} {n d : Nat} {e : Env} {v : Value} {R : Value -> World -> Prop} {x : Operand}
def WL(P:Program)(ops:Array Oper)(Q:Exit->Act->World->Prop)(l:List Oper)(n:Nat)(e:Env)(w:World) : Prop:=∀ a,Fr a n e->wpList P ops Q l a w
theorem bs:(∀ b,(true&&b)=b)/\(∀ b,(false&&b)=false)/\(∀ b,(true||b)=true)/\∀ b,(false||b)=b:=⟨fun _=>rfl,fun _=>rfl,fun _=>rfl,fun _=>rfl⟩
theorem Vc{f:FuncId}{xs:List Operand}{vs:List Value}{ts:Array TypeId}{D:Option Tmp}(h:Ret P f vs w R)(hF:FuncF P f)(hx:evs e xs=some vs:=by rfl) : EfW P ⟨D,.call ⟨.value (.func f),xs.toArray,ts⟩,ty,pos,af,g⟩ n e w R:=X1k hx hF h
theorem Vn{T t k b:Nat}{l:List Value}{D:Option Tmp}(hA:AggT P t k)(hb:Blk w b T l)(hx:ev e x=some (.pointer (some ⟨b,0,none⟩)):=by rfl)(hl:l.length=k:=by rfl) : EvW P ⟨D,.load t x,ty,pos,af,g⟩ n e w (.agg l.toArray):=X03 hx hA (hb.at 0) hl
theorem Vd{T f k b off:Nat}{D:Option Tmp}(hx:ev e x=some (.pointer (some ⟨b,off,none⟩)))(hF:FieldT P T f k)(m:Nat)(hk:off+k=m:=by rfl) : EvW P ⟨D,.fieldAddr T x f,ty,pos,af,g⟩ n e w (.pointer (some ⟨b,m,none⟩)):=Xpk hx hF hk
theorem Vu{t T:TypeId}{y:Operand}{b off k:Nat}{l l' vs:List Value}{D:Option Tmp}(hx:ev e x=some (.pointer (some ⟨b,off,none⟩)))(hy:ev e y=some v)(hs:SizeT P t k)(hb:Blk w b T l)(hvs:v.cells.toList=vs:=by rfl)(hk:Nat.beq vs.length k=true:=by rfl)(h1:vs.all one=true:=by rfl)(hl:Nat.ble (off+k) l.length=true:=by rfl)(hl':splice l off vs=l':=by rfl) : EfW P ⟨D,.store t x y,ty,pos,af,g⟩ n e w (Stored w b T l'):=X15 hx hy hs hb hvs hk h1 hl hl'
theorem Vw{t T:TypeId}{y:Operand}{b k:Nat}{l:List Value}{D:Option Tmp}(vs:List Value)(hs:SizeT P t k)(hb:Blk w b T l)(hx:ev e x=some (.pointer (some ⟨b,0,none⟩)):=by rfl)(hy:ev e y=some v:=by rfl)(hvs:v.cells.toList=vs:=by rfl)(hk:Nat.beq vs.length k=true:=by rfl)(h1:vs.all one=true:=by rfl)(hl:Nat.ble (0+k) l.length=true:=by rfl)(hl':splice l 0 vs=vs:=by rfl) : EfW P ⟨D,.store t x y,ty,pos,af,g⟩ n e w (Stored w b T vs):=X15 hx hy hs hb hvs hk h1 hl hl'
theorem Ze(hr:EvW P ⟨some d,op,ty,pos,af,none⟩ n e w v)(h:WL P ops Q rest n ((d,v)::e) w)(hn:Nat.blt d n=true:=by rfl) : WL P ops Q (⟨some d,op,ty,pos,af,none⟩::rest) n e w:=fun a hf=>l_e hf hn (hr a hf) h
theorem Zm(hx:ev e x=some v)(h:WL P ops Q rest n ((d,v)::e) w)(hn:Nat.blt d n=true:=by rfl) : WL P ops Q (⟨some d,.move x,ty,pos,af,none⟩::rest) n e w:=fun _ hf=>Y4j hf hx hn h
theorem Za(hx:ev e x=some v)(h:WL P ops Q rest n ((d,v)::e) w)(hn:Nat.blt d n=true:=by rfl) : WL P ops Q (⟨some d,.assign x,ty,pos,af,none⟩::rest) n e w:=fun _ hf=>Y4a hf hx hn h
theorem Zf(hr:EfW P ⟨some d,op,ty,pos,af,none⟩ n e w R)(h:∀ v w',R v w'->WL P ops Q rest n ((d,v)::e) w')(hn:Nat.blt d n=true:=by rfl) : WL P ops Q (⟨some d,op,ty,pos,af,none⟩::rest) n e w:=fun a hf=>l_f hf hn (hr a hf) fun a' v w' hR hf'=>h v w' hR a' hf'
theorem Zo(hr:EfW P ⟨none,op,ty,pos,af,none⟩ n e w R)(h:∀ v w',R v w'->WL P ops Q rest n e w') : WL P ops Q (⟨none,op,ty,pos,af,none⟩::rest) n e w:=fun a hf=>Y57 hf (hr a hf) fun a' v w' hR hf'=>h v w' hR a' hf'
theorem Zv(hw:Want ops o e)(hr:EvW P o n e w v)(h:WL P ops Q rest n ((d,v)::e) w)(hd:o.dst=some d:=by rfl)(hn:Nat.blt d n=true:=by rfl) : WL P ops Q (o::rest) n e w:=fun a hf=>Xy5 hf hw hd hn (hr a hf) h
theorem Zp(hw:Pass ops o e)(h:WL P ops Q rest n ((d,undef)::e) w)(hd:o.dst=some d:=by rfl)(hn:Nat.blt d n=true:=by rfl) : WL P ops Q (o::rest) n e w:=fun _ hf=>Xwb hf hw hd hn h
theorem Zk(hw:Want ops o e)(hr:EfW P o n e w R)(h:∀ v w',R v w'->WL P ops Q rest n ((d,v)::e) w')(hd:o.dst=some d:=by rfl)(hn:Nat.blt d n=true:=by rfl) : WL P ops Q (o::rest) n e w:=fun a hf=>Xjf hf hw hd hn (hr a hf) fun a' v w' hR hf'=>h v w' hR a' hf'
theorem Zg(t:Nat){b:Bool}(_:look t e=some (.bool b))(h1:b=true->WL P ops Q rest n e w)(h2:b=false->WL P ops Q rest n e w) : WL P ops Q rest n e w:=by
 cases b
 ·exact h2 rfl
 ·exact h1 rfl
theorem Zn(h:∀ a,Fr a n e->Q .normal a w) : WL P ops Q [] n e w:=h
theorem Zr{a:Act}{id:Nat}{l:List Oper}(hf:Fr a n e)(h:WL P l.toArray Q l n e w) : (Code.region id l.toArray false).wp P Q a w:=wp_region_lit (h a hf)
theorem Zs{a:Act}{id:Nat}{l:List Oper}{c:Code}(hf:Fr a n e)(h:∀ K:Act->World->Prop,(∀ a w,c.wp P Q a w->K a w)->WL P l.toArray (Exit.then K Q) l n e w) : (Code.seq (Code.region id l.toArray false) c).wp P Q a w:=
 Q5 fun K hK=>wp_region_lit (h K hK a hf)
theorem Zt{c:Code}{K:Act->World->Prop}(hK:∀ a w,c.wp P Q a w->K a w)(h:∀ a,Fr a n e->c.wp P Q a w) : WL P ops (Exit.then K Q) [] n e w:=fun a hf=>hK a w (h a hf)
theorem ZX{c1 c2:Code}{K:Act->World->Prop}(hK:∀ a w,(Code.seq c1 c2).wp P Q a w->K a w)(h:∀ a,Fr a n e->∀ K':Act->World->Prop,(∀ a w,c2.wp P Q a w->K' a w)->c1.wp P (Exit.then K' Q) a w) : WL P ops (Exit.then K Q) [] n e w:=fun a hf=>hK a w (Q5 fun K' hK'=>h a hf K' hK')
theorem Zx{id:Nat}{l:List Oper}{c:Code}{K:Act->World->Prop}(hK:∀ a w,(Code.seq (Code.region id l.toArray false) c).wp P Q a w->K a w)(h:∀ a,Fr a n e->∀ K':Act->World->Prop,(∀ a w,c.wp P Q a w->K' a w)->WL P l.toArray (Exit.then K' Q) l n e w) : WL P ops (Exit.then K Q) [] n e w:=fun a hf=>hK a w (Q5 fun K' hK'=>wp_region_lit (h a hf K' hK' a hf))
theorem Zi{α:Type}{T E E2:TypeId}{sz B k:Nat}{y:Operand}{enc:α->List Value}{A:Option Addr}{c:Nat}{l:List α}{i:Int}{u:α}(hw:Want ops ⟨some d,.indexAddr T x y,ty,pos,af,g⟩ e)(hx:ev e x=some (.slice A l.length c))(hy:ev e y=some (.int .i64 i))(hT:SliceT P T E)(hs:SizeT P E sz)(hsz:∀ x,(enc x).length=sz)(hr:Rd w B E2 enc A l)(hk:l[k]? = some u)(hi:i=(k:Int))
  (h:∀ p,At w p (enc u)->WL P ops Q rest n ((d,.pointer (some p))::e) w) (hn:Nat.blt d n=true:=by rfl) : WL P ops Q (⟨some d,.indexAddr T x y,ty,pos,af,g⟩::rest) n e w:=fun _ hf=>Xp4 hf hw hn hx hy hT hs hsz hr hk hi fun a' p hp hf'=>h p hp a' hf'
theorem Zj{α:Type}{T E E2:TypeId}{sz B m k:Nat}{y:Operand}{enc:α->List Value}{A:Option Addr}{c:Nat}{l:List α}{i:Int}{u:α}(hw:Want ops ⟨some d,.indexAddr T x y,ty,pos,af,g⟩ e)(hx:ev e x=some (.slice A m c))(hm:m=l.length)(hy:ev e y=some (.int .i64 i))(hT:SliceT P T E)(hs:SizeT P E sz)(hsz:∀ x,(enc x).length=sz)(hr:Rd w B E2 enc A l)(hk:l[k]? = some u)(hi:i=(k:Int))
  (h:∀ p,At w p (enc u)->WL P ops Q rest n ((d,.pointer (some p))::e) w) (hn:Nat.blt d n=true:=by rfl) : WL P ops Q (⟨some d,.indexAddr T x y,ty,pos,af,g⟩::rest) n e w:=by
 subst hm
 exact Zi hw hx hy hT hs hsz hr hk hi h hn
end
section
variable {P : Program} {ops : Array Oper} {V : Option Vk} {tl : Nat -> Bool} {Q : Act -> World -> Prop} {fuel : Nat} {done : List Nat} {w : World} {o : Oper} {op : Op} {ty : TypeId} {pos : String} {af : Array Edge} {g : Option (Nat × Bool)} {n d : Nat} {e : Env} {v : Value} {R : Value -> World -> Prop} {x : Operand}
def WS(P:Program)(ops:Array Oper)(V:Option Vk)(tl:Nat->Bool)(Q:Act->World->Prop)(m:Nat)(L:List Nat)(n:Nat)(e:Env)(w:World) : Prop:=∀ a,Fr a n e->wpS P ops V tl Q m (mask ops L) a w
def WR(P:Program)(ops:Array Oper)(V:Option Vk)(tl:Nat->Bool)(Q:Act->World->Prop)(i m:Nat)(L:List Nat)(n:Nat)(e:Env)(w:World) : Prop:=∀ a,Fr a n e->wpR P ops V tl i (wpS P ops V tl Q m (mask ops (i::L))) a w
theorem Yb{a:Act}{m:Nat}{L:List Nat}(hf:Fr a n e)(h:WS P ops V tl Q m L n e w) : wpS P ops V tl Q m (mask ops L) a w:=h a hf
theorem Ye(i:Nat)(hi:ops[i]? = some ⟨some d,op,ty,pos,af,none⟩)(hr:EvW P ⟨some d,op,ty,pos,af,none⟩ n e w v)(h:WS P ops none tl Q fuel (i::done) n ((d,v)::e) w)(hm:mayFirst ops done i=true:=by kernel_rfl)(ht:tailWaits ops tl i=true:=by kernel_rfl)(hn:Nat.blt d n=true:=by rfl) : WS P ops none tl Q (fuel+1) done n e w:=fun a hf=>s_e i hi hm ht hf hn (hr a hf) h
theorem Yo(i:Nat)(hi:ops[i]? = some ⟨some d,op,ty,pos,af,none⟩)(hr:∀ w,EvW P ⟨some d,op,ty,pos,af,none⟩ n e w v)(h:WS P ops V tl Q fuel (i::done) n ((d,v)::e) w)(hm:mayFirst ops done i=true:=by kernel_rfl)(hn:Nat.blt d n=true:=by rfl) : WS P ops V tl Q (fuel+1) done n e w:=fun a hf=>Y47 i hi hm hf hn (fun w=>hr w a hf) h
theorem Yv(i:Nat)(hi:ops[i]? = some o)(hw:Want ops o e)(hr:EvW P o n e w v)(h:WS P ops none tl Q fuel (i::done) n ((d,v)::e) w)(hm:mayFirst ops done i=true:=by kernel_rfl)(ht:tailWaits ops tl i=true:=by kernel_rfl)(hd:o.dst=some d:=by rfl)(hn:Nat.blt d n=true:=by rfl) : WS P ops none tl Q (fuel+1) done n e w:=fun a hf=>Xy4 i hi hm ht hf hw hd hn (hr a hf) h
theorem Yw(i:Nat){b:Nat}(hi:ops[i]? = some o)(hw:Want ops o e)(hr:∀ w1,Only b w w1->EvW P o n e w1 v)(h:WS P ops (some b) tl Q fuel (i::done) n ((d,v)::e) w)(hm:mayFirst ops done i=true:=by kernel_rfl)(ht:tailWaits ops tl i=true:=by kernel_rfl)(hd:o.dst=some d:=by rfl)(hn:Nat.blt d n=true:=by rfl) : WS P ops (some b) tl Q (fuel+1) done n e w:=fun a hf=>Xzd i hi hm ht hf hw hd hn (fun w1 h1=>hr w1 h1 a hf) h
theorem Yn(i:Nat){N:Nat}(hi:ops[i]? = some o)(hw:Want ops o e)(hN:N<=w.heap.size)(hr:∀ w1,Below N w w1->EvW P o n e w1 v)(h:WS P ops (some (.base N)) tl Q fuel (i::done) n ((d,v)::e) w)(hm:mayFirst ops done i=true:=by kernel_rfl)(ht:tailWaits ops tl i=true:=by kernel_rfl)(hd:o.dst=some d:=by rfl)(hn:Nat.blt d n=true:=by rfl) : WS P ops (some (.base N)) tl Q (fuel+1) done n e w:=fun a hf=>Y3w i hi hm ht hf hw hd hn hN (fun w1 h1=>hr w1 h1 a hf) h
theorem Yu(i:Nat)(hi:ops[i]? = some o)(hw:Want ops o e)(hr:∀ w,EvW P o n e w v)(h:WS P ops V tl Q fuel (i::done) n ((d,v)::e) w)(hm:mayFirst ops done i=true:=by kernel_rfl)(hd:o.dst=some d:=by rfl)(hn:Nat.blt d n=true:=by rfl) : WS P ops V tl Q (fuel+1) done n e w:=fun a hf=>Xiw i hi hm hf hw hd hn (fun w=>hr w a hf) h
theorem Yp(i:Nat)(hi:ops[i]? = some o)(hw:Pass ops o e)(h:WS P ops V tl Q fuel (i::done) n ((d,undef)::e) w)(hm:mayFirst ops done i=true:=by kernel_rfl)(hd:o.dst=some d:=by rfl)(hn:Nat.blt d n=true:=by rfl) : WS P ops V tl Q (fuel+1) done n e w:=fun _ hf=>Xx6 i hi hm hf hw hd hn h
theorem Y1(i:Nat)(h:WR P ops V tl Q i fuel done n e w)(hr:Region.ready .any ops (mask ops done)=[i]:=by kernel_rfl) : WS P ops V tl Q (fuel+1) done n e w:=fun a hf=>Y0v i hr (h a hf)
theorem Y2(i j:Nat)(hi:WR P ops V tl Q i fuel done n e w)(hj:WR P ops V tl Q j fuel done n e w)(hr:Region.ready .any ops (mask ops done)=[i,j]:=by kernel_rfl) : WS P ops V tl Q (fuel+1) done n e w:=fun a hf=>Y3a i j hr (hi a hf) (hj a hf)
theorem Yd(h:∀ a,Fr a n e->Q a w)(hr:Region.ready .any ops (mask ops done)=[]:=by kernel_rfl) : WS P ops V tl Q fuel done n e w:=fun a hf=>Xuo hr (h a hf)
theorem Yf{i:Nat}(hi:ops[i]? = some o)(hw:Want ops o e)(hr:EfW P o n e w fun v w'=>(tl i=false->Keep V w w')/\R v w')(h:∀ v w',R v w'->WS P ops V tl Q fuel (i::done) n ((d,v)::e) w')(hd:o.dst=some d:=by rfl)(hn:Nat.blt d n=true:=by rfl) : WR P ops V tl Q i fuel done n e w:=fun a hf=>Xys hi hf hw hd hn (hr a hf) fun a' v w' hR hf'=>h v w' hR a' hf'
theorem Yg{i:Nat}(hi:ops[i]? = some o)(hw:Want ops o e)(hr:EfW P o n e w fun v w'=>(tl i=false->Keep V w w')/\R v w')(h:∀ v w',R v w'->WS P ops V tl Q fuel (i::done) n e w')(hd:o.dst=none:=by rfl) : WR P ops V tl Q i fuel done n e w:=fun a hf=>Xxj hi hf hw hd (hr a hf) fun a' v w' hR hf'=>h v w' hR a' hf'
theorem Yq{i:Nat}(hi:ops[i]? = some o)(hw:Pass ops o e)(h:WS P ops V tl Q fuel (i::done) n ((d,undef)::e) w)(hd:o.dst=some d:=by rfl)(hn:Nat.blt d n=true:=by rfl) : WR P ops V tl Q i fuel done n e w:=fun _ hf=>Xu7 hi hf hw hd hn h
theorem EfW.mono{R':Value->World->Prop}(h:EfW P o n e w R)(hr:∀ v w',R v w'->R' v w') : EfW P o n e w R':=fun a hf=>(h a hf).mono hr
theorem Yt{i:Nat}(hi:ops[i]? = some o)(hw:Want ops o e)(ht:tl i=true)(hr:EfW P o n e w R)(h:∀ v w',R v w'->WS P ops V tl Q fuel (i::done) n ((d,v)::e) w')(hd:o.dst=some d:=by rfl)(hn:Nat.blt d n=true:=by rfl) : WR P ops V tl Q i fuel done n e w:=Yf hi hw (hr.mono fun _ _ h=>⟨fun h0=>absurd h0 (by rw [ht];decide),h⟩) h hd hn
theorem Yh{i:Nat}(hi:ops[i]? = some o)(hw:Want ops o e)(ht:tl i=true)(hr:EfW P o n e w R)(h:∀ v w',R v w'->WS P ops V tl Q fuel (i::done) n e w')(hd:o.dst=none:=by rfl) : WR P ops V tl Q i fuel done n e w:=Yg hi hw (hr.mono fun _ _ h=>⟨fun h0=>absurd h0 (by rw [ht];decide),h⟩) h hd
theorem Yk{i:Nat}(hi:ops[i]? = some o)(hw:Want ops o e)(hr:EfW P o n e w R)(hk:∀ v w',R v w'->Below w.heap.size w w')(h:∀ v w',R v w'->WS P ops none tl Q fuel (i::done) n ((d,v)::e) w')(hd:o.dst=some d:=by rfl)(hn:Nat.blt d n=true:=by rfl) : WR P ops none tl Q i fuel done n e w:=Yf hi hw (hr.mono fun _ _ h=>⟨fun _=>hk _ _ h,h⟩) h hd hn
theorem Yz{i:Nat}{u:Value}(hi:ops[i]? = some o)(hw:Want ops o e)(hr:EfW P o n e w (fun v w'=>v=u/\w=w'))(h:WS P ops V tl Q fuel (i::done) n ((d,u)::e) w)(hd:o.dst=some d:=by rfl)(hn:Nat.blt d n=true:=by rfl) : WR P ops V tl Q i fuel done n e w:=Yf hi hw (hr.mono fun _ _ h=>⟨fun _=>by rw [<- h.2];exact Keep.refl _ _,h⟩) (by rintro _ _ ⟨rfl,rfl⟩;exact h) hd hn
theorem Yl(t:Nat){b:Bool}(_:look t e=some (.bool b))(h1:b=true->WS P ops V tl Q fuel done n e w)(h2:b=false->WS P ops V tl Q fuel done n e w) : WS P ops V tl Q fuel done n e w:=by
 cases b
 ·exact h2 rfl
 ·exact h1 rfl
theorem Yc(D:List Nat)(m:Nat)(X:Act->World->Prop)(h1:∀ a w,X a w->wpS P ops V tl Q m (mask ops D) a w)
  (h2:(∀ L a w,sameL L D=true->X a w->wpS P ops V tl Q m (mask ops L) a w)->WS P ops V tl Q fuel done n e w) : WS P ops V tl Q fuel done n e w:=
 h2 fun L a w h hx=>by rw [Xhp h];exact h1 a w hx
theorem Yi{α:Type}{T E E2:TypeId}{sz B k:Nat}{y:Operand}{enc:α->List Value}{A:Option Addr}{c:Nat}{l:List α}{i:Int}{u:α}(j:Nat)(ho:ops[j]? = some ⟨some d,.indexAddr T x y,ty,pos,af,g⟩)(hw:Want ops ⟨some d,.indexAddr T x y,ty,pos,af,g⟩ e)(hx:ev e x=some (.slice A l.length c))(hy:ev e y=some (.int .i64 i))(hT:SliceT P T E)(hs:SizeT P E sz)(hsz:∀ x,(enc x).length=sz)(hr:Rd w B E2 enc A l)(hk:l[k]? = some u)(hi:i=(k:Int))
  (h:∀ p,At w p (enc u)->WS P ops none tl Q fuel (j::done) n ((d,.pointer (some p))::e) w) (hm:mayFirst ops done j=true:=by kernel_rfl) (ht:tailWaits ops tl j=true:=by kernel_rfl) (hn:Nat.blt d n=true:=by rfl) : WS P ops none tl Q (fuel+1) done n e w:=fun _ hf=>Xqg j ho hm ht hf hw hn hx hy hT hs hsz hr hk hi fun a' p hp hf'=>h p hp a' hf'
theorem Yj{α:Type}{T E E2:TypeId}{sz B m k:Nat}{y:Operand}{enc:α->List Value}{A:Option Addr}{c:Nat}{l:List α}{i:Int}{u:α}(j:Nat)(ho:ops[j]? = some ⟨some d,.indexAddr T x y,ty,pos,af,g⟩)(hw:Want ops ⟨some d,.indexAddr T x y,ty,pos,af,g⟩ e)(hx:ev e x=some (.slice A m c))(hlm:m=l.length)(hy:ev e y=some (.int .i64 i))(hT:SliceT P T E)(hs:SizeT P E sz)(hsz:∀ x,(enc x).length=sz)(hr:Rd w B E2 enc A l)(hk:l[k]? = some u)(hi:i=(k:Int))
  (h:∀ p,At w p (enc u)->WS P ops none tl Q fuel (j::done) n ((d,.pointer (some p))::e) w) (hm:mayFirst ops done j=true:=by kernel_rfl) (ht:tailWaits ops tl j=true:=by kernel_rfl) (hn:Nat.blt d n=true:=by rfl) : WS P ops none tl Q (fuel+1) done n e w:=by
 subst hlm
 exact Yi j ho hw hx hy hT hs hsz hr hk hi h hm ht hn
end
end Go.Proofs.YtpifljegadknkaaGreat
namespace Go.Proofs.YtpifljegadknkaaGreat
theorem X0j{P:Program}{t n:Nat}(h:(P.info? t).map (fun i=>i.size)=some n) : ∃ i,P.info? t=some i/\i.size=n:=by
 cases hi:P.info? t with
 | none=>rw [hi] at h;cases h
 | some i=>rw [hi] at h;injection h with h;exact ⟨i,rfl,h⟩
theorem X21{P:Program}{t:Nat}{z:Option Value}(h:(P.info? t).map (fun i=>i.zero)=some z) : ∃ i,P.info? t=some i/\i.zero=z:=by
 cases hi:P.info? t with
 | none=>rw [hi] at h;cases h
 | some i=>rw [hi] at h;injection h with h;exact ⟨i,rfl,h⟩
theorem X37{P:Program}{t sz bytes:Nat}{z:Value}(h:(P.info? t).map (fun i=>(i.size,i.bytes,i.zero))=some (sz,bytes,some z))(hz:z.cells.size=sz)(h0:0<sz) : InfoT P t sz bytes:=by
 cases hi:P.info? t with
 | none=>rw [hi] at h;cases h
 | some i=>
  rw [hi] at h
  simp only [Option.map_some,Option.some.injEq,Prod.mk.injEq] at h
  exact ⟨i,z,hi,h.2.2,h.1,h.2.1,hz,h0⟩
theorem X0i{P:Program}{T f k:Nat}{fs:Array Field}{F:Field}(h:P.underlying T=some (.struct fs))(h1:fs[f]? = some F)(h2:F.offset=k){n:Nat}(h3:(P.info? F.type).map (fun i=>i.size)=some n)(h4:(n==0)=false) : FieldT P T f k:=by
 obtain ⟨i,hi,rfl⟩:=X0j h3;exact ⟨fs,F,i,h,h1,h2,hi,h4⟩
theorem X7 {P : Program} {f : FuncId} {fn : Func} (h : P.funcs[f]? = some fn) (h1 : (fn.name == "runtime.NumGoroutine") = false) (h2 : fn.body.isNone = false) : FuncF P f := ⟨fn, h, h1, h2⟩
theorem X9:OneT Tryz.prog 3:=⟨_,Tryz.underlying3,trivial⟩
theorem X6q:OneT Tryz.prog 4:=⟨_,Tryz.underlying4,trivial⟩
theorem Y49:OneT Tryz.prog 5:=⟨_,Tryz.underlying5,trivial⟩
theorem Xsi:OneT Tryz.prog 28:=⟨_,Tryz.underlying28,trivial⟩
theorem X54:OneT Tryz.prog 71:=⟨_,Tryz.underlying71,trivial⟩
theorem X7v:OneT Tryz.prog 48:=⟨_,Tryz.underlying48,trivial⟩
theorem X4w:OneT Tryz.prog 129:=⟨_,Tryz.underlying129,trivial⟩
theorem Xc4:OneT Tryz.prog 101:=⟨_,Tryz.underlying101,trivial⟩
theorem X8i:OneT Tryz.prog 34:=⟨_,Tryz.underlying34,trivial⟩
theorem Xz:OneT Tryz.prog 36:=⟨_,Tryz.underlying36,trivial⟩
theorem X0d:OneT Tryz.prog 37:=⟨_,Tryz.underlying37,trivial⟩
theorem Xsz:AggT Tryz.prog 30 2:=⟨⟨_,Tryz.underlying30,trivial⟩,X0j (by kernel_rfl)⟩
theorem X4p:AggT Tryz.prog 123 3:=⟨⟨_,Tryz.underlying123,trivial⟩,X0j (by kernel_rfl)⟩
theorem X5d:AggT Tryz.prog 50 3:=⟨⟨_,Tryz.underlying50,trivial⟩,X0j (by kernel_rfl)⟩
theorem X2e:AggT Tryz.prog 94 4:=⟨⟨_,Tryz.underlying94,trivial⟩,X0j (by kernel_rfl)⟩
theorem X4n:AggT Tryz.prog 96 5:=⟨⟨_,Tryz.underlying96,trivial⟩,X0j (by kernel_rfl)⟩
theorem X2:AggT Tryz.prog 39 5:=⟨⟨_,Tryz.underlying39,trivial⟩,X0j (by kernel_rfl)⟩
theorem X1n:AggT Tryz.prog 58 3:=⟨⟨_,Tryz.underlying58,trivial⟩,X0j (by kernel_rfl)⟩
theorem X22:AggT Tryz.prog 81 2:=⟨⟨_,Tryz.underlying81,trivial⟩,X0j (by kernel_rfl)⟩
theorem X10:AggT Tryz.prog 83 3:=⟨⟨_,Tryz.underlying83,trivial⟩,X0j (by kernel_rfl)⟩
theorem X0b:SizeT Tryz.prog 3 1:=X0j (by kernel_rfl)
theorem X6a:SizeT Tryz.prog 4 1:=X0j (by kernel_rfl)
theorem Y4v:SizeT Tryz.prog 5 1:=X0j (by kernel_rfl)
theorem Y0l:SizeT Tryz.prog 28 1:=X0j (by kernel_rfl)
theorem Xjo:SizeT Tryz.prog 71 1:=X0j (by kernel_rfl)
theorem Xu2:SizeT Tryz.prog 30 2:=X0j (by kernel_rfl)
theorem X6e:SizeT Tryz.prog 123 3:=X0j (by kernel_rfl)
theorem Xue:SizeT Tryz.prog 48 1:=X0j (by kernel_rfl)
theorem X5a:SizeT Tryz.prog 50 3:=X0j (by kernel_rfl)
theorem X43:SizeT Tryz.prog 94 4:=X0j (by kernel_rfl)
theorem X5b:SizeT Tryz.prog 96 5:=X0j (by kernel_rfl)
theorem Xir:SizeT Tryz.prog 101 1:=X0j (by kernel_rfl)
theorem X4m:SizeT Tryz.prog 36 1:=X0j (by kernel_rfl)
theorem X1f:SizeT Tryz.prog 37 1:=X0j (by kernel_rfl)
theorem Xh:SizeT Tryz.prog 39 5:=X0j (by kernel_rfl)
theorem X27:SizeT Tryz.prog 58 3:=X0j (by kernel_rfl)
theorem X06:SizeT Tryz.prog 81 2:=X0j (by kernel_rfl)
theorem X0c:SizeT Tryz.prog 83 3:=X0j (by kernel_rfl)
theorem z_3:ZeroT Tryz.prog 3 (.int .i64 0):=X21 (by kernel_rfl)
theorem Y1a:ZeroT Tryz.prog 30 (.agg #[.int .i64 0,.slice none 0 0]):=X21 (by kernel_rfl)
theorem Xln:ZeroT Tryz.prog 123 (.agg #[.int .i64 0,.int .i64 0,.int .i64 0]):=X21 (by kernel_rfl)
theorem Xa7:ZeroT Tryz.prog 50 (.agg #[.int .i64 0,.int .i64 0,.slice none 0 0]):=X21 (by kernel_rfl)
theorem Xae:ZeroT Tryz.prog 94 (.agg #[.int .i64 0,.int .i64 0,.int .i64 0,.int .i64 0]):=X21 (by kernel_rfl)
theorem Xm7:ZeroT Tryz.prog 96 (.agg #[.int .i64 0,.int .i64 0,.int .i64 0,.int .i64 0,.int .i64 0]):=X21 (by kernel_rfl)
theorem X0h:ZeroT Tryz.prog 39 (.agg #[.int .i64 0,.slice none 0 0,.slice none 0 0,.int .i64 0,.int .i64 0]):=X21 (by kernel_rfl)
theorem X44:ZeroT Tryz.prog 58 (.agg #[.int .i64 0,.int .i64 0,.int .i64 0]):=X21 (by kernel_rfl)
theorem X6g:ZeroT Tryz.prog 81 (.agg #[.int .i64 0,.int .i64 0]):=X21 (by kernel_rfl)
theorem X2s:ZeroT Tryz.prog 83 (.agg #[.int .i64 0,.int .i64 0,.bool false]):=X21 (by kernel_rfl)
theorem X81:FieldT Tryz.prog 30 0 0:=X0i (n:=1) Tryz.underlying30 rfl rfl (by kernel_rfl) rfl
theorem Xb9:FieldT Tryz.prog 30 1 1:=X0i (n:=1) Tryz.underlying30 rfl rfl (by kernel_rfl) rfl
theorem X74:FieldT Tryz.prog 123 0 0:=X0i (n:=1) Tryz.underlying123 rfl rfl (by kernel_rfl) rfl
theorem X1d:FieldT Tryz.prog 123 1 1:=X0i (n:=1) Tryz.underlying123 rfl rfl (by kernel_rfl) rfl
theorem X2v:FieldT Tryz.prog 123 2 2:=X0i (n:=1) Tryz.underlying123 rfl rfl (by kernel_rfl) rfl
theorem Xcg:FieldT Tryz.prog 50 0 0:=X0i (n:=1) Tryz.underlying50 rfl rfl (by kernel_rfl) rfl
theorem Xcw:FieldT Tryz.prog 50 1 1:=X0i (n:=1) Tryz.underlying50 rfl rfl (by kernel_rfl) rfl
theorem X3v:FieldT Tryz.prog 50 2 2:=X0i (n:=1) Tryz.underlying50 rfl rfl (by kernel_rfl) rfl
theorem X39:FieldT Tryz.prog 94 0 0:=X0i (n:=1) Tryz.underlying94 rfl rfl (by kernel_rfl) rfl
theorem X3c:FieldT Tryz.prog 94 1 1:=X0i (n:=1) Tryz.underlying94 rfl rfl (by kernel_rfl) rfl
theorem X38:FieldT Tryz.prog 94 2 2:=X0i (n:=1) Tryz.underlying94 rfl rfl (by kernel_rfl) rfl
theorem X3d:FieldT Tryz.prog 94 3 3:=X0i (n:=1) Tryz.underlying94 rfl rfl (by kernel_rfl) rfl
theorem Xmk:FieldT Tryz.prog 96 1 4:=X0i (n:=1) Tryz.underlying96 rfl rfl (by kernel_rfl) rfl
theorem X75:FieldT Tryz.prog 91 0 0:=X0i (n:=1) Tryz.underlying91 rfl rfl (by kernel_rfl) rfl
theorem X5z:FieldT Tryz.prog 103 0 0:=X0i (n:=1) Tryz.underlying103 rfl rfl (by kernel_rfl) rfl
theorem X2n:FieldT Tryz.prog 103 1 1:=X0i (n:=1) Tryz.underlying103 rfl rfl (by kernel_rfl) rfl
theorem X3o:FieldT Tryz.prog 103 2 2:=X0i (n:=1) Tryz.underlying103 rfl rfl (by kernel_rfl) rfl
theorem X16:FieldT Tryz.prog 39 0 0:=X0i (n:=1) Tryz.underlying39 rfl rfl (by kernel_rfl) rfl
theorem Xf:FieldT Tryz.prog 39 1 1:=X0i (n:=1) Tryz.underlying39 rfl rfl (by kernel_rfl) rfl
theorem Xl:FieldT Tryz.prog 39 2 2:=X0i (n:=1) Tryz.underlying39 rfl rfl (by kernel_rfl) rfl
theorem X0q:FieldT Tryz.prog 39 3 3:=X0i (n:=1) Tryz.underlying39 rfl rfl (by kernel_rfl) rfl
theorem X00:FieldT Tryz.prog 39 4 4:=X0i (n:=1) Tryz.underlying39 rfl rfl (by kernel_rfl) rfl
theorem X4c:FieldT Tryz.prog 58 0 0:=X0i (n:=1) Tryz.underlying58 rfl rfl (by kernel_rfl) rfl
theorem X1o:FieldT Tryz.prog 58 1 1:=X0i (n:=1) Tryz.underlying58 rfl rfl (by kernel_rfl) rfl
theorem X3l:FieldT Tryz.prog 58 2 2:=X0i (n:=1) Tryz.underlying58 rfl rfl (by kernel_rfl) rfl
theorem X12:FieldT Tryz.prog 81 0 0:=X0i (n:=1) Tryz.underlying81 rfl rfl (by kernel_rfl) rfl
theorem X07:FieldT Tryz.prog 81 1 1:=X0i (n:=1) Tryz.underlying81 rfl rfl (by kernel_rfl) rfl
theorem X0p:FieldT Tryz.prog 83 0 0:=X0i (n:=1) Tryz.underlying83 rfl rfl (by kernel_rfl) rfl
theorem X0r:FieldT Tryz.prog 83 1 1:=X0i (n:=1) Tryz.underlying83 rfl rfl (by kernel_rfl) rfl
theorem X3n:FieldT Tryz.prog 83 2 2:=X0i (n:=1) Tryz.underlying83 rfl rfl (by kernel_rfl) rfl
theorem X0m:FieldT Tryz.prog 171 0 0:=X0i (n:=5) Tryz.underlying171 rfl rfl (by kernel_rfl) rfl
theorem X20:FieldT Tryz.prog 171 1 5:=X0i (n:=1) Tryz.underlying171 rfl rfl (by kernel_rfl) rfl
theorem X2c:FieldT Tryz.prog 171 2 6:=X0i (n:=1) Tryz.underlying171 rfl rfl (by kernel_rfl) rfl
theorem Xhj:SliceT Tryz.prog 28 123:=Tryz.underlying28
theorem Xj:SliceT Tryz.prog 71 3:=Tryz.underlying71
theorem X8u:SliceT Tryz.prog 227 71:=Tryz.underlying227
theorem X6k:SliceT Tryz.prog 48 96:=Tryz.underlying48
theorem X40:SliceT Tryz.prog 129 4:=Tryz.underlying129
theorem X4j:SliceT Tryz.prog 34 5:=Tryz.underlying34
theorem Xm:SliceT Tryz.prog 36 81:=Tryz.underlying36
theorem Xr:SliceT Tryz.prog 37 83:=Tryz.underlying37
theorem X13:SliceT Tryz.prog 41 58:=Tryz.underlying41
theorem X1g:InfoT Tryz.prog 3 1 8:=X37 (z:=.int .i64 0) (by kernel_rfl) rfl (by decide)
theorem Xz0:InfoT Tryz.prog 4 1 1:=X37 (z:=.bool false) (by kernel_rfl) rfl (by decide)
theorem Xxb:InfoT Tryz.prog 71 1 24:=X37 (z:=.slice none 0 0) (by kernel_rfl) rfl (by decide)
theorem Xf0:InfoT Tryz.prog 123 3 24:=X37 (z:=.agg #[.int .i64 0,.int .i64 0,.int .i64 0]) (by kernel_rfl) rfl (by decide)
theorem Xg3:InfoT Tryz.prog 96 5 40:=X37 (z:=.agg #[.int .i64 0,.int .i64 0,.int .i64 0,.int .i64 0,.int .i64 0]) (by kernel_rfl) rfl (by decide)
theorem X2f:InfoT Tryz.prog 58 3 24:=X37 (z:=.agg #[.int .i64 0,.int .i64 0,.int .i64 0]) (by kernel_rfl) rfl (by decide)
theorem X1x:InfoT Tryz.prog 81 2 16:=X37 (z:=.agg #[.int .i64 0,.int .i64 0]) (by kernel_rfl) rfl (by decide)
theorem X0z:InfoT Tryz.prog 83 3 24:=X37 (z:=.agg #[.int .i64 0,.int .i64 0,.bool false]) (by kernel_rfl) rfl (by decide)
theorem Xcu:FuncF Tryz.prog 166:=X7 Tryz.func166 (by decide +kernel) rfl
theorem X64:FuncF Tryz.prog 86:=X7 Tryz.func86 (by decide +kernel) rfl
theorem X7z:FuncF Tryz.prog 94:=X7 Tryz.func94 (by decide +kernel) rfl
theorem Xzz:FuncF Tryz.prog 206:=X7 Tryz.func206 (by decide +kernel) rfl
theorem Xsx:FuncF Tryz.prog 195:=X7 Tryz.func195 (by decide +kernel) rfl
theorem Y40:FuncF Tryz.prog 207:=X7 Tryz.func207 (by decide +kernel) rfl
theorem Xdv:FuncF Tryz.prog 216:=X7 Tryz.func216 (by decide +kernel) rfl
theorem Xjk:FuncF Tryz.prog 187:=X7 Tryz.func187 (by decide +kernel) rfl
theorem Xwp:FuncF Tryz.prog 231:=X7 Tryz.func231 (by decide +kernel) rfl
theorem Xu4:FuncF Tryz.prog 20:=X7 Tryz.func20 (by decide +kernel) rfl
theorem X7n:FuncF Tryz.prog 146:=X7 Tryz.func146 (by decide +kernel) rfl
theorem Xuc:FuncF Tryz.prog 226:=X7 Tryz.func226 (by decide +kernel) rfl
theorem X8r:FuncF Tryz.prog 95:=X7 Tryz.func95 (by decide +kernel) rfl
theorem Xxc:FuncF Tryz.prog 215:=X7 Tryz.func215 (by decide +kernel) rfl
theorem Xxh:FuncF Tryz.prog 229:=X7 Tryz.func229 (by decide +kernel) rfl
theorem Xl1:FuncF Tryz.prog 253:=X7 Tryz.func253 (by decide +kernel) rfl
theorem Xxl:FuncF Tryz.prog 145:=X7 Tryz.func145 (by decide +kernel) rfl
theorem Xub:FuncF Tryz.prog 156:=X7 Tryz.func156 (by decide +kernel) rfl
theorem Xl9:FuncF Tryz.prog 194:=X7 Tryz.func194 (by decide +kernel) rfl
theorem Xkj:FuncF Tryz.prog 153:=X7 Tryz.func153 (by decide +kernel) rfl
theorem Xll:FuncF Tryz.prog 158:=X7 Tryz.func158 (by decide +kernel) rfl
theorem Xwo:FuncF Tryz.prog 159:=X7 Tryz.func159 (by decide +kernel) rfl
theorem Xuw:FuncF Tryz.prog 155:=X7 Tryz.func155 (by decide +kernel) rfl
theorem Xjg:FuncF Tryz.prog 157:=X7 Tryz.func157 (by decide +kernel) rfl
theorem Xv1:FuncF Tryz.prog 196:=X7 Tryz.func196 (by decide +kernel) rfl
theorem Xwm:FuncF Tryz.prog 197:=X7 Tryz.func197 (by decide +kernel) rfl
theorem Xld:FuncF Tryz.prog 147:=X7 Tryz.func147 (by decide +kernel) rfl
theorem Xp2:FuncF Tryz.prog 12:=X7 Tryz.func12 (by decide +kernel) rfl
theorem X14:FuncF Tryz.prog 119:=X7 Tryz.func119 (by decide +kernel) rfl
theorem Xpc:FuncF Tryz.prog 65:=X7 Tryz.func65 (by decide +kernel) rfl
theorem Xo8:FuncF Tryz.prog 200:=X7 Tryz.func200 (by decide +kernel) rfl
theorem X8b:FuncF Tryz.prog 121:=X7 Tryz.func121 (by decide +kernel) rfl
theorem Xgq:FuncF Tryz.prog 169:=X7 Tryz.func169 (by decide +kernel) rfl
theorem Xbw:FuncF Tryz.prog 186:=X7 Tryz.func186 (by decide +kernel) rfl
theorem Xrq:FuncF Tryz.prog 168:=X7 Tryz.func168 (by decide +kernel) rfl
theorem X8k:FuncF Tryz.prog 150:=X7 Tryz.func150 (by decide +kernel) rfl
theorem Xo2:FuncF Tryz.prog 13:=X7 Tryz.func13 (by decide +kernel) rfl
theorem Xpx:FuncF Tryz.prog 14:=X7 Tryz.func14 (by decide +kernel) rfl
theorem Xpm:FuncF Tryz.prog 15:=X7 Tryz.func15 (by decide +kernel) rfl
theorem Xrs:FuncF Tryz.prog 16:=X7 Tryz.func16 (by decide +kernel) rfl
theorem Xqt:FuncF Tryz.prog 17:=X7 Tryz.func17 (by decide +kernel) rfl
theorem Xp7:FuncF Tryz.prog 18:=X7 Tryz.func18 (by decide +kernel) rfl
theorem Xfk:FuncF Tryz.prog 19:=X7 Tryz.func19 (by decide +kernel) rfl
theorem Xqi:FuncF Tryz.prog 21:=X7 Tryz.func21 (by decide +kernel) rfl
theorem Xr2:FuncF Tryz.prog 22:=X7 Tryz.func22 (by decide +kernel) rfl
theorem Xri:FuncF Tryz.prog 23:=X7 Tryz.func23 (by decide +kernel) rfl
theorem Xpq:FuncF Tryz.prog 24:=X7 Tryz.func24 (by decide +kernel) rfl
theorem Xqq:FuncF Tryz.prog 37:=X7 Tryz.func37 (by decide +kernel) rfl
theorem Xpl:FuncF Tryz.prog 38:=X7 Tryz.func38 (by decide +kernel) rfl
theorem Xgl:FuncF Tryz.prog 46:=X7 Tryz.func46 (by decide +kernel) rfl
theorem Xf4:FuncF Tryz.prog 47:=X7 Tryz.func47 (by decide +kernel) rfl
theorem Xbg:FuncF Tryz.prog 48:=X7 Tryz.func48 (by decide +kernel) rfl
theorem Xoc:FuncF Tryz.prog 49:=X7 Tryz.func49 (by decide +kernel) rfl
theorem X7h:FuncF Tryz.prog 50:=X7 Tryz.func50 (by decide +kernel) rfl
theorem Xbd:FuncF Tryz.prog 51:=X7 Tryz.func51 (by decide +kernel) rfl
theorem Xoi:FuncF Tryz.prog 52:=X7 Tryz.func52 (by decide +kernel) rfl
theorem Xq7:FuncF Tryz.prog 53:=X7 Tryz.func53 (by decide +kernel) rfl
theorem X89:FuncF Tryz.prog 54:=X7 Tryz.func54 (by decide +kernel) rfl
theorem Xan:FuncF Tryz.prog 55:=X7 Tryz.func55 (by decide +kernel) rfl
theorem Xqj:FuncF Tryz.prog 56:=X7 Tryz.func56 (by decide +kernel) rfl
theorem Xq8:FuncF Tryz.prog 57:=X7 Tryz.func57 (by decide +kernel) rfl
theorem Xru:FuncF Tryz.prog 63:=X7 Tryz.func63 (by decide +kernel) rfl
theorem Xoj:FuncF Tryz.prog 66:=X7 Tryz.func66 (by decide +kernel) rfl
theorem Xc8:FuncF Tryz.prog 67:=X7 Tryz.func67 (by decide +kernel) rfl
theorem Xbo:FuncF Tryz.prog 68:=X7 Tryz.func68 (by decide +kernel) rfl
theorem X2h:FuncF Tryz.prog 74:=X7 Tryz.func74 (by decide +kernel) rfl
theorem X83:FuncF Tryz.prog 75:=X7 Tryz.func75 (by decide +kernel) rfl
theorem Xg8:FuncF Tryz.prog 76:=X7 Tryz.func76 (by decide +kernel) rfl
theorem Xpu:FuncF Tryz.prog 77:=X7 Tryz.func77 (by decide +kernel) rfl
theorem X34:FuncF Tryz.prog 78:=X7 Tryz.func78 (by decide +kernel) rfl
theorem X4v:FuncF Tryz.prog 79:=X7 Tryz.func79 (by decide +kernel) rfl
theorem Xpf:FuncF Tryz.prog 80:=X7 Tryz.func80 (by decide +kernel) rfl
theorem Xh9:FuncF Tryz.prog 81:=X7 Tryz.func81 (by decide +kernel) rfl
theorem X5y:FuncF Tryz.prog 82:=X7 Tryz.func82 (by decide +kernel) rfl
theorem Xrd:FuncF Tryz.prog 84:=X7 Tryz.func84 (by decide +kernel) rfl
theorem Xps:FuncF Tryz.prog 85:=X7 Tryz.func85 (by decide +kernel) rfl
theorem Xrf:FuncF Tryz.prog 96:=X7 Tryz.func96 (by decide +kernel) rfl
theorem Xqx:FuncF Tryz.prog 97:=X7 Tryz.func97 (by decide +kernel) rfl
theorem Xnt:FuncF Tryz.prog 98:=X7 Tryz.func98 (by decide +kernel) rfl
theorem Xo0:FuncF Tryz.prog 99:=X7 Tryz.func99 (by decide +kernel) rfl
theorem Xoh:FuncF Tryz.prog 100:=X7 Tryz.func100 (by decide +kernel) rfl
theorem Xpp:FuncF Tryz.prog 101:=X7 Tryz.func101 (by decide +kernel) rfl
theorem X50:FuncF Tryz.prog 102:=X7 Tryz.func102 (by decide +kernel) rfl
theorem Xoe:FuncF Tryz.prog 103:=X7 Tryz.func103 (by decide +kernel) rfl
theorem Xqe:FuncF Tryz.prog 104:=X7 Tryz.func104 (by decide +kernel) rfl
theorem Xpw:FuncF Tryz.prog 105:=X7 Tryz.func105 (by decide +kernel) rfl
theorem Xfj:FuncF Tryz.prog 106:=X7 Tryz.func106 (by decide +kernel) rfl
theorem Xo5:FuncF Tryz.prog 107:=X7 Tryz.func107 (by decide +kernel) rfl
theorem Xnx:FuncF Tryz.prog 108:=X7 Tryz.func108 (by decide +kernel) rfl
theorem Xoq:FuncF Tryz.prog 109:=X7 Tryz.func109 (by decide +kernel) rfl
theorem Xnz:FuncF Tryz.prog 110:=X7 Tryz.func110 (by decide +kernel) rfl
theorem Xor:FuncF Tryz.prog 111:=X7 Tryz.func111 (by decide +kernel) rfl
theorem X3h:FuncF Tryz.prog 116:=X7 Tryz.func116 (by decide +kernel) rfl
theorem Xgm:FuncF Tryz.prog 117:=X7 Tryz.func117 (by decide +kernel) rfl
theorem Xgz:FuncF Tryz.prog 118:=X7 Tryz.func118 (by decide +kernel) rfl
theorem Xfr:FuncF Tryz.prog 120:=X7 Tryz.func120 (by decide +kernel) rfl
theorem Xnu:FuncF Tryz.prog 122:=X7 Tryz.func122 (by decide +kernel) rfl
theorem Xqb:FuncF Tryz.prog 123:=X7 Tryz.func123 (by decide +kernel) rfl
theorem X8a:FuncF Tryz.prog 130:=X7 Tryz.func130 (by decide +kernel) rfl
theorem Xao:FuncF Tryz.prog 131:=X7 Tryz.func131 (by decide +kernel) rfl
theorem X6x:FuncF Tryz.prog 132:=X7 Tryz.func132 (by decide +kernel) rfl
theorem X86:FuncF Tryz.prog 133:=X7 Tryz.func133 (by decide +kernel) rfl
theorem X4q:FuncF Tryz.prog 134:=X7 Tryz.func134 (by decide +kernel) rfl
theorem Xno:FuncF Tryz.prog 136:=X7 Tryz.func136 (by decide +kernel) rfl
theorem Xhi:FuncF Tryz.prog 137:=X7 Tryz.func137 (by decide +kernel) rfl
theorem Xof:FuncF Tryz.prog 148:=X7 Tryz.func148 (by decide +kernel) rfl
theorem Xfv:FuncF Tryz.prog 149:=X7 Tryz.func149 (by decide +kernel) rfl
theorem X5j:FuncF Tryz.prog 151:=X7 Tryz.func151 (by decide +kernel) rfl
theorem Xc2:FuncF Tryz.prog 152:=X7 Tryz.func152 (by decide +kernel) rfl
theorem Xpt:FuncF Tryz.prog 154:=X7 Tryz.func154 (by decide +kernel) rfl
theorem Xbs:FuncF Tryz.prog 160:=X7 Tryz.func160 (by decide +kernel) rfl
theorem Xf7:FuncF Tryz.prog 165:=X7 Tryz.func165 (by decide +kernel) rfl
theorem Xpv:FuncF Tryz.prog 167:=X7 Tryz.func167 (by decide +kernel) rfl
theorem Xo9:FuncF Tryz.prog 170:=X7 Tryz.func170 (by decide +kernel) rfl
theorem Xpr:FuncF Tryz.prog 171:=X7 Tryz.func171 (by decide +kernel) rfl
theorem Xqp:FuncF Tryz.prog 172:=X7 Tryz.func172 (by decide +kernel) rfl
theorem Xpo:FuncF Tryz.prog 173:=X7 Tryz.func173 (by decide +kernel) rfl
theorem X5v:FuncF Tryz.prog 174:=X7 Tryz.func174 (by decide +kernel) rfl
theorem Xqn:FuncF Tryz.prog 175:=X7 Tryz.func175 (by decide +kernel) rfl
theorem Xq9:FuncF Tryz.prog 176:=X7 Tryz.func176 (by decide +kernel) rfl
theorem Xr0:FuncF Tryz.prog 177:=X7 Tryz.func177 (by decide +kernel) rfl
theorem Xqy:FuncF Tryz.prog 178:=X7 Tryz.func178 (by decide +kernel) rfl
theorem Xp6:FuncF Tryz.prog 179:=X7 Tryz.func179 (by decide +kernel) rfl
theorem Xql:FuncF Tryz.prog 184:=X7 Tryz.func184 (by decide +kernel) rfl
theorem Xr4:FuncF Tryz.prog 185:=X7 Tryz.func185 (by decide +kernel) rfl
theorem X4k:FuncF Tryz.prog 188:=X7 Tryz.func188 (by decide +kernel) rfl
theorem X8f:FuncF Tryz.prog 189:=X7 Tryz.func189 (by decide +kernel) rfl
theorem Xfu:FuncF Tryz.prog 190:=X7 Tryz.func190 (by decide +kernel) rfl
theorem Xnm:FuncF Tryz.prog 199:=X7 Tryz.func199 (by decide +kernel) rfl
theorem X7j:FuncF Tryz.prog 201:=X7 Tryz.func201 (by decide +kernel) rfl
theorem Xgo:FuncF Tryz.prog 202:=X7 Tryz.func202 (by decide +kernel) rfl
theorem Xba:FuncF Tryz.prog 203:=X7 Tryz.func203 (by decide +kernel) rfl
theorem Xfx:FuncF Tryz.prog 204:=X7 Tryz.func204 (by decide +kernel) rfl
theorem Xg1:FuncF Tryz.prog 205:=X7 Tryz.func205 (by decide +kernel) rfl
theorem Xr8:FuncF Tryz.prog 208:=X7 Tryz.func208 (by decide +kernel) rfl
theorem Xpd:FuncF Tryz.prog 209:=X7 Tryz.func209 (by decide +kernel) rfl
theorem X5l:FuncF Tryz.prog 210:=X7 Tryz.func210 (by decide +kernel) rfl
theorem X5o:FuncF Tryz.prog 211:=X7 Tryz.func211 (by decide +kernel) rfl
theorem X60:FuncF Tryz.prog 212:=X7 Tryz.func212 (by decide +kernel) rfl
theorem Xf1:FuncF Tryz.prog 213:=X7 Tryz.func213 (by decide +kernel) rfl
theorem Xf3:FuncF Tryz.prog 214:=X7 Tryz.func214 (by decide +kernel) rfl
theorem Xal:FuncF Tryz.prog 217:=X7 Tryz.func217 (by decide +kernel) rfl
theorem Xg6:FuncF Tryz.prog 218:=X7 Tryz.func218 (by decide +kernel) rfl
theorem Xar:FuncF Tryz.prog 223:=X7 Tryz.func223 (by decide +kernel) rfl
theorem Xq5:FuncF Tryz.prog 225:=X7 Tryz.func225 (by decide +kernel) rfl
theorem Xrh:FuncF Tryz.prog 227:=X7 Tryz.func227 (by decide +kernel) rfl
theorem Xny:FuncF Tryz.prog 228:=X7 Tryz.func228 (by decide +kernel) rfl
theorem Xov:FuncF Tryz.prog 230:=X7 Tryz.func230 (by decide +kernel) rfl
theorem Xom:FuncF Tryz.prog 232:=X7 Tryz.func232 (by decide +kernel) rfl
theorem mixed:Tryz.prog.follows .mixedOrders=true:=by kernel_rfl
end Go.Proofs.YtpifljegadknkaaGreat
namespace Go.Proofs.YtpifljegadknkaaGreat
open Go.RowKit
section
variable {P : Program} {a : Act} {w : World} {n : Nat} {e : Env} {ty : TypeId} {pos : String} {af : Array Edge} {g : Option (Nat × Bool)} {d : Option Tmp}
variable {t t' : TypeId} {x y : Operand} {i j : Int}
theorem Xxo(hf:Fr a n e)(hx:ev e x=some (.int .i64 i))(hy:ev e y=some (.int .i64 j))(h0:(j==0)=false) : Ev P ⟨d,.binOp .rem t x y t',ty,pos,af,g⟩ a w (.int .i64 (i.tmod j)):=fun w' _=>by
 have h0':j≠0:=by rintro rfl;simp at h0
 simp [execOp,hf.ev hx,hf.ev hy,eqGuard,binOp,Op.intDiv,h0']
theorem X3k(hx:ev e x=some (.int .i64 i))(hy:ev e y=some (.int .i64 j))(h0:(j==0)=false) : EvW P ⟨d,.binOp .rem t x y t',ty,pos,af,g⟩ n e w (.int .i64 (i.tmod j)):=fun a hf=>Xxo hf hx hy h0
theorem Xv7(hf:Fr a n e)(hx:ev e x=some (.int .i64 i))(hy:ev e y=some (.int .i64 j))(h0:(j==0)=false) : Ev P ⟨d,.binOp .quo t x y t',ty,pos,af,g⟩ a w (.int .i64 (IntKind.i64.wrap (i.tdiv j))):=fun w' _=>by
 have h0':j≠0:=by rintro rfl;simp at h0
 simp [execOp,hf.ev hx,hf.ev hy,eqGuard,binOp,Op.intDiv,h0']
theorem Xif(hx:ev e x=some (.int .i64 i))(hy:ev e y=some (.int .i64 j))(h0:(j==0)=false) : EvW P ⟨d,.binOp .quo t x y t',ty,pos,af,g⟩ n e w (.int .i64 (IntKind.i64.wrap (i.tdiv j))):=fun a hf=>Xv7 hf hx hy h0
theorem Xrc(hf:Fr a n e)(hx:ev e x=some (.int .i64 i))(hy:ev e y=some (.int .i64 j))(h1:-9223372036854775808<=i*j)(h2:i*j<=9223372036854775807) : Ev P ⟨d,.binOp .mul t x y t',ty,pos,af,g⟩ a w (.int .i64 (i*j)):=fun w' _=>by
 have h:IntKind.i64.wrap (i*j)=i*j:=IntWalk.i64_in _ ⟨h1,h2⟩
 simp [execOp,hf.ev hx,hf.ev hy,eqGuard,binOp,Op.intArith,h]
theorem X62(hx:ev e x=some (.int .i64 i))(hy:ev e y=some (.int .i64 j))(h1:-9223372036854775808<=i*j)(h2:i*j<=9223372036854775807) : EvW P ⟨d,.binOp .mul t x y t',ty,pos,af,g⟩ n e w (.int .i64 (i*j)):=fun a hf=>Xrc hf hx hy h1 h2
theorem Xqa{m k:Nat}(hf:Fr a n e)(hx:ev e x=some (.int .i64 (m:Int)))(hy:ev e y=some (.int .i64 (k:Int)))(hb:m*k<=4611686018427387904) : Ev P ⟨d,.binOp .mul t x y t',ty,pos,af,g⟩ a w (.int .i64 ((m*k:Nat) : Int)):=fun w' _=>by
 have h:IntKind.i64.wrap ((m:Int)*(k:Int))=((m*k:Nat) : Int):=by
  rw [<- Int.natCast_mul]
  exact IntWalk.i64_in _ ⟨by omega,by omega⟩
 simp [execOp,hf.ev hx,hf.ev hy,eqGuard,binOp,Op.intArith,h]
theorem Y24{m k:Nat}(hx:ev e x=some (.int .i64 (m:Int)))(hy:ev e y=some (.int .i64 (k:Int)))(hb:m*k<=4611686018427387904) : EvW P ⟨d,.binOp .mul t x y t',ty,pos,af,g⟩ n e w (.int .i64 ((m*k:Nat) : Int)):=fun a hf=>Xqa hf hx hy hb
theorem Xwg{k:IntKind}{m:Nat}(hf:Fr a n e)(hx:ev e x=some (.int .i64 i))(hy:ev e y=some (.int k j))(hj:j=(m:Int))(hm:m<=64) : Ev P ⟨d,.binOp .shl t x y t',ty,pos,af,g⟩ a w (.int .i64 (IntKind.i64.wrap (i*2^m))):=fun w' _=>by
 subst hj
 have hm':min m 64=m:=by omega
 simp [execOp,hf.ev hx,hf.ev hy,eqGuard,binOp,Op.shift,IntKind.bits,hm']
theorem Xyb{k:IntKind}{m:Nat}(hx:ev e x=some (.int .i64 i))(hy:ev e y=some (.int k j))(hj:j=(m:Int))(hm:m<=64) : EvW P ⟨d,.binOp .shl t x y t',ty,pos,af,g⟩ n e w (.int .i64 (IntKind.i64.wrap (i*2^m))):=fun a hf=>Xwg hf hx hy hj hm
theorem Xvx{k:IntKind}{m:Nat}(hf:Fr a n e)(hx:ev e x=some (.int .i64 i))(hy:ev e y=some (.int k j))(hj:j=(m:Int))(hm:m<=64) : Ev P ⟨d,.binOp .shr t x y t',ty,pos,af,g⟩ a w (.int .i64 (i/2^m)):=fun w' _=>by
 subst hj
 have hm':min m 64=m:=by omega
 simp [execOp,hf.ev hx,hf.ev hy,eqGuard,binOp,Op.shift,IntKind.bits,hm']
theorem Y0u{k:IntKind}{m:Nat}(hx:ev e x=some (.int .i64 i))(hy:ev e y=some (.int k j))(hj:j=(m:Int))(hm:m<=64) : EvW P ⟨d,.binOp .shr t x y t',ty,pos,af,g⟩ n e w (.int .i64 (i/2^m)):=fun a hf=>Xvx hf hx hy hj hm
theorem Xv8{p:Addr}(hf:Fr a n e)(hx:ev e x=some (.pointer (some p))) : Ev P ⟨d,.nilCheck x,ty,pos,af,g⟩ a w (.pointer (some p)):=fun w' _=>by
 simp [execOp,hf.ev hx]
theorem X08{p:Addr}(hx:ev e x=some (.pointer (some p))) : EvW P ⟨d,.nilCheck x,ty,pos,af,g⟩ n e w (.pointer (some p)):=fun a hf=>Xv8 hf hx
end
theorem Rd.atV{α:Type}{w:World}{B b0:Nat}{E T0:TypeId}{enc:α->List Value}{A:Option Addr}{l:List α}{l0:List Value}{sz:Nat}(hsz:∀ x,(enc x).length=sz)(h:Rd w B E enc A l){k:Nat}{x:α}(hk:l[k]? = some x)
  (hb:Blk w b0 T0 l0) (hT:Nat.beq E T0=false) : ∃ p,A=some p/\At w (p.add (k*sz)) (enc x)/\(p.add (k*sz)).block≠b0:=by
 obtain ⟨p,h1,h2⟩:=h.at hsz hk
 refine ⟨p,h1,h2,?_⟩
 have hl:l≠[]:=by rintro rfl;simp at hk
 obtain ⟨b,off,cs,fz,h3,h4,h5,h6⟩:=h hl
 rw [h1] at h3
 injection h3 with h3
 subst h3
 rw [X6h]
 rintro rfl
 unfold Blk at hb
 rw [h5] at hb
 injection hb with hb
 injection hb with _ e
 subst e
 simp at hT
section
variable {P : Program} {a : Act} {w : World} {n : Nat} {e : Env} {α : Type} {ops : Array Oper} {ty : TypeId} {pos : String} {af : Array Edge} {g : Option (Nat × Bool)} {d : Nat}
theorem Xiz{b0:Nat}{l0:List Value}{Q:Act->World->Prop}{tl:Nat->Bool}{fuel:Nat}{done:List Nat}{T E T0:TypeId}{sz B:Nat}{x y:Operand}{enc:α->List Value}{A:Option Addr}{c:Nat}{l:List α}{k:Nat}{i:Int}{u:α}(j:Nat)
  (ho:ops[j]? = some ⟨some d,.indexAddr T x y,ty,pos,af,g⟩) (hm:mayFirst ops done j=true) (hf:Fr a n e) (hw:Want ops ⟨some d,.indexAddr T x y,ty,pos,af,g⟩ e) (hn:Nat.blt d n=true)
  (hb:Blk w b0 T0 l0) (hT0:Nat.beq E T0=false)
  (hx:ev e x=some (.slice A l.length c)) (hy:ev e y=some (.int .i64 i)) (hT:SliceT P T E) (hs:SizeT P E sz) (hsz:∀ x,(enc x).length=sz) (hr:Rd w B E enc A l) (hk:l[k]? = some u) (hi:i=(k:Int))
  (h:∀ a' p,At w p (enc u)->p.block≠b0->Fr a' n ((d,.pointer (some p))::e)->wpS P ops (some b0) tl Q fuel (mask ops (j::done)) a' w) : wpS P ops (some b0) tl Q (fuel+1) (mask ops done) a w:=by
 obtain ⟨p,rfl,hat,hne⟩:=hr.atV hsz hk hb hT0;exact Xiw j ho hm hf hw rfl hn (fun w=>X7i hf hx hy hT hs hi (Qg.1 hk).1) fun a' hf'=>h a' _ hat hne hf'
theorem Ya{b0:Nat}{l0:List Value}{Q:Act->World->Prop}{tl:Nat->Bool}{fuel:Nat}{done:List Nat}{T E T0:TypeId}{sz B:Nat}{x y:Operand}{enc:α->List Value}{A:Option Addr}{c:Nat}{l:List α}{k:Nat}{i:Int}{u:α}(j:Nat)
  (ho:ops[j]? = some ⟨some d,.indexAddr T x y,ty,pos,af,g⟩) (hw:Want ops ⟨some d,.indexAddr T x y,ty,pos,af,g⟩ e) (hb:Blk w b0 T0 l0) (hT0:Nat.beq E T0=false)
  (hx:ev e x=some (.slice A l.length c)) (hy:ev e y=some (.int .i64 i)) (hT:SliceT P T E) (hs:SizeT P E sz) (hsz:∀ x,(enc x).length=sz) (hr:Rd w B E enc A l) (hk:l[k]? = some u) (hi:i=(k:Int))
  (h:∀ p,At w p (enc u)->p.block≠b0->WS P ops (some b0) tl Q fuel (j::done) n ((d,.pointer (some p))::e) w) (hm:mayFirst ops done j=true:=by kernel_rfl) (hn:Nat.blt d n=true:=by rfl) : WS P ops (some b0) tl Q (fuel+1) done n e w:=
 fun _ hf=>Xiz j ho hm hf hw hn hb hT0 hx hy hT hs hsz hr hk hi fun a' p hp hne hf'=>h p hp hne a' hf'
end
theorem Own.lower{α:Type}{w:World}{B0 B1:Nat}{E:TypeId}{sz:Nat}{enc:α->List Value}{A:Option Addr}{c:Nat}{l:List α}(h:Own w B0 E sz enc A c l)(hB:B1<=B0) : Own w B1 E sz enc A c l:=by
 refine ⟨h.1,?_⟩
 rcases h.2 with h1|⟨g,cap,cur,h1,h2,h3⟩
 ·exact .inl h1
 ·exact .inr ⟨g,cap,cur,h1,Q0 hB h2,h3⟩
section
variable {α : Type} {P : Program} {a : Act} {w : World} {n : Nat} {e : Env} {ty : TypeId} {pos : String} {af : Array Edge} {g : Option (Nat × Bool)} {d : Option Tmp}
end
abbrev wr(i:Int) : Int:=IntKind.i64.wrap i
theorem X1q{i:Int}(h1:-9223372036854775808<=i)(h2:i<=9223372036854775807) : wr i=i:=IntWalk.i64_in _ ⟨h1,h2⟩
structure Rg where (a b c d:Int) deriving DecidableEq
structure Dy where (num:Rg) (exp:Int) deriving DecidableEq
structure Gt where (k a b:Int) deriving DecidableEq
def encI(i:Int) : List Value:=[.int .i64 i]
def encD(x:Dy) : List Value:=[.int .i64 x.num.a,.int .i64 x.num.b,.int .i64 x.num.c,.int .i64 x.num.d,.int .i64 x.exp]
def encG(x:Gt) : List Value:=[.int .i64 x.k,.int .i64 x.a,.int .i64 x.b]
theorem Xd:∀ x,(encI x).length=1:=fun _=>rfl
theorem X9h:∀ x,(encD x).length=5:=fun _=>rfl
theorem Xcy:∀ x,(encG x).length=3:=fun _=>rfl
theorem X1z:∀ x,(encI x).all one=true:=fun _=>rfl
theorem Xjn:∀ x,(encD x).all one=true:=fun _=>rfl
theorem Xk5:∀ x,(encG x).all one=true:=fun _=>rfl
abbrev rV(r:Rg) : Value:=.agg #[.int .i64 r.a,.int .i64 r.b,.int .i64 r.c,.int .i64 r.d]
abbrev dV(x:Dy) : Value:=.agg #[.int .i64 x.num.a,.int .i64 x.num.b,.int .i64 x.num.c,.int .i64 x.num.d,.int .i64 x.exp]
abbrev gV(x:Gt) : Value:=.agg #[.int .i64 x.k,.int .i64 x.a,.int .i64 x.b]
def inR(n lo hi:Int) : Bool:=decide (lo<=n)&&decide (n<=hi)
def rOk(x:Rg) : Bool:=inR x.a (-1000000000) 1000000000&&inR x.b (-1000000000) 1000000000&&inR x.c (-1000000000) 1000000000&&inR x.d (-1000000000) 1000000000
def rAdd(x y:Rg) : Rg:=⟨wr (x.a+y.a),wr (x.b+y.b),wr (x.c+y.c),wr (x.d+y.d)⟩
def rRoot(x:Rg) : Rg:=⟨wr (x.b-x.d),wr (x.a+x.c),wr (x.b+x.d),wr (x.c-x.a)⟩
def rEven(x:Rg) : Bool:=(wr (x.a+x.c)).tmod 2==0&&(wr (x.b+x.d)).tmod 2==0
def rHalf(x:Rg) : Rg:=⟨wr ((rRoot x).a.tdiv 2),wr ((rRoot x).b.tdiv 2),wr ((rRoot x).c.tdiv 2),wr ((rRoot x).d.tdiv 2)⟩
def rOm(x:Rg) : Rg:=⟨wr (-x.d),x.a,x.b,x.c⟩
def rTurnN:Nat->Rg->Rg
 | 0,x=>x
 | k+1,x=>rTurnN k (rOm x)
def turns(k:Int) : Int:=(wr (k.tmod 8+8)).tmod 8
def rTurn(x:Rg)(k:Int) : Rg:=rTurnN (turns k).toNat x
def lowN:Nat->Rg->Rg×Nat
 | 0,x=>(x,0)
 | m+1,x=>if rEven x then lowN m (rHalf x) else (x,m+1)
def dLow(x:Rg)(exp:Int) : Dy:=⟨(lowN exp.toNat x).1,if 0<exp then ((lowN exp.toNat x).2:Int) else exp⟩
def dZ:Dy:=⟨⟨0,0,0,0⟩,0⟩
theorem X7l{x:Rg}{exp:Int}(h0:0<exp)(he:rEven x=true) : dLow x exp=dLow (rHalf x) (exp-1):=by
 obtain ⟨m,hm⟩ : ∃ m:Nat,exp=m+1:=⟨(exp-1).toNat,by omega⟩
 subst hm
 have e1:((m:Int)+1).toNat=m+1:=by omega
 have e2:((m:Int)+1-1)=m:=by omega
 unfold dLow
 rw [e1,e2,Qj]
 simp only [lowN,he,if_true,h0]
 cases m with
 | zero=>simp [lowN]
 | succ k=>simp
theorem X4g{x:Rg}{exp:Int}(h:0<exp->rEven x=false) : dLow x exp=⟨x,exp⟩:=by
 unfold dLow
 by_cases h0:0<exp
 ·obtain ⟨m,hm⟩ : ∃ m:Nat,exp=m+1:=⟨(exp-1).toNat,by omega⟩
  subst hm
  have e1:((m:Int)+1).toNat=m+1:=by omega
  rw [e1]
  simp only [lowN,h h0,Bool.false_eq_true,if_false,h0,if_true]
  rfl
 ·have e1:exp.toNat=0:=by omega
  rw [e1]
  simp [lowN,h0]
section
variable {α : Type} {p : α -> Bool} {l : List α} {k : Nat} {u : α}
theorem X5c(h:(l.take k).all p=true)(hu:l[k]? = some u)(hp:p u=true) : (l.take (k+1)).all p=true:=by
 rw [Qt,hu]
 simp only [List.all_append,h,Option.toList_some,List.all_cons,hp,List.all_nil,Bool.and_self]
theorem Xic(hu:l[k]? = some u)(hp:p u=false) : l.all p=false:=by
 obtain ⟨h1,h2⟩:=Qg.1 hu
 subst h2
 rw [List.all_eq_false]
 exact ⟨_,List.getElem_mem h1,by simp [hp]⟩
theorem X5w(h:(l.take k).all p=true)(hk:l.length<=k) : l.all p=true:=by rwa [Qi hk] at h
end
theorem X91{α:Type}{p:α->Bool}{l:List α}{k:Nat}{u:α}(hu:l[k]? = some u)(hp:p u=true) : l.any p=true:=by
 obtain ⟨h1,h2⟩:=Qg.1 hu
 subst h2
 exact List.any_eq_true.2 ⟨_,List.getElem_mem h1,hp⟩
theorem X7u{α:Type}{p:α->Bool}{l:List α}(h:l.all (fun x=>!p x)=true) : l.any p=false:=by
 rw [W7]
 intro x hx
 have:=W1.1 h x hx
 simpa using this
theorem X80(k:Int) : 0<=turns k/\turns k<8:=by
 have h1:-8<k.tmod 8/\k.tmod 8<8:=by
  rcases Int.le_total 0 k with h|h
  ·rw [Int.tmod_eq_emod_of_nonneg h];omega
  ·have h2:(-k).tmod 8 = -(k.tmod 8):=Int.neg_tmod _ _
   rw [Int.tmod_eq_emod_of_nonneg (by omega)] at h2
   omega
 unfold turns
 rw [X1q (by omega) (by omega)]
 have h4:0<=k.tmod 8+8:=by omega
 rw [Int.tmod_eq_emod_of_nonneg h4]
 omega
def rIf2(x:Rg)(l:List Rg) : Bool:=(l++[x]).all rOk
theorem X0o{n lo hi:Int} : inR n lo hi=true↔lo<=n/\n<=hi:=by simp [inR]
theorem X4z{x:Rg} : rOk x=true↔(-1000000000<=x.a/\x.a<=1000000000)/\(-1000000000<=x.b/\x.b<=1000000000)/\(-1000000000<=x.c/\x.c<=1000000000)/\(-1000000000<=x.d/\x.d<=1000000000):=by
 simp only [rOk,Qd,X0o,and_assoc]
theorem Xel{i:Int}(h1:-2000000000<=i)(h2:i<=2000000000) : -1000000000<=i.tdiv 2/\i.tdiv 2<=1000000000:=by
 rcases Int.le_total 0 i with h|h
 ·rw [Int.tdiv_eq_ediv_of_nonneg h];omega
 ·have h3:(-i).tdiv 2 = -(i.tdiv 2):=Int.neg_tdiv _ _
  rw [Int.tdiv_eq_ediv_of_nonneg (by omega)] at h3
  omega
theorem X4y{i:Int}(h1:-2000000000<=i)(h2:i<=2000000000) : -1000000000<=wr ((wr i).tdiv 2)/\wr ((wr i).tdiv 2)<=1000000000:=by
 rw [X1q (i:=i) (by omega) (by omega)]
 have:=Xel h1 h2
 rw [X1q (by omega) (by omega)]
 exact this
theorem Xd5{x:Rg}(h:rOk x=true) : rOk (rHalf x)=true:=by
 rw [X4z] at h ⊢
 exact ⟨X4y (by omega) (by omega),X4y (by omega) (by omega),X4y (by omega) (by omega),X4y (by omega) (by omega)⟩
def dOk(x:Dy) : Bool:=rOk x.num&&inR x.exp 0 60&&(x.exp==0||!rEven x.num)
def raiseI:Nat->Rg->Rg×Bool
 | 0,y=>(y,true)
 | n+1,y=>if rIf2 (rRoot y) [y]=true then raiseI n (rRoot y) else (⟨0,0,0,0⟩,false)
structure Mx where (rows cols:Int) (cells:List Dy)
def mZ:Mx:=⟨0,0,[]⟩
abbrev mV(A:Option Addr)(c:Nat)(m:Mx) : Value:=.agg #[.int .i64 m.rows,.int .i64 m.cols,.slice A m.cells.length c]
def isDimB(n:Int) : Bool:=inR n 1 32&&bits .and .i64 n (wr (n-1))==0
def seqO(g:Nat->Option Dy) : Nat->Option (List Dy)
 | 0=>some []
 | n+1=>match seqO g n,g n with
  | some l,some x=>some (l++[x])
  | _,_=>none
theorem X9b{g:Nat->Option Dy} : ∀ {n:Nat} {l:List Dy},seqO g n=some l->l.length=n
 | 0,l,h=>by simp [seqO] at h;subst h;rfl
 | n+1,l,h=>by
  simp only [seqO] at h
  split at h
  ·rename_i l' x h1 h2
   injection h with h
   subst h
   simp [X9b h1]
  ·cases h
def gridG(f:Nat->Nat->Option Dy)(C:Nat)(n:Nat) : Option Dy:=f (n/C) (n % C)
theorem Xmy{f:Nat->Nat->Option Dy}{C i j:Nat}(hj:j<C) : gridG f C (i*C+j)=f i j:=by
 unfold gridG
 have h1:(i*C+j)/C=i:=by rw [Wi,Nat.mul_add_div (by omega),Nat.div_eq_of_lt hj];omega
 have h2:(i*C+j) % C=j:=by rw [Wi,Nat.mul_add_mod,Nat.mod_eq_of_lt hj]
 rw [h1,h2]
def matOf(R C:Int)(f:Nat->Nat->Option Dy) : Option Mx:=
 if (isDimB R&&isDimB C)=true then (seqO (gridG f C.toNat) (R.toNat*C.toNat)).map fun l=>⟨R,C,l⟩ else none
def Mx.at(m:Mx)(i j:Nat) : Dy:=m.cells.getD (i*m.cols.toNat+j) dZ
theorem Xnv{R C i j:Nat}(hi:i<R)(hj:j<C) : i*C+j<R*C:=by
 have h1:(i+1)*C<=R*C:=Nat.mul_le_mul_right _ hi
 rw [Wb] at h1
 omega
theorem X5n{P:Program}{t:TypeId}{fs:Array Field}(h:P.underlying t=some (.struct fs)) : P.fieldsOf t=fs:=by simp [Program.fieldsOf,h]
theorem X5t{P:Program}{w:World}{t k:Nat}{xs:Array Value}{v:Value}(h1:OneT P t)(h:xs[k]? = some v) : (part t xs k).run P w=.ok v w:=by
 simp [part,X41 h1,h]
theorem X1m {P : Program} {w : World} {d : Nat} {xs ys : Array Value} {f : Field} {fs : List Field} {k : IntKind} {i j : Int} (hn : f.name ≠ "_") (hT : OneT P f.type) (hu : P.underlying f.type = some (.int k)) (hx : xs[f.offset]? = some (.int .i64 i)) (hy : ys[f.offset]? = some (.int .i64 j))
  {r:Bool} (h:i=j->(Op.eqFields (d+1) xs ys fs).run P w=.ok r w) : (Op.eqFields (d+1) xs ys (f::fs)).run P w=.ok (decide (i=j)&&r) w:=by
 simp only [Op.eqFields,hn,ne_eq,not_false_eq_true,if_true,Sem.run_bind,X5t hT hx,X5t hT hy,Result.andThen_ok,run_equalIn_int _ _ _ _ _ _ _ hu]
 by_cases hij:i=j
 ·subst hij
  simp [h rfl]
 ·simp [hij]
theorem eqR(d:Nat)(x y:Rg)(w:World) : (Op.equalIn (d+2) 94 (rV x) (rV y)).run Tryz.prog w=.ok (decide (x=y)) w:=by
 have hf:=X5n Tryz.underlying94;refine (run_equalIn_struct w (d+1) 94 _ _ (by rw [hf];exact Tryz.underlying94) (by kernel_rfl)).trans ?_
 rw [hf]
 have:decide (x=y)=(decide (x.a=y.a)&&(decide (x.b=y.b)&&(decide (x.c=y.c)&&(decide (x.d=y.d)&&true)))):=by
  obtain ⟨a,b,c,d⟩:=x;obtain ⟨a',b',c',d'⟩:=y
  simp
 rw [this]
 refine X1m (by decide) X9 Tryz.underlying3 rfl rfl fun _=>?_;refine X1m (by decide) X9 Tryz.underlying3 rfl rfl fun _=>?_;refine X1m (by decide) X9 Tryz.underlying3 rfl rfl fun _=>?_;refine X1m (by decide) X9 Tryz.underlying3 rfl rfl fun _=>?_
 rfl
theorem Xhr{P:Program}{w:World}{t k n:Nat}{xs:Array Value}(h1:AggT P t n) : (part t xs k).run P w=.ok (.agg (xs.extract k (k+n))) w:=by
 simp [part,X68 h1,run_sizeOf' h1.2]
theorem Xb6 {P : Program} {w : World} {d n : Nat} {xs ys : Array Value} {f : Field} {fs : List Field} {v1 v2 : Value} {b r : Bool} (hn : f.name ≠ "_") (hT : AggT P f.type n) (hx : .agg (xs.extract f.offset (f.offset + n)) = v1) (hy : .agg (ys.extract f.offset (f.offset + n)) = v2)
  (he:(Op.equalIn d f.type v1 v2).run P w=.ok b w) (h:b=true->(Op.eqFields d xs ys fs).run P w=.ok r w) : (Op.eqFields d xs ys (f::fs)).run P w=.ok (b&&r) w:=by
 simp only [Op.eqFields,hn,ne_eq,not_false_eq_true,if_true,Sem.run_bind,Xhr hT,Result.andThen_ok,hx,hy,he]
 cases b
 ·simp
 ·simp [h rfl]
theorem eqD(d:Nat)(x y:Dy)(w:World) : (Op.equalIn (d+3) 96 (dV x) (dV y)).run Tryz.prog w=.ok (decide (x=y)) w:=by
 have hf:=X5n Tryz.underlying96;refine (run_equalIn_struct w (d+2) 96 _ _ (by rw [hf];exact Tryz.underlying96) (by kernel_rfl)).trans ?_
 rw [hf]
 have:decide (x=y)=(decide (x.num=y.num)&&(decide (x.exp=y.exp)&&true)):=by
  obtain ⟨a,b⟩:=x;obtain ⟨a',b'⟩:=y
  simp
 rw [this]
 refine Xb6 (v1:=rV x.num) (v2:=rV y.num) (by decide) X2e rfl rfl (eqR d _ _ _) fun _=>?_;exact X1m (by decide) X9 Tryz.underlying3 rfl rfl fun _=>rfl
section
variable {P : Program} {a : Act} {w : World} {n : Nat} {e : Env} {ty : TypeId} {pos : String} {af : Array Edge} {g : Option (Nat × Bool)} {d : Option Tmp} {t t' : TypeId} {x y : Operand} {X Y : Array Value} {b : Bool}
theorem Xq0(hf:Fr a n e)(hx:ev e x=some (.agg X))(hy:ev e y=some (.agg Y))(hm:P.eqGuardType P.depth t=false)(he:∀ w,(Op.equalIn 10000 t (.agg X) (.agg Y)).run P w=.ok b w) : Ev P ⟨d,.binOp .eql t x y t',ty,pos,af,g⟩ a w (.bool b):=fun w' _=>by
 have h1:=run_eqGuard_agg (P:=P) w' .eql t x y X Y hm;have h2:=run_eql_struct (P:=P) w' t X Y
 rw [he] at h2
 simp [execOp,hf.ev hx,hf.ev hy,h1,h2]
theorem Xs7(hx:ev e x=some (.agg X))(hy:ev e y=some (.agg Y))(hm:P.eqGuardType P.depth t=false)(he:∀ w,(Op.equalIn 10000 t (.agg X) (.agg Y)).run P w=.ok b w) : EvW P ⟨d,.binOp .eql t x y t',ty,pos,af,g⟩ n e w (.bool b):=fun a hf=>Xq0 hf hx hy hm he
theorem Xox(hf:Fr a n e)(hx:ev e x=some (.agg X))(hy:ev e y=some (.agg Y))(hm:P.eqGuardType P.depth t=false)(he:∀ w,(Op.equalIn 10000 t (.agg X) (.agg Y)).run P w=.ok b w) : Ev P ⟨d,.binOp .neq t x y t',ty,pos,af,g⟩ a w (.bool (!b)):=fun w' _=>by
 have h1:=run_eqGuard_agg (P:=P) w' .neq t x y X Y hm;have h2:=run_neq_struct (P:=P) w' t X Y
 rw [he] at h2
 simp [execOp,hf.ev hx,hf.ev hy,h1,h2]
theorem Xcb(hx:ev e x=some (.agg X))(hy:ev e y=some (.agg Y))(hm:P.eqGuardType P.depth t=false)(he:∀ w,(Op.equalIn 10000 t (.agg X) (.agg Y)).run P w=.ok b w) : EvW P ⟨d,.binOp .neq t x y t',ty,pos,af,g⟩ n e w (.bool (!b)):=fun a hf=>Xox hf hx hy hm he
end
theorem Xv9:Tryz.prog.eqGuardType Tryz.prog.depth 96=false:=by kernel_rfl
theorem Xrt{α:Type}{l m:List α}{k:Nat}{u v:α}(h:l.take k=m.take k)(hu:l[k]? = some u)(hv:m[k]? = some v)(he:u=v) : l.take (k+1)=m.take (k+1):=by
 rw [Qt,Qt,h,hu,hv,he]
theorem Xv0{P:Program}{a:Act}{w:World}{n:Nat}{e:Env}{ty:TypeId}{pos:String}{af:Array Edge}{g:Option (Nat×Bool)}{d:Option Tmp}{s t:TypeId}{x:Operand}{i:Int}{m:Nat}(hs:P.underlying s=some (.int .i64))(ht:P.underlying t=some (.int .u64))(hf:Fr a n e)(hx:ev e x=some (.int .i64 i))(hi:i=(m:Int))(hm:m<=64) :
  Ev P ⟨d,.convert s t x,ty,pos,af,g⟩ a w (.int .u64 (m:Int)):=fun w' _=>by
 subst hi
 have h:IntKind.u64.wrap (m:Int)=(m:Int):=by
  simp only [IntKind.wrap]
  simp only [IntKind.bits,IntKind.signed,Bool.false_and,Bool.false_eq_true,if_false]
  omega
 simp [execOp,hf.ev hx,convert,X0g hs,X0g ht,Conv.intToInt,h]
theorem Y5e{P:Program}{w:World}{n:Nat}{e:Env}{ty:TypeId}{pos:String}{af:Array Edge}{g:Option (Nat×Bool)}{d:Option Tmp}{s t:TypeId}{x:Operand}{i:Int}{m:Nat}(hs:P.underlying s=some (.int .i64))(ht:P.underlying t=some (.int .u64))(hx:ev e x=some (.int .i64 i))(hi:i=(m:Int))(hm:m<=64) : EvW P ⟨d,.convert s t x,ty,pos,af,g⟩ n e w (.int .u64 (m:Int)):=fun a hf=>Xv0 hs ht hf hx hi hm
def bitF(n s q:Int) : Int:=bits .and .i64 (s/2^(n-1-q).toNat) 1
def turnOf(k:Int) : Int:=if k=4 then 4 else if k=5 then 2 else if k=6 then 6 else if k=7 then 1 else 7
theorem Own.of_blkL{α:Type}{w:World}{B0 b k:Nat}{E:TypeId}{sz:Nat}{enc:α->List Value}{cs:List Value}{l:List α}(hsz:∀ x,(enc x).length=sz)(h:Blk w b E cs)(hb:B0<=b)(hc:l.flatMap enc=cs)(hl:l.length=k)(hk:k<=maxLen) : Own w B0 E sz enc (some ⟨b,0,none⟩) k l:=by
 subst hc;subst hl
 have h1:=Xu hsz l
 refine ⟨h1,.inr ⟨b,l.length,_,rfl,hb,h,Qb _,hk,?_,?_⟩⟩
 ·simpa using h1
 ·rw [<- h1];exact List.take_length
structure Cx where (n:Int) (gs:List Gt)
def gOk(n:Int)(x:Gt) : Bool:=
 inR n 1 5&&inR x.k 1 12&&(if x.k=12 then x.a==0&&x.b==0 else if inR x.k 9 11=true then inR x.a 0 (n-1)&&inR x.b 0 (n-1)&&x.a != x.b else inR x.a 0 (n-1)&&x.b==0)
def cOk(c:Cx) : Bool:=inR c.n 1 5&&decide ((c.gs.length:Int)<=400)&&!(c.gs.any fun x=>!gOk c.n x)
theorem Xr9(n s q:Int) : bitF n s q=0∨bitF n s q=1:=by
 have key:∀ b:BitVec 64,IntKind.i64.wrap ((b &&& BitVec.ofInt 64 1).toNat:Int)=0∨IntKind.i64.wrap ((b &&& BitVec.ofInt 64 1).toNat:Int)=1:=fun b=>by
  have:(BitVec.ofInt 64 1).toNat=1:=by decide
  have h:(b &&& BitVec.ofInt 64 1).toNat=0∨(b &&& BitVec.ofInt 64 1).toNat=1:=by
   rw [BitVec.toNat_and,this,Nat.and_one_is_mod]
   omega
  rcases h with h|h<;>rw [h]
  ·exact .inl rfl
  ·exact .inr rfl
 exact key _
theorem Xcs{n:Int}{g:Gt}(h:gOk n g=true) : (1<=n/\n<=5)/\(1<=g.k/\g.k<=12)/\(g.k≠12->0<=g.a/\g.a<n)/\(9<=g.k/\g.k<=11->0<=g.b/\g.b<n/\g.a≠g.b):=by
 simp only [gOk,Qd,X0o] at h
 obtain ⟨⟨h1,h2⟩,h3⟩:=h
 refine ⟨h1,h2,fun hk=>?_,fun hk=>?_⟩
 ·rw [Q3 hk] at h3
  split at h3<;>simp only [Qd,X0o] at h3<;>omega
 ·rw [Q3 (by omega),Q4 hk] at h3
  simp only [Qd,X0o,bne_iff_ne] at h3
  exact ⟨h3.1.2.1,by omega,h3.2⟩
section
end
theorem F91(w0:World)(n:Int)(lo:Int)(hi:Int) : Ret Tryz.prog 94 [vi n,vi lo,vi hi] w0 (fun v w=>v=.bool (inR n lo hi)/\w0=w):=by
 refine enter Tryz.func94 rfl 15 rfl rfl ?_;intro a c
 have hW:=bz w0
 refine Zs c fun _ a6=>?_;refine Za rfl<|ZX a6 fun a c _ a7=>?_;refine X0a (fun a w=>Fr a 15 [(6,.bool ((decide (lo<=n))&&(decide (n<=hi))))]/\w0=w) ?_ ?_
 ·refine Zr c<|Zm rfl<|Zm rfl<|Ze (Xdx rfl rfl)<|Zm rfl ?_
  refine Zg 10 rfl (fun b=>?_) (fun b=>?_)
  ·refine Zv (gW b) (X3 rfl) ?_;refine Zv (gW b) (X3 rfl) ?_;refine Zv (gW b) (Xdx rfl rfl) ?_;refine Ze (X5 rfl b rfl)<|Za rfl ?_;refine Zn fun a c=>?_;exact ⟨c.sub ⟨X1 rfl (by first|rfl|(simp only [b,bs];done)|simp [b]),trivial⟩,rfl⟩
  (iterate 3 refine Zp (gP b) ?_);refine Ze (Xb rfl b rfl)<|Za rfl ?_;refine Zn fun a c=>?_;exact ⟨c.sub ⟨X1 rfl (by first|rfl|(simp only [b,bs];done)|simp [b]),trivial⟩,rfl⟩
 rintro a _ ⟨c,rfl⟩;refine a7 _ _ ?_
 refine Q6 (X6 c (Xp c rfl rfl) ?_)
 exact ⟨by simp [inR, *],rfl⟩
theorem F85(w0:World)(n:Int)(lo:Int)(hi:Int) : Ret Tryz.prog 86 [vi n,vi lo,vi hi] w0 (fun v w=>v=.bool (inR n lo hi)/\w0=w):=by
 refine enter Tryz.func86 rfl 15 rfl rfl ?_;intro a c
 have hW:=bz w0
 refine Zs c fun _ a6=>?_;refine Za rfl<|ZX a6 fun a c _ a7=>?_;refine X0a (fun a w=>Fr a 15 [(6,.bool ((decide (lo<=n))&&(decide (n<=hi))))]/\w0=w) ?_ ?_
 ·refine Zr c<|Zm rfl<|Zm rfl<|Ze (X5h rfl rfl)<|Zm rfl ?_
  refine Zg 10 rfl (fun b=>?_) (fun b=>?_)
  ·refine Zv (gW b) (X3 rfl) ?_;refine Zv (gW b) (X3 rfl) ?_;refine Zv (gW b) (Xdx rfl rfl) ?_;refine Ze (X5 rfl b rfl)<|Za rfl ?_;refine Zn fun a c=>?_;exact ⟨c.sub ⟨X1 rfl (by first|rfl|(simp only [b,bs];done)|simp [b]),trivial⟩,rfl⟩
  (iterate 3 refine Zp (gP b) ?_);refine Ze (Xb rfl b rfl)<|Za rfl ?_;refine Zn fun a c=>?_;exact ⟨c.sub ⟨X1 rfl (by first|rfl|(simp only [b,bs];done)|simp [b]),trivial⟩,rfl⟩
 rintro a _ ⟨c,rfl⟩;refine a7 _ _ ?_
 refine Q6 (X6 c (Xp c rfl rfl) ?_)
 exact ⟨by simp [inR, *],rfl⟩
theorem Y2b(w0:World)(x:Int)(y:Int) : Ret Tryz.prog 187 [vi x,vi y] w0 (fun v w=>v=vi (max x y)/\w0=w):=by
 refine enter Tryz.func187 rfl 10 rfl rfl ?_;intro a c
 have hW:=bz w0
 refine Zs c fun _ a7=>?_;refine Za rfl<|ZX a7 fun a c _ a8=>?_;refine Zs c fun _ aA=>?_;refine Zm rfl<|Zm rfl<|Ze (X2y rfl rfl)<|Zt aA fun a c=>?_
 refine Xi c rfl (fun b=>?_) (fun b=>?_)
 ·have a6:=b;have b:=Q2 b;refine Zs c fun _ aB=>?_;refine Zm rfl<|Za rfl<|Zt aB fun a c=>?_;refine Q6<|X8<|X6 c (Xp c rfl rfl) ?_;exact ⟨by congr 1;omega,rfl⟩
 have a6:=b;have b:=Q1 b;refine Q7<|a8 _ _<|Zs c fun _ aC=>?_;refine Zm rfl<|Za rfl<|Zt aC fun a c=>?_
 refine Q6 (X6 c (Xp c rfl rfl) ?_)
 exact ⟨by congr 1;omega,rfl⟩
theorem Y0j(e:World)(Al:Option Addr)(cl:Nat)(l:List Int)(aB:Rd e e.heap.size 3 encI Al l)(lo:Int)(f:Int)(aO:l.length<=2305843009213693951) : Ret Tryz.prog 147 [.slice Al l.length cl,vi lo,vi f] e (fun v w=>v=.bool (l.all fun n=>inR n lo f)/\Below e.heap.size e w):=by
 refine enter Tryz.func147 rfl 21 rfl rfl ?_;intro a b
 have hW:=bz e
 refine Zs b fun _ aH=>?_;refine Za rfl<|ZX aH fun a b _ aI=>?_;refine Zs b fun _ aJ=>?_;refine Zm rfl<|Ze (X09 rfl Xj)<|Zm rfl<|Zt aJ fun a b=>?_;refine Q8<|X01 (σ:=Nat) (fun (k:Nat) (a:Act) (w:World)=>Fr a 21 [(1,vi lo),(2,vi f),(9,.slice Al l.length cl),(10,vi (l.length:Int)),(11,vi (k:Int))]/\(k<=l.length)/\((l.take k).all (fun n=>inR n lo f)=true)/\Below e.heap.size e w) (fun (k:Nat)=>l.length+1-k) 0 ?_ ?_
 ·exact ⟨b.sb,(Qf _),(by simp),hW⟩
 rintro k a w1 ⟨b,hk,g,hW⟩;refine Zs b fun _ aK=>?_;refine Ze (X0n rfl rfl)<|ZX aK fun a b _ aL=>?_
 refine Xi b rfl (fun d=>?_) (fun d=>?_)
 ·have aC:=d;have d:=Q2 d
  obtain ⟨u8,a6⟩:=X4 (l:=l) (k:=k) (by omega)
  refine Q7<|aL _ _<|Q5 fun _ aM=>?_;refine Q8<|Zs b fun _ aD=>?_;refine Zi (k:=k) (u:=u8) (enc:=encI) (l:=l) tv0 rfl rfl Xj X0b Xd (aB.bx hW) a6 rfl ?_;intro aP a7;refine Ze (X0 rfl X9 a7)<|Za rfl<|Zx aD fun a b _ aE=>?_;refine Zm rfl<|Zm rfl<|Zm rfl<|Zf (Vc (F85 _ u8 lo f) X64) ?_;rintro _ _ ⟨rfl,rfl⟩;refine Ze (X0w rfl)<|Zt aE fun a b=>?_
  refine Xi b rfl (fun c=>?_) (fun c=>?_)
  ·have a8:=c
   have aA:(l.all fun n=>inR n lo f)=false:=Xic a6 (by simpa using c)
   refine Zs b fun _ aF=>?_;refine Za rfl<|Zt aF fun a b=>?_;refine Q6<|Xw<|X8<|X8 ?_;refine Xw<|X8<|X6 b (Xp b rfl rfl) ?_;exact ⟨by rw [aA],hW⟩
  have a8:=c
  have aN:inR u8 lo f=true:=by simpa using c
  refine Q7<|Xa<|aM _ _<|Zr b ?_;refine Ze (Xs rfl rfl (by omega) (by omega))<|Zm rfl ?_;refine Zn fun a b=>?_;refine Xc ?_;exact ⟨k+1,⟨b.sb,(by omega),(X5c g a6 aN),hW⟩,(by omega)⟩
 have aC:=d;have d:=Q1 d;refine Q9<|Xk<|Xk<|X02 ?_;refine aI _ _<|Zs b fun _ aG=>?_;refine Za rfl<|Zt aG fun a b=>?_
 refine Q6 (X6 b (Xp b rfl rfl) ?_)
 have aA:(l.all fun n=>inR n lo f)=true:=X5w g (by omega)
 exact ⟨by rw [aA],hW⟩
theorem Xzl(w0:World)(x:Rg) : Ret Tryz.prog 157 [.agg #[vi x.a,vi x.b,vi x.c,vi x.d]] w0 (fun v w=>v=.bool (rOk x)/\Below w0.heap.size w0 w):=by
 refine enter Tryz.func157 rfl 13 rfl rfl ?_;intro a hf
 have e:=bz w0
 refine Zs hf fun _ a7=>?_;refine Zf (X0l (zs:=[vi x.a,vi x.b,vi x.c,vi x.d]) rfl rfl) ?_;rintro _ w1 ⟨b2,rfl,a8,hE,f⟩;have aC:=Q0 e.size a8;have e:=btr e hE;refine Za rfl<|Zx a7 fun a hf _ aA=>?_;refine Ze (Vd rfl X39 0)<|Ze (X0 rfl X9 (f.at 0))<|Ze (Vd rfl X3c 1)<|Ze (X0 rfl X9 (f.at 1))<|Ze (Vd rfl X38 2)<|Ze (X0 rfl X9 (f.at 2))<|Ze (Vd rfl X3d 3)<|Ze (X0 rfl X9 (f.at 3))<|Zf (Xn (k:=4) (vs:=[vi x.a,vi x.b,vi x.c,vi x.d]) (zs:=[vi x.a,vi x.b,vi x.c,vi x.d]) rfl Xj X1g rfl rfl) ?_;rintro _ w2 ⟨b4,rfl,aB,hE,a6⟩;have aD:=Q0 e.size aB;have e:=btr e hE;refine Zf (Vc (Y0j _ (some ⟨b4,0,none⟩) 4 ([x.a,x.b,x.c,x.d]) (Rd.of_blk a6 rfl _ a6.lt) (-1000000000) 1000000000 (by simp)) Xld) ?_;rintro _ w3 ⟨rfl,hE⟩;have e:=btr e hE;refine Za rfl<|Zt aA fun a hf=>?_
 refine Q6 (X6 hf (Xp hf rfl rfl) ?_)
 exact ⟨by simp [rOk,Bool.and_assoc],e⟩
theorem Y4h(w0:World)(x:Rg)(k:Int) : Ret Tryz.prog 156 [.agg #[vi x.a,vi x.b,vi x.c,vi x.d],vi k] w0 (fun v w=>v=rV (rTurn x k)/\Below w0.heap.size w0 w):=by
 refine enter Tryz.func156 rfl 24 rfl rfl ?_;intro a f
 have n:=bz w0
 refine Zs f fun _ aD=>?_;refine Zf (X0l (zs:=[vi x.a,vi x.b,vi x.c,vi x.d]) rfl rfl) ?_;rintro _ w1 ⟨b2,rfl,aE,hE,e⟩;have a6:=Q0 n.size aE;have n:=btr n hE;refine Zf (Xq (zs:=[vi 0,vi 0,vi 0,vi 0]) Xae rfl) ?_;rintro _ w2 ⟨b3,rfl,aF,hE,g⟩
 have aC:b2≠b3:=by have:=e.lt;omega
 have a7:=Q0 n.size aF;have e:=e.bw hE;have n:=btr n hE;refine ZX aD fun a f _ aG=>?_;refine Zs f fun _ aH=>?_;refine Zm rfl<|Ze (X3k rfl rfl rfl)<|Ze (X2z rfl rfl)<|Ze (X3k rfl rfl rfl)<|Za rfl<|Zt aH fun a f=>?_;refine Q8 ?_
 have hj:turns k=((turns k).toNat:Int):=by have:=X80 k;omega
 rw [show (wr (k.tmod 8+8)).tmod 8=turns k from rfl,hj] at f
 have aI:=(X80 k).2;refine X01 (σ:=Rg×Nat) (fun (s:Rg×Nat) (a:Act) (w:World)=>match s with|(y,j)=>Fr a 24 [(1,vi (j:Int)),(2,(pZ9 b2)),(4,(pZ9 b3))]/\(rTurnN j y=rTurn x k)/\(j<8)/\Blk w b2 94 [vi y.a,vi y.b,vi y.c,vi y.d]/\Blk w b3 94 [vi 0,vi 0,vi 0,vi 0]/\Below w0.heap.size w0 w) (fun (s:Rg×Nat)=>match s with|(y,j)=>j) (x,(turns k).toNat) ?_ ?_
 ·exact ⟨f.sb,rfl,(by omega),e,g,n⟩
 rintro ⟨y,j⟩ a w3 ⟨f,o,aI,e,g,n⟩;refine Q5 fun _ aJ=>?_;refine Zs f fun _ aK=>?_;refine Zm rfl<|Ze (X2y rfl rfl)<|Zt aK fun a f=>?_
 refine Xi f rfl (fun i=>?_) (fun i=>?_)
 ·have a8:=i;have i:=Q2 i;refine Q7<|aJ _ _<|Q5 fun _ aL=>?_;refine Q8<|Zr f<|Ze (Vd rfl X3d 3)<|Ze (X0 rfl X9 (e.at 3))<|Ze (Xv5 rfl)<|Ze (Vd rfl X39 0)<|Ze (X0 rfl X9 (e.at 0))<|Ze (Vd rfl X3c 1)<|Ze (X0 rfl X9 (e.at 1))<|Ze (Vd rfl X38 2)<|Ze (X0 rfl X9 (e.at 2))<|Ze (X0s (ps:=[(0,vi (wr (-y.d))),(1,vi y.a),(2,vi y.b),(3,vi y.c)]) (cs:=[vi (wr (-y.d)),vi y.a,vi y.b,vi y.c]) rfl (fun _=>by first|rfl|kernel_rfl)) ?_;refine Zo (Vw [vi (wr (-y.d)),vi y.a,vi y.b,vi y.c] X43 e) ?_;rintro _ w4 ⟨ho,hb⟩;have aA:=e;have g:=g.oy ho (by omega);have n:=Below.oy n ho a6;have e:=hb;refine Zn fun a f=>?_;refine Xa<|aL _ _<|Zr f<|Zm rfl<|Ze (X1h rfl rfl (by omega) (by omega))<|Za rfl ?_;refine Zn fun a f=>?_
  have aM:((j:Int)-1)=((j-1:Nat) : Int):=by omega
  rw [aM] at f
  refine Xc ?_;exact ⟨(rOm y,j-1),⟨f.sb,(by rw [<- o];obtain ⟨m,rfl⟩ : ∃ m,j=m+1:=⟨j-1,by omega⟩;rfl),(by omega),e,g,n⟩,(by first|omega|(dsimp only;omega))⟩
 have a8:=i;have i:=Q1 i;refine Q9<|Xk<|Xk<|X02 ?_;refine aG _ _<|Zs f fun _ aB=>?_;refine Ze (Vn X2e e)<|Zo (Vw [vi y.a,vi y.b,vi y.c,vi y.d] X43 g) ?_;rintro _ w5 ⟨ho,hb⟩;have aA:=g;have n:=Below.oy n ho a7;have g:=hb;refine Zt aB fun a f=>?_
 refine Q6 (X6 f (Xp f rfl (ResV.cellN (l:=[vi y.a,vi y.b,vi y.c,vi y.d]) rfl X2e (g.at 0) rfl)) ?_)
 have aN:j=0:=by omega
 subst aN
 rw [<- o]
 exact ⟨rfl,n⟩
theorem Y05(w0:World)(x:Rg) : Ret Tryz.prog 158 [.agg #[vi x.a,vi x.b,vi x.c,vi x.d]] w0 (fun v w=>v=rV (rRoot x)/\Below w0.heap.size w0 w):=by
 refine enter Tryz.func158 rfl 24 rfl rfl ?_;intro a hf
 have f:=bz w0
 refine Zs hf fun _ a8=>?_;refine Zf (X0l (zs:=[vi x.a,vi x.b,vi x.c,vi x.d]) rfl rfl) ?_;rintro _ w1 ⟨b2,rfl,aA,hE,e⟩;have aD:=Q0 f.size aA;have f:=btr f hE;refine Zf (Xq (zs:=[vi 0,vi 0,vi 0,vi 0]) Xae rfl) ?_;rintro _ w2 ⟨b3,rfl,aB,hE,g⟩
 have a7:b2≠b3:=by have:=e.lt;omega
 have a6:=Q0 f.size aB;have e:=e.bw hE;have f:=btr f hE;refine Zx a8 fun a hf _ aC=>?_;refine Ze (Vd rfl X3c 1)<|Ze (X0 rfl X9 (e.at 1))<|Ze (Vd rfl X3d 3)<|Ze (X0 rfl X9 (e.at 3))<|Ze (X9m rfl rfl)<|Ze (Vd rfl X39 0)<|Ze (X0 rfl X9 (e.at 0))<|Ze (Vd rfl X38 2)<|Ze (X0 rfl X9 (e.at 2))<|Ze (X2z rfl rfl) ?_;refine Ze (Vd rfl X3c 1)<|Ze (X0 rfl X9 (e.at 1))<|Ze (Vd rfl X3d 3)<|Ze (X0 rfl X9 (e.at 3))<|Ze (X2z rfl rfl)<|Ze (Vd rfl X38 2)<|Ze (X0 rfl X9 (e.at 2))<|Ze (Vd rfl X39 0)<|Ze (X0 rfl X9 (e.at 0))<|Ze (X9m rfl rfl) ?_;refine Ze (X0s (ps:=[(0,vi (wr (x.b-x.d))),(1,vi (wr (x.a+x.c))),(2,vi (wr (x.b+x.d))),(3,vi (wr (x.c-x.a)))]) (cs:=[vi (wr (x.b-x.d)),vi (wr (x.a+x.c)),vi (wr (x.b+x.d)),vi (wr (x.c-x.a))]) rfl (fun _=>by first|rfl|kernel_rfl))<|Zo (Vw [vi (wr (x.b-x.d)),vi (wr (x.a+x.c)),vi (wr (x.b+x.d)),vi (wr (x.c-x.a))] X43 g) ?_;rintro _ w3 ⟨ho,hb⟩;have aE:=g;have f:=Below.oy f ho a6;have g:=hb;refine Zt aC fun a hf=>?_
 refine Q6 (X6 hf (Xp hf rfl (ResV.cellN (l:=[vi (wr (x.b-x.d)),vi (wr (x.a+x.c)),vi (wr (x.b+x.d)),vi (wr (x.c-x.a))]) rfl X2e (g.at 0) rfl)) ?_)
 exact ⟨rfl,f⟩
theorem Y54(w0:World)(x:Rg)(y:Rg) : Ret Tryz.prog 155 [.agg #[vi x.a,vi x.b,vi x.c,vi x.d],.agg #[vi y.a,vi y.b,vi y.c,vi y.d]] w0 (fun v w=>v=rV (rAdd x y)/\Below w0.heap.size w0 w):=by
 refine enter Tryz.func155 rfl 26 rfl rfl ?_;intro a hf
 have g:=bz w0
 refine Zs hf fun _ aB=>?_;refine Zf (X0l (zs:=[vi x.a,vi x.b,vi x.c,vi x.d]) rfl rfl) ?_;rintro _ w1 ⟨b2,rfl,aC,j,e⟩;have aG:=Q0 g.size aC;have g:=btr g j;refine Zf (X0l (zs:=[vi y.a,vi y.b,vi y.c,vi y.d]) rfl rfl) ?_;rintro _ w2 ⟨b3,rfl,aD,j,f⟩
 have a7:b2≠b3:=by have:=e.lt;omega
 have aH:=Q0 g.size aD;have e:=e.bw j;have g:=btr g j;refine Zf (Xq (zs:=[vi 0,vi 0,vi 0,vi 0]) Xae rfl) ?_;rintro _ w3 ⟨b4,rfl,aE,j,i⟩
 have a8:b2≠b4:=by have:=e.lt;omega
 have aA:b3≠b4:=by have:=f.lt;omega
 have a6:=Q0 g.size aE;have e:=e.bw j;have f:=f.bw j;have g:=btr g j;refine Zx aB fun a hf _ aF=>?_;refine Ze (Vd rfl X39 0)<|Ze (X0 rfl X9 (e.at 0))<|Ze (Vd rfl X39 0)<|Ze (X0 rfl X9 (f.at 0))<|Ze (X2z rfl rfl)<|Ze (Vd rfl X3c 1)<|Ze (X0 rfl X9 (e.at 1))<|Ze (Vd rfl X3c 1)<|Ze (X0 rfl X9 (f.at 1))<|Ze (X2z rfl rfl) ?_;refine Ze (Vd rfl X38 2)<|Ze (X0 rfl X9 (e.at 2))<|Ze (Vd rfl X38 2)<|Ze (X0 rfl X9 (f.at 2))<|Ze (X2z rfl rfl)<|Ze (Vd rfl X3d 3)<|Ze (X0 rfl X9 (e.at 3))<|Ze (Vd rfl X3d 3)<|Ze (X0 rfl X9 (f.at 3))<|Ze (X2z rfl rfl) ?_;refine Ze (X0s (ps:=[(0,vi (wr (x.a+y.a))),(1,vi (wr (x.b+y.b))),(2,vi (wr (x.c+y.c))),(3,vi (wr (x.d+y.d)))]) (cs:=[vi (wr (x.a+y.a)),vi (wr (x.b+y.b)),vi (wr (x.c+y.c)),vi (wr (x.d+y.d))]) rfl (fun _=>by first|rfl|kernel_rfl))<|Zo (Vw [vi (wr (x.a+y.a)),vi (wr (x.b+y.b)),vi (wr (x.c+y.c)),vi (wr (x.d+y.d))] X43 i) ?_;rintro _ w4 ⟨ho,hb⟩;have aI:=i;have g:=Below.oy g ho a6;have i:=hb;refine Zt aF fun a hf=>?_
 refine Q6 (X6 hf (Xp hf rfl (ResV.cellN (l:=[vi (wr (x.a+y.a)),vi (wr (x.b+y.b)),vi (wr (x.c+y.c)),vi (wr (x.d+y.d))]) rfl X2e (i.at 0) rfl)) ?_)
 exact ⟨rfl,g⟩
theorem Y58(w0:World)(x:Rg) : Ret Tryz.prog 196 [.agg #[vi x.a,vi x.b,vi x.c,vi x.d]] w0 (fun v w=>v=.bool (rEven x)/\Below w0.heap.size w0 w):=by
 refine enter Tryz.func196 rfl 19 rfl rfl ?_;intro a f
 have hW:=bz w0
 refine Zs f fun _ a6=>?_;refine Zf (X0l (zs:=[vi x.a,vi x.b,vi x.c,vi x.d]) rfl rfl) ?_;rintro _ w1 ⟨b2,rfl,a7,hE,g⟩;have aA:=Q0 hW.size a7;have hW:=btr hW hE;refine Za rfl<|ZX a6 fun a f _ a8=>?_;refine X0a (fun a w=>Fr a 19 [(2,.bool ((((wr (x.a+x.c)).tmod 2)==0)&&(((wr (x.b+x.d)).tmod 2)==0)))]/\w1=w) ?_ ?_
 ·refine Zr f<|Ze (Vd rfl X39 0)<|Ze (X0 rfl X9 (g.at 0))<|Ze (Vd rfl X38 2)<|Ze (X0 rfl X9 (g.at 2))<|Ze (X2z rfl rfl)<|Ze (X3k rfl rfl rfl)<|Ze (X0k rfl rfl)<|Zm rfl ?_
  refine Zg 10 rfl (fun e=>?_) (fun e=>?_)
  ·refine Zv (gW e) (Vd rfl X3c 1) ?_;refine Zv (gW e) (X0 rfl X9 (g.at 1)) ?_;refine Zv (gW e) (Vd rfl X3d 3) ?_;refine Zv (gW e) (X0 rfl X9 (g.at 3)) ?_;refine Zv (gW e) (X2z rfl rfl) ?_;refine Zv (gW e) (X3k rfl rfl rfl) ?_;refine Zv (gW e) (X0k rfl rfl) ?_;refine Ze (X5 rfl e rfl)<|Za rfl ?_;refine Zn fun a f=>?_;exact ⟨f.sub ⟨X1 rfl (by first|rfl|(simp only [e,bs];done)|simp [e]),trivial⟩,rfl⟩
  (iterate 7 refine Zp (gP e) ?_);refine Ze (Xb rfl e rfl)<|Za rfl ?_;refine Zn fun a f=>?_;exact ⟨f.sub ⟨X1 rfl (by first|rfl|(simp only [e,bs];done)|simp [e]),trivial⟩,rfl⟩
 rintro a _ ⟨f,rfl⟩;refine a8 _ _ ?_
 refine Q6 (X6 f (Xp f rfl rfl) ?_)
 exact ⟨rfl,hW⟩
theorem Y4f(w0:World)(x:Rg) : Ret Tryz.prog 197 [.agg #[vi x.a,vi x.b,vi x.c,vi x.d]] w0 (fun v w=>v=rV (rHalf x)/\Below w0.heap.size w0 w):=by
 refine enter Tryz.func197 rfl 19 rfl rfl ?_;intro a hf
 have f:=bz w0
 refine Zs hf fun _ aD=>?_;refine Zf (X0l (zs:=[vi x.a,vi x.b,vi x.c,vi x.d]) rfl rfl) ?_;rintro _ w1 ⟨b2,rfl,aE,j,g⟩;have aJ:=Q0 f.size aE;have f:=btr f j;refine Zf (Xq (zs:=[vi 0,vi 0,vi 0,vi 0]) Xae rfl) ?_;rintro _ w2 ⟨b3,rfl,aF,j,e⟩
 have aA:b2≠b3:=by have:=g.lt;omega
 have a6:=Q0 f.size aF;have g:=g.bw j;have f:=btr f j;refine Zx aD fun a hf _ aG=>?_;refine Ze (Vn X2e g)<|Zf (Vc (Y05 _ x) Xll) ?_;rintro _ w3 ⟨rfl,j⟩;have g:=g.bw j;have e:=e.bw j;have f:=btr f j;refine Zf (Xq (zs:=[vi 0,vi 0,vi 0,vi 0]) Xae rfl) ?_;rintro _ w4 ⟨b5,rfl,aH,j,i⟩
 have aB:b2≠b5:=by have:=g.lt;omega
 have aC:b3≠b5:=by have:=e.lt;omega
 have a7:=Q0 f.size aH;have e:=e.bw j;have f:=btr f j;refine Zo (Vw [vi ((rRoot x).a),vi ((rRoot x).b),vi ((rRoot x).c),vi ((rRoot x).d)] X43 i) ?_;rintro _ w5 ⟨ho,hb⟩;have a8:=i;have e:=e.oy ho (by omega);have f:=Below.oy f ho a7;have i:=hb;refine Zx aG fun a hf _ aI=>?_;refine Ze (Vd rfl X39 0)<|Ze (X0 rfl X9 (i.at 0))<|Ze (Xif rfl rfl rfl)<|Ze (Vd rfl X3c 1)<|Ze (X0 rfl X9 (i.at 1))<|Ze (Xif rfl rfl rfl)<|Ze (Vd rfl X38 2)<|Ze (X0 rfl X9 (i.at 2))<|Ze (Xif rfl rfl rfl)<|Ze (Vd rfl X3d 3) ?_;refine Ze (X0 rfl X9 (i.at 3))<|Ze (Xif rfl rfl rfl)<|Ze (X0s (ps:=[(0,vi (wr (((rRoot x).a).tdiv 2))),(1,vi (wr (((rRoot x).b).tdiv 2))),(2,vi (wr (((rRoot x).c).tdiv 2))),(3,vi (wr (((rRoot x).d).tdiv 2)))]) (cs:=[vi (wr (((rRoot x).a).tdiv 2)),vi (wr (((rRoot x).b).tdiv 2)),vi (wr (((rRoot x).c).tdiv 2)),vi (wr (((rRoot x).d).tdiv 2))]) rfl (fun _=>by first|rfl|kernel_rfl))<|Zo (Vw [vi (wr (((rRoot x).a).tdiv 2)),vi (wr (((rRoot x).b).tdiv 2)),vi (wr (((rRoot x).c).tdiv 2)),vi (wr (((rRoot x).d).tdiv 2))] X43 e) ?_;rintro _ w6 ⟨ho,hb⟩;have a8:=e;have f:=Below.oy f ho a6;have e:=hb;refine Zt aI fun a hf=>?_
 refine Q6 (X6 hf (Xp hf rfl (ResV.cellN (l:=[vi (wr (((rRoot x).a).tdiv 2)),vi (wr (((rRoot x).b).tdiv 2)),vi (wr (((rRoot x).c).tdiv 2)),vi (wr (((rRoot x).d).tdiv 2))]) rfl X2e (e.at 0) rfl)) ?_)
 exact ⟨rfl,f⟩
theorem F59(w0:World)(b:Bool) : Ret Tryz.prog 166 [.bool b] w0 (fun v w=>v=vi (if b=true then 1 else 0)/\w0=w):=by
 refine enter Tryz.func166 rfl 4 rfl rfl ?_;intro a c
 have hW:=bz w0
 refine Zs c fun _ a8=>?_;refine Za rfl<|ZX a8 fun a c _ aA=>?_;refine Zs c fun _ aB=>?_;refine Zm rfl<|Zt aB fun a c=>?_
 refine Xi c rfl (fun a6=>?_) (fun a6=>?_)
 ·have a7:=a6;refine Zs c fun _ aC=>?_;refine Za rfl<|Zt aC fun a c=>?_;refine Q6<|X8<|X6 c (Xp c rfl rfl) ?_;exact ⟨by simp [*],rfl⟩
 have a7:=a6;refine Q7<|aA _ _<|Zs c fun _ aD=>?_;refine Za rfl<|Zt aD fun a c=>?_
 refine Q6 (X6 c (Xp c rfl rfl) ?_)
 exact ⟨by simp [*],rfl⟩
theorem Y3o(w0:World)(n:Int)(s:Int)(q:Int)(h0:0<=q)(h1:q<n)(h2:n<=5) : Ret Tryz.prog 153 [vi n,vi s,vi q] w0 (fun v w=>v=vi (bitF n s q)/\w0=w):=by
 refine enter Tryz.func153 rfl 15 rfl rfl ?_;intro a hf
 have hW:=bz w0
 refine Zs hf fun _ a6=>?_;refine Za rfl<|Zx a6 fun a hf _ a7=>?_;refine Zm rfl<|Zm rfl<|Ze (X1h rfl rfl (by omega) (by omega))<|Zm rfl<|Ze (X1h rfl rfl (by omega) (by omega))<|Ze (Y5e (m:=(n-1-q).toNat) Tryz.underlying3 Tryz.underlying147 rfl (by omega) (by omega))<|Ze (Y0u (m:=(n-1-q).toNat) rfl rfl rfl (by omega))<|Ze (Xyy rfl rfl)<|Za rfl<|Zt a7 fun a hf=>?_
 refine Q6 (X6 hf (Xp hf rfl rfl) ?_)
 exact ⟨rfl,rfl⟩
section
end
end Go.Proofs.YtpifljegadknkaaGreat
namespace Go.Proofs
open Go.Shelf
def Tryz.lays189_ren:Go.Shelf.Ren:=⟨fun|189=>195|125=>222|257=>224|128=>242|129=>243|294=>244|295=>245|296=>246|297=>247|298=>248|299=>249|216=>250|300=>251|301=>252|328=>259|329=>255|330=>256|331=>260|332=>261|215=>194|343=>263|n=>n,fun|28=>71|3=>3|46=>147|0=>0|51=>237|53=>101|4=>4|183=>231|182=>230|131=>76|5=>5|9=>9|218=>244|222=>248|228=>252|229=>253|n=>n,fun|n=>n⟩
theorem Tryz.lays189:Go.Proofs.Lays.n189 Tryz.prog Tryz.lays189_ren:={
  mixed:=by kernel_rfl
  f125:=Tryz.func222.trans (congrArg some (by kernel_rfl))
  f128:=Tryz.func242.trans (congrArg some (by kernel_rfl))
  f129:=Tryz.func243.trans (congrArg some (by kernel_rfl))
  f189:=Tryz.func195.trans (congrArg some (by kernel_rfl))
  f215:=Tryz.func194.trans (congrArg some (by kernel_rfl))
  f216:=Tryz.func250.trans (congrArg some (by kernel_rfl))
  f257:=Tryz.func224.trans (congrArg some (by kernel_rfl))
  f294:=Tryz.func244.trans (congrArg some (by kernel_rfl))
  f295:=Tryz.func245.trans (congrArg some (by kernel_rfl))
  f296:=Tryz.func246.trans (congrArg some (by kernel_rfl))
  f297:=Tryz.func247.trans (congrArg some (by kernel_rfl))
  f298:=Tryz.func248.trans (congrArg some (by kernel_rfl))
  f299:=Tryz.func249.trans (congrArg some (by kernel_rfl))
  f300:=Tryz.func251.trans (congrArg some (by kernel_rfl))
  f301:=Tryz.func252.trans (congrArg some (by kernel_rfl))
  f328:=Tryz.func259.trans (congrArg some (by kernel_rfl))
  f329:=Tryz.func255.trans (congrArg some (by kernel_rfl))
  f330:=Tryz.func256.trans (congrArg some (by kernel_rfl))
  f331:=Tryz.func260.trans (congrArg some (by kernel_rfl))
  f332:=Tryz.func261.trans (congrArg some (by kernel_rfl))
  f343:=Tryz.func263.trans (congrArg some (by kernel_rfl))
  t0:=Tryz.underlying0
  a0:=Tryz.isAgg0
  z0:=Tryz.sizeOf0
  v0:=Tryz.zeroValue0
  t3:=Tryz.underlying3
  a3:=Tryz.isAgg3
  z3:=Tryz.sizeOf3
  v3:=Tryz.zeroValue3
  t4:=Tryz.underlying4
  a4:=Tryz.isAgg4
  z4:=Tryz.sizeOf4
  v4:=Tryz.zeroValue4
  t5:=Tryz.underlying5
  a5:=Tryz.isAgg5
  z5:=Tryz.sizeOf5
  v5:=Tryz.zeroValue5
  t9:=Tryz.underlying9
  a9:=Tryz.isAgg9
  z9:=Tryz.sizeOf9
  v9:=Tryz.zeroValue9
  t28:=Tryz.underlying71
  a28:=Tryz.isAgg71
  z28:=Tryz.sizeOf71
  v28:=Tryz.zeroValue71
  t46:=Tryz.underlying147
  a46:=Tryz.isAgg147
  z46:=Tryz.sizeOf147
  v46:=Tryz.zeroValue147
  t51:=Tryz.underlying237
  a51:=Tryz.isAgg237
  z51:=Tryz.sizeOf237
  v51:=Tryz.zeroValue237
  t53:=Tryz.underlying101
  a53:=Tryz.isAgg101
  z53:=Tryz.sizeOf101
  v53:=Tryz.zeroValue101
  t131:=Tryz.underlying76
  a131:=Tryz.isAgg76
  z131:=Tryz.sizeOf76
  v131:=Tryz.zeroValue76
  t182:=Tryz.underlying230
  a182:=Tryz.isAgg230
  z182:=Tryz.sizeOf230
  v182:=Tryz.zeroValue230
  t183:=Tryz.underlying231
  a183:=Tryz.isAgg231
  z183:=Tryz.sizeOf231
  v183:=Tryz.zeroValue231
  t218:=Tryz.underlying244
  a218:=Tryz.isAgg244
  z218:=Tryz.sizeOf244
  v218:=Tryz.zeroValue244
  t222:=Tryz.underlying248
  a222:=Tryz.isAgg248
  z222:=Tryz.sizeOf248
  v222:=Tryz.zeroValue248
  t228:=Tryz.underlying252
  a228:=Tryz.isAgg252
  z228:=Tryz.sizeOf252
  v228:=Tryz.zeroValue252
  t229:=Tryz.underlying253
  a229:=Tryz.isAgg253
  z229:=Tryz.sizeOf253
  v229:=Tryz.zeroValue253 }
open Go.Sort Go.RowKit in
theorem Tryz.slices_Sort_int(blk off cap:Nat)(zs:List Int)(w:World)(hH:Holds (Value.int .i64) w blk off zs.toArray)(hblk:blk<w.heap.size)(hsz:zs.length<4611686018427387904) :
    Calls Tryz.prog 195 #[.slice (some ⟨blk,off,none⟩) zs.length cap] w fun e w'=>
      e=.returned (.tuple #[])/\∃ n os,w'=grow (putRow (Value.int .i64) (Sort.ahead w n) blk off (zs.mergeSort fun x y=>decide (x<=y)).toArray) os:=Any.slices_Sort_int Tryz.lays189 blk off cap zs w hH hblk hsz
def Tryz.laysNm215_ren:Go.Shelf.Ren:=⟨fun|15=>229|n=>n,fun|22=>71|3=>3|4=>4|n=>n,fun|n=>n⟩
theorem Tryz.laysNm215:Go.Proofs.Lays2.n15 Tryz.prog Tryz.laysNm215_ren:={
  mixed:=by kernel_rfl
  f15:=Tryz.func229.trans (congrArg some (by kernel_rfl))
  t3:=Tryz.underlying3
  a3:=Tryz.isAgg3
  z3:=Tryz.sizeOf3
  v3:=Tryz.zeroValue3
  t4:=Tryz.underlying4
  a4:=Tryz.isAgg4
  z4:=Tryz.sizeOf4
  v4:=Tryz.zeroValue4
  t22:=Tryz.underlying71
  a22:=Tryz.isAgg71
  z22:=Tryz.sizeOf71
  v22:=Tryz.zeroValue71
  i3:=by kernel_rfl }
open Go.RowKit Go.Lib in
theorem Tryz.slices_Clone_int(b off n c:Nat)(zs:List Int)(w:World)(hz:n<=zs.length)(hbig:n*8<=140737488355328)(hc:∀ j,j<zs.length->w.cell? ⟨b,off+j,none⟩=some (.int .i64 (zs.getD j 0))) :
    Calls Tryz.prog 229 #[.slice (some ⟨b,off,none⟩) n c] w fun e w'=>∃ v',e=.returned v'/\w'.ownsRow w.heap.size 3 1 v' n ((zs.take n).map (Value.int .i64))/\v'≠.slice none 0 0/\Below w.heap.size w w':=Any.slices_Clone_int Tryz.laysNm215 b off n c zs w hz hbig hc
open Go.RowKit Go.Lib in
theorem Tryz.slices_Clone_int_nil(n c:Nat)(w:World) :
    Calls Tryz.prog 229 #[.slice none n c] w fun e w'=>e=.returned (.slice none 0 0)/\w'=w:=Any.slices_Clone_int_nil Tryz.laysNm215 n c w
open Go.RowKit Go.Lib in
theorem Tryz.slices_Clone_int_zero(a:Addr)(c:Nat)(w:World) :
    Calls Tryz.prog 229 #[.slice (some a) 0 c] w fun e w'=>∃ v',e=.returned v'/\w'.ownsRow w.heap.size 3 1 v' 0 []/\v'≠.slice none 0 0/\Below w.heap.size w w':=Any.slices_Clone_int_zero Tryz.laysNm215 a c w
def Tryz.laysNm220_ren:Go.Shelf.Ren:=⟨fun|20=>207|n=>n,fun|22=>71|3=>3|4=>4|0=>0|n=>n,fun|n=>n⟩
theorem Tryz.laysNm220:Go.Proofs.Lays2.n20 Tryz.prog Tryz.laysNm220_ren:={
  mixed:=by kernel_rfl
  f20:=Tryz.func207.trans (congrArg some (by kernel_rfl))
  t0:=Tryz.underlying0
  a0:=Tryz.isAgg0
  z0:=Tryz.sizeOf0
  v0:=Tryz.zeroValue0
  t3:=Tryz.underlying3
  a3:=Tryz.isAgg3
  z3:=Tryz.sizeOf3
  v3:=Tryz.zeroValue3
  t4:=Tryz.underlying4
  a4:=Tryz.isAgg4
  z4:=Tryz.sizeOf4
  v4:=Tryz.zeroValue4
  t22:=Tryz.underlying71
  a22:=Tryz.isAgg71
  z22:=Tryz.sizeOf71
  v22:=Tryz.zeroValue71
  i3:=by kernel_rfl }
open Go.RowKit Go.Lib Go.Sort in
theorem Tryz.slices_Compact_int(blk off cap:Nat)(zs:List Int)(w:World)(hH:Holds (Value.int .i64) w blk off zs.toArray)(hsz:zs.length<=9223372036854775807)(hcap:zs.length<=cap) :
    Calls Tryz.prog 207 #[.slice (some ⟨blk,off,none⟩) zs.length cap] w fun e w'=>e=.returned (.slice (some ⟨blk,off,none⟩) (Lib.compact zs).length cap)/\∃ q,w'=putRow (Value.int .i64) (Sort.ahead w q) blk off (Lib.compact zs++List.replicate (zs.length-(Lib.compact zs).length) 0).toArray:=Any.slices_Compact_int Tryz.laysNm220 blk off cap zs w hH hsz hcap
open Go.RowKit Go.Lib Go.Sort in
theorem Tryz.slices_Compact_int_empty(a:Option Addr)(cap:Nat)(w:World) :
    Calls Tryz.prog 207 #[.slice a 0 cap] w fun e w'=>e=.returned (.slice a 0 cap)/\w'=w:=Any.slices_Compact_int_empty Tryz.laysNm220 a cap w
end Go.Proofs
namespace Go.Proofs.YtpifljegadknkaaGreat
open Go.RowKit
section
variable {α : Type}
theorem X58{enc:α->List Value}{sz:Nat}(hsz:∀ x,(enc x).length=sz){l:List α}{j:Nat}(hj:j<l.length*sz) : ∃ x,l[j/sz]? = some x/\(l.flatMap enc)[j]? = (enc x)[j % sz]?:=by
 have h0:0<sz:=by
  rcases Nat.eq_zero_or_pos sz with h|h
  ·subst h;simp at hj
  ·exact h
 have hk:j/sz<l.length:=Nat.div_lt_of_lt_mul (by rw [Wi];exact hj)
 refine ⟨l[j/sz],Qc hk,?_⟩
 have hm:j % sz<(enc l[j/sz]).length:=by rw [hsz];exact Nat.mod_lt _ h0
 have h1:=X6d hsz l (j/sz) _ (Qc hk) (j % sz) _ (Qc hm)
 rw [show j/sz*sz+j % sz=j from by rw [Wi];exact Nat.div_add_mod j sz] at h1
 rw [h1,Qc hm]
theorem X9n{enc:α->List Value}{sz:Nat}(hsz:∀ x,(enc x).length=sz){z:Value}{z0:α}(hz:z.cells.toList=enc z0)(n:Nat) : madeCells z.cells (n*sz)=((List.replicate n z0).flatMap enc).toArray:=by
 have hs:z.cells.size=sz:=by rw [<- hsz z0,<- hz];simp
 apply Array.ext'
 apply List.ext_getElem?
 intro j
 by_cases hj:j<n*sz
 ·obtain ⟨x,hx,h1⟩:=X58 hsz (l:=List.replicate n z0) (j:=j) (by simpa using hj)
  obtain rfl:x=z0:=(List.eq_of_mem_replicate (Qe hx))
  have h0:0<sz:=by
   rcases Nat.eq_zero_or_pos sz with h|h
   ·subst h;simp at hj
   ·exact h
  have hm:j % sz<z.cells.size:=by rw [hs];exact Nat.mod_lt _ h0
  rw [List.toList_toArray,h1,<- hz]
  simp only [madeCells,Array.getElem?_toList,Array.getElem?_map,Array.getElem?_range,hj,if_true,Option.map_some,hs]
  rw [getElem!_pos z.cells (j % sz) hm,Array.getElem?_eq_getElem hm]
 ·rw [List.getElem?_eq_none (by simp [madeCells];omega),List.toList_toArray,List.getElem?_eq_none (by rw [Xu hsz];simp;omega)]
theorem X5f{enc:α->List Value}{sz:Nat}(hsz:∀ x,(enc x).length=sz) : ∀ (l:List α) (k:Nat) (x:α),k<l.length->splice (l.flatMap enc) (k*sz) (enc x)=(l.set k x).flatMap enc
 | [],k,x,h=>by simp at h
 | y::l,0,x,h=>by
  simp only [splice,Nat.zero_mul,List.take_zero,List.nil_append,Nat.zero_add,Wc,List.set_cons_zero]
  rw [hsz,<- hsz y,List.drop_left]
 | y::l,k+1,x,h=>by
  have ih:=X5f hsz l k x (by simpa using h)
  unfold splice at ih ⊢
  have h1:(k+1)*sz=(enc y).length+k*sz:=by rw [hsz,Wb];omega
  rw [h1]
  simp only [Wc,List.set_cons_succ]
  rw [List.take_length_add_append,show (enc y).length+k*sz+(enc x).length=(enc y).length+(k*sz+(enc x).length) from by omega,List.drop_length_add_append,Qx,Qx]
  rw [<- ih,Qx]
end
section
variable {α : Type} {P : Program} {a : Act} {w : World} {n : Nat} {e : Env} {ty : TypeId} {pos : String} {af : Array Edge} {g : Option (Nat × Bool)} {d : Option Tmp}
theorem Xb4{T E sz bytes m:Nat}{x y:Operand}{enc:α->List Value}{z:Value}{z0:α}(hf:Fr a n e)(hx:ev e x=some (.int .i64 (m:Int)))(hy:ev e y=some (.int .i64 (m:Int)))(hT:SliceT P T E)(hi:InfoT P E sz bytes)(hz:ZeroT P E z)(hz0:z.cells.toList=enc z0)(hsz:∀ x,(enc x).length=sz)(hb:bytes*m<=281474976710656)(hm:m<=4611686018427387904) :
  Ef P ⟨d,.makeSlice T x y,ty,pos,af,g⟩ a w (fun v w'=>∃ b,v=.slice (some ⟨b,0,none⟩) m m/\w.heap.size<=b/\Below w.heap.size w w'/\Blk w' b E ((List.replicate m z0).flatMap enc)):=by
 obtain ⟨i,z1,hi1,hi2,hi3,hi4,hi5,hi6⟩:=hi;obtain ⟨i',hi1',hz1⟩:=hz
 rw [hi1] at hi1'
 injection hi1' with hi1'
 subst hi1'
 rw [hi2] at hz1
 injection hz1 with hz1
 subst hz1
 have hb':(i.bytes:Int)*(m:Int)<=281474976710656:=by
  have h:((i.bytes*m:Nat) : Int)<=281474976710656:=by rw [hi4];omega
  rwa [Int.natCast_mul] at h
 have hr:=run_make (P:=P) w T E i z1 hT hi1 hi2 .i64 .i64 m m (by omega) (Int.le_refl _) hb' (by omega)
 refine (Ef.of_run (v:=.slice (some ⟨w.heap.size,0,none⟩) m m) (w':=w.alloc (.cells ((List.replicate m z0).flatMap enc).toArray E)) ?_).mono fun v w' ⟨e1,e2⟩=>?_
 ·rw [hi3,Qj,X9n hsz hz0] at hr
  simp [execOp,hf.ev hx,hf.ev hy,hr]
 ·subst e1;subst e2
  exact ⟨_,rfl,Qb _,(Below.refl _ _).alloc (Qb _) _,X4e w E _⟩
theorem X8p{T E sz bytes m:Nat}{x y:Operand}{enc:α->List Value}{z:Value}{z0:α}(hx:ev e x=some (.int .i64 (m:Int)))(hy:ev e y=some (.int .i64 (m:Int)))(hT:SliceT P T E)(hi:InfoT P E sz bytes)(hz:ZeroT P E z)(hz0:z.cells.toList=enc z0)(hsz:∀ x,(enc x).length=sz)(hb:bytes*m<=281474976710656)(hm:m<=4611686018427387904) : EfW P ⟨d,.makeSlice T x y,ty,pos,af,g⟩ n e w (fun v w'=>∃ b,v=.slice (some ⟨b,0,none⟩) m m/\w.heap.size<=b/\Below w.heap.size w w'/\Blk w' b E ((List.replicate m z0).flatMap enc)):=fun a hf=>Xb4 hf hx hy hT hi hz hz0 hsz hb hm
theorem Xab{T E sz b m c k off:Nat}{x y:Operand}{i:Int}(hf:Fr a n e)(hx:ev e x=some (.slice (some ⟨b,0,none⟩) m c))(hy:ev e y=some (.int .i64 i))(hT:SliceT P T E)(hs:SizeT P E sz)(hi:i=(k:Int))(hk:k<m)(ho:k*sz=off) :
  Ev P ⟨d,.indexAddr T x y,ty,pos,af,g⟩ a w (.pointer (some ⟨b,off,none⟩)):=by
 have h:=X7i (P:=P) (w:=w) (d:=d) (ty:=ty) (pos:=pos) (af:=af) (g:=g) hf hx hy hT hs hi hk
 rwa [X1s,Nat.zero_add,ho] at h
theorem Xbm{T E sz b m c k off:Nat}{x y:Operand}{i:Int}(hx:ev e x=some (.slice (some ⟨b,0,none⟩) m c))(hy:ev e y=some (.int .i64 i))(hT:SliceT P T E)(hs:SizeT P E sz)(hi:i=(k:Int))(hk:k<m)(ho:k*sz=off) : EvW P ⟨d,.indexAddr T x y,ty,pos,af,g⟩ n e w (.pointer (some ⟨b,off,none⟩)):=fun a hf=>Xab hf hx hy hT hs hi hk ho
theorem Xi6{t T b k sz:Nat}{x y:Operand}{v:Value}{enc:α->List Value}{l:List α}{u:α}(hf:Fr a n e)(hx:ev e x=some (.pointer (some ⟨b,k*sz,none⟩)))(hy:ev e y=some v)(hs:SizeT P t sz)(hb:Blk w b T (l.flatMap enc))(hsz:∀ x,(enc x).length=sz)(hone:∀ x,(enc x).all one=true)(hv:v.cells.toList=enc u)(hk:k<l.length) :
  Ef P ⟨d,.store t x y,ty,pos,af,g⟩ a w (Stored w b T ((l.set k u).flatMap enc)):=by
 have hl:k*sz+sz<=(l.flatMap enc).length:=by
  rw [Xu hsz]
  have:=Nat.mul_le_mul_right sz (show k+1<=l.length by omega)
  rwa [Wb,Nat.one_mul] at this
 exact X9g (vs:=enc u) hf hx hy hs hb hv (by rw [hsz];simp) (hone u) (by rw [Nat.ble_eq];exact hl) (X5f hsz l k u hk)
theorem Xbv{t T b k sz:Nat}{x y:Operand}{v:Value}{enc:α->List Value}{l:List α}{u:α}(hx:ev e x=some (.pointer (some ⟨b,k*sz,none⟩)))(hy:ev e y=some v)(hs:SizeT P t sz)(hb:Blk w b T (l.flatMap enc))(hsz:∀ x,(enc x).length=sz)(hone:∀ x,(enc x).all one=true)(hv:v.cells.toList=enc u)(hk:k<l.length) : EfW P ⟨d,.store t x y,ty,pos,af,g⟩ n e w (Stored w b T ((l.set k u).flatMap enc)):=fun a hf=>Xi6 hf hx hy hs hb hsz hone hv hk
theorem Xeh{T E sz m c k:Nat}{x y:Operand}{A:Option Addr}{i:Int}(hf:Fr a n e)(hx:ev e x=some (.slice A m c))(hy:ev e y=some (.int .i64 i))(hT:SliceT P T E)(hs:SizeT P E sz)(hi:i=(k:Int))(hk:k<=c) :
  Ev P ⟨d,.slice T x none (some y) none,ty,pos,af,g⟩ a w (.slice A k c):=fun w' _=>by
 subst hi
 have h0:∀ p:Addr,p.add 0=p:=fun p=>by simp [Addr.add]
 simp [execOp,Instr.sliceAt,Instr.slice,Instr.sliceBounds,run_sliceBound,X0g hT,run_sizeOf' hs,hf.ev hx,hf.ev hy,hk,h0]
theorem Xas{T E sz m c k:Nat}{x y:Operand}{A:Option Addr}{i:Int}(hf:Fr a n e)(hx:ev e x=some (.slice A m c))(hy:ev e y=some (.int .i64 i))(hT:SliceT P T E)(hs:SizeT P E sz)(hi:i=(k:Int))(hk:k<=m) :
  Ev P ⟨d,.slice T x (some y) none none,ty,pos,af,g⟩ a w (.slice (if c=k then A else A.map (·.add (k*sz))) (m-k) (c-k)):=fun w' _=>by
 subst hi
 simp [execOp,Instr.sliceAt,Instr.slice,Instr.sliceBounds,run_sliceBound,X0g hT,run_sizeOf' hs,hf.ev hx,hf.ev hy,hk]
end
section
variable {α : Type} {w : World} {B B0 : Nat} {E : TypeId} {sz : Nat} {enc : α -> List Value} {A : Option Addr} {c : Nat} {l : List α}
theorem Xbf(hsz:∀ x,(enc x).length=sz)(k:Nat) : (l.take k).flatMap enc=(l.flatMap enc).take (k*sz):=by
 conv=>rhs;rw [<- W9 k l]
 rw [List.flatMap_append]
 by_cases hk:k<=l.length
 ·have:((l.take k).flatMap enc).length=k*sz:=by rw [Xu hsz,Qn,Nat.min_eq_left hk]
  rw [<- this,List.take_left]
 ·rw [Qi (by omega),W3 (by omega)]
  simp only [List.flatMap_nil,List.append_nil]
  rw [Qi (by rw [Xu hsz];exact Nat.mul_le_mul_right _ (by omega))]
theorem Xb1(hsz:∀ x,(enc x).length=sz)(k:Nat) : (l.drop k).flatMap enc=(l.flatMap enc).drop (k*sz):=by
 conv=>rhs;rw [<- W9 k l]
 rw [List.flatMap_append]
 by_cases hk:k<=l.length
 ·have:((l.take k).flatMap enc).length=k*sz:=by rw [Xu hsz,Qn,Nat.min_eq_left hk]
  rw [<- this,List.drop_left]
 ·have h1:l.drop k=[]:=W3 (by omega)
  rw [h1,List.flatMap_nil,List.append_nil,W3 (by rw [Xu hsz,Qn];exact Nat.mul_le_mul_right _ (by omega))]
theorem Rd.takeK(hsz:∀ x,(enc x).length=sz)(h:Rd w B E enc A l)(k:Nat) : Rd w B E enc A (l.take k):=fun hl=>by
 have hl':l≠[]:=by rintro rfl;simp at hl
 obtain ⟨b,off,cs,fz,h1,h2,h3,h4⟩:=h hl'
 refine ⟨b,off,cs,fz,h1,h2,h3,fun j v hj=>h4 j v ?_⟩
 rw [Xbf hsz,List.getElem?_take] at hj
 split at hj
 ·exact hj
 ·cases hj
theorem Rd.dropK(hsz:∀ x,(enc x).length=sz)(h:Rd w B E enc A l)(hc:l.length<=c)(k:Nat) : Rd w B E enc (if c=k then A else A.map (·.add (k*sz))) (l.drop k):=fun hl=>by
 have hk:k<l.length:=by
  rcases W4 k l.length with h'|h'
  ·exact h'
  ·exact absurd (W3 h') hl
 have hl':l≠[]:=by rintro rfl;simp at hk
 obtain ⟨b,off,cs,fz,h1,h2,h3,h4⟩:=h hl'
 rw [Q3 (by omega),h1]
 refine ⟨b,off+k*sz,cs,fz,by rw [Option.map_some,X1s],h2,h3,fun j v hj=>?_⟩
 rw [Xb1 hsz,List.getElem?_drop] at hj
 rw [Nat.add_assoc]
 exact h4 _ v hj
theorem Xn2{P:Program}{a:Act}{n:Nat}{e:Env}{ty:TypeId}{pos:String}{af:Array Edge}{g:Option (Nat×Bool)}{d:Option Tmp}{T k:Nat}{x y:Operand}{i:Int}(hf:Fr a n e)(hx:ev e x=some (.slice A l.length c))(hy:ev e y=some (.int .i64 i))(hT:SliceT P T E)(hs:SizeT P E sz)(hi:i=(k:Int))(hk:k<=l.length)(hc:l.length<=c) :
  Ev P ⟨d,.slice T x none (some y) none,ty,pos,af,g⟩ a w (.slice A (l.take k).length c):=by
 rw [Qn,Nat.min_eq_left hk]
 exact Xeh hf hx hy hT hs hi (by omega)
theorem X2r{P:Program}{n:Nat}{e:Env}{ty:TypeId}{pos:String}{af:Array Edge}{g:Option (Nat×Bool)}{d:Option Tmp}{T k:Nat}{x y:Operand}{i:Int}(hx:ev e x=some (.slice A l.length c))(hy:ev e y=some (.int .i64 i))(hT:SliceT P T E)(hs:SizeT P E sz)(hi:i=(k:Int))(hk:k<=l.length)(hc:l.length<=c) : EvW P ⟨d,.slice T x none (some y) none,ty,pos,af,g⟩ n e w (.slice A (l.take k).length c):=fun a hf=>Xn2 hf hx hy hT hs hi hk hc
theorem Xl4{P:Program}{a:Act}{n:Nat}{e:Env}{ty:TypeId}{pos:String}{af:Array Edge}{g:Option (Nat×Bool)}{d:Option Tmp}{T k:Nat}{x y:Operand}{i:Int}(hf:Fr a n e)(hx:ev e x=some (.slice A l.length c))(hy:ev e y=some (.int .i64 i))(hT:SliceT P T E)(hs:SizeT P E sz)(hi:i=(k:Int))(hk:k<=l.length) :
  Ev P ⟨d,.slice T x (some y) none none,ty,pos,af,g⟩ a w (.slice (if c=k then A else A.map (·.add (k*sz))) (l.drop k).length (c-k)):=by
 rw [List.length_drop]
 exact Xas hf hx hy hT hs hi hk
theorem X6f{P:Program}{n:Nat}{e:Env}{ty:TypeId}{pos:String}{af:Array Edge}{g:Option (Nat×Bool)}{d:Option Tmp}{T k:Nat}{x y:Operand}{i:Int}(hx:ev e x=some (.slice A l.length c))(hy:ev e y=some (.int .i64 i))(hT:SliceT P T E)(hs:SizeT P E sz)(hi:i=(k:Int))(hk:k<=l.length) : EvW P ⟨d,.slice T x (some y) none none,ty,pos,af,g⟩ n e w (.slice (if c=k then A else A.map (·.add (k*sz))) (l.drop k).length (c-k)):=fun a hf=>Xl4 hf hx hy hT hs hi hk
theorem Own.cap(h:Own w B0 E sz enc A c l) : l.length<=c:=by
 rcases h.2 with ⟨h1,h2⟩|⟨g,cap,cur,h1,h2,h3,h4,h5,h6⟩
 ·omega
 ·injection h1 with _ _ h1
  omega
theorem Own.of_flat(hsz:∀ x,(enc x).length=sz){b m:Nat}(h:Blk w b E (l.flatMap enc))(hb:B0<=b)(hl:l.length=m)(hk:m<=maxLen) : Own w B0 E sz enc (some ⟨b,0,none⟩) m l:=Own.of_blkL hsz h hb rfl hl hk
end
theorem Kept.app{α:Type}{b B B0:Nat}{w0 w w':World}{E:TypeId}{sz:Nat}{enc:α->List Value}{A:Option Addr}{c:Nat}{l:List α}(h:Kept b B w0 w)(ho:Own w B0 E sz enc A c l)(hg:w.grownBy w' (Value.slice A l.length c).ownBlock)(hB:B<=B0)(hs:B<=w.heap.size) : Kept b B w0 w':=
 ⟨hg.os.trans h.os,hg.tape.trans h.tape,hg.output.trans h.output,Q0 h.size hg.size,fun k hk hne=>(hg.block k (by omega) fun hk'=>by have:=(ho.block hk'.symm).1;omega).trans (h.block k hk hne)⟩
end Go.Proofs.YtpifljegadknkaaGreat
namespace Go.Proofs.YtpifljegadknkaaGreat
open Go.RowKit Go.Sort
theorem X66{w:World}{g n:Nat}{os:Array Obj}{cur:Array Value}{e:TypeId}{fr:Nat×Nat}(d:Array Int)(hb:w.heap[g]? = some (.cells cur e fr)) :
  (grow (putRow (Value.int .i64) (Sort.ahead w n) g 0 d) os).heap[g]? = some (.cells (putCells (Value.int .i64) 0 d cur) e fr):=by
 have hg:g<w.heap.size:=(Qp.1 hb).1
 rw [heap_grow_old _ _ (by simpa using hg)]
 simp [putRow,mapBlock,Sort.ahead,Array.getElem?_modify,hb,onCells]
theorem X5g{w:World}{g n:Nat}{os:Array Obj}(d:Array Int) : w.grownBy (grow (putRow (Value.int .i64) (Sort.ahead w n) g 0 d) os) (some g):=by
 refine ⟨rfl,rfl,rfl,by simp,fun k hk hne=>?_⟩
 rw [heap_grow_old _ _ (by simpa using hk)]
 have:g≠k:=fun e=>hne (by rw [e])
 simp [putRow,mapBlock,Sort.ahead,Array.getElem?_modify,this]
theorem X5r(l:List Int) : l.flatMap encI=l.map (Value.int .i64):=by
 induction l with
 | nil=>rfl
 | cons x l ih=>simp only [Wc,List.map_cons,ih];rfl
theorem Xci(cur:Array Value)(d ts:List Int)(h:d.length<=cur.size)(ht:d.take ts.length=ts) : (putCells (Value.int .i64) 0 d.toArray cur).toList.take (ts.length*1)=ts.flatMap encI:=by
 have hl:ts.length<=d.length:=by
  have:=congrArg List.length ht
  rw [Qn] at this
  omega
 rw [X5r,Nat.mul_one]
 apply List.ext_getElem?
 intro j
 by_cases hj:j<ts.length
 ·rw [Wg hj,Array.getElem?_toList]
  have h1:ts[j]? = d[j]?:=by
   conv=>lhs;rw [<- ht]
   rw [Wg hj]
  have h2:j<d.length:=by omega
  rw [List.getElem?_map,h1]
  simp [putCells,h2,show j<cur.size by omega]
 ·rw [List.getElem?_take_eq_none (by omega),List.getElem?_eq_none (by simp;omega)]
theorem X9w{w:World}{g:Nat}{cur:Array Value}{e:TypeId}{l:List Int}(hb:w.heap[g]? = some (.cells cur e (0,0)))(ht:cur.toList.take (l.length*1)=l.flatMap encI) : Holds (Value.int .i64) w g 0 l.toArray:=by
 intro j hj
 have hj':j<l.length:=by simpa using hj
 refine ⟨?_,by simp [World.frozen?,hb]⟩
 rw [X5r,Nat.mul_one] at ht
 have h1:(cur.toList.take l.length)[j]? = (l.map (Value.int .i64))[j]?:=by rw [ht]
 rw [Wg hj'] at h1
 simp only [World.cell?,hb,Nat.zero_add]
 simp only [Option.isSome_none,Bool.false_eq_true,if_false]
 rw [<- Array.getElem?_toList,h1]
 simp [hj']
def sortI(l:List Int) : List Int:=l.mergeSort fun x y=>decide (x<=y)
theorem F94(w0:World)(B0:Nat)(A:Option Addr)(c:Nat)(l:List Int)(ho:Own w0 B0 3 1 encI A c l)(hl:l.length<=1000000000) :
  Ret Tryz.prog 195 [.slice A l.length c] w0 (fun _ w=>Own w B0 3 1 encI A c (sortI l)/\w0.grownBy w (Value.slice A l.length c).ownBlock):=by
 by_cases h0:l=[]
 ·subst h0
  refine Calls.mono (Any.slices_Sort_int_none Tryz.lays189 A c w0) fun e w ⟨e1,e2⟩=>⟨_,e1,?_⟩
  subst e2
  exact ⟨by simpa [sortI] using ho,World.grownBy.refl w _⟩
 ·rcases ho.2 with ⟨h1,h2⟩|⟨g,cap,cur,h1,h2,h3,h4,h5,h6,h7⟩
  ·exact absurd (List.eq_nil_of_length_eq_zero h2) h0
  ·injection h1 with h1 _ h1''
   subst h1;subst h1''
   have hs:(sortI l).length=l.length:=by simp [sortI]
   refine Calls.mono (Tryz.slices_Sort_int g 0 c l w0 (X9w h3 h7) (Qp.1 h3).1 (by omega)) fun e w ⟨e1,n,os,e2⟩=>⟨_,e1,?_⟩
   subst e2
   refine ⟨⟨Xu Xd _,.inr ⟨g,c,_,by rw [hs],h2,X66 _ h3,by omega,h5,by simp [putCells,h6],?_⟩⟩,?_⟩
   ·exact Xci cur (sortI l) (sortI l) (by omega) List.take_length
   ·exact X5g _
theorem Xdl(l:List Int) : (Lib.compact l).length<=l.length:=by
 unfold Lib.compact Lib.compactUpTo
 rw [Qo]
 exact Q0 (List.length_filter_le _ _) (by simp)
theorem F95(w0:World)(B0:Nat)(A:Option Addr)(c:Nat)(l:List Int)(ho:Own w0 B0 3 1 encI A c l)(hl:l.length<=1000000000) :
  Ret Tryz.prog 207 [.slice A l.length c] w0 (fun v w=>v=.slice A (Lib.compact l).length c/\Own w B0 3 1 encI A c (Lib.compact l)/\w0.grownBy w (Value.slice A l.length c).ownBlock):=by
 by_cases h0:l=[]
 ·subst h0
  refine Calls.mono (Tryz.slices_Compact_int_empty A c w0) fun e w ⟨e1,e2⟩=>⟨_,e1,?_⟩
  subst e2
  exact ⟨rfl,ho,World.grownBy.refl w _⟩
 ·rcases ho.2 with ⟨h1,h2⟩|⟨g,cap,cur,h1,h2,h3,h4,h5,h6,h7⟩
  ·exact absurd (List.eq_nil_of_length_eq_zero h2) h0
  ·injection h1 with h1 _ h1''
   subst h1;subst h1''
   have hc:=Xdl l
   refine Calls.mono (Tryz.slices_Compact_int g 0 c l w0 (X9w h3 h7) (by omega) h4) fun e w ⟨e1,q,e2⟩=>⟨_,e1,rfl,?_⟩
   have e3:w=grow (putRow (Value.int .i64) (Sort.ahead w0 q) g 0 (Lib.compact l++List.replicate (l.length-(Lib.compact l).length) 0).toArray) #[]:=by rw [grow_empty];exact e2
   subst e3
   refine ⟨⟨Xu Xd _,.inr ⟨g,c,_,rfl,h2,X66 _ h3,by omega,h5,by simp [putCells,h6],?_⟩⟩,?_⟩
   ·exact Xci cur _ (Lib.compact l) (by simp;omega) List.take_left
   ·exact X5g _
theorem Y4b(w0:World)(B0:Nat)(A:Option Addr)(c:Nat)(l:List Int)(m:Nat)(hm:m=l.length)(ho:Own w0 B0 3 1 encI A c l)(hl:l.length<=1000000000) :
  Ret Tryz.prog 207 [.slice A m c] w0 (fun v w=>v=.slice A (Lib.compact l).length c/\Own w B0 3 1 encI A c (Lib.compact l)/\w0.grownBy w (Value.slice A l.length c).ownBlock):=by
 subst hm
 exact F95 w0 B0 A c l ho hl
def growRen:Go.Shelf.Ren:=⟨fun|4=>231|n=>n,fun|22=>71|25=>3|n=>n,fun|n=>n⟩
theorem Xfq:Lays8.n4 Tryz.prog growRen:={
 mixed:=by kernel_rfl
 f4:=⟨Tryz.f231.name,by decide,Tryz.func231.trans (congrArg some (by kernel_rfl))⟩
 t0:=Tryz.underlying0
 a0:=Tryz.isAgg0
 z0:=Tryz.sizeOf0
 v0:=Tryz.zeroValue0
 t3:=Tryz.underlying3
 a3:=Tryz.isAgg3
 z3:=Tryz.sizeOf3
 v3:=Tryz.zeroValue3
 t4:=Tryz.underlying4
 a4:=Tryz.isAgg4
 z4:=Tryz.sizeOf4
 v4:=Tryz.zeroValue4
 t9:=Tryz.underlying9
 a9:=Tryz.isAgg9
 z9:=Tryz.sizeOf9
 v9:=Tryz.zeroValue9
 t20:=Tryz.underlying20
 a20:=Tryz.isAgg20
 z20:=Tryz.sizeOf20
 v20:=Tryz.zeroValue20
 t22:=Tryz.underlying71
 a22:=Tryz.isAgg71
 z22:=Tryz.sizeOf71
 v22:=Tryz.zeroValue71 }
theorem Y5i(w0:World)(n:Nat)(hn:n<=1000000000) : Ret Tryz.prog 231 [.slice none 0 0,.int .i64 (n:Int)] w0 (fun v w=>∃ A c,v=.slice A 0 c/\Own w w0.heap.size 3 1 encI A c ([] : List Int)/\Below w0.heap.size w0 w):=by
 by_cases h0:n=0
 ·subst h0
  refine Calls.mono (Any8.slices_Grow_room Xfq none 0 0 0 w0 (by omega) (by omega) (by omega) (by omega)) fun e w ⟨e1,e2⟩=>⟨_,e1,none,0,rfl,?_⟩
  subst e2
  exact ⟨Own.nil _ _ _ _ _,Below.refl _ _⟩
 ·obtain ⟨i,z,hi1,hi2,hi3,hi4,hi5,hi6⟩:=X1g
  refine Calls.mono (Any8.slices_Grow_grow Xfq i z hi1 hi2 (by omega) none 0 0 n [] w0 (by omega) (by omega) (by rw [hi4];omega) (by omega) (by simp) (fun _=>rfl) (fun a h=>by cases h)) fun e w ⟨e1,e2⟩=>⟨_,e1,_,_,rfl,?_⟩
  subst e2
  have hge:=grownCap_ge w0 (0+n) 0 (growRen.t 25)
  refine ⟨⟨rfl,.inr ⟨w0.heap.size,_,_,rfl,Qb _,heap_alloc_new w0.drew _,Qf _,grownCap_le_maxLen w0 _ _ _ (by simp only [maxLen];omega),?_,by simp⟩⟩,((Below.refl _ _).drew).alloc (Qb _) _⟩
  simp only [Array.size_append,List.size_toArray,size_zeroCells,hi5,List.length_nil,Nat.zero_add,Nat.mul_one] at hge ⊢
  omega
end Go.Proofs.YtpifljegadknkaaGreat
namespace Go.Proofs.YtpifljegadknkaaGreat
open Go.RowKit
structure Sl where (A:Option Addr) (c:Nat) (l:List Int)
def encS(s:Sl) : List Value:=[.slice s.A s.l.length s.c]
theorem Xd8:∀ x,(encS x).length=1:=fun _=>rfl
structure Rp where (pos:Int) (old new:List Gt)
theorem Xak{α β:Type}{f:α->List β}{l:List α}{k:Nat}{u:α}(h:l[k]? = some u) : (l.take (k+1)).flatMap f=(l.take k).flatMap f++f u:=by
 rw [Qt,h]
 simp
theorem Xc9{α β:Type}(f:α->List β)(l:List α)(k:Nat) : ((l.take k).flatMap f).length<=(l.flatMap f).length:=by
 conv=>rhs;rw [<- W9 k l]
 rw [List.flatMap_append,Qh]
 omega
theorem Xht{α β:Type}(f:α->List β){l:List α}{k:Nat}(h:l.length<=k) : (l.take k).flatMap f=l.flatMap f:=by rw [Qi h]
def unionI(p q:List Int) : List Int:=Lib.compact (sortI (p++(q++[])))
theorem Xce{l:List Int}{k:Nat}(h:k<l.length) : l[k]? = some (l.getD k 0):=by
 rw [Qa,Qc h];rfl
def oA(A:Option Addr)(m:Nat) : Addr:=match A with
 | some p=>⟨p.block,m,none⟩
 | none=>⟨0,m,none⟩
theorem X2x{l vs:List Value}{off:Nat}(h:off+vs.length<=l.length)(i:Nat) : (splice l off vs)[i]? = if i<off then l[i]? else if i<off+vs.length then vs[i-off]? else l[i]?:=by
 unfold splice
 have h1:(l.take off).length=off:=by rw [Qn];omega
 by_cases h2:i<off
 ·rw [Q4 h2,Qx,List.getElem?_append_left (by omega),Wg h2]
 ·rw [Q3 h2]
  by_cases h3:i<off+vs.length
  ·rw [Q4 h3,List.getElem?_append_left (by rw [Qh];omega),W5 (by omega),h1]
  ·rw [Q3 h3,W5 (by rw [Qh];omega),Qh,h1,List.getElem?_drop]
   congr 1
   omega
theorem X36{l vs:List Value}{off:Nat}(h:off+vs.length<=l.length) : (splice l off vs).length=l.length:=by
 unfold splice
 simp only [Qh,Qn,List.length_drop]
 omega
theorem Xdj{l x vs:List Value}{o j:Nat}(hx:∀ i,i<x.length->l[o+i]? = x[i]?)(h1:o+x.length<=l.length)(h2:j+vs.length<=x.length) : splice l (o+j) vs=splice l o (splice x j vs):=by
 have h3:=X36 h2
 apply List.ext_getElem?
 intro i
 rw [X2x (by omega),X2x (by omega),h3]
 by_cases a1:i<o
 ·rw [Q4 (by omega),Q4 a1]
 ·rw [Q3 a1]
  by_cases a2:i<o+x.length
  ·rw [Q4 a2,X2x h2]
   by_cases a3:i<o+j
   ·rw [Q4 a3,Q4 (show i-o<j by omega),<- hx (i-o) (by omega)];congr 1;omega
   ·rw [Q3 a3,Q3 (show ¬ i-o<j by omega)]
    by_cases a4:i<o+j+vs.length
    ·rw [Q4 a4,Q4 (show i-o<j+vs.length by omega)];congr 1;omega
    ·rw [Q3 a4,Q3 (show ¬ i-o<j+vs.length by omega),<- hx (i-o) (by omega)];congr 1;omega
  ·rw [Q3 a2,Q3 (by omega),Q3 (by omega)]
theorem Xcf{l vs:List Value}{off N:Nat}(h:off+vs.length<=N)(hN:N<=l.length) : (splice l off vs).take N=splice (l.take N) off vs:=by
 apply List.ext_getElem?
 intro i
 by_cases hi:i<N
 ·rw [Wg hi,X2x (by omega),X2x (by rw [Qn];omega),Wg hi]
 ·rw [List.getElem?_take_eq_none (by omega),List.getElem?_eq_none]
  rw [X36 (by rw [Qn];omega),Qn];omega
theorem Xft{α:Type}{enc:α->List Value}{sz:Nat}(hsz:∀ x,(enc x).length=sz) : ∀ (l:List α) (k i:Nat) (x:α),l[k]? = some x->i<sz->(l.flatMap enc)[k*sz+i]? = (enc x)[i]?
 | [],k,i,x,h,_=>by simp at h
 | y::l,0,i,x,h,hi=>by
  simp at h;subst h
  rw [Wc,Nat.zero_mul,Nat.zero_add,List.getElem?_append_left (by rw [hsz];exact hi)]
 | y::l,k+1,i,x,h,hi=>by
  have h':l[k]? = some x:=by simpa using h
  have e:(k+1)*sz+i=sz+(k*sz+i):=by rw [Wb];omega
  rw [Wc,e,W5 (by rw [hsz];omega),hsz,Nat.add_sub_cancel_left]
  exact Xft hsz l k i x h' hi
section
variable {P : Program} {a : Act} {w w' : World} {n : Nat} {e : Env} {ty : TypeId} {pos : String} {af : Array Edge} {g : Option (Nat × Bool)} {d : Option Tmp} {α : Type}
theorem Xcv{T E:TypeId}{sz B0 k m:Nat}{x y:Operand}{enc:α->List Value}{A:Option Addr}{c:Nat}{l:List α}{i:Int}(hf:Fr a n e)(hx:ev e x=some (.slice A m c))(hy:ev e y=some (.int .i64 i))(hT:SliceT P T E)(hs:SizeT P E sz)
  (ho:Own w' B0 E sz enc A c l) (hm:m=l.length) (hi:i=(k:Int)) (hk:k<l.length) : Ev P ⟨d,.indexAddr T x y,ty,pos,af,g⟩ a w (.pointer (some (oA A (k*sz)))):=by
 subst hm
 rcases ho.2 with ⟨h1,h2⟩|⟨b,cap,cur,h1,h2,h3,h4⟩
 ·omega
 ·injection h1 with h1
  rw [h1] at hx ⊢
  exact Xab (b:=b) (off:=k*sz) hf hx hy hT hs hi hk rfl
theorem Xx{T E:TypeId}{sz B0 k m:Nat}{x y:Operand}{enc:α->List Value}{A:Option Addr}{c:Nat}{l:List α}{i:Int}(hx:ev e x=some (.slice A m c))(hy:ev e y=some (.int .i64 i))(hT:SliceT P T E)(hs:SizeT P E sz)(ho:Own w' B0 E sz enc A c l)(hm:m=l.length)(hi:i=(k:Int))(hk:k<l.length) : EvW P ⟨d,.indexAddr T x y,ty,pos,af,g⟩ n e w (.pointer (some (oA A (k*sz)))):=fun a hf=>Xcv hf hx hy hT hs ho hm hi hk
theorem Xdq{T f k m:Nat}{x:Operand}{A:Option Addr}(hf:Fr a n e)(hx:ev e x=some (.pointer (some (oA A m))))(hF:FieldT P T f k){m':Nat}(hm:m+k=m') : Ev P ⟨d,.fieldAddr T x f,ty,pos,af,g⟩ a w (.pointer (some (oA A m'))):=by
 subst hm
 have h:=X8x (P:=P) (w:=w) (d:=d) (ty:=ty) (pos:=pos) (af:=af) (g:=g) hf hx hF
 have e:(oA A m).add k=oA A (m+k):=by cases A<;>simp [oA,Addr.add]
 rw [e] at h
 exact h
theorem X0y{T f k m:Nat}{x:Operand}{A:Option Addr}(hx:ev e x=some (.pointer (some (oA A m))))(hF:FieldT P T f k){m':Nat}(hm:m+k=m') : EvW P ⟨d,.fieldAddr T x f,ty,pos,af,g⟩ n e w (.pointer (some (oA A m'))):=fun a hf=>Xdq hf hx hF hm
theorem Xd1{t E:TypeId}{sz B0 k j m n1:Nat}{x y:Operand}{enc:α->List Value}{A:Option Addr}{c:Nat}{l:List α}{v:Value}{vs:List Value}{x0 u:α}(hf:Fr a n e)(hx:ev e x=some (.pointer (some (oA A m))))(hy:ev e y=some v)(hs:SizeT P t n1)
  (ho:Own w B0 E sz enc A c l) (hsz:∀ x,(enc x).length=sz) (hv:v.cells.toList=vs) (hn:Nat.beq vs.length n1=true) (h1:vs.all one=true) (hm:k*sz+j=m) (hj:j+n1<=sz) (hk:l[k]? = some x0) (hu:splice (enc x0) j vs=enc u) :
  Ef P ⟨d,.store t x y,ty,pos,af,g⟩ a w (fun _ w'=>Own w' B0 E sz enc A c (l.set k u)/\w.grownBy w' (Value.slice A l.length c).ownBlock):=by
 have hkl:k<l.length:=(Qg.1 hk).1
 rcases ho.2 with ⟨e1,e2⟩|⟨b,cap,cur,e1,e2,e3,e4,e5,e6,e7⟩
 ·omega
 ·injection e1 with e1 _ e1'
  subst hm;subst e1'
  have hcl:cur.toList.length=c*sz:=Array.length_toList.trans e6
  have hN:l.length*sz<=cur.toList.length:=by rw [hcl];exact Nat.mul_le_mul_right _ e4
  have hks:k*sz+sz<=l.length*sz:=by
   have:=Nat.mul_le_mul_right sz (show k+1<=l.length by omega)
   rwa [Wb,Nat.one_mul] at this
  have hn':vs.length=n1:=Nat.eq_of_beq_eq_true hn
  rw [e1] at hx
  have hb:Blk w b E cur.toList:=by unfold Blk;rw [e3]
  refine (X9g (b:=b) (off:=k*sz+j) (vs:=vs) hf hx hy hs hb hv hn h1 (by rw [Nat.ble_eq];omega) rfl).mono fun _ w' ⟨hO,hB⟩=>?_
  have hlen:((l.set k u).flatMap enc).length=(l.set k u).length*sz:=Xu hsz _
  refine ⟨⟨hlen,.inr ⟨b,c,_,by rw [e1],e2,hB,by simp;omega,e5,?_,?_⟩⟩,?_⟩
  ·rw [List.size_toArray,X36 (by omega),hcl]
  ·simp only [List.length_set]
   rw [Xcf (by omega) hN,e7,Xdj (x:=enc x0) (fun i hi=>?_) (by rw [Xu hsz,hsz];omega) (by rw [hsz];omega),hu]
   ·exact X5f hsz l k u hkl
   ·exact Xft hsz l k i x0 hk (by rw [<- hsz x0];exact hi)
  ·rw [e1]
   exact ⟨hO.os,hO.tape,hO.output,by rw [hO.size];exact Qb _,fun q _ hne=>hO.block q fun e=>hne (by rw [e];rfl)⟩
theorem X11{t E:TypeId}{sz B0 k j m n1:Nat}{x y:Operand}{enc:α->List Value}{A:Option Addr}{c:Nat}{l:List α}{v:Value}{vs:List Value}{x0 u:α}(hx:ev e x=some (.pointer (some (oA A m))))(hy:ev e y=some v)(hs:SizeT P t n1)(ho:Own w B0 E sz enc A c l)(hsz:∀ x,(enc x).length=sz)(hv:v.cells.toList=vs)(hn:Nat.beq vs.length n1=true)(h1:vs.all one=true)(hm:k*sz+j=m)(hj:j+n1<=sz)(hk:l[k]? = some x0)(hu:splice (enc x0) j vs=enc u) : EfW P ⟨d,.store t x y,ty,pos,af,g⟩ n e w (fun _ w'=>Own w' B0 E sz enc A c (l.set k u)/\w.grownBy w' (Value.slice A l.length c).ownBlock):=fun a hf=>Xd1 hf hx hy hs ho hsz hv hn h1 hm hj hk hu
end
section
variable {P : Program} {ops : Array Oper} {a : Act} {w : World} {n d : Nat} {e : Env} {ty : TypeId} {pos : String} {af : Array Edge} {g : Option (Nat × Bool)} {α : Type}
end
def Apart(A A':Option Addr) : Prop:=∀ p q,A=some p->A'=some q->p.block≠q.block
section
variable {α β : Type} {w w' : World} {B B0 B1 : Nat} {E E' : TypeId} {sz sz' : Nat} {enc : α -> List Value} {enc' : β -> List Value} {A A' : Option Addr} {c c' : Nat} {l : List α} {l' : List β}
theorem Own.apart(h:Own w B E sz enc A c l)(h':Own w' B0 E' sz' enc' A' c' l')(hB:w.heap.size<=B0) : Apart A A':=fun p q hp hq=>by
 rcases h.2 with ⟨h1,_⟩|⟨g,cap,cur,h1,h2,h3,_⟩
 ·injection h1 with h1;rw [h1] at hp;cases hp
 ·rcases h'.2 with ⟨k1,_⟩|⟨g',cap',cur',k1,k2,k3,_⟩
  ·injection k1 with k1;rw [k1] at hq;cases hq
  ·injection h1 with h1
   injection k1 with k1
   rw [h1] at hp
   rw [k1] at hq
   injection hp with hp
   injection hq with hq
   subst hp;subst hq
   have:=(Qp.1 h3).1
   intro e
   simp only at e
   omega
theorem Own.appP(h:Own w B1 E' sz' enc' A' c' l')(hg:w.grownBy w' (Value.slice A l.length c).ownBlock)(ha:Apart A' A) : Own w' B1 E' sz' enc' A' c' l':=by
 refine ⟨h.1,?_⟩
 rcases h.2 with h1|⟨g,cap,cur,h1,h2,h3,h4⟩
 ·exact .inl h1
 ·refine .inr ⟨g,cap,cur,h1,h2,(hg.block g (Qp.1 h3).1 fun hk=>?_).trans h3,h4⟩
  injection h1 with h1
  cases A with
  | none=>simp [Value.ownBlock] at hk
  | some q=>
   simp only [Value.ownBlock,Option.some.injEq] at hk
   exact ha _ q h1 rfl hk
theorem gbel{r:Option Nat}{w0 w w':World}(h:w0.grownBy w r)(hE:Below w.heap.size w w') : w0.grownBy w' r:=
 ⟨hE.os.trans h.os,hE.tape.trans h.tape,hE.output.trans h.output,Q0 h.size hE.size,fun k hk hn=>(hE.block k (Nat.lt_of_lt_of_le hk h.size)).trans (h.block k hk hn)⟩
theorem Xh5(A:Option Addr)(n m c d:Nat) : (Value.slice A n c).ownBlock=(Value.slice A m d).ownBlock:=by cases A<;>rfl
theorem gtr{A:Option Addr}{n m c d:Nat}{w0 w w':World}(h:w0.grownBy w (Value.slice A n c).ownBlock)(k:w.grownBy w' (Value.slice A m d).ownBlock) : w0.grownBy w' (Value.slice A n c).ownBlock:=
 ⟨k.os.trans h.os,k.tape.trans h.tape,k.output.trans h.output,Q0 h.size k.size,fun q hq hn=>(k.block q (Nat.lt_of_lt_of_le hq h.size) (by rw [Xh5 A m n d c];exact hn)).trans (h.block q hq hn)⟩
theorem gonly{r:Option Nat}{b:Nat}{w0 w w':World}(h:w0.grownBy w r)(ho:Only b w w')(hb:w0.heap.size<=b) : w0.grownBy w' r:=
 ⟨ho.os.trans h.os,ho.tape.trans h.tape,ho.output.trans h.output,by rw [ho.size];exact h.size,fun k hk hn=>(ho.block k (by omega)).trans (h.block k hk hn)⟩
theorem Own.len{m:Nat}(h:Own w B E sz enc A c l)(hm:m=l.length) : Own w B E sz enc A c l/\Value.slice A m c=Value.slice A l.length c:=⟨h,by rw [hm]⟩
theorem Apart.symm(h:Apart A A') : Apart A' A:=fun p q hp hq e=>h q p hq hp e.symm
end
section
variable {w w' : World} {B : Nat} {l : List Sl}
end
section
variable {α : Type} {w w' : World} {B B1 : Nat} {E : TypeId} {sz : Nat} {enc : α -> List Value} {A : Option Addr} {c : Nat} {l : List α} {m : List Sl}
end
theorem Apart.app{α:Type}{w:World}{B:Nat}{E:TypeId}{sz:Nat}{enc:α->List Value}{A A1 A2:Option Addr}{c:Nat}{l:List α}(h:Own w B E sz enc A c l)(ha:Apart A A1)(hat:∀ b,b<w.heap.size->Away A1 b->Away A2 b) : Apart A A2:=by
 intro p q hp hq
 rcases h.2 with ⟨h1,_⟩|⟨g,cap,cur,h1,_,h3,_⟩
 ·injection h1 with h1;rw [h1] at hp;cases hp
 ·injection h1 with h1
  rw [h1] at hp
  injection hp with hp
  have hlt:p.block<w.heap.size:=by rw [<- hp];exact (Qp.1 h3).1
  have haw:Away A1 p.block:=fun r hr e=>ha p r (by rw [h1,hp]) hr e.symm
  exact fun e=>hat _ hlt haw q hq e.symm
theorem Xdc{α:Type}{P:Program}{a:Act}{w:World}{n:Nat}{e:Env}{ty:TypeId}{pos:String}{af:Array Edge}{g:Option (Nat×Bool)}{d:Option Tmp}{T E:TypeId}{sz bytes B b0:Nat}{x y:Operand}{enc:α->List Value}{A2:Option Addr}{c2:Nat}{l2:List α}(hf:Fr a n e)(hx:ev e x=some (.slice (some ⟨b0,0,none⟩) 0 0))(hy:ev e y=some (.slice A2 l2.length c2))
  (hT:SliceT P T E) (hi:InfoT P E sz bytes) (hsz:∀ x,(enc x).length=sz) (hone:∀ x,(enc x).all one=true) (hb:Blk w b0 E []) (hr:Rd w B E enc A2 l2) (h63:l2.length<=maxLen) (hbytes:l2.length*bytes<=140737488355328) :
  Ef P ⟨d,.call ⟨.builtin .append,#[x,y],#[T,T]⟩,ty,pos,af,g⟩ a w (fun v w'=>∃ A' c',v=.slice A' l2.length c'/\Own w' b0 E sz enc A' c' l2/\Below w.heap.size w w'/\∀ b,b<w.heap.size->b≠b0->Away A' b):=by
 by_cases hl2:l2=[]
 ·subst hl2
  obtain ⟨i,z,hi1,hi2,hi3,hi4,hi5,hi6⟩:=hi
  have hrun:(Builtin.append_ #[T,T] ty #[.slice (some ⟨b0,0,none⟩) 0 0,.slice A2 0 c2]).run P w=.ok (.slice (some ⟨b0,0,none⟩) 0 0) w:=by
   cases A2<;>simp [Builtin.append_,X0g hT,sizeOf,typeInfo,hi1,Builtin.lenOf,Builtin.firstCells,loadCells,loadCellsFrom,storeCells]
  refine (Ef.of_run (v:=.slice (some ⟨b0,0,none⟩) 0 0) (w':=w) ?_).mono fun v w' ⟨e1,e2⟩=>?_
  ·simp only [List.length_nil] at hy
   simp [execOp,resolve,invoke,builtin,hf.ev hx,hf.ev hy,hrun]
  ·subst e1;subst e2
   exact ⟨_,_,rfl,Own.empty hb (Qb _),Below.refl _ _,fun b _ hne=>Away.ne hne⟩
 ·have hown:Own w b0 E sz enc (some ⟨b0,0,none⟩) 0 ([] : List α):=Own.empty hb (Qb _)
  obtain ⟨i,z,hi1,hi2,rfl,rfl,hi5,hi6⟩:=hi;obtain ⟨b,off,cs,fz,rfl,h2,h3,h4⟩:=hr hl2;have hlen2:=Xu hsz l2
  have hpos:0<l2.length:=List.length_pos_iff.2 hl2
  have h:=run_append_grow (P:=P) w T ty E i z hT hi1 hi2 ⟨b0,0,none⟩ 0 0 [] (by simp) (fun j u hu=>by simp at hu)
   ⟨b,off,none⟩ l2.length c2 (l2.flatMap enc) hlen2 (fun j u hu=>by
    have:=h4 j u hu
    rw [X1s]
    simp [World.cell?,h3,this])
   (by omega) (by simp only [maxLen] at h63;omega) (growslice_fits (by omega) (by simpa using hbytes))
  simp only [Nat.zero_add] at h
  refine (Ef.of_run (w':=w.drew.alloc (.cells (([] : List Value).toArray++(l2.flatMap enc).toArray++Builtin.zeroCells z.cells (grownCap w l2.length 0 E-l2.length)) E)) (v:=.slice (some ⟨w.heap.size,0,none⟩) l2.length (grownCap w l2.length 0 E)) ?_).mono fun v w' ⟨e1,e2⟩=>?_
  ·simp [execOp,resolve,invoke,builtin,hf.ev hx,hf.ev hy,h]
  ·subst e1;subst e2
   have hb0:=hb.lt;have hge:=grownCap_ge w l2.length 0 E
   refine ⟨_,_,rfl,?_,((Below.refl _ _).drew).alloc (Qb _) _,fun b hb _=>Away.ne (by omega)⟩
   refine ⟨Xu hsz _,.inr ⟨w.heap.size,_,_,rfl,by omega,heap_alloc_new w.drew _,hge,grownCap_le_maxLen w _ _ E h63,?_,?_⟩⟩
   ·simp only [Array.size_append,List.size_toArray,size_zeroCells,hi5,hlen2,List.length_nil,Nat.zero_add,<- Wb]
    congr 1
    omega
   ·rw [<- hlen2]
    simp only [Array.toList_append,Qx,List.nil_append]
    exact List.take_left
theorem X3m{α:Type}{P:Program}{w:World}{n:Nat}{e:Env}{ty:TypeId}{pos:String}{af:Array Edge}{g:Option (Nat×Bool)}{d:Option Tmp}{T E:TypeId}{sz bytes B b0:Nat}{x y:Operand}{enc:α->List Value}{A2:Option Addr}{c2:Nat}{l2:List α}(hx:ev e x=some (.slice (some ⟨b0,0,none⟩) 0 0))(hy:ev e y=some (.slice A2 l2.length c2))(hT:SliceT P T E)(hi:InfoT P E sz bytes)(hsz:∀ x,(enc x).length=sz)(hone:∀ x,(enc x).all one=true)(hb:Blk w b0 E [])(hr:Rd w B E enc A2 l2)(h63:l2.length<=maxLen)(hbytes:l2.length*bytes<=140737488355328) : EfW P ⟨d,.call ⟨.builtin .append,#[x,y],#[T,T]⟩,ty,pos,af,g⟩ n e w (fun v w'=>∃ A' c',v=.slice A' l2.length c'/\Own w' b0 E sz enc A' c' l2/\Below w.heap.size w w'/\∀ b,b<w.heap.size->b≠b0->Away A' b):=fun a hf=>Xdc hf hx hy hT hi hsz hone hb hr h63 hbytes
section
variable {P : Program} {ops : Array Oper} {V : Option Vk} {tl : Nat -> Bool} {Q : Act -> World -> Prop} {fuel : Nat} {done : List Nat} {w : World} {o : Oper} {op : Op} {ty : TypeId} {pos : String} {af : Array Edge} {g : Option (Nat × Bool)} {n d : Nat} {e : Env} {v : Value} {R : Value -> World -> Prop} {x : Operand}
end
theorem Apart.nr(A:Option Addr) : Apart A none:=fun _ _ _ h=>by cases h
theorem X5q{x:Dy} : dOk x=true↔rOk x.num=true/\(0<=x.exp/\x.exp<=60)/\(x.exp=0∨rEven x.num=false):=by
 simp only [dOk,Qd,X0o,Bool.or_eq_true,beq_iff_eq,Bool.not_eq_true',and_assoc]
theorem X7p{x z:Rg}(hx:rOk x=true) : rIf2 z [x]=rOk z:=by simp [rIf2,hx]
def bitT(p s:Nat) : Int:=bits .and .i64 ((s:Int)/2^p) 1
theorem Xa8{x:Rg}(h:rOk x=true) : rEven x=true↔(x.a+x.c) % 2=0/\(x.b+x.d) % 2=0:=by
 rw [X4z] at h
 unfold rEven
 rw [X1q (by omega) (by omega),X1q (by omega) (by omega)]
 simp only [Qd,beq_iff_eq]
 have key:∀ i:Int,i.tmod 2=0↔i % 2=0:=fun i=>by
  rw [<- Int.dvd_iff_tmod_eq_zero,<- Int.dvd_iff_emod_eq_zero]
 rw [key,key]
theorem Xgf{a b:Nat}(ha:a<=32)(hb:b<=32) : a*b<=1024:=Q0 (Nat.mul_le_mul ha hb) (by decide)
theorem X9r{l:List Int}{k:Nat}(h:decide ((k:Int)<(l.length:Int))=true) : l[k]? = some (l.getD k 0):=Xce (by simpa using h)
def putI:List Int->Int->List Int
 | [],n=>[n]
 | x::l,n=>if x<n then x::putI l n else if x=n then x::l else n::x::l
theorem Xhe:∀ (l:List Int) (n:Int),(putI l n).length<=l.length+1
 | [],n=>by simp [putI]
 | x::l,n=>by
  unfold putI
  split
  ·have:=Xhe l n;simp only [Qs];omega
  ·split<;>simp
theorem Xjp:∀ (l:List Int) (n:Int) (k:Nat),(l.take k).all (fun x=>decide (x<n))=true->k<=l.length->(k<l.length->¬ l.getD k 0<n)->
  (k<l.length/\l.getD k 0=n->putI l n=l)/\(¬ (k<l.length/\l.getD k 0=n)->putI l n=l.take k++[n]++l.drop k)
 | [],n,k,_,hk,_=>by
  have:k=0:=by simpa using hk
  subst this
  exact ⟨fun h=>by simp at h,fun _=>rfl⟩
 | x::l,n,0,_,_,h=>by
  have h:=h (by simp)
  simp only [List.getD_cons_zero] at h
  refine ⟨fun h1=>?_,fun h1=>?_⟩
  ·have h2:=h1.2
   simp only [List.getD_cons_zero] at h2
   rw [putI,Q3 h,Q4 h2]
  ·have h2:¬ x=n:=fun e=>h1 ⟨by simp,by simpa using e⟩
   rw [putI,Q3 h,Q3 h2]
   rfl
 | x::l,n,k+1,ha,hk,h=>by
  simp only [List.take_succ_cons,List.all_cons,Qd,Qr] at ha
  have ih:=Xjp l n k ha.2 (by simpa using hk) (fun h1=>by have:=h (by simpa using h1);simpa using this)
  simp only [Qs,Nat.add_lt_add_iff_right,List.getD_cons_succ,List.take_succ_cons,List.drop_succ_cons,Wa] at *
  rw [putI,Q4 ha.1]
  exact ⟨fun h1=>by rw [ih.1 h1],fun h1=>by rw [ih.2 h1]⟩
theorem X3t{α β:Type}{f:β->α->β}{b:β}{l:List α}{k:Nat}{u:α}(h:l[k]? = some u) : (l.take (k+1)).foldl f b=f ((l.take k).foldl f b) u:=by
 rw [Qt,h]
 simp
def lastN(l:List Int)(q:Int) : Nat->Int
 | 0=>0
 | k+1=>if l.getD k 0=q then (k:Int) else lastN l q k
section
variable {us : List Int} {j : Nat} {v q x k : Int}
end
abbrev Inc(l:List Int) : Prop:=l.Pairwise (· < ·)
theorem X82:∀ (l m:List Int),Inc l->Inc m->(∀ x,x ∈ l↔x ∈ m)->l=m
 | [],[],_,_,_=>rfl
 | [],y::m,_,_,h=>by have:=(h y).2 (by simp);cases this
 | x::l,[],_,_,h=>by have:=(h x).1 (by simp);cases this
 | x::l,y::m,hl,hm,h=>by
  have hl':=W8.1 hl
  have hm':=W8.1 hm
  have hxy:x=y:=by
   have h1:=(h x).1 (by simp)
   have h2:=(h y).2 (by simp)
   rcases Qv.1 h1 with h1|h1
   ·exact h1
   ·rcases Qv.1 h2 with h2|h2
    ·exact h2.symm
    ·have h3:=hm'.1 x h1;have h4:=hl'.1 y h2
     omega
  subst hxy
  congr 1
  refine X82 l m hl'.2 hm'.2 fun z=>?_
  constructor
  ·intro hz
   rcases Qv.1 ((h z).1 (Ql _ hz)) with h1|h1
   ·have:=hl'.1 z hz;omega
   ·exact h1
  ·intro hz
   rcases Qv.1 ((h z).2 (Ql _ hz)) with h1|h1
   ·have:=hm'.1 z hz;omega
   ·exact h1
theorem Xbt:∀ (l:List Int) (n x:Int),x ∈ putI l n↔x ∈ l∨x=n
 | [],n,x=>by simp [putI]
 | y::l,n,x=>by
  unfold putI
  split
  ·rw [Qv,Xbt l n x,Qv,or_assoc]
  ·split
   ·rename_i h;subst h;simp only [Qv];constructor
    ·exact .inl
    ·rintro (h|h)
     ·exact h
     ·exact .inl h
   ·simp only [Qv];constructor
    ·rintro (h|h|h)
     ·exact .inr h
     ·exact .inl (.inl h)
     ·exact .inl (.inr h)
    ·rintro ((h|h)|h)
     ·exact .inr (.inl h)
     ·exact .inr (.inr h)
     ·exact .inl h
theorem Xgh:∀ (l:List Int) (n:Int),Inc l->Inc (putI l n)
 | [],n,_=>by simp [putI]
 | y::l,n,h=>by
  have h':=W8.1 h
  unfold putI
  split
  ·rename_i h1
   refine W8.2 ⟨fun z hz=>?_,Xgh l n h'.2⟩
   rcases (Xbt l n z).1 hz with h2|h2
   ·exact h'.1 z h2
   ·omega
  ·split
   ·exact h
   ·rename_i h1 h2
    refine W8.2 ⟨fun z hz=>?_,h⟩
    rcases Qv.1 hz with h3|h3
    ·omega
    ·have:=h'.1 z h3;omega
theorem Xhu(l:List Int)(x:Int) : x ∈ sortI l↔x ∈ l:=List.mem_mergeSort
theorem Xbe(l:List Int) : (sortI l).Pairwise (·<=·):=by
 have:=List.pairwise_mergeSort (le:=fun x y:Int=>decide (x<=y)) (fun a b c h1 h2=>by simp only [Qr] at *;omega) (fun a b=>by simp only [Bool.or_eq_true,Qr];omega) l
 exact this.imp fun h=>by simpa using h
theorem X9d{l:List Int}(h:l.Pairwise (·<=·)){i j:Nat}(hij:i<=j)(hj:j<l.length) : l[i]'(by omega)<=l[j]:=by
 rcases W4 i j with h1|h1
 ·exact W0.1 h i j (by omega) hj h1
 ·obtain rfl:i=j:=by omega
  exact Int.le_refl _
theorem X5s{l:List Int}{j:Nat}(hj:j<l.length) : l.toArray[j]! = l[j]:=by
 rw [getElem!_pos l.toArray j (by simpa using hj)]
 simp
theorem X9z{l:List Int}{j:Nat}(hj:j<l.length) : Lib.keeps l.toArray j=true↔j=0∨l[j]≠l[j-1]:=by
 unfold Lib.keeps
 rw [Qr,X5s hj,X5s (show j-1<l.length by omega)]
theorem Xct(l:List Int)(x:Int) : x ∈ Lib.compact l↔x ∈ l:=by
 unfold Lib.compact Lib.compactUpTo
 rw [W6]
 constructor
 ·rintro ⟨j,hj,rfl⟩
  have hj':=W2.1 (List.mem_filter.1 hj).1
  rw [X5s hj']
  exact List.getElem_mem _
 ·intro hx;obtain ⟨j,hj,hjx⟩:=List.mem_iff_getElem.1 hx
  have key:∀ n j,j<=n->(hj:j<l.length)->l[j]=x->∃ k,∃ hk:k<l.length,l[k]=x/\(k=0∨l[k]≠l[k-1]):=by
   intro n
   induction n with
   | zero=>
    intro j h0 hj hx;obtain rfl:j=0:=by omega
    exact ⟨0,hj,hx,.inl rfl⟩
   | succ n ih=>
    intro j h0 hj hx
    by_cases h:j=0∨l[j]≠l[j-1]
    ·exact ⟨j,hj,hx,h⟩
    ·have h1:¬ j=0:=fun e=>h (.inl e)
     have h2:l[j]=l[j-1]:=Classical.byContradiction fun e=>h (.inr e)
     exact ih (j-1) (by omega) (by omega) (by rw [<- h2];exact hx)
  obtain ⟨k,hk,h1,h2⟩:=key j j (Qb _) hj hjx;exact ⟨k,List.mem_filter.2 ⟨W2.2 hk,(X9z hk).2 h2⟩,by rw [X5s hk];exact h1⟩
theorem Xch{l:List Int}(h:l.Pairwise (·<=·)) : Inc (Lib.compact l):=by
 unfold Lib.compact Lib.compactUpTo
 rw [Inc,List.pairwise_map]
 refine List.Pairwise.imp_of_mem (R:=(· < ·)) (fun {i j} hi hj hij=>?_) (List.Pairwise.filter _ List.pairwise_lt_range)
 have hi':=W2.1 (List.mem_filter.1 hi).1
 have hj':=W2.1 (List.mem_filter.1 hj).1
 have hk:=(X9z hj').1 (List.mem_filter.1 hj).2
 rw [X5s hi',X5s hj']
 have h1:=X9d h (show i<=j-1 by omega) (by omega)
 have h2:=X9d h (show j-1<=j by omega) hj'
 have h3:l[j]≠l[j-1]:=hk.resolve_left (by omega)
 omega
theorem Xie(p q:List Int)(x:Int) : x ∈ unionI p q↔x ∈ p∨x ∈ q:=by
 unfold unionI
 rw [Xct,Xhu]
 simp
theorem Xi0(p q:List Int) : Inc (unionI p q):=Xch (Xbe _)
section
end
instance:DecidableEq Rp:=fun a b=>decidable_of_iff (a.pos=b.pos/\a.old=b.old/\a.new=b.new) (by cases a;cases b;simp)
theorem F93(g:World)(ls:List Sl)(Al:Option Addr)(cl:Nat)(o:Rd g g.heap.size 71 encS Al ls)(D:∀ s ∈ ls,Rd g g.heap.size 3 encI s.A s.l)(b6:ls.length<=1000)(b4:(ls.flatMap Sl.l).length<=1000000000) : Ret Tryz.prog 206 [.slice Al ls.length cl] g (fun v w=>∃ A c,v=.slice A (ls.flatMap Sl.l).length c/\Own w g.heap.size 3 1 encI A c (ls.flatMap Sl.l)/\Below g.heap.size g w):=by
 refine enter Tryz.func206 rfl 36 rfl rfl ?_;intro a b
 have i:=bz g
 refine Zs b fun _ aS=>?_;refine Za rfl<|Zx aS fun a b _ aT=>?_;refine Za rfl<|ZX aT fun a b _ aU=>?_;refine Zs b fun _ aV=>?_;refine Zm rfl<|Ze (X09 rfl X8u)<|Zm rfl<|Zt aV fun a b=>?_;refine Q8<|X01 (σ:=Nat) (fun (k:Nat) (a:Act) (w:World)=>Fr a 36 [(0,.slice Al ls.length cl),(3,vi (((ls.take k).flatMap Sl.l).length:Int)),(9,.slice Al ls.length cl),(10,vi (ls.length:Int)),(11,vi (k:Int))]/\(k<=ls.length)/\Below g.heap.size g w) (fun (k:Nat)=>ls.length-k) 0 ?_ ?_
 ·exact ⟨b.sb,(Qf _),i⟩
 rintro k a w1 ⟨b,hk,i⟩;refine Zs b fun _ aW=>?_;refine Ze (X0n rfl rfl)<|ZX aW fun a b _ aX=>?_
 refine Xi b rfl (fun m=>?_) (fun m=>?_)
 ·have aC:=m;have m:=Q2 m
  obtain ⟨p,q⟩:=X4 (l:=ls) (k:=k) (by omega)
  have t:=Xak (f:=Sl.l) q;have a6:=Xc9 Sl.l ls (k+1)
  rw [t,Qh] at a6
  refine Q7<|aX _ _<|Q5 fun _ aD=>?_;refine Q8<|Zs b fun _ aE=>?_;refine Zi (k:=k) (u:=p) (enc:=encS) (l:=ls) tv0 rfl rfl X8u Xjo Xd8 (o.bx i) q rfl ?_;intro b7 a7
  have b5:Rd w1 g.heap.size 3 encI p.A p.l:=(D p (Qe q)).bx i
  refine Ze (X0 rfl X54 a7)<|Za rfl<|Zx aE fun a b _ aF=>?_;refine Zm rfl<|Zm rfl<|Ze (X09 rfl Xj)<|Ze (Xs rfl rfl (by omega) (by omega))<|Za rfl<|Zx aF fun a b _ aG=>?_;refine Zm rfl<|Ze (X0n rfl rfl)<|Zt aG fun a b=>?_
  refine Xi b rfl (fun d=>?_) (fun d=>?_)
  ·have a8:=d;have d:=Q2 d;exact absurd d (by omega)
  have a8:=d;have d:=Q1 d;refine Q7<|Xa<|aD _ _<|Zr b ?_;refine Ze (Xs rfl rfl (by omega) (by omega))<|Zm rfl ?_;refine Zn fun a b=>?_
  have aY:((((ls.take k).flatMap Sl.l).length:Int)+(p.l.length:Int))=(((ls.take (k+1)).flatMap Sl.l).length:Int):=by rw [t,Qh];omega
  rw [aY] at b
  refine Xc ?_;exact ⟨k+1,⟨b.sb,(by omega),i⟩,(by omega)⟩
 have aC:=m;have m:=Q1 m;refine Q9<|Xk<|Xk<|X02 ?_;refine aU _ _<|Zs b fun _ aH=>?_;refine Zm rfl<|Zf (Vc (Y5i _ (((ls.take k).flatMap Sl.l).length) (by have:=Xc9 Sl.l ls k;omega)) Xwp) ?_;rintro _ w2 ⟨aZ,b0,rfl,x,hE⟩;have x:=x.lower i.size;have i:=btr i hE;refine Za rfl<|ZX aH fun a b _ aI=>?_;refine Zs b fun _ aJ=>?_;refine Zm rfl<|Ze (X09 rfl X8u)<|Zm rfl<|Zt aJ fun a b=>?_;refine Q8<|X01 (σ:=Nat×(List Int)) (fun (s:Nat×(List Int)) (a:Act) (w:World)=>match s with|(j,l)=>∃ B C,Fr a 36 [(6,.slice B l.length C),(25,.slice Al ls.length cl),(26,vi (ls.length:Int)),(27,vi (j:Int))]/\(j<=ls.length)/\(l=(ls.take j).flatMap Sl.l)/\Own w g.heap.size 3 1 encI B C l/\Below g.heap.size g w) (fun (s:Nat×(List Int))=>match s with|(j,l)=>ls.length-j) (0,[]) ?_ ?_
 ·exact ⟨aZ,b0,b.sb,(Qf _),rfl,x,i⟩
 rintro ⟨j,l⟩ a w3 ⟨B,C,b,hj,hl,y,i⟩;refine Zs b fun _ aK=>?_;refine Ze (X0n rfl rfl)<|ZX aK fun a b _ aL=>?_
 refine Xi b rfl (fun e=>?_) (fun e=>?_)
 ·have aA:=e;have e:=Q2 e
  obtain ⟨n,h⟩:=X4 (l:=ls) (k:=j) (by omega)
  have t:=Xak (f:=Sl.l) h;have a6:=Xc9 Sl.l ls (j+1)
  rw [t,Qh,<- hl] at a6
  refine Q7<|aL _ _<|Q5 fun _ aM=>?_;refine Q8<|Zs b fun _ aN=>?_;refine Zi (k:=j) (u:=n) (enc:=encS) (l:=ls) tv0 rfl rfl X8u Xjo Xd8 (o.bx i) h rfl ?_;intro b8 aB
  have aO:Rd w3 g.heap.size 3 encI n.A n.l:=(D n (Qe h)).bx i
  refine Ze (X0 rfl X54 aB)<|Za rfl<|Zt aN fun a b=>?_;refine Zr b<|Zm rfl<|Zm rfl<|Zf (X0t (enc:=encI) (l:=(l)) (l2:=(n.l)) (B0:=g.heap.size) rfl rfl Xj X1g Xd X1z y aO (by simp only [maxLen];omega) (by omega) i.size) ?_;rintro _ w4 ⟨b1,b2,rfl,aP,hg,b3⟩
  have E:Own _ g.heap.size 3 1 encI _ _ (l):=y
  clear b3;have i:=Below.app i E hg (Qb _) i.size;clear E hg;refine Za rfl ?_;refine Zn fun a b=>?_;refine Xa<|aM _ _<|Zr b<|Ze (Xs rfl rfl (by omega) (by omega))<|Zm rfl ?_;refine Zn fun a b=>?_;refine Xc ?_;exact ⟨(j+1,l++n.l),⟨b1,b2,b.sb,(by omega),(by rw [t,hl]),aP,i⟩,(by first|omega|(dsimp only;omega))⟩
 have aA:=e;have e:=Q1 e;refine Q9<|Xk<|Xk<|X02 ?_;refine aI _ _<|Zs b fun _ aQ=>?_;refine Zm rfl<|Za rfl<|Zt aQ fun a b=>?_
 refine Q6 (X6 b (Xp b rfl rfl) ?_)
 have aR:l=ls.flatMap Sl.l:=by rw [hl];exact Xht _ (by omega)
 rw [<- aR]
 exact ⟨B,C,rfl,y,i⟩
theorem Xw4(q:World)(Al:Option Addr)(cl:Nat)(l:List Int)(j:Rd q q.heap.size 3 encI Al l)(n:Int)(B0:Nat)(ho:Own q B0 3 1 encI Al cl l)(aN:B0<=q.heap.size)(b0:l.length<=1000000000) : Ret Tryz.prog 216 [.slice Al l.length cl,vi n] q (fun v w=>∃ A c,v=.slice A (putI l n).length c/\Own w B0 3 1 encI A c (putI l n)/\Below q.heap.size q w):=by
 refine enter Tryz.func216 rfl 48 rfl rfl ?_;intro a e
 have f:=bz q
 refine Zs e fun _ aO=>?_;refine Za rfl<|Zx aO fun a e _ aP=>?_;refine Za rfl<|ZX aP fun a e _ aQ=>?_;refine Q8<|X01 (σ:=Nat) (fun (k:Nat) (a:Act) (w:World)=>Fr a 48 [(0,.slice Al l.length cl),(1,vi n),(5,vi (k:Int))]/\(k<=l.length)/\((l.take k).all (fun x=>decide (x<n))=true)/\Below q.heap.size q w) (fun (k:Nat)=>l.length-k) 0 ?_ ?_
 ·exact ⟨e.sb,(Qf _),rfl,f⟩
 rintro k a w1 ⟨e,hk,E,f⟩;refine Q5 fun _ aR=>?_;refine Q5 fun _ aS=>?_;refine X0a (fun a w=>Fr a 48 [(0,.slice Al l.length cl),(1,vi n),(5,vi (k:Int)),(18,.bool (decide ((k:Int)<(l.length:Int))&&decide ((l.getD k 0)<n)))]/\w1=w) ?_ ?_
 ·refine Zr e<|Zm rfl<|Zm rfl<|Ze (X09 rfl Xj)<|Ze (X0n rfl rfl)<|Zm rfl ?_
  refine Zg 11 rfl (fun d=>?_) (fun d=>?_)
  ·refine Zv (gW d) (X3 rfl) ?_;refine Zv (gW d) (X3 rfl) ?_;refine Zi (k:=k) (u:=(l.getD k 0)) (enc:=encI) (l:=l) ⟨_,_,rfl,rfl,d⟩ rfl rfl Xj X0b Xd (j.bx f) (X9r (by assumption)) rfl ?_;intro b1 aA;refine Zv (gW d) (X0 rfl X9 aA) ?_;refine Zv (gW d) (X3 rfl) ?_;refine Zv (gW d) (X0n rfl rfl) ?_;refine Ze (X5 rfl d rfl) ?_;refine Zn fun a e=>?_;exact ⟨e.sub ⟨rfl,rfl,rfl,X1 rfl (by first|rfl|(simp only [d,bs];done)|simp [d]),trivial⟩,rfl⟩
  (iterate 6 refine Zp (gP d) ?_);refine Ze (Xb rfl d rfl) ?_;refine Zn fun a e=>?_;exact ⟨e.sub ⟨rfl,rfl,rfl,X1 rfl (by first|rfl|(simp only [d,bs];done)|simp [d]),trivial⟩,rfl⟩
 rintro a _ ⟨e,rfl⟩;refine aS _ _ ?_
 refine Xi e rfl (fun o=>?_) (fun o=>?_)
 ·have i:=o
  have aT:(k:Int)<l.length/\l.getD k 0<n:=by simpa using o
  have aU:k<l.length:=by omega
  refine Q7<|aR _ _<|Q8<|Zr e ?_;refine Zm rfl<|Ze (Xs rfl rfl (by omega) (by omega))<|Za rfl ?_;refine Zn fun a e=>?_;refine Xa<|Xc ?_;exact ⟨k+1,⟨e.sb,(by omega),(X5c E (Xce aU) (by simpa using aT.2)),f⟩,(by omega)⟩
 have i:=o
 have aV:k<l.length->¬ l.getD k 0<n:=by intro h0 h1;revert o;simp only [h1,decide_true,Bool.and_true,decide_eq_false_iff_not];omega
 have aB:=Xjp l n k E hk aV;refine Q9<|Xk<|Xk<|X02 ?_;refine aQ _ _<|Q5 fun _ aC=>?_;refine Q5 fun _ aD=>?_;refine X0a (fun a w=>Fr a 48 [(0,.slice Al l.length cl),(1,vi n),(5,vi (k:Int)),(32,.bool (decide ((k:Int)<(l.length:Int))&&(l.getD k 0)==n))]/\w1=w) ?_ ?_
 ·refine Zr e<|Zm rfl<|Zm rfl<|Ze (X09 rfl Xj)<|Ze (X0n rfl rfl)<|Zm rfl ?_
  refine Zg 25 rfl (fun b=>?_) (fun b=>?_)
  ·refine Zv (gW b) (X3 rfl) ?_;refine Zv (gW b) (X3 rfl) ?_;refine Zi (k:=k) (u:=(l.getD k 0)) (enc:=encI) (l:=l) ⟨_,_,rfl,rfl,b⟩ rfl rfl Xj X0b Xd (j.bx f) (X9r (by assumption)) rfl ?_;intro b2 a6;refine Zv (gW b) (X0 rfl X9 a6) ?_;refine Zv (gW b) (X3 rfl) ?_;refine Zv (gW b) (X0k rfl rfl) ?_;refine Ze (X5 rfl b rfl) ?_;refine Zn fun a e=>?_;exact ⟨e.sub ⟨rfl,rfl,rfl,X1 rfl (by first|rfl|(simp only [i,b,bs];done)|simp [i,b]),trivial⟩,rfl⟩
  (iterate 6 refine Zp (gP b) ?_);refine Ze (Xb rfl b rfl) ?_;refine Zn fun a e=>?_;exact ⟨e.sub ⟨rfl,rfl,rfl,X1 rfl (by first|rfl|(simp only [i,b,bs];done)|simp [i,b]),trivial⟩,rfl⟩
 rintro a _ ⟨e,rfl⟩;refine aD _ _ ?_
 refine Xi e rfl (fun p=>?_) (fun p=>?_)
 ·have a7:=p
  have aW:k<l.length/\l.getD k 0=n:=by have h9:(k:Int)<l.length/\l.getD k 0=n:=(by simpa using p);omega
  have h:=aB.1 aW;refine Zs e fun _ aE=>?_;refine Zm rfl<|Za rfl<|Zt aE fun a e=>?_;refine Q6<|X8<|X6 e (Xp e rfl rfl) ?_
  rw [h]
  exact ⟨_,_,rfl,ho.bw f,f⟩
 have a7:=p
 have h:=aB.2 (fun h0=>by revert p;rw [h0.2];simp;omega)
 refine Q7<|aC _ _<|Zs e fun _ aF=>?_;refine Zf (Xn (k:=0) (vs:=[]) (zs:=[]) rfl Xj X1g rfl rfl) ?_;rintro _ w2 ⟨b3,rfl,G,hE,H⟩;have B:=Q0 f.size G;have aG:=(j.bx f).away G;have f:=btr f hE;refine Zm rfl<|Zm rfl ?_;have aH:=((j.bx f).top).takeK Xd k;refine Ze (X2r (l:=l) (k:=k) rfl rfl Xj X0b rfl hk ho.cap)<|Zf (X0t (enc:=encI) (l:=([] : List Int)) (l2:=((l.take k))) (B0:=q.heap.size) rfl rfl Xj X1g Xd X1z (Own.empty H B) aH (by simp only [maxLen];simp;omega) (by simp;omega) f.size) ?_;rintro _ w3 ⟨b4,b5,rfl,m,I,t⟩
 have g:Own _ q.heap.size 3 1 encI _ _ ([] : List Int):=(Own.empty H B)
 clear t;have f:=Below.app f g I (Qb _) f.size;clear g I
 simp only [List.nil_append] at m
 refine Za rfl<|Zx aF fun a e _ aI=>?_;refine Zm rfl<|Zm rfl<|Zf (Xn (k:=1) (vs:=[vi n]) (zs:=[vi n]) rfl Xj X1g rfl rfl) ?_;rintro _ w4 ⟨b6,rfl,C,hE,D⟩;have aX:=Q0 f.size C;have aJ:=(j.bx f).away C;have y:=m.away C;have m:=m.bw hE;have f:=btr f hE;refine Zf (X0t (enc:=encI) (l:=((l.take k))) (l2:=([n])) (B0:=q.heap.size) rfl rfl Xj X1g Xd X1z m (Rd.of_blk D rfl _ D.lt) (by simp only [maxLen];simp;omega) (by simp;omega) f.size) ?_;rintro _ w5 ⟨b7,b8,rfl,J,I,t⟩
 have g:Own _ q.heap.size 3 1 encI _ _ ((l.take k)):=m
 have a8:=t _ D.lt y;clear t;have f:=Below.app f g I (Qb _) f.size;clear g I;refine Za rfl<|Zx aI fun a e _ aK=>?_;refine Zm rfl<|Zm rfl<|Zm rfl ?_;have aL:=((j.bx f).top).dropK Xd (c:=cl) ho.cap k;refine Ze (X6f (l:=l) (k:=k) rfl rfl Xj X0b rfl hk)<|Zf (X0t (enc:=encI) (l:=((l.take k)++([n]))) (l2:=((l.drop k))) (B0:=q.heap.size) rfl rfl Xj X1g Xd X1z J aL (by simp only [maxLen];simp;omega) (by simp;omega) f.size) ?_;rintro _ w6 ⟨aY,aZ,rfl,aM,I,t⟩
 have g:Own _ q.heap.size 3 1 encI _ _ ((l.take k)++([n])):=J
 clear t;have f:=Below.app f g I (Qb _) f.size;clear g I;refine Za rfl<|Zt aK fun a e=>?_
 refine Q6 (X6 e (Xp e rfl rfl) ?_)
 rw [h]
 exact ⟨aY,aZ,rfl,(aM).lower aN,f⟩
section
variable {p q : Mx}
theorem Xxa(h:(p.rows != q.rows||p.cols != q.cols||(p.cells.length:Int) != (q.cells.length:Int))=true) : (decide (p.rows=q.rows)&&decide (p.cols=q.cols)&&decide (p.cells=q.cells))=false:=by
 rw [Bool.eq_false_iff]
 intro h2
 simp only [Qd,Qr] at h2
 obtain ⟨⟨h3,h4⟩,h5⟩:=h2
 rw [h3,h4,h5] at h
 simp at h
theorem Xj6(h:(p.rows != q.rows||p.cols != q.cols||(p.cells.length:Int) != (q.cells.length:Int))=false) : p.rows=q.rows/\p.cols=q.cols/\p.cells.length=q.cells.length:=by
 simp only [Bool.or_eq_false_iff,bne_eq_false_iff_eq] at h
 exact ⟨h.1.1,h.1.2,by omega⟩
theorem Xkh{k:Nat}{u v:Dy}(hu:p.cells[k]? = some u)(hv:q.cells[k]? = some v)(h:¬ u=v) : (decide (p.rows=q.rows)&&decide (p.cols=q.cols)&&decide (p.cells=q.cells))=false:=by
 rw [Bool.eq_false_iff]
 intro h2
 simp only [Qd,Qr] at h2
 rw [h2.2,hv] at hu
 injection hu with hu
 exact h hu.symm
end
theorem X4h:∀ (l m:List Int) (x:Int),x ∈ l.foldl putI m↔x ∈ m∨x ∈ l
 | [],m,x=>by simp
 | y::l,m,x=>by rw [List.foldl_cons,X4h l,Xbt];simp only [Qv];rw [or_assoc]
theorem X6w:∀ (l m:List Int),Inc m->Inc (l.foldl putI m)
 | [],_,h=>h
 | y::l,m,h=>X6w l _ (Xgh m y h)
theorem X90:∀ (l m:List Int),(l.foldl putI m).length<=m.length+l.length
 | [],m=>by simp
 | y::l,m=>by
  have h1:=X90 l (putI m y);have h2:=Xhe m y
  rw [List.foldl_cons,Qs]
  omega
section
variable (gs : List Gt) (s : List Int) (g : Gt) (x : Int)
end
section
variable {f : Nat -> Int} {n i : Nat} {r : Int × Int} {x : Int}
end
section
variable {p : Nat -> Bool} {i j : Nat}
end
section
variable {gs : List Gt} {s : List Int} {i : Nat} {g : Gt}
end
theorem Xho(e:World)(Al:Option Addr)(cl:Nat)(l:List Int)(aB:Rd e e.heap.size 3 encI Al l)(x:Int)(aO:l.length<=2305843009213693951) : Ret Tryz.prog 146 [.slice Al l.length cl,vi x] e (fun v w=>v=.bool (l.any fun y=>y==x)/\Below e.heap.size e w):=by
 refine enter Tryz.func146 rfl 17 rfl rfl ?_;intro a b
 have hW:=bz e
 refine Zs b fun _ aH=>?_;refine Za rfl<|ZX aH fun a b _ aI=>?_;refine Zs b fun _ aJ=>?_;refine Zm rfl<|Ze (X09 rfl Xj)<|Zm rfl<|Zt aJ fun a b=>?_;refine Q8<|X01 (σ:=Nat) (fun (k:Nat) (a:Act) (w:World)=>Fr a 17 [(1,vi x),(7,.slice Al l.length cl),(8,vi (l.length:Int)),(9,vi (k:Int))]/\(k<=l.length)/\((l.take k).all (fun y=>!(y==x))=true)/\Below e.heap.size e w) (fun (k:Nat)=>l.length+1-k) 0 ?_ ?_
 ·exact ⟨b.sb,(Qf _),(by simp),hW⟩
 rintro k a w1 ⟨b,hk,f,hW⟩;refine Zs b fun _ aK=>?_;refine Ze (X0n rfl rfl)<|ZX aK fun a b _ aL=>?_
 refine Xi b rfl (fun d=>?_) (fun d=>?_)
 ·have aC:=d;have d:=Q2 d
  obtain ⟨u8,a6⟩:=X4 (l:=l) (k:=k) (by omega)
  refine Q7<|aL _ _<|Q5 fun _ aM=>?_;refine Q8<|Zs b fun _ aD=>?_;refine Zi (k:=k) (u:=u8) (enc:=encI) (l:=l) tv0 rfl rfl Xj X0b Xd (aB.bx hW) a6 rfl ?_;intro aP a7;refine Ze (X0 rfl X9 a7)<|Za rfl<|Zx aD fun a b _ aE=>?_;refine Zm rfl<|Zm rfl<|Ze (X0k rfl rfl)<|Zt aE fun a b=>?_
  refine Xi b rfl (fun c=>?_) (fun c=>?_)
  ·have a8:=c
   have aA:l.any (fun y=>y==x)=true:=X91 a6 c
   refine Zs b fun _ aF=>?_;refine Za rfl<|Zt aF fun a b=>?_;refine Q6<|Xw<|X8<|X8 ?_;refine Xw<|X8<|X6 b (Xp b rfl rfl) ?_;exact ⟨by rw [aA],hW⟩
  have a8:=c
  have aN:(!(u8==x))=true:=by rw [c];rfl
  refine Q7<|Xa<|aM _ _<|Zr b ?_;refine Ze (Xs rfl rfl (by omega) (by omega))<|Zm rfl ?_;refine Zn fun a b=>?_;refine Xc ?_;exact ⟨k+1,⟨b.sb,(by omega),(X5c f a6 aN),hW⟩,(by omega)⟩
 have aC:=d;have d:=Q1 d;refine Q9<|Xk<|Xk<|X02 ?_;refine aI _ _<|Zs b fun _ aG=>?_;refine Za rfl<|Zt aG fun a b=>?_
 refine Q6 (X6 b (Xp b rfl rfl) ?_)
 have aA:l.any (fun y=>y==x)=false:=X7u (X5w f (by omega))
 exact ⟨by rw [aA],hW⟩
theorem Y4i(B:World)(p:Mx)(Ap:Option Addr)(cp:Nat)(aD:Rd B B.heap.size 96 encD Ap p.cells)(q:Mx)(Aq:Option Addr)(cq:Nat)(aE:Rd B B.heap.size 96 encD Aq q.cells)(aY:p.cells.length<=2305843009213693951) : Ret Tryz.prog 20 [.agg #[vi p.rows,vi p.cols,.slice Ap p.cells.length cp],.agg #[vi q.rows,vi q.cols,.slice Aq q.cells.length cq]] B (fun v w=>v=.bool (decide (p.rows=q.rows)&&decide (p.cols=q.cols)&&decide (p.cells=q.cells))/\Below B.heap.size B w):=by
 refine enter Tryz.func20 rfl 45 rfl rfl ?_;intro a f
 have x:=bz B
 refine Zs f fun _ aQ=>?_;refine Zf (X0l (zs:=[vi p.rows,vi p.cols,.slice Ap p.cells.length cp]) rfl rfl) ?_;rintro _ w1 ⟨b4,rfl,aR,C,i⟩;have aW:=Q0 x.size aR;have x:=btr x C;refine Zf (X0l (zs:=[vi q.rows,vi q.cols,.slice Aq q.cells.length cq]) rfl rfl) ?_;rintro _ w2 ⟨b5,rfl,aS,C,m⟩
 have aP:b4≠b5:=by have:=i.lt;omega
 have aX:=Q0 x.size aS;have i:=i.bw C;have x:=btr x C;refine Za rfl<|ZX aQ fun a f _ aT=>?_;refine Q5 fun _ aU=>?_;refine X0a (fun a w=>Fr a 45 [(2,(pZ9 b4)),(3,(pZ9 b5)),(26,.bool (((p.rows != q.rows)||(p.cols != q.cols))||((p.cells.length:Int) != (q.cells.length:Int))))]/\w2=w) ?_ ?_
 ·refine Zr f<|Ze (Vd rfl Xcg 0)<|Ze (X0 rfl X9 (i.at 0))<|Ze (Vd rfl Xcg 0)<|Ze (X0 rfl X9 (m.at 0))<|Ze (X1e rfl rfl)<|Zm rfl ?_
  refine Zg 11 rfl (fun g=>?_) (fun g=>?_)
  ·(iterate 5 refine Zp (gP g) ?_);refine Ze (X5 rfl g rfl)<|Zm rfl<|Zp (gP rfl) ?_;(iterate 6 refine Zp (gP rfl) ?_);refine Ze (X5 rfl rfl rfl) ?_;refine Zn fun a f=>?_;exact ⟨f.sub ⟨rfl,rfl,X1 rfl (by simp [g]),trivial⟩,rfl⟩
  refine Zv (gW g) (Vd rfl Xcw 1) ?_;refine Zv (gW g) (X0 rfl X9 (i.at 1)) ?_;refine Zv (gW g) (Vd rfl Xcw 1) ?_;refine Zv (gW g) (X0 rfl X9 (m.at 1)) ?_;refine Zv (gW g) (X1e rfl rfl) ?_;refine Ze (Xb rfl g rfl)<|Zm rfl ?_
  refine Zg 18 rfl (fun e=>?_) (fun e=>?_)
  ·(iterate 7 refine Zp (gP e) ?_);refine Ze (X5 rfl e rfl) ?_;refine Zn fun a f=>?_;exact ⟨f.sub ⟨rfl,rfl,X1 rfl (by simp [g,e]),trivial⟩,rfl⟩
  refine Zv (gW e) (Vd rfl X3v 2) ?_;refine Zv (gW e) (X0 rfl X7v (i.at 2)) ?_;refine Zv (gW e) (X09 rfl X6k) ?_;refine Zv (gW e) (Vd rfl X3v 2) ?_;refine Zv (gW e) (X0 rfl X7v (m.at 2)) ?_;refine Zv (gW e) (X09 rfl X6k) ?_;refine Zv (gW e) (X1e rfl rfl) ?_;refine Ze (Xb rfl e rfl) ?_;refine Zn fun a f=>?_;exact ⟨f.sub ⟨rfl,rfl,X1 rfl (by simp [g,e]),trivial⟩,rfl⟩
 rintro a _ ⟨f,rfl⟩;refine aU _ _ ?_
 refine Xi f rfl (fun n=>?_) (fun n=>?_)
 ·have a6:=n
  have y:(decide (p.rows=q.rows)&&decide (p.cols=q.cols)&&decide (p.cells=q.cells))=false:=Xxa n
  refine Zs f fun _ aF=>?_;refine Za rfl<|Zt aF fun a f=>?_;refine Q6<|X8<|X6 f (Xp f rfl rfl) ?_;exact ⟨by rw [y],x⟩
 have a6:=n;obtain ⟨e1,e2,e3⟩:=Xj6 n;refine Q7<|aT _ _<|Q5 fun _ aG=>?_;refine Zs f fun _ aH=>?_;refine Ze (Vd rfl X3v 2)<|Ze (X0 rfl X7v (i.at 2))<|Ze (X09 rfl X6k)<|Zm rfl<|Zt aH fun a f=>?_;refine Q8<|X01 (σ:=Nat) (fun (k:Nat) (a:Act) (w:World)=>Fr a 45 [(2,(pZ9 b4)),(3,(pZ9 b5)),(29,vi (p.cells.length:Int)),(30,vi (k:Int))]/\(k<=p.cells.length)/\(p.cells.take k=q.cells.take k)/\Blk w b4 50 [vi p.rows,vi p.cols,.slice Ap p.cells.length cp]/\Blk w b5 50 [vi q.rows,vi q.cols,.slice Aq q.cells.length cq]/\Below B.heap.size B w) (fun (k:Nat)=>p.cells.length-k) 0 ?_ ?_
 ·exact ⟨f.sb,(Qf _),(by simp),i,m,x⟩
 rintro k a w3 ⟨f,hk,h,i,m,x⟩;refine Zs f fun _ aI=>?_;refine Ze (X0n rfl rfl)<|ZX aI fun a f _ aJ=>?_
 refine Xi f rfl (fun j=>?_) (fun j=>?_)
 ·have a7:=j;have j:=Q2 j
  obtain ⟨o,A⟩:=X4 (l:=p.cells) (k:=k) (by omega)
  obtain ⟨v9,a8⟩:=X4 (l:=q.cells) (k:=k) (by omega)
  refine Q7<|aJ _ _<|Q5 fun _ aK=>?_;refine Q8<|Zs f fun _ aL=>?_;refine Zm rfl<|Za rfl<|ZX aL fun a f _ aM=>?_;refine X04 none (fun _=>false) mixed ?_;intro w4 C;have i:=i.bw C;have m:=m.bw C;have x:=btr x C;refine Yb f<|Yo 0 rfl (fun _=>Vd rfl X3v 2)<|Ye 1 rfl (X0 rfl X7v (i.at 2))<|Yo 2 rfl (fun _=>X3 rfl)<|Yi (k:=k) (u:=o) (enc:=encD) (l:=p.cells) 3 rfl tv0 rfl rfl X6k X5b X9h (aD.bx x) A rfl ?_;intro aZ aA;refine Ye 4 rfl (X03 (l:=[vi o.num.a,vi o.num.b,vi o.num.c,vi o.num.d,vi o.exp]) rfl X4n aA rfl)<|Yo 5 rfl (fun _=>Vd rfl X3v 2)<|Ye 6 rfl (X0 rfl X7v (m.at 2))<|Yo 7 rfl (fun _=>X3 rfl)<|Yi (k:=k) (u:=v9) (enc:=encD) (l:=q.cells) 8 rfl tv0 rfl rfl X6k X5b X9h (aE.bx x) a8 rfl ?_;intro b0 aB;refine Ye 9 rfl (X03 (l:=[vi v9.num.a,vi v9.num.b,vi v9.num.c,vi v9.num.d,vi v9.exp]) rfl X4n aB rfl)<|Yo 10 rfl (fun _=>Xcb rfl rfl Xv9 (fun w=>eqD 9997 o v9 w)) ?_;refine Yd fun a f=>?_;refine aM _ _ ?_
  refine Xi f rfl (fun t=>?_) (fun t=>?_)
  ·have aC:=t
   have y:(decide (p.rows=q.rows)&&decide (p.cols=q.cols)&&decide (p.cells=q.cells))=false:=Xkh A a8 (by simpa using t)
   refine Zs f fun _ aN=>?_;refine Za rfl<|Zt aN fun a f=>?_;refine Q6<|Xw<|X8<|X8 ?_;refine Xw<|X8<|X6 f (Xp f rfl rfl) ?_;exact ⟨by rw [y],x⟩
  have aC:=t
  have aV:o=v9:=by simpa using t
  refine Q7<|Xa<|aK _ _<|Zr f ?_;refine Ze (Xs rfl rfl (by omega) (by omega))<|Zm rfl ?_;refine Zn fun a f=>?_;refine Xc ?_;exact ⟨k+1,⟨f.sb,(by omega),(Xrt h A a8 aV),i,m,x⟩,(by omega)⟩
 have a7:=j;have j:=Q1 j;refine Q9<|Xk<|Xk<|X02 ?_;refine aG _ _<|Zs f fun _ aO=>?_;refine Za rfl<|Zt aO fun a f=>?_
 refine Q6 (X6 f (Xp f rfl rfl) ?_)
 have he:p.cells=q.cells:=by rw [Qi (by omega),Qi (by omega)] at h;exact h
 exact ⟨by simp [e1,e2,he],x⟩
theorem Y4k(e:World)(Al:Option Addr)(cl:Nat)(l:List Int)(aB:Rd e e.heap.size 3 encI Al l)(x:Int)(aO:l.length<=2305843009213693951) : Ret Tryz.prog 145 [.slice Al l.length cl,vi x] e (fun v w=>∃ i:Int,v=vi i/\decide (0<=i)=(l.any fun y=>x==y)/\Below e.heap.size e w):=by
 refine enter Tryz.func145 rfl 19 rfl rfl ?_;intro a b
 have hW:=bz e
 refine Zs b fun _ aH=>?_;refine Za rfl<|ZX aH fun a b _ aI=>?_;refine Zs b fun _ aJ=>?_;refine Zm rfl<|Ze (X09 rfl Xj)<|Zm rfl<|Zt aJ fun a b=>?_;refine Q8<|X01 (σ:=Nat) (fun (k:Nat) (a:Act) (w:World)=>Fr a 19 [(0,.slice Al l.length cl),(1,vi x),(7,vi (l.length:Int)),(8,vi (k:Int))]/\(k<=l.length)/\((l.take k).all (fun y=>!(x==y))=true)/\Below e.heap.size e w) (fun (k:Nat)=>l.length+1-k) 0 ?_ ?_
 ·exact ⟨b.sb,(Qf _),(by simp),hW⟩
 rintro k a w1 ⟨b,hk,f,hW⟩;refine Zs b fun _ aK=>?_;refine Ze (X0n rfl rfl)<|ZX aK fun a b _ aL=>?_
 refine Xi b rfl (fun d=>?_) (fun d=>?_)
 ·have aC:=d;have d:=Q2 d
  obtain ⟨u8,a6⟩:=X4 (l:=l) (k:=k) (by omega)
  refine Q7<|aL _ _<|Q5 fun _ aM=>?_;refine Q8<|Zs b fun _ aD=>?_;refine Zm rfl<|Za rfl<|Zx aD fun a b _ aE=>?_;refine Zm rfl<|Zm rfl<|Zm rfl<|Zi (k:=k) (u:=u8) (enc:=encI) (l:=l) tv0 rfl rfl Xj X0b Xd (aB.bx hW) a6 rfl ?_;intro aP a7;refine Ze (X0 rfl X9 a7)<|Ze (X0k rfl rfl)<|Zt aE fun a b=>?_
  refine Xi b rfl (fun c=>?_) (fun c=>?_)
  ·have a8:=c
   have aA:l.any (fun y=>x==y)=true:=X91 a6 c
   refine Zs b fun _ aF=>?_;refine Zm rfl<|Za rfl<|Zt aF fun a b=>?_;refine Q6<|Xw<|X8<|X8 ?_;refine Xw<|X8<|X6 b (Xp b rfl rfl) ?_;exact ⟨_,rfl,by rw [aA];simp,hW⟩
  have a8:=c
  have aN:(!(x==u8))=true:=by rw [c];rfl
  refine Q7<|Xa<|aM _ _<|Zr b ?_;refine Ze (Xs rfl rfl (by omega) (by omega))<|Zm rfl ?_;refine Zn fun a b=>?_;refine Xc ?_;exact ⟨k+1,⟨b.sb,(by omega),(X5c f a6 aN),hW⟩,(by omega)⟩
 have aC:=d;have d:=Q1 d;refine Q9<|Xk<|Xk<|X02 ?_;refine aI _ _<|Zs b fun _ aG=>?_;refine Za rfl<|Zt aG fun a b=>?_
 refine Q6 (X6 b (Xp b rfl rfl) ?_)
 have aA:l.any (fun y=>x==y)=false:=X7u (X5w f (by omega))
 exact ⟨_,rfl,by rw [aA];rfl,hW⟩
theorem Xkb(w0:World)(Al:Option Addr)(cl:Nat)(l:List Int)(a6:Rd w0 w0.heap.size 3 encI Al l)(x:Int)(a7:l.length<=2305843009213693951) : Ret Tryz.prog 95 [.slice Al l.length cl,vi x] w0 (fun v w=>v=.bool (l.any fun y=>x==y)/\Below w0.heap.size w0 w):=by
 refine enter Tryz.func95 rfl 9 rfl rfl ?_;intro a hf
 have hW:=bz w0
 refine Zs hf fun _ a8=>?_;refine Za rfl<|Zx a8 fun a hf _ aA=>?_;refine Zm rfl<|Zm rfl<|Zf (Vc (Y4k _ Al cl l (a6.bx hW).top x a7) Xxl) ?_;rintro _ w1 ⟨ix,rfl,aB,hE⟩;have hW:=btr hW hE;refine Ze (X5h rfl rfl)<|Za rfl<|Zt aA fun a hf=>?_
 refine Q6 (X6 hf (Xp hf rfl rfl) ?_)
 exact ⟨by rw [<- aB],hW⟩
theorem Y48(e:World)(Al:Option Addr)(cl:Nat)(l:List Int)(aB:Rd e e.heap.size 3 encI Al l)(kq:FuncId)(pq:List Value)(Fq:FuncF Tryz.prog kq)(q:Int->Bool)(hq:∀ x w,Below e.heap.size e w->Ret Tryz.prog kq ([vi x]++pq) w (fun v w'=>v=.bool (q x)/\Below w.heap.size w w'))(aO:l.length<=2305843009213693951) : Ret Tryz.prog 253 [.slice Al l.length cl,.func (.func kq) #[] pq.toArray] e (fun v w=>∃ i:Int,v=vi i/\decide (0<=i)=l.any q/\Below e.heap.size e w):=by
 refine enter Tryz.func253 rfl 19 rfl rfl ?_;intro a b
 have f:=bz e
 refine Zs b fun _ aH=>?_;refine Za rfl<|ZX aH fun a b _ aI=>?_;refine Zs b fun _ aJ=>?_;refine Zm rfl<|Ze (X09 rfl Xj)<|Zm rfl<|Zt aJ fun a b=>?_;refine Q8<|X01 (σ:=Nat) (fun (k:Nat) (a:Act) (w:World)=>Fr a 19 [(0,.slice Al l.length cl),(1,.func (.func kq) #[] pq.toArray),(7,vi (l.length:Int)),(8,vi (k:Int))]/\(k<=l.length)/\((l.take k).all (fun x=>!q x)=true)/\Below e.heap.size e w) (fun (k:Nat)=>l.length+1-k) 0 ?_ ?_
 ·exact ⟨b.sb,(Qf _),(by simp),f⟩
 rintro k a w1 ⟨b,hk,g,f⟩;refine Zs b fun _ aK=>?_;refine Ze (X0n rfl rfl)<|ZX aK fun a b _ aL=>?_
 refine Xi b rfl (fun d=>?_) (fun d=>?_)
 ·have aC:=d;have d:=Q2 d
  obtain ⟨u8,a6⟩:=X4 (l:=l) (k:=k) (by omega)
  refine Q7<|aL _ _<|Q5 fun _ aM=>?_;refine Q8<|Zs b fun _ aD=>?_;refine Zm rfl<|Za rfl<|Zx aD fun a b _ aE=>?_;refine Zm rfl<|Zm rfl<|Zm rfl<|Zi (k:=k) (u:=u8) (enc:=encI) (l:=l) tv0 rfl rfl Xj X0b Xd (aB.bx f) a6 rfl ?_;intro aP a7;refine Ze (X0 rfl X9 a7)<|Zf (X7o (cs:=pq) (vs:=[vi u8]) rfl rfl Fq (hq u8 _ f)) ?_;rintro _ w2 ⟨rfl,hE⟩;have f:=btr f hE;refine Zt aE fun a b=>?_
  refine Xi b rfl (fun c=>?_) (fun c=>?_)
  ·have a8:=c
   have aA:l.any q=true:=X91 a6 c
   refine Zs b fun _ aF=>?_;refine Zm rfl<|Za rfl<|Zt aF fun a b=>?_;refine Q6<|Xw<|X8<|X8 ?_;refine Xw<|X8<|X6 b (Xp b rfl rfl) ?_;exact ⟨_,rfl,by rw [aA];simp,f⟩
  have a8:=c
  have aN:(!q u8)=true:=by revert c;cases q u8<;>simp
  refine Q7<|Xa<|aM _ _<|Zr b ?_;refine Ze (Xs rfl rfl (by omega) (by omega))<|Zm rfl ?_;refine Zn fun a b=>?_;refine Xc ?_;exact ⟨k+1,⟨b.sb,(by omega),(X5c g a6 aN),f⟩,(by omega)⟩
 have aC:=d;have d:=Q1 d;refine Q9<|Xk<|Xk<|X02 ?_;refine aI _ _<|Zs b fun _ aG=>?_;refine Za rfl<|Zt aG fun a b=>?_
 refine Q6 (X6 b (Xp b rfl rfl) ?_)
 have aA:l.any q=false:=X7u (X5w g (by omega))
 exact ⟨_,rfl,by rw [aA];rfl,f⟩
theorem Y5o(b:World)(Al:Option Addr)(cl:Nat)(l:List Int)(a6:Rd b b.heap.size 3 encI Al l)(kq:FuncId)(pq:List Value)(Fq:FuncF Tryz.prog kq)(q:Int->Bool)(hq:∀ x w,Below b.heap.size b w->Ret Tryz.prog kq ([vi x]++pq) w (fun v w'=>v=.bool (q x)/\Below w.heap.size w w'))(a7:l.length<=2305843009213693951) : Ret Tryz.prog 226 [.slice Al l.length cl,.func (.func kq) #[] pq.toArray] b (fun v w=>v=.bool (l.any q)/\Below b.heap.size b w):=by
 refine enter Tryz.func226 rfl 9 rfl rfl ?_;intro a hf
 have hW:=bz b
 refine Zs hf fun _ a8=>?_;refine Za rfl<|Zx a8 fun a hf _ aA=>?_;refine Zm rfl<|Zm rfl<|Zf (Vc (Y48 _ Al cl l (a6.bx hW).top kq pq Fq q (fun x w' hE'=>hq x w' (hW.trans (hE'.mono hW.size))) a7) Xl1) ?_;rintro _ w1 ⟨ix,rfl,aB,hE⟩;have hW:=btr hW hE;refine Ze (X5h rfl rfl)<|Za rfl<|Zt aA fun a hf=>?_
 refine Q6 (X6 hf (Xp hf rfl rfl) ?_)
 exact ⟨by rw [<- aB],hW⟩
section
end
section
end
section
end
section
end
section
end
theorem one_mul{a b:Int}(ha:-1<=a/\a<=1)(hb:-1<=b/\b<=1) : -1<=a*b/\a*b<=1:=by
 have:a = -1∨a=0∨a=1:=by omega
 rcases this with rfl|rfl|rfl<;>omega
theorem w4:∀ p q r s:Int,(-1<=p/\p<=1)->(-1<=q/\q<=1)->(-1<=r/\r<=1)->(-1<=s/\s<=1)->(-4<=wr (wr (wr (wr p-wr q)-wr r)-wr s)/\wr (wr (wr (wr p-wr q)-wr r)-wr s)<=4)/\(-4<=wr (wr (wr (wr p+wr q)-wr r)-wr s)/\wr (wr (wr (wr p+wr q)-wr r)-wr s)<=4)/\(-4<=wr (wr (wr (wr p+wr q)+wr r)-wr s)/\wr (wr (wr (wr p+wr q)+wr r)-wr s)<=4)/\(-4<=wr (wr (wr (wr p+wr q)+wr r)+wr s)/\wr (wr (wr (wr p+wr q)+wr r)+wr s)<=4):=fun p q r s hp hq hr hs=>by
 have a1:wr p=p:=X1q (by omega) (by omega)
 have a2:wr q=q:=X1q (by omega) (by omega)
 have a3:wr r=r:=X1q (by omega) (by omega)
 have a4:wr s=s:=X1q (by omega) (by omega)
 have b1:wr (p-q)=p-q:=X1q (by omega) (by omega)
 have b2:wr (p+q)=p+q:=X1q (by omega) (by omega)
 have c1:wr (p-q-r)=p-q-r:=X1q (by omega) (by omega)
 have c2:wr (p+q-r)=p+q-r:=X1q (by omega) (by omega)
 have c3:wr (p+q+r)=p+q+r:=X1q (by omega) (by omega)
 have d1:wr (p-q-r-s)=p-q-r-s:=X1q (by omega) (by omega)
 have d2:wr (p+q-r-s)=p+q-r-s:=X1q (by omega) (by omega)
 have d3:wr (p+q+r-s)=p+q+r-s:=X1q (by omega) (by omega)
 have d4:wr (p+q+r+s)=p+q+r+s:=X1q (by omega) (by omega)
 rw [a1,a2,a3,a4,b1,b2,c1,c2,c3,d1,d2,d3,d4]
 refine ⟨⟨?_,?_⟩,⟨?_,?_⟩,⟨?_,?_⟩,?_,?_⟩<;>omega
theorem Xnr{α:Type}{l:List α}{i:Nat}(d:α)(h:i<l.length) : l[i]? = some (l.getD i d):=by
 rw [Qa,Qc h];rfl
def cvt(g:Gt)(x:Int) : Int:=if g.k=12 then 0 else if x=0 then -1 else x
def conv:List Gt->List Int->List Int
 | g::gs,x::xs=>cvt g x::conv gs xs
 | _,_=>[]
def encB(b:Bool) : List Value:=[.bool b]
theorem X2a:∀ x,(encB x).length=1:=fun _=>rfl
def i64(x:Int) : Prop:=-9223372036854775808<=x/\x<=9223372036854775807
section
variable (E : Int -> Int -> Bool) (N : List Int -> Gt -> Bool) (R : List Bool -> Int -> Bool) (gs : List Gt)
end
theorem z_4:ZeroT Tryz.prog 4 (.bool false):=X21 (by kernel_rfl)
section
variable {P : Program} {a : Act} {w : World} {n : Nat} {e : Env} {ty : TypeId} {pos : String} {af : Array Edge} {g : Option (Nat × Bool)} {d : Option Tmp}
theorem Xx1{x y:Operand}{i j:Int}{ts:Array TypeId}(hf:Fr a n e)(hx:ev e x=some (.int .i64 i))(hy:ev e y=some (.int .i64 j)) : Ev P ⟨d,.call ⟨.builtin .min,#[x,y],ts⟩,ty,pos,af,g⟩ a w (.int .i64 (min i j)):=fun w' _=>by
 simp [execOp,resolve,invoke,builtin,Builtin.min_,Builtin.min2,hf.ev hx,hf.ev hy,Int.min_def]
 split<;>simp<;>omega
theorem Xw9{x y:Operand}{i j:Int}{ts:Array TypeId}(hx:ev e x=some (.int .i64 i))(hy:ev e y=some (.int .i64 j)) : EvW P ⟨d,.call ⟨.builtin .min,#[x,y],ts⟩,ty,pos,af,g⟩ n e w (.int .i64 (min i j)):=fun a hf=>Xx1 hf hx hy
end
theorem Y5h(w0:World)(A:Option Addr)(c:Nat)(l:List Int)(hr:Rd w0 w0.heap.size 3 encI A l)(hln:l.length<=1000000000) :
  Ret Tryz.prog 229 [.slice A l.length c] w0 (fun v w=>∃ A' c',v=.slice A' l.length c'/\Own w w0.heap.size 3 1 encI A' c' l/\Below w0.heap.size w0 w):=by
 by_cases h0:l=[]
 ·subst h0
  cases A with
  | none=>
   refine Calls.mono (Tryz.slices_Clone_int_nil 0 c w0) fun e w ⟨e1,e2⟩=>⟨_,e1,none,0,rfl,?_⟩
   subst e2
   exact ⟨Own.nil _ _ _ _ _,Below.refl _ _⟩
  | some p=>
   refine Calls.mono (Tryz.slices_Clone_int_zero p c w0) fun e w ⟨v,e1,e2,e3,e4⟩=>⟨_,e1,?_⟩
   rcases e2.2 with ⟨h1,_⟩|⟨g,cap,cur,h1,h2⟩
   ·exact absurd h1 e3
   ·exact ⟨_,_,h1,by rw [h1] at e2;exact e2,e4⟩
 ·obtain ⟨b,off,cs,fz,h1,h2,h3,h4⟩:=hr h0
  subst h1
  refine Calls.mono (Tryz.slices_Clone_int b off l.length c l w0 (Qb _) (by omega) fun j hj=>?_) fun e w ⟨v,e1,e2,e3,e4⟩=>⟨_,e1,?_⟩
  ·have h5:=h4 j (.int .i64 (l.getD j 0)) (by rw [X5r,List.getElem?_map,Xnr 0 hj];rfl)
   simpa [World.cell?,h3] using h5
  ·rw [List.take_length,<- X5r] at e2
   rcases e2.2 with ⟨h1,_⟩|⟨g,cap,cur,h1,h2⟩
   ·exact absurd h1 e3
   ·exact ⟨_,_,h1,by rw [h1] at e2;exact e2,e4⟩
end Go.Proofs.YtpifljegadknkaaGreat
namespace Go.Proofs.YtpifljegadknkaaGreat
def ltK(key:Int->Int)(i k:Int) : Prop:=key i<key k∨(key i=key k/\i<k)
theorem ltK.trans{key:Int->Int}{i j k:Int}(h:ltK key i j)(h2:ltK key j k) : ltK key i k:=by unfold ltK at *;omega
def Srt(key:Int->Int)(l:List Int) : Prop:=l.Pairwise (ltK key)
theorem X8s{l1 l2:List Int}{k:Nat}(h:k<l1.length) : (l1++l2).getD k 0=l1.getD k 0:=by
 simp only [Qa];rw [List.getElem?_append_left h]
theorem X6i{l1 l2:List Int}{k:Nat}(h:l1.length<=k) : (l1++l2).getD k 0=l2.getD (k-l1.length) 0:=by
 simp only [Qa];rw [W5 h]
theorem Xlc{l:List Int}{k:Nat}(h:k<l.length) : l.getD k 0 ∈ l:=by
 rw [Qa,Qc h];exact List.getElem_mem h
instance (key:Int->Int) (i k:Int) : Decidable (ltK key i k):=by unfold ltK;infer_instance
end Go.Proofs.YtpifljegadknkaaGreat
namespace Go.Proofs.YtpifljegadknkaaGreat
open Go.RowKit
section
variable {P : Program} {a : Act} {w w' : World} {n : Nat} {e : Env} {ty : TypeId} {pos : String} {af : Array Edge} {g : Option (Nat × Bool)} {d : Option Tmp} {s t t' : TypeId} {x y : Operand} {i j : Int}
theorem Xvg(m:Nat)(hm:m<=9223372036854775807) : IntKind.u64.wrap (m:Int)=(m:Int):=by
 simp only [IntKind.wrap]
 simp only [IntKind.bits,IntKind.signed,Bool.false_and,Bool.false_eq_true,if_false]
 omega
theorem Xr3{m:Nat}(hs:P.underlying s=some (.int .i64))(ht:P.underlying t=some (.int .u64))(hf:Fr a n e)(hx:ev e x=some (.int .i64 i))(hi:i=(m:Int))(hm:m<=9223372036854775807) :
  Ev P ⟨d,.convert s t x,ty,pos,af,g⟩ a w (.int .u64 (m:Int)):=fun w' _=>by
 subst hi
 simp [execOp,hf.ev hx,convert,X0g hs,X0g ht,Conv.intToInt,Xvg m hm]
theorem Xka{m:Nat}(hs:P.underlying s=some (.int .i64))(ht:P.underlying t=some (.int .u64))(hx:ev e x=some (.int .i64 i))(hi:i=(m:Int))(hm:m<=9223372036854775807) : EvW P ⟨d,.convert s t x,ty,pos,af,g⟩ n e w (.int .u64 (m:Int)):=fun a hf=>Xr3 hs ht hf hx hi hm
end
section
variable {U V W : List Int} {x y : Int} {p q : Nat}
end
section
variable {key : Int -> Int} {cf : Int -> Int -> Int} {P L R Q : List Int} {n : Int} {a m b : Nat}
def In(n:Int)(l:List Int) : Prop:=∀ x ∈ l,0<=x/\x<n
theorem In.get{l:List Int}(h:In n l){k:Nat}(hk:k<l.length) : 0<=l.getD k 0/\l.getD k 0<n:=h _ (Xlc hk)
theorem Y0s{k:Nat}(ha:P.length=a)(h1:a<=k)(h2:k<a+L.length) : (P++(L++(R++Q))).getD k 0=L.getD (k-a) 0:=by
 rw [X6i (by omega),X8s (by omega),ha]
theorem Y2n{k:Nat}(ha:P.length=a)(hm:a+L.length=m)(h1:m<=k)(h2:k<m+R.length) : (P++(L++(R++Q))).getD k 0=R.getD (k-m) 0:=by
 rw [X6i (by omega),X6i (by omega),X8s (by omega)]
 congr 1;omega
structure Two (key:Int->Int) (P L R:List Int) (a m b:Nat) (n:Int) : Prop where
 ha:P.length=a
 hm:a+L.length=m
 hb:m+R.length=b
 hL:Srt key L
 hR:Srt key R
 lt:∀ x ∈ L,∀ y ∈ R,x<y
 iL:In n L
 iR:In n R
variable (h : Two key P L R a m b n)
include h
theorem Two.inl{k:Nat}(h1:a<=k)(h2:k<m) : 0<=(P++(L++(R++Q))).getD k 0/\(P++(L++(R++Q))).getD k 0<n:=by
 have:=h.hm;rw [Y0s h.ha h1 (by omega)];exact h.iL.get (by omega)
theorem Two.inr{k:Nat}(h1:m<=k)(h2:k<b) : 0<=(P++(L++(R++Q))).getD k 0/\(P++(L++(R++Q))).getD k 0<n:=by
 have:=h.hb;rw [Y2n h.ha h.hm h1 (by omega)];exact h.iR.get (by omega)
end
theorem Y4q(d:World)(Al:Option Addr)(cl:Nat)(l:List Int)(e:Rd d d.heap.size 3 encI Al l)(aE:l.length<=1000000000) : Ret Tryz.prog 215 [.slice Al l.length cl] d (fun v w=>∃ A c,v=.slice A l.length c/\Own w d.heap.size 3 1 encI A c l/\Below d.heap.size d w):=by
 refine enter Tryz.func215 rfl 6 rfl rfl ?_;intro a hf
 have b:=bz d
 refine Zs hf fun _ aB=>?_;refine Za rfl<|Zx aB fun a hf _ aC=>?_;refine Zf (Xn (k:=0) (vs:=[]) (zs:=[]) rfl Xj X1g rfl rfl) ?_;rintro _ w1 ⟨b5,rfl,a6,hE,a7⟩;have f:=Q0 b.size a6;have aA:=(e.bx b).away a6;have b:=btr b hE;refine Zm rfl<|Zf (X0t (enc:=encI) (l:=([] : List Int)) (l2:=(l)) (B0:=d.heap.size) rfl rfl Xj X1g Xd X1z (Own.empty a7 f) (e.bx b) (by simp only [maxLen,List.length_nil];omega) (by simp only [List.length_nil];omega) b.size) ?_;rintro _ w2 ⟨A7,c7,rfl,a8,hg,aD⟩
 have g:Own _ d.heap.size 3 1 encI _ _ ([] : List Int):=(Own.empty a7 f)
 clear aD;have b:=Below.app b g hg (Qb _) b.size;clear g hg
 simp only [List.nil_append] at a8
 refine Za rfl<|Zt aC fun a hf=>?_
 refine Q6 (X6 hf (Xp hf rfl rfl) ?_)
 exact ⟨A7,c7,rfl,a8,b⟩
end Go.Proofs.YtpifljegadknkaaGreat
namespace Go.Proofs.YtpifljegadknkaaGreat
open Go.RowKit Go.ChangeShapes Go.WideShapes Go.Deep Go.Joins
theorem Xo4{α:Type}{n:Nat}{Q:Nat->α->Prop}(h:∀ i,i<n->∃ g,Q i g) : ∃ l:List α,l.length=n/\∀ i g,l[i]? = some g->Q i g:=by
 induction n with
 | zero=>exact ⟨[],rfl,fun i g h=>by simp at h⟩
 | succ n ih=>
  obtain ⟨l,h1,h2⟩:=ih fun i hi=>h i (by omega)
  obtain ⟨g,hg⟩:=h n (by omega)
  refine ⟨l++[g],by simp [h1],fun i g' hi=>?_⟩
  rcases W4 i n with hin|hin
  ·rw [List.getElem?_append_left (by omega)] at hi
   exact h2 i g' hi
  ·rw [W5 (by omega)] at hi
   have:i-l.length=0:=by
    rcases Nat.eq_zero_or_pos (i-l.length) with h|h
    ·exact h
    ·rw [List.getElem?_eq_none (by simp;omega)] at hi;cases hi
   rw [this] at hi
   injection hi with hi
   subst hi
   have:i=n:=by omega
   subst this
   exact hg
theorem Xcl{α:Type}{w:World}{enc:α->List Value}{sz:Nat}(hsz:∀ x,(enc x).length=sz)(h0:0<sz){p:Addr}{l:List α}
  (h:∀ i g,l[i]? = some g->∀ j v,(enc g)[j]? = some v->w.cell? (p.add (i*sz+j))=some v) : ∃ E,Rd w w.heap.size E enc (some p) l:=by
 by_cases hl:l=[]
 ·subst hl;exact ⟨0,Rd.nil _ _ _ _ _⟩
 ·obtain ⟨g0,l',rfl⟩:=List.exists_cons_of_ne_nil hl
  obtain ⟨v0,hv0⟩ : ∃ v,(enc g0)[0]? = some v:=⟨_,Qc (by rw [hsz];exact h0)⟩
  have hc:=h 0 g0 rfl 0 v0 hv0;obtain ⟨b,off,spot⟩:=p;have hb:=Xfs hc
  rw [X6h] at hb
  have hsp:spot=none:=by
   cases spot with
   | none=>rfl
   | some s=>simp [World.cell?,Addr.add] at hc;split at hc<;>simp_all
  subst hsp
  have hobj:∃ cs E fz,w.heap[b]? = some (.cells cs E fz):=by
   rw [X1s] at hc
   simp only [World.cell?] at hc
   split at hc
   ·rename_i c E fz hh;exact ⟨c,E,fz,hh⟩
   ·cases hc
  obtain ⟨cs,E,fz,hh⟩:=hobj
  refine ⟨E,fun _=>⟨b,off,cs,fz,rfl,hb,hh,fun j v hj=>?_⟩⟩
  have hjl:j<((g0::l').flatMap enc).length:=(Qg.1 hj).1
  rw [Xu hsz] at hjl
  obtain ⟨x,hx,h1⟩:=X58 hsz hjl
  rw [h1] at hj
  have:=h _ _ hx _ _ hj
  rw [X1s,show j/sz*sz+j % sz=j from by rw [Wi];exact Nat.div_add_mod j sz] at this
  simpa [World.cell?,hh] using this
section
variable {H : Type} {enc : TypeId × Value -> H} {w : World} {base fuel : Nat} {spare : Nat -> Bool} {held : Bool}
end
section
end
section
end
end Go.Proofs.YtpifljegadknkaaGreat
namespace Go.Proofs.YtpifljegadknkaaGreat
open Go.ChangeShapes Go.WideShapes Go.ChangeAt Go.RowKit Go.Deep Go.Joins
set_option linter.unusedVariables false
theorem own:ownKnob Tryz.prog.godebug=none:=by kernel_rfl
theorem Xh6:laidOutB Tryz.prog=true:=by kernel_rfl
section
variable {H : Type} {enc : TypeId × Value -> H} {P : Program}
theorem Xds{f:Func}{s:ChangeSpec}{fresh handsOn:Bool}{W W':World}{args:Array Value}{v:Value}{ds gs:List (DataW H)}{before pa pv:List MemPlace}
  (hW:DataW.Whole enc P f.params.toList s.vars false W args.toList ds gs before)
  (hres:∀ (b:Nat) (sp:Nat->Bool) (hd:Bool),DataW.TrodAll enc P W' b sp hd f.resultTypes.toList (v.resultList f.resultTypes.size) (s.fn H (ds++gs)).results [])
  (hargs:∀ sp:Nat->Bool,(∀ p ∈ before,sp p.block=true)->DataW.TrodAll enc P W' 0 sp true f.params.toList args.toList (s.fn H (ds++gs)).args pa)
  (hvars:∀ sp:Nat->Bool,(∀ p ∈ before,sp p.block=true)->DataW.TrodVars enc P W' sp s.vars (s.fn H (ds++gs)).vars pv)
  (hps:before=pa++pv) (hb:Below W.heap.size W W') :
  s.post enc P f false fresh handsOn false W args v W':=by
 have hlt:∀ p ∈ before,p.block<W.heap.size:=fun p hp=>hW.lt p hp
 have hold:∀ p ∈ before,(fun b=>decide (b<W.heap.size)) p.block=true:=fun p hp=>by simpa using hlt p hp
 refine ⟨ds,gs,before,[],pa,pv,hW,hres _ _ _,hargs _ hold,hvars _ hold,World.keptBut_mono (fun p hp=>⟨hp,?_⟩) (hb.frame (· ∈ before)),fun h=>by cases h⟩
 rw [hps,Qu] at hp
 exact Or.inr hp
end
end Go.Proofs.YtpifljegadknkaaGreat
namespace Go.Proofs.YtpifljegadknkaaGreat
open Go.RowKit
theorem X5m(x:Nat) : BitVec.ofInt 64 (x:Int)=BitVec.ofNat 64 x:=BitVec.ofInt_natCast 64 x
theorem X3x{x:Nat}(h:x<2^62) : (BitVec.ofNat 64 x).toNat=x:=by
 rw [BitVec.toNat_ofNat];exact Nat.mod_eq_of_lt (Nat.lt_of_lt_of_le h (by decide))
theorem X6l{x:Nat}(h:x<2^62) : IntKind.i64.wrap (x:Int)=(x:Int):=by
 rw [show (2:Nat)^62=4611686018427387904 from by decide] at h
 exact IntWalk.i64_in _ ⟨by omega,by omega⟩
theorem Xwl{x y:Nat}(h:x<2^62) : x &&& y<2^62:=Nat.lt_of_le_of_lt Nat.and_le_left h
theorem Xe2{x y:Nat}(hx:x<2^62)(hy:y<2^62) : bits .and .i64 (x:Int) (y:Int)=((x &&& y:Nat) : Int):=by
 show IntKind.i64.wrap ((BitVec.ofInt 64 (x:Int) &&& BitVec.ofInt 64 (y:Int)).toNat:Int)=_
 rw [X5m,X5m,BitVec.toNat_and,X3x hx,X3x hy,X6l (Xwl hx)]
theorem Xia{x y:Nat}(hx:x<2^62)(hy:y<2^62) : bits .or .i64 (x:Int) (y:Int)=((x ||| y:Nat) : Int):=by
 show IntKind.i64.wrap ((BitVec.ofInt 64 (x:Int) ||| BitVec.ofInt 64 (y:Int)).toNat:Int)=_
 rw [X5m,X5m,BitVec.toNat_or,X3x hx,X3x hy,X6l (Nat.or_lt_two_pow hx hy)]
theorem Xua{m:Nat}(h:m<62) : 2^m<2^62:=Nat.pow_lt_pow_right (by decide) h
theorem Xon{m:Nat}(h:m<62) : wr (1*2^m)=((2^m:Nat) : Int):=by
 rw [Int.one_mul,show ((2:Int)^m)=((2^m:Nat) : Int) from by push_cast;rfl]
 exact X6l (Xua h)
def setN(x:Nat) : List Nat:=(List.range 62).filter x.testBit
section
end
section
end
section
end
end Go.Proofs.YtpifljegadknkaaGreat
namespace Go.Proofs.YtpifljegadknkaaGreat
instance:_root_.Add Rg:=⟨fun x y=>⟨x.a+y.a,x.b+y.b,x.c+y.c,x.d+y.d⟩⟩
instance:_root_.Mul Rg:=⟨fun x y=>⟨x.a*y.a-x.b*y.d-x.c*y.c-x.d*y.b,x.a*y.b+x.b*y.a-x.c*y.d-x.d*y.c,x.a*y.c+x.b*y.b+x.c*y.a-x.d*y.d,x.a*y.d+x.b*y.c+x.c*y.b+x.d*y.a⟩⟩
instance:_root_.Neg Rg:=⟨fun x=>⟨-x.a,-x.b,-x.c,-x.d⟩⟩
instance:_root_.Sub Rg:=⟨fun x y=>⟨x.a-y.a,x.b-y.b,x.c-y.c,x.d-y.d⟩⟩
instance:NatCast Rg:=⟨fun n=>⟨n,0,0,0⟩⟩
instance:IntCast Rg:=⟨fun n=>⟨n,0,0,0⟩⟩
instance (n:Nat) : OfNat Rg n:=⟨⟨n,0,0,0⟩⟩
def rgPow(x:Rg) : Nat->Rg
 | 0=>1
 | n+1=>rgPow x n*x
instance:HPow Rg Nat Rg:=⟨rgPow⟩
instance:SMul Nat Rg:=⟨fun n x=>(n:Rg)*x⟩
instance:SMul Int Rg:=⟨fun n x=>(n:Rg)*x⟩
theorem X32{x y:Rg}(h1:x.a=y.a)(h2:x.b=y.b)(h3:x.c=y.c)(h4:x.d=y.d) : x=y:=by
 obtain ⟨x1,x2,x3,x4⟩:=x;obtain ⟨y1,y2,y3,y4⟩:=y
 simp only at h1 h2 h3 h4
 subst h1 h2 h3 h4
 rfl
theorem Xj9(x y:Rg) : (x+y).a=x.a+y.a:=rfl
theorem Xle(x y:Rg) : (x+y).b=x.b+y.b:=rfl
theorem Xml(x y:Rg) : (x+y).c=x.c+y.c:=rfl
theorem Xni(x y:Rg) : (x+y).d=x.d+y.d:=rfl
theorem X8m(x y:Rg) : (x*y).a=x.a*y.a-x.b*y.d-x.c*y.c-x.d*y.b:=rfl
theorem X92(x y:Rg) : (x*y).b=x.a*y.b+x.b*y.a-x.c*y.d-x.d*y.c:=rfl
theorem X96(x y:Rg) : (x*y).c=x.a*y.c+x.b*y.b+x.c*y.a-x.d*y.d:=rfl
theorem X99(x y:Rg) : (x*y).d=x.a*y.d+x.b*y.c+x.c*y.b+x.d*y.a:=rfl
theorem X29(a:Rg) : a+0=a:=X32 (Int.add_zero _) (Int.add_zero _) (Int.add_zero _) (Int.add_zero _)
theorem X25(a:Rg) : a*1=a:=by
 have e1:(1:Rg).a=1:=rfl
 have e2:(1:Rg).b=0:=rfl
 have e3:(1:Rg).c=0:=rfl
 have e4:(1:Rg).d=0:=rfl
 apply X32<;>simp only [X8m,X92,X96,X99,e1,e2,e3,e4]<;>grind
theorem X1t(a:Rg) : 0*a=0:=by
 have e1:(0:Rg).a=0:=rfl
 have e2:(0:Rg).b=0:=rfl
 have e3:(0:Rg).c=0:=rfl
 have e4:(0:Rg).d=0:=rfl
 apply X32<;>simp only [X8m,X92,X96,X99,e1,e2,e3,e4]<;>grind
theorem X17(a b:Rg) : a*b=b*a:=by (apply X32<;>simp only [Xj9,Xle,Xml,Xni,X8m,X92,X96,X99]<;>grind)
theorem X31(a b c:Rg) : a*(b+c)=a*b+a*c:=by (apply X32<;>simp only [Xj9,Xle,Xml,Xni,X8m,X92,X96,X99]<;>grind)
theorem X2m(a b:Rg) : a+b=b+a:=X32 (Int.add_comm _ _) (Int.add_comm _ _) (Int.add_comm _ _) (Int.add_comm _ _)
theorem X1c(a b c:Rg) : a+b+c=a+(b+c):=X32 (Int.add_assoc _ _ _) (Int.add_assoc _ _ _) (Int.add_assoc _ _ _) (Int.add_assoc _ _ _)
theorem Xe(a b c:Rg) : a*b*c=a*(b*c):=by (apply X32<;>simp only [Xj9,Xle,Xml,Xni,X8m,X92,X96,X99]<;>grind)
theorem X05(a:Rg) : 1*a=a:=by rw [X17,X25]
theorem X18(a:Rg) : a*0=0:=by rw [X17,X1t]
theorem X2k(a:Rg) : 0+a=a:=by rw [X2m,X29]
theorem X1u(a b c:Rg) : (a+b)*c=a*c+b*c:=by rw [X17,X31,X17 c a,X17 c b]
theorem Xt(a b c:Rg) : a*(b*c)=b*(a*c):=by rw [<- Xe,<- Xe,X17 a b]
theorem X1a(a b c:Rg) : a+(b+c)=b+(a+c):=by rw [<- X1c,<- X1c,X2m a b]
def s2:Rg:=⟨0,1,0,-1⟩
def om:Rg:=⟨0,1,0,0⟩
theorem Y0a:s2*s2=2:=by decide
theorem om8:om^8=1:=by decide
theorem Xen{x y:Rg}(h:2*x=2*y) : x=y:=by
 have e1:(2:Rg).a=2:=rfl
 have e2:(2:Rg).b=0:=rfl
 have e3:(2:Rg).c=0:=rfl
 have e4:(2:Rg).d=0:=rfl
 have h1:=congrArg Rg.a h;have h2:=congrArg Rg.b h;have h3:=congrArg Rg.c h;have h4:=congrArg Rg.d h
 simp only [X8m,X92,X96,X99,e1,e2,e3,e4] at h1 h2 h3 h4
 apply X32<;>omega
theorem Xig{x y:Rg}(h:s2*x=s2*y) : x=y:=by
 apply Xen
 rw [<- Y0a,Xe,Xe,h]
theorem X46:∀ (m:Nat) {x y:Rg},s2^m*x=s2^m*y->x=y
 | 0,x,y,h=>by
  have e:s2^0=1:=rfl
  rwa [e,X05,X05] at h
 | m+1,x,y,h=>by
  have e:s2^(m+1)=s2^m*s2:=rfl
  rw [e] at h
  refine Xig (X46 m ?_)
  rw [<- Xe,<- Xe]
  exact h
theorem X2t(x:Rg)(m n:Nat) : x^(m+n)=x^m*x^n:=by
 induction n with
 | zero=>show _=_*(1:Rg);rw [X25];rfl
 | succ n ih=>
  have e1:x^(m+(n+1))=x^(m+n)*x:=rfl
  have e2:x^(n+1)=x^n*x:=rfl
  rw [e1,e2,ih]
  exact Xe _ _ _
theorem X67(k:Nat){x y:Rg}(h:om^k*x=om^k*y) : x=y:=by
 have h8:∀ k:Nat,∃ z:Rg,z*om^k=1:=fun k=>by
  induction k with
  | zero=>exact ⟨1,rfl⟩
  | succ k ih=>
   obtain ⟨z,hz⟩:=ih
   refine ⟨z*om^7,?_⟩
   have e2:om^(k+1)=om^k*om:=rfl
   have e3:om^8=om^7*om:=rfl
   rw [e2,show z*om^7*(om^k*om)=(z*om^k)*(om^7*om) by simp only [X1t,X18,X05,X25,X29,X2k,X31,X1u,Xe,Xt,X17,X1c,X1a,X2m],hz,<- e3,om8,X05]
 obtain ⟨z,hz⟩:=h8 k;have h9:=congrArg (z * ·) h
 rwa [<- Xe,<- Xe,hz,X05,X05] at h9
theorem Xqw{x y:Rg}(hx:rOk x=true)(hy:rOk y=true) : rAdd x y=x+y:=by
 have h1:=X4z.1 hx;have h2:=X4z.1 hy
 refine X32 ?_ ?_ ?_ ?_<;>exact X1q (by omega) (by omega)
theorem Xau(x:Rg) : s2*x=⟨x.b-x.d,x.a+x.c,x.b+x.d,x.c-x.a⟩:=by
 have e1:s2.a=0:=rfl
 have e2:s2.b=1:=rfl
 have e3:s2.c=0:=rfl
 have e4:s2.d = -1:=rfl
 refine X32 ?_ ?_ ?_ ?_<;>simp only [X8m,X92,X96,X99,e1,e2,e3,e4]<;>grind
theorem Xcj{x:Rg}(hx:rOk x=true) : rRoot x=s2*x:=by
 have h1:=X4z.1 hx
 rw [Xau]
 refine X32 ?_ ?_ ?_ ?_<;>exact X1q (by omega) (by omega)
theorem Xmo{x:Rg}(hx:rOk x=true)(he:rEven x=true) : s2*rHalf x=x:=by
 have h1:=X4z.1 hx;have h2:=(Xa8 hx).1 he
 have e:=Xcj hx
 rw [Xau] at e
 have hh:rHalf x=⟨(x.b-x.d)/2,(x.a+x.c)/2,(x.b+x.d)/2,(x.c-x.a)/2⟩:=by
  unfold rHalf
  rw [e]
  dsimp only
  rw [Int.tdiv_eq_ediv_of_dvd (by omega),Int.tdiv_eq_ediv_of_dvd (by omega),Int.tdiv_eq_ediv_of_dvd (by omega),Int.tdiv_eq_ediv_of_dvd (by omega)]
  rw [X1q (by omega) (by omega),X1q (by omega) (by omega),X1q (by omega) (by omega),X1q (by omega) (by omega)]
 rw [Xau,hh]
 refine X32 ?_ ?_ ?_ ?_<;>dsimp only<;>omega
theorem Xlg{x y:Rg}(hx:rOk x=true)(h:x=s2*y) : rEven x=true:=by
 rw [Xa8 hx]
 rw [h,Xau]
 dsimp only
 omega
theorem Xmt(x:Rg)(n:Nat) : x^(n+1)=x^n*x:=rfl
theorem Xmn(x:Rg) : x^0=1:=rfl
def V(x:Dy)(m:Nat)(z:Rg) : Prop:=0<=x.exp/\∃ k:Nat,x.exp+k=m/\z=s2^k*x.num
theorem Xsy:∀ (m:Nat) (x:Rg),rOk x=true->V (dLow x m) m x
 | 0,x,h=>by
  rw [X4g (by omega)]
  refine ⟨by dsimp only;omega,0,by dsimp only;omega,?_⟩
  rw [Xmn];exact (X05 _).symm
 | m+1,x,h=>by
  by_cases he:rEven x=true
  ·rw [X7l (by omega) he,show ((m+1:Nat) : Int)-1=(m:Int) from by omega]
   obtain ⟨h0,k,h1,h2⟩:=Xsy m _ (Xd5 h)
   refine ⟨h0,k+1,by omega,?_⟩
   have e:=Xmo h he
   rw [h2] at e
   rw [Xmt]
   refine e.symm.trans ?_
   simp only [X1t,X18,X05,X25,X29,X2k,X31,X1u,Xe,Xt,X17,X1c,X1a,X2m]
  ·have he':rEven x=false:=by simpa using he
   rw [X4g fun _=>he']
   refine ⟨by dsimp only;omega,0,by dsimp only;omega,?_⟩
   rw [Xmn];exact (X05 _).symm
theorem Xxw{x:Rg}{e:Int}(h:rOk x=true)(h0:0<=e) : V (dLow x e) e.toNat x:=by
 obtain ⟨m,rfl⟩ : ∃ m:Nat,e=m:=⟨e.toNat,by omega⟩
 exact Xsy m x h
theorem V.up{x:Dy}{m:Nat}{z:Rg}(h:V x m z)(k:Nat) : V x (m+k) (s2^k*z):=by
 obtain ⟨h0,j,h1,h2⟩:=h
 refine ⟨h0,j+k,by omega,?_⟩
 rw [X2t,h2]
 simp only [X1t,X18,X05,X25,X29,X2k,X31,X1u,Xe,Xt,X17,X1c,X1a,X2m]
theorem V.fun{x:Dy}{m:Nat}{z z':Rg}(h:V x m z)(h':V x m z') : z=z':=by
 obtain ⟨_,k,h1,h2⟩:=h;obtain ⟨_,j,h3,h4⟩:=h'
 obtain rfl:j=k:=by omega
 rw [h2,h4]
theorem Xdg:∀ (n:Nat) (y:Rg),rOk y=true->(raiseI n y).2=true->(raiseI n y).1=s2^n*y/\rOk (raiseI n y).1=true
 | 0,y,h,_=>⟨by rw [Xmn];show y=_;exact (X05 _).symm,h⟩
 | n+1,y,h,h2=>by
  rw [raiseI] at h2 ⊢
  rw [X7p h] at h2 ⊢
  by_cases hr:rOk (rRoot y)=true
  ·rw [Q4 hr] at h2 ⊢
   obtain ⟨e1,e2⟩:=Xdg n _ hr h2
   refine ⟨?_,e2⟩
   rw [e1,Xcj h,Xmt]
   exact (Xe _ _ _).symm
  ·rw [Q3 hr] at h2
   cases h2
theorem Y0m{x y:Dy}{m:Nat}{z:Rg}(hx:dOk x=true)(hy:dOk y=true)(h1:V x m z)(h2:V y m z) : x=y:=by
 have kx:=X5q.1 hx
 have ky:=X5q.1 hy
 obtain ⟨_,j,a1,a2⟩:=h1;obtain ⟨_,l,b1,b2⟩:=h2
 have key:∀ {x y:Dy} {j l:Nat},rOk y.num=true->(y.exp=0∨rEven y.num=false)->0<=x.exp->x.exp+j=m->y.exp+l=m->s2^j*x.num=s2^l*y.num->y.exp<=x.exp:=fun {x y j l} k1 k2 k3 a1 b1 e=>by
  rcases k2 with k2|k2
  ·omega
  ·by_cases hlt:y.exp<=x.exp
   ·exact hlt
   ·exfalso
    obtain ⟨t,ht⟩ : ∃ t,j=l+(t+1):=⟨j-l-1,by omega⟩
    rw [ht,X2t] at e
    have e2:s2^l*(s2^(t+1)*x.num)=s2^l*y.num:=by rw [<- Xe];exact e
    have e3:=X46 l e2
    have e4:y.num=s2*(s2^t*x.num):=by rw [<- e3,Xmt];simp only [X1t,X18,X05,X25,X29,X2k,X31,X1u,Xe,Xt,X17,X1c,X1a,X2m]
    rw [Xlg k1 e4] at k2
    cases k2
 have le1:=key (x:=x) (y:=y) ky.1 ky.2.2 kx.2.1.1 a1 b1 (by rw [<- a2,<- b2])
 have le2:=key (x:=y) (y:=x) kx.1 kx.2.2 ky.2.1.1 b1 a1 (by rw [<- a2,<- b2])
 obtain rfl:j=l:=by omega
 have e:=X46 j (a2.symm.trans b2)
 have e2:x.exp=y.exp:=by omega
 cases x
 cases y
 simp only at e e2
 rw [e,e2]
theorem Xw8(m:Nat) : V dZ m 0:=⟨by decide,m,by show (0:Int)+m=m;omega,by
 show (0:Rg)=s2^m*0
 exact (X18 _).symm⟩
abbrev St:=(Nat->Bool)->Rg
def flipB(β:Nat->Bool)(q:Nat) : Nat->Bool:=fun p=>if p=q then !β p else β p
def u1(k:Int)(x y:Bool) : Rg:=
 if k=1 then (if x&&y then -1 else 1) else if k=2 then (if x=y then 0 else 1) else if k=3 then (if x=y then 0 else if y then om^6 else om^2)
 else if x=y then (if x then om^(turnOf k).toNat else 1) else 0
def act(g:Gt)(v:St) : St:=fun β=>
 if g.k=12 then om*v β
 else if g.k=9 then v (if β g.a.toNat then flipB β g.b.toNat else β)
 else if g.k=10 then (if β g.a.toNat&&β g.b.toNat then om^4 else 1)*v β
 else if g.k=11 then v (if β g.a.toNat=β g.b.toNat then β else flipB (flipB β g.a.toNat) g.b.toNat)
 else u1 g.k (β g.a.toNat) (β g.a.toNat)*v β+u1 g.k (β g.a.toNat) (!β g.a.toNat)*v (flipB β g.a.toNat)
def hN(g:Gt) : Nat:=if g.k=1 then 1 else 0
def run:List Gt->St->St
 | [],v=>v
 | g::l,v=>run l (act g v)
def hs:List Gt->Nat
 | []=>0
 | g::l=>hN g+hs l
def sumN(f:Nat->Rg) : Nat->Rg
 | 0=>0
 | n+1=>sumN f n+f n
def pt(N:Nat)(i:Nat) : Nat->Bool:=fun q=>decide (q<N)&&(bitT (N-1-q) i==1)
theorem Xey{g:Nat->Option Dy} : ∀ {n:Nat} {l:List Dy},seqO g n=some l->∀ k,k<n->g k=some (l.getD k dZ)
 | 0,l,_,k,hk=>by omega
 | n+1,l,h,k,hk=>by
  simp only [seqO] at h
  split at h
  ·rename_i l' x h1 h2
   injection h with h
   subst h
   have hl:=X9b h1
   by_cases e:k=n
   ·subst e
    rw [h2,Qa,W5 (by omega),hl,Nat.sub_self]
    rfl
   ·rw [Xey h1 k (by omega),Qa,Qa,List.getElem?_append_left (by omega)]
  ·cases h
theorem X8v{R C:Int}{f:Nat->Nat->Option Dy}{M:Mx}(h:matOf R C f=some M) : (∀ i j,i<R.toNat->j<C.toNat->f i j=some (M.at i j))/\M.rows=R/\M.cols=C/\M.cells.length=R.toNat*C.toNat:=by
 unfold matOf at h
 split at h
 ·cases hs:seqO (gridG f C.toNat) (R.toNat*C.toNat) with
  | none=>rw [hs] at h;cases h
  | some l=>
   rw [hs] at h
   injection h with h
   subst h
   refine ⟨fun i j hi hj=>?_,rfl,rfl,X9b hs⟩
   have:=Xey hs (i*C.toNat+j) (Xnv hi hj)
   rw [Xmy hj] at this
   exact this
 ·cases h
def eb(N j:Nat) : St:=fun β=>if ∀ q,q<N->β q=pt N j q then 1 else 0
def put(N j:Nat)(β:Nat->Bool) : Nat->Bool:=fun q=>if q<N then pt N j q else β q
def inj(us:List Int)(β γ:Nat->Bool) : Nat->Bool:=fun p=>if (p:Int) ∈ us then γ (lastN us p us.length).toNat else β p
theorem Xhv(k:Nat) : om^k=om^(k % 8):=by
 have h:∀ m:Nat,om^(8*m)=1:=fun m=>by
  induction m with
  | zero=>rfl
  | succ m ih=>rw [Nat.mul_succ,X2t,ih,om8];rfl
 have:=X2t om (8*(k/8)) (k % 8)
 rw [Nat.div_add_mod,h] at this
 rw [this]
 exact X05 _
end Go.Proofs.YtpifljegadknkaaGreat
namespace Go.Proofs.YtpifljegadknkaaGreat
open Go.RowKit
def encU(i:Int) : List Value:=[.int .u8 i]
theorem Xdn:∀ x,(encU x).length=1:=fun _=>rfl
abbrev wu(i:Int) : Int:=IntKind.u64.wrap i
theorem X7x(i:Int) : 0<=bits .and .u64 i 255/\bits .and .u64 i 255<=255:=by
 have key:∀ b:BitVec 64,0<=IntKind.u64.wrap ((b &&& BitVec.ofInt 64 255).toNat:Int)/\IntKind.u64.wrap ((b &&& BitVec.ofInt 64 255).toNat:Int)<=255:=fun b=>by
  have h1:(BitVec.ofInt 64 255).toNat=255:=by decide
  have h:(b &&& BitVec.ofInt 64 255).toNat<=255:=by
   rw [BitVec.toNat_and,h1]
   exact Nat.and_le_right
  have h2:IntKind.u64.wrap ((b &&& BitVec.ofInt 64 255).toNat:Int)=((b &&& BitVec.ofInt 64 255).toNat:Int):=by
   generalize (b &&& BitVec.ofInt 64 255).toNat=m at h
   simp only [IntKind.wrap,IntKind.bits,IntKind.signed]
   simp
   omega
  rw [h2]
  omega
 exact key _
theorem Xhh(i:Int) : 0<=bits .and .u64 i 255/\bits .and .u64 i 255<=9223372036854775807:=⟨(X7x i).1,Int.le_trans (X7x i).2 (by decide)⟩
theorem pk{x n:Int}(hx:0<=x)(hn:1<n) : 0<=x.tmod n/\(x.tmod n=0∨x.tmod n<n):=⟨Int.tmod_nonneg _ hx,.inr (Int.tmod_lt_of_pos _ (by omega))⟩
theorem X9a{l:List Int}{k:Nat}(h:k<l.length) : l[k]? = some (l.getD k 0):=by
 rw [Qa,Qc h];rfl
theorem Xa4{l:List Int}{k:Nat}(h:k<l.length) : l.getD k 0 ∈ l:=Qe (X9a h)
section
variable {P : Program} {a : Act} {w : World} {n : Nat} {e : Env} {ty : TypeId} {pos : String} {af : Array Edge} {g : Option (Nat × Bool)} {d : Option Tmp}
variable {s t t' : TypeId} {x y : Operand} {i j : Int}
theorem Xqz(hf:Fr a n e)(hx:ev e x=some (.int .u64 i))(hy:ev e y=some (.int .u64 j)) : Ev P ⟨d,.binOp .mul t x y t',ty,pos,af,g⟩ a w (.int .u64 (wu (i*j))):=fun w' _=>by
 simp [execOp,hf.ev hx,hf.ev hy,eqGuard,binOp,Op.intArith]
theorem Xt0(hx:ev e x=some (.int .u64 i))(hy:ev e y=some (.int .u64 j)) : EvW P ⟨d,.binOp .mul t x y t',ty,pos,af,g⟩ n e w (.int .u64 (wu (i*j))):=fun a hf=>Xqz hf hx hy
theorem Xog(hf:Fr a n e)(hx:ev e x=some (.int .u64 i))(hy:ev e y=some (.int .u64 j)) : Ev P ⟨d,.binOp .add t x y t',ty,pos,af,g⟩ a w (.int .u64 (wu (i+j))):=fun w' _=>by
 simp [execOp,hf.ev hx,hf.ev hy,eqGuard,binOp,Op.intArith]
theorem Xfg(hx:ev e x=some (.int .u64 i))(hy:ev e y=some (.int .u64 j)) : EvW P ⟨d,.binOp .add t x y t',ty,pos,af,g⟩ n e w (.int .u64 (wu (i+j))):=fun a hf=>Xog hf hx hy
theorem Xre(hf:Fr a n e)(hx:ev e x=some (.int .u64 i))(hy:ev e y=some (.int .u64 j)) : Ev P ⟨d,.binOp .and t x y t',ty,pos,af,g⟩ a w (.int .u64 (bits .and .u64 i j)):=fun w' _=>by
 simp [execOp,hf.ev hx,hf.ev hy,eqGuard,binOp,Op.intBits,bits]
theorem Xtw(hx:ev e x=some (.int .u64 i))(hy:ev e y=some (.int .u64 j)) : EvW P ⟨d,.binOp .and t x y t',ty,pos,af,g⟩ n e w (.int .u64 (bits .and .u64 i j)):=fun a hf=>Xre hf hx hy
theorem Xrg{m:Nat}(hf:Fr a n e)(hx:ev e x=some (.int .u64 i))(hy:ev e y=some (.int .u64 j))(hj:j=(m:Int))(hm:m<=64) : Ev P ⟨d,.binOp .shr t x y t',ty,pos,af,g⟩ a w (.int .u64 (i/2^m)):=fun w' _=>by
 subst hj
 have hm':min m 64=m:=by omega
 simp [execOp,hf.ev hx,hf.ev hy,eqGuard,binOp,Op.shift,IntKind.bits,hm']
theorem Xt4{m:Nat}(hx:ev e x=some (.int .u64 i))(hy:ev e y=some (.int .u64 j))(hj:j=(m:Int))(hm:m<=64) : EvW P ⟨d,.binOp .shr t x y t',ty,pos,af,g⟩ n e w (.int .u64 (i/2^m)):=fun a hf=>Xrg hf hx hy hj hm
theorem Xxt(hs:P.underlying s=some (.int .i64))(ht:P.underlying t=some (.int .u64))(hf:Fr a n e)(hx:ev e x=some (.int .i64 i)) : Ev P ⟨d,.convert s t x,ty,pos,af,g⟩ a w (.int .u64 (wu i)):=fun w' _=>by
 simp [execOp,hf.ev hx,convert,X0g hs,X0g ht,Conv.intToInt]
theorem Y2u(hs:P.underlying s=some (.int .i64))(ht:P.underlying t=some (.int .u64))(hx:ev e x=some (.int .i64 i)) : EvW P ⟨d,.convert s t x,ty,pos,af,g⟩ n e w (.int .u64 (wu i)):=fun a hf=>Xxt hs ht hf hx
theorem Xxp(hs:P.underlying s=some (.int .u64))(ht:P.underlying t=some (.int .i64))(hf:Fr a n e)(hx:ev e x=some (.int .u64 i))(h:0<=i/\i<=9223372036854775807) : Ev P ⟨d,.convert s t x,ty,pos,af,g⟩ a w (.int .i64 i):=fun w' _=>by
 have h2:IntKind.i64.wrap i=i:=IntWalk.i64_in _ ⟨by omega,by omega⟩
 simp [execOp,hf.ev hx,convert,X0g hs,X0g ht,Conv.intToInt,h2]
theorem Xz9(hs:P.underlying s=some (.int .u64))(ht:P.underlying t=some (.int .i64))(hx:ev e x=some (.int .u64 i))(h:0<=i/\i<=9223372036854775807) : EvW P ⟨d,.convert s t x,ty,pos,af,g⟩ n e w (.int .i64 i):=fun a hf=>Xxp hs ht hf hx h
theorem Xvp(hs:P.underlying s=some (.int .u8))(ht:P.underlying t=some (.int .i64))(hf:Fr a n e)(hx:ev e x=some (.int .u8 i))(h:0<=i/\i<=255) : Ev P ⟨d,.convert s t x,ty,pos,af,g⟩ a w (.int .i64 i):=fun w' _=>by
 have h2:IntKind.i64.wrap i=i:=IntWalk.i64_in _ ⟨by omega,by omega⟩
 simp [execOp,hf.ev hx,convert,X0g hs,X0g ht,Conv.intToInt,h2]
theorem Y52(hs:P.underlying s=some (.int .u8))(ht:P.underlying t=some (.int .i64))(hx:ev e x=some (.int .u8 i))(h:0<=i/\i<=255) : EvW P ⟨d,.convert s t x,ty,pos,af,g⟩ n e w (.int .i64 i):=fun a hf=>Xvp hs ht hf hx h
end
end Go.Proofs.YtpifljegadknkaaGreat
