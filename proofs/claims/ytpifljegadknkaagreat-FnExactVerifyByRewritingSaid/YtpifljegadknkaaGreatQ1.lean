/-
  For every two circuits, the program's VerifyByRewriting returns what the reference's returns and leaves its arguments as they were.
-/
import Derived.WalkKit
import Derived.Maps.AppendAt
import Derived.Test.YtpifljegadknkaaGreatProg
import Derived.Laws.StructEq
import Derived.MapKept
import Derived.Shelf.Sort.Plain
import Derived.Shelf.Slices.Turned
import Derived.Ground.Names2Prog
import Derived.Shelf.Slices.Clone
import Derived.Shelf.Slices.CompactI
import Derived.Shelf.Slices.Cells
import Derived.Shelf.Spec.SlicesGrow
import Derived.Laws.MakeOwn
import Derived.Laws.Slices
import Derived.Shelf.Slices.In.SortNone
set_option linter.unusedVariables false
set_option linter.unusedSimpArgs false
set_option maxRecDepth 8000
set_option linter.unusedSectionVars false
namespace Go.Proofs.YtpifljegadknkaaGreat
open Go.RowKit
abbrev Q0:=@Nat.le_trans
abbrev Q1:=@of_decide_eq_false
abbrev Q2:=@of_decide_eq_true
abbrev Q3:=@if_neg
abbrev Q4:=@if_pos
abbrev Q5:=@wp_seq_k
abbrev Q6:=@wp_ret
abbrev Q7:=@wp_skip
abbrev Q8:=@wp_block
abbrev Q9:=@wp_exit
abbrev Qa:=@List.getD_eq_getElem?_getD
abbrev Qb:=@Nat.le_refl
abbrev Qc:=@List.getElem?_eq_getElem
abbrev Qd:=@Bool.and_eq_true
abbrev Qe:=@List.mem_of_getElem?
abbrev Qf:=@Nat.zero_le
abbrev Qg:=@List.getElem?_eq_some_iff
abbrev Qh:=@List.length_append
abbrev Qi:=@List.take_of_length_le
abbrev Qj:=@Int.toNat_natCast
abbrev Qk:=@List.mem_cons_self
abbrev Ql:=@List.mem_cons_of_mem
abbrev Qm:=@List.mem_singleton
abbrev Qn:=@List.length_take
abbrev Qo:=@List.length_map
abbrev Qp:=@Array.getElem?_eq_some_iff
abbrev Qq:=@Option.getD_some
abbrev Qr:=@decide_eq_true_eq
abbrev Qs:=@List.length_cons
abbrev Qt:=@List.take_add_one
abbrev Qu:=@List.mem_append
abbrev Qv:=@List.mem_cons
abbrev Qw:=@Bool.true_and
abbrev Qx:=@List.append_assoc
abbrev Qy:=@List.drop_eq_getElem_cons
abbrev Qz:=@Option.bind_some
abbrev W0:=@List.pairwise_iff_getElem
abbrev W1:=@List.all_eq_true
abbrev W2:=@List.mem_range
abbrev W3:=@List.drop_of_length_le
abbrev W4:=@Nat.lt_or_ge
abbrev W5:=@List.getElem?_append_right
abbrev W6:=@List.mem_map
abbrev W7:=@List.any_eq_false
abbrev W8:=@List.pairwise_cons
abbrev W9:=@List.take_append_drop
abbrev Wa:=@List.cons_append
abbrev Wb:=@Nat.add_mul
abbrev Wc:=@List.flatMap_cons
abbrev Wd:=@List.mem_of_mem_take
abbrev We:=@Array.getElem?_eq_none
abbrev Wf:=@List.take_succ_eq_append_getElem
abbrev Wg:=@List.getElem?_take_of_lt
abbrev Wh:=@Array.getElem?_setIfInBounds_ne
abbrev Wi:=@Nat.mul_comm
abbrev vi(x:Int) : Value:=.int .i64 x
def look(t:Nat) : List (Nat×Value)→Option Value
 | []=>none
 | (k,v)::l=>match Nat.beq k t with
  | true=>some v
  | false=>look t l
structure Fr (a:Act) (n:Nat) (e:List (Nat×Value)) : Prop where
 d:a.defers=[]
 s:a.tmps.size=n
 h:∀ t v,look t e=some v→a.tmps[t]? = some v
def ev(e:List (Nat×Value)) : Operand→Option Value
 | .tmp t=>look t e
 | .const v=>some v
 | .global g=>some (.pointer (some ⟨g,0,none⟩))
 | .func f=>some (.func (.func f) #[] #[])
theorem Fr.ev{a:Act}{n:Nat}{e:List (Nat×Value)}{x:Operand}{v:Value}(hf:Fr a n e)(hx:ev e x=some v) : a.eval x=v:=by
 cases x with
 | tmp t=>
  have:=hf.h t v hx
  simp [Act.eval,this]
 | const u=>simpa [YtpifljegadknkaaGreat.ev,Act.eval] using hx
 | global g=>simpa [YtpifljegadknkaaGreat.ev,Act.eval] using hx
 | func f=>simpa [YtpifljegadknkaaGreat.ev,Act.eval] using hx
def evs(e:List (Nat×Value)) : List Operand→Option (List Value)
 | []=>some []
 | x::l=>match ev e x,evs e l with
  | some v,some vs=>some (v::vs)
  | _,_=>none
theorem Fr.evs{a:Act}{n:Nat}{e:List (Nat×Value)}(hf:Fr a n e) : ∀ {l:List Operand} {vs:List Value},evs e l=some vs→l.map a.eval=vs:=by
 intro l
 induction l with
 | nil=>intro vs h;simpa [YtpifljegadknkaaGreat.evs] using h
 | cons x l ih=>
  intro vs h
  simp only [YtpifljegadknkaaGreat.evs] at h
  split at h
  ·rename_i v us h1 h2
   injection h with h
   subst h
   simp [hf.ev h1,ih h2]
  ·cases h
theorem X3k(d:Nat)(v:Value)(e:List (Nat×Value)) : look d ((d,v)::e)=some v:=by simp [look]
theorem X4l{d t:Nat}(v:Value)(e:List (Nat×Value))(h:d≠t) : look t ((d,v)::e)=look t e:=by
 have:Nat.beq d t=false:=by
  cases hb:Nat.beq d t
  ·rfl
  ·exact absurd (Nat.eq_of_beq_eq_true hb) h
 simp [look,this]
theorem Fr.put{a:Act}{n:Nat}{e:List (Nat×Value)}(hf:Fr a n e)(d:Nat)(v:Value)(hd:Nat.blt d n=true) : Fr (a.put (some d) v) n ((d,v)::e):=by
 have hd':d<n:=by simpa [Nat.blt_eq] using hd
 refine ⟨hf.d,by simp [Act.put,hf.s],fun t u hu=>?_⟩
 by_cases h:d=t
 ·subst h
  rw [X3k] at hu
  injection hu with hu
  subst hu
  simp [Act.put,hf.s,hd']
 ·rw [X4l _ _ h] at hu
  simp [Act.put,Wh h,hf.h t u hu]
theorem Fr.put_none{a:Act}{n:Nat}{e:List (Nat×Value)}(hf:Fr a n e)(v:Value) : Fr (a.put none v) n e:=hf
def Sub(e:List (Nat×Value)) : List (Nat×Value)→Prop
 | []=>True
 | (t,v)::l=>look t e=some v∧Sub e l
theorem Fr.sub{a:Act}{n:Nat}{e e':List (Nat×Value)}(hf:Fr a n e)(hs:Sub e e') : Fr a n e':=by
 refine ⟨hf.d,hf.s,?_⟩
 induction e' with
 | nil=>intro t v h;cases h
 | cons p l ih=>
  obtain ⟨k,u⟩:=p;intro t v h
  by_cases hk:k=t
  ·subst hk
   rw [X3k] at h
   injection h with h
   subst h
   exact hf.h _ _ hs.1
  ·rw [X4l _ _ hk] at h
   exact ih hs.2 t v h
theorem Fr.sb{a:Act}{n:Nat}{e e':List (Nat×Value)}(hf:Fr a n e)(hs:Sub e e':=by repeat (first|exact trivial|refine ⟨rfl,?_⟩)) : Fr a n e':=hf.sub hs
def zipFrom:Nat→List Value→List (Nat×Value)
 | _,[]=>[]
 | k,v::l=>(k,v)::zipFrom (k+1) l
theorem Xah{l:List Value}{t:Nat}{v:Value} : ∀ {k:Nat},look t (zipFrom k l)=some v→k≤t∧l[t-k]? = some v:=by
 induction l with
 | nil=>intro k h;cases h
 | cons u l ih=>
  intro k h
  simp only [zipFrom] at h
  by_cases hk:k=t
  ·subst hk
   rw [X3k] at h
   exact ⟨Qb _,by simpa using h⟩
  ·rw [X4l _ _ hk] at h
   obtain ⟨h1,h2⟩:=ih h
   refine ⟨by omega,?_⟩
   have:t-k=(t-(k+1))+1:=by omega
   rw [this,List.getElem?_cons_succ]
   exact h2
theorem Xjs{P:Program}{f:FuncId}{fn:Func}{c:Code}{args:List Value}{w:World}{R:Ending→World→Prop}
  (hf:P.funcs[f]? = some fn) (hb:fn.body=some c) (n:Nat) (hn:fn.ntmps=n) (hl:Nat.ble args.length n=true)
  (h:∀ a,Fr a n (zipFrom 0 args)→c.wp P (bodyPost P fn R) a w) : Calls P f args.toArray w R:=by
 refine calls_of_wp hf hb (h _ ⟨rfl,?_,?_⟩)
 ·have:args.length≤n:=by simpa [Nat.ble_eq] using hl
  simp [hn];omega
 ·intro t v hv;obtain ⟨_,h2⟩:=Xah hv
  have hlt:t<args.length:=by
   have:=(Qg.1 h2).1
   simpa using this
  simp only [Nat.sub_zero] at h2
  rw [Array.getElem?_append_left (by simpa using hlt)]
  simpa using h2
def Ev(P:Program)(o:Oper)(a:Act)(w:World)(v:Value) : Prop:=∀ w',Below w.heap.size w w'→(execOp a.eval o).run P w'=.ok (.value v) w'
def EfU(P:Program)(R:Value→World→Prop) : Result Next→Prop
 | .ok (.value v) w'=>R v w'
 | .ok .skip w'=>R undef w'
 | .ok (.enter f args) w'=>Calls P f args w' fun e w''=>∃ v,e=.returned v∧R v w''
 | .ok (.row row args) w'=>Rows P row args w' R
 | _=>False
def Ef(P:Program)(o:Oper)(a:Act)(w:World)(R:Value→World→Prop) : Prop:=EfU P R ((execOp a.eval o).run P w)
theorem Ef.wp{P:Program}{o:Oper}{a:Act}{w:World}{R:Value→World→Prop}(h:Ef P o a w R){K:Act→World→Prop}{Q:Exit→Act→World→Prop}
  (hK:∀ v w',R v w'→K (a.put o.dst v) w') : o.wp P a w K Q:=by
 unfold Ef at h
 unfold Oper.wp
 generalize (execOp a.eval o).run P w=r at *
 cases r with
 | ok nx w'=>
  cases nx<;>simp only [EfU] at h<;>simp only [Oper.upon]
  case value u=>exact hK _ _ h
  case skip=>exact hK _ _ h
  case enter f args=>
   refine Calls.mono h fun e w'' ⟨v,he,hR⟩=>?_
   subst he
   exact hK _ _ hR
  case row row args=>exact Rows.mono h fun u w'' hR=>hK _ _ hR
 | halt x w'=>simp only [EfU] at h
def EvW(P:Program)(o:Oper)(n:Nat)(e:List (Nat×Value))(w:World)(v:Value) : Prop:=∀ a,Fr a n e→Ev P o a w v
def EfW(P:Program)(o:Oper)(n:Nat)(e:List (Nat×Value))(w:World)(R:Value→World→Prop) : Prop:=∀ a,Fr a n e→Ef P o a w R
theorem Ef.of_run{P:Program}{o:Oper}{a:Act}{w w':World}{v:Value}(h:(execOp a.eval o).run P w=.ok (.value v) w') : Ef P o a w fun u w1=>u=v∧w1=w':=by
 unfold Ef
 rw [h]
 exact ⟨rfl,rfl⟩
theorem Ef.of_skip{P:Program}{o:Oper}{a:Act}{w w':World}(h:(execOp a.eval o).run P w=.ok .skip w') : Ef P o a w fun u w1=>u=undef∧w1=w':=by
 unfold Ef
 rw [h]
 exact ⟨rfl,rfl⟩
theorem Ef.mono{P:Program}{o:Oper}{a:Act}{w:World}{R R':Value→World→Prop}(h:Ef P o a w R)(hr:∀ v w',R v w'→R' v w') : Ef P o a w R':=by
 unfold Ef at *
 generalize (execOp a.eval o).run P w=r at *
 cases r with
 | ok nx w'=>
  cases nx<;>simp only [EfU] at h ⊢
  case value u=>exact hr _ _ h
  case skip=>exact hr _ _ h
  case enter f args=>exact Calls.mono h fun e w'' ⟨v,he,hR⟩=>⟨v,he,hr _ _ hR⟩
  case row row args=>exact Rows.mono h hr
 | halt x w'=>simp only [EfU] at h
theorem Ef.of_ev{P:Program}{o:Oper}{a:Act}{w:World}{v:Value}(h:Ev P o a w v) : Ef P o a w fun u w1=>u=v∧w1=w:=Ef.of_run (h w (Below.refl _ _))
def Want(ops:Array Oper)(o:Oper)(e:List (Nat×Value)) : Prop:=
 match o.guard with
 | none=>True
 | some (j,b)=>∃ t b',(ops[j]?).bind (·.dst)=some t∧look t e=some (.bool b')∧b'=b
def notB:Value→Bool→Prop
 | .bool b',b=>b' = !b
 | _,_=>True
def Pass(ops:Array Oper)(o:Oper)(e:List (Nat×Value)) : Prop:=
 match o.guard with
 | none=>False
 | some (j,b)=>∃ t v,(ops[j]?).bind (·.dst)=some t∧look t e=some v∧notB v b
theorem bz(w:World) : Below w.heap.size w w:=Below.refl _ _
def WantC(ops:Array Oper)(o:Oper)(e:List (Nat×Value)) : Prop:=
 match o.guard with
 | none=>True
 | some (j,b)=>match (ops[j]?).bind (·.dst) with
  | some t=>match look t e with
   | some (.bool b')=>b'=b
   | _=>False
  | none=>False
def PassC(ops:Array Oper)(o:Oper)(e:List (Nat×Value)) : Prop:=
 match o.guard with
 | none=>False
 | some (j,b)=>match (ops[j]?).bind (·.dst) with
  | some t=>match look t e with
   | some v=>notB v b
   | none=>False
  | none=>False
theorem gW{ops:Array Oper}{o:Oper}{e:List (Nat×Value)}(h:WantC ops o e) : Want ops o e:=by
 unfold WantC at h
 unfold Want
 split
 ·trivial
 ·rename_i j b hg
  rw [hg] at h
  simp only at h
  split at h
  ·rename_i t ht
   split at h
   ·rename_i b' hb
    exact ⟨t,b',ht,hb,h⟩
   ·cases h
  ·cases h
theorem gP{ops:Array Oper}{o:Oper}{e:List (Nat×Value)}(h:PassC ops o e) : Pass ops o e:=by
 unfold PassC at h
 unfold Pass
 split
 ·rename_i hg
  rw [hg] at h
  exact h
 ·rename_i j b hg
  rw [hg] at h
  simp only at h
  split at h
  ·rename_i t ht
   split at h
   ·rename_i v hv
    exact ⟨t,v,ht,hv,h⟩
   ·cases h
  ·cases h
theorem Want.wanted{ops:Array Oper}{o:Oper}{a:Act}{n:Nat}{e:List (Nat×Value)}(h:Want ops o e)(hf:Fr a n e) : Region.wanted o (yielded ops a.tmps)=true:=by
 unfold Want at h
 unfold Region.wanted
 split at h
 ·rename_i hg;simp [hg]
 ·rename_i j b hg
  obtain ⟨t,b',h1,h2,h3⟩:=h
  simp only [hg]
  unfold yielded
  simp [h1,hf.h _ _ h2,h3]
theorem Pass.wanted{ops:Array Oper}{o:Oper}{a:Act}{n:Nat}{e:List (Nat×Value)}(h:Pass ops o e)(hf:Fr a n e) : Region.wanted o (yielded ops a.tmps)=false:=by
 unfold Pass at h
 unfold Region.wanted
 split at h
 ·cases h
 ·rename_i j b hg
  obtain ⟨t,v,h1,h2,h3⟩:=h
  simp only [hg]
  unfold yielded
  rw [h1,Qz,hf.h _ _ h2]
  cases v<;>first|rfl|(simp only [notB] at h3;subst h3;cases b<;>rfl)
section
variable {P : Program} {ops : Array Oper} {Q : Exit → Act → World → Prop} {a : Act} {w : World} {rest : List Oper} {o : Oper} {n d : Nat} {e : List (Nat × Value)}
theorem Xj4{R:Value→World→Prop}(hf:Fr a n e)(hw:Want ops o e)(hd:o.dst=some d)(hn:Nat.blt d n=true)(hr:Ef P o a w R)
  (h:∀ a' v w',R v w'→Fr a' n ((d,v)::e)→wpList P ops Q rest a' w') : wpList P ops Q (o::rest) a w:=
 wpList_step fun K hK=>by
  rw [Q4 (hw.wanted hf)]
  exact hr.wp fun v w' hR=>hK _ _ (h _ v w' hR (by rw [hd];exact hf.put d v hn))
theorem Xqo{R:Value→World→Prop}(hf:Fr a n e)(hw:Want ops o e)(hd:o.dst=none)(hr:Ef P o a w R)
  (h:∀ a' v w',R v w'→Fr a' n e→wpList P ops Q rest a' w') : wpList P ops Q (o::rest) a w:=
 wpList_step fun K hK=>by
  rw [Q4 (hw.wanted hf)]
  exact hr.wp fun v w' hR=>hK _ _ (h _ v w' hR (by rw [hd];exact hf.put_none v))
theorem Xrq{v:Value}(hf:Fr a n e)(hw:Want ops o e)(hd:o.dst=some d)(hn:Nat.blt d n=true)(hr:Ev P o a w v)
  (h:∀ a',Fr a' n ((d,v)::e)→wpList P ops Q rest a' w) : wpList P ops Q (o::rest) a w:=
 Xj4 hf hw hd hn (Ef.of_ev hr) fun a' v' w' hR hf'=>by
  obtain ⟨rfl,rfl⟩:=hR;exact h a' hf'
theorem Xq2(hf:Fr a n e)(hw:Pass ops o e)(hd:o.dst=some d)(hn:Nat.blt d n=true)
  (h:∀ a',Fr a' n ((d,undef)::e)→wpList P ops Q rest a' w) : wpList P ops Q (o::rest) a w:=
 wpList_step fun K hK=>by
  rw [Q3 (by rw [hw.wanted hf];simp)]
  exact hK _ _ (h _ (by rw [hd];exact hf.put d undef hn))
end
section
variable {P : Program} {ops : Array Oper} {Q : Exit → Act → World → Prop} {a : Act} {w : World} {rest : List Oper} {op : Op} {ty : TypeId} {pos : String} {af : Array Edge} {n d : Nat} {e : List (Nat × Value)}
theorem l_e{v:Value}(hf:Fr a n e)(hn:Nat.blt d n=true)(hr:Ev P ⟨some d,op,ty,pos,af,none⟩ a w v)(h:∀ a',Fr a' n ((d,v)::e)→wpList P ops Q rest a' w) : wpList P ops Q (⟨some d,op,ty,pos,af,none⟩::rest) a w:=Xrq hf trivial rfl hn hr h
theorem l_f{R:Value→World→Prop}(hf:Fr a n e)(hn:Nat.blt d n=true)(hr:Ef P ⟨some d,op,ty,pos,af,none⟩ a w R)(h:∀ a' v w',R v w'→Fr a' n ((d,v)::e)→wpList P ops Q rest a' w') : wpList P ops Q (⟨some d,op,ty,pos,af,none⟩::rest) a w:=Xj4 hf trivial rfl hn hr h
theorem Xxq{R:Value→World→Prop}(hf:Fr a n e)(hr:Ef P ⟨none,op,ty,pos,af,none⟩ a w R)(h:∀ a' v w',R v w'→Fr a' n e→wpList P ops Q rest a' w') : wpList P ops Q (⟨none,op,ty,pos,af,none⟩::rest) a w:=Xqo hf trivial rfl hr h
theorem Xxt{x:Operand}{v:Value}(hf:Fr a n e)(hx:ev e x=some v)(hn:Nat.blt d n=true)(h:∀ a',Fr a' n ((d,v)::e)→wpList P ops Q rest a' w) : wpList P ops Q (⟨some d,.move x,ty,pos,af,none⟩::rest) a w:=l_e hf hn (fun w' _=>by simp [execOp,hf.ev hx]) h
theorem Xxk{x:Operand}{v:Value}(hf:Fr a n e)(hx:ev e x=some v)(hn:Nat.blt d n=true)(h:∀ a',Fr a' n ((d,v)::e)→wpList P ops Q rest a' w) : wpList P ops Q (⟨some d,.assign x,ty,pos,af,none⟩::rest) a w:=l_e hf hn (fun w' _=>by simp [execOp,hf.ev hx]) h
end
structure Only (b:Nat) (w w':World) : Prop where
 os:w'.os=w.os
 tape:w'.tape=w.tape
 output:w'.output=w.output
 size:w'.heap.size=w.heap.size
 block:∀ k,k≠b→w'.heap[k]? = w.heap[k]?
theorem Only.refl(b:Nat)(w:World) : Only b w w:=⟨rfl,rfl,rfl,rfl,fun _ _=>rfl⟩
theorem Only.trans{b:Nat}{w w' w'':World}(h:Only b w w')(k:Only b w' w'') : Only b w w'':=
 ⟨k.os.trans h.os,k.tape.trans h.tape,k.output.trans h.output,k.size.trans h.size,fun i hi=>(k.block i hi).trans (h.block i hi)⟩
structure Kept (b B:Nat) (w w':World) : Prop where
 os:w'.os=w.os
 tape:w'.tape=w.tape
 output:w'.output=w.output
 size:w.heap.size≤w'.heap.size
 block:∀ k,k<B→k≠b→w'.heap[k]? = w.heap[k]?
theorem Kept.refl(b B:Nat)(w:World) : Kept b B w w:=⟨rfl,rfl,rfl,Qb _,fun _ _ _=>rfl⟩
theorem Kept.of_below{b B:Nat}{w w':World}(h:Below B w w') : Kept b B w w':=⟨h.os,h.tape,h.output,h.size,fun k hk _=>h.block k hk⟩
theorem Kept.trans{b B:Nat}{w w' w'':World}(h:Kept b B w w')(k:Below B w' w'') : Kept b B w w'':=
 ⟨k.os.trans h.os,k.tape.trans h.tape,k.output.trans h.output,Q0 h.size k.size,fun i hi hn=>(k.block i hi).trans (h.block i hi hn)⟩
theorem Kept.transK{b B:Nat}{w w' w'':World}(h:Kept b B w w')(k:Kept b B w' w'') : Kept b B w w'':=
 ⟨k.os.trans h.os,k.tape.trans h.tape,k.output.trans h.output,Q0 h.size k.size,fun i hi hn=>(k.block i hi hn).trans (h.block i hi hn)⟩
theorem Kept.mono{b B B':Nat}{w w':World}(h:Kept b B w w')(hB:B'≤B) : Kept b B' w w':=⟨h.os,h.tape,h.output,h.size,fun k hk=>h.block k (Nat.lt_of_lt_of_le hk hB)⟩
theorem Kept.only{b b' B:Nat}{w w' w'':World}(h:Kept b B w w')(ho:Only b' w' w'')(hB:B≤b') : Kept b B w w'':=
 h.trans ⟨ho.os,ho.tape,ho.output,by rw [ho.size];exact Qb _,fun k hk=>ho.block k (by omega)⟩
theorem Kept.self{b B:Nat}{w w' w'':World}(h:Kept b B w w')(ho:Only b w' w'') : Kept b B w w'':=
 h.transK ⟨ho.os,ho.tape,ho.output,by rw [ho.size];exact Qb _,fun k _ hk=>ho.block k hk⟩
theorem Kept.mid{b:Nat}{w w':World}(h:Kept b w.heap.size w w') : ∃ w1,Only b w w1∧(b<w.heap.size→w1.heap[b]? = w'.heap[b]?)∧Below w1.heap.size w1 w':=by
 cases hb:w'.heap[b]? with
 | none=>
  have hlt:w.heap.size≤b:=Q0 h.size (Array.getElem?_eq_none_iff.1 hb)
  refine ⟨w,Only.refl _ _,fun h'=>by omega,⟨h.os,h.tape,h.output,h.size,fun k hk=>h.block k hk (by omega)⟩⟩
 | some o=>
  refine ⟨{ w with heap:=w.heap.setIfInBounds b o },⟨rfl,rfl,rfl,by simp,fun k hk=>?_⟩,fun h'=>?_,⟨h.os,h.tape,h.output,by simpa using h.size,fun k hk=>?_⟩⟩
  ·show (w.heap.setIfInBounds b o)[k]? = _
   rw [Wh (Ne.symm hk)]
  ·show (w.heap.setIfInBounds b o)[b]? = _
   simp [h']
  ·have hk':k<w.heap.size:=by simpa using hk
   show _=(w.heap.setIfInBounds b o)[k]?
   by_cases hkb:k=b
   ·subst hkb
    simp [hk',hb]
   ·rw [Wh (Ne.symm hkb)]
    exact h.block k hk' hkb
theorem btr{w0 w w':World}(h:Below w0.heap.size w0 w)(hE:Below w.heap.size w w') : Below w0.heap.size w0 w':=h.trans (hE.mono h.size)
inductive Vk
 | but (b:Nat)
 | base (N:Nat)
instance:Coe Nat Vk:=⟨Vk.but⟩
def Keep(V:Option Vk)(w w':World) : Prop:=match V with
 | none=>Below w.heap.size w w'
 | some (.but b)=>∃ w1,Only b w w1∧Below w.heap.size w1 w'
 | some (.base N)=>Below (min N w.heap.size) w w'
theorem Keep.refl(V:Option Vk)(w:World) : Keep V w w:=by
 cases V with
 | none=>exact Below.refl _ _
 | some b=>cases b with
  | but b=>exact ⟨w,Only.refl _ _,Below.refl _ _⟩
  | base N=>exact Below.refl _ _
theorem Keep.kept{b:Nat}{w w':World}(h:Keep (some b) w w') : Kept b w.heap.size w w':=by
 obtain ⟨w1,h1,h2⟩:=h;exact (Kept.self (Kept.refl b w.heap.size w) h1).trans h2
theorem Kept.keep{b:Nat}{w w':World}(h:Kept b w.heap.size w w') : Keep (some b) w w':=by
 obtain ⟨w1,h1,_,h2⟩:=h.mid;exact ⟨w1,h1,by rw [← h1.size];exact h2⟩
theorem Keep.of_below{V:Option Vk}{w w':World}(h:Below w.heap.size w w') : Keep V w w':=by
 cases V with
 | none=>exact h
 | some b=>cases b with
  | but b=>exact ⟨w,Only.refl _ _,h⟩
  | base N=>exact Below.mono h (Nat.min_le_right _ _)
theorem Keep.trans{V:Option Vk}{w w' w'':World}(h:Keep V w w')(k:Keep V w' w'') : Keep V w w'':=by
 cases V with
 | none=>exact Below.trans h (Below.mono k h.size)
 | some b=>cases b with
  | but b=>exact (h.kept.transK (k.kept.mono h.kept.size)).keep
  | base N=>exact Below.trans h (Below.mono k (by have:=h.size;omega))
section
variable {P : Program} {ops : Array Oper} {Q : Act → World → Prop} {tl : Nat → Bool} {V : Option Vk}
def wpR(P:Program)(ops:Array Oper)(V:Option Vk)(tl:Nat→Bool)(i:Nat)(K:Act→World→Prop)(a:Act)(w:World) : Prop:=
 match ops[i]? with
 | none=>K a w
 | some o=>if Region.wanted o (yielded ops a.tmps) then Ef P o a w (fun v w'=>(tl i=false→Keep V w w')∧K (a.put o.dst v) w') else K (a.put o.dst undef) w
def wpS(P:Program)(ops:Array Oper)(V:Option Vk)(tl:Nat→Bool)(Q:Act→World→Prop) : Nat→Array Bool→Act→World→Prop
 | 0,listed,a,w=>Region.ready .any ops listed=[]∧Q a w
 | fuel+1,listed,a,w=>(Region.ready .any ops listed=[]→Q a w)∧∀ i ∈ Region.ready .any ops listed,wpR P ops V tl i (wpS P ops V tl Q fuel (listed.setIfInBounds i true)) a w
theorem Xk1{i:Nat}{K K':Act→World→Prop}{a:Act}{w:World}(h:∀ a w,K a w→K' a w)(hh:wpR P ops V tl i K a w) : wpR P ops V tl i K' a w:=by
 unfold wpR at *
 split
 ·exact h _ _ (by simpa [*] using hh)
 ·rename_i o ho
  simp only [ho] at hh
  split
  ·rename_i hw
   simp only [hw,if_true] at hh
   exact hh.mono fun v w' ⟨h1,h2⟩=>⟨h1,h _ _ h2⟩
  ·rename_i hw
   simp only [hw] at hh
   exact h _ _ hh
theorem X2t{Q':Exit→Act→World→Prop}(hQ:∀ a w,Q a w→Q' .normal a w) : ∀ (fuel:Nat) (listed:Array Bool) (a:Act) (w:World),wpS P ops V tl Q fuel listed a w→wpAny P .any ops Q' fuel listed a w
 | 0,_,_,_,h=>⟨h.1,hQ _ _ h.2⟩
 | fuel+1,listed,a,w,h=>by
  refine ⟨fun h0=>hQ _ _ (h.1 h0),fun i hi=>?_⟩
  have h1:=h.2 i hi
  unfold wpR at h1
  unfold wpOp
  split
  ·rename_i ho;simp only [ho] at h1;exact X2t hQ fuel _ _ _ h1
  ·rename_i o ho
   simp only [ho] at h1
   split
   ·rename_i hw
    simp only [hw,if_true] at h1
    exact .inl (h1.wp fun v w' hR=>X2t hQ fuel _ _ _ hR.2)
   ·rename_i hw
    simp only [hw] at h1
    exact X2t hQ fuel _ _ _ h1
def YC(P:Program)(ops:Array Oper)(C:World→Prop)(o:Oper)(v:Value)(a:Act) : Prop:=
 (Region.wanted o (yielded ops a.tmps)=true∧∀ w,C w→(execOp a.eval o).run P w=.ok (.value v) w)∨(Region.wanted o (yielded ops a.tmps)=false∧v=undef)
theorem YC.of_same{C:World→Prop}{o:Oper}{v:Value}{a a':Act}(hy:YC P ops C o v a)(he:execOp a'.eval o=execOp a.eval o)
  (hw:Region.wanted o (yielded ops a'.tmps)=Region.wanted o (yielded ops a.tmps)) : YC P ops C o v a':=by
 unfold YC at *
 rw [he,hw]
 exact hy
theorem YC.wpR{C:World→Prop}{i:Nat}{o:Oper}{v:Value}{a:Act}{w:World}(hi:ops[i]? = some o)(hC:C w)(hy:YC P ops C o v a){K:Act→World→Prop}(h:K (a.put o.dst v) w) : wpR P ops V tl i K a w:=by
 unfold YtpifljegadknkaaGreat.wpR
 simp only [hi]
 rcases hy with ⟨hw,hv⟩|⟨hw,rfl⟩
 ·simp only [hw,if_true]
  exact (Ef.of_run (hv w hC)).mono fun u w' ⟨e1,e2⟩=>by subst e1;subst e2;exact ⟨fun _=>Keep.refl _ _,h⟩
 ·simp only [hw,Bool.false_eq_true,if_false];exact h
theorem Xs6{oi oj:Oper}{v:Value}(h1:∀ d,oi.dst=some d→d ∉ oj.looksAt ops)(hsj:∀ cs b,oj.op≠.select cs b)
  {a:Act} {w:World} {R:Value→World→Prop} (h:Ef P oj (a.put oi.dst v) w R) : Ef P oj a w R:=by
 unfold Ef at *
 rwa [execOp_put oj hsj a oi.dst v h1] at h
theorem Xkx{C:World→Prop}{j:Nat}{oi oj:Oper}{v:Value}(hj:ops[j]? = some oj)(hap:oi.apart ops oj=true)
  (hsi:∀ cs b,oi.op≠.select cs b) (hsj:∀ cs b,oj.op≠.select cs b) (hC:∀ w w',C w→(tl j=false→Keep V w w')→C w') {K:Act→World→Prop} {a:Act} {w:World} (hw0:C w)
  (hy:YC P ops C oi v a) (h:wpR P ops V tl j K (a.put oi.dst v) w) : wpR P ops V tl j (fun a' w'=>C w'∧YC P ops C oi v a'∧K (a'.put oi.dst v) w') a w:=by
 obtain ⟨h1,h2,h3⟩:=Oper.apart_spec hap
 have keep:∀ (a:Act),YC P ops C oi v a→∀ u,YC P ops C oi v (a.put oj.dst u):=fun a hy u=>
  hy.of_same (execOp_put oi hsi a oj.dst u h3) (wanted_put oi a oj.dst u h3)
 unfold wpR at *
 simp only [hj] at *
 rw [wanted_put oj a oi.dst v h1] at h
 split
 ·rename_i hw
  simp only [hw,if_true] at h
  exact (Xs6 h1 hsj h).mono fun u w' ⟨hb,hk⟩=>⟨hb,hC w w' hw0 hb,keep a hy u,by rw [← Act.put_comm a v u h2];exact hk⟩
 ·rename_i hw
  simp only [hw] at h
  exact ⟨hw0,keep a hy _,by rw [← Act.put_comm a v undef h2];exact h⟩
def Closed(ops:Array Oper)(listed:Array Bool) : Prop:=∀ k ok,ops[k]? = some ok→listed.getD k false=true→∀ e ∈ ok.after,Region.binds .any e=true→listed.getD e.on false=true
theorem X5z{listed:Array Bool}{j k:Nat}(h:listed.getD k false=true) : (listed.setIfInBounds j true).getD k false=true:=by
 rcases W4 k listed.size with hk|hk
 ·by_cases hjk:j=k
  ·subst hjk;simp [hk]
  ·simpa [hk,Array.getElem_setIfInBounds_ne _ hjk] using h
 ·simp [We hk] at h
theorem Closed.set{listed:Array Bool}{j:Nat}{oj:Oper}(h:Closed ops listed)(hj:ops[j]? = some oj)(hall:∀ e ∈ oj.after,Region.binds .any e=true→listed.getD e.on false=true) : Closed ops (listed.setIfInBounds j true):=fun k ok hk hl e he hb=>by
 by_cases hjk:j=k
 ·subst hjk
  rw [hj] at hk
  injection hk with hk
  subst hk
  exact X5z (hall e he hb)
 ·rw [getD_set_ne false hjk] at hl
  exact X5z (h k ok hk hl e he hb)
def reach(ops:Array Oper)(i:Nat) : Nat→Nat→Bool
 | 0,_=>false
 | f+1,j=>match ops[j]? with
  | some oj=>oj.after.any fun e=>Region.binds .any e&&(e.on==i||reach ops i f e.on)
  | none=>false
theorem X6q{listed:Array Bool}{i:Nat}(hcl:Closed ops listed) : ∀ (f j:Nat) (oj:Oper),ops[j]? = some oj→(∀ e ∈ oj.after,Region.binds .any e=true→listed.getD e.on false=true)→reach ops i f j=true→listed.getD i false=true
 | 0,_,_,_,_,h=>by cases h
 | f+1,j,oj,hj,hall,h=>by
  simp only [reach,hj] at h
  obtain ⟨e,he,hb⟩:=Array.any_eq_true'.1 h
  simp only [Qd,Bool.or_eq_true,beq_iff_eq] at hb
  have h1:=hall e he hb.1
  rcases hb.2 with h2|h2
  ·rw [← h2];exact h1
  ·cases hk:ops[e.on]? with
   | none=>
    cases f with
    | zero=>cases h2
    | succ f=>simp only [reach,hk] at h2;cases h2
   | some ok=>exact X6q hcl f e.on ok hk (hcl e.on ok hk h1) h2
theorem X71{C:World→Prop}{i:Nat}{oi:Oper}{v:Value}(hi:ops[i]? = some oi)(hsel:∀ (j:Nat) (o:Oper) cs b,ops[j]? = some o→o.op≠.select cs b)
  (hC:∀ j oj,ops[j]? = some oj→(∀ listed,Closed ops listed→(∀ e ∈ oj.after,Region.binds .any e=true→listed.getD e.on false=true)→listed.getD i true=false→∀ w w',C w→(tl j=false→Keep V w w')→C w')) :
  ∀ (fuel:Nat) (listed:Array Bool) (a:Act) (w:World),Closed ops listed→
   (∀ j oj,ops[j]? = some oj→j≠i→listed.getD j true=false→(∀ e ∈ oj.after,Region.binds .any e=true→e.on≠i)→oi.apart ops oj=true)→
   i ∈ Region.ready .any ops listed→C w→YC P ops C oi v a→
   wpS P ops V tl Q fuel (listed.setIfInBounds i true) (a.put oi.dst v) w→wpS P ops V tl Q (fuel+1) listed a w:=by
 intro fuel
 induction fuel with
 | zero=>
  intro listed a w _ _ hr hw hy H
  refine ⟨fun h=>(by rw [h] at hr;cases hr),fun j hj=>?_⟩
  by_cases hji:j=i
  ·subst hji;exact hy.wpR hi hw H
  ·have:=ready_mono hj hji
   rw [H.1] at this
   cases this
 | succ fuel ih=>
  intro listed a w hcl hfree hr hw hy H
  refine ⟨fun h=>(by rw [h] at hr;cases hr),fun j hj=>?_⟩
  by_cases hji:j=i
  ·subst hji;exact hy.wpR hi hw H
  ·have h1:=H.2 j (ready_mono hj hji);obtain ⟨hjun,oj,hoj,hall⟩:=mem_ready.1 hj
   have hnot:∀ e ∈ oj.after,Region.binds .any e=true→e.on≠i:=fun e he hb heq=>by
    have h1:=hall e he hb;have h0:=(mem_ready.1 hr).1
    rw [heq] at h1
    rcases W4 i listed.size with h'|h'
    ·simp [h'] at h0 h1;rw [h0] at h1;cases h1
    ·simp [We h'] at h1
   have h2:=Xkx hoj (hfree j oj hoj hji hjun hnot) (fun cs b=>hsel i oi cs b hi) (fun cs b=>hsel j oj cs b hoj) (hC j oj hoj listed hcl hall (mem_ready.1 hr).1) hw hy h1
   have hfree':∀ k ok,ops[k]? = some ok→k≠i→(listed.setIfInBounds j true).getD k true=false→
     (∀ e ∈ ok.after,Region.binds .any e=true→e.on≠i)→oi.apart ops ok=true:=fun k ok hk hki hun hno=>by
    refine hfree k ok hk hki ?_ hno
    by_cases hjk:j=k
    ·subst hjk;exact hjun
    ·rw [getD_set_ne true hjk] at hun;exact hun
   refine Xk1 (fun a' w' h3=>ih (listed.setIfInBounds j true) a' w' (hcl.set hoj hall) hfree' (ready_mono hr (Ne.symm hji)) h3.1 h3.2.1 ?_) h2
   rw [Array.setIfInBounds_comm _ _ hji]
   exact h3.2.2
def mask(ops:Array Oper)(done:List Nat) : Array Bool:=(Array.range ops.size).map fun i=>done.contains i
theorem X50(ops:Array Oper)(done:List Nat)(i:Nat) : (mask ops done).setIfInBounds i true=mask ops (i::done):=by
 apply Array.ext
 ·simp [mask]
 ·intro k h1 h2
  simp only [mask,Array.size_setIfInBounds,Array.size_map,Array.size_range] at h1
  by_cases hk:i=k
  ·subst hk
   simp [mask]
  ·have hk':¬ k=i:=fun h=>hk h.symm
   rw [Array.getElem_setIfInBounds_ne (by simpa [mask] using h1) hk]
   simp [mask,hk']
theorem Xbw(ops:Array Oper) : Array.replicate ops.size false=mask ops []:=by
 apply Array.ext<;>simp [mask]
def closedB(ops:Array Oper)(done:List Nat) : Bool:=done.all fun k=>match ops[k]? with
 | some ok=>ok.after.all fun e=>!(Region.binds .any e)||done.contains e.on&&Nat.blt e.on ops.size
 | none=>true
def mayFirst(ops:Array Oper)(done:List Nat)(i:Nat) : Bool:=
 Region.noSelect ops&&Region.free .any ops (mask ops done) i&&(Region.ready .any ops (mask ops done)).contains i&&closedB ops done
theorem X9r{done:List Nat}{k:Nat}(d:Bool)(h:k<ops.size) : (mask ops done).getD k d=done.contains k:=by
 simp [mask,h]
theorem mask_getD'{done:List Nat}{k:Nat}(h:(mask ops done).getD k false=true) : done.contains k=true:=by
 rcases W4 k ops.size with h'|h'
 ·rwa [X9r false h'] at h
 ·simp [mask,h'] at h
theorem X4o{done:List Nat}(h:closedB ops done=true) : Closed ops (mask ops done):=fun k ok hk hl e he hb=>by
 have h1:=mask_getD' hl
 simp only [closedB,W1] at h
 have h2:=h k (by simpa using h1)
 simp only [hk] at h2
 have h3:=Array.all_eq_true'.1 h2 e he
 simp only [hb,Bool.not_true,Bool.false_or,Qd] at h3
 have h4:e.on<ops.size:=by simpa [Nat.blt_eq] using h3.2
 rw [X9r false h4]
 exact h3.1
def tailWaits(ops:Array Oper)(tl:Nat→Bool)(i:Nat) : Bool:=
 (List.range ops.size).all fun j=>!tl j||reach ops i 9 j
theorem X7z{i:Nat}(h:tailWaits ops tl i=true)(j:Nat)(oj:Oper)(hj:ops[j]? = some oj){listed:Array Bool}(hcl:Closed ops listed)(hall:∀ e ∈ oj.after,Region.binds .any e=true→listed.getD e.on false=true)(hi:listed.getD i true=false) : tl j=false:=by
 simp only [tailWaits,W1,W2] at h
 have h1:=h j (Qp.1 hj).1
 simp only [Bool.or_eq_true,Bool.not_eq_true'] at h1
 rcases h1 with h1|h1
 ·exact h1
 ·have h2:=X6q hcl 9 j oj hj hall h1
  rcases W4 i listed.size with h'|h'
  ·simp [h'] at h2 hi;rw [h2] at hi;cases hi
  ·simp [h'] at h2
section
variable {a : Act} {w : World} {n d fuel : Nat} {e : List (Nat × Value)} {o : Oper} {done : List Nat}
theorem Xny(i:Nat){v:Value}(hi:ops[i]? = some o)(hm:mayFirst ops done i=true)(ht:tailWaits ops tl i=true)(hf:Fr a n e)(hw:Want ops o e)(hd:o.dst=some d)(hn:Nat.blt d n=true)
  (hr:∀ w',Keep V w w'→(execOp a.eval o).run P w'=.ok (.value v) w') (h:∀ a',Fr a' n ((d,v)::e)→wpS P ops V tl Q fuel (mask ops (i::done)) a' w) : wpS P ops V tl Q (fuel+1) (mask ops done) a w:=by
 simp only [mayFirst,Qd] at hm
 refine X71 (C:=fun w'=>Keep V w w') hi (Region.noSelect_spec hm.1.1.1) (fun j oj hj lst hcl hall hun w1 w2 h1 h2=>?_) fuel _ a w (X4o hm.2) (Region.free_spec hi hm.1.1.2) (by simpa using hm.1.2) (Keep.refl _ _) (.inl ⟨hw.wanted hf,hr⟩) ?_
 ·exact h1.trans (h2 (X7z ht j oj hj hcl hall hun))
 ·rw [X50]
  exact h _ (by rw [hd];exact hf.put d v hn)
theorem Xrm(i:Nat){v:Value}(hi:ops[i]? = some o)(hm:mayFirst ops done i=true)(ht:tailWaits ops tl i=true)(hf:Fr a n e)(hw:Want ops o e)(hd:o.dst=some d)(hn:Nat.blt d n=true)
  (hr:Ev P o a w v) (h:∀ a',Fr a' n ((d,v)::e)→wpS P ops none tl Q fuel (mask ops (i::done)) a' w) : wpS P ops none tl Q (fuel+1) (mask ops done) a w:=Xny i hi hm ht hf hw hd hn hr h
theorem Xtn(i:Nat){N:Nat}{v:Value}(hi:ops[i]? = some o)(hm:mayFirst ops done i=true)(ht:tailWaits ops tl i=true)(hf:Fr a n e)(hw:Want ops o e)(hd:o.dst=some d)(hn:Nat.blt d n=true)(hN:N≤w.heap.size)
  (hr:∀ w1,Below N w w1→Ev P o a w1 v) (h:∀ a',Fr a' n ((d,v)::e)→wpS P ops (some (.base N)) tl Q fuel (mask ops (i::done)) a' w) : wpS P ops (some (.base N)) tl Q (fuel+1) (mask ops done) a w:=
 Xny i hi hm ht hf hw hd hn (fun w' h1=>hr w' (Below.mono h1 (by omega)) w' (Below.refl _ _)) h
theorem Xo9(i:Nat){v:Value}(hi:ops[i]? = some o)(hm:mayFirst ops done i=true)(hf:Fr a n e)(hw:Want ops o e)(hd:o.dst=some d)(hn:Nat.blt d n=true)
  (hr:∀ w,Ev P o a w v) (h:∀ a',Fr a' n ((d,v)::e)→wpS P ops V tl Q fuel (mask ops (i::done)) a' w) : wpS P ops V tl Q (fuel+1) (mask ops done) a w:=by
 simp only [mayFirst,Qd] at hm
 refine X71 (C:=fun _=>True) hi (Region.noSelect_spec hm.1.1.1) (fun _ _ _ _ _ _ _ _ _ _ _=>trivial) fuel _ a w (X4o hm.2) (Region.free_spec hi hm.1.1.2) (by simpa using hm.1.2) trivial (.inl ⟨hw.wanted hf,fun w' _=>hr w' w' (Below.refl _ _)⟩) ?_
 rw [X50]
 exact h _ (by rw [hd];exact hf.put d v hn)
theorem Xrc(i:Nat)(hi:ops[i]? = some o)(hm:mayFirst ops done i=true)(hf:Fr a n e)(hw:Pass ops o e)(hd:o.dst=some d)(hn:Nat.blt d n=true)
  (h:∀ a',Fr a' n ((d,undef)::e)→wpS P ops V tl Q fuel (mask ops (i::done)) a' w) : wpS P ops V tl Q (fuel+1) (mask ops done) a w:=by
 simp only [mayFirst,Qd] at hm
 refine X71 (C:=fun _=>True) hi (Region.noSelect_spec hm.1.1.1) (fun _ _ _ _ _ _ _ _ _ _ _=>trivial) fuel _ a w (X4o hm.2) (Region.free_spec hi hm.1.1.2) (by simpa using hm.1.2) trivial (.inr ⟨hw.wanted hf,rfl⟩) ?_
 rw [X50]
 exact h _ (by rw [hd];exact hf.put d undef hn)
theorem s_e{op:Op}{ty:TypeId}{pos:String}{af:Array Edge}(i:Nat){v:Value}(hi:ops[i]? = some ⟨some d,op,ty,pos,af,none⟩)(hm:mayFirst ops done i=true)(ht:tailWaits ops tl i=true)(hf:Fr a n e)(hn:Nat.blt d n=true)
  (hr:Ev P ⟨some d,op,ty,pos,af,none⟩ a w v) (h:∀ a',Fr a' n ((d,v)::e)→wpS P ops none tl Q fuel (mask ops (i::done)) a' w) : wpS P ops none tl Q (fuel+1) (mask ops done) a w:=Xrm i hi hm ht hf trivial rfl hn hr h
theorem Xwx{op:Op}{ty:TypeId}{pos:String}{af:Array Edge}(i:Nat){v:Value}(hi:ops[i]? = some ⟨some d,op,ty,pos,af,none⟩)(hm:mayFirst ops done i=true)(hf:Fr a n e)(hn:Nat.blt d n=true)
  (hr:∀ w,Ev P ⟨some d,op,ty,pos,af,none⟩ a w v) (h:∀ a',Fr a' n ((d,v)::e)→wpS P ops V tl Q fuel (mask ops (i::done)) a' w) : wpS P ops V tl Q (fuel+1) (mask ops done) a w:=Xo9 i hi hm hf trivial rfl hn hr h
theorem Xtv(i:Nat)(hr:Region.ready .any ops (mask ops done)=[i])(h:wpR P ops V tl i (wpS P ops V tl Q fuel (mask ops (i::done))) a w) : wpS P ops V tl Q (fuel+1) (mask ops done) a w:=by
 refine ⟨fun h0=>(by rw [hr] at h0;cases h0),fun j hj=>?_⟩
 rw [hr] at hj
 obtain rfl:j=i:=by simpa using hj
 rw [X50]
 exact h
theorem Xvh(i j:Nat)(hr:Region.ready .any ops (mask ops done)=[i,j])(hi:wpR P ops V tl i (wpS P ops V tl Q fuel (mask ops (i::done))) a w)
  (hj:wpR P ops V tl j (wpS P ops V tl Q fuel (mask ops (j::done))) a w) : wpS P ops V tl Q (fuel+1) (mask ops done) a w:=by
 refine ⟨fun h0=>(by rw [hr] at h0;cases h0),fun k hk=>?_⟩
 rw [hr] at hk
 rw [X50]
 simp only [Qv,List.not_mem_nil,or_false] at hk
 rcases hk with rfl|rfl
 ·exact hi
 ·exact hj
def sameL(L D:List Nat) : Bool:=L.all D.contains&&D.all L.contains
theorem Xjw{a:Act}{w:World}{o:Oper}{v:Value}(h:Ev P o a w v) : Ef P o a w (fun v' w'=>v'=v∧w=w'):=by
 unfold Ef
 rw [h w (Below.refl _ _)]
 exact ⟨rfl,rfl⟩
theorem Xri(hr:Region.ready .any ops (mask ops done)=[])(h:Q a w) : wpS P ops V tl Q fuel (mask ops done) a w:=by
 cases fuel with
 | zero=>exact ⟨hr,h⟩
 | succ f=>exact ⟨fun _=>h,fun j hj=>by rw [hr] at hj;cases hj⟩
theorem Xtw{i:Nat}{K:Act→World→Prop}{R:Value→World→Prop}(hi:ops[i]? = some o)(hf:Fr a n e)(hw:Want ops o e)(hd:o.dst=some d)(hn:Nat.blt d n=true)
  (hr:Ef P o a w fun v w'=>(tl i=false→Keep V w w')∧R v w') (h:∀ a' v w',R v w'→Fr a' n ((d,v)::e)→K a' w') : wpR P ops V tl i K a w:=by
 unfold wpR
 simp only [hi]
 rw [Q4 (hw.wanted hf)]
 exact hr.mono fun v w' ⟨h1,h2⟩=>⟨h1,h _ v w' h2 (by rw [hd];exact hf.put d v hn)⟩
theorem Xs4{i:Nat}{K:Act→World→Prop}{R:Value→World→Prop}(hi:ops[i]? = some o)(hf:Fr a n e)(hw:Want ops o e)(hd:o.dst=none)
  (hr:Ef P o a w fun v w'=>(tl i=false→Keep V w w')∧R v w') (h:∀ a' v w',R v w'→Fr a' n e→K a' w') : wpR P ops V tl i K a w:=by
 unfold wpR
 simp only [hi]
 rw [Q4 (hw.wanted hf)]
 exact hr.mono fun v w' ⟨h1,h2⟩=>⟨h1,h _ v w' h2 (by rw [hd];exact hf.put_none v)⟩
theorem Xs8{i:Nat}{K:Act→World→Prop}(hi:ops[i]? = some o)(hf:Fr a n e)(hw:Pass ops o e)(hd:o.dst=some d)(hn:Nat.blt d n=true)
  (h:∀ a',Fr a' n ((d,undef)::e)→K a' w) : wpR P ops V tl i K a w:=by
 unfold wpR
 simp only [hi]
 rw [Q3 (by rw [hw.wanted hf];simp)]
 exact h _ (by rw [hd];exact hf.put d undef hn)
theorem X05(V:Option Vk)(tl:Nat→Bool){id:Nat}{l:List Oper}{Q':Exit→Act→World→Prop}(hm:P.follows .mixedOrders=true)
  (h:∀ w',Below w.heap.size w w'→wpS P l.toArray V tl (Q' .normal) l.length (mask l.toArray []) a w') : (Code.region id l.toArray true).wp P Q' a w:=by
 refine wp_region_any hm ?_
 rw [Xbw]
 exact X2t (fun _ _ h=>h) _ _ _ _ (by simpa using h w.drew (Below.refl _ _).drew)
end
end
abbrev Env:=List (Nat×Value)
def At(w:World)(p:Addr)(l:List Value) : Prop:=∀ j v,l[j]? = some v→w.cell? (p.add j)=some v
def Blk(w:World)(b:Nat)(T:TypeId)(l:List Value) : Prop:=w.heap[b]? = some (.cells l.toArray T (0,0))
theorem X6p(p:Addr)(i j:Nat) : (p.add i).add j=p.add (i+j):=by
 unfold Addr.add
 by_cases hi:i=0<;>by_cases hj:j=0<;>simp [hi,hj,Nat.add_assoc]
theorem X65(p:Addr)(i:Nat) : (p.add i).block=p.block:=by unfold Addr.add;split<;>rfl
theorem X1k(b off i:Nat) : (Addr.mk b off none).add i=⟨b,off+i,none⟩:=by
 unfold Addr.add
 by_cases hi:i=0<;>simp [hi]
theorem Xes{w:World}{p:Addr}{v:Value}(h:w.cell? p=some v) : p.block<w.heap.size:=by
 rcases W4 p.block w.heap.size with h'|h'
 ·exact h'
 ·simp [World.cell?,We h'] at h
theorem At.below{w w':World}{p:Addr}{l:List Value}(h:At w p l)(hb:Below w.heap.size w w') : At w' p l:=by
 intro j v hj
 have:=h j v hj
 rw [hb.cell (Xes this)]
 exact this
theorem At.drop{w:World}{p:Addr}{l:List Value}(h:At w p l)(k:Nat) : At w (p.add k) (l.drop k):=by
 intro j v hj
 rw [X6p]
 exact h (k+j) v (by rw [← hj,List.getElem?_drop])
theorem At.take{w:World}{p:Addr}{l:List Value}(h:At w p l)(k:Nat) : At w p (l.take k):=by
 intro j v hj;refine h j v ?_
 rw [List.getElem?_take] at hj
 split at hj
 ·exact hj
 ·cases hj
theorem At.nil(w:World)(p:Addr) : At w p []:=fun j v h=>by simp at h
theorem Blk.lt{w:World}{b:Nat}{T:TypeId}{l:List Value}(h:Blk w b T l) : b<w.heap.size:=by
 rcases W4 b w.heap.size with h'|h'
 ·exact h'
 ·simp [Blk,We h'] at h
theorem Blk.cell{w:World}{b:Nat}{T:TypeId}{l:List Value}(h:Blk w b T l)(k:Nat) : w.cell? ⟨b,k,none⟩=l[k]?:=by
 unfold Blk at h
 simp [World.cell?,h]
theorem Blk.at{w:World}{b:Nat}{T:TypeId}{l:List Value}(h:Blk w b T l)(k:Nat) : At w ⟨b,k,none⟩ (l.drop k):=by
 intro j v hj
 rw [X1k,h.cell,← hj,List.getElem?_drop]
theorem Blk.below{w w':World}{b:Nat}{T:TypeId}{l:List Value}(h:Blk w b T l)(hb:Below w.heap.size w w') : Blk w' b T l:=(hb.block b h.lt).trans h
theorem Blk.only{w w':World}{b b':Nat}{T:TypeId}{l:List Value}(h:Blk w b T l)(ho:Only b' w w')(hne:b≠b') : Blk w' b T l:=(ho.block b hne).trans h
theorem Blk.drew{w:World}{b:Nat}{T:TypeId}{l:List Value}(h:Blk w b T l) : Blk w.drew b T l:=h
theorem Blk.ne{w:World}{b b':Nat}{T T':TypeId}{l l':List Value}(h:Blk w b T l)(h':Blk w b' T' l')(hT:Nat.beq T T'=false) : b≠b':=by
 rintro rfl
 unfold Blk at h h'
 rw [h] at h'
 injection h' with h'
 injection h' with _ e
 subst e
 simp at hT
theorem Below.only{B b:Nat}{w0 w w':World}(h:Below B w0 w)(ho:Only b w w')(hB:B≤b) : Below B w0 w':=
 h.trans ⟨ho.os,ho.tape,ho.output,by rw [ho.size];exact Qb _,fun k hk=>ho.block k (by omega)⟩
theorem At.only{w w':World}{b:Nat}{p:Addr}{l:List Value}(h:At w p l)(ho:Only b w w')(hne:p.block≠b) : At w' p l:=by
 intro j v hj
 rw [World.cell?_of_block (w:=w) (by rw [X65];exact ho.block _ hne)]
 exact h j v hj
def OneT(P:Program)(t:TypeId) : Prop:=∃ d,P.underlying t=some d∧(match d with|.struct _|.array _ _=>False|_=>True)
def AggT(P:Program)(t:TypeId)(n:Nat) : Prop:=(∃ d,P.underlying t=some d∧(match d with|.struct _|.array _ _=>True|_=>False))∧∃ i,P.info? t=some i∧i.size=n
def SizeT(P:Program)(t:TypeId)(n:Nat) : Prop:=∃ i,P.info? t=some i∧i.size=n
def ZeroT(P:Program)(t:TypeId)(z:Value) : Prop:=∃ i,P.info? t=some i∧i.zero=some z
def FieldT(P:Program)(T f k:Nat) : Prop:=∃ fs F i,P.underlying T=some (.struct fs)∧fs[f]? = some F∧F.offset=k∧P.info? F.type=some i∧(i.size==0)=false
def SliceT(P:Program)(T E:TypeId) : Prop:=P.underlying T=some (.slice E)
def FuncF (P : Program) (f : FuncId) : Prop := ∃ fn, P.funcs[f]? = some fn ∧ (fn.name == "runtime.NumGoroutine") = false ∧ fn.body.isNone = false
section
variable {P : Program} {w : World}
theorem run_sizeOf'{t n:Nat}(h:SizeT P t n)(w:World) : (sizeOf t).run P w=.ok n w:=by
 obtain ⟨i,h1,h2⟩:=h
 simp [sizeOf,typeInfo,h1,h2]
theorem X8r{t:TypeId}{z:Value}(h:ZeroT P t z)(w:World) : (zeroValue t).run P w=.ok z w:=by
 obtain ⟨i,h1,h2⟩:=h
 simp [zeroValue,typeInfo,h1,h2]
theorem X0x{t:TypeId}{d:TypeDesc}(h:P.underlying t=some d)(w:World) : (underlying t).run P w=.ok d w:=by simp [underlying,h]
theorem X42{t:TypeId}(h:OneT P t)(w:World) : (isAgg t).run P w=.ok false w:=by
 obtain ⟨d,h1,h2⟩:=h
 cases d<;>simp_all [isAgg,underlying]
theorem X8s{t n:Nat}(h:AggT P t n)(w:World) : (isAgg t).run P w=.ok true w:=by
 obtain ⟨⟨d,h1,h2⟩,_⟩:=h
 cases d<;>simp_all [isAgg,underlying]
theorem X3w(p:Addr) : ∀ (l:List Value) (i:Nat) (acc:Array Value),(∀ j v,l[j]? = some v→w.cell? (p.add (i+j))=some v)→
  (loadCellsFrom p i l.length acc).run P w=.ok (acc++l.toArray) w
 | [],i,acc,_=>by simp [loadCellsFrom]
 | v::l,i,acc,h=>by
  have h0:=h 0 v rfl
  simp only [Nat.add_zero] at h0
  have ih:=X3w p l (i+1) (acc.push v) (fun j u hj=>by
   have:=h (j+1) u (by simpa using hj)
   rwa [show i+(j+1)=i+1+j from by omega] at this)
  simp [loadCellsFrom,load,Sem.run,h0,ih]
theorem X4t{t:TypeId}{p:Addr}{v:Value}{l:List Value}(h:OneT P t)(hc:At w p (v::l)) : (loadVar t p).run P w=.ok v w:=by
 have h0:=hc 0 v rfl
 have h1:p.add 0=p:=by simp [Addr.add]
 rw [h1] at h0
 simp [loadVar,X42 h,load,Sem.run,h0]
theorem X4u{t n:Nat}{p:Addr}{l:List Value}(h:AggT P t n)(hc:At w p l)(hn:l.length=n) : (loadVar t p).run P w=.ok (.agg l.toArray) w:=by
 subst hn
 have h1:=X3w (P:=P) (w:=w) p l 0 #[] (fun j v hj=>by rw [Nat.zero_add];exact hc j v hj)
 simp [loadVar,X8s h,run_sizeOf' h.2,loadCells,h1]
end
section
variable {P : Program} {a : Act} {w : World} {n : Nat} {e : Env} {ty : TypeId} {pos : String} {af : Array Edge} {g : Option (Nat × Bool)} {d : Option Tmp}
theorem Xn7{x:Operand}{v:Value}(hf:Fr a n e)(hx:ev e x=some v) : Ev P ⟨d,.move x,ty,pos,af,g⟩ a w v:=fun w' _=>by
 simp [execOp,hf.ev hx]
theorem X3{x:Operand}{v:Value}(hx:ev e x=some v) : EvW P ⟨d,.move x,ty,pos,af,g⟩ n e w v:=fun a hf=>Xn7 hf hx
theorem Xgk{x:Operand}{v:Value}(hf:Fr a n e)(hx:ev e x=some v) : Ev P ⟨d,.assign x,ty,pos,af,g⟩ a w v:=fun w' _=>by
 simp [execOp,hf.ev hx]
theorem X11{x:Operand}{v:Value}(hx:ev e x=some v) : EvW P ⟨d,.assign x,ty,pos,af,g⟩ n e w v:=fun a hf=>Xgk hf hx
theorem Xdu{c x y:Operand}{b:Bool}{v:Value}(hf:Fr a n e)(hc:ev e c=some (.bool b))(hx:ev e (if b then x else y)=some v) : Ev P ⟨d,.pick c x y,ty,pos,af,g⟩ a w v:=fun w' _=>by
 have h1:=hf.ev hc;have h2:=hf.ev hx
 cases b<;>simp_all [execOp,asBool]
theorem Xjv{c x y:Operand}{b:Bool}{v:Value}(hf:Fr a n e)(hc:ev e c=some (.bool b))(hb:b=true)(hx:ev e x=some v) : Ev P ⟨d,.pick c x y,ty,pos,af,g⟩ a w v:=by
 subst hb
 exact Xdu hf hc hx
theorem X7{c x y:Operand}{b:Bool}{v:Value}(hc:ev e c=some (.bool b))(hb:b=true)(hx:ev e x=some v) : EvW P ⟨d,.pick c x y,ty,pos,af,g⟩ n e w v:=fun a hf=>Xjv hf hc hb hx
theorem Xi5{c x y:Operand}{b:Bool}{v:Value}(hf:Fr a n e)(hc:ev e c=some (.bool b))(hb:b=false)(hx:ev e y=some v) : Ev P ⟨d,.pick c x y,ty,pos,af,g⟩ a w v:=by
 subst hb
 exact Xdu hf hc hx
theorem Xe{c x y:Operand}{b:Bool}{v:Value}(hc:ev e c=some (.bool b))(hb:b=false)(hx:ev e y=some v) : EvW P ⟨d,.pick c x y,ty,pos,af,g⟩ n e w v:=fun a hf=>Xi5 hf hc hb hx
theorem Xk6{t:TypeId}{x:Operand}{p:Addr}{v:Value}{l:List Value}(hf:Fr a n e)(hx:ev e x=some (.pointer (some p)))(h1:OneT P t)(hc:At w p (v::l)) : Ev P ⟨d,.load t x,ty,pos,af,g⟩ a w v:=fun w' hw=>by
 simp [execOp,hf.ev hx,Instr.loadAt,Instr.sureAddr,X4t h1 (hc.below hw)]
theorem X0{t:TypeId}{x:Operand}{p:Addr}{v:Value}{l:List Value}(hx:ev e x=some (.pointer (some p)))(h1:OneT P t)(hc:At w p (v::l)) : EvW P ⟨d,.load t x,ty,pos,af,g⟩ n e w v:=fun a hf=>Xk6 hf hx h1 hc
theorem Xha{t k:Nat}{x:Operand}{p:Addr}{l:List Value}(hf:Fr a n e)(hx:ev e x=some (.pointer (some p)))(hA:AggT P t k)(hc:At w p l)(hl:l.length=k) : Ev P ⟨d,.load t x,ty,pos,af,g⟩ a w (.agg l.toArray):=fun w' hw=>by
 simp [execOp,hf.ev hx,Instr.loadAt,Instr.sureAddr,X4u hA (hc.below hw) hl]
theorem X04{t k:Nat}{x:Operand}{p:Addr}{l:List Value}(hx:ev e x=some (.pointer (some p)))(hA:AggT P t k)(hc:At w p l)(hl:l.length=k) : EvW P ⟨d,.load t x,ty,pos,af,g⟩ n e w (.agg l.toArray):=fun a hf=>Xha hf hx hA hc hl
theorem X88{T f k:Nat}{x:Operand}{p:Addr}(hf:Fr a n e)(hx:ev e x=some (.pointer (some p)))(hF:FieldT P T f k) : Ev P ⟨d,.fieldAddr T x f,ty,pos,af,g⟩ a w (.pointer (some (p.add k))):=fun w' _=>by
 obtain ⟨fs,F,i,h1,h2,h3,h4,h5⟩:=hF;have h6:=run_sizeOf' ⟨i,h4,rfl⟩ w'
 simp [execOp,hf.ev hx,Instr.fieldAt,X0x h1,h2,Instr.sureAddr,fieldPlace,h6,h3]
 simp at h5
 simp [h5]
theorem X23{T f k:Nat}{x:Operand}{p:Addr}(hx:ev e x=some (.pointer (some p)))(hF:FieldT P T f k) : EvW P ⟨d,.fieldAddr T x f,ty,pos,af,g⟩ n e w (.pointer (some (p.add k))):=fun a hf=>X88 hf hx hF
theorem Xgb{T f k:Nat}{x:Operand}{b off m:Nat}(hf:Fr a n e)(hx:ev e x=some (.pointer (some ⟨b,off,none⟩)))(hF:FieldT P T f k)(hk:off+k=m) : Ev P ⟨d,.fieldAddr T x f,ty,pos,af,g⟩ a w (.pointer (some ⟨b,m,none⟩)):=by
 have:=X88 (P:=P) (w:=w) (d:=d) (ty:=ty) (pos:=pos) (af:=af) (g:=g) hf hx hF
 rwa [X1k,hk] at this
theorem Xmw{T f k:Nat}{x:Operand}{b off m:Nat}(hx:ev e x=some (.pointer (some ⟨b,off,none⟩)))(hF:FieldT P T f k)(hk:off+k=m) : EvW P ⟨d,.fieldAddr T x f,ty,pos,af,g⟩ n e w (.pointer (some ⟨b,m,none⟩)):=fun a hf=>Xgb hf hx hF hk
theorem Xd1{x:Operand}{k:Nat}{vs:List Value}{v:Value}(hf:Fr a n e)(hx:ev e x=some (.tuple vs.toArray))(hv:vs[k]? = some v) : Ev P ⟨d,.extract x k,ty,pos,af,g⟩ a w v:=fun w' _=>by
 simp [execOp,hf.ev hx,Instr.extract,hv]
theorem Xn{x:Operand}{k:Nat}{vs:List Value}{v:Value}(hx:ev e x=some (.tuple vs.toArray))(hv:vs[k]? = some v) : EvW P ⟨d,.extract x k,ty,pos,af,g⟩ n e w v:=fun a hf=>Xd1 hf hx hv
theorem Xqi{t:TypeId}{x:Operand}{b:Bool}(hf:Fr a n e)(hx:ev e x=some (.bool b)) : Ev P ⟨d,.unOp .not t x,ty,pos,af,g⟩ a w (.bool (!b)):=fun w' _=>by
 simp [execOp,hf.ev hx,Op.unary]
theorem X0y{t:TypeId}{x:Operand}{b:Bool}(hx:ev e x=some (.bool b)) : EvW P ⟨d,.unOp .not t x,ty,pos,af,g⟩ n e w (.bool (!b)):=fun a hf=>Xqi hf hx
theorem Xqa{t:TypeId}{x:Operand}{i:Int}(hf:Fr a n e)(hx:ev e x=some (.int .i64 i)) : Ev P ⟨d,.unOp .neg t x,ty,pos,af,g⟩ a w (.int .i64 (IntKind.i64.wrap (-i))):=fun w' _=>by
 simp [execOp,hf.ev hx,Op.unary,Op.intArith]
theorem Xwy{t:TypeId}{x:Operand}{i:Int}(hx:ev e x=some (.int .i64 i)) : EvW P ⟨d,.unOp .neg t x,ty,pos,af,g⟩ n e w (.int .i64 (IntKind.i64.wrap (-i))):=fun a hf=>Xqa hf hx
section
variable {t t' : TypeId} {x y : Operand} {i j : Int}
theorem Xj2(hf:Fr a n e)(hx:ev e x=some (.int .i64 i))(hy:ev e y=some (.int .i64 j)) : Ev P ⟨d,.binOp .add t x y t',ty,pos,af,g⟩ a w (.int .i64 (IntKind.i64.wrap (i+j))):=fun w' _=>by
 simp [execOp,hf.ev hx,hf.ev hy,eqGuard,binOp,Op.intArith]
theorem X43(hx:ev e x=some (.int .i64 i))(hy:ev e y=some (.int .i64 j)) : EvW P ⟨d,.binOp .add t x y t',ty,pos,af,g⟩ n e w (.int .i64 (IntKind.i64.wrap (i+j))):=fun a hf=>Xj2 hf hx hy
theorem Xnf(hf:Fr a n e)(hx:ev e x=some (.int .i64 i))(hy:ev e y=some (.int .i64 j))(h1:-9223372036854775808≤i+j)(h2:i+j≤9223372036854775807) : Ev P ⟨d,.binOp .add t x y t',ty,pos,af,g⟩ a w (.int .i64 (i+j)):=by
 have h:=Xj2 (P:=P) (w:=w) (d:=d) (ty:=ty) (pos:=pos) (af:=af) (g:=g) (t:=t) (t':=t') hf hx hy
 rwa [IntWalk.i64_in _ ⟨h1,h2⟩] at h
theorem Xw(hx:ev e x=some (.int .i64 i))(hy:ev e y=some (.int .i64 j))(h1:-9223372036854775808≤i+j)(h2:i+j≤9223372036854775807) : EvW P ⟨d,.binOp .add t x y t',ty,pos,af,g⟩ n e w (.int .i64 (i+j)):=fun a hf=>Xnf hf hx hy h1 h2
theorem Xn2(hf:Fr a n e)(hx:ev e x=some (.int .i64 i))(hy:ev e y=some (.int .i64 j))(h1:-9223372036854775808≤i-j)(h2:i-j≤9223372036854775807) : Ev P ⟨d,.binOp .sub t x y t',ty,pos,af,g⟩ a w (.int .i64 (i-j)):=by
 have h:Ev P ⟨d,.binOp .sub t x y t',ty,pos,af,g⟩ a w (.int .i64 (IntKind.i64.wrap (i-j))):=fun w' _=>by
  simp [execOp,hf.ev hx,hf.ev hy,eqGuard,binOp,Op.intArith]
 rwa [IntWalk.i64_in _ ⟨h1,h2⟩] at h
theorem X1g(hx:ev e x=some (.int .i64 i))(hy:ev e y=some (.int .i64 j))(h1:-9223372036854775808≤i-j)(h2:i-j≤9223372036854775807) : EvW P ⟨d,.binOp .sub t x y t',ty,pos,af,g⟩ n e w (.int .i64 (i-j)):=fun a hf=>Xn2 hf hx hy h1 h2
theorem Xrg(hf:Fr a n e)(hx:ev e x=some (.int .i64 i))(hy:ev e y=some (.int .i64 j)) : Ev P ⟨d,.binOp .sub t x y t',ty,pos,af,g⟩ a w (.int .i64 (IntKind.i64.wrap (i-j))):=fun w' _=>by
 simp [execOp,hf.ev hx,hf.ev hy,eqGuard,binOp,Op.intArith]
theorem Xbi(hx:ev e x=some (.int .i64 i))(hy:ev e y=some (.int .i64 j)) : EvW P ⟨d,.binOp .sub t x y t',ty,pos,af,g⟩ n e w (.int .i64 (IntKind.i64.wrap (i-j))):=fun a hf=>Xrg hf hx hy
theorem Xr1(hf:Fr a n e)(hx:ev e x=some (.int .i64 i))(hy:ev e y=some (.int .i64 j)) : Ev P ⟨d,.binOp .mul t x y t',ty,pos,af,g⟩ a w (.int .i64 (IntKind.i64.wrap (i*j))):=fun w' _=>by
 simp [execOp,hf.ev hx,hf.ev hy,eqGuard,binOp,Op.intArith]
theorem Xxc(hx:ev e x=some (.int .i64 i))(hy:ev e y=some (.int .i64 j)) : EvW P ⟨d,.binOp .mul t x y t',ty,pos,af,g⟩ n e w (.int .i64 (IntKind.i64.wrap (i*j))):=fun a hf=>Xr1 hf hx hy
theorem Xqn(hf:Fr a n e)(hx:ev e x=some (.int .i64 i))(hy:ev e y=some (.int .i64 j)) : Ev P ⟨d,.binOp .lss t x y t',ty,pos,af,g⟩ a w (.bool (decide (i<j))):=fun w' _=>by
 simp [execOp,hf.ev hx,hf.ev hy,eqGuard,binOp,Op.intCmp]
theorem X0l(hx:ev e x=some (.int .i64 i))(hy:ev e y=some (.int .i64 j)) : EvW P ⟨d,.binOp .lss t x y t',ty,pos,af,g⟩ n e w (.bool (decide (i<j))):=fun a hf=>Xqn hf hx hy
theorem Xr8(hf:Fr a n e)(hx:ev e x=some (.int .i64 i))(hy:ev e y=some (.int .i64 j)) : Ev P ⟨d,.binOp .leq t x y t',ty,pos,af,g⟩ a w (.bool (decide (i≤j))):=fun w' _=>by
 simp [execOp,hf.ev hx,hf.ev hy,eqGuard,binOp,Op.intCmp]
theorem Xk7(hx:ev e x=some (.int .i64 i))(hy:ev e y=some (.int .i64 j)) : EvW P ⟨d,.binOp .leq t x y t',ty,pos,af,g⟩ n e w (.bool (decide (i≤j))):=fun a hf=>Xr8 hf hx hy
theorem Xsa(hf:Fr a n e)(hx:ev e x=some (.int .i64 i))(hy:ev e y=some (.int .i64 j)) : Ev P ⟨d,.binOp .gtr t x y t',ty,pos,af,g⟩ a w (.bool (decide (j<i))):=fun w' _=>by
 simp [execOp,hf.ev hx,hf.ev hy,eqGuard,binOp,Op.intCmp]
theorem X6o(hx:ev e x=some (.int .i64 i))(hy:ev e y=some (.int .i64 j)) : EvW P ⟨d,.binOp .gtr t x y t',ty,pos,af,g⟩ n e w (.bool (decide (j<i))):=fun a hf=>Xsa hf hx hy
theorem Xqq(hf:Fr a n e)(hx:ev e x=some (.int .i64 i))(hy:ev e y=some (.int .i64 j)) : Ev P ⟨d,.binOp .geq t x y t',ty,pos,af,g⟩ a w (.bool (decide (j≤i))):=fun w' _=>by
 simp [execOp,hf.ev hx,hf.ev hy,eqGuard,binOp,Op.intCmp]
theorem X4g(hx:ev e x=some (.int .i64 i))(hy:ev e y=some (.int .i64 j)) : EvW P ⟨d,.binOp .geq t x y t',ty,pos,af,g⟩ n e w (.bool (decide (j≤i))):=fun a hf=>Xqq hf hx hy
theorem Xqy(hf:Fr a n e)(hx:ev e x=some (.int .i64 i))(hy:ev e y=some (.int .i64 j)) : Ev P ⟨d,.binOp .eql t x y t',ty,pos,af,g⟩ a w (.bool (i==j)):=fun w' _=>by
 simp [execOp,hf.ev hx,hf.ev hy,eqGuard,binOp,Op.intCmp]
theorem X0b(hx:ev e x=some (.int .i64 i))(hy:ev e y=some (.int .i64 j)) : EvW P ⟨d,.binOp .eql t x y t',ty,pos,af,g⟩ n e w (.bool (i==j)):=fun a hf=>Xqy hf hx hy
theorem Xr6(hf:Fr a n e)(hx:ev e x=some (.int .i64 i))(hy:ev e y=some (.int .i64 j)) : Ev P ⟨d,.binOp .neq t x y t',ty,pos,af,g⟩ a w (.bool (i != j)):=fun w' _=>by
 simp [execOp,hf.ev hx,hf.ev hy,eqGuard,binOp,Op.intCmp]
theorem X1j(hx:ev e x=some (.int .i64 i))(hy:ev e y=some (.int .i64 j)) : EvW P ⟨d,.binOp .neq t x y t',ty,pos,af,g⟩ n e w (.bool (i != j)):=fun a hf=>Xr6 hf hx hy
theorem X73{b c:Bool}(ht:P.underlying t=some .bool)(k:Nat)(w:World) : (Op.equalIn (k+1) t (.bool b) (.bool c)).run P w=.ok (b==c) w:=by
 simp [Op.equalIn,X0x ht]
theorem Xl9{b c:Bool}(ht:P.underlying t=some .bool)(hf:Fr a n e)(hx:ev e x=some (.bool b))(hy:ev e y=some (.bool c)) : Ev P ⟨d,.binOp .neq t x y t',ty,pos,af,g⟩ a w (.bool (b != c)):=fun w' _=>by
 have h:=X73 (P:=P) (b:=b) (c:=c) ht 9999 w'
 simp [execOp,hf.ev hx,hf.ev hy,eqGuard,binOp,Op.equal,Op.maxDepth,h]
 cases b<;>cases c<;>rfl
theorem X77{b c:Bool}(ht:P.underlying t=some .bool)(hx:ev e x=some (.bool b))(hy:ev e y=some (.bool c)) : EvW P ⟨d,.binOp .neq t x y t',ty,pos,af,g⟩ n e w (.bool (b != c)):=fun a hf=>Xl9 ht hf hx hy
theorem Xsh{x:Operand}{T E:TypeId}{A:Option Addr}{m c:Nat}(hf:Fr a n e)(hx:ev e x=some (.slice A m c))(hT:SliceT P T E) : Ev P ⟨d,.call ⟨.builtin .len,#[x],#[T]⟩,ty,pos,af,g⟩ a w (.int .i64 (m:Int)):=fun w' _=>by
 have:=X0x (P:=P) hT w'
 simp [execOp,resolve,invoke,builtin,Builtin.len_,hf.ev hx,this,goInt]
theorem X0d{x:Operand}{T E:TypeId}{A:Option Addr}{m c:Nat}(hx:ev e x=some (.slice A m c))(hT:SliceT P T E) : EvW P ⟨d,.call ⟨.builtin .len,#[x],#[T]⟩,ty,pos,af,g⟩ n e w (.int .i64 (m:Int)):=fun a hf=>Xsh hf hx hT
theorem Xbl{k:FuncId}{cs:List Operand}{vs:List Value}(hf:Fr a n e)(hx:evs e cs=some vs) : Ev P ⟨d,.makeFunc (.func k) #[] cs.toArray,ty,pos,af,g⟩ a w (.func (.func k) #[] vs.toArray):=fun w' _=>by
 simp [execOp,Instr.makeFunc,hf.evs hx]
theorem X3j{k:FuncId}{cs:List Operand}{vs:List Value}(hx:evs e cs=some vs) : EvW P ⟨d,.makeFunc (.func k) #[] cs.toArray,ty,pos,af,g⟩ n e w (.func (.func k) #[] vs.toArray):=fun a hf=>Xbl hf hx
end
end
section
variable {P : Program} {a : Act} {w : World} {n : Nat} {e : Env} {ty : TypeId} {pos : String} {af : Array Edge} {g : Option (Nat × Bool)} {d : Option Tmp}
def IsNew(w:World)(T:TypeId)(zs:List Value)(v:Value)(w':World) : Prop:=
 ∃ b,v=.pointer (some ⟨b,0,none⟩)∧w.heap.size≤b∧Below w.heap.size w w'∧Blk w' b T zs
theorem X4c(w:World)(T:TypeId)(zs:List Value) : Blk (w.alloc (.cells zs.toArray T)) w.heap.size T zs:=heap_alloc_new w _
theorem X78(w:World)(T:TypeId)(zs:List Value) : IsNew w T zs (.pointer (some ⟨w.heap.size,0,none⟩)) (w.alloc (.cells zs.toArray T)):=
 ⟨_,rfl,Qb _,(Below.refl _ _).alloc (Qb _) _,X4c w T zs⟩
theorem X68(T:TypeId)(v:Value)(w:World) : (newVar T v).run P w=.ok ⟨w.heap.size,0,none⟩ (w.alloc (.cells v.cells T)):=by
 simp [newVar,newRow,newObj,Sem.run]
theorem Xj5{T:TypeId}{z:Value}{zs:List Value}(hz:ZeroT P T z)(hzs:z.cells.toList=zs) : Ef P ⟨d,.alloc T,ty,pos,af,g⟩ a w (IsNew w T zs):=by
 subst hzs
 have h:(execOp a.eval ⟨d,.alloc T,ty,pos,af,g⟩).run P w=.ok (.value (.pointer (some ⟨w.heap.size,0,none⟩))) (w.alloc (.cells z.cells T)):=by
  simp [execOp,Instr.alloc,X8r hz,X68]
 refine (Ef.of_run h).mono fun v w' ⟨e1,e2⟩=>?_
 subst e1;subst e2
 have:=X78 w T z.cells.toList
 simpa using this
theorem Xu{n:Nat}{e:List (Nat×Value)}{T:TypeId}{z:Value}{zs:List Value}(hz:ZeroT P T z)(hzs:z.cells.toList=zs) : EfW P ⟨d,.alloc T,ty,pos,af,g⟩ n e w (IsNew w T zs):=fun a _=>Xj5 hz hzs
theorem Xqk{T:TypeId}{x:Operand}{v:Value}{zs:List Value}(hf:Fr a n e)(hx:ev e x=some v)(hzs:v.cells.toList=zs) : Ef P ⟨d,.box T x,ty,pos,af,g⟩ a w (IsNew w T zs):=by
 subst hzs
 have h:(execOp a.eval ⟨d,.box T x,ty,pos,af,g⟩).run P w=.ok (.value (.pointer (some ⟨w.heap.size,0,none⟩))) (w.alloc (.cells v.cells T)):=by
  simp [execOp,Instr.box,X68,hf.ev hx]
 refine (Ef.of_run h).mono fun v' w' ⟨e1,e2⟩=>?_
 subst e1;subst e2
 have:=X78 w T v.cells.toList
 simpa using this
theorem X0c{T:TypeId}{x:Operand}{v:Value}{zs:List Value}(hx:ev e x=some v)(hzs:v.cells.toList=zs) : EfW P ⟨d,.box T x,ty,pos,af,g⟩ n e w (IsNew w T zs):=fun a hf=>Xqk hf hx hzs
def splice(l:List Value)(k:Nat)(vs:List Value) : List Value:=l.take k++vs++l.drop (k+vs.length)
def one:Value→Bool
 | .agg _=>false
 | .tuple _=>false
 | _=>true
theorem Xac(w:World)(b k:Nat)(v:Value) : Only b w (w.setCell ⟨b,k,none⟩ v):=
 ⟨rfl,rfl,rfl,by simp [World.setCell],fun i hi=>Below.heap_setCell _ _ _ _ hi⟩
theorem Xbz{T:TypeId}{l:List Value}{b:Nat}(h:Blk w b T l)(k:Nat)(v:Value) : Blk (w.setCell ⟨b,k,none⟩ v) b T (l.set k v):=by
 unfold Blk at h ⊢
 simp [World.setCell,Array.getElem?_modify,h]
theorem X3m{b off:Nat}{T:TypeId} : ∀ (vs:List Value) (w:World) (l:List Value) (i:Nat),Blk w b T l→off+i+vs.length≤l.length→vs.all one=true→
  ∃ w',(storeCells ⟨b,off,none⟩ vs i).run P w=.ok () w'∧Only b w w'∧Blk w' b T (splice l (off+i) vs)
 | [],w,l,i,hb,_,_=>⟨w,by simp [storeCells],Only.refl _ _,by simpa [splice] using hb⟩
 | v::vs,w,l,i,hb,hl,h1=>by
  simp only [List.all_cons,Qd,Qs] at h1 hl
  have hc:w.cell? ⟨b,off+i,none⟩=some (l[off+i]'(by omega)):=by rw [hb.cell];exact Qc (by omega)
  have hfz:w.frozen? ⟨b,off+i,none⟩=false:=by
   have:=hb
   unfold Blk at this
   simp [World.frozen?,this]
  obtain ⟨w',hr,ho,hb'⟩:=X3m (off:=off) vs (w.setCell ⟨b,off+i,none⟩ v) (l.set (off+i) v) (i+1) (Xbz hb _ _) (by rw [List.length_set];omega) h1.2
  refine ⟨w',?_,(Xac w b _ v).trans ho,?_⟩
  ·have h0:(store (⟨b,off+i,none⟩ : Addr) v).run P w=.ok () (w.setCell ⟨b,off+i,none⟩ v):=by
    have h2:=h1.1
    unfold one at h2
    split at h2
    ·cases h2
    ·cases h2
    ·rename_i hx1 hx2
     cases v<;>simp_all [store,Sem.run]
   simp only [storeCells,X1k]
   simp [h0,hr]
  ·have:splice (l.set (off+i) v) (off+(i+1)) vs=splice l (off+i) (v::vs):=by
    unfold splice
    have e1:off+(i+1)=off+i+1:=by omega
    rw [e1,Wf (by rw [List.length_set];omega),List.take_set_of_le (by omega),List.getElem_set_self,List.drop_set_of_lt (by omega)]
    simp only [Qs,Qx,Wa,List.nil_append]
    rw [show off+i+1+vs.length=off+i+(vs.length+1) from by omega]
   rw [this] at hb'
   exact hb'
def Stored(w:World)(b:Nat)(T:TypeId)(l:List Value)(_:Value)(w':World) : Prop:=Only b w w'∧Blk w' b T l
theorem X7x{t T:TypeId}{x y:Operand}{b off k:Nat}{v:Value}{l l' vs:List Value}(hf:Fr a n e)(hx:ev e x=some (.pointer (some ⟨b,off,none⟩)))(hy:ev e y=some v)
  (hs:SizeT P t k) (hb:Blk w b T l) (hvs:v.cells.toList=vs) (hk:Nat.beq vs.length k=true) (h1:vs.all one=true) (hl:Nat.ble (off+k) l.length=true) (hl':splice l off vs=l') :
  Ef P ⟨d,.store t x y,ty,pos,af,g⟩ a w (Stored w b T l'):=by
 subst hl'
 have hk':vs.length=k:=Nat.eq_of_beq_eq_true hk
 have hll:off+k≤l.length:=Nat.le_of_ble_eq_true hl
 obtain ⟨w',hr,ho,hb'⟩:=X3m (P:=P) (b:=b) (off:=off) (T:=T) vs w l 0 hb (by omega) h1
 refine (Ef.of_skip (w':=w') ?_).mono fun v w1 ⟨_,e2⟩=>by subst e2;exact ⟨ho,by simpa using hb'⟩
 have hc:v.cells.size=k:=by rw [← hk',← hvs];simp
 simp [execOp,Instr.storeAt,Instr.sureAddr,hf.ev hx,hf.ev hy,storeVar,run_sizeOf' hs,hc,hvs,hr]
theorem X1a{t T:TypeId}{x y:Operand}{b off k:Nat}{v:Value}{l l' vs:List Value}(hx:ev e x=some (.pointer (some ⟨b,off,none⟩)))(hy:ev e y=some v)(hs:SizeT P t k)(hb:Blk w b T l)(hvs:v.cells.toList=vs)(hk:Nat.beq vs.length k=true)(h1:vs.all one=true)(hl:Nat.ble (off+k) l.length=true)(hl':splice l off vs=l') : EfW P ⟨d,.store t x y,ty,pos,af,g⟩ n e w (Stored w b T l'):=fun a hf=>X7x hf hx hy hs hb hvs hk h1 hl hl'
def Ret(P:Program)(f:FuncId)(args:List Value)(w:World)(R:Value→World→Prop) : Prop:=Calls P f args.toArray w fun e w'=>∃ v,e=.returned v∧R v w'
theorem Ret.mono{f:FuncId}{args:List Value}{R R':Value→World→Prop}(h:Ret P f args w R)(hr:∀ v w',R v w'→R' v w') : Ret P f args w R':=
 Calls.mono h fun _ _ ⟨v,he,hR⟩=>⟨v,he,hr _ _ hR⟩
theorem X6n{f:FuncId}(hF:FuncF P f)(args:Array Value)(w:World) : (callFunc f args).run P w=.ok (.enter f args) w:=by
 obtain ⟨fn,h1,h2,h3⟩:=hF
 have h2' : ¬ fn.name = "runtime.NumGoroutine" := by simpa using h2
 have h3':¬ fn.body=none:=by intro hb;rw [hb] at h3;cases h3
 simp [callFunc,h1,h2',h3']
theorem Xm6{f:FuncId}{xs:List Operand}{vs:List Value}{ts:Array TypeId}{R:Value→World→Prop}(hf:Fr a n e)(hx:evs e xs=some vs)(hF:FuncF P f)(h:Ret P f vs w R) :
  Ef P ⟨d,.call ⟨.value (.func f),xs.toArray,ts⟩,ty,pos,af,g⟩ a w R:=by
 have hm:=hf.evs hx
 unfold Ef
 have hr:(execOp a.eval ⟨d,.call ⟨.value (.func f),xs.toArray,ts⟩,ty,pos,af,g⟩).run P w=.ok (.enter f vs.toArray) w:=by
  simp [execOp,resolve,Act.eval,Deferred.ofValue,invoke,hm,X6n hF]
 rw [hr]
 exact h
theorem X5s{f:FuncId}{xs:List Operand}{vs:List Value}{ts:Array TypeId}{R:Value→World→Prop}(hx:evs e xs=some vs)(hF:FuncF P f)(h:Ret P f vs w R) : EfW P ⟨d,.call ⟨.value (.func f),xs.toArray,ts⟩,ty,pos,af,g⟩ n e w R:=fun a hf=>Xm6 hf hx hF h
theorem Xhs{f:FuncId}{x:Operand}{xs:List Operand}{vs cs:List Value}{ts:Array TypeId}{R:Value→World→Prop}(hf:Fr a n e)(hv:ev e x=some (.func (.func f) #[] cs.toArray))(hx:evs e xs=some vs)(hF:FuncF P f)(h:Ret P f (vs++cs) w R) :
  Ef P ⟨d,.call ⟨.value x,xs.toArray,ts⟩,ty,pos,af,g⟩ a w R:=by
 have hm:=hf.evs hx
 have hv':=hf.ev hv
 unfold Ef
 have hr:(execOp a.eval ⟨d,.call ⟨.value x,xs.toArray,ts⟩,ty,pos,af,g⟩).run P w=.ok (.enter f (vs++cs).toArray) w:=by
  simp [execOp,resolve,hv',Deferred.ofValue,invoke,hm,X6n hF]
 rw [hr]
 exact h
theorem X64{f:FuncId}{x:Operand}{xs:List Operand}{vs cs:List Value}{ts:Array TypeId}{R:Value→World→Prop}(hv:ev e x=some (.func (.func f) #[] cs.toArray))(hx:evs e xs=some vs)(hF:FuncF P f)(h:Ret P f (vs++cs) w R) : EfW P ⟨d,.call ⟨.value x,xs.toArray,ts⟩,ty,pos,af,g⟩ n e w R:=fun a hf=>Xhs hf hv hx hF h
end
section
variable {α : Type}
def Rd(w:World)(B:Nat)(E:TypeId)(enc:α→List Value)(A:Option Addr)(l:List α) : Prop:=
 l≠[]→∃ b off cs fz,A=some ⟨b,off,none⟩∧b<B∧w.heap[b]? = some (.cells cs E fz)∧∀ j v,(l.flatMap enc)[j]? = some v→cs[off+j]? = some v
theorem Rd.nil(w:World)(B:Nat)(E:TypeId)(enc:α→List Value)(A:Option Addr) : Rd w B E enc A []:=fun h=>absurd rfl h
theorem Rd.chg{w w':World}{B:Nat}{E:TypeId}{enc:α→List Value}{A:Option Addr}{l:List α}(h:Rd w B E enc A l)(hk:∀ b cs fz,b<B→w.heap[b]? = some (.cells cs E fz)→w'.heap[b]? = w.heap[b]?) : Rd w' B E enc A l:=fun hl=>by
 obtain ⟨b,off,cs,fz,h1,h2,h3,h4⟩:=h hl;exact ⟨b,off,cs,fz,h1,h2,(hk b cs fz h2 h3).trans h3,h4⟩
theorem Rd.below{w w':World}{B:Nat}{E:TypeId}{enc:α→List Value}{A:Option Addr}{l:List α}(h:Rd w B E enc A l)(hb:Below w.heap.size w w') : Rd w' B E enc A l:=
 h.chg fun b _ _ _ hh=>hb.block b (by
  rcases W4 b w.heap.size with h'|h'
  ·exact h'
  ·rw [We h'] at hh;cases hh)
theorem Rd.below'{w w':World}{B:Nat}{E:TypeId}{enc:α→List Value}{A:Option Addr}{l:List α}(h:Rd w B E enc A l)(hb:Below B w w') : Rd w' B E enc A l:=
 h.chg fun b _ _ hB _=>hb.block b hB
theorem Rd.only{w w':World}{B b:Nat}{E:TypeId}{enc:α→List Value}{A:Option Addr}{l:List α}(h:Rd w B E enc A l)(ho:Only b w w')(hB:B≤b) : Rd w' B E enc A l:=
 h.chg fun k _ _ hk _=>ho.block k (by omega)
theorem Rd.onlyT{w w':World}{B b:Nat}{E T:TypeId}{lc:List Value}{enc:α→List Value}{A:Option Addr}{l:List α}(h:Rd w B E enc A l)(ho:Only b w w')(hb:Blk w b T lc)(hT:Nat.beq E T=false) : Rd w' B E enc A l:=
 h.chg fun k cs fz _ hh=>ho.block k (by
  rintro rfl
  unfold Blk at hb
  rw [hh] at hb
  injection hb with hb
  injection hb with _ e _
  subst e
  simp at hT)
theorem Rd.drew{w:World}{B:Nat}{E:TypeId}{enc:α→List Value}{A:Option Addr}{l:List α}(h:Rd w B E enc A l) : Rd w.drew B E enc A l:=h
theorem X62{enc:α→List Value}{sz:Nat}(hsz:∀ x,(enc x).length=sz) : ∀ (l:List α) (k:Nat) (x:α),l[k]? = some x→∀ j v,(enc x)[j]? = some v→(l.flatMap enc)[k*sz+j]? = some v
 | [],k,x,h=>by simp at h
 | y::l,0,x,h=>by
  intro j v hj
  obtain rfl:y=x:=by simpa using h
  simp only [Wc,Nat.zero_mul,Nat.zero_add]
  rw [List.getElem?_append_left (Qg.1 hj).1]
  exact hj
 | y::l,k+1,x,h=>by
  intro j v hj
  simp only [Wc]
  have h1:(k+1)*sz+j=sz+(k*sz+j):=by rw [Wb];omega
  rw [h1,W5 (by rw [hsz];omega),hsz,Nat.add_sub_cancel_left]
  exact X62 hsz l k x (by simpa using h) j v hj
theorem Xo{enc:α→List Value}{sz:Nat}(hsz:∀ x,(enc x).length=sz)(l:List α) : (l.flatMap enc).length=l.length*sz:=by
 induction l with
 | nil=>simp
 | cons x l ih=>simp only [Wc,Qh,hsz,ih,Qs,Wb];omega
theorem Rd.at{w:World}{B:Nat}{E:TypeId}{enc:α→List Value}{A:Option Addr}{l:List α}{sz:Nat}(hsz:∀ x,(enc x).length=sz)(h:Rd w B E enc A l){k:Nat}{x:α}(hk:l[k]? = some x) :
  ∃ p,A=some p∧At w (p.add (k*sz)) (enc x):=by
 have hl:l≠[]:=by rintro rfl;simp at hk
 obtain ⟨b,off,cs,fz,rfl,h2,h3,h4⟩:=h hl
 refine ⟨_,rfl,fun j v hj=>?_⟩
 rw [X1k,X1k]
 have:=h4 _ _ (X62 hsz l k x hk j v hj)
 simp only [World.cell?,h3]
 rw [Nat.add_assoc]
 simpa using this
theorem Rd.of_blk{w:World}{b:Nat}{E:TypeId}{enc:α→List Value}{l:List α}{cs:List Value}(h:Blk w b E cs)(hcs:l.flatMap enc=cs)(B:Nat)(hB:b<B) : Rd w B E enc (some ⟨b,0,none⟩) l:=fun _=>by
 subst hcs
 exact ⟨b,0,_,_,rfl,hB,h,fun j v hj=>by simpa using hj⟩
def Own(w:World)(B0:Nat)(E:TypeId)(sz:Nat)(enc:α→List Value)(A:Option Addr)(c:Nat)(l:List α) : Prop:=w.ownsRow B0 E sz (.slice A l.length c) l.length (l.flatMap enc)
theorem Own.rd{w:World}{B0:Nat}{E:TypeId}{sz:Nat}{enc:α→List Value}{A:Option Addr}{c:Nat}{l:List α}(h:Own w B0 E sz enc A c l) : Rd w w.heap.size E enc A l:=fun hl=>by
 rcases h.2 with ⟨h1,h2⟩|⟨g,cap,cur,h1,h2,h3,h4,h5,h6,h7⟩
 ·exact absurd (List.eq_nil_of_length_eq_zero h2) hl
 ·injection h1 with h1
  refine ⟨g,0,cur,_,h1,(Qp.1 h3).1,h3,fun j v hj=>?_⟩
  rw [← h7,List.getElem?_take] at hj
  split at hj
  ·simpa using hj
  ·cases hj
theorem Own.nil(w:World)(B0:Nat)(E:TypeId)(sz:Nat)(enc:α→List Value) : Own w B0 E sz enc none 0 []:=⟨by simp,.inl ⟨rfl,rfl⟩⟩
theorem Own.empty{w:World}{B0 b:Nat}{E:TypeId}{sz:Nat}{enc:α→List Value}(h:Blk w b E [])(hb:B0≤b) : Own w B0 E sz enc (some ⟨b,0,none⟩) 0 ([] : List α):=
 ⟨by simp,.inr ⟨b,0,#[],rfl,hb,h,Qb _,by simp [maxLen],by simp,by simp⟩⟩
theorem Own.of_blk{w:World}{B0 b:Nat}{E:TypeId}{sz:Nat}{enc:α→List Value}{l:List α}{cs:List Value}(h:Blk w b E cs)(hb:B0≤b)(hcs:l.flatMap enc=cs)(hsz:∀ x,(enc x).length=sz)(hm:l.length≤maxLen) : Own w B0 E sz enc (some ⟨b,0,none⟩) l.length l:=by
 subst hcs
 have hl:=Xo hsz l;exact ⟨hl,.inr ⟨b,l.length,_,rfl,hb,h,Qb _,hm,by simpa using hl,by simp only [List.toList_toArray];rw [← hl];exact List.take_length⟩⟩
theorem Own.below{w w':World}{B0:Nat}{E:TypeId}{sz:Nat}{enc:α→List Value}{A:Option Addr}{c:Nat}{l:List α}(h:Own w B0 E sz enc A c l)(hb:Below w.heap.size w w') : Own w' B0 E sz enc A c l:=by
 refine ⟨h.1,?_⟩
 rcases h.2 with h1|⟨g,cap,cur,h1,h2,h3,h4⟩
 ·exact .inl h1
 ·exact .inr ⟨g,cap,cur,h1,h2,(hb.block g (Qp.1 h3).1).trans h3,h4⟩
theorem Own.onlyT{w w':World}{B0 b:Nat}{E T:TypeId}{lc:List Value}{sz:Nat}{enc:α→List Value}{A:Option Addr}{c:Nat}{l:List α}(h:Own w B0 E sz enc A c l)(ho:Only b w w')(hb:Blk w b T lc)(hT:Nat.beq E T=false) : Own w' B0 E sz enc A c l:=by
 refine ⟨h.1,?_⟩
 rcases h.2 with h1|⟨g,cap,cur,h1,h2,h3,h4⟩
 ·exact .inl h1
 ·refine .inr ⟨g,cap,cur,h1,h2,(ho.block g ?_).trans h3,h4⟩
  rintro rfl
  unfold Blk at hb
  rw [h3] at hb
  injection hb with hb
  injection hb with _ e _
  subst e
  simp at hT
theorem Own.drew{w:World}{B0:Nat}{E:TypeId}{sz:Nat}{enc:α→List Value}{A:Option Addr}{c:Nat}{l:List α}(h:Own w B0 E sz enc A c l) : Own w.drew B0 E sz enc A c l:=h
theorem Own.block{w:World}{B0:Nat}{E:TypeId}{sz:Nat}{enc:α→List Value}{A:Option Addr}{c:Nat}{l:List α}(h:Own w B0 E sz enc A c l){k:Nat}(hk:(Value.slice A l.length c).ownBlock=some k) : B0≤k∧k<w.heap.size∧∃ cs fz,w.heap[k]? = some (.cells cs E fz):=by
 rcases h.2 with ⟨h1,_⟩|⟨g,cap,cur,h1,h2,h3,_⟩
 ·rw [h1] at hk;simp [Value.ownBlock] at hk
 ·rw [h1] at hk
  simp [Value.ownBlock] at hk
  subst hk
  exact ⟨h2,(Qp.1 h3).1,_,_,h3⟩
def Away(A:Option Addr)(b:Nat) : Prop:=∀ p,A=some p→p.block≠b
def AwayR(l:List α)(A:Option Addr)(b:Nat) : Prop:=l≠[]→Away A b
theorem Away.no(b:Nat) : Away none b:=fun p h=>by cases h
theorem Away.ne{g off b:Nat}(h:b≠g) : Away (some ⟨g,off,none⟩) b:=fun p hp=>by injection hp with hp;subst hp;exact Ne.symm h
theorem Rd.away{w:World}{B b:Nat}{E:TypeId}{enc:α→List Value}{A:Option Addr}{l:List α}(h:Rd w B E enc A l)(hl:w.heap.size≤b) : AwayR l A b:=fun hne p hp=>by
 obtain ⟨g,off,cs,fz,h1,h2,h3,h4⟩:=h hne
 rw [hp] at h1
 injection h1 with h1
 subst h1
 have:=(Qp.1 h3).1
 intro e
 simp only at e
 omega
theorem Own.away{w:World}{B0 b:Nat}{E:TypeId}{sz:Nat}{enc:α→List Value}{A:Option Addr}{c:Nat}{l:List α}(h:Own w B0 E sz enc A c l)(hl:w.heap.size≤b) : Away A b:=fun p hp=>by
 rcases h.2 with ⟨h1,_⟩|⟨g,cap,cur,h1,h2,h3,_⟩
 ·injection h1 with h1;rw [h1] at hp;cases hp
 ·injection h1 with h1
  rw [h1] at hp
  injection hp with hp
  subst hp
  have:=(Qp.1 h3).1
  intro e
  simp only at e
  omega
theorem Own.awayNew{w:World}{B0 b:Nat}{E:TypeId}{sz:Nat}{enc:α→List Value}{A:Option Addr}{c:Nat}{l:List α}(h:Own w B0 E sz enc A c l)(hl:b<B0) : Away A b:=fun p hp=>by
 rcases h.2 with ⟨h1,_⟩|⟨g,cap,cur,h1,h2,h3,_⟩
 ·injection h1 with h1;rw [h1] at hp;cases hp
 ·injection h1 with h1
  rw [h1] at hp
  injection hp with hp
  subst hp
  intro e
  simp only at e
  omega
theorem Away.r{l:List α}{A:Option Addr}{b:Nat}(h:Away A b) : AwayR l A b:=fun _=>h
theorem Rd.onlyA{w w':World}{B b:Nat}{E:TypeId}{enc:α→List Value}{A:Option Addr}{l:List α}(h:Rd w B E enc A l)(ho:Only b w w')(ha:AwayR l A b) : Rd w' B E enc A l:=fun hne=>by
 obtain ⟨g,off,cs,fz,h1,h2,h3,h4⟩:=h hne;exact ⟨g,off,cs,fz,h1,h2,(ho.block g (ha hne _ h1)).trans h3,h4⟩
theorem Own.onlyA{w w':World}{B0 b:Nat}{E:TypeId}{sz:Nat}{enc:α→List Value}{A:Option Addr}{c:Nat}{l:List α}(h:Own w B0 E sz enc A c l)(ho:Only b w w')(ha:Away A b) : Own w' B0 E sz enc A c l:=by
 refine ⟨h.1,?_⟩
 rcases h.2 with h1|⟨g,cap,cur,h1,h2,h3,h4⟩
 ·exact .inl h1
 ·injection h1 with h1 h1' h1''
  exact .inr ⟨g,cap,cur,by rw [h1,h1''],h2,(ho.block g (ha _ h1)).trans h3,h4⟩
def Appended(w:World)(B0:Nat)(E:TypeId)(sz:Nat)(enc:α→List Value)(A:Option Addr)(c:Nat)(l l2:List α)(v:Value)(w':World) : Prop:=
 ∃ A' c',v=.slice A' (l++l2).length c'∧Own w' B0 E sz enc A' c' (l++l2)∧w.grownBy w' (Value.slice A l.length c).ownBlock∧∀ b,b<w.heap.size→Away A b→Away A' b
theorem Blk.appT{w w':World}{b:Nat}{T:TypeId}{lc:List Value}{B0:Nat}{E:TypeId}{sz:Nat}{enc:α→List Value}{A:Option Addr}{c:Nat}{l:List α}(h:Blk w b T lc)(ho:Own w B0 E sz enc A c l)(hg:w.grownBy w' (Value.slice A l.length c).ownBlock)(hT:Nat.beq E T=false) : Blk w' b T lc:=by
 refine (hg.block b h.lt fun hk=>?_).trans h
 obtain ⟨_,_,cs,fz,h3⟩:=ho.block hk.symm
 unfold Blk at h
 rw [h3] at h
 injection h with h
 injection h with _ e _
 subst e
 simp at hT
theorem Blk.appB{w w':World}{b:Nat}{T:TypeId}{lc:List Value}{B0:Nat}{E:TypeId}{sz:Nat}{enc:α→List Value}{A:Option Addr}{c:Nat}{l:List α}(h:Blk w b T lc)(ho:Own w B0 E sz enc A c l)(hg:w.grownBy w' (Value.slice A l.length c).ownBlock)(hb:b<B0) : Blk w' b T lc:=
 (hg.block b h.lt fun hk=>by have:=(ho.block hk.symm).1;omega).trans h
theorem Blk.appA{w w':World}{b:Nat}{T:TypeId}{lc:List Value}{A:Option Addr}{n c:Nat}(h:Blk w b T lc)(hg:w.grownBy w' (Value.slice A n c).ownBlock)(ha:Away A b) : Blk w' b T lc:=by
 refine (hg.block b h.lt fun hk=>?_).trans h
 cases A with
 | none=>simp [Value.ownBlock] at hk
 | some q=>
  simp only [Value.ownBlock,Option.some.injEq] at hk
  exact ha q rfl hk.symm
theorem Rd.appT{β:Type}{w w':World}{B:Nat}{E':TypeId}{enc':β→List Value}{A':Option Addr}{l':List β}{B0:Nat}{E:TypeId}{sz:Nat}{enc:α→List Value}{A:Option Addr}{c:Nat}{l:List α}(h:Rd w B E' enc' A' l')(ho:Own w B0 E sz enc A c l)(hg:w.grownBy w' (Value.slice A l.length c).ownBlock)(hT:Nat.beq E E'=false) : Rd w' B E' enc' A' l':=
 h.chg fun k cs fz _ hh=>hg.block k (Qp.1 hh).1 fun hk=>by
  obtain ⟨_,_,cs',fz',h3⟩:=ho.block hk.symm
  rw [h3] at hh
  injection hh with hh
  injection hh with _ e _
  subst e
  simp at hT
theorem Rd.appB{β:Type}{w w':World}{B:Nat}{E':TypeId}{enc':β→List Value}{A':Option Addr}{l':List β}{B0:Nat}{E:TypeId}{sz:Nat}{enc:α→List Value}{A:Option Addr}{c:Nat}{l:List α}(h:Rd w B E' enc' A' l')(ho:Own w B0 E sz enc A c l)(hg:w.grownBy w' (Value.slice A l.length c).ownBlock)(hB:B≤B0) : Rd w' B E' enc' A' l':=
 h.chg fun k cs fz hk hh=>hg.block k (Qp.1 hh).1 fun hk'=>by have:=(ho.block hk'.symm).1;omega
theorem Own.appT{β:Type}{w w':World}{B1:Nat}{E':TypeId}{sz':Nat}{enc':β→List Value}{A':Option Addr}{c':Nat}{l':List β}{B0:Nat}{E:TypeId}{sz:Nat}{enc:α→List Value}{A:Option Addr}{c:Nat}{l:List α}(h:Own w B1 E' sz' enc' A' c' l')(ho:Own w B0 E sz enc A c l)(hg:w.grownBy w' (Value.slice A l.length c).ownBlock)(hT:Nat.beq E E'=false) : Own w' B1 E' sz' enc' A' c' l':=by
 refine ⟨h.1,?_⟩
 rcases h.2 with h1|⟨g,cap,cur,h1,h2,h3,h4⟩
 ·exact .inl h1
 ·refine .inr ⟨g,cap,cur,h1,h2,(hg.block g (Qp.1 h3).1 fun hk=>?_).trans h3,h4⟩
  obtain ⟨_,_,cs',fz',h5⟩:=ho.block hk.symm
  rw [h5] at h3
  injection h3 with h3
  injection h3 with _ e _
  subst e
  simp at hT
theorem Below.app{w0 w w':World}{B B0:Nat}{E:TypeId}{sz:Nat}{enc:α→List Value}{A:Option Addr}{c:Nat}{l:List α}(h:Below B w0 w)(ho:Own w B0 E sz enc A c l)(hg:w.grownBy w' (Value.slice A l.length c).ownBlock)(hB:B≤B0)(hs:B≤w.heap.size) : Below B w0 w':=
 h.grown hg hs fun k hk=>by have:=(ho.block hk).1;omega
def InfoT(P:Program)(E:TypeId)(sz bytes:Nat) : Prop:=∃ i z,P.info? E=some i∧i.zero=some z∧i.size=sz∧i.bytes=bytes∧z.cells.size=sz∧0<sz
section
variable {P : Program} {a : Act} {w : World} {n : Nat} {e : Env} {ty : TypeId} {pos : String} {af : Array Edge} {g : Option (Nat × Bool)} {d : Option Tmp}
theorem Xg7{T E:TypeId}{sz bytes B B0:Nat}{x y:Operand}{enc:α→List Value}{A A2:Option Addr}{c c2:Nat}{l l2:List α}(hf:Fr a n e)(hx:ev e x=some (.slice A l.length c))(hy:ev e y=some (.slice A2 l2.length c2))
  (hT:SliceT P T E) (hi:InfoT P E sz bytes) (hsz:∀ x,(enc x).length=sz) (hone:∀ x,(enc x).all one=true) (ho:Own w B0 E sz enc A c l) (hr:Rd w B E enc A2 l2) (h63:l.length+l2.length≤maxLen) (hbytes:(l.length+l2.length)*bytes≤140737488355328) (hB0:B0≤w.heap.size) :
  Ef P ⟨d,.call ⟨.builtin .append,#[x,y],#[T,T]⟩,ty,pos,af,g⟩ a w (Appended w B0 E sz enc A c l l2):=by
 obtain ⟨i,z,hi1,hi2,hi3,hi4,hi5,hi6⟩:=hi
 by_cases hl2:l2=[]
 ·subst hl2
  have hrun:(Builtin.append_ #[T,T] ty #[.slice A l.length c,.slice A2 0 c2]).run P w=.ok (.slice A l.length c) w:=by
   rcases ho.2 with ⟨h1,h2⟩|⟨gg,cap,cur,h1,h2,h3,h4,h5,h6,h7⟩
   ·injection h1 with h1 h1' h1''
    subst h1
    cases A2<;>simp [Builtin.append_,X0x hT,sizeOf,typeInfo,hi1,Builtin.lenOf,Builtin.firstCells,loadCells,loadCellsFrom,h1',h1'']
   ·injection h1 with h1 _ h1''
    subst h1;subst h1''
    cases A2<;>simp [Builtin.append_,X0x hT,sizeOf,typeInfo,hi1,Builtin.lenOf,Builtin.firstCells,loadCells,loadCellsFrom,h4,storeCells]
  refine (Ef.of_run (v:=.slice A l.length c) (w':=w) ?_).mono fun v w' ⟨e1,e2⟩=>?_
  ·simp only [List.length_nil] at hy
   simp [execOp,resolve,invoke,builtin,hf.ev hx,hf.ev hy,hrun]
  ·subst e1;subst e2
   exact ⟨A,c,by simp,by simpa using ho,World.grownBy.refl w' _,fun _ _ h=>h⟩
 ·obtain ⟨b,off,cs,fz,rfl,h2,h3,h4⟩:=hr hl2;obtain ⟨v',w',hrun,hown,hg,_,hat⟩:=run_append_own_at (P:=P) w B0 T ty E i z sz bytes hT hi1 hi2 hi3 hi4 hi5 hi6 (.slice A l.length c) l.length (l.flatMap enc) ho ⟨b,off,none⟩ l2.length c2 (l2.flatMap enc) (Xo hsz l2)
   (fun j u hu=>by
    have:=h4 j u hu
    rw [X1k]
    simp [World.cell?,h3,this])
   (fun u hu=>by
    obtain ⟨x,_,hx⟩:=List.mem_flatMap.1 hu
    have:=W1.1 (hone x) u hx
    cases u<;>simp_all [Value.oneCell',one]) h63 hbytes hB0
  refine (Ef.of_run (v:=v') (w':=w') ?_).mono fun v w1 ⟨e1,e2⟩=>?_
  ·simp [execOp,resolve,invoke,builtin,hf.ev hx,hf.ev hy,hrun]
  ·subst e1;subst e2
   have hv:∃ A' c',v=.slice A' (l++l2).length c':=by
    rcases hown.2 with ⟨h1,h2⟩|⟨gg,cap,cur,h1,_⟩
    ·exact ⟨none,0,by rw [h1,Qh,h2]⟩
    ·exact ⟨_,_,by rw [h1,Qh]⟩
   obtain ⟨A',c',rfl⟩:=hv
   refine ⟨A',c',rfl,?_,hg,fun b hb ha p hp=>?_⟩
   rotate_left
   ·subst hp
    rcases hat with hat|hat
    ·cases A with
     | none=>simp [Value.ownBlock] at hat
     | some q=>
      simp only [Value.ownBlock,Option.some.injEq] at hat
      rw [hat]
      exact ha q rfl
    ·simp only [Value.ownBlock,Option.some.injEq] at hat
     rw [hat]
     omega
   unfold Own
   rw [Qh,List.flatMap_append]
   simpa [Qh] using hown
theorem X0m{T E:TypeId}{sz bytes B B0:Nat}{x y:Operand}{enc:α→List Value}{A A2:Option Addr}{c c2:Nat}{l l2:List α}(hx:ev e x=some (.slice A l.length c))(hy:ev e y=some (.slice A2 l2.length c2))(hT:SliceT P T E)(hi:InfoT P E sz bytes)(hsz:∀ x,(enc x).length=sz)(hone:∀ x,(enc x).all one=true)(ho:Own w B0 E sz enc A c l)(hr:Rd w B E enc A2 l2)(h63:l.length+l2.length≤maxLen)(hbytes:(l.length+l2.length)*bytes≤140737488355328)(hB0:B0≤w.heap.size) : EfW P ⟨d,.call ⟨.builtin .append,#[x,y],#[T,T]⟩,ty,pos,af,g⟩ n e w (Appended w B0 E sz enc A c l l2):=fun a hf=>Xg7 hf hx hy hT hi hsz hone ho hr h63 hbytes hB0
theorem X8b{T E:TypeId}{sz:Nat}{x y:Operand}{p:Addr}{c:Nat}{k:Nat}{i:Int}{m:Nat}(hf:Fr a n e)(hx:ev e x=some (.slice (some p) m c))(hy:ev e y=some (.int .i64 i))(hT:SliceT P T E)(hs:SizeT P E sz)
  (hi:i=(k:Int)) (hk:k<m) : Ev P ⟨d,.indexAddr T x y,ty,pos,af,g⟩ a w (.pointer (some (p.add (k*sz)))):=fun w' _=>by
 subst hi
 have h1:=X0x (P:=P) hT w';have h2:=run_sizeOf' hs w'
 have h3:((k:Int)<(m:Int))=True:=by simp;omega
 simp [execOp,Instr.indexAt,asIntOf,hf.ev hx,hf.ev hy,h1,h2,hk]
end
end
section
variable {P : Program} {Q : Exit → Act → World → Prop} {a : Act} {w : World} {n : Nat} {e : Env}
theorem Xg{c:Operand}{x y:Code}{b:Bool}(hf:Fr a n e)(hc:ev e c=some (.bool b))(ht:b=true→x.wp P Q a w)(he:b=false→y.wp P Q a w) : (Code.cond c x y).wp P Q a w:=
 wp_cond_split (hf.ev hc) ht he
theorem Xau{c:Operand}{x y:Code}(hf:Fr a n e)(hc:ev e c=some (.bool true))(ht:x.wp P Q a w) : (Code.cond c x y).wp P Q a w:=wp_cond_true (hf.ev hc) ht
theorem Xfl{c:Operand}{x y:Code}(hf:Fr a n e)(hc:ev e c=some (.bool false))(ht:y.wp P Q a w) : (Code.cond c x y).wp P Q a w:=wp_cond_false (hf.ev hc) ht
theorem X0a{c:Code}(X:Act→World→Prop)(h:c.wp P (Exit.then X Q) a w)(hX:∀ a w,X a w→Q .normal a w) : c.wp P Q a w:=
 Code.wp_mono (fun e a w hq=>by cases e<;>first|exact hX _ _ hq|exact hq) h
theorem X01{σ:Type}{c:Code}(I:σ→Act→World→Prop)(μ:σ→Nat)(s:σ)(h0:I s a w)
  (round:∀ s a w,I s a w→c.wp P (Exit.then (fun a' w'=>∃ s',I s' a' w'∧μ s'<μ s) Q) a w) : (Code.loop c).wp P Q a w:=by
 intro b k cs
 have key:∀ n s a w,μ s=n→I s a w→∃ e a' w',Q e a' w'∧Arrives P (lone (b.at a (.code c::.inLoop c::k)) cs w) b k cs e a' w':=by
  intro n
  induction n using Nat.strongRecOn with
  | _ n ih=>
   intro s a w hn hI;obtain ⟨e,a₁,w₁,hq,harr⟩:=round s a w hI b (.inLoop c::k) cs
   cases e with
   | normal=>
    obtain ⟨s',hI₁,hlt⟩:=hq;obtain ⟨e₂,a₂,w₂,hq₂,harr₂⟩:=ih (μ s') (hn▸hlt) s' a₁ w₁ rfl hI₁;exact ⟨e₂,a₂,w₂,hq₂,.of_steps (Steps.trans harr (.one step_inLoop)) harr₂⟩
   | exit id=>exact ⟨_,a₁,w₁,hq,.pass (x:=.inLoop c) rfl (fun _ _=>.inl (by simp)) harr⟩
   | goto l=>exact ⟨_,a₁,w₁,hq,.pass (x:=.inLoop c) rfl (fun _ _=>.inl (by simp)) harr⟩
   | ret=>exact ⟨_,a₁,w₁,hq,.pass (x:=.inLoop c) rfl (fun _ _=>.inl (by simp)) harr⟩
   | panic ch=>exact ⟨_,a₁,w₁,hq,.pass (x:=.inLoop c) rfl (fun _ _=>.inl (by simp)) harr⟩
   | outgrown=>exact ⟨_,a₁,w₁,hq,.pass (x:=.inLoop c) rfl (fun _ _=>.inl (by simp)) harr⟩
 obtain ⟨e,a',w',hq,harr⟩:=key _ s a w rfl h0;exact ⟨e,a',w',hq,.of_steps (.one step_loop) harr⟩
def evp(e:Env) : List (Nat×Operand)→Option (List (Nat×Value))
 | []=>some []
 | (i,x)::l=>match ev e x,evp e l with
  | some v,some vs=>some ((i,v)::vs)
  | _,_=>none
theorem Fr.evp(hf:Fr a n e) : ∀ {l:List (Nat×Operand)} {vs:List (Nat×Value)},evp e l=some vs→l.map (fun p=>(p.1,a.eval p.2))=vs:=by
 intro l
 induction l with
 | nil=>intro vs h;simpa [YtpifljegadknkaaGreat.evp] using h
 | cons x l ih=>
  obtain ⟨i,x⟩:=x;intro vs h
  simp only [YtpifljegadknkaaGreat.evp] at h
  split at h
  ·rename_i v us h1 h2
   injection h with h
   subst h
   simp [hf.ev h1,ih h2]
  ·cases h
def numb:Nat→List Value→List (Nat×Value)
 | _,[]=>[]
 | k,v::l=>(k,v)::numb (k+1) l
section
variable {ty : TypeId} {pos : String} {af : Array Edge} {g : Option (Nat × Bool)} {d : Option Tmp}
theorem Xit{T:TypeId}{parts:List (Nat×Operand)}{ps:List (Nat×Value)}{cs:List Value}(hf:Fr a n e)(hp:evp e parts=some ps)(hb:∀ w,(Instr.build T ps.toArray).run P w=.ok (.agg cs.toArray) w) :
  Ev P ⟨d,.build T parts.toArray,ty,pos,af,g⟩ a w (.agg cs.toArray):=fun w' _=>by
 have h1:=hf.evp hp;have h2:=hb w'
 simp only [execOp,List.map_toArray]
 rw [show (List.map (fun x:Nat×Operand=>match x with|(i,x)=>(i,a.eval x)) parts)=ps from h1]
 simp [h2]
theorem X0w{T:TypeId}{parts:List (Nat×Operand)}{ps:List (Nat×Value)}{cs:List Value}(hp:evp e parts=some ps)(hb:∀ w,(Instr.build T ps.toArray).run P w=.ok (.agg cs.toArray) w) : EvW P ⟨d,.build T parts.toArray,ty,pos,af,g⟩ n e w (.agg cs.toArray):=fun a hf=>Xit hf hp hb
theorem X9u(off:Nat) : ∀ (l:List Value) (m:Nat) (cs:Array Value),off+m+l.length≤cs.size→((l.zipIdx m).foldl (fun cs p=>cs.setIfInBounds (off+p.2) p.1) cs).toList=splice cs.toList (off+m) l
 | [],m,cs,_=>by simp [splice]
 | v::l,m,cs,h=>by
  simp only [Qs] at h
  simp only [List.zipIdx_cons,List.foldl_cons]
  rw [X9u off l (m+1) _ (by simp;omega)]
  unfold splice
  have e1:off+(m+1)=off+m+1:=by omega
  rw [e1,Array.toList_setIfInBounds,Wf (by simp;omega),List.take_set_of_le (by omega),List.getElem_set_self,List.drop_set_of_lt (by omega)]
  simp only [Qs,Qx,Wa,List.nil_append]
  rw [show off+m+1+l.length=off+m+(l.length+1) from by omega]
theorem X74(sz:Nat) : ∀ (vs:List Value) (k:Nat) (cells:Array Value),(∀ v ∈ vs,v.cells.size=sz)→cells.size=(k+vs.length)*sz→
  Instr.fill (fun i=>some (i*sz,sz)) cells (numb k vs)=some (cells.toList.take (k*sz)++vs.flatMap fun v=>v.cells.toList).toArray
 | [],k,cells,_,h=>by
  simp only [List.length_nil,Nat.add_zero] at h
  have h9:cells.toList.take (k*sz)=cells.toList:=Qi (by simp [h])
  simp [numb,Instr.fill,h9]
 | v::vs,k,cells,h1,h=>by
  have hv:=h1 v (by simp)
  simp only [Qs] at h
  have h2:k*sz+sz≤cells.size:=by rw [h,Wb,Wb];omega
  simp only [numb,Instr.fill,hv]
  rw [Q3 (by simp;omega)]
  have e1:(v.cells.zipIdx.foldl (fun cs (p:Value×Nat)=>cs.setIfInBounds (k*sz+p.2) p.1) cells).toList=splice cells.toList (k*sz) v.cells.toList:=by
   have:=X9u (k*sz) v.cells.toList 0 cells (by simp [hv];omega)
   rw [← Array.foldl_toList,Array.toList_zipIdx]
   simpa using this
  have hs:(v.cells.zipIdx.foldl (fun cs (p:Value×Nat)=>cs.setIfInBounds (k*sz+p.2) p.1) cells).size=cells.size:=by
   rw [← Array.length_toList,e1]
   simp [splice,hv]
   omega
  have ih:=X74 sz vs (k+1) (v.cells.zipIdx.foldl (fun cs (p:Value×Nat)=>cs.setIfInBounds (k*sz+p.2) p.1) cells) (fun u hu=>h1 u (by simp [hu])) (by rw [hs,h];congr 1;omega)
  refine Eq.trans ih ?_
  rw [e1]
  congr 2
  simp only [Wc]
  rw [← Qx]
  congr 1
  unfold splice
  have e2:(cells.toList.take (k*sz)++v.cells.toList).length=(k+1)*sz:=by simp [hv,Wb];omega
  rw [← e2,List.take_left]
theorem X8n{T E sz bytes:Nat}{k:Nat}{parts:List (Nat×Operand)}{vs zs:List Value}(hf:Fr a n e)(hp:evp e parts=some (numb 0 vs))(hT:SliceT P T E)(hi:InfoT P E sz bytes)(hv:(vs.all (fun v=>Nat.beq v.cells.size sz)&&Nat.beq vs.length k&&Nat.ble (k*sz) 1000)=true)(hz:vs.flatMap (fun v=>v.cells.toList)=zs) :
  Ef P ⟨d,.buildSlice T k parts.toArray,ty,pos,af,g⟩ a w (fun v w'=>∃ b,v=.slice (some ⟨b,0,none⟩) k k∧w.heap.size≤b∧Below w.heap.size w w'∧Blk w' b E zs):=by
 subst hz
 obtain ⟨i,z,hi1,hi2,hi3,hi4,hi5,hi6⟩:=hi
 simp only [Qd,W1] at hv
 obtain ⟨⟨hv1,hv2⟩,hv3⟩:=hv
 have hk:vs.length=k:=Nat.eq_of_beq_eq_true hv2
 have hk3:k*sz≤1000:=Nat.le_of_ble_eq_true hv3
 have h1:=hf.evp hp
 have hfill:=X74 sz vs 0 ((Array.range (k*sz)).map fun j=>z.cells[j % z.cells.size]!) (fun v hv=>Nat.eq_of_beq_eq_true (hv1 v hv)) (by simp [hk])
 simp only [Nat.zero_mul,List.take_zero,List.nil_append] at hfill
 refine (Ef.of_run (v:=.slice (some ⟨w.heap.size,0,none⟩) k k) (w':=w.alloc (.cells (vs.flatMap fun v=>v.cells.toList).toArray E)) ?_).mono fun v w' ⟨e1,e2⟩=>?_
 ·simp only [execOp,List.map_toArray]
  rw [show (List.map (fun x:Nat×Operand=>match x with|(i,x)=>(i,a.eval x)) parts)=numb 0 vs from h1]
  have h24:¬ (16777216<k*sz):=by omega
  by_cases h0:k*sz=0
  ·have hf0:Instr.fill (fun i=>some (i*sz,sz)) #[] (numb 0 vs)=some (vs.flatMap fun v=>v.cells.toList).toArray:=by
    rw [← hfill,h0]
    congr 1
    simp [Array.range_zero']
   simp [Instr.buildSlice,X0x hT,sizeOf,typeInfo,hi1,hi3,h0,newRow,newObj,Sem.run,Array.range_zero',hf0]
  ·simp [Instr.buildSlice,X0x hT,sizeOf,typeInfo,hi1,hi3,h24,h0,zeroValue,hi2,newRow,newObj,Sem.run,hfill]
 ·subst e1;subst e2
  exact ⟨_,rfl,Qb _,(Below.refl _ _).alloc (Qb _) _,X4c w E _⟩
theorem Xm{T E sz bytes:Nat}{k:Nat}{parts:List (Nat×Operand)}{vs zs:List Value}(hp:evp e parts=some (numb 0 vs))(hT:SliceT P T E)(hi:InfoT P E sz bytes)(hv:(vs.all (fun v=>Nat.beq v.cells.size sz)&&Nat.beq vs.length k&&Nat.ble (k*sz) 1000)=true)(hz:vs.flatMap (fun v=>v.cells.toList)=zs) : EfW P ⟨d,.buildSlice T k parts.toArray,ty,pos,af,g⟩ n e w (fun v w'=>∃ b,v=.slice (some ⟨b,0,none⟩) k k∧w.heap.size≤b∧Below w.heap.size w w'∧Blk w' b E zs):=fun a hf=>X8n hf hp hT hi hv hz
theorem Xqe{x y:Operand}{i j:Int}{ts:Array TypeId}(hf:Fr a n e)(hx:ev e x=some (.int .i64 i))(hy:ev e y=some (.int .i64 j)) : Ev P ⟨d,.call ⟨.builtin .max,#[x,y],ts⟩,ty,pos,af,g⟩ a w (.int .i64 (max i j)):=fun w' _=>by
 simp [execOp,resolve,invoke,builtin,Builtin.max_,Builtin.max2,hf.ev hx,hf.ev hy,Int.max_def]
 split<;>simp<;>omega
theorem Xrd{x y:Operand}{i j:Int}{ts:Array TypeId}(hx:ev e x=some (.int .i64 i))(hy:ev e y=some (.int .i64 j)) : EvW P ⟨d,.call ⟨.builtin .max,#[x,y],ts⟩,ty,pos,af,g⟩ n e w (.int .i64 (max i j)):=fun a hf=>Xqe hf hx hy
end
theorem X1{t:Nat}{e:Env}{b b':Bool}(h:look t e=some (.bool b))(hb:b=b') : look t e=some (.bool b'):=hb▸h
theorem X5{α:Type}{l:List α}{k:Nat}(h:k<l.length) : ∃ u,l[k]? = some u:=⟨l[k],Qc h⟩
section
variable {α : Type} {ops : Array Oper} {rest : List Oper} {ty : TypeId} {pos : String} {af : Array Edge} {g : Option (Nat × Bool)} {d : Nat}
theorem Rd.top{B:Nat}{E:TypeId}{enc:α→List Value}{A:Option Addr}{l:List α}(h:Rd w B E enc A l) : Rd w w.heap.size E enc A l:=fun hl=>by
 obtain ⟨b,off,cs,fz,h1,h2,h3,h4⟩:=h hl;exact ⟨b,off,cs,fz,h1,(Qp.1 h3).1,h3,h4⟩
theorem Xm9{T E E2:TypeId}{sz B:Nat}{x y:Operand}{enc:α→List Value}{A:Option Addr}{c:Nat}{l:List α}{k:Nat}{i:Int}{u:α}(hf:Fr a n e)(hw:Want ops ⟨some d,.indexAddr T x y,ty,pos,af,g⟩ e)(hn:Nat.blt d n=true)
  (hx:ev e x=some (.slice A l.length c)) (hy:ev e y=some (.int .i64 i)) (hT:SliceT P T E) (hs:SizeT P E sz) (hsz:∀ x,(enc x).length=sz) (hr:Rd w B E2 enc A l) (hk:l[k]? = some u) (hi:i=(k:Int))
  (h:∀ a' p,At w p (enc u)→Fr a' n ((d,.pointer (some p))::e)→wpList P ops Q rest a' w) : wpList P ops Q (⟨some d,.indexAddr T x y,ty,pos,af,g⟩::rest) a w:=by
 obtain ⟨p,rfl,hat⟩:=hr.at hsz hk;exact Xrq hf hw rfl hn (X8b hf hx hy hT hs hi (Qg.1 hk).1) fun a' hf'=>h a' _ hat hf'
theorem Xma{Q:Act→World→Prop}{tl:Nat→Bool}{fuel:Nat}{done:List Nat}{T E E2:TypeId}{sz B:Nat}{x y:Operand}{enc:α→List Value}{A:Option Addr}{c:Nat}{l:List α}{k:Nat}{i:Int}{u:α}(j:Nat)
  (ho:ops[j]? = some ⟨some d,.indexAddr T x y,ty,pos,af,g⟩) (hm:mayFirst ops done j=true) (ht:tailWaits ops tl j=true) (hf:Fr a n e) (hw:Want ops ⟨some d,.indexAddr T x y,ty,pos,af,g⟩ e) (hn:Nat.blt d n=true)
  (hx:ev e x=some (.slice A l.length c)) (hy:ev e y=some (.int .i64 i)) (hT:SliceT P T E) (hs:SizeT P E sz) (hsz:∀ x,(enc x).length=sz) (hr:Rd w B E2 enc A l) (hk:l[k]? = some u) (hi:i=(k:Int))
  (h:∀ a' p,At w p (enc u)→Fr a' n ((d,.pointer (some p))::e)→wpS P ops none tl Q fuel (mask ops (j::done)) a' w) : wpS P ops none tl Q (fuel+1) (mask ops done) a w:=by
 obtain ⟨p,rfl,hat⟩:=hr.at hsz hk;exact Xrm j ho hm ht hf hw rfl hn (X8b hf hx hy hT hs hi (Qg.1 hk).1) fun a' hf'=>h a' _ hat hf'
end
theorem X6{K:Act→World→Prop}(h:Q .ret a w) : Exit.then K Q .ret a w:=h
theorem Xq{id:Nat}(h:Q .ret a w) : Exit.inBlock id Q .ret a w:=by simp [Exit.inBlock,h]
theorem Xa{id:Nat}(h:Q .normal a w) : Exit.inBlock id Q .normal a w:=by simp [Exit.inBlock,h]
theorem Xk{K:Act→World→Prop}{id:Nat}(h:Q (.exit id) a w) : Exit.then K Q (.exit id) a w:=h
theorem Xh{K:Act→World→Prop}(h:K a w) : Exit.then K Q .normal a w:=h
theorem X03{id:Nat}(h:Q .normal a w) : Exit.inBlock id Q (.exit id) a w:=by simp [Exit.inBlock,h]
def ResV(P:Program)(w:World)(e:Env) : ResultVar→Value→Prop
 | .tmp t,v=>look t e=some v
 | .cell t T,v=>∃ p,look t e=some (.pointer (some p))∧((OneT P T∧∃ l,At w p (v::l))∨∃ k l,AggT P T k∧At w p l∧l.length=k∧v=.agg l.toArray)
theorem ResV.cellN{t T k:Nat}{p:Addr}{l:List Value}(h:look t e=some (.pointer (some p)))(hA:AggT P T k)(hc:At w p l)(hl:l.length=k) : ResV P w e (.cell t T) (.agg l.toArray):=⟨p,h,.inr ⟨k,l,hA,hc,hl,rfl⟩⟩
theorem X66(fn:Func)(tmps:Array Value) : ∃ f:ResultVar→Sem Value,(∀ t,f (.tmp t)=pure (tmps.getD t undef))∧(∀ t T,f (.cell t T)=(do loadVar T (← asAddr (tmps.getD t undef))))∧
  results fn tmps=(do let vs ← fn.results.mapM f;pure (if h:vs.size=1 then vs[0] else .tuple vs)):=⟨_,fun _=>rfl,fun _ _=>rfl,rfl⟩
theorem ResV.run{r:ResultVar}{v:Value}{f:ResultVar→Sem Value}(hf:Fr a n e)(h:ResV P w e r v)(f1:∀ t,f (.tmp t)=pure (a.tmps.getD t undef))(f2:∀ t T,f (.cell t T)=(do loadVar T (← asAddr (a.tmps.getD t undef)))) : (f r).run P w=.ok v w:=by
 cases r with
 | tmp t=>
  have:=hf.h _ _ h
  simp [f1,this]
 | cell t T=>
  obtain ⟨p,h1,h2⟩:=h;have h3:=hf.h _ _ h1
  rcases h2 with ⟨h4,l,h5⟩|⟨k,l,h4,h5,h6,rfl⟩
  ·simp [f2,h3,asAddr,X4t h4 h5]
  ·simp [f2,h3,asAddr,X4u h4 h5 h6]
section
variable {fn : Func} {R : Ending → World → Prop}
theorem Xt{r:ResultVar}{v:Value}(hf:Fr a n e)(hr:fn.results = #[r])(h:ResV P w e r v) : (results fn a.tmps).run P w=.ok v w:=by
 obtain ⟨f,f1,f2,h0⟩:=X66 fn a.tmps;have h1:=h.run hf f1 f2
 rw [h0,hr]
 simp [h1]
theorem X17{r1 r2:ResultVar}{v1 v2:Value}(hf:Fr a n e)(hr:fn.results = #[r1,r2])(h1:ResV P w e r1 v1)(h2:ResV P w e r2 v2) : (results fn a.tmps).run P w=.ok (.tuple #[v1,v2]) w:=by
 obtain ⟨f,f1,f2,h0⟩:=X66 fn a.tmps;have h1:=h1.run hf f1 f2;have h2:=h2.run hf f1 f2
 rw [h0,hr]
 simp [h1,h2]
theorem Xci{r1 r2 r3:ResultVar}{v1 v2 v3:Value}(hf:Fr a n e)(hr:fn.results = #[r1,r2,r3])(h1:ResV P w e r1 v1)(h2:ResV P w e r2 v2)(h3:ResV P w e r3 v3) : (results fn a.tmps).run P w=.ok (.tuple #[v1,v2,v3]) w:=by
 obtain ⟨f,f1,f2,h0⟩:=X66 fn a.tmps;have h1:=h1.run hf f1 f2;have h2:=h2.run hf f1 f2;have h3:=h3.run hf f1 f2
 rw [h0,hr]
 simp [h1,h2,h3]
theorem X4{v:Value}{R':Value→World→Prop}(hf:Fr a n e)(hr:(results fn a.tmps).run P w=.ok v w)(h:R' v w) : bodyPost P fn (fun e w'=>∃ v,e=.returned v∧R' v w') .ret a w:=⟨hf.d,v,hr,v,rfl,h⟩
theorem X1b{v:Value}{R':Value→World→Prop}(hf:Fr a n e)(hr:(results fn a.tmps).run P w=.ok v w)(h:R' v w) : bodyPost P fn (fun e w'=>∃ v,e=.returned v∧R' v w') .normal a w:=⟨hf.d,v,hr,v,rfl,h⟩
theorem X1x(hr:fn.results = #[]) : (results fn a.tmps).run P w=.ok (.tuple #[]) w:=by
 simp only [results,hr]
 simp
end
theorem enter{f:FuncId}{fn:Func}{c:Code}{args:List Value}{R:Value→World→Prop}(hf:P.funcs[f]? = some fn)(hb:fn.body=some c)(n:Nat)(hn:fn.ntmps=n)(hl:Nat.ble args.length n=true)
  (h:∀ a,Fr a n (zipFrom 0 args)→c.wp P (bodyPost P fn (fun e w'=>∃ v,e=.returned v∧R v w')) a w) : Ret P f args w R:=Xjs hf hb n hn hl h
end
section
variable {P : Program} {ops : Array Oper} {Q : Exit → Act → World → Prop} {w : World} {rest : List Oper} {o : Oper} {op : Op} {ty : TypeId} {pos : String} {af : Array Edge} {g : Option (Nat × Bool)} {n d : Nat} {e : Env} {v : Value} {R : Value → World → Prop} {x : Operand}
def WL(P:Program)(ops:Array Oper)(Q:Exit→Act→World→Prop)(l:List Oper)(n:Nat)(e:Env)(w:World) : Prop:=∀ a,Fr a n e→wpList P ops Q l a w
theorem bs:(∀ b,(true&&b)=b)∧(∀ b,(false&&b)=false)∧(∀ b,(true||b)=true)∧∀ b,(false||b)=b:=⟨fun _=>rfl,fun _=>rfl,fun _=>rfl,fun _=>rfl⟩
theorem Vc{f:FuncId}{xs:List Operand}{vs:List Value}{ts:Array TypeId}{D:Option Tmp}(h:Ret P f vs w R)(hF:FuncF P f)(hx:evs e xs=some vs:=by rfl) : EfW P ⟨D,.call ⟨.value (.func f),xs.toArray,ts⟩,ty,pos,af,g⟩ n e w R:=X5s hx hF h
theorem Vn{T t k b:Nat}{l:List Value}{D:Option Tmp}(hA:AggT P t k)(hb:Blk w b T l)(hx:ev e x=some (.pointer (some ⟨b,0,none⟩)):=by rfl)(hl:l.length=k:=by rfl) : EvW P ⟨D,.load t x,ty,pos,af,g⟩ n e w (.agg l.toArray):=X04 hx hA (hb.at 0) hl
theorem Vd{T f k b off:Nat}{D:Option Tmp}(hx:ev e x=some (.pointer (some ⟨b,off,none⟩)))(hF:FieldT P T f k)(m:Nat)(hk:off+k=m:=by rfl) : EvW P ⟨D,.fieldAddr T x f,ty,pos,af,g⟩ n e w (.pointer (some ⟨b,m,none⟩)):=Xmw hx hF hk
theorem Vu{t T:TypeId}{y:Operand}{b off k:Nat}{l l' vs:List Value}{D:Option Tmp}(hx:ev e x=some (.pointer (some ⟨b,off,none⟩)))(hy:ev e y=some v)(hs:SizeT P t k)(hb:Blk w b T l)(hvs:v.cells.toList=vs:=by rfl)(hk:Nat.beq vs.length k=true:=by rfl)(h1:vs.all one=true:=by rfl)(hl:Nat.ble (off+k) l.length=true:=by rfl)(hl':splice l off vs=l':=by rfl) : EfW P ⟨D,.store t x y,ty,pos,af,g⟩ n e w (Stored w b T l'):=X1a hx hy hs hb hvs hk h1 hl hl'
theorem Vw{t T:TypeId}{y:Operand}{b k:Nat}{l:List Value}{D:Option Tmp}(vs:List Value)(hs:SizeT P t k)(hb:Blk w b T l)(hx:ev e x=some (.pointer (some ⟨b,0,none⟩)):=by rfl)(hy:ev e y=some v:=by rfl)(hvs:v.cells.toList=vs:=by rfl)(hk:Nat.beq vs.length k=true:=by rfl)(h1:vs.all one=true:=by rfl)(hl:Nat.ble (0+k) l.length=true:=by rfl)(hl':splice l 0 vs=vs:=by rfl) : EfW P ⟨D,.store t x y,ty,pos,af,g⟩ n e w (Stored w b T vs):=X1a hx hy hs hb hvs hk h1 hl hl'
theorem Ze(hr:EvW P ⟨some d,op,ty,pos,af,none⟩ n e w v)(h:WL P ops Q rest n ((d,v)::e) w)(hn:Nat.blt d n=true:=by rfl) : WL P ops Q (⟨some d,op,ty,pos,af,none⟩::rest) n e w:=fun a hf=>l_e hf hn (hr a hf) h
theorem Zm(hx:ev e x=some v)(h:WL P ops Q rest n ((d,v)::e) w)(hn:Nat.blt d n=true:=by rfl) : WL P ops Q (⟨some d,.move x,ty,pos,af,none⟩::rest) n e w:=fun _ hf=>Xxt hf hx hn h
theorem Za(hx:ev e x=some v)(h:WL P ops Q rest n ((d,v)::e) w)(hn:Nat.blt d n=true:=by rfl) : WL P ops Q (⟨some d,.assign x,ty,pos,af,none⟩::rest) n e w:=fun _ hf=>Xxk hf hx hn h
theorem Zf(hr:EfW P ⟨some d,op,ty,pos,af,none⟩ n e w R)(h:∀ v w',R v w'→WL P ops Q rest n ((d,v)::e) w')(hn:Nat.blt d n=true:=by rfl) : WL P ops Q (⟨some d,op,ty,pos,af,none⟩::rest) n e w:=fun a hf=>l_f hf hn (hr a hf) fun a' v w' hR hf'=>h v w' hR a' hf'
theorem Zo(hr:EfW P ⟨none,op,ty,pos,af,none⟩ n e w R)(h:∀ v w',R v w'→WL P ops Q rest n e w') : WL P ops Q (⟨none,op,ty,pos,af,none⟩::rest) n e w:=fun a hf=>Xxq hf (hr a hf) fun a' v w' hR hf'=>h v w' hR a' hf'
theorem Zv(hw:Want ops o e)(hr:EvW P o n e w v)(h:WL P ops Q rest n ((d,v)::e) w)(hd:o.dst=some d:=by rfl)(hn:Nat.blt d n=true:=by rfl) : WL P ops Q (o::rest) n e w:=fun a hf=>Xrq hf hw hd hn (hr a hf) h
theorem Zp(hw:Pass ops o e)(h:WL P ops Q rest n ((d,undef)::e) w)(hd:o.dst=some d:=by rfl)(hn:Nat.blt d n=true:=by rfl) : WL P ops Q (o::rest) n e w:=fun _ hf=>Xq2 hf hw hd hn h
theorem Zk(hw:Want ops o e)(hr:EfW P o n e w R)(h:∀ v w',R v w'→WL P ops Q rest n ((d,v)::e) w')(hd:o.dst=some d:=by rfl)(hn:Nat.blt d n=true:=by rfl) : WL P ops Q (o::rest) n e w:=fun a hf=>Xj4 hf hw hd hn (hr a hf) fun a' v w' hR hf'=>h v w' hR a' hf'
theorem Zg(t:Nat){b:Bool}(_:look t e=some (.bool b))(h1:b=true→WL P ops Q rest n e w)(h2:b=false→WL P ops Q rest n e w) : WL P ops Q rest n e w:=by
 cases b
 ·exact h2 rfl
 ·exact h1 rfl
theorem Zn(h:∀ a,Fr a n e→Q .normal a w) : WL P ops Q [] n e w:=h
theorem Zr{a:Act}{id:Nat}{l:List Oper}(hf:Fr a n e)(h:WL P l.toArray Q l n e w) : (Code.region id l.toArray false).wp P Q a w:=wp_region_lit (h a hf)
theorem Zs{a:Act}{id:Nat}{l:List Oper}{c:Code}(hf:Fr a n e)(h:∀ K:Act→World→Prop,(∀ a w,c.wp P Q a w→K a w)→WL P l.toArray (Exit.then K Q) l n e w) : (Code.seq (Code.region id l.toArray false) c).wp P Q a w:=
 Q5 fun K hK=>wp_region_lit (h K hK a hf)
theorem Zt{c:Code}{K:Act→World→Prop}(hK:∀ a w,c.wp P Q a w→K a w)(h:∀ a,Fr a n e→c.wp P Q a w) : WL P ops (Exit.then K Q) [] n e w:=fun a hf=>hK a w (h a hf)
theorem ZX{c1 c2:Code}{K:Act→World→Prop}(hK:∀ a w,(Code.seq c1 c2).wp P Q a w→K a w)(h:∀ a,Fr a n e→∀ K':Act→World→Prop,(∀ a w,c2.wp P Q a w→K' a w)→c1.wp P (Exit.then K' Q) a w) : WL P ops (Exit.then K Q) [] n e w:=fun a hf=>hK a w (Q5 fun K' hK'=>h a hf K' hK')
theorem Zx{id:Nat}{l:List Oper}{c:Code}{K:Act→World→Prop}(hK:∀ a w,(Code.seq (Code.region id l.toArray false) c).wp P Q a w→K a w)(h:∀ a,Fr a n e→∀ K':Act→World→Prop,(∀ a w,c.wp P Q a w→K' a w)→WL P l.toArray (Exit.then K' Q) l n e w) : WL P ops (Exit.then K Q) [] n e w:=fun a hf=>hK a w (Q5 fun K' hK'=>wp_region_lit (h a hf K' hK' a hf))
theorem Zi{α:Type}{T E E2:TypeId}{sz B k:Nat}{y:Operand}{enc:α→List Value}{A:Option Addr}{c:Nat}{l:List α}{i:Int}{u:α}(hw:Want ops ⟨some d,.indexAddr T x y,ty,pos,af,g⟩ e)(hx:ev e x=some (.slice A l.length c))(hy:ev e y=some (.int .i64 i))(hT:SliceT P T E)(hs:SizeT P E sz)(hsz:∀ x,(enc x).length=sz)(hr:Rd w B E2 enc A l)(hk:l[k]? = some u)(hi:i=(k:Int))
  (h:∀ p,At w p (enc u)→WL P ops Q rest n ((d,.pointer (some p))::e) w) (hn:Nat.blt d n=true:=by rfl) : WL P ops Q (⟨some d,.indexAddr T x y,ty,pos,af,g⟩::rest) n e w:=fun _ hf=>Xm9 hf hw hn hx hy hT hs hsz hr hk hi fun a' p hp hf'=>h p hp a' hf'
theorem Zj{α:Type}{T E E2:TypeId}{sz B m k:Nat}{y:Operand}{enc:α→List Value}{A:Option Addr}{c:Nat}{l:List α}{i:Int}{u:α}(hw:Want ops ⟨some d,.indexAddr T x y,ty,pos,af,g⟩ e)(hx:ev e x=some (.slice A m c))(hm:m=l.length)(hy:ev e y=some (.int .i64 i))(hT:SliceT P T E)(hs:SizeT P E sz)(hsz:∀ x,(enc x).length=sz)(hr:Rd w B E2 enc A l)(hk:l[k]? = some u)(hi:i=(k:Int))
  (h:∀ p,At w p (enc u)→WL P ops Q rest n ((d,.pointer (some p))::e) w) (hn:Nat.blt d n=true:=by rfl) : WL P ops Q (⟨some d,.indexAddr T x y,ty,pos,af,g⟩::rest) n e w:=by
 subst hm
 exact Zi hw hx hy hT hs hsz hr hk hi h hn
end
section
variable {P : Program} {ops : Array Oper} {V : Option Vk} {tl : Nat → Bool} {Q : Act → World → Prop} {fuel : Nat} {done : List Nat} {w : World} {o : Oper} {op : Op} {ty : TypeId} {pos : String} {af : Array Edge} {g : Option (Nat × Bool)} {n d : Nat} {e : Env} {v : Value} {R : Value → World → Prop} {x : Operand}
def WS(P:Program)(ops:Array Oper)(V:Option Vk)(tl:Nat→Bool)(Q:Act→World→Prop)(m:Nat)(L:List Nat)(n:Nat)(e:Env)(w:World) : Prop:=∀ a,Fr a n e→wpS P ops V tl Q m (mask ops L) a w
def WR(P:Program)(ops:Array Oper)(V:Option Vk)(tl:Nat→Bool)(Q:Act→World→Prop)(i m:Nat)(L:List Nat)(n:Nat)(e:Env)(w:World) : Prop:=∀ a,Fr a n e→wpR P ops V tl i (wpS P ops V tl Q m (mask ops (i::L))) a w
theorem Yb{a:Act}{m:Nat}{L:List Nat}(hf:Fr a n e)(h:WS P ops V tl Q m L n e w) : wpS P ops V tl Q m (mask ops L) a w:=h a hf
theorem Ye(i:Nat)(hi:ops[i]? = some ⟨some d,op,ty,pos,af,none⟩)(hr:EvW P ⟨some d,op,ty,pos,af,none⟩ n e w v)(h:WS P ops none tl Q fuel (i::done) n ((d,v)::e) w)(hm:mayFirst ops done i=true:=by kernel_rfl)(ht:tailWaits ops tl i=true:=by kernel_rfl)(hn:Nat.blt d n=true:=by rfl) : WS P ops none tl Q (fuel+1) done n e w:=fun a hf=>s_e i hi hm ht hf hn (hr a hf) h
theorem Yo(i:Nat)(hi:ops[i]? = some ⟨some d,op,ty,pos,af,none⟩)(hr:∀ w,EvW P ⟨some d,op,ty,pos,af,none⟩ n e w v)(h:WS P ops V tl Q fuel (i::done) n ((d,v)::e) w)(hm:mayFirst ops done i=true:=by kernel_rfl)(hn:Nat.blt d n=true:=by rfl) : WS P ops V tl Q (fuel+1) done n e w:=fun a hf=>Xwx i hi hm hf hn (fun w=>hr w a hf) h
theorem Yv(i:Nat)(hi:ops[i]? = some o)(hw:Want ops o e)(hr:EvW P o n e w v)(h:WS P ops none tl Q fuel (i::done) n ((d,v)::e) w)(hm:mayFirst ops done i=true:=by kernel_rfl)(ht:tailWaits ops tl i=true:=by kernel_rfl)(hd:o.dst=some d:=by rfl)(hn:Nat.blt d n=true:=by rfl) : WS P ops none tl Q (fuel+1) done n e w:=fun a hf=>Xrm i hi hm ht hf hw hd hn (hr a hf) h
theorem Yn(i:Nat){N:Nat}(hi:ops[i]? = some o)(hw:Want ops o e)(hN:N≤w.heap.size)(hr:∀ w1,Below N w w1→EvW P o n e w1 v)(h:WS P ops (some (.base N)) tl Q fuel (i::done) n ((d,v)::e) w)(hm:mayFirst ops done i=true:=by kernel_rfl)(ht:tailWaits ops tl i=true:=by kernel_rfl)(hd:o.dst=some d:=by rfl)(hn:Nat.blt d n=true:=by rfl) : WS P ops (some (.base N)) tl Q (fuel+1) done n e w:=fun a hf=>Xtn i hi hm ht hf hw hd hn hN (fun w1 h1=>hr w1 h1 a hf) h
theorem Yu(i:Nat)(hi:ops[i]? = some o)(hw:Want ops o e)(hr:∀ w,EvW P o n e w v)(h:WS P ops V tl Q fuel (i::done) n ((d,v)::e) w)(hm:mayFirst ops done i=true:=by kernel_rfl)(hd:o.dst=some d:=by rfl)(hn:Nat.blt d n=true:=by rfl) : WS P ops V tl Q (fuel+1) done n e w:=fun a hf=>Xo9 i hi hm hf hw hd hn (fun w=>hr w a hf) h
theorem Yp(i:Nat)(hi:ops[i]? = some o)(hw:Pass ops o e)(h:WS P ops V tl Q fuel (i::done) n ((d,undef)::e) w)(hm:mayFirst ops done i=true:=by kernel_rfl)(hd:o.dst=some d:=by rfl)(hn:Nat.blt d n=true:=by rfl) : WS P ops V tl Q (fuel+1) done n e w:=fun _ hf=>Xrc i hi hm hf hw hd hn h
theorem Y1(i:Nat)(h:WR P ops V tl Q i fuel done n e w)(hr:Region.ready .any ops (mask ops done)=[i]:=by kernel_rfl) : WS P ops V tl Q (fuel+1) done n e w:=fun a hf=>Xtv i hr (h a hf)
theorem Y2(i j:Nat)(hi:WR P ops V tl Q i fuel done n e w)(hj:WR P ops V tl Q j fuel done n e w)(hr:Region.ready .any ops (mask ops done)=[i,j]:=by kernel_rfl) : WS P ops V tl Q (fuel+1) done n e w:=fun a hf=>Xvh i j hr (hi a hf) (hj a hf)
theorem Yd(h:∀ a,Fr a n e→Q a w)(hr:Region.ready .any ops (mask ops done)=[]:=by kernel_rfl) : WS P ops V tl Q fuel done n e w:=fun a hf=>Xri hr (h a hf)
theorem Yf{i:Nat}(hi:ops[i]? = some o)(hw:Want ops o e)(hr:EfW P o n e w fun v w'=>(tl i=false→Keep V w w')∧R v w')(h:∀ v w',R v w'→WS P ops V tl Q fuel (i::done) n ((d,v)::e) w')(hd:o.dst=some d:=by rfl)(hn:Nat.blt d n=true:=by rfl) : WR P ops V tl Q i fuel done n e w:=fun a hf=>Xtw hi hf hw hd hn (hr a hf) fun a' v w' hR hf'=>h v w' hR a' hf'
theorem Yg{i:Nat}(hi:ops[i]? = some o)(hw:Want ops o e)(hr:EfW P o n e w fun v w'=>(tl i=false→Keep V w w')∧R v w')(h:∀ v w',R v w'→WS P ops V tl Q fuel (i::done) n e w')(hd:o.dst=none:=by rfl) : WR P ops V tl Q i fuel done n e w:=fun a hf=>Xs4 hi hf hw hd (hr a hf) fun a' v w' hR hf'=>h v w' hR a' hf'
theorem Yq{i:Nat}(hi:ops[i]? = some o)(hw:Pass ops o e)(h:WS P ops V tl Q fuel (i::done) n ((d,undef)::e) w)(hd:o.dst=some d:=by rfl)(hn:Nat.blt d n=true:=by rfl) : WR P ops V tl Q i fuel done n e w:=fun _ hf=>Xs8 hi hf hw hd hn h
theorem EfW.mono{R':Value→World→Prop}(h:EfW P o n e w R)(hr:∀ v w',R v w'→R' v w') : EfW P o n e w R':=fun a hf=>(h a hf).mono hr
theorem Uev(h:EvW P o n e w v) : EfW P o n e w (fun v' w'=>v'=v∧w=w'):=fun a hf=>Xjw (h a hf)
theorem Yt{i:Nat}(hi:ops[i]? = some o)(hw:Want ops o e)(ht:tl i=true)(hr:EfW P o n e w R)(h:∀ v w',R v w'→WS P ops V tl Q fuel (i::done) n ((d,v)::e) w')(hd:o.dst=some d:=by rfl)(hn:Nat.blt d n=true:=by rfl) : WR P ops V tl Q i fuel done n e w:=Yf hi hw (hr.mono fun _ _ h=>⟨fun h0=>absurd h0 (by rw [ht];decide),h⟩) h hd hn
theorem Yh{i:Nat}(hi:ops[i]? = some o)(hw:Want ops o e)(ht:tl i=true)(hr:EfW P o n e w R)(h:∀ v w',R v w'→WS P ops V tl Q fuel (i::done) n e w')(hd:o.dst=none:=by rfl) : WR P ops V tl Q i fuel done n e w:=Yg hi hw (hr.mono fun _ _ h=>⟨fun h0=>absurd h0 (by rw [ht];decide),h⟩) h hd
theorem Yk{i:Nat}(hi:ops[i]? = some o)(hw:Want ops o e)(hr:EfW P o n e w R)(hk:∀ v w',R v w'→Below w.heap.size w w')(h:∀ v w',R v w'→WS P ops none tl Q fuel (i::done) n ((d,v)::e) w')(hd:o.dst=some d:=by rfl)(hn:Nat.blt d n=true:=by rfl) : WR P ops none tl Q i fuel done n e w:=Yf hi hw (hr.mono fun _ _ h=>⟨fun _=>hk _ _ h,h⟩) h hd hn
theorem Yz{i:Nat}{u:Value}(hi:ops[i]? = some o)(hw:Want ops o e)(hr:EfW P o n e w (fun v w'=>v=u∧w=w'))(h:WS P ops V tl Q fuel (i::done) n ((d,u)::e) w)(hd:o.dst=some d:=by rfl)(hn:Nat.blt d n=true:=by rfl) : WR P ops V tl Q i fuel done n e w:=Yf hi hw (hr.mono fun _ _ h=>⟨fun _=>by rw [← h.2];exact Keep.refl _ _,h⟩) (by rintro _ _ ⟨rfl,rfl⟩;exact h) hd hn
theorem Yl(t:Nat){b:Bool}(_:look t e=some (.bool b))(h1:b=true→WS P ops V tl Q fuel done n e w)(h2:b=false→WS P ops V tl Q fuel done n e w) : WS P ops V tl Q fuel done n e w:=by
 cases b
 ·exact h2 rfl
 ·exact h1 rfl
theorem Yi{α:Type}{T E E2:TypeId}{sz B k:Nat}{y:Operand}{enc:α→List Value}{A:Option Addr}{c:Nat}{l:List α}{i:Int}{u:α}(j:Nat)(ho:ops[j]? = some ⟨some d,.indexAddr T x y,ty,pos,af,g⟩)(hw:Want ops ⟨some d,.indexAddr T x y,ty,pos,af,g⟩ e)(hx:ev e x=some (.slice A l.length c))(hy:ev e y=some (.int .i64 i))(hT:SliceT P T E)(hs:SizeT P E sz)(hsz:∀ x,(enc x).length=sz)(hr:Rd w B E2 enc A l)(hk:l[k]? = some u)(hi:i=(k:Int))
  (h:∀ p,At w p (enc u)→WS P ops none tl Q fuel (j::done) n ((d,.pointer (some p))::e) w) (hm:mayFirst ops done j=true:=by kernel_rfl) (ht:tailWaits ops tl j=true:=by kernel_rfl) (hn:Nat.blt d n=true:=by rfl) : WS P ops none tl Q (fuel+1) done n e w:=fun _ hf=>Xma j ho hm ht hf hw hn hx hy hT hs hsz hr hk hi fun a' p hp hf'=>h p hp a' hf'
theorem Yj{α:Type}{T E E2:TypeId}{sz B m k:Nat}{y:Operand}{enc:α→List Value}{A:Option Addr}{c:Nat}{l:List α}{i:Int}{u:α}(j:Nat)(ho:ops[j]? = some ⟨some d,.indexAddr T x y,ty,pos,af,g⟩)(hw:Want ops ⟨some d,.indexAddr T x y,ty,pos,af,g⟩ e)(hx:ev e x=some (.slice A m c))(hlm:m=l.length)(hy:ev e y=some (.int .i64 i))(hT:SliceT P T E)(hs:SizeT P E sz)(hsz:∀ x,(enc x).length=sz)(hr:Rd w B E2 enc A l)(hk:l[k]? = some u)(hi:i=(k:Int))
  (h:∀ p,At w p (enc u)→WS P ops none tl Q fuel (j::done) n ((d,.pointer (some p))::e) w) (hm:mayFirst ops done j=true:=by kernel_rfl) (ht:tailWaits ops tl j=true:=by kernel_rfl) (hn:Nat.blt d n=true:=by rfl) : WS P ops none tl Q (fuel+1) done n e w:=by
 subst hlm
 exact Yi j ho hw hx hy hT hs hsz hr hk hi h hm ht hn
end
end Go.Proofs.YtpifljegadknkaaGreat
namespace Go.Proofs.YtpifljegadknkaaGreat
theorem X0v{P:Program}{t n:Nat}(h:(P.info? t).map (fun i=>i.size)=some n) : ∃ i,P.info? t=some i∧i.size=n:=by
 cases hi:P.info? t with
 | none=>rw [hi] at h;cases h
 | some i=>rw [hi] at h;injection h with h;exact ⟨i,rfl,h⟩
theorem X2q{P:Program}{t:Nat}{z:Option Value}(h:(P.info? t).map (fun i=>i.zero)=some z) : ∃ i,P.info? t=some i∧i.zero=z:=by
 cases hi:P.info? t with
 | none=>rw [hi] at h;cases h
 | some i=>rw [hi] at h;injection h with h;exact ⟨i,rfl,h⟩
theorem X39{P:Program}{t sz bytes:Nat}{z:Value}(h:(P.info? t).map (fun i=>(i.size,i.bytes,i.zero))=some (sz,bytes,some z))(hz:z.cells.size=sz)(h0:0<sz) : InfoT P t sz bytes:=by
 cases hi:P.info? t with
 | none=>rw [hi] at h;cases h
 | some i=>
  rw [hi] at h
  simp only [Option.map_some,Option.some.injEq,Prod.mk.injEq] at h
  exact ⟨i,z,hi,h.2.2,h.1,h.2.1,hz,h0⟩
theorem X0k{P:Program}{T f k:Nat}{fs:Array Field}{F:Field}(h:P.underlying T=some (.struct fs))(h1:fs[f]? = some F)(h2:F.offset=k){n:Nat}(h3:(P.info? F.type).map (fun i=>i.size)=some n)(h4:(n==0)=false) : FieldT P T f k:=by
 obtain ⟨i,hi,rfl⟩:=X0v h3;exact ⟨fs,F,i,h,h1,h2,hi,h4⟩
theorem X8 {P : Program} {f : FuncId} {fn : Func} (h : P.funcs[f]? = some fn) (h1 : (fn.name == "runtime.NumGoroutine") = false) (h2 : fn.body.isNone = false) : FuncF P f := ⟨fn, h, h1, h2⟩
theorem X9:OneT Tryz.prog 3:=⟨_,Tryz.underlying3,trivial⟩
theorem X6c:OneT Tryz.prog 4:=⟨_,Tryz.underlying4,trivial⟩
theorem Xow:OneT Tryz.prog 22:=⟨_,Tryz.underlying22,trivial⟩
theorem X29:OneT Tryz.prog 28:=⟨_,Tryz.underlying28,trivial⟩
theorem X28:OneT Tryz.prog 71:=⟨_,Tryz.underlying71,trivial⟩
theorem X26:OneT Tryz.prog 129:=⟨_,Tryz.underlying129,trivial⟩
theorem X00:OneT Tryz.prog 36:=⟨_,Tryz.underlying36,trivial⟩
theorem X0j:OneT Tryz.prog 37:=⟨_,Tryz.underlying37,trivial⟩
theorem X7a:AggT Tryz.prog 24 2:=⟨⟨_,Tryz.underlying24,trivial⟩,X0v (by kernel_rfl)⟩
theorem X12:AggT Tryz.prog 30 2:=⟨⟨_,Tryz.underlying30,trivial⟩,X0v (by kernel_rfl)⟩
theorem X0o:AggT Tryz.prog 123 3:=⟨⟨_,Tryz.underlying123,trivial⟩,X0v (by kernel_rfl)⟩
theorem Xqv:AggT Tryz.prog 126 3:=⟨⟨_,Tryz.underlying126,trivial⟩,X0v (by kernel_rfl)⟩
theorem X2:AggT Tryz.prog 39 5:=⟨⟨_,Tryz.underlying39,trivial⟩,X0v (by kernel_rfl)⟩
theorem X1y:AggT Tryz.prog 58 3:=⟨⟨_,Tryz.underlying58,trivial⟩,X0v (by kernel_rfl)⟩
theorem X2s:AggT Tryz.prog 81 2:=⟨⟨_,Tryz.underlying81,trivial⟩,X0v (by kernel_rfl)⟩
theorem X1i:AggT Tryz.prog 83 3:=⟨⟨_,Tryz.underlying83,trivial⟩,X0v (by kernel_rfl)⟩
theorem X08:SizeT Tryz.prog 3 1:=X0v (by kernel_rfl)
theorem X2u:SizeT Tryz.prog 4 1:=X0v (by kernel_rfl)
theorem Xch:SizeT Tryz.prog 28 1:=X0v (by kernel_rfl)
theorem Xev:SizeT Tryz.prog 71 1:=X0v (by kernel_rfl)
theorem X1w:SizeT Tryz.prog 30 2:=X0v (by kernel_rfl)
theorem X1h:SizeT Tryz.prog 123 3:=X0v (by kernel_rfl)
theorem Xr7:SizeT Tryz.prog 126 3:=X0v (by kernel_rfl)
theorem X3s:SizeT Tryz.prog 36 1:=X0v (by kernel_rfl)
theorem X1l:SizeT Tryz.prog 37 1:=X0v (by kernel_rfl)
theorem Xp:SizeT Tryz.prog 39 5:=X0v (by kernel_rfl)
theorem X33:SizeT Tryz.prog 58 3:=X0v (by kernel_rfl)
theorem X07:SizeT Tryz.prog 81 2:=X0v (by kernel_rfl)
theorem X0e:SizeT Tryz.prog 83 3:=X0v (by kernel_rfl)
theorem z_3:ZeroT Tryz.prog 3 (.int .i64 0):=X2q (by kernel_rfl)
theorem X4e:ZeroT Tryz.prog 30 (.agg #[.int .i64 0,.slice none 0 0]):=X2q (by kernel_rfl)
theorem X5w:ZeroT Tryz.prog 123 (.agg #[.int .i64 0,.int .i64 0,.int .i64 0]):=X2q (by kernel_rfl)
theorem X0s:ZeroT Tryz.prog 39 (.agg #[.int .i64 0,.slice none 0 0,.slice none 0 0,.int .i64 0,.int .i64 0]):=X2q (by kernel_rfl)
theorem X6v:ZeroT Tryz.prog 58 (.agg #[.int .i64 0,.int .i64 0,.int .i64 0]):=X2q (by kernel_rfl)
theorem X6w:ZeroT Tryz.prog 81 (.agg #[.int .i64 0,.int .i64 0]):=X2q (by kernel_rfl)
theorem X2y:ZeroT Tryz.prog 83 (.agg #[.int .i64 0,.int .i64 0,.bool false]):=X2q (by kernel_rfl)
theorem Xne:FieldT Tryz.prog 24 0 0:=X0k (n:=1) Tryz.underlying24 rfl rfl (by kernel_rfl) rfl
theorem Xf7:FieldT Tryz.prog 24 1 1:=X0k (n:=1) Tryz.underlying24 rfl rfl (by kernel_rfl) rfl
theorem X1d:FieldT Tryz.prog 30 0 0:=X0k (n:=1) Tryz.underlying30 rfl rfl (by kernel_rfl) rfl
theorem X18:FieldT Tryz.prog 30 1 1:=X0k (n:=1) Tryz.underlying30 rfl rfl (by kernel_rfl) rfl
theorem X0p:FieldT Tryz.prog 123 0 0:=X0k (n:=1) Tryz.underlying123 rfl rfl (by kernel_rfl) rfl
theorem X09:FieldT Tryz.prog 123 1 1:=X0k (n:=1) Tryz.underlying123 rfl rfl (by kernel_rfl) rfl
theorem X0r:FieldT Tryz.prog 123 2 2:=X0k (n:=1) Tryz.underlying123 rfl rfl (by kernel_rfl) rfl
theorem Xjx:FieldT Tryz.prog 126 0 0:=X0k (n:=1) Tryz.underlying126 rfl rfl (by kernel_rfl) rfl
theorem Xhu:FieldT Tryz.prog 126 1 1:=X0k (n:=1) Tryz.underlying126 rfl rfl (by kernel_rfl) rfl
theorem Xhk:FieldT Tryz.prog 126 2 2:=X0k (n:=1) Tryz.underlying126 rfl rfl (by kernel_rfl) rfl
theorem X2b:FieldT Tryz.prog 39 0 0:=X0k (n:=1) Tryz.underlying39 rfl rfl (by kernel_rfl) rfl
theorem Xj:FieldT Tryz.prog 39 1 1:=X0k (n:=1) Tryz.underlying39 rfl rfl (by kernel_rfl) rfl
theorem Xr:FieldT Tryz.prog 39 2 2:=X0k (n:=1) Tryz.underlying39 rfl rfl (by kernel_rfl) rfl
theorem X0t:FieldT Tryz.prog 39 3 3:=X0k (n:=1) Tryz.underlying39 rfl rfl (by kernel_rfl) rfl
theorem X02:FieldT Tryz.prog 39 4 4:=X0k (n:=1) Tryz.underlying39 rfl rfl (by kernel_rfl) rfl
theorem X48:FieldT Tryz.prog 58 0 0:=X0k (n:=1) Tryz.underlying58 rfl rfl (by kernel_rfl) rfl
theorem X1n:FieldT Tryz.prog 58 1 1:=X0k (n:=1) Tryz.underlying58 rfl rfl (by kernel_rfl) rfl
theorem X3i:FieldT Tryz.prog 58 2 2:=X0k (n:=1) Tryz.underlying58 rfl rfl (by kernel_rfl) rfl
theorem X13:FieldT Tryz.prog 81 0 0:=X0k (n:=1) Tryz.underlying81 rfl rfl (by kernel_rfl) rfl
theorem X06:FieldT Tryz.prog 81 1 1:=X0k (n:=1) Tryz.underlying81 rfl rfl (by kernel_rfl) rfl
theorem X0q:FieldT Tryz.prog 83 0 0:=X0k (n:=1) Tryz.underlying83 rfl rfl (by kernel_rfl) rfl
theorem X0u:FieldT Tryz.prog 83 1 1:=X0k (n:=1) Tryz.underlying83 rfl rfl (by kernel_rfl) rfl
theorem X5k:FieldT Tryz.prog 83 2 2:=X0k (n:=1) Tryz.underlying83 rfl rfl (by kernel_rfl) rfl
theorem X10:FieldT Tryz.prog 131 0 0:=X0k (n:=5) Tryz.underlying131 rfl rfl (by kernel_rfl) rfl
theorem X1r:FieldT Tryz.prog 131 1 5:=X0k (n:=1) Tryz.underlying131 rfl rfl (by kernel_rfl) rfl
theorem X2h:FieldT Tryz.prog 131 2 6:=X0k (n:=1) Tryz.underlying131 rfl rfl (by kernel_rfl) rfl
theorem X0i:FieldT Tryz.prog 171 0 0:=X0k (n:=5) Tryz.underlying171 rfl rfl (by kernel_rfl) rfl
theorem X20:FieldT Tryz.prog 171 1 5:=X0k (n:=1) Tryz.underlying171 rfl rfl (by kernel_rfl) rfl
theorem X2a:FieldT Tryz.prog 171 2 6:=X0k (n:=1) Tryz.underlying171 rfl rfl (by kernel_rfl) rfl
theorem Xeo:SliceT Tryz.prog 22 126:=Tryz.underlying22
theorem X1f:SliceT Tryz.prog 28 123:=Tryz.underlying28
theorem Xl:SliceT Tryz.prog 71 3:=Tryz.underlying71
theorem X87:SliceT Tryz.prog 227 71:=Tryz.underlying227
theorem X1u:SliceT Tryz.prog 129 4:=Tryz.underlying129
theorem X8a:SliceT Tryz.prog 207 28:=Tryz.underlying207
theorem Xs:SliceT Tryz.prog 36 81:=Tryz.underlying36
theorem Xx:SliceT Tryz.prog 37 83:=Tryz.underlying37
theorem X22:SliceT Tryz.prog 41 58:=Tryz.underlying41
theorem X1q:InfoT Tryz.prog 3 1 8:=X39 (z:=.int .i64 0) (by kernel_rfl) rfl (by decide)
theorem Xnx:InfoT Tryz.prog 4 1 1:=X39 (z:=.bool false) (by kernel_rfl) rfl (by decide)
theorem Xre:InfoT Tryz.prog 28 1 24:=X39 (z:=.slice none 0 0) (by kernel_rfl) rfl (by decide)
theorem Xrk:InfoT Tryz.prog 71 1 24:=X39 (z:=.slice none 0 0) (by kernel_rfl) rfl (by decide)
theorem X1z:InfoT Tryz.prog 123 3 24:=X39 (z:=.agg #[.int .i64 0,.int .i64 0,.int .i64 0]) (by kernel_rfl) rfl (by decide)
theorem X2i:InfoT Tryz.prog 58 3 24:=X39 (z:=.agg #[.int .i64 0,.int .i64 0,.int .i64 0]) (by kernel_rfl) rfl (by decide)
theorem X1p:InfoT Tryz.prog 81 2 16:=X39 (z:=.agg #[.int .i64 0,.int .i64 0]) (by kernel_rfl) rfl (by decide)
theorem X14:InfoT Tryz.prog 83 3 24:=X39 (z:=.agg #[.int .i64 0,.int .i64 0,.bool false]) (by kernel_rfl) rfl (by decide)
theorem Xou:FuncF Tryz.prog 7:=X8 Tryz.func7 (by decide +kernel) rfl
theorem X93:FuncF Tryz.prog 9:=X8 Tryz.func9 (by decide +kernel) rfl
theorem Xpo:FuncF Tryz.prog 11:=X8 Tryz.func11 (by decide +kernel) rfl
theorem Xw4:FuncF Tryz.prog 35:=X8 Tryz.func35 (by decide +kernel) rfl
theorem Xup:FuncF Tryz.prog 41:=X8 Tryz.func41 (by decide +kernel) rfl
theorem Xvd:FuncF Tryz.prog 45:=X8 Tryz.func45 (by decide +kernel) rfl
theorem Xfd:FuncF Tryz.prog 83:=X8 Tryz.func83 (by decide +kernel) rfl
theorem Xca:FuncF Tryz.prog 90:=X8 Tryz.func90 (by decide +kernel) rfl
theorem Xcj:FuncF Tryz.prog 166:=X8 Tryz.func166 (by decide +kernel) rfl
theorem X3r:FuncF Tryz.prog 86:=X8 Tryz.func86 (by decide +kernel) rfl
theorem Xv2:FuncF Tryz.prog 87:=X8 Tryz.func87 (by decide +kernel) rfl
theorem X3n:FuncF Tryz.prog 94:=X8 Tryz.func94 (by decide +kernel) rfl
theorem Xvy:FuncF Tryz.prog 206:=X8 Tryz.func206 (by decide +kernel) rfl
theorem Xo1:FuncF Tryz.prog 195:=X8 Tryz.func195 (by decide +kernel) rfl
theorem Xuf:FuncF Tryz.prog 207:=X8 Tryz.func207 (by decide +kernel) rfl
theorem Xwa:FuncF Tryz.prog 192:=X8 Tryz.func192 (by decide +kernel) rfl
theorem Xpv:FuncF Tryz.prog 93:=X8 Tryz.func93 (by decide +kernel) rfl
theorem Xrr:FuncF Tryz.prog 135:=X8 Tryz.func135 (by decide +kernel) rfl
theorem Xrb:FuncF Tryz.prog 138:=X8 Tryz.func138 (by decide +kernel) rfl
theorem Xqf:FuncF Tryz.prog 139:=X8 Tryz.func139 (by decide +kernel) rfl
theorem Xh0:FuncF Tryz.prog 140:=X8 Tryz.func140 (by decide +kernel) rfl
theorem Xjo:FuncF Tryz.prog 163:=X8 Tryz.func163 (by decide +kernel) rfl
theorem Xpy:FuncF Tryz.prog 164:=X8 Tryz.func164 (by decide +kernel) rfl
theorem Xd2:FuncF Tryz.prog 216:=X8 Tryz.func216 (by decide +kernel) rfl
theorem Xib:FuncF Tryz.prog 187:=X8 Tryz.func187 (by decide +kernel) rfl
theorem Xro:FuncF Tryz.prog 231:=X8 Tryz.func231 (by decide +kernel) rfl
theorem X7u:FuncF Tryz.prog 146:=X8 Tryz.func146 (by decide +kernel) rfl
theorem Xs3:FuncF Tryz.prog 191:=X8 Tryz.func191 (by decide +kernel) rfl
theorem Xqd:FuncF Tryz.prog 226:=X8 Tryz.func226 (by decide +kernel) rfl
theorem X8k:FuncF Tryz.prog 95:=X8 Tryz.func95 (by decide +kernel) rfl
theorem Xqp:FuncF Tryz.prog 198:=X8 Tryz.func198 (by decide +kernel) rfl
theorem Xr2:FuncF Tryz.prog 215:=X8 Tryz.func215 (by decide +kernel) rfl
theorem Xsd:FuncF Tryz.prog 229:=X8 Tryz.func229 (by decide +kernel) rfl
theorem Xhg:FuncF Tryz.prog 253:=X8 Tryz.func253 (by decide +kernel) rfl
theorem Xqx:FuncF Tryz.prog 145:=X8 Tryz.func145 (by decide +kernel) rfl
theorem Xie:FuncF Tryz.prog 194:=X8 Tryz.func194 (by decide +kernel) rfl
theorem Xks:FuncF Tryz.prog 113:=X8 Tryz.func113 (by decide +kernel) rfl
theorem Xax:FuncF Tryz.prog 186:=X8 Tryz.func186 (by decide +kernel) rfl
theorem Xki:FuncF Tryz.prog 161:=X8 Tryz.func161 (by decide +kernel) rfl
theorem Xkq:FuncF Tryz.prog 162:=X8 Tryz.func162 (by decide +kernel) rfl
theorem Xld:FuncF Tryz.prog 144:=X8 Tryz.func144 (by decide +kernel) rfl
theorem Xlu:FuncF Tryz.prog 59:=X8 Tryz.func59 (by decide +kernel) rfl
theorem Xle:FuncF Tryz.prog 112:=X8 Tryz.func112 (by decide +kernel) rfl
theorem Xnq:FuncF Tryz.prog 58:=X8 Tryz.func58 (by decide +kernel) rfl
theorem Xme:FuncF Tryz.prog 61:=X8 Tryz.func61 (by decide +kernel) rfl
theorem Xko:FuncF Tryz.prog 114:=X8 Tryz.func114 (by decide +kernel) rfl
theorem Xnl:FuncF Tryz.prog 115:=X8 Tryz.func115 (by decide +kernel) rfl
theorem X7p:FuncF Tryz.prog 150:=X8 Tryz.func150 (by decide +kernel) rfl
theorem Xm0:FuncF Tryz.prog 14:=X8 Tryz.func14 (by decide +kernel) rfl
theorem Xnr:FuncF Tryz.prog 25:=X8 Tryz.func25 (by decide +kernel) rfl
theorem Xku:FuncF Tryz.prog 26:=X8 Tryz.func26 (by decide +kernel) rfl
theorem Xkw:FuncF Tryz.prog 36:=X8 Tryz.func36 (by decide +kernel) rfl
theorem Xar:FuncF Tryz.prog 37:=X8 Tryz.func37 (by decide +kernel) rfl
theorem Xfw:FuncF Tryz.prog 38:=X8 Tryz.func38 (by decide +kernel) rfl
theorem Xn6:FuncF Tryz.prog 43:=X8 Tryz.func43 (by decide +kernel) rfl
theorem Xnp:FuncF Tryz.prog 47:=X8 Tryz.func47 (by decide +kernel) rfl
theorem Xn0:FuncF Tryz.prog 48:=X8 Tryz.func48 (by decide +kernel) rfl
theorem Xep:FuncF Tryz.prog 50:=X8 Tryz.func50 (by decide +kernel) rfl
theorem Xnm:FuncF Tryz.prog 51:=X8 Tryz.func51 (by decide +kernel) rfl
theorem Xe2:FuncF Tryz.prog 54:=X8 Tryz.func54 (by decide +kernel) rfl
theorem Xkl:FuncF Tryz.prog 55:=X8 Tryz.func55 (by decide +kernel) rfl
theorem Xad:FuncF Tryz.prog 60:=X8 Tryz.func60 (by decide +kernel) rfl
theorem Xm5:FuncF Tryz.prog 62:=X8 Tryz.func62 (by decide +kernel) rfl
theorem Xfu:FuncF Tryz.prog 67:=X8 Tryz.func67 (by decide +kernel) rfl
theorem Xe9:FuncF Tryz.prog 68:=X8 Tryz.func68 (by decide +kernel) rfl
theorem Xl1:FuncF Tryz.prog 69:=X8 Tryz.func69 (by decide +kernel) rfl
theorem X36:FuncF Tryz.prog 74:=X8 Tryz.func74 (by decide +kernel) rfl
theorem Xaq:FuncF Tryz.prog 75:=X8 Tryz.func75 (by decide +kernel) rfl
theorem Xft:FuncF Tryz.prog 76:=X8 Tryz.func76 (by decide +kernel) rfl
theorem Xf0:FuncF Tryz.prog 77:=X8 Tryz.func77 (by decide +kernel) rfl
theorem X35:FuncF Tryz.prog 78:=X8 Tryz.func78 (by decide +kernel) rfl
theorem X4m:FuncF Tryz.prog 79:=X8 Tryz.func79 (by decide +kernel) rfl
theorem Xmd:FuncF Tryz.prog 80:=X8 Tryz.func80 (by decide +kernel) rfl
theorem Xef:FuncF Tryz.prog 81:=X8 Tryz.func81 (by decide +kernel) rfl
theorem X5f:FuncF Tryz.prog 82:=X8 Tryz.func82 (by decide +kernel) rfl
theorem Xlr:FuncF Tryz.prog 84:=X8 Tryz.func84 (by decide +kernel) rfl
theorem Xmr:FuncF Tryz.prog 85:=X8 Tryz.func85 (by decide +kernel) rfl
theorem Xnv:FuncF Tryz.prog 91:=X8 Tryz.func91 (by decide +kernel) rfl
theorem Xeu:FuncF Tryz.prog 92:=X8 Tryz.func92 (by decide +kernel) rfl
theorem Xl8:FuncF Tryz.prog 97:=X8 Tryz.func97 (by decide +kernel) rfl
theorem Xnh:FuncF Tryz.prog 98:=X8 Tryz.func98 (by decide +kernel) rfl
theorem Xl4:FuncF Tryz.prog 99:=X8 Tryz.func99 (by decide +kernel) rfl
theorem Xn1:FuncF Tryz.prog 100:=X8 Tryz.func100 (by decide +kernel) rfl
theorem Xmh:FuncF Tryz.prog 101:=X8 Tryz.func101 (by decide +kernel) rfl
theorem X4q:FuncF Tryz.prog 102:=X8 Tryz.func102 (by decide +kernel) rfl
theorem Xlv:FuncF Tryz.prog 103:=X8 Tryz.func103 (by decide +kernel) rfl
theorem Xfc:FuncF Tryz.prog 106:=X8 Tryz.func106 (by decide +kernel) rfl
theorem Xlo:FuncF Tryz.prog 107:=X8 Tryz.func107 (by decide +kernel) rfl
theorem Xkc:FuncF Tryz.prog 108:=X8 Tryz.func108 (by decide +kernel) rfl
theorem X32:FuncF Tryz.prog 116:=X8 Tryz.func116 (by decide +kernel) rfl
theorem X7o:FuncF Tryz.prog 117:=X8 Tryz.func117 (by decide +kernel) rfl
theorem Xm1:FuncF Tryz.prog 120:=X8 Tryz.func120 (by decide +kernel) rfl
theorem Xkm:FuncF Tryz.prog 122:=X8 Tryz.func122 (by decide +kernel) rfl
theorem Xmt:FuncF Tryz.prog 123:=X8 Tryz.func123 (by decide +kernel) rfl
theorem X56:FuncF Tryz.prog 130:=X8 Tryz.func130 (by decide +kernel) rfl
theorem X7l:FuncF Tryz.prog 131:=X8 Tryz.func131 (by decide +kernel) rfl
theorem X7f:FuncF Tryz.prog 132:=X8 Tryz.func132 (by decide +kernel) rfl
theorem X7m:FuncF Tryz.prog 133:=X8 Tryz.func133 (by decide +kernel) rfl
theorem X5d:FuncF Tryz.prog 134:=X8 Tryz.func134 (by decide +kernel) rfl
theorem Xlg:FuncF Tryz.prog 136:=X8 Tryz.func136 (by decide +kernel) rfl
theorem Xe8:FuncF Tryz.prog 137:=X8 Tryz.func137 (by decide +kernel) rfl
theorem X4r:FuncF Tryz.prog 141:=X8 Tryz.func141 (by decide +kernel) rfl
theorem X7e:FuncF Tryz.prog 142:=X8 Tryz.func142 (by decide +kernel) rfl
theorem Xf1:FuncF Tryz.prog 143:=X8 Tryz.func143 (by decide +kernel) rfl
theorem Xn5:FuncF Tryz.prog 148:=X8 Tryz.func148 (by decide +kernel) rfl
theorem Xfk:FuncF Tryz.prog 149:=X8 Tryz.func149 (by decide +kernel) rfl
theorem X5q:FuncF Tryz.prog 151:=X8 Tryz.func151 (by decide +kernel) rfl
theorem Xa5:FuncF Tryz.prog 152:=X8 Tryz.func152 (by decide +kernel) rfl
theorem Xdw:FuncF Tryz.prog 160:=X8 Tryz.func160 (by decide +kernel) rfl
theorem X7k:FuncF Tryz.prog 165:=X8 Tryz.func165 (by decide +kernel) rfl
theorem Xmk:FuncF Tryz.prog 167:=X8 Tryz.func167 (by decide +kernel) rfl
theorem Xkn:FuncF Tryz.prog 170:=X8 Tryz.func170 (by decide +kernel) rfl
theorem Xmf:FuncF Tryz.prog 171:=X8 Tryz.func171 (by decide +kernel) rfl
theorem Xlk:FuncF Tryz.prog 172:=X8 Tryz.func172 (by decide +kernel) rfl
theorem Xmm:FuncF Tryz.prog 173:=X8 Tryz.func173 (by decide +kernel) rfl
theorem X5p:FuncF Tryz.prog 174:=X8 Tryz.func174 (by decide +kernel) rfl
theorem Xno:FuncF Tryz.prog 175:=X8 Tryz.func175 (by decide +kernel) rfl
theorem Xml:FuncF Tryz.prog 176:=X8 Tryz.func176 (by decide +kernel) rfl
theorem Xl3:FuncF Tryz.prog 177:=X8 Tryz.func177 (by decide +kernel) rfl
theorem Xln:FuncF Tryz.prog 178:=X8 Tryz.func178 (by decide +kernel) rfl
theorem Xls:FuncF Tryz.prog 179:=X8 Tryz.func179 (by decide +kernel) rfl
theorem Xem:FuncF Tryz.prog 184:=X8 Tryz.func184 (by decide +kernel) rfl
theorem Xf8:FuncF Tryz.prog 185:=X8 Tryz.func185 (by decide +kernel) rfl
theorem X4s:FuncF Tryz.prog 188:=X8 Tryz.func188 (by decide +kernel) rfl
theorem X7g:FuncF Tryz.prog 189:=X8 Tryz.func189 (by decide +kernel) rfl
theorem Xf4:FuncF Tryz.prog 190:=X8 Tryz.func190 (by decide +kernel) rfl
theorem Xb3:FuncF Tryz.prog 193:=X8 Tryz.func193 (by decide +kernel) rfl
theorem Xkd:FuncF Tryz.prog 199:=X8 Tryz.func199 (by decide +kernel) rfl
theorem X6j:FuncF Tryz.prog 201:=X8 Tryz.func201 (by decide +kernel) rfl
theorem Xdv:FuncF Tryz.prog 202:=X8 Tryz.func202 (by decide +kernel) rfl
theorem Xag:FuncF Tryz.prog 203:=X8 Tryz.func203 (by decide +kernel) rfl
theorem Xfr:FuncF Tryz.prog 204:=X8 Tryz.func204 (by decide +kernel) rfl
theorem Xfz:FuncF Tryz.prog 205:=X8 Tryz.func205 (by decide +kernel) rfl
theorem Xl0:FuncF Tryz.prog 208:=X8 Tryz.func208 (by decide +kernel) rfl
theorem Xlj:FuncF Tryz.prog 209:=X8 Tryz.func209 (by decide +kernel) rfl
theorem X5b:FuncF Tryz.prog 210:=X8 Tryz.func210 (by decide +kernel) rfl
theorem X5a:FuncF Tryz.prog 211:=X8 Tryz.func211 (by decide +kernel) rfl
theorem X59:FuncF Tryz.prog 212:=X8 Tryz.func212 (by decide +kernel) rfl
theorem Xfe:FuncF Tryz.prog 213:=X8 Tryz.func213 (by decide +kernel) rfl
theorem Xfi:FuncF Tryz.prog 214:=X8 Tryz.func214 (by decide +kernel) rfl
theorem Xaw:FuncF Tryz.prog 217:=X8 Tryz.func217 (by decide +kernel) rfl
theorem Xdt:FuncF Tryz.prog 218:=X8 Tryz.func218 (by decide +kernel) rfl
theorem Xa1:FuncF Tryz.prog 223:=X8 Tryz.func223 (by decide +kernel) rfl
theorem Xkt:FuncF Tryz.prog 225:=X8 Tryz.func225 (by decide +kernel) rfl
theorem Xnc:FuncF Tryz.prog 227:=X8 Tryz.func227 (by decide +kernel) rfl
theorem Xmp:FuncF Tryz.prog 228:=X8 Tryz.func228 (by decide +kernel) rfl
theorem Xkr:FuncF Tryz.prog 230:=X8 Tryz.func230 (by decide +kernel) rfl
theorem Xlz:FuncF Tryz.prog 232:=X8 Tryz.func232 (by decide +kernel) rfl
theorem mixed:Tryz.prog.follows .mixedOrders=true:=by kernel_rfl
end Go.Proofs.YtpifljegadknkaaGreat
namespace Go.Proofs.YtpifljegadknkaaGreat
open Go.RowKit
section
variable {P : Program} {a : Act} {w : World} {n : Nat} {e : Env} {ty : TypeId} {pos : String} {af : Array Edge} {g : Option (Nat × Bool)} {d : Option Tmp}
variable {t t' : TypeId} {x y : Operand} {i j : Int}
theorem Xru(hf:Fr a n e)(hx:ev e x=some (.int .i64 i))(hy:ev e y=some (.int .i64 j))(h0:(j==0)=false) : Ev P ⟨d,.binOp .rem t x y t',ty,pos,af,g⟩ a w (.int .i64 (i.tmod j)):=fun w' _=>by
 have h0':j≠0:=by rintro rfl;simp at h0
 simp [execOp,hf.ev hx,hf.ev hy,eqGuard,binOp,Op.intDiv,h0']
theorem X4v(hx:ev e x=some (.int .i64 i))(hy:ev e y=some (.int .i64 j))(h0:(j==0)=false) : EvW P ⟨d,.binOp .rem t x y t',ty,pos,af,g⟩ n e w (.int .i64 (i.tmod j)):=fun a hf=>Xru hf hx hy h0
theorem Xpu(hf:Fr a n e)(hx:ev e x=some (.int .i64 i))(hy:ev e y=some (.int .i64 j))(h0:(j==0)=false) : Ev P ⟨d,.binOp .quo t x y t',ty,pos,af,g⟩ a w (.int .i64 (IntKind.i64.wrap (i.tdiv j))):=fun w' _=>by
 have h0':j≠0:=by rintro rfl;simp at h0
 simp [execOp,hf.ev hx,hf.ev hy,eqGuard,binOp,Op.intDiv,h0']
theorem Xx4(hx:ev e x=some (.int .i64 i))(hy:ev e y=some (.int .i64 j))(h0:(j==0)=false) : EvW P ⟨d,.binOp .quo t x y t',ty,pos,af,g⟩ n e w (.int .i64 (IntKind.i64.wrap (i.tdiv j))):=fun a hf=>Xpu hf hx hy h0
theorem Xkg(hf:Fr a n e)(hx:ev e x=some (.int .i64 i))(hy:ev e y=some (.int .i64 j))(h1:-9223372036854775808≤i*j)(h2:i*j≤9223372036854775807) : Ev P ⟨d,.binOp .mul t x y t',ty,pos,af,g⟩ a w (.int .i64 (i*j)):=fun w' _=>by
 have h:IntKind.i64.wrap (i*j)=i*j:=IntWalk.i64_in _ ⟨h1,h2⟩
 simp [execOp,hf.ev hx,hf.ev hy,eqGuard,binOp,Op.intArith,h]
theorem Xco(hx:ev e x=some (.int .i64 i))(hy:ev e y=some (.int .i64 j))(h1:-9223372036854775808≤i*j)(h2:i*j≤9223372036854775807) : EvW P ⟨d,.binOp .mul t x y t',ty,pos,af,g⟩ n e w (.int .i64 (i*j)):=fun a hf=>Xkg hf hx hy h1 h2
theorem Xrj{p:Addr}(hf:Fr a n e)(hx:ev e x=some (.pointer (some p))) : Ev P ⟨d,.nilCheck x,ty,pos,af,g⟩ a w (.pointer (some p)):=fun w' _=>by
 simp [execOp,hf.ev hx]
theorem Xz{p:Addr}(hx:ev e x=some (.pointer (some p))) : EvW P ⟨d,.nilCheck x,ty,pos,af,g⟩ n e w (.pointer (some p)):=fun a hf=>Xrj hf hx
end
section
variable {P : Program} {a : Act} {w : World} {n : Nat} {e : Env} {α : Type} {ops : Array Oper} {ty : TypeId} {pos : String} {af : Array Edge} {g : Option (Nat × Bool)} {d : Nat}
end
theorem Own.lower{α:Type}{w:World}{B0 B1:Nat}{E:TypeId}{sz:Nat}{enc:α→List Value}{A:Option Addr}{c:Nat}{l:List α}(h:Own w B0 E sz enc A c l)(hB:B1≤B0) : Own w B1 E sz enc A c l:=by
 refine ⟨h.1,?_⟩
 rcases h.2 with h1|⟨g,cap,cur,h1,h2,h3⟩
 ·exact .inl h1
 ·exact .inr ⟨g,cap,cur,h1,Q0 hB h2,h3⟩
section
variable {α : Type} {P : Program} {a : Act} {w : World} {n : Nat} {e : Env} {ty : TypeId} {pos : String} {af : Array Edge} {g : Option (Nat × Bool)} {d : Option Tmp}
end
abbrev wr(i:Int) : Int:=IntKind.i64.wrap i
theorem X2v{i:Int}(h1:-9223372036854775808≤i)(h2:i≤9223372036854775807) : wr i=i:=IntWalk.i64_in _ ⟨h1,h2⟩
structure Rg where (a b c d:Int) deriving DecidableEq
structure Dy where (num:Rg) (exp:Int) deriving DecidableEq
structure Gt where (k a b:Int) deriving DecidableEq
def encI(i:Int) : List Value:=[.int .i64 i]
def encR(r:Rg) : List Value:=[.int .i64 r.a,.int .i64 r.b,.int .i64 r.c,.int .i64 r.d]
def encD(x:Dy) : List Value:=[.int .i64 x.num.a,.int .i64 x.num.b,.int .i64 x.num.c,.int .i64 x.num.d,.int .i64 x.exp]
def encG(x:Gt) : List Value:=[.int .i64 x.k,.int .i64 x.a,.int .i64 x.b]
theorem Xf:∀ x,(encI x).length=1:=fun _=>rfl
theorem X16:∀ x,(encG x).length=3:=fun _=>rfl
theorem X25:∀ x,(encI x).all one=true:=fun _=>rfl
theorem X2r:∀ x,(encG x).all one=true:=fun _=>rfl
abbrev rV(r:Rg) : Value:=.agg #[.int .i64 r.a,.int .i64 r.b,.int .i64 r.c,.int .i64 r.d]
abbrev dV(x:Dy) : Value:=.agg #[.int .i64 x.num.a,.int .i64 x.num.b,.int .i64 x.num.c,.int .i64 x.num.d,.int .i64 x.exp]
abbrev gV(x:Gt) : Value:=.agg #[.int .i64 x.k,.int .i64 x.a,.int .i64 x.b]
def inR(n lo hi:Int) : Bool:=decide (lo≤n)&&decide (n≤hi)
def rOk(x:Rg) : Bool:=inR x.a (-1000000000) 1000000000&&inR x.b (-1000000000) 1000000000&&inR x.c (-1000000000) 1000000000&&inR x.d (-1000000000) 1000000000
def rAdd(x y:Rg) : Rg:=⟨wr (x.a+y.a),wr (x.b+y.b),wr (x.c+y.c),wr (x.d+y.d)⟩
def rNeg(x:Rg) : Rg:=⟨wr (-x.a),wr (-x.b),wr (-x.c),wr (-x.d)⟩
def rMul(x y:Rg) : Rg:=
 ⟨wr (wr (wr (wr (x.a*y.a)-wr (x.b*y.d))-wr (x.c*y.c))-wr (x.d*y.b)),
 wr (wr (wr (wr (x.a*y.b)+wr (x.b*y.a))-wr (x.c*y.d))-wr (x.d*y.c)),
 wr (wr (wr (wr (x.a*y.c)+wr (x.b*y.b))+wr (x.c*y.a))-wr (x.d*y.d)),
 wr (wr (wr (wr (x.a*y.d)+wr (x.b*y.c))+wr (x.c*y.b))+wr (x.d*y.a))⟩
def rRoot(x:Rg) : Rg:=⟨wr (x.b-x.d),wr (x.a+x.c),wr (x.b+x.d),wr (x.c-x.a)⟩
def rEven(x:Rg) : Bool:=(wr (x.a+x.c)).tmod 2==0&&(wr (x.b+x.d)).tmod 2==0
def rHalf(x:Rg) : Rg:=⟨wr ((rRoot x).a.tdiv 2),wr ((rRoot x).b.tdiv 2),wr ((rRoot x).c.tdiv 2),wr ((rRoot x).d.tdiv 2)⟩
def rOm(x:Rg) : Rg:=⟨wr (-x.d),x.a,x.b,x.c⟩
def rTurnN:Nat→Rg→Rg
 | 0,x=>x
 | k+1,x=>rTurnN k (rOm x)
def turns(k:Int) : Int:=(wr (k.tmod 8+8)).tmod 8
def rTurn(x:Rg)(k:Int) : Rg:=rTurnN (turns k).toNat x
def lowN:Nat→Rg→Rg×Nat
 | 0,x=>(x,0)
 | m+1,x=>if rEven x then lowN m (rHalf x) else (x,m+1)
def dLow(x:Rg)(exp:Int) : Dy:=⟨(lowN exp.toNat x).1,if 0<exp then ((lowN exp.toNat x).2:Int) else exp⟩
def dPow(k:Int) : Dy:=⟨rTurn ⟨1,0,0,0⟩ k,0⟩
def dNeg(x:Dy) : Dy:=⟨rNeg x.num,x.exp⟩
def dZ:Dy:=⟨⟨0,0,0,0⟩,0⟩
section
variable {α : Type} {p : α → Bool} {l : List α} {k : Nat} {u : α}
theorem X46(h:(l.take k).all p=true)(hu:l[k]? = some u)(hp:p u=true) : (l.take (k+1)).all p=true:=by
 rw [Qt,hu]
 simp only [List.all_append,h,Option.toList_some,List.all_cons,hp,List.all_nil,Bool.and_self]
theorem X47(h:(l.take k).all p=true)(hk:l.length≤k) : l.all p=true:=by rwa [Qi hk] at h
end
theorem X53{α:Type}{p:α→Bool}{l:List α}{k:Nat}{u:α}(hu:l[k]? = some u)(hp:p u=true) : l.any p=true:=by
 obtain ⟨h1,h2⟩:=Qg.1 hu
 subst h2
 exact List.any_eq_true.2 ⟨_,List.getElem_mem h1,hp⟩
theorem X4b{α:Type}{p:α→Bool}{l:List α}(h:l.all (fun x=>!p x)=true) : l.any p=false:=by
 rw [W7]
 intro x hx
 have:=W1.1 h x hx
 simpa using this
def rIf2(x:Rg)(l:List Rg) : Bool:=(l++[x]).all rOk
def rIf1(x:Rg)(l:List Rg) : Rg:=if rIf2 x l=true then x else ⟨0,0,0,0⟩
def rDiv2(x:Rg) : Bool:=rOk x&&rEven x
def rDiv1(x:Rg) : Rg:=if rDiv2 x=true then rHalf x else ⟨0,0,0,0⟩
theorem X0f{n lo hi:Int} : inR n lo hi=true↔lo≤n∧n≤hi:=by simp [inR]
theorem Xlc{x:Rg} : rOk x=true↔(-1000000000≤x.a∧x.a≤1000000000)∧(-1000000000≤x.b∧x.b≤1000000000)∧(-1000000000≤x.c∧x.c≤1000000000)∧(-1000000000≤x.d∧x.d≤1000000000):=by
 simp only [rOk,Qd,X0f,and_assoc]
def mulOm2(x:Rg)(k:Int) : Bool:=inR k (-1000) 1000&&rOk x
def mulOm1(x:Rg)(k:Int) : Rg:=if mulOm2 x k=true then rTurn x k else ⟨0,0,0,0⟩
def dOk(x:Dy) : Bool:=rOk x.num&&inR x.exp 0 60&&(x.exp==0||!rEven x.num)
theorem Xgl{a b:Bool}(h:(!a||!b)=true) : (a&&b)=false:=by revert h;cases a<;>cases b<;>simp
theorem Xhh{a b:Bool}(h:(!a||!b)=false) : (a&&b)=true:=by revert h;cases a<;>cases b<;>simp
def dOf(x:Rg)(m:Int) : Option Dy:=if (rOk x&&inR m 0 60)=true then some (dLow x m) else none
def raiseI:Nat→Rg→Rg×Bool
 | 0,y=>(y,true)
 | n+1,y=>if rIf2 (rRoot y) [y]=true then raiseI n (rRoot y) else (⟨0,0,0,0⟩,false)
def dRaise(x:Dy)(m:Int) : Rg×Bool:=raiseI (m-x.exp).toNat x.num
def dAddI(x y:Dy) : Option Dy:=
 if (dOk x&&dOk y)=true then
  if ((dRaise x (max x.exp y.exp)).2&&(dRaise y (max x.exp y.exp)).2&&rIf2 (rAdd (dRaise x (max x.exp y.exp)).1 (dRaise y (max x.exp y.exp)).1) [(dRaise x (max x.exp y.exp)).1,(dRaise y (max x.exp y.exp)).1])=true then
   dOf (rIf1 (rAdd (dRaise x (max x.exp y.exp)).1 (dRaise y (max x.exp y.exp)).1) [(dRaise x (max x.exp y.exp)).1,(dRaise y (max x.exp y.exp)).1]) (max x.exp y.exp)
  else none
 else none
def dMulI(x y:Dy) : Option Dy:=
 if (dOk x&&dOk y&&rIf2 (rMul x.num y.num) [x.num,y.num])=true then dOf (rIf1 (rMul x.num y.num) [x.num,y.num]) (x.exp+y.exp) else none
structure Mx where (rows cols:Int) (cells:List Dy)
def mZ:Mx:=⟨0,0,[]⟩
abbrev mV(A:Option Addr)(c:Nat)(m:Mx) : Value:=.agg #[.int .i64 m.rows,.int .i64 m.cols,.slice A m.cells.length c]
def isDimB(n:Int) : Bool:=inR n 1 32&&bits .and .i64 n (wr (n-1))==0
def mOk(m:Mx) : Bool:=isDimB m.rows&&isDimB m.cols&&(m.cells.length:Int)==wr (m.rows*m.cols)&&!(m.cells.any fun x=>!dOk x)
def seqO(g:Nat→Option Dy) : Nat→Option (List Dy)
 | 0=>some []
 | n+1=>match seqO g n,g n with
  | some l,some x=>some (l++[x])
  | _,_=>none
def gridG(f:Nat→Nat→Option Dy)(C:Nat)(n:Nat) : Option Dy:=f (n/C) (n % C)
def matOf(R C:Int)(f:Nat→Nat→Option Dy) : Option Mx:=
 if (isDimB R&&isDimB C)=true then (seqO (gridG f C.toNat) (R.toNat*C.toNat)).map fun l=>⟨R,C,l⟩ else none
def Mx.at(m:Mx)(i j:Nat) : Dy:=m.cells.getD (i*m.cols.toNat+j) dZ
def dotI(a b:Mx)(i j:Nat) : Nat→Option Dy
 | 0=>some dZ
 | n+1=>(dotI a b i j n).bind fun s=>(dMulI (a.at i n) (b.at n j)).bind fun x=>dAddI s x
def mulI(a b:Mx) : Option Mx:=if (mOk a&&mOk b&&a.cols==b.rows)=true then matOf a.rows b.cols fun i j=>dotI a b i j a.cols.toNat else none
def idI(n:Int) : Option Mx:=matOf n n fun i j=>some (if i=j then ⟨⟨1,0,0,0⟩,0⟩ else dZ)
def scaleI(m:Mx)(x:Dy) : Option Mx:=if (mOk m&&dOk x)=true then matOf m.rows m.cols fun i j=>dMulI (m.at i j) x else none
theorem Xgm{P:Program}{t:TypeId}{fs:Array Field}(h:P.underlying t=some (.struct fs)) : P.fieldsOf t=fs:=by simp [Program.fieldsOf,h]
theorem X97{P:Program}{w:World}{t k:Nat}{xs:Array Value}{v:Value}(h1:OneT P t)(h:xs[k]? = some v) : (part t xs k).run P w=.ok v w:=by
 simp [part,X42 h1,h]
theorem X6i {P : Program} {w : World} {d : Nat} {xs ys : Array Value} {f : Field} {fs : List Field} {k : IntKind} {i j : Int} (hn : f.name ≠ "_") (hT : OneT P f.type) (hu : P.underlying f.type = some (.int k)) (hx : xs[f.offset]? = some (.int .i64 i)) (hy : ys[f.offset]? = some (.int .i64 j))
  {r:Bool} (h:i=j→(Op.eqFields (d+1) xs ys fs).run P w=.ok r w) : (Op.eqFields (d+1) xs ys (f::fs)).run P w=.ok (decide (i=j)&&r) w:=by
 simp only [Op.eqFields,hn,ne_eq,not_false_eq_true,if_true,Sem.run_bind,X97 hT hx,X97 hT hy,Result.andThen_ok,run_equalIn_int _ _ _ _ _ _ _ hu]
 by_cases hij:i=j
 ·subst hij
  simp [h rfl]
 ·simp [hij]
section
variable {P : Program} {a : Act} {w : World} {n : Nat} {e : Env} {ty : TypeId} {pos : String} {af : Array Edge} {g : Option (Nat × Bool)} {d : Option Tmp} {t t' : TypeId} {x y : Operand} {X Y : Array Value} {b : Bool}
theorem Xlp(hf:Fr a n e)(hx:ev e x=some (.agg X))(hy:ev e y=some (.agg Y))(hm:P.eqGuardType P.depth t=false)(he:∀ w,(Op.equalIn 10000 t (.agg X) (.agg Y)).run P w=.ok b w) : Ev P ⟨d,.binOp .eql t x y t',ty,pos,af,g⟩ a w (.bool b):=fun w' _=>by
 have h1:=run_eqGuard_agg (P:=P) w' .eql t x y X Y hm;have h2:=run_eql_struct (P:=P) w' t X Y
 rw [he] at h2
 simp [execOp,hf.ev hx,hf.ev hy,h1,h2]
theorem Xvf(hx:ev e x=some (.agg X))(hy:ev e y=some (.agg Y))(hm:P.eqGuardType P.depth t=false)(he:∀ w,(Op.equalIn 10000 t (.agg X) (.agg Y)).run P w=.ok b w) : EvW P ⟨d,.binOp .eql t x y t',ty,pos,af,g⟩ n e w (.bool b):=fun a hf=>Xlp hf hx hy hm he
end
theorem Xmb{α:Type}{l m:List α}{k:Nat}{u v:α}(h:l.take k=m.take k)(hu:l[k]? = some u)(hv:m[k]? = some v)(he:u=v) : l.take (k+1)=m.take (k+1):=by
 rw [Qt,Qt,h,hu,hv,he]
def bitF(n s q:Int) : Int:=bits .and .i64 (s/2^(n-1-q).toNat) 1
def flipF(n s q:Int) : Int:=bits .xor .i64 s (wr (1*2^(n-1-q).toNat))
def turnOf(k:Int) : Int:=if k=4 then 4 else if k=5 then 2 else if k=6 then 6 else if k=7 then 1 else 7
def dHalf:Dy:=⟨⟨1,0,0,0⟩,1⟩
def oneL(k:Int) : List Dy:=
 if k=1 then [dHalf,dHalf,dHalf,dNeg dHalf] else if k=2 then [dZ,dPow 0,dPow 0,dZ] else if k=3 then [dZ,dPow 6,dPow 2,dZ] else [dPow 0,dZ,dZ,dPow (turnOf k)]
theorem Own.of_blkL{α:Type}{w:World}{B0 b k:Nat}{E:TypeId}{sz:Nat}{enc:α→List Value}{cs:List Value}{l:List α}(hsz:∀ x,(enc x).length=sz)(h:Blk w b E cs)(hb:B0≤b)(hc:l.flatMap enc=cs)(hl:l.length=k)(hk:k≤maxLen) : Own w B0 E sz enc (some ⟨b,0,none⟩) k l:=by
 subst hc;subst hl
 have h1:=Xo hsz l
 refine ⟨h1,.inr ⟨b,l.length,_,rfl,hb,h,Qb _,hk,?_,?_⟩⟩
 ·simpa using h1
 ·rw [← h1];exact List.take_length
structure Cx where (n:Int) (gs:List Gt)
def gOk(n:Int)(x:Gt) : Bool:=
 inR n 1 5&&inR x.k 1 12&&(if x.k=12 then x.a==0&&x.b==0 else if inR x.k 9 11=true then inR x.a 0 (n-1)&&inR x.b 0 (n-1)&&x.a != x.b else inR x.a 0 (n-1)&&x.b==0)
def cOk(c:Cx) : Bool:=inR c.n 1 5&&decide ((c.gs.length:Int)≤400)&&!(c.gs.any fun x=>!gOk c.n x)
def eqPhT(p q:Mx)(k:Nat) : Bool:=(scaleI q (dPow k)).isSome&&(decide (p.rows=((scaleI q (dPow k)).getD mZ).rows)&&decide (p.cols=((scaleI q (dPow k)).getD mZ).cols)&&decide (p.cells=((scaleI q (dPow k)).getD mZ).cells))
def eqPh(p q:Mx) : Bool:=(List.range 8).any (eqPhT p q)
def sRing(x:Rg) : Rg:=if rOk x=true then x else ⟨0,0,0,0⟩
def sRaiseN:Nat→Bool→Dy→Bool×Dy
 | 0,f,x=>(f,x)
 | n+1,f,x=>sRaiseN n (f||!rOk (rRoot x.num)) ⟨sRing (rRoot x.num),x.exp+1⟩
def sAdd(f:Bool)(x y:Dy) : Bool×Dy:=
 ((sRaiseN ((sRaiseN (y.exp-x.exp).toNat f x).2.exp-y.exp).toNat (sRaiseN (y.exp-x.exp).toNat f x).1 y).1||!rOk (rAdd (sRaiseN (y.exp-x.exp).toNat f x).2.num (sRaiseN ((sRaiseN (y.exp-x.exp).toNat f x).2.exp-y.exp).toNat (sRaiseN (y.exp-x.exp).toNat f x).1 y).2.num),
 dLow (sRing (rAdd (sRaiseN (y.exp-x.exp).toNat f x).2.num (sRaiseN ((sRaiseN (y.exp-x.exp).toNat f x).2.exp-y.exp).toNat (sRaiseN (y.exp-x.exp).toNat f x).1 y).2.num)) (sRaiseN (y.exp-x.exp).toNat f x).2.exp)
def sMul(f:Bool)(x y:Dy) : Bool×Dy:=
 if 60<x.exp+y.exp then (true,dZ) else (f||!rOk (rMul x.num y.num),dLow (sRing (rMul x.num y.num)) (x.exp+y.exp))
theorem Xbt{n:Int}{g:Gt}(h:gOk n g=true) : (1≤n∧n≤5)∧(1≤g.k∧g.k≤12)∧(g.k≠12→0≤g.a∧g.a<n)∧(9≤g.k∧g.k≤11→0≤g.b∧g.b<n∧g.a≠g.b):=by
 simp only [gOk,Qd,X0f] at h
 obtain ⟨⟨h1,h2⟩,h3⟩:=h
 refine ⟨h1,h2,fun hk=>?_,fun hk=>?_⟩
 ·rw [Q3 hk] at h3
  split at h3<;>simp only [Qd,X0f] at h3<;>omega
 ·rw [Q3 (by omega),Q4 hk] at h3
  simp only [Qd,X0f,bne_iff_ne] at h3
  exact ⟨h3.1.2.1,by omega,h3.2⟩
def toS(n:Int)(g:Gt)(col:Int) : Int:=
 if g.k=9 then (if bitF n col g.a=1 then flipF n col g.b else col) else if g.k=11 then (if bitF n col g.a≠bitF n col g.b then flipF n (flipF n col g.a) g.b else col) else col
def valS(n:Int)(g:Gt)(col:Int) : Dy:=if g.k=12 then dPow 1 else if g.k=10∧bitF n col g.a=1∧bitF n col g.b=1 then dPow 4 else dPow 0
def cellS(n:Int)(g:Gt)(row col:Int) : Dy:=
 if g.k≤8 then (if bits .andNot .i64 (bits .xor .i64 row col) (wr (1*2^(n-1-g.a).toNat))≠0 then dZ else (oneL g.k).getD (2*bitF n row g.a+bitF n col g.a).toNat dZ)
 else if row=toS n g col then valS n g col else dZ
def gridF(f:Nat→Nat→Dy)(C:Nat)(m:Nat) : Dy:=f (m/C) (m % C)
def gridL(f:Nat→Nat→Dy)(C:Nat)(N:Nat) : List Dy:=(List.range N).map (gridF f C)
def gateS(n:Int)(g:Gt) : Mx:=⟨((2^n.toNat:Nat) : Int),((2^n.toNat:Nat) : Int),gridL (fun i j=>cellS n g i j) (2^n.toNat) (2^n.toNat*2^n.toNat)⟩
def dTurn(k:Int)(x:Dy) : Dy:=⟨rTurn x.num k,x.exp⟩
def turnedS(p q:Mx)(k:Int) : Bool:=decide (p.rows=q.rows)&&decide (p.cols=q.cols)&&decide (p.cells=q.cells.map (dTurn k))
def phaseS(p q:Mx) : Bool:=(List.range 8).any fun k=>turnedS p q (k:Int)
section
variable {n : Int} {g : Gt} (hn : 1 ≤ n ∧ n ≤ 5)
include hn
theorem Xxp(h:inR g.k 1 8=true) : gOk n g=(inR g.a 0 (n-1)&&g.b==0):=by
 have h1:=X0f.1 h
 have e1:inR n 1 5=true:=X0f.2 hn
 have e2:inR g.k 1 12=true:=X0f.2 (by omega)
 have e3:¬ inR g.k 9 11=true:=fun h=>by have:=X0f.1 h;omega
 rw [gOk,e1,e2,Q3 (by omega),Q3 e3];rfl
theorem Xxy(h:inR g.k 9 11=true) : gOk n g=(inR g.a 0 (n-1)&&inR g.b 0 (n-1)&&g.a != g.b):=by
 have h1:=X0f.1 h
 have e1:inR n 1 5=true:=X0f.2 hn
 have e2:inR g.k 1 12=true:=X0f.2 (by omega)
 rw [gOk,e1,e2,Q3 (by omega),Q4 h];rfl
theorem Xx2(h1:inR g.k 1 8=false)(h2:inR g.k 9 11=false) : gOk n g=(g.k==12&&g.a==0&&g.b==0):=by
 have e1:inR n 1 5=true:=X0f.2 hn
 by_cases hk:g.k=12
 ·have e2:inR g.k 1 12=true:=X0f.2 (by omega)
  rw [gOk,e1,e2,Q4 hk,hk];rfl
 ·have e2:inR g.k 1 12=false:=by
   cases h:inR g.k 1 12 with
   | false=>rfl
   | true=>
    have h3:=X0f.1 h
    rcases (show g.k<9∨9≤g.k by omega) with h4|h4
    ·rw [X0f.2 (by omega)] at h1;cases h1
    ·rw [X0f.2 (by omega)] at h2;cases h2
  have e3:(g.k==12)=false:=by simpa using hk
  rw [gOk,e1,e2,e3];rfl
end
def entryI(k i j:Int) : Dy:=
 if k=1 then (if i=1∧j=1 then ⟨⟨-1,0,0,0⟩,1⟩ else dHalf) else if k=2∧i≠j then ⟨⟨1,0,0,0⟩,0⟩ else if k=3∧i≠j then dPow (2+4*j)
 else if k=2∨k=3∨i≠j then dZ else if i=0 then ⟨⟨1,0,0,0⟩,0⟩ else dPow (turnOf k)
def czI(n:Int)(g:Gt)(i:Int) : Bool:=g.k==10&&bitF n i g.a==1&&bitF n i g.b==1
def cellI(n:Int)(g:Gt)(i j:Int) : Dy:=
 if g.k=12 then (if i=j then dPow 1 else dZ)
 else if inR g.k 9 11=true then (if toS n g i=j then dPow (4*(if czI n g i=true then 1 else 0)) else dZ)
 else if i=j∨flipF n i g.a=j then entryI g.k (bitF n i g.a) (bitF n j g.a) else dZ
def gateI(n:Int)(g:Gt) : Option Mx:=if gOk n g=true then matOf ((2^n.toNat:Nat) : Int) ((2^n.toNat:Nat) : Int) fun i j=>some (cellI n g i j) else none
theorem F91(w0:World)(n:Int)(lo:Int)(hi:Int) : Ret Tryz.prog 94 [vi n,vi lo,vi hi] w0 (fun v w=>v=.bool (inR n lo hi)∧w0=w):=by
 refine enter Tryz.func94 rfl 15 rfl rfl ?_;intro a c
 have hW:=bz w0
 refine Zs c fun _ a6=>?_;refine Za rfl<|ZX a6 fun a c _ a7=>?_;refine X0a (fun a w=>Fr a 15 [(6,.bool ((decide (lo≤n))&&(decide (n≤hi))))]∧w0=w) ?_ ?_
 ·refine Zr c<|Zm rfl<|Zm rfl<|Ze (Xk7 rfl rfl)<|Zm rfl ?_
  refine Zg 10 rfl (fun b=>?_) (fun b=>?_)
  ·refine Zv (gW b) (X3 rfl) ?_;refine Zv (gW b) (X3 rfl) ?_;refine Zv (gW b) (Xk7 rfl rfl) ?_;refine Ze (X7 rfl b rfl)<|Za rfl ?_;refine Zn fun a c=>?_;exact ⟨c.sub ⟨X1 rfl (by first|rfl|(simp only [b,bs];done)|simp [b]),trivial⟩,rfl⟩
  refine Zp (gP b) ?_;refine Zp (gP b) ?_;refine Zp (gP b) ?_;refine Ze (Xe rfl b rfl)<|Za rfl ?_;refine Zn fun a c=>?_;exact ⟨c.sub ⟨X1 rfl (by first|rfl|(simp only [b,bs];done)|simp [b]),trivial⟩,rfl⟩
 rintro a _ ⟨c,rfl⟩;refine a7 _ _ ?_
 refine Q6 (X4 c (Xt c rfl rfl) ?_)
 exact ⟨by simp [inR, *],rfl⟩
theorem F85(w0:World)(n:Int)(lo:Int)(hi:Int) : Ret Tryz.prog 86 [vi n,vi lo,vi hi] w0 (fun v w=>v=.bool (inR n lo hi)∧w0=w):=by
 refine enter Tryz.func86 rfl 15 rfl rfl ?_;intro a c
 have hW:=bz w0
 refine Zs c fun _ a6=>?_;refine Za rfl<|ZX a6 fun a c _ a7=>?_;refine X0a (fun a w=>Fr a 15 [(6,.bool ((decide (lo≤n))&&(decide (n≤hi))))]∧w0=w) ?_ ?_
 ·refine Zr c<|Zm rfl<|Zm rfl<|Ze (X4g rfl rfl)<|Zm rfl ?_
  refine Zg 10 rfl (fun b=>?_) (fun b=>?_)
  ·refine Zv (gW b) (X3 rfl) ?_;refine Zv (gW b) (X3 rfl) ?_;refine Zv (gW b) (Xk7 rfl rfl) ?_;refine Ze (X7 rfl b rfl)<|Za rfl ?_;refine Zn fun a c=>?_;exact ⟨c.sub ⟨X1 rfl (by first|rfl|(simp only [b,bs];done)|simp [b]),trivial⟩,rfl⟩
  refine Zp (gP b) ?_;refine Zp (gP b) ?_;refine Zp (gP b) ?_;refine Ze (Xe rfl b rfl)<|Za rfl ?_;refine Zn fun a c=>?_;exact ⟨c.sub ⟨X1 rfl (by first|rfl|(simp only [b,bs];done)|simp [b]),trivial⟩,rfl⟩
 rintro a _ ⟨c,rfl⟩;refine a7 _ _ ?_
 refine Q6 (X4 c (Xt c rfl rfl) ?_)
 exact ⟨by simp [inR, *],rfl⟩
theorem Xtz(w0:World)(x:Int)(y:Int) : Ret Tryz.prog 187 [vi x,vi y] w0 (fun v w=>v=vi (max x y)∧w0=w):=by
 refine enter Tryz.func187 rfl 10 rfl rfl ?_;intro a c
 have hW:=bz w0
 refine Zs c fun _ a7=>?_;refine Za rfl<|ZX a7 fun a c _ a8=>?_;refine Zs c fun _ aA=>?_;refine Zm rfl<|Zm rfl<|Ze (X6o rfl rfl)<|Zt aA fun a c=>?_
 refine Xg c rfl (fun b=>?_) (fun b=>?_)
 ·have a6:=b;have b:=Q2 b;refine Zs c fun _ aB=>?_;refine Zm rfl<|Za rfl<|Zt aB fun a c=>?_;refine Q6<|X6<|X4 c (Xt c rfl rfl) ?_;exact ⟨by congr 1;omega,rfl⟩
 have a6:=b;have b:=Q1 b;refine Q7<|a8 _ _<|Zs c fun _ aC=>?_;refine Zm rfl<|Za rfl<|Zt aC fun a c=>?_
 refine Q6 (X4 c (Xt c rfl rfl) ?_)
 exact ⟨by congr 1;omega,rfl⟩
theorem F99(w0:World)(k:Int) : Ret Tryz.prog 192 [vi k] w0 (fun v w=>v=.bool (inR k 9 11)∧w0=w):=by
 refine enter Tryz.func192 rfl 5 rfl rfl ?_;intro a hf
 have hW:=bz w0
 refine Zs hf fun _ a6=>?_;refine Za rfl<|Zx a6 fun a hf _ a7=>?_;refine Zm rfl<|Zf (Vc (F91 _ k 9 11) X3n) ?_;rintro _ _ ⟨rfl,rfl⟩;refine Za rfl<|Zt a7 fun a hf=>?_
 refine Q6 (X4 hf (Xt hf rfl rfl) ?_)
 exact ⟨rfl,rfl⟩
theorem F59(w0:World)(b:Bool) : Ret Tryz.prog 166 [.bool b] w0 (fun v w=>v=vi (if b=true then 1 else 0)∧w0=w):=by
 refine enter Tryz.func166 rfl 4 rfl rfl ?_;intro a c
 have hW:=bz w0
 refine Zs c fun _ a8=>?_;refine Za rfl<|ZX a8 fun a c _ aA=>?_;refine Zs c fun _ aB=>?_;refine Zm rfl<|Zt aB fun a c=>?_
 refine Xg c rfl (fun a6=>?_) (fun a6=>?_)
 ·have a7:=a6;refine Zs c fun _ aC=>?_;refine Za rfl<|Zt aC fun a c=>?_;refine Q6<|X6<|X4 c (Xt c rfl rfl) ?_;exact ⟨by simp [*],rfl⟩
 have a7:=a6;refine Q7<|aA _ _<|Zs c fun _ aD=>?_;refine Za rfl<|Zt aD fun a c=>?_
 refine Q6 (X4 c (Xt c rfl rfl) ?_)
 exact ⟨by simp [*],rfl⟩
theorem Xsn(w0:World)(n:Int)(x:Gt) : Ret Tryz.prog 140 [vi n,.agg #[vi x.k,vi x.a,vi x.b]] w0 (fun v w=>v=.bool (gOk n x)∧Below w0.heap.size w0 w):=by
 refine enter Tryz.func140 rfl 60 rfl rfl ?_;intro a i
 have hW:=bz w0
 refine Zs i fun _ aC=>?_;refine Zf (X0c (zs:=[vi x.k,vi x.a,vi x.b]) rfl rfl) ?_;rintro _ w1 ⟨b2,rfl,aD,hE,o⟩;have aJ:=Q0 hW.size aD;have hW:=btr hW hE;refine Za rfl<|ZX aC fun a i _ aE=>?_;refine Q8<|Q5 fun _ aF=>?_;refine X0a (fun a w=>Fr a 60 [(0,vi n),(3,.pointer (some ⟨b2,0,none⟩)),(5,.bool ((!(inR n 1 5))||(!(inR x.k 1 12))))]∧w1=w) ?_ ?_
 ·refine Zr i<|Zm rfl<|Zf (Vc (F91 _ n 1 5) X3n) ?_;rintro _ _ ⟨rfl,rfl⟩;refine Ze (X0y rfl)<|Zm rfl ?_
  refine Zg 9 rfl (fun m=>?_) (fun m=>?_)
  ·refine Zp (gP m) ?_;refine Zp (gP m) ?_;refine Zp (gP m) ?_;refine Zp (gP m) ?_;refine Ze (X7 rfl m rfl)<|Za rfl ?_;refine Zn fun a i=>?_;exact ⟨i.sub ⟨rfl,rfl,X1 rfl (by first|rfl|(simp only [m,bs];done)|simp [m]),trivial⟩,rfl⟩
  refine Zv (gW m) (Vd rfl X0p 0) ?_;refine Zv (gW m) (X0 rfl X9 (o.at 0)) ?_;refine Zk (gW m) (Vc (F91 _ x.k 1 12) X3n) ?_;rintro _ _ ⟨rfl,rfl⟩;refine Zv (gW m) (X0y rfl) ?_;refine Ze (Xe rfl m rfl)<|Za rfl ?_;refine Zn fun a i=>?_;exact ⟨i.sub ⟨rfl,rfl,X1 rfl (by first|rfl|(simp only [m,bs];done)|simp [m]),trivial⟩,rfl⟩
 rintro a _ ⟨i,rfl⟩;refine aF _ _ ?_
 refine Xg i rfl (fun q=>?_) (fun q=>?_)
 ·have e:=q;have hn:=Xgl q;refine Zs i fun _ aG=>?_;refine Za rfl<|Zt aG fun a i=>?_;refine Q6<|Xq<|X6<|X4 i (Xt i rfl rfl) ?_;exact ⟨by rw [gOk,hn];rfl,hW⟩
 have e:=q;have hy:=Xhh q;have aH:=(Qd _ _▸hy:inR n 1 5=true∧inR x.k 1 12=true);have aK:=X0f.1 aH.1;refine Zs i fun _ aI=>?_;refine Ze (Vd rfl X0p 0)<|Ze (X0 rfl X9 (o.at 0))<|Ze (X0b rfl rfl)<|Za rfl<|Zt aI fun a i=>?_
 refine Xg i rfl (fun t=>?_) (fun t=>?_)
 ·have f:=t
  have hk:x.k=12:=by simpa using t
  refine Q5 fun _ a7=>?_;refine X0a (fun a w=>Fr a 60 [(4,.bool ((x.a==0)&&(x.b==0)))]∧w1=w) ?_ ?_
  ·refine Zr i<|Ze (Vd rfl X09 1)<|Ze (X0 rfl X9 (o.at 1))<|Ze (X0b rfl rfl)<|Zm rfl ?_
   refine Zg 22 rfl (fun j=>?_) (fun j=>?_)
   ·refine Zv (gW j) (Vd rfl X0r 2) ?_;refine Zv (gW j) (X0 rfl X9 (o.at 2)) ?_;refine Zv (gW j) (X0b rfl rfl) ?_;refine Ze (X7 rfl j rfl)<|Za rfl ?_;refine Zn fun a i=>?_;exact ⟨i.sub ⟨X1 rfl (by first|rfl|(simp only [e,f,j,bs];done)|simp [e,f,j]),trivial⟩,rfl⟩
   refine Zp (gP j) ?_;refine Zp (gP j) ?_;refine Zp (gP j) ?_;refine Ze (Xe rfl j rfl)<|Za rfl ?_;refine Zn fun a i=>?_;exact ⟨i.sub ⟨X1 rfl (by first|rfl|(simp only [e,f,j,bs];done)|simp [e,f,j]),trivial⟩,rfl⟩
  rintro a _ ⟨i,rfl⟩;refine a7 _ _<|Q6<|Xq<|X6 ?_;refine X4 i (Xt i rfl rfl) ?_;exact ⟨by rw [gOk,hy,Q4 hk,Qw],hW⟩
 have f:=t
 have hk:¬ x.k=12:=by simpa using t
 refine Zs i fun _ a8=>?_;refine Ze (Vd rfl X0p 0)<|Ze (X0 rfl X9 (o.at 0))<|Zf (Vc (F99 _ x.k) Xwa) ?_;rintro _ _ ⟨rfl,rfl⟩;refine Za rfl<|Zt a8 fun a i=>?_
 refine Xg i rfl (fun p=>?_) (fun p=>?_)
 ·have g:=p;have a6:=p;refine Q5 fun _ aA=>?_;refine X0a (fun a w=>Fr a 60 [(4,.bool (((inR x.a 0 (n-1))&&(inR x.b 0 (n-1)))&&(x.a != x.b)))]∧w1=w) ?_ ?_
  ·refine Zr i<|Ze (Vd rfl X09 1)<|Ze (X0 rfl X9 (o.at 1))<|Zm rfl<|Ze (X1g rfl rfl (by omega) (by omega))<|Zf (Vc (F91 _ x.a 0 (n-1)) X3n) ?_;rintro _ _ ⟨rfl,rfl⟩;refine Zm rfl ?_
   refine Zg 36 rfl (fun c=>?_) (fun c=>?_)
   ·refine Zv (gW c) (Vd rfl X0r 2) ?_;refine Zv (gW c) (X0 rfl X9 (o.at 2)) ?_;refine Zv (gW c) (X3 rfl) ?_;refine Zv (gW c) (X1g rfl rfl (by omega) (by omega)) ?_;refine Zk (gW c) (Vc (F91 _ x.b 0 (n-1)) X3n) ?_;rintro _ _ ⟨rfl,rfl⟩;refine Ze (X7 rfl c rfl)<|Zm rfl ?_
    refine Zg 43 rfl (fun d=>?_) (fun d=>?_)
    ·refine Zv (gW d) (Vd rfl X09 1) ?_;refine Zv (gW d) (X0 rfl X9 (o.at 1)) ?_;refine Zv (gW d) (Vd rfl X0r 2) ?_;refine Zv (gW d) (X0 rfl X9 (o.at 2)) ?_;refine Zv (gW d) (X1j rfl rfl) ?_;refine Ze (X7 rfl d rfl)<|Za rfl ?_;refine Zn fun a i=>?_;exact ⟨i.sub ⟨X1 rfl (by first|rfl|(simp only [e,f,g,c,d,bs];done)|simp [e,f,g,c,d]),trivial⟩,rfl⟩
    refine Zp (gP d) ?_;refine Zp (gP d) ?_;refine Zp (gP d) ?_;refine Zp (gP d) ?_;refine Zp (gP d) ?_;refine Ze (Xe rfl d rfl)<|Za rfl ?_;refine Zn fun a i=>?_;exact ⟨i.sub ⟨X1 rfl (by first|rfl|(simp only [e,f,g,c,d,bs];done)|simp [e,f,g,c,d]),trivial⟩,rfl⟩
   refine Zp (gP c) ?_;refine Zp (gP c) ?_;refine Zp (gP c) ?_;refine Zp (gP c) ?_;refine Zp (gP c) ?_;refine Ze (Xe rfl c rfl)<|Zm rfl<|Zp (gP rfl) ?_;refine Zp (gP rfl) ?_;refine Zp (gP rfl) ?_;refine Zp (gP rfl) ?_;refine Zp (gP rfl) ?_;refine Ze (Xe rfl rfl rfl)<|Za rfl ?_;refine Zn fun a i=>?_;exact ⟨i.sub ⟨X1 rfl (by first|rfl|(simp only [e,f,g,c,bs];done)|simp [e,f,g,c]),trivial⟩,rfl⟩
  rintro a _ ⟨i,rfl⟩;refine aA _ _<|Q6<|Xq<|X6 ?_;refine X4 i (Xt i rfl rfl) ?_;exact ⟨by rw [gOk,hy,Q3 hk,Q4 a6,Qw],hW⟩
 have g:=p
 have a6:¬ inR x.k 9 11=true:=by rw [p];simp
 refine Q7<|Xa<|aE _ _<|Q5 fun _ aB=>?_;refine X0a (fun a w=>Fr a 60 [(4,.bool ((inR x.a 0 (n-1))&&(x.b==0)))]∧w1=w) ?_ ?_
 ·refine Zr i<|Ze (Vd rfl X09 1)<|Ze (X0 rfl X9 (o.at 1))<|Zm rfl<|Ze (X1g rfl rfl (by omega) (by omega))<|Zf (Vc (F91 _ x.a 0 (n-1)) X3n) ?_;rintro _ _ ⟨rfl,rfl⟩;refine Zm rfl ?_
  refine Zg 55 rfl (fun l=>?_) (fun l=>?_)
  ·refine Zv (gW l) (Vd rfl X0r 2) ?_;refine Zv (gW l) (X0 rfl X9 (o.at 2)) ?_;refine Zv (gW l) (X0b rfl rfl) ?_;refine Ze (X7 rfl l rfl)<|Za rfl ?_;refine Zn fun a i=>?_;exact ⟨i.sub ⟨X1 rfl (by first|rfl|(simp only [e,f,g,l,bs];done)|simp [e,f,g,l]),trivial⟩,rfl⟩
  refine Zp (gP l) ?_;refine Zp (gP l) ?_;refine Zp (gP l) ?_;refine Ze (Xe rfl l rfl)<|Za rfl ?_;refine Zn fun a i=>?_;exact ⟨i.sub ⟨X1 rfl (by first|rfl|(simp only [e,f,g,l,bs];done)|simp [e,f,g,l]),trivial⟩,rfl⟩
 rintro a _ ⟨i,rfl⟩;refine aB _ _ ?_
 refine Q6 (X4 i (Xt i rfl rfl) ?_)
 exact ⟨by rw [gOk,hy,Q3 hk,Q3 a6,Qw],hW⟩
theorem Xy0(f:World)(Al:Option Addr)(cl:Nat)(l:List Gt)(aB:Rd f f.heap.size 123 encG Al l)(kq:FuncId)(pq:List Value)(Fq:FuncF Tryz.prog kq)(q:Gt→Bool)(hq:∀ x w,Below f.heap.size f w→Ret Tryz.prog kq ([gV x]++pq) w (fun v w'=>v=.bool (q x)∧Below w.heap.size w w'))(aO:l.length≤2305843009213693951) : Ret Tryz.prog 191 [.slice Al l.length cl,.func (.func kq) #[] pq.toArray] f (fun v w=>∃ i:Int,v=vi i∧decide (0≤i)=l.any q∧Below f.heap.size f w):=by
 refine enter Tryz.func191 rfl 19 rfl rfl ?_;intro a c
 have j:=bz f
 refine Zs c fun _ aH=>?_;refine Za rfl<|ZX aH fun a c _ aI=>?_;refine Zs c fun _ aJ=>?_;refine Zm rfl<|Ze (X0d rfl X1f)<|Zm rfl<|Zt aJ fun a c=>?_;refine Q8<|X01 (σ:=Nat) (fun (k:Nat) (a:Act) (w:World)=>Fr a 19 [(0,.slice Al l.length cl),(1,.func (.func kq) #[] pq.toArray),(7,vi (l.length:Int)),(8,vi (k:Int))]∧(k≤l.length)∧((l.take k).all (fun x=>!q x)=true)∧Below f.heap.size f w) (fun (k:Nat)=>l.length+1-k) 0 ?_ ?_
 ·exact ⟨c.sb,(Qf _),(by simp),j⟩
 rintro k a w1 ⟨c,hk,m,j⟩;refine Zs c fun _ aK=>?_;refine Ze (X0l rfl rfl)<|ZX aK fun a c _ aL=>?_
 refine Xg c rfl (fun e=>?_) (fun e=>?_)
 ·have aC:=e;have e:=Q2 e
  obtain ⟨g,a6⟩:=X5 (l:=l) (k:=k) (by omega)
  refine Q7<|aL _ _<|Q5 fun _ aM=>?_;refine Q8<|Zs c fun _ aD=>?_;refine Zm rfl<|Za rfl<|Zx aD fun a c _ aE=>?_;refine Zm rfl<|Zm rfl<|Zm rfl<|Zi (k:=k) (u:=g) (enc:=encG) (l:=l) trivial rfl rfl X1f X1h X16 (aB.below' j) a6 rfl ?_;intro aP a7;refine Ze (X04 (l:=[vi g.k,vi g.a,vi g.b]) rfl X0o a7 rfl)<|Zf (X64 (cs:=pq) (vs:=[.agg #[vi g.k,vi g.a,vi g.b]]) rfl rfl Fq (hq g _ j)) ?_;rintro _ w2 ⟨rfl,hE⟩;have j:=btr j hE;refine Zt aE fun a c=>?_
  refine Xg c rfl (fun d=>?_) (fun d=>?_)
  ·have a8:=d
   have aA:l.any q=true:=X53 a6 d
   refine Zs c fun _ aF=>?_;refine Zm rfl<|Za rfl<|Zt aF fun a c=>?_;refine Q6<|Xq<|X6<|X6 ?_;refine Xq<|X6<|X4 c (Xt c rfl rfl) ?_;exact ⟨_,rfl,by rw [aA];simp,j⟩
  have a8:=d
  have aN:(!q g)=true:=by revert d;cases q g<;>simp
  refine Q7<|Xa<|aM _ _<|Zr c ?_;refine Ze (Xw rfl rfl (by omega) (by omega))<|Zm rfl ?_;refine Zn fun a c=>?_;refine Xh ?_;exact ⟨k+1,⟨c.sb,(by omega),(X46 m a6 aN),j⟩,(by omega)⟩
 have aC:=e;have e:=Q1 e;refine Q9<|Xk<|Xk<|X03 ?_;refine aI _ _<|Zs c fun _ aG=>?_;refine Za rfl<|Zt aG fun a c=>?_
 refine Q6 (X4 c (Xt c rfl rfl) ?_)
 have aA:l.any q=false:=X4b (X47 m (by omega))
 exact ⟨_,rfl,by rw [aA];rfl,j⟩
theorem Xya(b:World)(Al:Option Addr)(cl:Nat)(l:List Gt)(a6:Rd b b.heap.size 123 encG Al l)(kq:FuncId)(pq:List Value)(Fq:FuncF Tryz.prog kq)(q:Gt→Bool)(hq:∀ x w,Below b.heap.size b w→Ret Tryz.prog kq ([gV x]++pq) w (fun v w'=>v=.bool (q x)∧Below w.heap.size w w'))(a7:l.length≤2305843009213693951) : Ret Tryz.prog 138 [.slice Al l.length cl,.func (.func kq) #[] pq.toArray] b (fun v w=>v=.bool (l.any q)∧Below b.heap.size b w):=by
 refine enter Tryz.func138 rfl 9 rfl rfl ?_;intro a hf
 have hW:=bz b
 refine Zs hf fun _ a8=>?_;refine Za rfl<|Zx a8 fun a hf _ aA=>?_;refine Zm rfl<|Zm rfl<|Zf (Vc (Xy0 _ Al cl l (a6.below' hW).top kq pq Fq q (fun x w' hE'=>hq x w' (hW.trans (hE'.mono hW.size))) a7) Xs3) ?_;rintro _ w1 ⟨ix,rfl,aB,hE⟩;have hW:=btr hW hE;refine Ze (X4g rfl rfl)<|Za rfl<|Zt aA fun a hf=>?_
 refine Q6 (X4 hf (Xt hf rfl rfl) ?_)
 exact ⟨by rw [← aB],hW⟩
theorem Xxf(w0:World)(x:Gt)(n:Int)(ba:Nat)(v1:Value)(c:Blk w0 ba 30 [vi n,v1]) : Ret Tryz.prog 139 [.agg #[vi x.k,vi x.a,vi x.b],.pointer (some ⟨ba,0,none⟩)] w0 (fun v w=>v=.bool (!gOk n x)∧Below w0.heap.size w0 w):=by
 have a6:=c.lt;refine enter Tryz.func139 rfl 9 rfl rfl ?_;intro a hf
 have hW:=bz w0
 refine Zs hf fun _ a7=>?_;refine Zf (X0c (zs:=[vi x.k,vi x.a,vi x.b]) rfl rfl) ?_;rintro _ w1 ⟨b2,rfl,a8,hE,aA⟩;have aC:=Q0 hW.size a8;have c:=c.below hE;have hW:=btr hW hE;refine Za rfl<|Zx a7 fun a hf _ aB=>?_;refine Ze (Vd rfl X1d 0)<|Ze (X0 rfl X9 (c.at 0))<|Ze (Vn X0o aA)<|Zf (Vc (Xsn _ n x) Xh0) ?_;rintro _ w2 ⟨rfl,hE⟩;have hW:=btr hW hE;refine Ze (X0y rfl)<|Za rfl<|Zt aB fun a hf=>?_
 refine Q6 (X4 hf (Xt hf rfl rfl) ?_)
 exact ⟨rfl,hW⟩
theorem F55(w0:World)(c:Cx)(Ac:Option Addr)(cc:Nat)(a6:Rd w0 w0.heap.size 123 encG Ac c.gs)(a7:c.gs.length≤2305843009213693951) : Ret Tryz.prog 90 [.agg #[vi c.n,.slice Ac c.gs.length cc]] w0 (fun v w=>v=.bool (cOk c)∧Below w0.heap.size w0 w):=by
 refine enter Tryz.func90 rfl 19 rfl rfl ?_;intro a e
 have i:=bz w0
 refine Zs e fun _ a8=>?_;refine Zf (X0c (zs:=[vi c.n,.slice Ac c.gs.length cc]) rfl rfl) ?_;rintro _ w1 ⟨b3,rfl,aA,hE,j⟩;have aC:=Q0 i.size aA;have i:=btr i hE;refine Za rfl<|ZX a8 fun a e _ aB=>?_;refine X0a (fun a w=>Fr a 19 [(2,.bool (((inR c.n 1 5)&&(decide ((c.gs.length:Int)≤400)))&&(!(c.gs.any (fun x=>!gOk c.n x)))))]∧Below w1.heap.size w1 w) ?_ ?_
 ·have f:Below w1.heap.size w1 w1:=Below.refl _ _
  refine Zr e<|Ze (Vd rfl X1d 0)<|Ze (X0 rfl X9 (j.at 0))<|Zf (Vc (F91 _ c.n 1 5) X3n) ?_;rintro _ _ ⟨rfl,rfl⟩;refine Zm rfl ?_
  refine Zg 6 rfl (fun b=>?_) (fun b=>?_)
  ·refine Zv (gW b) (Vd rfl X18 1) ?_;refine Zv (gW b) (X0 rfl X29 (j.at 1)) ?_;refine Zv (gW b) (X0d rfl X1f) ?_;refine Zv (gW b) (Xk7 rfl rfl) ?_;refine Ze (X7 rfl b rfl)<|Zm rfl ?_
   refine Zg 12 rfl (fun d=>?_) (fun d=>?_)
   ·refine Zv (gW d) (Vd rfl X18 1) ?_;refine Zv (gW d) (X0 rfl X29 (j.at 1)) ?_;refine Zv (gW d) (X3j (vs:=[.pointer (some ⟨b3,0,none⟩)]) rfl) ?_;refine Zk (gW d) (Vc (Xya _ Ac cc c.gs (a6.below' i).top 139 [.pointer (some ⟨b3,0,none⟩)] Xqf (fun x=>!gOk c.n x) (fun x w' hE'=>Xxf w' x c.n _ _ (j.below hE')) a7) Xrb) ?_;rintro _ w2 ⟨rfl,hE⟩;have i:=btr i hE;have f:=btr f hE;refine Zv (gW d) (X0y rfl) ?_;refine Ze (X7 rfl d rfl)<|Za rfl ?_;refine Zn fun a e=>?_
    have g:Below w1.heap.size w1 w2:=f
    exact ⟨e.sub ⟨X1 rfl (by first|rfl|(simp only [b,d,bs];done)|simp [b,d]),trivial⟩,g⟩
   refine Zp (gP d) ?_;refine Zp (gP d) ?_;refine Zp (gP d) ?_;refine Zp (gP d) ?_;refine Zp (gP d) ?_;refine Ze (Xe rfl d rfl)<|Za rfl ?_;refine Zn fun a e=>?_
   have g:Below w1.heap.size w1 w1:=f
   exact ⟨e.sub ⟨X1 rfl (by first|rfl|(simp only [b,d,bs];done)|simp [b,d]),trivial⟩,g⟩
  refine Zp (gP b) ?_;refine Zp (gP b) ?_;refine Zp (gP b) ?_;refine Zp (gP b) ?_;refine Ze (Xe rfl b rfl)<|Zm rfl<|Zp (gP rfl) ?_;refine Zp (gP rfl) ?_;refine Zp (gP rfl) ?_;refine Zp (gP rfl) ?_;refine Zp (gP rfl) ?_;refine Ze (Xe rfl rfl rfl)<|Za rfl ?_;refine Zn fun a e=>?_
  have g:Below w1.heap.size w1 w1:=f
  exact ⟨e.sub ⟨X1 rfl (by first|rfl|(simp only [b,bs];done)|simp [b]),trivial⟩,g⟩
 rintro a w3 ⟨e,hE⟩;have i:=btr i hE;refine aB _ _ ?_
 refine Q6 (X4 e (Xt e rfl rfl) ?_)
 exact ⟨by simp [cOk, *],i⟩
theorem Xx3(w0:World)(n:Int)(g:Gt)(hn:1≤n∧n≤5) : Ret Tryz.prog 135 [vi n,.agg #[vi g.k,vi g.a,vi g.b]] w0 (fun v w=>v=.bool (gOk n g)∧Below w0.heap.size w0 w):=by
 refine enter Tryz.func135 rfl 55 rfl rfl ?_;intro a l
 have hW:=bz w0
 refine Zs l fun _ a8=>?_;refine Zf (X0c (zs:=[vi g.k,vi g.a,vi g.b]) rfl rfl) ?_;rintro _ w1 ⟨b2,rfl,aA,hE,o⟩;have aG:=Q0 hW.size aA;have hW:=btr hW hE;refine Za rfl<|ZX a8 fun a l _ aB=>?_;refine Q8<|Zs l fun _ aC=>?_;refine Ze (Vd rfl X0p 0)<|Ze (X0 rfl X9 (o.at 0))<|Zf (Vc (F85 _ g.k 1 8) X3r) ?_;rintro _ _ ⟨rfl,rfl⟩;refine Za rfl<|Zt aC fun a l=>?_
 refine Xg l rfl (fun p=>?_) (fun p=>?_)
 ·have d:=p;have q:=Xxp hn p;refine Q5 fun _ aD=>?_;refine X0a (fun a w=>Fr a 55 [(4,.bool ((inR g.a 0 (n-1))&&(g.b==0)))]∧w1=w) ?_ ?_
  ·refine Zr l<|Ze (Vd rfl X09 1)<|Ze (X0 rfl X9 (o.at 1))<|Zm rfl<|Ze (X1g rfl rfl (by omega) (by omega))<|Zf (Vc (F85 _ g.a 0 (n-1)) X3r) ?_;rintro _ _ ⟨rfl,rfl⟩;refine Zm rfl ?_
   refine Zg 14 rfl (fun m=>?_) (fun m=>?_)
   ·refine Zv (gW m) (Vd rfl X0r 2) ?_;refine Zv (gW m) (X0 rfl X9 (o.at 2)) ?_;refine Zv (gW m) (X0b rfl rfl) ?_;refine Ze (X7 rfl m rfl)<|Za rfl ?_;refine Zn fun a l=>?_;exact ⟨l.sub ⟨X1 rfl (by first|rfl|(simp only [d,m,bs];done)|simp [d,m]),trivial⟩,rfl⟩
   refine Zp (gP m) ?_;refine Zp (gP m) ?_;refine Zp (gP m) ?_;refine Ze (Xe rfl m rfl)<|Za rfl ?_;refine Zn fun a l=>?_;exact ⟨l.sub ⟨X1 rfl (by first|rfl|(simp only [d,m,bs];done)|simp [d,m]),trivial⟩,rfl⟩
  rintro a _ ⟨l,rfl⟩;refine aD _ _<|Q6<|Xq<|X6 ?_;refine X4 l (Xt l rfl rfl) ?_;exact ⟨by rw [q],hW⟩
 have d:=p;have aE:=p;refine Zs l fun _ aF=>?_;refine Ze (Vd rfl X0p 0)<|Ze (X0 rfl X9 (o.at 0))<|Zf (Vc (F85 _ g.k 9 11) X3r) ?_;rintro _ _ ⟨rfl,rfl⟩;refine Za rfl<|Zt aF fun a l=>?_
 refine Xg l rfl (fun t=>?_) (fun t=>?_)
 ·have i:=t;have q:=Xxy hn t;refine Q5 fun _ a6=>?_;refine X0a (fun a w=>Fr a 55 [(4,.bool (((inR g.a 0 (n-1))&&(inR g.b 0 (n-1)))&&(g.a != g.b)))]∧w1=w) ?_ ?_
  ·refine Zr l<|Ze (Vd rfl X09 1)<|Ze (X0 rfl X9 (o.at 1))<|Zm rfl<|Ze (X1g rfl rfl (by omega) (by omega))<|Zf (Vc (F85 _ g.a 0 (n-1)) X3r) ?_;rintro _ _ ⟨rfl,rfl⟩;refine Zm rfl ?_
   refine Zg 28 rfl (fun c=>?_) (fun c=>?_)
   ·refine Zv (gW c) (Vd rfl X0r 2) ?_;refine Zv (gW c) (X0 rfl X9 (o.at 2)) ?_;refine Zv (gW c) (X3 rfl) ?_;refine Zv (gW c) (X1g rfl rfl (by omega) (by omega)) ?_;refine Zk (gW c) (Vc (F85 _ g.b 0 (n-1)) X3r) ?_;rintro _ _ ⟨rfl,rfl⟩;refine Ze (X7 rfl c rfl)<|Zm rfl ?_
    refine Zg 35 rfl (fun e=>?_) (fun e=>?_)
    ·refine Zv (gW e) (Vd rfl X09 1) ?_;refine Zv (gW e) (X0 rfl X9 (o.at 1)) ?_;refine Zv (gW e) (Vd rfl X0r 2) ?_;refine Zv (gW e) (X0 rfl X9 (o.at 2)) ?_;refine Zv (gW e) (X1j rfl rfl) ?_;refine Ze (X7 rfl e rfl)<|Za rfl ?_;refine Zn fun a l=>?_;exact ⟨l.sub ⟨X1 rfl (by first|rfl|(simp only [d,i,c,e,bs];done)|simp [d,i,c,e]),trivial⟩,rfl⟩
    refine Zp (gP e) ?_;refine Zp (gP e) ?_;refine Zp (gP e) ?_;refine Zp (gP e) ?_;refine Zp (gP e) ?_;refine Ze (Xe rfl e rfl)<|Za rfl ?_;refine Zn fun a l=>?_;exact ⟨l.sub ⟨X1 rfl (by first|rfl|(simp only [d,i,c,e,bs];done)|simp [d,i,c,e]),trivial⟩,rfl⟩
   refine Zp (gP c) ?_;refine Zp (gP c) ?_;refine Zp (gP c) ?_;refine Zp (gP c) ?_;refine Zp (gP c) ?_;refine Ze (Xe rfl c rfl)<|Zm rfl<|Zp (gP rfl) ?_;refine Zp (gP rfl) ?_;refine Zp (gP rfl) ?_;refine Zp (gP rfl) ?_;refine Zp (gP rfl) ?_;refine Ze (Xe rfl rfl rfl)<|Za rfl ?_;refine Zn fun a l=>?_;exact ⟨l.sub ⟨X1 rfl (by first|rfl|(simp only [d,i,c,bs];done)|simp [d,i,c]),trivial⟩,rfl⟩
  rintro a _ ⟨l,rfl⟩;refine a6 _ _<|Q6<|Xq<|X6 ?_;refine X4 l (Xt l rfl rfl) ?_;exact ⟨by rw [q],hW⟩
 have i:=t;have q:=Xx2 hn aE t;refine Q7<|Xa<|aB _ _<|Q5 fun _ a7=>?_;refine X0a (fun a w=>Fr a 55 [(4,.bool (((g.k==12)&&(g.a==0))&&(g.b==0)))]∧w1=w) ?_ ?_
 ·refine Zr l<|Ze (Vd rfl X0p 0)<|Ze (X0 rfl X9 (o.at 0))<|Ze (X0b rfl rfl)<|Zm rfl ?_
  refine Zg 45 rfl (fun f=>?_) (fun f=>?_)
  ·refine Zv (gW f) (Vd rfl X09 1) ?_;refine Zv (gW f) (X0 rfl X9 (o.at 1)) ?_;refine Zv (gW f) (X0b rfl rfl) ?_;refine Ze (X7 rfl f rfl)<|Zm rfl ?_
   refine Zg 50 rfl (fun j=>?_) (fun j=>?_)
   ·refine Zv (gW j) (Vd rfl X0r 2) ?_;refine Zv (gW j) (X0 rfl X9 (o.at 2)) ?_;refine Zv (gW j) (X0b rfl rfl) ?_;refine Ze (X7 rfl j rfl)<|Za rfl ?_;refine Zn fun a l=>?_;exact ⟨l.sub ⟨X1 rfl (by first|rfl|(simp only [d,i,f,j,bs];done)|simp [d,i,f,j]),trivial⟩,rfl⟩
   refine Zp (gP j) ?_;refine Zp (gP j) ?_;refine Zp (gP j) ?_;refine Ze (Xe rfl j rfl)<|Za rfl ?_;refine Zn fun a l=>?_;exact ⟨l.sub ⟨X1 rfl (by first|rfl|(simp only [d,i,f,j,bs];done)|simp [d,i,f,j]),trivial⟩,rfl⟩
  refine Zp (gP f) ?_;refine Zp (gP f) ?_;refine Zp (gP f) ?_;refine Ze (Xe rfl f rfl)<|Zm rfl<|Zp (gP rfl) ?_;refine Zp (gP rfl) ?_;refine Zp (gP rfl) ?_;refine Ze (Xe rfl rfl rfl)<|Za rfl ?_;refine Zn fun a l=>?_;exact ⟨l.sub ⟨X1 rfl (by first|rfl|(simp only [d,i,f,bs];done)|simp [d,i,f]),trivial⟩,rfl⟩
 rintro a _ ⟨l,rfl⟩;refine a7 _ _ ?_
 refine Q6 (X4 l (Xt l rfl rfl) ?_)
 exact ⟨by rw [q],hW⟩
theorem F53(t:World)(c:Cx)(Ac:Option Addr)(cc:Nat)(y:Rd t t.heap.size 123 encG Ac c.gs) : Ret Tryz.prog 83 [.agg #[vi c.n,.slice Ac c.gs.length cc]] t (fun v w=>v=.bool (cOk c)∧Below t.heap.size t w):=by
 refine enter Tryz.func83 rfl 28 rfl rfl ?_;intro a d
 have j:=bz t
 refine Zs d fun _ aO=>?_;refine Zf (X0c (zs:=[vi c.n,.slice Ac c.gs.length cc]) rfl rfl) ?_;rintro _ w1 ⟨b3,rfl,aP,hE,f⟩;have aW:=Q0 j.size aP;have j:=btr j hE;refine Za rfl<|ZX aO fun a d _ aQ=>?_;refine Q5 fun _ aR=>?_;refine X0a (fun a w=>Fr a 28 [(1,.pointer (some ⟨b3,0,none⟩)),(14,.bool ((!(inR c.n 1 5))||(decide (400<(c.gs.length:Int)))))]∧w1=w) ?_ ?_
 ·refine Zr d<|Ze (Vd rfl X1d 0)<|Ze (X0 rfl X9 (f.at 0))<|Zf (Vc (F85 _ c.n 1 5) X3r) ?_;rintro _ _ ⟨rfl,rfl⟩;refine Ze (X0y rfl)<|Zm rfl ?_
  refine Zg 9 rfl (fun e=>?_) (fun e=>?_)
  ·refine Zp (gP e) ?_;refine Zp (gP e) ?_;refine Zp (gP e) ?_;refine Zp (gP e) ?_;refine Ze (X7 rfl e rfl) ?_;refine Zn fun a d=>?_;exact ⟨d.sub ⟨rfl,X1 rfl (by first|rfl|(simp only [e,bs];done)|simp [e]),trivial⟩,rfl⟩
  refine Zv (gW e) (Vd rfl X18 1) ?_;refine Zv (gW e) (X0 rfl X29 (f.at 1)) ?_;refine Zv (gW e) (X0d rfl X1f) ?_;refine Zv (gW e) (X6o rfl rfl) ?_;refine Ze (Xe rfl e rfl) ?_;refine Zn fun a d=>?_;exact ⟨d.sub ⟨rfl,X1 rfl (by first|rfl|(simp only [e,bs];done)|simp [e]),trivial⟩,rfl⟩
 rintro a _ ⟨d,rfl⟩;refine aR _ _ ?_
 refine Xg d rfl (fun p=>?_) (fun p=>?_)
 ·have aC:=p
  have hn:(inR c.n 1 5&&decide ((c.gs.length:Int)≤400))=false:=by revert p;cases inR c.n 1 5<;>simp
  refine Zs d fun _ aS=>?_;refine Za rfl<|Zt aS fun a d=>?_;refine Q6<|X6<|X4 d (Xt d rfl rfl) ?_;exact ⟨by rw [cOk,hn];rfl,j⟩
 have aC:=p
 have hy:(inR c.n 1 5&&decide ((c.gs.length:Int)≤400))=true:=by revert p;cases inR c.n 1 5<;>simp
 have aD:=(Qd _ _▸hy:inR c.n 1 5=true∧decide ((c.gs.length:Int)≤400)=true);have hn:=X0f.1 aD.1;have aX:=Q2 aD.2;refine Q7<|aQ _ _<|Q5 fun _ aT=>?_;refine Zs d fun _ aE=>?_;refine Ze (Vd rfl X18 1)<|Ze (X0 rfl X29 (f.at 1))<|Ze (X0d rfl X1f)<|Zm rfl<|Zt aE fun a d=>?_;refine Q8<|X01 (σ:=Nat) (fun (k:Nat) (a:Act) (w:World)=>Fr a 28 [(1,.pointer (some ⟨b3,0,none⟩)),(16,.slice Ac c.gs.length cc),(17,vi (c.gs.length:Int)),(18,vi (k:Int))]∧(k≤c.gs.length)∧((c.gs.take k).all (fun x=>gOk c.n x)=true)∧Blk w b3 30 [vi c.n,.slice Ac c.gs.length cc]∧Below t.heap.size t w) (fun (k:Nat)=>c.gs.length+1-k) 0 ?_ ?_
 ·exact ⟨d.sb,(Qf _),(by simp),f,j⟩
 rintro k a w2 ⟨d,hk,h,f,j⟩;refine Zs d fun _ aF=>?_;refine Ze (X0l rfl rfl)<|ZX aF fun a d _ aG=>?_
 refine Xg d rfl (fun g=>?_) (fun g=>?_)
 ·have a6:=g;have g:=Q2 g
  obtain ⟨i,q⟩:=X5 (l:=c.gs) (k:=k) (by omega)
  refine Q7<|aG _ _<|Q5 fun _ aH=>?_;refine Q8<|Zs d fun _ aI=>?_;refine Zi (k:=k) (u:=i) (enc:=encG) (l:=c.gs) trivial rfl rfl X1f X1h X16 (y.below' j) q rfl ?_;intro aY a7;refine Ze (X04 (l:=[vi i.k,vi i.a,vi i.b]) rfl X0o a7 rfl)<|Zf (Xu (zs:=[vi 0,vi 0,vi 0]) X5w rfl) ?_;rintro _ w3 ⟨aZ,rfl,A,hE,o⟩;have a8:=Q0 j.size A;have aJ:=(y.below' j).away A;have f:=f.below hE;have j:=btr j hE;refine Zo (Vw [vi i.k,vi i.a,vi i.b] X1h o) ?_;rintro _ w4 ⟨ho,hb⟩;have aK:=o;have f:=f.only ho (Blk.ne f aK rfl);have j:=Below.only j ho a8;have o:=hb;refine Zx aI fun a d _ aL=>?_;refine Ze (Vd rfl X1d 0)<|Ze (X0 rfl X9 (f.at 0))<|Ze (Vn X0o o)<|Zf (Vc (Xx3 _ c.n i hn) Xrr) ?_;rintro _ w5 ⟨rfl,hE⟩;have f:=f.below hE;have j:=btr j hE;refine Ze (X0y rfl)<|Zt aL fun a d=>?_
  refine Xg d rfl (fun m=>?_) (fun m=>?_)
  ·have aA:=m
   have aB:(c.gs.any fun x=>!gOk c.n x)=true:=X53 q m
   refine Zs d fun _ aM=>?_;refine Za rfl<|Zt aM fun a d=>?_;refine Q6<|Xq<|X6<|X6 ?_;refine Xq<|X6<|X4 d (Xt d rfl rfl) ?_;exact ⟨by rw [cOk,hy,aB];rfl,j⟩
  have aA:=m
  have aU:gOk c.n i=true:=by revert m;cases gOk c.n i<;>simp
  refine Q7<|Xa<|aH _ _<|Zr d ?_;refine Ze (Xw rfl rfl (by omega) (by omega))<|Zm rfl ?_;refine Zn fun a d=>?_;refine Xh ?_;exact ⟨k+1,⟨d.sb,(by omega),(X46 h q aU),f,j⟩,(by omega)⟩
 have a6:=g;have g:=Q1 g;refine Q9<|Xk<|Xk<|X03 ?_;refine aT _ _<|Zs d fun _ aN=>?_;refine Za rfl<|Zt aN fun a d=>?_
 refine Q6 (X4 d (Xt d rfl rfl) ?_)
 have aB:(c.gs.any fun x=>!gOk c.n x)=false:=X4b (by simpa using X47 h (by omega))
 exact ⟨by rw [cOk,hy,aB];rfl,j⟩
theorem Xxa(w0:World)(x:Gt)(y:Gt) : Ret Tryz.prog 93 [.agg #[vi x.k,vi x.a,vi x.b],.agg #[vi y.k,vi y.a,vi y.b]] w0 (fun v w=>v=.bool (decide (x=y))∧Below w0.heap.size w0 w):=by
 refine enter Tryz.func93 rfl 20 rfl rfl ?_;intro a c
 have j:=bz w0
 refine Zs c fun _ aH=>?_;refine Zf (X0c (zs:=[vi x.k,vi x.a,vi x.b]) rfl rfl) ?_;rintro _ w1 ⟨b2,rfl,aI,hE,f⟩;have aP:=Q0 j.size aI;have j:=btr j hE;refine Zf (X0c (zs:=[vi y.k,vi y.a,vi y.b]) rfl rfl) ?_;rintro _ w2 ⟨b3,rfl,aJ,hE,a6⟩
 have aG:b2≠b3:=by have:=f.lt;omega
 have aQ:=Q0 j.size aJ;have f:=f.below hE;have j:=btr j hE;refine Za rfl<|ZX aH fun a c _ aK=>?_;refine Zs c fun _ aL=>?_;refine Ze (Vd rfl X0p 0)<|Ze (X0 rfl X9 (f.at 0))<|Ze (Vd rfl X0p 0)<|Ze (X0 rfl X9 (a6.at 0))<|Ze (X1j rfl rfl)<|Zt aL fun a c=>?_
 refine Xg c rfl (fun g=>?_) (fun g=>?_)
 ·have aA:=g
  have i:¬ x=y:=by rintro rfl;simp at g
  refine Zs c fun _ aM=>?_;refine Za rfl<|Zt aM fun a c=>?_;refine Q6<|X6<|X4 c (Xt c rfl rfl) ?_;exact ⟨by simp [i],j⟩
 have aA:=g
 have e1:x.k=y.k:=by simpa using g
 refine Q7<|aK _ _<|Q5 fun _ aN=>?_;refine Zs c fun _ aO=>?_;refine Ze (Vd rfl X09 1)<|Ze (X0 rfl X9 (f.at 1))<|Ze (Vd rfl X09 1)<|Ze (X0 rfl X9 (a6.at 1))<|Ze (X1j rfl rfl)<|Zt aO fun a c=>?_
 refine Xg c rfl (fun d=>?_) (fun d=>?_)
 ·have a7:=d
  have i:¬ x=y:=by rintro rfl;simp at d
  refine Zs c fun _ aB=>?_;refine Za rfl<|Zt aB fun a c=>?_;refine Q6<|X6<|X4 c (Xt c rfl rfl) ?_;exact ⟨by simp [i],j⟩
 have a7:=d
 have e2:x.a=y.a:=by simpa using d
 refine Q7<|aN _ _<|Q5 fun _ aC=>?_;refine Zs c fun _ aD=>?_;refine Ze (Vd rfl X0r 2)<|Ze (X0 rfl X9 (f.at 2))<|Ze (Vd rfl X0r 2)<|Ze (X0 rfl X9 (a6.at 2))<|Ze (X1j rfl rfl)<|Zt aD fun a c=>?_
 refine Xg c rfl (fun e=>?_) (fun e=>?_)
 ·have a8:=e
  have i:¬ x=y:=by rintro rfl;simp at e
  refine Zs c fun _ aE=>?_;refine Za rfl<|Zt aE fun a c=>?_;refine Q6<|X6<|X4 c (Xt c rfl rfl) ?_;exact ⟨by simp [i],j⟩
 have a8:=e
 have e3:x.b=y.b:=by simpa using e
 refine Q7<|aC _ _<|Zs c fun _ aF=>?_;refine Za rfl<|Zt aF fun a c=>?_
 refine Q6 (X4 c (Xt c rfl rfl) ?_)
 have he:x=y:=by cases x;cases y;simp_all
 exact ⟨by simp [he],j⟩
theorem F52(n:World)(Ap:Option Addr)(cp:Nat)(p:List Gt)(aC:Rd n n.heap.size 123 encG Ap p)(Aq:Option Addr)(cq:Nat)(q:List Gt)(aD:Rd n n.heap.size 123 encG Aq q)(aS:p.length≤2305843009213693951) : Ret Tryz.prog 45 [.slice Ap p.length cp,.slice Aq q.length cq] n (fun v w=>v=.bool (decide (p=q))∧Below n.heap.size n w):=by
 refine enter Tryz.func45 rfl 27 rfl rfl ?_;intro a c
 have i:=bz n
 refine Zs c fun _ aL=>?_;refine Za rfl<|ZX aL fun a c _ aM=>?_;refine Zs c fun _ aN=>?_;refine Zm rfl<|Ze (X0d rfl X1f)<|Zm rfl<|Ze (X0d rfl X1f)<|Ze (X1j rfl rfl)<|Zt aN fun a c=>?_
 refine Xg c rfl (fun f=>?_) (fun f=>?_)
 ·have aE:=f
  have a6:¬ p=q:=by intro h9;rw [h9] at f;simp at f
  refine Zs c fun _ aO=>?_;refine Za rfl<|Zt aO fun a c=>?_;refine Q6<|X6<|X4 c (Xt c rfl rfl) ?_;exact ⟨by simp [a6],i⟩
 have aE:=f
 have aT:p.length=q.length:=by have h9:(p.length:Int)=q.length:=(by simpa using f);omega
 refine Q7<|aM _ _<|Q5 fun _ aP=>?_;refine Zs c fun _ aQ=>?_;refine Za rfl<|Zt aQ fun a c=>?_;refine Q8<|X01 (σ:=Nat) (fun (k:Nat) (a:Act) (w:World)=>Fr a 27 [(0,.slice Ap p.length cp),(1,.slice Aq q.length cq),(5,vi (k:Int))]∧(k≤p.length)∧(p.take k=q.take k)∧Below n.heap.size n w) (fun (k:Nat)=>p.length-k) 0 ?_ ?_
 ·exact ⟨c.sb,(Qf _),(by simp),i⟩
 rintro k a w1 ⟨c,hk,j,i⟩;refine Q5 fun _ aF=>?_;refine Zs c fun _ aG=>?_;refine Zm rfl<|Zm rfl<|Ze (X0d rfl X1f)<|Ze (X0l rfl rfl)<|Zt aG fun a c=>?_
 refine Xg c rfl (fun d=>?_) (fun d=>?_)
 ·have a7:=d;have d:=Q2 d
  obtain ⟨g,m⟩:=X5 (l:=p) (k:=k) (by omega)
  obtain ⟨v9,o⟩:=X5 (l:=q) (k:=k) (by omega)
  refine Q7<|aF _ _<|Q5 fun _ aH=>?_;refine Q8<|Q5 fun _ aI=>?_;refine X05 none (fun _=>false) mixed ?_;intro w2 hE;have i:=btr i hE;refine Yb c<|Yo 0 rfl (fun _=>X3 rfl)<|Yo 1 rfl (fun _=>X3 rfl)<|Yi (k:=k) (u:=g) (enc:=encG) (l:=p) 2 rfl trivial rfl rfl X1f X1h X16 (aC.below' i) m rfl ?_;intro aU a8;refine Ye 3 rfl (X04 (l:=[vi g.k,vi g.a,vi g.b]) rfl X0o a8 rfl)<|Yo 4 rfl (fun _=>X3 rfl)<|Yo 5 rfl (fun _=>X3 rfl)<|Yi (k:=k) (u:=v9) (enc:=encG) (l:=q) 6 rfl trivial rfl rfl X1f X1h X16 (aD.below' i) o rfl ?_;intro aW aA;refine Ye 7 rfl (X04 (l:=[vi v9.k,vi v9.a,vi v9.b]) rfl X0o aA rfl)<|Y1 8 ?_;refine Yk rfl trivial (Vc (Xxa _ g v9) Xpv) (fun _ _ ⟨_,hE⟩=>hE) ?_;rintro _ w3 ⟨rfl,hE⟩;have i:=btr i hE;refine Yo 9 rfl (fun _=>X0y rfl) ?_;refine Yd fun a c=>?_;refine aI _ _ ?_
  refine Xg c rfl (fun e=>?_) (fun e=>?_)
  ·have aB:=e
   have a6:¬ p=q:=by rintro rfl;rw [m] at o;injection o with e9;revert e;simp [e9]
   refine Zs c fun _ aJ=>?_;refine Za rfl<|Zt aJ fun a c=>?_;refine Q6<|Xq<|X6<|X6 ?_;refine Xq<|X6<|X4 c (Xt c rfl rfl) ?_;exact ⟨by simp [a6],i⟩
  have aB:=e
  have aR:g=v9:=by revert e;simp
  refine Q7<|Xa<|aH _ _<|Zr c ?_;refine Zm rfl<|Ze (Xw rfl rfl (by omega) (by omega))<|Za rfl ?_;refine Zn fun a c=>?_;refine Xh ?_;exact ⟨k+1,⟨c.sb,(by omega),(Xmb j m o aR),i⟩,(by omega)⟩
 have a7:=d;have d:=Q1 d;refine Q9<|Xk<|Xk<|X03 ?_;refine aP _ _<|Zs c fun _ aK=>?_;refine Za rfl<|Zt aK fun a c=>?_
 refine Q6 (X4 c (Xt c rfl rfl) ?_)
 have he:p=q:=by rw [Qi (by omega),Qi (by omega)] at j;exact j
 exact ⟨by simp [he],i⟩
def entI(p:Int×Int×Nat) : MapEntry:={ key:=.int .i64 p.1,val:=.int .i64 p.2.1,born:=p.2.2 }
def MapI(w:World)(b:Nat)(l:List (Int×Int×Nat))(clock:Nat) : Prop:=w.heap[b]? = some (.map (l.map entI).toArray clock)
theorem MapI.below{w w':World}{b clock:Nat}{l:List (Int×Int×Nat)}(h:MapI w b l clock)(hb:Below w.heap.size w w') : MapI w' b l clock:=by
 have hlt:b<w.heap.size:=by
  rcases W4 b w.heap.size with h'|h'
  ·exact h'
  ·simp [MapI,We h'] at h
 exact (hb.block b hlt).trans h
theorem MapI.only{w w':World}{b b' clock:Nat}{l:List (Int×Int×Nat)}(h:MapI w b l clock)(ho:Only b' w w')(hne:b≠b') : MapI w' b l clock:=(ho.block b hne).trans h
theorem MapI.ne{w:World}{b b' clock:Nat}{l:List (Int×Int×Nat)}{T:TypeId}{cs:List Value}(h:MapI w b l clock)(hb:Blk w b' T cs) : b≠b':=by
 rintro rfl
 unfold MapI at h
 unfold Blk at hb
 rw [h] at hb
 cases hb
section
variable {P : Program} {a : Act} {w : World} {n : Nat} {e : Env} {ty : TypeId} {pos : String} {af : Array Edge} {g : Option (Nat × Bool)} {d : Option Tmp}
end
end Go.Proofs.YtpifljegadknkaaGreat
namespace Go.Proofs
open Go.Shelf
def Tryz.lays189_ren:Go.Shelf.Ren:=⟨fun|189=>195|125=>222|257=>224|128=>242|129=>243|294=>244|295=>245|296=>246|297=>247|298=>248|299=>249|216=>250|300=>251|301=>252|328=>259|329=>255|330=>256|331=>260|332=>261|215=>194|343=>263|n=>n,fun|28=>71|3=>3|46=>147|0=>0|51=>237|53=>101|4=>4|183=>231|182=>230|131=>76|5=>5|9=>9|218=>244|222=>248|228=>252|229=>253|n=>n,fun|n=>n⟩
theorem Tryz.lays189:Go.Proofs.Lays.n189 Tryz.prog Tryz.lays189_ren:={
  mixed:=by kernel_rfl
  f125:=Tryz.func222.trans (congrArg some (by kernel_rfl))
  f128:=Tryz.func242.trans (congrArg some (by kernel_rfl))
  f129:=Tryz.func243.trans (congrArg some (by kernel_rfl))
  f189:=Tryz.func195.trans (congrArg some (by kernel_rfl))
  f215:=Tryz.func194.trans (congrArg some (by kernel_rfl))
  f216:=Tryz.func250.trans (congrArg some (by kernel_rfl))
  f257:=Tryz.func224.trans (congrArg some (by kernel_rfl))
  f294:=Tryz.func244.trans (congrArg some (by kernel_rfl))
  f295:=Tryz.func245.trans (congrArg some (by kernel_rfl))
  f296:=Tryz.func246.trans (congrArg some (by kernel_rfl))
  f297:=Tryz.func247.trans (congrArg some (by kernel_rfl))
  f298:=Tryz.func248.trans (congrArg some (by kernel_rfl))
  f299:=Tryz.func249.trans (congrArg some (by kernel_rfl))
  f300:=Tryz.func251.trans (congrArg some (by kernel_rfl))
  f301:=Tryz.func252.trans (congrArg some (by kernel_rfl))
  f328:=Tryz.func259.trans (congrArg some (by kernel_rfl))
  f329:=Tryz.func255.trans (congrArg some (by kernel_rfl))
  f330:=Tryz.func256.trans (congrArg some (by kernel_rfl))
  f331:=Tryz.func260.trans (congrArg some (by kernel_rfl))
  f332:=Tryz.func261.trans (congrArg some (by kernel_rfl))
  f343:=Tryz.func263.trans (congrArg some (by kernel_rfl))
  t0:=Tryz.underlying0
  a0:=Tryz.isAgg0
  z0:=Tryz.sizeOf0
  v0:=Tryz.zeroValue0
  t3:=Tryz.underlying3
  a3:=Tryz.isAgg3
  z3:=Tryz.sizeOf3
  v3:=Tryz.zeroValue3
  t4:=Tryz.underlying4
  a4:=Tryz.isAgg4
  z4:=Tryz.sizeOf4
  v4:=Tryz.zeroValue4
  t5:=Tryz.underlying5
  a5:=Tryz.isAgg5
  z5:=Tryz.sizeOf5
  v5:=Tryz.zeroValue5
  t9:=Tryz.underlying9
  a9:=Tryz.isAgg9
  z9:=Tryz.sizeOf9
  v9:=Tryz.zeroValue9
  t28:=Tryz.underlying71
  a28:=Tryz.isAgg71
  z28:=Tryz.sizeOf71
  v28:=Tryz.zeroValue71
  t46:=Tryz.underlying147
  a46:=Tryz.isAgg147
  z46:=Tryz.sizeOf147
  v46:=Tryz.zeroValue147
  t51:=Tryz.underlying237
  a51:=Tryz.isAgg237
  z51:=Tryz.sizeOf237
  v51:=Tryz.zeroValue237
  t53:=Tryz.underlying101
  a53:=Tryz.isAgg101
  z53:=Tryz.sizeOf101
  v53:=Tryz.zeroValue101
  t131:=Tryz.underlying76
  a131:=Tryz.isAgg76
  z131:=Tryz.sizeOf76
  v131:=Tryz.zeroValue76
  t182:=Tryz.underlying230
  a182:=Tryz.isAgg230
  z182:=Tryz.sizeOf230
  v182:=Tryz.zeroValue230
  t183:=Tryz.underlying231
  a183:=Tryz.isAgg231
  z183:=Tryz.sizeOf231
  v183:=Tryz.zeroValue231
  t218:=Tryz.underlying244
  a218:=Tryz.isAgg244
  z218:=Tryz.sizeOf244
  v218:=Tryz.zeroValue244
  t222:=Tryz.underlying248
  a222:=Tryz.isAgg248
  z222:=Tryz.sizeOf248
  v222:=Tryz.zeroValue248
  t228:=Tryz.underlying252
  a228:=Tryz.isAgg252
  z228:=Tryz.sizeOf252
  v228:=Tryz.zeroValue252
  t229:=Tryz.underlying253
  a229:=Tryz.isAgg253
  z229:=Tryz.sizeOf253
  v229:=Tryz.zeroValue253 }
open Go.Sort Go.RowKit in
theorem Tryz.slices_Sort_int(blk off cap:Nat)(zs:List Int)(w:World)(hH:Holds (Value.int .i64) w blk off zs.toArray)(hblk:blk<w.heap.size)(hsz:zs.length<4611686018427387904) :
    Calls Tryz.prog 195 #[.slice (some ⟨blk,off,none⟩) zs.length cap] w fun e w'=>
      e=.returned (.tuple #[])∧∃ n os,w'=grow (putRow (Value.int .i64) (Sort.ahead w n) blk off (zs.mergeSort fun x y=>decide (x≤y)).toArray) os:=Any.slices_Sort_int Tryz.lays189 blk off cap zs w hH hblk hsz
def Tryz.lays108_ren:Go.Shelf.Ren:=⟨fun|108=>145|n=>n,fun|28=>71|3=>3|0=>0|4=>4|n=>n,fun|n=>n⟩
def Tryz.lays107_ren:Go.Shelf.Ren:=⟨fun|107=>95|108=>145|n=>n,fun|28=>71|3=>3|4=>4|0=>0|n=>n,fun|n=>n⟩
def Tryz.laysNm215_ren:Go.Shelf.Ren:=⟨fun|15=>229|n=>n,fun|22=>71|3=>3|4=>4|n=>n,fun|n=>n⟩
theorem Tryz.laysNm215:Go.Proofs.Lays2.n15 Tryz.prog Tryz.laysNm215_ren:={
  mixed:=by kernel_rfl
  f15:=Tryz.func229.trans (congrArg some (by kernel_rfl))
  t3:=Tryz.underlying3
  a3:=Tryz.isAgg3
  z3:=Tryz.sizeOf3
  v3:=Tryz.zeroValue3
  t4:=Tryz.underlying4
  a4:=Tryz.isAgg4
  z4:=Tryz.sizeOf4
  v4:=Tryz.zeroValue4
  t22:=Tryz.underlying71
  a22:=Tryz.isAgg71
  z22:=Tryz.sizeOf71
  v22:=Tryz.zeroValue71
  i3:=by kernel_rfl }
open Go.RowKit Go.Lib in
theorem Tryz.slices_Clone_int(b off n c:Nat)(zs:List Int)(w:World)(hz:n≤zs.length)(hbig:n*8≤140737488355328)(hc:∀ j,j<zs.length→w.cell? ⟨b,off+j,none⟩=some (.int .i64 (zs.getD j 0))) :
    Calls Tryz.prog 229 #[.slice (some ⟨b,off,none⟩) n c] w fun e w'=>∃ v',e=.returned v'∧w'.ownsRow w.heap.size 3 1 v' n ((zs.take n).map (Value.int .i64))∧v'≠.slice none 0 0∧Below w.heap.size w w':=Any.slices_Clone_int Tryz.laysNm215 b off n c zs w hz hbig hc
open Go.RowKit Go.Lib in
theorem Tryz.slices_Clone_int_nil(n c:Nat)(w:World) :
    Calls Tryz.prog 229 #[.slice none n c] w fun e w'=>e=.returned (.slice none 0 0)∧w'=w:=Any.slices_Clone_int_nil Tryz.laysNm215 n c w
open Go.RowKit Go.Lib in
theorem Tryz.slices_Clone_int_zero(a:Addr)(c:Nat)(w:World) :
    Calls Tryz.prog 229 #[.slice (some a) 0 c] w fun e w'=>∃ v',e=.returned v'∧w'.ownsRow w.heap.size 3 1 v' 0 []∧v'≠.slice none 0 0∧Below w.heap.size w w':=Any.slices_Clone_int_zero Tryz.laysNm215 a c w
def Tryz.laysNm220_ren:Go.Shelf.Ren:=⟨fun|20=>207|n=>n,fun|22=>71|3=>3|4=>4|0=>0|n=>n,fun|n=>n⟩
theorem Tryz.laysNm220:Go.Proofs.Lays2.n20 Tryz.prog Tryz.laysNm220_ren:={
  mixed:=by kernel_rfl
  f20:=Tryz.func207.trans (congrArg some (by kernel_rfl))
  t0:=Tryz.underlying0
  a0:=Tryz.isAgg0
  z0:=Tryz.sizeOf0
  v0:=Tryz.zeroValue0
  t3:=Tryz.underlying3
  a3:=Tryz.isAgg3
  z3:=Tryz.sizeOf3
  v3:=Tryz.zeroValue3
  t4:=Tryz.underlying4
  a4:=Tryz.isAgg4
  z4:=Tryz.sizeOf4
  v4:=Tryz.zeroValue4
  t22:=Tryz.underlying71
  a22:=Tryz.isAgg71
  z22:=Tryz.sizeOf71
  v22:=Tryz.zeroValue71
  i3:=by kernel_rfl }
open Go.RowKit Go.Lib Go.Sort in
theorem Tryz.slices_Compact_int(blk off cap:Nat)(zs:List Int)(w:World)(hH:Holds (Value.int .i64) w blk off zs.toArray)(hsz:zs.length≤9223372036854775807)(hcap:zs.length≤cap) :
    Calls Tryz.prog 207 #[.slice (some ⟨blk,off,none⟩) zs.length cap] w fun e w'=>e=.returned (.slice (some ⟨blk,off,none⟩) (Lib.compact zs).length cap)∧∃ q,w'=putRow (Value.int .i64) (Sort.ahead w q) blk off (Lib.compact zs++List.replicate (zs.length-(Lib.compact zs).length) 0).toArray:=Any.slices_Compact_int Tryz.laysNm220 blk off cap zs w hH hsz hcap
open Go.RowKit Go.Lib Go.Sort in
theorem Tryz.slices_Compact_int_empty(a:Option Addr)(cap:Nat)(w:World) :
    Calls Tryz.prog 207 #[.slice a 0 cap] w fun e w'=>e=.returned (.slice a 0 cap)∧w'=w:=Any.slices_Compact_int_empty Tryz.laysNm220 a cap w
end Go.Proofs
namespace Go.Proofs.YtpifljegadknkaaGreat
open Go.RowKit
section
variable {α : Type}
theorem X4z{enc:α→List Value}{sz:Nat}(hsz:∀ x,(enc x).length=sz){l:List α}{j:Nat}(hj:j<l.length*sz) : ∃ x,l[j/sz]? = some x∧(l.flatMap enc)[j]? = (enc x)[j % sz]?:=by
 have h0:0<sz:=by
  rcases Nat.eq_zero_or_pos sz with h|h
  ·subst h;simp at hj
  ·exact h
 have hk:j/sz<l.length:=Nat.div_lt_of_lt_mul (by rw [Wi];exact hj)
 refine ⟨l[j/sz],Qc hk,?_⟩
 have hm:j % sz<(enc l[j/sz]).length:=by rw [hsz];exact Nat.mod_lt _ h0
 have h1:=X62 hsz l (j/sz) _ (Qc hk) (j % sz) _ (Qc hm)
 rw [show j/sz*sz+j % sz=j from by rw [Wi];exact Nat.div_add_mod j sz] at h1
 rw [h1,Qc hm]
theorem X8p{enc:α→List Value}{sz:Nat}(hsz:∀ x,(enc x).length=sz){z:Value}{z0:α}(hz:z.cells.toList=enc z0)(n:Nat) : madeCells z.cells (n*sz)=((List.replicate n z0).flatMap enc).toArray:=by
 have hs:z.cells.size=sz:=by rw [← hsz z0,← hz];simp
 apply Array.ext'
 apply List.ext_getElem?
 intro j
 by_cases hj:j<n*sz
 ·obtain ⟨x,hx,h1⟩:=X4z hsz (l:=List.replicate n z0) (j:=j) (by simpa using hj)
  obtain rfl:x=z0:=(List.eq_of_mem_replicate (Qe hx))
  have h0:0<sz:=by
   rcases Nat.eq_zero_or_pos sz with h|h
   ·subst h;simp at hj
   ·exact h
  have hm:j % sz<z.cells.size:=by rw [hs];exact Nat.mod_lt _ h0
  rw [List.toList_toArray,h1,← hz]
  simp only [madeCells,Array.getElem?_toList,Array.getElem?_map,Array.getElem?_range,hj,if_true,Option.map_some,hs]
  rw [getElem!_pos z.cells (j % sz) hm,Array.getElem?_eq_getElem hm]
 ·rw [List.getElem?_eq_none (by simp [madeCells];omega),List.toList_toArray,List.getElem?_eq_none (by rw [Xo hsz];simp;omega)]
theorem X52{enc:α→List Value}{sz:Nat}(hsz:∀ x,(enc x).length=sz) : ∀ (l:List α) (k:Nat) (x:α),k<l.length→splice (l.flatMap enc) (k*sz) (enc x)=(l.set k x).flatMap enc
 | [],k,x,h=>by simp at h
 | y::l,0,x,h=>by
  simp only [splice,Nat.zero_mul,List.take_zero,List.nil_append,Nat.zero_add,Wc,List.set_cons_zero]
  rw [hsz,← hsz y,List.drop_left]
 | y::l,k+1,x,h=>by
  have ih:=X52 hsz l k x (by simpa using h)
  unfold splice at ih ⊢
  have h1:(k+1)*sz=(enc y).length+k*sz:=by rw [hsz,Wb];omega
  rw [h1]
  simp only [Wc,List.set_cons_succ]
  rw [List.take_length_add_append,show (enc y).length+k*sz+(enc x).length=(enc y).length+(k*sz+(enc x).length) from by omega,List.drop_length_add_append,Qx,Qx]
  rw [← ih,Qx]
end
section
variable {α : Type} {P : Program} {a : Act} {w : World} {n : Nat} {e : Env} {ty : TypeId} {pos : String} {af : Array Edge} {g : Option (Nat × Bool)} {d : Option Tmp}
theorem Xav{T E sz bytes m:Nat}{x y:Operand}{enc:α→List Value}{z:Value}{z0:α}(hf:Fr a n e)(hx:ev e x=some (.int .i64 (m:Int)))(hy:ev e y=some (.int .i64 (m:Int)))(hT:SliceT P T E)(hi:InfoT P E sz bytes)(hz:ZeroT P E z)(hz0:z.cells.toList=enc z0)(hsz:∀ x,(enc x).length=sz)(hb:bytes*m≤281474976710656)(hm:m≤4611686018427387904) :
  Ef P ⟨d,.makeSlice T x y,ty,pos,af,g⟩ a w (fun v w'=>∃ b,v=.slice (some ⟨b,0,none⟩) m m∧w.heap.size≤b∧Below w.heap.size w w'∧Blk w' b E ((List.replicate m z0).flatMap enc)):=by
 obtain ⟨i,z1,hi1,hi2,hi3,hi4,hi5,hi6⟩:=hi;obtain ⟨i',hi1',hz1⟩:=hz
 rw [hi1] at hi1'
 injection hi1' with hi1'
 subst hi1'
 rw [hi2] at hz1
 injection hz1 with hz1
 subst hz1
 have hb':(i.bytes:Int)*(m:Int)≤281474976710656:=by
  have h:((i.bytes*m:Nat) : Int)≤281474976710656:=by rw [hi4];omega
  rwa [Int.natCast_mul] at h
 have hr:=run_make (P:=P) w T E i z1 hT hi1 hi2 .i64 .i64 m m (by omega) (Int.le_refl _) hb' (by omega)
 refine (Ef.of_run (v:=.slice (some ⟨w.heap.size,0,none⟩) m m) (w':=w.alloc (.cells ((List.replicate m z0).flatMap enc).toArray E)) ?_).mono fun v w' ⟨e1,e2⟩=>?_
 ·rw [hi3,Qj,X8p hsz hz0] at hr
  simp [execOp,hf.ev hx,hf.ev hy,hr]
 ·subst e1;subst e2
  exact ⟨_,rfl,Qb _,(Below.refl _ _).alloc (Qb _) _,X4c w E _⟩
theorem X6b{T E sz bytes m:Nat}{x y:Operand}{enc:α→List Value}{z:Value}{z0:α}(hx:ev e x=some (.int .i64 (m:Int)))(hy:ev e y=some (.int .i64 (m:Int)))(hT:SliceT P T E)(hi:InfoT P E sz bytes)(hz:ZeroT P E z)(hz0:z.cells.toList=enc z0)(hsz:∀ x,(enc x).length=sz)(hb:bytes*m≤281474976710656)(hm:m≤4611686018427387904) : EfW P ⟨d,.makeSlice T x y,ty,pos,af,g⟩ n e w (fun v w'=>∃ b,v=.slice (some ⟨b,0,none⟩) m m∧w.heap.size≤b∧Below w.heap.size w w'∧Blk w' b E ((List.replicate m z0).flatMap enc)):=fun a hf=>Xav hf hx hy hT hi hz hz0 hsz hb hm
theorem X9k{T E sz b m c k off:Nat}{x y:Operand}{i:Int}(hf:Fr a n e)(hx:ev e x=some (.slice (some ⟨b,0,none⟩) m c))(hy:ev e y=some (.int .i64 i))(hT:SliceT P T E)(hs:SizeT P E sz)(hi:i=(k:Int))(hk:k<m)(ho:k*sz=off) :
  Ev P ⟨d,.indexAddr T x y,ty,pos,af,g⟩ a w (.pointer (some ⟨b,off,none⟩)):=by
 have h:=X8b (P:=P) (w:=w) (d:=d) (ty:=ty) (pos:=pos) (af:=af) (g:=g) hf hx hy hT hs hi hk
 rwa [X1k,Nat.zero_add,ho] at h
theorem Xni{T E sz b m c k off:Nat}{x y:Operand}{i:Int}(hx:ev e x=some (.slice (some ⟨b,0,none⟩) m c))(hy:ev e y=some (.int .i64 i))(hT:SliceT P T E)(hs:SizeT P E sz)(hi:i=(k:Int))(hk:k<m)(ho:k*sz=off) : EvW P ⟨d,.indexAddr T x y,ty,pos,af,g⟩ n e w (.pointer (some ⟨b,off,none⟩)):=fun a hf=>X9k hf hx hy hT hs hi hk ho
theorem Xgf{t T b k sz:Nat}{x y:Operand}{v:Value}{enc:α→List Value}{l:List α}{u:α}(hf:Fr a n e)(hx:ev e x=some (.pointer (some ⟨b,k*sz,none⟩)))(hy:ev e y=some v)(hs:SizeT P t sz)(hb:Blk w b T (l.flatMap enc))(hsz:∀ x,(enc x).length=sz)(hone:∀ x,(enc x).all one=true)(hv:v.cells.toList=enc u)(hk:k<l.length) :
  Ef P ⟨d,.store t x y,ty,pos,af,g⟩ a w (Stored w b T ((l.set k u).flatMap enc)):=by
 have hl:k*sz+sz≤(l.flatMap enc).length:=by
  rw [Xo hsz]
  have:=Nat.mul_le_mul_right sz (show k+1≤l.length by omega)
  rwa [Wb,Nat.one_mul] at this
 exact X7x (vs:=enc u) hf hx hy hs hb hv (by rw [hsz];simp) (hone u) (by rw [Nat.ble_eq];exact hl) (X52 hsz l k u hk)
theorem Xm3{t T b k sz:Nat}{x y:Operand}{v:Value}{enc:α→List Value}{l:List α}{u:α}(hx:ev e x=some (.pointer (some ⟨b,k*sz,none⟩)))(hy:ev e y=some v)(hs:SizeT P t sz)(hb:Blk w b T (l.flatMap enc))(hsz:∀ x,(enc x).length=sz)(hone:∀ x,(enc x).all one=true)(hv:v.cells.toList=enc u)(hk:k<l.length) : EfW P ⟨d,.store t x y,ty,pos,af,g⟩ n e w (Stored w b T ((l.set k u).flatMap enc)):=fun a hf=>Xgf hf hx hy hs hb hsz hone hv hk
theorem Xdl{T E sz m c k:Nat}{x y:Operand}{A:Option Addr}{i:Int}(hf:Fr a n e)(hx:ev e x=some (.slice A m c))(hy:ev e y=some (.int .i64 i))(hT:SliceT P T E)(hs:SizeT P E sz)(hi:i=(k:Int))(hk:k≤c) :
  Ev P ⟨d,.slice T x none (some y) none,ty,pos,af,g⟩ a w (.slice A k c):=fun w' _=>by
 subst hi
 have h0:∀ p:Addr,p.add 0=p:=fun p=>by simp [Addr.add]
 simp [execOp,Instr.sliceAt,Instr.slice,Instr.sliceBounds,run_sliceBound,X0x hT,run_sizeOf' hs,hf.ev hx,hf.ev hy,hk,h0]
theorem Xa7{T E sz m c k:Nat}{x y:Operand}{A:Option Addr}{i:Int}(hf:Fr a n e)(hx:ev e x=some (.slice A m c))(hy:ev e y=some (.int .i64 i))(hT:SliceT P T E)(hs:SizeT P E sz)(hi:i=(k:Int))(hk:k≤m) :
  Ev P ⟨d,.slice T x (some y) none none,ty,pos,af,g⟩ a w (.slice (if c=k then A else A.map (·.add (k*sz))) (m-k) (c-k)):=fun w' _=>by
 subst hi
 simp [execOp,Instr.sliceAt,Instr.slice,Instr.sliceBounds,run_sliceBound,X0x hT,run_sizeOf' hs,hf.ev hx,hf.ev hy,hk]
end
section
variable {α : Type} {w : World} {B B0 : Nat} {E : TypeId} {sz : Nat} {enc : α → List Value} {A : Option Addr} {c : Nat} {l : List α}
theorem Xae(hsz:∀ x,(enc x).length=sz)(k:Nat) : (l.take k).flatMap enc=(l.flatMap enc).take (k*sz):=by
 conv=>rhs;rw [← W9 k l]
 rw [List.flatMap_append]
 by_cases hk:k≤l.length
 ·have:((l.take k).flatMap enc).length=k*sz:=by rw [Xo hsz,Qn,Nat.min_eq_left hk]
  rw [← this,List.take_left]
 ·rw [Qi (by omega),W3 (by omega)]
  simp only [List.flatMap_nil,List.append_nil]
  rw [Qi (by rw [Xo hsz];exact Nat.mul_le_mul_right _ (by omega))]
theorem Xab(hsz:∀ x,(enc x).length=sz)(k:Nat) : (l.drop k).flatMap enc=(l.flatMap enc).drop (k*sz):=by
 conv=>rhs;rw [← W9 k l]
 rw [List.flatMap_append]
 by_cases hk:k≤l.length
 ·have:((l.take k).flatMap enc).length=k*sz:=by rw [Xo hsz,Qn,Nat.min_eq_left hk]
  rw [← this,List.drop_left]
 ·have h1:l.drop k=[]:=W3 (by omega)
  rw [h1,List.flatMap_nil,List.append_nil,W3 (by rw [Xo hsz,Qn];exact Nat.mul_le_mul_right _ (by omega))]
theorem Rd.takeK(hsz:∀ x,(enc x).length=sz)(h:Rd w B E enc A l)(k:Nat) : Rd w B E enc A (l.take k):=fun hl=>by
 have hl':l≠[]:=by rintro rfl;simp at hl
 obtain ⟨b,off,cs,fz,h1,h2,h3,h4⟩:=h hl'
 refine ⟨b,off,cs,fz,h1,h2,h3,fun j v hj=>h4 j v ?_⟩
 rw [Xae hsz,List.getElem?_take] at hj
 split at hj
 ·exact hj
 ·cases hj
theorem Rd.dropK(hsz:∀ x,(enc x).length=sz)(h:Rd w B E enc A l)(hc:l.length≤c)(k:Nat) : Rd w B E enc (if c=k then A else A.map (·.add (k*sz))) (l.drop k):=fun hl=>by
 have hk:k<l.length:=by
  rcases W4 k l.length with h'|h'
  ·exact h'
  ·exact absurd (W3 h') hl
 have hl':l≠[]:=by rintro rfl;simp at hk
 obtain ⟨b,off,cs,fz,h1,h2,h3,h4⟩:=h hl'
 rw [Q3 (by omega),h1]
 refine ⟨b,off+k*sz,cs,fz,by rw [Option.map_some,X1k],h2,h3,fun j v hj=>?_⟩
 rw [Xab hsz,List.getElem?_drop] at hj
 rw [Nat.add_assoc]
 exact h4 _ v hj
theorem Xj8{P:Program}{a:Act}{n:Nat}{e:Env}{ty:TypeId}{pos:String}{af:Array Edge}{g:Option (Nat×Bool)}{d:Option Tmp}{T k:Nat}{x y:Operand}{i:Int}(hf:Fr a n e)(hx:ev e x=some (.slice A l.length c))(hy:ev e y=some (.int .i64 i))(hT:SliceT P T E)(hs:SizeT P E sz)(hi:i=(k:Int))(hk:k≤l.length)(hc:l.length≤c) :
  Ev P ⟨d,.slice T x none (some y) none,ty,pos,af,g⟩ a w (.slice A (l.take k).length c):=by
 rw [Qn,Nat.min_eq_left hk]
 exact Xdl hf hx hy hT hs hi (by omega)
theorem X2x{P:Program}{n:Nat}{e:Env}{ty:TypeId}{pos:String}{af:Array Edge}{g:Option (Nat×Bool)}{d:Option Tmp}{T k:Nat}{x y:Operand}{i:Int}(hx:ev e x=some (.slice A l.length c))(hy:ev e y=some (.int .i64 i))(hT:SliceT P T E)(hs:SizeT P E sz)(hi:i=(k:Int))(hk:k≤l.length)(hc:l.length≤c) : EvW P ⟨d,.slice T x none (some y) none,ty,pos,af,g⟩ n e w (.slice A (l.take k).length c):=fun a hf=>Xj8 hf hx hy hT hs hi hk hc
theorem Xhp{P:Program}{a:Act}{n:Nat}{e:Env}{ty:TypeId}{pos:String}{af:Array Edge}{g:Option (Nat×Bool)}{d:Option Tmp}{T k:Nat}{x y:Operand}{i:Int}(hf:Fr a n e)(hx:ev e x=some (.slice A l.length c))(hy:ev e y=some (.int .i64 i))(hT:SliceT P T E)(hs:SizeT P E sz)(hi:i=(k:Int))(hk:k≤l.length) :
  Ev P ⟨d,.slice T x (some y) none none,ty,pos,af,g⟩ a w (.slice (if c=k then A else A.map (·.add (k*sz))) (l.drop k).length (c-k)):=by
 rw [List.length_drop]
 exact Xa7 hf hx hy hT hs hi hk
theorem X6z{P:Program}{n:Nat}{e:Env}{ty:TypeId}{pos:String}{af:Array Edge}{g:Option (Nat×Bool)}{d:Option Tmp}{T k:Nat}{x y:Operand}{i:Int}(hx:ev e x=some (.slice A l.length c))(hy:ev e y=some (.int .i64 i))(hT:SliceT P T E)(hs:SizeT P E sz)(hi:i=(k:Int))(hk:k≤l.length) : EvW P ⟨d,.slice T x (some y) none none,ty,pos,af,g⟩ n e w (.slice (if c=k then A else A.map (·.add (k*sz))) (l.drop k).length (c-k)):=fun a hf=>Xhp hf hx hy hT hs hi hk
theorem Own.cap(h:Own w B0 E sz enc A c l) : l.length≤c:=by
 rcases h.2 with ⟨h1,h2⟩|⟨g,cap,cur,h1,h2,h3,h4,h5,h6⟩
 ·omega
 ·injection h1 with _ _ h1
  omega
theorem Own.of_flat(hsz:∀ x,(enc x).length=sz){b m:Nat}(h:Blk w b E (l.flatMap enc))(hb:B0≤b)(hl:l.length=m)(hk:m≤maxLen) : Own w B0 E sz enc (some ⟨b,0,none⟩) m l:=Own.of_blkL hsz h hb rfl hl hk
end
theorem Kept.app{α:Type}{b B B0:Nat}{w0 w w':World}{E:TypeId}{sz:Nat}{enc:α→List Value}{A:Option Addr}{c:Nat}{l:List α}(h:Kept b B w0 w)(ho:Own w B0 E sz enc A c l)(hg:w.grownBy w' (Value.slice A l.length c).ownBlock)(hB:B≤B0)(hs:B≤w.heap.size) : Kept b B w0 w':=
 ⟨hg.os.trans h.os,hg.tape.trans h.tape,hg.output.trans h.output,Q0 h.size hg.size,fun k hk hne=>(hg.block k (by omega) fun hk'=>by have:=(ho.block hk'.symm).1;omega).trans (h.block k hk hne)⟩
theorem Xcy{α:Type}{P:Program}{a:Act}{w:World}{n:Nat}{e:Env}{ty:TypeId}{pos:String}{af:Array Edge}{g:Option (Nat×Bool)}{d:Option Tmp}{T E:TypeId}{sz bytes B b0:Nat}{x y:Operand}{enc:α→List Value}{A2:Option Addr}{c2:Nat}{l2:List α}(hf:Fr a n e)(hx:ev e x=some (.slice (some ⟨b0,0,none⟩) 0 0))(hy:ev e y=some (.slice A2 l2.length c2))
  (hT:SliceT P T E) (hi:InfoT P E sz bytes) (hsz:∀ x,(enc x).length=sz) (hone:∀ x,(enc x).all one=true) (hb:Blk w b0 E []) (hr:Rd w B E enc A2 l2) (h63:l2.length≤maxLen) (hbytes:l2.length*bytes≤140737488355328) :
  Ef P ⟨d,.call ⟨.builtin .append,#[x,y],#[T,T]⟩,ty,pos,af,g⟩ a w (fun v w'=>∃ A' c',v=.slice A' l2.length c'∧Own w' b0 E sz enc A' c' l2∧Below w.heap.size w w'):=by
 by_cases hl2:l2=[]
 ·subst hl2
  obtain ⟨i,z,hi1,hi2,hi3,hi4,hi5,hi6⟩:=hi
  have hrun:(Builtin.append_ #[T,T] ty #[.slice (some ⟨b0,0,none⟩) 0 0,.slice A2 0 c2]).run P w=.ok (.slice (some ⟨b0,0,none⟩) 0 0) w:=by
   cases A2<;>simp [Builtin.append_,X0x hT,sizeOf,typeInfo,hi1,Builtin.lenOf,Builtin.firstCells,loadCells,loadCellsFrom,storeCells]
  refine (Ef.of_run (v:=.slice (some ⟨b0,0,none⟩) 0 0) (w':=w) ?_).mono fun v w' ⟨e1,e2⟩=>?_
  ·simp only [List.length_nil] at hy
   simp [execOp,resolve,invoke,builtin,hf.ev hx,hf.ev hy,hrun]
  ·subst e1;subst e2
   exact ⟨_,_,rfl,Own.empty hb (Qb _),Below.refl _ _⟩
 ·have hown:Own w b0 E sz enc (some ⟨b0,0,none⟩) 0 ([] : List α):=Own.empty hb (Qb _)
  obtain ⟨i,z,hi1,hi2,rfl,rfl,hi5,hi6⟩:=hi;obtain ⟨b,off,cs,fz,rfl,h2,h3,h4⟩:=hr hl2;have hlen2:=Xo hsz l2
  have hpos:0<l2.length:=List.length_pos_iff.2 hl2
  have h:=run_append_grow (P:=P) w T ty E i z hT hi1 hi2 ⟨b0,0,none⟩ 0 0 [] (by simp) (fun j u hu=>by simp at hu)
   ⟨b,off,none⟩ l2.length c2 (l2.flatMap enc) hlen2 (fun j u hu=>by
    have:=h4 j u hu
    rw [X1k]
    simp [World.cell?,h3,this])
   (by omega) (by simp only [maxLen] at h63;omega) (growslice_fits (by omega) (by simpa using hbytes))
  simp only [Nat.zero_add] at h
  refine (Ef.of_run (w':=w.drew.alloc (.cells (([] : List Value).toArray++(l2.flatMap enc).toArray++Builtin.zeroCells z.cells (grownCap w l2.length 0 E-l2.length)) E)) (v:=.slice (some ⟨w.heap.size,0,none⟩) l2.length (grownCap w l2.length 0 E)) ?_).mono fun v w' ⟨e1,e2⟩=>?_
  ·simp [execOp,resolve,invoke,builtin,hf.ev hx,hf.ev hy,h]
  ·subst e1;subst e2
   have hb0:=hb.lt;have hge:=grownCap_ge w l2.length 0 E
   refine ⟨_,_,rfl,?_,((Below.refl _ _).drew).alloc (Qb _) _⟩
   refine ⟨Xo hsz _,.inr ⟨w.heap.size,_,_,rfl,by omega,heap_alloc_new w.drew _,hge,grownCap_le_maxLen w _ _ E h63,?_,?_⟩⟩
   ·simp only [Array.size_append,List.size_toArray,size_zeroCells,hi5,hlen2,List.length_nil,Nat.zero_add,← Wb]
    congr 1
    omega
   ·rw [← hlen2]
    simp only [Array.toList_append,Qx,List.nil_append]
    exact List.take_left
theorem X8l{α:Type}{P:Program}{w:World}{n:Nat}{e:Env}{ty:TypeId}{pos:String}{af:Array Edge}{g:Option (Nat×Bool)}{d:Option Tmp}{T E:TypeId}{sz bytes B b0:Nat}{x y:Operand}{enc:α→List Value}{A2:Option Addr}{c2:Nat}{l2:List α}(hx:ev e x=some (.slice (some ⟨b0,0,none⟩) 0 0))(hy:ev e y=some (.slice A2 l2.length c2))(hT:SliceT P T E)(hi:InfoT P E sz bytes)(hsz:∀ x,(enc x).length=sz)(hone:∀ x,(enc x).all one=true)(hb:Blk w b0 E [])(hr:Rd w B E enc A2 l2)(h63:l2.length≤maxLen)(hbytes:l2.length*bytes≤140737488355328) : EfW P ⟨d,.call ⟨.builtin .append,#[x,y],#[T,T]⟩,ty,pos,af,g⟩ n e w (fun v w'=>∃ A' c',v=.slice A' l2.length c'∧Own w' b0 E sz enc A' c' l2∧Below w.heap.size w w'):=fun a hf=>Xcy hf hx hy hT hi hsz hone hb hr h63 hbytes
end Go.Proofs.YtpifljegadknkaaGreat
namespace Go.Proofs.YtpifljegadknkaaGreat
open Go.RowKit Go.Sort
theorem X5v{w:World}{g n:Nat}{os:Array Obj}{cur:Array Value}{e:TypeId}{fr:Nat×Nat}(d:Array Int)(hb:w.heap[g]? = some (.cells cur e fr)) :
  (grow (putRow (Value.int .i64) (Sort.ahead w n) g 0 d) os).heap[g]? = some (.cells (putCells (Value.int .i64) 0 d cur) e fr):=by
 have hg:g<w.heap.size:=(Qp.1 hb).1
 rw [heap_grow_old _ _ (by simpa using hg)]
 simp [putRow,mapBlock,Sort.ahead,Array.getElem?_modify,hb,onCells]
theorem X51{w:World}{g n:Nat}{os:Array Obj}(d:Array Int) : w.grownBy (grow (putRow (Value.int .i64) (Sort.ahead w n) g 0 d) os) (some g):=by
 refine ⟨rfl,rfl,rfl,by simp,fun k hk hne=>?_⟩
 rw [heap_grow_old _ _ (by simpa using hk)]
 have:g≠k:=fun e=>hne (by rw [e])
 simp [putRow,mapBlock,Sort.ahead,Array.getElem?_modify,this]
theorem X5g(l:List Int) : l.flatMap encI=l.map (Value.int .i64):=by
 induction l with
 | nil=>rfl
 | cons x l ih=>simp only [Wc,List.map_cons,ih];rfl
theorem Xb9(cur:Array Value)(d ts:List Int)(h:d.length≤cur.size)(ht:d.take ts.length=ts) : (putCells (Value.int .i64) 0 d.toArray cur).toList.take (ts.length*1)=ts.flatMap encI:=by
 have hl:ts.length≤d.length:=by
  have:=congrArg List.length ht
  rw [Qn] at this
  omega
 rw [X5g,Nat.mul_one]
 apply List.ext_getElem?
 intro j
 by_cases hj:j<ts.length
 ·rw [Wg hj,Array.getElem?_toList]
  have h1:ts[j]? = d[j]?:=by
   conv=>lhs;rw [← ht]
   rw [Wg hj]
  have h2:j<d.length:=by omega
  rw [List.getElem?_map,h1]
  simp [putCells,h2,show j<cur.size by omega]
 ·rw [List.getElem?_take_eq_none (by omega),List.getElem?_eq_none (by simp;omega)]
theorem X8t{w:World}{g:Nat}{cur:Array Value}{e:TypeId}{l:List Int}(hb:w.heap[g]? = some (.cells cur e (0,0)))(ht:cur.toList.take (l.length*1)=l.flatMap encI) : Holds (Value.int .i64) w g 0 l.toArray:=by
 intro j hj
 have hj':j<l.length:=by simpa using hj
 refine ⟨?_,by simp [World.frozen?,hb]⟩
 rw [X5g,Nat.mul_one] at ht
 have h1:(cur.toList.take l.length)[j]? = (l.map (Value.int .i64))[j]?:=by rw [ht]
 rw [Wg hj'] at h1
 simp only [World.cell?,hb,Nat.zero_add]
 simp only [Option.isSome_none,Bool.false_eq_true,if_false]
 rw [← Array.getElem?_toList,h1]
 simp [hj']
def sortI(l:List Int) : List Int:=l.mergeSort fun x y=>decide (x≤y)
theorem F94(w0:World)(B0:Nat)(A:Option Addr)(c:Nat)(l:List Int)(ho:Own w0 B0 3 1 encI A c l)(hl:l.length≤1000000000) :
  Ret Tryz.prog 195 [.slice A l.length c] w0 (fun _ w=>Own w B0 3 1 encI A c (sortI l)∧w0.grownBy w (Value.slice A l.length c).ownBlock):=by
 by_cases h0:l=[]
 ·subst h0
  refine Calls.mono (Any.slices_Sort_int_none Tryz.lays189 A c w0) fun e w ⟨e1,e2⟩=>⟨_,e1,?_⟩
  subst e2
  exact ⟨by simpa [sortI] using ho,World.grownBy.refl w _⟩
 ·rcases ho.2 with ⟨h1,h2⟩|⟨g,cap,cur,h1,h2,h3,h4,h5,h6,h7⟩
  ·exact absurd (List.eq_nil_of_length_eq_zero h2) h0
  ·injection h1 with h1 _ h1''
   subst h1;subst h1''
   have hs:(sortI l).length=l.length:=by simp [sortI]
   refine Calls.mono (Tryz.slices_Sort_int g 0 c l w0 (X8t h3 h7) (Qp.1 h3).1 (by omega)) fun e w ⟨e1,n,os,e2⟩=>⟨_,e1,?_⟩
   subst e2
   refine ⟨⟨Xo Xf _,.inr ⟨g,c,_,by rw [hs],h2,X5v _ h3,by omega,h5,by simp [putCells,h6],?_⟩⟩,?_⟩
   ·exact Xb9 cur (sortI l) (sortI l) (by omega) List.take_length
   ·exact X51 _
theorem Xbo(l:List Int) : (Lib.compact l).length≤l.length:=by
 unfold Lib.compact Lib.compactUpTo
 rw [Qo]
 exact Q0 (List.length_filter_le _ _) (by simp)
theorem F95(w0:World)(B0:Nat)(A:Option Addr)(c:Nat)(l:List Int)(ho:Own w0 B0 3 1 encI A c l)(hl:l.length≤1000000000) :
  Ret Tryz.prog 207 [.slice A l.length c] w0 (fun v w=>v=.slice A (Lib.compact l).length c∧Own w B0 3 1 encI A c (Lib.compact l)∧w0.grownBy w (Value.slice A l.length c).ownBlock):=by
 by_cases h0:l=[]
 ·subst h0
  refine Calls.mono (Tryz.slices_Compact_int_empty A c w0) fun e w ⟨e1,e2⟩=>⟨_,e1,?_⟩
  subst e2
  exact ⟨rfl,ho,World.grownBy.refl w _⟩
 ·rcases ho.2 with ⟨h1,h2⟩|⟨g,cap,cur,h1,h2,h3,h4,h5,h6,h7⟩
  ·exact absurd (List.eq_nil_of_length_eq_zero h2) h0
  ·injection h1 with h1 _ h1''
   subst h1;subst h1''
   have hc:=Xbo l
   refine Calls.mono (Tryz.slices_Compact_int g 0 c l w0 (X8t h3 h7) (by omega) h4) fun e w ⟨e1,q,e2⟩=>⟨_,e1,rfl,?_⟩
   have e3:w=grow (putRow (Value.int .i64) (Sort.ahead w0 q) g 0 (Lib.compact l++List.replicate (l.length-(Lib.compact l).length) 0).toArray) #[]:=by rw [grow_empty];exact e2
   subst e3
   refine ⟨⟨Xo Xf _,.inr ⟨g,c,_,rfl,h2,X5v _ h3,by omega,h5,by simp [putCells,h6],?_⟩⟩,?_⟩
   ·exact Xb9 cur _ (Lib.compact l) (by simp;omega) List.take_left
   ·exact X51 _
theorem Xxd(w0:World)(B0:Nat)(A:Option Addr)(c:Nat)(l:List Int)(m:Nat)(hm:m=l.length)(ho:Own w0 B0 3 1 encI A c l)(hl:l.length≤1000000000) :
  Ret Tryz.prog 207 [.slice A m c] w0 (fun v w=>v=.slice A (Lib.compact l).length c∧Own w B0 3 1 encI A c (Lib.compact l)∧w0.grownBy w (Value.slice A l.length c).ownBlock):=by
 subst hm
 exact F95 w0 B0 A c l ho hl
def growRen:Go.Shelf.Ren:=⟨fun|4=>231|n=>n,fun|22=>71|25=>3|n=>n,fun|n=>n⟩
theorem Xfv:Lays8.n4 Tryz.prog growRen:={
 mixed:=by kernel_rfl
 f4:=⟨Tryz.f231.name,by decide,Tryz.func231.trans (congrArg some (by kernel_rfl))⟩
 t0:=Tryz.underlying0
 a0:=Tryz.isAgg0
 z0:=Tryz.sizeOf0
 v0:=Tryz.zeroValue0
 t3:=Tryz.underlying3
 a3:=Tryz.isAgg3
 z3:=Tryz.sizeOf3
 v3:=Tryz.zeroValue3
 t4:=Tryz.underlying4
 a4:=Tryz.isAgg4
 z4:=Tryz.sizeOf4
 v4:=Tryz.zeroValue4
 t9:=Tryz.underlying9
 a9:=Tryz.isAgg9
 z9:=Tryz.sizeOf9
 v9:=Tryz.zeroValue9
 t20:=Tryz.underlying20
 a20:=Tryz.isAgg20
 z20:=Tryz.sizeOf20
 v20:=Tryz.zeroValue20
 t22:=Tryz.underlying71
 a22:=Tryz.isAgg71
 z22:=Tryz.sizeOf71
 v22:=Tryz.zeroValue71 }
theorem Xx1(w0:World)(n:Nat)(hn:n≤1000000000) : Ret Tryz.prog 231 [.slice none 0 0,.int .i64 (n:Int)] w0 (fun v w=>∃ A c,v=.slice A 0 c∧Own w w0.heap.size 3 1 encI A c ([] : List Int)∧Below w0.heap.size w0 w):=by
 by_cases h0:n=0
 ·subst h0
  refine Calls.mono (Any8.slices_Grow_room Xfv none 0 0 0 w0 (by omega) (by omega) (by omega) (by omega)) fun e w ⟨e1,e2⟩=>⟨_,e1,none,0,rfl,?_⟩
  subst e2
  exact ⟨Own.nil _ _ _ _ _,Below.refl _ _⟩
 ·obtain ⟨i,z,hi1,hi2,hi3,hi4,hi5,hi6⟩:=X1q
  refine Calls.mono (Any8.slices_Grow_grow Xfv i z hi1 hi2 (by omega) none 0 0 n [] w0 (by omega) (by omega) (by rw [hi4];omega) (by omega) (by simp) (fun _=>rfl) (fun a h=>by cases h)) fun e w ⟨e1,e2⟩=>⟨_,e1,_,_,rfl,?_⟩
  subst e2
  have hge:=grownCap_ge w0 (0+n) 0 (growRen.t 25)
  refine ⟨⟨rfl,.inr ⟨w0.heap.size,_,_,rfl,Qb _,heap_alloc_new w0.drew _,Qf _,grownCap_le_maxLen w0 _ _ _ (by simp only [maxLen];omega),?_,by simp⟩⟩,((Below.refl _ _).drew).alloc (Qb _) _⟩
  simp only [Array.size_append,List.size_toArray,size_zeroCells,hi5,List.length_nil,Nat.zero_add,Nat.mul_one] at hge ⊢
  omega
end Go.Proofs.YtpifljegadknkaaGreat
namespace Go.Proofs.YtpifljegadknkaaGreat
open Go.RowKit
structure Sl where (A:Option Addr) (c:Nat) (l:List Int)
def encS(s:Sl) : List Value:=[.slice s.A s.l.length s.c]
theorem Xbf:∀ x,(encS x).length=1:=fun _=>rfl
structure Rp where (pos:Int) (old new:List Gt)
theorem X5h{α β:Type}{f:α→List β}{l:List α}{k:Nat}{u:α}(h:l[k]? = some u) : (l.take (k+1)).flatMap f=(l.take k).flatMap f++f u:=by
 rw [Qt,h]
 simp
theorem X5j{α β:Type}(f:α→List β)(l:List α)(k:Nat) : ((l.take k).flatMap f).length≤(l.flatMap f).length:=by
 conv=>rhs;rw [← W9 k l]
 rw [List.flatMap_append,Qh]
 omega
theorem X9o{α β:Type}(f:α→List β){l:List α}{k:Nat}(h:l.length≤k) : (l.take k).flatMap f=l.flatMap f:=by rw [Qi h]
def unionI(p q:List Int) : List Int:=Lib.compact (sortI (p++(q++[])))
def qubI(g:Gt) : List Int:=if g.k=12 then [] else if inR g.k 9 11=true then [g.a,g.b] else [g.a]
def usedI(l:List Gt) : List Int:=unionI (l.flatMap qubI) []
def setAll:List Int→Nat→List Int→List Int
 | [],_,to=>to
 | q::l,i,to=>setAll l (i+1) (to.set q.toNat (i:Int))
def numbI(l:List Int) : List Int:=setAll l 0 [0,0,0,0,0]
def mapG(to:List Int)(g:Gt) : Gt:=⟨g.k,if g.k=12 then g.a else to.getD g.a.toNat 0,if inR g.k 9 11=true then to.getD g.b.toNat 0 else g.b⟩
def mapI(l:List Gt)(to:List Int) : List Gt:=l.map (mapG to)
theorem Xbg{l:List Int}{k:Nat}(h:k<l.length) : l[k]? = some (l.getD k 0):=by
 rw [Qa,Qc h];rfl
def vrI(n:Int)(r:Rp) : Bool:=inR n 1 5&&inR r.pos 0 400&&decide ((r.old.length:Int)≤40)&&decide ((r.new.length:Int)≤40)&&!(r.old.any fun x=>!gOk n x)&&!(r.new.any fun x=>!gOk n x)
def oA(A:Option Addr)(m:Nat) : Addr:=match A with
 | some p=>⟨p.block,m,none⟩
 | none=>⟨0,m,none⟩
theorem X30{l vs:List Value}{off:Nat}(h:off+vs.length≤l.length)(i:Nat) : (splice l off vs)[i]? = if i<off then l[i]? else if i<off+vs.length then vs[i-off]? else l[i]?:=by
 unfold splice
 have h1:(l.take off).length=off:=by rw [Qn];omega
 by_cases h2:i<off
 ·rw [Q4 h2,Qx,List.getElem?_append_left (by omega),Wg h2]
 ·rw [Q3 h2]
  by_cases h3:i<off+vs.length
  ·rw [Q4 h3,List.getElem?_append_left (by rw [Qh];omega),W5 (by omega),h1]
  ·rw [Q3 h3,W5 (by rw [Qh];omega),Qh,h1,List.getElem?_drop]
   congr 1
   omega
theorem X38{l vs:List Value}{off:Nat}(h:off+vs.length≤l.length) : (splice l off vs).length=l.length:=by
 unfold splice
 simp only [Qh,Qn,List.length_drop]
 omega
theorem Xcs{l x vs:List Value}{o j:Nat}(hx:∀ i,i<x.length→l[o+i]? = x[i]?)(h1:o+x.length≤l.length)(h2:j+vs.length≤x.length) : splice l (o+j) vs=splice l o (splice x j vs):=by
 have h3:=X38 h2
 apply List.ext_getElem?
 intro i
 rw [X30 (by omega),X30 (by omega),h3]
 by_cases a1:i<o
 ·rw [Q4 (by omega),Q4 a1]
 ·rw [Q3 a1]
  by_cases a2:i<o+x.length
  ·rw [Q4 a2,X30 h2]
   by_cases a3:i<o+j
   ·rw [Q4 a3,Q4 (show i-o<j by omega),← hx (i-o) (by omega)];congr 1;omega
   ·rw [Q3 a3,Q3 (show ¬ i-o<j by omega)]
    by_cases a4:i<o+j+vs.length
    ·rw [Q4 a4,Q4 (show i-o<j+vs.length by omega)];congr 1;omega
    ·rw [Q3 a4,Q3 (show ¬ i-o<j+vs.length by omega),← hx (i-o) (by omega)];congr 1;omega
  ·rw [Q3 a2,Q3 (by omega),Q3 (by omega)]
theorem Xcr{l vs:List Value}{off N:Nat}(h:off+vs.length≤N)(hN:N≤l.length) : (splice l off vs).take N=splice (l.take N) off vs:=by
 apply List.ext_getElem?
 intro i
 by_cases hi:i<N
 ·rw [Wg hi,X30 (by omega),X30 (by rw [Qn];omega),Wg hi]
 ·rw [List.getElem?_take_eq_none (by omega),List.getElem?_eq_none]
  rw [X38 (by rw [Qn];omega),Qn];omega
theorem Xds{α:Type}{enc:α→List Value}{sz:Nat}(hsz:∀ x,(enc x).length=sz) : ∀ (l:List α) (k i:Nat) (x:α),l[k]? = some x→i<sz→(l.flatMap enc)[k*sz+i]? = (enc x)[i]?
 | [],k,i,x,h,_=>by simp at h
 | y::l,0,i,x,h,hi=>by
  simp at h;subst h
  rw [Wc,Nat.zero_mul,Nat.zero_add,List.getElem?_append_left (by rw [hsz];exact hi)]
 | y::l,k+1,i,x,h,hi=>by
  have h':l[k]? = some x:=by simpa using h
  have e:(k+1)*sz+i=sz+(k*sz+i):=by rw [Wb];omega
  rw [Wc,e,W5 (by rw [hsz];omega),hsz,Nat.add_sub_cancel_left]
  exact Xds hsz l k i x h' hi
section
variable {P : Program} {a : Act} {w w' : World} {n : Nat} {e : Env} {ty : TypeId} {pos : String} {af : Array Edge} {g : Option (Nat × Bool)} {d : Option Tmp} {α : Type}
theorem Xcq{T E:TypeId}{sz B0 k m:Nat}{x y:Operand}{enc:α→List Value}{A:Option Addr}{c:Nat}{l:List α}{i:Int}(hf:Fr a n e)(hx:ev e x=some (.slice A m c))(hy:ev e y=some (.int .i64 i))(hT:SliceT P T E)(hs:SizeT P E sz)
  (ho:Own w' B0 E sz enc A c l) (hm:m=l.length) (hi:i=(k:Int)) (hk:k<l.length) : Ev P ⟨d,.indexAddr T x y,ty,pos,af,g⟩ a w (.pointer (some (oA A (k*sz)))):=by
 subst hm
 rcases ho.2 with ⟨h1,h2⟩|⟨b,cap,cur,h1,h2,h3,h4⟩
 ·omega
 ·injection h1 with h1
  rw [h1] at hx ⊢
  exact X9k (b:=b) (off:=k*sz) hf hx hy hT hs hi hk rfl
theorem Xi{T E:TypeId}{sz B0 k m:Nat}{x y:Operand}{enc:α→List Value}{A:Option Addr}{c:Nat}{l:List α}{i:Int}(hx:ev e x=some (.slice A m c))(hy:ev e y=some (.int .i64 i))(hT:SliceT P T E)(hs:SizeT P E sz)(ho:Own w' B0 E sz enc A c l)(hm:m=l.length)(hi:i=(k:Int))(hk:k<l.length) : EvW P ⟨d,.indexAddr T x y,ty,pos,af,g⟩ n e w (.pointer (some (oA A (k*sz)))):=fun a hf=>Xcq hf hx hy hT hs ho hm hi hk
theorem Xcb{T f k m:Nat}{x:Operand}{A:Option Addr}(hf:Fr a n e)(hx:ev e x=some (.pointer (some (oA A m))))(hF:FieldT P T f k){m':Nat}(hm:m+k=m') : Ev P ⟨d,.fieldAddr T x f,ty,pos,af,g⟩ a w (.pointer (some (oA A m'))):=by
 subst hm
 have h:=X88 (P:=P) (w:=w) (d:=d) (ty:=ty) (pos:=pos) (af:=af) (g:=g) hf hx hF
 have e:(oA A m).add k=oA A (m+k):=by cases A<;>simp [oA,Addr.add]
 rw [e] at h
 exact h
theorem X15{T f k m:Nat}{x:Operand}{A:Option Addr}(hx:ev e x=some (.pointer (some (oA A m))))(hF:FieldT P T f k){m':Nat}(hm:m+k=m') : EvW P ⟨d,.fieldAddr T x f,ty,pos,af,g⟩ n e w (.pointer (some (oA A m'))):=fun a hf=>Xcb hf hx hF hm
theorem Xbh{t E:TypeId}{sz B0 k j m n1:Nat}{x y:Operand}{enc:α→List Value}{A:Option Addr}{c:Nat}{l:List α}{v:Value}{vs:List Value}{x0 u:α}(hf:Fr a n e)(hx:ev e x=some (.pointer (some (oA A m))))(hy:ev e y=some v)(hs:SizeT P t n1)
  (ho:Own w B0 E sz enc A c l) (hsz:∀ x,(enc x).length=sz) (hv:v.cells.toList=vs) (hn:Nat.beq vs.length n1=true) (h1:vs.all one=true) (hm:k*sz+j=m) (hj:j+n1≤sz) (hk:l[k]? = some x0) (hu:splice (enc x0) j vs=enc u) :
  Ef P ⟨d,.store t x y,ty,pos,af,g⟩ a w (fun _ w'=>Own w' B0 E sz enc A c (l.set k u)∧w.grownBy w' (Value.slice A l.length c).ownBlock):=by
 have hkl:k<l.length:=(Qg.1 hk).1
 rcases ho.2 with ⟨e1,e2⟩|⟨b,cap,cur,e1,e2,e3,e4,e5,e6,e7⟩
 ·omega
 ·injection e1 with e1 _ e1'
  subst hm;subst e1'
  have hcl:cur.toList.length=c*sz:=Array.length_toList.trans e6
  have hN:l.length*sz≤cur.toList.length:=by rw [hcl];exact Nat.mul_le_mul_right _ e4
  have hks:k*sz+sz≤l.length*sz:=by
   have:=Nat.mul_le_mul_right sz (show k+1≤l.length by omega)
   rwa [Wb,Nat.one_mul] at this
  have hn':vs.length=n1:=Nat.eq_of_beq_eq_true hn
  rw [e1] at hx
  have hb:Blk w b E cur.toList:=by unfold Blk;rw [e3]
  refine (X7x (b:=b) (off:=k*sz+j) (vs:=vs) hf hx hy hs hb hv hn h1 (by rw [Nat.ble_eq];omega) rfl).mono fun _ w' ⟨hO,hB⟩=>?_
  have hlen:((l.set k u).flatMap enc).length=(l.set k u).length*sz:=Xo hsz _
  refine ⟨⟨hlen,.inr ⟨b,c,_,by rw [e1],e2,hB,by simp;omega,e5,?_,?_⟩⟩,?_⟩
  ·rw [List.size_toArray,X38 (by omega),hcl]
  ·simp only [List.length_set]
   rw [Xcr (by omega) hN,e7,Xcs (x:=enc x0) (fun i hi=>?_) (by rw [Xo hsz,hsz];omega) (by rw [hsz];omega),hu]
   ·exact X52 hsz l k u hkl
   ·exact Xds hsz l k i x0 hk (by rw [← hsz x0];exact hi)
  ·rw [e1]
   exact ⟨hO.os,hO.tape,hO.output,by rw [hO.size];exact Qb _,fun q _ hne=>hO.block q fun e=>hne (by rw [e];rfl)⟩
theorem X0h{t E:TypeId}{sz B0 k j m n1:Nat}{x y:Operand}{enc:α→List Value}{A:Option Addr}{c:Nat}{l:List α}{v:Value}{vs:List Value}{x0 u:α}(hx:ev e x=some (.pointer (some (oA A m))))(hy:ev e y=some v)(hs:SizeT P t n1)(ho:Own w B0 E sz enc A c l)(hsz:∀ x,(enc x).length=sz)(hv:v.cells.toList=vs)(hn:Nat.beq vs.length n1=true)(h1:vs.all one=true)(hm:k*sz+j=m)(hj:j+n1≤sz)(hk:l[k]? = some x0)(hu:splice (enc x0) j vs=enc u) : EfW P ⟨d,.store t x y,ty,pos,af,g⟩ n e w (fun _ w'=>Own w' B0 E sz enc A c (l.set k u)∧w.grownBy w' (Value.slice A l.length c).ownBlock):=fun a hf=>Xbh hf hx hy hs ho hsz hv hn h1 hm hj hk hu
end
section
variable {P : Program} {ops : Array Oper} {a : Act} {w : World} {n d : Nat} {e : Env} {ty : TypeId} {pos : String} {af : Array Edge} {g : Option (Nat × Bool)} {α : Type}
end
def Apart(A A':Option Addr) : Prop:=∀ p q,A=some p→A'=some q→p.block≠q.block
section
variable {α β : Type} {w w' : World} {B B0 B1 : Nat} {E E' : TypeId} {sz sz' : Nat} {enc : α → List Value} {enc' : β → List Value} {A A' : Option Addr} {c c' : Nat} {l : List α} {l' : List β}
theorem Own.apart(h:Own w B E sz enc A c l)(h':Own w' B0 E' sz' enc' A' c' l')(hB:w.heap.size≤B0) : Apart A A':=fun p q hp hq=>by
 rcases h.2 with ⟨h1,_⟩|⟨g,cap,cur,h1,h2,h3,_⟩
 ·injection h1 with h1;rw [h1] at hp;cases hp
 ·rcases h'.2 with ⟨k1,_⟩|⟨g',cap',cur',k1,k2,k3,_⟩
  ·injection k1 with k1;rw [k1] at hq;cases hq
  ·injection h1 with h1
   injection k1 with k1
   rw [h1] at hp
   rw [k1] at hq
   injection hp with hp
   injection hq with hq
   subst hp;subst hq
   have:=(Qp.1 h3).1
   intro e
   simp only at e
   omega
theorem Own.appP(h:Own w B1 E' sz' enc' A' c' l')(hg:w.grownBy w' (Value.slice A l.length c).ownBlock)(ha:Apart A' A) : Own w' B1 E' sz' enc' A' c' l':=by
 refine ⟨h.1,?_⟩
 rcases h.2 with h1|⟨g,cap,cur,h1,h2,h3,h4⟩
 ·exact .inl h1
 ·refine .inr ⟨g,cap,cur,h1,h2,(hg.block g (Qp.1 h3).1 fun hk=>?_).trans h3,h4⟩
  injection h1 with h1
  cases A with
  | none=>simp [Value.ownBlock] at hk
  | some q=>
   simp only [Value.ownBlock,Option.some.injEq] at hk
   exact ha _ q h1 rfl hk
theorem gbel{r:Option Nat}{w0 w w':World}(h:w0.grownBy w r)(hE:Below w.heap.size w w') : w0.grownBy w' r:=
 ⟨hE.os.trans h.os,hE.tape.trans h.tape,hE.output.trans h.output,Q0 h.size hE.size,fun k hk hn=>(hE.block k (Nat.lt_of_lt_of_le hk h.size)).trans (h.block k hk hn)⟩
theorem X7c(A:Option Addr)(n m c d:Nat) : (Value.slice A n c).ownBlock=(Value.slice A m d).ownBlock:=by cases A<;>rfl
theorem gtr{A:Option Addr}{n m c d:Nat}{w0 w w':World}(h:w0.grownBy w (Value.slice A n c).ownBlock)(k:w.grownBy w' (Value.slice A m d).ownBlock) : w0.grownBy w' (Value.slice A n c).ownBlock:=
 ⟨k.os.trans h.os,k.tape.trans h.tape,k.output.trans h.output,Q0 h.size k.size,fun q hq hn=>(k.block q (Nat.lt_of_lt_of_le hq h.size) (by rw [X7c A m n d c];exact hn)).trans (h.block q hq hn)⟩
theorem gonly{r:Option Nat}{b:Nat}{w0 w w':World}(h:w0.grownBy w r)(ho:Only b w w')(hb:w0.heap.size≤b) : w0.grownBy w' r:=
 ⟨ho.os.trans h.os,ho.tape.trans h.tape,ho.output.trans h.output,by rw [ho.size];exact h.size,fun k hk hn=>(ho.block k (by omega)).trans (h.block k hk hn)⟩
theorem Own.len{m:Nat}(h:Own w B E sz enc A c l)(hm:m=l.length) : Own w B E sz enc A c l∧Value.slice A m c=Value.slice A l.length c:=⟨h,by rw [hm]⟩
theorem Apart.symm(h:Apart A A') : Apart A' A:=fun p q hp hq e=>h q p hq hp e.symm
end
def DeepI(w:World)(B:Nat)(l:List Sl) : Prop:=∀ s ∈ l,Rd w B 3 encI s.A s.l
section
variable {w w' : World} {B : Nat} {l : List Sl}
theorem DeepI.below(h:DeepI w B l)(hb:Below w.heap.size w w') : DeepI w' B l:=fun s hs=>(h s hs).below hb
theorem DeepI.top(h:DeepI w B l) : DeepI w w.heap.size l:=fun s hs=>(h s hs).top
theorem DeepI.only{b:Nat}(h:DeepI w B l)(ho:Only b w w')(hB:B≤b) : DeepI w' B l:=fun s hs=>(h s hs).only ho hB
theorem DeepI.onlyT{b:Nat}{T:TypeId}{lc:List Value}(h:DeepI w B l)(ho:Only b w w')(hb:Blk w b T lc)(hT:Nat.beq 3 T=false) : DeepI w' B l:=fun s hs=>(h s hs).onlyT ho hb hT
theorem DeepI.appB{B0:Nat}{E':TypeId}{sz:Nat}{α:Type}{enc:α→List Value}{A:Option Addr}{c:Nat}{m:List α}(h:DeepI w B l)(ho:Own w B0 E' sz enc A c m)(hg:w.grownBy w' (Value.slice A m.length c).ownBlock)(hB:B≤B0) : DeepI w' B l:=fun s hs=>(h s hs).appB ho hg hB
theorem DeepI.appT{B0:Nat}{E':TypeId}{sz:Nat}{α:Type}{enc:α→List Value}{A:Option Addr}{c:Nat}{m:List α}(h:DeepI w B l)(ho:Own w B0 E' sz enc A c m)(hg:w.grownBy w' (Value.slice A m.length c).ownBlock)(hT:Nat.beq E' 3=false) : DeepI w' B l:=fun s hs=>(h s hs).appT ho hg hT
theorem DeepI.nil(w:World)(B:Nat) : DeepI w B []:=fun s hs=>by cases hs
theorem DeepI.snoc{s:Sl}(h:DeepI w B l)(hr:Rd w B 3 encI s.A s.l) : DeepI w B (l++[s]):=fun t ht=>by
 rcases Qu.1 ht with h1|h1
 ·exact h t h1
 ·rw [Qm] at h1;subst h1;exact hr
theorem DeepI.eq{l':List Sl}(h:DeepI w B l)(e:l'=l) : DeepI w B l':=by rw [e];exact h
end
def LowI(B:Nat)(l:List Sl) : Prop:=∀ s ∈ l,∀ p,s.A=some p→B≤p.block
def Und(A:Option Addr)(B:Nat) : Prop:=∀ p,A=some p→p.block<B
theorem LowI.nil(B:Nat) : LowI B []:=fun s hs=>by cases hs
theorem LowI.snoc{B:Nat}{l:List Sl}{s:Sl}(h:LowI B l)(hs:∀ p,s.A=some p→B≤p.block) : LowI B (l++[s]):=fun t ht=>by
 rcases Qu.1 ht with h1|h1
 ·exact h t h1
 ·rw [Qm] at h1;subst h1;exact hs
section
variable {α : Type} {w w' : World} {B B1 : Nat} {E : TypeId} {sz : Nat} {enc : α → List Value} {A : Option Addr} {c : Nat} {l : List α} {m : List Sl}
end
theorem Apart.app{α:Type}{w:World}{B:Nat}{E:TypeId}{sz:Nat}{enc:α→List Value}{A A1 A2:Option Addr}{c:Nat}{l:List α}(h:Own w B E sz enc A c l)(ha:Apart A A1)(hat:∀ b,b<w.heap.size→Away A1 b→Away A2 b) : Apart A A2:=by
 intro p q hp hq
 rcases h.2 with ⟨h1,_⟩|⟨g,cap,cur,h1,_,h3,_⟩
 ·injection h1 with h1;rw [h1] at hp;cases hp
 ·injection h1 with h1
  rw [h1] at hp
  injection hp with hp
  have hlt:p.block<w.heap.size:=by rw [← hp];exact (Qp.1 h3).1
  have haw:Away A1 p.block:=fun r hr e=>ha p r (by rw [h1,hp]) hr e.symm
  exact fun e=>hat _ hlt haw q hq e.symm
theorem Xc2{α:Type}{P:Program}{a:Act}{w:World}{n:Nat}{e:Env}{ty:TypeId}{pos:String}{af:Array Edge}{g:Option (Nat×Bool)}{d:Option Tmp}{T E:TypeId}{sz bytes B b0:Nat}{x y:Operand}{enc:α→List Value}{A2:Option Addr}{c2:Nat}{l2:List α}(hf:Fr a n e)(hx:ev e x=some (.slice (some ⟨b0,0,none⟩) 0 0))(hy:ev e y=some (.slice A2 l2.length c2))
  (hT:SliceT P T E) (hi:InfoT P E sz bytes) (hsz:∀ x,(enc x).length=sz) (hone:∀ x,(enc x).all one=true) (hb:Blk w b0 E []) (hr:Rd w B E enc A2 l2) (h63:l2.length≤maxLen) (hbytes:l2.length*bytes≤140737488355328) :
  Ef P ⟨d,.call ⟨.builtin .append,#[x,y],#[T,T]⟩,ty,pos,af,g⟩ a w (fun v w'=>∃ A' c',v=.slice A' l2.length c'∧Own w' b0 E sz enc A' c' l2∧Below w.heap.size w w'∧∀ b,b<w.heap.size→b≠b0→Away A' b):=by
 by_cases hl2:l2=[]
 ·subst hl2
  obtain ⟨i,z,hi1,hi2,hi3,hi4,hi5,hi6⟩:=hi
  have hrun:(Builtin.append_ #[T,T] ty #[.slice (some ⟨b0,0,none⟩) 0 0,.slice A2 0 c2]).run P w=.ok (.slice (some ⟨b0,0,none⟩) 0 0) w:=by
   cases A2<;>simp [Builtin.append_,X0x hT,sizeOf,typeInfo,hi1,Builtin.lenOf,Builtin.firstCells,loadCells,loadCellsFrom,storeCells]
  refine (Ef.of_run (v:=.slice (some ⟨b0,0,none⟩) 0 0) (w':=w) ?_).mono fun v w' ⟨e1,e2⟩=>?_
  ·simp only [List.length_nil] at hy
   simp [execOp,resolve,invoke,builtin,hf.ev hx,hf.ev hy,hrun]
  ·subst e1;subst e2
   exact ⟨_,_,rfl,Own.empty hb (Qb _),Below.refl _ _,fun b _ hne=>Away.ne hne⟩
 ·have hown:Own w b0 E sz enc (some ⟨b0,0,none⟩) 0 ([] : List α):=Own.empty hb (Qb _)
  obtain ⟨i,z,hi1,hi2,rfl,rfl,hi5,hi6⟩:=hi;obtain ⟨b,off,cs,fz,rfl,h2,h3,h4⟩:=hr hl2;have hlen2:=Xo hsz l2
  have hpos:0<l2.length:=List.length_pos_iff.2 hl2
  have h:=run_append_grow (P:=P) w T ty E i z hT hi1 hi2 ⟨b0,0,none⟩ 0 0 [] (by simp) (fun j u hu=>by simp at hu)
   ⟨b,off,none⟩ l2.length c2 (l2.flatMap enc) hlen2 (fun j u hu=>by
    have:=h4 j u hu
    rw [X1k]
    simp [World.cell?,h3,this])
   (by omega) (by simp only [maxLen] at h63;omega) (growslice_fits (by omega) (by simpa using hbytes))
  simp only [Nat.zero_add] at h
  refine (Ef.of_run (w':=w.drew.alloc (.cells (([] : List Value).toArray++(l2.flatMap enc).toArray++Builtin.zeroCells z.cells (grownCap w l2.length 0 E-l2.length)) E)) (v:=.slice (some ⟨w.heap.size,0,none⟩) l2.length (grownCap w l2.length 0 E)) ?_).mono fun v w' ⟨e1,e2⟩=>?_
  ·simp [execOp,resolve,invoke,builtin,hf.ev hx,hf.ev hy,h]
  ·subst e1;subst e2
   have hb0:=hb.lt;have hge:=grownCap_ge w l2.length 0 E
   refine ⟨_,_,rfl,?_,((Below.refl _ _).drew).alloc (Qb _) _,fun b hb _=>Away.ne (by omega)⟩
   refine ⟨Xo hsz _,.inr ⟨w.heap.size,_,_,rfl,by omega,heap_alloc_new w.drew _,hge,grownCap_le_maxLen w _ _ E h63,?_,?_⟩⟩
   ·simp only [Array.size_append,List.size_toArray,size_zeroCells,hi5,hlen2,List.length_nil,Nat.zero_add,← Wb]
    congr 1
    omega
   ·rw [← hlen2]
    simp only [Array.toList_append,Qx,List.nil_append]
    exact List.take_left
theorem X3g{α:Type}{P:Program}{w:World}{n:Nat}{e:Env}{ty:TypeId}{pos:String}{af:Array Edge}{g:Option (Nat×Bool)}{d:Option Tmp}{T E:TypeId}{sz bytes B b0:Nat}{x y:Operand}{enc:α→List Value}{A2:Option Addr}{c2:Nat}{l2:List α}(hx:ev e x=some (.slice (some ⟨b0,0,none⟩) 0 0))(hy:ev e y=some (.slice A2 l2.length c2))(hT:SliceT P T E)(hi:InfoT P E sz bytes)(hsz:∀ x,(enc x).length=sz)(hone:∀ x,(enc x).all one=true)(hb:Blk w b0 E [])(hr:Rd w B E enc A2 l2)(h63:l2.length≤maxLen)(hbytes:l2.length*bytes≤140737488355328) : EfW P ⟨d,.call ⟨.builtin .append,#[x,y],#[T,T]⟩,ty,pos,af,g⟩ n e w (fun v w'=>∃ A' c',v=.slice A' l2.length c'∧Own w' b0 E sz enc A' c' l2∧Below w.heap.size w w'∧∀ b,b<w.heap.size→b≠b0→Away A' b):=fun a hf=>Xc2 hf hx hy hT hi hsz hone hb hr h63 hbytes
section
variable {P : Program} {ops : Array Oper} {V : Option Vk} {tl : Nat → Bool} {Q : Act → World → Prop} {fuel : Nat} {done : List Nat} {w : World} {o : Oper} {op : Op} {ty : TypeId} {pos : String} {af : Array Edge} {g : Option (Nat × Bool)} {n d : Nat} {e : Env} {v : Value} {R : Value → World → Prop} {x : Operand}
end
theorem Apart.nr(A:Option Addr) : Apart A none:=fun _ _ _ h=>by cases h
def markI(k:Int)(n:Nat) : List Int:=(List.range n).map fun (j:Nat)=>k+(j:Int)
def markG(k:Int)(n:Nat) : List Gt:=(List.range n).map fun (j:Nat)=>⟨k+3*(j:Int),k+3*(j:Int)+1,k+3*(j:Int)+2⟩
def heldI:List Int→Int→Int
 | [],k=>k
 | x::l,k=>if x=k then heldI l (k+1) else -1
def heldG:List Gt→Int→Int
 | [],k=>k
 | x::l,k=>if x.k=k∧x.a=k+1∧x.b=k+2 then heldG l (k+3) else -1
def Agree(o:Option Dy)(p:Bool×Dy) : Prop:=(∀ z,o=some z→p=(false,z)∧dOk z=true)∧(o=none→p.1=true)
def dotS(f:Bool)(a b:Mx)(i j:Nat) : Nat→Bool×Dy
 | 0=>(f,dZ)
 | n+1=>if (dotS f a b i j n).1=true then dotS f a b i j n else
   sAdd (sMul false (a.at i n) (b.at n j)).1 (dotS f a b i j n).2 (sMul false (a.at i n) (b.at n j)).2
def AllOk(m:Mx) : Prop:=∀ x ∈ m.cells,dOk x=true
def timesL(f:Bool)(a b:Mx) : Nat→Bool×List Dy
 | 0=>(f,[])
 | n+1=>((dotS (timesL f a b n).1 a b (n/b.cols.toNat) (n % b.cols.toNat) a.cols.toNat).1,(timesL f a b n).2++[(dotS (timesL f a b n).1 a b (n/b.cols.toNat) (n % b.cols.toNat) a.cols.toNat).2])
def timesS(f:Bool)(a b:Mx) : Bool×Mx:=((timesL f a b (a.rows.toNat*b.cols.toNat)).1,⟨a.rows,b.cols,(timesL f a b (a.rows.toNat*b.cols.toNat)).2⟩)
def unitS(d:Nat) : Mx:=⟨(d:Int),(d:Int),gridL (fun i j=>if i=j then dPow 0 else dZ) d (d*d)⟩
def bitT(p s:Nat) : Int:=bits .and .i64 ((s:Int)/2^p) 1
def flipT(p s:Nat) : Int:=bits .xor .i64 (s:Int) (wr (1*2^p))
def chkBits:Bool:=(List.range 5).all fun p=>(List.range 32).all fun s=>
 let f:=flipT p s
 Nat.blt f.toNat 32&&f==(f.toNat:Int)&&flipT p f.toNat==(s:Int)&&(bitT p f.toNat==1-bitT p s)&&(bitT p s==0||bitT p s==1) &&
 (List.range 5).all (fun q=>(q==p)||bitT q f.toNat==bitT q s) &&
 (List.range 5).all (fun q=>let g:=flipT q s;flipT p g.toNat==flipT q f.toNat) &&
 (List.range 32).all fun t=>(((t:Int)==s||f==(t:Int))==(bits .andNot .i64 (bits .xor .i64 (s:Int) (t:Int)) (wr (1*2^p))==0))
def chkSmall:Bool:=(List.range 6).all fun n=>(List.range n).all fun q=>(List.range (2^n)).all fun s=>Nat.blt (flipT (n-1-q) s).toNat (2^n)
structure BitsOk (p s:Nat) : Prop where
 nat:flipT p s=((flipT p s).toNat:Int)
 lt:(flipT p s).toNat<32
 back:flipT p (flipT p s).toNat=(s:Int)
 bit:bitT p (flipT p s).toNat=1-bitT p s
 other:∀ q<5,q≠p→bitT q (flipT p s).toNat=bitT q s
 comm:∀ q<5,flipT p (flipT q s).toNat=flipT q (flipT p s).toNat
 sel:∀ t:Nat,t<32→(((t:Int)=s∨flipT p s=(t:Int))↔bits .andNot .i64 (bits .xor .i64 (s:Int) (t:Int)) (wr (1*2^p))=0)
def applI(n:Int) : List Gt→Mx→Option Mx
 | [],m=>some m
 | g::l,m=>(mulI ((gateI n g).getD mZ) m).bind (applI n l)
def runS(n:Int)(f:Bool) : List Gt→Mx→Bool×Mx
 | [],m=>(f,m)
 | g::l,m=>if f=true then (f,m) else runS n (timesS false (gateS n g) m).1 l (timesS false (gateS n g) m).2
def opI(c:Cx) : Option Mx:=if cOk c=true then (idI ((2^c.n.toNat:Nat) : Int)).bind (applI c.n c.gs) else none
def opS(c:Cx) : Option Mx:=if cOk c=true then (if (runS c.n false c.gs (unitS (2^c.n.toNat))).1=true then none else some (runS c.n false c.gs (unitS (2^c.n.toNat))).2) else none
theorem X7t{c:Cx}(h:cOk c=true) : (1≤c.n∧c.n≤5)∧c.gs.length≤400∧∀ g ∈ c.gs,gOk c.n g=true:=by
 simp only [cOk,Qd,X0f,Qr,Bool.not_eq_true',W7] at h
 exact ⟨h.1.1,by omega,fun g hg=>by simpa using h.2 g hg⟩
def sameI(a b:Cx) : Bool×Bool:=
 if ((opI a).isSome&&(opI b).isSome&&a.n==b.n)=true then
  (mOk ((opI a).getD mZ)&&mOk ((opI b).getD mZ)&&eqPh ((opI a).getD mZ) ((opI b).getD mZ),mOk ((opI a).getD mZ)&&mOk ((opI b).getD mZ)) else (false,false)
def sameS(a b:Cx) : Bool×Bool:=
 if ((opS a).isSome&&(opS b).isSome&&a.n==b.n)=true then (phaseS ((opS a).getD mZ) ((opS b).getD mZ),true) else (false,false)
def unitP(d i:Nat) : List Dy:=(List.range (d*d)).map fun m=>if m/d=m % d∧m/d<i then dPow 0 else dZ
theorem X9l{l:List Int}{k:Nat}(h:decide ((k:Int)<(l.length:Int))=true) : l[k]? = some (l.getD k 0):=Xbg (by simpa using h)
def putI:List Int→Int→List Int
 | [],n=>[n]
 | x::l,n=>if x<n then x::putI l n else if x=n then x::l else n::x::l
theorem Xed:∀ (l:List Int) (n:Int),(putI l n).length≤l.length+1
 | [],n=>by simp [putI]
 | x::l,n=>by
  unfold putI
  split
  ·have:=Xed l n;simp only [Qs];omega
  ·split<;>simp
theorem Xiq:∀ (l:List Int) (n:Int) (k:Nat),(l.take k).all (fun x=>decide (x<n))=true→k≤l.length→(k<l.length→¬ l.getD k 0<n)→
  (k<l.length∧l.getD k 0=n→putI l n=l)∧(¬ (k<l.length∧l.getD k 0=n)→putI l n=l.take k++[n]++l.drop k)
 | [],n,k,_,hk,_=>by
  have:k=0:=by simpa using hk
  subst this
  exact ⟨fun h=>by simp at h,fun _=>rfl⟩
 | x::l,n,0,_,_,h=>by
  have h:=h (by simp)
  simp only [List.getD_cons_zero] at h
  refine ⟨fun h1=>?_,fun h1=>?_⟩
  ·have h2:=h1.2
   simp only [List.getD_cons_zero] at h2
   rw [putI,Q3 h,Q4 h2]
  ·have h2:¬ x=n:=fun e=>h1 ⟨by simp,by simpa using e⟩
   rw [putI,Q3 h,Q3 h2]
   rfl
 | x::l,n,k+1,ha,hk,h=>by
  simp only [List.take_succ_cons,List.all_cons,Qd,Qr] at ha
  have ih:=Xiq l n k ha.2 (by simpa using hk) (fun h1=>by have:=h (by simpa using h1);simpa using this)
  simp only [Qs,Nat.add_lt_add_iff_right,List.getD_cons_succ,List.take_succ_cons,List.drop_succ_cons,Wa] at *
  rw [putI,Q4 ha.1]
  exact ⟨fun h1=>by rw [ih.1 h1],fun h1=>by rw [ih.2 h1]⟩
def usedStep(m:List Int)(g:Gt) : List Int:=if g.k=12 then m else if inR g.k 9 11=true then putI (putI m g.a) g.b else putI m g.a
def usedS(l:List Gt) : List Int:=l.foldl usedStep []
theorem X2w{α β:Type}{f:β→α→β}{b:β}{l:List α}{k:Nat}{u:α}(h:l[k]? = some u) : (l.take (k+1)).foldl f b=f ((l.take k).foldl f b) u:=by
 rw [Qt,h]
 simp
def lastN(l:List Int)(q:Int) : Nat→Int
 | 0=>0
 | k+1=>if l.getD k 0=q then (k:Int) else lastN l q k
section
variable {us : List Int} {j : Nat} {v q x k : Int}
end
def smallG(used:List Int)(g:Gt) : Gt:=⟨g.k,if g.k=12 then 0 else lastN used g.a used.length,if inR g.k 9 11=true then lastN used g.b used.length else 0⟩
def validS(n:Int)(r:Rp) : Bool:=inR n 1 5&&inR r.pos 0 400&&(!(r.old.any fun x=>!gOk n x)&&decide ((r.old.length:Int)≤40))&&(!(r.new.any fun x=>!gOk n x)&&decide ((r.new.length:Int)≤40))
theorem Xk2(n:Int)(r:Rp) : validS n r=vrI n r:=by
 unfold validS vrI
 cases inR n 1 5<;>cases inR r.pos 0 400<;>cases (r.old.any fun x=>!gOk n x)<;>cases (r.new.any fun x=>!gOk n x)<;>cases decide ((r.old.length:Int)≤40)<;>cases decide ((r.new.length:Int)≤40)<;>rfl
abbrev Inc(l:List Int) : Prop:=l.Pairwise (· < ·)
theorem X9y:∀ (l m:List Int),Inc l→Inc m→(∀ x,x ∈ l↔x ∈ m)→l=m
 | [],[],_,_,_=>rfl
 | [],y::m,_,_,h=>by have:=(h y).2 (by simp);cases this
 | x::l,[],_,_,h=>by have:=(h x).1 (by simp);cases this
 | x::l,y::m,hl,hm,h=>by
  have hl':=W8.1 hl
  have hm':=W8.1 hm
  have hxy:x=y:=by
   have h1:=(h x).1 (by simp)
   have h2:=(h y).2 (by simp)
   rcases Qv.1 h1 with h1|h1
   ·exact h1
   ·rcases Qv.1 h2 with h2|h2
    ·exact h2.symm
    ·have h3:=hm'.1 x h1;have h4:=hl'.1 y h2
     omega
  subst hxy
  congr 1
  refine X9y l m hl'.2 hm'.2 fun z=>?_
  constructor
  ·intro hz
   rcases Qv.1 ((h z).1 (Ql _ hz)) with h1|h1
   ·have:=hl'.1 z hz;omega
   ·exact h1
  ·intro hz
   rcases Qv.1 ((h z).2 (Ql _ hz)) with h1|h1
   ·have:=hm'.1 z hz;omega
   ·exact h1
theorem Xai:∀ (l:List Int) (n x:Int),x ∈ putI l n↔x ∈ l∨x=n
 | [],n,x=>by simp [putI]
 | y::l,n,x=>by
  unfold putI
  split
  ·rw [Qv,Xai l n x,Qv,or_assoc]
  ·split
   ·rename_i h;subst h;simp only [Qv];constructor
    ·exact .inl
    ·rintro (h|h)
     ·exact h
     ·exact .inl h
   ·simp only [Qv];constructor
    ·rintro (h|h|h)
     ·exact .inr h
     ·exact .inl (.inl h)
     ·exact .inl (.inr h)
    ·rintro ((h|h)|h)
     ·exact .inr (.inl h)
     ·exact .inr (.inr h)
     ·exact .inl h
theorem Xg1:∀ (l:List Int) (n:Int),Inc l→Inc (putI l n)
 | [],n,_=>by simp [putI]
 | y::l,n,h=>by
  have h':=W8.1 h
  unfold putI
  split
  ·rename_i h1
   refine W8.2 ⟨fun z hz=>?_,Xg1 l n h'.2⟩
   rcases (Xai l n z).1 hz with h2|h2
   ·exact h'.1 z h2
   ·omega
  ·split
   ·exact h
   ·rename_i h1 h2
    refine W8.2 ⟨fun z hz=>?_,h⟩
    rcases Qv.1 hz with h3|h3
    ·omega
    ·have:=h'.1 z h3;omega
theorem Xgy(l:List Int)(x:Int) : x ∈ sortI l↔x ∈ l:=List.mem_mergeSort
theorem Xaf(l:List Int) : (sortI l).Pairwise (·≤·):=by
 have:=List.pairwise_mergeSort (le:=fun x y:Int=>decide (x≤y)) (fun a b c h1 h2=>by simp only [Qr] at *;omega) (fun a b=>by simp only [Bool.or_eq_true,Qr];omega) l
 exact this.imp fun h=>by simpa using h
theorem X8i{l:List Int}(h:l.Pairwise (·≤·)){i j:Nat}(hij:i≤j)(hj:j<l.length) : l[i]'(by omega)≤l[j]:=by
 rcases W4 i j with h1|h1
 ·exact W0.1 h i j (by omega) hj h1
 ·obtain rfl:i=j:=by omega
  exact Int.le_refl _
theorem X57{l:List Int}{j:Nat}(hj:j<l.length) : l.toArray[j]! = l[j]:=by
 rw [getElem!_pos l.toArray j (by simpa using hj)]
 simp
theorem X9g{l:List Int}{j:Nat}(hj:j<l.length) : Lib.keeps l.toArray j=true↔j=0∨l[j]≠l[j-1]:=by
 unfold Lib.keeps
 rw [Qr,X57 hj,X57 (show j-1<l.length by omega)]
theorem Xbr(l:List Int)(x:Int) : x ∈ Lib.compact l↔x ∈ l:=by
 unfold Lib.compact Lib.compactUpTo
 rw [W6]
 constructor
 ·rintro ⟨j,hj,rfl⟩
  have hj':=W2.1 (List.mem_filter.1 hj).1
  rw [X57 hj']
  exact List.getElem_mem _
 ·intro hx;obtain ⟨j,hj,hjx⟩:=List.mem_iff_getElem.1 hx
  have key:∀ n j,j≤n→(hj:j<l.length)→l[j]=x→∃ k,∃ hk:k<l.length,l[k]=x∧(k=0∨l[k]≠l[k-1]):=by
   intro n
   induction n with
   | zero=>
    intro j h0 hj hx;obtain rfl:j=0:=by omega
    exact ⟨0,hj,hx,.inl rfl⟩
   | succ n ih=>
    intro j h0 hj hx
    by_cases h:j=0∨l[j]≠l[j-1]
    ·exact ⟨j,hj,hx,h⟩
    ·have h1:¬ j=0:=fun e=>h (.inl e)
     have h2:l[j]=l[j-1]:=Classical.byContradiction fun e=>h (.inr e)
     exact ih (j-1) (by omega) (by omega) (by rw [← h2];exact hx)
  obtain ⟨k,hk,h1,h2⟩:=key j j (Qb _) hj hjx;exact ⟨k,List.mem_filter.2 ⟨W2.2 hk,(X9g hk).2 h2⟩,by rw [X57 hk];exact h1⟩
theorem Xbk{l:List Int}(h:l.Pairwise (·≤·)) : Inc (Lib.compact l):=by
 unfold Lib.compact Lib.compactUpTo
 rw [Inc,List.pairwise_map]
 refine List.Pairwise.imp_of_mem (R:=(· < ·)) (fun {i j} hi hj hij=>?_) (List.Pairwise.filter _ List.pairwise_lt_range)
 have hi':=W2.1 (List.mem_filter.1 hi).1
 have hj':=W2.1 (List.mem_filter.1 hj).1
 have hk:=(X9g hj').1 (List.mem_filter.1 hj).2
 rw [X57 hi',X57 hj']
 have h1:=X8i h (show i≤j-1 by omega) (by omega)
 have h2:=X8i h (show j-1≤j by omega) hj'
 have h3:l[j]≠l[j-1]:=hk.resolve_left (by omega)
 omega
theorem Xge(p q:List Int)(x:Int) : x ∈ unionI p q↔x ∈ p∨x ∈ q:=by
 unfold unionI
 rw [Xbr,Xgy]
 simp
theorem Xgo(p q:List Int) : Inc (unionI p q):=Xbk (Xaf _)
structure GoodG (us:List Int) (n:Int) (g:Gt) : Prop where
 ok:gOk n g=true
 use:∀ x ∈ qubI g,x ∈ us
def smallC(l:List Gt)(us:List Int) : Cx:=⟨max 1 (us.length:Int),l.map (smallG us)⟩
def mapC(l:List Gt)(us:List Int) : Cx:=⟨max (us.length:Int) 1,mapI l (numbI us)⟩
def justS(r:Rp) : Bool×Bool:=sameS (smallC r.old (usedS (r.old++r.new))) (smallC r.new (usedS (r.old++r.new)))
def justI(r:Rp) : Bool×Bool:=sameI (mapC r.old (unionI (usedI r.old) (usedI r.new))) (mapC r.new (unionI (usedI r.old) (usedI r.new)))
theorem Xlf{n:Int}{r:Rp}(h:vrI n r=true) : (1≤n∧n≤5)∧(r.old.length≤40∧r.new.length≤40)∧(∀ g ∈ r.old,gOk n g=true)∧(∀ g ∈ r.new,gOk n g=true):=by
 simp only [vrI,Qd,X0f,Qr,Bool.not_eq_true',W7] at h
 refine ⟨h.1.1.1.1.1,by omega,fun g hg=>by simpa using h.1.2 g hg,fun g hg=>by simpa using h.2 g hg⟩
def implJ(n:Int)(r:Rp) : Bool×Bool:=if vrI n r=true then justI r else (false,false)
def specJ(n:Int)(r:Rp) : Bool×Bool:=if validS n r=true then justS r else (false,false)
def szG(l:List Gt)(left:Int) : Int:=if left-(l.length:Int)<0 then -1 else left-(l.length:Int)
def szR(r:Rp)(left:Int) : Int:=if szG r.old left<0 then -1 else if szG r.new (szG r.old left)<0 then -1 else szG r.new (szG r.old left)
theorem Xb4{l:List Gt}{left:Int}(h:¬ szG l left<0) : szG l left=left-(l.length:Int)∧0≤left-(l.length:Int):=by
 unfold szG at *
 split
 ·rename_i h1;rw [Q4 h1] at h;omega
 ·exact ⟨rfl,by omega⟩
theorem Xj7{α:Type}{m l:List α}{k:Nat}{u:α}(h:m.take k=l.take k)(hk:k<m.length)(hu:l[k]? = some u) : (m.set k u).take (k+1)=l.take (k+1):=by
 rw [Qt,Qt,hu,← h]
 congr 1
 ·rw [List.take_set_of_le (Qb _)]
 ·simp [hk]
structure Sr where (pos:Int) (A:Option Addr) (c:Nat) (old:List Gt) (B:Option Addr) (d:Nat) (new:List Gt)
def encSr(s:Sr) : List Value:=[.int .i64 s.pos,.slice s.A s.old.length s.c,.slice s.B s.new.length s.d]
abbrev Sr.rp(s:Sr) : Rp:=⟨s.pos,s.old,s.new⟩
def srZ:Sr:=⟨0,none,0,[],none,0,[]⟩
def DeepR(w:World)(B:Nat)(E:TypeId)(l:List Sr) : Prop:=∀ s ∈ l,Rd w B E encG s.A s.old∧Rd w B E encG s.B s.new
def DeepX(w:World)(B:Nat)(l:List Sr) : Prop:=∀ s ∈ l,(∃ E,Rd w B E encG s.A s.old)∧∃ E,Rd w B E encG s.B s.new
section
variable {w w' : World} {B : Nat} {E : TypeId} {l : List Sr}
theorem DeepR.below(h:DeepR w B E l)(hb:Below w.heap.size w w') : DeepR w' B E l:=fun s hs=>⟨(h s hs).1.below hb,(h s hs).2.below hb⟩
theorem DeepR.top(h:DeepR w B E l) : DeepR w w.heap.size E l:=fun s hs=>⟨(h s hs).1.top,(h s hs).2.top⟩
theorem DeepR.only{b:Nat}(h:DeepR w B E l)(ho:Only b w w')(hB:B≤b) : DeepR w' B E l:=fun s hs=>⟨(h s hs).1.only ho hB,(h s hs).2.only ho hB⟩
theorem DeepR.onlyT{b:Nat}{T:TypeId}{lc:List Value}(h:DeepR w B E l)(ho:Only b w w')(hb:Blk w b T lc)(hT:Nat.beq E T=false) : DeepR w' B E l:=fun s hs=>⟨(h s hs).1.onlyT ho hb hT,(h s hs).2.onlyT ho hb hT⟩
theorem DeepR.appB{B0:Nat}{E':TypeId}{sz:Nat}{α:Type}{enc:α→List Value}{A:Option Addr}{c:Nat}{m:List α}(h:DeepR w B E l)(ho:Own w B0 E' sz enc A c m)(hg:w.grownBy w' (Value.slice A m.length c).ownBlock)(hB:B≤B0) : DeepR w' B E l:=fun s hs=>⟨(h s hs).1.appB ho hg hB,(h s hs).2.appB ho hg hB⟩
theorem DeepR.appT{B0:Nat}{E':TypeId}{sz:Nat}{α:Type}{enc:α→List Value}{A:Option Addr}{c:Nat}{m:List α}(h:DeepR w B E l)(ho:Own w B0 E' sz enc A c m)(hg:w.grownBy w' (Value.slice A m.length c).ownBlock)(hT:Nat.beq E' E=false) : DeepR w' B E l:=fun s hs=>⟨(h s hs).1.appT ho hg hT,(h s hs).2.appT ho hg hT⟩
theorem DeepX.below(h:DeepX w B l)(hb:Below w.heap.size w w') : DeepX w' B l:=fun s hs=>⟨(h s hs).1.imp fun _ k=>k.below hb,(h s hs).2.imp fun _ k=>k.below hb⟩
theorem DeepX.top(h:DeepX w B l) : DeepX w w.heap.size l:=fun s hs=>⟨(h s hs).1.imp fun _ k=>k.top,(h s hs).2.imp fun _ k=>k.top⟩
theorem DeepX.only{b:Nat}(h:DeepX w B l)(ho:Only b w w')(hB:B≤b) : DeepX w' B l:=fun s hs=>⟨(h s hs).1.imp fun _ k=>k.only ho hB,(h s hs).2.imp fun _ k=>k.only ho hB⟩
theorem DeepX.appB{B0:Nat}{E':TypeId}{sz:Nat}{α:Type}{enc:α→List Value}{A:Option Addr}{c:Nat}{m:List α}(h:DeepX w B l)(ho:Own w B0 E' sz enc A c m)(hg:w.grownBy w' (Value.slice A m.length c).ownBlock)(hB:B≤B0) : DeepX w' B l:=fun s hs=>⟨(h s hs).1.imp fun _ k=>k.appB ho hg hB,(h s hs).2.imp fun _ k=>k.appB ho hg hB⟩
end
theorem DeepR.zero(w:World)(B:Nat)(E:TypeId)(n:Nat) : DeepR w B E (List.replicate n srZ):=fun s hs=>by
 obtain rfl:=List.eq_of_mem_replicate hs
 exact ⟨Rd.nil _ _ _ _ _,Rd.nil _ _ _ _ _⟩
theorem DeepR.set{w:World}{B:Nat}{E:TypeId}{l:List Sr}(h:DeepR w B E l){x:Sr}(h1:Rd w B E encG x.A x.old)(h2:Rd w B E encG x.B x.new)(k:Nat) : DeepR w B E (l.set k x):=fun s hs=>by
 rcases List.mem_or_eq_of_mem_set hs with hs|hs
 ·exact h s hs
 ·subst hs;exact ⟨h1,h2⟩
def cIf(c:Cx) : Option Cx:=if cOk c=true then some c else none
def midC(c:Cx)(r:Rp) : Cx:=⟨c.n,c.gs.take r.pos.toNat++(r.new++(c.gs.drop (r.pos.toNat+r.old.length)++[]))⟩
def fitI(c:Cx)(r:Rp) : Bool:=cOk c&&vrI c.n r&&decide (r.pos+(r.old.length:Int)≤(c.gs.length:Int))&&decide ((c.gs.take (r.pos.toNat+r.old.length)).drop r.pos.toNat=r.old)
def applyI(c:Cx)(r:Rp) : Option Cx:=if fitI c r=true then cIf (midC c r) else none
def fitS(c:Cx)(r:Rp) : Bool:=validS c.n r&&decide (r.pos+(r.old.length:Int)≤(c.gs.length:Int))&&decide ((c.gs.length:Int)-(r.old.length:Int)+(r.new.length:Int)≤400)
def applyS(c:Cx)(r:Rp) : Option Cx:=if fitS c r=true∧(c.gs.take (r.pos.toNat+r.old.length)).drop r.pos.toNat=r.old then some ⟨c.n,c.gs.take r.pos.toNat++r.new++c.gs.drop (r.pos.toNat+r.old.length)⟩ else none
def eqC(c d:Cx) : Bool:=c.n==d.n&&decide (c.gs=d.gs)
def checkLI(i:Nat)(c:Cx)(d:Cx) : List Rp→Int
 | []=>if eqC c d=true then 0 else (i:Int)+1
 | r::l=>if ((applyI c r).isSome&&(implJ c.n r).2&&(implJ c.n r).1)=true then checkLI (i+1) ((applyI c r).getD ⟨0,[]⟩) d l else (i:Int)+1
def checkLS(i:Nat)(c:Cx)(d:Cx) : List Rp→Int
 | []=>if eqC c d=true then 0 else (i:Int)+1
 | r::l=>if ((applyS c r).isSome&&(justS r).1&&(justS r).2)=true then checkLS (i+1) ((applyS c r).getD ⟨0,[]⟩) d l else (i:Int)+1
def checkI(c d:Cx)(l:List Rp) : Int×Bool:=if (cOk c&&decide ((l.length:Int)≤400))=true then (checkLI 0 c d l,true) else (0,false)
def checkS(c d:Cx)(l:List Rp) : Int×Bool:=if (cOk c&&decide ((l.length:Int)≤400))=true then (checkLS 0 c d l,true) else (0,false)
theorem Xgz{c:Cx}{r:Rp}(hc:cOk c=true) : applyI c r=applyS c r∧∀ c',applyS c r=some c'→cOk c'=true∧c'.n=c.n∧vrI c.n r=true:=by
 obtain ⟨hn,hl,hg⟩:=X7t hc
 unfold applyI applyS fitI fitS
 rw [hc,Xk2,Qw]
 by_cases hv:vrI c.n r=true
 ·obtain ⟨_,hl2,ho,hw⟩:=Xlf hv
  have hp:0≤r.pos:=by simp only [vrI,Qd,X0f] at hv;omega
  rw [hv,Qw]
  by_cases hle:r.pos+(r.old.length:Int)≤(c.gs.length:Int)
  ·rw [decide_eq_true hle,Qw,Qw]
   by_cases he:(c.gs.take (r.pos.toNat+r.old.length)).drop r.pos.toNat=r.old
   ·rw [decide_eq_true he,Q4 rfl]
    have hlen:(c.gs.take r.pos.toNat++r.new++c.gs.drop (r.pos.toNat+r.old.length)).length=c.gs.length-r.old.length+r.new.length:=by
     simp only [Qh,Qn,List.length_drop];omega
    have hall:∀ g ∈ c.gs.take r.pos.toNat++r.new++c.gs.drop (r.pos.toNat+r.old.length),gOk c.n g=true:=fun g h=>by
     rcases Qu.1 h with h|h
     ·rcases Qu.1 h with h|h
      ·exact hg g (Wd h)
      ·exact hw g h
     ·exact hg g (List.mem_of_mem_drop h)
    have hmid:midC c r=⟨c.n,c.gs.take r.pos.toNat++r.new++c.gs.drop (r.pos.toNat+r.old.length)⟩:=by unfold midC;simp
    by_cases h4:(c.gs.length:Int)-(r.old.length:Int)+(r.new.length:Int)≤400
    ·have hok:cOk (midC c r)=true:=by
      rw [hmid]
      have h5:((c.gs.take r.pos.toNat++r.new++c.gs.drop (r.pos.toNat+r.old.length)).any fun x=>!gOk c.n x)=false:=by
       rw [W7];intro x hx;simp [hall x hx]
      unfold cOk
      simp only
      rw [h5,X0f.2 hn,hlen,decide_eq_true (by omega)];rfl
     rw [cIf,Q4 hok,Q4 ⟨by simpa using h4,he⟩,hmid]
     refine ⟨rfl,fun c' h=>?_⟩
     injection h with h
     rw [← h]
     rw [hmid] at hok
     exact ⟨hok,rfl,rfl⟩
    ·have hok:¬ cOk (midC c r)=true:=fun h=>by
      obtain ⟨_,h6,_⟩:=X7t h
      rw [hmid] at h6
      simp only at h6
      rw [hlen] at h6
      omega
     rw [cIf,Q3 hok,Q3 (fun h=>h4 (by simpa using h.1))]
     exact ⟨rfl,fun c' h=>by cases h⟩
   ·rw [decide_eq_false he,Q3 (by decide),Q3 (fun h=>he h.2)]
    exact ⟨rfl,fun c' h=>by cases h⟩
  ·rw [decide_eq_false hle]
   exact ⟨rfl,fun c' h=>by simp at h⟩
 ·have hv':vrI c.n r=false:=by simpa using hv
  rw [hv']
  exact ⟨rfl,fun c' h=>by simp at h⟩
structure Sg where (A:Option Addr) (c:Nat) (l:List Gt)
def encSg(s:Sg) : List Value:=[.slice s.A s.l.length s.c]
theorem X9h:∀ x,(encSg x).length=1:=fun _=>rfl
def growRenG:Go.Shelf.Ren:=⟨fun|4=>198|n=>n,fun|22=>28|25=>123|n=>n,fun|n=>n⟩
theorem Xbm:Lays8.n4 Tryz.prog growRenG:={
 mixed:=by kernel_rfl
 f4:=⟨Tryz.f198.name,by decide,Tryz.func198.trans (congrArg some (by kernel_rfl))⟩
 t0:=Tryz.underlying0
 a0:=Tryz.isAgg0
 z0:=Tryz.sizeOf0
 v0:=Tryz.zeroValue0
 t3:=Tryz.underlying3
 a3:=Tryz.isAgg3
 z3:=Tryz.sizeOf3
 v3:=Tryz.zeroValue3
 t4:=Tryz.underlying4
 a4:=Tryz.isAgg4
 z4:=Tryz.sizeOf4
 v4:=Tryz.zeroValue4
 t9:=Tryz.underlying9
 a9:=Tryz.isAgg9
 z9:=Tryz.sizeOf9
 v9:=Tryz.zeroValue9
 t20:=Tryz.underlying20
 a20:=Tryz.isAgg20
 z20:=Tryz.sizeOf20
 v20:=Tryz.zeroValue20
 t22:=Tryz.underlying28
 a22:=Tryz.isAgg28
 z22:=Tryz.sizeOf28
 v22:=Tryz.zeroValue28 }
theorem Xxb(w0:World)(n:Nat)(hn:n≤1000000000) : Ret Tryz.prog 198 [.slice none 0 0,.int .i64 (n:Int)] w0 (fun v w=>∃ A c,v=.slice A 0 c∧Own w w0.heap.size 123 3 encG A c ([] : List Gt)∧Below w0.heap.size w0 w):=by
 by_cases h0:n=0
 ·subst h0
  refine Calls.mono (Any8.slices_Grow_room Xbm none 0 0 0 w0 (by omega) (by omega) (by omega) (by omega)) fun e w ⟨e1,e2⟩=>⟨_,e1,none,0,rfl,?_⟩
  subst e2
  exact ⟨Own.nil _ _ _ _ _,Below.refl _ _⟩
 ·obtain ⟨i,z,hi1,hi2,hi3,hi4,hi5,hi6⟩:=X1z
  refine Calls.mono (Any8.slices_Grow_grow Xbm i z hi1 hi2 (by omega) none 0 0 n [] w0 (by omega) (by omega) (by rw [hi4];omega) (by omega) (by simp) (fun _=>rfl) (fun a h=>by cases h)) fun e w ⟨e1,e2⟩=>⟨_,e1,_,_,rfl,?_⟩
  subst e2
  have hge:=grownCap_ge w0 (0+n) 0 (growRenG.t 25)
  refine ⟨⟨rfl,.inr ⟨w0.heap.size,_,_,rfl,Qb _,heap_alloc_new w0.drew _,Qf _,grownCap_le_maxLen w0 _ _ _ (by simp only [maxLen];omega),?_,by simp⟩⟩,((Below.refl _ _).drew).alloc (Qb _) _⟩
  simp only [Array.size_append,List.size_toArray,size_zeroCells,hi5,List.length_nil,Nat.zero_add,Nat.zero_mul] at hge ⊢
  generalize grownCap w0 n 0 (growRenG.t 25)=G at *
  have h9:n-0+(G-n)=G:=by omega
  rw [← h9,Wb,h9]
abbrev cZ:Cx:=⟨0,[]⟩
def midS(c:Cx)(r:Rp) : Cx:=⟨c.n,c.gs.take r.pos.toNat++r.new++c.gs.drop (r.pos.toNat+r.old.length)⟩
theorem Xc6{c:Cx}{r:Rp}(h1:fitS c r=true)(h2:(c.gs.take (r.pos.toNat+r.old.length)).drop r.pos.toNat=r.old) : applyS c r=some (midS c r):=by
 unfold applyS midS
 rw [Q4 ⟨h1,h2⟩]
theorem Xmj{l:List Gt}{t:Int}(h:szG l t<0) : szG l t = -1:=by
 unfold szG at *
 split<;>rename_i h1
 ·rfl
 ·rw [Q3 h1] at h;omega
def szF:List Sr→Int→Int
 | [],t=>t
 | s::l,t=>if szR s.rp t<0 then -1 else szF l (szR s.rp t)
def szL(l:List Sr)(t:Int) : Int:=if t-(l.length:Int)<0 then -1 else szF l (t-(l.length:Int))
def szZ(c:Cx)(l:List Sr)(d:Cx)(t:Int) : Int:=if szG c.gs t<0 then -1 else if szL l (szG c.gs t)<0 then -1 else szG d.gs (szL l (szG c.gs t))
instance:DecidableEq Rp:=fun a b=>decidable_of_iff (a.pos=b.pos∧a.old=b.old∧a.new=b.new) (by cases a;cases b;simp)
theorem F93(g:World)(ls:List Sl)(Al:Option Addr)(cl:Nat)(o:Rd g g.heap.size 71 encS Al ls)(D:∀ s ∈ ls,Rd g g.heap.size 3 encI s.A s.l)(b7:ls.length≤1000)(b5:(ls.flatMap Sl.l).length≤1000000000) : Ret Tryz.prog 206 [.slice Al ls.length cl] g (fun v w=>∃ A c,v=.slice A (ls.flatMap Sl.l).length c∧Own w g.heap.size 3 1 encI A c (ls.flatMap Sl.l)∧Below g.heap.size g w):=by
 refine enter Tryz.func206 rfl 36 rfl rfl ?_;intro a b
 have i:=bz g
 refine Zs b fun _ aS=>?_;refine Za rfl<|Zx aS fun a b _ aT=>?_;refine Za rfl<|ZX aT fun a b _ aU=>?_;refine Zs b fun _ aW=>?_;refine Zm rfl<|Ze (X0d rfl X87)<|Zm rfl<|Zt aW fun a b=>?_;refine Q8<|X01 (σ:=Nat) (fun (k:Nat) (a:Act) (w:World)=>Fr a 36 [(0,.slice Al ls.length cl),(3,vi (((ls.take k).flatMap Sl.l).length:Int)),(9,.slice Al ls.length cl),(10,vi (ls.length:Int)),(11,vi (k:Int))]∧(k≤ls.length)∧Below g.heap.size g w) (fun (k:Nat)=>ls.length-k) 0 ?_ ?_
 ·exact ⟨b.sb,(Qf _),i⟩
 rintro k a w1 ⟨b,hk,i⟩;refine Zs b fun _ aX=>?_;refine Ze (X0l rfl rfl)<|ZX aX fun a b _ aY=>?_
 refine Xg b rfl (fun m=>?_) (fun m=>?_)
 ·have aC:=m;have m:=Q2 m
  obtain ⟨p,q⟩:=X5 (l:=ls) (k:=k) (by omega)
  have t:=X5h (f:=Sl.l) q;have a6:=X5j Sl.l ls (k+1)
  rw [t,Qh] at a6
  refine Q7<|aY _ _<|Q5 fun _ aD=>?_;refine Q8<|Zs b fun _ aE=>?_;refine Zi (k:=k) (u:=p) (enc:=encS) (l:=ls) trivial rfl rfl X87 Xev Xbf (o.below' i) q rfl ?_;intro b8 a7
  have b6:Rd w1 g.heap.size 3 encI p.A p.l:=(D p (Qe q)).below' i
  refine Ze (X0 rfl X28 a7)<|Za rfl<|Zx aE fun a b _ aF=>?_;refine Zm rfl<|Zm rfl<|Ze (X0d rfl Xl)<|Ze (Xw rfl rfl (by omega) (by omega))<|Za rfl<|Zx aF fun a b _ aG=>?_;refine Zm rfl<|Ze (X0l rfl rfl)<|Zt aG fun a b=>?_
  refine Xg b rfl (fun d=>?_) (fun d=>?_)
  ·have a8:=d;have d:=Q2 d;exact absurd d (by omega)
  have a8:=d;have d:=Q1 d;refine Q7<|Xa<|aD _ _<|Zr b ?_;refine Ze (Xw rfl rfl (by omega) (by omega))<|Zm rfl ?_;refine Zn fun a b=>?_
  have aZ:((((ls.take k).flatMap Sl.l).length:Int)+(p.l.length:Int))=(((ls.take (k+1)).flatMap Sl.l).length:Int):=by rw [t,Qh];omega
  rw [aZ] at b
  refine Xh ?_;exact ⟨k+1,⟨b.sb,(by omega),i⟩,(by omega)⟩
 have aC:=m;have m:=Q1 m;refine Q9<|Xk<|Xk<|X03 ?_;refine aU _ _<|Zs b fun _ aH=>?_;refine Zm rfl<|Zf (Vc (Xx1 _ (((ls.take k).flatMap Sl.l).length) (by have:=X5j Sl.l ls k;omega)) Xro) ?_;rintro _ w2 ⟨b0,b1,rfl,x,hE⟩;have x:=x.lower i.size;have i:=btr i hE;refine Za rfl<|ZX aH fun a b _ aI=>?_;refine Zs b fun _ aJ=>?_;refine Zm rfl<|Ze (X0d rfl X87)<|Zm rfl<|Zt aJ fun a b=>?_;refine Q8<|X01 (σ:=Nat×(List Int)) (fun (s:Nat×(List Int)) (a:Act) (w:World)=>match s with|(j,l)=>∃ B C,Fr a 36 [(6,.slice B l.length C),(25,.slice Al ls.length cl),(26,vi (ls.length:Int)),(27,vi (j:Int))]∧(j≤ls.length)∧(l=(ls.take j).flatMap Sl.l)∧Own w g.heap.size 3 1 encI B C l∧Below g.heap.size g w) (fun (s:Nat×(List Int))=>match s with|(j,l)=>ls.length-j) (0,[]) ?_ ?_
 ·exact ⟨b0,b1,b.sb,(Qf _),rfl,x,i⟩
 rintro ⟨j,l⟩ a w3 ⟨B,C,b,hj,hl,y,i⟩;refine Zs b fun _ aK=>?_;refine Ze (X0l rfl rfl)<|ZX aK fun a b _ aL=>?_
 refine Xg b rfl (fun e=>?_) (fun e=>?_)
 ·have aA:=e;have e:=Q2 e
  obtain ⟨n,h⟩:=X5 (l:=ls) (k:=j) (by omega)
  have t:=X5h (f:=Sl.l) h;have a6:=X5j Sl.l ls (j+1)
  rw [t,Qh,← hl] at a6
  refine Q7<|aL _ _<|Q5 fun _ aM=>?_;refine Q8<|Zs b fun _ aN=>?_;refine Zi (k:=j) (u:=n) (enc:=encS) (l:=ls) trivial rfl rfl X87 Xev Xbf (o.below' i) h rfl ?_;intro b9 aB
  have aO:Rd w3 g.heap.size 3 encI n.A n.l:=(D n (Qe h)).below' i
  refine Ze (X0 rfl X28 aB)<|Za rfl<|Zt aN fun a b=>?_;refine Zr b<|Zm rfl<|Zm rfl<|Zf (X0m (enc:=encI) (l:=(l)) (l2:=(n.l)) (B0:=g.heap.size) rfl rfl Xl X1q Xf X25 y aO (by simp only [maxLen];omega) (by omega) i.size) ?_;rintro _ w4 ⟨b2,b3,rfl,aP,hg,b4⟩
  have E:Own _ g.heap.size 3 1 encI _ _ (l):=y
  clear b4;have i:=Below.app i E hg (Qb _) i.size;clear E hg;refine Za rfl ?_;refine Zn fun a b=>?_;refine Xa<|aM _ _<|Zr b<|Ze (Xw rfl rfl (by omega) (by omega))<|Zm rfl ?_;refine Zn fun a b=>?_;refine Xh ?_;exact ⟨(j+1,l++n.l),⟨b2,b3,b.sb,(by omega),(by rw [t,hl]),aP,i⟩,(by first|omega|(dsimp only;omega))⟩
 have aA:=e;have e:=Q1 e;refine Q9<|Xk<|Xk<|X03 ?_;refine aI _ _<|Zs b fun _ aQ=>?_;refine Zm rfl<|Za rfl<|Zt aQ fun a b=>?_
 refine Q6 (X4 b (Xt b rfl rfl) ?_)
 have aR:l=ls.flatMap Sl.l:=by rw [hl];exact X9o _ (by omega)
 rw [← aR]
 exact ⟨B,C,rfl,y,i⟩
theorem Xrw(q:World)(Al:Option Addr)(cl:Nat)(l:List Int)(j:Rd q q.heap.size 3 encI Al l)(n:Int)(B0:Nat)(ho:Own q B0 3 1 encI Al cl l)(aN:B0≤q.heap.size)(b1:l.length≤1000000000) : Ret Tryz.prog 216 [.slice Al l.length cl,vi n] q (fun v w=>∃ A c,v=.slice A (putI l n).length c∧Own w B0 3 1 encI A c (putI l n)∧Below q.heap.size q w):=by
 refine enter Tryz.func216 rfl 48 rfl rfl ?_;intro a e
 have f:=bz q
 refine Zs e fun _ aO=>?_;refine Za rfl<|Zx aO fun a e _ aP=>?_;refine Za rfl<|ZX aP fun a e _ aQ=>?_;refine Q8<|X01 (σ:=Nat) (fun (k:Nat) (a:Act) (w:World)=>Fr a 48 [(0,.slice Al l.length cl),(1,vi n),(5,vi (k:Int))]∧(k≤l.length)∧((l.take k).all (fun x=>decide (x<n))=true)∧Below q.heap.size q w) (fun (k:Nat)=>l.length-k) 0 ?_ ?_
 ·exact ⟨e.sb,(Qf _),rfl,f⟩
 rintro k a w1 ⟨e,hk,E,f⟩;refine Q5 fun _ aR=>?_;refine Q5 fun _ aS=>?_;refine X0a (fun a w=>Fr a 48 [(0,.slice Al l.length cl),(1,vi n),(5,vi (k:Int)),(18,.bool (decide ((k:Int)<(l.length:Int))&&decide ((l.getD k 0)<n)))]∧w1=w) ?_ ?_
 ·refine Zr e<|Zm rfl<|Zm rfl<|Ze (X0d rfl Xl)<|Ze (X0l rfl rfl)<|Zm rfl ?_
  refine Zg 11 rfl (fun d=>?_) (fun d=>?_)
  ·refine Zv (gW d) (X3 rfl) ?_;refine Zv (gW d) (X3 rfl) ?_;refine Zi (k:=k) (u:=(l.getD k 0)) (enc:=encI) (l:=l) ⟨_,_,rfl,rfl,d⟩ rfl rfl Xl X08 Xf (j.below' f) (X9l (by assumption)) rfl ?_;intro b2 aA;refine Zv (gW d) (X0 rfl X9 aA) ?_;refine Zv (gW d) (X3 rfl) ?_;refine Zv (gW d) (X0l rfl rfl) ?_;refine Ze (X7 rfl d rfl) ?_;refine Zn fun a e=>?_;exact ⟨e.sub ⟨rfl,rfl,rfl,X1 rfl (by first|rfl|(simp only [d,bs];done)|simp [d]),trivial⟩,rfl⟩
  refine Zp (gP d) ?_;refine Zp (gP d) ?_;refine Zp (gP d) ?_;refine Zp (gP d) ?_;refine Zp (gP d) ?_;refine Zp (gP d) ?_;refine Ze (Xe rfl d rfl) ?_;refine Zn fun a e=>?_;exact ⟨e.sub ⟨rfl,rfl,rfl,X1 rfl (by first|rfl|(simp only [d,bs];done)|simp [d]),trivial⟩,rfl⟩
 rintro a _ ⟨e,rfl⟩;refine aS _ _ ?_
 refine Xg e rfl (fun o=>?_) (fun o=>?_)
 ·have i:=o
  have aT:(k:Int)<l.length∧l.getD k 0<n:=by simpa using o
  have aU:k<l.length:=by omega
  refine Q7<|aR _ _<|Q8<|Zr e ?_;refine Zm rfl<|Ze (Xw rfl rfl (by omega) (by omega))<|Za rfl ?_;refine Zn fun a e=>?_;refine Xa<|Xh ?_;exact ⟨k+1,⟨e.sb,(by omega),(X46 E (Xbg aU) (by simpa using aT.2)),f⟩,(by omega)⟩
 have i:=o
 have aW:k<l.length→¬ l.getD k 0<n:=by intro h0 h1;revert o;simp only [h1,decide_true,Bool.and_true,decide_eq_false_iff_not];omega
 have aB:=Xiq l n k E hk aW;refine Q9<|Xk<|Xk<|X03 ?_;refine aQ _ _<|Q5 fun _ aC=>?_;refine Q5 fun _ aD=>?_;refine X0a (fun a w=>Fr a 48 [(0,.slice Al l.length cl),(1,vi n),(5,vi (k:Int)),(32,.bool (decide ((k:Int)<(l.length:Int))&&(l.getD k 0)==n))]∧w1=w) ?_ ?_
 ·refine Zr e<|Zm rfl<|Zm rfl<|Ze (X0d rfl Xl)<|Ze (X0l rfl rfl)<|Zm rfl ?_
  refine Zg 25 rfl (fun b=>?_) (fun b=>?_)
  ·refine Zv (gW b) (X3 rfl) ?_;refine Zv (gW b) (X3 rfl) ?_;refine Zi (k:=k) (u:=(l.getD k 0)) (enc:=encI) (l:=l) ⟨_,_,rfl,rfl,b⟩ rfl rfl Xl X08 Xf (j.below' f) (X9l (by assumption)) rfl ?_;intro b3 a6;refine Zv (gW b) (X0 rfl X9 a6) ?_;refine Zv (gW b) (X3 rfl) ?_;refine Zv (gW b) (X0b rfl rfl) ?_;refine Ze (X7 rfl b rfl) ?_;refine Zn fun a e=>?_;exact ⟨e.sub ⟨rfl,rfl,rfl,X1 rfl (by first|rfl|(simp only [i,b,bs];done)|simp [i,b]),trivial⟩,rfl⟩
  refine Zp (gP b) ?_;refine Zp (gP b) ?_;refine Zp (gP b) ?_;refine Zp (gP b) ?_;refine Zp (gP b) ?_;refine Zp (gP b) ?_;refine Ze (Xe rfl b rfl) ?_;refine Zn fun a e=>?_;exact ⟨e.sub ⟨rfl,rfl,rfl,X1 rfl (by first|rfl|(simp only [i,b,bs];done)|simp [i,b]),trivial⟩,rfl⟩
 rintro a _ ⟨e,rfl⟩;refine aD _ _ ?_
 refine Xg e rfl (fun p=>?_) (fun p=>?_)
 ·have a7:=p
  have aX:k<l.length∧l.getD k 0=n:=by have h9:(k:Int)<l.length∧l.getD k 0=n:=(by simpa using p);omega
  have h:=aB.1 aX;refine Zs e fun _ aE=>?_;refine Zm rfl<|Za rfl<|Zt aE fun a e=>?_;refine Q6<|X6<|X4 e (Xt e rfl rfl) ?_
  rw [h]
  exact ⟨_,_,rfl,ho.below f,f⟩
 have a7:=p
 have h:=aB.2 (fun h0=>by revert p;rw [h0.2];simp;omega)
 refine Q7<|aC _ _<|Zs e fun _ aF=>?_;refine Zf (Xm (k:=0) (vs:=[]) (zs:=[]) rfl Xl X1q rfl rfl) ?_;rintro _ w2 ⟨b4,rfl,G,hE,H⟩;have B:=Q0 f.size G;have aG:=(j.below' f).away G;have f:=btr f hE;refine Zm rfl<|Zm rfl ?_;have aH:=((j.below' f).top).takeK Xf k;refine Ze (X2x (l:=l) (k:=k) rfl rfl Xl X08 rfl hk ho.cap)<|Zf (X0m (enc:=encI) (l:=([] : List Int)) (l2:=((l.take k))) (B0:=q.heap.size) rfl rfl Xl X1q Xf X25 (Own.empty H B) aH (by simp only [maxLen];simp;omega) (by simp;omega) f.size) ?_;rintro _ w3 ⟨b5,b6,rfl,m,I,t⟩
 have g:Own _ q.heap.size 3 1 encI _ _ ([] : List Int):=(Own.empty H B)
 clear t;have f:=Below.app f g I (Qb _) f.size;clear g I
 simp only [List.nil_append] at m
 refine Za rfl<|Zx aF fun a e _ aI=>?_;refine Zm rfl<|Zm rfl<|Zf (Xm (k:=1) (vs:=[vi n]) (zs:=[vi n]) rfl Xl X1q rfl rfl) ?_;rintro _ w4 ⟨b7,rfl,C,hE,D⟩;have aY:=Q0 f.size C;have aJ:=(j.below' f).away C;have y:=m.away C;have m:=m.below hE;have f:=btr f hE;refine Zf (X0m (enc:=encI) (l:=((l.take k))) (l2:=([n])) (B0:=q.heap.size) rfl rfl Xl X1q Xf X25 m (Rd.of_blk D rfl _ D.lt) (by simp only [maxLen];simp;omega) (by simp;omega) f.size) ?_;rintro _ w5 ⟨b8,b9,rfl,J,I,t⟩
 have g:Own _ q.heap.size 3 1 encI _ _ ((l.take k)):=m
 have a8:=t _ D.lt y;clear t;have f:=Below.app f g I (Qb _) f.size;clear g I;refine Za rfl<|Zx aI fun a e _ aK=>?_;refine Zm rfl<|Zm rfl<|Zm rfl ?_;have aL:=((j.below' f).top).dropK Xf (c:=cl) ho.cap k;refine Ze (X6z (l:=l) (k:=k) rfl rfl Xl X08 rfl hk)<|Zf (X0m (enc:=encI) (l:=((l.take k)++([n]))) (l2:=((l.drop k))) (B0:=q.heap.size) rfl rfl Xl X1q Xf X25 J aL (by simp only [maxLen];simp;omega) (by simp;omega) f.size) ?_;rintro _ w6 ⟨aZ,b0,rfl,aM,I,t⟩
 have g:Own _ q.heap.size 3 1 encI _ _ ((l.take k)++([n])):=J
 clear t;have f:=Below.app f g I (Qb _) f.size;clear g I;refine Za rfl<|Zt aK fun a e=>?_
 refine Q6 (X4 e (Xt e rfl rfl) ?_)
 rw [h]
 exact ⟨aZ,b0,rfl,(aM).lower aN,f⟩
theorem F42(w0:World){X_l:TypeId}(Al:Option Addr)(cl:Nat)(l:List Gt)(aE:Rd w0 w0.heap.size X_l encG Al l)(t:Int)(ht:0≤t∧t≤1048576)(aF:l.length≤9223372036854775807) : Ret Tryz.prog 35 [.slice Al l.length cl,vi t] w0 (fun v w=>v=vi (szG l t)∧w0=w):=by
 refine enter Tryz.func35 rfl 12 rfl rfl ?_;intro a c
 have hW:=bz w0
 refine Zs c fun _ a7=>?_;refine Za rfl<|Zx a7 fun a c _ a8=>?_;refine Zm rfl<|Zm rfl<|Ze (X0d rfl Xeo)<|Ze (X1g rfl rfl (by omega) (by omega))<|Za rfl<|ZX a8 fun a c _ aA=>?_;refine Zs c fun _ aB=>?_;refine Zm rfl<|Ze (X0l rfl rfl)<|Zt aB fun a c=>?_
 refine Xg c rfl (fun b=>?_) (fun b=>?_)
 ·have a6:=b;have b:=Q2 b
  have d:szG l t = -1:=by rw [szG,Q4 b]
  refine Zs c fun _ aC=>?_;refine Za rfl<|Zt aC fun a c=>?_;refine Q6<|X6<|X4 c (Xt c rfl rfl) ?_;exact ⟨by rw [d],rfl⟩
 have a6:=b;have b:=Q1 b
 have d:szG l t=t-(l.length:Int):=by rw [szG,Q3 b]
 refine Q7<|aA _ _<|Zs c fun _ aD=>?_;refine Zm rfl<|Za rfl<|Zt aD fun a c=>?_
 refine Q6 (X4 c (Xt c rfl rfl) ?_)
 exact ⟨by rw [d],rfl⟩
theorem F90(w0:World)(x:Gt) : Ret Tryz.prog 87 [.agg #[vi x.k,vi x.a,vi x.b]] w0 (fun v w=>v=gV x∧Below w0.heap.size w0 w):=by
 refine enter Tryz.func87 rfl 14 rfl rfl ?_;intro a m
 have f:=bz w0
 refine Zs m fun _ a8=>?_;refine Zf (X0c (zs:=[vi x.k,vi x.a,vi x.b]) rfl rfl) ?_;rintro _ w1 ⟨b2,rfl,aA,n,c⟩;have aI:=Q0 f.size aA;have f:=btr f n;refine Zf (Xu (zs:=[vi 0,vi 0,vi 0]) X5w rfl) ?_;rintro _ w2 ⟨b3,rfl,aB,n,d⟩;have a6:=Q0 f.size aB;have c:=c.below n;have f:=btr f n;refine Zx a8 fun a m _ aC=>?_;refine Zf (Xu (zs:=[vi 0,vi 0,vi 0]) X5w rfl) ?_;rintro _ w3 ⟨b5,rfl,aD,n,e⟩
 have a7:b3≠b5:=by have:=d.lt;omega
 have j:=Q0 f.size aD;have c:=c.below n;have d:=d.below n;have f:=btr f n;refine Zx aC fun a m _ aE=>?_;refine Ze (Vd rfl Xjx 0)<|Ze (X0 rfl X9 (c.at 0))<|Ze (Vd rfl X0p 0)<|Zo (Vu (vs:=[vi x.k]) (l':=[vi x.k,vi 0,vi 0]) rfl rfl X08 e) ?_;rintro _ w4 ⟨i,hb⟩;have g:=e;have c:=c.only i (Blk.ne c g rfl);have d:=d.only i (by omega);have f:=Below.only f i j;have e:=hb;refine Zx aE fun a m _ aF=>?_;refine Ze (Vd rfl Xhu 1)<|Ze (X0 rfl X9 (c.at 1))<|Ze (Vd rfl X09 1)<|Zo (Vu (vs:=[vi x.a]) (l':=[vi x.k,vi x.a,vi 0]) rfl rfl X08 e) ?_;rintro _ w5 ⟨i,hb⟩;have g:=e;have c:=c.only i (Blk.ne c g rfl);have d:=d.only i (by omega);have f:=Below.only f i j;have e:=hb;refine Zx aF fun a m _ aG=>?_;refine Ze (Vd rfl Xhk 2)<|Ze (X0 rfl X9 (c.at 2))<|Ze (Vd rfl X0r 2)<|Zo (Vu (vs:=[vi x.b]) (l':=[vi x.k,vi x.a,vi x.b]) rfl rfl X08 e) ?_;rintro _ w6 ⟨i,hb⟩;have g:=e;have d:=d.only i (by omega);have f:=Below.only f i j;have e:=hb;refine Zx aG fun a m _ aH=>?_;refine Ze (Vn X0o e)<|Zo (Vw [vi x.k,vi x.a,vi x.b] X1h d) ?_;rintro _ w7 ⟨i,hb⟩;have g:=d;have f:=Below.only f i a6;have d:=hb;refine Zt aH fun a m=>?_
 refine Q6 (X4 m (Xt m rfl (ResV.cellN (l:=[vi x.k,vi x.a,vi x.b]) rfl X0o (d.at 0) rfl)) ?_)
 exact ⟨rfl,f⟩
theorem F45(n:World){X_l:TypeId}(Al:Option Addr)(cl:Nat)(l:List Gt)(a8:Rd n n.heap.size X_l encG Al l)(aO:l.length≤1048576) : Ret Tryz.prog 41 [.slice Al l.length cl] n (fun v w=>∃ A c,v=.slice A l.length c∧Own w n.heap.size 123 3 encG A c l∧Below n.heap.size n w):=by
 refine enter Tryz.func41 rfl 23 rfl rfl ?_;intro a e
 have i:=bz n
 refine Zs e fun _ aG=>?_;refine Za rfl<|Zx aG fun a e _ aH=>?_;refine Zm rfl<|Ze (X0d rfl Xeo)<|Zf (X6b (m:=l.length) (enc:=encG) (z0:=(⟨0,0,0⟩ : Gt)) rfl rfl X1f X1z X5w rfl X16 (by omega) (by omega)) ?_;rintro _ w1 ⟨b5,rfl,aI,hE,f⟩;have o:=Q0 i.size aI;have i:=btr i hE;refine Za rfl<|ZX aH fun a e _ aJ=>?_;refine Zs e fun _ aK=>?_;refine Za rfl<|Zt aK fun a e=>?_;refine Q8<|X01 (σ:=Nat×(List Gt)) (fun (s:Nat×(List Gt)) (a:Act) (w:World)=>match s with|(k,m)=>Fr a 23 [(0,.slice Al l.length cl),(3,.slice (some ⟨b5,0,none⟩) l.length l.length),(4,vi (k:Int))]∧(k≤l.length)∧(m.length=l.length)∧(m.take k=l.take k)∧Blk w b5 123 (m.flatMap encG)∧Below n.heap.size n w) (fun (s:Nat×(List Gt))=>match s with|(k,m)=>l.length-k) (0,List.replicate l.length (⟨0,0,0⟩ : Gt)) ?_ ?_
 ·exact ⟨e.sb,(Qf _),(by simp),rfl,f,i⟩
 rintro ⟨k,m⟩ a w2 ⟨e,hk,aA,j,f,i⟩;refine Q5 fun _ aL=>?_;refine Zs e fun _ aB=>?_;refine Zm rfl<|Zm rfl<|Ze (X0d rfl Xeo)<|Ze (X0l rfl rfl)<|Zt aB fun a e=>?_
 refine Xg e rfl (fun d=>?_) (fun d=>?_)
 ·have a6:=d;have d:=Q2 d
  obtain ⟨g,p⟩:=X5 (l:=l) (k:=k) (by omega)
  refine Q7<|aL _ _<|Q5 fun _ aC=>?_;refine Q8<|Zr e<|Zm rfl<|Zm rfl<|Zm rfl<|Zm rfl<|Zi (k:=k) (u:=g) (enc:=encG) (l:=l) trivial rfl rfl Xeo Xr7 X16 (a8.below' i) p rfl ?_;intro aP a7;refine Ze (X04 (l:=[vi g.k,vi g.a,vi g.b]) rfl Xqv a7 rfl)<|Zf (Vc (F90 _ g) Xv2) ?_;rintro _ w3 ⟨rfl,hE⟩;have f:=f.below hE;have i:=btr i hE;refine Ze (Xni (k:=k) (off:=k*3) rfl rfl X1f X1h rfl (by omega) rfl)<|Zo (Xm3 (enc:=encG) (l:=m) (u:=g) (k:=k) rfl rfl X1h f X16 X2r rfl (by omega)) ?_;rintro _ w4 ⟨ho,hb⟩;have aN:=f;have i:=Below.only i ho o;have f:=hb;refine Zn fun a e=>?_;refine Xa<|aC _ _<|Zr e<|Zm rfl<|Ze (Xw rfl rfl (by omega) (by omega))<|Za rfl ?_;refine Zn fun a e=>?_;refine Xh ?_;exact ⟨(k+1,(m.set k g)),⟨e.sb,(by omega),(by simp;exact aA),(Xj7 j (by omega) p),f,i⟩,(by first|omega|(dsimp only;omega))⟩
 have a6:=d;have d:=Q1 d;refine Q9<|Xk<|Xk<|X03 ?_;refine aJ _ _<|Zs e fun _ aD=>?_;refine Zm rfl<|Za rfl<|Zt aD fun a e=>?_
 refine Q6 (X4 e (Xt e rfl rfl) ?_)
 have aM:m.length=l.length:=aA
 have aE:l.length≤maxLen:=by simp only [maxLen];omega
 have aF:m=l:=by rw [Qi (by omega),Qi (by omega)] at j;exact j
 have q:=(Own.of_flat X16 f o aM aE)
 rw [aF] at q
 exact ⟨(some ⟨b5,0,none⟩),l.length,rfl,q,i⟩
theorem Xvc(p:World)(n:Int)(Al:Option Addr)(cl:Nat)(l:List Gt)(q:Rd p p.heap.size 123 encG Al l)(aM:l.length≤1000000000) : Ret Tryz.prog 163 [vi n,.slice Al l.length cl] p (fun v w=>∃ A c1,v=.tuple #[.agg #[vi ((cIf ⟨n,l⟩).getD cZ).n,.slice A ((cIf ⟨n,l⟩).getD cZ).gs.length c1],.bool (cIf ⟨n,l⟩).isSome]∧Own w p.heap.size 123 3 encG A c1 ((cIf ⟨n,l⟩).getD cZ).gs∧Below p.heap.size p w):=by
 refine enter Tryz.func163 rfl 17 rfl rfl ?_;intro a g
 have c:=bz p
 refine Zs g fun _ aI=>?_;refine Zf (Xu (zs:=[vi 0,.slice none 0 0]) X4e rfl) ?_;rintro _ w1 ⟨b4,rfl,aJ,j,b⟩;have t:=Q0 c.size aJ;have c:=btr c j;refine Za rfl<|Zx aI fun a g _ aK=>?_;refine Zm rfl<|Zf (Xm (k:=0) (vs:=[]) (zs:=[]) rfl X1f X1z rfl rfl) ?_;rintro _ w2 ⟨b6,rfl,a8,j,aA⟩;have u:=Q0 c.size a8;have aH:=(q.below' c).away a8;have b:=b.below j;have c:=btr c j;refine Zm rfl<|Zf (X0m (enc:=encG) (l:=([] : List Gt)) (l2:=(l)) (B0:=p.heap.size) rfl rfl X1f X1z X16 X2r (Own.empty aA u) (q.below' c) (by simp only [maxLen];simp;omega) (by simp;omega) c.size) ?_;rintro _ w3 ⟨A8,c8,rfl,d,hg,aL⟩
 have m:Own _ p.heap.size 123 3 encG _ _ ([] : List Gt):=(Own.empty aA u)
 clear aL;have b:=b.appT m hg rfl;have c:=Below.app c m hg (Qb _) c.size;clear m hg
 simp only [List.nil_append] at d
 refine Ze (X0w (ps:=[(0,vi n),(1,.slice A8 l.length c8)]) (cs:=[vi n,.slice A8 l.length c8]) rfl (fun _=>by first|rfl|kernel_rfl))<|Zf (Xu (zs:=[vi 0,.slice none 0 0]) X4e rfl) ?_;rintro _ w4 ⟨b11,rfl,aB,j,e⟩
 have aC:b4≠b11:=by have:=b.lt;omega
 have a6:=Q0 c.size aB;have b:=b.below j;have d:=d.below j;have c:=btr c j;refine Zo (Vw [vi n,.slice A8 l.length c8] X1w e) ?_;rintro _ w5 ⟨x,hb⟩;have i:=e;have b:=b.only x (by omega);have d:=d.onlyT x i rfl;have c:=Below.only c x a6;have e:=hb;refine ZX aK fun a g _ aD=>?_;refine Zs g fun _ aE=>?_;refine Ze (Vn X12 e)<|Zf (Vc (F55 _ (⟨n,l⟩ : Cx) A8 c8 d.rd.top (by show l.length≤_;omega)) Xca) ?_;rintro _ w6 ⟨rfl,j⟩;have b:=b.below j;have e:=e.below j;have d:=d.below j;have c:=btr c j;refine Ze (X0y rfl)<|Zt aE fun a g=>?_
 refine Xg g rfl (fun f=>?_) (fun f=>?_)
 ·have a7:=f
  have o:cIf ⟨n,l⟩=none:=by rw [cIf,Q3];revert f;cases cOk ⟨n,l⟩<;>simp
  refine Zs g fun _ aF=>?_;refine Ze (X0w (ps:=[]) (cs:=[vi 0,.slice none 0 0]) rfl (fun _=>by first|rfl|kernel_rfl))<|Zo (Vw [vi 0,.slice none 0 0] X1w b) ?_;rintro _ w7 ⟨x,hb⟩;have i:=b;have c:=Below.only c x t;have b:=hb;refine Za rfl<|Zt aF fun a g=>?_;refine Q6<|X6<|X4 g (X17 g rfl (ResV.cellN (l:=[vi 0,.slice none 0 0]) rfl X12 (b.at 0) rfl) rfl) ?_
  rw [o]
  exact ⟨none,0,rfl,(Own.nil _ _ _ _ _),c⟩
 have a7:=f
 have o:cIf ⟨n,l⟩=some ⟨n,l⟩:=by rw [cIf,Q4];revert f;cases cOk ⟨n,l⟩<;>simp
 refine Q7<|aD _ _<|Zs g fun _ aG=>?_;refine Ze (Vn X12 e)<|Zo (Vw [vi n,.slice A8 l.length c8] X1w b) ?_;rintro _ w8 ⟨x,hb⟩;have i:=b;have d:=d.onlyT x i rfl;have c:=Below.only c x t;have b:=hb;refine Za rfl<|Zt aG fun a g=>?_
 refine Q6 (X4 g (X17 g rfl (ResV.cellN (l:=[vi n,.slice A8 l.length c8]) rfl X12 (b.at 0) rfl) rfl) ?_)
 rw [o]
 exact ⟨A8,c8,rfl,d,c⟩
theorem Xxx(g:World)(ls:List Sg)(Al:Option Addr)(cl:Nat)(o:Rd g g.heap.size 28 encSg Al ls)(D:∀ s ∈ ls,Rd g g.heap.size 123 encG s.A s.l)(b7:ls.length≤1000)(b5:(ls.flatMap Sg.l).length≤1000000000) : Ret Tryz.prog 164 [.slice Al ls.length cl] g (fun v w=>∃ A c,v=.slice A (ls.flatMap Sg.l).length c∧Own w g.heap.size 123 3 encG A c (ls.flatMap Sg.l)∧Below g.heap.size g w):=by
 refine enter Tryz.func164 rfl 36 rfl rfl ?_;intro a b
 have i:=bz g
 refine Zs b fun _ aS=>?_;refine Za rfl<|Zx aS fun a b _ aT=>?_;refine Za rfl<|ZX aT fun a b _ aU=>?_;refine Zs b fun _ aW=>?_;refine Zm rfl<|Ze (X0d rfl X8a)<|Zm rfl<|Zt aW fun a b=>?_;refine Q8<|X01 (σ:=Nat) (fun (k:Nat) (a:Act) (w:World)=>Fr a 36 [(0,.slice Al ls.length cl),(3,vi (((ls.take k).flatMap Sg.l).length:Int)),(9,.slice Al ls.length cl),(10,vi (ls.length:Int)),(11,vi (k:Int))]∧(k≤ls.length)∧Below g.heap.size g w) (fun (k:Nat)=>ls.length-k) 0 ?_ ?_
 ·exact ⟨b.sb,(Qf _),i⟩
 rintro k a w1 ⟨b,hk,i⟩;refine Zs b fun _ aX=>?_;refine Ze (X0l rfl rfl)<|ZX aX fun a b _ aY=>?_
 refine Xg b rfl (fun m=>?_) (fun m=>?_)
 ·have aC:=m;have m:=Q2 m
  obtain ⟨p,q⟩:=X5 (l:=ls) (k:=k) (by omega)
  have t:=X5h (f:=Sg.l) q;have a6:=X5j Sg.l ls (k+1)
  rw [t,Qh] at a6
  refine Q7<|aY _ _<|Q5 fun _ aD=>?_;refine Q8<|Zs b fun _ aE=>?_;refine Zi (k:=k) (u:=p) (enc:=encSg) (l:=ls) trivial rfl rfl X8a Xch X9h (o.below' i) q rfl ?_;intro b8 a7
  have b6:Rd w1 g.heap.size 123 encG p.A p.l:=(D p (Qe q)).below' i
  refine Ze (X0 rfl X29 a7)<|Za rfl<|Zx aE fun a b _ aF=>?_;refine Zm rfl<|Zm rfl<|Ze (X0d rfl X1f)<|Ze (Xw rfl rfl (by omega) (by omega))<|Za rfl<|Zx aF fun a b _ aG=>?_;refine Zm rfl<|Ze (X0l rfl rfl)<|Zt aG fun a b=>?_
  refine Xg b rfl (fun d=>?_) (fun d=>?_)
  ·have a8:=d;have d:=Q2 d;exact absurd d (by omega)
  have a8:=d;have d:=Q1 d;refine Q7<|Xa<|aD _ _<|Zr b ?_;refine Ze (Xw rfl rfl (by omega) (by omega))<|Zm rfl ?_;refine Zn fun a b=>?_
  have aZ:((((ls.take k).flatMap Sg.l).length:Int)+(p.l.length:Int))=(((ls.take (k+1)).flatMap Sg.l).length:Int):=by rw [t,Qh];omega
  rw [aZ] at b
  refine Xh ?_;exact ⟨k+1,⟨b.sb,(by omega),i⟩,(by omega)⟩
 have aC:=m;have m:=Q1 m;refine Q9<|Xk<|Xk<|X03 ?_;refine aU _ _<|Zs b fun _ aH=>?_;refine Zm rfl<|Zf (Vc (Xxb _ (((ls.take k).flatMap Sg.l).length) (by have:=X5j Sg.l ls k;omega)) Xqp) ?_;rintro _ w2 ⟨b0,b1,rfl,x,hE⟩;have x:=x.lower i.size;have i:=btr i hE;refine Za rfl<|ZX aH fun a b _ aI=>?_;refine Zs b fun _ aJ=>?_;refine Zm rfl<|Ze (X0d rfl X8a)<|Zm rfl<|Zt aJ fun a b=>?_;refine Q8<|X01 (σ:=Nat×(List Gt)) (fun (s:Nat×(List Gt)) (a:Act) (w:World)=>match s with|(j,l)=>∃ B C,Fr a 36 [(6,.slice B l.length C),(25,.slice Al ls.length cl),(26,vi (ls.length:Int)),(27,vi (j:Int))]∧(j≤ls.length)∧(l=(ls.take j).flatMap Sg.l)∧Own w g.heap.size 123 3 encG B C l∧Below g.heap.size g w) (fun (s:Nat×(List Gt))=>match s with|(j,l)=>ls.length-j) (0,[]) ?_ ?_
 ·exact ⟨b0,b1,b.sb,(Qf _),rfl,x,i⟩
 rintro ⟨j,l⟩ a w3 ⟨B,C,b,hj,hl,y,i⟩;refine Zs b fun _ aK=>?_;refine Ze (X0l rfl rfl)<|ZX aK fun a b _ aL=>?_
 refine Xg b rfl (fun e=>?_) (fun e=>?_)
 ·have aA:=e;have e:=Q2 e
  obtain ⟨n,h⟩:=X5 (l:=ls) (k:=j) (by omega)
  have t:=X5h (f:=Sg.l) h;have a6:=X5j Sg.l ls (j+1)
  rw [t,Qh,← hl] at a6
  refine Q7<|aL _ _<|Q5 fun _ aM=>?_;refine Q8<|Zs b fun _ aN=>?_;refine Zi (k:=j) (u:=n) (enc:=encSg) (l:=ls) trivial rfl rfl X8a Xch X9h (o.below' i) h rfl ?_;intro b9 aB
  have aO:Rd w3 g.heap.size 123 encG n.A n.l:=(D n (Qe h)).below' i
  refine Ze (X0 rfl X29 aB)<|Za rfl<|Zt aN fun a b=>?_;refine Zr b<|Zm rfl<|Zm rfl<|Zf (X0m (enc:=encG) (l:=(l)) (l2:=(n.l)) (B0:=g.heap.size) rfl rfl X1f X1z X16 X2r y aO (by simp only [maxLen];omega) (by omega) i.size) ?_;rintro _ w4 ⟨b2,b3,rfl,aP,hg,b4⟩
  have E:Own _ g.heap.size 123 3 encG _ _ (l):=y
  clear b4;have i:=Below.app i E hg (Qb _) i.size;clear E hg;refine Za rfl ?_;refine Zn fun a b=>?_;refine Xa<|aM _ _<|Zr b<|Ze (Xw rfl rfl (by omega) (by omega))<|Zm rfl ?_;refine Zn fun a b=>?_;refine Xh ?_;exact ⟨(j+1,l++n.l),⟨b2,b3,b.sb,(by omega),(by rw [t,hl]),aP,i⟩,(by first|omega|(dsimp only;omega))⟩
 have aA:=e;have e:=Q1 e;refine Q9<|Xk<|Xk<|X03 ?_;refine aI _ _<|Zs b fun _ aQ=>?_;refine Zm rfl<|Za rfl<|Zt aQ fun a b=>?_
 refine Q6 (X4 b (Xt b rfl rfl) ?_)
 have aR:l=ls.flatMap Sg.l:=by rw [hl];exact X9o _ (by omega)
 rw [← aR]
 exact ⟨B,C,rfl,y,i⟩
theorem F14(w0:World){Xc:TypeId}(c:Cx)(Ac:Option Addr)(cc:Nat)(e:Rd w0 w0.heap.size Xc encG Ac c.gs)(t:Int)(ht:0≤t∧t≤1048576)(aB:c.gs.length≤9223372036854775807) : Ret Tryz.prog 7 [.agg #[vi c.n,.slice Ac c.gs.length cc],vi t] w0 (fun v w=>v=vi (szG c.gs t)∧Below w0.heap.size w0 w):=by
 refine enter Tryz.func7 rfl 12 rfl rfl ?_;intro a d
 have hW:=bz w0
 refine Zs d fun _ aC=>?_;refine Zf (X0c (zs:=[vi c.n,.slice Ac c.gs.length cc]) rfl rfl) ?_;rintro _ w1 ⟨b3,rfl,a6,hE,aD⟩;have aJ:=Q0 hW.size a6;have aA:=(e.below' hW).away a6;have hW:=btr hW hE;refine Za rfl<|Zx aC fun a d _ aE=>?_;refine Ze (Vd rfl Xf7 1)<|Ze (X0 rfl Xow (aD.at 1))<|Zm rfl<|Zf (Vc (F42 _ Ac cc c.gs (e.below' hW).top t ht aB) Xw4) ?_;rintro _ _ ⟨rfl,rfl⟩;refine Za rfl<|ZX aE fun a d _ aF=>?_;refine Zs d fun _ aG=>?_;refine Zm rfl<|Ze (X0l rfl rfl)<|Zt aG fun a d=>?_
 refine Xg d rfl (fun b=>?_) (fun b=>?_)
 ·have a7:=b;have b:=Q2 b
  have a8:szG c.gs t = -1:=Xmj b
  refine Zs d fun _ aH=>?_;refine Za rfl<|Zt aH fun a d=>?_;refine Q6<|X6<|X4 d (Xt d rfl rfl) ?_;exact ⟨by rw [a8],hW⟩
 have a7:=b;have b:=Q1 b;have aK:=b;refine Q7<|aF _ _<|Zs d fun _ aI=>?_;refine Zm rfl<|Za rfl<|Zt aI fun a d=>?_
 refine Q6 (X4 d (Xt d rfl rfl) ?_)
 exact ⟨rfl,hW⟩
theorem F16(w0:World){Xc:TypeId}(c:Cx)(Ac:Option Addr)(cc:Nat)(j:Rd w0 w0.heap.size Xc encG Ac c.gs)(aH:c.gs.length≤1048576) : Ret Tryz.prog 9 [.agg #[vi c.n,.slice Ac c.gs.length cc]] w0 (fun v w=>∃ A c1,v=.agg #[vi c.n,.slice A c.gs.length c1]∧Own w w0.heap.size 123 3 encG A c1 c.gs∧Below w0.heap.size w0 w):=by
 refine enter Tryz.func9 rfl 12 rfl rfl ?_;intro a q
 have d:=bz w0
 refine Zs q fun _ aI=>?_;refine Zf (X0c (zs:=[vi c.n,.slice Ac c.gs.length cc]) rfl rfl) ?_;rintro _ w1 ⟨b3,rfl,a6,k,f⟩;have aL:=Q0 d.size a6;have aD:=(j.below' d).away a6;have d:=btr d k;refine Zf (Xu (zs:=[vi 0,.slice none 0 0]) X4e rfl) ?_;rintro _ w2 ⟨b5,rfl,a7,k,b⟩;have a8:=Q0 d.size a7;have aE:=(j.below' d).away a7;have f:=f.below k;have d:=btr d k;refine Zx aI fun a q _ aJ=>?_;refine Zf (Xu (zs:=[vi 0,.slice none 0 0]) X4e rfl) ?_;rintro _ w3 ⟨b8,rfl,aA,k,g⟩
 have aF:b5≠b8:=by have:=b.lt;omega
 have t:=Q0 d.size aA;have aG:=(j.below' d).away aA;have f:=f.below k;have b:=b.below k;have d:=btr d k;refine Zx aJ fun a q _ aK=>?_;refine Ze (Vd rfl Xne 0)<|Ze (X0 rfl X9 (f.at 0))<|Ze (Vd rfl X1d 0)<|Zo (Vu (vs:=[vi c.n]) (l':=[vi c.n,.slice none 0 0]) rfl rfl X08 g) ?_;rintro _ w4 ⟨p,hb⟩;have i:=g;have f:=f.only p (Blk.ne f i rfl);have b:=b.only p (by omega);have d:=Below.only d p t;have g:=hb;refine Zx aK fun a q _ aB=>?_;refine Ze (Vd rfl Xf7 1)<|Ze (X0 rfl Xow (f.at 1))<|Zf (Vc (F45 _ Ac cc c.gs (j.below' d).top aH) Xup) ?_;rintro _ w5 ⟨m,o,rfl,e,k⟩;have e:=e.lower d.size;have b:=b.below k;have g:=g.below k;have d:=btr d k;refine Ze (Vd rfl X18 1)<|Zo (Vu (vs:=[.slice m c.gs.length o]) (l':=[vi c.n,.slice m c.gs.length o]) rfl rfl Xch g) ?_;rintro _ w6 ⟨p,hb⟩;have i:=g;have b:=b.only p (by omega);have e:=e.onlyT p i rfl;have d:=Below.only d p t;have g:=hb;refine Zx aB fun a q _ aC=>?_;refine Ze (Vn X12 g)<|Zo (Vw [vi c.n,.slice m c.gs.length o] X1w b) ?_;rintro _ w7 ⟨p,hb⟩;have i:=b;have e:=e.onlyT p i rfl;have d:=Below.only d p a8;have b:=hb;refine Zt aC fun a q=>?_
 refine Q6 (X4 q (Xt q rfl (ResV.cellN (l:=[vi c.n,.slice m c.gs.length o]) rfl X12 (b.at 0) rfl)) ?_)
 exact ⟨m,o,rfl,e,d⟩
theorem F19(g:World)(p:Cx)(Ap:Option Addr)(cp:Nat)(a7:Rd g g.heap.size 123 encG Ap p.gs)(q:Cx)(Aq:Option Addr)(cq:Nat)(a8:Rd g g.heap.size 123 encG Aq q.gs)(aH:p.gs.length≤2305843009213693951) : Ret Tryz.prog 11 [.agg #[vi p.n,.slice Ap p.gs.length cp],.agg #[vi q.n,.slice Aq q.gs.length cq]] g (fun v w=>v=.bool (eqC p q)∧Below g.heap.size g w):=by
 refine enter Tryz.func11 rfl 16 rfl rfl ?_;intro a b
 have d:=bz g
 refine Zs b fun _ aI=>?_;refine Zf (X0c (zs:=[vi p.n,.slice Ap p.gs.length cp]) rfl rfl) ?_;rintro _ w1 ⟨b4,rfl,aJ,hE,e⟩;have aO:=Q0 d.size aJ;have d:=btr d hE;refine Zf (X0c (zs:=[vi q.n,.slice Aq q.gs.length cq]) rfl rfl) ?_;rintro _ w2 ⟨b5,rfl,aK,hE,aA⟩
 have aG:b4≠b5:=by have:=e.lt;omega
 have aP:=Q0 d.size aK;have e:=e.below hE;have d:=btr d hE;refine Za rfl<|ZX aI fun a b _ aL=>?_;refine Zs b fun _ aM=>?_;refine Ze (Vd rfl X1d 0)<|Ze (X0 rfl X9 (e.at 0))<|Ze (Vd rfl X1d 0)<|Ze (X0 rfl X9 (aA.at 0))<|Ze (X1j rfl rfl)<|Zt aM fun a b=>?_
 refine Xg b rfl (fun f=>?_) (fun f=>?_)
 ·have aB:=f
  have hn:¬ p.n=q.n:=by simpa using f
  refine Zs b fun _ aN=>?_;refine Za rfl<|Zt aN fun a b=>?_;refine Q6<|X6<|X4 b (Xt b rfl rfl) ?_;exact ⟨by simp [eqC,hn],d⟩
 have aB:=f
 have e1:p.n=q.n:=by simpa using f
 refine Q7<|aL _ _<|Q5 fun _ aC=>?_;refine Zs b fun _ aD=>?_;refine Ze (Vd rfl X18 1)<|Ze (X0 rfl X29 (e.at 1))<|Ze (Vd rfl X18 1)<|Ze (X0 rfl X29 (aA.at 1))<|Zf (Vc (F52 _ Ap cp p.gs (a7.below' d).top Aq cq q.gs (a8.below' d).top aH) Xvd) ?_;rintro _ w3 ⟨rfl,hE⟩;have d:=btr d hE;refine Ze (X0y rfl)<|Zt aD fun a b=>?_
 refine Xg b rfl (fun c=>?_) (fun c=>?_)
 ·have a6:=c
  have hn:¬ p.gs=q.gs:=by simpa using c
  refine Zs b fun _ aE=>?_;refine Za rfl<|Zt aE fun a b=>?_;refine Q6<|X6<|X4 b (Xt b rfl rfl) ?_;exact ⟨by simp [eqC,hn],d⟩
 have a6:=c
 have e2:p.gs=q.gs:=by simpa using c
 refine Q7<|aC _ _<|Zs b fun _ aF=>?_;refine Za rfl<|Zt aF fun a b=>?_
 refine Q6 (X4 b (Xt b rfl rfl) ?_)
 exact ⟨by simp [eqC,e1,e2],d⟩
def comS(g h:Gt) : Bool:=(qubI g).any fun x=>(qubI h).any fun y=>y==x
def comI(g h:Gt) : Bool:=(qubI g).any fun x=>(qubI h).any fun y=>x==y
section
variable {p q : Mx}
end
end Go.Proofs.YtpifljegadknkaaGreat
