/-
  Whatever the bytes, logs drawn from them are replayed, cut in two and read back as the law says; so it answers true.
-/
import Derived.WalkKit
import Derived.Maps.AppendAt
import Derived.Test.YtipiejccbmifnaaGreatDoorProg
import Derived.Laws.StructEq
import Derived.MapKept
import Derived.Shelf.Sort.Plain
import Derived.Shelf.Slices.Turned
import Derived.Ground.Names2Prog
import Derived.Shelf.Slices.Clone
import Derived.Shelf.Slices.CompactI
import Derived.Shelf.Slices.Cells
import Derived.Shelf.Spec.SlicesGrow
import Derived.Laws.MakeOwn
import Derived.Laws.Slices
import Derived.Shelf.Slices.In.SortNone
import Derived.WideKeyRuns
import Derived.Deep.Strs
import Derived.ProofKit
import Derived.OpenShut
import Derived.Deep.Slices
import Derived.Deep.Fields
import Derived.ChangeSame
import Derived.Lib.SmallJoins
import Derived.WalkSpells
import Derived.Maps.RangeRun
import Derived.Laws.Strings2
import Derived.Laws.IdiomStrings
import Derived.Shelf.SlSortCmp.WholeK
import Derived.Shelf.SlSortCmp.NoneTotal
import Derived.Shelf.SlGeneric
import Derived.Lib.ItoaNum
import Derived.Lib.Join
set_option linter.unusedVariables false
set_option linter.unusedSimpArgs false
set_option maxHeartbeats 1000000
set_option maxRecDepth 20000
set_option linter.unusedSectionVars false
namespace Go.Proofs.YtipiejccbmifnaaGreatDoor
open Go.RowKit
abbrev Q0:=@Nat.le_trans
abbrev Q1:=@of_decide_eq_false
abbrev Q2:=@of_decide_eq_true
abbrev Q3:=@if_neg
abbrev Q4:=@if_pos
abbrev Q5:=@wp_seq_k
abbrev Q6:=@wp_ret
abbrev Q7:=@wp_skip
abbrev Q8:=@wp_block
abbrev Q9:=@wp_exit
abbrev Qa:=@List.getD_eq_getElem?_getD
abbrev Qb:=@Nat.le_refl
abbrev Qc:=@List.getElem?_eq_getElem
abbrev Qd:=@Bool.and_eq_true
abbrev Qe:=@List.mem_of_getElem?
abbrev Qf:=@Nat.zero_le
abbrev Qg:=@List.getElem?_eq_some_iff
abbrev Qh:=@List.length_append
abbrev Qi:=@List.take_of_length_le
abbrev Qj:=@Int.toNat_natCast
abbrev Qk:=@List.mem_cons_self
abbrev Ql:=@List.mem_cons_of_mem
abbrev Qm:=@List.mem_singleton
abbrev Qn:=@List.length_take
abbrev Qo:=@List.length_map
abbrev Qp:=@Array.getElem?_eq_some_iff
abbrev Qq:=@Option.getD_some
abbrev Qr:=@decide_eq_true_eq
abbrev Qs:=@List.length_cons
abbrev Qt:=@List.take_add_one
abbrev Qu:=@List.mem_append
abbrev Qv:=@List.mem_cons
abbrev Qw:=@Bool.true_and
abbrev Qx:=@List.append_assoc
abbrev Qy:=@List.drop_eq_getElem_cons
abbrev Qz:=@Option.bind_some
abbrev W0:=@List.pairwise_iff_getElem
abbrev W1:=@List.all_eq_true
abbrev W2:=@List.mem_range
abbrev W3:=@List.drop_of_length_le
abbrev W4:=@Nat.lt_or_ge
abbrev W5:=@List.getElem?_append_right
abbrev W6:=@List.mem_map
abbrev W7:=@List.any_eq_false
abbrev W8:=@List.pairwise_cons
abbrev W9:=@List.take_append_drop
abbrev Wa:=@List.cons_append
abbrev Wb:=@Nat.add_mul
abbrev Wc:=@List.flatMap_cons
abbrev Wd:=@List.mem_of_mem_take
abbrev We:=@Array.getElem?_eq_none
abbrev Wf:=@List.take_succ_eq_append_getElem
abbrev Wg:=@List.getElem?_take_of_lt
abbrev Wh:=@Array.getElem?_setIfInBounds_ne
abbrev Wi:=@Nat.mul_comm
abbrev vi(x:Int) : Value:=.int .i64 x
abbrev pZ9(b:Nat):Value:=.pointer (some ⟨b,0,none⟩)
theorem tv0:True:=trivial
def look(t:Nat) : List (Nat×Value)->Option Value
 | []=>none
 | (k,v)::l=>match Nat.beq k t with
  | true=>some v
  | false=>look t l
structure Fr (a:Act) (n:Nat) (e:List (Nat×Value)) : Prop where
 d:a.defers=[]
 s:a.tmps.size=n
 h:∀ t v,look t e=some v->a.tmps[t]? = some v
def ev(e:List (Nat×Value)) : Operand->Option Value
 | .tmp t=>look t e
 | .const v=>some v
 | .global g=>some (.pointer (some ⟨g,0,none⟩))
 | .func f=>some (.func (.func f) #[] #[])
theorem Fr.ev{a:Act}{n:Nat}{e:List (Nat×Value)}{x:Operand}{v:Value}(hf:Fr a n e)(hx:ev e x=some v) : a.eval x=v:=by
 cases x with
 | tmp t=>
  have:=hf.h t v hx
  simp [Act.eval,this]
 | const u=>simpa [YtipiejccbmifnaaGreatDoor.ev,Act.eval] using hx
 | global g=>simpa [YtipiejccbmifnaaGreatDoor.ev,Act.eval] using hx
 | func f=>simpa [YtipiejccbmifnaaGreatDoor.ev,Act.eval] using hx
def evs(e:List (Nat×Value)) : List Operand->Option (List Value)
 | []=>some []
 | x::l=>match ev e x,evs e l with
  | some v,some vs=>some (v::vs)
  | _,_=>none
theorem Fr.evs{a:Act}{n:Nat}{e:List (Nat×Value)}(hf:Fr a n e) : ∀ {l:List Operand} {vs:List Value},evs e l=some vs->l.map a.eval=vs:=by
 intro l
 induction l with
 | nil=>intro vs h;simpa [YtipiejccbmifnaaGreatDoor.evs] using h
 | cons x l ih=>
  intro vs h
  simp only [YtipiejccbmifnaaGreatDoor.evs] at h
  split at h
  ·rename_i v us h1 h2
   injection h with h
   subst h
   simp [hf.ev h1,ih h2]
  ·cases h
theorem X2u(d:Nat)(v:Value)(e:List (Nat×Value)) : look d ((d,v)::e)=some v:=by simp [look]
theorem X3l{d t:Nat}(v:Value)(e:List (Nat×Value))(h:d≠t) : look t ((d,v)::e)=look t e:=by
 have:Nat.beq d t=false:=by
  cases hb:Nat.beq d t
  ·rfl
  ·exact absurd (Nat.eq_of_beq_eq_true hb) h
 simp [look,this]
theorem Fr.put{a:Act}{n:Nat}{e:List (Nat×Value)}(hf:Fr a n e)(d:Nat)(v:Value)(hd:Nat.blt d n=true) : Fr (a.put (some d) v) n ((d,v)::e):=by
 have hd':d<n:=by simpa [Nat.blt_eq] using hd
 refine ⟨hf.d,by simp [Act.put,hf.s],fun t u hu=>?_⟩
 by_cases h:d=t
 ·subst h
  rw [X2u] at hu
  injection hu with hu
  subst hu
  simp [Act.put,hf.s,hd']
 ·rw [X3l _ _ h] at hu
  simp [Act.put,Wh h,hf.h t u hu]
theorem Fr.put_none{a:Act}{n:Nat}{e:List (Nat×Value)}(hf:Fr a n e)(v:Value) : Fr (a.put none v) n e:=hf
def Sub(e:List (Nat×Value)) : List (Nat×Value)->Prop
 | []=>True
 | (t,v)::l=>look t e=some v/\Sub e l
theorem Fr.sub{a:Act}{n:Nat}{e e':List (Nat×Value)}(hf:Fr a n e)(hs:Sub e e') : Fr a n e':=by
 refine ⟨hf.d,hf.s,?_⟩
 induction e' with
 | nil=>intro t v h;cases h
 | cons p l ih=>
  obtain ⟨k,u⟩:=p;intro t v h
  by_cases hk:k=t
  ·subst hk
   rw [X2u] at h
   injection h with h
   subst h
   exact hf.h _ _ hs.1
  ·rw [X3l _ _ hk] at h
   exact ih hs.2 t v h
theorem Fr.sb{a:Act}{n:Nat}{e e':List (Nat×Value)}(hf:Fr a n e)(hs:Sub e e':=by repeat (first|exact trivial|refine ⟨rfl,?_⟩)) : Fr a n e':=hf.sub hs
def zipFrom:Nat->List Value->List (Nat×Value)
 | _,[]=>[]
 | k,v::l=>(k,v)::zipFrom (k+1) l
theorem X8i{l:List Value}{t:Nat}{v:Value} : ∀ {k:Nat},look t (zipFrom k l)=some v->k<=t/\l[t-k]? = some v:=by
 induction l with
 | nil=>intro k h;cases h
 | cons u l ih=>
  intro k h
  simp only [zipFrom] at h
  by_cases hk:k=t
  ·subst hk
   rw [X2u] at h
   exact ⟨Qb _,by simpa using h⟩
  ·rw [X3l _ _ hk] at h
   obtain ⟨h1,h2⟩:=ih h
   refine ⟨by omega,?_⟩
   have:t-k=(t-(k+1))+1:=by omega
   rw [this,List.getElem?_cons_succ]
   exact h2
theorem Xg3{P:Program}{f:FuncId}{fn:Func}{c:Code}{args:List Value}{w:World}{R:Ending->World->Prop}
  (hf:P.funcs[f]? = some fn) (hb:fn.body=some c) (n:Nat) (hn:fn.ntmps=n) (hl:Nat.ble args.length n=true)
  (h:∀ a,Fr a n (zipFrom 0 args)->c.wp P (bodyPost P fn R) a w) : Calls P f args.toArray w R:=by
 refine calls_of_wp hf hb (h _ ⟨rfl,?_,?_⟩)
 ·have:args.length<=n:=by simpa [Nat.ble_eq] using hl
  simp [hn];omega
 ·intro t v hv;obtain ⟨_,h2⟩:=X8i hv
  have hlt:t<args.length:=by
   have:=(Qg.1 h2).1
   simpa using this
  simp only [Nat.sub_zero] at h2
  rw [Array.getElem?_append_left (by simpa using hlt)]
  simpa using h2
def Ev(P:Program)(o:Oper)(a:Act)(w:World)(v:Value) : Prop:=∀ w',Below w.heap.size w w'->(execOp a.eval o).run P w'=.ok (.value v) w'
def EfU(P:Program)(R:Value->World->Prop) : Result Next->Prop
 | .ok (.value v) w'=>R v w'
 | .ok .skip w'=>R undef w'
 | .ok (.enter f args) w'=>Calls P f args w' fun e w''=>∃ v,e=.returned v/\R v w''
 | .ok (.row row args) w'=>Rows P row args w' R
 | _=>False
def Ef(P:Program)(o:Oper)(a:Act)(w:World)(R:Value->World->Prop) : Prop:=EfU P R ((execOp a.eval o).run P w)
theorem Ef.wp{P:Program}{o:Oper}{a:Act}{w:World}{R:Value->World->Prop}(h:Ef P o a w R){K:Act->World->Prop}{Q:Exit->Act->World->Prop}
  (hK:∀ v w',R v w'->K (a.put o.dst v) w') : o.wp P a w K Q:=by
 unfold Ef at h
 unfold Oper.wp
 generalize (execOp a.eval o).run P w=r at *
 cases r with
 | ok nx w'=>
  cases nx<;>simp only [EfU] at h<;>simp only [Oper.upon]
  case value u=>exact hK _ _ h
  case skip=>exact hK _ _ h
  case enter f args=>
   refine Calls.mono h fun e w'' ⟨v,he,hR⟩=>?_
   subst he
   exact hK _ _ hR
  case row row args=>exact Rows.mono h fun u w'' hR=>hK _ _ hR
 | halt x w'=>simp only [EfU] at h
def EvW(P:Program)(o:Oper)(n:Nat)(e:List (Nat×Value))(w:World)(v:Value) : Prop:=∀ a,Fr a n e->Ev P o a w v
def EfW(P:Program)(o:Oper)(n:Nat)(e:List (Nat×Value))(w:World)(R:Value->World->Prop) : Prop:=∀ a,Fr a n e->Ef P o a w R
theorem Ef.of_run{P:Program}{o:Oper}{a:Act}{w w':World}{v:Value}(h:(execOp a.eval o).run P w=.ok (.value v) w') : Ef P o a w fun u w1=>u=v/\w1=w':=by
 unfold Ef
 rw [h]
 exact ⟨rfl,rfl⟩
theorem Ef.of_skip{P:Program}{o:Oper}{a:Act}{w w':World}(h:(execOp a.eval o).run P w=.ok .skip w') : Ef P o a w fun u w1=>u=undef/\w1=w':=by
 unfold Ef
 rw [h]
 exact ⟨rfl,rfl⟩
theorem Ef.mono{P:Program}{o:Oper}{a:Act}{w:World}{R R':Value->World->Prop}(h:Ef P o a w R)(hr:∀ v w',R v w'->R' v w') : Ef P o a w R':=by
 unfold Ef at *
 generalize (execOp a.eval o).run P w=r at *
 cases r with
 | ok nx w'=>
  cases nx<;>simp only [EfU] at h ⊢
  case value u=>exact hr _ _ h
  case skip=>exact hr _ _ h
  case enter f args=>exact Calls.mono h fun e w'' ⟨v,he,hR⟩=>⟨v,he,hr _ _ hR⟩
  case row row args=>exact Rows.mono h hr
 | halt x w'=>simp only [EfU] at h
theorem Ef.of_ev{P:Program}{o:Oper}{a:Act}{w:World}{v:Value}(h:Ev P o a w v) : Ef P o a w fun u w1=>u=v/\w1=w:=Ef.of_run (h w (Below.refl _ _))
def Want(ops:Array Oper)(o:Oper)(e:List (Nat×Value)) : Prop:=
 match o.guard with
 | none=>True
 | some (j,b)=>∃ t b',(ops[j]?).bind (·.dst)=some t/\look t e=some (.bool b')/\b'=b
def notB:Value->Bool->Prop
 | .bool b',b=>b' = !b
 | _,_=>True
def Pass(ops:Array Oper)(o:Oper)(e:List (Nat×Value)) : Prop:=
 match o.guard with
 | none=>False
 | some (j,b)=>∃ t v,(ops[j]?).bind (·.dst)=some t/\look t e=some v/\notB v b
theorem bz(w:World) : Below w.heap.size w w:=Below.refl _ _
def WantC(ops:Array Oper)(o:Oper)(e:List (Nat×Value)) : Prop:=
 match o.guard with
 | none=>True
 | some (j,b)=>match (ops[j]?).bind (·.dst) with
  | some t=>match look t e with
   | some (.bool b')=>b'=b
   | _=>False
  | none=>False
def PassC(ops:Array Oper)(o:Oper)(e:List (Nat×Value)) : Prop:=
 match o.guard with
 | none=>False
 | some (j,b)=>match (ops[j]?).bind (·.dst) with
  | some t=>match look t e with
   | some v=>notB v b
   | none=>False
  | none=>False
theorem gW{ops:Array Oper}{o:Oper}{e:List (Nat×Value)}(h:WantC ops o e) : Want ops o e:=by grind [Want,WantC]
theorem gP{ops:Array Oper}{o:Oper}{e:List (Nat×Value)}(h:PassC ops o e) : Pass ops o e:=by
 unfold PassC at h
 unfold Pass
 split
 ·rename_i hg
  rw [hg] at h
  exact h
 ·rename_i j b hg
  rw [hg] at h
  simp only at h
  split at h
  ·rename_i t ht
   split at h
   ·rename_i v hv
    exact ⟨t,v,ht,hv,h⟩
   ·cases h
  ·cases h
theorem Want.wanted{ops:Array Oper}{o:Oper}{a:Act}{n:Nat}{e:List (Nat×Value)}(h:Want ops o e)(hf:Fr a n e) : Region.wanted o (yielded ops a.tmps)=true:=by
 unfold Want at h
 unfold Region.wanted
 split at h
 ·rename_i hg;simp [hg]
 ·rename_i j b hg
  obtain ⟨t,b',h1,h2,h3⟩:=h
  simp only [hg]
  unfold yielded
  simp [h1,hf.h _ _ h2,h3]
theorem Pass.wanted{ops:Array Oper}{o:Oper}{a:Act}{n:Nat}{e:List (Nat×Value)}(h:Pass ops o e)(hf:Fr a n e) : Region.wanted o (yielded ops a.tmps)=false:=by
 unfold Pass at h
 unfold Region.wanted
 split at h
 ·cases h
 ·rename_i j b hg
  obtain ⟨t,v,h1,h2,h3⟩:=h
  simp only [hg]
  unfold yielded
  rw [h1,Qz,hf.h _ _ h2]
  cases v<;>first|rfl|(simp only [notB] at h3;subst h3;cases b<;>rfl)
section
variable {P : Program} {ops : Array Oper} {Q : Exit -> Act -> World -> Prop} {a : Act} {w : World} {rest : List Oper} {o : Oper} {n d : Nat} {e : List (Nat × Value)}
theorem Xh6{R:Value->World->Prop}(hf:Fr a n e)(hw:Want ops o e)(hd:o.dst=some d)(hn:Nat.blt d n=true)(hr:Ef P o a w R)
  (h:∀ a' v w',R v w'->Fr a' n ((d,v)::e)->wpList P ops Q rest a' w') : wpList P ops Q (o::rest) a w:=
 wpList_step fun K hK=>by
  rw [Q4 (hw.wanted hf)]
  exact hr.wp fun v w' hR=>hK _ _ (h _ v w' hR (by rw [hd];exact hf.put d v hn))
theorem Xp5{R:Value->World->Prop}(hf:Fr a n e)(hw:Want ops o e)(hd:o.dst=none)(hr:Ef P o a w R)
  (h:∀ a' v w',R v w'->Fr a' n e->wpList P ops Q rest a' w') : wpList P ops Q (o::rest) a w:=
 wpList_step fun K hK=>by
  rw [Q4 (hw.wanted hf)]
  exact hr.wp fun v w' hR=>hK _ _ (h _ v w' hR (by rw [hd];exact hf.put_none v))
theorem Xn4{v:Value}(hf:Fr a n e)(hw:Want ops o e)(hd:o.dst=some d)(hn:Nat.blt d n=true)(hr:Ev P o a w v)
  (h:∀ a',Fr a' n ((d,v)::e)->wpList P ops Q rest a' w) : wpList P ops Q (o::rest) a w:=
 Xh6 hf hw hd hn (Ef.of_ev hr) fun a' v' w' hR hf'=>by
  obtain ⟨rfl,rfl⟩:=hR;exact h a' hf'
theorem Xpv(hf:Fr a n e)(hw:Pass ops o e)(hd:o.dst=some d)(hn:Nat.blt d n=true)
  (h:∀ a',Fr a' n ((d,undef)::e)->wpList P ops Q rest a' w) : wpList P ops Q (o::rest) a w:=
 wpList_step fun K hK=>by
  rw [Q3 (by rw [hw.wanted hf];simp)]
  exact hK _ _ (h _ (by rw [hd];exact hf.put d undef hn))
end
section
variable {P : Program} {ops : Array Oper} {Q : Exit -> Act -> World -> Prop} {a : Act} {w : World} {rest : List Oper} {op : Op} {ty : TypeId} {pos : String} {af : Array Edge} {n d : Nat} {e : List (Nat × Value)}
theorem l_e{v:Value}(hf:Fr a n e)(hn:Nat.blt d n=true)(hr:Ev P ⟨some d,op,ty,pos,af,none⟩ a w v)(h:∀ a',Fr a' n ((d,v)::e)->wpList P ops Q rest a' w) : wpList P ops Q (⟨some d,op,ty,pos,af,none⟩::rest) a w:=Xn4 hf trivial rfl hn hr h
theorem l_f{R:Value->World->Prop}(hf:Fr a n e)(hn:Nat.blt d n=true)(hr:Ef P ⟨some d,op,ty,pos,af,none⟩ a w R)(h:∀ a' v w',R v w'->Fr a' n ((d,v)::e)->wpList P ops Q rest a' w') : wpList P ops Q (⟨some d,op,ty,pos,af,none⟩::rest) a w:=Xh6 hf trivial rfl hn hr h
theorem Xum{R:Value->World->Prop}(hf:Fr a n e)(hr:Ef P ⟨none,op,ty,pos,af,none⟩ a w R)(h:∀ a' v w',R v w'->Fr a' n e->wpList P ops Q rest a' w') : wpList P ops Q (⟨none,op,ty,pos,af,none⟩::rest) a w:=Xp5 hf trivial rfl hr h
theorem Xvf{x:Operand}{v:Value}(hf:Fr a n e)(hx:ev e x=some v)(hn:Nat.blt d n=true)(h:∀ a',Fr a' n ((d,v)::e)->wpList P ops Q rest a' w) : wpList P ops Q (⟨some d,.move x,ty,pos,af,none⟩::rest) a w:=l_e hf hn (fun w' _=>by simp [execOp,hf.ev hx]) h
theorem Xud{x:Operand}{v:Value}(hf:Fr a n e)(hx:ev e x=some v)(hn:Nat.blt d n=true)(h:∀ a',Fr a' n ((d,v)::e)->wpList P ops Q rest a' w) : wpList P ops Q (⟨some d,.assign x,ty,pos,af,none⟩::rest) a w:=l_e hf hn (fun w' _=>by simp [execOp,hf.ev hx]) h
end
structure Only (b:Nat) (w w':World) : Prop where
 os:w'.os=w.os
 tape:w'.tape=w.tape
 output:w'.output=w.output
 size:w'.heap.size=w.heap.size
 block:∀ k,k≠b->w'.heap[k]? = w.heap[k]?
theorem Only.refl(b:Nat)(w:World) : Only b w w:=⟨rfl,rfl,rfl,rfl,fun _ _=>rfl⟩
theorem Only.trans{b:Nat}{w w' w'':World}(h:Only b w w')(k:Only b w' w'') : Only b w w'':=
 ⟨k.os.trans h.os,k.tape.trans h.tape,k.output.trans h.output,k.size.trans h.size,fun i hi=>(k.block i hi).trans (h.block i hi)⟩
structure Kept (b B:Nat) (w w':World) : Prop where
 os:w'.os=w.os
 tape:w'.tape=w.tape
 output:w'.output=w.output
 size:w.heap.size<=w'.heap.size
 block:∀ k,k<B->k≠b->w'.heap[k]? = w.heap[k]?
theorem Kept.refl(b B:Nat)(w:World) : Kept b B w w:=⟨rfl,rfl,rfl,Qb _,fun _ _ _=>rfl⟩
theorem Kept.of_below{b B:Nat}{w w':World}(h:Below B w w') : Kept b B w w':=⟨h.os,h.tape,h.output,h.size,fun k hk _=>h.block k hk⟩
theorem Kept.trans{b B:Nat}{w w' w'':World}(h:Kept b B w w')(k:Below B w' w'') : Kept b B w w'':=
 ⟨k.os.trans h.os,k.tape.trans h.tape,k.output.trans h.output,Q0 h.size k.size,fun i hi hn=>(k.block i hi).trans (h.block i hi hn)⟩
theorem Kept.transK{b B:Nat}{w w' w'':World}(h:Kept b B w w')(k:Kept b B w' w'') : Kept b B w w'':=
 ⟨k.os.trans h.os,k.tape.trans h.tape,k.output.trans h.output,Q0 h.size k.size,fun i hi hn=>(k.block i hi hn).trans (h.block i hi hn)⟩
theorem Kept.mono{b B B':Nat}{w w':World}(h:Kept b B w w')(hB:B'<=B) : Kept b B' w w':=⟨h.os,h.tape,h.output,h.size,fun k hk=>h.block k (Nat.lt_of_lt_of_le hk hB)⟩
theorem Kept.oy{b b' B:Nat}{w w' w'':World}(h:Kept b B w w')(ho:Only b' w' w'')(hB:B<=b') : Kept b B w w'':=
 h.trans ⟨ho.os,ho.tape,ho.output,by rw [ho.size];exact Qb _,fun k hk=>ho.block k (by omega)⟩
theorem Kept.self{b B:Nat}{w w' w'':World}(h:Kept b B w w')(ho:Only b w' w'') : Kept b B w w'':=
 h.transK ⟨ho.os,ho.tape,ho.output,by rw [ho.size];exact Qb _,fun k _ hk=>ho.block k hk⟩
theorem Kept.mid{b:Nat}{w w':World}(h:Kept b w.heap.size w w') : ∃ w1,Only b w w1/\(b<w.heap.size->w1.heap[b]? = w'.heap[b]?)/\Below w1.heap.size w1 w':=by
 cases hb:w'.heap[b]? with
 | none=>
  have hlt:w.heap.size<=b:=Q0 h.size (Array.getElem?_eq_none_iff.1 hb)
  refine ⟨w,Only.refl _ _,fun h'=>by omega,⟨h.os,h.tape,h.output,h.size,fun k hk=>h.block k hk (by omega)⟩⟩
 | some o=>
  refine ⟨{ w with heap:=w.heap.setIfInBounds b o },⟨rfl,rfl,rfl,by simp,fun k hk=>?_⟩,fun h'=>?_,⟨h.os,h.tape,h.output,by simpa using h.size,fun k hk=>?_⟩⟩
  ·show (w.heap.setIfInBounds b o)[k]? = _
   rw [Wh (Ne.symm hk)]
  ·show (w.heap.setIfInBounds b o)[b]? = _
   simp [h']
  ·have hk':k<w.heap.size:=by simpa using hk
   show _=(w.heap.setIfInBounds b o)[k]?
   by_cases hkb:k=b
   ·subst hkb
    simp [hk',hb]
   ·rw [Wh (Ne.symm hkb)]
    exact h.block k hk' hkb
theorem btr{w0 w w':World}(h:Below w0.heap.size w0 w)(hE:Below w.heap.size w w') : Below w0.heap.size w0 w':=h.trans (hE.mono h.size)
theorem ktr{b:Nat}{w0 w w':World}(h:Kept b w0.heap.size w0 w)(hE:Below w.heap.size w w') : Kept b w0.heap.size w0 w':=h.trans (hE.mono h.size)
inductive Vk
 | but (b:Nat)
 | base (N:Nat)
instance:Coe Nat Vk:=⟨Vk.but⟩
def Keep(V:Option Vk)(w w':World) : Prop:=match V with
 | none=>Below w.heap.size w w'
 | some (.but b)=>∃ w1,Only b w w1/\Below w.heap.size w1 w'
 | some (.base N)=>Below (min N w.heap.size) w w'
theorem Keep.refl(V:Option Vk)(w:World) : Keep V w w:=by
 cases V with
 | none=>exact Below.refl _ _
 | some b=>cases b with
  | but b=>exact ⟨w,Only.refl _ _,Below.refl _ _⟩
  | base N=>exact Below.refl _ _
theorem Keep.kept{b:Nat}{w w':World}(h:Keep (some b) w w') : Kept b w.heap.size w w':=by
 obtain ⟨w1,h1,h2⟩:=h;exact (Kept.self (Kept.refl b w.heap.size w) h1).trans h2
theorem Kept.keep{b:Nat}{w w':World}(h:Kept b w.heap.size w w') : Keep (some b) w w':=by
 obtain ⟨w1,h1,_,h2⟩:=h.mid;exact ⟨w1,h1,by rw [<- h1.size];exact h2⟩
theorem Keep.of_below{V:Option Vk}{w w':World}(h:Below w.heap.size w w') : Keep V w w':=by
 cases V with
 | none=>exact h
 | some b=>cases b with
  | but b=>exact ⟨w,Only.refl _ _,h⟩
  | base N=>exact Below.mono h (Nat.min_le_right _ _)
theorem Keep.trans{V:Option Vk}{w w' w'':World}(h:Keep V w w')(k:Keep V w' w'') : Keep V w w'':=by
 cases V with
 | none=>exact Below.trans h (Below.mono k h.size)
 | some b=>cases b with
  | but b=>exact (h.kept.transK (k.kept.mono h.kept.size)).keep
  | base N=>exact Below.trans h (Below.mono k (by have:=h.size;omega))
section
variable {P : Program} {ops : Array Oper} {Q : Act -> World -> Prop} {tl : Nat -> Bool} {V : Option Vk}
def wpR(P:Program)(ops:Array Oper)(V:Option Vk)(tl:Nat->Bool)(i:Nat)(K:Act->World->Prop)(a:Act)(w:World) : Prop:=
 match ops[i]? with
 | none=>K a w
 | some o=>if Region.wanted o (yielded ops a.tmps) then Ef P o a w (fun v w'=>(tl i=false->Keep V w w')/\K (a.put o.dst v) w') else K (a.put o.dst undef) w
def wpS(P:Program)(ops:Array Oper)(V:Option Vk)(tl:Nat->Bool)(Q:Act->World->Prop) : Nat->Array Bool->Act->World->Prop
 | 0,listed,a,w=>Region.ready .any ops listed=[]/\Q a w
 | fuel+1,listed,a,w=>(Region.ready .any ops listed=[]->Q a w)/\∀ i ∈ Region.ready .any ops listed,wpR P ops V tl i (wpS P ops V tl Q fuel (listed.setIfInBounds i true)) a w
theorem Xhg{i:Nat}{K K':Act->World->Prop}{a:Act}{w:World}(h:∀ a w,K a w->K' a w)(hh:wpR P ops V tl i K a w) : wpR P ops V tl i K' a w:=by
 unfold wpR at *
 split
 ·exact h _ _ (by simpa [*] using hh)
 ·rename_i o ho
  simp only [ho] at hh
  split
  ·rename_i hw
   simp only [hw,if_true] at hh
   exact hh.mono fun v w' ⟨h1,h2⟩=>⟨h1,h _ _ h2⟩
  ·rename_i hw
   simp only [hw] at hh
   exact h _ _ hh
theorem X26{Q':Exit->Act->World->Prop}(hQ:∀ a w,Q a w->Q' .normal a w) : ∀ (fuel:Nat) (listed:Array Bool) (a:Act) (w:World),wpS P ops V tl Q fuel listed a w->wpAny P .any ops Q' fuel listed a w
 | 0,_,_,_,h=>⟨h.1,hQ _ _ h.2⟩
 | fuel+1,listed,a,w,h=>by
  refine ⟨fun h0=>hQ _ _ (h.1 h0),fun i hi=>?_⟩
  have h1:=h.2 i hi
  unfold wpR at h1
  unfold wpOp
  split
  ·rename_i ho;simp only [ho] at h1;exact X26 hQ fuel _ _ _ h1
  ·rename_i o ho
   simp only [ho] at h1
   split
   ·rename_i hw
    simp only [hw,if_true] at h1
    exact .inl (h1.wp fun v w' hR=>X26 hQ fuel _ _ _ hR.2)
   ·rename_i hw
    simp only [hw] at h1
    exact X26 hQ fuel _ _ _ h1
def YC(P:Program)(ops:Array Oper)(C:World->Prop)(o:Oper)(v:Value)(a:Act) : Prop:=
 (Region.wanted o (yielded ops a.tmps)=true/\∀ w,C w->(execOp a.eval o).run P w=.ok (.value v) w)∨(Region.wanted o (yielded ops a.tmps)=false/\v=undef)
theorem YC.of_same{C:World->Prop}{o:Oper}{v:Value}{a a':Act}(hy:YC P ops C o v a)(he:execOp a'.eval o=execOp a.eval o)
  (hw:Region.wanted o (yielded ops a'.tmps)=Region.wanted o (yielded ops a.tmps)) : YC P ops C o v a':=by
 unfold YC at *
 rw [he,hw]
 exact hy
theorem YC.wpR{C:World->Prop}{i:Nat}{o:Oper}{v:Value}{a:Act}{w:World}(hi:ops[i]? = some o)(hC:C w)(hy:YC P ops C o v a){K:Act->World->Prop}(h:K (a.put o.dst v) w) : wpR P ops V tl i K a w:=by
 unfold YtipiejccbmifnaaGreatDoor.wpR
 simp only [hi]
 rcases hy with ⟨hw,hv⟩|⟨hw,rfl⟩
 ·simp only [hw,if_true]
  exact (Ef.of_run (hv w hC)).mono fun u w' ⟨e1,e2⟩=>by subst e1;subst e2;exact ⟨fun _=>Keep.refl _ _,h⟩
 ·simp only [hw,Bool.false_eq_true,if_false];exact h
theorem Xng{oi oj:Oper}{v:Value}(h1:∀ d,oi.dst=some d->d ∉ oj.looksAt ops)(hsj:∀ cs b,oj.op≠.select cs b)
  {a:Act} {w:World} {R:Value->World->Prop} (h:Ef P oj (a.put oi.dst v) w R) : Ef P oj a w R:=by
 unfold Ef at *
 rwa [execOp_put oj hsj a oi.dst v h1] at h
theorem Xiq{C:World->Prop}{j:Nat}{oi oj:Oper}{v:Value}(hj:ops[j]? = some oj)(hap:oi.apart ops oj=true)
  (hsi:∀ cs b,oi.op≠.select cs b) (hsj:∀ cs b,oj.op≠.select cs b) (hC:∀ w w',C w->(tl j=false->Keep V w w')->C w') {K:Act->World->Prop} {a:Act} {w:World} (hw0:C w)
  (hy:YC P ops C oi v a) (h:wpR P ops V tl j K (a.put oi.dst v) w) : wpR P ops V tl j (fun a' w'=>C w'/\YC P ops C oi v a'/\K (a'.put oi.dst v) w') a w:=by
 obtain ⟨h1,h2,h3⟩:=Oper.apart_spec hap
 have keep:∀ (a:Act),YC P ops C oi v a->∀ u,YC P ops C oi v (a.put oj.dst u):=fun a hy u=>
  hy.of_same (execOp_put oi hsi a oj.dst u h3) (wanted_put oi a oj.dst u h3)
 unfold wpR at *
 simp only [hj] at *
 rw [wanted_put oj a oi.dst v h1] at h
 split
 ·rename_i hw
  simp only [hw,if_true] at h
  exact (Xng h1 hsj h).mono fun u w' ⟨hb,hk⟩=>⟨hb,hC w w' hw0 hb,keep a hy u,by rw [<- Act.put_comm a v u h2];exact hk⟩
 ·rename_i hw
  simp only [hw] at h
  exact ⟨hw0,keep a hy _,by rw [<- Act.put_comm a v undef h2];exact h⟩
def Closed(ops:Array Oper)(listed:Array Bool) : Prop:=∀ k ok,ops[k]? = some ok->listed.getD k false=true->∀ e ∈ ok.after,Region.binds .any e=true->listed.getD e.on false=true
theorem X4k{listed:Array Bool}{j k:Nat}(h:listed.getD k false=true) : (listed.setIfInBounds j true).getD k false=true:=by
 rcases W4 k listed.size with hk|hk
 ·by_cases hjk:j=k
  ·subst hjk;simp [hk]
  ·simpa [hk,Array.getElem_setIfInBounds_ne _ hjk] using h
 ·simp [We hk] at h
theorem Closed.set{listed:Array Bool}{j:Nat}{oj:Oper}(h:Closed ops listed)(hj:ops[j]? = some oj)(hall:∀ e ∈ oj.after,Region.binds .any e=true->listed.getD e.on false=true) : Closed ops (listed.setIfInBounds j true):=fun k ok hk hl e he hb=>by
 by_cases hjk:j=k
 ·subst hjk
  rw [hj] at hk
  injection hk with hk
  subst hk
  exact X4k (hall e he hb)
 ·rw [getD_set_ne false hjk] at hl
  exact X4k (h k ok hk hl e he hb)
def reach(ops:Array Oper)(i:Nat) : Nat->Nat->Bool
 | 0,_=>false
 | f+1,j=>match ops[j]? with
  | some oj=>oj.after.any fun e=>Region.binds .any e&&(e.on==i||reach ops i f e.on)
  | none=>false
theorem X59{listed:Array Bool}{i:Nat}(hcl:Closed ops listed) : ∀ (f j:Nat) (oj:Oper),ops[j]? = some oj->(∀ e ∈ oj.after,Region.binds .any e=true->listed.getD e.on false=true)->reach ops i f j=true->listed.getD i false=true
 | 0,_,_,_,_,h=>by cases h
 | f+1,j,oj,hj,hall,h=>by
  simp only [reach,hj] at h
  obtain ⟨e,he,hb⟩:=Array.any_eq_true'.1 h
  simp only [Qd,Bool.or_eq_true,beq_iff_eq] at hb
  have h1:=hall e he hb.1
  rcases hb.2 with h2|h2
  ·rw [<- h2];exact h1
  ·cases hk:ops[e.on]? with
   | none=>
    cases f with
    | zero=>cases h2
    | succ f=>simp only [reach,hk] at h2;cases h2
   | some ok=>exact X59 hcl f e.on ok hk (hcl e.on ok hk h1) h2
theorem X5t{C:World->Prop}{i:Nat}{oi:Oper}{v:Value}(hi:ops[i]? = some oi)(hsel:∀ (j:Nat) (o:Oper) cs b,ops[j]? = some o->o.op≠.select cs b)
  (hC:∀ j oj,ops[j]? = some oj->(∀ listed,Closed ops listed->(∀ e ∈ oj.after,Region.binds .any e=true->listed.getD e.on false=true)->listed.getD i true=false->∀ w w',C w->(tl j=false->Keep V w w')->C w')) :
  ∀ (fuel:Nat) (listed:Array Bool) (a:Act) (w:World),Closed ops listed->
   (∀ j oj,ops[j]? = some oj->j≠i->listed.getD j true=false->(∀ e ∈ oj.after,Region.binds .any e=true->e.on≠i)->oi.apart ops oj=true)->
   i ∈ Region.ready .any ops listed->C w->YC P ops C oi v a->
   wpS P ops V tl Q fuel (listed.setIfInBounds i true) (a.put oi.dst v) w->wpS P ops V tl Q (fuel+1) listed a w:=by
 intro fuel
 induction fuel with
 | zero=>
  intro listed a w _ _ hr hw hy H
  refine ⟨fun h=>(by rw [h] at hr;cases hr),fun j hj=>?_⟩
  by_cases hji:j=i
  ·subst hji;exact hy.wpR hi hw H
  ·have:=ready_mono hj hji
   rw [H.1] at this
   cases this
 | succ fuel ih=>
  intro listed a w hcl hfree hr hw hy H
  refine ⟨fun h=>(by rw [h] at hr;cases hr),fun j hj=>?_⟩
  by_cases hji:j=i
  ·subst hji;exact hy.wpR hi hw H
  ·have h1:=H.2 j (ready_mono hj hji);obtain ⟨hjun,oj,hoj,hall⟩:=mem_ready.1 hj
   have hnot:∀ e ∈ oj.after,Region.binds .any e=true->e.on≠i:=fun e he hb heq=>by
    have h1:=hall e he hb;have h0:=(mem_ready.1 hr).1
    rw [heq] at h1
    rcases W4 i listed.size with h'|h'
    ·simp [h'] at h0 h1;rw [h0] at h1;cases h1
    ·simp [We h'] at h1
   have h2:=Xiq hoj (hfree j oj hoj hji hjun hnot) (fun cs b=>hsel i oi cs b hi) (fun cs b=>hsel j oj cs b hoj) (hC j oj hoj listed hcl hall (mem_ready.1 hr).1) hw hy h1
   have hfree':∀ k ok,ops[k]? = some ok->k≠i->(listed.setIfInBounds j true).getD k true=false->
     (∀ e ∈ ok.after,Region.binds .any e=true->e.on≠i)->oi.apart ops ok=true:=fun k ok hk hki hun hno=>by
    refine hfree k ok hk hki ?_ hno
    by_cases hjk:j=k
    ·subst hjk;exact hjun
    ·rw [getD_set_ne true hjk] at hun;exact hun
   refine Xhg (fun a' w' h3=>ih (listed.setIfInBounds j true) a' w' (hcl.set hoj hall) hfree' (ready_mono hr (Ne.symm hji)) h3.1 h3.2.1 ?_) h2
   rw [Array.setIfInBounds_comm _ _ hji]
   exact h3.2.2
def mask(ops:Array Oper)(done:List Nat) : Array Bool:=(Array.range ops.size).map fun i=>done.contains i
theorem X3v(ops:Array Oper)(done:List Nat)(i:Nat) : (mask ops done).setIfInBounds i true=mask ops (i::done):=by grind [mask]
theorem Xag(ops:Array Oper) : Array.replicate ops.size false=mask ops []:=by
 apply Array.ext<;>simp [mask]
def closedB(ops:Array Oper)(done:List Nat) : Bool:=done.all fun k=>match ops[k]? with
 | some ok=>ok.after.all fun e=>!(Region.binds .any e)||done.contains e.on&&Nat.blt e.on ops.size
 | none=>true
def mayFirst(ops:Array Oper)(done:List Nat)(i:Nat) : Bool:=
 Region.noSelect ops&&Region.free .any ops (mask ops done) i&&(Region.ready .any ops (mask ops done)).contains i&&closedB ops done
theorem X7w{done:List Nat}{k:Nat}(d:Bool)(h:k<ops.size) : (mask ops done).getD k d=done.contains k:=by
 simp [mask,h]
theorem mask_getD'{done:List Nat}{k:Nat}(h:(mask ops done).getD k false=true) : done.contains k=true:=by
 rcases W4 k ops.size with h'|h'
 ·rwa [X7w false h'] at h
 ·simp [mask,h'] at h
theorem X3e{done:List Nat}(h:closedB ops done=true) : Closed ops (mask ops done):=fun k ok hk hl e he hb=>by
 have h1:=mask_getD' hl
 simp only [closedB,W1] at h
 have h2:=h k (by simpa using h1)
 simp only [hk] at h2
 have h3:=Array.all_eq_true'.1 h2 e he
 simp only [hb,Bool.not_true,Bool.false_or,Qd] at h3
 have h4:e.on<ops.size:=by simpa [Nat.blt_eq] using h3.2
 rw [X7w false h4]
 exact h3.1
def tailWaits(ops:Array Oper)(tl:Nat->Bool)(i:Nat) : Bool:=
 (List.range ops.size).all fun j=>!tl j||reach ops i 9 j
theorem X6h{i:Nat}(h:tailWaits ops tl i=true)(j:Nat)(oj:Oper)(hj:ops[j]? = some oj){listed:Array Bool}(hcl:Closed ops listed)(hall:∀ e ∈ oj.after,Region.binds .any e=true->listed.getD e.on false=true)(hi:listed.getD i true=false) : tl j=false:=by
 simp only [tailWaits,W1,W2] at h
 have h1:=h j (Qp.1 hj).1
 simp only [Bool.or_eq_true,Bool.not_eq_true'] at h1
 rcases h1 with h1|h1
 ·exact h1
 ·have h2:=X59 hcl 9 j oj hj hall h1
  rcases W4 i listed.size with h'|h'
  ·simp [h'] at h2 hi;rw [h2] at hi;cases hi
  ·simp [h'] at h2
section
variable {a : Act} {w : World} {n d fuel : Nat} {e : List (Nat × Value)} {o : Oper} {done : List Nat}
theorem Xf1(i:Nat){v:Value}(hi:ops[i]? = some o)(hm:mayFirst ops done i=true)(ht:tailWaits ops tl i=true)(hf:Fr a n e)(hw:Want ops o e)(hd:o.dst=some d)(hn:Nat.blt d n=true)
  (hr:∀ w',Keep V w w'->(execOp a.eval o).run P w'=.ok (.value v) w') (h:∀ a',Fr a' n ((d,v)::e)->wpS P ops V tl Q fuel (mask ops (i::done)) a' w) : wpS P ops V tl Q (fuel+1) (mask ops done) a w:=by
 simp only [mayFirst,Qd] at hm
 refine X5t (C:=fun w'=>Keep V w w') hi (Region.noSelect_spec hm.1.1.1) (fun j oj hj lst hcl hall hun w1 w2 h1 h2=>?_) fuel _ a w (X3e hm.2) (Region.free_spec hi hm.1.1.2) (by simpa using hm.1.2) (Keep.refl _ _) (.inl ⟨hw.wanted hf,hr⟩) ?_
 ·exact h1.trans (h2 (X6h ht j oj hj hcl hall hun))
 ·rw [X3v]
  exact h _ (by rw [hd];exact hf.put d v hn)
theorem Xp3(i:Nat){v:Value}(hi:ops[i]? = some o)(hm:mayFirst ops done i=true)(ht:tailWaits ops tl i=true)(hf:Fr a n e)(hw:Want ops o e)(hd:o.dst=some d)(hn:Nat.blt d n=true)
  (hr:Ev P o a w v) (h:∀ a',Fr a' n ((d,v)::e)->wpS P ops none tl Q fuel (mask ops (i::done)) a' w) : wpS P ops none tl Q (fuel+1) (mask ops done) a w:=Xf1 i hi hm ht hf hw hd hn hr h
theorem Xss(i:Nat){b:Nat}{v:Value}(hi:ops[i]? = some o)(hm:mayFirst ops done i=true)(ht:tailWaits ops tl i=true)(hf:Fr a n e)(hw:Want ops o e)(hd:o.dst=some d)(hn:Nat.blt d n=true)
  (hr:∀ w1,Only b w w1->Ev P o a w1 v) (h:∀ a',Fr a' n ((d,v)::e)->wpS P ops (some b) tl Q fuel (mask ops (i::done)) a' w) : wpS P ops (some b) tl Q (fuel+1) (mask ops done) a w:=
 Xf1 i hi hm ht hf hw hd hn (fun w' ⟨w1,h1,h2⟩=>hr w1 h1 w' (by rw [h1.size];exact h2)) h
theorem Xrs(i:Nat){N:Nat}{v:Value}(hi:ops[i]? = some o)(hm:mayFirst ops done i=true)(ht:tailWaits ops tl i=true)(hf:Fr a n e)(hw:Want ops o e)(hd:o.dst=some d)(hn:Nat.blt d n=true)(hN:N<=w.heap.size)
  (hr:∀ w1,Below N w w1->Ev P o a w1 v) (h:∀ a',Fr a' n ((d,v)::e)->wpS P ops (some (.base N)) tl Q fuel (mask ops (i::done)) a' w) : wpS P ops (some (.base N)) tl Q (fuel+1) (mask ops done) a w:=
 Xf1 i hi hm ht hf hw hd hn (fun w' h1=>hr w' (Below.mono h1 (by omega)) w' (Below.refl _ _)) h
theorem Xgf(i:Nat){v:Value}(hi:ops[i]? = some o)(hm:mayFirst ops done i=true)(hf:Fr a n e)(hw:Want ops o e)(hd:o.dst=some d)(hn:Nat.blt d n=true)
  (hr:∀ w,Ev P o a w v) (h:∀ a',Fr a' n ((d,v)::e)->wpS P ops V tl Q fuel (mask ops (i::done)) a' w) : wpS P ops V tl Q (fuel+1) (mask ops done) a w:=by
 simp only [mayFirst,Qd] at hm
 refine X5t (C:=fun _=>True) hi (Region.noSelect_spec hm.1.1.1) (fun _ _ _ _ _ _ _ _ _ _ _=>trivial) fuel _ a w (X3e hm.2) (Region.free_spec hi hm.1.1.2) (by simpa using hm.1.2) trivial (.inl ⟨hw.wanted hf,fun w' _=>hr w' w' (Below.refl _ _)⟩) ?_
 rw [X3v]
 exact h _ (by rw [hd];exact hf.put d v hn)
theorem Xnt(i:Nat)(hi:ops[i]? = some o)(hm:mayFirst ops done i=true)(hf:Fr a n e)(hw:Pass ops o e)(hd:o.dst=some d)(hn:Nat.blt d n=true)
  (h:∀ a',Fr a' n ((d,undef)::e)->wpS P ops V tl Q fuel (mask ops (i::done)) a' w) : wpS P ops V tl Q (fuel+1) (mask ops done) a w:=by
 simp only [mayFirst,Qd] at hm
 refine X5t (C:=fun _=>True) hi (Region.noSelect_spec hm.1.1.1) (fun _ _ _ _ _ _ _ _ _ _ _=>trivial) fuel _ a w (X3e hm.2) (Region.free_spec hi hm.1.1.2) (by simpa using hm.1.2) trivial (.inr ⟨hw.wanted hf,rfl⟩) ?_
 rw [X3v]
 exact h _ (by rw [hd];exact hf.put d undef hn)
theorem s_e{op:Op}{ty:TypeId}{pos:String}{af:Array Edge}(i:Nat){v:Value}(hi:ops[i]? = some ⟨some d,op,ty,pos,af,none⟩)(hm:mayFirst ops done i=true)(ht:tailWaits ops tl i=true)(hf:Fr a n e)(hn:Nat.blt d n=true)
  (hr:Ev P ⟨some d,op,ty,pos,af,none⟩ a w v) (h:∀ a',Fr a' n ((d,v)::e)->wpS P ops none tl Q fuel (mask ops (i::done)) a' w) : wpS P ops none tl Q (fuel+1) (mask ops done) a w:=Xp3 i hi hm ht hf trivial rfl hn hr h
theorem Xua{op:Op}{ty:TypeId}{pos:String}{af:Array Edge}(i:Nat){v:Value}(hi:ops[i]? = some ⟨some d,op,ty,pos,af,none⟩)(hm:mayFirst ops done i=true)(hf:Fr a n e)(hn:Nat.blt d n=true)
  (hr:∀ w,Ev P ⟨some d,op,ty,pos,af,none⟩ a w v) (h:∀ a',Fr a' n ((d,v)::e)->wpS P ops V tl Q fuel (mask ops (i::done)) a' w) : wpS P ops V tl Q (fuel+1) (mask ops done) a w:=Xgf i hi hm hf trivial rfl hn hr h
theorem Xq8(i:Nat)(hr:Region.ready .any ops (mask ops done)=[i])(h:wpR P ops V tl i (wpS P ops V tl Q fuel (mask ops (i::done))) a w) : wpS P ops V tl Q (fuel+1) (mask ops done) a w:=by
 refine ⟨fun h0=>(by rw [hr] at h0;cases h0),fun j hj=>?_⟩
 rw [hr] at hj
 obtain rfl:j=i:=by simpa using hj
 rw [X3v]
 exact h
theorem Xrw(i j:Nat)(hr:Region.ready .any ops (mask ops done)=[i,j])(hi:wpR P ops V tl i (wpS P ops V tl Q fuel (mask ops (i::done))) a w)
  (hj:wpR P ops V tl j (wpS P ops V tl Q fuel (mask ops (j::done))) a w) : wpS P ops V tl Q (fuel+1) (mask ops done) a w:=by
 refine ⟨fun h0=>(by rw [hr] at h0;cases h0),fun k hk=>?_⟩
 rw [hr] at hk
 rw [X3v]
 simp only [Qv,List.not_mem_nil,or_false] at hk
 rcases hk with rfl|rfl
 ·exact hi
 ·exact hj
theorem Xo9(hr:Region.ready .any ops (mask ops done)=[])(h:Q a w) : wpS P ops V tl Q fuel (mask ops done) a w:=by
 cases fuel with
 | zero=>exact ⟨hr,h⟩
 | succ f=>exact ⟨fun _=>h,fun j hj=>by rw [hr] at hj;cases hj⟩
theorem Xq6{i:Nat}{K:Act->World->Prop}{R:Value->World->Prop}(hi:ops[i]? = some o)(hf:Fr a n e)(hw:Want ops o e)(hd:o.dst=some d)(hn:Nat.blt d n=true)
  (hr:Ef P o a w fun v w'=>(tl i=false->Keep V w w')/\R v w') (h:∀ a' v w',R v w'->Fr a' n ((d,v)::e)->K a' w') : wpR P ops V tl i K a w:=by
 unfold wpR
 simp only [hi]
 rw [Q4 (hw.wanted hf)]
 exact hr.mono fun v w' ⟨h1,h2⟩=>⟨h1,h _ v w' h2 (by rw [hd];exact hf.put d v hn)⟩
theorem Xnb{i:Nat}{K:Act->World->Prop}{R:Value->World->Prop}(hi:ops[i]? = some o)(hf:Fr a n e)(hw:Want ops o e)(hd:o.dst=none)
  (hr:Ef P o a w fun v w'=>(tl i=false->Keep V w w')/\R v w') (h:∀ a' v w',R v w'->Fr a' n e->K a' w') : wpR P ops V tl i K a w:=by
 unfold wpR
 simp only [hi]
 rw [Q4 (hw.wanted hf)]
 exact hr.mono fun v w' ⟨h1,h2⟩=>⟨h1,h _ v w' h2 (by rw [hd];exact hf.put_none v)⟩
theorem Xo8{i:Nat}{K:Act->World->Prop}(hi:ops[i]? = some o)(hf:Fr a n e)(hw:Pass ops o e)(hd:o.dst=some d)(hn:Nat.blt d n=true)
  (h:∀ a',Fr a' n ((d,undef)::e)->K a' w) : wpR P ops V tl i K a w:=by
 unfold wpR
 simp only [hi]
 rw [Q3 (by rw [hw.wanted hf];simp)]
 exact h _ (by rw [hd];exact hf.put d undef hn)
theorem Xz(V:Option Vk)(tl:Nat->Bool){id:Nat}{l:List Oper}{Q':Exit->Act->World->Prop}(hm:P.follows .mixedOrders=true)
  (h:∀ w',Below w.heap.size w w'->wpS P l.toArray V tl (Q' .normal) l.length (mask l.toArray []) a w') : (Code.region id l.toArray true).wp P Q' a w:=by
 refine wp_region_any hm ?_
 rw [Xag]
 exact X26 (fun _ _ h=>h) _ _ _ _ (by simpa using h w.drew (Below.refl _ _).drew)
end
end
abbrev Env:=List (Nat×Value)
def At(w:World)(p:Addr)(l:List Value) : Prop:=∀ j v,l[j]? = some v->w.cell? (p.add j)=some v
def Blk(w:World)(b:Nat)(T:TypeId)(l:List Value) : Prop:=w.heap[b]? = some (.cells l.toArray T (0,0))
theorem X5k(p:Addr)(i j:Nat) : (p.add i).add j=p.add (i+j):=by
 unfold Addr.add
 by_cases hi:i=0<;>by_cases hj:j=0<;>simp [hi,hj,Nat.add_assoc]
theorem X4r(p:Addr)(i:Nat) : (p.add i).block=p.block:=by unfold Addr.add;split<;>rfl
theorem X1a(b off i:Nat) : (Addr.mk b off none).add i=⟨b,off+i,none⟩:=by
 unfold Addr.add
 by_cases hi:i=0<;>simp [hi]
theorem Xdm{w:World}{p:Addr}{v:Value}(h:w.cell? p=some v) : p.block<w.heap.size:=by
 rcases W4 p.block w.heap.size with h'|h'
 ·exact h'
 ·simp [World.cell?,We h'] at h
theorem At.bw{w w':World}{p:Addr}{l:List Value}(h:At w p l)(hb:Below w.heap.size w w') : At w' p l:=by
 intro j v hj
 have:=h j v hj
 rw [hb.cell (Xdm this)]
 exact this
theorem At.drop{w:World}{p:Addr}{l:List Value}(h:At w p l)(k:Nat) : At w (p.add k) (l.drop k):=by
 intro j v hj
 rw [X5k]
 exact h (k+j) v (by rw [<- hj,List.getElem?_drop])
theorem At.take{w:World}{p:Addr}{l:List Value}(h:At w p l)(k:Nat) : At w p (l.take k):=by grind [At]
theorem At.nil(w:World)(p:Addr) : At w p []:=fun j v h=>by simp at h
theorem Blk.lt{w:World}{b:Nat}{T:TypeId}{l:List Value}(h:Blk w b T l) : b<w.heap.size:=by grind [Blk]
theorem Blk.cell{w:World}{b:Nat}{T:TypeId}{l:List Value}(h:Blk w b T l)(k:Nat) : w.cell? ⟨b,k,none⟩=l[k]?:=by
 unfold Blk at h
 simp [World.cell?,h]
theorem Blk.at{w:World}{b:Nat}{T:TypeId}{l:List Value}(h:Blk w b T l)(k:Nat) : At w ⟨b,k,none⟩ (l.drop k):=by
 intro j v hj
 rw [X1a,h.cell,<- hj,List.getElem?_drop]
theorem Blk.bw{w w':World}{b:Nat}{T:TypeId}{l:List Value}(h:Blk w b T l)(hb:Below w.heap.size w w') : Blk w' b T l:=(hb.block b h.lt).trans h
theorem Blk.oy{w w':World}{b b':Nat}{T:TypeId}{l:List Value}(h:Blk w b T l)(ho:Only b' w w')(hne:b≠b') : Blk w' b T l:=(ho.block b hne).trans h
theorem Blk.drew{w:World}{b:Nat}{T:TypeId}{l:List Value}(h:Blk w b T l) : Blk w.drew b T l:=h
theorem Blk.ne{w:World}{b b':Nat}{T T':TypeId}{l l':List Value}(h:Blk w b T l)(h':Blk w b' T' l')(hT:Nat.beq T T'=false) : b≠b':=by
 rintro rfl
 unfold Blk at h h'
 rw [h] at h'
 injection h' with h'
 injection h' with _ e
 subst e
 simp at hT
theorem Blk.oz{w w' : World}{b b' : Nat}{T T' : TypeId}{l l' : List Value}(h : Blk w b T l)(ho : Only b' w w')(h' : Blk w b' T' l')(hT : Nat.beq T T' = false) : Blk w' b T l:=h.oy ho (Blk.ne h h' hT)
theorem Below.oy{B b:Nat}{w0 w w':World}(h:Below B w0 w)(ho:Only b w w')(hB:B<=b) : Below B w0 w':=
 h.trans ⟨ho.os,ho.tape,ho.output,by rw [ho.size];exact Qb _,fun k hk=>ho.block k (by omega)⟩
theorem At.oy{w w':World}{b:Nat}{p:Addr}{l:List Value}(h:At w p l)(ho:Only b w w')(hne:p.block≠b) : At w' p l:=by
 intro j v hj
 rw [World.cell?_of_block (w:=w) (by rw [X4r];exact ho.block _ hne)]
 exact h j v hj
def OneT(P:Program)(t:TypeId) : Prop:=∃ d,P.underlying t=some d/\(match d with|.struct _|.array _ _=>False|_=>True)
def AggT(P:Program)(t:TypeId)(n:Nat) : Prop:=(∃ d,P.underlying t=some d/\(match d with|.struct _|.array _ _=>True|_=>False))/\∃ i,P.info? t=some i/\i.size=n
def SizeT(P:Program)(t:TypeId)(n:Nat) : Prop:=∃ i,P.info? t=some i/\i.size=n
def ZeroT(P:Program)(t:TypeId)(z:Value) : Prop:=∃ i,P.info? t=some i/\i.zero=some z
def FieldT(P:Program)(T f k:Nat) : Prop:=∃ fs F i,P.underlying T=some (.struct fs)/\fs[f]? = some F/\F.offset=k/\P.info? F.type=some i/\(i.size==0)=false
def SliceT(P:Program)(T E:TypeId) : Prop:=P.underlying T=some (.slice E)
def FuncF (P : Program) (f : FuncId) : Prop := ∃ fn, P.funcs[f]? = some fn /\ (fn.name == "runtime.NumGoroutine") = false /\ fn.body.isNone = false
section
variable {P : Program} {w : World}
theorem run_sizeOf'{t n:Nat}(h:SizeT P t n)(w:World) : (sizeOf t).run P w=.ok n w:=by
 obtain ⟨i,h1,h2⟩:=h
 simp [sizeOf,typeInfo,h1,h2]
theorem X76{t:TypeId}{z:Value}(h:ZeroT P t z)(w:World) : (zeroValue t).run P w=.ok z w:=by
 obtain ⟨i,h1,h2⟩:=h
 simp [zeroValue,typeInfo,h1,h2]
theorem X0c{t:TypeId}{d:TypeDesc}(h:P.underlying t=some d)(w:World) : (underlying t).run P w=.ok d w:=by simp [underlying,h]
theorem X32{t:TypeId}(h:OneT P t)(w:World) : (isAgg t).run P w=.ok false w:=by
 obtain ⟨d,h1,h2⟩:=h
 cases d<;>simp_all [isAgg,underlying]
theorem X78{t n:Nat}(h:AggT P t n)(w:World) : (isAgg t).run P w=.ok true w:=by
 obtain ⟨⟨d,h1,h2⟩,_⟩:=h
 cases d<;>simp_all [isAgg,underlying]
theorem X30(p:Addr) : ∀ (l:List Value) (i:Nat) (acc:Array Value),(∀ j v,l[j]? = some v->w.cell? (p.add (i+j))=some v)->
  (loadCellsFrom p i l.length acc).run P w=.ok (acc++l.toArray) w
 | [],i,acc,_=>by simp [loadCellsFrom]
 | v::l,i,acc,h=>by
  have h0:=h 0 v rfl
  simp only [Nat.add_zero] at h0
  have ih:=X30 p l (i+1) (acc.push v) (fun j u hj=>by
   have:=h (j+1) u (by simpa using hj)
   rwa [show i+(j+1)=i+1+j from by omega] at this)
  simp [loadCellsFrom,load,Sem.run,h0,ih]
theorem X3n{t:TypeId}{p:Addr}{v:Value}{l:List Value}(h:OneT P t)(hc:At w p (v::l)) : (loadVar t p).run P w=.ok v w:=by
 have h0:=hc 0 v rfl
 have h1:p.add 0=p:=by simp [Addr.add]
 rw [h1] at h0
 simp [loadVar,X32 h,load,Sem.run,h0]
theorem X3o{t n:Nat}{p:Addr}{l:List Value}(h:AggT P t n)(hc:At w p l)(hn:l.length=n) : (loadVar t p).run P w=.ok (.agg l.toArray) w:=by
 subst hn
 have h1:=X30 (P:=P) (w:=w) p l 0 #[] (fun j v hj=>by rw [Nat.zero_add];exact hc j v hj)
 simp [loadVar,X78 h,run_sizeOf' h.2,loadCells,h1]
end
section
variable {P : Program} {a : Act} {w : World} {n : Nat} {e : Env} {ty : TypeId} {pos : String} {af : Array Edge} {g : Option (Nat × Bool)} {d : Option Tmp}
theorem Xid{x:Operand}{v:Value}(hf:Fr a n e)(hx:ev e x=some v) : Ev P ⟨d,.move x,ty,pos,af,g⟩ a w v:=fun w' _=>by
 simp [execOp,hf.ev hx]
theorem X3{x:Operand}{v:Value}(hx:ev e x=some v) : EvW P ⟨d,.move x,ty,pos,af,g⟩ n e w v:=fun a hf=>Xid hf hx
theorem Xdx{x:Operand}{v:Value}(hf:Fr a n e)(hx:ev e x=some v) : Ev P ⟨d,.assign x,ty,pos,af,g⟩ a w v:=fun w' _=>by
 simp [execOp,hf.ev hx]
theorem X0h{x:Operand}{v:Value}(hx:ev e x=some v) : EvW P ⟨d,.assign x,ty,pos,af,g⟩ n e w v:=fun a hf=>Xdx hf hx
theorem Xbr{c x y:Operand}{b:Bool}{v:Value}(hf:Fr a n e)(hc:ev e c=some (.bool b))(hx:ev e (if b then x else y)=some v) : Ev P ⟨d,.pick c x y,ty,pos,af,g⟩ a w v:=fun w' _=>by
 have h1:=hf.ev hc;have h2:=hf.ev hx
 cases b<;>simp_all [execOp,asBool]
theorem Xhe{c x y:Operand}{b:Bool}{v:Value}(hf:Fr a n e)(hc:ev e c=some (.bool b))(hb:b=true)(hx:ev e x=some v) : Ev P ⟨d,.pick c x y,ty,pos,af,g⟩ a w v:=by
 subst hb
 exact Xbr hf hc hx
theorem X5{c x y:Operand}{b:Bool}{v:Value}(hc:ev e c=some (.bool b))(hb:b=true)(hx:ev e x=some v) : EvW P ⟨d,.pick c x y,ty,pos,af,g⟩ n e w v:=fun a hf=>Xhe hf hc hb hx
theorem Xgp{c x y:Operand}{b:Bool}{v:Value}(hf:Fr a n e)(hc:ev e c=some (.bool b))(hb:b=false)(hx:ev e y=some v) : Ev P ⟨d,.pick c x y,ty,pos,af,g⟩ a w v:=by
 subst hb
 exact Xbr hf hc hx
theorem X9{c x y:Operand}{b:Bool}{v:Value}(hc:ev e c=some (.bool b))(hb:b=false)(hx:ev e y=some v) : EvW P ⟨d,.pick c x y,ty,pos,af,g⟩ n e w v:=fun a hf=>Xgp hf hc hb hx
theorem Xfu{t:TypeId}{x:Operand}{p:Addr}{v:Value}{l:List Value}(hf:Fr a n e)(hx:ev e x=some (.pointer (some p)))(h1:OneT P t)(hc:At w p (v::l)) : Ev P ⟨d,.load t x,ty,pos,af,g⟩ a w v:=fun w' hw=>by
 simp [execOp,hf.ev hx,Instr.loadAt,Instr.sureAddr,X3n h1 (hc.bw hw)]
theorem X0{t:TypeId}{x:Operand}{p:Addr}{v:Value}{l:List Value}(hx:ev e x=some (.pointer (some p)))(h1:OneT P t)(hc:At w p (v::l)) : EvW P ⟨d,.load t x,ty,pos,af,g⟩ n e w v:=fun a hf=>Xfu hf hx h1 hc
theorem Xhc{t k:Nat}{x:Operand}{p:Addr}{l:List Value}(hf:Fr a n e)(hx:ev e x=some (.pointer (some p)))(hA:AggT P t k)(hc:At w p l)(hl:l.length=k) : Ev P ⟨d,.load t x,ty,pos,af,g⟩ a w (.agg l.toArray):=fun w' hw=>by
 simp [execOp,hf.ev hx,Instr.loadAt,Instr.sureAddr,X3o hA (hc.bw hw) hl]
theorem X00{t k:Nat}{x:Operand}{p:Addr}{l:List Value}(hx:ev e x=some (.pointer (some p)))(hA:AggT P t k)(hc:At w p l)(hl:l.length=k) : EvW P ⟨d,.load t x,ty,pos,af,g⟩ n e w (.agg l.toArray):=fun a hf=>Xhc hf hx hA hc hl
theorem X6u{T f k:Nat}{x:Operand}{p:Addr}(hf:Fr a n e)(hx:ev e x=some (.pointer (some p)))(hF:FieldT P T f k) : Ev P ⟨d,.fieldAddr T x f,ty,pos,af,g⟩ a w (.pointer (some (p.add k))):=fun w' _=>by
 obtain ⟨fs,F,i,h1,h2,h3,h4,h5⟩:=hF;have h6:=run_sizeOf' ⟨i,h4,rfl⟩ w'
 simp [execOp,hf.ev hx,Instr.fieldAt,X0c h1,h2,Instr.sureAddr,fieldPlace,h6,h3]
 simp at h5
 simp [h5]
theorem X1y{T f k:Nat}{x:Operand}{p:Addr}(hx:ev e x=some (.pointer (some p)))(hF:FieldT P T f k) : EvW P ⟨d,.fieldAddr T x f,ty,pos,af,g⟩ n e w (.pointer (some (p.add k))):=fun a hf=>X6u hf hx hF
theorem Xe1{T f k:Nat}{x:Operand}{b off m:Nat}(hf:Fr a n e)(hx:ev e x=some (.pointer (some ⟨b,off,none⟩)))(hF:FieldT P T f k)(hk:off+k=m) : Ev P ⟨d,.fieldAddr T x f,ty,pos,af,g⟩ a w (.pointer (some ⟨b,m,none⟩)):=by
 have:=X6u (P:=P) (w:=w) (d:=d) (ty:=ty) (pos:=pos) (af:=af) (g:=g) hf hx hF
 rwa [X1a,hk] at this
theorem Xij{T f k:Nat}{x:Operand}{b off m:Nat}(hx:ev e x=some (.pointer (some ⟨b,off,none⟩)))(hF:FieldT P T f k)(hk:off+k=m) : EvW P ⟨d,.fieldAddr T x f,ty,pos,af,g⟩ n e w (.pointer (some ⟨b,m,none⟩)):=fun a hf=>Xe1 hf hx hF hk
theorem Xb6{x:Operand}{k:Nat}{vs:List Value}{v:Value}(hf:Fr a n e)(hx:ev e x=some (.tuple vs.toArray))(hv:vs[k]? = some v) : Ev P ⟨d,.extract x k,ty,pos,af,g⟩ a w v:=fun w' _=>by
 simp [execOp,hf.ev hx,Instr.extract,hv]
theorem Xn{x:Operand}{k:Nat}{vs:List Value}{v:Value}(hx:ev e x=some (.tuple vs.toArray))(hv:vs[k]? = some v) : EvW P ⟨d,.extract x k,ty,pos,af,g⟩ n e w v:=fun a hf=>Xb6 hf hx hv
theorem Xpe{t:TypeId}{x:Operand}{b:Bool}(hf:Fr a n e)(hx:ev e x=some (.bool b)) : Ev P ⟨d,.unOp .not t x,ty,pos,af,g⟩ a w (.bool (!b)):=fun w' _=>by
 simp [execOp,hf.ev hx,Op.unary]
theorem X0z{t:TypeId}{x:Operand}{b:Bool}(hx:ev e x=some (.bool b)) : EvW P ⟨d,.unOp .not t x,ty,pos,af,g⟩ n e w (.bool (!b)):=fun a hf=>Xpe hf hx
theorem Xps{t:TypeId}{x:Operand}{i:Int}(hf:Fr a n e)(hx:ev e x=some (.int .i64 i)) : Ev P ⟨d,.unOp .neg t x,ty,pos,af,g⟩ a w (.int .i64 (IntKind.i64.wrap (-i))):=fun w' _=>by
 simp [execOp,hf.ev hx,Op.unary,Op.intArith]
theorem Xun{t:TypeId}{x:Operand}{i:Int}(hx:ev e x=some (.int .i64 i)) : EvW P ⟨d,.unOp .neg t x,ty,pos,af,g⟩ n e w (.int .i64 (IntKind.i64.wrap (-i))):=fun a hf=>Xps hf hx
section
variable {t t' : TypeId} {x y : Operand} {i j : Int}
theorem Xfs(hf:Fr a n e)(hx:ev e x=some (.int .i64 i))(hy:ev e y=some (.int .i64 j)) : Ev P ⟨d,.binOp .add t x y t',ty,pos,af,g⟩ a w (.int .i64 (IntKind.i64.wrap (i+j))):=fun w' _=>by
 simp [execOp,hf.ev hx,hf.ev hy,eqGuard,binOp,Op.intArith]
theorem X3h(hx:ev e x=some (.int .i64 i))(hy:ev e y=some (.int .i64 j)) : EvW P ⟨d,.binOp .add t x y t',ty,pos,af,g⟩ n e w (.int .i64 (IntKind.i64.wrap (i+j))):=fun a hf=>Xfs hf hx hy
theorem Xcf(hf:Fr a n e)(hx:ev e x=some (.int .i64 i))(hy:ev e y=some (.int .i64 j))(h1:-9223372036854775808<=i+j)(h2:i+j<=9223372036854775807) : Ev P ⟨d,.binOp .add t x y t',ty,pos,af,g⟩ a w (.int .i64 (i+j)):=by
 have h:=Xfs (P:=P) (w:=w) (d:=d) (ty:=ty) (pos:=pos) (af:=af) (g:=g) (t:=t) (t':=t') hf hx hy
 rwa [IntWalk.i64_in _ ⟨h1,h2⟩] at h
theorem Xr(hx:ev e x=some (.int .i64 i))(hy:ev e y=some (.int .i64 j))(h1:-9223372036854775808<=i+j)(h2:i+j<=9223372036854775807) : EvW P ⟨d,.binOp .add t x y t',ty,pos,af,g⟩ n e w (.int .i64 (i+j)):=fun a hf=>Xcf hf hx hy h1 h2
theorem Xjj(hf:Fr a n e)(hx:ev e x=some (.int .i64 i))(hy:ev e y=some (.int .i64 j))(h1:-9223372036854775808<=i-j)(h2:i-j<=9223372036854775807) : Ev P ⟨d,.binOp .sub t x y t',ty,pos,af,g⟩ a w (.int .i64 (i-j)):=by
 have h:Ev P ⟨d,.binOp .sub t x y t',ty,pos,af,g⟩ a w (.int .i64 (IntKind.i64.wrap (i-j))):=fun w' _=>by
  simp [execOp,hf.ev hx,hf.ev hy,eqGuard,binOp,Op.intArith]
 rwa [IntWalk.i64_in _ ⟨h1,h2⟩] at h
theorem X1d(hx:ev e x=some (.int .i64 i))(hy:ev e y=some (.int .i64 j))(h1:-9223372036854775808<=i-j)(h2:i-j<=9223372036854775807) : EvW P ⟨d,.binOp .sub t x y t',ty,pos,af,g⟩ n e w (.int .i64 (i-j)):=fun a hf=>Xjj hf hx hy h1 h2
theorem Xn8(hf:Fr a n e)(hx:ev e x=some (.int .i64 i))(hy:ev e y=some (.int .i64 j)) : Ev P ⟨d,.binOp .sub t x y t',ty,pos,af,g⟩ a w (.int .i64 (IntKind.i64.wrap (i-j))):=fun w' _=>by
 simp [execOp,hf.ev hx,hf.ev hy,eqGuard,binOp,Op.intArith]
theorem X9t(hx:ev e x=some (.int .i64 i))(hy:ev e y=some (.int .i64 j)) : EvW P ⟨d,.binOp .sub t x y t',ty,pos,af,g⟩ n e w (.int .i64 (IntKind.i64.wrap (i-j))):=fun a hf=>Xn8 hf hx hy
theorem Xnl(hf:Fr a n e)(hx:ev e x=some (.int .i64 i))(hy:ev e y=some (.int .i64 j)) : Ev P ⟨d,.binOp .mul t x y t',ty,pos,af,g⟩ a w (.int .i64 (IntKind.i64.wrap (i*j))):=fun w' _=>by
 simp [execOp,hf.ev hx,hf.ev hy,eqGuard,binOp,Op.intArith]
theorem Xvk(hx:ev e x=some (.int .i64 i))(hy:ev e y=some (.int .i64 j)) : EvW P ⟨d,.binOp .mul t x y t',ty,pos,af,g⟩ n e w (.int .i64 (IntKind.i64.wrap (i*j))):=fun a hf=>Xnl hf hx hy
theorem Xpo(hf:Fr a n e)(hx:ev e x=some (.int .i64 i))(hy:ev e y=some (.int .i64 j)) : Ev P ⟨d,.binOp .lss t x y t',ty,pos,af,g⟩ a w (.bool (decide (i<j))):=fun w' _=>by
 simp [execOp,hf.ev hx,hf.ev hy,eqGuard,binOp,Op.intCmp]
theorem X0i(hx:ev e x=some (.int .i64 i))(hy:ev e y=some (.int .i64 j)) : EvW P ⟨d,.binOp .lss t x y t',ty,pos,af,g⟩ n e w (.bool (decide (i<j))):=fun a hf=>Xpo hf hx hy
theorem Xp0(hf:Fr a n e)(hx:ev e x=some (.int .i64 i))(hy:ev e y=some (.int .i64 j)) : Ev P ⟨d,.binOp .leq t x y t',ty,pos,af,g⟩ a w (.bool (decide (i<=j))):=fun w' _=>by
 simp [execOp,hf.ev hx,hf.ev hy,eqGuard,binOp,Op.intCmp]
theorem Xax(hx:ev e x=some (.int .i64 i))(hy:ev e y=some (.int .i64 j)) : EvW P ⟨d,.binOp .leq t x y t',ty,pos,af,g⟩ n e w (.bool (decide (i<=j))):=fun a hf=>Xp0 hf hx hy
theorem Xp6(hf:Fr a n e)(hx:ev e x=some (.int .i64 i))(hy:ev e y=some (.int .i64 j)) : Ev P ⟨d,.binOp .gtr t x y t',ty,pos,af,g⟩ a w (.bool (decide (j<i))):=fun w' _=>by
 simp [execOp,hf.ev hx,hf.ev hy,eqGuard,binOp,Op.intCmp]
theorem X2o(hx:ev e x=some (.int .i64 i))(hy:ev e y=some (.int .i64 j)) : EvW P ⟨d,.binOp .gtr t x y t',ty,pos,af,g⟩ n e w (.bool (decide (j<i))):=fun a hf=>Xp6 hf hx hy
theorem Xpr(hf:Fr a n e)(hx:ev e x=some (.int .i64 i))(hy:ev e y=some (.int .i64 j)) : Ev P ⟨d,.binOp .geq t x y t',ty,pos,af,g⟩ a w (.bool (decide (j<=i))):=fun w' _=>by
 simp [execOp,hf.ev hx,hf.ev hy,eqGuard,binOp,Op.intCmp]
theorem X4q(hx:ev e x=some (.int .i64 i))(hy:ev e y=some (.int .i64 j)) : EvW P ⟨d,.binOp .geq t x y t',ty,pos,af,g⟩ n e w (.bool (decide (j<=i))):=fun a hf=>Xpr hf hx hy
theorem Xpf(hf:Fr a n e)(hx:ev e x=some (.int .i64 i))(hy:ev e y=some (.int .i64 j)) : Ev P ⟨d,.binOp .eql t x y t',ty,pos,af,g⟩ a w (.bool (i==j)):=fun w' _=>by
 simp [execOp,hf.ev hx,hf.ev hy,eqGuard,binOp,Op.intCmp]
theorem X0f(hx:ev e x=some (.int .i64 i))(hy:ev e y=some (.int .i64 j)) : EvW P ⟨d,.binOp .eql t x y t',ty,pos,af,g⟩ n e w (.bool (i==j)):=fun a hf=>Xpf hf hx hy
theorem Xpa(hf:Fr a n e)(hx:ev e x=some (.int .i64 i))(hy:ev e y=some (.int .i64 j)) : Ev P ⟨d,.binOp .neq t x y t',ty,pos,af,g⟩ a w (.bool (i != j)):=fun w' _=>by
 simp [execOp,hf.ev hx,hf.ev hy,eqGuard,binOp,Op.intCmp]
theorem X1c(hx:ev e x=some (.int .i64 i))(hy:ev e y=some (.int .i64 j)) : EvW P ⟨d,.binOp .neq t x y t',ty,pos,af,g⟩ n e w (.bool (i != j)):=fun a hf=>Xpa hf hx hy
theorem X36{b c:Bool}(ht:P.underlying t=some .bool)(k:Nat)(w:World) : (Op.equalIn (k+1) t (.bool b) (.bool c)).run P w=.ok (b==c) w:=by
 simp [Op.equalIn,X0c ht]
theorem Xhq{b c:Bool}(ht:P.underlying t=some .bool)(hf:Fr a n e)(hx:ev e x=some (.bool b))(hy:ev e y=some (.bool c)) : Ev P ⟨d,.binOp .neq t x y t',ty,pos,af,g⟩ a w (.bool (b != c)):=fun w' _=>by
 have h:=X36 (P:=P) (b:=b) (c:=c) ht 9999 w'
 simp [execOp,hf.ev hx,hf.ev hy,eqGuard,binOp,Op.equal,Op.maxDepth,h]
 cases b<;>cases c<;>rfl
theorem X6j{b c:Bool}(ht:P.underlying t=some .bool)(hx:ev e x=some (.bool b))(hy:ev e y=some (.bool c)) : EvW P ⟨d,.binOp .neq t x y t',ty,pos,af,g⟩ n e w (.bool (b != c)):=fun a hf=>Xhq ht hf hx hy
theorem Xni{x:Operand}{T E:TypeId}{A:Option Addr}{m c:Nat}(hf:Fr a n e)(hx:ev e x=some (.slice A m c))(hT:SliceT P T E) : Ev P ⟨d,.call ⟨.builtin .len,#[x],#[T]⟩,ty,pos,af,g⟩ a w (.int .i64 (m:Int)):=fun w' _=>by
 have:=X0c (P:=P) hT w'
 simp [execOp,resolve,invoke,builtin,Builtin.len_,hf.ev hx,this,goInt]
theorem X07{x:Operand}{T E:TypeId}{A:Option Addr}{m c:Nat}(hx:ev e x=some (.slice A m c))(hT:SliceT P T E) : EvW P ⟨d,.call ⟨.builtin .len,#[x],#[T]⟩,ty,pos,af,g⟩ n e w (.int .i64 (m:Int)):=fun a hf=>Xni hf hx hT
theorem X9u{k:FuncId}{cs:List Operand}{vs:List Value}(hf:Fr a n e)(hx:evs e cs=some vs) : Ev P ⟨d,.makeFunc (.func k) #[] cs.toArray,ty,pos,af,g⟩ a w (.func (.func k) #[] vs.toArray):=fun w' _=>by
 simp [execOp,Instr.makeFunc,hf.evs hx]
theorem X35{k:FuncId}{cs:List Operand}{vs:List Value}(hx:evs e cs=some vs) : EvW P ⟨d,.makeFunc (.func k) #[] cs.toArray,ty,pos,af,g⟩ n e w (.func (.func k) #[] vs.toArray):=fun a hf=>X9u hf hx
end
end
section
variable {P : Program} {a : Act} {w : World} {n : Nat} {e : Env} {ty : TypeId} {pos : String} {af : Array Edge} {g : Option (Nat × Bool)} {d : Option Tmp}
def IsNew(w:World)(T:TypeId)(zs:List Value)(v:Value)(w':World) : Prop:=
 ∃ b,v=.pointer (some ⟨b,0,none⟩)/\w.heap.size<=b/\Below w.heap.size w w'/\Blk w' b T zs
theorem X2c(w:World)(T:TypeId)(zs:List Value) : Blk (w.alloc (.cells zs.toArray T)) w.heap.size T zs:=heap_alloc_new w _
theorem X5z(w:World)(T:TypeId)(zs:List Value) : IsNew w T zs (.pointer (some ⟨w.heap.size,0,none⟩)) (w.alloc (.cells zs.toArray T)):=
 ⟨_,rfl,Qb _,(Below.refl _ _).alloc (Qb _) _,X2c w T zs⟩
theorem X4m(T:TypeId)(v:Value)(w:World) : (newVar T v).run P w=.ok ⟨w.heap.size,0,none⟩ (w.alloc (.cells v.cells T)):=by
 simp [newVar,newRow,newObj,Sem.run]
theorem Xfo{T:TypeId}{z:Value}{zs:List Value}(hz:ZeroT P T z)(hzs:z.cells.toList=zs) : Ef P ⟨d,.alloc T,ty,pos,af,g⟩ a w (IsNew w T zs):=by
 subst hzs
 have h:(execOp a.eval ⟨d,.alloc T,ty,pos,af,g⟩).run P w=.ok (.value (.pointer (some ⟨w.heap.size,0,none⟩))) (w.alloc (.cells z.cells T)):=by
  simp [execOp,Instr.alloc,X76 hz,X4m]
 refine (Ef.of_run h).mono fun v w' ⟨e1,e2⟩=>?_
 subst e1;subst e2
 have:=X5z w T z.cells.toList
 simpa using this
theorem Xw{n:Nat}{e:List (Nat×Value)}{T:TypeId}{z:Value}{zs:List Value}(hz:ZeroT P T z)(hzs:z.cells.toList=zs) : EfW P ⟨d,.alloc T,ty,pos,af,g⟩ n e w (IsNew w T zs):=fun a _=>Xfo hz hzs
theorem Xog{T:TypeId}{x:Operand}{v:Value}{zs:List Value}(hf:Fr a n e)(hx:ev e x=some v)(hzs:v.cells.toList=zs) : Ef P ⟨d,.box T x,ty,pos,af,g⟩ a w (IsNew w T zs):=by
 subst hzs
 have h:(execOp a.eval ⟨d,.box T x,ty,pos,af,g⟩).run P w=.ok (.value (.pointer (some ⟨w.heap.size,0,none⟩))) (w.alloc (.cells v.cells T)):=by
  simp [execOp,Instr.box,X4m,hf.ev hx]
 refine (Ef.of_run h).mono fun v' w' ⟨e1,e2⟩=>?_
 subst e1;subst e2
 have:=X5z w T v.cells.toList
 simpa using this
theorem X0q{T:TypeId}{x:Operand}{v:Value}{zs:List Value}(hx:ev e x=some v)(hzs:v.cells.toList=zs) : EfW P ⟨d,.box T x,ty,pos,af,g⟩ n e w (IsNew w T zs):=fun a hf=>Xog hf hx hzs
def splice(l:List Value)(k:Nat)(vs:List Value) : List Value:=l.take k++vs++l.drop (k+vs.length)
def one:Value->Bool
 | .agg _=>false
 | .tuple _=>false
 | _=>true
theorem X90(w:World)(b k:Nat)(v:Value) : Only b w (w.setCell ⟨b,k,none⟩ v):=
 ⟨rfl,rfl,rfl,by simp [World.setCell],fun i hi=>Below.heap_setCell _ _ _ _ hi⟩
theorem Xak{T:TypeId}{l:List Value}{b:Nat}(h:Blk w b T l)(k:Nat)(v:Value) : Blk (w.setCell ⟨b,k,none⟩ v) b T (l.set k v):=by
 unfold Blk at h ⊢
 simp [World.setCell,Array.getElem?_modify,h]
theorem X2v{b off:Nat}{T:TypeId} : ∀ (vs:List Value) (w:World) (l:List Value) (i:Nat),Blk w b T l->off+i+vs.length<=l.length->vs.all one=true->
  ∃ w',(storeCells ⟨b,off,none⟩ vs i).run P w=.ok () w'/\Only b w w'/\Blk w' b T (splice l (off+i) vs)
 | [],w,l,i,hb,_,_=>⟨w,by simp [storeCells],Only.refl _ _,by simpa [splice] using hb⟩
 | v::vs,w,l,i,hb,hl,h1=>by
  simp only [List.all_cons,Qd,Qs] at h1 hl
  have hc:w.cell? ⟨b,off+i,none⟩=some (l[off+i]'(by omega)):=by rw [hb.cell];exact Qc (by omega)
  have hfz:w.frozen? ⟨b,off+i,none⟩=false:=by
   have:=hb
   unfold Blk at this
   simp [World.frozen?,this]
  obtain ⟨w',hr,ho,hb'⟩:=X2v (off:=off) vs (w.setCell ⟨b,off+i,none⟩ v) (l.set (off+i) v) (i+1) (Xak hb _ _) (by rw [List.length_set];omega) h1.2
  refine ⟨w',?_,(X90 w b _ v).trans ho,?_⟩
  ·have h0:(store (⟨b,off+i,none⟩ : Addr) v).run P w=.ok () (w.setCell ⟨b,off+i,none⟩ v):=by
    have h2:=h1.1
    unfold one at h2
    split at h2
    ·cases h2
    ·cases h2
    ·rename_i hx1 hx2
     cases v<;>simp_all [store,Sem.run]
   simp only [storeCells,X1a]
   simp [h0,hr]
  ·have:splice (l.set (off+i) v) (off+(i+1)) vs=splice l (off+i) (v::vs):=by
    unfold splice
    have e1:off+(i+1)=off+i+1:=by omega
    rw [e1,Wf (by rw [List.length_set];omega),List.take_set_of_le (by omega),List.getElem_set_self,List.drop_set_of_lt (by omega)]
    simp only [Qs,Qx,Wa,List.nil_append]
    rw [show off+i+1+vs.length=off+i+(vs.length+1) from by omega]
   rw [this] at hb'
   exact hb'
def Stored(w:World)(b:Nat)(T:TypeId)(l:List Value)(_:Value)(w':World) : Prop:=Only b w w'/\Blk w' b T l
theorem X6p{t T:TypeId}{x y:Operand}{b off k:Nat}{v:Value}{l l' vs:List Value}(hf:Fr a n e)(hx:ev e x=some (.pointer (some ⟨b,off,none⟩)))(hy:ev e y=some v)
  (hs:SizeT P t k) (hb:Blk w b T l) (hvs:v.cells.toList=vs) (hk:Nat.beq vs.length k=true) (h1:vs.all one=true) (hl:Nat.ble (off+k) l.length=true) (hl':splice l off vs=l') :
  Ef P ⟨d,.store t x y,ty,pos,af,g⟩ a w (Stored w b T l'):=by
 subst hl'
 have hk':vs.length=k:=Nat.eq_of_beq_eq_true hk
 have hll:off+k<=l.length:=Nat.le_of_ble_eq_true hl
 obtain ⟨w',hr,ho,hb'⟩:=X2v (P:=P) (b:=b) (off:=off) (T:=T) vs w l 0 hb (by omega) h1
 refine (Ef.of_skip (w':=w') ?_).mono fun v w1 ⟨_,e2⟩=>by subst e2;exact ⟨ho,by simpa using hb'⟩
 have hc:v.cells.size=k:=by rw [<- hk',<- hvs];simp
 simp [execOp,Instr.storeAt,Instr.sureAddr,hf.ev hx,hf.ev hy,storeVar,run_sizeOf' hs,hc,hvs,hr]
theorem X17{t T:TypeId}{x y:Operand}{b off k:Nat}{v:Value}{l l' vs:List Value}(hx:ev e x=some (.pointer (some ⟨b,off,none⟩)))(hy:ev e y=some v)(hs:SizeT P t k)(hb:Blk w b T l)(hvs:v.cells.toList=vs)(hk:Nat.beq vs.length k=true)(h1:vs.all one=true)(hl:Nat.ble (off+k) l.length=true)(hl':splice l off vs=l') : EfW P ⟨d,.store t x y,ty,pos,af,g⟩ n e w (Stored w b T l'):=fun a hf=>X6p hf hx hy hs hb hvs hk h1 hl hl'
def Ret(P:Program)(f:FuncId)(args:List Value)(w:World)(R:Value->World->Prop) : Prop:=Calls P f args.toArray w fun e w'=>∃ v,e=.returned v/\R v w'
theorem Ret.mono{f:FuncId}{args:List Value}{R R':Value->World->Prop}(h:Ret P f args w R)(hr:∀ v w',R v w'->R' v w') : Ret P f args w R':=
 Calls.mono h fun _ _ ⟨v,he,hR⟩=>⟨v,he,hr _ _ hR⟩
theorem X52{f:FuncId}(hF:FuncF P f)(args:Array Value)(w:World) : (callFunc f args).run P w=.ok (.enter f args) w:=by
 obtain ⟨fn,h1,h2,h3⟩:=hF
 have h2' : ¬ fn.name = "runtime.NumGoroutine" := by simpa using h2
 have h3':¬ fn.body=none:=by intro hb;rw [hb] at h3;cases h3
 simp [callFunc,h1,h2',h3']
theorem Xia{f:FuncId}{xs:List Operand}{vs:List Value}{ts:Array TypeId}{R:Value->World->Prop}(hf:Fr a n e)(hx:evs e xs=some vs)(hF:FuncF P f)(h:Ret P f vs w R) :
  Ef P ⟨d,.call ⟨.value (.func f),xs.toArray,ts⟩,ty,pos,af,g⟩ a w R:=by
 have hm:=hf.evs hx
 unfold Ef
 have hr:(execOp a.eval ⟨d,.call ⟨.value (.func f),xs.toArray,ts⟩,ty,pos,af,g⟩).run P w=.ok (.enter f vs.toArray) w:=by
  simp [execOp,resolve,Act.eval,Deferred.ofValue,invoke,hm,X52 hF]
 rw [hr]
 exact h
theorem X16{f:FuncId}{xs:List Operand}{vs:List Value}{ts:Array TypeId}{R:Value->World->Prop}(hx:evs e xs=some vs)(hF:FuncF P f)(h:Ret P f vs w R) : EfW P ⟨d,.call ⟨.value (.func f),xs.toArray,ts⟩,ty,pos,af,g⟩ n e w R:=fun a hf=>Xia hf hx hF h
theorem Xg2{f:FuncId}{x:Operand}{xs:List Operand}{vs cs:List Value}{ts:Array TypeId}{R:Value->World->Prop}(hf:Fr a n e)(hv:ev e x=some (.func (.func f) #[] cs.toArray))(hx:evs e xs=some vs)(hF:FuncF P f)(h:Ret P f (vs++cs) w R) :
  Ef P ⟨d,.call ⟨.value x,xs.toArray,ts⟩,ty,pos,af,g⟩ a w R:=by
 have hm:=hf.evs hx
 have hv':=hf.ev hv
 unfold Ef
 have hr:(execOp a.eval ⟨d,.call ⟨.value x,xs.toArray,ts⟩,ty,pos,af,g⟩).run P w=.ok (.enter f (vs++cs).toArray) w:=by
  simp [execOp,resolve,hv',Deferred.ofValue,invoke,hm,X52 hF]
 rw [hr]
 exact h
theorem X5x{f:FuncId}{x:Operand}{xs:List Operand}{vs cs:List Value}{ts:Array TypeId}{R:Value->World->Prop}(hv:ev e x=some (.func (.func f) #[] cs.toArray))(hx:evs e xs=some vs)(hF:FuncF P f)(h:Ret P f (vs++cs) w R) : EfW P ⟨d,.call ⟨.value x,xs.toArray,ts⟩,ty,pos,af,g⟩ n e w R:=fun a hf=>Xg2 hf hv hx hF h
end
section
variable {α : Type}
def Rd(w:World)(B:Nat)(E:TypeId)(enc:α->List Value)(A:Option Addr)(l:List α) : Prop:=
 l≠[]->∃ b off cs fz,A=some ⟨b,off,none⟩/\b<B/\w.heap[b]? = some (.cells cs E fz)/\∀ j v,(l.flatMap enc)[j]? = some v->cs[off+j]? = some v
theorem Rd.nil(w:World)(B:Nat)(E:TypeId)(enc:α->List Value)(A:Option Addr) : Rd w B E enc A []:=fun h=>absurd rfl h
theorem Rd.chg{w w':World}{B:Nat}{E:TypeId}{enc:α->List Value}{A:Option Addr}{l:List α}(h:Rd w B E enc A l)(hk:∀ b cs fz,b<B->w.heap[b]? = some (.cells cs E fz)->w'.heap[b]? = w.heap[b]?) : Rd w' B E enc A l:=by grind [Rd]
theorem Rd.more{w:World}{B B':Nat}{E:TypeId}{enc:α->List Value}{A:Option Addr}{l:List α}(h:Rd w B E enc A l)(hB:B<=B') : Rd w B' E enc A l:=by grind [Rd]
theorem Rd.bw{w w':World}{B:Nat}{E:TypeId}{enc:α->List Value}{A:Option Addr}{l:List α}(h:Rd w B E enc A l)(hb:Below w.heap.size w w') : Rd w' B E enc A l:=
 h.chg fun b _ _ _ hh=>hb.block b (by
  rcases W4 b w.heap.size with h'|h'
  ·exact h'
  ·rw [We h'] at hh;cases hh)
theorem Rd.bx{w w':World}{B:Nat}{E:TypeId}{enc:α->List Value}{A:Option Addr}{l:List α}(h:Rd w B E enc A l)(hb:Below B w w') : Rd w' B E enc A l:=
 h.chg fun b _ _ hB _=>hb.block b hB
theorem Rd.oy{w w':World}{B b:Nat}{E:TypeId}{enc:α->List Value}{A:Option Addr}{l:List α}(h:Rd w B E enc A l)(ho:Only b w w')(hB:B<=b) : Rd w' B E enc A l:=
 h.chg fun k _ _ hk _=>ho.block k (by omega)
theorem Rd.oT{w w':World}{B b:Nat}{E T:TypeId}{lc:List Value}{enc:α->List Value}{A:Option Addr}{l:List α}(h:Rd w B E enc A l)(ho:Only b w w')(hb:Blk w b T lc)(hT:Nat.beq E T=false) : Rd w' B E enc A l:=
 h.chg fun k cs fz _ hh=>ho.block k (by
  rintro rfl
  unfold Blk at hb
  rw [hh] at hb
  injection hb with hb
  injection hb with _ e _
  subst e
  simp at hT)
theorem Rd.drew{w:World}{B:Nat}{E:TypeId}{enc:α->List Value}{A:Option Addr}{l:List α}(h:Rd w B E enc A l) : Rd w.drew B E enc A l:=h
theorem X3b{enc:α->List Value}{sz:Nat}(hsz:∀ x,(enc x).length=sz) : ∀ (l:List α) (k:Nat) (x:α),l[k]? = some x->∀ j v,(enc x)[j]? = some v->(l.flatMap enc)[k*sz+j]? = some v
 | [],k,x,h=>by simp at h
 | y::l,0,x,h=>by
  intro j v hj
  obtain rfl:y=x:=by simpa using h
  simp only [Wc,Nat.zero_mul,Nat.zero_add]
  rw [List.getElem?_append_left (Qg.1 hj).1]
  exact hj
 | y::l,k+1,x,h=>by
  intro j v hj
  simp only [Wc]
  have h1:(k+1)*sz+j=sz+(k*sz+j):=by rw [Wb];omega
  rw [h1,W5 (by rw [hsz];omega),hsz,Nat.add_sub_cancel_left]
  exact X3b hsz l k x (by simpa using h) j v hj
theorem Xo{enc:α->List Value}{sz:Nat}(hsz:∀ x,(enc x).length=sz)(l:List α) : (l.flatMap enc).length=l.length*sz:=by
 induction l with
 | nil=>simp
 | cons x l ih=>simp only [Wc,Qh,hsz,ih,Qs,Wb];omega
theorem Rd.at{w:World}{B:Nat}{E:TypeId}{enc:α->List Value}{A:Option Addr}{l:List α}{sz:Nat}(hsz:∀ x,(enc x).length=sz)(h:Rd w B E enc A l){k:Nat}{x:α}(hk:l[k]? = some x) :
  ∃ p,A=some p/\At w (p.add (k*sz)) (enc x):=by
 have hl:l≠[]:=by rintro rfl;simp at hk
 obtain ⟨b,off,cs,fz,rfl,h2,h3,h4⟩:=h hl
 refine ⟨_,rfl,fun j v hj=>?_⟩
 rw [X1a,X1a]
 have:=h4 _ _ (X3b hsz l k x hk j v hj)
 simp only [World.cell?,h3]
 rw [Nat.add_assoc]
 simpa using this
theorem Rd.of_blk{w:World}{b:Nat}{E:TypeId}{enc:α->List Value}{l:List α}{cs:List Value}(h:Blk w b E cs)(hcs:l.flatMap enc=cs)(B:Nat)(hB:b<B) : Rd w B E enc (some ⟨b,0,none⟩) l:=by grind [Blk,Rd]
def Own(w:World)(B0:Nat)(E:TypeId)(sz:Nat)(enc:α->List Value)(A:Option Addr)(c:Nat)(l:List α) : Prop:=w.ownsRow B0 E sz (.slice A l.length c) l.length (l.flatMap enc)
theorem Own.rd{w:World}{B0:Nat}{E:TypeId}{sz:Nat}{enc:α->List Value}{A:Option Addr}{c:Nat}{l:List α}(h:Own w B0 E sz enc A c l) : Rd w w.heap.size E enc A l:=fun hl=>by
 rcases h.2 with ⟨h1,h2⟩|⟨g,cap,cur,h1,h2,h3,h4,h5,h6,h7⟩
 ·exact absurd (List.eq_nil_of_length_eq_zero h2) hl
 ·injection h1 with h1
  refine ⟨g,0,cur,_,h1,(Qp.1 h3).1,h3,fun j v hj=>?_⟩
  rw [<- h7,List.getElem?_take] at hj
  split at hj
  ·simpa using hj
  ·cases hj
theorem Own.nil(w:World)(B0:Nat)(E:TypeId)(sz:Nat)(enc:α->List Value) : Own w B0 E sz enc none 0 []:=⟨by simp,.inl ⟨rfl,rfl⟩⟩
theorem Own.empty{w:World}{B0 b:Nat}{E:TypeId}{sz:Nat}{enc:α->List Value}(h:Blk w b E [])(hb:B0<=b) : Own w B0 E sz enc (some ⟨b,0,none⟩) 0 ([] : List α):=
 ⟨by simp,.inr ⟨b,0,#[],rfl,hb,h,Qb _,by simp [maxLen],by simp,by simp⟩⟩
theorem Own.of_blk{w:World}{B0 b:Nat}{E:TypeId}{sz:Nat}{enc:α->List Value}{l:List α}{cs:List Value}(h:Blk w b E cs)(hb:B0<=b)(hcs:l.flatMap enc=cs)(hsz:∀ x,(enc x).length=sz)(hm:l.length<=maxLen) : Own w B0 E sz enc (some ⟨b,0,none⟩) l.length l:=by
 subst hcs
 have hl:=Xo hsz l;exact ⟨hl,.inr ⟨b,l.length,_,rfl,hb,h,Qb _,hm,by simpa using hl,by simp only [List.toList_toArray];rw [<- hl];exact List.take_length⟩⟩
theorem Own.bw{w w':World}{B0:Nat}{E:TypeId}{sz:Nat}{enc:α->List Value}{A:Option Addr}{c:Nat}{l:List α}(h:Own w B0 E sz enc A c l)(hb:Below w.heap.size w w') : Own w' B0 E sz enc A c l:=by
 refine ⟨h.1,?_⟩
 rcases h.2 with h1|⟨g,cap,cur,h1,h2,h3,h4⟩
 ·exact .inl h1
 ·exact .inr ⟨g,cap,cur,h1,h2,(hb.block g (Qp.1 h3).1).trans h3,h4⟩
theorem Own.oT{w w':World}{B0 b:Nat}{E T:TypeId}{lc:List Value}{sz:Nat}{enc:α->List Value}{A:Option Addr}{c:Nat}{l:List α}(h:Own w B0 E sz enc A c l)(ho:Only b w w')(hb:Blk w b T lc)(hT:Nat.beq E T=false) : Own w' B0 E sz enc A c l:=by
 refine ⟨h.1,?_⟩
 rcases h.2 with h1|⟨g,cap,cur,h1,h2,h3,h4⟩
 ·exact .inl h1
 ·refine .inr ⟨g,cap,cur,h1,h2,(ho.block g ?_).trans h3,h4⟩
  rintro rfl
  unfold Blk at hb
  rw [h3] at hb
  injection hb with hb
  injection hb with _ e _
  subst e
  simp at hT
theorem Own.drew{w:World}{B0:Nat}{E:TypeId}{sz:Nat}{enc:α->List Value}{A:Option Addr}{c:Nat}{l:List α}(h:Own w B0 E sz enc A c l) : Own w.drew B0 E sz enc A c l:=h
theorem Own.block{w:World}{B0:Nat}{E:TypeId}{sz:Nat}{enc:α->List Value}{A:Option Addr}{c:Nat}{l:List α}(h:Own w B0 E sz enc A c l){k:Nat}(hk:(Value.slice A l.length c).ownBlock=some k) : B0<=k/\k<w.heap.size/\∃ cs fz,w.heap[k]? = some (.cells cs E fz):=by
 rcases h.2 with ⟨h1,_⟩|⟨g,cap,cur,h1,h2,h3,_⟩
 ·rw [h1] at hk;simp [Value.ownBlock] at hk
 ·rw [h1] at hk
  simp [Value.ownBlock] at hk
  subst hk
  exact ⟨h2,(Qp.1 h3).1,_,_,h3⟩
def Away(A:Option Addr)(b:Nat) : Prop:=∀ p,A=some p->p.block≠b
def AwayR(l:List α)(A:Option Addr)(b:Nat) : Prop:=l≠[]->Away A b
theorem Away.no(b:Nat) : Away none b:=fun p h=>by cases h
theorem Away.ne{g off b:Nat}(h:b≠g) : Away (some ⟨g,off,none⟩) b:=by grind [Away]
theorem Rd.away{w:World}{B b:Nat}{E:TypeId}{enc:α->List Value}{A:Option Addr}{l:List α}(h:Rd w B E enc A l)(hl:w.heap.size<=b) : AwayR l A b:=fun hne p hp=>by
 obtain ⟨g,off,cs,fz,h1,h2,h3,h4⟩:=h hne
 rw [hp] at h1
 injection h1 with h1
 subst h1
 have:=(Qp.1 h3).1
 intro e
 simp only at e
 omega
theorem Own.away{w:World}{B0 b:Nat}{E:TypeId}{sz:Nat}{enc:α->List Value}{A:Option Addr}{c:Nat}{l:List α}(h:Own w B0 E sz enc A c l)(hl:w.heap.size<=b) : Away A b:=fun p hp=>by
 rcases h.2 with ⟨h1,_⟩|⟨g,cap,cur,h1,h2,h3,_⟩
 ·injection h1 with h1;rw [h1] at hp;cases hp
 ·injection h1 with h1
  rw [h1] at hp
  injection hp with hp
  subst hp
  have:=(Qp.1 h3).1
  intro e
  simp only at e
  omega
theorem Own.awayNew{w:World}{B0 b:Nat}{E:TypeId}{sz:Nat}{enc:α->List Value}{A:Option Addr}{c:Nat}{l:List α}(h:Own w B0 E sz enc A c l)(hl:b<B0) : Away A b:=fun p hp=>by
 rcases h.2 with ⟨h1,_⟩|⟨g,cap,cur,h1,h2,h3,_⟩
 ·injection h1 with h1;rw [h1] at hp;cases hp
 ·injection h1 with h1
  rw [h1] at hp
  injection hp with hp
  subst hp
  intro e
  simp only at e
  omega
theorem Away.r{l:List α}{A:Option Addr}{b:Nat}(h:Away A b) : AwayR l A b:=fun _=>h
theorem Rd.onlyA{w w':World}{B b:Nat}{E:TypeId}{enc:α->List Value}{A:Option Addr}{l:List α}(h:Rd w B E enc A l)(ho:Only b w w')(ha:AwayR l A b) : Rd w' B E enc A l:=fun hne=>by
 obtain ⟨g,off,cs,fz,h1,h2,h3,h4⟩:=h hne;exact ⟨g,off,cs,fz,h1,h2,(ho.block g (ha hne _ h1)).trans h3,h4⟩
theorem Own.onlyA{w w':World}{B0 b:Nat}{E:TypeId}{sz:Nat}{enc:α->List Value}{A:Option Addr}{c:Nat}{l:List α}(h:Own w B0 E sz enc A c l)(ho:Only b w w')(ha:Away A b) : Own w' B0 E sz enc A c l:=by
 refine ⟨h.1,?_⟩
 rcases h.2 with h1|⟨g,cap,cur,h1,h2,h3,h4⟩
 ·exact .inl h1
 ·injection h1 with h1 h1' h1''
  exact .inr ⟨g,cap,cur,by rw [h1,h1''],h2,(ho.block g (ha _ h1)).trans h3,h4⟩
def Appended(w:World)(B0:Nat)(E:TypeId)(sz:Nat)(enc:α->List Value)(A:Option Addr)(c:Nat)(l l2:List α)(v:Value)(w':World) : Prop:=
 ∃ A' c',v=.slice A' (l++l2).length c'/\Own w' B0 E sz enc A' c' (l++l2)/\w.grownBy w' (Value.slice A l.length c).ownBlock/\∀ b,b<w.heap.size->Away A b->Away A' b
theorem Blk.appT{w w':World}{b:Nat}{T:TypeId}{lc:List Value}{B0:Nat}{E:TypeId}{sz:Nat}{enc:α->List Value}{A:Option Addr}{c:Nat}{l:List α}(h:Blk w b T lc)(ho:Own w B0 E sz enc A c l)(hg:w.grownBy w' (Value.slice A l.length c).ownBlock)(hT:Nat.beq E T=false) : Blk w' b T lc:=by
 refine (hg.block b h.lt fun hk=>?_).trans h
 obtain ⟨_,_,cs,fz,h3⟩:=ho.block hk.symm
 unfold Blk at h
 rw [h3] at h
 injection h with h
 injection h with _ e _
 subst e
 simp at hT
theorem Blk.appB{w w':World}{b:Nat}{T:TypeId}{lc:List Value}{B0:Nat}{E:TypeId}{sz:Nat}{enc:α->List Value}{A:Option Addr}{c:Nat}{l:List α}(h:Blk w b T lc)(ho:Own w B0 E sz enc A c l)(hg:w.grownBy w' (Value.slice A l.length c).ownBlock)(hb:b<B0) : Blk w' b T lc:=
 (hg.block b h.lt fun hk=>by have:=(ho.block hk.symm).1;omega).trans h
theorem Blk.appA{w w':World}{b:Nat}{T:TypeId}{lc:List Value}{A:Option Addr}{n c:Nat}(h:Blk w b T lc)(hg:w.grownBy w' (Value.slice A n c).ownBlock)(ha:Away A b) : Blk w' b T lc:=by
 refine (hg.block b h.lt fun hk=>?_).trans h
 cases A with
 | none=>simp [Value.ownBlock] at hk
 | some q=>
  simp only [Value.ownBlock,Option.some.injEq] at hk
  exact ha q rfl hk.symm
theorem Rd.appT{β:Type}{w w':World}{B:Nat}{E':TypeId}{enc':β->List Value}{A':Option Addr}{l':List β}{B0:Nat}{E:TypeId}{sz:Nat}{enc:α->List Value}{A:Option Addr}{c:Nat}{l:List α}(h:Rd w B E' enc' A' l')(ho:Own w B0 E sz enc A c l)(hg:w.grownBy w' (Value.slice A l.length c).ownBlock)(hT:Nat.beq E E'=false) : Rd w' B E' enc' A' l':=
 h.chg fun k cs fz _ hh=>hg.block k (Qp.1 hh).1 fun hk=>by
  obtain ⟨_,_,cs',fz',h3⟩:=ho.block hk.symm
  rw [h3] at hh
  injection hh with hh
  injection hh with _ e _
  subst e
  simp at hT
theorem Rd.appB{β:Type}{w w':World}{B:Nat}{E':TypeId}{enc':β->List Value}{A':Option Addr}{l':List β}{B0:Nat}{E:TypeId}{sz:Nat}{enc:α->List Value}{A:Option Addr}{c:Nat}{l:List α}(h:Rd w B E' enc' A' l')(ho:Own w B0 E sz enc A c l)(hg:w.grownBy w' (Value.slice A l.length c).ownBlock)(hB:B<=B0) : Rd w' B E' enc' A' l':=
 h.chg fun k cs fz hk hh=>hg.block k (Qp.1 hh).1 fun hk'=>by have:=(ho.block hk'.symm).1;omega
theorem Own.appT{β:Type}{w w':World}{B1:Nat}{E':TypeId}{sz':Nat}{enc':β->List Value}{A':Option Addr}{c':Nat}{l':List β}{B0:Nat}{E:TypeId}{sz:Nat}{enc:α->List Value}{A:Option Addr}{c:Nat}{l:List α}(h:Own w B1 E' sz' enc' A' c' l')(ho:Own w B0 E sz enc A c l)(hg:w.grownBy w' (Value.slice A l.length c).ownBlock)(hT:Nat.beq E E'=false) : Own w' B1 E' sz' enc' A' c' l':=by
 refine ⟨h.1,?_⟩
 rcases h.2 with h1|⟨g,cap,cur,h1,h2,h3,h4⟩
 ·exact .inl h1
 ·refine .inr ⟨g,cap,cur,h1,h2,(hg.block g (Qp.1 h3).1 fun hk=>?_).trans h3,h4⟩
  obtain ⟨_,_,cs',fz',h5⟩:=ho.block hk.symm
  rw [h5] at h3
  injection h3 with h3
  injection h3 with _ e _
  subst e
  simp at hT
theorem Below.app{w0 w w':World}{B B0:Nat}{E:TypeId}{sz:Nat}{enc:α->List Value}{A:Option Addr}{c:Nat}{l:List α}(h:Below B w0 w)(ho:Own w B0 E sz enc A c l)(hg:w.grownBy w' (Value.slice A l.length c).ownBlock)(hB:B<=B0)(hs:B<=w.heap.size) : Below B w0 w':=
 h.grown hg hs fun k hk=>by have:=(ho.block hk).1;omega
def InfoT(P:Program)(E:TypeId)(sz bytes:Nat) : Prop:=∃ i z,P.info? E=some i/\i.zero=some z/\i.size=sz/\i.bytes=bytes/\z.cells.size=sz/\0<sz
section
variable {P : Program} {a : Act} {w : World} {n : Nat} {e : Env} {ty : TypeId} {pos : String} {af : Array Edge} {g : Option (Nat × Bool)} {d : Option Tmp}
theorem Xe7{T E:TypeId}{sz bytes B B0:Nat}{x y:Operand}{enc:α->List Value}{A A2:Option Addr}{c c2:Nat}{l l2:List α}(hf:Fr a n e)(hx:ev e x=some (.slice A l.length c))(hy:ev e y=some (.slice A2 l2.length c2))
  (hT:SliceT P T E) (hi:InfoT P E sz bytes) (hsz:∀ x,(enc x).length=sz) (hone:∀ x,(enc x).all one=true) (ho:Own w B0 E sz enc A c l) (hr:Rd w B E enc A2 l2) (h63:l.length+l2.length<=maxLen) (hbytes:(l.length+l2.length)*bytes<=140737488355328) (hB0:B0<=w.heap.size) :
  Ef P ⟨d,.call ⟨.builtin .append,#[x,y],#[T,T]⟩,ty,pos,af,g⟩ a w (Appended w B0 E sz enc A c l l2):=by
 obtain ⟨i,z,hi1,hi2,hi3,hi4,hi5,hi6⟩:=hi
 by_cases hl2:l2=[]
 ·subst hl2
  have hrun:(Builtin.append_ #[T,T] ty #[.slice A l.length c,.slice A2 0 c2]).run P w=.ok (.slice A l.length c) w:=by
   rcases ho.2 with ⟨h1,h2⟩|⟨gg,cap,cur,h1,h2,h3,h4,h5,h6,h7⟩
   ·injection h1 with h1 h1' h1''
    subst h1
    cases A2<;>simp [Builtin.append_,X0c hT,sizeOf,typeInfo,hi1,Builtin.lenOf,Builtin.firstCells,loadCells,loadCellsFrom,h1',h1'']
   ·injection h1 with h1 _ h1''
    subst h1;subst h1''
    cases A2<;>simp [Builtin.append_,X0c hT,sizeOf,typeInfo,hi1,Builtin.lenOf,Builtin.firstCells,loadCells,loadCellsFrom,h4,storeCells]
  refine (Ef.of_run (v:=.slice A l.length c) (w':=w) ?_).mono fun v w' ⟨e1,e2⟩=>?_
  ·simp only [List.length_nil] at hy
   simp [execOp,resolve,invoke,builtin,hf.ev hx,hf.ev hy,hrun]
  ·subst e1;subst e2
   exact ⟨A,c,by simp,by simpa using ho,World.grownBy.refl w' _,fun _ _ h=>h⟩
 ·obtain ⟨b,off,cs,fz,rfl,h2,h3,h4⟩:=hr hl2;obtain ⟨v',w',hrun,hown,hg,_,hat⟩:=run_append_own_at (P:=P) w B0 T ty E i z sz bytes hT hi1 hi2 hi3 hi4 hi5 hi6 (.slice A l.length c) l.length (l.flatMap enc) ho ⟨b,off,none⟩ l2.length c2 (l2.flatMap enc) (Xo hsz l2)
   (fun j u hu=>by
    have:=h4 j u hu
    rw [X1a]
    simp [World.cell?,h3,this])
   (fun u hu=>by
    obtain ⟨x,_,hx⟩:=List.mem_flatMap.1 hu
    have:=W1.1 (hone x) u hx
    cases u<;>simp_all [Value.oneCell',one]) h63 hbytes hB0
  refine (Ef.of_run (v:=v') (w':=w') ?_).mono fun v w1 ⟨e1,e2⟩=>?_
  ·simp [execOp,resolve,invoke,builtin,hf.ev hx,hf.ev hy,hrun]
  ·subst e1;subst e2
   have hv:∃ A' c',v=.slice A' (l++l2).length c':=by
    rcases hown.2 with ⟨h1,h2⟩|⟨gg,cap,cur,h1,_⟩
    ·exact ⟨none,0,by rw [h1,Qh,h2]⟩
    ·exact ⟨_,_,by rw [h1,Qh]⟩
   obtain ⟨A',c',rfl⟩:=hv
   refine ⟨A',c',rfl,?_,hg,fun b hb ha p hp=>?_⟩
   rotate_left
   ·subst hp
    rcases hat with hat|hat
    ·cases A with
     | none=>simp [Value.ownBlock] at hat
     | some q=>
      simp only [Value.ownBlock,Option.some.injEq] at hat
      rw [hat]
      exact ha q rfl
    ·simp only [Value.ownBlock,Option.some.injEq] at hat
     rw [hat]
     omega
   unfold Own
   rw [Qh,List.flatMap_append]
   simpa [Qh] using hown
theorem X0k{T E:TypeId}{sz bytes B B0:Nat}{x y:Operand}{enc:α->List Value}{A A2:Option Addr}{c c2:Nat}{l l2:List α}(hx:ev e x=some (.slice A l.length c))(hy:ev e y=some (.slice A2 l2.length c2))(hT:SliceT P T E)(hi:InfoT P E sz bytes)(hsz:∀ x,(enc x).length=sz)(hone:∀ x,(enc x).all one=true)(ho:Own w B0 E sz enc A c l)(hr:Rd w B E enc A2 l2)(h63:l.length+l2.length<=maxLen)(hbytes:(l.length+l2.length)*bytes<=140737488355328)(hB0:B0<=w.heap.size) : EfW P ⟨d,.call ⟨.builtin .append,#[x,y],#[T,T]⟩,ty,pos,af,g⟩ n e w (Appended w B0 E sz enc A c l l2):=fun a hf=>Xe7 hf hx hy hT hi hsz hone ho hr h63 hbytes hB0
theorem X58{T E:TypeId}{sz:Nat}{x y:Operand}{p:Addr}{c:Nat}{k:Nat}{i:Int}{m:Nat}(hf:Fr a n e)(hx:ev e x=some (.slice (some p) m c))(hy:ev e y=some (.int .i64 i))(hT:SliceT P T E)(hs:SizeT P E sz)
  (hi:i=(k:Int)) (hk:k<m) : Ev P ⟨d,.indexAddr T x y,ty,pos,af,g⟩ a w (.pointer (some (p.add (k*sz)))):=fun w' _=>by
 subst hi
 have h1:=X0c (P:=P) hT w';have h2:=run_sizeOf' hs w'
 have h3:((k:Int)<(m:Int))=True:=by simp;omega
 simp [execOp,Instr.indexAt,asIntOf,hf.ev hx,hf.ev hy,h1,h2,hk]
end
end
section
variable {P : Program} {Q : Exit -> Act -> World -> Prop} {a : Act} {w : World} {n : Nat} {e : Env}
theorem Xf{c:Operand}{x y:Code}{b:Bool}(hf:Fr a n e)(hc:ev e c=some (.bool b))(ht:b=true->x.wp P Q a w)(he:b=false->y.wp P Q a w) : (Code.cond c x y).wp P Q a w:=
 wp_cond_split (hf.ev hc) ht he
theorem Xhl{c:Operand}{x y:Code}(hf:Fr a n e)(hc:ev e c=some (.bool true))(ht:x.wp P Q a w) : (Code.cond c x y).wp P Q a w:=wp_cond_true (hf.ev hc) ht
theorem X6b{c:Operand}{x y:Code}(hf:Fr a n e)(hc:ev e c=some (.bool false))(ht:y.wp P Q a w) : (Code.cond c x y).wp P Q a w:=wp_cond_false (hf.ev hc) ht
theorem X06{c:Code}(X:Act->World->Prop)(h:c.wp P (Exit.then X Q) a w)(hX:∀ a w,X a w->Q .normal a w) : c.wp P Q a w:=
 Code.wp_mono (fun e a w hq=>by cases e<;>first|exact hX _ _ hq|exact hq) h
theorem X02{σ:Type}{c:Code}(I:σ->Act->World->Prop)(μ:σ->Nat)(s:σ)(h0:I s a w)
  (round:∀ s a w,I s a w->c.wp P (Exit.then (fun a' w'=>∃ s',I s' a' w'/\μ s'<μ s) Q) a w) : (Code.loop c).wp P Q a w:=by
 intro b k cs
 have key:∀ n s a w,μ s=n->I s a w->∃ e a' w',Q e a' w'/\Arrives P (lone (b.at a (.code c::.inLoop c::k)) cs w) b k cs e a' w':=by
  intro n
  induction n using Nat.strongRecOn with
  | _ n ih=>
   intro s a w hn hI;obtain ⟨e,a₁,w₁,hq,harr⟩:=round s a w hI b (.inLoop c::k) cs
   cases e with
   | normal=>
    obtain ⟨s',hI₁,hlt⟩:=hq;obtain ⟨e₂,a₂,w₂,hq₂,harr₂⟩:=ih (μ s') (hn▸hlt) s' a₁ w₁ rfl hI₁;exact ⟨e₂,a₂,w₂,hq₂,.of_steps (Steps.trans harr (.one step_inLoop)) harr₂⟩
   | exit id=>exact ⟨_,a₁,w₁,hq,.pass (x:=.inLoop c) rfl (fun _ _=>.inl (by simp)) harr⟩
   | goto l=>exact ⟨_,a₁,w₁,hq,.pass (x:=.inLoop c) rfl (fun _ _=>.inl (by simp)) harr⟩
   | ret=>exact ⟨_,a₁,w₁,hq,.pass (x:=.inLoop c) rfl (fun _ _=>.inl (by simp)) harr⟩
   | panic ch=>exact ⟨_,a₁,w₁,hq,.pass (x:=.inLoop c) rfl (fun _ _=>.inl (by simp)) harr⟩
   | outgrown=>exact ⟨_,a₁,w₁,hq,.pass (x:=.inLoop c) rfl (fun _ _=>.inl (by simp)) harr⟩
 obtain ⟨e,a',w',hq,harr⟩:=key _ s a w rfl h0;exact ⟨e,a',w',hq,.of_steps (.one step_loop) harr⟩
def evp(e:Env) : List (Nat×Operand)->Option (List (Nat×Value))
 | []=>some []
 | (i,x)::l=>match ev e x,evp e l with
  | some v,some vs=>some ((i,v)::vs)
  | _,_=>none
theorem Fr.evp(hf:Fr a n e) : ∀ {l:List (Nat×Operand)} {vs:List (Nat×Value)},evp e l=some vs->l.map (fun p=>(p.1,a.eval p.2))=vs:=by
 intro l
 induction l with
 | nil=>intro vs h;simpa [YtipiejccbmifnaaGreatDoor.evp] using h
 | cons x l ih=>
  obtain ⟨i,x⟩:=x;intro vs h
  simp only [YtipiejccbmifnaaGreatDoor.evp] at h
  split at h
  ·rename_i v us h1 h2
   injection h with h
   subst h
   simp [hf.ev h1,ih h2]
  ·cases h
def numb:Nat->List Value->List (Nat×Value)
 | _,[]=>[]
 | k,v::l=>(k,v)::numb (k+1) l
section
variable {ty : TypeId} {pos : String} {af : Array Edge} {g : Option (Nat × Bool)} {d : Option Tmp}
theorem Xfh{T:TypeId}{parts:List (Nat×Operand)}{ps:List (Nat×Value)}{cs:List Value}(hf:Fr a n e)(hp:evp e parts=some ps)(hb:∀ w,(Instr.build T ps.toArray).run P w=.ok (.agg cs.toArray) w) :
  Ev P ⟨d,.build T parts.toArray,ty,pos,af,g⟩ a w (.agg cs.toArray):=fun w' _=>by
 have h1:=hf.evp hp;have h2:=hb w'
 simp only [execOp,List.map_toArray]
 rw [show (List.map (fun x:Nat×Operand=>match x with|(i,x)=>(i,a.eval x)) parts)=ps from h1]
 simp [h2]
theorem X11{T:TypeId}{parts:List (Nat×Operand)}{ps:List (Nat×Value)}{cs:List Value}(hp:evp e parts=some ps)(hb:∀ w,(Instr.build T ps.toArray).run P w=.ok (.agg cs.toArray) w) : EvW P ⟨d,.build T parts.toArray,ty,pos,af,g⟩ n e w (.agg cs.toArray):=fun a hf=>Xfh hf hp hb
theorem X7z(off:Nat) : ∀ (l:List Value) (m:Nat) (cs:Array Value),off+m+l.length<=cs.size->((l.zipIdx m).foldl (fun cs p=>cs.setIfInBounds (off+p.2) p.1) cs).toList=splice cs.toList (off+m) l
 | [],m,cs,_=>by simp [splice]
 | v::l,m,cs,h=>by
  simp only [Qs] at h
  simp only [List.zipIdx_cons,List.foldl_cons]
  rw [X7z off l (m+1) _ (by simp;omega)]
  unfold splice
  have e1:off+(m+1)=off+m+1:=by omega
  rw [e1,Array.toList_setIfInBounds,Wf (by simp;omega),List.take_set_of_le (by omega),List.getElem_set_self,List.drop_set_of_lt (by omega)]
  simp only [Qs,Qx,Wa,List.nil_append]
  rw [show off+m+1+l.length=off+m+(l.length+1) from by omega]
theorem X5l(sz:Nat) : ∀ (vs:List Value) (k:Nat) (cells:Array Value),(∀ v ∈ vs,v.cells.size=sz)->cells.size=(k+vs.length)*sz->
  Instr.fill (fun i=>some (i*sz,sz)) cells (numb k vs)=some (cells.toList.take (k*sz)++vs.flatMap fun v=>v.cells.toList).toArray
 | [],k,cells,_,h=>by
  simp only [List.length_nil,Nat.add_zero] at h
  have h9:cells.toList.take (k*sz)=cells.toList:=Qi (by simp [h])
  simp [numb,Instr.fill,h9]
 | v::vs,k,cells,h1,h=>by
  have hv:=h1 v (by simp)
  simp only [Qs] at h
  have h2:k*sz+sz<=cells.size:=by rw [h,Wb,Wb];omega
  simp only [numb,Instr.fill,hv]
  rw [Q3 (by simp;omega)]
  have e1:(v.cells.zipIdx.foldl (fun cs (p:Value×Nat)=>cs.setIfInBounds (k*sz+p.2) p.1) cells).toList=splice cells.toList (k*sz) v.cells.toList:=by
   have:=X7z (k*sz) v.cells.toList 0 cells (by simp [hv];omega)
   rw [<- Array.foldl_toList,Array.toList_zipIdx]
   simpa using this
  have hs:(v.cells.zipIdx.foldl (fun cs (p:Value×Nat)=>cs.setIfInBounds (k*sz+p.2) p.1) cells).size=cells.size:=by
   rw [<- Array.length_toList,e1]
   simp [splice,hv]
   omega
  have ih:=X5l sz vs (k+1) (v.cells.zipIdx.foldl (fun cs (p:Value×Nat)=>cs.setIfInBounds (k*sz+p.2) p.1) cells) (fun u hu=>h1 u (by simp [hu])) (by rw [hs,h];congr 1;omega)
  refine Eq.trans ih ?_
  rw [e1]
  congr 2
  simp only [Wc]
  rw [<- Qx]
  congr 1
  unfold splice
  have e2:(cells.toList.take (k*sz)++v.cells.toList).length=(k+1)*sz:=by simp [hv,Wb];omega
  rw [<- e2,List.take_left]
theorem X77{T E sz bytes:Nat}{k:Nat}{parts:List (Nat×Operand)}{vs zs:List Value}(hf:Fr a n e)(hp:evp e parts=some (numb 0 vs))(hT:SliceT P T E)(hi:InfoT P E sz bytes)(hv:(vs.all (fun v=>Nat.beq v.cells.size sz)&&Nat.beq vs.length k&&Nat.ble (k*sz) 1000)=true)(hz:vs.flatMap (fun v=>v.cells.toList)=zs) :
  Ef P ⟨d,.buildSlice T k parts.toArray,ty,pos,af,g⟩ a w (fun v w'=>∃ b,v=.slice (some ⟨b,0,none⟩) k k/\w.heap.size<=b/\Below w.heap.size w w'/\Blk w' b E zs):=by
 subst hz
 obtain ⟨i,z,hi1,hi2,hi3,hi4,hi5,hi6⟩:=hi
 simp only [Qd,W1] at hv
 obtain ⟨⟨hv1,hv2⟩,hv3⟩:=hv
 have hk:vs.length=k:=Nat.eq_of_beq_eq_true hv2
 have hk3:k*sz<=1000:=Nat.le_of_ble_eq_true hv3
 have h1:=hf.evp hp
 have hfill:=X5l sz vs 0 ((Array.range (k*sz)).map fun j=>z.cells[j % z.cells.size]!) (fun v hv=>Nat.eq_of_beq_eq_true (hv1 v hv)) (by simp [hk])
 simp only [Nat.zero_mul,List.take_zero,List.nil_append] at hfill
 refine (Ef.of_run (v:=.slice (some ⟨w.heap.size,0,none⟩) k k) (w':=w.alloc (.cells (vs.flatMap fun v=>v.cells.toList).toArray E)) ?_).mono fun v w' ⟨e1,e2⟩=>?_
 ·simp only [execOp,List.map_toArray]
  rw [show (List.map (fun x:Nat×Operand=>match x with|(i,x)=>(i,a.eval x)) parts)=numb 0 vs from h1]
  have h24:¬ (16777216<k*sz):=by omega
  by_cases h0:k*sz=0
  ·have hf0:Instr.fill (fun i=>some (i*sz,sz)) #[] (numb 0 vs)=some (vs.flatMap fun v=>v.cells.toList).toArray:=by
    rw [<- hfill,h0]
    congr 1
    simp [Array.range_zero']
   simp [Instr.buildSlice,X0c hT,sizeOf,typeInfo,hi1,hi3,h0,newRow,newObj,Sem.run,Array.range_zero',hf0]
  ·simp [Instr.buildSlice,X0c hT,sizeOf,typeInfo,hi1,hi3,h24,h0,zeroValue,hi2,newRow,newObj,Sem.run,hfill]
 ·subst e1;subst e2
  exact ⟨_,rfl,Qb _,(Below.refl _ _).alloc (Qb _) _,X2c w E _⟩
theorem Xj{T E sz bytes:Nat}{k:Nat}{parts:List (Nat×Operand)}{vs zs:List Value}(hp:evp e parts=some (numb 0 vs))(hT:SliceT P T E)(hi:InfoT P E sz bytes)(hv:(vs.all (fun v=>Nat.beq v.cells.size sz)&&Nat.beq vs.length k&&Nat.ble (k*sz) 1000)=true)(hz:vs.flatMap (fun v=>v.cells.toList)=zs) : EfW P ⟨d,.buildSlice T k parts.toArray,ty,pos,af,g⟩ n e w (fun v w'=>∃ b,v=.slice (some ⟨b,0,none⟩) k k/\w.heap.size<=b/\Below w.heap.size w w'/\Blk w' b E zs):=fun a hf=>X77 hf hp hT hi hv hz
theorem Xnv{x y:Operand}{i j:Int}{ts:Array TypeId}(hf:Fr a n e)(hx:ev e x=some (.int .i64 i))(hy:ev e y=some (.int .i64 j)) : Ev P ⟨d,.call ⟨.builtin .max,#[x,y],ts⟩,ty,pos,af,g⟩ a w (.int .i64 (max i j)):=fun w' _=>by
 simp [execOp,resolve,invoke,builtin,Builtin.max_,Builtin.max2,hf.ev hx,hf.ev hy,Int.max_def]
 split<;>simp<;>omega
theorem Xpz{x y:Operand}{i j:Int}{ts:Array TypeId}(hx:ev e x=some (.int .i64 i))(hy:ev e y=some (.int .i64 j)) : EvW P ⟨d,.call ⟨.builtin .max,#[x,y],ts⟩,ty,pos,af,g⟩ n e w (.int .i64 (max i j)):=fun a hf=>Xnv hf hx hy
end
theorem X1{t:Nat}{e:Env}{b b':Bool}(h:look t e=some (.bool b))(hb:b=b') : look t e=some (.bool b'):=hb▸h
theorem X4{α:Type}{l:List α}{k:Nat}(h:k<l.length) : ∃ u,l[k]? = some u:=⟨l[k],Qc h⟩
section
variable {α : Type} {ops : Array Oper} {rest : List Oper} {ty : TypeId} {pos : String} {af : Array Edge} {g : Option (Nat × Bool)} {d : Nat}
theorem Rd.top{B:Nat}{E:TypeId}{enc:α->List Value}{A:Option Addr}{l:List α}(h:Rd w B E enc A l) : Rd w w.heap.size E enc A l:=fun hl=>by
 obtain ⟨b,off,cs,fz,h1,h2,h3,h4⟩:=h hl;exact ⟨b,off,cs,fz,h1,(Qp.1 h3).1,h3,h4⟩
theorem Xja{T E E2:TypeId}{sz B:Nat}{x y:Operand}{enc:α->List Value}{A:Option Addr}{c:Nat}{l:List α}{k:Nat}{i:Int}{u:α}(hf:Fr a n e)(hw:Want ops ⟨some d,.indexAddr T x y,ty,pos,af,g⟩ e)(hn:Nat.blt d n=true)
  (hx:ev e x=some (.slice A l.length c)) (hy:ev e y=some (.int .i64 i)) (hT:SliceT P T E) (hs:SizeT P E sz) (hsz:∀ x,(enc x).length=sz) (hr:Rd w B E2 enc A l) (hk:l[k]? = some u) (hi:i=(k:Int))
  (h:∀ a' p,At w p (enc u)->Fr a' n ((d,.pointer (some p))::e)->wpList P ops Q rest a' w) : wpList P ops Q (⟨some d,.indexAddr T x y,ty,pos,af,g⟩::rest) a w:=by
 obtain ⟨p,rfl,hat⟩:=hr.at hsz hk;exact Xn4 hf hw rfl hn (X58 hf hx hy hT hs hi (Qg.1 hk).1) fun a' hf'=>h a' _ hat hf'
theorem Xi2{Q:Act->World->Prop}{tl:Nat->Bool}{fuel:Nat}{done:List Nat}{T E E2:TypeId}{sz B:Nat}{x y:Operand}{enc:α->List Value}{A:Option Addr}{c:Nat}{l:List α}{k:Nat}{i:Int}{u:α}(j:Nat)
  (ho:ops[j]? = some ⟨some d,.indexAddr T x y,ty,pos,af,g⟩) (hm:mayFirst ops done j=true) (ht:tailWaits ops tl j=true) (hf:Fr a n e) (hw:Want ops ⟨some d,.indexAddr T x y,ty,pos,af,g⟩ e) (hn:Nat.blt d n=true)
  (hx:ev e x=some (.slice A l.length c)) (hy:ev e y=some (.int .i64 i)) (hT:SliceT P T E) (hs:SizeT P E sz) (hsz:∀ x,(enc x).length=sz) (hr:Rd w B E2 enc A l) (hk:l[k]? = some u) (hi:i=(k:Int))
  (h:∀ a' p,At w p (enc u)->Fr a' n ((d,.pointer (some p))::e)->wpS P ops none tl Q fuel (mask ops (j::done)) a' w) : wpS P ops none tl Q (fuel+1) (mask ops done) a w:=by
 obtain ⟨p,rfl,hat⟩:=hr.at hsz hk;exact Xp3 j ho hm ht hf hw rfl hn (X58 hf hx hy hT hs hi (Qg.1 hk).1) fun a' hf'=>h a' _ hat hf'
end
theorem X8{K:Act->World->Prop}(h:Q .ret a w) : Exit.then K Q .ret a w:=h
theorem Xx{id:Nat}(h:Q .ret a w) : Exit.inBlock id Q .ret a w:=by simp [Exit.inBlock,h]
theorem Xb{id:Nat}(h:Q .normal a w) : Exit.inBlock id Q .normal a w:=by simp [Exit.inBlock,h]
theorem Xl{K:Act->World->Prop}{id:Nat}(h:Q (.exit id) a w) : Exit.then K Q (.exit id) a w:=h
theorem Xe{K:Act->World->Prop}(h:K a w) : Exit.then K Q .normal a w:=h
theorem X01{id:Nat}(h:Q .normal a w) : Exit.inBlock id Q (.exit id) a w:=by simp [Exit.inBlock,h]
def ResV(P:Program)(w:World)(e:Env) : ResultVar->Value->Prop
 | .tmp t,v=>look t e=some v
 | .cell t T,v=>∃ p,look t e=some (.pointer (some p))/\((OneT P T/\∃ l,At w p (v::l))∨∃ k l,AggT P T k/\At w p l/\l.length=k/\v=.agg l.toArray)
theorem ResV.cellN{t T k:Nat}{p:Addr}{l:List Value}(h:look t e=some (.pointer (some p)))(hA:AggT P T k)(hc:At w p l)(hl:l.length=k) : ResV P w e (.cell t T) (.agg l.toArray):=⟨p,h,.inr ⟨k,l,hA,hc,hl,rfl⟩⟩
theorem X4p(fn:Func)(tmps:Array Value) : ∃ f:ResultVar->Sem Value,(∀ t,f (.tmp t)=pure (tmps.getD t undef))/\(∀ t T,f (.cell t T)=(do loadVar T (<- asAddr (tmps.getD t undef))))/\
  results fn tmps=(do let vs <- fn.results.mapM f;pure (if h:vs.size=1 then vs[0] else .tuple vs)):=⟨_,fun _=>rfl,fun _ _=>rfl,rfl⟩
theorem ResV.run{r:ResultVar}{v:Value}{f:ResultVar->Sem Value}(hf:Fr a n e)(h:ResV P w e r v)(f1:∀ t,f (.tmp t)=pure (a.tmps.getD t undef))(f2:∀ t T,f (.cell t T)=(do loadVar T (<- asAddr (a.tmps.getD t undef)))) : (f r).run P w=.ok v w:=by
 cases r with
 | tmp t=>
  have:=hf.h _ _ h
  simp [f1,this]
 | cell t T=>
  obtain ⟨p,h1,h2⟩:=h;have h3:=hf.h _ _ h1
  rcases h2 with ⟨h4,l,h5⟩|⟨k,l,h4,h5,h6,rfl⟩
  ·simp [f2,h3,asAddr,X3n h4 h5]
  ·simp [f2,h3,asAddr,X3o h4 h5 h6]
section
variable {fn : Func} {R : Ending -> World -> Prop}
theorem Xs{r:ResultVar}{v:Value}(hf:Fr a n e)(hr:fn.results = #[r])(h:ResV P w e r v) : (results fn a.tmps).run P w=.ok v w:=by
 obtain ⟨f,f1,f2,h0⟩:=X4p fn a.tmps;have h1:=h.run hf f1 f2
 rw [h0,hr]
 simp [h1]
theorem X1h{r1 r2:ResultVar}{v1 v2:Value}(hf:Fr a n e)(hr:fn.results = #[r1,r2])(h1:ResV P w e r1 v1)(h2:ResV P w e r2 v2) : (results fn a.tmps).run P w=.ok (.tuple #[v1,v2]) w:=by
 obtain ⟨f,f1,f2,h0⟩:=X4p fn a.tmps;have h1:=h1.run hf f1 f2;have h2:=h2.run hf f1 f2
 rw [h0,hr]
 simp [h1,h2]
theorem Xhd{r1 r2 r3:ResultVar}{v1 v2 v3:Value}(hf:Fr a n e)(hr:fn.results = #[r1,r2,r3])(h1:ResV P w e r1 v1)(h2:ResV P w e r2 v2)(h3:ResV P w e r3 v3) : (results fn a.tmps).run P w=.ok (.tuple #[v1,v2,v3]) w:=by
 obtain ⟨f,f1,f2,h0⟩:=X4p fn a.tmps;have h1:=h1.run hf f1 f2;have h2:=h2.run hf f1 f2;have h3:=h3.run hf f1 f2
 rw [h0,hr]
 simp [h1,h2,h3]
theorem X6{v:Value}{R':Value->World->Prop}(hf:Fr a n e)(hr:(results fn a.tmps).run P w=.ok v w)(h:R' v w) : bodyPost P fn (fun e w'=>∃ v,e=.returned v/\R' v w') .ret a w:=⟨hf.d,v,hr,v,rfl,h⟩
theorem X1t{v:Value}{R':Value->World->Prop}(hf:Fr a n e)(hr:(results fn a.tmps).run P w=.ok v w)(h:R' v w) : bodyPost P fn (fun e w'=>∃ v,e=.returned v/\R' v w') .normal a w:=⟨hf.d,v,hr,v,rfl,h⟩
theorem X2n(hr:fn.results = #[]) : (results fn a.tmps).run P w=.ok (.tuple #[]) w:=by
 simp only [results,hr]
 simp
end
theorem enter{f:FuncId}{fn:Func}{c:Code}{args:List Value}{R:Value->World->Prop}(hf:P.funcs[f]? = some fn)(hb:fn.body=some c)(n:Nat)(hn:fn.ntmps=n)(hl:Nat.ble args.length n=true)
  (h:∀ a,Fr a n (zipFrom 0 args)->c.wp P (bodyPost P fn (fun e w'=>∃ v,e=.returned v/\R v w')) a w) : Ret P f args w R:=Xg3 hf hb n hn hl h
end
section
variable {P : Program} {ops : Array Oper} {Q : Exit -> Act -> World -> Prop} {w : World} {rest : List Oper} {o : Oper} {op : Op} {ty : TypeId} {pos : String} {af : Array Edge} {g : Option (Nat × Bool)} {n d : Nat} {e : Env} {v : Value} {R : Value -> World -> Prop} {x : Operand}
def WL(P:Program)(ops:Array Oper)(Q:Exit->Act->World->Prop)(l:List Oper)(n:Nat)(e:Env)(w:World) : Prop:=∀ a,Fr a n e->wpList P ops Q l a w
theorem bs:(∀ b,(true&&b)=b)/\(∀ b,(false&&b)=false)/\(∀ b,(true||b)=true)/\∀ b,(false||b)=b:=⟨fun _=>rfl,fun _=>rfl,fun _=>rfl,fun _=>rfl⟩
theorem Vc{f:FuncId}{xs:List Operand}{vs:List Value}{ts:Array TypeId}{D:Option Tmp}(h:Ret P f vs w R)(hF:FuncF P f)(hx:evs e xs=some vs:=by rfl) : EfW P ⟨D,.call ⟨.value (.func f),xs.toArray,ts⟩,ty,pos,af,g⟩ n e w R:=X16 hx hF h
theorem Vn{T t k b:Nat}{l:List Value}{D:Option Tmp}(hA:AggT P t k)(hb:Blk w b T l)(hx:ev e x=some (.pointer (some ⟨b,0,none⟩)):=by rfl)(hl:l.length=k:=by rfl) : EvW P ⟨D,.load t x,ty,pos,af,g⟩ n e w (.agg l.toArray):=X00 hx hA (hb.at 0) hl
theorem Vd{T f k b off:Nat}{D:Option Tmp}(hx:ev e x=some (.pointer (some ⟨b,off,none⟩)))(hF:FieldT P T f k)(m:Nat)(hk:off+k=m:=by rfl) : EvW P ⟨D,.fieldAddr T x f,ty,pos,af,g⟩ n e w (.pointer (some ⟨b,m,none⟩)):=Xij hx hF hk
theorem Vu{t T:TypeId}{y:Operand}{b off k:Nat}{l l' vs:List Value}{D:Option Tmp}(hx:ev e x=some (.pointer (some ⟨b,off,none⟩)))(hy:ev e y=some v)(hs:SizeT P t k)(hb:Blk w b T l)(hvs:v.cells.toList=vs:=by rfl)(hk:Nat.beq vs.length k=true:=by rfl)(h1:vs.all one=true:=by rfl)(hl:Nat.ble (off+k) l.length=true:=by rfl)(hl':splice l off vs=l':=by rfl) : EfW P ⟨D,.store t x y,ty,pos,af,g⟩ n e w (Stored w b T l'):=X17 hx hy hs hb hvs hk h1 hl hl'
theorem Vw{t T:TypeId}{y:Operand}{b k:Nat}{l:List Value}{D:Option Tmp}(vs:List Value)(hs:SizeT P t k)(hb:Blk w b T l)(hx:ev e x=some (.pointer (some ⟨b,0,none⟩)):=by rfl)(hy:ev e y=some v:=by rfl)(hvs:v.cells.toList=vs:=by rfl)(hk:Nat.beq vs.length k=true:=by rfl)(h1:vs.all one=true:=by rfl)(hl:Nat.ble (0+k) l.length=true:=by rfl)(hl':splice l 0 vs=vs:=by rfl) : EfW P ⟨D,.store t x y,ty,pos,af,g⟩ n e w (Stored w b T vs):=X17 hx hy hs hb hvs hk h1 hl hl'
theorem Ze(hr:EvW P ⟨some d,op,ty,pos,af,none⟩ n e w v)(h:WL P ops Q rest n ((d,v)::e) w)(hn:Nat.blt d n=true:=by rfl) : WL P ops Q (⟨some d,op,ty,pos,af,none⟩::rest) n e w:=fun a hf=>l_e hf hn (hr a hf) h
theorem Zm(hx:ev e x=some v)(h:WL P ops Q rest n ((d,v)::e) w)(hn:Nat.blt d n=true:=by rfl) : WL P ops Q (⟨some d,.move x,ty,pos,af,none⟩::rest) n e w:=fun _ hf=>Xvf hf hx hn h
theorem Za(hx:ev e x=some v)(h:WL P ops Q rest n ((d,v)::e) w)(hn:Nat.blt d n=true:=by rfl) : WL P ops Q (⟨some d,.assign x,ty,pos,af,none⟩::rest) n e w:=fun _ hf=>Xud hf hx hn h
theorem Zf(hr:EfW P ⟨some d,op,ty,pos,af,none⟩ n e w R)(h:∀ v w',R v w'->WL P ops Q rest n ((d,v)::e) w')(hn:Nat.blt d n=true:=by rfl) : WL P ops Q (⟨some d,op,ty,pos,af,none⟩::rest) n e w:=fun a hf=>l_f hf hn (hr a hf) fun a' v w' hR hf'=>h v w' hR a' hf'
theorem Zo(hr:EfW P ⟨none,op,ty,pos,af,none⟩ n e w R)(h:∀ v w',R v w'->WL P ops Q rest n e w') : WL P ops Q (⟨none,op,ty,pos,af,none⟩::rest) n e w:=fun a hf=>Xum hf (hr a hf) fun a' v w' hR hf'=>h v w' hR a' hf'
theorem Zv(hw:Want ops o e)(hr:EvW P o n e w v)(h:WL P ops Q rest n ((d,v)::e) w)(hd:o.dst=some d:=by rfl)(hn:Nat.blt d n=true:=by rfl) : WL P ops Q (o::rest) n e w:=fun a hf=>Xn4 hf hw hd hn (hr a hf) h
theorem Zp(hw:Pass ops o e)(h:WL P ops Q rest n ((d,undef)::e) w)(hd:o.dst=some d:=by rfl)(hn:Nat.blt d n=true:=by rfl) : WL P ops Q (o::rest) n e w:=fun _ hf=>Xpv hf hw hd hn h
theorem Zk(hw:Want ops o e)(hr:EfW P o n e w R)(h:∀ v w',R v w'->WL P ops Q rest n ((d,v)::e) w')(hd:o.dst=some d:=by rfl)(hn:Nat.blt d n=true:=by rfl) : WL P ops Q (o::rest) n e w:=fun a hf=>Xh6 hf hw hd hn (hr a hf) fun a' v w' hR hf'=>h v w' hR a' hf'
theorem Zg(t:Nat){b:Bool}(_:look t e=some (.bool b))(h1:b=true->WL P ops Q rest n e w)(h2:b=false->WL P ops Q rest n e w) : WL P ops Q rest n e w:=by
 cases b
 ·exact h2 rfl
 ·exact h1 rfl
theorem Zn(h:∀ a,Fr a n e->Q .normal a w) : WL P ops Q [] n e w:=h
theorem Zr{a:Act}{id:Nat}{l:List Oper}(hf:Fr a n e)(h:WL P l.toArray Q l n e w) : (Code.region id l.toArray false).wp P Q a w:=wp_region_lit (h a hf)
theorem Zs{a:Act}{id:Nat}{l:List Oper}{c:Code}(hf:Fr a n e)(h:∀ K:Act->World->Prop,(∀ a w,c.wp P Q a w->K a w)->WL P l.toArray (Exit.then K Q) l n e w) : (Code.seq (Code.region id l.toArray false) c).wp P Q a w:=
 Q5 fun K hK=>wp_region_lit (h K hK a hf)
theorem Zt{c:Code}{K:Act->World->Prop}(hK:∀ a w,c.wp P Q a w->K a w)(h:∀ a,Fr a n e->c.wp P Q a w) : WL P ops (Exit.then K Q) [] n e w:=fun a hf=>hK a w (h a hf)
theorem ZX{c1 c2:Code}{K:Act->World->Prop}(hK:∀ a w,(Code.seq c1 c2).wp P Q a w->K a w)(h:∀ a,Fr a n e->∀ K':Act->World->Prop,(∀ a w,c2.wp P Q a w->K' a w)->c1.wp P (Exit.then K' Q) a w) : WL P ops (Exit.then K Q) [] n e w:=fun a hf=>hK a w (Q5 fun K' hK'=>h a hf K' hK')
theorem Zx{id:Nat}{l:List Oper}{c:Code}{K:Act->World->Prop}(hK:∀ a w,(Code.seq (Code.region id l.toArray false) c).wp P Q a w->K a w)(h:∀ a,Fr a n e->∀ K':Act->World->Prop,(∀ a w,c.wp P Q a w->K' a w)->WL P l.toArray (Exit.then K' Q) l n e w) : WL P ops (Exit.then K Q) [] n e w:=fun a hf=>hK a w (Q5 fun K' hK'=>wp_region_lit (h a hf K' hK' a hf))
theorem Zi{α:Type}{T E E2:TypeId}{sz B k:Nat}{y:Operand}{enc:α->List Value}{A:Option Addr}{c:Nat}{l:List α}{i:Int}{u:α}(hw:Want ops ⟨some d,.indexAddr T x y,ty,pos,af,g⟩ e)(hx:ev e x=some (.slice A l.length c))(hy:ev e y=some (.int .i64 i))(hT:SliceT P T E)(hs:SizeT P E sz)(hsz:∀ x,(enc x).length=sz)(hr:Rd w B E2 enc A l)(hk:l[k]? = some u)(hi:i=(k:Int))
  (h:∀ p,At w p (enc u)->WL P ops Q rest n ((d,.pointer (some p))::e) w) (hn:Nat.blt d n=true:=by rfl) : WL P ops Q (⟨some d,.indexAddr T x y,ty,pos,af,g⟩::rest) n e w:=fun _ hf=>Xja hf hw hn hx hy hT hs hsz hr hk hi fun a' p hp hf'=>h p hp a' hf'
theorem Zj{α:Type}{T E E2:TypeId}{sz B m k:Nat}{y:Operand}{enc:α->List Value}{A:Option Addr}{c:Nat}{l:List α}{i:Int}{u:α}(hw:Want ops ⟨some d,.indexAddr T x y,ty,pos,af,g⟩ e)(hx:ev e x=some (.slice A m c))(hm:m=l.length)(hy:ev e y=some (.int .i64 i))(hT:SliceT P T E)(hs:SizeT P E sz)(hsz:∀ x,(enc x).length=sz)(hr:Rd w B E2 enc A l)(hk:l[k]? = some u)(hi:i=(k:Int))
  (h:∀ p,At w p (enc u)->WL P ops Q rest n ((d,.pointer (some p))::e) w) (hn:Nat.blt d n=true:=by rfl) : WL P ops Q (⟨some d,.indexAddr T x y,ty,pos,af,g⟩::rest) n e w:=by
 subst hm
 exact Zi hw hx hy hT hs hsz hr hk hi h hn
end
section
variable {P : Program} {ops : Array Oper} {V : Option Vk} {tl : Nat -> Bool} {Q : Act -> World -> Prop} {fuel : Nat} {done : List Nat} {w : World} {o : Oper} {op : Op} {ty : TypeId} {pos : String} {af : Array Edge} {g : Option (Nat × Bool)} {n d : Nat} {e : Env} {v : Value} {R : Value -> World -> Prop} {x : Operand}
def WS(P:Program)(ops:Array Oper)(V:Option Vk)(tl:Nat->Bool)(Q:Act->World->Prop)(m:Nat)(L:List Nat)(n:Nat)(e:Env)(w:World) : Prop:=∀ a,Fr a n e->wpS P ops V tl Q m (mask ops L) a w
def WR(P:Program)(ops:Array Oper)(V:Option Vk)(tl:Nat->Bool)(Q:Act->World->Prop)(i m:Nat)(L:List Nat)(n:Nat)(e:Env)(w:World) : Prop:=∀ a,Fr a n e->wpR P ops V tl i (wpS P ops V tl Q m (mask ops (i::L))) a w
theorem Yb{a:Act}{m:Nat}{L:List Nat}(hf:Fr a n e)(h:WS P ops V tl Q m L n e w) : wpS P ops V tl Q m (mask ops L) a w:=h a hf
theorem Ye(i:Nat)(hi:ops[i]? = some ⟨some d,op,ty,pos,af,none⟩)(hr:EvW P ⟨some d,op,ty,pos,af,none⟩ n e w v)(h:WS P ops none tl Q fuel (i::done) n ((d,v)::e) w)(hm:mayFirst ops done i=true:=by kernel_rfl)(ht:tailWaits ops tl i=true:=by kernel_rfl)(hn:Nat.blt d n=true:=by rfl) : WS P ops none tl Q (fuel+1) done n e w:=fun a hf=>s_e i hi hm ht hf hn (hr a hf) h
theorem Yo(i:Nat)(hi:ops[i]? = some ⟨some d,op,ty,pos,af,none⟩)(hr:∀ w,EvW P ⟨some d,op,ty,pos,af,none⟩ n e w v)(h:WS P ops V tl Q fuel (i::done) n ((d,v)::e) w)(hm:mayFirst ops done i=true:=by kernel_rfl)(hn:Nat.blt d n=true:=by rfl) : WS P ops V tl Q (fuel+1) done n e w:=fun a hf=>Xua i hi hm hf hn (fun w=>hr w a hf) h
theorem Yv(i:Nat)(hi:ops[i]? = some o)(hw:Want ops o e)(hr:EvW P o n e w v)(h:WS P ops none tl Q fuel (i::done) n ((d,v)::e) w)(hm:mayFirst ops done i=true:=by kernel_rfl)(ht:tailWaits ops tl i=true:=by kernel_rfl)(hd:o.dst=some d:=by rfl)(hn:Nat.blt d n=true:=by rfl) : WS P ops none tl Q (fuel+1) done n e w:=fun a hf=>Xp3 i hi hm ht hf hw hd hn (hr a hf) h
theorem Yw(i:Nat){b:Nat}(hi:ops[i]? = some o)(hw:Want ops o e)(hr:∀ w1,Only b w w1->EvW P o n e w1 v)(h:WS P ops (some b) tl Q fuel (i::done) n ((d,v)::e) w)(hm:mayFirst ops done i=true:=by kernel_rfl)(ht:tailWaits ops tl i=true:=by kernel_rfl)(hd:o.dst=some d:=by rfl)(hn:Nat.blt d n=true:=by rfl) : WS P ops (some b) tl Q (fuel+1) done n e w:=fun a hf=>Xss i hi hm ht hf hw hd hn (fun w1 h1=>hr w1 h1 a hf) h
theorem Yn(i:Nat){N:Nat}(hi:ops[i]? = some o)(hw:Want ops o e)(hN:N<=w.heap.size)(hr:∀ w1,Below N w w1->EvW P o n e w1 v)(h:WS P ops (some (.base N)) tl Q fuel (i::done) n ((d,v)::e) w)(hm:mayFirst ops done i=true:=by kernel_rfl)(ht:tailWaits ops tl i=true:=by kernel_rfl)(hd:o.dst=some d:=by rfl)(hn:Nat.blt d n=true:=by rfl) : WS P ops (some (.base N)) tl Q (fuel+1) done n e w:=fun a hf=>Xrs i hi hm ht hf hw hd hn hN (fun w1 h1=>hr w1 h1 a hf) h
theorem Yu(i:Nat)(hi:ops[i]? = some o)(hw:Want ops o e)(hr:∀ w,EvW P o n e w v)(h:WS P ops V tl Q fuel (i::done) n ((d,v)::e) w)(hm:mayFirst ops done i=true:=by kernel_rfl)(hd:o.dst=some d:=by rfl)(hn:Nat.blt d n=true:=by rfl) : WS P ops V tl Q (fuel+1) done n e w:=fun a hf=>Xgf i hi hm hf hw hd hn (fun w=>hr w a hf) h
theorem Yp(i:Nat)(hi:ops[i]? = some o)(hw:Pass ops o e)(h:WS P ops V tl Q fuel (i::done) n ((d,undef)::e) w)(hm:mayFirst ops done i=true:=by kernel_rfl)(hd:o.dst=some d:=by rfl)(hn:Nat.blt d n=true:=by rfl) : WS P ops V tl Q (fuel+1) done n e w:=fun _ hf=>Xnt i hi hm hf hw hd hn h
theorem Y1(i:Nat)(h:WR P ops V tl Q i fuel done n e w)(hr:Region.ready .any ops (mask ops done)=[i]:=by kernel_rfl) : WS P ops V tl Q (fuel+1) done n e w:=fun a hf=>Xq8 i hr (h a hf)
theorem Y2(i j:Nat)(hi:WR P ops V tl Q i fuel done n e w)(hj:WR P ops V tl Q j fuel done n e w)(hr:Region.ready .any ops (mask ops done)=[i,j]:=by kernel_rfl) : WS P ops V tl Q (fuel+1) done n e w:=fun a hf=>Xrw i j hr (hi a hf) (hj a hf)
theorem Yd(h:∀ a,Fr a n e->Q a w)(hr:Region.ready .any ops (mask ops done)=[]:=by kernel_rfl) : WS P ops V tl Q fuel done n e w:=fun a hf=>Xo9 hr (h a hf)
theorem Yf{i:Nat}(hi:ops[i]? = some o)(hw:Want ops o e)(hr:EfW P o n e w fun v w'=>(tl i=false->Keep V w w')/\R v w')(h:∀ v w',R v w'->WS P ops V tl Q fuel (i::done) n ((d,v)::e) w')(hd:o.dst=some d:=by rfl)(hn:Nat.blt d n=true:=by rfl) : WR P ops V tl Q i fuel done n e w:=fun a hf=>Xq6 hi hf hw hd hn (hr a hf) fun a' v w' hR hf'=>h v w' hR a' hf'
theorem Yg{i:Nat}(hi:ops[i]? = some o)(hw:Want ops o e)(hr:EfW P o n e w fun v w'=>(tl i=false->Keep V w w')/\R v w')(h:∀ v w',R v w'->WS P ops V tl Q fuel (i::done) n e w')(hd:o.dst=none:=by rfl) : WR P ops V tl Q i fuel done n e w:=fun a hf=>Xnb hi hf hw hd (hr a hf) fun a' v w' hR hf'=>h v w' hR a' hf'
theorem Yq{i:Nat}(hi:ops[i]? = some o)(hw:Pass ops o e)(h:WS P ops V tl Q fuel (i::done) n ((d,undef)::e) w)(hd:o.dst=some d:=by rfl)(hn:Nat.blt d n=true:=by rfl) : WR P ops V tl Q i fuel done n e w:=fun _ hf=>Xo8 hi hf hw hd hn h
theorem EfW.mono{R':Value->World->Prop}(h:EfW P o n e w R)(hr:∀ v w',R v w'->R' v w') : EfW P o n e w R':=fun a hf=>(h a hf).mono hr
theorem Yt{i:Nat}(hi:ops[i]? = some o)(hw:Want ops o e)(ht:tl i=true)(hr:EfW P o n e w R)(h:∀ v w',R v w'->WS P ops V tl Q fuel (i::done) n ((d,v)::e) w')(hd:o.dst=some d:=by rfl)(hn:Nat.blt d n=true:=by rfl) : WR P ops V tl Q i fuel done n e w:=Yf hi hw (hr.mono fun _ _ h=>⟨fun h0=>absurd h0 (by rw [ht];decide),h⟩) h hd hn
theorem Yh{i:Nat}(hi:ops[i]? = some o)(hw:Want ops o e)(ht:tl i=true)(hr:EfW P o n e w R)(h:∀ v w',R v w'->WS P ops V tl Q fuel (i::done) n e w')(hd:o.dst=none:=by rfl) : WR P ops V tl Q i fuel done n e w:=Yg hi hw (hr.mono fun _ _ h=>⟨fun h0=>absurd h0 (by rw [ht];decide),h⟩) h hd
theorem Yk{i:Nat}(hi:ops[i]? = some o)(hw:Want ops o e)(hr:EfW P o n e w R)(hk:∀ v w',R v w'->Below w.heap.size w w')(h:∀ v w',R v w'->WS P ops none tl Q fuel (i::done) n ((d,v)::e) w')(hd:o.dst=some d:=by rfl)(hn:Nat.blt d n=true:=by rfl) : WR P ops none tl Q i fuel done n e w:=Yf hi hw (hr.mono fun _ _ h=>⟨fun _=>hk _ _ h,h⟩) h hd hn
theorem Yz{i:Nat}{u:Value}(hi:ops[i]? = some o)(hw:Want ops o e)(hr:EfW P o n e w (fun v w'=>v=u/\w=w'))(h:WS P ops V tl Q fuel (i::done) n ((d,u)::e) w)(hd:o.dst=some d:=by rfl)(hn:Nat.blt d n=true:=by rfl) : WR P ops V tl Q i fuel done n e w:=Yf hi hw (hr.mono fun _ _ h=>⟨fun _=>by rw [<- h.2];exact Keep.refl _ _,h⟩) (by rintro _ _ ⟨rfl,rfl⟩;exact h) hd hn
theorem Yl(t:Nat){b:Bool}(_:look t e=some (.bool b))(h1:b=true->WS P ops V tl Q fuel done n e w)(h2:b=false->WS P ops V tl Q fuel done n e w) : WS P ops V tl Q fuel done n e w:=by
 cases b
 ·exact h2 rfl
 ·exact h1 rfl
theorem Yi{α:Type}{T E E2:TypeId}{sz B k:Nat}{y:Operand}{enc:α->List Value}{A:Option Addr}{c:Nat}{l:List α}{i:Int}{u:α}(j:Nat)(ho:ops[j]? = some ⟨some d,.indexAddr T x y,ty,pos,af,g⟩)(hw:Want ops ⟨some d,.indexAddr T x y,ty,pos,af,g⟩ e)(hx:ev e x=some (.slice A l.length c))(hy:ev e y=some (.int .i64 i))(hT:SliceT P T E)(hs:SizeT P E sz)(hsz:∀ x,(enc x).length=sz)(hr:Rd w B E2 enc A l)(hk:l[k]? = some u)(hi:i=(k:Int))
  (h:∀ p,At w p (enc u)->WS P ops none tl Q fuel (j::done) n ((d,.pointer (some p))::e) w) (hm:mayFirst ops done j=true:=by kernel_rfl) (ht:tailWaits ops tl j=true:=by kernel_rfl) (hn:Nat.blt d n=true:=by rfl) : WS P ops none tl Q (fuel+1) done n e w:=fun _ hf=>Xi2 j ho hm ht hf hw hn hx hy hT hs hsz hr hk hi fun a' p hp hf'=>h p hp a' hf'
theorem Yj{α:Type}{T E E2:TypeId}{sz B m k:Nat}{y:Operand}{enc:α->List Value}{A:Option Addr}{c:Nat}{l:List α}{i:Int}{u:α}(j:Nat)(ho:ops[j]? = some ⟨some d,.indexAddr T x y,ty,pos,af,g⟩)(hw:Want ops ⟨some d,.indexAddr T x y,ty,pos,af,g⟩ e)(hx:ev e x=some (.slice A m c))(hlm:m=l.length)(hy:ev e y=some (.int .i64 i))(hT:SliceT P T E)(hs:SizeT P E sz)(hsz:∀ x,(enc x).length=sz)(hr:Rd w B E2 enc A l)(hk:l[k]? = some u)(hi:i=(k:Int))
  (h:∀ p,At w p (enc u)->WS P ops none tl Q fuel (j::done) n ((d,.pointer (some p))::e) w) (hm:mayFirst ops done j=true:=by kernel_rfl) (ht:tailWaits ops tl j=true:=by kernel_rfl) (hn:Nat.blt d n=true:=by rfl) : WS P ops none tl Q (fuel+1) done n e w:=by
 subst hlm
 exact Yi j ho hw hx hy hT hs hsz hr hk hi h hm ht hn
end
end Go.Proofs.YtipiejccbmifnaaGreatDoor
namespace Go.Proofs.YtipiejccbmifnaaGreatDoor
theorem X0j{P:Program}{t n:Nat}(h:(P.info? t).map (fun i=>i.size)=some n) : ∃ i,P.info? t=some i/\i.size=n:=by simp_all
theorem X22{P:Program}{t:Nat}{z:Option Value}(h:(P.info? t).map (fun i=>i.zero)=some z) : ∃ i,P.info? t=some i/\i.zero=z:=by simp_all
theorem X2j{P:Program}{t sz bytes:Nat}{z:Value}(h:(P.info? t).map (fun i=>(i.size,i.bytes,i.zero))=some (sz,bytes,some z))(hz:z.cells.size=sz)(h0:0<sz) : InfoT P t sz bytes:=by
 cases hi:P.info? t with
 | none=>rw [hi] at h;cases h
 | some i=>
  rw [hi] at h
  simp only [Option.map_some,Option.some.injEq,Prod.mk.injEq] at h
  exact ⟨i,z,hi,h.2.2,h.1,h.2.1,hz,h0⟩
theorem X0n{P:Program}{T f k:Nat}{fs:Array Field}{F:Field}(h:P.underlying T=some (.struct fs))(h1:fs[f]? = some F)(h2:F.offset=k){n:Nat}(h3:(P.info? F.type).map (fun i=>i.size)=some n)(h4:(n==0)=false) : FieldT P T f k:=by
 obtain ⟨i,hi,rfl⟩:=X0j h3;exact ⟨fs,F,i,h,h1,h2,hi,h4⟩
theorem X7 {P : Program} {f : FuncId} {fn : Func} (h : P.funcs[f]? = some fn) (h1 : (fn.name == "runtime.NumGoroutine") = false) (h2 : fn.body.isNone = false) : FuncF P f := ⟨fn, h, h1, h2⟩
theorem Xa:OneT Tryz.prog 3:=⟨_,Tryz.underlying3,trivial⟩
theorem X82:OneT Tryz.prog 4:=⟨_,Tryz.underlying4,trivial⟩
theorem Xut:OneT Tryz.prog 5:=⟨_,Tryz.underlying5,trivial⟩
theorem Xg0:OneT Tryz.prog 9:=⟨_,Tryz.underlying9,trivial⟩
theorem Xl3:OneT Tryz.prog 24:=⟨_,Tryz.underlying24,trivial⟩
theorem X3p:OneT Tryz.prog 68:=⟨_,Tryz.underlying68,trivial⟩
theorem X3a:OneT Tryz.prog 72:=⟨_,Tryz.underlying72,trivial⟩
theorem X8d:OneT Tryz.prog 62:=⟨_,Tryz.underlying62,trivial⟩
theorem X68:OneT Tryz.prog 22:=⟨_,Tryz.underlying22,trivial⟩
theorem Xv:OneT Tryz.prog 28:=⟨_,Tryz.underlying28,trivial⟩
theorem X0b:OneT Tryz.prog 29:=⟨_,Tryz.underlying29,trivial⟩
theorem Xma:AggT Tryz.prog 26 2:=⟨⟨_,Tryz.underlying26,trivial⟩,X0j (by kernel_rfl)⟩
theorem X38:AggT Tryz.prog 78 3:=⟨⟨_,Tryz.underlying78,trivial⟩,X0j (by kernel_rfl)⟩
theorem X2:AggT Tryz.prog 31 5:=⟨⟨_,Tryz.underlying31,trivial⟩,X0j (by kernel_rfl)⟩
theorem X10:AggT Tryz.prog 57 3:=⟨⟨_,Tryz.underlying57,trivial⟩,X0j (by kernel_rfl)⟩
theorem X25:AggT Tryz.prog 76 2:=⟨⟨_,Tryz.underlying76,trivial⟩,X0j (by kernel_rfl)⟩
theorem X15:AggT Tryz.prog 84 3:=⟨⟨_,Tryz.underlying84,trivial⟩,X0j (by kernel_rfl)⟩
theorem X0a:SizeT Tryz.prog 3 1:=X0j (by kernel_rfl)
theorem X5v:SizeT Tryz.prog 4 1:=X0j (by kernel_rfl)
theorem Xus:SizeT Tryz.prog 5 1:=X0j (by kernel_rfl)
theorem Xe9:SizeT Tryz.prog 9 1:=X0j (by kernel_rfl)
theorem Xrm:SizeT Tryz.prog 24 1:=X0j (by kernel_rfl)
theorem Xfx:SizeT Tryz.prog 68 1:=X0j (by kernel_rfl)
theorem Xlr:SizeT Tryz.prog 26 2:=X0j (by kernel_rfl)
theorem X4s:SizeT Tryz.prog 78 3:=X0j (by kernel_rfl)
theorem Xgv:SizeT Tryz.prog 62 1:=X0j (by kernel_rfl)
theorem X3d:SizeT Tryz.prog 28 1:=X0j (by kernel_rfl)
theorem X19:SizeT Tryz.prog 29 1:=X0j (by kernel_rfl)
theorem Xd:SizeT Tryz.prog 31 5:=X0j (by kernel_rfl)
theorem X0v:SizeT Tryz.prog 57 3:=X0j (by kernel_rfl)
theorem X05:SizeT Tryz.prog 76 2:=X0j (by kernel_rfl)
theorem X09:SizeT Tryz.prog 84 3:=X0j (by kernel_rfl)
theorem z_3:ZeroT Tryz.prog 3 (.int .i64 0):=X22 (by kernel_rfl)
theorem Xrl:ZeroT Tryz.prog 26 (.agg #[.int .i64 0,.slice none 0 0]):=X22 (by kernel_rfl)
theorem Xem:ZeroT Tryz.prog 78 (.agg #[.int .i64 0,.int .i64 0,.int .i64 0]):=X22 (by kernel_rfl)
theorem X0e:ZeroT Tryz.prog 31 (.agg #[.int .i64 0,.slice none 0 0,.slice none 0 0,.int .i64 0,.int .i64 0]):=X22 (by kernel_rfl)
theorem X2m:ZeroT Tryz.prog 57 (.agg #[.int .i64 0,.int .i64 0,.int .i64 0]):=X22 (by kernel_rfl)
theorem X6s:ZeroT Tryz.prog 76 (.agg #[.int .i64 0,.int .i64 0]):=X22 (by kernel_rfl)
theorem X2k:ZeroT Tryz.prog 84 (.agg #[.int .i64 0,.int .i64 0,.bool false]):=X22 (by kernel_rfl)
theorem X65:FieldT Tryz.prog 26 0 0:=X0n (n:=1) Tryz.underlying26 rfl rfl (by kernel_rfl) rfl
theorem X8k:FieldT Tryz.prog 26 1 1:=X0n (n:=1) Tryz.underlying26 rfl rfl (by kernel_rfl) rfl
theorem X5e:FieldT Tryz.prog 78 0 0:=X0n (n:=1) Tryz.underlying78 rfl rfl (by kernel_rfl) rfl
theorem X18:FieldT Tryz.prog 78 1 1:=X0n (n:=1) Tryz.underlying78 rfl rfl (by kernel_rfl) rfl
theorem X23:FieldT Tryz.prog 78 2 2:=X0n (n:=1) Tryz.underlying78 rfl rfl (by kernel_rfl) rfl
theorem X4a:FieldT Tryz.prog 64 0 0:=X0n (n:=1) Tryz.underlying64 rfl rfl (by kernel_rfl) rfl
theorem X21:FieldT Tryz.prog 64 1 1:=X0n (n:=1) Tryz.underlying64 rfl rfl (by kernel_rfl) rfl
theorem X2t:FieldT Tryz.prog 64 2 2:=X0n (n:=1) Tryz.underlying64 rfl rfl (by kernel_rfl) rfl
theorem X1q:FieldT Tryz.prog 31 0 0:=X0n (n:=1) Tryz.underlying31 rfl rfl (by kernel_rfl) rfl
theorem Xc:FieldT Tryz.prog 31 1 1:=X0n (n:=1) Tryz.underlying31 rfl rfl (by kernel_rfl) rfl
theorem Xi:FieldT Tryz.prog 31 2 2:=X0n (n:=1) Tryz.underlying31 rfl rfl (by kernel_rfl) rfl
theorem X0l:FieldT Tryz.prog 31 3 3:=X0n (n:=1) Tryz.underlying31 rfl rfl (by kernel_rfl) rfl
theorem Xy:FieldT Tryz.prog 31 4 4:=X0n (n:=1) Tryz.underlying31 rfl rfl (by kernel_rfl) rfl
theorem X1p:FieldT Tryz.prog 57 0 0:=X0n (n:=1) Tryz.underlying57 rfl rfl (by kernel_rfl) rfl
theorem X14:FieldT Tryz.prog 57 1 1:=X0n (n:=1) Tryz.underlying57 rfl rfl (by kernel_rfl) rfl
theorem X1r:FieldT Tryz.prog 57 2 2:=X0n (n:=1) Tryz.underlying57 rfl rfl (by kernel_rfl) rfl
theorem X13:FieldT Tryz.prog 76 0 0:=X0n (n:=1) Tryz.underlying76 rfl rfl (by kernel_rfl) rfl
theorem X04:FieldT Tryz.prog 76 1 1:=X0n (n:=1) Tryz.underlying76 rfl rfl (by kernel_rfl) rfl
theorem X0m:FieldT Tryz.prog 84 0 0:=X0n (n:=1) Tryz.underlying84 rfl rfl (by kernel_rfl) rfl
theorem X0o:FieldT Tryz.prog 84 1 1:=X0n (n:=1) Tryz.underlying84 rfl rfl (by kernel_rfl) rfl
theorem X5m:FieldT Tryz.prog 84 2 2:=X0n (n:=1) Tryz.underlying84 rfl rfl (by kernel_rfl) rfl
theorem X0g:FieldT Tryz.prog 139 0 0:=X0n (n:=5) Tryz.underlying139 rfl rfl (by kernel_rfl) rfl
theorem X1i:FieldT Tryz.prog 139 1 5:=X0n (n:=1) Tryz.underlying139 rfl rfl (by kernel_rfl) rfl
theorem X1x:FieldT Tryz.prog 139 2 6:=X0n (n:=1) Tryz.underlying139 rfl rfl (by kernel_rfl) rfl
theorem Xd7:SliceT Tryz.prog 24 78:=Tryz.underlying24
theorem Xk:SliceT Tryz.prog 68 3:=Tryz.underlying68
theorem X6w:SliceT Tryz.prog 267 68:=Tryz.underlying267
theorem X33:SliceT Tryz.prog 72 4:=Tryz.underlying72
theorem X3m:SliceT Tryz.prog 22 5:=Tryz.underlying22
theorem X1w:SliceT Tryz.prog 100 9:=Tryz.underlying100
theorem Xm:SliceT Tryz.prog 28 76:=Tryz.underlying28
theorem Xq:SliceT Tryz.prog 29 84:=Tryz.underlying29
theorem X08:SliceT Tryz.prog 49 57:=Tryz.underlying49
theorem X1f:InfoT Tryz.prog 3 1 8:=X2j (z:=.int .i64 0) (by kernel_rfl) rfl (by decide)
theorem Xtu:InfoT Tryz.prog 4 1 1:=X2j (z:=.bool false) (by kernel_rfl) rfl (by decide)
theorem Xa0:InfoT Tryz.prog 9 1 16:=X2j (z:=.string ByteArray.empty) (by kernel_rfl) rfl (by decide)
theorem Xon:InfoT Tryz.prog 68 1 24:=X2j (z:=.slice none 0 0) (by kernel_rfl) rfl (by decide)
theorem Xc5:InfoT Tryz.prog 78 3 24:=X2j (z:=.agg #[.int .i64 0,.int .i64 0,.int .i64 0]) (by kernel_rfl) rfl (by decide)
theorem X1g:InfoT Tryz.prog 57 3 24:=X2j (z:=.agg #[.int .i64 0,.int .i64 0,.int .i64 0]) (by kernel_rfl) rfl (by decide)
theorem X1j:InfoT Tryz.prog 76 2 16:=X2j (z:=.agg #[.int .i64 0,.int .i64 0]) (by kernel_rfl) rfl (by decide)
theorem X0x:InfoT Tryz.prog 84 3 24:=X2j (z:=.agg #[.int .i64 0,.int .i64 0,.bool false]) (by kernel_rfl) rfl (by decide)
theorem X9p:FuncF Tryz.prog 47:=X7 Tryz.func47 (by decide +kernel) rfl
theorem X5a:FuncF Tryz.prog 82:=X7 Tryz.func82 (by decide +kernel) rfl
theorem X3w:FuncF Tryz.prog 66:=X7 Tryz.func66 (by decide +kernel) rfl
theorem Xrt:FuncF Tryz.prog 219:=X7 Tryz.func219 (by decide +kernel) rfl
theorem Xll:FuncF Tryz.prog 174:=X7 Tryz.func174 (by decide +kernel) rfl
theorem Xt6:FuncF Tryz.prog 220:=X7 Tryz.func220 (by decide +kernel) rfl
theorem Xb9:FuncF Tryz.prog 256:=X7 Tryz.func256 (by decide +kernel) rfl
theorem Xhj:FuncF Tryz.prog 164:=X7 Tryz.func164 (by decide +kernel) rfl
theorem Xn5:FuncF Tryz.prog 266:=X7 Tryz.func266 (by decide +kernel) rfl
theorem X6y:FuncF Tryz.prog 160:=X7 Tryz.func160 (by decide +kernel) rfl
theorem Xo2:FuncF Tryz.prog 261:=X7 Tryz.func261 (by decide +kernel) rfl
theorem X8r:FuncF Tryz.prog 221:=X7 Tryz.func221 (by decide +kernel) rfl
theorem Xnu:FuncF Tryz.prog 255:=X7 Tryz.func255 (by decide +kernel) rfl
theorem Xo3:FuncF Tryz.prog 264:=X7 Tryz.func264 (by decide +kernel) rfl
theorem Xfd:FuncF Tryz.prog 289:=X7 Tryz.func289 (by decide +kernel) rfl
theorem Xpt:FuncF Tryz.prog 267:=X7 Tryz.func267 (by decide +kernel) rfl
theorem Xey:FuncF Tryz.prog 183:=X7 Tryz.func183 (by decide +kernel) rfl
theorem Xkv:FuncF Tryz.prog 5:=X7 Tryz.func5 (by decide +kernel) rfl
theorem X0d:FuncF Tryz.prog 30:=X7 Tryz.func30 (by decide +kernel) rfl
theorem X6g:FuncF Tryz.prog 27:=X7 Tryz.func27 (by decide +kernel) rfl
theorem Xi3:FuncF Tryz.prog 72:=X7 Tryz.func72 (by decide +kernel) rfl
theorem X4e:FuncF Tryz.prog 71:=X7 Tryz.func71 (by decide +kernel) rfl
theorem Xck:FuncF Tryz.prog 73:=X7 Tryz.func73 (by decide +kernel) rfl
theorem X8b:FuncF Tryz.prog 163:=X7 Tryz.func163 (by decide +kernel) rfl
theorem Xif:FuncF Tryz.prog 29:=X7 Tryz.func29 (by decide +kernel) rfl
theorem Xki:FuncF Tryz.prog 49:=X7 Tryz.func49 (by decide +kernel) rfl
theorem X97:FuncF Tryz.prog 46:=X7 Tryz.func46 (by decide +kernel) rfl
theorem X63:FuncF Tryz.prog 135:=X7 Tryz.func135 (by decide +kernel) rfl
theorem Xbs:FuncF Tryz.prog 50:=X7 Tryz.func50 (by decide +kernel) rfl
theorem Xdj:FuncF Tryz.prog 51:=X7 Tryz.func51 (by decide +kernel) rfl
theorem Xic:FuncF Tryz.prog 109:=X7 Tryz.func109 (by decide +kernel) rfl
theorem Xd5:FuncF Tryz.prog 9:=X7 Tryz.func9 (by decide +kernel) rfl
theorem X86:FuncF Tryz.prog 38:=X7 Tryz.func38 (by decide +kernel) rfl
theorem X4x:FuncF Tryz.prog 21:=X7 Tryz.func21 (by decide +kernel) rfl
theorem Xcq:FuncF Tryz.prog 37:=X7 Tryz.func37 (by decide +kernel) rfl
theorem Xjf:FuncF Tryz.prog 56:=X7 Tryz.func56 (by decide +kernel) rfl
theorem Xj1:FuncF Tryz.prog 118:=X7 Tryz.func118 (by decide +kernel) rfl
theorem Xkh:FuncF Tryz.prog 62:=X7 Tryz.func62 (by decide +kernel) rfl
theorem Xc0:FuncF Tryz.prog 63:=X7 Tryz.func63 (by decide +kernel) rfl
theorem X8v:FuncF Tryz.prog 119:=X7 Tryz.func119 (by decide +kernel) rfl
theorem X2f:FuncF Tryz.prog 172:=X7 Tryz.func172 (by decide +kernel) rfl
theorem X8c:FuncF Tryz.prog 55:=X7 Tryz.func55 (by decide +kernel) rfl
theorem Xd6:FuncF Tryz.prog 217:=X7 Tryz.func217 (by decide +kernel) rfl
theorem Xk6:FuncF Tryz.prog 34:=X7 Tryz.func34 (by decide +kernel) rfl
theorem X2h:FuncF Tryz.prog 248:=X7 Tryz.func248 (by decide +kernel) rfl
theorem X3i:FuncF Tryz.prog 249:=X7 Tryz.func249 (by decide +kernel) rfl
theorem Xi0:FuncF Tryz.prog 167:=X7 Tryz.func167 (by decide +kernel) rfl
theorem Xdp:FuncF Tryz.prog 259:=X7 Tryz.func259 (by decide +kernel) rfl
theorem X45:FuncF Tryz.prog 65:=X7 Tryz.func65 (by decide +kernel) rfl
theorem Xkj:FuncF Tryz.prog 36:=X7 Tryz.func36 (by decide +kernel) rfl
theorem Xk2:FuncF Tryz.prog 89:=X7 Tryz.func89 (by decide +kernel) rfl
theorem Xk7:FuncF Tryz.prog 90:=X7 Tryz.func90 (by decide +kernel) rfl
theorem Xie:FuncF Tryz.prog 91:=X7 Tryz.func91 (by decide +kernel) rfl
theorem Xiy:FuncF Tryz.prog 92:=X7 Tryz.func92 (by decide +kernel) rfl
theorem Xin:FuncF Tryz.prog 93:=X7 Tryz.func93 (by decide +kernel) rfl
theorem X37:FuncF Tryz.prog 94:=X7 Tryz.func94 (by decide +kernel) rfl
theorem Xii:FuncF Tryz.prog 67:=X7 Tryz.func67 (by decide +kernel) rfl
theorem Xce:FuncF Tryz.prog 86:=X7 Tryz.func86 (by decide +kernel) rfl
theorem Xi6:FuncF Tryz.prog 87:=X7 Tryz.func87 (by decide +kernel) rfl
theorem Xjt:FuncF Tryz.prog 88:=X7 Tryz.func88 (by decide +kernel) rfl
theorem X2r:FuncF Tryz.prog 212:=X7 Tryz.func212 (by decide +kernel) rfl
theorem Xc1:FuncF Tryz.prog 133:=X7 Tryz.func133 (by decide +kernel) rfl
theorem Xbx:FuncF Tryz.prog 60:=X7 Tryz.func60 (by decide +kernel) rfl
theorem Xkl:FuncF Tryz.prog 165:=X7 Tryz.func165 (by decide +kernel) rfl
theorem Xit:FuncF Tryz.prog 120:=X7 Tryz.func120 (by decide +kernel) rfl
theorem Xjz:FuncF Tryz.prog 166:=X7 Tryz.func166 (by decide +kernel) rfl
theorem X69:FuncF Tryz.prog 81:=X7 Tryz.func81 (by decide +kernel) rfl
theorem X85:FuncF Tryz.prog 126:=X7 Tryz.func126 (by decide +kernel) rfl
theorem X56:FuncF Tryz.prog 116:=X7 Tryz.func116 (by decide +kernel) rfl
theorem X66:FuncF Tryz.prog 181:=X7 Tryz.func181 (by decide +kernel) rfl
theorem X3f:FuncF Tryz.prog 117:=X7 Tryz.func117 (by decide +kernel) rfl
theorem Xik:FuncF Tryz.prog 84:=X7 Tryz.func84 (by decide +kernel) rfl
theorem Xc9:FuncF Tryz.prog 85:=X7 Tryz.func85 (by decide +kernel) rfl
theorem Xjp:FuncF Tryz.prog 132:=X7 Tryz.func132 (by decide +kernel) rfl
theorem Xc4:FuncF Tryz.prog 134:=X7 Tryz.func134 (by decide +kernel) rfl
theorem X43:FuncF Tryz.prog 121:=X7 Tryz.func121 (by decide +kernel) rfl
theorem X95:FuncF Tryz.prog 131:=X7 Tryz.func131 (by decide +kernel) rfl
theorem Xdo:FuncF Tryz.prog 175:=X7 Tryz.func175 (by decide +kernel) rfl
theorem Xcn:FuncF Tryz.prog 125:=X7 Tryz.func125 (by decide +kernel) rfl
theorem Xky:FuncF Tryz.prog 182:=X7 Tryz.func182 (by decide +kernel) rfl
theorem Xj0:FuncF Tryz.prog 168:=X7 Tryz.func168 (by decide +kernel) rfl
theorem Xko:FuncF Tryz.prog 169:=X7 Tryz.func169 (by decide +kernel) rfl
theorem Xjn:FuncF Tryz.prog 170:=X7 Tryz.func170 (by decide +kernel) rfl
theorem Xku:FuncF Tryz.prog 171:=X7 Tryz.func171 (by decide +kernel) rfl
theorem X40:FuncF Tryz.prog 173:=X7 Tryz.func173 (by decide +kernel) rfl
theorem Xk5:FuncF Tryz.prog 207:=X7 Tryz.func207 (by decide +kernel) rfl
theorem Xj4:FuncF Tryz.prog 208:=X7 Tryz.func208 (by decide +kernel) rfl
theorem Xi1:FuncF Tryz.prog 209:=X7 Tryz.func209 (by decide +kernel) rfl
theorem Xjq:FuncF Tryz.prog 210:=X7 Tryz.func210 (by decide +kernel) rfl
theorem Xjw:FuncF Tryz.prog 211:=X7 Tryz.func211 (by decide +kernel) rfl
theorem Xjg:FuncF Tryz.prog 127:=X7 Tryz.func127 (by decide +kernel) rfl
theorem Xjy:FuncF Tryz.prog 177:=X7 Tryz.func177 (by decide +kernel) rfl
theorem X3g:FuncF Tryz.prog 128:=X7 Tryz.func128 (by decide +kernel) rfl
theorem X6e:FuncF Tryz.prog 129:=X7 Tryz.func129 (by decide +kernel) rfl
theorem Xbn:FuncF Tryz.prog 130:=X7 Tryz.func130 (by decide +kernel) rfl
theorem Xkg:FuncF Tryz.prog 176:=X7 Tryz.func176 (by decide +kernel) rfl
theorem X5i:FuncF Tryz.prog 213:=X7 Tryz.func213 (by decide +kernel) rfl
theorem Xbh:FuncF Tryz.prog 214:=X7 Tryz.func214 (by decide +kernel) rfl
theorem X8j:FuncF Tryz.prog 215:=X7 Tryz.func215 (by decide +kernel) rfl
theorem Xda:FuncF Tryz.prog 216:=X7 Tryz.func216 (by decide +kernel) rfl
theorem Xcc:FuncF Tryz.prog 218:=X7 Tryz.func218 (by decide +kernel) rfl
theorem Xjc:FuncF Tryz.prog 222:=X7 Tryz.func222 (by decide +kernel) rfl
theorem Xkc:FuncF Tryz.prog 223:=X7 Tryz.func223 (by decide +kernel) rfl
theorem X4d:FuncF Tryz.prog 250:=X7 Tryz.func250 (by decide +kernel) rfl
theorem X4c:FuncF Tryz.prog 251:=X7 Tryz.func251 (by decide +kernel) rfl
theorem X47:FuncF Tryz.prog 252:=X7 Tryz.func252 (by decide +kernel) rfl
theorem Xdb:FuncF Tryz.prog 253:=X7 Tryz.func253 (by decide +kernel) rfl
theorem Xd1:FuncF Tryz.prog 254:=X7 Tryz.func254 (by decide +kernel) rfl
theorem X8y:FuncF Tryz.prog 257:=X7 Tryz.func257 (by decide +kernel) rfl
theorem Xbg:FuncF Tryz.prog 258:=X7 Tryz.func258 (by decide +kernel) rfl
theorem X83:FuncF Tryz.prog 180:=X7 Tryz.func180 (by decide +kernel) rfl
theorem Xi4:FuncF Tryz.prog 260:=X7 Tryz.func260 (by decide +kernel) rfl
theorem Xhv:FuncF Tryz.prog 262:=X7 Tryz.func262 (by decide +kernel) rfl
theorem Xkt:FuncF Tryz.prog 263:=X7 Tryz.func263 (by decide +kernel) rfl
theorem Xk9:FuncF Tryz.prog 265:=X7 Tryz.func265 (by decide +kernel) rfl
theorem Xhy:FuncF Tryz.prog 288:=X7 Tryz.func288 (by decide +kernel) rfl
theorem Xcr:FuncF Tryz.prog 20:=X7 Tryz.func20 (by decide +kernel) rfl
theorem Xkq:FuncF Tryz.prog 22:=X7 Tryz.func22 (by decide +kernel) rfl
theorem Xir:FuncF Tryz.prog 23:=X7 Tryz.func23 (by decide +kernel) rfl
theorem Xi9:FuncF Tryz.prog 24:=X7 Tryz.func24 (by decide +kernel) rfl
theorem Xcu:FuncF Tryz.prog 25:=X7 Tryz.func25 (by decide +kernel) rfl
theorem Xkk:FuncF Tryz.prog 26:=X7 Tryz.func26 (by decide +kernel) rfl
theorem Xib:FuncF Tryz.prog 61:=X7 Tryz.func61 (by decide +kernel) rfl
theorem Xiw:FuncF Tryz.prog 64:=X7 Tryz.func64 (by decide +kernel) rfl
theorem Xci:FuncF Tryz.prog 68:=X7 Tryz.func68 (by decide +kernel) rfl
theorem Xct:FuncF Tryz.prog 69:=X7 Tryz.func69 (by decide +kernel) rfl
theorem mixed:Tryz.prog.follows .mixedOrders=true:=by kernel_rfl
end Go.Proofs.YtipiejccbmifnaaGreatDoor
namespace Go.Proofs.YtipiejccbmifnaaGreatDoor
open Go.RowKit
section
variable {P : Program} {a : Act} {w : World} {n : Nat} {e : Env} {ty : TypeId} {pos : String} {af : Array Edge} {g : Option (Nat × Bool)} {d : Option Tmp}
variable {t t' : TypeId} {x y : Operand} {i j : Int}
theorem Xpu(hf:Fr a n e)(hx:ev e x=some (.int .i64 i))(hy:ev e y=some (.int .i64 j))(h0:(j==0)=false) : Ev P ⟨d,.binOp .rem t x y t',ty,pos,af,g⟩ a w (.int .i64 (i.tmod j)):=fun w' _=>by
 have h0':j≠0:=by rintro rfl;simp at h0
 simp [execOp,hf.ev hx,hf.ev hy,eqGuard,binOp,Op.intDiv,h0']
theorem X3q(hx:ev e x=some (.int .i64 i))(hy:ev e y=some (.int .i64 j))(h0:(j==0)=false) : EvW P ⟨d,.binOp .rem t x y t',ty,pos,af,g⟩ n e w (.int .i64 (i.tmod j)):=fun a hf=>Xpu hf hx hy h0
theorem Xpg(hf:Fr a n e)(hx:ev e x=some (.int .i64 i))(hy:ev e y=some (.int .i64 j))(h0:(j==0)=false) : Ev P ⟨d,.binOp .quo t x y t',ty,pos,af,g⟩ a w (.int .i64 (IntKind.i64.wrap (i.tdiv j))):=fun w' _=>by
 have h0':j≠0:=by rintro rfl;simp at h0
 simp [execOp,hf.ev hx,hf.ev hy,eqGuard,binOp,Op.intDiv,h0']
theorem Xo4(hx:ev e x=some (.int .i64 i))(hy:ev e y=some (.int .i64 j))(h0:(j==0)=false) : EvW P ⟨d,.binOp .quo t x y t',ty,pos,af,g⟩ n e w (.int .i64 (IntKind.i64.wrap (i.tdiv j))):=fun a hf=>Xpg hf hx hy h0
theorem Xis(hf:Fr a n e)(hx:ev e x=some (.int .i64 i))(hy:ev e y=some (.int .i64 j))(h1:-9223372036854775808<=i*j)(h2:i*j<=9223372036854775807) : Ev P ⟨d,.binOp .mul t x y t',ty,pos,af,g⟩ a w (.int .i64 (i*j)):=fun w' _=>by
 have h:IntKind.i64.wrap (i*j)=i*j:=IntWalk.i64_in _ ⟨h1,h2⟩
 simp [execOp,hf.ev hx,hf.ev hy,eqGuard,binOp,Op.intArith,h]
theorem X80(hx:ev e x=some (.int .i64 i))(hy:ev e y=some (.int .i64 j))(h1:-9223372036854775808<=i*j)(h2:i*j<=9223372036854775807) : EvW P ⟨d,.binOp .mul t x y t',ty,pos,af,g⟩ n e w (.int .i64 (i*j)):=fun a hf=>Xis hf hx hy h1 h2
theorem Xok{p:Addr}(hf:Fr a n e)(hx:ev e x=some (.pointer (some p))) : Ev P ⟨d,.nilCheck x,ty,pos,af,g⟩ a w (.pointer (some p)):=fun w' _=>by
 simp [execOp,hf.ev hx]
theorem X03{p:Addr}(hx:ev e x=some (.pointer (some p))) : EvW P ⟨d,.nilCheck x,ty,pos,af,g⟩ n e w (.pointer (some p)):=fun a hf=>Xok hf hx
end
theorem Rd.atV{α:Type}{w:World}{B b0:Nat}{E T0:TypeId}{enc:α->List Value}{A:Option Addr}{l:List α}{l0:List Value}{sz:Nat}(hsz:∀ x,(enc x).length=sz)(h:Rd w B E enc A l){k:Nat}{x:α}(hk:l[k]? = some x)
  (hb:Blk w b0 T0 l0) (hT:Nat.beq E T0=false) : ∃ p,A=some p/\At w (p.add (k*sz)) (enc x)/\(p.add (k*sz)).block≠b0:=by
 obtain ⟨p,h1,h2⟩:=h.at hsz hk
 refine ⟨p,h1,h2,?_⟩
 have hl:l≠[]:=by rintro rfl;simp at hk
 obtain ⟨b,off,cs,fz,h3,h4,h5,h6⟩:=h hl
 rw [h1] at h3
 injection h3 with h3
 subst h3
 rw [X4r]
 rintro rfl
 unfold Blk at hb
 rw [h5] at hb
 injection hb with hb
 injection hb with _ e
 subst e
 simp at hT
section
variable {P : Program} {a : Act} {w : World} {n : Nat} {e : Env} {α : Type} {ops : Array Oper} {ty : TypeId} {pos : String} {af : Array Edge} {g : Option (Nat × Bool)} {d : Nat}
theorem Xgi{b0:Nat}{l0:List Value}{Q:Act->World->Prop}{tl:Nat->Bool}{fuel:Nat}{done:List Nat}{T E T0:TypeId}{sz B:Nat}{x y:Operand}{enc:α->List Value}{A:Option Addr}{c:Nat}{l:List α}{k:Nat}{i:Int}{u:α}(j:Nat)
  (ho:ops[j]? = some ⟨some d,.indexAddr T x y,ty,pos,af,g⟩) (hm:mayFirst ops done j=true) (hf:Fr a n e) (hw:Want ops ⟨some d,.indexAddr T x y,ty,pos,af,g⟩ e) (hn:Nat.blt d n=true)
  (hb:Blk w b0 T0 l0) (hT0:Nat.beq E T0=false)
  (hx:ev e x=some (.slice A l.length c)) (hy:ev e y=some (.int .i64 i)) (hT:SliceT P T E) (hs:SizeT P E sz) (hsz:∀ x,(enc x).length=sz) (hr:Rd w B E enc A l) (hk:l[k]? = some u) (hi:i=(k:Int))
  (h:∀ a' p,At w p (enc u)->p.block≠b0->Fr a' n ((d,.pointer (some p))::e)->wpS P ops (some b0) tl Q fuel (mask ops (j::done)) a' w) : wpS P ops (some b0) tl Q (fuel+1) (mask ops done) a w:=by
 obtain ⟨p,rfl,hat,hne⟩:=hr.atV hsz hk hb hT0;exact Xgf j ho hm hf hw rfl hn (fun w=>X58 hf hx hy hT hs hi (Qg.1 hk).1) fun a' hf'=>h a' _ hat hne hf'
theorem Ya{b0:Nat}{l0:List Value}{Q:Act->World->Prop}{tl:Nat->Bool}{fuel:Nat}{done:List Nat}{T E T0:TypeId}{sz B:Nat}{x y:Operand}{enc:α->List Value}{A:Option Addr}{c:Nat}{l:List α}{k:Nat}{i:Int}{u:α}(j:Nat)
  (ho:ops[j]? = some ⟨some d,.indexAddr T x y,ty,pos,af,g⟩) (hw:Want ops ⟨some d,.indexAddr T x y,ty,pos,af,g⟩ e) (hb:Blk w b0 T0 l0) (hT0:Nat.beq E T0=false)
  (hx:ev e x=some (.slice A l.length c)) (hy:ev e y=some (.int .i64 i)) (hT:SliceT P T E) (hs:SizeT P E sz) (hsz:∀ x,(enc x).length=sz) (hr:Rd w B E enc A l) (hk:l[k]? = some u) (hi:i=(k:Int))
  (h:∀ p,At w p (enc u)->p.block≠b0->WS P ops (some b0) tl Q fuel (j::done) n ((d,.pointer (some p))::e) w) (hm:mayFirst ops done j=true:=by kernel_rfl) (hn:Nat.blt d n=true:=by rfl) : WS P ops (some b0) tl Q (fuel+1) done n e w:=
 fun _ hf=>Xgi j ho hm hf hw hn hb hT0 hx hy hT hs hsz hr hk hi fun a' p hp hne hf'=>h p hp hne a' hf'
end
theorem Own.lower{α:Type}{w:World}{B0 B1:Nat}{E:TypeId}{sz:Nat}{enc:α->List Value}{A:Option Addr}{c:Nat}{l:List α}(h:Own w B0 E sz enc A c l)(hB:B1<=B0) : Own w B1 E sz enc A c l:=by
 refine ⟨h.1,?_⟩
 rcases h.2 with h1|⟨g,cap,cur,h1,h2,h3⟩
 ·exact .inl h1
 ·exact .inr ⟨g,cap,cur,h1,Q0 hB h2,h3⟩
section
variable {α : Type} {P : Program} {a : Act} {w : World} {n : Nat} {e : Env} {ty : TypeId} {pos : String} {af : Array Edge} {g : Option (Nat × Bool)} {d : Option Tmp}
end
abbrev wr(i:Int) : Int:=IntKind.i64.wrap i
theorem X27{i:Int}(h1:-9223372036854775808<=i)(h2:i<=9223372036854775807) : wr i=i:=IntWalk.i64_in _ ⟨h1,h2⟩
structure Rg where (a b c d:Int) deriving DecidableEq
structure Dy where (num:Rg) (exp:Int) deriving DecidableEq
structure Gt where (k a b:Int) deriving DecidableEq
def encI(i:Int) : List Value:=[.int .i64 i]
def encG(x:Gt) : List Value:=[.int .i64 x.k,.int .i64 x.a,.int .i64 x.b]
theorem Xh:∀ x,(encI x).length=1:=fun _=>rfl
theorem Xa2:∀ x,(encG x).length=3:=fun _=>rfl
theorem X1z:∀ x,(encI x).all one=true:=fun _=>rfl
theorem Xf8:∀ x,(encG x).all one=true:=fun _=>rfl
abbrev gV(x:Gt) : Value:=.agg #[.int .i64 x.k,.int .i64 x.a,.int .i64 x.b]
def inR(n lo hi:Int) : Bool:=decide (lo<=n)&&decide (n<=hi)
section
variable {α : Type} {p : α -> Bool} {l : List α} {k : Nat} {u : α}
theorem X5b(h:(l.take k).all p=true)(hu:l[k]? = some u)(hp:p u=true) : (l.take (k+1)).all p=true:=by
 rw [Qt,hu]
 simp only [List.all_append,h,Option.toList_some,List.all_cons,hp,List.all_nil,Bool.and_self]
theorem X5u(h:(l.take k).all p=true)(hk:l.length<=k) : l.all p=true:=by rwa [Qi hk] at h
end
theorem X6m{α:Type}{p:α->Bool}{l:List α}{k:Nat}{u:α}(hu:l[k]? = some u)(hp:p u=true) : l.any p=true:=by grind
theorem X5q{α:Type}{p:α->Bool}{l:List α}(h:l.all (fun x=>!p x)=true) : l.any p=false:=by grind
theorem X0t{n lo hi:Int} : inR n lo hi=true↔lo<=n/\n<=hi:=by simp [inR]
theorem X5r{P:Program}{t:TypeId}{fs:Array Field}(h:P.underlying t=some (.struct fs)) : P.fieldsOf t=fs:=by simp [Program.fieldsOf,h]
theorem X49{P:Program}{w:World}{t k:Nat}{xs:Array Value}{v:Value}(h1:OneT P t)(h:xs[k]? = some v) : (part t xs k).run P w=.ok v w:=by
 simp [part,X32 h1,h]
theorem X1n {P : Program} {w : World} {d : Nat} {xs ys : Array Value} {f : Field} {fs : List Field} {k : IntKind} {i j : Int} (hn : f.name ≠ "_") (hT : OneT P f.type) (hu : P.underlying f.type = some (.int k)) (hx : xs[f.offset]? = some (.int .i64 i)) (hy : ys[f.offset]? = some (.int .i64 j))
  {r:Bool} (h:i=j->(Op.eqFields (d+1) xs ys fs).run P w=.ok r w) : (Op.eqFields (d+1) xs ys (f::fs)).run P w=.ok (decide (i=j)&&r) w:=by
 simp only [Op.eqFields,hn,ne_eq,not_false_eq_true,if_true,Sem.run_bind,X49 hT hx,X49 hT hy,Result.andThen_ok,run_equalIn_int _ _ _ _ _ _ _ hu]
 by_cases hij:i=j
 ·subst hij
  simp [h rfl]
 ·simp [hij]
section
variable {P : Program} {a : Act} {w : World} {n : Nat} {e : Env} {ty : TypeId} {pos : String} {af : Array Edge} {g : Option (Nat × Bool)} {d : Option Tmp} {t t' : TypeId} {x y : Operand} {X Y : Array Value} {b : Bool}
theorem Xju(hf:Fr a n e)(hx:ev e x=some (.agg X))(hy:ev e y=some (.agg Y))(hm:P.eqGuardType P.depth t=false)(he:∀ w,(Op.equalIn 10000 t (.agg X) (.agg Y)).run P w=.ok b w) : Ev P ⟨d,.binOp .eql t x y t',ty,pos,af,g⟩ a w (.bool b):=fun w' _=>by
 have h1:=run_eqGuard_agg (P:=P) w' .eql t x y X Y hm;have h2:=run_eql_struct (P:=P) w' t X Y
 rw [he] at h2
 simp [execOp,hf.ev hx,hf.ev hy,h1,h2]
theorem Xls(hx:ev e x=some (.agg X))(hy:ev e y=some (.agg Y))(hm:P.eqGuardType P.depth t=false)(he:∀ w,(Op.equalIn 10000 t (.agg X) (.agg Y)).run P w=.ok b w) : EvW P ⟨d,.binOp .eql t x y t',ty,pos,af,g⟩ n e w (.bool b):=fun a hf=>Xju hf hx hy hm he
theorem Xip(hf:Fr a n e)(hx:ev e x=some (.agg X))(hy:ev e y=some (.agg Y))(hm:P.eqGuardType P.depth t=false)(he:∀ w,(Op.equalIn 10000 t (.agg X) (.agg Y)).run P w=.ok b w) : Ev P ⟨d,.binOp .neq t x y t',ty,pos,af,g⟩ a w (.bool (!b)):=fun w' _=>by
 have h1:=run_eqGuard_agg (P:=P) w' .neq t x y X Y hm;have h2:=run_neq_struct (P:=P) w' t X Y
 rw [he] at h2
 simp [execOp,hf.ev hx,hf.ev hy,h1,h2]
theorem Xfg(hx:ev e x=some (.agg X))(hy:ev e y=some (.agg Y))(hm:P.eqGuardType P.depth t=false)(he:∀ w,(Op.equalIn 10000 t (.agg X) (.agg Y)).run P w=.ok b w) : EvW P ⟨d,.binOp .neq t x y t',ty,pos,af,g⟩ n e w (.bool (!b)):=fun a hf=>Xip hf hx hy hm he
end
def turnOf(k:Int) : Int:=if k=4 then 4 else if k=5 then 2 else if k=6 then 6 else if k=7 then 1 else 7
theorem Own.of_blkL{α:Type}{w:World}{B0 b k:Nat}{E:TypeId}{sz:Nat}{enc:α->List Value}{cs:List Value}{l:List α}(hsz:∀ x,(enc x).length=sz)(h:Blk w b E cs)(hb:B0<=b)(hc:l.flatMap enc=cs)(hl:l.length=k)(hk:k<=maxLen) : Own w B0 E sz enc (some ⟨b,0,none⟩) k l:=by
 subst hc;subst hl
 have h1:=Xo hsz l
 refine ⟨h1,.inr ⟨b,l.length,_,rfl,hb,h,Qb _,hk,?_,?_⟩⟩
 ·simpa using h1
 ·rw [<- h1];exact List.take_length
structure Cx where (n:Int) (gs:List Gt)
def gOk(n:Int)(x:Gt) : Bool:=
 inR n 1 5&&inR x.k 1 12&&(if x.k=12 then x.a==0&&x.b==0 else if inR x.k 9 11=true then inR x.a 0 (n-1)&&inR x.b 0 (n-1)&&x.a != x.b else inR x.a 0 (n-1)&&x.b==0)
def cOk(c:Cx) : Bool:=inR c.n 1 5&&decide ((c.gs.length:Int)<=400)&&!(c.gs.any fun x=>!gOk c.n x)
theorem Xa8{n:Int}{g:Gt}(h:gOk n g=true) : (1<=n/\n<=5)/\(1<=g.k/\g.k<=12)/\(g.k≠12->0<=g.a/\g.a<n)/\(9<=g.k/\g.k<=11->0<=g.b/\g.b<n/\g.a≠g.b):=by
 simp only [gOk,Qd,X0t] at h
 obtain ⟨⟨h1,h2⟩,h3⟩:=h
 refine ⟨h1,h2,fun hk=>?_,fun hk=>?_⟩
 ·rw [Q3 hk] at h3
  split at h3<;>simp only [Qd,X0t] at h3<;>omega
 ·rw [Q3 (by omega),Q4 hk] at h3
  simp only [Qd,X0t,bne_iff_ne] at h3
  exact ⟨h3.1.2.1,by omega,h3.2⟩
section
end
theorem F91(w0:World)(n:Int)(lo:Int)(hi:Int) : Ret Tryz.prog 66 [vi n,vi lo,vi hi] w0 (fun v w=>v=.bool (inR n lo hi)/\w0=w):=by
 refine enter Tryz.func66 rfl 15 rfl rfl ?_;intro a c
 have hW:=bz w0
 refine Zs c fun _ a6=>?_;refine Za rfl<|ZX a6 fun a c _ a7=>?_;refine X06 (fun a w=>Fr a 15 [(6,.bool ((decide (lo<=n))&&(decide (n<=hi))))]/\w0=w) ?_ ?_
 ·refine Zr c<|Zm rfl<|Zm rfl<|Ze (Xax rfl rfl)<|Zm rfl ?_
  refine Zg 10 rfl (fun b=>?_) (fun b=>?_)
  ·refine Zv (gW b) (X3 rfl) ?_;refine Zv (gW b) (X3 rfl) ?_;refine Zv (gW b) (Xax rfl rfl) ?_;refine Ze (X5 rfl b rfl)<|Za rfl ?_;refine Zn fun a c=>?_;exact ⟨c.sub ⟨X1 rfl (by first|rfl|(simp only [b,bs];done)|simp [b]),trivial⟩,rfl⟩
  (iterate 3 refine Zp (gP b) ?_);refine Ze (X9 rfl b rfl)<|Za rfl ?_;refine Zn fun a c=>?_;exact ⟨c.sub ⟨X1 rfl (by first|rfl|(simp only [b,bs];done)|simp [b]),trivial⟩,rfl⟩
 rintro a _ ⟨c,rfl⟩;refine a7 _ _ ?_
 refine Q6 (X6 c (Xs c rfl rfl) ?_)
 exact ⟨by simp [inR, *],rfl⟩
theorem F85(w0:World)(n:Int)(lo:Int)(hi:Int) : Ret Tryz.prog 82 [vi n,vi lo,vi hi] w0 (fun v w=>v=.bool (inR n lo hi)/\w0=w):=by
 refine enter Tryz.func82 rfl 15 rfl rfl ?_;intro a c
 have hW:=bz w0
 refine Zs c fun _ a6=>?_;refine Za rfl<|ZX a6 fun a c _ a7=>?_;refine X06 (fun a w=>Fr a 15 [(6,.bool ((decide (lo<=n))&&(decide (n<=hi))))]/\w0=w) ?_ ?_
 ·refine Zr c<|Zm rfl<|Zm rfl<|Ze (X4q rfl rfl)<|Zm rfl ?_
  refine Zg 10 rfl (fun b=>?_) (fun b=>?_)
  ·refine Zv (gW b) (X3 rfl) ?_;refine Zv (gW b) (X3 rfl) ?_;refine Zv (gW b) (Xax rfl rfl) ?_;refine Ze (X5 rfl b rfl)<|Za rfl ?_;refine Zn fun a c=>?_;exact ⟨c.sub ⟨X1 rfl (by first|rfl|(simp only [b,bs];done)|simp [b]),trivial⟩,rfl⟩
  (iterate 3 refine Zp (gP b) ?_);refine Ze (X9 rfl b rfl)<|Za rfl ?_;refine Zn fun a c=>?_;exact ⟨c.sub ⟨X1 rfl (by first|rfl|(simp only [b,bs];done)|simp [b]),trivial⟩,rfl⟩
 rintro a _ ⟨c,rfl⟩;refine a7 _ _ ?_
 refine Q6 (X6 c (Xs c rfl rfl) ?_)
 exact ⟨by simp [inR, *],rfl⟩
theorem Xs2(w0:World)(x:Int)(y:Int) : Ret Tryz.prog 164 [vi x,vi y] w0 (fun v w=>v=vi (max x y)/\w0=w):=by
 refine enter Tryz.func164 rfl 10 rfl rfl ?_;intro a c
 have hW:=bz w0
 refine Zs c fun _ a7=>?_;refine Za rfl<|ZX a7 fun a c _ a8=>?_;refine Zs c fun _ aA=>?_;refine Zm rfl<|Zm rfl<|Ze (X2o rfl rfl)<|Zt aA fun a c=>?_
 refine Xf c rfl (fun b=>?_) (fun b=>?_)
 ·have a6:=b;have b:=Q2 b;refine Zs c fun _ aB=>?_;refine Zm rfl<|Za rfl<|Zt aB fun a c=>?_;refine Q6<|X8<|X6 c (Xs c rfl rfl) ?_;exact ⟨by congr 1;omega,rfl⟩
 have a6:=b;have b:=Q1 b;refine Q7<|a8 _ _<|Zs c fun _ aC=>?_;refine Zm rfl<|Za rfl<|Zt aC fun a c=>?_
 refine Q6 (X6 c (Xs c rfl rfl) ?_)
 exact ⟨by congr 1;omega,rfl⟩
theorem F59(w0:World)(b:Bool) : Ret Tryz.prog 47 [.bool b] w0 (fun v w=>v=vi (if b=true then 1 else 0)/\w0=w):=by
 refine enter Tryz.func47 rfl 4 rfl rfl ?_;intro a c
 have hW:=bz w0
 refine Zs c fun _ a8=>?_;refine Za rfl<|ZX a8 fun a c _ aA=>?_;refine Zs c fun _ aB=>?_;refine Zm rfl<|Zt aB fun a c=>?_
 refine Xf c rfl (fun a6=>?_) (fun a6=>?_)
 ·have a7:=a6;refine Zs c fun _ aC=>?_;refine Za rfl<|Zt aC fun a c=>?_;refine Q6<|X8<|X6 c (Xs c rfl rfl) ?_;exact ⟨by simp [*],rfl⟩
 have a7:=a6;refine Q7<|aA _ _<|Zs c fun _ aD=>?_;refine Za rfl<|Zt aD fun a c=>?_
 refine Q6 (X6 c (Xs c rfl rfl) ?_)
 exact ⟨by simp [*],rfl⟩
section
end
end Go.Proofs.YtipiejccbmifnaaGreatDoor
namespace Go.Proofs
open Go.Shelf
def Tryz.lays189_ren:Go.Shelf.Ren:=⟨fun|189=>174|125=>179|257=>224|128=>233|129=>234|294=>268|295=>269|296=>270|297=>271|298=>272|299=>273|216=>274|300=>275|301=>276|328=>290|329=>278|330=>279|331=>291|332=>292|215=>183|343=>294|n=>n,fun|28=>68|3=>3|46=>99|0=>0|51=>248|53=>62|4=>4|183=>242|182=>241|131=>108|5=>5|9=>9|218=>273|222=>277|228=>293|229=>294|n=>n,fun|n=>n⟩
theorem Tryz.lays189:Go.Proofs.Lays.n189 Tryz.prog Tryz.lays189_ren:={
  mixed:=by kernel_rfl
  f125:=Tryz.func179.trans (congrArg some (by kernel_rfl))
  f128:=Tryz.func233.trans (congrArg some (by kernel_rfl))
  f129:=Tryz.func234.trans (congrArg some (by kernel_rfl))
  f189:=Tryz.func174.trans (congrArg some (by kernel_rfl))
  f215:=Tryz.func183.trans (congrArg some (by kernel_rfl))
  f216:=Tryz.func274.trans (congrArg some (by kernel_rfl))
  f257:=Tryz.func224.trans (congrArg some (by kernel_rfl))
  f294:=Tryz.func268.trans (congrArg some (by kernel_rfl))
  f295:=Tryz.func269.trans (congrArg some (by kernel_rfl))
  f296:=Tryz.func270.trans (congrArg some (by kernel_rfl))
  f297:=Tryz.func271.trans (congrArg some (by kernel_rfl))
  f298:=Tryz.func272.trans (congrArg some (by kernel_rfl))
  f299:=Tryz.func273.trans (congrArg some (by kernel_rfl))
  f300:=Tryz.func275.trans (congrArg some (by kernel_rfl))
  f301:=Tryz.func276.trans (congrArg some (by kernel_rfl))
  f328:=Tryz.func290.trans (congrArg some (by kernel_rfl))
  f329:=Tryz.func278.trans (congrArg some (by kernel_rfl))
  f330:=Tryz.func279.trans (congrArg some (by kernel_rfl))
  f331:=Tryz.func291.trans (congrArg some (by kernel_rfl))
  f332:=Tryz.func292.trans (congrArg some (by kernel_rfl))
  f343:=Tryz.func294.trans (congrArg some (by kernel_rfl))
  t0:=Tryz.underlying0
  a0:=Tryz.isAgg0
  z0:=Tryz.sizeOf0
  v0:=Tryz.zeroValue0
  t3:=Tryz.underlying3
  a3:=Tryz.isAgg3
  z3:=Tryz.sizeOf3
  v3:=Tryz.zeroValue3
  t4:=Tryz.underlying4
  a4:=Tryz.isAgg4
  z4:=Tryz.sizeOf4
  v4:=Tryz.zeroValue4
  t5:=Tryz.underlying5
  a5:=Tryz.isAgg5
  z5:=Tryz.sizeOf5
  v5:=Tryz.zeroValue5
  t9:=Tryz.underlying9
  a9:=Tryz.isAgg9
  z9:=Tryz.sizeOf9
  v9:=Tryz.zeroValue9
  t28:=Tryz.underlying68
  a28:=Tryz.isAgg68
  z28:=Tryz.sizeOf68
  v28:=Tryz.zeroValue68
  t46:=Tryz.underlying99
  a46:=Tryz.isAgg99
  z46:=Tryz.sizeOf99
  v46:=Tryz.zeroValue99
  t51:=Tryz.underlying248
  a51:=Tryz.isAgg248
  z51:=Tryz.sizeOf248
  v51:=Tryz.zeroValue248
  t53:=Tryz.underlying62
  a53:=Tryz.isAgg62
  z53:=Tryz.sizeOf62
  v53:=Tryz.zeroValue62
  t131:=Tryz.underlying108
  a131:=Tryz.isAgg108
  z131:=Tryz.sizeOf108
  v131:=Tryz.zeroValue108
  t182:=Tryz.underlying241
  a182:=Tryz.isAgg241
  z182:=Tryz.sizeOf241
  v182:=Tryz.zeroValue241
  t183:=Tryz.underlying242
  a183:=Tryz.isAgg242
  z183:=Tryz.sizeOf242
  v183:=Tryz.zeroValue242
  t218:=Tryz.underlying273
  a218:=Tryz.isAgg273
  z218:=Tryz.sizeOf273
  v218:=Tryz.zeroValue273
  t222:=Tryz.underlying277
  a222:=Tryz.isAgg277
  z222:=Tryz.sizeOf277
  v222:=Tryz.zeroValue277
  t228:=Tryz.underlying293
  a228:=Tryz.isAgg293
  z228:=Tryz.sizeOf293
  v228:=Tryz.zeroValue293
  t229:=Tryz.underlying294
  a229:=Tryz.isAgg294
  z229:=Tryz.sizeOf294
  v229:=Tryz.zeroValue294 }
open Go.Sort Go.RowKit in
theorem Tryz.slices_Sort_int(blk off cap:Nat)(zs:List Int)(w:World)(hH:Holds (Value.int .i64) w blk off zs.toArray)(hblk:blk<w.heap.size)(hsz:zs.length<4611686018427387904) :
    Calls Tryz.prog 174 #[.slice (some ⟨blk,off,none⟩) zs.length cap] w fun e w'=>
      e=.returned (.tuple #[])/\∃ n os,w'=grow (putRow (Value.int .i64) (Sort.ahead w n) blk off (zs.mergeSort fun x y=>decide (x<=y)).toArray) os:=Any.slices_Sort_int Tryz.lays189 blk off cap zs w hH hblk hsz
def Tryz.laysNm215_ren:Go.Shelf.Ren:=⟨fun|15=>264|n=>n,fun|22=>68|3=>3|4=>4|n=>n,fun|n=>n⟩
theorem Tryz.laysNm215:Go.Proofs.Lays2.n15 Tryz.prog Tryz.laysNm215_ren:={
  mixed:=by kernel_rfl
  f15:=Tryz.func264.trans (congrArg some (by kernel_rfl))
  t3:=Tryz.underlying3
  a3:=Tryz.isAgg3
  z3:=Tryz.sizeOf3
  v3:=Tryz.zeroValue3
  t4:=Tryz.underlying4
  a4:=Tryz.isAgg4
  z4:=Tryz.sizeOf4
  v4:=Tryz.zeroValue4
  t22:=Tryz.underlying68
  a22:=Tryz.isAgg68
  z22:=Tryz.sizeOf68
  v22:=Tryz.zeroValue68
  i3:=by kernel_rfl }
open Go.RowKit Go.Lib in
theorem Tryz.slices_Clone_int(b off n c:Nat)(zs:List Int)(w:World)(hz:n<=zs.length)(hbig:n*8<=140737488355328)(hc:∀ j,j<zs.length->w.cell? ⟨b,off+j,none⟩=some (.int .i64 (zs.getD j 0))) :
    Calls Tryz.prog 264 #[.slice (some ⟨b,off,none⟩) n c] w fun e w'=>∃ v',e=.returned v'/\w'.ownsRow w.heap.size 3 1 v' n ((zs.take n).map (Value.int .i64))/\v'≠.slice none 0 0/\Below w.heap.size w w':=Any.slices_Clone_int Tryz.laysNm215 b off n c zs w hz hbig hc
open Go.RowKit Go.Lib in
theorem Tryz.slices_Clone_int_nil(n c:Nat)(w:World) :
    Calls Tryz.prog 264 #[.slice none n c] w fun e w'=>e=.returned (.slice none 0 0)/\w'=w:=Any.slices_Clone_int_nil Tryz.laysNm215 n c w
open Go.RowKit Go.Lib in
theorem Tryz.slices_Clone_int_zero(a:Addr)(c:Nat)(w:World) :
    Calls Tryz.prog 264 #[.slice (some a) 0 c] w fun e w'=>∃ v',e=.returned v'/\w'.ownsRow w.heap.size 3 1 v' 0 []/\v'≠.slice none 0 0/\Below w.heap.size w w':=Any.slices_Clone_int_zero Tryz.laysNm215 a c w
def Tryz.laysNm220_ren:Go.Shelf.Ren:=⟨fun|20=>220|n=>n,fun|22=>68|3=>3|4=>4|0=>0|n=>n,fun|n=>n⟩
theorem Tryz.laysNm220:Go.Proofs.Lays2.n20 Tryz.prog Tryz.laysNm220_ren:={
  mixed:=by kernel_rfl
  f20:=Tryz.func220.trans (congrArg some (by kernel_rfl))
  t0:=Tryz.underlying0
  a0:=Tryz.isAgg0
  z0:=Tryz.sizeOf0
  v0:=Tryz.zeroValue0
  t3:=Tryz.underlying3
  a3:=Tryz.isAgg3
  z3:=Tryz.sizeOf3
  v3:=Tryz.zeroValue3
  t4:=Tryz.underlying4
  a4:=Tryz.isAgg4
  z4:=Tryz.sizeOf4
  v4:=Tryz.zeroValue4
  t22:=Tryz.underlying68
  a22:=Tryz.isAgg68
  z22:=Tryz.sizeOf68
  v22:=Tryz.zeroValue68
  i3:=by kernel_rfl }
open Go.RowKit Go.Lib Go.Sort in
theorem Tryz.slices_Compact_int(blk off cap:Nat)(zs:List Int)(w:World)(hH:Holds (Value.int .i64) w blk off zs.toArray)(hsz:zs.length<=9223372036854775807)(hcap:zs.length<=cap) :
    Calls Tryz.prog 220 #[.slice (some ⟨blk,off,none⟩) zs.length cap] w fun e w'=>e=.returned (.slice (some ⟨blk,off,none⟩) (Lib.compact zs).length cap)/\∃ q,w'=putRow (Value.int .i64) (Sort.ahead w q) blk off (Lib.compact zs++List.replicate (zs.length-(Lib.compact zs).length) 0).toArray:=Any.slices_Compact_int Tryz.laysNm220 blk off cap zs w hH hsz hcap
open Go.RowKit Go.Lib Go.Sort in
theorem Tryz.slices_Compact_int_empty(a:Option Addr)(cap:Nat)(w:World) :
    Calls Tryz.prog 220 #[.slice a 0 cap] w fun e w'=>e=.returned (.slice a 0 cap)/\w'=w:=Any.slices_Compact_int_empty Tryz.laysNm220 a cap w
end Go.Proofs
namespace Go.Proofs.YtipiejccbmifnaaGreatDoor
open Go.RowKit
section
variable {α : Type}
theorem X3u{enc:α->List Value}{sz:Nat}(hsz:∀ x,(enc x).length=sz){l:List α}{j:Nat}(hj:j<l.length*sz) : ∃ x,l[j/sz]? = some x/\(l.flatMap enc)[j]? = (enc x)[j % sz]?:=by
 have h0:0<sz:=by
  rcases Nat.eq_zero_or_pos sz with h|h
  ·subst h;simp at hj
  ·exact h
 have hk:j/sz<l.length:=Nat.div_lt_of_lt_mul (by rw [Wi];exact hj)
 refine ⟨l[j/sz],Qc hk,?_⟩
 have hm:j % sz<(enc l[j/sz]).length:=by rw [hsz];exact Nat.mod_lt _ h0
 have h1:=X3b hsz l (j/sz) _ (Qc hk) (j % sz) _ (Qc hm)
 rw [show j/sz*sz+j % sz=j from by rw [Wi];exact Nat.div_add_mod j sz] at h1
 rw [h1,Qc hm]
theorem X79{enc:α->List Value}{sz:Nat}(hsz:∀ x,(enc x).length=sz){z:Value}{z0:α}(hz:z.cells.toList=enc z0)(n:Nat) : madeCells z.cells (n*sz)=((List.replicate n z0).flatMap enc).toArray:=by
 have hs:z.cells.size=sz:=by rw [<- hsz z0,<- hz];simp
 apply Array.ext'
 apply List.ext_getElem?
 intro j
 by_cases hj:j<n*sz
 ·obtain ⟨x,hx,h1⟩:=X3u hsz (l:=List.replicate n z0) (j:=j) (by simpa using hj)
  obtain rfl:x=z0:=(List.eq_of_mem_replicate (Qe hx))
  have h0:0<sz:=by
   rcases Nat.eq_zero_or_pos sz with h|h
   ·subst h;simp at hj
   ·exact h
  have hm:j % sz<z.cells.size:=by rw [hs];exact Nat.mod_lt _ h0
  rw [List.toList_toArray,h1,<- hz]
  simp only [madeCells,Array.getElem?_toList,Array.getElem?_map,Array.getElem?_range,hj,if_true,Option.map_some,hs]
  rw [getElem!_pos z.cells (j % sz) hm,Array.getElem?_eq_getElem hm]
 ·rw [List.getElem?_eq_none (by simp [madeCells];omega),List.toList_toArray,List.getElem?_eq_none (by rw [Xo hsz];simp;omega)]
theorem X3y{enc:α->List Value}{sz:Nat}(hsz:∀ x,(enc x).length=sz) : ∀ (l:List α) (k:Nat) (x:α),k<l.length->splice (l.flatMap enc) (k*sz) (enc x)=(l.set k x).flatMap enc
 | [],k,x,h=>by simp at h
 | y::l,0,x,h=>by
  simp only [splice,Nat.zero_mul,List.take_zero,List.nil_append,Nat.zero_add,Wc,List.set_cons_zero]
  rw [hsz,<- hsz y,List.drop_left]
 | y::l,k+1,x,h=>by
  have ih:=X3y hsz l k x (by simpa using h)
  unfold splice at ih ⊢
  have h1:(k+1)*sz=(enc y).length+k*sz:=by rw [hsz,Wb];omega
  rw [h1]
  simp only [Wc,List.set_cons_succ]
  rw [List.take_length_add_append,show (enc y).length+k*sz+(enc x).length=(enc y).length+(k*sz+(enc x).length) from by omega,List.drop_length_add_append,Qx,Qx]
  rw [<- ih,Qx]
end
section
variable {α : Type} {P : Program} {a : Act} {w : World} {n : Nat} {e : Env} {ty : TypeId} {pos : String} {af : Array Edge} {g : Option (Nat × Bool)} {d : Option Tmp}
theorem X94{T E sz bytes m:Nat}{x y:Operand}{enc:α->List Value}{z:Value}{z0:α}(hf:Fr a n e)(hx:ev e x=some (.int .i64 (m:Int)))(hy:ev e y=some (.int .i64 (m:Int)))(hT:SliceT P T E)(hi:InfoT P E sz bytes)(hz:ZeroT P E z)(hz0:z.cells.toList=enc z0)(hsz:∀ x,(enc x).length=sz)(hb:bytes*m<=281474976710656)(hm:m<=4611686018427387904) :
  Ef P ⟨d,.makeSlice T x y,ty,pos,af,g⟩ a w (fun v w'=>∃ b,v=.slice (some ⟨b,0,none⟩) m m/\w.heap.size<=b/\Below w.heap.size w w'/\Blk w' b E ((List.replicate m z0).flatMap enc)):=by
 obtain ⟨i,z1,hi1,hi2,hi3,hi4,hi5,hi6⟩:=hi;obtain ⟨i',hi1',hz1⟩:=hz
 rw [hi1] at hi1'
 injection hi1' with hi1'
 subst hi1'
 rw [hi2] at hz1
 injection hz1 with hz1
 subst hz1
 have hb':(i.bytes:Int)*(m:Int)<=281474976710656:=by
  have h:((i.bytes*m:Nat) : Int)<=281474976710656:=by rw [hi4];omega
  rwa [Int.natCast_mul] at h
 have hr:=run_make (P:=P) w T E i z1 hT hi1 hi2 .i64 .i64 m m (by omega) (Int.le_refl _) hb' (by omega)
 refine (Ef.of_run (v:=.slice (some ⟨w.heap.size,0,none⟩) m m) (w':=w.alloc (.cells ((List.replicate m z0).flatMap enc).toArray E)) ?_).mono fun v w' ⟨e1,e2⟩=>?_
 ·rw [hi3,Qj,X79 hsz hz0] at hr
  simp [execOp,hf.ev hx,hf.ev hy,hr]
 ·subst e1;subst e2
  exact ⟨_,rfl,Qb _,(Below.refl _ _).alloc (Qb _) _,X2c w E _⟩
theorem X4u{T E sz bytes m:Nat}{x y:Operand}{enc:α->List Value}{z:Value}{z0:α}(hx:ev e x=some (.int .i64 (m:Int)))(hy:ev e y=some (.int .i64 (m:Int)))(hT:SliceT P T E)(hi:InfoT P E sz bytes)(hz:ZeroT P E z)(hz0:z.cells.toList=enc z0)(hsz:∀ x,(enc x).length=sz)(hb:bytes*m<=281474976710656)(hm:m<=4611686018427387904) : EfW P ⟨d,.makeSlice T x y,ty,pos,af,g⟩ n e w (fun v w'=>∃ b,v=.slice (some ⟨b,0,none⟩) m m/\w.heap.size<=b/\Below w.heap.size w w'/\Blk w' b E ((List.replicate m z0).flatMap enc)):=fun a hf=>X94 hf hx hy hT hi hz hz0 hsz hb hm
theorem X7g{T E sz b m c k off:Nat}{x y:Operand}{i:Int}(hf:Fr a n e)(hx:ev e x=some (.slice (some ⟨b,0,none⟩) m c))(hy:ev e y=some (.int .i64 i))(hT:SliceT P T E)(hs:SizeT P E sz)(hi:i=(k:Int))(hk:k<m)(ho:k*sz=off) :
  Ev P ⟨d,.indexAddr T x y,ty,pos,af,g⟩ a w (.pointer (some ⟨b,off,none⟩)):=by
 have h:=X58 (P:=P) (w:=w) (d:=d) (ty:=ty) (pos:=pos) (af:=af) (g:=g) hf hx hy hT hs hi hk
 rwa [X1a,Nat.zero_add,ho] at h
theorem Xbt{T E sz b m c k off:Nat}{x y:Operand}{i:Int}(hx:ev e x=some (.slice (some ⟨b,0,none⟩) m c))(hy:ev e y=some (.int .i64 i))(hT:SliceT P T E)(hs:SizeT P E sz)(hi:i=(k:Int))(hk:k<m)(ho:k*sz=off) : EvW P ⟨d,.indexAddr T x y,ty,pos,af,g⟩ n e w (.pointer (some ⟨b,off,none⟩)):=fun a hf=>X7g hf hx hy hT hs hi hk ho
theorem Xec{t T b k sz:Nat}{x y:Operand}{v:Value}{enc:α->List Value}{l:List α}{u:α}(hf:Fr a n e)(hx:ev e x=some (.pointer (some ⟨b,k*sz,none⟩)))(hy:ev e y=some v)(hs:SizeT P t sz)(hb:Blk w b T (l.flatMap enc))(hsz:∀ x,(enc x).length=sz)(hone:∀ x,(enc x).all one=true)(hv:v.cells.toList=enc u)(hk:k<l.length) :
  Ef P ⟨d,.store t x y,ty,pos,af,g⟩ a w (Stored w b T ((l.set k u).flatMap enc)):=by
 have hl:k*sz+sz<=(l.flatMap enc).length:=by
  rw [Xo hsz]
  have:=Nat.mul_le_mul_right sz (show k+1<=l.length by omega)
  rwa [Wb,Nat.one_mul] at this
 exact X6p (vs:=enc u) hf hx hy hs hb hv (by rw [hsz];simp) (hone u) (by rw [Nat.ble_eq];exact hl) (X3y hsz l k u hk)
theorem Xcl{t T b k sz:Nat}{x y:Operand}{v:Value}{enc:α->List Value}{l:List α}{u:α}(hx:ev e x=some (.pointer (some ⟨b,k*sz,none⟩)))(hy:ev e y=some v)(hs:SizeT P t sz)(hb:Blk w b T (l.flatMap enc))(hsz:∀ x,(enc x).length=sz)(hone:∀ x,(enc x).all one=true)(hv:v.cells.toList=enc u)(hk:k<l.length) : EfW P ⟨d,.store t x y,ty,pos,af,g⟩ n e w (Stored w b T ((l.set k u).flatMap enc)):=fun a hf=>Xec hf hx hy hs hb hsz hone hv hk
theorem Xb3{T E sz m c k:Nat}{x y:Operand}{A:Option Addr}{i:Int}(hf:Fr a n e)(hx:ev e x=some (.slice A m c))(hy:ev e y=some (.int .i64 i))(hT:SliceT P T E)(hs:SizeT P E sz)(hi:i=(k:Int))(hk:k<=c) :
  Ev P ⟨d,.slice T x none (some y) none,ty,pos,af,g⟩ a w (.slice A k c):=fun w' _=>by
 subst hi
 have h0:∀ p:Addr,p.add 0=p:=fun p=>by simp [Addr.add]
 simp [execOp,Instr.sliceAt,Instr.slice,Instr.sliceBounds,run_sliceBound,X0c hT,run_sizeOf' hs,hf.ev hx,hf.ev hy,hk,h0]
theorem X8m{T E sz m c k:Nat}{x y:Operand}{A:Option Addr}{i:Int}(hf:Fr a n e)(hx:ev e x=some (.slice A m c))(hy:ev e y=some (.int .i64 i))(hT:SliceT P T E)(hs:SizeT P E sz)(hi:i=(k:Int))(hk:k<=m) :
  Ev P ⟨d,.slice T x (some y) none none,ty,pos,af,g⟩ a w (.slice (if c=k then A else A.map (·.add (k*sz))) (m-k) (c-k)):=fun w' _=>by
 subst hi
 simp [execOp,Instr.sliceAt,Instr.slice,Instr.sliceBounds,run_sliceBound,X0c hT,run_sizeOf' hs,hf.ev hx,hf.ev hy,hk]
end
section
variable {α : Type} {w : World} {B B0 : Nat} {E : TypeId} {sz : Nat} {enc : α -> List Value} {A : Option Addr} {c : Nat} {l : List α}
theorem X8u(hsz:∀ x,(enc x).length=sz)(k:Nat) : (l.take k).flatMap enc=(l.flatMap enc).take (k*sz):=by
 conv=>rhs;rw [<- W9 k l]
 rw [List.flatMap_append]
 by_cases hk:k<=l.length
 ·have:((l.take k).flatMap enc).length=k*sz:=by rw [Xo hsz,Qn,Nat.min_eq_left hk]
  rw [<- this,List.take_left]
 ·rw [Qi (by omega),W3 (by omega)]
  simp only [List.flatMap_nil,List.append_nil]
  rw [Qi (by rw [Xo hsz];exact Nat.mul_le_mul_right _ (by omega))]
theorem X8s(hsz:∀ x,(enc x).length=sz)(k:Nat) : (l.drop k).flatMap enc=(l.flatMap enc).drop (k*sz):=by
 conv=>rhs;rw [<- W9 k l]
 rw [List.flatMap_append]
 by_cases hk:k<=l.length
 ·have:((l.take k).flatMap enc).length=k*sz:=by rw [Xo hsz,Qn,Nat.min_eq_left hk]
  rw [<- this,List.drop_left]
 ·have h1:l.drop k=[]:=W3 (by omega)
  rw [h1,List.flatMap_nil,List.append_nil,W3 (by rw [Xo hsz,Qn];exact Nat.mul_le_mul_right _ (by omega))]
theorem Rd.takeK(hsz:∀ x,(enc x).length=sz)(h:Rd w B E enc A l)(k:Nat) : Rd w B E enc A (l.take k):=fun hl=>by
 have hl':l≠[]:=by rintro rfl;simp at hl
 obtain ⟨b,off,cs,fz,h1,h2,h3,h4⟩:=h hl'
 refine ⟨b,off,cs,fz,h1,h2,h3,fun j v hj=>h4 j v ?_⟩
 rw [X8u hsz,List.getElem?_take] at hj
 split at hj
 ·exact hj
 ·cases hj
theorem Rd.dropK(hsz:∀ x,(enc x).length=sz)(h:Rd w B E enc A l)(hc:l.length<=c)(k:Nat) : Rd w B E enc (if c=k then A else A.map (·.add (k*sz))) (l.drop k):=fun hl=>by
 have hk:k<l.length:=by
  rcases W4 k l.length with h'|h'
  ·exact h'
  ·exact absurd (W3 h') hl
 have hl':l≠[]:=by rintro rfl;simp at hk
 obtain ⟨b,off,cs,fz,h1,h2,h3,h4⟩:=h hl'
 rw [Q3 (by omega),h1]
 refine ⟨b,off+k*sz,cs,fz,by rw [Option.map_some,X1a],h2,h3,fun j v hj=>?_⟩
 rw [X8s hsz,List.getElem?_drop] at hj
 rw [Nat.add_assoc]
 exact h4 _ v hj
theorem Xfj{P:Program}{a:Act}{n:Nat}{e:Env}{ty:TypeId}{pos:String}{af:Array Edge}{g:Option (Nat×Bool)}{d:Option Tmp}{T k:Nat}{x y:Operand}{i:Int}(hf:Fr a n e)(hx:ev e x=some (.slice A l.length c))(hy:ev e y=some (.int .i64 i))(hT:SliceT P T E)(hs:SizeT P E sz)(hi:i=(k:Int))(hk:k<=l.length)(hc:l.length<=c) :
  Ev P ⟨d,.slice T x none (some y) none,ty,pos,af,g⟩ a w (.slice A (l.take k).length c):=by
 rw [Qn,Nat.min_eq_left hk]
 exact Xb3 hf hx hy hT hs hi (by omega)
theorem X2d{P:Program}{n:Nat}{e:Env}{ty:TypeId}{pos:String}{af:Array Edge}{g:Option (Nat×Bool)}{d:Option Tmp}{T k:Nat}{x y:Operand}{i:Int}(hx:ev e x=some (.slice A l.length c))(hy:ev e y=some (.int .i64 i))(hT:SliceT P T E)(hs:SizeT P E sz)(hi:i=(k:Int))(hk:k<=l.length)(hc:l.length<=c) : EvW P ⟨d,.slice T x none (some y) none,ty,pos,af,g⟩ n e w (.slice A (l.take k).length c):=fun a hf=>Xfj hf hx hy hT hs hi hk hc
theorem Xgb{P:Program}{a:Act}{n:Nat}{e:Env}{ty:TypeId}{pos:String}{af:Array Edge}{g:Option (Nat×Bool)}{d:Option Tmp}{T k:Nat}{x y:Operand}{i:Int}(hf:Fr a n e)(hx:ev e x=some (.slice A l.length c))(hy:ev e y=some (.int .i64 i))(hT:SliceT P T E)(hs:SizeT P E sz)(hi:i=(k:Int))(hk:k<=l.length) :
  Ev P ⟨d,.slice T x (some y) none none,ty,pos,af,g⟩ a w (.slice (if c=k then A else A.map (·.add (k*sz))) (l.drop k).length (c-k)):=by
 rw [List.length_drop]
 exact X8m hf hx hy hT hs hi hk
theorem X3z{P:Program}{n:Nat}{e:Env}{ty:TypeId}{pos:String}{af:Array Edge}{g:Option (Nat×Bool)}{d:Option Tmp}{T k:Nat}{x y:Operand}{i:Int}(hx:ev e x=some (.slice A l.length c))(hy:ev e y=some (.int .i64 i))(hT:SliceT P T E)(hs:SizeT P E sz)(hi:i=(k:Int))(hk:k<=l.length) : EvW P ⟨d,.slice T x (some y) none none,ty,pos,af,g⟩ n e w (.slice (if c=k then A else A.map (·.add (k*sz))) (l.drop k).length (c-k)):=fun a hf=>Xgb hf hx hy hT hs hi hk
theorem Own.cap(h:Own w B0 E sz enc A c l) : l.length<=c:=by
 rcases h.2 with ⟨h1,h2⟩|⟨g,cap,cur,h1,h2,h3,h4,h5,h6⟩
 ·omega
 ·injection h1 with _ _ h1
  omega
theorem Own.of_flat(hsz:∀ x,(enc x).length=sz){b m:Nat}(h:Blk w b E (l.flatMap enc))(hb:B0<=b)(hl:l.length=m)(hk:m<=maxLen) : Own w B0 E sz enc (some ⟨b,0,none⟩) m l:=Own.of_blkL hsz h hb rfl hl hk
end
theorem Kept.app{α:Type}{b B B0:Nat}{w0 w w':World}{E:TypeId}{sz:Nat}{enc:α->List Value}{A:Option Addr}{c:Nat}{l:List α}(h:Kept b B w0 w)(ho:Own w B0 E sz enc A c l)(hg:w.grownBy w' (Value.slice A l.length c).ownBlock)(hB:B<=B0)(hs:B<=w.heap.size) : Kept b B w0 w':=
 ⟨hg.os.trans h.os,hg.tape.trans h.tape,hg.output.trans h.output,Q0 h.size hg.size,fun k hk hne=>(hg.block k (by omega) fun hk'=>by have:=(ho.block hk'.symm).1;omega).trans (h.block k hk hne)⟩
end Go.Proofs.YtipiejccbmifnaaGreatDoor
namespace Go.Proofs.YtipiejccbmifnaaGreatDoor
open Go.RowKit Go.Sort
theorem X4i{w:World}{g n:Nat}{os:Array Obj}{cur:Array Value}{e:TypeId}{fr:Nat×Nat}(d:Array Int)(hb:w.heap[g]? = some (.cells cur e fr)) :
  (grow (putRow (Value.int .i64) (Sort.ahead w n) g 0 d) os).heap[g]? = some (.cells (putCells (Value.int .i64) 0 d cur) e fr):=by
 have hg:g<w.heap.size:=(Qp.1 hb).1
 rw [heap_grow_old _ _ (by simpa using hg)]
 simp [putRow,mapBlock,Sort.ahead,Array.getElem?_modify,hb,onCells]
theorem X3s{w:World}{g n:Nat}{os:Array Obj}(d:Array Int) : w.grownBy (grow (putRow (Value.int .i64) (Sort.ahead w n) g 0 d) os) (some g):=by
 refine ⟨rfl,rfl,rfl,by simp,fun k hk hne=>?_⟩
 rw [heap_grow_old _ _ (by simpa using hk)]
 have:g≠k:=fun e=>hne (by rw [e])
 simp [putRow,mapBlock,Sort.ahead,Array.getElem?_modify,this]
theorem X46(l:List Int) : l.flatMap encI=l.map (Value.int .i64):=by
 induction l with
 | nil=>rfl
 | cons x l ih=>simp only [Wc,List.map_cons,ih];rfl
theorem Xal(cur:Array Value)(d ts:List Int)(h:d.length<=cur.size)(ht:d.take ts.length=ts) : (putCells (Value.int .i64) 0 d.toArray cur).toList.take (ts.length*1)=ts.flatMap encI:=by
 have hl:ts.length<=d.length:=by
  have:=congrArg List.length ht
  rw [Qn] at this
  omega
 rw [X46,Nat.mul_one]
 apply List.ext_getElem?
 intro j
 by_cases hj:j<ts.length
 ·rw [Wg hj,Array.getElem?_toList]
  have h1:ts[j]? = d[j]?:=by
   conv=>lhs;rw [<- ht]
   rw [Wg hj]
  have h2:j<d.length:=by omega
  rw [List.getElem?_map,h1]
  simp [putCells,h2,show j<cur.size by omega]
 ·rw [List.getElem?_take_eq_none (by omega),List.getElem?_eq_none (by simp;omega)]
theorem X7h{w:World}{g:Nat}{cur:Array Value}{e:TypeId}{l:List Int}(hb:w.heap[g]? = some (.cells cur e (0,0)))(ht:cur.toList.take (l.length*1)=l.flatMap encI) : Holds (Value.int .i64) w g 0 l.toArray:=by
 intro j hj
 have hj':j<l.length:=by simpa using hj
 refine ⟨?_,by simp [World.frozen?,hb]⟩
 rw [X46,Nat.mul_one] at ht
 have h1:(cur.toList.take l.length)[j]? = (l.map (Value.int .i64))[j]?:=by rw [ht]
 rw [Wg hj'] at h1
 simp only [World.cell?,hb,Nat.zero_add]
 simp only [Option.isSome_none,Bool.false_eq_true,if_false]
 rw [<- Array.getElem?_toList,h1]
 simp [hj']
def sortI(l:List Int) : List Int:=l.mergeSort fun x y=>decide (x<=y)
theorem F94(w0:World)(B0:Nat)(A:Option Addr)(c:Nat)(l:List Int)(ho:Own w0 B0 3 1 encI A c l)(hl:l.length<=1000000000) :
  Ret Tryz.prog 174 [.slice A l.length c] w0 (fun _ w=>Own w B0 3 1 encI A c (sortI l)/\w0.grownBy w (Value.slice A l.length c).ownBlock):=by
 by_cases h0:l=[]
 ·subst h0
  refine Calls.mono (Any.slices_Sort_int_none Tryz.lays189 A c w0) fun e w ⟨e1,e2⟩=>⟨_,e1,?_⟩
  subst e2
  exact ⟨by simpa [sortI] using ho,World.grownBy.refl w _⟩
 ·rcases ho.2 with ⟨h1,h2⟩|⟨g,cap,cur,h1,h2,h3,h4,h5,h6,h7⟩
  ·exact absurd (List.eq_nil_of_length_eq_zero h2) h0
  ·injection h1 with h1 _ h1''
   subst h1;subst h1''
   have hs:(sortI l).length=l.length:=by simp [sortI]
   refine Calls.mono (Tryz.slices_Sort_int g 0 c l w0 (X7h h3 h7) (Qp.1 h3).1 (by omega)) fun e w ⟨e1,n,os,e2⟩=>⟨_,e1,?_⟩
   subst e2
   refine ⟨⟨Xo Xh _,.inr ⟨g,c,_,by rw [hs],h2,X4i _ h3,by omega,h5,by simp [putCells,h6],?_⟩⟩,?_⟩
   ·exact Xal cur (sortI l) (sortI l) (by omega) List.take_length
   ·exact X3s _
theorem Xap(l:List Int) : (Lib.compact l).length<=l.length:=by
 unfold Lib.compact Lib.compactUpTo
 rw [Qo]
 exact Q0 (List.length_filter_le _ _) (by simp)
theorem F95(w0:World)(B0:Nat)(A:Option Addr)(c:Nat)(l:List Int)(ho:Own w0 B0 3 1 encI A c l)(hl:l.length<=1000000000) :
  Ret Tryz.prog 220 [.slice A l.length c] w0 (fun v w=>v=.slice A (Lib.compact l).length c/\Own w B0 3 1 encI A c (Lib.compact l)/\w0.grownBy w (Value.slice A l.length c).ownBlock):=by
 by_cases h0:l=[]
 ·subst h0
  refine Calls.mono (Tryz.slices_Compact_int_empty A c w0) fun e w ⟨e1,e2⟩=>⟨_,e1,?_⟩
  subst e2
  exact ⟨rfl,ho,World.grownBy.refl w _⟩
 ·rcases ho.2 with ⟨h1,h2⟩|⟨g,cap,cur,h1,h2,h3,h4,h5,h6,h7⟩
  ·exact absurd (List.eq_nil_of_length_eq_zero h2) h0
  ·injection h1 with h1 _ h1''
   subst h1;subst h1''
   have hc:=Xap l
   refine Calls.mono (Tryz.slices_Compact_int g 0 c l w0 (X7h h3 h7) (by omega) h4) fun e w ⟨e1,q,e2⟩=>⟨_,e1,rfl,?_⟩
   have e3:w=grow (putRow (Value.int .i64) (Sort.ahead w0 q) g 0 (Lib.compact l++List.replicate (l.length-(Lib.compact l).length) 0).toArray) #[]:=by rw [grow_empty];exact e2
   subst e3
   refine ⟨⟨Xo Xh _,.inr ⟨g,c,_,rfl,h2,X4i _ h3,by omega,h5,by simp [putCells,h6],?_⟩⟩,?_⟩
   ·exact Xal cur _ (Lib.compact l) (by simp;omega) List.take_left
   ·exact X3s _
theorem Xv3(w0:World)(B0:Nat)(A:Option Addr)(c:Nat)(l:List Int)(m:Nat)(hm:m=l.length)(ho:Own w0 B0 3 1 encI A c l)(hl:l.length<=1000000000) :
  Ret Tryz.prog 220 [.slice A m c] w0 (fun v w=>v=.slice A (Lib.compact l).length c/\Own w B0 3 1 encI A c (Lib.compact l)/\w0.grownBy w (Value.slice A l.length c).ownBlock):=by
 subst hm
 exact F95 w0 B0 A c l ho hl
def growRen:Go.Shelf.Ren:=⟨fun|4=>266|n=>n,fun|22=>68|25=>3|n=>n,fun|n=>n⟩
theorem Xcs:Lays8.n4 Tryz.prog growRen:={
 mixed:=by kernel_rfl
 f4:=⟨Tryz.f266.name,by decide,Tryz.func266.trans (congrArg some (by kernel_rfl))⟩
 t0:=Tryz.underlying0
 a0:=Tryz.isAgg0
 z0:=Tryz.sizeOf0
 v0:=Tryz.zeroValue0
 t3:=Tryz.underlying3
 a3:=Tryz.isAgg3
 z3:=Tryz.sizeOf3
 v3:=Tryz.zeroValue3
 t4:=Tryz.underlying4
 a4:=Tryz.isAgg4
 z4:=Tryz.sizeOf4
 v4:=Tryz.zeroValue4
 t9:=Tryz.underlying9
 a9:=Tryz.isAgg9
 z9:=Tryz.sizeOf9
 v9:=Tryz.zeroValue9
 t20:=Tryz.underlying20
 a20:=Tryz.isAgg20
 z20:=Tryz.sizeOf20
 v20:=Tryz.zeroValue20
 t22:=Tryz.underlying68
 a22:=Tryz.isAgg68
 z22:=Tryz.sizeOf68
 v22:=Tryz.zeroValue68 }
theorem Xv0(w0:World)(n:Nat)(hn:n<=1000000000) : Ret Tryz.prog 266 [.slice none 0 0,.int .i64 (n:Int)] w0 (fun v w=>∃ A c,v=.slice A 0 c/\Own w w0.heap.size 3 1 encI A c ([] : List Int)/\Below w0.heap.size w0 w):=by
 by_cases h0:n=0
 ·subst h0
  refine Calls.mono (Any8.slices_Grow_room Xcs none 0 0 0 w0 (by omega) (by omega) (by omega) (by omega)) fun e w ⟨e1,e2⟩=>⟨_,e1,none,0,rfl,?_⟩
  subst e2
  exact ⟨Own.nil _ _ _ _ _,Below.refl _ _⟩
 ·obtain ⟨i,z,hi1,hi2,hi3,hi4,hi5,hi6⟩:=X1f
  refine Calls.mono (Any8.slices_Grow_grow Xcs i z hi1 hi2 (by omega) none 0 0 n [] w0 (by omega) (by omega) (by rw [hi4];omega) (by omega) (by simp) (fun _=>rfl) (fun a h=>by cases h)) fun e w ⟨e1,e2⟩=>⟨_,e1,_,_,rfl,?_⟩
  subst e2
  have hge:=grownCap_ge w0 (0+n) 0 (growRen.t 25)
  refine ⟨⟨rfl,.inr ⟨w0.heap.size,_,_,rfl,Qb _,heap_alloc_new w0.drew _,Qf _,grownCap_le_maxLen w0 _ _ _ (by simp only [maxLen];omega),?_,by simp⟩⟩,((Below.refl _ _).drew).alloc (Qb _) _⟩
  simp only [Array.size_append,List.size_toArray,size_zeroCells,hi5,List.length_nil,Nat.zero_add,Nat.mul_one] at hge ⊢
  omega
end Go.Proofs.YtipiejccbmifnaaGreatDoor
namespace Go.Proofs.YtipiejccbmifnaaGreatDoor
open Go.RowKit
structure Sl where (A:Option Addr) (c:Nat) (l:List Int)
def encS(s:Sl) : List Value:=[.slice s.A s.l.length s.c]
theorem Xa7:∀ x,(encS x).length=1:=fun _=>rfl
structure Rp where (pos:Int) (old new:List Gt)
theorem X7f{α β:Type}{f:α->List β}{l:List α}{k:Nat}{u:α}(h:l[k]? = some u) : (l.take (k+1)).flatMap f=(l.take k).flatMap f++f u:=by
 rw [Qt,h]
 simp
theorem X8w{α β:Type}(f:α->List β)(l:List α)(k:Nat) : ((l.take k).flatMap f).length<=(l.flatMap f).length:=by
 conv=>rhs;rw [<- W9 k l]
 rw [List.flatMap_append,Qh]
 omega
theorem Xe2{α β:Type}(f:α->List β){l:List α}{k:Nat}(h:l.length<=k) : (l.take k).flatMap f=l.flatMap f:=by rw [Qi h]
def unionI(p q:List Int) : List Int:=Lib.compact (sortI (p++(q++[])))
theorem Xae{l:List Int}{k:Nat}(h:k<l.length) : l[k]? = some (l.getD k 0):=by grind
def oA(A:Option Addr)(m:Nat) : Addr:=match A with
 | some p=>⟨p.block,m,none⟩
 | none=>⟨0,m,none⟩
theorem X29{l vs:List Value}{off:Nat}(h:off+vs.length<=l.length)(i:Nat) : (splice l off vs)[i]? = if i<off then l[i]? else if i<off+vs.length then vs[i-off]? else l[i]?:=by grind [splice]
theorem X2i{l vs:List Value}{off:Nat}(h:off+vs.length<=l.length) : (splice l off vs).length=l.length:=by grind [splice]
theorem Xaj{l x vs:List Value}{o j:Nat}(hx:∀ i,i<x.length->l[o+i]? = x[i]?)(h1:o+x.length<=l.length)(h2:j+vs.length<=x.length) : splice l (o+j) vs=splice l o (splice x j vs):=by
 have h3:=X2i h2
 apply List.ext_getElem?
 intro i
 rw [X29 (by omega),X29 (by omega),h3]
 by_cases a1:i<o
 ·rw [Q4 (by omega),Q4 a1]
 ·rw [Q3 a1]
  by_cases a2:i<o+x.length
  ·rw [Q4 a2,X29 h2]
   by_cases a3:i<o+j
   ·rw [Q4 a3,Q4 (show i-o<j by omega),<- hx (i-o) (by omega)];congr 1;omega
   ·rw [Q3 a3,Q3 (show ¬ i-o<j by omega)]
    by_cases a4:i<o+j+vs.length
    ·rw [Q4 a4,Q4 (show i-o<j+vs.length by omega)];congr 1;omega
    ·rw [Q3 a4,Q3 (show ¬ i-o<j+vs.length by omega),<- hx (i-o) (by omega)];congr 1;omega
  ·rw [Q3 a2,Q3 (by omega),Q3 (by omega)]
theorem Xaf{l vs:List Value}{off N:Nat}(h:off+vs.length<=N)(hN:N<=l.length) : (splice l off vs).take N=splice (l.take N) off vs:=by
 apply List.ext_getElem?
 intro i
 by_cases hi:i<N
 ·rw [Wg hi,X29 (by omega),X29 (by rw [Qn];omega),Wg hi]
 ·rw [List.getElem?_take_eq_none (by omega),List.getElem?_eq_none]
  rw [X2i (by rw [Qn];omega),Qn];omega
theorem Xdf{α:Type}{enc:α->List Value}{sz:Nat}(hsz:∀ x,(enc x).length=sz) : ∀ (l:List α) (k i:Nat) (x:α),l[k]? = some x->i<sz->(l.flatMap enc)[k*sz+i]? = (enc x)[i]?
 | [],k,i,x,h,_=>by simp at h
 | y::l,0,i,x,h,hi=>by
  simp at h;subst h
  rw [Wc,Nat.zero_mul,Nat.zero_add,List.getElem?_append_left (by rw [hsz];exact hi)]
 | y::l,k+1,i,x,h,hi=>by
  have h':l[k]? = some x:=by simpa using h
  have e:(k+1)*sz+i=sz+(k*sz+i):=by rw [Wb];omega
  rw [Wc,e,W5 (by rw [hsz];omega),hsz,Nat.add_sub_cancel_left]
  exact Xdf hsz l k i x h' hi
section
variable {P : Program} {a : Act} {w w' : World} {n : Nat} {e : Env} {ty : TypeId} {pos : String} {af : Array Edge} {g : Option (Nat × Bool)} {d : Option Tmp} {α : Type}
theorem X9x{T E:TypeId}{sz B0 k m:Nat}{x y:Operand}{enc:α->List Value}{A:Option Addr}{c:Nat}{l:List α}{i:Int}(hf:Fr a n e)(hx:ev e x=some (.slice A m c))(hy:ev e y=some (.int .i64 i))(hT:SliceT P T E)(hs:SizeT P E sz)
  (ho:Own w' B0 E sz enc A c l) (hm:m=l.length) (hi:i=(k:Int)) (hk:k<l.length) : Ev P ⟨d,.indexAddr T x y,ty,pos,af,g⟩ a w (.pointer (some (oA A (k*sz)))):=by
 subst hm
 rcases ho.2 with ⟨h1,h2⟩|⟨b,cap,cur,h1,h2,h3,h4⟩
 ·omega
 ·injection h1 with h1
  rw [h1] at hx ⊢
  exact X7g (b:=b) (off:=k*sz) hf hx hy hT hs hi hk rfl
theorem Xp{T E:TypeId}{sz B0 k m:Nat}{x y:Operand}{enc:α->List Value}{A:Option Addr}{c:Nat}{l:List α}{i:Int}(hx:ev e x=some (.slice A m c))(hy:ev e y=some (.int .i64 i))(hT:SliceT P T E)(hs:SizeT P E sz)(ho:Own w' B0 E sz enc A c l)(hm:m=l.length)(hi:i=(k:Int))(hk:k<l.length) : EvW P ⟨d,.indexAddr T x y,ty,pos,af,g⟩ n e w (.pointer (some (oA A (k*sz)))):=fun a hf=>X9x hf hx hy hT hs ho hm hi hk
theorem X9z{T f k m:Nat}{x:Operand}{A:Option Addr}(hf:Fr a n e)(hx:ev e x=some (.pointer (some (oA A m))))(hF:FieldT P T f k){m':Nat}(hm:m+k=m') : Ev P ⟨d,.fieldAddr T x f,ty,pos,af,g⟩ a w (.pointer (some (oA A m'))):=by
 subst hm
 have h:=X6u (P:=P) (w:=w) (d:=d) (ty:=ty) (pos:=pos) (af:=af) (g:=g) hf hx hF
 have e:(oA A m).add k=oA A (m+k):=by cases A<;>simp [oA,Addr.add]
 rw [e] at h
 exact h
theorem X0w{T f k m:Nat}{x:Operand}{A:Option Addr}(hx:ev e x=some (.pointer (some (oA A m))))(hF:FieldT P T f k){m':Nat}(hm:m+k=m') : EvW P ⟨d,.fieldAddr T x f,ty,pos,af,g⟩ n e w (.pointer (some (oA A m'))):=fun a hf=>X9z hf hx hF hm
theorem X9m{t E:TypeId}{sz B0 k j m n1:Nat}{x y:Operand}{enc:α->List Value}{A:Option Addr}{c:Nat}{l:List α}{v:Value}{vs:List Value}{x0 u:α}(hf:Fr a n e)(hx:ev e x=some (.pointer (some (oA A m))))(hy:ev e y=some v)(hs:SizeT P t n1)
  (ho:Own w B0 E sz enc A c l) (hsz:∀ x,(enc x).length=sz) (hv:v.cells.toList=vs) (hn:Nat.beq vs.length n1=true) (h1:vs.all one=true) (hm:k*sz+j=m) (hj:j+n1<=sz) (hk:l[k]? = some x0) (hu:splice (enc x0) j vs=enc u) :
  Ef P ⟨d,.store t x y,ty,pos,af,g⟩ a w (fun _ w'=>Own w' B0 E sz enc A c (l.set k u)/\w.grownBy w' (Value.slice A l.length c).ownBlock):=by
 have hkl:k<l.length:=(Qg.1 hk).1
 rcases ho.2 with ⟨e1,e2⟩|⟨b,cap,cur,e1,e2,e3,e4,e5,e6,e7⟩
 ·omega
 ·injection e1 with e1 _ e1'
  subst hm;subst e1'
  have hcl:cur.toList.length=c*sz:=Array.length_toList.trans e6
  have hN:l.length*sz<=cur.toList.length:=by rw [hcl];exact Nat.mul_le_mul_right _ e4
  have hks:k*sz+sz<=l.length*sz:=by
   have:=Nat.mul_le_mul_right sz (show k+1<=l.length by omega)
   rwa [Wb,Nat.one_mul] at this
  have hn':vs.length=n1:=Nat.eq_of_beq_eq_true hn
  rw [e1] at hx
  have hb:Blk w b E cur.toList:=by unfold Blk;rw [e3]
  refine (X6p (b:=b) (off:=k*sz+j) (vs:=vs) hf hx hy hs hb hv hn h1 (by rw [Nat.ble_eq];omega) rfl).mono fun _ w' ⟨hO,hB⟩=>?_
  have hlen:((l.set k u).flatMap enc).length=(l.set k u).length*sz:=Xo hsz _
  refine ⟨⟨hlen,.inr ⟨b,c,_,by rw [e1],e2,hB,by simp;omega,e5,?_,?_⟩⟩,?_⟩
  ·rw [List.size_toArray,X2i (by omega),hcl]
  ·simp only [List.length_set]
   rw [Xaf (by omega) hN,e7,Xaj (x:=enc x0) (fun i hi=>?_) (by rw [Xo hsz,hsz];omega) (by rw [hsz];omega),hu]
   ·exact X3y hsz l k u hkl
   ·exact Xdf hsz l k i x0 hk (by rw [<- hsz x0];exact hi)
  ·rw [e1]
   exact ⟨hO.os,hO.tape,hO.output,by rw [hO.size];exact Qb _,fun q _ hne=>hO.block q fun e=>hne (by rw [e];rfl)⟩
theorem X0y{t E:TypeId}{sz B0 k j m n1:Nat}{x y:Operand}{enc:α->List Value}{A:Option Addr}{c:Nat}{l:List α}{v:Value}{vs:List Value}{x0 u:α}(hx:ev e x=some (.pointer (some (oA A m))))(hy:ev e y=some v)(hs:SizeT P t n1)(ho:Own w B0 E sz enc A c l)(hsz:∀ x,(enc x).length=sz)(hv:v.cells.toList=vs)(hn:Nat.beq vs.length n1=true)(h1:vs.all one=true)(hm:k*sz+j=m)(hj:j+n1<=sz)(hk:l[k]? = some x0)(hu:splice (enc x0) j vs=enc u) : EfW P ⟨d,.store t x y,ty,pos,af,g⟩ n e w (fun _ w'=>Own w' B0 E sz enc A c (l.set k u)/\w.grownBy w' (Value.slice A l.length c).ownBlock):=fun a hf=>X9m hf hx hy hs ho hsz hv hn h1 hm hj hk hu
end
section
variable {P : Program} {ops : Array Oper} {a : Act} {w : World} {n d : Nat} {e : Env} {ty : TypeId} {pos : String} {af : Array Edge} {g : Option (Nat × Bool)} {α : Type}
end
def Apart(A A':Option Addr) : Prop:=∀ p q,A=some p->A'=some q->p.block≠q.block
section
variable {α β : Type} {w w' : World} {B B0 B1 : Nat} {E E' : TypeId} {sz sz' : Nat} {enc : α -> List Value} {enc' : β -> List Value} {A A' : Option Addr} {c c' : Nat} {l : List α} {l' : List β}
theorem Own.apart(h:Own w B E sz enc A c l)(h':Own w' B0 E' sz' enc' A' c' l')(hB:w.heap.size<=B0) : Apart A A':=fun p q hp hq=>by
 rcases h.2 with ⟨h1,_⟩|⟨g,cap,cur,h1,h2,h3,_⟩
 ·injection h1 with h1;rw [h1] at hp;cases hp
 ·rcases h'.2 with ⟨k1,_⟩|⟨g',cap',cur',k1,k2,k3,_⟩
  ·injection k1 with k1;rw [k1] at hq;cases hq
  ·injection h1 with h1
   injection k1 with k1
   rw [h1] at hp
   rw [k1] at hq
   injection hp with hp
   injection hq with hq
   subst hp;subst hq
   have:=(Qp.1 h3).1
   intro e
   simp only at e
   omega
theorem Own.appP(h:Own w B1 E' sz' enc' A' c' l')(hg:w.grownBy w' (Value.slice A l.length c).ownBlock)(ha:Apart A' A) : Own w' B1 E' sz' enc' A' c' l':=by
 refine ⟨h.1,?_⟩
 rcases h.2 with h1|⟨g,cap,cur,h1,h2,h3,h4⟩
 ·exact .inl h1
 ·refine .inr ⟨g,cap,cur,h1,h2,(hg.block g (Qp.1 h3).1 fun hk=>?_).trans h3,h4⟩
  injection h1 with h1
  cases A with
  | none=>simp [Value.ownBlock] at hk
  | some q=>
   simp only [Value.ownBlock,Option.some.injEq] at hk
   exact ha _ q h1 rfl hk
theorem gbel{r:Option Nat}{w0 w w':World}(h:w0.grownBy w r)(hE:Below w.heap.size w w') : w0.grownBy w' r:=
 ⟨hE.os.trans h.os,hE.tape.trans h.tape,hE.output.trans h.output,Q0 h.size hE.size,fun k hk hn=>(hE.block k (Nat.lt_of_lt_of_le hk h.size)).trans (h.block k hk hn)⟩
theorem Xch(A:Option Addr)(n m c d:Nat) : (Value.slice A n c).ownBlock=(Value.slice A m d).ownBlock:=by cases A<;>rfl
theorem gtr{A:Option Addr}{n m c d:Nat}{w0 w w':World}(h:w0.grownBy w (Value.slice A n c).ownBlock)(k:w.grownBy w' (Value.slice A m d).ownBlock) : w0.grownBy w' (Value.slice A n c).ownBlock:=
 ⟨k.os.trans h.os,k.tape.trans h.tape,k.output.trans h.output,Q0 h.size k.size,fun q hq hn=>(k.block q (Nat.lt_of_lt_of_le hq h.size) (by rw [Xch A m n d c];exact hn)).trans (h.block q hq hn)⟩
theorem gonly{r:Option Nat}{b:Nat}{w0 w w':World}(h:w0.grownBy w r)(ho:Only b w w')(hb:w0.heap.size<=b) : w0.grownBy w' r:=
 ⟨ho.os.trans h.os,ho.tape.trans h.tape,ho.output.trans h.output,by rw [ho.size];exact h.size,fun k hk hn=>(ho.block k (by omega)).trans (h.block k hk hn)⟩
theorem Own.len{m:Nat}(h:Own w B E sz enc A c l)(hm:m=l.length) : Own w B E sz enc A c l/\Value.slice A m c=Value.slice A l.length c:=⟨h,by rw [hm]⟩
theorem Apart.symm(h:Apart A A') : Apart A' A:=fun p q hp hq e=>h q p hq hp e.symm
end
section
variable {w w' : World} {B : Nat} {l : List Sl}
end
section
variable {α : Type} {w w' : World} {B B1 : Nat} {E : TypeId} {sz : Nat} {enc : α -> List Value} {A : Option Addr} {c : Nat} {l : List α} {m : List Sl}
end
theorem Apart.app{α:Type}{w:World}{B:Nat}{E:TypeId}{sz:Nat}{enc:α->List Value}{A A1 A2:Option Addr}{c:Nat}{l:List α}(h:Own w B E sz enc A c l)(ha:Apart A A1)(hat:∀ b,b<w.heap.size->Away A1 b->Away A2 b) : Apart A A2:=by
 intro p q hp hq
 rcases h.2 with ⟨h1,_⟩|⟨g,cap,cur,h1,_,h3,_⟩
 ·injection h1 with h1;rw [h1] at hp;cases hp
 ·injection h1 with h1
  rw [h1] at hp
  injection hp with hp
  have hlt:p.block<w.heap.size:=by rw [<- hp];exact (Qp.1 h3).1
  have haw:Away A1 p.block:=fun r hr e=>ha p r (by rw [h1,hp]) hr e.symm
  exact fun e=>hat _ hlt haw q hq e.symm
theorem X9o{α:Type}{P:Program}{a:Act}{w:World}{n:Nat}{e:Env}{ty:TypeId}{pos:String}{af:Array Edge}{g:Option (Nat×Bool)}{d:Option Tmp}{T E:TypeId}{sz bytes B b0:Nat}{x y:Operand}{enc:α->List Value}{A2:Option Addr}{c2:Nat}{l2:List α}(hf:Fr a n e)(hx:ev e x=some (.slice (some ⟨b0,0,none⟩) 0 0))(hy:ev e y=some (.slice A2 l2.length c2))
  (hT:SliceT P T E) (hi:InfoT P E sz bytes) (hsz:∀ x,(enc x).length=sz) (hone:∀ x,(enc x).all one=true) (hb:Blk w b0 E []) (hr:Rd w B E enc A2 l2) (h63:l2.length<=maxLen) (hbytes:l2.length*bytes<=140737488355328) :
  Ef P ⟨d,.call ⟨.builtin .append,#[x,y],#[T,T]⟩,ty,pos,af,g⟩ a w (fun v w'=>∃ A' c',v=.slice A' l2.length c'/\Own w' b0 E sz enc A' c' l2/\Below w.heap.size w w'/\∀ b,b<w.heap.size->b≠b0->Away A' b):=by
 by_cases hl2:l2=[]
 ·subst hl2
  obtain ⟨i,z,hi1,hi2,hi3,hi4,hi5,hi6⟩:=hi
  have hrun:(Builtin.append_ #[T,T] ty #[.slice (some ⟨b0,0,none⟩) 0 0,.slice A2 0 c2]).run P w=.ok (.slice (some ⟨b0,0,none⟩) 0 0) w:=by
   cases A2<;>simp [Builtin.append_,X0c hT,sizeOf,typeInfo,hi1,Builtin.lenOf,Builtin.firstCells,loadCells,loadCellsFrom,storeCells]
  refine (Ef.of_run (v:=.slice (some ⟨b0,0,none⟩) 0 0) (w':=w) ?_).mono fun v w' ⟨e1,e2⟩=>?_
  ·simp only [List.length_nil] at hy
   simp [execOp,resolve,invoke,builtin,hf.ev hx,hf.ev hy,hrun]
  ·subst e1;subst e2
   exact ⟨_,_,rfl,Own.empty hb (Qb _),Below.refl _ _,fun b _ hne=>Away.ne hne⟩
 ·have hown:Own w b0 E sz enc (some ⟨b0,0,none⟩) 0 ([] : List α):=Own.empty hb (Qb _)
  obtain ⟨i,z,hi1,hi2,rfl,rfl,hi5,hi6⟩:=hi;obtain ⟨b,off,cs,fz,rfl,h2,h3,h4⟩:=hr hl2;have hlen2:=Xo hsz l2
  have hpos:0<l2.length:=List.length_pos_iff.2 hl2
  have h:=run_append_grow (P:=P) w T ty E i z hT hi1 hi2 ⟨b0,0,none⟩ 0 0 [] (by simp) (fun j u hu=>by simp at hu)
   ⟨b,off,none⟩ l2.length c2 (l2.flatMap enc) hlen2 (fun j u hu=>by
    have:=h4 j u hu
    rw [X1a]
    simp [World.cell?,h3,this])
   (by omega) (by simp only [maxLen] at h63;omega) (growslice_fits (by omega) (by simpa using hbytes))
  simp only [Nat.zero_add] at h
  refine (Ef.of_run (w':=w.drew.alloc (.cells (([] : List Value).toArray++(l2.flatMap enc).toArray++Builtin.zeroCells z.cells (grownCap w l2.length 0 E-l2.length)) E)) (v:=.slice (some ⟨w.heap.size,0,none⟩) l2.length (grownCap w l2.length 0 E)) ?_).mono fun v w' ⟨e1,e2⟩=>?_
  ·simp [execOp,resolve,invoke,builtin,hf.ev hx,hf.ev hy,h]
  ·subst e1;subst e2
   have hb0:=hb.lt;have hge:=grownCap_ge w l2.length 0 E
   refine ⟨_,_,rfl,?_,((Below.refl _ _).drew).alloc (Qb _) _,fun b hb _=>Away.ne (by omega)⟩
   refine ⟨Xo hsz _,.inr ⟨w.heap.size,_,_,rfl,by omega,heap_alloc_new w.drew _,hge,grownCap_le_maxLen w _ _ E h63,?_,?_⟩⟩
   ·simp only [Array.size_append,List.size_toArray,size_zeroCells,hi5,hlen2,List.length_nil,Nat.zero_add,<- Wb]
    congr 1
    omega
   ·rw [<- hlen2]
    simp only [Array.toList_append,Qx,List.nil_append]
    exact List.take_left
theorem X2s{α:Type}{P:Program}{w:World}{n:Nat}{e:Env}{ty:TypeId}{pos:String}{af:Array Edge}{g:Option (Nat×Bool)}{d:Option Tmp}{T E:TypeId}{sz bytes B b0:Nat}{x y:Operand}{enc:α->List Value}{A2:Option Addr}{c2:Nat}{l2:List α}(hx:ev e x=some (.slice (some ⟨b0,0,none⟩) 0 0))(hy:ev e y=some (.slice A2 l2.length c2))(hT:SliceT P T E)(hi:InfoT P E sz bytes)(hsz:∀ x,(enc x).length=sz)(hone:∀ x,(enc x).all one=true)(hb:Blk w b0 E [])(hr:Rd w B E enc A2 l2)(h63:l2.length<=maxLen)(hbytes:l2.length*bytes<=140737488355328) : EfW P ⟨d,.call ⟨.builtin .append,#[x,y],#[T,T]⟩,ty,pos,af,g⟩ n e w (fun v w'=>∃ A' c',v=.slice A' l2.length c'/\Own w' b0 E sz enc A' c' l2/\Below w.heap.size w w'/\∀ b,b<w.heap.size->b≠b0->Away A' b):=fun a hf=>X9o hf hx hy hT hi hsz hone hb hr h63 hbytes
section
variable {P : Program} {ops : Array Oper} {V : Option Vk} {tl : Nat -> Bool} {Q : Act -> World -> Prop} {fuel : Nat} {done : List Nat} {w : World} {o : Oper} {op : Op} {ty : TypeId} {pos : String} {af : Array Edge} {g : Option (Nat × Bool)} {n d : Nat} {e : Env} {v : Value} {R : Value -> World -> Prop} {x : Operand}
end
theorem Apart.nr(A:Option Addr) : Apart A none:=fun _ _ _ h=>by cases h
def bitT(p s:Nat) : Int:=bits .and .i64 ((s:Int)/2^p) 1
theorem X7b{l:List Int}{k:Nat}(h:decide ((k:Int)<(l.length:Int))=true) : l[k]? = some (l.getD k 0):=Xae (by simpa using h)
def putI:List Int->Int->List Int
 | [],n=>[n]
 | x::l,n=>if x<n then x::putI l n else if x=n then x::l else n::x::l
theorem Xd9:∀ (l:List Int) (n:Int),(putI l n).length<=l.length+1
 | [],n=>by simp [putI]
 | x::l,n=>by
  unfold putI
  split
  ·have:=Xd9 l n;simp only [Qs];omega
  ·split<;>simp
theorem Xhh:∀ (l:List Int) (n:Int) (k:Nat),(l.take k).all (fun x=>decide (x<n))=true->k<=l.length->(k<l.length->¬ l.getD k 0<n)->
  (k<l.length/\l.getD k 0=n->putI l n=l)/\(¬ (k<l.length/\l.getD k 0=n)->putI l n=l.take k++[n]++l.drop k)
 | [],n,k,_,hk,_=>by
  have:k=0:=by simpa using hk
  subst this
  exact ⟨fun h=>by simp at h,fun _=>rfl⟩
 | x::l,n,0,_,_,h=>by
  have h:=h (by simp)
  simp only [List.getD_cons_zero] at h
  refine ⟨fun h1=>?_,fun h1=>?_⟩
  ·have h2:=h1.2
   simp only [List.getD_cons_zero] at h2
   rw [putI,Q3 h,Q4 h2]
  ·have h2:¬ x=n:=fun e=>h1 ⟨by simp,by simpa using e⟩
   rw [putI,Q3 h,Q3 h2]
   rfl
 | x::l,n,k+1,ha,hk,h=>by
  simp only [List.take_succ_cons,List.all_cons,Qd,Qr] at ha
  have ih:=Xhh l n k ha.2 (by simpa using hk) (fun h1=>by have:=h (by simpa using h1);simpa using this)
  simp only [Qs,Nat.add_lt_add_iff_right,List.getD_cons_succ,List.take_succ_cons,List.drop_succ_cons,Wa] at *
  rw [putI,Q4 ha.1]
  exact ⟨fun h1=>by rw [ih.1 h1],fun h1=>by rw [ih.2 h1]⟩
theorem X2x{α β:Type}{f:β->α->β}{b:β}{l:List α}{k:Nat}{u:α}(h:l[k]? = some u) : (l.take (k+1)).foldl f b=f ((l.take k).foldl f b) u:=by
 rw [Qt,h]
 simp
def lastN(l:List Int)(q:Int) : Nat->Int
 | 0=>0
 | k+1=>if l.getD k 0=q then (k:Int) else lastN l q k
section
variable {us : List Int} {j : Nat} {v q x k : Int}
end
abbrev Inc(l:List Int) : Prop:=l.Pairwise (· < ·)
theorem X8t:∀ (l m:List Int),Inc l->Inc m->(∀ x,x ∈ l↔x ∈ m)->l=m
 | [],[],_,_,_=>rfl
 | [],y::m,_,_,h=>by have:=(h y).2 (by simp);cases this
 | x::l,[],_,_,h=>by have:=(h x).1 (by simp);cases this
 | x::l,y::m,hl,hm,h=>by
  have hl':=W8.1 hl
  have hm':=W8.1 hm
  have hxy:x=y:=by
   have h1:=(h x).1 (by simp)
   have h2:=(h y).2 (by simp)
   rcases Qv.1 h1 with h1|h1
   ·exact h1
   ·rcases Qv.1 h2 with h2|h2
    ·exact h2.symm
    ·have h3:=hm'.1 x h1;have h4:=hl'.1 y h2
     omega
  subst hxy
  congr 1
  refine X8t l m hl'.2 hm'.2 fun z=>?_
  constructor
  ·intro hz
   rcases Qv.1 ((h z).1 (Ql _ hz)) with h1|h1
   ·have:=hl'.1 z hz;omega
   ·exact h1
  ·intro hz
   rcases Qv.1 ((h z).2 (Ql _ hz)) with h1|h1
   ·have:=hm'.1 z hz;omega
   ·exact h1
theorem X87:∀ (l:List Int) (n x:Int),x ∈ putI l n↔x ∈ l∨x=n
 | [],n,x=>by simp [putI]
 | y::l,n,x=>by
  unfold putI
  split
  ·rw [Qv,X87 l n x,Qv,or_assoc]
  ·split
   ·rename_i h;subst h;simp only [Qv];constructor
    ·exact .inl
    ·rintro (h|h)
     ·exact h
     ·exact .inl h
   ·simp only [Qv];constructor
    ·rintro (h|h|h)
     ·exact .inr h
     ·exact .inl (.inl h)
     ·exact .inl (.inr h)
    ·rintro ((h|h)|h)
     ·exact .inr (.inl h)
     ·exact .inr (.inr h)
     ·exact .inl h
theorem Xcb:∀ (l:List Int) (n:Int),Inc l->Inc (putI l n)
 | [],n,_=>by simp [putI]
 | y::l,n,h=>by
  have h':=W8.1 h
  unfold putI
  split
  ·rename_i h1
   refine W8.2 ⟨fun z hz=>?_,Xcb l n h'.2⟩
   rcases (X87 l n z).1 hz with h2|h2
   ·exact h'.1 z h2
   ·omega
  ·split
   ·exact h
   ·rename_i h1 h2
    refine W8.2 ⟨fun z hz=>?_,h⟩
    rcases Qv.1 hz with h3|h3
    ·omega
    ·have:=h'.1 z h3;omega
theorem Xe5(l:List Int)(x:Int) : x ∈ sortI l↔x ∈ l:=List.mem_mergeSort
theorem X98(l:List Int) : (sortI l).Pairwise (·<=·):=by
 have:=List.pairwise_mergeSort (le:=fun x y:Int=>decide (x<=y)) (fun a b c h1 h2=>by simp only [Qr] at *;omega) (fun a b=>by simp only [Bool.or_eq_true,Qr];omega) l
 exact this.imp fun h=>by simpa using h
theorem X6r{l:List Int}(h:l.Pairwise (·<=·)){i j:Nat}(hij:i<=j)(hj:j<l.length) : l[i]'(by omega)<=l[j]:=by
 rcases W4 i j with h1|h1
 ·exact W0.1 h i j (by omega) hj h1
 ·obtain rfl:i=j:=by omega
  exact Int.le_refl _
theorem X41{l:List Int}{j:Nat}(hj:j<l.length) : l.toArray[j]! = l[j]:=by grind
theorem X7q{l:List Int}{j:Nat}(hj:j<l.length) : Lib.keeps l.toArray j=true↔j=0∨l[j]≠l[j-1]:=by
 unfold Lib.keeps
 rw [Qr,X41 hj,X41 (show j-1<l.length by omega)]
theorem X9g(l:List Int)(x:Int) : x ∈ Lib.compact l↔x ∈ l:=by
 unfold Lib.compact Lib.compactUpTo
 rw [W6]
 constructor
 ·rintro ⟨j,hj,rfl⟩
  have hj':=W2.1 (List.mem_filter.1 hj).1
  rw [X41 hj']
  exact List.getElem_mem _
 ·intro hx;obtain ⟨j,hj,hjx⟩:=List.mem_iff_getElem.1 hx
  have key:∀ n j,j<=n->(hj:j<l.length)->l[j]=x->∃ k,∃ hk:k<l.length,l[k]=x/\(k=0∨l[k]≠l[k-1]):=by
   intro n
   induction n with
   | zero=>
    intro j h0 hj hx;obtain rfl:j=0:=by omega
    exact ⟨0,hj,hx,.inl rfl⟩
   | succ n ih=>
    intro j h0 hj hx
    by_cases h:j=0∨l[j]≠l[j-1]
    ·exact ⟨j,hj,hx,h⟩
    ·have h1:¬ j=0:=fun e=>h (.inl e)
     have h2:l[j]=l[j-1]:=Classical.byContradiction fun e=>h (.inr e)
     exact ih (j-1) (by omega) (by omega) (by rw [<- h2];exact hx)
  obtain ⟨k,hk,h1,h2⟩:=key j j (Qb _) hj hjx;exact ⟨k,List.mem_filter.2 ⟨W2.2 hk,(X7q hk).2 h2⟩,by rw [X41 hk];exact h1⟩
theorem X9f{l:List Int}(h:l.Pairwise (·<=·)) : Inc (Lib.compact l):=by
 unfold Lib.compact Lib.compactUpTo
 rw [Inc,List.pairwise_map]
 refine List.Pairwise.imp_of_mem (R:=(· < ·)) (fun {i j} hi hj hij=>?_) (List.Pairwise.filter _ List.pairwise_lt_range)
 have hi':=W2.1 (List.mem_filter.1 hi).1
 have hj':=W2.1 (List.mem_filter.1 hj).1
 have hk:=(X7q hj').1 (List.mem_filter.1 hj).2
 rw [X41 hi',X41 hj']
 have h1:=X6r h (show i<=j-1 by omega) (by omega)
 have h2:=X6r h (show j-1<=j by omega) hj'
 have h3:l[j]≠l[j-1]:=hk.resolve_left (by omega)
 omega
theorem Xdw(p q:List Int)(x:Int) : x ∈ unionI p q↔x ∈ p∨x ∈ q:=by
 unfold unionI
 rw [X9g,Xe5]
 simp
theorem Xdy(p q:List Int) : Inc (unionI p q):=X9f (X98 _)
section
end
instance:DecidableEq Rp:=fun a b=>decidable_of_iff (a.pos=b.pos/\a.old=b.old/\a.new=b.new) (by cases a;cases b;simp)
theorem F93(g:World)(ls:List Sl)(Al:Option Addr)(cl:Nat)(o:Rd g g.heap.size 68 encS Al ls)(C:∀ s ∈ ls,Rd g g.heap.size 3 encI s.A s.l)(b6:ls.length<=1000)(b4:(ls.flatMap Sl.l).length<=1000000000) : Ret Tryz.prog 219 [.slice Al ls.length cl] g (fun v w=>∃ A c,v=.slice A (ls.flatMap Sl.l).length c/\Own w g.heap.size 3 1 encI A c (ls.flatMap Sl.l)/\Below g.heap.size g w):=by
 refine enter Tryz.func219 rfl 36 rfl rfl ?_;intro a b
 have i:=bz g
 refine Zs b fun _ aS=>?_;refine Za rfl<|Zx aS fun a b _ aT=>?_;refine Za rfl<|ZX aT fun a b _ aU=>?_;refine Zs b fun _ aV=>?_;refine Zm rfl<|Ze (X07 rfl X6w)<|Zm rfl<|Zt aV fun a b=>?_;refine Q8<|X02 (σ:=Nat) (fun (k:Nat) (a:Act) (w:World)=>Fr a 36 [(0,.slice Al ls.length cl),(3,vi (((ls.take k).flatMap Sl.l).length:Int)),(9,.slice Al ls.length cl),(10,vi (ls.length:Int)),(11,vi (k:Int))]/\(k<=ls.length)/\Below g.heap.size g w) (fun (k:Nat)=>ls.length-k) 0 ?_ ?_
 ·exact ⟨b.sb,(Qf _),i⟩
 rintro k a w1 ⟨b,hk,i⟩;refine Zs b fun _ aW=>?_;refine Ze (X0i rfl rfl)<|ZX aW fun a b _ aX=>?_
 refine Xf b rfl (fun m=>?_) (fun m=>?_)
 ·have aC:=m;have m:=Q2 m
  obtain ⟨p,q⟩:=X4 (l:=ls) (k:=k) (by omega)
  have t:=X7f (f:=Sl.l) q;have a6:=X8w Sl.l ls (k+1)
  rw [t,Qh] at a6
  refine Q7<|aX _ _<|Q5 fun _ aD=>?_;refine Q8<|Zs b fun _ aE=>?_;refine Zi (k:=k) (u:=p) (enc:=encS) (l:=ls) tv0 rfl rfl X6w Xfx Xa7 (o.bx i) q rfl ?_;intro b7 a7
  have b5:Rd w1 g.heap.size 3 encI p.A p.l:=(C p (Qe q)).bx i
  refine Ze (X0 rfl X3p a7)<|Za rfl<|Zx aE fun a b _ aF=>?_;refine Zm rfl<|Zm rfl<|Ze (X07 rfl Xk)<|Ze (Xr rfl rfl (by omega) (by omega))<|Za rfl<|Zx aF fun a b _ aG=>?_;refine Zm rfl<|Ze (X0i rfl rfl)<|Zt aG fun a b=>?_
  refine Xf b rfl (fun d=>?_) (fun d=>?_)
  ·have a8:=d;have d:=Q2 d;exact absurd d (by omega)
  have a8:=d;have d:=Q1 d;refine Q7<|Xb<|aD _ _<|Zr b ?_;refine Ze (Xr rfl rfl (by omega) (by omega))<|Zm rfl ?_;refine Zn fun a b=>?_
  have aY:((((ls.take k).flatMap Sl.l).length:Int)+(p.l.length:Int))=(((ls.take (k+1)).flatMap Sl.l).length:Int):=by rw [t,Qh];omega
  rw [aY] at b
  refine Xe ?_;exact ⟨k+1,⟨b.sb,(by omega),i⟩,(by omega)⟩
 have aC:=m;have m:=Q1 m;refine Q9<|Xl<|Xl<|X01 ?_;refine aU _ _<|Zs b fun _ aH=>?_;refine Zm rfl<|Zf (Vc (Xv0 _ (((ls.take k).flatMap Sl.l).length) (by have:=X8w Sl.l ls k;omega)) Xn5) ?_;rintro _ w2 ⟨aZ,b0,rfl,x,hE⟩;have x:=x.lower i.size;have i:=btr i hE;refine Za rfl<|ZX aH fun a b _ aI=>?_;refine Zs b fun _ aJ=>?_;refine Zm rfl<|Ze (X07 rfl X6w)<|Zm rfl<|Zt aJ fun a b=>?_;refine Q8<|X02 (σ:=Nat×(List Int)) (fun (s:Nat×(List Int)) (a:Act) (w:World)=>match s with|(j,l)=>∃ h B,Fr a 36 [(6,.slice h l.length B),(25,.slice Al ls.length cl),(26,vi (ls.length:Int)),(27,vi (j:Int))]/\(j<=ls.length)/\(l=(ls.take j).flatMap Sl.l)/\Own w g.heap.size 3 1 encI h B l/\Below g.heap.size g w) (fun (s:Nat×(List Int))=>match s with|(j,l)=>ls.length-j) (0,[]) ?_ ?_
 ·exact ⟨aZ,b0,b.sb,(Qf _),rfl,x,i⟩
 rintro ⟨j,l⟩ a w3 ⟨h,B,b,hj,hl,y,i⟩;refine Zs b fun _ aK=>?_;refine Ze (X0i rfl rfl)<|ZX aK fun a b _ aL=>?_
 refine Xf b rfl (fun e=>?_) (fun e=>?_)
 ·have aA:=e;have e:=Q2 e
  obtain ⟨n,z⟩:=X4 (l:=ls) (k:=j) (by omega)
  have t:=X7f (f:=Sl.l) z;have a6:=X8w Sl.l ls (j+1)
  rw [t,Qh,<- hl] at a6
  refine Q7<|aL _ _<|Q5 fun _ aM=>?_;refine Q8<|Zs b fun _ aN=>?_;refine Zi (k:=j) (u:=n) (enc:=encS) (l:=ls) tv0 rfl rfl X6w Xfx Xa7 (o.bx i) z rfl ?_;intro b8 aB
  have aO:Rd w3 g.heap.size 3 encI n.A n.l:=(C n (Qe z)).bx i
  refine Ze (X0 rfl X3p aB)<|Za rfl<|Zt aN fun a b=>?_;refine Zr b<|Zm rfl<|Zm rfl<|Zf (X0k (enc:=encI) (l:=(l)) (l2:=(n.l)) (B0:=g.heap.size) rfl rfl Xk X1f Xh X1z y aO (by simp only [maxLen];omega) (by omega) i.size) ?_;rintro _ w4 ⟨b1,b2,rfl,aP,hg,b3⟩
  have D:Own _ g.heap.size 3 1 encI _ _ (l):=y
  clear b3;have i:=Below.app i D hg (Qb _) i.size;clear D hg;refine Za rfl ?_;refine Zn fun a b=>?_;refine Xb<|aM _ _<|Zr b<|Ze (Xr rfl rfl (by omega) (by omega))<|Zm rfl ?_;refine Zn fun a b=>?_;refine Xe ?_;exact ⟨(j+1,l++n.l),⟨b1,b2,b.sb,(by omega),(by rw [t,hl]),aP,i⟩,(by first|omega|(dsimp only;omega))⟩
 have aA:=e;have e:=Q1 e;refine Q9<|Xl<|Xl<|X01 ?_;refine aI _ _<|Zs b fun _ aQ=>?_;refine Zm rfl<|Za rfl<|Zt aQ fun a b=>?_
 refine Q6 (X6 b (Xs b rfl rfl) ?_)
 have aR:l=ls.flatMap Sl.l:=by rw [hl];exact Xe2 _ (by omega)
 rw [<- aR]
 exact ⟨h,B,rfl,y,i⟩
theorem Xpk(q:World)(Al:Option Addr)(cl:Nat)(l:List Int)(j:Rd q q.heap.size 3 encI Al l)(n:Int)(B0:Nat)(ho:Own q B0 3 1 encI Al cl l)(aN:B0<=q.heap.size)(b0:l.length<=1000000000) : Ret Tryz.prog 256 [.slice Al l.length cl,vi n] q (fun v w=>∃ A c,v=.slice A (putI l n).length c/\Own w B0 3 1 encI A c (putI l n)/\Below q.heap.size q w):=by
 refine enter Tryz.func256 rfl 48 rfl rfl ?_;intro a e
 have f:=bz q
 refine Zs e fun _ aO=>?_;refine Za rfl<|Zx aO fun a e _ aP=>?_;refine Za rfl<|ZX aP fun a e _ aQ=>?_;refine Q8<|X02 (σ:=Nat) (fun (k:Nat) (a:Act) (w:World)=>Fr a 48 [(0,.slice Al l.length cl),(1,vi n),(5,vi (k:Int))]/\(k<=l.length)/\((l.take k).all (fun x=>decide (x<n))=true)/\Below q.heap.size q w) (fun (k:Nat)=>l.length-k) 0 ?_ ?_
 ·exact ⟨e.sb,(Qf _),rfl,f⟩
 rintro k a w1 ⟨e,hk,D,f⟩;refine Q5 fun _ aR=>?_;refine Q5 fun _ aS=>?_;refine X06 (fun a w=>Fr a 48 [(0,.slice Al l.length cl),(1,vi n),(5,vi (k:Int)),(18,.bool (decide ((k:Int)<(l.length:Int))&&decide ((l.getD k 0)<n)))]/\w1=w) ?_ ?_
 ·refine Zr e<|Zm rfl<|Zm rfl<|Ze (X07 rfl Xk)<|Ze (X0i rfl rfl)<|Zm rfl ?_
  refine Zg 11 rfl (fun d=>?_) (fun d=>?_)
  ·refine Zv (gW d) (X3 rfl) ?_;refine Zv (gW d) (X3 rfl) ?_;refine Zi (k:=k) (u:=(l.getD k 0)) (enc:=encI) (l:=l) ⟨_,_,rfl,rfl,d⟩ rfl rfl Xk X0a Xh (j.bx f) (X7b (by assumption)) rfl ?_;intro b1 aA;refine Zv (gW d) (X0 rfl Xa aA) ?_;refine Zv (gW d) (X3 rfl) ?_;refine Zv (gW d) (X0i rfl rfl) ?_;refine Ze (X5 rfl d rfl) ?_;refine Zn fun a e=>?_;exact ⟨e.sub ⟨rfl,rfl,rfl,X1 rfl (by first|rfl|(simp only [d,bs];done)|simp [d]),trivial⟩,rfl⟩
  (iterate 6 refine Zp (gP d) ?_);refine Ze (X9 rfl d rfl) ?_;refine Zn fun a e=>?_;exact ⟨e.sub ⟨rfl,rfl,rfl,X1 rfl (by first|rfl|(simp only [d,bs];done)|simp [d]),trivial⟩,rfl⟩
 rintro a _ ⟨e,rfl⟩;refine aS _ _ ?_
 refine Xf e rfl (fun o=>?_) (fun o=>?_)
 ·have i:=o
  have aT:(k:Int)<l.length/\l.getD k 0<n:=by simpa using o
  have aU:k<l.length:=by omega
  refine Q7<|aR _ _<|Q8<|Zr e ?_;refine Zm rfl<|Ze (Xr rfl rfl (by omega) (by omega))<|Za rfl ?_;refine Zn fun a e=>?_;refine Xb<|Xe ?_;exact ⟨k+1,⟨e.sb,(by omega),(X5b D (Xae aU) (by simpa using aT.2)),f⟩,(by omega)⟩
 have i:=o
 have aV:k<l.length->¬ l.getD k 0<n:=by intro h0 h1;revert o;simp only [h1,decide_true,Bool.and_true,decide_eq_false_iff_not];omega
 have aB:=Xhh l n k D hk aV;refine Q9<|Xl<|Xl<|X01 ?_;refine aQ _ _<|Q5 fun _ aC=>?_;refine Q5 fun _ aD=>?_;refine X06 (fun a w=>Fr a 48 [(0,.slice Al l.length cl),(1,vi n),(5,vi (k:Int)),(32,.bool (decide ((k:Int)<(l.length:Int))&&(l.getD k 0)==n))]/\w1=w) ?_ ?_
 ·refine Zr e<|Zm rfl<|Zm rfl<|Ze (X07 rfl Xk)<|Ze (X0i rfl rfl)<|Zm rfl ?_
  refine Zg 25 rfl (fun b=>?_) (fun b=>?_)
  ·refine Zv (gW b) (X3 rfl) ?_;refine Zv (gW b) (X3 rfl) ?_;refine Zi (k:=k) (u:=(l.getD k 0)) (enc:=encI) (l:=l) ⟨_,_,rfl,rfl,b⟩ rfl rfl Xk X0a Xh (j.bx f) (X7b (by assumption)) rfl ?_;intro b2 a6;refine Zv (gW b) (X0 rfl Xa a6) ?_;refine Zv (gW b) (X3 rfl) ?_;refine Zv (gW b) (X0f rfl rfl) ?_;refine Ze (X5 rfl b rfl) ?_;refine Zn fun a e=>?_;exact ⟨e.sub ⟨rfl,rfl,rfl,X1 rfl (by first|rfl|(simp only [i,b,bs];done)|simp [i,b]),trivial⟩,rfl⟩
  (iterate 6 refine Zp (gP b) ?_);refine Ze (X9 rfl b rfl) ?_;refine Zn fun a e=>?_;exact ⟨e.sub ⟨rfl,rfl,rfl,X1 rfl (by first|rfl|(simp only [i,b,bs];done)|simp [i,b]),trivial⟩,rfl⟩
 rintro a _ ⟨e,rfl⟩;refine aD _ _ ?_
 refine Xf e rfl (fun p=>?_) (fun p=>?_)
 ·have a7:=p
  have aW:k<l.length/\l.getD k 0=n:=by have h9:(k:Int)<l.length/\l.getD k 0=n:=(by simpa using p);omega
  have z:=aB.1 aW;refine Zs e fun _ aE=>?_;refine Zm rfl<|Za rfl<|Zt aE fun a e=>?_;refine Q6<|X8<|X6 e (Xs e rfl rfl) ?_
  rw [z]
  exact ⟨_,_,rfl,ho.bw f,f⟩
 have a7:=p
 have z:=aB.2 (fun h0=>by revert p;rw [h0.2];simp;omega)
 refine Q7<|aC _ _<|Zs e fun _ aF=>?_;refine Zf (Xj (k:=0) (vs:=[]) (zs:=[]) rfl Xk X1f rfl rfl) ?_;rintro _ w2 ⟨b3,rfl,E,hE,G⟩;have h:=Q0 f.size E;have aG:=(j.bx f).away E;have f:=btr f hE;refine Zm rfl<|Zm rfl ?_;have aH:=((j.bx f).top).takeK Xh k;refine Ze (X2d (l:=l) (k:=k) rfl rfl Xk X0a rfl hk ho.cap)<|Zf (X0k (enc:=encI) (l:=([] : List Int)) (l2:=((l.take k))) (B0:=q.heap.size) rfl rfl Xk X1f Xh X1z (Own.empty G h) aH (by simp only [maxLen];simp;omega) (by simp;omega) f.size) ?_;rintro _ w3 ⟨b4,b5,rfl,m,H,t⟩
 have g:Own _ q.heap.size 3 1 encI _ _ ([] : List Int):=(Own.empty G h)
 clear t;have f:=Below.app f g H (Qb _) f.size;clear g H
 simp only [List.nil_append] at m
 refine Za rfl<|Zx aF fun a e _ aI=>?_;refine Zm rfl<|Zm rfl<|Zf (Xj (k:=1) (vs:=[vi n]) (zs:=[vi n]) rfl Xk X1f rfl rfl) ?_;rintro _ w4 ⟨b6,rfl,B,hE,C⟩;have aX:=Q0 f.size B;have aJ:=(j.bx f).away B;have y:=m.away B;have m:=m.bw hE;have f:=btr f hE;refine Zf (X0k (enc:=encI) (l:=((l.take k))) (l2:=([n])) (B0:=q.heap.size) rfl rfl Xk X1f Xh X1z m (Rd.of_blk C rfl _ C.lt) (by simp only [maxLen];simp;omega) (by simp;omega) f.size) ?_;rintro _ w5 ⟨b7,b8,rfl,I,H,t⟩
 have g:Own _ q.heap.size 3 1 encI _ _ ((l.take k)):=m
 have a8:=t _ C.lt y;clear t;have f:=Below.app f g H (Qb _) f.size;clear g H;refine Za rfl<|Zx aI fun a e _ aK=>?_;refine Zm rfl<|Zm rfl<|Zm rfl ?_;have aL:=((j.bx f).top).dropK Xh (c:=cl) ho.cap k;refine Ze (X3z (l:=l) (k:=k) rfl rfl Xk X0a rfl hk)<|Zf (X0k (enc:=encI) (l:=((l.take k)++([n]))) (l2:=((l.drop k))) (B0:=q.heap.size) rfl rfl Xk X1f Xh X1z I aL (by simp only [maxLen];simp;omega) (by simp;omega) f.size) ?_;rintro _ w6 ⟨aY,aZ,rfl,aM,H,t⟩
 have g:Own _ q.heap.size 3 1 encI _ _ ((l.take k)++([n])):=I
 clear t;have f:=Below.app f g H (Qb _) f.size;clear g H;refine Za rfl<|Zt aK fun a e=>?_
 refine Q6 (X6 e (Xs e rfl rfl) ?_)
 rw [z]
 exact ⟨aY,aZ,rfl,(aM).lower aN,f⟩
section
end
theorem X5d:∀ (l m:List Int) (x:Int),x ∈ l.foldl putI m↔x ∈ m∨x ∈ l
 | [],m,x=>by simp
 | y::l,m,x=>by rw [List.foldl_cons,X5d l,X87];simp only [Qv];rw [or_assoc]
theorem X9r:∀ (l m:List Int),Inc m->Inc (l.foldl putI m)
 | [],_,h=>h
 | y::l,m,h=>X9r l _ (Xcb m y h)
theorem X6t:∀ (l m:List Int),(l.foldl putI m).length<=m.length+l.length
 | [],m=>by simp
 | y::l,m=>by
  have h1:=X6t l (putI m y);have h2:=Xd9 m y
  rw [List.foldl_cons,Qs]
  omega
section
variable (gs : List Gt) (s : List Int) (g : Gt) (x : Int)
end
section
variable {f : Nat -> Int} {n i : Nat} {r : Int × Int} {x : Int}
end
section
variable {p : Nat -> Bool} {i j : Nat}
end
section
variable {gs : List Gt} {s : List Int} {i : Nat} {g : Gt}
end
theorem Xfv(e:World)(Al:Option Addr)(cl:Nat)(l:List Int)(aB:Rd e e.heap.size 3 encI Al l)(x:Int)(aO:l.length<=2305843009213693951) : Ret Tryz.prog 160 [.slice Al l.length cl,vi x] e (fun v w=>v=.bool (l.any fun y=>y==x)/\Below e.heap.size e w):=by
 refine enter Tryz.func160 rfl 17 rfl rfl ?_;intro a b
 have hW:=bz e
 refine Zs b fun _ aH=>?_;refine Za rfl<|ZX aH fun a b _ aI=>?_;refine Zs b fun _ aJ=>?_;refine Zm rfl<|Ze (X07 rfl Xk)<|Zm rfl<|Zt aJ fun a b=>?_;refine Q8<|X02 (σ:=Nat) (fun (k:Nat) (a:Act) (w:World)=>Fr a 17 [(1,vi x),(7,.slice Al l.length cl),(8,vi (l.length:Int)),(9,vi (k:Int))]/\(k<=l.length)/\((l.take k).all (fun y=>!(y==x))=true)/\Below e.heap.size e w) (fun (k:Nat)=>l.length+1-k) 0 ?_ ?_
 ·exact ⟨b.sb,(Qf _),(by simp),hW⟩
 rintro k a w1 ⟨b,hk,f,hW⟩;refine Zs b fun _ aK=>?_;refine Ze (X0i rfl rfl)<|ZX aK fun a b _ aL=>?_
 refine Xf b rfl (fun d=>?_) (fun d=>?_)
 ·have aC:=d;have d:=Q2 d
  obtain ⟨u8,a6⟩:=X4 (l:=l) (k:=k) (by omega)
  refine Q7<|aL _ _<|Q5 fun _ aM=>?_;refine Q8<|Zs b fun _ aD=>?_;refine Zi (k:=k) (u:=u8) (enc:=encI) (l:=l) tv0 rfl rfl Xk X0a Xh (aB.bx hW) a6 rfl ?_;intro aP a7;refine Ze (X0 rfl Xa a7)<|Za rfl<|Zx aD fun a b _ aE=>?_;refine Zm rfl<|Zm rfl<|Ze (X0f rfl rfl)<|Zt aE fun a b=>?_
  refine Xf b rfl (fun c=>?_) (fun c=>?_)
  ·have a8:=c
   have aA:l.any (fun y=>y==x)=true:=X6m a6 c
   refine Zs b fun _ aF=>?_;refine Za rfl<|Zt aF fun a b=>?_;refine Q6<|Xx<|X8<|X8 ?_;refine Xx<|X8<|X6 b (Xs b rfl rfl) ?_;exact ⟨by rw [aA],hW⟩
  have a8:=c
  have aN:(!(u8==x))=true:=by rw [c];rfl
  refine Q7<|Xb<|aM _ _<|Zr b ?_;refine Ze (Xr rfl rfl (by omega) (by omega))<|Zm rfl ?_;refine Zn fun a b=>?_;refine Xe ?_;exact ⟨k+1,⟨b.sb,(by omega),(X5b f a6 aN),hW⟩,(by omega)⟩
 have aC:=d;have d:=Q1 d;refine Q9<|Xl<|Xl<|X01 ?_;refine aI _ _<|Zs b fun _ aG=>?_;refine Za rfl<|Zt aG fun a b=>?_
 refine Q6 (X6 b (Xs b rfl rfl) ?_)
 have aA:l.any (fun y=>y==x)=false:=X5q (X5u f (by omega))
 exact ⟨by rw [aA],hW⟩
theorem Xvi(e:World)(Al:Option Addr)(cl:Nat)(l:List Int)(aB:Rd e e.heap.size 3 encI Al l)(x:Int)(aO:l.length<=2305843009213693951) : Ret Tryz.prog 267 [.slice Al l.length cl,vi x] e (fun v w=>∃ i:Int,v=vi i/\decide (0<=i)=(l.any fun y=>x==y)/\Below e.heap.size e w):=by
 refine enter Tryz.func267 rfl 19 rfl rfl ?_;intro a b
 have hW:=bz e
 refine Zs b fun _ aH=>?_;refine Za rfl<|ZX aH fun a b _ aI=>?_;refine Zs b fun _ aJ=>?_;refine Zm rfl<|Ze (X07 rfl Xk)<|Zm rfl<|Zt aJ fun a b=>?_;refine Q8<|X02 (σ:=Nat) (fun (k:Nat) (a:Act) (w:World)=>Fr a 19 [(0,.slice Al l.length cl),(1,vi x),(7,vi (l.length:Int)),(8,vi (k:Int))]/\(k<=l.length)/\((l.take k).all (fun y=>!(x==y))=true)/\Below e.heap.size e w) (fun (k:Nat)=>l.length+1-k) 0 ?_ ?_
 ·exact ⟨b.sb,(Qf _),(by simp),hW⟩
 rintro k a w1 ⟨b,hk,f,hW⟩;refine Zs b fun _ aK=>?_;refine Ze (X0i rfl rfl)<|ZX aK fun a b _ aL=>?_
 refine Xf b rfl (fun d=>?_) (fun d=>?_)
 ·have aC:=d;have d:=Q2 d
  obtain ⟨u8,a6⟩:=X4 (l:=l) (k:=k) (by omega)
  refine Q7<|aL _ _<|Q5 fun _ aM=>?_;refine Q8<|Zs b fun _ aD=>?_;refine Zm rfl<|Za rfl<|Zx aD fun a b _ aE=>?_;refine Zm rfl<|Zm rfl<|Zm rfl<|Zi (k:=k) (u:=u8) (enc:=encI) (l:=l) tv0 rfl rfl Xk X0a Xh (aB.bx hW) a6 rfl ?_;intro aP a7;refine Ze (X0 rfl Xa a7)<|Ze (X0f rfl rfl)<|Zt aE fun a b=>?_
  refine Xf b rfl (fun c=>?_) (fun c=>?_)
  ·have a8:=c
   have aA:l.any (fun y=>x==y)=true:=X6m a6 c
   refine Zs b fun _ aF=>?_;refine Zm rfl<|Za rfl<|Zt aF fun a b=>?_;refine Q6<|Xx<|X8<|X8 ?_;refine Xx<|X8<|X6 b (Xs b rfl rfl) ?_;exact ⟨_,rfl,by rw [aA];simp,hW⟩
  have a8:=c
  have aN:(!(x==u8))=true:=by rw [c];rfl
  refine Q7<|Xb<|aM _ _<|Zr b ?_;refine Ze (Xr rfl rfl (by omega) (by omega))<|Zm rfl ?_;refine Zn fun a b=>?_;refine Xe ?_;exact ⟨k+1,⟨b.sb,(by omega),(X5b f a6 aN),hW⟩,(by omega)⟩
 have aC:=d;have d:=Q1 d;refine Q9<|Xl<|Xl<|X01 ?_;refine aI _ _<|Zs b fun _ aG=>?_;refine Za rfl<|Zt aG fun a b=>?_
 refine Q6 (X6 b (Xs b rfl rfl) ?_)
 have aA:l.any (fun y=>x==y)=false:=X5q (X5u f (by omega))
 exact ⟨_,rfl,by rw [aA];rfl,hW⟩
theorem Xkb(w0:World)(Al:Option Addr)(cl:Nat)(l:List Int)(a6:Rd w0 w0.heap.size 3 encI Al l)(x:Int)(a7:l.length<=2305843009213693951) : Ret Tryz.prog 221 [.slice Al l.length cl,vi x] w0 (fun v w=>v=.bool (l.any fun y=>x==y)/\Below w0.heap.size w0 w):=by
 refine enter Tryz.func221 rfl 9 rfl rfl ?_;intro a hf
 have hW:=bz w0
 refine Zs hf fun _ a8=>?_;refine Za rfl<|Zx a8 fun a hf _ aA=>?_;refine Zm rfl<|Zm rfl<|Zf (Vc (Xvi _ Al cl l (a6.bx hW).top x a7) Xpt) ?_;rintro _ w1 ⟨ix,rfl,aB,hE⟩;have hW:=btr hW hE;refine Ze (X4q rfl rfl)<|Za rfl<|Zt aA fun a hf=>?_
 refine Q6 (X6 hf (Xs hf rfl rfl) ?_)
 exact ⟨by rw [<- aB],hW⟩
theorem Xv7(e:World)(Al:Option Addr)(cl:Nat)(l:List Int)(aB:Rd e e.heap.size 3 encI Al l)(kq:FuncId)(pq:List Value)(Fq:FuncF Tryz.prog kq)(q:Int->Bool)(hq:∀ x w,Below e.heap.size e w->Ret Tryz.prog kq ([vi x]++pq) w (fun v w'=>v=.bool (q x)/\Below w.heap.size w w'))(aO:l.length<=2305843009213693951) : Ret Tryz.prog 289 [.slice Al l.length cl,.func (.func kq) #[] pq.toArray] e (fun v w=>∃ i:Int,v=vi i/\decide (0<=i)=l.any q/\Below e.heap.size e w):=by
 refine enter Tryz.func289 rfl 19 rfl rfl ?_;intro a b
 have f:=bz e
 refine Zs b fun _ aH=>?_;refine Za rfl<|ZX aH fun a b _ aI=>?_;refine Zs b fun _ aJ=>?_;refine Zm rfl<|Ze (X07 rfl Xk)<|Zm rfl<|Zt aJ fun a b=>?_;refine Q8<|X02 (σ:=Nat) (fun (k:Nat) (a:Act) (w:World)=>Fr a 19 [(0,.slice Al l.length cl),(1,.func (.func kq) #[] pq.toArray),(7,vi (l.length:Int)),(8,vi (k:Int))]/\(k<=l.length)/\((l.take k).all (fun x=>!q x)=true)/\Below e.heap.size e w) (fun (k:Nat)=>l.length+1-k) 0 ?_ ?_
 ·exact ⟨b.sb,(Qf _),(by simp),f⟩
 rintro k a w1 ⟨b,hk,g,f⟩;refine Zs b fun _ aK=>?_;refine Ze (X0i rfl rfl)<|ZX aK fun a b _ aL=>?_
 refine Xf b rfl (fun d=>?_) (fun d=>?_)
 ·have aC:=d;have d:=Q2 d
  obtain ⟨u8,a6⟩:=X4 (l:=l) (k:=k) (by omega)
  refine Q7<|aL _ _<|Q5 fun _ aM=>?_;refine Q8<|Zs b fun _ aD=>?_;refine Zm rfl<|Za rfl<|Zx aD fun a b _ aE=>?_;refine Zm rfl<|Zm rfl<|Zm rfl<|Zi (k:=k) (u:=u8) (enc:=encI) (l:=l) tv0 rfl rfl Xk X0a Xh (aB.bx f) a6 rfl ?_;intro aP a7;refine Ze (X0 rfl Xa a7)<|Zf (X5x (cs:=pq) (vs:=[vi u8]) rfl rfl Fq (hq u8 _ f)) ?_;rintro _ w2 ⟨rfl,hE⟩;have f:=btr f hE;refine Zt aE fun a b=>?_
  refine Xf b rfl (fun c=>?_) (fun c=>?_)
  ·have a8:=c
   have aA:l.any q=true:=X6m a6 c
   refine Zs b fun _ aF=>?_;refine Zm rfl<|Za rfl<|Zt aF fun a b=>?_;refine Q6<|Xx<|X8<|X8 ?_;refine Xx<|X8<|X6 b (Xs b rfl rfl) ?_;exact ⟨_,rfl,by rw [aA];simp,f⟩
  have a8:=c
  have aN:(!q u8)=true:=by revert c;cases q u8<;>simp
  refine Q7<|Xb<|aM _ _<|Zr b ?_;refine Ze (Xr rfl rfl (by omega) (by omega))<|Zm rfl ?_;refine Zn fun a b=>?_;refine Xe ?_;exact ⟨k+1,⟨b.sb,(by omega),(X5b g a6 aN),f⟩,(by omega)⟩
 have aC:=d;have d:=Q1 d;refine Q9<|Xl<|Xl<|X01 ?_;refine aI _ _<|Zs b fun _ aG=>?_;refine Za rfl<|Zt aG fun a b=>?_
 refine Q6 (X6 b (Xs b rfl rfl) ?_)
 have aA:l.any q=false:=X5q (X5u g (by omega))
 exact ⟨_,rfl,by rw [aA];rfl,f⟩
theorem Xv9(b:World)(Al:Option Addr)(cl:Nat)(l:List Int)(a6:Rd b b.heap.size 3 encI Al l)(kq:FuncId)(pq:List Value)(Fq:FuncF Tryz.prog kq)(q:Int->Bool)(hq:∀ x w,Below b.heap.size b w->Ret Tryz.prog kq ([vi x]++pq) w (fun v w'=>v=.bool (q x)/\Below w.heap.size w w'))(a7:l.length<=2305843009213693951) : Ret Tryz.prog 261 [.slice Al l.length cl,.func (.func kq) #[] pq.toArray] b (fun v w=>v=.bool (l.any q)/\Below b.heap.size b w):=by
 refine enter Tryz.func261 rfl 9 rfl rfl ?_;intro a hf
 have hW:=bz b
 refine Zs hf fun _ a8=>?_;refine Za rfl<|Zx a8 fun a hf _ aA=>?_;refine Zm rfl<|Zm rfl<|Zf (Vc (Xv7 _ Al cl l (a6.bx hW).top kq pq Fq q (fun x w' hE'=>hq x w' (hW.trans (hE'.mono hW.size))) a7) Xfd) ?_;rintro _ w1 ⟨ix,rfl,aB,hE⟩;have hW:=btr hW hE;refine Ze (X4q rfl rfl)<|Za rfl<|Zt aA fun a hf=>?_
 refine Q6 (X6 hf (Xs hf rfl rfl) ?_)
 exact ⟨by rw [<- aB],hW⟩
section
end
section
end
section
end
section
end
section
end
theorem one_mul{a b:Int}(ha:-1<=a/\a<=1)(hb:-1<=b/\b<=1) : -1<=a*b/\a*b<=1:=by
 have:a = -1∨a=0∨a=1:=by omega
 rcases this with rfl|rfl|rfl<;>omega
theorem w4:∀ p q r s:Int,(-1<=p/\p<=1)->(-1<=q/\q<=1)->(-1<=r/\r<=1)->(-1<=s/\s<=1)->(-4<=wr (wr (wr (wr p-wr q)-wr r)-wr s)/\wr (wr (wr (wr p-wr q)-wr r)-wr s)<=4)/\(-4<=wr (wr (wr (wr p+wr q)-wr r)-wr s)/\wr (wr (wr (wr p+wr q)-wr r)-wr s)<=4)/\(-4<=wr (wr (wr (wr p+wr q)+wr r)-wr s)/\wr (wr (wr (wr p+wr q)+wr r)-wr s)<=4)/\(-4<=wr (wr (wr (wr p+wr q)+wr r)+wr s)/\wr (wr (wr (wr p+wr q)+wr r)+wr s)<=4):=fun p q r s hp hq hr hs=>by
 have a1:wr p=p:=X27 (by omega) (by omega)
 have a2:wr q=q:=X27 (by omega) (by omega)
 have a3:wr r=r:=X27 (by omega) (by omega)
 have a4:wr s=s:=X27 (by omega) (by omega)
 have b1:wr (p-q)=p-q:=X27 (by omega) (by omega)
 have b2:wr (p+q)=p+q:=X27 (by omega) (by omega)
 have c1:wr (p-q-r)=p-q-r:=X27 (by omega) (by omega)
 have c2:wr (p+q-r)=p+q-r:=X27 (by omega) (by omega)
 have c3:wr (p+q+r)=p+q+r:=X27 (by omega) (by omega)
 have d1:wr (p-q-r-s)=p-q-r-s:=X27 (by omega) (by omega)
 have d2:wr (p+q-r-s)=p+q-r-s:=X27 (by omega) (by omega)
 have d3:wr (p+q+r-s)=p+q+r-s:=X27 (by omega) (by omega)
 have d4:wr (p+q+r+s)=p+q+r+s:=X27 (by omega) (by omega)
 rw [a1,a2,a3,a4,b1,b2,c1,c2,c3,d1,d2,d3,d4]
 refine ⟨⟨?_,?_⟩,⟨?_,?_⟩,⟨?_,?_⟩,?_,?_⟩<;>omega
theorem Xjv{α:Type}{l:List α}{i:Nat}(d:α)(h:i<l.length) : l[i]? = some (l.getD i d):=by grind
def cvt(g:Gt)(x:Int) : Int:=if g.k=12 then 0 else if x=0 then -1 else x
def conv:List Gt->List Int->List Int
 | g::gs,x::xs=>cvt g x::conv gs xs
 | _,_=>[]
def encB(b:Bool) : List Value:=[.bool b]
theorem X1u:∀ x,(encB x).length=1:=fun _=>rfl
def i64(x:Int) : Prop:=-9223372036854775808<=x/\x<=9223372036854775807
section
variable (E : Int -> Int -> Bool) (N : List Int -> Gt -> Bool) (R : List Bool -> Int -> Bool) (gs : List Gt)
end
theorem z_4:ZeroT Tryz.prog 4 (.bool false):=X22 (by kernel_rfl)
section
variable {P : Program} {a : Act} {w : World} {n : Nat} {e : Env} {ty : TypeId} {pos : String} {af : Array Edge} {g : Option (Nat × Bool)} {d : Option Tmp}
theorem Xny{x y:Operand}{i j:Int}{ts:Array TypeId}(hf:Fr a n e)(hx:ev e x=some (.int .i64 i))(hy:ev e y=some (.int .i64 j)) : Ev P ⟨d,.call ⟨.builtin .min,#[x,y],ts⟩,ty,pos,af,g⟩ a w (.int .i64 (min i j)):=fun w' _=>by
 simp [execOp,resolve,invoke,builtin,Builtin.min_,Builtin.min2,hf.ev hx,hf.ev hy,Int.min_def]
 split<;>simp<;>omega
theorem Xpn{x y:Operand}{i j:Int}{ts:Array TypeId}(hx:ev e x=some (.int .i64 i))(hy:ev e y=some (.int .i64 j)) : EvW P ⟨d,.call ⟨.builtin .min,#[x,y],ts⟩,ty,pos,af,g⟩ n e w (.int .i64 (min i j)):=fun a hf=>Xny hf hx hy
end
theorem Xuy(w0:World)(A:Option Addr)(c:Nat)(l:List Int)(hr:Rd w0 w0.heap.size 3 encI A l)(hln:l.length<=1000000000) :
  Ret Tryz.prog 264 [.slice A l.length c] w0 (fun v w=>∃ A' c',v=.slice A' l.length c'/\Own w w0.heap.size 3 1 encI A' c' l/\Below w0.heap.size w0 w):=by
 by_cases h0:l=[]
 ·subst h0
  cases A with
  | none=>
   refine Calls.mono (Tryz.slices_Clone_int_nil 0 c w0) fun e w ⟨e1,e2⟩=>⟨_,e1,none,0,rfl,?_⟩
   subst e2
   exact ⟨Own.nil _ _ _ _ _,Below.refl _ _⟩
  | some p=>
   refine Calls.mono (Tryz.slices_Clone_int_zero p c w0) fun e w ⟨v,e1,e2,e3,e4⟩=>⟨_,e1,?_⟩
   rcases e2.2 with ⟨h1,_⟩|⟨g,cap,cur,h1,h2⟩
   ·exact absurd h1 e3
   ·exact ⟨_,_,h1,by rw [h1] at e2;exact e2,e4⟩
 ·obtain ⟨b,off,cs,fz,h1,h2,h3,h4⟩:=hr h0
  subst h1
  refine Calls.mono (Tryz.slices_Clone_int b off l.length c l w0 (Qb _) (by omega) fun j hj=>?_) fun e w ⟨v,e1,e2,e3,e4⟩=>⟨_,e1,?_⟩
  ·have h5:=h4 j (.int .i64 (l.getD j 0)) (by rw [X46,List.getElem?_map,Xjv 0 hj];rfl)
   simpa [World.cell?,h3] using h5
  ·rw [List.take_length,<- X46] at e2
   rcases e2.2 with ⟨h1,_⟩|⟨g,cap,cur,h1,h2⟩
   ·exact absurd h1 e3
   ·exact ⟨_,_,h1,by rw [h1] at e2;exact e2,e4⟩
end Go.Proofs.YtipiejccbmifnaaGreatDoor
namespace Go.Proofs.YtipiejccbmifnaaGreatDoor
def ltK(key:Int->Int)(i k:Int) : Prop:=key i<key k∨(key i=key k/\i<k)
theorem ltK.trans{key:Int->Int}{i j k:Int}(h:ltK key i j)(h2:ltK key j k) : ltK key i k:=by unfold ltK at *;omega
instance (key:Int->Int) (i k:Int) : Decidable (ltK key i k):=by unfold ltK;infer_instance
end Go.Proofs.YtipiejccbmifnaaGreatDoor
namespace Go.Proofs.YtipiejccbmifnaaGreatDoor
open Go.RowKit
section
end
section
end
section
end
theorem Xv6(d:World)(Al:Option Addr)(cl:Nat)(l:List Int)(e:Rd d d.heap.size 3 encI Al l)(aE:l.length<=1000000000) : Ret Tryz.prog 255 [.slice Al l.length cl] d (fun v w=>∃ A c,v=.slice A l.length c/\Own w d.heap.size 3 1 encI A c l/\Below d.heap.size d w):=by
 refine enter Tryz.func255 rfl 6 rfl rfl ?_;intro a hf
 have b:=bz d
 refine Zs hf fun _ aB=>?_;refine Za rfl<|Zx aB fun a hf _ aC=>?_;refine Zf (Xj (k:=0) (vs:=[]) (zs:=[]) rfl Xk X1f rfl rfl) ?_;rintro _ w1 ⟨b5,rfl,a6,hE,a7⟩;have f:=Q0 b.size a6;have aA:=(e.bx b).away a6;have b:=btr b hE;refine Zm rfl<|Zf (X0k (enc:=encI) (l:=([] : List Int)) (l2:=(l)) (B0:=d.heap.size) rfl rfl Xk X1f Xh X1z (Own.empty a7 f) (e.bx b) (by simp only [maxLen,List.length_nil];omega) (by simp only [List.length_nil];omega) b.size) ?_;rintro _ w2 ⟨A7,c7,rfl,a8,hg,aD⟩
 have g:Own _ d.heap.size 3 1 encI _ _ ([] : List Int):=(Own.empty a7 f)
 clear aD;have b:=Below.app b g hg (Qb _) b.size;clear g hg
 simp only [List.nil_append] at a8
 refine Za rfl<|Zt aC fun a hf=>?_
 refine Q6 (X6 hf (Xs hf rfl rfl) ?_)
 exact ⟨A7,c7,rfl,a8,b⟩
end Go.Proofs.YtipiejccbmifnaaGreatDoor
namespace Go.Proofs.YtipiejccbmifnaaGreatDoor
open Go.RowKit Go.ChangeShapes Go.WideShapes Go.Deep Go.Joins
theorem Xjx{α:Type}{n:Nat}{Q:Nat->α->Prop}(h:∀ i,i<n->∃ g,Q i g) : ∃ l:List α,l.length=n/\∀ i g,l[i]? = some g->Q i g:=by
 induction n with
 | zero=>exact ⟨[],rfl,fun i g h=>by simp at h⟩
 | succ n ih=>
  obtain ⟨l,h1,h2⟩:=ih fun i hi=>h i (by omega)
  obtain ⟨g,hg⟩:=h n (by omega)
  refine ⟨l++[g],by simp [h1],fun i g' hi=>?_⟩
  rcases W4 i n with hin|hin
  ·rw [List.getElem?_append_left (by omega)] at hi
   exact h2 i g' hi
  ·rw [W5 (by omega)] at hi
   have:i-l.length=0:=by
    rcases Nat.eq_zero_or_pos (i-l.length) with h|h
    ·exact h
    ·rw [List.getElem?_eq_none (by simp;omega)] at hi;cases hi
   rw [this] at hi
   injection hi with hi
   subst hi
   have:i=n:=by omega
   subst this
   exact hg
theorem Xa6{α:Type}{w:World}{enc:α->List Value}{sz:Nat}(hsz:∀ x,(enc x).length=sz)(h0:0<sz){p:Addr}{l:List α}
  (h:∀ i g,l[i]? = some g->∀ j v,(enc g)[j]? = some v->w.cell? (p.add (i*sz+j))=some v) : ∃ E,Rd w w.heap.size E enc (some p) l:=by
 by_cases hl:l=[]
 ·subst hl;exact ⟨0,Rd.nil _ _ _ _ _⟩
 ·obtain ⟨g0,l',rfl⟩:=List.exists_cons_of_ne_nil hl
  obtain ⟨v0,hv0⟩ : ∃ v,(enc g0)[0]? = some v:=⟨_,Qc (by rw [hsz];exact h0)⟩
  have hc:=h 0 g0 rfl 0 v0 hv0;obtain ⟨b,off,spot⟩:=p;have hb:=Xdm hc
  rw [X4r] at hb
  have hsp:spot=none:=by
   cases spot with
   | none=>rfl
   | some s=>simp [World.cell?,Addr.add] at hc;split at hc<;>simp_all
  subst hsp
  have hobj:∃ cs E fz,w.heap[b]? = some (.cells cs E fz):=by
   rw [X1a] at hc
   simp only [World.cell?] at hc
   split at hc
   ·rename_i c E fz hh;exact ⟨c,E,fz,hh⟩
   ·cases hc
  obtain ⟨cs,E,fz,hh⟩:=hobj
  refine ⟨E,fun _=>⟨b,off,cs,fz,rfl,hb,hh,fun j v hj=>?_⟩⟩
  have hjl:j<((g0::l').flatMap enc).length:=(Qg.1 hj).1
  rw [Xo hsz] at hjl
  obtain ⟨x,hx,h1⟩:=X3u hsz hjl
  rw [h1] at hj
  have:=h _ _ hx _ _ hj
  rw [X1a,show j/sz*sz+j % sz=j from by rw [Wi];exact Nat.div_add_mod j sz] at this
  simpa [World.cell?,hh] using this
section
variable {H : Type} {enc : TypeId × Value -> H} {w : World} {base fuel : Nat} {spare : Nat -> Bool} {held : Bool}
end
section
end
section
end
end Go.Proofs.YtipiejccbmifnaaGreatDoor
namespace Go.Proofs.YtipiejccbmifnaaGreatDoor
open Go.ChangeShapes Go.WideShapes Go.ChangeAt Go.RowKit Go.Deep Go.Joins
set_option linter.unusedVariables false
theorem own:ownKnob Tryz.prog.godebug=none:=by kernel_rfl
theorem X92:laidOutB Tryz.prog=true:=by kernel_rfl
section
variable {H : Type} {enc : TypeId × Value -> H} {P : Program}
theorem Xba{f:Func}{s:ChangeSpec}{fresh handsOn:Bool}{W W':World}{args:Array Value}{v:Value}{ds gs:List (DataW H)}{before pa pv:List MemPlace}
  (hW:DataW.Whole enc P f.params.toList s.vars false W args.toList ds gs before)
  (hres:∀ (b:Nat) (sp:Nat->Bool) (hd:Bool),DataW.TrodAll enc P W' b sp hd f.resultTypes.toList (v.resultList f.resultTypes.size) (s.fn H (ds++gs)).results [])
  (hargs:∀ sp:Nat->Bool,(∀ p ∈ before,sp p.block=true)->DataW.TrodAll enc P W' 0 sp true f.params.toList args.toList (s.fn H (ds++gs)).args pa)
  (hvars:∀ sp:Nat->Bool,(∀ p ∈ before,sp p.block=true)->DataW.TrodVars enc P W' sp s.vars (s.fn H (ds++gs)).vars pv)
  (hps:before=pa++pv) (hb:Below W.heap.size W W') :
  s.post enc P f false fresh handsOn false W args v W':=by
 have hlt:∀ p ∈ before,p.block<W.heap.size:=fun p hp=>hW.lt p hp
 have hold:∀ p ∈ before,(fun b=>decide (b<W.heap.size)) p.block=true:=fun p hp=>by simpa using hlt p hp
 refine ⟨ds,gs,before,[],pa,pv,hW,hres _ _ _,hargs _ hold,hvars _ hold,World.keptBut_mono (fun p hp=>⟨hp,?_⟩) (hb.frame (· ∈ before)),fun h=>by cases h⟩
 rw [hps,Qu] at hp
 exact Or.inr hp
end
end Go.Proofs.YtipiejccbmifnaaGreatDoor
namespace Go.Proofs.YtipiejccbmifnaaGreatDoor
open Go.RowKit
section
end
section
end
section
end
end Go.Proofs.YtipiejccbmifnaaGreatDoor
namespace Go.Proofs.YtipiejccbmifnaaGreatDoor
instance:_root_.Add Rg:=⟨fun x y=>⟨x.a+y.a,x.b+y.b,x.c+y.c,x.d+y.d⟩⟩
instance:_root_.Mul Rg:=⟨fun x y=>⟨x.a*y.a-x.b*y.d-x.c*y.c-x.d*y.b,x.a*y.b+x.b*y.a-x.c*y.d-x.d*y.c,x.a*y.c+x.b*y.b+x.c*y.a-x.d*y.d,x.a*y.d+x.b*y.c+x.c*y.b+x.d*y.a⟩⟩
instance:_root_.Neg Rg:=⟨fun x=>⟨-x.a,-x.b,-x.c,-x.d⟩⟩
instance:_root_.Sub Rg:=⟨fun x y=>⟨x.a-y.a,x.b-y.b,x.c-y.c,x.d-y.d⟩⟩
instance:NatCast Rg:=⟨fun n=>⟨n,0,0,0⟩⟩
instance:IntCast Rg:=⟨fun n=>⟨n,0,0,0⟩⟩
instance (n:Nat) : OfNat Rg n:=⟨⟨n,0,0,0⟩⟩
def rgPow(x:Rg) : Nat->Rg
 | 0=>1
 | n+1=>rgPow x n*x
instance:HPow Rg Nat Rg:=⟨rgPow⟩
instance:SMul Nat Rg:=⟨fun n x=>(n:Rg)*x⟩
instance:SMul Int Rg:=⟨fun n x=>(n:Rg)*x⟩
def s2:Rg:=⟨0,1,0,-1⟩
def om:Rg:=⟨0,1,0,0⟩
def V(x:Dy)(m:Nat)(z:Rg) : Prop:=0<=x.exp/\∃ k:Nat,x.exp+k=m/\z=s2^k*x.num
theorem V.fun{x:Dy}{m:Nat}{z z':Rg}(h:V x m z)(h':V x m z') : z=z':=by grind [V]
abbrev St:=(Nat->Bool)->Rg
def flipB(β:Nat->Bool)(q:Nat) : Nat->Bool:=fun p=>if p=q then !β p else β p
def u1(k:Int)(x y:Bool) : Rg:=
 if k=1 then (if x&&y then -1 else 1) else if k=2 then (if x=y then 0 else 1) else if k=3 then (if x=y then 0 else if y then om^6 else om^2)
 else if x=y then (if x then om^(turnOf k).toNat else 1) else 0
def act(g:Gt)(v:St) : St:=fun β=>
 if g.k=12 then om*v β
 else if g.k=9 then v (if β g.a.toNat then flipB β g.b.toNat else β)
 else if g.k=10 then (if β g.a.toNat&&β g.b.toNat then om^4 else 1)*v β
 else if g.k=11 then v (if β g.a.toNat=β g.b.toNat then β else flipB (flipB β g.a.toNat) g.b.toNat)
 else u1 g.k (β g.a.toNat) (β g.a.toNat)*v β+u1 g.k (β g.a.toNat) (!β g.a.toNat)*v (flipB β g.a.toNat)
def hN(g:Gt) : Nat:=if g.k=1 then 1 else 0
def run:List Gt->St->St
 | [],v=>v
 | g::l,v=>run l (act g v)
def hs:List Gt->Nat
 | []=>0
 | g::l=>hN g+hs l
def pt(N:Nat)(i:Nat) : Nat->Bool:=fun q=>decide (q<N)&&(bitT (N-1-q) i==1)
def put(N j:Nat)(β:Nat->Bool) : Nat->Bool:=fun q=>if q<N then pt N j q else β q
def inj(us:List Int)(β γ:Nat->Bool) : Nat->Bool:=fun p=>if (p:Int) ∈ us then γ (lastN us p us.length).toNat else β p
end Go.Proofs.YtipiejccbmifnaaGreatDoor
namespace Go.Proofs.YtipiejccbmifnaaGreatDoor
open Go.RowKit
def encU(i:Int) : List Value:=[.int .u8 i]
theorem Xab:∀ x,(encU x).length=1:=fun _=>rfl
abbrev wu(i:Int) : Int:=IntKind.u64.wrap i
theorem X5o(i:Int) : 0<=bits .and .u64 i 255/\bits .and .u64 i 255<=255:=by
 have key:∀ b:BitVec 64,0<=IntKind.u64.wrap ((b &&& BitVec.ofInt 64 255).toNat:Int)/\IntKind.u64.wrap ((b &&& BitVec.ofInt 64 255).toNat:Int)<=255:=fun b=>by
  have h1:(BitVec.ofInt 64 255).toNat=255:=by decide
  have h:(b &&& BitVec.ofInt 64 255).toNat<=255:=by
   rw [BitVec.toNat_and,h1]
   exact Nat.and_le_right
  have h2:IntKind.u64.wrap ((b &&& BitVec.ofInt 64 255).toNat:Int)=((b &&& BitVec.ofInt 64 255).toNat:Int):=by
   generalize (b &&& BitVec.ofInt 64 255).toNat=m at h
   simp only [IntKind.wrap,IntKind.bits,IntKind.signed]
   simp
   omega
  rw [h2]
  omega
 exact key _
theorem Xcw(i:Int) : 0<=bits .and .u64 i 255/\bits .and .u64 i 255<=9223372036854775807:=⟨(X5o i).1,Int.le_trans (X5o i).2 (by decide)⟩
theorem pk{x n:Int}(hx:0<=x)(hn:1<n) : 0<=x.tmod n/\(x.tmod n=0∨x.tmod n<n):=⟨Int.tmod_nonneg _ hx,.inr (Int.tmod_lt_of_pos _ (by omega))⟩
theorem X6n{l:List Int}{k:Nat}(h:k<l.length) : l[k]? = some (l.getD k 0):=by grind
theorem X7o{l:List Int}{k:Nat}(h:k<l.length) : l.getD k 0 ∈ l:=Qe (X6n h)
section
variable {P : Program} {a : Act} {w : World} {n : Nat} {e : Env} {ty : TypeId} {pos : String} {af : Array Edge} {g : Option (Nat × Bool)} {d : Option Tmp}
variable {s t t' : TypeId} {x y : Operand} {i j : Int}
theorem Xkw(hf:Fr a n e)(hx:ev e x=some (.int .u64 i))(hy:ev e y=some (.int .u64 j)) : Ev P ⟨d,.binOp .mul t x y t',ty,pos,af,g⟩ a w (.int .u64 (wu (i*j))):=fun w' _=>by
 simp [execOp,hf.ev hx,hf.ev hy,eqGuard,binOp,Op.intArith]
theorem Xmw(hx:ev e x=some (.int .u64 i))(hy:ev e y=some (.int .u64 j)) : EvW P ⟨d,.binOp .mul t x y t',ty,pos,af,g⟩ n e w (.int .u64 (wu (i*j))):=fun a hf=>Xkw hf hx hy
theorem Xka(hf:Fr a n e)(hx:ev e x=some (.int .u64 i))(hy:ev e y=some (.int .u64 j)) : Ev P ⟨d,.binOp .add t x y t',ty,pos,af,g⟩ a w (.int .u64 (wu (i+j))):=fun w' _=>by
 simp [execOp,hf.ev hx,hf.ev hy,eqGuard,binOp,Op.intArith]
theorem Xc2(hx:ev e x=some (.int .u64 i))(hy:ev e y=some (.int .u64 j)) : EvW P ⟨d,.binOp .add t x y t',ty,pos,af,g⟩ n e w (.int .u64 (wu (i+j))):=fun a hf=>Xka hf hx hy
theorem Xj2(hf:Fr a n e)(hx:ev e x=some (.int .u64 i))(hy:ev e y=some (.int .u64 j)) : Ev P ⟨d,.binOp .and t x y t',ty,pos,af,g⟩ a w (.int .u64 (bits .and .u64 i j)):=fun w' _=>by
 simp [execOp,hf.ev hx,hf.ev hy,eqGuard,binOp,Op.intBits,bits]
theorem Xmd(hx:ev e x=some (.int .u64 i))(hy:ev e y=some (.int .u64 j)) : EvW P ⟨d,.binOp .and t x y t',ty,pos,af,g⟩ n e w (.int .u64 (bits .and .u64 i j)):=fun a hf=>Xj2 hf hx hy
theorem Xix{m:Nat}(hf:Fr a n e)(hx:ev e x=some (.int .u64 i))(hy:ev e y=some (.int .u64 j))(hj:j=(m:Int))(hm:m<=64) : Ev P ⟨d,.binOp .shr t x y t',ty,pos,af,g⟩ a w (.int .u64 (i/2^m)):=fun w' _=>by
 subst hj
 have hm':min m 64=m:=by omega
 simp [execOp,hf.ev hx,hf.ev hy,eqGuard,binOp,Op.shift,IntKind.bits,hm']
theorem Xlj{m:Nat}(hx:ev e x=some (.int .u64 i))(hy:ev e y=some (.int .u64 j))(hj:j=(m:Int))(hm:m<=64) : EvW P ⟨d,.binOp .shr t x y t',ty,pos,af,g⟩ n e w (.int .u64 (i/2^m)):=fun a hf=>Xix hf hx hy hj hm
theorem Xnk(hs:P.underlying s=some (.int .i64))(ht:P.underlying t=some (.int .u64))(hf:Fr a n e)(hx:ev e x=some (.int .i64 i)) : Ev P ⟨d,.convert s t x,ty,pos,af,g⟩ a w (.int .u64 (wu i)):=fun w' _=>by
 simp [execOp,hf.ev hx,convert,X0c hs,X0c ht,Conv.intToInt]
theorem Xte(hs:P.underlying s=some (.int .i64))(ht:P.underlying t=some (.int .u64))(hx:ev e x=some (.int .i64 i)) : EvW P ⟨d,.convert s t x,ty,pos,af,g⟩ n e w (.int .u64 (wu i)):=fun a hf=>Xnk hs ht hf hx
theorem Xo5(hs:P.underlying s=some (.int .u64))(ht:P.underlying t=some (.int .i64))(hf:Fr a n e)(hx:ev e x=some (.int .u64 i))(h:0<=i/\i<=9223372036854775807) : Ev P ⟨d,.convert s t x,ty,pos,af,g⟩ a w (.int .i64 i):=fun w' _=>by
 have h2:IntKind.i64.wrap i=i:=IntWalk.i64_in _ ⟨by omega,by omega⟩
 simp [execOp,hf.ev hx,convert,X0c hs,X0c ht,Conv.intToInt,h2]
theorem Xtl(hs:P.underlying s=some (.int .u64))(ht:P.underlying t=some (.int .i64))(hx:ev e x=some (.int .u64 i))(h:0<=i/\i<=9223372036854775807) : EvW P ⟨d,.convert s t x,ty,pos,af,g⟩ n e w (.int .i64 i):=fun a hf=>Xo5 hs ht hf hx h
theorem Xoo(hs:P.underlying s=some (.int .u8))(ht:P.underlying t=some (.int .i64))(hf:Fr a n e)(hx:ev e x=some (.int .u8 i))(h:0<=i/\i<=255) : Ev P ⟨d,.convert s t x,ty,pos,af,g⟩ a w (.int .i64 i):=fun w' _=>by
 have h2:IntKind.i64.wrap i=i:=IntWalk.i64_in _ ⟨by omega,by omega⟩
 simp [execOp,hf.ev hx,convert,X0c hs,X0c ht,Conv.intToInt,h2]
theorem Xuc(hs:P.underlying s=some (.int .u8))(ht:P.underlying t=some (.int .i64))(hx:ev e x=some (.int .u8 i))(h:0<=i/\i<=255) : EvW P ⟨d,.convert s t x,ty,pos,af,g⟩ n e w (.int .i64 i):=fun a hf=>Xoo hs ht hf hx h
end
theorem Xmr(w0:World)(bV:Nat){aQ:TypeId}(j:Option Addr)(o:Nat)(d:List Int)(e:Rd w0 w0.heap.size aQ encU j d)(aA:∀ x ∈ d,0<=x/\x<=255)(aV:AwayR d j bV)(t:Nat)(sd:Int)(b:Blk w0 bV 64 [.slice j d.length o,vi (t:Int),.int .u64 sd])(ht:t+1<=100000000) : Ret Tryz.prog 73 [(pZ9 bV)] w0 (fun v w=>∃ (x:Int) (t1:Nat) (s1:Int),v=vi x/\(0<=x/\x<=255)/\(t<=t1/\t1<=t+1)/\Kept bV w0.heap.size w0 w/\Blk w bV 64 [.slice j d.length o,vi (t1:Int),.int .u64 s1]):=by
 have aU:=b.lt;refine enter Tryz.func73 rfl 62 rfl rfl ?_;intro a c
 have i:Kept bV w0.heap.size w0 w0:=Kept.refl _ _ _
 refine Zs c fun _ aR=>?_;refine Za rfl<|Zx aR fun a c _ aS=>?_;refine Za rfl<|ZX aS fun a c _ aB=>?_;refine Q5 fun _ aT=>?_;refine Xz none (fun _=>false) mixed ?_;intro w1 p;have b:=b.bw p;have e:=e.bw p;have i:=ktr i p;refine Yb c<|Yo 0 rfl (fun _=>X3 rfl)<|Yo 1 rfl (fun _=>X03 rfl)<|Yo 2 rfl (fun _=>Vd rfl X21 1)<|Ye 3 rfl (X0 rfl Xa (b.at 1))<|Yo 4 rfl (fun _=>X3 rfl)<|Yo 5 rfl (fun _=>X03 rfl)<|Yo 6 rfl (fun _=>Vd rfl X4a 0)<|Ye 7 rfl (X0 rfl X68 (b.at 0))<|Yo 8 rfl (fun _=>X07 rfl X3m)<|Yo 9 rfl (fun _=>X0i rfl rfl) ?_;refine Yd fun a c=>?_;refine aT _ _ ?_
 refine Xf c rfl (fun n=>?_) (fun n=>?_)
 ·have aC:=n;have n:=Q2 n
  obtain ⟨u7,a6⟩:=X4 (l:=d) (k:=t) (by omega)
  have aW:=aA _ (Qe a6);refine Xz none (fun _=>false) mixed ?_;intro w2 p;have b:=b.bw p;have e:=e.bw p;have i:=ktr i p;refine Yb c<|Yo 0 rfl (fun _=>X3 rfl)<|Yo 1 rfl (fun _=>X03 rfl)<|Yo 2 rfl (fun _=>Vd rfl X4a 0)<|Ye 3 rfl (X0 rfl X68 (b.at 0))<|Yo 4 rfl (fun _=>X3 rfl)<|Yo 5 rfl (fun _=>X03 rfl)<|Yo 6 rfl (fun _=>Vd rfl X21 1)<|Ye 7 rfl (X0 rfl Xa (b.at 1))<|Yi (k:=t) (u:=u7) (enc:=encU) (l:=d) 8 rfl tv0 rfl rfl X3m Xus Xab e a6 rfl ?_;intro p9 aD;refine Ye 9 rfl (X0 rfl Xut aD)<|Yo 10 rfl (fun _=>Xuc Tryz.underlying5 Tryz.underlying3 rfl (aA _ (Qe a6)))<|Yo 11 rfl (fun _=>X0h rfl) ?_;refine Yd fun a c=>?_;refine aB _ _<|Zs c fun _ aE=>?_;refine Zm rfl<|Ze (X03 rfl)<|Ze (Vd rfl X21 1)<|Ze (X0 rfl Xa (b.at 1))<|Ze (Xr rfl rfl (by omega) (by omega))<|Ze (X03 rfl)<|Ze (Vd rfl X21 1)<|Zo (X17 (vs:=[vi ((t:Int)+1)]) (l':=[.slice j d.length o,vi ((t:Int)+1),.int .u64 sd]) rfl rfl X0a b rfl rfl rfl rfl rfl) ?_;rintro _ w3 ⟨ho,hb⟩;have q:=b;have i:=i.self ho;have b:=hb;refine Zx aE fun a c _ aF=>?_;refine Zm rfl<|Zm rfl<|Ze (X03 rfl)<|Ze (Vd rfl X2t 2)<|Ze (X0 rfl X8d (b.at 2))<|Ze (Xmw rfl rfl)<|Zm rfl<|Ze (Xte Tryz.underlying3 Tryz.underlying62 rfl)<|Ze (Xc2 rfl rfl)<|Ze (Xc2 rfl rfl) ?_;refine Ze (X03 rfl)<|Ze (Vd rfl X2t 2)<|Zo (X17 (vs:=[.int .u64 (wu ((wu ((wu (sd*6364136223846793005))+(wu u7)))+1442695040888963407))]) (l':=[.slice j d.length o,vi ((t:Int)+1),.int .u64 (wu ((wu ((wu (sd*6364136223846793005))+(wu u7)))+1442695040888963407))]) rfl rfl Xgv b rfl rfl rfl rfl rfl) ?_;rintro _ w4 ⟨ho,hb⟩
  have q:=b;have i:=i.self ho;have b:=hb;refine ZX aF fun a c _ aG=>?_;refine Q5 fun _ aH=>?_;refine Xz none (fun _=>false) mixed ?_;intro w5 p;have b:=b.bw p;have i:=ktr i p;refine Yb c<|Yo 0 rfl (fun _=>X3 rfl)<|Yo 1 rfl (fun _=>X03 rfl)<|Yo 2 rfl (fun _=>Vd rfl X21 1)<|Ye 3 rfl (X0 rfl Xa (b.at 1))<|Yo 4 rfl (fun _=>X3 rfl)<|Yo 5 rfl (fun _=>X03 rfl)<|Yo 6 rfl (fun _=>Vd rfl X4a 0)<|Ye 7 rfl (X0 rfl X68 (b.at 0))<|Yo 8 rfl (fun _=>X07 rfl X3m)<|Yo 9 rfl (fun _=>Xax rfl rfl) ?_;refine Yd fun a c=>?_;refine aH _ _ ?_
  refine Xf c rfl (fun f=>?_) (fun f=>?_)
  ·have a7:=f;have f:=Q2 f;refine Zs c fun _ aI=>?_;refine Zm rfl<|Za rfl<|Zt aI fun a c=>?_;refine Q6<|X8<|X6 c (Xs c rfl rfl) ?_;exact ⟨_,t+1,_,rfl,(by first|omega|exact X5o _),⟨by omega,by omega⟩,i,b⟩
  have a7:=f;have f:=Q1 f;refine Q7<|aG _ _<|Zs c fun _ aJ=>?_;refine Zm rfl<|Ze (X03 rfl)<|Ze (Vd rfl X2t 2)<|Ze (X0 rfl X8d (b.at 2))<|Ze (Xlj (m:=40) rfl rfl rfl (by decide))<|Ze (Xmd rfl rfl)<|Ze (Xtl Tryz.underlying62 Tryz.underlying3 rfl (Xcw _))<|Za rfl<|Zt aJ fun a c=>?_
  refine Q6 (X6 c (Xs c rfl rfl) ?_)
  exact ⟨_,t+1,_,rfl,(by first|omega|exact X5o _),⟨by omega,by omega⟩,i,b⟩
 have aC:=n;have n:=Q1 n;refine Q7<|aB _ _<|Zs c fun _ aK=>?_;refine Zm rfl<|Ze (X03 rfl)<|Ze (Vd rfl X21 1)<|Ze (X0 rfl Xa (b.at 1))<|Ze (Xr rfl rfl (by omega) (by omega))<|Ze (X03 rfl)<|Ze (Vd rfl X21 1)<|Zo (X17 (vs:=[vi ((t:Int)+1)]) (l':=[.slice j d.length o,vi ((t:Int)+1),.int .u64 sd]) rfl rfl X0a b rfl rfl rfl rfl rfl) ?_;rintro _ w6 ⟨ho,hb⟩;have q:=b;have i:=i.self ho;have b:=hb;refine Zx aK fun a c _ aL=>?_;refine Zm rfl<|Zm rfl<|Ze (X03 rfl)<|Ze (Vd rfl X2t 2)<|Ze (X0 rfl X8d (b.at 2))<|Ze (Xmw rfl rfl)<|Zm rfl<|Ze (Xte Tryz.underlying3 Tryz.underlying62 rfl)<|Ze (Xc2 rfl rfl)<|Ze (Xc2 rfl rfl) ?_;refine Ze (X03 rfl)<|Ze (Vd rfl X2t 2)<|Zo (X17 (vs:=[.int .u64 (wu ((wu ((wu (sd*6364136223846793005))+(wu 0)))+1442695040888963407))]) (l':=[.slice j d.length o,vi ((t:Int)+1),.int .u64 (wu ((wu ((wu (sd*6364136223846793005))+(wu 0)))+1442695040888963407))]) rfl rfl Xgv b rfl rfl rfl rfl rfl) ?_;rintro _ w7 ⟨ho,hb⟩;have q:=b;have i:=i.self ho;have b:=hb;refine ZX aL fun a c _ aM=>?_;refine Q5 fun _ aN=>?_;refine Xz none (fun _=>false) mixed ?_;intro w8 p;have b:=b.bw p;have i:=ktr i p;refine Yb c<|Yo 0 rfl (fun _=>X3 rfl)<|Yo 1 rfl (fun _=>X03 rfl)<|Yo 2 rfl (fun _=>Vd rfl X21 1)<|Ye 3 rfl (X0 rfl Xa (b.at 1))<|Yo 4 rfl (fun _=>X3 rfl)<|Yo 5 rfl (fun _=>X03 rfl)<|Yo 6 rfl (fun _=>Vd rfl X4a 0)<|Ye 7 rfl (X0 rfl X68 (b.at 0))<|Yo 8 rfl (fun _=>X07 rfl X3m)<|Yo 9 rfl (fun _=>Xax rfl rfl) ?_;refine Yd fun a c=>?_;refine aN _ _ ?_
 refine Xf c rfl (fun g=>?_) (fun g=>?_)
 ·have a8:=g;have g:=Q2 g;refine Zs c fun _ aO=>?_;refine Zm rfl<|Za rfl<|Zt aO fun a c=>?_;refine Q6<|X8<|X6 c (Xs c rfl rfl) ?_;exact ⟨_,t+1,_,rfl,(by first|omega|exact X5o _),⟨by omega,by omega⟩,i,b⟩
 have a8:=g;have g:=Q1 g;refine Q7<|aM _ _<|Zs c fun _ aP=>?_;refine Zm rfl<|Ze (X03 rfl)<|Ze (Vd rfl X2t 2)<|Ze (X0 rfl X8d (b.at 2))<|Ze (Xlj (m:=40) rfl rfl rfl (by decide))<|Ze (Xmd rfl rfl)<|Ze (Xtl Tryz.underlying62 Tryz.underlying3 rfl (Xcw _))<|Za rfl<|Zt aP fun a c=>?_
 refine Q6 (X6 c (Xs c rfl rfl) ?_)
 exact ⟨_,t+1,_,rfl,(by first|omega|exact X5o _),⟨by omega,by omega⟩,i,b⟩
theorem X12(w0:World)(bV:Nat){aF:TypeId}(i:Option Addr)(o:Nat)(c:List Int)(b:Rd w0 w0.heap.size aF encU i c)(aA:∀ x ∈ c,0<=x/\x<=255)(a6:AwayR c i bV)(t:Nat)(sd:Int)(f:Blk w0 bV 64 [.slice i c.length o,vi (t:Int),.int .u64 sd])(n:Int)(ht:t+2<=100000000) : Ret Tryz.prog 30 [(pZ9 bV),vi n] w0 (fun v w=>∃ (x:Int) (t1:Nat) (s1:Int),v=vi x/\(0<=x/\(x=0∨x<n))/\(t<=t1/\t1<=t+2)/\Kept bV w0.heap.size w0 w/\Blk w bV 64 [.slice i c.length o,vi (t1:Int),.int .u64 s1]):=by
 have aQ:=f.lt;refine enter Tryz.func30 rfl 20 rfl rfl ?_;intro a d
 have j:Kept bV w0.heap.size w0 w0:=Kept.refl _ _ _
 refine Zs d fun _ aG=>?_;refine Za rfl<|ZX aG fun a d _ aH=>?_;refine Zs d fun _ aI=>?_;refine Zm rfl<|Ze (Xax rfl rfl)<|Zt aI fun a d=>?_
 refine Xf d rfl (fun g=>?_) (fun g=>?_)
 ·have aB:=g;have g:=Q2 g
  have a7:n<=1:=g
  refine Zs d fun _ aJ=>?_;refine Za rfl<|Zt aJ fun a d=>?_;refine Q6<|X8<|X6 d (Xs d rfl rfl) ?_;exact ⟨0,t,sd,rfl,⟨by omega,.inl rfl⟩,⟨by omega,by omega⟩,j,f⟩
 have aB:=g;have g:=Q1 g
 have a7:1<n:=by have:=g;omega
 refine Q7<|aH _ _<|Zs d fun _ aK=>?_;refine Zm rfl<|Zf (Vc (Xmr _ bV i o c b.top aA a6 t sd f (by omega)) Xck) ?_;rintro _ w1 ⟨aW,aL,aM,rfl,aR,aS,hK,k⟩;obtain ⟨wm,hO,hm,hE⟩:=hK.mid;clear hm;have m:=f;have b:=b.onlyA hO a6;have j:=j.self hO;have b:=b.bw hE;have j:=ktr j hE
 clear m hE hO hK;have f:=k;clear k;refine Za rfl<|ZX aK fun a d _ aC=>?_;refine Zs d fun _ aN=>?_;refine Zm rfl<|Ze (X2o rfl rfl)<|Zt aN fun a d=>?_
 refine Xf d rfl (fun e=>?_) (fun e=>?_)
 ·have a8:=e;have e:=Q2 e;refine Zr d<|Zm rfl<|Ze (X80 rfl rfl (by omega) (by omega))<|Zm rfl<|Zf (Vc (Xmr _ bV i o c b.top aA a6 aL aM f (by omega)) Xck) ?_;rintro _ w2 ⟨aT,aU,aV,rfl,aO,aP,hK,k⟩;obtain ⟨wm,hO,hm,hE⟩:=hK.mid;clear hm;have m:=f;have j:=j.self hO;have j:=ktr j hE
  clear m hE hO hK;have f:=k;clear k;refine Ze (Xr rfl rfl (by omega) (by omega))<|Za rfl<|Zx aC fun a d _ aD=>?_;refine Zm rfl<|Zm rfl<|Ze (X3q rfl rfl (by simp;omega))<|Za rfl<|Zt aD fun a d=>?_
  refine Q6 (X6 d (Xs d rfl rfl) ?_)
  exact ⟨_,_,_,rfl,pk (by omega) a7,⟨by omega,by omega⟩,j,f⟩
 have a8:=e;have e:=Q1 e;refine Q7<|aC _ _<|Zs d fun _ aE=>?_;refine Zm rfl<|Zm rfl<|Ze (X3q rfl rfl (by simp;omega))<|Za rfl<|Zt aE fun a d=>?_
 refine Q6 (X6 d (Xs d rfl rfl) ?_)
 exact ⟨_,_,_,rfl,pk (by omega) a7,⟨by omega,by omega⟩,j,f⟩
theorem Xde(w0:World)(bV:Nat){aA:TypeId}(c:Option Addr)(a6:Nat)(b:List Int)(d:Rd w0 w0.heap.size aA encU c b)(aB:∀ x ∈ b,0<=x/\x<=255)(aC:AwayR b c bV)(t:Nat)(sd:Int)(e:Blk w0 bV 64 [.slice c b.length a6,vi (t:Int),.int .u64 sd])(n:Int)(ht:t+2<=100000000) : Ret Tryz.prog 27 [(pZ9 bV),vi n] w0 (fun v w=>∃ (x:Bool) (t1:Nat) (s1:Int),v=.bool x/\(True)/\(t<=t1/\t1<=t+2)/\Kept bV w0.heap.size w0 w/\Blk w bV 64 [.slice c b.length a6,vi (t1:Int),.int .u64 s1]):=by
 have aF:=e.lt;refine enter Tryz.func27 rfl 9 rfl rfl ?_;intro a hf
 have hW:Kept bV w0.heap.size w0 w0:=Kept.refl _ _ _
 refine Zs hf fun _ aD=>?_;refine Za rfl<|Zx aD fun a hf _ aE=>?_;refine Zm rfl<|Zm rfl<|Zf (Vc (X12 _ bV c a6 b d.top aB aC t sd e n (by omega)) X0d) ?_;rintro _ w1 ⟨aI,aJ,aK,rfl,aG,aH,hK,a7⟩;obtain ⟨wm,hO,hm,hE⟩:=hK.mid;clear hm;have a8:=e;have hW:=hW.self hO;have hW:=ktr hW hE
 clear a8 hE hO hK;have e:=a7;clear a7;refine Ze (X0f rfl rfl)<|Za rfl<|Zt aE fun a hf=>?_
 refine Q6 (X6 hf (Xs hf rfl rfl) ?_)
 exact ⟨_,_,_,rfl,trivial,⟨by omega,by omega⟩,hW,e⟩
theorem X7k(w0:World)(bV:Nat){aB:TypeId}(d:Option Addr)(a6:Nat)(b:List Int)(e:Rd w0 w0.heap.size aB encU d b)(aC:∀ x ∈ b,0<=x/\x<=255)(aD:AwayR b d bV)(t:Nat)(sd:Int)(f:Blk w0 bV 64 [.slice d b.length a6,vi (t:Int),.int .u64 sd])(Al:Option Addr)(cl:Nat)(l:List Int)(c:Rd w0 w0.heap.size 3 encI Al l)(aJ:0<l.length)(aK:l.length<=1000)(ht:t+2<=100000000) : Ret Tryz.prog 71 [(pZ9 bV),.slice Al l.length cl] w0 (fun v w=>∃ (x:Int) (t1:Nat) (s1:Int),v=vi x/\(x ∈ l)/\(t<=t1/\t1<=t+2)/\Kept bV w0.heap.size w0 w/\Blk w bV 64 [.slice d b.length a6,vi (t1:Int),.int .u64 s1]):=by
 have aG:=f.lt;refine enter Tryz.func71 rfl 12 rfl rfl ?_;intro a hf
 have hW:Kept bV w0.heap.size w0 w0:=Kept.refl _ _ _
 refine Zs hf fun _ aE=>?_;refine Za rfl<|Zx aE fun a hf _ aF=>?_;refine Zm rfl<|Zm rfl<|Zm rfl<|Ze (X07 rfl Xk)<|Zf (Vc (X12 _ bV d a6 b e.top aC aD t sd f (l.length:Int) (by omega)) X0d) ?_;rintro _ w1 ⟨a7,aL,aM,rfl,aH,aI,hK,a8⟩;obtain ⟨wm,hO,hm,hE⟩:=hK.mid;clear hm;have g:=f;have c:=c.oT hO g rfl;have hW:=hW.self hO;have c:=c.bw hE;have hW:=ktr hW hE
 clear g hE hO hK;have f:=a8;clear a8;refine Zi (k:=a7.toNat) (u:=(l.getD a7.toNat 0)) (enc:=encI) (l:=l) tv0 rfl rfl Xk X0a Xh c (X6n (by omega)) (by omega) ?_;intro p6 aA;refine Ze (X0 rfl Xa aA)<|Za rfl<|Zt aF fun a hf=>?_
 refine Q6 (X6 hf (Xs hf rfl rfl) ?_)
 exact ⟨_,_,_,rfl,X7o (by omega),⟨by omega,by omega⟩,hW,f⟩
section
end
section
variable {P : Program} {a : Act} {w : World} {n : Nat} {e : Env} {ty : TypeId} {pos : String} {af : Array Edge} {g : Option (Nat × Bool)} {d : Option Tmp}
variable {t t' : TypeId} {x y : Operand} {i j k : Int}
theorem Xhu(hf:Fr a n e)(hx:ev e x=some (.int .i64 i))(hy:ev e y=some (.int .i64 j))(hk:i+j=k)(h1:-9223372036854775808<=k)(h2:k<=9223372036854775807) : Ev P ⟨d,.binOp .add t x y t',ty,pos,af,g⟩ a w (.int .i64 k):=by
 subst hk
 exact Xcf hf hx hy h1 h2
theorem Xbw(hx:ev e x=some (.int .i64 i))(hy:ev e y=some (.int .i64 j))(hk:i+j=k)(h1:-9223372036854775808<=k)(h2:k<=9223372036854775807) : EvW P ⟨d,.binOp .add t x y t',ty,pos,af,g⟩ n e w (.int .i64 k):=fun a hf=>Xhu hf hx hy hk h1 h2
end
end Go.Proofs.YtipiejccbmifnaaGreatDoor
namespace Go.Proofs.YtipiejccbmifnaaGreatDoor
open Go.RowKit Go.ChangeShapes Go.WideShapes Go.Deep Go.Joins
theorem Xn2:Tryz.prog.cellsOf 5=1:=by kernel_rfl
theorem Xfi{n:Int}(h:(Lit.int .u8 n).wf=true) : 0<=n/\n<=255:=by
 have h1:IntKind.u8.min=0:=rfl
 have h2:IntKind.u8.max=255:=rfl
 simp [Lit.wf] at h
 omega
set_option maxRecDepth 100000 in
theorem X6z{H:Type}{enc:TypeId×Value->H}{w:World}{base b0:Nat}{spare:Nat->Bool}{held:Bool}{r:Reach}{v:Value}{d:DataW H}{p:List MemPlace}(hv:Value.okWide Tryz.prog w r b0 22 v)(h:DataW.Trod enc Tryz.prog w base spare held 22 v d p)(hsp:∀ b,spare b=true) :
  ∃ (A:Option Addr) (l:List Int) (k:Nat) (E:TypeId),v=.slice A l.length k/\Rd w w.heap.size E encU A l/\(∀ x ∈ l,0<=x/\x<=255):=by
 obtain ⟨a1,n1,k1,rfl⟩:=okWide_slice Tryz.underlying22 hv;obtain ⟨fuel,hf⟩:=h
 have key:∃ (A:Option Addr) (l:List Int) (c:Nat) (E:TypeId),(Value.slice a1 n1 k1).cells.toList=[Value.slice A l.length c]/\Rd w w.heap.size E encU A l/\(∀ x ∈ l,0<=x/\x<=255):=by
  rcases open_slice Tryz.underlying22 hf with ⟨hcs,_⟩|⟨a,len,cap,m,n,D,Pl,hcs,hb,hl,hm,hmm,_,hi⟩
  ·exact ⟨none,[],0,0,hcs,Rd.nil _ _ _ _ _,by simp⟩
  ·rw [Xn2] at hi
   have hlm:len<=m:=by rw [hmm,hsp];simpa using hl
   obtain ⟨l,h1,h2⟩:=Xjx (n:=len) (Q:=fun i g=>(0<=g/\g<=255)/\∀ j v,(encU g)[j]? = some v->w.cell? (a.add (i*1+j))=some v) fun i hilt=>by
    obtain ⟨cs',hc,ht⟩:=hi i (by omega)
    obtain ⟨g,rfl,_,hwf⟩:=DataW.trod_int Tryz.underlying5 ht;obtain ⟨_,_,hat⟩:=World.cells?_some hc
    refine ⟨g,Xfi hwf,fun j v hj=>?_⟩
    have hj3:j<1:=by have:=(Qg.1 hj).1;simpa [encU] using this
    rw [<- X5k,hat j hj3]
    exact hj
   obtain ⟨E,hr⟩:=Xa6 Xab (by decide) fun i g hig=>(h2 i g hig).2
   refine ⟨some a,l,cap,E,by rw [hcs,h1],hr,fun x hx=>?_⟩
   obtain ⟨i,hi9,e⟩:=List.getElem_of_mem hx;exact (h2 i x (by rw [Qc hi9,e])).1
 obtain ⟨A,l,c,E,e0,hr,hb⟩:=key
 simp [Value.cells] at e0
 obtain ⟨rfl,rfl,rfl⟩:=e0;exact ⟨_,l,_,E,rfl,hr,hb⟩
end Go.Proofs.YtipiejccbmifnaaGreatDoor
namespace Go.Proofs.YtipiejccbmifnaaGreatDoor
open Go.RowKit
section
end
end Go.Proofs.YtipiejccbmifnaaGreatDoor
namespace Go.Proofs.YtipiejccbmifnaaGreatDoor
def oneK(k:Int) : Bool:=decide (k≠12/\¬ (9<=k/\k<=11))
def c0(g:Gt)(β:Nat->Bool) : Rg:=
 if g.k=12 then om else if g.k=9 then 1 else if g.k=10 then (if β g.a.toNat&&β g.b.toNat then om^4 else 1) else if g.k=11 then 1 else u1 g.k (β g.a.toNat) (β g.a.toNat)
def c1(g:Gt)(β:Nat->Bool) : Rg:=if oneK g.k=true then u1 g.k (β g.a.toNat) (!β g.a.toNat) else 0
end Go.Proofs.YtipiejccbmifnaaGreatDoor
namespace Go.Proofs.YtipiejccbmifnaaGreatDoor
open Go.RowKit
section
end
section
end
section
end
section
end
section
end
section
end
structure Tm where (m c:Int) deriving DecidableEq
structure Af where (m t:Int) deriving DecidableEq
def tmN(f:Int->Int) : Nat->List Tm
 | 0=>[]
 | n+1=>if 0<(n:Int)/\f n≠0 then tmN f n++[⟨n,f n⟩] else tmN f n
@[irreducible] def tms (f:Int->Int) : List Tm:=tmN f 16777216
def encTx(s:ByteArray) : List Value:=[.string s]
theorem X2a:∀ x,(encTx x).length=1:=fun _=>rfl
theorem X7u:∀ x,(encTx x).all one=true:=fun _=>rfl
def tx(l:List UInt8) : ByteArray:=⟨l.toArray⟩
theorem X48(l:List UInt8) : (tx l).data.toList=l:=rfl
theorem X51(l:List UInt8) : (tx l).size=l.length:=by simp [tx,ByteArray.size]
theorem Xpq(l r:List UInt8) : tx l++tx r=tx (l++r):=by
 apply ByteArray.ext
 simp [tx]
theorem Xg9(s:ByteArray) : tx s.data.toList=s:=by cases s;simp [tx]
section
variable {P : Program} {a : Act} {w : World} {n : Nat} {e : Env} {ty : TypeId} {pos : String} {af : Array Edge} {g : Option (Nat × Bool)} {d : Option Tmp} {t t' : TypeId}
theorem Xej{x y:Operand}{s r:ByteArray}(hf:Fr a n e)(hx:ev e x=some (.string s))(hy:ev e y=some (.string r))(hb:s.size+r.size<=9223372036854775807) : Ev P ⟨d,.binOp .add t x y t',ty,pos,af,g⟩ a w (.string (s++r)):=fun w' _=>by
 have h2:¬ (((s.size+r.size:Nat) : Int)>IntKind.i64.max):=by
  have:IntKind.i64.max=9223372036854775807:=rfl
  omega
 simp only [execOp,hf.ev hx,hf.ev hy]
 simp [eqGuard,binOp,Op.stringOp]
 simpa using h2
theorem Xkp{x y:Operand}{s r:List UInt8}(hf:Fr a n e)(hx:ev e x=some (.string (tx s)))(hy:ev e y=some (.string (tx r)))(hb:s.length+r.length<=9223372036854775807) : Ev P ⟨d,.binOp .add t x y t',ty,pos,af,g⟩ a w (.string (tx (s++r))):=by
 rw [<- Xpq];exact Xej hf hx hy (by rw [X51,X51];exact hb)
theorem Xcj{x y:Operand}{s r:List UInt8}(hx:ev e x=some (.string (tx s)))(hy:ev e y=some (.string (tx r)))(hb:s.length+r.length<=9223372036854775807) : EvW P ⟨d,.binOp .add t x y t',ty,pos,af,g⟩ n e w (.string (tx (s++r))):=fun _ hf=>Xkp hf hx hy hb
end
theorem Vx{P:Program}{o:Oper}{n:Nat}{e:List (Nat×Value)}{w:World}{k:IntKind}{a b:Int}(h:EvW P o n e w (.int k a))(e2:a=b) : EvW P o n e w (.int k b):=e2▸h
structure TurnS (S:Nat->Prop) (w w':World) : Prop where
 os:w'.os=w.os
 tape:w'.tape=w.tape
 output:w'.output=w.output
 size:w.heap.size<=w'.heap.size
 block:∀ k,k<w.heap.size->¬ S k->w'.heap[k]? = w.heap[k]?
theorem TurnS.refl(S:Nat->Prop)(w:World) : TurnS S w w:=⟨rfl,rfl,rfl,Qb _,fun _ _ _=>rfl⟩
def ownB(A:Option Addr) : Option Nat:=(Value.slice A 0 0).ownBlock
theorem X3j(A:Option Addr)(n c:Nat) : (Value.slice A n c).ownBlock=ownB A:=Xch A n 0 c 0
section
variable {S S' : Nat -> Prop} {w0 w w' : World} {b : Nat} {A : Option Addr} {n c : Nat}
theorem tsbel(h:TurnS S w0 w)(hE:Below w.heap.size w w') : TurnS S w0 w':=
 ⟨hE.os.trans h.os,hE.tape.trans h.tape,hE.output.trans h.output,Q0 h.size hE.size,fun k hk h1=>(hE.block k (Nat.lt_of_lt_of_le hk h.size)).trans (h.block k hk h1)⟩
theorem tsonly(h:TurnS S w0 w)(ho:Only b w w')(hb:S b∨w0.heap.size<=b) : TurnS S w0 w':=
 ⟨ho.os.trans h.os,ho.tape.trans h.tape,ho.output.trans h.output,by rw [ho.size];exact h.size,fun k hk h1=>(ho.block k (fun e=>by
  subst e
  rcases hb with hb|hb
  ·exact h1 hb
  ·omega)).trans (h.block k hk h1)⟩
theorem tsrow(h:TurnS S w0 w)(hg:w.grownBy w' (Value.slice A n c).ownBlock)(hs:∀ k,ownB A=some k->S k∨w0.heap.size<=k) : TurnS S w0 w':=
 ⟨hg.os.trans h.os,hg.tape.trans h.tape,hg.output.trans h.output,Q0 h.size hg.size,fun k hk h1=>(hg.block k (Nat.lt_of_lt_of_le hk h.size) (fun e=>by
  rw [X3j] at e
  rcases hs k e.symm with hb|hb
  ·exact h1 hb
  ·omega)).trans (h.block k hk h1)⟩
theorem tstr(h:TurnS S w0 w)(k:TurnS S' w w')(hs:∀ k,S' k->S k∨w0.heap.size<=k) : TurnS S w0 w':=
 ⟨k.os.trans h.os,k.tape.trans h.tape,k.output.trans h.output,Q0 h.size k.size,fun q hq h1=>(k.block q (Nat.lt_of_lt_of_le hq h.size) (fun e=>by
  rcases hs q e with hb|hb
  ·exact h1 hb
  ·omega)).trans (h.block q hq h1)⟩
theorem Below.ts{B:Nat}(h:Below B w0 w)(k:TurnS S w w')(hs:∀ k,S k->B<=k)(hB:B<=w.heap.size) : Below B w0 w':=
 h.trans ⟨k.os,k.tape,k.output,k.size,fun q hq=>k.block q (Nat.lt_of_lt_of_le hq hB) fun e=>by have:=hs q e;omega⟩
end
section
variable {α : Type} {w : World} {B0 : Nat} {E : TypeId} {enc : α -> List Value} {A : Option Addr} {l : List α} {sz c : Nat}
theorem X20(h:Own w B0 E sz enc A c l){k:Nat}(hk:ownB A=some k) : B0<=k:=(h.block (k:=k) (by rw [X3j];exact hk)).1
theorem X0u(ho:Own w B0 E sz enc A c l)(hsz:∀ x,(enc x).length=sz){k:Nat}{u:α}(hk:l[k]? = some u)(j:Nat){m:Nat}(hm:k*sz+j=m) : At w (oA A m) ((enc u).drop j):=by
 subst hm
 rcases ho.2 with ⟨e1,e2⟩|⟨b,cap,cur,e1,e2,e3,e4,e5,e6,e7⟩
 ·have:l=[]:=List.eq_nil_of_length_eq_zero e2
  rw [this] at hk;cases hk
 ·injection e1 with e1 _ e1'
  obtain ⟨p,hp,h⟩:=Rd.at hsz ho.rd hk
  rw [e1] at hp ⊢
  injection hp with hp
  subst hp
  intro i v hv
  rw [List.getElem?_drop] at hv
  have h2:=h _ v hv
  show w.cell? ((⟨b,k*sz+j,none⟩ : Addr).add i)=_
  rw [X1a] at h2 ⊢
  rw [X1a] at h2
  rw [<- h2]
  congr 2
  omega
end
structure Pst where (f:Int->Int) (v:Nat) (out:List Af)
def rotC(k:Int) : Int:=if k=4 then 4 else if k=5 then 2 else if k=6 then 6 else if k=7 then 1 else if k=8 then 7 else 0
section
end
section
end
section
end
section
variable {n : Nat} {g : Gt}
theorem Xa5(h:gOk (n:Int) g=true) : 0<=g.a/\g.a.toNat<n:=by
 simp only [gOk,inR,Qd,Qr] at h
 obtain ⟨⟨h1,h2⟩,h3⟩:=h
 split at h3
 ·simp at h3;omega
 ·split at h3<;>simp at h3<;>omega
theorem Xai(h:gOk (n:Int) g=true) : 0<=g.b/\g.b.toNat<n:=by
 simp only [gOk,inR,Qd,Qr] at h
 obtain ⟨⟨h1,h2⟩,h3⟩:=h
 split at h3
 ·simp at h3;omega
 ·split at h3<;>simp at h3<;>omega
end
section
variable {n : Nat} {ps : Pst} {g : Gt}
end
end Go.Proofs.YtipiejccbmifnaaGreatDoor
namespace Go.Proofs.YtipiejccbmifnaaGreatDoor
open Go.RowKit Go.Sort Go.Shelf Go.Lib
structure Mt where (v:Tm) (h:0<=v.m/\v.m<16777216)
instance:Inhabited Mt:=⟨⟨⟨0,0⟩,by decide,by decide⟩⟩
theorem X70{α:Type}[Inhabited α]{enc:α->List Value}{k:Nat}(hk:∀ x,(enc x).length=k)(L:List α) : (flatK enc k L.toArray).toList=L.flatMap enc:=by
 apply List.ext_getElem?
 intro t
 by_cases h:t<L.length*k
 ·obtain ⟨x,h1,h2⟩:=X3u hk h
  have hk0:0<k:=by
   rcases Nat.eq_zero_or_pos k with e|e
   ·subst e;simp at h
   ·exact e
  have h3:t % k<(enc x).length:=by rw [hk];exact Nat.mod_lt _ hk0
  have h4:t/k<L.length:=(Qg.1 h1).1
  rw [h2,Array.getElem?_toList]
  have e1:L[t/k]! = x:=by rw [List.getElem!_eq_getElem?_getD,h1];rfl
  have e2:L[t/k]?.getD default=x:=by rw [h1];rfl
  simp [flatK,h,e2,h3]
 ·rw [List.getElem?_eq_none (by simp [flatK];omega),List.getElem?_eq_none (by rw [Xo hk];omega)]
theorem Xea{w:World}{g n:Nat}{os:Array Obj}{cur:Array Value}{e:TypeId}{fr:Nat×Nat}(d:Array Value)(hb:w.heap[g]? = some (.cells cur e fr)) :
  (grow (putRow id (Sort.ahead w n) g 0 d) os).heap[g]? = some (.cells (putCells id 0 d cur) e fr):=by
 have hg:g<w.heap.size:=(Qp.1 hb).1
 rw [heap_grow_old _ _ (by simpa using hg)]
 simp [putRow,mapBlock,Sort.ahead,Array.getElem?_modify,hb,onCells]
theorem Xaw{w:World}{g n:Nat}{os:Array Obj}(d:Array Value) : w.grownBy (grow (putRow id (Sort.ahead w n) g 0 d) os) (some g):=by
 refine ⟨rfl,rfl,rfl,by simp,fun k hk hne=>?_⟩
 rw [heap_grow_old _ _ (by simpa using hk)]
 have:g≠k:=fun e=>hne (by rw [e])
 simp [putRow,mapBlock,Sort.ahead,Array.getElem?_modify,this]
theorem Xdu(cur F:Array Value)(h:F.size<=cur.size) : (putCells id 0 F cur).toList.take F.size=F.toList:=by
 apply List.ext_getElem?
 intro j
 by_cases hj:j<F.size
 ·rw [Wg hj,Array.getElem?_toList,Array.getElem?_toList]
  simp [putCells,hj,show j<cur.size by omega]
 ·rw [List.getElem?_take_eq_none (by omega),List.getElem?_eq_none (by simp;omega)]
theorem Xnd{w:World}{g:Nat}{cur:Array Value}{e:TypeId}{F:Array Value}(hb:w.heap[g]? = some (.cells cur e (0,0)))(ht:cur.toList.take F.size=F.toList) : Holds id w g 0 F:=by
 intro j hj
 refine ⟨?_,by simp [World.frozen?,hb]⟩
 have h1:(cur.toList.take F.size)[j]? = F.toList[j]?:=by rw [ht]
 rw [Wg hj] at h1
 simp only [World.cell?,hb,Nat.zero_add]
 simp only [Option.isSome_none,Bool.false_eq_true,if_false]
 rw [<- Array.getElem?_toList,h1]
 simp [hj]
end Go.Proofs.YtipiejccbmifnaaGreatDoor
namespace Go.Proofs.YtipiejccbmifnaaGreatDoor
open Go.RowKit
theorem X7x{c:Cx}(h:cOk c=true) : ∃ n:Nat,c.n=(n:Int)/\1<=n/\n<=5:=by
 simp only [cOk,inR,Qd,Qr] at h
 exact ⟨c.n.toNat,by omega,by omega,by omega⟩
theorem Xhw{c:Cx}(h:cOk c=true) : c.gs.length<=400:=by grind [cOk]
theorem Xgd{c:Cx}{n i:Nat}{u:Gt}(h:cOk c=true)(hn:c.n=(n:Int))(hu:c.gs[i]? = some u) : gOk (n:Int) u=true:=by grind [cOk,gOk]
section
end
structure Ar where (c z:Int) (any pl:Bool)
section
end
section
end
section
variable {P : Program} {a : Act} {w : World} {n : Nat} {e : Env} {ty : TypeId} {pos : String} {af : Array Edge} {g : Option (Nat × Bool)} {d : Option Tmp} {t t' : TypeId} {x y : Operand} {i j : Int}
theorem Xj3{T E:TypeId}{len k:Nat}{vs:List Value}{v:Value}(hf:Fr a n e)(hx:ev e x=some (.agg vs.toArray))(hy:ev e y=some (.int .i64 i))(hT:P.underlying T=some (.array len E))(hs:SizeT P E 1)(h1:OneT P E)(hi:i=(k:Int))(hk:k<len)(hv:vs[k]? = some v) : Ev P ⟨d,.index T x y,ty,pos,af,g⟩ a w v:=fun w' _=>by
 subst hi
 have h4:=X0c (P:=P) hT w';have h5:=run_sizeOf' hs w';have h6:=X32 (P:=P) (w:=w') h1
 simp [execOp,hf.ev hx,hf.ev hy,Instr.index,asIntOf,h4,h5,h6,part,hk,hv]
theorem Xt7{T E:TypeId}{len k:Nat}{vs:List Value}{v:Value}(hx:ev e x=some (.agg vs.toArray))(hy:ev e y=some (.int .i64 i))(hT:P.underlying T=some (.array len E))(hs:SizeT P E 1)(h1:OneT P E)(hi:i=(k:Int))(hk:k<len)(hv:vs[k]? = some v) : EvW P ⟨d,.index T x y,ty,pos,af,g⟩ n e w v:=fun a hf=>Xj3 hf hx hy hT hs h1 hi hk hv
end
section
variable {j : Nat} {s : Ar} {u : Tm}
end
section
variable {ins : Int} {s : Ar} (hp : s.pl = true)
include hp
end
section
end
section
end
def omZ(k:Int) : Rg:=om^(k % 8).toNat
def subI(a:Nat->Bool)(m:Int) : Int:=if (List.range 62).all (fun i=>!m.toNat.testBit i||a i) then 1 else 0
theorem sub_zero(a:Nat->Bool) : subI a 0=1:=by simp [subI]
def T2:Nat->Nat
 | 0=>0
 | c+1=>T2 c+c
def Wl(l:List Int) : Prop:=∀ x ∈ l,∃ n:Nat,n<2^62/\x=(n:Int)
theorem Wl.at{l:List Int}(h:Wl l)(n:Nat) : ∃ k:Nat,k<2^62/\l.getD n 0=(k:Int):=by
 rw [Qa]
 cases e:l[n]? with
 | none=>exact ⟨0,by decide,rfl⟩
 | some x=>exact h x (Qe e)
section
variable {a : Nat -> Bool} {l : List Int} (hl : Wl l) {k : Int}
include hl
end
def lift(v:Nat)(a:Nat->Bool)(b:Bool) : Nat->Bool:=fun i=>if i<v then a i else if i=v then b else a (i-1)
section
end
section
end
section
end
section
end
theorem Xv4{n k:Int}(hn:1<=n/\n<=5)(hk:k=12) : gOk n ⟨k,0,0⟩=true:=by
 subst hk
 simp only [gOk,Qd,X0t]
 exact ⟨⟨hn,by omega⟩,rfl⟩
theorem Xvj{n:Int}(hn:1<=n/\n<=5) : gOk n ⟨1,0,0⟩=true:=by
 simp only [gOk,Qd,X0t]
 refine ⟨⟨hn,by omega⟩,?_⟩
 rw [Q3 (by decide),Q3 (by decide)]
 simp only [Qd,X0t]
 exact ⟨by omega,rfl⟩
theorem Xub{n k a:Int}(hn:1<=n/\n<=5)(hk:1<=k/\k<=12)(h12:¬ k=12)(h9:inR k 9 11=false)(ha:0<=a/\(a=0∨a<n)) : gOk n ⟨k,a,0⟩=true:=by
 simp only [gOk,Qd,X0t]
 refine ⟨⟨hn,hk⟩,?_⟩
 rw [Q3 h12,Q3 (fun h=>by rw [<- X0t,h9] at h;cases h)]
 simp only [Qd,X0t]
 exact ⟨by omega,rfl⟩
theorem Xvb{n k a b:Int}(hn:1<=n/\n<=5)(hk:1<=k/\k<=12)(h12:¬ k=12)(h9:inR k 9 11=true)(h1:¬ n=1)(ha:0<=a/\(a=0∨a<n))(hb:0<=b/\(b=0∨b<n-1)) : gOk n ⟨k,a,(a+1+b).tmod n⟩=true:=by
 have e:(a+1+b).tmod n=if a+1+b<n then a+1+b else a+1+b-n:=by
  rw [Int.tmod_eq_emod_of_nonneg (by omega)]
  split
  ·exact Int.emod_eq_of_lt (by omega) (by omega)
  ·rw [<- Int.sub_emod_right]
   exact Int.emod_eq_of_lt (by omega) (by omega)
 simp only [gOk,Qd,X0t]
 refine ⟨⟨hn,hk⟩,?_⟩
 rw [Q3 h12,Q4 (X0t.1 h9)]
 simp only [Qd,X0t,bne_iff_ne,ne_eq]
 rw [e]
 split<;>omega
theorem Xe4{n:Int}{l:List Gt}{g:Gt}(h:∀ x ∈ l,gOk n x=true)(hg:gOk n g=true) : ∀ x ∈ l++[g],gOk n x=true:=fun x hx=>by
 rcases Qu.1 hx with hx|hx
 ·exact h x hx
 ·rw [Qm.1 hx];exact hg
theorem Xqd(w0:World)(bV:Nat){b1:TypeId}(I:Option Addr)(M:Nat)(q:List Int)(b:Rd w0 w0.heap.size b1 encU I q)(a8:∀ x ∈ q,0<=x/\x<=255)(N:AwayR q I bV)(t:Nat)(sd:Int)(c:Blk w0 bV 64 [.slice I q.length M,vi (t:Int),.int .u64 sd])(n:Int)(Al:Option Addr)(cl:Nat)(l:List Int)(z:Rd w0 w0.heap.size 3 encI Al l)(hn:1<=n/\n<=5)(aE:∀ k ∈ l,1<=k/\k<=12)(bB:0<l.length)(bC:l.length<=1000)(ht:t+6<=100000000) : Ret Tryz.prog 72 [(pZ9 bV),vi n,.slice Al l.length cl] w0 (fun v w=>∃ (x:Gt) (t1:Nat) (s1:Int),v=gV x/\(gOk n x=true)/\(t<=t1/\t1<=t+6)/\Kept bV w0.heap.size w0 w/\Blk w bV 64 [.slice I q.length M,vi (t1:Int),.int .u64 s1]):=by
 have bA:=c.lt;refine enter Tryz.func72 rfl 42 rfl rfl ?_;intro a o
 have i:Kept bV w0.heap.size w0 w0:=Kept.refl _ _ _
 refine Zs o fun _ b2=>?_;refine Zf (Xw (zs:=[vi 0,vi 0,vi 0]) Xem rfl) ?_;rintro _ w1 ⟨b4,rfl,aF,p,d⟩;have J:=Q0 i.size aF;have aY:=b.away aF;have c:=c.bw p;have b:=b.bw p;have z:=z.bw p;have i:=ktr i p;refine Zx b2 fun a o _ b3=>?_;refine Zm rfl<|Zm rfl<|Zm rfl<|Ze (X07 rfl Xk)<|Zf (Vc (X12 _ bV I M q b.top a8 N t sd c (l.length:Int) (by omega)) X0d) ?_;rintro _ w2 ⟨f,aG,aH,rfl,b5,b6,W,A⟩;obtain ⟨wm,H,hm,p⟩:=W.mid;clear hm;have e:=c;have d:=d.oz H e rfl;have b:=b.onlyA H N;have z:=z.oT H e rfl;have i:=i.self H;have d:=d.bw p;have b:=b.bw p;have z:=z.bw p;have i:=ktr i p
 clear e p H W;have c:=A;clear A;refine Zi (k:=f.toNat) (u:=(l.getD f.toNat 0)) (enc:=encI) (l:=l) tv0 rfl rfl Xk X0a Xh z (X6n (by omega)) (by omega) ?_;intro p7 aI;refine Ze (X0 rfl Xa aI)<|Ze (X11 (ps:=[(0,vi (l.getD f.toNat 0))]) (cs:=[vi (l.getD f.toNat 0),vi 0,vi 0]) rfl (fun _=>by first|rfl|kernel_rfl))<|Zf (Xw (zs:=[vi 0,vi 0,vi 0]) Xem rfl) ?_;rintro _ w3 ⟨b8,rfl,aJ,p,g⟩
 have aZ:b4≠b8:=by have:=d.lt;omega
 have B:=Q0 i.size aJ;have b0:=b.away aJ;have c:=c.bw p;have d:=d.bw p;have b:=b.bw p;have i:=ktr i p;refine Zo (Vw [vi (l.getD f.toNat 0),vi 0,vi 0] X4s g) ?_;rintro _ w4 ⟨y,L⟩;have e:=g;have c:=c.oz y e rfl;have d:=d.oy y (by omega);have b:=b.oy y B;have i:=Kept.oy i y B;have g:=L;refine ZX b3 fun a o _ b7=>?_;refine Zs o fun _ aK=>?_;refine Ze (Vd rfl X5e 0)<|Ze (X0 rfl Xa (g.at 0))<|Ze (X0f rfl rfl)<|Zt aK fun a o=>?_
 refine Xf o rfl (fun C=>?_) (fun C=>?_)
 ·have aA:=C
  have a6:l.getD f.toNat 0=12:=by have:=C;simpa using this
  refine Zs o fun _ aL=>?_;refine Ze (Vn X38 g)<|Zo (Vw [vi (l.getD f.toNat 0),vi 0,vi 0] X4s d) ?_;rintro _ w5 ⟨y,L⟩;have e:=d;have c:=c.oz y e rfl;have i:=Kept.oy i y J;have d:=L;refine Zt aL fun a o=>?_;refine Q6<|X8<|X6 o (Xs o rfl (ResV.cellN (l:=[vi (l.getD f.toNat 0),vi 0,vi 0]) rfl X38 (d.at 0) rfl)) ?_;exact ⟨⟨_,_,_⟩,_,_,rfl,Xv4 hn a6,⟨by omega,by omega⟩,i,c⟩
 have aA:=C
 have a6:¬ l.getD f.toNat 0=12:=by have:=C;simpa using this
 have aM:=aE (l.getD f.toNat 0) (X7o (by omega))
 refine Q7<|b7 _ _<|Zs o fun _ aN=>?_;refine Zm rfl<|Zm rfl<|Zf (Vc (X12 _ bV I M q b.top a8 N aG aH c n (by omega)) X0d) ?_;rintro _ w6 ⟨m,aO,aP,rfl,Q,b9,W,A⟩;obtain ⟨wm,H,hm,p⟩:=W.mid;clear hm;have e:=c;have d:=d.oz H e rfl;have g:=g.oz H e rfl;have b:=b.onlyA H N;have i:=i.self H;have d:=d.bw p;have g:=g.bw p;have b:=b.bw p;have i:=ktr i p
 clear e p H W;have c:=A;clear A;refine Ze (Vd rfl X18 1)<|Zo (Vu (vs:=[vi m]) (l':=[vi (l.getD f.toNat 0),vi m,vi 0]) rfl rfl X0a g) ?_;rintro _ w7 ⟨y,L⟩;have e:=g;have c:=c.oz y e rfl;have d:=d.oy y (by omega);have b:=b.oy y B;have i:=Kept.oy i y B;have g:=L;refine ZX aN fun a o _ a7=>?_;refine Zs o fun _ aQ=>?_;refine Ze (Vd rfl X5e 0)<|Ze (X0 rfl Xa (g.at 0))<|Zf (Vc (F85 _ (l.getD f.toNat 0) 9 11) X5a) ?_;rintro _ _ ⟨rfl,rfl⟩;refine Zt aQ fun a o=>?_
 refine Xf o rfl (fun D=>?_) (fun D=>?_)
 ·have aB:=D
  have h9:inR (l.getD f.toNat 0) 9 11=true:=D
  refine Q5 fun _ aR=>?_;refine Zs o fun _ aS=>?_;refine Zm rfl<|Ze (X0f rfl rfl)<|Zt aS fun a o=>?_
  refine Xf o rfl (fun E=>?_) (fun E=>?_)
  ·have aC:=E
   have h1:n=1:=by have:=E;simpa using this
   refine Zs o fun _ aT=>?_;refine Ze (X11 (ps:=[(0,vi 1)]) (cs:=[vi 1,vi 0,vi 0]) rfl (fun _=>by first|rfl|kernel_rfl))<|Zo (Vw [vi 1,vi 0,vi 0] X4s d) ?_;rintro _ w8 ⟨y,L⟩;have e:=d;have c:=c.oz y e rfl;have i:=Kept.oy i y J;have d:=L;refine Zt aT fun a o=>?_;refine Q6<|X8<|X8<|X6 o (Xs o rfl (ResV.cellN (l:=[vi 1,vi 0,vi 0]) rfl X38 (d.at 0) rfl)) ?_;exact ⟨⟨_,_,_⟩,_,_,rfl,Xvj hn,⟨by omega,by omega⟩,i,c⟩
  have aC:=E
  have h1:¬ n=1:=by have:=E;simpa using this
  refine Q7<|aR _ _<|Xz (some bV) (fun j=>[11].contains j) mixed ?_;intro w9 p;have c:=c.bw p;have d:=d.bw p;have g:=g.bw p;have b:=b.bw p;have i:=ktr i p;refine Yb o<|Yo 0 rfl (fun _=>Vd rfl X18 1) ?_;refine Yw 1 rfl tv0 (fun w1 h1=>X0 rfl Xa ((g.oz h1 c rfl).at 1)) ?_;refine Yo 2 rfl (fun _=>Xr rfl rfl (by omega) (by omega))<|Yo 3 rfl (fun _=>X3 rfl)<|Yo 4 rfl (fun _=>X3 rfl)<|Yo 5 rfl (fun _=>X1d rfl rfl (by omega) (by omega))<|Yo 8 rfl (fun _=>X3 rfl)<|Y1 6 ?_;refine Yf rfl tv0 (EfW.mono (Vc (X12 _ bV I M q b.top a8 N aO aP c (n-1) (by omega)) X0d) (fun _ _ h=>⟨fun _=>by obtain ⟨G,aU,aV,rfl,U,aD,W,A⟩:=h;exact W.keep,h⟩)) ?_;rintro _ bD ⟨G,aU,aV,rfl,U,aD,W,A⟩;obtain ⟨wm,H,hm,p⟩:=W.mid;clear hm;have e:=c;have d:=d.oz H e rfl;have g:=g.oz H e rfl;have i:=i.self H;have d:=d.bw p;have g:=g.bw p;have i:=ktr i p
  clear e p H W;have c:=A;clear A;refine Yo 7 rfl (fun _=>Xr rfl rfl (by omega) (by omega))<|Yo 9 rfl (fun _=>X3q rfl rfl (by simp;omega))<|Yo 10 rfl (fun _=>Vd rfl X23 2)<|Y1 11 ?_;refine Yh rfl tv0 rfl (Vu (vs:=[vi (((m+1)+G).tmod n)]) (l':=[vi (l.getD f.toNat 0),vi m,vi (((m+1)+G).tmod n)]) rfl rfl X0a g) ?_;rintro _ bE ⟨y,L⟩;have e:=g;have c:=c.oz y e rfl;have d:=d.oy y (by omega);have i:=Kept.oy i y B;have g:=L;refine Yd fun a o=>?_;refine a7 _ _<|Zs o fun _ aW=>?_;refine Ze (Vn X38 g)<|Zo (Vw [vi (l.getD f.toNat 0),vi m,vi (((m+1)+G).tmod n)] X4s d) ?_;rintro _ bF ⟨y,L⟩;have e:=d;have c:=c.oz y e rfl;have i:=Kept.oy i y J;have d:=L;refine Zt aW fun a o=>?_
  refine Q6 (X6 o (Xs o rfl (ResV.cellN (l:=[vi (l.getD f.toNat 0),vi m,vi (((m+1)+G).tmod n)]) rfl X38 (d.at 0) rfl)) ?_)
  exact ⟨⟨_,_,_⟩,_,_,rfl,Xvb hn aM a6 h9 h1 Q U,⟨by omega,by omega⟩,i,c⟩
 have aB:=D
 have h9:inR (l.getD f.toNat 0) 9 11=false:=D
 refine Q7<|a7 _ _<|Zs o fun _ aX=>?_;refine Ze (Vn X38 g)<|Zo (Vw [vi (l.getD f.toNat 0),vi m,vi 0] X4s d) ?_;rintro _ bG ⟨y,L⟩;have e:=d;have c:=c.oz y e rfl;have i:=Kept.oy i y J;have d:=L;refine Zt aX fun a o=>?_
 refine Q6 (X6 o (Xs o rfl (ResV.cellN (l:=[vi (l.getD f.toNat 0),vi m,vi 0]) rfl X38 (d.at 0) rfl)) ?_)
 exact ⟨⟨_,_,_⟩,_,_,rfl,Xub hn aM a6 h9 Q,⟨by omega,by omega⟩,i,c⟩
theorem Xrh(w0:World)(bV:Nat){aI:TypeId}(G:Option Addr)(U:Nat)(B:List Int)(d:Rd w0 w0.heap.size aI encU G B)(aJ:∀ x ∈ B,0<=x/\x<=255)(aA:AwayR B G bV)(t:Nat)(sd:Int)(i:Blk w0 bV 64 [.slice G B.length U,vi (t:Int),.int .u64 sd])(n:Int)(most:Int)(Al:Option Addr)(cl:Nat)(l:List Int)(f:Rd w0 w0.heap.size 3 encI Al l)(hn:1<=n/\n<=5)(aK:∀ k ∈ l,1<=k/\k<=12)(hm:0<=most/\most<=1000)(b3:0<l.length)(b4:l.length<=1000)(ht:t+(2+6*most.toNat)<=100000000) : Ret Tryz.prog 29 [(pZ9 bV),vi n,vi most,.slice Al l.length cl] w0 (fun v w=>∃ (c:Cx) (A:Option Addr) (e:Nat) (t1:Nat) (s1:Int),v=.agg #[vi c.n,.slice A c.gs.length e]/\(c.n=n/\(c.gs.length:Int)<=most/\∀ g ∈ c.gs,gOk n g=true)/\(t<=t1/\t1<=t+(2+6*most.toNat))/\Own w w0.heap.size 78 3 encG A e c.gs/\Kept bV w0.heap.size w0 w/\Blk w bV 64 [.slice G B.length U,vi (t1:Int),.int .u64 s1]):=by
 have bC:=i.lt;refine enter Tryz.func29 rfl 31 rfl rfl ?_;intro a E
 have z:Kept bV w0.heap.size w0 w0:=Kept.refl _ _ _
 refine Zs E fun _ b6=>?_;refine Zf (Xw (zs:=[vi 0,.slice none 0 0]) Xrl rfl) ?_;rintro _ w1 ⟨b5,rfl,aL,u,o⟩;have aM:=Q0 z.size aL;have b0:=d.away aL;have i:=i.bw u;have d:=d.bw u;have f:=f.bw u;have z:=ktr z u;refine Zx b6 fun a E _ b7=>?_;refine Zm rfl<|Ze (X11 (ps:=[(0,vi n)]) (cs:=[vi n,.slice none 0 0]) rfl (fun _=>by first|rfl|kernel_rfl))<|Zf (Xw (zs:=[vi 0,.slice none 0 0]) Xrl rfl) ?_;rintro _ w2 ⟨b9,rfl,aN,u,p⟩
 have b1:b5≠b9:=by have:=o.lt;omega
 have I:=Q0 z.size aN;have b2:=d.away aN;have i:=i.bw u;have o:=o.bw u;have d:=d.bw u;have f:=f.bw u;have z:=ktr z u;refine Zo (Vw [vi n,.slice none 0 0] Xlr p) ?_;rintro _ w3 ⟨H,hb⟩;have m:=p;have i:=i.oz H m rfl;have o:=o.oy H (by omega);have d:=d.oy H I;have f:=f.oT H m rfl;have z:=Kept.oy z H I;have p:=hb;refine ZX b7 fun a E _ aO=>?_;refine Zs E fun _ aP=>?_;refine Zm rfl<|Zm rfl<|Ze (Xr rfl rfl (by omega) (by omega))<|Zf (Vc (X12 _ bV G U B d.top aJ aA t sd i (most+1) (by omega)) X0d) ?_;rintro _ w4 ⟨aQ,aR,aS,rfl,b8,bA,hK,L⟩;obtain ⟨wm,J,hm,u⟩:=hK.mid;clear hm;have m:=i;have o:=o.oz J m rfl;have p:=p.oz J m rfl;have d:=d.onlyA J aA;have f:=f.oT J m rfl;have z:=z.self J;have o:=o.bw u;have p:=p.bw u;have d:=d.bw u;have f:=f.bw u;have z:=ktr z u
 clear m u J hK;have i:=L;clear L;refine Za rfl<|Zt aP fun a E=>?_;refine Q8<|X02 (σ:=Int×(List Gt)×Nat×Int) (fun (s:Int×(List Gt)×Nat×Int) (a:Act) (w:World)=>match s with|(j,gs,t2,s2)=>∃ M N,Fr a 31 [(0,(pZ9 bV)),(1,vi n),(3,.slice Al l.length cl),(8,(pZ9 b5)),(9,(pZ9 b9)),(10,vi j)]/\(0<=j/\j+gs.length<=most)/\(t<=t2/\t2+6*j.toNat<=t+(2+6*most.toNat))/\(∀ g ∈ gs,gOk n g=true)/\Blk w bV 64 [.slice G B.length U,vi (t2:Int),.int .u64 s2]/\Blk w b5 26 [vi 0,.slice none 0 0]/\Blk w b9 26 [vi n,.slice M gs.length N]/\Rd w w0.heap.size aI encU G B/\Rd w w0.heap.size 3 encI Al l/\Own w w0.heap.size 78 3 encG M N gs/\Kept bV w0.heap.size w0 w) (fun (s:Int×(List Gt)×Nat×Int)=>match s with|(j,gs,t2,s2)=>j.toNat) (aQ,[],aR,aS) ?_ ?_
 ·exact ⟨none,0,E.sb,(by simp;omega),(by omega),(by simp),i,o,p,d,f,(Own.nil _ _ _ _ _),z⟩
 rintro ⟨j,gs,t2,s2⟩ a w5 ⟨M,N,E,hj,bD,aT,i,o,p,d,f,q,z⟩;refine Q5 fun _ aU=>?_;refine Zs E fun _ aV=>?_;refine Zm rfl<|Ze (X2o rfl rfl)<|Zt aV fun a E=>?_
 refine Xf E rfl (fun C=>?_) (fun C=>?_)
 ·have aD:=C;have C:=Q2 C;refine Q7<|aU _ _<|Q5 fun _ aW=>?_;refine Q8<|Xz (some bV) (fun j=>[7,9].contains j) mixed ?_;intro w6 u;have i:=i.bw u;have o:=o.bw u;have p:=p.bw u;have d:=d.bw u;have f:=f.bw u;have q:=q.bw u;have z:=ktr z u;refine Yb E<|Yo 0 rfl (fun _=>Vd rfl X8k 1) ?_;refine Yw 1 rfl tv0 (fun w1 h1=>X0 rfl Xl3 ((p.oz h1 i rfl).at 1)) ?_;refine Yo 2 rfl (fun _=>X3 rfl)<|Yo 3 rfl (fun _=>X3 rfl)<|Yo 4 rfl (fun _=>X3 rfl)<|Y1 5 ?_;refine Yf rfl tv0 (EfW.mono (X16 (vs:=[(pZ9 bV),vi n,.slice Al l.length cl]) rfl Xi3 (Xqd _ bV G U B d.top aJ aA t2 s2 i n Al cl l f.top hn aK b3 b4 (by omega))) (fun _ _ h=>⟨fun _=>by obtain ⟨y,aB,aC,rfl,W,aE,hK,L⟩:=h;exact hK.keep,h⟩)) ?_;rintro _ w7 ⟨y,aB,aC,rfl,W,aE,hK,L⟩;obtain ⟨wm,J,hm,u⟩:=hK.mid;clear hm;have m:=i;have o:=o.oz J m rfl;have p:=p.oz J m rfl;have d:=d.onlyA J aA;have f:=f.oT J m rfl;have q:=q.oT J m rfl;have z:=z.self J;have o:=o.bw u;have p:=p.bw u;have d:=d.bw u;have f:=f.bw u;have q:=q.bw u;have z:=ktr z u
  clear m u J hK;have i:=L;clear L;refine Y1 6<|Yf rfl tv0 (EfW.mono (Xj (k:=1) (vs:=[.agg #[vi y.k,vi y.a,vi y.b]]) (zs:=[vi y.k,vi y.a,vi y.b]) rfl Xd7 Xc5 rfl rfl) (fun _ _ h=>⟨fun _=>by obtain ⟨_,_,_,u,_⟩:=h;exact Keep.of_below u,h⟩)) ?_;rintro _ w8 ⟨bE,rfl,a6,u,a7⟩;have bB:=Q0 z.size a6;have aX:=d.away a6;have Q:=q.away a6;have i:=i.bw u;have o:=o.bw u;have p:=p.bw u;have d:=d.bw u;have f:=f.bw u;have q:=q.bw u;have z:=ktr z u;refine Y1 7<|Yt rfl tv0 rfl (X0k (enc:=encG) (l:=(gs)) (l2:=([y])) (B0:=w0.heap.size) rfl rfl Xd7 Xc5 Xa2 Xf8 q (Rd.of_blk a7 rfl _ a7.lt) (by simp only [maxLen];simp;omega) (by simp;omega) z.size) ?_;rintro _ w9 ⟨aF,aG,rfl,a8,hg,aY⟩
  have D:Own _ w0.heap.size 78 3 encG _ _ (gs):=q
  have aH:=aY _ a7.lt Q;clear aY;have i:=i.appT D hg rfl;have o:=o.appT D hg rfl;have p:=p.appT D hg rfl;have d:=d.appB D hg (Qb _);have f:=f.appT D hg rfl;have z:=Kept.app z D hg (Qb _) z.size;clear D hg;refine Yo 8 rfl (fun _=>Vd rfl X8k 1)<|Y1 9 ?_;refine Yh rfl tv0 rfl (Vu (vs:=[.slice aF (gs++([y])).length aG]) (l':=[vi n,.slice aF (gs++([y])).length aG]) rfl rfl Xrm p) ?_;rintro _ bF ⟨H,hb⟩;have m:=p;have i:=i.oz H m rfl;have o:=o.oy H (by omega);have d:=d.oy H I;have f:=f.oT H m rfl;have a8:=a8.oT H m rfl;have z:=Kept.oy z H I;have p:=hb;refine Yd fun a E=>?_;refine Xb<|aW _ _<|Zr E<|Zm rfl<|Ze (X1d rfl rfl (by omega) (by omega))<|Za rfl ?_;refine Zn fun a E=>?_;refine Xe ?_;exact ⟨(j-1,gs++[y],aB,aC),⟨aF,aG,E.sb,(by simp;omega),(by omega),(Xe4 aT W),i,o,p,d,f,a8,z⟩,(by first|omega|(dsimp only;omega))⟩
 have aD:=C;have C:=Q1 C;refine Q9<|Xl<|Xl<|X01 ?_;refine aO _ _<|Zs E fun _ aZ=>?_;refine Ze (Vn Xma p)<|Zo (Vw [vi n,.slice M gs.length N] Xlr o) ?_;rintro _ bG ⟨H,hb⟩;have m:=o;have i:=i.oz H m rfl;have q:=q.oT H m rfl;have z:=Kept.oy z H aM;have o:=hb;refine Zt aZ fun a E=>?_
 refine Q6 (X6 E (Xs E rfl (ResV.cellN (l:=[vi n,.slice M gs.length N]) rfl Xma (o.at 0) rfl)) ?_)
 exact ⟨⟨n,gs⟩,M,N,_,_,rfl,⟨rfl,(by show (gs.length:Int)<=most;omega),aT⟩,⟨by omega,by omega⟩,q,z,i⟩
end Go.Proofs.YtipiejccbmifnaaGreatDoor
namespace Go.Proofs.YtipiejccbmifnaaGreatDoor
section
end
end Go.Proofs.YtipiejccbmifnaaGreatDoor
namespace Go.Proofs.YtipiejccbmifnaaGreatDoor
open Go
end Go.Proofs.YtipiejccbmifnaaGreatDoor
namespace Go.Proofs.YtipiejccbmifnaaGreatDoor
open Go.RowKit
section
end
section
end
section
end
end Go.Proofs.YtipiejccbmifnaaGreatDoor
namespace Go.Proofs.YtipiejccbmifnaaGreatDoor
def cmI(x y:Int) : Int:=if x<y then -1 else if y<x then 1 else 0
def idxF{α:Type}(l:List α)(q:α->Bool) : Int:=match l.findIdx? q with
 | some k=>(k:Int)
 | none=>-1
theorem X6o{α:Type}{q:α->Bool} : ∀ {l:List α} {k:Nat} {u:α},((l.take k).all fun x=>!q x)=true->l[k]? = some u->q u=true->idxF l q=(k:Int):=by
 intro l k u h1 h2 h3;obtain ⟨h4,h5⟩:=Qg.1 h2
 have:l.findIdx? q=some k:=by
  rw [List.findIdx?_eq_some_iff_getElem]
  refine ⟨h4,by rw [h5];exact h3,fun j hj=>?_⟩
  have:=W1.1 h1 l[j] (by rw [List.mem_iff_getElem];exact ⟨j,by simp;omega,by simp⟩)
  simpa using this
 unfold idxF;rw [this]
end Go.Proofs.YtipiejccbmifnaaGreatDoor
namespace Go.Proofs.YtipiejccbmifnaaGreatDoor
open Go.RowKit
theorem Xs7(w0:World)(x:Int) : Ret Tryz.prog 183 [vi x] w0 (fun v w=>v=.bool false/\w0=w):=by
 refine enter Tryz.func183 rfl 6 rfl rfl ?_;intro a hf
 have hW:=bz w0
 refine Zs hf fun _ a6=>?_;refine Za rfl<|Zx a6 fun a hf _ a7=>?_;refine Zm rfl<|Zm rfl<|Ze (X1c rfl rfl)<|Za rfl<|Zt a7 fun a hf=>?_
 refine Q6 (X6 hf (Xs hf rfl rfl) ?_)
 exact ⟨by simp,rfl⟩
theorem Xcx(w0:World)(x:Int)(y:Int) : Ret Tryz.prog 135 [vi x,vi y] w0 (fun v w=>v=vi (cmI x y)/\w0=w):=by
 refine enter Tryz.func135 rfl 20 rfl rfl ?_;intro a d
 have hW:=bz w0
 refine Zs d fun _ aF=>?_;refine Za rfl<|Zx aF fun a d _ aG=>?_;refine Zm rfl<|Zf (Vc (Xs7 _ x) Xey) ?_;rintro _ _ ⟨rfl,rfl⟩;refine Za rfl<|Zx aG fun a d _ aH=>?_;refine Zm rfl<|Zf (Vc (Xs7 _ y) Xey) ?_;rintro _ _ ⟨rfl,rfl⟩;refine Za rfl<|ZX aH fun a d _ aI=>?_;refine Zs d fun _ aJ=>?_;refine Zm rfl<|Zt aJ fun a d=>?_;refine X6b d rfl ?_;refine Q7<|aI _ _<|Q5 fun _ aK=>?_;refine Zs d fun _ aL=>?_;refine Zm rfl<|Zt aL fun a d=>?_;refine X6b d rfl ?_;refine Q7<|aK _ _<|Q5 fun _ aM=>?_;refine Zs d fun _ aN=>?_;refine Zm rfl<|Zm rfl<|Ze (X0i rfl rfl)<|Zt aN fun a d=>?_
 refine Xf d rfl (fun b=>?_) (fun b=>?_)
 ·have a6:=b;have b:=Q2 b
  have e:cmI x y = -1:=by rw [cmI,Q4 b]
  refine Zs d fun _ a8=>?_;refine Za rfl<|Zt a8 fun a d=>?_;refine Q6<|X8<|X6 d (Xs d rfl rfl) ?_;exact ⟨by rw [e],rfl⟩
 have a6:=b;have b:=Q1 b;have aA:=b;refine Q7<|aM _ _<|Q5 fun _ aB=>?_;refine Zs d fun _ aC=>?_;refine Zm rfl<|Zm rfl<|Ze (X2o rfl rfl)<|Zt aC fun a d=>?_
 refine Xf d rfl (fun c=>?_) (fun c=>?_)
 ·have a7:=c;have c:=Q2 c
  have e:cmI x y=1:=by rw [cmI,Q3 aA,Q4 c]
  refine Zs d fun _ aD=>?_;refine Za rfl<|Zt aD fun a d=>?_;refine Q6<|X8<|X6 d (Xs d rfl rfl) ?_;exact ⟨by rw [e],rfl⟩
 have a7:=c;have c:=Q1 c
 have e:cmI x y=0:=by rw [cmI,Q3 aA,Q3 c]
 refine Q7<|aB _ _<|Zs d fun _ aE=>?_;refine Za rfl<|Zt aE fun a d=>?_
 refine Q6 (X6 d (Xs d rfl rfl) ?_)
 exact ⟨by rw [e],rfl⟩
theorem Xh7(w0:World)(x:Int)(y:Int) : Ret Tryz.prog 163 [vi x,vi y] w0 (fun v w=>v=vi (min x y)/\Below w0.heap.size w0 w):=by
 refine enter Tryz.func163 rfl 10 rfl rfl ?_;intro a c
 have hW:=bz w0
 refine Zs c fun _ a7=>?_;refine Za rfl<|ZX a7 fun a c _ a8=>?_;refine Zs c fun _ aA=>?_;refine Zm rfl<|Zm rfl<|Ze (X0i rfl rfl)<|Zt aA fun a c=>?_
 refine Xf c rfl (fun b=>?_) (fun b=>?_)
 ·have a6:=b;have b:=Q2 b;refine Zs c fun _ aB=>?_;refine Zm rfl<|Za rfl<|Zt aB fun a c=>?_;refine Q6<|X8<|X6 c (Xs c rfl rfl) ?_;exact ⟨by rw [Int.min_eq_left (by omega)],hW⟩
 have a6:=b;have b:=Q1 b;refine Q7<|a8 _ _<|Zs c fun _ aC=>?_;refine Zm rfl<|Za rfl<|Zt aC fun a c=>?_
 refine Q6 (X6 c (Xs c rfl rfl) ?_)
 exact ⟨by rw [Int.min_eq_right (by omega)],hW⟩
end Go.Proofs.YtipiejccbmifnaaGreatDoor
