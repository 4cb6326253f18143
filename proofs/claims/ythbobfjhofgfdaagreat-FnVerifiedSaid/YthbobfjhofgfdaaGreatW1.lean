/-
  For all drawn circuits, circuits that are verified by rewriting have the same operator up to a phase, and simplification does not increase the T-count. Conditions: none.
-/
import Derived.WalkKit
import Derived.Maps.AppendAt
import Derived.Test.YthbobfjhofgfdaaGreatProg
import Derived.Laws.StructEq
import Derived.MapKept
import Derived.Shelf.Sort.Plain
import Derived.Shelf.Slices.Turned
import Derived.Ground.Names2Prog
import Derived.Shelf.Slices.Clone
import Derived.Shelf.Slices.CompactI
import Derived.Shelf.Slices.Cells
set_option linter.unusedVariables false
set_option linter.defProp false
set_option linter.unusedSimpArgs false
set_option maxRecDepth 8000
set_option linter.unusedSectionVars false
namespace Go.Proofs.YthbobfjhofgfdaaGreat
open Go.RowKit Go.Proofs.Tryz
def O{α:Sort _}{a:α}:a=a:=rfl
def Z{p:Prop}(h:p:=by omega):p:=h
def O0{p:Prop}(h:p:=by decide +kernel):p:=h
def O1{p:Prop}(h:p:=by first|omega|(dsimp only;omega)):p:=h
def O2{p:Prop}(h:p:=by first|omega|(rw[List.length_set];omega)):p:=h
def O3{p:Prop}(h:p:=by kernel_rfl):p:=h
def O4{p:Prop}(h:p:=by simp):p:=h
def O5{p:Prop}(h:p:=by decide):p:=h
def O6{p:Prop}(h:p:=by simp;omega):p:=h
def O7{p:Prop}(h:p:=by dsimp only;omega):p:=h
def O8{p:Prop}(h:p:=by first|omega|(simp;omega)):p:=h
def O9{p:Prop}(h:p:=by rw[List.length_set];omega):p:=h
abbrev Q0:=@Nat.le_trans
abbrev Q1:=@of_decide_eq_false
abbrev Q2:=@of_decide_eq_true
abbrev Q3:=@if_neg
abbrev Q4:=@if_pos
abbrev Q5:=@wp_seq_k
abbrev Q6:=@wp_ret
abbrev Q7:=@wp_skip
abbrev Q8:=@wp_block
abbrev Q9:=@wp_exit
abbrev Qa:=@List.getD_eq_getElem?_getD
abbrev Qb:=@Nat.le_refl
abbrev Qc:=@List.getElem?_eq_getElem
abbrev Qd:=@Bool.and_eq_true
abbrev Qe:=@List.mem_of_getElem?
abbrev Qf:=@Nat.zero_le
abbrev Qg:=@List.getElem?_eq_some_iff
abbrev Qh:=@List.length_append
abbrev Qi:=@List.take_of_length_le
abbrev Qj:=@Int.toNat_natCast
abbrev Qk:=@List.mem_cons_self
abbrev Ql:=@List.mem_cons_of_mem
abbrev Qm:=@List.mem_singleton
abbrev Qn:=@List.length_take
abbrev Qo:=@List.length_map
abbrev Qp:=@Array.getElem?_eq_some_iff
abbrev Qq:=@Option.getD_some
abbrev Qr:=@decide_eq_true_eq
abbrev Qs:=@List.length_cons
abbrev Qt:=@List.take_add_one
abbrev Qu:=@List.mem_append
abbrev Qv:=@List.mem_cons
abbrev Qw:=@Bool.true_and
abbrev Qx:=@List.append_assoc
abbrev Qy:=@List.drop_eq_getElem_cons
abbrev Qz:=@Option.bind_some
abbrev W0:=@List.pairwise_iff_getElem
abbrev W1:=@List.all_eq_true
abbrev W2:=@List.mem_range
abbrev W3:=@List.drop_of_length_le
abbrev W4:=@Nat.lt_or_ge
abbrev W5:=@List.getElem?_append_right
abbrev W6:=@List.mem_map
abbrev W7:=@List.any_eq_false
abbrev W8:=@List.pairwise_cons
abbrev W9:=@List.take_append_drop
abbrev Wa:=@List.cons_append
abbrev Wb:=@Nat.add_mul
abbrev Wc:=@List.flatMap_cons
abbrev Wd:=@List.mem_of_mem_take
abbrev We:=@Array.getElem?_eq_none
abbrev Wf:=@List.take_succ_eq_append_getElem
abbrev Wg:=@List.getElem?_take_of_lt
abbrev Wh:=@Array.getElem?_setIfInBounds_ne
abbrev Wi:=@Nat.mul_comm
abbrev vi(x:Int) : Value:=.int .i64 x
abbrev pZ9(b:Nat):Value:=.pointer (some ⟨b,0,none⟩)
def tv0:True:=trivial
def look(t:Nat) : List (Nat×Value)->Option Value
 | []=>none
 | (k,v)::l=>match Nat.beq k t with
  | true=>some v
  | false=>look t l
structure Fr (a:Act) (n:Nat) (e:List (Nat×Value)) : Prop where
 d:a.defers=[]
 s:a.tmps.size=n
 h:∀ t v,look t e=some v->a.tmps[t]? = some v
def ev(e:List (Nat×Value)) : Operand->Option Value
 | .tmp t=>look t e
 | .const v=>some v
 | .global g=>some (.pointer (some ⟨g,0,none⟩))
 | .func f=>some (.func (.func f) #[] #[])
def Fr.ev{a:Act}{n:Nat}{e:List (Nat×Value)}{x:Operand}{v:Value}(hf:Fr a n e)(hx:ev e x=some v):a.eval x=v:=by
 cases x with
 | tmp t=>
  have:=hf.h t v hx;simp[Act.eval,this]
 | const u=>simpa[YthbobfjhofgfdaaGreat.ev,Act.eval] using hx
 | global g=>simpa[YthbobfjhofgfdaaGreat.ev,Act.eval] using hx
 | func f=>simpa[YthbobfjhofgfdaaGreat.ev,Act.eval] using hx
def evs(e:List (Nat×Value)) : List Operand->Option (List Value)
 | []=>some []
 | x::l=>match ev e x,evs e l with
  | some v,some vs=>some (v::vs)
  | _,_=>none
def Fr.evs{a:Act}{n:Nat}{e:List (Nat×Value)}(hf:Fr a n e):∀ {l:List Operand} {vs:List Value},evs e l=some vs->l.map a.eval=vs:=by
 intro l
 induction l with
 | nil=>intro vs h;simpa[YthbobfjhofgfdaaGreat.evs] using h
 | cons x l ih=>
  intro vs h;simp only[YthbobfjhofgfdaaGreat.evs] at h;split at h
  ·rename_i v us h1 h2;injection h with h;subst h;simp[hf.ev h1,ih h2]
  ·cases h
def X56(d:Nat)(v:Value)(e:List (Nat×Value)):look d ((d,v)::e)=some v:=by simp[look]
def X6g{d t:Nat}(v:Value)(e:List (Nat×Value))(h:d≠t):look t ((d,v)::e)=look t e:=by
 have:Nat.beq d t=false:=by
  cases hb:Nat.beq d t
  ·rfl
  ·exact absurd (Nat.eq_of_beq_eq_true hb) h
 simp[look,this]
def Fr.put{a:Act}{n:Nat}{e:List (Nat×Value)}(hf:Fr a n e)(d:Nat)(v:Value)(hd:Nat.blt d n=true):Fr (a.put (some d) v) n ((d,v)::e):=by
 have hd':d<n:=by simpa[Nat.blt_eq] using hd
 refine ⟨hf.d,by simp[Act.put,hf.s],fun t u hu=>?_⟩;by_cases h:d=t
 ·subst h;rw[X56] at hu;injection hu with hu;subst hu;simp[Act.put,hf.s,hd']
 ·rw[X6g _ _ h] at hu;simp[Act.put,Wh h,hf.h t u hu]
def Fr.put_none{a:Act}{n:Nat}{e:List (Nat×Value)}(hf:Fr a n e)(v:Value):Fr (a.put none v) n e:=hf
def Sub(e:List (Nat×Value)) : List (Nat×Value)->Prop
 | []=>True
 | (t,v)::l=>look t e=some v/\Sub e l
def Fr.sub{a:Act}{n:Nat}{e e':List (Nat×Value)}(hf:Fr a n e)(hs:Sub e e'):Fr a n e':=by
 refine ⟨hf.d,hf.s,?_⟩
 induction e' with
 | nil=>intro t v h;cases h
 | cons p l ih=>
  have ⟨k,u⟩:=p;intro t v h;by_cases hk:k=t
  ·subst hk;rw[X56] at h;injection h with h;subst h;exact hf.h _ _ hs.1
  ·rw[X6g _ _ hk] at h;exact ih hs.2 t v h
def Fr.sb{a:Act}{n:Nat}{e e':List (Nat×Value)}(hf:Fr a n e)(hs:Sub e e':=by repeat (first|exact trivial|refine ⟨rfl,?_⟩)):Fr a n e':=hf.sub hs
def zipFrom:Nat->List Value->List (Nat×Value)
 | _,[]=>[]
 | k,v::l=>(k,v)::zipFrom (k+1) l
def Xfj{l:List Value}{t:Nat}{v:Value}:∀ {k:Nat},look t (zipFrom k l)=some v->k<=t/\l[t-k]? = some v:=by
 induction l with
 | nil=>intro k h;cases h
 | cons u l ih=>
  intro k h;simp only[zipFrom] at h;by_cases hk:k=t
  ·subst hk;rw[X56] at h;exact ⟨Qb _,by simpa using h⟩
  ·rw[X6g _ _ hk] at h;have ⟨h1,h2⟩:=ih h;refine ⟨by omega,?_⟩;have:t-k=(t-(k+1))+1:=by omega
   rw[this,List.getElem?_cons_succ];exact h2
def Xoz{P:Program}{f:FuncId}{fn:Func}{c:Code}{args:List Value}{w:World}{R:Ending->World->Prop}
  (hf:P.funcs[f]? = some fn) (hb:fn.body=some c) (n:Nat) (hn:fn.ntmps=n) (hl:Nat.ble args.length n=true)
  (h:∀ a,Fr a n (zipFrom 0 args)->c.wp P (bodyPost P fn R) a w) : Calls P f args.toArray w R:=by
 refine calls_of_wp hf hb (h _ ⟨O,?_,?_⟩)
 ·have:args.length<=n:=by simpa[Nat.ble_eq] using hl
  simp[hn];omega
 ·intro t v hv;have ⟨_,h2⟩:=Xfj hv;have hlt:t<args.length:=by
   have:=(Qg.1 h2).1;simpa using this
  simp only[Nat.sub_zero] at h2;rw[Array.getElem?_append_left (by simpa using hlt)];simpa using h2
def Ev(P:Program)(o:Oper)(a:Act)(w:World)(v:Value) : Prop:=∀ w',Below w.heap.size w w'->(execOp a.eval o).run P w'=.ok (.value v) w'
def EfU(P:Program)(R:Value->World->Prop) : Result Next->Prop
 | .ok (.value v) w'=>R v w'
 | .ok .skip w'=>R undef w'
 | .ok (.enter f args) w'=>Calls P f args w' fun e w''=>∃ v,e=.returned v/\R v w''
 | .ok (.row row args) w'=>Rows P row args w' R
 | _=>False
def Ef(P:Program)(o:Oper)(a:Act)(w:World)(R:Value->World->Prop) : Prop:=EfU P R ((execOp a.eval o).run P w)
def Ef.wp{P:Program}{o:Oper}{a:Act}{w:World}{R:Value->World->Prop}(h:Ef P o a w R){K:Act->World->Prop}{Q:Exit->Act->World->Prop}
  (hK:∀ v w',R v w'->K (a.put o.dst v) w') : o.wp P a w K Q:=by
 unfold Ef at h;unfold Oper.wp;generalize (execOp a.eval o).run P w=r at *;cases r with
 | ok nx w'=>
  cases nx<;>simp only[EfU] at h<;>simp only[Oper.upon]
  case value u=>exact hK _ _ h
  case skip=>exact hK _ _ h
  case enter f args=>
   refine Calls.mono h fun e w'' ⟨v,he,hR⟩=>?_;subst he;exact hK _ _ hR
  case row row args=>exact Rows.mono h fun u w'' hR=>hK _ _ hR
 | halt x w'=>simp only[EfU] at h
def EvW(P:Program)(o:Oper)(n:Nat)(e:List (Nat×Value))(w:World)(v:Value) : Prop:=∀ a,Fr a n e->Ev P o a w v
def EfW(P:Program)(o:Oper)(n:Nat)(e:List (Nat×Value))(w:World)(R:Value->World->Prop) : Prop:=∀ a,Fr a n e->Ef P o a w R
def Ef.of_run{P:Program}{o:Oper}{a:Act}{w w':World}{v:Value}(h:(execOp a.eval o).run P w=.ok (.value v) w'):Ef P o a w fun u w1=>u=v/\w1=w':=by
 unfold Ef;rw[h];exact ⟨O,O⟩
def Ef.of_skip{P:Program}{o:Oper}{a:Act}{w w':World}(h:(execOp a.eval o).run P w=.ok .skip w'):Ef P o a w fun u w1=>u=undef/\w1=w':=by
 unfold Ef;rw[h];exact ⟨O,O⟩
def Ef.mono{P:Program}{o:Oper}{a:Act}{w:World}{R R':Value->World->Prop}(h:Ef P o a w R)(hr:∀ v w',R v w'->R' v w'):Ef P o a w R':=by
 unfold Ef at *;generalize (execOp a.eval o).run P w=r at *;cases r with
 | ok nx w'=>
  cases nx<;>simp only[EfU] at h ⊢
  case value u=>exact hr _ _ h
  case skip=>exact hr _ _ h
  case enter f args=>exact Calls.mono h fun e w'' ⟨v,he,hR⟩=>⟨v,he,hr _ _ hR⟩
  case row row args=>exact Rows.mono h hr
 | halt x w'=>simp only[EfU] at h
def Ef.of_ev{P:Program}{o:Oper}{a:Act}{w:World}{v:Value}(h:Ev P o a w v):Ef P o a w fun u w1=>u=v/\w1=w:=Ef.of_run (h w (Below.refl _ _))
def Want(ops:Array Oper)(o:Oper)(e:List (Nat×Value)) : Prop:=
 match o.guard with
 | none=>True
 | some (j,b)=>∃ t b',(ops[j]?).bind (·.dst)=some t/\look t e=some (.bool b')/\b'=b
def notB:Value->Bool->Prop
 | .bool b',b=>b' = !b
 | _,_=>True
def Pass(ops:Array Oper)(o:Oper)(e:List (Nat×Value)) : Prop:=
 match o.guard with
 | none=>False
 | some (j,b)=>∃ t v,(ops[j]?).bind (·.dst)=some t/\look t e=some v/\notB v b
def bz(w:World):Below w.heap.size w w:=Below.refl _ _
def WantC(ops:Array Oper)(o:Oper)(e:List (Nat×Value)) : Prop:=
 match o.guard with
 | none=>True
 | some (j,b)=>match (ops[j]?).bind (·.dst) with
  | some t=>match look t e with
   | some (.bool b')=>b'=b
   | _=>False
  | none=>False
def PassC(ops:Array Oper)(o:Oper)(e:List (Nat×Value)) : Prop:=
 match o.guard with
 | none=>False
 | some (j,b)=>match (ops[j]?).bind (·.dst) with
  | some t=>match look t e with
   | some v=>notB v b
   | none=>False
  | none=>False
def gW{ops:Array Oper}{o:Oper}{e:List (Nat×Value)}(h:WantC ops o e):Want ops o e:=by grind [Want,WantC]
def gP{ops:Array Oper}{o:Oper}{e:List (Nat×Value)}(h:PassC ops o e):Pass ops o e:=by
 unfold PassC at h;unfold Pass;split
 ·rename_i hg;rw[hg] at h;exact h
 ·rename_i j b hg;rw[hg] at h;simp only at h;split at h
  ·rename_i t ht;split at h
   ·rename_i v hv;exact ⟨t,v,ht,hv,h⟩
   ·cases h
  ·cases h
def Want.wanted{ops:Array Oper}{o:Oper}{a:Act}{n:Nat}{e:List (Nat×Value)}(h:Want ops o e)(hf:Fr a n e):Region.wanted o (yielded ops a.tmps)=true:=by
 unfold Want at h;unfold Region.wanted;split at h
 ·rename_i hg;simp[hg]
 ·rename_i j b hg;obtain ⟨t,b',h1,h2,h3⟩:=h;simp only[hg];unfold yielded;simp[h1,hf.h _ _ h2,h3]
def Pass.wanted{ops:Array Oper}{o:Oper}{a:Act}{n:Nat}{e:List (Nat×Value)}(h:Pass ops o e)(hf:Fr a n e):Region.wanted o (yielded ops a.tmps)=false:=by
 unfold Pass at h;unfold Region.wanted;split at h
 ·cases h
 ·rename_i j b hg;have ⟨t,v,h1,h2,h3⟩:=h;simp only[hg];unfold yielded;rw[h1,Qz,hf.h _ _ h2];cases v<;>first|rfl|(simp only[notB] at h3;subst h3;cases b<;>rfl)
section
variable {P : Program} {ops : Array Oper} {Q : Exit -> Act -> World -> Prop} {a : Act} {w : World} {rest : List Oper} {o : Oper} {n d : Nat} {e : List (Nat × Value)}
theorem Xra{R:Value->World->Prop}(hf:Fr a n e)(hw:Want ops o e)(hd:o.dst=some d)(hn:Nat.blt d n=true)(hr:Ef P o a w R)
  (h:∀ a' v w',R v w'->Fr a' n ((d,v)::e)->wpList P ops Q rest a' w') : wpList P ops Q (o::rest) a w:=
 wpList_step fun K hK=>by
  rw[Q4 (hw.wanted hf)];exact hr.wp fun v w' hR=>hK _ _ (h _ v w' hR (by rw[hd];exact hf.put d v hn))
theorem Y58{R:Value->World->Prop}(hf:Fr a n e)(hw:Want ops o e)(hd:o.dst=none)(hr:Ef P o a w R)
  (h:∀ a' v w',R v w'->Fr a' n e->wpList P ops Q rest a' w') : wpList P ops Q (o::rest) a w:=
 wpList_step fun K hK=>by
  rw[Q4 (hw.wanted hf)];exact hr.wp fun v w' hR=>hK _ _ (h _ v w' hR (by rw[hd];exact hf.put_none v))
theorem Y59{v:Value}(hf:Fr a n e)(hw:Want ops o e)(hd:o.dst=some d)(hn:Nat.blt d n=true)(hr:Ev P o a w v)
  (h:∀ a',Fr a' n ((d,v)::e)->wpList P ops Q rest a' w) : wpList P ops Q (o::rest) a w:=
 Xra hf hw hd hn (Ef.of_ev hr) fun a' v' w' hR hf'=>by
  obtain ⟨rfl,rfl⟩:=hR;exact h a' hf'
theorem Y5a(hf:Fr a n e)(hw:Pass ops o e)(hd:o.dst=some d)(hn:Nat.blt d n=true)
  (h:∀ a',Fr a' n ((d,undef)::e)->wpList P ops Q rest a' w) : wpList P ops Q (o::rest) a w:=
 wpList_step fun K hK=>by
  rw[Q3 (by rw[hw.wanted hf];simp)];exact hK _ _ (h _ (by rw[hd];exact hf.put d undef hn))
end
section
variable {P : Program} {ops : Array Oper} {Q : Exit -> Act -> World -> Prop} {a : Act} {w : World} {rest : List Oper} {op : Op} {ty : TypeId} {pos : String} {af : Array Edge} {n d : Nat} {e : List (Nat × Value)}
theorem l_e{v:Value}(hf:Fr a n e)(hn:Nat.blt d n=true)(hr:Ev P ⟨some d,op,ty,pos,af,none⟩ a w v)(h:∀ a',Fr a' n ((d,v)::e)->wpList P ops Q rest a' w):wpList P ops Q (⟨some d,op,ty,pos,af,none⟩::rest) a w:=Y59 hf trivial rfl hn hr h
theorem l_f{R:Value->World->Prop}(hf:Fr a n e)(hn:Nat.blt d n=true)(hr:Ef P ⟨some d,op,ty,pos,af,none⟩ a w R)(h:∀ a' v w',R v w'->Fr a' n ((d,v)::e)->wpList P ops Q rest a' w'):wpList P ops Q (⟨some d,op,ty,pos,af,none⟩::rest) a w:=Xra hf trivial rfl hn hr h
theorem Ye2{R:Value->World->Prop}(hf:Fr a n e)(hr:Ef P ⟨none,op,ty,pos,af,none⟩ a w R)(h:∀ a' v w',R v w'->Fr a' n e->wpList P ops Q rest a' w'):wpList P ops Q (⟨none,op,ty,pos,af,none⟩::rest) a w:=Y58 hf trivial rfl hr h
theorem Ye3{x:Operand}{v:Value}(hf:Fr a n e)(hx:ev e x=some v)(hn:Nat.blt d n=true)(h:∀ a',Fr a' n ((d,v)::e)->wpList P ops Q rest a' w):wpList P ops Q (⟨some d,.move x,ty,pos,af,none⟩::rest) a w:=l_e hf hn (fun w' _=>by simp[execOp,hf.ev hx]) h
theorem Ye1{x:Operand}{v:Value}(hf:Fr a n e)(hx:ev e x=some v)(hn:Nat.blt d n=true)(h:∀ a',Fr a' n ((d,v)::e)->wpList P ops Q rest a' w):wpList P ops Q (⟨some d,.assign x,ty,pos,af,none⟩::rest) a w:=l_e hf hn (fun w' _=>by simp[execOp,hf.ev hx]) h
end
structure Only (b:Nat) (w w':World) : Prop where
 os:w'.os=w.os
 tape:w'.tape=w.tape
 output:w'.output=w.output
 size:w'.heap.size=w.heap.size
 block:∀ k,k≠b->w'.heap[k]? = w.heap[k]?
def Only.refl(b:Nat)(w:World):Only b w w:=⟨rfl,rfl,rfl,rfl,fun _ _=>rfl⟩
def Only.trans{b:Nat}{w w' w'':World}(h:Only b w w')(k:Only b w' w''):Only b w w'':=
 ⟨k.os.trans h.os,k.tape.trans h.tape,k.output.trans h.output,k.size.trans h.size,fun i hi=>(k.block i hi).trans (h.block i hi)⟩
structure Kept (b B:Nat) (w w':World) : Prop where
 os:w'.os=w.os
 tape:w'.tape=w.tape
 output:w'.output=w.output
 size:w.heap.size<=w'.heap.size
 block:∀ k,k<B->k≠b->w'.heap[k]? = w.heap[k]?
def Kept.refl(b B:Nat)(w:World):Kept b B w w:=⟨rfl,rfl,rfl,Qb _,fun _ _ _=>rfl⟩
def Kept.of_below{b B:Nat}{w w':World}(h:Below B w w'):Kept b B w w':=⟨h.os,h.tape,h.output,h.size,fun k hk _=>h.block k hk⟩
def Kept.trans{b B:Nat}{w w' w'':World}(h:Kept b B w w')(k:Below B w' w''):Kept b B w w'':=
 ⟨k.os.trans h.os,k.tape.trans h.tape,k.output.trans h.output,Q0 h.size k.size,fun i hi hn=>(k.block i hi).trans (h.block i hi hn)⟩
def Kept.transK{b B:Nat}{w w' w'':World}(h:Kept b B w w')(k:Kept b B w' w''):Kept b B w w'':=
 ⟨k.os.trans h.os,k.tape.trans h.tape,k.output.trans h.output,Q0 h.size k.size,fun i hi hn=>(k.block i hi hn).trans (h.block i hi hn)⟩
def Kept.mono{b B B':Nat}{w w':World}(h:Kept b B w w')(hB:B'<=B):Kept b B' w w':=⟨h.os,h.tape,h.output,h.size,fun k hk=>h.block k (Nat.lt_of_lt_of_le hk hB)⟩
def Kept.oy{b b' B:Nat}{w w' w'':World}(h:Kept b B w w')(ho:Only b' w' w'')(hB:B<=b'):Kept b B w w'':=
 h.trans ⟨ho.os,ho.tape,ho.output,by rw[ho.size];exact Qb _,fun k hk=>ho.block k Z⟩
def Kept.self{b B:Nat}{w w' w'':World}(h:Kept b B w w')(ho:Only b w' w''):Kept b B w w'':=
 h.transK ⟨ho.os,ho.tape,ho.output,by rw[ho.size];exact Qb _,fun k _ hk=>ho.block k hk⟩
def Kept.mid{b:Nat}{w w':World}(h:Kept b w.heap.size w w'):∃ w1,Only b w w1/\(b<w.heap.size->w1.heap[b]? = w'.heap[b]?)/\Below w1.heap.size w1 w':=by
 cases hb:w'.heap[b]? with
 | none=>
  have hlt:w.heap.size<=b:=Q0 h.size (Array.getElem?_eq_none_iff.1 hb);refine ⟨w,Only.refl _ _,fun h'=>by omega,⟨h.os,h.tape,h.output,h.size,fun k hk=>h.block k hk Z⟩⟩
 | some o=>
  refine ⟨{ w with heap:=w.heap.setIfInBounds b o },⟨O,O,O,by simp,fun k hk=>?_⟩,fun h'=>?_,⟨h.os,h.tape,h.output,by simpa using h.size,fun k hk=>?_⟩⟩
  ·show (w.heap.setIfInBounds b o)[k]? = _;rw[Wh (Ne.symm hk)]
  ·show (w.heap.setIfInBounds b o)[b]? = _;simp[h']
  ·have hk':k<w.heap.size:=by simpa using hk
   show _=(w.heap.setIfInBounds b o)[k]?;by_cases hkb:k=b
   ·subst hkb;simp[hk',hb]
   ·rw[Wh (Ne.symm hkb)];exact h.block k hk' hkb
def btr{w0 w w':World}(h:Below w0.heap.size w0 w)(hE:Below w.heap.size w w'):Below w0.heap.size w0 w':=h.trans (hE.mono h.size)
def ktr{b:Nat}{w0 w w':World}(h:Kept b w0.heap.size w0 w)(hE:Below w.heap.size w w'):Kept b w0.heap.size w0 w':=h.trans (hE.mono h.size)
inductive Vk
 | but (b:Nat)
 | base (N:Nat)
instance:Coe Nat Vk:=⟨Vk.but⟩
def Keep(V:Option Vk)(w w':World) : Prop:=match V with
 | none=>Below w.heap.size w w'
 | some (.but b)=>∃ w1,Only b w w1/\Below w.heap.size w1 w'
 | some (.base N)=>Below (min N w.heap.size) w w'
def Keep.refl(V:Option Vk)(w:World):Keep V w w:=by
 cases V with
 | none=>exact Below.refl _ _
 | some b=>cases b with
  | but b=>exact ⟨w,Only.refl _ _,Below.refl _ _⟩
  | base N=>exact Below.refl _ _
def Keep.kept{b:Nat}{w w':World}(h:Keep (some b) w w'):Kept b w.heap.size w w':=by
 have ⟨w1,h1,h2⟩:=h;exact (Kept.self (Kept.refl b w.heap.size w) h1).trans h2
def Kept.keep{b:Nat}{w w':World}(h:Kept b w.heap.size w w'):Keep (some b) w w':=by
 have ⟨w1,h1,_,h2⟩:=h.mid;exact ⟨w1,h1,by rw[<- h1.size];exact h2⟩
def Keep.of_below{V:Option Vk}{w w':World}(h:Below w.heap.size w w'):Keep V w w':=by
 cases V with
 | none=>exact h
 | some b=>cases b with
  | but b=>exact ⟨w,Only.refl _ _,h⟩
  | base N=>exact Below.mono h (Nat.min_le_right _ _)
def Keep.trans{V:Option Vk}{w w' w'':World}(h:Keep V w w')(k:Keep V w' w''):Keep V w w'':=by
 cases V with
 | none=>exact Below.trans h (Below.mono k h.size)
 | some b=>cases b with
  | but b=>exact (h.kept.transK (k.kept.mono h.kept.size)).keep
  | base N=>exact Below.trans h (Below.mono k (by have:=h.size;omega))
section
variable {P : Program} {ops : Array Oper} {Q : Act -> World -> Prop} {tl : Nat -> Bool} {V : Option Vk}
def wpR(P:Program)(ops:Array Oper)(V:Option Vk)(tl:Nat->Bool)(i:Nat)(K:Act->World->Prop)(a:Act)(w:World) : Prop:=
 match ops[i]? with
 | none=>K a w
 | some o=>if Region.wanted o (yielded ops a.tmps) then Ef P o a w (fun v w'=>(tl i=false->Keep V w w')/\K (a.put o.dst v) w') else K (a.put o.dst undef) w
def wpS(P:Program)(ops:Array Oper)(V:Option Vk)(tl:Nat->Bool)(Q:Act->World->Prop) : Nat->Array Bool->Act->World->Prop
 | 0,listed,a,w=>Region.ready .any ops listed=[]/\Q a w
 | fuel+1,listed,a,w=>(Region.ready .any ops listed=[]->Q a w)/\∀ i ∈ Region.ready .any ops listed,wpR P ops V tl i (wpS P ops V tl Q fuel (listed.setIfInBounds i true)) a w
theorem Xua{i:Nat}{K K':Act->World->Prop}{a:Act}{w:World}(h:∀ a w,K a w->K' a w)(hh:wpR P ops V tl i K a w):wpR P ops V tl i K' a w:=by
 unfold wpR at *;split
 ·exact h _ _ (by simpa[*] using hh)
 ·rename_i o ho;simp only[ho] at hh;split
  ·rename_i hw;simp only[hw,if_true] at hh;exact hh.mono fun v w' ⟨h1,h2⟩=>⟨h1,h _ _ h2⟩
  ·rename_i hw;simp only[hw] at hh;exact h _ _ hh
theorem X45{Q':Exit->Act->World->Prop}(hQ:∀ a w,Q a w->Q' .normal a w):∀ (fuel:Nat) (listed:Array Bool) (a:Act) (w:World),wpS P ops V tl Q fuel listed a w->wpAny P .any ops Q' fuel listed a w
 | 0,_,_,_,h=>⟨h.1,hQ _ _ h.2⟩
 | fuel+1,listed,a,w,h=>by
  refine ⟨fun h0=>hQ _ _ (h.1 h0),fun i hi=>?_⟩;have h1:=h.2 i hi;unfold wpR at h1;unfold wpOp;split
  ·rename_i ho;simp only[ho] at h1;exact X45 hQ fuel _ _ _ h1
  ·rename_i o ho;simp only[ho] at h1;split
   ·rename_i hw;simp only[hw,if_true] at h1;exact .inl (h1.wp fun v w' hR=>X45 hQ fuel _ _ _ hR.2)
   ·rename_i hw;simp only[hw] at h1;exact X45 hQ fuel _ _ _ h1
def YC(P:Program)(ops:Array Oper)(C:World->Prop)(o:Oper)(v:Value)(a:Act) : Prop:=
 (Region.wanted o (yielded ops a.tmps)=true/\∀ w,C w->(execOp a.eval o).run P w=.ok (.value v) w)∨(Region.wanted o (yielded ops a.tmps)=false/\v=undef)
theorem YC.of_same{C:World->Prop}{o:Oper}{v:Value}{a a':Act}(hy:YC P ops C o v a)(he:execOp a'.eval o=execOp a.eval o)
  (hw:Region.wanted o (yielded ops a'.tmps)=Region.wanted o (yielded ops a.tmps)) : YC P ops C o v a':=by
 unfold YC at *;rw[he,hw];exact hy
theorem YC.wpR{C:World->Prop}{i:Nat}{o:Oper}{v:Value}{a:Act}{w:World}(hi:ops[i]? = some o)(hC:C w)(hy:YC P ops C o v a){K:Act->World->Prop}(h:K (a.put o.dst v) w):wpR P ops V tl i K a w:=by
 unfold YthbobfjhofgfdaaGreat.wpR;simp only[hi];rcases hy with ⟨hw,hv⟩|⟨hw,rfl⟩
 ·simp only[hw,if_true];exact (Ef.of_run (hv w hC)).mono fun u w' ⟨e1,e2⟩=>by subst e1;subst e2;exact ⟨fun _=>Keep.refl _ _,h⟩
 ·simp only[hw,Bool.false_eq_true,if_false];exact h
theorem Y25{oi oj:Oper}{v:Value}(h1:∀ d,oi.dst=some d->d ∉ oj.looksAt ops)(hsj:∀ cs b,oj.op≠.select cs b)
  {a:Act} {w:World} {R:Value->World->Prop} (h:Ef P oj (a.put oi.dst v) w R) : Ef P oj a w R:=by
 unfold Ef at *
 rwa [execOp_put oj hsj a oi.dst v h1] at h
theorem Xz6{C:World->Prop}{j:Nat}{oi oj:Oper}{v:Value}(hj:ops[j]? = some oj)(hap:oi.apart ops oj=true)
  (hsi:∀ cs b,oi.op≠.select cs b) (hsj:∀ cs b,oj.op≠.select cs b) (hC:∀ w w',C w->(tl j=false->Keep V w w')->C w') {K:Act->World->Prop} {a:Act} {w:World} (hw0:C w)
  (hy:YC P ops C oi v a) (h:wpR P ops V tl j K (a.put oi.dst v) w) : wpR P ops V tl j (fun a' w'=>C w'/\YC P ops C oi v a'/\K (a'.put oi.dst v) w') a w:=by
 have ⟨h1,h2,h3⟩:=Oper.apart_spec hap;have keep:∀ (a:Act),YC P ops C oi v a->∀ u,YC P ops C oi v (a.put oj.dst u):=fun a hy u=>
  hy.of_same (execOp_put oi hsi a oj.dst u h3) (wanted_put oi a oj.dst u h3)
 unfold wpR at *;simp only[hj] at *;rw[wanted_put oj a oi.dst v h1] at h;split
 ·rename_i hw;simp only[hw,if_true] at h;exact (Y25 h1 hsj h).mono fun u w' ⟨hb,hk⟩=>⟨hb,hC w w' hw0 hb,keep a hy u,by rw[<- Act.put_comm a v u h2];exact hk⟩
 ·rename_i hw;simp only[hw] at h;exact ⟨hw0,keep a hy _,by rw[<- Act.put_comm a v undef h2];exact h⟩
def Closed(ops:Array Oper)(listed:Array Bool) : Prop:=∀ k ok,ops[k]? = some ok->listed.getD k false=true->∀ e ∈ ok.after,Region.binds .any e=true->listed.getD e.on false=true
theorem X8d{listed:Array Bool}{j k:Nat}(h:listed.getD k false=true):(listed.setIfInBounds j true).getD k false=true:=by
 rcases W4 k listed.size with hk|hk
 ·by_cases hjk:j=k
  ·subst hjk;simp[hk]
  ·simpa[hk,Array.getElem_setIfInBounds_ne _ hjk] using h
 ·simp[We hk] at h
theorem Closed.set{listed:Array Bool}{j:Nat}{oj:Oper}(h:Closed ops listed)(hj:ops[j]? = some oj)(hall:∀ e ∈ oj.after,Region.binds .any e=true->listed.getD e.on false=true):Closed ops (listed.setIfInBounds j true):=fun k ok hk hl e he hb=>by
 by_cases hjk:j=k
 ·subst hjk;rw[hj] at hk;injection hk with hk;subst hk;exact X8d (hall e he hb)
 ·rw[getD_set_ne false hjk] at hl;exact X8d (h k ok hk hl e he hb)
def reach(ops:Array Oper)(i:Nat) : Nat->Nat->Bool
 | 0,_=>false
 | f+1,j=>match ops[j]? with
  | some oj=>oj.after.any fun e=>Region.binds .any e&&(e.on==i||reach ops i f e.on)
  | none=>false
theorem X9l{listed:Array Bool}{i:Nat}(hcl:Closed ops listed):∀ (f j:Nat) (oj:Oper),ops[j]? = some oj->(∀ e ∈ oj.after,Region.binds .any e=true->listed.getD e.on false=true)->reach ops i f j=true->listed.getD i false=true
 | 0,_,_,_,_,h=>by cases h
 | f+1,j,oj,hj,hall,h=>by
  simp only[reach,hj] at h;have ⟨e,he,hb⟩:=Array.any_eq_true'.1 h;simp only[Qd,Bool.or_eq_true,beq_iff_eq] at hb;have h1:=hall e he hb.1;rcases hb.2 with h2|h2
  ·rw[<- h2];exact h1
  ·cases hk:ops[e.on]? with
   | none=>
    cases f with
    | zero=>cases h2
    | succ f=>simp only[reach,hk] at h2;cases h2
   | some ok=>exact X9l hcl f e.on ok hk (hcl e.on ok hk h1) h2
theorem Xa8{C:World->Prop}{i:Nat}{oi:Oper}{v:Value}(hi:ops[i]? = some oi)(hsel:∀ (j:Nat) (o:Oper) cs b,ops[j]? = some o->o.op≠.select cs b)
  (hC:∀ j oj,ops[j]? = some oj->(∀ listed,Closed ops listed->(∀ e ∈ oj.after,Region.binds .any e=true->listed.getD e.on false=true)->listed.getD i true=false->∀ w w',C w->(tl j=false->Keep V w w')->C w')) :
  ∀ (fuel:Nat) (listed:Array Bool) (a:Act) (w:World),Closed ops listed->
   (∀ j oj,ops[j]? = some oj->j≠i->listed.getD j true=false->(∀ e ∈ oj.after,Region.binds .any e=true->e.on≠i)->oi.apart ops oj=true)->
   i ∈ Region.ready .any ops listed->C w->YC P ops C oi v a->
   wpS P ops V tl Q fuel (listed.setIfInBounds i true) (a.put oi.dst v) w->wpS P ops V tl Q (fuel+1) listed a w:=by
 intro fuel
 induction fuel with
 | zero=>
  intro listed a w _ _ hr hw hy H;refine ⟨fun h=>(by rw[h] at hr;cases hr),fun j hj=>?_⟩;by_cases hji:j=i
  ·subst hji;exact hy.wpR hi hw H
  ·have:=ready_mono hj hji;rw[H.1] at this;cases this
 | succ fuel ih=>
  intro listed a w hcl hfree hr hw hy H;refine ⟨fun h=>(by rw[h] at hr;cases hr),fun j hj=>?_⟩;by_cases hji:j=i
  ·subst hji;exact hy.wpR hi hw H
  ·have h1:=H.2 j (ready_mono hj hji);have ⟨hjun,oj,hoj,hall⟩:=mem_ready.1 hj;have hnot:∀ e ∈ oj.after,Region.binds .any e=true->e.on≠i:=fun e he hb heq=>by
    have h1:=hall e he hb;have h0:=(mem_ready.1 hr).1;rw[heq] at h1;rcases W4 i listed.size with h'|h'
    ·simp[h'] at h0 h1;rw[h0] at h1;cases h1
    ·simp[We h'] at h1
   have h2:=Xz6 hoj (hfree j oj hoj hji hjun hnot) (fun cs b=>hsel i oi cs b hi) (fun cs b=>hsel j oj cs b hoj) (hC j oj hoj listed hcl hall (mem_ready.1 hr).1) hw hy h1;have hfree':∀ k ok,ops[k]? = some ok->k≠i->(listed.setIfInBounds j true).getD k true=false->
     (∀ e ∈ ok.after,Region.binds .any e=true->e.on≠i)->oi.apart ops ok=true:=fun k ok hk hki hun hno=>by
    refine hfree k ok hk hki ?_ hno;by_cases hjk:j=k
    ·subst hjk;exact hjun
    ·rw[getD_set_ne true hjk] at hun;exact hun
   refine Xua (fun a' w' h3=>ih (listed.setIfInBounds j true) a' w' (hcl.set hoj hall) hfree' (ready_mono hr (Ne.symm hji)) h3.1 h3.2.1 ?_) h2;rw[Array.setIfInBounds_comm _ _ hji];exact h3.2.2
def mask(ops:Array Oper)(done:List Nat) : Array Bool:=(Array.range ops.size).map fun i=>done.contains i
theorem X70(ops:Array Oper)(done:List Nat)(i:Nat):(mask ops done).setIfInBounds i true=mask ops (i::done):=by grind [mask]
theorem Xh4(ops:Array Oper):Array.replicate ops.size false=mask ops []:=by
 apply Array.ext<;>simp[mask]
def closedB(ops:Array Oper)(done:List Nat) : Bool:=done.all fun k=>match ops[k]? with
 | some ok=>ok.after.all fun e=>!(Region.binds .any e)||done.contains e.on&&Nat.blt e.on ops.size
 | none=>true
def mayFirst(ops:Array Oper)(done:List Nat)(i:Nat) : Bool:=
 Region.noSelect ops&&Region.free .any ops (mask ops done) i&&(Region.ready .any ops (mask ops done)).contains i&&closedB ops done
theorem Xdt{done:List Nat}{k:Nat}(d:Bool)(h:k<ops.size):(mask ops done).getD k d=done.contains k:=by
 simp[mask,h]
theorem mask_getD'{done:List Nat}{k:Nat}(h:(mask ops done).getD k false=true):done.contains k=true:=by
 rcases W4 k ops.size with h'|h'
 ·rwa [Xdt false h'] at h
 ·simp[mask,h'] at h
theorem X65{done:List Nat}(h:closedB ops done=true):Closed ops (mask ops done):=fun k ok hk hl e he hb=>by
 have h1:=mask_getD' hl;simp only[closedB,W1] at h;have h2:=h k (by simpa using h1);simp only[hk] at h2;have h3:=Array.all_eq_true'.1 h2 e he;simp only[hb,Bool.not_true,Bool.false_or,Qd] at h3;have h4:e.on<ops.size:=by simpa[Nat.blt_eq] using h3.2
 rw[Xdt false h4];exact h3.1
def tailWaits(ops:Array Oper)(tl:Nat->Bool)(i:Nat) : Bool:=
 (List.range ops.size).all fun j=>!tl j||reach ops i 9 j
theorem Xct{i:Nat}(h:tailWaits ops tl i=true)(j:Nat)(oj:Oper)(hj:ops[j]? = some oj){listed:Array Bool}(hcl:Closed ops listed)(hall:∀ e ∈ oj.after,Region.binds .any e=true->listed.getD e.on false=true)(hi:listed.getD i true=false):tl j=false:=by
 simp only[tailWaits,W1,W2] at h;have h1:=h j (Qp.1 hj).1;simp only[Bool.or_eq_true,Bool.not_eq_true'] at h1;rcases h1 with h1|h1
 ·exact h1
 ·have h2:=X9l hcl 9 j oj hj hall h1;rcases W4 i listed.size with h'|h'
  ·simp[h'] at h2 hi;rw[h2] at hi;cases hi
  ·simp[h'] at h2
section
variable {a : Act} {w : World} {n d fuel : Nat} {e : List (Nat × Value)} {o : Oper} {done : List Nat}
theorem Xsw(i:Nat){v:Value}(hi:ops[i]? = some o)(hm:mayFirst ops done i=true)(ht:tailWaits ops tl i=true)(hf:Fr a n e)(hw:Want ops o e)(hd:o.dst=some d)(hn:Nat.blt d n=true)
  (hr:∀ w',Keep V w w'->(execOp a.eval o).run P w'=.ok (.value v) w') (h:∀ a',Fr a' n ((d,v)::e)->wpS P ops V tl Q fuel (mask ops (i::done)) a' w) : wpS P ops V tl Q (fuel+1) (mask ops done) a w:=by
 simp only[mayFirst,Qd] at hm;refine Xa8 (C:=fun w'=>Keep V w w') hi (Region.noSelect_spec hm.1.1.1) (fun j oj hj lst hcl hall hun w1 w2 h1 h2=>?_) fuel _ a w (X65 hm.2) (Region.free_spec hi hm.1.1.2) (by simpa using hm.1.2) (Keep.refl _ _) (.inl ⟨hw.wanted hf,hr⟩) ?_
 ·exact h1.trans (h2 (Xct ht j oj hj hcl hall hun))
 ·rw[X70];exact h _ (by rw[hd];exact hf.put d v hn)
theorem Y6c(i:Nat){v:Value}(hi:ops[i]? = some o)(hm:mayFirst ops done i=true)(ht:tailWaits ops tl i=true)(hf:Fr a n e)(hw:Want ops o e)(hd:o.dst=some d)(hn:Nat.blt d n=true)
  (hr:Ev P o a w v) (h:∀ a',Fr a' n ((d,v)::e)->wpS P ops none tl Q fuel (mask ops (i::done)) a' w) : wpS P ops none tl Q (fuel+1) (mask ops done) a w:=Xsw i hi hm ht hf hw hd hn hr h
theorem Ybo(i:Nat){b:Nat}{v:Value}(hi:ops[i]? = some o)(hm:mayFirst ops done i=true)(ht:tailWaits ops tl i=true)(hf:Fr a n e)(hw:Want ops o e)(hd:o.dst=some d)(hn:Nat.blt d n=true)
  (hr:∀ w1,Only b w w1->Ev P o a w1 v) (h:∀ a',Fr a' n ((d,v)::e)->wpS P ops (some b) tl Q fuel (mask ops (i::done)) a' w) : wpS P ops (some b) tl Q (fuel+1) (mask ops done) a w:=
 Xsw i hi hm ht hf hw hd hn (fun w' ⟨w1,h1,h2⟩=>hr w1 h1 w' (by rw[h1.size];exact h2)) h
theorem Ybn(i:Nat){N:Nat}{v:Value}(hi:ops[i]? = some o)(hm:mayFirst ops done i=true)(ht:tailWaits ops tl i=true)(hf:Fr a n e)(hw:Want ops o e)(hd:o.dst=some d)(hn:Nat.blt d n=true)(hN:N<=w.heap.size)
  (hr:∀ w1,Below N w w1->Ev P o a w1 v) (h:∀ a',Fr a' n ((d,v)::e)->wpS P ops (some (.base N)) tl Q fuel (mask ops (i::done)) a' w) : wpS P ops (some (.base N)) tl Q (fuel+1) (mask ops done) a w:=
 Xsw i hi hm ht hf hw hd hn (fun w' h1=>hr w' (Below.mono h1 Z) w' (Below.refl _ _)) h
theorem Xsv(i:Nat){v:Value}(hi:ops[i]? = some o)(hm:mayFirst ops done i=true)(hf:Fr a n e)(hw:Want ops o e)(hd:o.dst=some d)(hn:Nat.blt d n=true)
  (hr:∀ w,Ev P o a w v) (h:∀ a',Fr a' n ((d,v)::e)->wpS P ops V tl Q fuel (mask ops (i::done)) a' w) : wpS P ops V tl Q (fuel+1) (mask ops done) a w:=by
 simp only[mayFirst,Qd] at hm;refine Xa8 (C:=fun _=>True) hi (Region.noSelect_spec hm.1.1.1) (fun _ _ _ _ _ _ _ _ _ _ _=>trivial) fuel _ a w (X65 hm.2) (Region.free_spec hi hm.1.1.2) (by simpa using hm.1.2) trivial (.inl ⟨hw.wanted hf,fun w' _=>hr w' w' (Below.refl _ _)⟩) ?_;rw[X70];exact h _ (by rw[hd];exact hf.put d v hn)
theorem Y6d(i:Nat)(hi:ops[i]? = some o)(hm:mayFirst ops done i=true)(hf:Fr a n e)(hw:Pass ops o e)(hd:o.dst=some d)(hn:Nat.blt d n=true)
  (h:∀ a',Fr a' n ((d,undef)::e)->wpS P ops V tl Q fuel (mask ops (i::done)) a' w) : wpS P ops V tl Q (fuel+1) (mask ops done) a w:=by
 simp only[mayFirst,Qd] at hm;refine Xa8 (C:=fun _=>True) hi (Region.noSelect_spec hm.1.1.1) (fun _ _ _ _ _ _ _ _ _ _ _=>trivial) fuel _ a w (X65 hm.2) (Region.free_spec hi hm.1.1.2) (by simpa using hm.1.2) trivial (.inr ⟨hw.wanted hf,O⟩) ?_;rw[X70];exact h _ (by rw[hd];exact hf.put d undef hn)
theorem s_e{op:Op}{ty:TypeId}{pos:String}{af:Array Edge}(i:Nat){v:Value}(hi:ops[i]? = some ⟨some d,op,ty,pos,af,none⟩)(hm:mayFirst ops done i=true)(ht:tailWaits ops tl i=true)(hf:Fr a n e)(hn:Nat.blt d n=true)
  (hr:Ev P ⟨some d,op,ty,pos,af,none⟩ a w v) (h:∀ a',Fr a' n ((d,v)::e)->wpS P ops none tl Q fuel (mask ops (i::done)) a' w) : wpS P ops none tl Q (fuel+1) (mask ops done) a w:=Y6c i hi hm ht hf trivial rfl hn hr h
theorem Yeb{op:Op}{ty:TypeId}{pos:String}{af:Array Edge}(i:Nat){v:Value}(hi:ops[i]? = some ⟨some d,op,ty,pos,af,none⟩)(hm:mayFirst ops done i=true)(hf:Fr a n e)(hn:Nat.blt d n=true)
  (hr:∀ w,Ev P ⟨some d,op,ty,pos,af,none⟩ a w v) (h:∀ a',Fr a' n ((d,v)::e)->wpS P ops V tl Q fuel (mask ops (i::done)) a' w) : wpS P ops V tl Q (fuel+1) (mask ops done) a w:=Xsv i hi hm hf trivial rfl hn hr h
theorem Ybp(i:Nat)(hr:Region.ready .any ops (mask ops done)=[i])(h:wpR P ops V tl i (wpS P ops V tl Q fuel (mask ops (i::done))) a w):wpS P ops V tl Q (fuel+1) (mask ops done) a w:=by
 refine ⟨fun h0=>(by rw[hr] at h0;cases h0),fun j hj=>?_⟩;rw[hr] at hj;obtain rfl:j=i:=by simpa using hj
 rw[X70];exact h
theorem Ybq(i j:Nat)(hr:Region.ready .any ops (mask ops done)=[i,j])(hi:wpR P ops V tl i (wpS P ops V tl Q fuel (mask ops (i::done))) a w)
  (hj:wpR P ops V tl j (wpS P ops V tl Q fuel (mask ops (j::done))) a w) : wpS P ops V tl Q (fuel+1) (mask ops done) a w:=by
 refine ⟨fun h0=>(by rw[hr] at h0;cases h0),fun k hk=>?_⟩;rw[hr] at hk;rw[X70];simp only[Qv,List.not_mem_nil,or_false] at hk;rcases hk with rfl|rfl
 ·exact hi
 ·exact hj
theorem Xpf{a:Act}{w:World}{o:Oper}{v:Value}(h:Ev P o a w v):Ef P o a w (fun v' w'=>v'=v/\w=w'):=by
 unfold Ef;rw[h w (Below.refl _ _)];exact ⟨O,O⟩
theorem Y6b(hr:Region.ready .any ops (mask ops done)=[])(h:Q a w):wpS P ops V tl Q fuel (mask ops done) a w:=by
 cases fuel with
 | zero=>exact ⟨hr,h⟩
 | succ f=>exact ⟨fun _=>h,fun j hj=>by rw[hr] at hj;cases hj⟩
theorem Yb1{i:Nat}{K:Act->World->Prop}{R:Value->World->Prop}(hi:ops[i]? = some o)(hf:Fr a n e)(hw:Want ops o e)(hd:o.dst=some d)(hn:Nat.blt d n=true)
  (hr:Ef P o a w fun v w'=>(tl i=false->Keep V w w')/\R v w') (h:∀ a' v w',R v w'->Fr a' n ((d,v)::e)->K a' w') : wpR P ops V tl i K a w:=by
 unfold wpR;simp only[hi];rw[Q4 (hw.wanted hf)];exact hr.mono fun v w' ⟨h1,h2⟩=>⟨h1,h _ v w' h2 (by rw[hd];exact hf.put d v hn)⟩
theorem Y5v{i:Nat}{K:Act->World->Prop}{R:Value->World->Prop}(hi:ops[i]? = some o)(hf:Fr a n e)(hw:Want ops o e)(hd:o.dst=none)
  (hr:Ef P o a w fun v w'=>(tl i=false->Keep V w w')/\R v w') (h:∀ a' v w',R v w'->Fr a' n e->K a' w') : wpR P ops V tl i K a w:=by
 unfold wpR;simp only[hi];rw[Q4 (hw.wanted hf)];exact hr.mono fun v w' ⟨h1,h2⟩=>⟨h1,h _ v w' h2 (by rw[hd];exact hf.put_none v)⟩
theorem Y5w{i:Nat}{K:Act->World->Prop}(hi:ops[i]? = some o)(hf:Fr a n e)(hw:Pass ops o e)(hd:o.dst=some d)(hn:Nat.blt d n=true)
  (h:∀ a',Fr a' n ((d,undef)::e)->K a' w) : wpR P ops V tl i K a w:=by
 unfold wpR;simp only[hi];rw[Q3 (by rw[hw.wanted hf];simp)];exact h _ (by rw[hd];exact hf.put d undef hn)
theorem Xy(V:Option Vk)(tl:Nat->Bool){id:Nat}{l:List Oper}{Q':Exit->Act->World->Prop}(hm:P.follows .mixedOrders=true)
  (h:∀ w',Below w.heap.size w w'->wpS P l.toArray V tl (Q' .normal) l.length (mask l.toArray []) a w') : (Code.region id l.toArray true).wp P Q' a w:=by
 refine wp_region_any hm ?_;rw[Xh4];exact X45 (fun _ _ h=>h) _ _ _ _ (by simpa using h w.drew (Below.refl _ _).drew)
end
end
abbrev Env:=List (Nat×Value)
def At(w:World)(p:Addr)(l:List Value) : Prop:=∀ j v,l[j]? = some v->w.cell? (p.add j)=some v
def Blk(w:World)(b:Nat)(T:TypeId)(l:List Value) : Prop:=w.heap[b]? = some (.cells l.toArray T (0,0))
def X90(p:Addr)(i j:Nat):(p.add i).add j=p.add (i+j):=by
 unfold Addr.add;by_cases hi:i=0<;>by_cases hj:j=0<;>simp[hi,hj,Nat.add_assoc]
def X8o(p:Addr)(i:Nat):(p.add i).block=p.block:=by unfold Addr.add;split<;>rfl
def X2b(b off i:Nat):(Addr.mk b off none).add i=⟨b,off+i,none⟩:=by
 unfold Addr.add;by_cases hi:i=0<;>simp[hi]
def Xk8{w:World}{p:Addr}{v:Value}(h:w.cell? p=some v):p.block<w.heap.size:=by
 rcases W4 p.block w.heap.size with h'|h'
 ·exact h'
 ·simp[World.cell?,We h'] at h
def At.bw{w w':World}{p:Addr}{l:List Value}(h:At w p l)(hb:Below w.heap.size w w'):At w' p l:=by
 intro j v hj;have:=h j v hj;rw[hb.cell (Xk8 this)];exact this
def At.drop{w:World}{p:Addr}{l:List Value}(h:At w p l)(k:Nat):At w (p.add k) (l.drop k):=by
 intro j v hj;rw[X90];exact h (k+j) v (by rw[<- hj,List.getElem?_drop])
def At.take{w:World}{p:Addr}{l:List Value}(h:At w p l)(k:Nat):At w p (l.take k):=by grind [At]
def At.nil(w:World)(p:Addr):At w p []:=fun j v h=>by simp at h
def Blk.lt{w:World}{b:Nat}{T:TypeId}{l:List Value}(h:Blk w b T l):b<w.heap.size:=by grind [Blk]
def Blk.cell{w:World}{b:Nat}{T:TypeId}{l:List Value}(h:Blk w b T l)(k:Nat):w.cell? ⟨b,k,none⟩=l[k]?:=by
 unfold Blk at h;simp[World.cell?,h]
def Blk.at{w:World}{b:Nat}{T:TypeId}{l:List Value}(h:Blk w b T l)(k:Nat):At w ⟨b,k,none⟩ (l.drop k):=by
 intro j v hj;rw[X2b,h.cell,<- hj,List.getElem?_drop]
def Blk.bw{w w':World}{b:Nat}{T:TypeId}{l:List Value}(h:Blk w b T l)(hb:Below w.heap.size w w'):Blk w' b T l:=(hb.block b h.lt).trans h
def Blk.oy{w w':World}{b b':Nat}{T:TypeId}{l:List Value}(h:Blk w b T l)(ho:Only b' w w')(hne:b≠b'):Blk w' b T l:=(ho.block b hne).trans h
def Blk.drew{w:World}{b:Nat}{T:TypeId}{l:List Value}(h:Blk w b T l):Blk w.drew b T l:=h
def Blk.ne{w:World}{b b':Nat}{T T':TypeId}{l l':List Value}(h:Blk w b T l)(h':Blk w b' T' l')(hT:Nat.beq T T'=false):b≠b':=by
 rintro rfl;unfold Blk at h h';rw[h] at h';injection h' with h';injection h' with _ e;subst e;simp at hT
def Blk.oz{w w' : World}{b b' : Nat}{T T' : TypeId}{l l' : List Value}(h : Blk w b T l)(ho : Only b' w w')(h' : Blk w b' T' l')(hT : Nat.beq T T' = false):Blk w' b T l:=h.oy ho (Blk.ne h h' hT)
def Below.oy{B b:Nat}{w0 w w':World}(h:Below B w0 w)(ho:Only b w w')(hB:B<=b):Below B w0 w':=
 h.trans ⟨ho.os,ho.tape,ho.output,by rw[ho.size];exact Qb _,fun k hk=>ho.block k Z⟩
def At.oy{w w':World}{b:Nat}{p:Addr}{l:List Value}(h:At w p l)(ho:Only b w w')(hne:p.block≠b):At w' p l:=by
 intro j v hj;rw[World.cell?_of_block (w:=w) (by rw[X8o];exact ho.block _ hne)];exact h j v hj
def OneT(P:Program)(t:TypeId) : Prop:=∃ d,P.underlying t=some d/\(match d with|.struct _|.array _ _=>False|_=>True)
def AggT(P:Program)(t:TypeId)(n:Nat) : Prop:=(∃ d,P.underlying t=some d/\(match d with|.struct _|.array _ _=>True|_=>False))/\∃ i,P.info? t=some i/\i.size=n
def SizeT(P:Program)(t:TypeId)(n:Nat) : Prop:=∃ i,P.info? t=some i/\i.size=n
def ZeroT(P:Program)(t:TypeId)(z:Value) : Prop:=∃ i,P.info? t=some i/\i.zero=some z
def FieldT(P:Program)(T f k:Nat) : Prop:=∃ fs F i,P.underlying T=some (.struct fs)/\fs[f]? = some F/\F.offset=k/\P.info? F.type=some i/\(i.size==0)=false
def SliceT(P:Program)(T E:TypeId) : Prop:=P.underlying T=some (.slice E)
def FuncF (P : Program) (f : FuncId) : Prop := ∃ fn, P.funcs[f]? = some fn /\ (fn.name == "runtime.NumGoroutine") = false /\ fn.body.isNone = false
section
variable {P : Program} {w : World}
theorem run_sizeOf'{t n:Nat}(h:SizeT P t n)(w:World):(sizeOf t).run P w=.ok n w:=by
 have ⟨i,h1,h2⟩:=h;simp[sizeOf,typeInfo,h1,h2]
theorem Xcz{t:TypeId}{z:Value}(h:ZeroT P t z)(w:World):(zeroValue t).run P w=.ok z w:=by
 have ⟨i,h1,h2⟩:=h;simp[zeroValue,typeInfo,h1,h2]
theorem X13{t:TypeId}{d:TypeDesc}(h:P.underlying t=some d)(w:World):(underlying t).run P w=.ok d w:=by simp[underlying,h]
theorem X5n{t:TypeId}(h:OneT P t)(w:World):(isAgg t).run P w=.ok false w:=by
 have ⟨d,h1,h2⟩:=h;cases d<;>simp_all[isAgg,underlying]
theorem X8l{t n:Nat}(h:AggT P t n)(w:World):(isAgg t).run P w=.ok true w:=by
 have ⟨⟨d,h1,h2⟩,_⟩:=h;cases d<;>simp_all[isAgg,underlying]
theorem X5h(p:Addr):∀ (l:List Value) (i:Nat) (acc:Array Value),(∀ j v,l[j]? = some v->w.cell? (p.add (i+j))=some v)->
  (loadCellsFrom p i l.length acc).run P w=.ok (acc++l.toArray) w
 | [],i,acc,_=>by simp[loadCellsFrom]
 | v::l,i,acc,h=>by
  have h0:=h 0 v O;simp only[Nat.add_zero] at h0;have ih:=X5h p l (i+1) (acc.push v) (fun j u hj=>by
   have:=h (j+1) u (by simpa using hj)
   rwa [show i+(j+1)=i+1+j from by omega] at this)
  simp[loadCellsFrom,load,Sem.run,h0,ih]
theorem X6m{t:TypeId}{p:Addr}{v:Value}{l:List Value}(h:OneT P t)(hc:At w p (v::l)):(loadVar t p).run P w=.ok v w:=by
 have h0:=hc 0 v O;have h1:p.add 0=p:=by simp[Addr.add]
 rw[h1] at h0;simp[loadVar,X5n h,load,Sem.run,h0]
theorem X6l{t n:Nat}{p:Addr}{l:List Value}(h:AggT P t n)(hc:At w p l)(hn:l.length=n):(loadVar t p).run P w=.ok (.agg l.toArray) w:=by
 subst hn;have h1:=X5h (P:=P) (w:=w) p l 0 #[] (fun j v hj=>by rw[Nat.zero_add];exact hc j v hj);simp[loadVar,X8l h,run_sizeOf' h.2,loadCells,h1]
end
section
variable {P : Program} {a : Act} {w : World} {n : Nat} {e : Env} {ty : TypeId} {pos : String} {af : Array Edge} {g : Option (Nat × Bool)} {d : Option Tmp}
theorem Xvl{x:Operand}{v:Value}(hf:Fr a n e)(hx:ev e x=some v):Ev P ⟨d,.move x,ty,pos,af,g⟩ a w v:=fun w' _=>by
 simp[execOp,hf.ev hx]
theorem X5{x:Operand}{v:Value}(hx:ev e x=some v):EvW P ⟨d,.move x,ty,pos,af,g⟩ n e w v:=fun a hf=>Xvl hf hx
theorem Xne{x:Operand}{v:Value}(hf:Fr a n e)(hx:ev e x=some v):Ev P ⟨d,.assign x,ty,pos,af,g⟩ a w v:=fun w' _=>by
 simp[execOp,hf.ev hx]
theorem X10{x:Operand}{v:Value}(hx:ev e x=some v):EvW P ⟨d,.assign x,ty,pos,af,g⟩ n e w v:=fun a hf=>Xne hf hx
theorem Xke{c x y:Operand}{b:Bool}{v:Value}(hf:Fr a n e)(hc:ev e c=some (.bool b))(hx:ev e (if b then x else y)=some v):Ev P ⟨d,.pick c x y,ty,pos,af,g⟩ a w v:=fun w' _=>by
 have h1:=hf.ev hc;have h2:=hf.ev hx;cases b<;>simp_all[execOp,asBool]
theorem Xpp{c x y:Operand}{b:Bool}{v:Value}(hf:Fr a n e)(hc:ev e c=some (.bool b))(hb:b=true)(hx:ev e x=some v):Ev P ⟨d,.pick c x y,ty,pos,af,g⟩ a w v:=by
 subst hb;exact Xke hf hc hx
theorem Xc{c x y:Operand}{b:Bool}{v:Value}(hc:ev e c=some (.bool b))(hb:b=true)(hx:ev e x=some v):EvW P ⟨d,.pick c x y,ty,pos,af,g⟩ n e w v:=fun a hf=>Xpp hf hc hb hx
theorem Xpo{c x y:Operand}{b:Bool}{v:Value}(hf:Fr a n e)(hc:ev e c=some (.bool b))(hb:b=false)(hx:ev e y=some v):Ev P ⟨d,.pick c x y,ty,pos,af,g⟩ a w v:=by
 subst hb;exact Xke hf hc hx
theorem Xi{c x y:Operand}{b:Bool}{v:Value}(hc:ev e c=some (.bool b))(hb:b=false)(hx:ev e y=some v):EvW P ⟨d,.pick c x y,ty,pos,af,g⟩ n e w v:=fun a hf=>Xpo hf hc hb hx
theorem Xpm{t:TypeId}{x:Operand}{p:Addr}{v:Value}{l:List Value}(hf:Fr a n e)(hx:ev e x=some (.pointer (some p)))(h1:OneT P t)(hc:At w p (v::l)):Ev P ⟨d,.load t x,ty,pos,af,g⟩ a w v:=fun w' hw=>by
 simp[execOp,hf.ev hx,Instr.loadAt,Instr.sureAddr,X6m h1 (hc.bw hw)]
theorem X0{t:TypeId}{x:Operand}{p:Addr}{v:Value}{l:List Value}(hx:ev e x=some (.pointer (some p)))(h1:OneT P t)(hc:At w p (v::l)):EvW P ⟨d,.load t x,ty,pos,af,g⟩ n e w v:=fun a hf=>Xpm hf hx h1 hc
theorem Xpn{t k:Nat}{x:Operand}{p:Addr}{l:List Value}(hf:Fr a n e)(hx:ev e x=some (.pointer (some p)))(hA:AggT P t k)(hc:At w p l)(hl:l.length=k):Ev P ⟨d,.load t x,ty,pos,af,g⟩ a w (.agg l.toArray):=fun w' hw=>by
 simp[execOp,hf.ev hx,Instr.loadAt,Instr.sureAddr,X6l hA (hc.bw hw) hl]
theorem X07{t k:Nat}{x:Operand}{p:Addr}{l:List Value}(hx:ev e x=some (.pointer (some p)))(hA:AggT P t k)(hc:At w p l)(hl:l.length=k):EvW P ⟨d,.load t x,ty,pos,af,g⟩ n e w (.agg l.toArray):=fun a hf=>Xpn hf hx hA hc hl
theorem Xbz{T f k:Nat}{x:Operand}{p:Addr}(hf:Fr a n e)(hx:ev e x=some (.pointer (some p)))(hF:FieldT P T f k):Ev P ⟨d,.fieldAddr T x f,ty,pos,af,g⟩ a w (.pointer (some (p.add k))):=fun w' _=>by
 have ⟨fs,F,i,h1,h2,h3,h4,h5⟩:=hF;have h6:=run_sizeOf' ⟨i,h4,O⟩ w';simp[execOp,hf.ev hx,Instr.fieldAt,X13 h1,h2,Instr.sureAddr,fieldPlace,h6,h3];simp at h5;simp[h5]
theorem X2u{T f k:Nat}{x:Operand}{p:Addr}(hx:ev e x=some (.pointer (some p)))(hF:FieldT P T f k):EvW P ⟨d,.fieldAddr T x f,ty,pos,af,g⟩ n e w (.pointer (some (p.add k))):=fun a hf=>Xbz hf hx hF
theorem Xnf{T f k:Nat}{x:Operand}{b off m:Nat}(hf:Fr a n e)(hx:ev e x=some (.pointer (some ⟨b,off,none⟩)))(hF:FieldT P T f k)(hk:off+k=m):Ev P ⟨d,.fieldAddr T x f,ty,pos,af,g⟩ a w (.pointer (some ⟨b,m,none⟩)):=by
 have:=Xbz (P:=P) (w:=w) (d:=d) (ty:=ty) (pos:=pos) (af:=af) (g:=g) hf hx hF
 rwa [X2b,hk] at this
theorem Xuk{T f k:Nat}{x:Operand}{b off m:Nat}(hx:ev e x=some (.pointer (some ⟨b,off,none⟩)))(hF:FieldT P T f k)(hk:off+k=m):EvW P ⟨d,.fieldAddr T x f,ty,pos,af,g⟩ n e w (.pointer (some ⟨b,m,none⟩)):=fun a hf=>Xnf hf hx hF hk
theorem Xid{x:Operand}{k:Nat}{vs:List Value}{v:Value}(hf:Fr a n e)(hx:ev e x=some (.tuple vs.toArray))(hv:vs[k]? = some v):Ev P ⟨d,.extract x k,ty,pos,af,g⟩ a w v:=fun w' _=>by
 simp[execOp,hf.ev hx,Instr.extract,hv]
theorem Xf{x:Operand}{k:Nat}{vs:List Value}{v:Value}(hx:ev e x=some (.tuple vs.toArray))(hv:vs[k]? = some v):EvW P ⟨d,.extract x k,ty,pos,af,g⟩ n e w v:=fun a hf=>Xid hf hx hv
theorem Y39{t:TypeId}{x:Operand}{b:Bool}(hf:Fr a n e)(hx:ev e x=some (.bool b)):Ev P ⟨d,.unOp .not t x,ty,pos,af,g⟩ a w (.bool (!b)):=fun w' _=>by
 simp[execOp,hf.ev hx,Op.unary]
theorem X1i{t:TypeId}{x:Operand}{b:Bool}(hx:ev e x=some (.bool b)):EvW P ⟨d,.unOp .not t x,ty,pos,af,g⟩ n e w (.bool (!b)):=fun a hf=>Y39 hf hx
theorem Y36{t:TypeId}{x:Operand}{i:Int}(hf:Fr a n e)(hx:ev e x=some (.int .i64 i)):Ev P ⟨d,.unOp .neg t x,ty,pos,af,g⟩ a w (.int .i64 (IntKind.i64.wrap (-i))):=fun w' _=>by
 simp[execOp,hf.ev hx,Op.unary,Op.intArith]
theorem Xn4{t:TypeId}{x:Operand}{i:Int}(hx:ev e x=some (.int .i64 i)):EvW P ⟨d,.unOp .neg t x,ty,pos,af,g⟩ n e w (.int .i64 (IntKind.i64.wrap (-i))):=fun a hf=>Y36 hf hx
section
variable {t t' : TypeId} {x y : Operand} {i j : Int}
theorem Xpj(hf:Fr a n e)(hx:ev e x=some (.int .i64 i))(hy:ev e y=some (.int .i64 j)):Ev P ⟨d,.binOp .add t x y t',ty,pos,af,g⟩ a w (.int .i64 (IntKind.i64.wrap (i+j))):=fun w' _=>by
 simp[execOp,hf.ev hx,hf.ev hy,eqGuard,binOp,Op.intArith]
theorem X3b(hx:ev e x=some (.int .i64 i))(hy:ev e y=some (.int .i64 j)):EvW P ⟨d,.binOp .add t x y t',ty,pos,af,g⟩ n e w (.int .i64 (IntKind.i64.wrap (i+j))):=fun a hf=>Xpj hf hx hy
theorem Xvf(hf:Fr a n e)(hx:ev e x=some (.int .i64 i))(hy:ev e y=some (.int .i64 j))(h1:-9223372036854775808<=i+j)(h2:i+j<=9223372036854775807):Ev P ⟨d,.binOp .add t x y t',ty,pos,af,g⟩ a w (.int .i64 (i+j)):=by
 have h:=Xpj (P:=P) (w:=w) (d:=d) (ty:=ty) (pos:=pos) (af:=af) (g:=g) (t:=t) (t':=t') hf hx hy
 rwa [IntWalk.i64_in _ ⟨h1,h2⟩] at h
theorem Xr(hx:ev e x=some (.int .i64 i))(hy:ev e y=some (.int .i64 j))(h1:-9223372036854775808<=i+j)(h2:i+j<=9223372036854775807):EvW P ⟨d,.binOp .add t x y t',ty,pos,af,g⟩ n e w (.int .i64 (i+j)):=fun a hf=>Xvf hf hx hy h1 h2
theorem Xvs(hf:Fr a n e)(hx:ev e x=some (.int .i64 i))(hy:ev e y=some (.int .i64 j))(h1:-9223372036854775808<=i-j)(h2:i-j<=9223372036854775807):Ev P ⟨d,.binOp .sub t x y t',ty,pos,af,g⟩ a w (.int .i64 (i-j)):=by
 have h:Ev P ⟨d,.binOp .sub t x y t',ty,pos,af,g⟩ a w (.int .i64 (IntKind.i64.wrap (i-j))):=fun w' _=>by
  simp[execOp,hf.ev hx,hf.ev hy,eqGuard,binOp,Op.intArith]
 rwa [IntWalk.i64_in _ ⟨h1,h2⟩] at h
theorem X1j(hx:ev e x=some (.int .i64 i))(hy:ev e y=some (.int .i64 j))(h1:-9223372036854775808<=i-j)(h2:i-j<=9223372036854775807):EvW P ⟨d,.binOp .sub t x y t',ty,pos,af,g⟩ n e w (.int .i64 (i-j)):=fun a hf=>Xvs hf hx hy h1 h2
theorem Y3d(hf:Fr a n e)(hx:ev e x=some (.int .i64 i))(hy:ev e y=some (.int .i64 j)):Ev P ⟨d,.binOp .sub t x y t',ty,pos,af,g⟩ a w (.int .i64 (IntKind.i64.wrap (i-j))):=fun w' _=>by
 simp[execOp,hf.ev hx,hf.ev hy,eqGuard,binOp,Op.intArith]
theorem X6r(hx:ev e x=some (.int .i64 i))(hy:ev e y=some (.int .i64 j)):EvW P ⟨d,.binOp .sub t x y t',ty,pos,af,g⟩ n e w (.int .i64 (IntKind.i64.wrap (i-j))):=fun a hf=>Y3d hf hx hy
theorem Y35(hf:Fr a n e)(hx:ev e x=some (.int .i64 i))(hy:ev e y=some (.int .i64 j)):Ev P ⟨d,.binOp .mul t x y t',ty,pos,af,g⟩ a w (.int .i64 (IntKind.i64.wrap (i*j))):=fun w' _=>by
 simp[execOp,hf.ev hx,hf.ev hy,eqGuard,binOp,Op.intArith]
theorem X6q(hx:ev e x=some (.int .i64 i))(hy:ev e y=some (.int .i64 j)):EvW P ⟨d,.binOp .mul t x y t',ty,pos,af,g⟩ n e w (.int .i64 (IntKind.i64.wrap (i*j))):=fun a hf=>Y35 hf hx hy
theorem Y32(hf:Fr a n e)(hx:ev e x=some (.int .i64 i))(hy:ev e y=some (.int .i64 j)):Ev P ⟨d,.binOp .lss t x y t',ty,pos,af,g⟩ a w (.bool (decide (i<j))):=fun w' _=>by
 simp[execOp,hf.ev hx,hf.ev hy,eqGuard,binOp,Op.intCmp]
theorem X16(hx:ev e x=some (.int .i64 i))(hy:ev e y=some (.int .i64 j)):EvW P ⟨d,.binOp .lss t x y t',ty,pos,af,g⟩ n e w (.bool (decide (i<j))):=fun a hf=>Y32 hf hx hy
theorem Y31(hf:Fr a n e)(hx:ev e x=some (.int .i64 i))(hy:ev e y=some (.int .i64 j)):Ev P ⟨d,.binOp .leq t x y t',ty,pos,af,g⟩ a w (.bool (decide (i<=j))):=fun w' _=>by
 simp[execOp,hf.ev hx,hf.ev hy,eqGuard,binOp,Op.intCmp]
theorem Xef(hx:ev e x=some (.int .i64 i))(hy:ev e y=some (.int .i64 j)):EvW P ⟨d,.binOp .leq t x y t',ty,pos,af,g⟩ n e w (.bool (decide (i<=j))):=fun a hf=>Y31 hf hx hy
theorem Y2z(hf:Fr a n e)(hx:ev e x=some (.int .i64 i))(hy:ev e y=some (.int .i64 j)):Ev P ⟨d,.binOp .gtr t x y t',ty,pos,af,g⟩ a w (.bool (decide (j<i))):=fun w' _=>by
 simp[execOp,hf.ev hx,hf.ev hy,eqGuard,binOp,Op.intCmp]
theorem X52(hx:ev e x=some (.int .i64 i))(hy:ev e y=some (.int .i64 j)):EvW P ⟨d,.binOp .gtr t x y t',ty,pos,af,g⟩ n e w (.bool (decide (j<i))):=fun a hf=>Y2z hf hx hy
theorem Y2y(hf:Fr a n e)(hx:ev e x=some (.int .i64 i))(hy:ev e y=some (.int .i64 j)):Ev P ⟨d,.binOp .geq t x y t',ty,pos,af,g⟩ a w (.bool (decide (j<=i))):=fun w' _=>by
 simp[execOp,hf.ev hx,hf.ev hy,eqGuard,binOp,Op.intCmp]
theorem X5q(hx:ev e x=some (.int .i64 i))(hy:ev e y=some (.int .i64 j)):EvW P ⟨d,.binOp .geq t x y t',ty,pos,af,g⟩ n e w (.bool (decide (j<=i))):=fun a hf=>Y2y hf hx hy
theorem Y2x(hf:Fr a n e)(hx:ev e x=some (.int .i64 i))(hy:ev e y=some (.int .i64 j)):Ev P ⟨d,.binOp .eql t x y t',ty,pos,af,g⟩ a w (.bool (i==j)):=fun w' _=>by
 simp[execOp,hf.ev hx,hf.ev hy,eqGuard,binOp,Op.intCmp]
theorem X0l(hx:ev e x=some (.int .i64 i))(hy:ev e y=some (.int .i64 j)):EvW P ⟨d,.binOp .eql t x y t',ty,pos,af,g⟩ n e w (.bool (i==j)):=fun a hf=>Y2x hf hx hy
theorem Y37(hf:Fr a n e)(hx:ev e x=some (.int .i64 i))(hy:ev e y=some (.int .i64 j)):Ev P ⟨d,.binOp .neq t x y t',ty,pos,af,g⟩ a w (.bool (i != j)):=fun w' _=>by
 simp[execOp,hf.ev hx,hf.ev hy,eqGuard,binOp,Op.intCmp]
theorem X28(hx:ev e x=some (.int .i64 i))(hy:ev e y=some (.int .i64 j)):EvW P ⟨d,.binOp .neq t x y t',ty,pos,af,g⟩ n e w (.bool (i != j)):=fun a hf=>Y37 hf hx hy
theorem Y2w(hf:Fr a n e)(hx:ev e x=some (.int .i64 i))(hy:ev e y=some (.int .i64 j)):Ev P ⟨d,.binOp .and t x y t',ty,pos,af,g⟩ a w (.int .i64 (bits .and .i64 i j)):=fun w' _=>by
 simp[execOp,hf.ev hx,hf.ev hy,eqGuard,binOp,Op.intBits,bits]
theorem Ydb(hx:ev e x=some (.int .i64 i))(hy:ev e y=some (.int .i64 j)):EvW P ⟨d,.binOp .and t x y t',ty,pos,af,g⟩ n e w (.int .i64 (bits .and .i64 i j)):=fun a hf=>Y2w hf hx hy
theorem Y3i(hf:Fr a n e)(hx:ev e x=some (.int .i64 i))(hy:ev e y=some (.int .i64 j)):Ev P ⟨d,.binOp .xor t x y t',ty,pos,af,g⟩ a w (.int .i64 (bits .xor .i64 i j)):=fun w' _=>by
 simp[execOp,hf.ev hx,hf.ev hy,eqGuard,binOp,Op.intBits,bits]
theorem Xuq(hx:ev e x=some (.int .i64 i))(hy:ev e y=some (.int .i64 j)):EvW P ⟨d,.binOp .xor t x y t',ty,pos,af,g⟩ n e w (.int .i64 (bits .xor .i64 i j)):=fun a hf=>Y3i hf hx hy
theorem X62{b c:Bool}(ht:P.underlying t=some .bool)(k:Nat)(w:World):(Op.equalIn (k+1) t (.bool b) (.bool c)).run P w=.ok (b==c) w:=by
 simp[Op.equalIn,X13 ht]
theorem Xvh{b c:Bool}(ht:P.underlying t=some .bool)(hf:Fr a n e)(hx:ev e x=some (.bool b))(hy:ev e y=some (.bool c)):Ev P ⟨d,.binOp .eql t x y t',ty,pos,af,g⟩ a w (.bool (b==c)):=fun w' _=>by
 have h:=X62 (P:=P) (b:=b) (c:=c) ht 9999 w';simp[execOp,hf.ev hx,hf.ev hy,eqGuard,binOp,Op.equal,Op.maxDepth,h]
theorem Y8t{b c:Bool}(ht:P.underlying t=some .bool)(hx:ev e x=some (.bool b))(hy:ev e y=some (.bool c)):EvW P ⟨d,.binOp .eql t x y t',ty,pos,af,g⟩ n e w (.bool (b==c)):=fun a hf=>Xvh ht hf hx hy
theorem Xvi{b c:Bool}(ht:P.underlying t=some .bool)(hf:Fr a n e)(hx:ev e x=some (.bool b))(hy:ev e y=some (.bool c)):Ev P ⟨d,.binOp .neq t x y t',ty,pos,af,g⟩ a w (.bool (b != c)):=fun w' _=>by
 have h:=X62 (P:=P) (b:=b) (c:=c) ht 9999 w';simp[execOp,hf.ev hx,hf.ev hy,eqGuard,binOp,Op.equal,Op.maxDepth,h];cases b<;>cases c<;>rfl
theorem Xac{b c:Bool}(ht:P.underlying t=some .bool)(hx:ev e x=some (.bool b))(hy:ev e y=some (.bool c)):EvW P ⟨d,.binOp .neq t x y t',ty,pos,af,g⟩ n e w (.bool (b != c)):=fun a hf=>Xvi ht hf hx hy
theorem Y30{x:Operand}{T E:TypeId}{A:Option Addr}{m c:Nat}(hf:Fr a n e)(hx:ev e x=some (.slice A m c))(hT:SliceT P T E):Ev P ⟨d,.call ⟨.builtin .len,#[x],#[T]⟩,ty,pos,af,g⟩ a w (.int .i64 (m:Int)):=fun w' _=>by
 have:=X13 (P:=P) hT w';simp[execOp,resolve,invoke,builtin,Builtin.len_,hf.ev hx,this,goInt]
theorem X0w{x:Operand}{T E:TypeId}{A:Option Addr}{m c:Nat}(hx:ev e x=some (.slice A m c))(hT:SliceT P T E):EvW P ⟨d,.call ⟨.builtin .len,#[x],#[T]⟩,ty,pos,af,g⟩ n e w (.int .i64 (m:Int)):=fun a hf=>Y30 hf hx hT
theorem Xgp{k:FuncId}{cs:List Operand}{vs:List Value}(hf:Fr a n e)(hx:evs e cs=some vs):Ev P ⟨d,.makeFunc (.func k) #[] cs.toArray,ty,pos,af,g⟩ a w (.func (.func k) #[] vs.toArray):=fun w' _=>by
 simp[execOp,Instr.makeFunc,hf.evs hx]
theorem X4w{k:FuncId}{cs:List Operand}{vs:List Value}(hx:evs e cs=some vs):EvW P ⟨d,.makeFunc (.func k) #[] cs.toArray,ty,pos,af,g⟩ n e w (.func (.func k) #[] vs.toArray):=fun a hf=>Xgp hf hx
end
end
section
variable {P : Program} {a : Act} {w : World} {n : Nat} {e : Env} {ty : TypeId} {pos : String} {af : Array Edge} {g : Option (Nat × Bool)} {d : Option Tmp}
def IsNew(w:World)(T:TypeId)(zs:List Value)(v:Value)(w':World) : Prop:=
 ∃ b,v=.pointer (some ⟨b,0,none⟩)/\w.heap.size<=b/\Below w.heap.size w w'/\Blk w' b T zs
theorem X5s(w:World)(T:TypeId)(zs:List Value):Blk (w.alloc (.cells zs.toArray T)) w.heap.size T zs:=heap_alloc_new w _
theorem Xag(w:World)(T:TypeId)(zs:List Value):IsNew w T zs (.pointer (some ⟨w.heap.size,0,none⟩)) (w.alloc (.cells zs.toArray T)):=
 ⟨_,rfl,Qb _,(Below.refl _ _).alloc (Qb _) _,X5s w T zs⟩
theorem X8w(T:TypeId)(v:Value)(w:World):(newVar T v).run P w=.ok ⟨w.heap.size,0,none⟩ (w.alloc (.cells v.cells T)):=by
 simp[newVar,newRow,newObj,Sem.run]
theorem Xpc{T:TypeId}{z:Value}{zs:List Value}(hz:ZeroT P T z)(hzs:z.cells.toList=zs):Ef P ⟨d,.alloc T,ty,pos,af,g⟩ a w (IsNew w T zs):=by
 subst hzs;have h:(execOp a.eval ⟨d,.alloc T,ty,pos,af,g⟩).run P w=.ok (.value (.pointer (some ⟨w.heap.size,0,none⟩))) (w.alloc (.cells z.cells T)):=by
  simp[execOp,Instr.alloc,Xcz hz,X8w]
 refine (Ef.of_run h).mono fun v w' ⟨e1,e2⟩=>?_;subst e1;subst e2;have:=Xag w T z.cells.toList;simpa using this
theorem X0b{n:Nat}{e:List (Nat×Value)}{T:TypeId}{z:Value}{zs:List Value}(hz:ZeroT P T z)(hzs:z.cells.toList=zs):EfW P ⟨d,.alloc T,ty,pos,af,g⟩ n e w (IsNew w T zs):=fun a _=>Xpc hz hzs
theorem Y2u{T:TypeId}{x:Operand}{v:Value}{zs:List Value}(hf:Fr a n e)(hx:ev e x=some v)(hzs:v.cells.toList=zs):Ef P ⟨d,.box T x,ty,pos,af,g⟩ a w (IsNew w T zs):=by
 subst hzs;have h:(execOp a.eval ⟨d,.box T x,ty,pos,af,g⟩).run P w=.ok (.value (.pointer (some ⟨w.heap.size,0,none⟩))) (w.alloc (.cells v.cells T)):=by
  simp[execOp,Instr.box,X8w,hf.ev hx]
 refine (Ef.of_run h).mono fun v' w' ⟨e1,e2⟩=>?_;subst e1;subst e2;have:=Xag w T v.cells.toList;simpa using this
theorem X0n{T:TypeId}{x:Operand}{v:Value}{zs:List Value}(hx:ev e x=some v)(hzs:v.cells.toList=zs):EfW P ⟨d,.box T x,ty,pos,af,g⟩ n e w (IsNew w T zs):=fun a hf=>Y2u hf hx hzs
def splice(l:List Value)(k:Nat)(vs:List Value) : List Value:=l.take k++vs++l.drop (k+vs.length)
def one:Value->Bool
 | .agg _=>false
 | .tuple _=>false
 | _=>true
theorem Xfl(w:World)(b k:Nat)(v:Value):Only b w (w.setCell ⟨b,k,none⟩ v):=
 ⟨rfl,rfl,rfl,by simp[World.setCell],fun i hi=>Below.heap_setCell _ _ _ _ hi⟩
theorem Xga{T:TypeId}{l:List Value}{b:Nat}(h:Blk w b T l)(k:Nat)(v:Value):Blk (w.setCell ⟨b,k,none⟩ v) b T (l.set k v):=by
 unfold Blk at h ⊢;simp[World.setCell,Array.getElem?_modify,h]
theorem X57{b off:Nat}{T:TypeId}:∀ (vs:List Value) (w:World) (l:List Value) (i:Nat),Blk w b T l->off+i+vs.length<=l.length->vs.all one=true->
  ∃ w',(storeCells ⟨b,off,none⟩ vs i).run P w=.ok () w'/\Only b w w'/\Blk w' b T (splice l (off+i) vs)
 | [],w,l,i,hb,_,_=>⟨w,by simp[storeCells],Only.refl _ _,by simpa[splice] using hb⟩
 | v::vs,w,l,i,hb,hl,h1=>by
  simp only[List.all_cons,Qd,Qs] at h1 hl;have hc:w.cell? ⟨b,off+i,none⟩=some (l[off+i]'Z):=by rw[hb.cell];exact Qc Z
  have hfz:w.frozen? ⟨b,off+i,none⟩=false:=by
   have:=hb;unfold Blk at this;simp[World.frozen?,this]
  obtain ⟨w',hr,ho,hb'⟩:=X57 (off:=off) vs (w.setCell ⟨b,off+i,none⟩ v) (l.set (off+i) v) (i+1) (Xga hb _ _) O9 h1.2;refine ⟨w',?_,(Xfl w b _ v).trans ho,?_⟩
  ·have h0:(store (⟨b,off+i,none⟩ : Addr) v).run P w=.ok () (w.setCell ⟨b,off+i,none⟩ v):=by
    have h2:=h1.1;unfold one at h2;split at h2
    ·cases h2
    ·cases h2
    ·rename_i hx1 hx2;cases v<;>simp_all[store,Sem.run]
   simp only[storeCells,X2b];simp[h0,hr]
  ·have:splice (l.set (off+i) v) (off+(i+1)) vs=splice l (off+i) (v::vs):=by
    unfold splice;have e1:off+(i+1)=off+i+1:=by omega
    rw[e1,Wf O9,List.take_set_of_le Z,List.getElem_set_self,List.drop_set_of_lt Z];simp only[Qs,Qx,Wa,List.nil_append];rw[show off+i+1+vs.length=off+i+(vs.length+1) from by omega]
   rw[this] at hb';exact hb'
def Stored(w:World)(b:Nat)(T:TypeId)(l:List Value)(_:Value)(w':World) : Prop:=Only b w w'/\Blk w' b T l
theorem Xbx{t T:TypeId}{x y:Operand}{b off k:Nat}{v:Value}{l l' vs:List Value}(hf:Fr a n e)(hx:ev e x=some (.pointer (some ⟨b,off,none⟩)))(hy:ev e y=some v)
  (hs:SizeT P t k) (hb:Blk w b T l) (hvs:v.cells.toList=vs) (hk:Nat.beq vs.length k=true) (h1:vs.all one=true) (hl:Nat.ble (off+k) l.length=true) (hl':splice l off vs=l') :
  Ef P ⟨d,.store t x y,ty,pos,af,g⟩ a w (Stored w b T l'):=by
 subst hl';have hk':vs.length=k:=Nat.eq_of_beq_eq_true hk;have hll:off+k<=l.length:=Nat.le_of_ble_eq_true hl;obtain ⟨w',hr,ho,hb'⟩:=X57 (P:=P) (b:=b) (off:=off) (T:=T) vs w l 0 hb Z h1;refine (Ef.of_skip (w':=w') ?_).mono fun v w1 ⟨_,e2⟩=>by subst e2;exact ⟨ho,by simpa using hb'⟩
 have hc:v.cells.size=k:=by rw[<- hk',<- hvs];simp
 simp[execOp,Instr.storeAt,Instr.sureAddr,hf.ev hx,hf.ev hy,storeVar,run_sizeOf' hs,hc,hvs,hr]
theorem X1r{t T:TypeId}{x y:Operand}{b off k:Nat}{v:Value}{l l' vs:List Value}(hx:ev e x=some (.pointer (some ⟨b,off,none⟩)))(hy:ev e y=some v)(hs:SizeT P t k)(hb:Blk w b T l)(hvs:v.cells.toList=vs)(hk:Nat.beq vs.length k=true)(h1:vs.all one=true)(hl:Nat.ble (off+k) l.length=true)(hl':splice l off vs=l'):EfW P ⟨d,.store t x y,ty,pos,af,g⟩ n e w (Stored w b T l'):=fun a hf=>Xbx hf hx hy hs hb hvs hk h1 hl hl'
def Ret(P:Program)(f:FuncId)(args:List Value)(w:World)(R:Value->World->Prop) : Prop:=Calls P f args.toArray w fun e w'=>∃ v,e=.returned v/\R v w'
theorem Ret.mono{f:FuncId}{args:List Value}{R R':Value->World->Prop}(h:Ret P f args w R)(hr:∀ v w',R v w'->R' v w'):Ret P f args w R':=
 Calls.mono h fun _ _ ⟨v,he,hR⟩=>⟨v,he,hr _ _ hR⟩
theorem X9n{f:FuncId}(hF:FuncF P f)(args:Array Value)(w:World):(callFunc f args).run P w=.ok (.enter f args) w:=by
 have ⟨fn,h1,h2,h3⟩:=hF;have h2' : ¬ fn.name = "runtime.NumGoroutine" := by simpa using h2
 have h3':¬ fn.body=none:=by intro hb;rw[hb] at h3;cases h3
 simp[callFunc,h1,h2',h3']
theorem Xvc{f:FuncId}{xs:List Operand}{vs:List Value}{ts:Array TypeId}{R:Value->World->Prop}(hf:Fr a n e)(hx:evs e xs=some vs)(hF:FuncF P f)(h:Ret P f vs w R) :
  Ef P ⟨d,.call ⟨.value (.func f),xs.toArray,ts⟩,ty,pos,af,g⟩ a w R:=by
 have hm:=hf.evs hx;unfold Ef;have hr:(execOp a.eval ⟨d,.call ⟨.value (.func f),xs.toArray,ts⟩,ty,pos,af,g⟩).run P w=.ok (.enter f vs.toArray) w:=by
  simp[execOp,resolve,Act.eval,Deferred.ofValue,invoke,hm,X9n hF]
 rw[hr];exact h
theorem X8b{f:FuncId}{xs:List Operand}{vs:List Value}{ts:Array TypeId}{R:Value->World->Prop}(hx:evs e xs=some vs)(hF:FuncF P f)(h:Ret P f vs w R):EfW P ⟨d,.call ⟨.value (.func f),xs.toArray,ts⟩,ty,pos,af,g⟩ n e w R:=fun a hf=>Xvc hf hx hF h
theorem Xpd{f:FuncId}{x:Operand}{xs:List Operand}{vs cs:List Value}{ts:Array TypeId}{R:Value->World->Prop}(hf:Fr a n e)(hv:ev e x=some (.func (.func f) #[] cs.toArray))(hx:evs e xs=some vs)(hF:FuncF P f)(h:Ret P f (vs++cs) w R) :
  Ef P ⟨d,.call ⟨.value x,xs.toArray,ts⟩,ty,pos,af,g⟩ a w R:=by
 have hm:=hf.evs hx;have hv':=hf.ev hv;unfold Ef;have hr:(execOp a.eval ⟨d,.call ⟨.value x,xs.toArray,ts⟩,ty,pos,af,g⟩).run P w=.ok (.enter f (vs++cs).toArray) w:=by
  simp[execOp,resolve,hv',Deferred.ofValue,invoke,hm,X9n hF]
 rw[hr];exact h
theorem X6o{f:FuncId}{x:Operand}{xs:List Operand}{vs cs:List Value}{ts:Array TypeId}{R:Value->World->Prop}(hv:ev e x=some (.func (.func f) #[] cs.toArray))(hx:evs e xs=some vs)(hF:FuncF P f)(h:Ret P f (vs++cs) w R):EfW P ⟨d,.call ⟨.value x,xs.toArray,ts⟩,ty,pos,af,g⟩ n e w R:=fun a hf=>Xpd hf hv hx hF h
end
section
variable {α : Type}
def Rd(w:World)(B:Nat)(E:TypeId)(enc:α->List Value)(A:Option Addr)(l:List α) : Prop:=
 l≠[]->∃ b off cs fz,A=some ⟨b,off,none⟩/\b<B/\w.heap[b]? = some (.cells cs E fz)/\∀ j v,(l.flatMap enc)[j]? = some v->cs[off+j]? = some v
theorem Rd.nil(w:World)(B:Nat)(E:TypeId)(enc:α->List Value)(A:Option Addr):Rd w B E enc A []:=fun h=>absurd rfl h
theorem Rd.chg{w w':World}{B:Nat}{E:TypeId}{enc:α->List Value}{A:Option Addr}{l:List α}(h:Rd w B E enc A l)(hk:∀ b cs fz,b<B->w.heap[b]? = some (.cells cs E fz)->w'.heap[b]? = w.heap[b]?):Rd w' B E enc A l:=by grind [Rd]
theorem Rd.more{w:World}{B B':Nat}{E:TypeId}{enc:α->List Value}{A:Option Addr}{l:List α}(h:Rd w B E enc A l)(hB:B<=B'):Rd w B' E enc A l:=by grind [Rd]
theorem Rd.bw{w w':World}{B:Nat}{E:TypeId}{enc:α->List Value}{A:Option Addr}{l:List α}(h:Rd w B E enc A l)(hb:Below w.heap.size w w'):Rd w' B E enc A l:=
 h.chg fun b _ _ _ hh=>hb.block b (by
  rcases W4 b w.heap.size with h'|h'
  ·exact h'
  ·rw[We h'] at hh;cases hh)
theorem Rd.bx{w w':World}{B:Nat}{E:TypeId}{enc:α->List Value}{A:Option Addr}{l:List α}(h:Rd w B E enc A l)(hb:Below B w w'):Rd w' B E enc A l:=
 h.chg fun b _ _ hB _=>hb.block b hB
theorem Rd.oy{w w':World}{B b:Nat}{E:TypeId}{enc:α->List Value}{A:Option Addr}{l:List α}(h:Rd w B E enc A l)(ho:Only b w w')(hB:B<=b):Rd w' B E enc A l:=
 h.chg fun k _ _ hk _=>ho.block k Z
theorem Rd.oT{w w':World}{B b:Nat}{E T:TypeId}{lc:List Value}{enc:α->List Value}{A:Option Addr}{l:List α}(h:Rd w B E enc A l)(ho:Only b w w')(hb:Blk w b T lc)(hT:Nat.beq E T=false):Rd w' B E enc A l:=
 h.chg fun k cs fz _ hh=>ho.block k (by
  rintro rfl;unfold Blk at hb;rw[hh] at hb;injection hb with hb;injection hb with _ e _;subst e;simp at hT)
theorem Rd.drew{w:World}{B:Nat}{E:TypeId}{enc:α->List Value}{A:Option Addr}{l:List α}(h:Rd w B E enc A l):Rd w.drew B E enc A l:=h
theorem X8r{enc:α->List Value}{sz:Nat}(hsz:∀ x,(enc x).length=sz):∀ (l:List α) (k:Nat) (x:α),l[k]? = some x->∀ j v,(enc x)[j]? = some v->(l.flatMap enc)[k*sz+j]? = some v
 | [],k,x,h=>by simp at h
 | y::l,0,x,h=>by
  intro j v hj;obtain rfl:y=x:=by simpa using h
  simp only[Wc,Nat.zero_mul,Nat.zero_add];rw[List.getElem?_append_left (Qg.1 hj).1];exact hj
 | y::l,k+1,x,h=>by
  intro j v hj;simp only[Wc];have h1:(k+1)*sz+j=sz+(k*sz+j):=by rw[Wb];omega
  rw[h1,W5 (by rw[hsz];omega),hsz,Nat.add_sub_cancel_left];exact X8r hsz l k x (by simpa using h) j v hj
theorem Xw{enc:α->List Value}{sz:Nat}(hsz:∀ x,(enc x).length=sz)(l:List α):(l.flatMap enc).length=l.length*sz:=by
 induction l with
 | nil=>simp
 | cons x l ih=>simp only[Wc,Qh,hsz,ih,Qs,Wb];omega
theorem Rd.at{w:World}{B:Nat}{E:TypeId}{enc:α->List Value}{A:Option Addr}{l:List α}{sz:Nat}(hsz:∀ x,(enc x).length=sz)(h:Rd w B E enc A l){k:Nat}{x:α}(hk:l[k]? = some x) :
  ∃ p,A=some p/\At w (p.add (k*sz)) (enc x):=by
 have hl:l≠[]:=by rintro rfl;simp at hk
 obtain ⟨b,off,cs,fz,rfl,h2,h3,h4⟩:=h hl;refine ⟨_,O,fun j v hj=>?_⟩;rw[X2b,X2b];have:=h4 _ _ (X8r hsz l k x hk j v hj);simp only[World.cell?,h3];rw[Nat.add_assoc];simpa using this
theorem Rd.of_blk{w:World}{b:Nat}{E:TypeId}{enc:α->List Value}{l:List α}{cs:List Value}(h:Blk w b E cs)(hcs:l.flatMap enc=cs)(B:Nat)(hB:b<B):Rd w B E enc (some ⟨b,0,none⟩) l:=by grind [Blk,Rd]
def Own(w:World)(B0:Nat)(E:TypeId)(sz:Nat)(enc:α->List Value)(A:Option Addr)(c:Nat)(l:List α) : Prop:=w.ownsRow B0 E sz (.slice A l.length c) l.length (l.flatMap enc)
abbrev Rw{α:Type}(w:World)(E:TypeId)(e:α->List Value)(A:Option Addr)(l:List α):=Rd w w.heap.size E e A l
theorem Own.rd{w:World}{B0:Nat}{E:TypeId}{sz:Nat}{enc:α->List Value}{A:Option Addr}{c:Nat}{l:List α}(h:Own w B0 E sz enc A c l):Rw w E enc A l:=fun hl=>by
 rcases h.2 with ⟨h1,h2⟩|⟨g,cap,cur,h1,h2,h3,h4,h5,h6,h7⟩
 ·exact absurd (List.eq_nil_of_length_eq_zero h2) hl
 ·injection h1 with h1;refine ⟨g,0,cur,_,h1,(Qp.1 h3).1,h3,fun j v hj=>?_⟩;rw[<- h7,List.getElem?_take] at hj;split at hj
  ·simpa using hj
  ·cases hj
theorem Own.nil(w:World)(B0:Nat)(E:TypeId)(sz:Nat)(enc:α->List Value):Own w B0 E sz enc none 0 []:=⟨by simp,.inl ⟨rfl,rfl⟩⟩
theorem Own.empty{w:World}{B0 b:Nat}{E:TypeId}{sz:Nat}{enc:α->List Value}(h:Blk w b E [])(hb:B0<=b):Own w B0 E sz enc (some ⟨b,0,none⟩) 0 ([] : List α):=
 ⟨by simp,.inr ⟨b,0,#[],rfl,hb,h,Qb _,by simp[maxLen],by simp,by simp⟩⟩
theorem Own.of_blk{w:World}{B0 b:Nat}{E:TypeId}{sz:Nat}{enc:α->List Value}{l:List α}{cs:List Value}(h:Blk w b E cs)(hb:B0<=b)(hcs:l.flatMap enc=cs)(hsz:∀ x,(enc x).length=sz)(hm:l.length<=maxLen):Own w B0 E sz enc (some ⟨b,0,none⟩) l.length l:=by
 subst hcs;have hl:=Xw hsz l;exact ⟨hl,.inr ⟨b,l.length,_,O,hb,h,Qb _,hm,by simpa using hl,by simp only[List.toList_toArray];rw[<- hl];exact List.take_length⟩⟩
theorem Own.bw{w w':World}{B0:Nat}{E:TypeId}{sz:Nat}{enc:α->List Value}{A:Option Addr}{c:Nat}{l:List α}(h:Own w B0 E sz enc A c l)(hb:Below w.heap.size w w'):Own w' B0 E sz enc A c l:=by
 refine ⟨h.1,?_⟩;rcases h.2 with h1|⟨g,cap,cur,h1,h2,h3,h4⟩
 ·exact .inl h1
 ·exact .inr ⟨g,cap,cur,h1,h2,(hb.block g (Qp.1 h3).1).trans h3,h4⟩
theorem Own.oT{w w':World}{B0 b:Nat}{E T:TypeId}{lc:List Value}{sz:Nat}{enc:α->List Value}{A:Option Addr}{c:Nat}{l:List α}(h:Own w B0 E sz enc A c l)(ho:Only b w w')(hb:Blk w b T lc)(hT:Nat.beq E T=false):Own w' B0 E sz enc A c l:=by
 refine ⟨h.1,?_⟩;rcases h.2 with h1|⟨g,cap,cur,h1,h2,h3,h4⟩
 ·exact .inl h1
 ·refine .inr ⟨g,cap,cur,h1,h2,(ho.block g ?_).trans h3,h4⟩;rintro rfl;unfold Blk at hb;rw[h3] at hb;injection hb with hb;injection hb with _ e _;subst e;simp at hT
theorem Own.drew{w:World}{B0:Nat}{E:TypeId}{sz:Nat}{enc:α->List Value}{A:Option Addr}{c:Nat}{l:List α}(h:Own w B0 E sz enc A c l):Own w.drew B0 E sz enc A c l:=h
theorem Own.block{w:World}{B0:Nat}{E:TypeId}{sz:Nat}{enc:α->List Value}{A:Option Addr}{c:Nat}{l:List α}(h:Own w B0 E sz enc A c l){k:Nat}(hk:(Value.slice A l.length c).ownBlock=some k):B0<=k/\k<w.heap.size/\∃ cs fz,w.heap[k]? = some (.cells cs E fz):=by
 rcases h.2 with ⟨h1,_⟩|⟨g,cap,cur,h1,h2,h3,_⟩
 ·rw[h1] at hk;simp[Value.ownBlock] at hk
 ·rw[h1] at hk;simp[Value.ownBlock] at hk;subst hk;exact ⟨h2,(Qp.1 h3).1,_,_,h3⟩
def Away(A:Option Addr)(b:Nat) : Prop:=∀ p,A=some p->p.block≠b
def AwayR(l:List α)(A:Option Addr)(b:Nat) : Prop:=l≠[]->Away A b
theorem Away.no(b:Nat):Away none b:=fun p h=>by cases h
theorem Away.ne{g off b:Nat}(h:b≠g):Away (some ⟨g,off,none⟩) b:=by grind [Away]
theorem Rd.away{w:World}{B b:Nat}{E:TypeId}{enc:α->List Value}{A:Option Addr}{l:List α}(h:Rd w B E enc A l)(hl:w.heap.size<=b):AwayR l A b:=fun hne p hp=>by
 have ⟨g,off,cs,fz,h1,h2,h3,h4⟩:=h hne;rw[hp] at h1;injection h1 with h1;subst h1;have:=(Qp.1 h3).1;intro e;simp only at e;omega
theorem Own.away{w:World}{B0 b:Nat}{E:TypeId}{sz:Nat}{enc:α->List Value}{A:Option Addr}{c:Nat}{l:List α}(h:Own w B0 E sz enc A c l)(hl:w.heap.size<=b):Away A b:=fun p hp=>by
 rcases h.2 with ⟨h1,_⟩|⟨g,cap,cur,h1,h2,h3,_⟩
 ·injection h1 with h1;rw[h1] at hp;cases hp
 ·injection h1 with h1;rw[h1] at hp;injection hp with hp;subst hp;have:=(Qp.1 h3).1;intro e;simp only at e;omega
theorem Own.awayNew{w:World}{B0 b:Nat}{E:TypeId}{sz:Nat}{enc:α->List Value}{A:Option Addr}{c:Nat}{l:List α}(h:Own w B0 E sz enc A c l)(hl:b<B0):Away A b:=fun p hp=>by
 rcases h.2 with ⟨h1,_⟩|⟨g,cap,cur,h1,h2,h3,_⟩
 ·injection h1 with h1;rw[h1] at hp;cases hp
 ·injection h1 with h1;rw[h1] at hp;injection hp with hp;subst hp;intro e;simp only at e;omega
theorem Away.r{l:List α}{A:Option Addr}{b:Nat}(h:Away A b):AwayR l A b:=fun _=>h
theorem Rd.onlyA{w w':World}{B b:Nat}{E:TypeId}{enc:α->List Value}{A:Option Addr}{l:List α}(h:Rd w B E enc A l)(ho:Only b w w')(ha:AwayR l A b):Rd w' B E enc A l:=fun hne=>by
 have ⟨g,off,cs,fz,h1,h2,h3,h4⟩:=h hne;exact ⟨g,off,cs,fz,h1,h2,(ho.block g (ha hne _ h1)).trans h3,h4⟩
theorem Own.onlyA{w w':World}{B0 b:Nat}{E:TypeId}{sz:Nat}{enc:α->List Value}{A:Option Addr}{c:Nat}{l:List α}(h:Own w B0 E sz enc A c l)(ho:Only b w w')(ha:Away A b):Own w' B0 E sz enc A c l:=by
 refine ⟨h.1,?_⟩;rcases h.2 with h1|⟨g,cap,cur,h1,h2,h3,h4⟩
 ·exact .inl h1
 ·injection h1 with h1 h1' h1'';exact .inr ⟨g,cap,cur,by rw[h1,h1''],h2,(ho.block g (ha _ h1)).trans h3,h4⟩
def Appended(w:World)(B0:Nat)(E:TypeId)(sz:Nat)(enc:α->List Value)(A:Option Addr)(c:Nat)(l l2:List α)(v:Value)(w':World) : Prop:=
 ∃ A' c',v=.slice A' (l++l2).length c'/\Own w' B0 E sz enc A' c' (l++l2)/\w.grownBy w' (Value.slice A l.length c).ownBlock/\∀ b,b<w.heap.size->Away A b->Away A' b
theorem Blk.appT{w w':World}{b:Nat}{T:TypeId}{lc:List Value}{B0:Nat}{E:TypeId}{sz:Nat}{enc:α->List Value}{A:Option Addr}{c:Nat}{l:List α}(h:Blk w b T lc)(ho:Own w B0 E sz enc A c l)(hg:w.grownBy w' (Value.slice A l.length c).ownBlock)(hT:Nat.beq E T=false):Blk w' b T lc:=by
 refine (hg.block b h.lt fun hk=>?_).trans h;have ⟨_,_,cs,fz,h3⟩:=ho.block hk.symm;unfold Blk at h;rw[h3] at h;injection h with h;injection h with _ e _;subst e;simp at hT
theorem Blk.appB{w w':World}{b:Nat}{T:TypeId}{lc:List Value}{B0:Nat}{E:TypeId}{sz:Nat}{enc:α->List Value}{A:Option Addr}{c:Nat}{l:List α}(h:Blk w b T lc)(ho:Own w B0 E sz enc A c l)(hg:w.grownBy w' (Value.slice A l.length c).ownBlock)(hb:b<B0):Blk w' b T lc:=
 (hg.block b h.lt fun hk=>by have:=(ho.block hk.symm).1;omega).trans h
theorem Blk.appA{w w':World}{b:Nat}{T:TypeId}{lc:List Value}{A:Option Addr}{n c:Nat}(h:Blk w b T lc)(hg:w.grownBy w' (Value.slice A n c).ownBlock)(ha:Away A b):Blk w' b T lc:=by
 refine (hg.block b h.lt fun hk=>?_).trans h;cases A with
 | none=>simp[Value.ownBlock] at hk
 | some q=>
  simp only[Value.ownBlock,Option.some.injEq] at hk;exact ha q O hk.symm
theorem Rd.appT{β:Type}{w w':World}{B:Nat}{E':TypeId}{enc':β->List Value}{A':Option Addr}{l':List β}{B0:Nat}{E:TypeId}{sz:Nat}{enc:α->List Value}{A:Option Addr}{c:Nat}{l:List α}(h:Rd w B E' enc' A' l')(ho:Own w B0 E sz enc A c l)(hg:w.grownBy w' (Value.slice A l.length c).ownBlock)(hT:Nat.beq E E'=false):Rd w' B E' enc' A' l':=
 h.chg fun k cs fz _ hh=>hg.block k (Qp.1 hh).1 fun hk=>by
  obtain ⟨_,_,cs',fz',h3⟩:=ho.block hk.symm;rw[h3] at hh;injection hh with hh;injection hh with _ e _;subst e;simp at hT
theorem Rd.appB{β:Type}{w w':World}{B:Nat}{E':TypeId}{enc':β->List Value}{A':Option Addr}{l':List β}{B0:Nat}{E:TypeId}{sz:Nat}{enc:α->List Value}{A:Option Addr}{c:Nat}{l:List α}(h:Rd w B E' enc' A' l')(ho:Own w B0 E sz enc A c l)(hg:w.grownBy w' (Value.slice A l.length c).ownBlock)(hB:B<=B0):Rd w' B E' enc' A' l':=
 h.chg fun k cs fz hk hh=>hg.block k (Qp.1 hh).1 fun hk'=>by have:=(ho.block hk'.symm).1;omega
theorem Own.appT{β:Type}{w w':World}{B1:Nat}{E':TypeId}{sz':Nat}{enc':β->List Value}{A':Option Addr}{c':Nat}{l':List β}{B0:Nat}{E:TypeId}{sz:Nat}{enc:α->List Value}{A:Option Addr}{c:Nat}{l:List α}(h:Own w B1 E' sz' enc' A' c' l')(ho:Own w B0 E sz enc A c l)(hg:w.grownBy w' (Value.slice A l.length c).ownBlock)(hT:Nat.beq E E'=false):Own w' B1 E' sz' enc' A' c' l':=by
 refine ⟨h.1,?_⟩;rcases h.2 with h1|⟨g,cap,cur,h1,h2,h3,h4⟩
 ·exact .inl h1
 ·refine .inr ⟨g,cap,cur,h1,h2,(hg.block g (Qp.1 h3).1 fun hk=>?_).trans h3,h4⟩;obtain ⟨_,_,cs',fz',h5⟩:=ho.block hk.symm;rw[h5] at h3;injection h3 with h3;injection h3 with _ e _;subst e;simp at hT
theorem Below.app{w0 w w':World}{B B0:Nat}{E:TypeId}{sz:Nat}{enc:α->List Value}{A:Option Addr}{c:Nat}{l:List α}(h:Below B w0 w)(ho:Own w B0 E sz enc A c l)(hg:w.grownBy w' (Value.slice A l.length c).ownBlock)(hB:B<=B0)(hs:B<=w.heap.size):Below B w0 w':=
 h.grown hg hs fun k hk=>by have:=(ho.block hk).1;omega
def InfoT(P:Program)(E:TypeId)(sz bytes:Nat) : Prop:=∃ i z,P.info? E=some i/\i.zero=some z/\i.size=sz/\i.bytes=bytes/\z.cells.size=sz/\0<sz
section
variable {P : Program} {a : Act} {w : World} {n : Nat} {e : Env} {ty : TypeId} {pos : String} {af : Array Edge} {g : Option (Nat × Bool)} {d : Option Tmp}
theorem Xnb{T E:TypeId}{sz bytes B B0:Nat}{x y:Operand}{enc:α->List Value}{A A2:Option Addr}{c c2:Nat}{l l2:List α}(hf:Fr a n e)(hx:ev e x=some (.slice A l.length c))(hy:ev e y=some (.slice A2 l2.length c2))
  (hT:SliceT P T E) (hi:InfoT P E sz bytes) (hsz:∀ x,(enc x).length=sz) (hone:∀ x,(enc x).all one=true) (ho:Own w B0 E sz enc A c l) (hr:Rd w B E enc A2 l2) (h63:l.length+l2.length<=maxLen) (hbytes:(l.length+l2.length)*bytes<=140737488355328) (hB0:B0<=w.heap.size) :
  Ef P ⟨d,.call ⟨.builtin .append,#[x,y],#[T,T]⟩,ty,pos,af,g⟩ a w (Appended w B0 E sz enc A c l l2):=by
 have ⟨i,z,hi1,hi2,hi3,hi4,hi5,hi6⟩:=hi;by_cases hl2:l2=[]
 ·subst hl2;have hrun:(Builtin.append_ #[T,T] ty #[.slice A l.length c,.slice A2 0 c2]).run P w=.ok (.slice A l.length c) w:=by
   rcases ho.2 with ⟨h1,h2⟩|⟨gg,cap,cur,h1,h2,h3,h4,h5,h6,h7⟩
   ·injection h1 with h1 h1' h1'';subst h1;cases A2<;>simp[Builtin.append_,X13 hT,sizeOf,typeInfo,hi1,Builtin.lenOf,Builtin.firstCells,loadCells,loadCellsFrom,h1',h1'']
   ·injection h1 with h1 _ h1'';subst h1;subst h1'';cases A2<;>simp[Builtin.append_,X13 hT,sizeOf,typeInfo,hi1,Builtin.lenOf,Builtin.firstCells,loadCells,loadCellsFrom,h4,storeCells]
  refine (Ef.of_run (v:=.slice A l.length c) (w':=w) ?_).mono fun v w' ⟨e1,e2⟩=>?_
  ·simp only[List.length_nil] at hy;simp[execOp,resolve,invoke,builtin,hf.ev hx,hf.ev hy,hrun]
  ·subst e1;subst e2;exact ⟨A,c,by simp,by simpa using ho,World.grownBy.refl w' _,fun _ _ h=>h⟩
 ·obtain ⟨b,off,cs,fz,rfl,h2,h3,h4⟩:=hr hl2;obtain ⟨v',w',hrun,hown,hg,_,hat⟩:=run_append_own_at (P:=P) w B0 T ty E i z sz bytes hT hi1 hi2 hi3 hi4 hi5 hi6 (.slice A l.length c) l.length (l.flatMap enc) ho ⟨b,off,none⟩ l2.length c2 (l2.flatMap enc) (Xw hsz l2)
   (fun j u hu=>by
    have:=h4 j u hu;rw[X2b];simp[World.cell?,h3,this])
   (fun u hu=>by
    have ⟨x,_,hx⟩:=List.mem_flatMap.1 hu;have:=W1.1 (hone x) u hx;cases u<;>simp_all[Value.oneCell',one]) h63 hbytes hB0
  refine (Ef.of_run (v:=v') (w':=w') ?_).mono fun v w1 ⟨e1,e2⟩=>?_
  ·simp[execOp,resolve,invoke,builtin,hf.ev hx,hf.ev hy,hrun]
  ·subst e1;subst e2;have hv:∃ A' c',v=.slice A' (l++l2).length c':=by
    rcases hown.2 with ⟨h1,h2⟩|⟨gg,cap,cur,h1,_⟩
    ·exact ⟨none,0,by rw[h1,Qh,h2]⟩
    ·exact ⟨_,_,by rw[h1,Qh]⟩
   obtain ⟨A',c',rfl⟩:=hv;refine ⟨A',c',O,?_,hg,fun b hb ha p hp=>?_⟩
   rotate_left
   ·subst hp;rcases hat with hat|hat
    ·cases A with
     | none=>simp[Value.ownBlock] at hat
     | some q=>
      simp only[Value.ownBlock,Option.some.injEq] at hat
      rw[hat];exact ha q O
    ·simp only[Value.ownBlock,Option.some.injEq] at hat
     rw[hat];omega
   unfold Own;rw[Qh,List.flatMap_append];simpa[Qh] using hown
theorem X0r{T E:TypeId}{sz bytes B B0:Nat}{x y:Operand}{enc:α->List Value}{A A2:Option Addr}{c c2:Nat}{l l2:List α}(hx:ev e x=some (.slice A l.length c))(hy:ev e y=some (.slice A2 l2.length c2))(hT:SliceT P T E)(hi:InfoT P E sz bytes)(hsz:∀ x,(enc x).length=sz)(hone:∀ x,(enc x).all one=true)(ho:Own w B0 E sz enc A c l)(hr:Rd w B E enc A2 l2)(h63:l.length+l2.length<=maxLen)(hbytes:(l.length+l2.length)*bytes<=140737488355328)(hB0:B0<=w.heap.size):EfW P ⟨d,.call ⟨.builtin .append,#[x,y],#[T,T]⟩,ty,pos,af,g⟩ n e w (Appended w B0 E sz enc A c l l2):=fun a hf=>Xnb hf hx hy hT hi hsz hone ho hr h63 hbytes hB0
theorem X95{T E:TypeId}{sz:Nat}{x y:Operand}{p:Addr}{c:Nat}{k:Nat}{i:Int}{m:Nat}(hf:Fr a n e)(hx:ev e x=some (.slice (some p) m c))(hy:ev e y=some (.int .i64 i))(hT:SliceT P T E)(hs:SizeT P E sz)
  (hi:i=(k:Int)) (hk:k<m) : Ev P ⟨d,.indexAddr T x y,ty,pos,af,g⟩ a w (.pointer (some (p.add (k*sz)))):=fun w' _=>by
 subst hi;have h1:=X13 (P:=P) hT w';have h2:=run_sizeOf' hs w';have h3:((k:Int)<(m:Int))=True:=by simp;omega
 simp[execOp,Instr.indexAt,asIntOf,hf.ev hx,hf.ev hy,h1,h2,hk]
end
end
class Mw (w w':World) (p:Prop) (q:outParam Prop) : Prop where
 mw:p->Below w.heap.size w w'->q
instance {w w':World} {b:Nat} {T:TypeId} {l:List Value} : Mw w w' (Blk w b T l) (Blk w' b T l):=⟨Blk.bw⟩
instance {α:Type} {w w':World} {B:Nat} {E:TypeId} {enc:α->List Value} {A:Option Addr} {l:List α} : Mw w w' (Rd w B E enc A l) (Rd w' B E enc A l):=⟨Rd.bw⟩
instance {α:Type} {w w':World} {B:Nat} {E:TypeId} {sz:Nat} {enc:α->List Value} {A:Option Addr} {c:Nat} {l:List α} : Mw w w' (Own w B E sz enc A c l) (Own w' B E sz enc A c l):=⟨Own.bw⟩
instance {w0 w w':World} : Mw w w' (Below w0.heap.size w0 w) (Below w0.heap.size w0 w'):=⟨btr⟩
section
variable {w w' : World} {p1 p2 p3 p4 p5 p6 p7 p8 q1 q2 q3 q4 q5 q6 q7 q8 : Prop} [m1 : Mw w w' p1 q1] [m2 : Mw w w' p2 q2]
theorem mv2(o:Below w.heap.size w w')(a:p1)(b:p2):q1/\q2:=⟨m1.mw a o,m2.mw b o⟩
variable [m3 : Mw w w' p3 q3]
theorem mv3(o:Below w.heap.size w w')(a:p1)(b:p2)(c:p3):q1/\q2/\q3:=⟨m1.mw a o,m2.mw b o,m3.mw c o⟩
variable [m4 : Mw w w' p4 q4]
theorem mv4(o:Below w.heap.size w w')(a:p1)(b:p2)(c:p3)(d:p4):q1/\q2/\q3/\q4:=⟨m1.mw a o,m2.mw b o,m3.mw c o,m4.mw d o⟩
variable [m5 : Mw w w' p5 q5]
theorem mv5(o:Below w.heap.size w w')(a:p1)(b:p2)(c:p3)(d:p4)(e:p5):q1/\q2/\q3/\q4/\q5:=⟨m1.mw a o,m2.mw b o,m3.mw c o,m4.mw d o,m5.mw e o⟩
variable [m6 : Mw w w' p6 q6]
theorem mv6(o:Below w.heap.size w w')(a:p1)(b:p2)(c:p3)(d:p4)(e:p5)(f:p6):q1/\q2/\q3/\q4/\q5/\q6:=⟨m1.mw a o,m2.mw b o,m3.mw c o,m4.mw d o,m5.mw e o,m6.mw f o⟩
variable [m7 : Mw w w' p7 q7]
theorem mv7(o:Below w.heap.size w w')(a:p1)(b:p2)(c:p3)(d:p4)(e:p5)(f:p6)(g:p7):q1/\q2/\q3/\q4/\q5/\q6/\q7:=⟨m1.mw a o,m2.mw b o,m3.mw c o,m4.mw d o,m5.mw e o,m6.mw f o,m7.mw g o⟩
variable [m8 : Mw w w' p8 q8]
theorem mv8(o:Below w.heap.size w w')(a:p1)(b:p2)(c:p3)(d:p4)(e:p5)(f:p6)(g:p7)(h:p8):q1/\q2/\q3/\q4/\q5/\q6/\q7/\q8:=⟨m1.mw a o,m2.mw b o,m3.mw c o,m4.mw d o,m5.mw e o,m6.mw f o,m7.mw g o,m8.mw h o⟩
end
section
variable {P : Program} {Q : Exit -> Act -> World -> Prop} {a : Act} {w : World} {n : Nat} {e : Env}
theorem Xx{c:Operand}{x y:Code}{b:Bool}(hf:Fr a n e)(hc:ev e c=some (.bool b))(ht:b=true->x.wp P Q a w)(he:b=false->y.wp P Q a w):(Code.cond c x y).wp P Q a w:=
 wp_cond_split (hf.ev hc) ht he
theorem Xej{c:Operand}{x y:Code}(hf:Fr a n e)(hc:ev e c=some (.bool true))(ht:x.wp P Q a w):(Code.cond c x y).wp P Q a w:=wp_cond_true (hf.ev hc) ht
theorem Xk7{c:Operand}{x y:Code}(hf:Fr a n e)(hc:ev e c=some (.bool false))(ht:y.wp P Q a w):(Code.cond c x y).wp P Q a w:=wp_cond_false (hf.ev hc) ht
theorem X0y{c:Operand}{x y:Code}{p:Prop}[Decidable p](hf:Fr a n e)(hc:ev e c=some (.bool (decide p)))(ht:decide p=true->p->x.wp P Q a w)(he:decide p=false->¬p->y.wp P Q a w):(Code.cond c x y).wp P Q a w:=
 wp_cond_split (hf.ev hc) (fun h=>ht h (Q2 h)) (fun h=>he h (Q1 h))
theorem X0i{c:Code}(X:Act->World->Prop)(h:c.wp P (Exit.then X Q) a w)(hX:∀ a w,X a w->Q .normal a w):c.wp P Q a w:=
 Code.wp_mono (fun e a w hq=>by cases e<;>first|exact hX _ _ hq|exact hq) h
theorem X04{σ:Type}{c:Code}(I:σ->Act->World->Prop)(μ:σ->Nat)(s:σ)(h0:I s a w)
  (round:∀ s a w,I s a w->c.wp P (Exit.then (fun a' w'=>∃ s',I s' a' w'/\μ s'<μ s) Q) a w) : (Code.loop c).wp P Q a w:=by
 intro b k cs;have key:∀ n s a w,μ s=n->I s a w->∃ e a' w',Q e a' w'/\Arrives P (lone (b.at a (.code c::.inLoop c::k)) cs w) b k cs e a' w':=by
  intro n
  induction n using Nat.strongRecOn with
  | _ n ih=>
   intro s a w hn hI;have ⟨e,a₁,w₁,hq,harr⟩:=round s a w hI b (.inLoop c::k) cs;cases e with
   | normal=>
    obtain ⟨s',hI₁,hlt⟩:=hq;have ⟨e₂,a₂,w₂,hq₂,harr₂⟩:=ih (μ s') (hn▸hlt) s' a₁ w₁ O hI₁;exact ⟨e₂,a₂,w₂,hq₂,.of_steps (Steps.trans harr (.one step_inLoop)) harr₂⟩
   | exit id=>exact ⟨_,a₁,w₁,hq,.pass (x:=.inLoop c) rfl (fun _ _=>.inl O4) harr⟩
   | goto l=>exact ⟨_,a₁,w₁,hq,.pass (x:=.inLoop c) rfl (fun _ _=>.inl O4) harr⟩
   | ret=>exact ⟨_,a₁,w₁,hq,.pass (x:=.inLoop c) rfl (fun _ _=>.inl O4) harr⟩
   | panic ch=>exact ⟨_,a₁,w₁,hq,.pass (x:=.inLoop c) rfl (fun _ _=>.inl O4) harr⟩
   | outgrown=>exact ⟨_,a₁,w₁,hq,.pass (x:=.inLoop c) rfl (fun _ _=>.inl O4) harr⟩
 obtain ⟨e,a',w',hq,harr⟩:=key _ s a w O h0;exact ⟨e,a',w',hq,.of_steps (.one step_loop) harr⟩
def evp(e:Env) : List (Nat×Operand)->Option (List (Nat×Value))
 | []=>some []
 | (i,x)::l=>match ev e x,evp e l with
  | some v,some vs=>some ((i,v)::vs)
  | _,_=>none
theorem Fr.evp(hf:Fr a n e):∀ {l:List (Nat×Operand)} {vs:List (Nat×Value)},evp e l=some vs->l.map (fun p=>(p.1,a.eval p.2))=vs:=by
 intro l
 induction l with
 | nil=>intro vs h;simpa[YthbobfjhofgfdaaGreat.evp] using h
 | cons x l ih=>
  have ⟨i,x⟩:=x;intro vs h;simp only[YthbobfjhofgfdaaGreat.evp] at h;split at h
  ·rename_i v us h1 h2;injection h with h;subst h;simp[hf.ev h1,ih h2]
  ·cases h
def numb:Nat->List Value->List (Nat×Value)
 | _,[]=>[]
 | k,v::l=>(k,v)::numb (k+1) l
section
variable {ty : TypeId} {pos : String} {af : Array Edge} {g : Option (Nat × Bool)} {d : Option Tmp}
theorem Xpk{T:TypeId}{parts:List (Nat×Operand)}{ps:List (Nat×Value)}{cs:List Value}(hf:Fr a n e)(hp:evp e parts=some ps)(hb:∀ w,(Instr.build T ps.toArray).run P w=.ok (.agg cs.toArray) w) :
  Ev P ⟨d,.build T parts.toArray,ty,pos,af,g⟩ a w (.agg cs.toArray):=fun w' _=>by
 have h1:=hf.evp hp;have h2:=hb w';simp only[execOp,List.map_toArray];rw[show (List.map (fun x:Nat×Operand=>match x with|(i,x)=>(i,a.eval x)) parts)=ps from h1];simp[h2]
theorem X0k{T:TypeId}{parts:List (Nat×Operand)}{ps:List (Nat×Value)}{cs:List Value}(hp:evp e parts=some ps)(hb:∀ w,(Instr.build T ps.toArray).run P w=.ok (.agg cs.toArray) w):EvW P ⟨d,.build T parts.toArray,ty,pos,af,g⟩ n e w (.agg cs.toArray):=fun a hf=>Xpk hf hp hb
theorem Xdl(off:Nat):∀ (l:List Value) (m:Nat) (cs:Array Value),off+m+l.length<=cs.size->((l.zipIdx m).foldl (fun cs p=>cs.setIfInBounds (off+p.2) p.1) cs).toList=splice cs.toList (off+m) l
 | [],m,cs,_=>by simp[splice]
 | v::l,m,cs,h=>by
  simp only[Qs] at h;simp only[List.zipIdx_cons,List.foldl_cons];rw[Xdl off l (m+1) _ O6];unfold splice;have e1:off+(m+1)=off+m+1:=by omega
  rw[e1,Array.toList_setIfInBounds,Wf O6,List.take_set_of_le Z,List.getElem_set_self,List.drop_set_of_lt Z];simp only[Qs,Qx,Wa,List.nil_append];rw[show off+m+1+l.length=off+m+(l.length+1) from by omega]
theorem X9v(sz:Nat):∀ (vs:List Value) (k:Nat) (cells:Array Value),(∀ v ∈ vs,v.cells.size=sz)->cells.size=(k+vs.length)*sz->
  Instr.fill (fun i=>some (i*sz,sz)) cells (numb k vs)=some (cells.toList.take (k*sz)++vs.flatMap fun v=>v.cells.toList).toArray
 | [],k,cells,_,h=>by
  simp only[List.length_nil,Nat.add_zero] at h;have h9:cells.toList.take (k*sz)=cells.toList:=Qi (by simp[h]);simp[numb,Instr.fill,h9]
 | v::vs,k,cells,h1,h=>by
  have hv:=h1 v O4;simp only[Qs] at h;have h2:k*sz+sz<=cells.size:=by rw[h,Wb,Wb];omega
  simp only[numb,Instr.fill,hv];rw[Q3 O6];have e1:(v.cells.zipIdx.foldl (fun cs (p:Value×Nat)=>cs.setIfInBounds (k*sz+p.2) p.1) cells).toList=splice cells.toList (k*sz) v.cells.toList:=by
   have:=Xdl (k*sz) v.cells.toList 0 cells (by simp[hv];omega);rw[<- Array.foldl_toList,Array.toList_zipIdx];simpa using this
  have hs:(v.cells.zipIdx.foldl (fun cs (p:Value×Nat)=>cs.setIfInBounds (k*sz+p.2) p.1) cells).size=cells.size:=by
   rw[<- Array.length_toList,e1];simp[splice,hv];omega
  have ih:=X9v sz vs (k+1) (v.cells.zipIdx.foldl (fun cs (p:Value×Nat)=>cs.setIfInBounds (k*sz+p.2) p.1) cells) (fun u hu=>h1 u (by simp[hu])) (by rw[hs,h];congr 1;omega);refine Eq.trans ih ?_;rw[e1];congr 2;simp only[Wc];rw[<- Qx];congr 1;unfold splice;have e2:(cells.toList.take (k*sz)++v.cells.toList).length=(k+1)*sz:=by simp[hv,Wb];omega
  rw[<- e2,List.take_left]
theorem Xcx{T E sz bytes:Nat}{k:Nat}{parts:List (Nat×Operand)}{vs zs:List Value}(hf:Fr a n e)(hp:evp e parts=some (numb 0 vs))(hT:SliceT P T E)(hi:InfoT P E sz bytes)(hv:(vs.all (fun v=>Nat.beq v.cells.size sz)&&Nat.beq vs.length k&&Nat.ble (k*sz) 1000)=true)(hz:vs.flatMap (fun v=>v.cells.toList)=zs) :
  Ef P ⟨d,.buildSlice T k parts.toArray,ty,pos,af,g⟩ a w (fun v w'=>∃ b,v=.slice (some ⟨b,0,none⟩) k k/\w.heap.size<=b/\Below w.heap.size w w'/\Blk w' b E zs):=by
 subst hz;have ⟨i,z,hi1,hi2,hi3,hi4,hi5,hi6⟩:=hi;simp only[Qd,W1] at hv;have ⟨⟨hv1,hv2⟩,hv3⟩:=hv;have hk:vs.length=k:=Nat.eq_of_beq_eq_true hv2;have hk3:k*sz<=1000:=Nat.le_of_ble_eq_true hv3;have h1:=hf.evp hp;have hfill:=X9v sz vs 0 ((Array.range (k*sz)).map fun j=>z.cells[j % z.cells.size]!) (fun v hv=>Nat.eq_of_beq_eq_true (hv1 v hv)) (by simp[hk]);simp only[Nat.zero_mul,List.take_zero,List.nil_append] at hfill;refine (Ef.of_run (v:=.slice (some ⟨w.heap.size,0,none⟩) k k) (w':=w.alloc (.cells (vs.flatMap fun v=>v.cells.toList).toArray E)) ?_).mono fun v w' ⟨e1,e2⟩=>?_
 ·simp only[execOp,List.map_toArray];rw[show (List.map (fun x:Nat×Operand=>match x with|(i,x)=>(i,a.eval x)) parts)=numb 0 vs from h1];have h24:¬ (16777216<k*sz):=by omega
  by_cases h0:k*sz=0
  ·have hf0:Instr.fill (fun i=>some (i*sz,sz)) #[] (numb 0 vs)=some (vs.flatMap fun v=>v.cells.toList).toArray:=by
    rw[<- hfill,h0];congr 1;simp[Array.range_zero']
   simp[Instr.buildSlice,X13 hT,sizeOf,typeInfo,hi1,hi3,h0,newRow,newObj,Sem.run,Array.range_zero',hf0]
  ·simp[Instr.buildSlice,X13 hT,sizeOf,typeInfo,hi1,hi3,h24,h0,zeroValue,hi2,newRow,newObj,Sem.run,hfill]
 ·subst e1;subst e2;exact ⟨_,O,Qb _,(Below.refl _ _).alloc (Qb _) _,X5s w E _⟩
theorem Xe{T E sz bytes:Nat}{k:Nat}{parts:List (Nat×Operand)}{vs zs:List Value}(hp:evp e parts=some (numb 0 vs))(hT:SliceT P T E)(hi:InfoT P E sz bytes)(hv:(vs.all (fun v=>Nat.beq v.cells.size sz)&&Nat.beq vs.length k&&Nat.ble (k*sz) 1000)=true)(hz:vs.flatMap (fun v=>v.cells.toList)=zs):EfW P ⟨d,.buildSlice T k parts.toArray,ty,pos,af,g⟩ n e w (fun v w'=>∃ b,v=.slice (some ⟨b,0,none⟩) k k/\w.heap.size<=b/\Below w.heap.size w w'/\Blk w' b E zs):=fun a hf=>Xcx hf hp hT hi hv hz
theorem Y33{x y:Operand}{i j:Int}{ts:Array TypeId}(hf:Fr a n e)(hx:ev e x=some (.int .i64 i))(hy:ev e y=some (.int .i64 j)):Ev P ⟨d,.call ⟨.builtin .max,#[x,y],ts⟩,ty,pos,af,g⟩ a w (.int .i64 (max i j)):=fun w' _=>by
 simp[execOp,resolve,invoke,builtin,Builtin.max_,Builtin.max2,hf.ev hx,hf.ev hy,Int.max_def];split<;>simp<;>omega
theorem Y2a{x y:Operand}{i j:Int}{ts:Array TypeId}(hx:ev e x=some (.int .i64 i))(hy:ev e y=some (.int .i64 j)):EvW P ⟨d,.call ⟨.builtin .max,#[x,y],ts⟩,ty,pos,af,g⟩ n e w (.int .i64 (max i j)):=fun a hf=>Y33 hf hx hy
end
theorem X1{t:Nat}{e:Env}{b b':Bool}(h:look t e=some (.bool b))(hb:b=b'):look t e=some (.bool b'):=hb▸h
theorem Xa{α:Type}{l:List α}{k:Nat}(h:k<l.length):∃ u,l[k]? = some u:=⟨l[k],Qc h⟩
section
variable {α : Type} {ops : Array Oper} {rest : List Oper} {ty : TypeId} {pos : String} {af : Array Edge} {g : Option (Nat × Bool)} {d : Nat}
theorem Rd.top{B:Nat}{E:TypeId}{enc:α->List Value}{A:Option Addr}{l:List α}(h:Rd w B E enc A l):Rw w E enc A l:=fun hl=>by
 have ⟨b,off,cs,fz,h1,h2,h3,h4⟩:=h hl;exact ⟨b,off,cs,fz,h1,(Qp.1 h3).1,h3,h4⟩
theorem Xy0{T E E2:TypeId}{sz B:Nat}{x y:Operand}{enc:α->List Value}{A:Option Addr}{c:Nat}{l:List α}{k:Nat}{i:Int}{u:α}(hf:Fr a n e)(hw:Want ops ⟨some d,.indexAddr T x y,ty,pos,af,g⟩ e)(hn:Nat.blt d n=true)
  (hx:ev e x=some (.slice A l.length c)) (hy:ev e y=some (.int .i64 i)) (hT:SliceT P T E) (hs:SizeT P E sz) (hsz:∀ x,(enc x).length=sz) (hr:Rd w B E2 enc A l) (hk:l[k]? = some u) (hi:i=(k:Int))
  (h:∀ a' p,At w p (enc u)->Fr a' n ((d,.pointer (some p))::e)->wpList P ops Q rest a' w) : wpList P ops Q (⟨some d,.indexAddr T x y,ty,pos,af,g⟩::rest) a w:=by
 obtain ⟨p,rfl,hat⟩:=hr.at hsz hk;exact Y59 hf hw O hn (X95 hf hx hy hT hs hi (Qg.1 hk).1) fun a' hf'=>h a' _ hat hf'
theorem Xyq{Q:Act->World->Prop}{tl:Nat->Bool}{fuel:Nat}{done:List Nat}{T E E2:TypeId}{sz B:Nat}{x y:Operand}{enc:α->List Value}{A:Option Addr}{c:Nat}{l:List α}{k:Nat}{i:Int}{u:α}(j:Nat)
  (ho:ops[j]? = some ⟨some d,.indexAddr T x y,ty,pos,af,g⟩) (hm:mayFirst ops done j=true) (ht:tailWaits ops tl j=true) (hf:Fr a n e) (hw:Want ops ⟨some d,.indexAddr T x y,ty,pos,af,g⟩ e) (hn:Nat.blt d n=true)
  (hx:ev e x=some (.slice A l.length c)) (hy:ev e y=some (.int .i64 i)) (hT:SliceT P T E) (hs:SizeT P E sz) (hsz:∀ x,(enc x).length=sz) (hr:Rd w B E2 enc A l) (hk:l[k]? = some u) (hi:i=(k:Int))
  (h:∀ a' p,At w p (enc u)->Fr a' n ((d,.pointer (some p))::e)->wpS P ops none tl Q fuel (mask ops (j::done)) a' w) : wpS P ops none tl Q (fuel+1) (mask ops done) a w:=by
 obtain ⟨p,rfl,hat⟩:=hr.at hsz hk;exact Y6c j ho hm ht hf hw O hn (X95 hf hx hy hT hs hi (Qg.1 hk).1) fun a' hf'=>h a' _ hat hf'
end
theorem X9{K:Act->World->Prop}(h:Q .ret a w):Exit.then K Q .ret a w:=h
theorem Xu{id:Nat}(h:Q .ret a w):Exit.inBlock id Q .ret a w:=by simp[Exit.inBlock,h]
theorem Xd{id:Nat}(h:Q .normal a w):Exit.inBlock id Q .normal a w:=by simp[Exit.inBlock,h]
theorem Xk{K:Act->World->Prop}{id:Nat}(h:Q (.exit id) a w):Exit.then K Q (.exit id) a w:=h
theorem Xh{K:Act->World->Prop}(h:K a w):Exit.then K Q .normal a w:=h
theorem X06{id:Nat}(h:Q .normal a w):Exit.inBlock id Q (.exit id) a w:=by simp[Exit.inBlock,h]
def ResV(P:Program)(w:World)(e:Env) : ResultVar->Value->Prop
 | .tmp t,v=>look t e=some v
 | .cell t T,v=>∃ p,look t e=some (.pointer (some p))/\((OneT P T/\∃ l,At w p (v::l))∨∃ k l,AggT P T k/\At w p l/\l.length=k/\v=.agg l.toArray)
theorem ResV.cellN{t T k:Nat}{p:Addr}{l:List Value}(h:look t e=some (.pointer (some p)))(hA:AggT P T k)(hc:At w p l)(hl:l.length=k):ResV P w e (.cell t T) (.agg l.toArray):=⟨p,h,.inr ⟨k,l,hA,hc,hl,rfl⟩⟩
theorem X8v(fn:Func)(tmps:Array Value):∃ f:ResultVar->Sem Value,(∀ t,f (.tmp t)=pure (tmps.getD t undef))/\(∀ t T,f (.cell t T)=(do loadVar T (<- asAddr (tmps.getD t undef))))/\
  results fn tmps=(do let vs <- fn.results.mapM f;pure (if h:vs.size=1 then vs[0] else .tuple vs)):=⟨_,fun _=>rfl,fun _ _=>rfl,rfl⟩
theorem ResV.run{r:ResultVar}{v:Value}{f:ResultVar->Sem Value}(hf:Fr a n e)(h:ResV P w e r v)(f1:∀ t,f (.tmp t)=pure (a.tmps.getD t undef))(f2:∀ t T,f (.cell t T)=(do loadVar T (<- asAddr (a.tmps.getD t undef)))):(f r).run P w=.ok v w:=by
 cases r with
 | tmp t=>
  have:=hf.h _ _ h;simp[f1,this]
 | cell t T=>
  have ⟨p,h1,h2⟩:=h;have h3:=hf.h _ _ h1;rcases h2 with ⟨h4,l,h5⟩|⟨k,l,h4,h5,h6,rfl⟩
  ·simp[f2,h3,asAddr,X6m h4 h5]
  ·simp[f2,h3,asAddr,X6l h4 h5 h6]
section
variable {fn : Func} {R : Ending -> World -> Prop}
theorem Xq{r:ResultVar}{v:Value}(hf:Fr a n e)(hr:fn.results = #[r])(h:ResV P w e r v):(results fn a.tmps).run P w=.ok v w:=by
 have ⟨f,f1,f2,h0⟩:=X8v fn a.tmps;have h1:=h.run hf f1 f2;rw[h0,hr];simp[h1]
theorem X1q{r1 r2:ResultVar}{v1 v2:Value}(hf:Fr a n e)(hr:fn.results = #[r1,r2])(h1:ResV P w e r1 v1)(h2:ResV P w e r2 v2):(results fn a.tmps).run P w=.ok (.tuple #[v1,v2]) w:=by
 have ⟨f,f1,f2,h0⟩:=X8v fn a.tmps;have h1:=h1.run hf f1 f2;have h2:=h2.run hf f1 f2;rw[h0,hr];simp[h1,h2]
theorem X8u{r1 r2 r3:ResultVar}{v1 v2 v3:Value}(hf:Fr a n e)(hr:fn.results = #[r1,r2,r3])(h1:ResV P w e r1 v1)(h2:ResV P w e r2 v2)(h3:ResV P w e r3 v3):(results fn a.tmps).run P w=.ok (.tuple #[v1,v2,v3]) w:=by
 have ⟨f,f1,f2,h0⟩:=X8v fn a.tmps;have h1:=h1.run hf f1 f2;have h2:=h2.run hf f1 f2;have h3:=h3.run hf f1 f2;rw[h0,hr];simp[h1,h2,h3]
theorem X6{v:Value}{R':Value->World->Prop}(hf:Fr a n e)(hr:(results fn a.tmps).run P w=.ok v w)(h:R' v w):bodyPost P fn (fun e w'=>∃ v,e=.returned v/\R' v w') .ret a w:=⟨hf.d,v,hr,v,rfl,h⟩
theorem X20{v:Value}{R':Value->World->Prop}(hf:Fr a n e)(hr:(results fn a.tmps).run P w=.ok v w)(h:R' v w):bodyPost P fn (fun e w'=>∃ v,e=.returned v/\R' v w') .normal a w:=⟨hf.d,v,hr,v,rfl,h⟩
theorem X2y(hr:fn.results = #[]):(results fn a.tmps).run P w=.ok (.tuple #[]) w:=by
 simp only[results,hr];simp
end
theorem enter{f:FuncId}{fn:Func}{c:Code}{args:List Value}{R:Value->World->Prop}(hf:P.funcs[f]? = some fn)(hb:fn.body=some c)(n:Nat)(hn:fn.ntmps=n)(hl:Nat.ble args.length n=true)
  (h:∀ a,Fr a n (zipFrom 0 args)->c.wp P (bodyPost P fn (fun e w'=>∃ v,e=.returned v/\R v w')) a w) : Ret P f args w R:=Xoz hf hb n hn hl h
end
section
variable {P : Program} {ops : Array Oper} {Q : Exit -> Act -> World -> Prop} {w : World} {rest : List Oper} {o : Oper} {op : Op} {ty : TypeId} {pos : String} {af : Array Edge} {g : Option (Nat × Bool)} {n d : Nat} {e : Env} {v : Value} {R : Value -> World -> Prop} {x : Operand}
def WL(P:Program)(ops:Array Oper)(Q:Exit->Act->World->Prop)(l:List Oper)(n:Nat)(e:Env)(w:World) : Prop:=∀ a,Fr a n e->wpList P ops Q l a w
theorem bs:(∀ b,(true&&b)=b)/\(∀ b,(false&&b)=false)/\(∀ b,(true||b)=true)/\∀ b,(false||b)=b:=⟨fun _=>rfl,fun _=>rfl,fun _=>rfl,fun _=>rfl⟩
theorem Vc{f:FuncId}{xs:List Operand}{vs:List Value}{ts:Array TypeId}{D:Option Tmp}(h:Ret P f vs w R)(hF:FuncF P f)(hx:evs e xs=some vs:=by rfl):EfW P ⟨D,.call ⟨.value (.func f),xs.toArray,ts⟩,ty,pos,af,g⟩ n e w R:=X8b hx hF h
theorem Vn{T t k b:Nat}{l:List Value}{D:Option Tmp}(hA:AggT P t k)(hb:Blk w b T l)(hx:ev e x=some (.pointer (some ⟨b,0,none⟩)):=by rfl)(hl:l.length=k:=by rfl):EvW P ⟨D,.load t x,ty,pos,af,g⟩ n e w (.agg l.toArray):=X07 hx hA (hb.at 0) hl
theorem Vd{T f k b off:Nat}{D:Option Tmp}(hx:ev e x=some (.pointer (some ⟨b,off,none⟩)))(hF:FieldT P T f k)(m:Nat)(hk:off+k=m:=by rfl):EvW P ⟨D,.fieldAddr T x f,ty,pos,af,g⟩ n e w (.pointer (some ⟨b,m,none⟩)):=Xuk hx hF hk
theorem Vu{t T:TypeId}{y:Operand}{b off k:Nat}{l l' vs:List Value}{D:Option Tmp}(hx:ev e x=some (.pointer (some ⟨b,off,none⟩)))(hy:ev e y=some v)(hs:SizeT P t k)(hb:Blk w b T l)(hvs:v.cells.toList=vs:=by rfl)(hk:Nat.beq vs.length k=true:=by rfl)(h1:vs.all one=true:=by rfl)(hl:Nat.ble (off+k) l.length=true:=by rfl)(hl':splice l off vs=l':=by rfl):EfW P ⟨D,.store t x y,ty,pos,af,g⟩ n e w (Stored w b T l'):=X1r hx hy hs hb hvs hk h1 hl hl'
theorem Vw{t T:TypeId}{y:Operand}{b k:Nat}{l:List Value}{D:Option Tmp}(vs:List Value)(hs:SizeT P t k)(hb:Blk w b T l)(hx:ev e x=some (.pointer (some ⟨b,0,none⟩)):=by rfl)(hy:ev e y=some v:=by rfl)(hvs:v.cells.toList=vs:=by rfl)(hk:Nat.beq vs.length k=true:=by rfl)(h1:vs.all one=true:=by rfl)(hl:Nat.ble (0+k) l.length=true:=by rfl)(hl':splice l 0 vs=vs:=by rfl):EfW P ⟨D,.store t x y,ty,pos,af,g⟩ n e w (Stored w b T vs):=X1r hx hy hs hb hvs hk h1 hl hl'
theorem Ze(hr:EvW P ⟨some d,op,ty,pos,af,none⟩ n e w v)(h:WL P ops Q rest n ((d,v)::e) w)(hn:Nat.blt d n=true:=by rfl):WL P ops Q (⟨some d,op,ty,pos,af,none⟩::rest) n e w:=fun a hf=>l_e hf hn (hr a hf) h
theorem Zm(hx:ev e x=some v)(h:WL P ops Q rest n ((d,v)::e) w)(hn:Nat.blt d n=true:=by rfl):WL P ops Q (⟨some d,.move x,ty,pos,af,none⟩::rest) n e w:=fun _ hf=>Ye3 hf hx hn h
theorem Za(hx:ev e x=some v)(h:WL P ops Q rest n ((d,v)::e) w)(hn:Nat.blt d n=true:=by rfl):WL P ops Q (⟨some d,.assign x,ty,pos,af,none⟩::rest) n e w:=fun _ hf=>Ye1 hf hx hn h
theorem Zf(hr:EfW P ⟨some d,op,ty,pos,af,none⟩ n e w R)(h:∀ v w',R v w'->WL P ops Q rest n ((d,v)::e) w')(hn:Nat.blt d n=true:=by rfl):WL P ops Q (⟨some d,op,ty,pos,af,none⟩::rest) n e w:=fun a hf=>l_f hf hn (hr a hf) fun a' v w' hR hf'=>h v w' hR a' hf'
theorem Zo(hr:EfW P ⟨none,op,ty,pos,af,none⟩ n e w R)(h:∀ v w',R v w'->WL P ops Q rest n e w'):WL P ops Q (⟨none,op,ty,pos,af,none⟩::rest) n e w:=fun a hf=>Ye2 hf (hr a hf) fun a' v w' hR hf'=>h v w' hR a' hf'
theorem ZB{T t:TypeId}{ty':TypeId}{pos':String}{af':Array Edge}{z v:Value}{y:Operand}{k:Nat}(vs:List Value)(hz:ZeroT P T z)(hs:SizeT P t k)(h:∀ b w',w.heap.size<=b->Below w.heap.size w w'->Blk w' b T vs->WL P ops Q rest n ((d,.pointer (some ⟨b,0,none⟩))::e) w')(hn:Nat.blt d n=true:=by rfl)(hy:∀ u,ev ((d,u)::e) y=some v:=by intro _;rfl)(hvs:v.cells.toList=vs:=by rfl)(hk:Nat.beq vs.length k=true:=by rfl)(h1:vs.all one=true:=by rfl)(hl:Nat.beq z.cells.toList.length k=true:=by rfl) : WL P ops Q (⟨some d,.alloc T,ty,pos,af,none⟩::⟨none,.store t (.tmp d) y,ty',pos',af',none⟩::rest) n e w:=by
 refine Zf (X0b hz O) ?_ hn
 rintro _ w1 ⟨b,rfl,h2,h3,h4⟩
 have hk':=Nat.eq_of_beq_eq_true hk
 have hl':=Nat.eq_of_beq_eq_true hl
 have hx:ev ((d,(.pointer (some ⟨b,0,none⟩) : Value))::e) (.tmp d)=some (.pointer (some ⟨b,0,none⟩)):=by simp [ev,look]
 refine Zo (X1r (l':=vs) hx (hy _) hs h4 hvs hk h1 (by rw [Nat.ble_eq];omega) ?_) ?_
 ·unfold splice
  rw [List.take_zero,List.nil_append,W3 Z,List.append_nil]
 ·rintro _ w2 ⟨h5,h6⟩;exact h b w2 h2 (Below.oy h3 h5 h2) h6
theorem Zv(hw:Want ops o e)(hr:EvW P o n e w v)(h:WL P ops Q rest n ((d,v)::e) w)(hd:o.dst=some d:=by rfl)(hn:Nat.blt d n=true:=by rfl):WL P ops Q (o::rest) n e w:=fun a hf=>Y59 hf hw hd hn (hr a hf) h
theorem Zp(hw:Pass ops o e)(h:WL P ops Q rest n ((d,undef)::e) w)(hd:o.dst=some d:=by rfl)(hn:Nat.blt d n=true:=by rfl):WL P ops Q (o::rest) n e w:=fun _ hf=>Y5a hf hw hd hn h
theorem Zk(hw:Want ops o e)(hr:EfW P o n e w R)(h:∀ v w',R v w'->WL P ops Q rest n ((d,v)::e) w')(hd:o.dst=some d:=by rfl)(hn:Nat.blt d n=true:=by rfl):WL P ops Q (o::rest) n e w:=fun a hf=>Xra hf hw hd hn (hr a hf) fun a' v w' hR hf'=>h v w' hR a' hf'
theorem Zg(t:Nat){b:Bool}(_:look t e=some (.bool b))(h1:b=true->WL P ops Q rest n e w)(h2:b=false->WL P ops Q rest n e w):WL P ops Q rest n e w:=by
 cases b
 ·exact h2 O
 ·exact h1 O
theorem Zn(h:∀ a,Fr a n e->Q .normal a w):WL P ops Q [] n e w:=h
theorem Zr{a:Act}{id:Nat}{l:List Oper}(hf:Fr a n e)(h:WL P l.toArray Q l n e w):(Code.region id l.toArray false).wp P Q a w:=wp_region_lit (h a hf)
theorem Zs{a:Act}{id:Nat}{l:List Oper}{c:Code}(hf:Fr a n e)(h:∀ K:Act->World->Prop,(∀ a w,c.wp P Q a w->K a w)->WL P l.toArray (Exit.then K Q) l n e w):(Code.seq (Code.region id l.toArray false) c).wp P Q a w:=
 Q5 fun K hK=>wp_region_lit (h K hK a hf)
theorem Zt{c:Code}{K:Act->World->Prop}(hK:∀ a w,c.wp P Q a w->K a w)(h:∀ a,Fr a n e->c.wp P Q a w):WL P ops (Exit.then K Q) [] n e w:=fun a hf=>hK a w (h a hf)
theorem ZX{c1 c2:Code}{K:Act->World->Prop}(hK:∀ a w,(Code.seq c1 c2).wp P Q a w->K a w)(h:∀ a,Fr a n e->∀ K':Act->World->Prop,(∀ a w,c2.wp P Q a w->K' a w)->c1.wp P (Exit.then K' Q) a w):WL P ops (Exit.then K Q) [] n e w:=fun a hf=>hK a w (Q5 fun K' hK'=>h a hf K' hK')
theorem Zx{id:Nat}{l:List Oper}{c:Code}{K:Act->World->Prop}(hK:∀ a w,(Code.seq (Code.region id l.toArray false) c).wp P Q a w->K a w)(h:∀ a,Fr a n e->∀ K':Act->World->Prop,(∀ a w,c.wp P Q a w->K' a w)->WL P l.toArray (Exit.then K' Q) l n e w):WL P ops (Exit.then K Q) [] n e w:=fun a hf=>hK a w (Q5 fun K' hK'=>wp_region_lit (h a hf K' hK' a hf))
theorem Zi{α:Type}{T E E2:TypeId}{sz B k:Nat}{y:Operand}{enc:α->List Value}{A:Option Addr}{c:Nat}{l:List α}{i:Int}{u:α}(hw:Want ops ⟨some d,.indexAddr T x y,ty,pos,af,g⟩ e)(hx:ev e x=some (.slice A l.length c))(hy:ev e y=some (.int .i64 i))(hT:SliceT P T E)(hs:SizeT P E sz)(hsz:∀ x,(enc x).length=sz)(hr:Rd w B E2 enc A l)(hk:l[k]? = some u)(hi:i=(k:Int))
  (h:∀ p,At w p (enc u)->WL P ops Q rest n ((d,.pointer (some p))::e) w) (hn:Nat.blt d n=true:=by rfl) : WL P ops Q (⟨some d,.indexAddr T x y,ty,pos,af,g⟩::rest) n e w:=fun _ hf=>Xy0 hf hw hn hx hy hT hs hsz hr hk hi fun a' p hp hf'=>h p hp a' hf'
theorem Zj{α:Type}{T E E2:TypeId}{sz B m k:Nat}{y:Operand}{enc:α->List Value}{A:Option Addr}{c:Nat}{l:List α}{i:Int}{u:α}(hw:Want ops ⟨some d,.indexAddr T x y,ty,pos,af,g⟩ e)(hx:ev e x=some (.slice A m c))(hm:m=l.length)(hy:ev e y=some (.int .i64 i))(hT:SliceT P T E)(hs:SizeT P E sz)(hsz:∀ x,(enc x).length=sz)(hr:Rd w B E2 enc A l)(hk:l[k]? = some u)(hi:i=(k:Int))
  (h:∀ p,At w p (enc u)->WL P ops Q rest n ((d,.pointer (some p))::e) w) (hn:Nat.blt d n=true:=by rfl) : WL P ops Q (⟨some d,.indexAddr T x y,ty,pos,af,g⟩::rest) n e w:=by
 subst hm;exact Zi hw hx hy hT hs hsz hr hk hi h hn
end
section
variable {P : Program} {ops : Array Oper} {V : Option Vk} {tl : Nat -> Bool} {Q : Act -> World -> Prop} {fuel : Nat} {done : List Nat} {w : World} {o : Oper} {op : Op} {ty : TypeId} {pos : String} {af : Array Edge} {g : Option (Nat × Bool)} {n d : Nat} {e : Env} {v : Value} {R : Value -> World -> Prop} {x : Operand}
def WS(P:Program)(ops:Array Oper)(V:Option Vk)(tl:Nat->Bool)(Q:Act->World->Prop)(m:Nat)(L:List Nat)(n:Nat)(e:Env)(w:World) : Prop:=∀ a,Fr a n e->wpS P ops V tl Q m (mask ops L) a w
def WR(P:Program)(ops:Array Oper)(V:Option Vk)(tl:Nat->Bool)(Q:Act->World->Prop)(i m:Nat)(L:List Nat)(n:Nat)(e:Env)(w:World) : Prop:=∀ a,Fr a n e->wpR P ops V tl i (wpS P ops V tl Q m (mask ops (i::L))) a w
theorem Yb{a:Act}{m:Nat}{L:List Nat}(hf:Fr a n e)(h:WS P ops V tl Q m L n e w):wpS P ops V tl Q m (mask ops L) a w:=h a hf
theorem Ye(i:Nat)(hi:ops[i]? = some ⟨some d,op,ty,pos,af,none⟩)(hr:EvW P ⟨some d,op,ty,pos,af,none⟩ n e w v)(h:WS P ops none tl Q fuel (i::done) n ((d,v)::e) w)(hm:mayFirst ops done i=true:=by kernel_rfl)(ht:tailWaits ops tl i=true:=by kernel_rfl)(hn:Nat.blt d n=true:=by rfl):WS P ops none tl Q (fuel+1) done n e w:=fun a hf=>s_e i hi hm ht hf hn (hr a hf) h
theorem Yo(i:Nat)(hi:ops[i]? = some ⟨some d,op,ty,pos,af,none⟩)(hr:∀ w,EvW P ⟨some d,op,ty,pos,af,none⟩ n e w v)(h:WS P ops V tl Q fuel (i::done) n ((d,v)::e) w)(hm:mayFirst ops done i=true:=by kernel_rfl)(hn:Nat.blt d n=true:=by rfl):WS P ops V tl Q (fuel+1) done n e w:=fun a hf=>Yeb i hi hm hf hn (fun w=>hr w a hf) h
theorem Yv(i:Nat)(hi:ops[i]? = some o)(hw:Want ops o e)(hr:EvW P o n e w v)(h:WS P ops none tl Q fuel (i::done) n ((d,v)::e) w)(hm:mayFirst ops done i=true:=by kernel_rfl)(ht:tailWaits ops tl i=true:=by kernel_rfl)(hd:o.dst=some d:=by rfl)(hn:Nat.blt d n=true:=by rfl):WS P ops none tl Q (fuel+1) done n e w:=fun a hf=>Y6c i hi hm ht hf hw hd hn (hr a hf) h
theorem Yw(i:Nat){b:Nat}(hi:ops[i]? = some o)(hw:Want ops o e)(hr:∀ w1,Only b w w1->EvW P o n e w1 v)(h:WS P ops (some b) tl Q fuel (i::done) n ((d,v)::e) w)(hm:mayFirst ops done i=true:=by kernel_rfl)(ht:tailWaits ops tl i=true:=by kernel_rfl)(hd:o.dst=some d:=by rfl)(hn:Nat.blt d n=true:=by rfl):WS P ops (some b) tl Q (fuel+1) done n e w:=fun a hf=>Ybo i hi hm ht hf hw hd hn (fun w1 h1=>hr w1 h1 a hf) h
theorem Yn(i:Nat){N:Nat}(hi:ops[i]? = some o)(hw:Want ops o e)(hN:N<=w.heap.size)(hr:∀ w1,Below N w w1->EvW P o n e w1 v)(h:WS P ops (some (.base N)) tl Q fuel (i::done) n ((d,v)::e) w)(hm:mayFirst ops done i=true:=by kernel_rfl)(ht:tailWaits ops tl i=true:=by kernel_rfl)(hd:o.dst=some d:=by rfl)(hn:Nat.blt d n=true:=by rfl):WS P ops (some (.base N)) tl Q (fuel+1) done n e w:=fun a hf=>Ybn i hi hm ht hf hw hd hn hN (fun w1 h1=>hr w1 h1 a hf) h
theorem Yu(i:Nat)(hi:ops[i]? = some o)(hw:Want ops o e)(hr:∀ w,EvW P o n e w v)(h:WS P ops V tl Q fuel (i::done) n ((d,v)::e) w)(hm:mayFirst ops done i=true:=by kernel_rfl)(hd:o.dst=some d:=by rfl)(hn:Nat.blt d n=true:=by rfl):WS P ops V tl Q (fuel+1) done n e w:=fun a hf=>Xsv i hi hm hf hw hd hn (fun w=>hr w a hf) h
theorem Yp(i:Nat)(hi:ops[i]? = some o)(hw:Pass ops o e)(h:WS P ops V tl Q fuel (i::done) n ((d,undef)::e) w)(hm:mayFirst ops done i=true:=by kernel_rfl)(hd:o.dst=some d:=by rfl)(hn:Nat.blt d n=true:=by rfl):WS P ops V tl Q (fuel+1) done n e w:=fun _ hf=>Y6d i hi hm hf hw hd hn h
theorem Y1(i:Nat)(h:WR P ops V tl Q i fuel done n e w)(hr:Region.ready .any ops (mask ops done)=[i]:=by kernel_rfl):WS P ops V tl Q (fuel+1) done n e w:=fun a hf=>Ybp i hr (h a hf)
theorem Y2(i j:Nat)(hi:WR P ops V tl Q i fuel done n e w)(hj:WR P ops V tl Q j fuel done n e w)(hr:Region.ready .any ops (mask ops done)=[i,j]:=by kernel_rfl):WS P ops V tl Q (fuel+1) done n e w:=fun a hf=>Ybq i j hr (hi a hf) (hj a hf)
theorem Yd(h:∀ a,Fr a n e->Q a w)(hr:Region.ready .any ops (mask ops done)=[]:=by kernel_rfl):WS P ops V tl Q fuel done n e w:=fun a hf=>Y6b hr (h a hf)
theorem Yf{i:Nat}(hi:ops[i]? = some o)(hw:Want ops o e)(hr:EfW P o n e w fun v w'=>(tl i=false->Keep V w w')/\R v w')(h:∀ v w',R v w'->WS P ops V tl Q fuel (i::done) n ((d,v)::e) w')(hd:o.dst=some d:=by rfl)(hn:Nat.blt d n=true:=by rfl):WR P ops V tl Q i fuel done n e w:=fun a hf=>Yb1 hi hf hw hd hn (hr a hf) fun a' v w' hR hf'=>h v w' hR a' hf'
theorem Yg{i:Nat}(hi:ops[i]? = some o)(hw:Want ops o e)(hr:EfW P o n e w fun v w'=>(tl i=false->Keep V w w')/\R v w')(h:∀ v w',R v w'->WS P ops V tl Q fuel (i::done) n e w')(hd:o.dst=none:=by rfl):WR P ops V tl Q i fuel done n e w:=fun a hf=>Y5v hi hf hw hd (hr a hf) fun a' v w' hR hf'=>h v w' hR a' hf'
theorem Yq{i:Nat}(hi:ops[i]? = some o)(hw:Pass ops o e)(h:WS P ops V tl Q fuel (i::done) n ((d,undef)::e) w)(hd:o.dst=some d:=by rfl)(hn:Nat.blt d n=true:=by rfl):WR P ops V tl Q i fuel done n e w:=fun _ hf=>Y5w hi hf hw hd hn h
theorem EfW.mono{R':Value->World->Prop}(h:EfW P o n e w R)(hr:∀ v w',R v w'->R' v w'):EfW P o n e w R':=fun a hf=>(h a hf).mono hr
theorem Uev(h:EvW P o n e w v):EfW P o n e w (fun v' w'=>v'=v/\w=w'):=fun a hf=>Xpf (h a hf)
theorem Yt{i:Nat}(hi:ops[i]? = some o)(hw:Want ops o e)(ht:tl i=true)(hr:EfW P o n e w R)(h:∀ v w',R v w'->WS P ops V tl Q fuel (i::done) n ((d,v)::e) w')(hd:o.dst=some d:=by rfl)(hn:Nat.blt d n=true:=by rfl):WR P ops V tl Q i fuel done n e w:=Yf hi hw (hr.mono fun _ _ h=>⟨fun h0=>absurd h0 (by rw[ht];decide),h⟩) h hd hn
theorem Yh{i:Nat}(hi:ops[i]? = some o)(hw:Want ops o e)(ht:tl i=true)(hr:EfW P o n e w R)(h:∀ v w',R v w'->WS P ops V tl Q fuel (i::done) n e w')(hd:o.dst=none:=by rfl):WR P ops V tl Q i fuel done n e w:=Yg hi hw (hr.mono fun _ _ h=>⟨fun h0=>absurd h0 (by rw[ht];decide),h⟩) h hd
theorem Yk{i:Nat}(hi:ops[i]? = some o)(hw:Want ops o e)(hr:EfW P o n e w R)(hk:∀ v w',R v w'->Below w.heap.size w w')(h:∀ v w',R v w'->WS P ops none tl Q fuel (i::done) n ((d,v)::e) w')(hd:o.dst=some d:=by rfl)(hn:Nat.blt d n=true:=by rfl):WR P ops none tl Q i fuel done n e w:=Yf hi hw (hr.mono fun _ _ h=>⟨fun _=>hk _ _ h,h⟩) h hd hn
theorem Yz{i:Nat}{u:Value}(hi:ops[i]? = some o)(hw:Want ops o e)(hr:EfW P o n e w (fun v w'=>v=u/\w=w'))(h:WS P ops V tl Q fuel (i::done) n ((d,u)::e) w)(hd:o.dst=some d:=by rfl)(hn:Nat.blt d n=true:=by rfl):WR P ops V tl Q i fuel done n e w:=Yf hi hw (hr.mono fun _ _ h=>⟨fun _=>by rw[<- h.2];exact Keep.refl _ _,h⟩) (by rintro _ _ ⟨rfl,rfl⟩;exact h) hd hn
theorem Yl(t:Nat){b:Bool}(_:look t e=some (.bool b))(h1:b=true->WS P ops V tl Q fuel done n e w)(h2:b=false->WS P ops V tl Q fuel done n e w):WS P ops V tl Q fuel done n e w:=by
 cases b
 ·exact h2 O
 ·exact h1 O
theorem Yi{α:Type}{T E E2:TypeId}{sz B k:Nat}{y:Operand}{enc:α->List Value}{A:Option Addr}{c:Nat}{l:List α}{i:Int}{u:α}(j:Nat)(ho:ops[j]? = some ⟨some d,.indexAddr T x y,ty,pos,af,g⟩)(hw:Want ops ⟨some d,.indexAddr T x y,ty,pos,af,g⟩ e)(hx:ev e x=some (.slice A l.length c))(hy:ev e y=some (.int .i64 i))(hT:SliceT P T E)(hs:SizeT P E sz)(hsz:∀ x,(enc x).length=sz)(hr:Rd w B E2 enc A l)(hk:l[k]? = some u)(hi:i=(k:Int))
  (h:∀ p,At w p (enc u)->WS P ops none tl Q fuel (j::done) n ((d,.pointer (some p))::e) w) (hm:mayFirst ops done j=true:=by kernel_rfl) (ht:tailWaits ops tl j=true:=by kernel_rfl) (hn:Nat.blt d n=true:=by rfl) : WS P ops none tl Q (fuel+1) done n e w:=fun _ hf=>Xyq j ho hm ht hf hw hn hx hy hT hs hsz hr hk hi fun a' p hp hf'=>h p hp a' hf'
theorem Yj{α:Type}{T E E2:TypeId}{sz B m k:Nat}{y:Operand}{enc:α->List Value}{A:Option Addr}{c:Nat}{l:List α}{i:Int}{u:α}(j:Nat)(ho:ops[j]? = some ⟨some d,.indexAddr T x y,ty,pos,af,g⟩)(hw:Want ops ⟨some d,.indexAddr T x y,ty,pos,af,g⟩ e)(hx:ev e x=some (.slice A m c))(hlm:m=l.length)(hy:ev e y=some (.int .i64 i))(hT:SliceT P T E)(hs:SizeT P E sz)(hsz:∀ x,(enc x).length=sz)(hr:Rd w B E2 enc A l)(hk:l[k]? = some u)(hi:i=(k:Int))
  (h:∀ p,At w p (enc u)->WS P ops none tl Q fuel (j::done) n ((d,.pointer (some p))::e) w) (hm:mayFirst ops done j=true:=by kernel_rfl) (ht:tailWaits ops tl j=true:=by kernel_rfl) (hn:Nat.blt d n=true:=by rfl) : WS P ops none tl Q (fuel+1) done n e w:=by
 subst hlm;exact Yi j ho hw hx hy hT hs hsz hr hk hi h hm ht hn
end
end Go.Proofs.YthbobfjhofgfdaaGreat
namespace Go.Proofs.YthbobfjhofgfdaaGreat
open Go.Proofs.Tryz
def X15{P:Program}{t n:Nat}(h:(P.info? t).map (fun i=>i.size)=some n):∃ i,P.info? t=some i/\i.size=n:=by simp_all
def X32{P:Program}{t:Nat}{z:Option Value}(h:(P.info? t).map (fun i=>i.zero)=some z):∃ i,P.info? t=some i/\i.zero=z:=by simp_all
def X3y{P:Program}{t sz bytes:Nat}{z:Value}(h:(P.info? t).map (fun i=>(i.size,i.bytes,i.zero))=some (sz,bytes,some z))(hz:z.cells.size=sz)(h0:0<sz):InfoT P t sz bytes:=by
 cases hi:P.info? t with
 | none=>rw[hi] at h;cases h
 | some i=>
  rw[hi] at h;simp only[Option.map_some,Option.some.injEq,Prod.mk.injEq] at h;exact ⟨i,z,hi,h.2.2,h.1,h.2.1,hz,h0⟩
def X0x{P:Program}{T f k:Nat}{fs:Array Field}{F:Field}(h:P.underlying T=some (.struct fs))(h1:fs[f]? = some F)(h2:F.offset=k){n:Nat}(h3:(P.info? F.type).map (fun i=>i.size)=some n)(h4:(n==0)=false):FieldT P T f k:=by
 obtain ⟨i,hi,rfl⟩:=X15 h3;exact ⟨fs,F,i,h,h1,h2,hi,h4⟩
def X7 {P : Program} {f : FuncId} {fn : Func} (h : P.funcs[f]? = some fn) (h1 : (fn.name == "runtime.NumGoroutine") = false) (h2 : fn.body.isNone = false):FuncF P f := ⟨fn, h, h1, h2⟩
def X8:OneT prog 3:=⟨_,underlying3,trivial⟩
def X7a:OneT prog 4:=⟨_,underlying4,trivial⟩
def Yef:OneT prog 5:=⟨_,underlying5,trivial⟩
def X2o:OneT prog 24:=⟨_,underlying24,trivial⟩
def X3g:OneT prog 42:=⟨_,underlying42,trivial⟩
def X8y:OneT prog 65:=⟨_,underlying65,trivial⟩
def X39:OneT prog 81:=⟨_,underlying81,trivial⟩
def Xfy:OneT prog 35:=⟨_,underlying35,trivial⟩
def Xbf:OneT prog 22:=⟨_,underlying22,trivial⟩
def X0f:OneT prog 51:=⟨_,underlying51,trivial⟩
def X1f:OneT prog 52:=⟨_,underlying52,trivial⟩
def X0t:AggT prog 26 2:=⟨⟨_,underlying26,trivial⟩,X15 O3⟩
def X12:AggT prog 45 3:=⟨⟨_,underlying45,trivial⟩,X15 O3⟩
def X3a:AggT prog 67 3:=⟨⟨_,underlying67,trivial⟩,X15 O3⟩
def X2i:AggT prog 135 4:=⟨⟨_,underlying135,trivial⟩,X15 O3⟩
def X0v:AggT prog 137 5:=⟨⟨_,underlying137,trivial⟩,X15 O3⟩
def X2:AggT prog 54 5:=⟨⟨_,underlying54,trivial⟩,X15 O3⟩
def X30:AggT prog 94 3:=⟨⟨_,underlying94,trivial⟩,X15 O3⟩
def X44:AggT prog 85 2:=⟨⟨_,underlying85,trivial⟩,X15 O3⟩
def X23:AggT prog 99 3:=⟨⟨_,underlying99,trivial⟩,X15 O3⟩
def X0p:SizeT prog 3 1:=X15 O3
def X3q:SizeT prog 4 1:=X15 O3
def Yee:SizeT prog 5 1:=X15 O3
def X6n:SizeT prog 24 1:=X15 O3
def Xms:SizeT prog 42 1:=X15 O3
def X1u:SizeT prog 26 2:=X15 O3
def X1n:SizeT prog 45 3:=X15 O3
def Xtm:SizeT prog 65 1:=X15 O3
def X43:SizeT prog 67 3:=X15 O3
def X4q:SizeT prog 135 4:=X15 O3
def X1m:SizeT prog 137 5:=X15 O3
def Xtn:SizeT prog 35 1:=X15 O3
def X5j:SizeT prog 51 1:=X15 O3
def X2h:SizeT prog 52 1:=X15 O3
def Xv:SizeT prog 54 5:=X15 O3
def X4k:SizeT prog 94 3:=X15 O3
def X0o:SizeT prog 85 2:=X15 O3
def X14:SizeT prog 99 3:=X15 O3
def z_3:ZeroT prog 3 (.int .i64 0):=X32 O3
def X3v:ZeroT prog 26 (.agg #[.int .i64 0,.slice none 0 0]):=X32 O3
def X5l:ZeroT prog 45 (.agg #[.int .i64 0,.int .i64 0,.int .i64 0]):=X32 O3
def X7b:ZeroT prog 67 (.agg #[.int .i64 0,.int .i64 0,.slice none 0 0]):=X32 O3
def Xan:ZeroT prog 135 (.agg #[.int .i64 0,.int .i64 0,.int .i64 0,.int .i64 0]):=X32 O3
def X5m:ZeroT prog 137 (.agg #[.int .i64 0,.int .i64 0,.int .i64 0,.int .i64 0,.int .i64 0]):=X32 O3
def X1c:ZeroT prog 54 (.agg #[.int .i64 0,.slice none 0 0,.slice none 0 0,.int .i64 0,.int .i64 0]):=X32 O3
def Xaa:ZeroT prog 94 (.agg #[.int .i64 0,.int .i64 0,.int .i64 0]):=X32 O3
def Xab:ZeroT prog 85 (.agg #[.int .i64 0,.int .i64 0]):=X32 O3
def X4a:ZeroT prog 99 (.agg #[.int .i64 0,.int .i64 0,.bool false]):=X32 O3
def X1z:FieldT prog 26 0 0:=X0x (n:=1) underlying26 rfl rfl O3 rfl
def X18:FieldT prog 26 1 1:=X0x (n:=1) underlying26 rfl rfl O3 rfl
def X1e:FieldT prog 45 0 0:=X0x (n:=1) underlying45 rfl rfl O3 rfl
def X0j:FieldT prog 45 1 1:=X0x (n:=1) underlying45 rfl rfl O3 rfl
def X1g:FieldT prog 45 2 2:=X0x (n:=1) underlying45 rfl rfl O3 rfl
def X96:FieldT prog 67 0 0:=X0x (n:=1) underlying67 rfl rfl O3 rfl
def X53:FieldT prog 67 1 1:=X0x (n:=1) underlying67 rfl rfl O3 rfl
def X3w:FieldT prog 67 2 2:=X0x (n:=1) underlying67 rfl rfl O3 rfl
def X24:FieldT prog 135 0 0:=X0x (n:=1) underlying135 rfl rfl O3 rfl
def X25:FieldT prog 135 1 1:=X0x (n:=1) underlying135 rfl rfl O3 rfl
def X26:FieldT prog 135 2 2:=X0x (n:=1) underlying135 rfl rfl O3 rfl
def X27:FieldT prog 135 3 3:=X0x (n:=1) underlying135 rfl rfl O3 rfl
def X3x:FieldT prog 137 0 0:=X0x (n:=4) underlying137 rfl rfl O3 rfl
def X38:FieldT prog 137 1 4:=X0x (n:=1) underlying137 rfl rfl O3 rfl
def X6t:FieldT prog 103 0 0:=X0x (n:=1) underlying103 rfl rfl O3 rfl
def X7h:FieldT prog 37 0 0:=X0x (n:=1) underlying37 rfl rfl O3 rfl
def X3t:FieldT prog 37 1 1:=X0x (n:=1) underlying37 rfl rfl O3 rfl
def X4y:FieldT prog 37 2 2:=X0x (n:=1) underlying37 rfl rfl O3 rfl
def X3i:FieldT prog 54 0 0:=X0x (n:=1) underlying54 rfl rfl O3 rfl
def Xn:FieldT prog 54 1 1:=X0x (n:=1) underlying54 rfl rfl O3 rfl
def X02:FieldT prog 54 2 2:=X0x (n:=1) underlying54 rfl rfl O3 rfl
def X1o:FieldT prog 54 3 3:=X0x (n:=1) underlying54 rfl rfl O3 rfl
def X0h:FieldT prog 54 4 4:=X0x (n:=1) underlying54 rfl rfl O3 rfl
def X5w:FieldT prog 94 0 0:=X0x (n:=1) underlying94 rfl rfl O3 rfl
def X2m:FieldT prog 94 1 1:=X0x (n:=1) underlying94 rfl rfl O3 rfl
def X4z:FieldT prog 94 2 2:=X0x (n:=1) underlying94 rfl rfl O3 rfl
def X1v:FieldT prog 85 0 0:=X0x (n:=1) underlying85 rfl rfl O3 rfl
def X0m:FieldT prog 85 1 1:=X0x (n:=1) underlying85 rfl rfl O3 rfl
def X1l:FieldT prog 99 0 0:=X0x (n:=1) underlying99 rfl rfl O3 rfl
def X1p:FieldT prog 99 1 1:=X0x (n:=1) underlying99 rfl rfl O3 rfl
def X7i:FieldT prog 99 2 2:=X0x (n:=1) underlying99 rfl rfl O3 rfl
def X1t:FieldT prog 83 0 0:=X0x (n:=5) underlying83 rfl rfl O3 rfl
def X2q:FieldT prog 83 1 5:=X0x (n:=1) underlying83 rfl rfl O3 rfl
def X3j:FieldT prog 83 2 6:=X0x (n:=1) underlying83 rfl rfl O3 rfl
def X1b:FieldT prog 126 0 0:=X0x (n:=5) underlying126 rfl rfl O3 rfl
def X31:FieldT prog 126 1 5:=X0x (n:=1) underlying126 rfl rfl O3 rfl
def X3k:FieldT prog 126 2 6:=X0x (n:=1) underlying126 rfl rfl O3 rfl
def X0u:SliceT prog 24 45:=underlying24
def Xp:SliceT prog 42 3:=underlying42
def Xcn:SliceT prog 212 42:=underlying212
def X3l:SliceT prog 65 137:=underlying65
def X2x:SliceT prog 81 4:=underlying81
def Xco:SliceT prog 145 24:=underlying145
def X6i:SliceT prog 22 5:=underlying22
def X00:SliceT prog 51 85:=underlying51
def X0a:SliceT prog 52 99:=underlying52
def X36:SliceT prog 57 94:=underlying57
def X21:InfoT prog 3 1 8:=X3y (z:=.int .i64 0) O3 rfl O5
def Y14:InfoT prog 4 1 1:=X3y (z:=.bool false) O3 rfl O5
def Y54:InfoT prog 24 1 24:=X3y (z:=.slice none 0 0) O3 rfl O5
def Y55:InfoT prog 42 1 24:=X3y (z:=.slice none 0 0) O3 rfl O5
def X0s:InfoT prog 45 3 24:=X3y (z:=.agg #[.int .i64 0,.int .i64 0,.int .i64 0]) O3 rfl O5
def X4s:InfoT prog 137 5 40:=X3y (z:=.agg #[.int .i64 0,.int .i64 0,.int .i64 0,.int .i64 0,.int .i64 0]) O3 rfl O5
def X3n:InfoT prog 94 3 24:=X3y (z:=.agg #[.int .i64 0,.int .i64 0,.int .i64 0]) O3 rfl O5
def X2n:InfoT prog 85 2 16:=X3y (z:=.agg #[.int .i64 0,.int .i64 0]) O3 rfl O5
def X1w:InfoT prog 99 3 24:=X3y (z:=.agg #[.int .i64 0,.int .i64 0,.bool false]) O3 rfl O5
abbrev FF:=FuncF prog
def Xgq:FF 51:=X7 func51 O0 rfl
def Xdj:FF 42:=X7 func42 O0 rfl
def Xgr:FF 83:=X7 func83 O0 rfl
def X4n:FF 39:=X7 func39 O0 rfl
def Y9w:FF 8:=X7 func8 O0 rfl
def X55:FF 69:=X7 func69 O0 rfl
def Y9x:FF 184:=X7 func184 O0 rfl
def Y0o:FF 177:=X7 func177 O0 rfl
def Y9y:FF 185:=X7 func185 O0 rfl
def Y9z:FF 106:=X7 func106 O0 rfl
def Y3l:FF 85:=X7 func85 O0 rfl
def Y3m:FF 70:=X7 func70 O0 rfl
def Y3n:FF 71:=X7 func71 O0 rfl
def Xpx:FF 72:=X7 func72 O0 rfl
def Xpy:FF 67:=X7 func67 O0 rfl
def Y3o:FF 68:=X7 func68 O0 rfl
def Xig:FF 154:=X7 func154 O0 rfl
def Xpz:FF 29:=X7 func29 O0 rfl
def Y3p:FF 30:=X7 func30 O0 rfl
def Xq0:FF 145:=X7 func145 O0 rfl
def Y3q:FF 205:=X7 func205 O0 rfl
def Y3r:FF 95:=X7 func95 O0 rfl
def Y3s:FF 94:=X7 func94 O0 rfl
def Xc0:FF 157:=X7 func157 O0 rfl
def Y3t:FF 105:=X7 func105 O0 rfl
def Y3u:FF 200:=X7 func200 O0 rfl
def Xc1:FF 78:=X7 func78 O0 rfl
def Y3v:FF 104:=X7 func104 O0 rfl
def Y3w:FF 153:=X7 func153 O0 rfl
def Y3x:FF 203:=X7 func203 O0 rfl
def Y3y:FF 59:=X7 func59 O0 rfl
def Y3z:FF 60:=X7 func60 O0 rfl
def Y40:FF 61:=X7 func61 O0 rfl
def Y41:FF 62:=X7 func62 O0 rfl
def Y42:FF 127:=X7 func127 O0 rfl
def Y43:FF 125:=X7 func125 O0 rfl
def Y44:FF 126:=X7 func126 O0 rfl
def Xq1:FF 218:=X7 func218 O0 rfl
def Y45:FF 110:=X7 func110 O0 rfl
def X6u:FF 96:=X7 func96 O0 rfl
def Xq2:FF 97:=X7 func97 O0 rfl
def Xq3:FF 166:=X7 func166 O0 rfl
def X8q:FF 164:=X7 func164 O0 rfl
def Y46:FF 165:=X7 func165 O0 rfl
def Xex:FF 159:=X7 func159 O0 rfl
def Xih:FF 160:=X7 func160 O0 rfl
def Xq4:FF 161:=X7 func161 O0 rfl
def Y47:FF 162:=X7 func162 O0 rfl
def Y48:FF 163:=X7 func163 O0 rfl
def Y49:FF 192:=X7 func192 O0 rfl
def Y4a:FF 189:=X7 func189 O0 rfl
def Y4b:FF 190:=X7 func190 O0 rfl
def Y4c:FF 191:=X7 func191 O0 rfl
def Y4d:FF 207:=X7 func207 O0 rfl
def Y4e:FF 206:=X7 func206 O0 rfl
def Xvu:FF 63:=X7 func63 O0 rfl
def Xvv:FF 4:=X7 func4 O0 rfl
def X35:FF 14:=X7 func14 O0 rfl
def Xet:FF 12:=X7 func12 O0 rfl
def Xkg:FF 17:=X7 func17 O0 rfl
def Xvw:FF 64:=X7 func64 O0 rfl
def Xvx:FF 32:=X7 func32 O0 rfl
def Xeu:FF 13:=X7 func13 O0 rfl
def Xkh:FF 16:=X7 func16 O0 rfl
def Xki:FF 37:=X7 func37 O0 rfl
def Xkj:FF 38:=X7 func38 O0 rfl
def Xev:FF 144:=X7 func144 O0 rfl
def Xvy:FF 36:=X7 func36 O0 rfl
def Xat:FF 15:=X7 func15 O0 rfl
def Xkk:FF 18:=X7 func18 O0 rfl
def Xvz:FF 66:=X7 func66 O0 rfl
def Xw0:FF 76:=X7 func76 O0 rfl
def Xw1:FF 24:=X7 func24 O0 rfl
def Xw2:FF 52:=X7 func52 O0 rfl
def Xw3:FF 23:=X7 func23 O0 rfl
def Xw4:FF 19:=X7 func19 O0 rfl
def Xw5:FF 40:=X7 func40 O0 rfl
def Xw6:FF 41:=X7 func41 O0 rfl
def Xau:FF 130:=X7 func130 O0 rfl
def Xew:FF 34:=X7 func34 O0 rfl
def Xw7:FF 11:=X7 func11 O0 rfl
def Xw8:FF 10:=X7 func10 O0 rfl
def Xkl:FF 21:=X7 func21 O0 rfl
def Xw9:FF 7:=X7 func7 O0 rfl
def Xwa:FF 6:=X7 func6 O0 rfl
def Xkm:FF 25:=X7 func25 O0 rfl
def X7j:FF 26:=X7 func26 O0 rfl
def Xav:FF 27:=X7 func27 O0 rfl
def Xey:FF 35:=X7 func35 O0 rfl
def Xkn:FF 20:=X7 func20 O0 rfl
def Xwb:FF 33:=X7 func33 O0 rfl
def Xwc:FF 46:=X7 func46 O0 rfl
def Xwd:FF 47:=X7 func47 O0 rfl
def Xez:FF 65:=X7 func65 O0 rfl
def Xwe:FF 80:=X7 func80 O0 rfl
def Xko:FF 54:=X7 func54 O0 rfl
def Xkp:FF 58:=X7 func58 O0 rfl
def Xf0:FF 28:=X7 func28 O0 rfl
def Xwf:FF 22:=X7 func22 O0 rfl
def Xkq:FF 81:=X7 func81 O0 rfl
def Xkr:FF 57:=X7 func57 O0 rfl
def Xks:FF 50:=X7 func50 O0 rfl
def X4b:FF 139:=X7 func139 O0 rfl
def Xf1:FF 79:=X7 func79 O0 rfl
def Xkt:FF 182:=X7 func182 O0 rfl
def Xku:FF 45:=X7 func45 O0 rfl
def X4c:FF 146:=X7 func146 O0 rfl
def X66:FF 147:=X7 func147 O0 rfl
def Xwg:FF 93:=X7 func93 O0 rfl
def Xkv:FF 158:=X7 func158 O0 rfl
def X7k:FF 55:=X7 func55 O0 rfl
def Xwh:FF 53:=X7 func53 O0 rfl
def Xwi:FF 56:=X7 func56 O0 rfl
def Xwj:FF 43:=X7 func43 O0 rfl
def Xkw:FF 44:=X7 func44 O0 rfl
def Xwk:FF 98:=X7 func98 O0 rfl
def Xwl:FF 99:=X7 func99 O0 rfl
def Xwm:FF 100:=X7 func100 O0 rfl
def Xwn:FF 101:=X7 func101 O0 rfl
def Xwo:FF 102:=X7 func102 O0 rfl
def X67:FF 103:=X7 func103 O0 rfl
def Xwp:FF 111:=X7 func111 O0 rfl
def Xkx:FF 88:=X7 func88 O0 rfl
def Xwq:FF 89:=X7 func89 O0 rfl
def Xwr:FF 90:=X7 func90 O0 rfl
def X4d:FF 48:=X7 func48 O0 rfl
def Xaw:FF 49:=X7 func49 O0 rfl
def Xws:FF 91:=X7 func91 O0 rfl
def Xwt:FF 112:=X7 func112 O0 rfl
def Xwu:FF 92:=X7 func92 O0 rfl
def X7l:FF 77:=X7 func77 O0 rfl
def Xax:FF 108:=X7 func108 O0 rfl
def Xay:FF 142:=X7 func142 O0 rfl
def Xaz:FF 143:=X7 func143 O0 rfl
def X7m:FF 118:=X7 func118 O0 rfl
def Xwv:FF 86:=X7 func86 O0 rfl
def Xky:FF 87:=X7 func87 O0 rfl
def X68:FF 73:=X7 func73 O0 rfl
def Xb0:FF 74:=X7 func74 O0 rfl
def Xkz:FF 75:=X7 func75 O0 rfl
def Xww:FF 128:=X7 func128 O0 rfl
def Xl0:FF 129:=X7 func129 O0 rfl
def X7n:FF 134:=X7 func134 O0 rfl
def Xf2:FF 119:=X7 func119 O0 rfl
def Xl1:FF 113:=X7 func113 O0 rfl
def Xb1:FF 82:=X7 func82 O0 rfl
def Xwx:FF 84:=X7 func84 O0 rfl
def Xwy:FF 135:=X7 func135 O0 rfl
def Xwz:FF 136:=X7 func136 O0 rfl
def Xx0:FF 137:=X7 func137 O0 rfl
def Xx1:FF 138:=X7 func138 O0 rfl
def X7o:FF 140:=X7 func140 O0 rfl
def Xx2:FF 120:=X7 func120 O0 rfl
def Xx3:FF 121:=X7 func121 O0 rfl
def Xx4:FF 122:=X7 func122 O0 rfl
def Xx5:FF 123:=X7 func123 O0 rfl
def Xx6:FF 124:=X7 func124 O0 rfl
def Xl2:FF 109:=X7 func109 O0 rfl
def Xl3:FF 131:=X7 func131 O0 rfl
def X69:FF 115:=X7 func115 O0 rfl
def Xb2:FF 116:=X7 func116 O0 rfl
def Xl4:FF 117:=X7 func117 O0 rfl
def Xf3:FF 107:=X7 func107 O0 rfl
def Xx7:FF 114:=X7 func114 O0 rfl
def X97:FF 178:=X7 func178 O0 rfl
def Xl5:FF 179:=X7 func179 O0 rfl
def Xf4:FF 180:=X7 func180 O0 rfl
def Xl6:FF 181:=X7 func181 O0 rfl
def Xl7:FF 183:=X7 func183 O0 rfl
def Xx8:FF 186:=X7 func186 O0 rfl
def Xx9:FF 187:=X7 func187 O0 rfl
def X7p:FF 148:=X7 func148 O0 rfl
def X7q:FF 149:=X7 func149 O0 rfl
def X7r:FF 150:=X7 func150 O0 rfl
def Xl8:FF 151:=X7 func151 O0 rfl
def Xl9:FF 152:=X7 func152 O0 rfl
def Xf5:FF 155:=X7 func155 O0 rfl
def Xla:FF 156:=X7 func156 O0 rfl
def Xf6:FF 141:=X7 func141 O0 rfl
def Xxa:FF 199:=X7 func199 O0 rfl
def Xxb:FF 201:=X7 func201 O0 rfl
def Xxc:FF 202:=X7 func202 O0 rfl
def Xxd:FF 204:=X7 func204 O0 rfl
def Xxe:FF 188:=X7 func188 O0 rfl
def Xxf:FF 5:=X7 func5 O0 rfl
def Xxg:FF 9:=X7 func9 O0 rfl
def Xxh:FF 31:=X7 func31 O0 rfl
def mixed:prog.follows .mixedOrders=true:=by kernel_rfl
end Go.Proofs.YthbobfjhofgfdaaGreat
namespace Go.Proofs.YthbobfjhofgfdaaGreat
open Go.Proofs.Tryz
open Go.RowKit Go.Proofs.Tryz
section
variable {P : Program} {a : Act} {w : World} {n : Nat} {e : Env} {ty : TypeId} {pos : String} {af : Array Edge} {g : Option (Nat × Bool)} {d : Option Tmp}
variable {t t' : TypeId} {x y : Operand} {i j : Int}
theorem Y3b(hf:Fr a n e)(hx:ev e x=some (.int .i64 i))(hy:ev e y=some (.int .i64 j))(h0:(j==0)=false):Ev P ⟨d,.binOp .rem t x y t',ty,pos,af,g⟩ a w (.int .i64 (i.tmod j)):=fun w' _=>by
 have h0':j≠0:=by rintro rfl;simp at h0
 simp[execOp,hf.ev hx,hf.ev hy,eqGuard,binOp,Op.intDiv,h0']
theorem X46(hx:ev e x=some (.int .i64 i))(hy:ev e y=some (.int .i64 j))(h0:(j==0)=false):EvW P ⟨d,.binOp .rem t x y t',ty,pos,af,g⟩ n e w (.int .i64 (i.tmod j)):=fun a hf=>Y3b hf hx hy h0
theorem Y3a(hf:Fr a n e)(hx:ev e x=some (.int .i64 i))(hy:ev e y=some (.int .i64 j))(h0:(j==0)=false):Ev P ⟨d,.binOp .quo t x y t',ty,pos,af,g⟩ a w (.int .i64 (IntKind.i64.wrap (i.tdiv j))):=fun w' _=>by
 have h0':j≠0:=by rintro rfl;simp at h0
 simp[execOp,hf.ev hx,hf.ev hy,eqGuard,binOp,Op.intDiv,h0']
theorem Xoo(hx:ev e x=some (.int .i64 i))(hy:ev e y=some (.int .i64 j))(h0:(j==0)=false):EvW P ⟨d,.binOp .quo t x y t',ty,pos,af,g⟩ n e w (.int .i64 (IntKind.i64.wrap (i.tdiv j))):=fun a hf=>Y3a hf hx hy h0
theorem Xvo(hf:Fr a n e)(hx:ev e x=some (.int .i64 i))(hy:ev e y=some (.int .i64 j))(h1:-9223372036854775808<=i*j)(h2:i*j<=9223372036854775807):Ev P ⟨d,.binOp .mul t x y t',ty,pos,af,g⟩ a w (.int .i64 (i*j)):=fun w' _=>by
 have h:IntKind.i64.wrap (i*j)=i*j:=IntWalk.i64_in _ ⟨h1,h2⟩;simp[execOp,hf.ev hx,hf.ev hy,eqGuard,binOp,Op.intArith,h]
theorem Xbn(hx:ev e x=some (.int .i64 i))(hy:ev e y=some (.int .i64 j))(h1:-9223372036854775808<=i*j)(h2:i*j<=9223372036854775807):EvW P ⟨d,.binOp .mul t x y t',ty,pos,af,g⟩ n e w (.int .i64 (i*j)):=fun a hf=>Xvo hf hx hy h1 h2
theorem Xvm{m k:Nat}(hf:Fr a n e)(hx:ev e x=some (.int .i64 (m:Int)))(hy:ev e y=some (.int .i64 (k:Int)))(hb:m*k<=4611686018427387904):Ev P ⟨d,.binOp .mul t x y t',ty,pos,af,g⟩ a w (.int .i64 ((m*k:Nat) : Int)):=fun w' _=>by
 have h:IntKind.i64.wrap ((m:Int)*(k:Int))=((m*k:Nat) : Int):=by
  rw[<- Int.natCast_mul];exact IntWalk.i64_in _ ⟨by omega,by omega⟩
 simp[execOp,hf.ev hx,hf.ev hy,eqGuard,binOp,Op.intArith,h]
theorem Xjx{m k:Nat}(hx:ev e x=some (.int .i64 (m:Int)))(hy:ev e y=some (.int .i64 (k:Int)))(hb:m*k<=4611686018427387904):EvW P ⟨d,.binOp .mul t x y t',ty,pos,af,g⟩ n e w (.int .i64 ((m*k:Nat) : Int)):=fun a hf=>Xvm hf hx hy hb
theorem Xpq{k:IntKind}{m:Nat}(hf:Fr a n e)(hx:ev e x=some (.int .i64 i))(hy:ev e y=some (.int k j))(hj:j=(m:Int))(hm:m<=64):Ev P ⟨d,.binOp .shl t x y t',ty,pos,af,g⟩ a w (.int .i64 (IntKind.i64.wrap (i*2^m))):=fun w' _=>by
 subst hj;have hm':min m 64=m:=by omega
 simp[execOp,hf.ev hx,hf.ev hy,eqGuard,binOp,Op.shift,IntKind.bits,hm']
theorem Xun{k:IntKind}{m:Nat}(hx:ev e x=some (.int .i64 i))(hy:ev e y=some (.int k j))(hj:j=(m:Int))(hm:m<=64):EvW P ⟨d,.binOp .shl t x y t',ty,pos,af,g⟩ n e w (.int .i64 (IntKind.i64.wrap (i*2^m))):=fun a hf=>Xpq hf hx hy hj hm
theorem Y3c{k:IntKind}{m:Nat}(hf:Fr a n e)(hx:ev e x=some (.int .i64 i))(hy:ev e y=some (.int k j))(hj:j=(m:Int))(hm:m<=64):Ev P ⟨d,.binOp .shr t x y t',ty,pos,af,g⟩ a w (.int .i64 (i/2^m)):=fun w' _=>by
 subst hj;have hm':min m 64=m:=by omega
 simp[execOp,hf.ev hx,hf.ev hy,eqGuard,binOp,Op.shift,IntKind.bits,hm']
theorem Ydc{k:IntKind}{m:Nat}(hx:ev e x=some (.int .i64 i))(hy:ev e y=some (.int k j))(hj:j=(m:Int))(hm:m<=64):EvW P ⟨d,.binOp .shr t x y t',ty,pos,af,g⟩ n e w (.int .i64 (i/2^m)):=fun a hf=>Y3c hf hx hy hj hm
theorem Xnd(hf:Fr a n e)(hx:ev e x=some (.int .i64 i))(hy:ev e y=some (.int .i64 j)):Ev P ⟨d,.binOp .andNot t x y t',ty,pos,af,g⟩ a w (.int .i64 (bits .andNot .i64 i j)):=fun w' _=>by
 simp[execOp,hf.ev hx,hf.ev hy,eqGuard,binOp,Op.intBits,bits]
theorem Xuj(hx:ev e x=some (.int .i64 i))(hy:ev e y=some (.int .i64 j)):EvW P ⟨d,.binOp .andNot t x y t',ty,pos,af,g⟩ n e w (.int .i64 (bits .andNot .i64 i j)):=fun a hf=>Xnd hf hx hy
theorem Y38{p:Addr}(hf:Fr a n e)(hx:ev e x=some (.pointer (some p))):Ev P ⟨d,.nilCheck x,ty,pos,af,g⟩ a w (.pointer (some p)):=fun w' _=>by
 simp[execOp,hf.ev hx]
theorem X05{p:Addr}(hx:ev e x=some (.pointer (some p))):EvW P ⟨d,.nilCheck x,ty,pos,af,g⟩ n e w (.pointer (some p)):=fun a hf=>Y38 hf hx
end
def Rd.atV{α:Type}{w:World}{B b0:Nat}{E T0:TypeId}{enc:α->List Value}{A:Option Addr}{l:List α}{l0:List Value}{sz:Nat}(hsz:∀ x,(enc x).length=sz)(h:Rd w B E enc A l){k:Nat}{x:α}(hk:l[k]? = some x)
  (hb:Blk w b0 T0 l0) (hT:Nat.beq E T0=false) : ∃ p,A=some p/\At w (p.add (k*sz)) (enc x)/\(p.add (k*sz)).block≠b0:=by
 have ⟨p,h1,h2⟩:=h.at hsz hk;refine ⟨p,h1,h2,?_⟩;have hl:l≠[]:=by rintro rfl;simp at hk
 have ⟨b,off,cs,fz,h3,h4,h5,h6⟩:=h hl;rw[h1] at h3;injection h3 with h3;subst h3;rw[X8o];rintro rfl;unfold Blk at hb;rw[h5] at hb;injection hb with hb;injection hb with _ e;subst e;simp at hT
section
variable {P : Program} {a : Act} {w : World} {n : Nat} {e : Env} {α : Type} {ops : Array Oper} {ty : TypeId} {pos : String} {af : Array Edge} {g : Option (Nat × Bool)} {d : Nat}
theorem Xsx{b0:Nat}{l0:List Value}{Q:Act->World->Prop}{tl:Nat->Bool}{fuel:Nat}{done:List Nat}{T E T0:TypeId}{sz B:Nat}{x y:Operand}{enc:α->List Value}{A:Option Addr}{c:Nat}{l:List α}{k:Nat}{i:Int}{u:α}(j:Nat)
  (ho:ops[j]? = some ⟨some d,.indexAddr T x y,ty,pos,af,g⟩) (hm:mayFirst ops done j=true) (hf:Fr a n e) (hw:Want ops ⟨some d,.indexAddr T x y,ty,pos,af,g⟩ e) (hn:Nat.blt d n=true)
  (hb:Blk w b0 T0 l0) (hT0:Nat.beq E T0=false)
  (hx:ev e x=some (.slice A l.length c)) (hy:ev e y=some (.int .i64 i)) (hT:SliceT P T E) (hs:SizeT P E sz) (hsz:∀ x,(enc x).length=sz) (hr:Rd w B E enc A l) (hk:l[k]? = some u) (hi:i=(k:Int))
  (h:∀ a' p,At w p (enc u)->p.block≠b0->Fr a' n ((d,.pointer (some p))::e)->wpS P ops (some b0) tl Q fuel (mask ops (j::done)) a' w) : wpS P ops (some b0) tl Q (fuel+1) (mask ops done) a w:=by
 obtain ⟨p,rfl,hat,hne⟩:=hr.atV hsz hk hb hT0;exact Xsv j ho hm hf hw O hn (fun w=>X95 hf hx hy hT hs hi (Qg.1 hk).1) fun a' hf'=>h a' _ hat hne hf'
theorem Ya{b0:Nat}{l0:List Value}{Q:Act->World->Prop}{tl:Nat->Bool}{fuel:Nat}{done:List Nat}{T E T0:TypeId}{sz B:Nat}{x y:Operand}{enc:α->List Value}{A:Option Addr}{c:Nat}{l:List α}{k:Nat}{i:Int}{u:α}(j:Nat)
  (ho:ops[j]? = some ⟨some d,.indexAddr T x y,ty,pos,af,g⟩) (hw:Want ops ⟨some d,.indexAddr T x y,ty,pos,af,g⟩ e) (hb:Blk w b0 T0 l0) (hT0:Nat.beq E T0=false)
  (hx:ev e x=some (.slice A l.length c)) (hy:ev e y=some (.int .i64 i)) (hT:SliceT P T E) (hs:SizeT P E sz) (hsz:∀ x,(enc x).length=sz) (hr:Rd w B E enc A l) (hk:l[k]? = some u) (hi:i=(k:Int))
  (h:∀ p,At w p (enc u)->p.block≠b0->WS P ops (some b0) tl Q fuel (j::done) n ((d,.pointer (some p))::e) w) (hm:mayFirst ops done j=true:=by kernel_rfl) (hn:Nat.blt d n=true:=by rfl) : WS P ops (some b0) tl Q (fuel+1) done n e w:=
 fun _ hf=>Xsx j ho hm hf hw hn hb hT0 hx hy hT hs hsz hr hk hi fun a' p hp hne hf'=>h p hp hne a' hf'
end
def Own.lower{α:Type}{w:World}{B0 B1:Nat}{E:TypeId}{sz:Nat}{enc:α->List Value}{A:Option Addr}{c:Nat}{l:List α}(h:Own w B0 E sz enc A c l)(hB:B1<=B0):Own w B1 E sz enc A c l:=by
 refine ⟨h.1,?_⟩;rcases h.2 with h1|⟨g,cap,cur,h1,h2,h3⟩
 ·exact .inl h1
 ·exact .inr ⟨g,cap,cur,h1,Q0 hB h2,h3⟩
section
variable {α : Type} {P : Program} {a : Act} {w : World} {n : Nat} {e : Env} {ty : TypeId} {pos : String} {af : Array Edge} {g : Option (Nat × Bool)} {d : Option Tmp}
end
abbrev wr(i:Int) : Int:=IntKind.i64.wrap i
def X17{i:Int}(h1:-9223372036854775808<=i)(h2:i<=9223372036854775807):wr i=i:=IntWalk.i64_in _ ⟨h1,h2⟩
structure Rg where (a b c d:Int) deriving DecidableEq
structure Dy where (num:Rg) (exp:Int) deriving DecidableEq
structure Gt where (k a b:Int) deriving DecidableEq
def encI(i:Int) : List Value:=[.int .i64 i]
def encD(x:Dy) : List Value:=[.int .i64 x.num.a,.int .i64 x.num.b,.int .i64 x.num.c,.int .i64 x.num.d,.int .i64 x.exp]
def encG(x:Gt) : List Value:=[.int .i64 x.k,.int .i64 x.a,.int .i64 x.b]
def Xj:∀ x,(encI x).length=1:=fun _=>rfl
def X2s:∀ x,(encD x).length=5:=fun _=>rfl
def X0q:∀ x,(encG x).length=3:=fun _=>rfl
def X37:∀ x,(encI x).all one=true:=fun _=>rfl
def Xby:∀ x,(encD x).all one=true:=fun _=>rfl
def X1d:∀ x,(encG x).all one=true:=fun _=>rfl
abbrev rV(r:Rg) : Value:=.agg #[.int .i64 r.a,.int .i64 r.b,.int .i64 r.c,.int .i64 r.d]
abbrev dV(x:Dy) : Value:=.agg #[.int .i64 x.num.a,.int .i64 x.num.b,.int .i64 x.num.c,.int .i64 x.num.d,.int .i64 x.exp]
abbrev gV(x:Gt) : Value:=.agg #[.int .i64 x.k,.int .i64 x.a,.int .i64 x.b]
def inR(n lo hi:Int) : Bool:=decide (lo<=n)&&decide (n<=hi)
def rOk(x:Rg) : Bool:=inR x.a (-1000000000) 1000000000&&inR x.b (-1000000000) 1000000000&&inR x.c (-1000000000) 1000000000&&inR x.d (-1000000000) 1000000000
def rAdd(x y:Rg) : Rg:=⟨wr (x.a+y.a),wr (x.b+y.b),wr (x.c+y.c),wr (x.d+y.d)⟩
def rNeg(x:Rg) : Rg:=⟨wr (-x.a),wr (-x.b),wr (-x.c),wr (-x.d)⟩
def rMul(x y:Rg) : Rg:=
 ⟨wr (wr (wr (wr (x.a*y.a)-wr (x.b*y.d))-wr (x.c*y.c))-wr (x.d*y.b)),
 wr (wr (wr (wr (x.a*y.b)+wr (x.b*y.a))-wr (x.c*y.d))-wr (x.d*y.c)),
 wr (wr (wr (wr (x.a*y.c)+wr (x.b*y.b))+wr (x.c*y.a))-wr (x.d*y.d)),
 wr (wr (wr (wr (x.a*y.d)+wr (x.b*y.c))+wr (x.c*y.b))+wr (x.d*y.a))⟩
def rRoot(x:Rg) : Rg:=⟨wr (x.b-x.d),wr (x.a+x.c),wr (x.b+x.d),wr (x.c-x.a)⟩
def rEven(x:Rg) : Bool:=(wr (x.a+x.c)).tmod 2==0&&(wr (x.b+x.d)).tmod 2==0
def rHalf(x:Rg) : Rg:=⟨wr ((rRoot x).a.tdiv 2),wr ((rRoot x).b.tdiv 2),wr ((rRoot x).c.tdiv 2),wr ((rRoot x).d.tdiv 2)⟩
def rOm(x:Rg) : Rg:=⟨wr (-x.d),x.a,x.b,x.c⟩
def rTurnN:Nat->Rg->Rg
 | 0,x=>x
 | k+1,x=>rTurnN k (rOm x)
def turns(k:Int) : Int:=(wr (k.tmod 8+8)).tmod 8
def rTurn(x:Rg)(k:Int) : Rg:=rTurnN (turns k).toNat x
def lowN:Nat->Rg->Rg×Nat
 | 0,x=>(x,0)
 | m+1,x=>if rEven x then lowN m (rHalf x) else (x,m+1)
def dLow(x:Rg)(exp:Int) : Dy:=⟨(lowN exp.toNat x).1,if 0<exp then ((lowN exp.toNat x).2:Int) else exp⟩
def dPow(k:Int) : Dy:=⟨rTurn ⟨1,0,0,0⟩ k,0⟩
def dNeg(x:Dy) : Dy:=⟨rNeg x.num,x.exp⟩
def dZ:Dy:=⟨⟨0,0,0,0⟩,0⟩
def X7e{x:Rg}{exp:Int}(h0:0<exp)(he:rEven x=true):dLow x exp=dLow (rHalf x) (exp-1):=by
 have ⟨m,hm⟩ : ∃ m:Nat,exp=m+1:=⟨(exp-1).toNat,by omega⟩;subst hm;have e1:((m:Int)+1).toNat=m+1:=by omega
 have e2:((m:Int)+1-1)=m:=by omega
 unfold dLow;rw[e1,e2,Qj];simp only[lowN,he,if_true,h0];cases m with
 | zero=>simp[lowN]
 | succ k=>simp
def X3r{x:Rg}{exp:Int}(h:0<exp->rEven x=false):dLow x exp=⟨x,exp⟩:=by
 unfold dLow;by_cases h0:0<exp
 ·have ⟨m,hm⟩ : ∃ m:Nat,exp=m+1:=⟨(exp-1).toNat,by omega⟩;subst hm;have e1:((m:Int)+1).toNat=m+1:=by omega
  rw[e1];simp only[lowN,h h0,Bool.false_eq_true,if_false,h0,if_true];rfl
 ·have e1:exp.toNat=0:=by omega
  rw[e1];simp[lowN,h0]
abbrev Zc7(D:List Gt)(i:Int)(u:Gt) : List Gt:=((D.take i.toNat)++([u]))++(D.drop i.toNat)
section
variable {α : Type} {p : α -> Bool} {l : List α} {k : Nat} {u : α}
theorem X5a(h:(l.take k).all p=true)(hu:l[k]? = some u)(hp:p u=true):(l.take (k+1)).all p=true:=by
 rw[Qt,hu];simp only[List.all_append,h,Option.toList_some,List.all_cons,hp,List.all_nil,Bool.and_self]
theorem Xn7(hu:l[k]? = some u)(hp:p u=false):l.all p=false:=by grind
theorem X50(h:(l.take k).all p=true)(hk:l.length<=k):l.all p=true:=by rwa [Qi hk] at h
end
def X6s{α:Type}{p:α->Bool}{l:List α}{k:Nat}{u:α}(hu:l[k]? = some u)(hp:p u=true):l.any p=true:=by grind
def X5r{α:Type}{p:α->Bool}{l:List α}(h:l.all (fun x=>!p x)=true):l.any p=false:=by grind
def Xal(k:Int):0<=turns k/\turns k<8:=by
 have h1:-8<k.tmod 8/\k.tmod 8<8:=by
  rcases Int.le_total 0 k with h|h
  ·rw[Int.tmod_eq_emod_of_nonneg h];omega
  ·have h2:(-k).tmod 8 = -(k.tmod 8):=Int.neg_tmod _ _;rw[Int.tmod_eq_emod_of_nonneg Z] at h2;omega
 unfold turns;rw[X17 Z Z];have h4:0<=k.tmod 8+8:=by omega
 rw[Int.tmod_eq_emod_of_nonneg h4];omega
def rIf2(x:Rg)(l:List Rg) : Bool:=(l++[x]).all rOk
def rIf1(x:Rg)(l:List Rg) : Rg:=if rIf2 x l=true then x else ⟨0,0,0,0⟩
def X11{n lo hi:Int}:inR n lo hi=true↔lo<=n/\n<=hi:=by simp[inR]
def X42{x:Rg}:rOk x=true↔(-1000000000<=x.a/\x.a<=1000000000)/\(-1000000000<=x.b/\x.b<=1000000000)/\(-1000000000<=x.c/\x.c<=1000000000)/\(-1000000000<=x.d/\x.d<=1000000000):=by
 simp only[rOk,Qd,X11,and_assoc]
def Xjc{i:Int}(h1:-2000000000<=i)(h2:i<=2000000000):-1000000000<=i.tdiv 2/\i.tdiv 2<=1000000000:=by grind
def X6c{i:Int}(h1:-2000000000<=i)(h2:i<=2000000000):-1000000000<=wr ((wr i).tdiv 2)/\wr ((wr i).tdiv 2)<=1000000000:=by
 rw[X17 (i:=i) Z Z];have:=Xjc h1 h2;rw[X17 Z Z];exact this
def Xhe{x:Rg}(h:rOk x=true):rOk (rHalf x)=true:=by
 rw[X42] at h ⊢;exact ⟨X6c Z Z,X6c Z Z,X6c Z Z,X6c Z Z⟩
def dOk(x:Dy) : Bool:=rOk x.num&&inR x.exp 0 60&&(x.exp==0||!rEven x.num)
def X7f{x:Dy}(h:dOk x=true):0<=x.exp/\x.exp<=60:=by
 simp only[dOk,Qd,X11] at h;exact h.1.2
def Xnp{a b:Bool}(h:(!a||!b)=true):(a&&b)=false:=by revert h;cases a<;>cases b<;>simp
def Xs3{a b:Bool}(h:(!a||!b)=false):(a&&b)=true:=by revert h;cases a<;>cases b<;>simp
def dOf(x:Rg)(m:Int) : Option Dy:=if (rOk x&&inR m 0 60)=true then some (dLow x m) else none
def raiseI:Nat->Rg->Rg×Bool
 | 0,y=>(y,true)
 | n+1,y=>if rIf2 (rRoot y) [y]=true then raiseI n (rRoot y) else (⟨0,0,0,0⟩,false)
def dRaise(x:Dy)(m:Int) : Rg×Bool:=raiseI (m-x.exp).toNat x.num
def dAddI(x y:Dy) : Option Dy:=
 if (dOk x&&dOk y)=true then
  if ((dRaise x (max x.exp y.exp)).2&&(dRaise y (max x.exp y.exp)).2&&rIf2 (rAdd (dRaise x (max x.exp y.exp)).1 (dRaise y (max x.exp y.exp)).1) [(dRaise x (max x.exp y.exp)).1,(dRaise y (max x.exp y.exp)).1])=true then
   dOf (rIf1 (rAdd (dRaise x (max x.exp y.exp)).1 (dRaise y (max x.exp y.exp)).1) [(dRaise x (max x.exp y.exp)).1,(dRaise y (max x.exp y.exp)).1]) (max x.exp y.exp)
  else none
 else none
def dMulI(x y:Dy) : Option Dy:=
 if (dOk x&&dOk y&&rIf2 (rMul x.num y.num) [x.num,y.num])=true then dOf (rIf1 (rMul x.num y.num) [x.num,y.num]) (x.exp+y.exp) else none
structure Mx where (rows cols:Int) (cells:List Dy)
def mZ:Mx:=⟨0,0,[]⟩
abbrev mV(A:Option Addr)(c:Nat)(m:Mx) : Value:=.agg #[.int .i64 m.rows,.int .i64 m.cols,.slice A m.cells.length c]
def isDimB(n:Int) : Bool:=inR n 1 32&&bits .and .i64 n (wr (n-1))==0
def mOk(m:Mx) : Bool:=isDimB m.rows&&isDimB m.cols&&(m.cells.length:Int)==wr (m.rows*m.cols)&&!(m.cells.any fun x=>!dOk x)
def seqO(g:Nat->Option Dy) : Nat->Option (List Dy)
 | 0=>some []
 | n+1=>match seqO g n,g n with
  | some l,some x=>some (l++[x])
  | _,_=>none
def X9o{g:Nat->Option Dy}:∀ {n:Nat} {l:List Dy},seqO g n=some l->l.length=n
 | 0,l,h=>by simp[seqO] at h;subst h;rfl
 | n+1,l,h=>by
  simp only[seqO] at h;split at h
  ·rename_i l' x h1 h2;injection h with h;subst h;simp[X9o h1]
  ·cases h
def gridG(f:Nat->Nat->Option Dy)(C:Nat)(n:Nat) : Option Dy:=f (n/C) (n % C)
def Xqg{f:Nat->Nat->Option Dy}{C i j:Nat}(hj:j<C):gridG f C (i*C+j)=f i j:=by
 unfold gridG;have h1:(i*C+j)/C=i:=by rw[Wi,Nat.mul_add_div Z,Nat.div_eq_of_lt hj];omega
 have h2:(i*C+j) % C=j:=by rw[Wi,Nat.mul_add_mod,Nat.mod_eq_of_lt hj]
 rw[h1,h2]
def matOf(R C:Int)(f:Nat->Nat->Option Dy) : Option Mx:=
 if (isDimB R&&isDimB C)=true then (seqO (gridG f C.toNat) (R.toNat*C.toNat)).map fun l=>⟨R,C,l⟩ else none
def Mx.at(m:Mx)(i j:Nat) : Dy:=m.cells.getD (i*m.cols.toNat+j) dZ
def Mx.at_get{m:Mx}{i j:Nat}(h:i*m.cols.toNat+j<m.cells.length):m.cells[i*m.cols.toNat+j]? = some (m.at i j):=by
 rw[Mx.at,Qa,Qc h];rfl
def X6e{n:Int}(h:isDimB n=true):1<=n/\n<=32:=by
 simp only[isDimB,Qd,X11] at h;exact h.1
def X81{m:Mx}(h:mOk m=true):(1<=m.rows/\m.rows<=32)/\(1<=m.cols/\m.cols<=32)/\m.cells.length=m.rows.toNat*m.cols.toNat:=by
 simp only[mOk,Qd,beq_iff_eq] at h;have ⟨⟨⟨h1,h2⟩,h3⟩,h4⟩:=h;have h1:=X6e h1;have h2:=X6e h2;refine ⟨h1,h2,?_⟩;have ⟨r,hr⟩ : ∃ r:Nat,m.rows=r:=⟨m.rows.toNat,by omega⟩;have ⟨c,hc⟩ : ∃ c:Nat,m.cols=c:=⟨m.cols.toNat,by omega⟩;rw[hr] at h1;rw[hc] at h2;rw[hr,hc] at h3 ⊢;have h5:r*c<=32*32:=Nat.mul_le_mul Z Z;rw[<- Int.natCast_mul,X17 Z Z] at h3;simp only[Qj];exact Int.natCast_inj.1 h3
def X7z{R C i j:Nat}(hi:i<R)(hj:j<C):i*C+j<R*C:=by
 have h1:(i+1)*C<=R*C:=Nat.mul_le_mul_right _ hi;rw[Wb] at h1;omega
def dotI(a b:Mx)(i j:Nat) : Nat->Option Dy
 | 0=>some dZ
 | n+1=>(dotI a b i j n).bind fun s=>(dMulI (a.at i n) (b.at n j)).bind fun x=>dAddI s x
def mulI(a b:Mx) : Option Mx:=if (mOk a&&mOk b&&a.cols==b.rows)=true then matOf a.rows b.cols fun i j=>dotI a b i j a.cols.toNat else none
def idI(n:Int) : Option Mx:=matOf n n fun i j=>some (if i=j then ⟨⟨1,0,0,0⟩,0⟩ else dZ)
def X9u{P:Program}{t:TypeId}{fs:Array Field}(h:P.underlying t=some (.struct fs)):P.fieldsOf t=fs:=by simp[Program.fieldsOf,h]
def Xe5{P:Program}{w:World}{t k:Nat}{xs:Array Value}{v:Value}(h1:OneT P t)(h:xs[k]? = some v):(part t xs k).run P w=.ok v w:=by
 simp[part,X5n h1,h]
def X34 {P : Program} {w : World} {d : Nat} {xs ys : Array Value} {f : Field} {fs : List Field} {k : IntKind} {i j : Int} (hn : f.name ≠ "_") (hT : OneT P f.type) (hu : P.underlying f.type = some (.int k)) (hx : xs[f.offset]? = some (.int .i64 i)) (hy : ys[f.offset]? = some (.int .i64 j))
  {r:Bool} (h:i=j->(Op.eqFields (d+1) xs ys fs).run P w=.ok r w) : (Op.eqFields (d+1) xs ys (f::fs)).run P w=.ok (decide (i=j)&&r) w:=by
 simp only[Op.eqFields,hn,ne_eq,not_false_eq_true,if_true,Sem.run_bind,Xe5 hT hx,Xe5 hT hy,Result.andThen_ok,run_equalIn_int _ _ _ _ _ _ _ hu];by_cases hij:i=j
 ·subst hij;simp[h rfl]
 ·simp[hij]
def eqR(d:Nat)(x y:Rg)(w:World):(Op.equalIn (d+2) 135 (rV x) (rV y)).run prog w=.ok (decide (x=y)) w:=by
 have hf:=X9u underlying135;refine (run_equalIn_struct w (d+1) 135 _ _ (by rw[hf];exact underlying135) O3).trans ?_;rw[hf];have:decide (x=y)=(decide (x.a=y.a)&&(decide (x.b=y.b)&&(decide (x.c=y.c)&&(decide (x.d=y.d)&&true)))):=by
  have ⟨a,b,c,d⟩:=x;obtain ⟨a',b',c',d'⟩:=y;simp
 rw[this];refine X34 O5 X8 underlying3 O O fun _=>X34 O5 X8 underlying3 O O fun _=>X34 O5 X8 underlying3 O O fun _=>X34 O5 X8 underlying3 O O fun _=>?_;rfl
def Xnw{P:Program}{w:World}{t k n:Nat}{xs:Array Value}(h1:AggT P t n):(part t xs k).run P w=.ok (.agg (xs.extract k (k+n))) w:=by
 simp[part,X8l h1,run_sizeOf' h1.2]
def Xeq {P : Program} {w : World} {d n : Nat} {xs ys : Array Value} {f : Field} {fs : List Field} {v1 v2 : Value} {b r : Bool} (hn : f.name ≠ "_") (hT : AggT P f.type n) (hx : .agg (xs.extract f.offset (f.offset + n)) = v1) (hy : .agg (ys.extract f.offset (f.offset + n)) = v2)
  (he:(Op.equalIn d f.type v1 v2).run P w=.ok b w) (h:b=true->(Op.eqFields d xs ys fs).run P w=.ok r w) : (Op.eqFields d xs ys (f::fs)).run P w=.ok (b&&r) w:=by
 simp only[Op.eqFields,hn,ne_eq,not_false_eq_true,if_true,Sem.run_bind,Xnw hT,Result.andThen_ok,hx,hy,he];cases b
 ·simp
 ·simp[h rfl]
def eqD(d:Nat)(x y:Dy)(w:World):(Op.equalIn (d+3) 137 (dV x) (dV y)).run prog w=.ok (decide (x=y)) w:=by
 have hf:=X9u underlying137;refine (run_equalIn_struct w (d+2) 137 _ _ (by rw[hf];exact underlying137) O3).trans ?_;rw[hf];have:decide (x=y)=(decide (x.num=y.num)&&(decide (x.exp=y.exp)&&true)):=by
  have ⟨a,b⟩:=x;obtain ⟨a',b'⟩:=y;simp
 rw[this];exact Xeq (v1:=rV x.num) (v2:=rV y.num) O5 X2i O O (eqR d _ _ _) fun _=>X34 O5 X8 underlying3 O O fun _=>rfl
section
variable {P : Program} {a : Act} {w : World} {n : Nat} {e : Env} {ty : TypeId} {pos : String} {af : Array Edge} {g : Option (Nat × Bool)} {d : Option Tmp} {t t' : TypeId} {x y : Operand} {X Y : Array Value} {b : Bool}
theorem Xvj(hf:Fr a n e)(hx:ev e x=some (.agg X))(hy:ev e y=some (.agg Y))(hm:P.eqGuardType P.depth t=false)(he:∀ w,(Op.equalIn 10000 t (.agg X) (.agg Y)).run P w=.ok b w):Ev P ⟨d,.binOp .eql t x y t',ty,pos,af,g⟩ a w (.bool b):=fun w' _=>by
 have h1:=run_eqGuard_agg (P:=P) w' .eql t x y X Y hm;have h2:=run_eql_struct (P:=P) w' t X Y;rw[he] at h2;simp[execOp,hf.ev hx,hf.ev hy,h1,h2]
theorem Y8u(hx:ev e x=some (.agg X))(hy:ev e y=some (.agg Y))(hm:P.eqGuardType P.depth t=false)(he:∀ w,(Op.equalIn 10000 t (.agg X) (.agg Y)).run P w=.ok b w):EvW P ⟨d,.binOp .eql t x y t',ty,pos,af,g⟩ n e w (.bool b):=fun a hf=>Xvj hf hx hy hm he
theorem Xvp(hf:Fr a n e)(hx:ev e x=some (.agg X))(hy:ev e y=some (.agg Y))(hm:P.eqGuardType P.depth t=false)(he:∀ w,(Op.equalIn 10000 t (.agg X) (.agg Y)).run P w=.ok b w):Ev P ⟨d,.binOp .neq t x y t',ty,pos,af,g⟩ a w (.bool (!b)):=fun w' _=>by
 have h1:=run_eqGuard_agg (P:=P) w' .neq t x y X Y hm;have h2:=run_neq_struct (P:=P) w' t X Y;rw[he] at h2;simp[execOp,hf.ev hx,hf.ev hy,h1,h2]
theorem Y8w(hx:ev e x=some (.agg X))(hy:ev e y=some (.agg Y))(hm:P.eqGuardType P.depth t=false)(he:∀ w,(Op.equalIn 10000 t (.agg X) (.agg Y)).run P w=.ok b w):EvW P ⟨d,.binOp .neq t x y t',ty,pos,af,g⟩ n e w (.bool (!b)):=fun a hf=>Xvp hf hx hy hm he
end
def Y4j:prog.eqGuardType prog.depth 137=false:=by kernel_rfl
def Xyw{α:Type}{l m:List α}{k:Nat}{u v:α}(h:l.take k=m.take k)(hu:l[k]? = some u)(hv:m[k]? = some v)(he:u=v):l.take (k+1)=m.take (k+1):=by
 rw[Qt,Qt,h,hu,hv,he]
def Y3g{P:Program}{a:Act}{w:World}{n:Nat}{e:Env}{ty:TypeId}{pos:String}{af:Array Edge}{g:Option (Nat×Bool)}{d:Option Tmp}{s t:TypeId}{x:Operand}{i:Int}{m:Nat}(hs:P.underlying s=some (.int .i64))(ht:P.underlying t=some (.int .u64))(hf:Fr a n e)(hx:ev e x=some (.int .i64 i))(hi:i=(m:Int))(hm:m<=64) :
  Ev P ⟨d,.convert s t x,ty,pos,af,g⟩ a w (.int .u64 (m:Int)):=fun w' _=>by
 subst hi;have h:IntKind.u64.wrap (m:Int)=(m:Int):=by
  simp only[IntKind.wrap];simp only[IntKind.bits,IntKind.signed,Bool.false_and,Bool.false_eq_true,if_false];omega
 simp[execOp,hf.ev hx,convert,X13 hs,X13 ht,Conv.intToInt,h]
def Xhz{P:Program}{w:World}{n:Nat}{e:Env}{ty:TypeId}{pos:String}{af:Array Edge}{g:Option (Nat×Bool)}{d:Option Tmp}{s t:TypeId}{x:Operand}{i:Int}{m:Nat}(hs:P.underlying s=some (.int .i64))(ht:P.underlying t=some (.int .u64))(hx:ev e x=some (.int .i64 i))(hi:i=(m:Int))(hm:m<=64):EvW P ⟨d,.convert s t x,ty,pos,af,g⟩ n e w (.int .u64 (m:Int)):=fun a hf=>Y3g hs ht hf hx hi hm
def bitF(n s q:Int) : Int:=bits .and .i64 (s/2^(n-1-q).toNat) 1
def flipF(n s q:Int) : Int:=bits .xor .i64 s (wr (1*2^(n-1-q).toNat))
def turnOf(k:Int) : Int:=if k=4 then 4 else if k=5 then 2 else if k=6 then 6 else if k=7 then 1 else 7
def Xtz{k:Int}(h1:4<=k)(h2:k<=8):([4,2,6,1,7] : List Int)[(k-4).toNat]? = some (turnOf k):=by
 have:k=4∨k=5∨k=6∨k=7∨k=8:=by omega
 rcases this with rfl|rfl|rfl|rfl|rfl<;>rfl
def dHalf:Dy:=⟨⟨1,0,0,0⟩,1⟩
def oneL(k:Int) : List Dy:=
 if k=1 then [dHalf,dHalf,dHalf,dNeg dHalf] else if k=2 then [dZ,dPow 0,dPow 0,dZ] else if k=3 then [dZ,dPow 6,dPow 2,dZ] else [dPow 0,dZ,dZ,dPow (turnOf k)]
def Own.of_blkL{α:Type}{w:World}{B0 b k:Nat}{E:TypeId}{sz:Nat}{enc:α->List Value}{cs:List Value}{l:List α}(hsz:∀ x,(enc x).length=sz)(h:Blk w b E cs)(hb:B0<=b)(hc:l.flatMap enc=cs)(hl:l.length=k)(hk:k<=maxLen):Own w B0 E sz enc (some ⟨b,0,none⟩) k l:=by
 subst hc;subst hl;have h1:=Xw hsz l;refine ⟨h1,.inr ⟨b,l.length,_,O,hb,h,Qb _,hk,?_,?_⟩⟩
 ·simpa using h1
 ·rw[<- h1];exact List.take_length
structure Cx where (n:Int) (gs:List Gt)
def gOk(n:Int)(x:Gt) : Bool:=
 inR n 1 5&&inR x.k 1 12&&(if x.k=12 then x.a==0&&x.b==0 else if inR x.k 9 11=true then inR x.a 0 (n-1)&&inR x.b 0 (n-1)&&x.a != x.b else inR x.a 0 (n-1)&&x.b==0)
def cOk(c:Cx) : Bool:=inR c.n 1 5&&decide ((c.gs.length:Int)<=400)&&!(c.gs.any fun x=>!gOk c.n x)
def Xnu{f:Nat->Bool}{k:Nat}(h:k<8)(hf:f k=true):(List.range 8).any f=true:=List.any_eq_true.2 ⟨k,W2.2 h,hf⟩
def Xj7{f:Nat->Bool}(h:∀ k<8,f k=false):(List.range 8).any f=false:=by grind
def sRing(x:Rg) : Rg:=if rOk x=true then x else ⟨0,0,0,0⟩
def sRaiseN:Nat->Bool->Dy->Bool×Dy
 | 0,f,x=>(f,x)
 | n+1,f,x=>sRaiseN n (f||!rOk (rRoot x.num)) ⟨sRing (rRoot x.num),x.exp+1⟩
def sAdd(f:Bool)(x y:Dy) : Bool×Dy:=
 ((sRaiseN ((sRaiseN (y.exp-x.exp).toNat f x).2.exp-y.exp).toNat (sRaiseN (y.exp-x.exp).toNat f x).1 y).1||!rOk (rAdd (sRaiseN (y.exp-x.exp).toNat f x).2.num (sRaiseN ((sRaiseN (y.exp-x.exp).toNat f x).2.exp-y.exp).toNat (sRaiseN (y.exp-x.exp).toNat f x).1 y).2.num),
 dLow (sRing (rAdd (sRaiseN (y.exp-x.exp).toNat f x).2.num (sRaiseN ((sRaiseN (y.exp-x.exp).toNat f x).2.exp-y.exp).toNat (sRaiseN (y.exp-x.exp).toNat f x).1 y).2.num)) (sRaiseN (y.exp-x.exp).toNat f x).2.exp)
def sMul(f:Bool)(x y:Dy) : Bool×Dy:=
 if 60<x.exp+y.exp then (true,dZ) else (f||!rOk (rMul x.num y.num),dLow (sRing (rMul x.num y.num)) (x.exp+y.exp))
def Xaj{f1 f:Bool}{x1 x:Dy}{m:Int}{k:Nat}(h:sRaiseN (m-x1.exp).toNat f1 x1=sRaiseN k f x)(hlt:x1.exp<m) :
  sRaiseN (m-(x1.exp+1)).toNat (f1||!rOk (rRoot x1.num)) ⟨sRing (rRoot x1.num),x1.exp+1⟩=sRaiseN k f x:=by
 rw[<- h];have ⟨j,hj⟩ : ∃ j,(m-x1.exp).toNat=j+1:=⟨(m-x1.exp).toNat-1,by omega⟩;rw[hj,show (m-(x1.exp+1)).toNat=j from by omega];rfl
def Xai{f1 f:Bool}{x1 x:Dy}{m:Int}{k:Nat}(h:sRaiseN (m-x1.exp).toNat f1 x1=sRaiseN k f x)(hlt:¬ x1.exp<m):sRaiseN k f x=(f1,x1):=by
 rw[<- h,show (m-x1.exp).toNat=0 from by omega];rfl
def X4r(n s q:Int):bitF n s q=0∨bitF n s q=1:=by
 have key:∀ b:BitVec 64,IntKind.i64.wrap ((b &&& BitVec.ofInt 64 1).toNat:Int)=0∨IntKind.i64.wrap ((b &&& BitVec.ofInt 64 1).toNat:Int)=1:=fun b=>by
  have:(BitVec.ofInt 64 1).toNat=1:=by decide
  have h:(b &&& BitVec.ofInt 64 1).toNat=0∨(b &&& BitVec.ofInt 64 1).toNat=1:=by
   rw[BitVec.toNat_and,this,Nat.and_one_is_mod];omega
  rcases h with h|h<;>rw[h]
  ·exact .inl O
  ·exact .inr O
 exact key _
def X22{n:Int}{g:Gt}(h:gOk n g=true):(1<=n/\n<=5)/\(1<=g.k/\g.k<=12)/\(g.k≠12->0<=g.a/\g.a<n)/\(9<=g.k/\g.k<=11->0<=g.b/\g.b<n/\g.a≠g.b):=by
 simp only[gOk,Qd,X11] at h;have ⟨⟨h1,h2⟩,h3⟩:=h;refine ⟨h1,h2,fun hk=>?_,fun hk=>?_⟩
 ·rw[Q3 hk] at h3;split at h3<;>simp only[Qd,X11] at h3<;>omega
 ·rw[Q3 Z,Q4 hk] at h3;simp only[Qd,X11,bne_iff_ne] at h3;exact ⟨h3.1.2.1,by omega,h3.2⟩
def toS(n:Int)(g:Gt)(col:Int) : Int:=
 if g.k=9 then (if bitF n col g.a=1 then flipF n col g.b else col) else if g.k=11 then (if bitF n col g.a≠bitF n col g.b then flipF n (flipF n col g.a) g.b else col) else col
def valS(n:Int)(g:Gt)(col:Int) : Dy:=if g.k=12 then dPow 1 else if g.k=10/\bitF n col g.a=1/\bitF n col g.b=1 then dPow 4 else dPow 0
def cellS(n:Int)(g:Gt)(row col:Int) : Dy:=
 if g.k<=8 then (if bits .andNot .i64 (bits .xor .i64 row col) (wr (1*2^(n-1-g.a).toNat))≠0 then dZ else (oneL g.k).getD (2*bitF n row g.a+bitF n col g.a).toNat dZ)
 else if row=toS n g col then valS n g col else dZ
def Xs0{k:Int}{m:Nat}(h:m<4):(oneL k)[m]? = some ((oneL k).getD m dZ):=by grind [dZ,oneL]
def X2a{i j:Int}(h:(i==j)=false):¬ i=j:=by simpa using h
def Xvq{P:Program}{a:Act}{w:World}{n:Nat}{e:Env}{ty:TypeId}{pos:String}{af:Array Edge}{g:Option (Nat×Bool)}{d:Option Tmp}{t t':TypeId}{x y:Operand}{j:Int}{k:IntKind}{m D:Nat}(hf:Fr a n e)(hx:ev e x=some (.int .i64 1))(hy:ev e y=some (.int k j))(hj:j=(m:Int))(hD:D=2^m/\m<=30):Ev P ⟨d,.binOp .shl t x y t',ty,pos,af,g⟩ a w (.int .i64 (D:Int)):=by
 have h:=Xpq (P:=P) (w:=w) (d:=d) (ty:=ty) (pos:=pos) (af:=af) (g:=g) (t:=t) (t':=t') (i:=1) hf hx hy hj Z;have h2:IntKind.i64.wrap (1*2^m)=(D:Int):=by
  rw[hD.1];have h3:(2:Nat)^m<=2^30:=Nat.pow_le_pow_right O5 hD.2;have h4:(2:Int)^m=((2^m:Nat) : Int):=by simp
  rw[Int.one_mul,h4];exact IntWalk.i64_in _ ⟨by omega,by omega⟩
 rwa [h2] at h
def Y0b{P:Program}{w:World}{n:Nat}{e:Env}{ty:TypeId}{pos:String}{af:Array Edge}{g:Option (Nat×Bool)}{d:Option Tmp}{t t':TypeId}{x y:Operand}{j:Int}{k:IntKind}{m D:Nat}(hx:ev e x=some (.int .i64 1))(hy:ev e y=some (.int k j))(hj:j=(m:Int))(hD:D=2^m/\m<=30):EvW P ⟨d,.binOp .shl t x y t',ty,pos,af,g⟩ n e w (.int .i64 (D:Int)):=fun a hf=>Xvq hf hx hy hj hD
def gridF(f:Nat->Nat->Dy)(C:Nat)(m:Nat) : Dy:=f (m/C) (m % C)
def gridL(f:Nat->Nat->Dy)(C:Nat)(N:Nat) : List Dy:=(List.range N).map (gridF f C)
def Xqf{f:Nat->Nat->Dy}{C i j:Nat}(hj:j<C):gridF f C (i*C+j)=f i j:=by
 unfold gridF;have h1:(i*C+j)/C=i:=by rw[Wi,Nat.mul_add_div Z,Nat.div_eq_of_lt hj];omega
 have h2:(i*C+j) % C=j:=by rw[Wi,Nat.mul_add_mod,Nat.mod_eq_of_lt hj]
 rw[h1,h2]
def Xil{f:Nat->Nat->Dy}{C i j:Nat}(hj:j<C):gridL f C (i*C+(j+1))=gridL f C (i*C+j)++[f i j]:=by
 unfold gridL;rw[show i*C+(j+1)=(i*C+j)+1 from O,List.range_succ,List.map_append,List.map_singleton,Xqf hj]
def X9x(f:Nat->Nat->Dy)(C N:Nat):(gridL f C N).length=N:=by simp[gridL]
def gateS(n:Int)(g:Gt) : Mx:=⟨((2^n.toNat:Nat) : Int),((2^n.toNat:Nat) : Int),gridL (fun i j=>cellS n g i j) (2^n.toNat) (2^n.toNat*2^n.toNat)⟩
def X9j{n:Int}(h:n<=5):2^n.toNat<=32:=Nat.pow_le_pow_right (n:=2) O5 (show n.toNat<=5 by omega)
def dTurn(k:Int)(x:Dy) : Dy:=⟨rTurn x.num k,x.exp⟩
def turnedS(p q:Mx)(k:Int) : Bool:=decide (p.rows=q.rows)&&decide (p.cols=q.cols)&&decide (p.cells=q.cells.map (dTurn k))
def Xlr{α β:Type}{f:α->β}{l:List α}{i:Nat}{u:α}(h:l[i]? = some u):(l.map f)[i]? = some (f u):=by simp[h]
def phaseS(p q:Mx) : Bool:=(List.range 8).any fun k=>turnedS p q (k:Int)
section
variable {n : Int} {g : Gt} (hn : 1 <= n /\ n <= 5)
include hn
theorem Ydp(h:inR g.k 1 8=true):gOk n g=(inR g.a 0 (n-1)&&g.b==0):=by grind [gOk,inR]
theorem Ydq(h:inR g.k 9 11=true):gOk n g=(inR g.a 0 (n-1)&&inR g.b 0 (n-1)&&g.a != g.b):=by grind [gOk,inR]
theorem Ydr(h1:inR g.k 1 8=false)(h2:inR g.k 9 11=false):gOk n g=(g.k==12&&g.a==0&&g.b==0):=by grind [gOk,inR]
end
def entryI(k i j:Int) : Dy:=
 if k=1 then (if i=1/\j=1 then ⟨⟨-1,0,0,0⟩,1⟩ else dHalf) else if k=2/\i≠j then ⟨⟨1,0,0,0⟩,0⟩ else if k=3/\i≠j then dPow (2+4*j)
 else if k=2∨k=3∨i≠j then dZ else if i=0 then ⟨⟨1,0,0,0⟩,0⟩ else dPow (turnOf k)
def czI(n:Int)(g:Gt)(i:Int) : Bool:=g.k==10&&bitF n i g.a==1&&bitF n i g.b==1
def cellI(n:Int)(g:Gt)(i j:Int) : Dy:=
 if g.k=12 then (if i=j then dPow 1 else dZ)
 else if inR g.k 9 11=true then (if toS n g i=j then dPow (4*(if czI n g i=true then 1 else 0)) else dZ)
 else if i=j∨flipF n i g.a=j then entryI g.k (bitF n i g.a) (bitF n j g.a) else dZ
def gateI(n:Int)(g:Gt) : Option Mx:=if gOk n g=true then matOf ((2^n.toNat:Nat) : Int) ((2^n.toNat:Nat) : Int) fun i j=>some (cellI n g i j) else none
abbrev RE:=Ret prog
theorem ZS{P:Program}{Q:Exit->Act->World->Prop}{w:World}{n:Nat}{e:Env}{a:Act}{id:Nat}{l:List Oper}{c:Code}(hf:Fr a n e)(h:∀{K:Act->World->Prop},(∀ a w,c.wp P Q a w->K a w)->WL P l.toArray (Exit.then K Q) l n e w):(Code.seq (Code.region id l.toArray false) c).wp P Q a w:=Zs hf fun _ hK=>h hK
def F91(w0:World)(n:Int)(lo:Int)(hi:Int):RE 69 [vi n,vi lo,vi hi] w0 (fun v w=>v=.bool (inR n lo hi)/\w0=w):=by
 refine enter func69 O 15 O O ?_;intro a c
 have hW:=bz w0
 refine ZS c fun a6=>Za O<|ZX a6 fun a c _ a7=>X0i (fun a w=>Fr a 15 [(6,.bool ((decide (lo<=n))&&(decide (n<=hi))))]/\w0=w) ?_ ?_
 ·refine Zr c<|Zm O<|Zm O<|Ze (Xef O O)<|Zm O<|Zg 10 O ?_ ?_<;>intro b
  ·refine Zv (gW b) (X5 O) ?_;refine Zv (gW b) (X5 O) ?_;refine Zv (gW b) (Xef O O) ?_;refine Ze (Xc O b O)<|Za O ?_;exact Zn fun a c=>⟨c.sub ⟨X1 O (by first|rfl|(simp only[b,bs];done)|simp[b]),trivial⟩,O⟩
  (iterate 3 refine Zp (gP b) ?_);exact Ze (Xi O b O)<|Za O<|Zn fun a c=>⟨c.sub ⟨X1 O (by simp[b]),trivial⟩,O⟩
 rintro a _ ⟨c,rfl⟩;refine a7 _ _<|Q6 (X6 c (Xq c O O) ?_)
 exact ⟨by simp[inR, *],rfl⟩
def F85(w0:World)(n:Int)(lo:Int)(hi:Int):RE 39 [vi n,vi lo,vi hi] w0 (fun v w=>v=.bool (inR n lo hi)/\w0=w):=by
 refine enter func39 O 15 O O ?_;intro a c
 have hW:=bz w0
 refine ZS c fun a6=>Za O<|ZX a6 fun a c _ a7=>X0i (fun a w=>Fr a 15 [(6,.bool ((decide (lo<=n))&&(decide (n<=hi))))]/\w0=w) ?_ ?_
 ·refine Zr c<|Zm O<|Zm O<|Ze (X5q O O)<|Zm O<|Zg 10 O ?_ ?_<;>intro b
  ·refine Zv (gW b) (X5 O) ?_;refine Zv (gW b) (X5 O) ?_;refine Zv (gW b) (Xef O O) ?_;refine Ze (Xc O b O)<|Za O ?_;exact Zn fun a c=>⟨c.sub ⟨X1 O (by first|rfl|(simp only[b,bs];done)|simp[b]),trivial⟩,O⟩
  (iterate 3 refine Zp (gP b) ?_);exact Ze (Xi O b O)<|Za O<|Zn fun a c=>⟨c.sub ⟨X1 O (by simp[b]),trivial⟩,O⟩
 rintro a _ ⟨c,rfl⟩;refine a7 _ _<|Q6 (X6 c (Xq c O O) ?_)
 exact ⟨by simp[inR, *],rfl⟩
def Y6y(w0:World)(x:Int)(y:Int):RE 145 [vi x,vi y] w0 (fun v w=>v=vi (max x y)/\w0=w):=by
 refine enter func145 O 10 O O ?_;intro a b;have hW:=bz w0;refine ZS b fun a7=>Za O<|ZX a7 fun a b _ a8=>ZS b fun aA=>Zm O<|Zm O<|Ze (X52 O O)<|Zt aA fun a b=>X0y b O (fun a6 aB=>?_) (fun a6 aB=>?_)
 ·exact ZS b fun aC=>Zm O<|Za O<|Zt aC fun a b=>Q6<|X9<|X6 b (Xq b O O)<|⟨by congr 1;omega,rfl⟩
 refine Q7<|a8 _ _<|ZS b fun aD=>Zm O<|Za O<|Zt aD fun a b=>Q6 (X6 b (Xq b O O) ?_);exact ⟨by congr 1;omega,rfl⟩
def F99(w0:World)(k:Int):RE 106 [vi k] w0 (fun v w=>v=.bool (inR k 9 11)/\w0=w):=by
 refine enter func106 O 5 O O ?_;intro a hf;have hW:=bz w0;refine ZS hf fun a6=>Za O<|Zx a6 fun a hf _ a7=>Zm O<|Zf (Vc (F91 _ k 9 11) X55) ?_;rintro _ _ ⟨rfl,rfl⟩;refine Za O<|Zt a7 fun a hf=>Q6 (X6 hf (Xq hf O O) ?_);exact ⟨O,O⟩
abbrev Bl(x y:World):=Below x.heap.size x y
def Yd9(d:World)(Al:Option Addr)(cl:Nat)(l:List Int)(aA:Rw d 3 encI Al l)(lo:Int)(e:Int)(aO:l.length<=2305843009213693951):RE 206 [.slice Al l.length cl,vi lo,vi e] d (fun v w=>v=.bool (l.all fun n=>inR n lo e)/\Bl d w):=by
 refine enter func206 O 21 O O ?_;intro a b;have hW:=bz d;refine ZS b fun aG=>Za O<|ZX aG fun a b _ aH=>ZS b fun aI=>Zm O<|Ze (X0w O Xp)<|Zm O<|Zt aI fun a b=>Q8<|X04 (σ:=Nat) (fun (k:Nat) (a:Act) (w:World)=>Fr a 21 [(1,vi lo),(2,vi e),(9,.slice Al l.length cl),(10,vi (l.length:Int)),(11,vi (k:Int))]/\(k<=l.length)/\((l.take k).all (fun n=>inR n lo e)=true)/\Bl d w) (fun (k:Nat)=>l.length+1-k) 0 ?_ ?_
 ·exact ⟨b.sb,(Qf _),O4,hW⟩
 intro k a w1 ⟨b,hk,f,hW⟩;refine ZS b fun aJ=>Ze (X16 O O)<|ZX aJ fun a b _ aK=>X0y b O (fun aB aL=>?_) (fun aB aL=>?_)
 ·have ⟨u8,a6⟩:=Xa (l:=l) (k:=k) Z;refine Q7<|aK _ _<|Q5 fun _ aM=>Q8<|ZS b fun aC=>Zi (k:=k) (u:=u8) (enc:=encI) (l:=l) tv0 O O Xp X0p Xj (aA.bx hW) a6 O ?_;intro aP a7;refine Ze (X0 O X8 a7)<|Za O<|Zx aC fun a b _ aD=>Zm O<|Zm O<|Zm O<|Zf (Vc (F85 _ u8 lo e) X4n) ?_;rintro _ _ ⟨rfl,rfl⟩;refine Ze (X1i O)<|Zt aD fun a b=>Xx b O ?_ ?_<;>intro c
  ·have a8:(l.all fun n=>inR n lo e)=false:=Xn7 a6 (by simpa using c);exact ZS b fun aE=>Za O<|Zt aE fun a b=>Q6<|Xu<|X9<|X9<|Xu<|X9<|X6 b (Xq b O O)<|⟨by rw[a8],hW⟩
  have aN:inR u8 lo e=true:=by simpa using c
  exact Q7<|Xd<|aM _ _<|Zr b<|Ze (Xr O O Z Z)<|Zm O<|Zn fun a b=>Xh<|⟨k+1,⟨b.sb,Z,(X5a f a6 aN),hW⟩,Z⟩
 refine Q9<|Xk<|Xk<|X06<|aH _ _<|ZS b fun aF=>Za O<|Zt aF fun a b=>Q6 (X6 b (Xq b O O) ?_);have a8:(l.all fun n=>inR n lo e)=true:=X50 f Z;exact ⟨by rw[a8],hW⟩
def Yd5(w0:World)(x:Rg):RE 189 [.agg #[vi x.a,vi x.b,vi x.c,vi x.d]] w0 (fun v w=>v=.bool (rOk x)/\Bl w0 w):=by
 refine enter func189 O 13 O O ?_;intro a hf;have e:=bz w0;refine ZS hf fun a7=>Zf (X0n (zs:=[vi x.a,vi x.b,vi x.c,vi x.d]) O O) ?_;rintro _ w1 ⟨b2,rfl,a8,hE,f⟩;have aC:=Q0 e.size a8;have e:=btr e hE;refine Za O<|Zx a7 fun a hf _ aA=>Ze (Vd O X24 0)<|Ze (X0 O X8 (f.at 0))<|Ze (Vd O X25 1)<|Ze (X0 O X8 (f.at 1))<|Ze (Vd O X26 2)<|Ze (X0 O X8 (f.at 2))<|Ze (Vd O X27 3)<|Ze (X0 O X8 (f.at 3))<|Zf (Xe (k:=4) (vs:=[vi x.a,vi x.b,vi x.c,vi x.d]) (zs:=[vi x.a,vi x.b,vi x.c,vi x.d]) O Xp X21 O O) ?_;rintro _ w2 ⟨b4,rfl,aB,hE,a6⟩;have aD:=Q0 e.size aB;have e:=btr e hE;refine Zf (Vc (Yd9 _ (some ⟨b4,0,none⟩) 4 ([x.a,x.b,x.c,x.d]) (Rd.of_blk a6 O _ a6.lt) (-1000000000) 1000000000 O4) Y4e) ?_;rintro _ w3 ⟨rfl,hE⟩;have e:=btr e hE;refine Za O<|Zt aA fun a hf=>Q6 (X6 hf (Xq hf O O) ?_);exact ⟨by simp[rOk,Bool.and_assoc],e⟩
theorem Y76(w0:World)(x:Rg)(k:Int) : RE 97 [.agg #[vi x.a,vi x.b,vi x.c,vi x.d],vi k] w0 (fun v w=>v=rV (rTurn x k)/\Bl w0 w):=by
 refine enter func97 O 24 O O ?_;intro a f
 have i:=bz w0
 refine ZS f fun aC=>Zf (X0n (zs:=[vi x.a,vi x.b,vi x.c,vi x.d]) O O) ?_;rintro _ w1 ⟨b2,rfl,aD,hE,e⟩;have a6:=Q0 i.size aD;have i:=btr i hE;refine Zf (X0b (zs:=[vi 0,vi 0,vi 0,vi 0]) Xan O) ?_;rintro _ w2 ⟨b3,rfl,aE,hE,g⟩
 have aB:b2≠b3:=by have:=e.lt;omega
 have a7:=Q0 i.size aE;have e:=e.bw hE;have i:=btr i hE;refine ZX aC fun a f _ aF=>ZS f fun aG=>Zm O<|Ze (X46 O O O)<|Ze (X3b O O)<|Ze (X46 O O O)<|Za O<|Zt aG fun a f=>Q8 ?_
 have hj:turns k=((turns k).toNat:Int):=by have:=Xal k;omega
 rw [show (wr (k.tmod 8+8)).tmod 8=turns k from O,hj] at f
 have aH:=(Xal k).2;refine X04 (σ:=Rg×Nat) (fun (s:Rg×Nat) (a:Act) (w:World)=>match s with|(y,j)=>Fr a 24 [(1,vi (j:Int)),(2,(pZ9 b2)),(4,(pZ9 b3))]/\(rTurnN j y=rTurn x k)/\(j<8)/\Blk w b2 135 [vi y.a,vi y.b,vi y.c,vi y.d]/\Blk w b3 135 [vi 0,vi 0,vi 0,vi 0]/\Bl w0 w) (fun (s:Rg×Nat)=>match s with|(y,j)=>j) (x,(turns k).toNat) ?_ ?_
 ·exact ⟨f.sb,O,Z,e,g,i⟩
 rintro ⟨y,j⟩ a w3 ⟨f,n,aH,e,g,i⟩;refine Q5 fun _ aI=>ZS f fun aJ=>Zm O<|Ze (X52 O O)<|Zt aJ fun a f=>X0y f O (fun a8 aK=>?_) (fun a8 aK=>?_)
 ·refine Q7<|aI _ _<|Q5 fun _ aL=>?_;refine Q8<|Zr f<|Ze (Vd O X27 3)<|Ze (X0 O X8 (e.at 3))<|Ze (Xn4 O)<|Ze (Vd O X24 0)<|Ze (X0 O X8 (e.at 0))<|Ze (Vd O X25 1)<|Ze (X0 O X8 (e.at 1))<|Ze (Vd O X26 2)<|Ze (X0 O X8 (e.at 2))<|Ze (X0k (ps:=[(0,vi (wr (-y.d))),(1,vi y.a),(2,vi y.b),(3,vi y.c)]) (cs:=[vi (wr (-y.d)),vi y.a,vi y.b,vi y.c]) O (fun _=>by first|rfl|kernel_rfl)) ?_;refine Zo (Vw [vi (wr (-y.d)),vi y.a,vi y.b,vi y.c] X4q e) ?_;rintro _ w4 ⟨ho,hb⟩;have g:=g.oy ho Z;have i:=Below.oy i ho a6;have e:=hb;refine Zn fun a f=>?_;refine Xd<|aL _ _<|Zr f<|Zm O<|Ze (X1j O O Z Z)<|Za O ?_;refine Zn fun a f=>?_
  have aM:((j:Int)-1)=((j-1:Nat) : Int):=by omega
  rw [aM] at f
  exact Xh<|⟨(rOm y,j-1),⟨f.sb,(by rw [<- n];obtain ⟨m,rfl⟩ : ∃ m,j=m+1:=⟨j-1,by omega⟩;rfl),Z,e,g,i⟩,O1⟩
 refine Q9<|Xk<|Xk<|X06 ?_;refine aF _ _<|ZS f fun aA=>?_;refine Ze (Vn X2i e)<|Zo (Vw [vi y.a,vi y.b,vi y.c,vi y.d] X4q g) ?_;rintro _ w5 ⟨ho,hb⟩;have i:=Below.oy i ho a7;have g:=hb;refine Zt aA fun a f=>?_
 refine Q6 (X6 f (Xq f O (ResV.cellN (l:=[vi y.a,vi y.b,vi y.c,vi y.d]) O X2i (g.at 0) O)) ?_)
 have aN:j=0:=by omega
 subst aN
 rw [<- n]
 exact ⟨O,i⟩
theorem Y27(w0:World)(x:Rg) : RE 160 [.agg #[vi x.a,vi x.b,vi x.c,vi x.d]] w0 (fun v w=>v=rV (rRoot x)/\Bl w0 w):=by
 refine enter func160 O 24 O O ?_;intro a hf
 have f:=bz w0
 refine ZS hf fun aA=>Zf (X0n (zs:=[vi x.a,vi x.b,vi x.c,vi x.d]) O O) ?_;rintro _ w1 ⟨b2,rfl,aB,hE,e⟩;have aE:=Q0 f.size aB;have f:=btr f hE;refine Zf (X0b (zs:=[vi 0,vi 0,vi 0,vi 0]) Xan O) ?_;rintro _ w2 ⟨b3,rfl,aC,hE,a6⟩
 have a8:b2≠b3:=by have:=e.lt;omega
 have a7:=Q0 f.size aC;have e:=e.bw hE;have f:=btr f hE;refine Zx aA fun a hf _ aD=>?_;refine Ze (Vd O X25 1)<|Ze (X0 O X8 (e.at 1))<|Ze (Vd O X27 3)<|Ze (X0 O X8 (e.at 3))<|Ze (X6r O O)<|Ze (Vd O X24 0)<|Ze (X0 O X8 (e.at 0))<|Ze (Vd O X26 2)<|Ze (X0 O X8 (e.at 2))<|Ze (X3b O O) ?_;refine Ze (Vd O X25 1)<|Ze (X0 O X8 (e.at 1))<|Ze (Vd O X27 3)<|Ze (X0 O X8 (e.at 3))<|Ze (X3b O O)<|Ze (Vd O X26 2)<|Ze (X0 O X8 (e.at 2))<|Ze (Vd O X24 0)<|Ze (X0 O X8 (e.at 0))<|Ze (X6r O O) ?_;refine Ze (X0k (ps:=[(0,vi (wr (x.b-x.d))),(1,vi (wr (x.a+x.c))),(2,vi (wr (x.b+x.d))),(3,vi (wr (x.c-x.a)))]) (cs:=[vi (wr (x.b-x.d)),vi (wr (x.a+x.c)),vi (wr (x.b+x.d)),vi (wr (x.c-x.a))]) O (fun _=>by first|rfl|kernel_rfl))<|Zo (Vw [vi (wr (x.b-x.d)),vi (wr (x.a+x.c)),vi (wr (x.b+x.d)),vi (wr (x.c-x.a))] X4q a6) ?_;rintro _ w3 ⟨ho,hb⟩;have f:=Below.oy f ho a7;have a6:=hb;refine Zt aD fun a hf=>?_
 refine Q6 (X6 hf (Xq hf O (ResV.cellN (l:=[vi (wr (x.b-x.d)),vi (wr (x.a+x.c)),vi (wr (x.b+x.d)),vi (wr (x.c-x.a))]) O X2i (a6.at 0) O)) ?_)
 exact ⟨O,f⟩
theorem Yd2(w0:World)(x:Rg)(y:Rg) : RE 162 [.agg #[vi x.a,vi x.b,vi x.c,vi x.d],.agg #[vi y.a,vi y.b,vi y.c,vi y.d]] w0 (fun v w=>v=rV (rAdd x y)/\Bl w0 w):=by
 refine enter func162 O 26 O O ?_;intro a hf
 have g:=bz w0
 refine ZS hf fun aC=>Zf (X0n (zs:=[vi x.a,vi x.b,vi x.c,vi x.d]) O O) ?_;rintro _ w1 ⟨b2,rfl,aD,i,e⟩;have aH:=Q0 g.size aD;have g:=btr g i;refine Zf (X0n (zs:=[vi y.a,vi y.b,vi y.c,vi y.d]) O O) ?_;rintro _ w2 ⟨b3,rfl,aE,i,f⟩
 have a8:b2≠b3:=by have:=e.lt;omega
 have aI:=Q0 g.size aE;have e:=e.bw i;have g:=btr g i;refine Zf (X0b (zs:=[vi 0,vi 0,vi 0,vi 0]) Xan O) ?_;rintro _ w3 ⟨b4,rfl,aF,i,a6⟩
 have aA:b2≠b4:=by have:=e.lt;omega
 have aB:b3≠b4:=by have:=f.lt;omega
 have a7:=Q0 g.size aF;have e:=e.bw i;have f:=f.bw i;have g:=btr g i;refine Zx aC fun a hf _ aG=>?_;refine Ze (Vd O X24 0)<|Ze (X0 O X8 (e.at 0))<|Ze (Vd O X24 0)<|Ze (X0 O X8 (f.at 0))<|Ze (X3b O O)<|Ze (Vd O X25 1)<|Ze (X0 O X8 (e.at 1))<|Ze (Vd O X25 1)<|Ze (X0 O X8 (f.at 1))<|Ze (X3b O O) ?_;refine Ze (Vd O X26 2)<|Ze (X0 O X8 (e.at 2))<|Ze (Vd O X26 2)<|Ze (X0 O X8 (f.at 2))<|Ze (X3b O O)<|Ze (Vd O X27 3)<|Ze (X0 O X8 (e.at 3))<|Ze (Vd O X27 3)<|Ze (X0 O X8 (f.at 3))<|Ze (X3b O O) ?_;refine Ze (X0k (ps:=[(0,vi (wr (x.a+y.a))),(1,vi (wr (x.b+y.b))),(2,vi (wr (x.c+y.c))),(3,vi (wr (x.d+y.d)))]) (cs:=[vi (wr (x.a+y.a)),vi (wr (x.b+y.b)),vi (wr (x.c+y.c)),vi (wr (x.d+y.d))]) O (fun _=>by first|rfl|kernel_rfl))<|Zo (Vw [vi (wr (x.a+y.a)),vi (wr (x.b+y.b)),vi (wr (x.c+y.c)),vi (wr (x.d+y.d))] X4q a6) ?_;rintro _ w4 ⟨ho,hb⟩;have g:=Below.oy g ho a7;have a6:=hb;refine Zt aG fun a hf=>?_
 refine Q6 (X6 hf (Xq hf O (ResV.cellN (l:=[vi (wr (x.a+y.a)),vi (wr (x.b+y.b)),vi (wr (x.c+y.c)),vi (wr (x.d+y.d))]) O X2i (a6.at 0) O)) ?_)
 exact ⟨O,g⟩
theorem Yd3(w0:World)(x:Rg)(y:Rg) : RE 163 [.agg #[vi x.a,vi x.b,vi x.c,vi x.d],.agg #[vi y.a,vi y.b,vi y.c,vi y.d]] w0 (fun v w=>v=rV (rMul x y)/\Bl w0 w):=by
 refine enter func163 O 98 O O ?_;intro a hf
 have g:=bz w0
 refine ZS hf fun aC=>Zf (X0n (zs:=[vi x.a,vi x.b,vi x.c,vi x.d]) O O) ?_;rintro _ w1 ⟨b2,rfl,aD,i,e⟩;have aH:=Q0 g.size aD;have g:=btr g i;refine Zf (X0n (zs:=[vi y.a,vi y.b,vi y.c,vi y.d]) O O) ?_;rintro _ w2 ⟨b3,rfl,aE,i,f⟩
 have a8:b2≠b3:=by have:=e.lt;omega
 have aI:=Q0 g.size aE;have e:=e.bw i;have g:=btr g i;refine Zf (X0b (zs:=[vi 0,vi 0,vi 0,vi 0]) Xan O) ?_;rintro _ w3 ⟨b4,rfl,aF,i,a6⟩
 have aA:b2≠b4:=by have:=e.lt;omega
 have aB:b3≠b4:=by have:=f.lt;omega
 have a7:=Q0 g.size aF;have e:=e.bw i;have f:=f.bw i;have g:=btr g i;refine Zx aC fun a hf _ aG=>Ze (Vd O X24 0)<|Ze (X0 O X8 (e.at 0))<|Ze (Vd O X24 0)<|Ze (X0 O X8 (f.at 0))<|Ze (X6q O O)<|Ze (Vd O X25 1)<|Ze (X0 O X8 (e.at 1))<|Ze (Vd O X27 3)<|Ze (X0 O X8 (f.at 3))<|Ze (X6q O O)<|Ze (X6r O O)<|Ze (Vd O X26 2)<|Ze (X0 O X8 (e.at 2))<|Ze (Vd O X26 2)<|Ze (X0 O X8 (f.at 2))<|Ze (X6q O O)<|Ze (X6r O O)<|Ze (Vd O X27 3)<|Ze (X0 O X8 (e.at 3))<|Ze (Vd O X25 1)<|Ze (X0 O X8 (f.at 1))<|Ze (X6q O O)<|Ze (X6r O O)<|Ze (Vd O X24 0)<|Ze (X0 O X8 (e.at 0))<|Ze (Vd O X25 1)<|Ze (X0 O X8 (f.at 1))<|Ze (X6q O O)<|Ze (Vd O X25 1)<|Ze (X0 O X8 (e.at 1))<|Ze (Vd O X24 0)<|Ze (X0 O X8 (f.at 0))<|Ze (X6q O O)<|Ze (X3b O O)<|Ze (Vd O X26 2)<|Ze (X0 O X8 (e.at 2))<|Ze (Vd O X27 3)<|Ze (X0 O X8 (f.at 3))<|Ze (X6q O O)<|Ze (X6r O O) ?_;refine Ze (Vd O X27 3)<|Ze (X0 O X8 (e.at 3))<|Ze (Vd O X26 2)<|Ze (X0 O X8 (f.at 2))<|Ze (X6q O O)<|Ze (X6r O O)<|Ze (Vd O X24 0)<|Ze (X0 O X8 (e.at 0))<|Ze (Vd O X26 2)<|Ze (X0 O X8 (f.at 2)) ?_;refine Ze (X6q O O)<|Ze (Vd O X25 1)<|Ze (X0 O X8 (e.at 1))<|Ze (Vd O X25 1)<|Ze (X0 O X8 (f.at 1))<|Ze (X6q O O)<|Ze (X3b O O)<|Ze (Vd O X26 2)<|Ze (X0 O X8 (e.at 2))<|Ze (Vd O X24 0) ?_;refine Ze (X0 O X8 (f.at 0))<|Ze (X6q O O)<|Ze (X3b O O)<|Ze (Vd O X27 3)<|Ze (X0 O X8 (e.at 3))<|Ze (Vd O X27 3)<|Ze (X0 O X8 (f.at 3))<|Ze (X6q O O)<|Ze (X6r O O)<|Ze (Vd O X24 0) ?_
 refine Ze (X0 O X8 (e.at 0))<|Ze (Vd O X27 3)<|Ze (X0 O X8 (f.at 3))<|Ze (X6q O O)<|Ze (Vd O X25 1)<|Ze (X0 O X8 (e.at 1))<|Ze (Vd O X26 2)<|Ze (X0 O X8 (f.at 2))<|Ze (X6q O O)<|Ze (X3b O O) ?_;refine Ze (Vd O X26 2)<|Ze (X0 O X8 (e.at 2))<|Ze (Vd O X25 1)<|Ze (X0 O X8 (f.at 1))<|Ze (X6q O O)<|Ze (X3b O O)<|Ze (Vd O X27 3)<|Ze (X0 O X8 (e.at 3))<|Ze (Vd O X24 0)<|Ze (X0 O X8 (f.at 0)) ?_;refine Ze (X6q O O)<|Ze (X3b O O)<|Ze (X0k (ps:=[(0,vi (wr ((wr ((wr ((wr (x.a*y.a))-(wr (x.b*y.d))))-(wr (x.c*y.c))))-(wr (x.d*y.b))))),(1,vi (wr ((wr ((wr ((wr (x.a*y.b))+(wr (x.b*y.a))))-(wr (x.c*y.d))))-(wr (x.d*y.c))))),(2,vi (wr ((wr ((wr ((wr (x.a*y.c))+(wr (x.b*y.b))))+(wr (x.c*y.a))))-(wr (x.d*y.d))))),(3,vi (wr ((wr ((wr ((wr (x.a*y.d))+(wr (x.b*y.c))))+(wr (x.c*y.b))))+(wr (x.d*y.a)))))]) (cs:=[vi (wr ((wr ((wr ((wr (x.a*y.a))-(wr (x.b*y.d))))-(wr (x.c*y.c))))-(wr (x.d*y.b)))),vi (wr ((wr ((wr ((wr (x.a*y.b))+(wr (x.b*y.a))))-(wr (x.c*y.d))))-(wr (x.d*y.c)))),vi (wr ((wr ((wr ((wr (x.a*y.c))+(wr (x.b*y.b))))+(wr (x.c*y.a))))-(wr (x.d*y.d)))),vi (wr ((wr ((wr ((wr (x.a*y.d))+(wr (x.b*y.c))))+(wr (x.c*y.b))))+(wr (x.d*y.a))))]) O (fun _=>by first|rfl|kernel_rfl))<|Zo (Vw [vi (wr ((wr ((wr ((wr (x.a*y.a))-(wr (x.b*y.d))))-(wr (x.c*y.c))))-(wr (x.d*y.b)))),vi (wr ((wr ((wr ((wr (x.a*y.b))+(wr (x.b*y.a))))-(wr (x.c*y.d))))-(wr (x.d*y.c)))),vi (wr ((wr ((wr ((wr (x.a*y.c))+(wr (x.b*y.b))))+(wr (x.c*y.a))))-(wr (x.d*y.d)))),vi (wr ((wr ((wr ((wr (x.a*y.d))+(wr (x.b*y.c))))+(wr (x.c*y.b))))+(wr (x.d*y.a))))] X4q a6) ?_;rintro _ w4 ⟨ho,hb⟩;have g:=Below.oy g ho a7;have a6:=hb
 clear hb ho;refine Zt aG fun a hf=>?_
 refine Q6 (X6 hf (Xq hf O (ResV.cellN (l:=[vi (wr ((wr ((wr ((wr (x.a*y.a))-(wr (x.b*y.d))))-(wr (x.c*y.c))))-(wr (x.d*y.b)))),vi (wr ((wr ((wr ((wr (x.a*y.b))+(wr (x.b*y.a))))-(wr (x.c*y.d))))-(wr (x.d*y.c)))),vi (wr ((wr ((wr ((wr (x.a*y.c))+(wr (x.b*y.b))))+(wr (x.c*y.a))))-(wr (x.d*y.d)))),vi (wr ((wr ((wr ((wr (x.a*y.d))+(wr (x.b*y.c))))+(wr (x.c*y.b))))+(wr (x.d*y.a))))]) O X2i (a6.at 0) O)) ?_)
 exact ⟨O,g⟩
theorem Yd8(w0:World)(x:Rg) : RE 207 [.agg #[vi x.a,vi x.b,vi x.c,vi x.d]] w0 (fun v w=>v=rV (rNeg x)/\Bl w0 w):=by
 refine enter func207 O 16 O O ?_;intro a hf
 have f:=bz w0
 refine ZS hf fun aA=>Zf (X0n (zs:=[vi x.a,vi x.b,vi x.c,vi x.d]) O O) ?_;rintro _ w1 ⟨b2,rfl,aB,hE,e⟩;have aE:=Q0 f.size aB;have f:=btr f hE;refine Zf (X0b (zs:=[vi 0,vi 0,vi 0,vi 0]) Xan O) ?_;rintro _ w2 ⟨b3,rfl,aC,hE,a6⟩
 have a8:b2≠b3:=by have:=e.lt;omega
 have a7:=Q0 f.size aC;have e:=e.bw hE;have f:=btr f hE;refine Zx aA fun a hf _ aD=>?_;refine Ze (Vd O X24 0)<|Ze (X0 O X8 (e.at 0))<|Ze (Xn4 O)<|Ze (Vd O X25 1)<|Ze (X0 O X8 (e.at 1))<|Ze (Xn4 O)<|Ze (Vd O X26 2)<|Ze (X0 O X8 (e.at 2))<|Ze (Xn4 O)<|Ze (Vd O X27 3) ?_;refine Ze (X0 O X8 (e.at 3))<|Ze (Xn4 O)<|Ze (X0k (ps:=[(0,vi (wr (-x.a))),(1,vi (wr (-x.b))),(2,vi (wr (-x.c))),(3,vi (wr (-x.d)))]) (cs:=[vi (wr (-x.a)),vi (wr (-x.b)),vi (wr (-x.c)),vi (wr (-x.d))]) O (fun _=>by first|rfl|kernel_rfl))<|Zo (Vw [vi (wr (-x.a)),vi (wr (-x.b)),vi (wr (-x.c)),vi (wr (-x.d))] X4q a6) ?_;rintro _ w3 ⟨ho,hb⟩;have f:=Below.oy f ho a7;have a6:=hb;refine Zt aD fun a hf=>?_
 refine Q6 (X6 hf (Xq hf O (ResV.cellN (l:=[vi (wr (-x.a)),vi (wr (-x.b)),vi (wr (-x.c)),vi (wr (-x.d))]) O X2i (a6.at 0) O)) ?_)
 exact ⟨O,f⟩
def Yd6(w0:World)(x:Rg):RE 190 [.agg #[vi x.a,vi x.b,vi x.c,vi x.d]] w0 (fun v w=>v=.bool (rEven x)/\Bl w0 w):=by
 refine enter func190 O 19 O O ?_;intro a f
 have hW:=bz w0
 refine ZS f fun a6=>Zf (X0n (zs:=[vi x.a,vi x.b,vi x.c,vi x.d]) O O) ?_;rintro _ w1 ⟨b2,rfl,a7,hE,g⟩;have aA:=Q0 hW.size a7;have hW:=btr hW hE;refine Za O<|ZX a6 fun a f _ a8=>X0i (fun a w=>Fr a 19 [(2,.bool ((((wr (x.a+x.c)).tmod 2)==0)&&(((wr (x.b+x.d)).tmod 2)==0)))]/\w1=w) ?_ ?_
 ·refine Zr f<|Ze (Vd O X24 0)<|Ze (X0 O X8 (g.at 0))<|Ze (Vd O X26 2)<|Ze (X0 O X8 (g.at 2))<|Ze (X3b O O)<|Ze (X46 O O O)<|Ze (X0l O O)<|Zm O<|Zg 10 O ?_ ?_<;>intro e
  ·refine Zv (gW e) (Vd O X25 1) ?_;refine Zv (gW e) (X0 O X8 (g.at 1)) ?_;refine Zv (gW e) (Vd O X27 3) ?_;refine Zv (gW e) (X0 O X8 (g.at 3)) ?_;refine Zv (gW e) (X3b O O) ?_;refine Zv (gW e) (X46 O O O) ?_;refine Zv (gW e) (X0l O O) ?_;refine Ze (Xc O e O)<|Za O ?_;exact Zn fun a f=>⟨f.sub ⟨X1 O (by first|rfl|(simp only[e,bs];done)|simp[e]),trivial⟩,O⟩
  (iterate 7 refine Zp (gP e) ?_);exact Ze (Xi O e O)<|Za O<|Zn fun a f=>⟨f.sub ⟨X1 O (by simp[e]),trivial⟩,O⟩
 rintro a _ ⟨f,rfl⟩;refine a8 _ _<|Q6 (X6 f (Xq f O O) ?_)
 exact ⟨O,hW⟩
theorem Yd7(w0:World)(x:Rg) : RE 191 [.agg #[vi x.a,vi x.b,vi x.c,vi x.d]] w0 (fun v w=>v=rV (rHalf x)/\Bl w0 w):=by
 refine enter func191 O 19 O O ?_;intro a hf
 have g:=bz w0
 refine ZS hf fun aB=>Zf (X0n (zs:=[vi x.a,vi x.b,vi x.c,vi x.d]) O O) ?_;rintro _ w1 ⟨b2,rfl,aC,i,f⟩;have aH:=Q0 g.size aC;have g:=btr g i;refine Zf (X0b (zs:=[vi 0,vi 0,vi 0,vi 0]) Xan O) ?_;rintro _ w2 ⟨b3,rfl,aD,i,e⟩
 have a7:b2≠b3:=by have:=f.lt;omega
 have a6:=Q0 g.size aD;have f:=f.bw i;have g:=btr g i;refine Zx aB fun a hf _ aE=>Ze (Vn X2i f)<|Zf (Vc (Y27 _ x) Xih) ?_;rintro _ w3 ⟨rfl,i⟩;have f:=f.bw i;have e:=e.bw i;have g:=btr g i;refine ZB [vi ((rRoot x).a),vi ((rRoot x).b),vi ((rRoot x).c),vi ((rRoot x).d)] Xan X4q fun b5 w5 aF i j=>?_
 have a8:b2≠b5:=by have:=f.lt;omega
 have aA:b3≠b5:=by have:=e.lt;omega
 have aI:=Q0 g.size aF;have e:=e.bw i;have g:=btr g i;refine Zx aE fun a hf _ aG=>?_;refine Ze (Vd O X24 0)<|Ze (X0 O X8 (j.at 0))<|Ze (Xoo O O O)<|Ze (Vd O X25 1)<|Ze (X0 O X8 (j.at 1))<|Ze (Xoo O O O)<|Ze (Vd O X26 2)<|Ze (X0 O X8 (j.at 2))<|Ze (Xoo O O O)<|Ze (Vd O X27 3) ?_;refine Ze (X0 O X8 (j.at 3))<|Ze (Xoo O O O)<|Ze (X0k (ps:=[(0,vi (wr (((rRoot x).a).tdiv 2))),(1,vi (wr (((rRoot x).b).tdiv 2))),(2,vi (wr (((rRoot x).c).tdiv 2))),(3,vi (wr (((rRoot x).d).tdiv 2)))]) (cs:=[vi (wr (((rRoot x).a).tdiv 2)),vi (wr (((rRoot x).b).tdiv 2)),vi (wr (((rRoot x).c).tdiv 2)),vi (wr (((rRoot x).d).tdiv 2))]) O (fun _=>by first|rfl|kernel_rfl))<|Zo (Vw [vi (wr (((rRoot x).a).tdiv 2)),vi (wr (((rRoot x).b).tdiv 2)),vi (wr (((rRoot x).c).tdiv 2)),vi (wr (((rRoot x).d).tdiv 2))] X4q e) ?_;rintro _ w6 ⟨ho,hb⟩;have g:=Below.oy g ho a6;have e:=hb;refine Zt aG fun a hf=>?_
 refine Q6 (X6 hf (Xq hf O (ResV.cellN (l:=[vi (wr (((rRoot x).a).tdiv 2)),vi (wr (((rRoot x).b).tdiv 2)),vi (wr (((rRoot x).c).tdiv 2)),vi (wr (((rRoot x).d).tdiv 2))]) O X2i (e.at 0) O)) ?_)
 exact ⟨O,g⟩
theorem Xg4(w0:World)(k:Int) : RE 96 [vi k] w0 (fun v w=>v=dV (dPow k)/\Bl w0 w):=by
 refine enter func96 O 7 O O ?_;intro a hf
 have f:=bz w0
 refine ZS hf fun a7=>?_;refine Zf (X0b (zs:=[vi 0,vi 0,vi 0,vi 0,vi 0]) X5m O) ?_;rintro _ w1 ⟨b2,rfl,a8,hE,e⟩;have a6:=Q0 f.size a8;have f:=btr f hE;refine Zx a7 fun a hf _ aA=>?_;refine Ze (X0k (ps:=[(0,vi 1)]) (cs:=[vi 1,vi 0,vi 0,vi 0]) O (fun _=>by first|rfl|kernel_rfl))<|Zm O<|Zf (Vc (Y76 _ (⟨1,0,0,0⟩ : Rg) k) Xq2) ?_;rintro _ w2 ⟨rfl,hE⟩;have e:=e.bw hE;have f:=btr f hE;refine Ze (X0k (ps:=[(0,.agg #[vi ((rTurn (⟨1,0,0,0⟩ : Rg) k).a),vi ((rTurn (⟨1,0,0,0⟩ : Rg) k).b),vi ((rTurn (⟨1,0,0,0⟩ : Rg) k).c),vi ((rTurn (⟨1,0,0,0⟩ : Rg) k).d)])]) (cs:=[vi ((rTurn (⟨1,0,0,0⟩ : Rg) k).a),vi ((rTurn (⟨1,0,0,0⟩ : Rg) k).b),vi ((rTurn (⟨1,0,0,0⟩ : Rg) k).c),vi ((rTurn (⟨1,0,0,0⟩ : Rg) k).d),vi 0]) O (fun _=>by first|rfl|kernel_rfl))<|Zo (Vw [vi ((rTurn (⟨1,0,0,0⟩ : Rg) k).a),vi ((rTurn (⟨1,0,0,0⟩ : Rg) k).b),vi ((rTurn (⟨1,0,0,0⟩ : Rg) k).c),vi ((rTurn (⟨1,0,0,0⟩ : Rg) k).d),vi 0] X1m e) ?_;rintro _ w3 ⟨ho,hb⟩;have f:=Below.oy f ho a6;have e:=hb;refine Zt aA fun a hf=>?_
 refine Q6 (X6 hf (Xq hf O (ResV.cellN (l:=[vi ((rTurn (⟨1,0,0,0⟩ : Rg) k).a),vi ((rTurn (⟨1,0,0,0⟩ : Rg) k).b),vi ((rTurn (⟨1,0,0,0⟩ : Rg) k).c),vi ((rTurn (⟨1,0,0,0⟩ : Rg) k).d),vi 0]) O X0v (e.at 0) O)) ?_)
 exact ⟨O,f⟩
theorem Yd4(w0:World)(x:Dy) : RE 192 [.agg #[vi x.num.a,vi x.num.b,vi x.num.c,vi x.num.d,vi x.exp]] w0 (fun v w=>v=dV (dNeg x)/\Bl w0 w):=by
 refine enter func192 O 9 O O ?_;intro a hf
 have g:=bz w0
 refine ZS hf fun a8=>Zf (X0n (zs:=[vi x.num.a,vi x.num.b,vi x.num.c,vi x.num.d,vi x.exp]) O O) ?_;rintro _ w1 ⟨b2,rfl,aA,i,e⟩;have aD:=Q0 g.size aA;have g:=btr g i;refine Zf (X0b (zs:=[vi 0,vi 0,vi 0,vi 0,vi 0]) X5m O) ?_;rintro _ w2 ⟨b3,rfl,aB,i,f⟩
 have a7:b2≠b3:=by have:=e.lt;omega
 have a6:=Q0 g.size aB;have e:=e.bw i;have g:=btr g i;refine ZX a8 fun a hf _ aC=>?_;refine Xy none (fun j=>[6].contains j) mixed ?_;intro w3 i;have e:=e.bw i;have f:=f.bw i;have g:=btr g i;refine Yb hf<|Yo 0 O (fun _=>Vd O X3x 0)<|Ye 1 O (X07 (l:=[vi x.num.a,vi x.num.b,vi x.num.c,vi x.num.d]) O X2i ((e.at 0).take 4) O)<|Yo 3 O (fun _=>Vd O X38 4)<|Ye 4 O (X0 O X8 (e.at 4))<|Y1 2 ?_;refine Yk O tv0 (Vc (Yd8 _ x.num) Y4d) (fun _ _ ⟨_,i⟩=>i) ?_;rintro _ w4 ⟨rfl,i⟩;have f:=f.bw i;have g:=btr g i;refine Yo 5 O (fun _=>X0k (ps:=[(0,.agg #[vi ((rNeg x.num).a),vi ((rNeg x.num).b),vi ((rNeg x.num).c),vi ((rNeg x.num).d)]),(1,vi x.exp)]) (cs:=[vi ((rNeg x.num).a),vi ((rNeg x.num).b),vi ((rNeg x.num).c),vi ((rNeg x.num).d),vi x.exp]) O (fun _=>by first|rfl|kernel_rfl))<|Y1 6 ?_;refine Yh O tv0 O (Vw [vi ((rNeg x.num).a),vi ((rNeg x.num).b),vi ((rNeg x.num).c),vi ((rNeg x.num).d),vi x.exp] X1m f) ?_;rintro _ w5 ⟨ho,hb⟩;have g:=Below.oy g ho a6;have f:=hb;refine Yd fun a hf=>?_;refine aC _ _ ?_
 refine Q6 (X6 hf (Xq hf O (ResV.cellN (l:=[vi ((rNeg x.num).a),vi ((rNeg x.num).b),vi ((rNeg x.num).c),vi ((rNeg x.num).d),vi x.exp]) O X0v (f.at 0) O)) ?_)
 exact ⟨O,g⟩
def F59(w0:World)(b:Bool):RE 83 [.bool b] w0 (fun v w=>v=vi (if b=true then 1 else 0)/\w0=w):=by
 refine enter func83 O 4 O O ?_;intro a c;have hW:=bz w0;refine ZS c fun a6=>Za O<|ZX a6 fun a c _ a7=>ZS c fun a8=>Zm O<|Zt a8 fun a c=>Xx c O ?_ ?_<;>intro aA
 ·exact ZS c fun aB=>Za O<|Zt aB fun a c=>Q6<|X9<|X6 c (Xq c O O)<|⟨by simp[*],rfl⟩
 refine Q7<|a7 _ _<|ZS c fun aC=>Za O<|Zt aC fun a c=>Q6 (X6 c (Xq c O O) ?_);exact ⟨by simp[*],rfl⟩
theorem Y7e(w0:World)(x:Rg)(m:Int)(hm:m<=1000):RE 161 [.agg #[vi x.a,vi x.b,vi x.c,vi x.d],vi m] w0 (fun v w=>v=dV (dLow x m)/\Bl w0 w):=by
 refine enter func161 O 18 O O ?_;intro a i;have k:=bz w0;refine ZS i fun aB=>Zf (X0n (zs:=[vi x.a,vi x.b,vi x.c,vi x.d]) O O) ?_;rintro _ w1 ⟨b2,rfl,aC,n,e⟩;have a6:=Q0 k.size aC;have k:=btr k n;refine Zf (X0b (zs:=[vi 0,vi 0,vi 0,vi 0,vi 0]) X5m O) ?_;rintro _ w2 ⟨b3,rfl,aD,n,f⟩;have a7:=Q0 k.size aD;have e:=e.bw n;have k:=btr k n;refine ZX aB fun a i _ aE=>Q8<|X04 (σ:=Rg×Int) (fun (s:Rg×Int) (a:Act) (w:World)=>match s with|(y,j)=>Fr a 18 [(1,vi j),(2,(pZ9 b2)),(4,(pZ9 b3))]/\(dLow y j=dLow x m)/\(j<=1000)/\Blk w b2 135 [vi y.a,vi y.b,vi y.c,vi y.d]/\Blk w b3 137 [vi 0,vi 0,vi 0,vi 0,vi 0]/\Bl w0 w) (fun (s:Rg×Int)=>match s with|(y,j)=>j.toNat) (x,m) ?_ ?_
 ·exact ⟨i.sb,O,hm,e,f,k⟩
 intro ⟨y,j⟩ a w3 ⟨i,q,aK,e,f,k⟩;refine Q5 fun _ aF=>Q5 fun _ aG=>X0i (fun a w=>Fr a 18 [(1,vi j),(2,(pZ9 b2)),(4,(pZ9 b3)),(10,.bool ((decide (0<j))&&(rEven y)))]/\Bl w3 w) ?_ ?_
 ·have p:Bl w3 w3:=Below.refl _ _;refine Zr i<|Zm O<|Ze (X52 O O)<|Zm O<|Zg 7 O ?_ ?_<;>intro g
  ·refine Zv (gW g) (Vn X2i e) ?_;refine Zk (gW g) (Vc (Yd6 _ y) Y4b) ?_;rintro _ w4 ⟨rfl,n⟩;have k:=btr k n;have p:=btr p n;exact Ze (Xc O g O)<|Zn fun a i=>⟨i.sub ⟨O,O,O,X1 O (by simp[g]),trivial⟩,p⟩
  (iterate 2 refine Zp (gP g) ?_);exact Ze (Xi O g O)<|Zn fun a i=>⟨i.sub ⟨O,O,O,X1 O (by simp[g]),trivial⟩,p⟩
 intro a w5 ⟨i,n⟩;have ⟨e,f,k⟩:=mv3 n e f k;refine aG _ _<|Xx i O ?_ ?_<;>intro o
 ·have a8:=o;have aL:0<j:=by revert o;simp;omega
  have aH:rEven y=true:=by revert o;cases rEven y<;>simp
  refine Q7<|aF _ _<|Q8<|ZS i fun aI=>Ze (Vn X2i e)<|Zf (Vc (Yd7 _ y) Y4c) ?_;rintro _ w6 ⟨rfl,n⟩;have ⟨e,f,k⟩:=mv3 n e f k;refine Zo (Vw [vi ((rHalf y).a),vi ((rHalf y).b),vi ((rHalf y).c),vi ((rHalf y).d)] X4q e) ?_;intro _ w7 ⟨ho,hb⟩;have f:=f.oz ho e O;have k:=Below.oy k ho a6;have e:=hb;exact Zt aI fun a i=>Zr i<|Zm O<|Ze (X1j O O Z Z)<|Za O<|Zn fun a i=>Xd<|Xh<|⟨(rHalf y,j-1),⟨i.sb,(by rw[<- q];exact (X7e Z aH).symm),Z,e,f,k⟩,O1⟩
 have a8:=o;have aJ:dLow y j=⟨y,j⟩:=X3r (by intro h0;revert o;simp[h0]);refine Q9<|Xk<|Xk<|X06<|aE _ _<|ZS i fun aA=>Ze (Vn X2i e)<|Zm O<|Ze (X0k (ps:=[(0,.agg #[vi y.a,vi y.b,vi y.c,vi y.d]),(1,vi j)]) (cs:=[vi y.a,vi y.b,vi y.c,vi y.d,vi j]) O (fun _=>by first|rfl|kernel_rfl))<|Zo (Vw [vi y.a,vi y.b,vi y.c,vi y.d,vi j] X1m f) ?_;intro _ w8 ⟨ho,hb⟩;have k:=Below.oy k ho a7;have f:=hb;refine Zt aA fun a i=>Q6 (X6 i (Xq i O (ResV.cellN (l:=[vi y.a,vi y.b,vi y.c,vi y.d,vi j]) O X0v (f.at 0) O)) ?_);refine ⟨?_,k⟩;rw[<- q,aJ]
theorem Y6v(w0:World)(n:Int)(x:Gt):RE 72 [vi n,.agg #[vi x.k,vi x.a,vi x.b]] w0 (fun v w=>v=.bool (gOk n x)/\Bl w0 w):=by
 refine enter func72 O 60 O O ?_;intro a e;have hW:=bz w0;refine ZS e fun aC=>Zf (X0n (zs:=[vi x.k,vi x.a,vi x.b]) O O) ?_;rintro _ w1 ⟨b2,rfl,aD,hE,o⟩;have aJ:=Q0 hW.size aD;have hW:=btr hW hE;refine Za O<|ZX aC fun a e _ aE=>Q8<|Q5 fun _ aF=>X0i (fun a w=>Fr a 60 [(0,vi n),(3,(pZ9 b2)),(5,.bool ((!(inR n 1 5))||(!(inR x.k 1 12))))]/\w1=w) ?_ ?_
 ·refine Zr e<|Zm O<|Zf (Vc (F91 _ n 1 5) X55) ?_;rintro _ _ ⟨rfl,rfl⟩;refine Ze (X1i O)<|Zm O<|Zg 9 O ?_ ?_<;>intro m
  ·(iterate 4 refine Zp (gP m) ?_);exact Ze (Xc O m O)<|Za O<|Zn fun a e=>⟨e.sub ⟨O,O,X1 O (by simp[m]),trivial⟩,O⟩
  refine Zv (gW m) (Vd O X1e 0) ?_;refine Zv (gW m) (X0 O X8 (o.at 0)) ?_;refine Zk (gW m) (Vc (F91 _ x.k 1 12) X55) ?_;rintro _ _ ⟨rfl,rfl⟩;refine Zv (gW m) (X1i O)<|Ze (Xi O m O)<|Za O<|Zn fun a e=>?_;exact ⟨e.sub ⟨O,O,X1 O (by simp[m]),trivial⟩,O⟩
 rintro a _ ⟨e,rfl⟩;refine aF _ _<|Xx e O ?_ ?_<;>intro j
 ·have hn:=Xnp j;exact ZS e fun aG=>Za O<|Zt aG fun a e=>Q6<|Xu<|X9<|X6 e (Xq e O O)<|⟨by rw[gOk,hn];rfl,hW⟩
 have hy:=Xs3 j;have aH:=(Qd _ _▸hy:inR n 1 5=true/\inR x.k 1 12=true);have aK:=X11.1 aH.1;refine ZS e fun aI=>Ze (Vd O X1e 0)<|Ze (X0 O X8 (o.at 0))<|Ze (X0l O O)<|Za O<|Zt aI fun a e=>Xx e O ?_ ?_<;>intro l
 ·have hk:x.k=12:=by simpa using l
  refine Q5 fun _ a7=>X0i (fun a w=>Fr a 60 [(4,.bool ((x.a==0)&&(x.b==0)))]/\w1=w) ?_ ?_
  ·refine Zr e<|Ze (Vd O X0j 1)<|Ze (X0 O X8 (o.at 1))<|Ze (X0l O O)<|Zm O<|Zg 22 O ?_ ?_<;>intro f
   ·refine Zv (gW f) (Vd O X1g 2) ?_;refine Zv (gW f) (X0 O X8 (o.at 2)) ?_;refine Zv (gW f) (X0l O O)<|Ze (Xc O f O)<|Za O<|Zn fun a e=>?_;exact ⟨e.sub ⟨X1 O (by simp[j,l,f]),trivial⟩,O⟩
   (iterate 3 refine Zp (gP f) ?_);exact Ze (Xi O f O)<|Za O<|Zn fun a e=>⟨e.sub ⟨X1 O (by simp[j,l,f]),trivial⟩,O⟩
  rintro a _ ⟨e,rfl⟩;exact a7 _ _<|Q6<|Xu<|X9<|X6 e (Xq e O O)<|⟨by rw[gOk,hy,Q4 hk,Qw],hW⟩
 have hk:¬ x.k=12:=by simpa using l
 refine ZS e fun a8=>Ze (Vd O X1e 0)<|Ze (X0 O X8 (o.at 0))<|Zf (Vc (F99 _ x.k) Y9z) ?_;rintro _ _ ⟨rfl,rfl⟩;refine Za O<|Zt a8 fun a e=>Xx e O ?_ ?_<;>intro g
 ·have a6:=g;refine Q5 fun _ aA=>X0i (fun a w=>Fr a 60 [(4,.bool (((inR x.a 0 (n-1))&&(inR x.b 0 (n-1)))&&(x.a != x.b)))]/\w1=w) ?_ ?_
  ·refine Zr e<|Ze (Vd O X0j 1)<|Ze (X0 O X8 (o.at 1))<|Zm O<|Ze (X1j O O Z Z)<|Zf (Vc (F91 _ x.a 0 (n-1)) X55) ?_;rintro _ _ ⟨rfl,rfl⟩;refine Zm O<|Zg 36 O ?_ ?_<;>intro c
   ·refine Zv (gW c) (Vd O X1g 2) ?_;refine Zv (gW c) (X0 O X8 (o.at 2)) ?_;refine Zv (gW c) (X5 O) ?_;refine Zv (gW c) (X1j O O Z Z) ?_;refine Zk (gW c) (Vc (F91 _ x.b 0 (n-1)) X55) ?_;rintro _ _ ⟨rfl,rfl⟩;refine Ze (Xc O c O)<|Zm O<|Zg 43 O ?_ ?_<;>intro d
    ·refine Zv (gW d) (Vd O X0j 1) ?_;refine Zv (gW d) (X0 O X8 (o.at 1)) ?_;refine Zv (gW d) (Vd O X1g 2) ?_;refine Zv (gW d) (X0 O X8 (o.at 2)) ?_;refine Zv (gW d) (X28 O O) ?_;refine Ze (Xc O d O)<|Za O<|Zn fun a e=>?_;exact ⟨e.sub ⟨X1 O (by simp[j,l,g,c,d]),trivial⟩,O⟩
    (iterate 5 refine Zp (gP d) ?_);exact Ze (Xi O d O)<|Za O<|Zn fun a e=>⟨e.sub ⟨X1 O (by simp[j,l,g,c,d]),trivial⟩,O⟩
   (iterate 5 refine Zp (gP c) ?_);refine Ze (Xi O c O)<|Zm O<|Zp (gP O) ?_;(iterate 4 refine Zp (gP O) ?_);exact Ze (Xi O O O)<|Za O<|Zn fun a e=>⟨e.sub ⟨X1 O (by simp[j,l,g,c]),trivial⟩,O⟩
  rintro a _ ⟨e,rfl⟩;exact aA _ _<|Q6<|Xu<|X9<|X6 e (Xq e O O)<|⟨by rw[gOk,hy,Q3 hk,Q4 a6,Qw],hW⟩
 have a6:¬ inR x.k 9 11=true:=by rw[g];simp
 refine Q7<|Xd<|aE _ _<|Q5 fun _ aB=>X0i (fun a w=>Fr a 60 [(4,.bool ((inR x.a 0 (n-1))&&(x.b==0)))]/\w1=w) ?_ ?_
 ·refine Zr e<|Ze (Vd O X0j 1)<|Ze (X0 O X8 (o.at 1))<|Zm O<|Ze (X1j O O Z Z)<|Zf (Vc (F91 _ x.a 0 (n-1)) X55) ?_;rintro _ _ ⟨rfl,rfl⟩;refine Zm O<|Zg 55 O ?_ ?_<;>intro i
  ·refine Zv (gW i) (Vd O X1g 2) ?_;refine Zv (gW i) (X0 O X8 (o.at 2)) ?_;refine Zv (gW i) (X0l O O)<|Ze (Xc O i O)<|Za O<|Zn fun a e=>?_;exact ⟨e.sub ⟨X1 O (by simp[j,l,g,i]),trivial⟩,O⟩
  (iterate 3 refine Zp (gP i) ?_);exact Ze (Xi O i O)<|Za O<|Zn fun a e=>⟨e.sub ⟨X1 O (by simp[j,l,g,i]),trivial⟩,O⟩
 rintro a _ ⟨e,rfl⟩;refine aB _ _<|Q6 (X6 e (Xq e O O) ?_);exact ⟨by rw[gOk,hy,Q3 hk,Q3 a6,Qw],hW⟩
def Ycn(e:World)(Al:Option Addr)(cl:Nat)(l:List Gt)(aA:Rw e 45 encG Al l)(kq:FuncId)(pq:List Value)(Fq:FF kq)(q:Gt->Bool)(hq:∀ x w,Bl e w->RE kq ([gV x]++pq) w (fun v w'=>v=.bool (q x)/\Bl w w'))(aP:l.length<=2305843009213693951):RE 105 [.slice Al l.length cl,.func (.func kq) #[] pq.toArray] e (fun v w=>∃ i:Int,v=vi i/\decide (0<=i)=l.any q/\Bl e w):=by
 refine enter func105 O 19 O O ?_;intro a c;have g:=bz e;refine ZS c fun aG=>Za O<|ZX aG fun a c _ aH=>ZS c fun aI=>Zm O<|Ze (X0w O X0u)<|Zm O<|Zt aI fun a c=>Q8<|X04 (σ:=Nat) (fun (k:Nat) (a:Act) (w:World)=>Fr a 19 [(0,.slice Al l.length cl),(1,.func (.func kq) #[] pq.toArray),(7,vi (l.length:Int)),(8,vi (k:Int))]/\(k<=l.length)/\((l.take k).all (fun x=>!q x)=true)/\Bl e w) (fun (k:Nat)=>l.length+1-k) 0 ?_ ?_
 ·exact ⟨c.sb,(Qf _),O4,g⟩
 intro k a w1 ⟨c,hk,j,g⟩;refine ZS c fun aJ=>Ze (X16 O O)<|ZX aJ fun a c _ aK=>X0y c O (fun aB aL=>?_) (fun aB aL=>?_)
 ·have ⟨f,a6⟩:=Xa (l:=l) (k:=k) Z;refine Q7<|aK _ _<|Q5 fun _ aM=>Q8<|ZS c fun aC=>Zm O<|Za O<|Zx aC fun a c _ aD=>Zm O<|Zm O<|Zm O<|Zi (k:=k) (u:=f) (enc:=encG) (l:=l) tv0 O O X0u X1n X0q (aA.bx g) a6 O ?_;intro aQ a7;refine Ze (X07 (l:=[vi f.k,vi f.a,vi f.b]) O X12 a7 O)<|Zf (X6o (cs:=pq) (vs:=[.agg #[vi f.k,vi f.a,vi f.b]]) O O Fq (hq f _ g)) ?_;rintro _ w2 ⟨rfl,hE⟩;have g:=btr g hE;refine Zt aD fun a c=>Xx c O ?_ ?_<;>intro d
  ·have a8:l.any q=true:=X6s a6 d;exact ZS c fun aE=>Zm O<|Za O<|Zt aE fun a c=>Q6<|Xu<|X9<|X9<|Xu<|X9<|X6 c (Xq c O O)<|⟨_,O,by rw[a8];simp,g⟩
  have aN:=d;have aO:(!q f)=true:=by revert d;cases q f<;>simp
  exact Q7<|Xd<|aM _ _<|Zr c<|Ze (Xr O O Z Z)<|Zm O<|Zn fun a c=>Xh<|⟨k+1,⟨c.sb,Z,(X5a j a6 aO),g⟩,Z⟩
 refine Q9<|Xk<|Xk<|X06<|aH _ _<|ZS c fun aF=>Za O<|Zt aF fun a c=>Q6 (X6 c (Xq c O O) ?_);have a8:l.any q=false:=X5r (X50 j Z);exact ⟨_,O,by rw[a8];rfl,g⟩
def Ycg(b:World)(Al:Option Addr)(cl:Nat)(l:List Gt)(a6:Rw b 45 encG Al l)(kq:FuncId)(pq:List Value)(Fq:FF kq)(q:Gt->Bool)(hq:∀ x w,Bl b w->RE kq ([gV x]++pq) w (fun v w'=>v=.bool (q x)/\Bl w w'))(a7:l.length<=2305843009213693951):RE 70 [.slice Al l.length cl,.func (.func kq) #[] pq.toArray] b (fun v w=>v=.bool (l.any q)/\Bl b w):=by
 refine enter func70 O 9 O O ?_;intro a hf;have hW:=bz b;refine ZS hf fun a8=>Za O<|Zx a8 fun a hf _ aA=>Zm O<|Zm O<|Zf (Vc (Ycn _ Al cl l (a6.bx hW).top kq pq Fq q (fun x w' hE'=>hq x w' (hW.trans (hE'.mono hW.size))) a7) Y3t) ?_;rintro _ w1 ⟨ix,rfl,aB,hE⟩;have hW:=btr hW hE;refine Ze (X5q O O)<|Za O<|Zt aA fun a hf=>Q6 (X6 hf (Xq hf O O) ?_);exact ⟨by rw[<- aB],hW⟩
def Ych(w0:World)(x:Gt)(n:Int)(ba:Nat)(v1:Value)(c:Blk w0 ba 26 [vi n,v1]):RE 71 [.agg #[vi x.k,vi x.a,vi x.b],(pZ9 ba)] w0 (fun v w=>v=.bool (!gOk n x)/\Bl w0 w):=by
 have a6:=c.lt;refine enter func71 O 9 O O ?_;intro a hf;have hW:=bz w0;refine ZS hf fun a7=>Zf (X0n (zs:=[vi x.k,vi x.a,vi x.b]) O O) ?_;rintro _ w1 ⟨b2,rfl,a8,hE,aA⟩;have aC:=Q0 hW.size a8;have c:=c.bw hE;have hW:=btr hW hE;refine Za O<|Zx a7 fun a hf _ aB=>Ze (Vd O X1z 0)<|Ze (X0 O X8 (c.at 0))<|Ze (Vn X12 aA)<|Zf (Vc (Y6v _ n x) Xpx) ?_;rintro _ w2 ⟨rfl,hE⟩;have hW:=btr hW hE;refine Ze (X1i O)<|Za O<|Zt aB fun a hf=>Q6 (X6 hf (Xq hf O O) ?_);exact ⟨O,hW⟩
def F55(w0:World)(c:Cx)(Ac:Option Addr)(cc:Nat)(a6:Rw w0 45 encG Ac c.gs)(a7:c.gs.length<=2305843009213693951):RE 42 [.agg #[vi c.n,.slice Ac c.gs.length cc]] w0 (fun v w=>v=.bool (cOk c)/\Bl w0 w):=by
 refine enter func42 O 19 O O ?_;intro a e
 have g:=bz w0
 refine ZS e fun a8=>Zf (X0n (zs:=[vi c.n,.slice Ac c.gs.length cc]) O O) ?_;rintro _ w1 ⟨b3,rfl,aA,hE,i⟩;have aC:=Q0 g.size aA;have g:=btr g hE;refine Za O<|ZX a8 fun a e _ aB=>X0i (fun a w=>Fr a 19 [(2,.bool (((inR c.n 1 5)&&(decide ((c.gs.length:Int)<=400)))&&(!(c.gs.any (fun x=>!gOk c.n x)))))]/\Bl w1 w) ?_ ?_
 ·have f:Bl w1 w1:=Below.refl _ _
  refine Zr e<|Ze (Vd O X1z 0)<|Ze (X0 O X8 (i.at 0))<|Zf (Vc (F91 _ c.n 1 5) X55) ?_;rintro _ _ ⟨rfl,rfl⟩;refine Zm O<|Zg 6 O ?_ ?_<;>intro b
  ·refine Zv (gW b) (Vd O X18 1) ?_;refine Zv (gW b) (X0 O X2o (i.at 1)) ?_;refine Zv (gW b) (X0w O X0u) ?_;refine Zv (gW b) (Xef O O) ?_;refine Ze (Xc O b O)<|Zm O<|Zg 12 O ?_ ?_<;>intro d
   ·refine Zv (gW d) (Vd O X18 1) ?_;refine Zv (gW d) (X0 O X2o (i.at 1)) ?_;refine Zv (gW d) (X4w (vs:=[(pZ9 b3)]) O) ?_;refine Zk (gW d) (Vc (Ycg _ Ac cc c.gs (a6.bx g).top 71 [(pZ9 b3)] Y3n (fun x=>!gOk c.n x) (fun x w' hE'=>Ych w' x c.n _ _ (i.bw hE')) a7) Y3m) ?_;rintro _ w2 ⟨rfl,hE⟩;have g:=btr g hE;have f:=btr f hE;refine Zv (gW d) (X1i O) ?_;exact Ze (Xc O d O)<|Za O<|Zn fun a e=>⟨e.sub ⟨X1 O (by first|rfl|(simp only[b,d,bs];done)|simp[b,d]),trivial⟩,f⟩
   (iterate 5 refine Zp (gP d) ?_);exact Ze (Xi O d O)<|Za O<|Zn fun a e=>⟨e.sub ⟨X1 O (by simp[b,d]),trivial⟩,f⟩
  (iterate 4 refine Zp (gP b) ?_);refine Ze (Xi O b O)<|Zm O<|Zp (gP O) ?_;(iterate 4 refine Zp (gP O) ?_);exact Ze (Xi O O O)<|Za O<|Zn fun a e=>⟨e.sub ⟨X1 O (by simp[b]),trivial⟩,f⟩
 rintro a w3 ⟨e,hE⟩;have g:=btr g hE;refine aB _ _<|Q6 (X6 e (Xq e O O) ?_)
 exact ⟨by simp[cOk, *],g⟩
def Xug(w0:World)(bV:Nat)(f:Bool)(e:Blk w0 bV 103 [.bool f])(x:Rg):RE 159 [(pZ9 bV),.agg #[vi x.a,vi x.b,vi x.c,vi x.d]] w0 (fun v w=>v=rV (sRing x)/\Kept bV w0.heap.size w0 w/\Blk w bV 103 [.bool (f||!rOk x)]):=by
 have aH:=e.lt;refine enter func159 O 13 O O ?_;intro a m;have j:Kept bV w0.heap.size w0 w0:=Kept.refl _ _ _;refine ZS m fun a8=>Zf (X0n (zs:=[vi x.a,vi x.b,vi x.c,vi x.d]) O O) ?_;rintro _ w1 ⟨b2,rfl,aA,n,k⟩;have aI:=Q0 j.size aA;have e:=e.bw n;have j:=ktr j n;refine Zf (X0b (zs:=[vi 0,vi 0,vi 0,vi 0]) Xan O) ?_;rintro _ w2 ⟨b3,rfl,aB,n,g⟩;have a7:b2≠b3:=by have:=k.lt;omega
 have p:=Q0 j.size aB;have e:=e.bw n;have k:=k.bw n;have j:=ktr j n;refine ZX a8 fun a m _ aC=>ZS m fun aD=>Ze (Vn X2i k)<|Zf (Vc (Yd5 _ x) Y4a) ?_;rintro _ w3 ⟨rfl,n⟩;have ⟨e,k,g⟩:=mv3 n e k g;have j:=ktr j n;refine Ze (X1i O)<|Zt aD fun a m=>Xx m O ?_ ?_<;>intro o
 ·have a6:=o;have i:rOk x=false:=by revert o;cases rOk x<;>simp
  refine ZS m fun aE=>Zm O<|Ze (X05 O)<|Ze (Vd O X6t 0)<|Zo (X1r (vs:=[.bool true]) (l':=[.bool true]) O O X3q e O O O O O) ?_;intro _ w4 ⟨i,q⟩;have g:=g.oz i e O;have j:=j.self i;have e:=q;clear q i;refine Zx aE fun a m _ aF=>Ze (X0k (ps:=[]) (cs:=[vi 0,vi 0,vi 0,vi 0]) O (fun _=>by first|rfl|kernel_rfl))<|Zo (Vw [vi 0,vi 0,vi 0,vi 0] X4q g) ?_;intro _ w5 ⟨i,q⟩;have e:=e.oz i g O;have j:=Kept.oy j i p;have g:=q;clear q i;exact Zt aF fun a m=>Q6<|X9<|X6 m (Xq m O (ResV.cellN (l:=[vi 0,vi 0,vi 0,vi 0]) O X2i (g.at 0) O))<|⟨by simp[sRing,i],j,by simpa[i] using e⟩
 have a6:=o;have i:rOk x=true:=by revert o;cases rOk x<;>simp
 refine Q7<|aC _ _<|ZS m fun aG=>Ze (Vn X2i k)<|Zo (Vw [vi x.a,vi x.b,vi x.c,vi x.d] X4q g) ?_;intro _ w6 ⟨i,q⟩;have e:=e.oz i g O;have j:=Kept.oy j i p;have g:=q;clear q i;refine Zt aG fun a m=>Q6 (X6 m (Xq m O (ResV.cellN (l:=[vi x.a,vi x.b,vi x.c,vi x.d]) O X2i (g.at 0) O)) ?_);exact ⟨by simp[sRing,i],j,by simpa[i] using e⟩
theorem YA{P:Program}{ops:Array Oper}{V:Option Vk}{tl:Nat->Bool}{Q:Act->World->Prop}{fuel:Nat}{done:List Nat}{n d:Nat}{e:Env}{w:World}{ty:TypeId}{pos:String}{af:Array Edge}{v:Value}{x:Operand}(i:Nat)(hi:ops[i]? = some ⟨some d,.move x,ty,pos,af,none⟩)(hx:ev e x=some v)(h:WS P ops V tl Q fuel (i::done) n ((d,v)::e) w)(hm:mayFirst ops done i=true:=by kernel_rfl)(hn:Nat.blt d n=true:=by rfl):WS P ops V tl Q (fuel+1) done n e w:=Yo i hi (fun _=>X5 hx) h hm hn
def Ycy(w0:World)(bV:Nat)(f:Bool)(e:Blk w0 bV 103 [.bool f])(x:Dy)(y:Dy)(hx:0<=x.exp/\x.exp<=60)(hy:0<=y.exp/\y.exp<=60):RE 126 [(pZ9 bV),.agg #[vi x.num.a,vi x.num.b,vi x.num.c,vi x.num.d,vi x.exp],.agg #[vi y.num.a,vi y.num.b,vi y.num.c,vi y.num.d,vi y.exp]] w0 (fun v w=>v=dV ((sMul f x y).2)/\Kept bV w0.heap.size w0 w/\Blk w bV 103 [.bool ((sMul f x y).1)]):=by
 have aM:=e.lt;refine enter func126 O 30 O O ?_;intro a o;have k:Kept bV w0.heap.size w0 w0:=Kept.refl _ _ _;refine ZS o fun aE=>Zf (X0n (zs:=[vi x.num.a,vi x.num.b,vi x.num.c,vi x.num.d,vi x.exp]) O O) ?_;rintro _ w1 ⟨b2,rfl,aF,i,m⟩;have aN:=Q0 k.size aF;have e:=e.bw i;have k:=ktr k i;refine Zf (X0n (zs:=[vi y.num.a,vi y.num.b,vi y.num.c,vi y.num.d,vi y.exp]) O O) ?_;rintro _ w2 ⟨b3,rfl,aG,i,n⟩;have aB:b2≠b3:=by have:=m.lt;omega
 have aO:=Q0 k.size aG;have e:=e.bw i;have m:=m.bw i;have k:=ktr k i;refine Zf (X0b (zs:=[vi 0,vi 0,vi 0,vi 0,vi 0]) X5m O) ?_;rintro _ w3 ⟨b4,rfl,aH,i,g⟩;have aC:b2≠b4:=by have:=m.lt;omega
 have aD:b3≠b4:=by have:=n.lt;omega
 have p:=Q0 k.size aH;have ⟨e,m,n⟩:=mv3 i e m n;have k:=ktr k i;refine ZX aE fun a o _ aI=>ZS o fun aJ=>Ze (Vd O X38 4)<|Ze (X0 O X8 (m.at 4))<|Ze (Vd O X38 4)<|Ze (X0 O X8 (n.at 4))<|Ze (Xr O O Z Z)<|Ze (X52 O O)<|Zt aJ fun a o=>X0y o O (fun a8 a6=>?_) (fun a8 a6=>?_)
 ·have hm:60<x.exp+y.exp:=a6;refine ZS o fun aK=>Zm O<|Ze (X05 O)<|Ze (Vd O X6t 0)<|Zo (X1r (vs:=[.bool true]) (l':=[.bool true]) O O X3q e O O O O O) ?_;intro _ w4 ⟨q,hb⟩;have g:=g.oz q e O;have k:=k.self q;have e:=hb;refine Zx aK fun a o _ aL=>Ze (X0k (ps:=[]) (cs:=[vi 0,vi 0,vi 0,vi 0,vi 0]) O (fun _=>by first|rfl|kernel_rfl))<|Zo (Vw [vi 0,vi 0,vi 0,vi 0,vi 0] X1m g) ?_;intro _ w5 ⟨q,hb⟩;have e:=e.oz q g O;have k:=Kept.oy k q p;have g:=hb;exact Zt aL fun a o=>Q6<|X9<|X6 o (Xq o O (ResV.cellN (l:=[vi 0,vi 0,vi 0,vi 0,vi 0]) O X0v (g.at 0) O))<|⟨by rw[sMul,Q4 hm];rfl,k,by rw[sMul,Q4 hm];exact e⟩
 have hm:¬ 60<x.exp+y.exp:=a6;refine Q7<|aI _ _<|Q5 fun _ aA=>Xy (some bV) (fun j=>[13].contains j) mixed ?_;intro w6 i;have ⟨e,m,n,g⟩:=mv4 i e m n g;have k:=ktr k i;refine Yb o<|YA 0 O O<|Yo 1 O (fun _=>Vd O X3x 0)<|Yw 2 O tv0 (fun w1 h1=>X07 (l:=[vi x.num.a,vi x.num.b,vi x.num.c,vi x.num.d]) O X2i (((m.oz h1 e O).at 0).take 4) O)<|Yo 3 O (fun _=>Vd O X3x 0)<|Yw 4 O tv0 (fun w1 h1=>X07 (l:=[vi y.num.a,vi y.num.b,vi y.num.c,vi y.num.d]) O X2i (((n.oz h1 e O).at 0).take 4) O)<|Yo 7 O (fun _=>Vd O X38 4)<|Yw 8 O tv0 (fun w1 h1=>X0 O X8 ((m.oz h1 e O).at 4))<|Yo 9 O (fun _=>Vd O X38 4)<|Yw 10 O tv0 (fun w1 h1=>X0 O X8 ((n.oz h1 e O).at 4)) ?_;refine Yo 11 O (fun _=>Xr O O Z Z)<|Y1 5 ?_;refine Yf O tv0 (EfW.mono (Vc (Yd3 _ x.num y.num) Y48) (fun _ _ h=>⟨fun _=>by obtain ⟨rfl,i⟩:=h;exact Keep.of_below i,h⟩)) ?_;rintro _ w7 ⟨rfl,i⟩;have e:=e.bw i;have g:=g.bw i;have k:=ktr k i;refine Y1 6<|Yf O tv0 (EfW.mono (Vc (Xug _ bV f e (rMul x.num y.num)) Xex) (fun _ _ h=>⟨fun _=>by obtain ⟨rfl,hK,a7⟩:=h;exact hK.keep,h⟩)) ?_;rintro _ w8 ⟨rfl,hK,a7⟩;have ⟨wm,hO,hm,i⟩:=hK.mid;clear hm;have t:=e;have g:=g.oz hO t O;have k:=k.self hO;have g:=g.bw i;have k:=ktr k i;clear t i hO hK;have e:=a7;clear a7;refine Y1 12<|Yf O tv0 (EfW.mono (Vc (Y7e _ (sRing (rMul x.num y.num)) (x.exp+y.exp) Z) Xq4) (fun _ _ h=>⟨fun _=>by obtain ⟨rfl,i⟩:=h;exact Keep.of_below i,h⟩)) ?_;rintro _ w9 ⟨rfl,i⟩;have e:=e.bw i;have g:=g.bw i;have k:=ktr k i;refine Y1 13<|Yh O tv0 O (Vw [vi ((dLow (sRing (rMul x.num y.num)) (x.exp+y.exp)).num.a),vi ((dLow (sRing (rMul x.num y.num)) (x.exp+y.exp)).num.b),vi ((dLow (sRing (rMul x.num y.num)) (x.exp+y.exp)).num.c),vi ((dLow (sRing (rMul x.num y.num)) (x.exp+y.exp)).num.d),vi ((dLow (sRing (rMul x.num y.num)) (x.exp+y.exp)).exp)] X1m g) ?_;intro _ aP ⟨q,hb⟩;have e:=e.oz q g O;have k:=Kept.oy k q p;have g:=hb;refine Yd fun a o=>aA _ _<|Q6 (X6 o (Xq o O (ResV.cellN (l:=[vi ((dLow (sRing (rMul x.num y.num)) (x.exp+y.exp)).num.a),vi ((dLow (sRing (rMul x.num y.num)) (x.exp+y.exp)).num.b),vi ((dLow (sRing (rMul x.num y.num)) (x.exp+y.exp)).num.c),vi ((dLow (sRing (rMul x.num y.num)) (x.exp+y.exp)).num.d),vi ((dLow (sRing (rMul x.num y.num)) (x.exp+y.exp)).exp)]) O X0v (g.at 0) O)) ?_);exact ⟨by rw[sMul,Q3 hm],k,by rw[sMul,Q3 hm];exact e⟩
def Ycx(w0:World)(bV:Nat)(f:Bool)(e:Blk w0 bV 103 [.bool f])(x:Dy)(y:Dy)(hx:0<=x.exp/\x.exp<=60)(hy:0<=y.exp/\y.exp<=60):RE 125 [(pZ9 bV),.agg #[vi x.num.a,vi x.num.b,vi x.num.c,vi x.num.d,vi x.exp],.agg #[vi y.num.a,vi y.num.b,vi y.num.c,vi y.num.d,vi y.exp]] w0 (fun v w=>v=dV ((sAdd f x y).2)/\Kept bV w0.heap.size w0 w/\Blk w bV 103 [.bool ((sAdd f x y).1)]):=by
 have aU:=e.lt;refine enter func125 O 45 O O ?_;intro a u
 have p:Kept bV w0.heap.size w0 w0:=Kept.refl _ _ _
 refine ZS u fun aM=>Zf (X0n (zs:=[vi x.num.a,vi x.num.b,vi x.num.c,vi x.num.d,vi x.exp]) O O) ?_;rintro _ w1 ⟨b2,rfl,aN,n,g⟩;have aA:=Q0 p.size aN;have e:=e.bw n;have p:=ktr p n;refine Zf (X0n (zs:=[vi y.num.a,vi y.num.b,vi y.num.c,vi y.num.d,vi y.exp]) O O) ?_;rintro _ w2 ⟨b3,rfl,aO,n,k⟩
 have aJ:b2≠b3:=by have:=g.lt;omega
 have aB:=Q0 p.size aO;have e:=e.bw n;have g:=g.bw n;have p:=ktr p n;refine Zf (X0b (zs:=[vi 0,vi 0,vi 0,vi 0,vi 0]) X5m O) ?_;rintro _ w3 ⟨b4,rfl,aP,n,i⟩
 have aK:b2≠b4:=by have:=g.lt;omega
 have aL:b3≠b4:=by have:=k.lt;omega
 have aC:=Q0 p.size aP;have ⟨e,g,k⟩:=mv3 n e g k;have p:=ktr p n;refine ZX aM fun a u _ aQ=>Q8<|X04 (σ:=Bool×Dy) (fun (s:Bool×Dy) (a:Act) (w:World)=>match s with|(H,m)=>Fr a 45 [(0,(pZ9 bV)),(4,(pZ9 b2)),(5,(pZ9 b3)),(6,(pZ9 b4))]/\(sRaiseN (y.exp-m.exp).toNat H m=sRaiseN (y.exp-x.exp).toNat f x)/\(0<=m.exp/\m.exp<=60)/\Blk w bV 103 [.bool H]/\Blk w b2 137 [vi m.num.a,vi m.num.b,vi m.num.c,vi m.num.d,vi m.exp]/\Blk w b3 137 [vi y.num.a,vi y.num.b,vi y.num.c,vi y.num.d,vi y.exp]/\Blk w b4 137 [vi 0,vi 0,vi 0,vi 0,vi 0]/\Kept bV w0.heap.size w0 w) (fun (s:Bool×Dy)=>match s with|(H,m)=>(y.exp-m.exp).toNat) (f,x) ?_ ?_
 ·exact ⟨u.sb,O,hx,e,g,k,i,p⟩
 rintro ⟨H,m⟩ a w4 ⟨u,I,aV,e,g,k,i,p⟩;refine Q5 fun _ aR=>ZS u fun aS=>Ze (Vd O X38 4)<|Ze (X0 O X8 (g.at 4))<|Ze (Vd O X38 4)<|Ze (X0 O X8 (k.at 4))<|Ze (X16 O O)<|Zt aS fun a u=>X0y u O (fun aD a6=>?_) (fun aD a6=>?_)
 ·have a7:m.exp<y.exp:=a6
  refine Q7<|aR _ _<|Q8<|Xy (some bV) (fun j=>[9].contains j) mixed ?_;intro w5 n;have ⟨e,g,k,i⟩:=mv4 n e g k i;have p:=ktr p n;refine Yb u<|YA 0 O O<|Yo 1 O (fun _=>Vd O X3x 0)<|Yw 2 O tv0 (fun w1 C=>X07 (l:=[vi m.num.a,vi m.num.b,vi m.num.c,vi m.num.d]) O X2i (((g.oz C e O).at 0).take 4) O)<|Yo 5 O (fun _=>Vd O X38 4)<|Yw 6 O tv0 (fun w1 C=>X0 O X8 ((g.oz C e O).at 4)) ?_;refine Yo 7 O (fun _=>Xr O O Z Z)<|Y1 3 ?_;refine Yf O tv0 (EfW.mono (Vc (Y27 _ m.num) Xih) (fun _ _ h=>⟨fun _=>by obtain ⟨rfl,n⟩:=h;exact Keep.of_below n,h⟩)) ?_;rintro _ w6 ⟨rfl,n⟩;have ⟨e,g,k,i⟩:=mv4 n e g k i;have p:=ktr p n;refine Y1 4<|Yf O tv0 (EfW.mono (Vc (Xug _ bV H e (rRoot m.num)) Xex) (fun _ _ h=>⟨fun _=>by obtain ⟨rfl,B,t⟩:=h;exact B.keep,h⟩)) ?_;rintro _ w7 ⟨rfl,B,t⟩;obtain ⟨wm,A,hm,n⟩:=B.mid;clear hm;have q:=e;have g:=g.oz A q O;have k:=k.oz A q O;have i:=i.oz A q O;have p:=p.self A;have ⟨g,k,i⟩:=mv3 n g k i;have p:=ktr p n
  clear q n A B;have e:=t;clear t;refine Yo 8 O (fun _=>X0k (ps:=[(0,.agg #[vi ((sRing (rRoot m.num)).a),vi ((sRing (rRoot m.num)).b),vi ((sRing (rRoot m.num)).c),vi ((sRing (rRoot m.num)).d)]),(1,vi (m.exp+1))]) (cs:=[vi ((sRing (rRoot m.num)).a),vi ((sRing (rRoot m.num)).b),vi ((sRing (rRoot m.num)).c),vi ((sRing (rRoot m.num)).d),vi (m.exp+1)]) O (fun _=>by first|rfl|kernel_rfl))<|Y1 9<|Yh O tv0 O (Vw [vi ((sRing (rRoot m.num)).a),vi ((sRing (rRoot m.num)).b),vi ((sRing (rRoot m.num)).c),vi ((sRing (rRoot m.num)).d),vi (m.exp+1)] X1m g) ?_;rintro _ w8 ⟨D,hb⟩;have e:=e.oz D g O;have k:=k.oy D Z;have i:=i.oy D Z;have p:=Kept.oy p D aA;have g:=hb;exact Yd fun a u=>Xd<|Xh<|⟨(H||!rOk (rRoot m.num),⟨sRing (rRoot m.num),m.exp+1⟩),⟨u.sb,(Xaj I a7),O7,e,g,k,i,p⟩,O1⟩
 have aE:=Xai I a6;refine Q9<|Xk<|Xk<|X06<|aQ _ _<|Q5 fun _ aT=>Q8<|X04 (σ:=Bool×Dy) (fun (s:Bool×Dy) (a:Act) (w:World)=>match s with|(f2,o)=>Fr a 45 [(0,(pZ9 bV)),(4,(pZ9 b2)),(5,(pZ9 b3)),(6,(pZ9 b4))]/\(sRaiseN (m.exp-o.exp).toNat f2 o=sRaiseN (m.exp-y.exp).toNat H y)/\(0<=o.exp/\o.exp<=60)/\Blk w bV 103 [.bool f2]/\Blk w b2 137 [vi m.num.a,vi m.num.b,vi m.num.c,vi m.num.d,vi m.exp]/\Blk w b3 137 [vi o.num.a,vi o.num.b,vi o.num.c,vi o.num.d,vi o.exp]/\Blk w b4 137 [vi 0,vi 0,vi 0,vi 0,vi 0]/\Kept bV w0.heap.size w0 w) (fun (s:Bool×Dy)=>match s with|(f2,o)=>(m.exp-o.exp).toNat) (H,y) ?_ ?_
 ·exact ⟨u.sb,O,hy,e,g,k,i,p⟩
 rintro ⟨f2,o⟩ a w9 ⟨u,E,aW,e,g,k,i,p⟩;refine Q5 fun _ aF=>ZS u fun aG=>Ze (Vd O X38 4)<|Ze (X0 O X8 (k.at 4))<|Ze (Vd O X38 4)<|Ze (X0 O X8 (g.at 4))<|Ze (X16 O O)<|Zt aG fun a u=>X0y u O (fun a8 G=>?_) (fun a8 G=>?_)
 ·have a7:o.exp<m.exp:=G
  refine Q7<|aF _ _<|Q8<|Xy (some bV) (fun j=>[9].contains j) mixed ?_;intro aX n;have ⟨e,g,k,i⟩:=mv4 n e g k i;have p:=ktr p n;refine Yb u<|YA 0 O O<|Yo 1 O (fun _=>Vd O X3x 0)<|Yw 2 O tv0 (fun w1 C=>X07 (l:=[vi o.num.a,vi o.num.b,vi o.num.c,vi o.num.d]) O X2i (((k.oz C e O).at 0).take 4) O)<|Yo 5 O (fun _=>Vd O X38 4)<|Yw 6 O tv0 (fun w1 C=>X0 O X8 ((k.oz C e O).at 4)) ?_;refine Yo 7 O (fun _=>Xr O O Z Z)<|Y1 3 ?_;refine Yf O tv0 (EfW.mono (Vc (Y27 _ o.num) Xih) (fun _ _ h=>⟨fun _=>by obtain ⟨rfl,n⟩:=h;exact Keep.of_below n,h⟩)) ?_;rintro _ aY ⟨rfl,n⟩;have ⟨e,g,k,i⟩:=mv4 n e g k i;have p:=ktr p n;refine Y1 4<|Yf O tv0 (EfW.mono (Vc (Xug _ bV f2 e (rRoot o.num)) Xex) (fun _ _ h=>⟨fun _=>by obtain ⟨rfl,B,t⟩:=h;exact B.keep,h⟩)) ?_;rintro _ aZ ⟨rfl,B,t⟩;obtain ⟨wm,A,hm,n⟩:=B.mid;clear hm;have q:=e;have g:=g.oz A q O;have k:=k.oz A q O;have i:=i.oz A q O;have p:=p.self A;have ⟨g,k,i⟩:=mv3 n g k i;have p:=ktr p n
  clear q n A B;have e:=t;clear t;refine Yo 8 O (fun _=>X0k (ps:=[(0,.agg #[vi ((sRing (rRoot o.num)).a),vi ((sRing (rRoot o.num)).b),vi ((sRing (rRoot o.num)).c),vi ((sRing (rRoot o.num)).d)]),(1,vi (o.exp+1))]) (cs:=[vi ((sRing (rRoot o.num)).a),vi ((sRing (rRoot o.num)).b),vi ((sRing (rRoot o.num)).c),vi ((sRing (rRoot o.num)).d),vi (o.exp+1)]) O (fun _=>by first|rfl|kernel_rfl))<|Y1 9<|Yh O tv0 O (Vw [vi ((sRing (rRoot o.num)).a),vi ((sRing (rRoot o.num)).b),vi ((sRing (rRoot o.num)).c),vi ((sRing (rRoot o.num)).d),vi (o.exp+1)] X1m k) ?_;rintro _ b0 ⟨D,hb⟩;have e:=e.oz D k O;have g:=g.oy D Z;have i:=i.oy D Z;have p:=Kept.oy p D aB;have k:=hb;exact Yd fun a u=>Xd<|Xh<|⟨(f2||!rOk (rRoot o.num),⟨sRing (rRoot o.num),o.exp+1⟩),⟨u.sb,(Xaj E a7),O7,e,g,k,i,p⟩,O1⟩
 have aH:=Xai E G;refine Q9<|Xk<|Xk<|X06<|aT _ _<|Q5 fun _ aI=>Xy (some bV) (fun j=>[10].contains j) mixed ?_;intro b1 n;have ⟨e,g,k,i⟩:=mv4 n e g k i;have p:=ktr p n;refine Yb u<|YA 0 O O<|Yo 1 O (fun _=>Vd O X3x 0)<|Yw 2 O tv0 (fun w1 C=>X07 (l:=[vi m.num.a,vi m.num.b,vi m.num.c,vi m.num.d]) O X2i (((g.oz C e O).at 0).take 4) O)<|Yo 3 O (fun _=>Vd O X3x 0)<|Yw 4 O tv0 (fun w1 C=>X07 (l:=[vi o.num.a,vi o.num.b,vi o.num.c,vi o.num.d]) O X2i (((k.oz C e O).at 0).take 4) O)<|Yo 7 O (fun _=>Vd O X38 4)<|Yw 8 O tv0 (fun w1 C=>X0 O X8 ((g.oz C e O).at 4)) ?_;refine Y1 5<|Yf O tv0 (EfW.mono (Vc (Yd2 _ m.num o.num) Y47) (fun _ _ h=>⟨fun _=>by obtain ⟨rfl,n⟩:=h;exact Keep.of_below n,h⟩)) ?_;rintro _ b5 ⟨rfl,n⟩;have e:=e.bw n;have i:=i.bw n;have p:=ktr p n;refine Y1 6<|Yf O tv0 (EfW.mono (Vc (Xug _ bV f2 e (rAdd m.num o.num)) Xex) (fun _ _ h=>⟨fun _=>by obtain ⟨rfl,B,t⟩:=h;exact B.keep,h⟩)) ?_;rintro _ b6 ⟨rfl,B,t⟩;obtain ⟨wm,A,hm,n⟩:=B.mid;clear hm;have q:=e;have i:=i.oz A q O;have p:=p.self A;have i:=i.bw n;have p:=ktr p n
 clear q n A B;have e:=t;clear t;refine Y1 9<|Yf O tv0 (EfW.mono (Vc (Y7e _ (sRing (rAdd m.num o.num)) m.exp Z) Xq4) (fun _ _ h=>⟨fun _=>by obtain ⟨rfl,n⟩:=h;exact Keep.of_below n,h⟩)) ?_;rintro _ b7 ⟨rfl,n⟩;have e:=e.bw n;have i:=i.bw n;have p:=ktr p n;refine Y1 10<|Yh O tv0 O (Vw [vi ((dLow (sRing (rAdd m.num o.num)) m.exp).num.a),vi ((dLow (sRing (rAdd m.num o.num)) m.exp).num.b),vi ((dLow (sRing (rAdd m.num o.num)) m.exp).num.c),vi ((dLow (sRing (rAdd m.num o.num)) m.exp).num.d),vi ((dLow (sRing (rAdd m.num o.num)) m.exp).exp)] X1m i) ?_;rintro _ b8 ⟨D,hb⟩;have e:=e.oz D i O;have p:=Kept.oy p D aC;have i:=hb;refine Yd fun a u=>?_;refine aI _ _<|Q6 (X6 u (Xq u O (ResV.cellN (l:=[vi ((dLow (sRing (rAdd m.num o.num)) m.exp).num.a),vi ((dLow (sRing (rAdd m.num o.num)) m.exp).num.b),vi ((dLow (sRing (rAdd m.num o.num)) m.exp).num.c),vi ((dLow (sRing (rAdd m.num o.num)) m.exp).num.d),vi ((dLow (sRing (rAdd m.num o.num)) m.exp).exp)]) O X0v (i.at 0) O)) ?_)
 exact ⟨by rw[sAdd,aE];dsimp only;rw[aH],p,by rw[sAdd,aE];dsimp only;rw[aH];exact e⟩
def Xhw(w0:World)(n:Int)(s:Int)(q:Int)(h0:0<=q)(h1:q<n)(h2:n<=5):RE 164 [vi n,vi s,vi q] w0 (fun v w=>v=vi (bitF n s q)/\w0=w):=by
 refine enter func164 O 15 O O ?_;intro a hf;have hW:=bz w0;refine ZS hf fun a6=>Za O<|Zx a6 fun a hf _ a7=>Zm O<|Zm O<|Ze (X1j O O Z Z)<|Zm O<|Ze (X1j O O Z Z)<|Ze (Xhz (m:=(n-1-q).toNat) underlying3 underlying107 O Z Z)<|Ze (Ydc (m:=(n-1-q).toNat) O O O Z)<|Ze (Ydb O O)<|Za O<|Zt a7 fun a hf=>Q6 (X6 hf (Xq hf O O) ?_);exact ⟨O,O⟩
theorem YD{P:Program}{ops:Array Oper}{V:Option Vk}{tl:Nat->Bool}{Q:Act->World->Prop}{fuel:Nat}{done:List Nat}{n d:Nat}{e:Env}{w:World}{ty:TypeId}{pos:String}{af:Array Edge}{v:Value}{x:Operand}(i:Nat)(hi:ops[i]? = some ⟨some d,.assign x,ty,pos,af,none⟩)(hx:ev e x=some v)(h:WS P ops V tl Q fuel (i::done) n ((d,v)::e) w)(hm:mayFirst ops done i=true:=by kernel_rfl)(hn:Nat.blt d n=true:=by rfl):WS P ops V tl Q (fuel+1) done n e w:=Yo i hi (fun _=>X10 hx) h hm hn
theorem Yd1(w0:World)(k:Int)(hk:1<=k/\k<=8):RE 165 [vi k] w0 (fun v w=>∃ A c,v=.slice A (oneL k).length c/\Own w w0.heap.size 137 5 encD A c (oneL k)/\Bl w0 w):=by
 refine enter func165 O 43 O O ?_;intro a j;have i:=bz w0;refine ZS j fun b9=>Za O<|Zx b9 fun a j _ bC=>Zf (Vc (Xg4 _ 0) X6u) ?_;rintro _ w1 ⟨rfl,g⟩;have i:=btr i g;refine Ze (X0k (ps:=[]) (cs:=[vi 0,vi 0,vi 0,vi 0,vi 0]) O (fun _=>by first|rfl|kernel_rfl))<|Zf (X0b (zs:=[vi 0,vi 0,vi 0,vi 0,vi 0]) X5m O) ?_;rintro _ w2 ⟨b4,rfl,bD,g,e⟩;have aC:=Q0 i.size bD;have i:=btr i g;refine Zf (X0b (zs:=[vi 0,vi 0,vi 0,vi 0,vi 0]) X5m O) ?_;rintro _ w3 ⟨b5,rfl,bE,g,f⟩;have b3:b4≠b5:=by have:=e.lt;omega
 have aD:=Q0 i.size bE;have e:=e.bw g;have i:=btr i g;refine Zo (Vw [vi ((dPow 0).num.a),vi ((dPow 0).num.b),vi ((dPow 0).num.c),vi ((dPow 0).num.d),vi ((dPow 0).exp)] X1m e) ?_;intro _ w4 ⟨ho,hb⟩;have f:=f.oy ho Z;have i:=Below.oy i ho aC;have e:=hb;refine Zo (Vw [vi 0,vi 0,vi 0,vi 0,vi 0] X1m f) ?_;intro _ w5 ⟨ho,hb⟩;have e:=e.oy ho Z;have i:=Below.oy i ho aD;have f:=hb;refine Zx bC fun a j _ bF=>Ze (X0k (ps:=[(0,vi 1)]) (cs:=[vi 1,vi 0,vi 0,vi 0]) O (fun _=>by first|rfl|kernel_rfl))<|Ze (X0k (ps:=[(0,.agg #[vi 1,vi 0,vi 0,vi 0]),(1,vi 1)]) (cs:=[vi 1,vi 0,vi 0,vi 0,vi 1]) O (fun _=>by first|rfl|kernel_rfl))<|ZB [vi 1,vi 0,vi 0,vi 0,vi 1] X5m X1m fun b7 w7 bG g m=>?_;have b6:b4≠b7:=by have:=e.lt;omega
 have b8:b5≠b7:=by have:=f.lt;omega
 have bK:=Q0 i.size bG;have ⟨e,f,i⟩:=mv3 g e f i;refine ZX bF fun a j _ bH=>ZS j fun bI=>Zm O<|Zt bI fun a j=>Q8<|ZS j fun aE=>Ze (X0l O O)<|Za O<|Zt aE fun a j=>Xx j O ?_ ?_<;>intro n
 ·have q:k=1:=by simpa using n
  refine Q5 fun _ aF=>Xy none (fun _=>false) mixed ?_;intro w8 g;have ⟨e,f,m,i⟩:=mv4 g e f m i;refine Yb j<|Ye 0 O (Vn X0v m)<|Ye 1 O (Vn X0v m)<|Ye 2 O (Vn X0v m)<|Ye 3 O (Vn X0v m)<|Y1 4<|Yk O tv0 (Vc (Yd4 _ (⟨(⟨1,0,0,0⟩ : Rg),1⟩ : Dy)) Y49) (fun _ _ ⟨_,g⟩=>g) ?_;rintro _ w9 ⟨rfl,g⟩;have ⟨e,f,m,i⟩:=mv4 g e f m i;refine Y1 5<|Yk O tv0 (Xe (k:=4) (vs:=[.agg #[vi 1,vi 0,vi 0,vi 0,vi 1],.agg #[vi 1,vi 0,vi 0,vi 0,vi 1],.agg #[vi 1,vi 0,vi 0,vi 0,vi 1],.agg #[vi ((dNeg (⟨(⟨1,0,0,0⟩ : Rg),1⟩ : Dy)).num.a),vi ((dNeg (⟨(⟨1,0,0,0⟩ : Rg),1⟩ : Dy)).num.b),vi ((dNeg (⟨(⟨1,0,0,0⟩ : Rg),1⟩ : Dy)).num.c),vi ((dNeg (⟨(⟨1,0,0,0⟩ : Rg),1⟩ : Dy)).num.d),vi ((dNeg (⟨(⟨1,0,0,0⟩ : Rg),1⟩ : Dy)).exp)]]) (zs:=[vi 1,vi 0,vi 0,vi 0,vi 1,vi 1,vi 0,vi 0,vi 0,vi 1,vi 1,vi 0,vi 0,vi 0,vi 1,vi ((dNeg (⟨(⟨1,0,0,0⟩ : Rg),1⟩ : Dy)).num.a),vi ((dNeg (⟨(⟨1,0,0,0⟩ : Rg),1⟩ : Dy)).num.b),vi ((dNeg (⟨(⟨1,0,0,0⟩ : Rg),1⟩ : Dy)).num.c),vi ((dNeg (⟨(⟨1,0,0,0⟩ : Rg),1⟩ : Dy)).num.d),vi ((dNeg (⟨(⟨1,0,0,0⟩ : Rg),1⟩ : Dy)).exp)]) O X3l X4s O O) (fun _ _ ⟨_,_,_,h,_⟩=>h) ?_;rintro _ bL ⟨b13,rfl,aG,g,aH⟩;have aI:b4≠b13:=by have:=e.lt;omega
  have aJ:b5≠b13:=by have:=f.lt;omega
  have aK:b7≠b13:=by have:=m.lt;omega
  have a6:=Q0 i.size aG;have i:=btr i g;exact YD 6 O O<|Yd fun a j=>aF _ _<|Q6<|Xu<|X9<|X6 j (Xq j O O)<|⟨(some ⟨b13,0,none⟩),4,by rw[oneL,Q4 q];rfl,by rw[oneL,Q4 q];exact (Own.of_blkL X2s aH a6 rfl rfl O5),i⟩
 have q:¬ k=1:=by simpa using n
 refine ZS j fun aL=>Ze (X0l O O)<|Za O<|Zt aL fun a j=>Xx j O ?_ ?_<;>intro o
 ·have e2:k=2:=by simpa using o
  refine ZS j fun aM=>Ze (Vn X0v f)<|Ze (Vn X0v e)<|Ze (Vn X0v e)<|Ze (Vn X0v f)<|Zf (Xe (k:=4) (vs:=[.agg #[vi 0,vi 0,vi 0,vi 0,vi 0],.agg #[vi ((dPow 0).num.a),vi ((dPow 0).num.b),vi ((dPow 0).num.c),vi ((dPow 0).num.d),vi ((dPow 0).exp)],.agg #[vi ((dPow 0).num.a),vi ((dPow 0).num.b),vi ((dPow 0).num.c),vi ((dPow 0).num.d),vi ((dPow 0).exp)],.agg #[vi 0,vi 0,vi 0,vi 0,vi 0]]) (zs:=[vi 0,vi 0,vi 0,vi 0,vi 0,vi ((dPow 0).num.a),vi ((dPow 0).num.b),vi ((dPow 0).num.c),vi ((dPow 0).num.d),vi ((dPow 0).exp),vi ((dPow 0).num.a),vi ((dPow 0).num.b),vi ((dPow 0).num.c),vi ((dPow 0).num.d),vi ((dPow 0).exp),vi 0,vi 0,vi 0,vi 0,vi 0]) O X3l X4s O O) ?_;rintro _ bM ⟨b18,rfl,aN,g,aO⟩;have aP:b4≠b18:=by have:=e.lt;omega
  have aQ:b5≠b18:=by have:=f.lt;omega
  have a7:=Q0 i.size aN;have i:=btr i g;exact Za O<|Zt aM fun a j=>Q6<|Xu<|X9<|X6 j (Xq j O O)<|⟨(some ⟨b18,0,none⟩),4,by rw[oneL,Q3 q,Q4 e2];rfl,by rw[oneL,Q3 q,Q4 e2];exact (Own.of_blkL X2s aO a7 rfl rfl O5),i⟩
 have e2:¬ k=2:=by simpa using o
 refine ZS j fun aR=>Ze (X0l O O)<|Za O<|Zt aR fun a j=>Xx j O ?_ ?_<;>intro p
 ·have e3:k=3:=by simpa using p
  refine Q5 fun _ aS=>Xy none (fun _=>false) mixed ?_;intro bN g;have ⟨e,f,i⟩:=mv3 g e f i;refine Yb j<|Ye 0 O (Vn X0v f)<|Ye 3 O (Vn X0v f)<|Y1 1<|Yk O tv0 (Vc (Xg4 _ 6) X6u) (fun _ _ ⟨_,g⟩=>g) ?_;rintro _ bO ⟨rfl,g⟩;have ⟨e,f,i⟩:=mv3 g e f i;refine Y1 2<|Yk O tv0 (Vc (Xg4 _ 2) X6u) (fun _ _ ⟨_,g⟩=>g) ?_;rintro _ bP ⟨rfl,g⟩;have ⟨e,f,i⟩:=mv3 g e f i;refine Y1 4<|Yk O tv0 (Xe (k:=4) (vs:=[.agg #[vi 0,vi 0,vi 0,vi 0,vi 0],.agg #[vi ((dPow 6).num.a),vi ((dPow 6).num.b),vi ((dPow 6).num.c),vi ((dPow 6).num.d),vi ((dPow 6).exp)],.agg #[vi ((dPow 2).num.a),vi ((dPow 2).num.b),vi ((dPow 2).num.c),vi ((dPow 2).num.d),vi ((dPow 2).exp)],.agg #[vi 0,vi 0,vi 0,vi 0,vi 0]]) (zs:=[vi 0,vi 0,vi 0,vi 0,vi 0,vi ((dPow 6).num.a),vi ((dPow 6).num.b),vi ((dPow 6).num.c),vi ((dPow 6).num.d),vi ((dPow 6).exp),vi ((dPow 2).num.a),vi ((dPow 2).num.b),vi ((dPow 2).num.c),vi ((dPow 2).num.d),vi ((dPow 2).exp),vi 0,vi 0,vi 0,vi 0,vi 0]) O X3l X4s O O) (fun _ _ ⟨_,_,_,h,_⟩=>h) ?_;rintro _ bQ ⟨b23,rfl,aT,g,aU⟩;have aV:b4≠b23:=by have:=e.lt;omega
  have aW:b5≠b23:=by have:=f.lt;omega
  have a8:=Q0 i.size aT;have i:=btr i g;exact YD 5 O O<|Yd fun a j=>aS _ _<|Q6<|Xu<|X9<|X6 j (Xq j O O)<|⟨(some ⟨b23,0,none⟩),4,by rw[oneL,Q3 q,Q3 e2,Q4 e3];rfl,by rw[oneL,Q3 q,Q3 e2,Q4 e3];exact (Own.of_blkL X2s aU a8 rfl rfl O5),i⟩
 have e3:¬ k=3:=by simpa using p
 refine Q7<|Xd<|bH _ _<|Q5 fun _ aX=>Xy none (fun _=>false) mixed ?_;intro bR g;have ⟨e,f,i⟩:=mv3 g e f i;refine Yb j<|Ye 0 O (Vn X0v e)<|Ye 1 O (Vn X0v f)<|Ye 2 O (Vn X0v f)<|YA 4 O O<|Yo 5 O (fun _=>X1j O O Z Z)<|Y1 3<|Yk O tv0 (Xe (k:=5) (vs:=[vi 4,vi 2,vi 6,vi 1,vi 7]) (zs:=[vi 4,vi 2,vi 6,vi 1,vi 7]) O Xp X21 O O) (fun _ _ ⟨_,_,_,h,_⟩=>h) ?_;rintro _ bS ⟨bU,rfl,aY,g,t⟩;have bJ:=Q0 i.size aY;have ⟨e,f,i⟩:=mv3 g e f i;refine Yi (k:=(k-4).toNat) (u:=(turnOf k)) (enc:=encI) (l:=[4,2,6,1,7]) 6 O tv0 O O Xp X0p Xj (Rd.of_blk t O _ t.lt) (Xtz Z Z) Z ?_;intro bW aA;refine Ye 7 O (X0 O X8 aA)<|Y1 8<|Yk O tv0 (Vc (Xg4 _ (turnOf k)) X6u) (fun _ _ ⟨_,g⟩=>g) ?_;rintro _ bX ⟨rfl,g⟩;have ⟨e,f,i⟩:=mv3 g e f i;refine Y1 9<|Yk O tv0 (Xe (k:=4) (vs:=[.agg #[vi ((dPow 0).num.a),vi ((dPow 0).num.b),vi ((dPow 0).num.c),vi ((dPow 0).num.d),vi ((dPow 0).exp)],.agg #[vi 0,vi 0,vi 0,vi 0,vi 0],.agg #[vi 0,vi 0,vi 0,vi 0,vi 0],.agg #[vi ((dPow (turnOf k)).num.a),vi ((dPow (turnOf k)).num.b),vi ((dPow (turnOf k)).num.c),vi ((dPow (turnOf k)).num.d),vi ((dPow (turnOf k)).exp)]]) (zs:=[vi ((dPow 0).num.a),vi ((dPow 0).num.b),vi ((dPow 0).num.c),vi ((dPow 0).num.d),vi ((dPow 0).exp),vi 0,vi 0,vi 0,vi 0,vi 0,vi 0,vi 0,vi 0,vi 0,vi 0,vi ((dPow (turnOf k)).num.a),vi ((dPow (turnOf k)).num.b),vi ((dPow (turnOf k)).num.c),vi ((dPow (turnOf k)).num.d),vi ((dPow (turnOf k)).exp)]) O X3l X4s O O) (fun _ _ ⟨_,_,_,h,_⟩=>h) ?_;rintro _ bY ⟨b30,rfl,aZ,g,b0⟩;have b1:b4≠b30:=by have:=e.lt;omega
 have b2:b5≠b30:=by have:=f.lt;omega
 have aB:=Q0 i.size aZ;have i:=btr i g;refine YD 10 O O<|Yd fun a j=>aX _ _<|Q6 (X6 j (Xq j O O) ?_);exact ⟨(some ⟨b30,0,none⟩),4,by rw[oneL,Q3 q,Q3 e2,Q3 e3];rfl,by rw[oneL,Q3 q,Q3 e2,Q3 e3];exact (Own.of_blkL X2s b0 aB rfl rfl O5),i⟩
theorem Ycw(w0:World)(n:Int)(g:Gt)(row:Int)(col:Int)(hg:gOk n g=true):RE 127 [vi n,.agg #[vi g.k,vi g.a,vi g.b],vi row,vi col] w0 (fun v w=>v=dV (cellS n g row col)/\Bl w0 w):=by
 have cL:=X22 hg;have cM:=X4r n row g.a;have cN:=X4r n col g.a;refine enter func127 O 119 O O ?_;intro a f;have o:=bz w0;refine ZS f fun bZ=>Zf (X0n (zs:=[vi g.k,vi g.a,vi g.b]) O O) ?_;rintro _ w1 ⟨b2,rfl,cA,A,p⟩;have cK:=Q0 o.size cA;have o:=btr o A;refine Zf (X0b (zs:=[vi 0,vi 0,vi 0,vi 0,vi 0]) X5m O) ?_;rintro _ w2 ⟨b3,rfl,cB,A,e⟩;have y:=Q0 o.size cB;have p:=p.bw A;have o:=btr o A;refine Zx bZ fun a f _ cC=>Zf (Vc (Xg4 _ 0) X6u) ?_;rintro _ w3 ⟨rfl,A⟩;have ⟨p,e,o⟩:=mv3 A p e o;refine Ze (X0k (ps:=[]) (cs:=[vi 0,vi 0,vi 0,vi 0,vi 0]) O (fun _=>by first|rfl|kernel_rfl))<|Zf (X0b (zs:=[vi 0,vi 0,vi 0,vi 0,vi 0]) X5m O) ?_;rintro _ w4 ⟨b5,rfl,cD,A,x⟩;have bW:b3≠b5:=by have:=e.lt;omega
 have N:=Q0 o.size cD;have ⟨p,e,o⟩:=mv3 A p e o;refine Zf (X0b (zs:=[vi 0,vi 0,vi 0,vi 0,vi 0]) X5m O) ?_;rintro _ w5 ⟨b6,rfl,cE,A,t⟩;have bX:b3≠b6:=by have:=e.lt;omega
 have bY:b5≠b6:=by have:=x.lt;omega
 have aI:=Q0 o.size cE;have ⟨p,e,x,o⟩:=mv4 A p e x o;refine Zo (Vw [vi ((dPow 0).num.a),vi ((dPow 0).num.b),vi ((dPow 0).num.c),vi ((dPow 0).num.d),vi ((dPow 0).exp)] X1m x) ?_;intro _ w6 ⟨h,B⟩;have p:=p.oz h x O;have e:=e.oy h Z;have t:=t.oy h Z;have o:=Below.oy o h N;have x:=B;refine Zo (Vw [vi 0,vi 0,vi 0,vi 0,vi 0] X1m t) ?_;intro _ w7 ⟨h,B⟩;have p:=p.oz h t O;have e:=e.oy h Z;have x:=x.oy h Z;have o:=Below.oy o h aI;have t:=B;refine Zx cC fun a f _ cG=>Zm O<|Za O<|ZX cG fun a f _ J=>ZS f fun cH=>Ze (Vd O X1e 0)<|Ze (X0 O X8 (p.at 0))<|Zt cH fun a f=>Q8<|ZS f fun aJ=>Ze (X0l O O)<|Za O<|Zt aJ fun a f=>Xx f O ?_ ?_<;>intro D
 ·have L:=eq_of_beq D;have H:¬ g.k<=8:=by omega
  have C:toS n g col=col:=by simp[toS,L]
  have Q:valS n g col=dPow 1:=by simp[valS,L]
  refine Zr f<|Zf (Vc (Xg4 _ 1) X6u) ?_;rintro _ w8 ⟨rfl,A⟩;have ⟨e,x,t,o⟩:=mv4 A e x t o;refine Zo (Vw [vi ((dPow 1).num.a),vi ((dPow 1).num.b),vi ((dPow 1).num.c),vi ((dPow 1).num.d),vi ((dPow 1).exp)] X1m x) ?_;intro _ w9 ⟨h,B⟩;have e:=e.oy h Z;have t:=t.oy h Z;have o:=Below.oy o h N;have x:=B;refine Zn fun a f=>Xd<|J _ _<|Q5 fun _ aK=>ZS f fun aL=>Zm O<|Zm O<|Ze (X0l O O)<|Zt aL fun a f=>Xx f O ?_ ?_<;>intro U
  ·have i:cellS n g row col=valS n g col:=by rw[cellS,Q3 H,Q4 ((eq_of_beq U).trans C.symm)]
   rw[Q] at i;refine ZS f fun aM=>Ze (Vn X0v x)<|Zo (Vw [vi ((dPow 1).num.a),vi ((dPow 1).num.b),vi ((dPow 1).num.c),vi ((dPow 1).num.d),vi ((dPow 1).exp)] X1m e) ?_;intro _ cO ⟨h,B⟩;have o:=Below.oy o h y;have e:=B;exact Zt aM fun a f=>Q6<|X9<|X6 f (Xq f O (ResV.cellN (l:=[vi ((dPow 1).num.a),vi ((dPow 1).num.b),vi ((dPow 1).num.c),vi ((dPow 1).num.d),vi ((dPow 1).exp)]) O X0v (e.at 0) O))<|⟨(by rw[i];try rfl),o⟩
  have i:cellS n g row col=dZ:=by rw[cellS,Q3 H,Q3 (fun M=>X2a U (M.trans C))]
  refine Q7<|aK _ _<|ZS f fun aN=>Ze (Vn X0v t)<|Zo (Vw [vi 0,vi 0,vi 0,vi 0,vi 0] X1m e) ?_;intro _ cP ⟨h,B⟩;have o:=Below.oy o h y;have e:=B;refine Zt aN fun a f=>Q6 (X6 f (Xq f O (ResV.cellN (l:=[vi 0,vi 0,vi 0,vi 0,vi 0]) O X0v (e.at 0) O)) ?_);exact ⟨(by rw[i];try rfl),o⟩
 have cQ:=X2a D;refine ZS f fun aO=>Ze (X0l O O)<|Za O<|Zt aO fun a f=>Xx f O ?_ ?_<;>intro E
 ·have L:=eq_of_beq E;have H:¬ g.k<=8:=by omega
  have Q:valS n g col=dPow 0:=by simp[valS,L]
  refine ZS f fun aP=>Zm O<|Zm O<|Ze (Vd O X0j 1)<|Ze (X0 O X8 (p.at 1))<|Zf (Vc (Xhw _ n col g.a Z Z Z) X8q) ?_;rintro _ _ ⟨rfl,rfl⟩;refine Ze (X0l O O)<|Zt aP fun a f=>Xx f O ?_ ?_<;>intro W
  ·have C:toS n g col=flipF n col g.b:=by rw[toS,Q4 L,Q4 (eq_of_beq W)]
   refine Zr f<|Zm O<|Zm O<|Ze (X1j O O Z Z)<|Ze (Vd O X1g 2)<|Ze (X0 O X8 (p.at 2))<|Ze (X1j O O Z Z)<|Ze (Xhz (m:=(n-1-g.b).toNat) underlying3 underlying107 O Z Z)<|Ze (Xun (m:=(n-1-g.b).toNat) O O O Z)<|Ze (Xuq O O)<|Za O<|Zn fun a f=>Xd<|J _ _<|Q5 fun _ aQ=>ZS f fun aR=>Zm O<|Zm O<|Ze (X0l O O)<|Zt aR fun a f=>Xx f O ?_ ?_<;>intro a6
   ·have i:cellS n g row col=valS n g col:=by rw[cellS,Q3 H,Q4 ((eq_of_beq a6).trans C.symm)]
    rw[Q] at i;refine ZS f fun aS=>Ze (Vn X0v x)<|Zo (Vw [vi ((dPow 0).num.a),vi ((dPow 0).num.b),vi ((dPow 0).num.c),vi ((dPow 0).num.d),vi ((dPow 0).exp)] X1m e) ?_;intro _ cR ⟨h,B⟩;have o:=Below.oy o h y;have e:=B;exact Zt aS fun a f=>Q6<|X9<|X6 f (Xq f O (ResV.cellN (l:=[vi ((dPow 0).num.a),vi ((dPow 0).num.b),vi ((dPow 0).num.c),vi ((dPow 0).num.d),vi ((dPow 0).exp)]) O X0v (e.at 0) O))<|⟨(by rw[i];try rfl),o⟩
   have i:cellS n g row col=dZ:=by rw[cellS,Q3 H,Q3 (fun M=>X2a a6 (M.trans C))]
   refine Q7<|aQ _ _<|ZS f fun aT=>Ze (Vn X0v t)<|Zo (Vw [vi 0,vi 0,vi 0,vi 0,vi 0] X1m e) ?_;intro _ cS ⟨h,B⟩;have o:=Below.oy o h y;have e:=B;refine Zt aT fun a f=>Q6 (X6 f (Xq f O (ResV.cellN (l:=[vi 0,vi 0,vi 0,vi 0,vi 0]) O X0v (e.at 0) O)) ?_);exact ⟨(by rw[i];try rfl),o⟩
  have C:toS n g col=col:=by rw[toS,Q4 L,Q3 (X2a W)]
  refine Q7<|Xd<|J _ _<|Q5 fun _ aU=>ZS f fun aV=>Zm O<|Zm O<|Ze (X0l O O)<|Zt aV fun a f=>Xx f O ?_ ?_<;>intro a7
  ·have i:cellS n g row col=valS n g col:=by rw[cellS,Q3 H,Q4 ((eq_of_beq a7).trans C.symm)]
   rw[Q] at i;refine ZS f fun aW=>Ze (Vn X0v x)<|Zo (Vw [vi ((dPow 0).num.a),vi ((dPow 0).num.b),vi ((dPow 0).num.c),vi ((dPow 0).num.d),vi ((dPow 0).exp)] X1m e) ?_;intro _ cT ⟨h,B⟩;have o:=Below.oy o h y;have e:=B;exact Zt aW fun a f=>Q6<|X9<|X6 f (Xq f O (ResV.cellN (l:=[vi ((dPow 0).num.a),vi ((dPow 0).num.b),vi ((dPow 0).num.c),vi ((dPow 0).num.d),vi ((dPow 0).exp)]) O X0v (e.at 0) O))<|⟨(by rw[i];try rfl),o⟩
  have i:cellS n g row col=dZ:=by rw[cellS,Q3 H,Q3 (fun M=>X2a a7 (M.trans C))]
  refine Q7<|aU _ _<|ZS f fun aX=>Ze (Vn X0v t)<|Zo (Vw [vi 0,vi 0,vi 0,vi 0,vi 0] X1m e) ?_;intro _ cU ⟨h,B⟩;have o:=Below.oy o h y;have e:=B;refine Zt aX fun a f=>Q6 (X6 f (Xq f O (ResV.cellN (l:=[vi 0,vi 0,vi 0,vi 0,vi 0]) O X0v (e.at 0) O)) ?_);exact ⟨(by rw[i];try rfl),o⟩
 have h9:=X2a E;refine ZS f fun aY=>Ze (X0l O O)<|Za O<|Zt aY fun a f=>Xx f O ?_ ?_<;>intro G
 ·have L:=eq_of_beq G;have H:¬ g.k<=8:=by omega
  have C:toS n g col=col:=by simp[toS,L]
  refine Q5 fun _ aZ=>X0i (fun a w=>Fr a 119 [(2,vi row),(8,(pZ9 b3)),(9,(pZ9 b5)),(10,(pZ9 b6)),(11,vi col),(82,.bool (((bitF n col g.a)==1)&&((bitF n col g.b)==1)))]/\w7=w) ?_ ?_
  ·refine Zr f<|Zm O<|Zm O<|Ze (Vd O X0j 1)<|Ze (X0 O X8 (p.at 1))<|Zf (Vc (Xhw _ n col g.a Z Z Z) X8q) ?_;rintro _ _ ⟨rfl,rfl⟩;refine Ze (X0l O O)<|Zm O<|Zg 75 O ?_ ?_<;>intro q
   ·refine Zv (gW q) (X5 O) ?_;refine Zv (gW q) (X5 O) ?_;refine Zv (gW q) (Vd O X1g 2) ?_;refine Zv (gW q) (X0 O X8 (p.at 2)) ?_;refine Zk (gW q) (Vc (Xhw _ n col g.b Z Z Z) X8q) ?_;rintro _ _ ⟨rfl,rfl⟩;refine Zv (gW q) (X0l O O)<|Ze (Xc O q O)<|Zn fun a f=>?_;exact ⟨f.sub ⟨O,O,O,O,O,X1 O (by simp[D,E,G,q]),trivial⟩,O⟩
   (iterate 6 refine Zp (gP q) ?_);exact Ze (Xi O q O)<|Zn fun a f=>⟨f.sub ⟨O,O,O,O,O,X1 O (by simp[D,E,G,q]),trivial⟩,O⟩
  rintro a _ ⟨f,rfl⟩;refine aZ _ _<|Xx f O ?_ ?_<;>intro a8
  ·have Q:valS n g col=dPow 4:=by have h9:bitF n col g.a=1/\bitF n col g.b=1:=(by simpa using a8);simp[valS,L,h9]
   refine Zr f<|Zf (Vc (Xg4 _ 4) X6u) ?_;rintro _ cV ⟨rfl,A⟩;have ⟨e,x,t,o⟩:=mv4 A e x t o;refine Zo (Vw [vi ((dPow 4).num.a),vi ((dPow 4).num.b),vi ((dPow 4).num.c),vi ((dPow 4).num.d),vi ((dPow 4).exp)] X1m x) ?_;intro _ cW ⟨h,B⟩;have e:=e.oy h Z;have t:=t.oy h Z;have o:=Below.oy o h N;have x:=B;refine Zn fun a f=>Xd<|J _ _<|Q5 fun _ b0=>ZS f fun b1=>Zm O<|Zm O<|Ze (X0l O O)<|Zt b1 fun a f=>Xx f O ?_ ?_<;>intro aA
   ·have i:cellS n g row col=valS n g col:=by rw[cellS,Q3 H,Q4 ((eq_of_beq aA).trans C.symm)]
    rw[Q] at i;refine ZS f fun b4=>Ze (Vn X0v x)<|Zo (Vw [vi ((dPow 4).num.a),vi ((dPow 4).num.b),vi ((dPow 4).num.c),vi ((dPow 4).num.d),vi ((dPow 4).exp)] X1m e) ?_;intro _ cX ⟨h,B⟩;have o:=Below.oy o h y;have e:=B;exact Zt b4 fun a f=>Q6<|X9<|X6 f (Xq f O (ResV.cellN (l:=[vi ((dPow 4).num.a),vi ((dPow 4).num.b),vi ((dPow 4).num.c),vi ((dPow 4).num.d),vi ((dPow 4).exp)]) O X0v (e.at 0) O))<|⟨(by rw[i];try rfl),o⟩
   have i:cellS n g row col=dZ:=by rw[cellS,Q3 H,Q3 (fun M=>X2a aA (M.trans C))]
   refine Q7<|b0 _ _<|ZS f fun b7=>Ze (Vn X0v t)<|Zo (Vw [vi 0,vi 0,vi 0,vi 0,vi 0] X1m e) ?_;intro _ cY ⟨h,B⟩;have o:=Below.oy o h y;have e:=B;refine Zt b7 fun a f=>Q6 (X6 f (Xq f O (ResV.cellN (l:=[vi 0,vi 0,vi 0,vi 0,vi 0]) O X0v (e.at 0) O)) ?_);exact ⟨(by rw[i];try rfl),o⟩
  have Q:valS n g col=dPow 0:=by have h9:¬ (bitF n col g.a=1/\bitF n col g.b=1):=(by simpa using a8);simp only[valS,L,h9];simp
  refine Q7<|Xd<|J _ _<|Q5 fun _ b8=>ZS f fun b9=>Zm O<|Zm O<|Ze (X0l O O)<|Zt b9 fun a f=>Xx f O ?_ ?_<;>intro aB
  ·have i:cellS n g row col=valS n g col:=by rw[cellS,Q3 H,Q4 ((eq_of_beq aB).trans C.symm)]
   rw[Q] at i;refine ZS f fun bC=>Ze (Vn X0v x)<|Zo (Vw [vi ((dPow 0).num.a),vi ((dPow 0).num.b),vi ((dPow 0).num.c),vi ((dPow 0).num.d),vi ((dPow 0).exp)] X1m e) ?_;intro _ d5 ⟨h,B⟩;have o:=Below.oy o h y;have e:=B;exact Zt bC fun a f=>Q6<|X9<|X6 f (Xq f O (ResV.cellN (l:=[vi ((dPow 0).num.a),vi ((dPow 0).num.b),vi ((dPow 0).num.c),vi ((dPow 0).num.d),vi ((dPow 0).exp)]) O X0v (e.at 0) O))<|⟨(by rw[i];try rfl),o⟩
  have i:cellS n g row col=dZ:=by rw[cellS,Q3 H,Q3 (fun M=>X2a aB (M.trans C))]
  refine Q7<|b8 _ _<|ZS f fun bD=>Ze (Vn X0v t)<|Zo (Vw [vi 0,vi 0,vi 0,vi 0,vi 0] X1m e) ?_;intro _ d6 ⟨h,B⟩;have o:=Below.oy o h y;have e:=B;refine Zt bD fun a f=>Q6 (X6 f (Xq f O (ResV.cellN (l:=[vi 0,vi 0,vi 0,vi 0,vi 0]) O X0v (e.at 0) O)) ?_);exact ⟨(by rw[i];try rfl),o⟩
 have d7:=X2a G;refine ZS f fun bE=>Ze (X0l O O)<|Za O<|Zt bE fun a f=>Xx f O ?_ ?_<;>intro aC
 ·have L:=eq_of_beq aC;have H:¬ g.k<=8:=by omega
  have Q:valS n g col=dPow 0:=by simp[valS,L]
  refine Q5 fun _ bF=>Xy none (fun _=>false) mixed ?_;intro d8 A;have ⟨p,e,x,t,o⟩:=mv5 A p e x t o;refine Yb f<|YA 0 O O<|YA 1 O O<|Yo 2 O (fun _=>Vd O X0j 1)<|Ye 3 O (X0 O X8 (p.at 1))<|YA 5 O O<|YA 6 O O<|Yo 7 O (fun _=>Vd O X1g 2)<|Ye 8 O (X0 O X8 (p.at 2))<|Y1 4<|Yz O tv0 (Vc (Xhw _ n col g.a Z Z Z) X8q) ?_;refine Y1 9<|Yz O tv0 (Vc (Xhw _ n col g.b Z Z Z) X8q)<|Yo 10 O (fun _=>X28 O O)<|Yd fun a f=>bF _ _<|Xx f O ?_ ?_<;>intro aD
  ·have C:toS n g col=flipF n (flipF n col g.a) g.b:=by have h9:bitF n col g.a≠bitF n col g.b:=(by simpa using aD);simp[toS,L,h9]
   refine Zr f<|Zm O<|Zm O<|Ze (X1j O O Z Z)<|Ze (Vd O X0j 1)<|Ze (X0 O X8 (p.at 1))<|Ze (X1j O O Z Z)<|Ze (Xhz (m:=(n-1-g.a).toNat) underlying3 underlying107 O Z Z)<|Ze (Xun (m:=(n-1-g.a).toNat) O O O Z)<|Ze (Xuq O O)<|Zm O<|Ze (X1j O O Z Z)<|Ze (Vd O X1g 2)<|Ze (X0 O X8 (p.at 2))<|Ze (X1j O O Z Z)<|Ze (Xhz (m:=(n-1-g.b).toNat) underlying3 underlying107 O Z Z)<|Ze (Xun (m:=(n-1-g.b).toNat) O O O Z)<|Ze (Xuq O O)<|Za O<|Zn fun a f=>Xd<|J _ _<|Q5 fun _ bG=>ZS f fun bH=>Zm O<|Zm O<|Ze (X0l O O)<|Zt bH fun a f=>Xx f O ?_ ?_<;>intro aE
   ·have i:cellS n g row col=valS n g col:=by rw[cellS,Q3 H,Q4 ((eq_of_beq aE).trans C.symm)]
    rw[Q] at i;refine ZS f fun bI=>Ze (Vn X0v x)<|Zo (Vw [vi ((dPow 0).num.a),vi ((dPow 0).num.b),vi ((dPow 0).num.c),vi ((dPow 0).num.d),vi ((dPow 0).exp)] X1m e) ?_;intro _ d9 ⟨h,B⟩;have o:=Below.oy o h y;have e:=B;exact Zt bI fun a f=>Q6<|X9<|X6 f (Xq f O (ResV.cellN (l:=[vi ((dPow 0).num.a),vi ((dPow 0).num.b),vi ((dPow 0).num.c),vi ((dPow 0).num.d),vi ((dPow 0).exp)]) O X0v (e.at 0) O))<|⟨(by rw[i];try rfl),o⟩
   have i:cellS n g row col=dZ:=by rw[cellS,Q3 H,Q3 (fun M=>X2a aE (M.trans C))]
   refine Q7<|bG _ _<|ZS f fun bJ=>Ze (Vn X0v t)<|Zo (Vw [vi 0,vi 0,vi 0,vi 0,vi 0] X1m e) ?_;intro _ dA ⟨h,B⟩;have o:=Below.oy o h y;have e:=B;refine Zt bJ fun a f=>Q6 (X6 f (Xq f O (ResV.cellN (l:=[vi 0,vi 0,vi 0,vi 0,vi 0]) O X0v (e.at 0) O)) ?_);exact ⟨(by rw[i];try rfl),o⟩
  have C:toS n g col=col:=by have h9:bitF n col g.a=bitF n col g.b:=(by simpa using aD);simp[toS,L,h9]
  refine Q7<|Xd<|J _ _<|Q5 fun _ bK=>ZS f fun bL=>Zm O<|Zm O<|Ze (X0l O O)<|Zt bL fun a f=>Xx f O ?_ ?_<;>intro aF
  ·have i:cellS n g row col=valS n g col:=by rw[cellS,Q3 H,Q4 ((eq_of_beq aF).trans C.symm)]
   rw[Q] at i;refine ZS f fun bM=>Ze (Vn X0v x)<|Zo (Vw [vi ((dPow 0).num.a),vi ((dPow 0).num.b),vi ((dPow 0).num.c),vi ((dPow 0).num.d),vi ((dPow 0).exp)] X1m e) ?_;intro _ dB ⟨h,B⟩;have o:=Below.oy o h y;have e:=B;exact Zt bM fun a f=>Q6<|X9<|X6 f (Xq f O (ResV.cellN (l:=[vi ((dPow 0).num.a),vi ((dPow 0).num.b),vi ((dPow 0).num.c),vi ((dPow 0).num.d),vi ((dPow 0).exp)]) O X0v (e.at 0) O))<|⟨(by rw[i];try rfl),o⟩
  have i:cellS n g row col=dZ:=by rw[cellS,Q3 H,Q3 (fun M=>X2a aF (M.trans C))]
  refine Q7<|bK _ _<|ZS f fun bN=>Ze (Vn X0v t)<|Zo (Vw [vi 0,vi 0,vi 0,vi 0,vi 0] X1m e) ?_;intro _ dC ⟨h,B⟩;have o:=Below.oy o h y;have e:=B;refine Zt bN fun a f=>Q6 (X6 f (Xq f O (ResV.cellN (l:=[vi 0,vi 0,vi 0,vi 0,vi 0]) O X0v (e.at 0) O)) ?_);exact ⟨(by rw[i];try rfl),o⟩
 have dD:=X2a aC;have H:g.k<=8:=by omega
 refine Q5 fun _ bO=>ZS f fun bP=>Zm O<|Zm O<|Ze (Xuq O O)<|Zm O<|Ze (X1j O O Z Z)<|Ze (Vd O X0j 1)<|Ze (X0 O X8 (p.at 1))<|Ze (X1j O O Z Z)<|Ze (Xhz (m:=(n-1-g.a).toNat) underlying3 underlying107 O Z Z)<|Ze (Xun (m:=(n-1-g.a).toNat) O O O Z)<|Ze (Xuj O O)<|Ze (X28 O O)<|Zt bP fun a f=>Xx f O ?_ ?_<;>intro aG
 ·have i:cellS n g row col=dZ:=by rw[cellS,Q4 H,Q4 (by simpa using aG)]
  refine ZS f fun bQ=>Ze (Vn X0v t)<|Zo (Vw [vi 0,vi 0,vi 0,vi 0,vi 0] X1m e) ?_;intro _ dE ⟨h,B⟩;have o:=Below.oy o h y;have e:=B;exact Zt bQ fun a f=>Q6<|X9<|Xu<|X9<|X6 f (Xq f O (ResV.cellN (l:=[vi 0,vi 0,vi 0,vi 0,vi 0]) O X0v (e.at 0) O))<|⟨(by rw[i];try rfl),o⟩
 have i:cellS n g row col=(oneL g.k).getD (2*bitF n row g.a+bitF n col g.a).toNat dZ:=by rw[cellS,Q4 H,Q3 (by simpa using aG)]
 refine Q7<|bO _ _<|Q5 fun _ bR=>Xy none (fun j=>[17].contains j) mixed ?_;intro dF A;have ⟨p,e,t,o⟩:=mv4 A p e t o;refine Yb f<|Yo 0 O (fun _=>Vd O X1e 0)<|Ye 1 O (X0 O X8 (p.at 0))<|YA 3 O O<|YA 4 O O<|Yo 5 O (fun _=>Vd O X0j 1)<|Ye 6 O (X0 O X8 (p.at 1))<|YA 9 O O<|YA 10 O O<|Yo 11 O (fun _=>Vd O X0j 1)<|Ye 12 O (X0 O X8 (p.at 1))<|Y1 2<|Yk O tv0 (Vc (Yd1 _ g.k Z) Y46) (fun _ _ ⟨cI,cJ,_,I,A⟩=>A) ?_;rintro _ dG ⟨cI,cJ,rfl,I,A⟩;have I:=I.lower o.size;have e:=e.bw A;have o:=btr o A;refine Y1 7<|Yz O tv0 (Vc (Xhw _ n row g.a Z Z Z) X8q) ?_;refine Yo 8 O (fun _=>Xbn O O Z Z)<|Y1 13<|Yz O tv0 (Vc (Xhw _ n col g.a Z Z Z) X8q) ?_;refine Yo 14 O (fun _=>Xr O O Z Z)<|Yi (k:=(2*bitF n row g.a+bitF n col g.a).toNat) (u:=((oneL g.k).getD (2*bitF n row g.a+bitF n col g.a).toNat dZ)) (enc:=encD) (l:=(oneL g.k)) 15 O tv0 O O X3l X1m X2s I.rd (Xs0 Z) Z ?_;intro dH aH;refine Ye 16 O (X07 (l:=[vi (((oneL g.k).getD (2*bitF n row g.a+bitF n col g.a).toNat dZ).num.a),vi (((oneL g.k).getD (2*bitF n row g.a+bitF n col g.a).toNat dZ).num.b),vi (((oneL g.k).getD (2*bitF n row g.a+bitF n col g.a).toNat dZ).num.c),vi (((oneL g.k).getD (2*bitF n row g.a+bitF n col g.a).toNat dZ).num.d),vi (((oneL g.k).getD (2*bitF n row g.a+bitF n col g.a).toNat dZ).exp)]) O X0v aH O)<|Y1 17<|Yh O tv0 O (Vw [vi (((oneL g.k).getD (2*bitF n row g.a+bitF n col g.a).toNat dZ).num.a),vi (((oneL g.k).getD (2*bitF n row g.a+bitF n col g.a).toNat dZ).num.b),vi (((oneL g.k).getD (2*bitF n row g.a+bitF n col g.a).toNat dZ).num.c),vi (((oneL g.k).getD (2*bitF n row g.a+bitF n col g.a).toNat dZ).num.d),vi (((oneL g.k).getD (2*bitF n row g.a+bitF n col g.a).toNat dZ).exp)] X1m e) ?_;intro _ dI ⟨h,B⟩;have o:=Below.oy o h y;have e:=B;exact Yd fun a f=>bR _ _<|Q6<|Xu<|X9<|X6 f (Xq f O (ResV.cellN (l:=[vi (((oneL g.k).getD (2*bitF n row g.a+bitF n col g.a).toNat dZ).num.a),vi (((oneL g.k).getD (2*bitF n row g.a+bitF n col g.a).toNat dZ).num.b),vi (((oneL g.k).getD (2*bitF n row g.a+bitF n col g.a).toNat dZ).num.c),vi (((oneL g.k).getD (2*bitF n row g.a+bitF n col g.a).toNat dZ).num.d),vi (((oneL g.k).getD (2*bitF n row g.a+bitF n col g.a).toNat dZ).exp)]) O X0v (e.at 0) O))<|⟨(by rw[i];try rfl),o⟩
theorem Ycl(E:World)(n:Int)(g:Gt)(U:gOk n g=true):RE 95 [vi n,.agg #[vi g.k,vi g.a,vi g.b]] E (fun v w=>∃ A c,v=mV A c (gateS n g)/\Own w E.heap.size 137 5 encD A c (gateS n g).cells/\Bl E w):=by
 have aU:=X22 U;have ⟨d,hd⟩ : ∃ d:Nat,d=2^n.toNat:=⟨_,O⟩;have aD:d<=32:=by rw[hd];exact X9j aU.1.2
 refine enter func95 O 36 O O ?_;intro a t;have q:=bz E;refine ZS t fun aV=>Zf (X0n (zs:=[vi g.k,vi g.a,vi g.b]) O O) ?_;rintro _ w1 ⟨b2,rfl,H,u,f⟩;have b1:=Q0 q.size H;have q:=btr q u;refine Zf (X0b (zs:=[vi 0,vi 0,.slice none 0 0]) X7b O) ?_;rintro _ w2 ⟨b4,rfl,aW,u,e⟩;have aE:=Q0 q.size aW;have f:=f.bw u;have q:=btr q u;refine Zx aV fun a t _ aX=>Zm O<|Ze (Xhz (m:=n.toNat) underlying3 underlying107 O Z Z)<|Ze (Y0b (m:=n.toNat) (D:=d) O O O ⟨hd,by omega⟩)<|Za O<|Zx aX fun a t _ aY=>Zm O<|Zm O<|Ze (X0k (ps:=[(0,vi (d:Int)),(1,vi (d:Int))]) (cs:=[vi (d:Int),vi (d:Int),.slice none 0 0]) O (fun _=>by first|rfl|kernel_rfl))<|ZB [vi (d:Int),vi (d:Int),.slice none 0 0] X7b X43 fun b9 w4 aZ u o=>?_;have aT:b4≠b9:=by have:=e.lt;omega
 have aF:=Q0 q.size aZ;have ⟨f,e,q⟩:=mv3 u f e q;refine ZX aY fun a t _ aG=>ZS t fun aH=>Za O<|Zt aH fun a t=>Q8<|X04 (σ:=Nat×(List Dy)) (fun (s:Nat×(List Dy)) (a:Act) (w:World)=>match s with|(i,l)=>∃ y B,Fr a 36 [(0,vi n),(3,(pZ9 b2)),(4,(pZ9 b4)),(5,vi (d:Int)),(6,(pZ9 b9)),(7,vi (i:Int))]/\(i<=d)/\(gridL (fun i j=>cellS n g (i:Int) (j:Int)) d (i*d)=l)/\Blk w b2 45 [vi g.k,vi g.a,vi g.b]/\Blk w b4 67 [vi 0,vi 0,.slice none 0 0]/\Blk w b9 67 [vi (d:Int),vi (d:Int),.slice y l.length B]/\Own w E.heap.size 137 5 encD y B l/\Bl E w) (fun (s:Nat×(List Dy))=>match s with|(i,l)=>d-i) (0,[]) ?_ ?_
 ·exact ⟨none,0,t.sb,(Qf _),(by rw[Nat.zero_mul];rfl),f,e,o,(Own.nil _ _ _ _ _),q⟩
 intro ⟨i,l⟩ a w5 ⟨y,B,t,b5,hl,f,e,o,C,q⟩;refine Q5 fun _ aI=>ZS t fun aJ=>Zm O<|Zm O<|Ze (X16 O O)<|Zt aJ fun a t=>X0y t O (fun a6 I=>?_) (fun a6 I=>?_)
 ·have aK:i<d:=by have:=I;omega
  have b6:i*d<=1024:=Q0 (Nat.mul_le_mul (show i<=32 by omega) aD) O5;refine Q7<|aI _ _<|Q5 fun _ aL=>Q8<|ZS t fun aM=>Za O<|Zt aM fun a t=>Q8<|X04 (σ:=Nat×(List Dy)) (fun (s:Nat×(List Dy)) (a:Act) (w:World)=>match s with|(j,l2)=>∃ N Q,Fr a 36 [(0,vi n),(3,(pZ9 b2)),(4,(pZ9 b4)),(5,vi (d:Int)),(6,(pZ9 b9)),(7,vi (i:Int)),(8,vi (j:Int))]/\(j<=d)/\(gridL (fun i j=>cellS n g (i:Int) (j:Int)) d (i*d+j)=l2)/\Blk w b2 45 [vi g.k,vi g.a,vi g.b]/\Blk w b4 67 [vi 0,vi 0,.slice none 0 0]/\Blk w b9 67 [vi (d:Int),vi (d:Int),.slice N l2.length Q]/\Own w E.heap.size 137 5 encD N Q l2/\Bl E w) (fun (s:Nat×(List Dy))=>match s with|(j,l2)=>d-j) (0,l) ?_ ?_
  ·exact ⟨y,B,t.sb,(Qf _),hl,f,e,o,C,q⟩
  intro ⟨j,l2⟩ a w6 ⟨N,Q,t,b7,H,f,e,o,p,q⟩;refine Q5 fun _ aN=>ZS t fun aO=>Zm O<|Zm O<|Ze (X16 O O)<|Zt aO fun a t=>X0y t O (fun a7 J=>?_) (fun a7 J=>?_)
  ·have a8:j<d:=by have:=J;omega
   have b3:l2.length=i*d+j:=by rw[<- H,X9x]
   refine Q7<|aN _ _<|Q5 fun _ aP=>Q8<|Xy none (fun j=>[8,10].contains j) mixed ?_;intro w7 u;have ⟨f,e,o,p,q⟩:=mv5 u f e o p q;refine Yb t<|Yo 0 O (fun _=>Vd O X3w 2)<|Ye 1 O (X0 O X8y (o.at 2))<|YA 2 O O<|Ye 3 O (Vn X12 f)<|YA 4 O O<|YA 5 O O<|Y1 6<|Yk O tv0 (Vc (Ycw _ n g (i:Int) (j:Int) U) Y42) (fun _ _ ⟨_,u⟩=>u) ?_;rintro _ w8 ⟨rfl,u⟩;have ⟨f,e,o,p,q⟩:=mv5 u f e o p q;refine Y1 7<|Yk O tv0 (Xe (k:=1) (vs:=[.agg #[vi ((cellS n g (i:Int) (j:Int)).num.a),vi ((cellS n g (i:Int) (j:Int)).num.b),vi ((cellS n g (i:Int) (j:Int)).num.c),vi ((cellS n g (i:Int) (j:Int)).num.d),vi ((cellS n g (i:Int) (j:Int)).exp)]]) (zs:=[vi ((cellS n g (i:Int) (j:Int)).num.a),vi ((cellS n g (i:Int) (j:Int)).num.b),vi ((cellS n g (i:Int) (j:Int)).num.c),vi ((cellS n g (i:Int) (j:Int)).num.d),vi ((cellS n g (i:Int) (j:Int)).exp)]) O X3l X4s O O) (fun _ _ ⟨_,_,_,h,_⟩=>h) ?_;rintro _ w9 ⟨b8,rfl,W,u,L⟩;have b0:=Q0 q.size W;have ⟨f,e,o,p,q⟩:=mv5 u f e o p q;refine Y1 8<|Yt O tv0 O (X0r (enc:=encD) (l:=(l2)) (l2:=([(cellS n g (i:Int) (j:Int))])) (B0:=E.heap.size) O O X3l X4s X2s Xby p (Rd.of_blk L O _ L.lt) (by simp only[maxLen];simp;omega) O6 q.size) ?_;rintro _ bC ⟨aA,aB,rfl,M,U,aQ⟩;have x:Own _ E.heap.size 137 5 encD _ _ (l2):=p;clear aQ;have f:=f.appT x U O;have e:=e.appT x U O;have o:=o.appT x U O;have q:=Below.app q x U (Qb _) q.size;clear x U;refine Yo 9 O (fun _=>Vd O X3w 2)<|Y1 10<|Yh O tv0 O (Vu (vs:=[.slice aA (l2++([(cellS n g (i:Int) (j:Int))])).length aB]) (l':=[vi (d:Int),vi (d:Int),.slice aA (l2++([(cellS n g (i:Int) (j:Int))])).length aB]) O O Xtm o) ?_;intro _ bD ⟨ho,hb⟩;have f:=f.oz ho o O;have e:=e.oy ho Z;have M:=M.oT ho o O;have q:=Below.oy q ho aF;have o:=hb;exact Yd fun a t=>Xd<|aP _ _<|Zr t<|Zm O<|Ze (Xr O O Z Z)<|Za O<|Zn fun a t=>Xh<|⟨(j+1,l2++[(cellS n g (i:Int) (j:Int))]),⟨aA,aB,t.sb,Z,(by rw[Xil a8,H]),f,e,o,M,q⟩,O1⟩
  have a8:j=d:=by have:=J;omega
  exact Q9<|Xk<|Xk<|X06<|Xd<|aL _ _<|Zr t<|Zm O<|Ze (Xr O O Z Z)<|Za O<|Zn fun a t=>Xh<|⟨(i+1,l2),⟨N,Q,t.sb,Z,(by rw[Wb,Nat.one_mul,<- H,a8]),f,e,o,p,q⟩,O1⟩
 have aK:i=d:=by have:=I;omega
 refine Q9<|Xk<|Xk<|X06<|aG _ _<|ZS t fun aR=>Ze (Vn X3a o)<|Zo (Vw [vi (d:Int),vi (d:Int),.slice y l.length B] X43 e) ?_;intro _ bE ⟨ho,hb⟩;have C:=C.oT ho e O;have q:=Below.oy q ho aE;have e:=hb;refine Zt aR fun a t=>Q6 (X6 t (Xq t O (ResV.cellN (l:=[vi (d:Int),vi (d:Int),.slice y l.length B]) O X3a (e.at 0) O)) ?_);have aS:gateS n g=⟨(d:Int),(d:Int),l⟩:=by rw[gateS,<- hl,aK,hd]
 rw[aS];exact ⟨y,B,O,C,q⟩
theorem Ycv(B:World)(p:Mx)(Ap:Option Addr)(cp:Nat)(aC:Rw B 137 encD Ap p.cells)(q:Mx)(Aq:Option Addr)(cq:Nat)(aD:Rw B 137 encD Aq q.cells)(k:Int)(b6:p.cells.length=q.cells.length)(b7:q.cells.length<=2305843009213693951):RE 62 [.agg #[vi p.rows,vi p.cols,.slice Ap p.cells.length cp],.agg #[vi q.rows,vi q.cols,.slice Aq q.cells.length cq],vi k] B (fun v w=>v=.bool (turnedS p q k)/\Bl B w):=by
 refine enter func62 O 42 O O ?_;intro a j;have n:=bz B;refine ZS j fun aU=>Zf (X0n (zs:=[vi p.rows,vi p.cols,.slice Ap p.cells.length cp]) O O) ?_;rintro _ w1 ⟨b4,rfl,aV,o,e⟩;have b2:=Q0 n.size aV;have n:=btr n o;refine Zf (X0n (zs:=[vi q.rows,vi q.cols,.slice Aq q.cells.length cq]) O O) ?_;rintro _ w2 ⟨b5,rfl,aW,o,a6⟩;have aT:b4≠b5:=by have:=e.lt;omega
 have b3:=Q0 n.size aW;have e:=e.bw o;have n:=btr n o;refine Za O<|ZX aU fun a j _ aX=>Q5 fun _ aY=>X0i (fun a w=>Fr a 42 [(2,vi k),(3,(pZ9 b4)),(4,(pZ9 b5)),(20,.bool ((p.rows != q.rows)||(p.cols != q.cols)))]/\w2=w) ?_ ?_
 ·refine Zr j<|Ze (Vd O X96 0)<|Ze (X0 O X8 (e.at 0))<|Ze (Vd O X96 0)<|Ze (X0 O X8 (a6.at 0))<|Ze (X28 O O)<|Zm O<|Zg 14 O ?_ ?_<;>intro m
  ·(iterate 5 refine Zp (gP m) ?_);exact Ze (Xc O m O)<|Zn fun a j=>⟨j.sub ⟨O,O,O,X1 O (by simp[m]),trivial⟩,O⟩
  refine Zv (gW m) (Vd O X53 1) ?_;refine Zv (gW m) (X0 O X8 (e.at 1)) ?_;refine Zv (gW m) (Vd O X53 1) ?_;refine Zv (gW m) (X0 O X8 (a6.at 1)) ?_;refine Zv (gW m) (X28 O O)<|Ze (Xi O m O)<|Zn fun a j=>?_;exact ⟨j.sub ⟨O,O,O,X1 O (by simp[m]),trivial⟩,O⟩
 rintro a _ ⟨j,rfl⟩;refine aY _ _<|Xx j O ?_ ?_<;>intro x
 ·have aE:=x;have hn:turnedS p q k=false:=by have h9:¬ (p.rows=q.rows/\p.cols=q.cols):=(by intro h8;revert x;simp[h8.1,h8.2]);unfold turnedS;revert h9;by_cases e1:p.rows=q.rows<;>by_cases e2:p.cols=q.cols<;>simp[e1,e2]
  exact ZS j fun aF=>Za O<|Zt aF fun a j=>Q6<|X9<|X6 j (Xq j O O)<|⟨by rw[hn],n⟩
 have aE:=x;have aG:p.rows=q.rows/\p.cols=q.cols:=by revert x;by_cases e1:p.rows=q.rows<;>by_cases e2:p.cols=q.cols<;>simp[e1,e2]
 refine Q7<|aX _ _<|Q5 fun _ aH=>ZS j fun aI=>Ze (Vd O X3w 2)<|Ze (X0 O X8y (a6.at 2))<|Ze (X0w O X3l)<|Zm O<|Zt aI fun a j=>Q8<|X04 (σ:=Nat) (fun (i:Nat) (a:Act) (w:World)=>Fr a 42 [(2,vi k),(3,(pZ9 b4)),(22,.slice Aq q.cells.length cq),(23,vi (q.cells.length:Int)),(24,vi (i:Int))]/\(i<=q.cells.length)/\(p.cells.take i=(q.cells.map (dTurn k)).take i)/\Blk w b4 67 [vi p.rows,vi p.cols,.slice Ap p.cells.length cp]/\Bl B w) (fun (i:Nat)=>q.cells.length-i) 0 ?_ ?_
 ·exact ⟨j.sb,(Qf _),O4,e,n⟩
 intro i a w3 ⟨j,hi,y,e,n⟩;refine ZS j fun aJ=>Ze (X16 O O)<|ZX aJ fun a j _ aK=>X0y j O (fun a7 aL=>?_) (fun a7 aL=>?_)
 ·have ⟨u16,h⟩:=Xa (l:=q.cells) (k:=i) Z;have ⟨C,a8⟩:=Xa (l:=p.cells) (k:=i) Z;refine Q7<|aK _ _<|Q5 fun _ aM=>Q8<|ZS j fun aN=>Zm O<|Zi (k:=i) (u:=u16) (enc:=encD) (l:=q.cells) tv0 O O X3l X1m X2s (aD.bx n) h O ?_;intro b8 aA;refine Ze (X07 (l:=[vi u16.num.a,vi u16.num.b,vi u16.num.c,vi u16.num.d,vi u16.exp]) O X0v aA O)<|Zf (X0b (zs:=[vi 0,vi 0,vi 0,vi 0,vi 0]) X5m O) ?_;rintro _ w4 ⟨b9,rfl,aO,o,g⟩;have A:=Q0 n.size aO;have e:=e.bw o;have n:=btr n o;refine Za O<|Zo (Vw [vi u16.num.a,vi u16.num.b,vi u16.num.c,vi u16.num.d,vi u16.exp] X1m g) ?_;intro _ w5 ⟨ho,hb⟩;have e:=e.oz ho g O;have n:=Below.oy n ho A;have g:=hb;refine Zx aN fun a j _ aP=>Ze (Vd O X3x 0)<|Ze (X07 (l:=[vi u16.num.a,vi u16.num.b,vi u16.num.c,vi u16.num.d]) O X2i ((g.at 0).take 4) O)<|Zm O<|Zf (Vc (Y76 _ u16.num k) Xq2) ?_;rintro _ w6 ⟨rfl,o⟩;have ⟨e,g,n⟩:=mv3 o e g n;refine Ze (Vd O X3x 0)<|Zo (Vu (vs:=[vi ((rTurn u16.num k).a),vi ((rTurn u16.num k).b),vi ((rTurn u16.num k).c),vi ((rTurn u16.num k).d)]) (l':=[vi ((rTurn u16.num k).a),vi ((rTurn u16.num k).b),vi ((rTurn u16.num k).c),vi ((rTurn u16.num k).d),vi u16.exp]) O O X4q g) ?_;intro _ w7 ⟨ho,hb⟩;have e:=e.oz ho g O;have n:=Below.oy n ho A;have g:=hb;refine ZX aP fun a j _ aQ=>Xy none (fun _=>false) mixed ?_;intro w8 o;have ⟨e,g,n⟩:=mv3 o e g n;refine Yb j<|Yo 0 O (fun _=>Vd O X3w 2)<|Ye 1 O (X0 O X8y (e.at 2))<|YA 2 O O<|Yi (k:=i) (u:=C) (enc:=encD) (l:=p.cells) 3 O tv0 O O X3l X1m X2s (aC.bx n) a8 O ?_;intro bC aB;refine Ye 4 O (X07 (l:=[vi C.num.a,vi C.num.b,vi C.num.c,vi C.num.d,vi C.exp]) O X0v aB O)<|Ye 5 O (Vn X0v g)<|Yo 6 O (fun _=>Y8w O O Y4j (fun w=>eqD 9997 C (⟨(rTurn u16.num k),u16.exp⟩ : Dy) w))<|Yd fun a j=>aQ _ _<|Xx j O ?_ ?_<;>intro t
  ·have aZ:=t;have b0:¬ C=dTurn k u16:=by intro e9;revert t;rw[e9];simp[dTurn]
   have hn:turnedS p q k=false:=by have h8:¬ p.cells=q.cells.map (dTurn k):=(by intro e9;have h7:=Xlr (f:=dTurn k) h;rw[<- e9,a8] at h7;injection h7 with h7;exact b0 h7);simp[turnedS,h8]
   exact ZS j fun aR=>Za O<|Zt aR fun a j=>Q6<|Xu<|X9<|X9<|Xu<|X9<|X6 j (Xq j O O)<|⟨by rw[hn],n⟩
  have b1:C=dTurn k u16:=by simpa[dTurn] using t
  exact Q7<|Xd<|aM _ _<|Zr j<|Ze (Xr O O Z Z)<|Zm O<|Zn fun a j=>Xh<|⟨i+1,⟨j.sb,Z,(Xyw y a8 (Xlr h) b1),e,n⟩,Z⟩
 refine Q9<|Xk<|Xk<|X06<|aH _ _<|ZS j fun aS=>Za O<|Zt aS fun a j=>Q6 (X6 j (Xq j O O) ?_);have he:p.cells=q.cells.map (dTurn k):=by rw[Qi Z,Qi O6] at y;exact y
 exact ⟨by simp[turnedS,aG.1,aG.2,<- he],n⟩
def Ycj(l:World)(p:Mx)(Ap:Option Addr)(cp:Nat)(a7:Rw l 137 encD Ap p.cells)(q:Mx)(Aq:Option Addr)(cq:Nat)(a8:Rw l 137 encD Aq q.cells)(aF:p.cells.length=q.cells.length)(aG:q.cells.length<=2305843009213693951):RE 30 [.agg #[vi p.rows,vi p.cols,.slice Ap p.cells.length cp],.agg #[vi q.rows,vi q.cols,.slice Aq q.cells.length cq]] l (fun v w=>∃ i:Int,v=.tuple #[vi i,.bool (phaseS p q)]/\Bl l w):=by
 refine enter func30 O 16 O O ?_;intro a b;have d:=bz l;refine ZS b fun aH=>Zf (X0n (zs:=[vi p.rows,vi p.cols,.slice Ap p.cells.length cp]) O O) ?_;rintro _ w1 ⟨b4,rfl,aI,m,c⟩;have aO:=Q0 d.size aI;have d:=btr d m;refine Zf (X0n (zs:=[vi q.rows,vi q.cols,.slice Aq q.cells.length cq]) O O) ?_;rintro _ w2 ⟨b5,rfl,aJ,m,e⟩;have aE:b4≠b5:=by have:=c.lt;omega
 have aP:=Q0 d.size aJ;have c:=c.bw m;have d:=btr d m;refine Za O<|Za O<|ZX aH fun a b _ aK=>ZS b fun aL=>Za O<|Zt aL fun a b=>Q8<|X04 (σ:=Nat) (fun (k:Nat) (a:Act) (w:World)=>Fr a 16 [(2,(pZ9 b4)),(3,(pZ9 b5)),(6,vi (k:Int))]/\(k<=8)/\(∀ j<k,turnedS p q ((j:Nat) : Int)=false)/\Blk w b4 67 [vi p.rows,vi p.cols,.slice Ap p.cells.length cp]/\Blk w b5 67 [vi q.rows,vi q.cols,.slice Aq q.cells.length cq]/\Bl l w) (fun (k:Nat)=>8-k) 0 ?_ ?_
 ·exact ⟨b.sb,Z,(fun j hj=>by omega),c,e,d⟩
 intro k a w3 ⟨b,hk,n,c,e,d⟩;refine Q5 fun _ aM=>ZS b fun aN=>Zm O<|Ze (X16 O O)<|Zt aN fun a b=>X0y b O (fun a6 o=>?_) (fun a6 o=>?_)
 ·have aQ:(k:Int)<8:=o;refine Q7<|aM _ _<|Q5 fun _ aA=>Q8<|ZS b fun aB=>Ze (Vn X3a c)<|Ze (Vn X3a e)<|Zm O<|Zf (Vc (Ycv _ p Ap cp (a7.bx d).top q Aq cq (a8.bx d).top (k:Int) aF aG) Y41) ?_;rintro _ w4 ⟨rfl,m⟩;have ⟨c,e,d⟩:=mv3 m c e d;refine Zt aB fun a b=>Xx b O ?_ ?_<;>intro g
  ·have hT:turnedS p q (k:Int)=true:=g;exact ZS b fun aC=>Zm O<|Za O<|Za O<|Zt aC fun a b=>Q6<|Xu<|X9<|X9<|Xu<|X9<|X6 b (X1q b O O O)<|⟨_,by rw[phaseS,Xnu (f:=fun k=>turnedS p q ((k:Nat) : Int)) (k:=k) Z hT],d⟩
  have hT:turnedS p q (k:Int)=false:=g;exact Q7<|Xd<|aA _ _<|Zr b<|Zm O<|Ze (Xr O O Z Z)<|Za O<|Zn fun a b=>Xh<|⟨k+1,⟨b.sb,Z,(fun j hj=>by rcases W4 j k with h9|h9;exact n j h9;obtain rfl:j=k:=Z;exact hT),c,e,d⟩,Z⟩
 refine Q9<|Xk<|Xk<|X06<|aK _ _<|ZS b fun aD=>Za O<|Za O<|Zt aD fun a b=>Q6 (X6 b (X1q b O O O) ?_);exact ⟨_,by rw[phaseS,Xj7 (fun j hj=>n j Z)],d⟩
theorem Ycf(w0:World)(n:Int)(g:Gt)(hn:1<=n/\n<=5):RE 85 [vi n,.agg #[vi g.k,vi g.a,vi g.b]] w0 (fun v w=>v=.bool (gOk n g)/\Bl w0 w):=by
 refine enter func85 O 55 O O ?_;intro a j;have hW:=bz w0;refine ZS j fun a8=>Zf (X0n (zs:=[vi g.k,vi g.a,vi g.b]) O O) ?_;rintro _ w1 ⟨b2,rfl,aA,hE,o⟩;have aG:=Q0 hW.size aA;have hW:=btr hW hE;refine Za O<|ZX a8 fun a j _ aB=>Q8<|ZS j fun aC=>Ze (Vd O X1e 0)<|Ze (X0 O X8 (o.at 0))<|Zf (Vc (F85 _ g.k 1 8) X4n) ?_;rintro _ _ ⟨rfl,rfl⟩;refine Za O<|Zt aC fun a j=>Xx j O ?_ ?_<;>intro i
 ·have p:=Ydp hn i;refine Q5 fun _ aD=>X0i (fun a w=>Fr a 55 [(4,.bool ((inR g.a 0 (n-1))&&(g.b==0)))]/\w1=w) ?_ ?_
  ·refine Zr j<|Ze (Vd O X0j 1)<|Ze (X0 O X8 (o.at 1))<|Zm O<|Ze (X1j O O Z Z)<|Zf (Vc (F85 _ g.a 0 (n-1)) X4n) ?_;rintro _ _ ⟨rfl,rfl⟩;refine Zm O<|Zg 14 O ?_ ?_<;>intro m
   ·refine Zv (gW m) (Vd O X1g 2) ?_;refine Zv (gW m) (X0 O X8 (o.at 2)) ?_;refine Zv (gW m) (X0l O O)<|Ze (Xc O m O)<|Za O<|Zn fun a j=>?_;exact ⟨j.sub ⟨X1 O (by simp[i,m]),trivial⟩,O⟩
   (iterate 3 refine Zp (gP m) ?_);exact Ze (Xi O m O)<|Za O<|Zn fun a j=>⟨j.sub ⟨X1 O (by simp[i,m]),trivial⟩,O⟩
  rintro a _ ⟨j,rfl⟩;exact aD _ _<|Q6<|Xu<|X9<|X6 j (Xq j O O)<|⟨by rw[p],hW⟩
 have aE:=i;refine ZS j fun aF=>Ze (Vd O X1e 0)<|Ze (X0 O X8 (o.at 0))<|Zf (Vc (F85 _ g.k 9 11) X4n) ?_;rintro _ _ ⟨rfl,rfl⟩;refine Za O<|Zt aF fun a j=>Xx j O ?_ ?_<;>intro l
 ·have p:=Ydq hn l;refine Q5 fun _ a6=>X0i (fun a w=>Fr a 55 [(4,.bool (((inR g.a 0 (n-1))&&(inR g.b 0 (n-1)))&&(g.a != g.b)))]/\w1=w) ?_ ?_
  ·refine Zr j<|Ze (Vd O X0j 1)<|Ze (X0 O X8 (o.at 1))<|Zm O<|Ze (X1j O O Z Z)<|Zf (Vc (F85 _ g.a 0 (n-1)) X4n) ?_;rintro _ _ ⟨rfl,rfl⟩;refine Zm O<|Zg 28 O ?_ ?_<;>intro c
   ·refine Zv (gW c) (Vd O X1g 2) ?_;refine Zv (gW c) (X0 O X8 (o.at 2)) ?_;refine Zv (gW c) (X5 O) ?_;refine Zv (gW c) (X1j O O Z Z) ?_;refine Zk (gW c) (Vc (F85 _ g.b 0 (n-1)) X4n) ?_;rintro _ _ ⟨rfl,rfl⟩;refine Ze (Xc O c O)<|Zm O<|Zg 35 O ?_ ?_<;>intro d
    ·refine Zv (gW d) (Vd O X0j 1) ?_;refine Zv (gW d) (X0 O X8 (o.at 1)) ?_;refine Zv (gW d) (Vd O X1g 2) ?_;refine Zv (gW d) (X0 O X8 (o.at 2)) ?_;refine Zv (gW d) (X28 O O)<|Ze (Xc O d O)<|Za O<|Zn fun a j=>?_;exact ⟨j.sub ⟨X1 O (by simp[i,l,c,d]),trivial⟩,O⟩
    (iterate 5 refine Zp (gP d) ?_);exact Ze (Xi O d O)<|Za O<|Zn fun a j=>⟨j.sub ⟨X1 O (by simp[i,l,c,d]),trivial⟩,O⟩
   (iterate 5 refine Zp (gP c) ?_);refine Ze (Xi O c O)<|Zm O<|Zp (gP O) ?_;(iterate 4 refine Zp (gP O) ?_);exact Ze (Xi O O O)<|Za O<|Zn fun a j=>⟨j.sub ⟨X1 O (by simp[i,l,c]),trivial⟩,O⟩
  rintro a _ ⟨j,rfl⟩;exact a6 _ _<|Q6<|Xu<|X9<|X6 j (Xq j O O)<|⟨by rw[p],hW⟩
 have p:=Ydr hn aE l;refine Q7<|Xd<|aB _ _<|Q5 fun _ a7=>X0i (fun a w=>Fr a 55 [(4,.bool (((g.k==12)&&(g.a==0))&&(g.b==0)))]/\w1=w) ?_ ?_
 ·refine Zr j<|Ze (Vd O X1e 0)<|Ze (X0 O X8 (o.at 0))<|Ze (X0l O O)<|Zm O<|Zg 45 O ?_ ?_<;>intro e
  ·refine Zv (gW e) (Vd O X0j 1) ?_;refine Zv (gW e) (X0 O X8 (o.at 1)) ?_;refine Zv (gW e) (X0l O O)<|Ze (Xc O e O)<|Zm O<|Zg 50 O ?_ ?_<;>intro f
   ·refine Zv (gW f) (Vd O X1g 2) ?_;refine Zv (gW f) (X0 O X8 (o.at 2)) ?_;refine Zv (gW f) (X0l O O)<|Ze (Xc O f O)<|Za O<|Zn fun a j=>?_;exact ⟨j.sub ⟨X1 O (by simp[i,l,e,f]),trivial⟩,O⟩
   (iterate 3 refine Zp (gP f) ?_);exact Ze (Xi O f O)<|Za O<|Zn fun a j=>⟨j.sub ⟨X1 O (by simp[i,l,e,f]),trivial⟩,O⟩
  (iterate 3 refine Zp (gP e) ?_);refine Ze (Xi O e O)<|Zm O<|Zp (gP O) ?_;(iterate 2 refine Zp (gP O) ?_);exact Ze (Xi O O O)<|Za O<|Zn fun a j=>⟨j.sub ⟨X1 O (by simp[i,l,e]),trivial⟩,O⟩
 rintro a _ ⟨j,rfl⟩;refine a7 _ _<|Q6 (X6 j (Xq j O O) ?_);exact ⟨by rw[p],hW⟩
def F53(p:World)(c:Cx)(Ac:Option Addr)(cc:Nat)(aA:Rw p 45 encG Ac c.gs):RE 51 [.agg #[vi c.n,.slice Ac c.gs.length cc]] p (fun v w=>v=.bool (cOk c)/\Bl p w):=by
 refine enter func51 O 28 O O ?_;intro a d
 have i:=bz p
 refine ZS d fun aO=>Zf (X0n (zs:=[vi c.n,.slice Ac c.gs.length cc]) O O) ?_;rintro _ w1 ⟨b3,rfl,aP,hE,f⟩;have aX:=Q0 i.size aP;have i:=btr i hE;refine Za O<|ZX aO fun a d _ aQ=>Q5 fun _ aR=>X0i (fun a w=>Fr a 28 [(1,(pZ9 b3)),(14,.bool ((!(inR c.n 1 5))||(decide (400<(c.gs.length:Int)))))]/\w1=w) ?_ ?_
 ·refine Zr d<|Ze (Vd O X1z 0)<|Ze (X0 O X8 (f.at 0))<|Zf (Vc (F85 _ c.n 1 5) X4n) ?_;rintro _ _ ⟨rfl,rfl⟩;refine Ze (X1i O)<|Zm O<|Zg 9 O ?_ ?_<;>intro e
  ·(iterate 4 refine Zp (gP e) ?_);exact Ze (Xc O e O)<|Zn fun a d=>⟨d.sub ⟨O,X1 O (by simp[e]),trivial⟩,O⟩
  refine Zv (gW e) (Vd O X18 1) ?_;refine Zv (gW e) (X0 O X2o (f.at 1)) ?_;refine Zv (gW e) (X0w O X0u) ?_;refine Zv (gW e) (X52 O O) ?_;refine Ze (Xi O e O) ?_;exact Zn fun a d=>⟨d.sub ⟨O,X1 O (by first|rfl|(simp only[e,bs];done)|simp[e]),trivial⟩,O⟩
 rintro a _ ⟨d,rfl⟩;refine aR _ _<|Xx d O ?_ ?_<;>intro m
 ·have aB:=m
  have hn:(inR c.n 1 5&&decide ((c.gs.length:Int)<=400))=false:=by revert m;cases inR c.n 1 5<;>simp
  exact ZS d fun aS=>Za O<|Zt aS fun a d=>Q6<|X9<|X6 d (Xq d O O)<|⟨by rw[cOk,hn];rfl,i⟩
 have aB:=m
 have hy:(inR c.n 1 5&&decide ((c.gs.length:Int)<=400))=true:=by revert m;cases inR c.n 1 5<;>simp
 have aC:=(Qd _ _▸hy:inR c.n 1 5=true/\decide ((c.gs.length:Int)<=400)=true);have hn:=X11.1 aC.1;have aY:=Q2 aC.2;refine Q7<|aQ _ _<|Q5 fun _ aT=>ZS d fun aD=>Ze (Vd O X18 1)<|Ze (X0 O X2o (f.at 1))<|Ze (X0w O X0u)<|Zm O<|Zt aD fun a d=>Q8<|X04 (σ:=Nat) (fun (k:Nat) (a:Act) (w:World)=>Fr a 28 [(1,(pZ9 b3)),(16,.slice Ac c.gs.length cc),(17,vi (c.gs.length:Int)),(18,vi (k:Int))]/\(k<=c.gs.length)/\((c.gs.take k).all (fun x=>gOk c.n x)=true)/\Blk w b3 26 [vi c.n,.slice Ac c.gs.length cc]/\Bl p w) (fun (k:Nat)=>c.gs.length+1-k) 0 ?_ ?_
 ·exact ⟨d.sb,(Qf _),O4,f,i⟩
 rintro k a w2 ⟨d,hk,q,f,i⟩;refine ZS d fun aE=>Ze (X16 O O)<|ZX aE fun a d _ aF=>X0y d O (fun a6 aG=>?_) (fun a6 aG=>?_)
 ·obtain ⟨g,o⟩:=Xa (l:=c.gs) (k:=k) Z
  refine Q7<|aF _ _<|Q5 fun _ aH=>Q8<|ZS d fun aI=>Zi (k:=k) (u:=g) (enc:=encG) (l:=c.gs) tv0 O O X0u X1n X0q (aA.bx i) o O ?_;intro aZ a7;refine Ze (X07 (l:=[vi g.k,vi g.a,vi g.b]) O X12 a7 O)<|ZB [vi g.k,vi g.a,vi g.b] X5l X1n fun b0 w4 aJ hE aK=>?_;have aU:=Q0 i.size aJ;have f:=f.bw hE;have i:=btr i hE;refine Zx aI fun a d _ aL=>Ze (Vd O X1z 0)<|Ze (X0 O X8 (f.at 0))<|Ze (Vn X12 aK)<|Zf (Vc (Ycf _ c.n g hn) Y3l) ?_;rintro _ w5 ⟨rfl,hE⟩;have f:=f.bw hE;have i:=btr i hE;refine Ze (X1i O)<|Zt aL fun a d=>Xx d O ?_ ?_<;>intro j
  ·have a8:(c.gs.any fun x=>!gOk c.n x)=true:=X6s o j
   exact ZS d fun aM=>Za O<|Zt aM fun a d=>Q6<|Xu<|X9<|X9<|Xu<|X9<|X6 d (Xq d O O)<|⟨by rw[cOk,hy,a8];rfl,i⟩
  have aV:=j
  have aW:gOk c.n g=true:=by revert j;cases gOk c.n g<;>simp
  exact Q7<|Xd<|aH _ _<|Zr d<|Ze (Xr O O Z Z)<|Zm O<|Zn fun a d=>Xh<|⟨k+1,⟨d.sb,Z,(X5a q o aW),f,i⟩,Z⟩
 refine Q9<|Xk<|Xk<|X06<|aT _ _<|ZS d fun aN=>Za O<|Zt aN fun a d=>Q6 (X6 d (Xq d O O) ?_)
 have a8:(c.gs.any fun x=>!gOk c.n x)=false:=X5r (by simpa using X50 q Z)
 exact ⟨by rw[cOk,hy,a8];rfl,i⟩
section
end
end Go.Proofs.YthbobfjhofgfdaaGreat
namespace Go.Proofs
open Go.Proofs.Tryz
open Go.Shelf Go.Proofs.Tryz
def Tryz.lays189_ren:Go.Shelf.Ren:=⟨fun|189=>177|125=>133|257=>198|128=>175|129=>176|294=>209|295=>210|296=>211|297=>212|298=>213|299=>214|216=>215|300=>216|301=>217|328=>219|329=>194|330=>195|331=>220|332=>221|215=>166|343=>222|n=>n,fun|28=>42|3=>3|46=>107|0=>0|51=>193|53=>35|4=>4|183=>187|182=>186|131=>70|5=>5|9=>9|218=>203|222=>207|228=>214|229=>215|n=>n,fun|n=>n⟩
def Tryz.lays189:Go.Proofs.Lays.n189 prog Tryz.lays189_ren:={
  mixed:=by kernel_rfl
  f125:=func133.trans (congrArg some (by kernel_rfl))
  f128:=func175.trans (congrArg some (by kernel_rfl))
  f129:=func176.trans (congrArg some (by kernel_rfl))
  f189:=func177.trans (congrArg some (by kernel_rfl))
  f215:=func166.trans (congrArg some (by kernel_rfl))
  f216:=func215.trans (congrArg some (by kernel_rfl))
  f257:=func198.trans (congrArg some (by kernel_rfl))
  f294:=func209.trans (congrArg some (by kernel_rfl))
  f295:=func210.trans (congrArg some (by kernel_rfl))
  f296:=func211.trans (congrArg some (by kernel_rfl))
  f297:=func212.trans (congrArg some (by kernel_rfl))
  f298:=func213.trans (congrArg some (by kernel_rfl))
  f299:=func214.trans (congrArg some (by kernel_rfl))
  f300:=func216.trans (congrArg some (by kernel_rfl))
  f301:=func217.trans (congrArg some (by kernel_rfl))
  f328:=func219.trans (congrArg some (by kernel_rfl))
  f329:=func194.trans (congrArg some (by kernel_rfl))
  f330:=func195.trans (congrArg some (by kernel_rfl))
  f331:=func220.trans (congrArg some (by kernel_rfl))
  f332:=func221.trans (congrArg some (by kernel_rfl))
  f343:=func222.trans (congrArg some (by kernel_rfl))
  t0:=underlying0
  a0:=isAgg0
  z0:=sizeOf0
  v0:=zeroValue0
  t3:=underlying3
  a3:=isAgg3
  z3:=sizeOf3
  v3:=zeroValue3
  t4:=underlying4
  a4:=isAgg4
  z4:=sizeOf4
  v4:=zeroValue4
  t5:=underlying5
  a5:=isAgg5
  z5:=sizeOf5
  v5:=zeroValue5
  t9:=underlying9
  a9:=isAgg9
  z9:=sizeOf9
  v9:=zeroValue9
  t28:=underlying42
  a28:=isAgg42
  z28:=sizeOf42
  v28:=zeroValue42
  t46:=underlying107
  a46:=isAgg107
  z46:=sizeOf107
  v46:=zeroValue107
  t51:=underlying193
  a51:=isAgg193
  z51:=sizeOf193
  v51:=zeroValue193
  t53:=underlying35
  a53:=isAgg35
  z53:=sizeOf35
  v53:=zeroValue35
  t131:=underlying70
  a131:=isAgg70
  z131:=sizeOf70
  v131:=zeroValue70
  t182:=underlying186
  a182:=isAgg186
  z182:=sizeOf186
  v182:=zeroValue186
  t183:=underlying187
  a183:=isAgg187
  z183:=sizeOf187
  v183:=zeroValue187
  t218:=underlying203
  a218:=isAgg203
  z218:=sizeOf203
  v218:=zeroValue203
  t222:=underlying207
  a222:=isAgg207
  z222:=sizeOf207
  v222:=zeroValue207
  t228:=underlying214
  a228:=isAgg214
  z228:=sizeOf214
  v228:=zeroValue214
  t229:=underlying215
  a229:=isAgg215
  z229:=sizeOf215
  v229:=zeroValue215 }
open Go.Sort Go.RowKit in
def Tryz.slices_Sort_int(blk off cap:Nat)(zs:List Int)(w:World)(hH:Holds (Value.int .i64) w blk off zs.toArray)(hblk:blk<w.heap.size)(hsz:zs.length<4611686018427387904) :
    Calls prog 177 #[.slice (some ⟨blk,off,none⟩) zs.length cap] w fun e w'=>
      e=.returned (.tuple #[])/\∃ n os,w'=grow (putRow (Value.int .i64) (Sort.ahead w n) blk off (zs.mergeSort fun x y=>decide (x<=y)).toArray) os:=Any.slices_Sort_int Tryz.lays189 blk off cap zs w hH hblk hsz
def Tryz.laysNm215_ren:Go.Shelf.Ren:=⟨fun|15=>203|n=>n,fun|22=>42|3=>3|4=>4|n=>n,fun|n=>n⟩
def Tryz.laysNm215:Go.Proofs.Lays2.n15 prog Tryz.laysNm215_ren:={
  mixed:=by kernel_rfl
  f15:=func203.trans (congrArg some (by kernel_rfl))
  t3:=underlying3
  a3:=isAgg3
  z3:=sizeOf3
  v3:=zeroValue3
  t4:=underlying4
  a4:=isAgg4
  z4:=sizeOf4
  v4:=zeroValue4
  t22:=underlying42
  a22:=isAgg42
  z22:=sizeOf42
  v22:=zeroValue42
  i3:=by kernel_rfl }
open Go.RowKit Go.Lib in
def Tryz.slices_Clone_int(b off n c:Nat)(zs:List Int)(w:World)(hz:n<=zs.length)(hbig:n*8<=140737488355328)(hc:∀ j,j<zs.length->w.cell? ⟨b,off+j,none⟩=some (.int .i64 (zs.getD j 0))) :
    Calls prog 203 #[.slice (some ⟨b,off,none⟩) n c] w fun e w'=>∃ v',e=.returned v'/\w'.ownsRow w.heap.size 3 1 v' n ((zs.take n).map (Value.int .i64))/\v'≠.slice none 0 0/\Below w.heap.size w w':=Any.slices_Clone_int Tryz.laysNm215 b off n c zs w hz hbig hc
open Go.RowKit Go.Lib in
def Tryz.slices_Clone_int_nil(n c:Nat)(w:World) :
    Calls prog 203 #[.slice none n c] w fun e w'=>e=.returned (.slice none 0 0)/\w'=w:=Any.slices_Clone_int_nil Tryz.laysNm215 n c w
open Go.RowKit Go.Lib in
def Tryz.slices_Clone_int_zero(a:Addr)(c:Nat)(w:World) :
    Calls prog 203 #[.slice (some a) 0 c] w fun e w'=>∃ v',e=.returned v'/\w'.ownsRow w.heap.size 3 1 v' 0 []/\v'≠.slice none 0 0/\Below w.heap.size w w':=Any.slices_Clone_int_zero Tryz.laysNm215 a c w
def Tryz.laysNm220_ren:Go.Shelf.Ren:=⟨fun|20=>185|n=>n,fun|22=>42|3=>3|4=>4|0=>0|n=>n,fun|n=>n⟩
def Tryz.laysNm220:Go.Proofs.Lays2.n20 prog Tryz.laysNm220_ren:={
  mixed:=by kernel_rfl
  f20:=func185.trans (congrArg some (by kernel_rfl))
  t0:=underlying0
  a0:=isAgg0
  z0:=sizeOf0
  v0:=zeroValue0
  t3:=underlying3
  a3:=isAgg3
  z3:=sizeOf3
  v3:=zeroValue3
  t4:=underlying4
  a4:=isAgg4
  z4:=sizeOf4
  v4:=zeroValue4
  t22:=underlying42
  a22:=isAgg42
  z22:=sizeOf42
  v22:=zeroValue42
  i3:=by kernel_rfl }
open Go.RowKit Go.Lib Go.Sort in
def Tryz.slices_Compact_int(blk off cap:Nat)(zs:List Int)(w:World)(hH:Holds (Value.int .i64) w blk off zs.toArray)(hsz:zs.length<=9223372036854775807)(hcap:zs.length<=cap) :
    Calls prog 185 #[.slice (some ⟨blk,off,none⟩) zs.length cap] w fun e w'=>e=.returned (.slice (some ⟨blk,off,none⟩) (Lib.compact zs).length cap)/\∃ q,w'=putRow (Value.int .i64) (Sort.ahead w q) blk off (Lib.compact zs++List.replicate (zs.length-(Lib.compact zs).length) 0).toArray:=Any.slices_Compact_int Tryz.laysNm220 blk off cap zs w hH hsz hcap
open Go.RowKit Go.Lib Go.Sort in
def Tryz.slices_Compact_int_empty(a:Option Addr)(cap:Nat)(w:World) :
    Calls prog 185 #[.slice a 0 cap] w fun e w'=>e=.returned (.slice a 0 cap)/\w'=w:=Any.slices_Compact_int_empty Tryz.laysNm220 a cap w
end Go.Proofs
