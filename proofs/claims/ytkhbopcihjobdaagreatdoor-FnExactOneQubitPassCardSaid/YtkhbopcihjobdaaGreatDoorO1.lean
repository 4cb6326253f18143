/-
  For every circuit, the program's OneQubitPass answers as the reference's does, leaves its argument as it was and hands out memory of its own; the argument and the package's variable half read as before. Conditions: none beside the variable's value that the card ties to the program's text.
-/
import Derived.WalkKit
import Derived.Maps.AppendAt
import Derived.Test.YtkhbopcihjobdaaGreatDoorProg
import Derived.Laws.StructEq
set_option linter.unusedVariables false
set_option linter.defProp false
set_option linter.unusedSimpArgs false
set_option maxRecDepth 8000
set_option linter.unusedSectionVars false
namespace Go.Proofs.YtkhbopcihjobdaaGreatDoor
open Go.RowKit Go.Proofs.Tryz
def O{α:Sort _}{a:α}:a=a:=rfl
def O0{p:Prop}(h:p:=by omega):p:=h
def O1{p:Prop}(h:p:=by decide +kernel):p:=h
def O2{p:Prop}(h:p:=by decide):p:=h
def O3{p:Prop}(h:p:=by first|omega|(dsimp only;omega)):p:=h
def O4{p:Prop}(h:p:=by kernel_rfl):p:=h
def O5{p:Prop}(h:p:=by simp;omega):p:=h
def O6{p:Prop}(h:p:=by simp):p:=h
def O7{p:Prop}(h:p:=by rw[Nat.zero_mul];rfl):p:=h
def O8{p:Prop}(h:p:=by dsimp only;omega):p:=h
def O9{p:Prop}(h:p:=by assumption):p:=h
abbrev Q0:=@Nat.le_trans
abbrev Q1:=@of_decide_eq_false
abbrev Q2:=@of_decide_eq_true
abbrev Q3:=@if_neg
abbrev Q4:=@if_pos
abbrev Q5:=@wp_seq_k
abbrev Q6:=@wp_ret
abbrev Q7:=@wp_skip
abbrev Q8:=@wp_block
abbrev Q9:=@wp_exit
abbrev Qa:=@List.getD_eq_getElem?_getD
abbrev Qb:=@Nat.le_refl
abbrev Qc:=@List.getElem?_eq_getElem
abbrev Qd:=@Bool.and_eq_true
abbrev Qe:=@List.mem_of_getElem?
abbrev Qf:=@Nat.zero_le
abbrev Qg:=@List.getElem?_eq_some_iff
abbrev Qh:=@List.length_append
abbrev Qi:=@List.take_of_length_le
abbrev Qj:=@Int.toNat_natCast
abbrev Qk:=@List.mem_cons_self
abbrev Ql:=@List.mem_cons_of_mem
abbrev Qm:=@List.mem_singleton
abbrev Qn:=@List.length_take
abbrev Qo:=@List.length_map
abbrev Qp:=@Array.getElem?_eq_some_iff
abbrev Qq:=@Option.getD_some
abbrev Qr:=@decide_eq_true_eq
abbrev Qs:=@List.length_cons
abbrev Qt:=@List.take_add_one
abbrev Qu:=@List.mem_append
abbrev Qv:=@List.mem_cons
abbrev Qw:=@Bool.true_and
abbrev Qx:=@List.append_assoc
abbrev Qy:=@List.drop_eq_getElem_cons
abbrev Qz:=@Option.bind_some
abbrev W0:=@List.pairwise_iff_getElem
abbrev W1:=@List.all_eq_true
abbrev W2:=@List.mem_range
abbrev W3:=@List.drop_of_length_le
abbrev W4:=@Nat.lt_or_ge
abbrev W5:=@List.getElem?_append_right
abbrev W6:=@List.mem_map
abbrev W7:=@List.any_eq_false
abbrev W8:=@List.pairwise_cons
abbrev W9:=@List.take_append_drop
abbrev Wa:=@List.cons_append
abbrev Wb:=@Nat.add_mul
abbrev Wc:=@List.flatMap_cons
abbrev Wd:=@List.mem_of_mem_take
abbrev We:=@Array.getElem?_eq_none
abbrev Wf:=@List.take_succ_eq_append_getElem
abbrev Wg:=@List.getElem?_take_of_lt
abbrev Wh:=@Array.getElem?_setIfInBounds_ne
abbrev Wi:=@Nat.mul_comm
abbrev vi(x:Int) : Value:=.int .i64 x
abbrev ae(b:Nat):Value:=.pointer (some ⟨b,0,none⟩)
def ad:True:=trivial
def ge(t:Nat) : List (Nat×Value)->Option Value
 | []=>none
 | (k,v)::l=>match Nat.beq k t with
  | true=>some v
  | false=>ge t l
structure Fr (a:Act) (n:Nat) (e:List (Nat×Value)) : Prop where
 d:a.defers=[]
 s:a.tmps.size=n
 h:∀ t v,ge t e=some v->a.tmps[t]? = some v
def ev(e:List (Nat×Value)) : Operand->Option Value
 | .tmp t=>ge t e
 | .const v=>some v
 | .global g=>some (.pointer (some ⟨g,0,none⟩))
 | .func f=>some (.func (.func f) #[] #[])
def Fr.ev{a:Act}{n:Nat}{e:List (Nat×Value)}{x:Operand}{v:Value}(hf:Fr a n e)(hx:ev e x=some v):a.eval x=v:=by
 cases x with
 | tmp t=>
  have:=hf.h t v hx;simp[Act.eval,this]
 | const u=>simpa[YtkhbopcihjobdaaGreatDoor.ev,Act.eval] using hx
 | global g=>simpa[YtkhbopcihjobdaaGreatDoor.ev,Act.eval] using hx
 | func f=>simpa[YtkhbopcihjobdaaGreatDoor.ev,Act.eval] using hx
def evs(e:List (Nat×Value)) : List Operand->Option (List Value)
 | []=>some []
 | x::l=>match ev e x,evs e l with
  | some v,some vs=>some (v::vs)
  | _,_=>none
def Fr.evs{a:Act}{n:Nat}{e:List (Nat×Value)}(hf:Fr a n e):∀ {l:List Operand} {vs:List Value},evs e l=some vs->l.map a.eval=vs:=by
 intro l
 induction l with
 | nil=>intro vs h;simpa[YtkhbopcihjobdaaGreatDoor.evs] using h
 | cons x l ih=>
  intro vs h;simp only[YtkhbopcihjobdaaGreatDoor.evs] at h;split at h
  ·rename_i v us h1 h2;injection h with h;subst h;simp[hf.ev h1,ih h2]
  ·cases h
def DQ(d:Nat)(v:Value)(e:List (Nat×Value)):ge d ((d,v)::e)=some v:=by simp[ge]
def B7{d t:Nat}(v:Value)(e:List (Nat×Value))(h:d≠t):ge t ((d,v)::e)=ge t e:=by
 have:Nat.beq d t=false:=by
  cases hb:Nat.beq d t
  ·rfl
  ·exact absurd (Nat.eq_of_beq_eq_true hb) h
 simp[ge,this]
def Fr.put{a:Act}{n:Nat}{e:List (Nat×Value)}(hf:Fr a n e)(d:Nat)(v:Value)(hd:Nat.blt d n=true):Fr (a.put (some d) v) n ((d,v)::e):=by
 have hd':d<n:=by simpa[Nat.blt_eq] using hd
 refine ⟨hf.d,by simp[Act.put,hf.s],fun t u hu=>?_⟩;by_cases h:d=t
 ·subst h;rw[DQ] at hu;injection hu with hu;subst hu;simp[Act.put,hf.s,hd']
 ·rw[B7 _ _ h] at hu;simp[Act.put,Wh h,hf.h t u hu]
def Fr.put_none{a:Act}{n:Nat}{e:List (Nat×Value)}(hf:Fr a n e)(v:Value):Fr (a.put none v) n e:=hf
def Sub(e:List (Nat×Value)) : List (Nat×Value)->Prop
 | []=>True
 | (t,v)::l=>ge t e=some v/\Sub e l
def Fr.sub{a:Act}{n:Nat}{e e':List (Nat×Value)}(hf:Fr a n e)(hs:Sub e e'):Fr a n e':=by
 refine ⟨hf.d,hf.s,?_⟩
 induction e' with
 | nil=>intro t v h;cases h
 | cons p l ih=>
  have ⟨k,u⟩:=p;intro t v h;by_cases hk:k=t
  ·subst hk;rw[DQ] at h;injection h with h;subst h;exact hf.h _ _ hs.1
  ·rw[B7 _ _ hk] at h;exact ih hs.2 t v h
def Fr.sb{a:Act}{n:Nat}{e e':List (Nat×Value)}(hf:Fr a n e)(hs:Sub e e':=by repeat (first|exact trivial|refine ⟨rfl,?_⟩)):Fr a n e':=hf.sub hs
def ny:Nat->List Value->List (Nat×Value)
 | _,[]=>[]
 | k,v::l=>(k,v)::ny (k+1) l
def M'{l:List Value}{t:Nat}{v:Value}:∀ {k:Nat},ge t (ny k l)=some v->k<=t/\l[t-k]? = some v:=by
 induction l with
 | nil=>intro k h;cases h
 | cons u l ih=>
  intro k h;simp only[ny] at h;by_cases hk:k=t
  ·subst hk;rw[DQ] at h;exact ⟨Qb _,by simpa using h⟩
  ·rw[B7 _ _ hk] at h;have ⟨h1,h2⟩:=ih h;refine ⟨by omega,?_⟩;have:t-k=(t-(k+1))+1:=by omega
   rw[this,List.getElem?_cons_succ];exact h2
def SI{P:Program}{f:FuncId}{fn:Func}{c:Code}{args:List Value}{w:World}{R:Ending->World->Prop}
  (hf:P.funcs[f]? = some fn) (hb:fn.body=some c) (n:Nat) (hn:fn.ntmps=n) (hl:Nat.ble args.length n=true)
  (h:∀ a,Fr a n (ny 0 args)->c.wp P (bodyPost P fn R) a w) : Calls P f args.toArray w R:=by
 refine calls_of_wp hf hb (h _ ⟨O,?_,?_⟩)
 ·have:args.length<=n:=by simpa[Nat.ble_eq] using hl
  simp[hn];omega
 ·intro t v hv;have ⟨_,h2⟩:=M' hv;have hlt:t<args.length:=by
   have:=(Qg.1 h2).1;simpa using this
  simp only[Nat.sub_zero] at h2;rw[Array.getElem?_append_left (by simpa using hlt)];simpa using h2
def Ev(P:Program)(o:Oper)(a:Act)(w:World)(v:Value) : Prop:=∀ w',Below w.heap.size w w'->(execOp a.eval o).run P w'=.ok (.value v) w'
def wI(P:Program)(R:Value->World->Prop) : Result Next->Prop
 | .ok (.value v) w'=>R v w'
 | .ok .skip w'=>R undef w'
 | .ok (.enter f args) w'=>Calls P f args w' fun e w''=>∃ v,e=.returned v/\R v w''
 | .ok (.row row args) w'=>Rows P row args w' R
 | _=>False
def Ef(P:Program)(o:Oper)(a:Act)(w:World)(R:Value->World->Prop) : Prop:=wI P R ((execOp a.eval o).run P w)
def Ef.wp{P:Program}{o:Oper}{a:Act}{w:World}{R:Value->World->Prop}(h:Ef P o a w R){K:Act->World->Prop}{Q:Exit->Act->World->Prop}
  (hK:∀ v w',R v w'->K (a.put o.dst v) w') : o.wp P a w K Q:=by
 unfold Ef at h;unfold Oper.wp;generalize (execOp a.eval o).run P w=r at *;cases r with
 | ok nx w'=>
  cases nx<;>simp only[wI] at h<;>simp only[Oper.upon]
  case value u=>exact hK _ _ h
  case skip=>exact hK _ _ h
  case enter f args=>
   refine Calls.mono h fun e w'' ⟨v,he,hR⟩=>?_;subst he;exact hK _ _ hR
  case row row args=>exact Rows.mono h fun u w'' hR=>hK _ _ hR
 | halt x w'=>simp only[wI] at h
def iv(P:Program)(o:Oper)(n:Nat)(e:List (Nat×Value))(w:World)(v:Value) : Prop:=∀ a,Fr a n e->Ev P o a w v
def fd(P:Program)(o:Oper)(n:Nat)(e:List (Nat×Value))(w:World)(R:Value->World->Prop) : Prop:=∀ a,Fr a n e->Ef P o a w R
def Ef.of_run{P:Program}{o:Oper}{a:Act}{w w':World}{v:Value}(h:(execOp a.eval o).run P w=.ok (.value v) w'):Ef P o a w fun u w1=>u=v/\w1=w':=by
 unfold Ef;rw[h];exact ⟨O,O⟩
def Ef.of_skip{P:Program}{o:Oper}{a:Act}{w w':World}(h:(execOp a.eval o).run P w=.ok .skip w'):Ef P o a w fun u w1=>u=undef/\w1=w':=by
 unfold Ef;rw[h];exact ⟨O,O⟩
def Ef.mono{P:Program}{o:Oper}{a:Act}{w:World}{R R':Value->World->Prop}(h:Ef P o a w R)(hr:∀ v w',R v w'->R' v w'):Ef P o a w R':=by
 unfold Ef at *;generalize (execOp a.eval o).run P w=r at *;cases r with
 | ok nx w'=>
  cases nx<;>simp only[wI] at h ⊢
  case value u=>exact hr _ _ h
  case skip=>exact hr _ _ h
  case enter f args=>exact Calls.mono h fun e w'' ⟨v,he,hR⟩=>⟨v,he,hr _ _ hR⟩
  case row row args=>exact Rows.mono h hr
 | halt x w'=>simp only[wI] at h
def Ef.of_ev{P:Program}{o:Oper}{a:Act}{w:World}{v:Value}(h:Ev P o a w v):Ef P o a w fun u w1=>u=v/\w1=w:=Ef.of_run (h w (Below.refl _ _))
def je(ops:Array Oper)(o:Oper)(e:List (Nat×Value)) : Prop:=
 match o.guard with
 | none=>True
 | some (j,b)=>∃ t b',(ops[j]?).bind (·.dst)=some t/\ge t e=some (.bool b')/\b'=b
def vd:Value->Bool->Prop
 | .bool b',b=>b' = !b
 | _,_=>True
def pn(ops:Array Oper)(o:Oper)(e:List (Nat×Value)) : Prop:=
 match o.guard with
 | none=>False
 | some (j,b)=>∃ t v,(ops[j]?).bind (·.dst)=some t/\ge t e=some v/\vd v b
def bz(w:World):Below w.heap.size w w:=Below.refl _ _
def ur(ops:Array Oper)(o:Oper)(e:List (Nat×Value)) : Prop:=
 match o.guard with
 | none=>True
 | some (j,b)=>match (ops[j]?).bind (·.dst) with
  | some t=>match ge t e with
   | some (.bool b')=>b'=b
   | _=>False
  | none=>False
def tY(ops:Array Oper)(o:Oper)(e:List (Nat×Value)) : Prop:=
 match o.guard with
 | none=>False
 | some (j,b)=>match (ops[j]?).bind (·.dst) with
  | some t=>match ge t e with
   | some v=>vd v b
   | none=>False
  | none=>False
def gW{ops:Array Oper}{o:Oper}{e:List (Nat×Value)}(h:ur ops o e):je ops o e:=by grind [je,ur]
def gP{ops:Array Oper}{o:Oper}{e:List (Nat×Value)}(h:tY ops o e):pn ops o e:=by
 unfold tY at h;unfold pn;split
 ·rename_i hg;rw[hg] at h;exact h
 ·rename_i j b hg;rw[hg] at h;simp only at h;split at h
  ·rename_i t ht;split at h
   ·rename_i v hv;exact ⟨t,v,ht,hv,h⟩
   ·cases h
  ·cases h
def je.wanted{ops:Array Oper}{o:Oper}{a:Act}{n:Nat}{e:List (Nat×Value)}(h:je ops o e)(hf:Fr a n e):Region.wanted o (yielded ops a.tmps)=true:=by
 unfold je at h;unfold Region.wanted;split at h
 ·rename_i hg;simp[hg]
 ·rename_i j b hg;obtain ⟨t,b',h1,h2,h3⟩:=h;simp only[hg];unfold yielded;simp[h1,hf.h _ _ h2,h3]
def pn.wanted{ops:Array Oper}{o:Oper}{a:Act}{n:Nat}{e:List (Nat×Value)}(h:pn ops o e)(hf:Fr a n e):Region.wanted o (yielded ops a.tmps)=false:=by
 unfold pn at h;unfold Region.wanted;split at h
 ·cases h
 ·rename_i j b hg;have ⟨t,v,h1,h2,h3⟩:=h;simp only[hg];unfold yielded;rw[h1,Qz,hf.h _ _ h2];cases v<;>first|rfl|(simp only[vd] at h3;subst h3;cases b<;>rfl)
section
variable {P : Program} {ops : Array Oper} {Q : Exit -> Act -> World -> Prop} {a : Act} {w : World} {rest : List Oper} {o : Oper} {n d : Nat} {e : List (Nat × Value)}
theorem Dx{R:Value->World->Prop}(hf:Fr a n e)(hw:je ops o e)(hd:o.dst=some d)(hn:Nat.blt d n=true)(hr:Ef P o a w R)
  (h:∀ a' v w',R v w'->Fr a' n ((d,v)::e)->wpList P ops Q rest a' w') : wpList P ops Q (o::rest) a w:=
 wpList_step fun K hK=>by
  rw[Q4 (hw.wanted hf)];exact hr.wp fun v w' hR=>hK _ _ (h _ v w' hR (by rw[hd];exact hf.put d v hn))
theorem MH{R:Value->World->Prop}(hf:Fr a n e)(hw:je ops o e)(hd:o.dst=none)(hr:Ef P o a w R)
  (h:∀ a' v w',R v w'->Fr a' n e->wpList P ops Q rest a' w') : wpList P ops Q (o::rest) a w:=
 wpList_step fun K hK=>by
  rw[Q4 (hw.wanted hf)];exact hr.wp fun v w' hR=>hK _ _ (h _ v w' hR (by rw[hd];exact hf.put_none v))
theorem DT{v:Value}(hf:Fr a n e)(hw:je ops o e)(hd:o.dst=some d)(hn:Nat.blt d n=true)(hr:Ev P o a w v)
  (h:∀ a',Fr a' n ((d,v)::e)->wpList P ops Q rest a' w) : wpList P ops Q (o::rest) a w:=
 Dx hf hw hd hn (Ef.of_ev hr) fun a' v' w' hR hf'=>by
  obtain ⟨rfl,rfl⟩:=hR;exact h a' hf'
theorem Ok(hf:Fr a n e)(hw:pn ops o e)(hd:o.dst=some d)(hn:Nat.blt d n=true)
  (h:∀ a',Fr a' n ((d,undef)::e)->wpList P ops Q rest a' w) : wpList P ops Q (o::rest) a w:=
 wpList_step fun K hK=>by
  rw[Q3 (by rw[hw.wanted hf];simp)];exact hK _ _ (h _ (by rw[hd];exact hf.put d undef hn))
end
section
variable {P : Program} {ops : Array Oper} {Q : Exit -> Act -> World -> Prop} {a : Act} {w : World} {rest : List Oper} {op : Op} {ty : TypeId} {pos : String} {af : Array Edge} {n d : Nat} {e : List (Nat × Value)}
theorem BF{v:Value}(hf:Fr a n e)(hn:Nat.blt d n=true)(hr:Ev P ⟨some d,op,ty,pos,af,none⟩ a w v)(h:∀ a',Fr a' n ((d,v)::e)->wpList P ops Q rest a' w):wpList P ops Q (⟨some d,op,ty,pos,af,none⟩::rest) a w:=DT hf trivial rfl hn hr h
theorem L4{R:Value->World->Prop}(hf:Fr a n e)(hn:Nat.blt d n=true)(hr:Ef P ⟨some d,op,ty,pos,af,none⟩ a w R)(h:∀ a' v w',R v w'->Fr a' n ((d,v)::e)->wpList P ops Q rest a' w'):wpList P ops Q (⟨some d,op,ty,pos,af,none⟩::rest) a w:=Dx hf trivial rfl hn hr h
theorem U6{R:Value->World->Prop}(hf:Fr a n e)(hr:Ef P ⟨none,op,ty,pos,af,none⟩ a w R)(h:∀ a' v w',R v w'->Fr a' n e->wpList P ops Q rest a' w'):wpList P ops Q (⟨none,op,ty,pos,af,none⟩::rest) a w:=MH hf trivial rfl hr h
theorem Nf{x:Operand}{v:Value}(hf:Fr a n e)(hx:ev e x=some v)(hn:Nat.blt d n=true)(h:∀ a',Fr a' n ((d,v)::e)->wpList P ops Q rest a' w):wpList P ops Q (⟨some d,.move x,ty,pos,af,none⟩::rest) a w:=BF hf hn (fun w' _=>by simp[execOp,hf.ev hx]) h
theorem Oc{x:Operand}{v:Value}(hf:Fr a n e)(hx:ev e x=some v)(hn:Nat.blt d n=true)(h:∀ a',Fr a' n ((d,v)::e)->wpList P ops Q rest a' w):wpList P ops Q (⟨some d,.assign x,ty,pos,af,none⟩::rest) a w:=BF hf hn (fun w' _=>by simp[execOp,hf.ev hx]) h
end
structure iq (b:Nat) (w w':World) : Prop where
 os:w'.os=w.os
 tape:w'.tape=w.tape
 output:w'.output=w.output
 size:w'.heap.size=w.heap.size
 block:∀ k,k≠b->w'.heap[k]? = w.heap[k]?
def iq.refl(b:Nat)(w:World):iq b w w:=⟨rfl,rfl,rfl,rfl,fun _ _=>rfl⟩
def iq.trans{b:Nat}{w w' w'':World}(h:iq b w w')(k:iq b w' w''):iq b w w'':=
 ⟨k.os.trans h.os,k.tape.trans h.tape,k.output.trans h.output,k.size.trans h.size,fun i hi=>(k.block i hi).trans (h.block i hi)⟩
structure cn (b B:Nat) (w w':World) : Prop where
 os:w'.os=w.os
 tape:w'.tape=w.tape
 output:w'.output=w.output
 size:w.heap.size<=w'.heap.size
 block:∀ k,k<B->k≠b->w'.heap[k]? = w.heap[k]?
def cn.refl(b B:Nat)(w:World):cn b B w w:=⟨rfl,rfl,rfl,Qb _,fun _ _ _=>rfl⟩
def cn.of_below{b B:Nat}{w w':World}(h:Below B w w'):cn b B w w':=⟨h.os,h.tape,h.output,h.size,fun k hk _=>h.block k hk⟩
def cn.trans{b B:Nat}{w w' w'':World}(h:cn b B w w')(k:Below B w' w''):cn b B w w'':=
 ⟨k.os.trans h.os,k.tape.trans h.tape,k.output.trans h.output,Q0 h.size k.size,fun i hi hn=>(k.block i hi).trans (h.block i hi hn)⟩
def cn.transK{b B:Nat}{w w' w'':World}(h:cn b B w w')(k:cn b B w' w''):cn b B w w'':=
 ⟨k.os.trans h.os,k.tape.trans h.tape,k.output.trans h.output,Q0 h.size k.size,fun i hi hn=>(k.block i hi hn).trans (h.block i hi hn)⟩
def cn.mono{b B B':Nat}{w w':World}(h:cn b B w w')(hB:B'<=B):cn b B' w w':=⟨h.os,h.tape,h.output,h.size,fun k hk=>h.block k (Nat.lt_of_lt_of_le hk hB)⟩
def cn.oy{b b' B:Nat}{w w' w'':World}(h:cn b B w w')(ho:iq b' w' w'')(hB:B<=b'):cn b B w w'':=
 h.trans ⟨ho.os,ho.tape,ho.output,by rw[ho.size];exact Qb _,fun k hk=>ho.block k O0⟩
def cn.self{b B:Nat}{w w' w'':World}(h:cn b B w w')(ho:iq b w' w''):cn b B w w'':=
 h.transK ⟨ho.os,ho.tape,ho.output,by rw[ho.size];exact Qb _,fun k _ hk=>ho.block k hk⟩
def cn.mid{b:Nat}{w w':World}(h:cn b w.heap.size w w'):∃ w1,iq b w w1/\(b<w.heap.size->w1.heap[b]? = w'.heap[b]?)/\Below w1.heap.size w1 w':=by
 cases hb:w'.heap[b]? with
 | none=>
  have hlt:w.heap.size<=b:=Q0 h.size (Array.getElem?_eq_none_iff.1 hb);refine ⟨w,iq.refl _ _,fun h'=>by omega,⟨h.os,h.tape,h.output,h.size,fun k hk=>h.block k hk O0⟩⟩
 | some o=>
  refine ⟨{ w with heap:=w.heap.setIfInBounds b o },⟨O,O,O,by simp,fun k hk=>?_⟩,fun h'=>?_,⟨h.os,h.tape,h.output,by simpa using h.size,fun k hk=>?_⟩⟩
  ·show (w.heap.setIfInBounds b o)[k]? = _;rw[Wh (Ne.symm hk)]
  ·show (w.heap.setIfInBounds b o)[b]? = _;simp[h']
  ·have hk':k<w.heap.size:=by simpa using hk
   show _=(w.heap.setIfInBounds b o)[k]?;by_cases hkb:k=b
   ·subst hkb;simp[hk',hb]
   ·rw[Wh (Ne.symm hkb)];exact h.block k hk' hkb
def aa{w0 w w':World}(h:Below w0.heap.size w0 w)(hE:Below w.heap.size w w'):Below w0.heap.size w0 w':=h.trans (hE.mono h.size)
def kj{b:Nat}{w0 w w':World}(h:cn b w0.heap.size w0 w)(hE:Below w.heap.size w w'):cn b w0.heap.size w0 w':=h.trans (hE.mono h.size)
inductive Vk
 | but (b:Nat)
 | base (N:Nat)
instance:Coe Nat Vk:=⟨Vk.but⟩
def dw(V:Option Vk)(w w':World) : Prop:=match V with
 | none=>Below w.heap.size w w'
 | some (.but b)=>∃ w1,iq b w w1/\Below w.heap.size w1 w'
 | some (.base N)=>Below (min N w.heap.size) w w'
def dw.refl(V:Option Vk)(w:World):dw V w w:=by
 cases V with
 | none=>exact Below.refl _ _
 | some b=>cases b with
  | but b=>exact ⟨w,iq.refl _ _,Below.refl _ _⟩
  | base N=>exact Below.refl _ _
def dw.kept{b:Nat}{w w':World}(h:dw (some b) w w'):cn b w.heap.size w w':=by
 have ⟨w1,h1,h2⟩:=h;exact (cn.self (cn.refl b w.heap.size w) h1).trans h2
def cn.keep{b:Nat}{w w':World}(h:cn b w.heap.size w w'):dw (some b) w w':=by
 have ⟨w1,h1,_,h2⟩:=h.mid;exact ⟨w1,h1,by rw[<- h1.size];exact h2⟩
def dw.of_below{V:Option Vk}{w w':World}(h:Below w.heap.size w w'):dw V w w':=by
 cases V with
 | none=>exact h
 | some b=>cases b with
  | but b=>exact ⟨w,iq.refl _ _,h⟩
  | base N=>exact Below.mono h (Nat.min_le_right _ _)
def dw.trans{V:Option Vk}{w w' w'':World}(h:dw V w w')(k:dw V w' w''):dw V w w'':=by
 cases V with
 | none=>exact Below.trans h (Below.mono k h.size)
 | some b=>cases b with
  | but b=>exact (h.kept.transK (k.kept.mono h.kept.size)).keep
  | base N=>exact Below.trans h (Below.mono k (by have:=h.size;omega))
section
variable {P : Program} {ops : Array Oper} {Q : Act -> World -> Prop} {tl : Nat -> Bool} {V : Option Vk}
def wpR(P:Program)(ops:Array Oper)(V:Option Vk)(tl:Nat->Bool)(i:Nat)(K:Act->World->Prop)(a:Act)(w:World) : Prop:=
 match ops[i]? with
 | none=>K a w
 | some o=>if Region.wanted o (yielded ops a.tmps) then Ef P o a w (fun v w'=>(tl i=false->dw V w w')/\K (a.put o.dst v) w') else K (a.put o.dst undef) w
def mg(P:Program)(ops:Array Oper)(V:Option Vk)(tl:Nat->Bool)(Q:Act->World->Prop) : Nat->Array Bool->Act->World->Prop
 | 0,listed,a,w=>Region.ready .any ops listed=[]/\Q a w
 | fuel+1,listed,a,w=>(Region.ready .any ops listed=[]->Q a w)/\∀ i ∈ Region.ready .any ops listed,wpR P ops V tl i (mg P ops V tl Q fuel (listed.setIfInBounds i true)) a w
theorem L'{i:Nat}{K K':Act->World->Prop}{a:Act}{w:World}(h:∀ a w,K a w->K' a w)(hh:wpR P ops V tl i K a w):wpR P ops V tl i K' a w:=by
 unfold wpR at *;split
 ·exact h _ _ (by simpa[*] using hh)
 ·rename_i o ho;simp only[ho] at hh;split
  ·rename_i hw;simp only[hw,if_true] at hh;exact hh.mono fun v w' ⟨h1,h2⟩=>⟨h1,h _ _ h2⟩
  ·rename_i hw;simp only[hw] at hh;exact h _ _ hh
theorem zE{Q':Exit->Act->World->Prop}(hQ:∀ a w,Q a w->Q' .normal a w):∀ (fuel:Nat) (listed:Array Bool) (a:Act) (w:World),mg P ops V tl Q fuel listed a w->wpAny P .any ops Q' fuel listed a w
 | 0,_,_,_,h=>⟨h.1,hQ _ _ h.2⟩
 | fuel+1,listed,a,w,h=>by
  refine ⟨fun h0=>hQ _ _ (h.1 h0),fun i hi=>?_⟩;have h1:=h.2 i hi;unfold wpR at h1;unfold wpOp;split
  ·rename_i ho;simp only[ho] at h1;exact zE hQ fuel _ _ _ h1
  ·rename_i o ho;simp only[ho] at h1;split
   ·rename_i hw;simp only[hw,if_true] at h1;exact .inl (h1.wp fun v w' hR=>zE hQ fuel _ _ _ hR.2)
   ·rename_i hw;simp only[hw] at h1;exact zE hQ fuel _ _ _ h1
def YC(P:Program)(ops:Array Oper)(C:World->Prop)(o:Oper)(v:Value)(a:Act) : Prop:=
 (Region.wanted o (yielded ops a.tmps)=true/\∀ w,C w->(execOp a.eval o).run P w=.ok (.value v) w)∨(Region.wanted o (yielded ops a.tmps)=false/\v=undef)
theorem YC.of_same{C:World->Prop}{o:Oper}{v:Value}{a a':Act}(hy:YC P ops C o v a)(he:execOp a'.eval o=execOp a.eval o)
  (hw:Region.wanted o (yielded ops a'.tmps)=Region.wanted o (yielded ops a.tmps)) : YC P ops C o v a':=by
 unfold YC at *;rw[he,hw];exact hy
theorem YC.wpR{C:World->Prop}{i:Nat}{o:Oper}{v:Value}{a:Act}{w:World}(hi:ops[i]? = some o)(hC:C w)(hy:YC P ops C o v a){K:Act->World->Prop}(h:K (a.put o.dst v) w):wpR P ops V tl i K a w:=by
 unfold YtkhbopcihjobdaaGreatDoor.wpR;simp only[hi];rcases hy with ⟨hw,hv⟩|⟨hw,rfl⟩
 ·simp only[hw,if_true];exact (Ef.of_run (hv w hC)).mono fun u w' ⟨e1,e2⟩=>by subst e1;subst e2;exact ⟨fun _=>dw.refl _ _,h⟩
 ·simp only[hw,Bool.false_eq_true,if_false];exact h
theorem Ow{oi oj:Oper}{v:Value}(h1:∀ d,oi.dst=some d->d ∉ oj.looksAt ops)(hsj:∀ cs b,oj.op≠.select cs b)
  {a:Act} {w:World} {R:Value->World->Prop} (h:Ef P oj (a.put oi.dst v) w R) : Ef P oj a w R:=by
 unfold Ef at *
 rwa [execOp_put oj hsj a oi.dst v h1] at h
theorem Ta{C:World->Prop}{j:Nat}{oi oj:Oper}{v:Value}(hj:ops[j]? = some oj)(hap:oi.apart ops oj=true)
  (hsi:∀ cs b,oi.op≠.select cs b) (hsj:∀ cs b,oj.op≠.select cs b) (hC:∀ w w',C w->(tl j=false->dw V w w')->C w') {K:Act->World->Prop} {a:Act} {w:World} (hw0:C w)
  (hy:YC P ops C oi v a) (h:wpR P ops V tl j K (a.put oi.dst v) w) : wpR P ops V tl j (fun a' w'=>C w'/\YC P ops C oi v a'/\K (a'.put oi.dst v) w') a w:=by
 have ⟨h1,h2,h3⟩:=Oper.apart_spec hap;have keep:∀ (a:Act),YC P ops C oi v a->∀ u,YC P ops C oi v (a.put oj.dst u):=fun a hy u=>
  hy.of_same (execOp_put oi hsi a oj.dst u h3) (wanted_put oi a oj.dst u h3)
 unfold wpR at *;simp only[hj] at *;rw[wanted_put oj a oi.dst v h1] at h;split
 ·rename_i hw;simp only[hw,if_true] at h;exact (Ow h1 hsj h).mono fun u w' ⟨hb,hk⟩=>⟨hb,hC w w' hw0 hb,keep a hy u,by rw[<- Act.put_comm a v u h2];exact hk⟩
 ·rename_i hw;simp only[hw] at h;exact ⟨hw0,keep a hy _,by rw[<- Act.put_comm a v undef h2];exact h⟩
def mq(ops:Array Oper)(listed:Array Bool) : Prop:=∀ k ok,ops[k]? = some ok->listed.getD k false=true->∀ e ∈ ok.after,Region.binds .any e=true->listed.getD e.on false=true
theorem GV{listed:Array Bool}{j k:Nat}(h:listed.getD k false=true):(listed.setIfInBounds j true).getD k false=true:=by
 rcases W4 k listed.size with hk|hk
 ·by_cases hjk:j=k
  ·subst hjk;simp[hk]
  ·simpa[hk,Array.getElem_setIfInBounds_ne _ hjk] using h
 ·simp[We hk] at h
theorem mq.set{listed:Array Bool}{j:Nat}{oj:Oper}(h:mq ops listed)(hj:ops[j]? = some oj)(hall:∀ e ∈ oj.after,Region.binds .any e=true->listed.getD e.on false=true):mq ops (listed.setIfInBounds j true):=fun k ok hk hl e he hb=>by
 by_cases hjk:j=k
 ·subst hjk;rw[hj] at hk;injection hk with hk;subst hk;exact GV (hall e he hb)
 ·rw[getD_set_ne false hjk] at hl;exact GV (h k ok hk hl e he hb)
def qE(ops:Array Oper)(i:Nat) : Nat->Nat->Bool
 | 0,_=>false
 | f+1,j=>match ops[j]? with
  | some oj=>oj.after.any fun e=>Region.binds .any e&&(e.on==i||qE ops i f e.on)
  | none=>false
theorem JQ{listed:Array Bool}{i:Nat}(hcl:mq ops listed):∀ (f j:Nat) (oj:Oper),ops[j]? = some oj->(∀ e ∈ oj.after,Region.binds .any e=true->listed.getD e.on false=true)->qE ops i f j=true->listed.getD i false=true
 | 0,_,_,_,_,h=>by cases h
 | f+1,j,oj,hj,hall,h=>by
  simp only[qE,hj] at h;have ⟨e,he,hb⟩:=Array.any_eq_true'.1 h;simp only[Qd,Bool.or_eq_true,beq_iff_eq] at hb;have h1:=hall e he hb.1;rcases hb.2 with h2|h2
  ·rw[<- h2];exact h1
  ·cases hk:ops[e.on]? with
   | none=>
    cases f with
    | zero=>cases h2
    | succ f=>simp only[qE,hk] at h2;cases h2
   | some ok=>exact JQ hcl f e.on ok hk (hcl e.on ok hk h1) h2
theorem CZ{C:World->Prop}{i:Nat}{oi:Oper}{v:Value}(hi:ops[i]? = some oi)(hsel:∀ (j:Nat) (o:Oper) cs b,ops[j]? = some o->o.op≠.select cs b)
  (hC:∀ j oj,ops[j]? = some oj->(∀ listed,mq ops listed->(∀ e ∈ oj.after,Region.binds .any e=true->listed.getD e.on false=true)->listed.getD i true=false->∀ w w',C w->(tl j=false->dw V w w')->C w')) :
  ∀ (fuel:Nat) (listed:Array Bool) (a:Act) (w:World),mq ops listed->
   (∀ j oj,ops[j]? = some oj->j≠i->listed.getD j true=false->(∀ e ∈ oj.after,Region.binds .any e=true->e.on≠i)->oi.apart ops oj=true)->
   i ∈ Region.ready .any ops listed->C w->YC P ops C oi v a->
   mg P ops V tl Q fuel (listed.setIfInBounds i true) (a.put oi.dst v) w->mg P ops V tl Q (fuel+1) listed a w:=by
 intro fuel
 induction fuel with
 | zero=>
  intro listed a w _ _ hr hw hy H;refine ⟨fun h=>(by rw[h] at hr;cases hr),fun j hj=>?_⟩;by_cases hji:j=i
  ·subst hji;exact hy.wpR hi hw H
  ·have:=ready_mono hj hji;rw[H.1] at this;cases this
 | succ fuel ih=>
  intro listed a w hcl hfree hr hw hy H;refine ⟨fun h=>(by rw[h] at hr;cases hr),fun j hj=>?_⟩;by_cases hji:j=i
  ·subst hji;exact hy.wpR hi hw H
  ·have h1:=H.2 j (ready_mono hj hji);have ⟨hjun,oj,hoj,hall⟩:=mem_ready.1 hj;have hnot:∀ e ∈ oj.after,Region.binds .any e=true->e.on≠i:=fun e he hb heq=>by
    have h1:=hall e he hb;have h0:=(mem_ready.1 hr).1;rw[heq] at h1;rcases W4 i listed.size with h'|h'
    ·simp[h'] at h0 h1;rw[h0] at h1;cases h1
    ·simp[We h'] at h1
   have h2:=Ta hoj (hfree j oj hoj hji hjun hnot) (fun cs b=>hsel i oi cs b hi) (fun cs b=>hsel j oj cs b hoj) (hC j oj hoj listed hcl hall (mem_ready.1 hr).1) hw hy h1;have hfree':∀ k ok,ops[k]? = some ok->k≠i->(listed.setIfInBounds j true).getD k true=false->
     (∀ e ∈ ok.after,Region.binds .any e=true->e.on≠i)->oi.apart ops ok=true:=fun k ok hk hki hun hno=>by
    refine hfree k ok hk hki ?_ hno;by_cases hjk:j=k
    ·subst hjk;exact hjun
    ·rw[getD_set_ne true hjk] at hun;exact hun
   refine L' (fun a' w' h3=>ih (listed.setIfInBounds j true) a' w' (hcl.set hoj hall) hfree' (ready_mono hr (Ne.symm hji)) h3.1 h3.2.1 ?_) h2;rw[Array.setIfInBounds_comm _ _ hji];exact h3.2.2
def fg(ops:Array Oper)(done:List Nat) : Array Bool:=(Array.range ops.size).map fun i=>done.contains i
theorem wj(ops:Array Oper)(done:List Nat)(i:Nat):(fg ops done).setIfInBounds i true=fg ops (i::done):=by grind [fg]
theorem Ma(ops:Array Oper):Array.replicate ops.size false=fg ops []:=by
 apply Array.ext<;>simp[fg]
def qg(ops:Array Oper)(done:List Nat) : Bool:=done.all fun k=>match ops[k]? with
 | some ok=>ok.after.all fun e=>!(Region.binds .any e)||done.contains e.on&&Nat.blt e.on ops.size
 | none=>true
def ej(ops:Array Oper)(done:List Nat)(i:Nat) : Bool:=
 Region.noSelect ops&&Region.free .any ops (fg ops done) i&&(Region.ready .any ops (fg ops done)).contains i&&qg ops done
theorem IQ{done:List Nat}{k:Nat}(d:Bool)(h:k<ops.size):(fg ops done).getD k d=done.contains k:=by
 simp[fg,h]
theorem rm{done:List Nat}{k:Nat}(h:(fg ops done).getD k false=true):done.contains k=true:=by
 rcases W4 k ops.size with h'|h'
 ·rwa [IQ false h'] at h
 ·simp[fg,h'] at h
theorem Dk{done:List Nat}(h:qg ops done=true):mq ops (fg ops done):=fun k ok hk hl e he hb=>by
 have h1:=rm hl;simp only[qg,W1] at h;have h2:=h k (by simpa using h1);simp only[hk] at h2;have h3:=Array.all_eq_true'.1 h2 e he;simp only[hb,Bool.not_true,Bool.false_or,Qd] at h3;have h4:e.on<ops.size:=by simpa[Nat.blt_eq] using h3.2
 rw[IQ false h4];exact h3.1
def gu(ops:Array Oper)(tl:Nat->Bool)(i:Nat) : Bool:=
 (List.range ops.size).all fun j=>!tl j||qE ops i 9 j
theorem OH{i:Nat}(h:gu ops tl i=true)(j:Nat)(oj:Oper)(hj:ops[j]? = some oj){listed:Array Bool}(hcl:mq ops listed)(hall:∀ e ∈ oj.after,Region.binds .any e=true->listed.getD e.on false=true)(hi:listed.getD i true=false):tl j=false:=by
 simp only[gu,W1,W2] at h;have h1:=h j (Qp.1 hj).1;simp only[Bool.or_eq_true,Bool.not_eq_true'] at h1;rcases h1 with h1|h1
 ·exact h1
 ·have h2:=JQ hcl 9 j oj hj hall h1;rcases W4 i listed.size with h'|h'
  ·simp[h'] at h2 hi;rw[h2] at hi;cases hi
  ·simp[h'] at h2
section
variable {a : Act} {w : World} {n d fuel : Nat} {e : List (Nat × Value)} {o : Oper} {done : List Nat}
theorem EQ(i:Nat){v:Value}(hi:ops[i]? = some o)(hm:ej ops done i=true)(ht:gu ops tl i=true)(hf:Fr a n e)(hw:je ops o e)(hd:o.dst=some d)(hn:Nat.blt d n=true)
  (hr:∀ w',dw V w w'->(execOp a.eval o).run P w'=.ok (.value v) w') (h:∀ a',Fr a' n ((d,v)::e)->mg P ops V tl Q fuel (fg ops (i::done)) a' w) : mg P ops V tl Q (fuel+1) (fg ops done) a w:=by
 simp only[ej,Qd] at hm;refine CZ (C:=fun w'=>dw V w w') hi (Region.noSelect_spec hm.1.1.1) (fun j oj hj lst hcl hall hun w1 w2 h1 h2=>?_) fuel _ a w (Dk hm.2) (Region.free_spec hi hm.1.1.2) (by simpa using hm.1.2) (dw.refl _ _) (.inl ⟨hw.wanted hf,hr⟩) ?_
 ·exact h1.trans (h2 (OH ht j oj hj hcl hall hun))
 ·rw[wj];exact h _ (by rw[hd];exact hf.put d v hn)
theorem D1(i:Nat){v:Value}(hi:ops[i]? = some o)(hm:ej ops done i=true)(ht:gu ops tl i=true)(hf:Fr a n e)(hw:je ops o e)(hd:o.dst=some d)(hn:Nat.blt d n=true)
  (hr:Ev P o a w v) (h:∀ a',Fr a' n ((d,v)::e)->mg P ops none tl Q fuel (fg ops (i::done)) a' w) : mg P ops none tl Q (fuel+1) (fg ops done) a w:=EQ i hi hm ht hf hw hd hn hr h
theorem Py(i:Nat){b:Nat}{v:Value}(hi:ops[i]? = some o)(hm:ej ops done i=true)(ht:gu ops tl i=true)(hf:Fr a n e)(hw:je ops o e)(hd:o.dst=some d)(hn:Nat.blt d n=true)
  (hr:∀ w1,iq b w w1->Ev P o a w1 v) (h:∀ a',Fr a' n ((d,v)::e)->mg P ops (some b) tl Q fuel (fg ops (i::done)) a' w) : mg P ops (some b) tl Q (fuel+1) (fg ops done) a w:=
 EQ i hi hm ht hf hw hd hn (fun w' ⟨w1,h1,h2⟩=>hr w1 h1 w' (by rw[h1.size];exact h2)) h
theorem Cp(i:Nat){v:Value}(hi:ops[i]? = some o)(hm:ej ops done i=true)(hf:Fr a n e)(hw:je ops o e)(hd:o.dst=some d)(hn:Nat.blt d n=true)
  (hr:∀ w,Ev P o a w v) (h:∀ a',Fr a' n ((d,v)::e)->mg P ops V tl Q fuel (fg ops (i::done)) a' w) : mg P ops V tl Q (fuel+1) (fg ops done) a w:=by
 simp only[ej,Qd] at hm;refine CZ (C:=fun _=>True) hi (Region.noSelect_spec hm.1.1.1) (fun _ _ _ _ _ _ _ _ _ _ _=>trivial) fuel _ a w (Dk hm.2) (Region.free_spec hi hm.1.1.2) (by simpa using hm.1.2) trivial (.inl ⟨hw.wanted hf,fun w' _=>hr w' w' (Below.refl _ _)⟩) ?_;rw[wj];exact h _ (by rw[hd];exact hf.put d v hn)
theorem Uk(i:Nat)(hi:ops[i]? = some o)(hm:ej ops done i=true)(hf:Fr a n e)(hw:pn ops o e)(hd:o.dst=some d)(hn:Nat.blt d n=true)
  (h:∀ a',Fr a' n ((d,undef)::e)->mg P ops V tl Q fuel (fg ops (i::done)) a' w) : mg P ops V tl Q (fuel+1) (fg ops done) a w:=by
 simp only[ej,Qd] at hm;refine CZ (C:=fun _=>True) hi (Region.noSelect_spec hm.1.1.1) (fun _ _ _ _ _ _ _ _ _ _ _=>trivial) fuel _ a w (Dk hm.2) (Region.free_spec hi hm.1.1.2) (by simpa using hm.1.2) trivial (.inr ⟨hw.wanted hf,O⟩) ?_;rw[wj];exact h _ (by rw[hd];exact hf.put d undef hn)
theorem Lu{op:Op}{ty:TypeId}{pos:String}{af:Array Edge}(i:Nat){v:Value}(hi:ops[i]? = some ⟨some d,op,ty,pos,af,none⟩)(hm:ej ops done i=true)(ht:gu ops tl i=true)(hf:Fr a n e)(hn:Nat.blt d n=true)
  (hr:Ev P ⟨some d,op,ty,pos,af,none⟩ a w v) (h:∀ a',Fr a' n ((d,v)::e)->mg P ops none tl Q fuel (fg ops (i::done)) a' w) : mg P ops none tl Q (fuel+1) (fg ops done) a w:=D1 i hi hm ht hf trivial rfl hn hr h
theorem Ts{op:Op}{ty:TypeId}{pos:String}{af:Array Edge}(i:Nat){v:Value}(hi:ops[i]? = some ⟨some d,op,ty,pos,af,none⟩)(hm:ej ops done i=true)(hf:Fr a n e)(hn:Nat.blt d n=true)
  (hr:∀ w,Ev P ⟨some d,op,ty,pos,af,none⟩ a w v) (h:∀ a',Fr a' n ((d,v)::e)->mg P ops V tl Q fuel (fg ops (i::done)) a' w) : mg P ops V tl Q (fuel+1) (fg ops done) a w:=Cp i hi hm hf trivial rfl hn hr h
theorem Td(i:Nat)(hr:Region.ready .any ops (fg ops done)=[i])(h:wpR P ops V tl i (mg P ops V tl Q fuel (fg ops (i::done))) a w):mg P ops V tl Q (fuel+1) (fg ops done) a w:=by
 refine ⟨fun h0=>(by rw[hr] at h0;cases h0),fun j hj=>?_⟩;rw[hr] at hj;obtain rfl:j=i:=by simpa using hj
 rw[wj];exact h
theorem Kd(i j:Nat)(hr:Region.ready .any ops (fg ops done)=[i,j])(hi:wpR P ops V tl i (mg P ops V tl Q fuel (fg ops (i::done))) a w)
  (hj:wpR P ops V tl j (mg P ops V tl Q fuel (fg ops (j::done))) a w) : mg P ops V tl Q (fuel+1) (fg ops done) a w:=by
 refine ⟨fun h0=>(by rw[hr] at h0;cases h0),fun k hk=>?_⟩;rw[hr] at hk;rw[wj];simp only[Qv,List.not_mem_nil,or_false] at hk;rcases hk with rfl|rfl
 ·exact hi
 ·exact hj
theorem VT(i j k:Nat)(hr:Region.ready .any ops (fg ops done)=[i,j,k])(hi:wpR P ops V tl i (mg P ops V tl Q fuel (fg ops (i::done))) a w)
  (hj:wpR P ops V tl j (mg P ops V tl Q fuel (fg ops (j::done))) a w) (hk:wpR P ops V tl k (mg P ops V tl Q fuel (fg ops (k::done))) a w) : mg P ops V tl Q (fuel+1) (fg ops done) a w:=by
 refine ⟨fun h0=>(by rw[hr] at h0;cases h0),fun m hm=>?_⟩;rw[hr] at hm;rw[wj];simp only[Qv,List.not_mem_nil,or_false] at hm;rcases hm with rfl|rfl|rfl
 ·exact hi
 ·exact hj
 ·exact hk
def sK(L D:List Nat) : Bool:=L.all D.contains&&D.all L.contains
theorem TI{L D:List Nat}(h:sK L D=true):fg ops L=fg ops D:=by grind [fg,sK]
theorem TS{a:Act}{w:World}{o:Oper}{v:Value}(h:Ev P o a w v):Ef P o a w (fun v' w'=>v'=v/\w=w'):=by
 unfold Ef;rw[h w (Below.refl _ _)];exact ⟨O,O⟩
theorem NF(hr:Region.ready .any ops (fg ops done)=[])(h:Q a w):mg P ops V tl Q fuel (fg ops done) a w:=by
 cases fuel with
 | zero=>exact ⟨hr,h⟩
 | succ f=>exact ⟨fun _=>h,fun j hj=>by rw[hr] at hj;cases hj⟩
theorem S_{i:Nat}{K:Act->World->Prop}{R:Value->World->Prop}(hi:ops[i]? = some o)(hf:Fr a n e)(hw:je ops o e)(hd:o.dst=some d)(hn:Nat.blt d n=true)
  (hr:Ef P o a w fun v w'=>(tl i=false->dw V w w')/\R v w') (h:∀ a' v w',R v w'->Fr a' n ((d,v)::e)->K a' w') : wpR P ops V tl i K a w:=by
 unfold wpR;simp only[hi];rw[Q4 (hw.wanted hf)];exact hr.mono fun v w' ⟨h1,h2⟩=>⟨h1,h _ v w' h2 (by rw[hd];exact hf.put d v hn)⟩
theorem UJ{i:Nat}{K:Act->World->Prop}{R:Value->World->Prop}(hi:ops[i]? = some o)(hf:Fr a n e)(hw:je ops o e)(hd:o.dst=none)
  (hr:Ef P o a w fun v w'=>(tl i=false->dw V w w')/\R v w') (h:∀ a' v w',R v w'->Fr a' n e->K a' w') : wpR P ops V tl i K a w:=by
 unfold wpR;simp only[hi];rw[Q4 (hw.wanted hf)];exact hr.mono fun v w' ⟨h1,h2⟩=>⟨h1,h _ v w' h2 (by rw[hd];exact hf.put_none v)⟩
theorem N'{i:Nat}{K:Act->World->Prop}(hi:ops[i]? = some o)(hf:Fr a n e)(hw:pn ops o e)(hd:o.dst=some d)(hn:Nat.blt d n=true)
  (h:∀ a',Fr a' n ((d,undef)::e)->K a' w) : wpR P ops V tl i K a w:=by
 unfold wpR;simp only[hi];rw[Q3 (by rw[hw.wanted hf];simp)];exact h _ (by rw[hd];exact hf.put d undef hn)
theorem gx(V:Option Vk)(tl:Nat->Bool){id:Nat}{l:List Oper}{Q':Exit->Act->World->Prop}(hm:P.follows .mixedOrders=true)
  (h:∀ w',Below w.heap.size w w'->mg P l.toArray V tl (Q' .normal) l.length (fg l.toArray []) a w') : (Code.region id l.toArray true).wp P Q' a w:=by
 refine wp_region_any hm ?_;rw[Ma];exact zE (fun _ _ h=>h) _ _ _ _ (by simpa using h w.drew (Below.refl _ _).drew)
end
end
abbrev kt:=List (Nat×Value)
def At(w:World)(p:Addr)(l:List Value) : Prop:=∀ j v,l[j]? = some v->w.cell? (p.add j)=some v
def al(w:World)(b:Nat)(T:TypeId)(l:List Value) : Prop:=w.heap[b]? = some (.cells l.toArray T (0,0))
def I3(p:Addr)(i j:Nat):(p.add i).add j=p.add (i+j):=by
 unfold Addr.add;by_cases hi:i=0<;>by_cases hj:j=0<;>simp[hi,hj,Nat.add_assoc]
def BA(p:Addr)(i:Nat):(p.add i).block=p.block:=by unfold Addr.add;split<;>rfl
def qD(b off i:Nat):(Addr.mk b off none).add i=⟨b,off+i,none⟩:=by
 unfold Addr.add;by_cases hi:i=0<;>simp[hi]
def FN{w:World}{p:Addr}{v:Value}(h:w.cell? p=some v):p.block<w.heap.size:=by
 rcases W4 p.block w.heap.size with h'|h'
 ·exact h'
 ·simp[World.cell?,We h'] at h
def At.bw{w w':World}{p:Addr}{l:List Value}(h:At w p l)(hb:Below w.heap.size w w'):At w' p l:=by
 intro j v hj;have:=h j v hj;rw[hb.cell (FN this)];exact this
def At.drop{w:World}{p:Addr}{l:List Value}(h:At w p l)(k:Nat):At w (p.add k) (l.drop k):=by
 intro j v hj;rw[I3];exact h (k+j) v (by rw[<- hj,List.getElem?_drop])
def At.take{w:World}{p:Addr}{l:List Value}(h:At w p l)(k:Nat):At w p (l.take k):=by grind [At]
def At.nil(w:World)(p:Addr):At w p []:=fun j v h=>by simp at h
def al.lt{w:World}{b:Nat}{T:TypeId}{l:List Value}(h:al w b T l):b<w.heap.size:=by grind [al]
def al.cell{w:World}{b:Nat}{T:TypeId}{l:List Value}(h:al w b T l)(k:Nat):w.cell? ⟨b,k,none⟩=l[k]?:=by
 unfold al at h;simp[World.cell?,h]
def al.at{w:World}{b:Nat}{T:TypeId}{l:List Value}(h:al w b T l)(k:Nat):At w ⟨b,k,none⟩ (l.drop k):=by
 intro j v hj;rw[qD,h.cell,<- hj,List.getElem?_drop]
def al.bw{w w':World}{b:Nat}{T:TypeId}{l:List Value}(h:al w b T l)(hb:Below w.heap.size w w'):al w' b T l:=(hb.block b h.lt).trans h
def al.oy{w w':World}{b b':Nat}{T:TypeId}{l:List Value}(h:al w b T l)(ho:iq b' w w')(hne:b≠b'):al w' b T l:=(ho.block b hne).trans h
def al.drew{w:World}{b:Nat}{T:TypeId}{l:List Value}(h:al w b T l):al w.drew b T l:=h
def al.ne{w:World}{b b':Nat}{T T':TypeId}{l l':List Value}(h:al w b T l)(h':al w b' T' l')(hT:Nat.beq T T'=false):b≠b':=by
 rintro rfl;unfold al at h h';rw[h] at h';injection h' with h';injection h' with _ e;subst e;simp at hT
def al.oz{w w' : World}{b b' : Nat}{T T' : TypeId}{l l' : List Value}(h : al w b T l)(ho : iq b' w w')(h' : al w b' T' l')(hT : Nat.beq T T' = false):al w' b T l:=h.oy ho (al.ne h h' hT)
def Below.oy{B b:Nat}{w0 w w':World}(h:Below B w0 w)(ho:iq b w w')(hB:B<=b):Below B w0 w':=
 h.trans ⟨ho.os,ho.tape,ho.output,by rw[ho.size];exact Qb _,fun k hk=>ho.block k O0⟩
def At.oy{w w':World}{b:Nat}{p:Addr}{l:List Value}(h:At w p l)(ho:iq b w w')(hne:p.block≠b):At w' p l:=by
 intro j v hj;rw[World.cell?_of_block (w:=w) (by rw[BA];exact ho.block _ hne)];exact h j v hj
def mr(P:Program)(t:TypeId) : Prop:=∃ d,P.underlying t=some d/\(match d with|.struct _|.array _ _=>False|_=>True)
def ln(P:Program)(t:TypeId)(n:Nat) : Prop:=(∃ d,P.underlying t=some d/\(match d with|.struct _|.array _ _=>True|_=>False))/\∃ i,P.info? t=some i/\i.size=n
def da(P:Program)(t:TypeId)(n:Nat) : Prop:=∃ i,P.info? t=some i/\i.size=n
def jv(P:Program)(t:TypeId)(z:Value) : Prop:=∃ i,P.info? t=some i/\i.zero=some z
def cy(P:Program)(T f k:Nat) : Prop:=∃ fs F i,P.underlying T=some (.struct fs)/\fs[f]? = some F/\F.offset=k/\P.info? F.type=some i/\(i.size==0)=false
def bn(P:Program)(T E:TypeId) : Prop:=P.underlying T=some (.slice E)
def oS (P : Program) (f : FuncId) : Prop := ∃ fn, P.funcs[f]? = some fn /\ (fn.name == "runtime.NumGoroutine") = false /\ fn.body.isNone = false
section
variable {P : Program} {w : World}
theorem gm{t n:Nat}(h:da P t n)(w:World):(sizeOf t).run P w=.ok n w:=by
 have ⟨i,h1,h2⟩:=h;simp[sizeOf,typeInfo,h1,h2]
theorem T3{t:TypeId}{z:Value}(h:jv P t z)(w:World):(zeroValue t).run P w=.ok z w:=by
 have ⟨i,h1,h2⟩:=h;simp[zeroValue,typeInfo,h1,h2]
theorem pM{t:TypeId}{d:TypeDesc}(h:P.underlying t=some d)(w:World):(underlying t).run P w=.ok d w:=by simp[underlying,h]
theorem Cz{t:TypeId}(h:mr P t)(w:World):(isAgg t).run P w=.ok false w:=by
 have ⟨d,h1,h2⟩:=h;cases d<;>simp_all[isAgg,underlying]
theorem EF{t n:Nat}(h:ln P t n)(w:World):(isAgg t).run P w=.ok true w:=by
 have ⟨⟨d,h1,h2⟩,_⟩:=h;cases d<;>simp_all[isAgg,underlying]
theorem HI(p:Addr):∀ (l:List Value) (i:Nat) (acc:Array Value),(∀ j v,l[j]? = some v->w.cell? (p.add (i+j))=some v)->
  (loadCellsFrom p i l.length acc).run P w=.ok (acc++l.toArray) w
 | [],i,acc,_=>by simp[loadCellsFrom]
 | v::l,i,acc,h=>by
  have h0:=h 0 v O;simp only[Nat.add_zero] at h0;have ih:=HI p l (i+1) (acc.push v) (fun j u hj=>by
   have:=h (j+1) u (by simpa using hj)
   rwa [show i+(j+1)=i+1+j from by omega] at this)
  simp[loadCellsFrom,load,Sem.run,h0,ih]
theorem Jk{t:TypeId}{p:Addr}{v:Value}{l:List Value}(h:mr P t)(hc:At w p (v::l)):(loadVar t p).run P w=.ok v w:=by
 have h0:=hc 0 v O;have h1:p.add 0=p:=by simp[Addr.add]
 rw[h1] at h0;simp[loadVar,Cz h,load,Sem.run,h0]
theorem E0{t n:Nat}{p:Addr}{l:List Value}(h:ln P t n)(hc:At w p l)(hn:l.length=n):(loadVar t p).run P w=.ok (.agg l.toArray) w:=by
 subst hn;have h1:=HI (P:=P) (w:=w) p l 0 #[] (fun j v hj=>by rw[Nat.zero_add];exact hc j v hj);simp[loadVar,EF h,gm h.2,loadCells,h1]
end
section
variable {P : Program} {a : Act} {w : World} {n : Nat} {e : kt} {ty : TypeId} {pos : String} {af : Array Edge} {g : Option (Nat × Bool)} {d : Option Tmp}
theorem O_{x:Operand}{v:Value}(hf:Fr a n e)(hx:ev e x=some v):Ev P ⟨d,.move x,ty,pos,af,g⟩ a w v:=fun w' _=>by
 simp[execOp,hf.ev hx]
theorem X7{x:Operand}{v:Value}(hx:ev e x=some v):iv P ⟨d,.move x,ty,pos,af,g⟩ n e w v:=fun a hf=>O_ hf hx
theorem Na{x:Operand}{v:Value}(hf:Fr a n e)(hx:ev e x=some v):Ev P ⟨d,.assign x,ty,pos,af,g⟩ a w v:=fun w' _=>by
 simp[execOp,hf.ev hx]
theorem kk{x:Operand}{v:Value}(hx:ev e x=some v):iv P ⟨d,.assign x,ty,pos,af,g⟩ n e w v:=fun a hf=>Na hf hx
theorem FB{c x y:Operand}{b:Bool}{v:Value}(hf:Fr a n e)(hc:ev e c=some (.bool b))(hx:ev e (if b then x else y)=some v):Ev P ⟨d,.pick c x y,ty,pos,af,g⟩ a w v:=fun w' _=>by
 have h1:=hf.ev hc;have h2:=hf.ev hx;cases b<;>simp_all[execOp,asBool]
theorem SZ{c x y:Operand}{b:Bool}{v:Value}(hf:Fr a n e)(hc:ev e c=some (.bool b))(hb:b=true)(hx:ev e x=some v):Ev P ⟨d,.pick c x y,ty,pos,af,g⟩ a w v:=by
 subst hb;exact FB hf hc hx
theorem Xh{c x y:Operand}{b:Bool}{v:Value}(hc:ev e c=some (.bool b))(hb:b=true)(hx:ev e x=some v):iv P ⟨d,.pick c x y,ty,pos,af,g⟩ n e w v:=fun a hf=>SZ hf hc hb hx
theorem Pi{c x y:Operand}{b:Bool}{v:Value}(hf:Fr a n e)(hc:ev e c=some (.bool b))(hb:b=false)(hx:ev e y=some v):Ev P ⟨d,.pick c x y,ty,pos,af,g⟩ a w v:=by
 subst hb;exact FB hf hc hx
theorem X9{c x y:Operand}{b:Bool}{v:Value}(hc:ev e c=some (.bool b))(hb:b=false)(hx:ev e y=some v):iv P ⟨d,.pick c x y,ty,pos,af,g⟩ n e w v:=fun a hf=>Pi hf hc hb hx
theorem QM{t:TypeId}{x:Operand}{p:Addr}{v:Value}{l:List Value}(hf:Fr a n e)(hx:ev e x=some (.pointer (some p)))(h1:mr P t)(hc:At w p (v::l)):Ev P ⟨d,.load t x,ty,pos,af,g⟩ a w v:=fun w' hw=>by
 simp[execOp,hf.ev hx,Instr.loadAt,Instr.sureAddr,Jk h1 (hc.bw hw)]
theorem X0{t:TypeId}{x:Operand}{p:Addr}{v:Value}{l:List Value}(hx:ev e x=some (.pointer (some p)))(h1:mr P t)(hc:At w p (v::l)):iv P ⟨d,.load t x,ty,pos,af,g⟩ n e w v:=fun a hf=>QM hf hx h1 hc
theorem R1{t k:Nat}{x:Operand}{p:Addr}{l:List Value}(hf:Fr a n e)(hx:ev e x=some (.pointer (some p)))(hA:ln P t k)(hc:At w p l)(hl:l.length=k):Ev P ⟨d,.load t x,ty,pos,af,g⟩ a w (.agg l.toArray):=fun w' hw=>by
 simp[execOp,hf.ev hx,Instr.loadAt,Instr.sureAddr,E0 hA (hc.bw hw) hl]
theorem Xt{t k:Nat}{x:Operand}{p:Addr}{l:List Value}(hx:ev e x=some (.pointer (some p)))(hA:ln P t k)(hc:At w p l)(hl:l.length=k):iv P ⟨d,.load t x,ty,pos,af,g⟩ n e w (.agg l.toArray):=fun a hf=>R1 hf hx hA hc hl
theorem Dt{T f k:Nat}{x:Operand}{p:Addr}(hf:Fr a n e)(hx:ev e x=some (.pointer (some p)))(hF:cy P T f k):Ev P ⟨d,.fieldAddr T x f,ty,pos,af,g⟩ a w (.pointer (some (p.add k))):=fun w' _=>by
 have ⟨fs,F,i,h1,h2,h3,h4,h5⟩:=hF;have h6:=gm ⟨i,h4,O⟩ w';simp[execOp,hf.ev hx,Instr.fieldAt,pM h1,h2,Instr.sureAddr,fieldPlace,h6,h3];simp at h5;simp[h5]
theorem uc{T f k:Nat}{x:Operand}{p:Addr}(hx:ev e x=some (.pointer (some p)))(hF:cy P T f k):iv P ⟨d,.fieldAddr T x f,ty,pos,af,g⟩ n e w (.pointer (some (p.add k))):=fun a hf=>Dt hf hx hF
theorem PZ{T f k:Nat}{x:Operand}{b off m:Nat}(hf:Fr a n e)(hx:ev e x=some (.pointer (some ⟨b,off,none⟩)))(hF:cy P T f k)(hk:off+k=m):Ev P ⟨d,.fieldAddr T x f,ty,pos,af,g⟩ a w (.pointer (some ⟨b,m,none⟩)):=by
 have:=Dt (P:=P) (w:=w) (d:=d) (ty:=ty) (pos:=pos) (af:=af) (g:=g) hf hx hF
 rwa [qD,hk] at this
theorem PH{T f k:Nat}{x:Operand}{b off m:Nat}(hx:ev e x=some (.pointer (some ⟨b,off,none⟩)))(hF:cy P T f k)(hk:off+k=m):iv P ⟨d,.fieldAddr T x f,ty,pos,af,g⟩ n e w (.pointer (some ⟨b,m,none⟩)):=fun a hf=>PZ hf hx hF hk
theorem NZ{x:Operand}{k:Nat}{vs:List Value}{v:Value}(hf:Fr a n e)(hx:ev e x=some (.tuple vs.toArray))(hv:vs[k]? = some v):Ev P ⟨d,.extract x k,ty,pos,af,g⟩ a w v:=fun w' _=>by
 simp[execOp,hf.ev hx,Instr.extract,hv]
theorem X2{x:Operand}{k:Nat}{vs:List Value}{v:Value}(hx:ev e x=some (.tuple vs.toArray))(hv:vs[k]? = some v):iv P ⟨d,.extract x k,ty,pos,af,g⟩ n e w v:=fun a hf=>NZ hf hx hv
theorem Nt{t:TypeId}{x:Operand}{b:Bool}(hf:Fr a n e)(hx:ev e x=some (.bool b)):Ev P ⟨d,.unOp .not t x,ty,pos,af,g⟩ a w (.bool (!b)):=fun w' _=>by
 simp[execOp,hf.ev hx,Op.unary]
theorem dn{t:TypeId}{x:Operand}{b:Bool}(hx:ev e x=some (.bool b)):iv P ⟨d,.unOp .not t x,ty,pos,af,g⟩ n e w (.bool (!b)):=fun a hf=>Nt hf hx
theorem TW{t:TypeId}{x:Operand}{i:Int}(hf:Fr a n e)(hx:ev e x=some (.int .i64 i)):Ev P ⟨d,.unOp .neg t x,ty,pos,af,g⟩ a w (.int .i64 (IntKind.i64.wrap (-i))):=fun w' _=>by
 simp[execOp,hf.ev hx,Op.unary,Op.intArith]
theorem rQ{t:TypeId}{x:Operand}{i:Int}(hx:ev e x=some (.int .i64 i)):iv P ⟨d,.unOp .neg t x,ty,pos,af,g⟩ n e w (.int .i64 (IntKind.i64.wrap (-i))):=fun a hf=>TW hf hx
section
variable {t t' : TypeId} {x y : Operand} {i j : Int}
theorem FJ(hf:Fr a n e)(hx:ev e x=some (.int .i64 i))(hy:ev e y=some (.int .i64 j)):Ev P ⟨d,.binOp .add t x y t',ty,pos,af,g⟩ a w (.int .i64 (IntKind.i64.wrap (i+j))):=fun w' _=>by
 simp[execOp,hf.ev hx,hf.ev hy,eqGuard,binOp,Op.intArith]
theorem mu(hx:ev e x=some (.int .i64 i))(hy:ev e y=some (.int .i64 j)):iv P ⟨d,.binOp .add t x y t',ty,pos,af,g⟩ n e w (.int .i64 (IntKind.i64.wrap (i+j))):=fun a hf=>FJ hf hx hy
theorem Og(hf:Fr a n e)(hx:ev e x=some (.int .i64 i))(hy:ev e y=some (.int .i64 j))(h1:-9223372036854775808<=i+j)(h2:i+j<=9223372036854775807):Ev P ⟨d,.binOp .add t x y t',ty,pos,af,g⟩ a w (.int .i64 (i+j)):=by
 have h:=FJ (P:=P) (w:=w) (d:=d) (ty:=ty) (pos:=pos) (af:=af) (g:=g) (t:=t) (t':=t') hf hx hy
 rwa [IntWalk.i64_in _ ⟨h1,h2⟩] at h
theorem Xs(hx:ev e x=some (.int .i64 i))(hy:ev e y=some (.int .i64 j))(h1:-9223372036854775808<=i+j)(h2:i+j<=9223372036854775807):iv P ⟨d,.binOp .add t x y t',ty,pos,af,g⟩ n e w (.int .i64 (i+j)):=fun a hf=>Og hf hx hy h1 h2
theorem Uq(hf:Fr a n e)(hx:ev e x=some (.int .i64 i))(hy:ev e y=some (.int .i64 j))(h1:-9223372036854775808<=i-j)(h2:i-j<=9223372036854775807):Ev P ⟨d,.binOp .sub t x y t',ty,pos,af,g⟩ a w (.int .i64 (i-j)):=by
 have h:Ev P ⟨d,.binOp .sub t x y t',ty,pos,af,g⟩ a w (.int .i64 (IntKind.i64.wrap (i-j))):=fun w' _=>by
  simp[execOp,hf.ev hx,hf.ev hy,eqGuard,binOp,Op.intArith]
 rwa [IntWalk.i64_in _ ⟨h1,h2⟩] at h
theorem ld(hx:ev e x=some (.int .i64 i))(hy:ev e y=some (.int .i64 j))(h1:-9223372036854775808<=i-j)(h2:i-j<=9223372036854775807):iv P ⟨d,.binOp .sub t x y t',ty,pos,af,g⟩ n e w (.int .i64 (i-j)):=fun a hf=>Uq hf hx hy h1 h2
theorem KQ(hf:Fr a n e)(hx:ev e x=some (.int .i64 i))(hy:ev e y=some (.int .i64 j)):Ev P ⟨d,.binOp .sub t x y t',ty,pos,af,g⟩ a w (.int .i64 (IntKind.i64.wrap (i-j))):=fun w' _=>by
 simp[execOp,hf.ev hx,hf.ev hy,eqGuard,binOp,Op.intArith]
theorem pz(hx:ev e x=some (.int .i64 i))(hy:ev e y=some (.int .i64 j)):iv P ⟨d,.binOp .sub t x y t',ty,pos,af,g⟩ n e w (.int .i64 (IntKind.i64.wrap (i-j))):=fun a hf=>KQ hf hx hy
theorem Rb(hf:Fr a n e)(hx:ev e x=some (.int .i64 i))(hy:ev e y=some (.int .i64 j)):Ev P ⟨d,.binOp .mul t x y t',ty,pos,af,g⟩ a w (.int .i64 (IntKind.i64.wrap (i*j))):=fun w' _=>by
 simp[execOp,hf.ev hx,hf.ev hy,eqGuard,binOp,Op.intArith]
theorem mv(hx:ev e x=some (.int .i64 i))(hy:ev e y=some (.int .i64 j)):iv P ⟨d,.binOp .mul t x y t',ty,pos,af,g⟩ n e w (.int .i64 (IntKind.i64.wrap (i*j))):=fun a hf=>Rb hf hx hy
theorem VS(hf:Fr a n e)(hx:ev e x=some (.int .i64 i))(hy:ev e y=some (.int .i64 j)):Ev P ⟨d,.binOp .lss t x y t',ty,pos,af,g⟩ a w (.bool (decide (i<j))):=fun w' _=>by
 simp[execOp,hf.ev hx,hf.ev hy,eqGuard,binOp,Op.intCmp]
theorem ew(hx:ev e x=some (.int .i64 i))(hy:ev e y=some (.int .i64 j)):iv P ⟨d,.binOp .lss t x y t',ty,pos,af,g⟩ n e w (.bool (decide (i<j))):=fun a hf=>VS hf hx hy
theorem Vr(hf:Fr a n e)(hx:ev e x=some (.int .i64 i))(hy:ev e y=some (.int .i64 j)):Ev P ⟨d,.binOp .leq t x y t',ty,pos,af,g⟩ a w (.bool (decide (i<=j))):=fun w' _=>by
 simp[execOp,hf.ev hx,hf.ev hy,eqGuard,binOp,Op.intCmp]
theorem se(hx:ev e x=some (.int .i64 i))(hy:ev e y=some (.int .i64 j)):iv P ⟨d,.binOp .leq t x y t',ty,pos,af,g⟩ n e w (.bool (decide (i<=j))):=fun a hf=>Vr hf hx hy
theorem Pf(hf:Fr a n e)(hx:ev e x=some (.int .i64 i))(hy:ev e y=some (.int .i64 j)):Ev P ⟨d,.binOp .gtr t x y t',ty,pos,af,g⟩ a w (.bool (decide (j<i))):=fun w' _=>by
 simp[execOp,hf.ev hx,hf.ev hy,eqGuard,binOp,Op.intCmp]
theorem oo(hx:ev e x=some (.int .i64 i))(hy:ev e y=some (.int .i64 j)):iv P ⟨d,.binOp .gtr t x y t',ty,pos,af,g⟩ n e w (.bool (decide (j<i))):=fun a hf=>Pf hf hx hy
theorem T7(hf:Fr a n e)(hx:ev e x=some (.int .i64 i))(hy:ev e y=some (.int .i64 j)):Ev P ⟨d,.binOp .geq t x y t',ty,pos,af,g⟩ a w (.bool (decide (j<=i))):=fun w' _=>by
 simp[execOp,hf.ev hx,hf.ev hy,eqGuard,binOp,Op.intCmp]
theorem r0(hx:ev e x=some (.int .i64 i))(hy:ev e y=some (.int .i64 j)):iv P ⟨d,.binOp .geq t x y t',ty,pos,af,g⟩ n e w (.bool (decide (j<=i))):=fun a hf=>T7 hf hx hy
theorem T2(hf:Fr a n e)(hx:ev e x=some (.int .i64 i))(hy:ev e y=some (.int .i64 j)):Ev P ⟨d,.binOp .eql t x y t',ty,pos,af,g⟩ a w (.bool (i==j)):=fun w' _=>by
 simp[execOp,hf.ev hx,hf.ev hy,eqGuard,binOp,Op.intCmp]
theorem go(hx:ev e x=some (.int .i64 i))(hy:ev e y=some (.int .i64 j)):iv P ⟨d,.binOp .eql t x y t',ty,pos,af,g⟩ n e w (.bool (i==j)):=fun a hf=>T2 hf hx hy
theorem Oh(hf:Fr a n e)(hx:ev e x=some (.int .i64 i))(hy:ev e y=some (.int .i64 j)):Ev P ⟨d,.binOp .neq t x y t',ty,pos,af,g⟩ a w (.bool (i != j)):=fun w' _=>by
 simp[execOp,hf.ev hx,hf.ev hy,eqGuard,binOp,Op.intCmp]
theorem kz(hx:ev e x=some (.int .i64 i))(hy:ev e y=some (.int .i64 j)):iv P ⟨d,.binOp .neq t x y t',ty,pos,af,g⟩ n e w (.bool (i != j)):=fun a hf=>Oh hf hx hy
theorem QZ(hf:Fr a n e)(hx:ev e x=some (.int .i64 i))(hy:ev e y=some (.int .i64 j)):Ev P ⟨d,.binOp .and t x y t',ty,pos,af,g⟩ a w (.int .i64 (bits .and .i64 i j)):=fun w' _=>by
 simp[execOp,hf.ev hx,hf.ev hy,eqGuard,binOp,Op.intBits,bits]
theorem BW(hx:ev e x=some (.int .i64 i))(hy:ev e y=some (.int .i64 j)):iv P ⟨d,.binOp .and t x y t',ty,pos,af,g⟩ n e w (.int .i64 (bits .and .i64 i j)):=fun a hf=>QZ hf hx hy
theorem N1(hf:Fr a n e)(hx:ev e x=some (.int .i64 i))(hy:ev e y=some (.int .i64 j)):Ev P ⟨d,.binOp .xor t x y t',ty,pos,af,g⟩ a w (.int .i64 (bits .xor .i64 i j)):=fun w' _=>by
 simp[execOp,hf.ev hx,hf.ev hy,eqGuard,binOp,Op.intBits,bits]
theorem xp(hx:ev e x=some (.int .i64 i))(hy:ev e y=some (.int .i64 j)):iv P ⟨d,.binOp .xor t x y t',ty,pos,af,g⟩ n e w (.int .i64 (bits .xor .i64 i j)):=fun a hf=>N1 hf hx hy
theorem KO{b c:Bool}(ht:P.underlying t=some .bool)(k:Nat)(w:World):(Op.equalIn (k+1) t (.bool b) (.bool c)).run P w=.ok (b==c) w:=by
 simp[Op.equalIn,pM ht]
theorem QD{b c:Bool}(ht:P.underlying t=some .bool)(hf:Fr a n e)(hx:ev e x=some (.bool b))(hy:ev e y=some (.bool c)):Ev P ⟨d,.binOp .neq t x y t',ty,pos,af,g⟩ a w (.bool (b != c)):=fun w' _=>by
 have h:=KO (P:=P) (b:=b) (c:=c) ht 9999 w';simp[execOp,hf.ev hx,hf.ev hy,eqGuard,binOp,Op.equal,Op.maxDepth,h];cases b<;>cases c<;>rfl
theorem Cd{b c:Bool}(ht:P.underlying t=some .bool)(hx:ev e x=some (.bool b))(hy:ev e y=some (.bool c)):iv P ⟨d,.binOp .neq t x y t',ty,pos,af,g⟩ n e w (.bool (b != c)):=fun a hf=>QD ht hf hx hy
theorem Rc{x:Operand}{T E:TypeId}{A:Option Addr}{m c:Nat}(hf:Fr a n e)(hx:ev e x=some (.slice A m c))(hT:bn P T E):Ev P ⟨d,.call ⟨.builtin .len,#[x],#[T]⟩,ty,pos,af,g⟩ a w (.int .i64 (m:Int)):=fun w' _=>by
 have:=pM (P:=P) hT w';simp[execOp,resolve,invoke,builtin,Builtin.len_,hf.ev hx,this,goInt]
theorem fh{x:Operand}{T E:TypeId}{A:Option Addr}{m c:Nat}(hx:ev e x=some (.slice A m c))(hT:bn P T E):iv P ⟨d,.call ⟨.builtin .len,#[x],#[T]⟩,ty,pos,af,g⟩ n e w (.int .i64 (m:Int)):=fun a hf=>Rc hf hx hT
theorem Ty{k:FuncId}{cs:List Operand}{vs:List Value}(hf:Fr a n e)(hx:evs e cs=some vs):Ev P ⟨d,.makeFunc (.func k) #[] cs.toArray,ty,pos,af,g⟩ a w (.func (.func k) #[] vs.toArray):=fun w' _=>by
 simp[execOp,Instr.makeFunc,hf.evs hx]
theorem tQ{k:FuncId}{cs:List Operand}{vs:List Value}(hx:evs e cs=some vs):iv P ⟨d,.makeFunc (.func k) #[] cs.toArray,ty,pos,af,g⟩ n e w (.func (.func k) #[] vs.toArray):=fun a hf=>Ty hf hx
end
end
section
variable {P : Program} {a : Act} {w : World} {n : Nat} {e : kt} {ty : TypeId} {pos : String} {af : Array Edge} {g : Option (Nat × Bool)} {d : Option Tmp}
def pw(w:World)(T:TypeId)(zs:List Value)(v:Value)(w':World) : Prop:=
 ∃ b,v=.pointer (some ⟨b,0,none⟩)/\w.heap.size<=b/\Below w.heap.size w w'/\al w' b T zs
theorem DG(w:World)(T:TypeId)(zs:List Value):al (w.alloc (.cells zs.toArray T)) w.heap.size T zs:=heap_alloc_new w _
theorem FH(w:World)(T:TypeId)(zs:List Value):pw w T zs (.pointer (some ⟨w.heap.size,0,none⟩)) (w.alloc (.cells zs.toArray T)):=
 ⟨_,rfl,Qb _,(Below.refl _ _).alloc (Qb _) _,DG w T zs⟩
theorem J7(T:TypeId)(v:Value)(w:World):(newVar T v).run P w=.ok ⟨w.heap.size,0,none⟩ (w.alloc (.cells v.cells T)):=by
 simp[newVar,newRow,newObj,Sem.run]
theorem Th{T:TypeId}{z:Value}{zs:List Value}(hz:jv P T z)(hzs:z.cells.toList=zs):Ef P ⟨d,.alloc T,ty,pos,af,g⟩ a w (pw w T zs):=by
 subst hzs;have h:(execOp a.eval ⟨d,.alloc T,ty,pos,af,g⟩).run P w=.ok (.value (.pointer (some ⟨w.heap.size,0,none⟩))) (w.alloc (.cells z.cells T)):=by
  simp[execOp,Instr.alloc,T3 hz,J7]
 refine (Ef.of_run h).mono fun v w' ⟨e1,e2⟩=>?_;subst e1;subst e2;have:=FH w T z.cells.toList;simpa using this
theorem Xi{n:Nat}{e:List (Nat×Value)}{T:TypeId}{z:Value}{zs:List Value}(hz:jv P T z)(hzs:z.cells.toList=zs):fd P ⟨d,.alloc T,ty,pos,af,g⟩ n e w (pw w T zs):=fun a _=>Th hz hzs
theorem Tq{T:TypeId}{x:Operand}{v:Value}{zs:List Value}(hf:Fr a n e)(hx:ev e x=some v)(hzs:v.cells.toList=zs):Ef P ⟨d,.box T x,ty,pos,af,g⟩ a w (pw w T zs):=by
 subst hzs;have h:(execOp a.eval ⟨d,.box T x,ty,pos,af,g⟩).run P w=.ok (.value (.pointer (some ⟨w.heap.size,0,none⟩))) (w.alloc (.cells v.cells T)):=by
  simp[execOp,Instr.box,J7,hf.ev hx]
 refine (Ef.of_run h).mono fun v' w' ⟨e1,e2⟩=>?_;subst e1;subst e2;have:=FH w T v.cells.toList;simpa using this
theorem bt{T:TypeId}{x:Operand}{v:Value}{zs:List Value}(hx:ev e x=some v)(hzs:v.cells.toList=zs):fd P ⟨d,.box T x,ty,pos,af,g⟩ n e w (pw w T zs):=fun a hf=>Tq hf hx hzs
def et(l:List Value)(k:Nat)(vs:List Value) : List Value:=l.take k++vs++l.drop (k+vs.length)
def one:Value->Bool
 | .agg _=>false
 | .tuple _=>false
 | _=>true
theorem TU(w:World)(b k:Nat)(v:Value):iq b w (w.setCell ⟨b,k,none⟩ v):=
 ⟨rfl,rfl,rfl,by simp[World.setCell],fun i hi=>Below.heap_setCell _ _ _ _ hi⟩
theorem UG{T:TypeId}{l:List Value}{b:Nat}(h:al w b T l)(k:Nat)(v:Value):al (w.setCell ⟨b,k,none⟩ v) b T (l.set k v):=by
 unfold al at h ⊢;simp[World.setCell,Array.getElem?_modify,h]
theorem Et{b off:Nat}{T:TypeId}:∀ (vs:List Value) (w:World) (l:List Value) (i:Nat),al w b T l->off+i+vs.length<=l.length->vs.all one=true->
  ∃ w',(storeCells ⟨b,off,none⟩ vs i).run P w=.ok () w'/\iq b w w'/\al w' b T (et l (off+i) vs)
 | [],w,l,i,hb,_,_=>⟨w,by simp[storeCells],iq.refl _ _,by simpa[et] using hb⟩
 | v::vs,w,l,i,hb,hl,h1=>by
  simp only[List.all_cons,Qd,Qs] at h1 hl;have hc:w.cell? ⟨b,off+i,none⟩=some (l[off+i]'O0):=by rw[hb.cell];exact Qc O0
  have hfz:w.frozen? ⟨b,off+i,none⟩=false:=by
   have:=hb;unfold al at this;simp[World.frozen?,this]
  obtain ⟨w',hr,ho,hb'⟩:=Et (off:=off) vs (w.setCell ⟨b,off+i,none⟩ v) (l.set (off+i) v) (i+1) (UG hb _ _) (by rw[List.length_set];omega) h1.2;refine ⟨w',?_,(TU w b _ v).trans ho,?_⟩
  ·have h0:(store (⟨b,off+i,none⟩ : Addr) v).run P w=.ok () (w.setCell ⟨b,off+i,none⟩ v):=by
    have h2:=h1.1;unfold one at h2;split at h2
    ·cases h2
    ·cases h2
    ·rename_i hx1 hx2;cases v<;>simp_all[store,Sem.run]
   simp only[storeCells,qD];simp[h0,hr]
  ·have:et (l.set (off+i) v) (off+(i+1)) vs=et l (off+i) (v::vs):=by
    unfold et;have e1:off+(i+1)=off+i+1:=by omega
    rw[e1,Wf (by rw[List.length_set];omega),List.take_set_of_le O0,List.getElem_set_self,List.drop_set_of_lt O0];simp only[Qs,Qx,Wa,List.nil_append];rw[show off+i+1+vs.length=off+i+(vs.length+1) from by omega]
   rw[this] at hb';exact hb'
def ow(w:World)(b:Nat)(T:TypeId)(l:List Value)(_:Value)(w':World) : Prop:=iq b w w'/\al w' b T l
theorem BT{t T:TypeId}{x y:Operand}{b off k:Nat}{v:Value}{l l' vs:List Value}(hf:Fr a n e)(hx:ev e x=some (.pointer (some ⟨b,off,none⟩)))(hy:ev e y=some v)
  (hs:da P t k) (hb:al w b T l) (hvs:v.cells.toList=vs) (hk:Nat.beq vs.length k=true) (h1:vs.all one=true) (hl:Nat.ble (off+k) l.length=true) (hl':et l off vs=l') :
  Ef P ⟨d,.store t x y,ty,pos,af,g⟩ a w (ow w b T l'):=by
 subst hl';have hk':vs.length=k:=Nat.eq_of_beq_eq_true hk;have hll:off+k<=l.length:=Nat.le_of_ble_eq_true hl;obtain ⟨w',hr,ho,hb'⟩:=Et (P:=P) (b:=b) (off:=off) (T:=T) vs w l 0 hb O0 h1;refine (Ef.of_skip (w':=w') ?_).mono fun v w1 ⟨_,e2⟩=>by subst e2;exact ⟨ho,by simpa using hb'⟩
 have hc:v.cells.size=k:=by rw[<- hk',<- hvs];simp
 simp[execOp,Instr.storeAt,Instr.sureAddr,hf.ev hx,hf.ev hy,storeVar,gm hs,hc,hvs,hr]
theorem xM{t T:TypeId}{x y:Operand}{b off k:Nat}{v:Value}{l l' vs:List Value}(hx:ev e x=some (.pointer (some ⟨b,off,none⟩)))(hy:ev e y=some v)(hs:da P t k)(hb:al w b T l)(hvs:v.cells.toList=vs)(hk:Nat.beq vs.length k=true)(h1:vs.all one=true)(hl:Nat.ble (off+k) l.length=true)(hl':et l off vs=l'):fd P ⟨d,.store t x y,ty,pos,af,g⟩ n e w (ow w b T l'):=fun a hf=>BT hf hx hy hs hb hvs hk h1 hl hl'
def sZ(P:Program)(f:FuncId)(args:List Value)(w:World)(R:Value->World->Prop) : Prop:=Calls P f args.toArray w fun e w'=>∃ v,e=.returned v/\R v w'
theorem sZ.mono{f:FuncId}{args:List Value}{R R':Value->World->Prop}(h:sZ P f args w R)(hr:∀ v w',R v w'->R' v w'):sZ P f args w R':=
 Calls.mono h fun _ _ ⟨v,he,hR⟩=>⟨v,he,hr _ _ hR⟩
theorem IR{f:FuncId}(hF:oS P f)(args:Array Value)(w:World):(callFunc f args).run P w=.ok (.enter f args) w:=by
 have ⟨fn,h1,h2,h3⟩:=hF;have h2' : ¬ fn.name = "runtime.NumGoroutine" := by simpa using h2
 have h3':¬ fn.body=none:=by intro hb;rw[hb] at h3;cases h3
 simp[callFunc,h1,h2',h3']
theorem Mq{f:FuncId}{xs:List Operand}{vs:List Value}{ts:Array TypeId}{R:Value->World->Prop}(hf:Fr a n e)(hx:evs e xs=some vs)(hF:oS P f)(h:sZ P f vs w R) :
  Ef P ⟨d,.call ⟨.value (.func f),xs.toArray,ts⟩,ty,pos,af,g⟩ a w R:=by
 have hm:=hf.evs hx;unfold Ef;have hr:(execOp a.eval ⟨d,.call ⟨.value (.func f),xs.toArray,ts⟩,ty,pos,af,g⟩).run P w=.ok (.enter f vs.toArray) w:=by
  simp[execOp,resolve,Act.eval,Deferred.ofValue,invoke,hm,IR hF]
 rw[hr];exact h
theorem ki{f:FuncId}{xs:List Operand}{vs:List Value}{ts:Array TypeId}{R:Value->World->Prop}(hx:evs e xs=some vs)(hF:oS P f)(h:sZ P f vs w R):fd P ⟨d,.call ⟨.value (.func f),xs.toArray,ts⟩,ty,pos,af,g⟩ n e w R:=fun a hf=>Mq hf hx hF h
theorem Lj{f:FuncId}{x:Operand}{xs:List Operand}{vs cs:List Value}{ts:Array TypeId}{R:Value->World->Prop}(hf:Fr a n e)(hv:ev e x=some (.func (.func f) #[] cs.toArray))(hx:evs e xs=some vs)(hF:oS P f)(h:sZ P f (vs++cs) w R) :
  Ef P ⟨d,.call ⟨.value x,xs.toArray,ts⟩,ty,pos,af,g⟩ a w R:=by
 have hm:=hf.evs hx;have hv':=hf.ev hv;unfold Ef;have hr:(execOp a.eval ⟨d,.call ⟨.value x,xs.toArray,ts⟩,ty,pos,af,g⟩).run P w=.ok (.enter f (vs++cs).toArray) w:=by
  simp[execOp,resolve,hv',Deferred.ofValue,invoke,hm,IR hF]
 rw[hr];exact h
theorem ta{f:FuncId}{x:Operand}{xs:List Operand}{vs cs:List Value}{ts:Array TypeId}{R:Value->World->Prop}(hv:ev e x=some (.func (.func f) #[] cs.toArray))(hx:evs e xs=some vs)(hF:oS P f)(h:sZ P f (vs++cs) w R):fd P ⟨d,.call ⟨.value x,xs.toArray,ts⟩,ty,pos,af,g⟩ n e w R:=fun a hf=>Lj hf hv hx hF h
end
section
variable {α : Type}
def Rd(w:World)(B:Nat)(E:TypeId)(enc:α->List Value)(A:Option Addr)(l:List α) : Prop:=
 l≠[]->∃ b off cs fz,A=some ⟨b,off,none⟩/\b<B/\w.heap[b]? = some (.cells cs E fz)/\∀ j v,(l.flatMap enc)[j]? = some v->cs[off+j]? = some v
theorem Rd.nil(w:World)(B:Nat)(E:TypeId)(enc:α->List Value)(A:Option Addr):Rd w B E enc A []:=fun h=>absurd rfl h
theorem Rd.chg{w w':World}{B:Nat}{E:TypeId}{enc:α->List Value}{A:Option Addr}{l:List α}(h:Rd w B E enc A l)(hk:∀ b cs fz,b<B->w.heap[b]? = some (.cells cs E fz)->w'.heap[b]? = w.heap[b]?):Rd w' B E enc A l:=by grind [Rd]
theorem Rd.bw{w w':World}{B:Nat}{E:TypeId}{enc:α->List Value}{A:Option Addr}{l:List α}(h:Rd w B E enc A l)(hb:Below w.heap.size w w'):Rd w' B E enc A l:=
 h.chg fun b _ _ _ hh=>hb.block b (by
  rcases W4 b w.heap.size with h'|h'
  ·exact h'
  ·rw[We h'] at hh;cases hh)
theorem Rd.bx{w w':World}{B:Nat}{E:TypeId}{enc:α->List Value}{A:Option Addr}{l:List α}(h:Rd w B E enc A l)(hb:Below B w w'):Rd w' B E enc A l:=
 h.chg fun b _ _ hB _=>hb.block b hB
theorem Rd.oy{w w':World}{B b:Nat}{E:TypeId}{enc:α->List Value}{A:Option Addr}{l:List α}(h:Rd w B E enc A l)(ho:iq b w w')(hB:B<=b):Rd w' B E enc A l:=
 h.chg fun k _ _ hk _=>ho.block k O0
theorem Rd.oT{w w':World}{B b:Nat}{E T:TypeId}{lc:List Value}{enc:α->List Value}{A:Option Addr}{l:List α}(h:Rd w B E enc A l)(ho:iq b w w')(hb:al w b T lc)(hT:Nat.beq E T=false):Rd w' B E enc A l:=
 h.chg fun k cs fz _ hh=>ho.block k (by
  rintro rfl;unfold al at hb;rw[hh] at hb;injection hb with hb;injection hb with _ e _;subst e;simp at hT)
theorem Rd.drew{w:World}{B:Nat}{E:TypeId}{enc:α->List Value}{A:Option Addr}{l:List α}(h:Rd w B E enc A l):Rd w.drew B E enc A l:=h
theorem Cu{enc:α->List Value}{sz:Nat}(hsz:∀ x,(enc x).length=sz):∀ (l:List α) (k:Nat) (x:α),l[k]? = some x->∀ j v,(enc x)[j]? = some v->(l.flatMap enc)[k*sz+j]? = some v
 | [],k,x,h=>by simp at h
 | y::l,0,x,h=>by
  intro j v hj;obtain rfl:y=x:=by simpa using h
  simp only[Wc,Nat.zero_mul,Nat.zero_add];rw[List.getElem?_append_left (Qg.1 hj).1];exact hj
 | y::l,k+1,x,h=>by
  intro j v hj;simp only[Wc];have h1:(k+1)*sz+j=sz+(k*sz+j):=by rw[Wb];omega
  rw[h1,W5 (by rw[hsz];omega),hsz,Nat.add_sub_cancel_left];exact Cu hsz l k x (by simpa using h) j v hj
theorem qh{enc:α->List Value}{sz:Nat}(hsz:∀ x,(enc x).length=sz)(l:List α):(l.flatMap enc).length=l.length*sz:=by
 induction l with
 | nil=>simp
 | cons x l ih=>simp only[Wc,Qh,hsz,ih,Qs,Wb];omega
theorem Rd.at{w:World}{B:Nat}{E:TypeId}{enc:α->List Value}{A:Option Addr}{l:List α}{sz:Nat}(hsz:∀ x,(enc x).length=sz)(h:Rd w B E enc A l){k:Nat}{x:α}(hk:l[k]? = some x) :
  ∃ p,A=some p/\At w (p.add (k*sz)) (enc x):=by
 have hl:l≠[]:=by rintro rfl;simp at hk
 obtain ⟨b,off,cs,fz,rfl,h2,h3,h4⟩:=h hl;refine ⟨_,O,fun j v hj=>?_⟩;rw[qD,qD];have:=h4 _ _ (Cu hsz l k x hk j v hj);simp only[World.cell?,h3];rw[Nat.add_assoc];simpa using this
theorem Rd.of_blk{w:World}{b:Nat}{E:TypeId}{enc:α->List Value}{l:List α}{cs:List Value}(h:al w b E cs)(hcs:l.flatMap enc=cs)(B:Nat)(hB:b<B):Rd w B E enc (some ⟨b,0,none⟩) l:=by grind [al,Rd]
def ah(w:World)(B0:Nat)(E:TypeId)(sz:Nat)(enc:α->List Value)(A:Option Addr)(c:Nat)(l:List α) : Prop:=w.ownsRow B0 E sz (.slice A l.length c) l.length (l.flatMap enc)
abbrev Rw{α:Type}(w:World)(E:TypeId)(e:α->List Value)(A:Option Addr)(l:List α):=Rd w w.heap.size E e A l
theorem ah.rd{w:World}{B0:Nat}{E:TypeId}{sz:Nat}{enc:α->List Value}{A:Option Addr}{c:Nat}{l:List α}(h:ah w B0 E sz enc A c l):Rw w E enc A l:=fun hl=>by
 rcases h.2 with ⟨h1,h2⟩|⟨g,cap,cur,h1,h2,h3,h4,h5,h6,h7⟩
 ·exact absurd (List.eq_nil_of_length_eq_zero h2) hl
 ·injection h1 with h1;refine ⟨g,0,cur,_,h1,(Qp.1 h3).1,h3,fun j v hj=>?_⟩;rw[<- h7,List.getElem?_take] at hj;split at hj
  ·simpa using hj
  ·cases hj
theorem ah.nil(w:World)(B0:Nat)(E:TypeId)(sz:Nat)(enc:α->List Value):ah w B0 E sz enc none 0 []:=⟨by simp,.inl ⟨rfl,rfl⟩⟩
theorem ah.empty{w:World}{B0 b:Nat}{E:TypeId}{sz:Nat}{enc:α->List Value}(h:al w b E [])(hb:B0<=b):ah w B0 E sz enc (some ⟨b,0,none⟩) 0 ([] : List α):=
 ⟨by simp,.inr ⟨b,0,#[],rfl,hb,h,Qb _,by simp[maxLen],by simp,by simp⟩⟩
theorem ah.of_blk{w:World}{B0 b:Nat}{E:TypeId}{sz:Nat}{enc:α->List Value}{l:List α}{cs:List Value}(h:al w b E cs)(hb:B0<=b)(hcs:l.flatMap enc=cs)(hsz:∀ x,(enc x).length=sz)(hm:l.length<=maxLen):ah w B0 E sz enc (some ⟨b,0,none⟩) l.length l:=by
 subst hcs;have hl:=qh hsz l;exact ⟨hl,.inr ⟨b,l.length,_,O,hb,h,Qb _,hm,by simpa using hl,by simp only[List.toList_toArray];rw[<- hl];exact List.take_length⟩⟩
theorem ah.bw{w w':World}{B0:Nat}{E:TypeId}{sz:Nat}{enc:α->List Value}{A:Option Addr}{c:Nat}{l:List α}(h:ah w B0 E sz enc A c l)(hb:Below w.heap.size w w'):ah w' B0 E sz enc A c l:=by
 refine ⟨h.1,?_⟩;rcases h.2 with h1|⟨g,cap,cur,h1,h2,h3,h4⟩
 ·exact .inl h1
 ·exact .inr ⟨g,cap,cur,h1,h2,(hb.block g (Qp.1 h3).1).trans h3,h4⟩
theorem ah.oT{w w':World}{B0 b:Nat}{E T:TypeId}{lc:List Value}{sz:Nat}{enc:α->List Value}{A:Option Addr}{c:Nat}{l:List α}(h:ah w B0 E sz enc A c l)(ho:iq b w w')(hb:al w b T lc)(hT:Nat.beq E T=false):ah w' B0 E sz enc A c l:=by
 refine ⟨h.1,?_⟩;rcases h.2 with h1|⟨g,cap,cur,h1,h2,h3,h4⟩
 ·exact .inl h1
 ·refine .inr ⟨g,cap,cur,h1,h2,(ho.block g ?_).trans h3,h4⟩;rintro rfl;unfold al at hb;rw[h3] at hb;injection hb with hb;injection hb with _ e _;subst e;simp at hT
theorem ah.drew{w:World}{B0:Nat}{E:TypeId}{sz:Nat}{enc:α->List Value}{A:Option Addr}{c:Nat}{l:List α}(h:ah w B0 E sz enc A c l):ah w.drew B0 E sz enc A c l:=h
theorem ah.block{w:World}{B0:Nat}{E:TypeId}{sz:Nat}{enc:α->List Value}{A:Option Addr}{c:Nat}{l:List α}(h:ah w B0 E sz enc A c l){k:Nat}(hk:(Value.slice A l.length c).ownBlock=some k):B0<=k/\k<w.heap.size/\∃ cs fz,w.heap[k]? = some (.cells cs E fz):=by
 rcases h.2 with ⟨h1,_⟩|⟨g,cap,cur,h1,h2,h3,_⟩
 ·rw[h1] at hk;simp[Value.ownBlock] at hk
 ·rw[h1] at hk;simp[Value.ownBlock] at hk;subst hk;exact ⟨h2,(Qp.1 h3).1,_,_,h3⟩
def il(A:Option Addr)(b:Nat) : Prop:=∀ p,A=some p->p.block≠b
def ef(l:List α)(A:Option Addr)(b:Nat) : Prop:=l≠[]->il A b
theorem il.ne{g off b:Nat}(h:b≠g):il (some ⟨g,off,none⟩) b:=by grind [il]
theorem Rd.away{w:World}{B b:Nat}{E:TypeId}{enc:α->List Value}{A:Option Addr}{l:List α}(h:Rd w B E enc A l)(hl:w.heap.size<=b):ef l A b:=fun hne p hp=>by
 have ⟨g,off,cs,fz,h1,h2,h3,h4⟩:=h hne;rw[hp] at h1;injection h1 with h1;subst h1;have:=(Qp.1 h3).1;intro e;simp only at e;omega
theorem ah.away{w:World}{B0 b:Nat}{E:TypeId}{sz:Nat}{enc:α->List Value}{A:Option Addr}{c:Nat}{l:List α}(h:ah w B0 E sz enc A c l)(hl:w.heap.size<=b):il A b:=fun p hp=>by
 rcases h.2 with ⟨h1,_⟩|⟨g,cap,cur,h1,h2,h3,_⟩
 ·injection h1 with h1;rw[h1] at hp;cases hp
 ·injection h1 with h1;rw[h1] at hp;injection hp with hp;subst hp;have:=(Qp.1 h3).1;intro e;simp only at e;omega
theorem ah.awayNew{w:World}{B0 b:Nat}{E:TypeId}{sz:Nat}{enc:α->List Value}{A:Option Addr}{c:Nat}{l:List α}(h:ah w B0 E sz enc A c l)(hl:b<B0):il A b:=fun p hp=>by
 rcases h.2 with ⟨h1,_⟩|⟨g,cap,cur,h1,h2,h3,_⟩
 ·injection h1 with h1;rw[h1] at hp;cases hp
 ·injection h1 with h1;rw[h1] at hp;injection hp with hp;subst hp;intro e;simp only at e;omega
theorem il.r{l:List α}{A:Option Addr}{b:Nat}(h:il A b):ef l A b:=fun _=>h
theorem Rd.onlyA{w w':World}{B b:Nat}{E:TypeId}{enc:α->List Value}{A:Option Addr}{l:List α}(h:Rd w B E enc A l)(ho:iq b w w')(ha:ef l A b):Rd w' B E enc A l:=fun hne=>by
 have ⟨g,off,cs,fz,h1,h2,h3,h4⟩:=h hne;exact ⟨g,off,cs,fz,h1,h2,(ho.block g (ha hne _ h1)).trans h3,h4⟩
theorem ah.onlyA{w w':World}{B0 b:Nat}{E:TypeId}{sz:Nat}{enc:α->List Value}{A:Option Addr}{c:Nat}{l:List α}(h:ah w B0 E sz enc A c l)(ho:iq b w w')(ha:il A b):ah w' B0 E sz enc A c l:=by
 refine ⟨h.1,?_⟩;rcases h.2 with h1|⟨g,cap,cur,h1,h2,h3,h4⟩
 ·exact .inl h1
 ·injection h1 with h1 h1' h1'';exact .inr ⟨g,cap,cur,by rw[h1,h1''],h2,(ho.block g (ha _ h1)).trans h3,h4⟩
def qy(w:World)(B0:Nat)(E:TypeId)(sz:Nat)(enc:α->List Value)(A:Option Addr)(c:Nat)(l l2:List α)(v:Value)(w':World) : Prop:=
 ∃ A' c',v=.slice A' (l++l2).length c'/\ah w' B0 E sz enc A' c' (l++l2)/\w.grownBy w' (Value.slice A l.length c).ownBlock/\∀ b,b<w.heap.size->il A b->il A' b
theorem al.appT{w w':World}{b:Nat}{T:TypeId}{lc:List Value}{B0:Nat}{E:TypeId}{sz:Nat}{enc:α->List Value}{A:Option Addr}{c:Nat}{l:List α}(h:al w b T lc)(ho:ah w B0 E sz enc A c l)(hg:w.grownBy w' (Value.slice A l.length c).ownBlock)(hT:Nat.beq E T=false):al w' b T lc:=by
 refine (hg.block b h.lt fun hk=>?_).trans h;have ⟨_,_,cs,fz,h3⟩:=ho.block hk.symm;unfold al at h;rw[h3] at h;injection h with h;injection h with _ e _;subst e;simp at hT
theorem al.appB{w w':World}{b:Nat}{T:TypeId}{lc:List Value}{B0:Nat}{E:TypeId}{sz:Nat}{enc:α->List Value}{A:Option Addr}{c:Nat}{l:List α}(h:al w b T lc)(ho:ah w B0 E sz enc A c l)(hg:w.grownBy w' (Value.slice A l.length c).ownBlock)(hb:b<B0):al w' b T lc:=
 (hg.block b h.lt fun hk=>by have:=(ho.block hk.symm).1;omega).trans h
theorem al.appA{w w':World}{b:Nat}{T:TypeId}{lc:List Value}{A:Option Addr}{n c:Nat}(h:al w b T lc)(hg:w.grownBy w' (Value.slice A n c).ownBlock)(ha:il A b):al w' b T lc:=by
 refine (hg.block b h.lt fun hk=>?_).trans h;cases A with
 | none=>simp[Value.ownBlock] at hk
 | some q=>
  simp only[Value.ownBlock,Option.some.injEq] at hk;exact ha q O hk.symm
theorem Rd.appT{β:Type}{w w':World}{B:Nat}{E':TypeId}{enc':β->List Value}{A':Option Addr}{l':List β}{B0:Nat}{E:TypeId}{sz:Nat}{enc:α->List Value}{A:Option Addr}{c:Nat}{l:List α}(h:Rd w B E' enc' A' l')(ho:ah w B0 E sz enc A c l)(hg:w.grownBy w' (Value.slice A l.length c).ownBlock)(hT:Nat.beq E E'=false):Rd w' B E' enc' A' l':=
 h.chg fun k cs fz _ hh=>hg.block k (Qp.1 hh).1 fun hk=>by
  obtain ⟨_,_,cs',fz',h3⟩:=ho.block hk.symm;rw[h3] at hh;injection hh with hh;injection hh with _ e _;subst e;simp at hT
theorem Rd.appB{β:Type}{w w':World}{B:Nat}{E':TypeId}{enc':β->List Value}{A':Option Addr}{l':List β}{B0:Nat}{E:TypeId}{sz:Nat}{enc:α->List Value}{A:Option Addr}{c:Nat}{l:List α}(h:Rd w B E' enc' A' l')(ho:ah w B0 E sz enc A c l)(hg:w.grownBy w' (Value.slice A l.length c).ownBlock)(hB:B<=B0):Rd w' B E' enc' A' l':=
 h.chg fun k cs fz hk hh=>hg.block k (Qp.1 hh).1 fun hk'=>by have:=(ho.block hk'.symm).1;omega
theorem ah.appT{β:Type}{w w':World}{B1:Nat}{E':TypeId}{sz':Nat}{enc':β->List Value}{A':Option Addr}{c':Nat}{l':List β}{B0:Nat}{E:TypeId}{sz:Nat}{enc:α->List Value}{A:Option Addr}{c:Nat}{l:List α}(h:ah w B1 E' sz' enc' A' c' l')(ho:ah w B0 E sz enc A c l)(hg:w.grownBy w' (Value.slice A l.length c).ownBlock)(hT:Nat.beq E E'=false):ah w' B1 E' sz' enc' A' c' l':=by
 refine ⟨h.1,?_⟩;rcases h.2 with h1|⟨g,cap,cur,h1,h2,h3,h4⟩
 ·exact .inl h1
 ·refine .inr ⟨g,cap,cur,h1,h2,(hg.block g (Qp.1 h3).1 fun hk=>?_).trans h3,h4⟩;obtain ⟨_,_,cs',fz',h5⟩:=ho.block hk.symm;rw[h5] at h3;injection h3 with h3;injection h3 with _ e _;subst e;simp at hT
theorem Below.app{w0 w w':World}{B B0:Nat}{E:TypeId}{sz:Nat}{enc:α->List Value}{A:Option Addr}{c:Nat}{l:List α}(h:Below B w0 w)(ho:ah w B0 E sz enc A c l)(hg:w.grownBy w' (Value.slice A l.length c).ownBlock)(hB:B<=B0)(hs:B<=w.heap.size):Below B w0 w':=
 h.grown hg hs fun k hk=>by have:=(ho.block hk).1;omega
def ik(P:Program)(E:TypeId)(sz bytes:Nat) : Prop:=∃ i z,P.info? E=some i/\i.zero=some z/\i.size=sz/\i.bytes=bytes/\z.cells.size=sz/\0<sz
section
variable {P : Program} {a : Act} {w : World} {n : Nat} {e : kt} {ty : TypeId} {pos : String} {af : Array Edge} {g : Option (Nat × Bool)} {d : Option Tmp}
theorem SR{T E:TypeId}{sz bytes B B0:Nat}{x y:Operand}{enc:α->List Value}{A A2:Option Addr}{c c2:Nat}{l l2:List α}(hf:Fr a n e)(hx:ev e x=some (.slice A l.length c))(hy:ev e y=some (.slice A2 l2.length c2))
  (hT:bn P T E) (hi:ik P E sz bytes) (hsz:∀ x,(enc x).length=sz) (hone:∀ x,(enc x).all one=true) (ho:ah w B0 E sz enc A c l) (hr:Rd w B E enc A2 l2) (h63:l.length+l2.length<=maxLen) (hbytes:(l.length+l2.length)*bytes<=140737488355328) (hB0:B0<=w.heap.size) :
  Ef P ⟨d,.call ⟨.builtin .append,#[x,y],#[T,T]⟩,ty,pos,af,g⟩ a w (qy w B0 E sz enc A c l l2):=by
 have ⟨i,z,hi1,hi2,hi3,hi4,hi5,hi6⟩:=hi;by_cases hl2:l2=[]
 ·subst hl2;have hrun:(Builtin.append_ #[T,T] ty #[.slice A l.length c,.slice A2 0 c2]).run P w=.ok (.slice A l.length c) w:=by
   rcases ho.2 with ⟨h1,h2⟩|⟨gg,cap,cur,h1,h2,h3,h4,h5,h6,h7⟩
   ·injection h1 with h1 h1' h1'';subst h1;cases A2<;>simp[Builtin.append_,pM hT,sizeOf,typeInfo,hi1,Builtin.lenOf,Builtin.firstCells,loadCells,loadCellsFrom,h1',h1'']
   ·injection h1 with h1 _ h1'';subst h1;subst h1'';cases A2<;>simp[Builtin.append_,pM hT,sizeOf,typeInfo,hi1,Builtin.lenOf,Builtin.firstCells,loadCells,loadCellsFrom,h4,storeCells]
  refine (Ef.of_run (v:=.slice A l.length c) (w':=w) ?_).mono fun v w' ⟨e1,e2⟩=>?_
  ·simp only[List.length_nil] at hy;simp[execOp,resolve,invoke,builtin,hf.ev hx,hf.ev hy,hrun]
  ·subst e1;subst e2;exact ⟨A,c,by simp,by simpa using ho,World.grownBy.refl w' _,fun _ _ h=>h⟩
 ·obtain ⟨b,off,cs,fz,rfl,h2,h3,h4⟩:=hr hl2;obtain ⟨v',w',hrun,hown,hg,_,hat⟩:=run_append_own_at (P:=P) w B0 T ty E i z sz bytes hT hi1 hi2 hi3 hi4 hi5 hi6 (.slice A l.length c) l.length (l.flatMap enc) ho ⟨b,off,none⟩ l2.length c2 (l2.flatMap enc) (qh hsz l2)
   (fun j u hu=>by
    have:=h4 j u hu;rw[qD];simp[World.cell?,h3,this])
   (fun u hu=>by
    have ⟨x,_,hx⟩:=List.mem_flatMap.1 hu;have:=W1.1 (hone x) u hx;cases u<;>simp_all[Value.oneCell',one]) h63 hbytes hB0
  refine (Ef.of_run (v:=v') (w':=w') ?_).mono fun v w1 ⟨e1,e2⟩=>?_
  ·simp[execOp,resolve,invoke,builtin,hf.ev hx,hf.ev hy,hrun]
  ·subst e1;subst e2;have hv:∃ A' c',v=.slice A' (l++l2).length c':=by
    rcases hown.2 with ⟨h1,h2⟩|⟨gg,cap,cur,h1,_⟩
    ·exact ⟨none,0,by rw[h1,Qh,h2]⟩
    ·exact ⟨_,_,by rw[h1,Qh]⟩
   obtain ⟨A',c',rfl⟩:=hv;refine ⟨A',c',O,?_,hg,fun b hb ha p hp=>?_⟩
   rotate_left
   ·subst hp;rcases hat with hat|hat
    ·cases A with
     | none=>simp[Value.ownBlock] at hat
     | some q=>
      simp only[Value.ownBlock,Option.some.injEq] at hat
      rw[hat];exact ha q O
    ·simp only[Value.ownBlock,Option.some.injEq] at hat
     rw[hat];omega
   unfold ah;rw[Qh,List.flatMap_append];simpa[Qh] using hown
theorem jf{T E:TypeId}{sz bytes B B0:Nat}{x y:Operand}{enc:α->List Value}{A A2:Option Addr}{c c2:Nat}{l l2:List α}(hx:ev e x=some (.slice A l.length c))(hy:ev e y=some (.slice A2 l2.length c2))(hT:bn P T E)(hi:ik P E sz bytes)(hsz:∀ x,(enc x).length=sz)(hone:∀ x,(enc x).all one=true)(ho:ah w B0 E sz enc A c l)(hr:Rd w B E enc A2 l2)(h63:l.length+l2.length<=maxLen)(hbytes:(l.length+l2.length)*bytes<=140737488355328)(hB0:B0<=w.heap.size):fd P ⟨d,.call ⟨.builtin .append,#[x,y],#[T,T]⟩,ty,pos,af,g⟩ n e w (qy w B0 E sz enc A c l l2):=fun a hf=>SR hf hx hy hT hi hsz hone ho hr h63 hbytes hB0
theorem yB{T E:TypeId}{sz:Nat}{x y:Operand}{p:Addr}{c:Nat}{k:Nat}{i:Int}{m:Nat}(hf:Fr a n e)(hx:ev e x=some (.slice (some p) m c))(hy:ev e y=some (.int .i64 i))(hT:bn P T E)(hs:da P E sz)
  (hi:i=(k:Int)) (hk:k<m) : Ev P ⟨d,.indexAddr T x y,ty,pos,af,g⟩ a w (.pointer (some (p.add (k*sz)))):=fun w' _=>by
 subst hi;have h1:=pM (P:=P) hT w';have h2:=gm hs w';have h3:((k:Int)<(m:Int))=True:=by simp;omega
 simp[execOp,Instr.indexAt,asIntOf,hf.ev hx,hf.ev hy,h1,h2,hk]
end
end
class Mw (w w':World) (p:Prop) (q:outParam Prop) : Prop where
 mw:p->Below w.heap.size w w'->q
instance {w w':World} {b:Nat} {T:TypeId} {l:List Value} : Mw w w' (al w b T l) (al w' b T l):=⟨al.bw⟩
instance {α:Type} {w w':World} {B:Nat} {E:TypeId} {enc:α->List Value} {A:Option Addr} {l:List α} : Mw w w' (Rd w B E enc A l) (Rd w' B E enc A l):=⟨Rd.bw⟩
instance {α:Type} {w w':World} {B:Nat} {E:TypeId} {sz:Nat} {enc:α->List Value} {A:Option Addr} {c:Nat} {l:List α} : Mw w w' (ah w B E sz enc A c l) (ah w' B E sz enc A c l):=⟨ah.bw⟩
instance {w0 w w':World} : Mw w w' (Below w0.heap.size w0 w) (Below w0.heap.size w0 w'):=⟨aa⟩
section
variable {w w' : World} {p1 p2 p3 p4 p5 p6 p7 p8 q1 q2 q3 q4 q5 q6 q7 q8 : Prop} [m1 : Mw w w' p1 q1] [m2 : Mw w w' p2 q2]
theorem Wo(o:Below w.heap.size w w')(a:p1)(b:p2):q1/\q2:=⟨m1.mw a o,m2.mw b o⟩
variable [m3 : Mw w w' p3 q3]
theorem bh(o:Below w.heap.size w w')(a:p1)(b:p2)(c:p3):q1/\q2/\q3:=⟨m1.mw a o,m2.mw b o,m3.mw c o⟩
variable [m4 : Mw w w' p4 q4]
theorem dk(o:Below w.heap.size w w')(a:p1)(b:p2)(c:p3)(d:p4):q1/\q2/\q3/\q4:=⟨m1.mw a o,m2.mw b o,m3.mw c o,m4.mw d o⟩
variable [m5 : Mw w w' p5 q5]
theorem io(o:Below w.heap.size w w')(a:p1)(b:p2)(c:p3)(d:p4)(e:p5):q1/\q2/\q3/\q4/\q5:=⟨m1.mw a o,m2.mw b o,m3.mw c o,m4.mw d o,m5.mw e o⟩
variable [m6 : Mw w w' p6 q6]
theorem kf(o:Below w.heap.size w w')(a:p1)(b:p2)(c:p3)(d:p4)(e:p5)(f:p6):q1/\q2/\q3/\q4/\q5/\q6:=⟨m1.mw a o,m2.mw b o,m3.mw c o,m4.mw d o,m5.mw e o,m6.mw f o⟩
variable [m7 : Mw w w' p7 q7]
theorem lf(o:Below w.heap.size w w')(a:p1)(b:p2)(c:p3)(d:p4)(e:p5)(f:p6)(g:p7):q1/\q2/\q3/\q4/\q5/\q6/\q7:=⟨m1.mw a o,m2.mw b o,m3.mw c o,m4.mw d o,m5.mw e o,m6.mw f o,m7.mw g o⟩
variable [m8 : Mw w w' p8 q8]
theorem j'(o:Below w.heap.size w w')(a:p1)(b:p2)(c:p3)(d:p4)(e:p5)(f:p6)(g:p7)(h:p8):q1/\q2/\q3/\q4/\q5/\q6/\q7/\q8:=⟨m1.mw a o,m2.mw b o,m3.mw c o,m4.mw d o,m5.mw e o,m6.mw f o,m7.mw g o,m8.mw h o⟩
end
section
variable {P : Program} {Q : Exit -> Act -> World -> Prop} {a : Act} {w : World} {n : Nat} {e : kt}
theorem Xz{c:Operand}{x y:Code}{b:Bool}(hf:Fr a n e)(hc:ev e c=some (.bool b))(ht:b=true->x.wp P Q a w)(he:b=false->y.wp P Q a w):(Code.cond c x y).wp P Q a w:=
 wp_cond_split (hf.ev hc) ht he
theorem Nu{c:Operand}{x y:Code}(hf:Fr a n e)(hc:ev e c=some (.bool true))(ht:x.wp P Q a w):(Code.cond c x y).wp P Q a w:=wp_cond_true (hf.ev hc) ht
theorem th{c:Operand}{x y:Code}(hf:Fr a n e)(hc:ev e c=some (.bool false))(ht:y.wp P Q a w):(Code.cond c x y).wp P Q a w:=wp_cond_false (hf.ev hc) ht
theorem eh{c:Operand}{x y:Code}{p:Prop}[Decidable p](hf:Fr a n e)(hc:ev e c=some (.bool (decide p)))(ht:decide p=true->p->x.wp P Q a w)(he:decide p=false->¬p->y.wp P Q a w):(Code.cond c x y).wp P Q a w:=
 wp_cond_split (hf.ev hc) (fun h=>ht h (Q2 h)) (fun h=>he h (Q1 h))
theorem eo{c:Code}(X:Act->World->Prop)(h:c.wp P (Exit.then X Q) a w)(hX:∀ a w,X a w->Q .normal a w):c.wp P Q a w:=
 Code.wp_mono (fun e a w hq=>by cases e<;>first|exact hX _ _ hq|exact hq) h
theorem Xw{σ:Type}{c:Code}(I:σ->Act->World->Prop)(μ:σ->Nat)(s:σ)(h0:I s a w)
  (round:∀ s a w,I s a w->c.wp P (Exit.then (fun a' w'=>∃ s',I s' a' w'/\μ s'<μ s) Q) a w) : (Code.loop c).wp P Q a w:=by
 intro b k cs;have key:∀ n s a w,μ s=n->I s a w->∃ e a' w',Q e a' w'/\Arrives P (lone (b.at a (.code c::.inLoop c::k)) cs w) b k cs e a' w':=by
  intro n
  induction n using Nat.strongRecOn with
  | _ n ih=>
   intro s a w hn hI;have ⟨e,a₁,w₁,hq,harr⟩:=round s a w hI b (.inLoop c::k) cs;cases e with
   | normal=>
    obtain ⟨s',hI₁,hlt⟩:=hq;have ⟨e₂,a₂,w₂,hq₂,harr₂⟩:=ih (μ s') (hn▸hlt) s' a₁ w₁ O hI₁;exact ⟨e₂,a₂,w₂,hq₂,.of_steps (Steps.trans harr (.one step_inLoop)) harr₂⟩
   | exit id=>exact ⟨_,a₁,w₁,hq,.pass (x:=.inLoop c) rfl (fun _ _=>.inl O6) harr⟩
   | goto l=>exact ⟨_,a₁,w₁,hq,.pass (x:=.inLoop c) rfl (fun _ _=>.inl O6) harr⟩
   | ret=>exact ⟨_,a₁,w₁,hq,.pass (x:=.inLoop c) rfl (fun _ _=>.inl O6) harr⟩
   | panic ch=>exact ⟨_,a₁,w₁,hq,.pass (x:=.inLoop c) rfl (fun _ _=>.inl O6) harr⟩
   | outgrown=>exact ⟨_,a₁,w₁,hq,.pass (x:=.inLoop c) rfl (fun _ _=>.inl O6) harr⟩
 obtain ⟨e,a',w',hq,harr⟩:=key _ s a w O h0;exact ⟨e,a',w',hq,.of_steps (.one step_loop) harr⟩
def evp(e:kt) : List (Nat×Operand)->Option (List (Nat×Value))
 | []=>some []
 | (i,x)::l=>match ev e x,evp e l with
  | some v,some vs=>some ((i,v)::vs)
  | _,_=>none
theorem Fr.evp(hf:Fr a n e):∀ {l:List (Nat×Operand)} {vs:List (Nat×Value)},evp e l=some vs->l.map (fun p=>(p.1,a.eval p.2))=vs:=by
 intro l
 induction l with
 | nil=>intro vs h;simpa[YtkhbopcihjobdaaGreatDoor.evp] using h
 | cons x l ih=>
  have ⟨i,x⟩:=x;intro vs h;simp only[YtkhbopcihjobdaaGreatDoor.evp] at h;split at h
  ·rename_i v us h1 h2;injection h with h;subst h;simp[hf.ev h1,ih h2]
  ·cases h
def qI:Nat->List Value->List (Nat×Value)
 | _,[]=>[]
 | k,v::l=>(k,v)::qI (k+1) l
section
variable {ty : TypeId} {pos : String} {af : Array Edge} {g : Option (Nat × Bool)} {d : Option Tmp}
theorem LL{T:TypeId}{parts:List (Nat×Operand)}{ps:List (Nat×Value)}{cs:List Value}(hf:Fr a n e)(hp:evp e parts=some ps)(hb:∀ w,(Instr.build T ps.toArray).run P w=.ok (.agg cs.toArray) w) :
  Ev P ⟨d,.build T parts.toArray,ty,pos,af,g⟩ a w (.agg cs.toArray):=fun w' _=>by
 have h1:=hf.evp hp;have h2:=hb w';simp only[execOp,List.map_toArray];rw[show (List.map (fun x:Nat×Operand=>match x with|(i,x)=>(i,a.eval x)) parts)=ps from h1];simp[h2]
theorem Xg{T:TypeId}{parts:List (Nat×Operand)}{ps:List (Nat×Value)}{cs:List Value}(hp:evp e parts=some ps)(hb:∀ w,(Instr.build T ps.toArray).run P w=.ok (.agg cs.toArray) w):iv P ⟨d,.build T parts.toArray,ty,pos,af,g⟩ n e w (.agg cs.toArray):=fun a hf=>LL hf hp hb
theorem JH(off:Nat):∀ (l:List Value) (m:Nat) (cs:Array Value),off+m+l.length<=cs.size->((l.zipIdx m).foldl (fun cs p=>cs.setIfInBounds (off+p.2) p.1) cs).toList=et cs.toList (off+m) l
 | [],m,cs,_=>by simp[et]
 | v::l,m,cs,h=>by
  simp only[Qs] at h;simp only[List.zipIdx_cons,List.foldl_cons];rw[JH off l (m+1) _ O5];unfold et;have e1:off+(m+1)=off+m+1:=by omega
  rw[e1,Array.toList_setIfInBounds,Wf O5,List.take_set_of_le O0,List.getElem_set_self,List.drop_set_of_lt O0];simp only[Qs,Qx,Wa,List.nil_append];rw[show off+m+1+l.length=off+m+(l.length+1) from by omega]
theorem Fw(sz:Nat):∀ (vs:List Value) (k:Nat) (cells:Array Value),(∀ v ∈ vs,v.cells.size=sz)->cells.size=(k+vs.length)*sz->
  Instr.fill (fun i=>some (i*sz,sz)) cells (qI k vs)=some (cells.toList.take (k*sz)++vs.flatMap fun v=>v.cells.toList).toArray
 | [],k,cells,_,h=>by
  simp only[List.length_nil,Nat.add_zero] at h;have h9:cells.toList.take (k*sz)=cells.toList:=Qi (by simp[h]);simp[qI,Instr.fill,h9]
 | v::vs,k,cells,h1,h=>by
  have hv:=h1 v O6;simp only[Qs] at h;have h2:k*sz+sz<=cells.size:=by rw[h,Wb,Wb];omega
  simp only[qI,Instr.fill,hv];rw[Q3 O5];have e1:(v.cells.zipIdx.foldl (fun cs (p:Value×Nat)=>cs.setIfInBounds (k*sz+p.2) p.1) cells).toList=et cells.toList (k*sz) v.cells.toList:=by
   have:=JH (k*sz) v.cells.toList 0 cells (by simp[hv];omega);rw[<- Array.foldl_toList,Array.toList_zipIdx];simpa using this
  have hs:(v.cells.zipIdx.foldl (fun cs (p:Value×Nat)=>cs.setIfInBounds (k*sz+p.2) p.1) cells).size=cells.size:=by
   rw[<- Array.length_toList,e1];simp[et,hv];omega
  have ih:=Fw sz vs (k+1) (v.cells.zipIdx.foldl (fun cs (p:Value×Nat)=>cs.setIfInBounds (k*sz+p.2) p.1) cells) (fun u hu=>h1 u (by simp[hu])) (by rw[hs,h];congr 1;omega);refine Eq.trans ih ?_;rw[e1];congr 2;simp only[Wc];rw[<- Qx];congr 1;unfold et;have e2:(cells.toList.take (k*sz)++v.cells.toList).length=(k+1)*sz:=by simp[hv,Wb];omega
  rw[<- e2,List.take_left]
theorem Md{T E sz bytes:Nat}{k:Nat}{parts:List (Nat×Operand)}{vs zs:List Value}(hf:Fr a n e)(hp:evp e parts=some (qI 0 vs))(hT:bn P T E)(hi:ik P E sz bytes)(hv:(vs.all (fun v=>Nat.beq v.cells.size sz)&&Nat.beq vs.length k&&Nat.ble (k*sz) 1000)=true)(hz:vs.flatMap (fun v=>v.cells.toList)=zs) :
  Ef P ⟨d,.buildSlice T k parts.toArray,ty,pos,af,g⟩ a w (fun v w'=>∃ b,v=.slice (some ⟨b,0,none⟩) k k/\w.heap.size<=b/\Below w.heap.size w w'/\al w' b E zs):=by
 subst hz;have ⟨i,z,hi1,hi2,hi3,hi4,hi5,hi6⟩:=hi;simp only[Qd,W1] at hv;have ⟨⟨hv1,hv2⟩,hv3⟩:=hv;have hk:vs.length=k:=Nat.eq_of_beq_eq_true hv2;have hk3:k*sz<=1000:=Nat.le_of_ble_eq_true hv3;have h1:=hf.evp hp;have hfill:=Fw sz vs 0 ((Array.range (k*sz)).map fun j=>z.cells[j % z.cells.size]!) (fun v hv=>Nat.eq_of_beq_eq_true (hv1 v hv)) (by simp[hk]);simp only[Nat.zero_mul,List.take_zero,List.nil_append] at hfill;refine (Ef.of_run (v:=.slice (some ⟨w.heap.size,0,none⟩) k k) (w':=w.alloc (.cells (vs.flatMap fun v=>v.cells.toList).toArray E)) ?_).mono fun v w' ⟨e1,e2⟩=>?_
 ·simp only[execOp,List.map_toArray];rw[show (List.map (fun x:Nat×Operand=>match x with|(i,x)=>(i,a.eval x)) parts)=qI 0 vs from h1];have h24:¬ (16777216<k*sz):=by omega
  by_cases h0:k*sz=0
  ·have hf0:Instr.fill (fun i=>some (i*sz,sz)) #[] (qI 0 vs)=some (vs.flatMap fun v=>v.cells.toList).toArray:=by
    rw[<- hfill,h0];congr 1;simp[Array.range_zero']
   simp[Instr.buildSlice,pM hT,sizeOf,typeInfo,hi1,hi3,h0,newRow,newObj,Sem.run,Array.range_zero',hf0]
  ·simp[Instr.buildSlice,pM hT,sizeOf,typeInfo,hi1,hi3,h24,h0,zeroValue,hi2,newRow,newObj,Sem.run,hfill]
 ·subst e1;subst e2;exact ⟨_,O,Qb _,(Below.refl _ _).alloc (Qb _) _,DG w E _⟩
theorem X6{T E sz bytes:Nat}{k:Nat}{parts:List (Nat×Operand)}{vs zs:List Value}(hp:evp e parts=some (qI 0 vs))(hT:bn P T E)(hi:ik P E sz bytes)(hv:(vs.all (fun v=>Nat.beq v.cells.size sz)&&Nat.beq vs.length k&&Nat.ble (k*sz) 1000)=true)(hz:vs.flatMap (fun v=>v.cells.toList)=zs):fd P ⟨d,.buildSlice T k parts.toArray,ty,pos,af,g⟩ n e w (fun v w'=>∃ b,v=.slice (some ⟨b,0,none⟩) k k/\w.heap.size<=b/\Below w.heap.size w w'/\al w' b E zs):=fun a hf=>Md hf hp hT hi hv hz
theorem NJ{x y:Operand}{i j:Int}{ts:Array TypeId}(hf:Fr a n e)(hx:ev e x=some (.int .i64 i))(hy:ev e y=some (.int .i64 j)):Ev P ⟨d,.call ⟨.builtin .max,#[x,y],ts⟩,ty,pos,af,g⟩ a w (.int .i64 (max i j)):=fun w' _=>by
 simp[execOp,resolve,invoke,builtin,Builtin.max_,Builtin.max2,hf.ev hx,hf.ev hy,Int.max_def];split<;>simp<;>omega
theorem CT{x y:Operand}{i j:Int}{ts:Array TypeId}(hx:ev e x=some (.int .i64 i))(hy:ev e y=some (.int .i64 j)):iv P ⟨d,.call ⟨.builtin .max,#[x,y],ts⟩,ty,pos,af,g⟩ n e w (.int .i64 (max i j)):=fun a hf=>NJ hf hx hy
end
theorem pw.bel{T:TypeId}{zs:List Value}{v:Value}{w w':World}(h:pw w T zs v w'):Below w.heap.size w w':=by
 have ⟨_,_,_,h,_⟩:=h;exact h
theorem X1{t:Nat}{e:kt}{b b':Bool}(h:ge t e=some (.bool b))(hb:b=b'):ge t e=some (.bool b'):=hb▸h
theorem Xe{α:Type}{l:List α}{k:Nat}(h:k<l.length):∃ u,l[k]? = some u:=⟨l[k],Qc h⟩
section
variable {α : Type} {ops : Array Oper} {rest : List Oper} {ty : TypeId} {pos : String} {af : Array Edge} {g : Option (Nat × Bool)} {d : Nat}
theorem Rd.top{B:Nat}{E:TypeId}{enc:α->List Value}{A:Option Addr}{l:List α}(h:Rd w B E enc A l):Rw w E enc A l:=fun hl=>by
 have ⟨b,off,cs,fz,h1,h2,h3,h4⟩:=h hl;exact ⟨b,off,cs,fz,h1,(Qp.1 h3).1,h3,h4⟩
theorem Oo{T E E2:TypeId}{sz B:Nat}{x y:Operand}{enc:α->List Value}{A:Option Addr}{c:Nat}{l:List α}{k:Nat}{i:Int}{u:α}(hf:Fr a n e)(hw:je ops ⟨some d,.indexAddr T x y,ty,pos,af,g⟩ e)(hn:Nat.blt d n=true)
  (hx:ev e x=some (.slice A l.length c)) (hy:ev e y=some (.int .i64 i)) (hT:bn P T E) (hs:da P E sz) (hsz:∀ x,(enc x).length=sz) (hr:Rd w B E2 enc A l) (hk:l[k]? = some u) (hi:i=(k:Int))
  (h:∀ a' p,At w p (enc u)->Fr a' n ((d,.pointer (some p))::e)->wpList P ops Q rest a' w) : wpList P ops Q (⟨some d,.indexAddr T x y,ty,pos,af,g⟩::rest) a w:=by
 obtain ⟨p,rfl,hat⟩:=hr.at hsz hk;exact DT hf hw O hn (yB hf hx hy hT hs hi (Qg.1 hk).1) fun a' hf'=>h a' _ hat hf'
theorem Lq{Q:Act->World->Prop}{tl:Nat->Bool}{fuel:Nat}{done:List Nat}{T E E2:TypeId}{sz B:Nat}{x y:Operand}{enc:α->List Value}{A:Option Addr}{c:Nat}{l:List α}{k:Nat}{i:Int}{u:α}(j:Nat)
  (ho:ops[j]? = some ⟨some d,.indexAddr T x y,ty,pos,af,g⟩) (hm:ej ops done j=true) (ht:gu ops tl j=true) (hf:Fr a n e) (hw:je ops ⟨some d,.indexAddr T x y,ty,pos,af,g⟩ e) (hn:Nat.blt d n=true)
  (hx:ev e x=some (.slice A l.length c)) (hy:ev e y=some (.int .i64 i)) (hT:bn P T E) (hs:da P E sz) (hsz:∀ x,(enc x).length=sz) (hr:Rd w B E2 enc A l) (hk:l[k]? = some u) (hi:i=(k:Int))
  (h:∀ a' p,At w p (enc u)->Fr a' n ((d,.pointer (some p))::e)->mg P ops none tl Q fuel (fg ops (j::done)) a' w) : mg P ops none tl Q (fuel+1) (fg ops done) a w:=by
 obtain ⟨p,rfl,hat⟩:=hr.at hsz hk;exact D1 j ho hm ht hf hw O hn (yB hf hx hy hT hs hi (Qg.1 hk).1) fun a' hf'=>h a' _ hat hf'
end
theorem X3{K:Act->World->Prop}(h:Q .ret a w):Exit.then K Q .ret a w:=h
theorem Xn{id:Nat}(h:Q .ret a w):Exit.inBlock id Q .ret a w:=by simp[Exit.inBlock,h]
theorem Xk{id:Nat}(h:Q .normal a w):Exit.inBlock id Q .normal a w:=by simp[Exit.inBlock,h]
theorem Xf{K:Act->World->Prop}{id:Nat}(h:Q (.exit id) a w):Exit.then K Q (.exit id) a w:=h
theorem Xb{K:Act->World->Prop}(h:K a w):Exit.then K Q .normal a w:=h
theorem Xv{id:Nat}(h:Q .normal a w):Exit.inBlock id Q (.exit id) a w:=by simp[Exit.inBlock,h]
theorem BP{id id':Nat}(hne:Nat.beq id' id=false)(h:Q (.exit id') a w):Exit.inBlock id Q (.exit id') a w:=by
 have:id'≠id:=by rintro rfl;simp at hne
 simp[Exit.inBlock,this,h]
def an(P:Program)(w:World)(e:kt) : ResultVar->Value->Prop
 | .tmp t,v=>ge t e=some v
 | .cell t T,v=>∃ p,ge t e=some (.pointer (some p))/\((mr P T/\∃ l,At w p (v::l))∨∃ k l,ln P T k/\At w p l/\l.length=k/\v=.agg l.toArray)
theorem an.cellN{t T k:Nat}{p:Addr}{l:List Value}(h:ge t e=some (.pointer (some p)))(hA:ln P T k)(hc:At w p l)(hl:l.length=k):an P w e (.cell t T) (.agg l.toArray):=⟨p,h,.inr ⟨k,l,hA,hc,hl,rfl⟩⟩
theorem BL(fn:Func)(tmps:Array Value):∃ f:ResultVar->Sem Value,(∀ t,f (.tmp t)=pure (tmps.getD t undef))/\(∀ t T,f (.cell t T)=(do loadVar T (<- asAddr (tmps.getD t undef))))/\
  results fn tmps=(do let vs <- fn.results.mapM f;pure (if h:vs.size=1 then vs[0] else .tuple vs)):=⟨_,fun _=>rfl,fun _ _=>rfl,rfl⟩
theorem an.run{r:ResultVar}{v:Value}{f:ResultVar->Sem Value}(hf:Fr a n e)(h:an P w e r v)(f1:∀ t,f (.tmp t)=pure (a.tmps.getD t undef))(f2:∀ t T,f (.cell t T)=(do loadVar T (<- asAddr (a.tmps.getD t undef)))):(f r).run P w=.ok v w:=by
 cases r with
 | tmp t=>
  have:=hf.h _ _ h;simp[f1,this]
 | cell t T=>
  have ⟨p,h1,h2⟩:=h;have h3:=hf.h _ _ h1;rcases h2 with ⟨h4,l,h5⟩|⟨k,l,h4,h5,h6,rfl⟩
  ·simp[f2,h3,asAddr,Jk h4 h5]
  ·simp[f2,h3,asAddr,E0 h4 h5 h6]
section
variable {fn : Func} {R : Ending -> World -> Prop}
theorem Xu{r:ResultVar}{v:Value}(hf:Fr a n e)(hr:fn.results = #[r])(h:an P w e r v):(results fn a.tmps).run P w=.ok v w:=by
 have ⟨f,f1,f2,h0⟩:=BL fn a.tmps;have h1:=h.run hf f1 f2;rw[h0,hr];simp[h1]
theorem dj{r1 r2:ResultVar}{v1 v2:Value}(hf:Fr a n e)(hr:fn.results = #[r1,r2])(h1:an P w e r1 v1)(h2:an P w e r2 v2):(results fn a.tmps).run P w=.ok (.tuple #[v1,v2]) w:=by
 have ⟨f,f1,f2,h0⟩:=BL fn a.tmps;have h1:=h1.run hf f1 f2;have h2:=h2.run hf f1 f2;rw[h0,hr];simp[h1,h2]
theorem yo{r1 r2 r3:ResultVar}{v1 v2 v3:Value}(hf:Fr a n e)(hr:fn.results = #[r1,r2,r3])(h1:an P w e r1 v1)(h2:an P w e r2 v2)(h3:an P w e r3 v3):(results fn a.tmps).run P w=.ok (.tuple #[v1,v2,v3]) w:=by
 have ⟨f,f1,f2,h0⟩:=BL fn a.tmps;have h1:=h1.run hf f1 f2;have h2:=h2.run hf f1 f2;have h3:=h3.run hf f1 f2;rw[h0,hr];simp[h1,h2,h3]
theorem X4{v:Value}{R':Value->World->Prop}(hf:Fr a n e)(hr:(results fn a.tmps).run P w=.ok v w)(h:R' v w):bodyPost P fn (fun e w'=>∃ v,e=.returned v/\R' v w') .ret a w:=⟨hf.d,v,hr,v,rfl,h⟩
end
theorem enter{f:FuncId}{fn:Func}{c:Code}{args:List Value}{R:Value->World->Prop}(hf:P.funcs[f]? = some fn)(hb:fn.body=some c)(n:Nat)(hn:fn.ntmps=n)(hl:Nat.ble args.length n=true)
  (h:∀ a,Fr a n (ny 0 args)->c.wp P (bodyPost P fn (fun e w'=>∃ v,e=.returned v/\R v w')) a w) : sZ P f args w R:=SI hf hb n hn hl h
end
section
variable {P : Program} {ops : Array Oper} {Q : Exit -> Act -> World -> Prop} {w : World} {rest : List Oper} {o : Oper} {op : Op} {ty : TypeId} {pos : String} {af : Array Edge} {g : Option (Nat × Bool)} {n d : Nat} {e : kt} {v : Value} {R : Value -> World -> Prop} {x : Operand}
def WL(P:Program)(ops:Array Oper)(Q:Exit->Act->World->Prop)(l:List Oper)(n:Nat)(e:kt)(w:World) : Prop:=∀ a,Fr a n e->wpList P ops Q l a w
theorem bs:(∀ b,(true&&b)=b)/\(∀ b,(false&&b)=false)/\(∀ b,(true||b)=true)/\∀ b,(false||b)=b:=⟨fun _=>rfl,fun _=>rfl,fun _=>rfl,fun _=>rfl⟩
theorem Vc{f:FuncId}{xs:List Operand}{vs:List Value}{ts:Array TypeId}{D:Option Tmp}(h:sZ P f vs w R)(hF:oS P f)(hx:evs e xs=some vs:=by rfl):fd P ⟨D,.call ⟨.value (.func f),xs.toArray,ts⟩,ty,pos,af,g⟩ n e w R:=ki hx hF h
theorem Vn{T t k b:Nat}{l:List Value}{D:Option Tmp}(hA:ln P t k)(hb:al w b T l)(hx:ev e x=some (.pointer (some ⟨b,0,none⟩)):=by rfl)(hl:l.length=k:=by rfl):iv P ⟨D,.load t x,ty,pos,af,g⟩ n e w (.agg l.toArray):=Xt hx hA (hb.at 0) hl
theorem Vd{T f k b off:Nat}{D:Option Tmp}(hx:ev e x=some (.pointer (some ⟨b,off,none⟩)))(hF:cy P T f k)(m:Nat)(hk:off+k=m:=by rfl):iv P ⟨D,.fieldAddr T x f,ty,pos,af,g⟩ n e w (.pointer (some ⟨b,m,none⟩)):=PH hx hF hk
theorem Vu{t T:TypeId}{y:Operand}{b off k:Nat}{l l' vs:List Value}{D:Option Tmp}(hx:ev e x=some (.pointer (some ⟨b,off,none⟩)))(hy:ev e y=some v)(hs:da P t k)(hb:al w b T l)(hvs:v.cells.toList=vs:=by rfl)(hk:Nat.beq vs.length k=true:=by rfl)(h1:vs.all one=true:=by rfl)(hl:Nat.ble (off+k) l.length=true:=by rfl)(hl':et l off vs=l':=by rfl):fd P ⟨D,.store t x y,ty,pos,af,g⟩ n e w (ow w b T l'):=xM hx hy hs hb hvs hk h1 hl hl'
theorem Vw{t T:TypeId}{y:Operand}{b k:Nat}{l:List Value}{D:Option Tmp}(vs:List Value)(hs:da P t k)(hb:al w b T l)(hx:ev e x=some (.pointer (some ⟨b,0,none⟩)):=by rfl)(hy:ev e y=some v:=by rfl)(hvs:v.cells.toList=vs:=by rfl)(hk:Nat.beq vs.length k=true:=by rfl)(h1:vs.all one=true:=by rfl)(hl:Nat.ble (0+k) l.length=true:=by rfl)(hl':et l 0 vs=vs:=by rfl):fd P ⟨D,.store t x y,ty,pos,af,g⟩ n e w (ow w b T vs):=xM hx hy hs hb hvs hk h1 hl hl'
theorem Ze(hr:iv P ⟨some d,op,ty,pos,af,none⟩ n e w v)(h:WL P ops Q rest n ((d,v)::e) w)(hn:Nat.blt d n=true:=by rfl):WL P ops Q (⟨some d,op,ty,pos,af,none⟩::rest) n e w:=fun a hf=>BF hf hn (hr a hf) h
theorem Zm(hx:ev e x=some v)(h:WL P ops Q rest n ((d,v)::e) w)(hn:Nat.blt d n=true:=by rfl):WL P ops Q (⟨some d,.move x,ty,pos,af,none⟩::rest) n e w:=fun _ hf=>Nf hf hx hn h
theorem Za(hx:ev e x=some v)(h:WL P ops Q rest n ((d,v)::e) w)(hn:Nat.blt d n=true:=by rfl):WL P ops Q (⟨some d,.assign x,ty,pos,af,none⟩::rest) n e w:=fun _ hf=>Oc hf hx hn h
theorem Zf(hr:fd P ⟨some d,op,ty,pos,af,none⟩ n e w R)(h:∀ v w',R v w'->WL P ops Q rest n ((d,v)::e) w')(hn:Nat.blt d n=true:=by rfl):WL P ops Q (⟨some d,op,ty,pos,af,none⟩::rest) n e w:=fun a hf=>L4 hf hn (hr a hf) fun a' v w' hR hf'=>h v w' hR a' hf'
theorem Zo(hr:fd P ⟨none,op,ty,pos,af,none⟩ n e w R)(h:∀ v w',R v w'->WL P ops Q rest n e w'):WL P ops Q (⟨none,op,ty,pos,af,none⟩::rest) n e w:=fun a hf=>U6 hf (hr a hf) fun a' v w' hR hf'=>h v w' hR a' hf'
theorem ZB{T t:TypeId}{ty':TypeId}{pos':String}{af':Array Edge}{z v:Value}{y:Operand}{k:Nat}(vs:List Value)(hz:jv P T z)(hs:da P t k)(h:∀ b w',w.heap.size<=b->Below w.heap.size w w'->al w' b T vs->WL P ops Q rest n ((d,.pointer (some ⟨b,0,none⟩))::e) w')(hn:Nat.blt d n=true:=by rfl)(hy:∀ u,ev ((d,u)::e) y=some v:=by intro _;rfl)(hvs:v.cells.toList=vs:=by rfl)(hk:Nat.beq vs.length k=true:=by rfl)(h1:vs.all one=true:=by rfl)(hl:Nat.beq z.cells.toList.length k=true:=by rfl):WL P ops Q (⟨some d,.alloc T,ty,pos,af,none⟩::⟨none,.store t (.tmp d) y,ty',pos',af',none⟩::rest) n e w:=by
 refine Zf (Xi hz O) ?_ hn;rintro _ w1 ⟨b,rfl,h2,h3,h4⟩;have hk':=Nat.eq_of_beq_eq_true hk;have hl':=Nat.eq_of_beq_eq_true hl;have hx:ev ((d,(.pointer (some ⟨b,0,none⟩) : Value))::e) (.tmp d)=some (.pointer (some ⟨b,0,none⟩)):=by simp[ev,ge]
 refine Zo (xM (l':=vs) hx (hy _) hs h4 hvs hk h1 (by rw[Nat.ble_eq];omega) ?_) ?_
 ·unfold et;rw[List.take_zero,List.nil_append,W3 O0,List.append_nil]
 ·intro _ w2 ⟨h5,h6⟩;exact h b w2 h2 (Below.oy h3 h5 h2) h6
theorem Zv(hw:je ops o e)(hr:iv P o n e w v)(h:WL P ops Q rest n ((d,v)::e) w)(hd:o.dst=some d:=by rfl)(hn:Nat.blt d n=true:=by rfl):WL P ops Q (o::rest) n e w:=fun a hf=>DT hf hw hd hn (hr a hf) h
theorem Zp(hw:pn ops o e)(h:WL P ops Q rest n ((d,undef)::e) w)(hd:o.dst=some d:=by rfl)(hn:Nat.blt d n=true:=by rfl):WL P ops Q (o::rest) n e w:=fun _ hf=>Ok hf hw hd hn h
theorem Zk(hw:je ops o e)(hr:fd P o n e w R)(h:∀ v w',R v w'->WL P ops Q rest n ((d,v)::e) w')(hd:o.dst=some d:=by rfl)(hn:Nat.blt d n=true:=by rfl):WL P ops Q (o::rest) n e w:=fun a hf=>Dx hf hw hd hn (hr a hf) fun a' v w' hR hf'=>h v w' hR a' hf'
theorem Zg(t:Nat){b:Bool}(_:ge t e=some (.bool b))(h1:b=true->WL P ops Q rest n e w)(h2:b=false->WL P ops Q rest n e w):WL P ops Q rest n e w:=by
 cases b
 ·exact h2 O
 ·exact h1 O
theorem Zn(h:∀ a,Fr a n e->Q .normal a w):WL P ops Q [] n e w:=h
theorem Zr{a:Act}{id:Nat}{l:List Oper}(hf:Fr a n e)(h:WL P l.toArray Q l n e w):(Code.region id l.toArray false).wp P Q a w:=wp_region_lit (h a hf)
theorem Zs{a:Act}{id:Nat}{l:List Oper}{c:Code}(hf:Fr a n e)(h:∀ K:Act->World->Prop,(∀ a w,c.wp P Q a w->K a w)->WL P l.toArray (Exit.then K Q) l n e w):(Code.seq (Code.region id l.toArray false) c).wp P Q a w:=
 Q5 fun K hK=>wp_region_lit (h K hK a hf)
theorem Zt{c:Code}{K:Act->World->Prop}(hK:∀ a w,c.wp P Q a w->K a w)(h:∀ a,Fr a n e->c.wp P Q a w):WL P ops (Exit.then K Q) [] n e w:=fun a hf=>hK a w (h a hf)
theorem ZX{c1 c2:Code}{K:Act->World->Prop}(hK:∀ a w,(Code.seq c1 c2).wp P Q a w->K a w)(h:∀ a,Fr a n e->∀ K':Act->World->Prop,(∀ a w,c2.wp P Q a w->K' a w)->c1.wp P (Exit.then K' Q) a w):WL P ops (Exit.then K Q) [] n e w:=fun a hf=>hK a w (Q5 fun K' hK'=>h a hf K' hK')
theorem Zx{id:Nat}{l:List Oper}{c:Code}{K:Act->World->Prop}(hK:∀ a w,(Code.seq (Code.region id l.toArray false) c).wp P Q a w->K a w)(h:∀ a,Fr a n e->∀ K':Act->World->Prop,(∀ a w,c.wp P Q a w->K' a w)->WL P l.toArray (Exit.then K' Q) l n e w):WL P ops (Exit.then K Q) [] n e w:=fun a hf=>hK a w (Q5 fun K' hK'=>wp_region_lit (h a hf K' hK' a hf))
theorem Zi{α:Type}{T E E2:TypeId}{sz B k:Nat}{y:Operand}{enc:α->List Value}{A:Option Addr}{c:Nat}{l:List α}{i:Int}{u:α}(hw:je ops ⟨some d,.indexAddr T x y,ty,pos,af,g⟩ e)(hx:ev e x=some (.slice A l.length c))(hy:ev e y=some (.int .i64 i))(hT:bn P T E)(hs:da P E sz)(hsz:∀ x,(enc x).length=sz)(hr:Rd w B E2 enc A l)(hk:l[k]? = some u)(hi:i=(k:Int))
  (h:∀ p,At w p (enc u)->WL P ops Q rest n ((d,.pointer (some p))::e) w) (hn:Nat.blt d n=true:=by rfl) : WL P ops Q (⟨some d,.indexAddr T x y,ty,pos,af,g⟩::rest) n e w:=fun _ hf=>Oo hf hw hn hx hy hT hs hsz hr hk hi fun a' p hp hf'=>h p hp a' hf'
theorem Zj{α:Type}{T E E2:TypeId}{sz B m k:Nat}{y:Operand}{enc:α->List Value}{A:Option Addr}{c:Nat}{l:List α}{i:Int}{u:α}(hw:je ops ⟨some d,.indexAddr T x y,ty,pos,af,g⟩ e)(hx:ev e x=some (.slice A m c))(hm:m=l.length)(hy:ev e y=some (.int .i64 i))(hT:bn P T E)(hs:da P E sz)(hsz:∀ x,(enc x).length=sz)(hr:Rd w B E2 enc A l)(hk:l[k]? = some u)(hi:i=(k:Int))
  (h:∀ p,At w p (enc u)->WL P ops Q rest n ((d,.pointer (some p))::e) w) (hn:Nat.blt d n=true:=by rfl) : WL P ops Q (⟨some d,.indexAddr T x y,ty,pos,af,g⟩::rest) n e w:=by
 subst hm;exact Zi hw hx hy hT hs hsz hr hk hi h hn
end
section
variable {P : Program} {ops : Array Oper} {V : Option Vk} {tl : Nat -> Bool} {Q : Act -> World -> Prop} {fuel : Nat} {done : List Nat} {w : World} {o : Oper} {op : Op} {ty : TypeId} {pos : String} {af : Array Edge} {g : Option (Nat × Bool)} {n d : Nat} {e : kt} {v : Value} {R : Value -> World -> Prop} {x : Operand}
def WS(P:Program)(ops:Array Oper)(V:Option Vk)(tl:Nat->Bool)(Q:Act->World->Prop)(m:Nat)(L:List Nat)(n:Nat)(e:kt)(w:World) : Prop:=∀ a,Fr a n e->mg P ops V tl Q m (fg ops L) a w
def WR(P:Program)(ops:Array Oper)(V:Option Vk)(tl:Nat->Bool)(Q:Act->World->Prop)(i m:Nat)(L:List Nat)(n:Nat)(e:kt)(w:World) : Prop:=∀ a,Fr a n e->wpR P ops V tl i (mg P ops V tl Q m (fg ops (i::L))) a w
theorem Yb{a:Act}{m:Nat}{L:List Nat}(hf:Fr a n e)(h:WS P ops V tl Q m L n e w):mg P ops V tl Q m (fg ops L) a w:=h a hf
theorem Ye(i:Nat)(hi:ops[i]? = some ⟨some d,op,ty,pos,af,none⟩)(hr:iv P ⟨some d,op,ty,pos,af,none⟩ n e w v)(h:WS P ops none tl Q fuel (i::done) n ((d,v)::e) w)(hm:ej ops done i=true:=by kernel_rfl)(ht:gu ops tl i=true:=by kernel_rfl)(hn:Nat.blt d n=true:=by rfl):WS P ops none tl Q (fuel+1) done n e w:=fun a hf=>Lu i hi hm ht hf hn (hr a hf) h
theorem Yo(i:Nat)(hi:ops[i]? = some ⟨some d,op,ty,pos,af,none⟩)(hr:∀ w,iv P ⟨some d,op,ty,pos,af,none⟩ n e w v)(h:WS P ops V tl Q fuel (i::done) n ((d,v)::e) w)(hm:ej ops done i=true:=by kernel_rfl)(hn:Nat.blt d n=true:=by rfl):WS P ops V tl Q (fuel+1) done n e w:=fun a hf=>Ts i hi hm hf hn (fun w=>hr w a hf) h
theorem Yv(i:Nat)(hi:ops[i]? = some o)(hw:je ops o e)(hr:iv P o n e w v)(h:WS P ops none tl Q fuel (i::done) n ((d,v)::e) w)(hm:ej ops done i=true:=by kernel_rfl)(ht:gu ops tl i=true:=by kernel_rfl)(hd:o.dst=some d:=by rfl)(hn:Nat.blt d n=true:=by rfl):WS P ops none tl Q (fuel+1) done n e w:=fun a hf=>D1 i hi hm ht hf hw hd hn (hr a hf) h
theorem Yw(i:Nat){b:Nat}(hi:ops[i]? = some o)(hw:je ops o e)(hr:∀ w1,iq b w w1->iv P o n e w1 v)(h:WS P ops (some b) tl Q fuel (i::done) n ((d,v)::e) w)(hm:ej ops done i=true:=by kernel_rfl)(ht:gu ops tl i=true:=by kernel_rfl)(hd:o.dst=some d:=by rfl)(hn:Nat.blt d n=true:=by rfl):WS P ops (some b) tl Q (fuel+1) done n e w:=fun a hf=>Py i hi hm ht hf hw hd hn (fun w1 h1=>hr w1 h1 a hf) h
theorem Yu(i:Nat)(hi:ops[i]? = some o)(hw:je ops o e)(hr:∀ w,iv P o n e w v)(h:WS P ops V tl Q fuel (i::done) n ((d,v)::e) w)(hm:ej ops done i=true:=by kernel_rfl)(hd:o.dst=some d:=by rfl)(hn:Nat.blt d n=true:=by rfl):WS P ops V tl Q (fuel+1) done n e w:=fun a hf=>Cp i hi hm hf hw hd hn (fun w=>hr w a hf) h
theorem Yp(i:Nat)(hi:ops[i]? = some o)(hw:pn ops o e)(h:WS P ops V tl Q fuel (i::done) n ((d,undef)::e) w)(hm:ej ops done i=true:=by kernel_rfl)(hd:o.dst=some d:=by rfl)(hn:Nat.blt d n=true:=by rfl):WS P ops V tl Q (fuel+1) done n e w:=fun _ hf=>Uk i hi hm hf hw hd hn h
theorem Y1(i:Nat)(h:WR P ops V tl Q i fuel done n e w)(hr:Region.ready .any ops (fg ops done)=[i]:=by kernel_rfl):WS P ops V tl Q (fuel+1) done n e w:=fun a hf=>Td i hr (h a hf)
theorem Y2(i j:Nat)(hi:WR P ops V tl Q i fuel done n e w)(hj:WR P ops V tl Q j fuel done n e w)(hr:Region.ready .any ops (fg ops done)=[i,j]:=by kernel_rfl):WS P ops V tl Q (fuel+1) done n e w:=fun a hf=>Kd i j hr (hi a hf) (hj a hf)
theorem Y3(i j k:Nat)(hi:WR P ops V tl Q i fuel done n e w)(hj:WR P ops V tl Q j fuel done n e w)(hk:WR P ops V tl Q k fuel done n e w)(hr:Region.ready .any ops (fg ops done)=[i,j,k]:=by kernel_rfl):WS P ops V tl Q (fuel+1) done n e w:=fun a hf=>VT i j k hr (hi a hf) (hj a hf) (hk a hf)
theorem Yd(h:∀ a,Fr a n e->Q a w)(hr:Region.ready .any ops (fg ops done)=[]:=by kernel_rfl):WS P ops V tl Q fuel done n e w:=fun a hf=>NF hr (h a hf)
theorem Yf{i:Nat}(hi:ops[i]? = some o)(hw:je ops o e)(hr:fd P o n e w fun v w'=>(tl i=false->dw V w w')/\R v w')(h:∀ v w',R v w'->WS P ops V tl Q fuel (i::done) n ((d,v)::e) w')(hd:o.dst=some d:=by rfl)(hn:Nat.blt d n=true:=by rfl):WR P ops V tl Q i fuel done n e w:=fun a hf=>S_ hi hf hw hd hn (hr a hf) fun a' v w' hR hf'=>h v w' hR a' hf'
theorem Yg{i:Nat}(hi:ops[i]? = some o)(hw:je ops o e)(hr:fd P o n e w fun v w'=>(tl i=false->dw V w w')/\R v w')(h:∀ v w',R v w'->WS P ops V tl Q fuel (i::done) n e w')(hd:o.dst=none:=by rfl):WR P ops V tl Q i fuel done n e w:=fun a hf=>UJ hi hf hw hd (hr a hf) fun a' v w' hR hf'=>h v w' hR a' hf'
theorem Yq{i:Nat}(hi:ops[i]? = some o)(hw:pn ops o e)(h:WS P ops V tl Q fuel (i::done) n ((d,undef)::e) w)(hd:o.dst=some d:=by rfl)(hn:Nat.blt d n=true:=by rfl):WR P ops V tl Q i fuel done n e w:=fun _ hf=>N' hi hf hw hd hn h
theorem fd.mono{R':Value->World->Prop}(h:fd P o n e w R)(hr:∀ v w',R v w'->R' v w'):fd P o n e w R':=fun a hf=>(h a hf).mono hr
theorem rS(h:iv P o n e w v):fd P o n e w (fun v' w'=>v'=v/\w=w'):=fun a hf=>TS (h a hf)
theorem Yt{i:Nat}(hi:ops[i]? = some o)(hw:je ops o e)(ht:tl i=true)(hr:fd P o n e w R)(h:∀ v w',R v w'->WS P ops V tl Q fuel (i::done) n ((d,v)::e) w')(hd:o.dst=some d:=by rfl)(hn:Nat.blt d n=true:=by rfl):WR P ops V tl Q i fuel done n e w:=Yf hi hw (hr.mono fun _ _ h=>⟨fun h0=>absurd h0 (by rw[ht];decide),h⟩) h hd hn
theorem Yh{i:Nat}(hi:ops[i]? = some o)(hw:je ops o e)(ht:tl i=true)(hr:fd P o n e w R)(h:∀ v w',R v w'->WS P ops V tl Q fuel (i::done) n e w')(hd:o.dst=none:=by rfl):WR P ops V tl Q i fuel done n e w:=Yg hi hw (hr.mono fun _ _ h=>⟨fun h0=>absurd h0 (by rw[ht];decide),h⟩) h hd
theorem Yk{i:Nat}(hi:ops[i]? = some o)(hw:je ops o e)(hr:fd P o n e w R)(hk:∀ v w',R v w'->Below w.heap.size w w')(h:∀ v w',R v w'->WS P ops none tl Q fuel (i::done) n ((d,v)::e) w')(hd:o.dst=some d:=by rfl)(hn:Nat.blt d n=true:=by rfl):WR P ops none tl Q i fuel done n e w:=Yf hi hw (hr.mono fun _ _ h=>⟨fun _=>hk _ _ h,h⟩) h hd hn
theorem Yz{i:Nat}{u:Value}(hi:ops[i]? = some o)(hw:je ops o e)(hr:fd P o n e w (fun v w'=>v=u/\w=w'))(h:WS P ops V tl Q fuel (i::done) n ((d,u)::e) w)(hd:o.dst=some d:=by rfl)(hn:Nat.blt d n=true:=by rfl):WR P ops V tl Q i fuel done n e w:=Yf hi hw (hr.mono fun _ _ h=>⟨fun _=>by rw[<- h.2];exact dw.refl _ _,h⟩) (by rintro _ _ ⟨rfl,rfl⟩;exact h) hd hn
theorem Yl(t:Nat){b:Bool}(_:ge t e=some (.bool b))(h1:b=true->WS P ops V tl Q fuel done n e w)(h2:b=false->WS P ops V tl Q fuel done n e w):WS P ops V tl Q fuel done n e w:=by
 cases b
 ·exact h2 O
 ·exact h1 O
theorem Yc(D:List Nat)(m:Nat)(X:Act->World->Prop)(h1:∀ a w,X a w->mg P ops V tl Q m (fg ops D) a w)
  (h2:(∀ L a w,sK L D=true->X a w->mg P ops V tl Q m (fg ops L) a w)->WS P ops V tl Q fuel done n e w) : WS P ops V tl Q fuel done n e w:=
 h2 fun L a w h hx=>by rw[TI h];exact h1 a w hx
theorem Yi{α:Type}{T E E2:TypeId}{sz B k:Nat}{y:Operand}{enc:α->List Value}{A:Option Addr}{c:Nat}{l:List α}{i:Int}{u:α}(j:Nat)(ho:ops[j]? = some ⟨some d,.indexAddr T x y,ty,pos,af,g⟩)(hw:je ops ⟨some d,.indexAddr T x y,ty,pos,af,g⟩ e)(hx:ev e x=some (.slice A l.length c))(hy:ev e y=some (.int .i64 i))(hT:bn P T E)(hs:da P E sz)(hsz:∀ x,(enc x).length=sz)(hr:Rd w B E2 enc A l)(hk:l[k]? = some u)(hi:i=(k:Int))
  (h:∀ p,At w p (enc u)->WS P ops none tl Q fuel (j::done) n ((d,.pointer (some p))::e) w) (hm:ej ops done j=true:=by kernel_rfl) (ht:gu ops tl j=true:=by kernel_rfl) (hn:Nat.blt d n=true:=by rfl) : WS P ops none tl Q (fuel+1) done n e w:=fun _ hf=>Lq j ho hm ht hf hw hn hx hy hT hs hsz hr hk hi fun a' p hp hf'=>h p hp a' hf'
end
end Go.Proofs.YtkhbopcihjobdaaGreatDoor
namespace Go.Proofs.YtkhbopcihjobdaaGreatDoor
open Go.Proofs.Tryz
def nq{P:Program}{t n:Nat}(h:(P.info? t).map (fun i=>i.size)=some n):∃ i,P.info? t=some i/\i.size=n:=by simp_all
def sf{P:Program}{t:Nat}{z:Option Value}(h:(P.info? t).map (fun i=>i.zero)=some z):∃ i,P.info? t=some i/\i.zero=z:=by simp_all
def sx{P:Program}{t sz bytes:Nat}{z:Value}(h:(P.info? t).map (fun i=>(i.size,i.bytes,i.zero))=some (sz,bytes,some z))(hz:z.cells.size=sz)(h0:0<sz):ik P t sz bytes:=by
 cases hi:P.info? t with
 | none=>rw[hi] at h;cases h
 | some i=>
  rw[hi] at h;simp only[Option.map_some,Option.some.injEq,Prod.mk.injEq] at h;exact ⟨i,z,hi,h.2.2,h.1,h.2.1,hz,h0⟩
def ns{P:Program}{T f k:Nat}{fs:Array Field}{F:Field}(h:P.underlying T=some (.struct fs))(h1:fs[f]? = some F)(h2:F.offset=k){n:Nat}(h3:(P.info? F.type).map (fun i=>i.size)=some n)(h4:(n==0)=false):cy P T f k:=by
 obtain ⟨i,hi,rfl⟩:=nq h3;exact ⟨fs,F,i,h,h1,h2,hi,h4⟩
def X5 {P : Program} {f : FuncId} {fn : Func} (h : P.funcs[f]? = some fn) (h1 : (fn.name == "runtime.NumGoroutine") = false) (h2 : fn.body.isNone = false):oS P f := ⟨fn, h, h1, h2⟩
def X8:mr prog 3:=⟨_,underlying3,trivial⟩
def xy:mr prog 4:=⟨_,underlying4,trivial⟩
def rA:mr prog 9:=⟨_,underlying9,trivial⟩
def JX:mr prog 22:=⟨_,underlying22,trivial⟩
def gj:mr prog 26:=⟨_,underlying26,trivial⟩
def uY:mr prog 66:=⟨_,underlying66,trivial⟩
def uI:mr prog 29:=⟨_,underlying29,trivial⟩
def ju:mr prog 89:=⟨_,underlying89,trivial⟩
def mt:ln prog 56 3:=⟨⟨_,underlying56,trivial⟩,nq O4⟩
def wF:ln prog 24 2:=⟨⟨_,underlying24,trivial⟩,nq O4⟩
def g_:ln prog 28 2:=⟨⟨_,underlying28,trivial⟩,nq O4⟩
def qj:ln prog 31 5:=⟨⟨_,underlying31,trivial⟩,nq O4⟩
def jd:ln prog 52 3:=⟨⟨_,underlying52,trivial⟩,nq O4⟩
def Uo:ln prog 61 3:=⟨⟨_,underlying61,trivial⟩,nq O4⟩
def fw:ln prog 91 3:=⟨⟨_,underlying91,trivial⟩,nq O4⟩
def g9:ln prog 145 4:=⟨⟨_,underlying145,trivial⟩,nq O4⟩
def Xa:ln prog 147 5:=⟨⟨_,underlying147,trivial⟩,nq O4⟩
def qH:ln prog 95 3:=⟨⟨_,underlying95,trivial⟩,nq O4⟩
def nn:ln prog 122 1:=⟨⟨_,underlying122,trivial⟩,nq O4⟩
def jw:da prog 3 1:=nq O4
def IE:da prog 4 1:=nq O4
def uZ:da prog 9 1:=nq O4
def rz:da prog 26 1:=nq O4
def ml:da prog 56 3:=nq O4
def Ll:da prog 66 1:=nq O4
def mc:da prog 28 2:=nq O4
def xq:da prog 29 1:=nq O4
def rh:da prog 31 5:=nq O4
def ji:da prog 52 3:=nq O4
def KK:da prog 61 3:=nq O4
def rH:da prog 89 1:=nq O4
def jg:da prog 91 3:=nq O4
def lr:da prog 145 4:=nq O4
def Xm:da prog 147 5:=nq O4
def sq:da prog 95 3:=nq O4
def pp:da prog 122 1:=nq O4
def VJ:da prog 191 3:=nq O4
def px:jv prog 56 (.agg #[.int .i64 0,.slice none 0 0,.slice none 0 0]):=sf O4
def oN:jv prog 28 (.agg #[.int .i64 0,.slice none 0 0]):=sf O4
def sy:jv prog 31 (.agg #[.int .i64 0,.slice none 0 0,.slice none 0 0,.int .i64 0,.slice none 0 0]):=sf O4
def ql:jv prog 52 (.agg #[.int .i64 0,.int .i64 0,.int .i64 0]):=sf O4
def Ke:jv prog 89 (.slice none 0 0):=sf O4
def jy:jv prog 91 (.agg #[.int .i64 0,.int .i64 0,.slice none 0 0]):=sf O4
def nz:jv prog 145 (.agg #[.int .i64 0,.int .i64 0,.int .i64 0,.int .i64 0]):=sf O4
def iu:jv prog 147 (.agg #[.int .i64 0,.int .i64 0,.int .i64 0,.int .i64 0,.int .i64 0]):=sf O4
def uv:jv prog 95 (.agg #[.string ByteArray.empty,.int .i64 0,.int .i64 0]):=sf O4
def pU:jv prog 122 (.agg #[.slice none 0 0]):=sf O4
def VO:jv prog 191 (.agg #[.int .i64 0,.int .i64 0,.int .i64 0]):=sf O4
def rF:cy prog 56 0 0:=ns (n:=1) underlying56 rfl rfl O4 rfl
def rf:cy prog 56 1 1:=ns (n:=1) underlying56 rfl rfl O4 rfl
def qV:cy prog 56 2 2:=ns (n:=1) underlying56 rfl rfl O4 rfl
def R8:cy prog 24 0 0:=ns (n:=1) underlying24 rfl rfl O4 rfl
def Jw:cy prog 24 1 1:=ns (n:=1) underlying24 rfl rfl O4 rfl
def oY:cy prog 28 0 0:=ns (n:=1) underlying28 rfl rfl O4 rfl
def is:cy prog 28 1 1:=ns (n:=1) underlying28 rfl rfl O4 rfl
def zf:cy prog 31 0 0:=ns (n:=2) underlying31 rfl rfl O4 rfl
def sM:cy prog 31 1 2:=ns (n:=1) underlying31 rfl rfl O4 rfl
def qS:cy prog 31 2 3:=ns (n:=2) underlying31 rfl rfl O4 rfl
def mo:cy prog 52 0 0:=ns (n:=1) underlying52 rfl rfl O4 rfl
def lm:cy prog 52 1 1:=ns (n:=1) underlying52 rfl rfl O4 rfl
def no:cy prog 52 2 2:=ns (n:=1) underlying52 rfl rfl O4 rfl
def SO:cy prog 61 0 0:=ns (n:=1) underlying61 rfl rfl O4 rfl
def PE:cy prog 61 1 1:=ns (n:=1) underlying61 rfl rfl O4 rfl
def KR:cy prog 61 2 2:=ns (n:=1) underlying61 rfl rfl O4 rfl
def oe:cy prog 91 0 0:=ns (n:=1) underlying91 rfl rfl O4 rfl
def ou:cy prog 91 1 1:=ns (n:=1) underlying91 rfl rfl O4 rfl
def og:cy prog 91 2 2:=ns (n:=1) underlying91 rfl rfl O4 rfl
def lz:cy prog 145 0 0:=ns (n:=1) underlying145 rfl rfl O4 rfl
def ly:cy prog 145 1 1:=ns (n:=1) underlying145 rfl rfl O4 rfl
def lu:cy prog 145 2 2:=ns (n:=1) underlying145 rfl rfl O4 rfl
def lw:cy prog 145 3 3:=ns (n:=1) underlying145 rfl rfl O4 rfl
def pG:cy prog 147 0 0:=ns (n:=4) underlying147 rfl rfl O4 rfl
def oJ:cy prog 147 1 4:=ns (n:=1) underlying147 rfl rfl O4 rfl
def vo:cy prog 137 0 0:=ns (n:=1) underlying137 rfl rfl O4 rfl
def sQ:cy prog 95 0 0:=ns (n:=1) underlying95 rfl rfl O4 rfl
def wE:cy prog 95 1 1:=ns (n:=1) underlying95 rfl rfl O4 rfl
def vS:cy prog 95 2 2:=ns (n:=1) underlying95 rfl rfl O4 rfl
def o':cy prog 122 0 0:=ns (n:=1) underlying122 rfl rfl O4 rfl
def zy:bn prog 22 61:=underlying22
def Xp:bn prog 26 52:=underlying26
def gq:bn prog 66 3:=underlying66
def pR:bn prog 29 56:=underlying29
def wK:bn prog 77 66:=underlying77
def gv:bn prog 89 147:=underlying89
def wT:bn prog 115 26:=underlying115
def sX:bn prog 221 145:=underlying221
def PN:bn prog 181 5:=underlying181
def oZ:bn prog 153 9:=underlying153
def AE:bn prog 182 122:=underlying182
def pN:bn prog 167 89:=underlying167
def pD:ik prog 3 1 8:=sx (z:=.int .i64 0) O4 rfl O2
def V1:ik prog 5 1 1:=sx (z:=.int .u8 0) O4 rfl O2
def q9:ik prog 9 1 16:=sx (z:=.string ByteArray.empty) O4 rfl O2
def Uc:ik prog 26 1 24:=sx (z:=.slice none 0 0) O4 rfl O2
def uU:ik prog 56 3 56:=sx (z:=.agg #[.int .i64 0,.slice none 0 0,.slice none 0 0]) O4 rfl O2
def Ds:ik prog 66 1 24:=sx (z:=.slice none 0 0) O4 rfl O2
def Xx:ik prog 52 3 24:=sx (z:=.agg #[.int .i64 0,.int .i64 0,.int .i64 0]) O4 rfl O2
def rC:ik prog 89 1 24:=sx (z:=.slice none 0 0) O4 rfl O2
def ul:ik prog 145 4 32:=sx (z:=.agg #[.int .i64 0,.int .i64 0,.int .i64 0,.int .i64 0]) O4 rfl O2
def my:ik prog 147 5 40:=sx (z:=.agg #[.int .i64 0,.int .i64 0,.int .i64 0,.int .i64 0,.int .i64 0]) O4 rfl O2
def EY:ik prog 122 1 24:=sx (z:=.agg #[.slice none 0 0]) O4 rfl O2
abbrev FF:=oS prog
def Mt:FF 47:=X5 func47 O1 rfl
def MD:FF 4:=X5 func4 O1 rfl
def yH:FF 6:=X5 func6 O1 rfl
def CO:FF 9:=X5 func9 O1 rfl
def B_:FF 10:=X5 func10 O1 rfl
def B3:FF 8:=X5 func8 O1 rfl
def HV:FF 24:=X5 func24 O1 rfl
def Pp:FF 13:=X5 func13 O1 rfl
def RI:FF 59:=X5 func59 O1 rfl
def UE:FF 16:=X5 func16 O1 rfl
def KI:FF 61:=X5 func61 O1 rfl
def Ru:FF 44:=X5 func44 O1 rfl
def D4:FF 43:=X5 func43 O1 rfl
def Ca:FF 21:=X5 func21 O1 rfl
def GP:FF 14:=X5 func14 O1 rfl
def xT:FF 17:=X5 func17 O1 rfl
def vF:FF 73:=X5 func73 O1 rfl
def Ba:FF 22:=X5 func22 O1 rfl
def PY:FF 31:=X5 func31 O1 rfl
def Tx:FF 38:=X5 func38 O1 rfl
def Pv:FF 20:=X5 func20 O1 rfl
def Cf:FF 49:=X5 func49 O1 rfl
def rq:FF 26:=X5 func26 O1 rfl
def FQ:FF 90:=X5 func90 O1 rfl
def Rr:FF 32:=X5 func32 O1 rfl
def pV:FF 33:=X5 func33 O1 rfl
def Ez:FF 91:=X5 func91 O1 rfl
def Gz:FF 67:=X5 func67 O1 rfl
def Bc:FF 70:=X5 func70 O1 rfl
def NL:FF 103:=X5 func103 O1 rfl
def wC:FF 39:=X5 func39 O1 rfl
def QX:FF 48:=X5 func48 O1 rfl
def DC:FF 27:=X5 func27 O1 rfl
def GS:FF 34:=X5 func34 O1 rfl
def QI:FF 35:=X5 func35 O1 rfl
def zh:FF 36:=X5 func36 O1 rfl
def Pw:FF 62:=X5 func62 O1 rfl
def AD:FF 37:=X5 func37 O1 rfl
def LQ:FF 63:=X5 func63 O1 rfl
def AN:FF 77:=X5 func77 O1 rfl
def Iv:FF 76:=X5 func76 O1 rfl
def Nn:FF 85:=X5 func85 O1 rfl
def G2:FF 107:=X5 func107 O1 rfl
def S8:FF 190:=X5 func190 O1 rfl
def M5:FF 119:=X5 func119 O1 rfl
def GY:FF 96:=X5 func96 O1 rfl
def Kj:FF 97:=X5 func97 O1 rfl
def tr:FF 137:=X5 func137 O1 rfl
def BR:FF 135:=X5 func135 O1 rfl
def tP:FF 136:=X5 func136 O1 rfl
def HD:FF 138:=X5 func138 O1 rfl
def CF:FF 52:=X5 func52 O1 rfl
def F2:FF 110:=X5 func110 O1 rfl
def Uw:FF 84:=X5 func84 O1 rfl
def LS:FF 188:=X5 func188 O1 rfl
def qf:FF 109:=X5 func109 O1 rfl
def Dn:FF 89:=X5 func89 O1 rfl
def LA:FF 60:=X5 func60 O1 rfl
def GO:FF 66:=X5 func66 O1 rfl
def CY:FF 69:=X5 func69 O1 rfl
def Rq:FF 92:=X5 func92 O1 rfl
def OK:FF 114:=X5 func114 O1 rfl
def Fj:FF 106:=X5 func106 O1 rfl
def xR:FF 81:=X5 func81 O1 rfl
def Hn:FF 140:=X5 func140 O1 rfl
def wL:FF 120:=X5 func120 O1 rfl
def M6:FF 121:=X5 func121 O1 rfl
def wn:FF 122:=X5 func122 O1 rfl
def xi:FF 123:=X5 func123 O1 rfl
def wP:FF 124:=X5 func124 O1 rfl
def zk:FF 153:=X5 func153 O1 rfl
def FC:FF 167:=X5 func167 O1 rfl
def Ss:FF 177:=X5 func177 O1 rfl
def s8:FF 174:=X5 func174 O1 rfl
def QP:FF 175:=X5 func175 O1 rfl
def tp:FF 160:=X5 func160 O1 rfl
def uG:FF 161:=X5 func161 O1 rfl
def SK:FF 176:=X5 func176 O1 rfl
def BX:FF 134:=X5 func134 O1 rfl
def N9:FF 143:=X5 func143 O1 rfl
def SH:FF 113:=X5 func113 O1 rfl
def zX:FF 141:=X5 func141 O1 rfl
def DS:FF 142:=X5 func142 O1 rfl
def T5:FF 94:=X5 func94 O1 rfl
def U_:FF 95:=X5 func95 O1 rfl
def uj:FF 111:=X5 func111 O1 rfl
def Fo:FF 144:=X5 func144 O1 rfl
def Vm:FF 154:=X5 func154 O1 rfl
def TO:FF 155:=X5 func155 O1 rfl
def vy:FF 156:=X5 func156 O1 rfl
def y':FF 157:=X5 func157 O1 rfl
def LM:FF 158:=X5 func158 O1 rfl
def K8:FF 159:=X5 func159 O1 rfl
def z_:FF 162:=X5 func162 O1 rfl
def Vq:FF 197:=X5 func197 O1 rfl
def xg:FF 201:=X5 func201 O1 rfl
def DI:FF 202:=X5 func202 O1 rfl
def RJ:FF 192:=X5 func192 O1 rfl
def Eo:FF 193:=X5 func193 O1 rfl
def ve:FF 184:=X5 func184 O1 rfl
def Jj:FF 185:=X5 func185 O1 rfl
def zL:FF 179:=X5 func179 O1 rfl
def Dp:FF 180:=X5 func180 O1 rfl
def Jx:FF 181:=X5 func181 O1 rfl
def UT:FF 182:=X5 func182 O1 rfl
def UH:FF 183:=X5 func183 O1 rfl
def Fm:FF 194:=X5 func194 O1 rfl
def U3:FF 195:=X5 func195 O1 rfl
def AH:FF 214:=X5 func214 O1 rfl
def vK:FF 210:=X5 func210 O1 rfl
def ME:FF 211:=X5 func211 O1 rfl
def Tb:FF 206:=X5 func206 O1 rfl
def Gk:FF 203:=X5 func203 O1 rfl
def HS:FF 204:=X5 func204 O1 rfl
def Kt:FF 205:=X5 func205 O1 rfl
def yK:FF 212:=X5 func212 O1 rfl
def U7:FF 216:=X5 func216 O1 rfl
def Tr:FF 215:=X5 func215 O1 rfl
def P1:FF 218:=X5 func218 O1 rfl
def P0:FF 74:=X5 func74 O1 rfl
def OT:FF 18:=X5 func18 O1 rfl
def ye:FF 28:=X5 func28 O1 rfl
def I1:FF 45:=X5 func45 O1 rfl
def PL:FF 79:=X5 func79 O1 rfl
def EP:FF 75:=X5 func75 O1 rfl
def QE:FF 186:=X5 func186 O1 rfl
def IG:FF 207:=X5 func207 O1 rfl
def VF:FF 208:=X5 func208 O1 rfl
def Da:FF 80:=X5 func80 O1 rfl
def NN:FF 108:=X5 func108 O1 rfl
def KW:FF 11:=X5 func11 O1 rfl
def Jl:FF 12:=X5 func12 O1 rfl
def Ox:FF 51:=X5 func51 O1 rfl
def Rz:FF 29:=X5 func29 O1 rfl
def Re:FF 15:=X5 func15 O1 rfl
def Nj:FF 23:=X5 func23 O1 rfl
def OZ:FF 25:=X5 func25 O1 rfl
def Hj:FF 53:=X5 func53 O1 rfl
def H8:FF 54:=X5 func54 O1 rfl
def zz:FF 78:=X5 func78 O1 rfl
def wq:FF 56:=X5 func56 O1 rfl
def zF:FF 57:=X5 func57 O1 rfl
def AP:FF 58:=X5 func58 O1 rfl
def I0:FF 40:=X5 func40 O1 rfl
def Ln:FF 41:=X5 func41 O1 rfl
def Hp:FF 46:=X5 func46 O1 rfl
def V7:FF 50:=X5 func50 O1 rfl
def KT:FF 30:=X5 func30 O1 rfl
def RL:FF 82:=X5 func82 O1 rfl
def DA:FF 83:=X5 func83 O1 rfl
def Me:FF 88:=X5 func88 O1 rfl
def KA:FF 64:=X5 func64 O1 rfl
def Bm:FF 65:=X5 func65 O1 rfl
def MF:FF 68:=X5 func68 O1 rfl
def Wm:FF 55:=X5 func55 O1 rfl
def SJ:FF 112:=X5 func112 O1 rfl
def Mo:FF 93:=X5 func93 O1 rfl
def TF:FF 86:=X5 func86 O1 rfl
def EZ:FF 87:=X5 func87 O1 rfl
def Oi:FF 115:=X5 func115 O1 rfl
def RY:FF 116:=X5 func116 O1 rfl
def EE:FF 117:=X5 func117 O1 rfl
def Gs:FF 118:=X5 func118 O1 rfl
def Kz:FF 145:=X5 func145 O1 rfl
def Ah:FF 146:=X5 func146 O1 rfl
def AU:FF 147:=X5 func147 O1 rfl
def Bs:FF 148:=X5 func148 O1 rfl
def Hv:FF 149:=X5 func149 O1 rfl
def Ko:FF 150:=X5 func150 O1 rfl
def H5:FF 151:=X5 func151 O1 rfl
def FL:FF 152:=X5 func152 O1 rfl
def ug:FF 187:=X5 func187 O1 rfl
def vN:FF 189:=X5 func189 O1 rfl
def La:FF 191:=X5 func191 O1 rfl
def Mc:FF 209:=X5 func209 O1 rfl
def Ot:FF 217:=X5 func217 O1 rfl
def Rv:FF 71:=X5 func71 O1 rfl
def Rn:FF 42:=X5 func42 O1 rfl
def N6:FF 102:=X5 func102 O1 rfl
def BM:FF 104:=X5 func104 O1 rfl
def Uu:FF 72:=X5 func72 O1 rfl
def CG:FF 98:=X5 func98 O1 rfl
def y8:FF 99:=X5 func99 O1 rfl
def OX:FF 100:=X5 func100 O1 rfl
def Lh:FF 101:=X5 func101 O1 rfl
def Eu:FF 105:=X5 func105 O1 rfl
def Ns:FF 125:=X5 func125 O1 rfl
def GN:FF 126:=X5 func126 O1 rfl
def NA:FF 127:=X5 func127 O1 rfl
def CD:FF 128:=X5 func128 O1 rfl
def JN:FF 129:=X5 func129 O1 rfl
def K4:FF 130:=X5 func130 O1 rfl
def Jy:FF 131:=X5 func131 O1 rfl
def Uv:FF 132:=X5 func132 O1 rfl
def JL:FF 133:=X5 func133 O1 rfl
def Rj:FF 139:=X5 func139 O1 rfl
def Kv:FF 163:=X5 func163 O1 rfl
def Vo:FF 164:=X5 func164 O1 rfl
def LX:FF 165:=X5 func165 O1 rfl
def Ui:FF 166:=X5 func166 O1 rfl
def Ou:FF 168:=X5 func168 O1 rfl
def Lb:FF 169:=X5 func169 O1 rfl
def Pb:FF 170:=X5 func170 O1 rfl
def GM:FF 171:=X5 func171 O1 rfl
def RX:FF 172:=X5 func172 O1 rfl
def U5:FF 173:=X5 func173 O1 rfl
def RN:FF 178:=X5 func178 O1 rfl
def MX:FF 196:=X5 func196 O1 rfl
def F5:FF 198:=X5 func198 O1 rfl
def EO:FF 199:=X5 func199 O1 rfl
def Uj:FF 200:=X5 func200 O1 rfl
def Ua:FF 213:=X5 func213 O1 rfl
def Rk:FF 5:=X5 func5 O1 rfl
def Jh:FF 7:=X5 func7 O1 rfl
def UL:FF 19:=X5 func19 O1 rfl
def mixed:prog.follows .mixedOrders=true:=by kernel_rfl
end Go.Proofs.YtkhbopcihjobdaaGreatDoor
namespace Go.Proofs.YtkhbopcihjobdaaGreatDoor
open Go.Proofs.Tryz
open Go.RowKit Go.Proofs.Tryz
section
variable {P : Program} {a : Act} {w : World} {n : Nat} {e : kt} {ty : TypeId} {pos : String} {af : Array Edge} {g : Option (Nat × Bool)} {d : Option Tmp}
variable {t t' : TypeId} {x y : Operand} {i j : Int}
theorem UP(hf:Fr a n e)(hx:ev e x=some (.int .i64 i))(hy:ev e y=some (.int .i64 j))(h0:(j==0)=false):Ev P ⟨d,.binOp .rem t x y t',ty,pos,af,g⟩ a w (.int .i64 (i.tmod j)):=fun w' _=>by
 have h0':j≠0:=by rintro rfl;simp at h0
 simp[execOp,hf.ev hx,hf.ev hy,eqGuard,binOp,Op.intDiv,h0']
theorem sE(hx:ev e x=some (.int .i64 i))(hy:ev e y=some (.int .i64 j))(h0:(j==0)=false):iv P ⟨d,.binOp .rem t x y t',ty,pos,af,g⟩ n e w (.int .i64 (i.tmod j)):=fun a hf=>UP hf hx hy h0
theorem LK(hf:Fr a n e)(hx:ev e x=some (.int .i64 i))(hy:ev e y=some (.int .i64 j))(h0:(j==0)=false):Ev P ⟨d,.binOp .quo t x y t',ty,pos,af,g⟩ a w (.int .i64 (IntKind.i64.wrap (i.tdiv j))):=fun w' _=>by
 have h0':j≠0:=by rintro rfl;simp at h0
 simp[execOp,hf.ev hx,hf.ev hy,eqGuard,binOp,Op.intDiv,h0']
theorem tM(hx:ev e x=some (.int .i64 i))(hy:ev e y=some (.int .i64 j))(h0:(j==0)=false):iv P ⟨d,.binOp .quo t x y t',ty,pos,af,g⟩ n e w (.int .i64 (IntKind.i64.wrap (i.tdiv j))):=fun a hf=>LK hf hx hy h0
theorem LT(hf:Fr a n e)(hx:ev e x=some (.int .i64 i))(hy:ev e y=some (.int .i64 j))(h1:-9223372036854775808<=i*j)(h2:i*j<=9223372036854775807):Ev P ⟨d,.binOp .mul t x y t',ty,pos,af,g⟩ a w (.int .i64 (i*j)):=fun w' _=>by
 have h:IntKind.i64.wrap (i*j)=i*j:=IntWalk.i64_in _ ⟨h1,h2⟩;simp[execOp,hf.ev hx,hf.ev hy,eqGuard,binOp,Op.intArith,h]
theorem sC(hx:ev e x=some (.int .i64 i))(hy:ev e y=some (.int .i64 j))(h1:-9223372036854775808<=i*j)(h2:i*j<=9223372036854775807):iv P ⟨d,.binOp .mul t x y t',ty,pos,af,g⟩ n e w (.int .i64 (i*j)):=fun a hf=>LT hf hx hy h1 h2
theorem S3{m k:Nat}(hf:Fr a n e)(hx:ev e x=some (.int .i64 (m:Int)))(hy:ev e y=some (.int .i64 (k:Int)))(hb:m*k<=4611686018427387904):Ev P ⟨d,.binOp .mul t x y t',ty,pos,af,g⟩ a w (.int .i64 ((m*k:Nat) : Int)):=fun w' _=>by
 have h:IntKind.i64.wrap ((m:Int)*(k:Int))=((m*k:Nat) : Int):=by
  rw[<- Int.natCast_mul];exact IntWalk.i64_in _ ⟨by omega,by omega⟩
 simp[execOp,hf.ev hx,hf.ev hy,eqGuard,binOp,Op.intArith,h]
theorem ww{m k:Nat}(hx:ev e x=some (.int .i64 (m:Int)))(hy:ev e y=some (.int .i64 (k:Int)))(hb:m*k<=4611686018427387904):iv P ⟨d,.binOp .mul t x y t',ty,pos,af,g⟩ n e w (.int .i64 ((m*k:Nat) : Int)):=fun a hf=>S3 hf hx hy hb
theorem I'{k:IntKind}{m:Nat}(hf:Fr a n e)(hx:ev e x=some (.int .i64 i))(hy:ev e y=some (.int k j))(hj:j=(m:Int))(hm:m<=64):Ev P ⟨d,.binOp .shl t x y t',ty,pos,af,g⟩ a w (.int .i64 (IntKind.i64.wrap (i*2^m))):=fun w' _=>by
 subst hj;have hm':min m 64=m:=by omega
 simp[execOp,hf.ev hx,hf.ev hy,eqGuard,binOp,Op.shift,IntKind.bits,hm']
theorem wU{k:IntKind}{m:Nat}(hx:ev e x=some (.int .i64 i))(hy:ev e y=some (.int k j))(hj:j=(m:Int))(hm:m<=64):iv P ⟨d,.binOp .shl t x y t',ty,pos,af,g⟩ n e w (.int .i64 (IntKind.i64.wrap (i*2^m))):=fun a hf=>I' hf hx hy hj hm
theorem Pc{k:IntKind}{m:Nat}(hf:Fr a n e)(hx:ev e x=some (.int .i64 i))(hy:ev e y=some (.int k j))(hj:j=(m:Int))(hm:m<=64):Ev P ⟨d,.binOp .shr t x y t',ty,pos,af,g⟩ a w (.int .i64 (i/2^m)):=fun w' _=>by
 subst hj;have hm':min m 64=m:=by omega
 simp[execOp,hf.ev hx,hf.ev hy,eqGuard,binOp,Op.shift,IntKind.bits,hm']
theorem I9{k:IntKind}{m:Nat}(hx:ev e x=some (.int .i64 i))(hy:ev e y=some (.int k j))(hj:j=(m:Int))(hm:m<=64):iv P ⟨d,.binOp .shr t x y t',ty,pos,af,g⟩ n e w (.int .i64 (i/2^m)):=fun a hf=>Pc hf hx hy hj hm
theorem US(hf:Fr a n e)(hx:ev e x=some (.int .i64 i))(hy:ev e y=some (.int .i64 j)):Ev P ⟨d,.binOp .andNot t x y t',ty,pos,af,g⟩ a w (.int .i64 (bits .andNot .i64 i j)):=fun w' _=>by
 simp[execOp,hf.ev hx,hf.ev hy,eqGuard,binOp,Op.intBits,bits]
theorem VX(hx:ev e x=some (.int .i64 i))(hy:ev e y=some (.int .i64 j)):iv P ⟨d,.binOp .andNot t x y t',ty,pos,af,g⟩ n e w (.int .i64 (bits .andNot .i64 i j)):=fun a hf=>US hf hx hy
theorem Ve{p:Addr}(hf:Fr a n e)(hx:ev e x=some (.pointer (some p))):Ev P ⟨d,.nilCheck x,ty,pos,af,g⟩ a w (.pointer (some p)):=fun w' _=>by
 simp[execOp,hf.ev hx]
theorem uQ{p:Addr}(hx:ev e x=some (.pointer (some p))):iv P ⟨d,.nilCheck x,ty,pos,af,g⟩ n e w (.pointer (some p)):=fun a hf=>Ve hf hx
end
def Rd.atV{α:Type}{w:World}{B b0:Nat}{E T0:TypeId}{enc:α->List Value}{A:Option Addr}{l:List α}{l0:List Value}{sz:Nat}(hsz:∀ x,(enc x).length=sz)(h:Rd w B E enc A l){k:Nat}{x:α}(hk:l[k]? = some x)
  (hb:al w b0 T0 l0) (hT:Nat.beq E T0=false) : ∃ p,A=some p/\At w (p.add (k*sz)) (enc x)/\(p.add (k*sz)).block≠b0:=by
 have ⟨p,h1,h2⟩:=h.at hsz hk;refine ⟨p,h1,h2,?_⟩;have hl:l≠[]:=by rintro rfl;simp at hk
 have ⟨b,off,cs,fz,h3,h4,h5,h6⟩:=h hl;rw[h1] at h3;injection h3 with h3;subst h3;rw[BA];rintro rfl;unfold al at hb;rw[h5] at hb;injection hb with hb;injection hb with _ e;subst e;simp at hT
section
variable {P : Program} {a : Act} {w : World} {n : Nat} {e : kt} {α : Type} {ops : Array Oper} {ty : TypeId} {pos : String} {af : Array Edge} {g : Option (Nat × Bool)} {d : Nat}
theorem UV{b0:Nat}{l0:List Value}{Q:Act->World->Prop}{tl:Nat->Bool}{fuel:Nat}{done:List Nat}{T E T0:TypeId}{sz B:Nat}{x y:Operand}{enc:α->List Value}{A:Option Addr}{c:Nat}{l:List α}{k:Nat}{i:Int}{u:α}(j:Nat)
  (ho:ops[j]? = some ⟨some d,.indexAddr T x y,ty,pos,af,g⟩) (hm:ej ops done j=true) (hf:Fr a n e) (hw:je ops ⟨some d,.indexAddr T x y,ty,pos,af,g⟩ e) (hn:Nat.blt d n=true)
  (hb:al w b0 T0 l0) (hT0:Nat.beq E T0=false)
  (hx:ev e x=some (.slice A l.length c)) (hy:ev e y=some (.int .i64 i)) (hT:bn P T E) (hs:da P E sz) (hsz:∀ x,(enc x).length=sz) (hr:Rd w B E enc A l) (hk:l[k]? = some u) (hi:i=(k:Int))
  (h:∀ a' p,At w p (enc u)->p.block≠b0->Fr a' n ((d,.pointer (some p))::e)->mg P ops (some b0) tl Q fuel (fg ops (j::done)) a' w) : mg P ops (some b0) tl Q (fuel+1) (fg ops done) a w:=by
 obtain ⟨p,rfl,hat,hne⟩:=hr.atV hsz hk hb hT0;exact Cp j ho hm hf hw O hn (fun w=>yB hf hx hy hT hs hi (Qg.1 hk).1) fun a' hf'=>h a' _ hat hne hf'
theorem Ya{b0:Nat}{l0:List Value}{Q:Act->World->Prop}{tl:Nat->Bool}{fuel:Nat}{done:List Nat}{T E T0:TypeId}{sz B:Nat}{x y:Operand}{enc:α->List Value}{A:Option Addr}{c:Nat}{l:List α}{k:Nat}{i:Int}{u:α}(j:Nat)
  (ho:ops[j]? = some ⟨some d,.indexAddr T x y,ty,pos,af,g⟩) (hw:je ops ⟨some d,.indexAddr T x y,ty,pos,af,g⟩ e) (hb:al w b0 T0 l0) (hT0:Nat.beq E T0=false)
  (hx:ev e x=some (.slice A l.length c)) (hy:ev e y=some (.int .i64 i)) (hT:bn P T E) (hs:da P E sz) (hsz:∀ x,(enc x).length=sz) (hr:Rd w B E enc A l) (hk:l[k]? = some u) (hi:i=(k:Int))
  (h:∀ p,At w p (enc u)->p.block≠b0->WS P ops (some b0) tl Q fuel (j::done) n ((d,.pointer (some p))::e) w) (hm:ej ops done j=true:=by kernel_rfl) (hn:Nat.blt d n=true:=by rfl) : WS P ops (some b0) tl Q (fuel+1) done n e w:=
 fun _ hf=>UV j ho hm hf hw hn hb hT0 hx hy hT hs hsz hr hk hi fun a' p hp hne hf'=>h p hp hne a' hf'
end
def ah.lower{α:Type}{w:World}{B0 B1:Nat}{E:TypeId}{sz:Nat}{enc:α->List Value}{A:Option Addr}{c:Nat}{l:List α}(h:ah w B0 E sz enc A c l)(hB:B1<=B0):ah w B1 E sz enc A c l:=by
 refine ⟨h.1,?_⟩;rcases h.2 with h1|⟨g,cap,cur,h1,h2,h3⟩
 ·exact .inl h1
 ·exact .inr ⟨g,cap,cur,h1,Q0 hB h2,h3⟩
section
variable {α : Type} {P : Program} {a : Act} {w : World} {n : Nat} {e : kt} {ty : TypeId} {pos : String} {af : Array Edge} {g : Option (Nat × Bool)} {d : Option Tmp}
theorem T6{T E:TypeId}{sz bytes B B2:Nat}{x y:Operand}{enc:α->List Value}{A A2:Option Addr}{c c2:Nat}{l l2:List α}(hf:Fr a n e)(hx:ev e x=some (.slice A l.length c))(hy:ev e y=some (.slice A2 l2.length c2))
  (hT:bn P T E) (hi:ik P E sz bytes) (hsz:∀ x,(enc x).length=sz) (ho:Rd w B E enc A l) (hr:Rd w B2 E enc A2 l2) (hc:c=l.length) (hl:l≠[]) (hl2:l2≠[]) (h63:l.length+l2.length<=maxLen) (hbytes:(l.length+l2.length)*bytes<=140737488355328) :
  Ef P ⟨d,.call ⟨.builtin .append,#[x,y],#[T,T]⟩,ty,pos,af,g⟩ a w (fun v w'=>∃ A' c',v=.slice A' (l++l2).length c'/\ah w' w.heap.size E sz enc A' c' (l++l2)/\Below w.heap.size w w'):=by
 obtain ⟨i,z,hi1,hi2,rfl,rfl,hi5,hi6⟩:=hi;obtain ⟨b1,off1,cs1,fz1,rfl,_,k1,k2⟩:=ho hl;obtain ⟨b,off,cs,fz,rfl,h2,h3,h4⟩:=hr hl2;have hlen1:=qh hsz l;have hlen2:=qh hsz l2;have hpos:0<l2.length:=List.length_pos_iff.2 hl2;have h:=run_append_grow (P:=P) w T ty E i z hT hi1 hi2 ⟨b1,off1,none⟩ l.length c (l.flatMap enc) hlen1 (fun j u hu=>by
   have:=k2 j u hu;rw[qD];simp[World.cell?,k1,this])
  ⟨b,off,none⟩ l2.length c2 (l2.flatMap enc) hlen2 (fun j u hu=>by
   have:=h4 j u hu;rw[qD];simp[World.cell?,h3,this])
  O0 (by simp only[maxLen] at h63;omega) (growslice_fits O0 hbytes)
 refine (Ef.of_run (w':=w.drew.alloc (.cells ((l.flatMap enc).toArray++(l2.flatMap enc).toArray++Builtin.zeroCells z.cells (grownCap w (l.length+l2.length) c E-(l.length+l2.length))) E)) (v:=.slice (some ⟨w.heap.size,0,none⟩) (l.length+l2.length) (grownCap w (l.length+l2.length) c E)) ?_).mono fun v w' ⟨e1,e2⟩=>?_
 ·simp[execOp,resolve,invoke,builtin,hf.ev hx,hf.ev hy,h]
 ·subst e1;subst e2;refine ⟨_,_,by rw[Qh],?_,((Below.refl _ _).drew).alloc (Qb _) _⟩;refine ⟨qh hsz _,.inr ⟨w.heap.size,_,_,O,Qb _,heap_alloc_new w.drew _,?_,grownCap_le_maxLen w _ _ E h63,?_,?_⟩⟩
  ·rw[Qh];exact grownCap_ge w _ _ E
  ·have hge:=grownCap_ge w (l.length+l2.length) c E;simp only[Array.size_append,List.size_toArray,size_zeroCells,hi5,hlen1,hlen2,<- Wb];congr 1;omega
  ·have e3:(l++l2).length*i.size=(l.flatMap enc++l2.flatMap enc).length:=by rw[Qh,Qh,hlen1,hlen2,Wb]
   rw[e3];simp only[Array.toList_append,List.flatMap_append,Qx];rw[<- Qx];exact List.take_left
theorem T1{T E:TypeId}{sz bytes B B2:Nat}{x y:Operand}{enc:α->List Value}{A A2:Option Addr}{c c2:Nat}{l l2:List α}(hx:ev e x=some (.slice A l.length c))(hy:ev e y=some (.slice A2 l2.length c2))(hT:bn P T E)(hi:ik P E sz bytes)(hsz:∀ x,(enc x).length=sz)(ho:Rd w B E enc A l)(hr:Rd w B2 E enc A2 l2)(hc:c=l.length)(hl:l≠[])(hl2:l2≠[])(h63:l.length+l2.length<=maxLen)(hbytes:(l.length+l2.length)*bytes<=140737488355328):fd P ⟨d,.call ⟨.builtin .append,#[x,y],#[T,T]⟩,ty,pos,af,g⟩ n e w (fun v w'=>∃ A' c',v=.slice A' (l++l2).length c'/\ah w' w.heap.size E sz enc A' c' (l++l2)/\Below w.heap.size w w'):=fun a hf=>T6 hf hx hy hT hi hsz ho hr hc hl hl2 h63 hbytes
end
abbrev wr(i:Int) : Int:=IntKind.i64.wrap i
def im{i:Int}(h1:-9223372036854775808<=i)(h2:i<=9223372036854775807):wr i=i:=IntWalk.i64_in _ ⟨h1,h2⟩
structure Rg where (a b c d:Int) deriving DecidableEq
structure Dy where (num:Rg) (exp:Int) deriving DecidableEq
structure Gt where (k a b:Int) deriving DecidableEq
def bk(i:Int) : List Value:=[.int .i64 i]
def rk(r:Rg) : List Value:=[.int .i64 r.a,.int .i64 r.b,.int .i64 r.c,.int .i64 r.d]
def ai(x:Dy) : List Value:=[.int .i64 x.num.a,.int .i64 x.num.b,.int .i64 x.num.c,.int .i64 x.num.d,.int .i64 x.exp]
def ab(x:Gt) : List Value:=[.int .i64 x.k,.int .i64 x.a,.int .i64 x.b]
def kp:∀ x,(bk x).length=1:=fun _=>rfl
def H7:∀ x,(rk x).length=4:=fun _=>rfl
def kb:∀ x,(ai x).length=5:=fun _=>rfl
def Xl:∀ x,(ab x).length=3:=fun _=>rfl
def vR:∀ x,(bk x).all one=true:=fun _=>rfl
def rM:∀ x,(ai x).all one=true:=fun _=>rfl
def lk:∀ x,(ab x).all one=true:=fun _=>rfl
abbrev rV(r:Rg) : Value:=.agg #[.int .i64 r.a,.int .i64 r.b,.int .i64 r.c,.int .i64 r.d]
abbrev dV(x:Dy) : Value:=.agg #[.int .i64 x.num.a,.int .i64 x.num.b,.int .i64 x.num.c,.int .i64 x.num.d,.int .i64 x.exp]
abbrev gV(x:Gt) : Value:=.agg #[.int .i64 x.k,.int .i64 x.a,.int .i64 x.b]
def bq(n lo hi:Int) : Bool:=decide (lo<=n)&&decide (n<=hi)
def fu(x:Rg) : Bool:=bq x.a (-1000000000) 1000000000&&bq x.b (-1000000000) 1000000000&&bq x.c (-1000000000) 1000000000&&bq x.d (-1000000000) 1000000000
def ig(x y:Rg) : Rg:=⟨wr (x.a+y.a),wr (x.b+y.b),wr (x.c+y.c),wr (x.d+y.d)⟩
def mm(x:Rg) : Rg:=⟨wr (-x.a),wr (-x.b),wr (-x.c),wr (-x.d)⟩
def ir(x y:Rg) : Rg:=
 ⟨wr (wr (wr (wr (x.a*y.a)-wr (x.b*y.d))-wr (x.c*y.c))-wr (x.d*y.b)),
 wr (wr (wr (wr (x.a*y.b)+wr (x.b*y.a))-wr (x.c*y.d))-wr (x.d*y.c)),
 wr (wr (wr (wr (x.a*y.c)+wr (x.b*y.b))+wr (x.c*y.a))-wr (x.d*y.d)),
 wr (wr (wr (wr (x.a*y.d)+wr (x.b*y.c))+wr (x.c*y.b))+wr (x.d*y.a))⟩
def aw(x:Rg) : Rg:=⟨wr (x.b-x.d),wr (x.a+x.c),wr (x.b+x.d),wr (x.c-x.a)⟩
def ei(x:Rg) : Bool:=(wr (x.a+x.c)).tmod 2==0&&(wr (x.b+x.d)).tmod 2==0
def iy(x:Rg) : Rg:=⟨wr ((aw x).a.tdiv 2),wr ((aw x).b.tdiv 2),wr ((aw x).c.tdiv 2),wr ((aw x).d.tdiv 2)⟩
def qG(x:Rg) : Rg:=⟨wr (-x.d),x.a,x.b,x.c⟩
def gz:Nat->Rg->Rg
 | 0,x=>x
 | k+1,x=>gz k (qG x)
def jb(k:Int) : Int:=(wr (k.tmod 8+8)).tmod 8
def c_(x:Rg)(k:Int) : Rg:=gz (jb k).toNat x
def q_:Nat->Rg->Rg×Nat
 | 0,x=>(x,0)
 | m+1,x=>if ei x then q_ m (iy x) else (x,m+1)
def ip(x:Rg)(exp:Int) : Dy:=⟨(q_ exp.toNat x).1,if 0<exp then ((q_ exp.toNat x).2:Int) else exp⟩
def ac(k:Int) : Dy:=⟨c_ ⟨1,0,0,0⟩ k,0⟩
def oU(x:Dy) : Dy:=⟨mm x.num,x.exp⟩
def dZ:Dy:=⟨⟨0,0,0,0⟩,0⟩
def wR{x:Rg}{exp:Int}(h0:0<exp)(he:ei x=true):ip x exp=ip (iy x) (exp-1):=by
 have ⟨m,hm⟩ : ∃ m:Nat,exp=m+1:=⟨(exp-1).toNat,by omega⟩;subst hm;have e1:((m:Int)+1).toNat=m+1:=by omega
 have e2:((m:Int)+1-1)=m:=by omega
 unfold ip;rw[e1,e2,Qj];simp only[q_,he,if_true,h0];cases m with
 | zero=>simp[q_]
 | succ k=>simp
def td{x:Rg}{exp:Int}(h:0<exp->ei x=false):ip x exp=⟨x,exp⟩:=by
 unfold ip;by_cases h0:0<exp
 ·have ⟨m,hm⟩ : ∃ m:Nat,exp=m+1:=⟨(exp-1).toNat,by omega⟩;subst hm;have e1:((m:Int)+1).toNat=m+1:=by omega
  rw[e1];simp only[q_,h h0,Bool.false_eq_true,if_false,h0,if_true];rfl
 ·have e1:exp.toNat=0:=by omega
  rw[e1];simp[q_,h0]
section
variable {α : Type} {p : α -> Bool} {l : List α} {k : Nat} {u : α}
theorem sa(h:(l.take k).all p=true)(hu:l[k]? = some u)(hp:p u=true):(l.take (k+1)).all p=true:=by
 rw[Qt,hu];simp only[List.all_append,h,Option.toList_some,List.all_cons,hp,List.all_nil,Bool.and_self]
theorem JA(hu:l[k]? = some u)(hp:p u=false):l.all p=false:=by grind
theorem sF(h:(l.take k).all p=true)(hk:l.length<=k):l.all p=true:=by rwa [Qi hk] at h
end
def tO{α:Type}{p:α->Bool}{l:List α}{k:Nat}{u:α}(hu:l[k]? = some u)(hp:p u=true):l.any p=true:=by grind
def tJ{α:Type}{p:α->Bool}{l:List α}(h:l.all (fun x=>!p x)=true):l.any p=false:=by grind
def zt(k:Int):0<=jb k/\jb k<8:=by
 have h1:-8<k.tmod 8/\k.tmod 8<8:=by
  rcases Int.le_total 0 k with h|h
  ·rw[Int.tmod_eq_emod_of_nonneg h];omega
  ·have h2:(-k).tmod 8 = -(k.tmod 8):=Int.neg_tmod _ _;rw[Int.tmod_eq_emod_of_nonneg O0] at h2;omega
 unfold jb;rw[im O0 O0];have h4:0<=k.tmod 8+8:=by omega
 rw[Int.tmod_eq_emod_of_nonneg h4];omega
def fk(x:Rg)(l:List Rg) : Bool:=(l++[x]).all fu
def be(x:Rg)(l:List Rg) : Rg:=if fk x l=true then x else ⟨0,0,0,0⟩
def oQ(x:Rg) : Bool:=fu x&&ei x
def kh(x:Rg) : Rg:=if oQ x=true then iy x else ⟨0,0,0,0⟩
def iw{n lo hi:Int}:bq n lo hi=true↔lo<=n/\n<=hi:=by simp[bq]
def qP{x:Rg}:fu x=true↔(-1000000000<=x.a/\x.a<=1000000000)/\(-1000000000<=x.b/\x.b<=1000000000)/\(-1000000000<=x.c/\x.c<=1000000000)/\(-1000000000<=x.d/\x.d<=1000000000):=by
 simp only[fu,Qd,iw,and_assoc]
def RH{i:Int}(h1:-2000000000<=i)(h2:i<=2000000000):-1000000000<=i.tdiv 2/\i.tdiv 2<=1000000000:=by grind
def yR{i:Int}(h1:-2000000000<=i)(h2:i<=2000000000):-1000000000<=wr ((wr i).tdiv 2)/\wr ((wr i).tdiv 2)<=1000000000:=by
 rw[im (i:=i) O0 O0];have:=RH h1 h2;rw[im O0 O0];exact this
def yG{x:Rg}(h:fu x=true):fu (iy x)=true:=by
 rw[qP] at h ⊢;exact ⟨yR O0 O0,yR O0 O0,yR O0 O0,yR O0 O0⟩
def Lx{x:Rg}(h:fu x=true):fk (iy x) [x]=true:=by simp[fk,h,yG h]
def lh(x:Rg)(k:Int) : Bool:=bq k (-1000) 1000&&fu x
def dy(x:Rg)(k:Int) : Rg:=if lh x k=true then c_ x k else ⟨0,0,0,0⟩
def dt(x:Dy) : Bool:=fu x.num&&bq x.exp 0 60&&(x.exp==0||!ei x.num)
def qi{x:Dy}(h:dt x=true):0<=x.exp/\x.exp<=60:=by
 simp only[dt,Qd,iw] at h;exact h.1.2
def BQ{a b c:Bool}(h:(!a||!b||!c)=true):(a&&b&&c)=false:=by revert h;cases a<;>cases b<;>cases c<;>simp
def C4{a b c:Bool}(h:(!a||!b||!c)=false):(a&&b&&c)=true:=by revert h;cases a<;>cases b<;>cases c<;>simp
def xN{a b:Bool}(h:(!a||!b)=true):(a&&b)=false:=by revert h;cases a<;>cases b<;>simp
def xE{a b:Bool}(h:(!a||!b)=false):(a&&b)=true:=by revert h;cases a<;>cases b<;>simp
def IX{a b c:Bool}(h:(a&&b&&c)=true):a=true/\b=true/\c=true:=by revert h;cases a<;>cases b<;>cases c<;>simp
def oL(x:Rg)(m:Int) : Option Dy:=if (fu x&&bq m 0 60)=true then some (ip x m) else none
def gc:Nat->Rg->Rg×Bool
 | 0,y=>(y,true)
 | n+1,y=>if fk (aw y) [y]=true then gc n (aw y) else (⟨0,0,0,0⟩,false)
def aq(x:Dy)(m:Int) : Rg×Bool:=gc (m-x.exp).toNat x.num
def U'{x:Dy}{m j:Int}{y:Rg}{b:Bool}(h:(if b=true then gc (m-j).toNat y else (y,false))=aq x m)(hb:b=true)(hj:j<m) :
  (if fk (aw y) [y]=true then gc (m-(j+1)).toNat (be (aw y) [y]) else (be (aw y) [y],false))=aq x m:=by
 rw[<- h,Q4 hb];have ⟨k,hk⟩ : ∃ k,(m-j).toNat=k+1:=⟨(m-j).toNat-1,by omega⟩;rw[hk,show (m-(j+1)).toNat=k from by omega];unfold be;by_cases hh:fk (aw y) [y]=true<;>simp[gc,hh]
def ap(x y:Dy) : Option Dy:=
 if (dt x&&dt y)=true then
  if ((aq x (max x.exp y.exp)).2&&(aq y (max x.exp y.exp)).2&&fk (ig (aq x (max x.exp y.exp)).1 (aq y (max x.exp y.exp)).1) [(aq x (max x.exp y.exp)).1,(aq y (max x.exp y.exp)).1])=true then
   oL (be (ig (aq x (max x.exp y.exp)).1 (aq y (max x.exp y.exp)).1) [(aq x (max x.exp y.exp)).1,(aq y (max x.exp y.exp)).1]) (max x.exp y.exp)
  else none
 else none
def aj(x y:Dy) : Option Dy:=
 if (dt x&&dt y&&fk (ir x.num y.num) [x.num,y.num])=true then oL (be (ir x.num y.num) [x.num,y.num]) (x.exp+y.exp) else none
structure Mx where (rows cols:Int) (cells:List Dy)
def mZ:Mx:=⟨0,0,[]⟩
abbrev mV(A:Option Addr)(c:Nat)(m:Mx) : Value:=.agg #[.int .i64 m.rows,.int .i64 m.cols,.slice A m.cells.length c]
def dm(n:Int) : Bool:=bq n 1 32&&bits .and .i64 n (wr (n-1))==0
def di(m:Mx) : Bool:=dm m.rows&&dm m.cols&&(m.cells.length:Int)==wr (m.rows*m.cols)&&!(m.cells.any fun x=>!dt x)
def gw(g:Nat->Option Dy) : Nat->Option (List Dy)
 | 0=>some []
 | n+1=>match gw g n,g n with
  | some l,some x=>some (l++[x])
  | _,_=>none
def vI{g:Nat->Option Dy}{n:Nat}{l:List Dy}{x:Dy}(h:gw g n=some l)(hx:g n=some x):gw g (n+1)=some (l++[x]):=by simp[gw,h,hx]
def wO{g:Nat->Option Dy}{n:Nat}(hx:g n=none):∀ m,n<m->gw g m=none
 | 0,h=>by omega
 | m+1,h=>by
  by_cases hm:n=m
  ·subst hm;simp only[gw,hx];split<;>simp_all
  ·simp only[gw,wO hx m O0]
def sY{g:Nat->Option Dy}:∀ {n:Nat} {l:List Dy},gw g n=some l->l.length=n
 | 0,l,h=>by simp[gw] at h;subst h;rfl
 | n+1,l,h=>by
  simp only[gw] at h;split at h
  ·rename_i l' x h1 h2;injection h with h;subst h;simp[sY h1]
  ·cases h
def f_(f:Nat->Nat->Option Dy)(C:Nat)(n:Nat) : Option Dy:=f (n/C) (n % C)
def st{f:Nat->Nat->Option Dy}{C i j:Nat}(hj:j<C):f_ f C (i*C+j)=f i j:=by
 unfold f_;have h1:(i*C+j)/C=i:=by rw[Wi,Nat.mul_add_div O0,Nat.div_eq_of_lt hj];omega
 have h2:(i*C+j) % C=j:=by rw[Wi,Nat.mul_add_mod,Nat.mod_eq_of_lt hj]
 rw[h1,h2]
def ax(R C:Int)(f:Nat->Nat->Option Dy) : Option Mx:=
 if (dm R&&dm C)=true then (gw (f_ f C.toNat) (R.toNat*C.toNat)).map fun l=>⟨R,C,l⟩ else none
def Mx.at(m:Mx)(i j:Nat) : Dy:=m.cells.getD (i*m.cols.toNat+j) dZ
def Mx.at_get{m:Mx}{i j:Nat}(h:i*m.cols.toNat+j<m.cells.length):m.cells[i*m.cols.toNat+j]? = some (m.at i j):=by
 rw[Mx.at,Qa,Qc h];rfl
def sW{n:Int}(h:dm n=true):1<=n/\n<=32:=by
 simp only[dm,Qd,iw] at h;exact h.1
def rs{m:Mx}(h:di m=true):(1<=m.rows/\m.rows<=32)/\(1<=m.cols/\m.cols<=32)/\m.cells.length=m.rows.toNat*m.cols.toNat:=by
 simp only[di,Qd,beq_iff_eq] at h;have ⟨⟨⟨h1,h2⟩,h3⟩,h4⟩:=h;have h1:=sW h1;have h2:=sW h2;refine ⟨h1,h2,?_⟩;have ⟨r,hr⟩ : ∃ r:Nat,m.rows=r:=⟨m.rows.toNat,by omega⟩;have ⟨c,hc⟩ : ∃ c:Nat,m.cols=c:=⟨m.cols.toNat,by omega⟩;rw[hr] at h1;rw[hc] at h2;rw[hr,hc] at h3 ⊢;have h5:r*c<=32*32:=Nat.mul_le_mul O0 O0;rw[<- Int.natCast_mul,im O0 O0] at h3;simp only[Qj];exact Int.natCast_inj.1 h3
def tB{R C i j:Nat}(hi:i<R)(hj:j<C):i*C+j<R*C:=by
 have h1:(i+1)*C<=R*C:=Nat.mul_le_mul_right _ hi;rw[Wb] at h1;omega
def de(a b:Mx)(i j:Nat) : Nat->Option Dy
 | 0=>some dZ
 | n+1=>(de a b i j n).bind fun s=>(aj (a.at i n) (b.at n j)).bind fun x=>ap s x
def z6{a b:Mx}{i j n:Nat}(h:de a b i j n=none):∀ m,n<=m->de a b i j m=none
 | 0,h'=>by
  obtain rfl:n=0:=by omega
  exact h
 | m+1,h'=>by
  by_cases hm:n=m+1
  ·subst hm;exact h
  ·simp[de,z6 h m O0]
def bg(a b:Mx) : Option Mx:=if (di a&&di b&&a.cols==b.rows)=true then ax a.rows b.cols fun i j=>de a b i j a.cols.toNat else none
def sw(n:Int) : Option Mx:=ax n n fun i j=>some (if i=j then ⟨⟨1,0,0,0⟩,0⟩ else dZ)
def bp(m:Mx)(x:Dy) : Option Mx:=if (di m&&dt x)=true then ax m.rows m.cols fun i j=>aj (m.at i j) x else none
abbrev qQ(x y:Dy):=be (ig ((aq x (max x.exp y.exp)).1) ((aq y (max x.exp y.exp)).1)) [((aq x (max x.exp y.exp)).1),((aq y (max x.exp y.exp)).1)]
abbrev jl(p q:Mx)(i k l j:Nat) : Dy:=(aj (p.at i k) (q.at l j)).getD dZ
def C2{P:Program}{t:TypeId}{fs:Array Field}(h:P.underlying t=some (.struct fs)):P.fieldsOf t=fs:=by simp[Program.fieldsOf,h]
def Gx{P:Program}{w:World}{t k:Nat}{xs:Array Value}{v:Value}(h1:mr P t)(h:xs[k]? = some v):(part t xs k).run P w=.ok v w:=by
 simp[part,Cz h1,h]
def uB {P : Program} {w : World} {d : Nat} {xs ys : Array Value} {f : Field} {fs : List Field} {k : IntKind} {i j : Int} (hn : f.name ≠ "_") (hT : mr P f.type) (hu : P.underlying f.type = some (.int k)) (hx : xs[f.offset]? = some (.int .i64 i)) (hy : ys[f.offset]? = some (.int .i64 j))
  {r:Bool} (h:i=j->(Op.eqFields (d+1) xs ys fs).run P w=.ok r w) : (Op.eqFields (d+1) xs ys (f::fs)).run P w=.ok (decide (i=j)&&r) w:=by
 simp only[Op.eqFields,hn,ne_eq,not_false_eq_true,if_true,Sem.run_bind,Gx hT hx,Gx hT hy,Result.andThen_ok,run_equalIn_int _ _ _ _ _ _ _ hu];by_cases hij:i=j
 ·subst hij;simp[h rfl]
 ·simp[hij]
def Si(d:Nat)(x y:Rg)(w:World):(Op.equalIn (d+2) 145 (rV x) (rV y)).run prog w=.ok (decide (x=y)) w:=by
 have hf:=C2 underlying145;refine (run_equalIn_struct w (d+1) 145 _ _ (by rw[hf];exact underlying145) O4).trans ?_;rw[hf];have:decide (x=y)=(decide (x.a=y.a)&&(decide (x.b=y.b)&&(decide (x.c=y.c)&&(decide (x.d=y.d)&&true)))):=by
  have ⟨a,b,c,d⟩:=x;obtain ⟨a',b',c',d'⟩:=y;simp
 rw[this];refine uB O2 X8 underlying3 O O fun _=>uB O2 X8 underlying3 O O fun _=>uB O2 X8 underlying3 O O fun _=>uB O2 X8 underlying3 O O fun _=>?_;rfl
def LY{P:Program}{w:World}{t k n:Nat}{xs:Array Value}(h1:ln P t n):(part t xs k).run P w=.ok (.agg (xs.extract k (k+n))) w:=by
 simp[part,EF h1,gm h1.2]
def Ud {P : Program} {w : World} {d n : Nat} {xs ys : Array Value} {f : Field} {fs : List Field} {v1 v2 : Value} {b r : Bool} (hn : f.name ≠ "_") (hT : ln P f.type n) (hx : .agg (xs.extract f.offset (f.offset + n)) = v1) (hy : .agg (ys.extract f.offset (f.offset + n)) = v2)
  (he:(Op.equalIn d f.type v1 v2).run P w=.ok b w) (h:b=true->(Op.eqFields d xs ys fs).run P w=.ok r w) : (Op.eqFields d xs ys (f::fs)).run P w=.ok (b&&r) w:=by
 simp only[Op.eqFields,hn,ne_eq,not_false_eq_true,if_true,Sem.run_bind,LY hT,Result.andThen_ok,hx,hy,he];cases b
 ·simp
 ·simp[h rfl]
def wt(d:Nat)(x y:Dy)(w:World):(Op.equalIn (d+3) 147 (dV x) (dV y)).run prog w=.ok (decide (x=y)) w:=by
 have hf:=C2 underlying147;refine (run_equalIn_struct w (d+2) 147 _ _ (by rw[hf];exact underlying147) O4).trans ?_;rw[hf];have:decide (x=y)=(decide (x.num=y.num)&&(decide (x.exp=y.exp)&&true)):=by
  have ⟨a,b⟩:=x;obtain ⟨a',b'⟩:=y;simp
 rw[this];exact Ud (v1:=rV x.num) (v2:=rV y.num) O2 g9 O O (Si d _ _ _) fun _=>uB O2 X8 underlying3 O O fun _=>rfl
def Ih(d:Nat)(x y:Gt)(w:World):(Op.equalIn (d+2) 52 (gV x) (gV y)).run prog w=.ok (decide (x=y)) w:=by
 have hf:=C2 underlying52;refine (run_equalIn_struct w (d+1) 52 _ _ (by rw[hf];exact underlying52) O4).trans ?_;rw[hf];have:decide (x=y)=(decide (x.k=y.k)&&(decide (x.a=y.a)&&(decide (x.b=y.b)&&true))):=by
  have ⟨a,b,c⟩:=x;obtain ⟨a',b',c'⟩:=y;simp
 rw[this];refine uB O2 X8 underlying3 O O fun _=>uB O2 X8 underlying3 O O fun _=>uB O2 X8 underlying3 O O fun _=>?_;rfl
section
variable {P : Program} {a : Act} {w : World} {n : Nat} {e : kt} {ty : TypeId} {pos : String} {af : Array Edge} {g : Option (Nat × Bool)} {d : Option Tmp} {t t' : TypeId} {x y : Operand} {X Y : Array Value} {b : Bool}
theorem T9(hf:Fr a n e)(hx:ev e x=some (.agg X))(hy:ev e y=some (.agg Y))(hm:P.eqGuardType P.depth t=false)(he:∀ w,(Op.equalIn 10000 t (.agg X) (.agg Y)).run P w=.ok b w):Ev P ⟨d,.binOp .neq t x y t',ty,pos,af,g⟩ a w (.bool (!b)):=fun w' _=>by
 have h1:=run_eqGuard_agg (P:=P) w' .neq t x y X Y hm;have h2:=run_neq_struct (P:=P) w' t X Y;rw[he] at h2;simp[execOp,hf.ev hx,hf.ev hy,h1,h2]
theorem uz(hx:ev e x=some (.agg X))(hy:ev e y=some (.agg Y))(hm:P.eqGuardType P.depth t=false)(he:∀ w,(Op.equalIn 10000 t (.agg X) (.agg Y)).run P w=.ok b w):iv P ⟨d,.binOp .neq t x y t',ty,pos,af,g⟩ n e w (.bool (!b)):=fun a hf=>T9 hf hx hy hm he
end
def wv:prog.eqGuardType prog.depth 147=false:=by kernel_rfl
def H2:prog.eqGuardType prog.depth 52=false:=by kernel_rfl
def uV{α:Type}{l m:List α}{k:Nat}{u v:α}(h:l.take k=m.take k)(hu:l[k]? = some u)(hv:m[k]? = some v)(he:u=v):l.take (k+1)=m.take (k+1):=by
 rw[Qt,Qt,h,hu,hv,he]
def Rt{P:Program}{a:Act}{w:World}{n:Nat}{e:kt}{ty:TypeId}{pos:String}{af:Array Edge}{g:Option (Nat×Bool)}{d:Option Tmp}{s t:TypeId}{x:Operand}{i:Int}{m:Nat}(hs:P.underlying s=some (.int .i64))(ht:P.underlying t=some (.int .u64))(hf:Fr a n e)(hx:ev e x=some (.int .i64 i))(hi:i=(m:Int))(hm:m<=64) :
  Ev P ⟨d,.convert s t x,ty,pos,af,g⟩ a w (.int .u64 (m:Int)):=fun w' _=>by
 subst hi;have h:IntKind.u64.wrap (m:Int)=(m:Int):=by
  simp only[IntKind.wrap];simp only[IntKind.bits,IntKind.signed,Bool.false_and,Bool.false_eq_true,if_false];omega
 simp[execOp,hf.ev hx,convert,pM hs,pM ht,Conv.intToInt,h]
def ui{P:Program}{w:World}{n:Nat}{e:kt}{ty:TypeId}{pos:String}{af:Array Edge}{g:Option (Nat×Bool)}{d:Option Tmp}{s t:TypeId}{x:Operand}{i:Int}{m:Nat}(hs:P.underlying s=some (.int .i64))(ht:P.underlying t=some (.int .u64))(hx:ev e x=some (.int .i64 i))(hi:i=(m:Int))(hm:m<=64):iv P ⟨d,.convert s t x,ty,pos,af,g⟩ n e w (.int .u64 (m:Int)):=fun a hf=>Rt hs ht hf hx hi hm
def d_(n s q:Int) : Int:=bits .and .i64 (s/2^(n-1-q).toNat) 1
def kg(n s q:Int) : Int:=bits .xor .i64 s (wr (1*2^(n-1-q).toNat))
def dz(k:Int) : Int:=if k=4 then 4 else if k=5 then 2 else if k=6 then 6 else if k=7 then 1 else 7
def OM{k:Int}(h1:4<=k)(h2:k<=8):([4,2,6,1,7] : List Int)[(k-4).toNat]? = some (dz k):=by
 have:k=4∨k=5∨k=6∨k=7∨k=8:=by omega
 rcases this with rfl|rfl|rfl|rfl|rfl<;>rfl
def qa:Dy:=⟨⟨1,0,0,0⟩,1⟩
def km(k:Int) : List Dy:=
 if k=1 then [qa,qa,qa,oU qa] else if k=2 then [dZ,ac 0,ac 0,dZ] else if k=3 then [dZ,ac 6,ac 2,dZ] else [ac 0,dZ,dZ,ac (dz k)]
def ah.of_blkL{α:Type}{w:World}{B0 b k:Nat}{E:TypeId}{sz:Nat}{enc:α->List Value}{cs:List Value}{l:List α}(hsz:∀ x,(enc x).length=sz)(h:al w b E cs)(hb:B0<=b)(hc:l.flatMap enc=cs)(hl:l.length=k)(hk:k<=maxLen):ah w B0 E sz enc (some ⟨b,0,none⟩) k l:=by
 subst hc;subst hl;have h1:=qh hsz l;refine ⟨h1,.inr ⟨b,l.length,_,O,hb,h,Qb _,hk,?_,?_⟩⟩
 ·simpa using h1
 ·rw[<- h1];exact List.take_length
structure Cx where (n:Int) (gs:List Gt)
def gp(n:Int)(x:Gt) : Bool:=
 bq n 1 5&&bq x.k 1 12&&(if x.k=12 then x.a==0&&x.b==0 else if bq x.k 9 11=true then bq x.a 0 (n-1)&&bq x.b 0 (n-1)&&x.a != x.b else bq x.a 0 (n-1)&&x.b==0)
def gf(c:Cx) : Bool:=bq c.n 1 5&&decide ((c.gs.length:Int)<=400)&&!(c.gs.any fun x=>!gp c.n x)
def n_(p q:Mx)(k:Nat) : Bool:=(bp q (ac k)).isSome&&(decide (p.rows=((bp q (ac k)).getD mZ).rows)&&decide (p.cols=((bp q (ac k)).getD mZ).cols)&&decide (p.cells=((bp q (ac k)).getD mZ).cells))
def qk(p q:Mx) : Bool:=(List.range 8).any (n_ p q)
def Cv{f:Nat->Bool}{k:Nat}(h:k<8)(hf:f k=true):(List.range 8).any f=true:=List.any_eq_true.2 ⟨k,W2.2 h,hf⟩
def xH{f:Nat->Bool}(h:∀ k<8,f k=false):(List.range 8).any f=false:=by grind
def co(x:Rg) : Rg:=if fu x=true then x else ⟨0,0,0,0⟩
def bi:Nat->Bool->Dy->Bool×Dy
 | 0,f,x=>(f,x)
 | n+1,f,x=>bi n (f||!fu (aw x.num)) ⟨co (aw x.num),x.exp+1⟩
def jt(f:Bool)(x y:Dy) : Bool×Dy:=
 ((bi ((bi (y.exp-x.exp).toNat f x).2.exp-y.exp).toNat (bi (y.exp-x.exp).toNat f x).1 y).1||!fu (ig (bi (y.exp-x.exp).toNat f x).2.num (bi ((bi (y.exp-x.exp).toNat f x).2.exp-y.exp).toNat (bi (y.exp-x.exp).toNat f x).1 y).2.num),
 ip (co (ig (bi (y.exp-x.exp).toNat f x).2.num (bi ((bi (y.exp-x.exp).toNat f x).2.exp-y.exp).toNat (bi (y.exp-x.exp).toNat f x).1 y).2.num)) (bi (y.exp-x.exp).toNat f x).2.exp)
def fq(f:Bool)(x y:Dy) : Bool×Dy:=
 if 60<x.exp+y.exp then (true,dZ) else (f||!fu (ir x.num y.num),ip (co (ir x.num y.num)) (x.exp+y.exp))
def JW{f1 f:Bool}{x1 x:Dy}{m:Int}{k:Nat}(h:bi (m-x1.exp).toNat f1 x1=bi k f x)(hlt:x1.exp<m) :
  bi (m-(x1.exp+1)).toNat (f1||!fu (aw x1.num)) ⟨co (aw x1.num),x1.exp+1⟩=bi k f x:=by
 rw[<- h];have ⟨j,hj⟩ : ∃ j,(m-x1.exp).toNat=j+1:=⟨(m-x1.exp).toNat-1,by omega⟩;rw[hj,show (m-(x1.exp+1)).toNat=j from by omega];rfl
def EM{f1 f:Bool}{x1 x:Dy}{m:Int}{k:Nat}(h:bi (m-x1.exp).toNat f1 x1=bi k f x)(hlt:¬ x1.exp<m):bi k f x=(f1,x1):=by
 rw[<- h,show (m-x1.exp).toNat=0 from by omega];rfl
def ti(n s q:Int):d_ n s q=0∨d_ n s q=1:=by
 have key:∀ b:BitVec 64,IntKind.i64.wrap ((b &&& BitVec.ofInt 64 1).toNat:Int)=0∨IntKind.i64.wrap ((b &&& BitVec.ofInt 64 1).toNat:Int)=1:=fun b=>by
  have:(BitVec.ofInt 64 1).toNat=1:=by decide
  have h:(b &&& BitVec.ofInt 64 1).toNat=0∨(b &&& BitVec.ofInt 64 1).toNat=1:=by
   rw[BitVec.toNat_and,this,Nat.and_one_is_mod];omega
  rcases h with h|h<;>rw[h]
  ·exact .inl O
  ·exact .inr O
 exact key _
def qe{n:Int}{g:Gt}(h:gp n g=true):(1<=n/\n<=5)/\(1<=g.k/\g.k<=12)/\(g.k≠12->0<=g.a/\g.a<n)/\(9<=g.k/\g.k<=11->0<=g.b/\g.b<n/\g.a≠g.b):=by
 simp only[gp,Qd,iw] at h;have ⟨⟨h1,h2⟩,h3⟩:=h;refine ⟨h1,h2,fun hk=>?_,fun hk=>?_⟩
 ·rw[Q3 hk] at h3;split at h3<;>simp only[Qd,iw] at h3<;>omega
 ·rw[Q3 O0,Q4 hk] at h3;simp only[Qd,iw,bne_iff_ne] at h3;exact ⟨h3.1.2.1,by omega,h3.2⟩
def nt(n:Int)(g:Gt)(col:Int) : Int:=
 if g.k=9 then (if d_ n col g.a=1 then kg n col g.b else col) else if g.k=11 then (if d_ n col g.a≠d_ n col g.b then kg n (kg n col g.a) g.b else col) else col
def ll(n:Int)(g:Gt)(col:Int) : Dy:=if g.k=12 then ac 1 else if g.k=10/\d_ n col g.a=1/\d_ n col g.b=1 then ac 4 else ac 0
def cu(n:Int)(g:Gt)(row col:Int) : Dy:=
 if g.k<=8 then (if bits .andNot .i64 (bits .xor .i64 row col) (wr (1*2^(n-1-g.a).toNat))≠0 then dZ else (km g.k).getD (2*d_ n row g.a+d_ n col g.a).toNat dZ)
 else if row=nt n g col then ll n g col else dZ
def PQ{k:Int}{m:Nat}(h:m<4):(km k)[m]? = some ((km k).getD m dZ):=by grind [dZ,km]
def q'{i j:Int}(h:(i==j)=false):¬ i=j:=by simpa using h
def Wl{P:Program}{a:Act}{w:World}{n:Nat}{e:kt}{ty:TypeId}{pos:String}{af:Array Edge}{g:Option (Nat×Bool)}{d:Option Tmp}{t t':TypeId}{x y:Operand}{j:Int}{k:IntKind}{m D:Nat}(hf:Fr a n e)(hx:ev e x=some (.int .i64 1))(hy:ev e y=some (.int k j))(hj:j=(m:Int))(hD:D=2^m/\m<=30):Ev P ⟨d,.binOp .shl t x y t',ty,pos,af,g⟩ a w (.int .i64 (D:Int)):=by
 have h:=I' (P:=P) (w:=w) (d:=d) (ty:=ty) (pos:=pos) (af:=af) (g:=g) (t:=t) (t':=t') (i:=1) hf hx hy hj O0;have h2:IntKind.i64.wrap (1*2^m)=(D:Int):=by
  rw[hD.1];have h3:(2:Nat)^m<=2^30:=Nat.pow_le_pow_right O2 hD.2;have h4:(2:Int)^m=((2^m:Nat) : Int):=by simp
  rw[Int.one_mul,h4];exact IntWalk.i64_in _ ⟨by omega,by omega⟩
 rwa [h2] at h
def wg{P:Program}{w:World}{n:Nat}{e:kt}{ty:TypeId}{pos:String}{af:Array Edge}{g:Option (Nat×Bool)}{d:Option Tmp}{t t':TypeId}{x y:Operand}{j:Int}{k:IntKind}{m D:Nat}(hx:ev e x=some (.int .i64 1))(hy:ev e y=some (.int k j))(hj:j=(m:Int))(hD:D=2^m/\m<=30):iv P ⟨d,.binOp .shl t x y t',ty,pos,af,g⟩ n e w (.int .i64 (D:Int)):=fun a hf=>Wl hf hx hy hj hD
def p_(f:Nat->Nat->Dy)(C:Nat)(m:Nat) : Dy:=f (m/C) (m % C)
def fy(f:Nat->Nat->Dy)(C:Nat)(N:Nat) : List Dy:=(List.range N).map (p_ f C)
def Fs{f:Nat->Nat->Dy}{C i j:Nat}(hj:j<C):p_ f C (i*C+j)=f i j:=by
 unfold p_;have h1:(i*C+j)/C=i:=by rw[Wi,Nat.mul_add_div O0,Nat.div_eq_of_lt hj];omega
 have h2:(i*C+j) % C=j:=by rw[Wi,Nat.mul_add_mod,Nat.mod_eq_of_lt hj]
 rw[h1,h2]
def DJ{f:Nat->Nat->Dy}{C i j:Nat}(hj:j<C):fy f C (i*C+(j+1))=fy f C (i*C+j)++[f i j]:=by
 unfold fy;rw[show i*C+(j+1)=(i*C+j)+1 from O,List.range_succ,List.map_append,List.map_singleton,Fs hj]
def sU(f:Nat->Nat->Dy)(C N:Nat):(fy f C N).length=N:=by simp[fy]
def bc(n:Int)(g:Gt) : Mx:=⟨((2^n.toNat:Nat) : Int),((2^n.toNat:Nat) : Int),fy (fun i j=>cu n g i j) (2^n.toNat) (2^n.toNat*2^n.toNat)⟩
def wu{n:Int}(h:n<=5):2^n.toNat<=32:=Nat.pow_le_pow_right (n:=2) O2 (show n.toNat<=5 by omega)
def f'(k:Int)(x:Dy) : Dy:=⟨c_ x.num k,x.exp⟩
def dh(p q:Mx)(k:Int) : Bool:=decide (p.rows=q.rows)&&decide (p.cols=q.cols)&&decide (p.cells=q.cells.map (f' k))
def JZ{α β:Type}{f:α->β}{l:List α}{i:Nat}{u:α}(h:l[i]? = some u):(l.map f)[i]? = some (f u):=by simp[h]
def gi(p q:Mx) : Bool:=(List.range 8).any fun k=>dh p q (k:Int)
section
variable {n : Int} {g : Gt} (hn : 1 <= n /\ n <= 5)
include hn
theorem UC(h:bq g.k 1 8=true):gp n g=(bq g.a 0 (n-1)&&g.b==0):=by grind [gp,bq]
theorem NO(h:bq g.k 9 11=true):gp n g=(bq g.a 0 (n-1)&&bq g.b 0 (n-1)&&g.a != g.b):=by grind [gp,bq]
theorem K2(h1:bq g.k 1 8=false)(h2:bq g.k 9 11=false):gp n g=(g.k==12&&g.a==0&&g.b==0):=by grind [gp,bq]
end
def gn(k i j:Int) : Dy:=
 if k=1 then (if i=1/\j=1 then ⟨⟨-1,0,0,0⟩,1⟩ else qa) else if k=2/\i≠j then ⟨⟨1,0,0,0⟩,0⟩ else if k=3/\i≠j then ac (2+4*j)
 else if k=2∨k=3∨i≠j then dZ else if i=0 then ⟨⟨1,0,0,0⟩,0⟩ else ac (dz k)
def OG{k:Int}(h1:4<=k)(h2:k<=8):(([(4,4,0),(5,2,1),(6,6,2),(7,1,3),(8,7,4)] : List (Int×Int×Nat)).find? fun p=>p.1==k).map (fun p=>p.2.1)=some (dz k):=by
 have:k=4∨k=5∨k=6∨k=7∨k=8:=by omega
 rcases this with rfl|rfl|rfl|rfl|rfl<;>rfl
def PA(k:Int):bq (dz k) (-1000) 1000=true:=by
 unfold dz;split<;>(try split)<;>(try split)<;>(try split)<;>rfl
def ra(n:Int)(g:Gt)(i:Int) : Bool:=g.k==10&&d_ n i g.a==1&&d_ n i g.b==1
def e_(n:Int)(g:Gt)(i j:Int) : Dy:=
 if g.k=12 then (if i=j then ac 1 else dZ)
 else if bq g.k 9 11=true then (if nt n g i=j then ac (4*(if ra n g i=true then 1 else 0)) else dZ)
 else if i=j∨kg n i g.a=j then gn g.k (d_ n i g.a) (d_ n j g.a) else dZ
def br(n:Int)(g:Gt) : Option Mx:=if gp n g=true then ax ((2^n.toNat:Nat) : Int) ((2^n.toNat:Nat) : Int) fun i j=>some (e_ n g i j) else none
abbrev RE:=sZ prog
theorem ZS{P:Program}{Q:Exit->Act->World->Prop}{w:World}{n:Nat}{e:kt}{a:Act}{id:Nat}{l:List Oper}{c:Code}(hf:Fr a n e)(h:∀{K:Act->World->Prop},(∀ a w,c.wp P Q a w->K a w)->WL P l.toArray (Exit.then K Q) l n e w):(Code.seq (Code.region id l.toArray false) c).wp P Q a w:=Zs hf fun _ hK=>h hK
def qc(w0:World)(n:Int)(lo:Int)(hi:Int):RE 33 [vi n,vi lo,vi hi] w0 (fun v w=>v=.bool (bq n lo hi)/\w0=w):=by
 refine enter func33 O 15 O O ?_;intro a d
 have hW:=bz w0
 refine ZS d fun aA=>Za O<|ZX aA fun a d _ aB=>eo (fun a w=>Fr a 15 [(6,.bool ((decide (lo<=n))&&(decide (n<=hi))))]/\w0=w) ?_ ?_
 ·refine Zr d<|Zm O<|Zm O<|Ze (se O O)<|Zm O<|Zg 10 O ?_ ?_<;>intro c
  ·refine Zv (gW c) (X7 O) ?_;refine Zv (gW c) (X7 O) ?_;refine Zv (gW c) (se O O) ?_;refine Ze (Xh O c O)<|Za O ?_;exact Zn fun a d=>⟨d.sub ⟨X1 O (by first|rfl|(simp only[c,bs];done)|simp[c]),trivial⟩,O⟩
  (iterate 3 refine Zp (gP c) ?_);exact Ze (X9 O c O)<|Za O<|Zn fun a d=>⟨d.sub ⟨X1 O (by simp[c]),trivial⟩,O⟩
 rintro a _ ⟨d,rfl⟩;refine aB _ _<|Q6 (X4 d (Xu d O O) ?_)
 exact ⟨by simp[bq, *],rfl⟩
def ru(w0:World)(n:Int)(lo:Int)(hi:Int):RE 26 [vi n,vi lo,vi hi] w0 (fun v w=>v=.bool (bq n lo hi)/\w0=w):=by
 refine enter func26 O 15 O O ?_;intro a d
 have hW:=bz w0
 refine ZS d fun aA=>Za O<|ZX aA fun a d _ aB=>eo (fun a w=>Fr a 15 [(6,.bool ((decide (lo<=n))&&(decide (n<=hi))))]/\w0=w) ?_ ?_
 ·refine Zr d<|Zm O<|Zm O<|Ze (r0 O O)<|Zm O<|Zg 10 O ?_ ?_<;>intro c
  ·refine Zv (gW c) (X7 O) ?_;refine Zv (gW c) (X7 O) ?_;refine Zv (gW c) (se O O) ?_;refine Ze (Xh O c O)<|Za O ?_;exact Zn fun a d=>⟨d.sub ⟨X1 O (by first|rfl|(simp only[c,bs];done)|simp[c]),trivial⟩,O⟩
  (iterate 3 refine Zp (gP c) ?_);exact Ze (X9 O c O)<|Za O<|Zn fun a d=>⟨d.sub ⟨X1 O (by simp[c]),trivial⟩,O⟩
 rintro a _ ⟨d,rfl⟩;refine aB _ _<|Q6 (X4 d (Xu d O O) ?_)
 exact ⟨by simp[bq, *],rfl⟩
def MR(w0:World)(x:Int)(y:Int):RE 190 [vi x,vi y] w0 (fun v w=>v=vi (max x y)/\w0=w):=by
 refine enter func190 O 10 O O ?_;intro a c;have hW:=bz w0;refine ZS c fun aB=>Za O<|ZX aB fun a c _ aC=>ZS c fun aD=>Zm O<|Zm O<|Ze (oo O O)<|Zt aD fun a c=>eh c O (fun aA aE=>?_) (fun aA aE=>?_)
 ·exact ZS c fun aF=>Zm O<|Za O<|Zt aF fun a c=>Q6<|X3<|X4 c (Xu c O O)<|⟨by congr 1;omega,rfl⟩
 refine Q7<|aC _ _<|ZS c fun aG=>Zm O<|Za O<|Zt aG fun a c=>Q6 (X4 c (Xu c O O) ?_);exact ⟨by congr 1;omega,rfl⟩
def vH(w0:World)(k:Int):RE 39 [vi k] w0 (fun v w=>v=.bool (bq k 9 11)/\w0=w):=by
 refine enter func39 O 5 O O ?_;intro a hf;have hW:=bz w0;refine ZS hf fun aA=>Za O<|Zx aA fun a hf _ aB=>Zm O<|Zf (Vc (qc _ k 9 11) pV) ?_;rintro _ _ ⟨rfl,rfl⟩;refine Za O<|Zt aB fun a hf=>Q6 (X4 hf (Xu hf O O) ?_);exact ⟨O,O⟩
abbrev Bl(x y:World):=Below x.heap.size x y
def KS(e:World)(Al:Option Addr)(cl:Nat)(l:List Int)(aD:Rw e 3 bk Al l)(lo:Int)(f:Int)(aR:l.length<=2305843009213693951):RE 215 [.slice Al l.length cl,vi lo,vi f] e (fun v w=>v=.bool (l.all fun n=>bq n lo f)/\Bl e w):=by
 refine enter func215 O 21 O O ?_;intro a c;have hW:=bz e;refine ZS c fun aJ=>Za O<|ZX aJ fun a c _ aK=>ZS c fun aL=>Zm O<|Ze (fh O gq)<|Zm O<|Zt aL fun a c=>Q8<|Xw (σ:=Nat) (fun (k:Nat) (a:Act) (w:World)=>Fr a 21 [(1,vi lo),(2,vi f),(9,.slice Al l.length cl),(10,vi (l.length:Int)),(11,vi (k:Int))]/\(k<=l.length)/\((l.take k).all (fun n=>bq n lo f)=true)/\Bl e w) (fun (k:Nat)=>l.length+1-k) 0 ?_ ?_
 ·exact ⟨c.sb,(Qf _),O6,hW⟩
 intro k a w1 ⟨c,hk,g,hW⟩;refine ZS c fun aM=>Ze (ew O O)<|ZX aM fun a c _ aN=>eh c O (fun aE aO=>?_) (fun aE aO=>?_)
 ·have ⟨u8,aA⟩:=Xe (l:=l) (k:=k) O0;refine Q7<|aN _ _<|Q5 fun _ aP=>Q8<|ZS c fun aF=>Zi (k:=k) (u:=u8) (enc:=bk) (l:=l) ad O O gq jw kp (aD.bx hW) aA O ?_;intro aS aB;refine Ze (X0 O X8 aB)<|Za O<|Zx aF fun a c _ aG=>Zm O<|Zm O<|Zm O<|Zf (Vc (ru _ u8 lo f) rq) ?_;rintro _ _ ⟨rfl,rfl⟩;refine Ze (dn O)<|Zt aG fun a c=>Xz c O ?_ ?_<;>intro d
  ·have aC:(l.all fun n=>bq n lo f)=false:=JA aA (by simpa using d);exact ZS c fun aH=>Za O<|Zt aH fun a c=>Q6<|Xn<|X3<|X3<|Xn<|X3<|X4 c (Xu c O O)<|⟨by rw[aC],hW⟩
  have aQ:bq u8 lo f=true:=by simpa using d
  exact Q7<|Xk<|aP _ _<|Zr c<|Ze (Xs O O O0 O0)<|Zm O<|Zn fun a c=>Xb<|⟨k+1,⟨c.sb,O0,(sa g aA aQ),hW⟩,O0⟩
 refine Q9<|Xf<|Xf<|Xv<|aK _ _<|ZS c fun aI=>Za O<|Zt aI fun a c=>Q6 (X4 c (Xu c O O) ?_);have aC:(l.all fun n=>bq n lo f)=true:=sF g O0;exact ⟨by rw[aC],hW⟩
def IT(w0:World)(x:Rg):RE 203 [.agg #[vi x.a,vi x.b,vi x.c,vi x.d]] w0 (fun v w=>v=.bool (fu x)/\Bl w0 w):=by
 refine enter func203 O 13 O O ?_;intro a hf;have e:=bz w0;refine ZS hf fun aB=>Zf (bt (zs:=[vi x.a,vi x.b,vi x.c,vi x.d]) O O) ?_;rintro _ w1 ⟨b2,rfl,aC,hE,f⟩;have aF:=Q0 e.size aC;have e:=aa e hE;refine Za O<|Zx aB fun a hf _ aD=>Ze (Vd O lz 0)<|Ze (X0 O X8 (f.at 0))<|Ze (Vd O ly 1)<|Ze (X0 O X8 (f.at 1))<|Ze (Vd O lu 2)<|Ze (X0 O X8 (f.at 2))<|Ze (Vd O lw 3)<|Ze (X0 O X8 (f.at 3))<|Zf (X6 (k:=4) (vs:=[vi x.a,vi x.b,vi x.c,vi x.d]) (zs:=[vi x.a,vi x.b,vi x.c,vi x.d]) O gq pD O O) ?_;rintro _ w2 ⟨b4,rfl,aE,hE,aA⟩;have aG:=Q0 e.size aE;have e:=aa e hE;refine Zf (Vc (KS _ (some ⟨b4,0,none⟩) 4 ([x.a,x.b,x.c,x.d]) (Rd.of_blk aA O _ aA.lt) (-1000000000) 1000000000 O6) Tr) ?_;rintro _ w3 ⟨rfl,hE⟩;have e:=aa e hE;refine Za O<|Zt aD fun a hf=>Q6 (X4 hf (Xu hf O O) ?_);exact ⟨by simp[fu,Bool.and_assoc],e⟩
def JI(w0:World)(x:Rg)(k:Int):RE 144 [.agg #[vi x.a,vi x.b,vi x.c,vi x.d],vi k] w0 (fun v w=>v=rV (c_ x k)/\Bl w0 w):=by
 refine enter func144 O 24 O O ?_;intro a f;have i:=bz w0;refine ZS f fun aF=>Zf (bt (zs:=[vi x.a,vi x.b,vi x.c,vi x.d]) O O) ?_;rintro _ w1 ⟨b2,rfl,aG,hE,e⟩;have aA:=Q0 i.size aG;have i:=aa i hE;refine Zf (Xi (zs:=[vi 0,vi 0,vi 0,vi 0]) nz O) ?_;rintro _ w2 ⟨b3,rfl,aH,hE,g⟩;have aE:b2≠b3:=by have:=e.lt;omega
 have aB:=Q0 i.size aH;have e:=e.bw hE;have i:=aa i hE;refine ZX aF fun a f _ aI=>ZS f fun aJ=>Zm O<|Ze (sE O O O)<|Ze (mu O O)<|Ze (sE O O O)<|Za O<|Zt aJ fun a f=>Q8 ?_;have hj:jb k=((jb k).toNat:Int):=by have:=zt k;omega
 rw[show (wr (k.tmod 8+8)).tmod 8=jb k from O,hj] at f;have aK:=(zt k).2;refine Xw (σ:=Rg×Nat) (fun (s:Rg×Nat) (a:Act) (w:World)=>match s with|(y,j)=>Fr a 24 [(1,vi (j:Int)),(2,(ae b2)),(4,(ae b3))]/\(gz j y=c_ x k)/\(j<8)/\al w b2 145 [vi y.a,vi y.b,vi y.c,vi y.d]/\al w b3 145 [vi 0,vi 0,vi 0,vi 0]/\Bl w0 w) (fun (s:Rg×Nat)=>match s with|(y,j)=>j) (x,(jb k).toNat) ?_ ?_
 ·exact ⟨f.sb,O,O0,e,g,i⟩
 intro ⟨y,j⟩ a w3 ⟨f,n,aK,e,g,i⟩;refine Q5 fun _ aL=>ZS f fun aM=>Zm O<|Ze (oo O O)<|Zt aM fun a f=>eh f O (fun aC aN=>?_) (fun aC aN=>?_)
 ·refine Q7<|aL _ _<|Q5 fun _ aO=>Q8<|Zr f<|Ze (Vd O lw 3)<|Ze (X0 O X8 (e.at 3))<|Ze (rQ O)<|Ze (Vd O lz 0)<|Ze (X0 O X8 (e.at 0))<|Ze (Vd O ly 1)<|Ze (X0 O X8 (e.at 1))<|Ze (Vd O lu 2)<|Ze (X0 O X8 (e.at 2))<|Ze (Xg (ps:=[(0,vi (wr (-y.d))),(1,vi y.a),(2,vi y.b),(3,vi y.c)]) (cs:=[vi (wr (-y.d)),vi y.a,vi y.b,vi y.c]) O (fun _=>by first|rfl|kernel_rfl))<|Zo (Vw [vi (wr (-y.d)),vi y.a,vi y.b,vi y.c] lr e) ?_;intro _ w4 ⟨ho,hb⟩;have g:=g.oy ho O0;have i:=Below.oy i ho aA;have e:=hb;refine Zn fun a f=>Xk<|aO _ _<|Zr f<|Zm O<|Ze (ld O O O0 O0)<|Za O<|Zn fun a f=>?_;have aP:((j:Int)-1)=((j-1:Nat) : Int):=by omega
  rw[aP] at f;exact Xb<|⟨(qG y,j-1),⟨f.sb,(by rw[<- n];obtain ⟨m,rfl⟩ : ∃ m,j=m+1:=⟨j-1,by omega⟩;rfl),O0,e,g,i⟩,O3⟩
 refine Q9<|Xf<|Xf<|Xv<|aI _ _<|ZS f fun aD=>Ze (Vn g9 e)<|Zo (Vw [vi y.a,vi y.b,vi y.c,vi y.d] lr g) ?_;intro _ w5 ⟨ho,hb⟩;have i:=Below.oy i ho aB;have g:=hb;refine Zt aD fun a f=>Q6 (X4 f (Xu f O (an.cellN (l:=[vi y.a,vi y.b,vi y.c,vi y.d]) O g9 (g.at 0) O)) ?_);have aQ:j=0:=by omega
 subst aQ;rw[<- n];exact ⟨O,i⟩
def CB(w0:World)(x:Rg):RE 180 [.agg #[vi x.a,vi x.b,vi x.c,vi x.d]] w0 (fun v w=>v=rV (aw x)/\Bl w0 w):=by
 refine enter func180 O 24 O O ?_;intro a hf;have f:=bz w0;refine ZS hf fun aD=>Zf (bt (zs:=[vi x.a,vi x.b,vi x.c,vi x.d]) O O) ?_;rintro _ w1 ⟨b2,rfl,aE,hE,e⟩;have aH:=Q0 f.size aE;have f:=aa f hE;refine Zf (Xi (zs:=[vi 0,vi 0,vi 0,vi 0]) nz O) ?_;rintro _ w2 ⟨b3,rfl,aF,hE,aA⟩;have aC:b2≠b3:=by have:=e.lt;omega
 have aB:=Q0 f.size aF;have e:=e.bw hE;have f:=aa f hE;refine Zx aD fun a hf _ aG=>Ze (Vd O ly 1)<|Ze (X0 O X8 (e.at 1))<|Ze (Vd O lw 3)<|Ze (X0 O X8 (e.at 3))<|Ze (pz O O)<|Ze (Vd O lz 0)<|Ze (X0 O X8 (e.at 0))<|Ze (Vd O lu 2)<|Ze (X0 O X8 (e.at 2))<|Ze (mu O O)<|Ze (Vd O ly 1)<|Ze (X0 O X8 (e.at 1))<|Ze (Vd O lw 3)<|Ze (X0 O X8 (e.at 3))<|Ze (mu O O)<|Ze (Vd O lu 2)<|Ze (X0 O X8 (e.at 2))<|Ze (Vd O lz 0)<|Ze (X0 O X8 (e.at 0))<|Ze (pz O O)<|Ze (Xg (ps:=[(0,vi (wr (x.b-x.d))),(1,vi (wr (x.a+x.c))),(2,vi (wr (x.b+x.d))),(3,vi (wr (x.c-x.a)))]) (cs:=[vi (wr (x.b-x.d)),vi (wr (x.a+x.c)),vi (wr (x.b+x.d)),vi (wr (x.c-x.a))]) O (fun _=>by first|rfl|kernel_rfl))<|Zo (Vw [vi (wr (x.b-x.d)),vi (wr (x.a+x.c)),vi (wr (x.b+x.d)),vi (wr (x.c-x.a))] lr aA) ?_;intro _ w3 ⟨ho,hb⟩;have f:=Below.oy f ho aB;have aA:=hb;refine Zt aG fun a hf=>Q6 (X4 hf (Xu hf O (an.cellN (l:=[vi (wr (x.b-x.d)),vi (wr (x.a+x.c)),vi (wr (x.b+x.d)),vi (wr (x.c-x.a))]) O g9 (aA.at 0) O)) ?_);exact ⟨O,f⟩
def SA(w0:World)(x:Rg)(y:Rg):RE 182 [.agg #[vi x.a,vi x.b,vi x.c,vi x.d],.agg #[vi y.a,vi y.b,vi y.c,vi y.d]] w0 (fun v w=>v=rV (ig x y)/\Bl w0 w):=by
 refine enter func182 O 26 O O ?_;intro a hf;have g:=bz w0;refine ZS hf fun aF=>Zf (bt (zs:=[vi x.a,vi x.b,vi x.c,vi x.d]) O O) ?_;rintro _ w1 ⟨b2,rfl,aG,i,e⟩;have aK:=Q0 g.size aG;have g:=aa g i;refine Zf (bt (zs:=[vi y.a,vi y.b,vi y.c,vi y.d]) O O) ?_;rintro _ w2 ⟨b3,rfl,aH,i,f⟩;have aC:b2≠b3:=by have:=e.lt;omega
 have aL:=Q0 g.size aH;have e:=e.bw i;have g:=aa g i;refine Zf (Xi (zs:=[vi 0,vi 0,vi 0,vi 0]) nz O) ?_;rintro _ w3 ⟨b4,rfl,aI,i,aA⟩;have aD:b2≠b4:=by have:=e.lt;omega
 have aE:b3≠b4:=by have:=f.lt;omega
 have aB:=Q0 g.size aI;have ⟨e,f,g⟩:=bh i e f g;refine Zx aF fun a hf _ aJ=>Ze (Vd O lz 0)<|Ze (X0 O X8 (e.at 0))<|Ze (Vd O lz 0)<|Ze (X0 O X8 (f.at 0))<|Ze (mu O O)<|Ze (Vd O ly 1)<|Ze (X0 O X8 (e.at 1))<|Ze (Vd O ly 1)<|Ze (X0 O X8 (f.at 1))<|Ze (mu O O)<|Ze (Vd O lu 2)<|Ze (X0 O X8 (e.at 2))<|Ze (Vd O lu 2)<|Ze (X0 O X8 (f.at 2))<|Ze (mu O O)<|Ze (Vd O lw 3)<|Ze (X0 O X8 (e.at 3))<|Ze (Vd O lw 3)<|Ze (X0 O X8 (f.at 3))<|Ze (mu O O)<|Ze (Xg (ps:=[(0,vi (wr (x.a+y.a))),(1,vi (wr (x.b+y.b))),(2,vi (wr (x.c+y.c))),(3,vi (wr (x.d+y.d)))]) (cs:=[vi (wr (x.a+y.a)),vi (wr (x.b+y.b)),vi (wr (x.c+y.c)),vi (wr (x.d+y.d))]) O (fun _=>by first|rfl|kernel_rfl))<|Zo (Vw [vi (wr (x.a+y.a)),vi (wr (x.b+y.b)),vi (wr (x.c+y.c)),vi (wr (x.d+y.d))] lr aA) ?_;intro _ w4 ⟨ho,hb⟩;have g:=Below.oy g ho aB;have aA:=hb;refine Zt aJ fun a hf=>Q6 (X4 hf (Xu hf O (an.cellN (l:=[vi (wr (x.a+y.a)),vi (wr (x.b+y.b)),vi (wr (x.c+y.c)),vi (wr (x.d+y.d))]) O g9 (aA.at 0) O)) ?_);exact ⟨O,g⟩
abbrev ZY:=fun (a:Rg) (b:Rg)=>wr ((wr ((wr ((wr (a.a*b.a))-(wr (a.b*b.d))))-(wr (a.c*b.c))))-(wr (a.d*b.b)))
abbrev ZZ:=fun (a:Rg) (b:Rg)=>wr ((wr ((wr ((wr (a.a*b.b))+(wr (a.b*b.a))))-(wr (a.c*b.d))))-(wr (a.d*b.c)))
abbrev Yj:=fun (a:Rg) (b:Rg)=>wr ((wr ((wr ((wr (a.a*b.c))+(wr (a.b*b.b))))+(wr (a.c*b.a))))-(wr (a.d*b.d)))
abbrev Ym:=fun (a:Rg) (b:Rg)=>wr ((wr ((wr ((wr (a.a*b.d))+(wr (a.b*b.c))))+(wr (a.c*b.b))))+(wr (a.d*b.a)))
def Ug(w0:World)(x:Rg)(y:Rg):RE 183 [.agg #[vi x.a,vi x.b,vi x.c,vi x.d],.agg #[vi y.a,vi y.b,vi y.c,vi y.d]] w0 (fun v w=>v=rV (ir x y)/\Bl w0 w):=by
 refine enter func183 O 98 O O ?_;intro a hf;have g:=bz w0;refine ZS hf fun aF=>Zf (bt (zs:=[vi x.a,vi x.b,vi x.c,vi x.d]) O O) ?_;rintro _ w1 ⟨b2,rfl,aG,i,e⟩;have aK:=Q0 g.size aG;have g:=aa g i;refine Zf (bt (zs:=[vi y.a,vi y.b,vi y.c,vi y.d]) O O) ?_;rintro _ w2 ⟨b3,rfl,aH,i,f⟩;have aC:b2≠b3:=by have:=e.lt;omega
 have aL:=Q0 g.size aH;have e:=e.bw i;have g:=aa g i;refine Zf (Xi (zs:=[vi 0,vi 0,vi 0,vi 0]) nz O) ?_;rintro _ w3 ⟨b4,rfl,aI,i,aA⟩;have aD:b2≠b4:=by have:=e.lt;omega
 have aE:b3≠b4:=by have:=f.lt;omega
 have aB:=Q0 g.size aI;have ⟨e,f,g⟩:=bh i e f g;refine Zx aF fun a hf _ aJ=>Ze (Vd O lz 0)<|Ze (X0 O X8 (e.at 0))<|Ze (Vd O lz 0)<|Ze (X0 O X8 (f.at 0))<|Ze (mv O O)<|Ze (Vd O ly 1)<|Ze (X0 O X8 (e.at 1))<|Ze (Vd O lw 3)<|Ze (X0 O X8 (f.at 3))<|Ze (mv O O)<|Ze (pz O O)<|Ze (Vd O lu 2)<|Ze (X0 O X8 (e.at 2))<|Ze (Vd O lu 2)<|Ze (X0 O X8 (f.at 2))<|Ze (mv O O)<|Ze (pz O O)<|Ze (Vd O lw 3)<|Ze (X0 O X8 (e.at 3))<|Ze (Vd O ly 1)<|Ze (X0 O X8 (f.at 1))<|Ze (mv O O)<|Ze (pz O O)<|Ze (Vd O lz 0)<|Ze (X0 O X8 (e.at 0))<|Ze (Vd O ly 1)<|Ze (X0 O X8 (f.at 1))<|Ze (mv O O)<|Ze (Vd O ly 1)<|Ze (X0 O X8 (e.at 1))<|Ze (Vd O lz 0)<|Ze (X0 O X8 (f.at 0))<|Ze (mv O O)<|Ze (mu O O)<|Ze (Vd O lu 2)<|Ze (X0 O X8 (e.at 2))<|Ze (Vd O lw 3)<|Ze (X0 O X8 (f.at 3))<|Ze (mv O O)<|Ze (pz O O)<|Ze (Vd O lw 3)<|Ze (X0 O X8 (e.at 3))<|Ze (Vd O lu 2)<|Ze (X0 O X8 (f.at 2))<|Ze (mv O O)<|Ze (pz O O)<|Ze (Vd O lz 0)<|Ze (X0 O X8 (e.at 0))<|Ze (Vd O lu 2)<|Ze (X0 O X8 (f.at 2))<|Ze (mv O O)<|Ze (Vd O ly 1)<|Ze (X0 O X8 (e.at 1))<|Ze (Vd O ly 1)<|Ze (X0 O X8 (f.at 1))<|Ze (mv O O)<|Ze (mu O O)<|Ze (Vd O lu 2)<|Ze (X0 O X8 (e.at 2))<|Ze (Vd O lz 0)<|Ze (X0 O X8 (f.at 0))<|Ze (mv O O)<|Ze (mu O O)<|Ze (Vd O lw 3)<|Ze (X0 O X8 (e.at 3))<|Ze (Vd O lw 3)<|Ze (X0 O X8 (f.at 3))<|Ze (mv O O)<|Ze (pz O O)<|Ze (Vd O lz 0)<|Ze (X0 O X8 (e.at 0))<|Ze (Vd O lw 3)<|Ze (X0 O X8 (f.at 3))<|Ze (mv O O)<|Ze (Vd O ly 1)<|Ze (X0 O X8 (e.at 1))<|Ze (Vd O lu 2)<|Ze (X0 O X8 (f.at 2))<|Ze (mv O O)<|Ze (mu O O)<|Ze (Vd O lu 2)<|Ze (X0 O X8 (e.at 2))<|Ze (Vd O ly 1)<|Ze (X0 O X8 (f.at 1))<|Ze (mv O O)<|Ze (mu O O)<|Ze (Vd O lw 3)<|Ze (X0 O X8 (e.at 3))<|Ze (Vd O lz 0)<|Ze (X0 O X8 (f.at 0)) ?_;refine Ze (mv O O)<|Ze (mu O O)<|Ze (Xg (ps:=[(0,vi (ZY x y)),(1,vi (ZZ x y)),(2,vi (Yj x y)),(3,vi (Ym x y))]) (cs:=[vi (ZY x y),vi (ZZ x y),vi (Yj x y),vi (Ym x y)]) O (fun _=>by first|rfl|kernel_rfl))<|Zo (Vw [vi (ZY x y),vi (ZZ x y),vi (Yj x y),vi (Ym x y)] lr aA) ?_;intro _ w4 ⟨ho,hb⟩;have g:=Below.oy g ho aB;have aA:=hb;clear hb ho;refine Zt aJ fun a hf=>Q6 (X4 hf (Xu hf O (an.cellN (l:=[vi (ZY x y),vi (ZZ x y),vi (Yj x y),vi (Ym x y)]) O g9 (aA.at 0) O)) ?_);exact ⟨O,g⟩
def PP(w0:World)(x:Rg):RE 216 [.agg #[vi x.a,vi x.b,vi x.c,vi x.d]] w0 (fun v w=>v=rV (mm x)/\Bl w0 w):=by
 refine enter func216 O 16 O O ?_;intro a hf;have f:=bz w0;refine ZS hf fun aD=>Zf (bt (zs:=[vi x.a,vi x.b,vi x.c,vi x.d]) O O) ?_;rintro _ w1 ⟨b2,rfl,aE,hE,e⟩;have aH:=Q0 f.size aE;have f:=aa f hE;refine Zf (Xi (zs:=[vi 0,vi 0,vi 0,vi 0]) nz O) ?_;rintro _ w2 ⟨b3,rfl,aF,hE,aA⟩;have aC:b2≠b3:=by have:=e.lt;omega
 have aB:=Q0 f.size aF;have e:=e.bw hE;have f:=aa f hE;refine Zx aD fun a hf _ aG=>Ze (Vd O lz 0)<|Ze (X0 O X8 (e.at 0))<|Ze (rQ O)<|Ze (Vd O ly 1)<|Ze (X0 O X8 (e.at 1))<|Ze (rQ O)<|Ze (Vd O lu 2)<|Ze (X0 O X8 (e.at 2))<|Ze (rQ O)<|Ze (Vd O lw 3)<|Ze (X0 O X8 (e.at 3))<|Ze (rQ O)<|Ze (Xg (ps:=[(0,vi (wr (-x.a))),(1,vi (wr (-x.b))),(2,vi (wr (-x.c))),(3,vi (wr (-x.d)))]) (cs:=[vi (wr (-x.a)),vi (wr (-x.b)),vi (wr (-x.c)),vi (wr (-x.d))]) O (fun _=>by first|rfl|kernel_rfl))<|Zo (Vw [vi (wr (-x.a)),vi (wr (-x.b)),vi (wr (-x.c)),vi (wr (-x.d))] lr aA) ?_;intro _ w3 ⟨ho,hb⟩;have f:=Below.oy f ho aB;have aA:=hb;refine Zt aG fun a hf=>Q6 (X4 hf (Xu hf O (an.cellN (l:=[vi (wr (-x.a)),vi (wr (-x.b)),vi (wr (-x.c)),vi (wr (-x.d))]) O g9 (aA.at 0) O)) ?_);exact ⟨O,f⟩
def ID(w0:World)(x:Rg):RE 204 [.agg #[vi x.a,vi x.b,vi x.c,vi x.d]] w0 (fun v w=>v=.bool (ei x)/\Bl w0 w):=by
 refine enter func204 O 19 O O ?_;intro a f
 have hW:=bz w0
 refine ZS f fun aA=>Zf (bt (zs:=[vi x.a,vi x.b,vi x.c,vi x.d]) O O) ?_;rintro _ w1 ⟨b2,rfl,aB,hE,g⟩;have aD:=Q0 hW.size aB;have hW:=aa hW hE;refine Za O<|ZX aA fun a f _ aC=>eo (fun a w=>Fr a 19 [(2,.bool ((((wr (x.a+x.c)).tmod 2)==0)&&(((wr (x.b+x.d)).tmod 2)==0)))]/\w1=w) ?_ ?_
 ·refine Zr f<|Ze (Vd O lz 0)<|Ze (X0 O X8 (g.at 0))<|Ze (Vd O lu 2)<|Ze (X0 O X8 (g.at 2))<|Ze (mu O O)<|Ze (sE O O O)<|Ze (go O O)<|Zm O<|Zg 10 O ?_ ?_<;>intro e
  ·refine Zv (gW e) (Vd O ly 1) ?_;refine Zv (gW e) (X0 O X8 (g.at 1)) ?_;refine Zv (gW e) (Vd O lw 3) ?_;refine Zv (gW e) (X0 O X8 (g.at 3)) ?_;refine Zv (gW e) (mu O O) ?_;refine Zv (gW e) (sE O O O) ?_;refine Zv (gW e) (go O O) ?_;refine Ze (Xh O e O)<|Za O ?_;exact Zn fun a f=>⟨f.sub ⟨X1 O (by first|rfl|(simp only[e,bs];done)|simp[e]),trivial⟩,O⟩
  (iterate 7 refine Zp (gP e) ?_);exact Ze (X9 O e O)<|Za O<|Zn fun a f=>⟨f.sub ⟨X1 O (by simp[e]),trivial⟩,O⟩
 rintro a _ ⟨f,rfl⟩;refine aC _ _<|Q6 (X4 f (Xu f O O) ?_)
 exact ⟨O,hW⟩
def CK(w0:World)(x:Rg):RE 202 [.agg #[vi x.a,vi x.b,vi x.c,vi x.d]] w0 (fun v w=>v=.bool (ei x)/\Bl w0 w):=by
 refine enter func202 O 19 O O ?_;intro a f
 have hW:=bz w0
 refine ZS f fun aA=>Zf (bt (zs:=[vi x.a,vi x.b,vi x.c,vi x.d]) O O) ?_;rintro _ w1 ⟨b2,rfl,aB,hE,g⟩;have aD:=Q0 hW.size aB;have hW:=aa hW hE;refine Za O<|ZX aA fun a f _ aC=>eo (fun a w=>Fr a 19 [(2,.bool ((((wr (x.a+x.c)).tmod 2)==0)&&(((wr (x.b+x.d)).tmod 2)==0)))]/\w1=w) ?_ ?_
 ·refine Zr f<|Ze (Vd O lz 0)<|Ze (X0 O X8 (g.at 0))<|Ze (Vd O lu 2)<|Ze (X0 O X8 (g.at 2))<|Ze (mu O O)<|Ze (sE O O O)<|Ze (go O O)<|Zm O<|Zg 10 O ?_ ?_<;>intro e
  ·refine Zv (gW e) (Vd O ly 1) ?_;refine Zv (gW e) (X0 O X8 (g.at 1)) ?_;refine Zv (gW e) (Vd O lw 3) ?_;refine Zv (gW e) (X0 O X8 (g.at 3)) ?_;refine Zv (gW e) (mu O O) ?_;refine Zv (gW e) (sE O O O) ?_;refine Zv (gW e) (go O O) ?_;refine Ze (Xh O e O)<|Za O ?_;exact Zn fun a f=>⟨f.sub ⟨X1 O (by first|rfl|(simp only[e,bs];done)|simp[e]),trivial⟩,O⟩
  (iterate 7 refine Zp (gP e) ?_);exact Ze (X9 O e O)<|Za O<|Zn fun a f=>⟨f.sub ⟨X1 O (by simp[e]),trivial⟩,O⟩
 rintro a _ ⟨f,rfl⟩;refine aC _ _<|Q6 (X4 f (Xu f O O) ?_)
 exact ⟨O,hW⟩
def U9(w0:World)(x:Rg):RE 205 [.agg #[vi x.a,vi x.b,vi x.c,vi x.d]] w0 (fun v w=>v=rV (iy x)/\Bl w0 w):=by
 refine enter func205 O 19 O O ?_;intro a hf;have g:=bz w0;refine ZS hf fun aE=>Zf (bt (zs:=[vi x.a,vi x.b,vi x.c,vi x.d]) O O) ?_;rintro _ w1 ⟨b2,rfl,aF,i,f⟩;have aK:=Q0 g.size aF;have g:=aa g i;refine Zf (Xi (zs:=[vi 0,vi 0,vi 0,vi 0]) nz O) ?_;rintro _ w2 ⟨b3,rfl,aG,i,e⟩;have aB:b2≠b3:=by have:=f.lt;omega
 have aA:=Q0 g.size aG;have f:=f.bw i;have g:=aa g i;refine Zx aE fun a hf _ aH=>Ze (Vn g9 f)<|Zf (Vc (CB _ x) Dp) ?_;rintro _ w3 ⟨rfl,i⟩;have ⟨f,e,g⟩:=bh i f e g;refine ZB [vi ((aw x).a),vi ((aw x).b),vi ((aw x).c),vi ((aw x).d)] nz lr fun b5 w5 aI i j=>?_;have aC:b2≠b5:=by have:=f.lt;omega
 have aD:b3≠b5:=by have:=e.lt;omega
 have aL:=Q0 g.size aI;have e:=e.bw i;have g:=aa g i;refine Zx aH fun a hf _ aJ=>Ze (Vd O lz 0)<|Ze (X0 O X8 (j.at 0))<|Ze (tM O O O)<|Ze (Vd O ly 1)<|Ze (X0 O X8 (j.at 1))<|Ze (tM O O O)<|Ze (Vd O lu 2)<|Ze (X0 O X8 (j.at 2))<|Ze (tM O O O)<|Ze (Vd O lw 3)<|Ze (X0 O X8 (j.at 3))<|Ze (tM O O O)<|Ze (Xg (ps:=[(0,vi (wr (((aw x).a).tdiv 2))),(1,vi (wr (((aw x).b).tdiv 2))),(2,vi (wr (((aw x).c).tdiv 2))),(3,vi (wr (((aw x).d).tdiv 2)))]) (cs:=[vi (wr (((aw x).a).tdiv 2)),vi (wr (((aw x).b).tdiv 2)),vi (wr (((aw x).c).tdiv 2)),vi (wr (((aw x).d).tdiv 2))]) O (fun _=>by first|rfl|kernel_rfl))<|Zo (Vw [vi (wr (((aw x).a).tdiv 2)),vi (wr (((aw x).b).tdiv 2)),vi (wr (((aw x).c).tdiv 2)),vi (wr (((aw x).d).tdiv 2))] lr e) ?_;intro _ w6 ⟨ho,hb⟩;have g:=Below.oy g ho aA;have e:=hb;refine Zt aJ fun a hf=>Q6 (X4 hf (Xu hf O (an.cellN (l:=[vi (wr (((aw x).a).tdiv 2)),vi (wr (((aw x).b).tdiv 2)),vi (wr (((aw x).c).tdiv 2)),vi (wr (((aw x).d).tdiv 2))]) O g9 (e.at 0) O)) ?_);exact ⟨O,g⟩
def y7(w0:World)(n:Int):RE 214 [vi n] w0 (fun v w=>v=.bool (bq n (-1000000000) 1000000000)/\w0=w):=by
 refine enter func214 O 5 O O ?_;intro a hf;have hW:=bz w0;refine ZS hf fun aA=>Za O<|Zx aA fun a hf _ aB=>Zm O<|Zf (Vc (qc _ n (-1000000000) 1000000000) pV) ?_;rintro _ _ ⟨rfl,rfl⟩;refine Za O<|Zt aB fun a hf=>Q6 (X4 hf (Xu hf O O) ?_);exact ⟨O,O⟩
def x'(w0:World)(x:Rg):RE 201 [.agg #[vi x.a,vi x.b,vi x.c,vi x.d]] w0 (fun v w=>v=.bool (fu x)/\Bl w0 w):=by
 refine enter func201 O 21 O O ?_;intro a i
 have hW:=bz w0
 refine ZS i fun aA=>Zf (bt (zs:=[vi x.a,vi x.b,vi x.c,vi x.d]) O O) ?_;rintro _ w1 ⟨b2,rfl,aB,hE,j⟩;have aD:=Q0 hW.size aB;have hW:=aa hW hE;refine Za O<|ZX aA fun a i _ aC=>eo (fun a w=>Fr a 21 [(2,.bool ((((bq x.a (-1000000000) 1000000000)&&(bq x.b (-1000000000) 1000000000))&&(bq x.c (-1000000000) 1000000000))&&(bq x.d (-1000000000) 1000000000)))]/\w1=w) ?_ ?_
 ·refine Zr i<|Ze (Vd O lz 0)<|Ze (X0 O X8 (j.at 0))<|Zf (Vc (y7 _ x.a) AH) ?_;rintro _ _ ⟨rfl,rfl⟩;refine Zm O<|Zg 6 O ?_ ?_<;>intro e
  ·refine Zv (gW e) (Vd O ly 1) ?_;refine Zv (gW e) (X0 O X8 (j.at 1)) ?_;refine Zk (gW e) (Vc (y7 _ x.b) AH) ?_;rintro _ _ ⟨rfl,rfl⟩;refine Ze (Xh O e O)<|Zm O<|Zg 11 O ?_ ?_<;>intro f
   ·refine Zv (gW f) (Vd O lu 2) ?_;refine Zv (gW f) (X0 O X8 (j.at 2)) ?_;refine Zk (gW f) (Vc (y7 _ x.c) AH) ?_;rintro _ _ ⟨rfl,rfl⟩;refine Ze (Xh O f O)<|Zm O<|Zg 16 O ?_ ?_<;>intro g
    ·refine Zv (gW g) (Vd O lw 3) ?_;refine Zv (gW g) (X0 O X8 (j.at 3)) ?_;refine Zk (gW g) (Vc (y7 _ x.d) AH) ?_;rintro _ _ ⟨rfl,rfl⟩;refine Ze (Xh O g O)<|Za O ?_;exact Zn fun a i=>⟨i.sub ⟨X1 O (by simp[e,f,g]),trivial⟩,O⟩
    (iterate 3 refine Zp (gP g) ?_);exact Ze (X9 O g O)<|Za O<|Zn fun a i=>⟨i.sub ⟨X1 O (by simp[e,f,g]),trivial⟩,O⟩
   (iterate 3 refine Zp (gP f) ?_);refine Ze (X9 O f O)<|Zm O<|Zp (gP O) ?_;(iterate 2 refine Zp (gP O) ?_);exact Ze (X9 O O O)<|Za O<|Zn fun a i=>⟨i.sub ⟨X1 O (by simp[e,f]),trivial⟩,O⟩
  (iterate 3 refine Zp (gP e) ?_);refine Ze (X9 O e O)<|Zm O<|Zp (gP O) ?_;(iterate 2 refine Zp (gP O) ?_);refine Ze (X9 O O O)<|Zm O<|Zp (gP O) ?_;(iterate 2 refine Zp (gP O) ?_);exact Ze (X9 O O O)<|Za O<|Zn fun a i=>⟨i.sub ⟨X1 O (by simp[e]),trivial⟩,O⟩
 rintro a _ ⟨i,rfl⟩;refine aC _ _<|Q6 (X4 i (Xu i O O) ?_)
 exact ⟨by simp[fu, *],hW⟩
def ux(w0:World)(k:Int):RE 111 [vi k] w0 (fun v w=>v=dV (ac k)/\Bl w0 w):=by
 refine enter func111 O 7 O O ?_;intro a hf;have f:=bz w0;refine ZS hf fun aB=>Zf (Xi (zs:=[vi 0,vi 0,vi 0,vi 0,vi 0]) iu O) ?_;rintro _ w1 ⟨b2,rfl,aC,hE,e⟩;have aA:=Q0 f.size aC;have f:=aa f hE;refine Zx aB fun a hf _ aD=>Ze (Xg (ps:=[(0,vi 1)]) (cs:=[vi 1,vi 0,vi 0,vi 0]) O (fun _=>by first|rfl|kernel_rfl))<|Zm O<|Zf (Vc (JI _ (⟨1,0,0,0⟩ : Rg) k) Fo) ?_;rintro _ w2 ⟨rfl,hE⟩;have e:=e.bw hE;have f:=aa f hE;refine Ze (Xg (ps:=[(0,.agg #[vi ((c_ (⟨1,0,0,0⟩ : Rg) k).a),vi ((c_ (⟨1,0,0,0⟩ : Rg) k).b),vi ((c_ (⟨1,0,0,0⟩ : Rg) k).c),vi ((c_ (⟨1,0,0,0⟩ : Rg) k).d)])]) (cs:=[vi ((c_ (⟨1,0,0,0⟩ : Rg) k).a),vi ((c_ (⟨1,0,0,0⟩ : Rg) k).b),vi ((c_ (⟨1,0,0,0⟩ : Rg) k).c),vi ((c_ (⟨1,0,0,0⟩ : Rg) k).d),vi 0]) O (fun _=>by first|rfl|kernel_rfl))<|Zo (Vw [vi ((c_ (⟨1,0,0,0⟩ : Rg) k).a),vi ((c_ (⟨1,0,0,0⟩ : Rg) k).b),vi ((c_ (⟨1,0,0,0⟩ : Rg) k).c),vi ((c_ (⟨1,0,0,0⟩ : Rg) k).d),vi 0] Xm e) ?_;intro _ w3 ⟨ho,hb⟩;have f:=Below.oy f ho aA;have e:=hb;refine Zt aD fun a hf=>Q6 (X4 hf (Xu hf O (an.cellN (l:=[vi ((c_ (⟨1,0,0,0⟩ : Rg) k).a),vi ((c_ (⟨1,0,0,0⟩ : Rg) k).b),vi ((c_ (⟨1,0,0,0⟩ : Rg) k).c),vi ((c_ (⟨1,0,0,0⟩ : Rg) k).d),vi 0]) O Xa (e.at 0) O)) ?_);exact ⟨O,f⟩
def M8(w0:World)(x:Dy):RE 206 [.agg #[vi x.num.a,vi x.num.b,vi x.num.c,vi x.num.d,vi x.exp]] w0 (fun v w=>v=dV (oU x)/\Bl w0 w):=by
 refine enter func206 O 9 O O ?_;intro a hf;have g:=bz w0;refine ZS hf fun aC=>Zf (bt (zs:=[vi x.num.a,vi x.num.b,vi x.num.c,vi x.num.d,vi x.exp]) O O) ?_;rintro _ w1 ⟨b2,rfl,aD,i,e⟩;have aG:=Q0 g.size aD;have g:=aa g i;refine Zf (Xi (zs:=[vi 0,vi 0,vi 0,vi 0,vi 0]) iu O) ?_;rintro _ w2 ⟨b3,rfl,aE,i,f⟩;have aB:b2≠b3:=by have:=e.lt;omega
 have aA:=Q0 g.size aE;have e:=e.bw i;have g:=aa g i;refine ZX aC fun a hf _ aF=>gx none (fun j=>[6].contains j) mixed ?_;intro w3 i;have ⟨e,f,g⟩:=bh i e f g;refine Yb hf<|Yo 0 O (fun _=>Vd O pG 0)<|Ye 1 O (Xt (l:=[vi x.num.a,vi x.num.b,vi x.num.c,vi x.num.d]) O g9 ((e.at 0).take 4) O)<|Yo 3 O (fun _=>Vd O oJ 4)<|Ye 4 O (X0 O X8 (e.at 4))<|Y1 2<|Yk O ad (Vc (PP _ x.num) U7) (fun _ _ ⟨_,i⟩=>i) ?_;rintro _ w4 ⟨rfl,i⟩;have f:=f.bw i;have g:=aa g i;refine Yo 5 O (fun _=>Xg (ps:=[(0,.agg #[vi ((mm x.num).a),vi ((mm x.num).b),vi ((mm x.num).c),vi ((mm x.num).d)]),(1,vi x.exp)]) (cs:=[vi ((mm x.num).a),vi ((mm x.num).b),vi ((mm x.num).c),vi ((mm x.num).d),vi x.exp]) O (fun _=>by first|rfl|kernel_rfl))<|Y1 6<|Yh O ad O (Vw [vi ((mm x.num).a),vi ((mm x.num).b),vi ((mm x.num).c),vi ((mm x.num).d),vi x.exp] Xm f) ?_;intro _ w5 ⟨ho,hb⟩;have g:=Below.oy g ho aA;have f:=hb;refine Yd fun a hf=>aF _ _<|Q6 (X4 hf (Xu hf O (an.cellN (l:=[vi ((mm x.num).a),vi ((mm x.num).b),vi ((mm x.num).c),vi ((mm x.num).d),vi x.exp]) O Xa (f.at 0) O)) ?_);exact ⟨O,g⟩
def vJ(w0:World)(b:Bool):RE 73 [.bool b] w0 (fun v w=>v=vi (if b=true then 1 else 0)/\w0=w):=by
 refine enter func73 O 4 O O ?_;intro a c;have hW:=bz w0;refine ZS c fun aA=>Za O<|ZX aA fun a c _ aB=>ZS c fun aC=>Zm O<|Zt aC fun a c=>Xz c O ?_ ?_<;>intro aD
 ·exact ZS c fun aE=>Za O<|Zt aE fun a c=>Q6<|X3<|X4 c (Xu c O O)<|⟨by simp[*],rfl⟩
 refine Q7<|aB _ _<|ZS c fun aF=>Za O<|Zt aF fun a c=>Q6 (X4 c (Xu c O O) ?_);exact ⟨by simp[*],rfl⟩
def vZ(w0:World)(n:Int):RE 122 [vi n] w0 (fun v w=>v=dV (⟨⟨n,0,0,0⟩,0⟩ : Dy)/\Bl w0 w):=by
 refine enter func122 O 6 O O ?_;intro a hf;have hW:=bz w0;refine ZS hf fun aC=>Zf (Xi (zs:=[vi 0,vi 0,vi 0,vi 0,vi 0]) iu O) ?_;rintro _ w1 ⟨b2,rfl,aD,hE,aA⟩;have aB:=Q0 hW.size aD;have hW:=aa hW hE;refine Zx aC fun a hf _ aE=>Zm O<|Ze (Xg (ps:=[(0,vi n)]) (cs:=[vi n,vi 0,vi 0,vi 0]) O (fun _=>by first|rfl|kernel_rfl))<|Ze (Xg (ps:=[(0,.agg #[vi n,vi 0,vi 0,vi 0])]) (cs:=[vi n,vi 0,vi 0,vi 0,vi 0]) O (fun _=>by first|rfl|kernel_rfl))<|Zo (Vw [vi n,vi 0,vi 0,vi 0,vi 0] Xm aA) ?_;intro _ w2 ⟨ho,hb⟩;have hW:=Below.oy hW ho aB;have aA:=hb;refine Zt aE fun a hf=>Q6 (X4 hf (Xu hf O (an.cellN (l:=[vi n,vi 0,vi 0,vi 0,vi 0]) O Xa (aA.at 0) O)) ?_);exact ⟨O,hW⟩
def vM(q:World)(x:Rg)(Al:Option Addr)(cl:Nat)(l:List Rg)(aE:Rw q 145 rk Al l)(hc:cl=l.length)(aY:l≠[])(bF:l.length<=1000):RE 210 [.agg #[vi x.a,vi x.b,vi x.c,vi x.d],.slice Al l.length cl] q (fun v w=>v=.tuple #[rV (be x l),.bool (fk x l)]/\Bl q w):=by
 refine enter func210 O 23 O O ?_;intro a j;have g:=bz q;refine ZS j fun aZ=>Zf (bt (zs:=[vi x.a,vi x.b,vi x.c,vi x.d]) O O) ?_;rintro _ w1 ⟨b3,rfl,b0,n,f⟩;have bC:=Q0 g.size b0;have g:=aa g n;refine Zf (Xi (zs:=[vi 0,vi 0,vi 0,vi 0]) nz O) ?_;rintro _ w2 ⟨b4,rfl,b1,n,e⟩;have aR:b3≠b4:=by have:=f.lt;omega
 have t:=Q0 g.size b1;have f:=f.bw n;have g:=aa g n;refine Za O<|ZX aZ fun a j _ b2=>ZS j fun b5=>Zm O<|Ze (Vn g9 f)<|Zf (X6 (k:=1) (vs:=[.agg #[vi x.a,vi x.b,vi x.c,vi x.d]]) (zs:=[vi x.a,vi x.b,vi x.c,vi x.d]) O sX ul O O) ?_;rintro _ w3 ⟨b7,rfl,b6,n,aA⟩;have aS:b3≠b7:=by have:=f.lt;omega
 have aT:b4≠b7:=by have:=e.lt;omega
 have bD:=Q0 g.size b6;have ⟨f,e,g⟩:=bh n f e g;refine Zf (T1 (enc:=rk) (l:=(l)) (l2:=([x])) O O sX ul H7 (aE.bx g) (Rd.of_blk aA O _ aA.lt) hc aY O6 (by simp only[maxLen];simp;omega) O5) ?_;rintro _ w4 ⟨A9,c9,rfl,i,n⟩;have i:=i.lower g.size;have ⟨f,e,g⟩:=bh n f e g;refine Ze (fh O sX)<|Zm O<|Zt b5 fun a j=>Q8 ?_;have bE:(l++[x]).length<=1001:=by simp;omega
 refine Xw (σ:=Nat) (fun (k:Nat) (a:Act) (w:World)=>Fr a 23 [(2,(ae b3)),(4,(ae b4)),(11,.slice A9 (l++([x])).length c9),(12,vi ((l++([x])).length:Int)),(13,vi (k:Int))]/\(k<=(l++[x]).length)/\(((l++[x]).take k).all fu=true)/\al w b3 145 [vi x.a,vi x.b,vi x.c,vi x.d]/\al w b4 145 [vi 0,vi 0,vi 0,vi 0]/\ah w q.heap.size 145 4 rk A9 c9 (l++([x]))/\Bl q w) (fun (k:Nat)=>(l++[x]).length+1-k) 0 ?_ ?_
 ·exact ⟨j.sb,(Qf _),O6,f,e,i,g⟩
 intro k a w5 ⟨j,hk,y,f,e,i,g⟩;refine ZS j fun aF=>Ze (ew O O)<|ZX aF fun a j _ aG=>eh j O (fun aB aH=>?_) (fun aB aH=>?_)
 ·have ⟨m,o⟩:=Xe (l:=(l++([x]))) (k:=k) O0;refine Q7<|aG _ _<|Q5 fun _ aI=>Q8<|ZS j fun aJ=>Zi (k:=k) (u:=m) (enc:=rk) (l:=l++([x])) ad O O sX lr H7 i.rd o O ?_;intro bG aC;refine Ze (Xt (l:=[vi m.a,vi m.b,vi m.c,vi m.d]) O g9 aC O)<|ZB [vi m.a,vi m.b,vi m.c,vi m.d] nz lr fun b18 w7 aK n aL=>?_;have aM:b3≠b18:=by have:=f.lt;omega
  have aN:b4≠b18:=by have:=e.lt;omega
  have b8:=Q0 g.size aK;have ⟨f,e,i,g⟩:=dk n f e i g;refine Zx aJ fun a j _ aO=>Ze (Vn g9 aL)<|Zf (Vc (x' _ m) xg) ?_;rintro _ w8 ⟨rfl,n⟩;have ⟨f,e,i,g⟩:=dk n f e i g;refine Ze (dn O)<|Zt aO fun a j=>Xz j O ?_ ?_<;>intro p
  ·have aD:fk x l=false:=JA o (by simpa using p);refine ZS j fun aP=>Ze (Xg (ps:=[]) (cs:=[vi 0,vi 0,vi 0,vi 0]) O (fun _=>by first|rfl|kernel_rfl))<|Zo (Vw [vi 0,vi 0,vi 0,vi 0] lr e) ?_;intro _ w9 ⟨ho,hb⟩;have g:=Below.oy g ho t;have e:=hb;exact Za O<|Zt aP fun a j=>Q6<|Xn<|X3<|X3<|Xn<|X3<|X4 j (dj j O (an.cellN (l:=[vi 0,vi 0,vi 0,vi 0]) O g9 (e.at 0) O) O)<|⟨by simp[be,aD],g⟩
  have b9:fu m=true:=by simpa using p
  exact Q7<|Xk<|aI _ _<|Zr j<|Ze (Xs O O O0 O0)<|Zm O<|Zn fun a j=>Xb<|⟨k+1,⟨j.sb,O0,(sa y o b9),f,e,i,g⟩,O0⟩
 refine Q9<|Xf<|Xf<|Xv<|b2 _ _<|ZS j fun aQ=>Ze (Vn g9 f)<|Zo (Vw [vi x.a,vi x.b,vi x.c,vi x.d] lr e) ?_;intro _ bH ⟨ho,hb⟩;have g:=Below.oy g ho t;have e:=hb;refine Za O<|Zt aQ fun a j=>Q6 (X4 j (dj j O (an.cellN (l:=[vi x.a,vi x.b,vi x.c,vi x.d]) O g9 (e.at 0) O) O) ?_);have aD:fk x l=true:=sF y O0;exact ⟨by simp[be,aD],g⟩
abbrev YH:=fun a b=>be (ir a b) ([a,b])
def L7(w0:World)(x:Rg)(y:Rg):RE 192 [.agg #[vi x.a,vi x.b,vi x.c,vi x.d],.agg #[vi y.a,vi y.b,vi y.c,vi y.d]] w0 (fun v w=>v=.tuple #[rV (be (ir x y) [x,y]),.bool (fk (ir x y) [x,y])]/\Bl w0 w):=by
 refine enter func192 O 105 O O ?_;intro a hf;have g:=bz w0;refine ZS hf fun aI=>Zf (bt (zs:=[vi x.a,vi x.b,vi x.c,vi x.d]) O O) ?_;rintro _ w1 ⟨b2,rfl,aJ,j,e⟩;have aO:=Q0 g.size aJ;have g:=aa g j;refine Zf (bt (zs:=[vi y.a,vi y.b,vi y.c,vi y.d]) O O) ?_;rintro _ w2 ⟨b3,rfl,aK,j,f⟩;have aC:b2≠b3:=by have:=e.lt;omega
 have aP:=Q0 g.size aK;have e:=e.bw j;have g:=aa g j;refine Zf (Xi (zs:=[vi 0,vi 0,vi 0,vi 0]) nz O) ?_;rintro _ w3 ⟨b4,rfl,aL,j,i⟩;have aD:b2≠b4:=by have:=e.lt;omega
 have aE:b3≠b4:=by have:=f.lt;omega
 have aA:=Q0 g.size aL;have ⟨e,f,g⟩:=bh j e f g;refine Za O<|Zx aI fun a hf _ aM=>Ze (Vd O lz 0)<|Ze (X0 O X8 (e.at 0))<|Ze (Vd O lz 0)<|Ze (X0 O X8 (f.at 0))<|Ze (mv O O)<|Ze (Vd O ly 1)<|Ze (X0 O X8 (e.at 1))<|Ze (Vd O lw 3)<|Ze (X0 O X8 (f.at 3))<|Ze (mv O O)<|Ze (pz O O)<|Ze (Vd O lu 2)<|Ze (X0 O X8 (e.at 2))<|Ze (Vd O lu 2)<|Ze (X0 O X8 (f.at 2))<|Ze (mv O O)<|Ze (pz O O)<|Ze (Vd O lw 3)<|Ze (X0 O X8 (e.at 3))<|Ze (Vd O ly 1)<|Ze (X0 O X8 (f.at 1))<|Ze (mv O O)<|Ze (pz O O)<|Ze (Vd O lz 0)<|Ze (X0 O X8 (e.at 0))<|Ze (Vd O ly 1)<|Ze (X0 O X8 (f.at 1))<|Ze (mv O O)<|Ze (Vd O ly 1)<|Ze (X0 O X8 (e.at 1))<|Ze (Vd O lz 0)<|Ze (X0 O X8 (f.at 0))<|Ze (mv O O)<|Ze (mu O O)<|Ze (Vd O lu 2)<|Ze (X0 O X8 (e.at 2))<|Ze (Vd O lw 3)<|Ze (X0 O X8 (f.at 3))<|Ze (mv O O)<|Ze (pz O O)<|Ze (Vd O lw 3)<|Ze (X0 O X8 (e.at 3))<|Ze (Vd O lu 2)<|Ze (X0 O X8 (f.at 2))<|Ze (mv O O)<|Ze (pz O O)<|Ze (Vd O lz 0)<|Ze (X0 O X8 (e.at 0))<|Ze (Vd O lu 2)<|Ze (X0 O X8 (f.at 2))<|Ze (mv O O)<|Ze (Vd O ly 1)<|Ze (X0 O X8 (e.at 1))<|Ze (Vd O ly 1)<|Ze (X0 O X8 (f.at 1))<|Ze (mv O O)<|Ze (mu O O)<|Ze (Vd O lu 2)<|Ze (X0 O X8 (e.at 2))<|Ze (Vd O lz 0)<|Ze (X0 O X8 (f.at 0))<|Ze (mv O O)<|Ze (mu O O)<|Ze (Vd O lw 3)<|Ze (X0 O X8 (e.at 3))<|Ze (Vd O lw 3)<|Ze (X0 O X8 (f.at 3))<|Ze (mv O O)<|Ze (pz O O)<|Ze (Vd O lz 0)<|Ze (X0 O X8 (e.at 0))<|Ze (Vd O lw 3)<|Ze (X0 O X8 (f.at 3))<|Ze (mv O O)<|Ze (Vd O ly 1)<|Ze (X0 O X8 (e.at 1))<|Ze (Vd O lu 2)<|Ze (X0 O X8 (f.at 2))<|Ze (mv O O)<|Ze (mu O O)<|Ze (Vd O lu 2)<|Ze (X0 O X8 (e.at 2))<|Ze (Vd O ly 1)<|Ze (X0 O X8 (f.at 1))<|Ze (mv O O)<|Ze (mu O O)<|Ze (Vd O lw 3)<|Ze (X0 O X8 (e.at 3))<|Ze (Vd O lz 0)<|Ze (X0 O X8 (f.at 0)) ?_;refine Ze (mv O O)<|Ze (mu O O)<|Ze (Xg (ps:=[(0,vi (ZY x y)),(1,vi (ZZ x y)),(2,vi (Yj x y)),(3,vi (Ym x y))]) (cs:=[vi (ZY x y),vi (ZZ x y),vi (Yj x y),vi (Ym x y)]) O (fun _=>by first|rfl|kernel_rfl))<|Ze (Vn g9 e)<|Ze (Vn g9 f)<|Zf (X6 (k:=2) (vs:=[.agg #[vi x.a,vi x.b,vi x.c,vi x.d],.agg #[vi y.a,vi y.b,vi y.c,vi y.d]]) (zs:=[vi x.a,vi x.b,vi x.c,vi x.d,vi y.a,vi y.b,vi y.c,vi y.d]) O sX ul O O) ?_;rintro _ w4 ⟨b6,rfl,aN,j,aB⟩;have aF:b2≠b6:=by have:=e.lt;omega
 have aG:b3≠b6:=by have:=f.lt;omega
 have aH:b4≠b6:=by have:=i.lt;omega
 have aQ:=Q0 g.size aN;have i:=i.bw j;have g:=aa g j;refine Zf (Vc (vM _ (ir x y) (some ⟨b6,0,none⟩) 2 ([x,y]) (Rd.of_blk aB O _ aB.lt) O O6 O6) vK) ?_;rintro _ w5 ⟨rfl,j⟩;have i:=i.bw j;have g:=aa g j;refine Ze (X2 (vs:=[.agg #[vi ((YH x y).a),vi ((YH x y).b),vi ((YH x y).c),vi ((YH x y).d)],.bool (fk (ir x y) ([x,y]))]) O O)<|Ze (X2 (vs:=[.agg #[vi ((YH x y).a),vi ((YH x y).b),vi ((YH x y).c),vi ((YH x y).d)],.bool (fk (ir x y) ([x,y]))]) O O)<|Zo (Vw [vi ((YH x y).a),vi ((YH x y).b),vi ((YH x y).c),vi ((YH x y).d)] lr i) ?_;intro _ w6 ⟨ho,hb⟩;have g:=Below.oy g ho aA;have i:=hb;refine Za O<|Zt aM fun a hf=>Q6 (X4 hf (dj hf O (an.cellN (l:=[vi ((YH x y).a),vi ((YH x y).b),vi ((YH x y).c),vi ((YH x y).d)]) O g9 (i.at 0) O) O) ?_);exact ⟨O,g⟩
abbrev YI:=fun a b=>be (ig a b) ([a,b])
def U1(w0:World)(x:Rg)(y:Rg):RE 195 [.agg #[vi x.a,vi x.b,vi x.c,vi x.d],.agg #[vi y.a,vi y.b,vi y.c,vi y.d]] w0 (fun v w=>v=.tuple #[rV (be (ig x y) [x,y]),.bool (fk (ig x y) [x,y])]/\Bl w0 w):=by
 refine enter func195 O 33 O O ?_;intro a hf;have g:=bz w0;refine ZS hf fun aI=>Zf (bt (zs:=[vi x.a,vi x.b,vi x.c,vi x.d]) O O) ?_;rintro _ w1 ⟨b2,rfl,aJ,j,e⟩;have aO:=Q0 g.size aJ;have g:=aa g j;refine Zf (bt (zs:=[vi y.a,vi y.b,vi y.c,vi y.d]) O O) ?_;rintro _ w2 ⟨b3,rfl,aK,j,f⟩;have aC:b2≠b3:=by have:=e.lt;omega
 have aP:=Q0 g.size aK;have e:=e.bw j;have g:=aa g j;refine Zf (Xi (zs:=[vi 0,vi 0,vi 0,vi 0]) nz O) ?_;rintro _ w3 ⟨b4,rfl,aL,j,i⟩;have aD:b2≠b4:=by have:=e.lt;omega
 have aE:b3≠b4:=by have:=f.lt;omega
 have aA:=Q0 g.size aL;have ⟨e,f,g⟩:=bh j e f g;refine Za O<|Zx aI fun a hf _ aM=>Ze (Vd O lz 0)<|Ze (X0 O X8 (e.at 0))<|Ze (Vd O lz 0)<|Ze (X0 O X8 (f.at 0))<|Ze (mu O O)<|Ze (Vd O ly 1)<|Ze (X0 O X8 (e.at 1))<|Ze (Vd O ly 1)<|Ze (X0 O X8 (f.at 1))<|Ze (mu O O)<|Ze (Vd O lu 2)<|Ze (X0 O X8 (e.at 2))<|Ze (Vd O lu 2)<|Ze (X0 O X8 (f.at 2))<|Ze (mu O O)<|Ze (Vd O lw 3)<|Ze (X0 O X8 (e.at 3))<|Ze (Vd O lw 3)<|Ze (X0 O X8 (f.at 3))<|Ze (mu O O)<|Ze (Xg (ps:=[(0,vi (wr (x.a+y.a))),(1,vi (wr (x.b+y.b))),(2,vi (wr (x.c+y.c))),(3,vi (wr (x.d+y.d)))]) (cs:=[vi (wr (x.a+y.a)),vi (wr (x.b+y.b)),vi (wr (x.c+y.c)),vi (wr (x.d+y.d))]) O (fun _=>by first|rfl|kernel_rfl))<|Ze (Vn g9 e)<|Ze (Vn g9 f)<|Zf (X6 (k:=2) (vs:=[.agg #[vi x.a,vi x.b,vi x.c,vi x.d],.agg #[vi y.a,vi y.b,vi y.c,vi y.d]]) (zs:=[vi x.a,vi x.b,vi x.c,vi x.d,vi y.a,vi y.b,vi y.c,vi y.d]) O sX ul O O) ?_;rintro _ w4 ⟨b6,rfl,aN,j,aB⟩;have aF:b2≠b6:=by have:=e.lt;omega
 have aG:b3≠b6:=by have:=f.lt;omega
 have aH:b4≠b6:=by have:=i.lt;omega
 have aQ:=Q0 g.size aN;have i:=i.bw j;have g:=aa g j;refine Zf (Vc (vM _ (ig x y) (some ⟨b6,0,none⟩) 2 ([x,y]) (Rd.of_blk aB O _ aB.lt) O O6 O6) vK) ?_;rintro _ w5 ⟨rfl,j⟩;have i:=i.bw j;have g:=aa g j;refine Ze (X2 (vs:=[.agg #[vi ((YI x y).a),vi ((YI x y).b),vi ((YI x y).c),vi ((YI x y).d)],.bool (fk (ig x y) ([x,y]))]) O O)<|Ze (X2 (vs:=[.agg #[vi ((YI x y).a),vi ((YI x y).b),vi ((YI x y).c),vi ((YI x y).d)],.bool (fk (ig x y) ([x,y]))]) O O)<|Zo (Vw [vi ((YI x y).a),vi ((YI x y).b),vi ((YI x y).c),vi ((YI x y).d)] lr i) ?_;intro _ w6 ⟨ho,hb⟩;have g:=Below.oy g ho aA;have i:=hb;refine Za O<|Zt aM fun a hf=>Q6 (X4 hf (dj hf O (an.cellN (l:=[vi ((YI x y).a),vi ((YI x y).b),vi ((YI x y).c),vi ((YI x y).d)]) O g9 (i.at 0) O) O) ?_);exact ⟨O,g⟩
abbrev YL:=fun a=>be (aw a) ([a])
def K6(w0:World)(x:Rg):RE 218 [.agg #[vi x.a,vi x.b,vi x.c,vi x.d]] w0 (fun v w=>v=.tuple #[rV (be (aw x) [x]),.bool (fk (aw x) [x])]/\Bl w0 w):=by
 refine enter func218 O 30 O O ?_;intro a hf;have g:=bz w0;refine ZS hf fun aF=>Zf (bt (zs:=[vi x.a,vi x.b,vi x.c,vi x.d]) O O) ?_;rintro _ w1 ⟨b2,rfl,aG,i,e⟩;have aK:=Q0 g.size aG;have g:=aa g i;refine Zf (Xi (zs:=[vi 0,vi 0,vi 0,vi 0]) nz O) ?_;rintro _ w2 ⟨b3,rfl,aH,i,f⟩;have aC:b2≠b3:=by have:=e.lt;omega
 have aA:=Q0 g.size aH;have e:=e.bw i;have g:=aa g i;refine Za O<|Zx aF fun a hf _ aI=>Ze (Vd O ly 1)<|Ze (X0 O X8 (e.at 1))<|Ze (Vd O lw 3)<|Ze (X0 O X8 (e.at 3))<|Ze (pz O O)<|Ze (Vd O lz 0)<|Ze (X0 O X8 (e.at 0))<|Ze (Vd O lu 2)<|Ze (X0 O X8 (e.at 2))<|Ze (mu O O)<|Ze (Vd O ly 1)<|Ze (X0 O X8 (e.at 1))<|Ze (Vd O lw 3)<|Ze (X0 O X8 (e.at 3))<|Ze (mu O O)<|Ze (Vd O lu 2)<|Ze (X0 O X8 (e.at 2))<|Ze (Vd O lz 0)<|Ze (X0 O X8 (e.at 0))<|Ze (pz O O)<|Ze (Xg (ps:=[(0,vi (wr (x.b-x.d))),(1,vi (wr (x.a+x.c))),(2,vi (wr (x.b+x.d))),(3,vi (wr (x.c-x.a)))]) (cs:=[vi (wr (x.b-x.d)),vi (wr (x.a+x.c)),vi (wr (x.b+x.d)),vi (wr (x.c-x.a))]) O (fun _=>by first|rfl|kernel_rfl))<|Ze (Vn g9 e)<|Zf (X6 (k:=1) (vs:=[.agg #[vi x.a,vi x.b,vi x.c,vi x.d]]) (zs:=[vi x.a,vi x.b,vi x.c,vi x.d]) O sX ul O O) ?_;rintro _ w3 ⟨b5,rfl,aJ,i,aB⟩;have aD:b2≠b5:=by have:=e.lt;omega
 have aE:b3≠b5:=by have:=f.lt;omega
 have aL:=Q0 g.size aJ;have f:=f.bw i;have g:=aa g i;refine Zf (Vc (vM _ (aw x) (some ⟨b5,0,none⟩) 1 ([x]) (Rd.of_blk aB O _ aB.lt) O O6 O6) vK) ?_;rintro _ w4 ⟨rfl,i⟩;have f:=f.bw i;have g:=aa g i;refine Ze (X2 (vs:=[.agg #[vi ((YL x).a),vi ((YL x).b),vi ((YL x).c),vi ((YL x).d)],.bool (fk (aw x) ([x]))]) O O)<|Ze (X2 (vs:=[.agg #[vi ((YL x).a),vi ((YL x).b),vi ((YL x).c),vi ((YL x).d)],.bool (fk (aw x) ([x]))]) O O)<|Zo (Vw [vi ((YL x).a),vi ((YL x).b),vi ((YL x).c),vi ((YL x).d)] lr f) ?_;intro _ w5 ⟨ho,hb⟩;have g:=Below.oy g ho aA;have f:=hb;refine Za O<|Zt aI fun a hf=>Q6 (X4 hf (dj hf O (an.cellN (l:=[vi ((YL x).a),vi ((YL x).b),vi ((YL x).c),vi ((YL x).d)]) O g9 (f.at 0) O) O) ?_);exact ⟨O,g⟩
def E3(w0:World)(x:Rg)(m:Int)(hm:m<=1000):RE 181 [.agg #[vi x.a,vi x.b,vi x.c,vi x.d],vi m] w0 (fun v w=>v=dV (ip x m)/\Bl w0 w):=by
 refine enter func181 O 18 O O ?_;intro a i;have k:=bz w0;refine ZS i fun aE=>Zf (bt (zs:=[vi x.a,vi x.b,vi x.c,vi x.d]) O O) ?_;rintro _ w1 ⟨b2,rfl,aF,n,e⟩;have aA:=Q0 k.size aF;have k:=aa k n;refine Zf (Xi (zs:=[vi 0,vi 0,vi 0,vi 0,vi 0]) iu O) ?_;rintro _ w2 ⟨b3,rfl,aG,n,f⟩;have aB:=Q0 k.size aG;have e:=e.bw n;have k:=aa k n;refine ZX aE fun a i _ aH=>Q8<|Xw (σ:=Rg×Int) (fun (s:Rg×Int) (a:Act) (w:World)=>match s with|(y,j)=>Fr a 18 [(1,vi j),(2,(ae b2)),(4,(ae b3))]/\(ip y j=ip x m)/\(j<=1000)/\al w b2 145 [vi y.a,vi y.b,vi y.c,vi y.d]/\al w b3 147 [vi 0,vi 0,vi 0,vi 0,vi 0]/\Bl w0 w) (fun (s:Rg×Int)=>match s with|(y,j)=>j.toNat) (x,m) ?_ ?_
 ·exact ⟨i.sb,O,hm,e,f,k⟩
 intro ⟨y,j⟩ a w3 ⟨i,q,aN,e,f,k⟩;refine Q5 fun _ aI=>Q5 fun _ aJ=>eo (fun a w=>Fr a 18 [(1,vi j),(2,(ae b2)),(4,(ae b3)),(10,.bool ((decide (0<j))&&(ei y)))]/\Bl w3 w) ?_ ?_
 ·have p:Bl w3 w3:=Below.refl _ _;refine Zr i<|Zm O<|Ze (oo O O)<|Zm O<|Zg 7 O ?_ ?_<;>intro g
  ·refine Zv (gW g) (Vn g9 e) ?_;refine Zk (gW g) (Vc (ID _ y) HS) ?_;rintro _ w4 ⟨rfl,n⟩;have k:=aa k n;have p:=aa p n;exact Ze (Xh O g O)<|Zn fun a i=>⟨i.sub ⟨O,O,O,X1 O (by simp[g]),trivial⟩,p⟩
  (iterate 2 refine Zp (gP g) ?_);exact Ze (X9 O g O)<|Zn fun a i=>⟨i.sub ⟨O,O,O,X1 O (by simp[g]),trivial⟩,p⟩
 intro a w5 ⟨i,n⟩;have ⟨e,f,k⟩:=bh n e f k;refine aJ _ _<|Xz i O ?_ ?_<;>intro o
 ·have aC:=o;have aO:0<j:=by revert o;simp;omega
  have aK:ei y=true:=by revert o;cases ei y<;>simp
  refine Q7<|aI _ _<|Q8<|ZS i fun aL=>Ze (Vn g9 e)<|Zf (Vc (U9 _ y) Kt) ?_;rintro _ w6 ⟨rfl,n⟩;have ⟨e,f,k⟩:=bh n e f k;refine Zo (Vw [vi ((iy y).a),vi ((iy y).b),vi ((iy y).c),vi ((iy y).d)] lr e) ?_;intro _ w7 ⟨ho,hb⟩;have f:=f.oz ho e O;have k:=Below.oy k ho aA;have e:=hb;exact Zt aL fun a i=>Zr i<|Zm O<|Ze (ld O O O0 O0)<|Za O<|Zn fun a i=>Xk<|Xb<|⟨(iy y,j-1),⟨i.sb,(by rw[<- q];exact (wR O0 aK).symm),O0,e,f,k⟩,O3⟩
 have aC:=o;have aM:ip y j=⟨y,j⟩:=td (by intro h0;revert o;simp[h0]);refine Q9<|Xf<|Xf<|Xv<|aH _ _<|ZS i fun aD=>Ze (Vn g9 e)<|Zm O<|Ze (Xg (ps:=[(0,.agg #[vi y.a,vi y.b,vi y.c,vi y.d]),(1,vi j)]) (cs:=[vi y.a,vi y.b,vi y.c,vi y.d,vi j]) O (fun _=>by first|rfl|kernel_rfl))<|Zo (Vw [vi y.a,vi y.b,vi y.c,vi y.d,vi j] Xm f) ?_;intro _ w8 ⟨ho,hb⟩;have k:=Below.oy k ho aB;have f:=hb;refine Zt aD fun a i=>Q6 (X4 i (Xu i O (an.cellN (l:=[vi y.a,vi y.b,vi y.c,vi y.d,vi j]) O Xa (f.at 0) O)) ?_);refine ⟨?_,k⟩;rw[<- q,aM]
abbrev YM:=fun a=>be (iy a) ([a])
def NC(w0:World)(x:Rg):RE 211 [.agg #[vi x.a,vi x.b,vi x.c,vi x.d]] w0 (fun v w=>v=.tuple #[rV (kh x),.bool (oQ x)]/\Bl w0 w):=by
 refine enter func211 O 43 O O ?_;intro a m
 have i:=bz w0
 refine ZS m fun aF=>Zf (bt (zs:=[vi x.a,vi x.b,vi x.c,vi x.d]) O O) ?_;rintro _ w1 ⟨b2,rfl,aG,j,e⟩;have aO:=Q0 i.size aG;have i:=aa i j;refine Zf (Xi (zs:=[vi 0,vi 0,vi 0,vi 0]) nz O) ?_;rintro _ w2 ⟨b3,rfl,aH,j,f⟩
 have aE:b2≠b3:=by have:=e.lt;omega
 have p:=Q0 i.size aH;have e:=e.bw j;have i:=aa i j;refine Za O<|ZX aF fun a m _ aI=>Q5 fun _ aJ=>eo (fun a w=>Fr a 43 [(1,(ae b2)),(2,(ae b3)),(11,.bool ((!(fu x))||(!(ei x))))]/\Bl w2 w) ?_ ?_
 ·have n:Bl w2 w2:=Below.refl _ _
  refine Zr m<|Ze (Vn g9 e)<|Zf (Vc (x' _ x) xg) ?_;rintro _ w3 ⟨rfl,j⟩;have ⟨e,i,n⟩:=bh j e i n;refine Ze (dn O)<|Zm O<|Zg 7 O ?_ ?_<;>intro g
  ·(iterate 3 refine Zp (gP g) ?_);exact Ze (Xh O g O)<|Zn fun a m=>⟨m.sub ⟨O,O,X1 O (by simp[g]),trivial⟩,n⟩
  refine Zv (gW g) (Vn g9 e) ?_;refine Zk (gW g) (Vc (CK _ x) DI) ?_;rintro _ w4 ⟨rfl,j⟩;have i:=aa i j;have n:=aa n j;refine Zv (gW g) (dn O) ?_;refine Ze (X9 O g O) ?_;exact Zn fun a m=>⟨m.sub ⟨O,O,X1 O (by first|rfl|(simp only[g,bs];done)|simp[g]),trivial⟩,n⟩
 rintro a w5 ⟨m,j⟩;have ⟨e,f,i⟩:=bh j e f i;refine aJ _ _<|Xz m O ?_ ?_<;>intro o
 ·have aA:=o
  have hn:oQ x=false:=by unfold oQ;revert o;cases fu x<;>cases ei x<;>simp
  refine ZS m fun aK=>Ze (Xg (ps:=[]) (cs:=[vi 0,vi 0,vi 0,vi 0]) O (fun _=>by first|rfl|kernel_rfl))<|Zo (Vw [vi 0,vi 0,vi 0,vi 0] lr f) ?_;rintro _ w6 ⟨ho,hb⟩;have i:=Below.oy i ho p;have f:=hb;exact Za O<|Zt aK fun a m=>Q6<|X3<|X4 m (dj m O (an.cellN (l:=[vi 0,vi 0,vi 0,vi 0]) O g9 (f.at 0) O) O)<|⟨by simp[kh,hn],i⟩
 have aA:=o
 have hy:(fu x&&ei x)=true:=by revert o;cases fu x<;>cases ei x<;>simp
 have aL:fu x=true:=by revert hy;cases fu x<;>simp
 refine Q7<|aI _ _<|ZS m fun aM=>Ze (Vd O ly 1)<|Ze (X0 O X8 (e.at 1))<|Ze (Vd O lw 3)<|Ze (X0 O X8 (e.at 3))<|Ze (pz O O)<|Ze (tM O O O)<|Ze (Vd O lz 0)<|Ze (X0 O X8 (e.at 0))<|Ze (Vd O lu 2)<|Ze (X0 O X8 (e.at 2))<|Ze (mu O O)<|Ze (tM O O O)<|Ze (Vd O ly 1)<|Ze (X0 O X8 (e.at 1))<|Ze (Vd O lw 3)<|Ze (X0 O X8 (e.at 3))<|Ze (mu O O)<|Ze (tM O O O)<|Ze (Vd O lu 2)<|Ze (X0 O X8 (e.at 2))<|Ze (Vd O lz 0)<|Ze (X0 O X8 (e.at 0))<|Ze (pz O O)<|Ze (tM O O O)<|Ze (Xg (ps:=[(0,vi (wr ((wr (x.b-x.d)).tdiv 2))),(1,vi (wr ((wr (x.a+x.c)).tdiv 2))),(2,vi (wr ((wr (x.b+x.d)).tdiv 2))),(3,vi (wr ((wr (x.c-x.a)).tdiv 2)))]) (cs:=[vi (wr ((wr (x.b-x.d)).tdiv 2)),vi (wr ((wr (x.a+x.c)).tdiv 2)),vi (wr ((wr (x.b+x.d)).tdiv 2)),vi (wr ((wr (x.c-x.a)).tdiv 2))]) O (fun _=>by first|rfl|kernel_rfl))<|Ze (Vn g9 e)<|Zf (X6 (k:=1) (vs:=[.agg #[vi x.a,vi x.b,vi x.c,vi x.d]]) (zs:=[vi x.a,vi x.b,vi x.c,vi x.d]) O sX ul O O) ?_;rintro _ w7 ⟨b10,rfl,aB,j,q⟩
 have aC:b2≠b10:=by have:=e.lt;omega
 have aD:b3≠b10:=by have:=f.lt;omega
 have aN:=Q0 i.size aB;have f:=f.bw j;have i:=aa i j;refine Zf (Vc (vM _ (iy x) (some ⟨b10,0,none⟩) 1 ([x]) (Rd.of_blk q O _ q.lt) O O6 O6) vK) ?_;rintro _ w8 ⟨rfl,j⟩;have f:=f.bw j;have i:=aa i j;refine Ze (X2 (vs:=[.agg #[vi ((YM x).a),vi ((YM x).b),vi ((YM x).c),vi ((YM x).d)],.bool (fk (iy x) ([x]))]) O O)<|Ze (X2 (vs:=[.agg #[vi ((YM x).a),vi ((YM x).b),vi ((YM x).c),vi ((YM x).d)],.bool (fk (iy x) ([x]))]) O O)<|Zo (Vw [vi ((YM x).a),vi ((YM x).b),vi ((YM x).c),vi ((YM x).d)] lr f) ?_;rintro _ w9 ⟨ho,hb⟩;have i:=Below.oy i ho p;have f:=hb;refine Za O<|Zt aM fun a m=>Q6 (X4 m (dj m O (an.cellN (l:=[vi ((YM x).a),vi ((YM x).b),vi ((YM x).c),vi ((YM x).d)]) O g9 (f.at 0) O) O) ?_)
 refine ⟨?_,i⟩
 have hd:oQ x=true:=hy
 have h2:=Lx aL
 show Value.tuple #[rV (be (iy x) [x]),.bool (fk (iy x) [x])]=_
 rw[be,h2,kh,hd]
def RW(w0:World)(x:Rg)(k:Int):RE 176 [.agg #[vi x.a,vi x.b,vi x.c,vi x.d],vi k] w0 (fun v w=>v=.tuple #[rV (dy x k),.bool (lh x k)]/\Bl w0 w):=by
 refine enter func176 O 33 O O ?_;intro a f
 have n:=bz w0
 refine ZS f fun aJ=>Zf (bt (zs:=[vi x.a,vi x.b,vi x.c,vi x.d]) O O) ?_;rintro _ w1 ⟨b2,rfl,aK,o,e⟩;have aB:=Q0 n.size aK;have n:=aa n o;refine Zf (Xi (zs:=[vi 0,vi 0,vi 0,vi 0]) nz O) ?_;rintro _ w2 ⟨b3,rfl,aL,o,g⟩
 have aI:b2≠b3:=by have:=e.lt;omega
 have z:=Q0 n.size aL;have e:=e.bw o;have n:=aa n o;refine Za O<|ZX aJ fun a f _ aM=>Q5 fun _ aN=>eo (fun a w=>Fr a 33 [(1,vi k),(2,(ae b2)),(4,(ae b3)),(13,.bool ((!(bq k (-1000) 1000))||(!(fu x))))]/\Bl w2 w) ?_ ?_
 ·have u:Bl w2 w2:=Below.refl _ _
  refine Zr f<|Zm O<|Zf (Vc (qc _ k (-1000) 1000) pV) ?_;rintro _ _ ⟨rfl,rfl⟩;refine Ze (dn O)<|Zm O<|Zg 9 O ?_ ?_<;>intro i
  ·(iterate 3 refine Zp (gP i) ?_);exact Ze (Xh O i O)<|Zn fun a f=>⟨f.sub ⟨O,O,O,X1 O (by simp[i]),trivial⟩,u⟩
  refine Zv (gW i) (Vn g9 e) ?_;refine Zk (gW i) (Vc (x' _ x) xg) ?_;rintro _ w3 ⟨rfl,o⟩;have n:=aa n o;have u:=aa u o;refine Zv (gW i) (dn O) ?_;refine Ze (X9 O i O) ?_;exact Zn fun a f=>⟨f.sub ⟨O,O,O,X1 O (by first|rfl|(simp only[i,bs];done)|simp[i]),trivial⟩,u⟩
 rintro a w4 ⟨f,o⟩;have ⟨e,g,n⟩:=bh o e g n;refine aN _ _<|Xz f O ?_ ?_<;>intro p
 ·have aC:=p
  have hn:lh x k=false:=by unfold lh;revert p;cases bq k (-1000) 1000<;>cases fu x<;>simp
  refine ZS f fun aO=>Ze (Xg (ps:=[]) (cs:=[vi 0,vi 0,vi 0,vi 0]) O (fun _=>by first|rfl|kernel_rfl))<|Zo (Vw [vi 0,vi 0,vi 0,vi 0] lr g) ?_;rintro _ w5 ⟨ho,hb⟩;have n:=Below.oy n ho z;have g:=hb;exact Za O<|Zt aO fun a f=>Q6<|X3<|X4 f (dj f O (an.cellN (l:=[vi 0,vi 0,vi 0,vi 0]) O g9 (g.at 0) O) O)<|⟨by simp[dy,hn],n⟩
 have aC:=p
 have hy:lh x k=true:=by unfold lh;revert p;cases bq k (-1000) 1000<;>cases fu x<;>simp
 refine Q7<|aM _ _<|Q5 fun _ aP=>ZS f fun aD=>Zm O<|Ze (sE O O O)<|Ze (mu O O)<|Ze (sE O O O)<|Zm O<|Zt aD fun a f=>Q8 ?_
 have hj:jb k=((jb k).toNat:Int):=by have:=zt k;omega
 have aQ:=(zt k).2;refine Xw (σ:=Rg×Nat) (fun (s:Rg×Nat) (a:Act) (w:World)=>match s with|(y,j)=>Fr a 33 [(2,(ae b2)),(4,(ae b3)),(18,vi ((wr ((k.tmod 8)+8)).tmod 8)),(19,vi (j:Int))]/\(gz ((jb k).toNat-j) y=c_ x k)/\(j<=(jb k).toNat)/\al w b2 145 [vi y.a,vi y.b,vi y.c,vi y.d]/\al w b3 145 [vi 0,vi 0,vi 0,vi 0]/\Bl w0 w) (fun (s:Rg×Nat)=>match s with|(y,j)=>(jb k).toNat-j) (x,0) ?_ ?_
 ·exact ⟨f.sb,O,(Qf _),e,g,n⟩
 rintro ⟨y,j⟩ a w6 ⟨f,q,aQ,e,g,n⟩;refine ZS f fun aE=>Ze (ew O O)<|ZX aE fun a f _ aF=>eh f O (fun aA t=>?_) (fun aA t=>?_)
 ·have aR:(j:Int)<jb k:=t
  refine Q7<|aF _ _<|Q5 fun _ aG=>Q8<|Zr f<|Ze (Vd O lw 3)<|Ze (X0 O X8 (e.at 3))<|Ze (rQ O)<|Ze (Vd O lz 0)<|Ze (X0 O X8 (e.at 0))<|Ze (Vd O ly 1)<|Ze (X0 O X8 (e.at 1))<|Ze (Vd O lu 2)<|Ze (X0 O X8 (e.at 2))<|Ze (Xg (ps:=[(0,vi (wr (-y.d))),(1,vi y.a),(2,vi y.b),(3,vi y.c)]) (cs:=[vi (wr (-y.d)),vi y.a,vi y.b,vi y.c]) O (fun _=>by first|rfl|kernel_rfl))<|Zo (Vw [vi (wr (-y.d)),vi y.a,vi y.b,vi y.c] lr e) ?_;rintro _ w7 ⟨ho,hb⟩;have g:=g.oy ho O0;have n:=Below.oy n ho aB;have e:=hb;exact Zn fun a f=>Xk<|aG _ _<|Zr f<|Ze (Xs O O O0 O0)<|Zm O<|Zn fun a f=>Xb<|⟨(qG y,j+1),⟨f.sb,(by rw[<- q];obtain ⟨m,hm⟩ : ∃ m,(jb k).toNat-j=m+1:=⟨(jb k).toNat-j-1,by omega⟩;rw[hm,show (jb k).toNat-(j+1)=m from by omega];rfl),O0,e,g,n⟩,O3⟩
 have aR:¬ (j:Int)<jb k:=t
 refine Q9<|Xf<|Xf<|Xv<|aP _ _<|ZS f fun aH=>Ze (Vn g9 e)<|Zo (Vw [vi y.a,vi y.b,vi y.c,vi y.d] lr g) ?_;rintro _ w8 ⟨ho,hb⟩;have n:=Below.oy n ho z;have g:=hb;refine Za O<|Zt aH fun a f=>Q6 (X4 f (dj f O (an.cellN (l:=[vi y.a,vi y.b,vi y.c,vi y.d]) O g9 (g.at 0) O) O) ?_)
 have aS:(jb k).toNat-j=0:=by omega
 rw[aS] at q
 refine ⟨?_,n⟩
 rw[dy,hy,Q4 O,<- q];rfl
def tS(w0:World)(k:Int)(hk:bq k (-1000) 1000=true):RE 136 [vi k] w0 (fun v w=>v=dV (ac k)/\Bl w0 w):=by
 refine enter func136 O 13 O O ?_;intro a hf;have f:=bz w0;refine ZS hf fun aB=>Zf (Xi (zs:=[vi 0,vi 0,vi 0,vi 0,vi 0]) iu O) ?_;rintro _ w1 ⟨b2,rfl,aC,hE,e⟩;have aA:=Q0 f.size aC;have f:=aa f hE;refine Zx aB fun a hf _ aD=>Ze (Xg (ps:=[(0,vi 1)]) (cs:=[vi 1,vi 0,vi 0,vi 0]) O (fun _=>by first|rfl|kernel_rfl))<|Zm O<|Zf (Vc (RW _ (⟨1,0,0,0⟩ : Rg) k) SK) ?_;rintro _ w2 ⟨rfl,hE⟩;have e:=e.bw hE;have f:=aa f hE;refine Zm O<|Ze (X2 (vs:=[.agg #[vi ((dy (⟨1,0,0,0⟩ : Rg) k).a),vi ((dy (⟨1,0,0,0⟩ : Rg) k).b),vi ((dy (⟨1,0,0,0⟩ : Rg) k).c),vi ((dy (⟨1,0,0,0⟩ : Rg) k).d)],.bool (lh (⟨1,0,0,0⟩ : Rg) k)]) O O)<|Ze (X2 (vs:=[.agg #[vi ((dy (⟨1,0,0,0⟩ : Rg) k).a),vi ((dy (⟨1,0,0,0⟩ : Rg) k).b),vi ((dy (⟨1,0,0,0⟩ : Rg) k).c),vi ((dy (⟨1,0,0,0⟩ : Rg) k).d)],.bool (lh (⟨1,0,0,0⟩ : Rg) k)]) O O)<|ZB [vi ((dy (⟨1,0,0,0⟩ : Rg) k).a),vi ((dy (⟨1,0,0,0⟩ : Rg) k).b),vi ((dy (⟨1,0,0,0⟩ : Rg) k).c),vi ((dy (⟨1,0,0,0⟩ : Rg) k).d)] nz lr fun b4 w4 aE hE aF=>?_;have aH:=Q0 f.size aE;have e:=e.bw hE;have f:=aa f hE;refine Za O<|Zx aD fun a hf _ aG=>Ze (Vn g9 aF)<|Ze (Xg (ps:=[(0,.agg #[vi ((dy (⟨1,0,0,0⟩ : Rg) k).a),vi ((dy (⟨1,0,0,0⟩ : Rg) k).b),vi ((dy (⟨1,0,0,0⟩ : Rg) k).c),vi ((dy (⟨1,0,0,0⟩ : Rg) k).d)])]) (cs:=[vi ((dy (⟨1,0,0,0⟩ : Rg) k).a),vi ((dy (⟨1,0,0,0⟩ : Rg) k).b),vi ((dy (⟨1,0,0,0⟩ : Rg) k).c),vi ((dy (⟨1,0,0,0⟩ : Rg) k).d),vi 0]) O (fun _=>by first|rfl|kernel_rfl))<|Zo (Vw [vi ((dy (⟨1,0,0,0⟩ : Rg) k).a),vi ((dy (⟨1,0,0,0⟩ : Rg) k).b),vi ((dy (⟨1,0,0,0⟩ : Rg) k).c),vi ((dy (⟨1,0,0,0⟩ : Rg) k).d),vi 0] Xm e) ?_;intro _ w5 ⟨ho,hb⟩;have f:=Below.oy f ho aA;have e:=hb;refine Zt aG fun a hf=>Q6 (X4 hf (Xu hf O (an.cellN (l:=[vi ((dy (⟨1,0,0,0⟩ : Rg) k).a),vi ((dy (⟨1,0,0,0⟩ : Rg) k).b),vi ((dy (⟨1,0,0,0⟩ : Rg) k).c),vi ((dy (⟨1,0,0,0⟩ : Rg) k).d),vi 0]) O Xa (e.at 0) O)) ?_);refine ⟨?_,f⟩;have h2:lh ⟨1,0,0,0⟩ k=true:=by simp only[lh,hk,Qw];rfl
 rw[dy,h2];rfl
theorem tg(w0:World)(x:Dy):RE 174 [.agg #[vi x.num.a,vi x.num.b,vi x.num.c,vi x.num.d,vi x.exp]] w0 (fun v w=>v=.bool (dt x)/\Bl w0 w):=by
 refine enter func174 O 22 O O ?_;intro a j;have m:=bz w0;refine ZS j fun aA=>Zf (bt (zs:=[vi x.num.a,vi x.num.b,vi x.num.c,vi x.num.d,vi x.exp]) O O) ?_;rintro _ w1 ⟨b2,rfl,aB,n,k⟩;have aD:=Q0 m.size aB;have m:=aa m n;refine Za O<|ZX aA fun a j _ aC=>eo (fun a w=>Fr a 22 [(2,.bool (((fu x.num)&&(bq x.exp 0 60))&&((x.exp==0)||(!(ei x.num)))))]/\Bl w1 w) ?_ ?_
 ·have i:Bl w1 w1:=Below.refl _ _;refine Zr j<|Ze (Vd O pG 0)<|Ze (Xt (l:=[vi x.num.a,vi x.num.b,vi x.num.c,vi x.num.d]) O g9 ((k.at 0).take 4) O)<|Zf (Vc (x' _ x.num) xg) ?_;rintro _ w2 ⟨rfl,n⟩;have ⟨k,m,i⟩:=bh n k m i;refine Zm O<|Zg 6 O ?_ ?_<;>intro f
  ·refine Zv (gW f) (Vd O oJ 4) ?_;refine Zv (gW f) (X0 O X8 (k.at 4)) ?_;refine Zk (gW f) (Vc (qc _ x.exp 0 60) pV) ?_;rintro _ _ ⟨rfl,rfl⟩;refine Ze (Xh O f O)<|Zm O<|Zg 11 O ?_ ?_<;>intro e
   ·refine Zv (gW e) (Vd O oJ 4) ?_;refine Zv (gW e) (X0 O X8 (k.at 4)) ?_;refine Zv (gW e) (go O O) ?_;refine Zv (gW e) (X7 O)<|Zg 15 O ?_ ?_<;>intro g
    ·(iterate 4 refine Zp (gP g) ?_);refine Zv (gW e) (Xh O g O)<|Ze (Xh O e O)<|Za O<|Zn fun a j=>?_;exact ⟨j.sub ⟨X1 O (by simp[f,e,g]),trivial⟩,i⟩
    refine Zv (gW g) (Vd O pG 0) ?_;refine Zv (gW g) (Xt (l:=[vi x.num.a,vi x.num.b,vi x.num.c,vi x.num.d]) O g9 ((k.at 0).take 4) O) ?_;refine Zk (gW g) (Vc (CK _ x.num) DI) ?_;rintro _ w3 ⟨rfl,n⟩;have m:=aa m n;have i:=aa i n;refine Zv (gW g) (dn O) ?_;refine Zv (gW e) (X9 O g O)<|Ze (Xh O e O)<|Za O<|Zn fun a j=>?_;exact ⟨j.sub ⟨X1 O (by simp[f,e,g]),trivial⟩,i⟩
   (iterate 4 refine Zp (gP e) ?_);(iterate 4 refine Zp (gP ad) ?_);exact Zp (gP e)<|Ze (X9 O e O)<|Za O<|Zn fun a j=>⟨j.sub ⟨X1 O (by simp[f,e]),trivial⟩,i⟩
  (iterate 3 refine Zp (gP f) ?_);refine Ze (X9 O f O)<|Zm O<|Zp (gP O) ?_;(iterate 3 refine Zp (gP O) ?_);(iterate 4 refine Zp (gP ad) ?_);exact Zp (gP O)<|Ze (X9 O O O)<|Za O<|Zn fun a j=>⟨j.sub ⟨X1 O (by simp[f]),trivial⟩,i⟩
 intro a w4 ⟨j,n⟩;have m:=aa m n;refine aC _ _<|Q6 (X4 j (Xu j O O) ?_);exact ⟨by simp[dt, *],m⟩
def Dd(w0:World)(x:Rg)(m:Int):RE 193 [.agg #[vi x.a,vi x.b,vi x.c,vi x.d],vi m] w0 (fun v w=>v=.tuple #[dV ((oL x m).getD dZ),.bool ((oL x m).isSome)]/\Bl w0 w):=by
 refine enter func193 O 31 O O ?_;intro a i
 have k:=bz w0
 refine ZS i fun aJ=>Zf (bt (zs:=[vi x.a,vi x.b,vi x.c,vi x.d]) O O) ?_;rintro _ w1 ⟨b2,rfl,aK,o,e⟩;have aB:=Q0 k.size aK;have k:=aa k o;refine Zf (Xi (zs:=[vi 0,vi 0,vi 0,vi 0,vi 0]) iu O) ?_;rintro _ w2 ⟨b3,rfl,aL,o,f⟩;have z:=Q0 k.size aL;have e:=e.bw o;have k:=aa k o;refine Za O<|ZX aJ fun a i _ aM=>Q5 fun _ aN=>eo (fun a w=>Fr a 31 [(1,vi m),(2,(ae b2)),(4,(ae b3)),(13,.bool ((!(fu x))||(!(bq m 0 60))))]/\Bl w2 w) ?_ ?_
 ·have q:Bl w2 w2:=Below.refl _ _
  refine Zr i<|Ze (Vn g9 e)<|Zf (Vc (x' _ x) xg) ?_;rintro _ w3 ⟨rfl,o⟩;have k:=aa k o;have q:=aa q o;refine Ze (dn O)<|Zm O<|Zg 9 O ?_ ?_<;>intro n
  ·(iterate 3 refine Zp (gP n) ?_);exact Ze (Xh O n O)<|Zn fun a i=>⟨i.sub ⟨O,O,O,X1 O (by simp[n]),trivial⟩,q⟩
  refine Zv (gW n) (X7 O) ?_;refine Zk (gW n) (Vc (qc _ m 0 60) pV) ?_;rintro _ _ ⟨rfl,rfl⟩;refine Zv (gW n) (dn O) ?_;refine Ze (X9 O n O) ?_;exact Zn fun a i=>⟨i.sub ⟨O,O,O,X1 O (by first|rfl|(simp only[n,bs];done)|simp[n]),trivial⟩,q⟩
 rintro a w4 ⟨i,o⟩;have ⟨e,f,k⟩:=bh o e f k;refine aN _ _<|Xz i O ?_ ?_<;>intro u
 ·have t:=u
  have hn:(fu x&&bq m 0 60)=false:=by revert u;cases fu x<;>cases bq m 0 60<;>simp
  refine ZS i fun aO=>Ze (Xg (ps:=[]) (cs:=[vi 0,vi 0,vi 0,vi 0,vi 0]) O (fun _=>by first|rfl|kernel_rfl))<|Zo (Vw [vi 0,vi 0,vi 0,vi 0,vi 0] Xm f) ?_;rintro _ w5 ⟨ho,hb⟩;have k:=Below.oy k ho z;have f:=hb;exact Za O<|Zt aO fun a i=>Q6<|X3<|X4 i (dj i O (an.cellN (l:=[vi 0,vi 0,vi 0,vi 0,vi 0]) O Xa (f.at 0) O) O)<|⟨by simp[oL,hn,dZ],k⟩
 have t:=u
 have hy:(fu x&&bq m 0 60)=true:=by revert u;cases fu x<;>cases bq m 0 60<;>simp
 have aC:=(Qd _ _▸hy:fu x=true/\bq m 0 60=true);have hm:=iw.1 aC.2;refine Q7<|aM _ _<|Q5 fun _ aP=>Q8<|Xw (σ:=Rg×Int) (fun (s:Rg×Int) (a:Act) (w:World)=>match s with|(y,j)=>Fr a 31 [(1,vi j),(2,(ae b2)),(4,(ae b3))]/\(ip y j=ip x m)/\(fu y=true)/\(j<=60)/\al w b2 145 [vi y.a,vi y.b,vi y.c,vi y.d]/\al w b3 147 [vi 0,vi 0,vi 0,vi 0,vi 0]/\Bl w0 w) (fun (s:Rg×Int)=>match s with|(y,j)=>j.toNat) (x,m) ?_ ?_
 ·exact ⟨i.sb,O,aC.1,hm.2,e,f,k⟩
 rintro ⟨y,j⟩ a w6 ⟨i,h,aD,aR,e,f,k⟩;refine Q5 fun _ aE=>Q5 fun _ aF=>eo (fun a w=>Fr a 31 [(1,vi j),(2,(ae b2)),(4,(ae b3)),(20,.bool ((decide (0<j))&&(ei y)))]/\Bl w6 w) ?_ ?_
 ·have q:Bl w6 w6:=Below.refl _ _
  refine Zr i<|Zm O<|Ze (oo O O)<|Zm O<|Zg 17 O ?_ ?_<;>intro g
  ·refine Zv (gW g) (Vn g9 e) ?_;refine Zk (gW g) (Vc (CK _ y) DI) ?_;rintro _ w7 ⟨rfl,o⟩;have k:=aa k o;have q:=aa q o;refine Ze (Xh O g O) ?_;exact Zn fun a i=>⟨i.sub ⟨O,O,O,X1 O (by simp[t,g]),trivial⟩,q⟩
  (iterate 2 refine Zp (gP g) ?_);exact Ze (X9 O g O)<|Zn fun a i=>⟨i.sub ⟨O,O,O,X1 O (by simp[t,g]),trivial⟩,q⟩
 rintro a w8 ⟨i,o⟩;have ⟨e,f,k⟩:=bh o e f k;refine aF _ _<|Xz i O ?_ ?_<;>intro p
 ·have aA:=p
  have aS:0<j:=by revert p;simp;omega
  have aG:ei y=true:=by revert p;cases ei y<;>simp
  refine Q7<|aE _ _<|Q8<|ZS i fun aH=>Ze (Vn g9 e)<|Zf (Vc (NC _ y) ME) ?_;rintro _ w9 ⟨rfl,o⟩;have ⟨e,f,k⟩:=bh o e f k;refine Zm O<|Ze (X2 (vs:=[.agg #[vi ((kh y).a),vi ((kh y).b),vi ((kh y).c),vi ((kh y).d)],.bool (oQ y)]) O O)<|Ze (X2 (vs:=[.agg #[vi ((kh y).a),vi ((kh y).b),vi ((kh y).c),vi ((kh y).d)],.bool (oQ y)]) O O)<|Zo (Vw [vi ((kh y).a),vi ((kh y).b),vi ((kh y).c),vi ((kh y).d)] lr e) ?_;rintro _ aT ⟨ho,hb⟩;have f:=f.oz ho e O;have k:=Below.oy k ho aB;have e:=hb;refine Zt aH fun a i=>Zr i<|Zm O<|Ze (ld O O O0 O0)<|Za O<|Zn fun a i=>Xk ?_
  rw[kh,oQ,aD,aG,Bool.and_self,Q4 rfl] at e
  exact Xb<|⟨(iy y,j-1),⟨i.sb,(by rw[<- h];exact (wR O0 aG).symm),(yG aD),O0,e,f,k⟩,O3⟩
 have aA:=p
 have aQ:ip y j=⟨y,j⟩:=td (by intro h0;revert p;simp[h0])
 refine Q9<|Xf<|Xf<|Xv<|aP _ _<|ZS i fun aI=>Ze (Vn g9 e)<|Zm O<|Ze (Xg (ps:=[(0,.agg #[vi y.a,vi y.b,vi y.c,vi y.d]),(1,vi j)]) (cs:=[vi y.a,vi y.b,vi y.c,vi y.d,vi j]) O (fun _=>by first|rfl|kernel_rfl))<|Zo (Vw [vi y.a,vi y.b,vi y.c,vi y.d,vi j] Xm f) ?_;rintro _ aU ⟨ho,hb⟩;have k:=Below.oy k ho z;have f:=hb;refine Za O<|Zt aI fun a i=>Q6 (X4 i (dj i O (an.cellN (l:=[vi y.a,vi y.b,vi y.c,vi y.d,vi j]) O Xa (f.at 0) O) O) ?_)
 refine ⟨?_,k⟩
 have he:oL x m=some ⟨y,j⟩:=by rw[oL,Q4 hy,<- h,aQ]
 rw[he];rfl
def y_(w0:World)(x:Dy)(m:Int)(h0:0<=x.exp)(hm:m<=60)(aG:x.exp<=m):RE 212 [.agg #[vi x.num.a,vi x.num.b,vi x.num.c,vi x.num.d,vi x.exp],vi m] w0 (fun v w=>v=.tuple #[rV ((aq x m).1),.bool ((aq x m).2)]/\Bl w0 w):=by
 refine enter func212 O 28 O O ?_;intro a g
 have k:=bz w0
 refine ZS g fun aH=>Zf (bt (zs:=[vi x.num.a,vi x.num.b,vi x.num.c,vi x.num.d,vi x.exp]) O O) ?_;rintro _ w1 ⟨b2,rfl,aI,p,o⟩;have aS:=Q0 k.size aI;have k:=aa k p;refine Zf (Xi (zs:=[vi 0,vi 0,vi 0,vi 0]) nz O) ?_;rintro _ w2 ⟨b3,rfl,aJ,p,f⟩;have aB:=Q0 k.size aJ;have o:=o.bw p;have k:=aa k p;refine Za O<|Zx aH fun a g _ aK=>Ze (Vd O pG 0)<|Ze (Xt (l:=[vi x.num.a,vi x.num.b,vi x.num.c,vi x.num.d]) O g9 ((o.at 0).take 4) O)<|ZB [vi x.num.a,vi x.num.b,vi x.num.c,vi x.num.d] nz lr fun b5 w4 aL p n=>?_
 have aF:b3≠b5:=by have:=f.lt;omega
 have aC:=Q0 k.size aL;have ⟨o,f,k⟩:=bh p o f k;refine Za O<|ZX aK fun a g _ aM=>ZS g fun aN=>Ze (Vd O oJ 4)<|Ze (X0 O X8 (o.at 4))<|Za O<|Zt aN fun a g=>Q8<|Xw (σ:=Rg×Bool×Int) (fun (s:Rg×Bool×Int) (a:Act) (w:World)=>match s with|(y,b,j)=>Fr a 28 [(1,vi m),(4,(ae b3)),(6,(ae b5)),(7,.bool b),(8,vi j)]/\((if b=true then gc (m-j).toNat y else (y,false))=aq x m)/\(b=true->j<=m)/\(0<=j/\j<=61)/\al w b3 145 [vi 0,vi 0,vi 0,vi 0]/\al w b5 145 [vi y.a,vi y.b,vi y.c,vi y.d]/\Bl w0 w) (fun (s:Rg×Bool×Int)=>match s with|(y,b,j)=>(62-j).toNat) (x.num,true,x.exp) ?_ ?_
 ·exact ⟨g.sb,O,(fun _=>aG),O0,f,n,k⟩
 rintro ⟨y,b,j⟩ a w5 ⟨g,q,aU,aT,f,n,k⟩;refine Q5 fun _ aO=>Q5 fun _ aP=>eo (fun a w=>Fr a 28 [(1,vi m),(4,(ae b3)),(6,(ae b5)),(7,.bool b),(8,vi j),(18,.bool ((decide (j<m))&&b))]/\w5=w) ?_ ?_
 ·refine Zr g<|Zm O<|Zm O<|Ze (ew O O)<|Zm O<|Zg 16 O ?_ ?_<;>intro e
  ·refine Zv (gW e) (X7 O) ?_;refine Ze (Xh O e O) ?_;exact Zn fun a g=>⟨g.sub ⟨O,O,O,O,O,X1 O (by first|rfl|(simp only[e,bs];done)|simp[e]),trivial⟩,O⟩
  exact Zp (gP e)<|Ze (X9 O e O)<|Zn fun a g=>⟨g.sub ⟨O,O,O,O,O,X1 O (by simp[e]),trivial⟩,O⟩
 rintro a _ ⟨g,rfl⟩;refine aP _ _<|Xz g O ?_ ?_<;>intro i
 ·have aA:=i
  have aQ:j<m:=by revert i;simp;omega
  have hb:b=true:=by revert i;cases b<;>simp
  refine Q7<|aO _ _<|Q5 fun _ aD=>Q8<|Zr g<|Ze (Vn g9 n)<|Zf (Vc (K6 _ y) P1) ?_;rintro _ w6 ⟨rfl,p⟩;have ⟨f,n,k⟩:=bh p f n k;refine Zm O<|Ze (X2 (vs:=[.agg #[vi ((be (aw y) [y]).a),vi ((be (aw y) [y]).b),vi ((be (aw y) [y]).c),vi ((be (aw y) [y]).d)],.bool (fk (aw y) [y])]) O O)<|Ze (X2 (vs:=[.agg #[vi ((be (aw y) [y]).a),vi ((be (aw y) [y]).b),vi ((be (aw y) [y]).c),vi ((be (aw y) [y]).d)],.bool (fk (aw y) [y])]) O O)<|Zo (Vw [vi ((be (aw y) [y]).a),vi ((be (aw y) [y]).b),vi ((be (aw y) [y]).c),vi ((be (aw y) [y]).d)] lr n) ?_;rintro _ w7 ⟨ho,hb⟩;have f:=f.oy ho O0;have k:=Below.oy k ho aC;have n:=hb;clear hb ho;exact Za O<|Zn fun a g=>Xk<|aD _ _<|Zr g<|Zm O<|Ze (Xs O O O0 O0)<|Za O<|Zn fun a g=>Xb<|⟨(be (aw y) [y],fk (aw y) [y],j+1),⟨g.sb,(U' q hb aQ),(by intro _;omega),O0,f,n,k⟩,O3⟩
 have aA:=i
 have aR:b=true->m<=j:=by intro h0;subst h0;revert i;simp
 refine Q9<|Xf<|Xf<|Xv<|aM _ _<|ZS g fun aE=>Ze (Vn g9 n)<|Zm O<|Zo (Vw [vi y.a,vi y.b,vi y.c,vi y.d] lr f) ?_;rintro _ w8 ⟨ho,hb⟩;have k:=Below.oy k ho aB;have f:=hb;clear hb ho;refine Za O<|Zt aE fun a g=>Q6 (X4 g (dj g O (an.cellN (l:=[vi y.a,vi y.b,vi y.c,vi y.d]) O g9 (f.at 0) O) O) ?_)
 refine ⟨?_,k⟩
 have he:aq x m=(y,b):=by rw[<- q];cases b with
  | false=>rfl
  | true=>rw[Q4 rfl,show (m-j).toNat=0 from by have:=aR rfl;omega];rfl
 rw[he]
abbrev ZD:=fun (a:Dy) (b:Dy)=>(aq a (max a.exp b.exp)).1
abbrev ZE:=fun (a:Dy) (b:Dy)=>(aq a (max b.exp a.exp)).1
abbrev ZL:=fun (a:Dy) (b:Dy)=>(oL (qQ a b) (max a.exp b.exp)).getD dZ
def Sc(w0:World)(x:Dy)(y:Dy):RE 194 [.agg #[vi x.num.a,vi x.num.b,vi x.num.c,vi x.num.d,vi x.exp],.agg #[vi y.num.a,vi y.num.b,vi y.num.c,vi y.num.d,vi y.exp],.func (.func 195) #[] #[]] w0 (fun v w=>v=.tuple #[dV ((ap x y).getD dZ),.bool ((ap x y).isSome)]/\Bl w0 w):=by
 refine enter func194 O 64 O O ?_;intro a j;have g:=bz w0;refine ZS j fun aT=>Zf (bt (zs:=[vi x.num.a,vi x.num.b,vi x.num.c,vi x.num.d,vi x.exp]) O O) ?_;rintro _ w1 ⟨b2,rfl,aU,f,p⟩;have bC:=Q0 g.size aU;have g:=aa g f;refine Zf (bt (zs:=[vi y.num.a,vi y.num.b,vi y.num.c,vi y.num.d,vi y.exp]) O O) ?_;rintro _ w2 ⟨b3,rfl,aW,f,m⟩;have aQ:b2≠b3:=by have:=p.lt;omega
 have bD:=Q0 g.size aW;have p:=p.bw f;have g:=aa g f;refine Zf (Xi (zs:=[vi 0,vi 0,vi 0,vi 0,vi 0]) iu O) ?_;rintro _ w3 ⟨b4,rfl,aX,f,e⟩;have aR:b2≠b4:=by have:=p.lt;omega
 have aS:b3≠b4:=by have:=m.lt;omega
 have z:=Q0 g.size aX;have ⟨p,m,g⟩:=bh f p m g;refine Za O<|ZX aT fun a j _ aY=>Q5 fun _ aZ=>eo (fun a w=>Fr a 64 [(2,.func (.func 195) #[] #[]),(3,(ae b2)),(4,(ae b3)),(6,(ae b4)),(22,.bool ((!(dt x))||(!(dt y))))]/\Bl w3 w) ?_ ?_
 ·have u:Bl w3 w3:=Below.refl _ _;refine Zr j<|Ze (Vn Xa p)<|Zf (Vc (tg _ x) s8) ?_;rintro _ w4 ⟨rfl,f⟩;have ⟨m,g,u⟩:=bh f m g u;refine Ze (dn O)<|Zm O<|Zg 18 O ?_ ?_<;>intro o
  ·(iterate 3 refine Zp (gP o) ?_);exact Ze (Xh O o O)<|Zn fun a j=>⟨j.sub ⟨O,O,O,O,X1 O (by simp[o]),trivial⟩,u⟩
  refine Zv (gW o) (Vn Xa m) ?_;refine Zk (gW o) (Vc (tg _ y) s8) ?_;rintro _ w5 ⟨rfl,f⟩;have g:=aa g f;have u:=aa u f;refine Zv (gW o) (dn O)<|Ze (X9 O o O)<|Zn fun a j=>?_;exact ⟨j.sub ⟨O,O,O,O,X1 O (by simp[o]),trivial⟩,u⟩
 intro a w6 ⟨j,f⟩;have ⟨p,m,e,g⟩:=dk f p m e g;refine aZ _ _<|Xz j O ?_ ?_<;>intro h
 ·have q:=h;have hn:(dt x&&dt y)=false:=by revert h;cases dt x<;>cases dt y<;>simp
  refine ZS j fun b0=>Ze (Xg (ps:=[]) (cs:=[vi 0,vi 0,vi 0,vi 0,vi 0]) O (fun _=>by first|rfl|kernel_rfl))<|Zo (Vw [vi 0,vi 0,vi 0,vi 0,vi 0] Xm e) ?_;intro _ w7 ⟨ho,hb⟩;have g:=Below.oy g ho z;have e:=hb;exact Za O<|Zt b0 fun a j=>Q6<|X3<|X4 j (dj j O (an.cellN (l:=[vi 0,vi 0,vi 0,vi 0,vi 0]) O Xa (e.at 0) O) O)<|⟨by rw[ap,hn];rfl,g⟩
 have q:=h;have hy:(dt x&&dt y)=true:=by revert h;cases dt x<;>cases dt y<;>simp
 have hx:=qi (Qd _ _▸hy:dt x=true/\dt y=true).1;have hz:=qi (Qd _ _▸hy:dt x=true/\dt y=true).2;refine Q7<|aY _ _<|ZS j fun aD=>Ze (Vd O oJ 4)<|Ze (X0 O X8 (p.at 4))<|Ze (Vd O oJ 4)<|Ze (X0 O X8 (m.at 4))<|Ze (CT O O)<|Za O<|Zx aD fun a j _ aE=>Ze (Vn Xa p)<|Zm O<|Zf (Vc (y_ _ x (max x.exp y.exp) O0 O0 O0) yK) ?_;rintro _ w8 ⟨rfl,f⟩;have ⟨m,e,g⟩:=bh f m e g;refine Zm O<|Ze (X2 (vs:=[.agg #[vi ((ZD x y).a),vi ((ZD x y).b),vi ((ZD x y).c),vi ((ZD x y).d)],.bool ((aq x (max x.exp y.exp)).2)]) O O)<|Ze (X2 (vs:=[.agg #[vi ((ZD x y).a),vi ((ZD x y).b),vi ((ZD x y).c),vi ((ZD x y).d)],.bool ((aq x (max x.exp y.exp)).2)]) O O)<|ZB [vi ((ZD x y).a),vi ((ZD x y).b),vi ((ZD x y).c),vi ((ZD x y).d)] nz lr fun aF bE aG f n=>?_;have b1:=Q0 g.size aG;have ⟨m,e,g⟩:=bh f m e g;refine Za O<|Zx aE fun a j _ aH=>Ze (Vn Xa m)<|Zm O<|Zf (Vc (y_ _ y (max x.exp y.exp) O0 O0 O0) yK) ?_;rintro _ bF ⟨rfl,f⟩;have ⟨e,n,g⟩:=bh f e n g;refine Zm O<|Ze (X2 (vs:=[.agg #[vi ((ZE y x).a),vi ((ZE y x).b),vi ((ZE y x).c),vi ((ZE y x).d)],.bool ((aq y (max x.exp y.exp)).2)]) O O)<|Ze (X2 (vs:=[.agg #[vi ((ZE y x).a),vi ((ZE y x).b),vi ((ZE y x).c),vi ((ZE y x).d)],.bool ((aq y (max x.exp y.exp)).2)]) O O)<|ZB [vi ((ZE y x).a),vi ((ZE y x).b),vi ((ZE y x).c),vi ((ZE y x).d)] nz lr fun b14 bG aI f t=>?_;have aA:aF≠b14:=by have:=n.lt;omega
 have b5:=Q0 g.size aI;have ⟨e,n,g⟩:=bh f e n g;refine Za O<|Zx aH fun a j _ aJ=>Zm O<|Ze (Vn g9 n)<|Ze (Vn g9 t)<|Zf (ta (cs:=[]) (vs:=[.agg #[vi ((ZD x y).a),vi ((ZD x y).b),vi ((ZD x y).c),vi ((ZD x y).d)],.agg #[vi ((ZE y x).a),vi ((ZE y x).b),vi ((ZE y x).c),vi ((ZE y x).d)]]) O O U3 (U1 _ (ZD x y) (ZE y x))) ?_;rintro _ bH ⟨rfl,f⟩;have ⟨e,n,t,g⟩:=dk f e n t g;refine Zm O<|Ze (X2 (vs:=[.agg #[vi ((qQ x y).a),vi ((qQ x y).b),vi ((qQ x y).c),vi ((qQ x y).d)],.bool (fk (ig (ZD x y) (ZE y x)) [(ZD x y),(ZE y x)])]) O O)<|Ze (X2 (vs:=[.agg #[vi ((qQ x y).a),vi ((qQ x y).b),vi ((qQ x y).c),vi ((qQ x y).d)],.bool (fk (ig (ZD x y) (ZE y x)) [(ZD x y),(ZE y x)])]) O O)<|ZB [vi ((qQ x y).a),vi ((qQ x y).b),vi ((qQ x y).c),vi ((qQ x y).d)] nz lr fun b16 b6 aK f aL=>?_;have aB:aF≠b16:=by have:=n.lt;omega
 have aC:b14≠b16:=by have:=t.lt;omega
 have b7:=Q0 g.size aK;have e:=e.bw f;have g:=aa g f;refine Za O<|ZX aJ fun a j _ aM=>Q5 fun _ aN=>eo (fun a w=>Fr a 64 [(6,(ae b4)),(8,vi (max x.exp y.exp)),(13,(ae b16)),(57,.bool (((!((aq x (max x.exp y.exp)).2))||(!((aq y (max x.exp y.exp)).2)))||(!(fk (ig (ZD x y) (ZE y x)) [(ZD x y),(ZE y x)]))))]/\b6=w) ?_ ?_
 ·refine Zr j<|Zm O<|Ze (dn O)<|Zm O<|Zg 50 O ?_ ?_<;>intro i
  ·(iterate 2 refine Zp (gP i) ?_);refine Ze (Xh O i O)<|Zm O<|Zp (gP O) ?_;exact Zp (gP O)<|Ze (Xh O O O)<|Zn fun a j=>⟨j.sub ⟨O,O,O,X1 O (by simp[q,i]),trivial⟩,O⟩
  refine Zv (gW i) (X7 O) ?_;refine Zv (gW i) (dn O)<|Ze (X9 O i O)<|Zm O<|Zg 54 O ?_ ?_<;>intro k
  ·(iterate 2 refine Zp (gP k) ?_);exact Ze (Xh O k O)<|Zn fun a j=>⟨j.sub ⟨O,O,O,X1 O (by simp[q,i,k]),trivial⟩,O⟩
  refine Zv (gW k) (X7 O) ?_;refine Zv (gW k) (dn O)<|Ze (X9 O k O)<|Zn fun a j=>?_;exact ⟨j.sub ⟨O,O,O,X1 O (by simp[q,i,k]),trivial⟩,O⟩
 rintro a _ ⟨j,rfl⟩;refine aN _ _<|Xz j O ?_ ?_<;>intro A
 ·have b8:=BQ A;refine ZS j fun aO=>Ze (Xg (ps:=[]) (cs:=[vi 0,vi 0,vi 0,vi 0,vi 0]) O (fun _=>by first|rfl|kernel_rfl))<|Zo (Vw [vi 0,vi 0,vi 0,vi 0,vi 0] Xm e) ?_;intro _ bI ⟨ho,hb⟩;have g:=Below.oy g ho z;have e:=hb;exact Za O<|Zt aO fun a j=>Q6<|X3<|X4 j (dj j O (an.cellN (l:=[vi 0,vi 0,vi 0,vi 0,vi 0]) O Xa (e.at 0) O) O)<|⟨by rw[ap,Q4 hy,b8];rfl,g⟩
 have b9:=C4 A;refine Q7<|aM _ _<|ZS j fun aP=>Ze (Vn g9 aL)<|Zm O<|Zf (Vc (Dd _ (qQ x y) (max x.exp y.exp)) Eo) ?_;rintro _ bJ ⟨rfl,f⟩;have e:=e.bw f;have g:=aa g f;refine Ze (X2 (vs:=[.agg #[vi ((ZL x y).num.a),vi ((ZL x y).num.b),vi ((ZL x y).num.c),vi ((ZL x y).num.d),vi ((ZL x y).exp)],.bool ((oL (qQ x y) (max x.exp y.exp)).isSome)]) O O)<|Ze (X2 (vs:=[.agg #[vi ((ZL x y).num.a),vi ((ZL x y).num.b),vi ((ZL x y).num.c),vi ((ZL x y).num.d),vi ((ZL x y).exp)],.bool ((oL (qQ x y) (max x.exp y.exp)).isSome)]) O O)<|Zo (Vw [vi ((ZL x y).num.a),vi ((ZL x y).num.b),vi ((ZL x y).num.c),vi ((ZL x y).num.d),vi ((ZL x y).exp)] Xm e) ?_;intro _ bK ⟨ho,hb⟩;have g:=Below.oy g ho z;have e:=hb;refine Za O<|Zt aP fun a j=>Q6 (X4 j (dj j O (an.cellN (l:=[vi ((ZL x y).num.a),vi ((ZL x y).num.b),vi ((ZL x y).num.c),vi ((ZL x y).num.d),vi ((ZL x y).exp)]) O Xa (e.at 0) O) O) ?_);exact ⟨by rw[ap,Q4 hy,b9];rfl,g⟩
def zV(w0:World)(x:Dy)(y:Dy):RE 162 [.agg #[vi x.num.a,vi x.num.b,vi x.num.c,vi x.num.d,vi x.exp],.agg #[vi y.num.a,vi y.num.b,vi y.num.c,vi y.num.d,vi y.exp]] w0 (fun v w=>v=.tuple #[dV ((ap x y).getD dZ),.bool ((ap x y).isSome)]/\Bl w0 w):=by
 refine enter func162 O 11 O O ?_;intro a hf;have f:=bz w0;refine ZS hf fun aE=>Zf (bt (zs:=[vi x.num.a,vi x.num.b,vi x.num.c,vi x.num.d,vi x.exp]) O O) ?_;rintro _ w1 ⟨b2,rfl,aF,g,e⟩;have aJ:=Q0 f.size aF;have f:=aa f g;refine Zf (bt (zs:=[vi y.num.a,vi y.num.b,vi y.num.c,vi y.num.d,vi y.exp]) O O) ?_;rintro _ w2 ⟨b3,rfl,aG,g,j⟩;have aB:b2≠b3:=by have:=e.lt;omega
 have aK:=Q0 f.size aG;have e:=e.bw g;have f:=aa f g;refine Zf (Xi (zs:=[vi 0,vi 0,vi 0,vi 0,vi 0]) iu O) ?_;rintro _ w3 ⟨b4,rfl,aH,g,i⟩;have aC:b2≠b4:=by have:=e.lt;omega
 have aD:b3≠b4:=by have:=j.lt;omega
 have aA:=Q0 f.size aH;have ⟨e,j,f⟩:=bh g e j f;refine Za O<|Zx aE fun a hf _ aI=>Ze (Vn Xa e)<|Ze (Vn Xa j)<|Zf (Vc (Sc _ x y) Fm) ?_;rintro _ w4 ⟨rfl,g⟩;have i:=i.bw g;have f:=aa f g;refine Ze (X2 (vs:=[.agg #[vi (((ap x y).getD dZ).num.a),vi (((ap x y).getD dZ).num.b),vi (((ap x y).getD dZ).num.c),vi (((ap x y).getD dZ).num.d),vi (((ap x y).getD dZ).exp)],.bool ((ap x y).isSome)]) O O)<|Ze (X2 (vs:=[.agg #[vi (((ap x y).getD dZ).num.a),vi (((ap x y).getD dZ).num.b),vi (((ap x y).getD dZ).num.c),vi (((ap x y).getD dZ).num.d),vi (((ap x y).getD dZ).exp)],.bool ((ap x y).isSome)]) O O)<|Zo (Vw [vi (((ap x y).getD dZ).num.a),vi (((ap x y).getD dZ).num.b),vi (((ap x y).getD dZ).num.c),vi (((ap x y).getD dZ).num.d),vi (((ap x y).getD dZ).exp)] Xm i) ?_;intro _ w5 ⟨ho,hb⟩;have f:=Below.oy f ho aA;have i:=hb;refine Za O<|Zt aI fun a hf=>Q6 (X4 hf (dj hf O (an.cellN (l:=[vi (((ap x y).getD dZ).num.a),vi (((ap x y).getD dZ).num.b),vi (((ap x y).getD dZ).num.c),vi (((ap x y).getD dZ).num.d),vi (((ap x y).getD dZ).exp)]) O Xa (i.at 0) O) O) ?_);exact ⟨O,f⟩
abbrev ZA:=fun (a:Dy) (b:Dy)=>(oL (be (ir a.num b.num) [a.num,b.num]) (a.exp+b.exp)).getD dZ
abbrev ZR:=fun (a:Dy) (b:Dy)=>be (ir a.num b.num) [a.num,b.num]
def tm(w0:World)(x:Dy)(y:Dy):RE 160 [.agg #[vi x.num.a,vi x.num.b,vi x.num.c,vi x.num.d,vi x.exp],.agg #[vi y.num.a,vi y.num.b,vi y.num.c,vi y.num.d,vi y.exp]] w0 (fun v w=>v=.tuple #[dV ((aj x y).getD dZ),.bool ((aj x y).isSome)]/\Bl w0 w):=by
 refine enter func160 O 38 O O ?_;intro a n
 have m:=bz w0
 refine ZS n fun aH=>Zf (bt (zs:=[vi x.num.a,vi x.num.b,vi x.num.c,vi x.num.d,vi x.exp]) O O) ?_;rintro _ w1 ⟨b2,rfl,aI,f,g⟩;have aP:=Q0 m.size aI;have m:=aa m f;refine Zf (bt (zs:=[vi y.num.a,vi y.num.b,vi y.num.c,vi y.num.d,vi y.exp]) O O) ?_;rintro _ w2 ⟨b3,rfl,aJ,f,j⟩
 have aE:b2≠b3:=by have:=g.lt;omega
 have aQ:=Q0 m.size aJ;have g:=g.bw f;have m:=aa m f;refine Zf (Xi (zs:=[vi 0,vi 0,vi 0,vi 0,vi 0]) iu O) ?_;rintro _ w3 ⟨b4,rfl,aK,f,k⟩
 have aF:b2≠b4:=by have:=g.lt;omega
 have aG:b3≠b4:=by have:=j.lt;omega
 have q:=Q0 m.size aK;have ⟨g,j,m⟩:=bh f g j m;refine Za O<|Zx aH fun a n _ aL=>Ze (Vd O pG 0)<|Ze (Xt (l:=[vi x.num.a,vi x.num.b,vi x.num.c,vi x.num.d]) O g9 ((g.at 0).take 4) O)<|Ze (Vd O pG 0)<|Ze (Xt (l:=[vi y.num.a,vi y.num.b,vi y.num.c,vi y.num.d]) O g9 ((j.at 0).take 4) O)<|Zf (Vc (L7 _ x.num y.num) RJ) ?_;rintro _ w4 ⟨rfl,f⟩;have ⟨g,j,k,m⟩:=dk f g j k m;refine Zm O<|Ze (X2 (vs:=[.agg #[vi ((ZR x y).a),vi ((ZR x y).b),vi ((ZR x y).c),vi ((ZR x y).d)],.bool (fk (ir x.num y.num) [x.num,y.num])]) O O)<|Ze (X2 (vs:=[.agg #[vi ((ZR x y).a),vi ((ZR x y).b),vi ((ZR x y).c),vi ((ZR x y).d)],.bool (fk (ir x.num y.num) [x.num,y.num])]) O O)<|ZB [vi ((ZR x y).a),vi ((ZR x y).b),vi ((ZR x y).c),vi ((ZR x y).d)] nz lr fun b6 w6 aM f aA=>?_;have aR:=Q0 m.size aM;have ⟨g,j,k,m⟩:=dk f g j k m;refine Za O<|ZX aL fun a n _ aN=>Q5 fun _ aO=>eo (fun a w=>Fr a 38 [(2,(ae b2)),(3,(ae b3)),(4,(ae b4)),(6,(ae b6)),(27,.bool (((!(dt x))||(!(dt y)))||(!(fk (ir x.num y.num) [x.num,y.num]))))]/\Bl w6 w) ?_ ?_
 ·have o:Bl w6 w6:=Below.refl _ _
  refine Zr n<|Ze (Vn Xa g)<|Zf (Vc (tg _ x) s8) ?_;rintro _ w7 ⟨rfl,f⟩;have ⟨j,m,o⟩:=bh f j m o;refine Ze (dn O)<|Zm O<|Zg 19 O ?_ ?_<;>intro i
  ·(iterate 3 refine Zp (gP i) ?_);refine Ze (Xh O i O)<|Zm O<|Zp (gP O) ?_;refine Zp (gP O) ?_;exact Ze (Xh O O O)<|Zn fun a n=>⟨n.sub ⟨O,O,O,O,X1 O (by simp[i]),trivial⟩,o⟩
  refine Zv (gW i) (Vn Xa j) ?_;refine Zk (gW i) (Vc (tg _ y) s8) ?_;rintro _ w8 ⟨rfl,f⟩;have m:=aa m f;have o:=aa o f;refine Zv (gW i) (dn O) ?_;refine Ze (X9 O i O)<|Zm O<|Zg 24 O ?_ ?_<;>intro e
  ·(iterate 2 refine Zp (gP e) ?_);exact Ze (Xh O e O)<|Zn fun a n=>⟨n.sub ⟨O,O,O,O,X1 O (by simp[i,e]),trivial⟩,o⟩
  refine Zv (gW e) (X7 O) ?_;refine Zv (gW e) (dn O) ?_;refine Ze (X9 O e O) ?_;exact Zn fun a n=>⟨n.sub ⟨O,O,O,O,X1 O (by first|rfl|(simp only[i,e,bs];done)|simp[i,e]),trivial⟩,o⟩
 rintro a w9 ⟨n,f⟩;have ⟨g,j,k,aA,m⟩:=io f g j k aA m;refine aO _ _<|Xz n O ?_ ?_<;>intro p
 ·have hn:=BQ p;refine ZS n fun aB=>Ze (Xg (ps:=[]) (cs:=[vi 0,vi 0,vi 0,vi 0,vi 0]) O (fun _=>by first|rfl|kernel_rfl))<|Zo (Vw [vi 0,vi 0,vi 0,vi 0,vi 0] Xm k) ?_;rintro _ aS ⟨ho,hb⟩;have m:=Below.oy m ho q;have k:=hb;exact Za O<|Zt aB fun a n=>Q6<|X3<|X4 n (dj n O (an.cellN (l:=[vi 0,vi 0,vi 0,vi 0,vi 0]) O Xa (k.at 0) O) O)<|⟨by rw[aj,hn];rfl,m⟩
 have hy:=C4 p;have aC:=IX hy;have hx:=qi aC.1;have hz:=qi aC.2.1;refine Q7<|aN _ _<|ZS n fun aD=>Ze (Vn g9 aA)<|Ze (Vd O oJ 4)<|Ze (X0 O X8 (g.at 4))<|Ze (Vd O oJ 4)<|Ze (X0 O X8 (j.at 4))<|Ze (Xs O O O0 O0)<|Zf (Vc (Dd _ (ZR x y) (x.exp+y.exp)) Eo) ?_;rintro _ aT ⟨rfl,f⟩;have k:=k.bw f;have m:=aa m f;refine Ze (X2 (vs:=[.agg #[vi ((ZA x y).num.a),vi ((ZA x y).num.b),vi ((ZA x y).num.c),vi ((ZA x y).num.d),vi ((ZA x y).exp)],.bool ((oL (ZR x y) (x.exp+y.exp)).isSome)]) O O)<|Ze (X2 (vs:=[.agg #[vi ((ZA x y).num.a),vi ((ZA x y).num.b),vi ((ZA x y).num.c),vi ((ZA x y).num.d),vi ((ZA x y).exp)],.bool ((oL (ZR x y) (x.exp+y.exp)).isSome)]) O O)<|Zo (Vw [vi ((ZA x y).num.a),vi ((ZA x y).num.b),vi ((ZA x y).num.c),vi ((ZA x y).num.d),vi ((ZA x y).exp)] Xm k) ?_;rintro _ aU ⟨ho,hb⟩
 have m:=Below.oy m ho q;have k:=hb;refine Za O<|Zt aD fun a n=>Q6 (X4 n (dj n O (an.cellN (l:=[vi ((ZA x y).num.a),vi ((ZA x y).num.b),vi ((ZA x y).num.c),vi ((ZA x y).num.d),vi ((ZA x y).exp)]) O Xa (k.at 0) O) O) ?_)
 exact ⟨by rw[aj,Q4 hy],m⟩
def zW(w0:World)(n:Int):RE 153 [vi n] w0 (fun v w=>v=.bool (dm n)/\w0=w):=by
 refine enter func153 O 12 O O ?_;intro a d
 have hW:=bz w0
 refine ZS d fun aA=>Za O<|ZX aA fun a d _ aB=>eo (fun a w=>Fr a 12 [(2,.bool ((bq n 1 32)&&((bits .and .i64 n (wr (n-1)))==0)))]/\w0=w) ?_ ?_
 ·refine Zr d<|Zm O<|Zf (Vc (qc _ n 1 32) pV) ?_;rintro _ _ ⟨rfl,rfl⟩;refine Zm O<|Zg 5 O ?_ ?_<;>intro c
  ·refine Zv (gW c) (X7 O) ?_;refine Zv (gW c) (X7 O) ?_;refine Zv (gW c) (pz O O) ?_;refine Zv (gW c) (BW O O) ?_;refine Zv (gW c) (go O O) ?_;refine Ze (Xh O c O)<|Za O ?_;exact Zn fun a d=>⟨d.sub ⟨X1 O (by first|rfl|(simp only[c,bs];done)|simp[c]),trivial⟩,O⟩
  (iterate 5 refine Zp (gP c) ?_);exact Ze (X9 O c O)<|Za O<|Zn fun a d=>⟨d.sub ⟨X1 O (by simp[c]),trivial⟩,O⟩
 rintro a _ ⟨d,rfl⟩;refine aB _ _<|Q6 (X4 d (Xu d O O) ?_)
 exact ⟨by simp[dm, *],rfl⟩
def PT(w0:World)(x:Dy):RE 177 [.agg #[vi x.num.a,vi x.num.b,vi x.num.c,vi x.num.d,vi x.exp]] w0 (fun v w=>v=.bool (!dt x)/\Bl w0 w):=by
 refine enter func177 O 6 O O ?_;intro a hf;have hW:=bz w0;refine ZS hf fun aA=>Zf (bt (zs:=[vi x.num.a,vi x.num.b,vi x.num.c,vi x.num.d,vi x.exp]) O O) ?_;rintro _ w1 ⟨b2,rfl,aB,hE,aC⟩;have aE:=Q0 hW.size aB;have hW:=aa hW hE;refine Za O<|Zx aA fun a hf _ aD=>Ze (Vn Xa aC)<|Zf (Vc (tg _ x) s8) ?_;rintro _ w2 ⟨rfl,hE⟩;have hW:=aa hW hE;refine Ze (dn O)<|Za O<|Zt aD fun a hf=>Q6 (X4 hf (Xu hf O O) ?_);exact ⟨O,hW⟩
def U8(j:World)(Al:Option Addr)(cl:Nat)(l:List Dy)(aD:Rw j 147 ai Al l)(kq:FuncId)(pq:List Value)(Fq:FF kq)(q:Dy->Bool)(hq:∀ x w,Bl j w->RE kq ([dV x]++pq) w (fun v w'=>v=.bool (q x)/\Bl w w'))(aS:l.length<=2305843009213693951):RE 197 [.slice Al l.length cl,.func (.func kq) #[] pq.toArray] j (fun v w=>∃ i:Int,v=vi i/\decide (0<=i)=l.any q/\Bl j w):=by
 refine enter func197 O 19 O O ?_;intro a e;have m:=bz j;refine ZS e fun aJ=>Za O<|ZX aJ fun a e _ aK=>ZS e fun aL=>Zm O<|Ze (fh O gv)<|Zm O<|Zt aL fun a e=>Q8<|Xw (σ:=Nat) (fun (k:Nat) (a:Act) (w:World)=>Fr a 19 [(0,.slice Al l.length cl),(1,.func (.func kq) #[] pq.toArray),(7,vi (l.length:Int)),(8,vi (k:Int))]/\(k<=l.length)/\((l.take k).all (fun x=>!q x)=true)/\Bl j w) (fun (k:Nat)=>l.length+1-k) 0 ?_ ?_
 ·exact ⟨e.sb,(Qf _),O6,m⟩
 intro k a w1 ⟨e,hk,n,m⟩;refine ZS e fun aM=>Ze (ew O O)<|ZX aM fun a e _ aN=>eh e O (fun aE aO=>?_) (fun aE aO=>?_)
 ·have ⟨f,aA⟩:=Xe (l:=l) (k:=k) O0;refine Q7<|aN _ _<|Q5 fun _ aP=>Q8<|ZS e fun aF=>Zm O<|Za O<|Zx aF fun a e _ aG=>Zm O<|Zm O<|Zm O<|Zi (k:=k) (u:=f) (enc:=ai) (l:=l) ad O O gv Xm kb (aD.bx m) aA O ?_;intro aT aB;refine Ze (Xt (l:=[vi f.num.a,vi f.num.b,vi f.num.c,vi f.num.d,vi f.exp]) O Xa aB O)<|Zf (ta (cs:=pq) (vs:=[.agg #[vi f.num.a,vi f.num.b,vi f.num.c,vi f.num.d,vi f.exp]]) O O Fq (hq f _ m)) ?_;rintro _ w2 ⟨rfl,hE⟩;have m:=aa m hE;refine Zt aG fun a e=>Xz e O ?_ ?_<;>intro g
  ·have aC:l.any q=true:=tO aA g;exact ZS e fun aH=>Zm O<|Za O<|Zt aH fun a e=>Q6<|Xn<|X3<|X3<|Xn<|X3<|X4 e (Xu e O O)<|⟨_,O,by rw[aC];simp,m⟩
  have aQ:=g;have aR:(!q f)=true:=by revert g;cases q f<;>simp
  exact Q7<|Xk<|aP _ _<|Zr e<|Ze (Xs O O O0 O0)<|Zm O<|Zn fun a e=>Xb<|⟨k+1,⟨e.sb,O0,(sa n aA aR),m⟩,O0⟩
 refine Q9<|Xf<|Xf<|Xv<|aK _ _<|ZS e fun aI=>Za O<|Zt aI fun a e=>Q6 (X4 e (Xu e O O) ?_);have aC:l.any q=false:=tJ (sF n O0);exact ⟨_,O,by rw[aC];rfl,m⟩
def IL(c:World)(Al:Option Addr)(cl:Nat)(l:List Dy)(aA:Rw c 147 ai Al l)(kq:FuncId)(pq:List Value)(Fq:FF kq)(q:Dy->Bool)(hq:∀ x w,Bl c w->RE kq ([dV x]++pq) w (fun v w'=>v=.bool (q x)/\Bl w w'))(aB:l.length<=2305843009213693951):RE 167 [.slice Al l.length cl,.func (.func kq) #[] pq.toArray] c (fun v w=>v=.bool (l.any q)/\Bl c w):=by
 refine enter func167 O 9 O O ?_;intro a hf;have hW:=bz c;refine ZS hf fun aC=>Za O<|Zx aC fun a hf _ aD=>Zm O<|Zm O<|Zf (Vc (U8 _ Al cl l (aA.bx hW).top kq pq Fq q (fun x w' hE'=>hq x w' (hW.trans (hE'.mono hW.size))) aB) Vq) ?_;rintro _ w1 ⟨ix,rfl,aE,hE⟩;have hW:=aa hW hE;refine Ze (r0 O O)<|Za O<|Zt aD fun a hf=>Q6 (X4 hf (Xu hf O O) ?_);exact ⟨by rw[<- aE],hW⟩
theorem tq(w0:World)(m:Mx)(Am:Option Addr)(cm:Nat)(aA:Rw w0 147 ai Am m.cells)(aB:m.cells.length<=2305843009213693951):RE 137 [.agg #[vi m.rows,vi m.cols,.slice Am m.cells.length cm]] w0 (fun v w=>v=.bool (di m)/\Bl w0 w):=by
 refine enter func137 O 28 O O ?_;intro a f;have j:=bz w0;refine ZS f fun aC=>Zf (bt (zs:=[vi m.rows,vi m.cols,.slice Am m.cells.length cm]) O O) ?_;rintro _ w1 ⟨b3,rfl,aD,hE,g⟩;have aF:=Q0 j.size aD;have j:=aa j hE;refine Za O<|ZX aC fun a f _ aE=>eo (fun a w=>Fr a 28 [(2,.bool ((((dm m.rows)&&(dm m.cols))&&((m.cells.length:Int)==(wr (m.rows*m.cols))))&&(!(m.cells.any (fun x=>!dt x)))))]/\Bl w1 w) ?_ ?_
 ·have i:Bl w1 w1:=Below.refl _ _;refine Zr f<|Ze (Vd O oe 0)<|Ze (X0 O X8 (g.at 0))<|Zf (Vc (zW _ m.rows) zk) ?_;rintro _ _ ⟨rfl,rfl⟩;refine Zm O<|Zg 6 O ?_ ?_<;>intro d
  ·refine Zv (gW d) (Vd O ou 1) ?_;refine Zv (gW d) (X0 O X8 (g.at 1)) ?_;refine Zk (gW d) (Vc (zW _ m.cols) zk) ?_;rintro _ _ ⟨rfl,rfl⟩;refine Ze (Xh O d O)<|Zm O<|Zg 11 O ?_ ?_<;>intro c
   ·refine Zv (gW c) (Vd O og 2) ?_;refine Zv (gW c) (X0 O ju (g.at 2)) ?_;refine Zv (gW c) (fh O gv) ?_;refine Zv (gW c) (Vd O oe 0) ?_;refine Zv (gW c) (X0 O X8 (g.at 0)) ?_;refine Zv (gW c) (Vd O ou 1) ?_;refine Zv (gW c) (X0 O X8 (g.at 1)) ?_;refine Zv (gW c) (mv O O) ?_;refine Zv (gW c) (go O O)<|Ze (Xh O c O)<|Zm O<|Zg 22 O ?_ ?_<;>intro e
    ·refine Zv (gW e) (Vd O og 2) ?_;refine Zv (gW e) (X0 O ju (g.at 2)) ?_;refine Zk (gW e) (Vc (IL _ Am cm m.cells (aA.bx j).top 177 [] Ss (fun x=>!dt x) (fun x w' hE'=>PT w' x) aB) FC) ?_;rintro _ w2 ⟨rfl,hE⟩;have j:=aa j hE;have i:=aa i hE;refine Zv (gW e) (dn O)<|Ze (Xh O e O)<|Za O<|Zn fun a f=>?_;exact ⟨f.sub ⟨X1 O (by simp[d,c,e]),trivial⟩,i⟩
    (iterate 4 refine Zp (gP e) ?_);exact Ze (X9 O e O)<|Za O<|Zn fun a f=>⟨f.sub ⟨X1 O (by simp[d,c,e]),trivial⟩,i⟩
   (iterate 9 refine Zp (gP c) ?_);refine Ze (X9 O c O)<|Zm O<|Zp (gP O) ?_;(iterate 3 refine Zp (gP O) ?_);exact Ze (X9 O O O)<|Za O<|Zn fun a f=>⟨f.sub ⟨X1 O (by simp[d,c]),trivial⟩,i⟩
  (iterate 3 refine Zp (gP d) ?_);refine Ze (X9 O d O)<|Zm O<|Zp (gP O) ?_;(iterate 8 refine Zp (gP O) ?_);refine Ze (X9 O O O)<|Zm O<|Zp (gP O) ?_;(iterate 3 refine Zp (gP O) ?_);exact Ze (X9 O O O)<|Za O<|Zn fun a f=>⟨f.sub ⟨X1 O (by simp[d]),trivial⟩,i⟩
 intro a w3 ⟨f,hE⟩;have j:=aa j hE;refine aE _ _<|Q6 (X4 f (Xu f O O) ?_);exact ⟨by simp[di, *],j⟩
def u'(f:World)(m:Mx)(Am:Option Addr)(cm:Nat)(hm:Rw f 147 ai Am m.cells)(i j:Nat)(aF:di m=true)(hi:(i:Int)<m.rows)(hj:(j:Int)<m.cols):RE 161 [.agg #[vi m.rows,vi m.cols,.slice Am m.cells.length cm],vi (i:Int),vi (j:Int)] f (fun v w=>v=dV (m.at i j)/\Bl f w):=by
 have aB:=rs aF;have aG:i*m.cols.toNat+j<m.cells.length:=by rw[aB.2.2];exact tB O0 O0
 have aN:m.cells.length<=1024:=by rw[aB.2.2];exact Q0 (Nat.mul_le_mul (show m.rows.toNat<=32 by omega) (show m.cols.toNat<=32 by omega)) O2
 have aC:=Mx.at_get aG;have aH:m.cols=(m.cols.toNat:Int):=by omega
 suffices hgoal:RE 161 [.agg #[vi m.rows,vi (m.cols.toNat:Int),.slice Am m.cells.length cm],vi (i:Int),vi (j:Int)] f (fun v w=>v=dV (m.at i j)/\Bl f w) by rw[<- aH] at hgoal;exact hgoal
 refine enter func161 O 17 O O ?_;intro a hf;have e:=bz f;refine ZS hf fun aI=>Zf (bt (zs:=[vi m.rows,vi (m.cols.toNat:Int),.slice Am m.cells.length cm]) O O) ?_;rintro _ w1 ⟨b3,rfl,aJ,hE,g⟩;have aM:=Q0 e.size aJ;have e:=aa e hE;refine Zf (Xi (zs:=[vi 0,vi 0,vi 0,vi 0,vi 0]) iu O) ?_;rintro _ w2 ⟨b4,rfl,aK,hE,aA⟩;have aD:=Q0 e.size aK;have g:=g.bw hE;have e:=aa e hE;refine Zx aI fun a hf _ aL=>Ze (Vd O og 2)<|Ze (X0 O ju (g.at 2))<|Zm O<|Ze (Vd O ou 1)<|Ze (X0 O X8 (g.at 1))<|Ze (ww (m:=i) (k:=m.cols.toNat) O O O0)<|Zm O<|Ze (Xs O O O0 O0)<|Zi (k:=(i*m.cols.toNat+j)) (u:=(m.at i j)) (enc:=ai) (l:=m.cells) ad O O gv Xm kb (hm.bx e) aC O0 ?_;intro p7 aE;refine Ze (Xt (l:=[vi ((m.at i j).num.a),vi ((m.at i j).num.b),vi ((m.at i j).num.c),vi ((m.at i j).num.d),vi ((m.at i j).exp)]) O Xa aE O)<|Zo (Vw [vi ((m.at i j).num.a),vi ((m.at i j).num.b),vi ((m.at i j).num.c),vi ((m.at i j).num.d),vi ((m.at i j).exp)] Xm aA) ?_;intro _ w3 ⟨ho,hb⟩;have e:=Below.oy e ho aD;have aA:=hb;refine Zt aL fun a hf=>Q6 (X4 hf (Xu hf O (an.cellN (l:=[vi ((m.at i j).num.a),vi ((m.at i j).num.b),vi ((m.at i j).num.c),vi ((m.at i j).num.d),vi ((m.at i j).exp)]) O Xa (aA.at 0) O)) ?_);exact ⟨O,e⟩
def xF(x:World)(R C:Int)(k:FuncId)(caps:List Value)(hF:FF k)(f:Nat->Nat->Option Dy)(aD:∀ (i j:Nat) w,(i:Int)<R->(j:Int)<C->Bl x w->RE k ([vi (i:Int),vi (j:Int)]++caps) w (fun v w'=>v=.tuple #[dV ((f i j).getD dZ),.bool (f i j).isSome]/\Bl w w')):RE 120 [vi R,vi C,.func (.func k) #[] caps.toArray] x (fun v w=>∃ A c,v=.tuple #[mV A c ((ax R C f).getD mZ),.bool (ax R C f).isSome]/\ah w x.heap.size 147 5 ai A c ((ax R C f).getD mZ).cells/\Bl x w):=by
 refine enter func120 O 52 O O ?_;intro a g;have o:=bz x;refine ZS g fun bD=>Zf (Xi (zs:=[vi 0,vi 0,.slice none 0 0]) jy O) ?_;rintro _ w1 ⟨b3,rfl,bE,q,e⟩;have G:=Q0 o.size bE;have o:=aa o q;refine Za O<|Zx bD fun a g _ bF=>Zm O<|Zm O<|Ze (Xg (ps:=[(0,vi R),(1,vi C)]) (cs:=[vi R,vi C,.slice none 0 0]) O (fun _=>by first|rfl|kernel_rfl))<|ZB [vi R,vi C,.slice none 0 0] jy jg fun b7 w3 bG q n=>?_;have bC:b3≠b7:=by have:=e.lt;omega
 have aO:=Q0 o.size bG;have e:=e.bw q;have o:=aa o q;refine ZX bF fun a g _ bH=>Q5 fun _ bI=>eo (fun a w=>Fr a 52 [(0,vi R),(1,vi C),(2,.func (.func k) #[] caps.toArray),(6,(ae b3)),(8,(ae b7)),(23,.bool ((!(dm R))||(!(dm C))))]/\w3=w) ?_ ?_
 ·refine Zr g<|Zm O<|Zf (Vc (zW _ R) zk) ?_;rintro _ _ ⟨rfl,rfl⟩;refine Ze (dn O)<|Zm O<|Zg 19 O ?_ ?_<;>intro m
  ·(iterate 3 refine Zp (gP m) ?_);exact Ze (Xh O m O)<|Zn fun a g=>⟨g.sub ⟨O,O,O,O,O,X1 O (by simp[m]),trivial⟩,O⟩
  refine Zv (gW m) (X7 O) ?_;refine Zk (gW m) (Vc (zW _ C) zk) ?_;rintro _ _ ⟨rfl,rfl⟩;refine Zv (gW m) (dn O)<|Ze (X9 O m O)<|Zn fun a g=>?_;exact ⟨g.sub ⟨O,O,O,O,O,X1 O (by simp[m]),trivial⟩,O⟩
 rintro a _ ⟨g,rfl⟩;refine bI _ _<|Xz g O ?_ ?_<;>intro H
 ·have hn:=xN H;refine ZS g fun aP=>Ze (Xg (ps:=[]) (cs:=[vi 0,vi 0,.slice none 0 0]) O (fun _=>by first|rfl|kernel_rfl))<|Zo (Vw [vi 0,vi 0,.slice none 0 0] jg e) ?_;intro _ w4 ⟨L,hb⟩;have o:=Below.oy o L G;have e:=hb;refine Za O<|Zt aP fun a g=>Q6<|X3<|X4 g (dj g O (an.cellN (l:=[vi 0,vi 0,.slice none 0 0]) O fw (e.at 0) O) O) ?_;have he:ax R C f=none:=by rw[ax,hn];rfl
  rw[he];exact ⟨none,0,O,(ah.nil _ _ _ _ _),o⟩
 have hy:=xE H;have aQ:=(Qd _ _▸hy:dm R=true/\dm C=true);have hR:=sW aQ.1;have hC:=sW aQ.2;refine Q7<|bH _ _<|Q5 fun _ aR=>ZS g fun aS=>Zm O<|Zm O<|Zt aS fun a g=>Q8<|Xw (σ:=Nat×(List Dy)) (fun (s:Nat×(List Dy)) (a:Act) (w:World)=>match s with|(i,l)=>∃ y z,Fr a 52 [(1,vi C),(2,.func (.func k) #[] caps.toArray),(6,(ae b3)),(8,(ae b7)),(25,vi R),(26,vi (i:Int))]/\((i:Int)<=R)/\(gw (f_ f C.toNat) (i*C.toNat)=some l)/\al w b3 91 [vi 0,vi 0,.slice none 0 0]/\al w b7 91 [vi R,vi C,.slice y l.length z]/\ah w x.heap.size 147 5 ai y z l/\Bl x w) (fun (s:Nat×(List Dy))=>match s with|(i,l)=>(R-i).toNat) (0,[]) ?_ ?_
 ·exact ⟨none,0,g.sb,O0,O7,e,n,(ah.nil _ _ _ _ _),o⟩
 intro ⟨i,l⟩ a w5 ⟨y,z,g,bN,hl,e,n,h,o⟩;refine ZS g fun aT=>Ze (ew O O)<|ZX aT fun a g _ aU=>eh g O (fun aE W=>?_) (fun aE W=>?_)
 ·have aF:(i:Int)<R:=W;have bO:i*C.toNat<=1024:=Q0 (Nat.mul_le_mul (show i<=32 by omega) (show C.toNat<=32 by omega)) O2;refine Q7<|aU _ _<|Q5 fun _ aW=>Q8<|ZS g fun aX=>Zm O<|Za O<|Zx aX fun a g _ aY=>Zm O<|Zm O<|Zt aY fun a g=>Q8<|Xw (σ:=Nat×(List Dy)) (fun (s:Nat×(List Dy)) (a:Act) (w:World)=>match s with|(j,l2)=>∃ M N,Fr a 52 [(1,vi C),(2,.func (.func k) #[] caps.toArray),(6,(ae b3)),(8,(ae b7)),(9,vi (i:Int)),(25,vi R),(26,vi (i:Int)),(29,vi C),(30,vi (j:Int))]/\((j:Int)<=C)/\(gw (f_ f C.toNat) (i*C.toNat+j)=some l2)/\al w b3 91 [vi 0,vi 0,.slice none 0 0]/\al w b7 91 [vi R,vi C,.slice M l2.length N]/\ah w x.heap.size 147 5 ai M N l2/\Bl x w) (fun (s:Nat×(List Dy))=>match s with|(j,l2)=>(C-j).toNat) (0,l) ?_ ?_
  ·exact ⟨y,z,g.sb,O0,hl,e,n,h,o⟩
  intro ⟨j,l2⟩ a w6 ⟨M,N,g,bP,Q,e,n,p,o⟩;refine ZS g fun aZ=>Ze (ew O O)<|ZX aZ fun a g _ b0=>eh g O (fun aG aA=>?_) (fun aG aA=>?_)
  ·have U:(j:Int)<C:=aA;have bM:=sY Q;refine Q7<|b0 _ _<|Q5 fun _ b1=>Q8<|ZS g fun b2=>Zm O<|Za O<|Zx b2 fun a g _ b4=>Zm O<|Zm O<|Zm O<|Zf (ta (cs:=caps) (vs:=[vi (i:Int),vi (j:Int)]) O O hF (aD i j _ aF U o)) ?_;rintro _ w7 ⟨rfl,q⟩;have ⟨e,n,p,o⟩:=dk q e n p o;refine Zm O<|Ze (X2 (vs:=[.agg #[vi (((f i j).getD dZ).num.a),vi (((f i j).getD dZ).num.b),vi (((f i j).getD dZ).num.c),vi (((f i j).getD dZ).num.d),vi (((f i j).getD dZ).exp)],.bool ((f i j).isSome)]) O O)<|Ze (X2 (vs:=[.agg #[vi (((f i j).getD dZ).num.a),vi (((f i j).getD dZ).num.b),vi (((f i j).getD dZ).num.c),vi (((f i j).getD dZ).num.d),vi (((f i j).getD dZ).exp)],.bool ((f i j).isSome)]) O O)<|ZB [vi (((f i j).getD dZ).num.a),vi (((f i j).getD dZ).num.b),vi (((f i j).getD dZ).num.c),vi (((f i j).getD dZ).num.d),vi (((f i j).getD dZ).exp)] iu Xm fun bJ w9 aB q t=>?_;have bK:=Q0 o.size aB;have ⟨e,n,p,o⟩:=dk q e n p o;refine Za O<|ZX b4 fun a g _ b5=>ZS g fun b6=>Zm O<|Ze (dn O)<|Zt b6 fun a g=>Xz g O ?_ ?_<;>intro u
   ·have aH:=u;have hn:f_ f C.toNat (i*C.toNat+j)=none:=by rw[st O0];revert u;cases f i j<;>simp
    refine ZS g fun b8=>Ze (Xg (ps:=[]) (cs:=[vi 0,vi 0,.slice none 0 0]) O (fun _=>by first|rfl|kernel_rfl))<|Zo (Vw [vi 0,vi 0,.slice none 0 0] jg e) ?_;intro _ bQ ⟨L,hb⟩;have o:=Below.oy o L G;have e:=hb;refine Za O<|Zt b8 fun a g=>Q6<|X3<|Xn<|X3<|X3<|Xn<|Xn<|X3<|X3<|Xn<|X3<|X4 g (dj g O (an.cellN (l:=[vi 0,vi 0,.slice none 0 0]) O fw (e.at 0) O) O) ?_;have he:ax R C f=none:=by rw[ax,Q4 hy,wO hn _ (tB O0 O0)];rfl
    rw[he];exact ⟨none,0,O,(ah.nil _ _ _ _ _),o⟩
   have aH:=u;have hx:f_ f C.toNat (i*C.toNat+j)=some ((f i j).getD dZ):=by rw[st O0];revert u;cases f i j<;>simp
   refine Q7<|b5 _ _<|Zr g<|Ze (Vd O og 2)<|Ze (X0 O ju (n.at 2))<|Ze (Vn Xa t)<|Zf (X6 (k:=1) (vs:=[.agg #[vi (((f i j).getD dZ).num.a),vi (((f i j).getD dZ).num.b),vi (((f i j).getD dZ).num.c),vi (((f i j).getD dZ).num.d),vi (((f i j).getD dZ).exp)]]) (zs:=[vi (((f i j).getD dZ).num.a),vi (((f i j).getD dZ).num.b),vi (((f i j).getD dZ).num.c),vi (((f i j).getD dZ).num.d),vi (((f i j).getD dZ).exp)]) O gv my O O) ?_;rintro _ bR ⟨b36,rfl,aC,q,I⟩;have aL:bJ≠b36:=by have:=t.lt;omega
   have bL:=Q0 o.size aC;have ⟨e,n,t,p,o⟩:=io q e n t p o;refine Zf (jf (enc:=ai) (l:=(l2)) (l2:=([((f i j).getD dZ)])) (B0:=x.heap.size) O O gv my kb rM p (Rd.of_blk I O _ I.lt) (by simp only[maxLen];simp;omega) O5 o.size) ?_;rintro _ bS ⟨aI,aJ,rfl,J,hg,aK⟩;have B:ah _ x.heap.size 147 5 ai _ _ (l2):=p;clear aK;have e:=e.appT B hg O;have n:=n.appT B hg O;have o:=Below.app o B hg (Qb _) o.size;clear B hg;refine Ze (Vd O og 2)<|Zo (Vu (vs:=[.slice aI (l2++([((f i j).getD dZ)])).length aJ]) (l':=[vi R,vi C,.slice aI (l2++([((f i j).getD dZ)])).length aJ]) O O rH n) ?_;intro _ bU ⟨L,hb⟩;have e:=e.oy L O0;have J:=J.oT L n O;have o:=Below.oy o L aO;have n:=hb;exact Zn fun a g=>Xk<|b1 _ _<|Zr g<|Ze (Xs O O O0 O0)<|Zm O<|Zn fun a g=>Xb<|⟨(j+1,l2++[((f i j).getD dZ)]),⟨aI,aJ,g.sb,O0,(vI Q hx),e,n,J,o⟩,O3⟩
  have U:j=C.toNat:=by omega
  exact Q9<|Xf<|Xf<|Xv<|Xk<|aW _ _<|Zr g<|Ze (Xs O O O0 O0)<|Zm O<|Zn fun a g=>Xb<|⟨(i+1,l2),⟨M,N,g.sb,O0,(by rw[Wb,Nat.one_mul,<- U];rw[<- U] at Q;exact Q),e,n,p,o⟩,O3⟩
 have aF:i=R.toNat:=by omega
 refine Q9<|Xf<|Xf<|Xv<|aR _ _<|ZS g fun b9=>Ze (Vn fw n)<|Zo (Vw [vi R,vi C,.slice y l.length z] jg e) ?_;intro _ bW ⟨L,hb⟩;have h:=h.oT L e O;have o:=Below.oy o L G;have e:=hb;refine Za O<|Zt b9 fun a g=>Q6 (X4 g (dj g O (an.cellN (l:=[vi R,vi C,.slice y l.length z]) O fw (e.at 0) O) O) ?_);have he:ax R C f=some ⟨R,C,l⟩:=by rw[ax,Q4 hy,<- aF,hl];rfl
 rw[he];exact ⟨y,z,O,h,o⟩
end Go.Proofs.YtkhbopcihjobdaaGreatDoor
