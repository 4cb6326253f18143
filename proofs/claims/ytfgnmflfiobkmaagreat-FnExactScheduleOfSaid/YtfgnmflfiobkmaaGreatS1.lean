/-
  What is proved: for every circuit, the program's ScheduleOf answers as the reference's does, leaves its argument as it was, and returns memory of its own. Conditions: none.
-/
import Derived.WalkKit
import Derived.Maps.AppendAt
import Derived.Test.YtfgnmflfiobkmaaGreatProg
import Derived.Laws.StructEq
set_option linter.unusedVariables false
set_option linter.unusedSimpArgs false
namespace Go.Proofs.YtfgnmflfiobkmaaGreat
open Go.RowKit
def look (t : Nat) : List (Nat × Value) → Option Value
  | [] => none
  | (k, v) :: l => match Nat.beq k t with
    | true => some v
    | false => look t l
structure Fr (a : Act) (n : Nat) (e : List (Nat × Value)) : Prop where
  d : a.defers = []
  s : a.tmps.size = n
  h : ∀ t v, look t e = some v → a.tmps[t]? = some v
def ev (e : List (Nat × Value)) : Operand → Option Value
  | .tmp t => look t e
  | .const v => some v
  | .global g => some (.pointer (some ⟨g, 0, none⟩))
  | .func f => some (.func (.func f) #[] #[])
theorem Fr.ev {a : Act} {n : Nat} {e : List (Nat × Value)} {x : Operand} {v : Value} (hf : Fr a n e) (hx : ev e x = some v) : a.eval x = v := by
  cases x with
  | tmp t =>
    have := hf.h t v hx
    simp [Act.eval, this]
  | const u => simpa [YtfgnmflfiobkmaaGreat.ev, Act.eval] using hx
  | global g => simpa [YtfgnmflfiobkmaaGreat.ev, Act.eval] using hx
  | func f => simpa [YtfgnmflfiobkmaaGreat.ev, Act.eval] using hx
def evs (e : List (Nat × Value)) : List Operand → Option (List Value)
  | [] => some []
  | x :: l => match ev e x, evs e l with
    | some v, some vs => some (v :: vs)
    | _, _ => none
theorem Fr.evs {a : Act} {n : Nat} {e : List (Nat × Value)} (hf : Fr a n e) : ∀ {l : List Operand} {vs : List Value}, evs e l = some vs → l.map a.eval = vs := by
  intro l
  induction l with
  | nil => intro vs h; simpa [YtfgnmflfiobkmaaGreat.evs] using h
  | cons x l ih =>
    intro vs h
    simp only [YtfgnmflfiobkmaaGreat.evs] at h
    split at h
    · rename_i v us h1 h2
      injection h with h
      subst h
      simp [hf.ev h1, ih h2]
    · cases h
theorem look_cons_same (d : Nat) (v : Value) (e : List (Nat × Value)) : look d ((d, v) :: e) = some v := by simp [look]
theorem look_cons_ne {d t : Nat} (v : Value) (e : List (Nat × Value)) (h : d ≠ t) : look t ((d, v) :: e) = look t e := by
  have : Nat.beq d t = false := by
    cases hb : Nat.beq d t
    · rfl
    · exact absurd (Nat.eq_of_beq_eq_true hb) h
  simp [look, this]
theorem Fr.put {a : Act} {n : Nat} {e : List (Nat × Value)} (hf : Fr a n e) (d : Nat) (v : Value) (hd : Nat.blt d n = true) : Fr (a.put (some d) v) n ((d, v) :: e) := by
  have hd' : d < n := by simpa [Nat.blt_eq] using hd
  refine ⟨hf.d, by simp [Act.put, hf.s], fun t u hu => ?_⟩
  by_cases h : d = t
  · subst h
    rw [look_cons_same] at hu
    injection hu with hu
    subst hu
    simp [Act.put, hf.s, hd']
  · rw [look_cons_ne _ _ h] at hu
    simp [Act.put, Array.getElem?_setIfInBounds_ne h, hf.h t u hu]
theorem Fr.put_none {a : Act} {n : Nat} {e : List (Nat × Value)} (hf : Fr a n e) (v : Value) : Fr (a.put none v) n e := hf
def Sub (e : List (Nat × Value)) : List (Nat × Value) → Prop
  | [] => True
  | (t, v) :: l => look t e = some v ∧ Sub e l
theorem Fr.sub {a : Act} {n : Nat} {e e' : List (Nat × Value)} (hf : Fr a n e) (hs : Sub e e') : Fr a n e' := by
  refine ⟨hf.d, hf.s, ?_⟩
  induction e' with
  | nil => intro t v h; cases h
  | cons p l ih =>
    obtain ⟨k, u⟩ := p
    intro t v h
    by_cases hk : k = t
    · subst hk
      rw [look_cons_same] at h
      injection h with h
      subst h
      exact hf.h _ _ hs.1
    · rw [look_cons_ne _ _ hk] at h
      exact ih hs.2 t v h
def zipFrom : Nat → List Value → List (Nat × Value)
  | _, [] => []
  | k, v :: l => (k, v) :: zipFrom (k + 1) l
theorem look_zipFrom {l : List Value} {t : Nat} {v : Value} : ∀ {k : Nat}, look t (zipFrom k l) = some v → k ≤ t ∧ l[t - k]? = some v := by
  induction l with
  | nil => intro k h; cases h
  | cons u l ih =>
    intro k h
    simp only [zipFrom] at h
    by_cases hk : k = t
    · subst hk
      rw [look_cons_same] at h
      exact ⟨Nat.le_refl _, by simpa using h⟩
    · rw [look_cons_ne _ _ hk] at h
      obtain ⟨h1, h2⟩ := ih h
      refine ⟨by omega, ?_⟩
      have : t - k = (t - (k + 1)) + 1 := by omega
      rw [this, List.getElem?_cons_succ]
      exact h2
theorem calls_fr {P : Program} {f : FuncId} {fn : Func} {c : Code} {args : List Value} {w : World} {R : Ending → World → Prop}
    (hf : P.funcs[f]? = some fn) (hb : fn.body = some c) (n : Nat) (hn : fn.ntmps = n) (hl : Nat.ble args.length n = true)
    (h : ∀ a, Fr a n (zipFrom 0 args) → c.wp P (bodyPost P fn R) a w) : Calls P f args.toArray w R := by
  refine calls_of_wp hf hb (h _ ⟨rfl, ?_, ?_⟩)
  · have : args.length ≤ n := by simpa [Nat.ble_eq] using hl
    simp [hn]; omega
  · intro t v hv
    obtain ⟨_, h2⟩ := look_zipFrom hv
    have hlt : t < args.length := by
      have := (List.getElem?_eq_some_iff.1 h2).1
      simpa using this
    simp only [Nat.sub_zero] at h2
    rw [Array.getElem?_append_left (by simpa using hlt)]
    simpa using h2
def Ev (P : Program) (o : Oper) (a : Act) (w : World) (v : Value) : Prop := ∀ w', Below w.heap.size w w' → (execOp a.eval o).run P w' = .ok (.value v) w'
def EfU (P : Program) (R : Value → World → Prop) : Result Next → Prop
  | .ok (.value v) w' => R v w'
  | .ok .skip w' => R undef w'
  | .ok (.enter f args) w' => Calls P f args w' fun e w'' => ∃ v, e = .returned v ∧ R v w''
  | .ok (.row row args) w' => Rows P row args w' R
  | _ => False
def Ef (P : Program) (o : Oper) (a : Act) (w : World) (R : Value → World → Prop) : Prop := EfU P R ((execOp a.eval o).run P w)
theorem Ef.wp {P : Program} {o : Oper} {a : Act} {w : World} {R : Value → World → Prop} (h : Ef P o a w R) {K : Act → World → Prop} {Q : Exit → Act → World → Prop}
    (hK : ∀ v w', R v w' → K (a.put o.dst v) w') : o.wp P a w K Q := by
  unfold Ef at h
  unfold Oper.wp
  generalize (execOp a.eval o).run P w = r at *
  cases r with
  | ok nx w' =>
    cases nx <;> simp only [EfU] at h <;> simp only [Oper.upon]
    case value u => exact hK _ _ h
    case skip => exact hK _ _ h
    case enter f args =>
      refine Calls.mono h fun e w'' ⟨v, he, hR⟩ => ?_
      subst he
      exact hK _ _ hR
    case row row args => exact Rows.mono h fun u w'' hR => hK _ _ hR
  | halt x w' => simp only [EfU] at h
theorem Ef.of_run {P : Program} {o : Oper} {a : Act} {w w' : World} {v : Value} (h : (execOp a.eval o).run P w = .ok (.value v) w') : Ef P o a w fun u w1 => u = v ∧ w1 = w' := by
  unfold Ef
  rw [h]
  exact ⟨rfl, rfl⟩
theorem Ef.of_skip {P : Program} {o : Oper} {a : Act} {w w' : World} (h : (execOp a.eval o).run P w = .ok .skip w') : Ef P o a w fun u w1 => u = undef ∧ w1 = w' := by
  unfold Ef
  rw [h]
  exact ⟨rfl, rfl⟩
theorem Ef.mono {P : Program} {o : Oper} {a : Act} {w : World} {R R' : Value → World → Prop} (h : Ef P o a w R) (hr : ∀ v w', R v w' → R' v w') : Ef P o a w R' := by
  unfold Ef at *
  generalize (execOp a.eval o).run P w = r at *
  cases r with
  | ok nx w' =>
    cases nx <;> simp only [EfU] at h ⊢
    case value u => exact hr _ _ h
    case skip => exact hr _ _ h
    case enter f args => exact Calls.mono h fun e w'' ⟨v, he, hR⟩ => ⟨v, he, hr _ _ hR⟩
    case row row args => exact Rows.mono h hr
  | halt x w' => simp only [EfU] at h
theorem Ef.of_ev {P : Program} {o : Oper} {a : Act} {w : World} {v : Value} (h : Ev P o a w v) : Ef P o a w fun u w1 => u = v ∧ w1 = w := Ef.of_run (h w (Below.refl _ _))
def Want (ops : Array Oper) (o : Oper) (e : List (Nat × Value)) : Prop :=
  match o.guard with
  | none => True
  | some (j, b) => ∃ t b', (ops[j]?).bind (·.dst) = some t ∧ look t e = some (.bool b') ∧ b' = b
def notB : Value → Bool → Prop
  | .bool b', b => b' = !b
  | _, _ => True
def Pass (ops : Array Oper) (o : Oper) (e : List (Nat × Value)) : Prop :=
  match o.guard with
  | none => False
  | some (j, b) => ∃ t v, (ops[j]?).bind (·.dst) = some t ∧ look t e = some v ∧ notB v b
theorem Want.wanted {ops : Array Oper} {o : Oper} {a : Act} {n : Nat} {e : List (Nat × Value)} (h : Want ops o e) (hf : Fr a n e) : Region.wanted o (yielded ops a.tmps) = true := by
  unfold Want at h
  unfold Region.wanted
  split at h
  · rename_i hg; simp [hg]
  · rename_i j b hg
    obtain ⟨t, b', h1, h2, h3⟩ := h
    simp only [hg]
    unfold yielded
    simp [h1, hf.h _ _ h2, h3]
theorem Pass.wanted {ops : Array Oper} {o : Oper} {a : Act} {n : Nat} {e : List (Nat × Value)} (h : Pass ops o e) (hf : Fr a n e) : Region.wanted o (yielded ops a.tmps) = false := by
  unfold Pass at h
  unfold Region.wanted
  split at h
  · cases h
  · rename_i j b hg
    obtain ⟨t, v, h1, h2, h3⟩ := h
    simp only [hg]
    unfold yielded
    rw [h1, Option.bind_some, hf.h _ _ h2]
    cases v <;> first | rfl | (simp only [notB] at h3; subst h3; cases b <;> rfl)
section
variable {P : Program} {ops : Array Oper} {Q : Exit → Act → World → Prop} {a : Act} {w : World} {rest : List Oper} {o : Oper} {n d : Nat} {e : List (Nat × Value)}
theorem l_eff {R : Value → World → Prop} (hf : Fr a n e) (hw : Want ops o e) (hd : o.dst = some d) (hn : Nat.blt d n = true) (hr : Ef P o a w R)
    (h : ∀ a' v w', R v w' → Fr a' n ((d, v) :: e) → wpList P ops Q rest a' w') : wpList P ops Q (o :: rest) a w :=
  wpList_step fun K hK => by
    rw [if_pos (hw.wanted hf)]
    exact hr.wp fun v w' hR => hK _ _ (h _ v w' hR (by rw [hd]; exact hf.put d v hn))
theorem l_eff0 {R : Value → World → Prop} (hf : Fr a n e) (hw : Want ops o e) (hd : o.dst = none) (hr : Ef P o a w R)
    (h : ∀ a' v w', R v w' → Fr a' n e → wpList P ops Q rest a' w') : wpList P ops Q (o :: rest) a w :=
  wpList_step fun K hK => by
    rw [if_pos (hw.wanted hf)]
    exact hr.wp fun v w' hR => hK _ _ (h _ v w' hR (by rw [hd]; exact hf.put_none v))
theorem l_ev {v : Value} (hf : Fr a n e) (hw : Want ops o e) (hd : o.dst = some d) (hn : Nat.blt d n = true) (hr : Ev P o a w v)
    (h : ∀ a', Fr a' n ((d, v) :: e) → wpList P ops Q rest a' w) : wpList P ops Q (o :: rest) a w :=
  l_eff hf hw hd hn (Ef.of_ev hr) fun a' v' w' hR hf' => by
    obtain ⟨rfl, rfl⟩ := hR
    exact h a' hf'
theorem l_pass (hf : Fr a n e) (hw : Pass ops o e) (hd : o.dst = some d) (hn : Nat.blt d n = true)
    (h : ∀ a', Fr a' n ((d, undef) :: e) → wpList P ops Q rest a' w) : wpList P ops Q (o :: rest) a w :=
  wpList_step fun K hK => by
    rw [if_neg (by rw [hw.wanted hf]; simp)]
    exact hK _ _ (h _ (by rw [hd]; exact hf.put d undef hn))
end
section
variable {P : Program} {ops : Array Oper} {Q : Exit → Act → World → Prop} {a : Act} {w : World} {rest : List Oper} {op : Op} {ty : TypeId} {pos : String} {af : Array Edge} {n d : Nat} {e : List (Nat × Value)}
theorem l_e {v : Value} (hf : Fr a n e) (hn : Nat.blt d n = true) (hr : Ev P ⟨some d, op, ty, pos, af, none⟩ a w v) (h : ∀ a', Fr a' n ((d, v) :: e) → wpList P ops Q rest a' w) : wpList P ops Q (⟨some d, op, ty, pos, af, none⟩ :: rest) a w := l_ev hf trivial rfl hn hr h
theorem l_f {R : Value → World → Prop} (hf : Fr a n e) (hn : Nat.blt d n = true) (hr : Ef P ⟨some d, op, ty, pos, af, none⟩ a w R) (h : ∀ a' v w', R v w' → Fr a' n ((d, v) :: e) → wpList P ops Q rest a' w') : wpList P ops Q (⟨some d, op, ty, pos, af, none⟩ :: rest) a w := l_eff hf trivial rfl hn hr h
theorem l_f0 {R : Value → World → Prop} (hf : Fr a n e) (hr : Ef P ⟨none, op, ty, pos, af, none⟩ a w R) (h : ∀ a' v w', R v w' → Fr a' n e → wpList P ops Q rest a' w') : wpList P ops Q (⟨none, op, ty, pos, af, none⟩ :: rest) a w := l_eff0 hf trivial rfl hr h
theorem l_mv {x : Operand} {v : Value} (hf : Fr a n e) (hx : ev e x = some v) (hn : Nat.blt d n = true) (h : ∀ a', Fr a' n ((d, v) :: e) → wpList P ops Q rest a' w) : wpList P ops Q (⟨some d, .move x, ty, pos, af, none⟩ :: rest) a w := l_e hf hn (fun w' _ => by simp [execOp, hf.ev hx]) h
theorem l_as {x : Operand} {v : Value} (hf : Fr a n e) (hx : ev e x = some v) (hn : Nat.blt d n = true) (h : ∀ a', Fr a' n ((d, v) :: e) → wpList P ops Q rest a' w) : wpList P ops Q (⟨some d, .assign x, ty, pos, af, none⟩ :: rest) a w := l_e hf hn (fun w' _ => by simp [execOp, hf.ev hx]) h
end
structure Only (b : Nat) (w w' : World) : Prop where
  os : w'.os = w.os
  tape : w'.tape = w.tape
  output : w'.output = w.output
  size : w'.heap.size = w.heap.size
  block : ∀ k, k ≠ b → w'.heap[k]? = w.heap[k]?
theorem Only.refl (b : Nat) (w : World) : Only b w w := ⟨rfl, rfl, rfl, rfl, fun _ _ => rfl⟩
theorem Only.trans {b : Nat} {w w' w'' : World} (h : Only b w w') (k : Only b w' w'') : Only b w w'' :=
  ⟨k.os.trans h.os, k.tape.trans h.tape, k.output.trans h.output, k.size.trans h.size, fun i hi => (k.block i hi).trans (h.block i hi)⟩
structure Kept (b B : Nat) (w w' : World) : Prop where
  os : w'.os = w.os
  tape : w'.tape = w.tape
  output : w'.output = w.output
  size : w.heap.size ≤ w'.heap.size
  block : ∀ k, k < B → k ≠ b → w'.heap[k]? = w.heap[k]?
theorem Kept.refl (b B : Nat) (w : World) : Kept b B w w := ⟨rfl, rfl, rfl, Nat.le_refl _, fun _ _ _ => rfl⟩
theorem Kept.of_below {b B : Nat} {w w' : World} (h : Below B w w') : Kept b B w w' := ⟨h.os, h.tape, h.output, h.size, fun k hk _ => h.block k hk⟩
theorem Kept.trans {b B : Nat} {w w' w'' : World} (h : Kept b B w w') (k : Below B w' w'') : Kept b B w w'' :=
  ⟨k.os.trans h.os, k.tape.trans h.tape, k.output.trans h.output, Nat.le_trans h.size k.size, fun i hi hn => (k.block i hi).trans (h.block i hi hn)⟩
theorem Kept.transK {b B : Nat} {w w' w'' : World} (h : Kept b B w w') (k : Kept b B w' w'') : Kept b B w w'' :=
  ⟨k.os.trans h.os, k.tape.trans h.tape, k.output.trans h.output, Nat.le_trans h.size k.size, fun i hi hn => (k.block i hi hn).trans (h.block i hi hn)⟩
theorem Kept.mono {b B B' : Nat} {w w' : World} (h : Kept b B w w') (hB : B' ≤ B) : Kept b B' w w' := ⟨h.os, h.tape, h.output, h.size, fun k hk => h.block k (Nat.lt_of_lt_of_le hk hB)⟩
theorem Kept.only {b b' B : Nat} {w w' w'' : World} (h : Kept b B w w') (ho : Only b' w' w'') (hB : B ≤ b') : Kept b B w w'' :=
  h.trans ⟨ho.os, ho.tape, ho.output, by rw [ho.size]; exact Nat.le_refl _, fun k hk => ho.block k (by omega)⟩
theorem Kept.self {b B : Nat} {w w' w'' : World} (h : Kept b B w w') (ho : Only b w' w'') : Kept b B w w'' :=
  h.transK ⟨ho.os, ho.tape, ho.output, by rw [ho.size]; exact Nat.le_refl _, fun k _ hk => ho.block k hk⟩
theorem Kept.mid {b : Nat} {w w' : World} (h : Kept b w.heap.size w w') : ∃ w1, Only b w w1 ∧ (b < w.heap.size → w1.heap[b]? = w'.heap[b]?) ∧ Below w1.heap.size w1 w' := by
  cases hb : w'.heap[b]? with
  | none =>
    have hlt : w.heap.size ≤ b := Nat.le_trans h.size (Array.getElem?_eq_none_iff.1 hb)
    refine ⟨w, Only.refl _ _, fun h' => by omega, ⟨h.os, h.tape, h.output, h.size, fun k hk => h.block k hk (by omega)⟩⟩
  | some o =>
    refine ⟨{ w with heap := w.heap.setIfInBounds b o }, ⟨rfl, rfl, rfl, by simp, fun k hk => ?_⟩, fun h' => ?_, ⟨h.os, h.tape, h.output, by simpa using h.size, fun k hk => ?_⟩⟩
    · show (w.heap.setIfInBounds b o)[k]? = _
      rw [Array.getElem?_setIfInBounds_ne (Ne.symm hk)]
    · show (w.heap.setIfInBounds b o)[b]? = _
      simp [h']
    · have hk' : k < w.heap.size := by simpa using hk
      show _ = (w.heap.setIfInBounds b o)[k]?
      by_cases hkb : k = b
      · subst hkb
        simp [hk', hb]
      · rw [Array.getElem?_setIfInBounds_ne (Ne.symm hkb)]
        exact h.block k hk' hkb
theorem btr {w0 w w' : World} (h : Below w0.heap.size w0 w) (hE : Below w.heap.size w w') : Below w0.heap.size w0 w' := h.trans (hE.mono h.size)
theorem ktr {b : Nat} {w0 w w' : World} (h : Kept b w0.heap.size w0 w) (hE : Below w.heap.size w w') : Kept b w0.heap.size w0 w' := h.trans (hE.mono h.size)
def Keep (V : Option Nat) (w w' : World) : Prop := match V with
  | none => Below w.heap.size w w'
  | some b => ∃ w1, Only b w w1 ∧ Below w.heap.size w1 w'
theorem Keep.refl (V : Option Nat) (w : World) : Keep V w w := by
  cases V with
  | none => exact Below.refl _ _
  | some b => exact ⟨w, Only.refl _ _, Below.refl _ _⟩
theorem Keep.kept {b : Nat} {w w' : World} (h : Keep (some b) w w') : Kept b w.heap.size w w' := by
  obtain ⟨w1, h1, h2⟩ := h
  exact (Kept.self (Kept.refl b w.heap.size w) h1).trans h2
theorem Kept.keep {b : Nat} {w w' : World} (h : Kept b w.heap.size w w') : Keep (some b) w w' := by
  obtain ⟨w1, h1, _, h2⟩ := h.mid
  exact ⟨w1, h1, by rw [← h1.size]; exact h2⟩
theorem Keep.of_below {V : Option Nat} {w w' : World} (h : Below w.heap.size w w') : Keep V w w' := by
  cases V with
  | none => exact h
  | some b => exact ⟨w, Only.refl _ _, h⟩
theorem Keep.trans {V : Option Nat} {w w' w'' : World} (h : Keep V w w') (k : Keep V w' w'') : Keep V w w'' := by
  cases V with
  | none => exact Below.trans h (Below.mono k h.size)
  | some b => exact (h.kept.transK (k.kept.mono h.kept.size)).keep
section
variable {P : Program} {ops : Array Oper} {Q : Act → World → Prop} {tl : Nat → Bool} {V : Option Nat}
def wpR (P : Program) (ops : Array Oper) (V : Option Nat) (tl : Nat → Bool) (i : Nat) (K : Act → World → Prop) (a : Act) (w : World) : Prop :=
  match ops[i]? with
  | none => K a w
  | some o => if Region.wanted o (yielded ops a.tmps) then Ef P o a w (fun v w' => (tl i = false → Keep V w w') ∧ K (a.put o.dst v) w') else K (a.put o.dst undef) w
def wpS (P : Program) (ops : Array Oper) (V : Option Nat) (tl : Nat → Bool) (Q : Act → World → Prop) : Nat → Array Bool → Act → World → Prop
  | 0, listed, a, w => Region.ready .any ops listed = [] ∧ Q a w
  | fuel + 1, listed, a, w => (Region.ready .any ops listed = [] → Q a w) ∧ ∀ i ∈ Region.ready .any ops listed, wpR P ops V tl i (wpS P ops V tl Q fuel (listed.setIfInBounds i true)) a w
theorem wpR_mono {i : Nat} {K K' : Act → World → Prop} {a : Act} {w : World} (h : ∀ a w, K a w → K' a w) (hh : wpR P ops V tl i K a w) : wpR P ops V tl i K' a w := by
  unfold wpR at *
  split
  · exact h _ _ (by simpa [*] using hh)
  · rename_i o ho
    simp only [ho] at hh
    split
    · rename_i hw
      simp only [hw, if_true] at hh
      exact hh.mono fun v w' ⟨h1, h2⟩ => ⟨h1, h _ _ h2⟩
    · rename_i hw
      simp only [hw] at hh
      exact h _ _ hh
theorem wpAny_of_wpS {Q' : Exit → Act → World → Prop} (hQ : ∀ a w, Q a w → Q' .normal a w) : ∀ (fuel : Nat) (listed : Array Bool) (a : Act) (w : World), wpS P ops V tl Q fuel listed a w → wpAny P .any ops Q' fuel listed a w
  | 0, _, _, _, h => ⟨h.1, hQ _ _ h.2⟩
  | fuel + 1, listed, a, w, h => by
    refine ⟨fun h0 => hQ _ _ (h.1 h0), fun i hi => ?_⟩
    have h1 := h.2 i hi
    unfold wpR at h1
    unfold wpOp
    split
    · rename_i ho; simp only [ho] at h1; exact wpAny_of_wpS hQ fuel _ _ _ h1
    · rename_i o ho
      simp only [ho] at h1
      split
      · rename_i hw
        simp only [hw, if_true] at h1
        exact .inl (h1.wp fun v w' hR => wpAny_of_wpS hQ fuel _ _ _ hR.2)
      · rename_i hw
        simp only [hw] at h1
        exact wpAny_of_wpS hQ fuel _ _ _ h1
def YC (P : Program) (ops : Array Oper) (C : World → Prop) (o : Oper) (v : Value) (a : Act) : Prop :=
  (Region.wanted o (yielded ops a.tmps) = true ∧ ∀ w, C w → (execOp a.eval o).run P w = .ok (.value v) w) ∨ (Region.wanted o (yielded ops a.tmps) = false ∧ v = undef)
theorem YC.of_same {C : World → Prop} {o : Oper} {v : Value} {a a' : Act} (hy : YC P ops C o v a) (he : execOp a'.eval o = execOp a.eval o)
    (hw : Region.wanted o (yielded ops a'.tmps) = Region.wanted o (yielded ops a.tmps)) : YC P ops C o v a' := by
  unfold YC at *
  rw [he, hw]
  exact hy
theorem YC.wpR {C : World → Prop} {i : Nat} {o : Oper} {v : Value} {a : Act} {w : World} (hi : ops[i]? = some o) (hC : C w) (hy : YC P ops C o v a) {K : Act → World → Prop} (h : K (a.put o.dst v) w) : wpR P ops V tl i K a w := by
  unfold YtfgnmflfiobkmaaGreat.wpR
  simp only [hi]
  rcases hy with ⟨hw, hv⟩ | ⟨hw, rfl⟩
  · simp only [hw, if_true]
    exact (Ef.of_run (hv w hC)).mono fun u w' ⟨e1, e2⟩ => by subst e1; subst e2; exact ⟨fun _ => Keep.refl _ _, h⟩
  · simp only [hw, Bool.false_eq_true, if_false]; exact h
theorem Ef_put {oi oj : Oper} {v : Value} (h1 : ∀ d, oi.dst = some d → d ∉ oj.looksAt ops) (hsj : ∀ cs b, oj.op ≠ .select cs b)
    {a : Act} {w : World} {R : Value → World → Prop} (h : Ef P oj (a.put oi.dst v) w R) : Ef P oj a w R := by
  unfold Ef at *
  rwa [execOp_put oj hsj a oi.dst v h1] at h
theorem wpR_put {C : World → Prop} {j : Nat} {oi oj : Oper} {v : Value} (hj : ops[j]? = some oj) (hap : oi.apart ops oj = true)
    (hsi : ∀ cs b, oi.op ≠ .select cs b) (hsj : ∀ cs b, oj.op ≠ .select cs b) (hC : ∀ w w', C w → (tl j = false → Keep V w w') → C w') {K : Act → World → Prop} {a : Act} {w : World} (hw0 : C w)
    (hy : YC P ops C oi v a) (h : wpR P ops V tl j K (a.put oi.dst v) w) : wpR P ops V tl j (fun a' w' => C w' ∧ YC P ops C oi v a' ∧ K (a'.put oi.dst v) w') a w := by
  obtain ⟨h1, h2, h3⟩ := Oper.apart_spec hap
  have keep : ∀ (a : Act), YC P ops C oi v a → ∀ u, YC P ops C oi v (a.put oj.dst u) := fun a hy u =>
    hy.of_same (execOp_put oi hsi a oj.dst u h3) (wanted_put oi a oj.dst u h3)
  unfold wpR at *
  simp only [hj] at *
  rw [wanted_put oj a oi.dst v h1] at h
  split
  · rename_i hw
    simp only [hw, if_true] at h
    exact (Ef_put h1 hsj h).mono fun u w' ⟨hb, hk⟩ => ⟨hb, hC w w' hw0 hb, keep a hy u, by rw [← Act.put_comm a v u h2]; exact hk⟩
  · rename_i hw
    simp only [hw] at h
    exact ⟨hw0, keep a hy _, by rw [← Act.put_comm a v undef h2]; exact h⟩
def Closed (ops : Array Oper) (listed : Array Bool) : Prop := ∀ k ok, ops[k]? = some ok → listed.getD k false = true → ∀ e ∈ ok.after, Region.binds .any e = true → listed.getD e.on false = true
theorem getD_set_true {listed : Array Bool} {j k : Nat} (h : listed.getD k false = true) : (listed.setIfInBounds j true).getD k false = true := by
  rcases Nat.lt_or_ge k listed.size with hk | hk
  · by_cases hjk : j = k
    · subst hjk; simp [hk]
    · simpa [hk, Array.getElem_setIfInBounds_ne _ hjk] using h
  · simp [Array.getElem?_eq_none hk] at h
theorem Closed.set {listed : Array Bool} {j : Nat} {oj : Oper} (h : Closed ops listed) (hj : ops[j]? = some oj) (hall : ∀ e ∈ oj.after, Region.binds .any e = true → listed.getD e.on false = true) : Closed ops (listed.setIfInBounds j true) := fun k ok hk hl e he hb => by
  by_cases hjk : j = k
  · subst hjk
    rw [hj] at hk
    injection hk with hk
    subst hk
    exact getD_set_true (hall e he hb)
  · rw [getD_set_ne false hjk] at hl
    exact getD_set_true (h k ok hk hl e he hb)
def reach (ops : Array Oper) (i : Nat) : Nat → Nat → Bool
  | 0, _ => false
  | f + 1, j => match ops[j]? with
    | some oj => oj.after.any fun e => Region.binds .any e && (e.on == i || reach ops i f e.on)
    | none => false
theorem reach_listed {listed : Array Bool} {i : Nat} (hcl : Closed ops listed) : ∀ (f j : Nat) (oj : Oper), ops[j]? = some oj → (∀ e ∈ oj.after, Region.binds .any e = true → listed.getD e.on false = true) → reach ops i f j = true → listed.getD i false = true
  | 0, _, _, _, _, h => by cases h
  | f + 1, j, oj, hj, hall, h => by
    simp only [reach, hj] at h
    obtain ⟨e, he, hb⟩ := Array.any_eq_true'.1 h
    simp only [Bool.and_eq_true, Bool.or_eq_true, beq_iff_eq] at hb
    have h1 := hall e he hb.1
    rcases hb.2 with h2 | h2
    · rw [← h2]; exact h1
    · cases hk : ops[e.on]? with
      | none =>
        cases f with
        | zero => cases h2
        | succ f => simp only [reach, hk] at h2; cases h2
      | some ok => exact reach_listed hcl f e.on ok hk (hcl e.on ok hk h1) h2
theorem wpS_first {C : World → Prop} {i : Nat} {oi : Oper} {v : Value} (hi : ops[i]? = some oi) (hsel : ∀ (j : Nat) (o : Oper) cs b, ops[j]? = some o → o.op ≠ .select cs b)
    (hC : ∀ j oj, ops[j]? = some oj → (∀ listed, Closed ops listed → (∀ e ∈ oj.after, Region.binds .any e = true → listed.getD e.on false = true) → listed.getD i true = false → ∀ w w', C w → (tl j = false → Keep V w w') → C w')) :
    ∀ (fuel : Nat) (listed : Array Bool) (a : Act) (w : World), Closed ops listed →
      (∀ j oj, ops[j]? = some oj → j ≠ i → listed.getD j true = false → (∀ e ∈ oj.after, Region.binds .any e = true → e.on ≠ i) → oi.apart ops oj = true) →
      i ∈ Region.ready .any ops listed → C w → YC P ops C oi v a →
      wpS P ops V tl Q fuel (listed.setIfInBounds i true) (a.put oi.dst v) w → wpS P ops V tl Q (fuel + 1) listed a w := by
  intro fuel
  induction fuel with
  | zero =>
    intro listed a w _ _ hr hw hy H
    refine ⟨fun h => (by rw [h] at hr; cases hr), fun j hj => ?_⟩
    by_cases hji : j = i
    · subst hji; exact hy.wpR hi hw H
    · have := ready_mono hj hji
      rw [H.1] at this
      cases this
  | succ fuel ih =>
    intro listed a w hcl hfree hr hw hy H
    refine ⟨fun h => (by rw [h] at hr; cases hr), fun j hj => ?_⟩
    by_cases hji : j = i
    · subst hji; exact hy.wpR hi hw H
    · have h1 := H.2 j (ready_mono hj hji)
      obtain ⟨hjun, oj, hoj, hall⟩ := mem_ready.1 hj
      have hnot : ∀ e ∈ oj.after, Region.binds .any e = true → e.on ≠ i := fun e he hb heq => by
        have h1 := hall e he hb
        have h0 := (mem_ready.1 hr).1
        rw [heq] at h1
        rcases Nat.lt_or_ge i listed.size with h' | h'
        · simp [h'] at h0 h1; rw [h0] at h1; cases h1
        · simp [Array.getElem?_eq_none h'] at h1
      have h2 := wpR_put hoj (hfree j oj hoj hji hjun hnot) (fun cs b => hsel i oi cs b hi) (fun cs b => hsel j oj cs b hoj) (hC j oj hoj listed hcl hall (mem_ready.1 hr).1) hw hy h1
      have hfree' : ∀ k ok, ops[k]? = some ok → k ≠ i → (listed.setIfInBounds j true).getD k true = false →
          (∀ e ∈ ok.after, Region.binds .any e = true → e.on ≠ i) → oi.apart ops ok = true := fun k ok hk hki hun hno => by
        refine hfree k ok hk hki ?_ hno
        by_cases hjk : j = k
        · subst hjk; exact hjun
        · rw [getD_set_ne true hjk] at hun; exact hun
      refine wpR_mono (fun a' w' h3 => ih (listed.setIfInBounds j true) a' w' (hcl.set hoj hall) hfree' (ready_mono hr (Ne.symm hji)) h3.1 h3.2.1 ?_) h2
      rw [Array.setIfInBounds_comm _ _ hji]
      exact h3.2.2
def mask (ops : Array Oper) (done : List Nat) : Array Bool := (Array.range ops.size).map fun i => done.contains i
theorem mask_set (ops : Array Oper) (done : List Nat) (i : Nat) : (mask ops done).setIfInBounds i true = mask ops (i :: done) := by
  apply Array.ext
  · simp [mask]
  · intro k h1 h2
    simp only [mask, Array.size_setIfInBounds, Array.size_map, Array.size_range] at h1
    by_cases hk : i = k
    · subst hk
      simp [mask]
    · have hk' : ¬ k = i := fun h => hk h.symm
      rw [Array.getElem_setIfInBounds_ne (by simpa [mask] using h1) hk]
      simp [mask, hk']
theorem mask_nil (ops : Array Oper) : Array.replicate ops.size false = mask ops [] := by
  apply Array.ext <;> simp [mask]
def closedB (ops : Array Oper) (done : List Nat) : Bool := done.all fun k => match ops[k]? with
  | some ok => ok.after.all fun e => !(Region.binds .any e) || done.contains e.on && Nat.blt e.on ops.size
  | none => true
def mayFirst (ops : Array Oper) (done : List Nat) (i : Nat) : Bool :=
  Region.noSelect ops && Region.free .any ops (mask ops done) i && (Region.ready .any ops (mask ops done)).contains i && closedB ops done
theorem mask_getD {done : List Nat} {k : Nat} (d : Bool) (h : k < ops.size) : (mask ops done).getD k d = done.contains k := by
  simp [mask, h]
theorem mask_getD' {done : List Nat} {k : Nat} (h : (mask ops done).getD k false = true) : done.contains k = true := by
  rcases Nat.lt_or_ge k ops.size with h' | h'
  · rwa [mask_getD false h'] at h
  · simp [mask, h'] at h
theorem closedB_spec {done : List Nat} (h : closedB ops done = true) : Closed ops (mask ops done) := fun k ok hk hl e he hb => by
  have h1 := mask_getD' hl
  simp only [closedB, List.all_eq_true] at h
  have h2 := h k (by simpa using h1)
  simp only [hk] at h2
  have h3 := Array.all_eq_true'.1 h2 e he
  simp only [hb, Bool.not_true, Bool.false_or, Bool.and_eq_true] at h3
  have h4 : e.on < ops.size := by simpa [Nat.blt_eq] using h3.2
  rw [mask_getD false h4]
  exact h3.1
def tailWaits (ops : Array Oper) (tl : Nat → Bool) (i : Nat) : Bool :=
  (List.range ops.size).all fun j => !tl j || reach ops i 9 j
theorem tailWaits_spec {i : Nat} (h : tailWaits ops tl i = true) (j : Nat) (oj : Oper) (hj : ops[j]? = some oj) {listed : Array Bool} (hcl : Closed ops listed) (hall : ∀ e ∈ oj.after, Region.binds .any e = true → listed.getD e.on false = true) (hi : listed.getD i true = false) : tl j = false := by
  simp only [tailWaits, List.all_eq_true, List.mem_range] at h
  have h1 := h j (Array.getElem?_eq_some_iff.1 hj).1
  simp only [Bool.or_eq_true, Bool.not_eq_true'] at h1
  rcases h1 with h1 | h1
  · exact h1
  · have h2 := reach_listed hcl 9 j oj hj hall h1
    rcases Nat.lt_or_ge i listed.size with h' | h'
    · simp [h'] at h2 hi; rw [h2] at hi; cases hi
    · simp [h'] at h2
section
variable {a : Act} {w : World} {n d fuel : Nat} {e : List (Nat × Value)} {o : Oper} {done : List Nat}
theorem s_evK (i : Nat) {v : Value} (hi : ops[i]? = some o) (hm : mayFirst ops done i = true) (ht : tailWaits ops tl i = true) (hf : Fr a n e) (hw : Want ops o e) (hd : o.dst = some d) (hn : Nat.blt d n = true)
    (hr : ∀ w', Keep V w w' → (execOp a.eval o).run P w' = .ok (.value v) w') (h : ∀ a', Fr a' n ((d, v) :: e) → wpS P ops V tl Q fuel (mask ops (i :: done)) a' w) : wpS P ops V tl Q (fuel + 1) (mask ops done) a w := by
  simp only [mayFirst, Bool.and_eq_true] at hm
  refine wpS_first (C := fun w' => Keep V w w') hi (Region.noSelect_spec hm.1.1.1) (fun j oj hj lst hcl hall hun w1 w2 h1 h2 => ?_) fuel _ a w (closedB_spec hm.2) (Region.free_spec hi hm.1.1.2) (by simpa using hm.1.2) (Keep.refl _ _) (.inl ⟨hw.wanted hf, hr⟩) ?_
  · exact h1.trans (h2 (tailWaits_spec ht j oj hj hcl hall hun))
  · rw [mask_set]
    exact h _ (by rw [hd]; exact hf.put d v hn)
theorem s_ev (i : Nat) {v : Value} (hi : ops[i]? = some o) (hm : mayFirst ops done i = true) (ht : tailWaits ops tl i = true) (hf : Fr a n e) (hw : Want ops o e) (hd : o.dst = some d) (hn : Nat.blt d n = true)
    (hr : Ev P o a w v) (h : ∀ a', Fr a' n ((d, v) :: e) → wpS P ops none tl Q fuel (mask ops (i :: done)) a' w) : wpS P ops none tl Q (fuel + 1) (mask ops done) a w := s_evK i hi hm ht hf hw hd hn hr h
theorem s_evV (i : Nat) {b : Nat} {v : Value} (hi : ops[i]? = some o) (hm : mayFirst ops done i = true) (ht : tailWaits ops tl i = true) (hf : Fr a n e) (hw : Want ops o e) (hd : o.dst = some d) (hn : Nat.blt d n = true)
    (hr : ∀ w1, Only b w w1 → Ev P o a w1 v) (h : ∀ a', Fr a' n ((d, v) :: e) → wpS P ops (some b) tl Q fuel (mask ops (i :: done)) a' w) : wpS P ops (some b) tl Q (fuel + 1) (mask ops done) a w :=
  s_evK i hi hm ht hf hw hd hn (fun w' ⟨w1, h1, h2⟩ => hr w1 h1 w' (by rw [h1.size]; exact h2)) h
theorem s_ev0 (i : Nat) {v : Value} (hi : ops[i]? = some o) (hm : mayFirst ops done i = true) (hf : Fr a n e) (hw : Want ops o e) (hd : o.dst = some d) (hn : Nat.blt d n = true)
    (hr : ∀ w, Ev P o a w v) (h : ∀ a', Fr a' n ((d, v) :: e) → wpS P ops V tl Q fuel (mask ops (i :: done)) a' w) : wpS P ops V tl Q (fuel + 1) (mask ops done) a w := by
  simp only [mayFirst, Bool.and_eq_true] at hm
  refine wpS_first (C := fun _ => True) hi (Region.noSelect_spec hm.1.1.1) (fun _ _ _ _ _ _ _ _ _ _ _ => trivial) fuel _ a w (closedB_spec hm.2) (Region.free_spec hi hm.1.1.2) (by simpa using hm.1.2) trivial (.inl ⟨hw.wanted hf, fun w' _ => hr w' w' (Below.refl _ _)⟩) ?_
  rw [mask_set]
  exact h _ (by rw [hd]; exact hf.put d v hn)
theorem s_pass (i : Nat) (hi : ops[i]? = some o) (hm : mayFirst ops done i = true) (hf : Fr a n e) (hw : Pass ops o e) (hd : o.dst = some d) (hn : Nat.blt d n = true)
    (h : ∀ a', Fr a' n ((d, undef) :: e) → wpS P ops V tl Q fuel (mask ops (i :: done)) a' w) : wpS P ops V tl Q (fuel + 1) (mask ops done) a w := by
  simp only [mayFirst, Bool.and_eq_true] at hm
  refine wpS_first (C := fun _ => True) hi (Region.noSelect_spec hm.1.1.1) (fun _ _ _ _ _ _ _ _ _ _ _ => trivial) fuel _ a w (closedB_spec hm.2) (Region.free_spec hi hm.1.1.2) (by simpa using hm.1.2) trivial (.inr ⟨hw.wanted hf, rfl⟩) ?_
  rw [mask_set]
  exact h _ (by rw [hd]; exact hf.put d undef hn)
theorem s_e {op : Op} {ty : TypeId} {pos : String} {af : Array Edge} (i : Nat) {v : Value} (hi : ops[i]? = some ⟨some d, op, ty, pos, af, none⟩) (hm : mayFirst ops done i = true) (ht : tailWaits ops tl i = true) (hf : Fr a n e) (hn : Nat.blt d n = true)
    (hr : Ev P ⟨some d, op, ty, pos, af, none⟩ a w v) (h : ∀ a', Fr a' n ((d, v) :: e) → wpS P ops none tl Q fuel (mask ops (i :: done)) a' w) : wpS P ops none tl Q (fuel + 1) (mask ops done) a w := s_ev i hi hm ht hf trivial rfl hn hr h
theorem s_e0 {op : Op} {ty : TypeId} {pos : String} {af : Array Edge} (i : Nat) {v : Value} (hi : ops[i]? = some ⟨some d, op, ty, pos, af, none⟩) (hm : mayFirst ops done i = true) (hf : Fr a n e) (hn : Nat.blt d n = true)
    (hr : ∀ w, Ev P ⟨some d, op, ty, pos, af, none⟩ a w v) (h : ∀ a', Fr a' n ((d, v) :: e) → wpS P ops V tl Q fuel (mask ops (i :: done)) a' w) : wpS P ops V tl Q (fuel + 1) (mask ops done) a w := s_ev0 i hi hm hf trivial rfl hn hr h
theorem s_one (i : Nat) (hr : Region.ready .any ops (mask ops done) = [i]) (h : wpR P ops V tl i (wpS P ops V tl Q fuel (mask ops (i :: done))) a w) : wpS P ops V tl Q (fuel + 1) (mask ops done) a w := by
  refine ⟨fun h0 => (by rw [hr] at h0; cases h0), fun j hj => ?_⟩
  rw [hr] at hj
  obtain rfl : j = i := by simpa using hj
  rw [mask_set]
  exact h
theorem s_two (i j : Nat) (hr : Region.ready .any ops (mask ops done) = [i, j]) (hi : wpR P ops V tl i (wpS P ops V tl Q fuel (mask ops (i :: done))) a w)
    (hj : wpR P ops V tl j (wpS P ops V tl Q fuel (mask ops (j :: done))) a w) : wpS P ops V tl Q (fuel + 1) (mask ops done) a w := by
  refine ⟨fun h0 => (by rw [hr] at h0; cases h0), fun k hk => ?_⟩
  rw [hr] at hk
  rw [mask_set]
  simp only [List.mem_cons, List.not_mem_nil, or_false] at hk
  rcases hk with rfl | rfl
  · exact hi
  · exact hj
theorem s_three (i j k : Nat) (hr : Region.ready .any ops (mask ops done) = [i, j, k]) (hi : wpR P ops V tl i (wpS P ops V tl Q fuel (mask ops (i :: done))) a w)
    (hj : wpR P ops V tl j (wpS P ops V tl Q fuel (mask ops (j :: done))) a w) (hk : wpR P ops V tl k (wpS P ops V tl Q fuel (mask ops (k :: done))) a w) : wpS P ops V tl Q (fuel + 1) (mask ops done) a w := by
  refine ⟨fun h0 => (by rw [hr] at h0; cases h0), fun m hm => ?_⟩
  rw [hr] at hm
  rw [mask_set]
  simp only [List.mem_cons, List.not_mem_nil, or_false] at hm
  rcases hm with rfl | rfl | rfl
  · exact hi
  · exact hj
  · exact hk
def sameL (L D : List Nat) : Bool := L.all D.contains && D.all L.contains
theorem mask_same {L D : List Nat} (h : sameL L D = true) : mask ops L = mask ops D := by
  unfold mask
  apply Array.map_congr_left
  intro i _
  unfold sameL at h
  rw [Bool.and_eq_true] at h
  rw [Bool.eq_iff_iff, List.contains_iff_mem, List.contains_iff_mem]
  exact ⟨fun hi => List.contains_iff_mem.1 (List.all_eq_true.1 h.1 i hi), fun hi => List.contains_iff_mem.1 (List.all_eq_true.1 h.2 i hi)⟩
theorem s_cut {D0 : List Nat} {a : Act} {w : World} (D : List Nat) (m : Nat) (X : Act → World → Prop) (h1 : ∀ a w, X a w → wpS P ops V tl Q m (mask ops D) a w)
    (h2 : (∀ L a w, sameL L D = true → X a w → wpS P ops V tl Q m (mask ops L) a w) → wpS P ops V tl Q fuel (mask ops D0) a w) : wpS P ops V tl Q fuel (mask ops D0) a w :=
  h2 fun L a w h hx => by rw [mask_same h]; exact h1 a w hx
theorem ef_of_ev {a : Act} {w : World} {o : Oper} {v : Value} (h : Ev P o a w v) : Ef P o a w (fun v' w' => v' = v ∧ w = w') := by
  unfold Ef
  rw [h w (Below.refl _ _)]
  exact ⟨rfl, rfl⟩
theorem s_done (hr : Region.ready .any ops (mask ops done) = []) (h : Q a w) : wpS P ops V tl Q fuel (mask ops done) a w := by
  cases fuel with
  | zero => exact ⟨hr, h⟩
  | succ f => exact ⟨fun _ => h, fun j hj => by rw [hr] at hj; cases hj⟩
theorem p_eff {i : Nat} {K : Act → World → Prop} {R : Value → World → Prop} (hi : ops[i]? = some o) (hf : Fr a n e) (hw : Want ops o e) (hd : o.dst = some d) (hn : Nat.blt d n = true)
    (hr : Ef P o a w fun v w' => (tl i = false → Keep V w w') ∧ R v w') (h : ∀ a' v w', R v w' → Fr a' n ((d, v) :: e) → K a' w') : wpR P ops V tl i K a w := by
  unfold wpR
  simp only [hi]
  rw [if_pos (hw.wanted hf)]
  exact hr.mono fun v w' ⟨h1, h2⟩ => ⟨h1, h _ v w' h2 (by rw [hd]; exact hf.put d v hn)⟩
theorem p_eff0 {i : Nat} {K : Act → World → Prop} {R : Value → World → Prop} (hi : ops[i]? = some o) (hf : Fr a n e) (hw : Want ops o e) (hd : o.dst = none)
    (hr : Ef P o a w fun v w' => (tl i = false → Keep V w w') ∧ R v w') (h : ∀ a' v w', R v w' → Fr a' n e → K a' w') : wpR P ops V tl i K a w := by
  unfold wpR
  simp only [hi]
  rw [if_pos (hw.wanted hf)]
  exact hr.mono fun v w' ⟨h1, h2⟩ => ⟨h1, h _ v w' h2 (by rw [hd]; exact hf.put_none v)⟩
theorem p_pass {i : Nat} {K : Act → World → Prop} (hi : ops[i]? = some o) (hf : Fr a n e) (hw : Pass ops o e) (hd : o.dst = some d) (hn : Nat.blt d n = true)
    (h : ∀ a', Fr a' n ((d, undef) :: e) → K a' w) : wpR P ops V tl i K a w := by
  unfold wpR
  simp only [hi]
  rw [if_neg (by rw [hw.wanted hf]; simp)]
  exact h _ (by rw [hd]; exact hf.put d undef hn)
theorem g_split {G : Prop} {a : Act} {n t : Nat} {e : List (Nat × Value)} {b : Bool} (_ : Fr a n e) (_ : look t e = some (.bool b)) (h1 : b = true → G) (h2 : b = false → G) : G := by
  cases b
  · exact h2 rfl
  · exact h1 rfl
theorem wp_draw (V : Option Nat) (tl : Nat → Bool) {id : Nat} {l : List Oper} {Q' : Exit → Act → World → Prop} (hm : P.follows .mixedOrders = true)
    (h : ∀ w', Below w.heap.size w w' → wpS P l.toArray V tl (Q' .normal) l.length (mask l.toArray []) a w') : (Code.region id l.toArray true).wp P Q' a w := by
  refine wp_region_any hm ?_
  rw [mask_nil]
  exact wpAny_of_wpS (fun _ _ h => h) _ _ _ _ (by simpa using h w.drew (Below.refl _ _).drew)
end
end
end Go.Proofs.YtfgnmflfiobkmaaGreat
namespace Go.Proofs.YtfgnmflfiobkmaaGreat
open Go.RowKit
abbrev Env := List (Nat × Value)
def At (w : World) (p : Addr) (l : List Value) : Prop := ∀ j v, l[j]? = some v → w.cell? (p.add j) = some v
def Blk (w : World) (b : Nat) (T : TypeId) (l : List Value) : Prop := w.heap[b]? = some (.cells l.toArray T (0, 0))
theorem addr_add_add (p : Addr) (i j : Nat) : (p.add i).add j = p.add (i + j) := by
  unfold Addr.add
  by_cases hi : i = 0 <;> by_cases hj : j = 0 <;> simp [hi, hj, Nat.add_assoc]
theorem addr_block (p : Addr) (i : Nat) : (p.add i).block = p.block := by unfold Addr.add; split <;> rfl
theorem addr_off (b off i : Nat) : (Addr.mk b off none).add i = ⟨b, off + i, none⟩ := by
  unfold Addr.add
  by_cases hi : i = 0 <;> simp [hi]
theorem cell_lt {w : World} {p : Addr} {v : Value} (h : w.cell? p = some v) : p.block < w.heap.size := by
  rcases Nat.lt_or_ge p.block w.heap.size with h' | h'
  · exact h'
  · simp [World.cell?, Array.getElem?_eq_none h'] at h
theorem At.below {w w' : World} {p : Addr} {l : List Value} (h : At w p l) (hb : Below w.heap.size w w') : At w' p l := by
  intro j v hj
  have := h j v hj
  rw [hb.cell (cell_lt this)]
  exact this
theorem At.drop {w : World} {p : Addr} {l : List Value} (h : At w p l) (k : Nat) : At w (p.add k) (l.drop k) := by
  intro j v hj
  rw [addr_add_add]
  exact h (k + j) v (by rw [← hj, List.getElem?_drop])
theorem At.take {w : World} {p : Addr} {l : List Value} (h : At w p l) (k : Nat) : At w p (l.take k) := by
  intro j v hj
  refine h j v ?_
  rw [List.getElem?_take] at hj
  split at hj
  · exact hj
  · cases hj
theorem At.nil (w : World) (p : Addr) : At w p [] := fun j v h => by simp at h
theorem Blk.lt {w : World} {b : Nat} {T : TypeId} {l : List Value} (h : Blk w b T l) : b < w.heap.size := by
  rcases Nat.lt_or_ge b w.heap.size with h' | h'
  · exact h'
  · simp [Blk, Array.getElem?_eq_none h'] at h
theorem Blk.cell {w : World} {b : Nat} {T : TypeId} {l : List Value} (h : Blk w b T l) (k : Nat) : w.cell? ⟨b, k, none⟩ = l[k]? := by
  unfold Blk at h
  simp [World.cell?, h]
theorem Blk.at {w : World} {b : Nat} {T : TypeId} {l : List Value} (h : Blk w b T l) (k : Nat) : At w ⟨b, k, none⟩ (l.drop k) := by
  intro j v hj
  rw [addr_off, h.cell, ← hj, List.getElem?_drop]
theorem Blk.below {w w' : World} {b : Nat} {T : TypeId} {l : List Value} (h : Blk w b T l) (hb : Below w.heap.size w w') : Blk w' b T l := (hb.block b h.lt).trans h
theorem Blk.only {w w' : World} {b b' : Nat} {T : TypeId} {l : List Value} (h : Blk w b T l) (ho : Only b' w w') (hne : b ≠ b') : Blk w' b T l := (ho.block b hne).trans h
theorem Blk.drew {w : World} {b : Nat} {T : TypeId} {l : List Value} (h : Blk w b T l) : Blk w.drew b T l := h
theorem Blk.ne {w : World} {b b' : Nat} {T T' : TypeId} {l l' : List Value} (h : Blk w b T l) (h' : Blk w b' T' l') (hT : Nat.beq T T' = false) : b ≠ b' := by
  rintro rfl
  unfold Blk at h h'
  rw [h] at h'
  injection h' with h'
  injection h' with _ e
  subst e
  simp at hT
theorem Below.only {B b : Nat} {w0 w w' : World} (h : Below B w0 w) (ho : Only b w w') (hB : B ≤ b) : Below B w0 w' :=
  h.trans ⟨ho.os, ho.tape, ho.output, by rw [ho.size]; exact Nat.le_refl _, fun k hk => ho.block k (by omega)⟩
theorem At.only {w w' : World} {b : Nat} {p : Addr} {l : List Value} (h : At w p l) (ho : Only b w w') (hne : p.block ≠ b) : At w' p l := by
  intro j v hj
  rw [World.cell?_of_block (w := w) (by rw [addr_block]; exact ho.block _ hne)]
  exact h j v hj
def OneT (P : Program) (t : TypeId) : Prop := ∃ d, P.underlying t = some d ∧ (match d with | .struct _ | .array _ _ => False | _ => True)
def AggT (P : Program) (t : TypeId) (n : Nat) : Prop := (∃ d, P.underlying t = some d ∧ (match d with | .struct _ | .array _ _ => True | _ => False)) ∧ ∃ i, P.info? t = some i ∧ i.size = n
def SizeT (P : Program) (t : TypeId) (n : Nat) : Prop := ∃ i, P.info? t = some i ∧ i.size = n
def ZeroT (P : Program) (t : TypeId) (z : Value) : Prop := ∃ i, P.info? t = some i ∧ i.zero = some z
def FieldT (P : Program) (T f k : Nat) : Prop := ∃ fs F i, P.underlying T = some (.struct fs) ∧ fs[f]? = some F ∧ F.offset = k ∧ P.info? F.type = some i ∧ (i.size == 0) = false
def SliceT (P : Program) (T E : TypeId) : Prop := P.underlying T = some (.slice E)
def FuncF (P : Program) (f : FuncId) : Prop := ∃ fn, P.funcs[f]? = some fn ∧ (fn.name == "runtime.NumGoroutine") = false ∧ fn.body.isNone = false
section
variable {P : Program} {w : World}
theorem run_sizeOf' {t n : Nat} (h : SizeT P t n) (w : World) : (sizeOf t).run P w = .ok n w := by
  obtain ⟨i, h1, h2⟩ := h
  simp [sizeOf, typeInfo, h1, h2]
theorem run_zeroValue {t : TypeId} {z : Value} (h : ZeroT P t z) (w : World) : (zeroValue t).run P w = .ok z w := by
  obtain ⟨i, h1, h2⟩ := h
  simp [zeroValue, typeInfo, h1, h2]
theorem run_under {t : TypeId} {d : TypeDesc} (h : P.underlying t = some d) (w : World) : (underlying t).run P w = .ok d w := by simp [underlying, h]
theorem run_isAgg_one {t : TypeId} (h : OneT P t) (w : World) : (isAgg t).run P w = .ok false w := by
  obtain ⟨d, h1, h2⟩ := h
  cases d <;> simp_all [isAgg, underlying]
theorem run_isAgg_agg {t n : Nat} (h : AggT P t n) (w : World) : (isAgg t).run P w = .ok true w := by
  obtain ⟨⟨d, h1, h2⟩, _⟩ := h
  cases d <;> simp_all [isAgg, underlying]
theorem run_loadCellsFrom (p : Addr) : ∀ (l : List Value) (i : Nat) (acc : Array Value), (∀ j v, l[j]? = some v → w.cell? (p.add (i + j)) = some v) →
    (loadCellsFrom p i l.length acc).run P w = .ok (acc ++ l.toArray) w
  | [], i, acc, _ => by simp [loadCellsFrom]
  | v :: l, i, acc, h => by
    have h0 := h 0 v rfl
    simp only [Nat.add_zero] at h0
    have ih := run_loadCellsFrom p l (i + 1) (acc.push v) (fun j u hj => by
      have := h (j + 1) u (by simpa using hj)
      rwa [show i + (j + 1) = i + 1 + j from by omega] at this)
    simp [loadCellsFrom, load, Sem.run, h0, ih]
theorem run_loadVar_one {t : TypeId} {p : Addr} {v : Value} {l : List Value} (h : OneT P t) (hc : At w p (v :: l)) : (loadVar t p).run P w = .ok v w := by
  have h0 := hc 0 v rfl
  have h1 : p.add 0 = p := by simp [Addr.add]
  rw [h1] at h0
  simp [loadVar, run_isAgg_one h, load, Sem.run, h0]
theorem run_loadVar_agg {t n : Nat} {p : Addr} {l : List Value} (h : AggT P t n) (hc : At w p l) (hn : l.length = n) : (loadVar t p).run P w = .ok (.agg l.toArray) w := by
  subst hn
  have h1 := run_loadCellsFrom (P := P) (w := w) p l 0 #[] (fun j v hj => by rw [Nat.zero_add]; exact hc j v hj)
  simp [loadVar, run_isAgg_agg h, run_sizeOf' h.2, loadCells, h1]
end
section
variable {P : Program} {a : Act} {w : World} {n : Nat} {e : Env} {ty : TypeId} {pos : String} {af : Array Edge} {g : Option (Nat × Bool)} {d : Option Tmp}
theorem ev_move {x : Operand} {v : Value} (hf : Fr a n e) (hx : ev e x = some v) : Ev P ⟨d, .move x, ty, pos, af, g⟩ a w v := fun w' _ => by
  simp [execOp, hf.ev hx]
theorem ev_assign {x : Operand} {v : Value} (hf : Fr a n e) (hx : ev e x = some v) : Ev P ⟨d, .assign x, ty, pos, af, g⟩ a w v := fun w' _ => by
  simp [execOp, hf.ev hx]
theorem ev_pick {c x y : Operand} {b : Bool} {v : Value} (hf : Fr a n e) (hc : ev e c = some (.bool b)) (hx : ev e (if b then x else y) = some v) : Ev P ⟨d, .pick c x y, ty, pos, af, g⟩ a w v := fun w' _ => by
  have h1 := hf.ev hc
  have h2 := hf.ev hx
  cases b <;> simp_all [execOp, asBool]
theorem ev_pickT {c x y : Operand} {b : Bool} {v : Value} (hf : Fr a n e) (hc : ev e c = some (.bool b)) (hb : b = true) (hx : ev e x = some v) : Ev P ⟨d, .pick c x y, ty, pos, af, g⟩ a w v := by
  subst hb
  exact ev_pick hf hc hx
theorem ev_pickF {c x y : Operand} {b : Bool} {v : Value} (hf : Fr a n e) (hc : ev e c = some (.bool b)) (hb : b = false) (hx : ev e y = some v) : Ev P ⟨d, .pick c x y, ty, pos, af, g⟩ a w v := by
  subst hb
  exact ev_pick hf hc hx
theorem ev_load1 {t : TypeId} {x : Operand} {p : Addr} {v : Value} {l : List Value} (hf : Fr a n e) (hx : ev e x = some (.pointer (some p))) (h1 : OneT P t) (hc : At w p (v :: l)) : Ev P ⟨d, .load t x, ty, pos, af, g⟩ a w v := fun w' hw => by
  simp [execOp, hf.ev hx, Instr.loadAt, Instr.sureAddr, run_loadVar_one h1 (hc.below hw)]
theorem ev_loadN {t k : Nat} {x : Operand} {p : Addr} {l : List Value} (hf : Fr a n e) (hx : ev e x = some (.pointer (some p))) (hA : AggT P t k) (hc : At w p l) (hl : l.length = k) : Ev P ⟨d, .load t x, ty, pos, af, g⟩ a w (.agg l.toArray) := fun w' hw => by
  simp [execOp, hf.ev hx, Instr.loadAt, Instr.sureAddr, run_loadVar_agg hA (hc.below hw) hl]
theorem ev_field {T f k : Nat} {x : Operand} {p : Addr} (hf : Fr a n e) (hx : ev e x = some (.pointer (some p))) (hF : FieldT P T f k) : Ev P ⟨d, .fieldAddr T x f, ty, pos, af, g⟩ a w (.pointer (some (p.add k))) := fun w' _ => by
  obtain ⟨fs, F, i, h1, h2, h3, h4, h5⟩ := hF
  have h6 := run_sizeOf' ⟨i, h4, rfl⟩ w'
  simp [execOp, hf.ev hx, Instr.fieldAt, run_under h1, h2, Instr.sureAddr, fieldPlace, h6, h3]
  simp at h5
  simp [h5]
theorem ev_fieldB {T f k : Nat} {x : Operand} {b off m : Nat} (hf : Fr a n e) (hx : ev e x = some (.pointer (some ⟨b, off, none⟩))) (hF : FieldT P T f k) (hk : off + k = m) : Ev P ⟨d, .fieldAddr T x f, ty, pos, af, g⟩ a w (.pointer (some ⟨b, m, none⟩)) := by
  have := ev_field (P := P) (w := w) (d := d) (ty := ty) (pos := pos) (af := af) (g := g) hf hx hF
  rwa [addr_off, hk] at this
theorem ev_extract {x : Operand} {k : Nat} {vs : List Value} {v : Value} (hf : Fr a n e) (hx : ev e x = some (.tuple vs.toArray)) (hv : vs[k]? = some v) : Ev P ⟨d, .extract x k, ty, pos, af, g⟩ a w v := fun w' _ => by
  simp [execOp, hf.ev hx, Instr.extract, hv]
theorem ev_not {t : TypeId} {x : Operand} {b : Bool} (hf : Fr a n e) (hx : ev e x = some (.bool b)) : Ev P ⟨d, .unOp .not t x, ty, pos, af, g⟩ a w (.bool (!b)) := fun w' _ => by
  simp [execOp, hf.ev hx, Op.unary]
theorem ev_neg {t : TypeId} {x : Operand} {i : Int} (hf : Fr a n e) (hx : ev e x = some (.int .i64 i)) : Ev P ⟨d, .unOp .neg t x, ty, pos, af, g⟩ a w (.int .i64 (IntKind.i64.wrap (-i))) := fun w' _ => by
  simp [execOp, hf.ev hx, Op.unary, Op.intArith]
section
variable {t t' : TypeId} {x y : Operand} {i j : Int}
theorem ev_add (hf : Fr a n e) (hx : ev e x = some (.int .i64 i)) (hy : ev e y = some (.int .i64 j)) : Ev P ⟨d, .binOp .add t x y t', ty, pos, af, g⟩ a w (.int .i64 (IntKind.i64.wrap (i + j))) := fun w' _ => by
  simp [execOp, hf.ev hx, hf.ev hy, eqGuard, binOp, Op.intArith]
theorem ev_addx (hf : Fr a n e) (hx : ev e x = some (.int .i64 i)) (hy : ev e y = some (.int .i64 j)) (h1 : -9223372036854775808 ≤ i + j) (h2 : i + j ≤ 9223372036854775807) : Ev P ⟨d, .binOp .add t x y t', ty, pos, af, g⟩ a w (.int .i64 (i + j)) := by
  have h := ev_add (P := P) (w := w) (d := d) (ty := ty) (pos := pos) (af := af) (g := g) (t := t) (t' := t') hf hx hy
  rwa [IntWalk.i64_in _ ⟨h1, h2⟩] at h
theorem ev_subx (hf : Fr a n e) (hx : ev e x = some (.int .i64 i)) (hy : ev e y = some (.int .i64 j)) (h1 : -9223372036854775808 ≤ i - j) (h2 : i - j ≤ 9223372036854775807) : Ev P ⟨d, .binOp .sub t x y t', ty, pos, af, g⟩ a w (.int .i64 (i - j)) := by
  have h : Ev P ⟨d, .binOp .sub t x y t', ty, pos, af, g⟩ a w (.int .i64 (IntKind.i64.wrap (i - j))) := fun w' _ => by
    simp [execOp, hf.ev hx, hf.ev hy, eqGuard, binOp, Op.intArith]
  rwa [IntWalk.i64_in _ ⟨h1, h2⟩] at h
theorem ev_sub (hf : Fr a n e) (hx : ev e x = some (.int .i64 i)) (hy : ev e y = some (.int .i64 j)) : Ev P ⟨d, .binOp .sub t x y t', ty, pos, af, g⟩ a w (.int .i64 (IntKind.i64.wrap (i - j))) := fun w' _ => by
  simp [execOp, hf.ev hx, hf.ev hy, eqGuard, binOp, Op.intArith]
theorem ev_mul (hf : Fr a n e) (hx : ev e x = some (.int .i64 i)) (hy : ev e y = some (.int .i64 j)) : Ev P ⟨d, .binOp .mul t x y t', ty, pos, af, g⟩ a w (.int .i64 (IntKind.i64.wrap (i * j))) := fun w' _ => by
  simp [execOp, hf.ev hx, hf.ev hy, eqGuard, binOp, Op.intArith]
theorem ev_lss (hf : Fr a n e) (hx : ev e x = some (.int .i64 i)) (hy : ev e y = some (.int .i64 j)) : Ev P ⟨d, .binOp .lss t x y t', ty, pos, af, g⟩ a w (.bool (decide (i < j))) := fun w' _ => by
  simp [execOp, hf.ev hx, hf.ev hy, eqGuard, binOp, Op.intCmp]
theorem ev_leq (hf : Fr a n e) (hx : ev e x = some (.int .i64 i)) (hy : ev e y = some (.int .i64 j)) : Ev P ⟨d, .binOp .leq t x y t', ty, pos, af, g⟩ a w (.bool (decide (i ≤ j))) := fun w' _ => by
  simp [execOp, hf.ev hx, hf.ev hy, eqGuard, binOp, Op.intCmp]
theorem ev_gtr (hf : Fr a n e) (hx : ev e x = some (.int .i64 i)) (hy : ev e y = some (.int .i64 j)) : Ev P ⟨d, .binOp .gtr t x y t', ty, pos, af, g⟩ a w (.bool (decide (j < i))) := fun w' _ => by
  simp [execOp, hf.ev hx, hf.ev hy, eqGuard, binOp, Op.intCmp]
theorem ev_geq (hf : Fr a n e) (hx : ev e x = some (.int .i64 i)) (hy : ev e y = some (.int .i64 j)) : Ev P ⟨d, .binOp .geq t x y t', ty, pos, af, g⟩ a w (.bool (decide (j ≤ i))) := fun w' _ => by
  simp [execOp, hf.ev hx, hf.ev hy, eqGuard, binOp, Op.intCmp]
theorem ev_eql (hf : Fr a n e) (hx : ev e x = some (.int .i64 i)) (hy : ev e y = some (.int .i64 j)) : Ev P ⟨d, .binOp .eql t x y t', ty, pos, af, g⟩ a w (.bool (i == j)) := fun w' _ => by
  simp [execOp, hf.ev hx, hf.ev hy, eqGuard, binOp, Op.intCmp]
theorem ev_neq (hf : Fr a n e) (hx : ev e x = some (.int .i64 i)) (hy : ev e y = some (.int .i64 j)) : Ev P ⟨d, .binOp .neq t x y t', ty, pos, af, g⟩ a w (.bool (i != j)) := fun w' _ => by
  simp [execOp, hf.ev hx, hf.ev hy, eqGuard, binOp, Op.intCmp]
theorem ev_and (hf : Fr a n e) (hx : ev e x = some (.int .i64 i)) (hy : ev e y = some (.int .i64 j)) : Ev P ⟨d, .binOp .and t x y t', ty, pos, af, g⟩ a w (.int .i64 (bits .and .i64 i j)) := fun w' _ => by
  simp [execOp, hf.ev hx, hf.ev hy, eqGuard, binOp, Op.intBits, bits]
theorem ev_xor (hf : Fr a n e) (hx : ev e x = some (.int .i64 i)) (hy : ev e y = some (.int .i64 j)) : Ev P ⟨d, .binOp .xor t x y t', ty, pos, af, g⟩ a w (.int .i64 (bits .xor .i64 i j)) := fun w' _ => by
  simp [execOp, hf.ev hx, hf.ev hy, eqGuard, binOp, Op.intBits, bits]
theorem run_equalIn_bool {b c : Bool} (ht : P.underlying t = some .bool) (k : Nat) (w : World) : (Op.equalIn (k + 1) t (.bool b) (.bool c)).run P w = .ok (b == c) w := by
  simp [Op.equalIn, run_under ht]
theorem ev_bneq {b c : Bool} (ht : P.underlying t = some .bool) (hf : Fr a n e) (hx : ev e x = some (.bool b)) (hy : ev e y = some (.bool c)) : Ev P ⟨d, .binOp .neq t x y t', ty, pos, af, g⟩ a w (.bool (b != c)) := fun w' _ => by
  have h := run_equalIn_bool (P := P) (b := b) (c := c) ht 9999 w'
  simp [execOp, hf.ev hx, hf.ev hy, eqGuard, binOp, Op.equal, Op.maxDepth, h]
  cases b <;> cases c <;> rfl
theorem ev_len {x : Operand} {T E : TypeId} {A : Option Addr} {m c : Nat} (hf : Fr a n e) (hx : ev e x = some (.slice A m c)) (hT : SliceT P T E) : Ev P ⟨d, .call ⟨.builtin .len, #[x], #[T]⟩, ty, pos, af, g⟩ a w (.int .i64 (m : Int)) := fun w' _ => by
  have := run_under (P := P) hT w'
  simp [execOp, resolve, invoke, builtin, Builtin.len_, hf.ev hx, this, goInt]
theorem ev_makeFunc {k : FuncId} {cs : List Operand} {vs : List Value} (hf : Fr a n e) (hx : evs e cs = some vs) : Ev P ⟨d, .makeFunc (.func k) #[] cs.toArray, ty, pos, af, g⟩ a w (.func (.func k) #[] vs.toArray) := fun w' _ => by
  simp [execOp, Instr.makeFunc, hf.evs hx]
end
end
end Go.Proofs.YtfgnmflfiobkmaaGreat
namespace Go.Proofs.YtfgnmflfiobkmaaGreat
open Go.RowKit
section
variable {P : Program} {a : Act} {w : World} {n : Nat} {e : Env} {ty : TypeId} {pos : String} {af : Array Edge} {g : Option (Nat × Bool)} {d : Option Tmp}
def IsNew (w : World) (T : TypeId) (zs : List Value) (v : Value) (w' : World) : Prop :=
  ∃ b, v = .pointer (some ⟨b, 0, none⟩) ∧ w.heap.size ≤ b ∧ Below w.heap.size w w' ∧ Blk w' b T zs
theorem blk_alloc (w : World) (T : TypeId) (zs : List Value) : Blk (w.alloc (.cells zs.toArray T)) w.heap.size T zs := heap_alloc_new w _
theorem isNew_alloc (w : World) (T : TypeId) (zs : List Value) : IsNew w T zs (.pointer (some ⟨w.heap.size, 0, none⟩)) (w.alloc (.cells zs.toArray T)) :=
  ⟨_, rfl, Nat.le_refl _, (Below.refl _ _).alloc (Nat.le_refl _) _, blk_alloc w T zs⟩
theorem run_newVar (T : TypeId) (v : Value) (w : World) : (newVar T v).run P w = .ok ⟨w.heap.size, 0, none⟩ (w.alloc (.cells v.cells T)) := by
  simp [newVar, newRow, newObj, Sem.run]
theorem ef_alloc {T : TypeId} {z : Value} {zs : List Value} (hz : ZeroT P T z) (hzs : z.cells.toList = zs) : Ef P ⟨d, .alloc T, ty, pos, af, g⟩ a w (IsNew w T zs) := by
  subst hzs
  have h : (execOp a.eval ⟨d, .alloc T, ty, pos, af, g⟩).run P w = .ok (.value (.pointer (some ⟨w.heap.size, 0, none⟩))) (w.alloc (.cells z.cells T)) := by
    simp [execOp, Instr.alloc, run_zeroValue hz, run_newVar]
  refine (Ef.of_run h).mono fun v w' ⟨e1, e2⟩ => ?_
  subst e1; subst e2
  have := isNew_alloc w T z.cells.toList
  simpa using this
theorem ef_box {T : TypeId} {x : Operand} {v : Value} {zs : List Value} (hf : Fr a n e) (hx : ev e x = some v) (hzs : v.cells.toList = zs) : Ef P ⟨d, .box T x, ty, pos, af, g⟩ a w (IsNew w T zs) := by
  subst hzs
  have h : (execOp a.eval ⟨d, .box T x, ty, pos, af, g⟩).run P w = .ok (.value (.pointer (some ⟨w.heap.size, 0, none⟩))) (w.alloc (.cells v.cells T)) := by
    simp [execOp, Instr.box, run_newVar, hf.ev hx]
  refine (Ef.of_run h).mono fun v' w' ⟨e1, e2⟩ => ?_
  subst e1; subst e2
  have := isNew_alloc w T v.cells.toList
  simpa using this
def splice (l : List Value) (k : Nat) (vs : List Value) : List Value := l.take k ++ vs ++ l.drop (k + vs.length)
def one : Value → Bool
  | .agg _ => false
  | .tuple _ => false
  | _ => true
theorem only_setCell (w : World) (b k : Nat) (v : Value) : Only b w (w.setCell ⟨b, k, none⟩ v) :=
  ⟨rfl, rfl, rfl, by simp [World.setCell], fun i hi => Below.heap_setCell _ _ _ _ hi⟩
theorem blk_setCell {T : TypeId} {l : List Value} {b : Nat} (h : Blk w b T l) (k : Nat) (v : Value) : Blk (w.setCell ⟨b, k, none⟩ v) b T (l.set k v) := by
  unfold Blk at h ⊢
  simp [World.setCell, Array.getElem?_modify, h]
theorem run_storeCells {b off : Nat} {T : TypeId} : ∀ (vs : List Value) (w : World) (l : List Value) (i : Nat), Blk w b T l → off + i + vs.length ≤ l.length → vs.all one = true →
    ∃ w', (storeCells ⟨b, off, none⟩ vs i).run P w = .ok () w' ∧ Only b w w' ∧ Blk w' b T (splice l (off + i) vs)
  | [], w, l, i, hb, _, _ => ⟨w, by simp [storeCells], Only.refl _ _, by simpa [splice] using hb⟩
  | v :: vs, w, l, i, hb, hl, h1 => by
    simp only [List.all_cons, Bool.and_eq_true, List.length_cons] at h1 hl
    have hc : w.cell? ⟨b, off + i, none⟩ = some (l[off + i]'(by omega)) := by rw [hb.cell]; exact List.getElem?_eq_getElem (by omega)
    have hfz : w.frozen? ⟨b, off + i, none⟩ = false := by
      have := hb
      unfold Blk at this
      simp [World.frozen?, this]
    obtain ⟨w', hr, ho, hb'⟩ := run_storeCells (off := off) vs (w.setCell ⟨b, off + i, none⟩ v) (l.set (off + i) v) (i + 1) (blk_setCell hb _ _) (by rw [List.length_set]; omega) h1.2
    refine ⟨w', ?_, (only_setCell w b _ v).trans ho, ?_⟩
    · have h0 : (store (⟨b, off + i, none⟩ : Addr) v).run P w = .ok () (w.setCell ⟨b, off + i, none⟩ v) := by
        have h2 := h1.1
        unfold one at h2
        split at h2
        · cases h2
        · cases h2
        · rename_i hx1 hx2
          cases v <;> simp_all [store, Sem.run]
      simp only [storeCells, addr_off]
      simp [h0, hr]
    · have : splice (l.set (off + i) v) (off + (i + 1)) vs = splice l (off + i) (v :: vs) := by
        unfold splice
        have e1 : off + (i + 1) = off + i + 1 := by omega
        rw [e1, List.take_succ_eq_append_getElem (by rw [List.length_set]; omega), List.take_set_of_le (by omega), List.getElem_set_self, List.drop_set_of_lt (by omega)]
        simp only [List.length_cons, List.append_assoc, List.cons_append, List.nil_append]
        rw [show off + i + 1 + vs.length = off + i + (vs.length + 1) from by omega]
      rw [this] at hb'
      exact hb'
def Stored (w : World) (b : Nat) (T : TypeId) (l : List Value) (_ : Value) (w' : World) : Prop := Only b w w' ∧ Blk w' b T l
theorem ef_store {t T : TypeId} {x y : Operand} {b off k : Nat} {v : Value} {l l' vs : List Value} (hf : Fr a n e) (hx : ev e x = some (.pointer (some ⟨b, off, none⟩))) (hy : ev e y = some v)
    (hs : SizeT P t k) (hb : Blk w b T l) (hvs : v.cells.toList = vs) (hk : Nat.beq vs.length k = true) (h1 : vs.all one = true) (hl : Nat.ble (off + k) l.length = true) (hl' : splice l off vs = l') :
    Ef P ⟨d, .store t x y, ty, pos, af, g⟩ a w (Stored w b T l') := by
  subst hl'
  have hk' : vs.length = k := Nat.eq_of_beq_eq_true hk
  have hll : off + k ≤ l.length := Nat.le_of_ble_eq_true hl
  obtain ⟨w', hr, ho, hb'⟩ := run_storeCells (P := P) (b := b) (off := off) (T := T) vs w l 0 hb (by omega) h1
  refine (Ef.of_skip (w' := w') ?_).mono fun v w1 ⟨_, e2⟩ => by subst e2; exact ⟨ho, by simpa using hb'⟩
  have hc : v.cells.size = k := by rw [← hk', ← hvs]; simp
  simp [execOp, Instr.storeAt, Instr.sureAddr, hf.ev hx, hf.ev hy, storeVar, run_sizeOf' hs, hc, hvs, hr]
def Ret (P : Program) (f : FuncId) (args : List Value) (w : World) (R : Value → World → Prop) : Prop := Calls P f args.toArray w fun e w' => ∃ v, e = .returned v ∧ R v w'
theorem Ret.mono {f : FuncId} {args : List Value} {R R' : Value → World → Prop} (h : Ret P f args w R) (hr : ∀ v w', R v w' → R' v w') : Ret P f args w R' :=
  Calls.mono h fun _ _ ⟨v, he, hR⟩ => ⟨v, he, hr _ _ hR⟩
theorem run_callFunc {f : FuncId} (hF : FuncF P f) (args : Array Value) (w : World) : (callFunc f args).run P w = .ok (.enter f args) w := by
  obtain ⟨fn, h1, h2, h3⟩ := hF
  have h2' : ¬ fn.name = "runtime.NumGoroutine" := by simpa using h2
  have h3' : ¬ fn.body = none := by intro hb; rw [hb] at h3; cases h3
  simp [callFunc, h1, h2', h3']
theorem ef_call {f : FuncId} {xs : List Operand} {vs : List Value} {ts : Array TypeId} {R : Value → World → Prop} (hf : Fr a n e) (hx : evs e xs = some vs) (hF : FuncF P f) (h : Ret P f vs w R) :
    Ef P ⟨d, .call ⟨.value (.func f), xs.toArray, ts⟩, ty, pos, af, g⟩ a w R := by
  have hm := hf.evs hx
  unfold Ef
  have hr : (execOp a.eval ⟨d, .call ⟨.value (.func f), xs.toArray, ts⟩, ty, pos, af, g⟩).run P w = .ok (.enter f vs.toArray) w := by
    simp [execOp, resolve, Act.eval, Deferred.ofValue, invoke, hm, run_callFunc hF]
  rw [hr]
  exact h
theorem ef_callv {f : FuncId} {x : Operand} {xs : List Operand} {vs cs : List Value} {ts : Array TypeId} {R : Value → World → Prop} (hf : Fr a n e) (hv : ev e x = some (.func (.func f) #[] cs.toArray)) (hx : evs e xs = some vs) (hF : FuncF P f) (h : Ret P f (vs ++ cs) w R) :
    Ef P ⟨d, .call ⟨.value x, xs.toArray, ts⟩, ty, pos, af, g⟩ a w R := by
  have hm := hf.evs hx
  have hv' := hf.ev hv
  unfold Ef
  have hr : (execOp a.eval ⟨d, .call ⟨.value x, xs.toArray, ts⟩, ty, pos, af, g⟩).run P w = .ok (.enter f (vs ++ cs).toArray) w := by
    simp [execOp, resolve, hv', Deferred.ofValue, invoke, hm, run_callFunc hF]
  rw [hr]
  exact h
end
section
variable {α : Type}
def Rd (w : World) (B : Nat) (E : TypeId) (enc : α → List Value) (A : Option Addr) (l : List α) : Prop :=
  l ≠ [] → ∃ b off cs fz, A = some ⟨b, off, none⟩ ∧ b < B ∧ w.heap[b]? = some (.cells cs E fz) ∧ ∀ j v, (l.flatMap enc)[j]? = some v → cs[off + j]? = some v
theorem Rd.nil (w : World) (B : Nat) (E : TypeId) (enc : α → List Value) (A : Option Addr) : Rd w B E enc A [] := fun h => absurd rfl h
theorem Rd.chg {w w' : World} {B : Nat} {E : TypeId} {enc : α → List Value} {A : Option Addr} {l : List α} (h : Rd w B E enc A l) (hk : ∀ b cs fz, b < B → w.heap[b]? = some (.cells cs E fz) → w'.heap[b]? = w.heap[b]?) : Rd w' B E enc A l := fun hl => by
  obtain ⟨b, off, cs, fz, h1, h2, h3, h4⟩ := h hl
  exact ⟨b, off, cs, fz, h1, h2, (hk b cs fz h2 h3).trans h3, h4⟩
theorem Rd.below {w w' : World} {B : Nat} {E : TypeId} {enc : α → List Value} {A : Option Addr} {l : List α} (h : Rd w B E enc A l) (hb : Below w.heap.size w w') : Rd w' B E enc A l :=
  h.chg fun b _ _ _ hh => hb.block b (by
    rcases Nat.lt_or_ge b w.heap.size with h' | h'
    · exact h'
    · rw [Array.getElem?_eq_none h'] at hh; cases hh)
theorem Rd.below' {w w' : World} {B : Nat} {E : TypeId} {enc : α → List Value} {A : Option Addr} {l : List α} (h : Rd w B E enc A l) (hb : Below B w w') : Rd w' B E enc A l :=
  h.chg fun b _ _ hB _ => hb.block b hB
theorem Rd.only {w w' : World} {B b : Nat} {E : TypeId} {enc : α → List Value} {A : Option Addr} {l : List α} (h : Rd w B E enc A l) (ho : Only b w w') (hB : B ≤ b) : Rd w' B E enc A l :=
  h.chg fun k _ _ hk _ => ho.block k (by omega)
theorem Rd.onlyT {w w' : World} {B b : Nat} {E T : TypeId} {lc : List Value} {enc : α → List Value} {A : Option Addr} {l : List α} (h : Rd w B E enc A l) (ho : Only b w w') (hb : Blk w b T lc) (hT : Nat.beq E T = false) : Rd w' B E enc A l :=
  h.chg fun k cs fz _ hh => ho.block k (by
    rintro rfl
    unfold Blk at hb
    rw [hh] at hb
    injection hb with hb
    injection hb with _ e _
    subst e
    simp at hT)
theorem Rd.drew {w : World} {B : Nat} {E : TypeId} {enc : α → List Value} {A : Option Addr} {l : List α} (h : Rd w B E enc A l) : Rd w.drew B E enc A l := h
theorem flatMap_at {enc : α → List Value} {sz : Nat} (hsz : ∀ x, (enc x).length = sz) : ∀ (l : List α) (k : Nat) (x : α), l[k]? = some x → ∀ j v, (enc x)[j]? = some v → (l.flatMap enc)[k * sz + j]? = some v
  | [], k, x, h => by simp at h
  | y :: l, 0, x, h => by
    intro j v hj
    obtain rfl : y = x := by simpa using h
    simp only [List.flatMap_cons, Nat.zero_mul, Nat.zero_add]
    rw [List.getElem?_append_left (List.getElem?_eq_some_iff.1 hj).1]
    exact hj
  | y :: l, k + 1, x, h => by
    intro j v hj
    simp only [List.flatMap_cons]
    have h1 : (k + 1) * sz + j = sz + (k * sz + j) := by rw [Nat.add_mul]; omega
    rw [h1, List.getElem?_append_right (by rw [hsz]; omega), hsz, Nat.add_sub_cancel_left]
    exact flatMap_at hsz l k x (by simpa using h) j v hj
theorem length_flatMap_enc {enc : α → List Value} {sz : Nat} (hsz : ∀ x, (enc x).length = sz) (l : List α) : (l.flatMap enc).length = l.length * sz := by
  induction l with
  | nil => simp
  | cons x l ih => simp only [List.flatMap_cons, List.length_append, hsz, ih, List.length_cons, Nat.add_mul]; omega
theorem Rd.at {w : World} {B : Nat} {E : TypeId} {enc : α → List Value} {A : Option Addr} {l : List α} {sz : Nat} (hsz : ∀ x, (enc x).length = sz) (h : Rd w B E enc A l) {k : Nat} {x : α} (hk : l[k]? = some x) :
    ∃ p, A = some p ∧ At w (p.add (k * sz)) (enc x) := by
  have hl : l ≠ [] := by rintro rfl; simp at hk
  obtain ⟨b, off, cs, fz, rfl, h2, h3, h4⟩ := h hl
  refine ⟨_, rfl, fun j v hj => ?_⟩
  rw [addr_off, addr_off]
  have := h4 _ _ (flatMap_at hsz l k x hk j v hj)
  simp only [World.cell?, h3]
  rw [Nat.add_assoc]
  simpa using this
theorem Rd.of_blk {w : World} {b : Nat} {E : TypeId} {enc : α → List Value} {l : List α} {cs : List Value} (h : Blk w b E cs) (hcs : l.flatMap enc = cs) (B : Nat) (hB : b < B) : Rd w B E enc (some ⟨b, 0, none⟩) l := fun _ => by
  subst hcs
  exact ⟨b, 0, _, _, rfl, hB, h, fun j v hj => by simpa using hj⟩
def Own (w : World) (B0 : Nat) (E : TypeId) (sz : Nat) (enc : α → List Value) (A : Option Addr) (c : Nat) (l : List α) : Prop := w.ownsRow B0 E sz (.slice A l.length c) l.length (l.flatMap enc)
theorem Own.rd {w : World} {B0 : Nat} {E : TypeId} {sz : Nat} {enc : α → List Value} {A : Option Addr} {c : Nat} {l : List α} (h : Own w B0 E sz enc A c l) : Rd w w.heap.size E enc A l := fun hl => by
  rcases h.2 with ⟨h1, h2⟩ | ⟨g, cap, cur, h1, h2, h3, h4, h5, h6, h7⟩
  · exact absurd (List.eq_nil_of_length_eq_zero h2) hl
  · injection h1 with h1
    refine ⟨g, 0, cur, _, h1, (Array.getElem?_eq_some_iff.1 h3).1, h3, fun j v hj => ?_⟩
    rw [← h7, List.getElem?_take] at hj
    split at hj
    · simpa using hj
    · cases hj
theorem Own.nil (w : World) (B0 : Nat) (E : TypeId) (sz : Nat) (enc : α → List Value) : Own w B0 E sz enc none 0 [] := ⟨by simp, .inl ⟨rfl, rfl⟩⟩
theorem Own.empty {w : World} {B0 b : Nat} {E : TypeId} {sz : Nat} {enc : α → List Value} (h : Blk w b E []) (hb : B0 ≤ b) : Own w B0 E sz enc (some ⟨b, 0, none⟩) 0 ([] : List α) :=
  ⟨by simp, .inr ⟨b, 0, #[], rfl, hb, h, Nat.le_refl _, by simp [maxLen], by simp, by simp⟩⟩
theorem Own.of_blk {w : World} {B0 b : Nat} {E : TypeId} {sz : Nat} {enc : α → List Value} {l : List α} {cs : List Value} (h : Blk w b E cs) (hb : B0 ≤ b) (hcs : l.flatMap enc = cs) (hsz : ∀ x, (enc x).length = sz) (hm : l.length ≤ maxLen) : Own w B0 E sz enc (some ⟨b, 0, none⟩) l.length l := by
  subst hcs
  have hl := length_flatMap_enc hsz l
  exact ⟨hl, .inr ⟨b, l.length, _, rfl, hb, h, Nat.le_refl _, hm, by simpa using hl, by simp only [List.toList_toArray]; rw [← hl]; exact List.take_length⟩⟩
theorem Own.below {w w' : World} {B0 : Nat} {E : TypeId} {sz : Nat} {enc : α → List Value} {A : Option Addr} {c : Nat} {l : List α} (h : Own w B0 E sz enc A c l) (hb : Below w.heap.size w w') : Own w' B0 E sz enc A c l := by
  refine ⟨h.1, ?_⟩
  rcases h.2 with h1 | ⟨g, cap, cur, h1, h2, h3, h4⟩
  · exact .inl h1
  · exact .inr ⟨g, cap, cur, h1, h2, (hb.block g (Array.getElem?_eq_some_iff.1 h3).1).trans h3, h4⟩
theorem Own.onlyT {w w' : World} {B0 b : Nat} {E T : TypeId} {lc : List Value} {sz : Nat} {enc : α → List Value} {A : Option Addr} {c : Nat} {l : List α} (h : Own w B0 E sz enc A c l) (ho : Only b w w') (hb : Blk w b T lc) (hT : Nat.beq E T = false) : Own w' B0 E sz enc A c l := by
  refine ⟨h.1, ?_⟩
  rcases h.2 with h1 | ⟨g, cap, cur, h1, h2, h3, h4⟩
  · exact .inl h1
  · refine .inr ⟨g, cap, cur, h1, h2, (ho.block g ?_).trans h3, h4⟩
    rintro rfl
    unfold Blk at hb
    rw [h3] at hb
    injection hb with hb
    injection hb with _ e _
    subst e
    simp at hT
theorem Own.drew {w : World} {B0 : Nat} {E : TypeId} {sz : Nat} {enc : α → List Value} {A : Option Addr} {c : Nat} {l : List α} (h : Own w B0 E sz enc A c l) : Own w.drew B0 E sz enc A c l := h
theorem Own.block {w : World} {B0 : Nat} {E : TypeId} {sz : Nat} {enc : α → List Value} {A : Option Addr} {c : Nat} {l : List α} (h : Own w B0 E sz enc A c l) {k : Nat} (hk : (Value.slice A l.length c).ownBlock = some k) : B0 ≤ k ∧ k < w.heap.size ∧ ∃ cs fz, w.heap[k]? = some (.cells cs E fz) := by
  rcases h.2 with ⟨h1, _⟩ | ⟨g, cap, cur, h1, h2, h3, _⟩
  · rw [h1] at hk; simp [Value.ownBlock] at hk
  · rw [h1] at hk
    simp [Value.ownBlock] at hk
    subst hk
    exact ⟨h2, (Array.getElem?_eq_some_iff.1 h3).1, _, _, h3⟩
def Away (A : Option Addr) (b : Nat) : Prop := ∀ p, A = some p → p.block ≠ b
def AwayR (l : List α) (A : Option Addr) (b : Nat) : Prop := l ≠ [] → Away A b
theorem Away.ne {g off b : Nat} (h : b ≠ g) : Away (some ⟨g, off, none⟩) b := fun p hp => by injection hp with hp; subst hp; exact Ne.symm h
theorem Rd.away {w : World} {B b : Nat} {E : TypeId} {enc : α → List Value} {A : Option Addr} {l : List α} (h : Rd w B E enc A l) (hl : w.heap.size ≤ b) : AwayR l A b := fun hne p hp => by
  obtain ⟨g, off, cs, fz, h1, h2, h3, h4⟩ := h hne
  rw [hp] at h1
  injection h1 with h1
  subst h1
  have := (Array.getElem?_eq_some_iff.1 h3).1
  intro e
  simp only at e
  omega
theorem Own.away {w : World} {B0 b : Nat} {E : TypeId} {sz : Nat} {enc : α → List Value} {A : Option Addr} {c : Nat} {l : List α} (h : Own w B0 E sz enc A c l) (hl : w.heap.size ≤ b) : Away A b := fun p hp => by
  rcases h.2 with ⟨h1, _⟩ | ⟨g, cap, cur, h1, h2, h3, _⟩
  · injection h1 with h1; rw [h1] at hp; cases hp
  · injection h1 with h1
    rw [h1] at hp
    injection hp with hp
    subst hp
    have := (Array.getElem?_eq_some_iff.1 h3).1
    intro e
    simp only at e
    omega
theorem Own.awayNew {w : World} {B0 b : Nat} {E : TypeId} {sz : Nat} {enc : α → List Value} {A : Option Addr} {c : Nat} {l : List α} (h : Own w B0 E sz enc A c l) (hl : b < B0) : Away A b := fun p hp => by
  rcases h.2 with ⟨h1, _⟩ | ⟨g, cap, cur, h1, h2, h3, _⟩
  · injection h1 with h1; rw [h1] at hp; cases hp
  · injection h1 with h1
    rw [h1] at hp
    injection hp with hp
    subst hp
    intro e
    simp only at e
    omega
theorem Away.r {l : List α} {A : Option Addr} {b : Nat} (h : Away A b) : AwayR l A b := fun _ => h
theorem Rd.onlyA {w w' : World} {B b : Nat} {E : TypeId} {enc : α → List Value} {A : Option Addr} {l : List α} (h : Rd w B E enc A l) (ho : Only b w w') (ha : AwayR l A b) : Rd w' B E enc A l := fun hne => by
  obtain ⟨g, off, cs, fz, h1, h2, h3, h4⟩ := h hne
  exact ⟨g, off, cs, fz, h1, h2, (ho.block g (ha hne _ h1)).trans h3, h4⟩
theorem Own.onlyA {w w' : World} {B0 b : Nat} {E : TypeId} {sz : Nat} {enc : α → List Value} {A : Option Addr} {c : Nat} {l : List α} (h : Own w B0 E sz enc A c l) (ho : Only b w w') (ha : Away A b) : Own w' B0 E sz enc A c l := by
  refine ⟨h.1, ?_⟩
  rcases h.2 with h1 | ⟨g, cap, cur, h1, h2, h3, h4⟩
  · exact .inl h1
  · injection h1 with h1 h1' h1''
    exact .inr ⟨g, cap, cur, by rw [h1, h1''], h2, (ho.block g (ha _ h1)).trans h3, h4⟩
def Appended (w : World) (B0 : Nat) (E : TypeId) (sz : Nat) (enc : α → List Value) (A : Option Addr) (c : Nat) (l l2 : List α) (v : Value) (w' : World) : Prop :=
  ∃ A' c', v = .slice A' (l ++ l2).length c' ∧ Own w' B0 E sz enc A' c' (l ++ l2) ∧ w.grownBy w' (Value.slice A l.length c).ownBlock ∧ ∀ b, b < w.heap.size → Away A b → Away A' b
theorem Blk.appT {w w' : World} {b : Nat} {T : TypeId} {lc : List Value} {B0 : Nat} {E : TypeId} {sz : Nat} {enc : α → List Value} {A : Option Addr} {c : Nat} {l : List α} (h : Blk w b T lc) (ho : Own w B0 E sz enc A c l) (hg : w.grownBy w' (Value.slice A l.length c).ownBlock) (hT : Nat.beq E T = false) : Blk w' b T lc := by
  refine (hg.block b h.lt fun hk => ?_).trans h
  obtain ⟨_, _, cs, fz, h3⟩ := ho.block hk.symm
  unfold Blk at h
  rw [h3] at h
  injection h with h
  injection h with _ e _
  subst e
  simp at hT
theorem Blk.appB {w w' : World} {b : Nat} {T : TypeId} {lc : List Value} {B0 : Nat} {E : TypeId} {sz : Nat} {enc : α → List Value} {A : Option Addr} {c : Nat} {l : List α} (h : Blk w b T lc) (ho : Own w B0 E sz enc A c l) (hg : w.grownBy w' (Value.slice A l.length c).ownBlock) (hb : b < B0) : Blk w' b T lc :=
  (hg.block b h.lt fun hk => by have := (ho.block hk.symm).1; omega).trans h
theorem Blk.appA {w w' : World} {b : Nat} {T : TypeId} {lc : List Value} {A : Option Addr} {n c : Nat} (h : Blk w b T lc) (hg : w.grownBy w' (Value.slice A n c).ownBlock) (ha : Away A b) : Blk w' b T lc := by
  refine (hg.block b h.lt fun hk => ?_).trans h
  cases A with
  | none => simp [Value.ownBlock] at hk
  | some q =>
    simp only [Value.ownBlock, Option.some.injEq] at hk
    exact ha q rfl hk.symm
theorem Rd.appT {β : Type} {w w' : World} {B : Nat} {E' : TypeId} {enc' : β → List Value} {A' : Option Addr} {l' : List β} {B0 : Nat} {E : TypeId} {sz : Nat} {enc : α → List Value} {A : Option Addr} {c : Nat} {l : List α} (h : Rd w B E' enc' A' l') (ho : Own w B0 E sz enc A c l) (hg : w.grownBy w' (Value.slice A l.length c).ownBlock) (hT : Nat.beq E E' = false) : Rd w' B E' enc' A' l' :=
  h.chg fun k cs fz _ hh => hg.block k (Array.getElem?_eq_some_iff.1 hh).1 fun hk => by
    obtain ⟨_, _, cs', fz', h3⟩ := ho.block hk.symm
    rw [h3] at hh
    injection hh with hh
    injection hh with _ e _
    subst e
    simp at hT
theorem Rd.appB {β : Type} {w w' : World} {B : Nat} {E' : TypeId} {enc' : β → List Value} {A' : Option Addr} {l' : List β} {B0 : Nat} {E : TypeId} {sz : Nat} {enc : α → List Value} {A : Option Addr} {c : Nat} {l : List α} (h : Rd w B E' enc' A' l') (ho : Own w B0 E sz enc A c l) (hg : w.grownBy w' (Value.slice A l.length c).ownBlock) (hB : B ≤ B0) : Rd w' B E' enc' A' l' :=
  h.chg fun k cs fz hk hh => hg.block k (Array.getElem?_eq_some_iff.1 hh).1 fun hk' => by have := (ho.block hk'.symm).1; omega
theorem Own.appT {β : Type} {w w' : World} {B1 : Nat} {E' : TypeId} {sz' : Nat} {enc' : β → List Value} {A' : Option Addr} {c' : Nat} {l' : List β} {B0 : Nat} {E : TypeId} {sz : Nat} {enc : α → List Value} {A : Option Addr} {c : Nat} {l : List α} (h : Own w B1 E' sz' enc' A' c' l') (ho : Own w B0 E sz enc A c l) (hg : w.grownBy w' (Value.slice A l.length c).ownBlock) (hT : Nat.beq E E' = false) : Own w' B1 E' sz' enc' A' c' l' := by
  refine ⟨h.1, ?_⟩
  rcases h.2 with h1 | ⟨g, cap, cur, h1, h2, h3, h4⟩
  · exact .inl h1
  · refine .inr ⟨g, cap, cur, h1, h2, (hg.block g (Array.getElem?_eq_some_iff.1 h3).1 fun hk => ?_).trans h3, h4⟩
    obtain ⟨_, _, cs', fz', h5⟩ := ho.block hk.symm
    rw [h5] at h3
    injection h3 with h3
    injection h3 with _ e _
    subst e
    simp at hT
theorem Below.app {w0 w w' : World} {B B0 : Nat} {E : TypeId} {sz : Nat} {enc : α → List Value} {A : Option Addr} {c : Nat} {l : List α} (h : Below B w0 w) (ho : Own w B0 E sz enc A c l) (hg : w.grownBy w' (Value.slice A l.length c).ownBlock) (hB : B ≤ B0) (hs : B ≤ w.heap.size) : Below B w0 w' :=
  h.grown hg hs fun k hk => by have := (ho.block hk).1; omega
def InfoT (P : Program) (E : TypeId) (sz bytes : Nat) : Prop := ∃ i z, P.info? E = some i ∧ i.zero = some z ∧ i.size = sz ∧ i.bytes = bytes ∧ z.cells.size = sz ∧ 0 < sz
section
variable {P : Program} {a : Act} {w : World} {n : Nat} {e : Env} {ty : TypeId} {pos : String} {af : Array Edge} {g : Option (Nat × Bool)} {d : Option Tmp}
theorem ef_append {T E : TypeId} {sz bytes B B0 : Nat} {x y : Operand} {enc : α → List Value} {A A2 : Option Addr} {c c2 : Nat} {l l2 : List α} (hf : Fr a n e) (hx : ev e x = some (.slice A l.length c)) (hy : ev e y = some (.slice A2 l2.length c2))
    (hT : SliceT P T E) (hi : InfoT P E sz bytes) (hsz : ∀ x, (enc x).length = sz) (hone : ∀ x, (enc x).all one = true) (ho : Own w B0 E sz enc A c l) (hr : Rd w B E enc A2 l2) (h63 : l.length + l2.length ≤ maxLen) (hbytes : (l.length + l2.length) * bytes ≤ 140737488355328) (hB0 : B0 ≤ w.heap.size) :
    Ef P ⟨d, .call ⟨.builtin .append, #[x, y], #[T, T]⟩, ty, pos, af, g⟩ a w (Appended w B0 E sz enc A c l l2) := by
  obtain ⟨i, z, hi1, hi2, hi3, hi4, hi5, hi6⟩ := hi
  by_cases hl2 : l2 = []
  · subst hl2
    have hrun : (Builtin.append_ #[T, T] ty #[.slice A l.length c, .slice A2 0 c2]).run P w = .ok (.slice A l.length c) w := by
      rcases ho.2 with ⟨h1, h2⟩ | ⟨gg, cap, cur, h1, h2, h3, h4, h5, h6, h7⟩
      · injection h1 with h1 h1' h1''
        subst h1
        cases A2 <;> simp [Builtin.append_, run_under hT, sizeOf, typeInfo, hi1, Builtin.lenOf, Builtin.firstCells, loadCells, loadCellsFrom, h1', h1'']
      · injection h1 with h1 _ h1''
        subst h1; subst h1''
        cases A2 <;> simp [Builtin.append_, run_under hT, sizeOf, typeInfo, hi1, Builtin.lenOf, Builtin.firstCells, loadCells, loadCellsFrom, h4, storeCells]
    refine (Ef.of_run (v := .slice A l.length c) (w' := w) ?_).mono fun v w' ⟨e1, e2⟩ => ?_
    · simp only [List.length_nil] at hy
      simp [execOp, resolve, invoke, builtin, hf.ev hx, hf.ev hy, hrun]
    · subst e1; subst e2
      exact ⟨A, c, by simp, by simpa using ho, World.grownBy.refl w' _, fun _ _ h => h⟩
  · obtain ⟨b, off, cs, fz, rfl, h2, h3, h4⟩ := hr hl2
    obtain ⟨v', w', hrun, hown, hg, _, hat⟩ := run_append_own_at (P := P) w B0 T ty E i z sz bytes hT hi1 hi2 hi3 hi4 hi5 hi6 (.slice A l.length c) l.length (l.flatMap enc) ho ⟨b, off, none⟩ l2.length c2 (l2.flatMap enc) (length_flatMap_enc hsz l2)
      (fun j u hu => by
        have := h4 j u hu
        rw [addr_off]
        simp [World.cell?, h3, this])
      (fun u hu => by
        obtain ⟨x, _, hx⟩ := List.mem_flatMap.1 hu
        have := List.all_eq_true.1 (hone x) u hx
        cases u <;> simp_all [Value.oneCell', one]) h63 hbytes hB0
    refine (Ef.of_run (v := v') (w' := w') ?_).mono fun v w1 ⟨e1, e2⟩ => ?_
    · simp [execOp, resolve, invoke, builtin, hf.ev hx, hf.ev hy, hrun]
    · subst e1; subst e2
      have hv : ∃ A' c', v = .slice A' (l ++ l2).length c' := by
        rcases hown.2 with ⟨h1, h2⟩ | ⟨gg, cap, cur, h1, _⟩
        · exact ⟨none, 0, by rw [h1, List.length_append, h2]⟩
        · exact ⟨_, _, by rw [h1, List.length_append]⟩
      obtain ⟨A', c', rfl⟩ := hv
      refine ⟨A', c', rfl, ?_, hg, fun b hb ha p hp => ?_⟩
      rotate_left
      · subst hp
        rcases hat with hat | hat
        · cases A with
          | none => simp [Value.ownBlock] at hat
          | some q =>
            simp only [Value.ownBlock, Option.some.injEq] at hat
            rw [hat]
            exact ha q rfl
        · simp only [Value.ownBlock, Option.some.injEq] at hat
          rw [hat]
          omega
      unfold Own
      rw [List.length_append, List.flatMap_append]
      simpa [List.length_append] using hown
theorem ev_index {T E : TypeId} {sz : Nat} {x y : Operand} {p : Addr} {c : Nat} {k : Nat} {i : Int} {m : Nat} (hf : Fr a n e) (hx : ev e x = some (.slice (some p) m c)) (hy : ev e y = some (.int .i64 i)) (hT : SliceT P T E) (hs : SizeT P E sz)
    (hi : i = (k : Int)) (hk : k < m) : Ev P ⟨d, .indexAddr T x y, ty, pos, af, g⟩ a w (.pointer (some (p.add (k * sz)))) := fun w' _ => by
  subst hi
  have h1 := run_under (P := P) hT w'
  have h2 := run_sizeOf' hs w'
  have h3 : ((k : Int) < (m : Int)) = True := by simp; omega
  simp [execOp, Instr.indexAt, asIntOf, hf.ev hx, hf.ev hy, h1, h2, hk]
end
end
end Go.Proofs.YtfgnmflfiobkmaaGreat
namespace Go.Proofs.YtfgnmflfiobkmaaGreat
open Go.RowKit
section
variable {P : Program} {Q : Exit → Act → World → Prop} {a : Act} {w : World} {n : Nat} {e : Env}
theorem c_if {c : Operand} {x y : Code} {b : Bool} (hf : Fr a n e) (hc : ev e c = some (.bool b)) (ht : b = true → x.wp P Q a w) (he : b = false → y.wp P Q a w) : (Code.cond c x y).wp P Q a w :=
  wp_cond_split (hf.ev hc) ht he
theorem c_false {c : Operand} {x y : Code} (hf : Fr a n e) (hc : ev e c = some (.bool false)) (ht : y.wp P Q a w) : (Code.cond c x y).wp P Q a w := wp_cond_false (hf.ev hc) ht
theorem c_cut {c : Code} (X : Act → World → Prop) (h : c.wp P (Exit.then X Q) a w) (hX : ∀ a w, X a w → Q .normal a w) : c.wp P Q a w :=
  Code.wp_mono (fun e a w hq => by cases e <;> first | exact hX _ _ hq | exact hq) h
theorem c_loop {σ : Type} {c : Code} (I : σ → Act → World → Prop) (μ : σ → Nat) (s : σ) (h0 : I s a w)
    (round : ∀ s a w, I s a w → c.wp P (Exit.then (fun a' w' => ∃ s', I s' a' w' ∧ μ s' < μ s) Q) a w) : (Code.loop c).wp P Q a w := by
  intro b k cs
  have key : ∀ n s a w, μ s = n → I s a w → ∃ e a' w', Q e a' w' ∧ Arrives P (lone (b.at a (.code c :: .inLoop c :: k)) cs w) b k cs e a' w' := by
    intro n
    induction n using Nat.strongRecOn with
    | _ n ih =>
      intro s a w hn hI
      obtain ⟨e, a₁, w₁, hq, harr⟩ := round s a w hI b (.inLoop c :: k) cs
      cases e with
      | normal =>
        obtain ⟨s', hI₁, hlt⟩ := hq
        obtain ⟨e₂, a₂, w₂, hq₂, harr₂⟩ := ih (μ s') (hn ▸ hlt) s' a₁ w₁ rfl hI₁
        exact ⟨e₂, a₂, w₂, hq₂, .of_steps (Steps.trans harr (.one step_inLoop)) harr₂⟩
      | exit id => exact ⟨_, a₁, w₁, hq, .pass (x := .inLoop c) rfl (fun _ _ => .inl (by simp)) harr⟩
      | goto l => exact ⟨_, a₁, w₁, hq, .pass (x := .inLoop c) rfl (fun _ _ => .inl (by simp)) harr⟩
      | ret => exact ⟨_, a₁, w₁, hq, .pass (x := .inLoop c) rfl (fun _ _ => .inl (by simp)) harr⟩
      | panic ch => exact ⟨_, a₁, w₁, hq, .pass (x := .inLoop c) rfl (fun _ _ => .inl (by simp)) harr⟩
      | outgrown => exact ⟨_, a₁, w₁, hq, .pass (x := .inLoop c) rfl (fun _ _ => .inl (by simp)) harr⟩
  obtain ⟨e, a', w', hq, harr⟩ := key _ s a w rfl h0
  exact ⟨e, a', w', hq, .of_steps (.one step_loop) harr⟩
def evp (e : Env) : List (Nat × Operand) → Option (List (Nat × Value))
  | [] => some []
  | (i, x) :: l => match ev e x, evp e l with
    | some v, some vs => some ((i, v) :: vs)
    | _, _ => none
theorem Fr.evp (hf : Fr a n e) : ∀ {l : List (Nat × Operand)} {vs : List (Nat × Value)}, evp e l = some vs → l.map (fun p => (p.1, a.eval p.2)) = vs := by
  intro l
  induction l with
  | nil => intro vs h; simpa [YtfgnmflfiobkmaaGreat.evp] using h
  | cons x l ih =>
    obtain ⟨i, x⟩ := x
    intro vs h
    simp only [YtfgnmflfiobkmaaGreat.evp] at h
    split at h
    · rename_i v us h1 h2
      injection h with h
      subst h
      simp [hf.ev h1, ih h2]
    · cases h
def numb : Nat → List Value → List (Nat × Value)
  | _, [] => []
  | k, v :: l => (k, v) :: numb (k + 1) l
section
variable {ty : TypeId} {pos : String} {af : Array Edge} {g : Option (Nat × Bool)} {d : Option Tmp}
theorem ev_build {T : TypeId} {parts : List (Nat × Operand)} {ps : List (Nat × Value)} {cs : List Value} (hf : Fr a n e) (hp : evp e parts = some ps) (hb : ∀ w, (Instr.build T ps.toArray).run P w = .ok (.agg cs.toArray) w) :
    Ev P ⟨d, .build T parts.toArray, ty, pos, af, g⟩ a w (.agg cs.toArray) := fun w' _ => by
  have h1 := hf.evp hp
  have h2 := hb w'
  simp only [execOp, List.map_toArray]
  rw [show (List.map (fun x : Nat × Operand => match x with | (i, x) => (i, a.eval x)) parts) = ps from h1]
  simp [h2]
theorem foldl_set (off : Nat) : ∀ (l : List Value) (m : Nat) (cs : Array Value), off + m + l.length ≤ cs.size → ((l.zipIdx m).foldl (fun cs p => cs.setIfInBounds (off + p.2) p.1) cs).toList = splice cs.toList (off + m) l
  | [], m, cs, _ => by simp [splice]
  | v :: l, m, cs, h => by
    simp only [List.length_cons] at h
    simp only [List.zipIdx_cons, List.foldl_cons]
    rw [foldl_set off l (m + 1) _ (by simp; omega)]
    unfold splice
    have e1 : off + (m + 1) = off + m + 1 := by omega
    rw [e1, Array.toList_setIfInBounds, List.take_succ_eq_append_getElem (by simp; omega), List.take_set_of_le (by omega), List.getElem_set_self, List.drop_set_of_lt (by omega)]
    simp only [List.length_cons, List.append_assoc, List.cons_append, List.nil_append]
    rw [show off + m + 1 + l.length = off + m + (l.length + 1) from by omega]
theorem fill_numb (sz : Nat) : ∀ (vs : List Value) (k : Nat) (cells : Array Value), (∀ v ∈ vs, v.cells.size = sz) → cells.size = (k + vs.length) * sz →
    Instr.fill (fun i => some (i * sz, sz)) cells (numb k vs) = some (cells.toList.take (k * sz) ++ vs.flatMap fun v => v.cells.toList).toArray
  | [], k, cells, _, h => by
    simp only [List.length_nil, Nat.add_zero] at h
    have h9 : cells.toList.take (k * sz) = cells.toList := List.take_of_length_le (by simp [h])
    simp [numb, Instr.fill, h9]
  | v :: vs, k, cells, h1, h => by
    have hv := h1 v (by simp)
    simp only [List.length_cons] at h
    have h2 : k * sz + sz ≤ cells.size := by rw [h, Nat.add_mul, Nat.add_mul]; omega
    simp only [numb, Instr.fill, hv]
    rw [if_neg (by simp; omega)]
    have e1 : (v.cells.zipIdx.foldl (fun cs (p : Value × Nat) => cs.setIfInBounds (k * sz + p.2) p.1) cells).toList = splice cells.toList (k * sz) v.cells.toList := by
      have := foldl_set (k * sz) v.cells.toList 0 cells (by simp [hv]; omega)
      rw [← Array.foldl_toList, Array.toList_zipIdx]
      simpa using this
    have hs : (v.cells.zipIdx.foldl (fun cs (p : Value × Nat) => cs.setIfInBounds (k * sz + p.2) p.1) cells).size = cells.size := by
      rw [← Array.length_toList, e1]
      simp [splice, hv]
      omega
    have ih := fill_numb sz vs (k + 1) (v.cells.zipIdx.foldl (fun cs (p : Value × Nat) => cs.setIfInBounds (k * sz + p.2) p.1) cells) (fun u hu => h1 u (by simp [hu])) (by rw [hs, h]; congr 1; omega)
    refine Eq.trans ih ?_
    rw [e1]
    congr 2
    simp only [List.flatMap_cons]
    rw [← List.append_assoc]
    congr 1
    unfold splice
    have e2 : (cells.toList.take (k * sz) ++ v.cells.toList).length = (k + 1) * sz := by simp [hv, Nat.add_mul]; omega
    rw [← e2, List.take_left]
theorem ef_buildSlice {T E sz bytes : Nat} {k : Nat} {parts : List (Nat × Operand)} {vs zs : List Value} (hf : Fr a n e) (hp : evp e parts = some (numb 0 vs)) (hT : SliceT P T E) (hi : InfoT P E sz bytes) (hv : (vs.all (fun v => Nat.beq v.cells.size sz) && Nat.beq vs.length k && Nat.ble (k * sz) 1000) = true) (hz : vs.flatMap (fun v => v.cells.toList) = zs) :
    Ef P ⟨d, .buildSlice T k parts.toArray, ty, pos, af, g⟩ a w (fun v w' => ∃ b, v = .slice (some ⟨b, 0, none⟩) k k ∧ w.heap.size ≤ b ∧ Below w.heap.size w w' ∧ Blk w' b E zs) := by
  subst hz
  obtain ⟨i, z, hi1, hi2, hi3, hi4, hi5, hi6⟩ := hi
  simp only [Bool.and_eq_true, List.all_eq_true] at hv
  obtain ⟨⟨hv1, hv2⟩, hv3⟩ := hv
  have hk : vs.length = k := Nat.eq_of_beq_eq_true hv2
  have hk3 : k * sz ≤ 1000 := Nat.le_of_ble_eq_true hv3
  have h1 := hf.evp hp
  have hfill := fill_numb sz vs 0 ((Array.range (k * sz)).map fun j => z.cells[j % z.cells.size]!) (fun v hv => Nat.eq_of_beq_eq_true (hv1 v hv)) (by simp [hk])
  simp only [Nat.zero_mul, List.take_zero, List.nil_append] at hfill
  refine (Ef.of_run (v := .slice (some ⟨w.heap.size, 0, none⟩) k k) (w' := w.alloc (.cells (vs.flatMap fun v => v.cells.toList).toArray E)) ?_).mono fun v w' ⟨e1, e2⟩ => ?_
  · simp only [execOp, List.map_toArray]
    rw [show (List.map (fun x : Nat × Operand => match x with | (i, x) => (i, a.eval x)) parts) = numb 0 vs from h1]
    have h24 : ¬ (16777216 < k * sz) := by omega
    by_cases h0 : k * sz = 0
    · have hf0 : Instr.fill (fun i => some (i * sz, sz)) #[] (numb 0 vs) = some (vs.flatMap fun v => v.cells.toList).toArray := by
        rw [← hfill, h0]
        congr 1
        simp [Array.range_zero']
      simp [Instr.buildSlice, run_under hT, sizeOf, typeInfo, hi1, hi3, h0, newRow, newObj, Sem.run, Array.range_zero', hf0]
    · simp [Instr.buildSlice, run_under hT, sizeOf, typeInfo, hi1, hi3, h24, h0, zeroValue, hi2, newRow, newObj, Sem.run, hfill]
  · subst e1; subst e2
    exact ⟨_, rfl, Nat.le_refl _, (Below.refl _ _).alloc (Nat.le_refl _) _, blk_alloc w E _⟩
theorem ev_max {x y : Operand} {i j : Int} {ts : Array TypeId} (hf : Fr a n e) (hx : ev e x = some (.int .i64 i)) (hy : ev e y = some (.int .i64 j)) : Ev P ⟨d, .call ⟨.builtin .max, #[x, y], ts⟩, ty, pos, af, g⟩ a w (.int .i64 (max i j)) := fun w' _ => by
  simp [execOp, resolve, invoke, builtin, Builtin.max_, Builtin.max2, hf.ev hx, hf.ev hy, Int.max_def]
  split <;> simp <;> omega
end
theorem look_bool {t : Nat} {e : Env} {b b' : Bool} (h : look t e = some (.bool b)) (hb : b = b') : look t e = some (.bool b') := hb ▸ h
theorem getElem_ex {α : Type} {l : List α} {k : Nat} (h : k < l.length) : ∃ u, l[k]? = some u := ⟨l[k], List.getElem?_eq_getElem h⟩
section
variable {α : Type} {ops : Array Oper} {rest : List Oper} {ty : TypeId} {pos : String} {af : Array Edge} {g : Option (Nat × Bool)} {d : Nat}
theorem Rd.top {B : Nat} {E : TypeId} {enc : α → List Value} {A : Option Addr} {l : List α} (h : Rd w B E enc A l) : Rd w w.heap.size E enc A l := fun hl => by
  obtain ⟨b, off, cs, fz, h1, h2, h3, h4⟩ := h hl
  exact ⟨b, off, cs, fz, h1, (Array.getElem?_eq_some_iff.1 h3).1, h3, h4⟩
theorem l_index {T E E2 : TypeId} {sz B : Nat} {x y : Operand} {enc : α → List Value} {A : Option Addr} {c : Nat} {l : List α} {k : Nat} {i : Int} {u : α} (hf : Fr a n e) (hw : Want ops ⟨some d, .indexAddr T x y, ty, pos, af, g⟩ e) (hn : Nat.blt d n = true)
    (hx : ev e x = some (.slice A l.length c)) (hy : ev e y = some (.int .i64 i)) (hT : SliceT P T E) (hs : SizeT P E sz) (hsz : ∀ x, (enc x).length = sz) (hr : Rd w B E2 enc A l) (hk : l[k]? = some u) (hi : i = (k : Int))
    (h : ∀ a' p, At w p (enc u) → Fr a' n ((d, .pointer (some p)) :: e) → wpList P ops Q rest a' w) : wpList P ops Q (⟨some d, .indexAddr T x y, ty, pos, af, g⟩ :: rest) a w := by
  obtain ⟨p, rfl, hat⟩ := hr.at hsz hk
  exact l_ev hf hw rfl hn (ev_index hf hx hy hT hs hi (List.getElem?_eq_some_iff.1 hk).1) fun a' hf' => h a' _ hat hf'
theorem s_index {Q : Act → World → Prop} {tl : Nat → Bool} {fuel : Nat} {done : List Nat} {T E E2 : TypeId} {sz B : Nat} {x y : Operand} {enc : α → List Value} {A : Option Addr} {c : Nat} {l : List α} {k : Nat} {i : Int} {u : α} (j : Nat)
    (ho : ops[j]? = some ⟨some d, .indexAddr T x y, ty, pos, af, g⟩) (hm : mayFirst ops done j = true) (ht : tailWaits ops tl j = true) (hf : Fr a n e) (hw : Want ops ⟨some d, .indexAddr T x y, ty, pos, af, g⟩ e) (hn : Nat.blt d n = true)
    (hx : ev e x = some (.slice A l.length c)) (hy : ev e y = some (.int .i64 i)) (hT : SliceT P T E) (hs : SizeT P E sz) (hsz : ∀ x, (enc x).length = sz) (hr : Rd w B E2 enc A l) (hk : l[k]? = some u) (hi : i = (k : Int))
    (h : ∀ a' p, At w p (enc u) → Fr a' n ((d, .pointer (some p)) :: e) → wpS P ops none tl Q fuel (mask ops (j :: done)) a' w) : wpS P ops none tl Q (fuel + 1) (mask ops done) a w := by
  obtain ⟨p, rfl, hat⟩ := hr.at hsz hk
  exact s_ev j ho hm ht hf hw rfl hn (ev_index hf hx hy hT hs hi (List.getElem?_eq_some_iff.1 hk).1) fun a' hf' => h a' _ hat hf'
end
theorem x_retS {K : Act → World → Prop} (h : Q .ret a w) : Exit.then K Q .ret a w := h
theorem x_retB {id : Nat} (h : Q .ret a w) : Exit.inBlock id Q .ret a w := by simp [Exit.inBlock, h]
theorem x_norm {id : Nat} (h : Q .normal a w) : Exit.inBlock id Q .normal a w := by simp [Exit.inBlock, h]
theorem x_exS {K : Act → World → Prop} {id : Nat} (h : Q (.exit id) a w) : Exit.then K Q (.exit id) a w := h
theorem x_thenN {K : Act → World → Prop} (h : K a w) : Exit.then K Q .normal a w := h
theorem x_exit {id : Nat} (h : Q .normal a w) : Exit.inBlock id Q (.exit id) a w := by simp [Exit.inBlock, h]
def ResV (P : Program) (w : World) (e : Env) : ResultVar → Value → Prop
  | .tmp t, v => look t e = some v
  | .cell t T, v => ∃ p, look t e = some (.pointer (some p)) ∧ ((OneT P T ∧ ∃ l, At w p (v :: l)) ∨ ∃ k l, AggT P T k ∧ At w p l ∧ l.length = k ∧ v = .agg l.toArray)
theorem ResV.cellN {t T k : Nat} {p : Addr} {l : List Value} (h : look t e = some (.pointer (some p))) (hA : AggT P T k) (hc : At w p l) (hl : l.length = k) : ResV P w e (.cell t T) (.agg l.toArray) := ⟨p, h, .inr ⟨k, l, hA, hc, hl, rfl⟩⟩
theorem results_eq (fn : Func) (tmps : Array Value) : ∃ f : ResultVar → Sem Value, (∀ t, f (.tmp t) = pure (tmps.getD t undef)) ∧ (∀ t T, f (.cell t T) = (do loadVar T (← asAddr (tmps.getD t undef)))) ∧
    results fn tmps = (do let vs ← fn.results.mapM f; pure (if h : vs.size = 1 then vs[0] else .tuple vs)) := ⟨_, fun _ => rfl, fun _ _ => rfl, rfl⟩
theorem ResV.run {r : ResultVar} {v : Value} {f : ResultVar → Sem Value} (hf : Fr a n e) (h : ResV P w e r v) (f1 : ∀ t, f (.tmp t) = pure (a.tmps.getD t undef)) (f2 : ∀ t T, f (.cell t T) = (do loadVar T (← asAddr (a.tmps.getD t undef)))) : (f r).run P w = .ok v w := by
  cases r with
  | tmp t =>
    have := hf.h _ _ h
    simp [f1, this]
  | cell t T =>
    obtain ⟨p, h1, h2⟩ := h
    have h3 := hf.h _ _ h1
    rcases h2 with ⟨h4, l, h5⟩ | ⟨k, l, h4, h5, h6, rfl⟩
    · simp [f2, h3, asAddr, run_loadVar_one h4 h5]
    · simp [f2, h3, asAddr, run_loadVar_agg h4 h5 h6]
section
variable {fn : Func} {R : Ending → World → Prop}
theorem res1 {r : ResultVar} {v : Value} (hf : Fr a n e) (hr : fn.results = #[r]) (h : ResV P w e r v) : (results fn a.tmps).run P w = .ok v w := by
  obtain ⟨f, f1, f2, h0⟩ := results_eq fn a.tmps
  have h1 := h.run hf f1 f2
  rw [h0, hr]
  simp [h1]
theorem res2 {r1 r2 : ResultVar} {v1 v2 : Value} (hf : Fr a n e) (hr : fn.results = #[r1, r2]) (h1 : ResV P w e r1 v1) (h2 : ResV P w e r2 v2) : (results fn a.tmps).run P w = .ok (.tuple #[v1, v2]) w := by
  obtain ⟨f, f1, f2, h0⟩ := results_eq fn a.tmps
  have h1 := h1.run hf f1 f2
  have h2 := h2.run hf f1 f2
  rw [h0, hr]
  simp [h1, h2]
theorem c_ret {v : Value} {R' : Value → World → Prop} (hf : Fr a n e) (hr : (results fn a.tmps).run P w = .ok v w) (h : R' v w) : bodyPost P fn (fun e w' => ∃ v, e = .returned v ∧ R' v w') .ret a w := ⟨hf.d, v, hr, v, rfl, h⟩
end
theorem enter {f : FuncId} {fn : Func} {c : Code} {args : List Value} {R : Value → World → Prop} (hf : P.funcs[f]? = some fn) (hb : fn.body = some c) (n : Nat) (hn : fn.ntmps = n) (hl : Nat.ble args.length n = true)
    (h : ∀ a, Fr a n (zipFrom 0 args) → c.wp P (bodyPost P fn (fun e w' => ∃ v, e = .returned v ∧ R v w')) a w) : Ret P f args w R := calls_fr hf hb n hn hl h
end
end Go.Proofs.YtfgnmflfiobkmaaGreat
namespace Go.Proofs.YtfgnmflfiobkmaaGreat
theorem info_size {P : Program} {t n : Nat} (h : (P.info? t).map (fun i => i.size) = some n) : ∃ i, P.info? t = some i ∧ i.size = n := by
  cases hi : P.info? t with
  | none => rw [hi] at h; cases h
  | some i => rw [hi] at h; injection h with h; exact ⟨i, rfl, h⟩
theorem info_zero {P : Program} {t : Nat} {z : Option Value} (h : (P.info? t).map (fun i => i.zero) = some z) : ∃ i, P.info? t = some i ∧ i.zero = z := by
  cases hi : P.info? t with
  | none => rw [hi] at h; cases h
  | some i => rw [hi] at h; injection h with h; exact ⟨i, rfl, h⟩
theorem info_all {P : Program} {t sz bytes : Nat} {z : Value} (h : (P.info? t).map (fun i => (i.size, i.bytes, i.zero)) = some (sz, bytes, some z)) (hz : z.cells.size = sz) (h0 : 0 < sz) : InfoT P t sz bytes := by
  cases hi : P.info? t with
  | none => rw [hi] at h; cases h
  | some i =>
    rw [hi] at h
    simp only [Option.map_some, Option.some.injEq, Prod.mk.injEq] at h
    exact ⟨i, z, hi, h.2.2, h.1, h.2.1, hz, h0⟩
theorem field_of {P : Program} {T f k : Nat} {fs : Array Field} {F : Field} (h : P.underlying T = some (.struct fs)) (h1 : fs[f]? = some F) (h2 : F.offset = k) {n : Nat} (h3 : (P.info? F.type).map (fun i => i.size) = some n) (h4 : (n == 0) = false) : FieldT P T f k := by
  obtain ⟨i, hi, rfl⟩ := info_size h3
  exact ⟨fs, F, i, h, h1, h2, hi, h4⟩
theorem func_of {P : Program} {f : FuncId} {fn : Func} (h : P.funcs[f]? = some fn) (h1 : (fn.name == "runtime.NumGoroutine") = false) (h2 : fn.body.isNone = false) : FuncF P f := ⟨fn, h, h1, h2⟩
theorem t1_3 : OneT Tryz.prog 3 := ⟨_, Tryz.underlying3, trivial⟩
theorem t1_4 : OneT Tryz.prog 4 := ⟨_, Tryz.underlying4, trivial⟩
theorem t1_22 : OneT Tryz.prog 22 := ⟨_, Tryz.underlying22, trivial⟩
theorem t1_28 : OneT Tryz.prog 28 := ⟨_, Tryz.underlying28, trivial⟩
theorem t1_36 : OneT Tryz.prog 36 := ⟨_, Tryz.underlying36, trivial⟩
theorem t1_102 : OneT Tryz.prog 102 := ⟨_, Tryz.underlying102, trivial⟩
theorem t1_139 : OneT Tryz.prog 139 := ⟨_, Tryz.underlying139, trivial⟩
theorem tN_35 : AggT Tryz.prog 35 2 := ⟨⟨_, Tryz.underlying35, trivial⟩, info_size (by kernel_rfl)⟩
theorem tN_41 : AggT Tryz.prog 41 2 := ⟨⟨_, Tryz.underlying41, trivial⟩, info_size (by kernel_rfl)⟩
theorem tN_104 : AggT Tryz.prog 104 3 := ⟨⟨_, Tryz.underlying104, trivial⟩, info_size (by kernel_rfl)⟩
theorem tN_107 : AggT Tryz.prog 107 3 := ⟨⟨_, Tryz.underlying107, trivial⟩, info_size (by kernel_rfl)⟩
theorem tN_134 : AggT Tryz.prog 134 3 := ⟨⟨_, Tryz.underlying134, trivial⟩, info_size (by kernel_rfl)⟩
theorem tN_141 : AggT Tryz.prog 141 3 := ⟨⟨_, Tryz.underlying141, trivial⟩, info_size (by kernel_rfl)⟩
theorem tN_187 : AggT Tryz.prog 187 4 := ⟨⟨_, Tryz.underlying187, trivial⟩, info_size (by kernel_rfl)⟩
theorem tN_189 : AggT Tryz.prog 189 5 := ⟨⟨_, Tryz.underlying189, trivial⟩, info_size (by kernel_rfl)⟩
theorem tN_200 : AggT Tryz.prog 200 6 := ⟨⟨_, Tryz.underlying200, trivial⟩, info_size (by kernel_rfl)⟩
theorem sz_3 : SizeT Tryz.prog 3 1 := info_size (by kernel_rfl)
theorem sz_4 : SizeT Tryz.prog 4 1 := info_size (by kernel_rfl)
theorem sz_28 : SizeT Tryz.prog 28 1 := info_size (by kernel_rfl)
theorem sz_36 : SizeT Tryz.prog 36 1 := info_size (by kernel_rfl)
theorem sz_41 : SizeT Tryz.prog 41 2 := info_size (by kernel_rfl)
theorem sz_104 : SizeT Tryz.prog 104 3 := info_size (by kernel_rfl)
theorem sz_107 : SizeT Tryz.prog 107 3 := info_size (by kernel_rfl)
theorem sz_134 : SizeT Tryz.prog 134 3 := info_size (by kernel_rfl)
theorem sz_139 : SizeT Tryz.prog 139 1 := info_size (by kernel_rfl)
theorem sz_141 : SizeT Tryz.prog 141 3 := info_size (by kernel_rfl)
theorem sz_187 : SizeT Tryz.prog 187 4 := info_size (by kernel_rfl)
theorem sz_189 : SizeT Tryz.prog 189 5 := info_size (by kernel_rfl)
theorem sz_200 : SizeT Tryz.prog 200 6 := info_size (by kernel_rfl)
theorem z_3 : ZeroT Tryz.prog 3 (.int .i64 0) := info_zero (by kernel_rfl)
theorem z_41 : ZeroT Tryz.prog 41 (.agg #[.int .i64 0, .slice none 0 0]) := info_zero (by kernel_rfl)
theorem z_104 : ZeroT Tryz.prog 104 (.agg #[.int .i64 0, .slice none 0 0, .map none]) := info_zero (by kernel_rfl)
theorem z_107 : ZeroT Tryz.prog 107 (.agg #[.int .i64 0, .int .i64 0, .int .i64 0]) := info_zero (by kernel_rfl)
theorem z_141 : ZeroT Tryz.prog 141 (.agg #[.int .i64 0, .int .i64 0, .slice none 0 0]) := info_zero (by kernel_rfl)
theorem z_187 : ZeroT Tryz.prog 187 (.agg #[.int .i64 0, .int .i64 0, .int .i64 0, .int .i64 0]) := info_zero (by kernel_rfl)
theorem z_189 : ZeroT Tryz.prog 189 (.agg #[.int .i64 0, .int .i64 0, .int .i64 0, .int .i64 0, .int .i64 0]) := info_zero (by kernel_rfl)
theorem z_200 : ZeroT Tryz.prog 200 (.agg #[.int .i64 0, .int .i64 0, .int .i64 0, .int .i64 0, .int .i64 0, .int .i64 0]) := info_zero (by kernel_rfl)
theorem fd_35_0 : FieldT Tryz.prog 35 0 0 := field_of (n := 1) Tryz.underlying35 rfl rfl (by kernel_rfl) rfl
theorem fd_35_1 : FieldT Tryz.prog 35 1 1 := field_of (n := 1) Tryz.underlying35 rfl rfl (by kernel_rfl) rfl
theorem fd_41_0 : FieldT Tryz.prog 41 0 0 := field_of (n := 1) Tryz.underlying41 rfl rfl (by kernel_rfl) rfl
theorem fd_41_1 : FieldT Tryz.prog 41 1 1 := field_of (n := 1) Tryz.underlying41 rfl rfl (by kernel_rfl) rfl
theorem fd_104_0 : FieldT Tryz.prog 104 0 0 := field_of (n := 2) Tryz.underlying104 rfl rfl (by kernel_rfl) rfl
theorem fd_104_1 : FieldT Tryz.prog 104 1 2 := field_of (n := 1) Tryz.underlying104 rfl rfl (by kernel_rfl) rfl
theorem fd_107_0 : FieldT Tryz.prog 107 0 0 := field_of (n := 1) Tryz.underlying107 rfl rfl (by kernel_rfl) rfl
theorem fd_107_1 : FieldT Tryz.prog 107 1 1 := field_of (n := 1) Tryz.underlying107 rfl rfl (by kernel_rfl) rfl
theorem fd_107_2 : FieldT Tryz.prog 107 2 2 := field_of (n := 1) Tryz.underlying107 rfl rfl (by kernel_rfl) rfl
theorem fd_134_0 : FieldT Tryz.prog 134 0 0 := field_of (n := 1) Tryz.underlying134 rfl rfl (by kernel_rfl) rfl
theorem fd_134_1 : FieldT Tryz.prog 134 1 1 := field_of (n := 1) Tryz.underlying134 rfl rfl (by kernel_rfl) rfl
theorem fd_134_2 : FieldT Tryz.prog 134 2 2 := field_of (n := 1) Tryz.underlying134 rfl rfl (by kernel_rfl) rfl
theorem fd_141_0 : FieldT Tryz.prog 141 0 0 := field_of (n := 1) Tryz.underlying141 rfl rfl (by kernel_rfl) rfl
theorem fd_141_1 : FieldT Tryz.prog 141 1 1 := field_of (n := 1) Tryz.underlying141 rfl rfl (by kernel_rfl) rfl
theorem fd_141_2 : FieldT Tryz.prog 141 2 2 := field_of (n := 1) Tryz.underlying141 rfl rfl (by kernel_rfl) rfl
theorem fd_187_0 : FieldT Tryz.prog 187 0 0 := field_of (n := 1) Tryz.underlying187 rfl rfl (by kernel_rfl) rfl
theorem fd_187_1 : FieldT Tryz.prog 187 1 1 := field_of (n := 1) Tryz.underlying187 rfl rfl (by kernel_rfl) rfl
theorem fd_187_2 : FieldT Tryz.prog 187 2 2 := field_of (n := 1) Tryz.underlying187 rfl rfl (by kernel_rfl) rfl
theorem fd_187_3 : FieldT Tryz.prog 187 3 3 := field_of (n := 1) Tryz.underlying187 rfl rfl (by kernel_rfl) rfl
theorem fd_189_0 : FieldT Tryz.prog 189 0 0 := field_of (n := 4) Tryz.underlying189 rfl rfl (by kernel_rfl) rfl
theorem fd_189_1 : FieldT Tryz.prog 189 1 4 := field_of (n := 1) Tryz.underlying189 rfl rfl (by kernel_rfl) rfl
theorem fd_194_0 : FieldT Tryz.prog 194 0 0 := field_of (n := 1) Tryz.underlying194 rfl rfl (by kernel_rfl) rfl
theorem sl_22 : SliceT Tryz.prog 22 134 := Tryz.underlying22
theorem sl_28 : SliceT Tryz.prog 28 107 := Tryz.underlying28
theorem sl_36 : SliceT Tryz.prog 36 3 := Tryz.underlying36
theorem sl_108 : SliceT Tryz.prog 108 36 := Tryz.underlying108
theorem sl_139 : SliceT Tryz.prog 139 189 := Tryz.underlying139
theorem sl_278 : SliceT Tryz.prog 278 187 := Tryz.underlying278
theorem inf_3 : InfoT Tryz.prog 3 1 8 := info_all (z := .int .i64 0) (by kernel_rfl) rfl (by decide)
theorem inf_36 : InfoT Tryz.prog 36 1 24 := info_all (z := .slice none 0 0) (by kernel_rfl) rfl (by decide)
theorem inf_107 : InfoT Tryz.prog 107 3 24 := info_all (z := .agg #[.int .i64 0, .int .i64 0, .int .i64 0]) (by kernel_rfl) rfl (by decide)
theorem inf_187 : InfoT Tryz.prog 187 4 32 := info_all (z := .agg #[.int .i64 0, .int .i64 0, .int .i64 0, .int .i64 0]) (by kernel_rfl) rfl (by decide)
theorem inf_189 : InfoT Tryz.prog 189 5 40 := info_all (z := .agg #[.int .i64 0, .int .i64 0, .int .i64 0, .int .i64 0, .int .i64 0]) (by kernel_rfl) rfl (by decide)
theorem ff_14 : FuncF Tryz.prog 14 := func_of Tryz.func14 (by decide +kernel) rfl
theorem ff_16 : FuncF Tryz.prog 16 := func_of Tryz.func16 (by decide +kernel) rfl
theorem ff_19 : FuncF Tryz.prog 19 := func_of Tryz.func19 (by decide +kernel) rfl
theorem ff_20 : FuncF Tryz.prog 20 := func_of Tryz.func20 (by decide +kernel) rfl
theorem ff_21 : FuncF Tryz.prog 21 := func_of Tryz.func21 (by decide +kernel) rfl
theorem ff_22 : FuncF Tryz.prog 22 := func_of Tryz.func22 (by decide +kernel) rfl
theorem ff_23 : FuncF Tryz.prog 23 := func_of Tryz.func23 (by decide +kernel) rfl
theorem ff_24 : FuncF Tryz.prog 24 := func_of Tryz.func24 (by decide +kernel) rfl
theorem ff_25 : FuncF Tryz.prog 25 := func_of Tryz.func25 (by decide +kernel) rfl
theorem ff_42 : FuncF Tryz.prog 42 := func_of Tryz.func42 (by decide +kernel) rfl
theorem ff_45 : FuncF Tryz.prog 45 := func_of Tryz.func45 (by decide +kernel) rfl
theorem ff_47 : FuncF Tryz.prog 47 := func_of Tryz.func47 (by decide +kernel) rfl
theorem ff_51 : FuncF Tryz.prog 51 := func_of Tryz.func51 (by decide +kernel) rfl
theorem ff_52 : FuncF Tryz.prog 52 := func_of Tryz.func52 (by decide +kernel) rfl
theorem ff_53 : FuncF Tryz.prog 53 := func_of Tryz.func53 (by decide +kernel) rfl
theorem ff_55 : FuncF Tryz.prog 55 := func_of Tryz.func55 (by decide +kernel) rfl
theorem ff_57 : FuncF Tryz.prog 57 := func_of Tryz.func57 (by decide +kernel) rfl
theorem ff_58 : FuncF Tryz.prog 58 := func_of Tryz.func58 (by decide +kernel) rfl
theorem ff_59 : FuncF Tryz.prog 59 := func_of Tryz.func59 (by decide +kernel) rfl
theorem ff_60 : FuncF Tryz.prog 60 := func_of Tryz.func60 (by decide +kernel) rfl
theorem ff_61 : FuncF Tryz.prog 61 := func_of Tryz.func61 (by decide +kernel) rfl
theorem ff_85 : FuncF Tryz.prog 85 := func_of Tryz.func85 (by decide +kernel) rfl
theorem ff_90 : FuncF Tryz.prog 90 := func_of Tryz.func90 (by decide +kernel) rfl
theorem ff_91 : FuncF Tryz.prog 91 := func_of Tryz.func91 (by decide +kernel) rfl
theorem ff_93 : FuncF Tryz.prog 93 := func_of Tryz.func93 (by decide +kernel) rfl
theorem ff_94 : FuncF Tryz.prog 94 := func_of Tryz.func94 (by decide +kernel) rfl
theorem ff_95 : FuncF Tryz.prog 95 := func_of Tryz.func95 (by decide +kernel) rfl
theorem ff_96 : FuncF Tryz.prog 96 := func_of Tryz.func96 (by decide +kernel) rfl
theorem ff_97 : FuncF Tryz.prog 97 := func_of Tryz.func97 (by decide +kernel) rfl
theorem ff_99 : FuncF Tryz.prog 99 := func_of Tryz.func99 (by decide +kernel) rfl
theorem ff_100 : FuncF Tryz.prog 100 := func_of Tryz.func100 (by decide +kernel) rfl
theorem ff_101 : FuncF Tryz.prog 101 := func_of Tryz.func101 (by decide +kernel) rfl
theorem ff_102 : FuncF Tryz.prog 102 := func_of Tryz.func102 (by decide +kernel) rfl
theorem ff_103 : FuncF Tryz.prog 103 := func_of Tryz.func103 (by decide +kernel) rfl
theorem ff_104 : FuncF Tryz.prog 104 := func_of Tryz.func104 (by decide +kernel) rfl
theorem ff_105 : FuncF Tryz.prog 105 := func_of Tryz.func105 (by decide +kernel) rfl
theorem ff_106 : FuncF Tryz.prog 106 := func_of Tryz.func106 (by decide +kernel) rfl
theorem ff_107 : FuncF Tryz.prog 107 := func_of Tryz.func107 (by decide +kernel) rfl
theorem ff_108 : FuncF Tryz.prog 108 := func_of Tryz.func108 (by decide +kernel) rfl
theorem ff_119 : FuncF Tryz.prog 119 := func_of Tryz.func119 (by decide +kernel) rfl
theorem ff_128 : FuncF Tryz.prog 128 := func_of Tryz.func128 (by decide +kernel) rfl
theorem ff_133 : FuncF Tryz.prog 133 := func_of Tryz.func133 (by decide +kernel) rfl
theorem ff_136 : FuncF Tryz.prog 136 := func_of Tryz.func136 (by decide +kernel) rfl
theorem ff_137 : FuncF Tryz.prog 137 := func_of Tryz.func137 (by decide +kernel) rfl
theorem ff_138 : FuncF Tryz.prog 138 := func_of Tryz.func138 (by decide +kernel) rfl
theorem ff_140 : FuncF Tryz.prog 140 := func_of Tryz.func140 (by decide +kernel) rfl
theorem ff_141 : FuncF Tryz.prog 141 := func_of Tryz.func141 (by decide +kernel) rfl
theorem ff_142 : FuncF Tryz.prog 142 := func_of Tryz.func142 (by decide +kernel) rfl
theorem ff_143 : FuncF Tryz.prog 143 := func_of Tryz.func143 (by decide +kernel) rfl
theorem ff_144 : FuncF Tryz.prog 144 := func_of Tryz.func144 (by decide +kernel) rfl
theorem ff_145 : FuncF Tryz.prog 145 := func_of Tryz.func145 (by decide +kernel) rfl
theorem ff_146 : FuncF Tryz.prog 146 := func_of Tryz.func146 (by decide +kernel) rfl
theorem ff_147 : FuncF Tryz.prog 147 := func_of Tryz.func147 (by decide +kernel) rfl
theorem ff_148 : FuncF Tryz.prog 148 := func_of Tryz.func148 (by decide +kernel) rfl
theorem ff_149 : FuncF Tryz.prog 149 := func_of Tryz.func149 (by decide +kernel) rfl
theorem ff_150 : FuncF Tryz.prog 150 := func_of Tryz.func150 (by decide +kernel) rfl
theorem ff_151 : FuncF Tryz.prog 151 := func_of Tryz.func151 (by decide +kernel) rfl
theorem ff_152 : FuncF Tryz.prog 152 := func_of Tryz.func152 (by decide +kernel) rfl
theorem ff_185 : FuncF Tryz.prog 185 := func_of Tryz.func185 (by decide +kernel) rfl
theorem ff_186 : FuncF Tryz.prog 186 := func_of Tryz.func186 (by decide +kernel) rfl
theorem ff_187 : FuncF Tryz.prog 187 := func_of Tryz.func187 (by decide +kernel) rfl
theorem ff_188 : FuncF Tryz.prog 188 := func_of Tryz.func188 (by decide +kernel) rfl
theorem ff_189 : FuncF Tryz.prog 189 := func_of Tryz.func189 (by decide +kernel) rfl
theorem ff_190 : FuncF Tryz.prog 190 := func_of Tryz.func190 (by decide +kernel) rfl
theorem ff_191 : FuncF Tryz.prog 191 := func_of Tryz.func191 (by decide +kernel) rfl
theorem ff_192 : FuncF Tryz.prog 192 := func_of Tryz.func192 (by decide +kernel) rfl
theorem ff_193 : FuncF Tryz.prog 193 := func_of Tryz.func193 (by decide +kernel) rfl
theorem ff_195 : FuncF Tryz.prog 195 := func_of Tryz.func195 (by decide +kernel) rfl
theorem ff_196 : FuncF Tryz.prog 196 := func_of Tryz.func196 (by decide +kernel) rfl
theorem ff_197 : FuncF Tryz.prog 197 := func_of Tryz.func197 (by decide +kernel) rfl
theorem ff_198 : FuncF Tryz.prog 198 := func_of Tryz.func198 (by decide +kernel) rfl
theorem ff_199 : FuncF Tryz.prog 199 := func_of Tryz.func199 (by decide +kernel) rfl
theorem ff_200 : FuncF Tryz.prog 200 := func_of Tryz.func200 (by decide +kernel) rfl
theorem ff_201 : FuncF Tryz.prog 201 := func_of Tryz.func201 (by decide +kernel) rfl
theorem ff_202 : FuncF Tryz.prog 202 := func_of Tryz.func202 (by decide +kernel) rfl
theorem ff_203 : FuncF Tryz.prog 203 := func_of Tryz.func203 (by decide +kernel) rfl
theorem ff_204 : FuncF Tryz.prog 204 := func_of Tryz.func204 (by decide +kernel) rfl
theorem ff_209 : FuncF Tryz.prog 209 := func_of Tryz.func209 (by decide +kernel) rfl
theorem ff_210 : FuncF Tryz.prog 210 := func_of Tryz.func210 (by decide +kernel) rfl
theorem ff_217 : FuncF Tryz.prog 217 := func_of Tryz.func217 (by decide +kernel) rfl
theorem ff_218 : FuncF Tryz.prog 218 := func_of Tryz.func218 (by decide +kernel) rfl
theorem ff_219 : FuncF Tryz.prog 219 := func_of Tryz.func219 (by decide +kernel) rfl
theorem ff_220 : FuncF Tryz.prog 220 := func_of Tryz.func220 (by decide +kernel) rfl
theorem ff_221 : FuncF Tryz.prog 221 := func_of Tryz.func221 (by decide +kernel) rfl
theorem ff_222 : FuncF Tryz.prog 222 := func_of Tryz.func222 (by decide +kernel) rfl
theorem ff_223 : FuncF Tryz.prog 223 := func_of Tryz.func223 (by decide +kernel) rfl
theorem ff_224 : FuncF Tryz.prog 224 := func_of Tryz.func224 (by decide +kernel) rfl
theorem ff_225 : FuncF Tryz.prog 225 := func_of Tryz.func225 (by decide +kernel) rfl
theorem ff_226 : FuncF Tryz.prog 226 := func_of Tryz.func226 (by decide +kernel) rfl
theorem ff_227 : FuncF Tryz.prog 227 := func_of Tryz.func227 (by decide +kernel) rfl
theorem ff_228 : FuncF Tryz.prog 228 := func_of Tryz.func228 (by decide +kernel) rfl
theorem ff_229 : FuncF Tryz.prog 229 := func_of Tryz.func229 (by decide +kernel) rfl
theorem ff_230 : FuncF Tryz.prog 230 := func_of Tryz.func230 (by decide +kernel) rfl
theorem ff_231 : FuncF Tryz.prog 231 := func_of Tryz.func231 (by decide +kernel) rfl
theorem ff_232 : FuncF Tryz.prog 232 := func_of Tryz.func232 (by decide +kernel) rfl
theorem ff_233 : FuncF Tryz.prog 233 := func_of Tryz.func233 (by decide +kernel) rfl
theorem ff_234 : FuncF Tryz.prog 234 := func_of Tryz.func234 (by decide +kernel) rfl
theorem ff_235 : FuncF Tryz.prog 235 := func_of Tryz.func235 (by decide +kernel) rfl
theorem ff_239 : FuncF Tryz.prog 239 := func_of Tryz.func239 (by decide +kernel) rfl
theorem ff_240 : FuncF Tryz.prog 240 := func_of Tryz.func240 (by decide +kernel) rfl
theorem ff_241 : FuncF Tryz.prog 241 := func_of Tryz.func241 (by decide +kernel) rfl
theorem ff_242 : FuncF Tryz.prog 242 := func_of Tryz.func242 (by decide +kernel) rfl
theorem ff_243 : FuncF Tryz.prog 243 := func_of Tryz.func243 (by decide +kernel) rfl
theorem ff_244 : FuncF Tryz.prog 244 := func_of Tryz.func244 (by decide +kernel) rfl
theorem ff_245 : FuncF Tryz.prog 245 := func_of Tryz.func245 (by decide +kernel) rfl
theorem ff_246 : FuncF Tryz.prog 246 := func_of Tryz.func246 (by decide +kernel) rfl
theorem ff_247 : FuncF Tryz.prog 247 := func_of Tryz.func247 (by decide +kernel) rfl
theorem ff_249 : FuncF Tryz.prog 249 := func_of Tryz.func249 (by decide +kernel) rfl
theorem ff_250 : FuncF Tryz.prog 250 := func_of Tryz.func250 (by decide +kernel) rfl
theorem ff_251 : FuncF Tryz.prog 251 := func_of Tryz.func251 (by decide +kernel) rfl
theorem ff_252 : FuncF Tryz.prog 252 := func_of Tryz.func252 (by decide +kernel) rfl
theorem mixed : Tryz.prog.follows .mixedOrders = true := by kernel_rfl
end Go.Proofs.YtfgnmflfiobkmaaGreat
namespace Go.Proofs.YtfgnmflfiobkmaaGreat
open Go.RowKit
section
variable {P : Program} {a : Act} {w : World} {n : Nat} {e : Env} {ty : TypeId} {pos : String} {af : Array Edge} {g : Option (Nat × Bool)} {d : Option Tmp}
variable {t t' : TypeId} {x y : Operand} {i j : Int}
theorem ev_rem (hf : Fr a n e) (hx : ev e x = some (.int .i64 i)) (hy : ev e y = some (.int .i64 j)) (h0 : (j == 0) = false) : Ev P ⟨d, .binOp .rem t x y t', ty, pos, af, g⟩ a w (.int .i64 (i.tmod j)) := fun w' _ => by
  have h0' : j ≠ 0 := by rintro rfl; simp at h0
  simp [execOp, hf.ev hx, hf.ev hy, eqGuard, binOp, Op.intDiv, h0']
theorem ev_quo (hf : Fr a n e) (hx : ev e x = some (.int .i64 i)) (hy : ev e y = some (.int .i64 j)) (h0 : (j == 0) = false) : Ev P ⟨d, .binOp .quo t x y t', ty, pos, af, g⟩ a w (.int .i64 (IntKind.i64.wrap (i.tdiv j))) := fun w' _ => by
  have h0' : j ≠ 0 := by rintro rfl; simp at h0
  simp [execOp, hf.ev hx, hf.ev hy, eqGuard, binOp, Op.intDiv, h0']
theorem ev_mulx (hf : Fr a n e) (hx : ev e x = some (.int .i64 i)) (hy : ev e y = some (.int .i64 j)) (h1 : -9223372036854775808 ≤ i * j) (h2 : i * j ≤ 9223372036854775807) : Ev P ⟨d, .binOp .mul t x y t', ty, pos, af, g⟩ a w (.int .i64 (i * j)) := fun w' _ => by
  have h : IntKind.i64.wrap (i * j) = i * j := IntWalk.i64_in _ ⟨h1, h2⟩
  simp [execOp, hf.ev hx, hf.ev hy, eqGuard, binOp, Op.intArith, h]
theorem ev_mulN {m k : Nat} (hf : Fr a n e) (hx : ev e x = some (.int .i64 (m : Int))) (hy : ev e y = some (.int .i64 (k : Int))) (hb : m * k ≤ 4611686018427387904) : Ev P ⟨d, .binOp .mul t x y t', ty, pos, af, g⟩ a w (.int .i64 ((m * k : Nat) : Int)) := fun w' _ => by
  have h : IntKind.i64.wrap ((m : Int) * (k : Int)) = ((m * k : Nat) : Int) := by
    rw [← Int.natCast_mul]
    exact IntWalk.i64_in _ ⟨by omega, by omega⟩
  simp [execOp, hf.ev hx, hf.ev hy, eqGuard, binOp, Op.intArith, h]
theorem ev_shl {k : IntKind} {m : Nat} (hf : Fr a n e) (hx : ev e x = some (.int .i64 i)) (hy : ev e y = some (.int k j)) (hj : j = (m : Int)) (hm : m ≤ 64) : Ev P ⟨d, .binOp .shl t x y t', ty, pos, af, g⟩ a w (.int .i64 (IntKind.i64.wrap (i * 2 ^ m))) := fun w' _ => by
  subst hj
  have hm' : min m 64 = m := by omega
  simp [execOp, hf.ev hx, hf.ev hy, eqGuard, binOp, Op.shift, IntKind.bits, hm']
theorem ev_shr {k : IntKind} {m : Nat} (hf : Fr a n e) (hx : ev e x = some (.int .i64 i)) (hy : ev e y = some (.int k j)) (hj : j = (m : Int)) (hm : m ≤ 64) : Ev P ⟨d, .binOp .shr t x y t', ty, pos, af, g⟩ a w (.int .i64 (i / 2 ^ m)) := fun w' _ => by
  subst hj
  have hm' : min m 64 = m := by omega
  simp [execOp, hf.ev hx, hf.ev hy, eqGuard, binOp, Op.shift, IntKind.bits, hm']
theorem ev_andNot (hf : Fr a n e) (hx : ev e x = some (.int .i64 i)) (hy : ev e y = some (.int .i64 j)) : Ev P ⟨d, .binOp .andNot t x y t', ty, pos, af, g⟩ a w (.int .i64 (bits .andNot .i64 i j)) := fun w' _ => by
  simp [execOp, hf.ev hx, hf.ev hy, eqGuard, binOp, Op.intBits, bits]
theorem ev_nil {p : Addr} (hf : Fr a n e) (hx : ev e x = some (.pointer (some p))) : Ev P ⟨d, .nilCheck x, ty, pos, af, g⟩ a w (.pointer (some p)) := fun w' _ => by
  simp [execOp, hf.ev hx]
end
theorem Rd.atV {α : Type} {w : World} {B b0 : Nat} {E T0 : TypeId} {enc : α → List Value} {A : Option Addr} {l : List α} {l0 : List Value} {sz : Nat} (hsz : ∀ x, (enc x).length = sz) (h : Rd w B E enc A l) {k : Nat} {x : α} (hk : l[k]? = some x)
    (hb : Blk w b0 T0 l0) (hT : Nat.beq E T0 = false) : ∃ p, A = some p ∧ At w (p.add (k * sz)) (enc x) ∧ (p.add (k * sz)).block ≠ b0 := by
  obtain ⟨p, h1, h2⟩ := h.at hsz hk
  refine ⟨p, h1, h2, ?_⟩
  have hl : l ≠ [] := by rintro rfl; simp at hk
  obtain ⟨b, off, cs, fz, h3, h4, h5, h6⟩ := h hl
  rw [h1] at h3
  injection h3 with h3
  subst h3
  rw [addr_block]
  rintro rfl
  unfold Blk at hb
  rw [h5] at hb
  injection hb with hb
  injection hb with _ e
  subst e
  simp at hT
section
variable {P : Program} {a : Act} {w : World} {n : Nat} {e : Env} {α : Type} {ops : Array Oper} {ty : TypeId} {pos : String} {af : Array Edge} {g : Option (Nat × Bool)} {d : Nat}
theorem s_indexV {b0 : Nat} {l0 : List Value} {Q : Act → World → Prop} {tl : Nat → Bool} {fuel : Nat} {done : List Nat} {T E T0 : TypeId} {sz B : Nat} {x y : Operand} {enc : α → List Value} {A : Option Addr} {c : Nat} {l : List α} {k : Nat} {i : Int} {u : α} (j : Nat)
    (ho : ops[j]? = some ⟨some d, .indexAddr T x y, ty, pos, af, g⟩) (hm : mayFirst ops done j = true) (hf : Fr a n e) (hw : Want ops ⟨some d, .indexAddr T x y, ty, pos, af, g⟩ e) (hn : Nat.blt d n = true)
    (hb : Blk w b0 T0 l0) (hT0 : Nat.beq E T0 = false)
    (hx : ev e x = some (.slice A l.length c)) (hy : ev e y = some (.int .i64 i)) (hT : SliceT P T E) (hs : SizeT P E sz) (hsz : ∀ x, (enc x).length = sz) (hr : Rd w B E enc A l) (hk : l[k]? = some u) (hi : i = (k : Int))
    (h : ∀ a' p, At w p (enc u) → p.block ≠ b0 → Fr a' n ((d, .pointer (some p)) :: e) → wpS P ops (some b0) tl Q fuel (mask ops (j :: done)) a' w) : wpS P ops (some b0) tl Q (fuel + 1) (mask ops done) a w := by
  obtain ⟨p, rfl, hat, hne⟩ := hr.atV hsz hk hb hT0
  exact s_ev0 j ho hm hf hw rfl hn (fun w => ev_index hf hx hy hT hs hi (List.getElem?_eq_some_iff.1 hk).1) fun a' hf' => h a' _ hat hne hf'
end
theorem Own.lower {α : Type} {w : World} {B0 B1 : Nat} {E : TypeId} {sz : Nat} {enc : α → List Value} {A : Option Addr} {c : Nat} {l : List α} (h : Own w B0 E sz enc A c l) (hB : B1 ≤ B0) : Own w B1 E sz enc A c l := by
  refine ⟨h.1, ?_⟩
  rcases h.2 with h1 | ⟨g, cap, cur, h1, h2, h3⟩
  · exact .inl h1
  · exact .inr ⟨g, cap, cur, h1, Nat.le_trans hB h2, h3⟩
section
variable {α : Type} {P : Program} {a : Act} {w : World} {n : Nat} {e : Env} {ty : TypeId} {pos : String} {af : Array Edge} {g : Option (Nat × Bool)} {d : Option Tmp}
theorem ef_appendFull {T E : TypeId} {sz bytes B B2 : Nat} {x y : Operand} {enc : α → List Value} {A A2 : Option Addr} {c c2 : Nat} {l l2 : List α} (hf : Fr a n e) (hx : ev e x = some (.slice A l.length c)) (hy : ev e y = some (.slice A2 l2.length c2))
    (hT : SliceT P T E) (hi : InfoT P E sz bytes) (hsz : ∀ x, (enc x).length = sz) (ho : Rd w B E enc A l) (hr : Rd w B2 E enc A2 l2) (hc : c = l.length) (hl : l ≠ []) (hl2 : l2 ≠ []) (h63 : l.length + l2.length ≤ maxLen) (hbytes : (l.length + l2.length) * bytes ≤ 140737488355328) :
    Ef P ⟨d, .call ⟨.builtin .append, #[x, y], #[T, T]⟩, ty, pos, af, g⟩ a w (fun v w' => ∃ A' c', v = .slice A' (l ++ l2).length c' ∧ Own w' w.heap.size E sz enc A' c' (l ++ l2) ∧ Below w.heap.size w w') := by
  obtain ⟨i, z, hi1, hi2, rfl, rfl, hi5, hi6⟩ := hi
  obtain ⟨b1, off1, cs1, fz1, rfl, _, k1, k2⟩ := ho hl
  obtain ⟨b, off, cs, fz, rfl, h2, h3, h4⟩ := hr hl2
  have hlen1 := length_flatMap_enc hsz l
  have hlen2 := length_flatMap_enc hsz l2
  have hpos : 0 < l2.length := List.length_pos_iff.2 hl2
  have h := run_append_grow (P := P) w T ty E i z hT hi1 hi2 ⟨b1, off1, none⟩ l.length c (l.flatMap enc) hlen1 (fun j u hu => by
      have := k2 j u hu
      rw [addr_off]
      simp [World.cell?, k1, this])
    ⟨b, off, none⟩ l2.length c2 (l2.flatMap enc) hlen2 (fun j u hu => by
      have := h4 j u hu
      rw [addr_off]
      simp [World.cell?, h3, this])
    (by omega) (by simp only [maxLen] at h63; omega) (growslice_fits (by omega) hbytes)
  refine (Ef.of_run (w' := w.drew.alloc (.cells ((l.flatMap enc).toArray ++ (l2.flatMap enc).toArray ++ Builtin.zeroCells z.cells (grownCap w (l.length + l2.length) c E - (l.length + l2.length))) E)) (v := .slice (some ⟨w.heap.size, 0, none⟩) (l.length + l2.length) (grownCap w (l.length + l2.length) c E)) ?_).mono fun v w' ⟨e1, e2⟩ => ?_
  · simp [execOp, resolve, invoke, builtin, hf.ev hx, hf.ev hy, h]
  · subst e1; subst e2
    refine ⟨_, _, by rw [List.length_append], ?_, ((Below.refl _ _).drew).alloc (Nat.le_refl _) _⟩
    refine ⟨length_flatMap_enc hsz _, .inr ⟨w.heap.size, _, _, rfl, Nat.le_refl _, heap_alloc_new w.drew _, ?_, grownCap_le_maxLen w _ _ E h63, ?_, ?_⟩⟩
    · rw [List.length_append]; exact grownCap_ge w _ _ E
    · have hge := grownCap_ge w (l.length + l2.length) c E
      simp only [Array.size_append, List.size_toArray, size_zeroCells, hi5, hlen1, hlen2, ← Nat.add_mul]
      congr 1
      omega
    · have e3 : (l ++ l2).length * i.size = (l.flatMap enc ++ l2.flatMap enc).length := by rw [List.length_append, List.length_append, hlen1, hlen2, Nat.add_mul]
      rw [e3]
      simp only [Array.toList_append, List.flatMap_append, List.append_assoc]
      rw [← List.append_assoc]
      exact List.take_left
end
abbrev wr (i : Int) : Int := IntKind.i64.wrap i
theorem wr_in {i : Int} (h1 : -9223372036854775808 ≤ i) (h2 : i ≤ 9223372036854775807) : wr i = i := IntWalk.i64_in _ ⟨h1, h2⟩
structure Rg where (a b c d : Int) deriving DecidableEq
structure Dy where (num : Rg) (exp : Int) deriving DecidableEq
structure Gt where (k a b : Int) deriving DecidableEq
def encI (i : Int) : List Value := [.int .i64 i]
def encR (r : Rg) : List Value := [.int .i64 r.a, .int .i64 r.b, .int .i64 r.c, .int .i64 r.d]
def encD (x : Dy) : List Value := [.int .i64 x.num.a, .int .i64 x.num.b, .int .i64 x.num.c, .int .i64 x.num.d, .int .i64 x.exp]
def encG (x : Gt) : List Value := [.int .i64 x.k, .int .i64 x.a, .int .i64 x.b]
theorem encI_len : ∀ x, (encI x).length = 1 := fun _ => rfl
theorem encR_len : ∀ x, (encR x).length = 4 := fun _ => rfl
theorem encD_len : ∀ x, (encD x).length = 5 := fun _ => rfl
theorem encG_len : ∀ x, (encG x).length = 3 := fun _ => rfl
theorem encI_one : ∀ x, (encI x).all one = true := fun _ => rfl
theorem encD_one : ∀ x, (encD x).all one = true := fun _ => rfl
theorem encG_one : ∀ x, (encG x).all one = true := fun _ => rfl
abbrev rV (r : Rg) : Value := .agg #[.int .i64 r.a, .int .i64 r.b, .int .i64 r.c, .int .i64 r.d]
abbrev dV (x : Dy) : Value := .agg #[.int .i64 x.num.a, .int .i64 x.num.b, .int .i64 x.num.c, .int .i64 x.num.d, .int .i64 x.exp]
abbrev gV (x : Gt) : Value := .agg #[.int .i64 x.k, .int .i64 x.a, .int .i64 x.b]
def inR (n lo hi : Int) : Bool := decide (lo ≤ n) && decide (n ≤ hi)
def rOk (x : Rg) : Bool := inR x.a (-1000000000) 1000000000 && inR x.b (-1000000000) 1000000000 && inR x.c (-1000000000) 1000000000 && inR x.d (-1000000000) 1000000000
def rAdd (x y : Rg) : Rg := ⟨wr (x.a + y.a), wr (x.b + y.b), wr (x.c + y.c), wr (x.d + y.d)⟩
def rNeg (x : Rg) : Rg := ⟨wr (-x.a), wr (-x.b), wr (-x.c), wr (-x.d)⟩
def rMul (x y : Rg) : Rg :=
  ⟨wr (wr (wr (wr (x.a * y.a) - wr (x.b * y.d)) - wr (x.c * y.c)) - wr (x.d * y.b)),
   wr (wr (wr (wr (x.a * y.b) + wr (x.b * y.a)) - wr (x.c * y.d)) - wr (x.d * y.c)),
   wr (wr (wr (wr (x.a * y.c) + wr (x.b * y.b)) + wr (x.c * y.a)) - wr (x.d * y.d)),
   wr (wr (wr (wr (x.a * y.d) + wr (x.b * y.c)) + wr (x.c * y.b)) + wr (x.d * y.a))⟩
def rRoot (x : Rg) : Rg := ⟨wr (x.b - x.d), wr (x.a + x.c), wr (x.b + x.d), wr (x.c - x.a)⟩
def rEven (x : Rg) : Bool := (wr (x.a + x.c)).tmod 2 == 0 && (wr (x.b + x.d)).tmod 2 == 0
def rHalf (x : Rg) : Rg := ⟨wr ((rRoot x).a.tdiv 2), wr ((rRoot x).b.tdiv 2), wr ((rRoot x).c.tdiv 2), wr ((rRoot x).d.tdiv 2)⟩
def rOm (x : Rg) : Rg := ⟨wr (-x.d), x.a, x.b, x.c⟩
def rTurnN : Nat → Rg → Rg
  | 0, x => x
  | k + 1, x => rTurnN k (rOm x)
def turns (k : Int) : Int := (wr (k.tmod 8 + 8)).tmod 8
def rTurn (x : Rg) (k : Int) : Rg := rTurnN (turns k).toNat x
def lowN : Nat → Rg → Rg × Nat
  | 0, x => (x, 0)
  | m + 1, x => if rEven x then lowN m (rHalf x) else (x, m + 1)
def dLow (x : Rg) (exp : Int) : Dy := ⟨(lowN exp.toNat x).1, if 0 < exp then ((lowN exp.toNat x).2 : Int) else exp⟩
def dPow (k : Int) : Dy := ⟨rTurn ⟨1, 0, 0, 0⟩ k, 0⟩
def dNeg (x : Dy) : Dy := ⟨rNeg x.num, x.exp⟩
def dZ : Dy := ⟨⟨0, 0, 0, 0⟩, 0⟩
theorem dLow_step {x : Rg} {exp : Int} (h0 : 0 < exp) (he : rEven x = true) : dLow x exp = dLow (rHalf x) (exp - 1) := by
  obtain ⟨m, hm⟩ : ∃ m : Nat, exp = m + 1 := ⟨(exp - 1).toNat, by omega⟩
  subst hm
  have e1 : ((m : Int) + 1).toNat = m + 1 := by omega
  have e2 : ((m : Int) + 1 - 1) = m := by omega
  unfold dLow
  rw [e1, e2, Int.toNat_natCast]
  simp only [lowN, he, if_true, h0]
  cases m with
  | zero => simp [lowN]
  | succ k => simp
theorem dLow_stop {x : Rg} {exp : Int} (h : 0 < exp → rEven x = false) : dLow x exp = ⟨x, exp⟩ := by
  unfold dLow
  by_cases h0 : 0 < exp
  · obtain ⟨m, hm⟩ : ∃ m : Nat, exp = m + 1 := ⟨(exp - 1).toNat, by omega⟩
    subst hm
    have e1 : ((m : Int) + 1).toNat = m + 1 := by omega
    rw [e1]
    simp only [lowN, h h0, Bool.false_eq_true, if_false, h0, if_true]
    rfl
  · have e1 : exp.toNat = 0 := by omega
    rw [e1]
    simp [lowN, h0]
end Go.Proofs.YtfgnmflfiobkmaaGreat
namespace Go.Proofs.YtfgnmflfiobkmaaGreat
open Go.RowKit
section
variable {α : Type} {p : α → Bool} {l : List α} {k : Nat} {u : α}
theorem take_all (h : (l.take k).all p = true) (hu : l[k]? = some u) (hp : p u = true) : (l.take (k + 1)).all p = true := by
  rw [List.take_add_one, hu]
  simp only [List.all_append, h, Option.toList_some, List.all_cons, hp, List.all_nil, Bool.and_self]
theorem all_false (hu : l[k]? = some u) (hp : p u = false) : l.all p = false := by
  obtain ⟨h1, h2⟩ := List.getElem?_eq_some_iff.1 hu
  subst h2
  rw [List.all_eq_false]
  exact ⟨_, List.getElem_mem h1, by simp [hp]⟩
theorem take_full (h : (l.take k).all p = true) (hk : l.length ≤ k) : l.all p = true := by rwa [List.take_of_length_le hk] at h
end
theorem any_true {α : Type} {p : α → Bool} {l : List α} {k : Nat} {u : α} (hu : l[k]? = some u) (hp : p u = true) : l.any p = true := by
  obtain ⟨h1, h2⟩ := List.getElem?_eq_some_iff.1 hu
  subst h2
  exact List.any_eq_true.2 ⟨_, List.getElem_mem h1, hp⟩
theorem any_false {α : Type} {p : α → Bool} {l : List α} (h : l.all (fun x => !p x) = true) : l.any p = false := by
  rw [List.any_eq_false]
  intro x hx
  have := List.all_eq_true.1 h x hx
  simpa using this
theorem turns_bound (k : Int) : 0 ≤ turns k ∧ turns k < 8 := by
  have h1 : -8 < k.tmod 8 ∧ k.tmod 8 < 8 := by
    rcases Int.le_total 0 k with h | h
    · rw [Int.tmod_eq_emod_of_nonneg h]; omega
    · have h2 : (-k).tmod 8 = -(k.tmod 8) := Int.neg_tmod _ _
      rw [Int.tmod_eq_emod_of_nonneg (by omega)] at h2
      omega
  unfold turns
  rw [wr_in (by omega) (by omega)]
  have h4 : 0 ≤ k.tmod 8 + 8 := by omega
  rw [Int.tmod_eq_emod_of_nonneg h4]
  omega
def rIf2 (x : Rg) (l : List Rg) : Bool := (l ++ [x]).all rOk
def rIf1 (x : Rg) (l : List Rg) : Rg := if rIf2 x l = true then x else ⟨0, 0, 0, 0⟩
def rDiv2 (x : Rg) : Bool := rOk x && rEven x
def rDiv1 (x : Rg) : Rg := if rDiv2 x = true then rHalf x else ⟨0, 0, 0, 0⟩
theorem inR_iff {n lo hi : Int} : inR n lo hi = true ↔ lo ≤ n ∧ n ≤ hi := by simp [inR]
theorem rOk_iff {x : Rg} : rOk x = true ↔ (-1000000000 ≤ x.a ∧ x.a ≤ 1000000000) ∧ (-1000000000 ≤ x.b ∧ x.b ≤ 1000000000) ∧ (-1000000000 ≤ x.c ∧ x.c ≤ 1000000000) ∧ (-1000000000 ≤ x.d ∧ x.d ≤ 1000000000) := by
  simp only [rOk, Bool.and_eq_true, inR_iff, and_assoc]
theorem tdiv_bound {i : Int} (h1 : -2000000000 ≤ i) (h2 : i ≤ 2000000000) : -1000000000 ≤ i.tdiv 2 ∧ i.tdiv 2 ≤ 1000000000 := by
  rcases Int.le_total 0 i with h | h
  · rw [Int.tdiv_eq_ediv_of_nonneg h]; omega
  · have h3 : (-i).tdiv 2 = -(i.tdiv 2) := Int.neg_tdiv _ _
    rw [Int.tdiv_eq_ediv_of_nonneg (by omega)] at h3
    omega
theorem half_bound {i : Int} (h1 : -2000000000 ≤ i) (h2 : i ≤ 2000000000) : -1000000000 ≤ wr ((wr i).tdiv 2) ∧ wr ((wr i).tdiv 2) ≤ 1000000000 := by
  rw [wr_in (i := i) (by omega) (by omega)]
  have := tdiv_bound h1 h2
  rw [wr_in (by omega) (by omega)]
  exact this
theorem rHalf_ok {x : Rg} (h : rOk x = true) : rOk (rHalf x) = true := by
  rw [rOk_iff] at h ⊢
  exact ⟨half_bound (by omega) (by omega), half_bound (by omega) (by omega), half_bound (by omega) (by omega), half_bound (by omega) (by omega)⟩
theorem rIf_half {x : Rg} (h : rOk x = true) : rIf2 (rHalf x) [x] = true := by simp [rIf2, h, rHalf_ok h]
def mulOm2 (x : Rg) (k : Int) : Bool := inR k (-1000) 1000 && rOk x
def mulOm1 (x : Rg) (k : Int) : Rg := if mulOm2 x k = true then rTurn x k else ⟨0, 0, 0, 0⟩
def dOk (x : Dy) : Bool := rOk x.num && inR x.exp 0 60 && (x.exp == 0 || !rEven x.num)
theorem dOk_exp {x : Dy} (h : dOk x = true) : 0 ≤ x.exp ∧ x.exp ≤ 60 := by
  simp only [dOk, Bool.and_eq_true, inR_iff] at h
  exact h.1.2
theorem or3_false {a b c : Bool} (h : (!a || !b || !c) = true) : (a && b && c) = false := by revert h; cases a <;> cases b <;> cases c <;> simp
theorem or3_true {a b c : Bool} (h : (!a || !b || !c) = false) : (a && b && c) = true := by revert h; cases a <;> cases b <;> cases c <;> simp
theorem or2_false {a b : Bool} (h : (!a || !b) = true) : (a && b) = false := by revert h; cases a <;> cases b <;> simp
theorem or2_true {a b : Bool} (h : (!a || !b) = false) : (a && b) = true := by revert h; cases a <;> cases b <;> simp
theorem and3 {a b c : Bool} (h : (a && b && c) = true) : a = true ∧ b = true ∧ c = true := by revert h; cases a <;> cases b <;> cases c <;> simp
def dOf (x : Rg) (m : Int) : Option Dy := if (rOk x && inR m 0 60) = true then some (dLow x m) else none
def raiseI : Nat → Rg → Rg × Bool
  | 0, y => (y, true)
  | n + 1, y => if rIf2 (rRoot y) [y] = true then raiseI n (rRoot y) else (⟨0, 0, 0, 0⟩, false)
def dRaise (x : Dy) (m : Int) : Rg × Bool := raiseI (m - x.exp).toNat x.num
theorem raise_step {x : Dy} {m j : Int} {y : Rg} {b : Bool} (h : (if b = true then raiseI (m - j).toNat y else (y, false)) = dRaise x m) (hb : b = true) (hj : j < m) :
    (if rIf2 (rRoot y) [y] = true then raiseI (m - (j + 1)).toNat (rIf1 (rRoot y) [y]) else (rIf1 (rRoot y) [y], false)) = dRaise x m := by
  rw [← h, if_pos hb]
  obtain ⟨k, hk⟩ : ∃ k, (m - j).toNat = k + 1 := ⟨(m - j).toNat - 1, by omega⟩
  rw [hk, show (m - (j + 1)).toNat = k from by omega]
  unfold rIf1
  by_cases hh : rIf2 (rRoot y) [y] = true <;> simp [raiseI, hh]
def dAddI (x y : Dy) : Option Dy :=
  if (dOk x && dOk y) = true then
    if ((dRaise x (max x.exp y.exp)).2 && (dRaise y (max x.exp y.exp)).2 && rIf2 (rAdd (dRaise x (max x.exp y.exp)).1 (dRaise y (max x.exp y.exp)).1) [(dRaise x (max x.exp y.exp)).1, (dRaise y (max x.exp y.exp)).1]) = true then
      dOf (rIf1 (rAdd (dRaise x (max x.exp y.exp)).1 (dRaise y (max x.exp y.exp)).1) [(dRaise x (max x.exp y.exp)).1, (dRaise y (max x.exp y.exp)).1]) (max x.exp y.exp)
    else none
  else none
def dMulI (x y : Dy) : Option Dy :=
  if (dOk x && dOk y && rIf2 (rMul x.num y.num) [x.num, y.num]) = true then dOf (rIf1 (rMul x.num y.num) [x.num, y.num]) (x.exp + y.exp) else none
structure Mx where (rows cols : Int) (cells : List Dy)
def mZ : Mx := ⟨0, 0, []⟩
abbrev mV (A : Option Addr) (c : Nat) (m : Mx) : Value := .agg #[.int .i64 m.rows, .int .i64 m.cols, .slice A m.cells.length c]
def isDimB (n : Int) : Bool := inR n 1 32 && bits .and .i64 n (wr (n - 1)) == 0
def mOk (m : Mx) : Bool := isDimB m.rows && isDimB m.cols && (m.cells.length : Int) == wr (m.rows * m.cols) && !(m.cells.any fun x => !dOk x)
def seqO (g : Nat → Option Dy) : Nat → Option (List Dy)
  | 0 => some []
  | n + 1 => match seqO g n, g n with
    | some l, some x => some (l ++ [x])
    | _, _ => none
theorem seqO_step {g : Nat → Option Dy} {n : Nat} {l : List Dy} {x : Dy} (h : seqO g n = some l) (hx : g n = some x) : seqO g (n + 1) = some (l ++ [x]) := by simp [seqO, h, hx]
theorem seqO_none {g : Nat → Option Dy} {n : Nat} (hx : g n = none) : ∀ m, n < m → seqO g m = none
  | 0, h => by omega
  | m + 1, h => by
    by_cases hm : n = m
    · subst hm
      simp only [seqO, hx]
      split <;> simp_all
    · simp only [seqO, seqO_none hx m (by omega)]
theorem seqO_len {g : Nat → Option Dy} : ∀ {n : Nat} {l : List Dy}, seqO g n = some l → l.length = n
  | 0, l, h => by simp [seqO] at h; subst h; rfl
  | n + 1, l, h => by
    simp only [seqO] at h
    split at h
    · rename_i l' x h1 h2
      injection h with h
      subst h
      simp [seqO_len h1]
    · cases h
def gridG (f : Nat → Nat → Option Dy) (C : Nat) (n : Nat) : Option Dy := f (n / C) (n % C)
theorem gridG_at {f : Nat → Nat → Option Dy} {C i j : Nat} (hj : j < C) : gridG f C (i * C + j) = f i j := by
  unfold gridG
  have h1 : (i * C + j) / C = i := by rw [Nat.mul_comm, Nat.mul_add_div (by omega), Nat.div_eq_of_lt hj]; omega
  have h2 : (i * C + j) % C = j := by rw [Nat.mul_comm, Nat.mul_add_mod, Nat.mod_eq_of_lt hj]
  rw [h1, h2]
def matOf (R C : Int) (f : Nat → Nat → Option Dy) : Option Mx :=
  if (isDimB R && isDimB C) = true then (seqO (gridG f C.toNat) (R.toNat * C.toNat)).map fun l => ⟨R, C, l⟩ else none
def Mx.at (m : Mx) (i j : Nat) : Dy := m.cells.getD (i * m.cols.toNat + j) dZ
theorem Mx.at_get {m : Mx} {i j : Nat} (h : i * m.cols.toNat + j < m.cells.length) : m.cells[i * m.cols.toNat + j]? = some (m.at i j) := by
  rw [Mx.at, List.getD_eq_getElem?_getD, List.getElem?_eq_getElem h]; rfl
theorem isDimB_iff {n : Int} (h : isDimB n = true) : 1 ≤ n ∧ n ≤ 32 := by
  simp only [isDimB, Bool.and_eq_true, inR_iff] at h
  exact h.1
theorem mOk_len {m : Mx} (h : mOk m = true) : (1 ≤ m.rows ∧ m.rows ≤ 32) ∧ (1 ≤ m.cols ∧ m.cols ≤ 32) ∧ m.cells.length = m.rows.toNat * m.cols.toNat := by
  simp only [mOk, Bool.and_eq_true, beq_iff_eq] at h
  obtain ⟨⟨⟨h1, h2⟩, h3⟩, h4⟩ := h
  have h1 := isDimB_iff h1
  have h2 := isDimB_iff h2
  refine ⟨h1, h2, ?_⟩
  obtain ⟨r, hr⟩ : ∃ r : Nat, m.rows = r := ⟨m.rows.toNat, by omega⟩
  obtain ⟨c, hc⟩ : ∃ c : Nat, m.cols = c := ⟨m.cols.toNat, by omega⟩
  rw [hr] at h1
  rw [hc] at h2
  rw [hr, hc] at h3 ⊢
  have h5 : r * c ≤ 32 * 32 := Nat.mul_le_mul (by omega) (by omega)
  rw [← Int.natCast_mul, wr_in (by omega) (by omega)] at h3
  simp only [Int.toNat_natCast]
  exact Int.natCast_inj.1 h3
theorem grid_lt {R C i j : Nat} (hi : i < R) (hj : j < C) : i * C + j < R * C := by
  have h1 : (i + 1) * C ≤ R * C := Nat.mul_le_mul_right _ hi
  rw [Nat.add_mul] at h1
  omega
def dotI (a b : Mx) (i j : Nat) : Nat → Option Dy
  | 0 => some dZ
  | n + 1 => (dotI a b i j n).bind fun s => (dMulI (a.at i n) (b.at n j)).bind fun x => dAddI s x
theorem dotI_none {a b : Mx} {i j n : Nat} (h : dotI a b i j n = none) : ∀ m, n ≤ m → dotI a b i j m = none
  | 0, h' => by obtain rfl : n = 0 := by omega
                exact h
  | m + 1, h' => by
    by_cases hm : n = m + 1
    · subst hm; exact h
    · simp [dotI, dotI_none h m (by omega)]
def mulI (a b : Mx) : Option Mx := if (mOk a && mOk b && a.cols == b.rows) = true then matOf a.rows b.cols fun i j => dotI a b i j a.cols.toNat else none
def idI (n : Int) : Option Mx := matOf n n fun i j => some (if i = j then ⟨⟨1, 0, 0, 0⟩, 0⟩ else dZ)
def scaleI (m : Mx) (x : Dy) : Option Mx := if (mOk m && dOk x) = true then matOf m.rows m.cols fun i j => dMulI (m.at i j) x else none
end Go.Proofs.YtfgnmflfiobkmaaGreat
set_option maxRecDepth 8000
namespace Go.Proofs.YtfgnmflfiobkmaaGreat
open Go.RowKit
theorem fields_of {P : Program} {t : TypeId} {fs : Array Field} (h : P.underlying t = some (.struct fs)) : P.fieldsOf t = fs := by simp [Program.fieldsOf, h]
theorem run_part1 {P : Program} {w : World} {t k : Nat} {xs : Array Value} {v : Value} (h1 : OneT P t) (h : xs[k]? = some v) : (part t xs k).run P w = .ok v w := by
  simp [part, run_isAgg_one h1, h]
theorem eqFields_int {P : Program} {w : World} {d : Nat} {xs ys : Array Value} {f : Field} {fs : List Field} {k : IntKind} {i j : Int} (hn : f.name ≠ "_") (hT : OneT P f.type) (hu : P.underlying f.type = some (.int k)) (hx : xs[f.offset]? = some (.int .i64 i)) (hy : ys[f.offset]? = some (.int .i64 j))
    {r : Bool} (h : i = j → (Op.eqFields (d + 1) xs ys fs).run P w = .ok r w) : (Op.eqFields (d + 1) xs ys (f :: fs)).run P w = .ok (decide (i = j) && r) w := by
  simp only [Op.eqFields, hn, ne_eq, not_false_eq_true, if_true, Sem.run_bind, run_part1 hT hx, run_part1 hT hy, Result.andThen_ok, run_equalIn_int _ _ _ _ _ _ _ hu]
  by_cases hij : i = j
  · subst hij
    simp [h rfl]
  · simp [hij]
theorem eqR (d : Nat) (x y : Rg) (w : World) : (Op.equalIn (d + 2) 187 (rV x) (rV y)).run Tryz.prog w = .ok (decide (x = y)) w := by
  have hf := fields_of Tryz.underlying187
  refine (run_equalIn_struct w (d + 1) 187 _ _ (by rw [hf]; exact Tryz.underlying187) (by kernel_rfl)).trans ?_
  rw [hf]
  have : decide (x = y) = (decide (x.a = y.a) && (decide (x.b = y.b) && (decide (x.c = y.c) && (decide (x.d = y.d) && true)))) := by
    obtain ⟨a, b, c, d⟩ := x
    obtain ⟨a', b', c', d'⟩ := y
    simp
  rw [this]
  refine eqFields_int (by decide) t1_3 Tryz.underlying3 rfl rfl fun _ => ?_
  refine eqFields_int (by decide) t1_3 Tryz.underlying3 rfl rfl fun _ => ?_
  refine eqFields_int (by decide) t1_3 Tryz.underlying3 rfl rfl fun _ => ?_
  refine eqFields_int (by decide) t1_3 Tryz.underlying3 rfl rfl fun _ => ?_
  rfl
theorem run_partN {P : Program} {w : World} {t k n : Nat} {xs : Array Value} (h1 : AggT P t n) : (part t xs k).run P w = .ok (.agg (xs.extract k (k + n))) w := by
  simp [part, run_isAgg_agg h1, run_sizeOf' h1.2]
theorem eqFields_agg {P : Program} {w : World} {d n : Nat} {xs ys : Array Value} {f : Field} {fs : List Field} {v1 v2 : Value} {b r : Bool} (hn : f.name ≠ "_") (hT : AggT P f.type n) (hx : .agg (xs.extract f.offset (f.offset + n)) = v1) (hy : .agg (ys.extract f.offset (f.offset + n)) = v2)
    (he : (Op.equalIn d f.type v1 v2).run P w = .ok b w) (h : b = true → (Op.eqFields d xs ys fs).run P w = .ok r w) : (Op.eqFields d xs ys (f :: fs)).run P w = .ok (b && r) w := by
  simp only [Op.eqFields, hn, ne_eq, not_false_eq_true, if_true, Sem.run_bind, run_partN hT, Result.andThen_ok, hx, hy, he]
  cases b
  · simp
  · simp [h rfl]
theorem eqD (d : Nat) (x y : Dy) (w : World) : (Op.equalIn (d + 3) 189 (dV x) (dV y)).run Tryz.prog w = .ok (decide (x = y)) w := by
  have hf := fields_of Tryz.underlying189
  refine (run_equalIn_struct w (d + 2) 189 _ _ (by rw [hf]; exact Tryz.underlying189) (by kernel_rfl)).trans ?_
  rw [hf]
  have : decide (x = y) = (decide (x.num = y.num) && (decide (x.exp = y.exp) && true)) := by
    obtain ⟨a, b⟩ := x
    obtain ⟨a', b'⟩ := y
    simp
  rw [this]
  refine eqFields_agg (v1 := rV x.num) (v2 := rV y.num) (by decide) tN_187 rfl rfl (eqR d _ _ _) fun _ => ?_
  exact eqFields_int (by decide) t1_3 Tryz.underlying3 rfl rfl fun _ => rfl
theorem eqG107 (d : Nat) (x y : Gt) (w : World) : (Op.equalIn (d + 2) 107 (gV x) (gV y)).run Tryz.prog w = .ok (decide (x = y)) w := by
  have hf := fields_of Tryz.underlying107
  refine (run_equalIn_struct w (d + 1) 107 _ _ (by rw [hf]; exact Tryz.underlying107) (by kernel_rfl)).trans ?_
  rw [hf]
  have : decide (x = y) = (decide (x.k = y.k) && (decide (x.a = y.a) && (decide (x.b = y.b) && true))) := by
    obtain ⟨a, b, c⟩ := x
    obtain ⟨a', b', c'⟩ := y
    simp
  rw [this]
  refine eqFields_int (by decide) t1_3 Tryz.underlying3 rfl rfl fun _ => ?_
  refine eqFields_int (by decide) t1_3 Tryz.underlying3 rfl rfl fun _ => ?_
  refine eqFields_int (by decide) t1_3 Tryz.underlying3 rfl rfl fun _ => ?_
  rfl
section
variable {P : Program} {a : Act} {w : World} {n : Nat} {e : Env} {ty : TypeId} {pos : String} {af : Array Edge} {g : Option (Nat × Bool)} {d : Option Tmp} {t t' : TypeId} {x y : Operand} {X Y : Array Value} {b : Bool}
theorem ev_neqS (hf : Fr a n e) (hx : ev e x = some (.agg X)) (hy : ev e y = some (.agg Y)) (hm : P.eqGuardType P.depth t = false) (he : ∀ w, (Op.equalIn 10000 t (.agg X) (.agg Y)).run P w = .ok b w) : Ev P ⟨d, .binOp .neq t x y t', ty, pos, af, g⟩ a w (.bool (!b)) := fun w' _ => by
  have h1 := run_eqGuard_agg (P := P) w' .neq t x y X Y hm
  have h2 := run_neq_struct (P := P) w' t X Y
  rw [he] at h2
  simp [execOp, hf.ev hx, hf.ev hy, h1, h2]
end
theorem gd_189 : Tryz.prog.eqGuardType Tryz.prog.depth 189 = false := by kernel_rfl
theorem take_eq {α : Type} {l m : List α} {k : Nat} {u v : α} (h : l.take k = m.take k) (hu : l[k]? = some u) (hv : m[k]? = some v) (he : u = v) : l.take (k + 1) = m.take (k + 1) := by
  rw [List.take_add_one, List.take_add_one, h, hu, hv, he]
theorem ev_toU {P : Program} {a : Act} {w : World} {n : Nat} {e : Env} {ty : TypeId} {pos : String} {af : Array Edge} {g : Option (Nat × Bool)} {d : Option Tmp} {s t : TypeId} {x : Operand} {i : Int} {m : Nat} (hs : P.underlying s = some (.int .i64)) (ht : P.underlying t = some (.int .u64)) (hf : Fr a n e) (hx : ev e x = some (.int .i64 i)) (hi : i = (m : Int)) (hm : m ≤ 64) :
    Ev P ⟨d, .convert s t x, ty, pos, af, g⟩ a w (.int .u64 (m : Int)) := fun w' _ => by
  subst hi
  have h : IntKind.u64.wrap (m : Int) = (m : Int) := by
    simp only [IntKind.wrap]
    simp only [IntKind.bits, IntKind.signed, Bool.false_and, Bool.false_eq_true, if_false]
    omega
  simp [execOp, hf.ev hx, convert, run_under hs, run_under ht, Conv.intToInt, h]
def bitF (n s q : Int) : Int := bits .and .i64 (s / 2 ^ (n - 1 - q).toNat) 1
def flipF (n s q : Int) : Int := bits .xor .i64 s (wr (1 * 2 ^ (n - 1 - q).toNat))
def turnOf (k : Int) : Int := if k = 4 then 4 else if k = 5 then 2 else if k = 6 then 6 else if k = 7 then 1 else 7
theorem turn_get {k : Int} (h1 : 4 ≤ k) (h2 : k ≤ 8) : ([4, 2, 6, 1, 7] : List Int)[(k - 4).toNat]? = some (turnOf k) := by
  have : k = 4 ∨ k = 5 ∨ k = 6 ∨ k = 7 ∨ k = 8 := by omega
  rcases this with rfl | rfl | rfl | rfl | rfl <;> rfl
def dHalf : Dy := ⟨⟨1, 0, 0, 0⟩, 1⟩
def oneL (k : Int) : List Dy :=
  if k = 1 then [dHalf, dHalf, dHalf, dNeg dHalf] else if k = 2 then [dZ, dPow 0, dPow 0, dZ] else if k = 3 then [dZ, dPow 6, dPow 2, dZ] else [dPow 0, dZ, dZ, dPow (turnOf k)]
theorem Own.of_blkL {α : Type} {w : World} {B0 b k : Nat} {E : TypeId} {sz : Nat} {enc : α → List Value} {cs : List Value} {l : List α} (hsz : ∀ x, (enc x).length = sz) (h : Blk w b E cs) (hb : B0 ≤ b) (hc : l.flatMap enc = cs) (hl : l.length = k) (hk : k ≤ maxLen) : Own w B0 E sz enc (some ⟨b, 0, none⟩) k l := by
  subst hc; subst hl
  have h1 := length_flatMap_enc hsz l
  refine ⟨h1, .inr ⟨b, l.length, _, rfl, hb, h, Nat.le_refl _, hk, ?_, ?_⟩⟩
  · simpa using h1
  · rw [← h1]; exact List.take_length
end Go.Proofs.YtfgnmflfiobkmaaGreat
namespace Go.Proofs.YtfgnmflfiobkmaaGreat
open Go.RowKit
structure Cx where (n : Int) (gs : List Gt)
def gOk (n : Int) (x : Gt) : Bool :=
  inR n 1 5 && inR x.k 1 12 && (if x.k = 12 then x.a == 0 && x.b == 0 else if inR x.k 9 11 = true then inR x.a 0 (n - 1) && inR x.b 0 (n - 1) && x.a != x.b else inR x.a 0 (n - 1) && x.b == 0)
def cOk (c : Cx) : Bool := inR c.n 1 5 && decide ((c.gs.length : Int) ≤ 400) && !(c.gs.any fun x => !gOk c.n x)
def eqPhT (p q : Mx) (k : Nat) : Bool := (scaleI q (dPow k)).isSome && (decide (p.rows = ((scaleI q (dPow k)).getD mZ).rows) && decide (p.cols = ((scaleI q (dPow k)).getD mZ).cols) && decide (p.cells = ((scaleI q (dPow k)).getD mZ).cells))
def eqPh (p q : Mx) : Bool := (List.range 8).any (eqPhT p q)
def sRing (x : Rg) : Rg := if rOk x = true then x else ⟨0, 0, 0, 0⟩
def sRaiseN : Nat → Bool → Dy → Bool × Dy
  | 0, f, x => (f, x)
  | n + 1, f, x => sRaiseN n (f || !rOk (rRoot x.num)) ⟨sRing (rRoot x.num), x.exp + 1⟩
def sAdd (f : Bool) (x y : Dy) : Bool × Dy :=
  ((sRaiseN ((sRaiseN (y.exp - x.exp).toNat f x).2.exp - y.exp).toNat (sRaiseN (y.exp - x.exp).toNat f x).1 y).1 || !rOk (rAdd (sRaiseN (y.exp - x.exp).toNat f x).2.num (sRaiseN ((sRaiseN (y.exp - x.exp).toNat f x).2.exp - y.exp).toNat (sRaiseN (y.exp - x.exp).toNat f x).1 y).2.num),
   dLow (sRing (rAdd (sRaiseN (y.exp - x.exp).toNat f x).2.num (sRaiseN ((sRaiseN (y.exp - x.exp).toNat f x).2.exp - y.exp).toNat (sRaiseN (y.exp - x.exp).toNat f x).1 y).2.num)) (sRaiseN (y.exp - x.exp).toNat f x).2.exp)
def sMul (f : Bool) (x y : Dy) : Bool × Dy :=
  if 60 < x.exp + y.exp then (true, dZ) else (f || !rOk (rMul x.num y.num), dLow (sRing (rMul x.num y.num)) (x.exp + y.exp))
theorem sRaise_step {f1 f : Bool} {x1 x : Dy} {m : Int} {k : Nat} (h : sRaiseN (m - x1.exp).toNat f1 x1 = sRaiseN k f x) (hlt : x1.exp < m) :
    sRaiseN (m - (x1.exp + 1)).toNat (f1 || !rOk (rRoot x1.num)) ⟨sRing (rRoot x1.num), x1.exp + 1⟩ = sRaiseN k f x := by
  rw [← h]
  obtain ⟨j, hj⟩ : ∃ j, (m - x1.exp).toNat = j + 1 := ⟨(m - x1.exp).toNat - 1, by omega⟩
  rw [hj, show (m - (x1.exp + 1)).toNat = j from by omega]
  rfl
theorem sRaise_done {f1 f : Bool} {x1 x : Dy} {m : Int} {k : Nat} (h : sRaiseN (m - x1.exp).toNat f1 x1 = sRaiseN k f x) (hlt : ¬ x1.exp < m) : sRaiseN k f x = (f1, x1) := by
  rw [← h, show (m - x1.exp).toNat = 0 from by omega]
  rfl
theorem bitF_01 (n s q : Int) : bitF n s q = 0 ∨ bitF n s q = 1 := by
  have key : ∀ b : BitVec 64, IntKind.i64.wrap ((b &&& BitVec.ofInt 64 1).toNat : Int) = 0 ∨ IntKind.i64.wrap ((b &&& BitVec.ofInt 64 1).toNat : Int) = 1 := fun b => by
    have : (BitVec.ofInt 64 1).toNat = 1 := by decide
    have h : (b &&& BitVec.ofInt 64 1).toNat = 0 ∨ (b &&& BitVec.ofInt 64 1).toNat = 1 := by
      rw [BitVec.toNat_and, this, Nat.and_one_is_mod]
      omega
    rcases h with h | h <;> rw [h]
    · exact .inl rfl
    · exact .inr rfl
  exact key _
theorem gOk_spec {n : Int} {g : Gt} (h : gOk n g = true) : (1 ≤ n ∧ n ≤ 5) ∧ (1 ≤ g.k ∧ g.k ≤ 12) ∧ (g.k ≠ 12 → 0 ≤ g.a ∧ g.a < n) ∧ (9 ≤ g.k ∧ g.k ≤ 11 → 0 ≤ g.b ∧ g.b < n ∧ g.a ≠ g.b) := by
  simp only [gOk, Bool.and_eq_true, inR_iff] at h
  obtain ⟨⟨h1, h2⟩, h3⟩ := h
  refine ⟨h1, h2, fun hk => ?_, fun hk => ?_⟩
  · rw [if_neg hk] at h3
    split at h3 <;> simp only [Bool.and_eq_true, inR_iff] at h3 <;> omega
  · rw [if_neg (by omega), if_pos hk] at h3
    simp only [Bool.and_eq_true, inR_iff, bne_iff_ne] at h3
    exact ⟨h3.1.2.1, by omega, h3.2⟩
def toS (n : Int) (g : Gt) (col : Int) : Int :=
  if g.k = 9 then (if bitF n col g.a = 1 then flipF n col g.b else col) else if g.k = 11 then (if bitF n col g.a ≠ bitF n col g.b then flipF n (flipF n col g.a) g.b else col) else col
def valS (n : Int) (g : Gt) (col : Int) : Dy := if g.k = 12 then dPow 1 else if g.k = 10 ∧ bitF n col g.a = 1 ∧ bitF n col g.b = 1 then dPow 4 else dPow 0
def cellS (n : Int) (g : Gt) (row col : Int) : Dy :=
  if g.k ≤ 8 then (if bits .andNot .i64 (bits .xor .i64 row col) (wr (1 * 2 ^ (n - 1 - g.a).toNat)) ≠ 0 then dZ else (oneL g.k).getD (2 * bitF n row g.a + bitF n col g.a).toNat dZ)
  else if row = toS n g col then valS n g col else dZ
theorem oneL_len (k : Int) : (oneL k).length = 4 := by unfold oneL; split <;> (try split) <;> (try split) <;> rfl
theorem oneL_get {k : Int} {m : Nat} (h : m < 4) : (oneL k)[m]? = some ((oneL k).getD m dZ) := by
  rw [List.getD_eq_getElem?_getD, List.getElem?_eq_getElem (by rw [oneL_len]; exact h)]; rfl
theorem ne_of_beqF {i j : Int} (h : (i == j) = false) : ¬ i = j := by simpa using h
theorem ev_shl1 {P : Program} {a : Act} {w : World} {n : Nat} {e : Env} {ty : TypeId} {pos : String} {af : Array Edge} {g : Option (Nat × Bool)} {d : Option Tmp} {t t' : TypeId} {x y : Operand} {j : Int} {k : IntKind} {m D : Nat} (hf : Fr a n e) (hx : ev e x = some (.int .i64 1)) (hy : ev e y = some (.int k j)) (hj : j = (m : Int)) (hD : D = 2 ^ m ∧ m ≤ 30) : Ev P ⟨d, .binOp .shl t x y t', ty, pos, af, g⟩ a w (.int .i64 (D : Int)) := by
  have h := ev_shl (P := P) (w := w) (d := d) (ty := ty) (pos := pos) (af := af) (g := g) (t := t) (t' := t') (i := 1) hf hx hy hj (by omega)
  have h2 : IntKind.i64.wrap (1 * 2 ^ m) = (D : Int) := by
    rw [hD.1]
    have h3 : (2 : Nat) ^ m ≤ 2 ^ 30 := Nat.pow_le_pow_right (by decide) hD.2
    have h4 : (2 : Int) ^ m = ((2 ^ m : Nat) : Int) := by simp
    rw [Int.one_mul, h4]
    exact IntWalk.i64_in _ ⟨by omega, by omega⟩
  rwa [h2] at h
def gridF (f : Nat → Nat → Dy) (C : Nat) (m : Nat) : Dy := f (m / C) (m % C)
def gridL (f : Nat → Nat → Dy) (C : Nat) (N : Nat) : List Dy := (List.range N).map (gridF f C)
theorem gridF_at {f : Nat → Nat → Dy} {C i j : Nat} (hj : j < C) : gridF f C (i * C + j) = f i j := by
  unfold gridF
  have h1 : (i * C + j) / C = i := by rw [Nat.mul_comm, Nat.mul_add_div (by omega), Nat.div_eq_of_lt hj]; omega
  have h2 : (i * C + j) % C = j := by rw [Nat.mul_comm, Nat.mul_add_mod, Nat.mod_eq_of_lt hj]
  rw [h1, h2]
theorem gridL_step {f : Nat → Nat → Dy} {C i j : Nat} (hj : j < C) : gridL f C (i * C + (j + 1)) = gridL f C (i * C + j) ++ [f i j] := by
  unfold gridL
  rw [show i * C + (j + 1) = (i * C + j) + 1 from rfl, List.range_succ, List.map_append, List.map_singleton, gridF_at hj]
theorem gridL_len (f : Nat → Nat → Dy) (C N : Nat) : (gridL f C N).length = N := by simp [gridL]
def gateS (n : Int) (g : Gt) : Mx := ⟨((2 ^ n.toNat : Nat) : Int), ((2 ^ n.toNat : Nat) : Int), gridL (fun i j => cellS n g i j) (2 ^ n.toNat) (2 ^ n.toNat * 2 ^ n.toNat)⟩
theorem pow_le32 {n : Int} (h : n ≤ 5) : 2 ^ n.toNat ≤ 32 := Nat.pow_le_pow_right (n := 2) (by decide) (show n.toNat ≤ 5 by omega)
def dTurn (k : Int) (x : Dy) : Dy := ⟨rTurn x.num k, x.exp⟩
def turnedS (p q : Mx) (k : Int) : Bool := decide (p.rows = q.rows) && decide (p.cols = q.cols) && decide (p.cells = q.cells.map (dTurn k))
def phaseS (p q : Mx) : Bool := (List.range 8).any fun k => turnedS p q (k : Int)
end Go.Proofs.YtfgnmflfiobkmaaGreat
namespace Go.Proofs.YtfgnmflfiobkmaaGreat
open Go.RowKit
section
variable {n : Int} {g : Gt} (hn : 1 ≤ n ∧ n ≤ 5)
include hn
theorem gOk1 (h : inR g.k 1 8 = true) : gOk n g = (inR g.a 0 (n - 1) && g.b == 0) := by
  have h1 := inR_iff.1 h
  have e1 : inR n 1 5 = true := inR_iff.2 hn
  have e2 : inR g.k 1 12 = true := inR_iff.2 (by omega)
  have e3 : ¬ inR g.k 9 11 = true := fun h => by have := inR_iff.1 h; omega
  rw [gOk, e1, e2, if_neg (by omega), if_neg e3]; rfl
theorem gOk2 (h : inR g.k 9 11 = true) : gOk n g = (inR g.a 0 (n - 1) && inR g.b 0 (n - 1) && g.a != g.b) := by
  have h1 := inR_iff.1 h
  have e1 : inR n 1 5 = true := inR_iff.2 hn
  have e2 : inR g.k 1 12 = true := inR_iff.2 (by omega)
  rw [gOk, e1, e2, if_neg (by omega), if_pos h]; rfl
theorem gOk3 (h1 : inR g.k 1 8 = false) (h2 : inR g.k 9 11 = false) : gOk n g = (g.k == 12 && g.a == 0 && g.b == 0) := by
  have e1 : inR n 1 5 = true := inR_iff.2 hn
  by_cases hk : g.k = 12
  · have e2 : inR g.k 1 12 = true := inR_iff.2 (by omega)
    rw [gOk, e1, e2, if_pos hk, hk]; rfl
  · have e2 : inR g.k 1 12 = false := by
      cases h : inR g.k 1 12 with
      | false => rfl
      | true =>
        have h3 := inR_iff.1 h
        rcases (show g.k < 9 ∨ 9 ≤ g.k by omega) with h4 | h4
        · rw [inR_iff.2 (by omega)] at h1; cases h1
        · rw [inR_iff.2 (by omega)] at h2; cases h2
    have e3 : (g.k == 12) = false := by simpa using hk
    rw [gOk, e1, e2, e3]; rfl
end
def entryI (k i j : Int) : Dy :=
  if k = 1 then (if i = 1 ∧ j = 1 then ⟨⟨-1, 0, 0, 0⟩, 1⟩ else dHalf) else if k = 2 ∧ i ≠ j then ⟨⟨1, 0, 0, 0⟩, 0⟩ else if k = 3 ∧ i ≠ j then dPow (2 + 4 * j)
  else if k = 2 ∨ k = 3 ∨ i ≠ j then dZ else if i = 0 then ⟨⟨1, 0, 0, 0⟩, 0⟩ else dPow (turnOf k)
theorem turn_find {k : Int} (h1 : 4 ≤ k) (h2 : k ≤ 8) : (([(4, 4, 0), (5, 2, 1), (6, 6, 2), (7, 1, 3), (8, 7, 4)] : List (Int × Int × Nat)).find? fun p => p.1 == k).map (fun p => p.2.1) = some (turnOf k) := by
  have : k = 4 ∨ k = 5 ∨ k = 6 ∨ k = 7 ∨ k = 8 := by omega
  rcases this with rfl | rfl | rfl | rfl | rfl <;> rfl
theorem turnOf_in (k : Int) : inR (turnOf k) (-1000) 1000 = true := by
  unfold turnOf; split <;> (try split) <;> (try split) <;> (try split) <;> rfl
def czI (n : Int) (g : Gt) (i : Int) : Bool := g.k == 10 && bitF n i g.a == 1 && bitF n i g.b == 1
def cellI (n : Int) (g : Gt) (i j : Int) : Dy :=
  if g.k = 12 then (if i = j then dPow 1 else dZ)
  else if inR g.k 9 11 = true then (if toS n g i = j then dPow (4 * (if czI n g i = true then 1 else 0)) else dZ)
  else if i = j ∨ flipF n i g.a = j then entryI g.k (bitF n i g.a) (bitF n j g.a) else dZ
def gateI (n : Int) (g : Gt) : Option Mx := if gOk n g = true then matOf ((2 ^ n.toNat : Nat) : Int) ((2 ^ n.toNat : Nat) : Int) fun i j => some (cellI n g i j) else none
end Go.Proofs.YtfgnmflfiobkmaaGreat
set_option maxRecDepth 4000
namespace Go.Proofs.YtfgnmflfiobkmaaGreat
open Go.RowKit
theorem F91 (w0 : World) (n : Int) (lo : Int) (hi : Int) : Ret Tryz.prog 91 [.int .i64 n, .int .i64 lo, .int .i64 hi] w0 (fun v w => v = .bool (inR n lo hi) ∧ w0 = w) := by
 refine enter Tryz.func91 rfl 15 rfl rfl ?_
 intro a hf
 have hW : Below w0.heap.size w0 w0 := Below.refl _ _
 refine wp_seq_k ?_; intro K1 hK1
 refine wp_region_lit ?_
 refine l_as hf rfl rfl ?_; intro a hf
 refine wpList_nil ?_
 refine hK1 _ _ ?_; try clear hK1 K1
 refine wp_seq_k ?_; intro K2 hK2
 refine c_cut (fun a w => Fr a 15 [(6, .bool ((decide (lo ≤ n)) && (decide (n ≤ hi))))] ∧ w0 = w) ?_ ?_
 ·refine wp_region_lit ?_
  refine l_mv hf rfl rfl ?_; intro a hf
  refine l_mv hf rfl rfl ?_; intro a hf
  refine l_e hf rfl (ev_leq hf rfl rfl) ?_; intro a hf
  refine l_mv hf rfl rfl ?_; intro a hf
  refine g_split hf (t := 10) rfl (fun hg3 => ?_) (fun hg3 => ?_)
  ·refine l_ev hf ⟨_, _, rfl, rfl, hg3⟩ rfl rfl (ev_move hf rfl) ?_; intro a hf
   refine l_ev hf ⟨_, _, rfl, rfl, hg3⟩ rfl rfl (ev_move hf rfl) ?_; intro a hf
   refine l_ev hf ⟨_, _, rfl, rfl, hg3⟩ rfl rfl (ev_leq hf rfl rfl) ?_; intro a hf
   refine l_e hf rfl (ev_pickT hf rfl hg3 rfl) ?_; intro a hf
   refine l_as hf rfl rfl ?_; intro a hf
   refine wpList_nil ?_
   exact ⟨hf.sub ⟨look_bool rfl (by first | rfl | (simp only [hg3, Bool.true_and, Bool.false_and, Bool.true_or, Bool.false_or]; done) | simp [hg3]), trivial⟩, rfl⟩
  refine l_pass hf ⟨_, _, rfl, rfl, hg3⟩ rfl rfl ?_; intro a hf
  refine l_pass hf ⟨_, _, rfl, rfl, hg3⟩ rfl rfl ?_; intro a hf
  refine l_pass hf ⟨_, _, rfl, rfl, hg3⟩ rfl rfl ?_; intro a hf
  refine l_e hf rfl (ev_pickF hf rfl hg3 rfl) ?_; intro a hf
  refine l_as hf rfl rfl ?_; intro a hf
  refine wpList_nil ?_
  exact ⟨hf.sub ⟨look_bool rfl (by first | rfl | (simp only [hg3, Bool.true_and, Bool.false_and, Bool.true_or, Bool.false_or]; done) | simp [hg3]), trivial⟩, rfl⟩
 rintro a _ ⟨hf, rfl⟩
 refine hK2 _ _ ?_; try clear hK2 K2
 refine wp_ret ?_
 refine c_ret hf (res1 hf rfl rfl) ?_
 exact ⟨by simp [inR, *], rfl⟩
theorem F85 (w0 : World) (n : Int) (lo : Int) (hi : Int) : Ret Tryz.prog 85 [.int .i64 n, .int .i64 lo, .int .i64 hi] w0 (fun v w => v = .bool (inR n lo hi) ∧ w0 = w) := by
 refine enter Tryz.func85 rfl 15 rfl rfl ?_
 intro a hf
 have hW : Below w0.heap.size w0 w0 := Below.refl _ _
 refine wp_seq_k ?_; intro K1 hK1
 refine wp_region_lit ?_
 refine l_as hf rfl rfl ?_; intro a hf
 refine wpList_nil ?_
 refine hK1 _ _ ?_; try clear hK1 K1
 refine wp_seq_k ?_; intro K2 hK2
 refine c_cut (fun a w => Fr a 15 [(6, .bool ((decide (lo ≤ n)) && (decide (n ≤ hi))))] ∧ w0 = w) ?_ ?_
 ·refine wp_region_lit ?_
  refine l_mv hf rfl rfl ?_; intro a hf
  refine l_mv hf rfl rfl ?_; intro a hf
  refine l_e hf rfl (ev_geq hf rfl rfl) ?_; intro a hf
  refine l_mv hf rfl rfl ?_; intro a hf
  refine g_split hf (t := 10) rfl (fun hg3 => ?_) (fun hg3 => ?_)
  ·refine l_ev hf ⟨_, _, rfl, rfl, hg3⟩ rfl rfl (ev_move hf rfl) ?_; intro a hf
   refine l_ev hf ⟨_, _, rfl, rfl, hg3⟩ rfl rfl (ev_move hf rfl) ?_; intro a hf
   refine l_ev hf ⟨_, _, rfl, rfl, hg3⟩ rfl rfl (ev_leq hf rfl rfl) ?_; intro a hf
   refine l_e hf rfl (ev_pickT hf rfl hg3 rfl) ?_; intro a hf
   refine l_as hf rfl rfl ?_; intro a hf
   refine wpList_nil ?_
   exact ⟨hf.sub ⟨look_bool rfl (by first | rfl | (simp only [hg3, Bool.true_and, Bool.false_and, Bool.true_or, Bool.false_or]; done) | simp [hg3]), trivial⟩, rfl⟩
  refine l_pass hf ⟨_, _, rfl, rfl, hg3⟩ rfl rfl ?_; intro a hf
  refine l_pass hf ⟨_, _, rfl, rfl, hg3⟩ rfl rfl ?_; intro a hf
  refine l_pass hf ⟨_, _, rfl, rfl, hg3⟩ rfl rfl ?_; intro a hf
  refine l_e hf rfl (ev_pickF hf rfl hg3 rfl) ?_; intro a hf
  refine l_as hf rfl rfl ?_; intro a hf
  refine wpList_nil ?_
  exact ⟨hf.sub ⟨look_bool rfl (by first | rfl | (simp only [hg3, Bool.true_and, Bool.false_and, Bool.true_or, Bool.false_or]; done) | simp [hg3]), trivial⟩, rfl⟩
 rintro a _ ⟨hf, rfl⟩
 refine hK2 _ _ ?_; try clear hK2 K2
 refine wp_ret ?_
 refine c_ret hf (res1 hf rfl rfl) ?_
 exact ⟨by simp [inR, *], rfl⟩
theorem F99 (w0 : World) (k : Int) : Ret Tryz.prog 99 [.int .i64 k] w0 (fun v w => v = .bool (inR k 9 11) ∧ w0 = w) := by
 refine enter Tryz.func99 rfl 5 rfl rfl ?_
 intro a hf
 have hW : Below w0.heap.size w0 w0 := Below.refl _ _
 refine wp_seq_k ?_; intro K1 hK1
 refine wp_region_lit ?_
 refine l_as hf rfl rfl ?_; intro a hf
 refine wpList_nil ?_
 refine hK1 _ _ ?_; try clear hK1 K1
 refine wp_seq_k ?_; intro K2 hK2
 refine wp_region_lit ?_
 refine l_mv hf rfl rfl ?_; intro a hf
 refine l_f hf rfl (ef_call (vs := [.int .i64 k, .int .i64 9, .int .i64 11]) hf rfl ff_91 (F91 _ k 9 11)) ?_; rintro a _ _ ⟨rfl, rfl⟩ hf
 refine l_as hf rfl rfl ?_; intro a hf
 refine wpList_nil ?_
 refine hK2 _ _ ?_; try clear hK2 K2
 refine wp_ret ?_
 refine c_ret hf (res1 hf rfl rfl) ?_
 exact ⟨rfl, rfl⟩
theorem F251 (w0 : World) (Al : Option Addr) (cl : Nat) (l : List Int) (hr_l : Rd w0 w0.heap.size 3 encI Al l) (lo : Int) (hi : Int) (hln : l.length ≤ 2305843009213693951) : Ret Tryz.prog 251 [.slice Al l.length cl, .int .i64 lo, .int .i64 hi] w0 (fun v w => v = .bool (l.all fun n => inR n lo hi) ∧ Below w0.heap.size w0 w) := by
 refine enter Tryz.func251 rfl 21 rfl rfl ?_
 intro a hf
 have hW : Below w0.heap.size w0 w0 := Below.refl _ _
 refine wp_seq_k ?_; intro K2 hK2
 refine wp_region_lit ?_
 refine l_as hf rfl rfl ?_; intro a hf
 refine wpList_nil ?_
 refine hK2 _ _ ?_; try clear hK2 K2
 refine wp_seq_k ?_; intro K3 hK3
 refine wp_seq_k ?_; intro K4 hK4
 refine wp_region_lit ?_
 refine l_mv hf rfl rfl ?_; intro a hf
 refine l_e hf rfl (ev_len hf rfl sl_36) ?_; intro a hf
 refine l_mv hf rfl rfl ?_; intro a hf
 refine wpList_nil ?_
 refine hK4 _ _ ?_; try clear hK4 K4
 refine wp_block ?_
 refine c_loop (σ := Nat) (fun (k : Nat) (a : Act) (w : World) => Fr a 21 [(1, .int .i64 lo), (2, .int .i64 hi), (9, .slice Al l.length cl), (10, .int .i64 (l.length : Int)), (11, .int .i64 (k : Int))] ∧ (k ≤ l.length) ∧ ((l.take k).all (fun n => inR n lo hi) = true) ∧ Below w0.heap.size w0 w) (fun (k : Nat) => l.length + 1 - k) 0 ?_ ?_
 · exact ⟨hf.sub ⟨rfl, rfl, rfl, rfl, rfl, trivial⟩, (Nat.zero_le _), (by simp), hW⟩
 rintro k a w1 ⟨hf, hk, hpre, hW⟩
 refine wp_seq_k ?_; intro K5 hK5
 refine wp_region_lit ?_
 refine l_e hf rfl (ev_lss hf rfl rfl) ?_; intro a hf
 refine wpList_nil ?_
 refine hK5 _ _ ?_; try clear hK5 K5
 refine wp_seq_k ?_; intro K6 hK6
 refine c_if hf rfl (fun hc7 => ?_) (fun hc7 => ?_)
 ·have hc7b := hc7
  have hc7 := of_decide_eq_true hc7
  obtain ⟨u8, hu8⟩ := getElem_ex (l := l) (k := k) (by omega)
  refine wp_skip ?_
  refine hK6 _ _ ?_; try clear hK6 K6
  refine wp_seq_k ?_; intro K9 hK9
  refine wp_block ?_
  refine wp_seq_k ?_; intro K10 hK10
  refine wp_region_lit ?_
  refine l_index (k := k) (u := u8) (enc := encI) (l := l) hf trivial rfl rfl rfl sl_36 sz_3 encI_len (hr_l.below' hW) hu8 rfl ?_; intro a p12 hat11 hf
  refine l_e hf rfl (ev_load1 hf rfl t1_3 hat11) ?_; intro a hf
  refine l_as hf rfl rfl ?_; intro a hf
  refine wpList_nil ?_
  refine hK10 _ _ ?_; try clear hK10 K10
  refine wp_seq_k ?_; intro K13 hK13
  refine wp_region_lit ?_
  refine l_mv hf rfl rfl ?_; intro a hf
  refine l_mv hf rfl rfl ?_; intro a hf
  refine l_mv hf rfl rfl ?_; intro a hf
  refine l_f hf rfl (ef_call (vs := [.int .i64 u8, .int .i64 lo, .int .i64 hi]) hf rfl ff_85 (F85 _ u8 lo hi)) ?_; rintro a _ _ ⟨rfl, rfl⟩ hf
  refine l_e hf rfl (ev_not hf rfl) ?_; intro a hf
  refine wpList_nil ?_
  refine hK13 _ _ ?_; try clear hK13 K13
  refine c_if hf rfl (fun hc14 => ?_) (fun hc14 => ?_)
  ·have hc14b := hc14
   have hb2 : (l.all fun n => inR n lo hi) = false := all_false hu8 (by simpa using hc14)
   refine wp_seq_k ?_; intro K15 hK15
   refine wp_region_lit ?_
   refine l_as hf rfl rfl ?_; intro a hf
   refine wpList_nil ?_
   refine hK15 _ _ ?_; try clear hK15 K15
   refine wp_ret ?_
   refine x_retB ?_
   refine x_retS ?_
   refine x_retS ?_
   refine x_retB ?_
   refine x_retS ?_
   refine c_ret hf (res1 hf rfl rfl) ?_
   exact ⟨by rw [hb2], hW⟩
  have hc14b := hc14
  have hok : inR u8 lo hi = true := by simpa using hc14
  refine wp_skip ?_
  refine x_norm ?_
  refine hK9 _ _ ?_; try clear hK9 K9
  refine wp_region_lit ?_
  refine l_e hf rfl (ev_addx hf rfl rfl (by omega) (by omega)) ?_; intro a hf
  refine l_mv hf rfl rfl ?_; intro a hf
  refine wpList_nil ?_
  refine x_thenN ?_
  exact ⟨k + 1, ⟨hf.sub ⟨rfl, rfl, rfl, rfl, rfl, trivial⟩, (by omega), (take_all hpre hu8 hok), hW⟩, (by omega)⟩
 have hc7b := hc7
 have hc7 := of_decide_eq_false hc7
 refine wp_exit ?_
 refine x_exS ?_
 refine x_exS ?_
 refine x_exit ?_
 refine hK3 _ _ ?_; try clear hK3 K3
 refine wp_seq_k ?_; intro K16 hK16
 refine wp_region_lit ?_
 refine l_as hf rfl rfl ?_; intro a hf
 refine wpList_nil ?_
 refine hK16 _ _ ?_; try clear hK16 K16
 refine wp_ret ?_
 refine c_ret hf (res1 hf rfl rfl) ?_
 have hb2 : (l.all fun n => inR n lo hi) = true := take_full hpre (by omega)
 exact ⟨by rw [hb2], hW⟩
theorem F245 (w0 : World) (x : Rg) : Ret Tryz.prog 245 [.agg #[.int .i64 x.a, .int .i64 x.b, .int .i64 x.c, .int .i64 x.d]] w0 (fun v w => v = .bool (rOk x) ∧ Below w0.heap.size w0 w) := by
 refine enter Tryz.func245 rfl 13 rfl rfl ?_
 intro a hf
 have hW : Below w0.heap.size w0 w0 := Below.refl _ _
 refine wp_seq_k ?_; intro K1 hK1
 refine wp_region_lit ?_
 refine l_f hf rfl (ef_box (zs := [.int .i64 x.a, .int .i64 x.b, .int .i64 x.c, .int .i64 x.d]) hf rfl rfl) ?_; rintro a _ w1 ⟨b2, rfl, hl2, hE, hB2⟩ hf
 have hlo2 := Nat.le_trans hW.size hl2
 replace hW := btr hW hE
 clear hE
 refine l_as hf rfl rfl ?_; intro a hf
 refine wpList_nil ?_
 refine hK1 _ _ ?_; try clear hK1 K1
 refine wp_seq_k ?_; intro K3 hK3
 refine wp_region_lit ?_
 refine l_e hf rfl (ev_fieldB hf rfl fd_187_0 (m := 0) rfl) ?_; intro a hf
 refine l_e hf rfl (ev_load1 hf rfl t1_3 (hB2.at 0)) ?_; intro a hf
 refine l_e hf rfl (ev_fieldB hf rfl fd_187_1 (m := 1) rfl) ?_; intro a hf
 refine l_e hf rfl (ev_load1 hf rfl t1_3 (hB2.at 1)) ?_; intro a hf
 refine l_e hf rfl (ev_fieldB hf rfl fd_187_2 (m := 2) rfl) ?_; intro a hf
 refine l_e hf rfl (ev_load1 hf rfl t1_3 (hB2.at 2)) ?_; intro a hf
 refine l_e hf rfl (ev_fieldB hf rfl fd_187_3 (m := 3) rfl) ?_; intro a hf
 refine l_e hf rfl (ev_load1 hf rfl t1_3 (hB2.at 3)) ?_; intro a hf
 refine l_f hf rfl (ef_buildSlice (k := 4) (vs := [.int .i64 x.a, .int .i64 x.b, .int .i64 x.c, .int .i64 x.d]) (zs := [.int .i64 x.a, .int .i64 x.b, .int .i64 x.c, .int .i64 x.d]) hf rfl sl_36 inf_3 rfl rfl) ?_; rintro a _ w2 ⟨b4, rfl, hl4, hE, hB4⟩ hf
 have hlo4 := Nat.le_trans hW.size hl4
 replace hB2 := hB2.below hE
 replace hW := btr hW hE
 clear hE
 refine l_f hf rfl (ef_call (vs := [.slice (some ⟨b4, 0, none⟩) ([x.a, x.b, x.c, x.d]).length 4, .int .i64 (-1000000000), .int .i64 1000000000]) hf rfl ff_251 (F251 _ (some ⟨b4, 0, none⟩) 4 ([x.a, x.b, x.c, x.d]) (Rd.of_blk hB4 rfl _ hB4.lt) (-1000000000) 1000000000 (by simp))) ?_; rintro a _ w3 ⟨rfl, hE⟩ hf
 replace hB2 := hB2.below hE
 replace hB4 := hB4.below hE
 replace hW := btr hW hE
 clear hE
 refine l_as hf rfl rfl ?_; intro a hf
 refine wpList_nil ?_
 refine hK3 _ _ ?_; try clear hK3 K3
 refine wp_ret ?_
 refine c_ret hf (res1 hf rfl rfl) ?_
 exact ⟨by simp [rOk, Bool.and_assoc], hW⟩
theorem F210 (w0 : World) (x : Rg) (k : Int) : Ret Tryz.prog 210 [.agg #[.int .i64 x.a, .int .i64 x.b, .int .i64 x.c, .int .i64 x.d], .int .i64 k] w0 (fun v w => v = rV (rTurn x k) ∧ Below w0.heap.size w0 w) := by
 refine enter Tryz.func210 rfl 24 rfl rfl ?_
 intro a hf
 have hW : Below w0.heap.size w0 w0 := Below.refl _ _
 refine wp_seq_k ?_; intro K1 hK1
 refine wp_region_lit ?_
 refine l_f hf rfl (ef_box (zs := [.int .i64 x.a, .int .i64 x.b, .int .i64 x.c, .int .i64 x.d]) hf rfl rfl) ?_; rintro a _ w1 ⟨b2, rfl, hl2, hE, hB2⟩ hf
 have hlo2 := Nat.le_trans hW.size hl2
 replace hW := btr hW hE
 clear hE
 refine l_f hf rfl (ef_alloc (zs := [.int .i64 0, .int .i64 0, .int .i64 0, .int .i64 0]) z_187 rfl) ?_; rintro a _ w2 ⟨b3, rfl, hl3, hE, hB3⟩ hf
 have hne2_3 : b2 ≠ b3 := by have := hB2.lt; omega
 have hlo3 := Nat.le_trans hW.size hl3
 replace hB2 := hB2.below hE
 replace hW := btr hW hE
 clear hE
 refine wpList_nil ?_
 refine hK1 _ _ ?_; try clear hK1 K1
 refine wp_seq_k ?_; intro K4 hK4
 refine wp_seq_k ?_; intro K5 hK5
 refine wp_region_lit ?_
 refine l_mv hf rfl rfl ?_; intro a hf
 refine l_e hf rfl (ev_rem hf rfl rfl rfl) ?_; intro a hf
 refine l_e hf rfl (ev_add hf rfl rfl) ?_; intro a hf
 refine l_e hf rfl (ev_rem hf rfl rfl rfl) ?_; intro a hf
 refine l_as hf rfl rfl ?_; intro a hf
 refine wpList_nil ?_
 refine hK5 _ _ ?_; try clear hK5 K5
 refine wp_block ?_
 have hj : turns k = ((turns k).toNat : Int) := by have := turns_bound k; omega
 rw [show (wr (k.tmod 8 + 8)).tmod 8 = turns k from rfl, hj] at hf
 have hj8 := (turns_bound k).2
 refine c_loop (σ := Rg × Nat) (fun (s : Rg × Nat) (a : Act) (w : World) => match s with | (y, j) => Fr a 24 [(1, .int .i64 (j : Int)), (2, .pointer (some ⟨b2, 0, none⟩)), (4, .pointer (some ⟨b3, 0, none⟩))] ∧ (rTurnN j y = rTurn x k) ∧ (j < 8) ∧ Blk w b2 187 [.int .i64 y.a, .int .i64 y.b, .int .i64 y.c, .int .i64 y.d] ∧ Blk w b3 187 [.int .i64 0, .int .i64 0, .int .i64 0, .int .i64 0] ∧ Below w0.heap.size w0 w) (fun (s : Rg × Nat) => match s with | (y, j) => j) (x, (turns k).toNat) ?_ ?_
 · exact ⟨hf.sub ⟨rfl, rfl, rfl, trivial⟩, rfl, (by omega), hB2, hB3, hW⟩
 rintro ⟨y, j⟩ a w3 ⟨hf, hinv, hj8, hB2, hB3, hW⟩
 refine wp_seq_k ?_; intro K6 hK6
 refine wp_seq_k ?_; intro K7 hK7
 refine wp_region_lit ?_
 refine l_mv hf rfl rfl ?_; intro a hf
 refine l_e hf rfl (ev_gtr hf rfl rfl) ?_; intro a hf
 refine wpList_nil ?_
 refine hK7 _ _ ?_; try clear hK7 K7
 refine c_if hf rfl (fun hc8 => ?_) (fun hc8 => ?_)
 ·have hc8b := hc8
  have hc8 := of_decide_eq_true hc8
  refine wp_skip ?_
  refine hK6 _ _ ?_; try clear hK6 K6
  refine wp_seq_k ?_; intro K9 hK9
  refine wp_block ?_
  refine wp_region_lit ?_
  refine l_e hf rfl (ev_fieldB hf rfl fd_187_3 (m := 3) rfl) ?_; intro a hf
  refine l_e hf rfl (ev_load1 hf rfl t1_3 (hB2.at 3)) ?_; intro a hf
  refine l_e hf rfl (ev_neg hf rfl) ?_; intro a hf
  refine l_e hf rfl (ev_fieldB hf rfl fd_187_0 (m := 0) rfl) ?_; intro a hf
  refine l_e hf rfl (ev_load1 hf rfl t1_3 (hB2.at 0)) ?_; intro a hf
  refine l_e hf rfl (ev_fieldB hf rfl fd_187_1 (m := 1) rfl) ?_; intro a hf
  refine l_e hf rfl (ev_load1 hf rfl t1_3 (hB2.at 1)) ?_; intro a hf
  refine l_e hf rfl (ev_fieldB hf rfl fd_187_2 (m := 2) rfl) ?_; intro a hf
  refine l_e hf rfl (ev_load1 hf rfl t1_3 (hB2.at 2)) ?_; intro a hf
  refine l_e hf rfl (ev_build (ps := [(0, .int .i64 (wr (-y.d))), (1, .int .i64 y.a), (2, .int .i64 y.b), (3, .int .i64 y.c)]) (cs := [.int .i64 (wr (-y.d)), .int .i64 y.a, .int .i64 y.b, .int .i64 y.c]) hf rfl (fun _ => by first | rfl | kernel_rfl)) ?_; intro a hf
  refine l_f0 hf (ef_store (vs := [.int .i64 (wr (-y.d)), .int .i64 y.a, .int .i64 y.b, .int .i64 y.c]) (l' := [.int .i64 (wr (-y.d)), .int .i64 y.a, .int .i64 y.b, .int .i64 y.c]) hf rfl rfl sz_187 hB2 rfl rfl rfl rfl rfl) ?_; rintro a _ w4 ⟨ho, hb⟩ hf
  have hold := hB2
  replace hB3 := hB3.only ho (by omega)
  replace hW := Below.only hW ho hlo2
  clear hold
  have hB2 := hb
  clear hb ho
  refine wpList_nil ?_
  refine x_norm ?_
  refine hK9 _ _ ?_; try clear hK9 K9
  refine wp_region_lit ?_
  refine l_mv hf rfl rfl ?_; intro a hf
  refine l_e hf rfl (ev_subx hf rfl rfl (by omega) (by omega)) ?_; intro a hf
  refine l_as hf rfl rfl ?_; intro a hf
  refine wpList_nil ?_
  have hjj : ((j : Int) - 1) = ((j - 1 : Nat) : Int) := by omega
  rw [hjj] at hf
  refine x_thenN ?_
  exact ⟨(rOm y, j - 1), ⟨hf.sub ⟨rfl, rfl, rfl, trivial⟩, (by rw [← hinv]; obtain ⟨m, rfl⟩ : ∃ m, j = m + 1 := ⟨j - 1, by omega⟩; rfl), (by omega), hB2, hB3, hW⟩, (by first | omega | (dsimp only; omega))⟩
 have hc8b := hc8
 have hc8 := of_decide_eq_false hc8
 refine wp_exit ?_
 refine x_exS ?_
 refine x_exS ?_
 refine x_exit ?_
 refine hK4 _ _ ?_; try clear hK4 K4
 refine wp_seq_k ?_; intro K10 hK10
 refine wp_region_lit ?_
 refine l_e hf rfl (ev_loadN (l := [.int .i64 y.a, .int .i64 y.b, .int .i64 y.c, .int .i64 y.d]) hf rfl tN_187 (hB2.at 0) rfl) ?_; intro a hf
 refine l_f0 hf (ef_store (vs := [.int .i64 y.a, .int .i64 y.b, .int .i64 y.c, .int .i64 y.d]) (l' := [.int .i64 y.a, .int .i64 y.b, .int .i64 y.c, .int .i64 y.d]) hf rfl rfl sz_187 hB3 rfl rfl rfl rfl rfl) ?_; rintro a _ w5 ⟨ho, hb⟩ hf
 have hold := hB3
 replace hB2 := hB2.only ho (by omega)
 replace hW := Below.only hW ho hlo3
 clear hold
 have hB3 := hb
 clear hb ho
 refine wpList_nil ?_
 refine hK10 _ _ ?_; try clear hK10 K10
 refine wp_ret ?_
 refine c_ret hf (res1 hf rfl (ResV.cellN (l := [.int .i64 y.a, .int .i64 y.b, .int .i64 y.c, .int .i64 y.d]) rfl tN_187 (hB3.at 0) rfl)) ?_
 have hj0 : j = 0 := by omega
 subst hj0
 rw [← hinv]
 exact ⟨rfl, hW⟩
theorem F232 (w0 : World) (x : Rg) : Ret Tryz.prog 232 [.agg #[.int .i64 x.a, .int .i64 x.b, .int .i64 x.c, .int .i64 x.d]] w0 (fun v w => v = rV (rRoot x) ∧ Below w0.heap.size w0 w) := by
 refine enter Tryz.func232 rfl 24 rfl rfl ?_
 intro a hf
 have hW : Below w0.heap.size w0 w0 := Below.refl _ _
 refine wp_seq_k ?_; intro K1 hK1
 refine wp_region_lit ?_
 refine l_f hf rfl (ef_box (zs := [.int .i64 x.a, .int .i64 x.b, .int .i64 x.c, .int .i64 x.d]) hf rfl rfl) ?_; rintro a _ w1 ⟨b2, rfl, hl2, hE, hB2⟩ hf
 have hlo2 := Nat.le_trans hW.size hl2
 replace hW := btr hW hE
 clear hE
 refine l_f hf rfl (ef_alloc (zs := [.int .i64 0, .int .i64 0, .int .i64 0, .int .i64 0]) z_187 rfl) ?_; rintro a _ w2 ⟨b3, rfl, hl3, hE, hB3⟩ hf
 have hne2_3 : b2 ≠ b3 := by have := hB2.lt; omega
 have hlo3 := Nat.le_trans hW.size hl3
 replace hB2 := hB2.below hE
 replace hW := btr hW hE
 clear hE
 refine wpList_nil ?_
 refine hK1 _ _ ?_; try clear hK1 K1
 refine wp_seq_k ?_; intro K4 hK4
 refine wp_region_lit ?_
 refine l_e hf rfl (ev_fieldB hf rfl fd_187_1 (m := 1) rfl) ?_; intro a hf
 refine l_e hf rfl (ev_load1 hf rfl t1_3 (hB2.at 1)) ?_; intro a hf
 refine l_e hf rfl (ev_fieldB hf rfl fd_187_3 (m := 3) rfl) ?_; intro a hf
 refine l_e hf rfl (ev_load1 hf rfl t1_3 (hB2.at 3)) ?_; intro a hf
 refine l_e hf rfl (ev_sub hf rfl rfl) ?_; intro a hf
 refine l_e hf rfl (ev_fieldB hf rfl fd_187_0 (m := 0) rfl) ?_; intro a hf
 refine l_e hf rfl (ev_load1 hf rfl t1_3 (hB2.at 0)) ?_; intro a hf
 refine l_e hf rfl (ev_fieldB hf rfl fd_187_2 (m := 2) rfl) ?_; intro a hf
 refine l_e hf rfl (ev_load1 hf rfl t1_3 (hB2.at 2)) ?_; intro a hf
 refine l_e hf rfl (ev_add hf rfl rfl) ?_; intro a hf
 refine l_e hf rfl (ev_fieldB hf rfl fd_187_1 (m := 1) rfl) ?_; intro a hf
 refine l_e hf rfl (ev_load1 hf rfl t1_3 (hB2.at 1)) ?_; intro a hf
 refine l_e hf rfl (ev_fieldB hf rfl fd_187_3 (m := 3) rfl) ?_; intro a hf
 refine l_e hf rfl (ev_load1 hf rfl t1_3 (hB2.at 3)) ?_; intro a hf
 refine l_e hf rfl (ev_add hf rfl rfl) ?_; intro a hf
 refine l_e hf rfl (ev_fieldB hf rfl fd_187_2 (m := 2) rfl) ?_; intro a hf
 refine l_e hf rfl (ev_load1 hf rfl t1_3 (hB2.at 2)) ?_; intro a hf
 refine l_e hf rfl (ev_fieldB hf rfl fd_187_0 (m := 0) rfl) ?_; intro a hf
 refine l_e hf rfl (ev_load1 hf rfl t1_3 (hB2.at 0)) ?_; intro a hf
 refine l_e hf rfl (ev_sub hf rfl rfl) ?_; intro a hf
 refine l_e hf rfl (ev_build (ps := [(0, .int .i64 (wr (x.b - x.d))), (1, .int .i64 (wr (x.a + x.c))), (2, .int .i64 (wr (x.b + x.d))), (3, .int .i64 (wr (x.c - x.a)))]) (cs := [.int .i64 (wr (x.b - x.d)), .int .i64 (wr (x.a + x.c)), .int .i64 (wr (x.b + x.d)), .int .i64 (wr (x.c - x.a))]) hf rfl (fun _ => by first | rfl | kernel_rfl)) ?_; intro a hf
 refine l_f0 hf (ef_store (vs := [.int .i64 (wr (x.b - x.d)), .int .i64 (wr (x.a + x.c)), .int .i64 (wr (x.b + x.d)), .int .i64 (wr (x.c - x.a))]) (l' := [.int .i64 (wr (x.b - x.d)), .int .i64 (wr (x.a + x.c)), .int .i64 (wr (x.b + x.d)), .int .i64 (wr (x.c - x.a))]) hf rfl rfl sz_187 hB3 rfl rfl rfl rfl rfl) ?_; rintro a _ w3 ⟨ho, hb⟩ hf
 have hold := hB3
 replace hB2 := hB2.only ho (by omega)
 replace hW := Below.only hW ho hlo3
 clear hold
 have hB3 := hb
 clear hb ho
 refine wpList_nil ?_
 refine hK4 _ _ ?_; try clear hK4 K4
 refine wp_ret ?_
 refine c_ret hf (res1 hf rfl (ResV.cellN (l := [.int .i64 (wr (x.b - x.d)), .int .i64 (wr (x.a + x.c)), .int .i64 (wr (x.b + x.d)), .int .i64 (wr (x.c - x.a))]) rfl tN_187 (hB3.at 0) rfl)) ?_
 exact ⟨rfl, hW⟩
theorem F234 (w0 : World) (x : Rg) (y : Rg) : Ret Tryz.prog 234 [.agg #[.int .i64 x.a, .int .i64 x.b, .int .i64 x.c, .int .i64 x.d], .agg #[.int .i64 y.a, .int .i64 y.b, .int .i64 y.c, .int .i64 y.d]] w0 (fun v w => v = rV (rAdd x y) ∧ Below w0.heap.size w0 w) := by
 refine enter Tryz.func234 rfl 26 rfl rfl ?_
 intro a hf
 have hW : Below w0.heap.size w0 w0 := Below.refl _ _
 refine wp_seq_k ?_; intro K1 hK1
 refine wp_region_lit ?_
 refine l_f hf rfl (ef_box (zs := [.int .i64 x.a, .int .i64 x.b, .int .i64 x.c, .int .i64 x.d]) hf rfl rfl) ?_; rintro a _ w1 ⟨b2, rfl, hl2, hE, hB2⟩ hf
 have hlo2 := Nat.le_trans hW.size hl2
 replace hW := btr hW hE
 clear hE
 refine l_f hf rfl (ef_box (zs := [.int .i64 y.a, .int .i64 y.b, .int .i64 y.c, .int .i64 y.d]) hf rfl rfl) ?_; rintro a _ w2 ⟨b3, rfl, hl3, hE, hB3⟩ hf
 have hne2_3 : b2 ≠ b3 := by have := hB2.lt; omega
 have hlo3 := Nat.le_trans hW.size hl3
 replace hB2 := hB2.below hE
 replace hW := btr hW hE
 clear hE
 refine l_f hf rfl (ef_alloc (zs := [.int .i64 0, .int .i64 0, .int .i64 0, .int .i64 0]) z_187 rfl) ?_; rintro a _ w3 ⟨b4, rfl, hl4, hE, hB4⟩ hf
 have hne2_4 : b2 ≠ b4 := by have := hB2.lt; omega
 have hne3_4 : b3 ≠ b4 := by have := hB3.lt; omega
 have hlo4 := Nat.le_trans hW.size hl4
 replace hB2 := hB2.below hE
 replace hB3 := hB3.below hE
 replace hW := btr hW hE
 clear hE
 refine wpList_nil ?_
 refine hK1 _ _ ?_; try clear hK1 K1
 refine wp_seq_k ?_; intro K5 hK5
 refine wp_region_lit ?_
 refine l_e hf rfl (ev_fieldB hf rfl fd_187_0 (m := 0) rfl) ?_; intro a hf
 refine l_e hf rfl (ev_load1 hf rfl t1_3 (hB2.at 0)) ?_; intro a hf
 refine l_e hf rfl (ev_fieldB hf rfl fd_187_0 (m := 0) rfl) ?_; intro a hf
 refine l_e hf rfl (ev_load1 hf rfl t1_3 (hB3.at 0)) ?_; intro a hf
 refine l_e hf rfl (ev_add hf rfl rfl) ?_; intro a hf
 refine l_e hf rfl (ev_fieldB hf rfl fd_187_1 (m := 1) rfl) ?_; intro a hf
 refine l_e hf rfl (ev_load1 hf rfl t1_3 (hB2.at 1)) ?_; intro a hf
 refine l_e hf rfl (ev_fieldB hf rfl fd_187_1 (m := 1) rfl) ?_; intro a hf
 refine l_e hf rfl (ev_load1 hf rfl t1_3 (hB3.at 1)) ?_; intro a hf
 refine l_e hf rfl (ev_add hf rfl rfl) ?_; intro a hf
 refine l_e hf rfl (ev_fieldB hf rfl fd_187_2 (m := 2) rfl) ?_; intro a hf
 refine l_e hf rfl (ev_load1 hf rfl t1_3 (hB2.at 2)) ?_; intro a hf
 refine l_e hf rfl (ev_fieldB hf rfl fd_187_2 (m := 2) rfl) ?_; intro a hf
 refine l_e hf rfl (ev_load1 hf rfl t1_3 (hB3.at 2)) ?_; intro a hf
 refine l_e hf rfl (ev_add hf rfl rfl) ?_; intro a hf
 refine l_e hf rfl (ev_fieldB hf rfl fd_187_3 (m := 3) rfl) ?_; intro a hf
 refine l_e hf rfl (ev_load1 hf rfl t1_3 (hB2.at 3)) ?_; intro a hf
 refine l_e hf rfl (ev_fieldB hf rfl fd_187_3 (m := 3) rfl) ?_; intro a hf
 refine l_e hf rfl (ev_load1 hf rfl t1_3 (hB3.at 3)) ?_; intro a hf
 refine l_e hf rfl (ev_add hf rfl rfl) ?_; intro a hf
 refine l_e hf rfl (ev_build (ps := [(0, .int .i64 (wr (x.a + y.a))), (1, .int .i64 (wr (x.b + y.b))), (2, .int .i64 (wr (x.c + y.c))), (3, .int .i64 (wr (x.d + y.d)))]) (cs := [.int .i64 (wr (x.a + y.a)), .int .i64 (wr (x.b + y.b)), .int .i64 (wr (x.c + y.c)), .int .i64 (wr (x.d + y.d))]) hf rfl (fun _ => by first | rfl | kernel_rfl)) ?_; intro a hf
 refine l_f0 hf (ef_store (vs := [.int .i64 (wr (x.a + y.a)), .int .i64 (wr (x.b + y.b)), .int .i64 (wr (x.c + y.c)), .int .i64 (wr (x.d + y.d))]) (l' := [.int .i64 (wr (x.a + y.a)), .int .i64 (wr (x.b + y.b)), .int .i64 (wr (x.c + y.c)), .int .i64 (wr (x.d + y.d))]) hf rfl rfl sz_187 hB4 rfl rfl rfl rfl rfl) ?_; rintro a _ w4 ⟨ho, hb⟩ hf
 have hold := hB4
 replace hB2 := hB2.only ho (by omega)
 replace hB3 := hB3.only ho (by omega)
 replace hW := Below.only hW ho hlo4
 clear hold
 have hB4 := hb
 clear hb ho
 refine wpList_nil ?_
 refine hK5 _ _ ?_; try clear hK5 K5
 refine wp_ret ?_
 refine c_ret hf (res1 hf rfl (ResV.cellN (l := [.int .i64 (wr (x.a + y.a)), .int .i64 (wr (x.b + y.b)), .int .i64 (wr (x.c + y.c)), .int .i64 (wr (x.d + y.d))]) rfl tN_187 (hB4.at 0) rfl)) ?_
 exact ⟨rfl, hW⟩
theorem F235 (w0 : World) (x : Rg) (y : Rg) : Ret Tryz.prog 235 [.agg #[.int .i64 x.a, .int .i64 x.b, .int .i64 x.c, .int .i64 x.d], .agg #[.int .i64 y.a, .int .i64 y.b, .int .i64 y.c, .int .i64 y.d]] w0 (fun v w => v = rV (rMul x y) ∧ Below w0.heap.size w0 w) := by
 refine enter Tryz.func235 rfl 98 rfl rfl ?_
 intro a hf
 have hW : Below w0.heap.size w0 w0 := Below.refl _ _
 refine wp_seq_k ?_; intro K1 hK1
 refine wp_region_lit ?_
 refine l_f hf rfl (ef_box (zs := [.int .i64 x.a, .int .i64 x.b, .int .i64 x.c, .int .i64 x.d]) hf rfl rfl) ?_; rintro a _ w1 ⟨b2, rfl, hl2, hE, hB2⟩ hf
 have hlo2 := Nat.le_trans hW.size hl2
 replace hW := btr hW hE
 clear hE
 refine l_f hf rfl (ef_box (zs := [.int .i64 y.a, .int .i64 y.b, .int .i64 y.c, .int .i64 y.d]) hf rfl rfl) ?_; rintro a _ w2 ⟨b3, rfl, hl3, hE, hB3⟩ hf
 have hne2_3 : b2 ≠ b3 := by have := hB2.lt; omega
 have hlo3 := Nat.le_trans hW.size hl3
 replace hB2 := hB2.below hE
 replace hW := btr hW hE
 clear hE
 refine l_f hf rfl (ef_alloc (zs := [.int .i64 0, .int .i64 0, .int .i64 0, .int .i64 0]) z_187 rfl) ?_; rintro a _ w3 ⟨b4, rfl, hl4, hE, hB4⟩ hf
 have hne2_4 : b2 ≠ b4 := by have := hB2.lt; omega
 have hne3_4 : b3 ≠ b4 := by have := hB3.lt; omega
 have hlo4 := Nat.le_trans hW.size hl4
 replace hB2 := hB2.below hE
 replace hB3 := hB3.below hE
 replace hW := btr hW hE
 clear hE
 refine wpList_nil ?_
 refine hK1 _ _ ?_; try clear hK1 K1
 refine wp_seq_k ?_; intro K5 hK5
 refine wp_region_lit ?_
 refine l_e hf rfl (ev_fieldB hf rfl fd_187_0 (m := 0) rfl) ?_; intro a hf
 refine l_e hf rfl (ev_load1 hf rfl t1_3 (hB2.at 0)) ?_; intro a hf
 refine l_e hf rfl (ev_fieldB hf rfl fd_187_0 (m := 0) rfl) ?_; intro a hf
 refine l_e hf rfl (ev_load1 hf rfl t1_3 (hB3.at 0)) ?_; intro a hf
 refine l_e hf rfl (ev_mul hf rfl rfl) ?_; intro a hf
 refine l_e hf rfl (ev_fieldB hf rfl fd_187_1 (m := 1) rfl) ?_; intro a hf
 refine l_e hf rfl (ev_load1 hf rfl t1_3 (hB2.at 1)) ?_; intro a hf
 refine l_e hf rfl (ev_fieldB hf rfl fd_187_3 (m := 3) rfl) ?_; intro a hf
 refine l_e hf rfl (ev_load1 hf rfl t1_3 (hB3.at 3)) ?_; intro a hf
 refine l_e hf rfl (ev_mul hf rfl rfl) ?_; intro a hf
 refine l_e hf rfl (ev_sub hf rfl rfl) ?_; intro a hf
 refine l_e hf rfl (ev_fieldB hf rfl fd_187_2 (m := 2) rfl) ?_; intro a hf
 refine l_e hf rfl (ev_load1 hf rfl t1_3 (hB2.at 2)) ?_; intro a hf
 refine l_e hf rfl (ev_fieldB hf rfl fd_187_2 (m := 2) rfl) ?_; intro a hf
 refine l_e hf rfl (ev_load1 hf rfl t1_3 (hB3.at 2)) ?_; intro a hf
 refine l_e hf rfl (ev_mul hf rfl rfl) ?_; intro a hf
 refine l_e hf rfl (ev_sub hf rfl rfl) ?_; intro a hf
 refine l_e hf rfl (ev_fieldB hf rfl fd_187_3 (m := 3) rfl) ?_; intro a hf
 refine l_e hf rfl (ev_load1 hf rfl t1_3 (hB2.at 3)) ?_; intro a hf
 refine l_e hf rfl (ev_fieldB hf rfl fd_187_1 (m := 1) rfl) ?_; intro a hf
 refine l_e hf rfl (ev_load1 hf rfl t1_3 (hB3.at 1)) ?_; intro a hf
 refine l_e hf rfl (ev_mul hf rfl rfl) ?_; intro a hf
 refine l_e hf rfl (ev_sub hf rfl rfl) ?_; intro a hf
 refine l_e hf rfl (ev_fieldB hf rfl fd_187_0 (m := 0) rfl) ?_; intro a hf
 refine l_e hf rfl (ev_load1 hf rfl t1_3 (hB2.at 0)) ?_; intro a hf
 refine l_e hf rfl (ev_fieldB hf rfl fd_187_1 (m := 1) rfl) ?_; intro a hf
 refine l_e hf rfl (ev_load1 hf rfl t1_3 (hB3.at 1)) ?_; intro a hf
 refine l_e hf rfl (ev_mul hf rfl rfl) ?_; intro a hf
 refine l_e hf rfl (ev_fieldB hf rfl fd_187_1 (m := 1) rfl) ?_; intro a hf
 refine l_e hf rfl (ev_load1 hf rfl t1_3 (hB2.at 1)) ?_; intro a hf
 refine l_e hf rfl (ev_fieldB hf rfl fd_187_0 (m := 0) rfl) ?_; intro a hf
 refine l_e hf rfl (ev_load1 hf rfl t1_3 (hB3.at 0)) ?_; intro a hf
 refine l_e hf rfl (ev_mul hf rfl rfl) ?_; intro a hf
 refine l_e hf rfl (ev_add hf rfl rfl) ?_; intro a hf
 refine l_e hf rfl (ev_fieldB hf rfl fd_187_2 (m := 2) rfl) ?_; intro a hf
 refine l_e hf rfl (ev_load1 hf rfl t1_3 (hB2.at 2)) ?_; intro a hf
 refine l_e hf rfl (ev_fieldB hf rfl fd_187_3 (m := 3) rfl) ?_; intro a hf
 refine l_e hf rfl (ev_load1 hf rfl t1_3 (hB3.at 3)) ?_; intro a hf
 refine l_e hf rfl (ev_mul hf rfl rfl) ?_; intro a hf
 refine l_e hf rfl (ev_sub hf rfl rfl) ?_; intro a hf
 refine l_e hf rfl (ev_fieldB hf rfl fd_187_3 (m := 3) rfl) ?_; intro a hf
 refine l_e hf rfl (ev_load1 hf rfl t1_3 (hB2.at 3)) ?_; intro a hf
 refine l_e hf rfl (ev_fieldB hf rfl fd_187_2 (m := 2) rfl) ?_; intro a hf
 refine l_e hf rfl (ev_load1 hf rfl t1_3 (hB3.at 2)) ?_; intro a hf
 refine l_e hf rfl (ev_mul hf rfl rfl) ?_; intro a hf
 refine l_e hf rfl (ev_sub hf rfl rfl) ?_; intro a hf
 refine l_e hf rfl (ev_fieldB hf rfl fd_187_0 (m := 0) rfl) ?_; intro a hf
 refine l_e hf rfl (ev_load1 hf rfl t1_3 (hB2.at 0)) ?_; intro a hf
 refine l_e hf rfl (ev_fieldB hf rfl fd_187_2 (m := 2) rfl) ?_; intro a hf
 refine l_e hf rfl (ev_load1 hf rfl t1_3 (hB3.at 2)) ?_; intro a hf
 refine l_e hf rfl (ev_mul hf rfl rfl) ?_; intro a hf
 refine l_e hf rfl (ev_fieldB hf rfl fd_187_1 (m := 1) rfl) ?_; intro a hf
 refine l_e hf rfl (ev_load1 hf rfl t1_3 (hB2.at 1)) ?_; intro a hf
 refine l_e hf rfl (ev_fieldB hf rfl fd_187_1 (m := 1) rfl) ?_; intro a hf
 refine l_e hf rfl (ev_load1 hf rfl t1_3 (hB3.at 1)) ?_; intro a hf
 refine l_e hf rfl (ev_mul hf rfl rfl) ?_; intro a hf
 refine l_e hf rfl (ev_add hf rfl rfl) ?_; intro a hf
 refine l_e hf rfl (ev_fieldB hf rfl fd_187_2 (m := 2) rfl) ?_; intro a hf
 refine l_e hf rfl (ev_load1 hf rfl t1_3 (hB2.at 2)) ?_; intro a hf
 refine l_e hf rfl (ev_fieldB hf rfl fd_187_0 (m := 0) rfl) ?_; intro a hf
 refine l_e hf rfl (ev_load1 hf rfl t1_3 (hB3.at 0)) ?_; intro a hf
 refine l_e hf rfl (ev_mul hf rfl rfl) ?_; intro a hf
 refine l_e hf rfl (ev_add hf rfl rfl) ?_; intro a hf
 refine l_e hf rfl (ev_fieldB hf rfl fd_187_3 (m := 3) rfl) ?_; intro a hf
 refine l_e hf rfl (ev_load1 hf rfl t1_3 (hB2.at 3)) ?_; intro a hf
 refine l_e hf rfl (ev_fieldB hf rfl fd_187_3 (m := 3) rfl) ?_; intro a hf
 refine l_e hf rfl (ev_load1 hf rfl t1_3 (hB3.at 3)) ?_; intro a hf
 refine l_e hf rfl (ev_mul hf rfl rfl) ?_; intro a hf
 refine l_e hf rfl (ev_sub hf rfl rfl) ?_; intro a hf
 refine l_e hf rfl (ev_fieldB hf rfl fd_187_0 (m := 0) rfl) ?_; intro a hf
 refine l_e hf rfl (ev_load1 hf rfl t1_3 (hB2.at 0)) ?_; intro a hf
 refine l_e hf rfl (ev_fieldB hf rfl fd_187_3 (m := 3) rfl) ?_; intro a hf
 refine l_e hf rfl (ev_load1 hf rfl t1_3 (hB3.at 3)) ?_; intro a hf
 refine l_e hf rfl (ev_mul hf rfl rfl) ?_; intro a hf
 refine l_e hf rfl (ev_fieldB hf rfl fd_187_1 (m := 1) rfl) ?_; intro a hf
 refine l_e hf rfl (ev_load1 hf rfl t1_3 (hB2.at 1)) ?_; intro a hf
 refine l_e hf rfl (ev_fieldB hf rfl fd_187_2 (m := 2) rfl) ?_; intro a hf
 refine l_e hf rfl (ev_load1 hf rfl t1_3 (hB3.at 2)) ?_; intro a hf
 refine l_e hf rfl (ev_mul hf rfl rfl) ?_; intro a hf
 refine l_e hf rfl (ev_add hf rfl rfl) ?_; intro a hf
 refine l_e hf rfl (ev_fieldB hf rfl fd_187_2 (m := 2) rfl) ?_; intro a hf
 refine l_e hf rfl (ev_load1 hf rfl t1_3 (hB2.at 2)) ?_; intro a hf
 refine l_e hf rfl (ev_fieldB hf rfl fd_187_1 (m := 1) rfl) ?_; intro a hf
 refine l_e hf rfl (ev_load1 hf rfl t1_3 (hB3.at 1)) ?_; intro a hf
 refine l_e hf rfl (ev_mul hf rfl rfl) ?_; intro a hf
 refine l_e hf rfl (ev_add hf rfl rfl) ?_; intro a hf
 refine l_e hf rfl (ev_fieldB hf rfl fd_187_3 (m := 3) rfl) ?_; intro a hf
 refine l_e hf rfl (ev_load1 hf rfl t1_3 (hB2.at 3)) ?_; intro a hf
 refine l_e hf rfl (ev_fieldB hf rfl fd_187_0 (m := 0) rfl) ?_; intro a hf
 refine l_e hf rfl (ev_load1 hf rfl t1_3 (hB3.at 0)) ?_; intro a hf
 refine l_e hf rfl (ev_mul hf rfl rfl) ?_; intro a hf
 refine l_e hf rfl (ev_add hf rfl rfl) ?_; intro a hf
 refine l_e hf rfl (ev_build (ps := [(0, .int .i64 (wr ((wr ((wr ((wr (x.a * y.a)) - (wr (x.b * y.d)))) - (wr (x.c * y.c)))) - (wr (x.d * y.b))))), (1, .int .i64 (wr ((wr ((wr ((wr (x.a * y.b)) + (wr (x.b * y.a)))) - (wr (x.c * y.d)))) - (wr (x.d * y.c))))), (2, .int .i64 (wr ((wr ((wr ((wr (x.a * y.c)) + (wr (x.b * y.b)))) + (wr (x.c * y.a)))) - (wr (x.d * y.d))))), (3, .int .i64 (wr ((wr ((wr ((wr (x.a * y.d)) + (wr (x.b * y.c)))) + (wr (x.c * y.b)))) + (wr (x.d * y.a)))))]) (cs := [.int .i64 (wr ((wr ((wr ((wr (x.a * y.a)) - (wr (x.b * y.d)))) - (wr (x.c * y.c)))) - (wr (x.d * y.b)))), .int .i64 (wr ((wr ((wr ((wr (x.a * y.b)) + (wr (x.b * y.a)))) - (wr (x.c * y.d)))) - (wr (x.d * y.c)))), .int .i64 (wr ((wr ((wr ((wr (x.a * y.c)) + (wr (x.b * y.b)))) + (wr (x.c * y.a)))) - (wr (x.d * y.d)))), .int .i64 (wr ((wr ((wr ((wr (x.a * y.d)) + (wr (x.b * y.c)))) + (wr (x.c * y.b)))) + (wr (x.d * y.a))))]) hf rfl (fun _ => by first | rfl | kernel_rfl)) ?_; intro a hf
 refine l_f0 hf (ef_store (vs := [.int .i64 (wr ((wr ((wr ((wr (x.a * y.a)) - (wr (x.b * y.d)))) - (wr (x.c * y.c)))) - (wr (x.d * y.b)))), .int .i64 (wr ((wr ((wr ((wr (x.a * y.b)) + (wr (x.b * y.a)))) - (wr (x.c * y.d)))) - (wr (x.d * y.c)))), .int .i64 (wr ((wr ((wr ((wr (x.a * y.c)) + (wr (x.b * y.b)))) + (wr (x.c * y.a)))) - (wr (x.d * y.d)))), .int .i64 (wr ((wr ((wr ((wr (x.a * y.d)) + (wr (x.b * y.c)))) + (wr (x.c * y.b)))) + (wr (x.d * y.a))))]) (l' := [.int .i64 (wr ((wr ((wr ((wr (x.a * y.a)) - (wr (x.b * y.d)))) - (wr (x.c * y.c)))) - (wr (x.d * y.b)))), .int .i64 (wr ((wr ((wr ((wr (x.a * y.b)) + (wr (x.b * y.a)))) - (wr (x.c * y.d)))) - (wr (x.d * y.c)))), .int .i64 (wr ((wr ((wr ((wr (x.a * y.c)) + (wr (x.b * y.b)))) + (wr (x.c * y.a)))) - (wr (x.d * y.d)))), .int .i64 (wr ((wr ((wr ((wr (x.a * y.d)) + (wr (x.b * y.c)))) + (wr (x.c * y.b)))) + (wr (x.d * y.a))))]) hf rfl rfl sz_187 hB4 rfl rfl rfl rfl rfl) ?_; rintro a _ w4 ⟨ho, hb⟩ hf
 have hold := hB4
 replace hB2 := hB2.only ho (by omega)
 replace hB3 := hB3.only ho (by omega)
 replace hW := Below.only hW ho hlo4
 clear hold
 have hB4 := hb
 clear hb ho
 refine wpList_nil ?_
 refine hK5 _ _ ?_; try clear hK5 K5
 refine wp_ret ?_
 refine c_ret hf (res1 hf rfl (ResV.cellN (l := [.int .i64 (wr ((wr ((wr ((wr (x.a * y.a)) - (wr (x.b * y.d)))) - (wr (x.c * y.c)))) - (wr (x.d * y.b)))), .int .i64 (wr ((wr ((wr ((wr (x.a * y.b)) + (wr (x.b * y.a)))) - (wr (x.c * y.d)))) - (wr (x.d * y.c)))), .int .i64 (wr ((wr ((wr ((wr (x.a * y.c)) + (wr (x.b * y.b)))) + (wr (x.c * y.a)))) - (wr (x.d * y.d)))), .int .i64 (wr ((wr ((wr ((wr (x.a * y.d)) + (wr (x.b * y.c)))) + (wr (x.c * y.b)))) + (wr (x.d * y.a))))]) rfl tN_187 (hB4.at 0) rfl)) ?_
 exact ⟨rfl, hW⟩
theorem F250 (w0 : World) (x : Rg) : Ret Tryz.prog 250 [.agg #[.int .i64 x.a, .int .i64 x.b, .int .i64 x.c, .int .i64 x.d]] w0 (fun v w => v = rV (rNeg x) ∧ Below w0.heap.size w0 w) := by
 refine enter Tryz.func250 rfl 16 rfl rfl ?_
 intro a hf
 have hW : Below w0.heap.size w0 w0 := Below.refl _ _
 refine wp_seq_k ?_; intro K1 hK1
 refine wp_region_lit ?_
 refine l_f hf rfl (ef_box (zs := [.int .i64 x.a, .int .i64 x.b, .int .i64 x.c, .int .i64 x.d]) hf rfl rfl) ?_; rintro a _ w1 ⟨b2, rfl, hl2, hE, hB2⟩ hf
 have hlo2 := Nat.le_trans hW.size hl2
 replace hW := btr hW hE
 clear hE
 refine l_f hf rfl (ef_alloc (zs := [.int .i64 0, .int .i64 0, .int .i64 0, .int .i64 0]) z_187 rfl) ?_; rintro a _ w2 ⟨b3, rfl, hl3, hE, hB3⟩ hf
 have hne2_3 : b2 ≠ b3 := by have := hB2.lt; omega
 have hlo3 := Nat.le_trans hW.size hl3
 replace hB2 := hB2.below hE
 replace hW := btr hW hE
 clear hE
 refine wpList_nil ?_
 refine hK1 _ _ ?_; try clear hK1 K1
 refine wp_seq_k ?_; intro K4 hK4
 refine wp_region_lit ?_
 refine l_e hf rfl (ev_fieldB hf rfl fd_187_0 (m := 0) rfl) ?_; intro a hf
 refine l_e hf rfl (ev_load1 hf rfl t1_3 (hB2.at 0)) ?_; intro a hf
 refine l_e hf rfl (ev_neg hf rfl) ?_; intro a hf
 refine l_e hf rfl (ev_fieldB hf rfl fd_187_1 (m := 1) rfl) ?_; intro a hf
 refine l_e hf rfl (ev_load1 hf rfl t1_3 (hB2.at 1)) ?_; intro a hf
 refine l_e hf rfl (ev_neg hf rfl) ?_; intro a hf
 refine l_e hf rfl (ev_fieldB hf rfl fd_187_2 (m := 2) rfl) ?_; intro a hf
 refine l_e hf rfl (ev_load1 hf rfl t1_3 (hB2.at 2)) ?_; intro a hf
 refine l_e hf rfl (ev_neg hf rfl) ?_; intro a hf
 refine l_e hf rfl (ev_fieldB hf rfl fd_187_3 (m := 3) rfl) ?_; intro a hf
 refine l_e hf rfl (ev_load1 hf rfl t1_3 (hB2.at 3)) ?_; intro a hf
 refine l_e hf rfl (ev_neg hf rfl) ?_; intro a hf
 refine l_e hf rfl (ev_build (ps := [(0, .int .i64 (wr (-x.a))), (1, .int .i64 (wr (-x.b))), (2, .int .i64 (wr (-x.c))), (3, .int .i64 (wr (-x.d)))]) (cs := [.int .i64 (wr (-x.a)), .int .i64 (wr (-x.b)), .int .i64 (wr (-x.c)), .int .i64 (wr (-x.d))]) hf rfl (fun _ => by first | rfl | kernel_rfl)) ?_; intro a hf
 refine l_f0 hf (ef_store (vs := [.int .i64 (wr (-x.a)), .int .i64 (wr (-x.b)), .int .i64 (wr (-x.c)), .int .i64 (wr (-x.d))]) (l' := [.int .i64 (wr (-x.a)), .int .i64 (wr (-x.b)), .int .i64 (wr (-x.c)), .int .i64 (wr (-x.d))]) hf rfl rfl sz_187 hB3 rfl rfl rfl rfl rfl) ?_; rintro a _ w3 ⟨ho, hb⟩ hf
 have hold := hB3
 replace hB2 := hB2.only ho (by omega)
 replace hW := Below.only hW ho hlo3
 clear hold
 have hB3 := hb
 clear hb ho
 refine wpList_nil ?_
 refine hK4 _ _ ?_; try clear hK4 K4
 refine wp_ret ?_
 refine c_ret hf (res1 hf rfl (ResV.cellN (l := [.int .i64 (wr (-x.a)), .int .i64 (wr (-x.b)), .int .i64 (wr (-x.c)), .int .i64 (wr (-x.d))]) rfl tN_187 (hB3.at 0) rfl)) ?_
 exact ⟨rfl, hW⟩
theorem F246 (w0 : World) (x : Rg) : Ret Tryz.prog 246 [.agg #[.int .i64 x.a, .int .i64 x.b, .int .i64 x.c, .int .i64 x.d]] w0 (fun v w => v = .bool (rEven x) ∧ Below w0.heap.size w0 w) := by
 refine enter Tryz.func246 rfl 19 rfl rfl ?_
 intro a hf
 have hW : Below w0.heap.size w0 w0 := Below.refl _ _
 refine wp_seq_k ?_; intro K1 hK1
 refine wp_region_lit ?_
 refine l_f hf rfl (ef_box (zs := [.int .i64 x.a, .int .i64 x.b, .int .i64 x.c, .int .i64 x.d]) hf rfl rfl) ?_; rintro a _ w1 ⟨b2, rfl, hl2, hE, hB2⟩ hf
 have hlo2 := Nat.le_trans hW.size hl2
 replace hW := btr hW hE
 clear hE
 refine l_as hf rfl rfl ?_; intro a hf
 refine wpList_nil ?_
 refine hK1 _ _ ?_; try clear hK1 K1
 refine wp_seq_k ?_; intro K3 hK3
 refine c_cut (fun a w => Fr a 19 [(2, .bool ((((wr (x.a + x.c)).tmod 2) == 0) && (((wr (x.b + x.d)).tmod 2) == 0)))] ∧ w1 = w) ?_ ?_
 ·refine wp_region_lit ?_
  refine l_e hf rfl (ev_fieldB hf rfl fd_187_0 (m := 0) rfl) ?_; intro a hf
  refine l_e hf rfl (ev_load1 hf rfl t1_3 (hB2.at 0)) ?_; intro a hf
  refine l_e hf rfl (ev_fieldB hf rfl fd_187_2 (m := 2) rfl) ?_; intro a hf
  refine l_e hf rfl (ev_load1 hf rfl t1_3 (hB2.at 2)) ?_; intro a hf
  refine l_e hf rfl (ev_add hf rfl rfl) ?_; intro a hf
  refine l_e hf rfl (ev_rem hf rfl rfl rfl) ?_; intro a hf
  refine l_e hf rfl (ev_eql hf rfl rfl) ?_; intro a hf
  refine l_mv hf rfl rfl ?_; intro a hf
  refine g_split hf (t := 10) rfl (fun hg4 => ?_) (fun hg4 => ?_)
  ·refine l_ev hf ⟨_, _, rfl, rfl, hg4⟩ rfl rfl (ev_fieldB hf rfl fd_187_1 (m := 1) rfl) ?_; intro a hf
   refine l_ev hf ⟨_, _, rfl, rfl, hg4⟩ rfl rfl (ev_load1 hf rfl t1_3 (hB2.at 1)) ?_; intro a hf
   refine l_ev hf ⟨_, _, rfl, rfl, hg4⟩ rfl rfl (ev_fieldB hf rfl fd_187_3 (m := 3) rfl) ?_; intro a hf
   refine l_ev hf ⟨_, _, rfl, rfl, hg4⟩ rfl rfl (ev_load1 hf rfl t1_3 (hB2.at 3)) ?_; intro a hf
   refine l_ev hf ⟨_, _, rfl, rfl, hg4⟩ rfl rfl (ev_add hf rfl rfl) ?_; intro a hf
   refine l_ev hf ⟨_, _, rfl, rfl, hg4⟩ rfl rfl (ev_rem hf rfl rfl rfl) ?_; intro a hf
   refine l_ev hf ⟨_, _, rfl, rfl, hg4⟩ rfl rfl (ev_eql hf rfl rfl) ?_; intro a hf
   refine l_e hf rfl (ev_pickT hf rfl hg4 rfl) ?_; intro a hf
   refine l_as hf rfl rfl ?_; intro a hf
   refine wpList_nil ?_
   exact ⟨hf.sub ⟨look_bool rfl (by first | rfl | (simp only [hg4, Bool.true_and, Bool.false_and, Bool.true_or, Bool.false_or]; done) | simp [hg4]), trivial⟩, rfl⟩
  refine l_pass hf ⟨_, _, rfl, rfl, hg4⟩ rfl rfl ?_; intro a hf
  refine l_pass hf ⟨_, _, rfl, rfl, hg4⟩ rfl rfl ?_; intro a hf
  refine l_pass hf ⟨_, _, rfl, rfl, hg4⟩ rfl rfl ?_; intro a hf
  refine l_pass hf ⟨_, _, rfl, rfl, hg4⟩ rfl rfl ?_; intro a hf
  refine l_pass hf ⟨_, _, rfl, rfl, hg4⟩ rfl rfl ?_; intro a hf
  refine l_pass hf ⟨_, _, rfl, rfl, hg4⟩ rfl rfl ?_; intro a hf
  refine l_pass hf ⟨_, _, rfl, rfl, hg4⟩ rfl rfl ?_; intro a hf
  refine l_e hf rfl (ev_pickF hf rfl hg4 rfl) ?_; intro a hf
  refine l_as hf rfl rfl ?_; intro a hf
  refine wpList_nil ?_
  exact ⟨hf.sub ⟨look_bool rfl (by first | rfl | (simp only [hg4, Bool.true_and, Bool.false_and, Bool.true_or, Bool.false_or]; done) | simp [hg4]), trivial⟩, rfl⟩
 rintro a _ ⟨hf, rfl⟩
 refine hK3 _ _ ?_; try clear hK3 K3
 refine wp_ret ?_
 refine c_ret hf (res1 hf rfl rfl) ?_
 exact ⟨rfl, hW⟩
theorem F226 (w0 : World) (x : Rg) : Ret Tryz.prog 226 [.agg #[.int .i64 x.a, .int .i64 x.b, .int .i64 x.c, .int .i64 x.d]] w0 (fun v w => v = .bool (rEven x) ∧ Below w0.heap.size w0 w) := by
 refine enter Tryz.func226 rfl 19 rfl rfl ?_
 intro a hf
 have hW : Below w0.heap.size w0 w0 := Below.refl _ _
 refine wp_seq_k ?_; intro K1 hK1
 refine wp_region_lit ?_
 refine l_f hf rfl (ef_box (zs := [.int .i64 x.a, .int .i64 x.b, .int .i64 x.c, .int .i64 x.d]) hf rfl rfl) ?_; rintro a _ w1 ⟨b2, rfl, hl2, hE, hB2⟩ hf
 have hlo2 := Nat.le_trans hW.size hl2
 replace hW := btr hW hE
 clear hE
 refine l_as hf rfl rfl ?_; intro a hf
 refine wpList_nil ?_
 refine hK1 _ _ ?_; try clear hK1 K1
 refine wp_seq_k ?_; intro K3 hK3
 refine c_cut (fun a w => Fr a 19 [(2, .bool ((((wr (x.a + x.c)).tmod 2) == 0) && (((wr (x.b + x.d)).tmod 2) == 0)))] ∧ w1 = w) ?_ ?_
 ·refine wp_region_lit ?_
  refine l_e hf rfl (ev_fieldB hf rfl fd_187_0 (m := 0) rfl) ?_; intro a hf
  refine l_e hf rfl (ev_load1 hf rfl t1_3 (hB2.at 0)) ?_; intro a hf
  refine l_e hf rfl (ev_fieldB hf rfl fd_187_2 (m := 2) rfl) ?_; intro a hf
  refine l_e hf rfl (ev_load1 hf rfl t1_3 (hB2.at 2)) ?_; intro a hf
  refine l_e hf rfl (ev_add hf rfl rfl) ?_; intro a hf
  refine l_e hf rfl (ev_rem hf rfl rfl rfl) ?_; intro a hf
  refine l_e hf rfl (ev_eql hf rfl rfl) ?_; intro a hf
  refine l_mv hf rfl rfl ?_; intro a hf
  refine g_split hf (t := 10) rfl (fun hg4 => ?_) (fun hg4 => ?_)
  ·refine l_ev hf ⟨_, _, rfl, rfl, hg4⟩ rfl rfl (ev_fieldB hf rfl fd_187_1 (m := 1) rfl) ?_; intro a hf
   refine l_ev hf ⟨_, _, rfl, rfl, hg4⟩ rfl rfl (ev_load1 hf rfl t1_3 (hB2.at 1)) ?_; intro a hf
   refine l_ev hf ⟨_, _, rfl, rfl, hg4⟩ rfl rfl (ev_fieldB hf rfl fd_187_3 (m := 3) rfl) ?_; intro a hf
   refine l_ev hf ⟨_, _, rfl, rfl, hg4⟩ rfl rfl (ev_load1 hf rfl t1_3 (hB2.at 3)) ?_; intro a hf
   refine l_ev hf ⟨_, _, rfl, rfl, hg4⟩ rfl rfl (ev_add hf rfl rfl) ?_; intro a hf
   refine l_ev hf ⟨_, _, rfl, rfl, hg4⟩ rfl rfl (ev_rem hf rfl rfl rfl) ?_; intro a hf
   refine l_ev hf ⟨_, _, rfl, rfl, hg4⟩ rfl rfl (ev_eql hf rfl rfl) ?_; intro a hf
   refine l_e hf rfl (ev_pickT hf rfl hg4 rfl) ?_; intro a hf
   refine l_as hf rfl rfl ?_; intro a hf
   refine wpList_nil ?_
   exact ⟨hf.sub ⟨look_bool rfl (by first | rfl | (simp only [hg4, Bool.true_and, Bool.false_and, Bool.true_or, Bool.false_or]; done) | simp [hg4]), trivial⟩, rfl⟩
  refine l_pass hf ⟨_, _, rfl, rfl, hg4⟩ rfl rfl ?_; intro a hf
  refine l_pass hf ⟨_, _, rfl, rfl, hg4⟩ rfl rfl ?_; intro a hf
  refine l_pass hf ⟨_, _, rfl, rfl, hg4⟩ rfl rfl ?_; intro a hf
  refine l_pass hf ⟨_, _, rfl, rfl, hg4⟩ rfl rfl ?_; intro a hf
  refine l_pass hf ⟨_, _, rfl, rfl, hg4⟩ rfl rfl ?_; intro a hf
  refine l_pass hf ⟨_, _, rfl, rfl, hg4⟩ rfl rfl ?_; intro a hf
  refine l_pass hf ⟨_, _, rfl, rfl, hg4⟩ rfl rfl ?_; intro a hf
  refine l_e hf rfl (ev_pickF hf rfl hg4 rfl) ?_; intro a hf
  refine l_as hf rfl rfl ?_; intro a hf
  refine wpList_nil ?_
  exact ⟨hf.sub ⟨look_bool rfl (by first | rfl | (simp only [hg4, Bool.true_and, Bool.false_and, Bool.true_or, Bool.false_or]; done) | simp [hg4]), trivial⟩, rfl⟩
 rintro a _ ⟨hf, rfl⟩
 refine hK3 _ _ ?_; try clear hK3 K3
 refine wp_ret ?_
 refine c_ret hf (res1 hf rfl rfl) ?_
 exact ⟨rfl, hW⟩
theorem F247 (w0 : World) (x : Rg) : Ret Tryz.prog 247 [.agg #[.int .i64 x.a, .int .i64 x.b, .int .i64 x.c, .int .i64 x.d]] w0 (fun v w => v = rV (rHalf x) ∧ Below w0.heap.size w0 w) := by
 refine enter Tryz.func247 rfl 19 rfl rfl ?_
 intro a hf
 have hW : Below w0.heap.size w0 w0 := Below.refl _ _
 refine wp_seq_k ?_; intro K1 hK1
 refine wp_region_lit ?_
 refine l_f hf rfl (ef_box (zs := [.int .i64 x.a, .int .i64 x.b, .int .i64 x.c, .int .i64 x.d]) hf rfl rfl) ?_; rintro a _ w1 ⟨b2, rfl, hl2, hE, hB2⟩ hf
 have hlo2 := Nat.le_trans hW.size hl2
 replace hW := btr hW hE
 clear hE
 refine l_f hf rfl (ef_alloc (zs := [.int .i64 0, .int .i64 0, .int .i64 0, .int .i64 0]) z_187 rfl) ?_; rintro a _ w2 ⟨b3, rfl, hl3, hE, hB3⟩ hf
 have hne2_3 : b2 ≠ b3 := by have := hB2.lt; omega
 have hlo3 := Nat.le_trans hW.size hl3
 replace hB2 := hB2.below hE
 replace hW := btr hW hE
 clear hE
 refine wpList_nil ?_
 refine hK1 _ _ ?_; try clear hK1 K1
 refine wp_seq_k ?_; intro K4 hK4
 refine wp_region_lit ?_
 refine l_e hf rfl (ev_loadN (l := [.int .i64 x.a, .int .i64 x.b, .int .i64 x.c, .int .i64 x.d]) hf rfl tN_187 (hB2.at 0) rfl) ?_; intro a hf
 refine l_f hf rfl (ef_call (vs := [.agg #[.int .i64 x.a, .int .i64 x.b, .int .i64 x.c, .int .i64 x.d]]) hf rfl ff_232 (F232 _ x)) ?_; rintro a _ w3 ⟨rfl, hE⟩ hf
 replace hB2 := hB2.below hE
 replace hB3 := hB3.below hE
 replace hW := btr hW hE
 clear hE
 refine l_f hf rfl (ef_alloc (zs := [.int .i64 0, .int .i64 0, .int .i64 0, .int .i64 0]) z_187 rfl) ?_; rintro a _ w4 ⟨b5, rfl, hl5, hE, hB5⟩ hf
 have hne2_5 : b2 ≠ b5 := by have := hB2.lt; omega
 have hne3_5 : b3 ≠ b5 := by have := hB3.lt; omega
 have hlo5 := Nat.le_trans hW.size hl5
 replace hB2 := hB2.below hE
 replace hB3 := hB3.below hE
 replace hW := btr hW hE
 clear hE
 refine l_f0 hf (ef_store (vs := [.int .i64 ((rRoot x).a), .int .i64 ((rRoot x).b), .int .i64 ((rRoot x).c), .int .i64 ((rRoot x).d)]) (l' := [.int .i64 ((rRoot x).a), .int .i64 ((rRoot x).b), .int .i64 ((rRoot x).c), .int .i64 ((rRoot x).d)]) hf rfl rfl sz_187 hB5 rfl rfl rfl rfl rfl) ?_; rintro a _ w5 ⟨ho, hb⟩ hf
 have hold := hB5
 replace hB2 := hB2.only ho (by omega)
 replace hB3 := hB3.only ho (by omega)
 replace hW := Below.only hW ho hlo5
 clear hold
 have hB5 := hb
 clear hb ho
 refine wpList_nil ?_
 refine hK4 _ _ ?_; try clear hK4 K4
 refine wp_seq_k ?_; intro K6 hK6
 refine wp_region_lit ?_
 refine l_e hf rfl (ev_fieldB hf rfl fd_187_0 (m := 0) rfl) ?_; intro a hf
 refine l_e hf rfl (ev_load1 hf rfl t1_3 (hB5.at 0)) ?_; intro a hf
 refine l_e hf rfl (ev_quo hf rfl rfl rfl) ?_; intro a hf
 refine l_e hf rfl (ev_fieldB hf rfl fd_187_1 (m := 1) rfl) ?_; intro a hf
 refine l_e hf rfl (ev_load1 hf rfl t1_3 (hB5.at 1)) ?_; intro a hf
 refine l_e hf rfl (ev_quo hf rfl rfl rfl) ?_; intro a hf
 refine l_e hf rfl (ev_fieldB hf rfl fd_187_2 (m := 2) rfl) ?_; intro a hf
 refine l_e hf rfl (ev_load1 hf rfl t1_3 (hB5.at 2)) ?_; intro a hf
 refine l_e hf rfl (ev_quo hf rfl rfl rfl) ?_; intro a hf
 refine l_e hf rfl (ev_fieldB hf rfl fd_187_3 (m := 3) rfl) ?_; intro a hf
 refine l_e hf rfl (ev_load1 hf rfl t1_3 (hB5.at 3)) ?_; intro a hf
 refine l_e hf rfl (ev_quo hf rfl rfl rfl) ?_; intro a hf
 refine l_e hf rfl (ev_build (ps := [(0, .int .i64 (wr (((rRoot x).a).tdiv 2))), (1, .int .i64 (wr (((rRoot x).b).tdiv 2))), (2, .int .i64 (wr (((rRoot x).c).tdiv 2))), (3, .int .i64 (wr (((rRoot x).d).tdiv 2)))]) (cs := [.int .i64 (wr (((rRoot x).a).tdiv 2)), .int .i64 (wr (((rRoot x).b).tdiv 2)), .int .i64 (wr (((rRoot x).c).tdiv 2)), .int .i64 (wr (((rRoot x).d).tdiv 2))]) hf rfl (fun _ => by first | rfl | kernel_rfl)) ?_; intro a hf
 refine l_f0 hf (ef_store (vs := [.int .i64 (wr (((rRoot x).a).tdiv 2)), .int .i64 (wr (((rRoot x).b).tdiv 2)), .int .i64 (wr (((rRoot x).c).tdiv 2)), .int .i64 (wr (((rRoot x).d).tdiv 2))]) (l' := [.int .i64 (wr (((rRoot x).a).tdiv 2)), .int .i64 (wr (((rRoot x).b).tdiv 2)), .int .i64 (wr (((rRoot x).c).tdiv 2)), .int .i64 (wr (((rRoot x).d).tdiv 2))]) hf rfl rfl sz_187 hB3 rfl rfl rfl rfl rfl) ?_; rintro a _ w6 ⟨ho, hb⟩ hf
 have hold := hB3
 replace hB5 := hB5.only ho (by omega)
 replace hW := Below.only hW ho hlo3
 clear hold
 have hB3 := hb
 clear hb ho
 refine wpList_nil ?_
 refine hK6 _ _ ?_; try clear hK6 K6
 refine wp_ret ?_
 refine c_ret hf (res1 hf rfl (ResV.cellN (l := [.int .i64 (wr (((rRoot x).a).tdiv 2)), .int .i64 (wr (((rRoot x).b).tdiv 2)), .int .i64 (wr (((rRoot x).c).tdiv 2)), .int .i64 (wr (((rRoot x).d).tdiv 2))]) rfl tN_187 (hB3.at 0) rfl)) ?_
 exact ⟨rfl, hW⟩
end Go.Proofs.YtfgnmflfiobkmaaGreat
set_option maxRecDepth 4000
namespace Go.Proofs.YtfgnmflfiobkmaaGreat
open Go.RowKit
theorem F241 (w0 : World) (n : Int) : Ret Tryz.prog 241 [.int .i64 n] w0 (fun v w => v = .bool (inR n (-1000000000) 1000000000) ∧ w0 = w) := by
 refine enter Tryz.func241 rfl 5 rfl rfl ?_
 intro a hf
 have hW : Below w0.heap.size w0 w0 := Below.refl _ _
 refine wp_seq_k ?_; intro K1 hK1
 refine wp_region_lit ?_
 refine l_as hf rfl rfl ?_; intro a hf
 refine wpList_nil ?_
 refine hK1 _ _ ?_; try clear hK1 K1
 refine wp_seq_k ?_; intro K2 hK2
 refine wp_region_lit ?_
 refine l_mv hf rfl rfl ?_; intro a hf
 refine l_f hf rfl (ef_call (vs := [.int .i64 n, .int .i64 (-1000000000), .int .i64 1000000000]) hf rfl ff_91 (F91 _ n (-1000000000) 1000000000)) ?_; rintro a _ _ ⟨rfl, rfl⟩ hf
 refine l_as hf rfl rfl ?_; intro a hf
 refine wpList_nil ?_
 refine hK2 _ _ ?_; try clear hK2 K2
 refine wp_ret ?_
 refine c_ret hf (res1 hf rfl rfl) ?_
 exact ⟨rfl, rfl⟩
theorem F225 (w0 : World) (x : Rg) : Ret Tryz.prog 225 [.agg #[.int .i64 x.a, .int .i64 x.b, .int .i64 x.c, .int .i64 x.d]] w0 (fun v w => v = .bool (rOk x) ∧ Below w0.heap.size w0 w) := by
 refine enter Tryz.func225 rfl 21 rfl rfl ?_
 intro a hf
 have hW : Below w0.heap.size w0 w0 := Below.refl _ _
 refine wp_seq_k ?_; intro K1 hK1
 refine wp_region_lit ?_
 refine l_f hf rfl (ef_box (zs := [.int .i64 x.a, .int .i64 x.b, .int .i64 x.c, .int .i64 x.d]) hf rfl rfl) ?_; rintro a _ w1 ⟨b2, rfl, hl2, hE, hB2⟩ hf
 have hlo2 := Nat.le_trans hW.size hl2
 replace hW := btr hW hE
 clear hE
 refine l_as hf rfl rfl ?_; intro a hf
 refine wpList_nil ?_
 refine hK1 _ _ ?_; try clear hK1 K1
 refine wp_seq_k ?_; intro K3 hK3
 refine c_cut (fun a w => Fr a 21 [(2, .bool ((((inR x.a (-1000000000) 1000000000) && (inR x.b (-1000000000) 1000000000)) && (inR x.c (-1000000000) 1000000000)) && (inR x.d (-1000000000) 1000000000)))] ∧ w1 = w) ?_ ?_
 ·refine wp_region_lit ?_
  refine l_e hf rfl (ev_fieldB hf rfl fd_187_0 (m := 0) rfl) ?_; intro a hf
  refine l_e hf rfl (ev_load1 hf rfl t1_3 (hB2.at 0)) ?_; intro a hf
  refine l_f hf rfl (ef_call (vs := [.int .i64 x.a]) hf rfl ff_241 (F241 _ x.a)) ?_; rintro a _ _ ⟨rfl, rfl⟩ hf
  refine l_mv hf rfl rfl ?_; intro a hf
  refine g_split hf (t := 6) rfl (fun hg4 => ?_) (fun hg4 => ?_)
  ·refine l_ev hf ⟨_, _, rfl, rfl, hg4⟩ rfl rfl (ev_fieldB hf rfl fd_187_1 (m := 1) rfl) ?_; intro a hf
   refine l_ev hf ⟨_, _, rfl, rfl, hg4⟩ rfl rfl (ev_load1 hf rfl t1_3 (hB2.at 1)) ?_; intro a hf
   refine l_eff hf ⟨_, _, rfl, rfl, hg4⟩ rfl rfl (ef_call (vs := [.int .i64 x.b]) hf rfl ff_241 (F241 _ x.b)) ?_; rintro a _ _ ⟨rfl, rfl⟩ hf
   refine l_e hf rfl (ev_pickT hf rfl hg4 rfl) ?_; intro a hf
   refine l_mv hf rfl rfl ?_; intro a hf
   refine g_split hf (t := 11) rfl (fun hg5 => ?_) (fun hg5 => ?_)
   ·refine l_ev hf ⟨_, _, rfl, rfl, hg5⟩ rfl rfl (ev_fieldB hf rfl fd_187_2 (m := 2) rfl) ?_; intro a hf
    refine l_ev hf ⟨_, _, rfl, rfl, hg5⟩ rfl rfl (ev_load1 hf rfl t1_3 (hB2.at 2)) ?_; intro a hf
    refine l_eff hf ⟨_, _, rfl, rfl, hg5⟩ rfl rfl (ef_call (vs := [.int .i64 x.c]) hf rfl ff_241 (F241 _ x.c)) ?_; rintro a _ _ ⟨rfl, rfl⟩ hf
    refine l_e hf rfl (ev_pickT hf rfl hg5 rfl) ?_; intro a hf
    refine l_mv hf rfl rfl ?_; intro a hf
    refine g_split hf (t := 16) rfl (fun hg6 => ?_) (fun hg6 => ?_)
    ·refine l_ev hf ⟨_, _, rfl, rfl, hg6⟩ rfl rfl (ev_fieldB hf rfl fd_187_3 (m := 3) rfl) ?_; intro a hf
     refine l_ev hf ⟨_, _, rfl, rfl, hg6⟩ rfl rfl (ev_load1 hf rfl t1_3 (hB2.at 3)) ?_; intro a hf
     refine l_eff hf ⟨_, _, rfl, rfl, hg6⟩ rfl rfl (ef_call (vs := [.int .i64 x.d]) hf rfl ff_241 (F241 _ x.d)) ?_; rintro a _ _ ⟨rfl, rfl⟩ hf
     refine l_e hf rfl (ev_pickT hf rfl hg6 rfl) ?_; intro a hf
     refine l_as hf rfl rfl ?_; intro a hf
     refine wpList_nil ?_
     exact ⟨hf.sub ⟨look_bool rfl (by first | rfl | (simp only [hg4, hg5, hg6, Bool.true_and, Bool.false_and, Bool.true_or, Bool.false_or]; done) | simp [hg4, hg5, hg6]), trivial⟩, rfl⟩
    refine l_pass hf ⟨_, _, rfl, rfl, hg6⟩ rfl rfl ?_; intro a hf
    refine l_pass hf ⟨_, _, rfl, rfl, hg6⟩ rfl rfl ?_; intro a hf
    refine l_pass hf ⟨_, _, rfl, rfl, hg6⟩ rfl rfl ?_; intro a hf
    refine l_e hf rfl (ev_pickF hf rfl hg6 rfl) ?_; intro a hf
    refine l_as hf rfl rfl ?_; intro a hf
    refine wpList_nil ?_
    exact ⟨hf.sub ⟨look_bool rfl (by first | rfl | (simp only [hg4, hg5, hg6, Bool.true_and, Bool.false_and, Bool.true_or, Bool.false_or]; done) | simp [hg4, hg5, hg6]), trivial⟩, rfl⟩
   refine l_pass hf ⟨_, _, rfl, rfl, hg5⟩ rfl rfl ?_; intro a hf
   refine l_pass hf ⟨_, _, rfl, rfl, hg5⟩ rfl rfl ?_; intro a hf
   refine l_pass hf ⟨_, _, rfl, rfl, hg5⟩ rfl rfl ?_; intro a hf
   refine l_e hf rfl (ev_pickF hf rfl hg5 rfl) ?_; intro a hf
   refine l_mv hf rfl rfl ?_; intro a hf
   refine l_pass hf ⟨_, _, rfl, rfl, rfl⟩ rfl rfl ?_; intro a hf
   refine l_pass hf ⟨_, _, rfl, rfl, rfl⟩ rfl rfl ?_; intro a hf
   refine l_pass hf ⟨_, _, rfl, rfl, rfl⟩ rfl rfl ?_; intro a hf
   refine l_e hf rfl (ev_pickF hf rfl rfl rfl) ?_; intro a hf
   refine l_as hf rfl rfl ?_; intro a hf
   refine wpList_nil ?_
   exact ⟨hf.sub ⟨look_bool rfl (by first | rfl | (simp only [hg4, hg5, Bool.true_and, Bool.false_and, Bool.true_or, Bool.false_or]; done) | simp [hg4, hg5]), trivial⟩, rfl⟩
  refine l_pass hf ⟨_, _, rfl, rfl, hg4⟩ rfl rfl ?_; intro a hf
  refine l_pass hf ⟨_, _, rfl, rfl, hg4⟩ rfl rfl ?_; intro a hf
  refine l_pass hf ⟨_, _, rfl, rfl, hg4⟩ rfl rfl ?_; intro a hf
  refine l_e hf rfl (ev_pickF hf rfl hg4 rfl) ?_; intro a hf
  refine l_mv hf rfl rfl ?_; intro a hf
  refine l_pass hf ⟨_, _, rfl, rfl, rfl⟩ rfl rfl ?_; intro a hf
  refine l_pass hf ⟨_, _, rfl, rfl, rfl⟩ rfl rfl ?_; intro a hf
  refine l_pass hf ⟨_, _, rfl, rfl, rfl⟩ rfl rfl ?_; intro a hf
  refine l_e hf rfl (ev_pickF hf rfl rfl rfl) ?_; intro a hf
  refine l_mv hf rfl rfl ?_; intro a hf
  refine l_pass hf ⟨_, _, rfl, rfl, rfl⟩ rfl rfl ?_; intro a hf
  refine l_pass hf ⟨_, _, rfl, rfl, rfl⟩ rfl rfl ?_; intro a hf
  refine l_pass hf ⟨_, _, rfl, rfl, rfl⟩ rfl rfl ?_; intro a hf
  refine l_e hf rfl (ev_pickF hf rfl rfl rfl) ?_; intro a hf
  refine l_as hf rfl rfl ?_; intro a hf
  refine wpList_nil ?_
  exact ⟨hf.sub ⟨look_bool rfl (by first | rfl | (simp only [hg4, Bool.true_and, Bool.false_and, Bool.true_or, Bool.false_or]; done) | simp [hg4]), trivial⟩, rfl⟩
 rintro a _ ⟨hf, rfl⟩
 refine hK3 _ _ ?_; try clear hK3 K3
 refine wp_ret ?_
 refine c_ret hf (res1 hf rfl rfl) ?_
 exact ⟨by simp [rOk, *], hW⟩
theorem F209 (w0 : World) (k : Int) : Ret Tryz.prog 209 [.int .i64 k] w0 (fun v w => v = dV (dPow k) ∧ Below w0.heap.size w0 w) := by
 refine enter Tryz.func209 rfl 7 rfl rfl ?_
 intro a hf
 have hW : Below w0.heap.size w0 w0 := Below.refl _ _
 refine wp_seq_k ?_; intro K1 hK1
 refine wp_region_lit ?_
 refine l_f hf rfl (ef_alloc (zs := [.int .i64 0, .int .i64 0, .int .i64 0, .int .i64 0, .int .i64 0]) z_189 rfl) ?_; rintro a _ w1 ⟨b2, rfl, hl2, hE, hB2⟩ hf
 have hlo2 := Nat.le_trans hW.size hl2
 replace hW := btr hW hE
 clear hE
 refine wpList_nil ?_
 refine hK1 _ _ ?_; try clear hK1 K1
 refine wp_seq_k ?_; intro K3 hK3
 refine wp_region_lit ?_
 refine l_e hf rfl (ev_build (ps := [(0, .int .i64 1)]) (cs := [.int .i64 1, .int .i64 0, .int .i64 0, .int .i64 0]) hf rfl (fun _ => by first | rfl | kernel_rfl)) ?_; intro a hf
 refine l_mv hf rfl rfl ?_; intro a hf
 refine l_f hf rfl (ef_call (vs := [.agg #[.int .i64 1, .int .i64 0, .int .i64 0, .int .i64 0], .int .i64 k]) hf rfl ff_210 (F210 _ (⟨1, 0, 0, 0⟩ : Rg) k)) ?_; rintro a _ w2 ⟨rfl, hE⟩ hf
 replace hB2 := hB2.below hE
 replace hW := btr hW hE
 clear hE
 refine l_e hf rfl (ev_build (ps := [(0, .agg #[.int .i64 ((rTurn (⟨1, 0, 0, 0⟩ : Rg) k).a), .int .i64 ((rTurn (⟨1, 0, 0, 0⟩ : Rg) k).b), .int .i64 ((rTurn (⟨1, 0, 0, 0⟩ : Rg) k).c), .int .i64 ((rTurn (⟨1, 0, 0, 0⟩ : Rg) k).d)])]) (cs := [.int .i64 ((rTurn (⟨1, 0, 0, 0⟩ : Rg) k).a), .int .i64 ((rTurn (⟨1, 0, 0, 0⟩ : Rg) k).b), .int .i64 ((rTurn (⟨1, 0, 0, 0⟩ : Rg) k).c), .int .i64 ((rTurn (⟨1, 0, 0, 0⟩ : Rg) k).d), .int .i64 0]) hf rfl (fun _ => by first | rfl | kernel_rfl)) ?_; intro a hf
 refine l_f0 hf (ef_store (vs := [.int .i64 ((rTurn (⟨1, 0, 0, 0⟩ : Rg) k).a), .int .i64 ((rTurn (⟨1, 0, 0, 0⟩ : Rg) k).b), .int .i64 ((rTurn (⟨1, 0, 0, 0⟩ : Rg) k).c), .int .i64 ((rTurn (⟨1, 0, 0, 0⟩ : Rg) k).d), .int .i64 0]) (l' := [.int .i64 ((rTurn (⟨1, 0, 0, 0⟩ : Rg) k).a), .int .i64 ((rTurn (⟨1, 0, 0, 0⟩ : Rg) k).b), .int .i64 ((rTurn (⟨1, 0, 0, 0⟩ : Rg) k).c), .int .i64 ((rTurn (⟨1, 0, 0, 0⟩ : Rg) k).d), .int .i64 0]) hf rfl rfl sz_189 hB2 rfl rfl rfl rfl rfl) ?_; rintro a _ w3 ⟨ho, hb⟩ hf
 have hold := hB2
 replace hW := Below.only hW ho hlo2
 clear hold
 have hB2 := hb
 clear hb ho
 refine wpList_nil ?_
 refine hK3 _ _ ?_; try clear hK3 K3
 refine wp_ret ?_
 refine c_ret hf (res1 hf rfl (ResV.cellN (l := [.int .i64 ((rTurn (⟨1, 0, 0, 0⟩ : Rg) k).a), .int .i64 ((rTurn (⟨1, 0, 0, 0⟩ : Rg) k).b), .int .i64 ((rTurn (⟨1, 0, 0, 0⟩ : Rg) k).c), .int .i64 ((rTurn (⟨1, 0, 0, 0⟩ : Rg) k).d), .int .i64 0]) rfl tN_189 (hB2.at 0) rfl)) ?_
 exact ⟨rfl, hW⟩
theorem F244 (w0 : World) (x : Dy) : Ret Tryz.prog 244 [.agg #[.int .i64 x.num.a, .int .i64 x.num.b, .int .i64 x.num.c, .int .i64 x.num.d, .int .i64 x.exp]] w0 (fun v w => v = dV (dNeg x) ∧ Below w0.heap.size w0 w) := by
 refine enter Tryz.func244 rfl 9 rfl rfl ?_
 intro a hf
 have hW : Below w0.heap.size w0 w0 := Below.refl _ _
 refine wp_seq_k ?_; intro K1 hK1
 refine wp_region_lit ?_
 refine l_f hf rfl (ef_box (zs := [.int .i64 x.num.a, .int .i64 x.num.b, .int .i64 x.num.c, .int .i64 x.num.d, .int .i64 x.exp]) hf rfl rfl) ?_; rintro a _ w1 ⟨b2, rfl, hl2, hE, hB2⟩ hf
 have hlo2 := Nat.le_trans hW.size hl2
 replace hW := btr hW hE
 clear hE
 refine l_f hf rfl (ef_alloc (zs := [.int .i64 0, .int .i64 0, .int .i64 0, .int .i64 0, .int .i64 0]) z_189 rfl) ?_; rintro a _ w2 ⟨b3, rfl, hl3, hE, hB3⟩ hf
 have hne2_3 : b2 ≠ b3 := by have := hB2.lt; omega
 have hlo3 := Nat.le_trans hW.size hl3
 replace hB2 := hB2.below hE
 replace hW := btr hW hE
 clear hE
 refine wpList_nil ?_
 refine hK1 _ _ ?_; try clear hK1 K1
 refine wp_seq_k ?_; intro K4 hK4
 refine wp_draw none (fun j => [6].contains j) mixed ?_
 intro w3 hE
 replace hB2 := hB2.below hE
 replace hB3 := hB3.below hE
 replace hW := btr hW hE
 clear hE
 refine s_e0 0 rfl (by kernel_rfl) hf rfl (fun _ => ev_fieldB hf rfl fd_189_0 (m := 0) rfl) ?_; intro a hf
 refine s_e 1 rfl (by kernel_rfl) (by kernel_rfl) hf rfl (ev_loadN (l := [.int .i64 x.num.a, .int .i64 x.num.b, .int .i64 x.num.c, .int .i64 x.num.d]) hf rfl tN_187 ((hB2.at 0).take 4) rfl) ?_; intro a hf
 refine s_e0 3 rfl (by kernel_rfl) hf rfl (fun _ => ev_fieldB hf rfl fd_189_1 (m := 4) rfl) ?_; intro a hf
 refine s_e 4 rfl (by kernel_rfl) (by kernel_rfl) hf rfl (ev_load1 hf rfl t1_3 (hB2.at 4)) ?_; intro a hf
 refine s_one 2 (by kernel_rfl) ?_
 refine p_eff rfl hf trivial rfl rfl (Ef.mono (ef_call (vs := [.agg #[.int .i64 x.num.a, .int .i64 x.num.b, .int .i64 x.num.c, .int .i64 x.num.d]]) hf rfl ff_250 (F250 _ x.num)) (fun _ _ h => ⟨fun _ => by obtain ⟨rfl, hE⟩ := h; exact hE, h⟩)) ?_; rintro a _ w4 ⟨rfl, hE⟩ hf
 replace hB2 := hB2.below hE
 replace hB3 := hB3.below hE
 replace hW := btr hW hE
 clear hE
 refine s_e0 5 rfl (by kernel_rfl) hf rfl (fun _ => ev_build (ps := [(0, .agg #[.int .i64 ((rNeg x.num).a), .int .i64 ((rNeg x.num).b), .int .i64 ((rNeg x.num).c), .int .i64 ((rNeg x.num).d)]), (1, .int .i64 x.exp)]) (cs := [.int .i64 ((rNeg x.num).a), .int .i64 ((rNeg x.num).b), .int .i64 ((rNeg x.num).c), .int .i64 ((rNeg x.num).d), .int .i64 x.exp]) hf rfl (fun _ => by first | rfl | kernel_rfl)) ?_; intro a hf
 refine s_one 6 (by kernel_rfl) ?_
 refine p_eff0 rfl hf trivial rfl (Ef.mono (ef_store (vs := [.int .i64 ((rNeg x.num).a), .int .i64 ((rNeg x.num).b), .int .i64 ((rNeg x.num).c), .int .i64 ((rNeg x.num).d), .int .i64 x.exp]) (l' := [.int .i64 ((rNeg x.num).a), .int .i64 ((rNeg x.num).b), .int .i64 ((rNeg x.num).c), .int .i64 ((rNeg x.num).d), .int .i64 x.exp]) hf rfl rfl sz_189 hB3 rfl rfl rfl rfl rfl) (fun _ _ h => ⟨fun h0 => absurd h0 (by decide), h⟩)) ?_; rintro a _ w5 ⟨ho, hb⟩ hf
 have hold := hB3
 replace hB2 := hB2.only ho (by omega)
 replace hW := Below.only hW ho hlo3
 clear hold
 have hB3 := hb
 clear hb ho
 refine s_done (by kernel_rfl) ?_
 refine hK4 _ _ ?_; try clear hK4 K4
 refine wp_ret ?_
 refine c_ret hf (res1 hf rfl (ResV.cellN (l := [.int .i64 ((rNeg x.num).a), .int .i64 ((rNeg x.num).b), .int .i64 ((rNeg x.num).c), .int .i64 ((rNeg x.num).d), .int .i64 x.exp]) rfl tN_189 (hB3.at 0) rfl)) ?_
 exact ⟨rfl, hW⟩
theorem F59 (w0 : World) (b : Bool) : Ret Tryz.prog 59 [.bool b] w0 (fun v w => v = .int .i64 (if b = true then 1 else 0) ∧ w0 = w) := by
 refine enter Tryz.func59 rfl 4 rfl rfl ?_
 intro a hf
 have hW : Below w0.heap.size w0 w0 := Below.refl _ _
 refine wp_seq_k ?_; intro K1 hK1
 refine wp_region_lit ?_
 refine l_as hf rfl rfl ?_; intro a hf
 refine wpList_nil ?_
 refine hK1 _ _ ?_; try clear hK1 K1
 refine wp_seq_k ?_; intro K2 hK2
 refine wp_seq_k ?_; intro K3 hK3
 refine wp_region_lit ?_
 refine l_mv hf rfl rfl ?_; intro a hf
 refine wpList_nil ?_
 refine hK3 _ _ ?_; try clear hK3 K3
 refine c_if hf rfl (fun hc4 => ?_) (fun hc4 => ?_)
 ·have hc4b := hc4
  refine wp_seq_k ?_; intro K5 hK5
  refine wp_region_lit ?_
  refine l_as hf rfl rfl ?_; intro a hf
  refine wpList_nil ?_
  refine hK5 _ _ ?_; try clear hK5 K5
  refine wp_ret ?_
  refine x_retS ?_
  refine c_ret hf (res1 hf rfl rfl) ?_
  exact ⟨by simp [*], rfl⟩
 have hc4b := hc4
 refine wp_skip ?_
 refine hK2 _ _ ?_; try clear hK2 K2
 refine wp_seq_k ?_; intro K6 hK6
 refine wp_region_lit ?_
 refine l_as hf rfl rfl ?_; intro a hf
 refine wpList_nil ?_
 refine hK6 _ _ ?_; try clear hK6 K6
 refine wp_ret ?_
 refine c_ret hf (res1 hf rfl rfl) ?_
 exact ⟨by simp [*], rfl⟩
theorem F187 (w0 : World) (n : Int) : Ret Tryz.prog 187 [.int .i64 n] w0 (fun v w => v = dV (⟨⟨n, 0, 0, 0⟩, 0⟩ : Dy) ∧ Below w0.heap.size w0 w) := by
 refine enter Tryz.func187 rfl 6 rfl rfl ?_
 intro a hf
 have hW : Below w0.heap.size w0 w0 := Below.refl _ _
 refine wp_seq_k ?_; intro K1 hK1
 refine wp_region_lit ?_
 refine l_f hf rfl (ef_alloc (zs := [.int .i64 0, .int .i64 0, .int .i64 0, .int .i64 0, .int .i64 0]) z_189 rfl) ?_; rintro a _ w1 ⟨b2, rfl, hl2, hE, hB2⟩ hf
 have hlo2 := Nat.le_trans hW.size hl2
 replace hW := btr hW hE
 clear hE
 refine wpList_nil ?_
 refine hK1 _ _ ?_; try clear hK1 K1
 refine wp_seq_k ?_; intro K3 hK3
 refine wp_region_lit ?_
 refine l_mv hf rfl rfl ?_; intro a hf
 refine l_e hf rfl (ev_build (ps := [(0, .int .i64 n)]) (cs := [.int .i64 n, .int .i64 0, .int .i64 0, .int .i64 0]) hf rfl (fun _ => by first | rfl | kernel_rfl)) ?_; intro a hf
 refine l_e hf rfl (ev_build (ps := [(0, .agg #[.int .i64 n, .int .i64 0, .int .i64 0, .int .i64 0])]) (cs := [.int .i64 n, .int .i64 0, .int .i64 0, .int .i64 0, .int .i64 0]) hf rfl (fun _ => by first | rfl | kernel_rfl)) ?_; intro a hf
 refine l_f0 hf (ef_store (vs := [.int .i64 n, .int .i64 0, .int .i64 0, .int .i64 0, .int .i64 0]) (l' := [.int .i64 n, .int .i64 0, .int .i64 0, .int .i64 0, .int .i64 0]) hf rfl rfl sz_189 hB2 rfl rfl rfl rfl rfl) ?_; rintro a _ w2 ⟨ho, hb⟩ hf
 have hold := hB2
 replace hW := Below.only hW ho hlo2
 clear hold
 have hB2 := hb
 clear hb ho
 refine wpList_nil ?_
 refine hK3 _ _ ?_; try clear hK3 K3
 refine wp_ret ?_
 refine c_ret hf (res1 hf rfl (ResV.cellN (l := [.int .i64 n, .int .i64 0, .int .i64 0, .int .i64 0, .int .i64 0]) rfl tN_189 (hB2.at 0) rfl)) ?_
 exact ⟨rfl, hW⟩
theorem F242 (w0 : World) (x : Rg) (Al : Option Addr) (cl : Nat) (l : List Rg) (hr_l : Rd w0 w0.heap.size 187 encR Al l) (hc : cl = l.length) (hl0 : l ≠ []) (hln : l.length ≤ 1000) : Ret Tryz.prog 242 [.agg #[.int .i64 x.a, .int .i64 x.b, .int .i64 x.c, .int .i64 x.d], .slice Al l.length cl] w0 (fun v w => v = .tuple #[rV (rIf1 x l), .bool (rIf2 x l)] ∧ Below w0.heap.size w0 w) := by
 refine enter Tryz.func242 rfl 23 rfl rfl ?_
 intro a hf
 have hW : Below w0.heap.size w0 w0 := Below.refl _ _
 refine wp_seq_k ?_; intro K2 hK2
 refine wp_region_lit ?_
 refine l_f hf rfl (ef_box (zs := [.int .i64 x.a, .int .i64 x.b, .int .i64 x.c, .int .i64 x.d]) hf rfl rfl) ?_; rintro a _ w1 ⟨b3, rfl, hl3, hE, hB3⟩ hf
 have hlo3 := Nat.le_trans hW.size hl3
 have haw1_3 := (hr_l.below' hW).away hl3
 replace hW := btr hW hE
 clear hE
 refine l_f hf rfl (ef_alloc (zs := [.int .i64 0, .int .i64 0, .int .i64 0, .int .i64 0]) z_187 rfl) ?_; rintro a _ w2 ⟨b4, rfl, hl4, hE, hB4⟩ hf
 have hne3_4 : b3 ≠ b4 := by have := hB3.lt; omega
 have hlo4 := Nat.le_trans hW.size hl4
 have haw1_4 := (hr_l.below' hW).away hl4
 replace hB3 := hB3.below hE
 replace hW := btr hW hE
 clear hE
 refine l_as hf rfl rfl ?_; intro a hf
 refine wpList_nil ?_
 refine hK2 _ _ ?_; try clear hK2 K2
 refine wp_seq_k ?_; intro K5 hK5
 refine wp_seq_k ?_; intro K6 hK6
 refine wp_region_lit ?_
 refine l_mv hf rfl rfl ?_; intro a hf
 refine l_e hf rfl (ev_loadN (l := [.int .i64 x.a, .int .i64 x.b, .int .i64 x.c, .int .i64 x.d]) hf rfl tN_187 (hB3.at 0) rfl) ?_; intro a hf
 refine l_f hf rfl (ef_buildSlice (k := 1) (vs := [.agg #[.int .i64 x.a, .int .i64 x.b, .int .i64 x.c, .int .i64 x.d]]) (zs := [.int .i64 x.a, .int .i64 x.b, .int .i64 x.c, .int .i64 x.d]) hf rfl sl_278 inf_187 rfl rfl) ?_; rintro a _ w3 ⟨b7, rfl, hl7, hE, hB7⟩ hf
 have hne3_7 : b3 ≠ b7 := by have := hB3.lt; omega
 have hne4_7 : b4 ≠ b7 := by have := hB4.lt; omega
 have hlo7 := Nat.le_trans hW.size hl7
 have haw1_7 := (hr_l.below' hW).away hl7
 replace hB3 := hB3.below hE
 replace hB4 := hB4.below hE
 replace hW := btr hW hE
 clear hE
 refine l_f hf rfl (ef_appendFull (enc := encR) (l := (l)) (l2 := ([x])) hf rfl rfl sl_278 inf_187 encR_len (hr_l.below' hW) (Rd.of_blk hB7 rfl _ hB7.lt) hc hl0 (by simp) (by simp only [maxLen]; simp; omega) (by simp; omega)) ?_; rintro a _ w4 ⟨A9, c9, rfl, ho9, hE⟩ hf
 have haw9_3 := ho9.awayNew hB3.lt
 have haw9_4 := ho9.awayNew hB4.lt
 have haw9_7 := ho9.awayNew hB7.lt
 replace ho9 := ho9.lower hW.size
 replace hB3 := hB3.below hE
 replace hB4 := hB4.below hE
 replace hB7 := hB7.below hE
 replace hW := btr hW hE
 clear hE
 refine l_e hf rfl (ev_len hf rfl sl_278) ?_; intro a hf
 refine l_mv hf rfl rfl ?_; intro a hf
 refine wpList_nil ?_
 refine hK6 _ _ ?_; try clear hK6 K6
 refine wp_block ?_
 have hlen : (l ++ [x]).length ≤ 1001 := by simp; omega
 refine c_loop (σ := Nat) (fun (k : Nat) (a : Act) (w : World) => Fr a 23 [(2, .pointer (some ⟨b3, 0, none⟩)), (4, .pointer (some ⟨b4, 0, none⟩)), (11, .slice A9 (l ++ ([x])).length c9), (12, .int .i64 ((l ++ ([x])).length : Int)), (13, .int .i64 (k : Int))] ∧ (k ≤ (l ++ [x]).length) ∧ (((l ++ [x]).take k).all rOk = true) ∧ Blk w b3 187 [.int .i64 x.a, .int .i64 x.b, .int .i64 x.c, .int .i64 x.d] ∧ Blk w b4 187 [.int .i64 0, .int .i64 0, .int .i64 0, .int .i64 0] ∧ Own w w0.heap.size 187 4 encR A9 c9 (l ++ ([x])) ∧ Below w0.heap.size w0 w) (fun (k : Nat) => (l ++ [x]).length + 1 - k) 0 ?_ ?_
 · exact ⟨hf.sub ⟨rfl, rfl, rfl, rfl, rfl, trivial⟩, (Nat.zero_le _), (by simp), hB3, hB4, ho9, hW⟩
 rintro k a w5 ⟨hf, hk, hpre, hB3, hB4, ho9, hW⟩
 refine wp_seq_k ?_; intro K10 hK10
 refine wp_region_lit ?_
 refine l_e hf rfl (ev_lss hf rfl rfl) ?_; intro a hf
 refine wpList_nil ?_
 refine hK10 _ _ ?_; try clear hK10 K10
 refine wp_seq_k ?_; intro K11 hK11
 refine c_if hf rfl (fun hc12 => ?_) (fun hc12 => ?_)
 ·have hc12b := hc12
  have hc12 := of_decide_eq_true hc12
  obtain ⟨u13, hu13⟩ := getElem_ex (l := (l ++ ([x]))) (k := k) (by omega)
  refine wp_skip ?_
  refine hK11 _ _ ?_; try clear hK11 K11
  refine wp_seq_k ?_; intro K14 hK14
  refine wp_block ?_
  refine wp_seq_k ?_; intro K15 hK15
  refine wp_region_lit ?_
  refine l_index (k := k) (u := u13) (enc := encR) (l := l ++ ([x])) hf trivial rfl rfl rfl sl_278 sz_187 encR_len ho9.rd hu13 rfl ?_; intro a p17 hat16 hf
  refine l_e hf rfl (ev_loadN (l := [.int .i64 u13.a, .int .i64 u13.b, .int .i64 u13.c, .int .i64 u13.d]) hf rfl tN_187 hat16 rfl) ?_; intro a hf
  refine l_f hf rfl (ef_alloc (zs := [.int .i64 0, .int .i64 0, .int .i64 0, .int .i64 0]) z_187 rfl) ?_; rintro a _ w6 ⟨b18, rfl, hl18, hE, hB18⟩ hf
  have hne3_18 : b3 ≠ b18 := by have := hB3.lt; omega
  have hne4_18 : b4 ≠ b18 := by have := hB4.lt; omega
  have hlo18 := Nat.le_trans hW.size hl18
  have haw1_18 := (hr_l.below' hW).away hl18
  have haw9_18 := ho9.away hl18
  replace hB3 := hB3.below hE
  replace hB4 := hB4.below hE
  replace ho9 := ho9.below hE
  replace hW := btr hW hE
  clear hE
  refine l_f0 hf (ef_store (vs := [.int .i64 u13.a, .int .i64 u13.b, .int .i64 u13.c, .int .i64 u13.d]) (l' := [.int .i64 u13.a, .int .i64 u13.b, .int .i64 u13.c, .int .i64 u13.d]) hf rfl rfl sz_187 hB18 rfl rfl rfl rfl rfl) ?_; rintro a _ w7 ⟨ho, hb⟩ hf
  have hold := hB18
  replace hB3 := hB3.only ho (by omega)
  replace hB4 := hB4.only ho (by omega)
  replace ho9 := ho9.onlyA ho haw9_18
  replace hW := Below.only hW ho hlo18
  clear hold
  have hB18 := hb
  clear hb ho
  refine wpList_nil ?_
  refine hK15 _ _ ?_; try clear hK15 K15
  refine wp_seq_k ?_; intro K19 hK19
  refine wp_region_lit ?_
  refine l_e hf rfl (ev_loadN (l := [.int .i64 u13.a, .int .i64 u13.b, .int .i64 u13.c, .int .i64 u13.d]) hf rfl tN_187 (hB18.at 0) rfl) ?_; intro a hf
  refine l_f hf rfl (ef_call (vs := [.agg #[.int .i64 u13.a, .int .i64 u13.b, .int .i64 u13.c, .int .i64 u13.d]]) hf rfl ff_225 (F225 _ u13)) ?_; rintro a _ w8 ⟨rfl, hE⟩ hf
  replace hB3 := hB3.below hE
  replace hB4 := hB4.below hE
  replace hB18 := hB18.below hE
  replace ho9 := ho9.below hE
  replace hW := btr hW hE
  clear hE
  refine l_e hf rfl (ev_not hf rfl) ?_; intro a hf
  refine wpList_nil ?_
  refine hK19 _ _ ?_; try clear hK19 K19
  refine c_if hf rfl (fun hc20 => ?_) (fun hc20 => ?_)
  ·have hc20b := hc20
   have hb2 : rIf2 x l = false := all_false hu13 (by simpa using hc20)
   refine wp_seq_k ?_; intro K21 hK21
   refine wp_region_lit ?_
   refine l_e hf rfl (ev_build (ps := []) (cs := [.int .i64 0, .int .i64 0, .int .i64 0, .int .i64 0]) hf rfl (fun _ => by first | rfl | kernel_rfl)) ?_; intro a hf
   refine l_f0 hf (ef_store (vs := [.int .i64 0, .int .i64 0, .int .i64 0, .int .i64 0]) (l' := [.int .i64 0, .int .i64 0, .int .i64 0, .int .i64 0]) hf rfl rfl sz_187 hB4 rfl rfl rfl rfl rfl) ?_; rintro a _ w9 ⟨ho, hb⟩ hf
   have hold := hB4
   replace hB3 := hB3.only ho (by omega)
   replace ho9 := ho9.onlyA ho haw9_4
   replace hW := Below.only hW ho hlo4
   clear hold
   have hB4 := hb
   clear hb ho
   refine l_as hf rfl rfl ?_; intro a hf
   refine wpList_nil ?_
   refine hK21 _ _ ?_; try clear hK21 K21
   refine wp_ret ?_
   refine x_retB ?_
   refine x_retS ?_
   refine x_retS ?_
   refine x_retB ?_
   refine x_retS ?_
   refine c_ret hf (res2 hf rfl (ResV.cellN (l := [.int .i64 0, .int .i64 0, .int .i64 0, .int .i64 0]) rfl tN_187 (hB4.at 0) rfl) rfl) ?_
   exact ⟨by simp [rIf1, hb2], hW⟩
  have hc20b := hc20
  have hok : rOk u13 = true := by simpa using hc20
  refine wp_skip ?_
  refine x_norm ?_
  refine hK14 _ _ ?_; try clear hK14 K14
  refine wp_region_lit ?_
  refine l_e hf rfl (ev_addx hf rfl rfl (by omega) (by omega)) ?_; intro a hf
  refine l_mv hf rfl rfl ?_; intro a hf
  refine wpList_nil ?_
  refine x_thenN ?_
  exact ⟨k + 1, ⟨hf.sub ⟨rfl, rfl, rfl, rfl, rfl, trivial⟩, (by omega), (take_all hpre hu13 hok), hB3, hB4, ho9, hW⟩, (by omega)⟩
 have hc12b := hc12
 have hc12 := of_decide_eq_false hc12
 refine wp_exit ?_
 refine x_exS ?_
 refine x_exS ?_
 refine x_exit ?_
 refine hK5 _ _ ?_; try clear hK5 K5
 refine wp_seq_k ?_; intro K22 hK22
 refine wp_region_lit ?_
 refine l_e hf rfl (ev_loadN (l := [.int .i64 x.a, .int .i64 x.b, .int .i64 x.c, .int .i64 x.d]) hf rfl tN_187 (hB3.at 0) rfl) ?_; intro a hf
 refine l_f0 hf (ef_store (vs := [.int .i64 x.a, .int .i64 x.b, .int .i64 x.c, .int .i64 x.d]) (l' := [.int .i64 x.a, .int .i64 x.b, .int .i64 x.c, .int .i64 x.d]) hf rfl rfl sz_187 hB4 rfl rfl rfl rfl rfl) ?_; rintro a _ w10 ⟨ho, hb⟩ hf
 have hold := hB4
 replace hB3 := hB3.only ho (by omega)
 replace ho9 := ho9.onlyA ho haw9_4
 replace hW := Below.only hW ho hlo4
 clear hold
 have hB4 := hb
 clear hb ho
 refine l_as hf rfl rfl ?_; intro a hf
 refine wpList_nil ?_
 refine hK22 _ _ ?_; try clear hK22 K22
 refine wp_ret ?_
 refine c_ret hf (res2 hf rfl (ResV.cellN (l := [.int .i64 x.a, .int .i64 x.b, .int .i64 x.c, .int .i64 x.d]) rfl tN_187 (hB4.at 0) rfl) rfl) ?_
 have hb2 : rIf2 x l = true := take_full hpre (by omega)
 exact ⟨by simp [rIf1, hb2], hW⟩
theorem F227 (w0 : World) (x : Rg) (y : Rg) : Ret Tryz.prog 227 [.agg #[.int .i64 x.a, .int .i64 x.b, .int .i64 x.c, .int .i64 x.d], .agg #[.int .i64 y.a, .int .i64 y.b, .int .i64 y.c, .int .i64 y.d]] w0 (fun v w => v = .tuple #[rV (rIf1 (rMul x y) [x, y]), .bool (rIf2 (rMul x y) [x, y])] ∧ Below w0.heap.size w0 w) := by
 refine enter Tryz.func227 rfl 105 rfl rfl ?_
 intro a hf
 have hW : Below w0.heap.size w0 w0 := Below.refl _ _
 refine wp_seq_k ?_; intro K1 hK1
 refine wp_region_lit ?_
 refine l_f hf rfl (ef_box (zs := [.int .i64 x.a, .int .i64 x.b, .int .i64 x.c, .int .i64 x.d]) hf rfl rfl) ?_; rintro a _ w1 ⟨b2, rfl, hl2, hE, hB2⟩ hf
 have hlo2 := Nat.le_trans hW.size hl2
 replace hW := btr hW hE
 clear hE
 refine l_f hf rfl (ef_box (zs := [.int .i64 y.a, .int .i64 y.b, .int .i64 y.c, .int .i64 y.d]) hf rfl rfl) ?_; rintro a _ w2 ⟨b3, rfl, hl3, hE, hB3⟩ hf
 have hne2_3 : b2 ≠ b3 := by have := hB2.lt; omega
 have hlo3 := Nat.le_trans hW.size hl3
 replace hB2 := hB2.below hE
 replace hW := btr hW hE
 clear hE
 refine l_f hf rfl (ef_alloc (zs := [.int .i64 0, .int .i64 0, .int .i64 0, .int .i64 0]) z_187 rfl) ?_; rintro a _ w3 ⟨b4, rfl, hl4, hE, hB4⟩ hf
 have hne2_4 : b2 ≠ b4 := by have := hB2.lt; omega
 have hne3_4 : b3 ≠ b4 := by have := hB3.lt; omega
 have hlo4 := Nat.le_trans hW.size hl4
 replace hB2 := hB2.below hE
 replace hB3 := hB3.below hE
 replace hW := btr hW hE
 clear hE
 refine l_as hf rfl rfl ?_; intro a hf
 refine wpList_nil ?_
 refine hK1 _ _ ?_; try clear hK1 K1
 refine wp_seq_k ?_; intro K5 hK5
 refine wp_region_lit ?_
 refine l_e hf rfl (ev_fieldB hf rfl fd_187_0 (m := 0) rfl) ?_; intro a hf
 refine l_e hf rfl (ev_load1 hf rfl t1_3 (hB2.at 0)) ?_; intro a hf
 refine l_e hf rfl (ev_fieldB hf rfl fd_187_0 (m := 0) rfl) ?_; intro a hf
 refine l_e hf rfl (ev_load1 hf rfl t1_3 (hB3.at 0)) ?_; intro a hf
 refine l_e hf rfl (ev_mul hf rfl rfl) ?_; intro a hf
 refine l_e hf rfl (ev_fieldB hf rfl fd_187_1 (m := 1) rfl) ?_; intro a hf
 refine l_e hf rfl (ev_load1 hf rfl t1_3 (hB2.at 1)) ?_; intro a hf
 refine l_e hf rfl (ev_fieldB hf rfl fd_187_3 (m := 3) rfl) ?_; intro a hf
 refine l_e hf rfl (ev_load1 hf rfl t1_3 (hB3.at 3)) ?_; intro a hf
 refine l_e hf rfl (ev_mul hf rfl rfl) ?_; intro a hf
 refine l_e hf rfl (ev_sub hf rfl rfl) ?_; intro a hf
 refine l_e hf rfl (ev_fieldB hf rfl fd_187_2 (m := 2) rfl) ?_; intro a hf
 refine l_e hf rfl (ev_load1 hf rfl t1_3 (hB2.at 2)) ?_; intro a hf
 refine l_e hf rfl (ev_fieldB hf rfl fd_187_2 (m := 2) rfl) ?_; intro a hf
 refine l_e hf rfl (ev_load1 hf rfl t1_3 (hB3.at 2)) ?_; intro a hf
 refine l_e hf rfl (ev_mul hf rfl rfl) ?_; intro a hf
 refine l_e hf rfl (ev_sub hf rfl rfl) ?_; intro a hf
 refine l_e hf rfl (ev_fieldB hf rfl fd_187_3 (m := 3) rfl) ?_; intro a hf
 refine l_e hf rfl (ev_load1 hf rfl t1_3 (hB2.at 3)) ?_; intro a hf
 refine l_e hf rfl (ev_fieldB hf rfl fd_187_1 (m := 1) rfl) ?_; intro a hf
 refine l_e hf rfl (ev_load1 hf rfl t1_3 (hB3.at 1)) ?_; intro a hf
 refine l_e hf rfl (ev_mul hf rfl rfl) ?_; intro a hf
 refine l_e hf rfl (ev_sub hf rfl rfl) ?_; intro a hf
 refine l_e hf rfl (ev_fieldB hf rfl fd_187_0 (m := 0) rfl) ?_; intro a hf
 refine l_e hf rfl (ev_load1 hf rfl t1_3 (hB2.at 0)) ?_; intro a hf
 refine l_e hf rfl (ev_fieldB hf rfl fd_187_1 (m := 1) rfl) ?_; intro a hf
 refine l_e hf rfl (ev_load1 hf rfl t1_3 (hB3.at 1)) ?_; intro a hf
 refine l_e hf rfl (ev_mul hf rfl rfl) ?_; intro a hf
 refine l_e hf rfl (ev_fieldB hf rfl fd_187_1 (m := 1) rfl) ?_; intro a hf
 refine l_e hf rfl (ev_load1 hf rfl t1_3 (hB2.at 1)) ?_; intro a hf
 refine l_e hf rfl (ev_fieldB hf rfl fd_187_0 (m := 0) rfl) ?_; intro a hf
 refine l_e hf rfl (ev_load1 hf rfl t1_3 (hB3.at 0)) ?_; intro a hf
 refine l_e hf rfl (ev_mul hf rfl rfl) ?_; intro a hf
 refine l_e hf rfl (ev_add hf rfl rfl) ?_; intro a hf
 refine l_e hf rfl (ev_fieldB hf rfl fd_187_2 (m := 2) rfl) ?_; intro a hf
 refine l_e hf rfl (ev_load1 hf rfl t1_3 (hB2.at 2)) ?_; intro a hf
 refine l_e hf rfl (ev_fieldB hf rfl fd_187_3 (m := 3) rfl) ?_; intro a hf
 refine l_e hf rfl (ev_load1 hf rfl t1_3 (hB3.at 3)) ?_; intro a hf
 refine l_e hf rfl (ev_mul hf rfl rfl) ?_; intro a hf
 refine l_e hf rfl (ev_sub hf rfl rfl) ?_; intro a hf
 refine l_e hf rfl (ev_fieldB hf rfl fd_187_3 (m := 3) rfl) ?_; intro a hf
 refine l_e hf rfl (ev_load1 hf rfl t1_3 (hB2.at 3)) ?_; intro a hf
 refine l_e hf rfl (ev_fieldB hf rfl fd_187_2 (m := 2) rfl) ?_; intro a hf
 refine l_e hf rfl (ev_load1 hf rfl t1_3 (hB3.at 2)) ?_; intro a hf
 refine l_e hf rfl (ev_mul hf rfl rfl) ?_; intro a hf
 refine l_e hf rfl (ev_sub hf rfl rfl) ?_; intro a hf
 refine l_e hf rfl (ev_fieldB hf rfl fd_187_0 (m := 0) rfl) ?_; intro a hf
 refine l_e hf rfl (ev_load1 hf rfl t1_3 (hB2.at 0)) ?_; intro a hf
 refine l_e hf rfl (ev_fieldB hf rfl fd_187_2 (m := 2) rfl) ?_; intro a hf
 refine l_e hf rfl (ev_load1 hf rfl t1_3 (hB3.at 2)) ?_; intro a hf
 refine l_e hf rfl (ev_mul hf rfl rfl) ?_; intro a hf
 refine l_e hf rfl (ev_fieldB hf rfl fd_187_1 (m := 1) rfl) ?_; intro a hf
 refine l_e hf rfl (ev_load1 hf rfl t1_3 (hB2.at 1)) ?_; intro a hf
 refine l_e hf rfl (ev_fieldB hf rfl fd_187_1 (m := 1) rfl) ?_; intro a hf
 refine l_e hf rfl (ev_load1 hf rfl t1_3 (hB3.at 1)) ?_; intro a hf
 refine l_e hf rfl (ev_mul hf rfl rfl) ?_; intro a hf
 refine l_e hf rfl (ev_add hf rfl rfl) ?_; intro a hf
 refine l_e hf rfl (ev_fieldB hf rfl fd_187_2 (m := 2) rfl) ?_; intro a hf
 refine l_e hf rfl (ev_load1 hf rfl t1_3 (hB2.at 2)) ?_; intro a hf
 refine l_e hf rfl (ev_fieldB hf rfl fd_187_0 (m := 0) rfl) ?_; intro a hf
 refine l_e hf rfl (ev_load1 hf rfl t1_3 (hB3.at 0)) ?_; intro a hf
 refine l_e hf rfl (ev_mul hf rfl rfl) ?_; intro a hf
 refine l_e hf rfl (ev_add hf rfl rfl) ?_; intro a hf
 refine l_e hf rfl (ev_fieldB hf rfl fd_187_3 (m := 3) rfl) ?_; intro a hf
 refine l_e hf rfl (ev_load1 hf rfl t1_3 (hB2.at 3)) ?_; intro a hf
 refine l_e hf rfl (ev_fieldB hf rfl fd_187_3 (m := 3) rfl) ?_; intro a hf
 refine l_e hf rfl (ev_load1 hf rfl t1_3 (hB3.at 3)) ?_; intro a hf
 refine l_e hf rfl (ev_mul hf rfl rfl) ?_; intro a hf
 refine l_e hf rfl (ev_sub hf rfl rfl) ?_; intro a hf
 refine l_e hf rfl (ev_fieldB hf rfl fd_187_0 (m := 0) rfl) ?_; intro a hf
 refine l_e hf rfl (ev_load1 hf rfl t1_3 (hB2.at 0)) ?_; intro a hf
 refine l_e hf rfl (ev_fieldB hf rfl fd_187_3 (m := 3) rfl) ?_; intro a hf
 refine l_e hf rfl (ev_load1 hf rfl t1_3 (hB3.at 3)) ?_; intro a hf
 refine l_e hf rfl (ev_mul hf rfl rfl) ?_; intro a hf
 refine l_e hf rfl (ev_fieldB hf rfl fd_187_1 (m := 1) rfl) ?_; intro a hf
 refine l_e hf rfl (ev_load1 hf rfl t1_3 (hB2.at 1)) ?_; intro a hf
 refine l_e hf rfl (ev_fieldB hf rfl fd_187_2 (m := 2) rfl) ?_; intro a hf
 refine l_e hf rfl (ev_load1 hf rfl t1_3 (hB3.at 2)) ?_; intro a hf
 refine l_e hf rfl (ev_mul hf rfl rfl) ?_; intro a hf
 refine l_e hf rfl (ev_add hf rfl rfl) ?_; intro a hf
 refine l_e hf rfl (ev_fieldB hf rfl fd_187_2 (m := 2) rfl) ?_; intro a hf
 refine l_e hf rfl (ev_load1 hf rfl t1_3 (hB2.at 2)) ?_; intro a hf
 refine l_e hf rfl (ev_fieldB hf rfl fd_187_1 (m := 1) rfl) ?_; intro a hf
 refine l_e hf rfl (ev_load1 hf rfl t1_3 (hB3.at 1)) ?_; intro a hf
 refine l_e hf rfl (ev_mul hf rfl rfl) ?_; intro a hf
 refine l_e hf rfl (ev_add hf rfl rfl) ?_; intro a hf
 refine l_e hf rfl (ev_fieldB hf rfl fd_187_3 (m := 3) rfl) ?_; intro a hf
 refine l_e hf rfl (ev_load1 hf rfl t1_3 (hB2.at 3)) ?_; intro a hf
 refine l_e hf rfl (ev_fieldB hf rfl fd_187_0 (m := 0) rfl) ?_; intro a hf
 refine l_e hf rfl (ev_load1 hf rfl t1_3 (hB3.at 0)) ?_; intro a hf
 refine l_e hf rfl (ev_mul hf rfl rfl) ?_; intro a hf
 refine l_e hf rfl (ev_add hf rfl rfl) ?_; intro a hf
 refine l_e hf rfl (ev_build (ps := [(0, .int .i64 (wr ((wr ((wr ((wr (x.a * y.a)) - (wr (x.b * y.d)))) - (wr (x.c * y.c)))) - (wr (x.d * y.b))))), (1, .int .i64 (wr ((wr ((wr ((wr (x.a * y.b)) + (wr (x.b * y.a)))) - (wr (x.c * y.d)))) - (wr (x.d * y.c))))), (2, .int .i64 (wr ((wr ((wr ((wr (x.a * y.c)) + (wr (x.b * y.b)))) + (wr (x.c * y.a)))) - (wr (x.d * y.d))))), (3, .int .i64 (wr ((wr ((wr ((wr (x.a * y.d)) + (wr (x.b * y.c)))) + (wr (x.c * y.b)))) + (wr (x.d * y.a)))))]) (cs := [.int .i64 (wr ((wr ((wr ((wr (x.a * y.a)) - (wr (x.b * y.d)))) - (wr (x.c * y.c)))) - (wr (x.d * y.b)))), .int .i64 (wr ((wr ((wr ((wr (x.a * y.b)) + (wr (x.b * y.a)))) - (wr (x.c * y.d)))) - (wr (x.d * y.c)))), .int .i64 (wr ((wr ((wr ((wr (x.a * y.c)) + (wr (x.b * y.b)))) + (wr (x.c * y.a)))) - (wr (x.d * y.d)))), .int .i64 (wr ((wr ((wr ((wr (x.a * y.d)) + (wr (x.b * y.c)))) + (wr (x.c * y.b)))) + (wr (x.d * y.a))))]) hf rfl (fun _ => by first | rfl | kernel_rfl)) ?_; intro a hf
 refine l_e hf rfl (ev_loadN (l := [.int .i64 x.a, .int .i64 x.b, .int .i64 x.c, .int .i64 x.d]) hf rfl tN_187 (hB2.at 0) rfl) ?_; intro a hf
 refine l_e hf rfl (ev_loadN (l := [.int .i64 y.a, .int .i64 y.b, .int .i64 y.c, .int .i64 y.d]) hf rfl tN_187 (hB3.at 0) rfl) ?_; intro a hf
 refine l_f hf rfl (ef_buildSlice (k := 2) (vs := [.agg #[.int .i64 x.a, .int .i64 x.b, .int .i64 x.c, .int .i64 x.d], .agg #[.int .i64 y.a, .int .i64 y.b, .int .i64 y.c, .int .i64 y.d]]) (zs := [.int .i64 x.a, .int .i64 x.b, .int .i64 x.c, .int .i64 x.d, .int .i64 y.a, .int .i64 y.b, .int .i64 y.c, .int .i64 y.d]) hf rfl sl_278 inf_187 rfl rfl) ?_; rintro a _ w4 ⟨b6, rfl, hl6, hE, hB6⟩ hf
 have hne2_6 : b2 ≠ b6 := by have := hB2.lt; omega
 have hne3_6 : b3 ≠ b6 := by have := hB3.lt; omega
 have hne4_6 : b4 ≠ b6 := by have := hB4.lt; omega
 have hlo6 := Nat.le_trans hW.size hl6
 replace hB2 := hB2.below hE
 replace hB3 := hB3.below hE
 replace hB4 := hB4.below hE
 replace hW := btr hW hE
 clear hE
 refine l_f hf rfl (ef_call (vs := [.agg #[.int .i64 (wr ((wr ((wr ((wr (x.a * y.a)) - (wr (x.b * y.d)))) - (wr (x.c * y.c)))) - (wr (x.d * y.b)))), .int .i64 (wr ((wr ((wr ((wr (x.a * y.b)) + (wr (x.b * y.a)))) - (wr (x.c * y.d)))) - (wr (x.d * y.c)))), .int .i64 (wr ((wr ((wr ((wr (x.a * y.c)) + (wr (x.b * y.b)))) + (wr (x.c * y.a)))) - (wr (x.d * y.d)))), .int .i64 (wr ((wr ((wr ((wr (x.a * y.d)) + (wr (x.b * y.c)))) + (wr (x.c * y.b)))) + (wr (x.d * y.a))))], .slice (some ⟨b6, 0, none⟩) ([x, y]).length 2]) hf rfl ff_242 (F242 _ (⟨wr ((wr ((wr ((wr (x.a * y.a)) - (wr (x.b * y.d)))) - (wr (x.c * y.c)))) - (wr (x.d * y.b))), wr ((wr ((wr ((wr (x.a * y.b)) + (wr (x.b * y.a)))) - (wr (x.c * y.d)))) - (wr (x.d * y.c))), wr ((wr ((wr ((wr (x.a * y.c)) + (wr (x.b * y.b)))) + (wr (x.c * y.a)))) - (wr (x.d * y.d))), wr ((wr ((wr ((wr (x.a * y.d)) + (wr (x.b * y.c)))) + (wr (x.c * y.b)))) + (wr (x.d * y.a)))⟩ : Rg) (some ⟨b6, 0, none⟩) 2 ([x, y]) (Rd.of_blk hB6 rfl _ hB6.lt) rfl (by simp) (by simp))) ?_; rintro a _ w5 ⟨rfl, hE⟩ hf
 replace hB2 := hB2.below hE
 replace hB3 := hB3.below hE
 replace hB4 := hB4.below hE
 replace hB6 := hB6.below hE
 replace hW := btr hW hE
 clear hE
 refine l_e hf rfl (ev_extract (vs := [.agg #[.int .i64 ((rIf1 (⟨wr ((wr ((wr ((wr (x.a * y.a)) - (wr (x.b * y.d)))) - (wr (x.c * y.c)))) - (wr (x.d * y.b))), wr ((wr ((wr ((wr (x.a * y.b)) + (wr (x.b * y.a)))) - (wr (x.c * y.d)))) - (wr (x.d * y.c))), wr ((wr ((wr ((wr (x.a * y.c)) + (wr (x.b * y.b)))) + (wr (x.c * y.a)))) - (wr (x.d * y.d))), wr ((wr ((wr ((wr (x.a * y.d)) + (wr (x.b * y.c)))) + (wr (x.c * y.b)))) + (wr (x.d * y.a)))⟩ : Rg) ([x, y])).a), .int .i64 ((rIf1 (⟨wr ((wr ((wr ((wr (x.a * y.a)) - (wr (x.b * y.d)))) - (wr (x.c * y.c)))) - (wr (x.d * y.b))), wr ((wr ((wr ((wr (x.a * y.b)) + (wr (x.b * y.a)))) - (wr (x.c * y.d)))) - (wr (x.d * y.c))), wr ((wr ((wr ((wr (x.a * y.c)) + (wr (x.b * y.b)))) + (wr (x.c * y.a)))) - (wr (x.d * y.d))), wr ((wr ((wr ((wr (x.a * y.d)) + (wr (x.b * y.c)))) + (wr (x.c * y.b)))) + (wr (x.d * y.a)))⟩ : Rg) ([x, y])).b), .int .i64 ((rIf1 (⟨wr ((wr ((wr ((wr (x.a * y.a)) - (wr (x.b * y.d)))) - (wr (x.c * y.c)))) - (wr (x.d * y.b))), wr ((wr ((wr ((wr (x.a * y.b)) + (wr (x.b * y.a)))) - (wr (x.c * y.d)))) - (wr (x.d * y.c))), wr ((wr ((wr ((wr (x.a * y.c)) + (wr (x.b * y.b)))) + (wr (x.c * y.a)))) - (wr (x.d * y.d))), wr ((wr ((wr ((wr (x.a * y.d)) + (wr (x.b * y.c)))) + (wr (x.c * y.b)))) + (wr (x.d * y.a)))⟩ : Rg) ([x, y])).c), .int .i64 ((rIf1 (⟨wr ((wr ((wr ((wr (x.a * y.a)) - (wr (x.b * y.d)))) - (wr (x.c * y.c)))) - (wr (x.d * y.b))), wr ((wr ((wr ((wr (x.a * y.b)) + (wr (x.b * y.a)))) - (wr (x.c * y.d)))) - (wr (x.d * y.c))), wr ((wr ((wr ((wr (x.a * y.c)) + (wr (x.b * y.b)))) + (wr (x.c * y.a)))) - (wr (x.d * y.d))), wr ((wr ((wr ((wr (x.a * y.d)) + (wr (x.b * y.c)))) + (wr (x.c * y.b)))) + (wr (x.d * y.a)))⟩ : Rg) ([x, y])).d)], .bool (rIf2 (⟨wr ((wr ((wr ((wr (x.a * y.a)) - (wr (x.b * y.d)))) - (wr (x.c * y.c)))) - (wr (x.d * y.b))), wr ((wr ((wr ((wr (x.a * y.b)) + (wr (x.b * y.a)))) - (wr (x.c * y.d)))) - (wr (x.d * y.c))), wr ((wr ((wr ((wr (x.a * y.c)) + (wr (x.b * y.b)))) + (wr (x.c * y.a)))) - (wr (x.d * y.d))), wr ((wr ((wr ((wr (x.a * y.d)) + (wr (x.b * y.c)))) + (wr (x.c * y.b)))) + (wr (x.d * y.a)))⟩ : Rg) ([x, y]))]) hf rfl rfl) ?_; intro a hf
 refine l_e hf rfl (ev_extract (vs := [.agg #[.int .i64 ((rIf1 (⟨wr ((wr ((wr ((wr (x.a * y.a)) - (wr (x.b * y.d)))) - (wr (x.c * y.c)))) - (wr (x.d * y.b))), wr ((wr ((wr ((wr (x.a * y.b)) + (wr (x.b * y.a)))) - (wr (x.c * y.d)))) - (wr (x.d * y.c))), wr ((wr ((wr ((wr (x.a * y.c)) + (wr (x.b * y.b)))) + (wr (x.c * y.a)))) - (wr (x.d * y.d))), wr ((wr ((wr ((wr (x.a * y.d)) + (wr (x.b * y.c)))) + (wr (x.c * y.b)))) + (wr (x.d * y.a)))⟩ : Rg) ([x, y])).a), .int .i64 ((rIf1 (⟨wr ((wr ((wr ((wr (x.a * y.a)) - (wr (x.b * y.d)))) - (wr (x.c * y.c)))) - (wr (x.d * y.b))), wr ((wr ((wr ((wr (x.a * y.b)) + (wr (x.b * y.a)))) - (wr (x.c * y.d)))) - (wr (x.d * y.c))), wr ((wr ((wr ((wr (x.a * y.c)) + (wr (x.b * y.b)))) + (wr (x.c * y.a)))) - (wr (x.d * y.d))), wr ((wr ((wr ((wr (x.a * y.d)) + (wr (x.b * y.c)))) + (wr (x.c * y.b)))) + (wr (x.d * y.a)))⟩ : Rg) ([x, y])).b), .int .i64 ((rIf1 (⟨wr ((wr ((wr ((wr (x.a * y.a)) - (wr (x.b * y.d)))) - (wr (x.c * y.c)))) - (wr (x.d * y.b))), wr ((wr ((wr ((wr (x.a * y.b)) + (wr (x.b * y.a)))) - (wr (x.c * y.d)))) - (wr (x.d * y.c))), wr ((wr ((wr ((wr (x.a * y.c)) + (wr (x.b * y.b)))) + (wr (x.c * y.a)))) - (wr (x.d * y.d))), wr ((wr ((wr ((wr (x.a * y.d)) + (wr (x.b * y.c)))) + (wr (x.c * y.b)))) + (wr (x.d * y.a)))⟩ : Rg) ([x, y])).c), .int .i64 ((rIf1 (⟨wr ((wr ((wr ((wr (x.a * y.a)) - (wr (x.b * y.d)))) - (wr (x.c * y.c)))) - (wr (x.d * y.b))), wr ((wr ((wr ((wr (x.a * y.b)) + (wr (x.b * y.a)))) - (wr (x.c * y.d)))) - (wr (x.d * y.c))), wr ((wr ((wr ((wr (x.a * y.c)) + (wr (x.b * y.b)))) + (wr (x.c * y.a)))) - (wr (x.d * y.d))), wr ((wr ((wr ((wr (x.a * y.d)) + (wr (x.b * y.c)))) + (wr (x.c * y.b)))) + (wr (x.d * y.a)))⟩ : Rg) ([x, y])).d)], .bool (rIf2 (⟨wr ((wr ((wr ((wr (x.a * y.a)) - (wr (x.b * y.d)))) - (wr (x.c * y.c)))) - (wr (x.d * y.b))), wr ((wr ((wr ((wr (x.a * y.b)) + (wr (x.b * y.a)))) - (wr (x.c * y.d)))) - (wr (x.d * y.c))), wr ((wr ((wr ((wr (x.a * y.c)) + (wr (x.b * y.b)))) + (wr (x.c * y.a)))) - (wr (x.d * y.d))), wr ((wr ((wr ((wr (x.a * y.d)) + (wr (x.b * y.c)))) + (wr (x.c * y.b)))) + (wr (x.d * y.a)))⟩ : Rg) ([x, y]))]) hf rfl rfl) ?_; intro a hf
 refine l_f0 hf (ef_store (vs := [.int .i64 ((rIf1 (⟨wr ((wr ((wr ((wr (x.a * y.a)) - (wr (x.b * y.d)))) - (wr (x.c * y.c)))) - (wr (x.d * y.b))), wr ((wr ((wr ((wr (x.a * y.b)) + (wr (x.b * y.a)))) - (wr (x.c * y.d)))) - (wr (x.d * y.c))), wr ((wr ((wr ((wr (x.a * y.c)) + (wr (x.b * y.b)))) + (wr (x.c * y.a)))) - (wr (x.d * y.d))), wr ((wr ((wr ((wr (x.a * y.d)) + (wr (x.b * y.c)))) + (wr (x.c * y.b)))) + (wr (x.d * y.a)))⟩ : Rg) ([x, y])).a), .int .i64 ((rIf1 (⟨wr ((wr ((wr ((wr (x.a * y.a)) - (wr (x.b * y.d)))) - (wr (x.c * y.c)))) - (wr (x.d * y.b))), wr ((wr ((wr ((wr (x.a * y.b)) + (wr (x.b * y.a)))) - (wr (x.c * y.d)))) - (wr (x.d * y.c))), wr ((wr ((wr ((wr (x.a * y.c)) + (wr (x.b * y.b)))) + (wr (x.c * y.a)))) - (wr (x.d * y.d))), wr ((wr ((wr ((wr (x.a * y.d)) + (wr (x.b * y.c)))) + (wr (x.c * y.b)))) + (wr (x.d * y.a)))⟩ : Rg) ([x, y])).b), .int .i64 ((rIf1 (⟨wr ((wr ((wr ((wr (x.a * y.a)) - (wr (x.b * y.d)))) - (wr (x.c * y.c)))) - (wr (x.d * y.b))), wr ((wr ((wr ((wr (x.a * y.b)) + (wr (x.b * y.a)))) - (wr (x.c * y.d)))) - (wr (x.d * y.c))), wr ((wr ((wr ((wr (x.a * y.c)) + (wr (x.b * y.b)))) + (wr (x.c * y.a)))) - (wr (x.d * y.d))), wr ((wr ((wr ((wr (x.a * y.d)) + (wr (x.b * y.c)))) + (wr (x.c * y.b)))) + (wr (x.d * y.a)))⟩ : Rg) ([x, y])).c), .int .i64 ((rIf1 (⟨wr ((wr ((wr ((wr (x.a * y.a)) - (wr (x.b * y.d)))) - (wr (x.c * y.c)))) - (wr (x.d * y.b))), wr ((wr ((wr ((wr (x.a * y.b)) + (wr (x.b * y.a)))) - (wr (x.c * y.d)))) - (wr (x.d * y.c))), wr ((wr ((wr ((wr (x.a * y.c)) + (wr (x.b * y.b)))) + (wr (x.c * y.a)))) - (wr (x.d * y.d))), wr ((wr ((wr ((wr (x.a * y.d)) + (wr (x.b * y.c)))) + (wr (x.c * y.b)))) + (wr (x.d * y.a)))⟩ : Rg) ([x, y])).d)]) (l' := [.int .i64 ((rIf1 (⟨wr ((wr ((wr ((wr (x.a * y.a)) - (wr (x.b * y.d)))) - (wr (x.c * y.c)))) - (wr (x.d * y.b))), wr ((wr ((wr ((wr (x.a * y.b)) + (wr (x.b * y.a)))) - (wr (x.c * y.d)))) - (wr (x.d * y.c))), wr ((wr ((wr ((wr (x.a * y.c)) + (wr (x.b * y.b)))) + (wr (x.c * y.a)))) - (wr (x.d * y.d))), wr ((wr ((wr ((wr (x.a * y.d)) + (wr (x.b * y.c)))) + (wr (x.c * y.b)))) + (wr (x.d * y.a)))⟩ : Rg) ([x, y])).a), .int .i64 ((rIf1 (⟨wr ((wr ((wr ((wr (x.a * y.a)) - (wr (x.b * y.d)))) - (wr (x.c * y.c)))) - (wr (x.d * y.b))), wr ((wr ((wr ((wr (x.a * y.b)) + (wr (x.b * y.a)))) - (wr (x.c * y.d)))) - (wr (x.d * y.c))), wr ((wr ((wr ((wr (x.a * y.c)) + (wr (x.b * y.b)))) + (wr (x.c * y.a)))) - (wr (x.d * y.d))), wr ((wr ((wr ((wr (x.a * y.d)) + (wr (x.b * y.c)))) + (wr (x.c * y.b)))) + (wr (x.d * y.a)))⟩ : Rg) ([x, y])).b), .int .i64 ((rIf1 (⟨wr ((wr ((wr ((wr (x.a * y.a)) - (wr (x.b * y.d)))) - (wr (x.c * y.c)))) - (wr (x.d * y.b))), wr ((wr ((wr ((wr (x.a * y.b)) + (wr (x.b * y.a)))) - (wr (x.c * y.d)))) - (wr (x.d * y.c))), wr ((wr ((wr ((wr (x.a * y.c)) + (wr (x.b * y.b)))) + (wr (x.c * y.a)))) - (wr (x.d * y.d))), wr ((wr ((wr ((wr (x.a * y.d)) + (wr (x.b * y.c)))) + (wr (x.c * y.b)))) + (wr (x.d * y.a)))⟩ : Rg) ([x, y])).c), .int .i64 ((rIf1 (⟨wr ((wr ((wr ((wr (x.a * y.a)) - (wr (x.b * y.d)))) - (wr (x.c * y.c)))) - (wr (x.d * y.b))), wr ((wr ((wr ((wr (x.a * y.b)) + (wr (x.b * y.a)))) - (wr (x.c * y.d)))) - (wr (x.d * y.c))), wr ((wr ((wr ((wr (x.a * y.c)) + (wr (x.b * y.b)))) + (wr (x.c * y.a)))) - (wr (x.d * y.d))), wr ((wr ((wr ((wr (x.a * y.d)) + (wr (x.b * y.c)))) + (wr (x.c * y.b)))) + (wr (x.d * y.a)))⟩ : Rg) ([x, y])).d)]) hf rfl rfl sz_187 hB4 rfl rfl rfl rfl rfl) ?_; rintro a _ w6 ⟨ho, hb⟩ hf
 have hold := hB4
 replace hB2 := hB2.only ho (by omega)
 replace hB3 := hB3.only ho (by omega)
 replace hB6 := hB6.only ho (by omega)
 replace hW := Below.only hW ho hlo4
 clear hold
 have hB4 := hb
 clear hb ho
 refine l_as hf rfl rfl ?_; intro a hf
 refine wpList_nil ?_
 refine hK5 _ _ ?_; try clear hK5 K5
 refine wp_ret ?_
 refine c_ret hf (res2 hf rfl (ResV.cellN (l := [.int .i64 ((rIf1 (⟨wr ((wr ((wr ((wr (x.a * y.a)) - (wr (x.b * y.d)))) - (wr (x.c * y.c)))) - (wr (x.d * y.b))), wr ((wr ((wr ((wr (x.a * y.b)) + (wr (x.b * y.a)))) - (wr (x.c * y.d)))) - (wr (x.d * y.c))), wr ((wr ((wr ((wr (x.a * y.c)) + (wr (x.b * y.b)))) + (wr (x.c * y.a)))) - (wr (x.d * y.d))), wr ((wr ((wr ((wr (x.a * y.d)) + (wr (x.b * y.c)))) + (wr (x.c * y.b)))) + (wr (x.d * y.a)))⟩ : Rg) ([x, y])).a), .int .i64 ((rIf1 (⟨wr ((wr ((wr ((wr (x.a * y.a)) - (wr (x.b * y.d)))) - (wr (x.c * y.c)))) - (wr (x.d * y.b))), wr ((wr ((wr ((wr (x.a * y.b)) + (wr (x.b * y.a)))) - (wr (x.c * y.d)))) - (wr (x.d * y.c))), wr ((wr ((wr ((wr (x.a * y.c)) + (wr (x.b * y.b)))) + (wr (x.c * y.a)))) - (wr (x.d * y.d))), wr ((wr ((wr ((wr (x.a * y.d)) + (wr (x.b * y.c)))) + (wr (x.c * y.b)))) + (wr (x.d * y.a)))⟩ : Rg) ([x, y])).b), .int .i64 ((rIf1 (⟨wr ((wr ((wr ((wr (x.a * y.a)) - (wr (x.b * y.d)))) - (wr (x.c * y.c)))) - (wr (x.d * y.b))), wr ((wr ((wr ((wr (x.a * y.b)) + (wr (x.b * y.a)))) - (wr (x.c * y.d)))) - (wr (x.d * y.c))), wr ((wr ((wr ((wr (x.a * y.c)) + (wr (x.b * y.b)))) + (wr (x.c * y.a)))) - (wr (x.d * y.d))), wr ((wr ((wr ((wr (x.a * y.d)) + (wr (x.b * y.c)))) + (wr (x.c * y.b)))) + (wr (x.d * y.a)))⟩ : Rg) ([x, y])).c), .int .i64 ((rIf1 (⟨wr ((wr ((wr ((wr (x.a * y.a)) - (wr (x.b * y.d)))) - (wr (x.c * y.c)))) - (wr (x.d * y.b))), wr ((wr ((wr ((wr (x.a * y.b)) + (wr (x.b * y.a)))) - (wr (x.c * y.d)))) - (wr (x.d * y.c))), wr ((wr ((wr ((wr (x.a * y.c)) + (wr (x.b * y.b)))) + (wr (x.c * y.a)))) - (wr (x.d * y.d))), wr ((wr ((wr ((wr (x.a * y.d)) + (wr (x.b * y.c)))) + (wr (x.c * y.b)))) + (wr (x.d * y.a)))⟩ : Rg) ([x, y])).d)]) rfl tN_187 (hB4.at 0) rfl) rfl) ?_
 exact ⟨rfl, hW⟩
theorem F240 (w0 : World) (x : Rg) (y : Rg) : Ret Tryz.prog 240 [.agg #[.int .i64 x.a, .int .i64 x.b, .int .i64 x.c, .int .i64 x.d], .agg #[.int .i64 y.a, .int .i64 y.b, .int .i64 y.c, .int .i64 y.d]] w0 (fun v w => v = .tuple #[rV (rIf1 (rAdd x y) [x, y]), .bool (rIf2 (rAdd x y) [x, y])] ∧ Below w0.heap.size w0 w) := by
 refine enter Tryz.func240 rfl 33 rfl rfl ?_
 intro a hf
 have hW : Below w0.heap.size w0 w0 := Below.refl _ _
 refine wp_seq_k ?_; intro K1 hK1
 refine wp_region_lit ?_
 refine l_f hf rfl (ef_box (zs := [.int .i64 x.a, .int .i64 x.b, .int .i64 x.c, .int .i64 x.d]) hf rfl rfl) ?_; rintro a _ w1 ⟨b2, rfl, hl2, hE, hB2⟩ hf
 have hlo2 := Nat.le_trans hW.size hl2
 replace hW := btr hW hE
 clear hE
 refine l_f hf rfl (ef_box (zs := [.int .i64 y.a, .int .i64 y.b, .int .i64 y.c, .int .i64 y.d]) hf rfl rfl) ?_; rintro a _ w2 ⟨b3, rfl, hl3, hE, hB3⟩ hf
 have hne2_3 : b2 ≠ b3 := by have := hB2.lt; omega
 have hlo3 := Nat.le_trans hW.size hl3
 replace hB2 := hB2.below hE
 replace hW := btr hW hE
 clear hE
 refine l_f hf rfl (ef_alloc (zs := [.int .i64 0, .int .i64 0, .int .i64 0, .int .i64 0]) z_187 rfl) ?_; rintro a _ w3 ⟨b4, rfl, hl4, hE, hB4⟩ hf
 have hne2_4 : b2 ≠ b4 := by have := hB2.lt; omega
 have hne3_4 : b3 ≠ b4 := by have := hB3.lt; omega
 have hlo4 := Nat.le_trans hW.size hl4
 replace hB2 := hB2.below hE
 replace hB3 := hB3.below hE
 replace hW := btr hW hE
 clear hE
 refine l_as hf rfl rfl ?_; intro a hf
 refine wpList_nil ?_
 refine hK1 _ _ ?_; try clear hK1 K1
 refine wp_seq_k ?_; intro K5 hK5
 refine wp_region_lit ?_
 refine l_e hf rfl (ev_fieldB hf rfl fd_187_0 (m := 0) rfl) ?_; intro a hf
 refine l_e hf rfl (ev_load1 hf rfl t1_3 (hB2.at 0)) ?_; intro a hf
 refine l_e hf rfl (ev_fieldB hf rfl fd_187_0 (m := 0) rfl) ?_; intro a hf
 refine l_e hf rfl (ev_load1 hf rfl t1_3 (hB3.at 0)) ?_; intro a hf
 refine l_e hf rfl (ev_add hf rfl rfl) ?_; intro a hf
 refine l_e hf rfl (ev_fieldB hf rfl fd_187_1 (m := 1) rfl) ?_; intro a hf
 refine l_e hf rfl (ev_load1 hf rfl t1_3 (hB2.at 1)) ?_; intro a hf
 refine l_e hf rfl (ev_fieldB hf rfl fd_187_1 (m := 1) rfl) ?_; intro a hf
 refine l_e hf rfl (ev_load1 hf rfl t1_3 (hB3.at 1)) ?_; intro a hf
 refine l_e hf rfl (ev_add hf rfl rfl) ?_; intro a hf
 refine l_e hf rfl (ev_fieldB hf rfl fd_187_2 (m := 2) rfl) ?_; intro a hf
 refine l_e hf rfl (ev_load1 hf rfl t1_3 (hB2.at 2)) ?_; intro a hf
 refine l_e hf rfl (ev_fieldB hf rfl fd_187_2 (m := 2) rfl) ?_; intro a hf
 refine l_e hf rfl (ev_load1 hf rfl t1_3 (hB3.at 2)) ?_; intro a hf
 refine l_e hf rfl (ev_add hf rfl rfl) ?_; intro a hf
 refine l_e hf rfl (ev_fieldB hf rfl fd_187_3 (m := 3) rfl) ?_; intro a hf
 refine l_e hf rfl (ev_load1 hf rfl t1_3 (hB2.at 3)) ?_; intro a hf
 refine l_e hf rfl (ev_fieldB hf rfl fd_187_3 (m := 3) rfl) ?_; intro a hf
 refine l_e hf rfl (ev_load1 hf rfl t1_3 (hB3.at 3)) ?_; intro a hf
 refine l_e hf rfl (ev_add hf rfl rfl) ?_; intro a hf
 refine l_e hf rfl (ev_build (ps := [(0, .int .i64 (wr (x.a + y.a))), (1, .int .i64 (wr (x.b + y.b))), (2, .int .i64 (wr (x.c + y.c))), (3, .int .i64 (wr (x.d + y.d)))]) (cs := [.int .i64 (wr (x.a + y.a)), .int .i64 (wr (x.b + y.b)), .int .i64 (wr (x.c + y.c)), .int .i64 (wr (x.d + y.d))]) hf rfl (fun _ => by first | rfl | kernel_rfl)) ?_; intro a hf
 refine l_e hf rfl (ev_loadN (l := [.int .i64 x.a, .int .i64 x.b, .int .i64 x.c, .int .i64 x.d]) hf rfl tN_187 (hB2.at 0) rfl) ?_; intro a hf
 refine l_e hf rfl (ev_loadN (l := [.int .i64 y.a, .int .i64 y.b, .int .i64 y.c, .int .i64 y.d]) hf rfl tN_187 (hB3.at 0) rfl) ?_; intro a hf
 refine l_f hf rfl (ef_buildSlice (k := 2) (vs := [.agg #[.int .i64 x.a, .int .i64 x.b, .int .i64 x.c, .int .i64 x.d], .agg #[.int .i64 y.a, .int .i64 y.b, .int .i64 y.c, .int .i64 y.d]]) (zs := [.int .i64 x.a, .int .i64 x.b, .int .i64 x.c, .int .i64 x.d, .int .i64 y.a, .int .i64 y.b, .int .i64 y.c, .int .i64 y.d]) hf rfl sl_278 inf_187 rfl rfl) ?_; rintro a _ w4 ⟨b6, rfl, hl6, hE, hB6⟩ hf
 have hne2_6 : b2 ≠ b6 := by have := hB2.lt; omega
 have hne3_6 : b3 ≠ b6 := by have := hB3.lt; omega
 have hne4_6 : b4 ≠ b6 := by have := hB4.lt; omega
 have hlo6 := Nat.le_trans hW.size hl6
 replace hB2 := hB2.below hE
 replace hB3 := hB3.below hE
 replace hB4 := hB4.below hE
 replace hW := btr hW hE
 clear hE
 refine l_f hf rfl (ef_call (vs := [.agg #[.int .i64 (wr (x.a + y.a)), .int .i64 (wr (x.b + y.b)), .int .i64 (wr (x.c + y.c)), .int .i64 (wr (x.d + y.d))], .slice (some ⟨b6, 0, none⟩) ([x, y]).length 2]) hf rfl ff_242 (F242 _ (⟨wr (x.a + y.a), wr (x.b + y.b), wr (x.c + y.c), wr (x.d + y.d)⟩ : Rg) (some ⟨b6, 0, none⟩) 2 ([x, y]) (Rd.of_blk hB6 rfl _ hB6.lt) rfl (by simp) (by simp))) ?_; rintro a _ w5 ⟨rfl, hE⟩ hf
 replace hB2 := hB2.below hE
 replace hB3 := hB3.below hE
 replace hB4 := hB4.below hE
 replace hB6 := hB6.below hE
 replace hW := btr hW hE
 clear hE
 refine l_e hf rfl (ev_extract (vs := [.agg #[.int .i64 ((rIf1 (⟨wr (x.a + y.a), wr (x.b + y.b), wr (x.c + y.c), wr (x.d + y.d)⟩ : Rg) ([x, y])).a), .int .i64 ((rIf1 (⟨wr (x.a + y.a), wr (x.b + y.b), wr (x.c + y.c), wr (x.d + y.d)⟩ : Rg) ([x, y])).b), .int .i64 ((rIf1 (⟨wr (x.a + y.a), wr (x.b + y.b), wr (x.c + y.c), wr (x.d + y.d)⟩ : Rg) ([x, y])).c), .int .i64 ((rIf1 (⟨wr (x.a + y.a), wr (x.b + y.b), wr (x.c + y.c), wr (x.d + y.d)⟩ : Rg) ([x, y])).d)], .bool (rIf2 (⟨wr (x.a + y.a), wr (x.b + y.b), wr (x.c + y.c), wr (x.d + y.d)⟩ : Rg) ([x, y]))]) hf rfl rfl) ?_; intro a hf
 refine l_e hf rfl (ev_extract (vs := [.agg #[.int .i64 ((rIf1 (⟨wr (x.a + y.a), wr (x.b + y.b), wr (x.c + y.c), wr (x.d + y.d)⟩ : Rg) ([x, y])).a), .int .i64 ((rIf1 (⟨wr (x.a + y.a), wr (x.b + y.b), wr (x.c + y.c), wr (x.d + y.d)⟩ : Rg) ([x, y])).b), .int .i64 ((rIf1 (⟨wr (x.a + y.a), wr (x.b + y.b), wr (x.c + y.c), wr (x.d + y.d)⟩ : Rg) ([x, y])).c), .int .i64 ((rIf1 (⟨wr (x.a + y.a), wr (x.b + y.b), wr (x.c + y.c), wr (x.d + y.d)⟩ : Rg) ([x, y])).d)], .bool (rIf2 (⟨wr (x.a + y.a), wr (x.b + y.b), wr (x.c + y.c), wr (x.d + y.d)⟩ : Rg) ([x, y]))]) hf rfl rfl) ?_; intro a hf
 refine l_f0 hf (ef_store (vs := [.int .i64 ((rIf1 (⟨wr (x.a + y.a), wr (x.b + y.b), wr (x.c + y.c), wr (x.d + y.d)⟩ : Rg) ([x, y])).a), .int .i64 ((rIf1 (⟨wr (x.a + y.a), wr (x.b + y.b), wr (x.c + y.c), wr (x.d + y.d)⟩ : Rg) ([x, y])).b), .int .i64 ((rIf1 (⟨wr (x.a + y.a), wr (x.b + y.b), wr (x.c + y.c), wr (x.d + y.d)⟩ : Rg) ([x, y])).c), .int .i64 ((rIf1 (⟨wr (x.a + y.a), wr (x.b + y.b), wr (x.c + y.c), wr (x.d + y.d)⟩ : Rg) ([x, y])).d)]) (l' := [.int .i64 ((rIf1 (⟨wr (x.a + y.a), wr (x.b + y.b), wr (x.c + y.c), wr (x.d + y.d)⟩ : Rg) ([x, y])).a), .int .i64 ((rIf1 (⟨wr (x.a + y.a), wr (x.b + y.b), wr (x.c + y.c), wr (x.d + y.d)⟩ : Rg) ([x, y])).b), .int .i64 ((rIf1 (⟨wr (x.a + y.a), wr (x.b + y.b), wr (x.c + y.c), wr (x.d + y.d)⟩ : Rg) ([x, y])).c), .int .i64 ((rIf1 (⟨wr (x.a + y.a), wr (x.b + y.b), wr (x.c + y.c), wr (x.d + y.d)⟩ : Rg) ([x, y])).d)]) hf rfl rfl sz_187 hB4 rfl rfl rfl rfl rfl) ?_; rintro a _ w6 ⟨ho, hb⟩ hf
 have hold := hB4
 replace hB2 := hB2.only ho (by omega)
 replace hB3 := hB3.only ho (by omega)
 replace hB6 := hB6.only ho (by omega)
 replace hW := Below.only hW ho hlo4
 clear hold
 have hB4 := hb
 clear hb ho
 refine l_as hf rfl rfl ?_; intro a hf
 refine wpList_nil ?_
 refine hK5 _ _ ?_; try clear hK5 K5
 refine wp_ret ?_
 refine c_ret hf (res2 hf rfl (ResV.cellN (l := [.int .i64 ((rIf1 (⟨wr (x.a + y.a), wr (x.b + y.b), wr (x.c + y.c), wr (x.d + y.d)⟩ : Rg) ([x, y])).a), .int .i64 ((rIf1 (⟨wr (x.a + y.a), wr (x.b + y.b), wr (x.c + y.c), wr (x.d + y.d)⟩ : Rg) ([x, y])).b), .int .i64 ((rIf1 (⟨wr (x.a + y.a), wr (x.b + y.b), wr (x.c + y.c), wr (x.d + y.d)⟩ : Rg) ([x, y])).c), .int .i64 ((rIf1 (⟨wr (x.a + y.a), wr (x.b + y.b), wr (x.c + y.c), wr (x.d + y.d)⟩ : Rg) ([x, y])).d)]) rfl tN_187 (hB4.at 0) rfl) rfl) ?_
 exact ⟨rfl, hW⟩
theorem F252 (w0 : World) (x : Rg) : Ret Tryz.prog 252 [.agg #[.int .i64 x.a, .int .i64 x.b, .int .i64 x.c, .int .i64 x.d]] w0 (fun v w => v = .tuple #[rV (rIf1 (rRoot x) [x]), .bool (rIf2 (rRoot x) [x])] ∧ Below w0.heap.size w0 w) := by
 refine enter Tryz.func252 rfl 30 rfl rfl ?_
 intro a hf
 have hW : Below w0.heap.size w0 w0 := Below.refl _ _
 refine wp_seq_k ?_; intro K1 hK1
 refine wp_region_lit ?_
 refine l_f hf rfl (ef_box (zs := [.int .i64 x.a, .int .i64 x.b, .int .i64 x.c, .int .i64 x.d]) hf rfl rfl) ?_; rintro a _ w1 ⟨b2, rfl, hl2, hE, hB2⟩ hf
 have hlo2 := Nat.le_trans hW.size hl2
 replace hW := btr hW hE
 clear hE
 refine l_f hf rfl (ef_alloc (zs := [.int .i64 0, .int .i64 0, .int .i64 0, .int .i64 0]) z_187 rfl) ?_; rintro a _ w2 ⟨b3, rfl, hl3, hE, hB3⟩ hf
 have hne2_3 : b2 ≠ b3 := by have := hB2.lt; omega
 have hlo3 := Nat.le_trans hW.size hl3
 replace hB2 := hB2.below hE
 replace hW := btr hW hE
 clear hE
 refine l_as hf rfl rfl ?_; intro a hf
 refine wpList_nil ?_
 refine hK1 _ _ ?_; try clear hK1 K1
 refine wp_seq_k ?_; intro K4 hK4
 refine wp_region_lit ?_
 refine l_e hf rfl (ev_fieldB hf rfl fd_187_1 (m := 1) rfl) ?_; intro a hf
 refine l_e hf rfl (ev_load1 hf rfl t1_3 (hB2.at 1)) ?_; intro a hf
 refine l_e hf rfl (ev_fieldB hf rfl fd_187_3 (m := 3) rfl) ?_; intro a hf
 refine l_e hf rfl (ev_load1 hf rfl t1_3 (hB2.at 3)) ?_; intro a hf
 refine l_e hf rfl (ev_sub hf rfl rfl) ?_; intro a hf
 refine l_e hf rfl (ev_fieldB hf rfl fd_187_0 (m := 0) rfl) ?_; intro a hf
 refine l_e hf rfl (ev_load1 hf rfl t1_3 (hB2.at 0)) ?_; intro a hf
 refine l_e hf rfl (ev_fieldB hf rfl fd_187_2 (m := 2) rfl) ?_; intro a hf
 refine l_e hf rfl (ev_load1 hf rfl t1_3 (hB2.at 2)) ?_; intro a hf
 refine l_e hf rfl (ev_add hf rfl rfl) ?_; intro a hf
 refine l_e hf rfl (ev_fieldB hf rfl fd_187_1 (m := 1) rfl) ?_; intro a hf
 refine l_e hf rfl (ev_load1 hf rfl t1_3 (hB2.at 1)) ?_; intro a hf
 refine l_e hf rfl (ev_fieldB hf rfl fd_187_3 (m := 3) rfl) ?_; intro a hf
 refine l_e hf rfl (ev_load1 hf rfl t1_3 (hB2.at 3)) ?_; intro a hf
 refine l_e hf rfl (ev_add hf rfl rfl) ?_; intro a hf
 refine l_e hf rfl (ev_fieldB hf rfl fd_187_2 (m := 2) rfl) ?_; intro a hf
 refine l_e hf rfl (ev_load1 hf rfl t1_3 (hB2.at 2)) ?_; intro a hf
 refine l_e hf rfl (ev_fieldB hf rfl fd_187_0 (m := 0) rfl) ?_; intro a hf
 refine l_e hf rfl (ev_load1 hf rfl t1_3 (hB2.at 0)) ?_; intro a hf
 refine l_e hf rfl (ev_sub hf rfl rfl) ?_; intro a hf
 refine l_e hf rfl (ev_build (ps := [(0, .int .i64 (wr (x.b - x.d))), (1, .int .i64 (wr (x.a + x.c))), (2, .int .i64 (wr (x.b + x.d))), (3, .int .i64 (wr (x.c - x.a)))]) (cs := [.int .i64 (wr (x.b - x.d)), .int .i64 (wr (x.a + x.c)), .int .i64 (wr (x.b + x.d)), .int .i64 (wr (x.c - x.a))]) hf rfl (fun _ => by first | rfl | kernel_rfl)) ?_; intro a hf
 refine l_e hf rfl (ev_loadN (l := [.int .i64 x.a, .int .i64 x.b, .int .i64 x.c, .int .i64 x.d]) hf rfl tN_187 (hB2.at 0) rfl) ?_; intro a hf
 refine l_f hf rfl (ef_buildSlice (k := 1) (vs := [.agg #[.int .i64 x.a, .int .i64 x.b, .int .i64 x.c, .int .i64 x.d]]) (zs := [.int .i64 x.a, .int .i64 x.b, .int .i64 x.c, .int .i64 x.d]) hf rfl sl_278 inf_187 rfl rfl) ?_; rintro a _ w3 ⟨b5, rfl, hl5, hE, hB5⟩ hf
 have hne2_5 : b2 ≠ b5 := by have := hB2.lt; omega
 have hne3_5 : b3 ≠ b5 := by have := hB3.lt; omega
 have hlo5 := Nat.le_trans hW.size hl5
 replace hB2 := hB2.below hE
 replace hB3 := hB3.below hE
 replace hW := btr hW hE
 clear hE
 refine l_f hf rfl (ef_call (vs := [.agg #[.int .i64 (wr (x.b - x.d)), .int .i64 (wr (x.a + x.c)), .int .i64 (wr (x.b + x.d)), .int .i64 (wr (x.c - x.a))], .slice (some ⟨b5, 0, none⟩) ([x]).length 1]) hf rfl ff_242 (F242 _ (⟨wr (x.b - x.d), wr (x.a + x.c), wr (x.b + x.d), wr (x.c - x.a)⟩ : Rg) (some ⟨b5, 0, none⟩) 1 ([x]) (Rd.of_blk hB5 rfl _ hB5.lt) rfl (by simp) (by simp))) ?_; rintro a _ w4 ⟨rfl, hE⟩ hf
 replace hB2 := hB2.below hE
 replace hB3 := hB3.below hE
 replace hB5 := hB5.below hE
 replace hW := btr hW hE
 clear hE
 refine l_e hf rfl (ev_extract (vs := [.agg #[.int .i64 ((rIf1 (⟨wr (x.b - x.d), wr (x.a + x.c), wr (x.b + x.d), wr (x.c - x.a)⟩ : Rg) ([x])).a), .int .i64 ((rIf1 (⟨wr (x.b - x.d), wr (x.a + x.c), wr (x.b + x.d), wr (x.c - x.a)⟩ : Rg) ([x])).b), .int .i64 ((rIf1 (⟨wr (x.b - x.d), wr (x.a + x.c), wr (x.b + x.d), wr (x.c - x.a)⟩ : Rg) ([x])).c), .int .i64 ((rIf1 (⟨wr (x.b - x.d), wr (x.a + x.c), wr (x.b + x.d), wr (x.c - x.a)⟩ : Rg) ([x])).d)], .bool (rIf2 (⟨wr (x.b - x.d), wr (x.a + x.c), wr (x.b + x.d), wr (x.c - x.a)⟩ : Rg) ([x]))]) hf rfl rfl) ?_; intro a hf
 refine l_e hf rfl (ev_extract (vs := [.agg #[.int .i64 ((rIf1 (⟨wr (x.b - x.d), wr (x.a + x.c), wr (x.b + x.d), wr (x.c - x.a)⟩ : Rg) ([x])).a), .int .i64 ((rIf1 (⟨wr (x.b - x.d), wr (x.a + x.c), wr (x.b + x.d), wr (x.c - x.a)⟩ : Rg) ([x])).b), .int .i64 ((rIf1 (⟨wr (x.b - x.d), wr (x.a + x.c), wr (x.b + x.d), wr (x.c - x.a)⟩ : Rg) ([x])).c), .int .i64 ((rIf1 (⟨wr (x.b - x.d), wr (x.a + x.c), wr (x.b + x.d), wr (x.c - x.a)⟩ : Rg) ([x])).d)], .bool (rIf2 (⟨wr (x.b - x.d), wr (x.a + x.c), wr (x.b + x.d), wr (x.c - x.a)⟩ : Rg) ([x]))]) hf rfl rfl) ?_; intro a hf
 refine l_f0 hf (ef_store (vs := [.int .i64 ((rIf1 (⟨wr (x.b - x.d), wr (x.a + x.c), wr (x.b + x.d), wr (x.c - x.a)⟩ : Rg) ([x])).a), .int .i64 ((rIf1 (⟨wr (x.b - x.d), wr (x.a + x.c), wr (x.b + x.d), wr (x.c - x.a)⟩ : Rg) ([x])).b), .int .i64 ((rIf1 (⟨wr (x.b - x.d), wr (x.a + x.c), wr (x.b + x.d), wr (x.c - x.a)⟩ : Rg) ([x])).c), .int .i64 ((rIf1 (⟨wr (x.b - x.d), wr (x.a + x.c), wr (x.b + x.d), wr (x.c - x.a)⟩ : Rg) ([x])).d)]) (l' := [.int .i64 ((rIf1 (⟨wr (x.b - x.d), wr (x.a + x.c), wr (x.b + x.d), wr (x.c - x.a)⟩ : Rg) ([x])).a), .int .i64 ((rIf1 (⟨wr (x.b - x.d), wr (x.a + x.c), wr (x.b + x.d), wr (x.c - x.a)⟩ : Rg) ([x])).b), .int .i64 ((rIf1 (⟨wr (x.b - x.d), wr (x.a + x.c), wr (x.b + x.d), wr (x.c - x.a)⟩ : Rg) ([x])).c), .int .i64 ((rIf1 (⟨wr (x.b - x.d), wr (x.a + x.c), wr (x.b + x.d), wr (x.c - x.a)⟩ : Rg) ([x])).d)]) hf rfl rfl sz_187 hB3 rfl rfl rfl rfl rfl) ?_; rintro a _ w5 ⟨ho, hb⟩ hf
 have hold := hB3
 replace hB2 := hB2.only ho (by omega)
 replace hB5 := hB5.only ho (by omega)
 replace hW := Below.only hW ho hlo3
 clear hold
 have hB3 := hb
 clear hb ho
 refine l_as hf rfl rfl ?_; intro a hf
 refine wpList_nil ?_
 refine hK4 _ _ ?_; try clear hK4 K4
 refine wp_ret ?_
 refine c_ret hf (res2 hf rfl (ResV.cellN (l := [.int .i64 ((rIf1 (⟨wr (x.b - x.d), wr (x.a + x.c), wr (x.b + x.d), wr (x.c - x.a)⟩ : Rg) ([x])).a), .int .i64 ((rIf1 (⟨wr (x.b - x.d), wr (x.a + x.c), wr (x.b + x.d), wr (x.c - x.a)⟩ : Rg) ([x])).b), .int .i64 ((rIf1 (⟨wr (x.b - x.d), wr (x.a + x.c), wr (x.b + x.d), wr (x.c - x.a)⟩ : Rg) ([x])).c), .int .i64 ((rIf1 (⟨wr (x.b - x.d), wr (x.a + x.c), wr (x.b + x.d), wr (x.c - x.a)⟩ : Rg) ([x])).d)]) rfl tN_187 (hB3.at 0) rfl) rfl) ?_
 exact ⟨rfl, hW⟩
end Go.Proofs.YtfgnmflfiobkmaaGreat
