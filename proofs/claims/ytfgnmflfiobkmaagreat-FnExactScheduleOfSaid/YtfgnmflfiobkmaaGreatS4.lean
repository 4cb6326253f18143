/-
  What is proved: for every circuit, the program's ScheduleOf answers as the reference's does, leaves its argument as it was, and returns memory of its own. Conditions: none.
-/
import Derived.Test.YtfgnmflfiobkmaaGreatS3
import Derived.Test.YtfgnmflfiobkmaaGreatS1
set_option linter.unusedVariables false
set_option linter.unusedSimpArgs false
namespace Go.Proofs.YtfgnmflfiobkmaaGreat
open Go.RowKit
abbrev Inc (l : List Int) : Prop := l.Pairwise (· < ·)
theorem inc_ext : ∀ (l m : List Int), Inc l → Inc m → (∀ x, x ∈ l ↔ x ∈ m) → l = m
  | [], [], _, _, _ => rfl
  | [], y :: m, _, _, h => by have := (h y).2 (by simp); cases this
  | x :: l, [], _, _, h => by have := (h x).1 (by simp); cases this
  | x :: l, y :: m, hl, hm, h => by
    have hl' := List.pairwise_cons.1 hl
    have hm' := List.pairwise_cons.1 hm
    have hxy : x = y := by
      have h1 := (h x).1 (by simp)
      have h2 := (h y).2 (by simp)
      rcases List.mem_cons.1 h1 with h1 | h1
      · exact h1
      · rcases List.mem_cons.1 h2 with h2 | h2
        · exact h2.symm
        · have h3 := hm'.1 x h1
          have h4 := hl'.1 y h2
          omega
    subst hxy
    congr 1
    refine inc_ext l m hl'.2 hm'.2 fun z => ?_
    constructor
    · intro hz
      rcases List.mem_cons.1 ((h z).1 (List.mem_cons_of_mem _ hz)) with h1 | h1
      · have := hl'.1 z hz; omega
      · exact h1
    · intro hz
      rcases List.mem_cons.1 ((h z).2 (List.mem_cons_of_mem _ hz)) with h1 | h1
      · have := hm'.1 z hz; omega
      · exact h1
theorem put_mem : ∀ (l : List Int) (n x : Int), x ∈ putI l n ↔ x ∈ l ∨ x = n
  | [], n, x => by simp [putI]
  | y :: l, n, x => by
    unfold putI
    split
    · rw [List.mem_cons, put_mem l n x, List.mem_cons, or_assoc]
    · split
      · rename_i h; subst h; simp only [List.mem_cons]; constructor
        · exact .inl
        · rintro (h | h)
          · exact h
          · exact .inl h
      · simp only [List.mem_cons]; constructor
        · rintro (h | h | h)
          · exact .inr h
          · exact .inl (.inl h)
          · exact .inl (.inr h)
        · rintro ((h | h) | h)
          · exact .inr (.inl h)
          · exact .inr (.inr h)
          · exact .inl h
theorem put_inc : ∀ (l : List Int) (n : Int), Inc l → Inc (putI l n)
  | [], n, _ => by simp [putI]
  | y :: l, n, h => by
    have h' := List.pairwise_cons.1 h
    unfold putI
    split
    · rename_i h1
      refine List.pairwise_cons.2 ⟨fun z hz => ?_, put_inc l n h'.2⟩
      rcases (put_mem l n z).1 hz with h2 | h2
      · exact h'.1 z h2
      · omega
    · split
      · exact h
      · rename_i h1 h2
        refine List.pairwise_cons.2 ⟨fun z hz => ?_, h⟩
        rcases List.mem_cons.1 hz with h3 | h3
        · omega
        · have := h'.1 z h3; omega
theorem sortI_mem (l : List Int) (x : Int) : x ∈ sortI l ↔ x ∈ l := List.mem_mergeSort
theorem sortI_sorted (l : List Int) : (sortI l).Pairwise (· ≤ ·) := by
  have := List.pairwise_mergeSort (le := fun x y : Int => decide (x ≤ y)) (fun a b c h1 h2 => by simp only [decide_eq_true_eq] at *; omega) (fun a b => by simp only [Bool.or_eq_true, decide_eq_true_eq]; omega) l
  exact this.imp fun h => by simpa using h
theorem sorted_get {l : List Int} (h : l.Pairwise (· ≤ ·)) {i j : Nat} (hij : i ≤ j) (hj : j < l.length) : l[i]'(by omega) ≤ l[j] := by
  rcases Nat.lt_or_ge i j with h1 | h1
  · exact List.pairwise_iff_getElem.1 h i j (by omega) hj h1
  · obtain rfl : i = j := by omega
    exact Int.le_refl _
theorem arr_get {l : List Int} {j : Nat} (hj : j < l.length) : l.toArray[j]! = l[j] := by
  rw [getElem!_pos l.toArray j (by simpa using hj)]
  simp
theorem keeps_iff {l : List Int} {j : Nat} (hj : j < l.length) : Lib.keeps l.toArray j = true ↔ j = 0 ∨ l[j] ≠ l[j - 1] := by
  unfold Lib.keeps
  rw [decide_eq_true_eq, arr_get hj, arr_get (show j - 1 < l.length by omega)]
theorem compact_mem (l : List Int) (x : Int) : x ∈ Lib.compact l ↔ x ∈ l := by
  unfold Lib.compact Lib.compactUpTo
  rw [List.mem_map]
  constructor
  · rintro ⟨j, hj, rfl⟩
    have hj' := List.mem_range.1 (List.mem_filter.1 hj).1
    rw [arr_get hj']
    exact List.getElem_mem _
  · intro hx
    obtain ⟨j, hj, hjx⟩ := List.mem_iff_getElem.1 hx
    have key : ∀ n j, j ≤ n → (hj : j < l.length) → l[j] = x → ∃ k, ∃ hk : k < l.length, l[k] = x ∧ (k = 0 ∨ l[k] ≠ l[k - 1]) := by
      intro n
      induction n with
      | zero => intro j h0 hj hx; obtain rfl : j = 0 := by omega
                exact ⟨0, hj, hx, .inl rfl⟩
      | succ n ih =>
        intro j h0 hj hx
        by_cases h : j = 0 ∨ l[j] ≠ l[j - 1]
        · exact ⟨j, hj, hx, h⟩
        · have h1 : ¬ j = 0 := fun e => h (.inl e)
          have h2 : l[j] = l[j - 1] := Classical.byContradiction fun e => h (.inr e)
          exact ih (j - 1) (by omega) (by omega) (by rw [← h2]; exact hx)
    obtain ⟨k, hk, h1, h2⟩ := key j j (Nat.le_refl _) hj hjx
    exact ⟨k, List.mem_filter.2 ⟨List.mem_range.2 hk, (keeps_iff hk).2 h2⟩, by rw [arr_get hk]; exact h1⟩
theorem compact_inc {l : List Int} (h : l.Pairwise (· ≤ ·)) : Inc (Lib.compact l) := by
  unfold Lib.compact Lib.compactUpTo
  rw [Inc, List.pairwise_map]
  refine List.Pairwise.imp_of_mem (R := (· < ·)) (fun {i j} hi hj hij => ?_) (List.Pairwise.filter _ List.pairwise_lt_range)
  have hi' := List.mem_range.1 (List.mem_filter.1 hi).1
  have hj' := List.mem_range.1 (List.mem_filter.1 hj).1
  have hk := (keeps_iff hj').1 (List.mem_filter.1 hj).2
  rw [arr_get hi', arr_get hj']
  have h1 := sorted_get h (show i ≤ j - 1 by omega) (by omega)
  have h2 := sorted_get h (show j - 1 ≤ j by omega) hj'
  have h3 : l[j] ≠ l[j - 1] := hk.resolve_left (by omega)
  omega
theorem union_mem (p q : List Int) (x : Int) : x ∈ unionI p q ↔ x ∈ p ∨ x ∈ q := by
  unfold unionI
  rw [compact_mem, sortI_mem]
  simp
theorem union_inc (p q : List Int) : Inc (unionI p q) := compact_inc (sortI_sorted _)
theorem set_getD {l : List Int} {i j : Nat} {x : Int} (hi : i < l.length) : (l.set i x).getD j 0 = if i = j then x else l.getD j 0 := by
  rw [List.getD_eq_getElem?_getD, List.getElem?_set]
  split
  · rename_i h; subst h; simp [hi]
  · rw [List.getD_eq_getElem?_getD]
theorem numb_last {l : List Int} (hq : ∀ x ∈ l, 0 ≤ x ∧ x ≤ 4) {q : Int} (h0 : 0 ≤ q) (h4 : q ≤ 4) : ∀ k, k ≤ l.length → (numbI (l.take k)).getD q.toNat 0 = lastN l q k
  | 0, _ => by
    have : q = 0 ∨ q = 1 ∨ q = 2 ∨ q = 3 ∨ q = 4 := by omega
    rcases this with rfl | rfl | rfl | rfl | rfl <;> rfl
  | k + 1, hk => by
    have hu := List.getElem?_eq_getElem (show k < l.length by omega)
    have hb := hq _ (List.getElem_mem (show k < l.length by omega))
    rw [numb_step hu, lastN_step hu, set_getD (by rw [numb_len]; omega), numb_last hq h0 h4 k (by omega)]
    by_cases h : l[k] = q
    · rw [if_pos h, if_pos (by rw [h])]
    · rw [if_neg h, if_neg (by omega)]
theorem inc_len {l : List Int} (h : Inc l) (hq : ∀ x ∈ l, 0 ≤ x ∧ x ≤ 4) : l.length ≤ 5 := by
  have key : ∀ (l : List Int) (a : Int), Inc l → (∀ x ∈ l, a ≤ x ∧ x ≤ 4) → a ≤ 5 → (l.length : Int) ≤ 5 - a := by
    intro l
    induction l with
    | nil => intro a _ _ h; simp; omega
    | cons x l ih =>
      intro a hl hb ha
      have hl' := List.pairwise_cons.1 hl
      have hx := hb x (by simp)
      have := ih (x + 1) hl'.2 (fun y hy => ⟨by have := hl'.1 y hy; omega, (hb y (by simp [hy])).2⟩) (by omega)
      simp only [List.length_cons]
      omega
  have := key l 0 h hq (by omega)
  omega
theorem last_mem {l : List Int} {q : Int} : ∀ k, k ≤ l.length → q ∈ l.take k → ∃ j : Nat, j < k ∧ lastN l q k = (j : Int) ∧ l.getD j 0 = q
  | 0, _, h => by simp at h
  | k + 1, hk, h => by
    have hu := List.getElem?_eq_getElem (show k < l.length by omega)
    rw [lastN_step hu]
    by_cases he : l[k] = q
    · rw [if_pos he]
      exact ⟨k, by omega, rfl, by rw [List.getD_eq_getElem?_getD, hu]; exact he⟩
    · rw [if_neg he]
      rw [List.take_add_one, hu, Option.toList_some] at h
      rcases List.mem_append.1 h with h | h
      · obtain ⟨j, h1, h2, h3⟩ := last_mem k (by omega) h
        exact ⟨j, by omega, h2, h3⟩
      · exact absurd (List.mem_singleton.1 h).symm he
theorem last_full {l : List Int} {q : Int} (h : q ∈ l) : ∃ j : Nat, j < l.length ∧ lastN l q l.length = (j : Int) ∧ l.getD j 0 = q := last_mem l.length (Nat.le_refl _) (by rw [List.take_length]; exact h)
structure GoodG (us : List Int) (n : Int) (g : Gt) : Prop where
  ok : gOk n g = true
  use : ∀ x ∈ qubI g, x ∈ us
theorem map_small {us : List Int} {n : Int} {g : Gt} (hq : ∀ x ∈ us, 0 ≤ x ∧ x ≤ 4) (h : GoodG us n g) : mapG (numbI us) g = smallG us g := by
  obtain ⟨hn, hk, ha, hb⟩ := gOk_spec h.ok
  have hf : ∀ q, 0 ≤ q → q ≤ 4 → (numbI us).getD q.toNat 0 = lastN us q us.length := fun q h0 h4 => by
    have := numb_last hq h0 h4 us.length (Nat.le_refl _)
    rwa [List.take_length] at this
  unfold mapG smallG
  have hok := h.ok
  simp only [gOk, Bool.and_eq_true, inR_iff] at hok
  by_cases h12 : g.k = 12
  · have h9 : ¬ inR g.k 9 11 = true := fun e => by have := inR_iff.1 e; omega
    rw [if_pos h12] at hok
    simp only [Bool.and_eq_true, beq_iff_eq] at hok
    rw [if_pos h12, if_pos h12, if_neg h9, if_neg h9, hok.2.1, hok.2.2]
  · have ha := ha h12
    rw [if_neg h12] at hok ⊢
    rw [if_neg h12, hf g.a (by omega) (by omega)]
    by_cases h9 : inR g.k 9 11 = true
    · have hb := hb (inR_iff.1 h9)
      rw [if_pos h9, if_pos h9, hf g.b (by omega) (by omega)]
    · rw [if_neg h9, if_neg h9]
      rw [if_neg (fun e => h9 (inR_iff.2 e))] at hok
      simp only [Bool.and_eq_true, beq_iff_eq] at hok
      rw [hok.2.2]
theorem small_ok {us : List Int} {n : Int} {g : Gt} (hi : Inc us) (hq : ∀ x ∈ us, 0 ≤ x ∧ x ≤ 4) (h : GoodG us n g) : gOk (max 1 (us.length : Int)) (smallG us g) = true := by
  obtain ⟨hn, hk, ha, hb⟩ := gOk_spec h.ok
  have hl := inc_len hi hq
  have e1 : inR (max 1 (us.length : Int)) 1 5 = true := inR_iff.2 (by omega)
  have e2 : inR g.k 1 12 = true := inR_iff.2 hk
  unfold gOk smallG
  dsimp only
  rw [e1, e2]
  simp only [Bool.true_and]
  by_cases h12 : g.k = 12
  · have h9 : ¬ inR g.k 9 11 = true := fun e => by have := inR_iff.1 e; omega
    rw [if_pos h12, if_pos h12, if_neg h9]; rfl
  · have hqa : g.a ∈ us := h.use _ (by unfold qubI; rw [if_neg h12]; split <;> simp)
    obtain ⟨i, hi1, hi2, hi3⟩ := last_full hqa
    rw [if_neg h12, if_neg h12, hi2]
    have e3 : inR (i : Int) 0 (max 1 (us.length : Int) - 1) = true := inR_iff.2 (by omega)
    rw [e3]
    by_cases h9 : inR g.k 9 11 = true
    · have hqb : g.b ∈ us := h.use _ (by unfold qubI; rw [if_neg h12, if_pos h9]; simp)
      obtain ⟨j, hj1, hj2, hj3⟩ := last_full hqb
      have e4 : inR (j : Int) 0 (max 1 (us.length : Int) - 1) = true := inR_iff.2 (by omega)
      rw [if_pos h9, if_pos h9, hj2, e4]
      have hne := (hb (inR_iff.1 h9)).2.2
      have : (i : Int) ≠ j := fun e => by obtain rfl : i = j := by omega
                                          exact hne (hi3.symm.trans hj3)
      simpa using this
    · rw [if_neg h9, if_neg h9]; rfl
theorem qub_bound {n : Int} {g : Gt} (h : gOk n g = true) {x : Int} (hx : x ∈ qubI g) : 0 ≤ x ∧ x ≤ 4 := by
  obtain ⟨hn, hk, ha, hb⟩ := gOk_spec h
  unfold qubI at hx
  split at hx
  · cases hx
  · rename_i h12
    have ha := ha h12
    split at hx
    · rename_i h9
      have hb := hb (inR_iff.1 h9)
      rcases List.mem_cons.1 hx with hx | hx
      · omega
      · have := List.mem_singleton.1 hx; omega
    · have := List.mem_singleton.1 hx; omega
def smallC (l : List Gt) (us : List Int) : Cx := ⟨max 1 (us.length : Int), l.map (smallG us)⟩
def mapC (l : List Gt) (us : List Int) : Cx := ⟨max (us.length : Int) 1, mapI l (numbI us)⟩
def justS (r : Rp) : Bool × Bool := sameS (smallC r.old (usedS (r.old ++ r.new))) (smallC r.new (usedS (r.old ++ r.new)))
def justI (r : Rp) : Bool × Bool := sameI (mapC r.old (unionI (usedI r.old) (usedI r.new))) (mapC r.new (unionI (usedI r.old) (usedI r.new)))
end Go.Proofs.YtfgnmflfiobkmaaGreat
namespace Go.Proofs.YtfgnmflfiobkmaaGreat
open Go.RowKit
theorem vr_qubits {n : Int} {l : List Gt} (h : ∀ g ∈ l, gOk n g = true) : ∀ g ∈ l, (g.k ≠ 12 → 0 ≤ g.a ∧ g.a < 5) ∧ (inR g.k 9 11 = true → 0 ≤ g.b ∧ g.b < 5) := fun g hg => by
  obtain ⟨hn, hk, ha, hb⟩ := gOk_spec (h g hg)
  exact ⟨fun h1 => by have := ha h1; omega, fun h1 => by have := hb (inR_iff.1 h1); omega⟩
def implJ (n : Int) (r : Rp) : Bool × Bool := if vrI n r = true then justI r else (false, false)
def specJ (n : Int) (r : Rp) : Bool × Bool := if validS n r = true then justS r else (false, false)
def szG (l : List Gt) (left : Int) : Int := if left - (l.length : Int) < 0 then -1 else left - (l.length : Int)
def szR (r : Rp) (left : Int) : Int := if szG r.old left < 0 then -1 else if szG r.new (szG r.old left) < 0 then -1 else szG r.new (szG r.old left)
theorem szG_le {l : List Gt} {left : Int} (h : ¬ szG l left < 0) : szG l left = left - (l.length : Int) ∧ 0 ≤ left - (l.length : Int) := by
  unfold szG at *
  split
  · rename_i h1; rw [if_pos h1] at h; omega
  · exact ⟨rfl, by omega⟩
theorem set_take {α : Type} {m l : List α} {k : Nat} {u : α} (h : m.take k = l.take k) (hk : k < m.length) (hu : l[k]? = some u) : (m.set k u).take (k + 1) = l.take (k + 1) := by
  rw [List.take_add_one, List.take_add_one, hu, ← h]
  congr 1
  · rw [List.take_set_of_le (Nat.le_refl _)]
  · simp [hk]
end Go.Proofs.YtfgnmflfiobkmaaGreat
namespace Go.Proofs.YtfgnmflfiobkmaaGreat
open Go.RowKit
structure Sr where (pos : Int) (A : Option Addr) (c : Nat) (old : List Gt) (B : Option Addr) (d : Nat) (new : List Gt)
def encSr (s : Sr) : List Value := [.int .i64 s.pos, .slice s.A s.old.length s.c, .slice s.B s.new.length s.d]
abbrev Sr.rp (s : Sr) : Rp := ⟨s.pos, s.old, s.new⟩
def srZ : Sr := ⟨0, none, 0, [], none, 0, []⟩
def DeepR (w : World) (B : Nat) (E : TypeId) (l : List Sr) : Prop := ∀ s ∈ l, Rd w B E encG s.A s.old ∧ Rd w B E encG s.B s.new
def DeepX (w : World) (B : Nat) (l : List Sr) : Prop := ∀ s ∈ l, (∃ E, Rd w B E encG s.A s.old) ∧ ∃ E, Rd w B E encG s.B s.new
section
variable {w w' : World} {B : Nat} {E : TypeId} {l : List Sr}
theorem DeepR.below (h : DeepR w B E l) (hb : Below w.heap.size w w') : DeepR w' B E l := fun s hs => ⟨(h s hs).1.below hb, (h s hs).2.below hb⟩
theorem DeepR.top (h : DeepR w B E l) : DeepR w w.heap.size E l := fun s hs => ⟨(h s hs).1.top, (h s hs).2.top⟩
theorem DeepR.only {b : Nat} (h : DeepR w B E l) (ho : Only b w w') (hB : B ≤ b) : DeepR w' B E l := fun s hs => ⟨(h s hs).1.only ho hB, (h s hs).2.only ho hB⟩
theorem DeepR.onlyT {b : Nat} {T : TypeId} {lc : List Value} (h : DeepR w B E l) (ho : Only b w w') (hb : Blk w b T lc) (hT : Nat.beq E T = false) : DeepR w' B E l := fun s hs => ⟨(h s hs).1.onlyT ho hb hT, (h s hs).2.onlyT ho hb hT⟩
theorem DeepR.appB {B0 : Nat} {E' : TypeId} {sz : Nat} {α : Type} {enc : α → List Value} {A : Option Addr} {c : Nat} {m : List α} (h : DeepR w B E l) (ho : Own w B0 E' sz enc A c m) (hg : w.grownBy w' (Value.slice A m.length c).ownBlock) (hB : B ≤ B0) : DeepR w' B E l := fun s hs => ⟨(h s hs).1.appB ho hg hB, (h s hs).2.appB ho hg hB⟩
theorem DeepR.appT {B0 : Nat} {E' : TypeId} {sz : Nat} {α : Type} {enc : α → List Value} {A : Option Addr} {c : Nat} {m : List α} (h : DeepR w B E l) (ho : Own w B0 E' sz enc A c m) (hg : w.grownBy w' (Value.slice A m.length c).ownBlock) (hT : Nat.beq E' E = false) : DeepR w' B E l := fun s hs => ⟨(h s hs).1.appT ho hg hT, (h s hs).2.appT ho hg hT⟩
theorem DeepX.below (h : DeepX w B l) (hb : Below w.heap.size w w') : DeepX w' B l := fun s hs => ⟨(h s hs).1.imp fun _ k => k.below hb, (h s hs).2.imp fun _ k => k.below hb⟩
theorem DeepX.top (h : DeepX w B l) : DeepX w w.heap.size l := fun s hs => ⟨(h s hs).1.imp fun _ k => k.top, (h s hs).2.imp fun _ k => k.top⟩
theorem DeepX.only {b : Nat} (h : DeepX w B l) (ho : Only b w w') (hB : B ≤ b) : DeepX w' B l := fun s hs => ⟨(h s hs).1.imp fun _ k => k.only ho hB, (h s hs).2.imp fun _ k => k.only ho hB⟩
theorem DeepX.appB {B0 : Nat} {E' : TypeId} {sz : Nat} {α : Type} {enc : α → List Value} {A : Option Addr} {c : Nat} {m : List α} (h : DeepX w B l) (ho : Own w B0 E' sz enc A c m) (hg : w.grownBy w' (Value.slice A m.length c).ownBlock) (hB : B ≤ B0) : DeepX w' B l := fun s hs => ⟨(h s hs).1.imp fun _ k => k.appB ho hg hB, (h s hs).2.imp fun _ k => k.appB ho hg hB⟩
end
theorem DeepR.zero (w : World) (B : Nat) (E : TypeId) (n : Nat) : DeepR w B E (List.replicate n srZ) := fun s hs => by
  obtain rfl := List.eq_of_mem_replicate hs
  exact ⟨Rd.nil _ _ _ _ _, Rd.nil _ _ _ _ _⟩
theorem DeepR.set {w : World} {B : Nat} {E : TypeId} {l : List Sr} (h : DeepR w B E l) {x : Sr} (h1 : Rd w B E encG x.A x.old) (h2 : Rd w B E encG x.B x.new) (k : Nat) : DeepR w B E (l.set k x) := fun s hs => by
  rcases List.mem_or_eq_of_mem_set hs with hs | hs
  · exact h s hs
  · subst hs; exact ⟨h1, h2⟩
def cIf (c : Cx) : Option Cx := if cOk c = true then some c else none
def midC (c : Cx) (r : Rp) : Cx := ⟨c.n, c.gs.take r.pos.toNat ++ (r.new ++ (c.gs.drop (r.pos.toNat + r.old.length) ++ []))⟩
def fitI (c : Cx) (r : Rp) : Bool := cOk c && vrI c.n r && decide (r.pos + (r.old.length : Int) ≤ (c.gs.length : Int)) && decide ((c.gs.take (r.pos.toNat + r.old.length)).drop r.pos.toNat = r.old)
def applyI (c : Cx) (r : Rp) : Option Cx := if fitI c r = true then cIf (midC c r) else none
def fitS (c : Cx) (r : Rp) : Bool := validS c.n r && decide (r.pos + (r.old.length : Int) ≤ (c.gs.length : Int)) && decide ((c.gs.length : Int) - (r.old.length : Int) + (r.new.length : Int) ≤ 400)
def applyS (c : Cx) (r : Rp) : Option Cx := if fitS c r = true ∧ (c.gs.take (r.pos.toNat + r.old.length)).drop r.pos.toNat = r.old then some ⟨c.n, c.gs.take r.pos.toNat ++ r.new ++ c.gs.drop (r.pos.toNat + r.old.length)⟩ else none
def eqC (c d : Cx) : Bool := c.n == d.n && decide (c.gs = d.gs)
def checkLI (i : Nat) (c : Cx) (d : Cx) : List Rp → Int
  | [] => if eqC c d = true then 0 else (i : Int) + 1
  | r :: l => if ((applyI c r).isSome && (implJ c.n r).2 && (implJ c.n r).1) = true then checkLI (i + 1) ((applyI c r).getD ⟨0, []⟩) d l else (i : Int) + 1
def checkLS (i : Nat) (c : Cx) (d : Cx) : List Rp → Int
  | [] => if eqC c d = true then 0 else (i : Int) + 1
  | r :: l => if ((applyS c r).isSome && (justS r).1 && (justS r).2) = true then checkLS (i + 1) ((applyS c r).getD ⟨0, []⟩) d l else (i : Int) + 1
def checkI (c d : Cx) (l : List Rp) : Int × Bool := if (cOk c && decide ((l.length : Int) ≤ 400)) = true then (checkLI 0 c d l, true) else (0, false)
def checkS (c d : Cx) (l : List Rp) : Int × Bool := if (cOk c && decide ((l.length : Int) ≤ 400)) = true then (checkLS 0 c d l, true) else (0, false)
end Go.Proofs.YtfgnmflfiobkmaaGreat
namespace Go.Proofs.YtfgnmflfiobkmaaGreat
open Go.RowKit
structure Sg where (A : Option Addr) (c : Nat) (l : List Gt)
def encSg (s : Sg) : List Value := [.slice s.A s.l.length s.c]
def growRenG : Go.Shelf.Ren := ⟨fun | 4 => 153 | n => n, fun | 22 => 28 | 25 => 107 | n => n, fun | n => n⟩
abbrev cZ : Cx := ⟨0, []⟩
end Go.Proofs.YtfgnmflfiobkmaaGreat
namespace Go.Proofs.YtfgnmflfiobkmaaGreat
open Go.RowKit
def midS (c : Cx) (r : Rp) : Cx := ⟨c.n, c.gs.take r.pos.toNat ++ r.new ++ c.gs.drop (r.pos.toNat + r.old.length)⟩
theorem szG_neg {l : List Gt} {t : Int} (h : szG l t < 0) : szG l t = -1 := by
  unfold szG at *
  split <;> rename_i h1
  · rfl
  · rw [if_neg h1] at h; omega
def szF : List Sr → Int → Int
  | [], t => t
  | s :: l, t => if szR s.rp t < 0 then -1 else szF l (szR s.rp t)
def szL (l : List Sr) (t : Int) : Int := if t - (l.length : Int) < 0 then -1 else szF l (t - (l.length : Int))
def szZ (c : Cx) (l : List Sr) (d : Cx) (t : Int) : Int := if szG c.gs t < 0 then -1 else if szL l (szG c.gs t) < 0 then -1 else szG d.gs (szL l (szG c.gs t))
instance : DecidableEq Rp := fun a b => decidable_of_iff (a.pos = b.pos ∧ a.old = b.old ∧ a.new = b.new) (by cases a; cases b; simp)
end Go.Proofs.YtfgnmflfiobkmaaGreat
set_option maxRecDepth 4000
namespace Go.Proofs.YtfgnmflfiobkmaaGreat
open Go.RowKit
theorem F93 (w0 : World) (ls : List Sl) (Al : Option Addr) (cl : Nat) (hr_ls : Rd w0 w0.heap.size 36 encS Al ls) (hall : ∀ s ∈ ls, Rd w0 w0.heap.size 3 encI s.A s.l) (hln : ls.length ≤ 1000) (hsum : (ls.flatMap Sl.l).length ≤ 1000000000) : Ret Tryz.prog 93 [.slice Al ls.length cl] w0 (fun v w => ∃ A c, v = .slice A (ls.flatMap Sl.l).length c ∧ Own w w0.heap.size 3 1 encI A c (ls.flatMap Sl.l) ∧ Below w0.heap.size w0 w) := by
 refine enter Tryz.func93 rfl 36 rfl rfl ?_
 intro a hf
 have hW : Below w0.heap.size w0 w0 := Below.refl _ _
 refine wp_seq_k ?_; intro K2 hK2
 refine wp_region_lit ?_
 refine l_as hf rfl rfl ?_; intro a hf
 refine wpList_nil ?_
 refine hK2 _ _ ?_; try clear hK2 K2
 refine wp_seq_k ?_; intro K4 hK4
 refine wp_region_lit ?_
 refine l_as hf rfl rfl ?_; intro a hf
 refine wpList_nil ?_
 refine hK4 _ _ ?_; try clear hK4 K4
 refine wp_seq_k ?_; intro K5 hK5
 refine wp_seq_k ?_; intro K6 hK6
 refine wp_region_lit ?_
 refine l_mv hf rfl rfl ?_; intro a hf
 refine l_e hf rfl (ev_len hf rfl sl_108) ?_; intro a hf
 refine l_mv hf rfl rfl ?_; intro a hf
 refine wpList_nil ?_
 refine hK6 _ _ ?_; try clear hK6 K6
 refine wp_block ?_
 refine c_loop (σ := Nat) (fun (k : Nat) (a : Act) (w : World) => Fr a 36 [(0, .slice Al ls.length cl), (3, .int .i64 (((ls.take k).flatMap Sl.l).length : Int)), (9, .slice Al ls.length cl), (10, .int .i64 (ls.length : Int)), (11, .int .i64 (k : Int))] ∧ (k ≤ ls.length) ∧ Below w0.heap.size w0 w) (fun (k : Nat) => ls.length - k) 0 ?_ ?_
 · exact ⟨hf.sub ⟨rfl, rfl, rfl, rfl, rfl, trivial⟩, (Nat.zero_le _), hW⟩
 rintro k a w1 ⟨hf, hk, hW⟩
 refine wp_seq_k ?_; intro K7 hK7
 refine wp_region_lit ?_
 refine l_e hf rfl (ev_lss hf rfl rfl) ?_; intro a hf
 refine wpList_nil ?_
 refine hK7 _ _ ?_; try clear hK7 K7
 refine wp_seq_k ?_; intro K8 hK8
 refine c_if hf rfl (fun hc9 => ?_) (fun hc9 => ?_)
 ·have hc9b := hc9
  have hc9 := of_decide_eq_true hc9
  obtain ⟨u10, hu10⟩ := getElem_ex (l := ls) (k := k) (by omega)
  have hst := flat_step (f := Sl.l) hu10
  have hle := flat_le Sl.l ls (k + 1)
  rw [hst, List.length_append] at hle
  refine wp_skip ?_
  refine hK8 _ _ ?_; try clear hK8 K8
  refine wp_seq_k ?_; intro K11 hK11
  refine wp_block ?_
  refine wp_seq_k ?_; intro K12 hK12
  refine wp_region_lit ?_
  refine l_index (k := k) (u := u10) (enc := encS) (l := ls) hf trivial rfl rfl rfl sl_108 sz_36 encS_len (hr_ls.below' hW) hu10 rfl ?_; intro a p14 hat13 hf
  have hr15 : Rd w1 w0.heap.size 3 encI u10.A u10.l := (hall u10 (List.mem_of_getElem? hu10)).below' hW
  refine l_e hf rfl (ev_load1 hf rfl t1_36 hat13) ?_; intro a hf
  refine l_as hf rfl rfl ?_; intro a hf
  refine wpList_nil ?_
  refine hK12 _ _ ?_; try clear hK12 K12
  refine wp_seq_k ?_; intro K16 hK16
  refine wp_region_lit ?_
  refine l_mv hf rfl rfl ?_; intro a hf
  refine l_mv hf rfl rfl ?_; intro a hf
  refine l_e hf rfl (ev_len hf rfl sl_36) ?_; intro a hf
  refine l_e hf rfl (ev_addx hf rfl rfl (by omega) (by omega)) ?_; intro a hf
  refine l_as hf rfl rfl ?_; intro a hf
  refine wpList_nil ?_
  refine hK16 _ _ ?_; try clear hK16 K16
  refine wp_seq_k ?_; intro K17 hK17
  refine wp_region_lit ?_
  refine l_mv hf rfl rfl ?_; intro a hf
  refine l_e hf rfl (ev_lss hf rfl rfl) ?_; intro a hf
  refine wpList_nil ?_
  refine hK17 _ _ ?_; try clear hK17 K17
  refine c_if hf rfl (fun hc18 => ?_) (fun hc18 => ?_)
  ·have hc18b := hc18
   have hc18 := of_decide_eq_true hc18
   exact absurd hc18 (by omega)
  have hc18b := hc18
  have hc18 := of_decide_eq_false hc18
  refine wp_skip ?_
  refine x_norm ?_
  refine hK11 _ _ ?_; try clear hK11 K11
  refine wp_region_lit ?_
  refine l_e hf rfl (ev_addx hf rfl rfl (by omega) (by omega)) ?_; intro a hf
  refine l_mv hf rfl rfl ?_; intro a hf
  refine wpList_nil ?_
  have hjj : ((((ls.take k).flatMap Sl.l).length : Int) + (u10.l.length : Int)) = (((ls.take (k + 1)).flatMap Sl.l).length : Int) := by rw [hst, List.length_append]; omega
  rw [hjj] at hf
  refine x_thenN ?_
  exact ⟨k + 1, ⟨hf.sub ⟨rfl, rfl, rfl, rfl, rfl, trivial⟩, (by omega), hW⟩, (by omega)⟩
 have hc9b := hc9
 have hc9 := of_decide_eq_false hc9
 refine wp_exit ?_
 refine x_exS ?_
 refine x_exS ?_
 refine x_exit ?_
 refine hK5 _ _ ?_; try clear hK5 K5
 refine wp_seq_k ?_; intro K19 hK19
 refine wp_region_lit ?_
 refine l_mv hf rfl rfl ?_; intro a hf
 refine l_f hf rfl (ef_call (vs := [.slice none 0 0, .int .i64 (((ls.take k).flatMap Sl.l).length : Int)]) hf rfl ff_133 (F133 _ (((ls.take k).flatMap Sl.l).length) (by have := flat_le Sl.l ls k; omega))) ?_; rintro a _ w2 ⟨A21, c21, rfl, ho21, hE⟩ hf
 replace ho21 := ho21.lower hW.size
 replace hW := btr hW hE
 clear hE
 refine l_as hf rfl rfl ?_; intro a hf
 refine wpList_nil ?_
 refine hK19 _ _ ?_; try clear hK19 K19
 refine wp_seq_k ?_; intro K22 hK22
 refine wp_seq_k ?_; intro K23 hK23
 refine wp_region_lit ?_
 refine l_mv hf rfl rfl ?_; intro a hf
 refine l_e hf rfl (ev_len hf rfl sl_108) ?_; intro a hf
 refine l_mv hf rfl rfl ?_; intro a hf
 refine wpList_nil ?_
 refine hK23 _ _ ?_; try clear hK23 K23
 refine wp_block ?_
 refine c_loop (σ := Nat × (List Int)) (fun (s : Nat × (List Int)) (a : Act) (w : World) => match s with | (j, l) => ∃ A24 c24, Fr a 36 [(6, .slice A24 l.length c24), (25, .slice Al ls.length cl), (26, .int .i64 (ls.length : Int)), (27, .int .i64 (j : Int))] ∧ (j ≤ ls.length) ∧ (l = (ls.take j).flatMap Sl.l) ∧ Own w w0.heap.size 3 1 encI A24 c24 l ∧ Below w0.heap.size w0 w) (fun (s : Nat × (List Int)) => match s with | (j, l) => ls.length - j) (0, []) ?_ ?_
 · exact ⟨A21, c21, hf.sub ⟨rfl, rfl, rfl, rfl, trivial⟩, (Nat.zero_le _), rfl, ho21, hW⟩
 rintro ⟨j, l⟩ a w3 ⟨A24, c24, hf, hj, hl, ho24, hW⟩
 refine wp_seq_k ?_; intro K25 hK25
 refine wp_region_lit ?_
 refine l_e hf rfl (ev_lss hf rfl rfl) ?_; intro a hf
 refine wpList_nil ?_
 refine hK25 _ _ ?_; try clear hK25 K25
 refine wp_seq_k ?_; intro K26 hK26
 refine c_if hf rfl (fun hc27 => ?_) (fun hc27 => ?_)
 ·have hc27b := hc27
  have hc27 := of_decide_eq_true hc27
  obtain ⟨u28, hu28⟩ := getElem_ex (l := ls) (k := j) (by omega)
  have hst := flat_step (f := Sl.l) hu28
  have hle := flat_le Sl.l ls (j + 1)
  rw [hst, List.length_append, ← hl] at hle
  refine wp_skip ?_
  refine hK26 _ _ ?_; try clear hK26 K26
  refine wp_seq_k ?_; intro K29 hK29
  refine wp_block ?_
  refine wp_seq_k ?_; intro K30 hK30
  refine wp_region_lit ?_
  refine l_index (k := j) (u := u28) (enc := encS) (l := ls) hf trivial rfl rfl rfl sl_108 sz_36 encS_len (hr_ls.below' hW) hu28 rfl ?_; intro a p32 hat31 hf
  have hr33 : Rd w3 w0.heap.size 3 encI u28.A u28.l := (hall u28 (List.mem_of_getElem? hu28)).below' hW
  refine l_e hf rfl (ev_load1 hf rfl t1_36 hat31) ?_; intro a hf
  refine l_as hf rfl rfl ?_; intro a hf
  refine wpList_nil ?_
  refine hK30 _ _ ?_; try clear hK30 K30
  refine wp_region_lit ?_
  refine l_mv hf rfl rfl ?_; intro a hf
  refine l_mv hf rfl rfl ?_; intro a hf
  refine l_f hf rfl (ef_append (enc := encI) (l := (l)) (l2 := (u28.l)) (B0 := w0.heap.size) hf rfl rfl sl_36 inf_3 encI_len encI_one ho24 hr33 (by simp only [maxLen]; omega) (by omega) hW.size) ?_; rintro a _ w4 ⟨A34, c34, rfl, ho34, hg, hat⟩ hf
  have hown : Own _ w0.heap.size 3 1 encI _ _ (l) := ho24
  clear hat
  replace hr33 := hr33.appB hown hg (Nat.le_refl _)
  replace hW := Below.app hW hown hg (Nat.le_refl _) hW.size
  clear hown hg
  refine l_as hf rfl rfl ?_; intro a hf
  refine wpList_nil ?_
  refine x_norm ?_
  refine hK29 _ _ ?_; try clear hK29 K29
  refine wp_region_lit ?_
  refine l_e hf rfl (ev_addx hf rfl rfl (by omega) (by omega)) ?_; intro a hf
  refine l_mv hf rfl rfl ?_; intro a hf
  refine wpList_nil ?_
  refine x_thenN ?_
  exact ⟨(j + 1, l ++ u28.l), ⟨A34, c34, hf.sub ⟨rfl, rfl, rfl, rfl, trivial⟩, (by omega), (by rw [hst, hl]), ho34, hW⟩, (by first | omega | (dsimp only; omega))⟩
 have hc27b := hc27
 have hc27 := of_decide_eq_false hc27
 refine wp_exit ?_
 refine x_exS ?_
 refine x_exS ?_
 refine x_exit ?_
 refine hK22 _ _ ?_; try clear hK22 K22
 refine wp_seq_k ?_; intro K35 hK35
 refine wp_region_lit ?_
 refine l_mv hf rfl rfl ?_; intro a hf
 refine l_as hf rfl rfl ?_; intro a hf
 refine wpList_nil ?_
 refine hK35 _ _ ?_; try clear hK35 K35
 refine wp_ret ?_
 refine c_ret hf (res1 hf rfl rfl) ?_
 have hfin : l = ls.flatMap Sl.l := by rw [hl]; exact flat_full _ (by omega)
 rw [← hfin]
 exact ⟨A24, c24, rfl, ho24, hW⟩
theorem F47 (w0 : World) (Ap : Option Addr) (cp : Nat) (p : List Int) (hr_p : Rd w0 w0.heap.size 3 encI Ap p) (Aq : Option Addr) (cq : Nat) (q : List Int) (hr_q : Rd w0 w0.heap.size 3 encI Aq q) (hpl : p.length ≤ 100000000) (hql : q.length ≤ 100000000) : Ret Tryz.prog 47 [.slice Ap p.length cp, .slice Aq q.length cq] w0 (fun v w => ∃ A c, v = .slice A (unionI p q).length c ∧ Own w w0.heap.size 3 1 encI A c (unionI p q) ∧ Below w0.heap.size w0 w) := by
 refine enter Tryz.func47 rfl 14 rfl rfl ?_
 intro a hf
 have hW : Below w0.heap.size w0 w0 := Below.refl _ _
 refine wp_seq_k ?_; intro K3 hK3
 refine wp_region_lit ?_
 refine l_as hf rfl rfl ?_; intro a hf
 refine wpList_nil ?_
 refine hK3 _ _ ?_; try clear hK3 K3
 refine wp_seq_k ?_; intro K5 hK5
 refine wp_region_lit ?_
 refine l_mv hf rfl rfl ?_; intro a hf
 refine l_mv hf rfl rfl ?_; intro a hf
 refine l_f hf rfl (ef_buildSlice (k := 2) (vs := [.slice Ap p.length cp, .slice Aq q.length cq]) (zs := [.slice Ap p.length cp, .slice Aq q.length cq]) hf rfl sl_108 inf_36 rfl rfl) ?_; rintro a _ w1 ⟨b6, rfl, hl6, hE, hB6⟩ hf
 have hlo6 := Nat.le_trans hW.size hl6
 replace hW := btr hW hE
 clear hE
 refine l_f hf rfl (ef_call (vs := [.slice (some ⟨b6, 0, none⟩) ([(⟨Ap, cp, p⟩ : Sl), (⟨Aq, cq, q⟩ : Sl)]).length 2]) hf rfl ff_93 (F93 _ [(⟨Ap, cp, p⟩ : Sl), (⟨Aq, cq, q⟩ : Sl)] (some ⟨b6, 0, none⟩) 2 (Rd.of_blk hB6 rfl _ hB6.lt) (fun s hs => by rcases List.mem_cons.1 hs with rfl | hs; exact (hr_p.below' hW).top; rw [List.mem_singleton.1 hs]; exact (hr_q.below' hW).top) (by simp) (by simp; omega))) ?_; rintro a _ w2 ⟨A8, c8, rfl, ho8, hE⟩ hf
 replace ho8 := ho8.lower hW.size
 replace hB6 := hB6.below hE
 replace hW := btr hW hE
 clear hE
 refine l_as hf rfl rfl ?_; intro a hf
 refine wpList_nil ?_
 refine hK5 _ _ ?_; try clear hK5 K5
 refine wp_seq_k ?_; intro K9 hK9
 refine wp_region_lit ?_
 refine l_mv hf rfl rfl ?_; intro a hf
 refine l_f hf rfl (ef_call (vs := [.slice A8 (List.flatMap Sl.l [(⟨Ap, cp, p⟩ : Sl), (⟨Aq, cq, q⟩ : Sl)]).length c8]) hf rfl ff_94 (F94 _ w0.heap.size A8 c8 (List.flatMap Sl.l [(⟨Ap, cp, p⟩ : Sl), (⟨Aq, cq, q⟩ : Sl)]) ho8 (by simp; omega))) ?_; rintro a _ w3 ⟨hnew, hg⟩ hf
 have hown := ho8
 replace hW := Below.app hW hown hg (Nat.le_refl _) hW.size
 clear hown hg; clear ho8; have ho8 := hnew; clear hnew
 refine wpList_nil ?_
 refine hK9 _ _ ?_; try clear hK9 K9
 refine wp_seq_k ?_; intro K10 hK10
 refine wp_region_lit ?_
 refine l_mv hf rfl rfl ?_; intro a hf
 refine l_f hf rfl (ef_call (vs := [.slice A8 (List.flatMap Sl.l [(⟨Ap, cp, p⟩ : Sl), (⟨Aq, cq, q⟩ : Sl)]).length c8]) hf rfl ff_95 (F95m _ w0.heap.size A8 c8 (sortI (List.flatMap Sl.l [(⟨Ap, cp, p⟩ : Sl), (⟨Aq, cq, q⟩ : Sl)])) ((List.flatMap Sl.l [(⟨Ap, cp, p⟩ : Sl), (⟨Aq, cq, q⟩ : Sl)]).length) (by simp [sortI]) ho8 (by simp [sortI]; omega))) ?_; rintro a _ w4 ⟨rfl, hnew, hg⟩ hf
 have hown := ho8
 replace hW := Below.app hW hown hg (Nat.le_refl _) hW.size
 clear hown hg; clear ho8; have ho8 := hnew; clear hnew
 refine l_as hf rfl rfl ?_; intro a hf
 refine wpList_nil ?_
 refine hK10 _ _ ?_; try clear hK10 K10
 refine wp_ret ?_
 refine c_ret hf (res1 hf rfl rfl) ?_
 have hfin : unionI p q = Lib.compact (sortI (List.flatMap Sl.l [(⟨Ap, cp, p⟩ : Sl), (⟨Aq, cq, q⟩ : Sl)])) := by unfold unionI; congr 2
 rw [hfin]
 exact ⟨A8, c8, rfl, ho8, hW⟩
theorem F96 (w0 : World) (g : Gt) : Ret Tryz.prog 96 [.agg #[.int .i64 g.k, .int .i64 g.a, .int .i64 g.b]] w0 (fun v w => ∃ A c, v = .slice A (qubI g).length c ∧ Own w w0.heap.size 3 1 encI A c (qubI g) ∧ Below w0.heap.size w0 w) := by
 refine enter Tryz.func96 rfl 19 rfl rfl ?_
 intro a hf
 have hW : Below w0.heap.size w0 w0 := Below.refl _ _
 refine wp_seq_k ?_; intro K1 hK1
 refine wp_region_lit ?_
 refine l_f hf rfl (ef_box (zs := [.int .i64 g.k, .int .i64 g.a, .int .i64 g.b]) hf rfl rfl) ?_; rintro a _ w1 ⟨b2, rfl, hl2, hE, hB2⟩ hf
 have hlo2 := Nat.le_trans hW.size hl2
 replace hW := btr hW hE
 clear hE
 refine l_as hf rfl rfl ?_; intro a hf
 refine wpList_nil ?_
 refine hK1 _ _ ?_; try clear hK1 K1
 refine wp_seq_k ?_; intro K4 hK4
 refine wp_block ?_
 refine wp_seq_k ?_; intro K5 hK5
 refine wp_region_lit ?_
 refine l_e hf rfl (ev_fieldB hf rfl fd_107_0 (m := 0) rfl) ?_; intro a hf
 refine l_e hf rfl (ev_load1 hf rfl t1_3 (hB2.at 0)) ?_; intro a hf
 refine l_e hf rfl (ev_eql hf rfl rfl) ?_; intro a hf
 refine l_as hf rfl rfl ?_; intro a hf
 refine wpList_nil ?_
 refine hK5 _ _ ?_; try clear hK5 K5
 refine c_if hf rfl (fun hc6 => ?_) (fun hc6 => ?_)
 ·have hc6b := hc6
  have hfin : qubI g = [] := by rw [qubI, if_pos (by simpa using hc6)]
  refine wp_seq_k ?_; intro K7 hK7
  refine wp_region_lit ?_
  refine l_as hf rfl rfl ?_; intro a hf
  refine wpList_nil ?_
  refine hK7 _ _ ?_; try clear hK7 K7
  refine wp_ret ?_
  refine x_retB ?_
  refine x_retS ?_
  refine c_ret hf (res1 hf rfl rfl) ?_
  rw [hfin]
  exact ⟨none, 0, rfl, (Own.nil _ _ _ _ _), hW⟩
 have hc6b := hc6
 have h12 : ¬ g.k = 12 := by simpa using hc6
 refine wp_seq_k ?_; intro K9 hK9
 refine wp_region_lit ?_
 refine l_e hf rfl (ev_fieldB hf rfl fd_107_0 (m := 0) rfl) ?_; intro a hf
 refine l_e hf rfl (ev_load1 hf rfl t1_3 (hB2.at 0)) ?_; intro a hf
 refine l_f hf rfl (ef_call (vs := [.int .i64 g.k]) hf rfl ff_99 (F99 _ g.k)) ?_; rintro a _ _ ⟨rfl, rfl⟩ hf
 refine l_as hf rfl rfl ?_; intro a hf
 refine wpList_nil ?_
 refine hK9 _ _ ?_; try clear hK9 K9
 refine c_if hf rfl (fun hc10 => ?_) (fun hc10 => ?_)
 ·have hc10b := hc10
  have hfin : qubI g = [g.a, g.b] := by rw [qubI, if_neg h12, if_pos hc10]
  refine wp_seq_k ?_; intro K11 hK11
  refine wp_region_lit ?_
  refine l_e hf rfl (ev_fieldB hf rfl fd_107_1 (m := 1) rfl) ?_; intro a hf
  refine l_e hf rfl (ev_load1 hf rfl t1_3 (hB2.at 1)) ?_; intro a hf
  refine l_e hf rfl (ev_fieldB hf rfl fd_107_2 (m := 2) rfl) ?_; intro a hf
  refine l_e hf rfl (ev_load1 hf rfl t1_3 (hB2.at 2)) ?_; intro a hf
  refine l_f hf rfl (ef_buildSlice (k := 2) (vs := [.int .i64 g.a, .int .i64 g.b]) (zs := [.int .i64 g.a, .int .i64 g.b]) hf rfl sl_36 inf_3 rfl rfl) ?_; rintro a _ w2 ⟨b12, rfl, hl12, hE, hB12⟩ hf
  have hlo12 := Nat.le_trans hW.size hl12
  replace hB2 := hB2.below hE
  replace hW := btr hW hE
  clear hE
  refine l_as hf rfl rfl ?_; intro a hf
  refine wpList_nil ?_
  refine hK11 _ _ ?_; try clear hK11 K11
  refine wp_ret ?_
  refine x_retB ?_
  refine x_retS ?_
  refine c_ret hf (res1 hf rfl rfl) ?_
  rw [hfin]
  exact ⟨(some ⟨b12, 0, none⟩), 2, rfl, (Own.of_blkL encI_len hB12 hlo12 rfl rfl (by decide)), hW⟩
 have hc10b := hc10
 have hfin : qubI g = [g.a] := by rw [qubI, if_neg h12, if_neg (by rw [hc10]; simp)]
 refine wp_skip ?_
 refine x_norm ?_
 refine hK4 _ _ ?_; try clear hK4 K4
 refine wp_seq_k ?_; intro K14 hK14
 refine wp_region_lit ?_
 refine l_e hf rfl (ev_fieldB hf rfl fd_107_1 (m := 1) rfl) ?_; intro a hf
 refine l_e hf rfl (ev_load1 hf rfl t1_3 (hB2.at 1)) ?_; intro a hf
 refine l_f hf rfl (ef_buildSlice (k := 1) (vs := [.int .i64 g.a]) (zs := [.int .i64 g.a]) hf rfl sl_36 inf_3 rfl rfl) ?_; rintro a _ w3 ⟨b15, rfl, hl15, hE, hB15⟩ hf
 have hlo15 := Nat.le_trans hW.size hl15
 replace hB2 := hB2.below hE
 replace hW := btr hW hE
 clear hE
 refine l_as hf rfl rfl ?_; intro a hf
 refine wpList_nil ?_
 refine hK14 _ _ ?_; try clear hK14 K14
 refine wp_ret ?_
 refine c_ret hf (res1 hf rfl rfl) ?_
 rw [hfin]
 exact ⟨(some ⟨b15, 0, none⟩), 1, rfl, (Own.of_blkL encI_len hB15 hlo15 rfl rfl (by decide)), hW⟩
end Go.Proofs.YtfgnmflfiobkmaaGreat
set_option maxRecDepth 4000
namespace Go.Proofs.YtfgnmflfiobkmaaGreat
open Go.RowKit
theorem F51 (w0 : World) (Al : Option Addr) (cl : Nat) (l : List Gt) (hr_l : Rd w0 w0.heap.size 107 encG Al l) (Ato : Option Addr) (cto : Nat) (to : List Int) (hr_to : Rd w0 w0.heap.size 3 encI Ato to) (hq : ∀ g ∈ l, (g.k ≠ 12 → 0 ≤ g.a ∧ g.a < 5) ∧ (inR g.k 9 11 = true → 0 ≤ g.b ∧ g.b < 5)) (hto : to.length = 5) (hln : l.length ≤ 1000000) : Ret Tryz.prog 51 [.slice Al l.length cl, .slice Ato to.length cto] w0 (fun v w => ∃ A c, v = .slice A (mapI l to).length c ∧ Own w w0.heap.size 107 3 encG A c (mapI l to) ∧ Below w0.heap.size w0 w) := by
 refine enter Tryz.func51 rfl 39 rfl rfl ?_
 intro a hf
 have hW : Below w0.heap.size w0 w0 := Below.refl _ _
 refine wp_seq_k ?_; intro K3 hK3
 refine wp_region_lit ?_
 refine l_as hf rfl rfl ?_; intro a hf
 refine wpList_nil ?_
 refine hK3 _ _ ?_; try clear hK3 K3
 refine wp_seq_k ?_; intro K5 hK5
 refine wp_region_lit ?_
 refine l_f hf rfl (ef_buildSlice (k := 0) (vs := []) (zs := []) hf rfl sl_28 inf_107 rfl rfl) ?_; rintro a _ w1 ⟨b6, rfl, hl6, hE, hB6⟩ hf
 have hlo6 := Nat.le_trans hW.size hl6
 have haw1_6 := (hr_l.below' hW).away hl6
 replace hW := btr hW hE
 clear hE
 refine l_as hf rfl rfl ?_; intro a hf
 refine wpList_nil ?_
 refine hK5 _ _ ?_; try clear hK5 K5
 refine wp_seq_k ?_; intro K8 hK8
 refine wp_seq_k ?_; intro K9 hK9
 refine wp_region_lit ?_
 refine l_mv hf rfl rfl ?_; intro a hf
 refine l_e hf rfl (ev_len hf rfl sl_28) ?_; intro a hf
 refine l_mv hf rfl rfl ?_; intro a hf
 refine wpList_nil ?_
 refine hK9 _ _ ?_; try clear hK9 K9
 refine wp_block ?_
 refine c_loop (σ := Nat × (List Gt)) (fun (s : Nat × (List Gt)) (a : Act) (w : World) => match s with | (k, m) => ∃ A10 c10, Fr a 39 [(1, .slice Ato to.length cto), (5, .slice A10 m.length c10), (9, .slice Al l.length cl), (10, .int .i64 (l.length : Int)), (11, .int .i64 (k : Int))] ∧ (k ≤ l.length) ∧ (m = (l.take k).map (mapG to)) ∧ Own w w0.heap.size 107 3 encG A10 c10 m ∧ Below w0.heap.size w0 w) (fun (s : Nat × (List Gt)) => match s with | (k, m) => l.length - k) (0, []) ?_ ?_
 · exact ⟨some ⟨b6, 0, none⟩, 0, hf.sub ⟨rfl, rfl, rfl, rfl, rfl, trivial⟩, (Nat.zero_le _), rfl, (Own.empty hB6 hlo6), hW⟩
 rintro ⟨k, m⟩ a w2 ⟨A10, c10, hf, hk, hm, ho10, hW⟩
 have hml : m.length = k := by rw [hm, List.length_map, List.length_take, Nat.min_eq_left hk]
 refine wp_seq_k ?_; intro K11 hK11
 refine wp_region_lit ?_
 refine l_e hf rfl (ev_lss hf rfl rfl) ?_; intro a hf
 refine wpList_nil ?_
 refine hK11 _ _ ?_; try clear hK11 K11
 refine wp_seq_k ?_; intro K12 hK12
 refine c_if hf rfl (fun hc13 => ?_) (fun hc13 => ?_)
 ·have hc13b := hc13
  have hc13 := of_decide_eq_true hc13
  obtain ⟨u14, hu14⟩ := getElem_ex (l := l) (k := k) (by omega)
  have hb := hq u14 (List.mem_of_getElem? hu14)
  have hst := map_step (f := mapG to) hu14
  refine wp_skip ?_
  refine hK12 _ _ ?_; try clear hK12 K12
  refine wp_seq_k ?_; intro K15 hK15
  refine wp_block ?_
  refine wp_seq_k ?_; intro K16 hK16
  refine wp_region_lit ?_
  refine l_index (k := k) (u := u14) (enc := encG) (l := l) hf trivial rfl rfl rfl sl_28 sz_107 encG_len (hr_l.below' hW) hu14 rfl ?_; intro a p18 hat17 hf
  refine l_e hf rfl (ev_loadN (l := [.int .i64 u14.k, .int .i64 u14.a, .int .i64 u14.b]) hf rfl tN_107 hat17 rfl) ?_; intro a hf
  refine l_f hf rfl (ef_alloc (zs := [.int .i64 0, .int .i64 0, .int .i64 0]) z_107 rfl) ?_; rintro a _ w3 ⟨b19, rfl, hl19, hE, hB19⟩ hf
  have hlo19 := Nat.le_trans hW.size hl19
  have haw10_19 := ho10.away hl19
  have haw1_19 := (hr_l.below' hW).away hl19
  replace ho10 := ho10.below hE
  replace hW := btr hW hE
  clear hE
  refine l_f0 hf (ef_store (vs := [.int .i64 u14.k, .int .i64 u14.a, .int .i64 u14.b]) (l' := [.int .i64 u14.k, .int .i64 u14.a, .int .i64 u14.b]) hf rfl rfl sz_107 hB19 rfl rfl rfl rfl rfl) ?_; rintro a _ w4 ⟨ho, hb⟩ hf
  have hold := hB19
  replace ho10 := ho10.onlyA ho haw10_19
  replace hW := Below.only hW ho hlo19
  clear hold
  have hB19 := hb
  clear hb ho
  refine wpList_nil ?_
  refine hK16 _ _ ?_; try clear hK16 K16
  refine wp_seq_k ?_; intro K20 hK20
  refine wp_seq_k ?_; intro K21 hK21
  refine wp_region_lit ?_
  refine l_e hf rfl (ev_fieldB hf rfl fd_107_0 (m := 0) rfl) ?_; intro a hf
  refine l_e hf rfl (ev_load1 hf rfl t1_3 (hB19.at 0)) ?_; intro a hf
  refine l_e hf rfl (ev_neq hf rfl rfl) ?_; intro a hf
  refine wpList_nil ?_
  refine hK21 _ _ ?_; try clear hK21 K21
  refine c_if hf rfl (fun hc22 => ?_) (fun hc22 => ?_)
  ·have hc22b := hc22
   have h12 : ¬ u14.k = 12 := by simpa using hc22
   have ha := hb.1 h12
   refine wp_region_lit ?_
   refine l_mv hf rfl rfl ?_; intro a hf
   refine l_e hf rfl (ev_fieldB hf rfl fd_107_1 (m := 1) rfl) ?_; intro a hf
   refine l_e hf rfl (ev_load1 hf rfl t1_3 (hB19.at 1)) ?_; intro a hf
   refine l_index (k := u14.a.toNat) (u := (to.getD u14.a.toNat 0)) (enc := encI) (l := to) hf trivial rfl rfl rfl sl_36 sz_3 encI_len (hr_to.below' hW) (getD_get (by omega)) (by omega) ?_; intro a p24 hat23 hf
   refine l_e hf rfl (ev_load1 hf rfl t1_3 hat23) ?_; intro a hf
   refine l_e hf rfl (ev_fieldB hf rfl fd_107_1 (m := 1) rfl) ?_; intro a hf
   refine l_f0 hf (ef_store (vs := [.int .i64 (to.getD u14.a.toNat 0)]) (l' := [.int .i64 u14.k, .int .i64 (to.getD u14.a.toNat 0), .int .i64 u14.b]) hf rfl rfl sz_3 hB19 rfl rfl rfl rfl rfl) ?_; rintro a _ w5 ⟨ho, hb⟩ hf
   have hold := hB19
   replace ho10 := ho10.onlyA ho haw10_19
   replace hW := Below.only hW ho hlo19
   clear hold
   have hB19 := hb
   clear hb ho
   refine wpList_nil ?_
   refine hK20 _ _ ?_; try clear hK20 K20
   refine wp_seq_k ?_; intro K25 hK25
   refine wp_seq_k ?_; intro K26 hK26
   refine wp_region_lit ?_
   refine l_e hf rfl (ev_fieldB hf rfl fd_107_0 (m := 0) rfl) ?_; intro a hf
   refine l_e hf rfl (ev_load1 hf rfl t1_3 (hB19.at 0)) ?_; intro a hf
   refine l_f hf rfl (ef_call (vs := [.int .i64 u14.k]) hf rfl ff_99 (F99 _ u14.k)) ?_; rintro a _ _ ⟨rfl, rfl⟩ hf
   refine wpList_nil ?_
   refine hK26 _ _ ?_; try clear hK26 K26
   refine c_if hf rfl (fun hc27 => ?_) (fun hc27 => ?_)
   ·have hc27b := hc27
    have h9 : inR u14.k 9 11 = true := hc27
    have hb2 := hb.2 h9
    have hmg : mapG to u14 = ⟨u14.k, to.getD u14.a.toNat 0, to.getD u14.b.toNat 0⟩ := by rw [mapG, if_neg h12, if_pos h9]
    refine wp_region_lit ?_
    refine l_mv hf rfl rfl ?_; intro a hf
    refine l_e hf rfl (ev_fieldB hf rfl fd_107_2 (m := 2) rfl) ?_; intro a hf
    refine l_e hf rfl (ev_load1 hf rfl t1_3 (hB19.at 2)) ?_; intro a hf
    refine l_index (k := u14.b.toNat) (u := (to.getD u14.b.toNat 0)) (enc := encI) (l := to) hf trivial rfl rfl rfl sl_36 sz_3 encI_len (hr_to.below' hW) (getD_get (by omega)) (by omega) ?_; intro a p29 hat28 hf
    refine l_e hf rfl (ev_load1 hf rfl t1_3 hat28) ?_; intro a hf
    refine l_e hf rfl (ev_fieldB hf rfl fd_107_2 (m := 2) rfl) ?_; intro a hf
    refine l_f0 hf (ef_store (vs := [.int .i64 (to.getD u14.b.toNat 0)]) (l' := [.int .i64 u14.k, .int .i64 (to.getD u14.a.toNat 0), .int .i64 (to.getD u14.b.toNat 0)]) hf rfl rfl sz_3 hB19 rfl rfl rfl rfl rfl) ?_; rintro a _ w6 ⟨ho, hb⟩ hf
    have hold := hB19
    replace ho10 := ho10.onlyA ho haw10_19
    replace hW := Below.only hW ho hlo19
    clear hold
    have hB19 := hb
    clear hb ho
    refine wpList_nil ?_
    refine hK25 _ _ ?_; try clear hK25 K25
    refine wp_region_lit ?_
    refine l_mv hf rfl rfl ?_; intro a hf
    refine l_e hf rfl (ev_loadN (l := [.int .i64 u14.k, .int .i64 (to.getD u14.a.toNat 0), .int .i64 (to.getD u14.b.toNat 0)]) hf rfl tN_107 (hB19.at 0) rfl) ?_; intro a hf
    refine l_f hf rfl (ef_buildSlice (k := 1) (vs := [.agg #[.int .i64 u14.k, .int .i64 (to.getD u14.a.toNat 0), .int .i64 (to.getD u14.b.toNat 0)]]) (zs := [.int .i64 u14.k, .int .i64 (to.getD u14.a.toNat 0), .int .i64 (to.getD u14.b.toNat 0)]) hf rfl sl_28 inf_107 rfl rfl) ?_; rintro a _ w7 ⟨b30, rfl, hl30, hE, hB30⟩ hf
    have hne19_30 : b19 ≠ b30 := by have := hB19.lt; omega
    have hlo30 := Nat.le_trans hW.size hl30
    have haw10_30 := ho10.away hl30
    have haw1_30 := (hr_l.below' hW).away hl30
    replace hB19 := hB19.below hE
    replace ho10 := ho10.below hE
    replace hW := btr hW hE
    clear hE
    refine l_f hf rfl (ef_append (enc := encG) (l := (m)) (l2 := ([(⟨u14.k, (to.getD u14.a.toNat 0), (to.getD u14.b.toNat 0)⟩ : Gt)])) (B0 := w0.heap.size) hf rfl rfl sl_28 inf_107 encG_len encG_one ho10 (Rd.of_blk hB30 rfl _ hB30.lt) (by simp only [maxLen]; simp; omega) (by simp; omega) hW.size) ?_; rintro a _ w8 ⟨A32, c32, rfl, ho32, hg, hat⟩ hf
    have hown : Own _ w0.heap.size 107 3 encG _ _ (m) := ho10
    have haw32_19 := hat _ hB19.lt haw10_19
    have haw32_30 := hat _ hB30.lt haw10_30
    clear hat
    replace hB19 := hB19.appA hg haw10_19
    replace hW := Below.app hW hown hg (Nat.le_refl _) hW.size
    clear hown hg
    refine l_as hf rfl rfl ?_; intro a hf
    refine wpList_nil ?_
    refine x_norm ?_
    refine hK15 _ _ ?_; try clear hK15 K15
    refine wp_region_lit ?_
    refine l_e hf rfl (ev_addx hf rfl rfl (by omega) (by omega)) ?_; intro a hf
    refine l_mv hf rfl rfl ?_; intro a hf
    refine wpList_nil ?_
    rw [hmg] at hst
    refine x_thenN ?_
    exact ⟨(k + 1, m ++ [(⟨u14.k, (to.getD u14.a.toNat 0), (to.getD u14.b.toNat 0)⟩ : Gt)]), ⟨A32, c32, hf.sub ⟨rfl, rfl, rfl, rfl, rfl, trivial⟩, (by omega), (by rw [hst, hm]), ho32, hW⟩, (by first | omega | (dsimp only; omega))⟩
   have hc27b := hc27
   have h9 : ¬ inR u14.k 9 11 = true := by rw [hc27]; simp
   have hmg : mapG to u14 = ⟨u14.k, to.getD u14.a.toNat 0, u14.b⟩ := by rw [mapG, if_neg h12, if_neg h9]
   refine wp_skip ?_
   refine hK25 _ _ ?_; try clear hK25 K25
   refine wp_region_lit ?_
   refine l_mv hf rfl rfl ?_; intro a hf
   refine l_e hf rfl (ev_loadN (l := [.int .i64 u14.k, .int .i64 (to.getD u14.a.toNat 0), .int .i64 u14.b]) hf rfl tN_107 (hB19.at 0) rfl) ?_; intro a hf
   refine l_f hf rfl (ef_buildSlice (k := 1) (vs := [.agg #[.int .i64 u14.k, .int .i64 (to.getD u14.a.toNat 0), .int .i64 u14.b]]) (zs := [.int .i64 u14.k, .int .i64 (to.getD u14.a.toNat 0), .int .i64 u14.b]) hf rfl sl_28 inf_107 rfl rfl) ?_; rintro a _ w9 ⟨b33, rfl, hl33, hE, hB33⟩ hf
   have hne19_33 : b19 ≠ b33 := by have := hB19.lt; omega
   have hlo33 := Nat.le_trans hW.size hl33
   have haw10_33 := ho10.away hl33
   have haw1_33 := (hr_l.below' hW).away hl33
   replace hB19 := hB19.below hE
   replace ho10 := ho10.below hE
   replace hW := btr hW hE
   clear hE
   refine l_f hf rfl (ef_append (enc := encG) (l := (m)) (l2 := ([(⟨u14.k, (to.getD u14.a.toNat 0), u14.b⟩ : Gt)])) (B0 := w0.heap.size) hf rfl rfl sl_28 inf_107 encG_len encG_one ho10 (Rd.of_blk hB33 rfl _ hB33.lt) (by simp only [maxLen]; simp; omega) (by simp; omega) hW.size) ?_; rintro a _ w10 ⟨A35, c35, rfl, ho35, hg, hat⟩ hf
   have hown : Own _ w0.heap.size 107 3 encG _ _ (m) := ho10
   have haw35_19 := hat _ hB19.lt haw10_19
   have haw35_33 := hat _ hB33.lt haw10_33
   clear hat
   replace hB19 := hB19.appA hg haw10_19
   replace hW := Below.app hW hown hg (Nat.le_refl _) hW.size
   clear hown hg
   refine l_as hf rfl rfl ?_; intro a hf
   refine wpList_nil ?_
   refine x_norm ?_
   refine hK15 _ _ ?_; try clear hK15 K15
   refine wp_region_lit ?_
   refine l_e hf rfl (ev_addx hf rfl rfl (by omega) (by omega)) ?_; intro a hf
   refine l_mv hf rfl rfl ?_; intro a hf
   refine wpList_nil ?_
   rw [hmg] at hst
   refine x_thenN ?_
   exact ⟨(k + 1, m ++ [(⟨u14.k, (to.getD u14.a.toNat 0), u14.b⟩ : Gt)]), ⟨A35, c35, hf.sub ⟨rfl, rfl, rfl, rfl, rfl, trivial⟩, (by omega), (by rw [hst, hm]), ho35, hW⟩, (by first | omega | (dsimp only; omega))⟩
  have hc22b := hc22
  have h12 : u14.k = 12 := by simpa using hc22
  refine wp_skip ?_
  refine hK20 _ _ ?_; try clear hK20 K20
  refine wp_seq_k ?_; intro K36 hK36
  refine wp_seq_k ?_; intro K37 hK37
  refine wp_region_lit ?_
  refine l_e hf rfl (ev_fieldB hf rfl fd_107_0 (m := 0) rfl) ?_; intro a hf
  refine l_e hf rfl (ev_load1 hf rfl t1_3 (hB19.at 0)) ?_; intro a hf
  refine l_f hf rfl (ef_call (vs := [.int .i64 u14.k]) hf rfl ff_99 (F99 _ u14.k)) ?_; rintro a _ _ ⟨rfl, rfl⟩ hf
  refine wpList_nil ?_
  refine hK37 _ _ ?_; try clear hK37 K37
  refine c_if hf rfl (fun hc38 => ?_) (fun hc38 => ?_)
  ·have hc38b := hc38
   exact absurd (inR_iff.1 hc38) (by omega)
  have hc38b := hc38
  have h9 : ¬ inR u14.k 9 11 = true := by rw [hc38]; simp
  have hmg : mapG to u14 = u14 := by rw [mapG, if_pos h12, if_neg h9]
  refine wp_skip ?_
  refine hK36 _ _ ?_; try clear hK36 K36
  refine wp_region_lit ?_
  refine l_mv hf rfl rfl ?_; intro a hf
  refine l_e hf rfl (ev_loadN (l := [.int .i64 u14.k, .int .i64 u14.a, .int .i64 u14.b]) hf rfl tN_107 (hB19.at 0) rfl) ?_; intro a hf
  refine l_f hf rfl (ef_buildSlice (k := 1) (vs := [.agg #[.int .i64 u14.k, .int .i64 u14.a, .int .i64 u14.b]]) (zs := [.int .i64 u14.k, .int .i64 u14.a, .int .i64 u14.b]) hf rfl sl_28 inf_107 rfl rfl) ?_; rintro a _ w11 ⟨b39, rfl, hl39, hE, hB39⟩ hf
  have hne19_39 : b19 ≠ b39 := by have := hB19.lt; omega
  have hlo39 := Nat.le_trans hW.size hl39
  have haw10_39 := ho10.away hl39
  have haw1_39 := (hr_l.below' hW).away hl39
  replace hB19 := hB19.below hE
  replace ho10 := ho10.below hE
  replace hW := btr hW hE
  clear hE
  refine l_f hf rfl (ef_append (enc := encG) (l := (m)) (l2 := ([u14])) (B0 := w0.heap.size) hf rfl rfl sl_28 inf_107 encG_len encG_one ho10 (Rd.of_blk hB39 rfl _ hB39.lt) (by simp only [maxLen]; simp; omega) (by simp; omega) hW.size) ?_; rintro a _ w12 ⟨A41, c41, rfl, ho41, hg, hat⟩ hf
  have hown : Own _ w0.heap.size 107 3 encG _ _ (m) := ho10
  have haw41_19 := hat _ hB19.lt haw10_19
  have haw41_39 := hat _ hB39.lt haw10_39
  clear hat
  replace hB19 := hB19.appA hg haw10_19
  replace hW := Below.app hW hown hg (Nat.le_refl _) hW.size
  clear hown hg
  refine l_as hf rfl rfl ?_; intro a hf
  refine wpList_nil ?_
  refine x_norm ?_
  refine hK15 _ _ ?_; try clear hK15 K15
  refine wp_region_lit ?_
  refine l_e hf rfl (ev_addx hf rfl rfl (by omega) (by omega)) ?_; intro a hf
  refine l_mv hf rfl rfl ?_; intro a hf
  refine wpList_nil ?_
  rw [hmg] at hst
  refine x_thenN ?_
  exact ⟨(k + 1, m ++ [u14]), ⟨A41, c41, hf.sub ⟨rfl, rfl, rfl, rfl, rfl, trivial⟩, (by omega), (by rw [hst, hm]), ho41, hW⟩, (by first | omega | (dsimp only; omega))⟩
 have hc13b := hc13
 have hc13 := of_decide_eq_false hc13
 refine wp_exit ?_
 refine x_exS ?_
 refine x_exS ?_
 refine x_exit ?_
 refine hK8 _ _ ?_; try clear hK8 K8
 refine wp_seq_k ?_; intro K42 hK42
 refine wp_region_lit ?_
 refine l_mv hf rfl rfl ?_; intro a hf
 refine l_as hf rfl rfl ?_; intro a hf
 refine wpList_nil ?_
 refine hK42 _ _ ?_; try clear hK42 K42
 refine wp_ret ?_
 refine c_ret hf (res1 hf rfl rfl) ?_
 have hfin : mapI l to = m := by rw [hm, List.take_of_length_le (by omega)]; rfl
 rw [hfin]
 exact ⟨A10, c10, rfl, ho10, hW⟩
end Go.Proofs.YtfgnmflfiobkmaaGreat
set_option maxRecDepth 4000
namespace Go.Proofs.YtfgnmflfiobkmaaGreat
open Go.RowKit
theorem F137 (w0 : World) (c : Cx) (Ac : Option Addr) (cc : Nat) (hr_c : Rd w0 w0.heap.size 107 encG Ac c.gs) (m : Mx) (Am : Option Addr) (cm : Nat) (hr_m : Rd w0 w0.heap.size 189 encD Am m.cells) (hc : cOk c = true) (hm : mOk m = true) (hr : m.rows = ((2 ^ c.n.toNat : Nat) : Int)) : Ret Tryz.prog 137 [.agg #[.int .i64 c.n, .slice Ac c.gs.length cc], .agg #[.int .i64 m.rows, .int .i64 m.cols, .slice Am m.cells.length cm], .bool true] w0 (fun v w => ∃ A c1, v = .tuple #[mV A c1 ((applI c.n c.gs m).getD mZ), .bool (applI c.n c.gs m).isSome] ∧ Rd w w.heap.size 189 encD A ((applI c.n c.gs m).getD mZ).cells ∧ Below w0.heap.size w0 w) := by
 obtain ⟨hn, hlen, hgs⟩ := cOk_spec hc
 refine enter Tryz.func137 rfl 40 rfl rfl ?_
 intro a hf
 have hW : Below w0.heap.size w0 w0 := Below.refl _ _
 refine wp_seq_k ?_; intro K3 hK3
 refine wp_region_lit ?_
 refine l_f hf rfl (ef_box (zs := [.int .i64 c.n, .slice Ac c.gs.length cc]) hf rfl rfl) ?_; rintro a _ w1 ⟨b4, rfl, hl4, hE, hB4⟩ hf
 have hlo4 := Nat.le_trans hW.size hl4
 replace hW := btr hW hE
 clear hE
 refine l_f hf rfl (ef_box (zs := [.int .i64 m.rows, .int .i64 m.cols, .slice Am m.cells.length cm]) hf rfl rfl) ?_; rintro a _ w2 ⟨b5, rfl, hl5, hE, hB5⟩ hf
 have hlo5 := Nat.le_trans hW.size hl5
 replace hB4 := hB4.below hE
 replace hW := btr hW hE
 clear hE
 refine l_f hf rfl (ef_alloc (zs := [.int .i64 0, .int .i64 0, .slice none 0 0]) z_141 rfl) ?_; rintro a _ w3 ⟨b7, rfl, hl7, hE, hB7⟩ hf
 have hne5_7 : b5 ≠ b7 := by have := hB5.lt; omega
 have hlo7 := Nat.le_trans hW.size hl7
 replace hB4 := hB4.below hE
 replace hB5 := hB5.below hE
 replace hW := btr hW hE
 clear hE
 refine l_as hf rfl rfl ?_; intro a hf
 refine wpList_nil ?_
 refine hK3 _ _ ?_; try clear hK3 K3
 refine wp_seq_k ?_; intro K8 hK8
 refine wp_seq_k ?_; intro K9 hK9
 refine wp_region_lit ?_
 refine l_as hf rfl rfl ?_; intro a hf
 refine wpList_nil ?_
 refine hK9 _ _ ?_; try clear hK9 K9
 refine wp_block ?_
 refine c_loop (σ := Nat × Mx × Bool) (fun (s : Nat × Mx × Bool) (a : Act) (w : World) => match s with | (i, x, b) => ∃ A10 c10, Fr a 40 [(2, .bool b), (3, .pointer (some ⟨b4, 0, none⟩)), (4, .pointer (some ⟨b5, 0, none⟩)), (6, .pointer (some ⟨b7, 0, none⟩)), (8, .int .i64 (i : Int))] ∧ ((if b = true then applI c.n (c.gs.drop i) x else none) = (applI c.n c.gs m)) ∧ (b = false → x = mZ) ∧ (b = true → mOk x = true ∧ x.rows = ((2 ^ c.n.toNat : Nat) : Int)) ∧ (i ≤ c.gs.length) ∧ Blk w b4 41 [.int .i64 c.n, .slice Ac c.gs.length cc] ∧ Blk w b5 141 [.int .i64 x.rows, .int .i64 x.cols, .slice A10 x.cells.length c10] ∧ Blk w b7 141 [.int .i64 0, .int .i64 0, .slice none 0 0] ∧ Rd w w.heap.size 189 encD A10 x.cells ∧ Below w0.heap.size w0 w) (fun (s : Nat × Mx × Bool) => match s with | (i, x, b) => c.gs.length - i) (0, m, true) ?_ ?_
 · exact ⟨Am, cm, hf.sub ⟨rfl, rfl, rfl, rfl, rfl, trivial⟩, rfl, (by simp), (fun _ => ⟨hm, hr⟩), (Nat.zero_le _), hB4, hB5, hB7, (hr_m.below' hW).top, hW⟩
 rintro ⟨i, x, b⟩ a w4 ⟨A10, c10, hf, hinv, hz, hok, hi, hB4, hB5, hB7, hr10, hW⟩
 refine wp_seq_k ?_; intro K11 hK11
 refine wp_seq_k ?_; intro K12 hK12
 refine c_cut (fun a w => Fr a 40 [(2, .bool b), (3, .pointer (some ⟨b4, 0, none⟩)), (4, .pointer (some ⟨b5, 0, none⟩)), (6, .pointer (some ⟨b7, 0, none⟩)), (8, .int .i64 (i : Int)), (18, .bool ((decide ((i : Int) < (c.gs.length : Int))) && b))] ∧ w4 = w) ?_ ?_
 ·refine wp_region_lit ?_
  refine l_mv hf rfl rfl ?_; intro a hf
  refine l_e hf rfl (ev_fieldB hf rfl fd_41_1 (m := 1) rfl) ?_; intro a hf
  refine l_e hf rfl (ev_load1 hf rfl t1_28 (hB4.at 1)) ?_; intro a hf
  refine l_e hf rfl (ev_len hf rfl sl_28) ?_; intro a hf
  refine l_e hf rfl (ev_lss hf rfl rfl) ?_; intro a hf
  refine l_mv hf rfl rfl ?_; intro a hf
  refine g_split hf (t := 16) rfl (fun hg13 => ?_) (fun hg13 => ?_)
  ·refine l_ev hf ⟨_, _, rfl, rfl, hg13⟩ rfl rfl (ev_move hf rfl) ?_; intro a hf
   refine l_e hf rfl (ev_pickT hf rfl hg13 rfl) ?_; intro a hf
   refine wpList_nil ?_
   exact ⟨hf.sub ⟨rfl, rfl, rfl, rfl, rfl, look_bool rfl (by first | rfl | (simp only [hg13, Bool.true_and, Bool.false_and, Bool.true_or, Bool.false_or]; done) | simp [hg13]), trivial⟩, rfl⟩
  refine l_pass hf ⟨_, _, rfl, rfl, hg13⟩ rfl rfl ?_; intro a hf
  refine l_e hf rfl (ev_pickF hf rfl hg13 rfl) ?_; intro a hf
  refine wpList_nil ?_
  exact ⟨hf.sub ⟨rfl, rfl, rfl, rfl, rfl, look_bool rfl (by first | rfl | (simp only [hg13, Bool.true_and, Bool.false_and, Bool.true_or, Bool.false_or]; done) | simp [hg13]), trivial⟩, rfl⟩
 rintro a _ ⟨hf, rfl⟩
 refine hK12 _ _ ?_; try clear hK12 K12
 refine c_if hf rfl (fun hc14 => ?_) (fun hc14 => ?_)
 ·have hc14b := hc14
  have hlt : (i : Int) < c.gs.length ∧ b = true := by simpa using hc14
  have hb1 := hlt.2
  obtain ⟨u, hu⟩ := getElem_ex (l := c.gs) (k := i) (by omega)
  have hgu := hgs u (List.mem_of_getElem? hu)
  obtain ⟨hg1, hg2⟩ := gate_eq hgu
  have hma := mul_agree hg2 (hok hb1).1 (by rw [(hok hb1).2]; rfl)
  have hdr := drop_get hu
  refine wp_skip ?_
  refine hK11 _ _ ?_; try clear hK11 K11
  refine wp_seq_k ?_; intro K15 hK15
  refine wp_block ?_
  refine wp_seq_k ?_; intro K16 hK16
  refine c_cut (fun a w => ∃ b21 A19 c19, Fr a 40 [(3, .pointer (some ⟨b4, 0, none⟩)), (4, .pointer (some ⟨b5, 0, none⟩)), (6, .pointer (some ⟨b7, 0, none⟩)), (8, .int .i64 (i : Int)), (9, .pointer (some ⟨b21, 0, none⟩))] ∧ w0.heap.size ≤ b21 ∧ Blk w b21 141 [.int .i64 (((gateI c.n u).getD mZ).rows), .int .i64 (((gateI c.n u).getD mZ).cols), .slice A19 (((gateI c.n u).getD mZ).cells).length c19] ∧ b5 ≠ b21 ∧ b7 ≠ b21 ∧ Own w w0.heap.size 189 5 encD A19 c19 (((gateI c.n u).getD mZ).cells) ∧ Below w4.heap.size w4 w) ?_ ?_
  ·have hEc : Below w4.heap.size w4 w4 := Below.refl _ _
   refine wp_draw none (fun j => [12].contains j) mixed ?_
   intro w5 hE
   replace hB4 := hB4.below hE
   replace hB5 := hB5.below hE
   replace hB7 := hB7.below hE
   replace hr10 := hr10.below hE
   replace hW := btr hW hE
   replace hEc := btr hEc hE
   clear hE
   refine s_e0 0 rfl (by kernel_rfl) hf rfl (fun _ => ev_fieldB hf rfl fd_41_0 (m := 0) rfl) ?_; intro a hf
   refine s_e 1 rfl (by kernel_rfl) (by kernel_rfl) hf rfl (ev_load1 hf rfl t1_3 (hB4.at 0)) ?_; intro a hf
   refine s_e0 2 rfl (by kernel_rfl) hf rfl (fun _ => ev_fieldB hf rfl fd_41_1 (m := 1) rfl) ?_; intro a hf
   refine s_e 3 rfl (by kernel_rfl) (by kernel_rfl) hf rfl (ev_load1 hf rfl t1_28 (hB4.at 1)) ?_; intro a hf
   refine s_e0 4 rfl (by kernel_rfl) hf rfl (fun _ => ev_move hf rfl) ?_; intro a hf
   refine s_index (k := i) (u := u) (enc := encG) (l := c.gs) 5 rfl (by kernel_rfl) (by kernel_rfl) hf trivial rfl rfl rfl sl_28 sz_107 encG_len (hr_c.below' hW) hu rfl ?_; intro a p18 hat17 hf
   refine s_e 6 rfl (by kernel_rfl) (by kernel_rfl) hf rfl (ev_loadN (l := [.int .i64 u.k, .int .i64 u.a, .int .i64 u.b]) hf rfl tN_107 hat17 rfl) ?_; intro a hf
   have hJc : Below w5.heap.size w5 w5 := Below.refl _ _
   refine s_cut [0, 1, 2, 3, 4, 5, 6, 7, 8, 9, 10, 11] 2 (fun a w => ∃ b21 A19 c19, Fr a 40 [(3, .pointer (some ⟨b4, 0, none⟩)), (4, .pointer (some ⟨b5, 0, none⟩)), (6, .pointer (some ⟨b7, 0, none⟩)), (8, .int .i64 (i : Int)), (9, .pointer (some ⟨b21, 0, none⟩)), (30, .agg #[.int .i64 (((gateI c.n u).getD mZ).rows), .int .i64 (((gateI c.n u).getD mZ).cols), .slice A19 (((gateI c.n u).getD mZ).cells).length c19]), (31, .bool ((gateI c.n u).isSome))] ∧ w0.heap.size ≤ b21 ∧ Blk w b21 141 [.int .i64 0, .int .i64 0, .slice none 0 0] ∧ b5 ≠ b21 ∧ b7 ≠ b21 ∧ w5.heap.size ≤ b21 ∧ w4.heap.size ≤ b21 ∧ Own w w0.heap.size 189 5 encD A19 c19 (((gateI c.n u).getD mZ).cells) ∧ Below w5.heap.size w5 w) ?_ ?_
   ·rintro a w6 ⟨b21, A19, c19, hf, hlo21, hB21, hne5_21, hne7_21, hlj21, hlc21, ho19, hE⟩
    clear hJc
    have hJc := hE
    replace hB4 := hB4.below hE
    replace hB5 := hB5.below hE
    replace hB7 := hB7.below hE
    replace hr10 := hr10.below hE
    replace hW := btr hW hE
    replace hEc := btr hEc hE
    clear hE
    refine s_one 12 (by kernel_rfl) ?_
    refine p_eff0 rfl hf trivial rfl (Ef.mono (ef_store (vs := [.int .i64 (((gateI c.n u).getD mZ).rows), .int .i64 (((gateI c.n u).getD mZ).cols), .slice A19 (((gateI c.n u).getD mZ).cells).length c19]) (l' := [.int .i64 (((gateI c.n u).getD mZ).rows), .int .i64 (((gateI c.n u).getD mZ).cols), .slice A19 (((gateI c.n u).getD mZ).cells).length c19]) hf rfl rfl sz_141 hB21 rfl rfl rfl rfl rfl) (fun _ _ h => ⟨fun h0 => absurd h0 (by decide), h⟩)) ?_; rintro a _ w7 ⟨ho, hb⟩ hf
    have hold := hB21
    replace hB4 := hB4.only ho (Blk.ne hB4 hold rfl)
    replace hB5 := hB5.only ho (by omega)
    replace hB7 := hB7.only ho (by omega)
    replace hr10 := hr10.onlyT ho hold rfl
    replace ho19 := ho19.onlyT ho hold rfl
    replace hEc := Below.only hEc ho hlc21
    replace hJc := Below.only hJc ho hlj21
    replace hW := Below.only hW ho hlo21
    clear hold
    have hB21 := hb
    clear hb ho
    refine s_e0 13 rfl (by kernel_rfl) hf rfl (fun _ => ev_assign hf rfl) ?_; intro a hf
    refine s_done (by kernel_rfl) ?_
    have hEE : Below w4.heap.size w4 w7 := hEc
    exact ⟨b21, A19, c19, hf.sub ⟨rfl, rfl, rfl, rfl, rfl, trivial⟩, hlo21, hB21, hne5_21, hne7_21, ho19, hEE⟩
   intro hJ19
   refine s_two 7 11 (by kernel_rfl) ?_ ?_
   ·refine p_eff rfl hf trivial rfl rfl (Ef.mono (ef_call (vs := [.int .i64 c.n, .agg #[.int .i64 u.k, .int .i64 u.a, .int .i64 u.b]]) hf rfl ff_188 (F188 _ c.n u)) (fun _ _ h => ⟨fun _ => by obtain ⟨A21, c21, rfl, ho21, hE⟩ := h; exact hE, h⟩)) ?_; rintro a _ w8 ⟨A21, c21, rfl, ho21, hE⟩ hf
    replace ho21 := ho21.lower hW.size
    replace hB4 := hB4.below hE
    replace hB5 := hB5.below hE
    replace hB7 := hB7.below hE
    replace hr10 := hr10.below hE
    replace hW := btr hW hE
    replace hEc := btr hEc hE
    replace hJc := btr hJc hE
    clear hE
    refine s_e0 8 rfl (by kernel_rfl) hf rfl (fun _ => ev_move hf rfl) ?_; intro a hf
    refine s_e0 9 rfl (by kernel_rfl) hf rfl (fun _ => ev_extract (vs := [.agg #[.int .i64 (((gateI c.n u).getD mZ).rows), .int .i64 (((gateI c.n u).getD mZ).cols), .slice A21 (((gateI c.n u).getD mZ).cells).length c21], .bool ((gateI c.n u).isSome)]) hf rfl rfl) ?_; intro a hf
    refine s_e0 10 rfl (by kernel_rfl) hf rfl (fun _ => ev_extract (vs := [.agg #[.int .i64 (((gateI c.n u).getD mZ).rows), .int .i64 (((gateI c.n u).getD mZ).cols), .slice A21 (((gateI c.n u).getD mZ).cells).length c21], .bool ((gateI c.n u).isSome)]) hf rfl rfl) ?_; intro a hf
    refine s_one 11 (by kernel_rfl) ?_
    refine p_eff rfl hf trivial rfl rfl (Ef.mono (ef_alloc (zs := [.int .i64 0, .int .i64 0, .slice none 0 0]) z_141 rfl) (fun _ _ h => ⟨fun _ => by obtain ⟨_, _, _, hE, _⟩ := h; exact hE, h⟩)) ?_; rintro a _ w9 ⟨b23, rfl, hl23, hE, hB23⟩ hf
    have hne5_23 : b5 ≠ b23 := by have := hB5.lt; omega
    have hne7_23 : b7 ≠ b23 := by have := hB7.lt; omega
    have hlo23 := Nat.le_trans hW.size hl23
    have hlc23 := Nat.le_trans hEc.size hl23
    have hlj23 := Nat.le_trans hJc.size hl23
    replace hB4 := hB4.below hE
    replace hB5 := hB5.below hE
    replace hB7 := hB7.below hE
    replace hr10 := hr10.below hE
    replace ho21 := ho21.below hE
    replace hW := btr hW hE
    replace hEc := btr hEc hE
    replace hJc := btr hJc hE
    clear hE
    exact hJ19 _ _ _ rfl ⟨b23, A21, c21, hf.sub ⟨rfl, rfl, rfl, rfl, rfl, rfl, rfl, trivial⟩, hlo23, hB23, hne5_23, hne7_23, hlj23, hlc23, ho21, hJc⟩
   refine p_eff rfl hf trivial rfl rfl (Ef.mono (ef_alloc (zs := [.int .i64 0, .int .i64 0, .slice none 0 0]) z_141 rfl) (fun _ _ h => ⟨fun _ => by obtain ⟨_, _, _, hE, _⟩ := h; exact hE, h⟩)) ?_; rintro a _ w10 ⟨b25, rfl, hl25, hE, hB25⟩ hf
   have hne5_25 : b5 ≠ b25 := by have := hB5.lt; omega
   have hne7_25 : b7 ≠ b25 := by have := hB7.lt; omega
   have hlo25 := Nat.le_trans hW.size hl25
   have hlc25 := Nat.le_trans hEc.size hl25
   have hlj25 := Nat.le_trans hJc.size hl25
   replace hB4 := hB4.below hE
   replace hB5 := hB5.below hE
   replace hB7 := hB7.below hE
   replace hr10 := hr10.below hE
   replace hW := btr hW hE
   replace hEc := btr hEc hE
   replace hJc := btr hJc hE
   clear hE
   refine s_one 7 (by kernel_rfl) ?_
   refine p_eff rfl hf trivial rfl rfl (Ef.mono (ef_call (vs := [.int .i64 c.n, .agg #[.int .i64 u.k, .int .i64 u.a, .int .i64 u.b]]) hf rfl ff_188 (F188 _ c.n u)) (fun _ _ h => ⟨fun _ => by obtain ⟨A26, c26, rfl, ho26, hE⟩ := h; exact hE, h⟩)) ?_; rintro a _ w11 ⟨A26, c26, rfl, ho26, hE⟩ hf
   replace ho26 := ho26.lower hW.size
   replace hB4 := hB4.below hE
   replace hB5 := hB5.below hE
   replace hB7 := hB7.below hE
   replace hB25 := hB25.below hE
   replace hr10 := hr10.below hE
   replace hW := btr hW hE
   replace hEc := btr hEc hE
   replace hJc := btr hJc hE
   clear hE
   refine s_e0 8 rfl (by kernel_rfl) hf rfl (fun _ => ev_move hf rfl) ?_; intro a hf
   refine s_e0 9 rfl (by kernel_rfl) hf rfl (fun _ => ev_extract (vs := [.agg #[.int .i64 (((gateI c.n u).getD mZ).rows), .int .i64 (((gateI c.n u).getD mZ).cols), .slice A26 (((gateI c.n u).getD mZ).cells).length c26], .bool ((gateI c.n u).isSome)]) hf rfl rfl) ?_; intro a hf
   refine s_e0 10 rfl (by kernel_rfl) hf rfl (fun _ => ev_extract (vs := [.agg #[.int .i64 (((gateI c.n u).getD mZ).rows), .int .i64 (((gateI c.n u).getD mZ).cols), .slice A26 (((gateI c.n u).getD mZ).cells).length c26], .bool ((gateI c.n u).isSome)]) hf rfl rfl) ?_; intro a hf
   exact hJ19 _ _ _ rfl ⟨b25, A26, c26, hf.sub ⟨rfl, rfl, rfl, rfl, rfl, rfl, rfl, trivial⟩, hlo25, hB25, hne5_25, hne7_25, hlj25, hlc25, ho26, hJc⟩
  rintro a w12 ⟨b21, A19, c19, hf, hlo21, hB21, hne5_21, hne7_21, ho19, hE⟩
  replace hB4 := hB4.below hE
  replace hB5 := hB5.below hE
  replace hB7 := hB7.below hE
  replace hr10 := hr10.below hE
  replace hW := btr hW hE
  clear hE
  refine hK16 _ _ ?_; try clear hK16 K16
  refine wp_region_lit ?_
  refine l_e hf rfl (ev_loadN (l := [.int .i64 (((gateI c.n u).getD mZ).rows), .int .i64 (((gateI c.n u).getD mZ).cols), .slice A19 (((gateI c.n u).getD mZ).cells).length c19]) hf rfl tN_141 (hB21.at 0) rfl) ?_; intro a hf
  refine l_e hf rfl (ev_loadN (l := [.int .i64 x.rows, .int .i64 x.cols, .slice A10 x.cells.length c10]) hf rfl tN_141 (hB5.at 0) rfl) ?_; intro a hf
  refine l_f hf rfl (ef_call (vs := [.agg #[.int .i64 (((gateI c.n u).getD mZ).rows), .int .i64 (((gateI c.n u).getD mZ).cols), .slice A19 (((gateI c.n u).getD mZ).cells).length c19], .agg #[.int .i64 x.rows, .int .i64 x.cols, .slice A10 x.cells.length c10]]) hf rfl ff_189 (F189 _ ((gateI c.n u).getD mZ) A19 c19 ho19.rd.top x A10 c10 hr10.top (by rw [hg1, Option.getD_some]; exact gate_len hn) (mOk_le (hok hb1).1))) ?_; rintro a _ w13 ⟨A27, c27, rfl, ho27, hE⟩ hf
  replace ho27 := ho27.lower hW.size
  replace hB4 := hB4.below hE
  replace hB5 := hB5.below hE
  replace hB7 := hB7.below hE
  replace hB21 := hB21.below hE
  replace hr10 := hr10.below hE
  replace ho19 := ho19.below hE
  replace hW := btr hW hE
  clear hE
  refine l_mv hf rfl rfl ?_; intro a hf
  refine l_e hf rfl (ev_extract (vs := [.agg #[.int .i64 (((mulI ((gateI c.n u).getD mZ) x).getD mZ).rows), .int .i64 (((mulI ((gateI c.n u).getD mZ) x).getD mZ).cols), .slice A27 (((mulI ((gateI c.n u).getD mZ) x).getD mZ).cells).length c27], .bool ((mulI ((gateI c.n u).getD mZ) x).isSome)]) hf rfl rfl) ?_; intro a hf
  refine l_e hf rfl (ev_extract (vs := [.agg #[.int .i64 (((mulI ((gateI c.n u).getD mZ) x).getD mZ).rows), .int .i64 (((mulI ((gateI c.n u).getD mZ) x).getD mZ).cols), .slice A27 (((mulI ((gateI c.n u).getD mZ) x).getD mZ).cells).length c27], .bool ((mulI ((gateI c.n u).getD mZ) x).isSome)]) hf rfl rfl) ?_; intro a hf
  refine l_f0 hf (ef_store (vs := [.int .i64 (((mulI ((gateI c.n u).getD mZ) x).getD mZ).rows), .int .i64 (((mulI ((gateI c.n u).getD mZ) x).getD mZ).cols), .slice A27 (((mulI ((gateI c.n u).getD mZ) x).getD mZ).cells).length c27]) (l' := [.int .i64 (((mulI ((gateI c.n u).getD mZ) x).getD mZ).rows), .int .i64 (((mulI ((gateI c.n u).getD mZ) x).getD mZ).cols), .slice A27 (((mulI ((gateI c.n u).getD mZ) x).getD mZ).cells).length c27]) hf rfl rfl sz_141 hB5 rfl rfl rfl rfl rfl) ?_; rintro a _ w14 ⟨ho, hb⟩ hf
  have hold := hB5
  replace hB4 := hB4.only ho (Blk.ne hB4 hold rfl)
  replace hB7 := hB7.only ho (by omega)
  replace hB21 := hB21.only ho (by omega)
  replace hr10 := hr10.onlyT ho hold rfl
  replace ho19 := ho19.onlyT ho hold rfl
  replace ho27 := ho27.onlyT ho hold rfl
  replace hW := Below.only hW ho hlo5
  clear hold
  have hB5 := hb
  clear hb ho
  refine l_as hf rfl rfl ?_; intro a hf
  refine wpList_nil ?_
  refine x_norm ?_
  refine hK15 _ _ ?_; try clear hK15 K15
  refine wp_region_lit ?_
  refine l_mv hf rfl rfl ?_; intro a hf
  refine l_e hf rfl (ev_addx hf rfl rfl (by omega) (by omega)) ?_; intro a hf
  refine l_as hf rfl rfl ?_; intro a hf
  refine wpList_nil ?_
  refine x_thenN ?_
  exact ⟨(i + 1, ((mulI ((gateI c.n u).getD mZ) x).getD mZ), (mulI ((gateI c.n u).getD mZ) x).isSome), ⟨A27, c27, hf.sub ⟨rfl, rfl, rfl, rfl, rfl, trivial⟩, (by rw [← hinv, if_pos hb1, hdr, applI]; cases mulI ((gateI c.n u).getD mZ) x <;> rfl), (by cases mulI ((gateI c.n u).getD mZ) x <;> simp), (by rw [hg1, Option.getD_some]; intro h0; cases h1 : mulI (gateS c.n u) x with | none => rw [h1] at h0; cases h0 | some x1 => exact ⟨(hma.1 x1 h1).2.1, by rw [Option.getD_some, (hma.1 x1 h1).2.2.1]; rfl⟩), (by omega), hB4, hB5, hB7, ho27.rd, hW⟩, (by first | omega | (dsimp only; omega))⟩
 have hc14b := hc14
 have hend : b = true → ¬ (i : Int) < c.gs.length := by intro h0; subst h0; simpa using hc14
 refine wp_exit ?_
 refine x_exS ?_
 refine x_exS ?_
 refine x_exit ?_
 refine hK8 _ _ ?_; try clear hK8 K8
 refine wp_seq_k ?_; intro K28 hK28
 refine wp_region_lit ?_
 refine l_e hf rfl (ev_loadN (l := [.int .i64 x.rows, .int .i64 x.cols, .slice A10 x.cells.length c10]) hf rfl tN_141 (hB5.at 0) rfl) ?_; intro a hf
 refine l_mv hf rfl rfl ?_; intro a hf
 refine l_f0 hf (ef_store (vs := [.int .i64 x.rows, .int .i64 x.cols, .slice A10 x.cells.length c10]) (l' := [.int .i64 x.rows, .int .i64 x.cols, .slice A10 x.cells.length c10]) hf rfl rfl sz_141 hB7 rfl rfl rfl rfl rfl) ?_; rintro a _ w15 ⟨ho, hb⟩ hf
 have hold := hB7
 replace hB4 := hB4.only ho (Blk.ne hB4 hold rfl)
 replace hB5 := hB5.only ho (by omega)
 replace hr10 := hr10.onlyT ho hold rfl
 replace hW := Below.only hW ho hlo7
 clear hold
 have hB7 := hb
 clear hb ho
 refine l_as hf rfl rfl ?_; intro a hf
 refine wpList_nil ?_
 refine hK28 _ _ ?_; try clear hK28 K28
 refine wp_ret ?_
 refine c_ret hf (res2 hf rfl (ResV.cellN (l := [.int .i64 x.rows, .int .i64 x.cols, .slice A10 x.cells.length c10]) rfl tN_141 (hB7.at 0) rfl) rfl) ?_
 have hfin : applI c.n c.gs m = if b = true then some x else none := by rw [← hinv]; cases b with | false => rfl | true => rw [if_pos rfl, if_pos rfl, List.drop_of_length_le (by have := hend rfl; omega)]; rfl
 have h1 : (applI c.n c.gs m).getD mZ = x := by rw [hfin]; cases b with | false => exact (hz rfl).symm | true => rfl
 have h2 : (applI c.n c.gs m).isSome = b := by rw [hfin]; cases b <;> rfl
 rw [h1, h2]
 exact ⟨A10, c10, rfl, hr10.top, hW⟩
end Go.Proofs.YtfgnmflfiobkmaaGreat
set_option maxRecDepth 4000
namespace Go.Proofs.YtfgnmflfiobkmaaGreat
open Go.RowKit
theorem F136u (w0 : World) (d : Nat) (h : isDimB (d : Int) = true) : Ret Tryz.prog 136 [.int .i64 (d : Int)] w0 (fun v w => ∃ A c, v = .tuple #[mV A c (unitS d), .bool true] ∧ Own w w0.heap.size 189 5 encD A c (unitS d).cells ∧ Below w0.heap.size w0 w) := by
 have h1 := F136 w0 (d : Int)
 rw [(idI_unit h).1] at h1
 exact h1
theorem F97 (w0 : World) (c : Cx) (Ac : Option Addr) (cc : Nat) (hr_c : Rd w0 w0.heap.size 107 encG Ac c.gs) (hlc : c.gs.length ≤ 2305843009213693951) : Ret Tryz.prog 97 [.agg #[.int .i64 c.n, .slice Ac c.gs.length cc]] w0 (fun v w => ∃ A c1, v = .tuple #[mV A c1 ((opI c).getD mZ), .bool (opI c).isSome] ∧ Rd w w.heap.size 189 encD A ((opI c).getD mZ).cells ∧ Below w0.heap.size w0 w) := by
 refine enter Tryz.func97 rfl 23 rfl rfl ?_
 intro a hf
 have hW : Below w0.heap.size w0 w0 := Below.refl _ _
 refine wp_seq_k ?_; intro K2 hK2
 refine wp_region_lit ?_
 refine l_f hf rfl (ef_box (zs := [.int .i64 c.n, .slice Ac c.gs.length cc]) hf rfl rfl) ?_; rintro a _ w1 ⟨b3, rfl, hl3, hE, hB3⟩ hf
 have hlo3 := Nat.le_trans hW.size hl3
 replace hW := btr hW hE
 clear hE
 refine l_f hf rfl (ef_alloc (zs := [.int .i64 0, .int .i64 0, .slice none 0 0]) z_141 rfl) ?_; rintro a _ w2 ⟨b5, rfl, hl5, hE, hB5⟩ hf
 have hlo5 := Nat.le_trans hW.size hl5
 replace hB3 := hB3.below hE
 replace hW := btr hW hE
 clear hE
 refine l_as hf rfl rfl ?_; intro a hf
 refine wpList_nil ?_
 refine hK2 _ _ ?_; try clear hK2 K2
 refine wp_seq_k ?_; intro K6 hK6
 refine wp_seq_k ?_; intro K7 hK7
 refine wp_region_lit ?_
 refine l_e hf rfl (ev_loadN (l := [.int .i64 c.n, .slice Ac c.gs.length cc]) hf rfl tN_41 (hB3.at 0) rfl) ?_; intro a hf
 refine l_f hf rfl (ef_call (vs := [.agg #[.int .i64 c.n, .slice Ac c.gs.length cc]]) hf rfl ff_55 (F55 _ c Ac cc (hr_c.below' hW).top hlc)) ?_; rintro a _ w3 ⟨rfl, hE⟩ hf
 replace hB3 := hB3.below hE
 replace hB5 := hB5.below hE
 replace hW := btr hW hE
 clear hE
 refine l_e hf rfl (ev_not hf rfl) ?_; intro a hf
 refine wpList_nil ?_
 refine hK7 _ _ ?_; try clear hK7 K7
 refine c_if hf rfl (fun hc8 => ?_) (fun hc8 => ?_)
 ·have hc8b := hc8
  have hn : ¬ cOk c = true := by revert hc8; cases cOk c <;> simp
  refine wp_seq_k ?_; intro K9 hK9
  refine wp_region_lit ?_
  refine l_e hf rfl (ev_build (ps := []) (cs := [.int .i64 0, .int .i64 0, .slice none 0 0]) hf rfl (fun _ => by first | rfl | kernel_rfl)) ?_; intro a hf
  refine l_f0 hf (ef_store (vs := [.int .i64 0, .int .i64 0, .slice none 0 0]) (l' := [.int .i64 0, .int .i64 0, .slice none 0 0]) hf rfl rfl sz_141 hB5 rfl rfl rfl rfl rfl) ?_; rintro a _ w4 ⟨ho, hb⟩ hf
  have hold := hB5
  replace hB3 := hB3.only ho (Blk.ne hB3 hold rfl)
  replace hW := Below.only hW ho hlo5
  clear hold
  have hB5 := hb
  clear hb ho
  refine l_as hf rfl rfl ?_; intro a hf
  refine wpList_nil ?_
  refine hK9 _ _ ?_; try clear hK9 K9
  refine wp_ret ?_
  refine x_retS ?_
  refine c_ret hf (res2 hf rfl (ResV.cellN (l := [.int .i64 0, .int .i64 0, .slice none 0 0]) rfl tN_141 (hB5.at 0) rfl) rfl) ?_
  have hfin : opI c = none := by rw [opI, if_neg hn]
  rw [hfin]
  exact ⟨none, 0, rfl, (Rd.nil _ 0 _ _ _).top, hW⟩
 have hc8b := hc8
 have hc : cOk c = true := by revert hc8; cases cOk c <;> simp
 obtain ⟨hn, hlen, hgs⟩ := cOk_spec hc
 obtain ⟨d, hd⟩ : ∃ d : Nat, d = 2 ^ c.n.toNat := ⟨_, rfl⟩
 refine wp_skip ?_
 refine hK6 _ _ ?_; try clear hK6 K6
 refine wp_seq_k ?_; intro K11 hK11
 refine wp_region_lit ?_
 refine l_e hf rfl (ev_fieldB hf rfl fd_41_0 (m := 0) rfl) ?_; intro a hf
 refine l_e hf rfl (ev_load1 hf rfl t1_3 (hB3.at 0)) ?_; intro a hf
 refine l_e hf rfl (ev_shl1 (m := c.n.toNat) (D := d) hf rfl rfl (by omega) ⟨hd, by omega⟩) ?_; intro a hf
 refine l_f hf rfl (ef_call (vs := [.int .i64 (d : Int)]) hf rfl ff_136 (F136u _ d (by rw [hd]; exact isDim_pow hn))) ?_; rintro a _ w5 ⟨A12, c12, rfl, ho12, hE⟩ hf
 replace ho12 := ho12.lower hW.size
 replace hB3 := hB3.below hE
 replace hB5 := hB5.below hE
 replace hW := btr hW hE
 clear hE
 refine l_mv hf rfl rfl ?_; intro a hf
 refine l_e hf rfl (ev_extract (vs := [.agg #[.int .i64 ((unitS d).rows), .int .i64 ((unitS d).cols), .slice A12 ((unitS d).cells).length c12], .bool true]) hf rfl rfl) ?_; intro a hf
 refine l_e hf rfl (ev_extract (vs := [.agg #[.int .i64 ((unitS d).rows), .int .i64 ((unitS d).cols), .slice A12 ((unitS d).cells).length c12], .bool true]) hf rfl rfl) ?_; intro a hf
 refine l_f hf rfl (ef_alloc (zs := [.int .i64 0, .int .i64 0, .slice none 0 0]) z_141 rfl) ?_; rintro a _ w6 ⟨b14, rfl, hl14, hE, hB14⟩ hf
 have hne5_14 : b5 ≠ b14 := by have := hB5.lt; omega
 have hlo14 := Nat.le_trans hW.size hl14
 replace hB3 := hB3.below hE
 replace hB5 := hB5.below hE
 replace ho12 := ho12.below hE
 replace hW := btr hW hE
 clear hE
 refine l_f0 hf (ef_store (vs := [.int .i64 ((unitS d).rows), .int .i64 ((unitS d).cols), .slice A12 ((unitS d).cells).length c12]) (l' := [.int .i64 ((unitS d).rows), .int .i64 ((unitS d).cols), .slice A12 ((unitS d).cells).length c12]) hf rfl rfl sz_141 hB14 rfl rfl rfl rfl rfl) ?_; rintro a _ w7 ⟨ho, hb⟩ hf
 have hold := hB14
 replace hB3 := hB3.only ho (Blk.ne hB3 hold rfl)
 replace hB5 := hB5.only ho (by omega)
 replace ho12 := ho12.onlyT ho hold rfl
 replace hW := Below.only hW ho hlo14
 clear hold
 have hB14 := hb
 clear hb ho
 refine l_as hf rfl rfl ?_; intro a hf
 refine wpList_nil ?_
 refine hK11 _ _ ?_; try clear hK11 K11
 refine wp_seq_k ?_; intro K15 hK15
 refine wp_region_lit ?_
 refine l_e hf rfl (ev_loadN (l := [.int .i64 c.n, .slice Ac c.gs.length cc]) hf rfl tN_41 (hB3.at 0) rfl) ?_; intro a hf
 refine l_e hf rfl (ev_loadN (l := [.int .i64 ((unitS d).rows), .int .i64 ((unitS d).cols), .slice A12 ((unitS d).cells).length c12]) hf rfl tN_141 (hB14.at 0) rfl) ?_; intro a hf
 refine l_mv hf rfl rfl ?_; intro a hf
 refine l_f hf rfl (ef_call (vs := [.agg #[.int .i64 c.n, .slice Ac c.gs.length cc], .agg #[.int .i64 ((unitS d).rows), .int .i64 ((unitS d).cols), .slice A12 ((unitS d).cells).length c12], .bool true]) hf rfl ff_137 (F137 _ c Ac cc (hr_c.below' hW).top (unitS d) A12 c12 ho12.rd.top hc (idI_unit (by rw [hd]; exact isDim_pow hn)).2 (by rw [← hd]; rfl))) ?_; rintro a _ w8 ⟨A16, c16, rfl, hr16, hE⟩ hf
 replace hB3 := hB3.below hE
 replace hB5 := hB5.below hE
 replace hB14 := hB14.below hE
 replace ho12 := ho12.below hE
 replace hW := btr hW hE
 clear hE
 refine l_e hf rfl (ev_extract (vs := [.agg #[.int .i64 (((applI c.n c.gs (unitS d)).getD mZ).rows), .int .i64 (((applI c.n c.gs (unitS d)).getD mZ).cols), .slice A16 (((applI c.n c.gs (unitS d)).getD mZ).cells).length c16], .bool ((applI c.n c.gs (unitS d)).isSome)]) hf rfl rfl) ?_; intro a hf
 refine l_e hf rfl (ev_extract (vs := [.agg #[.int .i64 (((applI c.n c.gs (unitS d)).getD mZ).rows), .int .i64 (((applI c.n c.gs (unitS d)).getD mZ).cols), .slice A16 (((applI c.n c.gs (unitS d)).getD mZ).cells).length c16], .bool ((applI c.n c.gs (unitS d)).isSome)]) hf rfl rfl) ?_; intro a hf
 refine l_f0 hf (ef_store (vs := [.int .i64 (((applI c.n c.gs (unitS d)).getD mZ).rows), .int .i64 (((applI c.n c.gs (unitS d)).getD mZ).cols), .slice A16 (((applI c.n c.gs (unitS d)).getD mZ).cells).length c16]) (l' := [.int .i64 (((applI c.n c.gs (unitS d)).getD mZ).rows), .int .i64 (((applI c.n c.gs (unitS d)).getD mZ).cols), .slice A16 (((applI c.n c.gs (unitS d)).getD mZ).cells).length c16]) hf rfl rfl sz_141 hB5 rfl rfl rfl rfl rfl) ?_; rintro a _ w9 ⟨ho, hb⟩ hf
 have hold := hB5
 replace hB3 := hB3.only ho (Blk.ne hB3 hold rfl)
 replace hB14 := hB14.only ho (by omega)
 replace ho12 := ho12.onlyT ho hold rfl
 replace hr16 := hr16.onlyT ho hold rfl
 replace hW := Below.only hW ho hlo5
 clear hold
 have hB5 := hb
 clear hb ho
 refine l_as hf rfl rfl ?_; intro a hf
 refine wpList_nil ?_
 refine hK15 _ _ ?_; try clear hK15 K15
 refine wp_ret ?_
 refine c_ret hf (res2 hf rfl (ResV.cellN (l := [.int .i64 (((applI c.n c.gs (unitS d)).getD mZ).rows), .int .i64 (((applI c.n c.gs (unitS d)).getD mZ).cols), .slice A16 (((applI c.n c.gs (unitS d)).getD mZ).cells).length c16]) rfl tN_141 (hB5.at 0) rfl) rfl) ?_
 have hfin : opI c = applI c.n c.gs (unitS d) := by rw [opI, if_pos hc, ← hd, (idI_unit (by rw [hd]; exact isDim_pow hn)).1]; rfl
 rw [hfin]
 exact ⟨A16, c16, rfl, hr16.top, hW⟩
end Go.Proofs.YtfgnmflfiobkmaaGreat
set_option maxRecDepth 4000
namespace Go.Proofs.YtfgnmflfiobkmaaGreat
open Go.RowKit
theorem F146 (w0 : World) (bV : Nat) (f : Bool) (hBV : Blk w0 bV 194 [.bool f]) (p : Mx) (Ap : Option Addr) (cp : Nat) (hr_p : Rd w0 w0.heap.size 189 encD Ap p.cells) (q : Mx) (Aq : Option Addr) (cq : Nat) (hr_q : Rd w0 w0.heap.size 189 encD Aq q.cells) (hp : mOk p = true) (hq : mOk q = true) (hpq : p.cols = q.rows) : Ret Tryz.prog 146 [.pointer (some ⟨bV, 0, none⟩), .agg #[.int .i64 p.rows, .int .i64 p.cols, .slice Ap p.cells.length cp], .agg #[.int .i64 q.rows, .int .i64 q.cols, .slice Aq q.cells.length cq]] w0 (fun v w => ∃ A c1, v = mV A c1 ((timesS f p q).2) ∧ Own w w0.heap.size 189 5 encD A c1 ((timesS f p q).2).cells ∧ Kept bV w0.heap.size w0 w ∧ Blk w bV 194 [.bool ((timesS f p q).1)]) := by
 have hltV := hBV.lt
 have hpl := mOk_len hp
 have hql := mOk_len hq
 have hpa := mOk_all hp
 have hqa := mOk_all hq
 have hlp : p.cells.length ≤ 1024 := by rw [hpl.2.2]; exact grid_le (by omega) (by omega)
 have hlq : q.cells.length ≤ 1024 := by rw [hql.2.2]; exact grid_le (by omega) (by omega)
 have ec1 : p.cols = (p.cols.toNat : Int) := by omega
 have ec2 : q.cols = (q.cols.toNat : Int) := by omega
 suffices hgoal : Ret Tryz.prog 146 [.pointer (some ⟨bV, 0, none⟩), .agg #[.int .i64 p.rows, .int .i64 (p.cols.toNat : Int), .slice Ap p.cells.length cp], .agg #[.int .i64 q.rows, .int .i64 (q.cols.toNat : Int), .slice Aq q.cells.length cq]] w0 (fun v w => ∃ A c1, v = .agg #[.int .i64 p.rows, .int .i64 (q.cols.toNat : Int), .slice A (timesS f p q).2.cells.length c1] ∧ Own w w0.heap.size 189 5 encD A c1 (timesS f p q).2.cells ∧ Kept bV w0.heap.size w0 w ∧ Blk w bV 194 [.bool (timesS f p q).1]) by rw [← ec1, ← ec2] at hgoal; exact hgoal
 refine enter Tryz.func146 rfl 75 rfl rfl ?_
 intro a hf
 have hW : Kept bV w0.heap.size w0 w0 := Kept.refl _ _ _
 refine wp_seq_k ?_; intro K3 hK3
 refine wp_region_lit ?_
 refine l_f hf rfl (ef_box (zs := [.int .i64 p.rows, .int .i64 (p.cols.toNat : Int), .slice Ap p.cells.length cp]) hf rfl rfl) ?_; rintro a _ w1 ⟨b4, rfl, hl4, hE, hB4⟩ hf
 have hlo4 := Nat.le_trans hW.size hl4
 replace hBV := hBV.below hE
 replace hr_p := hr_p.below hE
 replace hr_q := hr_q.below hE
 replace hW := ktr hW hE
 clear hE
 refine l_f hf rfl (ef_box (zs := [.int .i64 q.rows, .int .i64 (q.cols.toNat : Int), .slice Aq q.cells.length cq]) hf rfl rfl) ?_; rintro a _ w2 ⟨b5, rfl, hl5, hE, hB5⟩ hf
 have hne4_5 : b4 ≠ b5 := by have := hB4.lt; omega
 have hlo5 := Nat.le_trans hW.size hl5
 replace hBV := hBV.below hE
 replace hB4 := hB4.below hE
 replace hr_p := hr_p.below hE
 replace hr_q := hr_q.below hE
 replace hW := ktr hW hE
 clear hE
 refine l_f hf rfl (ef_alloc (zs := [.int .i64 0, .int .i64 0, .slice none 0 0]) z_141 rfl) ?_; rintro a _ w3 ⟨b7, rfl, hl7, hE, hB7⟩ hf
 have hne4_7 : b4 ≠ b7 := by have := hB4.lt; omega
 have hne5_7 : b5 ≠ b7 := by have := hB5.lt; omega
 have hlo7 := Nat.le_trans hW.size hl7
 replace hBV := hBV.below hE
 replace hB4 := hB4.below hE
 replace hB5 := hB5.below hE
 replace hr_p := hr_p.below hE
 replace hr_q := hr_q.below hE
 replace hW := ktr hW hE
 clear hE
 refine wpList_nil ?_
 refine hK3 _ _ ?_; try clear hK3 K3
 refine wp_seq_k ?_; intro K8 hK8
 refine wp_region_lit ?_
 refine l_e hf rfl (ev_fieldB hf rfl fd_141_0 (m := 0) rfl) ?_; intro a hf
 refine l_e hf rfl (ev_load1 hf rfl t1_3 (hB4.at 0)) ?_; intro a hf
 refine l_e hf rfl (ev_fieldB hf rfl fd_141_1 (m := 1) rfl) ?_; intro a hf
 refine l_e hf rfl (ev_load1 hf rfl t1_3 (hB5.at 1)) ?_; intro a hf
 refine l_e hf rfl (ev_build (ps := [(0, .int .i64 p.rows), (1, .int .i64 (q.cols.toNat : Int))]) (cs := [.int .i64 p.rows, .int .i64 (q.cols.toNat : Int), .slice none 0 0]) hf rfl (fun _ => by first | rfl | kernel_rfl)) ?_; intro a hf
 refine l_f hf rfl (ef_alloc (zs := [.int .i64 0, .int .i64 0, .slice none 0 0]) z_141 rfl) ?_; rintro a _ w4 ⟨b11, rfl, hl11, hE, hB11⟩ hf
 have hne4_11 : b4 ≠ b11 := by have := hB4.lt; omega
 have hne5_11 : b5 ≠ b11 := by have := hB5.lt; omega
 have hne7_11 : b7 ≠ b11 := by have := hB7.lt; omega
 have hlo11 := Nat.le_trans hW.size hl11
 replace hBV := hBV.below hE
 replace hB4 := hB4.below hE
 replace hB5 := hB5.below hE
 replace hB7 := hB7.below hE
 replace hr_p := hr_p.below hE
 replace hr_q := hr_q.below hE
 replace hW := ktr hW hE
 clear hE
 refine l_f0 hf (ef_store (vs := [.int .i64 p.rows, .int .i64 (q.cols.toNat : Int), .slice none 0 0]) (l' := [.int .i64 p.rows, .int .i64 (q.cols.toNat : Int), .slice none 0 0]) hf rfl rfl sz_141 hB11 rfl rfl rfl rfl rfl) ?_; rintro a _ w5 ⟨ho, hb⟩ hf
 have hold := hB11
 replace hBV := hBV.only ho (Blk.ne hBV hold rfl)
 replace hB4 := hB4.only ho (by omega)
 replace hB5 := hB5.only ho (by omega)
 replace hB7 := hB7.only ho (by omega)
 replace hr_p := hr_p.onlyT ho hold rfl
 replace hr_q := hr_q.onlyT ho hold rfl
 replace hW := Kept.only hW ho hlo11
 clear hold
 have hB11 := hb
 clear hb ho
 refine wpList_nil ?_
 refine hK8 _ _ ?_; try clear hK8 K8
 refine wp_seq_k ?_; intro K12 hK12
 refine wp_seq_k ?_; intro K13 hK13
 refine wp_region_lit ?_
 refine l_as hf rfl rfl ?_; intro a hf
 refine wpList_nil ?_
 refine hK13 _ _ ?_; try clear hK13 K13
 refine wp_block ?_
 refine c_loop (σ := Nat × (List Dy) × Bool) (fun (s : Nat × (List Dy) × Bool) (a : Act) (w : World) => match s with | (i, l, f1) => ∃ A14 c14, Fr a 75 [(0, .pointer (some ⟨bV, 0, none⟩)), (4, .pointer (some ⟨b4, 0, none⟩)), (5, .pointer (some ⟨b5, 0, none⟩)), (6, .pointer (some ⟨b7, 0, none⟩)), (7, .pointer (some ⟨b11, 0, none⟩)), (8, .int .i64 (i : Int))] ∧ ((i : Int) ≤ p.rows) ∧ (timesL f p q (i * q.cols.toNat) = (f1, l)) ∧ Blk w bV 194 [.bool f1] ∧ Blk w b4 141 [.int .i64 p.rows, .int .i64 (p.cols.toNat : Int), .slice Ap p.cells.length cp] ∧ Blk w b5 141 [.int .i64 q.rows, .int .i64 (q.cols.toNat : Int), .slice Aq q.cells.length cq] ∧ Blk w b7 141 [.int .i64 0, .int .i64 0, .slice none 0 0] ∧ Blk w b11 141 [.int .i64 p.rows, .int .i64 (q.cols.toNat : Int), .slice A14 l.length c14] ∧ Rd w w0.heap.size 189 encD Ap p.cells ∧ Rd w w0.heap.size 189 encD Aq q.cells ∧ Own w w0.heap.size 189 5 encD A14 c14 l ∧ Kept bV w0.heap.size w0 w) (fun (s : Nat × (List Dy) × Bool) => match s with | (i, l, f1) => (p.rows - i).toNat) (0, [], f) ?_ ?_
 · exact ⟨none, 0, hf.sub ⟨rfl, rfl, rfl, rfl, rfl, rfl, trivial⟩, (by omega), (by rw [Nat.zero_mul]; rfl), hBV, hB4, hB5, hB7, hB11, hr_p, hr_q, (Own.nil _ _ _ _ _), hW⟩
 rintro ⟨i, l, f1⟩ a w6 ⟨A14, c14, hf, hi, hl, hBV, hB4, hB5, hB7, hB11, hr_p, hr_q, ho14, hW⟩
 refine wp_seq_k ?_; intro K15 hK15
 refine wp_seq_k ?_; intro K16 hK16
 refine wp_region_lit ?_
 refine l_mv hf rfl rfl ?_; intro a hf
 refine l_e hf rfl (ev_fieldB hf rfl fd_141_0 (m := 0) rfl) ?_; intro a hf
 refine l_e hf rfl (ev_load1 hf rfl t1_3 (hB4.at 0)) ?_; intro a hf
 refine l_e hf rfl (ev_lss hf rfl rfl) ?_; intro a hf
 refine wpList_nil ?_
 refine hK16 _ _ ?_; try clear hK16 K16
 refine c_if hf rfl (fun hc17 => ?_) (fun hc17 => ?_)
 ·have hc17b := hc17
  have hc17 := of_decide_eq_true hc17
  have hi1 : (i : Int) < p.rows := hc17
  refine wp_skip ?_
  refine hK15 _ _ ?_; try clear hK15 K15
  refine wp_seq_k ?_; intro K18 hK18
  refine wp_block ?_
  refine wp_seq_k ?_; intro K19 hK19
  refine wp_region_lit ?_
  refine l_as hf rfl rfl ?_; intro a hf
  refine wpList_nil ?_
  refine hK19 _ _ ?_; try clear hK19 K19
  refine wp_block ?_
  refine c_loop (σ := Nat × (List Dy) × Bool) (fun (s : Nat × (List Dy) × Bool) (a : Act) (w : World) => match s with | (j, l2, f2) => ∃ A20 c20, Fr a 75 [(0, .pointer (some ⟨bV, 0, none⟩)), (4, .pointer (some ⟨b4, 0, none⟩)), (5, .pointer (some ⟨b5, 0, none⟩)), (6, .pointer (some ⟨b7, 0, none⟩)), (7, .pointer (some ⟨b11, 0, none⟩)), (8, .int .i64 (i : Int)), (9, .int .i64 (j : Int))] ∧ (j ≤ q.cols.toNat) ∧ (timesL f p q (i * q.cols.toNat + j) = (f2, l2)) ∧ Blk w bV 194 [.bool f2] ∧ Blk w b4 141 [.int .i64 p.rows, .int .i64 (p.cols.toNat : Int), .slice Ap p.cells.length cp] ∧ Blk w b5 141 [.int .i64 q.rows, .int .i64 (q.cols.toNat : Int), .slice Aq q.cells.length cq] ∧ Blk w b7 141 [.int .i64 0, .int .i64 0, .slice none 0 0] ∧ Blk w b11 141 [.int .i64 p.rows, .int .i64 (q.cols.toNat : Int), .slice A20 l2.length c20] ∧ Rd w w0.heap.size 189 encD Ap p.cells ∧ Rd w w0.heap.size 189 encD Aq q.cells ∧ Own w w0.heap.size 189 5 encD A20 c20 l2 ∧ Kept bV w0.heap.size w0 w) (fun (s : Nat × (List Dy) × Bool) => match s with | (j, l2, f2) => q.cols.toNat - j) (0, l, f1) ?_ ?_
  · exact ⟨A14, c14, hf.sub ⟨rfl, rfl, rfl, rfl, rfl, rfl, rfl, trivial⟩, (Nat.zero_le _), hl, hBV, hB4, hB5, hB7, hB11, hr_p, hr_q, ho14, hW⟩
  rintro ⟨j, l2, f2⟩ a w7 ⟨A20, c20, hf, hj, hl2, hBV, hB4, hB5, hB7, hB11, hr_p, hr_q, ho20, hW⟩
  refine wp_seq_k ?_; intro K21 hK21
  refine wp_seq_k ?_; intro K22 hK22
  refine wp_region_lit ?_
  refine l_mv hf rfl rfl ?_; intro a hf
  refine l_e hf rfl (ev_fieldB hf rfl fd_141_1 (m := 1) rfl) ?_; intro a hf
  refine l_e hf rfl (ev_load1 hf rfl t1_3 (hB5.at 1)) ?_; intro a hf
  refine l_e hf rfl (ev_lss hf rfl rfl) ?_; intro a hf
  refine wpList_nil ?_
  refine hK22 _ _ ?_; try clear hK22 K22
  refine c_if hf rfl (fun hc23 => ?_) (fun hc23 => ?_)
  ·have hc23b := hc23
   have hc23 := of_decide_eq_true hc23
   have hj1 : j < q.cols.toNat := by have := hc23; omega
   have hlen : l2.length = i * q.cols.toNat + j := by have := timesL_len f p q (i * q.cols.toNat + j); rw [hl2] at this; exact this
   have hgr := grid_le (show i ≤ 32 by omega) (show q.cols.toNat ≤ 32 by omega)
   have hts := timesL_step (f := f) (a := p) (b := q) (i := i) hj1
   rw [hl2] at hts
   refine wp_skip ?_
   refine hK21 _ _ ?_; try clear hK21 K21
   refine wp_seq_k ?_; intro K24 hK24
   refine wp_block ?_
   refine wp_seq_k ?_; intro K25 hK25
   refine wp_region_lit ?_
   refine l_e hf rfl (ev_build (ps := []) (cs := [.int .i64 0, .int .i64 0, .int .i64 0, .int .i64 0, .int .i64 0]) hf rfl (fun _ => by first | rfl | kernel_rfl)) ?_; intro a hf
   refine l_f hf rfl (ef_alloc (zs := [.int .i64 0, .int .i64 0, .int .i64 0, .int .i64 0, .int .i64 0]) z_189 rfl) ?_; rintro a _ w8 ⟨b26, rfl, hl26, hE, hB26⟩ hf
   have hlo26 := Nat.le_trans hW.size hl26
   have haw1_26 := hr_p.away hl26
   have haw2_26 := hr_q.away hl26
   have haw20_26 := ho20.away hl26
   replace hBV := hBV.below hE
   replace hB4 := hB4.below hE
   replace hB5 := hB5.below hE
   replace hB7 := hB7.below hE
   replace hB11 := hB11.below hE
   replace hr_p := hr_p.below hE
   replace hr_q := hr_q.below hE
   replace ho20 := ho20.below hE
   replace hW := ktr hW hE
   clear hE
   refine l_f0 hf (ef_store (vs := [.int .i64 0, .int .i64 0, .int .i64 0, .int .i64 0, .int .i64 0]) (l' := [.int .i64 0, .int .i64 0, .int .i64 0, .int .i64 0, .int .i64 0]) hf rfl rfl sz_189 hB26 rfl rfl rfl rfl rfl) ?_; rintro a _ w9 ⟨ho, hb⟩ hf
   have hold := hB26
   replace hBV := hBV.only ho (Blk.ne hBV hold rfl)
   replace hB4 := hB4.only ho (Blk.ne hB4 hold rfl)
   replace hB5 := hB5.only ho (Blk.ne hB5 hold rfl)
   replace hB7 := hB7.only ho (Blk.ne hB7 hold rfl)
   replace hB11 := hB11.only ho (Blk.ne hB11 hold rfl)
   replace hr_p := hr_p.only ho hlo26
   replace hr_q := hr_q.only ho hlo26
   replace ho20 := ho20.onlyA ho haw20_26
   replace hW := Kept.only hW ho hlo26
   clear hold
   have hB26 := hb
   clear hb ho
   refine wpList_nil ?_
   refine hK25 _ _ ?_; try clear hK25 K25
   refine wp_seq_k ?_; intro K27 hK27
   refine wp_seq_k ?_; intro K28 hK28
   refine wp_region_lit ?_
   refine l_as hf rfl rfl ?_; intro a hf
   refine wpList_nil ?_
   refine hK28 _ _ ?_; try clear hK28 K28
   refine wp_block ?_
   refine c_loop (σ := Nat × Dy × Bool) (fun (s : Nat × Dy × Bool) (a : Act) (w : World) => match s with | (k, sum, f3) => Fr a 75 [(0, .pointer (some ⟨bV, 0, none⟩)), (4, .pointer (some ⟨b4, 0, none⟩)), (5, .pointer (some ⟨b5, 0, none⟩)), (6, .pointer (some ⟨b7, 0, none⟩)), (7, .pointer (some ⟨b11, 0, none⟩)), (8, .int .i64 (i : Int)), (9, .int .i64 (j : Int)), (10, .pointer (some ⟨b26, 0, none⟩)), (11, .int .i64 (k : Int))] ∧ (k ≤ p.cols.toNat) ∧ (dotS f2 p q i j k = (f3, sum)) ∧ Blk w bV 194 [.bool f3] ∧ Blk w b4 141 [.int .i64 p.rows, .int .i64 (p.cols.toNat : Int), .slice Ap p.cells.length cp] ∧ Blk w b5 141 [.int .i64 q.rows, .int .i64 (q.cols.toNat : Int), .slice Aq q.cells.length cq] ∧ Blk w b7 141 [.int .i64 0, .int .i64 0, .slice none 0 0] ∧ Blk w b11 141 [.int .i64 p.rows, .int .i64 (q.cols.toNat : Int), .slice A20 l2.length c20] ∧ Blk w b26 189 [.int .i64 sum.num.a, .int .i64 sum.num.b, .int .i64 sum.num.c, .int .i64 sum.num.d, .int .i64 sum.exp] ∧ Rd w w0.heap.size 189 encD Ap p.cells ∧ Rd w w0.heap.size 189 encD Aq q.cells ∧ Own w w0.heap.size 189 5 encD A20 c20 l2 ∧ Kept bV w0.heap.size w0 w) (fun (s : Nat × Dy × Bool) => match s with | (k, sum, f3) => p.cols.toNat - k) (0, dZ, f2) ?_ ?_
   · exact ⟨hf.sub ⟨rfl, rfl, rfl, rfl, rfl, rfl, rfl, rfl, rfl, trivial⟩, (Nat.zero_le _), rfl, hBV, hB4, hB5, hB7, hB11, hB26, hr_p, hr_q, ho20, hW⟩
   rintro ⟨k, sum, f3⟩ a w10 ⟨hf, hk, hs, hBV, hB4, hB5, hB7, hB11, hB26, hr_p, hr_q, ho20, hW⟩
   have hse : 0 ≤ sum.exp ∧ sum.exp ≤ 60 := by have := dotS_exp hpa hqa f2 i j k; rw [hs] at this; exact this
   refine wp_seq_k ?_; intro K29 hK29
   refine wp_seq_k ?_; intro K30 hK30
   refine c_cut (fun a w => Fr a 75 [(0, .pointer (some ⟨bV, 0, none⟩)), (4, .pointer (some ⟨b4, 0, none⟩)), (5, .pointer (some ⟨b5, 0, none⟩)), (6, .pointer (some ⟨b7, 0, none⟩)), (7, .pointer (some ⟨b11, 0, none⟩)), (8, .int .i64 (i : Int)), (9, .int .i64 (j : Int)), (10, .pointer (some ⟨b26, 0, none⟩)), (11, .int .i64 (k : Int)), (40, .bool ((decide ((k : Int) < (p.cols.toNat : Int))) && (!f3)))] ∧ w10 = w) ?_ ?_
   ·refine wp_region_lit ?_
    refine l_mv hf rfl rfl ?_; intro a hf
    refine l_e hf rfl (ev_fieldB hf rfl fd_141_1 (m := 1) rfl) ?_; intro a hf
    refine l_e hf rfl (ev_load1 hf rfl t1_3 (hB4.at 1)) ?_; intro a hf
    refine l_e hf rfl (ev_lss hf rfl rfl) ?_; intro a hf
    refine l_mv hf rfl rfl ?_; intro a hf
    refine g_split hf (t := 34) rfl (fun hg31 => ?_) (fun hg31 => ?_)
    ·refine l_ev hf ⟨_, _, rfl, rfl, hg31⟩ rfl rfl (ev_move hf rfl) ?_; intro a hf
     refine l_ev hf ⟨_, _, rfl, rfl, hg31⟩ rfl rfl (ev_nil hf rfl) ?_; intro a hf
     refine l_ev hf ⟨_, _, rfl, rfl, hg31⟩ rfl rfl (ev_fieldB hf rfl fd_194_0 (m := 0) rfl) ?_; intro a hf
     refine l_ev hf ⟨_, _, rfl, rfl, hg31⟩ rfl rfl (ev_load1 hf rfl t1_4 (hBV.at 0)) ?_; intro a hf
     refine l_ev hf ⟨_, _, rfl, rfl, hg31⟩ rfl rfl (ev_not hf rfl) ?_; intro a hf
     refine l_e hf rfl (ev_pickT hf rfl hg31 rfl) ?_; intro a hf
     refine wpList_nil ?_
     exact ⟨hf.sub ⟨rfl, rfl, rfl, rfl, rfl, rfl, rfl, rfl, rfl, look_bool rfl (by first | rfl | (simp only [hc17b, hc23b, hg31, Bool.true_and, Bool.false_and, Bool.true_or, Bool.false_or]; done) | simp [hc17b, hc23b, hg31]), trivial⟩, rfl⟩
    refine l_pass hf ⟨_, _, rfl, rfl, hg31⟩ rfl rfl ?_; intro a hf
    refine l_pass hf ⟨_, _, rfl, rfl, hg31⟩ rfl rfl ?_; intro a hf
    refine l_pass hf ⟨_, _, rfl, rfl, hg31⟩ rfl rfl ?_; intro a hf
    refine l_pass hf ⟨_, _, rfl, rfl, hg31⟩ rfl rfl ?_; intro a hf
    refine l_pass hf ⟨_, _, rfl, rfl, hg31⟩ rfl rfl ?_; intro a hf
    refine l_e hf rfl (ev_pickF hf rfl hg31 rfl) ?_; intro a hf
    refine wpList_nil ?_
    exact ⟨hf.sub ⟨rfl, rfl, rfl, rfl, rfl, rfl, rfl, rfl, rfl, look_bool rfl (by first | rfl | (simp only [hc17b, hc23b, hg31, Bool.true_and, Bool.false_and, Bool.true_or, Bool.false_or]; done) | simp [hc17b, hc23b, hg31]), trivial⟩, rfl⟩
   rintro a _ ⟨hf, rfl⟩
   refine hK30 _ _ ?_; try clear hK30 K30
   refine c_if hf rfl (fun hc32 => ?_) (fun hc32 => ?_)
   ·have hc32b := hc32
    have hlt : (k : Int) < (p.cols.toNat : Int) ∧ f3 = false := by simpa using hc32
    have hk1 : k < p.cols.toNat := by omega
    have hg1 := grid_le (show i ≤ 32 by omega) (show p.cols.toNat ≤ 32 by omega)
    have hg2 := grid_le (show k ≤ 32 by omega) (show q.cols.toNat ≤ 32 by omega)
    have hnx := dot_next hs hlt.2
    refine wp_skip ?_
    refine hK29 _ _ ?_; try clear hK29 K29
    refine wp_seq_k ?_; intro K33 hK33
    refine wp_block ?_
    refine wp_draw (some bV) (fun j => [25].contains j) mixed ?_
    intro w11 hE
    replace hBV := hBV.below hE
    replace hB4 := hB4.below hE
    replace hB5 := hB5.below hE
    replace hB7 := hB7.below hE
    replace hB11 := hB11.below hE
    replace hB26 := hB26.below hE
    replace hr_p := hr_p.below hE
    replace hr_q := hr_q.below hE
    replace ho20 := ho20.below hE
    replace hW := ktr hW hE
    clear hE
    refine s_e0 0 rfl (by kernel_rfl) hf rfl (fun _ => ev_move hf rfl) ?_; intro a hf
    refine s_evV 1 rfl (by kernel_rfl) (by kernel_rfl) hf trivial rfl rfl (fun w1 h1 => ev_loadN (l := [.int .i64 sum.num.a, .int .i64 sum.num.b, .int .i64 sum.num.c, .int .i64 sum.num.d, .int .i64 sum.exp]) hf rfl tN_189 ((hB26.only h1 (Blk.ne hB26 hBV rfl)).at 0) rfl) ?_; intro a hf
    refine s_e0 2 rfl (by kernel_rfl) hf rfl (fun _ => ev_move hf rfl) ?_; intro a hf
    refine s_e0 3 rfl (by kernel_rfl) hf rfl (fun _ => ev_fieldB hf rfl fd_141_2 (m := 2) rfl) ?_; intro a hf
    refine s_evV 4 rfl (by kernel_rfl) (by kernel_rfl) hf trivial rfl rfl (fun w1 h1 => ev_load1 hf rfl t1_139 ((hB4.only h1 (Blk.ne hB4 hBV rfl)).at 2)) ?_; intro a hf
    refine s_e0 5 rfl (by kernel_rfl) hf rfl (fun _ => ev_move hf rfl) ?_; intro a hf
    refine s_e0 6 rfl (by kernel_rfl) hf rfl (fun _ => ev_fieldB hf rfl fd_141_1 (m := 1) rfl) ?_; intro a hf
    refine s_evV 7 rfl (by kernel_rfl) (by kernel_rfl) hf trivial rfl rfl (fun w1 h1 => ev_load1 hf rfl t1_3 ((hB4.only h1 (Blk.ne hB4 hBV rfl)).at 1)) ?_; intro a hf
    refine s_e0 8 rfl (by kernel_rfl) hf rfl (fun _ => ev_mulN (m := i) (k := p.cols.toNat) hf rfl rfl (by have := grid_le (show i ≤ 32 by omega) (show p.cols.toNat ≤ 32 by omega); omega)) ?_; intro a hf
    refine s_e0 9 rfl (by kernel_rfl) hf rfl (fun _ => ev_move hf rfl) ?_; intro a hf
    refine s_e0 10 rfl (by kernel_rfl) hf rfl (fun _ => ev_addx hf rfl rfl (by omega) (by omega)) ?_; intro a hf
    refine s_indexV (k := (i * p.cols.toNat + k)) (u := (p.at i k)) (enc := encD) (l := p.cells) 11 rfl (by kernel_rfl) hf trivial rfl hBV rfl rfl rfl sl_139 sz_189 encD_len hr_p (Mx.at_get (by rw [hpl.2.2]; exact grid_lt (by omega) (by omega))) (by omega) ?_; intro a p35 hat34 hat34n hf
    refine s_evV 12 rfl (by kernel_rfl) (by kernel_rfl) hf trivial rfl rfl (fun w1 h1 => ev_loadN (l := [.int .i64 ((p.at i k).num.a), .int .i64 ((p.at i k).num.b), .int .i64 ((p.at i k).num.c), .int .i64 ((p.at i k).num.d), .int .i64 ((p.at i k).exp)]) hf rfl tN_189 (hat34.only h1 hat34n) rfl) ?_; intro a hf
    refine s_e0 13 rfl (by kernel_rfl) hf rfl (fun _ => ev_fieldB hf rfl fd_141_2 (m := 2) rfl) ?_; intro a hf
    refine s_evV 14 rfl (by kernel_rfl) (by kernel_rfl) hf trivial rfl rfl (fun w1 h1 => ev_load1 hf rfl t1_139 ((hB5.only h1 (Blk.ne hB5 hBV rfl)).at 2)) ?_; intro a hf
    refine s_e0 15 rfl (by kernel_rfl) hf rfl (fun _ => ev_move hf rfl) ?_; intro a hf
    refine s_e0 16 rfl (by kernel_rfl) hf rfl (fun _ => ev_fieldB hf rfl fd_141_1 (m := 1) rfl) ?_; intro a hf
    refine s_evV 17 rfl (by kernel_rfl) (by kernel_rfl) hf trivial rfl rfl (fun w1 h1 => ev_load1 hf rfl t1_3 ((hB5.only h1 (Blk.ne hB5 hBV rfl)).at 1)) ?_; intro a hf
    refine s_e0 18 rfl (by kernel_rfl) hf rfl (fun _ => ev_mulN (m := k) (k := q.cols.toNat) hf rfl rfl (by have := grid_le (show k ≤ 32 by omega) (show q.cols.toNat ≤ 32 by omega); omega)) ?_; intro a hf
    refine s_e0 19 rfl (by kernel_rfl) hf rfl (fun _ => ev_move hf rfl) ?_; intro a hf
    refine s_e0 20 rfl (by kernel_rfl) hf rfl (fun _ => ev_addx hf rfl rfl (by omega) (by omega)) ?_; intro a hf
    refine s_indexV (k := (k * q.cols.toNat + j)) (u := (q.at k j)) (enc := encD) (l := q.cells) 21 rfl (by kernel_rfl) hf trivial rfl hBV rfl rfl rfl sl_139 sz_189 encD_len hr_q (Mx.at_get (by rw [hql.2.2]; exact grid_lt (by omega) (by omega))) (by omega) ?_; intro a p37 hat36 hat36n hf
    refine s_evV 22 rfl (by kernel_rfl) (by kernel_rfl) hf trivial rfl rfl (fun w1 h1 => ev_loadN (l := [.int .i64 ((q.at k j).num.a), .int .i64 ((q.at k j).num.b), .int .i64 ((q.at k j).num.c), .int .i64 ((q.at k j).num.d), .int .i64 ((q.at k j).exp)]) hf rfl tN_189 (hat36.only h1 hat36n) rfl) ?_; intro a hf
    refine s_one 23 (by kernel_rfl) ?_
    refine p_eff rfl hf trivial rfl rfl (Ef.mono (ef_call (vs := [.pointer (some ⟨bV, 0, none⟩), .agg #[.int .i64 ((p.at i k).num.a), .int .i64 ((p.at i k).num.b), .int .i64 ((p.at i k).num.c), .int .i64 ((p.at i k).num.d), .int .i64 ((p.at i k).exp)], .agg #[.int .i64 ((q.at k j).num.a), .int .i64 ((q.at k j).num.b), .int .i64 ((q.at k j).num.c), .int .i64 ((q.at k j).num.d), .int .i64 ((q.at k j).exp)]]) hf rfl ff_202 (F202 _ bV f3 hBV (p.at i k) (q.at k j) (dOk_exp (Mx.at_ok hpa i k)) (dOk_exp (Mx.at_ok hqa k j)))) (fun _ _ h => ⟨fun _ => by obtain ⟨rfl, hK, hbn⟩ := h; exact hK.keep, h⟩)) ?_; rintro a _ w12 ⟨rfl, hK, hbn⟩ hf
    obtain ⟨wm, hO, hm, hE⟩ := hK.mid; clear hm
    have hold := hBV
    replace hB4 := hB4.only hO (Blk.ne hB4 hold rfl)
    replace hB5 := hB5.only hO (Blk.ne hB5 hold rfl)
    replace hB7 := hB7.only hO (Blk.ne hB7 hold rfl)
    replace hB11 := hB11.only hO (Blk.ne hB11 hold rfl)
    replace hB26 := hB26.only hO (Blk.ne hB26 hold rfl)
    replace hr_p := hr_p.onlyT hO hold rfl
    replace hr_q := hr_q.onlyT hO hold rfl
    replace ho20 := ho20.onlyT hO hold rfl
    replace hW := hW.self hO
    replace hB4 := hB4.below hE
    replace hB5 := hB5.below hE
    replace hB7 := hB7.below hE
    replace hB11 := hB11.below hE
    replace hB26 := hB26.below hE
    replace hr_p := hr_p.below hE
    replace hr_q := hr_q.below hE
    replace ho20 := ho20.below hE
    replace hW := ktr hW hE
    clear hold hE hO hK; replace hBV := hbn; clear hbn
    refine s_one 24 (by kernel_rfl) ?_
    refine p_eff rfl hf trivial rfl rfl (Ef.mono (ef_call (vs := [.pointer (some ⟨bV, 0, none⟩), .agg #[.int .i64 sum.num.a, .int .i64 sum.num.b, .int .i64 sum.num.c, .int .i64 sum.num.d, .int .i64 sum.exp], .agg #[.int .i64 (((sMul f3 (p.at i k) (q.at k j)).2).num.a), .int .i64 (((sMul f3 (p.at i k) (q.at k j)).2).num.b), .int .i64 (((sMul f3 (p.at i k) (q.at k j)).2).num.c), .int .i64 (((sMul f3 (p.at i k) (q.at k j)).2).num.d), .int .i64 (((sMul f3 (p.at i k) (q.at k j)).2).exp)]]) hf rfl ff_201 (F201 _ bV ((sMul f3 (p.at i k) (q.at k j)).1) hBV sum ((sMul f3 (p.at i k) (q.at k j)).2) hse (sMul_exp (dOk_exp (Mx.at_ok hpa i k)) (dOk_exp (Mx.at_ok hqa k j))))) (fun _ _ h => ⟨fun _ => by obtain ⟨rfl, hK, hbn⟩ := h; exact hK.keep, h⟩)) ?_; rintro a _ w13 ⟨rfl, hK, hbn⟩ hf
    obtain ⟨wm, hO, hm, hE⟩ := hK.mid; clear hm
    have hold := hBV
    replace hB4 := hB4.only hO (Blk.ne hB4 hold rfl)
    replace hB5 := hB5.only hO (Blk.ne hB5 hold rfl)
    replace hB7 := hB7.only hO (Blk.ne hB7 hold rfl)
    replace hB11 := hB11.only hO (Blk.ne hB11 hold rfl)
    replace hB26 := hB26.only hO (Blk.ne hB26 hold rfl)
    replace hr_p := hr_p.onlyT hO hold rfl
    replace hr_q := hr_q.onlyT hO hold rfl
    replace ho20 := ho20.onlyT hO hold rfl
    replace hW := hW.self hO
    replace hB4 := hB4.below hE
    replace hB5 := hB5.below hE
    replace hB7 := hB7.below hE
    replace hB11 := hB11.below hE
    replace hB26 := hB26.below hE
    replace hr_p := hr_p.below hE
    replace hr_q := hr_q.below hE
    replace ho20 := ho20.below hE
    replace hW := ktr hW hE
    clear hold hE hO hK; replace hBV := hbn; clear hbn
    refine s_one 25 (by kernel_rfl) ?_
    refine p_eff0 rfl hf trivial rfl (Ef.mono (ef_store (vs := [.int .i64 (((sAdd ((sMul f3 (p.at i k) (q.at k j)).1) sum ((sMul f3 (p.at i k) (q.at k j)).2)).2).num.a), .int .i64 (((sAdd ((sMul f3 (p.at i k) (q.at k j)).1) sum ((sMul f3 (p.at i k) (q.at k j)).2)).2).num.b), .int .i64 (((sAdd ((sMul f3 (p.at i k) (q.at k j)).1) sum ((sMul f3 (p.at i k) (q.at k j)).2)).2).num.c), .int .i64 (((sAdd ((sMul f3 (p.at i k) (q.at k j)).1) sum ((sMul f3 (p.at i k) (q.at k j)).2)).2).num.d), .int .i64 (((sAdd ((sMul f3 (p.at i k) (q.at k j)).1) sum ((sMul f3 (p.at i k) (q.at k j)).2)).2).exp)]) (l' := [.int .i64 (((sAdd ((sMul f3 (p.at i k) (q.at k j)).1) sum ((sMul f3 (p.at i k) (q.at k j)).2)).2).num.a), .int .i64 (((sAdd ((sMul f3 (p.at i k) (q.at k j)).1) sum ((sMul f3 (p.at i k) (q.at k j)).2)).2).num.b), .int .i64 (((sAdd ((sMul f3 (p.at i k) (q.at k j)).1) sum ((sMul f3 (p.at i k) (q.at k j)).2)).2).num.c), .int .i64 (((sAdd ((sMul f3 (p.at i k) (q.at k j)).1) sum ((sMul f3 (p.at i k) (q.at k j)).2)).2).num.d), .int .i64 (((sAdd ((sMul f3 (p.at i k) (q.at k j)).1) sum ((sMul f3 (p.at i k) (q.at k j)).2)).2).exp)]) hf rfl rfl sz_189 hB26 rfl rfl rfl rfl rfl) (fun _ _ h => ⟨fun h0 => absurd h0 (by decide), h⟩)) ?_; rintro a _ w14 ⟨ho, hb⟩ hf
    have hold := hB26
    replace hBV := hBV.only ho (Blk.ne hBV hold rfl)
    replace hB4 := hB4.only ho (Blk.ne hB4 hold rfl)
    replace hB5 := hB5.only ho (Blk.ne hB5 hold rfl)
    replace hB7 := hB7.only ho (Blk.ne hB7 hold rfl)
    replace hB11 := hB11.only ho (Blk.ne hB11 hold rfl)
    replace hr_p := hr_p.only ho hlo26
    replace hr_q := hr_q.only ho hlo26
    replace ho20 := ho20.onlyA ho haw20_26
    replace hW := Kept.only hW ho hlo26
    clear hold
    have hB26 := hb
    clear hb ho
    refine s_done (by kernel_rfl) ?_
    refine x_norm ?_
    refine hK33 _ _ ?_; try clear hK33 K33
    refine wp_region_lit ?_
    refine l_mv hf rfl rfl ?_; intro a hf
    refine l_e hf rfl (ev_addx hf rfl rfl (by omega) (by omega)) ?_; intro a hf
    refine l_as hf rfl rfl ?_; intro a hf
    refine wpList_nil ?_
    refine x_thenN ?_
    exact ⟨(k + 1, (sAdd (sMul f3 (p.at i k) (q.at k j)).1 sum (sMul f3 (p.at i k) (q.at k j)).2).2, (sAdd (sMul f3 (p.at i k) (q.at k j)).1 sum (sMul f3 (p.at i k) (q.at k j)).2).1), ⟨hf.sub ⟨rfl, rfl, rfl, rfl, rfl, rfl, rfl, rfl, rfl, trivial⟩, (by omega), hnx, hBV, hB4, hB5, hB7, hB11, hB26, hr_p, hr_q, ho20, hW⟩, (by first | omega | (dsimp only; omega))⟩
   have hc32b := hc32
   have hend : f3 = true ∨ k = p.cols.toNat := by (cases f3 with | true => exact .inl rfl | false => exact .inr (by have h9 : ¬ (k : Int) < (p.cols.toNat : Int) := (by simpa using hc32); omega))
   have hde := dot_end hs hk hend
   rw [hde] at hts
   refine wp_exit ?_
   refine x_exS ?_
   refine x_exS ?_
   refine x_exit ?_
   refine hK27 _ _ ?_; try clear hK27 K27
   refine wp_region_lit ?_
   refine l_e hf rfl (ev_fieldB hf rfl fd_141_2 (m := 2) rfl) ?_; intro a hf
   refine l_e hf rfl (ev_load1 hf rfl t1_139 (hB11.at 2)) ?_; intro a hf
   refine l_e hf rfl (ev_loadN (l := [.int .i64 sum.num.a, .int .i64 sum.num.b, .int .i64 sum.num.c, .int .i64 sum.num.d, .int .i64 sum.exp]) hf rfl tN_189 (hB26.at 0) rfl) ?_; intro a hf
   refine l_f hf rfl (ef_buildSlice (k := 1) (vs := [.agg #[.int .i64 sum.num.a, .int .i64 sum.num.b, .int .i64 sum.num.c, .int .i64 sum.num.d, .int .i64 sum.exp]]) (zs := [.int .i64 sum.num.a, .int .i64 sum.num.b, .int .i64 sum.num.c, .int .i64 sum.num.d, .int .i64 sum.exp]) hf rfl sl_139 inf_189 rfl rfl) ?_; rintro a _ w15 ⟨b38, rfl, hl38, hE, hB38⟩ hf
   have hne26_38 : b26 ≠ b38 := by have := hB26.lt; omega
   have hlo38 := Nat.le_trans hW.size hl38
   have haw1_38 := hr_p.away hl38
   have haw2_38 := hr_q.away hl38
   have haw20_38 := ho20.away hl38
   replace hBV := hBV.below hE
   replace hB4 := hB4.below hE
   replace hB5 := hB5.below hE
   replace hB7 := hB7.below hE
   replace hB11 := hB11.below hE
   replace hB26 := hB26.below hE
   replace hr_p := hr_p.below hE
   replace hr_q := hr_q.below hE
   replace ho20 := ho20.below hE
   replace hW := ktr hW hE
   clear hE
   refine l_f hf rfl (ef_append (enc := encD) (l := (l2)) (l2 := ([sum])) (B0 := w0.heap.size) hf rfl rfl sl_139 inf_189 encD_len encD_one ho20 (Rd.of_blk hB38 rfl _ hB38.lt) (by simp only [maxLen]; simp; omega) (by simp; omega) hW.size) ?_; rintro a _ w16 ⟨A40, c40, rfl, ho40, hg, hat⟩ hf
   have hown : Own _ w0.heap.size 189 5 encD _ _ (l2) := ho20
   have haw40_26 := hat _ hB26.lt haw20_26
   have haw40_38 := hat _ hB38.lt haw20_38
   clear hat
   replace hBV := hBV.appT hown hg rfl
   replace hB4 := hB4.appT hown hg rfl
   replace hB5 := hB5.appT hown hg rfl
   replace hB7 := hB7.appT hown hg rfl
   replace hB11 := hB11.appT hown hg rfl
   replace hB26 := hB26.appA hg haw20_26
   replace hr_p := hr_p.appB hown hg (Nat.le_refl _)
   replace hr_q := hr_q.appB hown hg (Nat.le_refl _)
   replace hW := Kept.app hW hown hg (Nat.le_refl _) hW.size
   clear hown hg
   refine l_e hf rfl (ev_fieldB hf rfl fd_141_2 (m := 2) rfl) ?_; intro a hf
   refine l_f0 hf (ef_store (vs := [.slice A40 (l2 ++ ([sum])).length c40]) (l' := [.int .i64 p.rows, .int .i64 (q.cols.toNat : Int), .slice A40 (l2 ++ ([sum])).length c40]) hf rfl rfl sz_139 hB11 rfl rfl rfl rfl rfl) ?_; rintro a _ w17 ⟨ho, hb⟩ hf
   have hold := hB11
   replace hBV := hBV.only ho (Blk.ne hBV hold rfl)
   replace hB4 := hB4.only ho (by omega)
   replace hB5 := hB5.only ho (by omega)
   replace hB7 := hB7.only ho (by omega)
   replace hB26 := hB26.only ho (Blk.ne hB26 hold rfl)
   replace hr_p := hr_p.onlyT ho hold rfl
   replace hr_q := hr_q.onlyT ho hold rfl
   replace ho40 := ho40.onlyT ho hold rfl
   replace hW := Kept.only hW ho hlo11
   clear hold
   have hB11 := hb
   clear hb ho
   refine wpList_nil ?_
   refine x_norm ?_
   refine hK24 _ _ ?_; try clear hK24 K24
   refine wp_region_lit ?_
   refine l_mv hf rfl rfl ?_; intro a hf
   refine l_e hf rfl (ev_addx hf rfl rfl (by omega) (by omega)) ?_; intro a hf
   refine l_as hf rfl rfl ?_; intro a hf
   refine wpList_nil ?_
   refine x_thenN ?_
   exact ⟨(j + 1, l2 ++ [sum], f3), ⟨A40, c40, hf.sub ⟨rfl, rfl, rfl, rfl, rfl, rfl, rfl, trivial⟩, (by omega), hts, hBV, hB4, hB5, hB7, hB11, hr_p, hr_q, ho40, hW⟩, (by first | omega | (dsimp only; omega))⟩
  have hc23b := hc23
  have hc23 := of_decide_eq_false hc23
  have hj1 : j = q.cols.toNat := by have := hc23; omega
  refine wp_exit ?_
  refine x_exS ?_
  refine x_exS ?_
  refine x_exit ?_
  refine x_norm ?_
  refine hK18 _ _ ?_; try clear hK18 K18
  refine wp_region_lit ?_
  refine l_mv hf rfl rfl ?_; intro a hf
  refine l_e hf rfl (ev_addx hf rfl rfl (by omega) (by omega)) ?_; intro a hf
  refine l_as hf rfl rfl ?_; intro a hf
  refine wpList_nil ?_
  refine x_thenN ?_
  exact ⟨(i + 1, l2, f2), ⟨A20, c20, hf.sub ⟨rfl, rfl, rfl, rfl, rfl, rfl, trivial⟩, (by omega), (by rw [Nat.add_mul, Nat.one_mul, ← hj1]; rw [← hj1] at hl2; exact hl2), hBV, hB4, hB5, hB7, hB11, hr_p, hr_q, ho20, hW⟩, (by first | omega | (dsimp only; omega))⟩
 have hc17b := hc17
 have hc17 := of_decide_eq_false hc17
 have hi1 : i = p.rows.toNat := by have := hc17; omega
 refine wp_exit ?_
 refine x_exS ?_
 refine x_exS ?_
 refine x_exit ?_
 refine hK12 _ _ ?_; try clear hK12 K12
 refine wp_seq_k ?_; intro K41 hK41
 refine wp_region_lit ?_
 refine l_e hf rfl (ev_loadN (l := [.int .i64 p.rows, .int .i64 (q.cols.toNat : Int), .slice A14 l.length c14]) hf rfl tN_141 (hB11.at 0) rfl) ?_; intro a hf
 refine l_f0 hf (ef_store (vs := [.int .i64 p.rows, .int .i64 (q.cols.toNat : Int), .slice A14 l.length c14]) (l' := [.int .i64 p.rows, .int .i64 (q.cols.toNat : Int), .slice A14 l.length c14]) hf rfl rfl sz_141 hB7 rfl rfl rfl rfl rfl) ?_; rintro a _ w18 ⟨ho, hb⟩ hf
 have hold := hB7
 replace hBV := hBV.only ho (Blk.ne hBV hold rfl)
 replace hB4 := hB4.only ho (by omega)
 replace hB5 := hB5.only ho (by omega)
 replace hB11 := hB11.only ho (by omega)
 replace hr_p := hr_p.onlyT ho hold rfl
 replace hr_q := hr_q.onlyT ho hold rfl
 replace ho14 := ho14.onlyT ho hold rfl
 replace hW := Kept.only hW ho hlo7
 clear hold
 have hB7 := hb
 clear hb ho
 refine wpList_nil ?_
 refine hK41 _ _ ?_; try clear hK41 K41
 refine wp_ret ?_
 refine c_ret hf (res1 hf rfl (ResV.cellN (l := [.int .i64 p.rows, .int .i64 (q.cols.toNat : Int), .slice A14 l.length c14]) rfl tN_141 (hB7.at 0) rfl)) ?_
 have hfin : timesS f p q = (f1, ⟨p.rows, q.cols, l⟩) := by rw [timesS, ← hi1, hl]
 rw [hfin]
 exact ⟨A14, c14, rfl, ho14, hW, hBV⟩
end Go.Proofs.YtfgnmflfiobkmaaGreat
set_option maxRecDepth 4000
namespace Go.Proofs.YtfgnmflfiobkmaaGreat
open Go.RowKit
end Go.Proofs.YtfgnmflfiobkmaaGreat
set_option maxRecDepth 4000
namespace Go.Proofs.YtfgnmflfiobkmaaGreat
open Go.RowKit
theorem F128 (w0 : World) (Al : Option Addr) (cl : Nat) (l : List Int) (hr_l : Rd w0 w0.heap.size 3 encI Al l) (n : Int) (B0 : Nat) (ho : Own w0 B0 3 1 encI Al cl l) (hB0 : B0 ≤ w0.heap.size) (hln : l.length ≤ 1000000000) : Ret Tryz.prog 128 [.slice Al l.length cl, .int .i64 n] w0 (fun v w => ∃ A c, v = .slice A (putI l n).length c ∧ Own w B0 3 1 encI A c (putI l n) ∧ Below w0.heap.size w0 w) := by
 refine enter Tryz.func128 rfl 48 rfl rfl ?_
 intro a hf
 have hW : Below w0.heap.size w0 w0 := Below.refl _ _
 refine wp_seq_k ?_; intro K2 hK2
 refine wp_region_lit ?_
 refine l_as hf rfl rfl ?_; intro a hf
 refine wpList_nil ?_
 refine hK2 _ _ ?_; try clear hK2 K2
 refine wp_seq_k ?_; intro K4 hK4
 refine wp_region_lit ?_
 refine l_as hf rfl rfl ?_; intro a hf
 refine wpList_nil ?_
 refine hK4 _ _ ?_; try clear hK4 K4
 refine wp_seq_k ?_; intro K5 hK5
 refine wp_block ?_
 refine c_loop (σ := Nat) (fun (k : Nat) (a : Act) (w : World) => Fr a 48 [(0, .slice Al l.length cl), (1, .int .i64 n), (5, .int .i64 (k : Int))] ∧ (k ≤ l.length) ∧ ((l.take k).all (fun x => decide (x < n)) = true) ∧ Below w0.heap.size w0 w) (fun (k : Nat) => l.length - k) 0 ?_ ?_
 · exact ⟨hf.sub ⟨rfl, rfl, rfl, trivial⟩, (Nat.zero_le _), rfl, hW⟩
 rintro k a w1 ⟨hf, hk, hpre, hW⟩
 refine wp_seq_k ?_; intro K6 hK6
 refine wp_seq_k ?_; intro K7 hK7
 refine c_cut (fun a w => Fr a 48 [(0, .slice Al l.length cl), (1, .int .i64 n), (5, .int .i64 (k : Int)), (18, .bool (decide ((k : Int) < (l.length : Int)) && decide ((l.getD k 0) < n)))] ∧ w1 = w) ?_ ?_
 ·refine wp_region_lit ?_
  refine l_mv hf rfl rfl ?_; intro a hf
  refine l_mv hf rfl rfl ?_; intro a hf
  refine l_e hf rfl (ev_len hf rfl sl_36) ?_; intro a hf
  refine l_e hf rfl (ev_lss hf rfl rfl) ?_; intro a hf
  refine l_mv hf rfl rfl ?_; intro a hf
  refine g_split hf (t := 11) rfl (fun hg8 => ?_) (fun hg8 => ?_)
  ·refine l_ev hf ⟨_, _, rfl, rfl, hg8⟩ rfl rfl (ev_move hf rfl) ?_; intro a hf
   refine l_ev hf ⟨_, _, rfl, rfl, hg8⟩ rfl rfl (ev_move hf rfl) ?_; intro a hf
   refine l_index (k := k) (u := (l.getD k 0)) (enc := encI) (l := l) hf ⟨_, _, rfl, rfl, hg8⟩ rfl rfl rfl sl_36 sz_3 encI_len (hr_l.below' hW) (getD_getB (by assumption)) rfl ?_; intro a p10 hat9 hf
   refine l_ev hf ⟨_, _, rfl, rfl, hg8⟩ rfl rfl (ev_load1 hf rfl t1_3 hat9) ?_; intro a hf
   refine l_ev hf ⟨_, _, rfl, rfl, hg8⟩ rfl rfl (ev_move hf rfl) ?_; intro a hf
   refine l_ev hf ⟨_, _, rfl, rfl, hg8⟩ rfl rfl (ev_lss hf rfl rfl) ?_; intro a hf
   refine l_e hf rfl (ev_pickT hf rfl hg8 rfl) ?_; intro a hf
   refine wpList_nil ?_
   exact ⟨hf.sub ⟨rfl, rfl, rfl, look_bool rfl (by first | rfl | (simp only [hg8, Bool.true_and, Bool.false_and, Bool.true_or, Bool.false_or]; done) | simp [hg8]), trivial⟩, rfl⟩
  refine l_pass hf ⟨_, _, rfl, rfl, hg8⟩ rfl rfl ?_; intro a hf
  refine l_pass hf ⟨_, _, rfl, rfl, hg8⟩ rfl rfl ?_; intro a hf
  refine l_pass hf ⟨_, _, rfl, rfl, hg8⟩ rfl rfl ?_; intro a hf
  refine l_pass hf ⟨_, _, rfl, rfl, hg8⟩ rfl rfl ?_; intro a hf
  refine l_pass hf ⟨_, _, rfl, rfl, hg8⟩ rfl rfl ?_; intro a hf
  refine l_pass hf ⟨_, _, rfl, rfl, hg8⟩ rfl rfl ?_; intro a hf
  refine l_e hf rfl (ev_pickF hf rfl hg8 rfl) ?_; intro a hf
  refine wpList_nil ?_
  exact ⟨hf.sub ⟨rfl, rfl, rfl, look_bool rfl (by first | rfl | (simp only [hg8, Bool.true_and, Bool.false_and, Bool.true_or, Bool.false_or]; done) | simp [hg8]), trivial⟩, rfl⟩
 rintro a _ ⟨hf, rfl⟩
 refine hK7 _ _ ?_; try clear hK7 K7
 refine c_if hf rfl (fun hc11 => ?_) (fun hc11 => ?_)
 ·have hc11b := hc11
  have hlt : (k : Int) < l.length ∧ l.getD k 0 < n := by simpa using hc11
  have hk1 : k < l.length := by omega
  refine wp_skip ?_
  refine hK6 _ _ ?_; try clear hK6 K6
  refine wp_block ?_
  refine wp_region_lit ?_
  refine l_mv hf rfl rfl ?_; intro a hf
  refine l_e hf rfl (ev_addx hf rfl rfl (by omega) (by omega)) ?_; intro a hf
  refine l_as hf rfl rfl ?_; intro a hf
  refine wpList_nil ?_
  refine x_norm ?_
  refine x_thenN ?_
  exact ⟨k + 1, ⟨hf.sub ⟨rfl, rfl, rfl, trivial⟩, (by omega), (take_all hpre (getD_get hk1) (by simpa using hlt.2)), hW⟩, (by omega)⟩
 have hc11b := hc11
 have hst : k < l.length → ¬ l.getD k 0 < n := by intro h0 h1; revert hc11; simp only [h1, decide_true, Bool.and_true, decide_eq_false_iff_not]; omega
 have hpa := put_at l n k hpre hk hst
 refine wp_exit ?_
 refine x_exS ?_
 refine x_exS ?_
 refine x_exit ?_
 refine hK5 _ _ ?_; try clear hK5 K5
 refine wp_seq_k ?_; intro K12 hK12
 refine wp_seq_k ?_; intro K13 hK13
 refine c_cut (fun a w => Fr a 48 [(0, .slice Al l.length cl), (1, .int .i64 n), (5, .int .i64 (k : Int)), (32, .bool (decide ((k : Int) < (l.length : Int)) && (l.getD k 0) == n))] ∧ w1 = w) ?_ ?_
 ·refine wp_region_lit ?_
  refine l_mv hf rfl rfl ?_; intro a hf
  refine l_mv hf rfl rfl ?_; intro a hf
  refine l_e hf rfl (ev_len hf rfl sl_36) ?_; intro a hf
  refine l_e hf rfl (ev_lss hf rfl rfl) ?_; intro a hf
  refine l_mv hf rfl rfl ?_; intro a hf
  refine g_split hf (t := 25) rfl (fun hg14 => ?_) (fun hg14 => ?_)
  ·refine l_ev hf ⟨_, _, rfl, rfl, hg14⟩ rfl rfl (ev_move hf rfl) ?_; intro a hf
   refine l_ev hf ⟨_, _, rfl, rfl, hg14⟩ rfl rfl (ev_move hf rfl) ?_; intro a hf
   refine l_index (k := k) (u := (l.getD k 0)) (enc := encI) (l := l) hf ⟨_, _, rfl, rfl, hg14⟩ rfl rfl rfl sl_36 sz_3 encI_len (hr_l.below' hW) (getD_getB (by assumption)) rfl ?_; intro a p16 hat15 hf
   refine l_ev hf ⟨_, _, rfl, rfl, hg14⟩ rfl rfl (ev_load1 hf rfl t1_3 hat15) ?_; intro a hf
   refine l_ev hf ⟨_, _, rfl, rfl, hg14⟩ rfl rfl (ev_move hf rfl) ?_; intro a hf
   refine l_ev hf ⟨_, _, rfl, rfl, hg14⟩ rfl rfl (ev_eql hf rfl rfl) ?_; intro a hf
   refine l_e hf rfl (ev_pickT hf rfl hg14 rfl) ?_; intro a hf
   refine wpList_nil ?_
   exact ⟨hf.sub ⟨rfl, rfl, rfl, look_bool rfl (by first | rfl | (simp only [hc11b, hg14, Bool.true_and, Bool.false_and, Bool.true_or, Bool.false_or]; done) | simp [hc11b, hg14]), trivial⟩, rfl⟩
  refine l_pass hf ⟨_, _, rfl, rfl, hg14⟩ rfl rfl ?_; intro a hf
  refine l_pass hf ⟨_, _, rfl, rfl, hg14⟩ rfl rfl ?_; intro a hf
  refine l_pass hf ⟨_, _, rfl, rfl, hg14⟩ rfl rfl ?_; intro a hf
  refine l_pass hf ⟨_, _, rfl, rfl, hg14⟩ rfl rfl ?_; intro a hf
  refine l_pass hf ⟨_, _, rfl, rfl, hg14⟩ rfl rfl ?_; intro a hf
  refine l_pass hf ⟨_, _, rfl, rfl, hg14⟩ rfl rfl ?_; intro a hf
  refine l_e hf rfl (ev_pickF hf rfl hg14 rfl) ?_; intro a hf
  refine wpList_nil ?_
  exact ⟨hf.sub ⟨rfl, rfl, rfl, look_bool rfl (by first | rfl | (simp only [hc11b, hg14, Bool.true_and, Bool.false_and, Bool.true_or, Bool.false_or]; done) | simp [hc11b, hg14]), trivial⟩, rfl⟩
 rintro a _ ⟨hf, rfl⟩
 refine hK13 _ _ ?_; try clear hK13 K13
 refine c_if hf rfl (fun hc17 => ?_) (fun hc17 => ?_)
 ·have hc17b := hc17
  have hyy : k < l.length ∧ l.getD k 0 = n := by have h9 : (k : Int) < l.length ∧ l.getD k 0 = n := (by simpa using hc17); omega
  have hfin := hpa.1 hyy
  refine wp_seq_k ?_; intro K18 hK18
  refine wp_region_lit ?_
  refine l_mv hf rfl rfl ?_; intro a hf
  refine l_as hf rfl rfl ?_; intro a hf
  refine wpList_nil ?_
  refine hK18 _ _ ?_; try clear hK18 K18
  refine wp_ret ?_
  refine x_retS ?_
  refine c_ret hf (res1 hf rfl rfl) ?_
  rw [hfin]
  exact ⟨_, _, rfl, ho.below hW, hW⟩
 have hc17b := hc17
 have hfin := hpa.2 (fun h0 => by revert hc17; rw [h0.2]; simp; omega)
 refine wp_skip ?_
 refine hK12 _ _ ?_; try clear hK12 K12
 refine wp_seq_k ?_; intro K19 hK19
 refine wp_region_lit ?_
 refine l_f hf rfl (ef_buildSlice (k := 0) (vs := []) (zs := []) hf rfl sl_36 inf_3 rfl rfl) ?_; rintro a _ w2 ⟨b20, rfl, hl20, hE, hB20⟩ hf
 have hlo20 := Nat.le_trans hW.size hl20
 have haw1_20 := (hr_l.below' hW).away hl20
 replace hW := btr hW hE
 clear hE
 refine l_mv hf rfl rfl ?_; intro a hf
 refine l_mv hf rfl rfl ?_; intro a hf
 have hr22 := ((hr_l.below' hW).top).takeK encI_len k
 refine l_e hf rfl (ev_takeL (l := l) (k := k) hf rfl rfl sl_36 sz_3 rfl hk ho.cap) ?_; intro a hf
 refine l_f hf rfl (ef_append (enc := encI) (l := ([] : List Int)) (l2 := ((l.take k))) (B0 := w0.heap.size) hf rfl rfl sl_36 inf_3 encI_len encI_one (Own.empty hB20 hlo20) hr22 (by simp only [maxLen]; simp; omega) (by simp; omega) hW.size) ?_; rintro a _ w3 ⟨A23, c23, rfl, ho23, hg, hat⟩ hf
 have hown : Own _ w0.heap.size 3 1 encI _ _ ([] : List Int) := (Own.empty hB20 hlo20)
 clear hat
 replace hW := Below.app hW hown hg (Nat.le_refl _) hW.size
 clear hown hg
 simp only [List.nil_append] at ho23 hf
 refine l_as hf rfl rfl ?_; intro a hf
 refine wpList_nil ?_
 refine hK19 _ _ ?_; try clear hK19 K19
 refine wp_seq_k ?_; intro K24 hK24
 refine wp_region_lit ?_
 refine l_mv hf rfl rfl ?_; intro a hf
 refine l_mv hf rfl rfl ?_; intro a hf
 refine l_f hf rfl (ef_buildSlice (k := 1) (vs := [.int .i64 n]) (zs := [.int .i64 n]) hf rfl sl_36 inf_3 rfl rfl) ?_; rintro a _ w4 ⟨b25, rfl, hl25, hE, hB25⟩ hf
 have hlo25 := Nat.le_trans hW.size hl25
 have haw1_25 := (hr_l.below' hW).away hl25
 have haw23_25 := ho23.away hl25
 replace ho23 := ho23.below hE
 replace hW := btr hW hE
 clear hE
 refine l_f hf rfl (ef_append (enc := encI) (l := ((l.take k))) (l2 := ([n])) (B0 := w0.heap.size) hf rfl rfl sl_36 inf_3 encI_len encI_one ho23 (Rd.of_blk hB25 rfl _ hB25.lt) (by simp only [maxLen]; simp; omega) (by simp; omega) hW.size) ?_; rintro a _ w5 ⟨A27, c27, rfl, ho27, hg, hat⟩ hf
 have hown : Own _ w0.heap.size 3 1 encI _ _ ((l.take k)) := ho23
 have haw27_25 := hat _ hB25.lt haw23_25
 clear hat
 replace hW := Below.app hW hown hg (Nat.le_refl _) hW.size
 clear hown hg
 refine l_as hf rfl rfl ?_; intro a hf
 refine wpList_nil ?_
 refine hK24 _ _ ?_; try clear hK24 K24
 refine wp_seq_k ?_; intro K28 hK28
 refine wp_region_lit ?_
 refine l_mv hf rfl rfl ?_; intro a hf
 refine l_mv hf rfl rfl ?_; intro a hf
 refine l_mv hf rfl rfl ?_; intro a hf
 have hr29 := ((hr_l.below' hW).top).dropK encI_len (c := cl) ho.cap k
 refine l_e hf rfl (ev_dropL (l := l) (k := k) hf rfl rfl sl_36 sz_3 rfl hk) ?_; intro a hf
 refine l_f hf rfl (ef_append (enc := encI) (l := ((l.take k) ++ ([n]))) (l2 := ((l.drop k))) (B0 := w0.heap.size) hf rfl rfl sl_36 inf_3 encI_len encI_one ho27 hr29 (by simp only [maxLen]; simp; omega) (by simp; omega) hW.size) ?_; rintro a _ w6 ⟨A30, c30, rfl, ho30, hg, hat⟩ hf
 have hown : Own _ w0.heap.size 3 1 encI _ _ ((l.take k) ++ ([n])) := ho27
 clear hat
 replace hW := Below.app hW hown hg (Nat.le_refl _) hW.size
 clear hown hg
 refine l_as hf rfl rfl ?_; intro a hf
 refine wpList_nil ?_
 refine hK28 _ _ ?_; try clear hK28 K28
 refine wp_ret ?_
 refine c_ret hf (res1 hf rfl rfl) ?_
 rw [hfin]
 exact ⟨A30, c30, rfl, (ho30).lower hB0, hW⟩
end Go.Proofs.YtfgnmflfiobkmaaGreat
set_option maxRecDepth 4000
namespace Go.Proofs.YtfgnmflfiobkmaaGreat
open Go.RowKit
end Go.Proofs.YtfgnmflfiobkmaaGreat
set_option maxRecDepth 4000
namespace Go.Proofs.YtfgnmflfiobkmaaGreat
open Go.RowKit
end Go.Proofs.YtfgnmflfiobkmaaGreat
set_option maxRecDepth 4000
namespace Go.Proofs.YtfgnmflfiobkmaaGreat
open Go.RowKit
theorem F42 (w0 : World) {X_l : TypeId} (Al : Option Addr) (cl : Nat) (l : List Gt) (hr_l : Rd w0 w0.heap.size X_l encG Al l) (t : Int) (ht : 0 ≤ t ∧ t ≤ 1048576) (hln : l.length ≤ 9223372036854775807) : Ret Tryz.prog 42 [.slice Al l.length cl, .int .i64 t] w0 (fun v w => v = .int .i64 (szG l t) ∧ w0 = w) := by
 refine enter Tryz.func42 rfl 12 rfl rfl ?_
 intro a hf
 have hW : Below w0.heap.size w0 w0 := Below.refl _ _
 refine wp_seq_k ?_; intro K2 hK2
 refine wp_region_lit ?_
 refine l_as hf rfl rfl ?_; intro a hf
 refine wpList_nil ?_
 refine hK2 _ _ ?_; try clear hK2 K2
 refine wp_seq_k ?_; intro K3 hK3
 refine wp_region_lit ?_
 refine l_mv hf rfl rfl ?_; intro a hf
 refine l_mv hf rfl rfl ?_; intro a hf
 refine l_e hf rfl (ev_len hf rfl sl_22) ?_; intro a hf
 refine l_e hf rfl (ev_subx hf rfl rfl (by omega) (by omega)) ?_; intro a hf
 refine l_as hf rfl rfl ?_; intro a hf
 refine wpList_nil ?_
 refine hK3 _ _ ?_; try clear hK3 K3
 refine wp_seq_k ?_; intro K4 hK4
 refine wp_seq_k ?_; intro K5 hK5
 refine wp_region_lit ?_
 refine l_mv hf rfl rfl ?_; intro a hf
 refine l_e hf rfl (ev_lss hf rfl rfl) ?_; intro a hf
 refine wpList_nil ?_
 refine hK5 _ _ ?_; try clear hK5 K5
 refine c_if hf rfl (fun hc6 => ?_) (fun hc6 => ?_)
 ·have hc6b := hc6
  have hc6 := of_decide_eq_true hc6
  have hfin : szG l t = -1 := by rw [szG, if_pos hc6]
  refine wp_seq_k ?_; intro K7 hK7
  refine wp_region_lit ?_
  refine l_as hf rfl rfl ?_; intro a hf
  refine wpList_nil ?_
  refine hK7 _ _ ?_; try clear hK7 K7
  refine wp_ret ?_
  refine x_retS ?_
  refine c_ret hf (res1 hf rfl rfl) ?_
  exact ⟨by rw [hfin], rfl⟩
 have hc6b := hc6
 have hc6 := of_decide_eq_false hc6
 have hfin : szG l t = t - (l.length : Int) := by rw [szG, if_neg hc6]
 refine wp_skip ?_
 refine hK4 _ _ ?_; try clear hK4 K4
 refine wp_seq_k ?_; intro K8 hK8
 refine wp_region_lit ?_
 refine l_mv hf rfl rfl ?_; intro a hf
 refine l_as hf rfl rfl ?_; intro a hf
 refine wpList_nil ?_
 refine hK8 _ _ ?_; try clear hK8 K8
 refine wp_ret ?_
 refine c_ret hf (res1 hf rfl rfl) ?_
 exact ⟨by rw [hfin], rfl⟩
theorem F90 (w0 : World) (x : Gt) : Ret Tryz.prog 90 [.agg #[.int .i64 x.k, .int .i64 x.a, .int .i64 x.b]] w0 (fun v w => v = gV x ∧ Below w0.heap.size w0 w) := by
 refine enter Tryz.func90 rfl 14 rfl rfl ?_
 intro a hf
 have hW : Below w0.heap.size w0 w0 := Below.refl _ _
 refine wp_seq_k ?_; intro K1 hK1
 refine wp_region_lit ?_
 refine l_f hf rfl (ef_box (zs := [.int .i64 x.k, .int .i64 x.a, .int .i64 x.b]) hf rfl rfl) ?_; rintro a _ w1 ⟨b2, rfl, hl2, hE, hB2⟩ hf
 have hlo2 := Nat.le_trans hW.size hl2
 replace hW := btr hW hE
 clear hE
 refine l_f hf rfl (ef_alloc (zs := [.int .i64 0, .int .i64 0, .int .i64 0]) z_107 rfl) ?_; rintro a _ w2 ⟨b3, rfl, hl3, hE, hB3⟩ hf
 have hlo3 := Nat.le_trans hW.size hl3
 replace hB2 := hB2.below hE
 replace hW := btr hW hE
 clear hE
 refine wpList_nil ?_
 refine hK1 _ _ ?_; try clear hK1 K1
 refine wp_seq_k ?_; intro K4 hK4
 refine wp_region_lit ?_
 refine l_f hf rfl (ef_alloc (zs := [.int .i64 0, .int .i64 0, .int .i64 0]) z_107 rfl) ?_; rintro a _ w3 ⟨b5, rfl, hl5, hE, hB5⟩ hf
 have hne3_5 : b3 ≠ b5 := by have := hB3.lt; omega
 have hlo5 := Nat.le_trans hW.size hl5
 replace hB2 := hB2.below hE
 replace hB3 := hB3.below hE
 replace hW := btr hW hE
 clear hE
 refine wpList_nil ?_
 refine hK4 _ _ ?_; try clear hK4 K4
 refine wp_seq_k ?_; intro K6 hK6
 refine wp_region_lit ?_
 refine l_e hf rfl (ev_fieldB hf rfl fd_134_0 (m := 0) rfl) ?_; intro a hf
 refine l_e hf rfl (ev_load1 hf rfl t1_3 (hB2.at 0)) ?_; intro a hf
 refine l_e hf rfl (ev_fieldB hf rfl fd_107_0 (m := 0) rfl) ?_; intro a hf
 refine l_f0 hf (ef_store (vs := [.int .i64 x.k]) (l' := [.int .i64 x.k, .int .i64 0, .int .i64 0]) hf rfl rfl sz_3 hB5 rfl rfl rfl rfl rfl) ?_; rintro a _ w4 ⟨ho, hb⟩ hf
 have hold := hB5
 replace hB2 := hB2.only ho (Blk.ne hB2 hold rfl)
 replace hB3 := hB3.only ho (by omega)
 replace hW := Below.only hW ho hlo5
 clear hold
 have hB5 := hb
 clear hb ho
 refine wpList_nil ?_
 refine hK6 _ _ ?_; try clear hK6 K6
 refine wp_seq_k ?_; intro K7 hK7
 refine wp_region_lit ?_
 refine l_e hf rfl (ev_fieldB hf rfl fd_134_1 (m := 1) rfl) ?_; intro a hf
 refine l_e hf rfl (ev_load1 hf rfl t1_3 (hB2.at 1)) ?_; intro a hf
 refine l_e hf rfl (ev_fieldB hf rfl fd_107_1 (m := 1) rfl) ?_; intro a hf
 refine l_f0 hf (ef_store (vs := [.int .i64 x.a]) (l' := [.int .i64 x.k, .int .i64 x.a, .int .i64 0]) hf rfl rfl sz_3 hB5 rfl rfl rfl rfl rfl) ?_; rintro a _ w5 ⟨ho, hb⟩ hf
 have hold := hB5
 replace hB2 := hB2.only ho (Blk.ne hB2 hold rfl)
 replace hB3 := hB3.only ho (by omega)
 replace hW := Below.only hW ho hlo5
 clear hold
 have hB5 := hb
 clear hb ho
 refine wpList_nil ?_
 refine hK7 _ _ ?_; try clear hK7 K7
 refine wp_seq_k ?_; intro K8 hK8
 refine wp_region_lit ?_
 refine l_e hf rfl (ev_fieldB hf rfl fd_134_2 (m := 2) rfl) ?_; intro a hf
 refine l_e hf rfl (ev_load1 hf rfl t1_3 (hB2.at 2)) ?_; intro a hf
 refine l_e hf rfl (ev_fieldB hf rfl fd_107_2 (m := 2) rfl) ?_; intro a hf
 refine l_f0 hf (ef_store (vs := [.int .i64 x.b]) (l' := [.int .i64 x.k, .int .i64 x.a, .int .i64 x.b]) hf rfl rfl sz_3 hB5 rfl rfl rfl rfl rfl) ?_; rintro a _ w6 ⟨ho, hb⟩ hf
 have hold := hB5
 replace hB2 := hB2.only ho (Blk.ne hB2 hold rfl)
 replace hB3 := hB3.only ho (by omega)
 replace hW := Below.only hW ho hlo5
 clear hold
 have hB5 := hb
 clear hb ho
 refine wpList_nil ?_
 refine hK8 _ _ ?_; try clear hK8 K8
 refine wp_seq_k ?_; intro K9 hK9
 refine wp_region_lit ?_
 refine l_e hf rfl (ev_loadN (l := [.int .i64 x.k, .int .i64 x.a, .int .i64 x.b]) hf rfl tN_107 (hB5.at 0) rfl) ?_; intro a hf
 refine l_f0 hf (ef_store (vs := [.int .i64 x.k, .int .i64 x.a, .int .i64 x.b]) (l' := [.int .i64 x.k, .int .i64 x.a, .int .i64 x.b]) hf rfl rfl sz_107 hB3 rfl rfl rfl rfl rfl) ?_; rintro a _ w7 ⟨ho, hb⟩ hf
 have hold := hB3
 replace hB5 := hB5.only ho (by omega)
 replace hW := Below.only hW ho hlo3
 clear hold
 have hB3 := hb
 clear hb ho
 refine wpList_nil ?_
 refine hK9 _ _ ?_; try clear hK9 K9
 refine wp_ret ?_
 refine c_ret hf (res1 hf rfl (ResV.cellN (l := [.int .i64 x.k, .int .i64 x.a, .int .i64 x.b]) rfl tN_107 (hB3.at 0) rfl)) ?_
 exact ⟨rfl, hW⟩
theorem F45 (w0 : World) {X_l : TypeId} (Al : Option Addr) (cl : Nat) (l : List Gt) (hr_l : Rd w0 w0.heap.size X_l encG Al l) (hln : l.length ≤ 1048576) : Ret Tryz.prog 45 [.slice Al l.length cl] w0 (fun v w => ∃ A c, v = .slice A l.length c ∧ Own w w0.heap.size 107 3 encG A c l ∧ Below w0.heap.size w0 w) := by
 refine enter Tryz.func45 rfl 23 rfl rfl ?_
 intro a hf
 have hW : Below w0.heap.size w0 w0 := Below.refl _ _
 refine wp_seq_k ?_; intro K2 hK2
 refine wp_region_lit ?_
 refine l_as hf rfl rfl ?_; intro a hf
 refine wpList_nil ?_
 refine hK2 _ _ ?_; try clear hK2 K2
 refine wp_seq_k ?_; intro K4 hK4
 refine wp_region_lit ?_
 refine l_mv hf rfl rfl ?_; intro a hf
 refine l_e hf rfl (ev_len hf rfl sl_22) ?_; intro a hf
 refine l_f hf rfl (ef_makeSlice (m := l.length) (enc := encG) (z0 := (⟨0, 0, 0⟩ : Gt)) hf rfl rfl sl_28 inf_107 z_107 rfl encG_len (by omega) (by omega)) ?_; rintro a _ w1 ⟨b5, rfl, hl5, hE, hB5⟩ hf
 have hlo5 := Nat.le_trans hW.size hl5
 replace hW := btr hW hE
 clear hE
 refine l_as hf rfl rfl ?_; intro a hf
 refine wpList_nil ?_
 refine hK4 _ _ ?_; try clear hK4 K4
 refine wp_seq_k ?_; intro K7 hK7
 refine wp_seq_k ?_; intro K8 hK8
 refine wp_region_lit ?_
 refine l_as hf rfl rfl ?_; intro a hf
 refine wpList_nil ?_
 refine hK8 _ _ ?_; try clear hK8 K8
 refine wp_block ?_
 refine c_loop (σ := Nat × (List Gt)) (fun (s : Nat × (List Gt)) (a : Act) (w : World) => match s with | (k, m) => Fr a 23 [(0, .slice Al l.length cl), (3, .slice (some ⟨b5, 0, none⟩) l.length l.length), (4, .int .i64 (k : Int))] ∧ (k ≤ l.length) ∧ (m.length = l.length) ∧ (m.take k = l.take k) ∧ Blk w b5 107 (m.flatMap encG) ∧ Below w0.heap.size w0 w) (fun (s : Nat × (List Gt)) => match s with | (k, m) => l.length - k) (0, List.replicate l.length (⟨0, 0, 0⟩ : Gt)) ?_ ?_
 · exact ⟨hf.sub ⟨rfl, rfl, rfl, trivial⟩, (Nat.zero_le _), (by simp), rfl, hB5, hW⟩
 rintro ⟨k, m⟩ a w2 ⟨hf, hk, hml, hpre, hB5, hW⟩
 refine wp_seq_k ?_; intro K9 hK9
 refine wp_seq_k ?_; intro K10 hK10
 refine wp_region_lit ?_
 refine l_mv hf rfl rfl ?_; intro a hf
 refine l_mv hf rfl rfl ?_; intro a hf
 refine l_e hf rfl (ev_len hf rfl sl_22) ?_; intro a hf
 refine l_e hf rfl (ev_lss hf rfl rfl) ?_; intro a hf
 refine wpList_nil ?_
 refine hK10 _ _ ?_; try clear hK10 K10
 refine c_if hf rfl (fun hc11 => ?_) (fun hc11 => ?_)
 ·have hc11b := hc11
  have hc11 := of_decide_eq_true hc11
  obtain ⟨u12, hu12⟩ := getElem_ex (l := l) (k := k) (by omega)
  refine wp_skip ?_
  refine hK9 _ _ ?_; try clear hK9 K9
  refine wp_seq_k ?_; intro K13 hK13
  refine wp_block ?_
  refine wp_region_lit ?_
  refine l_mv hf rfl rfl ?_; intro a hf
  refine l_mv hf rfl rfl ?_; intro a hf
  refine l_mv hf rfl rfl ?_; intro a hf
  refine l_mv hf rfl rfl ?_; intro a hf
  refine l_index (k := k) (u := u12) (enc := encG) (l := l) hf trivial rfl rfl rfl sl_22 sz_134 encG_len (hr_l.below' hW) hu12 rfl ?_; intro a p15 hat14 hf
  refine l_e hf rfl (ev_loadN (l := [.int .i64 u12.k, .int .i64 u12.a, .int .i64 u12.b]) hf rfl tN_134 hat14 rfl) ?_; intro a hf
  refine l_f hf rfl (ef_call (vs := [.agg #[.int .i64 u12.k, .int .i64 u12.a, .int .i64 u12.b]]) hf rfl ff_90 (F90 _ u12)) ?_; rintro a _ w3 ⟨rfl, hE⟩ hf
  replace hB5 := hB5.below hE
  replace hW := btr hW hE
  clear hE
  refine l_e hf rfl (ev_indexB (k := k) (off := k * 3) hf rfl rfl sl_28 sz_107 rfl (by omega) rfl) ?_; intro a hf
  refine l_f0 hf (ef_storeF (enc := encG) (l := m) (u := u12) (k := k) hf rfl rfl sz_107 hB5 encG_len encG_one rfl (by omega)) ?_; rintro a _ w4 ⟨ho, hb⟩ hf
  have hold := hB5
  replace hW := Below.only hW ho hlo5
  clear hold
  have hB5 := hb
  clear hb ho
  refine wpList_nil ?_
  refine x_norm ?_
  refine hK13 _ _ ?_; try clear hK13 K13
  refine wp_region_lit ?_
  refine l_mv hf rfl rfl ?_; intro a hf
  refine l_e hf rfl (ev_addx hf rfl rfl (by omega) (by omega)) ?_; intro a hf
  refine l_as hf rfl rfl ?_; intro a hf
  refine wpList_nil ?_
  refine x_thenN ?_
  exact ⟨(k + 1, (m.set k u12)), ⟨hf.sub ⟨rfl, rfl, rfl, trivial⟩, (by omega), (by simp; exact hml), (set_take hpre (by omega) hu12), hB5, hW⟩, (by first | omega | (dsimp only; omega))⟩
 have hc11b := hc11
 have hc11 := of_decide_eq_false hc11
 refine wp_exit ?_
 refine x_exS ?_
 refine x_exS ?_
 refine x_exit ?_
 refine hK7 _ _ ?_; try clear hK7 K7
 refine wp_seq_k ?_; intro K16 hK16
 refine wp_region_lit ?_
 refine l_mv hf rfl rfl ?_; intro a hf
 refine l_as hf rfl rfl ?_; intro a hf
 refine wpList_nil ?_
 refine hK16 _ _ ?_; try clear hK16 K16
 refine wp_ret ?_
 refine c_ret hf (res1 hf rfl rfl) ?_
 have hmk : m.length = l.length := hml
 have hmkb : l.length ≤ maxLen := by simp only [maxLen]; omega
 have hfin : m = l := by rw [List.take_of_length_le (by omega), List.take_of_length_le (by omega)] at hpre; exact hpre
 have hown := (Own.of_flat encG_len hB5 hlo5 hmk hmkb)
 rw [hfin] at hown
 exact ⟨(some ⟨b5, 0, none⟩), l.length, rfl, hown, hW⟩
end Go.Proofs.YtfgnmflfiobkmaaGreat
set_option maxRecDepth 4000
namespace Go.Proofs.YtfgnmflfiobkmaaGreat
open Go.RowKit
end Go.Proofs.YtfgnmflfiobkmaaGreat
set_option maxRecDepth 4000
namespace Go.Proofs.YtfgnmflfiobkmaaGreat
open Go.RowKit
end Go.Proofs.YtfgnmflfiobkmaaGreat
set_option maxRecDepth 4000
namespace Go.Proofs.YtfgnmflfiobkmaaGreat
open Go.RowKit
end Go.Proofs.YtfgnmflfiobkmaaGreat
set_option maxRecDepth 4000
namespace Go.Proofs.YtfgnmflfiobkmaaGreat
open Go.RowKit
end Go.Proofs.YtfgnmflfiobkmaaGreat
set_option maxRecDepth 4000
namespace Go.Proofs.YtfgnmflfiobkmaaGreat
open Go.RowKit
end Go.Proofs.YtfgnmflfiobkmaaGreat
set_option maxRecDepth 4000
namespace Go.Proofs.YtfgnmflfiobkmaaGreat
open Go.RowKit
theorem F14 (w0 : World) {Xc : TypeId} (c : Cx) (Ac : Option Addr) (cc : Nat) (hr_c : Rd w0 w0.heap.size Xc encG Ac c.gs) (t : Int) (ht : 0 ≤ t ∧ t ≤ 1048576) (hlc : c.gs.length ≤ 9223372036854775807) : Ret Tryz.prog 14 [.agg #[.int .i64 c.n, .slice Ac c.gs.length cc], .int .i64 t] w0 (fun v w => v = .int .i64 (szG c.gs t) ∧ Below w0.heap.size w0 w) := by
 refine enter Tryz.func14 rfl 12 rfl rfl ?_
 intro a hf
 have hW : Below w0.heap.size w0 w0 := Below.refl _ _
 refine wp_seq_k ?_; intro K2 hK2
 refine wp_region_lit ?_
 refine l_f hf rfl (ef_box (zs := [.int .i64 c.n, .slice Ac c.gs.length cc]) hf rfl rfl) ?_; rintro a _ w1 ⟨b3, rfl, hl3, hE, hB3⟩ hf
 have hlo3 := Nat.le_trans hW.size hl3
 replace hW := btr hW hE
 clear hE
 refine l_as hf rfl rfl ?_; intro a hf
 refine wpList_nil ?_
 refine hK2 _ _ ?_; try clear hK2 K2
 refine wp_seq_k ?_; intro K4 hK4
 refine wp_region_lit ?_
 refine l_e hf rfl (ev_fieldB hf rfl fd_35_1 (m := 1) rfl) ?_; intro a hf
 refine l_e hf rfl (ev_load1 hf rfl t1_22 (hB3.at 1)) ?_; intro a hf
 refine l_mv hf rfl rfl ?_; intro a hf
 refine l_f hf rfl (ef_call (vs := [.slice Ac c.gs.length cc, .int .i64 t]) hf rfl ff_42 (F42 _ Ac cc c.gs (hr_c.below' hW).top t ht hlc)) ?_; rintro a _ _ ⟨rfl, rfl⟩ hf
 refine l_as hf rfl rfl ?_; intro a hf
 refine wpList_nil ?_
 refine hK4 _ _ ?_; try clear hK4 K4
 refine wp_seq_k ?_; intro K5 hK5
 refine wp_seq_k ?_; intro K6 hK6
 refine wp_region_lit ?_
 refine l_mv hf rfl rfl ?_; intro a hf
 refine l_e hf rfl (ev_lss hf rfl rfl) ?_; intro a hf
 refine wpList_nil ?_
 refine hK6 _ _ ?_; try clear hK6 K6
 refine c_if hf rfl (fun hc7 => ?_) (fun hc7 => ?_)
 ·have hc7b := hc7
  have hc7 := of_decide_eq_true hc7
  have hfin : szG c.gs t = -1 := szG_neg hc7
  refine wp_seq_k ?_; intro K8 hK8
  refine wp_region_lit ?_
  refine l_as hf rfl rfl ?_; intro a hf
  refine wpList_nil ?_
  refine hK8 _ _ ?_; try clear hK8 K8
  refine wp_ret ?_
  refine x_retS ?_
  refine c_ret hf (res1 hf rfl rfl) ?_
  exact ⟨by rw [hfin], hW⟩
 have hc7b := hc7
 have hc7 := of_decide_eq_false hc7
 have hne := hc7
 refine wp_skip ?_
 refine hK5 _ _ ?_; try clear hK5 K5
 refine wp_seq_k ?_; intro K9 hK9
 refine wp_region_lit ?_
 refine l_mv hf rfl rfl ?_; intro a hf
 refine l_as hf rfl rfl ?_; intro a hf
 refine wpList_nil ?_
 refine hK9 _ _ ?_; try clear hK9 K9
 refine wp_ret ?_
 refine c_ret hf (res1 hf rfl rfl) ?_
 exact ⟨rfl, hW⟩
theorem F16 (w0 : World) {Xc : TypeId} (c : Cx) (Ac : Option Addr) (cc : Nat) (hr_c : Rd w0 w0.heap.size Xc encG Ac c.gs) (hlc : c.gs.length ≤ 1048576) : Ret Tryz.prog 16 [.agg #[.int .i64 c.n, .slice Ac c.gs.length cc]] w0 (fun v w => ∃ A c1, v = .agg #[.int .i64 c.n, .slice A c.gs.length c1] ∧ Own w w0.heap.size 107 3 encG A c1 c.gs ∧ Below w0.heap.size w0 w) := by
 refine enter Tryz.func16 rfl 12 rfl rfl ?_
 intro a hf
 have hW : Below w0.heap.size w0 w0 := Below.refl _ _
 refine wp_seq_k ?_; intro K2 hK2
 refine wp_region_lit ?_
 refine l_f hf rfl (ef_box (zs := [.int .i64 c.n, .slice Ac c.gs.length cc]) hf rfl rfl) ?_; rintro a _ w1 ⟨b3, rfl, hl3, hE, hB3⟩ hf
 have hlo3 := Nat.le_trans hW.size hl3
 replace hW := btr hW hE
 clear hE
 refine l_f hf rfl (ef_alloc (zs := [.int .i64 0, .slice none 0 0]) z_41 rfl) ?_; rintro a _ w2 ⟨b5, rfl, hl5, hE, hB5⟩ hf
 have hlo5 := Nat.le_trans hW.size hl5
 replace hB3 := hB3.below hE
 replace hW := btr hW hE
 clear hE
 refine wpList_nil ?_
 refine hK2 _ _ ?_; try clear hK2 K2
 refine wp_seq_k ?_; intro K6 hK6
 refine wp_region_lit ?_
 refine l_f hf rfl (ef_alloc (zs := [.int .i64 0, .slice none 0 0]) z_41 rfl) ?_; rintro a _ w3 ⟨b8, rfl, hl8, hE, hB8⟩ hf
 have hne5_8 : b5 ≠ b8 := by have := hB5.lt; omega
 have hlo8 := Nat.le_trans hW.size hl8
 replace hB3 := hB3.below hE
 replace hB5 := hB5.below hE
 replace hW := btr hW hE
 clear hE
 refine wpList_nil ?_
 refine hK6 _ _ ?_; try clear hK6 K6
 refine wp_seq_k ?_; intro K9 hK9
 refine wp_region_lit ?_
 refine l_e hf rfl (ev_fieldB hf rfl fd_35_0 (m := 0) rfl) ?_; intro a hf
 refine l_e hf rfl (ev_load1 hf rfl t1_3 (hB3.at 0)) ?_; intro a hf
 refine l_e hf rfl (ev_fieldB hf rfl fd_41_0 (m := 0) rfl) ?_; intro a hf
 refine l_f0 hf (ef_store (vs := [.int .i64 c.n]) (l' := [.int .i64 c.n, .slice none 0 0]) hf rfl rfl sz_3 hB8 rfl rfl rfl rfl rfl) ?_; rintro a _ w4 ⟨ho, hb⟩ hf
 have hold := hB8
 replace hB3 := hB3.only ho (Blk.ne hB3 hold rfl)
 replace hB5 := hB5.only ho (by omega)
 replace hW := Below.only hW ho hlo8
 clear hold
 have hB8 := hb
 clear hb ho
 refine wpList_nil ?_
 refine hK9 _ _ ?_; try clear hK9 K9
 refine wp_seq_k ?_; intro K10 hK10
 refine wp_region_lit ?_
 refine l_e hf rfl (ev_fieldB hf rfl fd_35_1 (m := 1) rfl) ?_; intro a hf
 refine l_e hf rfl (ev_load1 hf rfl t1_22 (hB3.at 1)) ?_; intro a hf
 refine l_f hf rfl (ef_call (vs := [.slice Ac c.gs.length cc]) hf rfl ff_45 (F45 _ Ac cc c.gs (hr_c.below' hW).top hlc)) ?_; rintro a _ w5 ⟨A11, c11, rfl, ho11, hE⟩ hf
 replace ho11 := ho11.lower hW.size
 replace hB3 := hB3.below hE
 replace hB5 := hB5.below hE
 replace hB8 := hB8.below hE
 replace hW := btr hW hE
 clear hE
 refine l_e hf rfl (ev_fieldB hf rfl fd_41_1 (m := 1) rfl) ?_; intro a hf
 refine l_f0 hf (ef_store (vs := [.slice A11 c.gs.length c11]) (l' := [.int .i64 c.n, .slice A11 c.gs.length c11]) hf rfl rfl sz_28 hB8 rfl rfl rfl rfl rfl) ?_; rintro a _ w6 ⟨ho, hb⟩ hf
 have hold := hB8
 replace hB3 := hB3.only ho (Blk.ne hB3 hold rfl)
 replace hB5 := hB5.only ho (by omega)
 replace ho11 := ho11.onlyT ho hold rfl
 replace hW := Below.only hW ho hlo8
 clear hold
 have hB8 := hb
 clear hb ho
 refine wpList_nil ?_
 refine hK10 _ _ ?_; try clear hK10 K10
 refine wp_seq_k ?_; intro K12 hK12
 refine wp_region_lit ?_
 refine l_e hf rfl (ev_loadN (l := [.int .i64 c.n, .slice A11 c.gs.length c11]) hf rfl tN_41 (hB8.at 0) rfl) ?_; intro a hf
 refine l_f0 hf (ef_store (vs := [.int .i64 c.n, .slice A11 c.gs.length c11]) (l' := [.int .i64 c.n, .slice A11 c.gs.length c11]) hf rfl rfl sz_41 hB5 rfl rfl rfl rfl rfl) ?_; rintro a _ w7 ⟨ho, hb⟩ hf
 have hold := hB5
 replace hB8 := hB8.only ho (by omega)
 replace ho11 := ho11.onlyT ho hold rfl
 replace hW := Below.only hW ho hlo5
 clear hold
 have hB5 := hb
 clear hb ho
 refine wpList_nil ?_
 refine hK12 _ _ ?_; try clear hK12 K12
 refine wp_ret ?_
 refine c_ret hf (res1 hf rfl (ResV.cellN (l := [.int .i64 c.n, .slice A11 c.gs.length c11]) rfl tN_41 (hB5.at 0) rfl)) ?_
 exact ⟨A11, c11, rfl, ho11, hW⟩
theorem F19 (w0 : World) (p : Cx) (Ap : Option Addr) (cp : Nat) (hr_p : Rd w0 w0.heap.size 107 encG Ap p.gs) (q : Cx) (Aq : Option Addr) (cq : Nat) (hr_q : Rd w0 w0.heap.size 107 encG Aq q.gs) (hln : p.gs.length ≤ 2305843009213693951) : Ret Tryz.prog 19 [.agg #[.int .i64 p.n, .slice Ap p.gs.length cp], .agg #[.int .i64 q.n, .slice Aq q.gs.length cq]] w0 (fun v w => v = .bool (eqC p q) ∧ Below w0.heap.size w0 w) := by
 refine enter Tryz.func19 rfl 16 rfl rfl ?_
 intro a hf
 have hW : Below w0.heap.size w0 w0 := Below.refl _ _
 refine wp_seq_k ?_; intro K3 hK3
 refine wp_region_lit ?_
 refine l_f hf rfl (ef_box (zs := [.int .i64 p.n, .slice Ap p.gs.length cp]) hf rfl rfl) ?_; rintro a _ w1 ⟨b4, rfl, hl4, hE, hB4⟩ hf
 have hlo4 := Nat.le_trans hW.size hl4
 replace hW := btr hW hE
 clear hE
 refine l_f hf rfl (ef_box (zs := [.int .i64 q.n, .slice Aq q.gs.length cq]) hf rfl rfl) ?_; rintro a _ w2 ⟨b5, rfl, hl5, hE, hB5⟩ hf
 have hne4_5 : b4 ≠ b5 := by have := hB4.lt; omega
 have hlo5 := Nat.le_trans hW.size hl5
 replace hB4 := hB4.below hE
 replace hW := btr hW hE
 clear hE
 refine l_as hf rfl rfl ?_; intro a hf
 refine wpList_nil ?_
 refine hK3 _ _ ?_; try clear hK3 K3
 refine wp_seq_k ?_; intro K6 hK6
 refine wp_seq_k ?_; intro K7 hK7
 refine wp_region_lit ?_
 refine l_e hf rfl (ev_fieldB hf rfl fd_41_0 (m := 0) rfl) ?_; intro a hf
 refine l_e hf rfl (ev_load1 hf rfl t1_3 (hB4.at 0)) ?_; intro a hf
 refine l_e hf rfl (ev_fieldB hf rfl fd_41_0 (m := 0) rfl) ?_; intro a hf
 refine l_e hf rfl (ev_load1 hf rfl t1_3 (hB5.at 0)) ?_; intro a hf
 refine l_e hf rfl (ev_neq hf rfl rfl) ?_; intro a hf
 refine wpList_nil ?_
 refine hK7 _ _ ?_; try clear hK7 K7
 refine c_if hf rfl (fun hc8 => ?_) (fun hc8 => ?_)
 ·have hc8b := hc8
  have hn : ¬ p.n = q.n := by simpa using hc8
  refine wp_seq_k ?_; intro K9 hK9
  refine wp_region_lit ?_
  refine l_as hf rfl rfl ?_; intro a hf
  refine wpList_nil ?_
  refine hK9 _ _ ?_; try clear hK9 K9
  refine wp_ret ?_
  refine x_retS ?_
  refine c_ret hf (res1 hf rfl rfl) ?_
  exact ⟨by simp [eqC, hn], hW⟩
 have hc8b := hc8
 have e1 : p.n = q.n := by simpa using hc8
 refine wp_skip ?_
 refine hK6 _ _ ?_; try clear hK6 K6
 refine wp_seq_k ?_; intro K10 hK10
 refine wp_seq_k ?_; intro K11 hK11
 refine wp_region_lit ?_
 refine l_e hf rfl (ev_fieldB hf rfl fd_41_1 (m := 1) rfl) ?_; intro a hf
 refine l_e hf rfl (ev_load1 hf rfl t1_28 (hB4.at 1)) ?_; intro a hf
 refine l_e hf rfl (ev_fieldB hf rfl fd_41_1 (m := 1) rfl) ?_; intro a hf
 refine l_e hf rfl (ev_load1 hf rfl t1_28 (hB5.at 1)) ?_; intro a hf
 refine l_f hf rfl (ef_call (vs := [.slice Ap p.gs.length cp, .slice Aq q.gs.length cq]) hf rfl ff_52 (F52 _ Ap cp p.gs (hr_p.below' hW).top Aq cq q.gs (hr_q.below' hW).top hln)) ?_; rintro a _ w3 ⟨rfl, hE⟩ hf
 replace hB4 := hB4.below hE
 replace hB5 := hB5.below hE
 replace hW := btr hW hE
 clear hE
 refine l_e hf rfl (ev_not hf rfl) ?_; intro a hf
 refine wpList_nil ?_
 refine hK11 _ _ ?_; try clear hK11 K11
 refine c_if hf rfl (fun hc12 => ?_) (fun hc12 => ?_)
 ·have hc12b := hc12
  have hn : ¬ p.gs = q.gs := by simpa using hc12
  refine wp_seq_k ?_; intro K13 hK13
  refine wp_region_lit ?_
  refine l_as hf rfl rfl ?_; intro a hf
  refine wpList_nil ?_
  refine hK13 _ _ ?_; try clear hK13 K13
  refine wp_ret ?_
  refine x_retS ?_
  refine c_ret hf (res1 hf rfl rfl) ?_
  exact ⟨by simp [eqC, hn], hW⟩
 have hc12b := hc12
 have e2 : p.gs = q.gs := by simpa using hc12
 refine wp_skip ?_
 refine hK10 _ _ ?_; try clear hK10 K10
 refine wp_seq_k ?_; intro K14 hK14
 refine wp_region_lit ?_
 refine l_as hf rfl rfl ?_; intro a hf
 refine wpList_nil ?_
 refine hK14 _ _ ?_; try clear hK14 K14
 refine wp_ret ?_
 refine c_ret hf (res1 hf rfl rfl) ?_
 exact ⟨by simp [eqC, e1, e2], hW⟩
end Go.Proofs.YtfgnmflfiobkmaaGreat
namespace Go.Proofs.YtfgnmflfiobkmaaGreat
open Go.RowKit
def comS (g h : Gt) : Bool := (qubI g).any fun x => (qubI h).any fun y => y == x
def comI (g h : Gt) : Bool := (qubI g).any fun x => (qubI h).any fun y => x == y
theorem com_iff {g h : Gt} : comI g h = true ↔ ∃ x, x ∈ qubI g ∧ x ∈ qubI h := by
  simp only [comI, List.any_eq_true, beq_iff_eq]
  exact ⟨fun ⟨x, h1, y, h2, e⟩ => ⟨x, h1, e ▸ h2⟩, fun ⟨x, h1, h2⟩ => ⟨x, h1, x, h2, rfl⟩⟩
theorem comS_iff {g h : Gt} : comS g h = true ↔ ∃ x, x ∈ qubI g ∧ x ∈ qubI h := by
  simp only [comS, List.any_eq_true, beq_iff_eq]
  exact ⟨fun ⟨x, h1, y, h2, e⟩ => ⟨x, h1, e ▸ h2⟩, fun ⟨x, h1, h2⟩ => ⟨x, h1, x, h2, rfl⟩⟩
theorem com_eq (g h : Gt) : comS g h = comI h g := by
  rw [Bool.eq_iff_iff, comS_iff, com_iff]
  exact ⟨fun ⟨x, a, b⟩ => ⟨x, b, a⟩, fun ⟨x, a, b⟩ => ⟨x, b, a⟩⟩
theorem two_eq (k : Int) : (k == 9 || k == 10 || k == 11) = inR k 9 11 := by
  rw [Bool.eq_iff_iff, inR_iff]
  simp only [Bool.or_eq_true, beq_iff_eq]
  omega
theorem not_mem_step {α : Type} {l : List α} {k : Nat} {u x : α} (h : ¬ x ∈ l.take k) (hu : l[k]? = some u) (hne : ¬ u = x) : ¬ x ∈ l.take (k + 1) := by
  rw [List.take_add_one, hu]
  simp only [Option.toList_some, List.mem_append, List.mem_singleton]
  rintro (h1 | h1)
  · exact h h1
  · exact hne h1.symm
theorem at_next {l : List Int} {k : Nat} {u q : Int} {b : Bool} (hu : l[k]? = some u) (h : b = true → ¬ q ∈ l.take k) (hc : (b && (u == q)) = false) : b = true → ¬ q ∈ l.take (k + 1) := fun hb =>
  not_mem_step (h hb) hu (by subst hb; simpa using hc)
theorem lastN_inc {us : List Int} (hi : Inc us) {q : Int} {k : Nat} (hu : us[k]? = some q) : lastN us q us.length = (k : Int) := by
  have hk := (List.getElem?_eq_some_iff.1 hu).1
  obtain ⟨j, hj, h1, h2⟩ := last_full (List.mem_of_getElem? hu)
  rw [h1]
  have hj2 : us[j]? = some q := by rw [List.getElem?_eq_getElem hj]; rw [List.getD_eq_getElem?_getD, List.getElem?_eq_getElem hj] at h2; simpa using h2
  rcases Nat.lt_trichotomy j k with h | h | h
  · have := List.pairwise_iff_getElem.1 hi j k hj hk h
    rw [List.getElem?_eq_getElem hj] at hj2; rw [List.getElem?_eq_getElem hk] at hu
    injection hj2 with e1; injection hu with e2
    omega
  · rw [h]
  · have := List.pairwise_iff_getElem.1 hi k j hk hj h
    rw [List.getElem?_eq_getElem hj] at hj2; rw [List.getElem?_eq_getElem hk] at hu
    injection hj2 with e1; injection hu with e2
    omega
section
variable {p q : Mx}
theorem mEq_ne (h : (p.rows != q.rows || p.cols != q.cols || (p.cells.length : Int) != (q.cells.length : Int)) = true) : (decide (p.rows = q.rows) && decide (p.cols = q.cols) && decide (p.cells = q.cells)) = false := by
  rw [Bool.eq_false_iff]
  intro h2
  simp only [Bool.and_eq_true, decide_eq_true_eq] at h2
  obtain ⟨⟨h3, h4⟩, h5⟩ := h2
  rw [h3, h4, h5] at h
  simp at h
theorem mEq_dims (h : (p.rows != q.rows || p.cols != q.cols || (p.cells.length : Int) != (q.cells.length : Int)) = false) : p.rows = q.rows ∧ p.cols = q.cols ∧ p.cells.length = q.cells.length := by
  simp only [Bool.or_eq_false_iff, bne_eq_false_iff_eq] at h
  exact ⟨h.1.1, h.1.2, by omega⟩
theorem mEq_cell {k : Nat} {u v : Dy} (hu : p.cells[k]? = some u) (hv : q.cells[k]? = some v) (h : ¬ u = v) : (decide (p.rows = q.rows) && decide (p.cols = q.cols) && decide (p.cells = q.cells)) = false := by
  rw [Bool.eq_false_iff]
  intro h2
  simp only [Bool.and_eq_true, decide_eq_true_eq] at h2
  rw [h2.2, hv] at hu
  injection hu with hu
  exact h hu.symm
end
end Go.Proofs.YtfgnmflfiobkmaaGreat
namespace Go.Proofs.YtfgnmflfiobkmaaGreat
open Go.RowKit
def gZ : Gt := ⟨0, 0, 0⟩
def eqM (p q : Mx) : Bool := decide (p.rows = q.rows) && decide (p.cols = q.cols) && decide (p.cells = q.cells)
def unionS (g h : Gt) : List Int := (qubI g ++ qubI h).foldl putI []
theorem putF_mem : ∀ (l m : List Int) (x : Int), x ∈ l.foldl putI m ↔ x ∈ m ∨ x ∈ l
  | [], m, x => by simp
  | y :: l, m, x => by rw [List.foldl_cons, putF_mem l, put_mem]; simp only [List.mem_cons]; rw [or_assoc]
theorem putF_inc : ∀ (l m : List Int), Inc m → Inc (l.foldl putI m)
  | [], _, h => h
  | y :: l, m, h => putF_inc l _ (put_inc m y h)
theorem putF_len : ∀ (l m : List Int), (l.foldl putI m).length ≤ m.length + l.length
  | [], m => by simp
  | y :: l, m => by
    have h1 := putF_len l (putI m y)
    have h2 := put_len m y
    rw [List.foldl_cons, List.length_cons]
    omega
theorem unionS_mem {g h : Gt} {x : Int} : x ∈ unionS g h ↔ x ∈ qubI g ∨ x ∈ qubI h := by
  rw [unionS, putF_mem, List.mem_append]; simp
theorem unionS_inc (g h : Gt) : Inc (unionS g h) := putF_inc _ _ List.Pairwise.nil
structure PairOk (us : List Int) (g h : Gt) : Prop where
  inc : Inc us
  low : ∀ x ∈ us, 0 ≤ x ∧ x ≤ 4
  one : 1 ≤ us.length
  len : us.length ≤ 5
  gk : ¬ g.k = 12
  hk : ¬ h.k = 12
  ga : g.a ∈ us
  ha : h.a ∈ us
  gb : inR g.k 9 11 = true → g.b ∈ us
  hb : inR h.k 9 11 = true → h.b ∈ us
  gs : gOk (us.length : Int) (smallG us g) = true
  hs : gOk (us.length : Int) (smallG us h) = true
theorem qub_12 {g : Gt} {x : Int} (h : x ∈ qubI g) : ¬ g.k = 12 := fun e => by
  rw [qubI, if_pos e] at h; cases h
theorem qub_a {g : Gt} (h : ¬ g.k = 12) : g.a ∈ qubI g := by
  rw [qubI, if_neg h]; split <;> simp
theorem qub_b {g : Gt} (h : ¬ g.k = 12) (h9 : inR g.k 9 11 = true) : g.b ∈ qubI g := by
  rw [qubI, if_neg h, if_pos h9]; simp
theorem pair_ok {us : List Int} {n : Int} {g h : Gt} (hg : gOk n g = true) (hh : gOk n h = true) (hc : ∃ x, x ∈ qubI g ∧ x ∈ qubI h) (hi : Inc us) (hm : ∀ x, x ∈ us ↔ x ∈ qubI g ∨ x ∈ qubI h) : PairOk us g h := by
  obtain ⟨x, h1, h2⟩ := hc
  have hlow : ∀ x ∈ us, 0 ≤ x ∧ x ≤ 4 := fun y hy => by
    rcases (hm y).1 hy with h | h
    · exact qub_bound hg h
    · exact qub_bound hh h
  have hone : 1 ≤ us.length := List.length_pos_of_mem ((hm x).2 (.inl h1))
  have hmax : max 1 (us.length : Int) = us.length := by omega
  have e1 := small_ok hi hlow ⟨hg, fun x hx => (hm x).2 (.inl hx)⟩
  have e2 := small_ok hi hlow ⟨hh, fun x hx => (hm x).2 (.inr hx)⟩
  rw [hmax] at e1 e2
  exact ⟨hi, hlow, hone, inc_len hi hlow, qub_12 h1, qub_12 h2, (hm _).2 (.inl (qub_a (qub_12 h1))), (hm _).2 (.inr (qub_a (qub_12 h2))), fun h9 => (hm _).2 (.inl (qub_b (qub_12 h1) h9)), fun h9 => (hm _).2 (.inr (qub_b (qub_12 h2) h9)), e1, e2⟩
theorem times_le {a b : Mx} (ha : mOk a = true) (hb : mOk b = true) (f : Bool) : (timesS f a b).2.cells.length ≤ 2305843009213693951 := by
  have h1 := mOk_len ha
  have h2 := mOk_len hb
  show (timesL f a b _).2.length ≤ _
  rw [timesL_len]
  exact Nat.le_trans (grid_le (by omega) (by omega)) (by decide)
def commS (g h : Gt) : Bool := if comS g h = true then
    eqM (timesS false (gateS ((unionS g h).length : Int) (smallG (unionS g h) g)) (gateS ((unionS g h).length : Int) (smallG (unionS g h) h))).2
      (timesS (timesS false (gateS ((unionS g h).length : Int) (smallG (unionS g h) g)) (gateS ((unionS g h).length : Int) (smallG (unionS g h) h))).1 (gateS ((unionS g h).length : Int) (smallG (unionS g h) h)) (gateS ((unionS g h).length : Int) (smallG (unionS g h) g))).2
  else true
def commI (g h : Gt) : Bool := if comI g h = true then
    eqM ((opI ⟨((unionI (qubI g) (qubI h)).length : Int), mapI [g, h] (numbI (unionI (qubI g) (qubI h)))⟩).getD mZ) ((opI ⟨((unionI (qubI g) (qubI h)).length : Int), [mapG (numbI (unionI (qubI g) (qubI h))) h, mapG (numbI (unionI (qubI g) (qubI h))) g]⟩).getD mZ)
  else true
section
variable (gs : List Gt) (s : List Int) (g : Gt) (x : Int)
def pA (j : Nat) : Bool := decide (x ≤ s.getD j 0) && !commS g (gs.getD j gZ)
def pB (j : Nat) : Bool := s.getD j 0 == x && comS g (gs.getD j gZ)
def faultG (i : Nat) : Int := if g.k = 12 then (if x = 0 then 0 else 1) else if inR x 1 400 = true then (if (List.range i).any (pA gs s g x) = true then 2 else if (List.range i).any (pB gs s g x) = true then 3 else 0) else 1
def faultS (i : Nat) : Int := faultG gs s (gs.getD i gZ) (s.getD i 0) i
def qA (j : Nat) : Bool := !commI (gs.getD j gZ) g && decide (x ≤ s.getD j 0)
def qB (j : Nat) : Bool := s.getD j 0 == x && comI (gs.getD j gZ) g
def faultH (i : Nat) : Int := if (g.k == 12 && x != 0 || g.k != 12 && !inR x 1 400) = true then 1 else if (List.range i).any (qA gs s g x) = true then 2 else if (List.range i).any (qB gs s g x) = true then 3 else 0
def faultI (i : Nat) : Int := faultH gs s (gs.getD i gZ) (s.getD i 0) i
end
def firstF (f : Nat → Int) : Nat → Nat → Int × Int
  | 0, _ => (0, 0)
  | n + 1, i => if f i = 0 then firstF f n (i + 1) else (f i, (i : Int))
def schedS (gs : List Gt) (s : List Int) : Int × Int := if s.length = gs.length then firstF (faultS gs s) gs.length 0 else (1, 0)
def schedI (gs : List Gt) (s : List Int) : Int × Int := if s.length = gs.length then firstF (faultI gs s) gs.length 0 else (1, 0)
def specC (c : Cx) (s : List Int) : Int × Int × Bool := if cOk c = true then ((schedS c.gs s).1, (schedS c.gs s).2, true) else (0, 0, false)
def implC (c : Cx) (s : List Int) : Int × Int × Bool := if cOk c = true then ((schedI c.gs s).1, (schedI c.gs s).2, true) else (0, 0, false)
section
variable {f : Nat → Int} {n i : Nat} {r : Int × Int} {x : Int}
end
section
variable {p : Nat → Bool} {i j : Nat}
theorem range_hit (hj : j < i) (h : p j = true) : (List.range i).any p = true := List.any_eq_true.2 ⟨j, List.mem_range.2 hj, h⟩
theorem range_next (h : (List.range j).any p = false) (hp : p j = false) : (List.range (j + 1)).any p = false := by
  rw [List.range_succ, List.any_append, h]; simp [hp]
end
theorem getD_of {gs : List Gt} {i : Nat} {u : Gt} (h : gs[i]? = some u) : gs.getD i gZ = u := by rw [List.getD_eq_getElem?_getD, h]; rfl
theorem getD_take {gs : List Gt} {i j : Nat} {u : Gt} (h : (gs.take i)[j]? = some u) : gs.getD j gZ = u ∧ u ∈ gs := by
  have hj : j < i := by
    have := (List.getElem?_eq_some_iff.1 h).1
    rw [List.length_take] at this
    omega
  rw [List.getElem?_take_of_lt hj] at h
  exact ⟨getD_of h, List.mem_of_getElem? h⟩
section
variable {gs : List Gt} {s : List Int} {i : Nat} {g : Gt}
end
end Go.Proofs.YtfgnmflfiobkmaaGreat
set_option maxRecDepth 4000
namespace Go.Proofs.YtfgnmflfiobkmaaGreat
open Go.RowKit
theorem F147 (w0 : World) (Al : Option Addr) (cl : Nat) (l : List Int) (hr_l : Rd w0 w0.heap.size 3 encI Al l) (x : Int) (hln : l.length ≤ 2305843009213693951) : Ret Tryz.prog 147 [.slice Al l.length cl, .int .i64 x] w0 (fun v w => v = .bool (l.any fun y => y == x) ∧ Below w0.heap.size w0 w) := by
 refine enter Tryz.func147 rfl 17 rfl rfl ?_
 intro a hf
 have hW : Below w0.heap.size w0 w0 := Below.refl _ _
 refine wp_seq_k ?_; intro K2 hK2
 refine wp_region_lit ?_
 refine l_as hf rfl rfl ?_; intro a hf
 refine wpList_nil ?_
 refine hK2 _ _ ?_; try clear hK2 K2
 refine wp_seq_k ?_; intro K3 hK3
 refine wp_seq_k ?_; intro K4 hK4
 refine wp_region_lit ?_
 refine l_mv hf rfl rfl ?_; intro a hf
 refine l_e hf rfl (ev_len hf rfl sl_36) ?_; intro a hf
 refine l_mv hf rfl rfl ?_; intro a hf
 refine wpList_nil ?_
 refine hK4 _ _ ?_; try clear hK4 K4
 refine wp_block ?_
 refine c_loop (σ := Nat) (fun (k : Nat) (a : Act) (w : World) => Fr a 17 [(1, .int .i64 x), (7, .slice Al l.length cl), (8, .int .i64 (l.length : Int)), (9, .int .i64 (k : Int))] ∧ (k ≤ l.length) ∧ ((l.take k).all (fun y => !(y == x)) = true) ∧ Below w0.heap.size w0 w) (fun (k : Nat) => l.length + 1 - k) 0 ?_ ?_
 · exact ⟨hf.sub ⟨rfl, rfl, rfl, rfl, trivial⟩, (Nat.zero_le _), (by simp), hW⟩
 rintro k a w1 ⟨hf, hk, hpre, hW⟩
 refine wp_seq_k ?_; intro K5 hK5
 refine wp_region_lit ?_
 refine l_e hf rfl (ev_lss hf rfl rfl) ?_; intro a hf
 refine wpList_nil ?_
 refine hK5 _ _ ?_; try clear hK5 K5
 refine wp_seq_k ?_; intro K6 hK6
 refine c_if hf rfl (fun hc7 => ?_) (fun hc7 => ?_)
 ·have hc7b := hc7
  have hc7 := of_decide_eq_true hc7
  obtain ⟨u8, hu8⟩ := getElem_ex (l := l) (k := k) (by omega)
  refine wp_skip ?_
  refine hK6 _ _ ?_; try clear hK6 K6
  refine wp_seq_k ?_; intro K9 hK9
  refine wp_block ?_
  refine wp_seq_k ?_; intro K10 hK10
  refine wp_region_lit ?_
  refine l_index (k := k) (u := u8) (enc := encI) (l := l) hf trivial rfl rfl rfl sl_36 sz_3 encI_len (hr_l.below' hW) hu8 rfl ?_; intro a p12 hat11 hf
  refine l_e hf rfl (ev_load1 hf rfl t1_3 hat11) ?_; intro a hf
  refine l_as hf rfl rfl ?_; intro a hf
  refine wpList_nil ?_
  refine hK10 _ _ ?_; try clear hK10 K10
  refine wp_seq_k ?_; intro K13 hK13
  refine wp_region_lit ?_
  refine l_mv hf rfl rfl ?_; intro a hf
  refine l_mv hf rfl rfl ?_; intro a hf
  refine l_e hf rfl (ev_eql hf rfl rfl) ?_; intro a hf
  refine wpList_nil ?_
  refine hK13 _ _ ?_; try clear hK13 K13
  refine c_if hf rfl (fun hc14 => ?_) (fun hc14 => ?_)
  ·have hc14b := hc14
   have hb2 : l.any (fun y => y == x) = true := any_true hu8 hc14
   refine wp_seq_k ?_; intro K15 hK15
   refine wp_region_lit ?_
   refine l_as hf rfl rfl ?_; intro a hf
   refine wpList_nil ?_
   refine hK15 _ _ ?_; try clear hK15 K15
   refine wp_ret ?_
   refine x_retB ?_
   refine x_retS ?_
   refine x_retS ?_
   refine x_retB ?_
   refine x_retS ?_
   refine c_ret hf (res1 hf rfl rfl) ?_
   exact ⟨by rw [hb2], hW⟩
  have hc14b := hc14
  have hok : (!(u8 == x)) = true := by rw [hc14]; rfl
  refine wp_skip ?_
  refine x_norm ?_
  refine hK9 _ _ ?_; try clear hK9 K9
  refine wp_region_lit ?_
  refine l_e hf rfl (ev_addx hf rfl rfl (by omega) (by omega)) ?_; intro a hf
  refine l_mv hf rfl rfl ?_; intro a hf
  refine wpList_nil ?_
  refine x_thenN ?_
  exact ⟨k + 1, ⟨hf.sub ⟨rfl, rfl, rfl, rfl, trivial⟩, (by omega), (take_all hpre hu8 hok), hW⟩, (by omega)⟩
 have hc7b := hc7
 have hc7 := of_decide_eq_false hc7
 refine wp_exit ?_
 refine x_exS ?_
 refine x_exS ?_
 refine x_exit ?_
 refine hK3 _ _ ?_; try clear hK3 K3
 refine wp_seq_k ?_; intro K16 hK16
 refine wp_region_lit ?_
 refine l_as hf rfl rfl ?_; intro a hf
 refine wpList_nil ?_
 refine hK16 _ _ ?_; try clear hK16 K16
 refine wp_ret ?_
 refine c_ret hf (res1 hf rfl rfl) ?_
 have hb2 : l.any (fun y => y == x) = false := any_false (take_full hpre (by omega))
 exact ⟨by rw [hb2], hW⟩
theorem F119 (w0 : World) (g : Gt) : Ret Tryz.prog 119 [.agg #[.int .i64 g.k, .int .i64 g.a, .int .i64 g.b]] w0 (fun v w => v = .bool (inR g.k 9 11) ∧ Below w0.heap.size w0 w) := by
 refine enter Tryz.func119 rfl 16 rfl rfl ?_
 intro a hf
 have hW : Below w0.heap.size w0 w0 := Below.refl _ _
 refine wp_seq_k ?_; intro K1 hK1
 refine wp_region_lit ?_
 refine l_f hf rfl (ef_box (zs := [.int .i64 g.k, .int .i64 g.a, .int .i64 g.b]) hf rfl rfl) ?_; rintro a _ w1 ⟨b2, rfl, hl2, hE, hB2⟩ hf
 have hlo2 := Nat.le_trans hW.size hl2
 replace hW := btr hW hE
 clear hE
 refine l_as hf rfl rfl ?_; intro a hf
 refine wpList_nil ?_
 refine hK1 _ _ ?_; try clear hK1 K1
 refine wp_seq_k ?_; intro K3 hK3
 refine c_cut (fun a w => Fr a 16 [(2, .bool (((g.k == 9) || (g.k == 10)) || (g.k == 11)))] ∧ w1 = w) ?_ ?_
 ·refine wp_region_lit ?_
  refine l_e hf rfl (ev_fieldB hf rfl fd_107_0 (m := 0) rfl) ?_; intro a hf
  refine l_e hf rfl (ev_load1 hf rfl t1_3 (hB2.at 0)) ?_; intro a hf
  refine l_e hf rfl (ev_eql hf rfl rfl) ?_; intro a hf
  refine l_mv hf rfl rfl ?_; intro a hf
  refine g_split hf (t := 6) rfl (fun hg4 => ?_) (fun hg4 => ?_)
  ·refine l_pass hf ⟨_, _, rfl, rfl, hg4⟩ rfl rfl ?_; intro a hf
   refine l_pass hf ⟨_, _, rfl, rfl, hg4⟩ rfl rfl ?_; intro a hf
   refine l_pass hf ⟨_, _, rfl, rfl, hg4⟩ rfl rfl ?_; intro a hf
   refine l_e hf rfl (ev_pickT hf rfl hg4 rfl) ?_; intro a hf
   refine l_mv hf rfl rfl ?_; intro a hf
   refine l_pass hf ⟨_, _, rfl, rfl, rfl⟩ rfl rfl ?_; intro a hf
   refine l_pass hf ⟨_, _, rfl, rfl, rfl⟩ rfl rfl ?_; intro a hf
   refine l_pass hf ⟨_, _, rfl, rfl, rfl⟩ rfl rfl ?_; intro a hf
   refine l_e hf rfl (ev_pickT hf rfl rfl rfl) ?_; intro a hf
   refine l_as hf rfl rfl ?_; intro a hf
   refine wpList_nil ?_
   exact ⟨hf.sub ⟨look_bool rfl (by first | rfl | (simp only [hg4, Bool.true_and, Bool.false_and, Bool.true_or, Bool.false_or]; done) | simp [hg4]), trivial⟩, rfl⟩
  refine l_ev hf ⟨_, _, rfl, rfl, hg4⟩ rfl rfl (ev_fieldB hf rfl fd_107_0 (m := 0) rfl) ?_; intro a hf
  refine l_ev hf ⟨_, _, rfl, rfl, hg4⟩ rfl rfl (ev_load1 hf rfl t1_3 (hB2.at 0)) ?_; intro a hf
  refine l_ev hf ⟨_, _, rfl, rfl, hg4⟩ rfl rfl (ev_eql hf rfl rfl) ?_; intro a hf
  refine l_e hf rfl (ev_pickF hf rfl hg4 rfl) ?_; intro a hf
  refine l_mv hf rfl rfl ?_; intro a hf
  refine g_split hf (t := 11) rfl (fun hg5 => ?_) (fun hg5 => ?_)
  ·refine l_pass hf ⟨_, _, rfl, rfl, hg5⟩ rfl rfl ?_; intro a hf
   refine l_pass hf ⟨_, _, rfl, rfl, hg5⟩ rfl rfl ?_; intro a hf
   refine l_pass hf ⟨_, _, rfl, rfl, hg5⟩ rfl rfl ?_; intro a hf
   refine l_e hf rfl (ev_pickT hf rfl hg5 rfl) ?_; intro a hf
   refine l_as hf rfl rfl ?_; intro a hf
   refine wpList_nil ?_
   exact ⟨hf.sub ⟨look_bool rfl (by first | rfl | (simp only [hg4, hg5, Bool.true_and, Bool.false_and, Bool.true_or, Bool.false_or]; done) | simp [hg4, hg5]), trivial⟩, rfl⟩
  refine l_ev hf ⟨_, _, rfl, rfl, hg5⟩ rfl rfl (ev_fieldB hf rfl fd_107_0 (m := 0) rfl) ?_; intro a hf
  refine l_ev hf ⟨_, _, rfl, rfl, hg5⟩ rfl rfl (ev_load1 hf rfl t1_3 (hB2.at 0)) ?_; intro a hf
  refine l_ev hf ⟨_, _, rfl, rfl, hg5⟩ rfl rfl (ev_eql hf rfl rfl) ?_; intro a hf
  refine l_e hf rfl (ev_pickF hf rfl hg5 rfl) ?_; intro a hf
  refine l_as hf rfl rfl ?_; intro a hf
  refine wpList_nil ?_
  exact ⟨hf.sub ⟨look_bool rfl (by first | rfl | (simp only [hg4, hg5, Bool.true_and, Bool.false_and, Bool.true_or, Bool.false_or]; done) | simp [hg4, hg5]), trivial⟩, rfl⟩
 rintro a _ ⟨hf, rfl⟩
 refine hK3 _ _ ?_; try clear hK3 K3
 refine wp_ret ?_
 refine c_ret hf (res1 hf rfl rfl) ?_
 exact ⟨congrArg Value.bool (two_eq g.k), hW⟩
theorem F142 (w0 : World) (g : Gt) : Ret Tryz.prog 142 [.agg #[.int .i64 g.k, .int .i64 g.a, .int .i64 g.b]] w0 (fun v w => ∃ A c, v = .slice A (qubI g).length c ∧ Own w w0.heap.size 3 1 encI A c (qubI g) ∧ Below w0.heap.size w0 w) := by
 refine enter Tryz.func142 rfl 18 rfl rfl ?_
 intro a hf
 have hW : Below w0.heap.size w0 w0 := Below.refl _ _
 refine wp_seq_k ?_; intro K1 hK1
 refine wp_region_lit ?_
 refine l_f hf rfl (ef_box (zs := [.int .i64 g.k, .int .i64 g.a, .int .i64 g.b]) hf rfl rfl) ?_; rintro a _ w1 ⟨b2, rfl, hl2, hE, hB2⟩ hf
 have hlo2 := Nat.le_trans hW.size hl2
 replace hW := btr hW hE
 clear hE
 refine l_as hf rfl rfl ?_; intro a hf
 refine wpList_nil ?_
 refine hK1 _ _ ?_; try clear hK1 K1
 refine wp_seq_k ?_; intro K4 hK4
 refine wp_block ?_
 refine wp_seq_k ?_; intro K5 hK5
 refine wp_region_lit ?_
 refine l_e hf rfl (ev_fieldB hf rfl fd_107_0 (m := 0) rfl) ?_; intro a hf
 refine l_e hf rfl (ev_load1 hf rfl t1_3 (hB2.at 0)) ?_; intro a hf
 refine l_e hf rfl (ev_eql hf rfl rfl) ?_; intro a hf
 refine l_as hf rfl rfl ?_; intro a hf
 refine wpList_nil ?_
 refine hK5 _ _ ?_; try clear hK5 K5
 refine c_if hf rfl (fun hc6 => ?_) (fun hc6 => ?_)
 ·have hc6b := hc6
  have hfin : qubI g = [] := by rw [qubI, if_pos (by simpa using hc6)]
  refine wp_seq_k ?_; intro K7 hK7
  refine wp_region_lit ?_
  refine l_as hf rfl rfl ?_; intro a hf
  refine wpList_nil ?_
  refine hK7 _ _ ?_; try clear hK7 K7
  refine wp_ret ?_
  refine x_retB ?_
  refine x_retS ?_
  refine c_ret hf (res1 hf rfl rfl) ?_
  rw [hfin]
  exact ⟨none, 0, rfl, (Own.nil _ _ _ _ _), hW⟩
 have hc6b := hc6
 have h12 : ¬ g.k = 12 := by simpa using hc6
 refine wp_seq_k ?_; intro K9 hK9
 refine wp_region_lit ?_
 refine l_e hf rfl (ev_loadN (l := [.int .i64 g.k, .int .i64 g.a, .int .i64 g.b]) hf rfl tN_107 (hB2.at 0) rfl) ?_; intro a hf
 refine l_f hf rfl (ef_call (vs := [.agg #[.int .i64 g.k, .int .i64 g.a, .int .i64 g.b]]) hf rfl ff_119 (F119 _ g)) ?_; rintro a _ w2 ⟨rfl, hE⟩ hf
 replace hB2 := hB2.below hE
 replace hW := btr hW hE
 clear hE
 refine l_as hf rfl rfl ?_; intro a hf
 refine wpList_nil ?_
 refine hK9 _ _ ?_; try clear hK9 K9
 refine c_if hf rfl (fun hc10 => ?_) (fun hc10 => ?_)
 ·have hc10b := hc10
  have hfin : qubI g = [g.a, g.b] := by rw [qubI, if_neg h12, if_pos hc10]
  refine wp_seq_k ?_; intro K11 hK11
  refine wp_region_lit ?_
  refine l_e hf rfl (ev_fieldB hf rfl fd_107_1 (m := 1) rfl) ?_; intro a hf
  refine l_e hf rfl (ev_load1 hf rfl t1_3 (hB2.at 1)) ?_; intro a hf
  refine l_e hf rfl (ev_fieldB hf rfl fd_107_2 (m := 2) rfl) ?_; intro a hf
  refine l_e hf rfl (ev_load1 hf rfl t1_3 (hB2.at 2)) ?_; intro a hf
  refine l_f hf rfl (ef_buildSlice (k := 2) (vs := [.int .i64 g.a, .int .i64 g.b]) (zs := [.int .i64 g.a, .int .i64 g.b]) hf rfl sl_36 inf_3 rfl rfl) ?_; rintro a _ w3 ⟨b12, rfl, hl12, hE, hB12⟩ hf
  have hlo12 := Nat.le_trans hW.size hl12
  replace hB2 := hB2.below hE
  replace hW := btr hW hE
  clear hE
  refine l_as hf rfl rfl ?_; intro a hf
  refine wpList_nil ?_
  refine hK11 _ _ ?_; try clear hK11 K11
  refine wp_ret ?_
  refine x_retB ?_
  refine x_retS ?_
  refine c_ret hf (res1 hf rfl rfl) ?_
  rw [hfin]
  exact ⟨(some ⟨b12, 0, none⟩), 2, rfl, (Own.of_blkL encI_len hB12 hlo12 rfl rfl (by decide)), hW⟩
 have hc10b := hc10
 have hfin : qubI g = [g.a] := by rw [qubI, if_neg h12, if_neg (by rw [hc10]; simp)]
 refine wp_skip ?_
 refine x_norm ?_
 refine hK4 _ _ ?_; try clear hK4 K4
 refine wp_seq_k ?_; intro K14 hK14
 refine wp_region_lit ?_
 refine l_e hf rfl (ev_fieldB hf rfl fd_107_1 (m := 1) rfl) ?_; intro a hf
 refine l_e hf rfl (ev_load1 hf rfl t1_3 (hB2.at 1)) ?_; intro a hf
 refine l_f hf rfl (ef_buildSlice (k := 1) (vs := [.int .i64 g.a]) (zs := [.int .i64 g.a]) hf rfl sl_36 inf_3 rfl rfl) ?_; rintro a _ w4 ⟨b15, rfl, hl15, hE, hB15⟩ hf
 have hlo15 := Nat.le_trans hW.size hl15
 replace hB2 := hB2.below hE
 replace hW := btr hW hE
 clear hE
 refine l_as hf rfl rfl ?_; intro a hf
 refine wpList_nil ?_
 refine hK14 _ _ ?_; try clear hK14 K14
 refine wp_ret ?_
 refine c_ret hf (res1 hf rfl rfl) ?_
 rw [hfin]
 exact ⟨(some ⟨b15, 0, none⟩), 1, rfl, (Own.of_blkL encI_len hB15 hlo15 rfl rfl (by decide)), hW⟩
theorem F103 (w0 : World) (g : Gt) (h : Gt) : Ret Tryz.prog 103 [.agg #[.int .i64 g.k, .int .i64 g.a, .int .i64 g.b], .agg #[.int .i64 h.k, .int .i64 h.a, .int .i64 h.b]] w0 (fun v w => v = .bool (comS g h) ∧ Below w0.heap.size w0 w) := by
 have hql := qubI_len g
 have hqh := qubI_len h
 refine enter Tryz.func103 rfl 19 rfl rfl ?_
 intro a hf
 have hW : Below w0.heap.size w0 w0 := Below.refl _ _
 refine wp_seq_k ?_; intro K1 hK1
 refine wp_region_lit ?_
 refine l_f hf rfl (ef_box (zs := [.int .i64 g.k, .int .i64 g.a, .int .i64 g.b]) hf rfl rfl) ?_; rintro a _ w1 ⟨b2, rfl, hl2, hE, hB2⟩ hf
 have hlo2 := Nat.le_trans hW.size hl2
 replace hW := btr hW hE
 clear hE
 refine l_f hf rfl (ef_box (zs := [.int .i64 h.k, .int .i64 h.a, .int .i64 h.b]) hf rfl rfl) ?_; rintro a _ w2 ⟨b3, rfl, hl3, hE, hB3⟩ hf
 have hne2_3 : b2 ≠ b3 := by have := hB2.lt; omega
 have hlo3 := Nat.le_trans hW.size hl3
 replace hB2 := hB2.below hE
 replace hW := btr hW hE
 clear hE
 refine l_as hf rfl rfl ?_; intro a hf
 refine wpList_nil ?_
 refine hK1 _ _ ?_; try clear hK1 K1
 refine wp_seq_k ?_; intro K4 hK4
 refine wp_seq_k ?_; intro K5 hK5
 refine wp_region_lit ?_
 refine l_e hf rfl (ev_loadN (l := [.int .i64 g.k, .int .i64 g.a, .int .i64 g.b]) hf rfl tN_107 (hB2.at 0) rfl) ?_; intro a hf
 refine l_f hf rfl (ef_call (vs := [.agg #[.int .i64 g.k, .int .i64 g.a, .int .i64 g.b]]) hf rfl ff_142 (F142 _ g)) ?_; rintro a _ w3 ⟨A6, c6, rfl, ho6, hE⟩ hf
 replace ho6 := ho6.lower hW.size
 replace hB2 := hB2.below hE
 replace hB3 := hB3.below hE
 replace hW := btr hW hE
 clear hE
 refine l_e hf rfl (ev_len hf rfl sl_36) ?_; intro a hf
 refine l_mv hf rfl rfl ?_; intro a hf
 refine wpList_nil ?_
 refine hK5 _ _ ?_; try clear hK5 K5
 refine wp_block ?_
 refine c_loop (σ := Nat) (fun (k : Nat) (a : Act) (w : World) => Fr a 19 [(3, .pointer (some ⟨b3, 0, none⟩)), (8, .slice A6 (qubI g).length c6), (9, .int .i64 ((qubI g).length : Int)), (10, .int .i64 (k : Int))] ∧ (k ≤ (qubI g).length) ∧ (((qubI g).take k).all (fun x => !((qubI h).any fun y => y == x)) = true) ∧ Blk w b3 107 [.int .i64 h.k, .int .i64 h.a, .int .i64 h.b] ∧ Own w w0.heap.size 3 1 encI A6 c6 (qubI g) ∧ Below w0.heap.size w0 w) (fun (k : Nat) => (qubI g).length + 1 - k) 0 ?_ ?_
 · exact ⟨hf.sub ⟨rfl, rfl, rfl, rfl, trivial⟩, (Nat.zero_le _), (by simp), hB3, ho6, hW⟩
 rintro k a w4 ⟨hf, hk, hpre, hB3, ho6, hW⟩
 refine wp_seq_k ?_; intro K7 hK7
 refine wp_region_lit ?_
 refine l_e hf rfl (ev_lss hf rfl rfl) ?_; intro a hf
 refine wpList_nil ?_
 refine hK7 _ _ ?_; try clear hK7 K7
 refine wp_seq_k ?_; intro K8 hK8
 refine c_if hf rfl (fun hc9 => ?_) (fun hc9 => ?_)
 ·have hc9b := hc9
  have hc9 := of_decide_eq_true hc9
  obtain ⟨u10, hu10⟩ := getElem_ex (l := (qubI g)) (k := k) (by omega)
  refine wp_skip ?_
  refine hK8 _ _ ?_; try clear hK8 K8
  refine wp_seq_k ?_; intro K11 hK11
  refine wp_block ?_
  refine wp_seq_k ?_; intro K12 hK12
  refine wp_region_lit ?_
  refine l_index (k := k) (u := u10) (enc := encI) (l := (qubI g)) hf trivial rfl rfl rfl sl_36 sz_3 encI_len ho6.rd hu10 rfl ?_; intro a p14 hat13 hf
  refine l_e hf rfl (ev_load1 hf rfl t1_3 hat13) ?_; intro a hf
  refine l_as hf rfl rfl ?_; intro a hf
  refine wpList_nil ?_
  refine hK12 _ _ ?_; try clear hK12 K12
  refine wp_seq_k ?_; intro K15 hK15
  refine wp_region_lit ?_
  refine l_e hf rfl (ev_loadN (l := [.int .i64 h.k, .int .i64 h.a, .int .i64 h.b]) hf rfl tN_107 (hB3.at 0) rfl) ?_; intro a hf
  refine l_f hf rfl (ef_call (vs := [.agg #[.int .i64 h.k, .int .i64 h.a, .int .i64 h.b]]) hf rfl ff_142 (F142 _ h)) ?_; rintro a _ w5 ⟨A16, c16, rfl, ho16, hE⟩ hf
  replace ho16 := ho16.lower hW.size
  replace hB3 := hB3.below hE
  replace ho6 := ho6.below hE
  replace hW := btr hW hE
  clear hE
  refine l_mv hf rfl rfl ?_; intro a hf
  refine l_f hf rfl (ef_call (vs := [.slice A16 (qubI h).length c16, .int .i64 u10]) hf rfl ff_147 (F147 _ A16 c16 (qubI h) ho16.rd.top u10 (by omega))) ?_; rintro a _ w6 ⟨rfl, hE⟩ hf
  replace hB3 := hB3.below hE
  replace ho6 := ho6.below hE
  replace ho16 := ho16.below hE
  replace hW := btr hW hE
  clear hE
  refine wpList_nil ?_
  refine hK15 _ _ ?_; try clear hK15 K15
  refine c_if hf rfl (fun hc17 => ?_) (fun hc17 => ?_)
  ·have hc17b := hc17
   have hb2 : comS g h = true := any_true hu10 hc17
   refine wp_seq_k ?_; intro K18 hK18
   refine wp_region_lit ?_
   refine l_as hf rfl rfl ?_; intro a hf
   refine wpList_nil ?_
   refine hK18 _ _ ?_; try clear hK18 K18
   refine wp_ret ?_
   refine x_retB ?_
   refine x_retS ?_
   refine x_retS ?_
   refine x_retB ?_
   refine x_retS ?_
   refine c_ret hf (res1 hf rfl rfl) ?_
   exact ⟨by rw [hb2], hW⟩
  have hc17b := hc17
  have hok : (!((qubI h).any fun y => y == u10)) = true := by rw [hc17]; rfl
  refine wp_skip ?_
  refine x_norm ?_
  refine hK11 _ _ ?_; try clear hK11 K11
  refine wp_region_lit ?_
  refine l_e hf rfl (ev_addx hf rfl rfl (by omega) (by omega)) ?_; intro a hf
  refine l_mv hf rfl rfl ?_; intro a hf
  refine wpList_nil ?_
  refine x_thenN ?_
  exact ⟨k + 1, ⟨hf.sub ⟨rfl, rfl, rfl, rfl, trivial⟩, (by omega), (take_all hpre hu10 hok), hB3, ho6, hW⟩, (by omega)⟩
 have hc9b := hc9
 have hc9 := of_decide_eq_false hc9
 refine wp_exit ?_
 refine x_exS ?_
 refine x_exS ?_
 refine x_exit ?_
 refine hK4 _ _ ?_; try clear hK4 K4
 refine wp_seq_k ?_; intro K19 hK19
 refine wp_region_lit ?_
 refine l_as hf rfl rfl ?_; intro a hf
 refine wpList_nil ?_
 refine hK19 _ _ ?_; try clear hK19 K19
 refine wp_ret ?_
 refine c_ret hf (res1 hf rfl rfl) ?_
 have hb2 : comS g h = false := any_false (take_full hpre (by omega))
 exact ⟨by rw [hb2], hW⟩
theorem F200 (w0 : World) (g : Gt) (Aus : Option Addr) (cus : Nat) (us : List Int) (hr_us : Rd w0 w0.heap.size 3 encI Aus us) (hi : Inc us) (hb : inR g.k 9 11 = true → g.b ∈ us) (hln : us.length ≤ 2305843009213693951) : Ret Tryz.prog 200 [.agg #[.int .i64 g.k, .int .i64 g.a, .int .i64 g.b], .slice Aus us.length cus] w0 (fun v w => v = .int .i64 (if inR g.k 9 11 = true then lastN us g.b us.length else 0) ∧ Below w0.heap.size w0 w) := by
 refine enter Tryz.func200 rfl 24 rfl rfl ?_
 intro a hf
 have hW : Below w0.heap.size w0 w0 := Below.refl _ _
 refine wp_seq_k ?_; intro K2 hK2
 refine wp_region_lit ?_
 refine l_f hf rfl (ef_box (zs := [.int .i64 g.k, .int .i64 g.a, .int .i64 g.b]) hf rfl rfl) ?_; rintro a _ w1 ⟨b3, rfl, hl3, hE, hB3⟩ hf
 have hlo3 := Nat.le_trans hW.size hl3
 replace hW := btr hW hE
 clear hE
 refine l_as hf rfl rfl ?_; intro a hf
 refine wpList_nil ?_
 refine hK2 _ _ ?_; try clear hK2 K2
 refine wp_seq_k ?_; intro K4 hK4
 refine wp_seq_k ?_; intro K5 hK5
 refine wp_region_lit ?_
 refine l_mv hf rfl rfl ?_; intro a hf
 refine l_e hf rfl (ev_len hf rfl sl_36) ?_; intro a hf
 refine l_mv hf rfl rfl ?_; intro a hf
 refine wpList_nil ?_
 refine hK5 _ _ ?_; try clear hK5 K5
 refine wp_block ?_
 refine c_loop (σ := Nat) (fun (k : Nat) (a : Act) (w : World) => Fr a 24 [(2, .pointer (some ⟨b3, 0, none⟩)), (7, .slice Aus us.length cus), (8, .int .i64 (us.length : Int)), (9, .int .i64 (k : Int))] ∧ (k ≤ us.length) ∧ (inR g.k 9 11 = true → ¬ g.b ∈ us.take k) ∧ Blk w b3 107 [.int .i64 g.k, .int .i64 g.a, .int .i64 g.b] ∧ Below w0.heap.size w0 w) (fun (k : Nat) => us.length - k) 0 ?_ ?_
 · exact ⟨hf.sub ⟨rfl, rfl, rfl, rfl, trivial⟩, (Nat.zero_le _), (fun _ => by simp), hB3, hW⟩
 rintro k a w2 ⟨hf, hk, hpre, hB3, hW⟩
 refine wp_seq_k ?_; intro K6 hK6
 refine wp_region_lit ?_
 refine l_e hf rfl (ev_lss hf rfl rfl) ?_; intro a hf
 refine wpList_nil ?_
 refine hK6 _ _ ?_; try clear hK6 K6
 refine wp_seq_k ?_; intro K7 hK7
 refine c_if hf rfl (fun hc8 => ?_) (fun hc8 => ?_)
 ·have hc8b := hc8
  have hc8 := of_decide_eq_true hc8
  obtain ⟨u9, hu9⟩ := getElem_ex (l := us) (k := k) (by omega)
  refine wp_skip ?_
  refine hK7 _ _ ?_; try clear hK7 K7
  refine wp_seq_k ?_; intro K10 hK10
  refine wp_block ?_
  refine wp_seq_k ?_; intro K11 hK11
  refine wp_region_lit ?_
  refine l_mv hf rfl rfl ?_; intro a hf
  refine l_index (k := k) (u := u9) (enc := encI) (l := us) hf trivial rfl rfl rfl sl_36 sz_3 encI_len (hr_us.below' hW) hu9 rfl ?_; intro a p13 hat12 hf
  refine l_e hf rfl (ev_load1 hf rfl t1_3 hat12) ?_; intro a hf
  refine l_as hf rfl rfl ?_; intro a hf
  refine l_as hf rfl rfl ?_; intro a hf
  refine wpList_nil ?_
  refine hK11 _ _ ?_; try clear hK11 K11
  refine wp_seq_k ?_; intro K14 hK14
  refine c_cut (fun a w => Fr a 24 [(2, .pointer (some ⟨b3, 0, none⟩)), (5, .int .i64 (k : Int)), (7, .slice Aus us.length cus), (8, .int .i64 (us.length : Int)), (9, .int .i64 (k : Int)), (21, .bool ((inR g.k 9 11) && (u9 == g.b)))] ∧ Below w2.heap.size w2 w) ?_ ?_
  ·have hEc : Below w2.heap.size w2 w2 := Below.refl _ _
   refine wp_region_lit ?_
   refine l_e hf rfl (ev_loadN (l := [.int .i64 g.k, .int .i64 g.a, .int .i64 g.b]) hf rfl tN_107 (hB3.at 0) rfl) ?_; intro a hf
   refine l_f hf rfl (ef_call (vs := [.agg #[.int .i64 g.k, .int .i64 g.a, .int .i64 g.b]]) hf rfl ff_119 (F119 _ g)) ?_; rintro a _ w3 ⟨rfl, hE⟩ hf
   replace hB3 := hB3.below hE
   replace hW := btr hW hE
   replace hEc := btr hEc hE
   clear hE
   refine l_mv hf rfl rfl ?_; intro a hf
   refine g_split hf (t := 16) rfl (fun hg15 => ?_) (fun hg15 => ?_)
   ·refine l_ev hf ⟨_, _, rfl, rfl, hg15⟩ rfl rfl (ev_move hf rfl) ?_; intro a hf
    refine l_ev hf ⟨_, _, rfl, rfl, hg15⟩ rfl rfl (ev_fieldB hf rfl fd_107_2 (m := 2) rfl) ?_; intro a hf
    refine l_ev hf ⟨_, _, rfl, rfl, hg15⟩ rfl rfl (ev_load1 hf rfl t1_3 (hB3.at 2)) ?_; intro a hf
    refine l_ev hf ⟨_, _, rfl, rfl, hg15⟩ rfl rfl (ev_eql hf rfl rfl) ?_; intro a hf
    refine l_e hf rfl (ev_pickT hf rfl hg15 rfl) ?_; intro a hf
    refine wpList_nil ?_
    have hEE : Below w2.heap.size w2 w3 := hEc
    exact ⟨hf.sub ⟨rfl, rfl, rfl, rfl, rfl, look_bool rfl (by first | rfl | (simp only [hc8b, hg15, Bool.true_and, Bool.false_and, Bool.true_or, Bool.false_or]; done) | simp [hc8b, hg15]), trivial⟩, hEE⟩
   refine l_pass hf ⟨_, _, rfl, rfl, hg15⟩ rfl rfl ?_; intro a hf
   refine l_pass hf ⟨_, _, rfl, rfl, hg15⟩ rfl rfl ?_; intro a hf
   refine l_pass hf ⟨_, _, rfl, rfl, hg15⟩ rfl rfl ?_; intro a hf
   refine l_pass hf ⟨_, _, rfl, rfl, hg15⟩ rfl rfl ?_; intro a hf
   refine l_e hf rfl (ev_pickF hf rfl hg15 rfl) ?_; intro a hf
   refine wpList_nil ?_
   have hEE : Below w2.heap.size w2 w3 := hEc
   exact ⟨hf.sub ⟨rfl, rfl, rfl, rfl, rfl, look_bool rfl (by first | rfl | (simp only [hc8b, hg15, Bool.true_and, Bool.false_and, Bool.true_or, Bool.false_or]; done) | simp [hc8b, hg15]), trivial⟩, hEE⟩
  rintro a w4 ⟨hf, hE⟩
  replace hB3 := hB3.below hE
  replace hW := btr hW hE
  clear hE
  refine hK14 _ _ ?_; try clear hK14 K14
  refine c_if hf rfl (fun hc16 => ?_) (fun hc16 => ?_)
  ·have hc16b := hc16
   obtain ⟨h8, h9⟩ := (Bool.and_eq_true _ _).mp hc16
   have hfin : (if inR g.k 9 11 = true then lastN us g.b us.length else 0) = (k : Int) := by rw [if_pos h8]; exact lastN_inc hi (by rw [hu9, eq_of_beq h9])
   refine wp_seq_k ?_; intro K17 hK17
   refine wp_region_lit ?_
   refine l_mv hf rfl rfl ?_; intro a hf
   refine l_as hf rfl rfl ?_; intro a hf
   refine wpList_nil ?_
   refine hK17 _ _ ?_; try clear hK17 K17
   refine wp_ret ?_
   refine x_retB ?_
   refine x_retS ?_
   refine x_retS ?_
   refine x_retB ?_
   refine x_retS ?_
   refine c_ret hf (res1 hf rfl rfl) ?_
   exact ⟨by rw [hfin], hW⟩
  have hc16b := hc16
  have hnx := at_next hu9 hpre hc16
  refine wp_skip ?_
  refine x_norm ?_
  refine hK10 _ _ ?_; try clear hK10 K10
  refine wp_region_lit ?_
  refine l_e hf rfl (ev_addx hf rfl rfl (by omega) (by omega)) ?_; intro a hf
  refine l_mv hf rfl rfl ?_; intro a hf
  refine wpList_nil ?_
  refine x_thenN ?_
  exact ⟨k + 1, ⟨hf.sub ⟨rfl, rfl, rfl, rfl, trivial⟩, (by omega), hnx, hB3, hW⟩, (by omega)⟩
 have hc8b := hc8
 have hc8 := of_decide_eq_false hc8
 have hfin : (if inR g.k 9 11 = true then lastN us g.b us.length else 0) = 0 := by rw [if_neg]; intro h9; exact hpre h9 (by rw [List.take_of_length_le (by omega)]; exact hb h9)
 refine wp_exit ?_
 refine x_exS ?_
 refine x_exS ?_
 refine x_exit ?_
 refine hK4 _ _ ?_; try clear hK4 K4
 refine wp_seq_k ?_; intro K18 hK18
 refine wp_region_lit ?_
 refine l_as hf rfl rfl ?_; intro a hf
 refine wpList_nil ?_
 refine hK18 _ _ ?_; try clear hK18 K18
 refine wp_ret ?_
 refine c_ret hf (res1 hf rfl rfl) ?_
 exact ⟨by rw [hfin], hW⟩
theorem F144 (w0 : World) (g : Gt) (Aus : Option Addr) (cus : Nat) (us : List Int) (hr_us : Rd w0 w0.heap.size 3 encI Aus us) (hk12 : ¬ g.k = 12) (ha : g.a ∈ us) (hi : Inc us) (hb : inR g.k 9 11 = true → g.b ∈ us) (hln : us.length ≤ 2305843009213693951) : Ret Tryz.prog 144 [.agg #[.int .i64 g.k, .int .i64 g.a, .int .i64 g.b], .slice Aus us.length cus] w0 (fun v w => v = gV (smallG us g) ∧ Below w0.heap.size w0 w) := by
 refine enter Tryz.func144 rfl 27 rfl rfl ?_
 intro a hf
 have hW : Below w0.heap.size w0 w0 := Below.refl _ _
 refine wp_seq_k ?_; intro K2 hK2
 refine wp_region_lit ?_
 refine l_f hf rfl (ef_box (zs := [.int .i64 g.k, .int .i64 g.a, .int .i64 g.b]) hf rfl rfl) ?_; rintro a _ w1 ⟨b3, rfl, hl3, hE, hB3⟩ hf
 have hlo3 := Nat.le_trans hW.size hl3
 replace hW := btr hW hE
 clear hE
 refine l_f hf rfl (ef_alloc (zs := [.int .i64 0, .int .i64 0, .int .i64 0]) z_107 rfl) ?_; rintro a _ w2 ⟨b4, rfl, hl4, hE, hB4⟩ hf
 have hne3_4 : b3 ≠ b4 := by have := hB3.lt; omega
 have hlo4 := Nat.le_trans hW.size hl4
 replace hB3 := hB3.below hE
 replace hW := btr hW hE
 clear hE
 refine wpList_nil ?_
 refine hK2 _ _ ?_; try clear hK2 K2
 refine wp_seq_k ?_; intro K5 hK5
 refine wp_seq_k ?_; intro K6 hK6
 refine wp_region_lit ?_
 refine l_mv hf rfl rfl ?_; intro a hf
 refine l_e hf rfl (ev_len hf rfl sl_36) ?_; intro a hf
 refine l_mv hf rfl rfl ?_; intro a hf
 refine wpList_nil ?_
 refine hK6 _ _ ?_; try clear hK6 K6
 refine wp_block ?_
 refine c_loop (σ := Nat) (fun (k : Nat) (a : Act) (w : World) => Fr a 27 [(1, .slice Aus us.length cus), (2, .pointer (some ⟨b3, 0, none⟩)), (4, .pointer (some ⟨b4, 0, none⟩)), (7, .slice Aus us.length cus), (8, .int .i64 (us.length : Int)), (9, .int .i64 (k : Int))] ∧ (k ≤ us.length) ∧ (¬ g.a ∈ us.take k) ∧ Blk w b3 107 [.int .i64 g.k, .int .i64 g.a, .int .i64 g.b] ∧ Blk w b4 107 [.int .i64 0, .int .i64 0, .int .i64 0] ∧ Below w0.heap.size w0 w) (fun (k : Nat) => us.length - k) 0 ?_ ?_
 · exact ⟨hf.sub ⟨rfl, rfl, rfl, rfl, rfl, rfl, trivial⟩, (Nat.zero_le _), (by simp), hB3, hB4, hW⟩
 rintro k a w3 ⟨hf, hk, hpre, hB3, hB4, hW⟩
 refine wp_seq_k ?_; intro K7 hK7
 refine wp_region_lit ?_
 refine l_e hf rfl (ev_lss hf rfl rfl) ?_; intro a hf
 refine wpList_nil ?_
 refine hK7 _ _ ?_; try clear hK7 K7
 refine wp_seq_k ?_; intro K8 hK8
 refine c_if hf rfl (fun hc9 => ?_) (fun hc9 => ?_)
 ·have hc9b := hc9
  have hc9 := of_decide_eq_true hc9
  obtain ⟨u10, hu10⟩ := getElem_ex (l := us) (k := k) (by omega)
  refine wp_skip ?_
  refine hK8 _ _ ?_; try clear hK8 K8
  refine wp_seq_k ?_; intro K11 hK11
  refine wp_block ?_
  refine wp_seq_k ?_; intro K12 hK12
  refine wp_region_lit ?_
  refine l_mv hf rfl rfl ?_; intro a hf
  refine l_index (k := k) (u := u10) (enc := encI) (l := us) hf trivial rfl rfl rfl sl_36 sz_3 encI_len (hr_us.below' hW) hu10 rfl ?_; intro a p14 hat13 hf
  refine l_e hf rfl (ev_load1 hf rfl t1_3 hat13) ?_; intro a hf
  refine l_as hf rfl rfl ?_; intro a hf
  refine l_as hf rfl rfl ?_; intro a hf
  refine wpList_nil ?_
  refine hK12 _ _ ?_; try clear hK12 K12
  refine wp_seq_k ?_; intro K15 hK15
  refine wp_region_lit ?_
  refine l_mv hf rfl rfl ?_; intro a hf
  refine l_e hf rfl (ev_fieldB hf rfl fd_107_1 (m := 1) rfl) ?_; intro a hf
  refine l_e hf rfl (ev_load1 hf rfl t1_3 (hB3.at 1)) ?_; intro a hf
  refine l_e hf rfl (ev_eql hf rfl rfl) ?_; intro a hf
  refine wpList_nil ?_
  refine hK15 _ _ ?_; try clear hK15 K15
  refine c_if hf rfl (fun hc16 => ?_) (fun hc16 => ?_)
  ·have hc16b := hc16
   have hfin : smallG us g = ⟨g.k, (k : Int), (if inR g.k 9 11 = true then lastN us g.b us.length else 0)⟩ := by rw [smallG, if_neg hk12, lastN_inc hi (by rw [hu10, eq_of_beq hc16])]
   refine wp_seq_k ?_; intro K17 hK17
   refine wp_draw none (fun j => [7].contains j) mixed ?_
   intro w4 hE
   replace hB3 := hB3.below hE
   replace hB4 := hB4.below hE
   replace hW := btr hW hE
   clear hE
   refine s_e0 0 rfl (by kernel_rfl) hf rfl (fun _ => ev_fieldB hf rfl fd_107_0 (m := 0) rfl) ?_; intro a hf
   refine s_e 1 rfl (by kernel_rfl) (by kernel_rfl) hf rfl (ev_load1 hf rfl t1_3 (hB3.at 0)) ?_; intro a hf
   refine s_e0 2 rfl (by kernel_rfl) hf rfl (fun _ => ev_move hf rfl) ?_; intro a hf
   refine s_e 3 rfl (by kernel_rfl) (by kernel_rfl) hf rfl (ev_loadN (l := [.int .i64 g.k, .int .i64 g.a, .int .i64 g.b]) hf rfl tN_107 (hB3.at 0) rfl) ?_; intro a hf
   refine s_e0 4 rfl (by kernel_rfl) hf rfl (fun _ => ev_move hf rfl) ?_; intro a hf
   refine s_one 5 (by kernel_rfl) ?_
   refine p_eff rfl hf trivial rfl rfl (Ef.mono (ef_call (vs := [.agg #[.int .i64 g.k, .int .i64 g.a, .int .i64 g.b], .slice Aus us.length cus]) hf rfl ff_200 (F200 _ g Aus cus us (hr_us.below' hW).top hi hb hln)) (fun _ _ h => ⟨fun _ => by obtain ⟨rfl, hE⟩ := h; exact hE, h⟩)) ?_; rintro a _ w5 ⟨rfl, hE⟩ hf
   replace hB3 := hB3.below hE
   replace hB4 := hB4.below hE
   replace hW := btr hW hE
   clear hE
   refine s_e0 6 rfl (by kernel_rfl) hf rfl (fun _ => ev_build (ps := [(0, .int .i64 g.k), (1, .int .i64 (k : Int)), (2, .int .i64 (if inR g.k 9 11 = true then lastN us g.b us.length else 0))]) (cs := [.int .i64 g.k, .int .i64 (k : Int), .int .i64 (if inR g.k 9 11 = true then lastN us g.b us.length else 0)]) hf rfl (fun _ => by first | rfl | kernel_rfl)) ?_; intro a hf
   refine s_one 7 (by kernel_rfl) ?_
   refine p_eff0 rfl hf trivial rfl (Ef.mono (ef_store (vs := [.int .i64 g.k, .int .i64 (k : Int), .int .i64 (if inR g.k 9 11 = true then lastN us g.b us.length else 0)]) (l' := [.int .i64 g.k, .int .i64 (k : Int), .int .i64 (if inR g.k 9 11 = true then lastN us g.b us.length else 0)]) hf rfl rfl sz_107 hB4 rfl rfl rfl rfl rfl) (fun _ _ h => ⟨fun h0 => absurd h0 (by decide), h⟩)) ?_; rintro a _ w6 ⟨ho, hb⟩ hf
   have hold := hB4
   replace hB3 := hB3.only ho (by omega)
   replace hW := Below.only hW ho hlo4
   clear hold
   have hB4 := hb
   clear hb ho
   refine s_done (by kernel_rfl) ?_
   refine hK17 _ _ ?_; try clear hK17 K17
   refine wp_ret ?_
   refine x_retB ?_
   refine x_retS ?_
   refine x_retS ?_
   refine x_retB ?_
   refine x_retS ?_
   refine c_ret hf (res1 hf rfl (ResV.cellN (l := [.int .i64 g.k, .int .i64 (k : Int), .int .i64 (if inR g.k 9 11 = true then lastN us g.b us.length else 0)]) rfl tN_107 (hB4.at 0) rfl)) ?_
   exact ⟨by rw [hfin], hW⟩
  have hc16b := hc16
  have hnx := not_mem_step hpre hu10 (by intro h9; rw [h9] at hc16; simp at hc16)
  refine wp_skip ?_
  refine x_norm ?_
  refine hK11 _ _ ?_; try clear hK11 K11
  refine wp_region_lit ?_
  refine l_e hf rfl (ev_addx hf rfl rfl (by omega) (by omega)) ?_; intro a hf
  refine l_mv hf rfl rfl ?_; intro a hf
  refine wpList_nil ?_
  refine x_thenN ?_
  exact ⟨k + 1, ⟨hf.sub ⟨rfl, rfl, rfl, rfl, rfl, rfl, trivial⟩, (by omega), hnx, hB3, hB4, hW⟩, (by omega)⟩
 have hc9b := hc9
 have hc9 := of_decide_eq_false hc9
 exfalso; exact hpre (by rw [List.take_of_length_le (by omega)]; exact ha)
theorem F145 (w0 : World) (p : Mx) (Ap : Option Addr) (cp : Nat) (hr_p : Rd w0 w0.heap.size 189 encD Ap p.cells) (q : Mx) (Aq : Option Addr) (cq : Nat) (hr_q : Rd w0 w0.heap.size 189 encD Aq q.cells) (hln : p.cells.length ≤ 2305843009213693951) : Ret Tryz.prog 145 [.agg #[.int .i64 p.rows, .int .i64 p.cols, .slice Ap p.cells.length cp], .agg #[.int .i64 q.rows, .int .i64 q.cols, .slice Aq q.cells.length cq]] w0 (fun v w => v = .bool (decide (p.rows = q.rows) && decide (p.cols = q.cols) && decide (p.cells = q.cells)) ∧ Below w0.heap.size w0 w) := by
 refine enter Tryz.func145 rfl 45 rfl rfl ?_
 intro a hf
 have hW : Below w0.heap.size w0 w0 := Below.refl _ _
 refine wp_seq_k ?_; intro K3 hK3
 refine wp_region_lit ?_
 refine l_f hf rfl (ef_box (zs := [.int .i64 p.rows, .int .i64 p.cols, .slice Ap p.cells.length cp]) hf rfl rfl) ?_; rintro a _ w1 ⟨b4, rfl, hl4, hE, hB4⟩ hf
 have hlo4 := Nat.le_trans hW.size hl4
 replace hW := btr hW hE
 clear hE
 refine l_f hf rfl (ef_box (zs := [.int .i64 q.rows, .int .i64 q.cols, .slice Aq q.cells.length cq]) hf rfl rfl) ?_; rintro a _ w2 ⟨b5, rfl, hl5, hE, hB5⟩ hf
 have hne4_5 : b4 ≠ b5 := by have := hB4.lt; omega
 have hlo5 := Nat.le_trans hW.size hl5
 replace hB4 := hB4.below hE
 replace hW := btr hW hE
 clear hE
 refine l_as hf rfl rfl ?_; intro a hf
 refine wpList_nil ?_
 refine hK3 _ _ ?_; try clear hK3 K3
 refine wp_seq_k ?_; intro K6 hK6
 refine wp_seq_k ?_; intro K7 hK7
 refine c_cut (fun a w => Fr a 45 [(2, .pointer (some ⟨b4, 0, none⟩)), (3, .pointer (some ⟨b5, 0, none⟩)), (26, .bool (((p.rows != q.rows) || (p.cols != q.cols)) || ((p.cells.length : Int) != (q.cells.length : Int))))] ∧ w2 = w) ?_ ?_
 ·refine wp_region_lit ?_
  refine l_e hf rfl (ev_fieldB hf rfl fd_141_0 (m := 0) rfl) ?_; intro a hf
  refine l_e hf rfl (ev_load1 hf rfl t1_3 (hB4.at 0)) ?_; intro a hf
  refine l_e hf rfl (ev_fieldB hf rfl fd_141_0 (m := 0) rfl) ?_; intro a hf
  refine l_e hf rfl (ev_load1 hf rfl t1_3 (hB5.at 0)) ?_; intro a hf
  refine l_e hf rfl (ev_neq hf rfl rfl) ?_; intro a hf
  refine l_mv hf rfl rfl ?_; intro a hf
  refine g_split hf (t := 11) rfl (fun hg8 => ?_) (fun hg8 => ?_)
  ·refine l_pass hf ⟨_, _, rfl, rfl, hg8⟩ rfl rfl ?_; intro a hf
   refine l_pass hf ⟨_, _, rfl, rfl, hg8⟩ rfl rfl ?_; intro a hf
   refine l_pass hf ⟨_, _, rfl, rfl, hg8⟩ rfl rfl ?_; intro a hf
   refine l_pass hf ⟨_, _, rfl, rfl, hg8⟩ rfl rfl ?_; intro a hf
   refine l_pass hf ⟨_, _, rfl, rfl, hg8⟩ rfl rfl ?_; intro a hf
   refine l_e hf rfl (ev_pickT hf rfl hg8 rfl) ?_; intro a hf
   refine l_mv hf rfl rfl ?_; intro a hf
   refine l_pass hf ⟨_, _, rfl, rfl, rfl⟩ rfl rfl ?_; intro a hf
   refine l_pass hf ⟨_, _, rfl, rfl, rfl⟩ rfl rfl ?_; intro a hf
   refine l_pass hf ⟨_, _, rfl, rfl, rfl⟩ rfl rfl ?_; intro a hf
   refine l_pass hf ⟨_, _, rfl, rfl, rfl⟩ rfl rfl ?_; intro a hf
   refine l_pass hf ⟨_, _, rfl, rfl, rfl⟩ rfl rfl ?_; intro a hf
   refine l_pass hf ⟨_, _, rfl, rfl, rfl⟩ rfl rfl ?_; intro a hf
   refine l_pass hf ⟨_, _, rfl, rfl, rfl⟩ rfl rfl ?_; intro a hf
   refine l_e hf rfl (ev_pickT hf rfl rfl rfl) ?_; intro a hf
   refine wpList_nil ?_
   exact ⟨hf.sub ⟨rfl, rfl, look_bool rfl (by first | rfl | (simp only [hg8, Bool.true_and, Bool.false_and, Bool.true_or, Bool.false_or]; done) | simp [hg8]), trivial⟩, rfl⟩
  refine l_ev hf ⟨_, _, rfl, rfl, hg8⟩ rfl rfl (ev_fieldB hf rfl fd_141_1 (m := 1) rfl) ?_; intro a hf
  refine l_ev hf ⟨_, _, rfl, rfl, hg8⟩ rfl rfl (ev_load1 hf rfl t1_3 (hB4.at 1)) ?_; intro a hf
  refine l_ev hf ⟨_, _, rfl, rfl, hg8⟩ rfl rfl (ev_fieldB hf rfl fd_141_1 (m := 1) rfl) ?_; intro a hf
  refine l_ev hf ⟨_, _, rfl, rfl, hg8⟩ rfl rfl (ev_load1 hf rfl t1_3 (hB5.at 1)) ?_; intro a hf
  refine l_ev hf ⟨_, _, rfl, rfl, hg8⟩ rfl rfl (ev_neq hf rfl rfl) ?_; intro a hf
  refine l_e hf rfl (ev_pickF hf rfl hg8 rfl) ?_; intro a hf
  refine l_mv hf rfl rfl ?_; intro a hf
  refine g_split hf (t := 18) rfl (fun hg9 => ?_) (fun hg9 => ?_)
  ·refine l_pass hf ⟨_, _, rfl, rfl, hg9⟩ rfl rfl ?_; intro a hf
   refine l_pass hf ⟨_, _, rfl, rfl, hg9⟩ rfl rfl ?_; intro a hf
   refine l_pass hf ⟨_, _, rfl, rfl, hg9⟩ rfl rfl ?_; intro a hf
   refine l_pass hf ⟨_, _, rfl, rfl, hg9⟩ rfl rfl ?_; intro a hf
   refine l_pass hf ⟨_, _, rfl, rfl, hg9⟩ rfl rfl ?_; intro a hf
   refine l_pass hf ⟨_, _, rfl, rfl, hg9⟩ rfl rfl ?_; intro a hf
   refine l_pass hf ⟨_, _, rfl, rfl, hg9⟩ rfl rfl ?_; intro a hf
   refine l_e hf rfl (ev_pickT hf rfl hg9 rfl) ?_; intro a hf
   refine wpList_nil ?_
   exact ⟨hf.sub ⟨rfl, rfl, look_bool rfl (by first | rfl | (simp only [hg8, hg9, Bool.true_and, Bool.false_and, Bool.true_or, Bool.false_or]; done) | simp [hg8, hg9]), trivial⟩, rfl⟩
  refine l_ev hf ⟨_, _, rfl, rfl, hg9⟩ rfl rfl (ev_fieldB hf rfl fd_141_2 (m := 2) rfl) ?_; intro a hf
  refine l_ev hf ⟨_, _, rfl, rfl, hg9⟩ rfl rfl (ev_load1 hf rfl t1_139 (hB4.at 2)) ?_; intro a hf
  refine l_ev hf ⟨_, _, rfl, rfl, hg9⟩ rfl rfl (ev_len hf rfl sl_139) ?_; intro a hf
  refine l_ev hf ⟨_, _, rfl, rfl, hg9⟩ rfl rfl (ev_fieldB hf rfl fd_141_2 (m := 2) rfl) ?_; intro a hf
  refine l_ev hf ⟨_, _, rfl, rfl, hg9⟩ rfl rfl (ev_load1 hf rfl t1_139 (hB5.at 2)) ?_; intro a hf
  refine l_ev hf ⟨_, _, rfl, rfl, hg9⟩ rfl rfl (ev_len hf rfl sl_139) ?_; intro a hf
  refine l_ev hf ⟨_, _, rfl, rfl, hg9⟩ rfl rfl (ev_neq hf rfl rfl) ?_; intro a hf
  refine l_e hf rfl (ev_pickF hf rfl hg9 rfl) ?_; intro a hf
  refine wpList_nil ?_
  exact ⟨hf.sub ⟨rfl, rfl, look_bool rfl (by first | rfl | (simp only [hg8, hg9, Bool.true_and, Bool.false_and, Bool.true_or, Bool.false_or]; done) | simp [hg8, hg9]), trivial⟩, rfl⟩
 rintro a _ ⟨hf, rfl⟩
 refine hK7 _ _ ?_; try clear hK7 K7
 refine c_if hf rfl (fun hc10 => ?_) (fun hc10 => ?_)
 ·have hc10b := hc10
  have hfin : (decide (p.rows = q.rows) && decide (p.cols = q.cols) && decide (p.cells = q.cells)) = false := mEq_ne hc10
  refine wp_seq_k ?_; intro K11 hK11
  refine wp_region_lit ?_
  refine l_as hf rfl rfl ?_; intro a hf
  refine wpList_nil ?_
  refine hK11 _ _ ?_; try clear hK11 K11
  refine wp_ret ?_
  refine x_retS ?_
  refine c_ret hf (res1 hf rfl rfl) ?_
  exact ⟨by rw [hfin], hW⟩
 have hc10b := hc10
 obtain ⟨e1, e2, e3⟩ := mEq_dims hc10
 refine wp_skip ?_
 refine hK6 _ _ ?_; try clear hK6 K6
 refine wp_seq_k ?_; intro K12 hK12
 refine wp_seq_k ?_; intro K13 hK13
 refine wp_region_lit ?_
 refine l_e hf rfl (ev_fieldB hf rfl fd_141_2 (m := 2) rfl) ?_; intro a hf
 refine l_e hf rfl (ev_load1 hf rfl t1_139 (hB4.at 2)) ?_; intro a hf
 refine l_e hf rfl (ev_len hf rfl sl_139) ?_; intro a hf
 refine l_mv hf rfl rfl ?_; intro a hf
 refine wpList_nil ?_
 refine hK13 _ _ ?_; try clear hK13 K13
 refine wp_block ?_
 refine c_loop (σ := Nat) (fun (k : Nat) (a : Act) (w : World) => Fr a 45 [(2, .pointer (some ⟨b4, 0, none⟩)), (3, .pointer (some ⟨b5, 0, none⟩)), (29, .int .i64 (p.cells.length : Int)), (30, .int .i64 (k : Int))] ∧ (k ≤ p.cells.length) ∧ (p.cells.take k = q.cells.take k) ∧ Blk w b4 141 [.int .i64 p.rows, .int .i64 p.cols, .slice Ap p.cells.length cp] ∧ Blk w b5 141 [.int .i64 q.rows, .int .i64 q.cols, .slice Aq q.cells.length cq] ∧ Below w0.heap.size w0 w) (fun (k : Nat) => p.cells.length - k) 0 ?_ ?_
 · exact ⟨hf.sub ⟨rfl, rfl, rfl, rfl, trivial⟩, (Nat.zero_le _), (by simp), hB4, hB5, hW⟩
 rintro k a w3 ⟨hf, hk, hpre, hB4, hB5, hW⟩
 refine wp_seq_k ?_; intro K14 hK14
 refine wp_region_lit ?_
 refine l_e hf rfl (ev_lss hf rfl rfl) ?_; intro a hf
 refine wpList_nil ?_
 refine hK14 _ _ ?_; try clear hK14 K14
 refine wp_seq_k ?_; intro K15 hK15
 refine c_if hf rfl (fun hc16 => ?_) (fun hc16 => ?_)
 ·have hc16b := hc16
  have hc16 := of_decide_eq_true hc16
  obtain ⟨u17, hu17⟩ := getElem_ex (l := p.cells) (k := k) (by omega)
  obtain ⟨v9, hv9⟩ := getElem_ex (l := q.cells) (k := k) (by omega)
  refine wp_skip ?_
  refine hK15 _ _ ?_; try clear hK15 K15
  refine wp_seq_k ?_; intro K18 hK18
  refine wp_block ?_
  refine wp_seq_k ?_; intro K19 hK19
  refine wp_region_lit ?_
  refine l_mv hf rfl rfl ?_; intro a hf
  refine l_as hf rfl rfl ?_; intro a hf
  refine wpList_nil ?_
  refine hK19 _ _ ?_; try clear hK19 K19
  refine wp_seq_k ?_; intro K20 hK20
  refine wp_draw none (fun _ => false) mixed ?_
  intro w4 hE
  replace hB4 := hB4.below hE
  replace hB5 := hB5.below hE
  replace hW := btr hW hE
  clear hE
  refine s_e0 0 rfl (by kernel_rfl) hf rfl (fun _ => ev_fieldB hf rfl fd_141_2 (m := 2) rfl) ?_; intro a hf
  refine s_e 1 rfl (by kernel_rfl) (by kernel_rfl) hf rfl (ev_load1 hf rfl t1_139 (hB4.at 2)) ?_; intro a hf
  refine s_e0 2 rfl (by kernel_rfl) hf rfl (fun _ => ev_move hf rfl) ?_; intro a hf
  refine s_index (k := k) (u := u17) (enc := encD) (l := p.cells) 3 rfl (by kernel_rfl) (by kernel_rfl) hf trivial rfl rfl rfl sl_139 sz_189 encD_len (hr_p.below' hW) hu17 rfl ?_; intro a p22 hat21 hf
  refine s_e 4 rfl (by kernel_rfl) (by kernel_rfl) hf rfl (ev_loadN (l := [.int .i64 u17.num.a, .int .i64 u17.num.b, .int .i64 u17.num.c, .int .i64 u17.num.d, .int .i64 u17.exp]) hf rfl tN_189 hat21 rfl) ?_; intro a hf
  refine s_e0 5 rfl (by kernel_rfl) hf rfl (fun _ => ev_fieldB hf rfl fd_141_2 (m := 2) rfl) ?_; intro a hf
  refine s_e 6 rfl (by kernel_rfl) (by kernel_rfl) hf rfl (ev_load1 hf rfl t1_139 (hB5.at 2)) ?_; intro a hf
  refine s_e0 7 rfl (by kernel_rfl) hf rfl (fun _ => ev_move hf rfl) ?_; intro a hf
  refine s_index (k := k) (u := v9) (enc := encD) (l := q.cells) 8 rfl (by kernel_rfl) (by kernel_rfl) hf trivial rfl rfl rfl sl_139 sz_189 encD_len (hr_q.below' hW) hv9 rfl ?_; intro a p24 hat23 hf
  refine s_e 9 rfl (by kernel_rfl) (by kernel_rfl) hf rfl (ev_loadN (l := [.int .i64 v9.num.a, .int .i64 v9.num.b, .int .i64 v9.num.c, .int .i64 v9.num.d, .int .i64 v9.exp]) hf rfl tN_189 hat23 rfl) ?_; intro a hf
  refine s_e0 10 rfl (by kernel_rfl) hf rfl (fun _ => ev_neqS hf rfl rfl gd_189 (fun w => eqD 9997 u17 v9 w)) ?_; intro a hf
  refine s_done (by kernel_rfl) ?_
  refine hK20 _ _ ?_; try clear hK20 K20
  refine c_if hf rfl (fun hc25 => ?_) (fun hc25 => ?_)
  ·have hc25b := hc25
   have hfin : (decide (p.rows = q.rows) && decide (p.cols = q.cols) && decide (p.cells = q.cells)) = false := mEq_cell hu17 hv9 (by simpa using hc25)
   refine wp_seq_k ?_; intro K26 hK26
   refine wp_region_lit ?_
   refine l_as hf rfl rfl ?_; intro a hf
   refine wpList_nil ?_
   refine hK26 _ _ ?_; try clear hK26 K26
   refine wp_ret ?_
   refine x_retB ?_
   refine x_retS ?_
   refine x_retS ?_
   refine x_retB ?_
   refine x_retS ?_
   refine c_ret hf (res1 hf rfl rfl) ?_
   exact ⟨by rw [hfin], hW⟩
  have hc25b := hc25
  have he9 : u17 = v9 := by simpa using hc25
  refine wp_skip ?_
  refine x_norm ?_
  refine hK18 _ _ ?_; try clear hK18 K18
  refine wp_region_lit ?_
  refine l_e hf rfl (ev_addx hf rfl rfl (by omega) (by omega)) ?_; intro a hf
  refine l_mv hf rfl rfl ?_; intro a hf
  refine wpList_nil ?_
  refine x_thenN ?_
  exact ⟨k + 1, ⟨hf.sub ⟨rfl, rfl, rfl, rfl, trivial⟩, (by omega), (take_eq hpre hu17 hv9 he9), hB4, hB5, hW⟩, (by omega)⟩
 have hc16b := hc16
 have hc16 := of_decide_eq_false hc16
 refine wp_exit ?_
 refine x_exS ?_
 refine x_exS ?_
 refine x_exit ?_
 refine hK12 _ _ ?_; try clear hK12 K12
 refine wp_seq_k ?_; intro K27 hK27
 refine wp_region_lit ?_
 refine l_as hf rfl rfl ?_; intro a hf
 refine wpList_nil ?_
 refine hK27 _ _ ?_; try clear hK27 K27
 refine wp_ret ?_
 refine c_ret hf (res1 hf rfl rfl) ?_
 have he : p.cells = q.cells := by rw [List.take_of_length_le (by omega), List.take_of_length_le (by omega)] at hpre; exact hpre
 exact ⟨by simp [e1, e2, he], hW⟩
theorem F20 (w0 : World) (Ap : Option Addr) (cp : Nat) (p : List Int) (hr_p : Rd w0 w0.heap.size 3 encI Ap p) (Aq : Option Addr) (cq : Nat) (q : List Int) (hr_q : Rd w0 w0.heap.size 3 encI Aq q) (hln : p.length ≤ 2305843009213693951) : Ret Tryz.prog 20 [.slice Ap p.length cp, .slice Aq q.length cq] w0 (fun v w => v = .bool (decide (p = q)) ∧ Below w0.heap.size w0 w) := by
 refine enter Tryz.func20 rfl 26 rfl rfl ?_
 intro a hf
 have hW : Below w0.heap.size w0 w0 := Below.refl _ _
 refine wp_seq_k ?_; intro K3 hK3
 refine wp_region_lit ?_
 refine l_as hf rfl rfl ?_; intro a hf
 refine wpList_nil ?_
 refine hK3 _ _ ?_; try clear hK3 K3
 refine wp_seq_k ?_; intro K4 hK4
 refine wp_seq_k ?_; intro K5 hK5
 refine wp_region_lit ?_
 refine l_mv hf rfl rfl ?_; intro a hf
 refine l_e hf rfl (ev_len hf rfl sl_36) ?_; intro a hf
 refine l_mv hf rfl rfl ?_; intro a hf
 refine l_e hf rfl (ev_len hf rfl sl_36) ?_; intro a hf
 refine l_e hf rfl (ev_neq hf rfl rfl) ?_; intro a hf
 refine wpList_nil ?_
 refine hK5 _ _ ?_; try clear hK5 K5
 refine c_if hf rfl (fun hc6 => ?_) (fun hc6 => ?_)
 ·have hc6b := hc6
  have hne : ¬ p = q := by intro h9; rw [h9] at hc6; simp at hc6
  refine wp_seq_k ?_; intro K7 hK7
  refine wp_region_lit ?_
  refine l_as hf rfl rfl ?_; intro a hf
  refine wpList_nil ?_
  refine hK7 _ _ ?_; try clear hK7 K7
  refine wp_ret ?_
  refine x_retS ?_
  refine c_ret hf (res1 hf rfl rfl) ?_
  exact ⟨by simp [hne], hW⟩
 have hc6b := hc6
 have hll : p.length = q.length := by have h9 : (p.length : Int) = q.length := (by simpa using hc6); omega
 refine wp_skip ?_
 refine hK4 _ _ ?_; try clear hK4 K4
 refine wp_seq_k ?_; intro K8 hK8
 refine wp_seq_k ?_; intro K9 hK9
 refine wp_region_lit ?_
 refine l_as hf rfl rfl ?_; intro a hf
 refine wpList_nil ?_
 refine hK9 _ _ ?_; try clear hK9 K9
 refine wp_block ?_
 refine c_loop (σ := Nat) (fun (k : Nat) (a : Act) (w : World) => Fr a 26 [(0, .slice Ap p.length cp), (1, .slice Aq q.length cq), (5, .int .i64 (k : Int))] ∧ (k ≤ p.length) ∧ (p.take k = q.take k) ∧ Below w0.heap.size w0 w) (fun (k : Nat) => p.length - k) 0 ?_ ?_
 · exact ⟨hf.sub ⟨rfl, rfl, rfl, trivial⟩, (Nat.zero_le _), (by simp), hW⟩
 rintro k a w1 ⟨hf, hk, hpre, hW⟩
 refine wp_seq_k ?_; intro K10 hK10
 refine wp_seq_k ?_; intro K11 hK11
 refine wp_region_lit ?_
 refine l_mv hf rfl rfl ?_; intro a hf
 refine l_mv hf rfl rfl ?_; intro a hf
 refine l_e hf rfl (ev_len hf rfl sl_36) ?_; intro a hf
 refine l_e hf rfl (ev_lss hf rfl rfl) ?_; intro a hf
 refine wpList_nil ?_
 refine hK11 _ _ ?_; try clear hK11 K11
 refine c_if hf rfl (fun hc12 => ?_) (fun hc12 => ?_)
 ·have hc12b := hc12
  have hc12 := of_decide_eq_true hc12
  obtain ⟨u13, hu13⟩ := getElem_ex (l := p) (k := k) (by omega)
  obtain ⟨v9, hv9⟩ := getElem_ex (l := q) (k := k) (by omega)
  refine wp_skip ?_
  refine hK10 _ _ ?_; try clear hK10 K10
  refine wp_seq_k ?_; intro K14 hK14
  refine wp_block ?_
  refine wp_seq_k ?_; intro K15 hK15
  refine wp_draw none (fun _ => false) mixed ?_
  intro w2 hE
  replace hW := btr hW hE
  clear hE
  refine s_e0 0 rfl (by kernel_rfl) hf rfl (fun _ => ev_move hf rfl) ?_; intro a hf
  refine s_e0 1 rfl (by kernel_rfl) hf rfl (fun _ => ev_move hf rfl) ?_; intro a hf
  refine s_index (k := k) (u := u13) (enc := encI) (l := p) 2 rfl (by kernel_rfl) (by kernel_rfl) hf trivial rfl rfl rfl sl_36 sz_3 encI_len (hr_p.below' hW) hu13 rfl ?_; intro a p17 hat16 hf
  refine s_e 3 rfl (by kernel_rfl) (by kernel_rfl) hf rfl (ev_load1 hf rfl t1_3 hat16) ?_; intro a hf
  refine s_e0 4 rfl (by kernel_rfl) hf rfl (fun _ => ev_move hf rfl) ?_; intro a hf
  refine s_e0 5 rfl (by kernel_rfl) hf rfl (fun _ => ev_move hf rfl) ?_; intro a hf
  refine s_index (k := k) (u := v9) (enc := encI) (l := q) 6 rfl (by kernel_rfl) (by kernel_rfl) hf trivial rfl rfl rfl sl_36 sz_3 encI_len (hr_q.below' hW) hv9 rfl ?_; intro a p19 hat18 hf
  refine s_e 7 rfl (by kernel_rfl) (by kernel_rfl) hf rfl (ev_load1 hf rfl t1_3 hat18) ?_; intro a hf
  refine s_e0 8 rfl (by kernel_rfl) hf rfl (fun _ => ev_neq hf rfl rfl) ?_; intro a hf
  refine s_done (by kernel_rfl) ?_
  refine hK15 _ _ ?_; try clear hK15 K15
  refine c_if hf rfl (fun hc20 => ?_) (fun hc20 => ?_)
  ·have hc20b := hc20
   have hne : ¬ p = q := by rintro rfl; rw [hu13] at hv9; injection hv9 with e9; revert hc20; simp [e9]
   refine wp_seq_k ?_; intro K21 hK21
   refine wp_region_lit ?_
   refine l_as hf rfl rfl ?_; intro a hf
   refine wpList_nil ?_
   refine hK21 _ _ ?_; try clear hK21 K21
   refine wp_ret ?_
   refine x_retB ?_
   refine x_retS ?_
   refine x_retS ?_
   refine x_retB ?_
   refine x_retS ?_
   refine c_ret hf (res1 hf rfl rfl) ?_
   exact ⟨by simp [hne], hW⟩
  have hc20b := hc20
  have he9 : u13 = v9 := by simpa using hc20
  refine wp_skip ?_
  refine x_norm ?_
  refine hK14 _ _ ?_; try clear hK14 K14
  refine wp_region_lit ?_
  refine l_mv hf rfl rfl ?_; intro a hf
  refine l_e hf rfl (ev_addx hf rfl rfl (by omega) (by omega)) ?_; intro a hf
  refine l_as hf rfl rfl ?_; intro a hf
  refine wpList_nil ?_
  refine x_thenN ?_
  exact ⟨k + 1, ⟨hf.sub ⟨rfl, rfl, rfl, trivial⟩, (by omega), (take_eq hpre hu13 hv9 he9), hW⟩, (by omega)⟩
 have hc12b := hc12
 have hc12 := of_decide_eq_false hc12
 refine wp_exit ?_
 refine x_exS ?_
 refine x_exS ?_
 refine x_exit ?_
 refine hK8 _ _ ?_; try clear hK8 K8
 refine wp_seq_k ?_; intro K22 hK22
 refine wp_region_lit ?_
 refine l_as hf rfl rfl ?_; intro a hf
 refine wpList_nil ?_
 refine hK22 _ _ ?_; try clear hK22 K22
 refine wp_ret ?_
 refine c_ret hf (res1 hf rfl rfl) ?_
 have he : p = q := by rw [List.take_of_length_le (by omega), List.take_of_length_le (by omega)] at hpre; exact hpre
 exact ⟨by simp [he], hW⟩
end Go.Proofs.YtfgnmflfiobkmaaGreat
set_option maxRecDepth 4000
namespace Go.Proofs.YtfgnmflfiobkmaaGreat
open Go.RowKit
theorem F204 (w0 : World) (Al : Option Addr) (cl : Nat) (l : List Int) (hr_l : Rd w0 w0.heap.size 3 encI Al l) (x : Int) (hln : l.length ≤ 2305843009213693951) : Ret Tryz.prog 204 [.slice Al l.length cl, .int .i64 x] w0 (fun v w => ∃ i : Int, v = .int .i64 i ∧ decide (0 ≤ i) = (l.any fun y => x == y) ∧ Below w0.heap.size w0 w) := by
 refine enter Tryz.func204 rfl 19 rfl rfl ?_
 intro a hf
 have hW : Below w0.heap.size w0 w0 := Below.refl _ _
 refine wp_seq_k ?_; intro K2 hK2
 refine wp_region_lit ?_
 refine l_as hf rfl rfl ?_; intro a hf
 refine wpList_nil ?_
 refine hK2 _ _ ?_; try clear hK2 K2
 refine wp_seq_k ?_; intro K3 hK3
 refine wp_seq_k ?_; intro K4 hK4
 refine wp_region_lit ?_
 refine l_mv hf rfl rfl ?_; intro a hf
 refine l_e hf rfl (ev_len hf rfl sl_36) ?_; intro a hf
 refine l_mv hf rfl rfl ?_; intro a hf
 refine wpList_nil ?_
 refine hK4 _ _ ?_; try clear hK4 K4
 refine wp_block ?_
 refine c_loop (σ := Nat) (fun (k : Nat) (a : Act) (w : World) => Fr a 19 [(0, .slice Al l.length cl), (1, .int .i64 x), (7, .int .i64 (l.length : Int)), (8, .int .i64 (k : Int))] ∧ (k ≤ l.length) ∧ ((l.take k).all (fun y => !(x == y)) = true) ∧ Below w0.heap.size w0 w) (fun (k : Nat) => l.length + 1 - k) 0 ?_ ?_
 · exact ⟨hf.sub ⟨rfl, rfl, rfl, rfl, trivial⟩, (Nat.zero_le _), (by simp), hW⟩
 rintro k a w1 ⟨hf, hk, hpre, hW⟩
 refine wp_seq_k ?_; intro K5 hK5
 refine wp_region_lit ?_
 refine l_e hf rfl (ev_lss hf rfl rfl) ?_; intro a hf
 refine wpList_nil ?_
 refine hK5 _ _ ?_; try clear hK5 K5
 refine wp_seq_k ?_; intro K6 hK6
 refine c_if hf rfl (fun hc7 => ?_) (fun hc7 => ?_)
 ·have hc7b := hc7
  have hc7 := of_decide_eq_true hc7
  obtain ⟨u8, hu8⟩ := getElem_ex (l := l) (k := k) (by omega)
  refine wp_skip ?_
  refine hK6 _ _ ?_; try clear hK6 K6
  refine wp_seq_k ?_; intro K9 hK9
  refine wp_block ?_
  refine wp_seq_k ?_; intro K10 hK10
  refine wp_region_lit ?_
  refine l_mv hf rfl rfl ?_; intro a hf
  refine l_as hf rfl rfl ?_; intro a hf
  refine wpList_nil ?_
  refine hK10 _ _ ?_; try clear hK10 K10
  refine wp_seq_k ?_; intro K11 hK11
  refine wp_region_lit ?_
  refine l_mv hf rfl rfl ?_; intro a hf
  refine l_mv hf rfl rfl ?_; intro a hf
  refine l_mv hf rfl rfl ?_; intro a hf
  refine l_index (k := k) (u := u8) (enc := encI) (l := l) hf trivial rfl rfl rfl sl_36 sz_3 encI_len (hr_l.below' hW) hu8 rfl ?_; intro a p13 hat12 hf
  refine l_e hf rfl (ev_load1 hf rfl t1_3 hat12) ?_; intro a hf
  refine l_e hf rfl (ev_eql hf rfl rfl) ?_; intro a hf
  refine wpList_nil ?_
  refine hK11 _ _ ?_; try clear hK11 K11
  refine c_if hf rfl (fun hc14 => ?_) (fun hc14 => ?_)
  ·have hc14b := hc14
   have hb2 : l.any (fun y => x == y) = true := any_true hu8 hc14
   refine wp_seq_k ?_; intro K15 hK15
   refine wp_region_lit ?_
   refine l_mv hf rfl rfl ?_; intro a hf
   refine l_as hf rfl rfl ?_; intro a hf
   refine wpList_nil ?_
   refine hK15 _ _ ?_; try clear hK15 K15
   refine wp_ret ?_
   refine x_retB ?_
   refine x_retS ?_
   refine x_retS ?_
   refine x_retB ?_
   refine x_retS ?_
   refine c_ret hf (res1 hf rfl rfl) ?_
   exact ⟨_, rfl, by rw [hb2]; simp, hW⟩
  have hc14b := hc14
  have hok : (!(x == u8)) = true := by rw [hc14]; rfl
  refine wp_skip ?_
  refine x_norm ?_
  refine hK9 _ _ ?_; try clear hK9 K9
  refine wp_region_lit ?_
  refine l_e hf rfl (ev_addx hf rfl rfl (by omega) (by omega)) ?_; intro a hf
  refine l_mv hf rfl rfl ?_; intro a hf
  refine wpList_nil ?_
  refine x_thenN ?_
  exact ⟨k + 1, ⟨hf.sub ⟨rfl, rfl, rfl, rfl, trivial⟩, (by omega), (take_all hpre hu8 hok), hW⟩, (by omega)⟩
 have hc7b := hc7
 have hc7 := of_decide_eq_false hc7
 refine wp_exit ?_
 refine x_exS ?_
 refine x_exS ?_
 refine x_exit ?_
 refine hK3 _ _ ?_; try clear hK3 K3
 refine wp_seq_k ?_; intro K16 hK16
 refine wp_region_lit ?_
 refine l_as hf rfl rfl ?_; intro a hf
 refine wpList_nil ?_
 refine hK16 _ _ ?_; try clear hK16 K16
 refine wp_ret ?_
 refine c_ret hf (res1 hf rfl rfl) ?_
 have hb2 : l.any (fun y => x == y) = false := any_false (take_full hpre (by omega))
 exact ⟨_, rfl, by rw [hb2]; rfl, hW⟩
theorem F152 (w0 : World) (Al : Option Addr) (cl : Nat) (l : List Int) (hr_l : Rd w0 w0.heap.size 3 encI Al l) (x : Int) (hln : l.length ≤ 2305843009213693951) : Ret Tryz.prog 152 [.slice Al l.length cl, .int .i64 x] w0 (fun v w => v = .bool (l.any fun y => x == y) ∧ Below w0.heap.size w0 w) := by
 refine enter Tryz.func152 rfl 9 rfl rfl ?_
 intro a hf
 have hW : Below w0.heap.size w0 w0 := Below.refl _ _
 refine wp_seq_k ?_; intro K2 hK2
 refine wp_region_lit ?_
 refine l_as hf rfl rfl ?_; intro a hf
 refine wpList_nil ?_
 refine hK2 _ _ ?_; try clear hK2 K2
 refine wp_seq_k ?_; intro K3 hK3
 refine wp_region_lit ?_
 refine l_mv hf rfl rfl ?_; intro a hf
 refine l_mv hf rfl rfl ?_; intro a hf
 refine l_f hf rfl (ef_call (vs := [.slice Al l.length cl, .int .i64 x]) hf rfl ff_204 (F204 _ Al cl l (hr_l.below' hW).top x hln)) ?_; rintro a _ w1 ⟨ix, rfl, hix, hE⟩ hf
 replace hW := btr hW hE
 clear hE
 refine l_e hf rfl (ev_geq hf rfl rfl) ?_; intro a hf
 refine l_as hf rfl rfl ?_; intro a hf
 refine wpList_nil ?_
 refine hK3 _ _ ?_; try clear hK3 K3
 refine wp_ret ?_
 refine c_ret hf (res1 hf rfl rfl) ?_
 exact ⟨by rw [← hix], hW⟩
theorem F203 (w0 : World) (Al : Option Addr) (cl : Nat) (l : List Int) (hr_l : Rd w0 w0.heap.size 3 encI Al l) (kq : FuncId) (pq : List Value) (Fq : FuncF Tryz.prog kq) (q : Int → Bool) (hq : ∀ x w, Below w0.heap.size w0 w → Ret Tryz.prog kq ([.int .i64 x] ++ pq) w (fun v w' => v = .bool (q x) ∧ Below w.heap.size w w')) (hln : l.length ≤ 2305843009213693951) : Ret Tryz.prog 203 [.slice Al l.length cl, .func (.func kq) #[] pq.toArray] w0 (fun v w => ∃ i : Int, v = .int .i64 i ∧ decide (0 ≤ i) = l.any q ∧ Below w0.heap.size w0 w) := by
 refine enter Tryz.func203 rfl 19 rfl rfl ?_
 intro a hf
 have hW : Below w0.heap.size w0 w0 := Below.refl _ _
 refine wp_seq_k ?_; intro K2 hK2
 refine wp_region_lit ?_
 refine l_as hf rfl rfl ?_; intro a hf
 refine wpList_nil ?_
 refine hK2 _ _ ?_; try clear hK2 K2
 refine wp_seq_k ?_; intro K3 hK3
 refine wp_seq_k ?_; intro K4 hK4
 refine wp_region_lit ?_
 refine l_mv hf rfl rfl ?_; intro a hf
 refine l_e hf rfl (ev_len hf rfl sl_36) ?_; intro a hf
 refine l_mv hf rfl rfl ?_; intro a hf
 refine wpList_nil ?_
 refine hK4 _ _ ?_; try clear hK4 K4
 refine wp_block ?_
 refine c_loop (σ := Nat) (fun (k : Nat) (a : Act) (w : World) => Fr a 19 [(0, .slice Al l.length cl), (1, .func (.func kq) #[] pq.toArray), (7, .int .i64 (l.length : Int)), (8, .int .i64 (k : Int))] ∧ (k ≤ l.length) ∧ ((l.take k).all (fun x => !q x) = true) ∧ Below w0.heap.size w0 w) (fun (k : Nat) => l.length + 1 - k) 0 ?_ ?_
 · exact ⟨hf.sub ⟨rfl, rfl, rfl, rfl, trivial⟩, (Nat.zero_le _), (by simp), hW⟩
 rintro k a w1 ⟨hf, hk, hpre, hW⟩
 refine wp_seq_k ?_; intro K5 hK5
 refine wp_region_lit ?_
 refine l_e hf rfl (ev_lss hf rfl rfl) ?_; intro a hf
 refine wpList_nil ?_
 refine hK5 _ _ ?_; try clear hK5 K5
 refine wp_seq_k ?_; intro K6 hK6
 refine c_if hf rfl (fun hc7 => ?_) (fun hc7 => ?_)
 ·have hc7b := hc7
  have hc7 := of_decide_eq_true hc7
  obtain ⟨u8, hu8⟩ := getElem_ex (l := l) (k := k) (by omega)
  refine wp_skip ?_
  refine hK6 _ _ ?_; try clear hK6 K6
  refine wp_seq_k ?_; intro K9 hK9
  refine wp_block ?_
  refine wp_seq_k ?_; intro K10 hK10
  refine wp_region_lit ?_
  refine l_mv hf rfl rfl ?_; intro a hf
  refine l_as hf rfl rfl ?_; intro a hf
  refine wpList_nil ?_
  refine hK10 _ _ ?_; try clear hK10 K10
  refine wp_seq_k ?_; intro K11 hK11
  refine wp_region_lit ?_
  refine l_mv hf rfl rfl ?_; intro a hf
  refine l_mv hf rfl rfl ?_; intro a hf
  refine l_mv hf rfl rfl ?_; intro a hf
  refine l_index (k := k) (u := u8) (enc := encI) (l := l) hf trivial rfl rfl rfl sl_36 sz_3 encI_len (hr_l.below' hW) hu8 rfl ?_; intro a p13 hat12 hf
  refine l_e hf rfl (ev_load1 hf rfl t1_3 hat12) ?_; intro a hf
  refine l_f hf rfl (ef_callv (cs := pq) (vs := [.int .i64 u8]) hf rfl rfl Fq (hq u8 _ hW)) ?_; rintro a _ w2 ⟨rfl, hE⟩ hf
  replace hW := btr hW hE
  clear hE
  refine wpList_nil ?_
  refine hK11 _ _ ?_; try clear hK11 K11
  refine c_if hf rfl (fun hc14 => ?_) (fun hc14 => ?_)
  ·have hc14b := hc14
   have hb2 : l.any q = true := any_true hu8 hc14
   refine wp_seq_k ?_; intro K15 hK15
   refine wp_region_lit ?_
   refine l_mv hf rfl rfl ?_; intro a hf
   refine l_as hf rfl rfl ?_; intro a hf
   refine wpList_nil ?_
   refine hK15 _ _ ?_; try clear hK15 K15
   refine wp_ret ?_
   refine x_retB ?_
   refine x_retS ?_
   refine x_retS ?_
   refine x_retB ?_
   refine x_retS ?_
   refine c_ret hf (res1 hf rfl rfl) ?_
   exact ⟨_, rfl, by rw [hb2]; simp, hW⟩
  have hc14b := hc14
  have hok : (!q u8) = true := by revert hc14; cases q u8 <;> simp
  refine wp_skip ?_
  refine x_norm ?_
  refine hK9 _ _ ?_; try clear hK9 K9
  refine wp_region_lit ?_
  refine l_e hf rfl (ev_addx hf rfl rfl (by omega) (by omega)) ?_; intro a hf
  refine l_mv hf rfl rfl ?_; intro a hf
  refine wpList_nil ?_
  refine x_thenN ?_
  exact ⟨k + 1, ⟨hf.sub ⟨rfl, rfl, rfl, rfl, trivial⟩, (by omega), (take_all hpre hu8 hok), hW⟩, (by omega)⟩
 have hc7b := hc7
 have hc7 := of_decide_eq_false hc7
 refine wp_exit ?_
 refine x_exS ?_
 refine x_exS ?_
 refine x_exit ?_
 refine hK3 _ _ ?_; try clear hK3 K3
 refine wp_seq_k ?_; intro K16 hK16
 refine wp_region_lit ?_
 refine l_as hf rfl rfl ?_; intro a hf
 refine wpList_nil ?_
 refine hK16 _ _ ?_; try clear hK16 K16
 refine wp_ret ?_
 refine c_ret hf (res1 hf rfl rfl) ?_
 have hb2 : l.any q = false := any_false (take_full hpre (by omega))
 exact ⟨_, rfl, by rw [hb2]; rfl, hW⟩
theorem F150 (w0 : World) (Al : Option Addr) (cl : Nat) (l : List Int) (hr_l : Rd w0 w0.heap.size 3 encI Al l) (kq : FuncId) (pq : List Value) (Fq : FuncF Tryz.prog kq) (q : Int → Bool) (hq : ∀ x w, Below w0.heap.size w0 w → Ret Tryz.prog kq ([.int .i64 x] ++ pq) w (fun v w' => v = .bool (q x) ∧ Below w.heap.size w w')) (hln : l.length ≤ 2305843009213693951) : Ret Tryz.prog 150 [.slice Al l.length cl, .func (.func kq) #[] pq.toArray] w0 (fun v w => v = .bool (l.any q) ∧ Below w0.heap.size w0 w) := by
 refine enter Tryz.func150 rfl 9 rfl rfl ?_
 intro a hf
 have hW : Below w0.heap.size w0 w0 := Below.refl _ _
 refine wp_seq_k ?_; intro K2 hK2
 refine wp_region_lit ?_
 refine l_as hf rfl rfl ?_; intro a hf
 refine wpList_nil ?_
 refine hK2 _ _ ?_; try clear hK2 K2
 refine wp_seq_k ?_; intro K3 hK3
 refine wp_region_lit ?_
 refine l_mv hf rfl rfl ?_; intro a hf
 refine l_mv hf rfl rfl ?_; intro a hf
 refine l_f hf rfl (ef_call (vs := [.slice Al l.length cl, .func (.func kq) #[] pq.toArray]) hf rfl ff_203 (F203 _ Al cl l (hr_l.below' hW).top kq pq Fq q (fun x w' hE' => hq x w' (hW.trans (hE'.mono hW.size))) hln)) ?_; rintro a _ w1 ⟨ix, rfl, hix, hE⟩ hf
 replace hW := btr hW hE
 clear hE
 refine l_e hf rfl (ev_geq hf rfl rfl) ?_; intro a hf
 refine l_as hf rfl rfl ?_; intro a hf
 refine wpList_nil ?_
 refine hK3 _ _ ?_; try clear hK3 K3
 refine wp_ret ?_
 refine c_ret hf (res1 hf rfl rfl) ?_
 exact ⟨by rw [← hix], hW⟩
theorem F151 (w0 : World) (x : Int) (h : Gt) (ba : Nat) (hBa : Blk w0 ba 107 [.int .i64 h.k, .int .i64 h.a, .int .i64 h.b]) : Ret Tryz.prog 151 [.int .i64 x, .pointer (some ⟨ba, 0, none⟩)] w0 (fun v w => v = .bool ((qubI h).any fun y => x == y) ∧ Below w0.heap.size w0 w) := by
 have hltba := hBa.lt
 refine enter Tryz.func151 rfl 8 rfl rfl ?_
 intro a hf
 have hW : Below w0.heap.size w0 w0 := Below.refl _ _
 refine wp_seq_k ?_; intro K1 hK1
 refine wp_region_lit ?_
 refine l_as hf rfl rfl ?_; intro a hf
 refine wpList_nil ?_
 refine hK1 _ _ ?_; try clear hK1 K1
 refine wp_seq_k ?_; intro K2 hK2
 refine wp_region_lit ?_
 refine l_e hf rfl (ev_loadN (l := [.int .i64 h.k, .int .i64 h.a, .int .i64 h.b]) hf rfl tN_107 (hBa.at 0) rfl) ?_; intro a hf
 refine l_f hf rfl (ef_call (vs := [.agg #[.int .i64 h.k, .int .i64 h.a, .int .i64 h.b]]) hf rfl ff_96 (F96 _ h)) ?_; rintro a _ w1 ⟨A3, c3, rfl, ho3, hE⟩ hf
 replace ho3 := ho3.lower hW.size
 replace hBa := hBa.below hE
 replace hW := btr hW hE
 clear hE
 refine l_mv hf rfl rfl ?_; intro a hf
 refine l_f hf rfl (ef_call (vs := [.slice A3 (qubI h).length c3, .int .i64 x]) hf rfl ff_152 (F152 _ A3 c3 (qubI h) ho3.rd.top x (by have := qubI_len h; omega))) ?_; rintro a _ w2 ⟨rfl, hE⟩ hf
 replace hBa := hBa.below hE
 replace ho3 := ho3.below hE
 replace hW := btr hW hE
 clear hE
 refine l_as hf rfl rfl ?_; intro a hf
 refine wpList_nil ?_
 refine hK2 _ _ ?_; try clear hK2 K2
 refine wp_ret ?_
 refine c_ret hf (res1 hf rfl rfl) ?_
 exact ⟨rfl, hW⟩
theorem F108 (w0 : World) (g : Gt) (h : Gt) : Ret Tryz.prog 108 [.agg #[.int .i64 g.k, .int .i64 g.a, .int .i64 g.b], .agg #[.int .i64 h.k, .int .i64 h.a, .int .i64 h.b]] w0 (fun v w => v = .bool (comI g h) ∧ Below w0.heap.size w0 w) := by
 refine enter Tryz.func108 rfl 9 rfl rfl ?_
 intro a hf
 have hW : Below w0.heap.size w0 w0 := Below.refl _ _
 refine wp_seq_k ?_; intro K1 hK1
 refine wp_region_lit ?_
 refine l_f hf rfl (ef_box (zs := [.int .i64 g.k, .int .i64 g.a, .int .i64 g.b]) hf rfl rfl) ?_; rintro a _ w1 ⟨b2, rfl, hl2, hE, hB2⟩ hf
 have hlo2 := Nat.le_trans hW.size hl2
 replace hW := btr hW hE
 clear hE
 refine l_f hf rfl (ef_box (zs := [.int .i64 h.k, .int .i64 h.a, .int .i64 h.b]) hf rfl rfl) ?_; rintro a _ w2 ⟨b3, rfl, hl3, hE, hB3⟩ hf
 have hne2_3 : b2 ≠ b3 := by have := hB2.lt; omega
 have hlo3 := Nat.le_trans hW.size hl3
 replace hB2 := hB2.below hE
 replace hW := btr hW hE
 clear hE
 refine l_as hf rfl rfl ?_; intro a hf
 refine wpList_nil ?_
 refine hK1 _ _ ?_; try clear hK1 K1
 refine wp_seq_k ?_; intro K4 hK4
 refine wp_region_lit ?_
 refine l_e hf rfl (ev_loadN (l := [.int .i64 g.k, .int .i64 g.a, .int .i64 g.b]) hf rfl tN_107 (hB2.at 0) rfl) ?_; intro a hf
 refine l_f hf rfl (ef_call (vs := [.agg #[.int .i64 g.k, .int .i64 g.a, .int .i64 g.b]]) hf rfl ff_96 (F96 _ g)) ?_; rintro a _ w3 ⟨A5, c5, rfl, ho5, hE⟩ hf
 replace ho5 := ho5.lower hW.size
 replace hB2 := hB2.below hE
 replace hB3 := hB3.below hE
 replace hW := btr hW hE
 clear hE
 refine l_e hf rfl (ev_makeFunc (vs := [.pointer (some ⟨b3, 0, none⟩)]) hf rfl) ?_; intro a hf
 refine l_f hf rfl (ef_call (vs := [.slice A5 (qubI g).length c5, .func (.func 151) #[] #[.pointer (some ⟨b3, 0, none⟩)]]) hf rfl ff_150 (F150 _ A5 c5 (qubI g) ho5.rd.top 151 [.pointer (some ⟨b3, 0, none⟩)] ff_151 (fun x => (qubI h).any fun y => x == y) (fun x w' hE' => F151 w' x h _ (hB3.below hE')) (by have := qubI_len g; omega))) ?_; rintro a _ w4 ⟨rfl, hE⟩ hf
 replace hB2 := hB2.below hE
 replace hB3 := hB3.below hE
 replace ho5 := ho5.below hE
 replace hW := btr hW hE
 clear hE
 refine l_as hf rfl rfl ?_; intro a hf
 refine wpList_nil ?_
 refine hK4 _ _ ?_; try clear hK4 K4
 refine wp_ret ?_
 refine c_ret hf (res1 hf rfl rfl) ?_
 exact ⟨rfl, hW⟩
end Go.Proofs.YtfgnmflfiobkmaaGreat
