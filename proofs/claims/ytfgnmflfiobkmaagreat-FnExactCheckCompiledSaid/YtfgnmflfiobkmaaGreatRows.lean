/-
  No cell of these rows narrows 'for every input' (looked for: loops, veiled, ifaces, maps, wideKeys, modest, calm, conditions, laid).
  DERIVED. THE GIVEN ROWS OF THIS SEAT. 6 by the template 'for every input the law returns true; each argument reads behind the call as it read before'; 0 by the template 'total and deterministic' (their statements: YtfgnmflfiobkmaaGreatTotals.lean).
  GIVEN WITH THE SEED: the statements are not yours to turn. If you find one false, say at which input.
  Laid BY PROGRAM, IN A SANDBOX (cutbox-rows.mjs): the forced cells as the released guide's own fill.sh prints them over the translation 91b3022b2f17c69e… (all of the seat's roots in one cut). By AI agents, Wed Nov 11 2026. No macro, syntax, notation, axiom, sorry.
-/
import Derived.Test.YtfgnmflfiobkmaaGreatChecked
import GoSem.Claim
import GoSem.ClaimJoined
import GoSem.ClaimMapViews
import Derived.JoinedTies
import Derived.KernelRfl
namespace Go.Proofs.YtfgnmflfiobkmaaGreat
/- THE CELL 'sum', in the pinned program and in every row, IS THE sha256 OF THE DUMP (.gsa) THAT YtfgnmflfiobkmaaGreatProg.lean LOADS. Nothing in Lean hashes anything: it is a label: what it is worth is what the hold of that sum in a sandbox is worth. -/
noncomputable def Tryz.pinned : Pinned := { name := "ytfgnmflfiobkmaagreat", sum := "91b3022b2f17c69e0f9ebe5dde4eb0b675abfc2ac73657f9eb0efc59fd19b721", checked := Tryz.checked }
namespace Rows
def none {H : Type} : Left H := { results := [], args := [] }

/-- 'laws.FnExactIsJustified': WHATEVER THE INPUT: true; the input reads as it did. -/
def fnExactIsJustifiedSpec : ChangeSpec := { name := "fnExactIsJustified", fn := fun _ => fun
  | [d1, d2] => { results := [.lit (.bool true)], args := [d1, d2] }
  | _ => none }
def fnExactIsJustifiedRow : OpenClaim := { program := "ytfgnmflfiobkmaagreat", sum := "91b3022b2f17c69e0f9ebe5dde4eb0b675abfc2ac73657f9eb0efc59fd19b721", func := "loop.example/g00864/laws.FnExactIsJustified", spec := "fnExactIsJustified", unfollowed := true, recurses := true, plainKeys := false, apart := false }
def FnExactIsJustifiedSaid : Prop := fnExactIsJustifiedRow.holds Tryz.pinned (OpenSpec.ofChange fnExactIsJustifiedSpec)

/-- ITS FALSE NEIGHBOUR: 'it returns false'. Refute it at one input. -/
def fnExactIsJustifiedWrong : ChangeSpec := { name := "fnExactIsJustified", fn := fun _ => fun
  | [d1, d2] => { results := [.lit (.bool false)], args := [d1, d2] }
  | _ => none }
def FnExactIsJustifiedWrongFalsely : Prop := fnExactIsJustifiedRow.holds Tryz.pinned (OpenSpec.ofChange fnExactIsJustifiedWrong)

/-- 'laws.FnExactCheckSchedule': WHATEVER THE INPUT: true; the input reads as it did. -/
def fnExactCheckScheduleSpec : ChangeSpec := { name := "fnExactCheckSchedule", fn := fun _ => fun
  | [d1, d2] => { results := [.lit (.bool true)], args := [d1, d2] }
  | _ => none }
def fnExactCheckScheduleRow : OpenClaim := { program := "ytfgnmflfiobkmaagreat", sum := "91b3022b2f17c69e0f9ebe5dde4eb0b675abfc2ac73657f9eb0efc59fd19b721", func := "loop.example/g00864/laws.FnExactCheckSchedule", spec := "fnExactCheckSchedule", unfollowed := true, recurses := true, plainKeys := false, apart := false }
def FnExactCheckScheduleSaid : Prop := fnExactCheckScheduleRow.holds Tryz.pinned (OpenSpec.ofChange fnExactCheckScheduleSpec)

/-- ITS FALSE NEIGHBOUR: 'it returns false'. Refute it at one input. -/
def fnExactCheckScheduleWrong : ChangeSpec := { name := "fnExactCheckSchedule", fn := fun _ => fun
  | [d1, d2] => { results := [.lit (.bool false)], args := [d1, d2] }
  | _ => none }
def FnExactCheckScheduleWrongFalsely : Prop := fnExactCheckScheduleRow.holds Tryz.pinned (OpenSpec.ofChange fnExactCheckScheduleWrong)

/-- 'laws.FnExactScheduleOf': WHATEVER THE INPUT: true; the input reads as it did. -/
def fnExactScheduleOfSpec : ChangeSpec := { name := "fnExactScheduleOf", fn := fun _ => fun
  | [d] => { results := [.lit (.bool true)], args := [d] }
  | _ => none }
def fnExactScheduleOfRow : OpenClaim := { program := "ytfgnmflfiobkmaagreat", sum := "91b3022b2f17c69e0f9ebe5dde4eb0b675abfc2ac73657f9eb0efc59fd19b721", func := "loop.example/g00864/laws.FnExactScheduleOf", spec := "fnExactScheduleOf", unfollowed := true, recurses := true, plainKeys := false, apart := false }
def FnExactScheduleOfSaid : Prop := fnExactScheduleOfRow.holds Tryz.pinned (OpenSpec.ofChange fnExactScheduleOfSpec)

/-- ITS FALSE NEIGHBOUR: 'it returns false'. Refute it at one input. -/
def fnExactScheduleOfWrong : ChangeSpec := { name := "fnExactScheduleOf", fn := fun _ => fun
  | [d] => { results := [.lit (.bool false)], args := [d] }
  | _ => none }
def FnExactScheduleOfWrongFalsely : Prop := fnExactScheduleOfRow.holds Tryz.pinned (OpenSpec.ofChange fnExactScheduleOfWrong)

/-- 'laws.FnExactCheckCertificate': WHATEVER THE INPUT: true; the input reads as it did. -/
def fnExactCheckCertificateSpec : ChangeSpec := { name := "fnExactCheckCertificate", fn := fun _ => fun
  | [d] => { results := [.lit (.bool true)], args := [d] }
  | _ => none }
def fnExactCheckCertificateRow : OpenClaim := { program := "ytfgnmflfiobkmaagreat", sum := "91b3022b2f17c69e0f9ebe5dde4eb0b675abfc2ac73657f9eb0efc59fd19b721", func := "loop.example/g00864/laws.FnExactCheckCertificate", spec := "fnExactCheckCertificate", unfollowed := true, recurses := true, plainKeys := false, apart := false }
def FnExactCheckCertificateSaid : Prop := fnExactCheckCertificateRow.holds Tryz.pinned (OpenSpec.ofChange fnExactCheckCertificateSpec)

/-- ITS FALSE NEIGHBOUR: 'it returns false'. Refute it at one input. -/
def fnExactCheckCertificateWrong : ChangeSpec := { name := "fnExactCheckCertificate", fn := fun _ => fun
  | [d] => { results := [.lit (.bool false)], args := [d] }
  | _ => none }
def FnExactCheckCertificateWrongFalsely : Prop := fnExactCheckCertificateRow.holds Tryz.pinned (OpenSpec.ofChange fnExactCheckCertificateWrong)

/-- 'laws.FnExactScheduleCircuit': WHATEVER THE INPUT: true; the input reads as it did. -/
def fnExactScheduleCircuitSpec : ChangeSpec := { name := "fnExactScheduleCircuit", fn := fun _ => fun
  | [d1, d2] => { results := [.lit (.bool true)], args := [d1, d2] }
  | _ => none }
def fnExactScheduleCircuitRow : OpenClaim := { program := "ytfgnmflfiobkmaagreat", sum := "91b3022b2f17c69e0f9ebe5dde4eb0b675abfc2ac73657f9eb0efc59fd19b721", func := "loop.example/g00864/laws.FnExactScheduleCircuit", spec := "fnExactScheduleCircuit", unfollowed := true, recurses := true, plainKeys := false, apart := false }
def FnExactScheduleCircuitSaid : Prop := fnExactScheduleCircuitRow.holds Tryz.pinned (OpenSpec.ofChange fnExactScheduleCircuitSpec)

/-- ITS FALSE NEIGHBOUR: 'it returns false'. Refute it at one input. -/
def fnExactScheduleCircuitWrong : ChangeSpec := { name := "fnExactScheduleCircuit", fn := fun _ => fun
  | [d1, d2] => { results := [.lit (.bool false)], args := [d1, d2] }
  | _ => none }
def FnExactScheduleCircuitWrongFalsely : Prop := fnExactScheduleCircuitRow.holds Tryz.pinned (OpenSpec.ofChange fnExactScheduleCircuitWrong)

/-- 'laws.FnExactCheckCompiled': WHATEVER THE INPUT: true; the input reads as it did. -/
def fnExactCheckCompiledSpec : ChangeSpec := { name := "fnExactCheckCompiled", fn := fun _ => fun
  | [d1, d2, d3] => { results := [.lit (.bool true)], args := [d1, d2, d3] }
  | _ => none }
def fnExactCheckCompiledRow : OpenClaim := { program := "ytfgnmflfiobkmaagreat", sum := "91b3022b2f17c69e0f9ebe5dde4eb0b675abfc2ac73657f9eb0efc59fd19b721", func := "loop.example/g00864/laws.FnExactCheckCompiled", spec := "fnExactCheckCompiled", unfollowed := true, recurses := true, plainKeys := false, apart := false }
def FnExactCheckCompiledSaid : Prop := fnExactCheckCompiledRow.holds Tryz.pinned (OpenSpec.ofChange fnExactCheckCompiledSpec)

/-- ITS FALSE NEIGHBOUR: 'it returns false'. Refute it at one input. -/
def fnExactCheckCompiledWrong : ChangeSpec := { name := "fnExactCheckCompiled", fn := fun _ => fun
  | [d1, d2, d3] => { results := [.lit (.bool false)], args := [d1, d2, d3] }
  | _ => none }
def FnExactCheckCompiledWrongFalsely : Prop := fnExactCheckCompiledRow.holds Tryz.pinned (OpenSpec.ofChange fnExactCheckCompiledWrong)

/- THE SECOND FORM. 'bulk': how many values and letters a reading holds, each counted each time it is reached (what is shared counts as often as it is met; a slice's spare places count too). A statement '..UptoSaid' is the law's where the arguments, and the package variables that the reading takes, are together of bulk at most 1048576: NARROWER than '..Said'. Prove '..Said' where nothing that the law and all that it calls make is longer than what came in: it says more and counts as full. Else prove '..UptoSaid'. A law counts once. -/
mutual
def uptoBulk {H : Type} : DataW H → Nat
  | .lit (.string bytes) => bytes.length + 1
  | .lit _ => 1
  | .nil => 1
  | .ptr d => uptoBulk d + 1
  | .slice elems spare => uptoBulkAll elems + uptoBulkAll spare + 1
  | .agg parts => uptoBulkAll parts + 1
  | .iface _ d => uptoBulk d + 1
  | .map entries => uptoBulkEntries entries + 1
  | .held _ => 1
def uptoBulkAll {H : Type} : List (DataW H) → Nat
  | [] => 0
  | d :: r => uptoBulk d + uptoBulkAll r
def uptoBulkEntries {H : Type} : List (Lit × DataW H) → Nat
  | [] => 0
  | x :: r => uptoBulkEntry x + uptoBulkEntries r
def uptoBulkEntry {H : Type} : Lit × DataW H → Nat
  | (.string bytes, d) => bytes.length + uptoBulk d + 1
  | (_, d) => uptoBulk d + 1
 end
def uptoSmall : (H : Type) → List (DataW H) → Bool := fun _ ds => decide (uptoBulkAll ds ≤ 1048576)
def OpenSpec.upto (s : _root_.Go.ChangeSpec) : _root_.Go.OpenSpec := { _root_.Go.OpenSpec.ofChange s with cond := some uptoSmall }

/-- 'laws.FnExactIsJustified', WHERE WHAT IT READS IS OF BULK AT MOST 1048576: true; the input reads as it did. -/
def fnExactIsJustifiedUptoRow : OpenClaim := { program := "ytfgnmflfiobkmaagreat", sum := "91b3022b2f17c69e0f9ebe5dde4eb0b675abfc2ac73657f9eb0efc59fd19b721", func := "loop.example/g00864/laws.FnExactIsJustified", spec := "fnExactIsJustified", unfollowed := true, recurses := true, plainKeys := false, apart := false, narrowed := true }
def FnExactIsJustifiedUptoSaid : Prop := fnExactIsJustifiedUptoRow.holds Tryz.pinned (OpenSpec.upto fnExactIsJustifiedSpec)

/-- 'laws.FnExactCheckSchedule', WHERE WHAT IT READS IS OF BULK AT MOST 1048576: true; the input reads as it did. -/
def fnExactCheckScheduleUptoRow : OpenClaim := { program := "ytfgnmflfiobkmaagreat", sum := "91b3022b2f17c69e0f9ebe5dde4eb0b675abfc2ac73657f9eb0efc59fd19b721", func := "loop.example/g00864/laws.FnExactCheckSchedule", spec := "fnExactCheckSchedule", unfollowed := true, recurses := true, plainKeys := false, apart := false, narrowed := true }
def FnExactCheckScheduleUptoSaid : Prop := fnExactCheckScheduleUptoRow.holds Tryz.pinned (OpenSpec.upto fnExactCheckScheduleSpec)

/-- 'laws.FnExactScheduleOf', WHERE WHAT IT READS IS OF BULK AT MOST 1048576: true; the input reads as it did. -/
def fnExactScheduleOfUptoRow : OpenClaim := { program := "ytfgnmflfiobkmaagreat", sum := "91b3022b2f17c69e0f9ebe5dde4eb0b675abfc2ac73657f9eb0efc59fd19b721", func := "loop.example/g00864/laws.FnExactScheduleOf", spec := "fnExactScheduleOf", unfollowed := true, recurses := true, plainKeys := false, apart := false, narrowed := true }
def FnExactScheduleOfUptoSaid : Prop := fnExactScheduleOfUptoRow.holds Tryz.pinned (OpenSpec.upto fnExactScheduleOfSpec)

/-- 'laws.FnExactCheckCertificate', WHERE WHAT IT READS IS OF BULK AT MOST 1048576: true; the input reads as it did. -/
def fnExactCheckCertificateUptoRow : OpenClaim := { program := "ytfgnmflfiobkmaagreat", sum := "91b3022b2f17c69e0f9ebe5dde4eb0b675abfc2ac73657f9eb0efc59fd19b721", func := "loop.example/g00864/laws.FnExactCheckCertificate", spec := "fnExactCheckCertificate", unfollowed := true, recurses := true, plainKeys := false, apart := false, narrowed := true }
def FnExactCheckCertificateUptoSaid : Prop := fnExactCheckCertificateUptoRow.holds Tryz.pinned (OpenSpec.upto fnExactCheckCertificateSpec)

/-- 'laws.FnExactScheduleCircuit', WHERE WHAT IT READS IS OF BULK AT MOST 1048576: true; the input reads as it did. -/
def fnExactScheduleCircuitUptoRow : OpenClaim := { program := "ytfgnmflfiobkmaagreat", sum := "91b3022b2f17c69e0f9ebe5dde4eb0b675abfc2ac73657f9eb0efc59fd19b721", func := "loop.example/g00864/laws.FnExactScheduleCircuit", spec := "fnExactScheduleCircuit", unfollowed := true, recurses := true, plainKeys := false, apart := false, narrowed := true }
def FnExactScheduleCircuitUptoSaid : Prop := fnExactScheduleCircuitUptoRow.holds Tryz.pinned (OpenSpec.upto fnExactScheduleCircuitSpec)

/-- 'laws.FnExactCheckCompiled', WHERE WHAT IT READS IS OF BULK AT MOST 1048576: true; the input reads as it did. -/
def fnExactCheckCompiledUptoRow : OpenClaim := { program := "ytfgnmflfiobkmaagreat", sum := "91b3022b2f17c69e0f9ebe5dde4eb0b675abfc2ac73657f9eb0efc59fd19b721", func := "loop.example/g00864/laws.FnExactCheckCompiled", spec := "fnExactCheckCompiled", unfollowed := true, recurses := true, plainKeys := false, apart := false, narrowed := true }
def FnExactCheckCompiledUptoSaid : Prop := fnExactCheckCompiledUptoRow.holds Tryz.pinned (OpenSpec.upto fnExactCheckCompiledSpec)

end Rows
end Go.Proofs.YtfgnmflfiobkmaaGreat
