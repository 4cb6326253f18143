/-
  No cell of these rows narrows 'for every input' (looked for: loops, veiled, ifaces, maps, wideKeys, modest, calm, conditions, laid).
  DERIVED. THE GIVEN ROWS OF THIS SEAT. 4 by the template 'for every input the law returns true; each argument reads behind the call as it read before'; 0 by the template 'total and deterministic' (their statements: YtlfjcmldfbfdbaaGreatTotals.lean).
  GIVEN WITH THE SEED: the statements are not yours to turn. If you find one false, say at which input.
  Laid BY PROGRAM, IN A SANDBOX (cutbox-rows.mjs): the forced cells as the released guide's own fill.sh prints them over the translation e2b11f6d007740a6… (all of the seat's roots in one cut). By AI agents, Wed Nov 11 2026. No macro, syntax, notation, axiom, sorry.
-/
import Derived.Test.YtlfjcmldfbfdbaaGreatChecked
import GoSem.Claim
import GoSem.ClaimJoined
import GoSem.ClaimMapViews
import Derived.JoinedTies
import Derived.KernelRfl
namespace Go.Proofs.YtlfjcmldfbfdbaaGreat
/- THE CELL 'sum', in the pinned program and in every row, IS THE sha256 OF THE DUMP (.gsa) THAT YtlfjcmldfbfdbaaGreatProg.lean LOADS. Nothing in Lean hashes anything: it is a label: what it is worth is what the hold of that sum in a sandbox is worth. -/
noncomputable def Tryz.pinned : Pinned := { name := "ytlfjcmldfbfdbaagreat", sum := "e2b11f6d007740a60b0cb2310f239c3ed368a3c2fde3d3642e6f14fa6de314fd", checked := Tryz.checked }
namespace Rows
def none {H : Type} : Left H := { results := [], args := [] }

/-- 'laws.FnCommuting': WHATEVER THE INPUT: true; the input reads as it did. -/
def fnCommutingSpec : ChangeSpec := { name := "fnCommuting", fn := fun _ => fun
  | [d1, d2] => { results := [.lit (.bool true)], args := [d1, d2] }
  | _ => none }
def fnCommutingRow : OpenClaim := { program := "ytlfjcmldfbfdbaagreat", sum := "e2b11f6d007740a60b0cb2310f239c3ed368a3c2fde3d3642e6f14fa6de314fd", func := "loop.example/g00864/laws.FnCommuting", spec := "fnCommuting", unfollowed := true, recurses := true, plainKeys := false, apart := false }
def FnCommutingSaid : Prop := fnCommutingRow.holds Tryz.pinned (OpenSpec.ofChange fnCommutingSpec)

/-- ITS FALSE NEIGHBOUR: 'it returns false'. Refute it at one input. -/
def fnCommutingWrong : ChangeSpec := { name := "fnCommuting", fn := fun _ => fun
  | [d1, d2] => { results := [.lit (.bool false)], args := [d1, d2] }
  | _ => none }
def FnCommutingWrongFalsely : Prop := fnCommutingRow.holds Tryz.pinned (OpenSpec.ofChange fnCommutingWrong)

/-- 'laws.FnAccepted': WHATEVER THE INPUT: true; the input reads as it did. -/
def fnAcceptedSpec : ChangeSpec := { name := "fnAccepted", fn := fun _ => fun
  | [d1, d2] => { results := [.lit (.bool true)], args := [d1, d2] }
  | _ => none }
def fnAcceptedRow : OpenClaim := { program := "ytlfjcmldfbfdbaagreat", sum := "e2b11f6d007740a60b0cb2310f239c3ed368a3c2fde3d3642e6f14fa6de314fd", func := "loop.example/g00864/laws.FnAccepted", spec := "fnAccepted", unfollowed := true, recurses := true, plainKeys := false, apart := false }
def FnAcceptedSaid : Prop := fnAcceptedRow.holds Tryz.pinned (OpenSpec.ofChange fnAcceptedSpec)

/-- ITS FALSE NEIGHBOUR: 'it returns false'. Refute it at one input. -/
def fnAcceptedWrong : ChangeSpec := { name := "fnAccepted", fn := fun _ => fun
  | [d1, d2] => { results := [.lit (.bool false)], args := [d1, d2] }
  | _ => none }
def FnAcceptedWrongFalsely : Prop := fnAcceptedRow.holds Tryz.pinned (OpenSpec.ofChange fnAcceptedWrong)

/-- 'laws.FnCancelled': WHATEVER THE INPUT: true; the input reads as it did. -/
def fnCancelledSpec : ChangeSpec := { name := "fnCancelled", fn := fun _ => fun
  | [d1, d2] => { results := [.lit (.bool true)], args := [d1, d2] }
  | _ => none }
def fnCancelledRow : OpenClaim := { program := "ytlfjcmldfbfdbaagreat", sum := "e2b11f6d007740a60b0cb2310f239c3ed368a3c2fde3d3642e6f14fa6de314fd", func := "loop.example/g00864/laws.FnCancelled", spec := "fnCancelled", unfollowed := true, recurses := true, plainKeys := false, apart := false }
def FnCancelledSaid : Prop := fnCancelledRow.holds Tryz.pinned (OpenSpec.ofChange fnCancelledSpec)

/-- ITS FALSE NEIGHBOUR: 'it returns false'. Refute it at one input. -/
def fnCancelledWrong : ChangeSpec := { name := "fnCancelled", fn := fun _ => fun
  | [d1, d2] => { results := [.lit (.bool false)], args := [d1, d2] }
  | _ => none }
def FnCancelledWrongFalsely : Prop := fnCancelledRow.holds Tryz.pinned (OpenSpec.ofChange fnCancelledWrong)

/-- 'laws.FnSchedules': WHATEVER THE INPUT: true; the input reads as it did. -/
def fnSchedulesSpec : ChangeSpec := { name := "fnSchedules", fn := fun _ => fun
  | [d1, d2] => { results := [.lit (.bool true)], args := [d1, d2] }
  | _ => none }
def fnSchedulesRow : OpenClaim := { program := "ytlfjcmldfbfdbaagreat", sum := "e2b11f6d007740a60b0cb2310f239c3ed368a3c2fde3d3642e6f14fa6de314fd", func := "loop.example/g00864/laws.FnSchedules", spec := "fnSchedules", unfollowed := true, recurses := true, plainKeys := false, apart := false }
def FnSchedulesSaid : Prop := fnSchedulesRow.holds Tryz.pinned (OpenSpec.ofChange fnSchedulesSpec)

/-- ITS FALSE NEIGHBOUR: 'it returns false'. Refute it at one input. -/
def fnSchedulesWrong : ChangeSpec := { name := "fnSchedules", fn := fun _ => fun
  | [d1, d2] => { results := [.lit (.bool false)], args := [d1, d2] }
  | _ => none }
def FnSchedulesWrongFalsely : Prop := fnSchedulesRow.holds Tryz.pinned (OpenSpec.ofChange fnSchedulesWrong)

/- THE SECOND FORM. 'bulk': how many values and letters a reading holds, each counted each time it is reached (what is shared counts as often as it is met; a slice's spare places count too). A statement '..UptoSaid' is the law's where the arguments, and the package variables that the reading takes, are together of bulk at most 1048576: NARROWER than '..Said'. Prove '..Said' where nothing that the law and all that it calls make is longer than what came in: it says more and counts as full. Else prove '..UptoSaid'. A law counts once. -/
mutual
def uptoBulk {H : Type} : DataW H → Nat
  | .lit (.string bytes) => bytes.length + 1
  | .lit _ => 1
  | .nil => 1
  | .ptr d => uptoBulk d + 1
  | .slice elems spare => uptoBulkAll elems + uptoBulkAll spare + 1
  | .agg parts => uptoBulkAll parts + 1
  | .iface _ d => uptoBulk d + 1
  | .map entries => uptoBulkEntries entries + 1
  | .held _ => 1
def uptoBulkAll {H : Type} : List (DataW H) → Nat
  | [] => 0
  | d :: r => uptoBulk d + uptoBulkAll r
def uptoBulkEntries {H : Type} : List (Lit × DataW H) → Nat
  | [] => 0
  | x :: r => uptoBulkEntry x + uptoBulkEntries r
def uptoBulkEntry {H : Type} : Lit × DataW H → Nat
  | (.string bytes, d) => bytes.length + uptoBulk d + 1
  | (_, d) => uptoBulk d + 1
 end
def uptoSmall : (H : Type) → List (DataW H) → Bool := fun _ ds => decide (uptoBulkAll ds ≤ 1048576)
def OpenSpec.upto (s : _root_.Go.ChangeSpec) : _root_.Go.OpenSpec := { _root_.Go.OpenSpec.ofChange s with cond := some uptoSmall }

/-- 'laws.FnCommuting', WHERE WHAT IT READS IS OF BULK AT MOST 1048576: true; the input reads as it did. -/
def fnCommutingUptoRow : OpenClaim := { program := "ytlfjcmldfbfdbaagreat", sum := "e2b11f6d007740a60b0cb2310f239c3ed368a3c2fde3d3642e6f14fa6de314fd", func := "loop.example/g00864/laws.FnCommuting", spec := "fnCommuting", unfollowed := true, recurses := true, plainKeys := false, apart := false, narrowed := true }
def FnCommutingUptoSaid : Prop := fnCommutingUptoRow.holds Tryz.pinned (OpenSpec.upto fnCommutingSpec)

/-- 'laws.FnAccepted', WHERE WHAT IT READS IS OF BULK AT MOST 1048576: true; the input reads as it did. -/
def fnAcceptedUptoRow : OpenClaim := { program := "ytlfjcmldfbfdbaagreat", sum := "e2b11f6d007740a60b0cb2310f239c3ed368a3c2fde3d3642e6f14fa6de314fd", func := "loop.example/g00864/laws.FnAccepted", spec := "fnAccepted", unfollowed := true, recurses := true, plainKeys := false, apart := false, narrowed := true }
def FnAcceptedUptoSaid : Prop := fnAcceptedUptoRow.holds Tryz.pinned (OpenSpec.upto fnAcceptedSpec)

/-- 'laws.FnCancelled', WHERE WHAT IT READS IS OF BULK AT MOST 1048576: true; the input reads as it did. -/
def fnCancelledUptoRow : OpenClaim := { program := "ytlfjcmldfbfdbaagreat", sum := "e2b11f6d007740a60b0cb2310f239c3ed368a3c2fde3d3642e6f14fa6de314fd", func := "loop.example/g00864/laws.FnCancelled", spec := "fnCancelled", unfollowed := true, recurses := true, plainKeys := false, apart := false, narrowed := true }
def FnCancelledUptoSaid : Prop := fnCancelledUptoRow.holds Tryz.pinned (OpenSpec.upto fnCancelledSpec)

/-- 'laws.FnSchedules', WHERE WHAT IT READS IS OF BULK AT MOST 1048576: true; the input reads as it did. -/
def fnSchedulesUptoRow : OpenClaim := { program := "ytlfjcmldfbfdbaagreat", sum := "e2b11f6d007740a60b0cb2310f239c3ed368a3c2fde3d3642e6f14fa6de314fd", func := "loop.example/g00864/laws.FnSchedules", spec := "fnSchedules", unfollowed := true, recurses := true, plainKeys := false, apart := false, narrowed := true }
def FnSchedulesUptoSaid : Prop := fnSchedulesUptoRow.holds Tryz.pinned (OpenSpec.upto fnSchedulesSpec)

end Rows
end Go.Proofs.YtlfjcmldfbfdbaaGreat
