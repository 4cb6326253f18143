/-
  NARROWER THAN 'FOR EVERY INPUT', by the rows' own cells (each row's printed sentence says how): FnExactNormalFormOf: laid · FnExactReduceOneQubit: laid · FnNormalForm: laid.
  DERIVED. THE GIVEN ROWS OF THIS SEAT. 3 by the template 'for every input the law returns true; each argument reads behind the call as it read before'; 0 by the template 'total and deterministic' (their statements: YtnmabjfoiakapaaGreatDoorTotals.lean).
  GIVEN WITH THE SEED: the statements are not yours to turn. If you find one false, say at which input.
  Laid BY PROGRAM, IN A SANDBOX (cutbox-rows.mjs): the forced cells as the released guide's own fill.sh prints them over the translation 56abf6b03ebe459b… (all of the seat's roots in one cut). By AI agents, Wed Nov 11 2026. No macro, syntax, notation, axiom, sorry.
-/
import Derived.Test.YtnmabjfoiakapaaGreatDoorChecked
import GoSem.Claim
import GoSem.ClaimJoined
import GoSem.ClaimMapViews
import Derived.JoinedTies
import Derived.KernelRfl
namespace Go.Proofs.YtnmabjfoiakapaaGreatDoor
/- THE CELL 'sum', in the pinned program and in every row, IS THE sha256 OF THE DUMP (.gsa) THAT YtnmabjfoiakapaaGreatDoorProg.lean LOADS. Nothing in Lean hashes anything: it is a label: what it is worth is what the hold of that sum in a sandbox is worth. -/
noncomputable def Tryz.pinned : Pinned := { name := "ytnmabjfoiakapaagreatdoor", sum := "56abf6b03ebe459b9d7c8ca49a92d160accde2033ed784e9d7fee4664a098a46", checked := Tryz.checked }
namespace Rows
def none {H : Type} : Left H := { results := [], args := [] }

/- WHAT THE LISTED PACKAGE-LEVEL VARIABLES READ AS WHEN THE CALL BEGINS. Each datum BY PROGRAM (the guide's laid-datum.mjs) off the statement by which the dump's own 'gosem.cut.vars' lays the variable. In a bare row this is a premise. The card (YtnmabjfoiakapaaGreatDoorCards.lean) ties it to the program's text. -/
def laid_loop_example_g00864_impl_half {H : Type} : DataW H := .agg [.agg [.lit (.int .i64 1), .lit (.int .i64 0), .lit (.int .i64 0), .lit (.int .i64 0)], .lit (.int .i64 2)]

/-- 'laws.FnExactNormalFormOf': WHATEVER THE INPUT: true; the input reads as it did. -/
def fnExactNormalFormOfSpec : ChangeSpec := { name := "fnExactNormalFormOf", vars := ["loop.example/g00864/impl.half"], fn := fun _ => fun
  | [d, g1] => { results := [.lit (.bool true)], args := [d], vars := [g1] }
  | _ => none }
def fnExactNormalFormOfRow : OpenClaim := { program := "ytnmabjfoiakapaagreatdoor", sum := "56abf6b03ebe459b9d7c8ca49a92d160accde2033ed784e9d7fee4664a098a46", func := "loop.example/g00864/laws.FnExactNormalFormOf", spec := "fnExactNormalFormOf", unfollowed := true, recurses := true, named := ["loop.example/g00864/impl.half"], apart := false, laid := [("loop.example/g00864/impl.half", laid_loop_example_g00864_impl_half)] }
def FnExactNormalFormOfSaid : Prop := fnExactNormalFormOfRow.holds Tryz.pinned (OpenSpec.ofChange fnExactNormalFormOfSpec)

/-- ITS FALSE NEIGHBOUR: 'it returns false'. Refute it at one input. -/
def fnExactNormalFormOfWrong : ChangeSpec := { name := "fnExactNormalFormOf", vars := ["loop.example/g00864/impl.half"], fn := fun _ => fun
  | [d, g1] => { results := [.lit (.bool false)], args := [d], vars := [g1] }
  | _ => none }
def FnExactNormalFormOfWrongFalsely : Prop := fnExactNormalFormOfRow.holds Tryz.pinned (OpenSpec.ofChange fnExactNormalFormOfWrong)

/-- 'laws.FnExactReduceOneQubit': WHATEVER THE INPUT: true; the input reads as it did. -/
def fnExactReduceOneQubitSpec : ChangeSpec := { name := "fnExactReduceOneQubit", vars := ["loop.example/g00864/impl.half"], fn := fun _ => fun
  | [d, g1] => { results := [.lit (.bool true)], args := [d], vars := [g1] }
  | _ => none }
def fnExactReduceOneQubitRow : OpenClaim := { program := "ytnmabjfoiakapaagreatdoor", sum := "56abf6b03ebe459b9d7c8ca49a92d160accde2033ed784e9d7fee4664a098a46", func := "loop.example/g00864/laws.FnExactReduceOneQubit", spec := "fnExactReduceOneQubit", unfollowed := true, recurses := true, named := ["loop.example/g00864/impl.half"], apart := false, laid := [("loop.example/g00864/impl.half", laid_loop_example_g00864_impl_half)] }
def FnExactReduceOneQubitSaid : Prop := fnExactReduceOneQubitRow.holds Tryz.pinned (OpenSpec.ofChange fnExactReduceOneQubitSpec)

/-- ITS FALSE NEIGHBOUR: 'it returns false'. Refute it at one input. -/
def fnExactReduceOneQubitWrong : ChangeSpec := { name := "fnExactReduceOneQubit", vars := ["loop.example/g00864/impl.half"], fn := fun _ => fun
  | [d, g1] => { results := [.lit (.bool false)], args := [d], vars := [g1] }
  | _ => none }
def FnExactReduceOneQubitWrongFalsely : Prop := fnExactReduceOneQubitRow.holds Tryz.pinned (OpenSpec.ofChange fnExactReduceOneQubitWrong)

/-- 'laws.FnNormalForm': WHATEVER THE INPUT: true; the input reads as it did. -/
def fnNormalFormSpec : ChangeSpec := { name := "fnNormalForm", vars := ["loop.example/g00864/impl.half"], fn := fun _ => fun
  | [d1, d2, g1] => { results := [.lit (.bool true)], args := [d1, d2], vars := [g1] }
  | _ => none }
def fnNormalFormRow : OpenClaim := { program := "ytnmabjfoiakapaagreatdoor", sum := "56abf6b03ebe459b9d7c8ca49a92d160accde2033ed784e9d7fee4664a098a46", func := "loop.example/g00864/laws.FnNormalForm", spec := "fnNormalForm", unfollowed := true, recurses := true, named := ["loop.example/g00864/impl.half"], apart := false, laid := [("loop.example/g00864/impl.half", laid_loop_example_g00864_impl_half)] }
def FnNormalFormSaid : Prop := fnNormalFormRow.holds Tryz.pinned (OpenSpec.ofChange fnNormalFormSpec)

/-- ITS FALSE NEIGHBOUR: 'it returns false'. Refute it at one input. -/
def fnNormalFormWrong : ChangeSpec := { name := "fnNormalForm", vars := ["loop.example/g00864/impl.half"], fn := fun _ => fun
  | [d1, d2, g1] => { results := [.lit (.bool false)], args := [d1, d2], vars := [g1] }
  | _ => none }
def FnNormalFormWrongFalsely : Prop := fnNormalFormRow.holds Tryz.pinned (OpenSpec.ofChange fnNormalFormWrong)

/- THE SECOND FORM. 'bulk': how many values and letters a reading holds, each counted each time it is reached (what is shared counts as often as it is met; a slice's spare places count too). A statement '..UptoSaid' is the law's where the arguments, and the package variables that the reading takes, are together of bulk at most 1048576: NARROWER than '..Said'. Prove '..Said' where nothing that the law and all that it calls make is longer than what came in: it says more and counts as full. Else prove '..UptoSaid'. A law counts once. -/
mutual
def uptoBulk {H : Type} : DataW H → Nat
  | .lit (.string bytes) => bytes.length + 1
  | .lit _ => 1
  | .nil => 1
  | .ptr d => uptoBulk d + 1
  | .slice elems spare => uptoBulkAll elems + uptoBulkAll spare + 1
  | .agg parts => uptoBulkAll parts + 1
  | .iface _ d => uptoBulk d + 1
  | .map entries => uptoBulkEntries entries + 1
  | .held _ => 1
def uptoBulkAll {H : Type} : List (DataW H) → Nat
  | [] => 0
  | d :: r => uptoBulk d + uptoBulkAll r
def uptoBulkEntries {H : Type} : List (Lit × DataW H) → Nat
  | [] => 0
  | x :: r => uptoBulkEntry x + uptoBulkEntries r
def uptoBulkEntry {H : Type} : Lit × DataW H → Nat
  | (.string bytes, d) => bytes.length + uptoBulk d + 1
  | (_, d) => uptoBulk d + 1
 end
def uptoSmall : (H : Type) → List (DataW H) → Bool := fun _ ds => decide (uptoBulkAll ds ≤ 1048576)
def OpenSpec.upto (s : _root_.Go.ChangeSpec) : _root_.Go.OpenSpec := { _root_.Go.OpenSpec.ofChange s with cond := some uptoSmall }

/-- 'laws.FnExactNormalFormOf', WHERE WHAT IT READS IS OF BULK AT MOST 1048576: true; the input reads as it did. -/
def fnExactNormalFormOfUptoRow : OpenClaim := { program := "ytnmabjfoiakapaagreatdoor", sum := "56abf6b03ebe459b9d7c8ca49a92d160accde2033ed784e9d7fee4664a098a46", func := "loop.example/g00864/laws.FnExactNormalFormOf", spec := "fnExactNormalFormOf", unfollowed := true, recurses := true, named := ["loop.example/g00864/impl.half"], apart := false, laid := [("loop.example/g00864/impl.half", laid_loop_example_g00864_impl_half)], narrowed := true }
def FnExactNormalFormOfUptoSaid : Prop := fnExactNormalFormOfUptoRow.holds Tryz.pinned (OpenSpec.upto fnExactNormalFormOfSpec)

/-- 'laws.FnExactReduceOneQubit', WHERE WHAT IT READS IS OF BULK AT MOST 1048576: true; the input reads as it did. -/
def fnExactReduceOneQubitUptoRow : OpenClaim := { program := "ytnmabjfoiakapaagreatdoor", sum := "56abf6b03ebe459b9d7c8ca49a92d160accde2033ed784e9d7fee4664a098a46", func := "loop.example/g00864/laws.FnExactReduceOneQubit", spec := "fnExactReduceOneQubit", unfollowed := true, recurses := true, named := ["loop.example/g00864/impl.half"], apart := false, laid := [("loop.example/g00864/impl.half", laid_loop_example_g00864_impl_half)], narrowed := true }
def FnExactReduceOneQubitUptoSaid : Prop := fnExactReduceOneQubitUptoRow.holds Tryz.pinned (OpenSpec.upto fnExactReduceOneQubitSpec)

/-- 'laws.FnNormalForm', WHERE WHAT IT READS IS OF BULK AT MOST 1048576: true; the input reads as it did. -/
def fnNormalFormUptoRow : OpenClaim := { program := "ytnmabjfoiakapaagreatdoor", sum := "56abf6b03ebe459b9d7c8ca49a92d160accde2033ed784e9d7fee4664a098a46", func := "loop.example/g00864/laws.FnNormalForm", spec := "fnNormalForm", unfollowed := true, recurses := true, named := ["loop.example/g00864/impl.half"], apart := false, laid := [("loop.example/g00864/impl.half", laid_loop_example_g00864_impl_half)], narrowed := true }
def FnNormalFormUptoSaid : Prop := fnNormalFormUptoRow.holds Tryz.pinned (OpenSpec.upto fnNormalFormSpec)

end Rows
end Go.Proofs.YtnmabjfoiakapaaGreatDoor
