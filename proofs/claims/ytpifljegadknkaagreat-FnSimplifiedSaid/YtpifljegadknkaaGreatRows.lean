/-
  No cell of these rows narrows 'for every input' (looked for: loops, veiled, ifaces, maps, wideKeys, modest, calm, conditions, laid).
  DERIVED. THE GIVEN ROWS OF THIS SEAT. 4 by the template 'for every input the law returns true; each argument reads behind the call as it read before'; 0 by the template 'total and deterministic' (their statements: YtpifljegadknkaaGreatTotals.lean).
  GIVEN WITH THE SEED: the statements are not yours to turn. If you find one false, say at which input.
  Laid BY PROGRAM, IN A SANDBOX (cutbox-rows.mjs): the forced cells as the released guide's own fill.sh prints them over the translation f2eb1e34c31cd743… (all of the seat's roots in one cut). By AI agents, Wed Nov 11 2026. No macro, syntax, notation, axiom, sorry.
-/
import Derived.Test.YtpifljegadknkaaGreatChecked
import GoSem.Claim
import GoSem.ClaimJoined
import GoSem.ClaimMapViews
import Derived.JoinedTies
import Derived.KernelRfl
namespace Go.Proofs.YtpifljegadknkaaGreat
/- THE CELL 'sum', in the pinned program and in every row, IS THE sha256 OF THE DUMP (.gsa) THAT YtpifljegadknkaaGreatProg.lean LOADS. Nothing in Lean hashes anything: it is a label: what it is worth is what the hold of that sum in a sandbox is worth. -/
noncomputable def Tryz.pinned : Pinned := { name := "ytpifljegadknkaagreat", sum := "f2eb1e34c31cd7436531a35a036daeef4854a8066ccd7a2c9aaae226cb26bf90", checked := Tryz.checked }
namespace Rows
def none {H : Type} : Left H := { results := [], args := [] }

/-- 'laws.FnExactCompareTCounts': WHATEVER THE INPUT: true; the input reads as it did. -/
def fnExactCompareTCountsSpec : ChangeSpec := { name := "fnExactCompareTCounts", fn := fun _ => fun
  | [d] => { results := [.lit (.bool true)], args := [d] }
  | _ => none }
def fnExactCompareTCountsRow : OpenClaim := { program := "ytpifljegadknkaagreat", sum := "f2eb1e34c31cd7436531a35a036daeef4854a8066ccd7a2c9aaae226cb26bf90", func := "loop.example/g00864/laws.FnExactCompareTCounts", spec := "fnExactCompareTCounts", unfollowed := true, recurses := true, apart := false }
def FnExactCompareTCountsSaid : Prop := fnExactCompareTCountsRow.holds Tryz.pinned (OpenSpec.ofChange fnExactCompareTCountsSpec)

/-- ITS FALSE NEIGHBOUR: 'it returns false'. Refute it at one input. -/
def fnExactCompareTCountsWrong : ChangeSpec := { name := "fnExactCompareTCounts", fn := fun _ => fun
  | [d] => { results := [.lit (.bool false)], args := [d] }
  | _ => none }
def FnExactCompareTCountsWrongFalsely : Prop := fnExactCompareTCountsRow.holds Tryz.pinned (OpenSpec.ofChange fnExactCompareTCountsWrong)

/-- 'laws.FnSimplified': WHATEVER THE INPUT: true; the input reads as it did. -/
def fnSimplifiedSpec : ChangeSpec := { name := "fnSimplified", fn := fun _ => fun
  | [d1, d2] => { results := [.lit (.bool true)], args := [d1, d2] }
  | _ => none }
def fnSimplifiedRow : OpenClaim := { program := "ytpifljegadknkaagreat", sum := "f2eb1e34c31cd7436531a35a036daeef4854a8066ccd7a2c9aaae226cb26bf90", func := "loop.example/g00864/laws.FnSimplified", spec := "fnSimplified", unfollowed := true, recurses := true, apart := false }
def FnSimplifiedSaid : Prop := fnSimplifiedRow.holds Tryz.pinned (OpenSpec.ofChange fnSimplifiedSpec)

/-- ITS FALSE NEIGHBOUR: 'it returns false'. Refute it at one input. -/
def fnSimplifiedWrong : ChangeSpec := { name := "fnSimplified", fn := fun _ => fun
  | [d1, d2] => { results := [.lit (.bool false)], args := [d1, d2] }
  | _ => none }
def FnSimplifiedWrongFalsely : Prop := fnSimplifiedRow.holds Tryz.pinned (OpenSpec.ofChange fnSimplifiedWrong)

/-- 'laws.FnExactVerifyByRewriting': WHATEVER THE INPUT: true; the input reads as it did. -/
def fnExactVerifyByRewritingSpec : ChangeSpec := { name := "fnExactVerifyByRewriting", fn := fun _ => fun
  | [d1, d2] => { results := [.lit (.bool true)], args := [d1, d2] }
  | _ => none }
def fnExactVerifyByRewritingRow : OpenClaim := { program := "ytpifljegadknkaagreat", sum := "f2eb1e34c31cd7436531a35a036daeef4854a8066ccd7a2c9aaae226cb26bf90", func := "loop.example/g00864/laws.FnExactVerifyByRewriting", spec := "fnExactVerifyByRewriting", unfollowed := true, recurses := true, apart := false }
def FnExactVerifyByRewritingSaid : Prop := fnExactVerifyByRewritingRow.holds Tryz.pinned (OpenSpec.ofChange fnExactVerifyByRewritingSpec)

/-- ITS FALSE NEIGHBOUR: 'it returns false'. Refute it at one input. -/
def fnExactVerifyByRewritingWrong : ChangeSpec := { name := "fnExactVerifyByRewriting", fn := fun _ => fun
  | [d1, d2] => { results := [.lit (.bool false)], args := [d1, d2] }
  | _ => none }
def FnExactVerifyByRewritingWrongFalsely : Prop := fnExactVerifyByRewritingRow.holds Tryz.pinned (OpenSpec.ofChange fnExactVerifyByRewritingWrong)

/-- 'laws.FnRewrites': WHATEVER THE INPUT: true; the input reads as it did. -/
def fnRewritesSpec : ChangeSpec := { name := "fnRewrites", fn := fun _ => fun
  | [d1, d2] => { results := [.lit (.bool true)], args := [d1, d2] }
  | _ => none }
def fnRewritesRow : OpenClaim := { program := "ytpifljegadknkaagreat", sum := "f2eb1e34c31cd7436531a35a036daeef4854a8066ccd7a2c9aaae226cb26bf90", func := "loop.example/g00864/laws.FnRewrites", spec := "fnRewrites", unfollowed := true, recurses := true, apart := false }
def FnRewritesSaid : Prop := fnRewritesRow.holds Tryz.pinned (OpenSpec.ofChange fnRewritesSpec)

/-- ITS FALSE NEIGHBOUR: 'it returns false'. Refute it at one input. -/
def fnRewritesWrong : ChangeSpec := { name := "fnRewrites", fn := fun _ => fun
  | [d1, d2] => { results := [.lit (.bool false)], args := [d1, d2] }
  | _ => none }
def FnRewritesWrongFalsely : Prop := fnRewritesRow.holds Tryz.pinned (OpenSpec.ofChange fnRewritesWrong)

/- THE SECOND FORM. 'bulk': how many values and letters a reading holds, each counted each time it is reached (what is shared counts as often as it is met; a slice's spare places count too). A statement '..UptoSaid' is the law's where the arguments, and the package variables that the reading takes, are together of bulk at most 1048576: NARROWER than '..Said'. Prove '..Said' where nothing that the law and all that it calls make is longer than what came in: it says more and counts as full. Else prove '..UptoSaid'. A law counts once. -/
mutual
def uptoBulk {H : Type} : DataW H → Nat
  | .lit (.string bytes) => bytes.length + 1
  | .lit _ => 1
  | .nil => 1
  | .ptr d => uptoBulk d + 1
  | .slice elems spare => uptoBulkAll elems + uptoBulkAll spare + 1
  | .agg parts => uptoBulkAll parts + 1
  | .iface _ d => uptoBulk d + 1
  | .map entries => uptoBulkEntries entries + 1
  | .held _ => 1
def uptoBulkAll {H : Type} : List (DataW H) → Nat
  | [] => 0
  | d :: r => uptoBulk d + uptoBulkAll r
def uptoBulkEntries {H : Type} : List (Lit × DataW H) → Nat
  | [] => 0
  | x :: r => uptoBulkEntry x + uptoBulkEntries r
def uptoBulkEntry {H : Type} : Lit × DataW H → Nat
  | (.string bytes, d) => bytes.length + uptoBulk d + 1
  | (_, d) => uptoBulk d + 1
 end
def uptoSmall : (H : Type) → List (DataW H) → Bool := fun _ ds => decide (uptoBulkAll ds ≤ 1048576)
def OpenSpec.upto (s : _root_.Go.ChangeSpec) : _root_.Go.OpenSpec := { _root_.Go.OpenSpec.ofChange s with cond := some uptoSmall }

/-- 'laws.FnExactCompareTCounts', WHERE WHAT IT READS IS OF BULK AT MOST 1048576: true; the input reads as it did. -/
def fnExactCompareTCountsUptoRow : OpenClaim := { program := "ytpifljegadknkaagreat", sum := "f2eb1e34c31cd7436531a35a036daeef4854a8066ccd7a2c9aaae226cb26bf90", func := "loop.example/g00864/laws.FnExactCompareTCounts", spec := "fnExactCompareTCounts", unfollowed := true, recurses := true, apart := false, narrowed := true }
def FnExactCompareTCountsUptoSaid : Prop := fnExactCompareTCountsUptoRow.holds Tryz.pinned (OpenSpec.upto fnExactCompareTCountsSpec)

/-- 'laws.FnSimplified', WHERE WHAT IT READS IS OF BULK AT MOST 1048576: true; the input reads as it did. -/
def fnSimplifiedUptoRow : OpenClaim := { program := "ytpifljegadknkaagreat", sum := "f2eb1e34c31cd7436531a35a036daeef4854a8066ccd7a2c9aaae226cb26bf90", func := "loop.example/g00864/laws.FnSimplified", spec := "fnSimplified", unfollowed := true, recurses := true, apart := false, narrowed := true }
def FnSimplifiedUptoSaid : Prop := fnSimplifiedUptoRow.holds Tryz.pinned (OpenSpec.upto fnSimplifiedSpec)

/-- 'laws.FnExactVerifyByRewriting', WHERE WHAT IT READS IS OF BULK AT MOST 1048576: true; the input reads as it did. -/
def fnExactVerifyByRewritingUptoRow : OpenClaim := { program := "ytpifljegadknkaagreat", sum := "f2eb1e34c31cd7436531a35a036daeef4854a8066ccd7a2c9aaae226cb26bf90", func := "loop.example/g00864/laws.FnExactVerifyByRewriting", spec := "fnExactVerifyByRewriting", unfollowed := true, recurses := true, apart := false, narrowed := true }
def FnExactVerifyByRewritingUptoSaid : Prop := fnExactVerifyByRewritingUptoRow.holds Tryz.pinned (OpenSpec.upto fnExactVerifyByRewritingSpec)

/-- 'laws.FnRewrites', WHERE WHAT IT READS IS OF BULK AT MOST 1048576: true; the input reads as it did. -/
def fnRewritesUptoRow : OpenClaim := { program := "ytpifljegadknkaagreat", sum := "f2eb1e34c31cd7436531a35a036daeef4854a8066ccd7a2c9aaae226cb26bf90", func := "loop.example/g00864/laws.FnRewrites", spec := "fnRewrites", unfollowed := true, recurses := true, apart := false, narrowed := true }
def FnRewritesUptoSaid : Prop := fnRewritesUptoRow.holds Tryz.pinned (OpenSpec.upto fnRewritesSpec)

end Rows
end Go.Proofs.YtpifljegadknkaaGreat
