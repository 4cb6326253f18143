/-
  DERIVED. GIVEN WITH THE SEED: THE CARDS: each row of YtiejkplemjkjoaaGreatDoorRows.lean that lists a variable, with what it lists TIED to the program's text (the seventh form; the later family's looks); each row that meets fmt, with fmt's text TOLD by the authors' own Lean function (tested against real Go, not proved from fmt's source: count such statements apart). THE CARD IS WHAT COUNTS. Prove the row's statement (the work); the ties are given (YtiejkplemjkjoaaGreatDoorTie.lean); close each card by the builder's one call (the guide's Derived/Test/ToyasCard.lean, 'card_holds'). Laid BY PROGRAM, IN A SANDBOX (cutbox-door.mjs). By AI agents, Wed Nov 11 2026. No macro, syntax, notation, axiom, sorry.
-/
import Derived.Test.YtiejkplemjkjoaaGreatDoorRows
import GoSem.ClaimSeven
namespace Go.Proofs.YtiejkplemjkjoaaGreatDoor
namespace Rows

/-- THE TIED CARD OF 'laws.FnPathReductions'. -/
def fnPathReductionsCard : Claim7 := { stood := { row := fnPathReductionsRow, standIns := [], harness := (true, "d49622009df6ece1f7faf11a605e53968dab1119d698954f967f11d3268751d3"), looks := false }, kinds := [], alts := [], laidByText := true, laidKinds := [.data, .data], laidTests := true, laidLooks := .later }
def FnPathReductionsCardSaid : Prop := Claim7.holds Tryz.pinned (.plain (OpenSpec.ofChange fnPathReductionsSpec)) fnPathReductionsCard

/-- THE TIED CARD OF 'laws.FnExactVerifyEqual'. -/
def fnExactVerifyEqualCard : Claim7 := { stood := { row := fnExactVerifyEqualRow, standIns := [], harness := (true, "d49622009df6ece1f7faf11a605e53968dab1119d698954f967f11d3268751d3"), looks := false }, kinds := [], alts := [], laidByText := true, laidKinds := [.data, .data], laidTests := true, laidLooks := .later }
def FnExactVerifyEqualCardSaid : Prop := Claim7.holds Tryz.pinned (.plain (OpenSpec.ofChange fnExactVerifyEqualSpec)) fnExactVerifyEqualCard

/-- THE TIED CARD OF 'laws.FnVerification'. -/
def fnVerificationCard : Claim7 := { stood := { row := fnVerificationRow, standIns := [], harness := (true, "d49622009df6ece1f7faf11a605e53968dab1119d698954f967f11d3268751d3"), looks := false }, kinds := [], alts := [], laidByText := true, laidKinds := [.data, .data], laidTests := true, laidLooks := .later }
def FnVerificationCardSaid : Prop := Claim7.holds Tryz.pinned (.plain (OpenSpec.ofChange fnVerificationSpec)) fnVerificationCard

/-- THE SECOND FORM's CARD OF 'laws.FnPathReductions'. -/
def fnPathReductionsUptoCard : Claim7 := { stood := { row := fnPathReductionsUptoRow, standIns := [], harness := (true, "d49622009df6ece1f7faf11a605e53968dab1119d698954f967f11d3268751d3"), looks := false }, kinds := [], alts := [], laidByText := true, laidKinds := [.data, .data], laidTests := true, laidLooks := .later }
def FnPathReductionsUptoCardSaid : Prop := Claim7.holds Tryz.pinned (.plain (OpenSpec.upto fnPathReductionsSpec)) fnPathReductionsUptoCard

/-- THE SECOND FORM's CARD OF 'laws.FnExactVerifyEqual'. -/
def fnExactVerifyEqualUptoCard : Claim7 := { stood := { row := fnExactVerifyEqualUptoRow, standIns := [], harness := (true, "d49622009df6ece1f7faf11a605e53968dab1119d698954f967f11d3268751d3"), looks := false }, kinds := [], alts := [], laidByText := true, laidKinds := [.data, .data], laidTests := true, laidLooks := .later }
def FnExactVerifyEqualUptoCardSaid : Prop := Claim7.holds Tryz.pinned (.plain (OpenSpec.upto fnExactVerifyEqualSpec)) fnExactVerifyEqualUptoCard

/-- THE SECOND FORM's CARD OF 'laws.FnVerification'. -/
def fnVerificationUptoCard : Claim7 := { stood := { row := fnVerificationUptoRow, standIns := [], harness := (true, "d49622009df6ece1f7faf11a605e53968dab1119d698954f967f11d3268751d3"), looks := false }, kinds := [], alts := [], laidByText := true, laidKinds := [.data, .data], laidTests := true, laidLooks := .later }
def FnVerificationUptoCardSaid : Prop := Claim7.holds Tryz.pinned (.plain (OpenSpec.upto fnVerificationSpec)) fnVerificationUptoCard
end Rows
end Go.Proofs.YtiejkplemjkjoaaGreatDoor
