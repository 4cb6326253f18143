/-
  DERIVED. GIVEN WITH THE SEED: THE CARDS: each row of YtgobkmhhckhbfaaGreatDoorRows.lean that lists a variable, with what it lists TIED to the program's text (the seventh form; the later family's looks); each row that meets fmt, with fmt's text TOLD by the authors' own Lean function (tested against real Go, not proved from fmt's source: count such statements apart). THE CARD IS WHAT COUNTS. Prove the row's statement (the work); the ties are given (YtgobkmhhckhbfaaGreatDoorTie.lean); close each card by the builder's one call (the guide's Derived/Test/ToyasCard.lean, 'card_holds'). Laid BY PROGRAM, IN A SANDBOX (cutbox-door.mjs). By AI agents, Wed Nov 11 2026. No macro, syntax, notation, axiom, sorry.
-/
import Derived.Test.YtgobkmhhckhbfaaGreatDoorRows
import GoSem.ClaimSeven
namespace Go.Proofs.YtgobkmhhckhbfaaGreatDoor
namespace Rows

/-- THE TIED CARD OF 'laws.FnMeaning'. -/
def fnMeaningCard : Claim7 := { stood := { row := fnMeaningRow, standIns := [], harness := (true, "9c607bc74f09007d4898c3ce3731aa152e17995f5ab33e330c297e53564c525c"), looks := true }, kinds := [], alts := [], laidByText := true, laidKinds := [.data, .data, .data, .data, .sentinel, .sentinel, .pinned], laidTests := true, laidLooks := .later }
def FnMeaningCardSaid : Prop := Claim7.holds Tryz.pinned (.plain (OpenSpec.ofChange fnMeaningSpec)) fnMeaningCard

/-- THE SECOND FORM's CARD OF 'laws.FnMeaning'. -/
def fnMeaningUptoCard : Claim7 := { stood := { row := fnMeaningUptoRow, standIns := [], harness := (true, "9c607bc74f09007d4898c3ce3731aa152e17995f5ab33e330c297e53564c525c"), looks := true }, kinds := [], alts := [], laidByText := true, laidKinds := [.data, .data, .data, .data, .sentinel, .sentinel, .pinned], laidTests := true, laidLooks := .later }
def FnMeaningUptoCardSaid : Prop := Claim7.holds Tryz.pinned (.plain (OpenSpec.upto fnMeaningSpec)) fnMeaningUptoCard
end Rows
end Go.Proofs.YtgobkmhhckhbfaaGreatDoor
