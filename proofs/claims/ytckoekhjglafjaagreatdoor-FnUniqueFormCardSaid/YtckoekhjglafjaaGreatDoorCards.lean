/-
  DERIVED. GIVEN WITH THE SEED: THE CARDS: each row of YtckoekhjglafjaaGreatDoorRows.lean that lists a variable, with what it lists TIED to the program's text (the seventh form; the later family's looks); each row that meets fmt, with fmt's text TOLD by the authors' own Lean function (tested against real Go, not proved from fmt's source: count such statements apart). THE CARD IS WHAT COUNTS. Prove the row's statement (the work); the ties are given (YtckoekhjglafjaaGreatDoorTie.lean); close each card by the builder's one call (the guide's Derived/Test/ToyasCard.lean, 'card_holds'). Laid BY PROGRAM, IN A SANDBOX (cutbox-door.mjs). By AI agents, Wed Nov 11 2026. No macro, syntax, notation, axiom, sorry.
-/
import Derived.Test.YtckoekhjglafjaaGreatDoorRows
import GoSem.ClaimSeven
namespace Go.Proofs.YtckoekhjglafjaaGreatDoor
namespace Rows

/-- THE TIED CARD OF 'laws.FnUniqueForm'. -/
def fnUniqueFormCard : Claim7 := { stood := { row := fnUniqueFormRow, standIns := [], harness := (true, "7bc69b40283fd0a6bc24f522ab5ef90dba658d5dbdf7830a2011fcda9f8e398a"), looks := true }, kinds := [], alts := [], laidByText := true, laidKinds := [.data, .data, .data, .data, .sentinel, .sentinel, .data, .pinned], laidTests := true, laidLooks := .later }
def FnUniqueFormCardSaid : Prop := Claim7.holds Tryz.pinned (.plain (OpenSpec.ofChange fnUniqueFormSpec)) fnUniqueFormCard

/-- THE SECOND FORM's CARD OF 'laws.FnUniqueForm'. -/
def fnUniqueFormUptoCard : Claim7 := { stood := { row := fnUniqueFormUptoRow, standIns := [], harness := (true, "7bc69b40283fd0a6bc24f522ab5ef90dba658d5dbdf7830a2011fcda9f8e398a"), looks := true }, kinds := [], alts := [], laidByText := true, laidKinds := [.data, .data, .data, .data, .sentinel, .sentinel, .data, .pinned], laidTests := true, laidLooks := .later }
def FnUniqueFormUptoCardSaid : Prop := Claim7.holds Tryz.pinned (.plain (OpenSpec.upto fnUniqueFormSpec)) fnUniqueFormUptoCard
end Rows
end Go.Proofs.YtckoekhjglafjaaGreatDoor
