/-
  DERIVED. GIVEN WITH THE SEED: THE CARDS: each row of YtfkokcbjcndjpaaGreatDoorRows.lean that lists a variable, with what it lists TIED to the program's text (the seventh form; the later family's looks); each row that meets fmt, with fmt's text TOLD by the authors' own Lean function (tested against real Go, not proved from fmt's source: count such statements apart). THE CARD IS WHAT COUNTS. Prove the row's statement (the work); the ties are given (YtfkokcbjcndjpaaGreatDoorTie.lean); close each card by the builder's one call (the guide's Derived/Test/ToyasCard.lean, 'card_holds'). Laid BY PROGRAM, IN A SANDBOX (cutbox-door.mjs). By AI agents, Wed Nov 11 2026. No macro, syntax, notation, axiom, sorry.
-/
import Derived.Test.YtfkokcbjcndjpaaGreatDoorRows
import GoSem.ClaimSeven
namespace Go.Proofs.YtfkokcbjcndjpaaGreatDoor
namespace Rows

/-- THE TIED CARD OF 'laws.FnPeepholes'. -/
def fnPeepholesCard : Claim7 := { stood := { row := fnPeepholesRow, standIns := [], harness := (true, "ebd7706bf92f972e347019a2e1c1b409635bd193e1b40ac2b14e4a9ccc8a42e8"), looks := false }, kinds := [], alts := [], laidByText := true, laidKinds := [.data, .data, .data], laidTests := true, laidLooks := .later }
def FnPeepholesCardSaid : Prop := Claim7.holds Tryz.pinned (.plain (OpenSpec.ofChange fnPeepholesSpec)) fnPeepholesCard

/-- THE SECOND FORM's CARD OF 'laws.FnPeepholes'. -/
def fnPeepholesUptoCard : Claim7 := { stood := { row := fnPeepholesUptoRow, standIns := [], harness := (true, "ebd7706bf92f972e347019a2e1c1b409635bd193e1b40ac2b14e4a9ccc8a42e8"), looks := false }, kinds := [], alts := [], laidByText := true, laidKinds := [.data, .data, .data], laidTests := true, laidLooks := .later }
def FnPeepholesUptoCardSaid : Prop := Claim7.holds Tryz.pinned (.plain (OpenSpec.upto fnPeepholesSpec)) fnPeepholesUptoCard
end Rows
end Go.Proofs.YtfkokcbjcndjpaaGreatDoor
