/-
  DERIVED. GIVEN WITH THE SEED: THE CARDS: each row of YtblmmikapnflcaaGreatDoorRows.lean that lists a variable, with what it lists TIED to the program's text (the seventh form; the later family's looks); each row that meets fmt, with fmt's text TOLD by the authors' own Lean function (tested against real Go, not proved from fmt's source: count such statements apart). THE CARD IS WHAT COUNTS. Prove the row's statement (the work); the ties are given (YtblmmikapnflcaaGreatDoorTie.lean); close each card by the builder's one call (the guide's Derived/Test/ToyasCard.lean, 'card_holds'). Laid BY PROGRAM, IN A SANDBOX (cutbox-door.mjs). By AI agents, Wed Nov 11 2026. No macro, syntax, notation, axiom, sorry.
-/
import Derived.Test.YtblmmikapnflcaaGreatDoorRows
import GoSem.ClaimSeven
namespace Go.Proofs.YtblmmikapnflcaaGreatDoor
namespace Rows

/-- THE TIED CARD OF 'laws.FnExactShortestWord'. -/
def fnExactShortestWordCard : Claim7 := { stood := { row := fnExactShortestWordRow, standIns := [], harness := (true, "d67b8a333686db2ad90547f7332ed44c940649eedb26d49b61633b9a266fa1e5"), looks := false }, kinds := [], alts := [], laidByText := true, laidKinds := [.data, .data, .data], laidTests := true, laidLooks := .later }
def FnExactShortestWordCardSaid : Prop := Claim7.holds Tryz.pinned (.plain (OpenSpec.ofChange fnExactShortestWordSpec)) fnExactShortestWordCard

/-- THE TIED CARD OF 'laws.FnExactShorterRun'. -/
def fnExactShorterRunCard : Claim7 := { stood := { row := fnExactShorterRunRow, standIns := [], harness := (true, "d67b8a333686db2ad90547f7332ed44c940649eedb26d49b61633b9a266fa1e5"), looks := false }, kinds := [], alts := [], laidByText := true, laidKinds := [.data, .data, .data], laidTests := true, laidLooks := .later }
def FnExactShorterRunCardSaid : Prop := Claim7.holds Tryz.pinned (.plain (OpenSpec.ofChange fnExactShorterRunSpec)) fnExactShorterRunCard

/-- THE TIED CARD OF 'laws.FnExactPeepholeStep'. -/
def fnExactPeepholeStepCard : Claim7 := { stood := { row := fnExactPeepholeStepRow, standIns := [], harness := (true, "d67b8a333686db2ad90547f7332ed44c940649eedb26d49b61633b9a266fa1e5"), looks := false }, kinds := [], alts := [], laidByText := true, laidKinds := [.data, .data, .data], laidTests := true, laidLooks := .later }
def FnExactPeepholeStepCardSaid : Prop := Claim7.holds Tryz.pinned (.plain (OpenSpec.ofChange fnExactPeepholeStepSpec)) fnExactPeepholeStepCard

/-- THE TIED CARD OF 'laws.FnExactPeepholePass'. -/
def fnExactPeepholePassCard : Claim7 := { stood := { row := fnExactPeepholePassRow, standIns := [], harness := (true, "d67b8a333686db2ad90547f7332ed44c940649eedb26d49b61633b9a266fa1e5"), looks := false }, kinds := [], alts := [], laidByText := true, laidKinds := [.data, .data, .data], laidTests := true, laidLooks := .later }
def FnExactPeepholePassCardSaid : Prop := Claim7.holds Tryz.pinned (.plain (OpenSpec.ofChange fnExactPeepholePassSpec)) fnExactPeepholePassCard

/-- THE SECOND FORM's CARD OF 'laws.FnExactShortestWord'. -/
def fnExactShortestWordUptoCard : Claim7 := { stood := { row := fnExactShortestWordUptoRow, standIns := [], harness := (true, "d67b8a333686db2ad90547f7332ed44c940649eedb26d49b61633b9a266fa1e5"), looks := false }, kinds := [], alts := [], laidByText := true, laidKinds := [.data, .data, .data], laidTests := true, laidLooks := .later }
def FnExactShortestWordUptoCardSaid : Prop := Claim7.holds Tryz.pinned (.plain (OpenSpec.upto fnExactShortestWordSpec)) fnExactShortestWordUptoCard

/-- THE SECOND FORM's CARD OF 'laws.FnExactShorterRun'. -/
def fnExactShorterRunUptoCard : Claim7 := { stood := { row := fnExactShorterRunUptoRow, standIns := [], harness := (true, "d67b8a333686db2ad90547f7332ed44c940649eedb26d49b61633b9a266fa1e5"), looks := false }, kinds := [], alts := [], laidByText := true, laidKinds := [.data, .data, .data], laidTests := true, laidLooks := .later }
def FnExactShorterRunUptoCardSaid : Prop := Claim7.holds Tryz.pinned (.plain (OpenSpec.upto fnExactShorterRunSpec)) fnExactShorterRunUptoCard

/-- THE SECOND FORM's CARD OF 'laws.FnExactPeepholeStep'. -/
def fnExactPeepholeStepUptoCard : Claim7 := { stood := { row := fnExactPeepholeStepUptoRow, standIns := [], harness := (true, "d67b8a333686db2ad90547f7332ed44c940649eedb26d49b61633b9a266fa1e5"), looks := false }, kinds := [], alts := [], laidByText := true, laidKinds := [.data, .data, .data], laidTests := true, laidLooks := .later }
def FnExactPeepholeStepUptoCardSaid : Prop := Claim7.holds Tryz.pinned (.plain (OpenSpec.upto fnExactPeepholeStepSpec)) fnExactPeepholeStepUptoCard

/-- THE SECOND FORM's CARD OF 'laws.FnExactPeepholePass'. -/
def fnExactPeepholePassUptoCard : Claim7 := { stood := { row := fnExactPeepholePassUptoRow, standIns := [], harness := (true, "d67b8a333686db2ad90547f7332ed44c940649eedb26d49b61633b9a266fa1e5"), looks := false }, kinds := [], alts := [], laidByText := true, laidKinds := [.data, .data, .data], laidTests := true, laidLooks := .later }
def FnExactPeepholePassUptoCardSaid : Prop := Claim7.holds Tryz.pinned (.plain (OpenSpec.upto fnExactPeepholePassSpec)) fnExactPeepholePassUptoCard
end Rows
end Go.Proofs.YtblmmikapnflcaaGreatDoor
