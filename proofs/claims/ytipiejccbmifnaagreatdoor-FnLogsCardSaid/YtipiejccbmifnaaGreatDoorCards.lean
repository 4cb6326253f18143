/-
  DERIVED. GIVEN WITH THE SEED: THE CARDS: each row of YtipiejccbmifnaaGreatDoorRows.lean that lists a variable, with what it lists TIED to the program's text (the seventh form; the later family's looks); each row that meets fmt, with fmt's text TOLD by the authors' own Lean function (tested against real Go, not proved from fmt's source: count such statements apart). THE CARD IS WHAT COUNTS. Prove the row's statement (the work); the ties are given (YtipiejccbmifnaaGreatDoorTie.lean); close each card by the builder's one call (the guide's Derived/Test/ToyasCard.lean, 'card_holds'). Laid BY PROGRAM, IN A SANDBOX (cutbox-door.mjs). By AI agents, Wed Nov 11 2026. No macro, syntax, notation, axiom, sorry.
-/
import Derived.Test.YtipiejccbmifnaaGreatDoorRows
import GoSem.ClaimSeven
namespace Go.Proofs.YtipiejccbmifnaaGreatDoor
namespace Rows

/-- THE TIED CARD OF 'laws.FnMeaning'. -/
def fnMeaningCard : Claim7 := { stood := { row := fnMeaningRow, standIns := [], harness := (true, "ebce1da6db8aeab32f384d52c11cf10e2b1f969f29a035bf2cb18cfeaf355b03"), looks := true }, kinds := [], alts := [], laidByText := true, laidKinds := [.data, .data, .data, .data, .sentinel, .sentinel, .pinned], laidTests := true, laidLooks := .later }
def FnMeaningCardSaid : Prop := Claim7.holds Tryz.pinned (.plain (OpenSpec.ofChange fnMeaningSpec)) fnMeaningCard

/-- THE TIED CARD OF 'laws.FnLogs'. -/
def fnLogsCard : Claim7 := { stood := { row := fnLogsRow, standIns := [], harness := (true, "ebce1da6db8aeab32f384d52c11cf10e2b1f969f29a035bf2cb18cfeaf355b03"), looks := true }, kinds := [], alts := [], laidByText := true, laidKinds := [.data, .data, .data, .data, .sentinel, .sentinel, .widerDeep, .pinned], laidTests := true, laidLooks := .later }
def FnLogsCardSaid : Prop := Claim7.holds Tryz.pinned (.plain (OpenSpec.ofChange fnLogsSpec)) fnLogsCard

/-- THE SECOND FORM's CARD OF 'laws.FnMeaning'. -/
def fnMeaningUptoCard : Claim7 := { stood := { row := fnMeaningUptoRow, standIns := [], harness := (true, "ebce1da6db8aeab32f384d52c11cf10e2b1f969f29a035bf2cb18cfeaf355b03"), looks := true }, kinds := [], alts := [], laidByText := true, laidKinds := [.data, .data, .data, .data, .sentinel, .sentinel, .pinned], laidTests := true, laidLooks := .later }
def FnMeaningUptoCardSaid : Prop := Claim7.holds Tryz.pinned (.plain (OpenSpec.upto fnMeaningSpec)) fnMeaningUptoCard

/-- THE SECOND FORM's CARD OF 'laws.FnLogs'. -/
def fnLogsUptoCard : Claim7 := { stood := { row := fnLogsUptoRow, standIns := [], harness := (true, "ebce1da6db8aeab32f384d52c11cf10e2b1f969f29a035bf2cb18cfeaf355b03"), looks := true }, kinds := [], alts := [], laidByText := true, laidKinds := [.data, .data, .data, .data, .sentinel, .sentinel, .widerDeep, .pinned], laidTests := true, laidLooks := .later }
def FnLogsUptoCardSaid : Prop := Claim7.holds Tryz.pinned (.plain (OpenSpec.upto fnLogsSpec)) fnLogsUptoCard
end Rows
end Go.Proofs.YtipiejccbmifnaaGreatDoor
