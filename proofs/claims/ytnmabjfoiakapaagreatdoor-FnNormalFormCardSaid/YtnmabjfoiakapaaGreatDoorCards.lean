/-
  DERIVED. GIVEN WITH THE SEED: THE CARDS: each row of YtnmabjfoiakapaaGreatDoorRows.lean that lists a variable, with what it lists TIED to the program's text (the seventh form; the later family's looks); each row that meets fmt, with fmt's text TOLD by the authors' own Lean function (tested against real Go, not proved from fmt's source: count such statements apart). THE CARD IS WHAT COUNTS. Prove the row's statement (the work); the ties are given (YtnmabjfoiakapaaGreatDoorTie.lean); close each card by the builder's one call (the guide's Derived/Test/ToyasCard.lean, 'card_holds'). Laid BY PROGRAM, IN A SANDBOX (cutbox-door.mjs). By AI agents, Wed Nov 11 2026. No macro, syntax, notation, axiom, sorry.
-/
import Derived.Test.YtnmabjfoiakapaaGreatDoorRows
import GoSem.ClaimSeven
namespace Go.Proofs.YtnmabjfoiakapaaGreatDoor
namespace Rows

/-- THE TIED CARD OF 'laws.FnExactNormalFormOf'. -/
def fnExactNormalFormOfCard : Claim7 := { stood := { row := fnExactNormalFormOfRow, standIns := [], harness := (true, "d8f154f7491da93ed7e14c1fbf7b480e067dc0778ba72b2cde086a8153ae0209"), looks := false }, kinds := [], alts := [], laidByText := true, laidKinds := [.data], laidTests := true, laidLooks := .later }
def FnExactNormalFormOfCardSaid : Prop := Claim7.holds Tryz.pinned (.plain (OpenSpec.ofChange fnExactNormalFormOfSpec)) fnExactNormalFormOfCard

/-- THE TIED CARD OF 'laws.FnExactReduceOneQubit'. -/
def fnExactReduceOneQubitCard : Claim7 := { stood := { row := fnExactReduceOneQubitRow, standIns := [], harness := (true, "d8f154f7491da93ed7e14c1fbf7b480e067dc0778ba72b2cde086a8153ae0209"), looks := false }, kinds := [], alts := [], laidByText := true, laidKinds := [.data], laidTests := true, laidLooks := .later }
def FnExactReduceOneQubitCardSaid : Prop := Claim7.holds Tryz.pinned (.plain (OpenSpec.ofChange fnExactReduceOneQubitSpec)) fnExactReduceOneQubitCard

/-- THE TIED CARD OF 'laws.FnNormalForm'. -/
def fnNormalFormCard : Claim7 := { stood := { row := fnNormalFormRow, standIns := [], harness := (true, "d8f154f7491da93ed7e14c1fbf7b480e067dc0778ba72b2cde086a8153ae0209"), looks := false }, kinds := [], alts := [], laidByText := true, laidKinds := [.data], laidTests := true, laidLooks := .later }
def FnNormalFormCardSaid : Prop := Claim7.holds Tryz.pinned (.plain (OpenSpec.ofChange fnNormalFormSpec)) fnNormalFormCard

/-- THE SECOND FORM's CARD OF 'laws.FnExactNormalFormOf'. -/
def fnExactNormalFormOfUptoCard : Claim7 := { stood := { row := fnExactNormalFormOfUptoRow, standIns := [], harness := (true, "d8f154f7491da93ed7e14c1fbf7b480e067dc0778ba72b2cde086a8153ae0209"), looks := false }, kinds := [], alts := [], laidByText := true, laidKinds := [.data], laidTests := true, laidLooks := .later }
def FnExactNormalFormOfUptoCardSaid : Prop := Claim7.holds Tryz.pinned (.plain (OpenSpec.upto fnExactNormalFormOfSpec)) fnExactNormalFormOfUptoCard

/-- THE SECOND FORM's CARD OF 'laws.FnExactReduceOneQubit'. -/
def fnExactReduceOneQubitUptoCard : Claim7 := { stood := { row := fnExactReduceOneQubitUptoRow, standIns := [], harness := (true, "d8f154f7491da93ed7e14c1fbf7b480e067dc0778ba72b2cde086a8153ae0209"), looks := false }, kinds := [], alts := [], laidByText := true, laidKinds := [.data], laidTests := true, laidLooks := .later }
def FnExactReduceOneQubitUptoCardSaid : Prop := Claim7.holds Tryz.pinned (.plain (OpenSpec.upto fnExactReduceOneQubitSpec)) fnExactReduceOneQubitUptoCard

/-- THE SECOND FORM's CARD OF 'laws.FnNormalForm'. -/
def fnNormalFormUptoCard : Claim7 := { stood := { row := fnNormalFormUptoRow, standIns := [], harness := (true, "d8f154f7491da93ed7e14c1fbf7b480e067dc0778ba72b2cde086a8153ae0209"), looks := false }, kinds := [], alts := [], laidByText := true, laidKinds := [.data], laidTests := true, laidLooks := .later }
def FnNormalFormUptoCardSaid : Prop := Claim7.holds Tryz.pinned (.plain (OpenSpec.upto fnNormalFormSpec)) fnNormalFormUptoCard
end Rows
end Go.Proofs.YtnmabjfoiakapaaGreatDoor
