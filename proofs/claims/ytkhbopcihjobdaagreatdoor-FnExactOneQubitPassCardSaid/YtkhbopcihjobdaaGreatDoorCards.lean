/-
  DERIVED. GIVEN WITH THE SEED: THE CARDS: each row of YtkhbopcihjobdaaGreatDoorRows.lean that lists a variable, with what it lists TIED to the program's text (the seventh form; the later family's looks); each row that meets fmt, with fmt's text TOLD by the authors' own Lean function (tested against real Go, not proved from fmt's source: count such statements apart). THE CARD IS WHAT COUNTS. Prove the row's statement (the work); the ties are given (YtkhbopcihjobdaaGreatDoorTie.lean); close each card by the builder's one call (the guide's Derived/Test/ToyasCard.lean, 'card_holds'). Laid BY PROGRAM, IN A SANDBOX (cutbox-door.mjs). By AI agents, Wed Nov 11 2026. No macro, syntax, notation, axiom, sorry.
-/
import Derived.Test.YtkhbopcihjobdaaGreatDoorRows
import GoSem.ClaimSeven
namespace Go.Proofs.YtkhbopcihjobdaaGreatDoor
namespace Rows

/-- THE TIED CARD OF 'laws.FnExactOneQubitPass'. -/
def fnExactOneQubitPassCard : Claim7 := { stood := { row := fnExactOneQubitPassRow, standIns := [], harness := (true, "b22f9e9e439683717fab402a184d1fb446242b633d22d4969a3c86ecb428531e"), looks := false }, kinds := [], alts := [], laidByText := true, laidKinds := [.data], laidTests := true, laidLooks := .later }
def FnExactOneQubitPassCardSaid : Prop := Claim7.holds Tryz.pinned (.plain (OpenSpec.ofChange fnExactOneQubitPassSpec)) fnExactOneQubitPassCard

/-- THE SECOND FORM's CARD OF 'laws.FnExactOneQubitPass'. -/
def fnExactOneQubitPassUptoCard : Claim7 := { stood := { row := fnExactOneQubitPassUptoRow, standIns := [], harness := (true, "b22f9e9e439683717fab402a184d1fb446242b633d22d4969a3c86ecb428531e"), looks := false }, kinds := [], alts := [], laidByText := true, laidKinds := [.data], laidTests := true, laidLooks := .later }
def FnExactOneQubitPassUptoCardSaid : Prop := Claim7.holds Tryz.pinned (.plain (OpenSpec.upto fnExactOneQubitPassSpec)) fnExactOneQubitPassUptoCard
end Rows
end Go.Proofs.YtkhbopcihjobdaaGreatDoor
