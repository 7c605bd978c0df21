/-
  DERIVED. GIVEN WITH THE SEED: THE CARDS: each row of YtcjjgemeacdbiaaGreatDoorRows.lean that lists a variable, with what it lists TIED to the program's text (the seventh form; the later family's looks); each row that meets fmt, with fmt's text TOLD by the authors' own Lean function (tested against real Go, not proved from fmt's source: count such statements apart). THE CARD IS WHAT COUNTS. Prove the row's statement (the work); the ties are given (YtcjjgemeacdbiaaGreatDoorTie.lean); close each card by the builder's one call (the guide's Derived/Test/ToyasCard.lean, 'card_holds'). Laid BY PROGRAM, IN A SANDBOX (cutbox-door.mjs). By AI agents, Wed Nov 11 2026. No macro, syntax, notation, axiom, sorry.
-/
import Derived.Test.YtcjjgemeacdbiaaGreatDoorRows
import GoSem.ClaimSeven
namespace Go.Proofs.YtcjjgemeacdbiaaGreatDoor
namespace Rows

/-- THE TIED CARD OF 'laws.FnHidden'. -/
def fnHiddenCard : Claim7 := { stood := { row := fnHiddenRow, standIns := [], harness := (true, "85c10478d3732e511f1e82c0403a9d9ca34066c85e911d19d2fb1cbf96fbe08c"), looks := false }, kinds := [], alts := [], laidByText := true, laidKinds := [.data], laidTests := true, laidLooks := .later }
def FnHiddenCardSaid : Prop := Claim7.holds Tryz.pinned (.plain (OpenSpec.ofChange fnHiddenSpec)) fnHiddenCard

/-- THE SECOND FORM's CARD OF 'laws.FnHidden'. -/
def fnHiddenUptoCard : Claim7 := { stood := { row := fnHiddenUptoRow, standIns := [], harness := (true, "85c10478d3732e511f1e82c0403a9d9ca34066c85e911d19d2fb1cbf96fbe08c"), looks := false }, kinds := [], alts := [], laidByText := true, laidKinds := [.data], laidTests := true, laidLooks := .later }
def FnHiddenUptoCardSaid : Prop := Claim7.holds Tryz.pinned (.plain (OpenSpec.upto fnHiddenSpec)) fnHiddenUptoCard
end Rows
end Go.Proofs.YtcjjgemeacdbiaaGreatDoor
