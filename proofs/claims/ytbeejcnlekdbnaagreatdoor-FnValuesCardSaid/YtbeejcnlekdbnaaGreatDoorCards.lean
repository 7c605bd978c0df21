/-
  DERIVED. GIVEN WITH THE SEED: THE CARDS: each row of YtbeejcnlekdbnaaGreatDoorRows.lean that lists a variable, with what it lists TIED to the program's text (the seventh form; the later family's looks); each row that meets fmt, with fmt's text TOLD by the authors' own Lean function (tested against real Go, not proved from fmt's source: count such statements apart). THE CARD IS WHAT COUNTS. Prove the row's statement (the work); the ties are given (YtbeejcnlekdbnaaGreatDoorTie.lean); close each card by the builder's one call (the guide's Derived/Test/ToyasCard.lean, 'card_holds'). Laid BY PROGRAM, IN A SANDBOX (cutbox-door.mjs). By AI agents, Wed Nov 11 2026. No macro, syntax, notation, axiom, sorry.
-/
import Derived.Test.YtbeejcnlekdbnaaGreatDoorRows
import GoSem.ClaimSeven
namespace Go.Proofs.YtbeejcnlekdbnaaGreatDoor
namespace Rows

/-- THE TIED CARD OF 'laws.FnValues'. -/
def fnValuesCard : Claim7 := { stood := { row := fnValuesRow, standIns := [], harness := (true, "67f23d7e402f32cabd3960201226e6b6e10787b3abb0cf0b80fd990795fa974d"), looks := false }, kinds := [], alts := [], laidByText := true, laidKinds := [.data], laidTests := true, laidLooks := .later }
def FnValuesCardSaid : Prop := Claim7.holds Tryz.pinned (.plain (OpenSpec.ofChange fnValuesSpec)) fnValuesCard

/-- THE SECOND FORM's CARD OF 'laws.FnValues'. -/
def fnValuesUptoCard : Claim7 := { stood := { row := fnValuesUptoRow, standIns := [], harness := (true, "67f23d7e402f32cabd3960201226e6b6e10787b3abb0cf0b80fd990795fa974d"), looks := false }, kinds := [], alts := [], laidByText := true, laidKinds := [.data], laidTests := true, laidLooks := .later }
def FnValuesUptoCardSaid : Prop := Claim7.holds Tryz.pinned (.plain (OpenSpec.upto fnValuesSpec)) fnValuesUptoCard
end Rows
end Go.Proofs.YtbeejcnlekdbnaaGreatDoor
