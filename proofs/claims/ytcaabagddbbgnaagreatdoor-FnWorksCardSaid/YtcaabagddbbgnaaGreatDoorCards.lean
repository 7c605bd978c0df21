/-
  DERIVED. GIVEN WITH THE SEED: THE CARDS: each row of YtcaabagddbbgnaaGreatDoorRows.lean that lists a variable, with what it lists TIED to the program's text (the seventh form; the later family's looks); each row that meets fmt, with fmt's text TOLD by the authors' own Lean function (tested against real Go, not proved from fmt's source: count such statements apart). THE CARD IS WHAT COUNTS. Prove the row's statement (the work); the ties are given (YtcaabagddbbgnaaGreatDoorTie.lean); close each card by the builder's one call (the guide's Derived/Test/ToyasCard.lean, 'card_holds'). Laid BY PROGRAM, IN A SANDBOX (cutbox-door.mjs). By AI agents, Wed Nov 11 2026. No macro, syntax, notation, axiom, sorry.
-/
import Derived.Test.YtcaabagddbbgnaaGreatDoorRows
import GoSem.ClaimSeven
namespace Go.Proofs.YtcaabagddbbgnaaGreatDoor
namespace Rows

/-- THE TIED CARD OF 'laws.FnWorks'. -/
def fnWorksCard : Claim7 := { stood := { row := fnWorksRow, standIns := [], harness := (true, "930c7e160d2350301b4cb8435ccdd90eba10a880f46b55746734e3613b0cf416"), looks := false }, kinds := [], alts := [], laidByText := true, laidKinds := [.data], laidTests := true, laidLooks := .later }
def FnWorksCardSaid : Prop := Claim7.holds Tryz.pinned (.plain (OpenSpec.ofChange fnWorksSpec)) fnWorksCard

/-- THE SECOND FORM's CARD OF 'laws.FnWorks'. -/
def fnWorksUptoCard : Claim7 := { stood := { row := fnWorksUptoRow, standIns := [], harness := (true, "930c7e160d2350301b4cb8435ccdd90eba10a880f46b55746734e3613b0cf416"), looks := false }, kinds := [], alts := [], laidByText := true, laidKinds := [.data], laidTests := true, laidLooks := .later }
def FnWorksUptoCardSaid : Prop := Claim7.holds Tryz.pinned (.plain (OpenSpec.upto fnWorksSpec)) fnWorksUptoCard
end Rows
end Go.Proofs.YtcaabagddbbgnaaGreatDoor
