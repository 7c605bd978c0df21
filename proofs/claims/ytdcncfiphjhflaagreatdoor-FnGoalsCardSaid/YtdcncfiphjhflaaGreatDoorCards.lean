/-
  DERIVED. GIVEN WITH THE SEED: THE CARDS: each row of YtdcncfiphjhflaaGreatDoorRows.lean that lists a variable, with what it lists TIED to the program's text (the seventh form; the later family's looks); each row that meets fmt, with fmt's text TOLD by the authors' own Lean function (tested against real Go, not proved from fmt's source: count such statements apart). THE CARD IS WHAT COUNTS. Prove the row's statement (the work); the ties are given (YtdcncfiphjhflaaGreatDoorTie.lean); close each card by the builder's one call (the guide's Derived/Test/ToyasCard.lean, 'card_holds'). Laid BY PROGRAM, IN A SANDBOX (cutbox-door.mjs). By AI agents, Wed Nov 11 2026. No macro, syntax, notation, axiom, sorry.
-/
import Derived.Test.YtdcncfiphjhflaaGreatDoorRows
import GoSem.ClaimSeven
namespace Go.Proofs.YtdcncfiphjhflaaGreatDoor
namespace Rows

/-- THE TIED CARD OF 'laws.FnGoals'. -/
def fnGoalsCard : Claim7 := { stood := { row := fnGoalsRow, standIns := [], harness := (true, "f78fc0a4b7044ca94c0190f9f2fe8471be26a7c3c12a539d524aab033aa4ceea"), looks := false }, kinds := [], alts := [], laidByText := true, laidKinds := [.data], laidTests := true, laidLooks := .later }
def FnGoalsCardSaid : Prop := Claim7.holds Tryz.pinned (.plain (OpenSpec.ofChange fnGoalsSpec)) fnGoalsCard

/-- THE SECOND FORM's CARD OF 'laws.FnGoals'. -/
def fnGoalsUptoCard : Claim7 := { stood := { row := fnGoalsUptoRow, standIns := [], harness := (true, "f78fc0a4b7044ca94c0190f9f2fe8471be26a7c3c12a539d524aab033aa4ceea"), looks := false }, kinds := [], alts := [], laidByText := true, laidKinds := [.data], laidTests := true, laidLooks := .later }
def FnGoalsUptoCardSaid : Prop := Claim7.holds Tryz.pinned (.plain (OpenSpec.upto fnGoalsSpec)) fnGoalsUptoCard
end Rows
end Go.Proofs.YtdcncfiphjhflaaGreatDoor
