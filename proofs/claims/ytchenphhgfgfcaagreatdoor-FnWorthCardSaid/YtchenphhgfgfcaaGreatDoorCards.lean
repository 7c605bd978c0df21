/-
  DERIVED. GIVEN WITH THE SEED: THE CARDS: each row of YtchenphhgfgfcaaGreatDoorRows.lean that lists a variable, with what it lists TIED to the program's text (the seventh form; the later family's looks); each row that meets fmt, with fmt's text TOLD by the authors' own Lean function (tested against real Go, not proved from fmt's source: count such statements apart). THE CARD IS WHAT COUNTS. Prove the row's statement (the work); the ties are given (YtchenphhgfgfcaaGreatDoorTie.lean); close each card by the builder's one call (the guide's Derived/Test/ToyasCard.lean, 'card_holds'). Laid BY PROGRAM, IN A SANDBOX (cutbox-door.mjs). By AI agents, Wed Nov 11 2026. No macro, syntax, notation, axiom, sorry.
-/
import Derived.Test.YtchenphhgfgfcaaGreatDoorRows
import GoSem.ClaimSeven
namespace Go.Proofs.YtchenphhgfgfcaaGreatDoor
namespace Rows

/-- THE TIED CARD OF 'laws.FnWorth'. -/
def fnWorthCard : Claim7 := { stood := { row := fnWorthRow, standIns := [], harness := (true, "749fe959dea42c9f576a8bdfc7d4976d52ffd1ca9ae76b101bf7fd37ded3439c"), looks := false }, kinds := [], alts := [], laidByText := true, laidKinds := [.data], laidTests := true, laidLooks := .later }
def FnWorthCardSaid : Prop := Claim7.holds Tryz.pinned (.plain (OpenSpec.ofChange fnWorthSpec)) fnWorthCard

/-- THE SECOND FORM's CARD OF 'laws.FnWorth'. -/
def fnWorthUptoCard : Claim7 := { stood := { row := fnWorthUptoRow, standIns := [], harness := (true, "749fe959dea42c9f576a8bdfc7d4976d52ffd1ca9ae76b101bf7fd37ded3439c"), looks := false }, kinds := [], alts := [], laidByText := true, laidKinds := [.data], laidTests := true, laidLooks := .later }
def FnWorthUptoCardSaid : Prop := Claim7.holds Tryz.pinned (.plain (OpenSpec.upto fnWorthSpec)) fnWorthUptoCard
end Rows
end Go.Proofs.YtchenphhgfgfcaaGreatDoor
