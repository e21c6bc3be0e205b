/-
  DERIVED. GIVEN WITH THE SEED: THE CARDS: each row of YtkgodfhnofpglaaGreatDoorRows.lean that lists a variable, with what it lists TIED to the program's text (the seventh form; the later family's looks); each row that meets fmt, with fmt's text TOLD by the authors' own Lean function (tested against real Go, not proved from fmt's source: count such statements apart). THE CARD IS WHAT COUNTS. Prove the row's statement (the work); the ties are given (YtkgodfhnofpglaaGreatDoorTie.lean); close each card by the builder's one call (the guide's Derived/Test/ToyasCard.lean, 'card_holds'). Laid BY PROGRAM, IN A SANDBOX (cutbox-door.mjs). By AI agents, Wed Nov 11 2026. No macro, syntax, notation, axiom, sorry.
-/
import Derived.Test.YtkgodfhnofpglaaGreatDoorRows
import GoSem.ClaimSeven
namespace Go.Proofs.YtkgodfhnofpglaaGreatDoor
namespace Rows

/-- THE TIED CARD OF 'pagemendlaw45.DrillKept'. -/
def drillKeptCard : Claim7 := { stood := { row := drillKeptRow, standIns := [], harness := (true, "ff24a67571fe8b2df65ce1151137e82bca0f35cb4c810fb64ba60b8f3c06ff81"), looks := false }, kinds := [], alts := [], laidByText := true, laidKinds := [.data, .data], laidTests := true, laidLooks := .later }
def DrillKeptCardSaid : Prop := Claim7.holds Tryz.pinned (.plain (OpenSpec.ofChange drillKeptSpec)) drillKeptCard

/-- THE TIED CARD OF 'pagemendlaw45.DrillImages'. -/
def drillImagesCard : Claim7 := { stood := { row := drillImagesRow, standIns := [], harness := (true, "ff24a67571fe8b2df65ce1151137e82bca0f35cb4c810fb64ba60b8f3c06ff81"), looks := false }, kinds := [], alts := [], laidByText := true, laidKinds := [.data, .data], laidTests := true, laidLooks := .later }
def DrillImagesCardSaid : Prop := Claim7.holds Tryz.pinned (.plain (OpenSpec.ofChange drillImagesSpec)) drillImagesCard

/-- THE SECOND FORM's CARD OF 'pagemendlaw45.DrillKept'. -/
def drillKeptUptoCard : Claim7 := { stood := { row := drillKeptUptoRow, standIns := [], harness := (true, "ff24a67571fe8b2df65ce1151137e82bca0f35cb4c810fb64ba60b8f3c06ff81"), looks := false }, kinds := [], alts := [], laidByText := true, laidKinds := [.data, .data], laidTests := true, laidLooks := .later }
def DrillKeptUptoCardSaid : Prop := Claim7.holds Tryz.pinned (.plain (OpenSpec.upto drillKeptSpec)) drillKeptUptoCard

/-- THE SECOND FORM's CARD OF 'pagemendlaw45.DrillImages'. -/
def drillImagesUptoCard : Claim7 := { stood := { row := drillImagesUptoRow, standIns := [], harness := (true, "ff24a67571fe8b2df65ce1151137e82bca0f35cb4c810fb64ba60b8f3c06ff81"), looks := false }, kinds := [], alts := [], laidByText := true, laidKinds := [.data, .data], laidTests := true, laidLooks := .later }
def DrillImagesUptoCardSaid : Prop := Claim7.holds Tryz.pinned (.plain (OpenSpec.upto drillImagesSpec)) drillImagesUptoCard
end Rows
end Go.Proofs.YtkgodfhnofpglaaGreatDoor
