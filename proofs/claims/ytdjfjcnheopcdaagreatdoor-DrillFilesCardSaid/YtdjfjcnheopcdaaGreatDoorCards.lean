/-
  DERIVED. GIVEN WITH THE SEED: THE CARDS: each row of YtdjfjcnheopcdaaGreatDoorRows.lean that lists a variable, with what it lists TIED to the program's text (the seventh form; the later family's looks); each row that meets fmt, with fmt's text TOLD by the authors' own Lean function (tested against real Go, not proved from fmt's source: count such statements apart). THE CARD IS WHAT COUNTS. Prove the row's statement (the work); the ties are given (YtdjfjcnheopcdaaGreatDoorTie.lean); close each card by the builder's one call (the guide's Derived/Test/ToyasCard.lean, 'card_holds'). Laid BY PROGRAM, IN A SANDBOX (cutbox-door.mjs). By AI agents, Wed Nov 11 2026. No macro, syntax, notation, axiom, sorry.
-/
import Derived.Test.YtdjfjcnheopcdaaGreatDoorRows
import GoSem.ClaimSeven
namespace Go.Proofs.YtdjfjcnheopcdaaGreatDoor
namespace Rows

/-- THE TIED CARD OF 'pagemendlaw45.DrillMore'. -/
def drillMoreCard : Claim7 := { stood := { row := drillMoreRow, standIns := [], harness := (true, "36b68d996470d791f5daf21708a73f48ddf5c7025573b4fe8512c1dac65789d2"), looks := false }, kinds := [], alts := [], laidByText := true, laidKinds := [.data, .data], laidTests := true, laidLooks := .later }
def DrillMoreCardSaid : Prop := Claim7.holds Tryz.pinned (.plain (OpenSpec.ofChange drillMoreSpec)) drillMoreCard

/-- THE TIED CARD OF 'pagemendlaw45.DrillFiles'. -/
def drillFilesCard : Claim7 := { stood := { row := drillFilesRow, standIns := [], harness := (true, "36b68d996470d791f5daf21708a73f48ddf5c7025573b4fe8512c1dac65789d2"), looks := false }, kinds := [], alts := [], laidByText := true, laidKinds := [.data, .data], laidTests := true, laidLooks := .later }
def DrillFilesCardSaid : Prop := Claim7.holds Tryz.pinned (.plain (OpenSpec.ofChange drillFilesSpec)) drillFilesCard

/-- THE SECOND FORM's CARD OF 'pagemendlaw45.DrillMore'. -/
def drillMoreUptoCard : Claim7 := { stood := { row := drillMoreUptoRow, standIns := [], harness := (true, "36b68d996470d791f5daf21708a73f48ddf5c7025573b4fe8512c1dac65789d2"), looks := false }, kinds := [], alts := [], laidByText := true, laidKinds := [.data, .data], laidTests := true, laidLooks := .later }
def DrillMoreUptoCardSaid : Prop := Claim7.holds Tryz.pinned (.plain (OpenSpec.upto drillMoreSpec)) drillMoreUptoCard

/-- THE SECOND FORM's CARD OF 'pagemendlaw45.DrillFiles'. -/
def drillFilesUptoCard : Claim7 := { stood := { row := drillFilesUptoRow, standIns := [], harness := (true, "36b68d996470d791f5daf21708a73f48ddf5c7025573b4fe8512c1dac65789d2"), looks := false }, kinds := [], alts := [], laidByText := true, laidKinds := [.data, .data], laidTests := true, laidLooks := .later }
def DrillFilesUptoCardSaid : Prop := Claim7.holds Tryz.pinned (.plain (OpenSpec.upto drillFilesSpec)) drillFilesUptoCard
end Rows
end Go.Proofs.YtdjfjcnheopcdaaGreatDoor
