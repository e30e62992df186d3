/-
  DERIVED. GIVEN WITH THE SEED: THE CARDS: each row of YtphkaogfinjbjaaGreatDoorRows.lean that lists a variable, with what it lists TIED to the program's text (the seventh form; the later family's looks); each row that meets fmt, with fmt's text TOLD by the authors' own Lean function (tested against real Go, not proved from fmt's source: count such statements apart). THE CARD IS WHAT COUNTS. Prove the row's statement (the work); the ties are given (YtphkaogfinjbjaaGreatDoorTie.lean); close each card by the builder's one call (the guide's Derived/Test/ToyasCard.lean, 'card_holds'). Laid BY PROGRAM, IN A SANDBOX (cutbox-door.mjs). By AI agents, Wed Nov 11 2026. No macro, syntax, notation, axiom, sorry.
-/
import Derived.Test.YtphkaogfinjbjaaGreatDoorRows
import GoSem.ClaimSeven
namespace Go.Proofs.YtphkaogfinjbjaaGreatDoor
namespace Rows

/-- THE TIED CARD OF 'concordatlaw30.CellsRows'. -/
def cellsRowsCard : Claim7 := { stood := { row := cellsRowsRow, standIns := [], harness := (true, "1ae90d102d4ef66b69b54f658a6fd0f39ebd40d633fa9aaaec6ccf46c8e806be"), looks := true }, kinds := [], alts := [], laidByText := true, laidKinds := [.data, .data, .data, .sentinel, .sentinel, .widerDeep], laidTests := true, laidLooks := .later }
def CellsRowsCardSaid : Prop := Claim7.holds Tryz.pinned (.plain (OpenSpec.ofChange cellsRowsSpec)) cellsRowsCard

/-- THE TIED CARD OF 'concordatlaw30.CellsThree'. -/
def cellsThreeCard : Claim7 := { stood := { row := cellsThreeRow, standIns := [], harness := (true, "1ae90d102d4ef66b69b54f658a6fd0f39ebd40d633fa9aaaec6ccf46c8e806be"), looks := true }, kinds := [], alts := [], laidByText := true, laidKinds := [.data, .data, .data, .sentinel, .sentinel, .widerDeep], laidTests := true, laidLooks := .later }
def CellsThreeCardSaid : Prop := Claim7.holds Tryz.pinned (.plain (OpenSpec.ofChange cellsThreeSpec)) cellsThreeCard

/-- THE TIED CARD OF 'concordatlaw30.CellsOne'. -/
def cellsOneCard : Claim7 := { stood := { row := cellsOneRow, standIns := [], harness := (true, "1ae90d102d4ef66b69b54f658a6fd0f39ebd40d633fa9aaaec6ccf46c8e806be"), looks := true }, kinds := [], alts := [], laidByText := true, laidKinds := [.data, .data, .data, .sentinel, .sentinel, .widerDeep], laidTests := true, laidLooks := .later }
def CellsOneCardSaid : Prop := Claim7.holds Tryz.pinned (.plain (OpenSpec.ofChange cellsOneSpec)) cellsOneCard

/-- THE TIED CARD OF 'concordatlaw30.CellsTurned'. -/
def cellsTurnedCard : Claim7 := { stood := { row := cellsTurnedRow, standIns := [], harness := (true, "1ae90d102d4ef66b69b54f658a6fd0f39ebd40d633fa9aaaec6ccf46c8e806be"), looks := true }, kinds := [], alts := [], laidByText := true, laidKinds := [.data, .data, .data, .sentinel, .sentinel, .widerDeep], laidTests := true, laidLooks := .later }
def CellsTurnedCardSaid : Prop := Claim7.holds Tryz.pinned (.plain (OpenSpec.ofChange cellsTurnedSpec)) cellsTurnedCard

/-- THE TIED CARD OF 'concordatlaw30.CellsKept'. -/
def cellsKeptCard : Claim7 := { stood := { row := cellsKeptRow, standIns := [], harness := (true, "1ae90d102d4ef66b69b54f658a6fd0f39ebd40d633fa9aaaec6ccf46c8e806be"), looks := true }, kinds := [], alts := [], laidByText := true, laidKinds := [.data, .data, .data, .sentinel, .sentinel, .widerDeep], laidTests := true, laidLooks := .later }
def CellsKeptCardSaid : Prop := Claim7.holds Tryz.pinned (.plain (OpenSpec.ofChange cellsKeptSpec)) cellsKeptCard

/-- THE SECOND FORM's CARD OF 'concordatlaw30.CellsRows'. -/
def cellsRowsUptoCard : Claim7 := { stood := { row := cellsRowsUptoRow, standIns := [], harness := (true, "1ae90d102d4ef66b69b54f658a6fd0f39ebd40d633fa9aaaec6ccf46c8e806be"), looks := true }, kinds := [], alts := [], laidByText := true, laidKinds := [.data, .data, .data, .sentinel, .sentinel, .widerDeep], laidTests := true, laidLooks := .later }
def CellsRowsUptoCardSaid : Prop := Claim7.holds Tryz.pinned (.plain (OpenSpec.upto cellsRowsSpec)) cellsRowsUptoCard

/-- THE SECOND FORM's CARD OF 'concordatlaw30.CellsThree'. -/
def cellsThreeUptoCard : Claim7 := { stood := { row := cellsThreeUptoRow, standIns := [], harness := (true, "1ae90d102d4ef66b69b54f658a6fd0f39ebd40d633fa9aaaec6ccf46c8e806be"), looks := true }, kinds := [], alts := [], laidByText := true, laidKinds := [.data, .data, .data, .sentinel, .sentinel, .widerDeep], laidTests := true, laidLooks := .later }
def CellsThreeUptoCardSaid : Prop := Claim7.holds Tryz.pinned (.plain (OpenSpec.upto cellsThreeSpec)) cellsThreeUptoCard

/-- THE SECOND FORM's CARD OF 'concordatlaw30.CellsOne'. -/
def cellsOneUptoCard : Claim7 := { stood := { row := cellsOneUptoRow, standIns := [], harness := (true, "1ae90d102d4ef66b69b54f658a6fd0f39ebd40d633fa9aaaec6ccf46c8e806be"), looks := true }, kinds := [], alts := [], laidByText := true, laidKinds := [.data, .data, .data, .sentinel, .sentinel, .widerDeep], laidTests := true, laidLooks := .later }
def CellsOneUptoCardSaid : Prop := Claim7.holds Tryz.pinned (.plain (OpenSpec.upto cellsOneSpec)) cellsOneUptoCard

/-- THE SECOND FORM's CARD OF 'concordatlaw30.CellsTurned'. -/
def cellsTurnedUptoCard : Claim7 := { stood := { row := cellsTurnedUptoRow, standIns := [], harness := (true, "1ae90d102d4ef66b69b54f658a6fd0f39ebd40d633fa9aaaec6ccf46c8e806be"), looks := true }, kinds := [], alts := [], laidByText := true, laidKinds := [.data, .data, .data, .sentinel, .sentinel, .widerDeep], laidTests := true, laidLooks := .later }
def CellsTurnedUptoCardSaid : Prop := Claim7.holds Tryz.pinned (.plain (OpenSpec.upto cellsTurnedSpec)) cellsTurnedUptoCard

/-- THE SECOND FORM's CARD OF 'concordatlaw30.CellsKept'. -/
def cellsKeptUptoCard : Claim7 := { stood := { row := cellsKeptUptoRow, standIns := [], harness := (true, "1ae90d102d4ef66b69b54f658a6fd0f39ebd40d633fa9aaaec6ccf46c8e806be"), looks := true }, kinds := [], alts := [], laidByText := true, laidKinds := [.data, .data, .data, .sentinel, .sentinel, .widerDeep], laidTests := true, laidLooks := .later }
def CellsKeptUptoCardSaid : Prop := Claim7.holds Tryz.pinned (.plain (OpenSpec.upto cellsKeptSpec)) cellsKeptUptoCard
end Rows
end Go.Proofs.YtphkaogfinjbjaaGreatDoor
