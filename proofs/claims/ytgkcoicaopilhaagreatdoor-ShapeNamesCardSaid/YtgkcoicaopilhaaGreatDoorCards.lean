/-
  DERIVED. GIVEN WITH THE SEED: THE CARDS: each row of YtgkcoicaopilhaaGreatDoorRows.lean that lists a variable, with what it lists TIED to the program's text (the seventh form; the later family's looks); each row that meets fmt, with fmt's text TOLD by the authors' own Lean function (tested against real Go, not proved from fmt's source: count such statements apart). THE CARD IS WHAT COUNTS. Prove the row's statement (the work); the ties are given (YtgkcoicaopilhaaGreatDoorTie.lean); close each card by the builder's one call (the guide's Derived/Test/ToyasCard.lean, 'card_holds'). Laid BY PROGRAM, IN A SANDBOX (cutbox-door.mjs). By AI agents, Wed Nov 11 2026. No macro, syntax, notation, axiom, sorry.
-/
import Derived.Test.YtgkcoicaopilhaaGreatDoorRows
import GoSem.ClaimSeven
namespace Go.Proofs.YtgkcoicaopilhaaGreatDoor
namespace Rows

/-- THE TIED CARD OF 'concordatlaw14.ShapeTells'. -/
def shapeTellsCard : Claim7 := { stood := { row := shapeTellsRow, standIns := [], harness := (true, "720a1821728a7db63a8ad053293a2ac40e01739ddc9b25e68a2fbd130d3a6dff"), looks := true }, kinds := [], alts := [], laidByText := true, laidKinds := [.data, .data, .data, .sentinel, .sentinel, .widerDeep], laidTests := true, laidLooks := .later }
def ShapeTellsCardSaid : Prop := Claim7.holds Tryz.pinned (.plain (OpenSpec.ofChange shapeTellsSpec)) shapeTellsCard

/-- THE TIED CARD OF 'concordatlaw14.ShapeBest'. -/
def shapeBestCard : Claim7 := { stood := { row := shapeBestRow, standIns := [], harness := (true, "720a1821728a7db63a8ad053293a2ac40e01739ddc9b25e68a2fbd130d3a6dff"), looks := true }, kinds := [], alts := [], laidByText := true, laidKinds := [.data, .data, .data, .sentinel, .sentinel, .widerDeep], laidTests := true, laidLooks := .later }
def ShapeBestCardSaid : Prop := Claim7.holds Tryz.pinned (.plain (OpenSpec.ofChange shapeBestSpec)) shapeBestCard

/-- THE TIED CARD OF 'concordatlaw14.ShapeNames'. -/
def shapeNamesCard : Claim7 := { stood := { row := shapeNamesRow, standIns := [], harness := (true, "720a1821728a7db63a8ad053293a2ac40e01739ddc9b25e68a2fbd130d3a6dff"), looks := true }, kinds := [], alts := [], laidByText := true, laidKinds := [.data, .data, .data, .sentinel, .sentinel, .widerDeep], laidTests := true, laidLooks := .later }
def ShapeNamesCardSaid : Prop := Claim7.holds Tryz.pinned (.plain (OpenSpec.ofChange shapeNamesSpec)) shapeNamesCard

/-- THE TIED CARD OF 'concordatlaw14.ShapeOnce'. -/
def shapeOnceCard : Claim7 := { stood := { row := shapeOnceRow, standIns := [], harness := (true, "720a1821728a7db63a8ad053293a2ac40e01739ddc9b25e68a2fbd130d3a6dff"), looks := true }, kinds := [], alts := [], laidByText := true, laidKinds := [.data, .data, .data, .sentinel, .sentinel, .widerDeep], laidTests := true, laidLooks := .later }
def ShapeOnceCardSaid : Prop := Claim7.holds Tryz.pinned (.plain (OpenSpec.ofChange shapeOnceSpec)) shapeOnceCard

/-- THE SECOND FORM's CARD OF 'concordatlaw14.ShapeTells'. -/
def shapeTellsUptoCard : Claim7 := { stood := { row := shapeTellsUptoRow, standIns := [], harness := (true, "720a1821728a7db63a8ad053293a2ac40e01739ddc9b25e68a2fbd130d3a6dff"), looks := true }, kinds := [], alts := [], laidByText := true, laidKinds := [.data, .data, .data, .sentinel, .sentinel, .widerDeep], laidTests := true, laidLooks := .later }
def ShapeTellsUptoCardSaid : Prop := Claim7.holds Tryz.pinned (.plain (OpenSpec.upto shapeTellsSpec)) shapeTellsUptoCard

/-- THE SECOND FORM's CARD OF 'concordatlaw14.ShapeBest'. -/
def shapeBestUptoCard : Claim7 := { stood := { row := shapeBestUptoRow, standIns := [], harness := (true, "720a1821728a7db63a8ad053293a2ac40e01739ddc9b25e68a2fbd130d3a6dff"), looks := true }, kinds := [], alts := [], laidByText := true, laidKinds := [.data, .data, .data, .sentinel, .sentinel, .widerDeep], laidTests := true, laidLooks := .later }
def ShapeBestUptoCardSaid : Prop := Claim7.holds Tryz.pinned (.plain (OpenSpec.upto shapeBestSpec)) shapeBestUptoCard

/-- THE SECOND FORM's CARD OF 'concordatlaw14.ShapeNames'. -/
def shapeNamesUptoCard : Claim7 := { stood := { row := shapeNamesUptoRow, standIns := [], harness := (true, "720a1821728a7db63a8ad053293a2ac40e01739ddc9b25e68a2fbd130d3a6dff"), looks := true }, kinds := [], alts := [], laidByText := true, laidKinds := [.data, .data, .data, .sentinel, .sentinel, .widerDeep], laidTests := true, laidLooks := .later }
def ShapeNamesUptoCardSaid : Prop := Claim7.holds Tryz.pinned (.plain (OpenSpec.upto shapeNamesSpec)) shapeNamesUptoCard

/-- THE SECOND FORM's CARD OF 'concordatlaw14.ShapeOnce'. -/
def shapeOnceUptoCard : Claim7 := { stood := { row := shapeOnceUptoRow, standIns := [], harness := (true, "720a1821728a7db63a8ad053293a2ac40e01739ddc9b25e68a2fbd130d3a6dff"), looks := true }, kinds := [], alts := [], laidByText := true, laidKinds := [.data, .data, .data, .sentinel, .sentinel, .widerDeep], laidTests := true, laidLooks := .later }
def ShapeOnceUptoCardSaid : Prop := Claim7.holds Tryz.pinned (.plain (OpenSpec.upto shapeOnceSpec)) shapeOnceUptoCard
end Rows
end Go.Proofs.YtgkcoicaopilhaaGreatDoor
