/-
  DERIVED. GIVEN WITH THE SEED: THE CARDS: each row of YtefeelcjokdchaaGreatDoorRows.lean that lists a variable, with what it lists TIED to the program's text (the seventh form; the later family's looks); each row that meets fmt, with fmt's text TOLD by the authors' own Lean function (tested against real Go, not proved from fmt's source: count such statements apart). THE CARD IS WHAT COUNTS. Prove the row's statement (the work); the ties are given (YtefeelcjokdchaaGreatDoorTie.lean); close each card by the builder's one call (the guide's Derived/Test/ToyasCard.lean, 'card_holds'). Laid BY PROGRAM, IN A SANDBOX (cutbox-door.mjs). By AI agents, Wed Nov 11 2026. No macro, syntax, notation, axiom, sorry.
-/
import Derived.Test.YtefeelcjokdchaaGreatDoorRows
import GoSem.ClaimSeven
namespace Go.Proofs.YtefeelcjokdchaaGreatDoor
namespace Rows

/-- THE TIED CARD OF 'concordatlaw08.WeaveParts'. -/
def weavePartsCard : Claim7 := { stood := { row := weavePartsRow, standIns := [], harness := (true, "2f2f0e01299fdceb668a8e87899a02e55f4624757ce93d05e9bade406d41de94"), looks := true }, kinds := [], alts := [], laidByText := true, laidKinds := [.data, .data, .data, .sentinel, .sentinel, .widerDeep], laidTests := true, laidLooks := .later }
def WeavePartsCardSaid : Prop := Claim7.holds Tryz.pinned (.plain (OpenSpec.ofChange weavePartsSpec)) weavePartsCard

/-- THE SECOND FORM's CARD OF 'concordatlaw08.WeaveParts'. -/
def weavePartsUptoCard : Claim7 := { stood := { row := weavePartsUptoRow, standIns := [], harness := (true, "2f2f0e01299fdceb668a8e87899a02e55f4624757ce93d05e9bade406d41de94"), looks := true }, kinds := [], alts := [], laidByText := true, laidKinds := [.data, .data, .data, .sentinel, .sentinel, .widerDeep], laidTests := true, laidLooks := .later }
def WeavePartsUptoCardSaid : Prop := Claim7.holds Tryz.pinned (.plain (OpenSpec.upto weavePartsSpec)) weavePartsUptoCard
end Rows
end Go.Proofs.YtefeelcjokdchaaGreatDoor
