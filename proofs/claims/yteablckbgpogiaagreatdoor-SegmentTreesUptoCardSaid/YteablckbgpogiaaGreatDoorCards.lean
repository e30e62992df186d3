/-
  DERIVED. GIVEN WITH THE SEED: THE CARDS: each row of YteablckbgpogiaaGreatDoorRows.lean that lists a variable, with what it lists TIED to the program's text (the seventh form; the later family's looks); each row that meets fmt, with fmt's text TOLD by the authors' own Lean function (tested against real Go, not proved from fmt's source: count such statements apart). THE CARD IS WHAT COUNTS. Prove the row's statement (the work); the ties are given (YteablckbgpogiaaGreatDoorTie.lean); close each card by the builder's one call (the guide's Derived/Test/ToyasCard.lean, 'card_holds'). Laid BY PROGRAM, IN A SANDBOX (cutbox-door.mjs). By AI agents, Wed Nov 11 2026. No macro, syntax, notation, axiom, sorry.
-/
import Derived.Test.YteablckbgpogiaaGreatDoorRows
import GoSem.ClaimSeven
namespace Go.Proofs.YteablckbgpogiaaGreatDoor
namespace Rows

/-- THE TIED CARD OF 'concordatlaw28.SegmentSplits'. -/
def segmentSplitsCard : Claim7 := { stood := { row := segmentSplitsRow, standIns := [], harness := (true, "eaafd3a9c17a9944d9f29c498cec00f85a71295575fd5bd900d8a543ca06a3a8"), looks := true }, kinds := [], alts := [], laidByText := true, laidKinds := [.data, .data, .data, .data, .sentinel, .sentinel, .widerDeep, .pinned], laidTests := true, laidLooks := .later }
def SegmentSplitsCardSaid : Prop := Claim7.holds Tryz.pinned (.plain (OpenSpec.ofChange segmentSplitsSpec)) segmentSplitsCard

/-- THE TIED CARD OF 'concordatlaw28.SegmentTrees'. -/
def segmentTreesCard : Claim7 := { stood := { row := segmentTreesRow, standIns := [], harness := (true, "eaafd3a9c17a9944d9f29c498cec00f85a71295575fd5bd900d8a543ca06a3a8"), looks := true }, kinds := [], alts := [], laidByText := true, laidKinds := [.data, .data, .data, .data, .sentinel, .sentinel, .widerDeep, .pinned], laidTests := true, laidLooks := .later }
def SegmentTreesCardSaid : Prop := Claim7.holds Tryz.pinned (.plain (OpenSpec.ofChange segmentTreesSpec)) segmentTreesCard

/-- THE TIED CARD OF 'concordatlaw28.SegmentBack'. -/
def segmentBackCard : Claim7 := { stood := { row := segmentBackRow, standIns := [], harness := (true, "eaafd3a9c17a9944d9f29c498cec00f85a71295575fd5bd900d8a543ca06a3a8"), looks := true }, kinds := [], alts := [], laidByText := true, laidKinds := [.data, .data, .data, .data, .sentinel, .sentinel, .widerDeep, .pinned], laidTests := true, laidLooks := .later }
def SegmentBackCardSaid : Prop := Claim7.holds Tryz.pinned (.plain (OpenSpec.ofChange segmentBackSpec)) segmentBackCard

/-- THE SECOND FORM's CARD OF 'concordatlaw28.SegmentSplits'. -/
def segmentSplitsUptoCard : Claim7 := { stood := { row := segmentSplitsUptoRow, standIns := [], harness := (true, "eaafd3a9c17a9944d9f29c498cec00f85a71295575fd5bd900d8a543ca06a3a8"), looks := true }, kinds := [], alts := [], laidByText := true, laidKinds := [.data, .data, .data, .data, .sentinel, .sentinel, .widerDeep, .pinned], laidTests := true, laidLooks := .later }
def SegmentSplitsUptoCardSaid : Prop := Claim7.holds Tryz.pinned (.plain (OpenSpec.upto segmentSplitsSpec)) segmentSplitsUptoCard

/-- THE SECOND FORM's CARD OF 'concordatlaw28.SegmentTrees'. -/
def segmentTreesUptoCard : Claim7 := { stood := { row := segmentTreesUptoRow, standIns := [], harness := (true, "eaafd3a9c17a9944d9f29c498cec00f85a71295575fd5bd900d8a543ca06a3a8"), looks := true }, kinds := [], alts := [], laidByText := true, laidKinds := [.data, .data, .data, .data, .sentinel, .sentinel, .widerDeep, .pinned], laidTests := true, laidLooks := .later }
def SegmentTreesUptoCardSaid : Prop := Claim7.holds Tryz.pinned (.plain (OpenSpec.upto segmentTreesSpec)) segmentTreesUptoCard

/-- THE SECOND FORM's CARD OF 'concordatlaw28.SegmentBack'. -/
def segmentBackUptoCard : Claim7 := { stood := { row := segmentBackUptoRow, standIns := [], harness := (true, "eaafd3a9c17a9944d9f29c498cec00f85a71295575fd5bd900d8a543ca06a3a8"), looks := true }, kinds := [], alts := [], laidByText := true, laidKinds := [.data, .data, .data, .data, .sentinel, .sentinel, .widerDeep, .pinned], laidTests := true, laidLooks := .later }
def SegmentBackUptoCardSaid : Prop := Claim7.holds Tryz.pinned (.plain (OpenSpec.upto segmentBackSpec)) segmentBackUptoCard
end Rows
end Go.Proofs.YteablckbgpogiaaGreatDoor
