/-
  DERIVED. GIVEN WITH THE SEED: THE CARDS: each row of YtefeelcjokdchaaDoorRows.lean that lists a variable, with what it lists TIED to the program's text (the seventh form; the later family's looks); each row that meets fmt, with fmt's text TOLD by the authors' own Lean function (tested against real Go, not proved from fmt's source: count such statements apart). THE CARD IS WHAT COUNTS. Prove the row's statement (the work); the ties are given (YtefeelcjokdchaaDoorTie.lean); close each card by the builder's one call (the guide's Derived/Test/ToyasCard.lean, 'card_holds'). Laid BY PROGRAM, IN A SANDBOX (cutbox-door.mjs). By AI agents, Wed Nov 11 2026. No macro, syntax, notation, axiom, sorry.
-/
import Derived.Test.YtefeelcjokdchaaDoorRows
import GoSem.ClaimSeven
namespace Go.Proofs.YtefeelcjokdchaaDoor
namespace Rows

/-- THE TIED CARD OF 'concordatlaw03.LexTells'. -/
def lexTellsCard : Claim7 := { stood := { row := lexTellsRow, standIns := [], harness := (true, "51a22f401309cc0c6805e00e1d08a06af7c0af94e61bc5394533cccdc843a10a"), looks := true }, kinds := [], alts := [], laidByText := true, laidKinds := [.data, .data, .data, .sentinel, .sentinel, .widerDeep], laidTests := true, laidLooks := .later }
def LexTellsCardSaid : Prop := Claim7.holds Tryd.pinned (.plain (OpenSpec.ofChange lexTellsSpec)) lexTellsCard

/-- THE TIED CARD OF 'concordatlaw03.LexNames'. -/
def lexNamesCard : Claim7 := { stood := { row := lexNamesRow, standIns := [], harness := (true, "51a22f401309cc0c6805e00e1d08a06af7c0af94e61bc5394533cccdc843a10a"), looks := true }, kinds := [], alts := [], laidByText := true, laidKinds := [.data, .data, .data, .sentinel, .sentinel, .widerDeep], laidTests := true, laidLooks := .later }
def LexNamesCardSaid : Prop := Claim7.holds Tryd.pinned (.plain (OpenSpec.ofChange lexNamesSpec)) lexNamesCard

/-- THE TIED CARD OF 'concordatlaw03.LexBack'. -/
def lexBackCard : Claim7 := { stood := { row := lexBackRow, standIns := [], harness := (true, "51a22f401309cc0c6805e00e1d08a06af7c0af94e61bc5394533cccdc843a10a"), looks := true }, kinds := [], alts := [], laidByText := true, laidKinds := [.data, .data, .data, .sentinel, .sentinel, .widerDeep], laidTests := true, laidLooks := .later }
def LexBackCardSaid : Prop := Claim7.holds Tryd.pinned (.plain (OpenSpec.ofChange lexBackSpec)) lexBackCard

/-- THE TIED CARD OF 'concordatlaw03.LexAhead'. -/
def lexAheadCard : Claim7 := { stood := { row := lexAheadRow, standIns := [], harness := (true, "51a22f401309cc0c6805e00e1d08a06af7c0af94e61bc5394533cccdc843a10a"), looks := true }, kinds := [], alts := [], laidByText := true, laidKinds := [.data, .data, .data, .sentinel, .sentinel, .widerDeep], laidTests := true, laidLooks := .later }
def LexAheadCardSaid : Prop := Claim7.holds Tryd.pinned (.plain (OpenSpec.ofChange lexAheadSpec)) lexAheadCard

/-- THE TIED CARD OF 'concordatlaw03.LexLead'. -/
def lexLeadCard : Claim7 := { stood := { row := lexLeadRow, standIns := [], harness := (true, "51a22f401309cc0c6805e00e1d08a06af7c0af94e61bc5394533cccdc843a10a"), looks := true }, kinds := [], alts := [], laidByText := true, laidKinds := [.data, .data, .data, .sentinel, .sentinel, .widerDeep], laidTests := true, laidLooks := .later }
def LexLeadCardSaid : Prop := Claim7.holds Tryd.pinned (.plain (OpenSpec.ofChange lexLeadSpec)) lexLeadCard

/-- THE TIED CARD OF 'concordatlaw04.TokenKinds'. -/
def tokenKindsCard : Claim7 := { stood := { row := tokenKindsRow, standIns := [], harness := (true, "51a22f401309cc0c6805e00e1d08a06af7c0af94e61bc5394533cccdc843a10a"), looks := true }, kinds := [], alts := [], laidByText := true, laidKinds := [.data, .data, .data, .sentinel, .sentinel, .widerDeep, .data], laidTests := true, laidLooks := .later }
def TokenKindsCardSaid : Prop := Claim7.holds Tryd.pinned (.plain (OpenSpec.ofChange tokenKindsSpec)) tokenKindsCard

/-- THE TIED CARD OF 'concordatlaw04.TokenBack'. -/
def tokenBackCard : Claim7 := { stood := { row := tokenBackRow, standIns := [], harness := (true, "51a22f401309cc0c6805e00e1d08a06af7c0af94e61bc5394533cccdc843a10a"), looks := true }, kinds := [], alts := [], laidByText := true, laidKinds := [.data, .data, .data, .sentinel, .sentinel, .widerDeep, .data], laidTests := true, laidLooks := .later }
def TokenBackCardSaid : Prop := Claim7.holds Tryd.pinned (.plain (OpenSpec.ofChange tokenBackSpec)) tokenBackCard

/-- THE TIED CARD OF 'concordatlaw04.TokenPlaces'. -/
def tokenPlacesCard : Claim7 := { stood := { row := tokenPlacesRow, standIns := [], harness := (true, "51a22f401309cc0c6805e00e1d08a06af7c0af94e61bc5394533cccdc843a10a"), looks := true }, kinds := [], alts := [], laidByText := true, laidKinds := [.data, .data, .data, .sentinel, .sentinel, .widerDeep, .data], laidTests := true, laidLooks := .later }
def TokenPlacesCardSaid : Prop := Claim7.holds Tryd.pinned (.plain (OpenSpec.ofChange tokenPlacesSpec)) tokenPlacesCard

/-- THE TIED CARD OF 'concordatlaw08.WeaveJoins'. -/
def weaveJoinsCard : Claim7 := { stood := { row := weaveJoinsRow, standIns := [], harness := (true, "51a22f401309cc0c6805e00e1d08a06af7c0af94e61bc5394533cccdc843a10a"), looks := true }, kinds := [], alts := [], laidByText := true, laidKinds := [.data, .data, .data, .sentinel, .sentinel, .widerDeep], laidTests := true, laidLooks := .later }
def WeaveJoinsCardSaid : Prop := Claim7.holds Tryd.pinned (.plain (OpenSpec.ofChange weaveJoinsSpec)) weaveJoinsCard

/-- THE TIED CARD OF 'concordatlaw08.WeaveSides'. -/
def weaveSidesCard : Claim7 := { stood := { row := weaveSidesRow, standIns := [], harness := (true, "51a22f401309cc0c6805e00e1d08a06af7c0af94e61bc5394533cccdc843a10a"), looks := true }, kinds := [], alts := [], laidByText := true, laidKinds := [.data, .data, .data, .sentinel, .sentinel, .widerDeep], laidTests := true, laidLooks := .later }
def WeaveSidesCardSaid : Prop := Claim7.holds Tryd.pinned (.plain (OpenSpec.ofChange weaveSidesSpec)) weaveSidesCard

/-- THE TIED CARD OF 'concordatlaw08.WeaveOne'. -/
def weaveOneCard : Claim7 := { stood := { row := weaveOneRow, standIns := [], harness := (true, "51a22f401309cc0c6805e00e1d08a06af7c0af94e61bc5394533cccdc843a10a"), looks := true }, kinds := [], alts := [], laidByText := true, laidKinds := [.data, .data, .data, .sentinel, .sentinel, .widerDeep], laidTests := true, laidLooks := .later }
def WeaveOneCardSaid : Prop := Claim7.holds Tryd.pinned (.plain (OpenSpec.ofChange weaveOneSpec)) weaveOneCard

/-- THE SECOND FORM's CARD OF 'concordatlaw03.LexTells'. -/
def lexTellsUptoCard : Claim7 := { stood := { row := lexTellsUptoRow, standIns := [], harness := (true, "51a22f401309cc0c6805e00e1d08a06af7c0af94e61bc5394533cccdc843a10a"), looks := true }, kinds := [], alts := [], laidByText := true, laidKinds := [.data, .data, .data, .sentinel, .sentinel, .widerDeep], laidTests := true, laidLooks := .later }
def LexTellsUptoCardSaid : Prop := Claim7.holds Tryd.pinned (.plain (OpenSpec.upto lexTellsSpec)) lexTellsUptoCard

/-- THE SECOND FORM's CARD OF 'concordatlaw03.LexNames'. -/
def lexNamesUptoCard : Claim7 := { stood := { row := lexNamesUptoRow, standIns := [], harness := (true, "51a22f401309cc0c6805e00e1d08a06af7c0af94e61bc5394533cccdc843a10a"), looks := true }, kinds := [], alts := [], laidByText := true, laidKinds := [.data, .data, .data, .sentinel, .sentinel, .widerDeep], laidTests := true, laidLooks := .later }
def LexNamesUptoCardSaid : Prop := Claim7.holds Tryd.pinned (.plain (OpenSpec.upto lexNamesSpec)) lexNamesUptoCard

/-- THE SECOND FORM's CARD OF 'concordatlaw03.LexBack'. -/
def lexBackUptoCard : Claim7 := { stood := { row := lexBackUptoRow, standIns := [], harness := (true, "51a22f401309cc0c6805e00e1d08a06af7c0af94e61bc5394533cccdc843a10a"), looks := true }, kinds := [], alts := [], laidByText := true, laidKinds := [.data, .data, .data, .sentinel, .sentinel, .widerDeep], laidTests := true, laidLooks := .later }
def LexBackUptoCardSaid : Prop := Claim7.holds Tryd.pinned (.plain (OpenSpec.upto lexBackSpec)) lexBackUptoCard

/-- THE SECOND FORM's CARD OF 'concordatlaw03.LexAhead'. -/
def lexAheadUptoCard : Claim7 := { stood := { row := lexAheadUptoRow, standIns := [], harness := (true, "51a22f401309cc0c6805e00e1d08a06af7c0af94e61bc5394533cccdc843a10a"), looks := true }, kinds := [], alts := [], laidByText := true, laidKinds := [.data, .data, .data, .sentinel, .sentinel, .widerDeep], laidTests := true, laidLooks := .later }
def LexAheadUptoCardSaid : Prop := Claim7.holds Tryd.pinned (.plain (OpenSpec.upto lexAheadSpec)) lexAheadUptoCard

/-- THE SECOND FORM's CARD OF 'concordatlaw03.LexLead'. -/
def lexLeadUptoCard : Claim7 := { stood := { row := lexLeadUptoRow, standIns := [], harness := (true, "51a22f401309cc0c6805e00e1d08a06af7c0af94e61bc5394533cccdc843a10a"), looks := true }, kinds := [], alts := [], laidByText := true, laidKinds := [.data, .data, .data, .sentinel, .sentinel, .widerDeep], laidTests := true, laidLooks := .later }
def LexLeadUptoCardSaid : Prop := Claim7.holds Tryd.pinned (.plain (OpenSpec.upto lexLeadSpec)) lexLeadUptoCard

/-- THE SECOND FORM's CARD OF 'concordatlaw04.TokenKinds'. -/
def tokenKindsUptoCard : Claim7 := { stood := { row := tokenKindsUptoRow, standIns := [], harness := (true, "51a22f401309cc0c6805e00e1d08a06af7c0af94e61bc5394533cccdc843a10a"), looks := true }, kinds := [], alts := [], laidByText := true, laidKinds := [.data, .data, .data, .sentinel, .sentinel, .widerDeep, .data], laidTests := true, laidLooks := .later }
def TokenKindsUptoCardSaid : Prop := Claim7.holds Tryd.pinned (.plain (OpenSpec.upto tokenKindsSpec)) tokenKindsUptoCard

/-- THE SECOND FORM's CARD OF 'concordatlaw04.TokenBack'. -/
def tokenBackUptoCard : Claim7 := { stood := { row := tokenBackUptoRow, standIns := [], harness := (true, "51a22f401309cc0c6805e00e1d08a06af7c0af94e61bc5394533cccdc843a10a"), looks := true }, kinds := [], alts := [], laidByText := true, laidKinds := [.data, .data, .data, .sentinel, .sentinel, .widerDeep, .data], laidTests := true, laidLooks := .later }
def TokenBackUptoCardSaid : Prop := Claim7.holds Tryd.pinned (.plain (OpenSpec.upto tokenBackSpec)) tokenBackUptoCard

/-- THE SECOND FORM's CARD OF 'concordatlaw04.TokenPlaces'. -/
def tokenPlacesUptoCard : Claim7 := { stood := { row := tokenPlacesUptoRow, standIns := [], harness := (true, "51a22f401309cc0c6805e00e1d08a06af7c0af94e61bc5394533cccdc843a10a"), looks := true }, kinds := [], alts := [], laidByText := true, laidKinds := [.data, .data, .data, .sentinel, .sentinel, .widerDeep, .data], laidTests := true, laidLooks := .later }
def TokenPlacesUptoCardSaid : Prop := Claim7.holds Tryd.pinned (.plain (OpenSpec.upto tokenPlacesSpec)) tokenPlacesUptoCard

/-- THE SECOND FORM's CARD OF 'concordatlaw08.WeaveJoins'. -/
def weaveJoinsUptoCard : Claim7 := { stood := { row := weaveJoinsUptoRow, standIns := [], harness := (true, "51a22f401309cc0c6805e00e1d08a06af7c0af94e61bc5394533cccdc843a10a"), looks := true }, kinds := [], alts := [], laidByText := true, laidKinds := [.data, .data, .data, .sentinel, .sentinel, .widerDeep], laidTests := true, laidLooks := .later }
def WeaveJoinsUptoCardSaid : Prop := Claim7.holds Tryd.pinned (.plain (OpenSpec.upto weaveJoinsSpec)) weaveJoinsUptoCard

/-- THE SECOND FORM's CARD OF 'concordatlaw08.WeaveSides'. -/
def weaveSidesUptoCard : Claim7 := { stood := { row := weaveSidesUptoRow, standIns := [], harness := (true, "51a22f401309cc0c6805e00e1d08a06af7c0af94e61bc5394533cccdc843a10a"), looks := true }, kinds := [], alts := [], laidByText := true, laidKinds := [.data, .data, .data, .sentinel, .sentinel, .widerDeep], laidTests := true, laidLooks := .later }
def WeaveSidesUptoCardSaid : Prop := Claim7.holds Tryd.pinned (.plain (OpenSpec.upto weaveSidesSpec)) weaveSidesUptoCard

/-- THE SECOND FORM's CARD OF 'concordatlaw08.WeaveOne'. -/
def weaveOneUptoCard : Claim7 := { stood := { row := weaveOneUptoRow, standIns := [], harness := (true, "51a22f401309cc0c6805e00e1d08a06af7c0af94e61bc5394533cccdc843a10a"), looks := true }, kinds := [], alts := [], laidByText := true, laidKinds := [.data, .data, .data, .sentinel, .sentinel, .widerDeep], laidTests := true, laidLooks := .later }
def WeaveOneUptoCardSaid : Prop := Claim7.holds Tryd.pinned (.plain (OpenSpec.upto weaveOneSpec)) weaveOneUptoCard
end Rows
end Go.Proofs.YtefeelcjokdchaaDoor
