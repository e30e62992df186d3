/-
  DERIVED. GIVEN WITH THE SEED: THE CARDS: each row of YtcndghapmoaidaaGreatDoorRows.lean that lists a variable, with what it lists TIED to the program's text (the seventh form; the later family's looks); each row that meets fmt, with fmt's text TOLD by the authors' own Lean function (tested against real Go, not proved from fmt's source: count such statements apart). THE CARD IS WHAT COUNTS. Prove the row's statement (the work); the ties are given (YtcndghapmoaidaaGreatDoorTie.lean); close each card by the builder's one call (the guide's Derived/Test/ToyasCard.lean, 'card_holds'). Laid BY PROGRAM, IN A SANDBOX (cutbox-door.mjs). By AI agents, Wed Nov 11 2026. No macro, syntax, notation, axiom, sorry.
-/
import Derived.Test.YtcndghapmoaidaaGreatDoorRows
import GoSem.ClaimSeven
namespace Go.Proofs.YtcndghapmoaidaaGreatDoor
namespace Rows

/-- THE TIED CARD OF 'concordatlaw17.BindUses'. -/
def bindUsesCard : Claim7 := { stood := { row := bindUsesRow, standIns := [], harness := (true, "5fbe5d393d670de21c7d719403d1bf0689b6914837ac6c64b19dcbe67eb08fda"), looks := true }, kinds := [], alts := [], laidByText := true, laidKinds := [.data, .data, .data], laidTests := true, laidLooks := .later }
def BindUsesCardSaid : Prop := Claim7.holds Tryz.pinned (.plain (OpenSpec.ofChange bindUsesSpec)) bindUsesCard

/-- THE TIED CARD OF 'concordatlaw17.BindNames'. -/
def bindNamesCard : Claim7 := { stood := { row := bindNamesRow, standIns := [], harness := (true, "5fbe5d393d670de21c7d719403d1bf0689b6914837ac6c64b19dcbe67eb08fda"), looks := true }, kinds := [], alts := [], laidByText := true, laidKinds := [.data, .data, .data], laidTests := true, laidLooks := .later }
def BindNamesCardSaid : Prop := Claim7.holds Tryz.pinned (.plain (OpenSpec.ofChange bindNamesSpec)) bindNamesCard

/-- THE TIED CARD OF 'concordatlaw17.BindLead'. -/
def bindLeadCard : Claim7 := { stood := { row := bindLeadRow, standIns := [], harness := (true, "5fbe5d393d670de21c7d719403d1bf0689b6914837ac6c64b19dcbe67eb08fda"), looks := true }, kinds := [], alts := [], laidByText := true, laidKinds := [.data, .data, .data], laidTests := true, laidLooks := .later }
def BindLeadCardSaid : Prop := Claim7.holds Tryz.pinned (.plain (OpenSpec.ofChange bindLeadSpec)) bindLeadCard

/-- THE TIED CARD OF 'concordatlaw17.BindFiles'. -/
def bindFilesCard : Claim7 := { stood := { row := bindFilesRow, standIns := [], harness := (true, "5fbe5d393d670de21c7d719403d1bf0689b6914837ac6c64b19dcbe67eb08fda"), looks := true }, kinds := [], alts := [], laidByText := true, laidKinds := [.data, .data, .data], laidTests := true, laidLooks := .later }
def BindFilesCardSaid : Prop := Claim7.holds Tryz.pinned (.plain (OpenSpec.ofChange bindFilesSpec)) bindFilesCard

/-- THE TIED CARD OF 'concordatlaw18.TypesChecks'. -/
def typesChecksCard : Claim7 := { stood := { row := typesChecksRow, standIns := [], harness := (true, "5fbe5d393d670de21c7d719403d1bf0689b6914837ac6c64b19dcbe67eb08fda"), looks := true }, kinds := [], alts := [], laidByText := true, laidKinds := [.data, .data, .data], laidTests := true, laidLooks := .later }
def TypesChecksCardSaid : Prop := Claim7.holds Tryz.pinned (.plain (OpenSpec.ofChange typesChecksSpec)) typesChecksCard

/-- THE TIED CARD OF 'concordatlaw18.TypesMay'. -/
def typesMayCard : Claim7 := { stood := { row := typesMayRow, standIns := [], harness := (true, "5fbe5d393d670de21c7d719403d1bf0689b6914837ac6c64b19dcbe67eb08fda"), looks := true }, kinds := [], alts := [], laidByText := true, laidKinds := [.data, .data, .data], laidTests := true, laidLooks := .later }
def TypesMayCardSaid : Prop := Claim7.holds Tryz.pinned (.plain (OpenSpec.ofChange typesMaySpec)) typesMayCard

/-- THE TIED CARD OF 'concordatlaw18.TypesChain'. -/
def typesChainCard : Claim7 := { stood := { row := typesChainRow, standIns := [], harness := (true, "5fbe5d393d670de21c7d719403d1bf0689b6914837ac6c64b19dcbe67eb08fda"), looks := true }, kinds := [], alts := [], laidByText := true, laidKinds := [.data, .data, .data], laidTests := true, laidLooks := .later }
def TypesChainCardSaid : Prop := Claim7.holds Tryz.pinned (.plain (OpenSpec.ofChange typesChainSpec)) typesChainCard

/-- THE TIED CARD OF 'concordatlaw18.TypesFiles'. -/
def typesFilesCard : Claim7 := { stood := { row := typesFilesRow, standIns := [], harness := (true, "5fbe5d393d670de21c7d719403d1bf0689b6914837ac6c64b19dcbe67eb08fda"), looks := true }, kinds := [], alts := [], laidByText := true, laidKinds := [.data, .data, .data], laidTests := true, laidLooks := .later }
def TypesFilesCardSaid : Prop := Claim7.holds Tryz.pinned (.plain (OpenSpec.ofChange typesFilesSpec)) typesFilesCard

/-- THE SECOND FORM's CARD OF 'concordatlaw17.BindUses'. -/
def bindUsesUptoCard : Claim7 := { stood := { row := bindUsesUptoRow, standIns := [], harness := (true, "5fbe5d393d670de21c7d719403d1bf0689b6914837ac6c64b19dcbe67eb08fda"), looks := true }, kinds := [], alts := [], laidByText := true, laidKinds := [.data, .data, .data], laidTests := true, laidLooks := .later }
def BindUsesUptoCardSaid : Prop := Claim7.holds Tryz.pinned (.plain (OpenSpec.upto bindUsesSpec)) bindUsesUptoCard

/-- THE SECOND FORM's CARD OF 'concordatlaw17.BindNames'. -/
def bindNamesUptoCard : Claim7 := { stood := { row := bindNamesUptoRow, standIns := [], harness := (true, "5fbe5d393d670de21c7d719403d1bf0689b6914837ac6c64b19dcbe67eb08fda"), looks := true }, kinds := [], alts := [], laidByText := true, laidKinds := [.data, .data, .data], laidTests := true, laidLooks := .later }
def BindNamesUptoCardSaid : Prop := Claim7.holds Tryz.pinned (.plain (OpenSpec.upto bindNamesSpec)) bindNamesUptoCard

/-- THE SECOND FORM's CARD OF 'concordatlaw17.BindLead'. -/
def bindLeadUptoCard : Claim7 := { stood := { row := bindLeadUptoRow, standIns := [], harness := (true, "5fbe5d393d670de21c7d719403d1bf0689b6914837ac6c64b19dcbe67eb08fda"), looks := true }, kinds := [], alts := [], laidByText := true, laidKinds := [.data, .data, .data], laidTests := true, laidLooks := .later }
def BindLeadUptoCardSaid : Prop := Claim7.holds Tryz.pinned (.plain (OpenSpec.upto bindLeadSpec)) bindLeadUptoCard

/-- THE SECOND FORM's CARD OF 'concordatlaw17.BindFiles'. -/
def bindFilesUptoCard : Claim7 := { stood := { row := bindFilesUptoRow, standIns := [], harness := (true, "5fbe5d393d670de21c7d719403d1bf0689b6914837ac6c64b19dcbe67eb08fda"), looks := true }, kinds := [], alts := [], laidByText := true, laidKinds := [.data, .data, .data], laidTests := true, laidLooks := .later }
def BindFilesUptoCardSaid : Prop := Claim7.holds Tryz.pinned (.plain (OpenSpec.upto bindFilesSpec)) bindFilesUptoCard

/-- THE SECOND FORM's CARD OF 'concordatlaw18.TypesChecks'. -/
def typesChecksUptoCard : Claim7 := { stood := { row := typesChecksUptoRow, standIns := [], harness := (true, "5fbe5d393d670de21c7d719403d1bf0689b6914837ac6c64b19dcbe67eb08fda"), looks := true }, kinds := [], alts := [], laidByText := true, laidKinds := [.data, .data, .data], laidTests := true, laidLooks := .later }
def TypesChecksUptoCardSaid : Prop := Claim7.holds Tryz.pinned (.plain (OpenSpec.upto typesChecksSpec)) typesChecksUptoCard

/-- THE SECOND FORM's CARD OF 'concordatlaw18.TypesMay'. -/
def typesMayUptoCard : Claim7 := { stood := { row := typesMayUptoRow, standIns := [], harness := (true, "5fbe5d393d670de21c7d719403d1bf0689b6914837ac6c64b19dcbe67eb08fda"), looks := true }, kinds := [], alts := [], laidByText := true, laidKinds := [.data, .data, .data], laidTests := true, laidLooks := .later }
def TypesMayUptoCardSaid : Prop := Claim7.holds Tryz.pinned (.plain (OpenSpec.upto typesMaySpec)) typesMayUptoCard

/-- THE SECOND FORM's CARD OF 'concordatlaw18.TypesChain'. -/
def typesChainUptoCard : Claim7 := { stood := { row := typesChainUptoRow, standIns := [], harness := (true, "5fbe5d393d670de21c7d719403d1bf0689b6914837ac6c64b19dcbe67eb08fda"), looks := true }, kinds := [], alts := [], laidByText := true, laidKinds := [.data, .data, .data], laidTests := true, laidLooks := .later }
def TypesChainUptoCardSaid : Prop := Claim7.holds Tryz.pinned (.plain (OpenSpec.upto typesChainSpec)) typesChainUptoCard

/-- THE SECOND FORM's CARD OF 'concordatlaw18.TypesFiles'. -/
def typesFilesUptoCard : Claim7 := { stood := { row := typesFilesUptoRow, standIns := [], harness := (true, "5fbe5d393d670de21c7d719403d1bf0689b6914837ac6c64b19dcbe67eb08fda"), looks := true }, kinds := [], alts := [], laidByText := true, laidKinds := [.data, .data, .data], laidTests := true, laidLooks := .later }
def TypesFilesUptoCardSaid : Prop := Claim7.holds Tryz.pinned (.plain (OpenSpec.upto typesFilesSpec)) typesFilesUptoCard
end Rows
end Go.Proofs.YtcndghapmoaidaaGreatDoor
