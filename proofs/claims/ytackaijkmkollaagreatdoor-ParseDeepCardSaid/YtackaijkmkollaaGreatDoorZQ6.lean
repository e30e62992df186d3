/- ParseDeep: some of the texts. -/
import Derived.Test.YtackaijkmkollaaGreatDoorZQ2
set_option linter.unusedSimpArgs false
set_option linter.unusedVariables false
set_option linter.unusedSectionVars false
set_option maxRecDepth 100000
namespace Go.Proofs.YtackaijkmkollaaGreatDoor
open Go Go.Cn
theorem deep_c96 :cw 96 2=true:=by decide+kernel
theorem deep_c98 :cw 98 2=true:=by decide+kernel
theorem deep_c100 :cw 100 2=true:=by decide+kernel
theorem deep_c102 :cw 102 2=true:=by decide+kernel
theorem deep_c104 :cw 104 2=true:=by decide+kernel
theorem deep_c106 :cw 106 2=true:=by decide+kernel
theorem deep_c108 :cw 108 2=true:=by decide+kernel
theorem deep_c110 :cw 110 2=true:=by decide+kernel
theorem deep_c112 :cw 112 2=true:=by decide+kernel
theorem deep_c114 :cw 114 2=true:=by decide+kernel
theorem deep_c116 :cw 116 2=true:=by decide+kernel
theorem deep_c118 :cw 118 2=true:=by decide+kernel
theorem deep_c120 :cw 120 2=true:=by decide+kernel
theorem deep_c122 :cw 122 2=true:=by decide+kernel
theorem deep_c124 :cw 124 2=true:=by decide+kernel
theorem deep_c126 :cw 126 2=true:=by decide+kernel
end Go.Proofs.YtackaijkmkollaaGreatDoor
