/- ParseDeep: some of the texts. -/
import Derived.Test.YtackaijkmkollaaGreatDoorZQ2
set_option linter.unusedSimpArgs false
set_option linter.unusedVariables false
set_option linter.unusedSectionVars false
set_option maxRecDepth 100000
namespace Go.Proofs.YtackaijkmkollaaGreatDoor
open Go Go.Cn
theorem deep_c64 :cw 64 2=true:=by decide+kernel
theorem deep_c66 :cw 66 2=true:=by decide+kernel
theorem deep_c68 :cw 68 2=true:=by decide+kernel
theorem deep_c70 :cw 70 2=true:=by decide+kernel
theorem deep_c72 :cw 72 2=true:=by decide+kernel
theorem deep_c74 :cw 74 2=true:=by decide+kernel
theorem deep_c76 :cw 76 2=true:=by decide+kernel
theorem deep_c78 :cw 78 2=true:=by decide+kernel
theorem deep_c80 :cw 80 2=true:=by decide+kernel
theorem deep_c82 :cw 82 2=true:=by decide+kernel
theorem deep_c84 :cw 84 2=true:=by decide+kernel
theorem deep_c86 :cw 86 2=true:=by decide+kernel
theorem deep_c88 :cw 88 2=true:=by decide+kernel
theorem deep_c90 :cw 90 2=true:=by decide+kernel
theorem deep_c92 :cw 92 2=true:=by decide+kernel
theorem deep_c94 :cw 94 2=true:=by decide+kernel
end Go.Proofs.YtackaijkmkollaaGreatDoor
