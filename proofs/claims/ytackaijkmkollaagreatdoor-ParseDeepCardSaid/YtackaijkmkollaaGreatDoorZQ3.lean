/- ParseDeep: some of the texts. -/
import Derived.Test.YtackaijkmkollaaGreatDoorZQ2
set_option linter.unusedSimpArgs false
set_option linter.unusedVariables false
set_option linter.unusedSectionVars false
set_option maxRecDepth 100000
namespace Go.Proofs.YtackaijkmkollaaGreatDoor
open Go Go.Cn
theorem deep_c0 :cw 0 2=true:=by decide+kernel
theorem deep_c2 :cw 2 2=true:=by decide+kernel
theorem deep_c4 :cw 4 2=true:=by decide+kernel
theorem deep_c6 :cw 6 2=true:=by decide+kernel
theorem deep_c8 :cw 8 2=true:=by decide+kernel
theorem deep_c10 :cw 10 2=true:=by decide+kernel
theorem deep_c12 :cw 12 2=true:=by decide+kernel
theorem deep_c14 :cw 14 2=true:=by decide+kernel
theorem deep_c16 :cw 16 2=true:=by decide+kernel
theorem deep_c18 :cw 18 2=true:=by decide+kernel
theorem deep_c20 :cw 20 2=true:=by decide+kernel
theorem deep_c22 :cw 22 2=true:=by decide+kernel
theorem deep_c24 :cw 24 2=true:=by decide+kernel
theorem deep_c26 :cw 26 2=true:=by decide+kernel
theorem deep_c28 :cw 28 2=true:=by decide+kernel
theorem deep_c30 :cw 30 2=true:=by decide+kernel
end Go.Proofs.YtackaijkmkollaaGreatDoor
