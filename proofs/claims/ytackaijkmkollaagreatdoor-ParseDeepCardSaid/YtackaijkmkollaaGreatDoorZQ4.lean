/- ParseDeep: some of the texts. -/
import Derived.Test.YtackaijkmkollaaGreatDoorZQ2
set_option linter.unusedSimpArgs false
set_option linter.unusedVariables false
set_option linter.unusedSectionVars false
set_option maxRecDepth 100000
namespace Go.Proofs.YtackaijkmkollaaGreatDoor
open Go Go.Cn
theorem deep_c32 :cw 32 2=true:=by decide+kernel
theorem deep_c34 :cw 34 2=true:=by decide+kernel
theorem deep_c36 :cw 36 2=true:=by decide+kernel
theorem deep_c38 :cw 38 2=true:=by decide+kernel
theorem deep_c40 :cw 40 2=true:=by decide+kernel
theorem deep_c42 :cw 42 2=true:=by decide+kernel
theorem deep_c44 :cw 44 2=true:=by decide+kernel
theorem deep_c46 :cw 46 2=true:=by decide+kernel
theorem deep_c48 :cw 48 2=true:=by decide+kernel
theorem deep_c50 :cw 50 2=true:=by decide+kernel
theorem deep_c52 :cw 52 2=true:=by decide+kernel
theorem deep_c54 :cw 54 2=true:=by decide+kernel
theorem deep_c56 :cw 56 2=true:=by decide+kernel
theorem deep_c58 :cw 58 2=true:=by decide+kernel
theorem deep_c60 :cw 60 2=true:=by decide+kernel
theorem deep_c62 :cw 62 2=true:=by decide+kernel
end Go.Proofs.YtackaijkmkollaaGreatDoor
