/- The code comes to what these functions say (printed by wip/gen/gen.py). -/
import Derived.Test.YtcndghapmoaidaaGreatDoorZX
import Derived.Test.YtcndghapmoaidaaGreatDoorZP7
import Derived.Test.YtcndghapmoaidaaGreatDoorZT
set_option linter.unusedSimpArgs false
set_option linter.unusedVariables false
set_option linter.unusedSectionVars false
set_option linter.unusedSectionVars false
set_option maxRecDepth 100000
set_option maxHeartbeats 4000000
namespace Go.Proofs.YtcndghapmoaidaaGreatDoor
open Go Go.Cn
attribute [local irreducible] ec aq
end Go.Proofs.YtcndghapmoaidaaGreatDoor
