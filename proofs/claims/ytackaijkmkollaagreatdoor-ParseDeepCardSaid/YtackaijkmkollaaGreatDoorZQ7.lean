/- ParseDeep. -/
import Derived.Test.YtackaijkmkollaaGreatDoorZQ3
import Derived.Test.YtackaijkmkollaaGreatDoorZQ4
import Derived.Test.YtackaijkmkollaaGreatDoorZQ5
import Derived.Test.YtackaijkmkollaaGreatDoorZQ6
set_option linter.unusedSimpArgs false
set_option linter.unusedVariables false
set_option linter.unusedSectionVars false
set_option maxRecDepth 100000
namespace Go.Proofs.YtackaijkmkollaaGreatDoor
open Go Go.Cn
theorem law_ParseDeep (x y:Int):gi x y=some true:=by
 rw[deep_eq]
 obtain⟨k,hk,h1⟩:=and_k x 127 (by omega) (by decide)
 obtain⟨h,hh,h2⟩:=and_k y 3 (by omega) (by decide)
 have h1:bits .and .i64 x 127=(k:Int):=h1
 have h2:bits .and .i64 y 3=(h:Int):=h2
 rw[h1,h2]
 by_cases c0:k<2
 ·exact au deep_c0 (by omega) (by omega) (by omega)
 by_cases c2:k<4
 ·exact au deep_c2 (by omega) (by omega) (by omega)
 by_cases c4:k<6
 ·exact au deep_c4 (by omega) (by omega) (by omega)
 by_cases c6:k<8
 ·exact au deep_c6 (by omega) (by omega) (by omega)
 by_cases c8:k<10
 ·exact au deep_c8 (by omega) (by omega) (by omega)
 by_cases c10:k<12
 ·exact au deep_c10 (by omega) (by omega) (by omega)
 by_cases c12:k<14
 ·exact au deep_c12 (by omega) (by omega) (by omega)
 by_cases c14:k<16
 ·exact au deep_c14 (by omega) (by omega) (by omega)
 by_cases c16:k<18
 ·exact au deep_c16 (by omega) (by omega) (by omega)
 by_cases c18:k<20
 ·exact au deep_c18 (by omega) (by omega) (by omega)
 by_cases c20:k<22
 ·exact au deep_c20 (by omega) (by omega) (by omega)
 by_cases c22:k<24
 ·exact au deep_c22 (by omega) (by omega) (by omega)
 by_cases c24:k<26
 ·exact au deep_c24 (by omega) (by omega) (by omega)
 by_cases c26:k<28
 ·exact au deep_c26 (by omega) (by omega) (by omega)
 by_cases c28:k<30
 ·exact au deep_c28 (by omega) (by omega) (by omega)
 by_cases c30:k<32
 ·exact au deep_c30 (by omega) (by omega) (by omega)
 by_cases c32:k<34
 ·exact au deep_c32 (by omega) (by omega) (by omega)
 by_cases c34:k<36
 ·exact au deep_c34 (by omega) (by omega) (by omega)
 by_cases c36:k<38
 ·exact au deep_c36 (by omega) (by omega) (by omega)
 by_cases c38:k<40
 ·exact au deep_c38 (by omega) (by omega) (by omega)
 by_cases c40:k<42
 ·exact au deep_c40 (by omega) (by omega) (by omega)
 by_cases c42:k<44
 ·exact au deep_c42 (by omega) (by omega) (by omega)
 by_cases c44:k<46
 ·exact au deep_c44 (by omega) (by omega) (by omega)
 by_cases c46:k<48
 ·exact au deep_c46 (by omega) (by omega) (by omega)
 by_cases c48:k<50
 ·exact au deep_c48 (by omega) (by omega) (by omega)
 by_cases c50:k<52
 ·exact au deep_c50 (by omega) (by omega) (by omega)
 by_cases c52:k<54
 ·exact au deep_c52 (by omega) (by omega) (by omega)
 by_cases c54:k<56
 ·exact au deep_c54 (by omega) (by omega) (by omega)
 by_cases c56:k<58
 ·exact au deep_c56 (by omega) (by omega) (by omega)
 by_cases c58:k<60
 ·exact au deep_c58 (by omega) (by omega) (by omega)
 by_cases c60:k<62
 ·exact au deep_c60 (by omega) (by omega) (by omega)
 by_cases c62:k<64
 ·exact au deep_c62 (by omega) (by omega) (by omega)
 by_cases c64:k<66
 ·exact au deep_c64 (by omega) (by omega) (by omega)
 by_cases c66:k<68
 ·exact au deep_c66 (by omega) (by omega) (by omega)
 by_cases c68:k<70
 ·exact au deep_c68 (by omega) (by omega) (by omega)
 by_cases c70:k<72
 ·exact au deep_c70 (by omega) (by omega) (by omega)
 by_cases c72:k<74
 ·exact au deep_c72 (by omega) (by omega) (by omega)
 by_cases c74:k<76
 ·exact au deep_c74 (by omega) (by omega) (by omega)
 by_cases c76:k<78
 ·exact au deep_c76 (by omega) (by omega) (by omega)
 by_cases c78:k<80
 ·exact au deep_c78 (by omega) (by omega) (by omega)
 by_cases c80:k<82
 ·exact au deep_c80 (by omega) (by omega) (by omega)
 by_cases c82:k<84
 ·exact au deep_c82 (by omega) (by omega) (by omega)
 by_cases c84:k<86
 ·exact au deep_c84 (by omega) (by omega) (by omega)
 by_cases c86:k<88
 ·exact au deep_c86 (by omega) (by omega) (by omega)
 by_cases c88:k<90
 ·exact au deep_c88 (by omega) (by omega) (by omega)
 by_cases c90:k<92
 ·exact au deep_c90 (by omega) (by omega) (by omega)
 by_cases c92:k<94
 ·exact au deep_c92 (by omega) (by omega) (by omega)
 by_cases c94:k<96
 ·exact au deep_c94 (by omega) (by omega) (by omega)
 by_cases c96:k<98
 ·exact au deep_c96 (by omega) (by omega) (by omega)
 by_cases c98:k<100
 ·exact au deep_c98 (by omega) (by omega) (by omega)
 by_cases c100:k<102
 ·exact au deep_c100 (by omega) (by omega) (by omega)
 by_cases c102:k<104
 ·exact au deep_c102 (by omega) (by omega) (by omega)
 by_cases c104:k<106
 ·exact au deep_c104 (by omega) (by omega) (by omega)
 by_cases c106:k<108
 ·exact au deep_c106 (by omega) (by omega) (by omega)
 by_cases c108:k<110
 ·exact au deep_c108 (by omega) (by omega) (by omega)
 by_cases c110:k<112
 ·exact au deep_c110 (by omega) (by omega) (by omega)
 by_cases c112:k<114
 ·exact au deep_c112 (by omega) (by omega) (by omega)
 by_cases c114:k<116
 ·exact au deep_c114 (by omega) (by omega) (by omega)
 by_cases c116:k<118
 ·exact au deep_c116 (by omega) (by omega) (by omega)
 by_cases c118:k<120
 ·exact au deep_c118 (by omega) (by omega) (by omega)
 by_cases c120:k<122
 ·exact au deep_c120 (by omega) (by omega) (by omega)
 by_cases c122:k<124
 ·exact au deep_c122 (by omega) (by omega) (by omega)
 by_cases c124:k<126
 ·exact au deep_c124 (by omega) (by omega) (by omega)
 by_cases c126:k<128
 ·exact au deep_c126 (by omega) (by omega) (by omega)
 omega
end Go.Proofs.YtackaijkmkollaaGreatDoor
