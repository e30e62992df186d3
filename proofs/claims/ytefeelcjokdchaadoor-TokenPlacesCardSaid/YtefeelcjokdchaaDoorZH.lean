/- What the program's tables say (printed by wip/gen/gen.py). -/
import Derived.Test.YtefeelcjokdchaaDoorProg
import Derived.Test.YtefeelcjokdchaaDoorZK
import Derived.Test.YtefeelcjokdchaaDoorZT
set_option linter.unusedSimpArgs false
set_option linter.unusedVariables false
/- What the program's tables say (printed by wip/gen/gen.py). -/
set_option linter.unusedSectionVars false
set_option maxRecDepth 100000
set_option maxHeartbeats 4000000
namespace Go.Proofs.YtefeelcjokdchaaDoor
open Go Go.Cn
def cellsKept : List Value := kept.flatMap fun l => [.string ⟨l.toArray⟩]
def cellsClashes : List Value := clashes.flatMap fun p => [.string ⟨p.1.toArray⟩, .string ⟨p.2.toArray⟩]
/-- Which of the variables are known at all. -/
class Known where
  clashes : Prop
class HasClashes [Known] : Prop where
  it : Known.clashes
/-- What is known of the program's variables, for good. -/
instance theGlob [Known] : Glob where
  ok s := GCells s 0 cellsKept ∧ (Known.clashes → GCells s 1 cellsClashes) ∧ (∃ m, GCells s 2 [.int .i64 m]) ∧ ∃ t v, GCells s 4 [.iface t v]
  mono _ _ h k := ⟨k.1.mono h, fun h' => (k.2.1 h').mono h, k.2.2.1.imp fun _ k => k.mono h, k.2.2.2.imp fun _ k => k.imp fun _ k => k.mono h⟩

variable [Known]
theorem hmx : Tryd.prog.follows .mixedOrders = true := by kernel_rfl
def fApiToken : List (Go.Cn.Fd ApiToken) := [⟨_, Rp.int .i64, ApiToken.Kind⟩, ⟨_, Rp.str, ApiToken.Text⟩, ⟨_, Rp.int .i64, ApiToken.At⟩, ⟨_, Rp.str, ApiToken.Lead⟩]
abbrev rApiToken : Rp ApiToken := Rp.strct fApiToken
def fTokenClash : List (Go.Cn.Fd TokenClash) := [⟨_, Rp.str, TokenClash.mark⟩, ⟨_, Rp.str, TokenClash.behind⟩]
abbrev rTokenClash : Rp TokenClash := Rp.strct fTokenClash
def spec61 (f : (Int → Option Bool)) : List Pr → Pr → Prop := fun args res => ∃ (a0 : Int) (r : Bool), args = [Pr.u8 a0] ∧ res = Pr.bool r ∧ f a0 = some r
theorem ty9 : TyOK Tryd.prog 9 1 false := ⟨Tryd.sizeOf9, Tryd.isAgg9⟩
theorem el35 : ElOK Tryd.prog 35 9 1 16 := ⟨Tryd.underlying35, ⟨Tryd.t9, _, rfl, rfl, rfl, rfl, rfl⟩, by decide⟩
theorem en78 : Enters Tryd.prog 78 := ⟨_, Tryd.func78, by decide, rfl⟩
theorem en62 : Enters Tryd.prog 62 := ⟨_, Tryd.func62, by decide, rfl⟩
theorem en63 : Enters Tryd.prog 63 := ⟨_, Tryd.func63, by decide, rfl⟩
theorem en51 : Enters Tryd.prog 51 := ⟨_, Tryd.func51, by decide, rfl⟩
theorem en64 : Enters Tryd.prog 64 := ⟨_, Tryd.func64, by decide, rfl⟩
theorem en65 : Enters Tryd.prog 65 := ⟨_, Tryd.func65, by decide, rfl⟩
theorem ty3 : TyOK Tryd.prog 3 1 false := ⟨Tryd.sizeOf3, Tryd.isAgg3⟩
theorem st30 : StOK Tryd.prog 30 fApiToken (ApiToken.mk 0 [] 0 []) := stOK Tryd.underlying30 Tryd.zeroValue30 (fun _ => ⟨_, _, rfl, rfl, ⟨_, _, rfl, rfl, ⟨_, _, rfl, rfl, ⟨_, _, rfl, rfl, rfl⟩⟩⟩⟩) ⟨rfl, Tryd.sizeOf3, rfl, Tryd.sizeOf9, rfl, Tryd.sizeOf3, rfl, Tryd.sizeOf9, trivial⟩
theorem el23 : ElOK Tryd.prog 23 30 4 48 := ⟨Tryd.underlying23, ⟨Tryd.t30, _, rfl, rfl, rfl, rfl, rfl⟩, by decide⟩
theorem en50 : Enters Tryd.prog 50 := ⟨_, Tryd.func50, by decide, rfl⟩
theorem ty30 : TyOK Tryd.prog 30 4 true := ⟨Tryd.sizeOf30, Tryd.isAgg30⟩
theorem eqApiToken : EqOK Tryd.prog 30 rApiToken 2 := eqOK_strct Tryd.underlying30 (by kernel_rfl) ⟨by decide, rfl, (eqOK_int Tryd.underlying3), ty3, by decide, rfl, (eqOK_str Tryd.underlying9), ty9, by decide, rfl, (eqOK_int Tryd.underlying3), ty3, by decide, rfl, (eqOK_str Tryd.underlying9), ty9, trivial⟩ (fun x y h => by cases x; cases y; simpa [fApiToken] using h)
theorem eqgApiToken : Tryd.prog.eqGuardType Tryd.prog.depth 30 = false := by kernel_rfl
theorem fld30_3 : FldOK Tryd.prog 30 3 3 1 false := ⟨⟨_, _, Tryd.underlying30, rfl, rfl, ty9⟩, by decide⟩
theorem subApiToken_Lead : Sub rApiToken 3 Rp.str ApiToken.Lead := Sub.strct fApiToken 3 _ rfl
theorem fld30_1 : FldOK Tryd.prog 30 1 1 1 false := ⟨⟨_, _, Tryd.underlying30, rfl, rfl, ty9⟩, by decide⟩
theorem subApiToken_Text : Sub rApiToken 1 Rp.str ApiToken.Text := Sub.strct fApiToken 1 _ rfl
theorem fld30_2 : FldOK Tryd.prog 30 2 2 1 false := ⟨⟨_, _, Tryd.underlying30, rfl, rfl, ty3⟩, by decide⟩
theorem subApiToken_At : Sub rApiToken 2 (Rp.int .i64) ApiToken.At := Sub.strct fApiToken 2 _ rfl
theorem fld30_0 : FldOK Tryd.prog 30 0 0 1 false := ⟨⟨_, _, Tryd.underlying30, rfl, rfl, ty3⟩, by decide⟩
theorem subApiToken_Kind : Sub rApiToken 0 (Rp.int .i64) ApiToken.Kind := Sub.strct fApiToken 0 _ rfl
theorem fld73_0 : FldOK Tryd.prog 73 0 0 1 false := ⟨⟨_, _, Tryd.underlying73, rfl, rfl, ty9⟩, by decide⟩
theorem subTokenClash_mark : Sub rTokenClash 0 Rp.str TokenClash.mark := Sub.strct fTokenClash 0 _ rfl
theorem fld73_1 : FldOK Tryd.prog 73 1 1 1 false := ⟨⟨_, _, Tryd.underlying73, rfl, rfl, ty9⟩, by decide⟩
theorem subTokenClash_behind : Sub rTokenClash 1 Rp.str TokenClash.behind := Sub.strct fTokenClash 1 _ rfl
theorem ty64 : TyOK Tryd.prog 64 1 false := ⟨Tryd.sizeOf64, Tryd.isAgg64⟩
theorem fld66_1 : FldOK Tryd.prog 66 1 1 1 false := ⟨⟨_, _, Tryd.underlying66, rfl, rfl, ty64⟩, by decide⟩
theorem el64 : ElOK Tryd.prog 64 5 1 1 := ⟨Tryd.underlying64, ⟨Tryd.t5, _, rfl, rfl, rfl, rfl, rfl⟩, by decide⟩
theorem ty63 : TyOK Tryd.prog 63 1 false := ⟨Tryd.sizeOf63, Tryd.isAgg63⟩
theorem fld66_0 : FldOK Tryd.prog 66 0 0 1 false := ⟨⟨_, _, Tryd.underlying66, rfl, rfl, ty63⟩, by decide⟩
end Go.Proofs.YtefeelcjokdchaaDoor
