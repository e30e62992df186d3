/- What the program's tables say (printed by wip/gen/gen.py). -/
import Derived.Test.YtefeelcjokdchaaDoorProg
import Derived.Test.YtefeelcjokdchaaDoorZJ
import Derived.Test.YtefeelcjokdchaaDoorZT
set_option linter.unusedSimpArgs false
set_option linter.unusedVariables false
set_option linter.unusedSectionVars false
/- What the program's tables say (printed by wip/gen/gen.py). -/
set_option linter.unusedSectionVars false
set_option maxRecDepth 100000
set_option maxHeartbeats 4000000
namespace Go.Proofs.YtefeelcjokdchaaDoor
open Go Go.Cn
def cellsKept : List Value := kept.flatMap fun l => [.string ⟨l.toArray⟩]
def cellsClashes : List Value := clashes.flatMap fun p => [.string ⟨p.1.toArray⟩, .string ⟨p.2.toArray⟩]
/-- Which of the variables are known at all. -/
class Known where
  clashes : Prop
class HasClashes [Known] : Prop where
  it : Known.clashes
/-- What is known of the program's variables, for good. -/
instance theGlob [Known] : Glob where
  ok s := GCells s 0 cellsKept ∧ (Known.clashes → GCells s 1 cellsClashes) ∧ (∃ m, GCells s 2 [.int .i64 m]) ∧ ∃ t v, GCells s 4 [.iface t v]
  mono _ _ h k := ⟨k.1.mono h, fun h' => (k.2.1 h').mono h, k.2.2.1.imp fun _ k => k.mono h, k.2.2.2.imp fun _ k => k.imp fun _ k => k.mono h⟩

variable [Known]
theorem hmx : Tryd.prog.follows .mixedOrders = true := by kernel_rfl
def fApiToken : List (Go.Cn.Fd ApiToken) := [⟨_, Rp.int .i64, ApiToken.Kind⟩, ⟨_, Rp.str, ApiToken.Text⟩, ⟨_, Rp.int .i64, ApiToken.At⟩, ⟨_, Rp.str, ApiToken.Lead⟩]
abbrev rApiToken : Rp ApiToken := Rp.strct fApiToken
def fDiff3Ends : List (Go.Cn.Fd Diff3Ends) := [⟨_, Rp.int .i64, Diff3Ends.o⟩, ⟨_, Rp.int .i64, Diff3Ends.a⟩, ⟨_, Rp.int .i64, Diff3Ends.b⟩]
abbrev rDiff3Ends : Rp Diff3Ends := Rp.strct fDiff3Ends
def fApiSpan : List (Go.Cn.Fd ApiSpan) := [⟨_, Rp.int .i64, ApiSpan.From⟩, ⟨_, Rp.int .i64, ApiSpan.To⟩]
abbrev rApiSpan : Rp ApiSpan := Rp.strct fApiSpan
def fApiChunk : List (Go.Cn.Fd ApiChunk) := [⟨_, Rp.int .i64, ApiChunk.Kind⟩, ⟨_, rApiSpan, ApiChunk.O⟩, ⟨_, rApiSpan, ApiChunk.A⟩, ⟨_, rApiSpan, ApiChunk.B⟩]
abbrev rApiChunk : Rp ApiChunk := Rp.strct fApiChunk
def fApiPart : List (Go.Cn.Fd ApiPart) := [⟨_, Rp.bool, ApiPart.Clash⟩, ⟨_, Rp.str, ApiPart.O⟩, ⟨_, Rp.str, ApiPart.A⟩, ⟨_, Rp.str, ApiPart.B⟩]
abbrev rApiPart : Rp ApiPart := Rp.strct fApiPart
def spec61 (f : (Int → Option Bool)) : List Pr → Pr → Prop := fun args res => ∃ (a0 : Int) (r : Bool), args = [Pr.u8 a0] ∧ res = Pr.bool r ∧ f a0 = some r
def spec83 (f : (Unit → Option ((List (List UInt8)) × Bool))) : List Pr → Pr → Prop := fun args res => ∃  (r : (List (List UInt8)) × Bool), args = [] ∧ res = Pr.tup [Pr.lst Rp.str r.1, Pr.bool r.2] ∧ f () = some r
theorem ty9 : TyOK Tryd.prog 9 1 false := ⟨Tryd.sizeOf9, Tryd.isAgg9⟩
theorem el35 : ElOK Tryd.prog 35 9 1 16 := ⟨Tryd.underlying35, ⟨Tryd.t9, _, rfl, rfl, rfl, rfl, rfl⟩, by decide⟩
theorem en78 : Enters Tryd.prog 78 := ⟨_, Tryd.func78, by decide, rfl⟩
theorem en62 : Enters Tryd.prog 62 := ⟨_, Tryd.func62, by decide, rfl⟩
theorem en63 : Enters Tryd.prog 63 := ⟨_, Tryd.func63, by decide, rfl⟩
theorem en51 : Enters Tryd.prog 51 := ⟨_, Tryd.func51, by decide, rfl⟩
theorem en64 : Enters Tryd.prog 64 := ⟨_, Tryd.func64, by decide, rfl⟩
theorem en65 : Enters Tryd.prog 65 := ⟨_, Tryd.func65, by decide, rfl⟩
theorem ty3 : TyOK Tryd.prog 3 1 false := ⟨Tryd.sizeOf3, Tryd.isAgg3⟩
theorem st30 : StOK Tryd.prog 30 fApiToken (ApiToken.mk 0 [] 0 []) := stOK Tryd.underlying30 Tryd.zeroValue30 (fun _ => ⟨_, _, rfl, rfl, ⟨_, _, rfl, rfl, ⟨_, _, rfl, rfl, ⟨_, _, rfl, rfl, rfl⟩⟩⟩⟩) ⟨rfl, Tryd.sizeOf3, rfl, Tryd.sizeOf9, rfl, Tryd.sizeOf3, rfl, Tryd.sizeOf9, trivial⟩
theorem el23 : ElOK Tryd.prog 23 30 4 48 := ⟨Tryd.underlying23, ⟨Tryd.t30, _, rfl, rfl, rfl, rfl, rfl⟩, by decide⟩
theorem en50 : Enters Tryd.prog 50 := ⟨_, Tryd.func50, by decide, rfl⟩
theorem ty30 : TyOK Tryd.prog 30 4 true := ⟨Tryd.sizeOf30, Tryd.isAgg30⟩
theorem eqApiToken : EqOK Tryd.prog 30 rApiToken 2 := eqOK_strct Tryd.underlying30 (by kernel_rfl) ⟨by decide, rfl, (eqOK_int Tryd.underlying3), ty3, by decide, rfl, (eqOK_str Tryd.underlying9), ty9, by decide, rfl, (eqOK_int Tryd.underlying3), ty3, by decide, rfl, (eqOK_str Tryd.underlying9), ty9, trivial⟩ (fun x y h => by cases x; cases y; simpa [fApiToken] using h)
theorem eqgApiToken : Tryd.prog.eqGuardType Tryd.prog.depth 30 = false := by kernel_rfl
theorem fld30_3 : FldOK Tryd.prog 30 3 3 1 false := ⟨⟨_, _, Tryd.underlying30, rfl, rfl, ty9⟩, by decide⟩
theorem subApiToken_Lead : Sub rApiToken 3 Rp.str ApiToken.Lead := Sub.strct fApiToken 3 _ rfl
theorem fld30_1 : FldOK Tryd.prog 30 1 1 1 false := ⟨⟨_, _, Tryd.underlying30, rfl, rfl, ty9⟩, by decide⟩
theorem subApiToken_Text : Sub rApiToken 1 Rp.str ApiToken.Text := Sub.strct fApiToken 1 _ rfl
theorem ty35 : TyOK Tryd.prog 35 1 false := ⟨Tryd.sizeOf35, Tryd.isAgg35⟩
theorem el121 : ElOK Tryd.prog 121 3 1 8 := ⟨Tryd.underlying121, ⟨Tryd.t3, _, rfl, rfl, rfl, rfl, rfl⟩, by decide⟩
theorem el118 : ElOK Tryd.prog 118 121 1 24 := ⟨Tryd.underlying118, ⟨Tryd.t121, _, rfl, rfl, rfl, rfl, rfl⟩, by decide⟩
theorem en116 : Enters Tryd.prog 116 := ⟨_, Tryd.func116, by decide, rfl⟩
theorem ty156 : TyOK Tryd.prog 156 1 false := ⟨Tryd.sizeOf156, Tryd.isAgg156⟩
theorem ty21 : TyOK Tryd.prog 21 1 false := ⟨Tryd.sizeOf21, Tryd.isAgg21⟩
theorem fld139_0 : FldOK Tryd.prog 139 0 0 1 false := ⟨⟨_, _, Tryd.underlying139, rfl, rfl, ty3⟩, by decide⟩
theorem subDiff3Ends_o : Sub rDiff3Ends 0 (Rp.int .i64) Diff3Ends.o := Sub.strct fDiff3Ends 0 _ rfl
theorem ty121 : TyOK Tryd.prog 121 1 false := ⟨Tryd.sizeOf121, Tryd.isAgg121⟩
theorem fld139_1 : FldOK Tryd.prog 139 1 1 1 false := ⟨⟨_, _, Tryd.underlying139, rfl, rfl, ty3⟩, by decide⟩
theorem subDiff3Ends_a : Sub rDiff3Ends 1 (Rp.int .i64) Diff3Ends.a := Sub.strct fDiff3Ends 1 _ rfl
theorem fld139_2 : FldOK Tryd.prog 139 2 2 1 false := ⟨⟨_, _, Tryd.underlying139, rfl, rfl, ty3⟩, by decide⟩
theorem subDiff3Ends_b : Sub rDiff3Ends 2 (Rp.int .i64) Diff3Ends.b := Sub.strct fDiff3Ends 2 _ rfl
theorem st139 : StOK Tryd.prog 139 fDiff3Ends (Diff3Ends.mk 0 0 0) := stOK Tryd.underlying139 Tryd.zeroValue139 (fun _ => ⟨_, _, rfl, rfl, ⟨_, _, rfl, rfl, ⟨_, _, rfl, rfl, rfl⟩⟩⟩) ⟨rfl, Tryd.sizeOf3, rfl, Tryd.sizeOf3, rfl, Tryd.sizeOf3, trivial⟩
theorem ty139 : TyOK Tryd.prog 139 3 true := ⟨Tryd.sizeOf139, Tryd.isAgg139⟩
theorem eqDiff3Ends : EqOK Tryd.prog 139 rDiff3Ends 2 := eqOK_strct Tryd.underlying139 (by kernel_rfl) ⟨by decide, rfl, (eqOK_int Tryd.underlying3), ty3, by decide, rfl, (eqOK_int Tryd.underlying3), ty3, by decide, rfl, (eqOK_int Tryd.underlying3), ty3, trivial⟩ (fun x y h => by cases x; cases y; simpa [fDiff3Ends] using h)
theorem eqgDiff3Ends : Tryd.prog.eqGuardType Tryd.prog.depth 139 = false := by kernel_rfl
theorem st102 : StOK Tryd.prog 102 fApiSpan (ApiSpan.mk 0 0) := stOK Tryd.underlying102 Tryd.zeroValue102 (fun _ => ⟨_, _, rfl, rfl, ⟨_, _, rfl, rfl, rfl⟩⟩) ⟨rfl, Tryd.sizeOf3, rfl, Tryd.sizeOf3, trivial⟩
theorem st104 : StOK Tryd.prog 104 fApiChunk (ApiChunk.mk 0 (ApiSpan.mk 0 0) (ApiSpan.mk 0 0) (ApiSpan.mk 0 0)) := stOK Tryd.underlying104 Tryd.zeroValue104 (fun _ => ⟨_, _, rfl, rfl, ⟨_, _, rfl, ⟨_, _, rfl, rfl, ⟨_, _, rfl, rfl, rfl⟩⟩, ⟨_, _, rfl, ⟨_, _, rfl, rfl, ⟨_, _, rfl, rfl, rfl⟩⟩, ⟨_, _, rfl, ⟨_, _, rfl, rfl, ⟨_, _, rfl, rfl, rfl⟩⟩, rfl⟩⟩⟩⟩) ⟨rfl, Tryd.sizeOf3, rfl, Tryd.sizeOf102, rfl, Tryd.sizeOf102, rfl, Tryd.sizeOf102, trivial⟩
theorem el99 : ElOK Tryd.prog 99 104 7 56 := ⟨Tryd.underlying99, ⟨Tryd.t104, _, rfl, rfl, rfl, rfl, rfl⟩, by decide⟩
theorem el133 : ElOK Tryd.prog 133 35 1 24 := ⟨Tryd.underlying133, ⟨Tryd.t35, _, rfl, rfl, rfl, rfl, rfl⟩, by decide⟩
theorem ty46 : TyOK Tryd.prog 46 4 true := ⟨Tryd.sizeOf46, Tryd.isAgg46⟩
theorem fld46_1 : FldOK Tryd.prog 46 1 1 1 false := ⟨⟨_, _, Tryd.underlying46, rfl, rfl, ty9⟩, by decide⟩
theorem subApiPart_O : Sub rApiPart 1 Rp.str ApiPart.O := Sub.strct fApiPart 1 _ rfl
theorem fld46_2 : FldOK Tryd.prog 46 2 2 1 false := ⟨⟨_, _, Tryd.underlying46, rfl, rfl, ty9⟩, by decide⟩
theorem subApiPart_A : Sub rApiPart 2 Rp.str ApiPart.A := Sub.strct fApiPart 2 _ rfl
theorem fld46_3 : FldOK Tryd.prog 46 3 3 1 false := ⟨⟨_, _, Tryd.underlying46, rfl, rfl, ty9⟩, by decide⟩
theorem subApiPart_B : Sub rApiPart 3 Rp.str ApiPart.B := Sub.strct fApiPart 3 _ rfl
theorem ty4 : TyOK Tryd.prog 4 1 false := ⟨Tryd.sizeOf4, Tryd.isAgg4⟩
theorem fld46_0 : FldOK Tryd.prog 46 0 0 1 false := ⟨⟨_, _, Tryd.underlying46, rfl, rfl, ty4⟩, by decide⟩
theorem subApiPart_Clash : Sub rApiPart 0 Rp.bool ApiPart.Clash := Sub.strct fApiPart 0 _ rfl
theorem ty104 : TyOK Tryd.prog 104 7 true := ⟨Tryd.sizeOf104, Tryd.isAgg104⟩
theorem fld104_0 : FldOK Tryd.prog 104 0 0 1 false := ⟨⟨_, _, Tryd.underlying104, rfl, rfl, ty3⟩, by decide⟩
theorem subApiChunk_Kind : Sub rApiChunk 0 (Rp.int .i64) ApiChunk.Kind := Sub.strct fApiChunk 0 _ rfl
theorem ty102 : TyOK Tryd.prog 102 2 true := ⟨Tryd.sizeOf102, Tryd.isAgg102⟩
theorem fld104_1 : FldOK Tryd.prog 104 1 1 2 true := ⟨⟨_, _, Tryd.underlying104, rfl, rfl, ty102⟩, by decide⟩
theorem fld102_0 : FldOK Tryd.prog 102 0 0 1 false := ⟨⟨_, _, Tryd.underlying102, rfl, rfl, ty3⟩, by decide⟩
theorem subApiChunk_O : Sub rApiChunk 1 rApiSpan ApiChunk.O := Sub.strct fApiChunk 1 _ rfl
theorem subApiSpan_From : Sub rApiSpan 0 (Rp.int .i64) ApiSpan.From := Sub.strct fApiSpan 0 _ rfl
theorem fld102_1 : FldOK Tryd.prog 102 1 1 1 false := ⟨⟨_, _, Tryd.underlying102, rfl, rfl, ty3⟩, by decide⟩
theorem subApiSpan_To : Sub rApiSpan 1 (Rp.int .i64) ApiSpan.To := Sub.strct fApiSpan 1 _ rfl
theorem en81 : Enters Tryd.prog 81 := ⟨_, Tryd.func81, by decide, rfl⟩
theorem fld104_2 : FldOK Tryd.prog 104 2 3 2 true := ⟨⟨_, _, Tryd.underlying104, rfl, rfl, ty102⟩, by decide⟩
theorem subApiChunk_A : Sub rApiChunk 3 rApiSpan ApiChunk.A := Sub.strct fApiChunk 2 _ rfl
theorem fld104_3 : FldOK Tryd.prog 104 3 5 2 true := ⟨⟨_, _, Tryd.underlying104, rfl, rfl, ty102⟩, by decide⟩
theorem subApiChunk_B : Sub rApiChunk 5 rApiSpan ApiChunk.B := Sub.strct fApiChunk 3 _ rfl
theorem st46 : StOK Tryd.prog 46 fApiPart (ApiPart.mk false [] [] []) := stOK Tryd.underlying46 Tryd.zeroValue46 (fun _ => ⟨_, _, rfl, rfl, ⟨_, _, rfl, rfl, ⟨_, _, rfl, rfl, ⟨_, _, rfl, rfl, rfl⟩⟩⟩⟩) ⟨rfl, Tryd.sizeOf4, rfl, Tryd.sizeOf9, rfl, Tryd.sizeOf9, rfl, Tryd.sizeOf9, trivial⟩
theorem updApiPart_A : Upd rApiPart 2 Rp.str (fun x y => { x with A := y }) := Upd.strct fApiPart 2 (fd := ⟨_, Rp.str, ApiPart.A⟩) rfl (fun _ _ => rfl) (by intro x y j fd hj hf; match j, hj with | 0, _ => (cases hf; rfl) | 1, _ => (cases hf; rfl) | 2, h => exact absurd rfl h | 3, _ => (cases hf; rfl) | _ + 4, _ => cases hf)
theorem updApiPart_B : Upd rApiPart 3 Rp.str (fun x y => { x with B := y }) := Upd.strct fApiPart 3 (fd := ⟨_, Rp.str, ApiPart.B⟩) rfl (fun _ _ => rfl) (by intro x y j fd hj hf; match j, hj with | 0, _ => (cases hf; rfl) | 1, _ => (cases hf; rfl) | 2, _ => (cases hf; rfl) | 3, h => exact absurd rfl h | _ + 4, _ => cases hf)
theorem el43 : ElOK Tryd.prog 43 46 4 56 := ⟨Tryd.underlying43, ⟨Tryd.t46, _, rfl, rfl, rfl, rfl, rfl⟩, by decide⟩
theorem updApiPart_O : Upd rApiPart 1 Rp.str (fun x y => { x with O := y }) := Upd.strct fApiPart 1 (fd := ⟨_, Rp.str, ApiPart.O⟩) rfl (fun _ _ => rfl) (by intro x y j fd hj hf; match j, hj with | 0, _ => (cases hf; rfl) | 1, h => exact absurd rfl h | 2, _ => (cases hf; rfl) | 3, _ => (cases hf; rfl) | _ + 4, _ => cases hf)
theorem el92 : ElOK Tryd.prog 92 83 1 8 := ⟨Tryd.underlying92, ⟨Tryd.t83, _, rfl, rfl, rfl, rfl, rfl⟩, by decide⟩
theorem ty83 : TyOK Tryd.prog 83 1 false := ⟨Tryd.sizeOf83, Tryd.isAgg83⟩
theorem en61 : Enters Tryd.prog 61 := ⟨_, Tryd.func61, by decide, rfl⟩
theorem en72 : Enters Tryd.prog 72 := ⟨_, Tryd.func72, by decide, rfl⟩
theorem ty64 : TyOK Tryd.prog 64 1 false := ⟨Tryd.sizeOf64, Tryd.isAgg64⟩
theorem fld66_1 : FldOK Tryd.prog 66 1 1 1 false := ⟨⟨_, _, Tryd.underlying66, rfl, rfl, ty64⟩, by decide⟩
theorem el64 : ElOK Tryd.prog 64 5 1 1 := ⟨Tryd.underlying64, ⟨Tryd.t5, _, rfl, rfl, rfl, rfl, rfl⟩, by decide⟩
theorem ty63 : TyOK Tryd.prog 63 1 false := ⟨Tryd.sizeOf63, Tryd.isAgg63⟩
theorem fld66_0 : FldOK Tryd.prog 66 0 0 1 false := ⟨⟨_, _, Tryd.underlying66, rfl, rfl, ty63⟩, by decide⟩
end Go.Proofs.YtefeelcjokdchaaDoor
