/- What the program's tables say (printed by wip/gen/gen.py). -/
import Derived.Test.YtefeelcjokdchaaGreatDoorProg
import Derived.Test.YtefeelcjokdchaaGreatDoorZJ
import Derived.Test.YtefeelcjokdchaaGreatDoorZT
set_option linter.unusedSimpArgs false
set_option linter.unusedVariables false
set_option linter.unusedSectionVars false
/- What the program's tables say (printed by wip/gen/gen.py). -/
set_option linter.unusedSectionVars false
set_option maxRecDepth 100000
set_option maxHeartbeats 4000000
namespace Go.Proofs.YtefeelcjokdchaaGreatDoor
open Go Go.Cn
def cellsKept : List Value := kept.flatMap fun l => [.string ⟨l.toArray⟩]
def cellsClashes : List Value := clashes.flatMap fun p => [.string ⟨p.1.toArray⟩, .string ⟨p.2.toArray⟩]
/-- Which of the variables are known at all. -/
class Known where
  clashes : Prop
class HasClashes [Known] : Prop where
  it : Known.clashes
/-- What is known of the program's variables, for good. -/
instance theGlob [Known] : Glob where
  ok s := GCells s 0 cellsKept ∧ (Known.clashes → GCells s 99 cellsClashes) ∧ (∃ m, GCells s 1 [.int .i64 m]) ∧ ∃ t v, GCells s 3 [.iface t v]
  mono _ _ h k := ⟨k.1.mono h, fun h' => (k.2.1 h').mono h, k.2.2.1.imp fun _ k => k.mono h, k.2.2.2.imp fun _ k => k.imp fun _ k => k.mono h⟩

variable [Known]
theorem hmx : Tryz.prog.follows .mixedOrders = true := by kernel_rfl
def fApiToken : List (Go.Cn.Fd ApiToken) := [⟨_, Rp.int .i64, ApiToken.Kind⟩, ⟨_, Rp.str, ApiToken.Text⟩, ⟨_, Rp.int .i64, ApiToken.At⟩, ⟨_, Rp.str, ApiToken.Lead⟩]
abbrev rApiToken : Rp ApiToken := Rp.strct fApiToken
def fDiff3Ends : List (Go.Cn.Fd Diff3Ends) := [⟨_, Rp.int .i64, Diff3Ends.o⟩, ⟨_, Rp.int .i64, Diff3Ends.a⟩, ⟨_, Rp.int .i64, Diff3Ends.b⟩]
abbrev rDiff3Ends : Rp Diff3Ends := Rp.strct fDiff3Ends
def fApiSpan : List (Go.Cn.Fd ApiSpan) := [⟨_, Rp.int .i64, ApiSpan.From⟩, ⟨_, Rp.int .i64, ApiSpan.To⟩]
abbrev rApiSpan : Rp ApiSpan := Rp.strct fApiSpan
def fApiChunk : List (Go.Cn.Fd ApiChunk) := [⟨_, Rp.int .i64, ApiChunk.Kind⟩, ⟨_, rApiSpan, ApiChunk.O⟩, ⟨_, rApiSpan, ApiChunk.A⟩, ⟨_, rApiSpan, ApiChunk.B⟩]
abbrev rApiChunk : Rp ApiChunk := Rp.strct fApiChunk
def fApiPart : List (Go.Cn.Fd ApiPart) := [⟨_, Rp.bool, ApiPart.Clash⟩, ⟨_, Rp.str, ApiPart.O⟩, ⟨_, Rp.str, ApiPart.A⟩, ⟨_, Rp.str, ApiPart.B⟩]
abbrev rApiPart : Rp ApiPart := Rp.strct fApiPart
def spec84 (f : (Int → Option Bool)) : List Pr → Pr → Prop := fun args res => ∃ (a0 : Int) (r : Bool), args = [Pr.u8 a0] ∧ res = Pr.bool r ∧ f a0 = some r
def spec40 (f : (Unit → Option ((List (List UInt8)) × Bool))) : List Pr → Pr → Prop := fun args res => ∃  (r : (List (List UInt8)) × Bool), args = [] ∧ res = Pr.tup [Pr.lst Rp.str r.1, Pr.bool r.2] ∧ f () = some r
theorem en54 : Enters Tryz.prog 54 := ⟨_, Tryz.func54, by decide, rfl⟩
theorem en55 : Enters Tryz.prog 55 := ⟨_, Tryz.func55, by decide, rfl⟩
theorem ty9 : TyOK Tryz.prog 9 1 false := ⟨Tryz.sizeOf9, Tryz.isAgg9⟩
theorem el27 : ElOK Tryz.prog 27 9 1 16 := ⟨Tryz.underlying27, ⟨Tryz.t9, _, rfl, rfl, rfl, rfl, rfl⟩, by decide⟩
theorem en65 : Enters Tryz.prog 65 := ⟨_, Tryz.func65, by decide, rfl⟩
theorem en56 : Enters Tryz.prog 56 := ⟨_, Tryz.func56, by decide, rfl⟩
theorem en57 : Enters Tryz.prog 57 := ⟨_, Tryz.func57, by decide, rfl⟩
theorem en59 : Enters Tryz.prog 59 := ⟨_, Tryz.func59, by decide, rfl⟩
theorem ty3 : TyOK Tryz.prog 3 1 false := ⟨Tryz.sizeOf3, Tryz.isAgg3⟩
theorem st48 : StOK Tryz.prog 48 fApiToken (ApiToken.mk 0 [] 0 []) := stOK Tryz.underlying48 Tryz.zeroValue48 (fun _ => ⟨_, _, rfl, rfl, ⟨_, _, rfl, rfl, ⟨_, _, rfl, rfl, ⟨_, _, rfl, rfl, rfl⟩⟩⟩⟩) ⟨rfl, Tryz.sizeOf3, rfl, Tryz.sizeOf9, rfl, Tryz.sizeOf3, rfl, Tryz.sizeOf9, trivial⟩
theorem el43 : ElOK Tryz.prog 43 48 4 48 := ⟨Tryz.underlying43, ⟨Tryz.t48, _, rfl, rfl, rfl, rfl, rfl⟩, by decide⟩
theorem ty27 : TyOK Tryz.prog 27 1 false := ⟨Tryz.sizeOf27, Tryz.isAgg27⟩
theorem el83 : ElOK Tryz.prog 83 3 1 8 := ⟨Tryz.underlying83, ⟨Tryz.t3, _, rfl, rfl, rfl, rfl, rfl⟩, by decide⟩
theorem el79 : ElOK Tryz.prog 79 83 1 24 := ⟨Tryz.underlying79, ⟨Tryz.t83, _, rfl, rfl, rfl, rfl, rfl⟩, by decide⟩
theorem en95 : Enters Tryz.prog 95 := ⟨_, Tryz.func95, by decide, rfl⟩
theorem ty134 : TyOK Tryz.prog 134 1 false := ⟨Tryz.sizeOf134, Tryz.isAgg134⟩
theorem ty21 : TyOK Tryz.prog 21 1 false := ⟨Tryz.sizeOf21, Tryz.isAgg21⟩
theorem fld109_0 : FldOK Tryz.prog 109 0 0 1 false := ⟨⟨_, _, Tryz.underlying109, rfl, rfl, ty3⟩, by decide⟩
theorem subDiff3Ends_o : Sub rDiff3Ends 0 (Rp.int .i64) Diff3Ends.o := Sub.strct fDiff3Ends 0 _ rfl
theorem ty83 : TyOK Tryz.prog 83 1 false := ⟨Tryz.sizeOf83, Tryz.isAgg83⟩
theorem fld109_1 : FldOK Tryz.prog 109 1 1 1 false := ⟨⟨_, _, Tryz.underlying109, rfl, rfl, ty3⟩, by decide⟩
theorem subDiff3Ends_a : Sub rDiff3Ends 1 (Rp.int .i64) Diff3Ends.a := Sub.strct fDiff3Ends 1 _ rfl
theorem fld109_2 : FldOK Tryz.prog 109 2 2 1 false := ⟨⟨_, _, Tryz.underlying109, rfl, rfl, ty3⟩, by decide⟩
theorem subDiff3Ends_b : Sub rDiff3Ends 2 (Rp.int .i64) Diff3Ends.b := Sub.strct fDiff3Ends 2 _ rfl
theorem st109 : StOK Tryz.prog 109 fDiff3Ends (Diff3Ends.mk 0 0 0) := stOK Tryz.underlying109 Tryz.zeroValue109 (fun _ => ⟨_, _, rfl, rfl, ⟨_, _, rfl, rfl, ⟨_, _, rfl, rfl, rfl⟩⟩⟩) ⟨rfl, Tryz.sizeOf3, rfl, Tryz.sizeOf3, rfl, Tryz.sizeOf3, trivial⟩
theorem ty109 : TyOK Tryz.prog 109 3 true := ⟨Tryz.sizeOf109, Tryz.isAgg109⟩
theorem eqDiff3Ends : EqOK Tryz.prog 109 rDiff3Ends 2 := eqOK_strct Tryz.underlying109 (by kernel_rfl) ⟨by decide, rfl, (eqOK_int Tryz.underlying3), ty3, by decide, rfl, (eqOK_int Tryz.underlying3), ty3, by decide, rfl, (eqOK_int Tryz.underlying3), ty3, trivial⟩ (fun x y h => by cases x; cases y; simpa [fDiff3Ends] using h)
theorem eqgDiff3Ends : Tryz.prog.eqGuardType Tryz.prog.depth 109 = false := by kernel_rfl
theorem st65 : StOK Tryz.prog 65 fApiSpan (ApiSpan.mk 0 0) := stOK Tryz.underlying65 Tryz.zeroValue65 (fun _ => ⟨_, _, rfl, rfl, ⟨_, _, rfl, rfl, rfl⟩⟩) ⟨rfl, Tryz.sizeOf3, rfl, Tryz.sizeOf3, trivial⟩
theorem st67 : StOK Tryz.prog 67 fApiChunk (ApiChunk.mk 0 (ApiSpan.mk 0 0) (ApiSpan.mk 0 0) (ApiSpan.mk 0 0)) := stOK Tryz.underlying67 Tryz.zeroValue67 (fun _ => ⟨_, _, rfl, rfl, ⟨_, _, rfl, ⟨_, _, rfl, rfl, ⟨_, _, rfl, rfl, rfl⟩⟩, ⟨_, _, rfl, ⟨_, _, rfl, rfl, ⟨_, _, rfl, rfl, rfl⟩⟩, ⟨_, _, rfl, ⟨_, _, rfl, rfl, ⟨_, _, rfl, rfl, rfl⟩⟩, rfl⟩⟩⟩⟩) ⟨rfl, Tryz.sizeOf3, rfl, Tryz.sizeOf65, rfl, Tryz.sizeOf65, rfl, Tryz.sizeOf65, trivial⟩
theorem el62 : ElOK Tryz.prog 62 67 7 56 := ⟨Tryz.underlying62, ⟨Tryz.t67, _, rfl, rfl, rfl, rfl, rfl⟩, by decide⟩
theorem el81 : ElOK Tryz.prog 81 27 1 24 := ⟨Tryz.underlying81, ⟨Tryz.t27, _, rfl, rfl, rfl, rfl, rfl⟩, by decide⟩
theorem ty67 : TyOK Tryz.prog 67 7 true := ⟨Tryz.sizeOf67, Tryz.isAgg67⟩
theorem fld67_0 : FldOK Tryz.prog 67 0 0 1 false := ⟨⟨_, _, Tryz.underlying67, rfl, rfl, ty3⟩, by decide⟩
theorem subApiChunk_Kind : Sub rApiChunk 0 (Rp.int .i64) ApiChunk.Kind := Sub.strct fApiChunk 0 _ rfl
theorem ty65 : TyOK Tryz.prog 65 2 true := ⟨Tryz.sizeOf65, Tryz.isAgg65⟩
theorem fld67_1 : FldOK Tryz.prog 67 1 1 2 true := ⟨⟨_, _, Tryz.underlying67, rfl, rfl, ty65⟩, by decide⟩
theorem fld65_0 : FldOK Tryz.prog 65 0 0 1 false := ⟨⟨_, _, Tryz.underlying65, rfl, rfl, ty3⟩, by decide⟩
theorem subApiChunk_O : Sub rApiChunk 1 rApiSpan ApiChunk.O := Sub.strct fApiChunk 1 _ rfl
theorem subApiSpan_From : Sub rApiSpan 0 (Rp.int .i64) ApiSpan.From := Sub.strct fApiSpan 0 _ rfl
theorem fld65_1 : FldOK Tryz.prog 65 1 1 1 false := ⟨⟨_, _, Tryz.underlying65, rfl, rfl, ty3⟩, by decide⟩
theorem subApiSpan_To : Sub rApiSpan 1 (Rp.int .i64) ApiSpan.To := Sub.strct fApiSpan 1 _ rfl
theorem en36 : Enters Tryz.prog 36 := ⟨_, Tryz.func36, by decide, rfl⟩
theorem fld67_2 : FldOK Tryz.prog 67 2 3 2 true := ⟨⟨_, _, Tryz.underlying67, rfl, rfl, ty65⟩, by decide⟩
theorem subApiChunk_A : Sub rApiChunk 3 rApiSpan ApiChunk.A := Sub.strct fApiChunk 2 _ rfl
theorem fld67_3 : FldOK Tryz.prog 67 3 5 2 true := ⟨⟨_, _, Tryz.underlying67, rfl, rfl, ty65⟩, by decide⟩
theorem subApiChunk_B : Sub rApiChunk 5 rApiSpan ApiChunk.B := Sub.strct fApiChunk 3 _ rfl
theorem st37 : StOK Tryz.prog 37 fApiPart (ApiPart.mk false [] [] []) := stOK Tryz.underlying37 Tryz.zeroValue37 (fun _ => ⟨_, _, rfl, rfl, ⟨_, _, rfl, rfl, ⟨_, _, rfl, rfl, ⟨_, _, rfl, rfl, rfl⟩⟩⟩⟩) ⟨rfl, Tryz.sizeOf4, rfl, Tryz.sizeOf9, rfl, Tryz.sizeOf9, rfl, Tryz.sizeOf9, trivial⟩
theorem fld37_3 : FldOK Tryz.prog 37 3 3 1 false := ⟨⟨_, _, Tryz.underlying37, rfl, rfl, ty9⟩, by decide⟩
theorem subApiPart_B : Sub rApiPart 3 Rp.str ApiPart.B := Sub.strct fApiPart 3 _ rfl
theorem fld37_2 : FldOK Tryz.prog 37 2 2 1 false := ⟨⟨_, _, Tryz.underlying37, rfl, rfl, ty9⟩, by decide⟩
theorem updApiPart_A : Upd rApiPart 2 Rp.str (fun x y => { x with A := y }) := Upd.strct fApiPart 2 (fd := ⟨_, Rp.str, ApiPart.A⟩) rfl (fun _ _ => rfl) (by intro x y j fd hj hf; match j, hj with | 0, _ => (cases hf; rfl) | 1, _ => (cases hf; rfl) | 2, h => exact absurd rfl h | 3, _ => (cases hf; rfl) | _ + 4, _ => cases hf)
theorem subApiPart_A : Sub rApiPart 2 Rp.str ApiPart.A := Sub.strct fApiPart 2 _ rfl
theorem updApiPart_B : Upd rApiPart 3 Rp.str (fun x y => { x with B := y }) := Upd.strct fApiPart 3 (fd := ⟨_, Rp.str, ApiPart.B⟩) rfl (fun _ _ => rfl) (by intro x y j fd hj hf; match j, hj with | 0, _ => (cases hf; rfl) | 1, _ => (cases hf; rfl) | 2, _ => (cases hf; rfl) | 3, h => exact absurd rfl h | _ + 4, _ => cases hf)
theorem ty4 : TyOK Tryz.prog 4 1 false := ⟨Tryz.sizeOf4, Tryz.isAgg4⟩
theorem fld37_0 : FldOK Tryz.prog 37 0 0 1 false := ⟨⟨_, _, Tryz.underlying37, rfl, rfl, ty4⟩, by decide⟩
theorem subApiPart_Clash : Sub rApiPart 0 Rp.bool ApiPart.Clash := Sub.strct fApiPart 0 _ rfl
theorem fld37_1 : FldOK Tryz.prog 37 1 1 1 false := ⟨⟨_, _, Tryz.underlying37, rfl, rfl, ty9⟩, by decide⟩
theorem subApiPart_O : Sub rApiPart 1 Rp.str ApiPart.O := Sub.strct fApiPart 1 _ rfl
theorem ty37 : TyOK Tryz.prog 37 4 true := ⟨Tryz.sizeOf37, Tryz.isAgg37⟩
theorem el24 : ElOK Tryz.prog 24 37 4 56 := ⟨Tryz.underlying24, ⟨Tryz.t37, _, rfl, rfl, rfl, rfl, rfl⟩, by decide⟩
theorem updApiPart_O : Upd rApiPart 1 Rp.str (fun x y => { x with O := y }) := Upd.strct fApiPart 1 (fd := ⟨_, Rp.str, ApiPart.O⟩) rfl (fun _ _ => rfl) (by intro x y j fd hj hf; match j, hj with | 0, _ => (cases hf; rfl) | 1, h => exact absurd rfl h | 2, _ => (cases hf; rfl) | 3, _ => (cases hf; rfl) | _ + 4, _ => cases hf)
theorem el61 : ElOK Tryz.prog 61 40 1 8 := ⟨Tryz.underlying61, ⟨Tryz.t40, _, rfl, rfl, rfl, rfl, rfl⟩, by decide⟩
theorem ty40 : TyOK Tryz.prog 40 1 false := ⟨Tryz.sizeOf40, Tryz.isAgg40⟩
theorem ty48 : TyOK Tryz.prog 48 4 true := ⟨Tryz.sizeOf48, Tryz.isAgg48⟩
theorem fld48_3 : FldOK Tryz.prog 48 3 3 1 false := ⟨⟨_, _, Tryz.underlying48, rfl, rfl, ty9⟩, by decide⟩
theorem subApiToken_Lead : Sub rApiToken 3 Rp.str ApiToken.Lead := Sub.strct fApiToken 3 _ rfl
theorem fld48_1 : FldOK Tryz.prog 48 1 1 1 false := ⟨⟨_, _, Tryz.underlying48, rfl, rfl, ty9⟩, by decide⟩
theorem subApiToken_Text : Sub rApiToken 1 Rp.str ApiToken.Text := Sub.strct fApiToken 1 _ rfl
theorem en19 : Enters Tryz.prog 19 := ⟨_, Tryz.func19, by decide, rfl⟩
theorem en23 : Enters Tryz.prog 23 := ⟨_, Tryz.func23, by decide, rfl⟩
theorem en74 : Enters Tryz.prog 74 := ⟨_, Tryz.func74, by decide, rfl⟩
theorem eqApiPart : EqOK Tryz.prog 37 rApiPart 2 := eqOK_strct Tryz.underlying37 (by kernel_rfl) ⟨by decide, rfl, (eqOK_bool Tryz.underlying4), ty4, by decide, rfl, (eqOK_str Tryz.underlying9), ty9, by decide, rfl, (eqOK_str Tryz.underlying9), ty9, by decide, rfl, (eqOK_str Tryz.underlying9), ty9, trivial⟩ (fun x y h => by cases x; cases y; simpa [fApiPart] using h)
theorem eqgApiPart : Tryz.prog.eqGuardType Tryz.prog.depth 37 = false := by kernel_rfl
theorem ty51 : TyOK Tryz.prog 51 1 false := ⟨Tryz.sizeOf51, Tryz.isAgg51⟩
theorem fld53_1 : FldOK Tryz.prog 53 1 1 1 false := ⟨⟨_, _, Tryz.underlying53, rfl, rfl, ty51⟩, by decide⟩
theorem el51 : ElOK Tryz.prog 51 5 1 1 := ⟨Tryz.underlying51, ⟨Tryz.t5, _, rfl, rfl, rfl, rfl, rfl⟩, by decide⟩
theorem ty50 : TyOK Tryz.prog 50 1 false := ⟨Tryz.sizeOf50, Tryz.isAgg50⟩
theorem fld53_0 : FldOK Tryz.prog 53 0 0 1 false := ⟨⟨_, _, Tryz.underlying53, rfl, rfl, ty50⟩, by decide⟩
end Go.Proofs.YtefeelcjokdchaaGreatDoor
