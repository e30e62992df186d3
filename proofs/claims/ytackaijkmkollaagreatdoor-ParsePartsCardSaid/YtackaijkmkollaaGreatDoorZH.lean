/- The maker of nodes, what it passes on left as it stands (printed by wip/gen/gen.py). -/
import Derived.Test.YtackaijkmkollaaGreatDoorProg
import Derived.Test.YtackaijkmkollaaGreatDoorZJ
import Derived.Test.YtackaijkmkollaaGreatDoorZT
set_option linter.unusedSimpArgs false
set_option linter.unusedVariables false
set_option linter.unusedSectionVars false
set_option linter.unusedSectionVars false
set_option maxRecDepth 100000
set_option maxHeartbeats 4000000
namespace Go.Proofs.YtackaijkmkollaaGreatDoor
open Go Go.Cn
def cellsKept :List Value:=kept.flatMap fun l=>[.string ⟨l.toArray⟩]
def cellsClashes :List Value:=clashes.flatMap fun p=>[.string ⟨p.1.toArray⟩,.string ⟨p.2.toArray⟩]
class Known where
 clashes:Prop
class HasClashes [Known]:Prop where
 it:Known.clashes
instance theGlob [Known]:Glob where
 ok s:=GCells s 0 cellsKept/\(Known.clashes->GCells s 99 cellsClashes)/\(∃m,GCells s 1 [.int .i64 m])/\∃t v,GCells s 3 [.iface t v]
 mono _ _ h k:=⟨k.1.mono h,fun h'=>(k.2.1 h').mono h,k.2.2.1.imp fun _ k=>k.mono h,k.2.2.2.imp fun _ k=>k.imp fun _ k=>k.mono h⟩
variable [Known]
theorem hmx :Tryz.prog.follows .mixedOrders=true:=by kernel_rfl
def fApiToken :List (Go.Cn.Fd ApiToken):=[⟨_,Rp.int .i64,ApiToken.Kind⟩,⟨_,bh,ApiToken.Text⟩,⟨_,Rp.int .i64,ApiToken.At⟩,⟨_,bh,ApiToken.Lead⟩]
abbrev af :Rp ApiToken:=gc fApiToken
def gApiNode :List (FG ApiNode):=[FG.const (Rp.int .i64) ApiNode.Kind,FG.const (bh) ApiNode.Text,FG.const (bh) ApiNode.Type_,FG.const (Rp.int .i64) ApiNode.N,FG.const (Rp.int .i64) ApiNode.From,FG.const (Rp.int .i64) ApiNode.To,FG.const (Rp.int .i64) ApiNode.At,FG.const (Rp.int .i64) ApiNode.TypeAt,FG.list ApiNode.Kids]
def rApiNode :Rp ApiNode:=Rp.fix gApiNode 9 rfl
def fApiNode :List (Go.Cn.Fd ApiNode):=[⟨_,Rp.int .i64,ApiNode.Kind⟩,⟨_,bh,ApiNode.Text⟩,⟨_,bh,ApiNode.Type_⟩,⟨_,Rp.int .i64,ApiNode.N⟩,⟨_,Rp.int .i64,ApiNode.From⟩,⟨_,Rp.int .i64,ApiNode.To⟩,⟨_,Rp.int .i64,ApiNode.At⟩,⟨_,Rp.int .i64,ApiNode.TypeAt⟩,⟨_,ba rApiNode,ApiNode.Kids⟩]
theorem ap :rApiNode=gc fApiNode:=Rp.fix_eq _
def j8 :List (Go.Cn.Fd ParseParser):=[⟨_,ba af,ParseParser.t⟩,⟨_,Rp.int .i64,ParseParser.at_⟩]
abbrev ae :Rp ParseParser:=gc j8
def fApiMistake :List (Go.Cn.Fd ApiMistake):=[⟨_,Rp.int .i64,ApiMistake.Code⟩,⟨_,Rp.int .i64,ApiMistake.File⟩,⟨_,Rp.int .i64,ApiMistake.At⟩]
abbrev ah :Rp ApiMistake:=gc fApiMistake
def fParseWrong :List (Go.Cn.Fd ParseWrong):=[⟨_,ah,ParseWrong.m⟩]
abbrev dw :Rp ParseWrong:=gc fParseWrong
def spec56 (f:(Int->Option Bool)):List Pr->Pr->Prop:=fun args res=>∃(a0:Int) (r:Bool),args=[Pr.u8 a0]/\res=Pr.bool r/\f a0=some r
theorem ty9 :TyOK Tryz.prog 9 1 false:=⟨Tryz.sizeOf9,Tryz.isAgg9⟩
theorem ty3 :TyOK Tryz.prog 3 1 false:=⟨Tryz.sizeOf3,Tryz.isAgg3⟩
theorem st37 :StOK Tryz.prog 37 fApiToken (ApiToken.mk 0 [] 0 []):=stOK Tryz.underlying37 Tryz.zeroValue37 (fun _=>⟨_,_,rfl,rfl,⟨_,_,rfl,rfl,⟨_,_,rfl,rfl,⟨_,_,rfl,rfl,rfl⟩⟩⟩⟩) ⟨rfl,Tryz.sizeOf3,rfl,Tryz.sizeOf9,rfl,Tryz.sizeOf3,rfl,Tryz.sizeOf9,trivial⟩
theorem el33 :ElOK Tryz.prog 33 37 4 48:=⟨Tryz.underlying33,⟨Tryz.t37,_,rfl,rfl,rfl,rfl,rfl⟩,by decide⟩
theorem en72 :Enters Tryz.prog 72:=⟨_,Tryz.func72,by decide,rfl⟩
theorem en73 :Enters Tryz.prog 73:=⟨_,Tryz.func73,by decide,rfl⟩
theorem el44 :ElOK Tryz.prog 44 9 1 16:=⟨Tryz.underlying44,⟨Tryz.t9,_,rfl,rfl,rfl,rfl,rfl⟩,by decide⟩
theorem en90 :Enters Tryz.prog 90:=⟨_,Tryz.func90,by decide,rfl⟩
theorem en74 :Enters Tryz.prog 74:=⟨_,Tryz.func74,by decide,rfl⟩
theorem en75 :Enters Tryz.prog 75:=⟨_,Tryz.func75,by decide,rfl⟩
theorem en77 :Enters Tryz.prog 77:=⟨_,Tryz.func77,by decide,rfl⟩
theorem ty24 :TyOK Tryz.prog 24 1 false:=⟨Tryz.sizeOf24,Tryz.isAgg24⟩
theorem ko :FldOK Tryz.prog 32 8 8 1 false:=⟨⟨_,_,Tryz.underlying32,rfl,rfl,ty24⟩,by decide⟩
theorem cm :Sub rApiNode 8 (ba rApiNode) ApiNode.Kids:=Sub.ofEq ap (Sub.strct fApiNode 8 _ rfl)
theorem ty32 :TyOK Tryz.prog 32 9 true:=⟨Tryz.sizeOf32,Tryz.isAgg32⟩
theorem ty33 :TyOK Tryz.prog 33 1 false:=⟨Tryz.sizeOf33,Tryz.isAgg33⟩
theorem fld65_0 :FldOK Tryz.prog 65 0 0 1 false:=⟨⟨_,_,Tryz.underlying65,rfl,rfl,ty33⟩,by decide⟩
theorem subParseParser_t :Sub ae 0 (ba af) ParseParser.t:=Sub.strct j8 0 _ rfl
theorem fld65_1 :FldOK Tryz.prog 65 1 1 1 false:=⟨⟨_,_,Tryz.underlying65,rfl,rfl,ty3⟩,by decide⟩
theorem subParseParser_at :Sub ae 1 (Rp.int .i64) ParseParser.at_:=Sub.strct j8 1 _ rfl
theorem ty37 :TyOK Tryz.prog 37 4 true:=⟨Tryz.sizeOf37,Tryz.isAgg37⟩
theorem gk :Flat af:=flat_strct ⟨(flat_int _),flat_str,(flat_int _),flat_str,trivial⟩
theorem fld37_2 :FldOK Tryz.prog 37 2 2 1 false:=⟨⟨_,_,Tryz.underlying37,rfl,rfl,ty3⟩,by decide⟩
theorem subApiToken_At :Sub af 2 (Rp.int .i64) ApiToken.At:=Sub.strct fApiToken 2 _ rfl
theorem st27 :StOK Tryz.prog 27 fApiMistake (ApiMistake.mk 0 0 0):=stOK Tryz.underlying27 Tryz.zeroValue27 (fun _=>⟨_,_,rfl,rfl,⟨_,_,rfl,rfl,⟨_,_,rfl,rfl,rfl⟩⟩⟩) ⟨rfl,Tryz.sizeOf25,rfl,Tryz.sizeOf3,rfl,Tryz.sizeOf3,trivial⟩
theorem st62 :StOK Tryz.prog 62 fParseWrong (ParseWrong.mk (ApiMistake.mk 0 0 0)):=stOK Tryz.underlying62 Tryz.zeroValue62 (fun _=>⟨_,_,rfl,⟨_,_,rfl,rfl,⟨_,_,rfl,rfl,⟨_,_,rfl,rfl,rfl⟩⟩⟩,rfl⟩) ⟨rfl,Tryz.sizeOf27,trivial⟩
theorem fld37_1 :FldOK Tryz.prog 37 1 1 1 false:=⟨⟨_,_,Tryz.underlying37,rfl,rfl,ty9⟩,by decide⟩
theorem subApiToken_Text :Sub af 1 bh ApiToken.Text:=Sub.strct fApiToken 1 _ rfl
theorem fld37_0 :FldOK Tryz.prog 37 0 0 1 false:=⟨⟨_,_,Tryz.underlying37,rfl,rfl,ty3⟩,by decide⟩
theorem di :Sub af 0 (Rp.int .i64) ApiToken.Kind:=Sub.strct fApiToken 0 _ rfl
theorem updParseParser_at :Upd ae 1 (Rp.int .i64) (fun x y=>{x with at_:=y}):=Upd.strct j8 1 (fd:=⟨_,Rp.int .i64,ParseParser.at_⟩) rfl (fun _ _=>rfl) (by intro x y j fd hj hf;match j,hj with| 0,_=>(cases hf;rfl)| 1,h=>exact absurd rfl h|_+2,_=>cases hf)
theorem fld32_1 :FldOK Tryz.prog 32 1 1 1 false:=⟨⟨_,_,Tryz.underlying32,rfl,rfl,ty9⟩,by decide⟩
theorem updApiNode_Text :Upd rApiNode 1 bh (fun x y=>{x with Text:=y}):=Upd.ofEq ap (Upd.strct fApiNode 1 (fd:=⟨_,bh,ApiNode.Text⟩) rfl (fun _ _=>rfl) (by intro x y j fd hj hf;match j,hj with| 0,_=>(cases hf;rfl)| 1,h=>exact absurd rfl h| 2,_=>(cases hf;rfl)| 3,_=>(cases hf;rfl)| 4,_=>(cases hf;rfl)| 5,_=>(cases hf;rfl)| 6,_=>(cases hf;rfl)| 7,_=>(cases hf;rfl)| 8,_=>(cases hf;rfl)|_+9,_=>cases hf))
theorem fld32_6 :FldOK Tryz.prog 32 6 6 1 false:=⟨⟨_,_,Tryz.underlying32,rfl,rfl,ty3⟩,by decide⟩
theorem updApiNode_At :Upd rApiNode 6 (Rp.int .i64) (fun x y=>{x with At:=y}):=Upd.ofEq ap (Upd.strct fApiNode 6 (fd:=⟨_,Rp.int .i64,ApiNode.At⟩) rfl (fun _ _=>rfl) (by intro x y j fd hj hf;match j,hj with| 0,_=>(cases hf;rfl)| 1,_=>(cases hf;rfl)| 2,_=>(cases hf;rfl)| 3,_=>(cases hf;rfl)| 4,_=>(cases hf;rfl)| 5,_=>(cases hf;rfl)| 6,h=>exact absurd rfl h| 7,_=>(cases hf;rfl)| 8,_=>(cases hf;rfl)|_+9,_=>cases hf))
theorem fld32_2 :FldOK Tryz.prog 32 2 2 1 false:=⟨⟨_,_,Tryz.underlying32,rfl,rfl,ty9⟩,by decide⟩
theorem updApiNode_Type :Upd rApiNode 2 bh (fun x y=>{x with Type_:=y}):=Upd.ofEq ap (Upd.strct fApiNode 2 (fd:=⟨_,bh,ApiNode.Type_⟩) rfl (fun _ _=>rfl) (by intro x y j fd hj hf;match j,hj with| 0,_=>(cases hf;rfl)| 1,_=>(cases hf;rfl)| 2,h=>exact absurd rfl h| 3,_=>(cases hf;rfl)| 4,_=>(cases hf;rfl)| 5,_=>(cases hf;rfl)| 6,_=>(cases hf;rfl)| 7,_=>(cases hf;rfl)| 8,_=>(cases hf;rfl)|_+9,_=>cases hf))
theorem fld32_7 :FldOK Tryz.prog 32 7 7 1 false:=⟨⟨_,_,Tryz.underlying32,rfl,rfl,ty3⟩,by decide⟩
theorem updApiNode_TypeAt :Upd rApiNode 7 (Rp.int .i64) (fun x y=>{x with TypeAt:=y}):=Upd.ofEq ap (Upd.strct fApiNode 7 (fd:=⟨_,Rp.int .i64,ApiNode.TypeAt⟩) rfl (fun _ _=>rfl) (by intro x y j fd hj hf;match j,hj with| 0,_=>(cases hf;rfl)| 1,_=>(cases hf;rfl)| 2,_=>(cases hf;rfl)| 3,_=>(cases hf;rfl)| 4,_=>(cases hf;rfl)| 5,_=>(cases hf;rfl)| 6,_=>(cases hf;rfl)| 7,h=>exact absurd rfl h| 8,_=>(cases hf;rfl)|_+9,_=>cases hf))
theorem el24 :ElOK Tryz.prog 24 32 9 104:=⟨Tryz.underlying24,⟨Tryz.t32,_,rfl,rfl,rfl,rfl,rfl⟩,by decide⟩
theorem st32 :StOK Tryz.prog 32 fApiNode (ApiNode.mk 0 [] [] 0 0 0 0 0 []):=stOK Tryz.underlying32 Tryz.zeroValue32 (fun _=>⟨_,_,rfl,rfl,⟨_,_,rfl,rfl,⟨_,_,rfl,rfl,⟨_,_,rfl,rfl,⟨_,_,rfl,rfl,⟨_,_,rfl,rfl,⟨_,_,rfl,rfl,⟨_,_,rfl,rfl,⟨_,_,rfl,⟨_,rfl,none,0,rfl,⟨Nat.le_refl _,fun _=>rfl⟩,.inl rfl⟩,rfl⟩⟩⟩⟩⟩⟩⟩⟩⟩) ⟨rfl,Tryz.sizeOf3,rfl,Tryz.sizeOf9,rfl,Tryz.sizeOf9,rfl,Tryz.sizeOf2,rfl,Tryz.sizeOf3,rfl,Tryz.sizeOf3,rfl,Tryz.sizeOf3,rfl,Tryz.sizeOf3,rfl,Tryz.sizeOf24,trivial⟩
theorem ty2 :TyOK Tryz.prog 2 1 false:=⟨Tryz.sizeOf2,Tryz.isAgg2⟩
theorem fld32_3 :FldOK Tryz.prog 32 3 3 1 false:=⟨⟨_,_,Tryz.underlying32,rfl,rfl,ty2⟩,by decide⟩
theorem updApiNode_N :Upd rApiNode 3 (Rp.int .i64) (fun x y=>{x with N:=y}):=Upd.ofEq ap (Upd.strct fApiNode 3 (fd:=⟨_,Rp.int .i64,ApiNode.N⟩) rfl (fun _ _=>rfl) (by intro x y j fd hj hf;match j,hj with| 0,_=>(cases hf;rfl)| 1,_=>(cases hf;rfl)| 2,_=>(cases hf;rfl)| 3,h=>exact absurd rfl h| 4,_=>(cases hf;rfl)| 5,_=>(cases hf;rfl)| 6,_=>(cases hf;rfl)| 7,_=>(cases hf;rfl)| 8,_=>(cases hf;rfl)|_+9,_=>cases hf))
theorem fld32_0 :FldOK Tryz.prog 32 0 0 1 false:=⟨⟨_,_,Tryz.underlying32,rfl,rfl,ty3⟩,by decide⟩
theorem gv :Sub rApiNode 0 (Rp.int .i64) ApiNode.Kind:=Sub.ofEq ap (Sub.strct fApiNode 0 _ rfl)
theorem subApiNode_N :Sub rApiNode 3 (Rp.int .i64) ApiNode.N:=Sub.ofEq ap (Sub.strct fApiNode 3 _ rfl)
theorem ty58 :TyOK Tryz.prog 58 1 false:=⟨Tryz.sizeOf58,Tryz.isAgg58⟩
theorem ty25 :TyOK Tryz.prog 25 1 false:=⟨Tryz.sizeOf25,Tryz.isAgg25⟩
theorem fld27_0 :FldOK Tryz.prog 27 0 0 1 false:=⟨⟨_,_,Tryz.underlying27,rfl,rfl,ty25⟩,by decide⟩
theorem ct :Sub ah 0 (Rp.int .i64) ApiMistake.Code:=Sub.strct fApiMistake 0 _ rfl
theorem ty27 :TyOK Tryz.prog 27 3 true:=⟨Tryz.sizeOf27,Tryz.isAgg27⟩
theorem subApiNode_Text :Sub rApiNode 1 bh ApiNode.Text:=Sub.ofEq ap (Sub.strct fApiNode 1 _ rfl)
theorem fld27_2 :FldOK Tryz.prog 27 2 2 1 false:=⟨⟨_,_,Tryz.underlying27,rfl,rfl,ty3⟩,by decide⟩
theorem subApiMistake_At :Sub ah 2 (Rp.int .i64) ApiMistake.At:=Sub.strct fApiMistake 2 _ rfl
theorem fld32_4 :FldOK Tryz.prog 32 4 4 1 false:=⟨⟨_,_,Tryz.underlying32,rfl,rfl,ty3⟩,by decide⟩
theorem subApiNode_From :Sub rApiNode 4 (Rp.int .i64) ApiNode.From:=Sub.ofEq ap (Sub.strct fApiNode 4 _ rfl)
theorem fld32_5 :FldOK Tryz.prog 32 5 5 1 false:=⟨⟨_,_,Tryz.underlying32,rfl,rfl,ty3⟩,by decide⟩
theorem subApiNode_To :Sub rApiNode 5 (Rp.int .i64) ApiNode.To:=Sub.ofEq ap (Sub.strct fApiNode 5 _ rfl)
theorem subApiNode_At :Sub rApiNode 6 (Rp.int .i64) ApiNode.At:=Sub.ofEq ap (Sub.strct fApiNode 6 _ rfl)
theorem km :Sub rApiNode 7 (Rp.int .i64) ApiNode.TypeAt:=Sub.ofEq ap (Sub.strct fApiNode 7 _ rfl)
theorem subApiNode_Type :Sub rApiNode 2 bh ApiNode.Type_:=Sub.ofEq ap (Sub.strct fApiNode 2 _ rfl)
theorem updApiNode_Kids :Upd rApiNode 8 (ba rApiNode) (fun x y=>{x with Kids:=y}):=Upd.ofEq ap (Upd.strct fApiNode 8 (fd:=⟨_,ba rApiNode,ApiNode.Kids⟩) rfl (fun _ _=>rfl) (by intro x y j fd hj hf;match j,hj with| 0,_=>(cases hf;rfl)| 1,_=>(cases hf;rfl)| 2,_=>(cases hf;rfl)| 3,_=>(cases hf;rfl)| 4,_=>(cases hf;rfl)| 5,_=>(cases hf;rfl)| 6,_=>(cases hf;rfl)| 7,_=>(cases hf;rfl)| 8,h=>exact absurd rfl h|_+9,_=>cases hf))
theorem updApiNode_From :Upd rApiNode 4 (Rp.int .i64) (fun x y=>{x with From:=y}):=Upd.ofEq ap (Upd.strct fApiNode 4 (fd:=⟨_,Rp.int .i64,ApiNode.From⟩) rfl (fun _ _=>rfl) (by intro x y j fd hj hf;match j,hj with| 0,_=>(cases hf;rfl)| 1,_=>(cases hf;rfl)| 2,_=>(cases hf;rfl)| 3,_=>(cases hf;rfl)| 4,h=>exact absurd rfl h| 5,_=>(cases hf;rfl)| 6,_=>(cases hf;rfl)| 7,_=>(cases hf;rfl)| 8,_=>(cases hf;rfl)|_+9,_=>cases hf))
theorem updApiNode_To :Upd rApiNode 5 (Rp.int .i64) (fun x y=>{x with To:=y}):=Upd.ofEq ap (Upd.strct fApiNode 5 (fd:=⟨_,Rp.int .i64,ApiNode.To⟩) rfl (fun _ _=>rfl) (by intro x y j fd hj hf;match j,hj with| 0,_=>(cases hf;rfl)| 1,_=>(cases hf;rfl)| 2,_=>(cases hf;rfl)| 3,_=>(cases hf;rfl)| 4,_=>(cases hf;rfl)| 5,h=>exact absurd rfl h| 6,_=>(cases hf;rfl)| 7,_=>(cases hf;rfl)| 8,_=>(cases hf;rfl)|_+9,_=>cases hf))
end Go.Proofs.YtackaijkmkollaaGreatDoor
set_option linter.unusedSectionVars false
set_option maxRecDepth 100000
set_option maxHeartbeats 4000000
namespace Go.Proofs.YtackaijkmkollaaGreatDoor
open Go Go.Cn
namespace HN
structure ApiNode where
 Kind:Int
 Text:List UInt8
 Type_:List UInt8
 N:Int
 From:Int
 To:Int
 At:Int
 TypeAt:Int
 Kids:Hd
noncomputable def parse_parser_made_j1 (x2:Int) (x6:ApiToken) (x4:Hd) (x8:ApiToken):Option (ApiNode):=some (ApiNode.mk x2 [] [] 0 x8.At (w64 (x6.At+(x6.Text.length:Int))) (-1) (-1) x4)
noncomputable def parse_parser_made_j2 (x1:ParseParser) (x3 x2:Int) (x4:Hd) (x6:ApiToken):Option (ApiNode):=(idx x1.t x3).bind fun x8=>parse_parser_made_j1 x2 x6 x4 x8
noncomputable def parse_parser_made (x1:ParseParser) (x2 x3:Int) (x4:Hd):Option (ApiNode):=(idx x1.t (w64 (x1.at_ - 1))).bind fun x6=>parse_parser_made_j2 x1 x3 x2 x4 x6
variable [Known]
def fApiNode :List (Go.Cn.Fd ApiNode):=[⟨_,Rp.int .i64,ApiNode.Kind⟩,⟨_,bh,ApiNode.Text⟩,⟨_,bh,ApiNode.Type_⟩,⟨_,Rp.int .i64,ApiNode.N⟩,⟨_,Rp.int .i64,ApiNode.From⟩,⟨_,Rp.int .i64,ApiNode.To⟩,⟨_,Rp.int .i64,ApiNode.At⟩,⟨_,Rp.int .i64,ApiNode.TypeAt⟩,⟨_,Rp.hd,ApiNode.Kids⟩]
abbrev rApiNode :Rp ApiNode:=gc fApiNode
theorem ty33 :TyOK Tryz.prog 33 1 false:=⟨Tryz.sizeOf33,Tryz.isAgg33⟩
theorem fld65_0 :FldOK Tryz.prog 65 0 0 1 false:=⟨⟨_,_,Tryz.underlying65,rfl,rfl,ty33⟩,by decide⟩
theorem subParseParser_t :Sub ae 0 (ba af) ParseParser.t:=Sub.strct j8 0 _ rfl
theorem ty3 :TyOK Tryz.prog 3 1 false:=⟨Tryz.sizeOf3,Tryz.isAgg3⟩
theorem fld65_1 :FldOK Tryz.prog 65 1 1 1 false:=⟨⟨_,_,Tryz.underlying65,rfl,rfl,ty3⟩,by decide⟩
theorem subParseParser_at :Sub ae 1 (Rp.int .i64) ParseParser.at_:=Sub.strct j8 1 _ rfl
theorem ty37 :TyOK Tryz.prog 37 4 true:=⟨Tryz.sizeOf37,Tryz.isAgg37⟩
theorem fld37_2 :FldOK Tryz.prog 37 2 2 1 false:=⟨⟨_,_,Tryz.underlying37,rfl,rfl,ty3⟩,by decide⟩
theorem subApiToken_At :Sub af 2 (Rp.int .i64) ApiToken.At:=Sub.strct fApiToken 2 _ rfl
theorem ty9 :TyOK Tryz.prog 9 1 false:=⟨Tryz.sizeOf9,Tryz.isAgg9⟩
theorem fld37_1 :FldOK Tryz.prog 37 1 1 1 false:=⟨⟨_,_,Tryz.underlying37,rfl,rfl,ty9⟩,by decide⟩
theorem subApiToken_Text :Sub af 1 bh ApiToken.Text:=Sub.strct fApiToken 1 _ rfl
theorem st32 :StOK Tryz.prog 32 fApiNode (ApiNode.mk 0 [] [] 0 0 0 0 0 (Hd.mk none 0 0)):=stOK Tryz.underlying32 Tryz.zeroValue32 (fun _=>⟨_,_,rfl,rfl,⟨_,_,rfl,rfl,⟨_,_,rfl,rfl,⟨_,_,rfl,rfl,⟨_,_,rfl,rfl,⟨_,_,rfl,rfl,⟨_,_,rfl,rfl,⟨_,_,rfl,rfl,⟨_,_,rfl,rfl,rfl⟩⟩⟩⟩⟩⟩⟩⟩⟩) ⟨rfl,Tryz.sizeOf3,rfl,Tryz.sizeOf9,rfl,Tryz.sizeOf9,rfl,Tryz.sizeOf2,rfl,Tryz.sizeOf3,rfl,Tryz.sizeOf3,rfl,Tryz.sizeOf3,rfl,Tryz.sizeOf3,rfl,Tryz.sizeOf24,trivial⟩
theorem ty32 :TyOK Tryz.prog 32 9 true:=⟨Tryz.sizeOf32,Tryz.isAgg32⟩
theorem parse_parser_made_ok (x1:ParseParser) (x2 x3:Int) (x4:Hd) (r:ApiNode) (h:parse_parser_made x1 x2 x3 x4=some r):FnP Tryz.prog 44 [br ae x1,Pr.i64 x2,Pr.i64 x3,(Rp.hd).val x4] ((rApiNode).val r):=by
 refine j4 (n:=38) (rs:=[.cell 8 32]) Tryz.func44 rfl Tryz.ntmps44 Tryz.results44 (by decide) (fun s0=> ?_)
 unfold parse_parser_made at h
 refine W_rs ?_
 refine bi (R:=rApiNode) (z:=(ApiNode.mk 0 [] [] 0 0 0 0 0 (Hd.mk none 0 0))) Tryz.zeroValue32 (fun _=>⟨_,⟨_,_,rfl,rfl,⟨_,_,rfl,rfl,⟨_,_,rfl,rfl,⟨_,_,rfl,rfl,⟨_,_,rfl,rfl,⟨_,_,rfl,rfl,⟨_,_,rfl,rfl,⟨_,_,rfl,rfl,⟨_,_,rfl,rfl,rfl⟩⟩⟩⟩⟩⟩⟩⟩⟩,rfl⟩) (fun b5=> ?_)
 refine cd (fun e C=>∃(x6:ApiToken),∃(b7:Nat),parse_parser_made_j2 x1 x3 x2 x4 x6=some r/\At [(0,br ae x1),(1,Pr.i64 x2),(2,Pr.i64 x3),(3,(Rp.hd).val x4),(8,al b5 0),(9,al b7 0)] [Own.box b5 rApiNode (ApiNode.mk 0 [] [] 0 0 0 0 0 (Hd.mk none 0 0)),Own.box b7 af x6] e C) ?_ ?_
 ·rintro e C ⟨x6,b7,h,hat2⟩
  refine W_at hat2 ?_
  clear hat2
  unfold parse_parser_made_j2 at h
  refine cd (fun e C=>∃(x8:ApiToken),parse_parser_made_j1 x2 x6 x4 x8=some r/\At [(8,al b5 0)] [Own.box b5 rApiNode (ApiNode.mk x2 [] [] 0 x8.At (w64 (x6.At+(x6.Text.length:Int))) (-1) (-1) x4),Own.box b7 af x6] e C) ?_ ?_
  ·rintro e C ⟨x8,h,hat1⟩
   refine W_at hat1 ?_
   clear hat1
   unfold parse_parser_made_j1 at h
   obtain rfl:=Option.some.inj h
   exact bp ⟨rfl,[(rApiNode).val (ApiNode.mk x2 [] [] 0 x8.At (w64 (x6.At+(x6.Text.length:Int))) (-1) (-1) x4)],⟨yBox 0 ty32 aa,trivial⟩,aa⟩
  refine W_draw 17 hmx (by kernel_rfl) (by kernel_rfl) ?_
  refine qq (out:=Pr.i64 x2) ai ?_
  refine qq (out:=br ae x1) ai ?_
  refine qq (out:=br ae x1) qNilC ?_
  refine qq (out:=br (ba af) x1.t) (qFieldC (R:=ae) (a:=x1) fld65_0 subParseParser_t) ?_
  refine qq (out:=av af x1.t) (gr (R:=ba af) (a:=x1.t) ty33) ?_
  refine qq (out:=Pr.i64 x3) ai ?_
  obtain⟨x8,hx8,h⟩:=ak h
  refine qq (out:=br af x8) (qIdxA (R:=af) (l:=x1.t) Tryz.underlying33 Tryz.sizeOf37 hx8) ?_
  refine qq (out:=br (Rp.int .i64) x8.At) (qFieldC (R:=af) (a:=x8) fld37_2 subApiToken_At) ?_
  refine qq (out:=Pr.i64 x8.At) (gr (R:=Rp.int .i64) (a:=x8.At) ty3) ?_
  refine qq (out:=al b7 2) (a3 fld37_2) ?_
  refine qq (out:=Pr.i64 x6.At) (a7 (R:=af) (a:=x6) (R':=Rp.int .i64) 1 ty3 subApiToken_At) ?_
  refine qq (out:=al b7 1) (a3 fld37_1) ?_
  refine qq (out:=ar x6.Text) (a7 (R:=af) (a:=x6) (R':=bh) 1 ty9 subApiToken_Text) ?_
  refine qq (out:=Pr.i64 (x6.Text.length:Int)) (qLenS rfl Tryz.underlying9) ?_
  refine qq (out:=Pr.i64 (w64 (x6.At+(x6.Text.length:Int)))) qInt ?_
  refine qq (out:=(Rp.hd).val x4) ai ?_
  refine qq (out:=(rApiNode).val (ApiNode.mk x2 [] [] 0 x8.At (w64 (x6.At+(x6.Text.length:Int))) (-1) (-1) x4)) (qBuild st32 ⟨(ApiNode.mk x2 [] [] 0 0 0 0 0 (Hd.mk none 0 0)),⟨_,rfl,rfl,fun j fd hj hf=>by match j,hj with| 0,h=>exact absurd rfl h| 1,_=>cases hf;rfl| 2,_=>cases hf;rfl| 3,_=>cases hf;rfl| 4,_=>cases hf;rfl| 5,_=>cases hf;rfl| 6,_=>cases hf;rfl| 7,_=>cases hf;rfl| 8,_=>cases hf;rfl|_+9,_=>cases hf⟩,⟨(ApiNode.mk x2 [] [] 0 x8.At 0 0 0 (Hd.mk none 0 0)),⟨_,rfl,rfl,fun j fd hj hf=>by match j,hj with| 0,_=>cases hf;rfl| 1,_=>cases hf;rfl| 2,_=>cases hf;rfl| 3,_=>cases hf;rfl| 4,h=>exact absurd rfl h| 5,_=>cases hf;rfl| 6,_=>cases hf;rfl| 7,_=>cases hf;rfl| 8,_=>cases hf;rfl|_+9,_=>cases hf⟩,⟨(ApiNode.mk x2 [] [] 0 x8.At (w64 (x6.At+(x6.Text.length:Int))) 0 0 (Hd.mk none 0 0)),⟨_,rfl,rfl,fun j fd hj hf=>by match j,hj with| 0,_=>cases hf;rfl| 1,_=>cases hf;rfl| 2,_=>cases hf;rfl| 3,_=>cases hf;rfl| 4,_=>cases hf;rfl| 5,h=>exact absurd rfl h| 6,_=>cases hf;rfl| 7,_=>cases hf;rfl| 8,_=>cases hf;rfl|_+9,_=>cases hf⟩,⟨(ApiNode.mk x2 [] [] 0 x8.At (w64 (x6.At+(x6.Text.length:Int))) (-1) 0 (Hd.mk none 0 0)),⟨_,rfl,rfl,fun j fd hj hf=>by match j,hj with| 0,_=>cases hf;rfl| 1,_=>cases hf;rfl| 2,_=>cases hf;rfl| 3,_=>cases hf;rfl| 4,_=>cases hf;rfl| 5,_=>cases hf;rfl| 6,h=>exact absurd rfl h| 7,_=>cases hf;rfl| 8,_=>cases hf;rfl|_+9,_=>cases hf⟩,⟨(ApiNode.mk x2 [] [] 0 x8.At (w64 (x6.At+(x6.Text.length:Int))) (-1) (-1) (Hd.mk none 0 0)),⟨_,rfl,rfl,fun j fd hj hf=>by match j,hj with| 0,_=>cases hf;rfl| 1,_=>cases hf;rfl| 2,_=>cases hf;rfl| 3,_=>cases hf;rfl| 4,_=>cases hf;rfl| 5,_=>cases hf;rfl| 6,_=>cases hf;rfl| 7,h=>exact absurd rfl h| 8,_=>cases hf;rfl|_+9,_=>cases hf⟩,⟨(ApiNode.mk x2 [] [] 0 x8.At (w64 (x6.At+(x6.Text.length:Int))) (-1) (-1) x4),⟨_,rfl,rfl,fun j fd hj hf=>by match j,hj with| 0,_=>cases hf;rfl| 1,_=>cases hf;rfl| 2,_=>cases hf;rfl| 3,_=>cases hf;rfl| 4,_=>cases hf;rfl| 5,_=>cases hf;rfl| 6,_=>cases hf;rfl| 7,_=>cases hf;rfl| 8,h=>exact absurd rfl h|_+9,_=>cases hf⟩,rfl⟩⟩⟩⟩⟩⟩) ?_
  refine a5 (R:=rApiNode) (R':=rApiNode) (a:=(ApiNode.mk 0 [] [] 0 0 0 0 0 (Hd.mk none 0 0))) (y:=(ApiNode.mk x2 [] [] 0 x8.At (w64 (x6.At+(x6.Text.length:Int))) (-1) (-1) x4)) 0 Tryz.sizeOf32 (Upd.refl _) ?_
  exact⟨x8,h,⟨⟨aa,trivial⟩,Pick.refl _⟩⟩
 obtain⟨x6,hx6,h⟩:=ak h
 refine W_drawG 1 (fun B S=>[Own.box b5 rApiNode (ApiNode.mk 0 [] [] 0 0 0 0 0 (Hd.mk none 0 0)),(cond (S 12) (Own.box (B 11) af x6) (cond (S 11) (Own.box (B 11) af (ApiToken.mk 0 [] 0 [])) Own.nil))]) (fun B=>[Own.box b5 rApiNode (ApiNode.mk 0 [] [] 0 0 0 0 0 (Hd.mk none 0 0)),Own.box (B 11) af x6]) [br ae x1,br ae x1,br (ba af) x1.t,av af x1.t,br ae x1,br ae x1,br (Rp.int .i64) x1.at_,Pr.i64 x1.at_,Pr.i64 (w64 (x1.at_ - 1)),br af x6,(af).val x6,.any,.any] (fun k=>([0,0,0,0,0,0,0,0,0,0,0,2,1]:List Nat).getD k 0) hmx (by kernel_rfl) (by kernel_rfl) (fun _=>rfl) (fun B S S' h=>by show([Own.box b5 rApiNode (ApiNode.mk 0 [] [] 0 0 0 0 0 (Hd.mk none 0 0)),(cond (S 12) (Own.box (B 11) af x6) (cond (S 11) (Own.box (B 11) af (ApiToken.mk 0 [] 0 [])) Own.nil))]:Ctx)=[Own.box b5 rApiNode (ApiNode.mk 0 [] [] 0 0 0 0 0 (Hd.mk none 0 0)),(cond (S' 12) (Own.box (B 11) af x6) (cond (S' 11) (Own.box (B 11) af (ApiToken.mk 0 [] 0 [])) Own.nil))];simp only[h 11 (Nat.le_of_ble_eq_true (by kernel_rfl)),h 12 (Nat.le_of_ble_eq_true (by kernel_rfl))]) (fun _=>rfl) (fun B=> ?_)
 refine gq1 (fun S hK=>ai) ?_
 refine gq1 (fun S hK=>qNilC) ?_
 refine gq1 (fun S hK=>(qFieldC (R:=ae) (a:=x1) fld65_0 subParseParser_t)) ?_
 refine gq1 (fun S hK=>(gr (R:=ba af) (a:=x1.t) ty33)) ?_
 refine gq1 (fun S hK=>ai) ?_
 refine gq1 (fun S hK=>qNilC) ?_
 refine gq1 (fun S hK=>(qFieldC (R:=ae) (a:=x1) fld65_1 subParseParser_at)) ?_
 refine gq1 (fun S hK=>(gr (R:=Rp.int .i64) (a:=x1.at_) ty3)) ?_
 refine gq1 (fun S hK=>qInt) ?_
 refine gq1 (fun S hK=>(qIdxA (R:=af) (l:=x1.t) Tryz.underlying33 Tryz.sizeOf37 hx6)) ?_
 refine gq1 (fun S hK=>(gr (R:=af) (a:=x6) ty37)) ?_
 refine gqA (fun S hK=>⟨fun B' hB=>by show([Own.box b5 rApiNode (ApiNode.mk 0 [] [] 0 0 0 0 0 (Hd.mk none 0 0)),(cond (S 12) (Own.box (B' 11) af x6) (cond (S 11) (Own.box (B' 11) af (ApiToken.mk 0 [] 0 [])) Own.nil))]:Ctx)=[Own.box b5 rApiNode (ApiNode.mk 0 [] [] 0 0 0 0 0 (Hd.mk none 0 0)),(cond (S 12) (Own.box (B 11) af x6) (cond (S 11) (Own.box (B 11) af (ApiToken.mk 0 [] 0 [])) Own.nil))];simp only[hK.me,hK.F 12 (by kernel_rfl),cond_false],fun s ρ hg _=>sAlloc (R:=af) (z:=(ApiToken.mk 0 [] 0 [])) 1 Tryz.zeroValue37 (fun _=>⟨_,⟨_,_,rfl,rfl,⟨_,_,rfl,rfl,⟨_,_,rfl,rfl,⟨_,_,rfl,rfl,rfl⟩⟩⟩⟩,rfl⟩) (congrArg some ((condF (hK.F 12 (by kernel_rfl)) _ _).trans (condF (hK.me) _ _))) (fun b=>by show([Own.box b5 rApiNode (ApiNode.mk 0 [] [] 0 0 0 0 0 (Hd.mk none 0 0)),(cond (S 12) (Own.box b af x6) (Own.box b af (ApiToken.mk 0 [] 0 [])))]:Ctx)=_;rw[hK.F 12 (by kernel_rfl)];rfl) s ρ hg⟩) ?_
 refine gqS (fun S hK=>SStep.as (sStore (R:=af) (R':=af) (a:=(ApiToken.mk 0 [] 0 [])) (y:=x6) 1 Tryz.sizeOf37 (Upd.refl _) (congrArg some ((condF (hK.me) _ _).trans (condT (hK.T 11 (by kernel_rfl)) _ _)))) (by show(_:Ctx)=[Own.box b5 rApiNode (ApiNode.mk 0 [] [] 0 0 0 0 0 (Hd.mk none 0 0)),Own.box (B 11) af x6];rfl)) ?_
 exact⟨x6,(B 11),h,⟨⟨aa,aa,aa,aa,aa,aa,trivial⟩,Pick.refl _⟩⟩
end HN
end Go.Proofs.YtackaijkmkollaaGreatDoor
