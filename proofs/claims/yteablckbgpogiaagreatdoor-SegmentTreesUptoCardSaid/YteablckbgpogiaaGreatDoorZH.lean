/- The maker of nodes, what it passes on left as it stands (printed by wip/gen/gen.py). -/
import Derived.Test.YteablckbgpogiaaGreatDoorProg
import Derived.Test.YteablckbgpogiaaGreatDoorZJ
import Derived.Test.YteablckbgpogiaaGreatDoorZT
set_option linter.unusedSimpArgs false
set_option linter.unusedVariables false
set_option linter.unusedSectionVars false
set_option linter.unusedSectionVars false
set_option maxRecDepth 100000
set_option maxHeartbeats 4000000
namespace Go.Proofs.YteablckbgpogiaaGreatDoor
open Go Go.Cn
def cellsKept :List Value:=kept.flatMap fun l=>[.string ⟨l.toArray⟩]
def cellsClashes :List Value:=clashes.flatMap fun p=>[.string ⟨p.1.toArray⟩,.string ⟨p.2.toArray⟩]
class Known where
 clashes:Prop
class HasClashes [Known]:Prop where
 it:Known.clashes
instance theGlob [Known]:Glob where
 ok s:=GCells s 0 cellsKept/\(Known.clashes->GCells s 99 cellsClashes)/\(∃m,GCells s 1 [.int .i64 m])/\∃t v,GCells s 3 [.iface t v]
 mono _ _ h k:=⟨k.1.mono h,fun h'=>(k.2.1 h').mono h,k.2.2.1.imp fun _ k=>k.mono h,k.2.2.2.imp fun _ k=>k.imp fun _ k=>k.mono h⟩
variable [Known]
theorem hmx :Tryz.prog.follows .mixedOrders=true:=by kernel_rfl
def fApiToken :List (Go.Cn.Fd ApiToken):=[⟨_,Rp.int .i64,ApiToken.Kind⟩,⟨_,ct,ApiToken.Text⟩,⟨_,Rp.int .i64,ApiToken.At⟩,⟨_,ct,ApiToken.Lead⟩]
abbrev ah :Rp ApiToken:=fr fApiToken
def gApiNode :List (FG ApiNode):=[FG.const (Rp.int .i64) ApiNode.Kind,FG.const (ct) ApiNode.Text,FG.const (ct) ApiNode.Type_,FG.const (Rp.int .i64) ApiNode.N,FG.const (Rp.int .i64) ApiNode.From,FG.const (Rp.int .i64) ApiNode.To,FG.const (Rp.int .i64) ApiNode.At,FG.const (Rp.int .i64) ApiNode.TypeAt,FG.list ApiNode.Kids]
def rApiNode :Rp ApiNode:=Rp.fix gApiNode 9 rfl
def fApiNode :List (Go.Cn.Fd ApiNode):=[⟨_,Rp.int .i64,ApiNode.Kind⟩,⟨_,ct,ApiNode.Text⟩,⟨_,ct,ApiNode.Type_⟩,⟨_,Rp.int .i64,ApiNode.N⟩,⟨_,Rp.int .i64,ApiNode.From⟩,⟨_,Rp.int .i64,ApiNode.To⟩,⟨_,Rp.int .i64,ApiNode.At⟩,⟨_,Rp.int .i64,ApiNode.TypeAt⟩,⟨_,bx rApiNode,ApiNode.Kids⟩]
theorem au :rApiNode=fr fApiNode:=Rp.fix_eq _
def pb :List (Go.Cn.Fd ParseParser):=[⟨_,bx ah,ParseParser.t⟩,⟨_,Rp.int .i64,ParseParser.at_⟩]
abbrev ae :Rp ParseParser:=fr pb
def fApiMistake :List (Go.Cn.Fd ApiMistake):=[⟨_,Rp.int .i64,ApiMistake.Code⟩,⟨_,Rp.int .i64,ApiMistake.File⟩,⟨_,Rp.int .i64,ApiMistake.At⟩]
abbrev ai :Rp ApiMistake:=fr fApiMistake
def fParseWrong :List (Go.Cn.Fd ParseWrong):=[⟨_,ai,ParseWrong.m⟩]
abbrev im :Rp ParseWrong:=fr fParseWrong
def fApiSegment :List (Go.Cn.Fd ApiSegment):=[⟨_,ct,ApiSegment.Key⟩,⟨_,ct,ApiSegment.Text⟩]
abbrev a6 :Rp ApiSegment:=fr fApiSegment
def fApiFile :List (Go.Cn.Fd ApiFile):=[⟨_,ct,ApiFile.Path⟩,⟨_,ct,ApiFile.Text⟩]
abbrev en :Rp ApiFile:=fr fApiFile
def fRef12Wrong :List (Go.Cn.Fd Ref12Wrong):=[⟨_,Rp.int .i64,Ref12Wrong.Place⟩,⟨_,Rp.int .i64,Ref12Wrong.Code⟩]
abbrev ac :Rp Ref12Wrong:=fr fRef12Wrong
def spec111 (f:(Int->Option Bool)):List Pr->Pr->Prop:=fun args res=>∃(a0:Int) (r:Bool),args=[Pr.u8 a0]/\res=Pr.bool r/\f a0=some r
theorem ty9 :TyOK Tryz.prog 9 1 false:=⟨Tryz.sizeOf9,Tryz.isAgg9⟩
theorem ty3 :TyOK Tryz.prog 3 1 false:=⟨Tryz.sizeOf3,Tryz.isAgg3⟩
theorem st74 :StOK Tryz.prog 74 fApiToken (ApiToken.mk 0 [] 0 []):=stOK Tryz.underlying74 Tryz.zeroValue74 (fun _=>⟨_,_,rfl,rfl,⟨_,_,rfl,rfl,⟨_,_,rfl,rfl,⟨_,_,rfl,rfl,rfl⟩⟩⟩⟩) ⟨rfl,Tryz.sizeOf3,rfl,Tryz.sizeOf9,rfl,Tryz.sizeOf3,rfl,Tryz.sizeOf9,trivial⟩
theorem el70 :ElOK Tryz.prog 70 74 4 48:=⟨Tryz.underlying70,⟨Tryz.t74,_,rfl,rfl,rfl,rfl,rfl⟩,by decide⟩
theorem en101 :Enters Tryz.prog 101:=⟨_,Tryz.func101,by decide,rfl⟩
theorem en102 :Enters Tryz.prog 102:=⟨_,Tryz.func102,by decide,rfl⟩
theorem el36 :ElOK Tryz.prog 36 9 1 16:=⟨Tryz.underlying36,⟨Tryz.t9,_,rfl,rfl,rfl,rfl,rfl⟩,by decide⟩
theorem en128 :Enters Tryz.prog 128:=⟨_,Tryz.func128,by decide,rfl⟩
theorem en103 :Enters Tryz.prog 103:=⟨_,Tryz.func103,by decide,rfl⟩
theorem en104 :Enters Tryz.prog 104:=⟨_,Tryz.func104,by decide,rfl⟩
theorem en106 :Enters Tryz.prog 106:=⟨_,Tryz.func106,by decide,rfl⟩
theorem ty44 :TyOK Tryz.prog 44 1 false:=⟨Tryz.sizeOf44,Tryz.isAgg44⟩
theorem fld48_8 :FldOK Tryz.prog 48 8 8 1 false:=⟨⟨_,_,Tryz.underlying48,rfl,rfl,ty44⟩,by decide⟩
theorem mf :Sub rApiNode 8 (bx rApiNode) ApiNode.Kids:=Sub.ofEq au (Sub.strct fApiNode 8 _ rfl)
theorem ty48 :TyOK Tryz.prog 48 9 true:=⟨Tryz.sizeOf48,Tryz.isAgg48⟩
theorem ty70 :TyOK Tryz.prog 70 1 false:=⟨Tryz.sizeOf70,Tryz.isAgg70⟩
theorem fld103_0 :FldOK Tryz.prog 103 0 0 1 false:=⟨⟨_,_,Tryz.underlying103,rfl,rfl,ty70⟩,by decide⟩
theorem subParseParser_t :Sub ae 0 (bx ah) ParseParser.t:=Sub.strct pb 0 _ rfl
theorem fld103_1 :FldOK Tryz.prog 103 1 1 1 false:=⟨⟨_,_,Tryz.underlying103,rfl,rfl,ty3⟩,by decide⟩
theorem subParseParser_at :Sub ae 1 (Rp.int .i64) ParseParser.at_:=Sub.strct pb 1 _ rfl
theorem ty74 :TyOK Tryz.prog 74 4 true:=⟨Tryz.sizeOf74,Tryz.isAgg74⟩
theorem kh :Flat ah:=flat_strct ⟨(flat_int _),flat_str,(flat_int _),flat_str,trivial⟩
theorem fld74_2 :FldOK Tryz.prog 74 2 2 1 false:=⟨⟨_,_,Tryz.underlying74,rfl,rfl,ty3⟩,by decide⟩
theorem subApiToken_At :Sub ah 2 (Rp.int .i64) ApiToken.At:=Sub.strct fApiToken 2 _ rfl
theorem st28 :StOK Tryz.prog 28 fApiMistake (ApiMistake.mk 0 0 0):=stOK Tryz.underlying28 Tryz.zeroValue28 (fun _=>⟨_,_,rfl,rfl,⟨_,_,rfl,rfl,⟨_,_,rfl,rfl,rfl⟩⟩⟩) ⟨rfl,Tryz.sizeOf26,rfl,Tryz.sizeOf3,rfl,Tryz.sizeOf3,trivial⟩
theorem st100 :StOK Tryz.prog 100 fParseWrong (ParseWrong.mk (ApiMistake.mk 0 0 0)):=stOK Tryz.underlying100 Tryz.zeroValue100 (fun _=>⟨_,_,rfl,⟨_,_,rfl,rfl,⟨_,_,rfl,rfl,⟨_,_,rfl,rfl,rfl⟩⟩⟩,rfl⟩) ⟨rfl,Tryz.sizeOf28,trivial⟩
theorem fld74_1 :FldOK Tryz.prog 74 1 1 1 false:=⟨⟨_,_,Tryz.underlying74,rfl,rfl,ty9⟩,by decide⟩
theorem subApiToken_Text :Sub ah 1 ct ApiToken.Text:=Sub.strct fApiToken 1 _ rfl
theorem qc :FldOK Tryz.prog 74 0 0 1 false:=⟨⟨_,_,Tryz.underlying74,rfl,rfl,ty3⟩,by decide⟩
theorem dn :Sub ah 0 (Rp.int .i64) ApiToken.Kind:=Sub.strct fApiToken 0 _ rfl
theorem updParseParser_at :Upd ae 1 (Rp.int .i64) (fun x y=>{x with at_:=y}):=Upd.strct pb 1 (fd:=⟨_,Rp.int .i64,ParseParser.at_⟩) rfl (fun _ _=>rfl) (by intro x y j fd hj hf;match j,hj with| 0,_=>(cases hf;rfl)| 1,h=>exact absurd rfl h|_+2,_=>cases hf)
theorem oo :FldOK Tryz.prog 48 1 1 1 false:=⟨⟨_,_,Tryz.underlying48,rfl,rfl,ty9⟩,by decide⟩
theorem jt :Upd rApiNode 1 ct (fun x y=>{x with Text:=y}):=Upd.ofEq au (Upd.strct fApiNode 1 (fd:=⟨_,ct,ApiNode.Text⟩) rfl (fun _ _=>rfl) (by intro x y j fd hj hf;match j,hj with| 0,_=>(cases hf;rfl)| 1,h=>exact absurd rfl h| 2,_=>(cases hf;rfl)| 3,_=>(cases hf;rfl)| 4,_=>(cases hf;rfl)| 5,_=>(cases hf;rfl)| 6,_=>(cases hf;rfl)| 7,_=>(cases hf;rfl)| 8,_=>(cases hf;rfl)|_+9,_=>cases hf))
theorem fld48_6 :FldOK Tryz.prog 48 6 6 1 false:=⟨⟨_,_,Tryz.underlying48,rfl,rfl,ty3⟩,by decide⟩
theorem pl :Upd rApiNode 6 (Rp.int .i64) (fun x y=>{x with At:=y}):=Upd.ofEq au (Upd.strct fApiNode 6 (fd:=⟨_,Rp.int .i64,ApiNode.At⟩) rfl (fun _ _=>rfl) (by intro x y j fd hj hf;match j,hj with| 0,_=>(cases hf;rfl)| 1,_=>(cases hf;rfl)| 2,_=>(cases hf;rfl)| 3,_=>(cases hf;rfl)| 4,_=>(cases hf;rfl)| 5,_=>(cases hf;rfl)| 6,h=>exact absurd rfl h| 7,_=>(cases hf;rfl)| 8,_=>(cases hf;rfl)|_+9,_=>cases hf))
theorem fld48_2 :FldOK Tryz.prog 48 2 2 1 false:=⟨⟨_,_,Tryz.underlying48,rfl,rfl,ty9⟩,by decide⟩
theorem updApiNode_Type :Upd rApiNode 2 ct (fun x y=>{x with Type_:=y}):=Upd.ofEq au (Upd.strct fApiNode 2 (fd:=⟨_,ct,ApiNode.Type_⟩) rfl (fun _ _=>rfl) (by intro x y j fd hj hf;match j,hj with| 0,_=>(cases hf;rfl)| 1,_=>(cases hf;rfl)| 2,h=>exact absurd rfl h| 3,_=>(cases hf;rfl)| 4,_=>(cases hf;rfl)| 5,_=>(cases hf;rfl)| 6,_=>(cases hf;rfl)| 7,_=>(cases hf;rfl)| 8,_=>(cases hf;rfl)|_+9,_=>cases hf))
theorem fld48_7 :FldOK Tryz.prog 48 7 7 1 false:=⟨⟨_,_,Tryz.underlying48,rfl,rfl,ty3⟩,by decide⟩
theorem updApiNode_TypeAt :Upd rApiNode 7 (Rp.int .i64) (fun x y=>{x with TypeAt:=y}):=Upd.ofEq au (Upd.strct fApiNode 7 (fd:=⟨_,Rp.int .i64,ApiNode.TypeAt⟩) rfl (fun _ _=>rfl) (by intro x y j fd hj hf;match j,hj with| 0,_=>(cases hf;rfl)| 1,_=>(cases hf;rfl)| 2,_=>(cases hf;rfl)| 3,_=>(cases hf;rfl)| 4,_=>(cases hf;rfl)| 5,_=>(cases hf;rfl)| 6,_=>(cases hf;rfl)| 7,h=>exact absurd rfl h| 8,_=>(cases hf;rfl)|_+9,_=>cases hf))
theorem el44 :ElOK Tryz.prog 44 48 9 104:=⟨Tryz.underlying44,⟨Tryz.t48,_,rfl,rfl,rfl,rfl,rfl⟩,by decide⟩
theorem st48 :StOK Tryz.prog 48 fApiNode (ApiNode.mk 0 [] [] 0 0 0 0 0 []):=stOK Tryz.underlying48 Tryz.zeroValue48 (fun _=>⟨_,_,rfl,rfl,⟨_,_,rfl,rfl,⟨_,_,rfl,rfl,⟨_,_,rfl,rfl,⟨_,_,rfl,rfl,⟨_,_,rfl,rfl,⟨_,_,rfl,rfl,⟨_,_,rfl,rfl,⟨_,_,rfl,⟨_,rfl,none,0,rfl,⟨Nat.le_refl _,fun _=>rfl⟩,.inl rfl⟩,rfl⟩⟩⟩⟩⟩⟩⟩⟩⟩) ⟨rfl,Tryz.sizeOf3,rfl,Tryz.sizeOf9,rfl,Tryz.sizeOf9,rfl,Tryz.sizeOf2,rfl,Tryz.sizeOf3,rfl,Tryz.sizeOf3,rfl,Tryz.sizeOf3,rfl,Tryz.sizeOf3,rfl,Tryz.sizeOf44,trivial⟩
theorem ty2 :TyOK Tryz.prog 2 1 false:=⟨Tryz.sizeOf2,Tryz.isAgg2⟩
theorem fld48_3 :FldOK Tryz.prog 48 3 3 1 false:=⟨⟨_,_,Tryz.underlying48,rfl,rfl,ty2⟩,by decide⟩
theorem q7 :Upd rApiNode 3 (Rp.int .i64) (fun x y=>{x with N:=y}):=Upd.ofEq au (Upd.strct fApiNode 3 (fd:=⟨_,Rp.int .i64,ApiNode.N⟩) rfl (fun _ _=>rfl) (by intro x y j fd hj hf;match j,hj with| 0,_=>(cases hf;rfl)| 1,_=>(cases hf;rfl)| 2,_=>(cases hf;rfl)| 3,h=>exact absurd rfl h| 4,_=>(cases hf;rfl)| 5,_=>(cases hf;rfl)| 6,_=>(cases hf;rfl)| 7,_=>(cases hf;rfl)| 8,_=>(cases hf;rfl)|_+9,_=>cases hf))
theorem fld48_0 :FldOK Tryz.prog 48 0 0 1 false:=⟨⟨_,_,Tryz.underlying48,rfl,rfl,ty3⟩,by decide⟩
theorem subApiNode_Kind :Sub rApiNode 0 (Rp.int .i64) ApiNode.Kind:=Sub.ofEq au (Sub.strct fApiNode 0 _ rfl)
theorem subApiNode_N :Sub rApiNode 3 (Rp.int .i64) ApiNode.N:=Sub.ofEq au (Sub.strct fApiNode 3 _ rfl)
theorem ty28 :TyOK Tryz.prog 28 3 true:=⟨Tryz.sizeOf28,Tryz.isAgg28⟩
theorem st25 :StOK Tryz.prog 25 fApiSegment (ApiSegment.mk [] []):=stOK Tryz.underlying25 Tryz.zeroValue25 (fun _=>⟨_,_,rfl,rfl,⟨_,_,rfl,rfl,rfl⟩⟩) ⟨rfl,Tryz.sizeOf9,rfl,Tryz.sizeOf9,trivial⟩
theorem el22 :ElOK Tryz.prog 22 25 2 32:=⟨Tryz.underlying22,⟨Tryz.t25,_,rfl,rfl,rfl,rfl,rfl⟩,by decide⟩
theorem ie :Sub rApiNode 1 ct ApiNode.Text:=Sub.ofEq au (Sub.strct fApiNode 1 _ rfl)
theorem fld48_4 :FldOK Tryz.prog 48 4 4 1 false:=⟨⟨_,_,Tryz.underlying48,rfl,rfl,ty3⟩,by decide⟩
theorem subApiNode_From :Sub rApiNode 4 (Rp.int .i64) ApiNode.From:=Sub.ofEq au (Sub.strct fApiNode 4 _ rfl)
theorem fld48_5 :FldOK Tryz.prog 48 5 5 1 false:=⟨⟨_,_,Tryz.underlying48,rfl,rfl,ty3⟩,by decide⟩
theorem pm :Sub rApiNode 5 (Rp.int .i64) ApiNode.To:=Sub.ofEq au (Sub.strct fApiNode 5 _ rfl)
theorem ty26 :TyOK Tryz.prog 26 1 false:=⟨Tryz.sizeOf26,Tryz.isAgg26⟩
theorem fld28_0 :FldOK Tryz.prog 28 0 0 1 false:=⟨⟨_,_,Tryz.underlying28,rfl,rfl,ty26⟩,by decide⟩
theorem gu :Sub ai 0 (Rp.int .i64) ApiMistake.Code:=Sub.strct fApiMistake 0 _ rfl
theorem ty25 :TyOK Tryz.prog 25 2 true:=⟨Tryz.sizeOf25,Tryz.isAgg25⟩
theorem fld25_0 :FldOK Tryz.prog 25 0 0 1 false:=⟨⟨_,_,Tryz.underlying25,rfl,rfl,ty9⟩,by decide⟩
theorem mo :Sub a6 0 ct ApiSegment.Key:=Sub.strct fApiSegment 0 _ rfl
theorem fld25_1 :FldOK Tryz.prog 25 1 1 1 false:=⟨⟨_,_,Tryz.underlying25,rfl,rfl,ty9⟩,by decide⟩
theorem subApiSegment_Text :Sub a6 1 ct ApiSegment.Text:=Sub.strct fApiSegment 1 _ rfl
theorem en30 :Enters Tryz.prog 30:=⟨_,Tryz.func30,by decide,rfl⟩
theorem ty50 :TyOK Tryz.prog 50 2 true:=⟨Tryz.sizeOf50,Tryz.isAgg50⟩
theorem fld50_1 :FldOK Tryz.prog 50 1 1 1 false:=⟨⟨_,_,Tryz.underlying50,rfl,rfl,ty9⟩,by decide⟩
theorem kz :Sub en 1 ct ApiFile.Text:=Sub.strct fApiFile 1 _ rfl
theorem en95 :Enters Tryz.prog 95:=⟨_,Tryz.func95,by decide,rfl⟩
theorem fld50_0 :FldOK Tryz.prog 50 0 0 1 false:=⟨⟨_,_,Tryz.underlying50,rfl,rfl,ty9⟩,by decide⟩
theorem i6 :Sub en 0 ct ApiFile.Path:=Sub.strct fApiFile 0 _ rfl
theorem fld28_1 :FldOK Tryz.prog 28 1 1 1 false:=⟨⟨_,_,Tryz.underlying28,rfl,rfl,ty3⟩,by decide⟩
theorem updApiMistake_File :Upd ai 1 (Rp.int .i64) (fun x y=>{x with File:=y}):=Upd.strct fApiMistake 1 (fd:=⟨_,Rp.int .i64,ApiMistake.File⟩) rfl (fun _ _=>rfl) (by intro x y j fd hj hf;match j,hj with| 0,_=>(cases hf;rfl)| 1,h=>exact absurd rfl h| 2,_=>(cases hf;rfl)|_+3,_=>cases hf)
theorem el67 :ElOK Tryz.prog 67 44 1 24:=⟨Tryz.underlying67,⟨Tryz.t44,_,rfl,rfl,rfl,rfl,rfl⟩,by decide⟩
theorem updApiSegment_Key :Upd a6 0 ct (fun x y=>{x with Key:=y}):=Upd.strct fApiSegment 0 (fd:=⟨_,ct,ApiSegment.Key⟩) rfl (fun _ _=>rfl) (by intro x y j fd hj hf;match j,hj with| 0,h=>exact absurd rfl h| 1,_=>(cases hf;rfl)|_+2,_=>cases hf)
theorem st50 :StOK Tryz.prog 50 fApiFile (ApiFile.mk [] []):=stOK Tryz.underlying50 Tryz.zeroValue50 (fun _=>⟨_,_,rfl,rfl,⟨_,_,rfl,rfl,rfl⟩⟩) ⟨rfl,Tryz.sizeOf9,rfl,Tryz.sizeOf9,trivial⟩
theorem el40 :ElOK Tryz.prog 40 50 2 32:=⟨Tryz.underlying40,⟨Tryz.t50,_,rfl,rfl,rfl,rfl,rfl⟩,by decide⟩
theorem st76 :StOK Tryz.prog 76 fRef12Wrong (Ref12Wrong.mk 0 0):=stOK Tryz.underlying76 Tryz.zeroValue76 (fun _=>⟨_,_,rfl,rfl,⟨_,_,rfl,rfl,rfl⟩⟩) ⟨rfl,Tryz.sizeOf3,rfl,Tryz.sizeOf26,trivial⟩
theorem ty76 :TyOK Tryz.prog 76 2 true:=⟨Tryz.sizeOf76,Tryz.isAgg76⟩
theorem el179 :ElOK Tryz.prog 179 36 1 24:=⟨Tryz.underlying179,⟨Tryz.t36,_,rfl,rfl,rfl,rfl,rfl⟩,by decide⟩
theorem ty36 :TyOK Tryz.prog 36 1 false:=⟨Tryz.sizeOf36,Tryz.isAgg36⟩
theorem kv :FldOK Tryz.prog 76 0 0 1 false:=⟨⟨_,_,Tryz.underlying76,rfl,rfl,ty3⟩,by decide⟩
theorem bq :Sub ac 0 (Rp.int .i64) Ref12Wrong.Place:=Sub.strct fRef12Wrong 0 _ rfl
theorem updApiNode_Kind :Upd rApiNode 0 (Rp.int .i64) (fun x y=>{x with Kind:=y}):=Upd.ofEq au (Upd.strct fApiNode 0 (fd:=⟨_,Rp.int .i64,ApiNode.Kind⟩) rfl (fun _ _=>rfl) (by intro x y j fd hj hf;match j,hj with| 0,h=>exact absurd rfl h| 1,_=>(cases hf;rfl)| 2,_=>(cases hf;rfl)| 3,_=>(cases hf;rfl)| 4,_=>(cases hf;rfl)| 5,_=>(cases hf;rfl)| 6,_=>(cases hf;rfl)| 7,_=>(cases hf;rfl)| 8,_=>(cases hf;rfl)|_+9,_=>cases hf))
theorem updApiNode_Kids :Upd rApiNode 8 (bx rApiNode) (fun x y=>{x with Kids:=y}):=Upd.ofEq au (Upd.strct fApiNode 8 (fd:=⟨_,bx rApiNode,ApiNode.Kids⟩) rfl (fun _ _=>rfl) (by intro x y j fd hj hf;match j,hj with| 0,_=>(cases hf;rfl)| 1,_=>(cases hf;rfl)| 2,_=>(cases hf;rfl)| 3,_=>(cases hf;rfl)| 4,_=>(cases hf;rfl)| 5,_=>(cases hf;rfl)| 6,_=>(cases hf;rfl)| 7,_=>(cases hf;rfl)| 8,h=>exact absurd rfl h|_+9,_=>cases hf))
theorem updApiNode_To :Upd rApiNode 5 (Rp.int .i64) (fun x y=>{x with To:=y}):=Upd.ofEq au (Upd.strct fApiNode 5 (fd:=⟨_,Rp.int .i64,ApiNode.To⟩) rfl (fun _ _=>rfl) (by intro x y j fd hj hf;match j,hj with| 0,_=>(cases hf;rfl)| 1,_=>(cases hf;rfl)| 2,_=>(cases hf;rfl)| 3,_=>(cases hf;rfl)| 4,_=>(cases hf;rfl)| 5,h=>exact absurd rfl h| 6,_=>(cases hf;rfl)| 7,_=>(cases hf;rfl)| 8,_=>(cases hf;rfl)|_+9,_=>cases hf))
theorem fld76_1 :FldOK Tryz.prog 76 1 1 1 false:=⟨⟨_,_,Tryz.underlying76,rfl,rfl,ty26⟩,by decide⟩
theorem subRef12Wrong_Code :Sub ac 1 (Rp.int .i64) Ref12Wrong.Code:=Sub.strct fRef12Wrong 1 _ rfl
theorem eqApiSegment :EqOK Tryz.prog 25 a6 2:=eqOK_strct Tryz.underlying25 (by kernel_rfl) ⟨by decide,rfl,(eqOK_str Tryz.underlying9),ty9,by decide,rfl,(eqOK_str Tryz.underlying9),ty9,trivial⟩ (fun x y h=>by cases x;cases y;simpa [fApiSegment] using h)
theorem eqgApiSegment :Tryz.prog.eqGuardType Tryz.prog.depth 25=false:=by kernel_rfl
theorem eqApiMistake :EqOK Tryz.prog 28 ai 2:=eqOK_strct Tryz.underlying28 (by kernel_rfl) ⟨by decide,rfl,(eqOK_int Tryz.underlying26),ty26,by decide,rfl,(eqOK_int Tryz.underlying3),ty3,by decide,rfl,(eqOK_int Tryz.underlying3),ty3,trivial⟩ (fun x y h=>by cases x;cases y;simpa [fApiMistake] using h)
theorem eqgApiMistake :Tryz.prog.eqGuardType Tryz.prog.depth 28=false:=by kernel_rfl
theorem ty58 :TyOK Tryz.prog 58 1 false:=⟨Tryz.sizeOf58,Tryz.isAgg58⟩
theorem fld60_1 :FldOK Tryz.prog 60 1 1 1 false:=⟨⟨_,_,Tryz.underlying60,rfl,rfl,ty58⟩,by decide⟩
theorem el58 :ElOK Tryz.prog 58 5 1 1:=⟨Tryz.underlying58,⟨Tryz.t5,_,rfl,rfl,rfl,rfl,rfl⟩,by decide⟩
theorem ty57 :TyOK Tryz.prog 57 1 false:=⟨Tryz.sizeOf57,Tryz.isAgg57⟩
theorem fld60_0 :FldOK Tryz.prog 60 0 0 1 false:=⟨⟨_,_,Tryz.underlying60,rfl,rfl,ty57⟩,by decide⟩
end Go.Proofs.YteablckbgpogiaaGreatDoor
set_option linter.unusedSectionVars false
set_option maxRecDepth 100000
set_option maxHeartbeats 4000000
namespace Go.Proofs.YteablckbgpogiaaGreatDoor
open Go Go.Cn
namespace HN
structure ApiNode where
 Kind:Int
 Text:List UInt8
 Type_:List UInt8
 N:Int
 From:Int
 To:Int
 At:Int
 TypeAt:Int
 Kids:Hd
noncomputable def parse_parser_made_j1 (x2:Int) (x6:ApiToken) (x4:Hd) (x8:ApiToken):Option (ApiNode):=some (ApiNode.mk x2 [] [] 0 x8.At (w64 (x6.At+(x6.Text.length:Int))) (-1) (-1) x4)
noncomputable def parse_parser_made_j2 (x1:ParseParser) (x3 x2:Int) (x4:Hd) (x6:ApiToken):Option (ApiNode):=(idx x1.t x3).bind fun x8=>parse_parser_made_j1 x2 x6 x4 x8
noncomputable def parse_parser_made (x1:ParseParser) (x2 x3:Int) (x4:Hd):Option (ApiNode):=(idx x1.t (w64 (x1.at_ - 1))).bind fun x6=>parse_parser_made_j2 x1 x3 x2 x4 x6
variable [Known]
def fApiNode :List (Go.Cn.Fd ApiNode):=[⟨_,Rp.int .i64,ApiNode.Kind⟩,⟨_,ct,ApiNode.Text⟩,⟨_,ct,ApiNode.Type_⟩,⟨_,Rp.int .i64,ApiNode.N⟩,⟨_,Rp.int .i64,ApiNode.From⟩,⟨_,Rp.int .i64,ApiNode.To⟩,⟨_,Rp.int .i64,ApiNode.At⟩,⟨_,Rp.int .i64,ApiNode.TypeAt⟩,⟨_,Rp.hd,ApiNode.Kids⟩]
abbrev rApiNode :Rp ApiNode:=fr fApiNode
theorem ty70 :TyOK Tryz.prog 70 1 false:=⟨Tryz.sizeOf70,Tryz.isAgg70⟩
theorem fld103_0 :FldOK Tryz.prog 103 0 0 1 false:=⟨⟨_,_,Tryz.underlying103,rfl,rfl,ty70⟩,by decide⟩
theorem subParseParser_t :Sub ae 0 (bx ah) ParseParser.t:=Sub.strct pb 0 _ rfl
theorem ty3 :TyOK Tryz.prog 3 1 false:=⟨Tryz.sizeOf3,Tryz.isAgg3⟩
theorem fld103_1 :FldOK Tryz.prog 103 1 1 1 false:=⟨⟨_,_,Tryz.underlying103,rfl,rfl,ty3⟩,by decide⟩
theorem subParseParser_at :Sub ae 1 (Rp.int .i64) ParseParser.at_:=Sub.strct pb 1 _ rfl
theorem ty74 :TyOK Tryz.prog 74 4 true:=⟨Tryz.sizeOf74,Tryz.isAgg74⟩
theorem fld74_2 :FldOK Tryz.prog 74 2 2 1 false:=⟨⟨_,_,Tryz.underlying74,rfl,rfl,ty3⟩,by decide⟩
theorem subApiToken_At :Sub ah 2 (Rp.int .i64) ApiToken.At:=Sub.strct fApiToken 2 _ rfl
theorem ty9 :TyOK Tryz.prog 9 1 false:=⟨Tryz.sizeOf9,Tryz.isAgg9⟩
theorem fld74_1 :FldOK Tryz.prog 74 1 1 1 false:=⟨⟨_,_,Tryz.underlying74,rfl,rfl,ty9⟩,by decide⟩
theorem subApiToken_Text :Sub ah 1 ct ApiToken.Text:=Sub.strct fApiToken 1 _ rfl
theorem st48 :StOK Tryz.prog 48 fApiNode (ApiNode.mk 0 [] [] 0 0 0 0 0 (Hd.mk none 0 0)):=stOK Tryz.underlying48 Tryz.zeroValue48 (fun _=>⟨_,_,rfl,rfl,⟨_,_,rfl,rfl,⟨_,_,rfl,rfl,⟨_,_,rfl,rfl,⟨_,_,rfl,rfl,⟨_,_,rfl,rfl,⟨_,_,rfl,rfl,⟨_,_,rfl,rfl,⟨_,_,rfl,rfl,rfl⟩⟩⟩⟩⟩⟩⟩⟩⟩) ⟨rfl,Tryz.sizeOf3,rfl,Tryz.sizeOf9,rfl,Tryz.sizeOf9,rfl,Tryz.sizeOf2,rfl,Tryz.sizeOf3,rfl,Tryz.sizeOf3,rfl,Tryz.sizeOf3,rfl,Tryz.sizeOf3,rfl,Tryz.sizeOf44,trivial⟩
theorem ty48 :TyOK Tryz.prog 48 9 true:=⟨Tryz.sizeOf48,Tryz.isAgg48⟩
theorem ty58 :TyOK Tryz.prog 58 1 false:=⟨Tryz.sizeOf58,Tryz.isAgg58⟩
theorem fld60_1 :FldOK Tryz.prog 60 1 1 1 false:=⟨⟨_,_,Tryz.underlying60,rfl,rfl,ty58⟩,by decide⟩
theorem el58 :ElOK Tryz.prog 58 5 1 1:=⟨Tryz.underlying58,⟨Tryz.t5,_,rfl,rfl,rfl,rfl,rfl⟩,by decide⟩
theorem ty57 :TyOK Tryz.prog 57 1 false:=⟨Tryz.sizeOf57,Tryz.isAgg57⟩
theorem fld60_0 :FldOK Tryz.prog 60 0 0 1 false:=⟨⟨_,_,Tryz.underlying60,rfl,rfl,ty57⟩,by decide⟩
theorem parse_parser_made_ok (x1:ParseParser) (x2 x3:Int) (x4:Hd) (r:ApiNode) (h:parse_parser_made x1 x2 x3 x4=some r):FnP Tryz.prog 67 [f5 ae x1,Pr.i64 x2,Pr.i64 x3,(Rp.hd).val x4] ((rApiNode).val r):=by
 refine ep (n:=38) (rs:=[.cell 8 48]) Tryz.func67 rfl Tryz.ntmps67 Tryz.results67 (by decide) (fun s0=> ?_)
 unfold parse_parser_made at h
 refine W_rs ?_
 refine rAlloc (R:=rApiNode) (z:=(ApiNode.mk 0 [] [] 0 0 0 0 0 (Hd.mk none 0 0))) Tryz.zeroValue48 (fun _=>⟨_,⟨_,_,rfl,rfl,⟨_,_,rfl,rfl,⟨_,_,rfl,rfl,⟨_,_,rfl,rfl,⟨_,_,rfl,rfl,⟨_,_,rfl,rfl,⟨_,_,rfl,rfl,⟨_,_,rfl,rfl,⟨_,_,rfl,rfl,rfl⟩⟩⟩⟩⟩⟩⟩⟩⟩,rfl⟩) (fun b5=> ?_)
 refine bj (fun e C=>∃(x6:ApiToken),∃(b7:Nat),parse_parser_made_j2 x1 x3 x2 x4 x6=some r/\At [(0,f5 ae x1),(1,Pr.i64 x2),(2,Pr.i64 x3),(3,(Rp.hd).val x4),(8,aj b5 0),(9,aj b7 0)] [Own.box b5 rApiNode (ApiNode.mk 0 [] [] 0 0 0 0 0 (Hd.mk none 0 0)),Own.box b7 ah x6] e C) ?_ ?_
 ·rintro e C ⟨x6,b7,h,hat2⟩
  refine W_at hat2 ?_
  clear hat2
  unfold parse_parser_made_j2 at h
  refine bj (fun e C=>∃(x8:ApiToken),parse_parser_made_j1 x2 x6 x4 x8=some r/\At [(8,aj b5 0)] [Own.box b5 rApiNode (ApiNode.mk x2 [] [] 0 x8.At (w64 (x6.At+(x6.Text.length:Int))) (-1) (-1) x4),Own.box b7 ah x6] e C) ?_ ?_
  ·rintro e C ⟨x8,h,hat1⟩
   refine W_at hat1 ?_
   clear hat1
   unfold parse_parser_made_j1 at h
   obtain rfl:=Option.some.inj h
   exact ax ⟨rfl,[(rApiNode).val (ApiNode.mk x2 [] [] 0 x8.At (w64 (x6.At+(x6.Text.length:Int))) (-1) (-1) x4)],⟨yBox 0 ty48 aa,trivial⟩,aa⟩
  refine ib 17 hmx (by kernel_rfl) (by kernel_rfl) ?_
  refine qq (out:=Pr.i64 x2) jn ?_
  refine qq (out:=f5 ae x1) jn ?_
  refine qq (out:=f5 ae x1) qNilC ?_
  refine qq (out:=f5 (bx ah) x1.t) (de (R:=ae) (a:=x1) fld103_0 subParseParser_t) ?_
  refine qq (out:=ap ah x1.t) (cw (R:=bx ah) (a:=x1.t) ty70) ?_
  refine qq (out:=Pr.i64 x3) jn ?_
  obtain⟨x8,hx8,h⟩:=af h
  refine qq (out:=f5 ah x8) (fi (R:=ah) (l:=x1.t) Tryz.underlying70 Tryz.sizeOf74 hx8) ?_
  refine qq (out:=f5 (Rp.int .i64) x8.At) (de (R:=ah) (a:=x8) fld74_2 subApiToken_At) ?_
  refine qq (out:=Pr.i64 x8.At) (cw (R:=Rp.int .i64) (a:=x8.At) ty3) ?_
  refine qq (out:=aj b7 2) (av fld74_2) ?_
  refine qq (out:=Pr.i64 x6.At) (bb (R:=ah) (a:=x6) (R':=Rp.int .i64) 1 ty3 subApiToken_At) ?_
  refine qq (out:=aj b7 1) (av fld74_1) ?_
  refine qq (out:=ba x6.Text) (bb (R:=ah) (a:=x6) (R':=ct) 1 ty9 subApiToken_Text) ?_
  refine qq (out:=Pr.i64 (x6.Text.length:Int)) (ol rfl Tryz.underlying9) ?_
  refine qq (out:=Pr.i64 (w64 (x6.At+(x6.Text.length:Int)))) qInt ?_
  refine qq (out:=(Rp.hd).val x4) jn ?_
  refine qq (out:=(rApiNode).val (ApiNode.mk x2 [] [] 0 x8.At (w64 (x6.At+(x6.Text.length:Int))) (-1) (-1) x4)) (j8 st48 ⟨(ApiNode.mk x2 [] [] 0 0 0 0 0 (Hd.mk none 0 0)),⟨_,rfl,rfl,fun j fd hj hf=>by match j,hj with| 0,h=>exact absurd rfl h| 1,_=>cases hf;rfl| 2,_=>cases hf;rfl| 3,_=>cases hf;rfl| 4,_=>cases hf;rfl| 5,_=>cases hf;rfl| 6,_=>cases hf;rfl| 7,_=>cases hf;rfl| 8,_=>cases hf;rfl|_+9,_=>cases hf⟩,⟨(ApiNode.mk x2 [] [] 0 x8.At 0 0 0 (Hd.mk none 0 0)),⟨_,rfl,rfl,fun j fd hj hf=>by match j,hj with| 0,_=>cases hf;rfl| 1,_=>cases hf;rfl| 2,_=>cases hf;rfl| 3,_=>cases hf;rfl| 4,h=>exact absurd rfl h| 5,_=>cases hf;rfl| 6,_=>cases hf;rfl| 7,_=>cases hf;rfl| 8,_=>cases hf;rfl|_+9,_=>cases hf⟩,⟨(ApiNode.mk x2 [] [] 0 x8.At (w64 (x6.At+(x6.Text.length:Int))) 0 0 (Hd.mk none 0 0)),⟨_,rfl,rfl,fun j fd hj hf=>by match j,hj with| 0,_=>cases hf;rfl| 1,_=>cases hf;rfl| 2,_=>cases hf;rfl| 3,_=>cases hf;rfl| 4,_=>cases hf;rfl| 5,h=>exact absurd rfl h| 6,_=>cases hf;rfl| 7,_=>cases hf;rfl| 8,_=>cases hf;rfl|_+9,_=>cases hf⟩,⟨(ApiNode.mk x2 [] [] 0 x8.At (w64 (x6.At+(x6.Text.length:Int))) (-1) 0 (Hd.mk none 0 0)),⟨_,rfl,rfl,fun j fd hj hf=>by match j,hj with| 0,_=>cases hf;rfl| 1,_=>cases hf;rfl| 2,_=>cases hf;rfl| 3,_=>cases hf;rfl| 4,_=>cases hf;rfl| 5,_=>cases hf;rfl| 6,h=>exact absurd rfl h| 7,_=>cases hf;rfl| 8,_=>cases hf;rfl|_+9,_=>cases hf⟩,⟨(ApiNode.mk x2 [] [] 0 x8.At (w64 (x6.At+(x6.Text.length:Int))) (-1) (-1) (Hd.mk none 0 0)),⟨_,rfl,rfl,fun j fd hj hf=>by match j,hj with| 0,_=>cases hf;rfl| 1,_=>cases hf;rfl| 2,_=>cases hf;rfl| 3,_=>cases hf;rfl| 4,_=>cases hf;rfl| 5,_=>cases hf;rfl| 6,_=>cases hf;rfl| 7,h=>exact absurd rfl h| 8,_=>cases hf;rfl|_+9,_=>cases hf⟩,⟨(ApiNode.mk x2 [] [] 0 x8.At (w64 (x6.At+(x6.Text.length:Int))) (-1) (-1) x4),⟨_,rfl,rfl,fun j fd hj hf=>by match j,hj with| 0,_=>cases hf;rfl| 1,_=>cases hf;rfl| 2,_=>cases hf;rfl| 3,_=>cases hf;rfl| 4,_=>cases hf;rfl| 5,_=>cases hf;rfl| 6,_=>cases hf;rfl| 7,_=>cases hf;rfl| 8,h=>exact absurd rfl h|_+9,_=>cases hf⟩,rfl⟩⟩⟩⟩⟩⟩) ?_
  refine rStore (R:=rApiNode) (R':=rApiNode) (a:=(ApiNode.mk 0 [] [] 0 0 0 0 0 (Hd.mk none 0 0))) (y:=(ApiNode.mk x2 [] [] 0 x8.At (w64 (x6.At+(x6.Text.length:Int))) (-1) (-1) x4)) 0 Tryz.sizeOf48 (Upd.refl _) ?_
  exact⟨x8,h,⟨⟨aa,trivial⟩,Pick.refl _⟩⟩
 obtain⟨x6,hx6,h⟩:=af h
 refine W_drawG 1 (fun B S=>[Own.box b5 rApiNode (ApiNode.mk 0 [] [] 0 0 0 0 0 (Hd.mk none 0 0)),(cond (S 12) (Own.box (B 11) ah x6) (cond (S 11) (Own.box (B 11) ah (ApiToken.mk 0 [] 0 [])) Own.nil))]) (fun B=>[Own.box b5 rApiNode (ApiNode.mk 0 [] [] 0 0 0 0 0 (Hd.mk none 0 0)),Own.box (B 11) ah x6]) [f5 ae x1,f5 ae x1,f5 (bx ah) x1.t,ap ah x1.t,f5 ae x1,f5 ae x1,f5 (Rp.int .i64) x1.at_,Pr.i64 x1.at_,Pr.i64 (w64 (x1.at_ - 1)),f5 ah x6,(ah).val x6,.any,.any] (fun k=>([0,0,0,0,0,0,0,0,0,0,0,2,1]:List Nat).getD k 0) hmx (by kernel_rfl) (by kernel_rfl) (fun _=>rfl) (fun B S S' h=>by show([Own.box b5 rApiNode (ApiNode.mk 0 [] [] 0 0 0 0 0 (Hd.mk none 0 0)),(cond (S 12) (Own.box (B 11) ah x6) (cond (S 11) (Own.box (B 11) ah (ApiToken.mk 0 [] 0 [])) Own.nil))]:Ctx)=[Own.box b5 rApiNode (ApiNode.mk 0 [] [] 0 0 0 0 0 (Hd.mk none 0 0)),(cond (S' 12) (Own.box (B 11) ah x6) (cond (S' 11) (Own.box (B 11) ah (ApiToken.mk 0 [] 0 [])) Own.nil))];simp only[h 11 (Nat.le_of_ble_eq_true (by kernel_rfl)),h 12 (Nat.le_of_ble_eq_true (by kernel_rfl))]) (fun _=>rfl) (fun B=> ?_)
 refine gq1 (fun S hK=>jn) ?_
 refine gq1 (fun S hK=>qNilC) ?_
 refine gq1 (fun S hK=>(de (R:=ae) (a:=x1) fld103_0 subParseParser_t)) ?_
 refine gq1 (fun S hK=>(cw (R:=bx ah) (a:=x1.t) ty70)) ?_
 refine gq1 (fun S hK=>jn) ?_
 refine gq1 (fun S hK=>qNilC) ?_
 refine gq1 (fun S hK=>(de (R:=ae) (a:=x1) fld103_1 subParseParser_at)) ?_
 refine gq1 (fun S hK=>(cw (R:=Rp.int .i64) (a:=x1.at_) ty3)) ?_
 refine gq1 (fun S hK=>qInt) ?_
 refine gq1 (fun S hK=>(fi (R:=ah) (l:=x1.t) Tryz.underlying70 Tryz.sizeOf74 hx6)) ?_
 refine gq1 (fun S hK=>(cw (R:=ah) (a:=x6) ty74)) ?_
 refine gqA (fun S hK=>⟨fun B' hB=>by show([Own.box b5 rApiNode (ApiNode.mk 0 [] [] 0 0 0 0 0 (Hd.mk none 0 0)),(cond (S 12) (Own.box (B' 11) ah x6) (cond (S 11) (Own.box (B' 11) ah (ApiToken.mk 0 [] 0 [])) Own.nil))]:Ctx)=[Own.box b5 rApiNode (ApiNode.mk 0 [] [] 0 0 0 0 0 (Hd.mk none 0 0)),(cond (S 12) (Own.box (B 11) ah x6) (cond (S 11) (Own.box (B 11) ah (ApiToken.mk 0 [] 0 [])) Own.nil))];simp only[hK.me,hK.F 12 (by kernel_rfl),cond_false],fun s ρ hg _=>sAlloc (R:=ah) (z:=(ApiToken.mk 0 [] 0 [])) 1 Tryz.zeroValue74 (fun _=>⟨_,⟨_,_,rfl,rfl,⟨_,_,rfl,rfl,⟨_,_,rfl,rfl,⟨_,_,rfl,rfl,rfl⟩⟩⟩⟩,rfl⟩) (congrArg some ((condF (hK.F 12 (by kernel_rfl)) _ _).trans (condF (hK.me) _ _))) (fun b=>by show([Own.box b5 rApiNode (ApiNode.mk 0 [] [] 0 0 0 0 0 (Hd.mk none 0 0)),(cond (S 12) (Own.box b ah x6) (Own.box b ah (ApiToken.mk 0 [] 0 [])))]:Ctx)=_;rw[hK.F 12 (by kernel_rfl)];rfl) s ρ hg⟩) ?_
 refine gqS (fun S hK=>SStep.as (dr (R:=ah) (R':=ah) (a:=(ApiToken.mk 0 [] 0 [])) (y:=x6) 1 Tryz.sizeOf74 (Upd.refl _) (congrArg some ((condF (hK.me) _ _).trans (condT (hK.T 11 (by kernel_rfl)) _ _)))) (by show(_:Ctx)=[Own.box b5 rApiNode (ApiNode.mk 0 [] [] 0 0 0 0 0 (Hd.mk none 0 0)),Own.box (B 11) ah x6];rfl)) ?_
 exact⟨x6,(B 11),h,⟨⟨aa,aa,aa,aa,aa,aa,trivial⟩,Pick.refl _⟩⟩
end HN
end Go.Proofs.YteablckbgpogiaaGreatDoor
