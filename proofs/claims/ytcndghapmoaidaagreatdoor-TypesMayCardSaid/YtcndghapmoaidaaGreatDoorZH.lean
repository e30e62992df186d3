/- What the program's tables say (printed by wip/gen/gen.py). -/
import Derived.Test.YtcndghapmoaidaaGreatDoorProg
import Derived.Test.YtcndghapmoaidaaGreatDoorZJ
import Derived.Test.YtcndghapmoaidaaGreatDoorZT
set_option linter.unusedSimpArgs false
set_option linter.unusedVariables false
set_option linter.unusedSectionVars false
set_option linter.unusedSectionVars false
set_option maxRecDepth 100000
set_option maxHeartbeats 4000000
namespace Go.Proofs.YtcndghapmoaidaaGreatDoor
open Go Go.Cn
instance theGlob :Glob where
 ok s:=s.F 0/\∃T fz,s.w.heap[0]? =some (.cells (Lib.pow10Tab.map fun z=>Value.int .u64 z).toArray T fz)
 mono _ _ h k:=⟨h.fin _ k.1,by rw[h.blk _ k.1];exact k.2⟩
theorem hmx :Tryz.prog.follows .mixedOrders=true:=by kernel_rfl
def kq :List (Go.Cn.Fd ApiEntity):=[⟨_,Rp.int .i64,ApiEntity.Kind⟩,⟨_,a7,ApiEntity.Id⟩,⟨_,a7,ApiEntity.Name⟩,⟨_,a7,ApiEntity.Owner⟩,⟨_,a7,ApiEntity.Type_⟩,⟨_,Rp.bool,ApiEntity.Static⟩,⟨_,bl a7,ApiEntity.Params⟩,⟨_,Rp.int .i64,ApiEntity.File⟩,⟨_,Rp.int .i64,ApiEntity.At⟩]
abbrev ag :Rp ApiEntity:=d6 kq
def fDeclsKey :List (Go.Cn.Fd DeclsKey):=[⟨_,Rp.int .i64,DeclsKey.kind⟩,⟨_,a7,DeclsKey.owner⟩,⟨_,a7,DeclsKey.name⟩]
abbrev cq :Rp DeclsKey:=d6 fDeclsKey
def fApiMistake :List (Go.Cn.Fd ApiMistake):=[⟨_,Rp.int .i64,ApiMistake.Code⟩,⟨_,Rp.int .i64,ApiMistake.File⟩,⟨_,Rp.int .i64,ApiMistake.At⟩]
abbrev am :Rp ApiMistake:=d6 fApiMistake
def gApiNode :List (FG ApiNode):=[FG.const (Rp.int .i64) ApiNode.Kind,FG.const (a7) ApiNode.Text,FG.const (a7) ApiNode.Type_,FG.const (Rp.int .i64) ApiNode.N,FG.const (Rp.int .i64) ApiNode.From,FG.const (Rp.int .i64) ApiNode.To,FG.const (Rp.int .i64) ApiNode.At,FG.const (Rp.int .i64) ApiNode.TypeAt,FG.list ApiNode.Kids]
def af :Rp ApiNode:=Rp.fix gApiNode 9 rfl
def kc :List (Go.Cn.Fd ApiNode):=[⟨_,Rp.int .i64,ApiNode.Kind⟩,⟨_,a7,ApiNode.Text⟩,⟨_,a7,ApiNode.Type_⟩,⟨_,Rp.int .i64,ApiNode.N⟩,⟨_,Rp.int .i64,ApiNode.From⟩,⟨_,Rp.int .i64,ApiNode.To⟩,⟨_,Rp.int .i64,ApiNode.At⟩,⟨_,Rp.int .i64,ApiNode.TypeAt⟩,⟨_,bl af,ApiNode.Kids⟩]
theorem bm :af=d6 kc:=Rp.fix_eq _
def r4 :List (Go.Cn.Fd BindScope):=[⟨_,bl ag,BindScope.Table⟩,⟨_,a7,BindScope.Class⟩,⟨_,Rp.bool,BindScope.Static⟩,⟨_,bl ag,BindScope.Seen⟩]
abbrev al :Rp BindScope:=d6 r4
def fApiUse :List (Go.Cn.Fd ApiUse):=[⟨_,Rp.int .i64,ApiUse.File⟩,⟨_,Rp.int .i64,ApiUse.At⟩,⟨_,a7,ApiUse.Id⟩]
abbrev aq :Rp ApiUse:=d6 fApiUse
def fBindWrong :List (Go.Cn.Fd BindWrong):=[⟨_,am,BindWrong.m⟩]
abbrev iz :Rp BindWrong:=d6 fBindWrong
def fApiToken :List (Go.Cn.Fd ApiToken):=[⟨_,Rp.int .i64,ApiToken.Kind⟩,⟨_,a7,ApiToken.Text⟩,⟨_,Rp.int .i64,ApiToken.At⟩,⟨_,a7,ApiToken.Lead⟩]
abbrev cf :Rp ApiToken:=d6 fApiToken
def fRef12Wrong :List (Go.Cn.Fd Ref12Wrong):=[⟨_,Rp.int .i64,Ref12Wrong.Place⟩,⟨_,Rp.int .i64,Ref12Wrong.Code⟩]
abbrev ah :Rp Ref12Wrong:=d6 fRef12Wrong
def pn :List (Go.Cn.Fd TypesChecker):=[⟨_,al,TypesChecker.Scope⟩,⟨_,a7,TypesChecker.kind⟩,⟨_,Rp.int .i64,TypesChecker.file⟩]
abbrev ap :Rp TypesChecker:=d6 pn
def fTypesWrong :List (Go.Cn.Fd TypesWrong):=[⟨_,am,TypesWrong.m⟩]
abbrev ie :Rp TypesWrong:=d6 fTypesWrong
def lr :List (Go.Cn.Fd DeclsTableRaw):=[⟨_,ox,DeclsTableRaw.l⟩,⟨_,ox,DeclsTableRaw.known⟩,⟨_,am,DeclsTableRaw.m⟩]
abbrev a6 :Rp DeclsTableRaw:=d6 lr
def i8 :List (Go.Cn.Fd ApiEntityRaw):=[⟨_,Rp.int .i64,ApiEntityRaw.Kind⟩,⟨_,a7,ApiEntityRaw.Id⟩,⟨_,a7,ApiEntityRaw.Name⟩,⟨_,a7,ApiEntityRaw.Owner⟩,⟨_,a7,ApiEntityRaw.Type_⟩,⟨_,Rp.bool,ApiEntityRaw.Static⟩,⟨_,ox,ApiEntityRaw.Params⟩,⟨_,Rp.int .i64,ApiEntityRaw.File⟩,⟨_,Rp.int .i64,ApiEntityRaw.At⟩]
abbrev bc :Rp ApiEntityRaw:=d6 i8
def ic :List (Go.Cn.Fd BindWalkerRaw):=[⟨_,ox,BindWalkerRaw.uses⟩,⟨_,Rp.int .i64,BindWalkerRaw.file⟩,⟨_,a7,BindWalkerRaw.method⟩,⟨_,Rp.int .i64,BindWalkerRaw.many⟩]
abbrev av :Rp BindWalkerRaw:=d6 ic
def lh (f:(ApiEntity->Option Bool)):List Pr->Pr->Prop:=fun args res=>∃(a0:ApiEntity) (r:Bool),args=[(ag).val a0]/\res=Pr.bool r/\f a0=some r
def spec185 (f:((List ApiEntity)->(List UInt8)->(List UInt8)->Option (ApiEntity × Bool))):List Pr->Pr->Prop:=fun args res=>∃(a0:List ApiEntity) (a1:List UInt8) (a2:List UInt8) (r:ApiEntity × Bool),args=[ar ag a0,bq a1,bq a2]/\res=br [(ag).val r.1,Pr.bool r.2]/\f a0 a1 a2=some r
def ez (f:(ApiUse->ApiUse->Option Int)):List Pr->Pr->Prop:=fun args res=>∃(a0:ApiUse) (a1:ApiUse) (r:Int),args=[(aq).val a0,(aq).val a1]/\res=Pr.i64 r/\f a0 a1=some r
theorem st30 :StOK Tryz.prog 30 fApiMistake (ApiMistake.mk 0 0 0):=stOK Tryz.underlying30 Tryz.zeroValue30 (fun _=>⟨_,_,rfl,rfl,⟨_,_,rfl,rfl,⟨_,_,rfl,rfl,rfl⟩⟩⟩) ⟨rfl,Tryz.sizeOf28,rfl,Tryz.sizeOf3,rfl,Tryz.sizeOf3,trivial⟩
theorem ty30 :TyOK Tryz.prog 30 3 true:=⟨Tryz.sizeOf30,Tryz.isAgg30⟩
theorem fld118_2 :FldOK Tryz.prog 118 2 2 3 true:=⟨⟨_,_,Tryz.underlying118,rfl,rfl,ty30⟩,by decide⟩
theorem updDeclsTableRaw_m :Upd a6 2 am (fun x y=>{x with m:=y}):=Upd.strct lr 2 (fd:=⟨_,am,DeclsTableRaw.m⟩) rfl (fun _ _=>rfl) (by intro x y j fd hj hf;match j,hj with| 0,_=>(cases hf;rfl)| 1,_=>(cases hf;rfl)| 2,h=>exact absurd rfl h|_+3,_=>cases hf)
theorem ty3 :TyOK Tryz.prog 3 1 false:=⟨Tryz.sizeOf3,Tryz.isAgg3⟩
theorem mv :FldOK Tryz.prog 49 0 0 1 false:=⟨⟨_,_,Tryz.underlying49,rfl,rfl,ty3⟩,by decide⟩
theorem de :Sub ag 0 (Rp.int .i64) ApiEntity.Kind:=Sub.strct kq 0 _ rfl
theorem ty9 :TyOK Tryz.prog 9 1 false:=⟨Tryz.sizeOf9,Tryz.isAgg9⟩
theorem fld49_3 :FldOK Tryz.prog 49 3 3 1 false:=⟨⟨_,_,Tryz.underlying49,rfl,rfl,ty9⟩,by decide⟩
theorem k5 :Sub ag 3 a7 ApiEntity.Owner:=Sub.strct kq 3 _ rfl
theorem fld49_2 :FldOK Tryz.prog 49 2 2 1 false:=⟨⟨_,_,Tryz.underlying49,rfl,rfl,ty9⟩,by decide⟩
theorem gw :Sub ag 2 a7 ApiEntity.Name:=Sub.strct kq 2 _ rfl
theorem st187 :StOK Tryz.prog 187 fDeclsKey (DeclsKey.mk 0 [] []):=stOK Tryz.underlying187 Tryz.zeroValue187 (fun _=>⟨_,_,rfl,rfl,⟨_,_,rfl,rfl,⟨_,_,rfl,rfl,rfl⟩⟩⟩) ⟨rfl,Tryz.sizeOf3,rfl,Tryz.sizeOf9,rfl,Tryz.sizeOf9,trivial⟩
theorem ty116 :TyOK Tryz.prog 116 1 false:=⟨Tryz.sizeOf116,Tryz.isAgg116⟩
theorem fld118_1 :FldOK Tryz.prog 118 1 1 1 false:=⟨⟨_,_,Tryz.underlying118,rfl,rfl,ty116⟩,by decide⟩
theorem subDeclsTableRaw_known :Sub a6 1 ox DeclsTableRaw.known:=Sub.strct lr 1 _ rfl
theorem ty187 :TyOK Tryz.prog 187 3 true:=⟨Tryz.sizeOf187,Tryz.isAgg187⟩
theorem eqDeclsKey :EqOK Tryz.prog 187 cq 2:=eqOK_strct Tryz.underlying187 (by kernel_rfl) ⟨by decide,rfl,(eqOK_int Tryz.underlying3),ty3,by decide,rfl,(eqOK_str Tryz.underlying9),ty9,by decide,rfl,(eqOK_str Tryz.underlying9),ty9,trivial⟩ (fun x y h=>by cases x;cases y;simpa [fDeclsKey] using h)
theorem keyDeclsKey :KeyOK Tryz.prog 187 cq 2:=keyOK Tryz.underlying187 eqDeclsKey (by decide) ⟨by decide,rfl,(eqOK_int Tryz.underlying3),ty3,by decide,rfl,(eqOK_str Tryz.underlying9),ty9,by decide,rfl,(eqOK_str Tryz.underlying9),ty9,trivial⟩ ⟨plk_int,⟨_,Tryz.underlying3,rfl⟩,plk_str,⟨_,Tryz.underlying9,rfl⟩,plk_str,⟨_,Tryz.underlying9,rfl⟩,trivial⟩
theorem fld49_7 :FldOK Tryz.prog 49 7 7 1 false:=⟨⟨_,_,Tryz.underlying49,rfl,rfl,ty3⟩,by decide⟩
theorem subApiEntity_File :Sub ag 7 (Rp.int .i64) ApiEntity.File:=Sub.strct kq 7 _ rfl
theorem fld49_8 :FldOK Tryz.prog 49 8 8 1 false:=⟨⟨_,_,Tryz.underlying49,rfl,rfl,ty3⟩,by decide⟩
theorem subApiEntity_At :Sub ag 8 (Rp.int .i64) ApiEntity.At:=Sub.strct kq 8 _ rfl
theorem ty38 :TyOK Tryz.prog 38 1 false:=⟨Tryz.sizeOf38,Tryz.isAgg38⟩
theorem fld118_0 :FldOK Tryz.prog 118 0 0 1 false:=⟨⟨_,_,Tryz.underlying118,rfl,rfl,ty38⟩,by decide⟩
theorem subDeclsTableRaw_l :Sub a6 0 ox DeclsTableRaw.l:=Sub.strct lr 0 _ rfl
theorem ty49 :TyOK Tryz.prog 49 9 true:=⟨Tryz.sizeOf49,Tryz.isAgg49⟩
theorem el38 :ElOK Tryz.prog 38 49 9 120:=⟨Tryz.underlying38,⟨Tryz.t49,_,rfl,rfl,rfl,rfl,rfl⟩,by decide⟩
theorem updDeclsTableRaw_l :Upd a6 0 ox (fun x y=>{x with l:=y}):=Upd.strct lr 0 (fd:=⟨_,ox,DeclsTableRaw.l⟩) rfl (fun _ _=>rfl) (by intro x y j fd hj hf;match j,hj with| 0,h=>exact absurd rfl h| 1,_=>(cases hf;rfl)| 2,_=>(cases hf;rfl)|_+3,_=>cases hf)
theorem en177 :Enters Tryz.prog 177:=⟨_,Tryz.func177,by decide,rfl⟩
theorem li :FldOK Tryz.prog 49 1 1 1 false:=⟨⟨_,_,Tryz.underlying49,rfl,rfl,ty9⟩,by decide⟩
theorem oc :Sub bc 1 a7 ApiEntityRaw.Id:=Sub.strct i8 1 _ rfl
theorem ej :FldOK Tryz.prog 64 1 1 1 false:=⟨⟨_,_,Tryz.underlying64,rfl,rfl,ty9⟩,by decide⟩
theorem cd :Sub af 1 a7 ApiNode.Text:=Sub.ofEq bm (Sub.strct kc 1 _ rfl)
theorem pz :FldOK Tryz.prog 64 2 2 1 false:=⟨⟨_,_,Tryz.underlying64,rfl,rfl,ty9⟩,by decide⟩
theorem d8 :Sub af 2 a7 ApiNode.Type_:=Sub.ofEq bm (Sub.strct kc 2 _ rfl)
theorem subApiEntityRaw_File :Sub bc 7 (Rp.int .i64) ApiEntityRaw.File:=Sub.strct i8 7 _ rfl
theorem mb :FldOK Tryz.prog 64 6 6 1 false:=⟨⟨_,_,Tryz.underlying64,rfl,rfl,ty3⟩,by decide⟩
theorem eu :Sub af 6 (Rp.int .i64) ApiNode.At:=Sub.ofEq bm (Sub.strct kc 6 _ rfl)
theorem st49 :StOK Tryz.prog 49 kq (ApiEntity.mk 0 [] [] [] [] false [] 0 0):=stOK Tryz.underlying49 Tryz.zeroValue49 (fun _=>⟨_,_,rfl,rfl,⟨_,_,rfl,rfl,⟨_,_,rfl,rfl,⟨_,_,rfl,rfl,⟨_,_,rfl,rfl,⟨_,_,rfl,rfl,⟨_,_,rfl,⟨_,rfl,none,0,rfl,⟨Nat.le_refl _,fun _=>rfl⟩,.inl rfl⟩,⟨_,_,rfl,rfl,⟨_,_,rfl,rfl,rfl⟩⟩⟩⟩⟩⟩⟩⟩⟩) ⟨rfl,Tryz.sizeOf3,rfl,Tryz.sizeOf9,rfl,Tryz.sizeOf9,rfl,Tryz.sizeOf9,rfl,Tryz.sizeOf9,rfl,Tryz.sizeOf4,rfl,Tryz.sizeOf22,rfl,Tryz.sizeOf3,rfl,Tryz.sizeOf3,trivial⟩
theorem ty64 :TyOK Tryz.prog 64 9 true:=⟨Tryz.sizeOf64,Tryz.isAgg64⟩
theorem ty53 :TyOK Tryz.prog 53 1 false:=⟨Tryz.sizeOf53,Tryz.isAgg53⟩
theorem ei :FldOK Tryz.prog 64 8 8 1 false:=⟨⟨_,_,Tryz.underlying64,rfl,rfl,ty53⟩,by decide⟩
theorem bu :Sub af 8 (bl af) ApiNode.Kids:=Sub.ofEq bm (Sub.strct kc 8 _ rfl)
theorem dx :FldOK Tryz.prog 64 0 0 1 false:=⟨⟨_,_,Tryz.underlying64,rfl,rfl,ty3⟩,by decide⟩
theorem bo :Sub af 0 (Rp.int .i64) ApiNode.Kind:=Sub.ofEq bm (Sub.strct kc 0 _ rfl)
theorem el53 :ElOK Tryz.prog 53 64 9 104:=⟨Tryz.underlying53,⟨Tryz.t64,_,rfl,rfl,rfl,rfl,rfl⟩,by decide⟩
theorem st64 :StOK Tryz.prog 64 kc (ApiNode.mk 0 [] [] 0 0 0 0 0 []):=stOK Tryz.underlying64 Tryz.zeroValue64 (fun _=>⟨_,_,rfl,rfl,⟨_,_,rfl,rfl,⟨_,_,rfl,rfl,⟨_,_,rfl,rfl,⟨_,_,rfl,rfl,⟨_,_,rfl,rfl,⟨_,_,rfl,rfl,⟨_,_,rfl,rfl,⟨_,_,rfl,⟨_,rfl,none,0,rfl,⟨Nat.le_refl _,fun _=>rfl⟩,.inl rfl⟩,rfl⟩⟩⟩⟩⟩⟩⟩⟩⟩) ⟨rfl,Tryz.sizeOf3,rfl,Tryz.sizeOf9,rfl,Tryz.sizeOf9,rfl,Tryz.sizeOf2,rfl,Tryz.sizeOf3,rfl,Tryz.sizeOf3,rfl,Tryz.sizeOf3,rfl,Tryz.sizeOf3,rfl,Tryz.sizeOf53,trivial⟩
theorem subApiEntityRaw_Owner :Sub bc 3 a7 ApiEntityRaw.Owner:=Sub.strct i8 3 _ rfl
theorem subApiEntityRaw_Name :Sub bc 2 a7 ApiEntityRaw.Name:=Sub.strct i8 2 _ rfl
theorem p7 :Upd bc 0 (Rp.int .i64) (fun x y=>{x with Kind:=y}):=Upd.strct i8 0 (fd:=⟨_,Rp.int .i64,ApiEntityRaw.Kind⟩) rfl (fun _ _=>rfl) (by intro x y j fd hj hf;match j,hj with| 0,h=>exact absurd rfl h| 1,_=>(cases hf;rfl)| 2,_=>(cases hf;rfl)| 3,_=>(cases hf;rfl)| 4,_=>(cases hf;rfl)| 5,_=>(cases hf;rfl)| 6,_=>(cases hf;rfl)| 7,_=>(cases hf;rfl)| 8,_=>(cases hf;rfl)|_+9,_=>cases hf)
theorem updApiEntityRaw_Id :Upd bc 1 a7 (fun x y=>{x with Id:=y}):=Upd.strct i8 1 (fd:=⟨_,a7,ApiEntityRaw.Id⟩) rfl (fun _ _=>rfl) (by intro x y j fd hj hf;match j,hj with| 0,_=>(cases hf;rfl)| 1,h=>exact absurd rfl h| 2,_=>(cases hf;rfl)| 3,_=>(cases hf;rfl)| 4,_=>(cases hf;rfl)| 5,_=>(cases hf;rfl)| 6,_=>(cases hf;rfl)| 7,_=>(cases hf;rfl)| 8,_=>(cases hf;rfl)|_+9,_=>cases hf)
theorem ty22 :TyOK Tryz.prog 22 1 false:=⟨Tryz.sizeOf22,Tryz.isAgg22⟩
theorem fld49_6 :FldOK Tryz.prog 49 6 6 1 false:=⟨⟨_,_,Tryz.underlying49,rfl,rfl,ty22⟩,by decide⟩
theorem subApiEntityRaw_Params :Sub bc 6 ox ApiEntityRaw.Params:=Sub.strct i8 6 _ rfl
theorem el22 :ElOK Tryz.prog 22 9 1 16:=⟨Tryz.underlying22,⟨Tryz.t9,_,rfl,rfl,rfl,rfl,rfl⟩,by decide⟩
theorem updApiEntityRaw_Params :Upd bc 6 ox (fun x y=>{x with Params:=y}):=Upd.strct i8 6 (fd:=⟨_,ox,ApiEntityRaw.Params⟩) rfl (fun _ _=>rfl) (by intro x y j fd hj hf;match j,hj with| 0,_=>(cases hf;rfl)| 1,_=>(cases hf;rfl)| 2,_=>(cases hf;rfl)| 3,_=>(cases hf;rfl)| 4,_=>(cases hf;rfl)| 5,_=>(cases hf;rfl)| 6,h=>exact absurd rfl h| 7,_=>(cases hf;rfl)| 8,_=>(cases hf;rfl)|_+9,_=>cases hf)
theorem ty2 :TyOK Tryz.prog 2 1 false:=⟨Tryz.sizeOf2,Tryz.isAgg2⟩
theorem fld64_3 :FldOK Tryz.prog 64 3 3 1 false:=⟨⟨_,_,Tryz.underlying64,rfl,rfl,ty2⟩,by decide⟩
theorem subApiNode_N :Sub af 3 (Rp.int .i64) ApiNode.N:=Sub.ofEq bm (Sub.strct kc 3 _ rfl)
theorem ty4 :TyOK Tryz.prog 4 1 false:=⟨Tryz.sizeOf4,Tryz.isAgg4⟩
theorem stApiEntityRaw :StOK Tryz.prog 49 i8 (ApiEntityRaw.mk 0 [] [] [] [] false (.slice none 0 0) 0 0):=stOK Tryz.underlying49 Tryz.zeroValue49 (fun _=>⟨_,_,rfl,rfl,⟨_,_,rfl,rfl,⟨_,_,rfl,rfl,⟨_,_,rfl,rfl,⟨_,_,rfl,rfl,⟨_,_,rfl,rfl,⟨_,_,rfl,⟨rfl,rfl⟩,⟨_,_,rfl,rfl,⟨_,_,rfl,rfl,rfl⟩⟩⟩⟩⟩⟩⟩⟩⟩) ⟨rfl,Tryz.sizeOf3,rfl,Tryz.sizeOf9,rfl,Tryz.sizeOf9,rfl,Tryz.sizeOf9,rfl,Tryz.sizeOf9,rfl,Tryz.sizeOf4,rfl,Tryz.sizeOf22,rfl,Tryz.sizeOf3,rfl,Tryz.sizeOf3,trivial⟩
theorem stDeclsTableRaw :StOK Tryz.prog 118 lr (DeclsTableRaw.mk (.slice none 0 0) (.map none) (ApiMistake.mk 0 0 0)):=stOK Tryz.underlying118 Tryz.zeroValue118 (fun _=>⟨_,_,rfl,⟨rfl,rfl⟩,⟨_,_,rfl,⟨rfl,rfl⟩,⟨_,_,rfl,⟨_,_,rfl,rfl,⟨_,_,rfl,rfl,⟨_,_,rfl,rfl,rfl⟩⟩⟩,rfl⟩⟩⟩) ⟨rfl,Tryz.sizeOf38,rfl,Tryz.sizeOf116,rfl,Tryz.sizeOf30,trivial⟩
theorem subDeclsTableRaw_m :Sub a6 2 am DeclsTableRaw.m:=Sub.strct lr 2 _ rfl
theorem d9 :Sub ag 1 a7 ApiEntity.Id:=Sub.strct kq 1 _ rfl
theorem fld49_4 :FldOK Tryz.prog 49 4 4 1 false:=⟨⟨_,_,Tryz.underlying49,rfl,rfl,ty9⟩,by decide⟩
theorem fr :Sub ag 4 a7 ApiEntity.Type_:=Sub.strct kq 4 _ rfl
theorem ty148 :TyOK Tryz.prog 148 1 false:=⟨Tryz.sizeOf148,Tryz.isAgg148⟩
theorem en156 :Enters Tryz.prog 156:=⟨_,Tryz.func156,by decide,rfl⟩
theorem en157 :Enters Tryz.prog 157:=⟨_,Tryz.func157,by decide,rfl⟩
theorem fld49_5 :FldOK Tryz.prog 49 5 5 1 false:=⟨⟨_,_,Tryz.underlying49,rfl,rfl,ty4⟩,by decide⟩
theorem ri :Sub ag 5 Rp.bool ApiEntity.Static:=Sub.strct kq 5 _ rfl
theorem m0 :Sub ag 6 (bl a7) ApiEntity.Params:=Sub.strct kq 6 _ rfl
theorem fld66_0 :FldOK Tryz.prog 66 0 0 1 false:=⟨⟨_,_,Tryz.underlying66,rfl,rfl,ty38⟩,by decide⟩
theorem gl :Sub al 0 (bl ag) BindScope.Table:=Sub.strct r4 0 _ rfl
theorem fld76_1 :FldOK Tryz.prog 76 1 1 1 false:=⟨⟨_,_,Tryz.underlying76,rfl,rfl,ty3⟩,by decide⟩
theorem pa :Sub av 1 (Rp.int .i64) BindWalkerRaw.file:=Sub.strct ic 1 _ rfl
theorem st72 :StOK Tryz.prog 72 fBindWrong (BindWrong.mk (ApiMistake.mk 0 0 0)):=stOK Tryz.underlying72 Tryz.zeroValue72 (fun _=>⟨_,_,rfl,⟨_,_,rfl,rfl,⟨_,_,rfl,rfl,⟨_,_,rfl,rfl,rfl⟩⟩⟩,rfl⟩) ⟨rfl,Tryz.sizeOf30,trivial⟩
theorem ty27 :TyOK Tryz.prog 27 1 false:=⟨Tryz.sizeOf27,Tryz.isAgg27⟩
theorem fld76_0 :FldOK Tryz.prog 76 0 0 1 false:=⟨⟨_,_,Tryz.underlying76,rfl,rfl,ty27⟩,by decide⟩
theorem o8 :Sub av 0 ox BindWalkerRaw.uses:=Sub.strct ic 0 _ rfl
theorem st47 :StOK Tryz.prog 47 fApiUse (ApiUse.mk 0 0 []):=stOK Tryz.underlying47 Tryz.zeroValue47 (fun _=>⟨_,_,rfl,rfl,⟨_,_,rfl,rfl,⟨_,_,rfl,rfl,rfl⟩⟩⟩) ⟨rfl,Tryz.sizeOf3,rfl,Tryz.sizeOf3,rfl,Tryz.sizeOf9,trivial⟩
theorem el27 :ElOK Tryz.prog 27 47 3 32:=⟨Tryz.underlying27,⟨Tryz.t47,_,rfl,rfl,rfl,rfl,rfl⟩,by decide⟩
theorem updBindWalkerRaw_uses :Upd av 0 ox (fun x y=>{x with uses:=y}):=Upd.strct ic 0 (fd:=⟨_,ox,BindWalkerRaw.uses⟩) rfl (fun _ _=>rfl) (by intro x y j fd hj hf;match j,hj with| 0,h=>exact absurd rfl h| 1,_=>(cases hf;rfl)| 2,_=>(cases hf;rfl)| 3,_=>(cases hf;rfl)|_+4,_=>cases hf)
theorem fld64_7 :FldOK Tryz.prog 64 7 7 1 false:=⟨⟨_,_,Tryz.underlying64,rfl,rfl,ty3⟩,by decide⟩
theorem subApiNode_TypeAt :Sub af 7 (Rp.int .i64) ApiNode.TypeAt:=Sub.ofEq bm (Sub.strct kc 7 _ rfl)
theorem ty66 :TyOK Tryz.prog 66 4 true:=⟨Tryz.sizeOf66,Tryz.isAgg66⟩
theorem fld66_2 :FldOK Tryz.prog 66 2 2 1 false:=⟨⟨_,_,Tryz.underlying66,rfl,rfl,ty4⟩,by decide⟩
theorem rh :Sub al 2 Rp.bool BindScope.Static:=Sub.strct r4 2 _ rfl
theorem fld66_3 :FldOK Tryz.prog 66 3 3 1 false:=⟨⟨_,_,Tryz.underlying66,rfl,rfl,ty38⟩,by decide⟩
theorem subBindScope_Seen :Sub al 3 (bl ag) BindScope.Seen:=Sub.strct r4 3 _ rfl
theorem fld66_1 :FldOK Tryz.prog 66 1 1 1 false:=⟨⟨_,_,Tryz.underlying66,rfl,rfl,ty9⟩,by decide⟩
theorem jd :Sub al 1 a7 BindScope.Class:=Sub.strct r4 1 _ rfl
theorem ty28 :TyOK Tryz.prog 28 1 false:=⟨Tryz.sizeOf28,Tryz.isAgg28⟩
theorem en113 :Enters Tryz.prog 113:=⟨_,Tryz.func113,by decide,rfl⟩
theorem en117 :Enters Tryz.prog 117:=⟨_,Tryz.func117,by decide,rfl⟩
theorem rf :Upd al 2 Rp.bool (fun x y=>{x with Static:=y}):=Upd.strct r4 2 (fd:=⟨_,Rp.bool,BindScope.Static⟩) rfl (fun _ _=>rfl) (by intro x y j fd hj hf;match j,hj with| 0,_=>(cases hf;rfl)| 1,_=>(cases hf;rfl)| 2,h=>exact absurd rfl h| 3,_=>(cases hf;rfl)|_+4,_=>cases hf)
theorem fld64_4 :FldOK Tryz.prog 64 4 4 1 false:=⟨⟨_,_,Tryz.underlying64,rfl,rfl,ty3⟩,by decide⟩
theorem fb :Sub af 4 (Rp.int .i64) ApiNode.From:=Sub.ofEq bm (Sub.strct kc 4 _ rfl)
theorem fld76_2 :FldOK Tryz.prog 76 2 2 1 false:=⟨⟨_,_,Tryz.underlying76,rfl,rfl,ty9⟩,by decide⟩
theorem nk :Sub av 2 a7 BindWalkerRaw.method:=Sub.strct ic 2 _ rfl
theorem fld76_3 :FldOK Tryz.prog 76 3 3 1 false:=⟨⟨_,_,Tryz.underlying76,rfl,rfl,ty3⟩,by decide⟩
theorem o9 :Sub av 3 (Rp.int .i64) BindWalkerRaw.many:=Sub.strct ic 3 _ rfl
theorem updBindWalkerRaw_many :Upd av 3 (Rp.int .i64) (fun x y=>{x with many:=y}):=Upd.strct ic 3 (fd:=⟨_,Rp.int .i64,BindWalkerRaw.many⟩) rfl (fun _ _=>rfl) (by intro x y j fd hj hf;match j,hj with| 0,_=>(cases hf;rfl)| 1,_=>(cases hf;rfl)| 2,_=>(cases hf;rfl)| 3,h=>exact absurd rfl h|_+4,_=>cases hf)
theorem updBindWalkerRaw_method :Upd av 2 a7 (fun x y=>{x with method:=y}):=Upd.strct ic 2 (fd:=⟨_,a7,BindWalkerRaw.method⟩) rfl (fun _ _=>rfl) (by intro x y j fd hj hf;match j,hj with| 0,_=>(cases hf;rfl)| 1,_=>(cases hf;rfl)| 2,h=>exact absurd rfl h| 3,_=>(cases hf;rfl)|_+4,_=>cases hf)
theorem updBindScope_Seen :Upd al 3 (bl ag) (fun x y=>{x with Seen:=y}):=Upd.strct r4 3 (fd:=⟨_,bl ag,BindScope.Seen⟩) rfl (fun _ _=>rfl) (by intro x y j fd hj hf;match j,hj with| 0,_=>(cases hf;rfl)| 1,_=>(cases hf;rfl)| 2,_=>(cases hf;rfl)| 3,h=>exact absurd rfl h|_+4,_=>cases hf)
theorem ty47 :TyOK Tryz.prog 47 3 true:=⟨Tryz.sizeOf47,Tryz.isAgg47⟩
theorem fld47_0 :FldOK Tryz.prog 47 0 0 1 false:=⟨⟨_,_,Tryz.underlying47,rfl,rfl,ty3⟩,by decide⟩
theorem subApiUse_File :Sub aq 0 (Rp.int .i64) ApiUse.File:=Sub.strct fApiUse 0 _ rfl
theorem fld47_1 :FldOK Tryz.prog 47 1 1 1 false:=⟨⟨_,_,Tryz.underlying47,rfl,rfl,ty3⟩,by decide⟩
theorem subApiUse_At :Sub aq 1 (Rp.int .i64) ApiUse.At:=Sub.strct fApiUse 1 _ rfl
theorem el126 :ElOK Tryz.prog 126 3 1 8:=⟨Tryz.underlying126,⟨Tryz.t3,_,rfl,rfl,rfl,rfl,rfl⟩,by decide⟩
theorem el195 :ElOK Tryz.prog 195 5 1 1:=⟨Tryz.underlying195,⟨Tryz.t5,_,rfl,rfl,rfl,rfl,rfl⟩,by decide⟩
theorem st45 :StOK Tryz.prog 45 fApiToken (ApiToken.mk 0 [] 0 []):=stOK Tryz.underlying45 Tryz.zeroValue45 (fun _=>⟨_,_,rfl,rfl,⟨_,_,rfl,rfl,⟨_,_,rfl,rfl,⟨_,_,rfl,rfl,rfl⟩⟩⟩⟩) ⟨rfl,Tryz.sizeOf3,rfl,Tryz.sizeOf9,rfl,Tryz.sizeOf3,rfl,Tryz.sizeOf9,trivial⟩
theorem el41 :ElOK Tryz.prog 41 45 4 48:=⟨Tryz.underlying41,⟨Tryz.t45,_,rfl,rfl,rfl,rfl,rfl⟩,by decide⟩
theorem fld45_1 :FldOK Tryz.prog 45 1 1 1 false:=⟨⟨_,_,Tryz.underlying45,rfl,rfl,ty9⟩,by decide⟩
theorem d4 :Sub cf 1 a7 ApiToken.Text:=Sub.strct fApiToken 1 _ rfl
theorem fld45_0 :FldOK Tryz.prog 45 0 0 1 false:=⟨⟨_,_,Tryz.underlying45,rfl,rfl,ty3⟩,by decide⟩
theorem np :Sub cf 0 (Rp.int .i64) ApiToken.Kind:=Sub.strct fApiToken 0 _ rfl
theorem st97 :StOK Tryz.prog 97 fRef12Wrong (Ref12Wrong.mk 0 0):=stOK Tryz.underlying97 Tryz.zeroValue97 (fun _=>⟨_,_,rfl,rfl,⟨_,_,rfl,rfl,rfl⟩⟩) ⟨rfl,Tryz.sizeOf3,rfl,Tryz.sizeOf28,trivial⟩
theorem ty97 :TyOK Tryz.prog 97 2 true:=⟨Tryz.sizeOf97,Tryz.isAgg97⟩
theorem fld45_2 :FldOK Tryz.prog 45 2 2 1 false:=⟨⟨_,_,Tryz.underlying45,rfl,rfl,ty3⟩,by decide⟩
theorem ib :Sub cf 2 (Rp.int .i64) ApiToken.At:=Sub.strct fApiToken 2 _ rfl
theorem updApiNode_Type :Upd af 2 a7 (fun x y=>{x with Type_:=y}):=Upd.ofEq bm (Upd.strct kc 2 (fd:=⟨_,a7,ApiNode.Type_⟩) rfl (fun _ _=>rfl) (by intro x y j fd hj hf;match j,hj with| 0,_=>(cases hf;rfl)| 1,_=>(cases hf;rfl)| 2,h=>exact absurd rfl h| 3,_=>(cases hf;rfl)| 4,_=>(cases hf;rfl)| 5,_=>(cases hf;rfl)| 6,_=>(cases hf;rfl)| 7,_=>(cases hf;rfl)| 8,_=>(cases hf;rfl)|_+9,_=>cases hf))
theorem updApiNode_TypeAt :Upd af 7 (Rp.int .i64) (fun x y=>{x with TypeAt:=y}):=Upd.ofEq bm (Upd.strct kc 7 (fd:=⟨_,Rp.int .i64,ApiNode.TypeAt⟩) rfl (fun _ _=>rfl) (by intro x y j fd hj hf;match j,hj with| 0,_=>(cases hf;rfl)| 1,_=>(cases hf;rfl)| 2,_=>(cases hf;rfl)| 3,_=>(cases hf;rfl)| 4,_=>(cases hf;rfl)| 5,_=>(cases hf;rfl)| 6,_=>(cases hf;rfl)| 7,h=>exact absurd rfl h| 8,_=>(cases hf;rfl)|_+9,_=>cases hf))
theorem mf :Upd af 1 a7 (fun x y=>{x with Text:=y}):=Upd.ofEq bm (Upd.strct kc 1 (fd:=⟨_,a7,ApiNode.Text⟩) rfl (fun _ _=>rfl) (by intro x y j fd hj hf;match j,hj with| 0,_=>(cases hf;rfl)| 1,h=>exact absurd rfl h| 2,_=>(cases hf;rfl)| 3,_=>(cases hf;rfl)| 4,_=>(cases hf;rfl)| 5,_=>(cases hf;rfl)| 6,_=>(cases hf;rfl)| 7,_=>(cases hf;rfl)| 8,_=>(cases hf;rfl)|_+9,_=>cases hf))
theorem updApiNode_At :Upd af 6 (Rp.int .i64) (fun x y=>{x with At:=y}):=Upd.ofEq bm (Upd.strct kc 6 (fd:=⟨_,Rp.int .i64,ApiNode.At⟩) rfl (fun _ _=>rfl) (by intro x y j fd hj hf;match j,hj with| 0,_=>(cases hf;rfl)| 1,_=>(cases hf;rfl)| 2,_=>(cases hf;rfl)| 3,_=>(cases hf;rfl)| 4,_=>(cases hf;rfl)| 5,_=>(cases hf;rfl)| 6,h=>exact absurd rfl h| 7,_=>(cases hf;rfl)| 8,_=>(cases hf;rfl)|_+9,_=>cases hf))
theorem el224 :ElOK Tryz.prog 224 22 1 24:=⟨Tryz.underlying224,⟨Tryz.t22,_,rfl,rfl,rfl,rfl,rfl⟩,by decide⟩
theorem j3 :FldOK Tryz.prog 97 0 0 1 false:=⟨⟨_,_,Tryz.underlying97,rfl,rfl,ty3⟩,by decide⟩
theorem cg :Sub ah 0 (Rp.int .i64) Ref12Wrong.Place:=Sub.strct fRef12Wrong 0 _ rfl
theorem updApiNode_N :Upd af 3 (Rp.int .i64) (fun x y=>{x with N:=y}):=Upd.ofEq bm (Upd.strct kc 3 (fd:=⟨_,Rp.int .i64,ApiNode.N⟩) rfl (fun _ _=>rfl) (by intro x y j fd hj hf;match j,hj with| 0,_=>(cases hf;rfl)| 1,_=>(cases hf;rfl)| 2,_=>(cases hf;rfl)| 3,h=>exact absurd rfl h| 4,_=>(cases hf;rfl)| 5,_=>(cases hf;rfl)| 6,_=>(cases hf;rfl)| 7,_=>(cases hf;rfl)| 8,_=>(cases hf;rfl)|_+9,_=>cases hf))
theorem updApiNode_Kind :Upd af 0 (Rp.int .i64) (fun x y=>{x with Kind:=y}):=Upd.ofEq bm (Upd.strct kc 0 (fd:=⟨_,Rp.int .i64,ApiNode.Kind⟩) rfl (fun _ _=>rfl) (by intro x y j fd hj hf;match j,hj with| 0,h=>exact absurd rfl h| 1,_=>(cases hf;rfl)| 2,_=>(cases hf;rfl)| 3,_=>(cases hf;rfl)| 4,_=>(cases hf;rfl)| 5,_=>(cases hf;rfl)| 6,_=>(cases hf;rfl)| 7,_=>(cases hf;rfl)| 8,_=>(cases hf;rfl)|_+9,_=>cases hf))
theorem updApiNode_Kids :Upd af 8 (bl af) (fun x y=>{x with Kids:=y}):=Upd.ofEq bm (Upd.strct kc 8 (fd:=⟨_,bl af,ApiNode.Kids⟩) rfl (fun _ _=>rfl) (by intro x y j fd hj hf;match j,hj with| 0,_=>(cases hf;rfl)| 1,_=>(cases hf;rfl)| 2,_=>(cases hf;rfl)| 3,_=>(cases hf;rfl)| 4,_=>(cases hf;rfl)| 5,_=>(cases hf;rfl)| 6,_=>(cases hf;rfl)| 7,_=>(cases hf;rfl)| 8,h=>exact absurd rfl h|_+9,_=>cases hf))
theorem fld64_5 :FldOK Tryz.prog 64 5 5 1 false:=⟨⟨_,_,Tryz.underlying64,rfl,rfl,ty3⟩,by decide⟩
theorem updApiNode_To :Upd af 5 (Rp.int .i64) (fun x y=>{x with To:=y}):=Upd.ofEq bm (Upd.strct kc 5 (fd:=⟨_,Rp.int .i64,ApiNode.To⟩) rfl (fun _ _=>rfl) (by intro x y j fd hj hf;match j,hj with| 0,_=>(cases hf;rfl)| 1,_=>(cases hf;rfl)| 2,_=>(cases hf;rfl)| 3,_=>(cases hf;rfl)| 4,_=>(cases hf;rfl)| 5,h=>exact absurd rfl h| 6,_=>(cases hf;rfl)| 7,_=>(cases hf;rfl)| 8,_=>(cases hf;rfl)|_+9,_=>cases hf))
theorem fld97_1 :FldOK Tryz.prog 97 1 1 1 false:=⟨⟨_,_,Tryz.underlying97,rfl,rfl,ty28⟩,by decide⟩
theorem subRef12Wrong_Code :Sub ah 1 (Rp.int .i64) Ref12Wrong.Code:=Sub.strct fRef12Wrong 1 _ rfl
theorem fld30_0 :FldOK Tryz.prog 30 0 0 1 false:=⟨⟨_,_,Tryz.underlying30,rfl,rfl,ty28⟩,by decide⟩
theorem k1 :Sub am 0 (Rp.int .i64) ApiMistake.Code:=Sub.strct fApiMistake 0 _ rfl
theorem el24 :ElOK Tryz.prog 24 53 1 24:=⟨Tryz.underlying24,⟨Tryz.t53,_,rfl,rfl,rfl,rfl,rfl⟩,by decide⟩
theorem pj :FldOK Tryz.prog 138 0 0 4 true:=⟨⟨_,_,Tryz.underlying138,rfl,rfl,ty66⟩,by decide⟩
theorem c8 :Sub ap 0 al TypesChecker.Scope:=Sub.strct pn 0 _ rfl
theorem updTypesChecker_Scope :Upd ap 0 al (fun x y=>{x with Scope:=y}):=Upd.strct pn 0 (fd:=⟨_,al,TypesChecker.Scope⟩) rfl (fun _ _=>rfl) (by intro x y j fd hj hf;match j,hj with| 0,h=>exact absurd rfl h| 1,_=>(cases hf;rfl)| 2,_=>(cases hf;rfl)|_+3,_=>cases hf)
theorem ny :TyOK Tryz.prog 138 6 true:=⟨Tryz.sizeOf138,Tryz.isAgg138⟩
theorem en108 :Enters Tryz.prog 108:=⟨_,Tryz.func108,by decide,rfl⟩
theorem fld138_2 :FldOK Tryz.prog 138 2 5 1 false:=⟨⟨_,_,Tryz.underlying138,rfl,rfl,ty3⟩,by decide⟩
theorem subTypesChecker_file :Sub ap 5 (Rp.int .i64) TypesChecker.file:=Sub.strct pn 2 _ rfl
theorem st103 :StOK Tryz.prog 103 fTypesWrong (TypesWrong.mk (ApiMistake.mk 0 0 0)):=stOK Tryz.underlying103 Tryz.zeroValue103 (fun _=>⟨_,_,rfl,⟨_,_,rfl,rfl,⟨_,_,rfl,rfl,⟨_,_,rfl,rfl,rfl⟩⟩⟩,rfl⟩) ⟨rfl,Tryz.sizeOf30,trivial⟩
theorem fld138_1 :FldOK Tryz.prog 138 1 4 1 false:=⟨⟨_,_,Tryz.underlying138,rfl,rfl,ty9⟩,by decide⟩
theorem subTypesChecker_kind :Sub ap 4 a7 TypesChecker.kind:=Sub.strct pn 1 _ rfl
theorem st66 :StOK Tryz.prog 66 r4 (BindScope.mk [] [] false []):=stOK Tryz.underlying66 Tryz.zeroValue66 (fun _=>⟨_,_,rfl,⟨_,rfl,none,0,rfl,⟨Nat.le_refl _,fun _=>rfl⟩,.inl rfl⟩,⟨_,_,rfl,rfl,⟨_,_,rfl,rfl,⟨_,_,rfl,⟨_,rfl,none,0,rfl,⟨Nat.le_refl _,fun _=>rfl⟩,.inl rfl⟩,rfl⟩⟩⟩⟩) ⟨rfl,Tryz.sizeOf38,rfl,Tryz.sizeOf9,rfl,Tryz.sizeOf4,rfl,Tryz.sizeOf38,trivial⟩
theorem st138 :StOK Tryz.prog 138 pn (TypesChecker.mk (BindScope.mk [] [] false []) [] 0):=stOK Tryz.underlying138 Tryz.zeroValue138 (fun _=>⟨_,_,rfl,⟨_,_,rfl,⟨_,rfl,none,0,rfl,⟨Nat.le_refl _,fun _=>rfl⟩,.inl rfl⟩,⟨_,_,rfl,rfl,⟨_,_,rfl,rfl,⟨_,_,rfl,⟨_,rfl,none,0,rfl,⟨Nat.le_refl _,fun _=>rfl⟩,.inl rfl⟩,rfl⟩⟩⟩⟩,⟨_,_,rfl,rfl,⟨_,_,rfl,rfl,rfl⟩⟩⟩) ⟨rfl,Tryz.sizeOf66,rfl,Tryz.sizeOf9,rfl,Tryz.sizeOf3,trivial⟩
theorem stBindWalkerRaw :StOK Tryz.prog 76 ic (BindWalkerRaw.mk (.slice none 0 0) 0 [] 0):=stOK Tryz.underlying76 Tryz.zeroValue76 (fun _=>⟨_,_,rfl,⟨rfl,rfl⟩,⟨_,_,rfl,rfl,⟨_,_,rfl,rfl,⟨_,_,rfl,rfl,rfl⟩⟩⟩⟩) ⟨rfl,Tryz.sizeOf27,rfl,Tryz.sizeOf3,rfl,Tryz.sizeOf9,rfl,Tryz.sizeOf3,trivial⟩
theorem updBindWalkerRaw_file :Upd av 1 (Rp.int .i64) (fun x y=>{x with file:=y}):=Upd.strct ic 1 (fd:=⟨_,Rp.int .i64,BindWalkerRaw.file⟩) rfl (fun _ _=>rfl) (by intro x y j fd hj hf;match j,hj with| 0,_=>(cases hf;rfl)| 1,h=>exact absurd rfl h| 2,_=>(cases hf;rfl)| 3,_=>(cases hf;rfl)|_+4,_=>cases hf)
theorem en39 :Enters Tryz.prog 39:=⟨_,Tryz.func39,by decide,rfl⟩
theorem en36 :Enters Tryz.prog 36:=⟨_,Tryz.func36,by decide,rfl⟩
theorem fld72_0 :FldOK Tryz.prog 72 0 0 3 true:=⟨⟨_,_,Tryz.underlying72,rfl,rfl,ty30⟩,by decide⟩
theorem subBindWrong_m :Sub iz 0 am BindWrong.m:=Sub.strct fBindWrong 0 _ rfl
theorem en54 :Enters Tryz.prog 54:=⟨_,Tryz.func54,by decide,rfl⟩
theorem fld103_0 :FldOK Tryz.prog 103 0 0 3 true:=⟨⟨_,_,Tryz.underlying103,rfl,rfl,ty30⟩,by decide⟩
theorem subTypesWrong_m :Sub ie 0 am TypesWrong.m:=Sub.strct fTypesWrong 0 _ rfl
theorem fld30_2 :FldOK Tryz.prog 30 2 2 1 false:=⟨⟨_,_,Tryz.underlying30,rfl,rfl,ty3⟩,by decide⟩
theorem subApiMistake_At :Sub am 2 (Rp.int .i64) ApiMistake.At:=Sub.strct fApiMistake 2 _ rfl
end Go.Proofs.YtcndghapmoaidaaGreatDoor
