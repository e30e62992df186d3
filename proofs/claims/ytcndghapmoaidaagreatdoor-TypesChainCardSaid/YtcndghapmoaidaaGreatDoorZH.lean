/- What the program's tables say (printed by wip/gen/gen.py). -/
import Derived.Test.YtcndghapmoaidaaGreatDoorProg
import Derived.Test.YtcndghapmoaidaaGreatDoorZJ
import Derived.Test.YtcndghapmoaidaaGreatDoorZT
set_option linter.unusedSimpArgs false
set_option linter.unusedVariables false
set_option linter.unusedSectionVars false
set_option linter.unusedSectionVars false
set_option maxRecDepth 100000
set_option maxHeartbeats 4000000
namespace Go.Proofs.YtcndghapmoaidaaGreatDoor
open Go Go.Cn
instance theGlob :Glob where
 ok s:=s.F 0/\∃T fz,s.w.heap[0]? =some (.cells (Lib.pow10Tab.map fun z=>Value.int .u64 z).toArray T fz)
 mono _ _ h k:=⟨h.fin _ k.1,by rw[h.blk _ k.1];exact k.2⟩
theorem hmx :Tryz.prog.follows .mixedOrders=true:=by kernel_rfl
def na :List (Go.Cn.Fd ApiEntity):=[⟨_,Rp.int .i64,ApiEntity.Kind⟩,⟨_,a6,ApiEntity.Id⟩,⟨_,a6,ApiEntity.Name⟩,⟨_,a6,ApiEntity.Owner⟩,⟨_,a6,ApiEntity.Type_⟩,⟨_,Rp.bool,ApiEntity.Static⟩,⟨_,ba a6,ApiEntity.Params⟩,⟨_,Rp.int .i64,ApiEntity.File⟩,⟨_,Rp.int .i64,ApiEntity.At⟩]
abbrev af :Rp ApiEntity:=ed na
def fDeclsKey :List (Go.Cn.Fd DeclsKey):=[⟨_,Rp.int .i64,DeclsKey.kind⟩,⟨_,a6,DeclsKey.owner⟩,⟨_,a6,DeclsKey.name⟩]
abbrev cj :Rp DeclsKey:=ed fDeclsKey
def fApiMistake :List (Go.Cn.Fd ApiMistake):=[⟨_,Rp.int .i64,ApiMistake.Code⟩,⟨_,Rp.int .i64,ApiMistake.File⟩,⟨_,Rp.int .i64,ApiMistake.At⟩]
abbrev ak :Rp ApiMistake:=ed fApiMistake
def gApiNode :List (FG ApiNode):=[FG.const (Rp.int .i64) ApiNode.Kind,FG.const (a6) ApiNode.Text,FG.const (a6) ApiNode.Type_,FG.const (Rp.int .i64) ApiNode.N,FG.const (Rp.int .i64) ApiNode.From,FG.const (Rp.int .i64) ApiNode.To,FG.const (Rp.int .i64) ApiNode.At,FG.const (Rp.int .i64) ApiNode.TypeAt,FG.list ApiNode.Kids]
def ab :Rp ApiNode:=Rp.fix gApiNode 9 rfl
def k5 :List (Go.Cn.Fd ApiNode):=[⟨_,Rp.int .i64,ApiNode.Kind⟩,⟨_,a6,ApiNode.Text⟩,⟨_,a6,ApiNode.Type_⟩,⟨_,Rp.int .i64,ApiNode.N⟩,⟨_,Rp.int .i64,ApiNode.From⟩,⟨_,Rp.int .i64,ApiNode.To⟩,⟨_,Rp.int .i64,ApiNode.At⟩,⟨_,Rp.int .i64,ApiNode.TypeAt⟩,⟨_,ba ab,ApiNode.Kids⟩]
theorem bb :ab=ed k5:=Rp.fix_eq _
def ur :List (Go.Cn.Fd BindScope):=[⟨_,ba af,BindScope.Table⟩,⟨_,a6,BindScope.Class⟩,⟨_,Rp.bool,BindScope.Static⟩,⟨_,ba af,BindScope.Seen⟩]
abbrev aj :Rp BindScope:=ed ur
def fApiUse :List (Go.Cn.Fd ApiUse):=[⟨_,Rp.int .i64,ApiUse.File⟩,⟨_,Rp.int .i64,ApiUse.At⟩,⟨_,a6,ApiUse.Id⟩]
abbrev ao :Rp ApiUse:=ed fApiUse
def fBindWrong :List (Go.Cn.Fd BindWrong):=[⟨_,ak,BindWrong.m⟩]
abbrev i6 :Rp BindWrong:=ed fBindWrong
def fApiToken :List (Go.Cn.Fd ApiToken):=[⟨_,Rp.int .i64,ApiToken.Kind⟩,⟨_,a6,ApiToken.Text⟩,⟨_,Rp.int .i64,ApiToken.At⟩,⟨_,a6,ApiToken.Lead⟩]
abbrev bz :Rp ApiToken:=ed fApiToken
def fRef12Wrong :List (Go.Cn.Fd Ref12Wrong):=[⟨_,Rp.int .i64,Ref12Wrong.Place⟩,⟨_,Rp.int .i64,Ref12Wrong.Code⟩]
abbrev ag :Rp Ref12Wrong:=ed fRef12Wrong
def rm :List (Go.Cn.Fd TypesChecker):=[⟨_,aj,TypesChecker.Scope⟩,⟨_,a6,TypesChecker.kind⟩,⟨_,Rp.int .i64,TypesChecker.file⟩]
abbrev al :Rp TypesChecker:=ed rm
def fTypesWrong :List (Go.Cn.Fd TypesWrong):=[⟨_,ak,TypesWrong.m⟩]
abbrev ik :Rp TypesWrong:=ed fTypesWrong
def ml :List (Go.Cn.Fd DeclsTableRaw):=[⟨_,qm,DeclsTableRaw.l⟩,⟨_,qm,DeclsTableRaw.known⟩,⟨_,ak,DeclsTableRaw.m⟩]
abbrev a4 :Rp DeclsTableRaw:=ed ml
def je :List (Go.Cn.Fd ApiEntityRaw):=[⟨_,Rp.int .i64,ApiEntityRaw.Kind⟩,⟨_,a6,ApiEntityRaw.Id⟩,⟨_,a6,ApiEntityRaw.Name⟩,⟨_,a6,ApiEntityRaw.Owner⟩,⟨_,a6,ApiEntityRaw.Type_⟩,⟨_,Rp.bool,ApiEntityRaw.Static⟩,⟨_,qm,ApiEntityRaw.Params⟩,⟨_,Rp.int .i64,ApiEntityRaw.File⟩,⟨_,Rp.int .i64,ApiEntityRaw.At⟩]
abbrev a7 :Rp ApiEntityRaw:=ed je
def ij :List (Go.Cn.Fd BindWalkerRaw):=[⟨_,qm,BindWalkerRaw.uses⟩,⟨_,Rp.int .i64,BindWalkerRaw.file⟩,⟨_,a6,BindWalkerRaw.method⟩,⟨_,Rp.int .i64,BindWalkerRaw.many⟩]
abbrev ar :Rp BindWalkerRaw:=ed ij
def l8 (f:(ApiEntity->Option Bool)):List Pr->Pr->Prop:=fun args res=>∃(a0:ApiEntity) (r:Bool),args=[(af).val a0]/\res=Pr.bool r/\f a0=some r
def spec185 (f:((List ApiEntity)->(List UInt8)->(List UInt8)->Option (ApiEntity × Bool))):List Pr->Pr->Prop:=fun args res=>∃(a0:List ApiEntity) (a1:List UInt8) (a2:List UInt8) (r:ApiEntity × Bool),args=[aq af a0,bv a1,bv a2]/\res=bk [(af).val r.1,Pr.bool r.2]/\f a0 a1 a2=some r
def en (f:(ApiUse->ApiUse->Option Int)):List Pr->Pr->Prop:=fun args res=>∃(a0:ApiUse) (a1:ApiUse) (r:Int),args=[(ao).val a0,(ao).val a1]/\res=Pr.i64 r/\f a0 a1=some r
theorem st30 :StOK Tryz.prog 30 fApiMistake (ApiMistake.mk 0 0 0):=stOK Tryz.underlying30 Tryz.zeroValue30 (fun _=>⟨_,_,rfl,rfl,⟨_,_,rfl,rfl,⟨_,_,rfl,rfl,rfl⟩⟩⟩) ⟨rfl,Tryz.sizeOf28,rfl,Tryz.sizeOf3,rfl,Tryz.sizeOf3,trivial⟩
theorem ty30 :TyOK Tryz.prog 30 3 true:=⟨Tryz.sizeOf30,Tryz.isAgg30⟩
theorem fld118_2 :FldOK Tryz.prog 118 2 2 3 true:=⟨⟨_,_,Tryz.underlying118,rfl,rfl,ty30⟩,by decide⟩
theorem updDeclsTableRaw_m :Upd a4 2 ak (fun x y=>{x with m:=y}):=Upd.strct ml 2 (fd:=⟨_,ak,DeclsTableRaw.m⟩) rfl (fun _ _=>rfl) (by intro x y j fd hj hf;match j,hj with| 0,_=>(cases hf;rfl)| 1,_=>(cases hf;rfl)| 2,h=>exact absurd rfl h|_+3,_=>cases hf)
theorem ty3 :TyOK Tryz.prog 3 1 false:=⟨Tryz.sizeOf3,Tryz.isAgg3⟩
theorem pr :FldOK Tryz.prog 49 0 0 1 false:=⟨⟨_,_,Tryz.underlying49,rfl,rfl,ty3⟩,by decide⟩
theorem da :Sub af 0 (Rp.int .i64) ApiEntity.Kind:=Sub.strct na 0 _ rfl
theorem ty9 :TyOK Tryz.prog 9 1 false:=⟨Tryz.sizeOf9,Tryz.isAgg9⟩
theorem fld49_3 :FldOK Tryz.prog 49 3 3 1 false:=⟨⟨_,_,Tryz.underlying49,rfl,rfl,ty9⟩,by decide⟩
theorem lk :Sub af 3 a6 ApiEntity.Owner:=Sub.strct na 3 _ rfl
theorem fld49_2 :FldOK Tryz.prog 49 2 2 1 false:=⟨⟨_,_,Tryz.underlying49,rfl,rfl,ty9⟩,by decide⟩
theorem g7 :Sub af 2 a6 ApiEntity.Name:=Sub.strct na 2 _ rfl
theorem st187 :StOK Tryz.prog 187 fDeclsKey (DeclsKey.mk 0 [] []):=stOK Tryz.underlying187 Tryz.zeroValue187 (fun _=>⟨_,_,rfl,rfl,⟨_,_,rfl,rfl,⟨_,_,rfl,rfl,rfl⟩⟩⟩) ⟨rfl,Tryz.sizeOf3,rfl,Tryz.sizeOf9,rfl,Tryz.sizeOf9,trivial⟩
theorem ty116 :TyOK Tryz.prog 116 1 false:=⟨Tryz.sizeOf116,Tryz.isAgg116⟩
theorem fld118_1 :FldOK Tryz.prog 118 1 1 1 false:=⟨⟨_,_,Tryz.underlying118,rfl,rfl,ty116⟩,by decide⟩
theorem subDeclsTableRaw_known :Sub a4 1 qm DeclsTableRaw.known:=Sub.strct ml 1 _ rfl
theorem ty187 :TyOK Tryz.prog 187 3 true:=⟨Tryz.sizeOf187,Tryz.isAgg187⟩
theorem eqDeclsKey :EqOK Tryz.prog 187 cj 2:=eqOK_strct Tryz.underlying187 (by kernel_rfl) ⟨by decide,rfl,(eqOK_int Tryz.underlying3),ty3,by decide,rfl,(eqOK_str Tryz.underlying9),ty9,by decide,rfl,(eqOK_str Tryz.underlying9),ty9,trivial⟩ (fun x y h=>by cases x;cases y;simpa [fDeclsKey] using h)
theorem keyDeclsKey :KeyOK Tryz.prog 187 cj 2:=keyOK Tryz.underlying187 eqDeclsKey (by decide) ⟨by decide,rfl,(eqOK_int Tryz.underlying3),ty3,by decide,rfl,(eqOK_str Tryz.underlying9),ty9,by decide,rfl,(eqOK_str Tryz.underlying9),ty9,trivial⟩ ⟨plk_int,⟨_,Tryz.underlying3,rfl⟩,plk_str,⟨_,Tryz.underlying9,rfl⟩,plk_str,⟨_,Tryz.underlying9,rfl⟩,trivial⟩
theorem fld49_7 :FldOK Tryz.prog 49 7 7 1 false:=⟨⟨_,_,Tryz.underlying49,rfl,rfl,ty3⟩,by decide⟩
theorem subApiEntity_File :Sub af 7 (Rp.int .i64) ApiEntity.File:=Sub.strct na 7 _ rfl
theorem fld49_8 :FldOK Tryz.prog 49 8 8 1 false:=⟨⟨_,_,Tryz.underlying49,rfl,rfl,ty3⟩,by decide⟩
theorem subApiEntity_At :Sub af 8 (Rp.int .i64) ApiEntity.At:=Sub.strct na 8 _ rfl
theorem ty38 :TyOK Tryz.prog 38 1 false:=⟨Tryz.sizeOf38,Tryz.isAgg38⟩
theorem fld118_0 :FldOK Tryz.prog 118 0 0 1 false:=⟨⟨_,_,Tryz.underlying118,rfl,rfl,ty38⟩,by decide⟩
theorem subDeclsTableRaw_l :Sub a4 0 qm DeclsTableRaw.l:=Sub.strct ml 0 _ rfl
theorem ty49 :TyOK Tryz.prog 49 9 true:=⟨Tryz.sizeOf49,Tryz.isAgg49⟩
theorem el38 :ElOK Tryz.prog 38 49 9 120:=⟨Tryz.underlying38,⟨Tryz.t49,_,rfl,rfl,rfl,rfl,rfl⟩,by decide⟩
theorem updDeclsTableRaw_l :Upd a4 0 qm (fun x y=>{x with l:=y}):=Upd.strct ml 0 (fd:=⟨_,qm,DeclsTableRaw.l⟩) rfl (fun _ _=>rfl) (by intro x y j fd hj hf;match j,hj with| 0,h=>exact absurd rfl h| 1,_=>(cases hf;rfl)| 2,_=>(cases hf;rfl)|_+3,_=>cases hf)
theorem en177 :Enters Tryz.prog 177:=⟨_,Tryz.func177,by decide,rfl⟩
theorem j7 :FldOK Tryz.prog 49 1 1 1 false:=⟨⟨_,_,Tryz.underlying49,rfl,rfl,ty9⟩,by decide⟩
theorem p7 :Sub a7 1 a6 ApiEntityRaw.Id:=Sub.strct je 1 _ rfl
theorem ef :FldOK Tryz.prog 64 1 1 1 false:=⟨⟨_,_,Tryz.underlying64,rfl,rfl,ty9⟩,by decide⟩
theorem bw :Sub ab 1 a6 ApiNode.Text:=Sub.ofEq bb (Sub.strct k5 1 _ rfl)
theorem r4 :FldOK Tryz.prog 64 2 2 1 false:=⟨⟨_,_,Tryz.underlying64,rfl,rfl,ty9⟩,by decide⟩
theorem dz :Sub ab 2 a6 ApiNode.Type_:=Sub.ofEq bb (Sub.strct k5 2 _ rfl)
theorem subApiEntityRaw_File :Sub a7 7 (Rp.int .i64) ApiEntityRaw.File:=Sub.strct je 7 _ rfl
theorem my :FldOK Tryz.prog 64 6 6 1 false:=⟨⟨_,_,Tryz.underlying64,rfl,rfl,ty3⟩,by decide⟩
theorem ek :Sub ab 6 (Rp.int .i64) ApiNode.At:=Sub.ofEq bb (Sub.strct k5 6 _ rfl)
theorem st49 :StOK Tryz.prog 49 na (ApiEntity.mk 0 [] [] [] [] false [] 0 0):=stOK Tryz.underlying49 Tryz.zeroValue49 (fun _=>⟨_,_,rfl,rfl,⟨_,_,rfl,rfl,⟨_,_,rfl,rfl,⟨_,_,rfl,rfl,⟨_,_,rfl,rfl,⟨_,_,rfl,rfl,⟨_,_,rfl,⟨_,rfl,none,0,rfl,⟨Nat.le_refl _,fun _=>rfl⟩,.inl rfl⟩,⟨_,_,rfl,rfl,⟨_,_,rfl,rfl,rfl⟩⟩⟩⟩⟩⟩⟩⟩⟩) ⟨rfl,Tryz.sizeOf3,rfl,Tryz.sizeOf9,rfl,Tryz.sizeOf9,rfl,Tryz.sizeOf9,rfl,Tryz.sizeOf9,rfl,Tryz.sizeOf4,rfl,Tryz.sizeOf22,rfl,Tryz.sizeOf3,rfl,Tryz.sizeOf3,trivial⟩
theorem ty64 :TyOK Tryz.prog 64 9 true:=⟨Tryz.sizeOf64,Tryz.isAgg64⟩
theorem ty53 :TyOK Tryz.prog 53 1 false:=⟨Tryz.sizeOf53,Tryz.isAgg53⟩
theorem ee :FldOK Tryz.prog 64 8 8 1 false:=⟨⟨_,_,Tryz.underlying64,rfl,rfl,ty53⟩,by decide⟩
theorem bl :Sub ab 8 (ba ab) ApiNode.Kids:=Sub.ofEq bb (Sub.strct k5 8 _ rfl)
theorem dr :FldOK Tryz.prog 64 0 0 1 false:=⟨⟨_,_,Tryz.underlying64,rfl,rfl,ty3⟩,by decide⟩
theorem bg :Sub ab 0 (Rp.int .i64) ApiNode.Kind:=Sub.ofEq bb (Sub.strct k5 0 _ rfl)
theorem el53 :ElOK Tryz.prog 53 64 9 104:=⟨Tryz.underlying53,⟨Tryz.t64,_,rfl,rfl,rfl,rfl,rfl⟩,by decide⟩
theorem st64 :StOK Tryz.prog 64 k5 (ApiNode.mk 0 [] [] 0 0 0 0 0 []):=stOK Tryz.underlying64 Tryz.zeroValue64 (fun _=>⟨_,_,rfl,rfl,⟨_,_,rfl,rfl,⟨_,_,rfl,rfl,⟨_,_,rfl,rfl,⟨_,_,rfl,rfl,⟨_,_,rfl,rfl,⟨_,_,rfl,rfl,⟨_,_,rfl,rfl,⟨_,_,rfl,⟨_,rfl,none,0,rfl,⟨Nat.le_refl _,fun _=>rfl⟩,.inl rfl⟩,rfl⟩⟩⟩⟩⟩⟩⟩⟩⟩) ⟨rfl,Tryz.sizeOf3,rfl,Tryz.sizeOf9,rfl,Tryz.sizeOf9,rfl,Tryz.sizeOf2,rfl,Tryz.sizeOf3,rfl,Tryz.sizeOf3,rfl,Tryz.sizeOf3,rfl,Tryz.sizeOf3,rfl,Tryz.sizeOf53,trivial⟩
theorem subApiEntityRaw_Owner :Sub a7 3 a6 ApiEntityRaw.Owner:=Sub.strct je 3 _ rfl
theorem subApiEntityRaw_Name :Sub a7 2 a6 ApiEntityRaw.Name:=Sub.strct je 2 _ rfl
theorem r5 :Upd a7 0 (Rp.int .i64) (fun x y=>{x with Kind:=y}):=Upd.strct je 0 (fd:=⟨_,Rp.int .i64,ApiEntityRaw.Kind⟩) rfl (fun _ _=>rfl) (by intro x y j fd hj hf;match j,hj with| 0,h=>exact absurd rfl h| 1,_=>(cases hf;rfl)| 2,_=>(cases hf;rfl)| 3,_=>(cases hf;rfl)| 4,_=>(cases hf;rfl)| 5,_=>(cases hf;rfl)| 6,_=>(cases hf;rfl)| 7,_=>(cases hf;rfl)| 8,_=>(cases hf;rfl)|_+9,_=>cases hf)
theorem updApiEntityRaw_Id :Upd a7 1 a6 (fun x y=>{x with Id:=y}):=Upd.strct je 1 (fd:=⟨_,a6,ApiEntityRaw.Id⟩) rfl (fun _ _=>rfl) (by intro x y j fd hj hf;match j,hj with| 0,_=>(cases hf;rfl)| 1,h=>exact absurd rfl h| 2,_=>(cases hf;rfl)| 3,_=>(cases hf;rfl)| 4,_=>(cases hf;rfl)| 5,_=>(cases hf;rfl)| 6,_=>(cases hf;rfl)| 7,_=>(cases hf;rfl)| 8,_=>(cases hf;rfl)|_+9,_=>cases hf)
theorem ty22 :TyOK Tryz.prog 22 1 false:=⟨Tryz.sizeOf22,Tryz.isAgg22⟩
theorem fld49_6 :FldOK Tryz.prog 49 6 6 1 false:=⟨⟨_,_,Tryz.underlying49,rfl,rfl,ty22⟩,by decide⟩
theorem subApiEntityRaw_Params :Sub a7 6 qm ApiEntityRaw.Params:=Sub.strct je 6 _ rfl
theorem el22 :ElOK Tryz.prog 22 9 1 16:=⟨Tryz.underlying22,⟨Tryz.t9,_,rfl,rfl,rfl,rfl,rfl⟩,by decide⟩
theorem updApiEntityRaw_Params :Upd a7 6 qm (fun x y=>{x with Params:=y}):=Upd.strct je 6 (fd:=⟨_,qm,ApiEntityRaw.Params⟩) rfl (fun _ _=>rfl) (by intro x y j fd hj hf;match j,hj with| 0,_=>(cases hf;rfl)| 1,_=>(cases hf;rfl)| 2,_=>(cases hf;rfl)| 3,_=>(cases hf;rfl)| 4,_=>(cases hf;rfl)| 5,_=>(cases hf;rfl)| 6,h=>exact absurd rfl h| 7,_=>(cases hf;rfl)| 8,_=>(cases hf;rfl)|_+9,_=>cases hf)
theorem ty2 :TyOK Tryz.prog 2 1 false:=⟨Tryz.sizeOf2,Tryz.isAgg2⟩
theorem fld64_3 :FldOK Tryz.prog 64 3 3 1 false:=⟨⟨_,_,Tryz.underlying64,rfl,rfl,ty2⟩,by decide⟩
theorem subApiNode_N :Sub ab 3 (Rp.int .i64) ApiNode.N:=Sub.ofEq bb (Sub.strct k5 3 _ rfl)
theorem ty4 :TyOK Tryz.prog 4 1 false:=⟨Tryz.sizeOf4,Tryz.isAgg4⟩
theorem stApiEntityRaw :StOK Tryz.prog 49 je (ApiEntityRaw.mk 0 [] [] [] [] false (.slice none 0 0) 0 0):=stOK Tryz.underlying49 Tryz.zeroValue49 (fun _=>⟨_,_,rfl,rfl,⟨_,_,rfl,rfl,⟨_,_,rfl,rfl,⟨_,_,rfl,rfl,⟨_,_,rfl,rfl,⟨_,_,rfl,rfl,⟨_,_,rfl,⟨rfl,rfl⟩,⟨_,_,rfl,rfl,⟨_,_,rfl,rfl,rfl⟩⟩⟩⟩⟩⟩⟩⟩⟩) ⟨rfl,Tryz.sizeOf3,rfl,Tryz.sizeOf9,rfl,Tryz.sizeOf9,rfl,Tryz.sizeOf9,rfl,Tryz.sizeOf9,rfl,Tryz.sizeOf4,rfl,Tryz.sizeOf22,rfl,Tryz.sizeOf3,rfl,Tryz.sizeOf3,trivial⟩
theorem stDeclsTableRaw :StOK Tryz.prog 118 ml (DeclsTableRaw.mk (.slice none 0 0) (.map none) (ApiMistake.mk 0 0 0)):=stOK Tryz.underlying118 Tryz.zeroValue118 (fun _=>⟨_,_,rfl,⟨rfl,rfl⟩,⟨_,_,rfl,⟨rfl,rfl⟩,⟨_,_,rfl,⟨_,_,rfl,rfl,⟨_,_,rfl,rfl,⟨_,_,rfl,rfl,rfl⟩⟩⟩,rfl⟩⟩⟩) ⟨rfl,Tryz.sizeOf38,rfl,Tryz.sizeOf116,rfl,Tryz.sizeOf30,trivial⟩
theorem subDeclsTableRaw_m :Sub a4 2 ak DeclsTableRaw.m:=Sub.strct ml 2 _ rfl
theorem dh :Sub af 1 a6 ApiEntity.Id:=Sub.strct na 1 _ rfl
theorem fld49_4 :FldOK Tryz.prog 49 4 4 1 false:=⟨⟨_,_,Tryz.underlying49,rfl,rfl,ty9⟩,by decide⟩
theorem f4 :Sub af 4 a6 ApiEntity.Type_:=Sub.strct na 4 _ rfl
theorem ty148 :TyOK Tryz.prog 148 1 false:=⟨Tryz.sizeOf148,Tryz.isAgg148⟩
theorem en156 :Enters Tryz.prog 156:=⟨_,Tryz.func156,by decide,rfl⟩
theorem en157 :Enters Tryz.prog 157:=⟨_,Tryz.func157,by decide,rfl⟩
theorem fld49_5 :FldOK Tryz.prog 49 5 5 1 false:=⟨⟨_,_,Tryz.underlying49,rfl,rfl,ty4⟩,by decide⟩
theorem uf :Sub af 5 Rp.bool ApiEntity.Static:=Sub.strct na 5 _ rfl
theorem od :Sub af 6 (ba a6) ApiEntity.Params:=Sub.strct na 6 _ rfl
theorem fld66_0 :FldOK Tryz.prog 66 0 0 1 false:=⟨⟨_,_,Tryz.underlying66,rfl,rfl,ty38⟩,by decide⟩
theorem gl :Sub aj 0 (ba af) BindScope.Table:=Sub.strct ur 0 _ rfl
theorem fld76_1 :FldOK Tryz.prog 76 1 1 1 false:=⟨⟨_,_,Tryz.underlying76,rfl,rfl,ty3⟩,by decide⟩
theorem rb :Sub ar 1 (Rp.int .i64) BindWalkerRaw.file:=Sub.strct ij 1 _ rfl
theorem st72 :StOK Tryz.prog 72 fBindWrong (BindWrong.mk (ApiMistake.mk 0 0 0)):=stOK Tryz.underlying72 Tryz.zeroValue72 (fun _=>⟨_,_,rfl,⟨_,_,rfl,rfl,⟨_,_,rfl,rfl,⟨_,_,rfl,rfl,rfl⟩⟩⟩,rfl⟩) ⟨rfl,Tryz.sizeOf30,trivial⟩
theorem ty27 :TyOK Tryz.prog 27 1 false:=⟨Tryz.sizeOf27,Tryz.isAgg27⟩
theorem fld76_0 :FldOK Tryz.prog 76 0 0 1 false:=⟨⟨_,_,Tryz.underlying76,rfl,rfl,ty27⟩,by decide⟩
theorem q9 :Sub ar 0 qm BindWalkerRaw.uses:=Sub.strct ij 0 _ rfl
theorem st47 :StOK Tryz.prog 47 fApiUse (ApiUse.mk 0 0 []):=stOK Tryz.underlying47 Tryz.zeroValue47 (fun _=>⟨_,_,rfl,rfl,⟨_,_,rfl,rfl,⟨_,_,rfl,rfl,rfl⟩⟩⟩) ⟨rfl,Tryz.sizeOf3,rfl,Tryz.sizeOf3,rfl,Tryz.sizeOf9,trivial⟩
theorem el27 :ElOK Tryz.prog 27 47 3 32:=⟨Tryz.underlying27,⟨Tryz.t47,_,rfl,rfl,rfl,rfl,rfl⟩,by decide⟩
theorem updBindWalkerRaw_uses :Upd ar 0 qm (fun x y=>{x with uses:=y}):=Upd.strct ij 0 (fd:=⟨_,qm,BindWalkerRaw.uses⟩) rfl (fun _ _=>rfl) (by intro x y j fd hj hf;match j,hj with| 0,h=>exact absurd rfl h| 1,_=>(cases hf;rfl)| 2,_=>(cases hf;rfl)| 3,_=>(cases hf;rfl)|_+4,_=>cases hf)
theorem fld64_7 :FldOK Tryz.prog 64 7 7 1 false:=⟨⟨_,_,Tryz.underlying64,rfl,rfl,ty3⟩,by decide⟩
theorem subApiNode_TypeAt :Sub ab 7 (Rp.int .i64) ApiNode.TypeAt:=Sub.ofEq bb (Sub.strct k5 7 _ rfl)
theorem ty66 :TyOK Tryz.prog 66 4 true:=⟨Tryz.sizeOf66,Tryz.isAgg66⟩
theorem fld66_2 :FldOK Tryz.prog 66 2 2 1 false:=⟨⟨_,_,Tryz.underlying66,rfl,rfl,ty4⟩,by decide⟩
theorem ue :Sub aj 2 Rp.bool BindScope.Static:=Sub.strct ur 2 _ rfl
theorem fld66_3 :FldOK Tryz.prog 66 3 3 1 false:=⟨⟨_,_,Tryz.underlying66,rfl,rfl,ty38⟩,by decide⟩
theorem subBindScope_Seen :Sub aj 3 (ba af) BindScope.Seen:=Sub.strct ur 3 _ rfl
theorem fld66_1 :FldOK Tryz.prog 66 1 1 1 false:=⟨⟨_,_,Tryz.underlying66,rfl,rfl,ty9⟩,by decide⟩
theorem jk :Sub aj 1 a6 BindScope.Class:=Sub.strct ur 1 _ rfl
theorem ty28 :TyOK Tryz.prog 28 1 false:=⟨Tryz.sizeOf28,Tryz.isAgg28⟩
theorem en113 :Enters Tryz.prog 113:=⟨_,Tryz.func113,by decide,rfl⟩
theorem en117 :Enters Tryz.prog 117:=⟨_,Tryz.func117,by decide,rfl⟩
theorem uc :Upd aj 2 Rp.bool (fun x y=>{x with Static:=y}):=Upd.strct ur 2 (fd:=⟨_,Rp.bool,BindScope.Static⟩) rfl (fun _ _=>rfl) (by intro x y j fd hj hf;match j,hj with| 0,_=>(cases hf;rfl)| 1,_=>(cases hf;rfl)| 2,h=>exact absurd rfl h| 3,_=>(cases hf;rfl)|_+4,_=>cases hf)
theorem fld64_4 :FldOK Tryz.prog 64 4 4 1 false:=⟨⟨_,_,Tryz.underlying64,rfl,rfl,ty3⟩,by decide⟩
theorem ep :Sub ab 4 (Rp.int .i64) ApiNode.From:=Sub.ofEq bb (Sub.strct k5 4 _ rfl)
theorem fld76_2 :FldOK Tryz.prog 76 2 2 1 false:=⟨⟨_,_,Tryz.underlying76,rfl,rfl,ty9⟩,by decide⟩
theorem ov :Sub ar 2 a6 BindWalkerRaw.method:=Sub.strct ij 2 _ rfl
theorem fld76_3 :FldOK Tryz.prog 76 3 3 1 false:=⟨⟨_,_,Tryz.underlying76,rfl,rfl,ty3⟩,by decide⟩
theorem ra :Sub ar 3 (Rp.int .i64) BindWalkerRaw.many:=Sub.strct ij 3 _ rfl
theorem updBindWalkerRaw_many :Upd ar 3 (Rp.int .i64) (fun x y=>{x with many:=y}):=Upd.strct ij 3 (fd:=⟨_,Rp.int .i64,BindWalkerRaw.many⟩) rfl (fun _ _=>rfl) (by intro x y j fd hj hf;match j,hj with| 0,_=>(cases hf;rfl)| 1,_=>(cases hf;rfl)| 2,_=>(cases hf;rfl)| 3,h=>exact absurd rfl h|_+4,_=>cases hf)
theorem updBindWalkerRaw_method :Upd ar 2 a6 (fun x y=>{x with method:=y}):=Upd.strct ij 2 (fd:=⟨_,a6,BindWalkerRaw.method⟩) rfl (fun _ _=>rfl) (by intro x y j fd hj hf;match j,hj with| 0,_=>(cases hf;rfl)| 1,_=>(cases hf;rfl)| 2,h=>exact absurd rfl h| 3,_=>(cases hf;rfl)|_+4,_=>cases hf)
theorem updBindScope_Seen :Upd aj 3 (ba af) (fun x y=>{x with Seen:=y}):=Upd.strct ur 3 (fd:=⟨_,ba af,BindScope.Seen⟩) rfl (fun _ _=>rfl) (by intro x y j fd hj hf;match j,hj with| 0,_=>(cases hf;rfl)| 1,_=>(cases hf;rfl)| 2,_=>(cases hf;rfl)| 3,h=>exact absurd rfl h|_+4,_=>cases hf)
theorem ty47 :TyOK Tryz.prog 47 3 true:=⟨Tryz.sizeOf47,Tryz.isAgg47⟩
theorem fld47_0 :FldOK Tryz.prog 47 0 0 1 false:=⟨⟨_,_,Tryz.underlying47,rfl,rfl,ty3⟩,by decide⟩
theorem subApiUse_File :Sub ao 0 (Rp.int .i64) ApiUse.File:=Sub.strct fApiUse 0 _ rfl
theorem fld47_1 :FldOK Tryz.prog 47 1 1 1 false:=⟨⟨_,_,Tryz.underlying47,rfl,rfl,ty3⟩,by decide⟩
theorem subApiUse_At :Sub ao 1 (Rp.int .i64) ApiUse.At:=Sub.strct fApiUse 1 _ rfl
theorem el126 :ElOK Tryz.prog 126 3 1 8:=⟨Tryz.underlying126,⟨Tryz.t3,_,rfl,rfl,rfl,rfl,rfl⟩,by decide⟩
theorem el195 :ElOK Tryz.prog 195 5 1 1:=⟨Tryz.underlying195,⟨Tryz.t5,_,rfl,rfl,rfl,rfl,rfl⟩,by decide⟩
theorem st45 :StOK Tryz.prog 45 fApiToken (ApiToken.mk 0 [] 0 []):=stOK Tryz.underlying45 Tryz.zeroValue45 (fun _=>⟨_,_,rfl,rfl,⟨_,_,rfl,rfl,⟨_,_,rfl,rfl,⟨_,_,rfl,rfl,rfl⟩⟩⟩⟩) ⟨rfl,Tryz.sizeOf3,rfl,Tryz.sizeOf9,rfl,Tryz.sizeOf3,rfl,Tryz.sizeOf9,trivial⟩
theorem el41 :ElOK Tryz.prog 41 45 4 48:=⟨Tryz.underlying41,⟨Tryz.t45,_,rfl,rfl,rfl,rfl,rfl⟩,by decide⟩
theorem fld45_1 :FldOK Tryz.prog 45 1 1 1 false:=⟨⟨_,_,Tryz.underlying45,rfl,rfl,ty9⟩,by decide⟩
theorem dw :Sub bz 1 a6 ApiToken.Text:=Sub.strct fApiToken 1 _ rfl
theorem fld45_0 :FldOK Tryz.prog 45 0 0 1 false:=⟨⟨_,_,Tryz.underlying45,rfl,rfl,ty3⟩,by decide⟩
theorem o0 :Sub bz 0 (Rp.int .i64) ApiToken.Kind:=Sub.strct fApiToken 0 _ rfl
theorem st97 :StOK Tryz.prog 97 fRef12Wrong (Ref12Wrong.mk 0 0):=stOK Tryz.underlying97 Tryz.zeroValue97 (fun _=>⟨_,_,rfl,rfl,⟨_,_,rfl,rfl,rfl⟩⟩) ⟨rfl,Tryz.sizeOf3,rfl,Tryz.sizeOf28,trivial⟩
theorem ty97 :TyOK Tryz.prog 97 2 true:=⟨Tryz.sizeOf97,Tryz.isAgg97⟩
theorem fld45_2 :FldOK Tryz.prog 45 2 2 1 false:=⟨⟨_,_,Tryz.underlying45,rfl,rfl,ty3⟩,by decide⟩
theorem ii :Sub bz 2 (Rp.int .i64) ApiToken.At:=Sub.strct fApiToken 2 _ rfl
theorem updApiNode_Type :Upd ab 2 a6 (fun x y=>{x with Type_:=y}):=Upd.ofEq bb (Upd.strct k5 2 (fd:=⟨_,a6,ApiNode.Type_⟩) rfl (fun _ _=>rfl) (by intro x y j fd hj hf;match j,hj with| 0,_=>(cases hf;rfl)| 1,_=>(cases hf;rfl)| 2,h=>exact absurd rfl h| 3,_=>(cases hf;rfl)| 4,_=>(cases hf;rfl)| 5,_=>(cases hf;rfl)| 6,_=>(cases hf;rfl)| 7,_=>(cases hf;rfl)| 8,_=>(cases hf;rfl)|_+9,_=>cases hf))
theorem updApiNode_TypeAt :Upd ab 7 (Rp.int .i64) (fun x y=>{x with TypeAt:=y}):=Upd.ofEq bb (Upd.strct k5 7 (fd:=⟨_,Rp.int .i64,ApiNode.TypeAt⟩) rfl (fun _ _=>rfl) (by intro x y j fd hj hf;match j,hj with| 0,_=>(cases hf;rfl)| 1,_=>(cases hf;rfl)| 2,_=>(cases hf;rfl)| 3,_=>(cases hf;rfl)| 4,_=>(cases hf;rfl)| 5,_=>(cases hf;rfl)| 6,_=>(cases hf;rfl)| 7,h=>exact absurd rfl h| 8,_=>(cases hf;rfl)|_+9,_=>cases hf))
theorem nc :Upd ab 1 a6 (fun x y=>{x with Text:=y}):=Upd.ofEq bb (Upd.strct k5 1 (fd:=⟨_,a6,ApiNode.Text⟩) rfl (fun _ _=>rfl) (by intro x y j fd hj hf;match j,hj with| 0,_=>(cases hf;rfl)| 1,h=>exact absurd rfl h| 2,_=>(cases hf;rfl)| 3,_=>(cases hf;rfl)| 4,_=>(cases hf;rfl)| 5,_=>(cases hf;rfl)| 6,_=>(cases hf;rfl)| 7,_=>(cases hf;rfl)| 8,_=>(cases hf;rfl)|_+9,_=>cases hf))
theorem updApiNode_At :Upd ab 6 (Rp.int .i64) (fun x y=>{x with At:=y}):=Upd.ofEq bb (Upd.strct k5 6 (fd:=⟨_,Rp.int .i64,ApiNode.At⟩) rfl (fun _ _=>rfl) (by intro x y j fd hj hf;match j,hj with| 0,_=>(cases hf;rfl)| 1,_=>(cases hf;rfl)| 2,_=>(cases hf;rfl)| 3,_=>(cases hf;rfl)| 4,_=>(cases hf;rfl)| 5,_=>(cases hf;rfl)| 6,h=>exact absurd rfl h| 7,_=>(cases hf;rfl)| 8,_=>(cases hf;rfl)|_+9,_=>cases hf))
theorem el224 :ElOK Tryz.prog 224 22 1 24:=⟨Tryz.underlying224,⟨Tryz.t22,_,rfl,rfl,rfl,rfl,rfl⟩,by decide⟩
theorem ki :FldOK Tryz.prog 97 0 0 1 false:=⟨⟨_,_,Tryz.underlying97,rfl,rfl,ty3⟩,by decide⟩
theorem cb :Sub ag 0 (Rp.int .i64) Ref12Wrong.Place:=Sub.strct fRef12Wrong 0 _ rfl
theorem updApiNode_N :Upd ab 3 (Rp.int .i64) (fun x y=>{x with N:=y}):=Upd.ofEq bb (Upd.strct k5 3 (fd:=⟨_,Rp.int .i64,ApiNode.N⟩) rfl (fun _ _=>rfl) (by intro x y j fd hj hf;match j,hj with| 0,_=>(cases hf;rfl)| 1,_=>(cases hf;rfl)| 2,_=>(cases hf;rfl)| 3,h=>exact absurd rfl h| 4,_=>(cases hf;rfl)| 5,_=>(cases hf;rfl)| 6,_=>(cases hf;rfl)| 7,_=>(cases hf;rfl)| 8,_=>(cases hf;rfl)|_+9,_=>cases hf))
theorem updApiNode_Kind :Upd ab 0 (Rp.int .i64) (fun x y=>{x with Kind:=y}):=Upd.ofEq bb (Upd.strct k5 0 (fd:=⟨_,Rp.int .i64,ApiNode.Kind⟩) rfl (fun _ _=>rfl) (by intro x y j fd hj hf;match j,hj with| 0,h=>exact absurd rfl h| 1,_=>(cases hf;rfl)| 2,_=>(cases hf;rfl)| 3,_=>(cases hf;rfl)| 4,_=>(cases hf;rfl)| 5,_=>(cases hf;rfl)| 6,_=>(cases hf;rfl)| 7,_=>(cases hf;rfl)| 8,_=>(cases hf;rfl)|_+9,_=>cases hf))
theorem updApiNode_Kids :Upd ab 8 (ba ab) (fun x y=>{x with Kids:=y}):=Upd.ofEq bb (Upd.strct k5 8 (fd:=⟨_,ba ab,ApiNode.Kids⟩) rfl (fun _ _=>rfl) (by intro x y j fd hj hf;match j,hj with| 0,_=>(cases hf;rfl)| 1,_=>(cases hf;rfl)| 2,_=>(cases hf;rfl)| 3,_=>(cases hf;rfl)| 4,_=>(cases hf;rfl)| 5,_=>(cases hf;rfl)| 6,_=>(cases hf;rfl)| 7,_=>(cases hf;rfl)| 8,h=>exact absurd rfl h|_+9,_=>cases hf))
theorem fld64_5 :FldOK Tryz.prog 64 5 5 1 false:=⟨⟨_,_,Tryz.underlying64,rfl,rfl,ty3⟩,by decide⟩
theorem updApiNode_To :Upd ab 5 (Rp.int .i64) (fun x y=>{x with To:=y}):=Upd.ofEq bb (Upd.strct k5 5 (fd:=⟨_,Rp.int .i64,ApiNode.To⟩) rfl (fun _ _=>rfl) (by intro x y j fd hj hf;match j,hj with| 0,_=>(cases hf;rfl)| 1,_=>(cases hf;rfl)| 2,_=>(cases hf;rfl)| 3,_=>(cases hf;rfl)| 4,_=>(cases hf;rfl)| 5,h=>exact absurd rfl h| 6,_=>(cases hf;rfl)| 7,_=>(cases hf;rfl)| 8,_=>(cases hf;rfl)|_+9,_=>cases hf))
theorem fld97_1 :FldOK Tryz.prog 97 1 1 1 false:=⟨⟨_,_,Tryz.underlying97,rfl,rfl,ty28⟩,by decide⟩
theorem subRef12Wrong_Code :Sub ag 1 (Rp.int .i64) Ref12Wrong.Code:=Sub.strct fRef12Wrong 1 _ rfl
theorem fld30_0 :FldOK Tryz.prog 30 0 0 1 false:=⟨⟨_,_,Tryz.underlying30,rfl,rfl,ty28⟩,by decide⟩
theorem io :Sub ak 0 (Rp.int .i64) ApiMistake.Code:=Sub.strct fApiMistake 0 _ rfl
theorem el24 :ElOK Tryz.prog 24 53 1 24:=⟨Tryz.underlying24,⟨Tryz.t53,_,rfl,rfl,rfl,rfl,rfl⟩,by decide⟩
theorem rj :FldOK Tryz.prog 138 0 0 4 true:=⟨⟨_,_,Tryz.underlying138,rfl,rfl,ty66⟩,by decide⟩
theorem cw :Sub al 0 aj TypesChecker.Scope:=Sub.strct rm 0 _ rfl
theorem updTypesChecker_Scope :Upd al 0 aj (fun x y=>{x with Scope:=y}):=Upd.strct rm 0 (fd:=⟨_,aj,TypesChecker.Scope⟩) rfl (fun _ _=>rfl) (by intro x y j fd hj hf;match j,hj with| 0,h=>exact absurd rfl h| 1,_=>(cases hf;rfl)| 2,_=>(cases hf;rfl)|_+3,_=>cases hf)
theorem pq :TyOK Tryz.prog 138 6 true:=⟨Tryz.sizeOf138,Tryz.isAgg138⟩
theorem en108 :Enters Tryz.prog 108:=⟨_,Tryz.func108,by decide,rfl⟩
theorem fld138_2 :FldOK Tryz.prog 138 2 5 1 false:=⟨⟨_,_,Tryz.underlying138,rfl,rfl,ty3⟩,by decide⟩
theorem subTypesChecker_file :Sub al 5 (Rp.int .i64) TypesChecker.file:=Sub.strct rm 2 _ rfl
theorem st103 :StOK Tryz.prog 103 fTypesWrong (TypesWrong.mk (ApiMistake.mk 0 0 0)):=stOK Tryz.underlying103 Tryz.zeroValue103 (fun _=>⟨_,_,rfl,⟨_,_,rfl,rfl,⟨_,_,rfl,rfl,⟨_,_,rfl,rfl,rfl⟩⟩⟩,rfl⟩) ⟨rfl,Tryz.sizeOf30,trivial⟩
theorem fld138_1 :FldOK Tryz.prog 138 1 4 1 false:=⟨⟨_,_,Tryz.underlying138,rfl,rfl,ty9⟩,by decide⟩
theorem subTypesChecker_kind :Sub al 4 a6 TypesChecker.kind:=Sub.strct rm 1 _ rfl
theorem st66 :StOK Tryz.prog 66 ur (BindScope.mk [] [] false []):=stOK Tryz.underlying66 Tryz.zeroValue66 (fun _=>⟨_,_,rfl,⟨_,rfl,none,0,rfl,⟨Nat.le_refl _,fun _=>rfl⟩,.inl rfl⟩,⟨_,_,rfl,rfl,⟨_,_,rfl,rfl,⟨_,_,rfl,⟨_,rfl,none,0,rfl,⟨Nat.le_refl _,fun _=>rfl⟩,.inl rfl⟩,rfl⟩⟩⟩⟩) ⟨rfl,Tryz.sizeOf38,rfl,Tryz.sizeOf9,rfl,Tryz.sizeOf4,rfl,Tryz.sizeOf38,trivial⟩
theorem st138 :StOK Tryz.prog 138 rm (TypesChecker.mk (BindScope.mk [] [] false []) [] 0):=stOK Tryz.underlying138 Tryz.zeroValue138 (fun _=>⟨_,_,rfl,⟨_,_,rfl,⟨_,rfl,none,0,rfl,⟨Nat.le_refl _,fun _=>rfl⟩,.inl rfl⟩,⟨_,_,rfl,rfl,⟨_,_,rfl,rfl,⟨_,_,rfl,⟨_,rfl,none,0,rfl,⟨Nat.le_refl _,fun _=>rfl⟩,.inl rfl⟩,rfl⟩⟩⟩⟩,⟨_,_,rfl,rfl,⟨_,_,rfl,rfl,rfl⟩⟩⟩) ⟨rfl,Tryz.sizeOf66,rfl,Tryz.sizeOf9,rfl,Tryz.sizeOf3,trivial⟩
theorem stBindWalkerRaw :StOK Tryz.prog 76 ij (BindWalkerRaw.mk (.slice none 0 0) 0 [] 0):=stOK Tryz.underlying76 Tryz.zeroValue76 (fun _=>⟨_,_,rfl,⟨rfl,rfl⟩,⟨_,_,rfl,rfl,⟨_,_,rfl,rfl,⟨_,_,rfl,rfl,rfl⟩⟩⟩⟩) ⟨rfl,Tryz.sizeOf27,rfl,Tryz.sizeOf3,rfl,Tryz.sizeOf9,rfl,Tryz.sizeOf3,trivial⟩
theorem updBindWalkerRaw_file :Upd ar 1 (Rp.int .i64) (fun x y=>{x with file:=y}):=Upd.strct ij 1 (fd:=⟨_,Rp.int .i64,BindWalkerRaw.file⟩) rfl (fun _ _=>rfl) (by intro x y j fd hj hf;match j,hj with| 0,_=>(cases hf;rfl)| 1,h=>exact absurd rfl h| 2,_=>(cases hf;rfl)| 3,_=>(cases hf;rfl)|_+4,_=>cases hf)
theorem en39 :Enters Tryz.prog 39:=⟨_,Tryz.func39,by decide,rfl⟩
theorem en36 :Enters Tryz.prog 36:=⟨_,Tryz.func36,by decide,rfl⟩
theorem fld72_0 :FldOK Tryz.prog 72 0 0 3 true:=⟨⟨_,_,Tryz.underlying72,rfl,rfl,ty30⟩,by decide⟩
theorem subBindWrong_m :Sub i6 0 ak BindWrong.m:=Sub.strct fBindWrong 0 _ rfl
theorem en54 :Enters Tryz.prog 54:=⟨_,Tryz.func54,by decide,rfl⟩
theorem fld103_0 :FldOK Tryz.prog 103 0 0 3 true:=⟨⟨_,_,Tryz.underlying103,rfl,rfl,ty30⟩,by decide⟩
theorem subTypesWrong_m :Sub ik 0 ak TypesWrong.m:=Sub.strct fTypesWrong 0 _ rfl
theorem fld30_2 :FldOK Tryz.prog 30 2 2 1 false:=⟨⟨_,_,Tryz.underlying30,rfl,rfl,ty3⟩,by decide⟩
theorem subApiMistake_At :Sub ak 2 (Rp.int .i64) ApiMistake.At:=Sub.strct fApiMistake 2 _ rfl
end Go.Proofs.YtcndghapmoaidaaGreatDoor
