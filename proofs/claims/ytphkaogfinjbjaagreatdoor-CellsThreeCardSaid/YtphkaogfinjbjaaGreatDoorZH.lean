/- What the program's tables say (printed by wip/gen/gen.py). -/
import Derived.Test.YtphkaogfinjbjaaGreatDoorProg
import Derived.Test.YtphkaogfinjbjaaGreatDoorZJ
import Derived.Test.YtphkaogfinjbjaaGreatDoorZT
set_option linter.unusedSimpArgs false
set_option linter.unusedVariables false
set_option linter.unusedSectionVars false
set_option linter.unusedSectionVars false
set_option maxRecDepth 100000
set_option maxHeartbeats 4000000
namespace Go.Proofs.YtphkaogfinjbjaaGreatDoor
open Go Go.Cn
def cellsKept :List Value:=kept.flatMap fun l=>[.string ⟨l.toArray⟩]
def cellsClashes :List Value:=clashes.flatMap fun p=>[.string ⟨p.1.toArray⟩,.string ⟨p.2.toArray⟩]
class Known where
 clashes:Prop
class HasClashes [Known]:Prop where
 it:Known.clashes
instance theGlob [Known]:Glob where
 ok s:=GCells s 0 cellsKept/\(Known.clashes->GCells s 99 cellsClashes)/\(∃m,GCells s 1 [.int .i64 m])/\∃t v,GCells s 3 [.iface t v]
 mono _ _ h k:=⟨k.1.mono h,fun h'=>(k.2.1 h').mono h,k.2.2.1.imp fun _ k=>k.mono h,k.2.2.2.imp fun _ k=>k.imp fun _ k=>k.mono h⟩
variable [Known]
theorem hmx :Tryz.prog.follows .mixedOrders=true:=by kernel_rfl
def fApiSegment :List (Go.Cn.Fd ApiSegment):=[⟨_,ab,ApiSegment.Key⟩,⟨_,ab,ApiSegment.Text⟩]
abbrev ak :Rp ApiSegment:=Rp.strct fApiSegment
def fApiToken :List (Go.Cn.Fd ApiToken):=[⟨_,Rp.int .i64,ApiToken.Kind⟩,⟨_,ab,ApiToken.Text⟩,⟨_,Rp.int .i64,ApiToken.At⟩,⟨_,ab,ApiToken.Lead⟩]
abbrev bi :Rp ApiToken:=Rp.strct fApiToken
def fDiff3Ends :List (Go.Cn.Fd Diff3Ends):=[⟨_,Rp.int .i64,Diff3Ends.o⟩,⟨_,Rp.int .i64,Diff3Ends.a⟩,⟨_,Rp.int .i64,Diff3Ends.b⟩]
abbrev am :Rp Diff3Ends:=Rp.strct fDiff3Ends
def fApiSpan :List (Go.Cn.Fd ApiSpan):=[⟨_,Rp.int .i64,ApiSpan.From⟩,⟨_,Rp.int .i64,ApiSpan.To⟩]
abbrev k8 :Rp ApiSpan:=Rp.strct fApiSpan
def fApiChunk :List (Go.Cn.Fd ApiChunk):=[⟨_,Rp.int .i64,ApiChunk.Kind⟩,⟨_,k8,ApiChunk.O⟩,⟨_,k8,ApiChunk.A⟩,⟨_,k8,ApiChunk.B⟩]
abbrev ao :Rp ApiChunk:=Rp.strct fApiChunk
def fApiPart :List (Go.Cn.Fd ApiPart):=[⟨_,Rp.bool,ApiPart.Clash⟩,⟨_,ab,ApiPart.O⟩,⟨_,ab,ApiPart.A⟩,⟨_,ab,ApiPart.B⟩]
abbrev al :Rp ApiPart:=Rp.strct fApiPart
def fApiConflict :List (Go.Cn.Fd ApiConflict):=[⟨_,Rp.int .i64,ApiConflict.Kind⟩,⟨_,ab,ApiConflict.Key⟩]
abbrev cp :Rp ApiConflict:=Rp.strct fApiConflict
def spec64 (f:((List UInt8)->Option Bool)):List Pr->Pr->Prop:=fun args res=>∃(a0:List UInt8) (r:Bool),args=[aj a0]/\res=Pr.bool r/\f a0=some r
def spec145 (f:(Int->Option Bool)):List Pr->Pr->Prop:=fun args res=>∃(a0:Int) (r:Bool),args=[Pr.u8 a0]/\res=Pr.bool r/\f a0=some r
def mh (f:(Unit->Option ((List (List UInt8)) × Bool))):List Pr->Pr->Prop:=fun args res=>∃(r:(List (List UInt8)) × Bool),args=[]/\res=bn [af ab r.1,Pr.bool r.2]/\f ()=some r
theorem ty9 :TyOK Tryz.prog 9 1 false:=⟨Tryz.sizeOf9,Tryz.isAgg9⟩
theorem el33 :ElOK Tryz.prog 33 9 1 16:=⟨Tryz.underlying33,⟨Tryz.t9,_,rfl,rfl,rfl,rfl,rfl⟩,by decide⟩
theorem ty22 :TyOK Tryz.prog 22 1 false:=⟨Tryz.sizeOf22,Tryz.isAgg22⟩
theorem ty38 :TyOK Tryz.prog 38 2 true:=⟨Tryz.sizeOf38,Tryz.isAgg38⟩
theorem fld38_0 :FldOK Tryz.prog 38 0 0 1 false:=⟨⟨_,_,Tryz.underlying38,rfl,rfl,ty9⟩,by decide⟩
theorem subApiSegment_Key :Sub ak 0 ab ApiSegment.Key:=Sub.strct fApiSegment 0 _ rfl
theorem ty56 :TyOK Tryz.prog 56 2 true:=⟨Tryz.sizeOf56,Tryz.isAgg56⟩
theorem ty51 :TyOK Tryz.prog 51 1 false:=⟨Tryz.sizeOf51,Tryz.isAgg51⟩
theorem fld38_1 :FldOK Tryz.prog 38 1 1 1 false:=⟨⟨_,_,Tryz.underlying38,rfl,rfl,ty9⟩,by decide⟩
theorem k9 :Sub ak 1 ab ApiSegment.Text:=Sub.strct fApiSegment 1 _ rfl
theorem ty33 :TyOK Tryz.prog 33 1 false:=⟨Tryz.sizeOf33,Tryz.isAgg33⟩
theorem en39 :oa Tryz.prog 39:=⟨_,Tryz.func39,by decide,rfl⟩
theorem en107 :oa Tryz.prog 107:=⟨_,Tryz.func107,by decide,rfl⟩
theorem en108 :oa Tryz.prog 108:=⟨_,Tryz.func108,by decide,rfl⟩
theorem en117 :oa Tryz.prog 117:=⟨_,Tryz.func117,by decide,rfl⟩
theorem en109 :oa Tryz.prog 109:=⟨_,Tryz.func109,by decide,rfl⟩
theorem en110 :oa Tryz.prog 110:=⟨_,Tryz.func110,by decide,rfl⟩
theorem en112 :oa Tryz.prog 112:=⟨_,Tryz.func112,by decide,rfl⟩
theorem ty3 :TyOK Tryz.prog 3 1 false:=⟨Tryz.sizeOf3,Tryz.isAgg3⟩
theorem st109 :StOK Tryz.prog 109 fApiToken (ApiToken.mk 0 [] 0 []):=stOK Tryz.underlying109 Tryz.zeroValue109 (fun _=>⟨_,_,rfl,rfl,⟨_,_,rfl,rfl,⟨_,_,rfl,rfl,⟨_,_,rfl,rfl,rfl⟩⟩⟩⟩) ⟨rfl,Tryz.sizeOf3,rfl,Tryz.sizeOf9,rfl,Tryz.sizeOf3,rfl,Tryz.sizeOf9,trivial⟩
theorem el104 :ElOK Tryz.prog 104 109 4 48:=⟨Tryz.underlying104,⟨Tryz.t109,_,rfl,rfl,rfl,rfl,rfl⟩,by decide⟩
theorem el90 :ElOK Tryz.prog 90 3 1 8:=⟨Tryz.underlying90,⟨Tryz.t3,_,rfl,rfl,rfl,rfl,rfl⟩,by decide⟩
theorem el87 :ElOK Tryz.prog 87 90 1 24:=⟨Tryz.underlying87,⟨Tryz.t90,_,rfl,rfl,rfl,rfl,rfl⟩,by decide⟩
theorem ty152 :TyOK Tryz.prog 152 1 false:=⟨Tryz.sizeOf152,Tryz.isAgg152⟩
theorem ty21 :TyOK Tryz.prog 21 1 false:=⟨Tryz.sizeOf21,Tryz.isAgg21⟩
theorem fld117_0 :FldOK Tryz.prog 117 0 0 1 false:=⟨⟨_,_,Tryz.underlying117,rfl,rfl,ty3⟩,by decide⟩
theorem d8 :Sub am 0 (Rp.int .i64) Diff3Ends.o:=Sub.strct fDiff3Ends 0 _ rfl
theorem ty90 :TyOK Tryz.prog 90 1 false:=⟨Tryz.sizeOf90,Tryz.isAgg90⟩
theorem fld117_1 :FldOK Tryz.prog 117 1 1 1 false:=⟨⟨_,_,Tryz.underlying117,rfl,rfl,ty3⟩,by decide⟩
theorem kg :Sub am 1 (Rp.int .i64) Diff3Ends.a:=Sub.strct fDiff3Ends 1 _ rfl
theorem fld117_2 :FldOK Tryz.prog 117 2 2 1 false:=⟨⟨_,_,Tryz.underlying117,rfl,rfl,ty3⟩,by decide⟩
theorem kf :Sub am 2 (Rp.int .i64) Diff3Ends.b:=Sub.strct fDiff3Ends 2 _ rfl
theorem st117 :StOK Tryz.prog 117 fDiff3Ends (Diff3Ends.mk 0 0 0):=stOK Tryz.underlying117 Tryz.zeroValue117 (fun _=>⟨_,_,rfl,rfl,⟨_,_,rfl,rfl,⟨_,_,rfl,rfl,rfl⟩⟩⟩) ⟨rfl,Tryz.sizeOf3,rfl,Tryz.sizeOf3,rfl,Tryz.sizeOf3,trivial⟩
theorem ty117 :TyOK Tryz.prog 117 3 true:=⟨Tryz.sizeOf117,Tryz.isAgg117⟩
theorem eqDiff3Ends :EqOK Tryz.prog 117 am 2:=eqOK_strct Tryz.underlying117 (by kernel_rfl) ⟨by decide,rfl,(eqOK_int Tryz.underlying3),ty3,by decide,rfl,(eqOK_int Tryz.underlying3),ty3,by decide,rfl,(eqOK_int Tryz.underlying3),ty3,trivial⟩ (fun x y h=>by cases x;cases y;simpa [fDiff3Ends] using h)
theorem eqgDiff3Ends :Tryz.prog.eqGuardType Tryz.prog.depth 117=false:=by kernel_rfl
theorem st69 :StOK Tryz.prog 69 fApiSpan (ApiSpan.mk 0 0):=stOK Tryz.underlying69 Tryz.zeroValue69 (fun _=>⟨_,_,rfl,rfl,⟨_,_,rfl,rfl,rfl⟩⟩) ⟨rfl,Tryz.sizeOf3,rfl,Tryz.sizeOf3,trivial⟩
theorem st71 :StOK Tryz.prog 71 fApiChunk (ApiChunk.mk 0 (ApiSpan.mk 0 0) (ApiSpan.mk 0 0) (ApiSpan.mk 0 0)):=stOK Tryz.underlying71 Tryz.zeroValue71 (fun _=>⟨_,_,rfl,rfl,⟨_,_,rfl,⟨_,_,rfl,rfl,⟨_,_,rfl,rfl,rfl⟩⟩,⟨_,_,rfl,⟨_,_,rfl,rfl,⟨_,_,rfl,rfl,rfl⟩⟩,⟨_,_,rfl,⟨_,_,rfl,rfl,⟨_,_,rfl,rfl,rfl⟩⟩,rfl⟩⟩⟩⟩) ⟨rfl,Tryz.sizeOf3,rfl,Tryz.sizeOf69,rfl,Tryz.sizeOf69,rfl,Tryz.sizeOf69,trivial⟩
theorem el66 :ElOK Tryz.prog 66 71 7 56:=⟨Tryz.underlying66,⟨Tryz.t71,_,rfl,rfl,rfl,rfl,rfl⟩,by decide⟩
theorem el78 :ElOK Tryz.prog 78 33 1 24:=⟨Tryz.underlying78,⟨Tryz.t33,_,rfl,rfl,rfl,rfl,rfl⟩,by decide⟩
theorem ty71 :TyOK Tryz.prog 71 7 true:=⟨Tryz.sizeOf71,Tryz.isAgg71⟩
theorem fld71_0 :FldOK Tryz.prog 71 0 0 1 false:=⟨⟨_,_,Tryz.underlying71,rfl,rfl,ty3⟩,by decide⟩
theorem eb :Sub ao 0 (Rp.int .i64) ApiChunk.Kind:=Sub.strct fApiChunk 0 _ rfl
theorem ty69 :TyOK Tryz.prog 69 2 true:=⟨Tryz.sizeOf69,Tryz.isAgg69⟩
theorem fld71_1 :FldOK Tryz.prog 71 1 1 2 true:=⟨⟨_,_,Tryz.underlying71,rfl,rfl,ty69⟩,by decide⟩
theorem fld69_0 :FldOK Tryz.prog 69 0 0 1 false:=⟨⟨_,_,Tryz.underlying69,rfl,rfl,ty3⟩,by decide⟩
theorem iq :Sub ao 1 k8 ApiChunk.O:=Sub.strct fApiChunk 1 _ rfl
theorem c5 :Sub k8 0 (Rp.int .i64) ApiSpan.From:=Sub.strct fApiSpan 0 _ rfl
theorem fld69_1 :FldOK Tryz.prog 69 1 1 1 false:=⟨⟨_,_,Tryz.underlying69,rfl,rfl,ty3⟩,by decide⟩
theorem dp :Sub k8 1 (Rp.int .i64) ApiSpan.To:=Sub.strct fApiSpan 1 _ rfl
theorem en90 :oa Tryz.prog 90:=⟨_,Tryz.func90,by decide,rfl⟩
theorem fld71_2 :FldOK Tryz.prog 71 2 3 2 true:=⟨⟨_,_,Tryz.underlying71,rfl,rfl,ty69⟩,by decide⟩
theorem fr :Sub ao 3 k8 ApiChunk.A:=Sub.strct fApiChunk 2 _ rfl
theorem fld71_3 :FldOK Tryz.prog 71 3 5 2 true:=⟨⟨_,_,Tryz.underlying71,rfl,rfl,ty69⟩,by decide⟩
theorem fq :Sub ao 5 k8 ApiChunk.B:=Sub.strct fApiChunk 3 _ rfl
theorem st95 :StOK Tryz.prog 95 fApiPart (ApiPart.mk false [] [] []):=stOK Tryz.underlying95 Tryz.zeroValue95 (fun _=>⟨_,_,rfl,rfl,⟨_,_,rfl,rfl,⟨_,_,rfl,rfl,⟨_,_,rfl,rfl,rfl⟩⟩⟩⟩) ⟨rfl,Tryz.sizeOf4,rfl,Tryz.sizeOf9,rfl,Tryz.sizeOf9,rfl,Tryz.sizeOf9,trivial⟩
theorem fld95_3 :FldOK Tryz.prog 95 3 3 1 false:=⟨⟨_,_,Tryz.underlying95,rfl,rfl,ty9⟩,by decide⟩
theorem lh :Sub al 3 ab ApiPart.B:=Sub.strct fApiPart 3 _ rfl
theorem fld95_2 :FldOK Tryz.prog 95 2 2 1 false:=⟨⟨_,_,Tryz.underlying95,rfl,rfl,ty9⟩,by decide⟩
theorem updApiPart_A :Upd al 2 ab (fun x y=>{x with A:=y}):=Upd.strct fApiPart 2 (fd:=⟨_,ab,ApiPart.A⟩) rfl (fun _ _=>rfl) (by intro x y j fd hj hf;match j,hj with| 0,_=>(cases hf;rfl)| 1,_=>(cases hf;rfl)| 2,h=>exact absurd rfl h| 3,_=>(cases hf;rfl)|_+4,_=>cases hf)
theorem jh :Sub al 2 ab ApiPart.A:=Sub.strct fApiPart 2 _ rfl
theorem updApiPart_B :Upd al 3 ab (fun x y=>{x with B:=y}):=Upd.strct fApiPart 3 (fd:=⟨_,ab,ApiPart.B⟩) rfl (fun _ _=>rfl) (by intro x y j fd hj hf;match j,hj with| 0,_=>(cases hf;rfl)| 1,_=>(cases hf;rfl)| 2,_=>(cases hf;rfl)| 3,h=>exact absurd rfl h|_+4,_=>cases hf)
theorem ty4 :TyOK Tryz.prog 4 1 false:=⟨Tryz.sizeOf4,Tryz.isAgg4⟩
theorem fld95_0 :FldOK Tryz.prog 95 0 0 1 false:=⟨⟨_,_,Tryz.underlying95,rfl,rfl,ty4⟩,by decide⟩
theorem ig :Sub al 0 Rp.bool ApiPart.Clash:=Sub.strct fApiPart 0 _ rfl
theorem fld95_1 :FldOK Tryz.prog 95 1 1 1 false:=⟨⟨_,_,Tryz.underlying95,rfl,rfl,ty9⟩,by decide⟩
theorem subApiPart_O :Sub al 1 ab ApiPart.O:=Sub.strct fApiPart 1 _ rfl
theorem ty95 :TyOK Tryz.prog 95 4 true:=⟨Tryz.sizeOf95,Tryz.isAgg95⟩
theorem el80 :ElOK Tryz.prog 80 95 4 56:=⟨Tryz.underlying80,⟨Tryz.t95,_,rfl,rfl,rfl,rfl,rfl⟩,by decide⟩
theorem updApiPart_O :Upd al 1 ab (fun x y=>{x with O:=y}):=Upd.strct fApiPart 1 (fd:=⟨_,ab,ApiPart.O⟩) rfl (fun _ _=>rfl) (by intro x y j fd hj hf;match j,hj with| 0,_=>(cases hf;rfl)| 1,h=>exact absurd rfl h| 2,_=>(cases hf;rfl)| 3,_=>(cases hf;rfl)|_+4,_=>cases hf)
theorem el120 :ElOK Tryz.prog 120 101 1 8:=⟨Tryz.underlying120,⟨Tryz.t101,_,rfl,rfl,rfl,rfl,rfl⟩,by decide⟩
theorem ty101 :TyOK Tryz.prog 101 1 false:=⟨Tryz.sizeOf101,Tryz.isAgg101⟩
theorem ty109 :TyOK Tryz.prog 109 4 true:=⟨Tryz.sizeOf109,Tryz.isAgg109⟩
theorem fld109_3 :FldOK Tryz.prog 109 3 3 1 false:=⟨⟨_,_,Tryz.underlying109,rfl,rfl,ty9⟩,by decide⟩
theorem subApiToken_Lead :Sub bi 3 ab ApiToken.Lead:=Sub.strct fApiToken 3 _ rfl
theorem fld109_1 :FldOK Tryz.prog 109 1 1 1 false:=⟨⟨_,_,Tryz.underlying109,rfl,rfl,ty9⟩,by decide⟩
theorem subApiToken_Text :Sub bi 1 ab ApiToken.Text:=Sub.strct fApiToken 1 _ rfl
theorem en69 :oa Tryz.prog 69:=⟨_,Tryz.func69,by decide,rfl⟩
theorem en71 :oa Tryz.prog 71:=⟨_,Tryz.func71,by decide,rfl⟩
theorem eqA56 :EqOK Tryz.prog 56 (aq 2 ab) 2:=eqOK_arr Tryz.underlying56 ⟨Tryz.t9,rfl⟩ (by kernel_rfl) ty9 (eqOK_str Tryz.underlying9)
theorem eqg56 :Tryz.prog.eqGuardType Tryz.prog.depth 56=false:=by kernel_rfl
theorem el73 :ElOK Tryz.prog 73 22 1 24:=⟨Tryz.underlying73,⟨Tryz.t22,_,rfl,rfl,rfl,rfl,rfl⟩,by decide⟩
theorem st46 :StOK Tryz.prog 46 fApiConflict (ApiConflict.mk 0 []):=stOK Tryz.underlying46 Tryz.zeroValue46 (fun _=>⟨_,_,rfl,rfl,⟨_,_,rfl,rfl,rfl⟩⟩) ⟨rfl,Tryz.sizeOf3,rfl,Tryz.sizeOf9,trivial⟩
theorem el25 :ElOK Tryz.prog 25 46 2 24:=⟨Tryz.underlying25,⟨Tryz.t46,_,rfl,rfl,rfl,rfl,rfl⟩,by decide⟩
theorem st38 :StOK Tryz.prog 38 fApiSegment (ApiSegment.mk [] []):=stOK Tryz.underlying38 Tryz.zeroValue38 (fun _=>⟨_,_,rfl,rfl,⟨_,_,rfl,rfl,rfl⟩⟩) ⟨rfl,Tryz.sizeOf9,rfl,Tryz.sizeOf9,trivial⟩
theorem el22 :ElOK Tryz.prog 22 38 2 32:=⟨Tryz.underlying22,⟨Tryz.t38,_,rfl,rfl,rfl,rfl,rfl⟩,by decide⟩
theorem en54 :oa Tryz.prog 54:=⟨_,Tryz.func54,by decide,rfl⟩
theorem ty32 :TyOK Tryz.prog 32 3 true:=⟨Tryz.sizeOf32,Tryz.isAgg32⟩
theorem ty122 :TyOK Tryz.prog 122 1 false:=⟨Tryz.sizeOf122,Tryz.isAgg122⟩
theorem fld124_1 :FldOK Tryz.prog 124 1 1 1 false:=⟨⟨_,_,Tryz.underlying124,rfl,rfl,ty122⟩,by decide⟩
theorem el122 :ElOK Tryz.prog 122 5 1 1:=⟨Tryz.underlying122,⟨Tryz.t5,_,rfl,rfl,rfl,rfl,rfl⟩,by decide⟩
theorem ty121 :TyOK Tryz.prog 121 1 false:=⟨Tryz.sizeOf121,Tryz.isAgg121⟩
theorem fld124_0 :FldOK Tryz.prog 124 0 0 1 false:=⟨⟨_,_,Tryz.underlying124,rfl,rfl,ty121⟩,by decide⟩
end Go.Proofs.YtphkaogfinjbjaaGreatDoor
