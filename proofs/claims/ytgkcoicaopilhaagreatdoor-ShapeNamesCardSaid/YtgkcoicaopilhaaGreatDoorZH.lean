/- What the program's tables say (printed by wip/gen/gen.py). -/
import Derived.Test.YtgkcoicaopilhaaGreatDoorProg
import Derived.Test.YtgkcoicaopilhaaGreatDoorZJ
import Derived.Test.YtgkcoicaopilhaaGreatDoorZT
set_option linter.unusedSimpArgs false
set_option linter.unusedVariables false
set_option linter.unusedSectionVars false
set_option linter.unusedSectionVars false
set_option maxRecDepth 100000
set_option maxHeartbeats 4000000
namespace Go.Proofs.YtgkcoicaopilhaaGreatDoor
open Go Go.Cn
def cellsKept :List Value:=kept.flatMap fun l=>[.string ⟨l.toArray⟩]
instance theGlob :Glob where
 ok s:=GCells s 0 cellsKept/\(∃m,GCells s 1 [.int .i64 m])/\(∃t v,GCells s 3 [.iface t v])/\(s.F 4/\∃T fz,s.w.heap[4]? =some (.cells (Lib.pow10Tab.map fun z=>Value.int .u64 z).toArray T fz))
 mono _ _ h k:=⟨k.1.mono h,k.2.1.imp fun _ k=>k.mono h,k.2.2.1.imp fun _ k=>k.imp fun _ k=>k.mono h,h.fin _ k.2.2.2.1,by rw[h.blk _ k.2.2.2.1];exact k.2.2.2.2⟩
theorem hmx :Tryz.prog.follows .mixedOrders=true:=by kernel_rfl
def gApiNode :List (FG ApiNode):=[FG.const (Rp.int .i64) ApiNode.Kind,FG.const (am) ApiNode.Text,FG.const (am) ApiNode.Type_,FG.const (Rp.int .i64) ApiNode.N,FG.const (Rp.int .i64) ApiNode.From,FG.const (Rp.int .i64) ApiNode.To,FG.const (Rp.int .i64) ApiNode.At,FG.const (Rp.int .i64) ApiNode.TypeAt,FG.list ApiNode.Kids]
def ab :Rp ApiNode:=Rp.fix gApiNode 9 rfl
def jt :List (Go.Cn.Fd ApiNode):=[⟨_,Rp.int .i64,ApiNode.Kind⟩,⟨_,am,ApiNode.Text⟩,⟨_,am,ApiNode.Type_⟩,⟨_,Rp.int .i64,ApiNode.N⟩,⟨_,Rp.int .i64,ApiNode.From⟩,⟨_,Rp.int .i64,ApiNode.To⟩,⟨_,Rp.int .i64,ApiNode.At⟩,⟨_,Rp.int .i64,ApiNode.TypeAt⟩,⟨_,a9 ab,ApiNode.Kids⟩]
theorem al :ab=i8 jt:=Rp.fix_eq _
def fApiToken :List (Go.Cn.Fd ApiToken):=[⟨_,Rp.int .i64,ApiToken.Kind⟩,⟨_,am,ApiToken.Text⟩,⟨_,Rp.int .i64,ApiToken.At⟩,⟨_,am,ApiToken.Lead⟩]
abbrev ah :Rp ApiToken:=i8 fApiToken
def fRef12Wrong :List (Go.Cn.Fd Ref12Wrong):=[⟨_,Rp.int .i64,Ref12Wrong.Place⟩,⟨_,Rp.int .i64,Ref12Wrong.Code⟩]
abbrev ac :Rp Ref12Wrong:=i8 fRef12Wrong
def fApiMistake :List (Go.Cn.Fd ApiMistake):=[⟨_,Rp.int .i64,ApiMistake.Code⟩,⟨_,Rp.int .i64,ApiMistake.File⟩,⟨_,Rp.int .i64,ApiMistake.At⟩]
abbrev ay :Rp ApiMistake:=i8 fApiMistake
def spec48 (f:((List UInt8)->Option (List UInt8))):List Pr->Pr->Prop:=fun args res=>∃(a0:List UInt8) (r:List UInt8),args=[ai a0]/\res=ai r/\f a0=some r
def spec51 (f:(ApiNode->Option (List UInt8))):List Pr->Pr->Prop:=fun args res=>∃(a0:ApiNode) (r:List UInt8),args=[(ab).val a0]/\res=ai r/\f a0=some r
def spec94 (f:(Int->Option Bool)):List Pr->Pr->Prop:=fun args res=>∃(a0:Int) (r:Bool),args=[Pr.u8 a0]/\res=Pr.bool r/\f a0=some r
theorem ty3 :TyOK Tryz.prog 3 1 false:=⟨Tryz.sizeOf3,Tryz.isAgg3⟩
theorem md :FldOK Tryz.prog 24 0 0 1 false:=⟨⟨_,_,Tryz.underlying24,rfl,rfl,ty3⟩,by decide⟩
theorem c8 :Sub ab 0 (Rp.int .i64) ApiNode.Kind:=Sub.ofEq al (Sub.strct jt 0 _ rfl)
theorem ty9 :TyOK Tryz.prog 9 1 false:=⟨Tryz.sizeOf9,Tryz.isAgg9⟩
theorem gl :FldOK Tryz.prog 24 1 1 1 false:=⟨⟨_,_,Tryz.underlying24,rfl,rfl,ty9⟩,by decide⟩
theorem ct :Sub ab 1 am ApiNode.Text:=Sub.ofEq al (Sub.strct jt 1 _ rfl)
theorem ia :Upd ab 1 am (fun x y=>{x with Text:=y}):=Upd.ofEq al (Upd.strct jt 1 (fd:=⟨_,am,ApiNode.Text⟩) rfl (fun _ _=>rfl) (by intro x y j fd hj hf;match j,hj with| 0,_=>(cases hf;rfl)| 1,h=>exact absurd rfl h| 2,_=>(cases hf;rfl)| 3,_=>(cases hf;rfl)| 4,_=>(cases hf;rfl)| 5,_=>(cases hf;rfl)| 6,_=>(cases hf;rfl)| 7,_=>(cases hf;rfl)| 8,_=>(cases hf;rfl)|_+9,_=>cases hf))
theorem fld24_2 :FldOK Tryz.prog 24 2 2 1 false:=⟨⟨_,_,Tryz.underlying24,rfl,rfl,ty9⟩,by decide⟩
theorem ib :Sub ab 2 am ApiNode.Type_:=Sub.ofEq al (Sub.strct jt 2 _ rfl)
theorem updApiNode_Type :Upd ab 2 am (fun x y=>{x with Type_:=y}):=Upd.ofEq al (Upd.strct jt 2 (fd:=⟨_,am,ApiNode.Type_⟩) rfl (fun _ _=>rfl) (by intro x y j fd hj hf;match j,hj with| 0,_=>(cases hf;rfl)| 1,_=>(cases hf;rfl)| 2,h=>exact absurd rfl h| 3,_=>(cases hf;rfl)| 4,_=>(cases hf;rfl)| 5,_=>(cases hf;rfl)| 6,_=>(cases hf;rfl)| 7,_=>(cases hf;rfl)| 8,_=>(cases hf;rfl)|_+9,_=>cases hf))
theorem ty22 :TyOK Tryz.prog 22 1 false:=⟨Tryz.sizeOf22,Tryz.isAgg22⟩
theorem e8 :FldOK Tryz.prog 24 8 8 1 false:=⟨⟨_,_,Tryz.underlying24,rfl,rfl,ty22⟩,by decide⟩
theorem bi :Sub ab 8 (a9 ab) ApiNode.Kids:=Sub.ofEq al (Sub.strct jt 8 _ rfl)
theorem el22 :ElOK Tryz.prog 22 24 9 104:=⟨Tryz.underlying22,⟨Tryz.t24,_,rfl,rfl,rfl,rfl,rfl⟩,by decide⟩
theorem ty24 :TyOK Tryz.prog 24 9 true:=⟨Tryz.sizeOf24,Tryz.isAgg24⟩
theorem updApiNode_Kids :Upd ab 8 (a9 ab) (fun x y=>{x with Kids:=y}):=Upd.ofEq al (Upd.strct jt 8 (fd:=⟨_,a9 ab,ApiNode.Kids⟩) rfl (fun _ _=>rfl) (by intro x y j fd hj hf;match j,hj with| 0,_=>(cases hf;rfl)| 1,_=>(cases hf;rfl)| 2,_=>(cases hf;rfl)| 3,_=>(cases hf;rfl)| 4,_=>(cases hf;rfl)| 5,_=>(cases hf;rfl)| 6,_=>(cases hf;rfl)| 7,_=>(cases hf;rfl)| 8,h=>exact absurd rfl h|_+9,_=>cases hf))
theorem el25 :ElOK Tryz.prog 25 9 1 16:=⟨Tryz.underlying25,⟨Tryz.t9,_,rfl,rfl,rfl,rfl,rfl⟩,by decide⟩
theorem en71 :Enters Tryz.prog 71:=⟨_,Tryz.func71,by decide,rfl⟩
theorem en151 :Enters Tryz.prog 151:=⟨_,Tryz.func151,by decide,rfl⟩
theorem ty2 :TyOK Tryz.prog 2 1 false:=⟨Tryz.sizeOf2,Tryz.isAgg2⟩
theorem fld24_3 :FldOK Tryz.prog 24 3 3 1 false:=⟨⟨_,_,Tryz.underlying24,rfl,rfl,ty2⟩,by decide⟩
theorem subApiNode_N :Sub ab 3 (Rp.int .i64) ApiNode.N:=Sub.ofEq al (Sub.strct jt 3 _ rfl)
theorem en138 :Enters Tryz.prog 138:=⟨_,Tryz.func138,by decide,rfl⟩
theorem en49 :Enters Tryz.prog 49:=⟨_,Tryz.func49,by decide,rfl⟩
theorem st56 :StOK Tryz.prog 56 fApiToken (ApiToken.mk 0 [] 0 []):=stOK Tryz.underlying56 Tryz.zeroValue56 (fun _=>⟨_,_,rfl,rfl,⟨_,_,rfl,rfl,⟨_,_,rfl,rfl,⟨_,_,rfl,rfl,rfl⟩⟩⟩⟩) ⟨rfl,Tryz.sizeOf3,rfl,Tryz.sizeOf9,rfl,Tryz.sizeOf3,rfl,Tryz.sizeOf9,trivial⟩
theorem el52 :ElOK Tryz.prog 52 56 4 48:=⟨Tryz.underlying52,⟨Tryz.t56,_,rfl,rfl,rfl,rfl,rfl⟩,by decide⟩
theorem en76 :Enters Tryz.prog 76:=⟨_,Tryz.func76,by decide,rfl⟩
theorem en77 :Enters Tryz.prog 77:=⟨_,Tryz.func77,by decide,rfl⟩
theorem en105 :Enters Tryz.prog 105:=⟨_,Tryz.func105,by decide,rfl⟩
theorem en78 :Enters Tryz.prog 78:=⟨_,Tryz.func78,by decide,rfl⟩
theorem en79 :Enters Tryz.prog 79:=⟨_,Tryz.func79,by decide,rfl⟩
theorem en81 :Enters Tryz.prog 81:=⟨_,Tryz.func81,by decide,rfl⟩
theorem ty56 :TyOK Tryz.prog 56 4 true:=⟨Tryz.sizeOf56,Tryz.isAgg56⟩
theorem fld56_1 :FldOK Tryz.prog 56 1 1 1 false:=⟨⟨_,_,Tryz.underlying56,rfl,rfl,ty9⟩,by decide⟩
theorem dp :Sub ah 1 am ApiToken.Text:=Sub.strct fApiToken 1 _ rfl
theorem st59 :StOK Tryz.prog 59 fRef12Wrong (Ref12Wrong.mk 0 0):=stOK Tryz.underlying59 Tryz.zeroValue59 (fun _=>⟨_,_,rfl,rfl,⟨_,_,rfl,rfl,rfl⟩⟩) ⟨rfl,Tryz.sizeOf3,rfl,Tryz.sizeOf34,trivial⟩
theorem ty59 :TyOK Tryz.prog 59 2 true:=⟨Tryz.sizeOf59,Tryz.isAgg59⟩
theorem fld56_0 :FldOK Tryz.prog 56 0 0 1 false:=⟨⟨_,_,Tryz.underlying56,rfl,rfl,ty3⟩,by decide⟩
theorem j6 :Sub ah 0 (Rp.int .i64) ApiToken.Kind:=Sub.strct fApiToken 0 _ rfl
theorem fld56_2 :FldOK Tryz.prog 56 2 2 1 false:=⟨⟨_,_,Tryz.underlying56,rfl,rfl,ty3⟩,by decide⟩
theorem fw :Sub ah 2 (Rp.int .i64) ApiToken.At:=Sub.strct fApiToken 2 _ rfl
theorem fld24_7 :FldOK Tryz.prog 24 7 7 1 false:=⟨⟨_,_,Tryz.underlying24,rfl,rfl,ty3⟩,by decide⟩
theorem updApiNode_TypeAt :Upd ab 7 (Rp.int .i64) (fun x y=>{x with TypeAt:=y}):=Upd.ofEq al (Upd.strct jt 7 (fd:=⟨_,Rp.int .i64,ApiNode.TypeAt⟩) rfl (fun _ _=>rfl) (by intro x y j fd hj hf;match j,hj with| 0,_=>(cases hf;rfl)| 1,_=>(cases hf;rfl)| 2,_=>(cases hf;rfl)| 3,_=>(cases hf;rfl)| 4,_=>(cases hf;rfl)| 5,_=>(cases hf;rfl)| 6,_=>(cases hf;rfl)| 7,h=>exact absurd rfl h| 8,_=>(cases hf;rfl)|_+9,_=>cases hf))
theorem fld24_6 :FldOK Tryz.prog 24 6 6 1 false:=⟨⟨_,_,Tryz.underlying24,rfl,rfl,ty3⟩,by decide⟩
theorem updApiNode_At :Upd ab 6 (Rp.int .i64) (fun x y=>{x with At:=y}):=Upd.ofEq al (Upd.strct jt 6 (fd:=⟨_,Rp.int .i64,ApiNode.At⟩) rfl (fun _ _=>rfl) (by intro x y j fd hj hf;match j,hj with| 0,_=>(cases hf;rfl)| 1,_=>(cases hf;rfl)| 2,_=>(cases hf;rfl)| 3,_=>(cases hf;rfl)| 4,_=>(cases hf;rfl)| 5,_=>(cases hf;rfl)| 6,h=>exact absurd rfl h| 7,_=>(cases hf;rfl)| 8,_=>(cases hf;rfl)|_+9,_=>cases hf))
theorem st24 :StOK Tryz.prog 24 jt (ApiNode.mk 0 [] [] 0 0 0 0 0 []):=stOK Tryz.underlying24 Tryz.zeroValue24 (fun _=>⟨_,_,rfl,rfl,⟨_,_,rfl,rfl,⟨_,_,rfl,rfl,⟨_,_,rfl,rfl,⟨_,_,rfl,rfl,⟨_,_,rfl,rfl,⟨_,_,rfl,rfl,⟨_,_,rfl,rfl,⟨_,_,rfl,⟨_,rfl,none,0,rfl,⟨Nat.le_refl _,fun _=>rfl⟩,.inl rfl⟩,rfl⟩⟩⟩⟩⟩⟩⟩⟩⟩) ⟨rfl,Tryz.sizeOf3,rfl,Tryz.sizeOf9,rfl,Tryz.sizeOf9,rfl,Tryz.sizeOf2,rfl,Tryz.sizeOf3,rfl,Tryz.sizeOf3,rfl,Tryz.sizeOf3,rfl,Tryz.sizeOf3,rfl,Tryz.sizeOf22,trivial⟩
theorem el69 :ElOK Tryz.prog 69 25 1 24:=⟨Tryz.underlying69,⟨Tryz.t25,_,rfl,rfl,rfl,rfl,rfl⟩,by decide⟩
theorem ty25 :TyOK Tryz.prog 25 1 false:=⟨Tryz.sizeOf25,Tryz.isAgg25⟩
theorem gy :FldOK Tryz.prog 59 0 0 1 false:=⟨⟨_,_,Tryz.underlying59,rfl,rfl,ty3⟩,by decide⟩
theorem bb :Sub ac 0 (Rp.int .i64) Ref12Wrong.Place:=Sub.strct fRef12Wrong 0 _ rfl
theorem updApiNode_N :Upd ab 3 (Rp.int .i64) (fun x y=>{x with N:=y}):=Upd.ofEq al (Upd.strct jt 3 (fd:=⟨_,Rp.int .i64,ApiNode.N⟩) rfl (fun _ _=>rfl) (by intro x y j fd hj hf;match j,hj with| 0,_=>(cases hf;rfl)| 1,_=>(cases hf;rfl)| 2,_=>(cases hf;rfl)| 3,h=>exact absurd rfl h| 4,_=>(cases hf;rfl)| 5,_=>(cases hf;rfl)| 6,_=>(cases hf;rfl)| 7,_=>(cases hf;rfl)| 8,_=>(cases hf;rfl)|_+9,_=>cases hf))
theorem updApiNode_Kind :Upd ab 0 (Rp.int .i64) (fun x y=>{x with Kind:=y}):=Upd.ofEq al (Upd.strct jt 0 (fd:=⟨_,Rp.int .i64,ApiNode.Kind⟩) rfl (fun _ _=>rfl) (by intro x y j fd hj hf;match j,hj with| 0,h=>exact absurd rfl h| 1,_=>(cases hf;rfl)| 2,_=>(cases hf;rfl)| 3,_=>(cases hf;rfl)| 4,_=>(cases hf;rfl)| 5,_=>(cases hf;rfl)| 6,_=>(cases hf;rfl)| 7,_=>(cases hf;rfl)| 8,_=>(cases hf;rfl)|_+9,_=>cases hf))
theorem fld24_5 :FldOK Tryz.prog 24 5 5 1 false:=⟨⟨_,_,Tryz.underlying24,rfl,rfl,ty3⟩,by decide⟩
theorem updApiNode_To :Upd ab 5 (Rp.int .i64) (fun x y=>{x with To:=y}):=Upd.ofEq al (Upd.strct jt 5 (fd:=⟨_,Rp.int .i64,ApiNode.To⟩) rfl (fun _ _=>rfl) (by intro x y j fd hj hf;match j,hj with| 0,_=>(cases hf;rfl)| 1,_=>(cases hf;rfl)| 2,_=>(cases hf;rfl)| 3,_=>(cases hf;rfl)| 4,_=>(cases hf;rfl)| 5,h=>exact absurd rfl h| 6,_=>(cases hf;rfl)| 7,_=>(cases hf;rfl)| 8,_=>(cases hf;rfl)|_+9,_=>cases hf))
theorem ty34 :TyOK Tryz.prog 34 1 false:=⟨Tryz.sizeOf34,Tryz.isAgg34⟩
theorem fld59_1 :FldOK Tryz.prog 59 1 1 1 false:=⟨⟨_,_,Tryz.underlying59,rfl,rfl,ty34⟩,by decide⟩
theorem subRef12Wrong_Code :Sub ac 1 (Rp.int .i64) Ref12Wrong.Code:=Sub.strct fRef12Wrong 1 _ rfl
theorem st36 :StOK Tryz.prog 36 fApiMistake (ApiMistake.mk 0 0 0):=stOK Tryz.underlying36 Tryz.zeroValue36 (fun _=>⟨_,_,rfl,rfl,⟨_,_,rfl,rfl,⟨_,_,rfl,rfl,rfl⟩⟩⟩) ⟨rfl,Tryz.sizeOf34,rfl,Tryz.sizeOf3,rfl,Tryz.sizeOf3,trivial⟩
theorem ty36 :TyOK Tryz.prog 36 3 true:=⟨Tryz.sizeOf36,Tryz.isAgg36⟩
theorem el71 :ElOK Tryz.prog 71 3 1 8:=⟨Tryz.underlying71,⟨Tryz.t3,_,rfl,rfl,rfl,rfl,rfl⟩,by decide⟩
theorem el67 :ElOK Tryz.prog 67 71 1 24:=⟨Tryz.underlying67,⟨Tryz.t71,_,rfl,rfl,rfl,rfl,rfl⟩,by decide⟩
theorem ty138 :TyOK Tryz.prog 138 1 false:=⟨Tryz.sizeOf138,Tryz.isAgg138⟩
theorem ty21 :TyOK Tryz.prog 21 1 false:=⟨Tryz.sizeOf21,Tryz.isAgg21⟩
theorem ty71 :TyOK Tryz.prog 71 1 false:=⟨Tryz.sizeOf71,Tryz.isAgg71⟩
theorem fld36_0 :FldOK Tryz.prog 36 0 0 1 false:=⟨⟨_,_,Tryz.underlying36,rfl,rfl,ty34⟩,by decide⟩
theorem subApiMistake_Code :Sub ay 0 (Rp.int .i64) ApiMistake.Code:=Sub.strct fApiMistake 0 _ rfl
end Go.Proofs.YtgkcoicaopilhaaGreatDoor
