/- The data of the program, and its functions over plain data (printed by wip/gen/gen.py). -/
import Derived.Lib.ItoaNum
import Derived.Test.YtcndghapmoaidaaGreatDoorZJ
set_option linter.unusedSimpArgs false
set_option linter.unusedVariables false
set_option linter.unusedSectionVars false
namespace Go.Proofs.YtcndghapmoaidaaGreatDoor
noncomputable section
open Go Go.Cn
def km (n b:Int):Option Bt:=if b=10/\ -9223372036854775808<=n/\n<=9223372036854775807 then some (Lib.itoa n)else none
def aly (m:SMap Bool):Option (SMap Bool):=some m
end
end Go.Proofs.YtcndghapmoaidaaGreatDoor
set_option linter.unusedSectionVars false
set_option maxRecDepth 100000
set_option maxHeartbeats 4000000
namespace Go.Proofs.YtcndghapmoaidaaGreatDoor
noncomputable section
open Go Go.Cn
structure A9 where
 Kind:Int
 Id:Bt
 Name:Bt
 Owner:Bt
 Type_:Bt
 Static:Bool
 Params:List Bt
 File:Int
 At:Int
 deriving DecidableEq
structure B0 where
 kind:Int
 owner:Bt
 name:Bt
 deriving DecidableEq
structure B3 where
 Code:Int
 File:Int
 At:Int
 deriving DecidableEq
structure B4 where
 l:List A9
 known:GMap B0 Bool
 m:B3
 deriving DecidableEq
structure B5 where
 Kind:Int
 Text:Bt
 Type_:Bt
 N:Int
 From:Int
 To:Int
 At:Int
 TypeAt:Int
 Kids:List B5
structure B6 where
 Table:List A9
 Class:Bt
 Static:Bool
 Seen:List A9
 deriving DecidableEq
structure B7 where
 File:Int
 At:Int
 Id:Bt
 deriving DecidableEq
structure B8 where
 uses:List B7
 file:Int
 method:Bt
 many:Int
 deriving DecidableEq
structure B9 where
 m:B3
 deriving DecidableEq
structure C5 where
 Kind:Int
 Text:Bt
 At:Int
 Lead:Bt
 deriving DecidableEq
structure C6 where
 Place:Int
 Code:Int
 deriving DecidableEq
structure C7 where
 L:List B7
 M:B3
 File:Int
 Method:Bt
 Many:Int
 deriving DecidableEq
structure C8 where
 Table:List A9
 Class:Bt
 Static:Bool
 Seen:List A9
 deriving DecidableEq
structure TypesChecker where
 Scope:B6
 kind:Bt
 file:Int
 deriving DecidableEq
structure TypesWrong where
 m:B3
 deriving DecidableEq
structure Ref18Place where
 S:C8
 Type_:Bt
 File:Int
 deriving DecidableEq
structure D0 where
 l:Value
 known:Value
 m:B3
structure D3 where
 Kind:Int
 Id:Bt
 Name:Bt
 Owner:Bt
 Type_:Bt
 Static:Bool
 Params:Value
 File:Int
 At:Int
structure D4 where
 uses:Value
 file:Int
 method:Bt
 many:Int
structure Ref17StateRaw where
 L:Value
 M:B3
 File:Int
 Method:Bt
 Many:Int
def ad0 (l:List A9):Option (List A9):=app 120 [] l
def og (x1 x2:Int) (x4:B4):Option (B4):=some (B4.mk x4.l x4.known (B3.mk 150 x1 x2))
abbrev Ty0 :Type:=Option (Bool × B4)
def s7 (x1:A9) (x3:B4) (x11:List A9):Ty0:=some (true,(B4.mk x11 (gset (B0.mk x1.Kind x1.Owner x1.Name) true x3.known) x3.m))
def s6 (x3:B4) (x1:A9):Ty0:=(app 120 x3.l ([x1]:List A9)).bind fun x11=>s7 x1 x3 x11
def s5 (x1:A9) (x3:B4):Ty0:=(if(gget (B0.mk x1.Kind x1.Owner x1.Name) false x3.known)=true then(og x1.File x1.At x3).bind fun x9=>some (false,x9)else s6 x3 x1)
def nl (x1:A9) (x3:B4):Ty0:=s5 x1 x3
abbrev Ty1 :Type:=Option (Bt)
def tj (x1:Bt):Ty1:=some x1
def xg (x1 x2:Bt):Ty1:=(cat x1 ([46]:Bt)).bind fun x3=>(cat x3 x2).bind fun x4=>some x4
def tu (x1 x2:Bt):Ty1:=(xg x1 x2).bind fun x3=>(cat x3 ([40,41]:Bt)).bind fun x4=>some x4
def o4 (x1:Int):Ty1:=(km x1 10).bind fun x2=>some x2
def adz (x1:Int):Ty1:=(o4 x1).bind fun x2=>some x2
def ti (x1:Bt) (x2:Int):Ty1:=(cat x1 ([35]:Bt)).bind fun x3=>(adz (if 0>x2 then 0 else x2)).bind fun x4=>(cat x3 x4).bind fun x5=>some x5
def mj (x1:B5) (x3:List A9) (x6:A9):Option ((List A9) × A9):=(ti x6.Id (x3.length:Int)).bind fun x9=>(app 120 x3 ([(A9.mk 4 x9 x1.Text x6.Id x1.Type_ false [] x6.File x1.At)]:List A9)).bind fun x10=>some (x10,x6)
abbrev kc (σ:Type):Type:=B5->(σ)->Option (Bool × (σ))
def aht {σ:Type} (yld:σ->B5->Option (Bool × σ)) (R:kc σ) (x10:σ):Option (Bool × (σ)):=some (true,x10)
def q7 {σ:Type} (yld:σ->B5->Option (Bool × σ)) (R:kc σ) (x1:B5) (x9:Int) (x10:σ):Option ((Int × (σ)) ⊕ (Flow (σ) (Bool × (σ)))):=(if(decide (x9<(x1.Kids.length:Int)))=true then(idx x1.Kids x9).bind fun x16=>(R x16 x10).bind fun(x18,x19)=>(if(!x18)=true then some (.inr (.done (false,x19)))else some (.inl (w64 (x9+1),x19)))else some (.inr (.next x10)))
def adj {σ:Type} (yld:σ->B5->Option (Bool × σ)) (R:kc σ) (x1:B5) (x2:σ):Option (Bool × (σ)):=(yld x2 x1).bind fun(x5,x6)=>(if(!x5)=true then some (false,x6)else(iter (fun s=>q7 yld R x1 s.1 s.2) (0,x6)).bind fun z=>match z with| .next p=>aht yld R p| .done r=>some r)
def ak0 {σ:Type} (yld:σ->B5->Option (Bool × σ)) (R:kc σ):kc σ:=(fun x1 x2=>adj yld R x1 x2)
def md {σ:Type} (yld:σ->B5->Option (Bool × σ)) (n:Nat):kc σ:=Nat.rec (motive:=fun _=>kc σ) (fun x1 x2=>none) (fun _ R=>ak0 yld R) n
def aob {σ:Type} (yld:σ->B5->Option (Bool × σ)) (x1:B5) (x2:σ):Option (Bool × (σ)):=md yld 1048576 x1 x2
def aeb {σ:Type} (yld:σ->B5->Option (Bool × σ)) (x2:B5) (x3:σ):Option (B5 × (σ)):=(aob yld x2 x3).bind fun(x5,x6)=>some (x2,x6)
def adb (x9:List B5) (x7:B5) (x14:Bool):Option (Bool × ((List B5))):=(if x14=true then(app 104 x9 ([(B5.mk 0 [] [] 0 0 0 0 0 [])]:List B5)).bind fun x256=>(idx x256 (x9.length:Int)).bind fun x316=>some (true,(List.set x256 (Int.toNat (x9.length:Int)) x7))else some (true,x9))
def ada (x2:Int) (x9:List B5) (x7:B5):Option (Bool × ((List B5))):=(if(x2==0)=true then adb x9 x7 true else adb x9 x7 (x7.Kind==x2))
abbrev Ty2 :Type:=Option ((List B5))
def ajx (x1:B5) (x2:Int):Ty2:=(aeb (fun(s:(List B5)) (a:B5)=>ada x2 s a) x1 []).bind fun(x496,x497)=>some x497
abbrev fu :Type:=(B5->(SMap Bool)->Option (B5 × Bool))
def ae8 (R:fu) (x9:SMap Bool):Option (B5 × Bool):=some ((B5.mk 0 [] [] 0 0 0 0 0 []),false)
abbrev Ty3 :Type:=Option ((Int × (SMap Bool)) ⊕ (Flow (SMap Bool) (B5 × Bool)))
def wk (R:fu) (x8:Int) (x25:SMap Bool) (x13 x20:B5):Ty3:=some (.inl (w64 (x8+1),x25))
def wj (R:fu) (x13:B5) (x9:SMap Bool) (x16:Bool) (x8:Int) (x18:Bool):Ty3:=(if x18=true then some (.inr (.done (x13,true)))else(R x13 x9).bind fun(x20,x21)=>(if x21=true then some (.inr (.done (x20,true)))else(if x16=true then wk R x8 (mset x13.Text true x9) x13 x20 else wk R x8 x9 x13 x20)))
def sh (R:fu) (x13:B5) (x9:SMap Bool) (x8:Int) (x16:Bool):Ty3:=(if x16=true then wj R x13 x9 x16 x8 (mget x13.Text false x9)else wj R x13 x9 x16 x8 false)
def mz (R:fu) (x1:B5) (x8:Int) (x9:SMap Bool):Ty3:=(if(decide (x8<(x1.Kids.length:Int)))=true then(idx x1.Kids x8).bind fun x13=>(if(x13.Kind==4)=true then sh R x13 x9 x8 true else sh R x13 x9 x8 (x13.Kind==6))else some (.inr (.next x9)))
def y0 (R:fu) (x1:B5) (x3:SMap Bool):Option (B5 × Bool):=(aly x3).bind fun x6=>(iter (fun s=>mz R x1 s.1 s.2) (0,x6)).bind fun z=>match z with| .next p=>ae8 R p| .done r=>some r
def aiw (R:fu):fu:=(fun x1 x3=>y0 R x1 x3)
def jd (n:Nat):fu:=Nat.rec (motive:=fun _=>fu) (fun x1 x3=>none) (fun _ R=>aiw R) n
def ajo (x1:B5) (x3:SMap Bool):Option (B5 × Bool):=(jd 1048576) x1 x3
def o7 (x1:B5) (x21:Int) (x76:B4) (x79:List A9):Ty0:=(ajo x1 ([]:SMap Bool)).bind fun(x82,x83)=>(if x83=true then(og x21 x82.At (B4.mk x79 x76.known x76.m)).bind fun x86=>some (false,x86)else some (true,(B4.mk x79 x76.known x76.m)))
def o6 (x14:Int) (x15 x16 x17 x18:Bt) (x19:Bool) (x21 x22:Int) (x3:B4) (x25:List A9) (x1:B5) (x63:List Bt):Ty0:=(nl (A9.mk x14 x15 x16 x17 x18 x19 x63 x21 x22) x3).bind fun(x75,x76)=>(if(!x75)=true then some (false,x76)else(app 120 x76.l x25).bind fun x79=>o7 x1 x21 x76 x79)
abbrev Ty4 :Type:=Option ((Int × (List Bt)) ⊕ ((List Bt)))
def ln (x61:Int) (x74:List Bt) (x68:B5):Ty4:=some (.inl (w64 (x61+1),x74))
def iy (x1:B5) (x61:Int) (x63:List Bt):Ty4:=(if(decide (x61<(x1.Kids.length:Int)))=true then(idx x1.Kids x61).bind fun x68=>(if(x68.Kind==4)=true then(app 16 x63 ([x68.Type_]:List Bt)).bind fun x71=>ln x61 x71 x68 else ln x61 x63 x68)else some (.inr x63))
def o5 (x1:B5) (x3:B4) (x24:List Bt) (x14:Int) (x15 x16 x17 x18:Bt) (x19:Bool) (x21 x22:Int) (x25:List A9):Ty0:=(iter (fun s=>iy x1 s.1 s.2) (0,x24)).bind fun p=>o6 x14 x15 x16 x17 x18 x19 x21 x22 x3 x25 x1 p
abbrev Ty5 :Type:=Option ((Int × Int × Bt × Bt × Bt × Bt × Bool × Int × Int × (List Bt) × (List A9)) ⊕ ((List Bt) × Int × Bt × Bt × Bt × Bt × Bool × Int × Int × (List A9)))
def lm (x13 x50:Int) (x51 x52 x53 x54:Bt) (x55:Bool) (x57 x58:Int) (x59:List A9) (x60:List Bt) (x40:B5):Ty5:=some (.inl (w64 (x13+1),x50,x51,x52,x53,x54,x55,x57,x58,x60,x59))
def jx (x40:B5) (x25:List A9) (x14:Int) (x15 x16 x17 x18:Bt) (x19:Bool) (x24:List Bt) (x21 x22 x13:Int) (x43:Bool):Ty5:=(if x43=true then(mj x40 x25 (A9.mk x14 x15 x16 x17 x18 x19 x24 x21 x22)).bind fun(x45,x47)=>lm x13 x47.Kind x47.Id x47.Name x47.Owner x47.Type_ x47.Static x47.File x47.At x45 x47.Params x40 else lm x13 x14 x15 x16 x17 x18 x19 x21 x22 x25 x24 x40)
def ix (x12:List B5) (x13 x14:Int) (x15 x16 x17 x18:Bt) (x19:Bool) (x21 x22:Int) (x24:List Bt) (x25:List A9):Ty5:=(if(decide (x13<(x12.length:Int)))=true then(idx x12 x13).bind fun x40=>(if(x40.Kind==4)=true then jx x40 x25 x14 x15 x16 x17 x18 x19 x24 x21 x22 x13 true else jx x40 x25 x14 x15 x16 x17 x18 x19 x24 x21 x22 x13 (x40.Kind==6))else some (.inr (x24,x14,x15,x16,x17,x18,x19,x21,x22,x25)))
def ot (x1:B5) (x3:B4) (x6:A9):Ty0:=(tu x6.Owner x6.Name).bind fun x10=>(ajx x1 0).bind fun x12=>(iter (fun s=>ix x12 s.1 s.2.1 s.2.2.1 s.2.2.2.1 s.2.2.2.2.1 s.2.2.2.2.2.1 s.2.2.2.2.2.2.1 s.2.2.2.2.2.2.2.1 s.2.2.2.2.2.2.2.2.1 s.2.2.2.2.2.2.2.2.2.1 s.2.2.2.2.2.2.2.2.2.2) (0,3,x10,x6.Name,x6.Owner,x6.Type_,x6.Static,x6.File,x6.At,x6.Params,[])).bind fun p=>o5 x1 x3 p.1 p.2.1 p.2.2.1 p.2.2.2.1 p.2.2.2.2.1 p.2.2.2.2.2.1 p.2.2.2.2.2.2.1 p.2.2.2.2.2.2.2.1 p.2.2.2.2.2.2.2.2.1 p.2.2.2.2.2.2.2.2.2
def vd (x15:B3) (x17:List A9) (x16:GMap B0 Bool):Ty0:=some (true,(B4.mk x17 x16 x15))
abbrev Ty6 :Type:=Option ((Int × B3 × (GMap B0 Bool) × (List A9)) ⊕ (Flow (B3 × (List A9) × (GMap B0 Bool)) (Bool × B4)))
def jc (x13:Int) (x43:Bool) (x45:B3) (x46:GMap B0 Bool) (x47:List A9):Ty6:=(if x43=true then some (.inr (.done (false,(B4.mk x47 x46 x45))))else some (.inl (w64 (x13+1),x45,x46,x47)))
def jb (x24:B5) (x26 x27:Bt) (x1 x13:Int) (x33:Bool) (x35:B3) (x36:GMap B0 Bool) (x37:List A9):Ty6:=(if x33=true then some (.inr (.done (false,(B4.mk x37 x36 x35))))else(if(x24.Kind==3)=true then(ot x24 (B4.mk x37 x36 x35) (A9.mk 2 x26 x24.Text x27 x24.Type_ (x24.N==1) [] x1 x24.At)).bind fun(x40,x41)=>jc x13 (!x40) x41.m x41.known x41.l else jc x13 false x35 x36 x37))
def pw (x24:B5) (x1:Int) (x17:List A9) (x16:GMap B0 Bool) (x15:B3) (x13:Int) (x26 x27:Bt):Ty6:=(if(x24.Kind==2)=true then(nl (A9.mk 2 x26 x24.Text x27 x24.Type_ (x24.N==1) [] x1 x24.At) (B4.mk x17 x16 x15)).bind fun(x30,x31)=>jb x24 x26 x27 x1 x13 (!x30) x31.m x31.known x31.l else jb x24 x26 x27 x1 x13 false x15 x16 x17)
def ja (x2:B5) (x1 x13:Int) (x15:B3) (x16:GMap B0 Bool) (x17:List A9):Ty6:=(if(decide (x13<(x2.Kids.length:Int)))=true then(idx x2.Kids x13).bind fun x24=>(xg x2.Text x24.Text).bind fun x26=>(tj x2.Text).bind fun x27=>pw x24 x1 x17 x16 x15 x13 x26 x27 else some (.inr (.next (x15,x17,x16))))
def ml (x2:B5) (x1:Int) (x9:Bool) (x10:B4):Ty0:=(if(!x9)=true then some (false,x10)else(iter (fun s=>ja x2 x1 s.1 s.2.1 s.2.2.1 s.2.2.2) (0,x10.m,x10.known,x10.l)).bind fun z=>match z with| .next p=>vd p.1 p.2.1 p.2.2| .done r=>some r)
def qo (x1:Int) (x2:B5) (x4:B4):Ty0:=(tj x2.Text).bind fun x8=>(nl (A9.mk 1 x8 x2.Text [] x2.Type_ false [] x1 x2.At) x4).bind fun(x9,x10)=>ml x2 x1 x9 x10
abbrev Ty7 :Type:=Option ((List A9) × B3)
def ae9 (x6:GMap B0 Bool) (x8:B3) (x9:List A9):Ty7:=some (x9,(B3.mk 0 0 0))
abbrev Ty8 :Type:=Option ((Int × (GMap B0 Bool) × B3 × (List A9)) ⊕ (Flow ((GMap B0 Bool) × B3 × (List A9)) ((List A9) × B3)))
def aa7 (x5:Int) (x18:GMap B0 Bool) (x20:B3) (x21:List A9):Ty8:=some (.inl (w64 (x5+1),x18,x20,x21))
abbrev Ty9 :Type:=Option ((Int × (GMap B0 Bool) × B3 × (List A9)) ⊕ (Flow ((GMap B0 Bool) × B3 × (List A9)) ((Int × (GMap B0 Bool) × B3 × (List A9)) ⊕ (Flow ((GMap B0 Bool) × B3 × (List A9)) ((List A9) × B3)))))
def aa8 (x36:B3):Ty9:=some (.inr (.done (.inr (.done ([],x36)))))
def po (x17:Int) (x34:Bool) (x36:B3) (x37:GMap B0 Bool) (x38:List A9):Ty9:=(if x34=true then aa8 x36 else some (.inl (w64 (x17+1),x37,x36,x38)))
def pn (x16:List B5) (x5 x17:Int) (x18:GMap B0 Bool) (x20:B3) (x21:List A9):Ty9:=(if(decide (x17<(x16.length:Int)))=true then(idx x16 x17).bind fun x28=>(if(x28.Kind==1)=true then(qo x5 x28 (B4.mk x21 x18 x20)).bind fun(x31,x32)=>po x17 (!x31) x32.m x32.known x32.l else po x17 false x20 x18 x21)else some (.inr (.next (x18,x20,x21))))
def m0 (x1:List (List B5)) (x5:Int) (x6:GMap B0 Bool) (x8:B3) (x9:List A9):Ty8:=(if(decide (x5<(x1.length:Int)))=true then(idx x1 x5).bind fun x16=>(iter (fun s=>pn x16 x5 s.1 s.2.1 s.2.2.1 s.2.2.2) (0,x6,x8,x9)).bind fun z=>match z with| .next p=>aa7 x5 p.1 p.2.1 p.2.2| .done r=>some r else some (.inr (.next (x6,x8,x9))))
def adf (x1:List (List B5)):Ty7:=(iter (fun s=>m0 x1 s.1 s.2.1 s.2.2.1 s.2.2.2) (0,([]:GMap B0 Bool),(B3.mk 0 0 0),[])).bind fun z=>match z with| .next p=>ae9 p.1 p.2.1 p.2.2| .done r=>some r
def ahv :Option (A9 × Bool):=some ((A9.mk 0 [] [] [] [] false [] 0 0),false)
abbrev Ty10 :Type:=Option ((Int) ⊕ (Flow Unit (A9 × Bool)))
def abq (x7:A9) (x4:Int) (x10:Bool):Ty10:=(if x10=true then some (.inr (.done (x7,true)))else some (.inl (w64 (x4+1))))
def tp (x1:List A9) (x2:Bt) (x4:Int):Ty10:=(if(decide (x4<(x1.length:Int)))=true then(idx x1 x4).bind fun x7=>(if(x7.Kind==1)=true then abq x7 x4 (x7.Id==x2)else abq x7 x4 false)else some (.inr (.next ())))
abbrev Ty11 :Type:=Option (A9 × Bool)
def ac1 (x1:List A9) (x2:Bt):Ty11:=(iter (fun s=>tp x1 x2 s) 0).bind fun z=>match z with| .next p=>ahv| .done r=>some r
def pk {σ:Type} (yld:σ->A9->Option (Bool × σ)) (x2:List A9) (x8:Bt) (x16:A9) (x11:SMap Bool) (x28:Bool) (x29:σ):Option ((Bt × (σ) × (SMap Bool)) ⊕ ((List A9) × Bt × (σ))):=(if x28=true then some (.inr (x2,x8,x29))else some (.inl (x16.Type_,x29,(mset x8 true x11))))
def j0 {σ:Type} (yld:σ->A9->Option (Bool × σ)) (x2:List A9) (x8:Bt) (x9:σ) (x11:SMap Bool):Option ((Bt × (σ) × (SMap Bool)) ⊕ ((List A9) × Bt × (σ))):=(ac1 x2 x8).bind fun(x16,x17)=>(if(!x17)=true then pk yld x2 x8 x16 x11 true x9 else(if(mget x8 false x11)=true then pk yld x2 x8 x16 x11 true x9 else(yld x9 x16).bind fun(x21,x22)=>pk yld x2 x8 x16 x11 (!x21) x22))
def zw {σ:Type} (yld:σ->A9->Option (Bool × σ)) (x2:List A9) (x4:Bt) (x5:σ):Option ((List A9) × Bt × (σ)):=iter (fun s=>j0 yld x2 s.1 s.2.1 s.2.2) (x4,x5,([]:SMap Bool))
def tr (x3:Bt) (x8:A9):Option (Bool × ((Unit) ⊕ (A9))):=(if(x8.Id==x3)=true then some (false,.inr x8)else some (true,.inl ()))
abbrev Ty12 :Type:=Option (Bool)
def afm (x1:List A9) (x2 x3:Bt):Ty12:=(zw (yldX (fun(s:Unit) (a:A9)=>tr x3 a)) x1 x2 (.inl ())).bind fun(x11,x12,x15)=>match x15 with| .inl x13=>some false| .inr x16=>some true
def al0 :Option (Bool × ((Unit) ⊕ (A9 × A9))):=some (true,.inl ())
abbrev Ty13 :Type:=Option ((Int) ⊕ (Flow Unit (Bool × ((Unit) ⊕ (A9 × A9)))))
def afu (x16 x11:A9) (x13:Int) (x20:Bool):Ty13:=(if x20=true then some (.inr (.done (false,.inr (x16,x11))))else some (.inl (w64 (x13+1))))
def zp (x1:List A9) (x11:A9) (x3:(A9->Option Bool)) (x13:Int):Ty13:=(if(decide (x13<(x1.length:Int)))=true then(idx x1 x13).bind fun x16=>(if(x16.Owner==x11.Id)=true then(x3 x16).bind fun x19=>afu x16 x11 x13 x19 else afu x16 x11 x13 false)else some (.inr (.next ())))
def xx (x1:List A9) (x3:(A9->Option Bool)) (x11:A9):Option (Bool × ((Unit) ⊕ (A9 × A9))):=(iter (fun s=>zp x1 x11 x3 s) 0).bind fun z=>match z with| .next p=>al0| .done r=>some r
def aft :Option (A9 × Bool):=some ((A9.mk 0 [] [] [] [] false [] 0 0),false)
def afs (x27:A9 × A9):Ty11:=some (x27.1,true)
def ali (x1:List A9) (x2:Bt) (x3:(A9->Option Bool)):Ty11:=(zw (yldX (fun(s:Unit) (a:A9)=>xx x1 x3 a)) x1 x2 (.inl ())).bind fun(x22,x23,x26)=>match x26 with| .inl x24=>aft| .inr x27=>afs x27
def wi (x5:Bool):Ty12:=some x5
def adc (x1:A9) (x2:Bt):Ty12:=(if(x1.Kind==2)=true then wi (x1.Name==x2)else wi false)
def vk (x1:List A9) (x2 x3:Bt):Ty11:=(ali x1 x2 (fun a0=>adc a0 x3)).bind fun(x6,x7)=>some (x6,x7)
def ud (x5:Bool):Ty12:=some x5
def abr (x1:A9) (x2:Bt):Ty12:=(if(x1.Kind==3)=true then ud (x1.Name==x2)else ud false)
def uu (x1:List A9) (x2 x3:Bt):Ty11:=(ali x1 x2 (fun a0=>abr a0 x3)).bind fun(x6,x7)=>some (x6,x7)
def mf :Option (Bool):=some true
abbrev Ty14 :Type:=Option ((Int) ⊕ (Flow Unit Bool))
def jp (x4:Int) (x7 x8:Bt):Ty14:=(if(!(x7==x8))=true then some (.inr (.done false))else some (.inl (w64 (x4+1))))
def e8 (x1 x2:List Bt) (x4:Int):Ty14:=(if(decide (x4<(x1.length:Int)))=true then(idx x1 x4).bind fun x7=>(idx x2 x4).bind fun x8=>jp x4 x7 x8 else some (.inr (.next ())))
def i8 (x1 x2:List Bt):Ty12:=(if((x1.length:Int) != (x2.length:Int))=true then some false else(iter (fun s=>e8 x1 x2 s) 0).bind fun z=>match z with| .next p=>mf| .done r=>some r)
def yb (x10:Bool):Ty12:=some x10
def aj7 (x1 x2:A9):Ty12:=(if(x1.Type_==x2.Type_)=true then(if(x1.Static==x2.Static)=true then(i8 x1.Params x2.Params).bind fun x7=>yb x7 else yb false)else yb false)
def tn :Option (Int):=some 0
abbrev Ty15 :Type:=Option (Int)
def ya (x17:Bool):Ty15:=(if x17=true then some 160 else tn)
def abp (x30:Bool):Ty15:=(if x30=true then some 161 else tn)
def abo (x2:A9) (x1:List A9) (x4:A9) (x8:Bool):Ty15:=(if x8=true then some 0 else(if(x2.Kind==1)=true then(ac1 x1 x2.Type_).bind fun(x11,x12)=>(if(!(x2.Type_==[]))=true then(if(!x12)=true then ya true else(afm x1 x2.Type_ x2.Id).bind fun x16=>ya x16)else ya false)else(if(x2.Kind==2)=true then(vk x1 x4.Type_ x2.Name).bind fun(x20,x21)=>(if x21=true then some 162 else tn)else(if(x2.Kind==3)=true then(uu x1 x4.Type_ x2.Name).bind fun(x25,x26)=>(if x26=true then(aj7 x25 x2).bind fun x29=>abp (!x29)else abp false)else tn))))
def ahf (x1:List A9) (x2:A9):Ty15:=(ac1 x1 x2.Owner).bind fun(x4,x5)=>(if(x2.Kind != 1)=true then abo x2 x1 x4 (!x5)else abo x2 x1 x4 false)
def ahz :Option (B3):=some (B3.mk 0 0 0)
abbrev Ty16 :Type:=Option ((Int) ⊕ (Flow Unit B3))
def tq (x1:List A9) (x3:Int):Ty16:=(if(decide (x3<(x1.length:Int)))=true then(idx x1 x3).bind fun x6=>(ahf x1 x6).bind fun x8=>(if(x8 != 0)=true then some (.inr (.done (B3.mk x8 x6.File x6.At)))else some (.inl (w64 (x3+1))))else some (.inr (.next ())))
abbrev Ty17 :Type:=Option (B3)
def ahg (x1:List A9):Ty17:=(iter (fun s=>tq x1 s) 0).bind fun z=>match z with| .next p=>ahz| .done r=>some r
def jo :Option (Int):=some (-1)
abbrev Ty18 :Type:=Option ((Int) ⊕ (Flow Unit Int))
def ez (x1:List Bt) (x2:Bt) (x3:Int):Ty18:=(if(decide (x3<(x1.length:Int)))=true then(idx x1 x3).bind fun x6=>(if(x2==x6)=true then some (.inr (.done x3))else some (.inl (w64 (x3+1))))else some (.inr (.next ())))
def kl (x1:List Bt) (x2:Bt):Ty15:=(iter (fun s=>ez x1 x2 s) 0).bind fun z=>match z with| .next p=>jo| .done r=>some r
def fv (x1:List Bt) (x2:Bt):Ty12:=(kl x1 x2).bind fun x3=>some (decide (x3≥0))
abbrev Ty19 :Type:=Option (A9 × Int)
def ll (x1:B6) (x2:A9) (x3:Bool):Ty19:=(if(!x3)=true then some ((A9.mk 0 [] [] [] [] false [] 0 0),170)else some (x2,0))
def xo :Option (A9 × Bool):=some ((A9.mk 0 [] [] [] [] false [] 0 0),false)
def nr (x8:A9) (x5:Int) (x11:Bool):Ty10:=(if x11=true then some (.inr (.done (x8,true)))else some (.inl (w64 (x5+1))))
def jt (x1:B6) (x2:Bt) (x5:Int):Ty10:=(if(decide (x5<(x1.Table.length:Int)))=true then(idx x1.Table x5).bind fun x8=>(if(x8.Kind==1)=true then nr x8 x5 (x8.Id==x2)else nr x8 x5 false)else some (.inr (.next ())))
def jn (x1:B6) (x2:Bt):Ty11:=(iter (fun s=>jt x1 x2 s) 0).bind fun z=>match z with| .next p=>xo| .done r=>some r
abbrev Ty20 :Type:=Option (PX B9 B8)
def kz (x1 x2:Int) (x4:B8):Ty20:=(if(x1 != 0)=true then some (.bad (B9.mk (B3.mk x1 x4.file x2)))else some (.ok x4))
def nm (x1:Int) (x2:Bt) (x4:B8):Option (B8):=(app 32 x4.uses ([(B7.mk x4.file x1 x2)]:List B7)).bind fun x6=>some (B8.mk x6 x4.file x4.method x4.many)
def rh (x2:B5) (x4:B8) (x15:Int) (x14:A9):Ty20:=(anm (kz x15 x2.TypeAt x4) (fun m21=>some (.bad m21)) fun x17=>(nm x2.TypeAt x14.Id x17).bind fun x19=>some (.ok x19))
def k9 (x4:B8) (x1:B6) (x2:B5) (x10:Bool):Ty20:=(if x10=true then some (.ok x4)else(jn x1 x2.Type_).bind fun(x12,x13)=>(ll x1 x12 x13).bind fun(x14,x15)=>rh x2 x4 x15 x14)
def rz (x1:B6) (x2:B5) (x4:B8):Ty20:=(if(decide (x2.TypeAt<0))=true then k9 x4 x1 x2 true else(fv ([([105,110,116]:Bt),([98,111,111,108,101,97,110]:Bt),([118,111,105,100]:Bt)]:List Bt) x2.Type_).bind fun x9=>k9 x4 x1 x2 x9)
def fe {σ:Type} (yld:σ->(Int × A9)->Option (Bool × σ)) (x2:List A9) (x6:σ):Option ((List A9) × (σ)):=some (x2,x6)
def cm {σ:Type} (yld:σ->(Int × A9)->Option (Bool × σ)) (x2:List A9) (x5:Int) (x6:σ):Option ((Int × (σ)) ⊕ (Flow (σ) ((List A9) × (σ)))):=(if(decide (x5≥0))=true then(idx x2 x5).bind fun x12=>(yld x6 (x5,x12)).bind fun(x13,x14)=>(if(!x13)=true then some (.inr (.done (x2,x14)))else some (.inl (w64 (x5 - 1),x14)))else some (.inr (.next x6)))
def eo {σ:Type} (yld:σ->(Int × A9)->Option (Bool × σ)) (x2:List A9) (x3:σ):Option ((List A9) × (σ)):=(iter (fun s=>cm yld x2 s.1 s.2) (w64 ((x2.length:Int) - 1),x3)).bind fun z=>match z with| .next p=>fe yld x2 p| .done r=>some r
def qp (x2:A9) (x9:Bool):Ty19:=(if x9=true then some ((A9.mk 0 [] [] [] [] false [] 0 0),171)else some (x2,0))
def ld (x1:B6) (x2:A9) (x3:Bool):Ty19:=(if(!x3)=true then some ((A9.mk 0 [] [] [] [] false [] 0 0),170)else(if x1.Static=true then qp x2 (!x2.Static)else qp x2 false))
def jf (x2:B5) (x8:Int) (x9:A9):Option (Bool × ((Unit) ⊕ (A9))):=(if(x9.Name==x2.Text)=true then some (false,.inr x9)else some (true,.inl ()))
def ov (x25:A9) (x26:Int):Ty19:=some (x25,x26)
def ql (x1:B6) (x2:B5):Ty19:=(eo (yldX (fun(s:Unit) (a:Int × A9)=>jf x2 a.1 a.2)) x1.Seen (.inl ())).bind fun(x12,x15)=>match x15 with| .inl x13=>(vk x1.Table x1.Class x2.Text).bind fun(x17,x18)=>(if x18=true then(ld x1 x17 true).bind fun(x21,x22)=>some (x21,x22)else(jn x1 x2.Text).bind fun(x23,x24)=>(ll x1 x23 x24).bind fun(x25,x26)=>ov x25 x26)| .inr x16=>some (x16,0)
def s9 (x9:Int) (x8:A9):Ty19:=some (x8,x9)
def ug (x1:B6) (x2:B5):Ty19:=(uu x1.Table x1.Class x2.Text).bind fun(x6,x7)=>(ld x1 x6 x7).bind fun(x8,x9)=>s9 x9 x8
def s8 (x9:Int) (x8:A9):Ty19:=some (x8,x9)
def uf (x1:B6) (x2:B5):Ty19:=(jn x1 x2.Text).bind fun(x6,x7)=>(ll x1 x6 x7).bind fun(x8,x9)=>s8 x9 x8
abbrev bh :Type:=(B6->B5->Option (A9 × Int)) × (B6->B5->Option (Bt)) × (B6->B5->Option (A9 × Int)) × (B6->B5->Option (A9 × Int)) × (B6->B5->((List A9)->Bt->Bt->Option (A9 × Bool))->Option (A9 × Int))
def nu (R:bh) (x1:B6) (x2:B5):Ty19:=(if(!(ghas x2.Kind (gset 20 (some 69) (gset 18 (some 68) (gset 21 (some 67) (gset 19 (some 66) (gset 17 (some 65) ([]:GMap Int (Option Nat)))))))))=true then some ((A9.mk 0 [] [] [] [] false [] 0 0),0)else(if decide ((gget x2.Kind none (gset 20 (some 69) (gset 18 (some 68) (gset 21 (some 67) (gset 19 (some 66) (gset 17 (some 65) ([]:GMap Int (Option Nat))))))))=some 65)=true then(ql x1 x2).bind fun(x9,x10)=>some (x9,x10)else(if decide ((gget x2.Kind none (gset 20 (some 69) (gset 18 (some 68) (gset 21 (some 67) (gset 19 (some 66) (gset 17 (some 65) ([]:GMap Int (Option Nat))))))))=some 66)=true then(ug x1 x2).bind fun(x12,x13)=>some (x12,x13)else(if decide ((gget x2.Kind none (gset 20 (some 69) (gset 18 (some 68) (gset 21 (some 67) (gset 19 (some 66) (gset 17 (some 65) ([]:GMap Int (Option Nat))))))))=some 67)=true then(uf x1 x2).bind fun(x15,x16)=>some (x15,x16)else(if decide ((gget x2.Kind none (gset 20 (some 69) (gset 18 (some 68) (gset 21 (some 67) (gset 19 (some 66) (gset 17 (some 65) ([]:GMap Int (Option Nat))))))))=some 68)=true then(R.2.2.1 x1 x2).bind fun(x18,x19)=>some (x18,x19)else(if decide ((gget x2.Kind none (gset 20 (some 69) (gset 18 (some 68) (gset 21 (some 67) (gset 19 (some 66) (gset 17 (some 65) ([]:GMap Int (Option Nat))))))))=some 69)=true then(R.2.2.2.1 x1 x2).bind fun(x21,x22)=>some (x21,x22)else none))))))
def ox (R:bh) (x2:B5) (x1:B6) (x9:Bool):Ty1:=(if x9=true then some ([98,111,111,108,101,97,110]:Bt)else(if(x2.Kind==15)=true then some ([110,117,108,108]:Bt)else(if(x2.Kind==24)=true then(fv ([([43]:Bt),([45]:Bt),([42]:Bt),([47]:Bt),([37]:Bt)]:List Bt) x2.Text).bind fun x13=>(if x13=true then some ([105,110,116]:Bt)else some ([98,111,111,108,101,97,110]:Bt))else(if(x2.Kind==16)=true then(if(!x1.Static)=true then some x1.Class else some [])else(R.1 x1 x2).bind fun(x17,x18)=>(if(x18 != 0)=true then some []else(if(x2.Kind==21)=true then some x17.Id else(if(x17.Kind==1)=true then some []else some x17.Type_)))))))
def ow (R:bh) (x2:B5) (x1:B6) (x6:Bool):Ty1:=(if x6=true then some ([105,110,116]:Bt)else(if(x2.Kind==14)=true then ox R x2 x1 (x2.Kind==14)else ox R x2 x1 (x2.Kind==22)))
def qv (R:bh) (x1:B6) (x2:B5):Ty1:=(if(x2.Kind==13)=true then ow R x2 x1 (x2.Kind==13)else ow R x2 x1 (x2.Kind==23))
def r4 (R:bh) (x1:B6) (x2:B5):Ty19:=(R.2.2.2.2 x1 x2 vk).bind fun(x6,x7)=>some (x6,x7)
def mr (R:bh) (x1:B6) (x2:B5):Ty19:=(R.2.2.2.2 x1 x2 uu).bind fun(x6,x7)=>some (x6,x7)
def qb (R:bh) (x33:Int) (x32:A9):Ty19:=some (x32,x33)
def mq (R:bh) (x3:((List A9)->Bt->Bt->Option (A9 × Bool))) (x1:B6) (x23:A9) (x2:B5) (x27:Bool):Ty19:=(if x27=true then some ((A9.mk 0 [] [] [] [] false [] 0 0),180)else(x3 x1.Table x23.Id x2.Text).bind fun(x30,x31)=>(ld ({x1 with Static:=false}) x30 x31).bind fun(x32,x33)=>qb R x33 x32)
def qa (R:bh) (x3:((List A9)->Bt->Bt->Option (A9 × Bool))) (x1:B6) (x2:B5) (x24:Bool) (x23:A9):Ty19:=(if(!x24)=true then mq R x3 x1 x23 x2 true else mq R x3 x1 x23 x2 (x23.Id==[]))
def kg (R:bh) (x1:B6) (x8:B5) (x3:((List A9)->Bt->Bt->Option (A9 × Bool))) (x2:B5):Ty19:=(R.2.1 x1 x8).bind fun x22=>(jn x1 x22).bind fun(x23,x24)=>qa R x3 x1 x2 x24 x23
def pz (R:bh) (x21:Int) (x20:A9):Ty19:=some (x20,x21)
def mo (R:bh) (x3:((List A9)->Bt->Bt->Option (A9 × Bool))) (x1:B6) (x11:A9) (x2 x8:B5) (x15:Bool):Ty19:=(if x15=true then(x3 x1.Table x11.Id x2.Text).bind fun(x18,x19)=>(ld ({x1 with Static:=true}) x18 x19).bind fun(x20,x21)=>pz R x21 x20 else kg R x1 x8 x3 x2)
def nt (R:bh) (x1:B6) (x2:B5) (x3:((List A9)->Bt->Bt->Option (A9 × Bool))):Ty19:=(if((x2.Kids.length:Int)==0)=true then some ((A9.mk 0 [] [] [] [] false [] 0 0),180)else(idx x2.Kids 0).bind fun x8=>(if(x8.Kind==17)=true then(ql x1 x8).bind fun(x11,x12)=>(if(x12==0)=true then mo R x3 x1 x11 x2 x8 (x11.Kind==1)else mo R x3 x1 x11 x2 x8 false)else kg R x1 x8 x3 x2))
def adv (R:bh):bh:=((fun x1 x2=>nu R x1 x2),(fun x1 x2=>qv R x1 x2),(fun x1 x2=>r4 R x1 x2),(fun x1 x2=>mr R x1 x2),(fun x1 x2 x3=>nt R x1 x2 x3))
def cr (n:Nat):bh:=Nat.rec (motive:=fun _=>bh) ((fun x1 x2=>none),(fun x1 x2=>none),(fun x1 x2=>none),(fun x1 x2=>none),(fun x1 x2 x3=>none)) (fun _ R=>adv R) n
def u9 (x1:B6) (x2:B5):Ty19:=(cr 1048576).1 x1 x2
def ah8 (x1:B6) (x2:B5):Ty1:=(cr 1048576).2.1 x1 x2
def ij (x2:B5) (x36:Bt) (x38:Int) (x39:Bt) (x40:Int) (x41:List B7):Ty20:=(nm x2.At x36 (B8.mk x41 x38 x39 x40)).bind fun x42=>some (.ok x42)
def l7 (x16:Bt) (x17:Int) (x2:B5) (x15:Int) (x18:List B7) (x1:B6) (x27:Bool):Ty20:=(if x27=true then(ti x16 x17).bind fun x29=>ij x2 x29 x15 x16 x17 x18 else(u9 x1 x2).bind fun(x30,x31)=>(anm (kz x31 x2.At (B8.mk x18 x15 x16 x17)) (fun m35=>some (.bad m35)) fun x33=>ij x2 x30.Id x33.file x33.method x33.many x33.uses))
def l6 (x2:B5) (x1:B6) (x15:Int) (x16:Bt) (x17:Int) (x18:List B7):Ty20:=(if(decide (x2.At<0))=true then some (.ok (B8.mk x18 x15 x16 x17))else(if(x2.Kind==1)=true then(tj x2.Text).bind fun x21=>ij x2 x21 x15 x16 x17 x18 else(if(x2.Kind==2)=true then(xg x1.Class x2.Text).bind fun x23=>ij x2 x23 x15 x16 x17 x18 else(if(x2.Kind==3)=true then(tu x1.Class x2.Text).bind fun x25=>ij x2 x25 x15 x16 x17 x18 else(if(x2.Kind==4)=true then l7 x16 x17 x2 x15 x18 x1 (x2.Kind==4)else l7 x16 x17 x2 x15 x18 x1 (x2.Kind==6))))))
def ou (x2:B5) (x4:B8) (x1:B6) (x9:Bool):Ty20:=(if x9=true then(anm (kz 171 x2.From x4) (fun m13=>some (.bad m13)) fun x11=>l6 x2 x1 x11.file x11.method x11.many x11.uses)else l6 x2 x1 x4.file x4.method x4.many x4.uses)
def ue (x1:B6) (x2:B5) (x4:B8):Ty20:=(if(x2.Kind==16)=true then ou x2 x4 x1 x1.Static else ou x2 x4 x1 false)
abbrev cj :Type:=(B6->B5->B8->Option (PX B9 (B6 × B8)))
abbrev Ty21 :Type:=Option (PX B9 (B6 × B8))
def nq (R:cj) (x45:List B7) (x41:Int) (x42:Bt) (x43:Int) (x71:B6):Ty21:=some (.ok (x71,(B8.mk x45 x41 x42 x43)))
def rf (R:cj) (x31:Bool) (x1:B6) (x32:Bt) (x2:B5) (x28:B8) (x41:Int) (x42:Bt) (x43:Int) (x45:List B7) (x44:B6):Ty21:=(if x31=true then(ad0 x1.Seen).bind fun x67=>(app 120 x67 ([(A9.mk 4 x32 x2.Text x28.method x2.Type_ false [] x28.file x2.At)]:List A9)).bind fun x69=>nq R x45 x41 x42 x43 ({x1 with Seen:=x69})else nq R x45 x41 x42 x43 x1)
abbrev Ty22 :Type:=Option ((Int × Int × Bt × Int × B6 × (List B7)) ⊕ (Flow (Int × Bt × Int × (List B7) × B6) (PX B9 (B6 × B8))))
def np (R:cj) (x44:B6) (x54:B5) (x45:List B7) (x41 x39:Int) (x60:Bt) (x61:Int):Ty22:=(anm (R x44 x54 (B8.mk x45 x41 x60 x61)) (fun m65=>some (.inr (.done (.bad m65)))) fun(x62,x63)=>some (.inl (w64 (x39+1),x63.file,x63.method,x63.many,x62,x63.uses)))
def js (R:cj) (x1:B6) (x54:B5) (x44:B6) (x45:List B7) (x41 x39:Int) (x42:Bt) (x43:Int) (x57:Bool):Ty22:=(if x57=true then(tu x1.Class x54.Text).bind fun x59=>np R x44 x54 x45 x41 x39 x59 0 else np R x44 x54 x45 x41 x39 x42 x43)
def iw (R:cj) (x22:List B5) (x2:B5) (x1:B6) (x39 x41:Int) (x42:Bt) (x43:Int) (x44:B6) (x45:List B7):Ty22:=(if(decide (x39<(x22.length:Int)))=true then(idx x22 x39).bind fun x54=>(if(x2.Kind==1)=true then js R x1 x54 x44 x45 x41 x39 x42 x43 (x54.Kind==3)else js R x1 x54 x44 x45 x41 x39 x42 x43 false)else some (.inr (.next (x41,x42,x43,x45,x44))))
def jr (R:cj) (x22:List B5) (x2:B5) (x1:B6) (x28:B8) (x31:Bool) (x32:Bt) (x37:Int) (x38:B6):Ty21:=(iter (fun s=>iw R x22 x2 x1 s.1 s.2.1 s.2.2.1 s.2.2.2.1 s.2.2.2.2.1 s.2.2.2.2.2) (0,x28.file,x28.method,x37,x38,x28.uses)).bind fun z=>match z with| .next p=>rf R x31 x1 x32 x2 x28 p.1 p.2.1 p.2.2.1 p.2.2.2.1 p.2.2.2.2| .done r=>some r
def rg (R:cj) (x31:Bool) (x22:List B5) (x2:B5) (x1:B6) (x28:B8) (x32:Bt):Ty21:=(if x31=true then jr R x22 x2 x1 x28 x31 x32 (w64 (x28.many+1)) x1 else(if(x2.Kind==3)=true then jr R x22 x2 x1 x28 x31 x32 x28.many ({x1 with Static:=x2.N==1})else jr R x22 x2 x1 x28 x31 x32 x28.many x1))
def gr (R:cj) (x28:B8) (x22:List B5) (x2:B5) (x1:B6) (x31:Bool):Ty21:=(ti x28.method x28.many).bind fun x32=>rg R x31 x22 x2 x1 x28 x32
def k8 (R:cj) (x1:B6) (x2:B5) (x22:List B5) (x24:Int) (x25:Bt) (x26:Int) (x27:List B7):Ty21:=(anm (ue x1 x2 (B8.mk x27 x24 x25 x26)) (fun m72=>some (.bad m72)) fun x28=>(if(x2.Kind==4)=true then gr R x28 x22 x2 x1 true else gr R x28 x22 x2 x1 (x2.Kind==6)))
def mn (R:cj) (x2:B5) (x1:B6) (x18:B8):Ty21:=(subL x2.Kids 1 (x2.Kids.length:Int)).bind fun x21=>k8 R x1 x2 x21 x18.file x18.method x18.many x18.uses
def fh (R:cj) (x2:B5) (x1:B6) (x9:B8) (x14:Bool):Ty21:=(if x14=true then(idx x2.Kids 0).bind fun x16=>(anm (R x1 x16 x9) (fun m20=>some (.bad m20)) fun(x17,x18)=>mn R x2 x1 x18)else k8 R x1 x2 x2.Kids x9.file x9.method x9.many x9.uses)
def oz (R:cj) (x1:B6) (x2:B5) (x4:B8):Ty21:=(anm (rz x1 x2 x4) (fun m73=>some (.bad m73)) fun x9=>(if(x2.Kind==18)=true then fh R x2 x1 x9 (decide ((x2.Kids.length:Int)>0))else(if(x2.Kind==20)=true then fh R x2 x1 x9 (decide ((x2.Kids.length:Int)>0))else fh R x2 x1 x9 false)))
def aff (R:cj):cj:=(fun x1 x2 x4=>oz R x1 x2 x4)
def bo (n:Nat):cj:=Nat.rec (motive:=fun _=>cj) (fun x1 x2 x4=>none) (fun _ R=>aff R) n
def ab3 (x1:B6) (x2:B5) (x4:B8):Ty21:=(bo 1048576) x1 x2 x4
abbrev Ty23 :Type:=Option ((List B7))
def f7 (x7:List B7):Ty23:=some x7
abbrev Ty24 :Type:=Option ((Int × (List B7)) ⊕ ((List B7)))
def f5 (x6:Int) (x12:List B7):Ty24:=some (.inl (w64 (x6+1),x12))
def dm (x12:List B7) (x11:Int) (x19:Bool):Ty24:=(if x19=true then(idx x12 (w64 (x11 - 1))).bind fun x21=>(idx x12 x11).bind fun x22=>(idx x12 x11).bind fun x23=>(idx (List.set x12 (Int.toNat x11) x21) (w64 (x11 - 1))).bind fun x24=>some (.inl (w64 (x11 - 1),(List.set (List.set x12 (Int.toNat x11) x21) (Int.toNat (w64 (x11 - 1))) x22)))else some (.inr x12))
def ct (x1:Int) (x3:(B7->B7->Option Int)) (x11:Int) (x12:List B7):Ty24:=(if(decide (x11>x1))=true then(idx x12 x11).bind fun x16=>(idx x12 (w64 (x11 - 1))).bind fun x17=>(x3 x16 x17).bind fun x18=>dm x12 x11 (decide (x18<0))else dm x12 x11 false)
def co (x2 x1:Int) (x3:(B7->B7->Option Int)) (x6:Int) (x7:List B7):Ty24:=(if(decide (x6<x2))=true then(iter (fun s=>ct x1 x3 s.1 s.2) (x6,x7)).bind fun p=>f5 x6 p else some (.inr x7))
def d9 (x1 x2:Int) (x3:(B7->B7->Option Int)) (x5:List B7):Ty23:=(iter (fun s=>co x2 x1 x3 s.1 s.2) (w64 (x1+1),x5)).bind fun p=>f7 p
def ib (x8:List B7):Ty23:=some x8
def dg (x3 x2 x1 x7:Int) (x8:List B7):Ty24:=(if(decide (x7<x3))=true then(idx x8 (w64 (x2+x7))).bind fun x12=>(idx x8 (w64 (x1+x7))).bind fun x13=>(idx x8 (w64 (x1+x7))).bind fun x14=>(idx (List.set x8 (Int.toNat (w64 (x1+x7))) x12) (w64 (x2+x7))).bind fun x15=>some (.inl (w64 (x7+1),(List.set (List.set x8 (Int.toNat (w64 (x1+x7))) x12) (Int.toNat (w64 (x2+x7))) x13)))else some (.inr x8))
def d8 (x1 x2 x3:Int) (x4:(B7->B7->Option Int)) (x6:List B7):Ty23:=(iter (fun s=>dg x3 x2 x1 s.1 s.2) (0,x6)).bind fun p=>ib p
def ge (x2:Int) (x4:(B7->B7->Option Int)) (x7:Int) (x9:List B7):Ty23:=(d8 (w64 (x2 - x7)) x2 x7 x4 x9).bind fun x17=>some x17
abbrev Ty25 :Type:=Option ((Int × Int × (List B7)) ⊕ (Int × (List B7)))
def cz (x2:Int) (x4:(B7->B7->Option Int)) (x7 x8:Int) (x9:List B7):Ty25:=(if(x7 != x8)=true then(if(decide (x7>x8))=true then(d8 (w64 (x2 - x7)) x2 x8 x4 x9).bind fun x15=>some (.inl (w64 (x7 - x8),x8,x15))else(d8 (w64 (x2 - x7)) (w64 ((w64 (x2+x8)) - x7)) x7 x4 x9).bind fun x16=>some (.inl (x7,w64 (x8 - x7),x16)))else some (.inr (x7,x9)))
def il (x1 x2 x3:Int) (x4:(B7->B7->Option Int)) (x6:List B7):Ty23:=(iter (fun s=>cz x2 x4 s.1 s.2.1 s.2.2) (w64 (x2 - x1),w64 (x3 - x2),x6)).bind fun p=>ge x2 x4 p.1 p.2
abbrev ao :Type:=(Int->Int->Int->(B7->B7->Option Int)->(List B7)->Option ((List B7)))
def io (R:ao) (x18:List B7):Ty23:=some x18
def dk (R:ao) (x8 x17:Int) (x18:List B7):Ty24:=(if(decide (x17<(w64 (x8 - 1))))=true then(idx x18 (w64 (x17+1))).bind fun x22=>(idx x18 x17).bind fun x23=>(idx x18 x17).bind fun x24=>(idx (List.set x18 (Int.toNat x17) x22) (w64 (x17+1))).bind fun x25=>some (.inl (w64 (x17+1),(List.set (List.set x18 (Int.toNat x17) x22) (Int.toNat (w64 (x17+1))) x23)))else some (.inr x18))
def f3 (R:ao) (x1:Int) (x6:List B7) (x8:Int):Ty23:=(iter (fun s=>dk R x8 s.1 s.2) (x1,x6)).bind fun p=>io R p
abbrev Ty26 :Type:=Option ((Int × Int) ⊕ (Int))
def ip (R:ao) (x8 x9 x15:Int):Ty26:=(if(decide (x15<0))=true then some (.inl (w64 ((w64 (Int.fdiv (IntKind.wrap .u64 (w64 (x8+x9))) 2))+1),x9))else some (.inl (x8,w64 (Int.fdiv (IntKind.wrap .u64 (w64 (x8+x9))) 2))))
def dj (R:ao) (x6:List B7) (x1:Int) (x4:(B7->B7->Option Int)) (x8 x9:Int):Ty26:=(if(decide (x8<x9))=true then(idx x6 (w64 (Int.fdiv (IntKind.wrap .u64 (w64 (x8+x9))) 2))).bind fun x13=>(idx x6 x1).bind fun x14=>(x4 x13 x14).bind fun x15=>ip R x8 x9 x15 else some (.inr x8))
def im (R:ao) (x37:List B7):Ty23:=some x37
def di (R:ao) (x27 x36:Int) (x37:List B7):Ty24:=(if(decide (x36>x27))=true then(idx x37 (w64 (x36 - 1))).bind fun x41=>(idx x37 x36).bind fun x42=>(idx x37 x36).bind fun x43=>(idx (List.set x37 (Int.toNat x36) x41) (w64 (x36 - 1))).bind fun x44=>some (.inl (w64 (x36 - 1),(List.set (List.set x37 (Int.toNat x36) x41) (Int.toNat (w64 (x36 - 1))) x42)))else some (.inr x37))
def f0 (R:ao) (x2:Int) (x6:List B7) (x27:Int):Ty23:=(iter (fun s=>di R x27 s.1 s.2) (x2,x6)).bind fun p=>im R p
def ia (R:ao) (x27 x28 x34:Int):Ty26:=(if(!(decide (x34<0)))=true then some (.inl (w64 ((w64 (Int.fdiv (IntKind.wrap .u64 (w64 (x27+x28))) 2))+1),x28))else some (.inl (x27,w64 (Int.fdiv (IntKind.wrap .u64 (w64 (x27+x28))) 2))))
def dh (R:ao) (x6:List B7) (x2:Int) (x4:(B7->B7->Option Int)) (x27 x28:Int):Ty26:=(if(decide (x27<x28))=true then(idx x6 x2).bind fun x32=>(idx x6 (w64 (Int.fdiv (IntKind.wrap .u64 (w64 (x27+x28))) 2))).bind fun x33=>(x4 x32 x33).bind fun x34=>ia R x27 x28 x34 else some (.inr x27))
def fm (R:ao) (x1 x3 x2 x48:Int) (x4:(B7->B7->Option Int)) (x66:List B7) (x68:Bool):Ty23:=(if x68=true then(R (w64 (Int.fdiv (IntKind.wrap .u64 (w64 (x1+x3))) 2)) (w64 ((w64 ((w64 (Int.fdiv (IntKind.wrap .u64 (w64 (x1+x3))) 2))+x2)) - x48)) x3 x4 x66).bind fun x70=>some x70 else some x66)
def en (R:ao) (x1 x3 x2 x48:Int) (x4:(B7->B7->Option Int)) (x66:List B7):Ty23:=(if(decide ((w64 (Int.fdiv (IntKind.wrap .u64 (w64 (x1+x3))) 2))<(w64 ((w64 ((w64 (Int.fdiv (IntKind.wrap .u64 (w64 (x1+x3))) 2))+x2)) - x48))))=true then fm R x1 x3 x2 x48 x4 x66 (decide ((w64 ((w64 ((w64 (Int.fdiv (IntKind.wrap .u64 (w64 (x1+x3))) 2))+x2)) - x48))<x3))else fm R x1 x3 x2 x48 x4 x66 false)
def fk (R:ao) (x1 x48 x3:Int) (x4:(B7->B7->Option Int)) (x61:List B7) (x2:Int) (x63:Bool):Ty23:=(if x63=true then(R x1 x48 (w64 (Int.fdiv (IntKind.wrap .u64 (w64 (x1+x3))) 2)) x4 x61).bind fun x65=>en R x1 x3 x2 x48 x4 x65 else en R x1 x3 x2 x48 x4 x61)
def ej (R:ao) (x1 x48 x3:Int) (x4:(B7->B7->Option Int)) (x2:Int) (x61:List B7):Ty23:=(if(decide (x1<x48))=true then fk R x1 x48 x3 x4 x61 x2 (decide (x48<(w64 (Int.fdiv (IntKind.wrap .u64 (w64 (x1+x3))) 2))))else fk R x1 x48 x3 x4 x61 x2 false)
def fj (R:ao) (x48 x2 x1 x3:Int) (x4:(B7->B7->Option Int)) (x6:List B7) (x58:Bool):Ty23:=(if x58=true then(il x48 x2 (w64 ((w64 ((w64 (Int.fdiv (IntKind.wrap .u64 (w64 (x1+x3))) 2))+x2)) - x48)) x4 x6).bind fun x60=>ej R x1 x48 x3 x4 x2 x60 else ej R x1 x48 x3 x4 x2 x6)
def g7 (R:ao) (x2 x1 x3:Int) (x4:(B7->B7->Option Int)) (x6:List B7) (x48:Int):Ty23:=(if(decide (x48<x2))=true then fj R x48 x2 x1 x3 x4 x6 (decide (x2<(w64 ((w64 ((w64 (Int.fdiv (IntKind.wrap .u64 (w64 (x1+x3))) 2))+x2)) - x48))))else fj R x48 x2 x1 x3 x4 x6 false)
def g8 (R:ao) (x48 x49 x55:Int):Ty26:=(if(!(decide (x55<0)))=true then some (.inl (w64 ((w64 (Int.fdiv (IntKind.wrap .u64 (w64 (x48+x49))) 2))+1),x49))else some (.inl (x48,w64 (Int.fdiv (IntKind.wrap .u64 (w64 (x48+x49))) 2))))
def de (R:ao) (x6:List B7) (x1 x3 x2:Int) (x4:(B7->B7->Option Int)) (x48 x49:Int):Ty26:=(if(decide (x48<x49))=true then(idx x6 (w64 ((w64 ((w64 ((w64 (Int.fdiv (IntKind.wrap .u64 (w64 (x1+x3))) 2))+x2)) - 1)) - (w64 (Int.fdiv (IntKind.wrap .u64 (w64 (x48+x49))) 2))))).bind fun x53=>(idx x6 (w64 (Int.fdiv (IntKind.wrap .u64 (w64 (x48+x49))) 2))).bind fun x54=>(x4 x53 x54).bind fun x55=>g8 R x48 x49 x55 else some (.inr x48))
def ei (R:ao) (x6:List B7) (x1 x3 x2:Int) (x4:(B7->B7->Option Int)) (x46 x47:Int):Ty23:=(iter (fun s=>de R x6 x1 x3 x2 x4 s.1 s.2) (x46,x47)).bind fun p=>g7 R x2 x1 x3 x4 x6 p
def gb (R:ao) (x1 x2 x3:Int) (x4:(B7->B7->Option Int)) (x6:List B7):Ty23:=(if((w64 (x2 - x1))==1)=true then(iter (fun s=>dj R x6 x1 x4 s.1 s.2) (x2,x3)).bind fun p=>f3 R x1 x6 p else(if((w64 (x3 - x2))==1)=true then(iter (fun s=>dh R x6 x2 x4 s.1 s.2) (x1,x2)).bind fun p=>f0 R x2 x6 p else(if(decide (x2>(w64 (Int.fdiv (IntKind.wrap .u64 (w64 (x1+x3))) 2))))=true then ei R x6 x1 x3 x2 x4 (w64 ((w64 ((w64 (Int.fdiv (IntKind.wrap .u64 (w64 (x1+x3))) 2))+x2)) - x3)) (w64 (Int.fdiv (IntKind.wrap .u64 (w64 (x1+x3))) 2))else ei R x6 x1 x3 x2 x4 x1 x2)))
def ur (R:ao):ao:=(fun x1 x2 x3 x4 x6=>gb R x1 x2 x3 x4 x6)
def bx (n:Nat):ao:=Nat.rec (motive:=fun _=>ao) (fun x1 x2 x3 x4 x6=>none) (fun _ R=>ur R) n
def gl (x1 x2 x3:Int) (x4:(B7->B7->Option Int)) (x6:List B7):Ty23:=(bx 1048576) x1 x2 x3 x4 x6
def la (x15:List B7):Ty23:=some x15
def gc (x14:Int) (x29:List B7):Ty24:=some (.inl (w64 (x14 * 2),x29))
def fc (x14 x1:Int) (x2:(B7->B7->Option Int)) (x19:Int) (x21:List B7):Ty24:=(if(decide ((w64 (x19+x14))<x1))=true then(gl x19 (w64 (x19+x14)) x1 x2 x21).bind fun x28=>gc x14 x28 else gc x14 x21)
def dc (x1 x14:Int) (x2:(B7->B7->Option Int)) (x19 x20:Int) (x21:List B7):Ty25:=(if(decide (x20<=x1))=true then(gl x19 (w64 (x19+x14)) x20 x2 x21).bind fun x26=>some (.inl (x20,w64 (x20+(w64 (2 * x14))),x26))else some (.inr (x19,x21)))
def cw (x1:Int) (x2:(B7->B7->Option Int)) (x14:Int) (x15:List B7):Ty24:=(if(decide (x14<x1))=true then(iter (fun s=>dc x1 x14 x2 s.1 s.2.1 s.2.2) (0,w64 (2 * x14),x15)).bind fun p=>fc x14 x1 x2 p.1 p.2 else some (.inr x15))
def i7 (x1:Int) (x2:(B7->B7->Option Int)) (x5:Int) (x7:List B7):Ty23:=(d9 x5 x1 x2 x7).bind fun x13=>(iter (fun s=>cw x1 x2 s.1 s.2) (20,x13)).bind fun p=>la p
def cv (x1:Int) (x2:(B7->B7->Option Int)) (x5 x6:Int) (x7:List B7):Ty25:=(if(decide (x6<=x1))=true then(d9 x5 x6 x2 x7).bind fun x12=>some (.inl (x6,w64 (x6+20),x12))else some (.inr (x5,x7)))
def ik (x1:Int) (x2:(B7->B7->Option Int)) (x4:List B7):Ty23:=(iter (fun s=>cv x1 x2 s.1 s.2.1 s.2.2) (0,20,x4)).bind fun p=>i7 x1 x2 p.1 p.2
def dq (x1:(B7->B7->Option Int)) (x3:List B7):Ty23:=(ik (x3.length:Int) x1 x3).bind fun x4=>some x4
def act :Option (Int):=some 0
def ii (x1:List Int) (x2:Int):Ty18:=(if(decide (x2<(x1.length:Int)))=true then(idx x1 x2).bind fun x5=>(if(x5 != 0)=true then some (.inr (.done x5))else some (.inl (w64 (x2+1))))else some (.inr (.next ())))
def afv (x1:List Int):Ty15:=(iter (fun s=>ii x1 s) 0).bind fun z=>match z with| .next p=>act| .done r=>some r
def yu (x1:Int):Ty12:=some (x1 != x1)
def qk (x1 x2:Int):Ty15:=(yu x1).bind fun x3=>(yu x2).bind fun x4=>(if x3=true then(if x4=true then some 0 else some (-1))else(if x4=true then some 1 else(if(decide (x1<x2))=true then some (-1)else(if(decide (x1>x2))=true then some 1 else some 0))))
def aba (x7:Int):Ty15:=some x7
def xh (x1 x2:B7):Ty15:=(qk x1.File x2.File).bind fun x5=>(qk x1.At x2.At).bind fun x6=>(afv ([x5,x6]:List Int)).bind fun x7=>aba x7
def al7 :Option (Bt × Bool):=some ([],false)
def aim (x7:B7) (x4:Int) (x10:Bool):Option ((Int) ⊕ (Flow Unit (Bt × Bool))):=(if x10=true then some (.inr (.done (x7.Id,true)))else some (.inl (w64 (x4+1))))
def ail (x1:List B7) (x2 x3 x4:Int):Option ((Int) ⊕ (Flow Unit (Bt × Bool))):=(if(decide (x4<(x1.length:Int)))=true then(idx x1 x4).bind fun x7=>(if(x7.File==x2)=true then aim x7 x4 (x7.At==x3)else aim x7 x4 false)else some (.inr (.next ())))
def avi (x1:List B7) (x2 x3:Int):Option (Bt × Bool):=(iter (fun s=>ail x1 x2 x3 s) 0).bind fun z=>match z with| .next p=>al7| .done r=>some r
def aik (x5:List B7):Ty23:=some x5
def afw (x4:Int) (x16:List B7) (x10:B7):Ty24:=some (.inl (w64 (x4+1),x16))
def zq (x1:List B7) (x2:Bt) (x4:Int) (x5:List B7):Ty24:=(if(decide (x4<(x1.length:Int)))=true then(idx x1 x4).bind fun x10=>(if(x10.Id==x2)=true then(app 32 x5 ([x10]:List B7)).bind fun x13=>afw x4 x13 x10 else afw x4 x5 x10)else some (.inr x5))
def ajh (x1:List B7) (x2:Bt):Ty23:=(iter (fun s=>zq x1 x2 s.1 s.2) (0,[])).bind fun p=>aik p
def nk (x2:Int) (x3:Bt):Option ((Int × Bt) ⊕ (Bt)):=(cat (apm ([IntKind.wrap .u8 (w64 (48+(Int.tmod x2 10)))]:List Int)) x3).bind fun x6=>(if((w64 (Int.tdiv x2 10))==0)=true then some (.inr x6)else some (.inl (w64 (Int.tdiv x2 10),x6)))
def abg (x1:Int):Ty1:=iter (fun s=>nk s.1 s.2) ((if 0>x1 then 0 else x1),[])
def o9 (x1:Bt) (x2:Int):Ty1:=(cat x1 ([35]:Bt)).bind fun x3=>(abg x2).bind fun x4=>(cat x3 x4).bind fun x5=>some x5
def tl (x1 x2:Bt):Ty1:=(cat x1 ([46]:Bt)).bind fun x3=>(cat x3 x2).bind fun x4=>(cat x4 ([40,41]:Bt)).bind fun x5=>some x5
def zu (x1 x2:Bt):Ty1:=(cat x1 ([46]:Bt)).bind fun x3=>(cat x3 x2).bind fun x4=>some x4
abbrev iv :Type:=(B5->Int->Option ((List B5)))
def ad8 (R:iv) (x14:List B5):Ty2:=some x14
def tm (R:iv) (x1:B5) (x2 x13:Int) (x14:List B5):Option ((Int × (List B5)) ⊕ ((List B5))):=(if(decide (x13<(x1.Kids.length:Int)))=true then(idx x1.Kids x13).bind fun x19=>(R x19 x2).bind fun x20=>(app 104 x14 x20).bind fun x21=>some (.inl (w64 (x13+1),x21))else some (.inr x14))
def abl (R:iv) (x1:B5) (x2:Int) (x11:List B5):Ty2:=(iter (fun s=>tm R x1 x2 s.1 s.2) (0,x11)).bind fun p=>ad8 R p
def abk (R:iv) (x1:B5) (x2:Int) (x6:Bool):Ty2:=(if x6=true then(app 104 [] ([x1]:List B5)).bind fun x8=>abl R x1 x2 x8 else abl R x1 x2 [])
def adi (R:iv) (x1:B5) (x2:Int):Ty2:=(if(x2==0)=true then abk R x1 x2 true else abk R x1 x2 (x1.Kind==x2))
def akz (R:iv):iv:=(fun x1 x2=>adi R x1 x2)
def oe (n:Nat):iv:=Nat.rec (motive:=fun _=>iv) (fun x1 x2=>none) (fun _ R=>akz R) n
def an9 (x1:B5) (x2:Int):Ty2:=(oe 1048576) x1 x2
abbrev Ty27 :Type:=Option ((List A9))
def y5 (x8:Bt) (x3:B5) (x1:Bt) (x2:Int) (x12:List A9) (x29:List Bt):Ty27:=(app 120 ([(A9.mk 3 x8 x3.Text x1 x3.Type_ (x3.N==1) x29 x2 x3.At)]:List A9) x12).bind fun x42=>some x42
def tz (x27:Int) (x40:List Bt):Ty4:=some (.inl (w64 (x27+1),x40))
def li (x3:B5) (x27:Int) (x29:List Bt):Ty4:=(if(decide (x27<(x3.Kids.length:Int)))=true then(idx x3.Kids x27).bind fun x34=>(if(x34.Kind==4)=true then(idx x3.Kids x27).bind fun x36=>(app 16 x29 ([x36.Type_]:List Bt)).bind fun x37=>tz x27 x37 else tz x27 x29)else some (.inr x29))
def y4 (x3:B5) (x8 x1:Bt) (x2:Int) (x12:List A9):Ty27:=(iter (fun s=>li x3 s.1 s.2) (0,[])).bind fun p=>y5 x8 x3 x1 x2 x12 p
abbrev Ty28 :Type:=Option ((Int × (List A9)) ⊕ ((List A9)))
def tx (x11:Int) (x26:List A9) (x17:B5):Ty28:=some (.inl (w64 (x11+1),x26))
def qe (x8:Bt) (x12:List A9) (x17:B5) (x2 x11:Int) (x20:Bool):Ty28:=(if x20=true then(o9 x8 (x12.length:Int)).bind fun x22=>(app 120 x12 ([(A9.mk 4 x22 x17.Text x8 x17.Type_ false [] x2 x17.At)]:List A9)).bind fun x23=>tx x11 x23 x17 else tx x11 x12 x17)
def lh (x9:List B5) (x8:Bt) (x2 x11:Int) (x12:List A9):Ty28:=(if(decide (x11<(x9.length:Int)))=true then(idx x9 x11).bind fun x17=>(if(x17.Kind==4)=true then qe x8 x12 x17 x2 x11 true else qe x8 x12 x17 x2 x11 (x17.Kind==6))else some (.inr x12))
def qy (x1:Bt) (x2:Int) (x3:B5):Ty27:=(if(x3.Kind==2)=true then(zu x1 x3.Text).bind fun x7=>some ([(A9.mk 2 x7 x3.Text x1 x3.Type_ (x3.N==1) [] x2 x3.At)]:List A9)else(tl x1 x3.Text).bind fun x8=>(an9 x3 0).bind fun x9=>(iter (fun s=>lh x9 x8 x2 s.1 s.2) (0,[])).bind fun p=>y4 x3 x8 x1 x2 p)
def aak :Option (Int):=some (-1)
def aaj (x2:Int):Ty18:=some (.inl (w64 (x2+1)))
abbrev Ty29 :Type:=Option ((Int) ⊕ (Flow Unit ((Int) ⊕ (Flow Unit Int))))
def pd (x2 x5:Int) (x30:Bool):Ty29:=(if x30=true then some (.inr (.done (.inr (.done x2))))else some (.inl (w64 (x5+1))))
def pb (x2:Int) (x1:List A9) (x5:Int):Ty29:=(if(decide (x5<x2))=true then(idx x1 x2).bind fun x8=>(if(x8.Kind != 4)=true then(idx x1 x2).bind fun x10=>(idx x1 x5).bind fun x11=>(if(x10.Kind==x11.Kind)=true then(idx x1 x2).bind fun x13=>(idx x1 x5).bind fun x14=>(if(x13.Owner==x14.Owner)=true then(idx x1 x2).bind fun x16=>(idx x1 x5).bind fun x17=>pd x2 x5 (x16.Name==x17.Name)else pd x2 x5 false)else pd x2 x5 false)else pd x2 x5 false)else some (.inr (.next ())))
def mu (x1:List A9) (x2:Int):Ty18:=(if(decide (x2<(x1.length:Int)))=true then(iter (fun s=>pb x2 x1 s) 0).bind fun z=>match z with| .next p=>aaj x2| .done r=>some r else some (.inr (.next ())))
def zs (x1:List A9):Ty15:=(iter (fun s=>mu x1 s) 0).bind fun z=>match z with| .next p=>aak| .done r=>some r
abbrev dp :Type:=(B5->(List Bt)->Option (B5 × Bool × (List Bt)))
abbrev Ty30 :Type:=Option (B5 × Bool × (List Bt))
def ae3 (R:dp) (x5:List Bt):Ty30:=some ((B5.mk 0 [] [] 0 0 0 0 0 []),false,x5)
abbrev Ty31 :Type:=Option (((List Bt) × Int) ⊕ (Flow (List Bt) (B5 × Bool × (List Bt))))
def vq (R:dp) (x6:Int) (x33:List Bt) (x10 x20:B5):Ty31:=some (.inl (x33,w64 (x6+1)))
def vp (R:dp) (x5:List Bt) (x10:B5) (x6:Int) (x20:B5) (x26:Bool):Ty31:=(if x26=true then(app 16 [] x5).bind fun x29=>(app 16 x29 ([x10.Text]:List Bt)).bind fun x31=>vq R x6 x31 x10 x20 else vq R x6 x5 x10 x20)
def r8 (R:dp) (x10:B5) (x5:List Bt) (x6:Int):Ty31:=(R x10 x5).bind fun(x20,x21,x22)=>(if x21=true then some (.inr (.done (x20,true,[])))else(if(x10.Kind==4)=true then vp R x5 x10 x6 x20 true else vp R x5 x10 x6 x20 (x10.Kind==6)))
def aal (R:dp) (x10:B5) (x5:List Bt) (x6:Int):Ty31:=r8 R x10 x5 x6
abbrev Ty32 :Type:=Option ((Int) ⊕ (Flow Unit (((List Bt) × Int) ⊕ (Flow (List Bt) (B5 × Bool × (List Bt))))))
def aam (R:dp) (x10:B5) (x15:Int) (x18:Bt):Ty32:=(if(x18==x10.Text)=true then some (.inr (.done (.inr (.done (x10,true,[])))))else some (.inl (w64 (x15+1))))
def pe (R:dp) (x5:List Bt) (x10:B5) (x15:Int):Ty32:=(if(decide (x15<(x5.length:Int)))=true then(idx x5 x15).bind fun x18=>aam R x10 x15 x18 else some (.inr (.next ())))
def r7 (R:dp) (x5:List Bt) (x10:B5) (x6:Int) (x13:Bool):Ty31:=(if x13=true then(iter (fun s=>pe R x5 x10 s) 0).bind fun z=>match z with| .next p=>aal R x10 x5 x6| .done r=>some r else r8 R x10 x5 x6)
def mv (R:dp) (x1:B5) (x5:List Bt) (x6:Int):Ty31:=(if(decide (x6<(x1.Kids.length:Int)))=true then(idx x1.Kids x6).bind fun x10=>(if(x10.Kind==4)=true then r7 R x5 x10 x6 true else r7 R x5 x10 x6 (x10.Kind==6))else some (.inr (.next x5)))
def yv (R:dp) (x1:B5) (x2:List Bt):Ty30:=(iter (fun s=>mv R x1 s.1 s.2) (x2,0)).bind fun z=>match z with| .next p=>ae3 R p| .done r=>some r
def ait (R:dp):dp:=(fun x1 x2=>yv R x1 x2)
def gh (n:Nat):dp:=Nat.rec (motive:=fun _=>dp) (fun x1 x2=>none) (fun _ R=>ait R) n
def ajk (x1:B5) (x2:List Bt):Ty30:=(gh 1048576) x1 x2
def ae4 (x5:List A9):Ty7:=some (x5,(B3.mk 0 0 0))
abbrev Ty33 :Type:=Option ((Int × (List A9)) ⊕ (Flow (List A9) ((List A9) × B3)))
def aan (x4:Int) (x12:List A9):Ty33:=some (.inl (w64 (x4+1),x12))
abbrev Ty34 :Type:=Option ((Int × (List A9)) ⊕ (Flow (List A9) ((Int × (List A9)) ⊕ (Flow (List A9) ((List A9) × B3)))))
def r9 (x11:Int) (x55:List A9) (x19:B5):Ty34:=some (.inl (w64 (x11+1),x55))
def aao (x52 x53:A9):Ty34:=some (.inr (.done (.inr (.done ([],(B3.mk 150 x52.File x53.At))))))
def mx (x11:Int) (x19:B5) (x26:List A9):Ty34:=(zs x26).bind fun x50=>(if(decide (x50≥0))=true then(idx x26 x50).bind fun x52=>(idx x26 x50).bind fun x53=>aao x52 x53 else r9 x11 x26 x19)
abbrev Ty35 :Type:=Option ((Int × (List A9)) ⊕ (Flow (List A9) ((Int × (List A9)) ⊕ (Flow (List A9) ((Int × (List A9)) ⊕ (Flow (List A9) ((List A9) × B3)))))))
def pg (x25:Int) (x49:List A9) (x31:B5):Ty35:=some (.inl (w64 (x25+1),x49))
def y6 (x4:Int) (x41:B5):Ty35:=some (.inr (.done (.inr (.done (.inr (.done ([],(B3.mk 150 x4 x41.At))))))))
def lj (x4:Int) (x41:B5) (x25:Int) (x37:List A9) (x31:B5) (x46:Bool):Ty35:=(if x46=true then y6 x4 x41 else pg x25 x37 x31)
def qf (x25:Int) (x26:List A9) (x31 x19:B5) (x4:Int) (x34:Bool):Ty35:=(if x34=true then pg x25 x26 x31 else(qy x19.Text x4 x31).bind fun x36=>(app 120 x26 x36).bind fun x37=>(zs x37).bind fun x39=>(if(decide (x39≥0))=true then pg x25 x37 x31 else(ajk x31 []).bind fun(x41,x42,x43)=>(if(x31.Kind==3)=true then lj x4 x41 x25 x37 x31 x42 else lj x4 x41 x25 x37 x31 false)))
def lc (x19:B5) (x4 x25:Int) (x26:List A9):Ty35:=(if(decide (x25<(x19.Kids.length:Int)))=true then(idx x19.Kids x25).bind fun x31=>(if(x31.Kind != 2)=true then qf x25 x26 x31 x19 x4 (x31.Kind != 3)else qf x25 x26 x31 x19 x4 false)else some (.inr (.next x26)))
def pf (x1:List (List B5)) (x4 x11:Int) (x12:List A9):Ty34:=(idx x1 x4).bind fun x16=>(if(decide (x11<(x16.length:Int)))=true then(idx x1 x4).bind fun x18=>(idx x18 x11).bind fun x19=>(if(x19.Kind != 1)=true then r9 x11 x12 x19 else(app 120 x12 ([(A9.mk 1 x19.Text x19.Text [] x19.Type_ false [] x4 x19.At)]:List A9)).bind fun x22=>(iter (fun s=>lc x19 x4 s.1 s.2) (0,x22)).bind fun z=>match z with| .next p=>mx x11 x19 p| .done r=>some r)else some (.inr (.next x12)))
def mw (x1:List (List B5)) (x4:Int) (x5:List A9):Ty33:=(if(decide (x4<(x1.length:Int)))=true then(iter (fun s=>pf x1 x4 s.1 s.2) (0,x5)).bind fun z=>match z with| .next p=>aan x4 p| .done r=>some r else some (.inr (.next x5)))
def zt (x1:List (List B5)):Ty7:=(iter (fun s=>mw x1 s.1 s.2) (0,[])).bind fun z=>match z with| .next p=>ae4 p| .done r=>some r
def w7 (x3:Int):Option (Int × Bool):=some (x3,true)
abbrev Ty36 :Type:=Option ((Int) ⊕ (Flow Int (Int × Bool)))
def ab2 (x29:Int):Ty36:=some (.inl x29)
abbrev Ty37 :Type:=Option ((Int) ⊕ (Int))
def rv (x29:Int) (x33:Bool):Ty37:=(if x33=true then some (.inl (w64 (x29+1)))else some (.inr x29))
def rt (x1:Bt) (x29:Int):Ty37:=(if(decide (x29<(x1.length:Int)))=true then(idxS x1 x29).bind fun x32=>rv x29 (x32 != 10)else rv x29 false)
def w6 (x1:Bt) (x3 x35:Int):Ty36:=(if(decide ((w64 (x35+1))≥(x1.length:Int)))=true then some (.inr (.done (x3,false)))else some (.inl (w64 (x35+2))))
def od (x35:Int) (x41:Bool):Ty37:=(if x41=true then some (.inl (w64 (x35+1)))else some (.inr x35))
def rp (x1:Bt) (x35:Int):Ty37:=(if(decide ((w64 (x35+1))<(x1.length:Int)))=true then(idxS x1 x35).bind fun x38=>(if(x38 != 42)=true then od x35 true else(idxS x1 (w64 (x35+1))).bind fun x40=>od x35 (x40 != 47))else od x35 false)
def iz (x3:Int) (x1:Bt) (x25:Bool):Ty36:=(if x25=true then some (.inr (.done (x3,true)))else(idxS x1 (w64 (x3+1))).bind fun x27=>(if(x27==47)=true then(iter (fun s=>rt x1 s) x3).bind fun p=>ab2 p else(iter (fun s=>rp x1 s) (w64 (x3+2))).bind fun p=>w6 x1 x3 p))
def i5 (x3:Int) (x1:Bt) (x6:Int) (x14:Bool):Ty36:=(if x14=true then some (.inl (w64 (x3+1)))else(if(decide ((w64 (x3+1))≥(x1.length:Int)))=true then iz x3 x1 true else(if(x6 != 47)=true then iz x3 x1 true else(idxS x1 (w64 (x3+1))).bind fun x18=>(if(x18 != 47)=true then(idxS x1 (w64 (x3+1))).bind fun x20=>iz x3 x1 (x20 != 42)else iz x3 x1 false))))
def ru (x1:Bt) (x3:Int):Ty36:=(if(decide (x3<(x1.length:Int)))=true then(idxS x1 x3).bind fun x6=>(if(x6==32)=true then i5 x3 x1 x6 true else(if(x6==9)=true then i5 x3 x1 x6 true else(if(x6==10)=true then i5 x3 x1 x6 true else i5 x3 x1 x6 (x6==13))))else some (.inr (.next x3)))
def ys (x1:Bt) (x2:Int):Option (Int × Bool):=(iter (fun s=>ru x1 s) x2).bind fun z=>match z with| .next p=>w7 p| .done r=>some r
def wh (x3:Bool):Ty12:=some x3
def rc (x1:Int):Ty12:=(if(decide (x1≥48))=true then wh (decide (x1<=57))else wh false)
def aa6 (x3:Int):Ty12:=some (decide (x3>2147483647))
def wg (x1:Bt) (x3 x4:Int):Ty26:=(if(decide (x4<(x1.length:Int)))=true then(idxS x1 x4).bind fun x8=>some (.inl (w64 ((w64 (10 * x3))+(w64 (IntKind.wrap .u8 (x8 - 48)))),w64 (x4+1)))else some (.inr x3))
def ac9 (x1:Bt):Ty12:=(if(decide ((x1.length:Int)>10))=true then some true else(iter (fun s=>wg x1 s.1 s.2) (0,0)).bind fun p=>aa6 p)
def jj (x13:Bool):Ty12:=some x13
def q6 (x1:Int):Ty12:=(if(decide (x1≥97))=true then(if(decide (x1<=122))=true then jj true else(if(decide (x1≥65))=true then(if(decide (x1<=90))=true then jj true else jj (x1==95))else jj (x1==95)))else(if(decide (x1≥65))=true then(if(decide (x1<=90))=true then jj true else jj (x1==95))else jj (x1==95)))
def acs :Option (Bool):=some false
def yt (x1:Bt) (x2:Int):Ty14:=(if(decide (x2<(([([99,108,97,115,115]:Bt),([101,120,116,101,110,100,115]:Bt),([115,116,97,116,105,99]:Bt),([118,111,105,100]:Bt),([105,110,116]:Bt),([98,111,111,108,101,97,110]:Bt),([105,102]:Bt),([101,108,115,101]:Bt),([119,104,105,108,101]:Bt),([114,101,116,117,114,110]:Bt),([112,114,105,110,116]:Bt),([116,114,117,101]:Bt),([102,97,108,115,101]:Bt),([110,117,108,108]:Bt),([116,104,105,115]:Bt),([110,101,119]:Bt)]:List Bt).length:Int)))=true then(idx ([([99,108,97,115,115]:Bt),([101,120,116,101,110,100,115]:Bt),([115,116,97,116,105,99]:Bt),([118,111,105,100]:Bt),([105,110,116]:Bt),([98,111,111,108,101,97,110]:Bt),([105,102]:Bt),([101,108,115,101]:Bt),([119,104,105,108,101]:Bt),([114,101,116,117,114,110]:Bt),([112,114,105,110,116]:Bt),([116,114,117,101]:Bt),([102,97,108,115,101]:Bt),([110,117,108,108]:Bt),([116,104,105,115]:Bt),([110,101,119]:Bt)]:List Bt) x2).bind fun x5=>(if(x5==x1)=true then some (.inr (.done true))else some (.inl (w64 (x2+1))))else some (.inr (.next ())))
def oa (x1:Bt):Ty12:=(iter (fun s=>yt x1 s) 0).bind fun z=>match z with| .next p=>acs| .done r=>some r
def acp :Option (Int):=some 0
def acr (x11 x14 x15:Int):Ty18:=(if(x14==x15)=true then some (.inr (.done 1))else some (.inl (w64 (x11+1))))
def yp (x1:Bt) (x2 x11:Int):Ty18:=(if(decide (x11<(([43,45,42,47,37,60,62,61,33,40,41,123,125,59,44,46]:Bt).length:Int)))=true then(idxS x1 x2).bind fun x14=>(idxS ([43,45,42,47,37,60,62,61,33,40,41,123,125,59,44,46]:Bt) x11).bind fun x15=>acr x11 x14 x15 else some (.inr (.next ())))
def yq (x1:Bt) (x2:Int):Ty15:=(iter (fun s=>yp x1 x2 s) 0).bind fun z=>match z with| .next p=>acp| .done r=>some r
def acq (x3:Int) (x8 x9:Bt):Ty18:=(if(x8==x9)=true then some (.inr (.done 2))else some (.inl (w64 (x3+1))))
def yr (x1:Bt) (x2 x3:Int) (x6:Bool):Ty18:=(if x6=true then(sub x1 x2 (w64 (x2+2))).bind fun x8=>(idx ([([61,61]:Bt),([33,61]:Bt),([60,61]:Bt),([62,61]:Bt),([38,38]:Bt),([124,124]:Bt)]:List Bt) x3).bind fun x9=>acq x3 x8 x9 else some (.inr (.next ())))
def yo (x1:Bt) (x2 x3:Int):Ty18:=(if(decide (x3<(([([61,61]:Bt),([33,61]:Bt),([60,61]:Bt),([62,61]:Bt),([38,38]:Bt),([124,124]:Bt)]:List Bt).length:Int)))=true then yr x1 x2 x3 (decide ((w64 (x2+2))<=(x1.length:Int)))else yr x1 x2 x3 false)
def afr (x1:Bt) (x2:Int):Ty15:=(iter (fun s=>yo x1 x2 s) 0).bind fun z=>match z with| .next p=>yq x1 x2| .done r=>some r
abbrev Ty38 :Type:=Option (Int × Int × Int)
def pj (x6:Int) (x18:Bool):Ty38:=(if x18=true then some (0,0,31)else some (2,x6,0))
def aa5 (x1:Bt) (x2 x6:Int):Ty38:=(sub x1 x2 (w64 (x2+x6))).bind fun x13=>(ac9 x13).bind fun x14=>(if x14=true then pj x6 true else(if(decide (x6>1))=true then(idxS x1 x2).bind fun x17=>pj x6 (x17==48)else pj x6 false))
def sf (x6:Int) (x11:Bool):Ty37:=(if x11=true then some (.inl (w64 (x6+1)))else some (.inr x6))
def se (x2:Int) (x1:Bt) (x6:Int):Ty37:=(if(decide ((w64 (x2+x6))<(x1.length:Int)))=true then(idxS x1 (w64 (x2+x6))).bind fun x9=>(rc x9).bind fun x10=>sf x6 x10 else sf x6 false)
def aa4 (x1:Bt) (x2 x23:Int):Ty38:=(if(decide (x23>20))=true then some (0,0,2)else(sub x1 x2 (w64 (x2+x23))).bind fun x34=>(oa x34).bind fun x35=>(if x35=true then some (3,x23,0)else some (1,x23,0)))
def ph (x23:Int) (x31:Bool):Ty37:=(if x31=true then some (.inl (w64 (x23+1)))else some (.inr x23))
def sd (x2:Int) (x1:Bt) (x23:Int):Ty37:=(if(decide ((w64 (x2+x23))<(x1.length:Int)))=true then(idxS x1 (w64 (x2+x23))).bind fun x26=>(q6 x26).bind fun x27=>(if x27=true then ph x23 true else(idxS x1 (w64 (x2+x23))).bind fun x29=>(rc x29).bind fun x30=>ph x23 x30)else ph x23 false)
def ac8 (x1:Bt) (x2:Int):Ty38:=(idxS x1 x2).bind fun x3=>(rc x3).bind fun x4=>(if x4=true then(iter (fun s=>se x2 x1 s) 0).bind fun p=>aa5 x1 x2 p else(idxS x1 x2).bind fun x20=>(q6 x20).bind fun x21=>(if x21=true then(iter (fun s=>sd x2 x1 s) 0).bind fun p=>aa4 x1 x2 p else(afr x1 x2).bind fun x37=>(if(x37==0)=true then some (0,0,30)else some (4,x37,0))))
abbrev Ty39 :Type:=Option ((Int × (List C5)) ⊕ ((List C5) × Int × Int))
def ad9 (x9 x17:Int) (x22:List C5):Ty39:=some (.inl (w64 (x9+x17),x22))
def abm (x1:Bt) (x4:Int) (x5:List C5):Ty39:=(ys x1 x4).bind fun(x9,x10)=>(if(!x10)=true then some (.inr ([],x9,32))else(if(x9==(x1.length:Int))=true then(sub x1 x4 (x1.length:Int)).bind fun x13=>(app 48 x5 ([(C5.mk 5 [] x9 x13)]:List C5)).bind fun x14=>some (.inr (x14,0,0))else(ac8 x1 x9).bind fun(x16,x17,x18)=>(if(x18 != 0)=true then some (.inr ([],x9,x18))else(sub x1 x9 (w64 (x9+x17))).bind fun x20=>(sub x1 x4 x9).bind fun x21=>(app 48 x5 ([(C5.mk x16 x20 x9 x21)]:List C5)).bind fun x22=>ad9 x9 x17 x22)))
def ahc (x1:Bt):Option ((List C5) × Int × Int):=(if(decide ((x1.length:Int)>1048576))=true then some ([],0,2)else iter (fun s=>abm x1 s.1 s.2) (0,[]))
def xf (x18:Bool):Ty12:=some x18
def c6 (x1:List C5) (x2:Int) (x3:Bt):Ty12:=(if(decide (x2<(x1.length:Int)))=true then(idx x1 x2).bind fun x5=>(if(x5.Text==x3)=true then(idx x1 x2).bind fun x7=>(if(x7.Kind != 1)=true then(idx x1 x2).bind fun x9=>xf (x9.Kind != 5)else xf false)else xf false)else xf false)
def c7 (x1:Int):Option (C6):=some (C6.mk x1 120)
def u4 (x5:Bool):Ty12:=some x5
def ju (x1:List C5) (x2:Int):Ty12:=(if(decide (x2<(x1.length:Int)))=true then(idx x1 x2).bind fun x4=>u4 (x4.Kind==1)else u4 false)
def ad7 (x3 x4:C5):Ty15:=some (w64 (x3.At+(x4.Text.length:Int)))
def afk (x1:List C5) (x2:Int):Ty15:=(idx x1 (w64 (x2 - 1))).bind fun x3=>(idx x1 (w64 (x2 - 1))).bind fun x4=>ad7 x3 x4
def acl (x2:Int) (x5:List B5) (x7:C5) (x8:Int):Option (B5):=some (B5.mk x2 [] [] 0 x7.At x8 (-1) (-1) x5)
def fq (x1:List C5) (x2 x3 x4:Int) (x5:List B5):Option (B5):=(idx x1 x3).bind fun x7=>(afk x1 x4).bind fun x8=>acl x2 x5 x7 x8
def eh :Option (C6):=some (C6.mk (-1) 0)
def re (x18:Bool):Ty12:=some x18
def acw (x1:List C5) (x2:Int):Ty12:=(ju x1 x2).bind fun x3=>(if x3=true then re true else(c6 x1 x2 ([105,110,116]:Bt)).bind fun x5=>(if x5=true then re true else(c6 x1 x2 ([98,111,111,108,101,97,110]:Bt)).bind fun x7=>(if x7=true then re true else(c6 x1 x2 ([118,111,105,100]:Bt)).bind fun x9=>re x9)))
def xe (x1:List C5) (x2:B5) (x3:Int):Option (B5):=(idx x1 x3).bind fun x6=>(idx x1 x3).bind fun x7=>(idx x1 (w64 (x3+1))).bind fun x8=>(idx x1 (w64 (x3+1))).bind fun x9=>some ({{{{x2 with Type_:=x6.Text} with TypeAt:=x7.At} with Text:=x8.Text} with At:=x9.At})
abbrev Ty40 :Type:=Option ((Int × (List B5)) ⊕ ((List B5) × Int × C6))
def t7 (x8:Int) (x1:List C5) (x10:List B5) (x17:Bool):Ty40:=(if x17=true then(c7 x8).bind fun x19=>some (.inr ([],0,x19))else(ju x1 (w64 (x8+1))).bind fun x21=>(if(!x21)=true then(c7 (w64 (x8+1))).bind fun x23=>some (.inr ([],0,x23))else(fq x1 4 x8 (w64 (x8+2)) []).bind fun x25=>(xe x1 x25 x8).bind fun x26=>(app 104 x10 ([x26]:List B5)).bind fun x27=>(c6 x1 (w64 (x8+2)) ([41]:Bt)).bind fun x29=>(if x29=true then(eh).bind fun x31=>some (.inr (x27,w64 (x8+3),x31))else(c6 x1 (w64 (x8+2)) ([44]:Bt)).bind fun x32=>(if(!x32)=true then(c7 (w64 (x8+2))).bind fun x34=>some (.inr ([],0,x34))else some (.inl (w64 (x8+3),x27))))))
def t6 (x1:List C5) (x8:Int) (x10:List B5):Ty40:=(acw x1 x8).bind fun x14=>(if(!x14)=true then t7 x8 x1 x10 true else(c6 x1 x8 ([118,111,105,100]:Bt)).bind fun x16=>t7 x8 x1 x10 x16)
def abi (x1:List C5) (x2:Int):Option ((List B5) × Int × C6):=(c6 x1 x2 ([41]:Bt)).bind fun x4=>(if x4=true then(eh).bind fun x6=>some ([],w64 (x2+1),x6)else iter (fun s=>t6 x1 s.1 s.2) (x2,[]))
def my (x26:Bool):Ty12:=some x26
def ac5 (x1:List C5) (x2:Int):Ty12:=(c6 x1 x2 ([105,110,116]:Bt)).bind fun x3=>(if x3=true then my true else(c6 x1 x2 ([98,111,111,108,101,97,110]:Bt)).bind fun x5=>(if x5=true then my true else(c6 x1 x2 ([118,111,105,100]:Bt)).bind fun x7=>(if x7=true then my true else(ju x1 x2).bind fun x9=>(if x9=true then(ju x1 (w64 (x2+1))).bind fun x11=>my x11 else my false))))
def aa2 :Option (Int):=some 0
def ae6 (x3:Int):Ty18:=some (.inl (w64 (x3+1)))
def wc (x3:Int) (x1:List C5) (x2 x6:Int):Ty29:=(idx ([([([124,124]:Bt)]:List Bt),([([38,38]:Bt)]:List Bt),([([61,61]:Bt),([33,61]:Bt)]:List Bt),([([60]:Bt),([60,61]:Bt),([62]:Bt),([62,61]:Bt)]:List Bt),([([43]:Bt),([45]:Bt)]:List Bt),([([42]:Bt),([47]:Bt),([37]:Bt)]:List Bt)]:List (List Bt)) x3).bind fun x8=>(if(decide (x6<(x8.length:Int)))=true then(idx ([([([124,124]:Bt)]:List Bt),([([38,38]:Bt)]:List Bt),([([61,61]:Bt),([33,61]:Bt)]:List Bt),([([60]:Bt),([60,61]:Bt),([62]:Bt),([62,61]:Bt)]:List Bt),([([43]:Bt),([45]:Bt)]:List Bt),([([42]:Bt),([47]:Bt),([37]:Bt)]:List Bt)]:List (List Bt)) x3).bind fun x10=>(idx x10 x6).bind fun x11=>(c6 x1 x2 x11).bind fun x12=>(if x12=true then some (.inr (.done (.inr (.done (w64 (x3+1))))))else some (.inl (w64 (x6+1))))else some (.inr (.next ())))
def wd (x1:List C5) (x2 x3:Int):Ty18:=(if(decide (x3<(([([([124,124]:Bt)]:List Bt),([([38,38]:Bt)]:List Bt),([([61,61]:Bt),([33,61]:Bt)]:List Bt),([([60]:Bt),([60,61]:Bt),([62]:Bt),([62,61]:Bt)]:List Bt),([([43]:Bt),([45]:Bt)]:List Bt),([([42]:Bt),([47]:Bt),([37]:Bt)]:List Bt)]:List (List Bt)).length:Int)))=true then(iter (fun s=>wc x3 x1 x2 s) 0).bind fun z=>match z with| .next p=>ae6 x3| .done r=>some r else some (.inr (.next ())))
def ac7 (x1:List C5) (x2:Int):Ty15:=(iter (fun s=>wd x1 x2 s) 0).bind fun z=>match z with| .next p=>aa2| .done r=>some r
abbrev av :Type:=((List C5)->Int->Int->Option (B5 × Int × C6)) × ((List C5)->Int->Int->Int->Option (B5 × Int × C6)) × ((List C5)->Int->Int->Option (B5 × Int × C6)) × ((List C5)->Int->Int->Option (B5 × Int × C6)) × ((List C5)->Int->Int->Option ((List B5) × Int × C6))
abbrev Ty41 :Type:=Option (B5 × Int × C6)
def oy (R:av) (x1:List C5) (x2 x3:Int):Ty41:=(R.2.1 x1 x2 x3 1).bind fun(x6,x7,x8)=>some (x6,x7,x8)
def aax (R:av) (x13:C6):Ty41:=some ((B5.mk 0 [] [] 0 0 0 0 0 []),0,x13)
def aaw (R:av) (x18:B5) (x17:Int) (x31:C6):Ty41:=some (x18,x17,x31)
def aau (R:av) (x17:Int) (x18:B5):Ty41:=(eh).bind fun x31=>aaw R x18 x17 x31
abbrev Ty42 :Type:=Option ((Int × B5) ⊕ (Flow (Int × B5) (B5 × Int × C6)))
def aav (R:av) (x25:C6):Ty42:=some (.inr (.done ((B5.mk 0 [] [] 0 0 0 0 0 []),0,x25)))
def vv (R:av) (x1:List C5) (x4 x3 x2 x17:Int) (x18:B5):Ty42:=(ac7 x1 x17).bind fun x21=>(if(x21==x4)=true then(R.2.1 x1 (w64 (x17+1)) x3 (w64 (x4+1))).bind fun(x23,x24,x25)=>(if(decide (x25.Place≥0))=true then aav R x25 else(idx x1 x17).bind fun x29=>(fq x1 24 x2 x24 ([x18,x23]:List B5)).bind fun x30=>some (.inl (x24,{x30 with Text:=x29.Text})))else some (.inr (.next (x17,x18))))
def yx (R:av) (x1:List C5) (x2 x3 x4:Int):Ty41:=(if(decide (x4>6))=true then(R.2.2.1 x1 x2 x3).bind fun(x8,x9,x10)=>some (x8,x9,x10)else(R.2.1 x1 x2 x3 (w64 (x4+1))).bind fun(x11,x12,x13)=>(if(decide (x13.Place≥0))=true then aax R x13 else(iter (fun s=>vv R x1 x4 x3 x2 s.1 s.2) (x12,x11)).bind fun z=>match z with| .next p=>aau R p.1 p.2| .done r=>some r))
def aat (R:av) (x14:C6):Ty41:=some ((B5.mk 0 [] [] 0 0 0 0 0 []),0,x14)
def vu (R:av) (x1:List C5) (x2 x13:Int) (x12:B5) (x20:Int):Ty41:=(fq x1 x20 x2 x13 ([x12]:List B5)).bind fun x21=>(eh).bind fun x22=>some (x21,x13,x22)
def aas (R:av) (x25:C6):Ty41:=some ((B5.mk 0 [] [] 0 0 0 0 0 []),0,x25)
def aar (R:av) (x30:B5) (x29:Int) (x55:C6):Ty41:=some (x30,x29,x55)
def aap (R:av) (x29:Int) (x30:B5):Ty41:=(eh).bind fun x55=>aar R x30 x29 x55
def vt (R:av) (x1:List C5) (x2 x29 x48 x49:Int) (x51:List B5):Ty42:=(fq x1 x49 x2 x48 x51).bind fun x52=>(idx x1 (w64 (x29+1))).bind fun x53=>(idx x1 (w64 (x29+1))).bind fun x54=>some (.inl (x48,{{x52 with Text:=x53.Text} with At:=x54.At}))
def aaq (R:av) (x43:C6):Ty42:=some (.inr (.done ((B5.mk 0 [] [] 0 0 0 0 0 []),0,x43)))
def vr (R:av) (x1:List C5) (x3 x2 x29:Int) (x30:B5):Ty42:=(c6 x1 x29 ([46]:Bt)).bind fun x33=>(if x33=true then(ju x1 (w64 (x29+1))).bind fun x35=>(if(!x35)=true then(c7 (w64 (x29+1))).bind fun x37=>some (.inr (.done ((B5.mk 0 [] [] 0 0 0 0 0 []),0,x37)))else(c6 x1 (w64 ((w64 (x29+1))+1)) ([40]:Bt)).bind fun x39=>(if x39=true then(R.2.2.2.2 x1 (w64 ((w64 ((w64 (x29+1))+1))+1)) (w64 (x3+1))).bind fun(x41,x42,x43)=>(if(decide (x43.Place≥0))=true then aaq R x43 else(app 104 ([x30]:List B5) x41).bind fun x46=>vt R x1 x2 x29 x42 20 x46)else vt R x1 x2 x29 (w64 ((w64 (x29+1))+1)) 18 ([x30]:List B5)))else some (.inr (.next (x29,x30))))
def sa (R:av) (x1:List C5) (x2 x3:Int) (x10:Bool):Ty41:=(if x10=true then(R.2.2.1 x1 (w64 (x2+1)) (w64 (x3+1))).bind fun(x12,x13,x14)=>(if(decide (x14.Place≥0))=true then aat R x14 else(idx x1 x2).bind fun x18=>(if(x18.Text==([45]:Bt))=true then vu R x1 x2 x13 x12 23 else vu R x1 x2 x13 x12 22))else(R.2.2.2.1 x1 x2 (w64 (x3+1))).bind fun(x23,x24,x25)=>(if(decide (x25.Place≥0))=true then aas R x25 else(iter (fun s=>vr R x1 x3 x2 s.1 s.2) (x24,x23)).bind fun z=>match z with| .next p=>aap R p.1 p.2| .done r=>some r))
def yw (R:av) (x1:List C5) (x2 x3:Int):Ty41:=(if(decide (x3>60))=true then some ((B5.mk 0 [] [] 0 0 0 0 0 []),0,(C6.mk x2 2))else(c6 x1 x2 ([33]:Bt)).bind fun x7=>(if x7=true then sa R x1 x2 x3 true else(c6 x1 x2 ([45]:Bt)).bind fun x9=>sa R x1 x2 x3 x9))
def wx (R:av) (x11:B5) (x2:Int) (x18:C6):Ty41:=some (x11,w64 (x2+1),x18)
def wo (R:av) (x2:Int) (x11:B5):Ty41:=(eh).bind fun x18=>wx R x11 x2 x18
def rm (R:av) (x1:List C5) (x2 x10:Int) (x11:B5):Option ((Int × B5) ⊕ (B5)):=(idx x1 x2).bind fun x14=>(if(decide (x10<(x14.Text.length:Int)))=true then(idx x1 x2).bind fun x16=>(idxS x16.Text x10).bind fun x17=>some (.inl (w64 (x10+1),{x11 with N:=w64 ((w64 (10 * x11.N))+(w64 (IntKind.wrap .u8 (x17 - 48))))}))else some (.inr x11))
def ww (R:av) (x21:B5) (x2:Int) (x23:C6):Ty41:=some ({x21 with N:=1},w64 (x2+1),x23)
def wv (R:av) (x47:B5) (x49 x50:C5) (x2:Int) (x51:C6):Ty41:=some ({{x47 with Text:=x49.Text} with At:=x50.At},w64 (x2+4),x51)
def wu (R:av) (x56:C6):Ty41:=some ((B5.mk 0 [] [] 0 0 0 0 0 []),0,x56)
def wt (R:av) (x54:B5) (x55:Int) (x63:C6):Ty41:=some (x54,w64 (x55+1),x63)
def ws (R:av) (x66:B5) (x68 x69:C5) (x2:Int) (x72:C6):Ty41:=some ({{x66 with Text:=x68.Text} with At:=x69.At},w64 (x2+1),x72)
def wr (R:av) (x75:C6):Ty41:=some ((B5.mk 0 [] [] 0 0 0 0 0 []),0,x75)
def u6 (R:av) (x66:B5) (x68 x69:C5) (x73:List B5) (x78 x74:Int) (x79:C6):Ty41:=some ({{{{{x66 with Text:=x68.Text} with At:=x69.At} with Kind:=19} with Kids:=x73} with To:=x78},x74,x79)
def uh (R:av) (x1:List C5) (x2 x3:Int):Ty41:=(idx x1 x2).bind fun x6=>(if(x6.Kind==2)=true then(fq x1 13 x2 (w64 (x2+1)) []).bind fun x8=>(iter (fun s=>rm R x1 x2 s.1 s.2) (0,x8)).bind fun p=>wo R x2 p else(c6 x1 x2 ([116,114,117,101]:Bt)).bind fun x19=>(if x19=true then(fq x1 14 x2 (w64 (x2+1)) []).bind fun x21=>(eh).bind fun x23=>ww R x21 x2 x23 else(c6 x1 x2 ([102,97,108,115,101]:Bt)).bind fun x24=>(if x24=true then(fq x1 14 x2 (w64 (x2+1)) []).bind fun x26=>(eh).bind fun x27=>some (x26,w64 (x2+1),x27)else(c6 x1 x2 ([110,117,108,108]:Bt)).bind fun x28=>(if x28=true then(fq x1 15 x2 (w64 (x2+1)) []).bind fun x30=>(eh).bind fun x31=>some (x30,w64 (x2+1),x31)else(c6 x1 x2 ([116,104,105,115]:Bt)).bind fun x32=>(if x32=true then(fq x1 16 x2 (w64 (x2+1)) []).bind fun x34=>(eh).bind fun x35=>some (x34,w64 (x2+1),x35)else(c6 x1 x2 ([110,101,119]:Bt)).bind fun x36=>(if x36=true then(ju x1 (w64 (x2+1))).bind fun x38=>(if(!x38)=true then(c7 (w64 (x2+1))).bind fun x40=>some ((B5.mk 0 [] [] 0 0 0 0 0 []),0,x40)else(c6 x1 (w64 (x2+2)) ([40]:Bt)).bind fun x41=>(if(!x41)=true then(c7 (w64 (x2+2))).bind fun x43=>some ((B5.mk 0 [] [] 0 0 0 0 0 []),0,x43)else(c6 x1 (w64 (x2+3)) ([41]:Bt)).bind fun x44=>(if(!x44)=true then(c7 (w64 (x2+3))).bind fun x46=>some ((B5.mk 0 [] [] 0 0 0 0 0 []),0,x46)else(fq x1 21 x2 (w64 (x2+4)) []).bind fun x47=>(idx x1 (w64 (x2+1))).bind fun x49=>(idx x1 (w64 (x2+1))).bind fun x50=>(eh).bind fun x51=>wv R x47 x49 x50 x2 x51)))else(c6 x1 x2 ([40]:Bt)).bind fun x52=>(if x52=true then(R.1 x1 (w64 (x2+1)) x3).bind fun(x54,x55,x56)=>(if(decide (x56.Place≥0))=true then wu R x56 else(c6 x1 x55 ([41]:Bt)).bind fun x60=>(if(!x60)=true then(c7 x55).bind fun x62=>some ((B5.mk 0 [] [] 0 0 0 0 0 []),0,x62)else(eh).bind fun x63=>wt R x54 x55 x63))else(ju x1 x2).bind fun x64=>(if x64=true then(fq x1 17 x2 (w64 (x2+1)) []).bind fun x66=>(idx x1 x2).bind fun x68=>(idx x1 x2).bind fun x69=>(c6 x1 (w64 (x2+1)) ([40]:Bt)).bind fun x70=>(if(!x70)=true then(eh).bind fun x72=>ws R x66 x68 x69 x2 x72 else(R.2.2.2.2 x1 (w64 (x2+2)) x3).bind fun(x73,x74,x75)=>(if(decide (x75.Place≥0))=true then wr R x75 else(afk x1 x74).bind fun x78=>(eh).bind fun x79=>u6 R x66 x68 x69 x73 x78 x74 x79))else(c7 x2).bind fun x80=>some ((B5.mk 0 [] [] 0 0 0 0 0 []),0,x80)))))))))
def sx (R:av) (x16:C6):Ty40:=some (.inr ([],0,x16))
def oo (R:av) (x1:List C5) (x3 x8:Int) (x10:List B5):Ty40:=(R.1 x1 x8 x3).bind fun(x14,x15,x16)=>(if(decide (x16.Place≥0))=true then sx R x16 else(app 104 x10 ([x14]:List B5)).bind fun x20=>(c6 x1 x15 ([41]:Bt)).bind fun x22=>(if x22=true then(eh).bind fun x24=>some (.inr (x20,w64 (x15+1),x24))else(c6 x1 x15 ([44]:Bt)).bind fun x25=>(if(!x25)=true then(c7 x15).bind fun x27=>some (.inr ([],0,x27))else some (.inl (w64 (x15+1),x20)))))
def qu (R:av) (x1:List C5) (x2 x3:Int):Option ((List B5) × Int × C6):=(c6 x1 x2 ([41]:Bt)).bind fun x5=>(if x5=true then(eh).bind fun x7=>some ([],w64 (x2+1),x7)else iter (fun s=>oo R x1 x3 s.1 s.2) (x2,[]))
def afe (R:av):av:=((fun x1 x2 x3=>oy R x1 x2 x3),(fun x1 x2 x3 x4=>yx R x1 x2 x3 x4),(fun x1 x2 x3=>yw R x1 x2 x3),(fun x1 x2 x3=>uh R x1 x2 x3),(fun x1 x2 x3=>qu R x1 x2 x3))
def fy (n:Nat):av:=Nat.rec (motive:=fun _=>av) ((fun x1 x2 x3=>none),(fun x1 x2 x3 x4=>none),(fun x1 x2 x3=>none),(fun x1 x2 x3=>none),(fun x1 x2 x3=>none)) (fun _ R=>afe R) n
def mc (x1:List C5) (x2 x3:Int):Ty41:=(fy 1048576).1 x1 x2 x3
def y9 (x17:C6):Ty41:=some ((B5.mk 0 [] [] 0 0 0 0 0 []),0,x17)
def abj (x1:List C5) (x2 x3:Int):Ty41:=(c6 x1 x2 ([118,111,105,100]:Bt)).bind fun x6=>(if x6=true then(c7 x2).bind fun x8=>some ((B5.mk 0 [] [] 0 0 0 0 0 []),0,x8)else(ju x1 (w64 (x2+1))).bind fun x9=>(if(!x9)=true then(c7 (w64 (x2+1))).bind fun x11=>some ((B5.mk 0 [] [] 0 0 0 0 0 []),0,x11)else(c6 x1 (w64 (x2+2)) ([61]:Bt)).bind fun x12=>(if(!x12)=true then(c7 (w64 (x2+2))).bind fun x14=>some ((B5.mk 0 [] [] 0 0 0 0 0 []),0,x14)else(mc x1 (w64 (x2+3)) (w64 (x3+1))).bind fun(x15,x16,x17)=>(if(decide (x17.Place≥0))=true then y9 x17 else(c6 x1 x16 ([59]:Bt)).bind fun x21=>(if(!x21)=true then(c7 x16).bind fun x23=>some ((B5.mk 0 [] [] 0 0 0 0 0 []),0,x23)else(fq x1 6 x2 (w64 (x16+1)) ([x15]:List B5)).bind fun x24=>(xe x1 x24 x2).bind fun x25=>(eh).bind fun x26=>some (x25,w64 (x16+1),x26))))))
def sv (x11:C6):Ty41:=some ((B5.mk 0 [] [] 0 0 0 0 0 []),0,x11)
def su (x9:B5) (x10:Int) (x18:C6):Ty41:=some (x9,w64 (x10+1),x18)
def qi (x1:List C5) (x2 x3:Int):Ty41:=(c6 x1 x2 ([40]:Bt)).bind fun x6=>(if(!x6)=true then(c7 x2).bind fun x8=>some ((B5.mk 0 [] [] 0 0 0 0 0 []),0,x8)else(mc x1 (w64 (x2+1)) x3).bind fun(x9,x10,x11)=>(if(decide (x11.Place≥0))=true then sv x11 else(c6 x1 x10 ([41]:Bt)).bind fun x15=>(if(!x15)=true then(c7 x10).bind fun x17=>some ((B5.mk 0 [] [] 0 0 0 0 0 []),0,x17)else(eh).bind fun x18=>su x9 x10 x18)))
def y8 (x10:C6):Ty41:=some ((B5.mk 0 [] [] 0 0 0 0 0 []),0,x10)
def y7 (x25:C6):Ty41:=some ((B5.mk 0 [] [] 0 0 0 0 0 []),0,x25)
def abh (x1:List C5) (x2 x3:Int):Ty41:=(c6 x1 x2 ([112,114,105,110,116]:Bt)).bind fun x6=>(if x6=true then(qi x1 (w64 (x2+1)) (w64 (x3+1))).bind fun(x8,x9,x10)=>(if(decide (x10.Place≥0))=true then y8 x10 else(c6 x1 x9 ([59]:Bt)).bind fun x14=>(if(!x14)=true then(c7 x9).bind fun x16=>some ((B5.mk 0 [] [] 0 0 0 0 0 []),0,x16)else(fq x1 12 x2 (w64 (x9+1)) ([x8]:List B5)).bind fun x17=>(eh).bind fun x18=>some (x17,w64 (x9+1),x18)))else(c6 x1 (w64 (x2+1)) ([59]:Bt)).bind fun x19=>(if x19=true then(fq x1 11 x2 (w64 (x2+2)) []).bind fun x21=>(eh).bind fun x22=>some (x21,w64 (x2+2),x22)else(mc x1 (w64 (x2+1)) (w64 (x3+1))).bind fun(x23,x24,x25)=>(if(decide (x25.Place≥0))=true then y7 x25 else(c6 x1 x24 ([59]:Bt)).bind fun x29=>(if(!x29)=true then(c7 x24).bind fun x31=>some ((B5.mk 0 [] [] 0 0 0 0 0 []),0,x31)else(fq x1 11 x2 (w64 (x24+1)) ([x23]:List B5)).bind fun x32=>(eh).bind fun x33=>some (x32,w64 (x24+1),x33)))))
abbrev cf :Type:=((List C5)->Int->Int->Option (B5 × Int × C6)) × ((List C5)->Int->Int->Option (B5 × Int × C6)) × ((List C5)->Int->Int->Option (B5 × Int × C6))
def aa0 (R:cf) (x1:List C5) (x2 x10:Int) (x11:List B5):Ty41:=(fq x1 5 x2 (w64 (x10+1)) x11).bind fun x34=>(eh).bind fun x35=>some (x34,w64 (x10+1),x35)
abbrev Ty43 :Type:=Option ((Int × (List B5)) ⊕ (Flow (Int × (List B5)) (B5 × Int × C6)))
def aa1 (R:cf) (x30:C6):Ty43:=some (.inr (.done ((B5.mk 0 [] [] 0 0 0 0 0 []),0,x30)))
def sc (R:cf) (x11:List B5) (x28:Int) (x29:B5) (x30:C6):Ty43:=(if(decide (x30.Place≥0))=true then aa1 R x30 else(app 104 x11 ([x29]:List B5)).bind fun x32=>some (.inl (x28,x32)))
def wb (R:cf) (x1:List C5) (x3 x10:Int) (x11:List B5):Ty43:=(c6 x1 x10 ([125]:Bt)).bind fun x15=>(if(!x15)=true then(ac5 x1 x10).bind fun x19=>(if x19=true then(abj x1 x10 (w64 (x3+1))).bind fun(x21,x22,x23)=>(if(decide ((w64 (x3+1))>60))=true then sc R x11 x22 x21 (C6.mk x10 2)else sc R x11 x22 x21 x23)else(R.2.1 x1 x10 (w64 (x3+1))).bind fun(x25,x26,x27)=>sc R x11 x26 x25 x27)else some (.inr (.next (x10,x11))))
def yy (R:cf) (x1:List C5) (x2 x3:Int):Ty41:=(c6 x1 x2 ([123]:Bt)).bind fun x6=>(if(!x6)=true then(c7 x2).bind fun x8=>some ((B5.mk 0 [] [] 0 0 0 0 0 []),0,x8)else(iter (fun s=>wb R x1 x3 s.1 s.2) (w64 (x2+1),[])).bind fun z=>match z with| .next p=>aa0 R x1 x2 p.1 p.2| .done r=>some r)
def ss (R:cf) (x30:C6):Ty41:=some ((B5.mk 0 [] [] 0 0 0 0 0 []),0,x30)
def ol (R:cf) (x1:List C5) (x2 x45 x46:Int) (x48:List B5):Ty41:=(c6 x1 x45 ([59]:Bt)).bind fun x49=>(if(!x49)=true then(c7 x45).bind fun x51=>some ((B5.mk 0 [] [] 0 0 0 0 0 []),0,x51)else(fq x1 x46 x2 (w64 (x45+1)) x48).bind fun x52=>(eh).bind fun x53=>some (x52,w64 (x45+1),x53))
def sr (R:cf) (x39:C6):Ty41:=some ((B5.mk 0 [] [] 0 0 0 0 0 []),0,x39)
def lw (R:cf) (x1:List C5) (x2 x3:Int) (x23:Bool):Ty41:=(if x23=true then(abh x1 x2 x3).bind fun(x25,x26,x27)=>some (x25,x26,x27)else(mc x1 x2 (w64 (x3+1))).bind fun(x28,x29,x30)=>(if(decide (x30.Place≥0))=true then ss R x30 else(c6 x1 x29 ([61]:Bt)).bind fun x35=>(if x35=true then(mc x1 (w64 (x29+1)) (w64 (x3+1))).bind fun(x37,x38,x39)=>(if(decide (x39.Place≥0))=true then sr R x39 else(app 104 ([x28]:List B5) ([x37]:List B5)).bind fun x43=>ol R x1 x2 x38 7 x43)else ol R x1 x2 x29 8 ([x28]:List B5))))
def lv (R:cf) (x1:List C5) (x2 x3:Int) (x15:Bool):Ty41:=(if x15=true then(R.2.2 x1 x2 x3).bind fun(x17,x18,x19)=>some (x17,x18,x19)else(c6 x1 x2 ([114,101,116,117,114,110]:Bt)).bind fun x20=>(if x20=true then lw R x1 x2 x3 x20 else(c6 x1 x2 ([112,114,105,110,116]:Bt)).bind fun x22=>lw R x1 x2 x3 x22))
def qt (R:cf) (x1:List C5) (x2 x3:Int):Ty41:=(if(decide (x3>60))=true then some ((B5.mk 0 [] [] 0 0 0 0 0 []),0,(C6.mk x2 2))else(c6 x1 x2 ([123]:Bt)).bind fun x7=>(if x7=true then(R.1 x1 x2 x3).bind fun(x9,x10,x11)=>some (x9,x10,x11)else(c6 x1 x2 ([105,102]:Bt)).bind fun x12=>(if x12=true then lv R x1 x2 x3 x12 else(c6 x1 x2 ([119,104,105,108,101]:Bt)).bind fun x14=>lv R x1 x2 x3 x14)))
def w5 (R:cf) (x8:C6):Ty41:=some ((B5.mk 0 [] [] 0 0 0 0 0 []),0,x8)
def w4 (R:cf) (x14:C6):Ty41:=some ((B5.mk 0 [] [] 0 0 0 0 0 []),0,x14)
def rn (R:cf) (x1:List C5) (x2 x33:Int) (x35:List B5):Ty41:=(fq x1 9 x2 x33 x35).bind fun x36=>(eh).bind fun x37=>some (x36,x33,x37)
def wz (R:cf) (x27:C6):Ty41:=some ((B5.mk 0 [] [] 0 0 0 0 0 []),0,x27)
def ui (R:cf) (x1:List C5) (x2 x3:Int):Ty41:=(qi x1 (w64 (x2+1)) (w64 (x3+1))).bind fun(x6,x7,x8)=>(if(decide (x8.Place≥0))=true then w5 R x8 else(R.2.1 x1 x7 (w64 (x3+1))).bind fun(x12,x13,x14)=>(if(decide (x14.Place≥0))=true then w4 R x14 else(c6 x1 x2 ([119,104,105,108,101]:Bt)).bind fun x19=>(if x19=true then(fq x1 10 x2 x13 ([x6,x12]:List B5)).bind fun x21=>(eh).bind fun x22=>some (x21,x13,x22)else(c6 x1 x13 ([101,108,115,101]:Bt)).bind fun x23=>(if x23=true then(R.2.1 x1 (w64 (x13+1)) (w64 (x3+1))).bind fun(x25,x26,x27)=>(if(decide (x27.Place≥0))=true then wz R x27 else(app 104 ([x6,x12]:List B5) ([x25]:List B5)).bind fun x31=>rn R x1 x2 x26 x31)else rn R x1 x2 x13 ([x6,x12]:List B5)))))
def aiu (R:cf):cf:=((fun x1 x2 x3=>yy R x1 x2 x3),(fun x1 x2 x3=>qt R x1 x2 x3),(fun x1 x2 x3=>ui R x1 x2 x3))
def lz (n:Nat):cf:=Nat.rec (motive:=fun _=>cf) ((fun x1 x2 x3=>none),(fun x1 x2 x3=>none),(fun x1 x2 x3=>none)) (fun _ R=>aiu R) n
def ajl (x1:List C5) (x2 x3:Int):Ty41:=(lz 1048576).1 x1 x2 x3
def ub (x45:B5) (x37:Int) (x46:C6):Ty41:=some (x45,x37,x46)
def qh (x37:Int) (x45:B5):Ty41:=(eh).bind fun x46=>ub x45 x37 x46
def qg (x1:List C5) (x2 x7:Int) (x5:Bool) (x37 x38:Int) (x40:List B5):Ty41:=(fq x1 x38 x2 x37 x40).bind fun x41=>(xe x1 x41 x7).bind fun x42=>(if x5=true then qh x37 ({x42 with N:=1})else qh x37 x42)
def ua (x24:C6):Ty41:=some ((B5.mk 0 [] [] 0 0 0 0 0 []),0,x24)
def t8 (x30:C6):Ty41:=some ((B5.mk 0 [] [] 0 0 0 0 0 []),0,x30)
def lk (x1:List C5) (x2:Int) (x5:Bool) (x7:Int):Ty41:=(acw x1 x7).bind fun x8=>(if(!x8)=true then(c7 x7).bind fun x10=>some ((B5.mk 0 [] [] 0 0 0 0 0 []),0,x10)else(ju x1 (w64 (x7+1))).bind fun x11=>(if(!x11)=true then(c7 (w64 (x7+1))).bind fun x13=>some ((B5.mk 0 [] [] 0 0 0 0 0 []),0,x13)else(c6 x1 (w64 (x7+2)) ([59]:Bt)).bind fun x15=>(if x15=true then(c6 x1 x7 ([118,111,105,100]:Bt)).bind fun x17=>(if x17=true then(c7 (w64 (x7+2))).bind fun x19=>some ((B5.mk 0 [] [] 0 0 0 0 0 []),0,x19)else qg x1 x2 x7 x5 (w64 ((w64 (x7+2))+1)) 2 [])else(c6 x1 (w64 (x7+2)) ([40]:Bt)).bind fun x20=>(if x20=true then(abi x1 (w64 ((w64 (x7+2))+1))).bind fun(x22,x23,x24)=>(if(decide (x24.Place≥0))=true then ua x24 else(ajl x1 x23 1).bind fun(x28,x29,x30)=>(if(decide (x30.Place≥0))=true then t8 x30 else(app 104 x22 ([x28]:List B5)).bind fun x34=>qg x1 x2 x7 x5 x29 3 x34))else(c7 (w64 (x7+2))).bind fun x36=>some ((B5.mk 0 [] [] 0 0 0 0 0 []),0,x36)))))
def qz (x1:List C5) (x2:Int):Ty41:=(c6 x1 x2 ([115,116,97,116,105,99]:Bt)).bind fun x5=>(if x5=true then lk x1 x2 x5 (w64 (x2+1))else lk x1 x2 x5 x2)
def aaz (x44:B5) (x21:Int) (x45:C6):Ty41:=some (x44,w64 (x21+1),x45)
def wa (x21:Int) (x44:B5):Ty41:=(eh).bind fun x45=>aaz x44 x21 x45
def vz (x1:List C5) (x2 x17 x21:Int) (x23:List B5):Ty41:=(fq x1 1 x2 (w64 (x21+1)) x23).bind fun x37=>(idx x1 (w64 (x2+1))).bind fun x39=>(idx x1 (w64 (x2+1))).bind fun x40=>(if(decide (x17≥0))=true then(idx x1 x17).bind fun x42=>(idx x1 x17).bind fun x43=>wa x21 ({{{{x37 with Text:=x39.Text} with At:=x40.At} with Type_:=x42.Text} with TypeAt:=x43.At})else wa x21 ({{x37 with Text:=x39.Text} with At:=x40.At}))
def aay (x31:C6):Ty43:=some (.inr (.done ((B5.mk 0 [] [] 0 0 0 0 0 []),0,x31)))
def vw (x1:List C5) (x21:Int) (x23:List B5):Ty43:=(c6 x1 x21 ([125]:Bt)).bind fun x27=>(if(!x27)=true then(qz x1 x21).bind fun(x29,x30,x31)=>(if(decide (x31.Place≥0))=true then aay x31 else(app 104 x23 ([x29]:List B5)).bind fun x35=>some (.inl (x30,x35)))else some (.inr (.next (x21,x23))))
def sb (x1:List C5) (x2 x16 x17:Int):Ty41:=(c6 x1 x16 ([123]:Bt)).bind fun x18=>(if(!x18)=true then(c7 x16).bind fun x20=>some ((B5.mk 0 [] [] 0 0 0 0 0 []),0,x20)else(iter (fun s=>vw x1 s.1 s.2) (w64 (x16+1),[])).bind fun z=>match z with| .next p=>vz x1 x2 x17 p.1 p.2| .done r=>some r)
def ac6 (x1:List C5) (x2:Int):Ty41:=(c6 x1 x2 ([99,108,97,115,115]:Bt)).bind fun x5=>(if(!x5)=true then(c7 x2).bind fun x7=>some ((B5.mk 0 [] [] 0 0 0 0 0 []),0,x7)else(ju x1 (w64 (x2+1))).bind fun x8=>(if(!x8)=true then(c7 (w64 (x2+1))).bind fun x10=>some ((B5.mk 0 [] [] 0 0 0 0 0 []),0,x10)else(c6 x1 (w64 (x2+2)) ([101,120,116,101,110,100,115]:Bt)).bind fun x11=>(if x11=true then(ju x1 (w64 ((w64 (x2+2))+1))).bind fun x13=>(if(!x13)=true then(c7 (w64 ((w64 (x2+2))+1))).bind fun x15=>some ((B5.mk 0 [] [] 0 0 0 0 0 []),0,x15)else sb x1 x2 (w64 ((w64 (x2+2))+2)) (w64 ((w64 (x2+2))+1)))else sb x1 x2 (w64 (x2+2)) (-1))))
def wy (x2:C6) (x5:C5):Ty17:=some (B3.mk x2.Code 0 x5.At)
def yk (x1:List C5) (x2:C6):Ty17:=(idx x1 (if(w64 ((x1.length:Int) - 1))<x2.Place then(w64 ((x1.length:Int) - 1))else x2.Place)).bind fun x5=>wy x2 x5
abbrev i6 :Type:=(B5->Option (Int))
def aa3 (R:i6) (x3:Int):Ty15:=some (w64 (x3+1))
def we (R:i6) (x1:B5) (x3 x4:Int):Ty26:=(if(decide (x4<(x1.Kids.length:Int)))=true then(idx x1.Kids x4).bind fun x8=>(R x8).bind fun x9=>some (.inl ((if x9>x3 then x9 else x3),w64 (x4+1)))else some (.inr x3))
def yz (R:i6) (x1:B5):Ty15:=(iter (fun s=>we R x1 s.1 s.2) (0,0)).bind fun p=>aa3 R p
def aiv (R:i6):i6:=(fun x1=>yz R x1)
def oq (n:Nat):i6:=Nat.rec (motive:=fun _=>i6) (fun x1=>none) (fun _ R=>aiv R) n
def aoo (x1:B5):Ty15:=(oq 1048576) x1
abbrev Ty44 :Type:=Option ((List B5) × B3)
def acn (x9:List B5):Ty44:=some (x9,(B3.mk 0 0 0))
abbrev Ty45 :Type:=Option ((Int) ⊕ (Flow Unit ((List B5) × B3)))
def aco (x30:B5):Ty45:=some (.inr (.done ([],(B3.mk 2 0 x30.From))))
def yn (x9:List B5) (x24:Int):Ty45:=(if(decide (x24<(x9.length:Int)))=true then(idx x9 x24).bind fun x27=>(aoo x27).bind fun x28=>(if(decide (x28>200))=true then(idx x9 x24).bind fun x30=>aco x30 else some (.inl (w64 (x24+1))))else some (.inr (.next ())))
def acm (x9:List B5):Ty44:=(iter (fun s=>yn x9 s) 0).bind fun z=>match z with| .next p=>acn x9| .done r=>some r
def ym (x3:List C5) (x8:Int) (x9:List B5):Option ((Int × (List B5)) ⊕ (Flow (List B5) ((List B5) × B3))):=(idx x3 x8).bind fun x13=>(if(x13.Kind != 5)=true then(ac6 x3 x8).bind fun(x15,x16,x17)=>(if(decide (x17.Place≥0))=true then(yk x3 x17).bind fun x21=>some (.inr (.done ([],x21)))else(app 104 x9 ([x15]:List B5)).bind fun x22=>some (.inl (x16,x22)))else some (.inr (.next x9)))
def acx (x1:Bt):Ty44:=(ahc x1).bind fun(x3,x4,x5)=>(if(x5 != 0)=true then some ([],(B3.mk x5 0 x4))else(iter (fun s=>ym x3 s.1 s.2) (0,[])).bind fun z=>match z with| .next p=>acm p| .done r=>some r)
def za (x5:List (List B5)):Option ((List (List B5)) × Bool):=some (x5,true)
def qj (x1:List Bt) (x4:Int) (x5:List (List B5)):Option ((Int × (List (List B5))) ⊕ (Flow (List (List B5)) ((List (List B5)) × Bool))):=(if(decide (x4<(x1.length:Int)))=true then(idx x1 x4).bind fun x10=>(if(decide ((x10.length:Int)>1500))=true then some (.inr (.done ([],false)))else(idx x1 x4).bind fun x12=>(acx x12).bind fun(x13,x14)=>(if(x14.Code != 0)=true then some (.inr (.done ([],false)))else(app 24 x5 ([x13]:List (List B5))).bind fun x17=>some (.inl (w64 (x4+1),x17))))else some (.inr (.next x5)))
def abn (x1:List Bt):Option ((List (List B5)) × Bool):=(if(decide ((x1.length:Int)>6))=true then some ([],false)else(iter (fun s=>qj x1 s.1 s.2) (0,[])).bind fun z=>match z with| .next p=>za p| .done r=>some r)
def avt :Option (Bool):=some false
def agd (x1:List Bt) (x2:Bt) (x3:Int):Ty14:=(if(decide (x3<(x1.length:Int)))=true then(idx x1 x3).bind fun x6=>(if(x6==x2)=true then some (.inr (.done true))else some (.inl (w64 (x3+1))))else some (.inr (.next ())))
def am6 (x1:List Bt) (x2:Bt):Ty12:=(iter (fun s=>agd x1 x2 s) 0).bind fun z=>match z with| .next p=>avt| .done r=>some r
def apx :Option (A9 × Bool):=some ((A9.mk 0 [] [] [] [] false [] 0 0),false)
def ae0 (x1:List A9) (x4:Int) (x10:Bool):Ty10:=(if x10=true then(idx x1 x4).bind fun x12=>some (.inr (.done (x12,true)))else some (.inl (w64 (x4+1))))
def aag (x1:List A9) (x2:Bt) (x4:Int):Ty10:=(if(decide (x4<(x1.length:Int)))=true then(idx x1 x4).bind fun x7=>(if(x7.Kind==1)=true then(idx x1 x4).bind fun x9=>ae0 x1 x4 (x9.Id==x2)else ae0 x1 x4 false)else some (.inr (.next ())))
def ac4 (x1:List A9) (x2:Bt):Ty11:=(iter (fun s=>aag x1 x2 s) 0).bind fun z=>match z with| .next p=>apx| .done r=>some r
def ae2 (x5:List Bt) (x3:Bt) (x9:A9) (x14:Bool):Option ((Bt × (List Bt)) ⊕ ((List Bt))):=(if x14=true then some (.inr x5)else(app 16 x5 ([x3]:List Bt)).bind fun x16=>some (.inl (x9.Type_,x16)))
def aai (x1:List A9) (x3:Bt) (x5:List Bt):Option ((Bt × (List Bt)) ⊕ ((List Bt))):=(ac4 x1 x3).bind fun(x9,x10)=>(am6 x5 x3).bind fun x12=>(if(!x10)=true then ae2 x5 x3 x9 true else ae2 x5 x3 x9 x12)
def agf (x1:List A9) (x2:Bt):Option ((List Bt)):=iter (fun s=>aai x1 s.1 s.2) (x2,[])
def age (x1:List A9) (x2 x3:Bt):Ty12:=(agf x1 x2).bind fun x4=>(am6 x4 x3).bind fun x5=>some x5
def amh :Option (A9 × Bool):=some ((A9.mk 0 [] [] [] [] false [] 0 0),false)
def amg (x7:Int):Ty10:=some (.inl (w64 (x7+1)))
abbrev Ty46 :Type:=Option ((Int) ⊕ (Flow Unit ((Int) ⊕ (Flow Unit (A9 × Bool)))))
def ad6 (x1:List A9) (x10:Int) (x21:Bool):Ty46:=(if x21=true then(idx x1 x10).bind fun x23=>some (.inr (.done (.inr (.done (x23,true)))))else some (.inl (w64 (x10+1))))
def abf (x1:List A9) (x2:Int) (x6:List Bt) (x7:Int) (x4:Bt) (x10:Int):Ty46:=(if(decide (x10<(x1.length:Int)))=true then(idx x1 x10).bind fun x13=>(if(x13.Kind==x2)=true then(idx x1 x10).bind fun x15=>(idx x6 x7).bind fun x16=>(if(x15.Owner==x16)=true then(idx x1 x10).bind fun x18=>ad6 x1 x10 (x18.Name==x4)else ad6 x1 x10 false)else ad6 x1 x10 false)else some (.inr (.next ())))
def ad5 (x6:List Bt) (x1:List A9) (x2:Int) (x4:Bt) (x7:Int):Ty10:=(if(decide (x7<(x6.length:Int)))=true then(iter (fun s=>abf x1 x2 x6 x7 x4 s) 0).bind fun z=>match z with| .next p=>amg x7| .done r=>some r else some (.inr (.next ())))
def abc (x1:List A9) (x2:Int) (x3 x4:Bt):Ty11:=(agf x1 x3).bind fun x6=>(iter (fun s=>ad5 x6 x1 x2 x4 s) 0).bind fun z=>match z with| .next p=>amh| .done r=>some r
def ao7 :Option (Bool):=some true
def ah5 (x4:Int) (x7 x8:Bt):Ty14:=(if(!(x7==x8))=true then some (.inr (.done false))else some (.inl (w64 (x4+1))))
def y3 (x1 x2:List Bt) (x4:Int):Ty14:=(if(decide (x4<(x1.length:Int)))=true then(idx x1 x4).bind fun x7=>(idx x2 x4).bind fun x8=>ah5 x4 x7 x8 else some (.inr (.next ())))
def ahs (x1 x2:List Bt):Ty12:=(if((x1.length:Int) != (x2.length:Int))=true then some false else(iter (fun s=>y3 x1 x2 s) 0).bind fun z=>match z with| .next p=>ao7| .done r=>some r)
def aaf (x11:Bool):Ty15:=(if x11=true then some 160 else some 0)
def aae :Option (Int):=some 0
def vo (x32:Bool):Ty15:=(if x32=true then some 161 else aae)
def aji (x1:List A9) (x2:A9):Ty15:=(if(x2.Kind==1)=true then(ac4 x1 x2.Type_).bind fun(x5,x6)=>(age x1 x2.Type_ x2.Id).bind fun x8=>(if(!(x2.Type_==[]))=true then(if(!x6)=true then aaf true else aaf x8)else aaf false)else(ac4 x1 x2.Owner).bind fun(x13,x14)=>(if(!x14)=true then some 0 else(if(x2.Kind==2)=true then(abc x1 2 x13.Type_ x2.Name).bind fun(x18,x19)=>(if x19=true then some 162 else aae)else(if(x2.Kind==3)=true then(abc x1 3 x13.Type_ x2.Name).bind fun(x23,x24)=>(if x24=true then(if(!(x23.Type_==x2.Type_))=true then vo true else(if(!(x23.Static==x2.Static))=true then vo true else(ahs x23.Params x2.Params).bind fun x29=>vo (!x29)))else vo false)else aae))))
def apy :Option (B3):=some (B3.mk 0 0 0)
def ai8 (x7:Int) (x9 x10:A9):Ty16:=some (.inr (.done (B3.mk x7 x9.File x10.At)))
def aah (x1:List A9) (x3:Int):Ty16:=(if(decide (x3<(x1.length:Int)))=true then(idx x1 x3).bind fun x6=>(aji x1 x6).bind fun x7=>(if(x7 != 0)=true then(idx x1 x3).bind fun x9=>(idx x1 x3).bind fun x10=>ai8 x7 x9 x10 else some (.inl (w64 (x3+1))))else some (.inr (.next ())))
def ajj (x1:List A9):Ty17:=(iter (fun s=>aah x1 s) 0).bind fun z=>match z with| .next p=>apy| .done r=>some r
def lg (x1:C7):Ty12:=some (x1.M.Code != 0)
def amw :Option (A9 × Bool):=some ((A9.mk 0 [] [] [] [] false [] 0 0),false)
def ab1 (x1:List A9) (x4:Int) (x10:Bool):Ty10:=(if x10=true then(idx x1 x4).bind fun x12=>some (.inr (.done (x12,true)))else some (.inl (w64 (x4+1))))
def wn (x1:List A9) (x2:Bt) (x4:Int):Ty10:=(if(decide (x4<(x1.length:Int)))=true then(idx x1 x4).bind fun x7=>(if(x7.Kind==1)=true then(idx x1 x4).bind fun x9=>ab1 x1 x4 (x9.Id==x2)else ab1 x1 x4 false)else some (.inr (.next ())))
def ms (x1:List A9) (x2:Bt):Ty11:=(iter (fun s=>wn x1 x2 s) 0).bind fun z=>match z with| .next p=>amw| .done r=>some r
abbrev Ty47 :Type:=Option (C7)
def ab0 (x1 x2:Int) (x3:C7):Ty47:=some (C7.mk x3.L (B3.mk x1 x3.File x2) x3.File x3.Method x3.Many)
def kb (x1:Int) (x2:Bt) (x3:C7):Ty47:=(app 32 x3.L ([(B7.mk x3.File x1 x2)]:List B7)).bind fun x7=>some (C7.mk x7 x3.M x3.File x3.Method x3.Many)
def ux (x3:C7) (x1:C8) (x2:B5) (x16:Bool):Ty47:=(if x16=true then some x3 else(ms x1.Table x2.Type_).bind fun(x18,x19)=>(if(!x19)=true then(ab0 170 x2.TypeAt x3).bind fun x22=>some x22 else(kb x2.TypeAt x18.Id x3).bind fun x24=>some x24))
def alw (x1:C8) (x2:B5) (x3:C7):Ty47:=(if(decide (x2.TypeAt<0))=true then ux x3 x1 x2 true else(if(x2.Type_==([105,110,116]:Bt))=true then ux x3 x1 x2 true else(if(x2.Type_==([98,111,111,108,101,97,110]:Bt))=true then ux x3 x1 x2 true else ux x3 x1 x2 (x2.Type_==([118,111,105,100]:Bt)))))
def um (x11:A9) (x16:Bool):Ty19:=(if x16=true then some ((A9.mk 0 [] [] [] [] false [] 0 0),171)else some (x11,0))
def abu (x1:C8) (x2:Bt):Ty19:=(abc x1.Table 2 x1.Class x2).bind fun(x11,x12)=>(if x12=true then(if x1.Static=true then um x11 (!x11.Static)else um x11 false)else(ms x1.Table x2).bind fun(x18,x19)=>(if x19=true then some (x18,0)else some ((A9.mk 0 [] [] [] [] false [] 0 0),170)))
def o0 (x1:C8) (x2:Bt) (x5:Int):Option ((Int) ⊕ (Flow Unit (A9 × Int))):=(if(decide (x5≥0))=true then(idx x1.Seen x5).bind fun x8=>(if(x8.Name==x2)=true then(idx x1.Seen x5).bind fun x10=>some (.inr (.done (x10,0)))else some (.inl (w64 (x5 - 1))))else some (.inr (.next ())))
def sq (x1:C8) (x2:Bt):Ty19:=(iter (fun s=>o0 x1 x2 s) (w64 ((x1.Seen.length:Int) - 1))).bind fun z=>match z with| .next p=>abu x1 x2| .done r=>some r
abbrev cb :Type:=(C8->B5->Option (A9 × Int)) × (C8->B5->Option (Bt)) × (C8->B5->Int->Option (A9 × Int))
def uq (R:cb) (x10:A9) (x15:Bool):Ty19:=(if x15=true then some ((A9.mk 0 [] [] [] [] false [] 0 0),171)else some (x10,0))
def vf (R:cb) (x1:C8) (x2:B5):Ty19:=(if(x2.Kind==17)=true then(sq x1 x2.Text).bind fun(x7,x8)=>some (x7,x8)else(if(x2.Kind==19)=true then(abc x1.Table 3 x1.Class x2.Text).bind fun(x10,x11)=>(if(!x11)=true then some ((A9.mk 0 [] [] [] [] false [] 0 0),170)else(if x1.Static=true then uq R x10 (!x10.Static)else uq R x10 false))else(if(x2.Kind==21)=true then(ms x1.Table x2.Text).bind fun(x18,x19)=>(if(!x19)=true then some ((A9.mk 0 [] [] [] [] false [] 0 0),170)else some (x18,0))else(if(x2.Kind==18)=true then(R.2.2 x1 x2 2).bind fun(x23,x24)=>some (x23,x24)else(if(x2.Kind==20)=true then(R.2.2 x1 x2 3).bind fun(x26,x27)=>some (x26,x27)else some ((A9.mk 0 [] [] [] [] false [] 0 0),0))))))
def k7 (R:cb) (x30:Bool):Ty1:=(if x30=true then some ([105,110,116]:Bt)else some ([98,111,111,108,101,97,110]:Bt))
def k6 (R:cb) (x1:C8) (x2:B5) (x36:Bool):Ty1:=(if x36=true then(R.1 x1 x2).bind fun(x38,x39)=>(if(x39 != 0)=true then some []else(if(x2.Kind==21)=true then some x38.Id else(if(x38.Kind==1)=true then some []else some x38.Type_)))else some [])
def xn (R:cb) (x2:B5) (x1:C8) (x9:Bool):Ty1:=(if x9=true then some ([98,111,111,108,101,97,110]:Bt)else(if(x2.Kind==15)=true then some ([110,117,108,108]:Bt)else(if(x2.Kind==16)=true then(if x1.Static=true then some []else some x1.Class)else(if(x2.Kind==24)=true then(if(x2.Text==([43]:Bt))=true then k7 R true else(if(x2.Text==([45]:Bt))=true then k7 R true else(if(x2.Text==([42]:Bt))=true then k7 R true else(if(x2.Text==([47]:Bt))=true then k7 R true else k7 R (x2.Text==([37]:Bt))))))else(if(x2.Kind==17)=true then k6 R x1 x2 (x2.Kind==17)else(if(x2.Kind==18)=true then k6 R x1 x2 (x2.Kind==18)else(if(x2.Kind==19)=true then k6 R x1 x2 (x2.Kind==19)else(if(x2.Kind==20)=true then k6 R x1 x2 (x2.Kind==20)else k6 R x1 x2 (x2.Kind==21)))))))))
def xm (R:cb) (x2:B5) (x1:C8) (x6:Bool):Ty1:=(if x6=true then some ([105,110,116]:Bt)else(if(x2.Kind==14)=true then xn R x2 x1 (x2.Kind==14)else xn R x2 x1 (x2.Kind==22)))
def zg (R:cb) (x1:C8) (x2:B5):Ty1:=(if(x2.Kind==13)=true then xm R x2 x1 (x2.Kind==13)else xm R x2 x1 (x2.Kind==23))
def uo (R:cb) (x1:C8) (x3:Int) (x22:Bt) (x2:B5) (x27:Bool):Ty19:=(if x27=true then some ((A9.mk 0 [] [] [] [] false [] 0 0),180)else(abc x1.Table x3 x22 x2.Text).bind fun(x29,x30)=>(if(!x30)=true then some ((A9.mk 0 [] [] [] [] false [] 0 0),170)else some (x29,0)))
def o3 (R:cb) (x1:C8) (x8:B5) (x3:Int) (x2:B5):Ty19:=(R.2.1 x1 x8).bind fun x22=>(ms x1.Table x22).bind fun(x23,x24)=>(if(!x24)=true then uo R x1 x3 x22 x2 true else uo R x1 x3 x22 x2 (x22==[]))
def un (R:cb) (x1:C8) (x3:Int) (x11:A9) (x2 x8:B5) (x15:Bool):Ty19:=(if x15=true then(abc x1.Table x3 x11.Id x2.Text).bind fun(x17,x18)=>(if(!x18)=true then some ((A9.mk 0 [] [] [] [] false [] 0 0),170)else(if(!x17.Static)=true then some ((A9.mk 0 [] [] [] [] false [] 0 0),171)else some (x17,0)))else o3 R x1 x8 x3 x2)
def ve (R:cb) (x1:C8) (x2:B5) (x3:Int):Ty19:=(if((x2.Kids.length:Int)==0)=true then some ((A9.mk 0 [] [] [] [] false [] 0 0),180)else(idx x2.Kids 0).bind fun x8=>(if(x8.Kind==17)=true then(sq x1 x8.Text).bind fun(x11,x12)=>(if(x12==0)=true then un R x1 x3 x11 x2 x8 (x11.Kind==1)else un R x1 x3 x11 x2 x8 false)else o3 R x1 x8 x3 x2))
def adt (R:cb):cb:=((fun x1 x2=>vf R x1 x2),(fun x1 x2=>zg R x1 x2),(fun x1 x2 x3=>ve R x1 x2 x3))
def lf (n:Nat):cb:=Nat.rec (motive:=fun _=>cb) ((fun x1 x2=>none),(fun x1 x2=>none),(fun x1 x2 x3=>none)) (fun _ R=>adt R) n
def aeg (x1:C8) (x2:B5):Ty19:=(lf 1048576).1 x1 x2
def amf (x20:C7):Ty47:=some x20
def ame (x24:C7):Ty47:=some x24
def amd (x30:C7):Ty47:=some x30
def ad4 (x3:C7) (x2:B5) (x1:C8) (x27:Bool):Ty47:=(if x27=true then(o9 x3.Method x3.Many).bind fun x29=>(kb x2.At x29 x3).bind fun x30=>amd x30 else(aeg x1 x2).bind fun(x32,x33)=>(if(x33 != 0)=true then(ab0 x33 x2.At x3).bind fun x36=>some x36 else(kb x2.At x32.Id x3).bind fun x38=>some x38))
def ad3 (x2:B5) (x3:C7) (x1:C8) (x10:Bool):Ty47:=(if x10=true then(ab0 171 x2.From x3).bind fun x12=>some x12 else(if(decide (x2.At<0))=true then some x3 else(if(x2.Kind==1)=true then(kb x2.At x2.Text x3).bind fun x16=>some x16 else(if(x2.Kind==2)=true then(zu x1.Class x2.Text).bind fun x19=>(kb x2.At x19 x3).bind fun x20=>amf x20 else(if(x2.Kind==3)=true then(tl x1.Class x2.Text).bind fun x23=>(kb x2.At x23 x3).bind fun x24=>ame x24 else(if(x2.Kind==4)=true then ad4 x3 x2 x1 (x2.Kind==4)else ad4 x3 x2 x1 (x2.Kind==6)))))))
def an8 (x1:C8) (x2:B5) (x3:C7):Ty47:=(if(x2.Kind==16)=true then ad3 x2 x3 x1 x1.Static else ad3 x2 x3 x1 false)
abbrev cq :Type:=(C8->B5->C7->Option (C7 × C8))
abbrev Ty48 :Type:=Option (C7 × C8)
def asx (R:cq) (x10:C7) (x1:C8):Ty48:=some (x10,x1)
def asw (R:cq) (x29:List B7) (x25:B3) (x26:Int) (x27:Bt) (x28:Int) (x1:C8):Ty48:=some ((C7.mk x29 x25 x26 x27 x28),x1)
def asv (R:cq) (x32:C7) (x1:C8):Ty48:=some (x32,x1)
def akf (R:cq) (x52:List B7) (x47:B3) (x48:Int) (x49:Bt) (x50:Int) (x980:C8):Ty48:=some ((C7.mk x52 x47 x48 x49 x50),x980)
def agl (R:cq) (x52:List B7) (x47:B3) (x48:Int) (x49:Bt) (x50:Int) (x980:C8):Ty48:=akf R x52 x47 x48 x49 x50 x980
def aci (R:cq) (x1:C8) (x39:Bt) (x2:B5) (x32:C7) (x52:List B7) (x47:B3) (x48:Int) (x49:Bt) (x50:Int) (x973:Bool):Ty48:=(if x973=true then(app 120 [] x1.Seen).bind fun x976=>(app 120 x976 ([(A9.mk 4 x39 x2.Text x32.Method x2.Type_ false [] x32.File x2.At)]:List A9)).bind fun x978=>agl R x52 x47 x48 x49 x50 ({x1 with Seen:=x978})else agl R x52 x47 x48 x49 x50 x1)
def akd (R:cq) (x2:B5) (x1:C8) (x39:Bt) (x32:C7) (x52:List B7) (x47:B3) (x48:Int) (x49:Bt) (x50:Int) (x51:C8):Ty48:=(if(x2.Kind==4)=true then aci R x1 x39 x2 x32 x52 x47 x48 x49 x50 true else aci R x1 x39 x2 x32 x52 x47 x48 x49 x50 (x2.Kind==6))
abbrev Ty49 :Type:=Option ((Int × B3 × Int × Bt × Int × C8 × (List B7)) ⊕ (Flow ((List B7) × B3 × Int × Bt × Int × C8) (C7 × C8)))
def ake (R:cq) (x490:C7) (x1:C8):Ty49:=some (.inr (.done (x490,x1)))
def aez (R:cq) (x1:C8) (x45:Int) (x490:C7) (x491:C8):Ty49:=(lg x490).bind fun x970=>(if x970=true then ake R x490 x1 else some (.inl (w64 (x45+1),x490.M,x490.File,x490.Method,x490.Many,x491,x490.L)))
def aey (R:cq) (x2:B5) (x45:Int) (x51:C8) (x52:List B7) (x47:B3) (x48:Int) (x1:C8) (x68:Bt) (x69:Int):Ty49:=(idx x2.Kids x45).bind fun x310=>(R x51 x310 (C7.mk x52 x47 x48 x68 x69)).bind fun(x490,x491)=>aez R x1 x45 x490 x491
def ai6 (R:cq) (x2:B5) (x45:Int) (x51:C8) (x52:List B7) (x47:B3) (x48:Int) (x1:C8) (x67:Bt):Ty49:=aey R x2 x45 x51 x52 x47 x48 x1 x67 0
def vn (R:cq) (x2:B5) (x45:Int) (x1 x51:C8) (x52:List B7) (x47:B3) (x48:Int) (x49:Bt) (x50:Int) (x64:Bool):Ty49:=(if x64=true then(idx x2.Kids x45).bind fun x66=>(tl x1.Class x66.Text).bind fun x67=>ai6 R x2 x45 x51 x52 x47 x48 x1 x67 else aey R x2 x45 x51 x52 x47 x48 x1 x49 x50)
def uw (R:cq) (x2:B5) (x1:C8) (x45:Int) (x47:B3) (x48:Int) (x49:Bt) (x50:Int) (x51:C8) (x52:List B7):Ty49:=(if(decide (x45<(x2.Kids.length:Int)))=true then(if(x2.Kind==1)=true then(idx x2.Kids x45).bind fun x63=>vn R x2 x45 x1 x51 x52 x47 x48 x49 x50 (x63.Kind==3)else vn R x2 x45 x1 x51 x52 x47 x48 x49 x50 false)else some (.inr (.next (x52,x47,x48,x49,x50,x51))))
def aad (R:cq) (x2:B5) (x1:C8) (x23:Int) (x32:C7) (x38:C8) (x39:Bt) (x44:Int):Ty48:=(iter (fun s=>uw R x2 x1 s.1 s.2.1 s.2.2.1 s.2.2.2.1 s.2.2.2.2.1 s.2.2.2.2.2.1 s.2.2.2.2.2.2) (x23,x32.M,x32.File,x32.Method,x44,x38,x32.L)).bind fun z=>match z with| .next p=>akd R x2 x1 x39 x32 p.1 p.2.1 p.2.2.1 p.2.2.2.1 p.2.2.2.2.1 p.2.2.2.2.2| .done r=>some r
def aex (R:cq) (x2:B5) (x1:C8) (x23:Int) (x32:C7) (x38:C8) (x39:Bt) (x42:Bool):Ty48:=(if x42=true then aad R x2 x1 x23 x32 x38 x39 (w64 (x32.Many+1))else aad R x2 x1 x23 x32 x38 x39 x32.Many)
def ai5 (R:cq) (x2:B5) (x1:C8) (x23:Int) (x32:C7) (x38:C8) (x39:Bt):Ty48:=(if(x2.Kind==4)=true then aex R x2 x1 x23 x32 x38 x39 true else aex R x2 x1 x23 x32 x38 x39 (x2.Kind==6))
def pa (R:cq) (x32:C7) (x2:B5) (x1:C8) (x23:Int) (x38:C8):Ty48:=(o9 x32.Method x32.Many).bind fun x39=>ai5 R x2 x1 x23 x32 x38 x39
def vm (R:cq) (x1:C8) (x2:B5) (x23:Int) (x25:B3) (x26:Int) (x27:Bt) (x28:Int) (x29:List B7):Ty48:=(lg (C7.mk x29 x25 x26 x27 x28)).bind fun x30=>(if x30=true then asw R x29 x25 x26 x27 x28 x1 else(an8 x1 x2 (C7.mk x29 x25 x26 x27 x28)).bind fun x32=>(lg x32).bind fun x34=>(if x34=true then asv R x32 x1 else(if(x2.Kind==3)=true then pa R x32 x2 x1 x23 ({x1 with Static:=x2.N==1})else pa R x32 x2 x1 x23 x1)))
def ai4 (R:cq) (x1:C8) (x2:B5) (x20:C7):Ty48:=vm R x1 x2 1 x20.M x20.File x20.Method x20.Many x20.L
def vl (R:cq) (x2:B5) (x1:C8) (x10:C7) (x17:Bool):Ty48:=(if x17=true then(idx x2.Kids 0).bind fun x19=>(R x1 x19 x10).bind fun(x20,x21)=>ai4 R x1 x2 x20 else vm R x1 x2 0 x10.M x10.File x10.Method x10.Many x10.L)
def ah2 (R:cq) (x1:C8) (x2:B5) (x3:C7):Ty48:=(alw x1 x2 x3).bind fun x10=>(lg x10).bind fun x12=>(if x12=true then asx R x10 x1 else(if(x2.Kind==18)=true then vl R x2 x1 x10 (decide ((x2.Kids.length:Int)>0))else(if(x2.Kind==20)=true then vl R x2 x1 x10 (decide ((x2.Kids.length:Int)>0))else vl R x2 x1 x10 false)))
def ajs (R:cq):cq:=(fun x1 x2 x3=>ah2 R x1 x2 x3)
def db (n:Nat):cq:=Nat.rec (motive:=fun _=>cq) (fun x1 x2 x3=>none) (fun _ R=>ajs R) n
def aqw (x1:C8) (x2:B5) (x3:C7):Ty48:=(db 1048576) x1 x2 x3
def akm (x4:List B7):Ty23:=some x4
def akl (x4 x1:List B7) (x3 x9:Int):Ty24:=(subL x4 0 x9).bind fun x22=>(app 32 [] x22).bind fun x24=>(idx x1 x3).bind fun x26=>(app 32 x24 ([x26]:List B7)).bind fun x27=>(subL x4 x9 (x4.length:Int)).bind fun x29=>(app 32 x27 x29).bind fun x30=>some (.inl (w64 (x3+1),x30))
def uz (x9:Int) (x20:Bool):Ty37:=(if x20=true then some (.inl (w64 (x9 - 1)))else some (.inr x9))
def yi (x4 x1:List B7) (x3 x9:Int):Ty37:=(if(decide (x9>0))=true then(idx x4 (w64 (x9 - 1))).bind fun x12=>(idx x1 x3).bind fun x13=>(if(decide (x12.File>x13.File))=true then uz x9 true else(idx x4 (w64 (x9 - 1))).bind fun x15=>(idx x1 x3).bind fun x16=>(if(x15.File==x16.File)=true then(idx x4 (w64 (x9 - 1))).bind fun x18=>(idx x1 x3).bind fun x19=>uz x9 (decide (x18.At>x19.At))else uz x9 false))else uz x9 false)
def yj (x1:List B7) (x3:Int) (x4:List B7):Ty24:=(if(decide (x3<(x1.length:Int)))=true then(iter (fun s=>yi x4 x1 x3 s) (x4.length:Int)).bind fun p=>akl x4 x1 x3 p else some (.inr x4))
def alx (x1:List B7):Ty23:=(iter (fun s=>yj x1 s.1 s.2) (0,[])).bind fun p=>akm p
abbrev Ty50 :Type:=Option ((List B7) × B3)
def akk (x4:B3):Ty50:=some ([],x4)
def asy (x7:B3):Ty50:=some ([],x7)
def akh (x13:B3) (x14:Int) (x15:Bt) (x16:Int) (x17:List B7):Ty50:=(alx x17).bind fun x60=>some (x60,(B3.mk 0 0 0))
abbrev Ty51 :Type:=Option ((Int × B3 × Int × Bt × Int × (List B7)) ⊕ (Flow (B3 × Int × Bt × Int × (List B7)) ((List B7) × B3)))
def akg (x11:Int) (x28:B3) (x29:Int) (x30:Bt) (x31:Int) (x32:List B7):Ty51:=some (.inl (w64 (x11+1),x28,x29,x30,x31,x32))
abbrev Ty52 :Type:=Option ((Int × B3 × Int × Bt × Int × (List B7)) ⊕ (Flow (B3 × Int × Bt × Int × (List B7)) ((Int × B3 × Int × Bt × Int × (List B7)) ⊕ (Flow (B3 × Int × Bt × Int × (List B7)) ((List B7) × B3)))))
def ack (x26:Int) (x55:B3) (x56:Int) (x57:Bt) (x58:Int) (x59:List B7):Ty52:=some (.inl (w64 (x26+1),x55,x56,x57,x58,x59))
def akj (x49:C7):Ty52:=some (.inr (.done (.inr (.done ([],x49.M)))))
def aki (x26:Int) (x49:C7):Ty52:=(lg x49).bind fun x52=>(if x52=true then akj x49 else ack x26 x49.M x49.File x49.Method x49.Many x49.L)
def acj (x1:List (List B5)) (x11:Int) (x3:List A9) (x26:Int) (x28:B3) (x29:Int) (x30:Bt) (x31:Int) (x32:List B7):Ty52:=(idx x1 x11).bind fun x40=>(if(decide (x26<(x40.length:Int)))=true then(idx x1 x11).bind fun x42=>(idx x42 x26).bind fun x43=>(if(x43.Kind != 1)=true then ack x26 x28 x29 x30 x31 x32 else(idx x1 x11).bind fun x45=>(idx x45 x26).bind fun x46=>(idx x1 x11).bind fun x47=>(idx x47 x26).bind fun x48=>(aqw (C8.mk x3 x46.Text false []) x48 (C7.mk x32 x28 x29 x30 x31)).bind fun(x49,x50)=>aki x26 x49)else some (.inr (.next (x28,x29,x30,x31,x32))))
def uy (x1:List (List B5)) (x3:List A9) (x11:Int) (x13:B3) (x14:Int) (x15:Bt) (x16:Int) (x17:List B7):Ty51:=(if(decide (x11<(x1.length:Int)))=true then(iter (fun s=>acj x1 x11 x3 s.1 s.2.1 s.2.2.1 s.2.2.2.1 s.2.2.2.2.1 s.2.2.2.2.2) (0,x13,x11,x15,x16,x17)).bind fun z=>match z with| .next p=>akg x11 p.1 p.2.1 p.2.2.1 p.2.2.2.1 p.2.2.2.2| .done r=>some r else some (.inr (.next (x13,x14,x15,x16,x17))))
def aqx (x1:List (List B5)):Ty50:=(zt x1).bind fun(x3,x4)=>(if(x4.Code != 0)=true then akk x4 else(ajj x3).bind fun x7=>(if(x7.Code != 0)=true then asy x7 else(iter (fun s=>uy x1 x3 s.1 s.2.1 s.2.2.1 s.2.2.2.1 s.2.2.2.2.1 s.2.2.2.2.2) (0,(B3.mk 0 0 0),0,[],0,[])).bind fun z=>match z with| .next p=>akh p.1 p.2.1 p.2.2.1 p.2.2.2.1 p.2.2.2.2| .done r=>some r))
def ko :Option (Int):=some (-1)
def fg (x1:List A9) (x2:(A9->Option Bool)) (x3:Int):Ty18:=(if(decide (x3<(x1.length:Int)))=true then(idx x1 x3).bind fun x6=>(x2 x6).bind fun x7=>(if x7=true then some (.inr (.done x3))else some (.inl (w64 (x3+1))))else some (.inr (.next ())))
def l9 (x1:List A9) (x2:(A9->Option Bool)):Ty15:=(iter (fun s=>fg x1 x2 s) 0).bind fun z=>match z with| .next p=>ko| .done r=>some r
def kq (x1:List A9) (x2:(A9->Option Bool)):Ty12:=(l9 x1 x2).bind fun x3=>some (decide (x3≥0))
def abz (x5:Bool):Ty12:=some x5
def acg (x1:A9) (x2:Bt):Ty12:=(if(x1.Kind==1)=true then abz (x1.Id==x2)else abz false)
def aga (x1:List A9) (x2:Bt):Ty12:=(kq x1 (fun a0=>acg a0 x2)).bind fun x4=>some x4
def adx (x12:Bool):Ty12:=some x12
def ahm (x18:Bool):Ty12:=some x18
def ahl (x2 x3:Bt) (x4:Bool) (x1:List A9) (x6:Bool):Ty12:=(if x6=true then some false else(if(x2==x3)=true then(if x4=true then adx true else(if(x3==([105,110,116]:Bt))=true then adx true else adx (x3==([98,111,111,108,101,97,110]:Bt))))else(if(!x4)=true then some false else(if(x2==([110,117,108,108]:Bt))=true then some true else(aga x1 x2).bind fun x15=>(if x15=true then(afm x1 x2 x3).bind fun x17=>ahm x17 else ahm false)))))
def ag9 (x1:List A9) (x2 x3:Bt):Ty12:=(aga x1 x3).bind fun x4=>(if(x2==[])=true then ahl x2 x3 x4 x1 true else ahl x2 x3 x4 x1 (x2==([118,111,105,100]:Bt)))
def xj (x5:Bool):Ty12:=some x5
def rk (x1 x2 x3:Bt):Ty12:=(if(x2==x1)=true then xj (x3==x1)else xj false)
def nc :Option (Bt):=some []
def u5 (x37:Bool):Ty1:=(if x37=true then some ([98,111,111,108,101,97,110]:Bt)else nc)
def zy (x1:List A9) (x3 x4:Bt) (x28:Bool):Ty1:=(if x28=true then(ag9 x1 x3 x4).bind fun x30=>(if x30=true then u5 true else(ag9 x1 x4 x3).bind fun x32=>(if x32=true then u5 true else(rk ([110,117,108,108]:Bt) x3 x4).bind fun x34=>u5 x34))else nc)
def zx (x3 x4 x2:Bt) (x1:List A9) (x23:Bool):Ty1:=(if x23=true then(rk ([98,111,111,108,101,97,110]:Bt) x3 x4).bind fun x25=>(if x25=true then some ([98,111,111,108,101,97,110]:Bt)else nc)else(if(x2==([61,61]:Bt))=true then zy x1 x3 x4 (x2==([61,61]:Bt))else zy x1 x3 x4 (x2==([33,61]:Bt))))
def qm (x3 x4 x2:Bt) (x1:List A9) (x18:Bool):Ty1:=(if x18=true then(rk ([105,110,116]:Bt) x3 x4).bind fun x20=>(if x20=true then some ([98,111,111,108,101,97,110]:Bt)else nc)else(if(x2==([38,38]:Bt))=true then zx x3 x4 x2 x1 (x2==([38,38]:Bt))else zx x3 x4 x2 x1 (x2==([124,124]:Bt))))
def na (x3 x4 x2:Bt) (x1:List A9) (x11:Bool):Ty1:=(if x11=true then(rk ([105,110,116]:Bt) x3 x4).bind fun x13=>(if x13=true then some ([105,110,116]:Bt)else nc)else(if(x2==([60]:Bt))=true then qm x3 x4 x2 x1 (x2==([60]:Bt))else(if(x2==([60,61]:Bt))=true then qm x3 x4 x2 x1 (x2==([60,61]:Bt))else(if(x2==([62]:Bt))=true then qm x3 x4 x2 x1 (x2==([62]:Bt))else qm x3 x4 x2 x1 (x2==([62,61]:Bt))))))
def aet (x1:List A9) (x2 x3 x4:Bt):Ty1:=(if(x2==([43]:Bt))=true then na x3 x4 x2 x1 (x2==([43]:Bt))else(if(x2==([45]:Bt))=true then na x3 x4 x2 x1 (x2==([45]:Bt))else(if(x2==([42]:Bt))=true then na x3 x4 x2 x1 (x2==([42]:Bt))else(if(x2==([47]:Bt))=true then na x3 x4 x2 x1 (x2==([47]:Bt))else na x3 x4 x2 x1 (x2==([37]:Bt))))))
def ad2 (x23:Bool):Ty12:=some x23
def abe (x8:Bool) (x1:List A9) (x2 x3:Bt) (x14:Bool):Ty12:=(if x14=true then some true else(if(!x8)=true then some false else(ms x1 x2).bind fun(x17,x18)=>(age x1 x2 x3).bind fun x20=>(if(x2==([110,117,108,108]:Bt))=true then ad2 true else(if x18=true then ad2 x20 else ad2 false))))
def ahq (x1:List A9) (x3 x2:Bt) (x5:Bool):Ty12:=(if x5=true then some false else(ms x1 x3).bind fun(x7,x8)=>(if(x2==x3)=true then(if(x3==([105,110,116]:Bt))=true then abe x8 x1 x2 x3 true else(if(x3==([98,111,111,108,101,97,110]:Bt))=true then abe x8 x1 x2 x3 true else abe x8 x1 x2 x3 x8))else abe x8 x1 x2 x3 false))
def ahb (x1:List A9) (x2 x3:Bt):Ty12:=(if(x2==[])=true then ahq x1 x3 x2 true else ahq x1 x3 x2 (x2==([118,111,105,100]:Bt)))
def avs :Option (Bool):=some false
def agb (x2:List Bt) (x1:Bt) (x3:Int):Ty14:=(if(decide (x3<(x2.length:Int)))=true then(idx x2 x3).bind fun x6=>(if(x6==x1)=true then some (.inr (.done true))else some (.inl (w64 (x3+1))))else some (.inr (.next ())))
def aie (x1:Bt) (x2:List Bt):Ty12:=(iter (fun s=>agb x2 x1 s) 0).bind fun z=>match z with| .next p=>avs| .done r=>some r
def cn (x65:Bool):Ty1:=(if x65=true then some ([98,111,111,108,101,97,110]:Bt)else some [])
def z7 (x10 x6 x11 x8 x12 x13 x14:Bool) (x3 x4:Bt) (x16:Bool):Ty1:=(if x16=true then some ([105,110,116]:Bt)else(if x10=true then(if x6=true then cn true else(if x11=true then(if x8=true then cn true else(if x12=true then(if x13=true then cn true else(if x14=true then cn true else(if(x3==([110,117,108,108]:Bt))=true then cn (x4==([110,117,108,108]:Bt))else cn false)))else cn false))else(if x12=true then(if x13=true then cn true else(if x14=true then cn true else(if(x3==([110,117,108,108]:Bt))=true then cn (x4==([110,117,108,108]:Bt))else cn false)))else cn false)))else(if x11=true then(if x8=true then cn true else(if x12=true then(if x13=true then cn true else(if x14=true then cn true else(if(x3==([110,117,108,108]:Bt))=true then cn (x4==([110,117,108,108]:Bt))else cn false)))else cn false))else(if x12=true then(if x13=true then cn true else(if x14=true then cn true else(if(x3==([110,117,108,108]:Bt))=true then cn (x4==([110,117,108,108]:Bt))else cn false)))else cn false))))
def z6 (x2:Bt) (x1:List A9) (x3 x4:Bt) (x6 x8:Bool):Ty1:=(aie x2 ([([43]:Bt),([45]:Bt),([42]:Bt),([47]:Bt),([37]:Bt)]:List Bt)).bind fun x9=>(aie x2 ([([60]:Bt),([60,61]:Bt),([62]:Bt),([62,61]:Bt)]:List Bt)).bind fun x10=>(aie x2 ([([38,38]:Bt),([124,124]:Bt)]:List Bt)).bind fun x11=>(aie x2 ([([61,61]:Bt),([33,61]:Bt)]:List Bt)).bind fun x12=>(ahb x1 x3 x4).bind fun x13=>(ahb x1 x4 x3).bind fun x14=>(if x9=true then z7 x10 x6 x11 x8 x12 x13 x14 x3 x4 x6 else z7 x10 x6 x11 x8 x12 x13 x14 x3 x4 false)
def z5 (x3 x2:Bt) (x1:List A9) (x4:Bt) (x6:Bool):Ty1:=(if(x3==([98,111,111,108,101,97,110]:Bt))=true then z6 x2 x1 x3 x4 x6 (x4==([98,111,111,108,101,97,110]:Bt))else z6 x2 x1 x3 x4 x6 false)
def aew (x1:List A9) (x2 x3 x4:Bt):Ty1:=(if(x3==([105,110,116]:Bt))=true then z5 x3 x2 x1 x4 (x4==([105,110,116]:Bt))else z5 x3 x2 x1 x4 false)
abbrev Ty53 :Type:=Option (PX B9 ((List B7) × B3))
def aed (x12:Int) (x13:Bt) (x14:Int) (x15:List B7):Ty53:=(dq xh x15).bind fun x49=>some (.ok (x49,(B3.mk 0 0 0)))
abbrev Ty54 :Type:=Option ((Int × Int × Bt × Int × (List B7)) ⊕ (Flow (Int × Bt × Int × (List B7)) (PX B9 ((List B7) × B3))))
def aec (x10 x26:Int) (x27:Bt) (x28:Int) (x29:List B7):Ty54:=some (.inl (w64 (x10+1),x26,x27,x28,x29))
abbrev Ty55 :Type:=Option ((Int × Int × Bt × Int × (List B7)) ⊕ (Flow (Int × Bt × Int × (List B7)) ((Int × Int × Bt × Int × (List B7)) ⊕ (Flow (Int × Bt × Int × (List B7)) (PX B9 ((List B7) × B3))))))
def yd (x24 x45:Int) (x46:Bt) (x47:Int) (x48:List B7) (x37:B5):Ty55:=some (.inl (w64 (x24+1),x45,x46,x47,x48))
def tw (x23:List B5) (x4:List A9) (x24 x26:Int) (x27:Bt) (x28:Int) (x29:List B7):Ty55:=(if(decide (x24<(x23.length:Int)))=true then(idx x23 x24).bind fun x37=>(if(x37.Kind==1)=true then(anm (ab3 (B6.mk x4 x37.Text false []) x37 (B8.mk x29 x26 x27 x28)) (fun m43=>some (.inr (.done (.inr (.done (.bad m43)))))) fun(x40,x41)=>yd x24 x41.file x41.method x41.many x41.uses x37)else yd x24 x26 x27 x28 x29 x37)else some (.inr (.next (x26,x27,x28,x29))))
def q8 (x1:List (List B5)) (x4:List A9) (x10 x12:Int) (x13:Bt) (x14:Int) (x15:List B7):Ty54:=(if(decide (x10<(x1.length:Int)))=true then(idx x1 x10).bind fun x23=>(iter (fun s=>tw x23 x4 s.1 s.2.1 s.2.2.1 s.2.2.2.1 s.2.2.2.2) (0,x10,x13,x14,x15)).bind fun z=>match z with| .next p=>aec x10 p.1 p.2.1 p.2.2.1 p.2.2.2| .done r=>some r else some (.inr (.next (x12,x13,x14,x15))))
def al5 (x1:List (List B5)):Ty53:=(adf x1).bind fun(x4,x5)=>(if(x5.Code != 0)=true then some (.ok ([],x5))else(ahg x4).bind fun x7=>(if(x7.Code != 0)=true then some (.ok ([],x7))else(iter (fun s=>q8 x1 x4 s.1 s.2.1 s.2.2.1 s.2.2.2.1 s.2.2.2.2) (0,0,[],0,[])).bind fun z=>match z with| .next p=>aed p.1 p.2.1 p.2.2.1 p.2.2.2| .done r=>some r))
def afp (x1:List (List B5)):Ty50:=(al5 x1).bind fun z=>match z with| .ok a=>some a| .bad m=>some ([],m.m)
def ji (x417:Bool):Ty12:=some x417
def agh :Option (Bool):=(acx ([99,108,97,115,115,32,65,123,105,110,116,32,102,59,105,110,116,32,109,40,65,32,97,41,123,114,101,116,117,114,110,32,97,46,102,59,125,125]:Bt)).bind fun(x1,x2)=>(afp ([x1]:List (List B5))).bind fun(x4,x5)=>(avi x4 0 34).bind fun(x7,x8)=>(zt ([x1]:List (List B5))).bind fun(x9,x10)=>(u9 (B6.mk x9 ([65]:Bt) false []) (B5.mk 17 ([102]:Bt) [] 0 0 0 0 0 [])).bind fun(x13,x14)=>(if(x5.Code==0)=true then(if((x4.length:Int)==7)=true then(idx x4 5).bind fun x18=>(if(x18.Id==([65,46,109,40,41,35,48]:Bt))=true then(if(x7==([65,46,102]:Bt))=true then(if x8=true then(ajh x4 ([65]:Bt)).bind fun x22=>(if((x22.length:Int)==2)=true then(if(x14==0)=true then(if(x13.Id==([65,46,102]:Bt))=true then(ah8 (B6.mk x9 ([65]:Bt) false []) (B5.mk 16 [] [] 0 0 0 0 0 [])).bind fun x26=>ji (x26==([65]:Bt))else ji false)else ji false)else ji false)else ji false)else ji false)else ji false)else ji false)else ji false)
def l4 (x31:Bool):Ty12:=some x31
def sy (x5:List (List B5)) (x2:Bt) (x10:List (List B5)):Ty12:=(afp x5).bind fun(x18,x19)=>(afp x10).bind fun(x21,x22)=>(if((x19.Code==0)==(x22.Code==0))=true then(if((x18.length:Int)==(x21.length:Int))=true then(ajh x18 x2).bind fun x26=>(ajh x21 x2).bind fun x27=>l4 ((x26.length:Int)==(x27.length:Int))else l4 false)else l4 false)
def je (x5:List (List B5)) (x9:Int) (x10:List (List B5)):Option ((Int × (List (List B5))) ⊕ ((List (List B5)))):=(if(decide (x9≥0))=true then(idx x5 x9).bind fun x15=>(app 24 x10 ([x15]:List (List B5))).bind fun x16=>some (.inl (w64 (x9 - 1),x16))else some (.inr x10))
def zb (x1:List Bt) (x2:Bt):Ty12:=(agh).bind fun x3=>(if(!x3)=true then some false else(abn x1).bind fun(x5,x6)=>(if(!x6)=true then some true else(iter (fun s=>je x5 s.1 s.2) (w64 ((x5.length:Int) - 1),[])).bind fun p=>sy x5 x2 p))
def qn (x15:Bool) (x2:List Bt) (x9 x16:Int) (x1:List A9) (x20:Bool):Option ((Bool × Int) ⊕ (Bool)):=(if x20=true then(if x15=true then(idx x2 x9).bind fun x23=>(idx x2 x16).bind fun x24=>(ag9 x1 x23 x24).bind fun x25=>(idx x2 x9).bind fun x26=>(idx x2 x16).bind fun x27=>(ahb x1 x26 x27).bind fun x28=>(if(x25==x28)=true then(idx x2 0).bind fun x30=>(idx x2 x9).bind fun x31=>(idx x2 x16).bind fun x32=>(aet x1 x30 x31 x32).bind fun x33=>(idx x2 0).bind fun x34=>(idx x2 x9).bind fun x35=>(idx x2 x16).bind fun x36=>(aew x1 x34 x35 x36).bind fun x37=>some (.inl (x33==x37,w64 (x16+1)))else some (.inl (false,w64 (x16+1))))else some (.inl (false,w64 (x16+1))))else some (.inr x15))
def ky (x2:List Bt) (x9:Int) (x1:List A9) (x15:Bool) (x16:Int):Option ((Bool × Int) ⊕ (Bool)):=(if(decide (x16<(x2.length:Int)))=true then qn x15 x2 x9 x16 x1 (decide (x16<9))else qn x15 x2 x9 x16 x1 false)
end
end Go.Proofs.YtcndghapmoaidaaGreatDoor
