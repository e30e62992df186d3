/- The data of the program, and its functions over plain data (printed by wip/gen/gen.py). -/
import Derived.Lib.ItoaNum
import Derived.Test.YtcndghapmoaidaaGreatDoorZJ
set_option linter.unusedSimpArgs false
set_option linter.unusedVariables false
set_option linter.unusedSectionVars false
namespace Go.Proofs.YtcndghapmoaidaaGreatDoor
noncomputable section
open Go Go.Cn
def mn (n b:Int):Option Bt:=if b=10/\ -9223372036854775808<=n/\n<=9223372036854775807 then some (Lib.itoa n)else none
def ame (m:SMap Bool):Option (SMap Bool):=some m
end
end Go.Proofs.YtcndghapmoaidaaGreatDoor
set_option linter.unusedSectionVars false
set_option maxRecDepth 100000
set_option maxHeartbeats 4000000
namespace Go.Proofs.YtcndghapmoaidaaGreatDoor
noncomputable section
open Go Go.Cn
structure B0 where
 Kind:Int
 Id:Bt
 Name:Bt
 Owner:Bt
 Type_:Bt
 Static:Bool
 Params:List Bt
 File:Int
 At:Int
 deriving DecidableEq
structure B3 where
 kind:Int
 owner:Bt
 name:Bt
 deriving DecidableEq
structure B4 where
 Code:Int
 File:Int
 At:Int
 deriving DecidableEq
structure B5 where
 l:List B0
 known:GMap B3 Bool
 m:B4
 deriving DecidableEq
structure B6 where
 Kind:Int
 Text:Bt
 Type_:Bt
 N:Int
 From:Int
 To:Int
 At:Int
 TypeAt:Int
 Kids:List B6
structure B7 where
 Table:List B0
 Class:Bt
 Static:Bool
 Seen:List B0
 deriving DecidableEq
structure B8 where
 File:Int
 At:Int
 Id:Bt
 deriving DecidableEq
structure B9 where
 uses:List B8
 file:Int
 method:Bt
 many:Int
 deriving DecidableEq
structure C5 where
 m:B4
 deriving DecidableEq
structure C6 where
 Kind:Int
 Text:Bt
 At:Int
 Lead:Bt
 deriving DecidableEq
structure C7 where
 Place:Int
 Code:Int
 deriving DecidableEq
structure Ref17State where
 L:List B8
 M:B4
 File:Int
 Method:Bt
 Many:Int
 deriving DecidableEq
structure Ref17Scope where
 Table:List B0
 Class:Bt
 Static:Bool
 Seen:List B0
 deriving DecidableEq
structure C8 where
 Scope:B7
 kind:Bt
 file:Int
 deriving DecidableEq
structure D0 where
 m:B4
 deriving DecidableEq
structure Ref18Place where
 S:Ref17Scope
 Type_:Bt
 File:Int
 deriving DecidableEq
structure D3 where
 l:Value
 known:Value
 m:B4
structure D4 where
 Kind:Int
 Id:Bt
 Name:Bt
 Owner:Bt
 Type_:Bt
 Static:Bool
 Params:Value
 File:Int
 At:Int
structure D5 where
 uses:Value
 file:Int
 method:Bt
 many:Int
structure Ref17StateRaw where
 L:Value
 M:B4
 File:Int
 Method:Bt
 Many:Int
def y6 (l:List B0):Option (List B0):=app 120 [] l
def pz (x1 x2:Int) (x4:B5):Option (B5):=some (B5.mk x4.l x4.known (B4.mk 150 x1 x2))
abbrev Ty0 :Type:=Option (Bool × B5)
def u4 (x1:B0) (x3:B5) (x11:List B0):Ty0:=some (true,(B5.mk x11 (gset (B3.mk x1.Kind x1.Owner x1.Name) true x3.known) x3.m))
def uz (x3:B5) (x1:B0):Ty0:=(app 120 x3.l ([x1]:List B0)).bind fun x11=>u4 x1 x3 x11
def uy (x1:B0) (x3:B5):Ty0:=(if(gget (B3.mk x1.Kind x1.Owner x1.Name) false x3.known)=true then(pz x1.File x1.At x3).bind fun x9=>some (false,x9)else uz x3 x1)
def pa (x1:B0) (x3:B5):Ty0:=uy x1 x3
abbrev Ty1 :Type:=Option (Bt)
def vf (x1:Bt):Ty1:=some x1
def yq (x1 x2:Bt):Ty1:=(cat x1 ([46]:Bt)).bind fun x3=>(cat x3 x2).bind fun x4=>some x4
def vl (x1 x2:Bt):Ty1:=(yq x1 x2).bind fun x3=>(cat x3 ([40,41]:Bt)).bind fun x4=>some x4
def qt (x1:Int):Ty1:=(mn x1 10).bind fun x2=>some x2
def afa (x1:Int):Ty1:=(qt x1).bind fun x2=>some x2
def ve (x1:Bt) (x2:Int):Ty1:=(cat x1 ([35]:Bt)).bind fun x3=>(afa (if 0>x2 then 0 else x2)).bind fun x4=>(cat x3 x4).bind fun x5=>some x5
def od (x1:B6) (x3:List B0) (x6:B0):Option ((List B0) × B0):=(ve x6.Id (x3.length:Int)).bind fun x9=>(app 120 x3 ([(B0.mk 4 x9 x1.Text x6.Id x1.Type_ false [] x6.File x1.At)]:List B0)).bind fun x10=>some (x10,x6)
abbrev l8 (σ:Type):Type:=B6->(σ)->Option (Bool × (σ))
def aiy {σ:Type} (yld:σ->B6->Option (Bool × σ)) (R:l8 σ) (x10:σ):Option (Bool × (σ)):=some (true,x10)
def sx {σ:Type} (yld:σ->B6->Option (Bool × σ)) (R:l8 σ) (x1:B6) (x9:Int) (x10:σ):Option ((Int × (σ)) ⊕ (Flow (σ) (Bool × (σ)))):=(if(decide (x9<(x1.Kids.length:Int)))=true then(idx x1.Kids x9).bind fun x16=>(R x16 x10).bind fun(x18,x19)=>(if(!x18)=true then some (.inr (.done (false,x19)))else some (.inl (w64 (x9+1),x19)))else some (.inr (.next x10)))
def aer {σ:Type} (yld:σ->B6->Option (Bool × σ)) (R:l8 σ) (x1:B6) (x2:σ):Option (Bool × (σ)):=(yld x2 x1).bind fun(x5,x6)=>(if(!x5)=true then some (false,x6)else(iter (fun s=>sx yld R x1 s.1 s.2) (0,x6)).bind fun z=>match z with| .next p=>aiy yld R p| .done r=>some r)
def aln {σ:Type} (yld:σ->B6->Option (Bool × σ)) (R:l8 σ):l8 σ:=(fun x1 x2=>aer yld R x1 x2)
def oa {σ:Type} (yld:σ->B6->Option (Bool × σ)) (n:Nat):l8 σ:=Nat.rec (motive:=fun _=>l8 σ) (fun x1 x2=>none) (fun _ R=>aln yld R) n
def aom {σ:Type} (yld:σ->B6->Option (Bool × σ)) (x1:B6) (x2:σ):Option (Bool × (σ)):=oa yld 1048576 x1 x2
def afi {σ:Type} (yld:σ->B6->Option (Bool × σ)) (x2:B6) (x3:σ):Option (B6 × (σ)):=(aom yld x2 x3).bind fun(x5,x6)=>some (x2,x6)
def aem (x9:List B6) (x7:B6) (x14:Bool):Option (Bool × ((List B6))):=(if x14=true then(app 104 x9 ([(B6.mk 0 [] [] 0 0 0 0 0 [])]:List B6)).bind fun x256=>(idx x256 (x9.length:Int)).bind fun x316=>some (true,(List.set x256 (Int.toNat (x9.length:Int)) x7))else some (true,x9))
def ael (x2:Int) (x9:List B6) (x7:B6):Option (Bool × ((List B6))):=(if(x2==0)=true then aem x9 x7 true else aem x9 x7 (x7.Kind==x2))
abbrev Ty2 :Type:=Option ((List B6))
def akx (x1:B6) (x2:Int):Ty2:=(afi (fun(s:(List B6)) (a:B6)=>ael x2 s a) x1 []).bind fun(x496,x497)=>some x497
abbrev gh :Type:=(B6->(SMap Bool)->Option (B6 × Bool))
def agk (R:gh) (x9:SMap Bool):Option (B6 × Bool):=some ((B6.mk 0 [] [] 0 0 0 0 0 []),false)
abbrev Ty3 :Type:=Option ((Int × (SMap Bool)) ⊕ (Flow (SMap Bool) (B6 × Bool)))
def xp (R:gh) (x8:Int) (x25:SMap Bool) (x13 x20:B6):Ty3:=some (.inl (w64 (x8+1),x25))
def xo (R:gh) (x13:B6) (x9:SMap Bool) (x16:Bool) (x8:Int) (x18:Bool):Ty3:=(if x18=true then some (.inr (.done (x13,true)))else(R x13 x9).bind fun(x20,x21)=>(if x21=true then some (.inr (.done (x20,true)))else(if x16=true then xp R x8 (mset x13.Text true x9) x13 x20 else xp R x8 x9 x13 x20)))
def ul (R:gh) (x13:B6) (x9:SMap Bool) (x8:Int) (x16:Bool):Ty3:=(if x16=true then xo R x13 x9 x16 x8 (mget x13.Text false x9)else xo R x13 x9 x16 x8 false)
def ov (R:gh) (x1:B6) (x8:Int) (x9:SMap Bool):Ty3:=(if(decide (x8<(x1.Kids.length:Int)))=true then(idx x1.Kids x8).bind fun x13=>(if(x13.Kind==4)=true then ul R x13 x9 x8 true else ul R x13 x9 x8 (x13.Kind==6))else some (.inr (.next x9)))
def zx (R:gh) (x1:B6) (x3:SMap Bool):Option (B6 × Bool):=(ame x3).bind fun x6=>(iter (fun s=>ov R x1 s.1 s.2) (0,x6)).bind fun z=>match z with| .next p=>agk R p| .done r=>some r
def aju (R:gh):gh:=(fun x1 x3=>zx R x1 x3)
def kw (n:Nat):gh:=Nat.rec (motive:=fun _=>gh) (fun x1 x3=>none) (fun _ R=>aju R) n
def akj (x1:B6) (x3:SMap Bool):Option (B6 × Bool):=(kw 1048576) x1 x3
def qw (x1:B6) (x21:Int) (x76:B5) (x79:List B0):Ty0:=(akj x1 ([]:SMap Bool)).bind fun(x82,x83)=>(if x83=true then(pz x21 x82.At (B5.mk x79 x76.known x76.m)).bind fun x86=>some (false,x86)else some (true,(B5.mk x79 x76.known x76.m)))
def qv (x14:Int) (x15 x16 x17 x18:Bt) (x19:Bool) (x21 x22:Int) (x3:B5) (x25:List B0) (x1:B6) (x63:List Bt):Ty0:=(pa (B0.mk x14 x15 x16 x17 x18 x19 x63 x21 x22) x3).bind fun(x75,x76)=>(if(!x75)=true then some (false,x76)else(app 120 x76.l x25).bind fun x79=>qw x1 x21 x76 x79)
abbrev Ty4 :Type:=Option ((Int × (List Bt)) ⊕ ((List Bt)))
def nh (x61:Int) (x74:List Bt) (x68:B6):Ty4:=some (.inl (w64 (x61+1),x74))
def jy (x1:B6) (x61:Int) (x63:List Bt):Ty4:=(if(decide (x61<(x1.Kids.length:Int)))=true then(idx x1.Kids x61).bind fun x68=>(if(x68.Kind==4)=true then(app 16 x63 ([x68.Type_]:List Bt)).bind fun x71=>nh x61 x71 x68 else nh x61 x63 x68)else some (.inr x63))
def qu (x1:B6) (x3:B5) (x24:List Bt) (x14:Int) (x15 x16 x17 x18:Bt) (x19:Bool) (x21 x22:Int) (x25:List B0):Ty0:=(iter (fun s=>jy x1 s.1 s.2) (0,x24)).bind fun p=>qv x14 x15 x16 x17 x18 x19 x21 x22 x3 x25 x1 p
abbrev Ty5 :Type:=Option ((Int × Int × Bt × Bt × Bt × Bt × Bool × Int × Int × (List Bt) × (List B0)) ⊕ ((List Bt) × Int × Bt × Bt × Bt × Bt × Bool × Int × Int × (List B0)))
def ng (x13 x50:Int) (x51 x52 x53 x54:Bt) (x55:Bool) (x57 x58:Int) (x59:List B0) (x60:List Bt) (x40:B6):Ty5:=some (.inl (w64 (x13+1),x50,x51,x52,x53,x54,x55,x57,x58,x60,x59))
def lp (x40:B6) (x25:List B0) (x14:Int) (x15 x16 x17 x18:Bt) (x19:Bool) (x24:List Bt) (x21 x22 x13:Int) (x43:Bool):Ty5:=(if x43=true then(od x40 x25 (B0.mk x14 x15 x16 x17 x18 x19 x24 x21 x22)).bind fun(x45,x47)=>ng x13 x47.Kind x47.Id x47.Name x47.Owner x47.Type_ x47.Static x47.File x47.At x45 x47.Params x40 else ng x13 x14 x15 x16 x17 x18 x19 x21 x22 x25 x24 x40)
def jx (x12:List B6) (x13 x14:Int) (x15 x16 x17 x18:Bt) (x19:Bool) (x21 x22:Int) (x24:List Bt) (x25:List B0):Ty5:=(if(decide (x13<(x12.length:Int)))=true then(idx x12 x13).bind fun x40=>(if(x40.Kind==4)=true then lp x40 x25 x14 x15 x16 x17 x18 x19 x24 x21 x22 x13 true else lp x40 x25 x14 x15 x16 x17 x18 x19 x24 x21 x22 x13 (x40.Kind==6))else some (.inr (x24,x14,x15,x16,x17,x18,x19,x21,x22,x25)))
def qh (x1:B6) (x3:B5) (x6:B0):Ty0:=(vl x6.Owner x6.Name).bind fun x10=>(akx x1 0).bind fun x12=>(iter (fun s=>jx x12 s.1 s.2.1 s.2.2.1 s.2.2.2.1 s.2.2.2.2.1 s.2.2.2.2.2.1 s.2.2.2.2.2.2.1 s.2.2.2.2.2.2.2.1 s.2.2.2.2.2.2.2.2.1 s.2.2.2.2.2.2.2.2.2.1 s.2.2.2.2.2.2.2.2.2.2) (0,3,x10,x6.Name,x6.Owner,x6.Type_,x6.Static,x6.File,x6.At,x6.Params,[])).bind fun p=>qu x1 x3 p.1 p.2.1 p.2.2.1 p.2.2.2.1 p.2.2.2.2.1 p.2.2.2.2.2.1 p.2.2.2.2.2.2.1 p.2.2.2.2.2.2.2.1 p.2.2.2.2.2.2.2.2.1 p.2.2.2.2.2.2.2.2.2
def wu (x15:B4) (x17:List B0) (x16:GMap B3 Bool):Ty0:=some (true,(B5.mk x17 x16 x15))
abbrev Ty6 :Type:=Option ((Int × B4 × (GMap B3 Bool) × (List B0)) ⊕ (Flow (B4 × (List B0) × (GMap B3 Bool)) (Bool × B5)))
def kn (x13:Int) (x43:Bool) (x45:B4) (x46:GMap B3 Bool) (x47:List B0):Ty6:=(if x43=true then some (.inr (.done (false,(B5.mk x47 x46 x45))))else some (.inl (w64 (x13+1),x45,x46,x47)))
def km (x24:B6) (x26 x27:Bt) (x1 x13:Int) (x33:Bool) (x35:B4) (x36:GMap B3 Bool) (x37:List B0):Ty6:=(if x33=true then some (.inr (.done (false,(B5.mk x37 x36 x35))))else(if(x24.Kind==3)=true then(qh x24 (B5.mk x37 x36 x35) (B0.mk 2 x26 x24.Text x27 x24.Type_ (x24.N==1) [] x1 x24.At)).bind fun(x40,x41)=>kn x13 (!x40) x41.m x41.known x41.l else kn x13 false x35 x36 x37))
def rk (x24:B6) (x1:Int) (x17:List B0) (x16:GMap B3 Bool) (x15:B4) (x13:Int) (x26 x27:Bt):Ty6:=(if(x24.Kind==2)=true then(pa (B0.mk 2 x26 x24.Text x27 x24.Type_ (x24.N==1) [] x1 x24.At) (B5.mk x17 x16 x15)).bind fun(x30,x31)=>km x24 x26 x27 x1 x13 (!x30) x31.m x31.known x31.l else km x24 x26 x27 x1 x13 false x15 x16 x17)
def kl (x2:B6) (x1 x13:Int) (x15:B4) (x16:GMap B3 Bool) (x17:List B0):Ty6:=(if(decide (x13<(x2.Kids.length:Int)))=true then(idx x2.Kids x13).bind fun x24=>(yq x2.Text x24.Text).bind fun x26=>(vf x2.Text).bind fun x27=>rk x24 x1 x17 x16 x15 x13 x26 x27 else some (.inr (.next (x15,x17,x16))))
def oe (x2:B6) (x1:Int) (x9:Bool) (x10:B5):Ty0:=(if(!x9)=true then some (false,x10)else(iter (fun s=>kl x2 x1 s.1 s.2.1 s.2.2.1 s.2.2.2) (0,x10.m,x10.known,x10.l)).bind fun z=>match z with| .next p=>wu p.1 p.2.1 p.2.2| .done r=>some r)
def se (x1:Int) (x2:B6) (x4:B5):Ty0:=(vf x2.Text).bind fun x8=>(pa (B0.mk 1 x8 x2.Text [] x2.Type_ false [] x1 x2.At) x4).bind fun(x9,x10)=>oe x2 x1 x9 x10
abbrev Ty7 :Type:=Option ((List B0) × B4)
def agl (x6:GMap B3 Bool) (x8:B4) (x9:List B0):Ty7:=some (x9,(B4.mk 0 0 0))
abbrev Ty8 :Type:=Option ((Int × (GMap B3 Bool) × B4 × (List B0)) ⊕ (Flow ((GMap B3 Bool) × B4 × (List B0)) ((List B0) × B4)))
def ace (x5:Int) (x18:GMap B3 Bool) (x20:B4) (x21:List B0):Ty8:=some (.inl (w64 (x5+1),x18,x20,x21))
abbrev Ty9 :Type:=Option ((Int × (GMap B3 Bool) × B4 × (List B0)) ⊕ (Flow ((GMap B3 Bool) × B4 × (List B0)) ((Int × (GMap B3 Bool) × B4 × (List B0)) ⊕ (Flow ((GMap B3 Bool) × B4 × (List B0)) ((List B0) × B4)))))
def acf (x36:B4):Ty9:=some (.inr (.done (.inr (.done ([],x36)))))
def rg (x17:Int) (x34:Bool) (x36:B4) (x37:GMap B3 Bool) (x38:List B0):Ty9:=(if x34=true then acf x36 else some (.inl (w64 (x17+1),x37,x36,x38)))
def rf (x16:List B6) (x5 x17:Int) (x18:GMap B3 Bool) (x20:B4) (x21:List B0):Ty9:=(if(decide (x17<(x16.length:Int)))=true then(idx x16 x17).bind fun x28=>(if(x28.Kind==1)=true then(se x5 x28 (B5.mk x21 x18 x20)).bind fun(x31,x32)=>rg x17 (!x31) x32.m x32.known x32.l else rg x17 false x20 x18 x21)else some (.inr (.next (x18,x20,x21))))
def ow (x1:List (List B6)) (x5:Int) (x6:GMap B3 Bool) (x8:B4) (x9:List B0):Ty8:=(if(decide (x5<(x1.length:Int)))=true then(idx x1 x5).bind fun x16=>(iter (fun s=>rf x16 x5 s.1 s.2.1 s.2.2.1 s.2.2.2) (0,x6,x8,x9)).bind fun z=>match z with| .next p=>ace x5 p.1 p.2.1 p.2.2| .done r=>some r else some (.inr (.next (x6,x8,x9))))
def aa1 (x1:List (List B6)):Ty7:=(iter (fun s=>ow x1 s.1 s.2.1 s.2.2.1 s.2.2.2) (0,([]:GMap B3 Bool),(B4.mk 0 0 0),[])).bind fun z=>match z with| .next p=>agl p.1 p.2.1 p.2.2| .done r=>some r
def ai0 :Option (B0 × Bool):=some ((B0.mk 0 [] [] [] [] false [] 0 0),false)
abbrev Ty10 :Type:=Option ((Int) ⊕ (Flow Unit (B0 × Bool)))
def acy (x7:B0) (x4:Int) (x10:Bool):Ty10:=(if x10=true then some (.inr (.done (x7,true)))else some (.inl (w64 (x4+1))))
def vi (x1:List B0) (x2:Bt) (x4:Int):Ty10:=(if(decide (x4<(x1.length:Int)))=true then(idx x1 x4).bind fun x7=>(if(x7.Kind==1)=true then acy x7 x4 (x7.Id==x2)else acy x7 x4 false)else some (.inr (.next ())))
abbrev Ty11 :Type:=Option (B0 × Bool)
def aee (x1:List B0) (x2:Bt):Ty11:=(iter (fun s=>vi x1 x2 s) 0).bind fun z=>match z with| .next p=>ai0| .done r=>some r
def rd {σ:Type} (yld:σ->B0->Option (Bool × σ)) (x2:List B0) (x8:Bt) (x16:B0) (x11:SMap Bool) (x28:Bool) (x29:σ):Option ((Bt × (σ) × (SMap Bool)) ⊕ ((List B0) × Bt × (σ))):=(if x28=true then some (.inr (x2,x8,x29))else some (.inl (x16.Type_,x29,(mset x8 true x11))))
def lw {σ:Type} (yld:σ->B0->Option (Bool × σ)) (x2:List B0) (x8:Bt) (x9:σ) (x11:SMap Bool):Option ((Bt × (σ) × (SMap Bool)) ⊕ ((List B0) × Bt × (σ))):=(aee x2 x8).bind fun(x16,x17)=>(if(!x17)=true then rd yld x2 x8 x16 x11 true x9 else(if(mget x8 false x11)=true then rd yld x2 x8 x16 x11 true x9 else(yld x9 x16).bind fun(x21,x22)=>rd yld x2 x8 x16 x11 (!x21) x22))
def aa0 {σ:Type} (yld:σ->B0->Option (Bool × σ)) (x2:List B0) (x4:Bt) (x5:σ):Option ((List B0) × Bt × (σ)):=iter (fun s=>lw yld x2 s.1 s.2.1 s.2.2) (x4,x5,([]:SMap Bool))
def vk (x3:Bt) (x8:B0):Option (Bool × ((Unit) ⊕ (B0))):=(if(x8.Id==x3)=true then some (false,.inr x8)else some (true,.inl ()))
abbrev Ty12 :Type:=Option (Bool)
def ag1 (x1:List B0) (x2 x3:Bt):Ty12:=(aa0 (yldX (fun(s:Unit) (a:B0)=>vk x3 a)) x1 x2 (.inl ())).bind fun(x11,x12,x15)=>match x15 with| .inl x13=>some false| .inr x16=>some true
def amg :Option (Bool × ((Unit) ⊕ (B0 × B0))):=some (true,.inl ())
abbrev Ty13 :Type:=Option ((Int) ⊕ (Flow Unit (Bool × ((Unit) ⊕ (B0 × B0)))))
def ag6 (x16 x11:B0) (x13:Int) (x20:Bool):Ty13:=(if x20=true then some (.inr (.done (false,.inr (x16,x11))))else some (.inl (w64 (x13+1))))
def aaw (x1:List B0) (x11:B0) (x3:(B0->Option Bool)) (x13:Int):Ty13:=(if(decide (x13<(x1.length:Int)))=true then(idx x1 x13).bind fun x16=>(if(x16.Owner==x11.Id)=true then(x3 x16).bind fun x19=>ag6 x16 x11 x13 x19 else ag6 x16 x11 x13 false)else some (.inr (.next ())))
def y0 (x1:List B0) (x3:(B0->Option Bool)) (x11:B0):Option (Bool × ((Unit) ⊕ (B0 × B0))):=(iter (fun s=>aaw x1 x11 x3 s) 0).bind fun z=>match z with| .next p=>amg| .done r=>some r
def ag5 :Option (B0 × Bool):=some ((B0.mk 0 [] [] [] [] false [] 0 0),false)
def ag4 (x27:B0 × B0):Ty11:=some (x27.1,true)
def al4 (x1:List B0) (x2:Bt) (x3:(B0->Option Bool)):Ty11:=(aa0 (yldX (fun(s:Unit) (a:B0)=>y0 x1 x3 a)) x1 x2 (.inl ())).bind fun(x22,x23,x26)=>match x26 with| .inl x24=>ag5| .inr x27=>ag4 x27
def xn (x5:Bool):Ty12:=some x5
def aen (x1:B0) (x2:Bt):Ty12:=(if(x1.Kind==2)=true then xn (x1.Name==x2)else xn false)
def w4 (x1:List B0) (x2 x3:Bt):Ty11:=(al4 x1 x2 (fun a0=>aen a0 x3)).bind fun(x6,x7)=>some (x6,x7)
def vt (x5:Bool):Ty12:=some x5
def acz (x1:B0) (x2:Bt):Ty12:=(if(x1.Kind==3)=true then vt (x1.Name==x2)else vt false)
def wj (x1:List B0) (x2 x3:Bt):Ty11:=(al4 x1 x2 (fun a0=>acz a0 x3)).bind fun(x6,x7)=>some (x6,x7)
def ob :Option (Bool):=some true
abbrev Ty14 :Type:=Option ((Int) ⊕ (Flow Unit Bool))
def lc (x4:Int) (x7 x8:Bt):Ty14:=(if(!(x7==x8))=true then some (.inr (.done false))else some (.inl (w64 (x4+1))))
def fi (x1 x2:List Bt) (x4:Int):Ty14:=(if(decide (x4<(x1.length:Int)))=true then(idx x1 x4).bind fun x7=>(idx x2 x4).bind fun x8=>lc x4 x7 x8 else some (.inr (.next ())))
def kh (x1 x2:List Bt):Ty12:=(if((x1.length:Int) != (x2.length:Int))=true then some false else(iter (fun s=>fi x1 x2 s) 0).bind fun z=>match z with| .next p=>ob| .done r=>some r)
def y8 (x10:Bool):Ty12:=some x10
def ak4 (x1 x2:B0):Ty12:=(if(x1.Type_==x2.Type_)=true then(if(x1.Static==x2.Static)=true then(kh x1.Params x2.Params).bind fun x7=>y8 x7 else y8 false)else y8 false)
def vh :Option (Int):=some 0
abbrev Ty15 :Type:=Option (Int)
def y7 (x17:Bool):Ty15:=(if x17=true then some 160 else vh)
def acx (x30:Bool):Ty15:=(if x30=true then some 161 else vh)
def acw (x2:B0) (x1:List B0) (x4:B0) (x8:Bool):Ty15:=(if x8=true then some 0 else(if(x2.Kind==1)=true then(aee x1 x2.Type_).bind fun(x11,x12)=>(if(!(x2.Type_==[]))=true then(if(!x12)=true then y7 true else(ag1 x1 x2.Type_ x2.Id).bind fun x16=>y7 x16)else y7 false)else(if(x2.Kind==2)=true then(w4 x1 x4.Type_ x2.Name).bind fun(x20,x21)=>(if x21=true then some 162 else vh)else(if(x2.Kind==3)=true then(wj x1 x4.Type_ x2.Name).bind fun(x25,x26)=>(if x26=true then(ak4 x25 x2).bind fun x29=>acx (!x29)else acx false)else vh))))
def ain (x1:List B0) (x2:B0):Ty15:=(aee x1 x2.Owner).bind fun(x4,x5)=>(if(x2.Kind != 1)=true then acw x2 x1 x4 (!x5)else acw x2 x1 x4 false)
def ai4 :Option (B4):=some (B4.mk 0 0 0)
def vj (x1:List B0) (x3:Int):Option ((Int) ⊕ (Flow Unit B4)):=(if(decide (x3<(x1.length:Int)))=true then(idx x1 x3).bind fun x6=>(ain x1 x6).bind fun x8=>(if(x8 != 0)=true then some (.inr (.done (B4.mk x8 x6.File x6.At)))else some (.inl (w64 (x3+1))))else some (.inr (.next ())))
abbrev Ty16 :Type:=Option (B4)
def aio (x1:List B0):Ty16:=(iter (fun s=>vj x1 s) 0).bind fun z=>match z with| .next p=>ai4| .done r=>some r
def lb :Option (Int):=some (-1)
abbrev Ty17 :Type:=Option ((Int) ⊕ (Flow Unit Int))
def fh (x1:List Bt) (x2:Bt) (x3:Int):Ty17:=(if(decide (x3<(x1.length:Int)))=true then(idx x1 x3).bind fun x6=>(if(x2==x6)=true then some (.inr (.done x3))else some (.inl (w64 (x3+1))))else some (.inr (.next ())))
def ml (x1:List Bt) (x2:Bt):Ty15:=(iter (fun s=>fh x1 x2 s) 0).bind fun z=>match z with| .next p=>lb| .done r=>some r
def fj (x1:List Bt) (x2:Bt):Ty12:=(ml x1 x2).bind fun x3=>some (decide (x3≥0))
abbrev Ty18 :Type:=Option (B0 × Int)
def nf (x1:B7) (x2:B0) (x3:Bool):Ty18:=(if(!x3)=true then some ((B0.mk 0 [] [] [] [] false [] 0 0),170)else some (x2,0))
def yu :Option (B0 × Bool):=some ((B0.mk 0 [] [] [] [] false [] 0 0),false)
def pj (x8:B0) (x5:Int) (x11:Bool):Ty10:=(if x11=true then some (.inr (.done (x8,true)))else some (.inl (w64 (x5+1))))
def li (x1:B7) (x2:Bt) (x5:Int):Ty10:=(if(decide (x5<(x1.Table.length:Int)))=true then(idx x1.Table x5).bind fun x8=>(if(x8.Kind==1)=true then pj x8 x5 (x8.Id==x2)else pj x8 x5 false)else some (.inr (.next ())))
def la (x1:B7) (x2:Bt):Ty11:=(iter (fun s=>li x1 x2 s) 0).bind fun z=>match z with| .next p=>yu| .done r=>some r
abbrev Ty19 :Type:=Option (PX C5 B9)
def mv (x1 x2:Int) (x4:B9):Ty19:=(if(x1 != 0)=true then some (.bad (C5.mk (B4.mk x1 x4.file x2)))else some (.ok x4))
def pb (x1:Int) (x2:Bt) (x4:B9):Option (B9):=(app 32 x4.uses ([(B8.mk x4.file x1 x2)]:List B8)).bind fun x6=>some (B9.mk x6 x4.file x4.method x4.many)
def tj (x2:B6) (x4:B9) (x15:Int) (x14:B0):Ty19:=(l4 (mv x15 x2.TypeAt x4) (fun m21=>some (.bad m21)) fun x17=>(pb x2.TypeAt x14.Id x17).bind fun x19=>some (.ok x19))
def mz (x4:B9) (x1:B7) (x2:B6) (x10:Bool):Ty19:=(if x10=true then some (.ok x4)else(la x1 x2.Type_).bind fun(x12,x13)=>(nf x1 x12 x13).bind fun(x14,x15)=>tj x2 x4 x15 x14)
def t7 (x1:B7) (x2:B6) (x4:B9):Ty19:=(if(decide (x2.TypeAt<0))=true then mz x4 x1 x2 true else(fj ([([105,110,116]:Bt),([98,111,111,108,101,97,110]:Bt),([118,111,105,100]:Bt)]:List Bt) x2.Type_).bind fun x9=>mz x4 x1 x2 x9)
def fu {σ:Type} (yld:σ->(Int × B0)->Option (Bool × σ)) (x2:List B0) (x6:σ):Option ((List B0) × (σ)):=some (x2,x6)
def ct {σ:Type} (yld:σ->(Int × B0)->Option (Bool × σ)) (x2:List B0) (x5:Int) (x6:σ):Option ((Int × (σ)) ⊕ (Flow (σ) ((List B0) × (σ)))):=(if(decide (x5≥0))=true then(idx x2 x5).bind fun x12=>(yld x6 (x5,x12)).bind fun(x13,x14)=>(if(!x13)=true then some (.inr (.done (x2,x14)))else some (.inl (w64 (x5 - 1),x14)))else some (.inr (.next x6)))
def fe {σ:Type} (yld:σ->(Int × B0)->Option (Bool × σ)) (x2:List B0) (x3:σ):Option ((List B0) × (σ)):=(iter (fun s=>ct yld x2 s.1 s.2) (w64 ((x2.length:Int) - 1),x3)).bind fun z=>match z with| .next p=>fu yld x2 p| .done r=>some r
def sf (x2:B0) (x9:Bool):Ty18:=(if x9=true then some ((B0.mk 0 [] [] [] [] false [] 0 0),171)else some (x2,0))
def nc (x1:B7) (x2:B0) (x3:Bool):Ty18:=(if(!x3)=true then some ((B0.mk 0 [] [] [] [] false [] 0 0),170)else(if x1.Static=true then sf x2 (!x2.Static)else sf x2 false))
def ky (x2:B6) (x8:Int) (x9:B0):Option (Bool × ((Unit) ⊕ (B0))):=(if(x9.Name==x2.Text)=true then some (false,.inr x9)else some (true,.inl ()))
def qj (x25:B0) (x26:Int):Ty18:=some (x25,x26)
def sb (x1:B7) (x2:B6):Ty18:=(fe (yldX (fun(s:Unit) (a:Int × B0)=>ky x2 a.1 a.2)) x1.Seen (.inl ())).bind fun(x12,x15)=>match x15 with| .inl x13=>(w4 x1.Table x1.Class x2.Text).bind fun(x17,x18)=>(if x18=true then(nc x1 x17 true).bind fun(x21,x22)=>some (x21,x22)else(la x1 x2.Text).bind fun(x23,x24)=>(nf x1 x23 x24).bind fun(x25,x26)=>qj x25 x26)| .inr x16=>some (x16,0)
def u6 (x9:Int) (x8:B0):Ty18:=some (x8,x9)
def vw (x1:B7) (x2:B6):Ty18:=(wj x1.Table x1.Class x2.Text).bind fun(x6,x7)=>(nc x1 x6 x7).bind fun(x8,x9)=>u6 x9 x8
def u5 (x9:Int) (x8:B0):Ty18:=some (x8,x9)
def vv (x1:B7) (x2:B6):Ty18:=(la x1 x2.Text).bind fun(x6,x7)=>(nf x1 x6 x7).bind fun(x8,x9)=>u5 x9 x8
abbrev bj :Type:=(B7->B6->Option (B0 × Int)) × (B7->B6->Option (Bt)) × (B7->B6->Option (B0 × Int)) × (B7->B6->Option (B0 × Int)) × (B7->B6->((List B0)->Bt->Bt->Option (B0 × Bool))->Option (B0 × Int))
def pl (R:bj) (x1:B7) (x2:B6):Ty18:=(if(!(ghas x2.Kind (gset 20 (some 69) (gset 18 (some 68) (gset 21 (some 67) (gset 19 (some 66) (gset 17 (some 65) ([]:GMap Int (Option Nat)))))))))=true then some ((B0.mk 0 [] [] [] [] false [] 0 0),0)else(if decide ((gget x2.Kind none (gset 20 (some 69) (gset 18 (some 68) (gset 21 (some 67) (gset 19 (some 66) (gset 17 (some 65) ([]:GMap Int (Option Nat))))))))=some 65)=true then(sb x1 x2).bind fun(x9,x10)=>some (x9,x10)else(if decide ((gget x2.Kind none (gset 20 (some 69) (gset 18 (some 68) (gset 21 (some 67) (gset 19 (some 66) (gset 17 (some 65) ([]:GMap Int (Option Nat))))))))=some 66)=true then(vw x1 x2).bind fun(x12,x13)=>some (x12,x13)else(if decide ((gget x2.Kind none (gset 20 (some 69) (gset 18 (some 68) (gset 21 (some 67) (gset 19 (some 66) (gset 17 (some 65) ([]:GMap Int (Option Nat))))))))=some 67)=true then(vv x1 x2).bind fun(x15,x16)=>some (x15,x16)else(if decide ((gget x2.Kind none (gset 20 (some 69) (gset 18 (some 68) (gset 21 (some 67) (gset 19 (some 66) (gset 17 (some 65) ([]:GMap Int (Option Nat))))))))=some 68)=true then(R.2.2.1 x1 x2).bind fun(x18,x19)=>some (x18,x19)else(if decide ((gget x2.Kind none (gset 20 (some 69) (gset 18 (some 68) (gset 21 (some 67) (gset 19 (some 66) (gset 17 (some 65) ([]:GMap Int (Option Nat))))))))=some 69)=true then(R.2.2.2.1 x1 x2).bind fun(x21,x22)=>some (x21,x22)else none))))))
def ql (R:bj) (x2:B6) (x1:B7) (x9:Bool):Ty1:=(if x9=true then some ([98,111,111,108,101,97,110]:Bt)else(if(x2.Kind==15)=true then some ([110,117,108,108]:Bt)else(if(x2.Kind==24)=true then(fj ([([43]:Bt),([45]:Bt),([42]:Bt),([47]:Bt),([37]:Bt)]:List Bt) x2.Text).bind fun x13=>(if x13=true then some ([105,110,116]:Bt)else some ([98,111,111,108,101,97,110]:Bt))else(if(x2.Kind==16)=true then(if(!x1.Static)=true then some x1.Class else some [])else(R.1 x1 x2).bind fun(x17,x18)=>(if(x18 != 0)=true then some []else(if(x2.Kind==21)=true then some x17.Id else(if(x17.Kind==1)=true then some []else some x17.Type_)))))))
def qk (R:bj) (x2:B6) (x1:B7) (x6:Bool):Ty1:=(if x6=true then some ([105,110,116]:Bt)else(if(x2.Kind==14)=true then ql R x2 x1 (x2.Kind==14)else ql R x2 x1 (x2.Kind==22)))
def sk (R:bj) (x1:B7) (x2:B6):Ty1:=(if(x2.Kind==13)=true then qk R x2 x1 (x2.Kind==13)else qk R x2 x1 (x2.Kind==23))
def t8 (R:bj) (x1:B7) (x2:B6):Ty18:=(R.2.2.2.2 x1 x2 w4).bind fun(x6,x7)=>some (x6,x7)
def ol (R:bj) (x1:B7) (x2:B6):Ty18:=(R.2.2.2.2 x1 x2 wj).bind fun(x6,x7)=>some (x6,x7)
def rn (R:bj) (x33:Int) (x32:B0):Ty18:=some (x32,x33)
def oj (R:bj) (x3:((List B0)->Bt->Bt->Option (B0 × Bool))) (x1:B7) (x23:B0) (x2:B6) (x27:Bool):Ty18:=(if x27=true then some ((B0.mk 0 [] [] [] [] false [] 0 0),180)else(x3 x1.Table x23.Id x2.Text).bind fun(x30,x31)=>(nc ({x1 with Static:=false}) x30 x31).bind fun(x32,x33)=>rn R x33 x32)
def rm (R:bj) (x3:((List B0)->Bt->Bt->Option (B0 × Bool))) (x1:B7) (x2:B6) (x24:Bool) (x23:B0):Ty18:=(if(!x24)=true then oj R x3 x1 x23 x2 true else oj R x3 x1 x23 x2 (x23.Id==[]))
def md (R:bj) (x1:B7) (x8:B6) (x3:((List B0)->Bt->Bt->Option (B0 × Bool))) (x2:B6):Ty18:=(R.2.1 x1 x8).bind fun x22=>(la x1 x22).bind fun(x23,x24)=>rm R x3 x1 x2 x24 x23
def rl (R:bj) (x21:Int) (x20:B0):Ty18:=some (x20,x21)
def oh (R:bj) (x3:((List B0)->Bt->Bt->Option (B0 × Bool))) (x1:B7) (x11:B0) (x2 x8:B6) (x15:Bool):Ty18:=(if x15=true then(x3 x1.Table x11.Id x2.Text).bind fun(x18,x19)=>(nc ({x1 with Static:=true}) x18 x19).bind fun(x20,x21)=>rl R x21 x20 else md R x1 x8 x3 x2)
def pk (R:bj) (x1:B7) (x2:B6) (x3:((List B0)->Bt->Bt->Option (B0 × Bool))):Ty18:=(if((x2.Kids.length:Int)==0)=true then some ((B0.mk 0 [] [] [] [] false [] 0 0),180)else(idx x2.Kids 0).bind fun x8=>(if(x8.Kind==17)=true then(sb x1 x8).bind fun(x11,x12)=>(if(x12==0)=true then oh R x3 x1 x11 x2 x8 (x11.Kind==1)else oh R x3 x1 x11 x2 x8 false)else md R x1 x8 x3 x2))
def ae5 (R:bj):bj:=((fun x1 x2=>pl R x1 x2),(fun x1 x2=>sk R x1 x2),(fun x1 x2=>t8 R x1 x2),(fun x1 x2=>ol R x1 x2),(fun x1 x2 x3=>pk R x1 x2 x3))
def c5 (n:Nat):bj:=Nat.rec (motive:=fun _=>bj) ((fun x1 x2=>none),(fun x1 x2=>none),(fun x1 x2=>none),(fun x1 x2=>none),(fun x1 x2 x3=>none)) (fun _ R=>ae5 R) n
def sh (x1:B7) (x2:B6):Ty18:=(c5 1048576).1 x1 x2
def k8 (x1:B7) (x2:B6):Ty1:=(c5 1048576).2.1 x1 x2
def jf (x2:B6) (x36:Bt) (x38:Int) (x39:Bt) (x40:Int) (x41:List B8):Ty19:=(pb x2.At x36 (B9.mk x41 x38 x39 x40)).bind fun x42=>some (.ok x42)
def nr (x16:Bt) (x17:Int) (x2:B6) (x15:Int) (x18:List B8) (x1:B7) (x27:Bool):Ty19:=(if x27=true then(ve x16 x17).bind fun x29=>jf x2 x29 x15 x16 x17 x18 else(sh x1 x2).bind fun(x30,x31)=>(l4 (mv x31 x2.At (B9.mk x18 x15 x16 x17)) (fun m35=>some (.bad m35)) fun x33=>jf x2 x30.Id x33.file x33.method x33.many x33.uses))
def nq (x2:B6) (x1:B7) (x15:Int) (x16:Bt) (x17:Int) (x18:List B8):Ty19:=(if(decide (x2.At<0))=true then some (.ok (B9.mk x18 x15 x16 x17))else(if(x2.Kind==1)=true then(vf x2.Text).bind fun x21=>jf x2 x21 x15 x16 x17 x18 else(if(x2.Kind==2)=true then(yq x1.Class x2.Text).bind fun x23=>jf x2 x23 x15 x16 x17 x18 else(if(x2.Kind==3)=true then(vl x1.Class x2.Text).bind fun x25=>jf x2 x25 x15 x16 x17 x18 else(if(x2.Kind==4)=true then nr x16 x17 x2 x15 x18 x1 (x2.Kind==4)else nr x16 x17 x2 x15 x18 x1 (x2.Kind==6))))))
def qi (x2:B6) (x4:B9) (x1:B7) (x9:Bool):Ty19:=(if x9=true then(l4 (mv 171 x2.From x4) (fun m13=>some (.bad m13)) fun x11=>nq x2 x1 x11.file x11.method x11.many x11.uses)else nq x2 x1 x4.file x4.method x4.many x4.uses)
def vu (x1:B7) (x2:B6) (x4:B9):Ty19:=(if(x2.Kind==16)=true then qi x2 x4 x1 x1.Static else qi x2 x4 x1 false)
abbrev cp :Type:=(B7->B6->B9->Option (PX C5 (B7 × B9)))
abbrev Ty20 :Type:=Option (PX C5 (B7 × B9))
def ph (R:cp) (x45:List B8) (x41:Int) (x42:Bt) (x43:Int) (x71:B7):Ty20:=some (.ok (x71,(B9.mk x45 x41 x42 x43)))
def tg (R:cp) (x31:Bool) (x1:B7) (x32:Bt) (x2:B6) (x28:B9) (x41:Int) (x42:Bt) (x43:Int) (x45:List B8) (x44:B7):Ty20:=(if x31=true then(y6 x1.Seen).bind fun x67=>(app 120 x67 ([(B0.mk 4 x32 x2.Text x28.method x2.Type_ false [] x28.file x2.At)]:List B0)).bind fun x69=>ph R x45 x41 x42 x43 ({x1 with Seen:=x69})else ph R x45 x41 x42 x43 x1)
abbrev Ty21 :Type:=Option ((Int × Int × Bt × Int × B7 × (List B8)) ⊕ (Flow (Int × Bt × Int × (List B8) × B7) (PX C5 (B7 × B9))))
def pg (R:cp) (x44:B7) (x54:B6) (x45:List B8) (x41 x39:Int) (x60:Bt) (x61:Int):Ty21:=(l4 (R x44 x54 (B9.mk x45 x41 x60 x61)) (fun m65=>some (.inr (.done (.bad m65)))) fun(x62,x63)=>some (.inl (w64 (x39+1),x63.file,x63.method,x63.many,x62,x63.uses)))
def lh (R:cp) (x1:B7) (x54:B6) (x44:B7) (x45:List B8) (x41 x39:Int) (x42:Bt) (x43:Int) (x57:Bool):Ty21:=(if x57=true then(vl x1.Class x54.Text).bind fun x59=>pg R x44 x54 x45 x41 x39 x59 0 else pg R x44 x54 x45 x41 x39 x42 x43)
def ju (R:cp) (x22:List B6) (x2:B6) (x1:B7) (x39 x41:Int) (x42:Bt) (x43:Int) (x44:B7) (x45:List B8):Ty21:=(if(decide (x39<(x22.length:Int)))=true then(idx x22 x39).bind fun x54=>(if(x2.Kind==1)=true then lh R x1 x54 x44 x45 x41 x39 x42 x43 (x54.Kind==3)else lh R x1 x54 x44 x45 x41 x39 x42 x43 false)else some (.inr (.next (x41,x42,x43,x45,x44))))
def lg (R:cp) (x22:List B6) (x2:B6) (x1:B7) (x28:B9) (x31:Bool) (x32:Bt) (x37:Int) (x38:B7):Ty20:=(iter (fun s=>ju R x22 x2 x1 s.1 s.2.1 s.2.2.1 s.2.2.2.1 s.2.2.2.2.1 s.2.2.2.2.2) (0,x28.file,x28.method,x37,x38,x28.uses)).bind fun z=>match z with| .next p=>tg R x31 x1 x32 x2 x28 p.1 p.2.1 p.2.2.1 p.2.2.2.1 p.2.2.2.2| .done r=>some r
def ti (R:cp) (x31:Bool) (x22:List B6) (x2:B6) (x1:B7) (x28:B9) (x32:Bt):Ty20:=(if x31=true then lg R x22 x2 x1 x28 x31 x32 (w64 (x28.many+1)) x1 else(if(x2.Kind==3)=true then lg R x22 x2 x1 x28 x31 x32 x28.many ({x1 with Static:=x2.N==1})else lg R x22 x2 x1 x28 x31 x32 x28.many x1))
def iq (R:cp) (x28:B9) (x22:List B6) (x2:B6) (x1:B7) (x31:Bool):Ty20:=(ve x28.method x28.many).bind fun x32=>ti R x31 x22 x2 x1 x28 x32
def my (R:cp) (x1:B7) (x2:B6) (x22:List B6) (x24:Int) (x25:Bt) (x26:Int) (x27:List B8):Ty20:=(l4 (vu x1 x2 (B9.mk x27 x24 x25 x26)) (fun m72=>some (.bad m72)) fun x28=>(if(x2.Kind==4)=true then iq R x28 x22 x2 x1 true else iq R x28 x22 x2 x1 (x2.Kind==6)))
def og (R:cp) (x2:B6) (x1:B7) (x18:B9):Ty20:=(subL x2.Kids 1 (x2.Kids.length:Int)).bind fun x21=>my R x1 x2 x21 x18.file x18.method x18.many x18.uses
def f5 (R:cp) (x2:B6) (x1:B7) (x9:B9) (x14:Bool):Ty20:=(if x14=true then(idx x2.Kids 0).bind fun x16=>(l4 (R x1 x16 x9) (fun m20=>some (.bad m20)) fun(x17,x18)=>og R x2 x1 x18)else my R x1 x2 x2.Kids x9.file x9.method x9.many x9.uses)
def qn (R:cp) (x1:B7) (x2:B6) (x4:B9):Ty20:=(l4 (t7 x1 x2 x4) (fun m73=>some (.bad m73)) fun x9=>(if(x2.Kind==18)=true then f5 R x2 x1 x9 (decide ((x2.Kids.length:Int)>0))else(if(x2.Kind==20)=true then f5 R x2 x1 x9 (decide ((x2.Kids.length:Int)>0))else f5 R x2 x1 x9 false)))
def agr (R:cp):cp:=(fun x1 x2 x4=>qn R x1 x2 x4)
def bx (n:Nat):cp:=Nat.rec (motive:=fun _=>cp) (fun x1 x2 x4=>none) (fun _ R=>agr R) n
def adi (x1:B7) (x2:B6) (x4:B9):Ty20:=(bx 1048576) x1 x2 x4
abbrev Ty22 :Type:=Option ((List B8))
def gv (x7:List B8):Ty22:=some x7
abbrev Ty23 :Type:=Option ((Int × (List B8)) ⊕ ((List B8)))
def gt (x6:Int) (x12:List B8):Ty23:=some (.inl (w64 (x6+1),x12))
def d7 (x12:List B8) (x11:Int) (x19:Bool):Ty23:=(if x19=true then(idx x12 (w64 (x11 - 1))).bind fun x21=>(idx x12 x11).bind fun x22=>(idx x12 x11).bind fun x23=>(idx (List.set x12 (Int.toNat x11) x21) (w64 (x11 - 1))).bind fun x24=>some (.inl (w64 (x11 - 1),(List.set (List.set x12 (Int.toNat x11) x21) (Int.toNat (w64 (x11 - 1))) x22)))else some (.inr x12))
def c7 (x1:Int) (x3:(B8->B8->Option Int)) (x11:Int) (x12:List B8):Ty23:=(if(decide (x11>x1))=true then(idx x12 x11).bind fun x16=>(idx x12 (w64 (x11 - 1))).bind fun x17=>(x3 x16 x17).bind fun x18=>d7 x12 x11 (decide (x18<0))else d7 x12 x11 false)
def cv (x2 x1:Int) (x3:(B8->B8->Option Int)) (x6:Int) (x7:List B8):Ty23:=(if(decide (x6<x2))=true then(iter (fun s=>c7 x1 x3 s.1 s.2) (x6,x7)).bind fun p=>gt x6 p else some (.inr x7))
def er (x1 x2:Int) (x3:(B8->B8->Option Int)) (x5:List B8):Ty22:=(iter (fun s=>cv x2 x1 x3 s.1 s.2) (w64 (x1+1),x5)).bind fun p=>gv p
def iz (x8:List B8):Ty22:=some x8
def dn (x3 x2 x1 x7:Int) (x8:List B8):Ty23:=(if(decide (x7<x3))=true then(idx x8 (w64 (x2+x7))).bind fun x12=>(idx x8 (w64 (x1+x7))).bind fun x13=>(idx x8 (w64 (x1+x7))).bind fun x14=>(idx (List.set x8 (Int.toNat (w64 (x1+x7))) x12) (w64 (x2+x7))).bind fun x15=>some (.inl (w64 (x7+1),(List.set (List.set x8 (Int.toNat (w64 (x1+x7))) x12) (Int.toNat (w64 (x2+x7))) x13)))else some (.inr x8))
def eo (x1 x2 x3:Int) (x4:(B8->B8->Option Int)) (x6:List B8):Ty22:=(iter (fun s=>dn x3 x2 x1 s.1 s.2) (0,x6)).bind fun p=>iz p
def ij (x2:Int) (x4:(B8->B8->Option Int)) (x7:Int) (x9:List B8):Ty22:=(eo (w64 (x2 - x7)) x2 x7 x4 x9).bind fun x17=>some x17
abbrev Ty24 :Type:=Option ((Int × Int × (List B8)) ⊕ (Int × (List B8)))
def dc (x2:Int) (x4:(B8->B8->Option Int)) (x7 x8:Int) (x9:List B8):Ty24:=(if(x7 != x8)=true then(if(decide (x7>x8))=true then(eo (w64 (x2 - x7)) x2 x8 x4 x9).bind fun x15=>some (.inl (w64 (x7 - x8),x8,x15))else(eo (w64 (x2 - x7)) (w64 ((w64 (x2+x8)) - x7)) x7 x4 x9).bind fun x16=>some (.inl (x7,w64 (x8 - x7),x16)))else some (.inr (x7,x9)))
def jh (x1 x2 x3:Int) (x4:(B8->B8->Option Int)) (x6:List B8):Ty22:=(iter (fun s=>dc x2 x4 s.1 s.2.1 s.2.2) (w64 (x2 - x1),w64 (x3 - x2),x6)).bind fun p=>ij x2 x4 p.1 p.2
abbrev am :Type:=(Int->Int->Int->(B8->B8->Option Int)->(List B8)->Option ((List B8)))
def jj (R:am) (x18:List B8):Ty22:=some x18
def dt (R:am) (x8 x17:Int) (x18:List B8):Ty23:=(if(decide (x17<(w64 (x8 - 1))))=true then(idx x18 (w64 (x17+1))).bind fun x22=>(idx x18 x17).bind fun x23=>(idx x18 x17).bind fun x24=>(idx (List.set x18 (Int.toNat x17) x22) (w64 (x17+1))).bind fun x25=>some (.inl (w64 (x17+1),(List.set (List.set x18 (Int.toNat x17) x22) (Int.toNat (w64 (x17+1))) x23)))else some (.inr x18))
def gq (R:am) (x1:Int) (x6:List B8) (x8:Int):Ty22:=(iter (fun s=>dt R x8 s.1 s.2) (x1,x6)).bind fun p=>jj R p
abbrev Ty25 :Type:=Option ((Int × Int) ⊕ (Int))
def jk (R:am) (x8 x9 x15:Int):Ty25:=(if(decide (x15<0))=true then some (.inl (w64 ((w64 (Int.fdiv (IntKind.wrap .u64 (w64 (x8+x9))) 2))+1),x9))else some (.inl (x8,w64 (Int.fdiv (IntKind.wrap .u64 (w64 (x8+x9))) 2))))
def dr (R:am) (x6:List B8) (x1:Int) (x4:(B8->B8->Option Int)) (x8 x9:Int):Ty25:=(if(decide (x8<x9))=true then(idx x6 (w64 (Int.fdiv (IntKind.wrap .u64 (w64 (x8+x9))) 2))).bind fun x13=>(idx x6 x1).bind fun x14=>(x4 x13 x14).bind fun x15=>jk R x8 x9 x15 else some (.inr x8))
def ji (R:am) (x37:List B8):Ty22:=some x37
def dq (R:am) (x27 x36:Int) (x37:List B8):Ty23:=(if(decide (x36>x27))=true then(idx x37 (w64 (x36 - 1))).bind fun x41=>(idx x37 x36).bind fun x42=>(idx x37 x36).bind fun x43=>(idx (List.set x37 (Int.toNat x36) x41) (w64 (x36 - 1))).bind fun x44=>some (.inl (w64 (x36 - 1),(List.set (List.set x37 (Int.toNat x36) x41) (Int.toNat (w64 (x36 - 1))) x42)))else some (.inr x37))
def gp (R:am) (x2:Int) (x6:List B8) (x27:Int):Ty22:=(iter (fun s=>dq R x27 s.1 s.2) (x2,x6)).bind fun p=>ji R p
def iy (R:am) (x27 x28 x34:Int):Ty25:=(if(!(decide (x34<0)))=true then some (.inl (w64 ((w64 (Int.fdiv (IntKind.wrap .u64 (w64 (x27+x28))) 2))+1),x28))else some (.inl (x27,w64 (Int.fdiv (IntKind.wrap .u64 (w64 (x27+x28))) 2))))
def dp (R:am) (x6:List B8) (x2:Int) (x4:(B8->B8->Option Int)) (x27 x28:Int):Ty25:=(if(decide (x27<x28))=true then(idx x6 x2).bind fun x32=>(idx x6 (w64 (Int.fdiv (IntKind.wrap .u64 (w64 (x27+x28))) 2))).bind fun x33=>(x4 x32 x33).bind fun x34=>iy R x27 x28 x34 else some (.inr x27))
def f9 (R:am) (x1 x3 x2 x48:Int) (x4:(B8->B8->Option Int)) (x66:List B8) (x68:Bool):Ty22:=(if x68=true then(R (w64 (Int.fdiv (IntKind.wrap .u64 (w64 (x1+x3))) 2)) (w64 ((w64 ((w64 (Int.fdiv (IntKind.wrap .u64 (w64 (x1+x3))) 2))+x2)) - x48)) x3 x4 x66).bind fun x70=>some x70 else some x66)
def fc (R:am) (x1 x3 x2 x48:Int) (x4:(B8->B8->Option Int)) (x66:List B8):Ty22:=(if(decide ((w64 (Int.fdiv (IntKind.wrap .u64 (w64 (x1+x3))) 2))<(w64 ((w64 ((w64 (Int.fdiv (IntKind.wrap .u64 (w64 (x1+x3))) 2))+x2)) - x48))))=true then f9 R x1 x3 x2 x48 x4 x66 (decide ((w64 ((w64 ((w64 (Int.fdiv (IntKind.wrap .u64 (w64 (x1+x3))) 2))+x2)) - x48))<x3))else f9 R x1 x3 x2 x48 x4 x66 false)
def f7 (R:am) (x1 x48 x3:Int) (x4:(B8->B8->Option Int)) (x61:List B8) (x2:Int) (x63:Bool):Ty22:=(if x63=true then(R x1 x48 (w64 (Int.fdiv (IntKind.wrap .u64 (w64 (x1+x3))) 2)) x4 x61).bind fun x65=>fc R x1 x3 x2 x48 x4 x65 else fc R x1 x3 x2 x48 x4 x61)
def e8 (R:am) (x1 x48 x3:Int) (x4:(B8->B8->Option Int)) (x2:Int) (x61:List B8):Ty22:=(if(decide (x1<x48))=true then f7 R x1 x48 x3 x4 x61 x2 (decide (x48<(w64 (Int.fdiv (IntKind.wrap .u64 (w64 (x1+x3))) 2))))else f7 R x1 x48 x3 x4 x61 x2 false)
def f6 (R:am) (x48 x2 x1 x3:Int) (x4:(B8->B8->Option Int)) (x6:List B8) (x58:Bool):Ty22:=(if x58=true then(jh x48 x2 (w64 ((w64 ((w64 (Int.fdiv (IntKind.wrap .u64 (w64 (x1+x3))) 2))+x2)) - x48)) x4 x6).bind fun x60=>e8 R x1 x48 x3 x4 x2 x60 else e8 R x1 x48 x3 x4 x2 x6)
def iw (R:am) (x2 x1 x3:Int) (x4:(B8->B8->Option Int)) (x6:List B8) (x48:Int):Ty22:=(if(decide (x48<x2))=true then f6 R x48 x2 x1 x3 x4 x6 (decide (x2<(w64 ((w64 ((w64 (Int.fdiv (IntKind.wrap .u64 (w64 (x1+x3))) 2))+x2)) - x48))))else f6 R x48 x2 x1 x3 x4 x6 false)
def ix (R:am) (x48 x49 x55:Int):Ty25:=(if(!(decide (x55<0)))=true then some (.inl (w64 ((w64 (Int.fdiv (IntKind.wrap .u64 (w64 (x48+x49))) 2))+1),x49))else some (.inl (x48,w64 (Int.fdiv (IntKind.wrap .u64 (w64 (x48+x49))) 2))))
def dm (R:am) (x6:List B8) (x1 x3 x2:Int) (x4:(B8->B8->Option Int)) (x48 x49:Int):Ty25:=(if(decide (x48<x49))=true then(idx x6 (w64 ((w64 ((w64 ((w64 (Int.fdiv (IntKind.wrap .u64 (w64 (x1+x3))) 2))+x2)) - 1)) - (w64 (Int.fdiv (IntKind.wrap .u64 (w64 (x48+x49))) 2))))).bind fun x53=>(idx x6 (w64 (Int.fdiv (IntKind.wrap .u64 (w64 (x48+x49))) 2))).bind fun x54=>(x4 x53 x54).bind fun x55=>ix R x48 x49 x55 else some (.inr x48))
def e7 (R:am) (x6:List B8) (x1 x3 x2:Int) (x4:(B8->B8->Option Int)) (x46 x47:Int):Ty22:=(iter (fun s=>dm R x6 x1 x3 x2 x4 s.1 s.2) (x46,x47)).bind fun p=>iw R x2 x1 x3 x4 x6 p
def g8 (R:am) (x1 x2 x3:Int) (x4:(B8->B8->Option Int)) (x6:List B8):Ty22:=(if((w64 (x2 - x1))==1)=true then(iter (fun s=>dr R x6 x1 x4 s.1 s.2) (x2,x3)).bind fun p=>gq R x1 x6 p else(if((w64 (x3 - x2))==1)=true then(iter (fun s=>dp R x6 x2 x4 s.1 s.2) (x1,x2)).bind fun p=>gp R x2 x6 p else(if(decide (x2>(w64 (Int.fdiv (IntKind.wrap .u64 (w64 (x1+x3))) 2))))=true then e7 R x6 x1 x3 x2 x4 (w64 ((w64 ((w64 (Int.fdiv (IntKind.wrap .u64 (w64 (x1+x3))) 2))+x2)) - x3)) (w64 (Int.fdiv (IntKind.wrap .u64 (w64 (x1+x3))) 2))else e7 R x6 x1 x3 x2 x4 x1 x2)))
def we (R:am):am:=(fun x1 x2 x3 x4 x6=>g8 R x1 x2 x3 x4 x6)
def cj (n:Nat):am:=Nat.rec (motive:=fun _=>am) (fun x1 x2 x3 x4 x6=>none) (fun _ R=>we R) n
def il (x1 x2 x3:Int) (x4:(B8->B8->Option Int)) (x6:List B8):Ty22:=(cj 1048576) x1 x2 x3 x4 x6
def m0 (x15:List B8):Ty22:=some x15
def ii (x14:Int) (x29:List B8):Ty23:=some (.inl (w64 (x14 * 2),x29))
def ft (x14 x1:Int) (x2:(B8->B8->Option Int)) (x19:Int) (x21:List B8):Ty23:=(if(decide ((w64 (x19+x14))<x1))=true then(il x19 (w64 (x19+x14)) x1 x2 x21).bind fun x28=>ii x14 x28 else ii x14 x21)
def dl (x1 x14:Int) (x2:(B8->B8->Option Int)) (x19 x20:Int) (x21:List B8):Ty24:=(if(decide (x20<=x1))=true then(il x19 (w64 (x19+x14)) x20 x2 x21).bind fun x26=>some (.inl (x20,w64 (x20+(w64 (2 * x14))),x26))else some (.inr (x19,x21)))
def db (x1:Int) (x2:(B8->B8->Option Int)) (x14:Int) (x15:List B8):Ty23:=(if(decide (x14<x1))=true then(iter (fun s=>dl x1 x14 x2 s.1 s.2.1 s.2.2) (0,w64 (2 * x14),x15)).bind fun p=>ft x14 x1 x2 p.1 p.2 else some (.inr x15))
def kg (x1:Int) (x2:(B8->B8->Option Int)) (x5:Int) (x7:List B8):Ty22:=(er x5 x1 x2 x7).bind fun x13=>(iter (fun s=>db x1 x2 s.1 s.2) (20,x13)).bind fun p=>m0 p
def da (x1:Int) (x2:(B8->B8->Option Int)) (x5 x6:Int) (x7:List B8):Ty24:=(if(decide (x6<=x1))=true then(er x5 x6 x2 x7).bind fun x12=>some (.inl (x6,w64 (x6+20),x12))else some (.inr (x5,x7)))
def jg (x1:Int) (x2:(B8->B8->Option Int)) (x4:List B8):Ty22:=(iter (fun s=>da x1 x2 s.1 s.2.1 s.2.2) (0,20,x4)).bind fun p=>kg x1 x2 p.1 p.2
def fp (x1:(B8->B8->Option Int)) (x3:List B8):Ty22:=(jg (x3.length:Int) x1 x3).bind fun x4=>some x4
def ad6 :Option (Int):=some 0
def jc (x1:List Int) (x2:Int):Ty17:=(if(decide (x2<(x1.length:Int)))=true then(idx x1 x2).bind fun x5=>(if(x5 != 0)=true then some (.inr (.done x5))else some (.inl (w64 (x2+1))))else some (.inr (.next ())))
def ag7 (x1:List Int):Ty15:=(iter (fun s=>jc x1 s) 0).bind fun z=>match z with| .next p=>ad6| .done r=>some r
def zr (x1:Int):Ty12:=some (x1 != x1)
def sa (x1 x2:Int):Ty15:=(zr x1).bind fun x3=>(zr x2).bind fun x4=>(if x3=true then(if x4=true then some 0 else some (-1))else(if x4=true then some 1 else(if(decide (x1<x2))=true then some (-1)else(if(decide (x1>x2))=true then some 1 else some 0))))
def ach (x7:Int):Ty15:=some x7
def aa2 (x1 x2:B8):Ty15:=(sa x1.File x2.File).bind fun x5=>(sa x1.At x2.At).bind fun x6=>(ag7 ([x5,x6]:List Int)).bind fun x7=>ach x7
def o9 (x2:Int) (x3:Bt):Option ((Int × Bt) ⊕ (Bt)):=(cat (ap0 ([IntKind.wrap .u8 (w64 (48+(Int.tmod x2 10)))]:List Int)) x3).bind fun x6=>(if((w64 (Int.tdiv x2 10))==0)=true then some (.inr x6)else some (.inl (w64 (Int.tdiv x2 10),x6)))
def acq (x1:Int):Ty1:=iter (fun s=>o9 s.1 s.2) ((if 0>x1 then 0 else x1),[])
def aaz (x1:Bt) (x2:Int):Ty1:=(cat x1 ([35]:Bt)).bind fun x3=>(acq x2).bind fun x4=>(cat x3 x4).bind fun x5=>some x5
def aiw (x1 x2:Bt):Ty1:=(cat x1 ([46]:Bt)).bind fun x3=>(cat x3 x2).bind fun x4=>(cat x4 ([40,41]:Bt)).bind fun x5=>some x5
def akf (x1 x2:Bt):Ty1:=(cat x1 ([46]:Bt)).bind fun x3=>(cat x3 x2).bind fun x4=>some x4
abbrev jr :Type:=(B6->Int->Option ((List B6)))
def aix (R:jr) (x14:List B6):Ty2:=some x14
abbrev Ty26 :Type:=Option ((Int × (List B6)) ⊕ ((List B6)))
def afd (R:jr) (x1:B6) (x2 x13:Int) (x14:List B6):Ty26:=(if(decide (x13<(x1.Kids.length:Int)))=true then(idx x1.Kids x13).bind fun x19=>(R x19 x2).bind fun x20=>(app 104 x14 x20).bind fun x21=>some (.inl (w64 (x13+1),x21))else some (.inr x14))
def aff (R:jr) (x1:B6) (x2:Int) (x11:List B6):Ty2:=(iter (fun s=>afd R x1 x2 s.1 s.2) (0,x11)).bind fun p=>aix R p
def afe (R:jr) (x1:B6) (x2:Int) (x6:Bool):Ty2:=(if x6=true then(app 104 [] ([x1]:List B6)).bind fun x8=>aff R x1 x2 x8 else aff R x1 x2 [])
def akn (R:jr) (x1:B6) (x2:Int):Ty2:=(if(x2==0)=true then afe R x1 x2 true else afe R x1 x2 (x1.Kind==x2))
def alm (R:jr):jr:=(fun x1 x2=>akn R x1 x2)
def adh (n:Nat):jr:=Nat.rec (motive:=fun _=>jr) (fun x1 x2=>none) (fun _ R=>alm R) n
def at3 (x1:B6) (x2:Int):Ty2:=(adh 1048576) x1 x2
abbrev Ty27 :Type:=Option ((List B0))
def aeu (x8:Bt) (x3:B6) (x1:Bt) (x2:Int) (x12:List B0) (x29:List Bt):Ty27:=(app 120 ([(B0.mk 3 x8 x3.Text x1 x3.Type_ (x3.N==1) x29 x2 x3.At)]:List B0) x12).bind fun x42=>some x42
def z6 (x27:Int) (x40:List Bt):Ty4:=some (.inl (w64 (x27+1),x40))
def z0 (x3:B6) (x27:Int) (x29:List Bt):Ty4:=(if(decide (x27<(x3.Kids.length:Int)))=true then(idx x3.Kids x27).bind fun x34=>(if(x34.Kind==4)=true then(idx x3.Kids x27).bind fun x36=>(app 16 x29 ([x36.Type_]:List Bt)).bind fun x37=>z6 x27 x37 else z6 x27 x29)else some (.inr x29))
def aet (x3:B6) (x8 x1:Bt) (x2:Int) (x12:List B0):Ty27:=(iter (fun s=>z0 x3 s.1 s.2) (0,[])).bind fun p=>aeu x8 x3 x1 x2 x12 p
abbrev Ty28 :Type:=Option ((Int × (List B0)) ⊕ ((List B0)))
def z5 (x11:Int) (x26:List B0) (x17:B6):Ty28:=some (.inl (w64 (x11+1),x26))
def z2 (x8:Bt) (x12:List B0) (x17:B6) (x2 x11:Int) (x20:Bool):Ty28:=(if x20=true then(aaz x8 (x12.length:Int)).bind fun x22=>(app 120 x12 ([(B0.mk 4 x22 x17.Text x8 x17.Type_ false [] x2 x17.At)]:List B0)).bind fun x23=>z5 x11 x23 x17 else z5 x11 x12 x17)
def zz (x9:List B6) (x8:Bt) (x2 x11:Int) (x12:List B0):Ty28:=(if(decide (x11<(x9.length:Int)))=true then(idx x9 x11).bind fun x17=>(if(x17.Kind==4)=true then z2 x8 x12 x17 x2 x11 true else z2 x8 x12 x17 x2 x11 (x17.Kind==6))else some (.inr x12))
def aiv (x1:Bt) (x2:Int) (x3:B6):Ty27:=(if(x3.Kind==2)=true then(akf x1 x3.Text).bind fun x7=>some ([(B0.mk 2 x7 x3.Text x1 x3.Type_ (x3.N==1) [] x2 x3.At)]:List B0)else(aiw x1 x3.Text).bind fun x8=>(at3 x3 0).bind fun x9=>(iter (fun s=>zz x9 x8 x2 s.1 s.2) (0,[])).bind fun p=>aet x3 x8 x1 x2 p)
def af8 :Option (Int):=some (-1)
def af7 (x2:Int):Ty17:=some (.inl (w64 (x2+1)))
abbrev Ty29 :Type:=Option ((Int) ⊕ (Flow Unit ((Int) ⊕ (Flow Unit Int))))
def ue (x2 x5:Int) (x30:Bool):Ty29:=(if x30=true then some (.inr (.done (.inr (.done x2))))else some (.inl (w64 (x5+1))))
def abi (x2:Int) (x1:List B0) (x5:Int):Ty29:=(if(decide (x5<x2))=true then(idx x1 x2).bind fun x8=>(if(x8.Kind != 4)=true then(idx x1 x2).bind fun x10=>(idx x1 x5).bind fun x11=>(if(x10.Kind==x11.Kind)=true then(idx x1 x2).bind fun x13=>(idx x1 x5).bind fun x14=>(if(x13.Owner==x14.Owner)=true then(idx x1 x2).bind fun x16=>(idx x1 x5).bind fun x17=>ue x2 x5 (x16.Name==x17.Name)else ue x2 x5 false)else ue x2 x5 false)else ue x2 x5 false)else some (.inr (.next ())))
def abj (x1:List B0) (x2:Int):Ty17:=(if(decide (x2<(x1.length:Int)))=true then(iter (fun s=>abi x2 x1 s) 0).bind fun z=>match z with| .next p=>af7 x2| .done r=>some r else some (.inr (.next ())))
def ahn (x1:List B0):Ty15:=(iter (fun s=>abj x1 s) 0).bind fun z=>match z with| .next p=>af8| .done r=>some r
abbrev eg :Type:=(B6->(List Bt)->Option (B6 × Bool × (List Bt)))
abbrev Ty30 :Type:=Option (B6 × Bool × (List Bt))
def aga (R:eg) (x5:List Bt):Ty30:=some ((B6.mk 0 [] [] 0 0 0 0 0 []),false,x5)
abbrev Ty31 :Type:=Option (((List Bt) × Int) ⊕ (Flow (List Bt) (B6 × Bool × (List Bt))))
def abp (R:eg) (x6:Int) (x33:List Bt) (x10 x20:B6):Ty31:=some (.inl (x33,w64 (x6+1)))
def abo (R:eg) (x5:List Bt) (x10:B6) (x6:Int) (x20:B6) (x26:Bool):Ty31:=(if x26=true then(app 16 [] x5).bind fun x29=>(app 16 x29 ([x10.Text]:List Bt)).bind fun x31=>abp R x6 x31 x10 x20 else abp R x6 x5 x10 x20)
def abn (R:eg) (x10:B6) (x5:List Bt) (x6:Int):Ty31:=(R x10 x5).bind fun(x20,x21,x22)=>(if x21=true then some (.inr (.done (x20,true,[])))else(if(x10.Kind==4)=true then abo R x5 x10 x6 x20 true else abo R x5 x10 x6 x20 (x10.Kind==6)))
def af9 (R:eg) (x10:B6) (x5:List Bt) (x6:Int):Ty31:=abn R x10 x5 x6
abbrev Ty32 :Type:=Option ((Int) ⊕ (Flow Unit (((List Bt) × Int) ⊕ (Flow (List Bt) (B6 × Bool × (List Bt))))))
def agb (R:eg) (x10:B6) (x15:Int) (x18:Bt):Ty32:=(if(x18==x10.Text)=true then some (.inr (.done (.inr (.done (x10,true,[])))))else some (.inl (w64 (x15+1))))
def abk (R:eg) (x5:List Bt) (x10:B6) (x15:Int):Ty32:=(if(decide (x15<(x5.length:Int)))=true then(idx x5 x15).bind fun x18=>agb R x10 x15 x18 else some (.inr (.next ())))
def abm (R:eg) (x5:List Bt) (x10:B6) (x6:Int) (x13:Bool):Ty31:=(if x13=true then(iter (fun s=>abk R x5 x10 s) 0).bind fun z=>match z with| .next p=>af9 R x10 x5 x6| .done r=>some r else abn R x10 x5 x6)
def abl (R:eg) (x1:B6) (x5:List Bt) (x6:Int):Ty31:=(if(decide (x6<(x1.Kids.length:Int)))=true then(idx x1.Kids x6).bind fun x10=>(if(x10.Kind==4)=true then abm R x5 x10 x6 true else abm R x5 x10 x6 (x10.Kind==6))else some (.inr (.next x5)))
def ahw (R:eg) (x1:B6) (x2:List Bt):Ty30:=(iter (fun s=>abl R x1 s.1 s.2) (x2,0)).bind fun z=>match z with| .next p=>aga R p| .done r=>some r
def ajr (R:eg):eg:=(fun x1 x2=>ahw R x1 x2)
def aaf (n:Nat):eg:=Nat.rec (motive:=fun _=>eg) (fun x1 x2=>none) (fun _ R=>ajr R) n
def ao0 (x1:B6) (x2:List Bt):Ty30:=(aaf 1048576) x1 x2
def age (x5:List B0):Ty7:=some (x5,(B4.mk 0 0 0))
abbrev Ty33 :Type:=Option ((Int × (List B0)) ⊕ (Flow (List B0) ((List B0) × B4)))
def agd (x4:Int) (x12:List B0):Ty33:=some (.inl (w64 (x4+1),x12))
abbrev Ty34 :Type:=Option ((Int × (List B0)) ⊕ (Flow (List B0) ((Int × (List B0)) ⊕ (Flow (List B0) ((List B0) × B4)))))
def abu (x11:Int) (x55:List B0) (x19:B6):Ty34:=some (.inl (w64 (x11+1),x55))
def agf (x52 x53:B0):Ty34:=some (.inr (.done (.inr (.done ([],(B4.mk 150 x52.File x53.At))))))
def agc (x11:Int) (x19:B6) (x26:List B0):Ty34:=(ahn x26).bind fun x50=>(if(decide (x50≥0))=true then(idx x26 x50).bind fun x52=>(idx x26 x50).bind fun x53=>agf x52 x53 else abu x11 x26 x19)
abbrev Ty35 :Type:=Option ((Int × (List B0)) ⊕ (Flow (List B0) ((Int × (List B0)) ⊕ (Flow (List B0) ((Int × (List B0)) ⊕ (Flow (List B0) ((List B0) × B4)))))))
def w8 (x25:Int) (x49:List B0) (x31:B6):Ty35:=some (.inl (w64 (x25+1),x49))
def aev (x4:Int) (x41:B6):Ty35:=some (.inr (.done (.inr (.done (.inr (.done ([],(B4.mk 150 x4 x41.At))))))))
def z8 (x4:Int) (x41:B6) (x25:Int) (x37:List B0) (x31:B6) (x46:Bool):Ty35:=(if x46=true then aev x4 x41 else w8 x25 x37 x31)
def z7 (x25:Int) (x26:List B0) (x31 x19:B6) (x4:Int) (x34:Bool):Ty35:=(if x34=true then w8 x25 x26 x31 else(aiv x19.Text x4 x31).bind fun x36=>(app 120 x26 x36).bind fun x37=>(ahn x37).bind fun x39=>(if(decide (x39≥0))=true then w8 x25 x37 x31 else(ao0 x31 []).bind fun(x41,x42,x43)=>(if(x31.Kind==3)=true then z8 x4 x41 x25 x37 x31 x42 else z8 x4 x41 x25 x37 x31 false)))
def abq (x19:B6) (x4 x25:Int) (x26:List B0):Ty35:=(if(decide (x25<(x19.Kids.length:Int)))=true then(idx x19.Kids x25).bind fun x31=>(if(x31.Kind != 2)=true then z7 x25 x26 x31 x19 x4 (x31.Kind != 3)else z7 x25 x26 x31 x19 x4 false)else some (.inr (.next x26)))
def abr (x1:List (List B6)) (x4 x11:Int) (x12:List B0):Ty34:=(idx x1 x4).bind fun x16=>(if(decide (x11<(x16.length:Int)))=true then(idx x1 x4).bind fun x18=>(idx x18 x11).bind fun x19=>(if(x19.Kind != 1)=true then abu x11 x12 x19 else(app 120 x12 ([(B0.mk 1 x19.Text x19.Text [] x19.Type_ false [] x4 x19.At)]:List B0)).bind fun x22=>(iter (fun s=>abq x19 x4 s.1 s.2) (0,x22)).bind fun z=>match z with| .next p=>agc x11 x19 p| .done r=>some r)else some (.inr (.next x12)))
def abt (x1:List (List B6)) (x4:Int) (x5:List B0):Ty33:=(if(decide (x4<(x1.length:Int)))=true then(iter (fun s=>abr x1 x4 s.1 s.2) (0,x5)).bind fun z=>match z with| .next p=>agd x4 p| .done r=>some r else some (.inr (.next x5)))
def ake (x1:List (List B6)):Ty7:=(iter (fun s=>abt x1 s.1 s.2) (0,[])).bind fun z=>match z with| .next p=>age p| .done r=>some r
def yh (x3:Int):Option (Int × Bool):=some (x3,true)
abbrev Ty36 :Type:=Option ((Int) ⊕ (Flow Int (Int × Bool)))
def adg (x29:Int):Ty36:=some (.inl x29)
abbrev Ty37 :Type:=Option ((Int) ⊕ (Int))
def t6 (x29:Int) (x33:Bool):Ty37:=(if x33=true then some (.inl (w64 (x29+1)))else some (.inr x29))
def tz (x1:Bt) (x29:Int):Ty37:=(if(decide (x29<(x1.length:Int)))=true then(idxS x1 x29).bind fun x32=>t6 x29 (x32 != 10)else t6 x29 false)
def yg (x1:Bt) (x3 x35:Int):Ty36:=(if(decide ((w64 (x35+1))≥(x1.length:Int)))=true then some (.inr (.done (x3,false)))else some (.inl (w64 (x35+2))))
def pw (x35:Int) (x41:Bool):Ty37:=(if x41=true then some (.inl (w64 (x35+1)))else some (.inr x35))
def tx (x1:Bt) (x35:Int):Ty37:=(if(decide ((w64 (x35+1))<(x1.length:Int)))=true then(idxS x1 x35).bind fun x38=>(if(x38 != 42)=true then pw x35 true else(idxS x1 (w64 (x35+1))).bind fun x40=>pw x35 (x40 != 47))else pw x35 false)
def j0 (x3:Int) (x1:Bt) (x25:Bool):Ty36:=(if x25=true then some (.inr (.done (x3,true)))else(idxS x1 (w64 (x3+1))).bind fun x27=>(if(x27==47)=true then(iter (fun s=>tz x1 s) x3).bind fun p=>adg p else(iter (fun s=>tx x1 s) (w64 (x3+2))).bind fun p=>yg x1 x3 p))
def kc (x3:Int) (x1:Bt) (x6:Int) (x14:Bool):Ty36:=(if x14=true then some (.inl (w64 (x3+1)))else(if(decide ((w64 (x3+1))≥(x1.length:Int)))=true then j0 x3 x1 true else(if(x6 != 47)=true then j0 x3 x1 true else(idxS x1 (w64 (x3+1))).bind fun x18=>(if(x18 != 47)=true then(idxS x1 (w64 (x3+1))).bind fun x20=>j0 x3 x1 (x20 != 42)else j0 x3 x1 false))))
def t0 (x1:Bt) (x3:Int):Ty36:=(if(decide (x3<(x1.length:Int)))=true then(idxS x1 x3).bind fun x6=>(if(x6==32)=true then kc x3 x1 x6 true else(if(x6==9)=true then kc x3 x1 x6 true else(if(x6==10)=true then kc x3 x1 x6 true else kc x3 x1 x6 (x6==13))))else some (.inr (.next x3)))
def zp (x1:Bt) (x2:Int):Option (Int × Bool):=(iter (fun s=>t0 x1 s) x2).bind fun z=>match z with| .next p=>yh p| .done r=>some r
def xm (x3:Bool):Ty12:=some x3
def s6 (x1:Int):Ty12:=(if(decide (x1≥48))=true then xm (decide (x1<=57))else xm false)
def acd (x3:Int):Ty12:=some (decide (x3>2147483647))
def xl (x1:Bt) (x3 x4:Int):Ty25:=(if(decide (x4<(x1.length:Int)))=true then(idxS x1 x4).bind fun x8=>some (.inl (w64 ((w64 (10 * x3))+(w64 (IntKind.wrap .u8 (x8 - 48)))),w64 (x4+1)))else some (.inr x3))
def aek (x1:Bt):Ty12:=(if(decide ((x1.length:Int)>10))=true then some true else(iter (fun s=>xl x1 s.1 s.2) (0,0)).bind fun p=>acd p)
def k7 (x13:Bool):Ty12:=some x13
def sv (x1:Int):Ty12:=(if(decide (x1≥97))=true then(if(decide (x1<=122))=true then k7 true else(if(decide (x1≥65))=true then(if(decide (x1<=90))=true then k7 true else k7 (x1==95))else k7 (x1==95)))else(if(decide (x1≥65))=true then(if(decide (x1<=90))=true then k7 true else k7 (x1==95))else k7 (x1==95)))
def ad5 :Option (Bool):=some false
def zq (x1:Bt) (x2:Int):Ty14:=(if(decide (x2<(([([99,108,97,115,115]:Bt),([101,120,116,101,110,100,115]:Bt),([115,116,97,116,105,99]:Bt),([118,111,105,100]:Bt),([105,110,116]:Bt),([98,111,111,108,101,97,110]:Bt),([105,102]:Bt),([101,108,115,101]:Bt),([119,104,105,108,101]:Bt),([114,101,116,117,114,110]:Bt),([112,114,105,110,116]:Bt),([116,114,117,101]:Bt),([102,97,108,115,101]:Bt),([110,117,108,108]:Bt),([116,104,105,115]:Bt),([110,101,119]:Bt)]:List Bt).length:Int)))=true then(idx ([([99,108,97,115,115]:Bt),([101,120,116,101,110,100,115]:Bt),([115,116,97,116,105,99]:Bt),([118,111,105,100]:Bt),([105,110,116]:Bt),([98,111,111,108,101,97,110]:Bt),([105,102]:Bt),([101,108,115,101]:Bt),([119,104,105,108,101]:Bt),([114,101,116,117,114,110]:Bt),([112,114,105,110,116]:Bt),([116,114,117,101]:Bt),([102,97,108,115,101]:Bt),([110,117,108,108]:Bt),([116,104,105,115]:Bt),([110,101,119]:Bt)]:List Bt) x2).bind fun x5=>(if(x5==x1)=true then some (.inr (.done true))else some (.inl (w64 (x2+1))))else some (.inr (.next ())))
def pq (x1:Bt):Ty12:=(iter (fun s=>zq x1 s) 0).bind fun z=>match z with| .next p=>ad5| .done r=>some r
def ad2 :Option (Int):=some 0
def ad4 (x11 x14 x15:Int):Ty17:=(if(x14==x15)=true then some (.inr (.done 1))else some (.inl (w64 (x11+1))))
def zm (x1:Bt) (x2 x11:Int):Ty17:=(if(decide (x11<(([43,45,42,47,37,60,62,61,33,40,41,123,125,59,44,46]:Bt).length:Int)))=true then(idxS x1 x2).bind fun x14=>(idxS ([43,45,42,47,37,60,62,61,33,40,41,123,125,59,44,46]:Bt) x11).bind fun x15=>ad4 x11 x14 x15 else some (.inr (.next ())))
def zn (x1:Bt) (x2:Int):Ty15:=(iter (fun s=>zm x1 x2 s) 0).bind fun z=>match z with| .next p=>ad2| .done r=>some r
def ad3 (x3:Int) (x8 x9:Bt):Ty17:=(if(x8==x9)=true then some (.inr (.done 2))else some (.inl (w64 (x3+1))))
def zo (x1:Bt) (x2 x3:Int) (x6:Bool):Ty17:=(if x6=true then(sub x1 x2 (w64 (x2+2))).bind fun x8=>(idx ([([61,61]:Bt),([33,61]:Bt),([60,61]:Bt),([62,61]:Bt),([38,38]:Bt),([124,124]:Bt)]:List Bt) x3).bind fun x9=>ad3 x3 x8 x9 else some (.inr (.next ())))
def zl (x1:Bt) (x2 x3:Int):Ty17:=(if(decide (x3<(([([61,61]:Bt),([33,61]:Bt),([60,61]:Bt),([62,61]:Bt),([38,38]:Bt),([124,124]:Bt)]:List Bt).length:Int)))=true then zo x1 x2 x3 (decide ((w64 (x2+2))<=(x1.length:Int)))else zo x1 x2 x3 false)
def ag3 (x1:Bt) (x2:Int):Ty15:=(iter (fun s=>zl x1 x2 s) 0).bind fun z=>match z with| .next p=>zn x1 x2| .done r=>some r
abbrev Ty38 :Type:=Option (Int × Int × Int)
def rc (x6:Int) (x18:Bool):Ty38:=(if x18=true then some (0,0,31)else some (2,x6,0))
def acb (x1:Bt) (x2 x6:Int):Ty38:=(sub x1 x2 (w64 (x2+x6))).bind fun x13=>(aek x13).bind fun x14=>(if x14=true then rc x6 true else(if(decide (x6>1))=true then(idxS x1 x2).bind fun x17=>rc x6 (x17==48)else rc x6 false))
def uk (x6:Int) (x11:Bool):Ty37:=(if x11=true then some (.inl (w64 (x6+1)))else some (.inr x6))
def uj (x2:Int) (x1:Bt) (x6:Int):Ty37:=(if(decide ((w64 (x2+x6))<(x1.length:Int)))=true then(idxS x1 (w64 (x2+x6))).bind fun x9=>(s6 x9).bind fun x10=>uk x6 x10 else uk x6 false)
def aca (x1:Bt) (x2 x23:Int):Ty38:=(if(decide (x23>20))=true then some (0,0,2)else(sub x1 x2 (w64 (x2+x23))).bind fun x34=>(pq x34).bind fun x35=>(if x35=true then some (3,x23,0)else some (1,x23,0)))
def rb (x23:Int) (x31:Bool):Ty37:=(if x31=true then some (.inl (w64 (x23+1)))else some (.inr x23))
def ui (x2:Int) (x1:Bt) (x23:Int):Ty37:=(if(decide ((w64 (x2+x23))<(x1.length:Int)))=true then(idxS x1 (w64 (x2+x23))).bind fun x26=>(sv x26).bind fun x27=>(if x27=true then rb x23 true else(idxS x1 (w64 (x2+x23))).bind fun x29=>(s6 x29).bind fun x30=>rb x23 x30)else rb x23 false)
def aej (x1:Bt) (x2:Int):Ty38:=(idxS x1 x2).bind fun x3=>(s6 x3).bind fun x4=>(if x4=true then(iter (fun s=>uj x2 x1 s) 0).bind fun p=>acb x1 x2 p else(idxS x1 x2).bind fun x20=>(sv x20).bind fun x21=>(if x21=true then(iter (fun s=>ui x2 x1 s) 0).bind fun p=>aca x1 x2 p else(ag3 x1 x2).bind fun x37=>(if(x37==0)=true then some (0,0,30)else some (4,x37,0))))
abbrev Ty39 :Type:=Option ((Int × (List C6)) ⊕ ((List C6) × Int × Int))
def afg (x9 x17:Int) (x22:List C6):Ty39:=some (.inl (w64 (x9+x17),x22))
def acu (x1:Bt) (x4:Int) (x5:List C6):Ty39:=(zp x1 x4).bind fun(x9,x10)=>(if(!x10)=true then some (.inr ([],x9,32))else(if(x9==(x1.length:Int))=true then(sub x1 x4 (x1.length:Int)).bind fun x13=>(app 48 x5 ([(C6.mk 5 [] x9 x13)]:List C6)).bind fun x14=>some (.inr (x14,0,0))else(aej x1 x9).bind fun(x16,x17,x18)=>(if(x18 != 0)=true then some (.inr ([],x9,x18))else(sub x1 x9 (w64 (x9+x17))).bind fun x20=>(sub x1 x4 x9).bind fun x21=>(app 48 x5 ([(C6.mk x16 x20 x9 x21)]:List C6)).bind fun x22=>afg x9 x17 x22)))
def aik (x1:Bt):Option ((List C6) × Int × Int):=(if(decide ((x1.length:Int)>1048576))=true then some ([],0,2)else iter (fun s=>acu x1 s.1 s.2) (0,[]))
def yo (x18:Bool):Ty12:=some x18
def de (x1:List C6) (x2:Int) (x3:Bt):Ty12:=(if(decide (x2<(x1.length:Int)))=true then(idx x1 x2).bind fun x5=>(if(x5.Text==x3)=true then(idx x1 x2).bind fun x7=>(if(x7.Kind != 1)=true then(idx x1 x2).bind fun x9=>yo (x9.Kind != 5)else yo false)else yo false)else yo false)
def dh (x1:Int):Option (C7):=some (C7.mk x1 120)
def wk (x5:Bool):Ty12:=some x5
def lj (x1:List C6) (x2:Int):Ty12:=(if(decide (x2<(x1.length:Int)))=true then(idx x1 x2).bind fun x4=>wk (x4.Kind==1)else wk false)
def afc (x3 x4:C6):Ty15:=some (w64 (x3.At+(x4.Text.length:Int)))
def agz (x1:List C6) (x2:Int):Ty15:=(idx x1 (w64 (x2 - 1))).bind fun x3=>(idx x1 (w64 (x2 - 1))).bind fun x4=>afc x3 x4
def ady (x2:Int) (x5:List B6) (x7:C6) (x8:Int):Option (B6):=some (B6.mk x2 [] [] 0 x7.At x8 (-1) (-1) x5)
def gc (x1:List C6) (x2 x3 x4:Int) (x5:List B6):Option (B6):=(idx x1 x3).bind fun x7=>(agz x1 x4).bind fun x8=>ady x2 x5 x7 x8
def ez :Option (C7):=some (C7.mk (-1) 0)
def s9 (x18:Bool):Ty12:=some x18
def ad9 (x1:List C6) (x2:Int):Ty12:=(lj x1 x2).bind fun x3=>(if x3=true then s9 true else(de x1 x2 ([105,110,116]:Bt)).bind fun x5=>(if x5=true then s9 true else(de x1 x2 ([98,111,111,108,101,97,110]:Bt)).bind fun x7=>(if x7=true then s9 true else(de x1 x2 ([118,111,105,100]:Bt)).bind fun x9=>s9 x9)))
def yn (x1:List C6) (x2:B6) (x3:Int):Option (B6):=(idx x1 x3).bind fun x6=>(idx x1 x3).bind fun x7=>(idx x1 (w64 (x3+1))).bind fun x8=>(idx x1 (w64 (x3+1))).bind fun x9=>some ({{{{x2 with Type_:=x6.Text} with TypeAt:=x7.At} with Text:=x8.Text} with At:=x9.At})
abbrev Ty40 :Type:=Option ((Int × (List B6)) ⊕ ((List B6) × Int × C7))
def vo (x8:Int) (x1:List C6) (x10:List B6) (x17:Bool):Ty40:=(if x17=true then(dh x8).bind fun x19=>some (.inr ([],0,x19))else(lj x1 (w64 (x8+1))).bind fun x21=>(if(!x21)=true then(dh (w64 (x8+1))).bind fun x23=>some (.inr ([],0,x23))else(gc x1 4 x8 (w64 (x8+2)) []).bind fun x25=>(yn x1 x25 x8).bind fun x26=>(app 104 x10 ([x26]:List B6)).bind fun x27=>(de x1 (w64 (x8+2)) ([41]:Bt)).bind fun x29=>(if x29=true then(ez).bind fun x31=>some (.inr (x27,w64 (x8+3),x31))else(de x1 (w64 (x8+2)) ([44]:Bt)).bind fun x32=>(if(!x32)=true then(dh (w64 (x8+2))).bind fun x34=>some (.inr ([],0,x34))else some (.inl (w64 (x8+3),x27))))))
def vn (x1:List C6) (x8:Int) (x10:List B6):Ty40:=(ad9 x1 x8).bind fun x14=>(if(!x14)=true then vo x8 x1 x10 true else(de x1 x8 ([118,111,105,100]:Bt)).bind fun x16=>vo x8 x1 x10 x16)
def acs (x1:List C6) (x2:Int):Option ((List B6) × Int × C7):=(de x1 x2 ([41]:Bt)).bind fun x4=>(if x4=true then(ez).bind fun x6=>some ([],w64 (x2+1),x6)else iter (fun s=>vn x1 s.1 s.2) (x2,[]))
def ot (x26:Bool):Ty12:=some x26
def aeg (x1:List C6) (x2:Int):Ty12:=(de x1 x2 ([105,110,116]:Bt)).bind fun x3=>(if x3=true then ot true else(de x1 x2 ([98,111,111,108,101,97,110]:Bt)).bind fun x5=>(if x5=true then ot true else(de x1 x2 ([118,111,105,100]:Bt)).bind fun x7=>(if x7=true then ot true else(lj x1 x2).bind fun x9=>(if x9=true then(lj x1 (w64 (x2+1))).bind fun x11=>ot x11 else ot false))))
def ab8 :Option (Int):=some 0
def agi (x3:Int):Ty17:=some (.inl (w64 (x3+1)))
def xi (x3:Int) (x1:List C6) (x2 x6:Int):Ty29:=(idx ([([([124,124]:Bt)]:List Bt),([([38,38]:Bt)]:List Bt),([([61,61]:Bt),([33,61]:Bt)]:List Bt),([([60]:Bt),([60,61]:Bt),([62]:Bt),([62,61]:Bt)]:List Bt),([([43]:Bt),([45]:Bt)]:List Bt),([([42]:Bt),([47]:Bt),([37]:Bt)]:List Bt)]:List (List Bt)) x3).bind fun x8=>(if(decide (x6<(x8.length:Int)))=true then(idx ([([([124,124]:Bt)]:List Bt),([([38,38]:Bt)]:List Bt),([([61,61]:Bt),([33,61]:Bt)]:List Bt),([([60]:Bt),([60,61]:Bt),([62]:Bt),([62,61]:Bt)]:List Bt),([([43]:Bt),([45]:Bt)]:List Bt),([([42]:Bt),([47]:Bt),([37]:Bt)]:List Bt)]:List (List Bt)) x3).bind fun x10=>(idx x10 x6).bind fun x11=>(de x1 x2 x11).bind fun x12=>(if x12=true then some (.inr (.done (.inr (.done (w64 (x3+1))))))else some (.inl (w64 (x6+1))))else some (.inr (.next ())))
def xj (x1:List C6) (x2 x3:Int):Ty17:=(if(decide (x3<(([([([124,124]:Bt)]:List Bt),([([38,38]:Bt)]:List Bt),([([61,61]:Bt),([33,61]:Bt)]:List Bt),([([60]:Bt),([60,61]:Bt),([62]:Bt),([62,61]:Bt)]:List Bt),([([43]:Bt),([45]:Bt)]:List Bt),([([42]:Bt),([47]:Bt),([37]:Bt)]:List Bt)]:List (List Bt)).length:Int)))=true then(iter (fun s=>xi x3 x1 x2 s) 0).bind fun z=>match z with| .next p=>agi x3| .done r=>some r else some (.inr (.next ())))
def aei (x1:List C6) (x2:Int):Ty15:=(iter (fun s=>xj x1 x2 s) 0).bind fun z=>match z with| .next p=>ab8| .done r=>some r
abbrev ax :Type:=((List C6)->Int->Int->Option (B6 × Int × C7)) × ((List C6)->Int->Int->Int->Option (B6 × Int × C7)) × ((List C6)->Int->Int->Option (B6 × Int × C7)) × ((List C6)->Int->Int->Option (B6 × Int × C7)) × ((List C6)->Int->Int->Option ((List B6) × Int × C7))
abbrev Ty41 :Type:=Option (B6 × Int × C7)
def qm (R:ax) (x1:List C6) (x2 x3:Int):Ty41:=(R.2.1 x1 x2 x3 1).bind fun(x6,x7,x8)=>some (x6,x7,x8)
def ab3 (R:ax) (x13:C7):Ty41:=some ((B6.mk 0 [] [] 0 0 0 0 0 []),0,x13)
def ab2 (R:ax) (x18:B6) (x17:Int) (x31:C7):Ty41:=some (x18,x17,x31)
def ab0 (R:ax) (x17:Int) (x18:B6):Ty41:=(ez).bind fun x31=>ab2 R x18 x17 x31
abbrev Ty42 :Type:=Option ((Int × B6) ⊕ (Flow (Int × B6) (B6 × Int × C7)))
def ab1 (R:ax) (x25:C7):Ty42:=some (.inr (.done ((B6.mk 0 [] [] 0 0 0 0 0 []),0,x25)))
def xd (R:ax) (x1:List C6) (x4 x3 x2 x17:Int) (x18:B6):Ty42:=(aei x1 x17).bind fun x21=>(if(x21==x4)=true then(R.2.1 x1 (w64 (x17+1)) x3 (w64 (x4+1))).bind fun(x23,x24,x25)=>(if(decide (x25.Place≥0))=true then ab1 R x25 else(idx x1 x17).bind fun x29=>(gc x1 24 x2 x24 ([x18,x23]:List B6)).bind fun x30=>some (.inl (x24,{x30 with Text:=x29.Text})))else some (.inr (.next (x17,x18))))
def zt (R:ax) (x1:List C6) (x2 x3 x4:Int):Ty41:=(if(decide (x4>6))=true then(R.2.2.1 x1 x2 x3).bind fun(x8,x9,x10)=>some (x8,x9,x10)else(R.2.1 x1 x2 x3 (w64 (x4+1))).bind fun(x11,x12,x13)=>(if(decide (x13.Place≥0))=true then ab3 R x13 else(iter (fun s=>xd R x1 x4 x3 x2 s.1 s.2) (x12,x11)).bind fun z=>match z with| .next p=>ab0 R p.1 p.2| .done r=>some r))
def abz (R:ax) (x14:C7):Ty41:=some ((B6.mk 0 [] [] 0 0 0 0 0 []),0,x14)
def xc (R:ax) (x1:List C6) (x2 x13:Int) (x12:B6) (x20:Int):Ty41:=(gc x1 x20 x2 x13 ([x12]:List B6)).bind fun x21=>(ez).bind fun x22=>some (x21,x13,x22)
def aby (R:ax) (x25:C7):Ty41:=some ((B6.mk 0 [] [] 0 0 0 0 0 []),0,x25)
def abx (R:ax) (x30:B6) (x29:Int) (x55:C7):Ty41:=some (x30,x29,x55)
def abv (R:ax) (x29:Int) (x30:B6):Ty41:=(ez).bind fun x55=>abx R x30 x29 x55
def xb (R:ax) (x1:List C6) (x2 x29 x48 x49:Int) (x51:List B6):Ty42:=(gc x1 x49 x2 x48 x51).bind fun x52=>(idx x1 (w64 (x29+1))).bind fun x53=>(idx x1 (w64 (x29+1))).bind fun x54=>some (.inl (x48,{{x52 with Text:=x53.Text} with At:=x54.At}))
def abw (R:ax) (x43:C7):Ty42:=some (.inr (.done ((B6.mk 0 [] [] 0 0 0 0 0 []),0,x43)))
def xa (R:ax) (x1:List C6) (x3 x2 x29:Int) (x30:B6):Ty42:=(de x1 x29 ([46]:Bt)).bind fun x33=>(if x33=true then(lj x1 (w64 (x29+1))).bind fun x35=>(if(!x35)=true then(dh (w64 (x29+1))).bind fun x37=>some (.inr (.done ((B6.mk 0 [] [] 0 0 0 0 0 []),0,x37)))else(de x1 (w64 ((w64 (x29+1))+1)) ([40]:Bt)).bind fun x39=>(if x39=true then(R.2.2.2.2 x1 (w64 ((w64 ((w64 (x29+1))+1))+1)) (w64 (x3+1))).bind fun(x41,x42,x43)=>(if(decide (x43.Place≥0))=true then abw R x43 else(app 104 ([x30]:List B6) x41).bind fun x46=>xb R x1 x2 x29 x42 20 x46)else xb R x1 x2 x29 (w64 ((w64 (x29+1))+1)) 18 ([x30]:List B6)))else some (.inr (.next (x29,x30))))
def uf (R:ax) (x1:List C6) (x2 x3:Int) (x10:Bool):Ty41:=(if x10=true then(R.2.2.1 x1 (w64 (x2+1)) (w64 (x3+1))).bind fun(x12,x13,x14)=>(if(decide (x14.Place≥0))=true then abz R x14 else(idx x1 x2).bind fun x18=>(if(x18.Text==([45]:Bt))=true then xc R x1 x2 x13 x12 23 else xc R x1 x2 x13 x12 22))else(R.2.2.2.1 x1 x2 (w64 (x3+1))).bind fun(x23,x24,x25)=>(if(decide (x25.Place≥0))=true then aby R x25 else(iter (fun s=>xa R x1 x3 x2 s.1 s.2) (x24,x23)).bind fun z=>match z with| .next p=>abv R p.1 p.2| .done r=>some r))
def zs (R:ax) (x1:List C6) (x2 x3:Int):Ty41:=(if(decide (x3>60))=true then some ((B6.mk 0 [] [] 0 0 0 0 0 []),0,(C7.mk x2 2))else(de x1 x2 ([33]:Bt)).bind fun x7=>(if x7=true then uf R x1 x2 x3 true else(de x1 x2 ([45]:Bt)).bind fun x9=>uf R x1 x2 x3 x9))
def yb (R:ax) (x11:B6) (x2:Int) (x18:C7):Ty41:=some (x11,w64 (x2+1),x18)
def xv (R:ax) (x2:Int) (x11:B6):Ty41:=(ez).bind fun x18=>yb R x11 x2 x18
def tu (R:ax) (x1:List C6) (x2 x10:Int) (x11:B6):Option ((Int × B6) ⊕ (B6)):=(idx x1 x2).bind fun x14=>(if(decide (x10<(x14.Text.length:Int)))=true then(idx x1 x2).bind fun x16=>(idxS x16.Text x10).bind fun x17=>some (.inl (w64 (x10+1),{x11 with N:=w64 ((w64 (10 * x11.N))+(w64 (IntKind.wrap .u8 (x17 - 48))))}))else some (.inr x11))
def ya (R:ax) (x21:B6) (x2:Int) (x23:C7):Ty41:=some ({x21 with N:=1},w64 (x2+1),x23)
def x0 (R:ax) (x47:B6) (x49 x50:C6) (x2:Int) (x51:C7):Ty41:=some ({{x47 with Text:=x49.Text} with At:=x50.At},w64 (x2+4),x51)
def xz (R:ax) (x56:C7):Ty41:=some ((B6.mk 0 [] [] 0 0 0 0 0 []),0,x56)
def xy (R:ax) (x54:B6) (x55:Int) (x63:C7):Ty41:=some (x54,w64 (x55+1),x63)
def xx (R:ax) (x66:B6) (x68 x69:C6) (x2:Int) (x72:C7):Ty41:=some ({{x66 with Text:=x68.Text} with At:=x69.At},w64 (x2+1),x72)
def xw (R:ax) (x75:C7):Ty41:=some ((B6.mk 0 [] [] 0 0 0 0 0 []),0,x75)
def wm (R:ax) (x66:B6) (x68 x69:C6) (x73:List B6) (x78 x74:Int) (x79:C7):Ty41:=some ({{{{{x66 with Text:=x68.Text} with At:=x69.At} with Kind:=19} with Kids:=x73} with To:=x78},x74,x79)
def vz (R:ax) (x1:List C6) (x2 x3:Int):Ty41:=(idx x1 x2).bind fun x6=>(if(x6.Kind==2)=true then(gc x1 13 x2 (w64 (x2+1)) []).bind fun x8=>(iter (fun s=>tu R x1 x2 s.1 s.2) (0,x8)).bind fun p=>xv R x2 p else(de x1 x2 ([116,114,117,101]:Bt)).bind fun x19=>(if x19=true then(gc x1 14 x2 (w64 (x2+1)) []).bind fun x21=>(ez).bind fun x23=>ya R x21 x2 x23 else(de x1 x2 ([102,97,108,115,101]:Bt)).bind fun x24=>(if x24=true then(gc x1 14 x2 (w64 (x2+1)) []).bind fun x26=>(ez).bind fun x27=>some (x26,w64 (x2+1),x27)else(de x1 x2 ([110,117,108,108]:Bt)).bind fun x28=>(if x28=true then(gc x1 15 x2 (w64 (x2+1)) []).bind fun x30=>(ez).bind fun x31=>some (x30,w64 (x2+1),x31)else(de x1 x2 ([116,104,105,115]:Bt)).bind fun x32=>(if x32=true then(gc x1 16 x2 (w64 (x2+1)) []).bind fun x34=>(ez).bind fun x35=>some (x34,w64 (x2+1),x35)else(de x1 x2 ([110,101,119]:Bt)).bind fun x36=>(if x36=true then(lj x1 (w64 (x2+1))).bind fun x38=>(if(!x38)=true then(dh (w64 (x2+1))).bind fun x40=>some ((B6.mk 0 [] [] 0 0 0 0 0 []),0,x40)else(de x1 (w64 (x2+2)) ([40]:Bt)).bind fun x41=>(if(!x41)=true then(dh (w64 (x2+2))).bind fun x43=>some ((B6.mk 0 [] [] 0 0 0 0 0 []),0,x43)else(de x1 (w64 (x2+3)) ([41]:Bt)).bind fun x44=>(if(!x44)=true then(dh (w64 (x2+3))).bind fun x46=>some ((B6.mk 0 [] [] 0 0 0 0 0 []),0,x46)else(gc x1 21 x2 (w64 (x2+4)) []).bind fun x47=>(idx x1 (w64 (x2+1))).bind fun x49=>(idx x1 (w64 (x2+1))).bind fun x50=>(ez).bind fun x51=>x0 R x47 x49 x50 x2 x51)))else(de x1 x2 ([40]:Bt)).bind fun x52=>(if x52=true then(R.1 x1 (w64 (x2+1)) x3).bind fun(x54,x55,x56)=>(if(decide (x56.Place≥0))=true then xz R x56 else(de x1 x55 ([41]:Bt)).bind fun x60=>(if(!x60)=true then(dh x55).bind fun x62=>some ((B6.mk 0 [] [] 0 0 0 0 0 []),0,x62)else(ez).bind fun x63=>xy R x54 x55 x63))else(lj x1 x2).bind fun x64=>(if x64=true then(gc x1 17 x2 (w64 (x2+1)) []).bind fun x66=>(idx x1 x2).bind fun x68=>(idx x1 x2).bind fun x69=>(de x1 (w64 (x2+1)) ([40]:Bt)).bind fun x70=>(if(!x70)=true then(ez).bind fun x72=>xx R x66 x68 x69 x2 x72 else(R.2.2.2.2 x1 (w64 (x2+2)) x3).bind fun(x73,x74,x75)=>(if(decide (x75.Place≥0))=true then xw R x75 else(agz x1 x74).bind fun x78=>(ez).bind fun x79=>wm R x66 x68 x69 x73 x78 x74 x79))else(dh x2).bind fun x80=>some ((B6.mk 0 [] [] 0 0 0 0 0 []),0,x80)))))))))
def ux (R:ax) (x16:C7):Ty40:=some (.inr ([],0,x16))
def qf (R:ax) (x1:List C6) (x3 x8:Int) (x10:List B6):Ty40:=(R.1 x1 x8 x3).bind fun(x14,x15,x16)=>(if(decide (x16.Place≥0))=true then ux R x16 else(app 104 x10 ([x14]:List B6)).bind fun x20=>(de x1 x15 ([41]:Bt)).bind fun x22=>(if x22=true then(ez).bind fun x24=>some (.inr (x20,w64 (x15+1),x24))else(de x1 x15 ([44]:Bt)).bind fun x25=>(if(!x25)=true then(dh x15).bind fun x27=>some (.inr ([],0,x27))else some (.inl (w64 (x15+1),x20)))))
def sj (R:ax) (x1:List C6) (x2 x3:Int):Option ((List B6) × Int × C7):=(de x1 x2 ([41]:Bt)).bind fun x5=>(if x5=true then(ez).bind fun x7=>some ([],w64 (x2+1),x7)else iter (fun s=>qf R x1 x3 s.1 s.2) (x2,[]))
def agq (R:ax):ax:=((fun x1 x2 x3=>qm R x1 x2 x3),(fun x1 x2 x3 x4=>zt R x1 x2 x3 x4),(fun x1 x2 x3=>zs R x1 x2 x3),(fun x1 x2 x3=>vz R x1 x2 x3),(fun x1 x2 x3=>sj R x1 x2 x3))
def gn (n:Nat):ax:=Nat.rec (motive:=fun _=>ax) ((fun x1 x2 x3=>none),(fun x1 x2 x3 x4=>none),(fun x1 x2 x3=>none),(fun x1 x2 x3=>none),(fun x1 x2 x3=>none)) (fun _ R=>agq R) n
def n0 (x1:List C6) (x2 x3:Int):Ty41:=(gn 1048576).1 x1 x2 x3
def aab (x17:C7):Ty41:=some ((B6.mk 0 [] [] 0 0 0 0 0 []),0,x17)
def act (x1:List C6) (x2 x3:Int):Ty41:=(de x1 x2 ([118,111,105,100]:Bt)).bind fun x6=>(if x6=true then(dh x2).bind fun x8=>some ((B6.mk 0 [] [] 0 0 0 0 0 []),0,x8)else(lj x1 (w64 (x2+1))).bind fun x9=>(if(!x9)=true then(dh (w64 (x2+1))).bind fun x11=>some ((B6.mk 0 [] [] 0 0 0 0 0 []),0,x11)else(de x1 (w64 (x2+2)) ([61]:Bt)).bind fun x12=>(if(!x12)=true then(dh (w64 (x2+2))).bind fun x14=>some ((B6.mk 0 [] [] 0 0 0 0 0 []),0,x14)else(n0 x1 (w64 (x2+3)) (w64 (x3+1))).bind fun(x15,x16,x17)=>(if(decide (x17.Place≥0))=true then aab x17 else(de x1 x16 ([59]:Bt)).bind fun x21=>(if(!x21)=true then(dh x16).bind fun x23=>some ((B6.mk 0 [] [] 0 0 0 0 0 []),0,x23)else(gc x1 6 x2 (w64 (x16+1)) ([x15]:List B6)).bind fun x24=>(yn x1 x24 x2).bind fun x25=>(ez).bind fun x26=>some (x25,w64 (x16+1),x26))))))
def uw (x11:C7):Ty41:=some ((B6.mk 0 [] [] 0 0 0 0 0 []),0,x11)
def uv (x9:B6) (x10:Int) (x18:C7):Ty41:=some (x9,w64 (x10+1),x18)
def r8 (x1:List C6) (x2 x3:Int):Ty41:=(de x1 x2 ([40]:Bt)).bind fun x6=>(if(!x6)=true then(dh x2).bind fun x8=>some ((B6.mk 0 [] [] 0 0 0 0 0 []),0,x8)else(n0 x1 (w64 (x2+1)) x3).bind fun(x9,x10,x11)=>(if(decide (x11.Place≥0))=true then uw x11 else(de x1 x10 ([41]:Bt)).bind fun x15=>(if(!x15)=true then(dh x10).bind fun x17=>some ((B6.mk 0 [] [] 0 0 0 0 0 []),0,x17)else(ez).bind fun x18=>uv x9 x10 x18)))
def aaa (x10:C7):Ty41:=some ((B6.mk 0 [] [] 0 0 0 0 0 []),0,x10)
def z9 (x25:C7):Ty41:=some ((B6.mk 0 [] [] 0 0 0 0 0 []),0,x25)
def acr (x1:List C6) (x2 x3:Int):Ty41:=(de x1 x2 ([112,114,105,110,116]:Bt)).bind fun x6=>(if x6=true then(r8 x1 (w64 (x2+1)) (w64 (x3+1))).bind fun(x8,x9,x10)=>(if(decide (x10.Place≥0))=true then aaa x10 else(de x1 x9 ([59]:Bt)).bind fun x14=>(if(!x14)=true then(dh x9).bind fun x16=>some ((B6.mk 0 [] [] 0 0 0 0 0 []),0,x16)else(gc x1 12 x2 (w64 (x9+1)) ([x8]:List B6)).bind fun x17=>(ez).bind fun x18=>some (x17,w64 (x9+1),x18)))else(de x1 (w64 (x2+1)) ([59]:Bt)).bind fun x19=>(if x19=true then(gc x1 11 x2 (w64 (x2+2)) []).bind fun x21=>(ez).bind fun x22=>some (x21,w64 (x2+2),x22)else(n0 x1 (w64 (x2+1)) (w64 (x3+1))).bind fun(x23,x24,x25)=>(if(decide (x25.Place≥0))=true then z9 x25 else(de x1 x24 ([59]:Bt)).bind fun x29=>(if(!x29)=true then(dh x24).bind fun x31=>some ((B6.mk 0 [] [] 0 0 0 0 0 []),0,x31)else(gc x1 11 x2 (w64 (x24+1)) ([x23]:List B6)).bind fun x32=>(ez).bind fun x33=>some (x32,w64 (x24+1),x33)))))
abbrev co :Type:=((List C6)->Int->Int->Option (B6 × Int × C7)) × ((List C6)->Int->Int->Option (B6 × Int × C7)) × ((List C6)->Int->Int->Option (B6 × Int × C7))
def ab6 (R:co) (x1:List C6) (x2 x10:Int) (x11:List B6):Ty41:=(gc x1 5 x2 (w64 (x10+1)) x11).bind fun x34=>(ez).bind fun x35=>some (x34,w64 (x10+1),x35)
abbrev Ty43 :Type:=Option ((Int × (List B6)) ⊕ (Flow (Int × (List B6)) (B6 × Int × C7)))
def ab7 (R:co) (x30:C7):Ty43:=some (.inr (.done ((B6.mk 0 [] [] 0 0 0 0 0 []),0,x30)))
def uh (R:co) (x11:List B6) (x28:Int) (x29:B6) (x30:C7):Ty43:=(if(decide (x30.Place≥0))=true then ab7 R x30 else(app 104 x11 ([x29]:List B6)).bind fun x32=>some (.inl (x28,x32)))
def xh (R:co) (x1:List C6) (x3 x10:Int) (x11:List B6):Ty43:=(de x1 x10 ([125]:Bt)).bind fun x15=>(if(!x15)=true then(aeg x1 x10).bind fun x19=>(if x19=true then(act x1 x10 (w64 (x3+1))).bind fun(x21,x22,x23)=>(if(decide ((w64 (x3+1))>60))=true then uh R x11 x22 x21 (C7.mk x10 2)else uh R x11 x22 x21 x23)else(R.2.1 x1 x10 (w64 (x3+1))).bind fun(x25,x26,x27)=>uh R x11 x26 x25 x27)else some (.inr (.next (x10,x11))))
def zu (R:co) (x1:List C6) (x2 x3:Int):Ty41:=(de x1 x2 ([123]:Bt)).bind fun x6=>(if(!x6)=true then(dh x2).bind fun x8=>some ((B6.mk 0 [] [] 0 0 0 0 0 []),0,x8)else(iter (fun s=>xh R x1 x3 s.1 s.2) (w64 (x2+1),[])).bind fun z=>match z with| .next p=>ab6 R x1 x2 p.1 p.2| .done r=>some r)
def uu (R:co) (x30:C7):Ty41:=some ((B6.mk 0 [] [] 0 0 0 0 0 []),0,x30)
def qe (R:co) (x1:List C6) (x2 x45 x46:Int) (x48:List B6):Ty41:=(de x1 x45 ([59]:Bt)).bind fun x49=>(if(!x49)=true then(dh x45).bind fun x51=>some ((B6.mk 0 [] [] 0 0 0 0 0 []),0,x51)else(gc x1 x46 x2 (w64 (x45+1)) x48).bind fun x52=>(ez).bind fun x53=>some (x52,w64 (x45+1),x53))
def ut (R:co) (x39:C7):Ty41:=some ((B6.mk 0 [] [] 0 0 0 0 0 []),0,x39)
def nn (R:co) (x1:List C6) (x2 x3:Int) (x23:Bool):Ty41:=(if x23=true then(acr x1 x2 x3).bind fun(x25,x26,x27)=>some (x25,x26,x27)else(n0 x1 x2 (w64 (x3+1))).bind fun(x28,x29,x30)=>(if(decide (x30.Place≥0))=true then uu R x30 else(de x1 x29 ([61]:Bt)).bind fun x35=>(if x35=true then(n0 x1 (w64 (x29+1)) (w64 (x3+1))).bind fun(x37,x38,x39)=>(if(decide (x39.Place≥0))=true then ut R x39 else(app 104 ([x28]:List B6) ([x37]:List B6)).bind fun x43=>qe R x1 x2 x38 7 x43)else qe R x1 x2 x29 8 ([x28]:List B6))))
def nm (R:co) (x1:List C6) (x2 x3:Int) (x15:Bool):Ty41:=(if x15=true then(R.2.2 x1 x2 x3).bind fun(x17,x18,x19)=>some (x17,x18,x19)else(de x1 x2 ([114,101,116,117,114,110]:Bt)).bind fun x20=>(if x20=true then nn R x1 x2 x3 x20 else(de x1 x2 ([112,114,105,110,116]:Bt)).bind fun x22=>nn R x1 x2 x3 x22))
def si (R:co) (x1:List C6) (x2 x3:Int):Ty41:=(if(decide (x3>60))=true then some ((B6.mk 0 [] [] 0 0 0 0 0 []),0,(C7.mk x2 2))else(de x1 x2 ([123]:Bt)).bind fun x7=>(if x7=true then(R.1 x1 x2 x3).bind fun(x9,x10,x11)=>some (x9,x10,x11)else(de x1 x2 ([105,102]:Bt)).bind fun x12=>(if x12=true then nm R x1 x2 x3 x12 else(de x1 x2 ([119,104,105,108,101]:Bt)).bind fun x14=>nm R x1 x2 x3 x14)))
def yf (R:co) (x8:C7):Ty41:=some ((B6.mk 0 [] [] 0 0 0 0 0 []),0,x8)
def ye (R:co) (x14:C7):Ty41:=some ((B6.mk 0 [] [] 0 0 0 0 0 []),0,x14)
def tw (R:co) (x1:List C6) (x2 x33:Int) (x35:List B6):Ty41:=(gc x1 9 x2 x33 x35).bind fun x36=>(ez).bind fun x37=>some (x36,x33,x37)
def yd (R:co) (x27:C7):Ty41:=some ((B6.mk 0 [] [] 0 0 0 0 0 []),0,x27)
def wa (R:co) (x1:List C6) (x2 x3:Int):Ty41:=(r8 x1 (w64 (x2+1)) (w64 (x3+1))).bind fun(x6,x7,x8)=>(if(decide (x8.Place≥0))=true then yf R x8 else(R.2.1 x1 x7 (w64 (x3+1))).bind fun(x12,x13,x14)=>(if(decide (x14.Place≥0))=true then ye R x14 else(de x1 x2 ([119,104,105,108,101]:Bt)).bind fun x19=>(if x19=true then(gc x1 10 x2 x13 ([x6,x12]:List B6)).bind fun x21=>(ez).bind fun x22=>some (x21,x13,x22)else(de x1 x13 ([101,108,115,101]:Bt)).bind fun x23=>(if x23=true then(R.2.1 x1 (w64 (x13+1)) (w64 (x3+1))).bind fun(x25,x26,x27)=>(if(decide (x27.Place≥0))=true then yd R x27 else(app 104 ([x6,x12]:List B6) ([x25]:List B6)).bind fun x31=>tw R x1 x2 x26 x31)else tw R x1 x2 x13 ([x6,x12]:List B6)))))
def ajs (R:co):co:=((fun x1 x2 x3=>zu R x1 x2 x3),(fun x1 x2 x3=>si R x1 x2 x3),(fun x1 x2 x3=>wa R x1 x2 x3))
def np (n:Nat):co:=Nat.rec (motive:=fun _=>co) ((fun x1 x2 x3=>none),(fun x1 x2 x3=>none),(fun x1 x2 x3=>none)) (fun _ R=>ajs R) n
def akg (x1:List C6) (x2 x3:Int):Ty41:=(np 1048576).1 x1 x2 x3
def vr (x45:B6) (x37:Int) (x46:C7):Ty41:=some (x45,x37,x46)
def r7 (x37:Int) (x45:B6):Ty41:=(ez).bind fun x46=>vr x45 x37 x46
def r6 (x1:List C6) (x2 x7:Int) (x5:Bool) (x37 x38:Int) (x40:List B6):Ty41:=(gc x1 x38 x2 x37 x40).bind fun x41=>(yn x1 x41 x7).bind fun x42=>(if x5=true then r7 x37 ({x42 with N:=1})else r7 x37 x42)
def vq (x24:C7):Ty41:=some ((B6.mk 0 [] [] 0 0 0 0 0 []),0,x24)
def vp (x30:C7):Ty41:=some ((B6.mk 0 [] [] 0 0 0 0 0 []),0,x30)
def ne (x1:List C6) (x2:Int) (x5:Bool) (x7:Int):Ty41:=(ad9 x1 x7).bind fun x8=>(if(!x8)=true then(dh x7).bind fun x10=>some ((B6.mk 0 [] [] 0 0 0 0 0 []),0,x10)else(lj x1 (w64 (x7+1))).bind fun x11=>(if(!x11)=true then(dh (w64 (x7+1))).bind fun x13=>some ((B6.mk 0 [] [] 0 0 0 0 0 []),0,x13)else(de x1 (w64 (x7+2)) ([59]:Bt)).bind fun x15=>(if x15=true then(de x1 x7 ([118,111,105,100]:Bt)).bind fun x17=>(if x17=true then(dh (w64 (x7+2))).bind fun x19=>some ((B6.mk 0 [] [] 0 0 0 0 0 []),0,x19)else r6 x1 x2 x7 x5 (w64 ((w64 (x7+2))+1)) 2 [])else(de x1 (w64 (x7+2)) ([40]:Bt)).bind fun x20=>(if x20=true then(acs x1 (w64 ((w64 (x7+2))+1))).bind fun(x22,x23,x24)=>(if(decide (x24.Place≥0))=true then vq x24 else(akg x1 x23 1).bind fun(x28,x29,x30)=>(if(decide (x30.Place≥0))=true then vp x30 else(app 104 x22 ([x28]:List B6)).bind fun x34=>r6 x1 x2 x7 x5 x29 3 x34))else(dh (w64 (x7+2))).bind fun x36=>some ((B6.mk 0 [] [] 0 0 0 0 0 []),0,x36)))))
def su (x1:List C6) (x2:Int):Ty41:=(de x1 x2 ([115,116,97,116,105,99]:Bt)).bind fun x5=>(if x5=true then ne x1 x2 x5 (w64 (x2+1))else ne x1 x2 x5 x2)
def ab5 (x44:B6) (x21:Int) (x45:C7):Ty41:=some (x44,w64 (x21+1),x45)
def xg (x21:Int) (x44:B6):Ty41:=(ez).bind fun x45=>ab5 x44 x21 x45
def xf (x1:List C6) (x2 x17 x21:Int) (x23:List B6):Ty41:=(gc x1 1 x2 (w64 (x21+1)) x23).bind fun x37=>(idx x1 (w64 (x2+1))).bind fun x39=>(idx x1 (w64 (x2+1))).bind fun x40=>(if(decide (x17≥0))=true then(idx x1 x17).bind fun x42=>(idx x1 x17).bind fun x43=>xg x21 ({{{{x37 with Text:=x39.Text} with At:=x40.At} with Type_:=x42.Text} with TypeAt:=x43.At})else xg x21 ({{x37 with Text:=x39.Text} with At:=x40.At}))
def ab4 (x31:C7):Ty43:=some (.inr (.done ((B6.mk 0 [] [] 0 0 0 0 0 []),0,x31)))
def xe (x1:List C6) (x21:Int) (x23:List B6):Ty43:=(de x1 x21 ([125]:Bt)).bind fun x27=>(if(!x27)=true then(su x1 x21).bind fun(x29,x30,x31)=>(if(decide (x31.Place≥0))=true then ab4 x31 else(app 104 x23 ([x29]:List B6)).bind fun x35=>some (.inl (x30,x35)))else some (.inr (.next (x21,x23))))
def ug (x1:List C6) (x2 x16 x17:Int):Ty41:=(de x1 x16 ([123]:Bt)).bind fun x18=>(if(!x18)=true then(dh x16).bind fun x20=>some ((B6.mk 0 [] [] 0 0 0 0 0 []),0,x20)else(iter (fun s=>xe x1 s.1 s.2) (w64 (x16+1),[])).bind fun z=>match z with| .next p=>xf x1 x2 x17 p.1 p.2| .done r=>some r)
def aeh (x1:List C6) (x2:Int):Ty41:=(de x1 x2 ([99,108,97,115,115]:Bt)).bind fun x5=>(if(!x5)=true then(dh x2).bind fun x7=>some ((B6.mk 0 [] [] 0 0 0 0 0 []),0,x7)else(lj x1 (w64 (x2+1))).bind fun x8=>(if(!x8)=true then(dh (w64 (x2+1))).bind fun x10=>some ((B6.mk 0 [] [] 0 0 0 0 0 []),0,x10)else(de x1 (w64 (x2+2)) ([101,120,116,101,110,100,115]:Bt)).bind fun x11=>(if x11=true then(lj x1 (w64 ((w64 (x2+2))+1))).bind fun x13=>(if(!x13)=true then(dh (w64 ((w64 (x2+2))+1))).bind fun x15=>some ((B6.mk 0 [] [] 0 0 0 0 0 []),0,x15)else ug x1 x2 (w64 ((w64 (x2+2))+2)) (w64 ((w64 (x2+2))+1)))else ug x1 x2 (w64 (x2+2)) (-1))))
def yc (x2:C7) (x5:C6):Ty16:=some (B4.mk x2.Code 0 x5.At)
def zi (x1:List C6) (x2:C7):Ty16:=(idx x1 (if(w64 ((x1.length:Int) - 1))<x2.Place then(w64 ((x1.length:Int) - 1))else x2.Place)).bind fun x5=>yc x2 x5
abbrev ke :Type:=(B6->Option (Int))
def ab9 (R:ke) (x3:Int):Ty15:=some (w64 (x3+1))
def xk (R:ke) (x1:B6) (x3 x4:Int):Ty25:=(if(decide (x4<(x1.Kids.length:Int)))=true then(idx x1.Kids x4).bind fun x8=>(R x8).bind fun x9=>some (.inl ((if x9>x3 then x9 else x3),w64 (x4+1)))else some (.inr x3))
def zw (R:ke) (x1:B6):Ty15:=(iter (fun s=>xk R x1 s.1 s.2) (0,0)).bind fun p=>ab9 R p
def ajt (R:ke):ke:=(fun x1=>zw R x1)
def qg (n:Nat):ke:=Nat.rec (motive:=fun _=>ke) (fun x1=>none) (fun _ R=>ajt R) n
def ao1 (x1:B6):Ty15:=(qg 1048576) x1
abbrev Ty44 :Type:=Option ((List B6) × B4)
def ad0 (x9:List B6):Ty44:=some (x9,(B4.mk 0 0 0))
abbrev Ty45 :Type:=Option ((Int) ⊕ (Flow Unit ((List B6) × B4)))
def ad1 (x30:B6):Ty45:=some (.inr (.done ([],(B4.mk 2 0 x30.From))))
def zk (x9:List B6) (x24:Int):Ty45:=(if(decide (x24<(x9.length:Int)))=true then(idx x9 x24).bind fun x27=>(ao1 x27).bind fun x28=>(if(decide (x28>200))=true then(idx x9 x24).bind fun x30=>ad1 x30 else some (.inl (w64 (x24+1))))else some (.inr (.next ())))
def adz (x9:List B6):Ty44:=(iter (fun s=>zk x9 s) 0).bind fun z=>match z with| .next p=>ad0 x9| .done r=>some r
def zj (x3:List C6) (x8:Int) (x9:List B6):Option ((Int × (List B6)) ⊕ (Flow (List B6) ((List B6) × B4))):=(idx x3 x8).bind fun x13=>(if(x13.Kind != 5)=true then(aeh x3 x8).bind fun(x15,x16,x17)=>(if(decide (x17.Place≥0))=true then(zi x3 x17).bind fun x21=>some (.inr (.done ([],x21)))else(app 104 x9 ([x15]:List B6)).bind fun x22=>some (.inl (x16,x22)))else some (.inr (.next x9)))
def aav (x1:Bt):Ty44:=(aik x1).bind fun(x3,x4,x5)=>(if(x5 != 0)=true then some ([],(B4.mk x5 0 x4))else(iter (fun s=>zj x3 s.1 s.2) (0,[])).bind fun z=>match z with| .next p=>adz p| .done r=>some r)
def av1 :Option (Bool):=some false
def ahm (x1:List Bt) (x2:Bt) (x3:Int):Ty14:=(if(decide (x3<(x1.length:Int)))=true then(idx x1 x3).bind fun x6=>(if(x6==x2)=true then some (.inr (.done true))else some (.inl (w64 (x3+1))))else some (.inr (.next ())))
def ano (x1:List Bt) (x2:Bt):Ty12:=(iter (fun s=>ahm x1 x2 s) 0).bind fun z=>match z with| .next p=>av1| .done r=>some r
def ap8 :Option (B0 × Bool):=some ((B0.mk 0 [] [] [] [] false [] 0 0),false)
def af5 (x1:List B0) (x4:Int) (x10:Bool):Ty10:=(if x10=true then(idx x1 x4).bind fun x12=>some (.inr (.done (x12,true)))else some (.inl (w64 (x4+1))))
def abg (x1:List B0) (x2:Bt) (x4:Int):Ty10:=(if(decide (x4<(x1.length:Int)))=true then(idx x1 x4).bind fun x7=>(if(x7.Kind==1)=true then(idx x1 x4).bind fun x9=>af5 x1 x4 (x9.Id==x2)else af5 x1 x4 false)else some (.inr (.next ())))
def akc (x1:List B0) (x2:Bt):Ty11:=(iter (fun s=>abg x1 x2 s) 0).bind fun z=>match z with| .next p=>ap8| .done r=>some r
def af6 (x5:List Bt) (x3:Bt) (x9:B0) (x14:Bool):Option ((Bt × (List Bt)) ⊕ ((List Bt))):=(if x14=true then some (.inr x5)else(app 16 x5 ([x3]:List Bt)).bind fun x16=>some (.inl (x9.Type_,x16)))
def abh (x1:List B0) (x3:Bt) (x5:List Bt):Option ((Bt × (List Bt)) ⊕ ((List Bt))):=(akc x1 x3).bind fun(x9,x10)=>(ano x5 x3).bind fun x12=>(if(!x10)=true then af6 x5 x3 x9 true else af6 x5 x3 x9 x12)
def aoz (x1:List B0) (x2:Bt):Option ((List Bt)):=iter (fun s=>abh x1 s.1 s.2) (x2,[])
def akd (x1:List B0) (x2 x3:Bt):Ty12:=(aoz x1 x2).bind fun x4=>(ano x4 x3).bind fun x5=>some x5
def ana :Option (B0 × Bool):=some ((B0.mk 0 [] [] [] [] false [] 0 0),false)
def adf (x1:List B0) (x4:Int) (x10:Bool):Ty10:=(if x10=true then(idx x1 x4).bind fun x12=>some (.inr (.done (x12,true)))else some (.inl (w64 (x4+1))))
def xu (x1:List B0) (x2:Bt) (x4:Int):Ty10:=(if(decide (x4<(x1.length:Int)))=true then(idx x1 x4).bind fun x7=>(if(x7.Kind==1)=true then(idx x1 x4).bind fun x9=>adf x1 x4 (x9.Id==x2)else adf x1 x4 false)else some (.inr (.next ())))
def adx (x1:List B0) (x2:Bt):Ty11:=(iter (fun s=>xu x1 x2 s) 0).bind fun z=>match z with| .next p=>ana| .done r=>some r
def qo (x1:C8) (x8:List B0):Option (C8):=some ({x1 with Scope:={x1.Scope with Seen:=x8}})
def jd (x1:C8) (x2:B6):Option (C8):=(y6 x1.Scope.Seen).bind fun x6=>(app 120 x6 ([(B0.mk 4 [] x2.Text [] x2.Type_ false [] 0 0)]:List B0)).bind fun x8=>qo x1 x8
def fw :Option (Int):=some (-1)
def dg (x1:List B0) (x2:(B0->Option Bool)) (x3:Int):Ty17:=(if(decide (x3<(x1.length:Int)))=true then(idx x1 x3).bind fun x6=>(x2 x6).bind fun x7=>(if x7=true then some (.inr (.done x3))else some (.inl (w64 (x3+1))))else some (.inr (.next ())))
def gw (x1:List B0) (x2:(B0->Option Bool)):Ty15:=(iter (fun s=>dg x1 x2 s) 0).bind fun z=>match z with| .next p=>fw| .done r=>some r
def fx (x1:List B0) (x2:(B0->Option Bool)):Ty12:=(gw x1 x2).bind fun x3=>some (decide (x3≥0))
def tq (x5:Bool):Ty12:=some x5
def s8 (x1:B0) (x2:Bt):Ty12:=(if(x1.Kind==1)=true then tq (x1.Id==x2)else tq false)
def aax (x1:List B0) (x2:Bt):Ty12:=(fx x1 (fun a0=>s8 a0 x2)).bind fun x4=>some x4
def y5 (x12:Bool):Ty12:=some x12
def acm (x18:Bool):Ty12:=some x18
def acl (x2 x3:Bt) (x4:Bool) (x1:List B0) (x6:Bool):Ty12:=(if x6=true then some false else(if(x2==x3)=true then(if x4=true then y5 true else(if(x3==([105,110,116]:Bt))=true then y5 true else y5 (x3==([98,111,111,108,101,97,110]:Bt))))else(if(!x4)=true then some false else(if(x2==([110,117,108,108]:Bt))=true then some true else(aax x1 x2).bind fun x15=>(if x15=true then(ag1 x1 x2 x3).bind fun x17=>acm x17 else acm false)))))
def o5 (x1:List B0) (x2 x3:Bt):Ty12:=(aax x1 x3).bind fun x4=>(if(x2==[])=true then acl x2 x3 x4 x1 true else acl x2 x3 x4 x1 (x2==([118,111,105,100]:Bt)))
abbrev Ty46 :Type:=Option (PX D0 Unit)
def du (x1:C8) (x2:Bool) (x3 x4:Int):Ty46:=(if(!x2)=true then some (.bad (D0.mk (B4.mk x3 x1.file x4)))else some (.ok ()))
def mx (x5:Bool):Ty12:=some x5
def k9 (x1 x2 x3:Bt):Ty12:=(if(x2==x1)=true then mx (x3==x1)else mx false)
def ll :Option (Bt):=some []
def mt (x37:Bool):Ty1:=(if x37=true then some ([98,111,111,108,101,97,110]:Bt)else ll)
def ms (x1:List B0) (x3 x4:Bt) (x28:Bool):Ty1:=(if x28=true then(o5 x1 x3 x4).bind fun x30=>(if x30=true then mt true else(o5 x1 x4 x3).bind fun x32=>(if x32=true then mt true else(k9 ([110,117,108,108]:Bt) x3 x4).bind fun x34=>mt x34))else ll)
def mr (x3 x4 x2:Bt) (x1:List B0) (x23:Bool):Ty1:=(if x23=true then(k9 ([98,111,111,108,101,97,110]:Bt) x3 x4).bind fun x25=>(if x25=true then some ([98,111,111,108,101,97,110]:Bt)else ll)else(if(x2==([61,61]:Bt))=true then ms x1 x3 x4 (x2==([61,61]:Bt))else ms x1 x3 x4 (x2==([33,61]:Bt))))
def j7 (x3 x4 x2:Bt) (x1:List B0) (x18:Bool):Ty1:=(if x18=true then(k9 ([105,110,116]:Bt) x3 x4).bind fun x20=>(if x20=true then some ([98,111,111,108,101,97,110]:Bt)else ll)else(if(x2==([38,38]:Bt))=true then mr x3 x4 x2 x1 (x2==([38,38]:Bt))else mr x3 x4 x2 x1 (x2==([124,124]:Bt))))
def i5 (x3 x4 x2:Bt) (x1:List B0) (x11:Bool):Ty1:=(if x11=true then(k9 ([105,110,116]:Bt) x3 x4).bind fun x13=>(if x13=true then some ([105,110,116]:Bt)else ll)else(if(x2==([60]:Bt))=true then j7 x3 x4 x2 x1 (x2==([60]:Bt))else(if(x2==([60,61]:Bt))=true then j7 x3 x4 x2 x1 (x2==([60,61]:Bt))else(if(x2==([62]:Bt))=true then j7 x3 x4 x2 x1 (x2==([62]:Bt))else j7 x3 x4 x2 x1 (x2==([62,61]:Bt))))))
def jz (x1:List B0) (x2 x3 x4:Bt):Ty1:=(if(x2==([43]:Bt))=true then i5 x3 x4 x2 x1 (x2==([43]:Bt))else(if(x2==([45]:Bt))=true then i5 x3 x4 x2 x1 (x2==([45]:Bt))else(if(x2==([42]:Bt))=true then i5 x3 x4 x2 x1 (x2==([42]:Bt))else(if(x2==([47]:Bt))=true then i5 x3 x4 x2 x1 (x2==([47]:Bt))else i5 x3 x4 x2 x1 (x2==([37]:Bt))))))
def lr (x9:Bool):Ty12:=some x9
def jv (x1:C8) (x2:B6):Ty12:=(sh x1.Scope x2).bind fun(x5,x6)=>(if(x2.Kind==17)=true then lr (x5.Kind==1)else lr false)
abbrev bk :Type:=(C8->B6->Bool->Option (PX D0 Unit)) × (C8->B6->(List Bt)->Option (PX D0 Unit)) × (C8->B6->(List B6)->Option (PX D0 Unit))
def ma (R:bk) (x2:B6) (x1:C8):Ty46:=(subL x2.Kids 1 (x2.Kids.length:Int)).bind fun x21=>(l4 (R.2.2 x1 x2 x21) (fun m23=>some (.bad m23)) fun _=>some (.ok ()))
def l9 (R:bk) (x1:C8) (x2 x36 x37:B6):Ty46:=(l4 (R.1 x1 x36 false) (fun m48=>some (.bad m48)) fun _=>(l4 (R.1 x1 x37 false) (fun m47=>some (.bad m47)) fun _=>(k8 x1.Scope x36).bind fun x42=>(k8 x1.Scope x37).bind fun x43=>(jz x1.Scope.Table x2.Text x42 x43).bind fun x44=>(l4 (du x1 (!(x44==[])) 180 x2.From) (fun m46=>some (.bad m46)) fun _=>some (.ok ()))))
def io (R:bk) (x1:C8) (x2:B6) (x3:Bool):Ty46:=(if(x2.Kind==17)=true then(if x3=true then(l4 (du x1 true 170 x2.At) (fun m12=>some (.bad m12)) fun _=>some (.ok ()))else(jv x1 x2).bind fun x8=>(l4 (du x1 (!x8) 170 x2.At) (fun m10=>some (.bad m10)) fun _=>some (.ok ())))else(if(x2.Kind==18)=true then(idx x2.Kids 0).bind fun x14=>(l4 (R.1 x1 x14 true) (fun m16=>some (.bad m16)) fun _=>some (.ok ()))else(if(x2.Kind==20)=true then(idx x2.Kids 0).bind fun x18=>(l4 (R.1 x1 x18 true) (fun m20=>some (.bad m20)) fun _=>ma R x2 x1)else(if(x2.Kind==19)=true then(l4 (R.2.2 x1 x2 x2.Kids) (fun m26=>some (.bad m26)) fun _=>some (.ok ()))else(if(x2.Kind==22)=true then(idx x2.Kids 0).bind fun x28=>(l4 (R.2.1 x1 x28 ([([98,111,111,108,101,97,110]:Bt)]:List Bt)) (fun m30=>some (.bad m30)) fun _=>some (.ok ()))else(if(x2.Kind==23)=true then(idx x2.Kids 0).bind fun x32=>(l4 (R.2.1 x1 x32 ([([105,110,116]:Bt)]:List Bt)) (fun m34=>some (.bad m34)) fun _=>some (.ok ()))else(if(x2.Kind==24)=true then(idx x2.Kids 0).bind fun x36=>(idx x2.Kids 1).bind fun x37=>l9 R x1 x2 x36 x37 else some (.ok ()))))))))
def mf (R:bk) (x1:C8) (x2:B6) (x3:List Bt):Ty46:=(l4 (R.1 x1 x2 false) (fun m11=>some (.bad m11)) fun _=>(k8 x1.Scope x2).bind fun x7=>(fj x3 x7).bind fun x8=>(l4 (du x1 x8 180 x2.From) (fun m10=>some (.bad m10)) fun _=>some (.ok ())))
def pp (R:bk):Ty46:=some (.ok ())
abbrev Ty47 :Type:=Option ((Int) ⊕ (Flow Unit (PX D0 Unit)))
def fm (R:bk) (x3:List B6) (x1:C8) (x13:B0) (x17:Int):Ty47:=(if(decide (x17<(x3.length:Int)))=true then(idx x3 x17).bind fun x20=>(k8 x1.Scope x20).bind fun x22=>(idx x13.Params x17).bind fun x23=>(o5 x1.Scope.Table x22 x23).bind fun x24=>(l4 (du x1 x24 180 x20.From) (fun m26=>some (.inr (.done (.bad m26)))) fun _=>some (.inl (w64 (x17+1))))else some (.inr (.next ())))
def mj (R:bk) (x1:C8) (x2:B6) (x3:List B6):Ty46:=(sh x1.Scope x2).bind fun(x13,x14)=>(l4 (du x1 ((x3.length:Int)==(x13.Params.length:Int)) 181 x2.At) (fun m27=>some (.bad m27)) fun _=>(iter (fun s=>fm R x3 x1 x13 s) 0).bind fun z=>match z with| .next p=>pp R| .done r=>some r)
def fk (R:bk) (x3:List B6) (x1:C8) (x6:Int):Ty47:=(if(decide (x6<(x3.length:Int)))=true then(idx x3 x6).bind fun x9=>(l4 (R.1 x1 x9 false) (fun m12=>some (.inr (.done (.bad m12)))) fun _=>some (.inl (w64 (x6+1))))else some (.inr (.next ())))
def i7 (R:bk) (x1:C8) (x2:B6) (x3:List B6):Ty46:=(iter (fun s=>fk R x3 x1 s) 0).bind fun z=>match z with| .next p=>mj R x1 x2 x3| .done r=>some r
def aaj (R:bk):bk:=((fun x1 x2 x3=>io R x1 x2 x3),(fun x1 x2 x3=>mf R x1 x2 x3),(fun x1 x2 x3=>i7 R x1 x2 x3))
def ep (n:Nat):bk:=Nat.rec (motive:=fun _=>bk) ((fun x1 x2 x3=>none),(fun x1 x2 x3=>none),(fun x1 x2 x3=>none)) (fun _ R=>aaj R) n
def jo (x1:C8) (x2:B6) (x3:Bool):Ty46:=(ep 1048576).1 x1 x2 x3
def qc (x1:C8) (x2:B6) (x3:List Bt):Ty46:=(ep 1048576).2.1 x1 x2 x3
def kq (x1:C8) (x2:B6) (x3:Bt):Ty46:=(l4 (jo x1 x2 false) (fun m11=>some (.bad m11)) fun _=>(k8 x1.Scope x2).bind fun x7=>(o5 x1.Scope.Table x7 x3).bind fun x8=>(l4 (du x1 x8 180 x2.From) (fun m10=>some (.bad m10)) fun _=>some (.ok ())))
def mw (x1:C8) (x2:B6):Ty46:=(idx x2.Kids 0).bind fun x5=>(l4 (kq x1 x5 x2.Type_) (fun m7=>some (.bad m7)) fun _=>some (.ok ()))
def ja (x1:C8) (x5 x2:B6):Ty46:=(l4 (jo x1 x5 false) (fun m21=>some (.bad m21)) fun _=>(idx x2.Kids 1).bind fun x17=>(k8 x1.Scope x5).bind fun x18=>(l4 (kq x1 x17 x18) (fun m20=>some (.bad m20)) fun _=>some (.ok ())))
def ox (x1:C8) (x2:B6):Ty46:=(idx x2.Kids 0).bind fun x5=>(if(x5.Kind==18)=true then(l4 (du x1 true 182 x5.From) (fun m15=>some (.bad m15)) fun _=>ja x1 x5 x2)else(if(x5.Kind==17)=true then(jv x1 x5).bind fun x9=>(l4 (du x1 (!x9) 182 x5.From) (fun m11=>some (.bad m11)) fun _=>ja x1 x5 x2)else(l4 (du x1 false 182 x5.From) (fun m13=>some (.bad m13)) fun _=>ja x1 x5 x2)))
def pd (x1:C8) (x5:B6):Ty46:=(l4 (jo x1 x5 false) (fun m13=>some (.bad m13)) fun _=>some (.ok ()))
def pv (x1:C8) (x2:B6):Ty46:=(idx x2.Kids 0).bind fun x5=>(if(x5.Kind==19)=true then(l4 (du x1 true 182 x5.From) (fun m11=>some (.bad m11)) fun _=>pd x1 x5)else(l4 (du x1 (x5.Kind==20) 182 x5.From) (fun m9=>some (.bad m9)) fun _=>pd x1 x5))
def nk (x1:C8) (x2:B6):Ty46:=(if((x2.Kids.length:Int)==0)=true then(l4 (du x1 (x1.kind==([118,111,105,100]:Bt)) 180 x2.From) (fun m7=>some (.bad m7)) fun _=>some (.ok ()))else(idx x2.Kids 0).bind fun x8=>(l4 (kq x1 x8 x1.kind) (fun m10=>some (.bad m10)) fun _=>some (.ok ())))
def nj (x1:C8) (x2:B6):Ty46:=(idx x2.Kids 0).bind fun x5=>(l4 (qc x1 x5 ([([105,110,116]:Bt),([98,111,111,108,101,97,110]:Bt)]:List Bt)) (fun m7=>some (.bad m7)) fun _=>some (.ok ()))
abbrev bp :Type:=(C8->B6->Option (PX D0 Unit)) × (C8->B6->Option (PX D0 Unit)) × (C8->B6->Option (PX D0 Unit))
def c6 (R:bp) (x1:C8) (x2:B6):Ty46:=(if(ghas x2.Kind (gset 5 (some 149) (gset 12 (some 148) (gset 11 (some 147) (gset 10 (some 146) (gset 9 (some 146) (gset 8 (some 145) (gset 7 (some 144) (gset 6 (some 143) ([]:GMap Int (Option Nat)))))))))))=true then(if decide ((gget x2.Kind none (gset 5 (some 149) (gset 12 (some 148) (gset 11 (some 147) (gset 10 (some 146) (gset 9 (some 146) (gset 8 (some 145) (gset 7 (some 144) (gset 6 (some 143) ([]:GMap Int (Option Nat)))))))))))=some 143)=true then(l4 (mw x1 x2) (fun m9=>some (.bad m9)) fun _=>some (.ok ()))else(if decide ((gget x2.Kind none (gset 5 (some 149) (gset 12 (some 148) (gset 11 (some 147) (gset 10 (some 146) (gset 9 (some 146) (gset 8 (some 145) (gset 7 (some 144) (gset 6 (some 143) ([]:GMap Int (Option Nat)))))))))))=some 144)=true then(l4 (ox x1 x2) (fun m12=>some (.bad m12)) fun _=>some (.ok ()))else(if decide ((gget x2.Kind none (gset 5 (some 149) (gset 12 (some 148) (gset 11 (some 147) (gset 10 (some 146) (gset 9 (some 146) (gset 8 (some 145) (gset 7 (some 144) (gset 6 (some 143) ([]:GMap Int (Option Nat)))))))))))=some 145)=true then(l4 (pv x1 x2) (fun m15=>some (.bad m15)) fun _=>some (.ok ()))else(if decide ((gget x2.Kind none (gset 5 (some 149) (gset 12 (some 148) (gset 11 (some 147) (gset 10 (some 146) (gset 9 (some 146) (gset 8 (some 145) (gset 7 (some 144) (gset 6 (some 143) ([]:GMap Int (Option Nat)))))))))))=some 146)=true then(l4 (R.2.1 x1 x2) (fun m18=>some (.bad m18)) fun _=>some (.ok ()))else(if decide ((gget x2.Kind none (gset 5 (some 149) (gset 12 (some 148) (gset 11 (some 147) (gset 10 (some 146) (gset 9 (some 146) (gset 8 (some 145) (gset 7 (some 144) (gset 6 (some 143) ([]:GMap Int (Option Nat)))))))))))=some 147)=true then(l4 (nk x1 x2) (fun m21=>some (.bad m21)) fun _=>some (.ok ()))else(if decide ((gget x2.Kind none (gset 5 (some 149) (gset 12 (some 148) (gset 11 (some 147) (gset 10 (some 146) (gset 9 (some 146) (gset 8 (some 145) (gset 7 (some 144) (gset 6 (some 143) ([]:GMap Int (Option Nat)))))))))))=some 148)=true then(l4 (nj x1 x2) (fun m24=>some (.bad m24)) fun _=>some (.ok ()))else(if decide ((gget x2.Kind none (gset 5 (some 149) (gset 12 (some 148) (gset 11 (some 147) (gset 10 (some 146) (gset 9 (some 146) (gset 8 (some 145) (gset 7 (some 144) (gset 6 (some 143) ([]:GMap Int (Option Nat)))))))))))=some 149)=true then(l4 (R.2.2 x1 x2) (fun m27=>some (.bad m27)) fun _=>some (.ok ()))else none)))))))else some (.ok ()))
def sl (R:bp):Ty46:=some (.ok ())
def fy (R:bp) (x8:List B6) (x1:C8) (x9:Int):Ty47:=(if(decide (x9<(x8.length:Int)))=true then(idx x8 x9).bind fun x12=>(l4 (R.1 x1 x12) (fun m15=>some (.inr (.done (.bad m15)))) fun _=>some (.inl (w64 (x9+1))))else some (.inr (.next ())))
def nu (R:bp) (x2:B6) (x1:C8):Ty46:=(subL x2.Kids 1 (x2.Kids.length:Int)).bind fun x8=>(iter (fun s=>fy R x8 x1 s) 0).bind fun z=>match z with| .next p=>sl R| .done r=>some r
def kf (R:bp) (x1:C8) (x2:B6):Ty46:=(idx x2.Kids 0).bind fun x5=>(l4 (qc x1 x5 ([([98,111,111,108,101,97,110]:Bt)]:List Bt)) (fun m7=>some (.bad m7)) fun _=>nu R x2 x1)
def un (R:bp) (x6:C8):Ty46:=some (.ok ())
abbrev Ty48 :Type:=Option ((Int × C8) ⊕ (Flow C8 (PX D0 Unit)))
def mo (R:bp) (x5:Int) (x16:C8) (x10:B6):Ty48:=some (.inl (w64 (x5+1),x16))
def ia (R:bp) (x2:B6) (x5:Int) (x6:C8):Ty48:=(if(decide (x5<(x2.Kids.length:Int)))=true then(idx x2.Kids x5).bind fun x10=>(l4 (R.1 x6 x10) (fun m15=>some (.inr (.done (.bad m15)))) fun _=>(if(x10.Kind==6)=true then(jd x6 x10).bind fun x14=>mo R x5 x14 x10 else mo R x5 x6 x10))else some (.inr (.next x6)))
def lq (R:bp) (x1:C8) (x2:B6):Ty46:=(iter (fun s=>ia R x2 s.1 s.2) (0,x1)).bind fun z=>match z with| .next p=>un R p| .done r=>some r
def aak (R:bp):bp:=((fun x1 x2=>c6 R x1 x2),(fun x1 x2=>kf R x1 x2),(fun x1 x2=>lq R x1 x2))
def f0 (n:Nat):bp:=Nat.rec (motive:=fun _=>bp) ((fun x1 x2=>none),(fun x1 x2=>none),(fun x1 x2=>none)) (fun _ R=>aak R) n
def aai (x1:C8) (x2:B6):Ty46:=(f0 1048576).1 x1 x2
def zy (x4:B6) (x9:C8):Ty46:=(idx x4.Kids (w64 ((x4.Kids.length:Int) - 1))).bind fun x16=>(l4 (aai x9 x16) (fun m18=>some (.bad m18)) fun _=>some (.ok ()))
def gl (x7:List B6) (x8:Int) (x9:C8):Option ((Int × C8) ⊕ (C8)):=(if(decide (x8<(x7.length:Int)))=true then(idx x7 x8).bind fun x13=>(jd x9 x13).bind fun x15=>some (.inl (w64 (x8+1),x15))else some (.inr x9))
def ss (x1:List B0) (x2:Bt) (x3:Int) (x4:B6):Ty46:=(subL x4.Kids 0 (w64 ((x4.Kids.length:Int) - 1))).bind fun x7=>(iter (fun s=>gl x7 s.1 s.2) (0,(C8.mk (B7.mk x1 x2 (x4.N==1) []) x4.Type_ x3))).bind fun p=>zy x4 p
def aac (x5:List (List B6)):Option ((List (List B6)) × Bool):=some (x5,true)
def r9 (x1:List Bt) (x4:Int) (x5:List (List B6)):Option ((Int × (List (List B6))) ⊕ (Flow (List (List B6)) ((List (List B6)) × Bool))):=(if(decide (x4<(x1.length:Int)))=true then(idx x1 x4).bind fun x10=>(if(decide ((x10.length:Int)>1500))=true then some (.inr (.done ([],false)))else(idx x1 x4).bind fun x12=>(aav x12).bind fun(x13,x14)=>(if(x14.Code != 0)=true then some (.inr (.done ([],false)))else(app 24 x5 ([x13]:List (List B6))).bind fun x17=>some (.inl (w64 (x4+1),x17))))else some (.inr (.next x5)))
def acv (x1:List Bt):Option ((List (List B6)) × Bool):=(if(decide ((x1.length:Int)>6))=true then some ([],false)else(iter (fun s=>r9 x1 s.1 s.2) (0,[])).bind fun z=>match z with| .next p=>aac p| .done r=>some r)
def afb (x23:Bool):Ty12:=some x23
def acp (x8:Bool) (x1:List B0) (x2 x3:Bt) (x14:Bool):Ty12:=(if x14=true then some true else(if(!x8)=true then some false else(adx x1 x2).bind fun(x17,x18)=>(akd x1 x2 x3).bind fun x20=>(if(x2==([110,117,108,108]:Bt))=true then afb true else(if x18=true then afb x20 else afb false))))
def ait (x1:List B0) (x3 x2:Bt) (x5:Bool):Ty12:=(if x5=true then some false else(adx x1 x3).bind fun(x7,x8)=>(if(x2==x3)=true then(if(x3==([105,110,116]:Bt))=true then acp x8 x1 x2 x3 true else(if(x3==([98,111,111,108,101,97,110]:Bt))=true then acp x8 x1 x2 x3 true else acp x8 x1 x2 x3 x8))else acp x8 x1 x2 x3 false))
def aij (x1:List B0) (x2 x3:Bt):Ty12:=(if(x2==[])=true then ait x1 x3 x2 true else ait x1 x3 x2 (x2==([118,111,105,100]:Bt)))
def av0 :Option (Bool):=some false
def ahk (x2:List Bt) (x1:Bt) (x3:Int):Ty14:=(if(decide (x3<(x2.length:Int)))=true then(idx x2 x3).bind fun x6=>(if(x6==x1)=true then some (.inr (.done true))else some (.inl (w64 (x3+1))))else some (.inr (.next ())))
def ajh (x1:Bt) (x2:List Bt):Ty12:=(iter (fun s=>ahk x2 x1 s) 0).bind fun z=>match z with| .next p=>av0| .done r=>some r
def cu (x65:Bool):Ty1:=(if x65=true then some ([98,111,111,108,101,97,110]:Bt)else some [])
def aa8 (x10 x6 x11 x8 x12 x13 x14:Bool) (x3 x4:Bt) (x16:Bool):Ty1:=(if x16=true then some ([105,110,116]:Bt)else(if x10=true then(if x6=true then cu true else(if x11=true then(if x8=true then cu true else(if x12=true then(if x13=true then cu true else(if x14=true then cu true else(if(x3==([110,117,108,108]:Bt))=true then cu (x4==([110,117,108,108]:Bt))else cu false)))else cu false))else(if x12=true then(if x13=true then cu true else(if x14=true then cu true else(if(x3==([110,117,108,108]:Bt))=true then cu (x4==([110,117,108,108]:Bt))else cu false)))else cu false)))else(if x11=true then(if x8=true then cu true else(if x12=true then(if x13=true then cu true else(if x14=true then cu true else(if(x3==([110,117,108,108]:Bt))=true then cu (x4==([110,117,108,108]:Bt))else cu false)))else cu false))else(if x12=true then(if x13=true then cu true else(if x14=true then cu true else(if(x3==([110,117,108,108]:Bt))=true then cu (x4==([110,117,108,108]:Bt))else cu false)))else cu false))))
def aa7 (x2:Bt) (x1:List B0) (x3 x4:Bt) (x6 x8:Bool):Ty1:=(ajh x2 ([([43]:Bt),([45]:Bt),([42]:Bt),([47]:Bt),([37]:Bt)]:List Bt)).bind fun x9=>(ajh x2 ([([60]:Bt),([60,61]:Bt),([62]:Bt),([62,61]:Bt)]:List Bt)).bind fun x10=>(ajh x2 ([([38,38]:Bt),([124,124]:Bt)]:List Bt)).bind fun x11=>(ajh x2 ([([61,61]:Bt),([33,61]:Bt)]:List Bt)).bind fun x12=>(aij x1 x3 x4).bind fun x13=>(aij x1 x4 x3).bind fun x14=>(if x9=true then aa8 x10 x6 x11 x8 x12 x13 x14 x3 x4 x6 else aa8 x10 x6 x11 x8 x12 x13 x14 x3 x4 false)
def aa6 (x3 x2:Bt) (x1:List B0) (x4:Bt) (x6:Bool):Ty1:=(if(x3==([98,111,111,108,101,97,110]:Bt))=true then aa7 x2 x1 x3 x4 x6 (x4==([98,111,111,108,101,97,110]:Bt))else aa7 x2 x1 x3 x4 x6 false)
def af4 (x1:List B0) (x2 x3 x4:Bt):Ty1:=(if(x3==([105,110,116]:Bt))=true then aa6 x3 x2 x1 x4 (x4==([105,110,116]:Bt))else aa6 x3 x2 x1 x4 false)
abbrev Ty49 :Type:=Option (PX C5 ((List B8) × B4))
def afk (x12:Int) (x13:Bt) (x14:Int) (x15:List B8):Ty49:=(fp aa2 x15).bind fun x49=>some (.ok (x49,(B4.mk 0 0 0)))
abbrev Ty50 :Type:=Option ((Int × Int × Bt × Int × (List B8)) ⊕ (Flow (Int × Bt × Int × (List B8)) (PX C5 ((List B8) × B4))))
def afj (x10 x26:Int) (x27:Bt) (x28:Int) (x29:List B8):Ty50:=some (.inl (w64 (x10+1),x26,x27,x28,x29))
abbrev Ty51 :Type:=Option ((Int × Int × Bt × Int × (List B8)) ⊕ (Flow (Int × Bt × Int × (List B8)) ((Int × Int × Bt × Int × (List B8)) ⊕ (Flow (Int × Bt × Int × (List B8)) (PX C5 ((List B8) × B4))))))
def za (x24 x45:Int) (x46:Bt) (x47:Int) (x48:List B8) (x37:B6):Ty51:=some (.inl (w64 (x24+1),x45,x46,x47,x48))
def vm (x23:List B6) (x4:List B0) (x24 x26:Int) (x27:Bt) (x28:Int) (x29:List B8):Ty51:=(if(decide (x24<(x23.length:Int)))=true then(idx x23 x24).bind fun x37=>(if(x37.Kind==1)=true then(l4 (adi (B7.mk x4 x37.Text false []) x37 (B9.mk x29 x26 x27 x28)) (fun m43=>some (.inr (.done (.inr (.done (.bad m43)))))) fun(x40,x41)=>za x24 x41.file x41.method x41.many x41.uses x37)else za x24 x26 x27 x28 x29 x37)else some (.inr (.next (x26,x27,x28,x29))))
def sy (x1:List (List B6)) (x4:List B0) (x10 x12:Int) (x13:Bt) (x14:Int) (x15:List B8):Ty50:=(if(decide (x10<(x1.length:Int)))=true then(idx x1 x10).bind fun x23=>(iter (fun s=>vm x23 x4 s.1 s.2.1 s.2.2.1 s.2.2.2.1 s.2.2.2.2) (0,x10,x13,x14,x15)).bind fun z=>match z with| .next p=>afj x10 p.1 p.2.1 p.2.2.1 p.2.2.2| .done r=>some r else some (.inr (.next (x12,x13,x14,x15))))
def aml (x1:List (List B6)):Ty49:=(aa1 x1).bind fun(x4,x5)=>(if(x5.Code != 0)=true then some (.ok ([],x5))else(aio x4).bind fun x7=>(if(x7.Code != 0)=true then some (.ok ([],x7))else(iter (fun s=>sy x1 x4 s.1 s.2.1 s.2.2.1 s.2.2.2.1 s.2.2.2.2) (0,0,[],0,[])).bind fun z=>match z with| .next p=>afk p.1 p.2.1 p.2.2.1 p.2.2.2| .done r=>some r))
def ak8 (x1:List (List B6)):Option ((List B8) × B4):=(aml x1).bind fun z=>match z with| .ok a=>some a| .bad m=>some ([],m.m)
def abf :Option (PX D0 B4):=some (.ok (B4.mk 0 0 0))
abbrev Ty52 :Type:=Option ((Int) ⊕ (Flow Unit (PX D0 B4)))
def abe (x10:Int):Ty52:=some (.inl (w64 (x10+1)))
abbrev Ty53 :Type:=Option ((Int) ⊕ (Flow Unit ((Int) ⊕ (Flow Unit (PX D0 B4)))))
def abd (x14:Int):Ty53:=some (.inl (w64 (x14+1)))
abbrev Ty54 :Type:=Option ((Int) ⊕ (Flow Unit ((Int) ⊕ (Flow Unit ((Int) ⊕ (Flow Unit (PX D0 B4)))))))
def w6 (x19:Int) (x22:B6):Ty54:=some (.inl (w64 (x19+1)))
def q7 (x17:B6) (x7:List B0) (x10 x19:Int):Ty54:=(if(decide (x19<(x17.Kids.length:Int)))=true then(idx x17.Kids x19).bind fun x22=>(if(x22.Kind==3)=true then(l4 (ss x7 x17.Text x10 x22) (fun m26=>some (.inr (.done (.inr (.done (.inr (.done (.bad m26)))))))) fun _=>w6 x19 x22)else w6 x19 x22)else some (.inr (.next ())))
def q8 (x13:List B6) (x7:List B0) (x10 x14:Int):Ty53:=(if(decide (x14<(x13.length:Int)))=true then(idx x13 x14).bind fun x17=>(iter (fun s=>q7 x17 x7 x10 s) 0).bind fun z=>match z with| .next p=>abd x14| .done r=>some r else some (.inr (.next ())))
def q9 (x1:List (List B6)) (x7:List B0) (x10:Int):Ty52:=(if(decide (x10<(x1.length:Int)))=true then(idx x1 x10).bind fun x13=>(iter (fun s=>q8 x13 x7 x10 s) 0).bind fun z=>match z with| .next p=>abe x10| .done r=>some r else some (.inr (.next ())))
def ais (x1:List (List B6)):Option (PX D0 B4):=(ak8 x1).bind fun(x3,x4)=>(if(x4.Code != 0)=true then some (.ok x4)else(aa1 x1).bind fun(x7,x8)=>(iter (fun s=>q9 x1 x7 s) 0).bind fun z=>match z with| .next p=>abf| .done r=>some r)
def vd (x1:List (List B6)):Ty16:=(ais x1).bind fun z=>match z with| .ok a=>some a| .bad m=>some m.m
def ou (x73:Bool):Ty12:=some x73
def aho :Option (Bool):=(aav ([99,108,97,115,115,32,65,123,105,110,116,32,109,40,41,123,114,101,116,117,114,110,32,116,114,117,101,59,125,125]:Bt)).bind fun(x1,x2)=>(aav ([99,108,97,115,115,32,65,123,105,110,116,32,109,40,41,123,114,101,116,117,114,110,32,49,59,125,125]:Bt)).bind fun(x4,x5)=>(vd ([x1]:List (List B6))).bind fun x7=>(ake ([x1]:List (List B6))).bind fun(x9,x10)=>(if(x7.Code==180)=true then(if(x7.At==23)=true then(vd ([x4]:List (List B6))).bind fun x14=>(if(x14.Code==0)=true then(o5 x9 ([110,117,108,108]:Bt) ([65]:Bt)).bind fun x16=>(if x16=true then(o5 x9 ([105,110,116]:Bt) ([65]:Bt)).bind fun x18=>(if(!x18)=true then(jz x9 ([60]:Bt) ([105,110,116]:Bt) ([105,110,116]:Bt)).bind fun x20=>ou (x20==([98,111,111,108,101,97,110]:Bt))else ou false)else ou false)else ou false)else ou false)else ou false)
def sd (x15:Bool) (x2:List Bt) (x9 x16:Int) (x1:List B0) (x20:Bool):Option ((Bool × Int) ⊕ (Bool)):=(if x20=true then(if x15=true then(idx x2 x9).bind fun x23=>(idx x2 x16).bind fun x24=>(o5 x1 x23 x24).bind fun x25=>(idx x2 x9).bind fun x26=>(idx x2 x16).bind fun x27=>(aij x1 x26 x27).bind fun x28=>(if(x25==x28)=true then(idx x2 0).bind fun x30=>(idx x2 x9).bind fun x31=>(idx x2 x16).bind fun x32=>(jz x1 x30 x31 x32).bind fun x33=>(idx x2 0).bind fun x34=>(idx x2 x9).bind fun x35=>(idx x2 x16).bind fun x36=>(af4 x1 x34 x35 x36).bind fun x37=>some (.inl (x33==x37,w64 (x16+1)))else some (.inl (false,w64 (x16+1))))else some (.inl (false,w64 (x16+1))))else some (.inr x15))
def mu (x2:List Bt) (x9:Int) (x1:List B0) (x15:Bool) (x16:Int):Option ((Bool × Int) ⊕ (Bool)):=(if(decide (x16<(x2.length:Int)))=true then sd x15 x2 x9 x16 x1 (decide (x16<9))else sd x15 x2 x9 x16 x1 false)
def pf (x37:Bool):Ty12:=some x37
def tf (x4 x10:List (List B6)) (x11:List B6):Ty12:=(vd x4).bind fun x33=>(vd x10).bind fun x34=>(vd ([x11]:List (List B6))).bind fun x35=>(if((x33.Code==0)==(x34.Code==0))=true then pf ((x34.Code==0)==(x35.Code==0))else pf false)
abbrev Ty55 :Type:=Option ((Int × (List (List B6)) × (List B6)) ⊕ ((List (List B6)) × (List B6)))
def te (x9:Int) (x19:List (List B6)) (x24:List B6):Ty55:=some (.inl (w64 (x9 - 1),x19,x24))
def js (x4:List (List B6)) (x9 x23:Int) (x24:List B6):Ty26:=(if(decide (x23≥0))=true then(idx x4 x9).bind fun x29=>(idx x29 x23).bind fun x30=>(app 104 x24 ([x30]:List B6)).bind fun x31=>some (.inl (w64 (x23 - 1),x31))else some (.inr x24))
def jt (x4:List (List B6)) (x9:Int) (x10:List (List B6)) (x11:List B6):Ty55:=(if(decide (x9≥0))=true then(idx x4 x9).bind fun x18=>(app 24 x10 ([x18]:List (List B6))).bind fun x19=>(idx x4 x9).bind fun x21=>(iter (fun s=>js x4 x9 s.1 s.2) (w64 ((x21.length:Int) - 1),x11)).bind fun p=>te x9 x19 p else some (.inr (x10,x11)))
def yi (x1:List Bt):Ty12:=(aho).bind fun x2=>(if(!x2)=true then some false else(acv x1).bind fun(x4,x5)=>(if(!x5)=true then some true else(iter (fun s=>jt x4 s.1 s.2.1 s.2.2) (w64 ((x4.length:Int) - 1),[],[])).bind fun p=>tf x4 p.1 p.2))
end
end Go.Proofs.YtcndghapmoaidaaGreatDoor
