/- The data of the program, and its functions over plain data (printed by wip/gen/gen.py). -/
import Derived.Lib.ItoaNum
import Derived.Test.YtcndghapmoaidaaGreatDoorZJ
set_option linter.unusedSimpArgs false
set_option linter.unusedVariables false
set_option linter.unusedSectionVars false
namespace Go.Proofs.YtcndghapmoaidaaGreatDoor
noncomputable section
open Go Go.Cn
def k6 (n b:Int):Option Bt:=if b=10/\ -9223372036854775808<=n/\n<=9223372036854775807 then some (Lib.itoa n)else none
def aml (m:SMap Bool):Option (SMap Bool):=some m
end
end Go.Proofs.YtcndghapmoaidaaGreatDoor
set_option linter.unusedSectionVars false
set_option maxRecDepth 100000
set_option maxHeartbeats 4000000
namespace Go.Proofs.YtcndghapmoaidaaGreatDoor
noncomputable section
open Go Go.Cn
structure A9 where
 Kind:Int
 Id:Bt
 Name:Bt
 Owner:Bt
 Type_:Bt
 Static:Bool
 Params:List Bt
 File:Int
 At:Int
 deriving DecidableEq
structure B0 where
 kind:Int
 owner:Bt
 name:Bt
 deriving DecidableEq
structure B3 where
 Code:Int
 File:Int
 At:Int
 deriving DecidableEq
structure B4 where
 l:List A9
 known:GMap B0 Bool
 m:B3
 deriving DecidableEq
structure B5 where
 Kind:Int
 Text:Bt
 Type_:Bt
 N:Int
 From:Int
 To:Int
 At:Int
 TypeAt:Int
 Kids:List B5
structure B6 where
 Table:List A9
 Class:Bt
 Static:Bool
 Seen:List A9
 deriving DecidableEq
structure B7 where
 File:Int
 At:Int
 Id:Bt
 deriving DecidableEq
structure B8 where
 uses:List B7
 file:Int
 method:Bt
 many:Int
 deriving DecidableEq
structure B9 where
 m:B3
 deriving DecidableEq
structure C5 where
 Kind:Int
 Text:Bt
 At:Int
 Lead:Bt
 deriving DecidableEq
structure C6 where
 Place:Int
 Code:Int
 deriving DecidableEq
structure C7 where
 L:List B7
 M:B3
 File:Int
 Method:Bt
 Many:Int
 deriving DecidableEq
structure C8 where
 Table:List A9
 Class:Bt
 Static:Bool
 Seen:List A9
 deriving DecidableEq
structure TypesChecker where
 Scope:B6
 kind:Bt
 file:Int
 deriving DecidableEq
structure TypesWrong where
 m:B3
 deriving DecidableEq
structure Ref18Place where
 S:C8
 Type_:Bt
 File:Int
 deriving DecidableEq
structure D0 where
 l:Value
 known:Value
 m:B3
structure D1 where
 Kind:Int
 Id:Bt
 Name:Bt
 Owner:Bt
 Type_:Bt
 Static:Bool
 Params:Value
 File:Int
 At:Int
structure D2 where
 uses:Value
 file:Int
 method:Bt
 many:Int
structure D3 where
 L:Value
 M:B3
 File:Int
 Method:Bt
 Many:Int
def ae0 (l:List A9):Option (List A9):=app 120 [] l
def ov (x1 x2:Int) (x4:B4):Option (B4):=some (B4.mk x4.l x4.known (B3.mk 150 x1 x2))
abbrev Ty0 :Type:=Option (Bool × B4)
def t6 (x1:A9) (x3:B4) (x11:List A9):Ty0:=some (true,(B4.mk x11 (gset (B0.mk x1.Kind x1.Owner x1.Name) true x3.known) x3.m))
def tz (x3:B4) (x1:A9):Ty0:=(app 120 x3.l ([x1]:List A9)).bind fun x11=>t6 x1 x3 x11
def tx (x1:A9) (x3:B4):Ty0:=(if(gget (B0.mk x1.Kind x1.Owner x1.Name) false x3.known)=true then(ov x1.File x1.At x3).bind fun x9=>some (false,x9)else tz x3 x1)
def nv (x1:A9) (x3:B4):Ty0:=tx x1 x3
abbrev Ty1 :Type:=Option (Bt)
def ug (x1:Bt):Ty1:=some x1
def yc (x1 x2:Bt):Ty1:=(cat x1 ([46]:Bt)).bind fun x3=>(cat x3 x2).bind fun x4=>some x4
def uq (x1 x2:Bt):Ty1:=(yc x1 x2).bind fun x3=>(cat x3 ([40,41]:Bt)).bind fun x4=>some x4
def pk (x1:Int):Ty1:=(k6 x1 10).bind fun x2=>some x2
def aez (x1:Int):Ty1:=(pk x1).bind fun x2=>some x2
def uf (x1:Bt) (x2:Int):Ty1:=(cat x1 ([35]:Bt)).bind fun x3=>(aez (if 0>x2 then 0 else x2)).bind fun x4=>(cat x3 x4).bind fun x5=>some x5
def mr (x1:B5) (x3:List A9) (x6:A9):Option ((List A9) × A9):=(uf x6.Id (x3.length:Int)).bind fun x9=>(app 120 x3 ([(A9.mk 4 x9 x1.Text x6.Id x1.Type_ false [] x6.File x1.At)]:List A9)).bind fun x10=>some (x10,x6)
abbrev kj (σ:Type):Type:=B5->(σ)->Option (Bool × (σ))
def ais {σ:Type} (yld:σ->B5->Option (Bool × σ)) (R:kj σ) (x10:σ):Option (Bool × (σ)):=some (true,x10)
def rp {σ:Type} (yld:σ->B5->Option (Bool × σ)) (R:kj σ) (x1:B5) (x9:Int) (x10:σ):Option ((Int × (σ)) ⊕ (Flow (σ) (Bool × (σ)))):=(if(decide (x9<(x1.Kids.length:Int)))=true then(idx x1.Kids x9).bind fun x16=>(R x16 x10).bind fun(x18,x19)=>(if(!x18)=true then some (.inr (.done (false,x19)))else some (.inl (w64 (x9+1),x19)))else some (.inr (.next x10)))
def aeg {σ:Type} (yld:σ->B5->Option (Bool × σ)) (R:kj σ) (x1:B5) (x2:σ):Option (Bool × (σ)):=(yld x2 x1).bind fun(x5,x6)=>(if(!x5)=true then some (false,x6)else(iter (fun s=>rp yld R x1 s.1 s.2) (0,x6)).bind fun z=>match z with| .next p=>ais yld R p| .done r=>some r)
def ali {σ:Type} (yld:σ->B5->Option (Bool × σ)) (R:kj σ):kj σ:=(fun x1 x2=>aeg yld R x1 x2)
def mn {σ:Type} (yld:σ->B5->Option (Bool × σ)) (n:Nat):kj σ:=Nat.rec (motive:=fun _=>kj σ) (fun x1 x2=>none) (fun _ R=>ali yld R) n
def aoi {σ:Type} (yld:σ->B5->Option (Bool × σ)) (x1:B5) (x2:σ):Option (Bool × (σ)):=mn yld 1048576 x1 x2
def afc {σ:Type} (yld:σ->B5->Option (Bool × σ)) (x2:B5) (x3:σ):Option (B5 × (σ)):=(aoi yld x2 x3).bind fun(x5,x6)=>some (x2,x6)
def ad9 (x9:List B5) (x7:B5) (x14:Bool):Option (Bool × ((List B5))):=(if x14=true then(app 104 x9 ([(B5.mk 0 [] [] 0 0 0 0 0 [])]:List B5)).bind fun x256=>(idx x256 (x9.length:Int)).bind fun x316=>some (true,(List.set x256 (Int.toNat (x9.length:Int)) x7))else some (true,x9))
def ad8 (x2:Int) (x9:List B5) (x7:B5):Option (Bool × ((List B5))):=(if(x2==0)=true then ad9 x9 x7 true else ad9 x9 x7 (x7.Kind==x2))
abbrev Ty2 :Type:=Option ((List B5))
def akm (x1:B5) (x2:Int):Ty2:=(afc (fun(s:(List B5)) (a:B5)=>ad8 x2 s a) x1 []).bind fun(x496,x497)=>some x497
abbrev f4 :Type:=(B5->(SMap Bool)->Option (B5 × Bool))
def af6 (R:f4) (x9:SMap Bool):Option (B5 × Bool):=some ((B5.mk 0 [] [] 0 0 0 0 0 []),false)
abbrev Ty3 :Type:=Option ((Int × (SMap Bool)) ⊕ (Flow (SMap Bool) (B5 × Bool)))
def w6 (R:f4) (x8:Int) (x25:SMap Bool) (x13 x20:B5):Ty3:=some (.inl (w64 (x8+1),x25))
def w5 (R:f4) (x13:B5) (x9:SMap Bool) (x16:Bool) (x8:Int) (x18:Bool):Ty3:=(if x18=true then some (.inr (.done (x13,true)))else(R x13 x9).bind fun(x20,x21)=>(if x21=true then some (.inr (.done (x20,true)))else(if x16=true then w6 R x8 (mset x13.Text true x9) x13 x20 else w6 R x8 x9 x13 x20)))
def tg (R:f4) (x13:B5) (x9:SMap Bool) (x8:Int) (x16:Bool):Ty3:=(if x16=true then w5 R x13 x9 x16 x8 (mget x13.Text false x9)else w5 R x13 x9 x16 x8 false)
def nj (R:f4) (x1:B5) (x8:Int) (x9:SMap Bool):Ty3:=(if(decide (x8<(x1.Kids.length:Int)))=true then(idx x1.Kids x8).bind fun x13=>(if(x13.Kind==4)=true then tg R x13 x9 x8 true else tg R x13 x9 x8 (x13.Kind==6))else some (.inr (.next x9)))
def zm (R:f4) (x1:B5) (x3:SMap Bool):Option (B5 × Bool):=(aml x3).bind fun x6=>(iter (fun s=>nj R x1 s.1 s.2) (0,x6)).bind fun z=>match z with| .next p=>af6 R p| .done r=>some r
def ajq (R:f4):f4:=(fun x1 x3=>zm R x1 x3)
def jl (n:Nat):f4:=Nat.rec (motive:=fun _=>f4) (fun x1 x3=>none) (fun _ R=>ajq R) n
def akb (x1:B5) (x3:SMap Bool):Option (B5 × Bool):=(jl 1048576) x1 x3
def po (x1:B5) (x21:Int) (x76:B4) (x79:List A9):Ty0:=(akb x1 ([]:SMap Bool)).bind fun(x82,x83)=>(if x83=true then(ov x21 x82.At (B4.mk x79 x76.known x76.m)).bind fun x86=>some (false,x86)else some (true,(B4.mk x79 x76.known x76.m)))
def pn (x14:Int) (x15 x16 x17 x18:Bt) (x19:Bool) (x21 x22:Int) (x3:B4) (x25:List A9) (x1:B5) (x63:List Bt):Ty0:=(nv (A9.mk x14 x15 x16 x17 x18 x19 x63 x21 x22) x3).bind fun(x75,x76)=>(if(!x75)=true then some (false,x76)else(app 120 x76.l x25).bind fun x79=>po x1 x21 x76 x79)
abbrev Ty4 :Type:=Option ((Int × (List Bt)) ⊕ ((List Bt)))
def l4 (x61:Int) (x74:List Bt) (x68:B5):Ty4:=some (.inl (w64 (x61+1),x74))
def i7 (x1:B5) (x61:Int) (x63:List Bt):Ty4:=(if(decide (x61<(x1.Kids.length:Int)))=true then(idx x1.Kids x61).bind fun x68=>(if(x68.Kind==4)=true then(app 16 x63 ([x68.Type_]:List Bt)).bind fun x71=>l4 x61 x71 x68 else l4 x61 x63 x68)else some (.inr x63))
def pl (x1:B5) (x3:B4) (x24:List Bt) (x14:Int) (x15 x16 x17 x18:Bt) (x19:Bool) (x21 x22:Int) (x25:List A9):Ty0:=(iter (fun s=>i7 x1 s.1 s.2) (0,x24)).bind fun p=>pn x14 x15 x16 x17 x18 x19 x21 x22 x3 x25 x1 p
abbrev Ty5 :Type:=Option ((Int × Int × Bt × Bt × Bt × Bt × Bool × Int × Int × (List Bt) × (List A9)) ⊕ ((List Bt) × Int × Bt × Bt × Bt × Bt × Bool × Int × Int × (List A9)))
def lz (x13 x50:Int) (x51 x52 x53 x54:Bt) (x55:Bool) (x57 x58:Int) (x59:List A9) (x60:List Bt) (x40:B5):Ty5:=some (.inl (w64 (x13+1),x50,x51,x52,x53,x54,x55,x57,x58,x60,x59))
def kb (x40:B5) (x25:List A9) (x14:Int) (x15 x16 x17 x18:Bt) (x19:Bool) (x24:List Bt) (x21 x22 x13:Int) (x43:Bool):Ty5:=(if x43=true then(mr x40 x25 (A9.mk x14 x15 x16 x17 x18 x19 x24 x21 x22)).bind fun(x45,x47)=>lz x13 x47.Kind x47.Id x47.Name x47.Owner x47.Type_ x47.Static x47.File x47.At x45 x47.Params x40 else lz x13 x14 x15 x16 x17 x18 x19 x21 x22 x25 x24 x40)
def i6 (x12:List B5) (x13 x14:Int) (x15 x16 x17 x18:Bt) (x19:Bool) (x21 x22:Int) (x24:List Bt) (x25:List A9):Ty5:=(if(decide (x13<(x12.length:Int)))=true then(idx x12 x13).bind fun x40=>(if(x40.Kind==4)=true then kb x40 x25 x14 x15 x16 x17 x18 x19 x24 x21 x22 x13 true else kb x40 x25 x14 x15 x16 x17 x18 x19 x24 x21 x22 x13 (x40.Kind==6))else some (.inr (x24,x14,x15,x16,x17,x18,x19,x21,x22,x25)))
def o9 (x1:B5) (x3:B4) (x6:A9):Ty0:=(uq x6.Owner x6.Name).bind fun x10=>(akm x1 0).bind fun x12=>(iter (fun s=>i6 x12 s.1 s.2.1 s.2.2.1 s.2.2.2.1 s.2.2.2.2.1 s.2.2.2.2.2.1 s.2.2.2.2.2.2.1 s.2.2.2.2.2.2.2.1 s.2.2.2.2.2.2.2.2.1 s.2.2.2.2.2.2.2.2.2.1 s.2.2.2.2.2.2.2.2.2.2) (0,3,x10,x6.Name,x6.Owner,x6.Type_,x6.Static,x6.File,x6.At,x6.Params,[])).bind fun p=>pl x1 x3 p.1 p.2.1 p.2.2.1 p.2.2.2.1 p.2.2.2.2.1 p.2.2.2.2.2.1 p.2.2.2.2.2.2.1 p.2.2.2.2.2.2.2.1 p.2.2.2.2.2.2.2.2.1 p.2.2.2.2.2.2.2.2.2
def vu (x15:B3) (x17:List A9) (x16:GMap B0 Bool):Ty0:=some (true,(B4.mk x17 x16 x15))
abbrev Ty6 :Type:=Option ((Int × B3 × (GMap B0 Bool) × (List A9)) ⊕ (Flow (B3 × (List A9) × (GMap B0 Bool)) (Bool × B4)))
def jk (x13:Int) (x43:Bool) (x45:B3) (x46:GMap B0 Bool) (x47:List A9):Ty6:=(if x43=true then some (.inr (.done (false,(B4.mk x47 x46 x45))))else some (.inl (w64 (x13+1),x45,x46,x47)))
def jj (x24:B5) (x26 x27:Bt) (x1 x13:Int) (x33:Bool) (x35:B3) (x36:GMap B0 Bool) (x37:List A9):Ty6:=(if x33=true then some (.inr (.done (false,(B4.mk x37 x36 x35))))else(if(x24.Kind==3)=true then(o9 x24 (B4.mk x37 x36 x35) (A9.mk 2 x26 x24.Text x27 x24.Type_ (x24.N==1) [] x1 x24.At)).bind fun(x40,x41)=>jk x13 (!x40) x41.m x41.known x41.l else jk x13 false x35 x36 x37))
def qw (x24:B5) (x1:Int) (x17:List A9) (x16:GMap B0 Bool) (x15:B3) (x13:Int) (x26 x27:Bt):Ty6:=(if(x24.Kind==2)=true then(nv (A9.mk 2 x26 x24.Text x27 x24.Type_ (x24.N==1) [] x1 x24.At) (B4.mk x17 x16 x15)).bind fun(x30,x31)=>jj x24 x26 x27 x1 x13 (!x30) x31.m x31.known x31.l else jj x24 x26 x27 x1 x13 false x15 x16 x17)
def ji (x2:B5) (x1 x13:Int) (x15:B3) (x16:GMap B0 Bool) (x17:List A9):Ty6:=(if(decide (x13<(x2.Kids.length:Int)))=true then(idx x2.Kids x13).bind fun x24=>(yc x2.Text x24.Text).bind fun x26=>(ug x2.Text).bind fun x27=>qw x24 x1 x17 x16 x15 x13 x26 x27 else some (.inr (.next (x15,x17,x16))))
def ms (x2:B5) (x1:Int) (x9:Bool) (x10:B4):Ty0:=(if(!x9)=true then some (false,x10)else(iter (fun s=>ji x2 x1 s.1 s.2.1 s.2.2.1 s.2.2.2) (0,x10.m,x10.known,x10.l)).bind fun z=>match z with| .next p=>vu p.1 p.2.1 p.2.2| .done r=>some r)
def rg (x1:Int) (x2:B5) (x4:B4):Ty0:=(ug x2.Text).bind fun x8=>(nv (A9.mk 1 x8 x2.Text [] x2.Type_ false [] x1 x2.At) x4).bind fun(x9,x10)=>ms x2 x1 x9 x10
abbrev Ty7 :Type:=Option ((List A9) × B3)
def af7 (x6:GMap B0 Bool) (x8:B3) (x9:List A9):Ty7:=some (x9,(B3.mk 0 0 0))
abbrev Ty8 :Type:=Option ((Int × (GMap B0 Bool) × B3 × (List A9)) ⊕ (Flow ((GMap B0 Bool) × B3 × (List A9)) ((List A9) × B3)))
def abo (x5:Int) (x18:GMap B0 Bool) (x20:B3) (x21:List A9):Ty8:=some (.inl (w64 (x5+1),x18,x20,x21))
abbrev Ty9 :Type:=Option ((Int × (GMap B0 Bool) × B3 × (List A9)) ⊕ (Flow ((GMap B0 Bool) × B3 × (List A9)) ((Int × (GMap B0 Bool) × B3 × (List A9)) ⊕ (Flow ((GMap B0 Bool) × B3 × (List A9)) ((List A9) × B3)))))
def abp (x36:B3):Ty9:=some (.inr (.done (.inr (.done ([],x36)))))
def qn (x17:Int) (x34:Bool) (x36:B3) (x37:GMap B0 Bool) (x38:List A9):Ty9:=(if x34=true then abp x36 else some (.inl (w64 (x17+1),x37,x36,x38)))
def qm (x16:List B5) (x5 x17:Int) (x18:GMap B0 Bool) (x20:B3) (x21:List A9):Ty9:=(if(decide (x17<(x16.length:Int)))=true then(idx x16 x17).bind fun x28=>(if(x28.Kind==1)=true then(rg x5 x28 (B4.mk x21 x18 x20)).bind fun(x31,x32)=>qn x17 (!x31) x32.m x32.known x32.l else qn x17 false x20 x18 x21)else some (.inr (.next (x18,x20,x21))))
def nk (x1:List (List B5)) (x5:Int) (x6:GMap B0 Bool) (x8:B3) (x9:List A9):Ty8:=(if(decide (x5<(x1.length:Int)))=true then(idx x1 x5).bind fun x16=>(iter (fun s=>qm x16 x5 s.1 s.2.1 s.2.2.1 s.2.2.2) (0,x6,x8,x9)).bind fun z=>match z with| .next p=>abo x5 p.1 p.2.1 p.2.2| .done r=>some r else some (.inr (.next (x6,x8,x9))))
def aec (x1:List (List B5)):Ty7:=(iter (fun s=>nk x1 s.1 s.2.1 s.2.2.1 s.2.2.2) (0,([]:GMap B0 Bool),(B3.mk 0 0 0),[])).bind fun z=>match z with| .next p=>af7 p.1 p.2.1 p.2.2| .done r=>some r
def aiu :Option (A9 × Bool):=some ((A9.mk 0 [] [] [] [] false [] 0 0),false)
abbrev Ty10 :Type:=Option ((Int) ⊕ (Flow Unit (A9 × Bool)))
def aca (x7:A9) (x4:Int) (x10:Bool):Ty10:=(if x10=true then some (.inr (.done (x7,true)))else some (.inl (w64 (x4+1))))
def um (x1:List A9) (x2:Bt) (x4:Int):Ty10:=(if(decide (x4<(x1.length:Int)))=true then(idx x1 x4).bind fun x7=>(if(x7.Kind==1)=true then aca x7 x4 (x7.Id==x2)else aca x7 x4 false)else some (.inr (.next ())))
abbrev Ty11 :Type:=Option (A9 × Bool)
def adv (x1:List A9) (x2:Bt):Ty11:=(iter (fun s=>um x1 x2 s) 0).bind fun z=>match z with| .next p=>aiu| .done r=>some r
def qk {σ:Type} (yld:σ->A9->Option (Bool × σ)) (x2:List A9) (x8:Bt) (x16:A9) (x11:SMap Bool) (x28:Bool) (x29:σ):Option ((Bt × (σ) × (SMap Bool)) ⊕ ((List A9) × Bt × (σ))):=(if x28=true then some (.inr (x2,x8,x29))else some (.inl (x16.Type_,x29,(mset x8 true x11))))
def kg {σ:Type} (yld:σ->A9->Option (Bool × σ)) (x2:List A9) (x8:Bt) (x9:σ) (x11:SMap Bool):Option ((Bt × (σ) × (SMap Bool)) ⊕ ((List A9) × Bt × (σ))):=(adv x2 x8).bind fun(x16,x17)=>(if(!x17)=true then qk yld x2 x8 x16 x11 true x9 else(if(mget x8 false x11)=true then qk yld x2 x8 x16 x11 true x9 else(yld x9 x16).bind fun(x21,x22)=>qk yld x2 x8 x16 x11 (!x21) x22))
def aar {σ:Type} (yld:σ->A9->Option (Bool × σ)) (x2:List A9) (x4:Bt) (x5:σ):Option ((List A9) × Bt × (σ)):=iter (fun s=>kg yld x2 s.1 s.2.1 s.2.2) (x4,x5,([]:SMap Bool))
def uo (x3:Bt) (x8:A9):Option (Bool × ((Unit) ⊕ (A9))):=(if(x8.Id==x3)=true then some (false,.inr x8)else some (true,.inl ()))
abbrev Ty12 :Type:=Option (Bool)
def aim (x1:List A9) (x2 x3:Bt):Ty12:=(aar (yldX (fun(s:Unit) (a:A9)=>uo x3 a)) x1 x2 (.inl ())).bind fun(x11,x12,x15)=>match x15 with| .inl x13=>some false| .inr x16=>some true
def amn :Option (Bool × ((Unit) ⊕ (A9 × A9))):=some (true,.inl ())
abbrev Ty13 :Type:=Option ((Int) ⊕ (Flow Unit (Bool × ((Unit) ⊕ (A9 × A9)))))
def ag1 (x16 x11:A9) (x13:Int) (x20:Bool):Ty13:=(if x20=true then some (.inr (.done (false,.inr (x16,x11))))else some (.inl (w64 (x13+1))))
def aai (x1:List A9) (x11:A9) (x3:(A9->Option Bool)) (x13:Int):Ty13:=(if(decide (x13<(x1.length:Int)))=true then(idx x1 x13).bind fun x16=>(if(x16.Owner==x11.Id)=true then(x3 x16).bind fun x19=>ag1 x16 x11 x13 x19 else ag1 x16 x11 x13 false)else some (.inr (.next ())))
def yo (x1:List A9) (x3:(A9->Option Bool)) (x11:A9):Option (Bool × ((Unit) ⊕ (A9 × A9))):=(iter (fun s=>aai x1 x11 x3 s) 0).bind fun z=>match z with| .next p=>amn| .done r=>some r
def ag0 :Option (A9 × Bool):=some ((A9.mk 0 [] [] [] [] false [] 0 0),false)
def agz (x27:A9 × A9):Ty11:=some (x27.1,true)
def al5 (x1:List A9) (x2:Bt) (x3:(A9->Option Bool)):Ty11:=(aar (yldX (fun(s:Unit) (a:A9)=>yo x1 x3 a)) x1 x2 (.inl ())).bind fun(x22,x23,x26)=>match x26 with| .inl x24=>ag0| .inr x27=>agz x27
def w4 (x5:Bool):Ty12:=some x5
def aea (x1:A9) (x2:Bt):Ty12:=(if(x1.Kind==2)=true then w4 (x1.Name==x2)else w4 false)
def wb (x1:List A9) (x2 x3:Bt):Ty11:=(al5 x1 x2 (fun a0=>aea a0 x3)).bind fun(x6,x7)=>some (x6,x7)
def uz (x5:Bool):Ty12:=some x5
def acb (x1:A9) (x2:Bt):Ty12:=(if(x1.Kind==3)=true then uz (x1.Name==x2)else uz false)
def vg (x1:List A9) (x2 x3:Bt):Ty11:=(al5 x1 x2 (fun a0=>acb a0 x3)).bind fun(x6,x7)=>some (x6,x7)
def mo :Option (Bool):=some true
abbrev Ty14 :Type:=Option ((Int) ⊕ (Flow Unit Bool))
def ju (x4:Int) (x7 x8:Bt):Ty14:=(if(!(x7==x8))=true then some (.inr (.done false))else some (.inl (w64 (x4+1))))
def fi (x1 x2:List Bt) (x4:Int):Ty14:=(if(decide (x4<(x1.length:Int)))=true then(idx x1 x4).bind fun x7=>(idx x2 x4).bind fun x8=>ju x4 x7 x8 else some (.inr (.next ())))
def jh (x1 x2:List Bt):Ty12:=(if((x1.length:Int) != (x2.length:Int))=true then some false else(iter (fun s=>fi x1 x2 s) 0).bind fun z=>match z with| .next p=>mo| .done r=>some r)
def yx (x10:Bool):Ty12:=some x10
def akw (x1 x2:A9):Ty12:=(if(x1.Type_==x2.Type_)=true then(if(x1.Static==x2.Static)=true then(jh x1.Params x2.Params).bind fun x7=>yx x7 else yx false)else yx false)
def ul :Option (Int):=some 0
abbrev Ty15 :Type:=Option (Int)
def yw (x17:Bool):Ty15:=(if x17=true then some 160 else ul)
def ab9 (x30:Bool):Ty15:=(if x30=true then some 161 else ul)
def ab8 (x2:A9) (x1:List A9) (x4:A9) (x8:Bool):Ty15:=(if x8=true then some 0 else(if(x2.Kind==1)=true then(adv x1 x2.Type_).bind fun(x11,x12)=>(if(!(x2.Type_==[]))=true then(if(!x12)=true then yw true else(aim x1 x2.Type_ x2.Id).bind fun x16=>yw x16)else yw false)else(if(x2.Kind==2)=true then(wb x1 x4.Type_ x2.Name).bind fun(x20,x21)=>(if x21=true then some 162 else ul)else(if(x2.Kind==3)=true then(vg x1 x4.Type_ x2.Name).bind fun(x25,x26)=>(if x26=true then(akw x25 x2).bind fun x29=>ab9 (!x29)else ab9 false)else ul))))
def aik (x1:List A9) (x2:A9):Ty15:=(adv x1 x2.Owner).bind fun(x4,x5)=>(if(x2.Kind != 1)=true then ab8 x2 x1 x4 (!x5)else ab8 x2 x1 x4 false)
def aiy :Option (B3):=some (B3.mk 0 0 0)
abbrev Ty16 :Type:=Option ((Int) ⊕ (Flow Unit B3))
def un (x1:List A9) (x3:Int):Ty16:=(if(decide (x3<(x1.length:Int)))=true then(idx x1 x3).bind fun x6=>(aik x1 x6).bind fun x8=>(if(x8 != 0)=true then some (.inr (.done (B3.mk x8 x6.File x6.At)))else some (.inl (w64 (x3+1))))else some (.inr (.next ())))
abbrev Ty17 :Type:=Option (B3)
def ail (x1:List A9):Ty17:=(iter (fun s=>un x1 s) 0).bind fun z=>match z with| .next p=>aiy| .done r=>some r
def jt :Option (Int):=some (-1)
abbrev Ty18 :Type:=Option ((Int) ⊕ (Flow Unit Int))
def fh (x1:List Bt) (x2:Bt) (x3:Int):Ty18:=(if(decide (x3<(x1.length:Int)))=true then(idx x1 x3).bind fun x6=>(if(x2==x6)=true then some (.inr (.done x3))else some (.inl (w64 (x3+1))))else some (.inr (.next ())))
def kz (x1:List Bt) (x2:Bt):Ty15:=(iter (fun s=>fh x1 x2 s) 0).bind fun z=>match z with| .next p=>jt| .done r=>some r
def f5 (x1:List Bt) (x2:Bt):Ty12:=(kz x1 x2).bind fun x3=>some (decide (x3≥0))
abbrev Ty19 :Type:=Option (A9 × Int)
def lq (x1:B6) (x2:A9) (x3:Bool):Ty19:=(if(!x3)=true then some ((A9.mk 0 [] [] [] [] false [] 0 0),170)else some (x2,0))
def yh :Option (A9 × Bool):=some ((A9.mk 0 [] [] [] [] false [] 0 0),false)
def oc (x8:A9) (x5:Int) (x11:Bool):Ty10:=(if x11=true then some (.inr (.done (x8,true)))else some (.inl (w64 (x5+1))))
def jz (x1:B6) (x2:Bt) (x5:Int):Ty10:=(if(decide (x5<(x1.Table.length:Int)))=true then(idx x1.Table x5).bind fun x8=>(if(x8.Kind==1)=true then oc x8 x5 (x8.Id==x2)else oc x8 x5 false)else some (.inr (.next ())))
def js (x1:B6) (x2:Bt):Ty11:=(iter (fun s=>jz x1 x2 s) 0).bind fun z=>match z with| .next p=>yh| .done r=>some r
abbrev Ty20 :Type:=Option (PX B9 B8)
def la (x1 x2:Int) (x4:B8):Ty20:=(if(x1 != 0)=true then some (.bad (B9.mk (B3.mk x1 x4.file x2)))else some (.ok x4))
def nw (x1:Int) (x2:Bt) (x4:B8):Option (B8):=(app 32 x4.uses ([(B7.mk x4.file x1 x2)]:List B7)).bind fun x6=>some (B8.mk x6 x4.file x4.method x4.many)
def sa (x2:B5) (x4:B8) (x15:Int) (x14:A9):Ty20:=(anu (la x15 x2.TypeAt x4) (fun m21=>some (.bad m21)) fun x17=>(nw x2.TypeAt x14.Id x17).bind fun x19=>some (.ok x19))
def ld (x4:B8) (x1:B6) (x2:B5) (x10:Bool):Ty20:=(if x10=true then some (.ok x4)else(js x1 x2.Type_).bind fun(x12,x13)=>(lq x1 x12 x13).bind fun(x14,x15)=>sa x2 x4 x15 x14)
def sq (x1:B6) (x2:B5) (x4:B8):Ty20:=(if(decide (x2.TypeAt<0))=true then ld x4 x1 x2 true else(f5 ([([105,110,116]:Bt),([98,111,111,108,101,97,110]:Bt),([118,111,105,100]:Bt)]:List Bt) x2.Type_).bind fun x9=>ld x4 x1 x2 x9)
def fq {σ:Type} (yld:σ->(Int × A9)->Option (Bool × σ)) (x2:List A9) (x6:σ):Option ((List A9) × (σ)):=some (x2,x6)
def cf {σ:Type} (yld:σ->(Int × A9)->Option (Bool × σ)) (x2:List A9) (x5:Int) (x6:σ):Option ((Int × (σ)) ⊕ (Flow (σ) ((List A9) × (σ)))):=(if(decide (x5≥0))=true then(idx x2 x5).bind fun x12=>(yld x6 (x5,x12)).bind fun(x13,x14)=>(if(!x13)=true then some (.inr (.done (x2,x14)))else some (.inl (w64 (x5 - 1),x14)))else some (.inr (.next x6)))
def fb {σ:Type} (yld:σ->(Int × A9)->Option (Bool × σ)) (x2:List A9) (x3:σ):Option ((List A9) × (σ)):=(iter (fun s=>cf yld x2 s.1 s.2) (w64 ((x2.length:Int) - 1),x3)).bind fun z=>match z with| .next p=>fq yld x2 p| .done r=>some r
def rh (x2:A9) (x9:Bool):Ty19:=(if x9=true then some ((A9.mk 0 [] [] [] [] false [] 0 0),171)else some (x2,0))
def lk (x1:B6) (x2:A9) (x3:Bool):Ty19:=(if(!x3)=true then some ((A9.mk 0 [] [] [] [] false [] 0 0),170)else(if x1.Static=true then rh x2 (!x2.Static)else rh x2 false))
def jm (x2:B5) (x8:Int) (x9:A9):Option (Bool × ((Unit) ⊕ (A9))):=(if(x9.Name==x2.Text)=true then some (false,.inr x9)else some (true,.inl ()))
def pb (x25:A9) (x26:Int):Ty19:=some (x25,x26)
def rf (x1:B6) (x2:B5):Ty19:=(fb (yldX (fun(s:Unit) (a:Int × A9)=>jm x2 a.1 a.2)) x1.Seen (.inl ())).bind fun(x12,x15)=>match x15 with| .inl x13=>(wb x1.Table x1.Class x2.Text).bind fun(x17,x18)=>(if x18=true then(lk x1 x17 true).bind fun(x21,x22)=>some (x21,x22)else(js x1 x2.Text).bind fun(x23,x24)=>(lq x1 x23 x24).bind fun(x25,x26)=>pb x25 x26)| .inr x16=>some (x16,0)
def t8 (x9:Int) (x8:A9):Ty19:=some (x8,x9)
def u6 (x1:B6) (x2:B5):Ty19:=(vg x1.Table x1.Class x2.Text).bind fun(x6,x7)=>(lk x1 x6 x7).bind fun(x8,x9)=>t8 x9 x8
def t7 (x9:Int) (x8:A9):Ty19:=some (x8,x9)
def u5 (x1:B6) (x2:B5):Ty19:=(js x1 x2.Text).bind fun(x6,x7)=>(lq x1 x6 x7).bind fun(x8,x9)=>t7 x9 x8
abbrev bl :Type:=(B6->B5->Option (A9 × Int)) × (B6->B5->Option (Bt)) × (B6->B5->Option (A9 × Int)) × (B6->B5->Option (A9 × Int)) × (B6->B5->((List A9)->Bt->Bt->Option (A9 × Bool))->Option (A9 × Int))
def oe (R:bl) (x1:B6) (x2:B5):Ty19:=(if(!(ghas x2.Kind (gset 20 (some 69) (gset 18 (some 68) (gset 21 (some 67) (gset 19 (some 66) (gset 17 (some 65) ([]:GMap Int (Option Nat)))))))))=true then some ((A9.mk 0 [] [] [] [] false [] 0 0),0)else(if decide ((gget x2.Kind none (gset 20 (some 69) (gset 18 (some 68) (gset 21 (some 67) (gset 19 (some 66) (gset 17 (some 65) ([]:GMap Int (Option Nat))))))))=some 65)=true then(rf x1 x2).bind fun(x9,x10)=>some (x9,x10)else(if decide ((gget x2.Kind none (gset 20 (some 69) (gset 18 (some 68) (gset 21 (some 67) (gset 19 (some 66) (gset 17 (some 65) ([]:GMap Int (Option Nat))))))))=some 66)=true then(u6 x1 x2).bind fun(x12,x13)=>some (x12,x13)else(if decide ((gget x2.Kind none (gset 20 (some 69) (gset 18 (some 68) (gset 21 (some 67) (gset 19 (some 66) (gset 17 (some 65) ([]:GMap Int (Option Nat))))))))=some 67)=true then(u5 x1 x2).bind fun(x15,x16)=>some (x15,x16)else(if decide ((gget x2.Kind none (gset 20 (some 69) (gset 18 (some 68) (gset 21 (some 67) (gset 19 (some 66) (gset 17 (some 65) ([]:GMap Int (Option Nat))))))))=some 68)=true then(R.2.2.1 x1 x2).bind fun(x18,x19)=>some (x18,x19)else(if decide ((gget x2.Kind none (gset 20 (some 69) (gset 18 (some 68) (gset 21 (some 67) (gset 19 (some 66) (gset 17 (some 65) ([]:GMap Int (Option Nat))))))))=some 69)=true then(R.2.2.2.1 x1 x2).bind fun(x21,x22)=>some (x21,x22)else none))))))
def pe (R:bl) (x2:B5) (x1:B6) (x9:Bool):Ty1:=(if x9=true then some ([98,111,111,108,101,97,110]:Bt)else(if(x2.Kind==15)=true then some ([110,117,108,108]:Bt)else(if(x2.Kind==24)=true then(f5 ([([43]:Bt),([45]:Bt),([42]:Bt),([47]:Bt),([37]:Bt)]:List Bt) x2.Text).bind fun x13=>(if x13=true then some ([105,110,116]:Bt)else some ([98,111,111,108,101,97,110]:Bt))else(if(x2.Kind==16)=true then(if(!x1.Static)=true then some x1.Class else some [])else(R.1 x1 x2).bind fun(x17,x18)=>(if(x18 != 0)=true then some []else(if(x2.Kind==21)=true then some x17.Id else(if(x17.Kind==1)=true then some []else some x17.Type_)))))))
def pd (R:bl) (x2:B5) (x1:B6) (x6:Bool):Ty1:=(if x6=true then some ([105,110,116]:Bt)else(if(x2.Kind==14)=true then pe R x2 x1 (x2.Kind==14)else pe R x2 x1 (x2.Kind==22)))
def rk (R:bl) (x1:B6) (x2:B5):Ty1:=(if(x2.Kind==13)=true then pd R x2 x1 (x2.Kind==13)else pd R x2 x1 (x2.Kind==23))
def sr (R:bl) (x1:B6) (x2:B5):Ty19:=(R.2.2.2.2 x1 x2 wb).bind fun(x6,x7)=>some (x6,x7)
def my (R:bl) (x1:B6) (x2:B5):Ty19:=(R.2.2.2.2 x1 x2 vg).bind fun(x6,x7)=>some (x6,x7)
def qz (R:bl) (x33:Int) (x32:A9):Ty19:=some (x32,x33)
def mv (R:bl) (x3:((List A9)->Bt->Bt->Option (A9 × Bool))) (x1:B6) (x23:A9) (x2:B5) (x27:Bool):Ty19:=(if x27=true then some ((A9.mk 0 [] [] [] [] false [] 0 0),180)else(x3 x1.Table x23.Id x2.Text).bind fun(x30,x31)=>(lk ({x1 with Static:=false}) x30 x31).bind fun(x32,x33)=>qz R x33 x32)
def qy (R:bl) (x3:((List A9)->Bt->Bt->Option (A9 × Bool))) (x1:B6) (x2:B5) (x24:Bool) (x23:A9):Ty19:=(if(!x24)=true then mv R x3 x1 x23 x2 true else mv R x3 x1 x23 x2 (x23.Id==[]))
def ku (R:bl) (x1:B6) (x8:B5) (x3:((List A9)->Bt->Bt->Option (A9 × Bool))) (x2:B5):Ty19:=(R.2.1 x1 x8).bind fun x22=>(js x1 x22).bind fun(x23,x24)=>qy R x3 x1 x2 x24 x23
def qx (R:bl) (x21:Int) (x20:A9):Ty19:=some (x20,x21)
def mu (R:bl) (x3:((List A9)->Bt->Bt->Option (A9 × Bool))) (x1:B6) (x11:A9) (x2 x8:B5) (x15:Bool):Ty19:=(if x15=true then(x3 x1.Table x11.Id x2.Text).bind fun(x18,x19)=>(lk ({x1 with Static:=true}) x18 x19).bind fun(x20,x21)=>qx R x21 x20 else ku R x1 x8 x3 x2)
def od (R:bl) (x1:B6) (x2:B5) (x3:((List A9)->Bt->Bt->Option (A9 × Bool))):Ty19:=(if((x2.Kids.length:Int)==0)=true then some ((A9.mk 0 [] [] [] [] false [] 0 0),180)else(idx x2.Kids 0).bind fun x8=>(if(x8.Kind==17)=true then(rf x1 x8).bind fun(x11,x12)=>(if(x12==0)=true then mu R x3 x1 x11 x2 x8 (x11.Kind==1)else mu R x3 x1 x11 x2 x8 false)else ku R x1 x8 x3 x2))
def aew (R:bl):bl:=((fun x1 x2=>oe R x1 x2),(fun x1 x2=>rk R x1 x2),(fun x1 x2=>sr R x1 x2),(fun x1 x2=>my R x1 x2),(fun x1 x2 x3=>od R x1 x2 x3))
def co (n:Nat):bl:=Nat.rec (motive:=fun _=>bl) ((fun x1 x2=>none),(fun x1 x2=>none),(fun x1 x2=>none),(fun x1 x2=>none),(fun x1 x2 x3=>none)) (fun _ R=>aew R) n
def vo (x1:B6) (x2:B5):Ty19:=(co 1048576).1 x1 x2
def ai3 (x1:B6) (x2:B5):Ty1:=(co 1048576).2.1 x1 x2
def ij (x2:B5) (x36:Bt) (x38:Int) (x39:Bt) (x40:Int) (x41:List B7):Ty20:=(nw x2.At x36 (B8.mk x41 x38 x39 x40)).bind fun x42=>some (.ok x42)
def mf (x16:Bt) (x17:Int) (x2:B5) (x15:Int) (x18:List B7) (x1:B6) (x27:Bool):Ty20:=(if x27=true then(uf x16 x17).bind fun x29=>ij x2 x29 x15 x16 x17 x18 else(vo x1 x2).bind fun(x30,x31)=>(anu (la x31 x2.At (B8.mk x18 x15 x16 x17)) (fun m35=>some (.bad m35)) fun x33=>ij x2 x30.Id x33.file x33.method x33.many x33.uses))
def md (x2:B5) (x1:B6) (x15:Int) (x16:Bt) (x17:Int) (x18:List B7):Ty20:=(if(decide (x2.At<0))=true then some (.ok (B8.mk x18 x15 x16 x17))else(if(x2.Kind==1)=true then(ug x2.Text).bind fun x21=>ij x2 x21 x15 x16 x17 x18 else(if(x2.Kind==2)=true then(yc x1.Class x2.Text).bind fun x23=>ij x2 x23 x15 x16 x17 x18 else(if(x2.Kind==3)=true then(uq x1.Class x2.Text).bind fun x25=>ij x2 x25 x15 x16 x17 x18 else(if(x2.Kind==4)=true then mf x16 x17 x2 x15 x18 x1 (x2.Kind==4)else mf x16 x17 x2 x15 x18 x1 (x2.Kind==6))))))
def pa (x2:B5) (x4:B8) (x1:B6) (x9:Bool):Ty20:=(if x9=true then(anu (la 171 x2.From x4) (fun m13=>some (.bad m13)) fun x11=>md x2 x1 x11.file x11.method x11.many x11.uses)else md x2 x1 x4.file x4.method x4.many x4.uses)
def u4 (x1:B6) (x2:B5) (x4:B8):Ty20:=(if(x2.Kind==16)=true then pa x2 x4 x1 x1.Static else pa x2 x4 x1 false)
abbrev cc :Type:=(B6->B5->B8->Option (PX B9 (B6 × B8)))
abbrev Ty21 :Type:=Option (PX B9 (B6 × B8))
def ob (R:cc) (x45:List B7) (x41:Int) (x42:Bt) (x43:Int) (x71:B6):Ty21:=some (.ok (x71,(B8.mk x45 x41 x42 x43)))
def r8 (R:cc) (x31:Bool) (x1:B6) (x32:Bt) (x2:B5) (x28:B8) (x41:Int) (x42:Bt) (x43:Int) (x45:List B7) (x44:B6):Ty21:=(if x31=true then(ae0 x1.Seen).bind fun x67=>(app 120 x67 ([(A9.mk 4 x32 x2.Text x28.method x2.Type_ false [] x28.file x2.At)]:List A9)).bind fun x69=>ob R x45 x41 x42 x43 ({x1 with Seen:=x69})else ob R x45 x41 x42 x43 x1)
abbrev Ty22 :Type:=Option ((Int × Int × Bt × Int × B6 × (List B7)) ⊕ (Flow (Int × Bt × Int × (List B7) × B6) (PX B9 (B6 × B8))))
def oa (R:cc) (x44:B6) (x54:B5) (x45:List B7) (x41 x39:Int) (x60:Bt) (x61:Int):Ty22:=(anu (R x44 x54 (B8.mk x45 x41 x60 x61)) (fun m65=>some (.inr (.done (.bad m65)))) fun(x62,x63)=>some (.inl (w64 (x39+1),x63.file,x63.method,x63.many,x62,x63.uses)))
def jy (R:cc) (x1:B6) (x54:B5) (x44:B6) (x45:List B7) (x41 x39:Int) (x42:Bt) (x43:Int) (x57:Bool):Ty22:=(if x57=true then(uq x1.Class x54.Text).bind fun x59=>oa R x44 x54 x45 x41 x39 x59 0 else oa R x44 x54 x45 x41 x39 x42 x43)
def i0 (R:cc) (x22:List B5) (x2:B5) (x1:B6) (x39 x41:Int) (x42:Bt) (x43:Int) (x44:B6) (x45:List B7):Ty22:=(if(decide (x39<(x22.length:Int)))=true then(idx x22 x39).bind fun x54=>(if(x2.Kind==1)=true then jy R x1 x54 x44 x45 x41 x39 x42 x43 (x54.Kind==3)else jy R x1 x54 x44 x45 x41 x39 x42 x43 false)else some (.inr (.next (x41,x42,x43,x45,x44))))
def jx (R:cc) (x22:List B5) (x2:B5) (x1:B6) (x28:B8) (x31:Bool) (x32:Bt) (x37:Int) (x38:B6):Ty21:=(iter (fun s=>i0 R x22 x2 x1 s.1 s.2.1 s.2.2.1 s.2.2.2.1 s.2.2.2.2.1 s.2.2.2.2.2) (0,x28.file,x28.method,x37,x38,x28.uses)).bind fun z=>match z with| .next p=>r8 R x31 x1 x32 x2 x28 p.1 p.2.1 p.2.2.1 p.2.2.2.1 p.2.2.2.2| .done r=>some r
def r9 (R:cc) (x31:Bool) (x22:List B5) (x2:B5) (x1:B6) (x28:B8) (x32:Bt):Ty21:=(if x31=true then jx R x22 x2 x1 x28 x31 x32 (w64 (x28.many+1)) x1 else(if(x2.Kind==3)=true then jx R x22 x2 x1 x28 x31 x32 x28.many ({x1 with Static:=x2.N==1})else jx R x22 x2 x1 x28 x31 x32 x28.many x1))
def g7 (R:cc) (x28:B8) (x22:List B5) (x2:B5) (x1:B6) (x31:Bool):Ty21:=(uf x28.method x28.many).bind fun x32=>r9 R x31 x22 x2 x1 x28 x32
def lc (R:cc) (x1:B6) (x2:B5) (x22:List B5) (x24:Int) (x25:Bt) (x26:Int) (x27:List B7):Ty21:=(anu (u4 x1 x2 (B8.mk x27 x24 x25 x26)) (fun m72=>some (.bad m72)) fun x28=>(if(x2.Kind==4)=true then g7 R x28 x22 x2 x1 true else g7 R x28 x22 x2 x1 (x2.Kind==6)))
def mt (R:cc) (x2:B5) (x1:B6) (x18:B8):Ty21:=(subL x2.Kids 1 (x2.Kids.length:Int)).bind fun x21=>lc R x1 x2 x21 x18.file x18.method x18.many x18.uses
def ft (R:cc) (x2:B5) (x1:B6) (x9:B8) (x14:Bool):Ty21:=(if x14=true then(idx x2.Kids 0).bind fun x16=>(anu (R x1 x16 x9) (fun m20=>some (.bad m20)) fun(x17,x18)=>mt R x2 x1 x18)else lc R x1 x2 x2.Kids x9.file x9.method x9.many x9.uses)
def ph (R:cc) (x1:B6) (x2:B5) (x4:B8):Ty21:=(anu (sq x1 x2 x4) (fun m73=>some (.bad m73)) fun x9=>(if(x2.Kind==18)=true then ft R x2 x1 x9 (decide ((x2.Kids.length:Int)>0))else(if(x2.Kind==20)=true then ft R x2 x1 x9 (decide ((x2.Kids.length:Int)>0))else ft R x2 x1 x9 false)))
def age (R:cc):cc:=(fun x1 x2 x4=>ph R x1 x2 x4)
def bq (n:Nat):cc:=Nat.rec (motive:=fun _=>cc) (fun x1 x2 x4=>none) (fun _ R=>age R) n
def aco (x1:B6) (x2:B5) (x4:B8):Ty21:=(bq 1048576) x1 x2 x4
abbrev Ty23 :Type:=Option ((List B7))
def gi (x7:List B7):Ty23:=some x7
abbrev Ty24 :Type:=Option ((Int × (List B7)) ⊕ ((List B7)))
def gh (x6:Int) (x12:List B7):Ty24:=some (.inl (w64 (x6+1),x12))
def dt (x12:List B7) (x11:Int) (x19:Bool):Ty24:=(if x19=true then(idx x12 (w64 (x11 - 1))).bind fun x21=>(idx x12 x11).bind fun x22=>(idx x12 x11).bind fun x23=>(idx (List.set x12 (Int.toNat x11) x21) (w64 (x11 - 1))).bind fun x24=>some (.inl (w64 (x11 - 1),(List.set (List.set x12 (Int.toNat x11) x21) (Int.toNat (w64 (x11 - 1))) x22)))else some (.inr x12))
def cq (x1:Int) (x3:(B7->B7->Option Int)) (x11:Int) (x12:List B7):Ty24:=(if(decide (x11>x1))=true then(idx x12 x11).bind fun x16=>(idx x12 (w64 (x11 - 1))).bind fun x17=>(x3 x16 x17).bind fun x18=>dt x12 x11 (decide (x18<0))else dt x12 x11 false)
def cg (x2 x1:Int) (x3:(B7->B7->Option Int)) (x6:Int) (x7:List B7):Ty24:=(if(decide (x6<x2))=true then(iter (fun s=>cq x1 x3 s.1 s.2) (x6,x7)).bind fun p=>gh x6 p else some (.inr x7))
def eh (x1 x2:Int) (x3:(B7->B7->Option Int)) (x5:List B7):Ty23:=(iter (fun s=>cg x2 x1 x3 s.1 s.2) (w64 (x1+1),x5)).bind fun p=>gi p
def ie (x8:List B7):Ty23:=some x8
def dg (x3 x2 x1 x7:Int) (x8:List B7):Ty24:=(if(decide (x7<x3))=true then(idx x8 (w64 (x2+x7))).bind fun x12=>(idx x8 (w64 (x1+x7))).bind fun x13=>(idx x8 (w64 (x1+x7))).bind fun x14=>(idx (List.set x8 (Int.toNat (w64 (x1+x7))) x12) (w64 (x2+x7))).bind fun x15=>some (.inl (w64 (x7+1),(List.set (List.set x8 (Int.toNat (w64 (x1+x7))) x12) (Int.toNat (w64 (x2+x7))) x13)))else some (.inr x8))
def eg (x1 x2 x3:Int) (x4:(B7->B7->Option Int)) (x6:List B7):Ty23:=(iter (fun s=>dg x3 x2 x1 s.1 s.2) (0,x6)).bind fun p=>ie p
def gq (x2:Int) (x4:(B7->B7->Option Int)) (x7:Int) (x9:List B7):Ty23:=(eg (w64 (x2 - x7)) x2 x7 x4 x9).bind fun x17=>some x17
abbrev Ty25 :Type:=Option ((Int × Int × (List B7)) ⊕ (Int × (List B7)))
def cw (x2:Int) (x4:(B7->B7->Option Int)) (x7 x8:Int) (x9:List B7):Ty25:=(if(x7 != x8)=true then(if(decide (x7>x8))=true then(eg (w64 (x2 - x7)) x2 x8 x4 x9).bind fun x15=>some (.inl (w64 (x7 - x8),x8,x15))else(eg (w64 (x2 - x7)) (w64 ((w64 (x2+x8)) - x7)) x7 x4 x9).bind fun x16=>some (.inl (x7,w64 (x8 - x7),x16)))else some (.inr (x7,x9)))
def il (x1 x2 x3:Int) (x4:(B7->B7->Option Int)) (x6:List B7):Ty23:=(iter (fun s=>cw x2 x4 s.1 s.2.1 s.2.2) (w64 (x2 - x1),w64 (x3 - x2),x6)).bind fun p=>gq x2 x4 p.1 p.2
abbrev ar :Type:=(Int->Int->Int->(B7->B7->Option Int)->(List B7)->Option ((List B7)))
def io (R:ar) (x18:List B7):Ty23:=some x18
def dl (R:ar) (x8 x17:Int) (x18:List B7):Ty24:=(if(decide (x17<(w64 (x8 - 1))))=true then(idx x18 (w64 (x17+1))).bind fun x22=>(idx x18 x17).bind fun x23=>(idx x18 x17).bind fun x24=>(idx (List.set x18 (Int.toNat x17) x22) (w64 (x17+1))).bind fun x25=>some (.inl (w64 (x17+1),(List.set (List.set x18 (Int.toNat x17) x22) (Int.toNat (w64 (x17+1))) x23)))else some (.inr x18))
def gc (R:ar) (x1:Int) (x6:List B7) (x8:Int):Ty23:=(iter (fun s=>dl R x8 s.1 s.2) (x1,x6)).bind fun p=>io R p
abbrev Ty26 :Type:=Option ((Int × Int) ⊕ (Int))
def ip (R:ar) (x8 x9 x15:Int):Ty26:=(if(decide (x15<0))=true then some (.inl (w64 ((w64 (Int.fdiv (IntKind.wrap .u64 (w64 (x8+x9))) 2))+1),x9))else some (.inl (x8,w64 (Int.fdiv (IntKind.wrap .u64 (w64 (x8+x9))) 2))))
def dk (R:ar) (x6:List B7) (x1:Int) (x4:(B7->B7->Option Int)) (x8 x9:Int):Ty26:=(if(decide (x8<x9))=true then(idx x6 (w64 (Int.fdiv (IntKind.wrap .u64 (w64 (x8+x9))) 2))).bind fun x13=>(idx x6 x1).bind fun x14=>(x4 x13 x14).bind fun x15=>ip R x8 x9 x15 else some (.inr x8))
def im (R:ar) (x37:List B7):Ty23:=some x37
def dj (R:ar) (x27 x36:Int) (x37:List B7):Ty24:=(if(decide (x36>x27))=true then(idx x37 (w64 (x36 - 1))).bind fun x41=>(idx x37 x36).bind fun x42=>(idx x37 x36).bind fun x43=>(idx (List.set x37 (Int.toNat x36) x41) (w64 (x36 - 1))).bind fun x44=>some (.inl (w64 (x36 - 1),(List.set (List.set x37 (Int.toNat x36) x41) (Int.toNat (w64 (x36 - 1))) x42)))else some (.inr x37))
def gb (R:ar) (x2:Int) (x6:List B7) (x27:Int):Ty23:=(iter (fun s=>dj R x27 s.1 s.2) (x2,x6)).bind fun p=>im R p
def ic (R:ar) (x27 x28 x34:Int):Ty26:=(if(!(decide (x34<0)))=true then some (.inl (w64 ((w64 (Int.fdiv (IntKind.wrap .u64 (w64 (x27+x28))) 2))+1),x28))else some (.inl (x27,w64 (Int.fdiv (IntKind.wrap .u64 (w64 (x27+x28))) 2))))
def di (R:ar) (x6:List B7) (x2:Int) (x4:(B7->B7->Option Int)) (x27 x28:Int):Ty26:=(if(decide (x27<x28))=true then(idx x6 x2).bind fun x32=>(idx x6 (w64 (Int.fdiv (IntKind.wrap .u64 (w64 (x27+x28))) 2))).bind fun x33=>(x4 x32 x33).bind fun x34=>ic R x27 x28 x34 else some (.inr x27))
def fw (R:ar) (x1 x3 x2 x48:Int) (x4:(B7->B7->Option Int)) (x66:List B7) (x68:Bool):Ty23:=(if x68=true then(R (w64 (Int.fdiv (IntKind.wrap .u64 (w64 (x1+x3))) 2)) (w64 ((w64 ((w64 (Int.fdiv (IntKind.wrap .u64 (w64 (x1+x3))) 2))+x2)) - x48)) x3 x4 x66).bind fun x70=>some x70 else some x66)
def ev (R:ar) (x1 x3 x2 x48:Int) (x4:(B7->B7->Option Int)) (x66:List B7):Ty23:=(if(decide ((w64 (Int.fdiv (IntKind.wrap .u64 (w64 (x1+x3))) 2))<(w64 ((w64 ((w64 (Int.fdiv (IntKind.wrap .u64 (w64 (x1+x3))) 2))+x2)) - x48))))=true then fw R x1 x3 x2 x48 x4 x66 (decide ((w64 ((w64 ((w64 (Int.fdiv (IntKind.wrap .u64 (w64 (x1+x3))) 2))+x2)) - x48))<x3))else fw R x1 x3 x2 x48 x4 x66 false)
def fv (R:ar) (x1 x48 x3:Int) (x4:(B7->B7->Option Int)) (x61:List B7) (x2:Int) (x63:Bool):Ty23:=(if x63=true then(R x1 x48 (w64 (Int.fdiv (IntKind.wrap .u64 (w64 (x1+x3))) 2)) x4 x61).bind fun x65=>ev R x1 x3 x2 x48 x4 x65 else ev R x1 x3 x2 x48 x4 x61)
def ep (R:ar) (x1 x48 x3:Int) (x4:(B7->B7->Option Int)) (x2:Int) (x61:List B7):Ty23:=(if(decide (x1<x48))=true then fv R x1 x48 x3 x4 x61 x2 (decide (x48<(w64 (Int.fdiv (IntKind.wrap .u64 (w64 (x1+x3))) 2))))else fv R x1 x48 x3 x4 x61 x2 false)
def fu (R:ar) (x48 x2 x1 x3:Int) (x4:(B7->B7->Option Int)) (x6:List B7) (x58:Bool):Ty23:=(if x58=true then(il x48 x2 (w64 ((w64 ((w64 (Int.fdiv (IntKind.wrap .u64 (w64 (x1+x3))) 2))+x2)) - x48)) x4 x6).bind fun x60=>ep R x1 x48 x3 x4 x2 x60 else ep R x1 x48 x3 x4 x2 x6)
def ia (R:ar) (x2 x1 x3:Int) (x4:(B7->B7->Option Int)) (x6:List B7) (x48:Int):Ty23:=(if(decide (x48<x2))=true then fu R x48 x2 x1 x3 x4 x6 (decide (x2<(w64 ((w64 ((w64 (Int.fdiv (IntKind.wrap .u64 (w64 (x1+x3))) 2))+x2)) - x48))))else fu R x48 x2 x1 x3 x4 x6 false)
def ib (R:ar) (x48 x49 x55:Int):Ty26:=(if(!(decide (x55<0)))=true then some (.inl (w64 ((w64 (Int.fdiv (IntKind.wrap .u64 (w64 (x48+x49))) 2))+1),x49))else some (.inl (x48,w64 (Int.fdiv (IntKind.wrap .u64 (w64 (x48+x49))) 2))))
def de (R:ar) (x6:List B7) (x1 x3 x2:Int) (x4:(B7->B7->Option Int)) (x48 x49:Int):Ty26:=(if(decide (x48<x49))=true then(idx x6 (w64 ((w64 ((w64 ((w64 (Int.fdiv (IntKind.wrap .u64 (w64 (x1+x3))) 2))+x2)) - 1)) - (w64 (Int.fdiv (IntKind.wrap .u64 (w64 (x48+x49))) 2))))).bind fun x53=>(idx x6 (w64 (Int.fdiv (IntKind.wrap .u64 (w64 (x48+x49))) 2))).bind fun x54=>(x4 x53 x54).bind fun x55=>ib R x48 x49 x55 else some (.inr x48))
def eo (R:ar) (x6:List B7) (x1 x3 x2:Int) (x4:(B7->B7->Option Int)) (x46 x47:Int):Ty23:=(iter (fun s=>de R x6 x1 x3 x2 x4 s.1 s.2) (x46,x47)).bind fun p=>ia R x2 x1 x3 x4 x6 p
def gl (R:ar) (x1 x2 x3:Int) (x4:(B7->B7->Option Int)) (x6:List B7):Ty23:=(if((w64 (x2 - x1))==1)=true then(iter (fun s=>dk R x6 x1 x4 s.1 s.2) (x2,x3)).bind fun p=>gc R x1 x6 p else(if((w64 (x3 - x2))==1)=true then(iter (fun s=>di R x6 x2 x4 s.1 s.2) (x1,x2)).bind fun p=>gb R x2 x6 p else(if(decide (x2>(w64 (Int.fdiv (IntKind.wrap .u64 (w64 (x1+x3))) 2))))=true then eo R x6 x1 x3 x2 x4 (w64 ((w64 ((w64 (Int.fdiv (IntKind.wrap .u64 (w64 (x1+x3))) 2))+x2)) - x3)) (w64 (Int.fdiv (IntKind.wrap .u64 (w64 (x1+x3))) 2))else eo R x6 x1 x3 x2 x4 x1 x2)))
def vf (R:ar):ar:=(fun x1 x2 x3 x4 x6=>gl R x1 x2 x3 x4 x6)
def bv (n:Nat):ar:=Nat.rec (motive:=fun _=>ar) (fun x1 x2 x3 x4 x6=>none) (fun _ R=>vf R) n
def gw (x1 x2 x3:Int) (x4:(B7->B7->Option Int)) (x6:List B7):Ty23:=(bv 1048576) x1 x2 x3 x4 x6
def lf (x15:List B7):Ty23:=some x15
def gn (x14:Int) (x29:List B7):Ty24:=some (.inl (w64 (x14 * 2),x29))
def fo (x14 x1:Int) (x2:(B7->B7->Option Int)) (x19:Int) (x21:List B7):Ty24:=(if(decide ((w64 (x19+x14))<x1))=true then(gw x19 (w64 (x19+x14)) x1 x2 x21).bind fun x28=>gn x14 x28 else gn x14 x21)
def dc (x1 x14:Int) (x2:(B7->B7->Option Int)) (x19 x20:Int) (x21:List B7):Ty25:=(if(decide (x20<=x1))=true then(gw x19 (w64 (x19+x14)) x20 x2 x21).bind fun x26=>some (.inl (x20,w64 (x20+(w64 (2 * x14))),x26))else some (.inr (x19,x21)))
def cv (x1:Int) (x2:(B7->B7->Option Int)) (x14:Int) (x15:List B7):Ty24:=(if(decide (x14<x1))=true then(iter (fun s=>dc x1 x14 x2 s.1 s.2.1 s.2.2) (0,w64 (2 * x14),x15)).bind fun p=>fo x14 x1 x2 p.1 p.2 else some (.inr x15))
def je (x1:Int) (x2:(B7->B7->Option Int)) (x5:Int) (x7:List B7):Ty23:=(eh x5 x1 x2 x7).bind fun x13=>(iter (fun s=>cv x1 x2 s.1 s.2) (20,x13)).bind fun p=>lf p
def cu (x1:Int) (x2:(B7->B7->Option Int)) (x5 x6:Int) (x7:List B7):Ty25:=(if(decide (x6<=x1))=true then(eh x5 x6 x2 x7).bind fun x12=>some (.inl (x6,w64 (x6+20),x12))else some (.inr (x5,x7)))
def ik (x1:Int) (x2:(B7->B7->Option Int)) (x4:List B7):Ty23:=(iter (fun s=>cu x1 x2 s.1 s.2.1 s.2.2) (0,20,x4)).bind fun p=>je x1 x2 p.1 p.2
def d6 (x1:(B7->B7->Option Int)) (x3:List B7):Ty23:=(ik (x3.length:Int) x1 x3).bind fun x4=>some x4
def adm :Option (Int):=some 0
def ii (x1:List Int) (x2:Int):Ty18:=(if(decide (x2<(x1.length:Int)))=true then(idx x1 x2).bind fun x5=>(if(x5 != 0)=true then some (.inr (.done x5))else some (.inl (w64 (x2+1))))else some (.inr (.next ())))
def ag2 (x1:List Int):Ty15:=(iter (fun s=>ii x1 s) 0).bind fun z=>match z with| .next p=>adm| .done r=>some r
def zg (x1:Int):Ty12:=some (x1 != x1)
def re (x1 x2:Int):Ty15:=(zg x1).bind fun x3=>(zg x2).bind fun x4=>(if x3=true then(if x4=true then some 0 else some (-1))else(if x4=true then some 1 else(if(decide (x1<x2))=true then some (-1)else(if(decide (x1>x2))=true then some 1 else some 0))))
def abr (x7:Int):Ty15:=some x7
def yd (x1 x2:B7):Ty15:=(re x1.File x2.File).bind fun x5=>(re x1.At x2.At).bind fun x6=>(ag2 ([x5,x6]:List Int)).bind fun x7=>abr x7
def amu :Option (Bt × Bool):=some ([],false)
abbrev Ty27 :Type:=Option ((Int) ⊕ (Flow Unit (Bt × Bool)))
def ag4 (x7:B7) (x4:Int) (x10:Bool):Ty27:=(if x10=true then some (.inr (.done (x7.Id,true)))else some (.inl (w64 (x4+1))))
def aal (x1:List B7) (x2 x3 x4:Int):Ty27:=(if(decide (x4<(x1.length:Int)))=true then(idx x1 x4).bind fun x7=>(if(x7.File==x2)=true then ag4 x7 x4 (x7.At==x3)else ag4 x7 x4 false)else some (.inr (.next ())))
def amf (x1:List B7) (x2 x3:Int):Option (Bt × Bool):=(iter (fun s=>aal x1 x2 x3 s) 0).bind fun z=>match z with| .next p=>amu| .done r=>some r
def ajh (x5:List B7):Ty23:=some x5
def ag3 (x4:Int) (x16:List B7) (x10:B7):Ty24:=some (.inl (w64 (x4+1),x16))
def aak (x1:List B7) (x2:Bt) (x4:Int) (x5:List B7):Ty24:=(if(decide (x4<(x1.length:Int)))=true then(idx x1 x4).bind fun x10=>(if(x10.Id==x2)=true then(app 32 x5 ([x10]:List B7)).bind fun x13=>ag3 x4 x13 x10 else ag3 x4 x5 x10)else some (.inr x5))
def ame (x1:List B7) (x2:Bt):Ty23:=(iter (fun s=>aak x1 x2 s.1 s.2) (0,[])).bind fun p=>ajh p
def nu (x2:Int) (x3:Bt):Option ((Int × Bt) ⊕ (Bt)):=(cat (apn ([IntKind.wrap .u8 (w64 (48+(Int.tmod x2 10)))]:List Int)) x3).bind fun x6=>(if((w64 (Int.tdiv x2 10))==0)=true then some (.inr x6)else some (.inl (w64 (Int.tdiv x2 10),x6)))
def abz (x1:Int):Ty1:=iter (fun s=>nu s.1 s.2) ((if 0>x1 then 0 else x1),[])
def pq (x1:Bt) (x2:Int):Ty1:=(cat x1 ([35]:Bt)).bind fun x3=>(abz x2).bind fun x4=>(cat x3 x4).bind fun x5=>some x5
def uj (x1 x2:Bt):Ty1:=(cat x1 ([46]:Bt)).bind fun x3=>(cat x3 x2).bind fun x4=>(cat x4 ([40,41]:Bt)).bind fun x5=>some x5
def aaq (x1 x2:Bt):Ty1:=(cat x1 ([46]:Bt)).bind fun x3=>(cat x3 x2).bind fun x4=>some x4
abbrev iv :Type:=(B5->Int->Option ((List B5)))
def ae9 (R:iv) (x14:List B5):Ty2:=some x14
def uk (R:iv) (x1:B5) (x2 x13:Int) (x14:List B5):Option ((Int × (List B5)) ⊕ ((List B5))):=(if(decide (x13<(x1.Kids.length:Int)))=true then(idx x1.Kids x13).bind fun x19=>(R x19 x2).bind fun x20=>(app 104 x14 x20).bind fun x21=>some (.inl (w64 (x13+1),x21))else some (.inr x14))
def ab5 (R:iv) (x1:B5) (x2:Int) (x11:List B5):Ty2:=(iter (fun s=>uk R x1 x2 s.1 s.2) (0,x11)).bind fun p=>ae9 R p
def ab4 (R:iv) (x1:B5) (x2:Int) (x6:Bool):Ty2:=(if x6=true then(app 104 [] ([x1]:List B5)).bind fun x8=>ab5 R x1 x2 x8 else ab5 R x1 x2 [])
def aef (R:iv) (x1:B5) (x2:Int):Ty2:=(if(x2==0)=true then ab4 R x1 x2 true else ab4 R x1 x2 (x1.Kind==x2))
def alh (R:iv):iv:=(fun x1 x2=>aef R x1 x2)
def ou (n:Nat):iv:=Nat.rec (motive:=fun _=>iv) (fun x1 x2=>none) (fun _ R=>alh R) n
def aog (x1:B5) (x2:Int):Ty2:=(ou 1048576) x1 x2
abbrev Ty28 :Type:=Option ((List A9))
def zq (x8:Bt) (x3:B5) (x1:Bt) (x2:Int) (x12:List A9) (x29:List Bt):Ty28:=(app 120 ([(A9.mk 3 x8 x3.Text x1 x3.Type_ (x3.N==1) x29 x2 x3.At)]:List A9) x12).bind fun x42=>some x42
def uu (x27:Int) (x40:List Bt):Ty4:=some (.inl (w64 (x27+1),x40))
def ln (x3:B5) (x27:Int) (x29:List Bt):Ty4:=(if(decide (x27<(x3.Kids.length:Int)))=true then(idx x3.Kids x27).bind fun x34=>(if(x34.Kind==4)=true then(idx x3.Kids x27).bind fun x36=>(app 16 x29 ([x36.Type_]:List Bt)).bind fun x37=>uu x27 x37 else uu x27 x29)else some (.inr x29))
def zp (x3:B5) (x8 x1:Bt) (x2:Int) (x12:List A9):Ty28:=(iter (fun s=>ln x3 s.1 s.2) (0,[])).bind fun p=>zq x8 x3 x1 x2 x12 p
abbrev Ty29 :Type:=Option ((Int × (List A9)) ⊕ ((List A9)))
def ut (x11:Int) (x26:List A9) (x17:B5):Ty29:=some (.inl (w64 (x11+1),x26))
def q9 (x8:Bt) (x12:List A9) (x17:B5) (x2 x11:Int) (x20:Bool):Ty29:=(if x20=true then(pq x8 (x12.length:Int)).bind fun x22=>(app 120 x12 ([(A9.mk 4 x22 x17.Text x8 x17.Type_ false [] x2 x17.At)]:List A9)).bind fun x23=>ut x11 x23 x17 else ut x11 x12 x17)
def lm (x9:List B5) (x8:Bt) (x2 x11:Int) (x12:List A9):Ty29:=(if(decide (x11<(x9.length:Int)))=true then(idx x9 x11).bind fun x17=>(if(x17.Kind==4)=true then q9 x8 x12 x17 x2 x11 true else q9 x8 x12 x17 x2 x11 (x17.Kind==6))else some (.inr x12))
def rm (x1:Bt) (x2:Int) (x3:B5):Ty28:=(if(x3.Kind==2)=true then(aaq x1 x3.Text).bind fun x7=>some ([(A9.mk 2 x7 x3.Text x1 x3.Type_ (x3.N==1) [] x2 x3.At)]:List A9)else(uj x1 x3.Text).bind fun x8=>(aog x3 0).bind fun x9=>(iter (fun s=>lm x9 x8 x2 s.1 s.2) (0,[])).bind fun p=>zp x3 x8 x1 x2 p)
def aa0 :Option (Int):=some (-1)
def aaz (x2:Int):Ty18:=some (.inl (w64 (x2+1)))
abbrev Ty30 :Type:=Option ((Int) ⊕ (Flow Unit ((Int) ⊕ (Flow Unit Int))))
def qe (x2 x5:Int) (x30:Bool):Ty30:=(if x30=true then some (.inr (.done (.inr (.done x2))))else some (.inl (w64 (x5+1))))
def qd (x2:Int) (x1:List A9) (x5:Int):Ty30:=(if(decide (x5<x2))=true then(idx x1 x2).bind fun x8=>(if(x8.Kind != 4)=true then(idx x1 x2).bind fun x10=>(idx x1 x5).bind fun x11=>(if(x10.Kind==x11.Kind)=true then(idx x1 x2).bind fun x13=>(idx x1 x5).bind fun x14=>(if(x13.Owner==x14.Owner)=true then(idx x1 x2).bind fun x16=>(idx x1 x5).bind fun x17=>qe x2 x5 (x16.Name==x17.Name)else qe x2 x5 false)else qe x2 x5 false)else qe x2 x5 false)else some (.inr (.next ())))
def ne (x1:List A9) (x2:Int):Ty18:=(if(decide (x2<(x1.length:Int)))=true then(iter (fun s=>qd x2 x1 s) 0).bind fun z=>match z with| .next p=>aaz x2| .done r=>some r else some (.inr (.next ())))
def aao (x1:List A9):Ty15:=(iter (fun s=>ne x1 s) 0).bind fun z=>match z with| .next p=>aa0| .done r=>some r
abbrev dz :Type:=(B5->(List Bt)->Option (B5 × Bool × (List Bt)))
abbrev Ty31 :Type:=Option (B5 × Bool × (List Bt))
def afy (R:dz) (x5:List Bt):Ty31:=some ((B5.mk 0 [] [] 0 0 0 0 0 []),false,x5)
abbrev Ty32 :Type:=Option (((List Bt) × Int) ⊕ (Flow (List Bt) (B5 × Bool × (List Bt))))
def wk (R:dz) (x6:Int) (x33:List Bt) (x10 x20:B5):Ty32:=some (.inl (x33,w64 (x6+1)))
def wj (R:dz) (x5:List Bt) (x10:B5) (x6:Int) (x20:B5) (x26:Bool):Ty32:=(if x26=true then(app 16 [] x5).bind fun x29=>(app 16 x29 ([x10.Text]:List Bt)).bind fun x31=>wk R x6 x31 x10 x20 else wk R x6 x5 x10 x20)
def s6 (R:dz) (x10:B5) (x5:List Bt) (x6:Int):Ty32:=(R x10 x5).bind fun(x20,x21,x22)=>(if x21=true then some (.inr (.done (x20,true,[])))else(if(x10.Kind==4)=true then wj R x5 x10 x6 x20 true else wj R x5 x10 x6 x20 (x10.Kind==6)))
def aa1 (R:dz) (x10:B5) (x5:List Bt) (x6:Int):Ty32:=s6 R x10 x5 x6
abbrev Ty33 :Type:=Option ((Int) ⊕ (Flow Unit (((List Bt) × Int) ⊕ (Flow (List Bt) (B5 × Bool × (List Bt))))))
def aa2 (R:dz) (x10:B5) (x15:Int) (x18:Bt):Ty33:=(if(x18==x10.Text)=true then some (.inr (.done (.inr (.done (x10,true,[])))))else some (.inl (w64 (x15+1))))
def qf (R:dz) (x5:List Bt) (x10:B5) (x15:Int):Ty33:=(if(decide (x15<(x5.length:Int)))=true then(idx x5 x15).bind fun x18=>aa2 R x10 x15 x18 else some (.inr (.next ())))
def s5 (R:dz) (x5:List Bt) (x10:B5) (x6:Int) (x13:Bool):Ty32:=(if x13=true then(iter (fun s=>qf R x5 x10 s) 0).bind fun z=>match z with| .next p=>aa1 R x10 x5 x6| .done r=>some r else s6 R x10 x5 x6)
def nf (R:dz) (x1:B5) (x5:List Bt) (x6:Int):Ty32:=(if(decide (x6<(x1.Kids.length:Int)))=true then(idx x1.Kids x6).bind fun x10=>(if(x10.Kind==4)=true then s5 R x5 x10 x6 true else s5 R x5 x10 x6 (x10.Kind==6))else some (.inr (.next x5)))
def zh (R:dz) (x1:B5) (x2:List Bt):Ty31:=(iter (fun s=>nf R x1 s.1 s.2) (x2,0)).bind fun z=>match z with| .next p=>afy R p| .done r=>some r
def ajn (R:dz):dz:=(fun x1 x2=>zh R x1 x2)
def gr (n:Nat):dz:=Nat.rec (motive:=fun _=>dz) (fun x1 x2=>none) (fun _ R=>ajn R) n
def aj9 (x1:B5) (x2:List Bt):Ty31:=(gr 1048576) x1 x2
def afz (x5:List A9):Ty7:=some (x5,(B3.mk 0 0 0))
abbrev Ty34 :Type:=Option ((Int × (List A9)) ⊕ (Flow (List A9) ((List A9) × B3)))
def aa3 (x4:Int) (x12:List A9):Ty34:=some (.inl (w64 (x4+1),x12))
abbrev Ty35 :Type:=Option ((Int × (List A9)) ⊕ (Flow (List A9) ((Int × (List A9)) ⊕ (Flow (List A9) ((List A9) × B3)))))
def s7 (x11:Int) (x55:List A9) (x19:B5):Ty35:=some (.inl (w64 (x11+1),x55))
def aa4 (x52 x53:A9):Ty35:=some (.inr (.done (.inr (.done ([],(B3.mk 150 x52.File x53.At))))))
def nh (x11:Int) (x19:B5) (x26:List A9):Ty35:=(aao x26).bind fun x50=>(if(decide (x50≥0))=true then(idx x26 x50).bind fun x52=>(idx x26 x50).bind fun x53=>aa4 x52 x53 else s7 x11 x26 x19)
abbrev Ty36 :Type:=Option ((Int × (List A9)) ⊕ (Flow (List A9) ((Int × (List A9)) ⊕ (Flow (List A9) ((Int × (List A9)) ⊕ (Flow (List A9) ((List A9) × B3)))))))
def qh (x25:Int) (x49:List A9) (x31:B5):Ty36:=some (.inl (w64 (x25+1),x49))
def zr (x4:Int) (x41:B5):Ty36:=some (.inr (.done (.inr (.done (.inr (.done ([],(B3.mk 150 x4 x41.At))))))))
def lp (x4:Int) (x41:B5) (x25:Int) (x37:List A9) (x31:B5) (x46:Bool):Ty36:=(if x46=true then zr x4 x41 else qh x25 x37 x31)
def ra (x25:Int) (x26:List A9) (x31 x19:B5) (x4:Int) (x34:Bool):Ty36:=(if x34=true then qh x25 x26 x31 else(rm x19.Text x4 x31).bind fun x36=>(app 120 x26 x36).bind fun x37=>(aao x37).bind fun x39=>(if(decide (x39≥0))=true then qh x25 x37 x31 else(aj9 x31 []).bind fun(x41,x42,x43)=>(if(x31.Kind==3)=true then lp x4 x41 x25 x37 x31 x42 else lp x4 x41 x25 x37 x31 false)))
def lj (x19:B5) (x4 x25:Int) (x26:List A9):Ty36:=(if(decide (x25<(x19.Kids.length:Int)))=true then(idx x19.Kids x25).bind fun x31=>(if(x31.Kind != 2)=true then ra x25 x26 x31 x19 x4 (x31.Kind != 3)else ra x25 x26 x31 x19 x4 false)else some (.inr (.next x26)))
def qg (x1:List (List B5)) (x4 x11:Int) (x12:List A9):Ty35:=(idx x1 x4).bind fun x16=>(if(decide (x11<(x16.length:Int)))=true then(idx x1 x4).bind fun x18=>(idx x18 x11).bind fun x19=>(if(x19.Kind != 1)=true then s7 x11 x12 x19 else(app 120 x12 ([(A9.mk 1 x19.Text x19.Text [] x19.Type_ false [] x4 x19.At)]:List A9)).bind fun x22=>(iter (fun s=>lj x19 x4 s.1 s.2) (0,x22)).bind fun z=>match z with| .next p=>nh x11 x19 p| .done r=>some r)else some (.inr (.next x12)))
def ng (x1:List (List B5)) (x4:Int) (x5:List A9):Ty34:=(if(decide (x4<(x1.length:Int)))=true then(iter (fun s=>qg x1 x4 s.1 s.2) (0,x5)).bind fun z=>match z with| .next p=>aa3 x4 p| .done r=>some r else some (.inr (.next x5)))
def aap (x1:List (List B5)):Ty7:=(iter (fun s=>ng x1 s.1 s.2) (0,[])).bind fun z=>match z with| .next p=>afz p| .done r=>some r
def xq (x3:Int):Option (Int × Bool):=some (x3,true)
abbrev Ty37 :Type:=Option ((Int) ⊕ (Flow Int (Int × Bool)))
def acn (x29:Int):Ty37:=some (.inl x29)
abbrev Ty38 :Type:=Option ((Int) ⊕ (Int))
def sn (x29:Int) (x33:Bool):Ty38:=(if x33=true then some (.inl (w64 (x29+1)))else some (.inr x29))
def sk (x1:Bt) (x29:Int):Ty38:=(if(decide (x29<(x1.length:Int)))=true then(idxS x1 x29).bind fun x32=>sn x29 (x32 != 10)else sn x29 false)
def xp (x1:Bt) (x3 x35:Int):Ty37:=(if(decide ((w64 (x35+1))≥(x1.length:Int)))=true then some (.inr (.done (x3,false)))else some (.inl (w64 (x35+2))))
def ot (x35:Int) (x41:Bool):Ty38:=(if x41=true then some (.inl (w64 (x35+1)))else some (.inr x35))
def sj (x1:Bt) (x35:Int):Ty38:=(if(decide ((w64 (x35+1))<(x1.length:Int)))=true then(idxS x1 x35).bind fun x38=>(if(x38 != 42)=true then ot x35 true else(idxS x1 (w64 (x35+1))).bind fun x40=>ot x35 (x40 != 47))else ot x35 false)
def ja (x3:Int) (x1:Bt) (x25:Bool):Ty37:=(if x25=true then some (.inr (.done (x3,true)))else(idxS x1 (w64 (x3+1))).bind fun x27=>(if(x27==47)=true then(iter (fun s=>sk x1 s) x3).bind fun p=>acn p else(iter (fun s=>sj x1 s) (w64 (x3+2))).bind fun p=>xp x1 x3 p))
def jc (x3:Int) (x1:Bt) (x6:Int) (x14:Bool):Ty37:=(if x14=true then some (.inl (w64 (x3+1)))else(if(decide ((w64 (x3+1))≥(x1.length:Int)))=true then ja x3 x1 true else(if(x6 != 47)=true then ja x3 x1 true else(idxS x1 (w64 (x3+1))).bind fun x18=>(if(x18 != 47)=true then(idxS x1 (w64 (x3+1))).bind fun x20=>ja x3 x1 (x20 != 42)else ja x3 x1 false))))
def sl (x1:Bt) (x3:Int):Ty37:=(if(decide (x3<(x1.length:Int)))=true then(idxS x1 x3).bind fun x6=>(if(x6==32)=true then jc x3 x1 x6 true else(if(x6==9)=true then jc x3 x1 x6 true else(if(x6==10)=true then jc x3 x1 x6 true else jc x3 x1 x6 (x6==13))))else some (.inr (.next x3)))
def ze (x1:Bt) (x2:Int):Option (Int × Bool):=(iter (fun s=>sl x1 s) x2).bind fun z=>match z with| .next p=>xq p| .done r=>some r
def wz (x3:Bool):Ty12:=some x3
def rz (x1:Int):Ty12:=(if(decide (x1≥48))=true then wz (decide (x1<=57))else wz false)
def abm (x3:Int):Ty12:=some (decide (x3>2147483647))
def wy (x1:Bt) (x3 x4:Int):Ty26:=(if(decide (x4<(x1.length:Int)))=true then(idxS x1 x4).bind fun x8=>some (.inl (w64 ((w64 (10 * x3))+(w64 (IntKind.wrap .u8 (x8 - 48)))),w64 (x4+1)))else some (.inr x3))
def ad7 (x1:Bt):Ty12:=(if(decide ((x1.length:Int)>10))=true then some true else(iter (fun s=>wy x1 s.1 s.2) (0,0)).bind fun p=>abm p)
def jq (x13:Bool):Ty12:=some x13
def rn (x1:Int):Ty12:=(if(decide (x1≥97))=true then(if(decide (x1<=122))=true then jq true else(if(decide (x1≥65))=true then(if(decide (x1<=90))=true then jq true else jq (x1==95))else jq (x1==95)))else(if(decide (x1≥65))=true then(if(decide (x1<=90))=true then jq true else jq (x1==95))else jq (x1==95)))
def adl :Option (Bool):=some false
def zf (x1:Bt) (x2:Int):Ty14:=(if(decide (x2<(([([99,108,97,115,115]:Bt),([101,120,116,101,110,100,115]:Bt),([115,116,97,116,105,99]:Bt),([118,111,105,100]:Bt),([105,110,116]:Bt),([98,111,111,108,101,97,110]:Bt),([105,102]:Bt),([101,108,115,101]:Bt),([119,104,105,108,101]:Bt),([114,101,116,117,114,110]:Bt),([112,114,105,110,116]:Bt),([116,114,117,101]:Bt),([102,97,108,115,101]:Bt),([110,117,108,108]:Bt),([116,104,105,115]:Bt),([110,101,119]:Bt)]:List Bt).length:Int)))=true then(idx ([([99,108,97,115,115]:Bt),([101,120,116,101,110,100,115]:Bt),([115,116,97,116,105,99]:Bt),([118,111,105,100]:Bt),([105,110,116]:Bt),([98,111,111,108,101,97,110]:Bt),([105,102]:Bt),([101,108,115,101]:Bt),([119,104,105,108,101]:Bt),([114,101,116,117,114,110]:Bt),([112,114,105,110,116]:Bt),([116,114,117,101]:Bt),([102,97,108,115,101]:Bt),([110,117,108,108]:Bt),([116,104,105,115]:Bt),([110,101,119]:Bt)]:List Bt) x2).bind fun x5=>(if(x5==x1)=true then some (.inr (.done true))else some (.inl (w64 (x2+1))))else some (.inr (.next ())))
def oo (x1:Bt):Ty12:=(iter (fun s=>zf x1 s) 0).bind fun z=>match z with| .next p=>adl| .done r=>some r
def adi :Option (Int):=some 0
def adk (x11 x14 x15:Int):Ty18:=(if(x14==x15)=true then some (.inr (.done 1))else some (.inl (w64 (x11+1))))
def zb (x1:Bt) (x2 x11:Int):Ty18:=(if(decide (x11<(([43,45,42,47,37,60,62,61,33,40,41,123,125,59,44,46]:Bt).length:Int)))=true then(idxS x1 x2).bind fun x14=>(idxS ([43,45,42,47,37,60,62,61,33,40,41,123,125,59,44,46]:Bt) x11).bind fun x15=>adk x11 x14 x15 else some (.inr (.next ())))
def zc (x1:Bt) (x2:Int):Ty15:=(iter (fun s=>zb x1 x2 s) 0).bind fun z=>match z with| .next p=>adi| .done r=>some r
def adj (x3:Int) (x8 x9:Bt):Ty18:=(if(x8==x9)=true then some (.inr (.done 2))else some (.inl (w64 (x3+1))))
def zd (x1:Bt) (x2 x3:Int) (x6:Bool):Ty18:=(if x6=true then(sub x1 x2 (w64 (x2+2))).bind fun x8=>(idx ([([61,61]:Bt),([33,61]:Bt),([60,61]:Bt),([62,61]:Bt),([38,38]:Bt),([124,124]:Bt)]:List Bt) x3).bind fun x9=>adj x3 x8 x9 else some (.inr (.next ())))
def za (x1:Bt) (x2 x3:Int):Ty18:=(if(decide (x3<(([([61,61]:Bt),([33,61]:Bt),([60,61]:Bt),([62,61]:Bt),([38,38]:Bt),([124,124]:Bt)]:List Bt).length:Int)))=true then zd x1 x2 x3 (decide ((w64 (x2+2))<=(x1.length:Int)))else zd x1 x2 x3 false)
def agy (x1:Bt) (x2:Int):Ty15:=(iter (fun s=>za x1 x2 s) 0).bind fun z=>match z with| .next p=>zc x1 x2| .done r=>some r
abbrev Ty39 :Type:=Option (Int × Int × Int)
def qj (x6:Int) (x18:Bool):Ty39:=(if x18=true then some (0,0,31)else some (2,x6,0))
def abl (x1:Bt) (x2 x6:Int):Ty39:=(sub x1 x2 (w64 (x2+x6))).bind fun x13=>(ad7 x13).bind fun x14=>(if x14=true then qj x6 true else(if(decide (x6>1))=true then(idxS x1 x2).bind fun x17=>qj x6 (x17==48)else qj x6 false))
def tf (x6:Int) (x11:Bool):Ty38:=(if x11=true then some (.inl (w64 (x6+1)))else some (.inr x6))
def te (x2:Int) (x1:Bt) (x6:Int):Ty38:=(if(decide ((w64 (x2+x6))<(x1.length:Int)))=true then(idxS x1 (w64 (x2+x6))).bind fun x9=>(rz x9).bind fun x10=>tf x6 x10 else tf x6 false)
def abk (x1:Bt) (x2 x23:Int):Ty39:=(if(decide (x23>20))=true then some (0,0,2)else(sub x1 x2 (w64 (x2+x23))).bind fun x34=>(oo x34).bind fun x35=>(if x35=true then some (3,x23,0)else some (1,x23,0)))
def qi (x23:Int) (x31:Bool):Ty38:=(if x31=true then some (.inl (w64 (x23+1)))else some (.inr x23))
def tc (x2:Int) (x1:Bt) (x23:Int):Ty38:=(if(decide ((w64 (x2+x23))<(x1.length:Int)))=true then(idxS x1 (w64 (x2+x23))).bind fun x26=>(rn x26).bind fun x27=>(if x27=true then qi x23 true else(idxS x1 (w64 (x2+x23))).bind fun x29=>(rz x29).bind fun x30=>qi x23 x30)else qi x23 false)
def ad6 (x1:Bt) (x2:Int):Ty39:=(idxS x1 x2).bind fun x3=>(rz x3).bind fun x4=>(if x4=true then(iter (fun s=>te x2 x1 s) 0).bind fun p=>abl x1 x2 p else(idxS x1 x2).bind fun x20=>(rn x20).bind fun x21=>(if x21=true then(iter (fun s=>tc x2 x1 s) 0).bind fun p=>abk x1 x2 p else(agy x1 x2).bind fun x37=>(if(x37==0)=true then some (0,0,30)else some (4,x37,0))))
abbrev Ty40 :Type:=Option ((Int × (List C5)) ⊕ ((List C5) × Int × Int))
def afa (x9 x17:Int) (x22:List C5):Ty40:=some (.inl (w64 (x9+x17),x22))
def ab6 (x1:Bt) (x4:Int) (x5:List C5):Ty40:=(ze x1 x4).bind fun(x9,x10)=>(if(!x10)=true then some (.inr ([],x9,32))else(if(x9==(x1.length:Int))=true then(sub x1 x4 (x1.length:Int)).bind fun x13=>(app 48 x5 ([(C5.mk 5 [] x9 x13)]:List C5)).bind fun x14=>some (.inr (x14,0,0))else(ad6 x1 x9).bind fun(x16,x17,x18)=>(if(x18 != 0)=true then some (.inr ([],x9,x18))else(sub x1 x9 (w64 (x9+x17))).bind fun x20=>(sub x1 x4 x9).bind fun x21=>(app 48 x5 ([(C5.mk x16 x20 x9 x21)]:List C5)).bind fun x22=>afa x9 x17 x22)))
def aii (x1:Bt):Option ((List C5) × Int × Int):=(if(decide ((x1.length:Int)>1048576))=true then some ([],0,2)else iter (fun s=>ab6 x1 s.1 s.2) (0,[]))
def yb (x18:Bool):Ty12:=some x18
def cz (x1:List C5) (x2:Int) (x3:Bt):Ty12:=(if(decide (x2<(x1.length:Int)))=true then(idx x1 x2).bind fun x5=>(if(x5.Text==x3)=true then(idx x1 x2).bind fun x7=>(if(x7.Kind != 1)=true then(idx x1 x2).bind fun x9=>yb (x9.Kind != 5)else yb false)else yb false)else yb false)
def c6 (x1:Int):Option (C6):=some (C6.mk x1 120)
def vk (x5:Bool):Ty12:=some x5
def j0 (x1:List C5) (x2:Int):Ty12:=(if(decide (x2<(x1.length:Int)))=true then(idx x1 x2).bind fun x4=>vk (x4.Kind==1)else vk false)
def ae8 (x3 x4:C5):Ty15:=some (w64 (x3.At+(x4.Text.length:Int)))
def agp (x1:List C5) (x2:Int):Ty15:=(idx x1 (w64 (x2 - 1))).bind fun x3=>(idx x1 (w64 (x2 - 1))).bind fun x4=>ae8 x3 x4
def ade (x2:Int) (x5:List B5) (x7:C5) (x8:Int):Option (B5):=some (B5.mk x2 [] [] 0 x7.At x8 (-1) (-1) x5)
def fx (x1:List C5) (x2 x3 x4:Int) (x5:List B5):Option (B5):=(idx x1 x3).bind fun x7=>(agp x1 x4).bind fun x8=>ade x2 x5 x7 x8
def en :Option (C6):=some (C6.mk (-1) 0)
def r6 (x18:Bool):Ty12:=some x18
def adq (x1:List C5) (x2:Int):Ty12:=(j0 x1 x2).bind fun x3=>(if x3=true then r6 true else(cz x1 x2 ([105,110,116]:Bt)).bind fun x5=>(if x5=true then r6 true else(cz x1 x2 ([98,111,111,108,101,97,110]:Bt)).bind fun x7=>(if x7=true then r6 true else(cz x1 x2 ([118,111,105,100]:Bt)).bind fun x9=>r6 x9)))
def ya (x1:List C5) (x2:B5) (x3:Int):Option (B5):=(idx x1 x3).bind fun x6=>(idx x1 x3).bind fun x7=>(idx x1 (w64 (x3+1))).bind fun x8=>(idx x1 (w64 (x3+1))).bind fun x9=>some ({{{{x2 with Type_:=x6.Text} with TypeAt:=x7.At} with Text:=x8.Text} with At:=x9.At})
abbrev Ty41 :Type:=Option ((Int × (List B5)) ⊕ ((List B5) × Int × C6))
def uw (x8:Int) (x1:List C5) (x10:List B5) (x17:Bool):Ty41:=(if x17=true then(c6 x8).bind fun x19=>some (.inr ([],0,x19))else(j0 x1 (w64 (x8+1))).bind fun x21=>(if(!x21)=true then(c6 (w64 (x8+1))).bind fun x23=>some (.inr ([],0,x23))else(fx x1 4 x8 (w64 (x8+2)) []).bind fun x25=>(ya x1 x25 x8).bind fun x26=>(app 104 x10 ([x26]:List B5)).bind fun x27=>(cz x1 (w64 (x8+2)) ([41]:Bt)).bind fun x29=>(if x29=true then(en).bind fun x31=>some (.inr (x27,w64 (x8+3),x31))else(cz x1 (w64 (x8+2)) ([44]:Bt)).bind fun x32=>(if(!x32)=true then(c6 (w64 (x8+2))).bind fun x34=>some (.inr ([],0,x34))else some (.inl (w64 (x8+3),x27))))))
def uv (x1:List C5) (x8:Int) (x10:List B5):Ty41:=(adq x1 x8).bind fun x14=>(if(!x14)=true then uw x8 x1 x10 true else(cz x1 x8 ([118,111,105,100]:Bt)).bind fun x16=>uw x8 x1 x10 x16)
def ab1 (x1:List C5) (x2:Int):Option ((List B5) × Int × C6):=(cz x1 x2 ([41]:Bt)).bind fun x4=>(if x4=true then(en).bind fun x6=>some ([],w64 (x2+1),x6)else iter (fun s=>uv x1 s.1 s.2) (x2,[]))
def ni (x26:Bool):Ty12:=some x26
def ad3 (x1:List C5) (x2:Int):Ty12:=(cz x1 x2 ([105,110,116]:Bt)).bind fun x3=>(if x3=true then ni true else(cz x1 x2 ([98,111,111,108,101,97,110]:Bt)).bind fun x5=>(if x5=true then ni true else(cz x1 x2 ([118,111,105,100]:Bt)).bind fun x7=>(if x7=true then ni true else(j0 x1 x2).bind fun x9=>(if x9=true then(j0 x1 (w64 (x2+1))).bind fun x11=>ni x11 else ni false))))
def abi :Option (Int):=some 0
def af4 (x3:Int):Ty18:=some (.inl (w64 (x3+1)))
def wv (x3:Int) (x1:List C5) (x2 x6:Int):Ty30:=(idx ([([([124,124]:Bt)]:List Bt),([([38,38]:Bt)]:List Bt),([([61,61]:Bt),([33,61]:Bt)]:List Bt),([([60]:Bt),([60,61]:Bt),([62]:Bt),([62,61]:Bt)]:List Bt),([([43]:Bt),([45]:Bt)]:List Bt),([([42]:Bt),([47]:Bt),([37]:Bt)]:List Bt)]:List (List Bt)) x3).bind fun x8=>(if(decide (x6<(x8.length:Int)))=true then(idx ([([([124,124]:Bt)]:List Bt),([([38,38]:Bt)]:List Bt),([([61,61]:Bt),([33,61]:Bt)]:List Bt),([([60]:Bt),([60,61]:Bt),([62]:Bt),([62,61]:Bt)]:List Bt),([([43]:Bt),([45]:Bt)]:List Bt),([([42]:Bt),([47]:Bt),([37]:Bt)]:List Bt)]:List (List Bt)) x3).bind fun x10=>(idx x10 x6).bind fun x11=>(cz x1 x2 x11).bind fun x12=>(if x12=true then some (.inr (.done (.inr (.done (w64 (x3+1))))))else some (.inl (w64 (x6+1))))else some (.inr (.next ())))
def ww (x1:List C5) (x2 x3:Int):Ty18:=(if(decide (x3<(([([([124,124]:Bt)]:List Bt),([([38,38]:Bt)]:List Bt),([([61,61]:Bt),([33,61]:Bt)]:List Bt),([([60]:Bt),([60,61]:Bt),([62]:Bt),([62,61]:Bt)]:List Bt),([([43]:Bt),([45]:Bt)]:List Bt),([([42]:Bt),([47]:Bt),([37]:Bt)]:List Bt)]:List (List Bt)).length:Int)))=true then(iter (fun s=>wv x3 x1 x2 s) 0).bind fun z=>match z with| .next p=>af4 x3| .done r=>some r else some (.inr (.next ())))
def ad5 (x1:List C5) (x2:Int):Ty15:=(iter (fun s=>ww x1 x2 s) 0).bind fun z=>match z with| .next p=>abi| .done r=>some r
abbrev ax :Type:=((List C5)->Int->Int->Option (B5 × Int × C6)) × ((List C5)->Int->Int->Int->Option (B5 × Int × C6)) × ((List C5)->Int->Int->Option (B5 × Int × C6)) × ((List C5)->Int->Int->Option (B5 × Int × C6)) × ((List C5)->Int->Int->Option ((List B5) × Int × C6))
abbrev Ty42 :Type:=Option (B5 × Int × C6)
def pg (R:ax) (x1:List C5) (x2 x3:Int):Ty42:=(R.2.1 x1 x2 x3 1).bind fun(x6,x7,x8)=>some (x6,x7,x8)
def abd (R:ax) (x13:C6):Ty42:=some ((B5.mk 0 [] [] 0 0 0 0 0 []),0,x13)
def abc (R:ax) (x18:B5) (x17:Int) (x31:C6):Ty42:=some (x18,x17,x31)
def aba (R:ax) (x17:Int) (x18:B5):Ty42:=(en).bind fun x31=>abc R x18 x17 x31
abbrev Ty43 :Type:=Option ((Int × B5) ⊕ (Flow (Int × B5) (B5 × Int × C6)))
def abb (R:ax) (x25:C6):Ty43:=some (.inr (.done ((B5.mk 0 [] [] 0 0 0 0 0 []),0,x25)))
def wo (R:ax) (x1:List C5) (x4 x3 x2 x17:Int) (x18:B5):Ty43:=(ad5 x1 x17).bind fun x21=>(if(x21==x4)=true then(R.2.1 x1 (w64 (x17+1)) x3 (w64 (x4+1))).bind fun(x23,x24,x25)=>(if(decide (x25.Place≥0))=true then abb R x25 else(idx x1 x17).bind fun x29=>(fx x1 24 x2 x24 ([x18,x23]:List B5)).bind fun x30=>some (.inl (x24,{x30 with Text:=x29.Text})))else some (.inr (.next (x17,x18))))
def zj (R:ax) (x1:List C5) (x2 x3 x4:Int):Ty42:=(if(decide (x4>6))=true then(R.2.2.1 x1 x2 x3).bind fun(x8,x9,x10)=>some (x8,x9,x10)else(R.2.1 x1 x2 x3 (w64 (x4+1))).bind fun(x11,x12,x13)=>(if(decide (x13.Place≥0))=true then abd R x13 else(iter (fun s=>wo R x1 x4 x3 x2 s.1 s.2) (x12,x11)).bind fun z=>match z with| .next p=>aba R p.1 p.2| .done r=>some r))
def aa9 (R:ax) (x14:C6):Ty42:=some ((B5.mk 0 [] [] 0 0 0 0 0 []),0,x14)
def wn (R:ax) (x1:List C5) (x2 x13:Int) (x12:B5) (x20:Int):Ty42:=(fx x1 x20 x2 x13 ([x12]:List B5)).bind fun x21=>(en).bind fun x22=>some (x21,x13,x22)
def aa8 (R:ax) (x25:C6):Ty42:=some ((B5.mk 0 [] [] 0 0 0 0 0 []),0,x25)
def aa7 (R:ax) (x30:B5) (x29:Int) (x55:C6):Ty42:=some (x30,x29,x55)
def aa5 (R:ax) (x29:Int) (x30:B5):Ty42:=(en).bind fun x55=>aa7 R x30 x29 x55
def wm (R:ax) (x1:List C5) (x2 x29 x48 x49:Int) (x51:List B5):Ty43:=(fx x1 x49 x2 x48 x51).bind fun x52=>(idx x1 (w64 (x29+1))).bind fun x53=>(idx x1 (w64 (x29+1))).bind fun x54=>some (.inl (x48,{{x52 with Text:=x53.Text} with At:=x54.At}))
def aa6 (R:ax) (x43:C6):Ty43:=some (.inr (.done ((B5.mk 0 [] [] 0 0 0 0 0 []),0,x43)))
def wl (R:ax) (x1:List C5) (x3 x2 x29:Int) (x30:B5):Ty43:=(cz x1 x29 ([46]:Bt)).bind fun x33=>(if x33=true then(j0 x1 (w64 (x29+1))).bind fun x35=>(if(!x35)=true then(c6 (w64 (x29+1))).bind fun x37=>some (.inr (.done ((B5.mk 0 [] [] 0 0 0 0 0 []),0,x37)))else(cz x1 (w64 ((w64 (x29+1))+1)) ([40]:Bt)).bind fun x39=>(if x39=true then(R.2.2.2.2 x1 (w64 ((w64 ((w64 (x29+1))+1))+1)) (w64 (x3+1))).bind fun(x41,x42,x43)=>(if(decide (x43.Place≥0))=true then aa6 R x43 else(app 104 ([x30]:List B5) x41).bind fun x46=>wm R x1 x2 x29 x42 20 x46)else wm R x1 x2 x29 (w64 ((w64 (x29+1))+1)) 18 ([x30]:List B5)))else some (.inr (.next (x29,x30))))
def s8 (R:ax) (x1:List C5) (x2 x3:Int) (x10:Bool):Ty42:=(if x10=true then(R.2.2.1 x1 (w64 (x2+1)) (w64 (x3+1))).bind fun(x12,x13,x14)=>(if(decide (x14.Place≥0))=true then aa9 R x14 else(idx x1 x2).bind fun x18=>(if(x18.Text==([45]:Bt))=true then wn R x1 x2 x13 x12 23 else wn R x1 x2 x13 x12 22))else(R.2.2.2.1 x1 x2 (w64 (x3+1))).bind fun(x23,x24,x25)=>(if(decide (x25.Place≥0))=true then aa8 R x25 else(iter (fun s=>wl R x1 x3 x2 s.1 s.2) (x24,x23)).bind fun z=>match z with| .next p=>aa5 R p.1 p.2| .done r=>some r))
def zi (R:ax) (x1:List C5) (x2 x3:Int):Ty42:=(if(decide (x3>60))=true then some ((B5.mk 0 [] [] 0 0 0 0 0 []),0,(C6.mk x2 2))else(cz x1 x2 ([33]:Bt)).bind fun x7=>(if x7=true then s8 R x1 x2 x3 true else(cz x1 x2 ([45]:Bt)).bind fun x9=>s8 R x1 x2 x3 x9))
def xk (R:ax) (x11:B5) (x2:Int) (x18:C6):Ty42:=some (x11,w64 (x2+1),x18)
def xd (R:ax) (x2:Int) (x11:B5):Ty42:=(en).bind fun x18=>xk R x11 x2 x18
def sh (R:ax) (x1:List C5) (x2 x10:Int) (x11:B5):Option ((Int × B5) ⊕ (B5)):=(idx x1 x2).bind fun x14=>(if(decide (x10<(x14.Text.length:Int)))=true then(idx x1 x2).bind fun x16=>(idxS x16.Text x10).bind fun x17=>some (.inl (w64 (x10+1),{x11 with N:=w64 ((w64 (10 * x11.N))+(w64 (IntKind.wrap .u8 (x17 - 48))))}))else some (.inr x11))
def xj (R:ax) (x21:B5) (x2:Int) (x23:C6):Ty42:=some ({x21 with N:=1},w64 (x2+1),x23)
def xi (R:ax) (x47:B5) (x49 x50:C5) (x2:Int) (x51:C6):Ty42:=some ({{x47 with Text:=x49.Text} with At:=x50.At},w64 (x2+4),x51)
def xh (R:ax) (x56:C6):Ty42:=some ((B5.mk 0 [] [] 0 0 0 0 0 []),0,x56)
def xg (R:ax) (x54:B5) (x55:Int) (x63:C6):Ty42:=some (x54,w64 (x55+1),x63)
def xf (R:ax) (x66:B5) (x68 x69:C5) (x2:Int) (x72:C6):Ty42:=some ({{x66 with Text:=x68.Text} with At:=x69.At},w64 (x2+1),x72)
def xe (R:ax) (x75:C6):Ty42:=some ((B5.mk 0 [] [] 0 0 0 0 0 []),0,x75)
def vm (R:ax) (x66:B5) (x68 x69:C5) (x73:List B5) (x78 x74:Int) (x79:C6):Ty42:=some ({{{{{x66 with Text:=x68.Text} with At:=x69.At} with Kind:=19} with Kids:=x73} with To:=x78},x74,x79)
def u7 (R:ax) (x1:List C5) (x2 x3:Int):Ty42:=(idx x1 x2).bind fun x6=>(if(x6.Kind==2)=true then(fx x1 13 x2 (w64 (x2+1)) []).bind fun x8=>(iter (fun s=>sh R x1 x2 s.1 s.2) (0,x8)).bind fun p=>xd R x2 p else(cz x1 x2 ([116,114,117,101]:Bt)).bind fun x19=>(if x19=true then(fx x1 14 x2 (w64 (x2+1)) []).bind fun x21=>(en).bind fun x23=>xj R x21 x2 x23 else(cz x1 x2 ([102,97,108,115,101]:Bt)).bind fun x24=>(if x24=true then(fx x1 14 x2 (w64 (x2+1)) []).bind fun x26=>(en).bind fun x27=>some (x26,w64 (x2+1),x27)else(cz x1 x2 ([110,117,108,108]:Bt)).bind fun x28=>(if x28=true then(fx x1 15 x2 (w64 (x2+1)) []).bind fun x30=>(en).bind fun x31=>some (x30,w64 (x2+1),x31)else(cz x1 x2 ([116,104,105,115]:Bt)).bind fun x32=>(if x32=true then(fx x1 16 x2 (w64 (x2+1)) []).bind fun x34=>(en).bind fun x35=>some (x34,w64 (x2+1),x35)else(cz x1 x2 ([110,101,119]:Bt)).bind fun x36=>(if x36=true then(j0 x1 (w64 (x2+1))).bind fun x38=>(if(!x38)=true then(c6 (w64 (x2+1))).bind fun x40=>some ((B5.mk 0 [] [] 0 0 0 0 0 []),0,x40)else(cz x1 (w64 (x2+2)) ([40]:Bt)).bind fun x41=>(if(!x41)=true then(c6 (w64 (x2+2))).bind fun x43=>some ((B5.mk 0 [] [] 0 0 0 0 0 []),0,x43)else(cz x1 (w64 (x2+3)) ([41]:Bt)).bind fun x44=>(if(!x44)=true then(c6 (w64 (x2+3))).bind fun x46=>some ((B5.mk 0 [] [] 0 0 0 0 0 []),0,x46)else(fx x1 21 x2 (w64 (x2+4)) []).bind fun x47=>(idx x1 (w64 (x2+1))).bind fun x49=>(idx x1 (w64 (x2+1))).bind fun x50=>(en).bind fun x51=>xi R x47 x49 x50 x2 x51)))else(cz x1 x2 ([40]:Bt)).bind fun x52=>(if x52=true then(R.1 x1 (w64 (x2+1)) x3).bind fun(x54,x55,x56)=>(if(decide (x56.Place≥0))=true then xh R x56 else(cz x1 x55 ([41]:Bt)).bind fun x60=>(if(!x60)=true then(c6 x55).bind fun x62=>some ((B5.mk 0 [] [] 0 0 0 0 0 []),0,x62)else(en).bind fun x63=>xg R x54 x55 x63))else(j0 x1 x2).bind fun x64=>(if x64=true then(fx x1 17 x2 (w64 (x2+1)) []).bind fun x66=>(idx x1 x2).bind fun x68=>(idx x1 x2).bind fun x69=>(cz x1 (w64 (x2+1)) ([40]:Bt)).bind fun x70=>(if(!x70)=true then(en).bind fun x72=>xf R x66 x68 x69 x2 x72 else(R.2.2.2.2 x1 (w64 (x2+2)) x3).bind fun(x73,x74,x75)=>(if(decide (x75.Place≥0))=true then xe R x75 else(agp x1 x74).bind fun x78=>(en).bind fun x79=>vm R x66 x68 x69 x73 x78 x74 x79))else(c6 x2).bind fun x80=>some ((B5.mk 0 [] [] 0 0 0 0 0 []),0,x80)))))))))
def tw (R:ax) (x16:C6):Ty41:=some (.inr ([],0,x16))
def o7 (R:ax) (x1:List C5) (x3 x8:Int) (x10:List B5):Ty41:=(R.1 x1 x8 x3).bind fun(x14,x15,x16)=>(if(decide (x16.Place≥0))=true then tw R x16 else(app 104 x10 ([x14]:List B5)).bind fun x20=>(cz x1 x15 ([41]:Bt)).bind fun x22=>(if x22=true then(en).bind fun x24=>some (.inr (x20,w64 (x15+1),x24))else(cz x1 x15 ([44]:Bt)).bind fun x25=>(if(!x25)=true then(c6 x15).bind fun x27=>some (.inr ([],0,x27))else some (.inl (w64 (x15+1),x20)))))
def rj (R:ax) (x1:List C5) (x2 x3:Int):Option ((List B5) × Int × C6):=(cz x1 x2 ([41]:Bt)).bind fun x5=>(if x5=true then(en).bind fun x7=>some ([],w64 (x2+1),x7)else iter (fun s=>o7 R x1 x3 s.1 s.2) (x2,[]))
def agd (R:ax):ax:=((fun x1 x2 x3=>pg R x1 x2 x3),(fun x1 x2 x3 x4=>zj R x1 x2 x3 x4),(fun x1 x2 x3=>zi R x1 x2 x3),(fun x1 x2 x3=>u7 R x1 x2 x3),(fun x1 x2 x3=>rj R x1 x2 x3))
def ga (n:Nat):ax:=Nat.rec (motive:=fun _=>ax) ((fun x1 x2 x3=>none),(fun x1 x2 x3 x4=>none),(fun x1 x2 x3=>none),(fun x1 x2 x3=>none),(fun x1 x2 x3=>none)) (fun _ R=>agd R) n
def ml (x1:List C5) (x2 x3:Int):Ty42:=(ga 1048576).1 x1 x2 x3
def zy (x17:C6):Ty42:=some ((B5.mk 0 [] [] 0 0 0 0 0 []),0,x17)
def ab3 (x1:List C5) (x2 x3:Int):Ty42:=(cz x1 x2 ([118,111,105,100]:Bt)).bind fun x6=>(if x6=true then(c6 x2).bind fun x8=>some ((B5.mk 0 [] [] 0 0 0 0 0 []),0,x8)else(j0 x1 (w64 (x2+1))).bind fun x9=>(if(!x9)=true then(c6 (w64 (x2+1))).bind fun x11=>some ((B5.mk 0 [] [] 0 0 0 0 0 []),0,x11)else(cz x1 (w64 (x2+2)) ([61]:Bt)).bind fun x12=>(if(!x12)=true then(c6 (w64 (x2+2))).bind fun x14=>some ((B5.mk 0 [] [] 0 0 0 0 0 []),0,x14)else(ml x1 (w64 (x2+3)) (w64 (x3+1))).bind fun(x15,x16,x17)=>(if(decide (x17.Place≥0))=true then zy x17 else(cz x1 x16 ([59]:Bt)).bind fun x21=>(if(!x21)=true then(c6 x16).bind fun x23=>some ((B5.mk 0 [] [] 0 0 0 0 0 []),0,x23)else(fx x1 6 x2 (w64 (x16+1)) ([x15]:List B5)).bind fun x24=>(ya x1 x24 x2).bind fun x25=>(en).bind fun x26=>some (x25,w64 (x16+1),x26))))))
def tu (x11:C6):Ty42:=some ((B5.mk 0 [] [] 0 0 0 0 0 []),0,x11)
def tr (x9:B5) (x10:Int) (x18:C6):Ty42:=some (x9,w64 (x10+1),x18)
def rc (x1:List C5) (x2 x3:Int):Ty42:=(cz x1 x2 ([40]:Bt)).bind fun x6=>(if(!x6)=true then(c6 x2).bind fun x8=>some ((B5.mk 0 [] [] 0 0 0 0 0 []),0,x8)else(ml x1 (w64 (x2+1)) x3).bind fun(x9,x10,x11)=>(if(decide (x11.Place≥0))=true then tu x11 else(cz x1 x10 ([41]:Bt)).bind fun x15=>(if(!x15)=true then(c6 x10).bind fun x17=>some ((B5.mk 0 [] [] 0 0 0 0 0 []),0,x17)else(en).bind fun x18=>tr x9 x10 x18)))
def zt (x10:C6):Ty42:=some ((B5.mk 0 [] [] 0 0 0 0 0 []),0,x10)
def zs (x25:C6):Ty42:=some ((B5.mk 0 [] [] 0 0 0 0 0 []),0,x25)
def ab0 (x1:List C5) (x2 x3:Int):Ty42:=(cz x1 x2 ([112,114,105,110,116]:Bt)).bind fun x6=>(if x6=true then(rc x1 (w64 (x2+1)) (w64 (x3+1))).bind fun(x8,x9,x10)=>(if(decide (x10.Place≥0))=true then zt x10 else(cz x1 x9 ([59]:Bt)).bind fun x14=>(if(!x14)=true then(c6 x9).bind fun x16=>some ((B5.mk 0 [] [] 0 0 0 0 0 []),0,x16)else(fx x1 12 x2 (w64 (x9+1)) ([x8]:List B5)).bind fun x17=>(en).bind fun x18=>some (x17,w64 (x9+1),x18)))else(cz x1 (w64 (x2+1)) ([59]:Bt)).bind fun x19=>(if x19=true then(fx x1 11 x2 (w64 (x2+2)) []).bind fun x21=>(en).bind fun x22=>some (x21,w64 (x2+2),x22)else(ml x1 (w64 (x2+1)) (w64 (x3+1))).bind fun(x23,x24,x25)=>(if(decide (x25.Place≥0))=true then zs x25 else(cz x1 x24 ([59]:Bt)).bind fun x29=>(if(!x29)=true then(c6 x24).bind fun x31=>some ((B5.mk 0 [] [] 0 0 0 0 0 []),0,x31)else(fx x1 11 x2 (w64 (x24+1)) ([x23]:List B5)).bind fun x32=>(en).bind fun x33=>some (x32,w64 (x24+1),x33)))))
abbrev bx :Type:=((List C5)->Int->Int->Option (B5 × Int × C6)) × ((List C5)->Int->Int->Option (B5 × Int × C6)) × ((List C5)->Int->Int->Option (B5 × Int × C6))
def abg (R:bx) (x1:List C5) (x2 x10:Int) (x11:List B5):Ty42:=(fx x1 5 x2 (w64 (x10+1)) x11).bind fun x34=>(en).bind fun x35=>some (x34,w64 (x10+1),x35)
abbrev Ty44 :Type:=Option ((Int × (List B5)) ⊕ (Flow (Int × (List B5)) (B5 × Int × C6)))
def abh (R:bx) (x30:C6):Ty44:=some (.inr (.done ((B5.mk 0 [] [] 0 0 0 0 0 []),0,x30)))
def ta (R:bx) (x11:List B5) (x28:Int) (x29:B5) (x30:C6):Ty44:=(if(decide (x30.Place≥0))=true then abh R x30 else(app 104 x11 ([x29]:List B5)).bind fun x32=>some (.inl (x28,x32)))
def wu (R:bx) (x1:List C5) (x3 x10:Int) (x11:List B5):Ty44:=(cz x1 x10 ([125]:Bt)).bind fun x15=>(if(!x15)=true then(ad3 x1 x10).bind fun x19=>(if x19=true then(ab3 x1 x10 (w64 (x3+1))).bind fun(x21,x22,x23)=>(if(decide ((w64 (x3+1))>60))=true then ta R x11 x22 x21 (C6.mk x10 2)else ta R x11 x22 x21 x23)else(R.2.1 x1 x10 (w64 (x3+1))).bind fun(x25,x26,x27)=>ta R x11 x26 x25 x27)else some (.inr (.next (x10,x11))))
def zk (R:bx) (x1:List C5) (x2 x3:Int):Ty42:=(cz x1 x2 ([123]:Bt)).bind fun x6=>(if(!x6)=true then(c6 x2).bind fun x8=>some ((B5.mk 0 [] [] 0 0 0 0 0 []),0,x8)else(iter (fun s=>wu R x1 x3 s.1 s.2) (w64 (x2+1),[])).bind fun z=>match z with| .next p=>abg R x1 x2 p.1 p.2| .done r=>some r)
def tq (R:bx) (x30:C6):Ty42:=some ((B5.mk 0 [] [] 0 0 0 0 0 []),0,x30)
def o6 (R:bx) (x1:List C5) (x2 x45 x46:Int) (x48:List B5):Ty42:=(cz x1 x45 ([59]:Bt)).bind fun x49=>(if(!x49)=true then(c6 x45).bind fun x51=>some ((B5.mk 0 [] [] 0 0 0 0 0 []),0,x51)else(fx x1 x46 x2 (w64 (x45+1)) x48).bind fun x52=>(en).bind fun x53=>some (x52,w64 (x45+1),x53))
def tp (R:bx) (x39:C6):Ty42:=some ((B5.mk 0 [] [] 0 0 0 0 0 []),0,x39)
def mb (R:bx) (x1:List C5) (x2 x3:Int) (x23:Bool):Ty42:=(if x23=true then(ab0 x1 x2 x3).bind fun(x25,x26,x27)=>some (x25,x26,x27)else(ml x1 x2 (w64 (x3+1))).bind fun(x28,x29,x30)=>(if(decide (x30.Place≥0))=true then tq R x30 else(cz x1 x29 ([61]:Bt)).bind fun x35=>(if x35=true then(ml x1 (w64 (x29+1)) (w64 (x3+1))).bind fun(x37,x38,x39)=>(if(decide (x39.Place≥0))=true then tp R x39 else(app 104 ([x28]:List B5) ([x37]:List B5)).bind fun x43=>o6 R x1 x2 x38 7 x43)else o6 R x1 x2 x29 8 ([x28]:List B5))))
def ma (R:bx) (x1:List C5) (x2 x3:Int) (x15:Bool):Ty42:=(if x15=true then(R.2.2 x1 x2 x3).bind fun(x17,x18,x19)=>some (x17,x18,x19)else(cz x1 x2 ([114,101,116,117,114,110]:Bt)).bind fun x20=>(if x20=true then mb R x1 x2 x3 x20 else(cz x1 x2 ([112,114,105,110,116]:Bt)).bind fun x22=>mb R x1 x2 x3 x22))
def ri (R:bx) (x1:List C5) (x2 x3:Int):Ty42:=(if(decide (x3>60))=true then some ((B5.mk 0 [] [] 0 0 0 0 0 []),0,(C6.mk x2 2))else(cz x1 x2 ([123]:Bt)).bind fun x7=>(if x7=true then(R.1 x1 x2 x3).bind fun(x9,x10,x11)=>some (x9,x10,x11)else(cz x1 x2 ([105,102]:Bt)).bind fun x12=>(if x12=true then ma R x1 x2 x3 x12 else(cz x1 x2 ([119,104,105,108,101]:Bt)).bind fun x14=>ma R x1 x2 x3 x14)))
def xo (R:bx) (x8:C6):Ty42:=some ((B5.mk 0 [] [] 0 0 0 0 0 []),0,x8)
def xn (R:bx) (x14:C6):Ty42:=some ((B5.mk 0 [] [] 0 0 0 0 0 []),0,x14)
def si (R:bx) (x1:List C5) (x2 x33:Int) (x35:List B5):Ty42:=(fx x1 9 x2 x33 x35).bind fun x36=>(en).bind fun x37=>some (x36,x33,x37)
def xm (R:bx) (x27:C6):Ty42:=some ((B5.mk 0 [] [] 0 0 0 0 0 []),0,x27)
def u9 (R:bx) (x1:List C5) (x2 x3:Int):Ty42:=(rc x1 (w64 (x2+1)) (w64 (x3+1))).bind fun(x6,x7,x8)=>(if(decide (x8.Place≥0))=true then xo R x8 else(R.2.1 x1 x7 (w64 (x3+1))).bind fun(x12,x13,x14)=>(if(decide (x14.Place≥0))=true then xn R x14 else(cz x1 x2 ([119,104,105,108,101]:Bt)).bind fun x19=>(if x19=true then(fx x1 10 x2 x13 ([x6,x12]:List B5)).bind fun x21=>(en).bind fun x22=>some (x21,x13,x22)else(cz x1 x13 ([101,108,115,101]:Bt)).bind fun x23=>(if x23=true then(R.2.1 x1 (w64 (x13+1)) (w64 (x3+1))).bind fun(x25,x26,x27)=>(if(decide (x27.Place≥0))=true then xm R x27 else(app 104 ([x6,x12]:List B5) ([x25]:List B5)).bind fun x31=>si R x1 x2 x26 x31)else si R x1 x2 x13 ([x6,x12]:List B5)))))
def ajo (R:bx):bx:=((fun x1 x2 x3=>zk R x1 x2 x3),(fun x1 x2 x3=>ri R x1 x2 x3),(fun x1 x2 x3=>u9 R x1 x2 x3))
def mc (n:Nat):bx:=Nat.rec (motive:=fun _=>bx) ((fun x1 x2 x3=>none),(fun x1 x2 x3=>none),(fun x1 x2 x3=>none)) (fun _ R=>ajo R) n
def aka (x1:List C5) (x2 x3:Int):Ty42:=(mc 1048576).1 x1 x2 x3
def zx (x45:B5) (x37:Int) (x46:C6):Ty42:=some (x45,x37,x46)
def uy (x37:Int) (x45:B5):Ty42:=(en).bind fun x46=>zx x45 x37 x46
def ux (x1:List C5) (x2 x7:Int) (x5:Bool) (x37 x38:Int) (x40:List B5):Ty42:=(fx x1 x38 x2 x37 x40).bind fun x41=>(ya x1 x41 x7).bind fun x42=>(if x5=true then uy x37 ({x42 with N:=1})else uy x37 x42)
def zw (x24:C6):Ty42:=some ((B5.mk 0 [] [] 0 0 0 0 0 []),0,x24)
def zu (x30:C6):Ty42:=some ((B5.mk 0 [] [] 0 0 0 0 0 []),0,x30)
def rb (x1:List C5) (x2:Int) (x5:Bool) (x7:Int):Ty42:=(adq x1 x7).bind fun x8=>(if(!x8)=true then(c6 x7).bind fun x10=>some ((B5.mk 0 [] [] 0 0 0 0 0 []),0,x10)else(j0 x1 (w64 (x7+1))).bind fun x11=>(if(!x11)=true then(c6 (w64 (x7+1))).bind fun x13=>some ((B5.mk 0 [] [] 0 0 0 0 0 []),0,x13)else(cz x1 (w64 (x7+2)) ([59]:Bt)).bind fun x15=>(if x15=true then(cz x1 x7 ([118,111,105,100]:Bt)).bind fun x17=>(if x17=true then(c6 (w64 (x7+2))).bind fun x19=>some ((B5.mk 0 [] [] 0 0 0 0 0 []),0,x19)else ux x1 x2 x7 x5 (w64 ((w64 (x7+2))+1)) 2 [])else(cz x1 (w64 (x7+2)) ([40]:Bt)).bind fun x20=>(if x20=true then(ab1 x1 (w64 ((w64 (x7+2))+1))).bind fun(x22,x23,x24)=>(if(decide (x24.Place≥0))=true then zw x24 else(aka x1 x23 1).bind fun(x28,x29,x30)=>(if(decide (x30.Place≥0))=true then zu x30 else(app 104 x22 ([x28]:List B5)).bind fun x34=>ux x1 x2 x7 x5 x29 3 x34))else(c6 (w64 (x7+2))).bind fun x36=>some ((B5.mk 0 [] [] 0 0 0 0 0 []),0,x36)))))
def ab2 (x1:List C5) (x2:Int):Ty42:=(cz x1 x2 ([115,116,97,116,105,99]:Bt)).bind fun x5=>(if x5=true then rb x1 x2 x5 (w64 (x2+1))else rb x1 x2 x5 x2)
def abf (x44:B5) (x21:Int) (x45:C6):Ty42:=some (x44,w64 (x21+1),x45)
def wt (x21:Int) (x44:B5):Ty42:=(en).bind fun x45=>abf x44 x21 x45
def ws (x1:List C5) (x2 x17 x21:Int) (x23:List B5):Ty42:=(fx x1 1 x2 (w64 (x21+1)) x23).bind fun x37=>(idx x1 (w64 (x2+1))).bind fun x39=>(idx x1 (w64 (x2+1))).bind fun x40=>(if(decide (x17≥0))=true then(idx x1 x17).bind fun x42=>(idx x1 x17).bind fun x43=>wt x21 ({{{{x37 with Text:=x39.Text} with At:=x40.At} with Type_:=x42.Text} with TypeAt:=x43.At})else wt x21 ({{x37 with Text:=x39.Text} with At:=x40.At}))
def abe (x31:C6):Ty44:=some (.inr (.done ((B5.mk 0 [] [] 0 0 0 0 0 []),0,x31)))
def wr (x1:List C5) (x21:Int) (x23:List B5):Ty44:=(cz x1 x21 ([125]:Bt)).bind fun x27=>(if(!x27)=true then(ab2 x1 x21).bind fun(x29,x30,x31)=>(if(decide (x31.Place≥0))=true then abe x31 else(app 104 x23 ([x29]:List B5)).bind fun x35=>some (.inl (x30,x35)))else some (.inr (.next (x21,x23))))
def s9 (x1:List C5) (x2 x16 x17:Int):Ty42:=(cz x1 x16 ([123]:Bt)).bind fun x18=>(if(!x18)=true then(c6 x16).bind fun x20=>some ((B5.mk 0 [] [] 0 0 0 0 0 []),0,x20)else(iter (fun s=>wr x1 s.1 s.2) (w64 (x16+1),[])).bind fun z=>match z with| .next p=>ws x1 x2 x17 p.1 p.2| .done r=>some r)
def ad4 (x1:List C5) (x2:Int):Ty42:=(cz x1 x2 ([99,108,97,115,115]:Bt)).bind fun x5=>(if(!x5)=true then(c6 x2).bind fun x7=>some ((B5.mk 0 [] [] 0 0 0 0 0 []),0,x7)else(j0 x1 (w64 (x2+1))).bind fun x8=>(if(!x8)=true then(c6 (w64 (x2+1))).bind fun x10=>some ((B5.mk 0 [] [] 0 0 0 0 0 []),0,x10)else(cz x1 (w64 (x2+2)) ([101,120,116,101,110,100,115]:Bt)).bind fun x11=>(if x11=true then(j0 x1 (w64 ((w64 (x2+2))+1))).bind fun x13=>(if(!x13)=true then(c6 (w64 ((w64 (x2+2))+1))).bind fun x15=>some ((B5.mk 0 [] [] 0 0 0 0 0 []),0,x15)else s9 x1 x2 (w64 ((w64 (x2+2))+2)) (w64 ((w64 (x2+2))+1)))else s9 x1 x2 (w64 (x2+2)) (-1))))
def xl (x2:C6) (x5:C5):Ty17:=some (B3.mk x2.Code 0 x5.At)
def y7 (x1:List C5) (x2:C6):Ty17:=(idx x1 (if(w64 ((x1.length:Int) - 1))<x2.Place then(w64 ((x1.length:Int) - 1))else x2.Place)).bind fun x5=>xl x2 x5
abbrev jd :Type:=(B5->Option (Int))
def abj (R:jd) (x3:Int):Ty15:=some (w64 (x3+1))
def wx (R:jd) (x1:B5) (x3 x4:Int):Ty26:=(if(decide (x4<(x1.Kids.length:Int)))=true then(idx x1.Kids x4).bind fun x8=>(R x8).bind fun x9=>some (.inl ((if x9>x3 then x9 else x3),w64 (x4+1)))else some (.inr x3))
def zl (R:jd) (x1:B5):Ty15:=(iter (fun s=>wx R x1 s.1 s.2) (0,0)).bind fun p=>abj R p
def ajp (R:jd):jd:=(fun x1=>zl R x1)
def o8 (n:Nat):jd:=Nat.rec (motive:=fun _=>jd) (fun x1=>none) (fun _ R=>ajp R) n
def aoq (x1:B5):Ty15:=(o8 1048576) x1
abbrev Ty45 :Type:=Option ((List B5) × B3)
def adg (x9:List B5):Ty45:=some (x9,(B3.mk 0 0 0))
abbrev Ty46 :Type:=Option ((Int) ⊕ (Flow Unit ((List B5) × B3)))
def adh (x30:B5):Ty46:=some (.inr (.done ([],(B3.mk 2 0 x30.From))))
def y9 (x9:List B5) (x24:Int):Ty46:=(if(decide (x24<(x9.length:Int)))=true then(idx x9 x24).bind fun x27=>(aoq x27).bind fun x28=>(if(decide (x28>200))=true then(idx x9 x24).bind fun x30=>adh x30 else some (.inl (w64 (x24+1))))else some (.inr (.next ())))
def adf (x9:List B5):Ty45:=(iter (fun s=>y9 x9 s) 0).bind fun z=>match z with| .next p=>adg x9| .done r=>some r
def y8 (x3:List C5) (x8:Int) (x9:List B5):Option ((Int × (List B5)) ⊕ (Flow (List B5) ((List B5) × B3))):=(idx x3 x8).bind fun x13=>(if(x13.Kind != 5)=true then(ad4 x3 x8).bind fun(x15,x16,x17)=>(if(decide (x17.Place≥0))=true then(y7 x3 x17).bind fun x21=>some (.inr (.done ([],x21)))else(app 104 x9 ([x15]:List B5)).bind fun x22=>some (.inl (x16,x22)))else some (.inr (.next x9)))
def adr (x1:Bt):Ty45:=(aii x1).bind fun(x3,x4,x5)=>(if(x5 != 0)=true then some ([],(B3.mk x5 0 x4))else(iter (fun s=>y8 x3 s.1 s.2) (0,[])).bind fun z=>match z with| .next p=>adf p| .done r=>some r)
def zz (x5:List (List B5)):Option ((List (List B5)) × Bool):=some (x5,true)
def rd (x1:List Bt) (x4:Int) (x5:List (List B5)):Option ((Int × (List (List B5))) ⊕ (Flow (List (List B5)) ((List (List B5)) × Bool))):=(if(decide (x4<(x1.length:Int)))=true then(idx x1 x4).bind fun x10=>(if(decide ((x10.length:Int)>1500))=true then some (.inr (.done ([],false)))else(idx x1 x4).bind fun x12=>(adr x12).bind fun(x13,x14)=>(if(x14.Code != 0)=true then some (.inr (.done ([],false)))else(app 24 x5 ([x13]:List (List B5))).bind fun x17=>some (.inl (w64 (x4+1),x17))))else some (.inr (.next x5)))
def ab7 (x1:List Bt):Option ((List (List B5)) × Bool):=(if(decide ((x1.length:Int)>6))=true then some ([],false)else(iter (fun s=>rd x1 s.1 s.2) (0,[])).bind fun z=>match z with| .next p=>zz p| .done r=>some r)
def aj8 :Option (Bool):=some false
def xz (x1:List Bt) (x2:Bt) (x3:Int):Ty14:=(if(decide (x3<(x1.length:Int)))=true then(idx x1 x3).bind fun x6=>(if(x6==x2)=true then some (.inr (.done true))else some (.inl (w64 (x3+1))))else some (.inr (.next ())))
def ajb (x1:List Bt) (x2:Bt):Ty12:=(iter (fun s=>xz x1 x2 s) 0).bind fun z=>match z with| .next p=>aj8| .done r=>some r
def afw :Option (A9 × Bool):=some ((A9.mk 0 [] [] [] [] false [] 0 0),false)
def wh (x1:List A9) (x4:Int) (x10:Bool):Ty10:=(if x10=true then(idx x1 x4).bind fun x12=>some (.inr (.done (x12,true)))else some (.inl (w64 (x4+1))))
def qa (x1:List A9) (x2:Bt) (x4:Int):Ty10:=(if(decide (x4<(x1.length:Int)))=true then(idx x1 x4).bind fun x7=>(if(x7.Kind==1)=true then(idx x1 x4).bind fun x9=>wh x1 x4 (x9.Id==x2)else wh x1 x4 false)else some (.inr (.next ())))
def x0 (x1:List A9) (x2:Bt):Ty11:=(iter (fun s=>qa x1 x2 s) 0).bind fun z=>match z with| .next p=>afw| .done r=>some r
def wi (x5:List Bt) (x3:Bt) (x9:A9) (x14:Bool):Option ((Bt × (List Bt)) ⊕ ((List Bt))):=(if x14=true then some (.inr x5)else(app 16 x5 ([x3]:List Bt)).bind fun x16=>some (.inl (x9.Type_,x16)))
def qc (x1:List A9) (x3:Bt) (x5:List Bt):Option ((Bt × (List Bt)) ⊕ ((List Bt))):=(x0 x1 x3).bind fun(x9,x10)=>(ajb x5 x3).bind fun x12=>(if(!x10)=true then wi x5 x3 x9 true else wi x5 x3 x9 x12)
def aan (x1:List A9) (x2:Bt):Option ((List Bt)):=iter (fun s=>qc x1 s.1 s.2) (x2,[])
def ad2 (x1:List A9) (x2 x3:Bt):Ty12:=(aan x1 x2).bind fun x4=>(ajb x4 x3).bind fun x5=>some x5
def ae7 :Option (A9 × Bool):=some ((A9.mk 0 [] [] [] [] false [] 0 0),false)
def ae6 (x7:Int):Ty10:=some (.inl (w64 (x7+1)))
abbrev Ty47 :Type:=Option ((Int) ⊕ (Flow Unit ((Int) ⊕ (Flow Unit (A9 × Bool)))))
def yv (x1:List A9) (x10:Int) (x21:Bool):Ty47:=(if x21=true then(idx x1 x10).bind fun x23=>some (.inr (.done (.inr (.done (x23,true)))))else some (.inl (w64 (x10+1))))
def rl (x1:List A9) (x2:Int) (x6:List Bt) (x7:Int) (x4:Bt) (x10:Int):Ty47:=(if(decide (x10<(x1.length:Int)))=true then(idx x1 x10).bind fun x13=>(if(x13.Kind==x2)=true then(idx x1 x10).bind fun x15=>(idx x6 x7).bind fun x16=>(if(x15.Owner==x16)=true then(idx x1 x10).bind fun x18=>yv x1 x10 (x18.Name==x4)else yv x1 x10 false)else yv x1 x10 false)else some (.inr (.next ())))
def ui (x6:List Bt) (x1:List A9) (x2:Int) (x4:Bt) (x7:Int):Ty10:=(if(decide (x7<(x6.length:Int)))=true then(iter (fun s=>rl x1 x2 x6 x7 x4 s) 0).bind fun z=>match z with| .next p=>ae6 x7| .done r=>some r else some (.inr (.next ())))
def wa (x1:List A9) (x2:Int) (x3 x4:Bt):Ty11:=(aan x1 x3).bind fun x6=>(iter (fun s=>ui x6 x1 x2 x4 s) 0).bind fun z=>match z with| .next p=>ae7| .done r=>some r
def aei :Option (Bool):=some true
def zo (x4:Int) (x7 x8:Bt):Ty14:=(if(!(x7==x8))=true then some (.inr (.done false))else some (.inl (w64 (x4+1))))
def nt (x1 x2:List Bt) (x4:Int):Ty14:=(if(decide (x4<(x1.length:Int)))=true then(idx x1 x4).bind fun x7=>(idx x2 x4).bind fun x8=>zo x4 x7 x8 else some (.inr (.next ())))
def aby (x1 x2:List Bt):Ty12:=(if((x1.length:Int) != (x2.length:Int))=true then some false else(iter (fun s=>nt x1 x2 s) 0).bind fun z=>match z with| .next p=>aei| .done r=>some r)
def sy (x11:Bool):Ty15:=(if x11=true then some 160 else some 0)
def sx :Option (Int):=some 0
def pz (x32:Bool):Ty15:=(if x32=true then some 161 else sx)
def ad0 (x1:List A9) (x2:A9):Ty15:=(if(x2.Kind==1)=true then(x0 x1 x2.Type_).bind fun(x5,x6)=>(ad2 x1 x2.Type_ x2.Id).bind fun x8=>(if(!(x2.Type_==[]))=true then(if(!x6)=true then sy true else sy x8)else sy false)else(x0 x1 x2.Owner).bind fun(x13,x14)=>(if(!x14)=true then some 0 else(if(x2.Kind==2)=true then(wa x1 2 x13.Type_ x2.Name).bind fun(x18,x19)=>(if x19=true then some 162 else sx)else(if(x2.Kind==3)=true then(wa x1 3 x13.Type_ x2.Name).bind fun(x23,x24)=>(if x24=true then(if(!(x23.Type_==x2.Type_))=true then pz true else(if(!(x23.Static==x2.Static))=true then pz true else(aby x23.Params x2.Params).bind fun x29=>pz (!x29)))else pz false)else sx))))
def afx :Option (B3):=some (B3.mk 0 0 0)
def aay (x7:Int) (x9 x10:A9):Ty16:=some (.inr (.done (B3.mk x7 x9.File x10.At)))
def qb (x1:List A9) (x3:Int):Ty16:=(if(decide (x3<(x1.length:Int)))=true then(idx x1 x3).bind fun x6=>(ad0 x1 x6).bind fun x7=>(if(x7 != 0)=true then(idx x1 x3).bind fun x9=>(idx x1 x3).bind fun x10=>aay x7 x9 x10 else some (.inl (w64 (x3+1))))else some (.inr (.next ())))
def ad1 (x1:List A9):Ty17:=(iter (fun s=>qb x1 s) 0).bind fun z=>match z with| .next p=>afx| .done r=>some r
def jp (x1:C7):Ty12:=some (x1.M.Code != 0)
def acm :Option (A9 × Bool):=some ((A9.mk 0 [] [] [] [] false [] 0 0),false)
def sg (x1:List A9) (x4:Int) (x10:Bool):Ty10:=(if x10=true then(idx x1 x4).bind fun x12=>some (.inr (.done (x12,true)))else some (.inl (w64 (x4+1))))
def mj (x1:List A9) (x2:Bt) (x4:Int):Ty10:=(if(decide (x4<(x1.length:Int)))=true then(idx x1 x4).bind fun x7=>(if(x7.Kind==1)=true then(idx x1 x4).bind fun x9=>sg x1 x4 (x9.Id==x2)else sg x1 x4 false)else some (.inr (.next ())))
def na (x1:List A9) (x2:Bt):Ty11:=(iter (fun s=>mj x1 x2 s) 0).bind fun z=>match z with| .next p=>acm| .done r=>some r
abbrev Ty48 :Type:=Option (C7)
def sf (x1 x2:Int) (x3:C7):Ty48:=some (C7.mk x3.L (B3.mk x1 x3.File x2) x3.File x3.Method x3.Many)
def iu (x1:Int) (x2:Bt) (x3:C7):Ty48:=(app 32 x3.L ([(B7.mk x3.File x1 x2)]:List B7)).bind fun x7=>some (C7.mk x7 x3.M x3.File x3.Method x3.Many)
def ox (x3:C7) (x1:C8) (x2:B5) (x16:Bool):Ty48:=(if x16=true then some x3 else(na x1.Table x2.Type_).bind fun(x18,x19)=>(if(!x19)=true then(sf 170 x2.TypeAt x3).bind fun x22=>some x22 else(iu x2.TypeAt x18.Id x3).bind fun x24=>some x24))
def agv (x1:C8) (x2:B5) (x3:C7):Ty48:=(if(decide (x2.TypeAt<0))=true then ox x3 x1 x2 true else(if(x2.Type_==([105,110,116]:Bt))=true then ox x3 x1 x2 true else(if(x2.Type_==([98,111,111,108,101,97,110]:Bt))=true then ox x3 x1 x2 true else ox x3 x1 x2 (x2.Type_==([118,111,105,100]:Bt)))))
def lr (x11:A9) (x16:Bool):Ty19:=(if x16=true then some ((A9.mk 0 [] [] [] [] false [] 0 0),171)else some (x11,0))
def pj (x1:C8) (x2:Bt):Ty19:=(wa x1.Table 2 x1.Class x2).bind fun(x11,x12)=>(if x12=true then(if x1.Static=true then lr x11 (!x11.Static)else lr x11 false)else(na x1.Table x2).bind fun(x18,x19)=>(if x19=true then some (x18,0)else some ((A9.mk 0 [] [] [] [] false [] 0 0),170)))
def i5 (x1:C8) (x2:Bt) (x5:Int):Option ((Int) ⊕ (Flow Unit (A9 × Int))):=(if(decide (x5≥0))=true then(idx x1.Seen x5).bind fun x8=>(if(x8.Name==x2)=true then(idx x1.Seen x5).bind fun x10=>some (.inr (.done (x10,0)))else some (.inl (w64 (x5 - 1))))else some (.inr (.next ())))
def l9 (x1:C8) (x2:Bt):Ty19:=(iter (fun s=>i5 x1 x2 s) (w64 ((x1.Seen.length:Int) - 1))).bind fun z=>match z with| .next p=>pj x1 x2| .done r=>some r
abbrev bp :Type:=(C8->B5->Option (A9 × Int)) × (C8->B5->Option (Bt)) × (C8->B5->Int->Option (A9 × Int))
def lw (R:bp) (x10:A9) (x15:Bool):Ty19:=(if x15=true then some ((A9.mk 0 [] [] [] [] false [] 0 0),171)else some (x10,0))
def mx (R:bp) (x1:C8) (x2:B5):Ty19:=(if(x2.Kind==17)=true then(l9 x1 x2.Text).bind fun(x7,x8)=>some (x7,x8)else(if(x2.Kind==19)=true then(wa x1.Table 3 x1.Class x2.Text).bind fun(x10,x11)=>(if(!x11)=true then some ((A9.mk 0 [] [] [] [] false [] 0 0),170)else(if x1.Static=true then lw R x10 (!x10.Static)else lw R x10 false))else(if(x2.Kind==21)=true then(na x1.Table x2.Text).bind fun(x18,x19)=>(if(!x19)=true then some ((A9.mk 0 [] [] [] [] false [] 0 0),170)else some (x18,0))else(if(x2.Kind==18)=true then(R.2.2 x1 x2 2).bind fun(x23,x24)=>some (x23,x24)else(if(x2.Kind==20)=true then(R.2.2 x1 x2 3).bind fun(x26,x27)=>some (x26,x27)else some ((A9.mk 0 [] [] [] [] false [] 0 0),0))))))
def iz (R:bp) (x30:Bool):Ty1:=(if x30=true then some ([105,110,116]:Bt)else some ([98,111,111,108,101,97,110]:Bt))
def iy (R:bp) (x1:C8) (x2:B5) (x36:Bool):Ty1:=(if x36=true then(R.1 x1 x2).bind fun(x38,x39)=>(if(x39 != 0)=true then some []else(if(x2.Kind==21)=true then some x38.Id else(if(x38.Kind==1)=true then some []else some x38.Type_)))else some [])
def nz (R:bp) (x2:B5) (x1:C8) (x9:Bool):Ty1:=(if x9=true then some ([98,111,111,108,101,97,110]:Bt)else(if(x2.Kind==15)=true then some ([110,117,108,108]:Bt)else(if(x2.Kind==16)=true then(if x1.Static=true then some []else some x1.Class)else(if(x2.Kind==24)=true then(if(x2.Text==([43]:Bt))=true then iz R true else(if(x2.Text==([45]:Bt))=true then iz R true else(if(x2.Text==([42]:Bt))=true then iz R true else(if(x2.Text==([47]:Bt))=true then iz R true else iz R (x2.Text==([37]:Bt))))))else(if(x2.Kind==17)=true then iy R x1 x2 (x2.Kind==17)else(if(x2.Kind==18)=true then iy R x1 x2 (x2.Kind==18)else(if(x2.Kind==19)=true then iy R x1 x2 (x2.Kind==19)else(if(x2.Kind==20)=true then iy R x1 x2 (x2.Kind==20)else iy R x1 x2 (x2.Kind==21)))))))))
def ny (R:bp) (x2:B5) (x1:C8) (x6:Bool):Ty1:=(if x6=true then some ([105,110,116]:Bt)else(if(x2.Kind==14)=true then nz R x2 x1 (x2.Kind==14)else nz R x2 x1 (x2.Kind==22)))
def pf (R:bp) (x1:C8) (x2:B5):Ty1:=(if(x2.Kind==13)=true then ny R x2 x1 (x2.Kind==13)else ny R x2 x1 (x2.Kind==23))
def lv (R:bp) (x1:C8) (x3:Int) (x22:Bt) (x2:B5) (x27:Bool):Ty19:=(if x27=true then some ((A9.mk 0 [] [] [] [] false [] 0 0),180)else(wa x1.Table x3 x22 x2.Text).bind fun(x29,x30)=>(if(!x30)=true then some ((A9.mk 0 [] [] [] [] false [] 0 0),170)else some (x29,0)))
def ka (R:bp) (x1:C8) (x8:B5) (x3:Int) (x2:B5):Ty19:=(R.2.1 x1 x8).bind fun x22=>(na x1.Table x22).bind fun(x23,x24)=>(if(!x24)=true then lv R x1 x3 x22 x2 true else lv R x1 x3 x22 x2 (x22==[]))
def lu (R:bp) (x1:C8) (x3:Int) (x11:A9) (x2 x8:B5) (x15:Bool):Ty19:=(if x15=true then(wa x1.Table x3 x11.Id x2.Text).bind fun(x17,x18)=>(if(!x18)=true then some ((A9.mk 0 [] [] [] [] false [] 0 0),170)else(if(!x17.Static)=true then some ((A9.mk 0 [] [] [] [] false [] 0 0),171)else some (x17,0)))else ka R x1 x8 x3 x2)
def mw (R:bp) (x1:C8) (x2:B5) (x3:Int):Ty19:=(if((x2.Kids.length:Int)==0)=true then some ((A9.mk 0 [] [] [] [] false [] 0 0),180)else(idx x2.Kids 0).bind fun x8=>(if(x8.Kind==17)=true then(l9 x1 x8.Text).bind fun(x11,x12)=>(if(x12==0)=true then lu R x1 x3 x11 x2 x8 (x11.Kind==1)else lu R x1 x3 x11 x2 x8 false)else ka R x1 x8 x3 x2))
def aes (R:bp):bp:=((fun x1 x2=>mx R x1 x2),(fun x1 x2=>pf R x1 x2),(fun x1 x2 x3=>mw R x1 x2 x3))
def fm (n:Nat):bp:=Nat.rec (motive:=fun _=>bp) ((fun x1 x2=>none),(fun x1 x2=>none),(fun x1 x2 x3=>none)) (fun _ R=>aes R) n
def z6 (x1:C8) (x2:B5):Ty19:=(fm 1048576).1 x1 x2
def ae5 (x20:C7):Ty48:=some x20
def ae4 (x24:C7):Ty48:=some x24
def ae3 (x30:C7):Ty48:=some x30
def yt (x3:C7) (x2:B5) (x1:C8) (x27:Bool):Ty48:=(if x27=true then(pq x3.Method x3.Many).bind fun x29=>(iu x2.At x29 x3).bind fun x30=>ae3 x30 else(z6 x1 x2).bind fun(x32,x33)=>(if(x33 != 0)=true then(sf x33 x2.At x3).bind fun x36=>some x36 else(iu x2.At x32.Id x3).bind fun x38=>some x38))
def ys (x2:B5) (x3:C7) (x1:C8) (x10:Bool):Ty48:=(if x10=true then(sf 171 x2.From x3).bind fun x12=>some x12 else(if(decide (x2.At<0))=true then some x3 else(if(x2.Kind==1)=true then(iu x2.At x2.Text x3).bind fun x16=>some x16 else(if(x2.Kind==2)=true then(aaq x1.Class x2.Text).bind fun x19=>(iu x2.At x19 x3).bind fun x20=>ae5 x20 else(if(x2.Kind==3)=true then(uj x1.Class x2.Text).bind fun x23=>(iu x2.At x23 x3).bind fun x24=>ae4 x24 else(if(x2.Kind==4)=true then yt x3 x2 x1 (x2.Kind==4)else yt x3 x2 x1 (x2.Kind==6)))))))
def aih (x1:C8) (x2:B5) (x3:C7):Ty48:=(if(x2.Kind==16)=true then ys x2 x3 x1 x1.Static else ys x2 x3 x1 false)
abbrev cb :Type:=(C8->B5->C7->Option (C7 × C8))
abbrev Ty49 :Type:=Option (C7 × C8)
def ahk (R:cb) (x10:C7) (x1:C8):Ty49:=some (x10,x1)
def ahj (R:cb) (x29:List B7) (x25:B3) (x26:Int) (x27:Bt) (x28:Int) (x1:C8):Ty49:=some ((C7.mk x29 x25 x26 x27 x28),x1)
def ahi (R:cb) (x32:C7) (x1:C8):Ty49:=some (x32,x1)
def ac3 (R:cb) (x52:List B7) (x47:B3) (x48:Int) (x49:Bt) (x50:Int) (x980:C8):Ty49:=some ((C7.mk x52 x47 x48 x49 x50),x980)
def y6 (R:cb) (x52:List B7) (x47:B3) (x48:Int) (x49:Bt) (x50:Int) (x980:C8):Ty49:=ac3 R x52 x47 x48 x49 x50 x980
def vi (R:cb) (x1:C8) (x39:Bt) (x2:B5) (x32:C7) (x52:List B7) (x47:B3) (x48:Int) (x49:Bt) (x50:Int) (x973:Bool):Ty49:=(if x973=true then(app 120 [] x1.Seen).bind fun x976=>(app 120 x976 ([(A9.mk 4 x39 x2.Text x32.Method x2.Type_ false [] x32.File x2.At)]:List A9)).bind fun x978=>y6 R x52 x47 x48 x49 x50 ({x1 with Seen:=x978})else y6 R x52 x47 x48 x49 x50 x1)
def ac1 (R:cb) (x2:B5) (x1:C8) (x39:Bt) (x32:C7) (x52:List B7) (x47:B3) (x48:Int) (x49:Bt) (x50:Int) (x51:C8):Ty49:=(if(x2.Kind==4)=true then vi R x1 x39 x2 x32 x52 x47 x48 x49 x50 true else vi R x1 x39 x2 x32 x52 x47 x48 x49 x50 (x2.Kind==6))
abbrev Ty50 :Type:=Option ((Int × B3 × Int × Bt × Int × C8 × (List B7)) ⊕ (Flow ((List B7) × B3 × Int × Bt × Int × C8) (C7 × C8)))
def ac2 (R:cb) (x490:C7) (x1:C8):Ty50:=some (.inr (.done (x490,x1)))
def wg (R:cb) (x1:C8) (x45:Int) (x490:C7) (x491:C8):Ty50:=(jp x490).bind fun x970=>(if x970=true then ac2 R x490 x1 else some (.inl (w64 (x45+1),x490.M,x490.File,x490.Method,x490.Many,x491,x490.L)))
def we (R:cb) (x2:B5) (x45:Int) (x51:C8) (x52:List B7) (x47:B3) (x48:Int) (x1:C8) (x68:Bt) (x69:Int):Ty50:=(idx x2.Kids x45).bind fun x310=>(R x51 x310 (C7.mk x52 x47 x48 x68 x69)).bind fun(x490,x491)=>wg R x1 x45 x490 x491
def aax (R:cb) (x2:B5) (x45:Int) (x51:C8) (x52:List B7) (x47:B3) (x48:Int) (x1:C8) (x67:Bt):Ty50:=we R x2 x45 x51 x52 x47 x48 x1 x67 0
def pw (R:cb) (x2:B5) (x45:Int) (x1 x51:C8) (x52:List B7) (x47:B3) (x48:Int) (x49:Bt) (x50:Int) (x64:Bool):Ty50:=(if x64=true then(idx x2.Kids x45).bind fun x66=>(uj x1.Class x66.Text).bind fun x67=>aax R x2 x45 x51 x52 x47 x48 x1 x67 else we R x2 x45 x51 x52 x47 x48 x1 x49 x50)
def mz (R:cb) (x2:B5) (x1:C8) (x45:Int) (x47:B3) (x48:Int) (x49:Bt) (x50:Int) (x51:C8) (x52:List B7):Ty50:=(if(decide (x45<(x2.Kids.length:Int)))=true then(if(x2.Kind==1)=true then(idx x2.Kids x45).bind fun x63=>pw R x2 x45 x1 x51 x52 x47 x48 x49 x50 (x63.Kind==3)else pw R x2 x45 x1 x51 x52 x47 x48 x49 x50 false)else some (.inr (.next (x52,x47,x48,x49,x50,x51))))
def sv (R:cb) (x2:B5) (x1:C8) (x23:Int) (x32:C7) (x38:C8) (x39:Bt) (x44:Int):Ty49:=(iter (fun s=>mz R x2 x1 s.1 s.2.1 s.2.2.1 s.2.2.2.1 s.2.2.2.2.1 s.2.2.2.2.2.1 s.2.2.2.2.2.2) (x23,x32.M,x32.File,x32.Method,x44,x38,x32.L)).bind fun z=>match z with| .next p=>ac1 R x2 x1 x39 x32 p.1 p.2.1 p.2.2.1 p.2.2.2.1 p.2.2.2.2.1 p.2.2.2.2.2| .done r=>some r
def wd (R:cb) (x2:B5) (x1:C8) (x23:Int) (x32:C7) (x38:C8) (x39:Bt) (x42:Bool):Ty49:=(if x42=true then sv R x2 x1 x23 x32 x38 x39 (w64 (x32.Many+1))else sv R x2 x1 x23 x32 x38 x39 x32.Many)
def aaw (R:cb) (x2:B5) (x1:C8) (x23:Int) (x32:C7) (x38:C8) (x39:Bt):Ty49:=(if(x2.Kind==4)=true then wd R x2 x1 x23 x32 x38 x39 true else wd R x2 x1 x23 x32 x38 x39 (x2.Kind==6))
def li (R:cb) (x32:C7) (x2:B5) (x1:C8) (x23:Int) (x38:C8):Ty49:=(pq x32.Method x32.Many).bind fun x39=>aaw R x2 x1 x23 x32 x38 x39
def pv (R:cb) (x1:C8) (x2:B5) (x23:Int) (x25:B3) (x26:Int) (x27:Bt) (x28:Int) (x29:List B7):Ty49:=(jp (C7.mk x29 x25 x26 x27 x28)).bind fun x30=>(if x30=true then ahj R x29 x25 x26 x27 x28 x1 else(aih x1 x2 (C7.mk x29 x25 x26 x27 x28)).bind fun x32=>(jp x32).bind fun x34=>(if x34=true then ahi R x32 x1 else(if(x2.Kind==3)=true then li R x32 x2 x1 x23 ({x1 with Static:=x2.N==1})else li R x32 x2 x1 x23 x1)))
def aav (R:cb) (x1:C8) (x2:B5) (x20:C7):Ty49:=pv R x1 x2 1 x20.M x20.File x20.Method x20.Many x20.L
def pr (R:cb) (x2:B5) (x1:C8) (x10:C7) (x17:Bool):Ty49:=(if x17=true then(idx x2.Kids 0).bind fun x19=>(R x1 x19 x10).bind fun(x20,x21)=>aav R x1 x2 x20 else pv R x1 x2 0 x10.M x10.File x10.Method x10.Many x10.L)
def acd (R:cb) (x1:C8) (x2:B5) (x3:C7):Ty49:=(agv x1 x2 x3).bind fun x10=>(jp x10).bind fun x12=>(if x12=true then ahk R x10 x1 else(if(x2.Kind==18)=true then pr R x2 x1 x10 (decide ((x2.Kids.length:Int)>0))else(if(x2.Kind==20)=true then pr R x2 x1 x10 (decide ((x2.Kids.length:Int)>0))else pr R x2 x1 x10 false)))
def akf (R:cb):cb:=(fun x1 x2 x3=>acd R x1 x2 x3)
def ct (n:Nat):cb:=Nat.rec (motive:=fun _=>cb) (fun x1 x2 x3=>none) (fun _ R=>akf R) n
def amk (x1:C8) (x2:B5) (x3:C7):Ty49:=(ct 1048576) x1 x2 x3
def ada (x4:List B7):Ty23:=some x4
def ac9 (x4 x1:List B7) (x3 x9:Int):Ty24:=(subL x4 0 x9).bind fun x22=>(app 32 [] x22).bind fun x24=>(idx x1 x3).bind fun x26=>(app 32 x24 ([x26]:List B7)).bind fun x27=>(subL x4 x9 (x4.length:Int)).bind fun x29=>(app 32 x27 x29).bind fun x30=>some (.inl (w64 (x3+1),x30))
def o0 (x9:Int) (x20:Bool):Ty38:=(if x20=true then some (.inl (w64 (x9 - 1)))else some (.inr x9))
def oy (x4 x1:List B7) (x3 x9:Int):Ty38:=(if(decide (x9>0))=true then(idx x4 (w64 (x9 - 1))).bind fun x12=>(idx x1 x3).bind fun x13=>(if(decide (x12.File>x13.File))=true then o0 x9 true else(idx x4 (w64 (x9 - 1))).bind fun x15=>(idx x1 x3).bind fun x16=>(if(x15.File==x16.File)=true then(idx x4 (w64 (x9 - 1))).bind fun x18=>(idx x1 x3).bind fun x19=>o0 x9 (decide (x18.At>x19.At))else o0 x9 false))else o0 x9 false)
def oz (x1:List B7) (x3:Int) (x4:List B7):Ty24:=(if(decide (x3<(x1.length:Int)))=true then(iter (fun s=>oy x4 x1 x3 s) (x4.length:Int)).bind fun p=>ac9 x4 x1 x3 p else some (.inr x4))
def agx (x1:List B7):Ty23:=(iter (fun s=>oz x1 s.1 s.2) (0,[])).bind fun p=>ada p
abbrev Ty51 :Type:=Option ((List B7) × B3)
def ac8 (x4:B3):Ty51:=some ([],x4)
def ahl (x7:B3):Ty51:=some ([],x7)
def ac5 (x13:B3) (x14:Int) (x15:Bt) (x16:Int) (x17:List B7):Ty51:=(agx x17).bind fun x60=>some (x60,(B3.mk 0 0 0))
abbrev Ty52 :Type:=Option ((Int × B3 × Int × Bt × Int × (List B7)) ⊕ (Flow (B3 × Int × Bt × Int × (List B7)) ((List B7) × B3)))
def ac4 (x11:Int) (x28:B3) (x29:Int) (x30:Bt) (x31:Int) (x32:List B7):Ty52:=some (.inl (w64 (x11+1),x28,x29,x30,x31,x32))
abbrev Ty53 :Type:=Option ((Int × B3 × Int × Bt × Int × (List B7)) ⊕ (Flow (B3 × Int × Bt × Int × (List B7)) ((Int × B3 × Int × Bt × Int × (List B7)) ⊕ (Flow (B3 × Int × Bt × Int × (List B7)) ((List B7) × B3)))))
def vj (x26:Int) (x55:B3) (x56:Int) (x57:Bt) (x58:Int) (x59:List B7):Ty53:=some (.inl (w64 (x26+1),x55,x56,x57,x58,x59))
def ac7 (x49:C7):Ty53:=some (.inr (.done (.inr (.done ([],x49.M)))))
def ac6 (x26:Int) (x49:C7):Ty53:=(jp x49).bind fun x52=>(if x52=true then ac7 x49 else vj x26 x49.M x49.File x49.Method x49.Many x49.L)
def r5 (x1:List (List B5)) (x11:Int) (x3:List A9) (x26:Int) (x28:B3) (x29:Int) (x30:Bt) (x31:Int) (x32:List B7):Ty53:=(idx x1 x11).bind fun x40=>(if(decide (x26<(x40.length:Int)))=true then(idx x1 x11).bind fun x42=>(idx x42 x26).bind fun x43=>(if(x43.Kind != 1)=true then vj x26 x28 x29 x30 x31 x32 else(idx x1 x11).bind fun x45=>(idx x45 x26).bind fun x46=>(idx x1 x11).bind fun x47=>(idx x47 x26).bind fun x48=>(amk (C8.mk x3 x46.Text false []) x48 (C7.mk x32 x28 x29 x30 x31)).bind fun(x49,x50)=>ac6 x26 x49)else some (.inr (.next (x28,x29,x30,x31,x32))))
def m0 (x1:List (List B5)) (x3:List A9) (x11:Int) (x13:B3) (x14:Int) (x15:Bt) (x16:Int) (x17:List B7):Ty52:=(if(decide (x11<(x1.length:Int)))=true then(iter (fun s=>r5 x1 x11 x3 s.1 s.2.1 s.2.2.1 s.2.2.2.1 s.2.2.2.2.1 s.2.2.2.2.2) (0,x13,x11,x15,x16,x17)).bind fun z=>match z with| .next p=>ac4 x11 p.1 p.2.1 p.2.2.1 p.2.2.2.1 p.2.2.2.2| .done r=>some r else some (.inr (.next (x13,x14,x15,x16,x17))))
def agw (x1:List (List B5)):Ty51:=(aap x1).bind fun(x3,x4)=>(if(x4.Code != 0)=true then ac8 x4 else(ad1 x3).bind fun x7=>(if(x7.Code != 0)=true then ahl x7 else(iter (fun s=>m0 x1 x3 s.1 s.2.1 s.2.2.1 s.2.2.2.1 s.2.2.2.2.1 s.2.2.2.2.2) (0,(B3.mk 0 0 0),0,[],0,[])).bind fun z=>match z with| .next p=>ac5 p.1 p.2.1 p.2.2.1 p.2.2.2.1 p.2.2.2.2| .done r=>some r))
def aj7 :Option (Bt × Bool):=some ([],false)
def adz (x1:List B7) (x4:Int) (x10:Bool):Ty27:=(if x10=true then(idx x1 x4).bind fun x12=>some (.inr (.done (x12.Id,true)))else some (.inl (w64 (x4+1))))
def xy (x1:List B7) (x2 x3 x4:Int):Ty27:=(if(decide (x4<(x1.length:Int)))=true then(idx x1 x4).bind fun x7=>(if(x7.File==x2)=true then(idx x1 x4).bind fun x9=>adz x1 x4 (x9.At==x3)else adz x1 x4 false)else some (.inr (.next ())))
def akj (x1:List B7) (x2 x3:Int):Option (Bt × Bool):=(iter (fun s=>xy x1 x2 x3 s) 0).bind fun z=>match z with| .next p=>aj7| .done r=>some r
def adb :Option (Bool):=some true
def adc (x4:Int) (x7 x8:B7):Ty14:=(if(!decide (x7=x8))=true then some (.inr (.done false))else some (.inl (w64 (x4+1))))
def o3 (x1 x2:List B7) (x4:Int):Ty14:=(if(decide (x4<(x1.length:Int)))=true then(idx x1 x4).bind fun x7=>(idx x2 x4).bind fun x8=>adc x4 x7 x8 else some (.inr (.next ())))
def adp (x1 x2:List B7):Ty12:=(if((x1.length:Int) != (x2.length:Int))=true then some false else(iter (fun s=>o3 x1 x2 s) 0).bind fun z=>match z with| .next p=>adb| .done r=>some r)
def ahc (x5:List B7):Ty23:=some x5
def ady (x4:Int) (x16:List B7):Ty24:=some (.inl (w64 (x4+1),x16))
def xx (x1:List B7) (x2:Bt) (x4:Int) (x5:List B7):Ty24:=(if(decide (x4<(x1.length:Int)))=true then(idx x1 x4).bind fun x10=>(if(x10.Id==x2)=true then(idx x1 x4).bind fun x12=>(app 32 x5 ([x12]:List B7)).bind fun x13=>ady x4 x13 else ady x4 x5)else some (.inr x5))
def aki (x1:List B7) (x2:Bt):Ty23:=(iter (fun s=>xx x1 x2 s.1 s.2) (0,[])).bind fun p=>ahc p
abbrev Ty54 :Type:=Option (PX B9 ((List B7) × B3))
def afe (x12:Int) (x13:Bt) (x14:Int) (x15:List B7):Ty54:=(d6 yd x15).bind fun x49=>some (.ok (x49,(B3.mk 0 0 0)))
abbrev Ty55 :Type:=Option ((Int × Int × Bt × Int × (List B7)) ⊕ (Flow (Int × Bt × Int × (List B7)) (PX B9 ((List B7) × B3))))
def afd (x10 x26:Int) (x27:Bt) (x28:Int) (x29:List B7):Ty55:=some (.inl (w64 (x10+1),x26,x27,x28,x29))
abbrev Ty56 :Type:=Option ((Int × Int × Bt × Int × (List B7)) ⊕ (Flow (Int × Bt × Int × (List B7)) ((Int × Int × Bt × Int × (List B7)) ⊕ (Flow (Int × Bt × Int × (List B7)) (PX B9 ((List B7) × B3))))))
def yz (x24 x45:Int) (x46:Bt) (x47:Int) (x48:List B7) (x37:B5):Ty56:=some (.inl (w64 (x24+1),x45,x46,x47,x48))
def ur (x23:List B5) (x4:List A9) (x24 x26:Int) (x27:Bt) (x28:Int) (x29:List B7):Ty56:=(if(decide (x24<(x23.length:Int)))=true then(idx x23 x24).bind fun x37=>(if(x37.Kind==1)=true then(anu (aco (B6.mk x4 x37.Text false []) x37 (B8.mk x29 x26 x27 x28)) (fun m43=>some (.inr (.done (.inr (.done (.bad m43)))))) fun(x40,x41)=>yz x24 x41.file x41.method x41.many x41.uses x37)else yz x24 x26 x27 x28 x29 x37)else some (.inr (.next (x26,x27,x28,x29))))
def rt (x1:List (List B5)) (x4:List A9) (x10 x12:Int) (x13:Bt) (x14:Int) (x15:List B7):Ty55:=(if(decide (x10<(x1.length:Int)))=true then(idx x1 x10).bind fun x23=>(iter (fun s=>ur x23 x4 s.1 s.2.1 s.2.2.1 s.2.2.2.1 s.2.2.2.2) (0,x10,x13,x14,x15)).bind fun z=>match z with| .next p=>afd x10 p.1 p.2.1 p.2.2.1 p.2.2.2| .done r=>some r else some (.inr (.next (x12,x13,x14,x15))))
def amt (x1:List (List B5)):Ty54:=(aec x1).bind fun(x4,x5)=>(if(x5.Code != 0)=true then some (.ok ([],x5))else(ail x4).bind fun x7=>(if(x7.Code != 0)=true then some (.ok ([],x7))else(iter (fun s=>rt x1 x4 s.1 s.2.1 s.2.2.1 s.2.2.2.1 s.2.2.2.2) (0,0,[],0,[])).bind fun z=>match z with| .next p=>afe p.1 p.2.1 p.2.2.1 p.2.2.2| .done r=>some r))
def aip (x1:List (List B5)):Ty51:=(amt x1).bind fun z=>match z with| .ok a=>some a| .bad m=>some ([],m.m)
def jo (x417:Bool):Ty12:=some x417
def ahd :Option (Bool):=(adr ([99,108,97,115,115,32,65,123,105,110,116,32,102,59,105,110,116,32,109,40,65,32,97,41,123,114,101,116,117,114,110,32,97,46,102,59,125,125]:Bt)).bind fun(x1,x2)=>(aip ([x1]:List (List B5))).bind fun(x4,x5)=>(amf x4 0 34).bind fun(x7,x8)=>(aap ([x1]:List (List B5))).bind fun(x9,x10)=>(vo (B6.mk x9 ([65]:Bt) false []) (B5.mk 17 ([102]:Bt) [] 0 0 0 0 0 [])).bind fun(x13,x14)=>(if(x5.Code==0)=true then(if((x4.length:Int)==7)=true then(idx x4 5).bind fun x18=>(if(x18.Id==([65,46,109,40,41,35,48]:Bt))=true then(if(x7==([65,46,102]:Bt))=true then(if x8=true then(ame x4 ([65]:Bt)).bind fun x22=>(if((x22.length:Int)==2)=true then(if(x14==0)=true then(if(x13.Id==([65,46,102]:Bt))=true then(ai3 (B6.mk x9 ([65]:Bt) false []) (B5.mk 16 [] [] 0 0 0 0 0 [])).bind fun x26=>jo (x26==([65]:Bt))else jo false)else jo false)else jo false)else jo false)else jo false)else jo false)else jo false)else jo false)
def j7 (x59:Bool):Ty12:=some x59
def abn (x1:List Bt) (x2:Bt) (x3:Int):Ty12:=(ahd).bind fun x4=>(if(!x4)=true then some false else(ab7 x1).bind fun(x6,x7)=>(if(!x7)=true then some true else(aip x6).bind fun(x9,x10)=>(agw x6).bind fun(x12,x13)=>(amf x9 0 x3).bind fun(x15,x16)=>(akj x9 0 x3).bind fun(x17,x18)=>(if(decide (x10=x13))=true then(adp x9 x12).bind fun x20=>(if x20=true then(if(x15==x17)=true then(if(x16==x18)=true then(ame x9 x2).bind fun x24=>(aki x9 x2).bind fun x25=>(adp x24 x25).bind fun x26=>j7 x26 else j7 false)else j7 false)else j7 false)else j7 false)))
end
end Go.Proofs.YtcndghapmoaidaaGreatDoor
