/- The data of the program, and its functions over plain data (printed by wip/gen/gen.py). -/
import Derived.Lib.Index
import Derived.Lib.Bytealg
import Derived.Lib.ParseIntB
import Derived.Test.YtackaijkmkollaaGreatDoorZJ
set_option linter.unusedSimpArgs false
set_option linter.unusedVariables false
set_option linter.unusedSectionVars false
namespace Go.Proofs.YtackaijkmkollaaGreatDoor
open Go
def strings_Index (s sub:List UInt8):Option Int:=if s.length<4294967281 then some (Lib.index s sub)else none
def strings_IndexByte (s:List UInt8) (c:Int):Option Int:=some (Lib.indexByte s c.toNat.toUInt8)
def ek (s:List UInt8) (b k:Int):Option (Int × Bool):=
 if b=10/\k=64/\s.length<=281474976710656 then
  match Lib.parseIntB 64 s with
  | .ok v=>some (v,false)
  | .range=>some (Lib.intSat 64 s,true)
  |_=>none
 else none
def kept :List (List UInt8):=[[99,108,97,115,115],[101,120,116,101,110,100,115],[115,116,97,116,105,99],[118,111,105,100],[105,110,116],[98,111,111,108,101,97,110],[105,102],[101,108,115,101],[119,104,105,108,101],[114,101,116,117,114,110],[112,114,105,110,116],[116,114,117,101],[102,97,108,115,101],[110,117,108,108],[116,104,105,115],[110,101,119]]
def clashes :List (List UInt8 × List UInt8):=[([61],[61]),([33],[61]),([60],[61]),([62],[61]),([47],[47]),([47],[42])]
end Go.Proofs.YtackaijkmkollaaGreatDoor
set_option linter.unusedSectionVars false
set_option maxRecDepth 100000
set_option maxHeartbeats 4000000
namespace Go.Proofs.YtackaijkmkollaaGreatDoor
open Go Go.Cn
structure ApiToken where
 Kind:Int
 Text:List UInt8
 At:Int
 Lead:List UInt8
 deriving DecidableEq
structure ApiNode where
 Kind:Int
 Text:List UInt8
 Type_:List UInt8
 N:Int
 From:Int
 To:Int
 At:Int
 TypeAt:Int
 Kids:List ApiNode
structure ParseParser where
 t:List ApiToken
 at_:Int
 deriving DecidableEq
structure ApiMistake where
 Code:Int
 File:Int
 At:Int
 deriving DecidableEq
structure ParseWrong where
 m:ApiMistake
 deriving DecidableEq
noncomputable def parse_parser_made (x1:ParseParser) (x2 x3:Int) (x4:List ApiNode):Option ApiNode:=(idx x1.t (w64 (x1.at_ - 1))).bind fun x6=>(idx x1.t x3).bind fun x8=>some (ApiNode.mk x2 [] [] 0 x8.At (w64 (x6.At+(x6.Text.length:Int))) (-1) (-1) x4)
noncomputable def lex_Lex_1_j1 (x8:List UInt8) (x10 x2 x3:Int) (x13:List ApiToken):Option ((List ApiToken) × (List UInt8) × Int):=some (x13,x8,w64 (x10+(w64 (x2+x3))))
noncomputable def lex_Lex_1 (x1 x2 x3:Int) (x5:List ApiToken) (x8:List UInt8) (x10:Int):Option ((List ApiToken) × (List UInt8) × Int):=(sub x8 (w64 (x10+x2)) (w64 ((w64 (x10+x2))+x3))).bind fun x11=>(sub x8 x10 (w64 (x10+x2))).bind fun x12=>(app 48 x5 ([(ApiToken.mk x1 x11 (w64 (x10+x2)) x12)]:List ApiToken)).bind fun x13=>lex_Lex_1_j1 x8 x10 x2 x3 x13
noncomputable def cb (x5:Bool):Option (Bool):=some x5
noncomputable def ef (x1 x2:List UInt8):Option (Bool):=(if(decide ((x1.length:Int)≥(x2.length:Int)))=true then(sub x1 0 (x2.length:Int)).bind fun x4=>cb (x4==x2)else cb false)
noncomputable def er (x1 x2:List UInt8):Option (Bool):=(ef x1 x2).bind fun x3=>some x3
noncomputable def lex_run_k1 (x1:List UInt8):Option (Int):=some (x1.length:Int)
noncomputable def lex_run_l2 (x1:List UInt8) (x2:(Int->Option Bool)) (x3:Int):Option ((Int) ⊕ (Flow Unit Int)):=(if(decide (x3<(x1.length:Int)))=true then(idxS x1 x3).bind fun x6=>(x2 x6).bind fun x7=>(if(!x7)=true then some (.inr (.done x3))else some (.inl (w64 (x3+1))))else some (.inr (.next ())))
noncomputable def lex_run (x1:List UInt8) (x2:(Int->Option Bool)):Option (Int):=(iter (fun s=>lex_run_l2 x1 x2 s) 0).bind fun z=>match z with| .next p=>lex_run_k1 x1| .done r=>some r
noncomputable def kl (x1:Int):Option (Bool):=some (x1 != 10)
noncomputable def lex_between_j1 (x2:Int):Option (Int × Bool):=some (x2,true)
noncomputable def lex_between_k2 (x2:Int):Option (Int × Bool):=lex_between_j1 x2
noncomputable def i5 (x2:Int):Option ((Int) ⊕ (Flow Int (Int × Bool))):=some (.inl (w64 (x2+1)))
noncomputable def jx (x1:List UInt8) (x2:Int):Option ((Int) ⊕ (Flow Int (Int × Bool))):=(if(decide (x2<(x1.length:Int)))=true then(sub x1 x2 (x1.length:Int)).bind fun x5=>(er x5 ([47,47]:List UInt8)).bind fun x6=>(if x6=true then(lex_run x5 kl).bind fun x8=>some (.inl (w64 (x2+x8)))else(er x5 ([47,42]:List UInt8)).bind fun x9=>(if x9=true then(sub x5 2 (x5.length:Int)).bind fun x11=>(strings_Index x11 ([42,47]:List UInt8)).bind fun x12=>(if(decide (x12<0))=true then some (.inr (.done (x2,false)))else some (.inl (w64 (x2+(w64 ((w64 (2+x12))+2))))))else(idxS x5 0).bind fun x14=>(if(x14==32)=true then i5 x2 else(if(x14==9)=true then i5 x2 else(if(x14==13)=true then i5 x2 else(if(x14==10)=true then i5 x2 else some (.inr (.next x2))))))))else some (.inr (.next x2)))
noncomputable def lex_between (x1:List UInt8):Option (Int × Bool):=(iter (fun s=>jx x1 s) 0).bind fun z=>match z with| .next p=>lex_between_k2 p| .done r=>some r
noncomputable def lex_digit_j1 (x3:Bool):Option (Bool):=some x3
noncomputable def lex_digit (x1:Int):Option (Bool):=(if(decide (x1≥48))=true then lex_digit_j1 (decide (x1<=57))else lex_digit_j1 false)
noncomputable def lex_letter_j1 (x5:Bool):Option (Bool):=some x5
noncomputable def lex_letter (x1:Int):Option (Bool):=(if(decide ((bits .or .u8 x1 32)≥97))=true then(if(decide ((bits .or .u8 x1 32)<=122))=true then lex_letter_j1 true else lex_letter_j1 (x1==95))else lex_letter_j1 (x1==95))
noncomputable def lex_token_1_j1 (x5:Bool):Option (Bool):=some x5
noncomputable def k6 (x1:Int):Option (Bool):=(lex_letter x1).bind fun x2=>(if x2=true then lex_token_1_j1 true else(lex_digit x1).bind fun x4=>lex_token_1_j1 x4)
noncomputable def em:Option (Int):=some (-1)
noncomputable def cr (x1:List (List UInt8)) (x2:List UInt8) (x3:Int):Option ((Int) ⊕ (Flow Unit Int)):=(if(decide (x3<(x1.length:Int)))=true then(idx x1 x3).bind fun x6=>(if(x2==x6)=true then some (.inr (.done x3))else some (.inl (w64 (x3+1))))else some (.inr (.next ())))
noncomputable def d7 (x1:List (List UInt8)) (x2:List UInt8):Option (Int):=(iter (fun s=>cr x1 x2 s) 0).bind fun z=>match z with| .next p=>em| .done r=>some r
noncomputable def dj (x1:List (List UInt8)) (x2:List UInt8):Option (Bool):=(d7 x1 x2).bind fun x3=>some (decide (x3≥0))
noncomputable def lex_Kept (x1:List UInt8):Option (Bool):=(dj kept x1).bind fun x2=>some x2
noncomputable def lex_mark_k1 (x1:List UInt8):Option (Int):=(idxS x1 0).bind fun x8=>(strings_IndexByte ([43,45,42,47,37,60,62,61,33,40,41,123,125,59,44,46]:List UInt8) x8).bind fun x9=>(if(decide (x9≥0))=true then some 1 else some 0)
noncomputable def lex_mark_l2 (x1:List UInt8) (x2:Int):Option ((Int) ⊕ (Flow Unit Int)):=(if(decide (x2<(([([61,61]:List UInt8),([33,61]:List UInt8),([60,61]:List UInt8),([62,61]:List UInt8),([38,38]:List UInt8),([124,124]:List UInt8)]:List (List UInt8)).length:Int)))=true then(idx ([([61,61]:List UInt8),([33,61]:List UInt8),([60,61]:List UInt8),([62,61]:List UInt8),([38,38]:List UInt8),([124,124]:List UInt8)]:List (List UInt8)) x2).bind fun x5=>(er x1 x5).bind fun x6=>(if x6=true then some (.inr (.done 2))else some (.inl (w64 (x2+1))))else some (.inr (.next ())))
noncomputable def lex_mark (x1:List UInt8):Option (Int):=(iter (fun s=>lex_mark_l2 x1 s) 0).bind fun z=>match z with| .next p=>lex_mark_k1 x1| .done r=>some r
noncomputable def j7 (x5:Int) (x16:Bool):Option (Int × Int × Int):=(if x16=true then some (0,0,31)else some (2,x5,0))
noncomputable def lex_token (x1:List UInt8):Option (Int × Int × Int):=(idxS x1 0).bind fun x2=>(lex_digit x2).bind fun x3=>(if x3=true then(lex_run x1 lex_digit).bind fun x5=>(sub x1 0 x5).bind fun x6=>(ek x6 10 64).bind fun(x7,x8)=>(if x8=true then j7 x5 true else(if(decide (x7>2147483647))=true then j7 x5 true else(if(decide (x5>1))=true then(idxS x1 0).bind fun x12=>j7 x5 (x12==48)else j7 x5 false)))else(idxS x1 0).bind fun x18=>(lex_letter x18).bind fun x19=>(if x19=true then(lex_run x1 k6).bind fun x21=>(if(decide (x21>20))=true then some (0,0,2)else(sub x1 0 x21).bind fun x23=>(lex_Kept x23).bind fun x24=>(if x24=true then some (3,x21,0)else some (1,x21,0)))else(lex_mark x1).bind fun x26=>(if(x26==0)=true then some (0,0,30)else some (4,x26,0))))
noncomputable def lex_Lex_j2 (x8 x15:Int):Option (((List UInt8) × Int × (List ApiToken)) ⊕ ((List ApiToken) × Int × Int)):=some (.inr ([],w64 (x8+x15),32))
noncomputable def lex_Lex_j3 (x8 x15 x26:Int):Option (((List UInt8) × Int × (List ApiToken)) ⊕ ((List ApiToken) × Int × Int)):=some (.inr ([],w64 (x8+x15),x26))
noncomputable def fk (x6:List UInt8) (x8:Int) (x9:List ApiToken):Option (((List UInt8) × Int × (List ApiToken)) ⊕ ((List ApiToken) × Int × Int)):=(sub x6 x8 (x6.length:Int)).bind fun x14=>(lex_between x14).bind fun(x15,x16)=>(if(!x16)=true then lex_Lex_j2 x8 x15 else(if((w64 (x8+x15))==(x6.length:Int))=true then(lex_Lex_1 5 x15 0 x9 x6 x8).bind fun(x19,x21,x22)=>some (.inr (x19,0,0))else(sub x6 (w64 (x8+x15)) (x6.length:Int)).bind fun x23=>(lex_token x23).bind fun(x24,x25,x26)=>(if(x26 != 0)=true then lex_Lex_j3 x8 x15 x26 else(lex_Lex_1 x24 x15 x25 x9 x6 x8).bind fun(x28,x30,x31)=>some (.inl (x30,x31,x28)))))
noncomputable def lex_Lex (x1:List UInt8):Option ((List ApiToken) × Int × Int):=(if(decide ((x1.length:Int)>1048576))=true then some ([],0,2)else iter (fun s=>fk s.1 s.2.1 s.2.2) (x1,0,[]))
abbrev el :Type:=(ApiNode->Option (Int))
noncomputable def node_Depth_k1 (R:el) (x3:Int):Option (Int):=some (w64 (x3+1))
noncomputable def kj (R:el) (x1:ApiNode) (x3 x4:Int):Option ((Int × Int) ⊕ (Int)):=(if(decide (x4<(x1.Kids.length:Int)))=true then(idx x1.Kids x4).bind fun x8=>(R x8).bind fun x10=>some (.inl ((if x10>x3 then x10 else x3),w64 (x4+1)))else some (.inr x3))
noncomputable def F_node_Depth (R:el) (x1:ApiNode):Option (Int):=(iter (fun s=>kj R x1 s.1 s.2) (0,0)).bind fun p=>node_Depth_k1 R p
noncomputable def rec_node_Depth_step (R:el):el:=(fun x1=>F_node_Depth R x1)
noncomputable def gn (n:Nat):el:=Nat.rec (motive:=fun _=>el) (fun x1=>none) (fun _ R=>rec_node_Depth_step R) n
noncomputable def node_Depth (x1:ApiNode):Option (Int):=(gn 1048576) x1
noncomputable def jk (x3:ApiToken):Option (ApiToken):=some x3
noncomputable def bb (x1:ParseParser):Option (ApiToken):=(idx x1.t x1.at_).bind fun x3=>jk x3
noncomputable def bn (x1:Int) (x3:ParseParser):Option (PX ParseWrong ParseParser):=(bb x3).bind fun x4=>some (.bad (ParseWrong.mk (ApiMistake.mk x1 0 x4.At)))
noncomputable def jt (x6:Bool):Option (Bool):=some x6
noncomputable def jh (x1:ApiToken) (x2:List UInt8):Option (Bool):=(if(x1.Text==x2)=true then(if(x1.Kind==4)=true then jt true else jt (x1.Kind==3))else jt false)
noncomputable def jb (x1:ParseParser) (x2:List UInt8):Option (Bool):=(bb x1).bind fun x3=>(jh x3 x2).bind fun x4=>some x4
noncomputable def a4 (x1:List UInt8) (x3:ParseParser):Option (Bool × ParseParser):=(jb x3 x1).bind fun x4=>(if(!x4)=true then some (false,x3)else some (true,{x3 with at_:=w64 (x3.at_+1)}))
noncomputable def ay (x1:List UInt8) (x3:ParseParser):Option (PX ParseWrong ParseParser):=(a4 x1 x3).bind fun(x4,x5)=>(if(!x4)=true then(bm (bn 120 x5) (fun m8=>some (.bad m8)) fun x7=>some (.ok x7))else some (.ok x5))
noncomputable def cg (x2:ParseParser):Option (ApiToken × ParseParser):=(bb x2).bind fun x4=>some (x4,{x2 with at_:=w64 (x2.at_+1)})
noncomputable def ga (x8:ParseParser):Option (PX ParseWrong (ApiToken × ParseParser)):=(cg x8).bind fun(x9,x10)=>some (.ok (x9,x10))
noncomputable def ca (x2:ParseParser):Option (PX ParseWrong (ApiToken × ParseParser)):=(bb x2).bind fun x4=>(if(x4.Kind != 1)=true then(bm (bn 120 x2) (fun m7=>some (.bad m7)) fun x6=>ga x6)else ga x2)
noncomputable def ei (x1:ApiNode) (x2:ApiToken):Option (ApiNode):=some ({{x1 with Text:=x2.Text} with At:=x2.At})
noncomputable def dn (x1:ApiNode) (x2:ApiToken):Option (ApiNode):=ei x1 x2
noncomputable def i3 (x1:ApiNode) (x2:ApiToken):Option (ApiNode):=some ({{x1 with Type_:=x2.Text} with TypeAt:=x2.At})
noncomputable def i2 (x1:ApiNode) (x2:ApiToken):Option (ApiNode):=i3 x1 x2
noncomputable def gw (x17:Bool):Option (Bool):=some x17
noncomputable def io (x1:ApiToken):Option (Bool):=(if(x1.Kind==1)=true then gw true else(jh x1 ([105,110,116]:List UInt8)).bind fun x4=>(if x4=true then gw true else(jh x1 ([98,111,111,108,101,97,110]:List UInt8)).bind fun x6=>(if x6=true then gw true else(jh x1 ([118,111,105,100]:List UInt8)).bind fun x8=>gw x8)))
noncomputable def fu (x12:ParseParser):Option (PX ParseWrong (ApiToken × ParseParser)):=(cg x12).bind fun(x13,x14)=>some (.ok (x13,x14))
noncomputable def fr (x2:ParseParser) (x8:Bool):Option (PX ParseWrong (ApiToken × ParseParser)):=(if x8=true then(bm (bn 120 x2) (fun m11=>some (.bad m11)) fun x10=>fu x10)else fu x2)
noncomputable def ec (x2:ParseParser):Option (PX ParseWrong (ApiToken × ParseParser)):=(bb x2).bind fun x4=>(io x4).bind fun x5=>(if(!x5)=true then fr x2 true else(jb x2 ([118,111,105,100]:List UInt8)).bind fun x7=>fr x2 x7)
noncomputable def ia (x17:ParseParser) (x22:List ApiNode):Option ((ParseParser × (List ApiNode)) ⊕ (PX ParseWrong ((List ApiNode) × ParseParser))):=(a4 ([41]:List UInt8) x17).bind fun(x24,x25)=>(if x24=true then some (.inr (.ok (x22,x25)))else(bm (ay ([44]:List UInt8) x25) (fun m28=>some (.inr (.bad m28))) fun x27=>some (.inl (x27,x22))))
noncomputable def fh (x8:ParseParser) (x9:List ApiNode):Option ((ParseParser × (List ApiNode)) ⊕ (PX ParseWrong ((List ApiNode) × ParseParser))):=(bm (ec x8) (fun m30=>some (.inr (.bad m30))) fun(x13,x14)=>(bm (ca x14) (fun m29=>some (.inr (.bad m29))) fun(x16,x17)=>(parse_parser_made x17 4 x8.at_ []).bind fun x19=>(dn x19 x16).bind fun x20=>(i2 x20 x13).bind fun x21=>(app 104 x9 ([x21]:List ApiNode)).bind fun x22=>ia x17 x22))
noncomputable def fm (x2:ParseParser):Option (PX ParseWrong ((List ApiNode) × ParseParser)):=(a4 ([41]:List UInt8) x2).bind fun(x3,x4)=>(if x3=true then some (.ok ([],x4))else iter (fun s=>fh s.1 s.2) (x4,[]))
noncomputable def iz (x4:ApiToken):Option (ApiToken):=some x4
noncomputable def iq (x1:ParseParser) (x2:Int):Option (ApiToken):=(idx x1.t (if(w64 ((x1.t.length:Int) - 1))<(w64 (x1.at_+x2))then(w64 ((x1.t.length:Int) - 1))else(w64 (x1.at_+x2)))).bind fun x4=>iz x4
noncomputable def dh (x8:Bool):Option (Bool):=some x8
noncomputable def cp (x1:ParseParser):Option (Bool):=(bb x1).bind fun x2=>(io x2).bind fun x4=>(if x4=true then(if(x2.Kind != 1)=true then dh true else(iq x1 1).bind fun x7=>dh (x7.Kind==1))else dh false)
noncomputable def i4 (x19:Bool):Option (Int):=(if x19=true then some 6 else some 0)
noncomputable def jv (x1:ApiToken) (x15:Bool):Option (Int):=(if x15=true then some 5 else(if(x1.Text==([42]:List UInt8))=true then i4 (x1.Text==([42]:List UInt8))else(if(x1.Text==([47]:List UInt8))=true then i4 (x1.Text==([47]:List UInt8))else i4 (x1.Text==([37]:List UInt8)))))
noncomputable def gm (x1:ApiToken) (x12:Bool):Option (Int):=(if x12=true then some 4 else(if(x1.Text==([43]:List UInt8))=true then jv x1 (x1.Text==([43]:List UInt8))else jv x1 (x1.Text==([45]:List UInt8))))
noncomputable def ju (x1:ApiToken) (x7:Bool):Option (Int):=(if x7=true then some 3 else(if(x1.Text==([60]:List UInt8))=true then gm x1 (x1.Text==([60]:List UInt8))else(if(x1.Text==([60,61]:List UInt8))=true then gm x1 (x1.Text==([60,61]:List UInt8))else(if(x1.Text==([62]:List UInt8))=true then gm x1 (x1.Text==([62]:List UInt8))else gm x1 (x1.Text==([62,61]:List UInt8))))))
noncomputable def ji (x1:ApiToken):Option (Int):=(if(x1.Kind != 4)=true then some 0 else(if(x1.Text==([124,124]:List UInt8))=true then some 1 else(if(x1.Text==([38,38]:List UInt8))=true then some 2 else(if(x1.Text==([61,61]:List UInt8))=true then ju x1 (x1.Text==([61,61]:List UInt8))else ju x1 (x1.Text==([33,61]:List UInt8))))))
noncomputable def ed (x1:Int) (x3:ParseParser):Option (PX ParseWrong ParseParser):=(if(decide (x1>60))=true then(bm (bn 2 x3) (fun m6=>some (.bad m6)) fun x5=>some (.ok x5))else some (.ok x3))
noncomputable def parse_words:Option ((SMap ApiNode)):=some (mset ([116,104,105,115]:List UInt8) (ApiNode.mk 16 [] [] 0 0 0 0 0 []) (mset ([110,117,108,108]:List UInt8) (ApiNode.mk 15 [] [] 0 0 0 0 0 []) (mset ([102,97,108,115,101]:List UInt8) (ApiNode.mk 14 [] [] 0 0 0 0 0 []) (mset ([116,114,117,101]:List UInt8) (ApiNode.mk 14 [] [] 1 0 0 0 0 []) ([]:SMap ApiNode)))))
abbrev am :Type:=(Int->Int->ParseParser->Option (PX ParseWrong (ApiNode × ParseParser))) × (Int->ParseParser->Option (PX ParseWrong (ApiNode × ParseParser))) × (Int->ParseParser->Option (PX ParseWrong (ApiNode × ParseParser))) × (Int->ParseParser->Option (PX ParseWrong ((List ApiNode) × ParseParser)))
noncomputable def d8 (R:am) (x2 x1:Int) (x4 x9:ParseParser) (x10:ApiNode):Option ((ParseParser × ApiNode) ⊕ (PX ParseWrong (ApiNode × ParseParser))):=(bb x9).bind fun x13=>(ji x13).bind fun x14=>(if(decide (x14<=x2))=true then some (.inr (.ok (x10,x9)))else(cg x9).bind fun(x16,x17)=>(bm (R.1 x1 x14 x17) (fun m23=>some (.inr (.bad m23))) fun(x19,x20)=>(parse_parser_made x20 24 x4.at_ ([x10,x19]:List ApiNode)).bind fun x22=>some (.inl (x20,{x22 with Text:=x16.Text}))))
noncomputable def dm (R:am) (x1 x2:Int) (x4:ParseParser):Option (PX ParseWrong (ApiNode × ParseParser)):=(bm (R.2.1 x1 x4) (fun m24=>some (.bad m24)) fun(x6,x7)=>iter (fun s=>d8 R x2 x1 x4 s.1 s.2) (x7,x6))
noncomputable def kb (R:am) (x30:ParseParser) (x26:ApiNode):Option (PX ParseWrong (ApiNode × ParseParser)):=some (.ok (x26,x30))
noncomputable def fw (R:am) (x5:ParseParser) (x32:ApiToken) (x42:Int) (x43:List ApiNode) (x44:ParseParser):Option ((ParseParser × ApiNode) ⊕ (Flow (ParseParser × ApiNode) (PX ParseWrong (ApiNode × ParseParser)))):=(parse_parser_made x44 x42 x5.at_ x43).bind fun x45=>(dn x45 x32).bind fun x46=>some (.inl (x44,x46))
noncomputable def iu (R:am) (x33:ParseParser) (x1:Int) (x26:ApiNode) (x5:ParseParser) (x32:ApiToken):Option ((ParseParser × ApiNode) ⊕ (Flow (ParseParser × ApiNode) (PX ParseWrong (ApiNode × ParseParser)))):=(a4 ([40]:List UInt8) x33).bind fun(x35,x36)=>(if x35=true then(bm (R.2.2.2 (w64 (x1+1)) x36) (fun m41=>some (.inr (.done (.bad m41)))) fun(x38,x39)=>(app 104 ([x26]:List ApiNode) x38).bind fun x40=>fw R x5 x32 20 x40 x39)else fw R x5 x32 18 ([x26]:List ApiNode) x36)
noncomputable def fv (R:am) (x1:Int) (x5 x25:ParseParser) (x26:ApiNode):Option ((ParseParser × ApiNode) ⊕ (Flow (ParseParser × ApiNode) (PX ParseWrong (ApiNode × ParseParser)))):=(a4 ([46]:List UInt8) x25).bind fun(x29,x30)=>(if x29=true then(bm (ca x30) (fun m47=>some (.inr (.done (.bad m47)))) fun(x32,x33)=>iu R x33 x1 x26 x5 x32)else some (.inr (.next (x30,x26))))
noncomputable def fb (R:am) (x1:Int) (x3:ParseParser):Option (PX ParseWrong (ApiNode × ParseParser)):=(bm (ed x1 x3) (fun m49=>some (.bad m49)) fun x5=>(a4 ([33]:List UInt8) x5).bind fun(x6,x7)=>(if x6=true then(bm (R.2.1 (w64 (x1+1)) x7) (fun m13=>some (.bad m13)) fun(x9,x10)=>(parse_parser_made x10 22 x5.at_ ([x9]:List ApiNode)).bind fun x12=>some (.ok (x12,x10)))else(a4 ([45]:List UInt8) x7).bind fun(x14,x15)=>(if x14=true then(bm (R.2.1 (w64 (x1+1)) x15) (fun m21=>some (.bad m21)) fun(x17,x18)=>(parse_parser_made x18 23 x5.at_ ([x17]:List ApiNode)).bind fun x20=>some (.ok (x20,x18)))else(bm (R.2.2.1 (w64 (x1+1)) x15) (fun m48=>some (.bad m48)) fun(x22,x23)=>(iter (fun s=>fv R x1 x5 s.1 s.2) (x23,x22)).bind fun z=>match z with| .next p=>kb R p.1 p.2| .done r=>some r))))
noncomputable def gh (R:am) (x42:ParseParser) (x44:ApiNode):Option (PX ParseWrong (ApiNode × ParseParser)):=some (.ok (x44,x42))
noncomputable def dg (R:am) (x3:ParseParser) (x1:Int):Option (PX ParseWrong (ApiNode × ParseParser)):=(a4 ([110,101,119]:List UInt8) x3).bind fun(x35,x36)=>(if x35=true then(bm (ca x36) (fun m47=>some (.bad m47)) fun(x38,x39)=>(bm (ay ([40]:List UInt8) x39) (fun m46=>some (.bad m46)) fun x41=>(bm (ay ([41]:List UInt8) x41) (fun m45=>some (.bad m45)) fun x42=>(parse_parser_made x42 21 x3.at_ []).bind fun x43=>(dn x43 x38).bind fun x44=>gh R x42 x44)))else(a4 ([40]:List UInt8) x36).bind fun(x48,x49)=>(if x48=true then(bm (R.1 x1 0 x49) (fun m56=>some (.bad m56)) fun(x51,x52)=>(bm (ay ([41]:List UInt8) x52) (fun m55=>some (.bad m55)) fun x54=>some (.ok (x51,x54))))else(bm (bn 120 x49) (fun m58=>some (.bad m58)) fun x57=>some (.ok ((ApiNode.mk 0 [] [] 0 0 0 0 0 []),x57)))))
noncomputable def gg (R:am) (x18:ParseParser) (x21:ApiNode):Option (PX ParseWrong (ApiNode × ParseParser)):=some (.ok (x21,x18))
noncomputable def gf (R:am) (x23:ParseParser) (x25:ApiNode):Option (PX ParseWrong (ApiNode × ParseParser)):=some (.ok (x25,x23))
noncomputable def ge (R:am) (x5:ApiToken) (x3:ParseParser) (x1:Int) (x28:SMap ApiNode):Option (PX ParseWrong (ApiNode × ParseParser)):=(if(mhas x5.Text x28)=true then(cg x3).bind fun(x31,x32)=>(parse_parser_made x32 ((mget x5.Text (ApiNode.mk 0 [] [] 0 0 0 0 0 []) x28).Kind) x3.at_ []).bind fun x33=>some (.ok ({x33 with N:=(mget x5.Text (ApiNode.mk 0 [] [] 0 0 0 0 0 []) x28).N},x32))else dg R x3 x1)
noncomputable def eh (R:am) (x1:Int) (x3:ParseParser):Option (PX ParseWrong (ApiNode × ParseParser)):=(bb x3).bind fun x5=>(if(x5.Kind==2)=true then(cg x3).bind fun(x8,x9)=>(parse_parser_made x9 13 x3.at_ []).bind fun x10=>(ek x5.Text 10 64).bind fun(x12,x13)=>some (.ok ({x10 with N:=x12},x9))else(if(x5.Kind==1)=true then(cg x3).bind fun(x15,x16)=>(a4 ([40]:List UInt8) x16).bind fun(x17,x18)=>(if(!x17)=true then(parse_parser_made x18 17 x3.at_ []).bind fun x20=>(dn x20 x5).bind fun x21=>gg R x18 x21 else(bm (R.2.2.2 x1 x18) (fun m26=>some (.bad m26)) fun(x22,x23)=>(parse_parser_made x23 19 x3.at_ x22).bind fun x24=>(dn x24 x5).bind fun x25=>gf R x23 x25))else(if(x5.Kind==3)=true then(parse_words).bind fun x28=>ge R x5 x3 x1 x28 else dg R x3 x1)))
noncomputable def ej (R:am) (x1:Int) (x8:ParseParser) (x9:List ApiNode):Option ((ParseParser × (List ApiNode)) ⊕ (PX ParseWrong ((List ApiNode) × ParseParser))):=(bm (R.1 x1 0 x8) (fun m22=>some (.inr (.bad m22))) fun(x13,x14)=>(app 104 x9 ([x13]:List ApiNode)).bind fun x15=>(a4 ([41]:List UInt8) x14).bind fun(x17,x18)=>(if x17=true then some (.inr (.ok (x15,x18)))else(bm (ay ([44]:List UInt8) x18) (fun m21=>some (.inr (.bad m21))) fun x20=>some (.inl (x20,x15)))))
noncomputable def dr (R:am) (x1:Int) (x3:ParseParser):Option (PX ParseWrong ((List ApiNode) × ParseParser)):=(a4 ([41]:List UInt8) x3).bind fun(x4,x5)=>(if x4=true then some (.ok ([],x5))else iter (fun s=>ej R x1 s.1 s.2) (x5,[]))
noncomputable def rec_parse_parser_expression_step (R:am):am:=((fun x1 x2 x4=>dm R x1 x2 x4),(fun x1 x3=>fb R x1 x3),(fun x1 x3=>eh R x1 x3),(fun x1 x3=>dr R x1 x3))
noncomputable def bz (n:Nat):am:=Nat.rec (motive:=fun _=>am) ((fun x1 x2 x4=>none),(fun x1 x3=>none),(fun x1 x3=>none),(fun x1 x3=>none)) (fun _ R=>rec_parse_parser_expression_step R) n
noncomputable def ce (x1 x2:Int) (x4:ParseParser):Option (PX ParseWrong (ApiNode × ParseParser)):=(bz 1048576).1 x1 x2 x4
noncomputable def iw (x16:ParseParser) (x19:ApiNode):Option (PX ParseWrong (ApiNode × ParseParser)):=some (.ok (x19,x16))
noncomputable def fa (x1:Int) (x3:ParseParser):Option (PX ParseWrong (ApiNode × ParseParser)):=(bm (ed x1 x3) (fun m25=>some (.bad m25)) fun x5=>(bm (ec x5) (fun m24=>some (.bad m24)) fun(x6,x7)=>(bm (ca x7) (fun m23=>some (.bad m23)) fun(x9,x10)=>(bm (ay ([61]:List UInt8) x10) (fun m22=>some (.bad m22)) fun x12=>(bm (ce (w64 (x1+1)) 0 x12) (fun m21=>some (.bad m21)) fun(x13,x14)=>(bm (ay ([59]:List UInt8) x14) (fun m20=>some (.bad m20)) fun x16=>(parse_parser_made x16 6 x5.at_ ([x13]:List ApiNode)).bind fun x17=>(dn x17 x9).bind fun x18=>(i2 x18 x6).bind fun x19=>iw x16 x19))))))
noncomputable def parse_begun:Option ((SMap (Option Nat))):=some (mset ([112,114,105,110,116]:List UInt8) (some 84) (mset ([114,101,116,117,114,110]:List UInt8) (some 83) (mset ([119,104,105,108,101]:List UInt8) (some 82) (mset ([105,102]:List UInt8) (some 81) (mset ([123]:List UInt8) (some 52) ([]:SMap (Option Nat)))))))
noncomputable def fx (x3:ParseParser) (x16:Int) (x18:ParseParser) (x19:List ApiNode):Option (PX ParseWrong (ApiNode × ParseParser)):=(bm (ay ([59]:List UInt8) x18) (fun m22=>some (.bad m22)) fun x20=>(parse_parser_made x20 x16 x3.at_ x19).bind fun x21=>some (.ok (x21,x20)))
noncomputable def f7 (x1:Int) (x3:ParseParser):Option (PX ParseWrong (ApiNode × ParseParser)):=(bm (ce (w64 (x1+1)) 0 x3) (fun m23=>some (.bad m23)) fun(x5,x6)=>(a4 ([61]:List UInt8) x6).bind fun(x8,x9)=>(if x8=true then(bm (ce (w64 (x1+1)) 0 x9) (fun m15=>some (.bad m15)) fun(x11,x12)=>(app 104 ([x5]:List ApiNode) ([x11]:List ApiNode)).bind fun x13=>fx x3 7 x12 x13)else fx x3 8 x9 ([x5]:List ApiNode)))
noncomputable def gq (x1:Int) (x3:ParseParser):Option (PX ParseWrong (ApiNode × ParseParser)):=(bm (ay ([114,101,116,117,114,110]:List UInt8) x3) (fun m17=>some (.bad m17)) fun x5=>(a4 ([59]:List UInt8) x5).bind fun(x6,x7)=>(if x6=true then(parse_parser_made x7 11 x3.at_ []).bind fun x9=>some (.ok (x9,x7))else(bm (ce (w64 (x1+1)) 0 x7) (fun m16=>some (.bad m16)) fun(x10,x11)=>(bm (ay ([59]:List UInt8) x11) (fun m15=>some (.bad m15)) fun x13=>(parse_parser_made x13 11 x3.at_ ([x10]:List ApiNode)).bind fun x14=>some (.ok (x14,x13))))))
noncomputable def cz (x1:Int) (x3:ParseParser):Option (PX ParseWrong (ApiNode × ParseParser)):=(bm (ay ([40]:List UInt8) x3) (fun m12=>some (.bad m12)) fun x5=>(bm (ce x1 0 x5) (fun m11=>some (.bad m11)) fun(x6,x7)=>(bm (ay ([41]:List UInt8) x7) (fun m10=>some (.bad m10)) fun x9=>some (.ok (x6,x9)))))
noncomputable def gp (x1:Int) (x3:ParseParser):Option (PX ParseWrong (ApiNode × ParseParser)):=(bm (ay ([112,114,105,110,116]:List UInt8) x3) (fun m13=>some (.bad m13)) fun x5=>(bm (cz (w64 (x1+1)) x5) (fun m12=>some (.bad m12)) fun(x6,x7)=>(bm (ay ([59]:List UInt8) x7) (fun m11=>some (.bad m11)) fun x9=>(parse_parser_made x9 12 x3.at_ ([x6]:List ApiNode)).bind fun x10=>some (.ok (x10,x9)))))
abbrev aw :Type:=(Int->ParseParser->Option (PX ParseWrong (ApiNode × ParseParser))) × (Int->ParseParser->Option (PX ParseWrong (ApiNode × ParseParser))) × (Int->ParseParser->Option (PX ParseWrong (ApiNode × ParseParser))) × (Int->ParseParser->Option (PX ParseWrong (ApiNode × ParseParser)))
noncomputable def iy (R:aw) (x3 x13:ParseParser) (x8:List ApiNode):Option (PX ParseWrong (ApiNode × ParseParser)):=(parse_parser_made x13 5 x3.at_ x8).bind fun x27=>some (.ok (x27,x13))
noncomputable def f1 (R:aw) (x1:Int) (x7:ParseParser) (x8:List ApiNode):Option ((ParseParser × (List ApiNode)) ⊕ (Flow (ParseParser × (List ApiNode)) (PX ParseWrong (ApiNode × ParseParser)))):=(a4 ([125]:List UInt8) x7).bind fun(x12,x13)=>(if(!x12)=true then(cp x13).bind fun x15=>(if x15=true then(bm (fa (w64 (x1+1)) x13) (fun m21=>some (.inr (.done (.bad m21)))) fun(x17,x18)=>(app 104 x8 ([x17]:List ApiNode)).bind fun x19=>some (.inl (x18,x19)))else(bm (R.2.1 (w64 (x1+1)) x13) (fun m26=>some (.inr (.done (.bad m26)))) fun(x22,x23)=>(app 104 x8 ([x22]:List ApiNode)).bind fun x24=>some (.inl (x23,x24))))else some (.inr (.next (x13,x8))))
noncomputable def fc (R:aw) (x1:Int) (x3:ParseParser):Option (PX ParseWrong (ApiNode × ParseParser)):=(bm (ay ([123]:List UInt8) x3) (fun m29=>some (.bad m29)) fun x5=>(iter (fun s=>f1 R x1 s.1 s.2) (x5,[])).bind fun z=>match z with| .next p=>iy R x3 p.1 p.2| .done r=>some r)
noncomputable def dk (R:aw) (x6:ApiToken) (x8:SMap (Option Nat)) (x1:Int) (x5:ParseParser) (x10:Bool):Option (PX ParseWrong (ApiNode × ParseParser)):=(if x10=true then(if decide ((mget x6.Text none x8)=some 52)=true then(bm (R.1 x1 x5) (fun m15=>some (.bad m15)) fun(x13,x14)=>some (.ok (x13,x14)))else(if decide ((mget x6.Text none x8)=some 81)=true then(bm (R.2.2.1 x1 x5) (fun m19=>some (.bad m19)) fun(x17,x18)=>some (.ok (x17,x18)))else(if decide ((mget x6.Text none x8)=some 82)=true then(bm (R.2.2.2 x1 x5) (fun m23=>some (.bad m23)) fun(x21,x22)=>some (.ok (x21,x22)))else(if decide ((mget x6.Text none x8)=some 83)=true then(bm (gq x1 x5) (fun m27=>some (.bad m27)) fun(x25,x26)=>some (.ok (x25,x26)))else(if decide ((mget x6.Text none x8)=some 84)=true then(bm (gp x1 x5) (fun m31=>some (.bad m31)) fun(x29,x30)=>some (.ok (x29,x30)))else none)))))else(bm (f7 x1 x5) (fun m34=>some (.bad m34)) fun(x32,x33)=>some (.ok (x32,x33))))
noncomputable def cu (R:aw) (x6:ApiToken) (x1:Int) (x5:ParseParser) (x8:SMap (Option Nat)):Option (PX ParseWrong (ApiNode × ParseParser)):=(if(mhas x6.Text x8)=true then dk R x6 x8 x1 x5 (x6.Kind != 1)else dk R x6 x8 x1 x5 false)
noncomputable def dq (R:aw) (x1:Int) (x3:ParseParser):Option (PX ParseWrong (ApiNode × ParseParser)):=(bm (ed x1 x3) (fun m35=>some (.bad m35)) fun x5=>(bb x5).bind fun x6=>(parse_begun).bind fun x8=>cu R x6 x1 x5 x8)
noncomputable def fj (R:aw) (x3 x22:ParseParser) (x23:List ApiNode):Option (PX ParseWrong (ApiNode × ParseParser)):=(parse_parser_made x22 9 x3.at_ x23).bind fun x24=>some (.ok (x24,x22))
noncomputable def ew (R:aw) (x1:Int) (x3:ParseParser):Option (PX ParseWrong (ApiNode × ParseParser)):=(bm (ay ([105,102]:List UInt8) x3) (fun m27=>some (.bad m27)) fun x5=>(bm (cz (w64 (x1+1)) x5) (fun m26=>some (.bad m26)) fun(x6,x7)=>(bm (R.2.1 (w64 (x1+1)) x7) (fun m25=>some (.bad m25)) fun(x9,x10)=>(app 104 ([x6]:List ApiNode) ([x9]:List ApiNode)).bind fun x11=>(a4 ([101,108,115,101]:List UInt8) x10).bind fun(x13,x14)=>(if x13=true then(bm (R.2.1 (w64 (x1+1)) x14) (fun m20=>some (.bad m20)) fun(x16,x17)=>(app 104 x11 ([x16]:List ApiNode)).bind fun x18=>fj R x3 x17 x18)else fj R x3 x14 x11))))
noncomputable def fq (R:aw) (x1:Int) (x3:ParseParser):Option (PX ParseWrong (ApiNode × ParseParser)):=(bm (ay ([119,104,105,108,101]:List UInt8) x3) (fun m15=>some (.bad m15)) fun x5=>(bm (cz (w64 (x1+1)) x5) (fun m14=>some (.bad m14)) fun(x6,x7)=>(bm (R.2.1 (w64 (x1+1)) x7) (fun m13=>some (.bad m13)) fun(x9,x10)=>(parse_parser_made x10 10 x3.at_ ([x6,x9]:List ApiNode)).bind fun x12=>some (.ok (x12,x10)))))
noncomputable def rec_parse_parser_block_step (R:aw):aw:=((fun x1 x3=>fc R x1 x3),(fun x1 x3=>dq R x1 x3),(fun x1 x3=>ew R x1 x3),(fun x1 x3=>fq R x1 x3))
noncomputable def cf (n:Nat):aw:=Nat.rec (motive:=fun _=>aw) ((fun x1 x3=>none),(fun x1 x3=>none),(fun x1 x3=>none),(fun x1 x3=>none)) (fun _ R=>rec_parse_parser_block_step R) n
noncomputable def j1 (x1:Int) (x3:ParseParser):Option (PX ParseWrong (ApiNode × ParseParser)):=(cf 1048576).1 x1 x3
noncomputable def parse_parser_statement (x1:Int) (x3:ParseParser):Option (PX ParseWrong (ApiNode × ParseParser)):=(cf 1048576).2.1 x1 x3
noncomputable def ic (x39:ParseParser) (x44:ApiNode):Option (PX ParseWrong (ApiNode × ParseParser)):=some (.ok (x44,x39))
noncomputable def fi (x15 x12:ApiToken) (x39:ParseParser) (x42:ApiNode):Option (PX ParseWrong (ApiNode × ParseParser)):=(dn x42 x15).bind fun x43=>(i2 x43 x12).bind fun x44=>ic x39 x44
noncomputable def cy (x4:Bool) (x15 x12:ApiToken) (x39:ParseParser) (x40:ApiNode):Option (PX ParseWrong (ApiNode × ParseParser)):=(if x4=true then fi x15 x12 x39 ({x40 with N:=1})else fi x15 x12 x39 x40)
noncomputable def bt (x2:ParseParser) (x4:Bool) (x11:ParseParser):Option (PX ParseWrong (ApiNode × ParseParser)):=(cg x11).bind fun(x12,x13)=>(bm (ca x13) (fun m45=>some (.bad m45)) fun(x15,x16)=>(a4 ([40]:List UInt8) x16).bind fun(x19,x20)=>(if x19=true then(bm (fm x20) (fun m31=>some (.bad m31)) fun(x22,x23)=>(bm (j1 1 x23) (fun m30=>some (.bad m30)) fun(x25,x26)=>(app 104 x22 ([x25]:List ApiNode)).bind fun x27=>(parse_parser_made x26 3 x2.at_ x27).bind fun x29=>cy x4 x15 x12 x26 x29))else(jh x12 ([118,111,105,100]:List UInt8)).bind fun x32=>(if x32=true then(bm (bn 120 x20) (fun m35=>some (.bad m35)) fun x34=>cy x4 x15 x12 x34 (ApiNode.mk 0 [] [] 0 0 0 0 0 []))else(bm (ay ([59]:List UInt8) x20) (fun m38=>some (.bad m38)) fun x36=>(parse_parser_made x36 2 x2.at_ []).bind fun x37=>cy x4 x15 x12 x36 x37))))
noncomputable def bq (x2:ParseParser):Option (PX ParseWrong (ApiNode × ParseParser)):=(a4 ([115,116,97,116,105,99]:List UInt8) x2).bind fun(x4,x5)=>(bb x5).bind fun x6=>(io x6).bind fun x7=>(if(!x7)=true then(bm (bn 120 x5) (fun m10=>some (.bad m10)) fun x9=>bt x2 x4 x9)else bt x2 x4 x5)
noncomputable def ev (x25:ParseParser) (x37:ApiNode):Option (PX ParseWrong (ApiNode × ParseParser)):=some (.ok (x37,x25))
noncomputable def f0 (x9:Bool) (x16:ApiToken) (x25:ParseParser) (x33:ApiNode):Option (PX ParseWrong (ApiNode × ParseParser)):=(if x9=true then(i2 x33 x16).bind fun x36=>ev x25 x36 else ev x25 x33)
noncomputable def fy (x2:ParseParser) (x5:ApiToken) (x9:Bool) (x16:ApiToken) (x25:ParseParser) (x20:List ApiNode):Option (PX ParseWrong (ApiNode × ParseParser)):=(parse_parser_made x25 1 x2.at_ x20).bind fun x32=>(dn x32 x5).bind fun x33=>f0 x9 x16 x25 x33
noncomputable def bx (x19:ParseParser) (x20:List ApiNode):Option ((ParseParser × (List ApiNode)) ⊕ (Flow (ParseParser × (List ApiNode)) (PX ParseWrong (ApiNode × ParseParser)))):=(a4 ([125]:List UInt8) x19).bind fun(x24,x25)=>(if(!x24)=true then(bm (bq x25) (fun m31=>some (.inr (.done (.bad m31)))) fun(x27,x28)=>(app 104 x20 ([x27]:List ApiNode)).bind fun x29=>some (.inl (x28,x29)))else some (.inr (.next (x25,x20))))
noncomputable def dc (x2:ParseParser) (x5:ApiToken) (x9:Bool) (x15:ParseParser) (x16:ApiToken):Option (PX ParseWrong (ApiNode × ParseParser)):=(bm (ay ([123]:List UInt8) x15) (fun m39=>some (.bad m39)) fun x17=>(iter (fun s=>bx s.1 s.2) (x17,[])).bind fun z=>match z with| .next p=>fy x2 x5 x9 x16 p.1 p.2| .done r=>some r)
noncomputable def ee (x2:ParseParser):Option (PX ParseWrong (ApiNode × ParseParser)):=(bm (ay ([99,108,97,115,115]:List UInt8) x2) (fun m41=>some (.bad m41)) fun x4=>(bm (ca x4) (fun m40=>some (.bad m40)) fun(x5,x6)=>(a4 ([101,120,116,101,110,100,115]:List UInt8) x6).bind fun(x9,x10)=>(if x9=true then(bm (ca x10) (fun m14=>some (.bad m14)) fun(x12,x13)=>dc x2 x5 x9 x13 x12)else dc x2 x5 x9 x10 (ApiToken.mk 0 [] 0 []))))
noncomputable def jc (x4:ParseParser) (x5:List ApiNode):Option (PX ParseWrong ((List ApiNode) × ParseParser)):=some (.ok (x5,x4))
noncomputable def au (x4:ParseParser) (x5:List ApiNode):Option ((ParseParser × (List ApiNode)) ⊕ (Flow (ParseParser × (List ApiNode)) (PX ParseWrong ((List ApiNode) × ParseParser)))):=(bb x4).bind fun x9=>(if(x9.Kind != 5)=true then(bm (ee x4) (fun m15=>some (.inr (.done (.bad m15)))) fun(x11,x12)=>(app 104 x5 ([x11]:List ApiNode)).bind fun x13=>some (.inl (x12,x13)))else some (.inr (.next (x4,x5))))
noncomputable def ip (x2:ParseParser):Option (PX ParseWrong ((List ApiNode) × ParseParser)):=(iter (fun s=>au s.1 s.2) (x2,[])).bind fun z=>match z with| .next p=>jc p.1 p.2| .done r=>some r
noncomputable def k7 (x1:Int) (x3:ParseParser):Option (PX ParseWrong (ApiNode × ParseParser)):=(cp x3).bind fun x5=>(if x5=true then(bm (fa x1 x3) (fun m9=>some (.bad m9)) fun(x7,x8)=>some (.ok (x7,x8)))else(bm (parse_parser_statement x1 x3) (fun m12=>some (.bad m12)) fun(x10,x11)=>some (.ok (x10,x11))))
noncomputable def parse_Expression_1 (x2:ParseParser):Option (PX ParseWrong (ApiNode × ParseParser)):=(bm (ce 1 0 x2) (fun m6=>some (.bad m6)) fun(x4,x5)=>some (.ok (x4,x5)))
noncomputable def parse_Statement_1 (x2:ParseParser):Option (PX ParseWrong (ApiNode × ParseParser)):=(bm (k7 1 x2) (fun m6=>some (.bad m6)) fun(x4,x5)=>some (.ok (x4,x5)))
noncomputable def parse_run_k1 (x10:List ApiNode):Option (PX ParseWrong ((List ApiNode) × ApiMistake)):=some (.ok (x10,(ApiMistake.mk 0 0 0)))
noncomputable def parse_run_j3 (x26:ApiNode):Option ((Int) ⊕ (Flow Unit (PX ParseWrong ((List ApiNode) × ApiMistake)))):=some (.inr (.done (.ok ([],(ApiMistake.mk 2 0 x26.From)))))
noncomputable def parse_run_j4 (x26:ApiNode):Option ((Int) ⊕ (Flow Unit (PX ParseWrong ((List ApiNode) × ApiMistake)))):=parse_run_j3 x26
noncomputable def jd (x10:List ApiNode) (x5:List ApiToken) (x17:Int):Option ((Int) ⊕ (Flow Unit (PX ParseWrong ((List ApiNode) × ApiMistake)))):=(if(decide (x17<(x10.length:Int)))=true then(idx x10 x17).bind fun x20=>(node_Depth x20).bind fun x22=>(if(decide (x22>200))=true then(if(x20.Kind != 1)=true then(idx x5 0).bind fun x25=>parse_run_j4 ({x20 with From:=x25.At})else parse_run_j4 x20)else some (.inl (w64 (x17+1))))else some (.inr (.next ())))
noncomputable def gi (x10:List ApiNode) (x5:List ApiToken) (x16:ParseParser):Option (PX ParseWrong ((List ApiNode) × ApiMistake)):=(iter (fun s=>jd x10 x5 s) 0).bind fun z=>match z with| .next p=>parse_run_k1 x10| .done r=>some r
noncomputable def parse_runQ (F:(ParseParser->Option (PX ParseWrong ((List ApiNode) × ParseParser)))) (x1:List UInt8):Option (PX ParseWrong ((List ApiNode) × ApiMistake)):=(lex_Lex x1).bind fun(x5,x6,x7)=>(if(x7 != 0)=true then some (.ok ([],(ApiMistake.mk x7 0 x6)))else(bm (F (ParseParser.mk x5 0)) (fun m27=>some (.bad m27)) fun(x10,x11)=>(bb x11).bind fun x12=>(if(x12.Kind != 5)=true then(bm (bn 120 x11) (fun m15=>some (.bad m15)) fun x14=>gi x10 x5 x14)else gi x10 x5 x11)))
noncomputable def parse_run (F:(ParseParser->Option (PX ParseWrong ((List ApiNode) × ParseParser)))) (x1:List UInt8):Option (List ApiNode × ApiMistake):=(parse_runQ F x1).bind fun x=>match x with| .ok a=>some a| .bad m=>some ([],m.m)
noncomputable def parse_one_1 (x1:Option Nat) (x3:ParseParser):Option (PX ParseWrong ((List ApiNode) × ParseParser)):=(if decide (x1=some 31)=true then(bm (bq x3) (fun m7=>some (.bad m7)) fun(x5,x6)=>some (.ok (([x5]:List ApiNode),x6)))else(if decide (x1=some 32)=true then(bm (parse_Expression_1 x3) (fun m11=>some (.bad m11)) fun(x9,x10)=>some (.ok (([x9]:List ApiNode),x10)))else(if decide (x1=some 34)=true then(bm (parse_Statement_1 x3) (fun m15=>some (.bad m15)) fun(x13,x14)=>some (.ok (([x13]:List ApiNode),x14)))else none)))
noncomputable def parse_one_j1 (x7:ApiMistake):Option (ApiNode × ApiMistake):=some ((ApiNode.mk 0 [] [] 0 0 0 0 0 []),x7)
noncomputable def parse_one_j2 (x7:ApiMistake) (x10:ApiNode):Option (ApiNode × ApiMistake):=some (x10,x7)
noncomputable def parse_one (x1:List UInt8) (x2:Option Nat):Option (ApiNode × ApiMistake):=(parse_run (fun p=>parse_one_1 x2 p) x1).bind fun(x6,x7)=>(if(x7.Code != 0)=true then parse_one_j1 x7 else(idx x6 0).bind fun x10=>parse_one_j2 x7 x10)
noncomputable def j6 (x1:List UInt8):Option (ApiNode × ApiMistake):=(parse_one x1 (some 31)).bind fun(x4,x5)=>some (x4,x5)
noncomputable def parse_Expression (x1:List UInt8):Option (ApiNode × ApiMistake):=(parse_one x1 (some 32)).bind fun(x4,x5)=>some (x4,x5)
noncomputable def parse_Statement (x1:List UInt8):Option (ApiNode × ApiMistake):=(parse_one x1 (some 34)).bind fun(x4,x5)=>some (x4,x5)
noncomputable def eq (x1:List UInt8):Option ((List ApiNode) × ApiMistake):=(parse_run (fun p=>ip p) x1).bind fun(x3,x4)=>some (x3,x4)
noncomputable def co (x8234:Bool):Option (Bool):=some x8234
noncomputable def law12_awake:Option (Bool):=(parse_Expression ([97,46,98,40,49,41,43,99,42,45,50]:List UInt8)).bind fun(x1,x2)=>(eq ([99,108,97,115,115,32,65,32,123,32,105,110,116,32,102,32,125]:List UInt8)).bind fun(x5,x6)=>(eq ([99,108,97,115,115,32,65,32,123,32,105,110,116,32,102,59,32,125]:List UInt8)).bind fun(x8,x9)=>(parse_Statement ([120,32,61,32,49,59]:List UInt8)).bind fun(x11,x12)=>(j6 ([115,116,97,116,105,99,32,105,110,116,32,102,40,41,32,123,32,114,101,116,117,114,110,32,49,59,32,125]:List UInt8)).bind fun(x15,x16)=>(if(x2.Code==0)=true then(if(x1.Kind==24)=true then(if(x1.Text==([43]:List UInt8))=true then(if((x1.Kids.length:Int)==2)=true then(idx x1.Kids 0).bind fun x23=>(if(x23.Kind==20)=true then(idx x1.Kids 1).bind fun x25=>(if(x25.Text==([42]:List UInt8))=true then(if(x6.Code==120)=true then(if(x6.At==16)=true then(if(x9.Code==0)=true then(if((x8.length:Int)==1)=true then(if(x12.Code==0)=true then(if(x11.Kind==7)=true then(if(x16.Code==0)=true then co (x15.N==1)else co false)else co false)else co false)else co false)else co false)else co false)else co false)else co false)else co false)else co false)else co false)else co false)else co false)
noncomputable def law12_short (x1:List UInt8):Option (Bool):=some (decide ((x1.length:Int)<=2500))
noncomputable def ez (x13:Bool):Option (Bool):=some x13
noncomputable def j5 (x1:Int):Option (Bool):=(if(decide (x1≥97))=true then(if(decide (x1<=122))=true then ez true else(if(decide (x1≥65))=true then(if(decide (x1<=90))=true then ez true else ez (x1==95))else ez (x1==95)))else(if(decide (x1≥65))=true then(if(decide (x1<=90))=true then ez true else ez (x1==95))else ez (x1==95)))
noncomputable def ref03_digit_j1 (x3:Bool):Option (Bool):=some x3
noncomputable def ref03_digit (x1:Int):Option (Bool):=(if(decide (x1≥48))=true then ref03_digit_j1 (decide (x1<=57))else ref03_digit_j1 false)
noncomputable def ref03_Kept_k1:Option (Bool):=some false
noncomputable def kh (x1:List UInt8) (x2:Int):Option ((Int) ⊕ (Flow Unit Bool)):=(if(decide (x2<(([([99,108,97,115,115]:List UInt8),([101,120,116,101,110,100,115]:List UInt8),([115,116,97,116,105,99]:List UInt8),([118,111,105,100]:List UInt8),([105,110,116]:List UInt8),([98,111,111,108,101,97,110]:List UInt8),([105,102]:List UInt8),([101,108,115,101]:List UInt8),([119,104,105,108,101]:List UInt8),([114,101,116,117,114,110]:List UInt8),([112,114,105,110,116]:List UInt8),([116,114,117,101]:List UInt8),([102,97,108,115,101]:List UInt8),([110,117,108,108]:List UInt8),([116,104,105,115]:List UInt8),([110,101,119]:List UInt8)]:List (List UInt8)).length:Int)))=true then(idx ([([99,108,97,115,115]:List UInt8),([101,120,116,101,110,100,115]:List UInt8),([115,116,97,116,105,99]:List UInt8),([118,111,105,100]:List UInt8),([105,110,116]:List UInt8),([98,111,111,108,101,97,110]:List UInt8),([105,102]:List UInt8),([101,108,115,101]:List UInt8),([119,104,105,108,101]:List UInt8),([114,101,116,117,114,110]:List UInt8),([112,114,105,110,116]:List UInt8),([116,114,117,101]:List UInt8),([102,97,108,115,101]:List UInt8),([110,117,108,108]:List UInt8),([116,104,105,115]:List UInt8),([110,101,119]:List UInt8)]:List (List UInt8)) x2).bind fun x5=>(if(x5==x1)=true then some (.inr (.done true))else some (.inl (w64 (x2+1))))else some (.inr (.next ())))
noncomputable def ref03_Kept (x1:List UInt8):Option (Bool):=(iter (fun s=>kh x1 s) 0).bind fun z=>match z with| .next p=>ref03_Kept_k1| .done r=>some r
noncomputable def ref03_Name_k1 (x1:List UInt8):Option (Bool):=(ref03_Kept x1).bind fun x21=>some (!x21)
noncomputable def ref03_Name_j3 (x11:Int) (x19:Bool):Option ((Int) ⊕ (Flow Unit Bool)):=(if x19=true then some (.inr (.done false))else some (.inl (w64 (x11+1))))
noncomputable def jj (x1:List UInt8) (x11:Int):Option ((Int) ⊕ (Flow Unit Bool)):=(if(decide (x11<(x1.length:Int)))=true then(idxS x1 x11).bind fun x14=>(j5 x14).bind fun x15=>(if(!x15)=true then(idxS x1 x11).bind fun x17=>(ref03_digit x17).bind fun x18=>ref03_Name_j3 x11 (!x18)else ref03_Name_j3 x11 false)else some (.inr (.next ())))
noncomputable def kg (x1:List UInt8) (x9:Bool):Option (Bool):=(if x9=true then some false else(iter (fun s=>jj x1 s) 0).bind fun z=>match z with| .next p=>ref03_Name_k1 x1| .done r=>some r)
noncomputable def ref03_Name (x1:List UInt8):Option (Bool):=(if(decide ((x1.length:Int)<1))=true then kg x1 true else(if(decide ((x1.length:Int)>20))=true then kg x1 true else(idxS x1 0).bind fun x4=>(j5 x4).bind fun x5=>kg x1 (!x5)))
abbrev db :Type:=(ApiNode->ApiNode->Option (Bool))
noncomputable def ref11_Exact_k1 (R:db):Option (Bool):=some true
noncomputable def ref11_Exact_j3 (R:db) (x262:Int) (x267:Bool):Option ((Int) ⊕ (Flow Unit Bool)):=(if(!x267)=true then some (.inr (.done false))else some (.inl (w64 (x262+1))))
noncomputable def jr (R:db) (x1 x2:ApiNode) (x262:Int):Option ((Int) ⊕ (Flow Unit Bool)):=(if(decide (x262<(x1.Kids.length:Int)))=true then(idx x1.Kids x262).bind fun x265=>(idx x2.Kids x262).bind fun x266=>(R x265 x266).bind fun x267=>ref11_Exact_j3 R x262 x267 else some (.inr (.next ())))
noncomputable def dy (R:db) (x1 x2:ApiNode) (x260:Bool):Option (Bool):=(if x260=true then some false else(iter (fun s=>jr R x1 x2 s) 0).bind fun z=>match z with| .next p=>ref11_Exact_k1 R| .done r=>some r)
noncomputable def F_ref11_Exact (R:db) (x1 x2:ApiNode):Option (Bool):=(if(x1.From != x2.From)=true then dy R x1 x2 true else(if(x1.To != x2.To)=true then dy R x1 x2 true else(if(x1.At != x2.At)=true then dy R x1 x2 true else(if(x1.TypeAt != x2.TypeAt)=true then dy R x1 x2 true else(if(x1.Kind != x2.Kind)=true then dy R x1 x2 true else(if(!(x1.Text==x2.Text))=true then dy R x1 x2 true else(if(!(x1.Type_==x2.Type_))=true then dy R x1 x2 true else(if(x1.N != x2.N)=true then dy R x1 x2 true else dy R x1 x2 ((x1.Kids.length:Int) != (x2.Kids.length:Int))))))))))
noncomputable def rec_ref11_Exact_step (R:db):db:=(fun x1 x2=>F_ref11_Exact R x1 x2)
noncomputable def f4 (n:Nat):db:=Nat.rec (motive:=fun _=>db) (fun x1 x2=>none) (fun _ R=>rec_ref11_Exact_step R) n
noncomputable def ref11_Exact (x1 x2:ApiNode):Option (Bool):=(f4 1048576) x1 x2
abbrev d6 :Type:=(ApiNode->Option (Int))
noncomputable def ref11_Depth_k1 (R:d6) (x3:Int):Option (Int):=some (w64 (x3+1))
noncomputable def js (R:d6) (x1:ApiNode) (x3 x4:Int):Option ((Int × Int) ⊕ (Int)):=(if(decide (x4<(x1.Kids.length:Int)))=true then(idx x1.Kids x4).bind fun x8=>(R x8).bind fun x9=>some (.inl ((if x9>x3 then x9 else x3),w64 (x4+1)))else some (.inr x3))
noncomputable def F_ref11_Depth (R:d6) (x1:ApiNode):Option (Int):=(iter (fun s=>js R x1 s.1 s.2) (0,0)).bind fun p=>ref11_Depth_k1 R p
noncomputable def rec_ref11_Depth_step (R:d6):d6:=(fun x1=>F_ref11_Depth R x1)
noncomputable def f6 (n:Nat):d6:=Nat.rec (motive:=fun _=>d6) (fun x1=>none) (fun _ R=>rec_ref11_Depth_step R) n
noncomputable def ref11_Depth (x1:ApiNode):Option (Int):=(f6 1048576) x1
abbrev da :Type:=(ApiNode->Int->Option (ApiNode))
noncomputable def ks (R:da) (x19:ApiNode):Option (ApiNode):=some x19
noncomputable def kr (R:da) (x2:Int) (x17:ApiNode):Option (ApiNode):=(if(decide (x17.TypeAt≥0))=true then ks R ({x17 with TypeAt:=w64 (x17.TypeAt+x2)})else ks R x17)
noncomputable def ref11_Shift_k3 (R:da) (x1:ApiNode) (x2:Int) (x7:List ApiNode):Option (ApiNode):=(if(decide ((({{{x1 with Kids:=x7} with From:=w64 ((({x1 with Kids:=x7}).From)+x2)} with To:=w64 ((({{x1 with Kids:=x7} with From:=w64 ((({x1 with Kids:=x7}).From)+x2)}).To)+x2)}).At)≥0))=true then kr R x2 ({{{{x1 with Kids:=x7} with From:=w64 ((({x1 with Kids:=x7}).From)+x2)} with To:=w64 ((({{x1 with Kids:=x7} with From:=w64 ((({x1 with Kids:=x7}).From)+x2)}).To)+x2)} with At:=w64 ((({{{x1 with Kids:=x7} with From:=w64 ((({x1 with Kids:=x7}).From)+x2)} with To:=w64 ((({{x1 with Kids:=x7} with From:=w64 ((({x1 with Kids:=x7}).From)+x2)}).To)+x2)}).At)+x2)})else kr R x2 ({{{x1 with Kids:=x7} with From:=w64 ((({x1 with Kids:=x7}).From)+x2)} with To:=w64 ((({{x1 with Kids:=x7} with From:=w64 ((({x1 with Kids:=x7}).From)+x2)}).To)+x2)}))
noncomputable def jq (R:da) (x1:ApiNode) (x2 x6:Int) (x7:List ApiNode):Option ((Int × (List ApiNode)) ⊕ ((List ApiNode))):=(if(decide (x6<(x1.Kids.length:Int)))=true then(idx x1.Kids x6).bind fun x12=>(R x12 x2).bind fun x13=>(app 104 x7 ([x13]:List ApiNode)).bind fun x14=>some (.inl (w64 (x6+1),x14))else some (.inr x7))
noncomputable def F_ref11_Shift (R:da) (x1:ApiNode) (x2:Int):Option (ApiNode):=(iter (fun s=>jq R x1 x2 s.1 s.2) (0,[])).bind fun p=>ref11_Shift_k3 R x1 x2 p
noncomputable def rec_ref11_Shift_step (R:da):da:=(fun x1 x2=>F_ref11_Shift R x1 x2)
noncomputable def f3 (n:Nat):da:=Nat.rec (motive:=fun _=>da) (fun x1 x2=>none) (fun _ R=>rec_ref11_Shift_step R) n
noncomputable def ref11_Shift (x1:ApiNode) (x2:Int):Option (ApiNode):=(f3 1048576) x1 x2
noncomputable def eo (x78:Bool):Option (Bool):=some x78
noncomputable def fp (x3 x1:List UInt8):Option (Bool):=(cat ([99,108,97,115,115,32]:List UInt8) x3).bind fun x39=>(cat x39 ([123]:List UInt8)).bind fun x40=>(j6 x1).bind fun(x41,x42)=>(cat x40 x1).bind fun x45=>(cat x45 ([10,125]:List UInt8)).bind fun x46=>(eq x46).bind fun(x47,x48)=>(if(x42.Code != 0)=true then some true else(ref11_Depth x41).bind fun x51=>(if(decide (x51≥200))=true then eo true else(if(x48.Code==0)=true then(if((x47.length:Int)==1)=true then(idx x47 0).bind fun x55=>(if((x55.Kids.length:Int)==1)=true then(idx x47 0).bind fun x57=>(idx x57.Kids 0).bind fun x58=>(ref11_Shift x41 (x40.length:Int)).bind fun x59=>(ref11_Exact x58 x59).bind fun x60=>eo x60 else eo false)else eo false)else eo false)))
noncomputable def jl (x3 x1:List UInt8):Option (Bool):=fp x3 x1
noncomputable def jm (x32:Int) (x37:Bool):Option ((Int) ⊕ (Flow Unit Bool)):=(if(!x37)=true then some (.inr (.done false))else some (.inl (w64 (x32+1))))
noncomputable def en (x15 x23:List ApiNode) (x32:Int):Option ((Int) ⊕ (Flow Unit Bool)):=(if(decide (x32<(x15.length:Int)))=true then(idx x23 x32).bind fun x35=>(idx x15 x32).bind fun x36=>(ref11_Exact x35 x36).bind fun x37=>jm x32 x37 else some (.inr (.next ())))
noncomputable def gy (x15 x23:List ApiNode) (x3 x1:List UInt8) (x30:Bool):Option (Bool):=(if x30=true then some false else(iter (fun s=>en x15 x23 s) 0).bind fun z=>match z with| .next p=>jl x3 x1| .done r=>some r)
noncomputable def gx (x24:ApiMistake) (x15 x23:List ApiNode) (x3 x1:List UInt8) (x18:List ApiNode) (x27:Bool):Option (Bool):=(if x27=true then(if(x24.Code != 0)=true then gy x15 x23 x3 x1 true else gy x15 x23 x3 x1 ((x23.length:Int) != (w64 ((x15.length:Int)+(x18.length:Int)))))else fp x3 x1)
noncomputable def fo (x1 x2 x3:List UInt8) (x13:Bool):Option (Bool):=(if x13=true then some true else(eq x1).bind fun(x15,x16)=>(eq x2).bind fun(x18,x19)=>(cat x1 ([10]:List UInt8)).bind fun x21=>(cat x21 x2).bind fun x22=>(eq x22).bind fun(x23,x24)=>(if(x16.Code==0)=true then gx x24 x15 x23 x3 x1 x18 (x19.Code==0)else gx x24 x15 x23 x3 x1 x18 false))
noncomputable def k5 (x1 x2 x3:List UInt8):Option (Bool):=(law12_awake).bind fun x4=>(if(!x4)=true then some false else(law12_short x1).bind fun x6=>(law12_short x2).bind fun x7=>(if(!x6)=true then fo x1 x2 x3 true else(if(!x7)=true then fo x1 x2 x3 true else(ref03_Name x3).bind fun x10=>fo x1 x2 x3 (!x10))))
end Go.Proofs.YtackaijkmkollaaGreatDoor
