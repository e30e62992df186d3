/- The data of the program, and its functions over plain data (printed by wip/gen/gen.py). -/
import Derived.Lib.Index
import Derived.Lib.Bytealg
import Derived.Lib.ParseIntB
import Derived.Test.YtackaijkmkollaaGreatDoorZJ
set_option linter.unusedSimpArgs false
set_option linter.unusedVariables false
set_option linter.unusedSectionVars false
namespace Go.Proofs.YtackaijkmkollaaGreatDoor
open Go
def strings_Index (s sub:List UInt8):Option Int:=if s.length<4294967281 then some (Lib.index s sub)else none
def strings_IndexByte (s:List UInt8) (c:Int):Option Int:=some (Lib.indexByte s c.toNat.toUInt8)
def ea (s:List UInt8) (b k:Int):Option (Int × Bool):=
 if b=10/\k=64/\s.length<=281474976710656 then
  match Lib.parseIntB 64 s with
  | .ok v=>some (v,false)
  | .range=>some (Lib.intSat 64 s,true)
  |_=>none
 else none
def kept :List (List UInt8):=[[99,108,97,115,115],[101,120,116,101,110,100,115],[115,116,97,116,105,99],[118,111,105,100],[105,110,116],[98,111,111,108,101,97,110],[105,102],[101,108,115,101],[119,104,105,108,101],[114,101,116,117,114,110],[112,114,105,110,116],[116,114,117,101],[102,97,108,115,101],[110,117,108,108],[116,104,105,115],[110,101,119]]
def clashes :List (List UInt8 × List UInt8):=[([61],[61]),([33],[61]),([60],[61]),([62],[61]),([47],[47]),([47],[42])]
end Go.Proofs.YtackaijkmkollaaGreatDoor
set_option linter.unusedSectionVars false
set_option maxRecDepth 100000
set_option maxHeartbeats 4000000
namespace Go.Proofs.YtackaijkmkollaaGreatDoor
open Go Go.Cn
structure ApiToken where
 Kind:Int
 Text:List UInt8
 At:Int
 Lead:List UInt8
 deriving DecidableEq
structure ApiNode where
 Kind:Int
 Text:List UInt8
 Type_:List UInt8
 N:Int
 From:Int
 To:Int
 At:Int
 TypeAt:Int
 Kids:List ApiNode
structure ParseParser where
 t:List ApiToken
 at_:Int
 deriving DecidableEq
structure ApiMistake where
 Code:Int
 File:Int
 At:Int
 deriving DecidableEq
structure ParseWrong where
 m:ApiMistake
 deriving DecidableEq
noncomputable def parse_parser_made (x1:ParseParser) (x2 x3:Int) (x4:List ApiNode):Option ApiNode:=(idx x1.t (w64 (x1.at_ - 1))).bind fun x6=>(idx x1.t x3).bind fun x8=>some (ApiNode.mk x2 [] [] 0 x8.At (w64 (x6.At+(x6.Text.length:Int))) (-1) (-1) x4)
noncomputable def lex_Lex_1_j1 (x8:List UInt8) (x10 x2 x3:Int) (x13:List ApiToken):Option ((List ApiToken) × (List UInt8) × Int):=some (x13,x8,w64 (x10+(w64 (x2+x3))))
noncomputable def lex_Lex_1 (x1 x2 x3:Int) (x5:List ApiToken) (x8:List UInt8) (x10:Int):Option ((List ApiToken) × (List UInt8) × Int):=(sub x8 (w64 (x10+x2)) (w64 ((w64 (x10+x2))+x3))).bind fun x11=>(sub x8 x10 (w64 (x10+x2))).bind fun x12=>(app 48 x5 ([(ApiToken.mk x1 x11 (w64 (x10+x2)) x12)]:List ApiToken)).bind fun x13=>lex_Lex_1_j1 x8 x10 x2 x3 x13
noncomputable def ca (x5:Bool):Option (Bool):=some x5
noncomputable def d7 (x1 x2:List UInt8):Option (Bool):=(if(decide ((x1.length:Int)≥(x2.length:Int)))=true then(sub x1 0 (x2.length:Int)).bind fun x4=>ca (x4==x2)else ca false)
noncomputable def eh (x1 x2:List UInt8):Option (Bool):=(d7 x1 x2).bind fun x3=>some x3
noncomputable def lex_run_k1 (x1:List UInt8):Option (Int):=some (x1.length:Int)
noncomputable def lex_run_l2 (x1:List UInt8) (x2:(Int->Option Bool)) (x3:Int):Option ((Int) ⊕ (Flow Unit Int)):=(if(decide (x3<(x1.length:Int)))=true then(idxS x1 x3).bind fun x6=>(x2 x6).bind fun x7=>(if(!x7)=true then some (.inr (.done x3))else some (.inl (w64 (x3+1))))else some (.inr (.next ())))
noncomputable def lex_run (x1:List UInt8) (x2:(Int->Option Bool)):Option (Int):=(iter (fun s=>lex_run_l2 x1 x2 s) 0).bind fun z=>match z with| .next p=>lex_run_k1 x1| .done r=>some r
noncomputable def kq (x1:Int):Option (Bool):=some (x1 != 10)
noncomputable def lex_between_j1 (x2:Int):Option (Int × Bool):=some (x2,true)
noncomputable def lex_between_k2 (x2:Int):Option (Int × Bool):=lex_between_j1 x2
noncomputable def i5 (x2:Int):Option ((Int) ⊕ (Flow Int (Int × Bool))):=some (.inl (w64 (x2+1)))
noncomputable def jz (x1:List UInt8) (x2:Int):Option ((Int) ⊕ (Flow Int (Int × Bool))):=(if(decide (x2<(x1.length:Int)))=true then(sub x1 x2 (x1.length:Int)).bind fun x5=>(eh x5 ([47,47]:List UInt8)).bind fun x6=>(if x6=true then(lex_run x5 kq).bind fun x8=>some (.inl (w64 (x2+x8)))else(eh x5 ([47,42]:List UInt8)).bind fun x9=>(if x9=true then(sub x5 2 (x5.length:Int)).bind fun x11=>(strings_Index x11 ([42,47]:List UInt8)).bind fun x12=>(if(decide (x12<0))=true then some (.inr (.done (x2,false)))else some (.inl (w64 (x2+(w64 ((w64 (2+x12))+2))))))else(idxS x5 0).bind fun x14=>(if(x14==32)=true then i5 x2 else(if(x14==9)=true then i5 x2 else(if(x14==13)=true then i5 x2 else(if(x14==10)=true then i5 x2 else some (.inr (.next x2))))))))else some (.inr (.next x2)))
noncomputable def lex_between (x1:List UInt8):Option (Int × Bool):=(iter (fun s=>jz x1 s) 0).bind fun z=>match z with| .next p=>lex_between_k2 p| .done r=>some r
noncomputable def lex_digit_j1 (x3:Bool):Option (Bool):=some x3
noncomputable def lex_digit (x1:Int):Option (Bool):=(if(decide (x1≥48))=true then lex_digit_j1 (decide (x1<=57))else lex_digit_j1 false)
noncomputable def lex_letter_j1 (x5:Bool):Option (Bool):=some x5
noncomputable def lex_letter (x1:Int):Option (Bool):=(if(decide ((bits .or .u8 x1 32)≥97))=true then(if(decide ((bits .or .u8 x1 32)<=122))=true then lex_letter_j1 true else lex_letter_j1 (x1==95))else lex_letter_j1 (x1==95))
noncomputable def lex_token_1_j1 (x5:Bool):Option (Bool):=some x5
noncomputable def k4 (x1:Int):Option (Bool):=(lex_letter x1).bind fun x2=>(if x2=true then lex_token_1_j1 true else(lex_digit x1).bind fun x4=>lex_token_1_j1 x4)
noncomputable def ed:Option (Int):=some (-1)
noncomputable def cq (x1:List (List UInt8)) (x2:List UInt8) (x3:Int):Option ((Int) ⊕ (Flow Unit Int)):=(if(decide (x3<(x1.length:Int)))=true then(idx x1 x3).bind fun x6=>(if(x2==x6)=true then some (.inr (.done x3))else some (.inl (w64 (x3+1))))else some (.inr (.next ())))
noncomputable def dw (x1:List (List UInt8)) (x2:List UInt8):Option (Int):=(iter (fun s=>cq x1 x2 s) 0).bind fun z=>match z with| .next p=>ed| .done r=>some r
noncomputable def dg (x1:List (List UInt8)) (x2:List UInt8):Option (Bool):=(dw x1 x2).bind fun x3=>some (decide (x3≥0))
noncomputable def lex_Kept (x1:List UInt8):Option (Bool):=(dg kept x1).bind fun x2=>some x2
noncomputable def lex_mark_k1 (x1:List UInt8):Option (Int):=(idxS x1 0).bind fun x8=>(strings_IndexByte ([43,45,42,47,37,60,62,61,33,40,41,123,125,59,44,46]:List UInt8) x8).bind fun x9=>(if(decide (x9≥0))=true then some 1 else some 0)
noncomputable def lex_mark_l2 (x1:List UInt8) (x2:Int):Option ((Int) ⊕ (Flow Unit Int)):=(if(decide (x2<(([([61,61]:List UInt8),([33,61]:List UInt8),([60,61]:List UInt8),([62,61]:List UInt8),([38,38]:List UInt8),([124,124]:List UInt8)]:List (List UInt8)).length:Int)))=true then(idx ([([61,61]:List UInt8),([33,61]:List UInt8),([60,61]:List UInt8),([62,61]:List UInt8),([38,38]:List UInt8),([124,124]:List UInt8)]:List (List UInt8)) x2).bind fun x5=>(eh x1 x5).bind fun x6=>(if x6=true then some (.inr (.done 2))else some (.inl (w64 (x2+1))))else some (.inr (.next ())))
noncomputable def lex_mark (x1:List UInt8):Option (Int):=(iter (fun s=>lex_mark_l2 x1 s) 0).bind fun z=>match z with| .next p=>lex_mark_k1 x1| .done r=>some r
noncomputable def kf (x5:Int) (x16:Bool):Option (Int × Int × Int):=(if x16=true then some (0,0,31)else some (2,x5,0))
noncomputable def lex_token (x1:List UInt8):Option (Int × Int × Int):=(idxS x1 0).bind fun x2=>(lex_digit x2).bind fun x3=>(if x3=true then(lex_run x1 lex_digit).bind fun x5=>(sub x1 0 x5).bind fun x6=>(ea x6 10 64).bind fun(x7,x8)=>(if x8=true then kf x5 true else(if(decide (x7>2147483647))=true then kf x5 true else(if(decide (x5>1))=true then(idxS x1 0).bind fun x12=>kf x5 (x12==48)else kf x5 false)))else(idxS x1 0).bind fun x18=>(lex_letter x18).bind fun x19=>(if x19=true then(lex_run x1 k4).bind fun x21=>(if(decide (x21>20))=true then some (0,0,2)else(sub x1 0 x21).bind fun x23=>(lex_Kept x23).bind fun x24=>(if x24=true then some (3,x21,0)else some (1,x21,0)))else(lex_mark x1).bind fun x26=>(if(x26==0)=true then some (0,0,30)else some (4,x26,0))))
noncomputable def lex_Lex_j2 (x8 x15:Int):Option (((List UInt8) × Int × (List ApiToken)) ⊕ ((List ApiToken) × Int × Int)):=some (.inr ([],w64 (x8+x15),32))
noncomputable def lex_Lex_j3 (x8 x15 x26:Int):Option (((List UInt8) × Int × (List ApiToken)) ⊕ ((List ApiToken) × Int × Int)):=some (.inr ([],w64 (x8+x15),x26))
noncomputable def fa (x6:List UInt8) (x8:Int) (x9:List ApiToken):Option (((List UInt8) × Int × (List ApiToken)) ⊕ ((List ApiToken) × Int × Int)):=(sub x6 x8 (x6.length:Int)).bind fun x14=>(lex_between x14).bind fun(x15,x16)=>(if(!x16)=true then lex_Lex_j2 x8 x15 else(if((w64 (x8+x15))==(x6.length:Int))=true then(lex_Lex_1 5 x15 0 x9 x6 x8).bind fun(x19,x21,x22)=>some (.inr (x19,0,0))else(sub x6 (w64 (x8+x15)) (x6.length:Int)).bind fun x23=>(lex_token x23).bind fun(x24,x25,x26)=>(if(x26 != 0)=true then lex_Lex_j3 x8 x15 x26 else(lex_Lex_1 x24 x15 x25 x9 x6 x8).bind fun(x28,x30,x31)=>some (.inl (x30,x31,x28)))))
noncomputable def lex_Lex (x1:List UInt8):Option ((List ApiToken) × Int × Int):=(if(decide ((x1.length:Int)>1048576))=true then some ([],0,2)else iter (fun s=>fa s.1 s.2.1 s.2.2) (x1,0,[]))
abbrev ec :Type:=(ApiNode->Option (Int))
noncomputable def node_Depth_k1 (R:ec) (x3:Int):Option (Int):=some (w64 (x3+1))
noncomputable def kp (R:ec) (x1:ApiNode) (x3 x4:Int):Option ((Int × Int) ⊕ (Int)):=(if(decide (x4<(x1.Kids.length:Int)))=true then(idx x1.Kids x4).bind fun x8=>(R x8).bind fun x10=>some (.inl ((if x10>x3 then x10 else x3),w64 (x4+1)))else some (.inr x3))
noncomputable def F_node_Depth (R:ec) (x1:ApiNode):Option (Int):=(iter (fun s=>kp R x1 s.1 s.2) (0,0)).bind fun p=>node_Depth_k1 R p
noncomputable def rec_node_Depth_step (R:ec):ec:=(fun x1=>F_node_Depth R x1)
noncomputable def gg (n:Nat):ec:=Nat.rec (motive:=fun _=>ec) (fun x1=>none) (fun _ R=>rec_node_Depth_step R) n
noncomputable def node_Depth (x1:ApiNode):Option (Int):=(gg 1048576) x1
noncomputable def jn (x3:ApiToken):Option (ApiToken):=some x3
noncomputable def ba (x1:ParseParser):Option (ApiToken):=(idx x1.t x1.at_).bind fun x3=>jn x3
noncomputable def bm (x1:Int) (x3:ParseParser):Option (PX ParseWrong ParseParser):=(ba x3).bind fun x4=>some (.bad (ParseWrong.mk (ApiMistake.mk x1 0 x4.At)))
noncomputable def jv (x6:Bool):Option (Bool):=some x6
noncomputable def jj (x1:ApiToken) (x2:List UInt8):Option (Bool):=(if(x1.Text==x2)=true then(if(x1.Kind==4)=true then jv true else jv (x1.Kind==3))else jv false)
noncomputable def jd (x1:ParseParser) (x2:List UInt8):Option (Bool):=(ba x1).bind fun x3=>(jj x3 x2).bind fun x4=>some x4
noncomputable def a3 (x1:List UInt8) (x3:ParseParser):Option (Bool × ParseParser):=(jd x3 x1).bind fun x4=>(if(!x4)=true then some (false,x3)else some (true,{x3 with at_:=w64 (x3.at_+1)}))
noncomputable def ay (x1:List UInt8) (x3:ParseParser):Option (PX ParseWrong ParseParser):=(a3 x1 x3).bind fun(x4,x5)=>(if(!x4)=true then(bq (bm 120 x5) (fun m8=>some (.bad m8)) fun x7=>some (.ok x7))else some (.ok x5))
noncomputable def cj (x2:ParseParser):Option (ApiToken × ParseParser):=(ba x2).bind fun x4=>some (x4,{x2 with at_:=w64 (x2.at_+1)})
noncomputable def fy (x8:ParseParser):Option (PX ParseWrong (ApiToken × ParseParser)):=(cj x8).bind fun(x9,x10)=>some (.ok (x9,x10))
noncomputable def cl (x2:ParseParser):Option (PX ParseWrong (ApiToken × ParseParser)):=(ba x2).bind fun x4=>(if(x4.Kind != 1)=true then(bq (bm 120 x2) (fun m7=>some (.bad m7)) fun x6=>fy x6)else fy x2)
noncomputable def ek (x1:ApiNode) (x2:ApiToken):Option (ApiNode):=some ({{x1 with Text:=x2.Text} with At:=x2.At})
noncomputable def dp (x1:ApiNode) (x2:ApiToken):Option (ApiNode):=ek x1 x2
noncomputable def i3 (x1:ApiNode) (x2:ApiToken):Option (ApiNode):=some ({{x1 with Type_:=x2.Text} with TypeAt:=x2.At})
noncomputable def iz (x1:ApiNode) (x2:ApiToken):Option (ApiNode):=i3 x1 x2
noncomputable def gn (x17:Bool):Option (Bool):=some x17
noncomputable def ij (x1:ApiToken):Option (Bool):=(if(x1.Kind==1)=true then gn true else(jj x1 ([105,110,116]:List UInt8)).bind fun x4=>(if x4=true then gn true else(jj x1 ([98,111,111,108,101,97,110]:List UInt8)).bind fun x6=>(if x6=true then gn true else(jj x1 ([118,111,105,100]:List UInt8)).bind fun x8=>gn x8)))
noncomputable def ff (x12:ParseParser):Option (PX ParseWrong (ApiToken × ParseParser)):=(cj x12).bind fun(x13,x14)=>some (.ok (x13,x14))
noncomputable def fe (x2:ParseParser) (x8:Bool):Option (PX ParseWrong (ApiToken × ParseParser)):=(if x8=true then(bq (bm 120 x2) (fun m11=>some (.bad m11)) fun x10=>ff x10)else ff x2)
noncomputable def d4 (x2:ParseParser):Option (PX ParseWrong (ApiToken × ParseParser)):=(ba x2).bind fun x4=>(ij x4).bind fun x5=>(if(!x5)=true then fe x2 true else(jd x2 ([118,111,105,100]:List UInt8)).bind fun x7=>fe x2 x7)
noncomputable def gr (x17:ParseParser) (x22:List ApiNode):Option ((ParseParser × (List ApiNode)) ⊕ (PX ParseWrong ((List ApiNode) × ParseParser))):=(a3 ([41]:List UInt8) x17).bind fun(x24,x25)=>(if x24=true then some (.inr (.ok (x22,x25)))else(bq (ay ([44]:List UInt8) x25) (fun m28=>some (.inr (.bad m28))) fun x27=>some (.inl (x27,x22))))
noncomputable def ev (x8:ParseParser) (x9:List ApiNode):Option ((ParseParser × (List ApiNode)) ⊕ (PX ParseWrong ((List ApiNode) × ParseParser))):=(bq (d4 x8) (fun m30=>some (.inr (.bad m30))) fun(x13,x14)=>(bq (cl x14) (fun m29=>some (.inr (.bad m29))) fun(x16,x17)=>(parse_parser_made x17 4 x8.at_ []).bind fun x19=>(dp x19 x16).bind fun x20=>(iz x20 x13).bind fun x21=>(app 104 x9 ([x21]:List ApiNode)).bind fun x22=>gr x17 x22))
noncomputable def fb (x2:ParseParser):Option (PX ParseWrong ((List ApiNode) × ParseParser)):=(a3 ([41]:List UInt8) x2).bind fun(x3,x4)=>(if x3=true then some (.ok ([],x4))else iter (fun s=>ev s.1 s.2) (x4,[]))
noncomputable def iy (x4:ApiToken):Option (ApiToken):=some x4
noncomputable def il (x1:ParseParser) (x2:Int):Option (ApiToken):=(idx x1.t (if(w64 ((x1.t.length:Int) - 1))<(w64 (x1.at_+x2))then(w64 ((x1.t.length:Int) - 1))else(w64 (x1.at_+x2)))).bind fun x4=>iy x4
noncomputable def db (x8:Bool):Option (Bool):=some x8
noncomputable def co (x1:ParseParser):Option (Bool):=(ba x1).bind fun x2=>(ij x2).bind fun x4=>(if x4=true then(if(x2.Kind != 1)=true then db true else(il x1 1).bind fun x7=>db (x7.Kind==1))else db false)
noncomputable def i4 (x19:Bool):Option (Int):=(if x19=true then some 6 else some 0)
noncomputable def jy (x1:ApiToken) (x15:Bool):Option (Int):=(if x15=true then some 5 else(if(x1.Text==([42]:List UInt8))=true then i4 (x1.Text==([42]:List UInt8))else(if(x1.Text==([47]:List UInt8))=true then i4 (x1.Text==([47]:List UInt8))else i4 (x1.Text==([37]:List UInt8)))))
noncomputable def gc (x1:ApiToken) (x12:Bool):Option (Int):=(if x12=true then some 4 else(if(x1.Text==([43]:List UInt8))=true then jy x1 (x1.Text==([43]:List UInt8))else jy x1 (x1.Text==([45]:List UInt8))))
noncomputable def jx (x1:ApiToken) (x7:Bool):Option (Int):=(if x7=true then some 3 else(if(x1.Text==([60]:List UInt8))=true then gc x1 (x1.Text==([60]:List UInt8))else(if(x1.Text==([60,61]:List UInt8))=true then gc x1 (x1.Text==([60,61]:List UInt8))else(if(x1.Text==([62]:List UInt8))=true then gc x1 (x1.Text==([62]:List UInt8))else gc x1 (x1.Text==([62,61]:List UInt8))))))
noncomputable def jk (x1:ApiToken):Option (Int):=(if(x1.Kind != 4)=true then some 0 else(if(x1.Text==([124,124]:List UInt8))=true then some 1 else(if(x1.Text==([38,38]:List UInt8))=true then some 2 else(if(x1.Text==([61,61]:List UInt8))=true then jx x1 (x1.Text==([61,61]:List UInt8))else jx x1 (x1.Text==([33,61]:List UInt8))))))
noncomputable def d6 (x1:Int) (x3:ParseParser):Option (PX ParseWrong ParseParser):=(if(decide (x1>60))=true then(bq (bm 2 x3) (fun m6=>some (.bad m6)) fun x5=>some (.ok x5))else some (.ok x3))
noncomputable def parse_words:Option ((SMap ApiNode)):=some (mset ([116,104,105,115]:List UInt8) (ApiNode.mk 16 [] [] 0 0 0 0 0 []) (mset ([110,117,108,108]:List UInt8) (ApiNode.mk 15 [] [] 0 0 0 0 0 []) (mset ([102,97,108,115,101]:List UInt8) (ApiNode.mk 14 [] [] 0 0 0 0 0 []) (mset ([116,114,117,101]:List UInt8) (ApiNode.mk 14 [] [] 1 0 0 0 0 []) ([]:SMap ApiNode)))))
abbrev am :Type:=(Int->Int->ParseParser->Option (PX ParseWrong (ApiNode × ParseParser))) × (Int->ParseParser->Option (PX ParseWrong (ApiNode × ParseParser))) × (Int->ParseParser->Option (PX ParseWrong (ApiNode × ParseParser))) × (Int->ParseParser->Option (PX ParseWrong ((List ApiNode) × ParseParser)))
noncomputable def dx (R:am) (x2 x1:Int) (x4 x9:ParseParser) (x10:ApiNode):Option ((ParseParser × ApiNode) ⊕ (PX ParseWrong (ApiNode × ParseParser))):=(ba x9).bind fun x13=>(jk x13).bind fun x14=>(if(decide (x14<=x2))=true then some (.inr (.ok (x10,x9)))else(cj x9).bind fun(x16,x17)=>(bq (R.1 x1 x14 x17) (fun m23=>some (.inr (.bad m23))) fun(x19,x20)=>(parse_parser_made x20 24 x4.at_ ([x10,x19]:List ApiNode)).bind fun x22=>some (.inl (x20,{x22 with Text:=x16.Text}))))
noncomputable def dj (R:am) (x1 x2:Int) (x4:ParseParser):Option (PX ParseWrong (ApiNode × ParseParser)):=(bq (R.2.1 x1 x4) (fun m24=>some (.bad m24)) fun(x6,x7)=>iter (fun s=>dx R x2 x1 x4 s.1 s.2) (x7,x6))
noncomputable def ki (R:am) (x30:ParseParser) (x26:ApiNode):Option (PX ParseWrong (ApiNode × ParseParser)):=some (.ok (x26,x30))
noncomputable def fh (R:am) (x5:ParseParser) (x32:ApiToken) (x42:Int) (x43:List ApiNode) (x44:ParseParser):Option ((ParseParser × ApiNode) ⊕ (Flow (ParseParser × ApiNode) (PX ParseWrong (ApiNode × ParseParser)))):=(parse_parser_made x44 x42 x5.at_ x43).bind fun x45=>(dp x45 x32).bind fun x46=>some (.inl (x44,x46))
noncomputable def ip (R:am) (x33:ParseParser) (x1:Int) (x26:ApiNode) (x5:ParseParser) (x32:ApiToken):Option ((ParseParser × ApiNode) ⊕ (Flow (ParseParser × ApiNode) (PX ParseWrong (ApiNode × ParseParser)))):=(a3 ([40]:List UInt8) x33).bind fun(x35,x36)=>(if x35=true then(bq (R.2.2.2 (w64 (x1+1)) x36) (fun m41=>some (.inr (.done (.bad m41)))) fun(x38,x39)=>(app 104 ([x26]:List ApiNode) x38).bind fun x40=>fh R x5 x32 20 x40 x39)else fh R x5 x32 18 ([x26]:List ApiNode) x36)
noncomputable def fg (R:am) (x1:Int) (x5 x25:ParseParser) (x26:ApiNode):Option ((ParseParser × ApiNode) ⊕ (Flow (ParseParser × ApiNode) (PX ParseWrong (ApiNode × ParseParser)))):=(a3 ([46]:List UInt8) x25).bind fun(x29,x30)=>(if x29=true then(bq (cl x30) (fun m47=>some (.inr (.done (.bad m47)))) fun(x32,x33)=>ip R x33 x1 x26 x5 x32)else some (.inr (.next (x30,x26))))
noncomputable def ep (R:am) (x1:Int) (x3:ParseParser):Option (PX ParseWrong (ApiNode × ParseParser)):=(bq (d6 x1 x3) (fun m49=>some (.bad m49)) fun x5=>(a3 ([33]:List UInt8) x5).bind fun(x6,x7)=>(if x6=true then(bq (R.2.1 (w64 (x1+1)) x7) (fun m13=>some (.bad m13)) fun(x9,x10)=>(parse_parser_made x10 22 x5.at_ ([x9]:List ApiNode)).bind fun x12=>some (.ok (x12,x10)))else(a3 ([45]:List UInt8) x7).bind fun(x14,x15)=>(if x14=true then(bq (R.2.1 (w64 (x1+1)) x15) (fun m21=>some (.bad m21)) fun(x17,x18)=>(parse_parser_made x18 23 x5.at_ ([x17]:List ApiNode)).bind fun x20=>some (.ok (x20,x18)))else(bq (R.2.2.1 (w64 (x1+1)) x15) (fun m48=>some (.bad m48)) fun(x22,x23)=>(iter (fun s=>fg R x1 x5 s.1 s.2) (x23,x22)).bind fun z=>match z with| .next p=>ki R p.1 p.2| .done r=>some r))))
noncomputable def f7 (R:am) (x42:ParseParser) (x44:ApiNode):Option (PX ParseWrong (ApiNode × ParseParser)):=some (.ok (x44,x42))
noncomputable def da (R:am) (x3:ParseParser) (x1:Int):Option (PX ParseWrong (ApiNode × ParseParser)):=(a3 ([110,101,119]:List UInt8) x3).bind fun(x35,x36)=>(if x35=true then(bq (cl x36) (fun m47=>some (.bad m47)) fun(x38,x39)=>(bq (ay ([40]:List UInt8) x39) (fun m46=>some (.bad m46)) fun x41=>(bq (ay ([41]:List UInt8) x41) (fun m45=>some (.bad m45)) fun x42=>(parse_parser_made x42 21 x3.at_ []).bind fun x43=>(dp x43 x38).bind fun x44=>f7 R x42 x44)))else(a3 ([40]:List UInt8) x36).bind fun(x48,x49)=>(if x48=true then(bq (R.1 x1 0 x49) (fun m56=>some (.bad m56)) fun(x51,x52)=>(bq (ay ([41]:List UInt8) x52) (fun m55=>some (.bad m55)) fun x54=>some (.ok (x51,x54))))else(bq (bm 120 x49) (fun m58=>some (.bad m58)) fun x57=>some (.ok ((ApiNode.mk 0 [] [] 0 0 0 0 0 []),x57)))))
noncomputable def f6 (R:am) (x18:ParseParser) (x21:ApiNode):Option (PX ParseWrong (ApiNode × ParseParser)):=some (.ok (x21,x18))
noncomputable def f5 (R:am) (x23:ParseParser) (x25:ApiNode):Option (PX ParseWrong (ApiNode × ParseParser)):=some (.ok (x25,x23))
noncomputable def f3 (R:am) (x5:ApiToken) (x3:ParseParser) (x1:Int) (x28:SMap ApiNode):Option (PX ParseWrong (ApiNode × ParseParser)):=(if(mhas x5.Text x28)=true then(cj x3).bind fun(x31,x32)=>(parse_parser_made x32 ((mget x5.Text (ApiNode.mk 0 [] [] 0 0 0 0 0 []) x28).Kind) x3.at_ []).bind fun x33=>some (.ok ({x33 with N:=(mget x5.Text (ApiNode.mk 0 [] [] 0 0 0 0 0 []) x28).N},x32))else da R x3 x1)
noncomputable def d8 (R:am) (x1:Int) (x3:ParseParser):Option (PX ParseWrong (ApiNode × ParseParser)):=(ba x3).bind fun x5=>(if(x5.Kind==2)=true then(cj x3).bind fun(x8,x9)=>(parse_parser_made x9 13 x3.at_ []).bind fun x10=>(ea x5.Text 10 64).bind fun(x12,x13)=>some (.ok ({x10 with N:=x12},x9))else(if(x5.Kind==1)=true then(cj x3).bind fun(x15,x16)=>(a3 ([40]:List UInt8) x16).bind fun(x17,x18)=>(if(!x17)=true then(parse_parser_made x18 17 x3.at_ []).bind fun x20=>(dp x20 x5).bind fun x21=>f6 R x18 x21 else(bq (R.2.2.2 x1 x18) (fun m26=>some (.bad m26)) fun(x22,x23)=>(parse_parser_made x23 19 x3.at_ x22).bind fun x24=>(dp x24 x5).bind fun x25=>f5 R x23 x25))else(if(x5.Kind==3)=true then(parse_words).bind fun x28=>f3 R x5 x3 x1 x28 else da R x3 x1)))
noncomputable def d9 (R:am) (x1:Int) (x8:ParseParser) (x9:List ApiNode):Option ((ParseParser × (List ApiNode)) ⊕ (PX ParseWrong ((List ApiNode) × ParseParser))):=(bq (R.1 x1 0 x8) (fun m22=>some (.inr (.bad m22))) fun(x13,x14)=>(app 104 x9 ([x13]:List ApiNode)).bind fun x15=>(a3 ([41]:List UInt8) x14).bind fun(x17,x18)=>(if x17=true then some (.inr (.ok (x15,x18)))else(bq (ay ([44]:List UInt8) x18) (fun m21=>some (.inr (.bad m21))) fun x20=>some (.inl (x20,x15)))))
noncomputable def dl (R:am) (x1:Int) (x3:ParseParser):Option (PX ParseWrong ((List ApiNode) × ParseParser)):=(a3 ([41]:List UInt8) x3).bind fun(x4,x5)=>(if x4=true then some (.ok ([],x5))else iter (fun s=>d9 R x1 s.1 s.2) (x5,[]))
noncomputable def rec_parse_parser_expression_step (R:am):am:=((fun x1 x2 x4=>dj R x1 x2 x4),(fun x1 x3=>ep R x1 x3),(fun x1 x3=>d8 R x1 x3),(fun x1 x3=>dl R x1 x3))
noncomputable def bx (n:Nat):am:=Nat.rec (motive:=fun _=>am) ((fun x1 x2 x4=>none),(fun x1 x3=>none),(fun x1 x3=>none),(fun x1 x3=>none)) (fun _ R=>rec_parse_parser_expression_step R) n
noncomputable def cd (x1 x2:Int) (x4:ParseParser):Option (PX ParseWrong (ApiNode × ParseParser)):=(bx 1048576).1 x1 x2 x4
noncomputable def ir (x16:ParseParser) (x19:ApiNode):Option (PX ParseWrong (ApiNode × ParseParser)):=some (.ok (x19,x16))
noncomputable def en (x1:Int) (x3:ParseParser):Option (PX ParseWrong (ApiNode × ParseParser)):=(bq (d6 x1 x3) (fun m25=>some (.bad m25)) fun x5=>(bq (d4 x5) (fun m24=>some (.bad m24)) fun(x6,x7)=>(bq (cl x7) (fun m23=>some (.bad m23)) fun(x9,x10)=>(bq (ay ([61]:List UInt8) x10) (fun m22=>some (.bad m22)) fun x12=>(bq (cd (w64 (x1+1)) 0 x12) (fun m21=>some (.bad m21)) fun(x13,x14)=>(bq (ay ([59]:List UInt8) x14) (fun m20=>some (.bad m20)) fun x16=>(parse_parser_made x16 6 x5.at_ ([x13]:List ApiNode)).bind fun x17=>(dp x17 x9).bind fun x18=>(iz x18 x6).bind fun x19=>ir x16 x19))))))
noncomputable def parse_begun:Option ((SMap (Option Nat))):=some (mset ([112,114,105,110,116]:List UInt8) (some 84) (mset ([114,101,116,117,114,110]:List UInt8) (some 83) (mset ([119,104,105,108,101]:List UInt8) (some 82) (mset ([105,102]:List UInt8) (some 81) (mset ([123]:List UInt8) (some 52) ([]:SMap (Option Nat)))))))
noncomputable def fi (x3:ParseParser) (x16:Int) (x18:ParseParser) (x19:List ApiNode):Option (PX ParseWrong (ApiNode × ParseParser)):=(bq (ay ([59]:List UInt8) x18) (fun m22=>some (.bad m22)) fun x20=>(parse_parser_made x20 x16 x3.at_ x19).bind fun x21=>some (.ok (x21,x20)))
noncomputable def fo (x1:Int) (x3:ParseParser):Option (PX ParseWrong (ApiNode × ParseParser)):=(bq (cd (w64 (x1+1)) 0 x3) (fun m23=>some (.bad m23)) fun(x5,x6)=>(a3 ([61]:List UInt8) x6).bind fun(x8,x9)=>(if x8=true then(bq (cd (w64 (x1+1)) 0 x9) (fun m15=>some (.bad m15)) fun(x11,x12)=>(app 104 ([x5]:List ApiNode) ([x11]:List ApiNode)).bind fun x13=>fi x3 7 x12 x13)else fi x3 8 x9 ([x5]:List ApiNode)))
noncomputable def gi (x1:Int) (x3:ParseParser):Option (PX ParseWrong (ApiNode × ParseParser)):=(bq (ay ([114,101,116,117,114,110]:List UInt8) x3) (fun m17=>some (.bad m17)) fun x5=>(a3 ([59]:List UInt8) x5).bind fun(x6,x7)=>(if x6=true then(parse_parser_made x7 11 x3.at_ []).bind fun x9=>some (.ok (x9,x7))else(bq (cd (w64 (x1+1)) 0 x7) (fun m16=>some (.bad m16)) fun(x10,x11)=>(bq (ay ([59]:List UInt8) x11) (fun m15=>some (.bad m15)) fun x13=>(parse_parser_made x13 11 x3.at_ ([x10]:List ApiNode)).bind fun x14=>some (.ok (x14,x13))))))
noncomputable def cy (x1:Int) (x3:ParseParser):Option (PX ParseWrong (ApiNode × ParseParser)):=(bq (ay ([40]:List UInt8) x3) (fun m12=>some (.bad m12)) fun x5=>(bq (cd x1 0 x5) (fun m11=>some (.bad m11)) fun(x6,x7)=>(bq (ay ([41]:List UInt8) x7) (fun m10=>some (.bad m10)) fun x9=>some (.ok (x6,x9)))))
noncomputable def gh (x1:Int) (x3:ParseParser):Option (PX ParseWrong (ApiNode × ParseParser)):=(bq (ay ([112,114,105,110,116]:List UInt8) x3) (fun m13=>some (.bad m13)) fun x5=>(bq (cy (w64 (x1+1)) x5) (fun m12=>some (.bad m12)) fun(x6,x7)=>(bq (ay ([59]:List UInt8) x7) (fun m11=>some (.bad m11)) fun x9=>(parse_parser_made x9 12 x3.at_ ([x6]:List ApiNode)).bind fun x10=>some (.ok (x10,x9)))))
abbrev av :Type:=(Int->ParseParser->Option (PX ParseWrong (ApiNode × ParseParser))) × (Int->ParseParser->Option (PX ParseWrong (ApiNode × ParseParser))) × (Int->ParseParser->Option (PX ParseWrong (ApiNode × ParseParser))) × (Int->ParseParser->Option (PX ParseWrong (ApiNode × ParseParser)))
noncomputable def iw (R:av) (x3 x13:ParseParser) (x8:List ApiNode):Option (PX ParseWrong (ApiNode × ParseParser)):=(parse_parser_made x13 5 x3.at_ x8).bind fun x27=>some (.ok (x27,x13))
noncomputable def fm (R:av) (x1:Int) (x7:ParseParser) (x8:List ApiNode):Option ((ParseParser × (List ApiNode)) ⊕ (Flow (ParseParser × (List ApiNode)) (PX ParseWrong (ApiNode × ParseParser)))):=(a3 ([125]:List UInt8) x7).bind fun(x12,x13)=>(if(!x12)=true then(co x13).bind fun x15=>(if x15=true then(bq (en (w64 (x1+1)) x13) (fun m21=>some (.inr (.done (.bad m21)))) fun(x17,x18)=>(app 104 x8 ([x17]:List ApiNode)).bind fun x19=>some (.inl (x18,x19)))else(bq (R.2.1 (w64 (x1+1)) x13) (fun m26=>some (.inr (.done (.bad m26)))) fun(x22,x23)=>(app 104 x8 ([x22]:List ApiNode)).bind fun x24=>some (.inl (x23,x24))))else some (.inr (.next (x13,x8))))
noncomputable def eq (R:av) (x1:Int) (x3:ParseParser):Option (PX ParseWrong (ApiNode × ParseParser)):=(bq (ay ([123]:List UInt8) x3) (fun m29=>some (.bad m29)) fun x5=>(iter (fun s=>fm R x1 s.1 s.2) (x5,[])).bind fun z=>match z with| .next p=>iw R x3 p.1 p.2| .done r=>some r)
noncomputable def dh (R:av) (x6:ApiToken) (x8:SMap (Option Nat)) (x1:Int) (x5:ParseParser) (x10:Bool):Option (PX ParseWrong (ApiNode × ParseParser)):=(if x10=true then(if decide ((mget x6.Text none x8)=some 52)=true then(bq (R.1 x1 x5) (fun m15=>some (.bad m15)) fun(x13,x14)=>some (.ok (x13,x14)))else(if decide ((mget x6.Text none x8)=some 81)=true then(bq (R.2.2.1 x1 x5) (fun m19=>some (.bad m19)) fun(x17,x18)=>some (.ok (x17,x18)))else(if decide ((mget x6.Text none x8)=some 82)=true then(bq (R.2.2.2 x1 x5) (fun m23=>some (.bad m23)) fun(x21,x22)=>some (.ok (x21,x22)))else(if decide ((mget x6.Text none x8)=some 83)=true then(bq (gi x1 x5) (fun m27=>some (.bad m27)) fun(x25,x26)=>some (.ok (x25,x26)))else(if decide ((mget x6.Text none x8)=some 84)=true then(bq (gh x1 x5) (fun m31=>some (.bad m31)) fun(x29,x30)=>some (.ok (x29,x30)))else none)))))else(bq (fo x1 x5) (fun m34=>some (.bad m34)) fun(x32,x33)=>some (.ok (x32,x33))))
noncomputable def cr (R:av) (x6:ApiToken) (x1:Int) (x5:ParseParser) (x8:SMap (Option Nat)):Option (PX ParseWrong (ApiNode × ParseParser)):=(if(mhas x6.Text x8)=true then dh R x6 x8 x1 x5 (x6.Kind != 1)else dh R x6 x8 x1 x5 false)
noncomputable def dk (R:av) (x1:Int) (x3:ParseParser):Option (PX ParseWrong (ApiNode × ParseParser)):=(bq (d6 x1 x3) (fun m35=>some (.bad m35)) fun x5=>(ba x5).bind fun x6=>(parse_begun).bind fun x8=>cr R x6 x1 x5 x8)
noncomputable def ey (R:av) (x3 x22:ParseParser) (x23:List ApiNode):Option (PX ParseWrong (ApiNode × ParseParser)):=(parse_parser_made x22 9 x3.at_ x23).bind fun x24=>some (.ok (x24,x22))
noncomputable def ej (R:av) (x1:Int) (x3:ParseParser):Option (PX ParseWrong (ApiNode × ParseParser)):=(bq (ay ([105,102]:List UInt8) x3) (fun m27=>some (.bad m27)) fun x5=>(bq (cy (w64 (x1+1)) x5) (fun m26=>some (.bad m26)) fun(x6,x7)=>(bq (R.2.1 (w64 (x1+1)) x7) (fun m25=>some (.bad m25)) fun(x9,x10)=>(app 104 ([x6]:List ApiNode) ([x9]:List ApiNode)).bind fun x11=>(a3 ([101,108,115,101]:List UInt8) x10).bind fun(x13,x14)=>(if x13=true then(bq (R.2.1 (w64 (x1+1)) x14) (fun m20=>some (.bad m20)) fun(x16,x17)=>(app 104 x11 ([x16]:List ApiNode)).bind fun x18=>ey R x3 x17 x18)else ey R x3 x14 x11))))
noncomputable def fc (R:av) (x1:Int) (x3:ParseParser):Option (PX ParseWrong (ApiNode × ParseParser)):=(bq (ay ([119,104,105,108,101]:List UInt8) x3) (fun m15=>some (.bad m15)) fun x5=>(bq (cy (w64 (x1+1)) x5) (fun m14=>some (.bad m14)) fun(x6,x7)=>(bq (R.2.1 (w64 (x1+1)) x7) (fun m13=>some (.bad m13)) fun(x9,x10)=>(parse_parser_made x10 10 x3.at_ ([x6,x9]:List ApiNode)).bind fun x12=>some (.ok (x12,x10)))))
noncomputable def rec_parse_parser_block_step (R:av):av:=((fun x1 x3=>eq R x1 x3),(fun x1 x3=>dk R x1 x3),(fun x1 x3=>ej R x1 x3),(fun x1 x3=>fc R x1 x3))
noncomputable def cf (n:Nat):av:=Nat.rec (motive:=fun _=>av) ((fun x1 x3=>none),(fun x1 x3=>none),(fun x1 x3=>none),(fun x1 x3=>none)) (fun _ R=>rec_parse_parser_block_step R) n
noncomputable def j5 (x1:Int) (x3:ParseParser):Option (PX ParseWrong (ApiNode × ParseParser)):=(cf 1048576).1 x1 x3
noncomputable def parse_parser_statement (x1:Int) (x3:ParseParser):Option (PX ParseWrong (ApiNode × ParseParser)):=(cf 1048576).2.1 x1 x3
noncomputable def gu (x39:ParseParser) (x44:ApiNode):Option (PX ParseWrong (ApiNode × ParseParser)):=some (.ok (x44,x39))
noncomputable def ew (x15 x12:ApiToken) (x39:ParseParser) (x42:ApiNode):Option (PX ParseWrong (ApiNode × ParseParser)):=(dp x42 x15).bind fun x43=>(iz x43 x12).bind fun x44=>gu x39 x44
noncomputable def cw (x4:Bool) (x15 x12:ApiToken) (x39:ParseParser) (x40:ApiNode):Option (PX ParseWrong (ApiNode × ParseParser)):=(if x4=true then ew x15 x12 x39 ({x40 with N:=1})else ew x15 x12 x39 x40)
noncomputable def bp (x2:ParseParser) (x4:Bool) (x11:ParseParser):Option (PX ParseWrong (ApiNode × ParseParser)):=(cj x11).bind fun(x12,x13)=>(bq (cl x13) (fun m45=>some (.bad m45)) fun(x15,x16)=>(a3 ([40]:List UInt8) x16).bind fun(x19,x20)=>(if x19=true then(bq (fb x20) (fun m31=>some (.bad m31)) fun(x22,x23)=>(bq (j5 1 x23) (fun m30=>some (.bad m30)) fun(x25,x26)=>(app 104 x22 ([x25]:List ApiNode)).bind fun x27=>(parse_parser_made x26 3 x2.at_ x27).bind fun x29=>cw x4 x15 x12 x26 x29))else(jj x12 ([118,111,105,100]:List UInt8)).bind fun x32=>(if x32=true then(bq (bm 120 x20) (fun m35=>some (.bad m35)) fun x34=>cw x4 x15 x12 x34 (ApiNode.mk 0 [] [] 0 0 0 0 0 []))else(bq (ay ([59]:List UInt8) x20) (fun m38=>some (.bad m38)) fun x36=>(parse_parser_made x36 2 x2.at_ []).bind fun x37=>cw x4 x15 x12 x36 x37))))
noncomputable def ef (x2:ParseParser):Option (PX ParseWrong (ApiNode × ParseParser)):=(a3 ([115,116,97,116,105,99]:List UInt8) x2).bind fun(x4,x5)=>(ba x5).bind fun x6=>(ij x6).bind fun x7=>(if(!x7)=true then(bq (bm 120 x5) (fun m10=>some (.bad m10)) fun x9=>bp x2 x4 x9)else bp x2 x4 x5)
noncomputable def fk (x25:ParseParser) (x37:ApiNode):Option (PX ParseWrong (ApiNode × ParseParser)):=some (.ok (x37,x25))
noncomputable def iv (x9:Bool) (x16:ApiToken) (x25:ParseParser) (x33:ApiNode):Option (PX ParseWrong (ApiNode × ParseParser)):=(if x9=true then(iz x33 x16).bind fun x36=>fk x25 x36 else fk x25 x33)
noncomputable def iu (x2:ParseParser) (x5:ApiToken) (x9:Bool) (x16:ApiToken) (x25:ParseParser) (x20:List ApiNode):Option (PX ParseWrong (ApiNode × ParseParser)):=(parse_parser_made x25 1 x2.at_ x20).bind fun x32=>(dp x32 x5).bind fun x33=>iv x9 x16 x25 x33
noncomputable def fj (x19:ParseParser) (x20:List ApiNode):Option ((ParseParser × (List ApiNode)) ⊕ (Flow (ParseParser × (List ApiNode)) (PX ParseWrong (ApiNode × ParseParser)))):=(a3 ([125]:List UInt8) x19).bind fun(x24,x25)=>(if(!x24)=true then(bq (ef x25) (fun m31=>some (.inr (.done (.bad m31)))) fun(x27,x28)=>(app 104 x20 ([x27]:List ApiNode)).bind fun x29=>some (.inl (x28,x29)))else some (.inr (.next (x25,x20))))
noncomputable def dr (x2:ParseParser) (x5:ApiToken) (x9:Bool) (x15:ParseParser) (x16:ApiToken):Option (PX ParseWrong (ApiNode × ParseParser)):=(bq (ay ([123]:List UInt8) x15) (fun m39=>some (.bad m39)) fun x17=>(iter (fun s=>fj s.1 s.2) (x17,[])).bind fun z=>match z with| .next p=>iu x2 x5 x9 x16 p.1 p.2| .done r=>some r)
noncomputable def fp (x2:ParseParser):Option (PX ParseWrong (ApiNode × ParseParser)):=(bq (ay ([99,108,97,115,115]:List UInt8) x2) (fun m41=>some (.bad m41)) fun x4=>(bq (cl x4) (fun m40=>some (.bad m40)) fun(x5,x6)=>(a3 ([101,120,116,101,110,100,115]:List UInt8) x6).bind fun(x9,x10)=>(if x9=true then(bq (cl x10) (fun m14=>some (.bad m14)) fun(x12,x13)=>dr x2 x5 x9 x13 x12)else dr x2 x5 x9 x10 (ApiToken.mk 0 [] 0 []))))
noncomputable def parse_File_1_k1 (x4:ParseParser) (x5:List ApiNode):Option (PX ParseWrong ((List ApiNode) × ParseParser)):=some (.ok (x5,x4))
noncomputable def gp (x4:ParseParser) (x5:List ApiNode):Option ((ParseParser × (List ApiNode)) ⊕ (Flow (ParseParser × (List ApiNode)) (PX ParseWrong ((List ApiNode) × ParseParser)))):=(ba x4).bind fun x9=>(if(x9.Kind != 5)=true then(bq (fp x4) (fun m15=>some (.inr (.done (.bad m15)))) fun(x11,x12)=>(app 104 x5 ([x11]:List ApiNode)).bind fun x13=>some (.inl (x12,x13)))else some (.inr (.next (x4,x5))))
noncomputable def parse_File_1 (x2:ParseParser):Option (PX ParseWrong ((List ApiNode) × ParseParser)):=(iter (fun s=>gp s.1 s.2) (x2,[])).bind fun z=>match z with| .next p=>parse_File_1_k1 p.1 p.2| .done r=>some r
noncomputable def k5 (x1:Int) (x3:ParseParser):Option (PX ParseWrong (ApiNode × ParseParser)):=(co x3).bind fun x5=>(if x5=true then(bq (en x1 x3) (fun m9=>some (.bad m9)) fun(x7,x8)=>some (.ok (x7,x8)))else(bq (parse_parser_statement x1 x3) (fun m12=>some (.bad m12)) fun(x10,x11)=>some (.ok (x10,x11))))
noncomputable def parse_Expression_1 (x2:ParseParser):Option (PX ParseWrong (ApiNode × ParseParser)):=(bq (cd 1 0 x2) (fun m6=>some (.bad m6)) fun(x4,x5)=>some (.ok (x4,x5)))
noncomputable def parse_Statement_1 (x2:ParseParser):Option (PX ParseWrong (ApiNode × ParseParser)):=(bq (k5 1 x2) (fun m6=>some (.bad m6)) fun(x4,x5)=>some (.ok (x4,x5)))
noncomputable def parse_run_k1 (x10:List ApiNode):Option (PX ParseWrong ((List ApiNode) × ApiMistake)):=some (.ok (x10,(ApiMistake.mk 0 0 0)))
noncomputable def parse_run_j3 (x26:ApiNode):Option ((Int) ⊕ (Flow Unit (PX ParseWrong ((List ApiNode) × ApiMistake)))):=some (.inr (.done (.ok ([],(ApiMistake.mk 2 0 x26.From)))))
noncomputable def parse_run_j4 (x26:ApiNode):Option ((Int) ⊕ (Flow Unit (PX ParseWrong ((List ApiNode) × ApiMistake)))):=parse_run_j3 x26
noncomputable def jf (x10:List ApiNode) (x5:List ApiToken) (x17:Int):Option ((Int) ⊕ (Flow Unit (PX ParseWrong ((List ApiNode) × ApiMistake)))):=(if(decide (x17<(x10.length:Int)))=true then(idx x10 x17).bind fun x20=>(node_Depth x20).bind fun x22=>(if(decide (x22>200))=true then(if(x20.Kind != 1)=true then(idx x5 0).bind fun x25=>parse_run_j4 ({x20 with From:=x25.At})else parse_run_j4 x20)else some (.inl (w64 (x17+1))))else some (.inr (.next ())))
noncomputable def f8 (x10:List ApiNode) (x5:List ApiToken) (x16:ParseParser):Option (PX ParseWrong ((List ApiNode) × ApiMistake)):=(iter (fun s=>jf x10 x5 s) 0).bind fun z=>match z with| .next p=>parse_run_k1 x10| .done r=>some r
noncomputable def parse_runQ (F:(ParseParser->Option (PX ParseWrong ((List ApiNode) × ParseParser)))) (x1:List UInt8):Option (PX ParseWrong ((List ApiNode) × ApiMistake)):=(lex_Lex x1).bind fun(x5,x6,x7)=>(if(x7 != 0)=true then some (.ok ([],(ApiMistake.mk x7 0 x6)))else(bq (F (ParseParser.mk x5 0)) (fun m27=>some (.bad m27)) fun(x10,x11)=>(ba x11).bind fun x12=>(if(x12.Kind != 5)=true then(bq (bm 120 x11) (fun m15=>some (.bad m15)) fun x14=>f8 x10 x5 x14)else f8 x10 x5 x11)))
noncomputable def parse_run (F:(ParseParser->Option (PX ParseWrong ((List ApiNode) × ParseParser)))) (x1:List UInt8):Option (List ApiNode × ApiMistake):=(parse_runQ F x1).bind fun x=>match x with| .ok a=>some a| .bad m=>some ([],m.m)
noncomputable def parse_one_1 (x1:Option Nat) (x3:ParseParser):Option (PX ParseWrong ((List ApiNode) × ParseParser)):=(if decide (x1=some 31)=true then(bq (ef x3) (fun m7=>some (.bad m7)) fun(x5,x6)=>some (.ok (([x5]:List ApiNode),x6)))else(if decide (x1=some 32)=true then(bq (parse_Expression_1 x3) (fun m11=>some (.bad m11)) fun(x9,x10)=>some (.ok (([x9]:List ApiNode),x10)))else(if decide (x1=some 34)=true then(bq (parse_Statement_1 x3) (fun m15=>some (.bad m15)) fun(x13,x14)=>some (.ok (([x13]:List ApiNode),x14)))else none)))
noncomputable def parse_one_j1 (x7:ApiMistake):Option (ApiNode × ApiMistake):=some ((ApiNode.mk 0 [] [] 0 0 0 0 0 []),x7)
noncomputable def parse_one_j2 (x7:ApiMistake) (x10:ApiNode):Option (ApiNode × ApiMistake):=some (x10,x7)
noncomputable def parse_one (x1:List UInt8) (x2:Option Nat):Option (ApiNode × ApiMistake):=(parse_run (fun p=>parse_one_1 x2 p) x1).bind fun(x6,x7)=>(if(x7.Code != 0)=true then parse_one_j1 x7 else(idx x6 0).bind fun x10=>parse_one_j2 x7 x10)
noncomputable def parse_Member (x1:List UInt8):Option (ApiNode × ApiMistake):=(parse_one x1 (some 31)).bind fun(x4,x5)=>some (x4,x5)
noncomputable def parse_Expression (x1:List UInt8):Option (ApiNode × ApiMistake):=(parse_one x1 (some 32)).bind fun(x4,x5)=>some (x4,x5)
noncomputable def parse_Statement (x1:List UInt8):Option (ApiNode × ApiMistake):=(parse_one x1 (some 34)).bind fun(x4,x5)=>some (x4,x5)
noncomputable def ia (x1:List UInt8):Option ((List ApiNode) × ApiMistake):=(parse_run (fun p=>parse_File_1 p) x1).bind fun(x3,x4)=>some (x3,x4)
noncomputable def cn (x8234:Bool):Option (Bool):=some x8234
noncomputable def law12_awake:Option (Bool):=(parse_Expression ([97,46,98,40,49,41,43,99,42,45,50]:List UInt8)).bind fun(x1,x2)=>(ia ([99,108,97,115,115,32,65,32,123,32,105,110,116,32,102,32,125]:List UInt8)).bind fun(x5,x6)=>(ia ([99,108,97,115,115,32,65,32,123,32,105,110,116,32,102,59,32,125]:List UInt8)).bind fun(x8,x9)=>(parse_Statement ([120,32,61,32,49,59]:List UInt8)).bind fun(x11,x12)=>(parse_Member ([115,116,97,116,105,99,32,105,110,116,32,102,40,41,32,123,32,114,101,116,117,114,110,32,49,59,32,125]:List UInt8)).bind fun(x15,x16)=>(if(x2.Code==0)=true then(if(x1.Kind==24)=true then(if(x1.Text==([43]:List UInt8))=true then(if((x1.Kids.length:Int)==2)=true then(idx x1.Kids 0).bind fun x23=>(if(x23.Kind==20)=true then(idx x1.Kids 1).bind fun x25=>(if(x25.Text==([42]:List UInt8))=true then(if(x6.Code==120)=true then(if(x6.At==16)=true then(if(x9.Code==0)=true then(if((x8.length:Int)==1)=true then(if(x12.Code==0)=true then(if(x11.Kind==7)=true then(if(x16.Code==0)=true then cn (x15.N==1)else cn false)else cn false)else cn false)else cn false)else cn false)else cn false)else cn false)else cn false)else cn false)else cn false)else cn false)else cn false)else cn false)
noncomputable def law12_short (x1:List UInt8):Option (Bool):=some (decide ((x1.length:Int)<=2500))
noncomputable def k3 (x3:Int):Option (Int × Bool):=some (x3,true)
noncomputable def ref03_between_k3 (x29:Int):Option ((Int) ⊕ (Flow Int (Int × Bool))):=some (.inl x29)
noncomputable def jp (x29:Int) (x33:Bool):Option ((Int) ⊕ (Int)):=(if x33=true then some (.inl (w64 (x29+1)))else some (.inr x29))
noncomputable def fv (x1:List UInt8) (x29:Int):Option ((Int) ⊕ (Int)):=(if(decide (x29<(x1.length:Int)))=true then(idxS x1 x29).bind fun x32=>jp x29 (x32 != 10)else jp x29 false)
noncomputable def jo (x1:List UInt8) (x3 x35:Int):Option ((Int) ⊕ (Flow Int (Int × Bool))):=(if(decide ((w64 (x35+1))≥(x1.length:Int)))=true then some (.inr (.done (x3,false)))else some (.inl (w64 (x35+2))))
noncomputable def ie (x35:Int) (x41:Bool):Option ((Int) ⊕ (Int)):=(if x41=true then some (.inl (w64 (x35+1)))else some (.inr x35))
noncomputable def fu (x1:List UInt8) (x35:Int):Option ((Int) ⊕ (Int)):=(if(decide ((w64 (x35+1))<(x1.length:Int)))=true then(idxS x1 x35).bind fun x38=>(if(x38 != 42)=true then ie x35 true else(idxS x1 (w64 (x35+1))).bind fun x40=>ie x35 (x40 != 47))else ie x35 false)
noncomputable def eb (x3:Int) (x1:List UInt8) (x25:Bool):Option ((Int) ⊕ (Flow Int (Int × Bool))):=(if x25=true then some (.inr (.done (x3,true)))else(idxS x1 (w64 (x3+1))).bind fun x27=>(if(x27==47)=true then(iter (fun s=>fv x1 s) x3).bind fun p=>ref03_between_k3 p else(iter (fun s=>fu x1 s) (w64 (x3+2))).bind fun p=>jo x1 x3 p))
noncomputable def c0 (x3:Int) (x1:List UInt8) (x6:Int) (x14:Bool):Option ((Int) ⊕ (Flow Int (Int × Bool))):=(if x14=true then some (.inl (w64 (x3+1)))else(if(decide ((w64 (x3+1))≥(x1.length:Int)))=true then eb x3 x1 true else(if(x6 != 47)=true then eb x3 x1 true else(idxS x1 (w64 (x3+1))).bind fun x18=>(if(x18 != 47)=true then(idxS x1 (w64 (x3+1))).bind fun x20=>eb x3 x1 (x20 != 42)else eb x3 x1 false))))
noncomputable def bt (x1:List UInt8) (x3:Int):Option ((Int) ⊕ (Flow Int (Int × Bool))):=(if(decide (x3<(x1.length:Int)))=true then(idxS x1 x3).bind fun x6=>(if(x6==32)=true then c0 x3 x1 x6 true else(if(x6==9)=true then c0 x3 x1 x6 true else(if(x6==10)=true then c0 x3 x1 x6 true else c0 x3 x1 x6 (x6==13))))else some (.inr (.next x3)))
noncomputable def ref03_between (x1:List UInt8) (x2:Int):Option (Int × Bool):=(iter (fun s=>bt x1 s) x2).bind fun z=>match z with| .next p=>k3 p| .done r=>some r
noncomputable def em (x13:Bool):Option (Bool):=some x13
noncomputable def ke (x1:Int):Option (Bool):=(if(decide (x1≥97))=true then(if(decide (x1<=122))=true then em true else(if(decide (x1≥65))=true then(if(decide (x1<=90))=true then em true else em (x1==95))else em (x1==95)))else(if(decide (x1≥65))=true then(if(decide (x1<=90))=true then em true else em (x1==95))else em (x1==95)))
noncomputable def ref03_digit_j1 (x3:Bool):Option (Bool):=some x3
noncomputable def kb (x1:Int):Option (Bool):=(if(decide (x1≥48))=true then ref03_digit_j1 (decide (x1<=57))else ref03_digit_j1 false)
noncomputable def ref03_Kept_k1:Option (Bool):=some false
noncomputable def ko (x1:List UInt8) (x2:Int):Option ((Int) ⊕ (Flow Unit Bool)):=(if(decide (x2<(([([99,108,97,115,115]:List UInt8),([101,120,116,101,110,100,115]:List UInt8),([115,116,97,116,105,99]:List UInt8),([118,111,105,100]:List UInt8),([105,110,116]:List UInt8),([98,111,111,108,101,97,110]:List UInt8),([105,102]:List UInt8),([101,108,115,101]:List UInt8),([119,104,105,108,101]:List UInt8),([114,101,116,117,114,110]:List UInt8),([112,114,105,110,116]:List UInt8),([116,114,117,101]:List UInt8),([102,97,108,115,101]:List UInt8),([110,117,108,108]:List UInt8),([116,104,105,115]:List UInt8),([110,101,119]:List UInt8)]:List (List UInt8)).length:Int)))=true then(idx ([([99,108,97,115,115]:List UInt8),([101,120,116,101,110,100,115]:List UInt8),([115,116,97,116,105,99]:List UInt8),([118,111,105,100]:List UInt8),([105,110,116]:List UInt8),([98,111,111,108,101,97,110]:List UInt8),([105,102]:List UInt8),([101,108,115,101]:List UInt8),([119,104,105,108,101]:List UInt8),([114,101,116,117,114,110]:List UInt8),([112,114,105,110,116]:List UInt8),([116,114,117,101]:List UInt8),([102,97,108,115,101]:List UInt8),([110,117,108,108]:List UInt8),([116,104,105,115]:List UInt8),([110,101,119]:List UInt8)]:List (List UInt8)) x2).bind fun x5=>(if(x5==x1)=true then some (.inr (.done true))else some (.inl (w64 (x2+1))))else some (.inr (.next ())))
noncomputable def ref03_Kept (x1:List UInt8):Option (Bool):=(iter (fun s=>ko x1 s) 0).bind fun z=>match z with| .next p=>ref03_Kept_k1| .done r=>some r
noncomputable def ref03_great_k1 (x3:Int):Option (Bool):=some (decide (x3>2147483647))
noncomputable def ju (x1:List UInt8) (x3 x4:Int):Option ((Int × Int) ⊕ (Int)):=(if(decide (x4<(x1.length:Int)))=true then(idxS x1 x4).bind fun x8=>some (.inl (w64 ((w64 (10 * x3))+(w64 (IntKind.wrap .u8 (x8 - 48)))),w64 (x4+1)))else some (.inr x3))
noncomputable def ref03_great (x1:List UInt8):Option (Bool):=(if(decide ((x1.length:Int)>10))=true then some true else(iter (fun s=>ju x1 s.1 s.2) (0,0)).bind fun p=>ref03_great_k1 p)
noncomputable def ref03_mark_k1:Option (Int):=some 0
noncomputable def ref03_mark_j3 (x11 x14 x15:Int):Option ((Int) ⊕ (Flow Unit Int)):=(if(x14==x15)=true then some (.inr (.done 1))else some (.inl (w64 (x11+1))))
noncomputable def jm (x1:List UInt8) (x2 x11:Int):Option ((Int) ⊕ (Flow Unit Int)):=(if(decide (x11<(([43,45,42,47,37,60,62,61,33,40,41,123,125,59,44,46]:List UInt8).length:Int)))=true then(idxS x1 x2).bind fun x14=>(idxS ([43,45,42,47,37,60,62,61,33,40,41,123,125,59,44,46]:List UInt8) x11).bind fun x15=>ref03_mark_j3 x11 x14 x15 else some (.inr (.next ())))
noncomputable def ref03_mark_k4 (x1:List UInt8) (x2:Int):Option (Int):=(iter (fun s=>jm x1 x2 s) 0).bind fun z=>match z with| .next p=>ref03_mark_k1| .done r=>some r
noncomputable def ref03_mark_j6 (x3:Int) (x8 x9:List UInt8):Option ((Int) ⊕ (Flow Unit Int)):=(if(x8==x9)=true then some (.inr (.done 2))else some (.inl (w64 (x3+1))))
noncomputable def ref03_mark_j7 (x1:List UInt8) (x2 x3:Int) (x6:Bool):Option ((Int) ⊕ (Flow Unit Int)):=(if x6=true then(sub x1 x2 (w64 (x2+2))).bind fun x8=>(idx ([([61,61]:List UInt8),([33,61]:List UInt8),([60,61]:List UInt8),([62,61]:List UInt8),([38,38]:List UInt8),([124,124]:List UInt8)]:List (List UInt8)) x3).bind fun x9=>ref03_mark_j6 x3 x8 x9 else some (.inr (.next ())))
noncomputable def jl (x1:List UInt8) (x2 x3:Int):Option ((Int) ⊕ (Flow Unit Int)):=(if(decide (x3<(([([61,61]:List UInt8),([33,61]:List UInt8),([60,61]:List UInt8),([62,61]:List UInt8),([38,38]:List UInt8),([124,124]:List UInt8)]:List (List UInt8)).length:Int)))=true then ref03_mark_j7 x1 x2 x3 (decide ((w64 (x2+2))<=(x1.length:Int)))else ref03_mark_j7 x1 x2 x3 false)
noncomputable def ref03_mark (x1:List UInt8) (x2:Int):Option (Int):=(iter (fun s=>jl x1 x2 s) 0).bind fun z=>match z with| .next p=>ref03_mark_k4 x1 x2| .done r=>some r
noncomputable def jt (x6:Int) (x18:Bool):Option (Int × Int × Int):=(if x18=true then some (0,0,31)else some (2,x6,0))
noncomputable def ref03_token_k2 (x1:List UInt8) (x2 x6:Int):Option (Int × Int × Int):=(sub x1 x2 (w64 (x2+x6))).bind fun x13=>(ref03_great x13).bind fun x14=>(if x14=true then jt x6 true else(if(decide (x6>1))=true then(idxS x1 x2).bind fun x17=>jt x6 (x17==48)else jt x6 false))
noncomputable def kv (x6:Int) (x11:Bool):Option ((Int) ⊕ (Int)):=(if x11=true then some (.inl (w64 (x6+1)))else some (.inr x6))
noncomputable def i2 (x2:Int) (x1:List UInt8) (x6:Int):Option ((Int) ⊕ (Int)):=(if(decide ((w64 (x2+x6))<(x1.length:Int)))=true then(idxS x1 (w64 (x2+x6))).bind fun x9=>(kb x9).bind fun x10=>kv x6 x10 else kv x6 false)
noncomputable def ref03_token_k5 (x1:List UInt8) (x2 x23:Int):Option (Int × Int × Int):=(if(decide (x23>20))=true then some (0,0,2)else(sub x1 x2 (w64 (x2+x23))).bind fun x34=>(ref03_Kept x34).bind fun x35=>(if x35=true then some (3,x23,0)else some (1,x23,0)))
noncomputable def js (x23:Int) (x31:Bool):Option ((Int) ⊕ (Int)):=(if x31=true then some (.inl (w64 (x23+1)))else some (.inr x23))
noncomputable def i1 (x2:Int) (x1:List UInt8) (x23:Int):Option ((Int) ⊕ (Int)):=(if(decide ((w64 (x2+x23))<(x1.length:Int)))=true then(idxS x1 (w64 (x2+x23))).bind fun x26=>(ke x26).bind fun x27=>(if x27=true then js x23 true else(idxS x1 (w64 (x2+x23))).bind fun x29=>(kb x29).bind fun x30=>js x23 x30)else js x23 false)
noncomputable def ref03_token (x1:List UInt8) (x2:Int):Option (Int × Int × Int):=(idxS x1 x2).bind fun x3=>(kb x3).bind fun x4=>(if x4=true then(iter (fun s=>i2 x2 x1 s) 0).bind fun p=>ref03_token_k2 x1 x2 p else(idxS x1 x2).bind fun x20=>(ke x20).bind fun x21=>(if x21=true then(iter (fun s=>i1 x2 x1 s) 0).bind fun p=>ref03_token_k5 x1 x2 p else(ref03_mark x1 x2).bind fun x37=>(if(x37==0)=true then some (0,0,30)else some (4,x37,0))))
noncomputable def ref03_Lex_j2 (x9 x17:Int) (x22:List ApiToken):Option ((Int × (List ApiToken)) ⊕ ((List ApiToken) × Int × Int)):=some (.inl (w64 (x9+x17),x22))
noncomputable def dq (x1:List UInt8) (x4:Int) (x5:List ApiToken):Option ((Int × (List ApiToken)) ⊕ ((List ApiToken) × Int × Int)):=(ref03_between x1 x4).bind fun(x9,x10)=>(if(!x10)=true then some (.inr ([],x9,32))else(if(x9==(x1.length:Int))=true then(sub x1 x4 (x1.length:Int)).bind fun x13=>(app 48 x5 ([(ApiToken.mk 5 [] x9 x13)]:List ApiToken)).bind fun x14=>some (.inr (x14,0,0))else(ref03_token x1 x9).bind fun(x16,x17,x18)=>(if(x18 != 0)=true then some (.inr ([],x9,x18))else(sub x1 x9 (w64 (x9+x17))).bind fun x20=>(sub x1 x4 x9).bind fun x21=>(app 48 x5 ([(ApiToken.mk x16 x20 x9 x21)]:List ApiToken)).bind fun x22=>ref03_Lex_j2 x9 x17 x22)))
noncomputable def ref03_Lex (x1:List UInt8):Option ((List ApiToken) × Int × Int):=(if(decide ((x1.length:Int)>1048576))=true then some ([],0,2)else iter (fun s=>dq x1 s.1 s.2) (0,[]))
abbrev de :Type:=(ApiNode->ApiNode->Option (Bool))
noncomputable def ref11_Same_k1 (R:de):Option (Bool):=some true
noncomputable def ref11_Same_j3 (R:de) (x22:Int) (x27:Bool):Option ((Int) ⊕ (Flow Unit Bool)):=(if(!x27)=true then some (.inr (.done false))else some (.inl (w64 (x22+1))))
noncomputable def kn (R:de) (x1 x2:ApiNode) (x22:Int):Option ((Int) ⊕ (Flow Unit Bool)):=(if(decide (x22<(x1.Kids.length:Int)))=true then(idx x1.Kids x22).bind fun x25=>(idx x2.Kids x22).bind fun x26=>(R x25 x26).bind fun x27=>ref11_Same_j3 R x22 x27 else some (.inr (.next ())))
noncomputable def ik (R:de) (x1 x2:ApiNode) (x20:Bool):Option (Bool):=(if x20=true then some false else(iter (fun s=>kn R x1 x2 s) 0).bind fun z=>match z with| .next p=>ref11_Same_k1 R| .done r=>some r)
noncomputable def F_ref11_Same (R:de) (x1 x2:ApiNode):Option (Bool):=(if(x1.Kind != x2.Kind)=true then ik R x1 x2 true else(if(!(x1.Text==x2.Text))=true then ik R x1 x2 true else(if(!(x1.Type_==x2.Type_))=true then ik R x1 x2 true else(if(x1.N != x2.N)=true then ik R x1 x2 true else ik R x1 x2 ((x1.Kids.length:Int) != (x2.Kids.length:Int))))))
noncomputable def rec_ref11_Same_step (R:de):de:=(fun x1 x2=>F_ref11_Same R x1 x2)
noncomputable def gf (n:Nat):de:=Nat.rec (motive:=fun _=>de) (fun x1 x2=>none) (fun _ R=>rec_ref11_Same_step R) n
noncomputable def ref11_Same (x1 x2:ApiNode):Option (Bool):=(gf 1048576) x1 x2
noncomputable def law12_ParseLead_k1:Option (Bool):=some true
noncomputable def j7 (x28:Int) (x33:Bool):Option ((Int) ⊕ (Flow Unit Bool)):=(if(!x33)=true then some (.inr (.done false))else some (.inl (w64 (x28+1))))
noncomputable def fq (x19 x22:List ApiNode) (x28:Int):Option ((Int) ⊕ (Flow Unit Bool)):=(if(decide (x28<(x19.length:Int)))=true then(idx x19 x28).bind fun x31=>(idx x22 x28).bind fun x32=>(ref11_Same x31 x32).bind fun x33=>j7 x28 x33 else some (.inr (.next ())))
noncomputable def im (x19 x22:List ApiNode) (x26:Bool):Option (Bool):=(if x26=true then some false else(iter (fun s=>fq x19 x22 s) 0).bind fun z=>match z with| .next p=>law12_ParseLead_k1| .done r=>some r)
noncomputable def j6 (x1 x10:List UInt8):Option (Bool):=(ia x1).bind fun(x19,x20)=>(ia x10).bind fun(x22,x23)=>(if(x20.Code != x23.Code)=true then im x19 x22 true else im x19 x22 ((x19.length:Int) != (x22.length:Int)))
noncomputable def eo (x6:List ApiToken) (x10:List UInt8) (x11:Int):Option (((List UInt8) × Int) ⊕ ((List UInt8))):=(if(decide (x11<(x6.length:Int)))=true then(cat x10 ([32]:List UInt8)).bind fun x15=>(idx x6 x11).bind fun x16=>(cat x15 x16.Text).bind fun x17=>(cat x17 ([10]:List UInt8)).bind fun x18=>some (.inl (x18,w64 (x11+1)))else some (.inr x10))
noncomputable def law12_ParseLead (x1:List UInt8):Option (Bool):=(law12_awake).bind fun x2=>(if(!x2)=true then some false else(law12_short x1).bind fun x4=>(if(!x4)=true then some true else(ref03_Lex x1).bind fun(x6,x7,x8)=>(if(x8 != 0)=true then some true else(iter (fun s=>eo x6 s.1 s.2) (([47,42,32,97,32,110,111,116,101,32,42,47]:List UInt8),0)).bind fun p=>j6 x1 p)))
end Go.Proofs.YtackaijkmkollaaGreatDoor
