/- The data of the program, and its functions over plain data (printed by wip/gen/gen.py). -/
import Derived.Lib.Index
import Derived.Lib.Bytealg
import Derived.Lib.ParseIntB
import Derived.Test.YtackaijkmkollaaGreatDoorZJ
set_option linter.unusedSimpArgs false
set_option linter.unusedVariables false
set_option linter.unusedSectionVars false
namespace Go.Proofs.YtackaijkmkollaaGreatDoor
open Go
def strings_Index (s sub:List UInt8):Option Int:=if s.length<4294967281 then some (Lib.index s sub)else none
def strings_IndexByte (s:List UInt8) (c:Int):Option Int:=some (Lib.indexByte s c.toNat.toUInt8)
def ei (s:List UInt8) (b k:Int):Option (Int × Bool):=
 if b=10/\k=64/\s.length<=281474976710656 then
  match Lib.parseIntB 64 s with
  | .ok v=>some (v,false)
  | .range=>some (Lib.intSat 64 s,true)
  |_=>none
 else none
def kept :List (List UInt8):=[[99,108,97,115,115],[101,120,116,101,110,100,115],[115,116,97,116,105,99],[118,111,105,100],[105,110,116],[98,111,111,108,101,97,110],[105,102],[101,108,115,101],[119,104,105,108,101],[114,101,116,117,114,110],[112,114,105,110,116],[116,114,117,101],[102,97,108,115,101],[110,117,108,108],[116,104,105,115],[110,101,119]]
def clashes :List (List UInt8 × List UInt8):=[([61],[61]),([33],[61]),([60],[61]),([62],[61]),([47],[47]),([47],[42])]
end Go.Proofs.YtackaijkmkollaaGreatDoor
set_option linter.unusedSectionVars false
set_option maxRecDepth 100000
set_option maxHeartbeats 4000000
namespace Go.Proofs.YtackaijkmkollaaGreatDoor
open Go Go.Cn
structure ApiToken where
 Kind:Int
 Text:List UInt8
 At:Int
 Lead:List UInt8
 deriving DecidableEq
structure ApiNode where
 Kind:Int
 Text:List UInt8
 Type_:List UInt8
 N:Int
 From:Int
 To:Int
 At:Int
 TypeAt:Int
 Kids:List ApiNode
structure ParseParser where
 t:List ApiToken
 at_:Int
 deriving DecidableEq
structure ApiMistake where
 Code:Int
 File:Int
 At:Int
 deriving DecidableEq
structure ParseWrong where
 m:ApiMistake
 deriving DecidableEq
noncomputable def parse_parser_made (x1:ParseParser) (x2 x3:Int) (x4:List ApiNode):Option ApiNode:=(idx x1.t (w64 (x1.at_ - 1))).bind fun x6=>(idx x1.t x3).bind fun x8=>some (ApiNode.mk x2 [] [] 0 x8.At (w64 (x6.At+(x6.Text.length:Int))) (-1) (-1) x4)
noncomputable def lex_Lex_1_j1 (x8:List UInt8) (x10 x2 x3:Int) (x13:List ApiToken):Option ((List ApiToken) × (List UInt8) × Int):=some (x13,x8,w64 (x10+(w64 (x2+x3))))
noncomputable def lex_Lex_1 (x1 x2 x3:Int) (x5:List ApiToken) (x8:List UInt8) (x10:Int):Option ((List ApiToken) × (List UInt8) × Int):=(sub x8 (w64 (x10+x2)) (w64 ((w64 (x10+x2))+x3))).bind fun x11=>(sub x8 x10 (w64 (x10+x2))).bind fun x12=>(app 48 x5 ([(ApiToken.mk x1 x11 (w64 (x10+x2)) x12)]:List ApiToken)).bind fun x13=>lex_Lex_1_j1 x8 x10 x2 x3 x13
noncomputable def bl (x5:Bool):Option (Bool):=some x5
noncomputable def cv (x1 x2:List UInt8):Option (Bool):=(if(decide ((x1.length:Int)≥(x2.length:Int)))=true then(sub x1 0 (x2.length:Int)).bind fun x4=>bl (x4==x2)else bl false)
noncomputable def db (x1 x2:List UInt8):Option (Bool):=(cv x1 x2).bind fun x3=>some x3
noncomputable def lex_run_k1 (x1:List UInt8):Option (Int):=some (x1.length:Int)
noncomputable def lex_run_l2 (x1:List UInt8) (x2:(Int->Option Bool)) (x3:Int):Option ((Int) ⊕ (Flow Unit Int)):=(if(decide (x3<(x1.length:Int)))=true then(idxS x1 x3).bind fun x6=>(x2 x6).bind fun x7=>(if(!x7)=true then some (.inr (.done x3))else some (.inl (w64 (x3+1))))else some (.inr (.next ())))
noncomputable def lex_run (x1:List UInt8) (x2:(Int->Option Bool)):Option (Int):=(iter (fun s=>lex_run_l2 x1 x2 s) 0).bind fun z=>match z with| .next p=>lex_run_k1 x1| .done r=>some r
noncomputable def gv (x1:Int):Option (Bool):=some (x1 != 10)
noncomputable def lex_between_j1 (x2:Int):Option (Int × Bool):=some (x2,true)
noncomputable def lex_between_k2 (x2:Int):Option (Int × Bool):=lex_between_j1 x2
noncomputable def fc (x2:Int):Option ((Int) ⊕ (Flow Int (Int × Bool))):=some (.inl (w64 (x2+1)))
noncomputable def f0 (x1:List UInt8) (x2:Int):Option ((Int) ⊕ (Flow Int (Int × Bool))):=(if(decide (x2<(x1.length:Int)))=true then(sub x1 x2 (x1.length:Int)).bind fun x5=>(db x5 ([47,47]:List UInt8)).bind fun x6=>(if x6=true then(lex_run x5 gv).bind fun x8=>some (.inl (w64 (x2+x8)))else(db x5 ([47,42]:List UInt8)).bind fun x9=>(if x9=true then(sub x5 2 (x5.length:Int)).bind fun x11=>(strings_Index x11 ([42,47]:List UInt8)).bind fun x12=>(if(decide (x12<0))=true then some (.inr (.done (x2,false)))else some (.inl (w64 (x2+(w64 ((w64 (2+x12))+2))))))else(idxS x5 0).bind fun x14=>(if(x14==32)=true then fc x2 else(if(x14==9)=true then fc x2 else(if(x14==13)=true then fc x2 else(if(x14==10)=true then fc x2 else some (.inr (.next x2))))))))else some (.inr (.next x2)))
noncomputable def lex_between (x1:List UInt8):Option (Int × Bool):=(iter (fun s=>f0 x1 s) 0).bind fun z=>match z with| .next p=>lex_between_k2 p| .done r=>some r
noncomputable def lex_digit_j1 (x3:Bool):Option (Bool):=some x3
noncomputable def lex_digit (x1:Int):Option (Bool):=(if(decide (x1≥48))=true then lex_digit_j1 (decide (x1<=57))else lex_digit_j1 false)
noncomputable def lex_letter_j1 (x5:Bool):Option (Bool):=some x5
noncomputable def lex_letter (x1:Int):Option (Bool):=(if(decide ((bits .or .u8 x1 32)≥97))=true then(if(decide ((bits .or .u8 x1 32)<=122))=true then lex_letter_j1 true else lex_letter_j1 (x1==95))else lex_letter_j1 (x1==95))
noncomputable def lex_token_1_j1 (x5:Bool):Option (Bool):=some x5
noncomputable def ik (x1:Int):Option (Bool):=(lex_letter x1).bind fun x2=>(if x2=true then lex_token_1_j1 true else(lex_digit x1).bind fun x4=>lex_token_1_j1 x4)
noncomputable def da:Option (Int):=some (-1)
noncomputable def br (x1:List (List UInt8)) (x2:List UInt8) (x3:Int):Option ((Int) ⊕ (Flow Unit Int)):=(if(decide (x3<(x1.length:Int)))=true then(idx x1 x3).bind fun x6=>(if(x2==x6)=true then some (.inr (.done x3))else some (.inl (w64 (x3+1))))else some (.inr (.next ())))
noncomputable def cr (x1:List (List UInt8)) (x2:List UInt8):Option (Int):=(iter (fun s=>br x1 x2 s) 0).bind fun z=>match z with| .next p=>da| .done r=>some r
noncomputable def cg (x1:List (List UInt8)) (x2:List UInt8):Option (Bool):=(cr x1 x2).bind fun x3=>some (decide (x3≥0))
noncomputable def lex_Kept (x1:List UInt8):Option (Bool):=(cg kept x1).bind fun x2=>some x2
noncomputable def lex_mark_k1 (x1:List UInt8):Option (Int):=(idxS x1 0).bind fun x8=>(strings_IndexByte ([43,45,42,47,37,60,62,61,33,40,41,123,125,59,44,46]:List UInt8) x8).bind fun x9=>(if(decide (x9≥0))=true then some 1 else some 0)
noncomputable def lex_mark_l2 (x1:List UInt8) (x2:Int):Option ((Int) ⊕ (Flow Unit Int)):=(if(decide (x2<(([([61,61]:List UInt8),([33,61]:List UInt8),([60,61]:List UInt8),([62,61]:List UInt8),([38,38]:List UInt8),([124,124]:List UInt8)]:List (List UInt8)).length:Int)))=true then(idx ([([61,61]:List UInt8),([33,61]:List UInt8),([60,61]:List UInt8),([62,61]:List UInt8),([38,38]:List UInt8),([124,124]:List UInt8)]:List (List UInt8)) x2).bind fun x5=>(db x1 x5).bind fun x6=>(if x6=true then some (.inr (.done 2))else some (.inl (w64 (x2+1))))else some (.inr (.next ())))
noncomputable def lex_mark (x1:List UInt8):Option (Int):=(iter (fun s=>lex_mark_l2 x1 s) 0).bind fun z=>match z with| .next p=>lex_mark_k1 x1| .done r=>some r
noncomputable def ge (x5:Int) (x16:Bool):Option (Int × Int × Int):=(if x16=true then some (0,0,31)else some (2,x5,0))
noncomputable def lex_token (x1:List UInt8):Option (Int × Int × Int):=(idxS x1 0).bind fun x2=>(lex_digit x2).bind fun x3=>(if x3=true then(lex_run x1 lex_digit).bind fun x5=>(sub x1 0 x5).bind fun x6=>(ei x6 10 64).bind fun(x7,x8)=>(if x8=true then ge x5 true else(if(decide (x7>2147483647))=true then ge x5 true else(if(decide (x5>1))=true then(idxS x1 0).bind fun x12=>ge x5 (x12==48)else ge x5 false)))else(idxS x1 0).bind fun x18=>(lex_letter x18).bind fun x19=>(if x19=true then(lex_run x1 ik).bind fun x21=>(if(decide (x21>20))=true then some (0,0,2)else(sub x1 0 x21).bind fun x23=>(lex_Kept x23).bind fun x24=>(if x24=true then some (3,x21,0)else some (1,x21,0)))else(lex_mark x1).bind fun x26=>(if(x26==0)=true then some (0,0,30)else some (4,x26,0))))
noncomputable def lex_Lex_j2 (x8 x15:Int):Option (((List UInt8) × Int × (List ApiToken)) ⊕ ((List ApiToken) × Int × Int)):=some (.inr ([],w64 (x8+x15),32))
noncomputable def lex_Lex_j3 (x8 x15 x26:Int):Option (((List UInt8) × Int × (List ApiToken)) ⊕ ((List ApiToken) × Int × Int)):=some (.inr ([],w64 (x8+x15),x26))
noncomputable def dq (x6:List UInt8) (x8:Int) (x9:List ApiToken):Option (((List UInt8) × Int × (List ApiToken)) ⊕ ((List ApiToken) × Int × Int)):=(sub x6 x8 (x6.length:Int)).bind fun x14=>(lex_between x14).bind fun(x15,x16)=>(if(!x16)=true then lex_Lex_j2 x8 x15 else(if((w64 (x8+x15))==(x6.length:Int))=true then(lex_Lex_1 5 x15 0 x9 x6 x8).bind fun(x19,x21,x22)=>some (.inr (x19,0,0))else(sub x6 (w64 (x8+x15)) (x6.length:Int)).bind fun x23=>(lex_token x23).bind fun(x24,x25,x26)=>(if(x26 != 0)=true then lex_Lex_j3 x8 x15 x26 else(lex_Lex_1 x24 x15 x25 x9 x6 x8).bind fun(x28,x30,x31)=>some (.inl (x30,x31,x28)))))
noncomputable def lex_Lex (x1:List UInt8):Option ((List ApiToken) × Int × Int):=(if(decide ((x1.length:Int)>1048576))=true then some ([],0,2)else iter (fun s=>dq s.1 s.2.1 s.2.2) (x1,0,[]))
abbrev cz :Type:=(ApiNode->Option (Int))
noncomputable def node_Depth_k1 (R:cz) (x3:Int):Option (Int):=some (w64 (x3+1))
noncomputable def node_Depth_l2 (R:cz) (x1:ApiNode) (x3 x4:Int):Option ((Int × Int) ⊕ (Int)):=(if(decide (x4<(x1.Kids.length:Int)))=true then(idx x1.Kids x4).bind fun x8=>(R x8).bind fun x10=>some (.inl ((if x10>x3 then x10 else x3),w64 (x4+1)))else some (.inr x3))
noncomputable def F_node_Depth (R:cz) (x1:ApiNode):Option (Int):=(iter (fun s=>node_Depth_l2 R x1 s.1 s.2) (0,0)).bind fun p=>node_Depth_k1 R p
noncomputable def rec_node_Depth_step (R:cz):cz:=(fun x1=>F_node_Depth R x1)
noncomputable def rec_node_Depth_at (n:Nat):cz:=Nat.rec (motive:=fun _=>cz) (fun x1=>none) (fun _ R=>rec_node_Depth_step R) n
noncomputable def node_Depth (x1:ApiNode):Option (Int):=(rec_node_Depth_at 1048576) x1
noncomputable def im (x3:ApiToken):Option (ApiToken):=some x3
noncomputable def bm (x1:ParseParser):Option (ApiToken):=(idx x1.t x1.at_).bind fun x3=>im x3
noncomputable def cb (x1:Int) (x3:ParseParser):Option (PX ParseWrong ParseParser):=(bm x3).bind fun x4=>some (.bad (ParseWrong.mk (ApiMistake.mk x1 0 x4.At)))
noncomputable def ic (x6:Bool):Option (Bool):=some x6
noncomputable def ij (x1:ApiToken) (x2:List UInt8):Option (Bool):=(if(x1.Text==x2)=true then(if(x1.Kind==4)=true then ic true else ic (x1.Kind==3))else ic false)
noncomputable def parse_parser_is (x1:ParseParser) (x2:List UInt8):Option (Bool):=(bm x1).bind fun x3=>(ij x3 x2).bind fun x4=>some x4
noncomputable def a3 (x1:List UInt8) (x3:ParseParser):Option (Bool × ParseParser):=(parse_parser_is x3 x1).bind fun x4=>(if(!x4)=true then some (false,x3)else some (true,{x3 with at_:=w64 (x3.at_+1)}))
noncomputable def az (x1:List UInt8) (x3:ParseParser):Option (PX ParseWrong ParseParser):=(a3 x1 x3).bind fun(x4,x5)=>(if(!x4)=true then(ca (cb 120 x5) (fun m8=>some (.bad m8)) fun x7=>some (.ok x7))else some (.ok x5))
noncomputable def cp (x2:ParseParser):Option (ApiToken × ParseParser):=(bm x2).bind fun x4=>some (x4,{x2 with at_:=w64 (x2.at_+1)})
noncomputable def fg (x8:ParseParser):Option (PX ParseWrong (ApiToken × ParseParser)):=(cp x8).bind fun(x9,x10)=>some (.ok (x9,x10))
noncomputable def cq (x2:ParseParser):Option (PX ParseWrong (ApiToken × ParseParser)):=(bm x2).bind fun x4=>(if(x4.Kind != 1)=true then(ca (cb 120 x2) (fun m7=>some (.bad m7)) fun x6=>fg x6)else fg x2)
noncomputable def parse_named_j1 (x1:ApiNode) (x2:ApiToken):Option (ApiNode):=some ({{x1 with Text:=x2.Text} with At:=x2.At})
noncomputable def fb (x1:ApiNode) (x2:ApiToken):Option (ApiNode):=parse_named_j1 x1 x2
noncomputable def parse_typed_j1 (x1:ApiNode) (x2:ApiToken):Option (ApiNode):=some ({{x1 with Type_:=x2.Text} with TypeAt:=x2.At})
noncomputable def parse_typed (x1:ApiNode) (x2:ApiToken):Option (ApiNode):=parse_typed_j1 x1 x2
noncomputable def fj (x17:Bool):Option (Bool):=some x17
noncomputable def parse_isType (x1:ApiToken):Option (Bool):=(if(x1.Kind==1)=true then fj true else(ij x1 ([105,110,116]:List UInt8)).bind fun x4=>(if x4=true then fj true else(ij x1 ([98,111,111,108,101,97,110]:List UInt8)).bind fun x6=>(if x6=true then fj true else(ij x1 ([118,111,105,100]:List UInt8)).bind fun x8=>fj x8)))
noncomputable def eo (x12:ParseParser):Option (PX ParseWrong (ApiToken × ParseParser)):=(cp x12).bind fun(x13,x14)=>some (.ok (x13,x14))
noncomputable def en (x2:ParseParser) (x8:Bool):Option (PX ParseWrong (ApiToken × ParseParser)):=(if x8=true then(ca (cb 120 x2) (fun m11=>some (.bad m11)) fun x10=>eo x10)else eo x2)
noncomputable def f5 (x2:ParseParser):Option (PX ParseWrong (ApiToken × ParseParser)):=(bm x2).bind fun x4=>(parse_isType x4).bind fun x5=>(if(!x5)=true then en x2 true else(parse_parser_is x2 ([118,111,105,100]:List UInt8)).bind fun x7=>en x2 x7)
noncomputable def f1 (x17:ParseParser) (x22:List ApiNode):Option ((ParseParser × (List ApiNode)) ⊕ (PX ParseWrong ((List ApiNode) × ParseParser))):=(a3 ([41]:List UInt8) x17).bind fun(x24,x25)=>(if x24=true then some (.inr (.ok (x22,x25)))else(ca (az ([44]:List UInt8) x25) (fun m28=>some (.inr (.bad m28))) fun x27=>some (.inl (x27,x22))))
noncomputable def d9 (x8:ParseParser) (x9:List ApiNode):Option ((ParseParser × (List ApiNode)) ⊕ (PX ParseWrong ((List ApiNode) × ParseParser))):=(ca (f5 x8) (fun m30=>some (.inr (.bad m30))) fun(x13,x14)=>(ca (cq x14) (fun m29=>some (.inr (.bad m29))) fun(x16,x17)=>(parse_parser_made x17 4 x8.at_ []).bind fun x19=>(fb x19 x16).bind fun x20=>(parse_typed x20 x13).bind fun x21=>(app 104 x9 ([x21]:List ApiNode)).bind fun x22=>f1 x17 x22))
noncomputable def il (x2:ParseParser):Option (PX ParseWrong ((List ApiNode) × ParseParser)):=(a3 ([41]:List UInt8) x2).bind fun(x3,x4)=>(if x3=true then some (.ok ([],x4))else iter (fun s=>d9 s.1 s.2) (x4,[]))
noncomputable def gr (x4:ApiToken):Option (ApiToken):=some x4
noncomputable def parse_parser_ahead (x1:ParseParser) (x2:Int):Option (ApiToken):=(idx x1.t (if(w64 ((x1.t.length:Int) - 1))<(w64 (x1.at_+x2))then(w64 ((x1.t.length:Int) - 1))else(w64 (x1.at_+x2)))).bind fun x4=>gr x4
noncomputable def dh (x8:Bool):Option (Bool):=some x8
noncomputable def fh (x1:ParseParser):Option (Bool):=(bm x1).bind fun x2=>(parse_isType x2).bind fun x4=>(if x4=true then(if(x2.Kind != 1)=true then dh true else(parse_parser_ahead x1 1).bind fun x7=>dh (x7.Kind==1))else dh false)
noncomputable def ie (x19:Bool):Option (Int):=(if x19=true then some 6 else some 0)
noncomputable def parse_binds_j2 (x1:ApiToken) (x15:Bool):Option (Int):=(if x15=true then some 5 else(if(x1.Text==([42]:List UInt8))=true then ie (x1.Text==([42]:List UInt8))else(if(x1.Text==([47]:List UInt8))=true then ie (x1.Text==([47]:List UInt8))else ie (x1.Text==([37]:List UInt8)))))
noncomputable def fy (x1:ApiToken) (x12:Bool):Option (Int):=(if x12=true then some 4 else(if(x1.Text==([43]:List UInt8))=true then parse_binds_j2 x1 (x1.Text==([43]:List UInt8))else parse_binds_j2 x1 (x1.Text==([45]:List UInt8))))
noncomputable def parse_binds_j4 (x1:ApiToken) (x7:Bool):Option (Int):=(if x7=true then some 3 else(if(x1.Text==([60]:List UInt8))=true then fy x1 (x1.Text==([60]:List UInt8))else(if(x1.Text==([60,61]:List UInt8))=true then fy x1 (x1.Text==([60,61]:List UInt8))else(if(x1.Text==([62]:List UInt8))=true then fy x1 (x1.Text==([62]:List UInt8))else fy x1 (x1.Text==([62,61]:List UInt8))))))
noncomputable def parse_binds (x1:ApiToken):Option (Int):=(if(x1.Kind != 4)=true then some 0 else(if(x1.Text==([124,124]:List UInt8))=true then some 1 else(if(x1.Text==([38,38]:List UInt8))=true then some 2 else(if(x1.Text==([61,61]:List UInt8))=true then parse_binds_j4 x1 (x1.Text==([61,61]:List UInt8))else parse_binds_j4 x1 (x1.Text==([33,61]:List UInt8))))))
noncomputable def el (x1:Int) (x3:ParseParser):Option (PX ParseWrong ParseParser):=(if(decide (x1>60))=true then(ca (cb 2 x3) (fun m6=>some (.bad m6)) fun x5=>some (.ok x5))else some (.ok x3))
noncomputable def parse_words:Option ((SMap ApiNode)):=some (mset ([116,104,105,115]:List UInt8) (ApiNode.mk 16 [] [] 0 0 0 0 0 []) (mset ([110,117,108,108]:List UInt8) (ApiNode.mk 15 [] [] 0 0 0 0 0 []) (mset ([102,97,108,115,101]:List UInt8) (ApiNode.mk 14 [] [] 0 0 0 0 0 []) (mset ([116,114,117,101]:List UInt8) (ApiNode.mk 14 [] [] 1 0 0 0 0 []) ([]:SMap ApiNode)))))
abbrev al :Type:=(Int->Int->ParseParser->Option (PX ParseWrong (ApiNode × ParseParser))) × (Int->ParseParser->Option (PX ParseWrong (ApiNode × ParseParser))) × (Int->ParseParser->Option (PX ParseWrong (ApiNode × ParseParser))) × (Int->ParseParser->Option (PX ParseWrong ((List ApiNode) × ParseParser)))
noncomputable def dj (R:al) (x2 x1:Int) (x4 x9:ParseParser) (x10:ApiNode):Option ((ParseParser × ApiNode) ⊕ (PX ParseWrong (ApiNode × ParseParser))):=(bm x9).bind fun x13=>(parse_binds x13).bind fun x14=>(if(decide (x14<=x2))=true then some (.inr (.ok (x10,x9)))else(cp x9).bind fun(x16,x17)=>(ca (R.1 x1 x14 x17) (fun m23=>some (.inr (.bad m23))) fun(x19,x20)=>(parse_parser_made x20 24 x4.at_ ([x10,x19]:List ApiNode)).bind fun x22=>some (.inl (x20,{x22 with Text:=x16.Text}))))
noncomputable def ff (R:al) (x1 x2:Int) (x4:ParseParser):Option (PX ParseWrong (ApiNode × ParseParser)):=(ca (R.2.1 x1 x4) (fun m24=>some (.bad m24)) fun(x6,x7)=>iter (fun s=>dj R x2 x1 x4 s.1 s.2) (x7,x6))
noncomputable def gk (R:al) (x30:ParseParser) (x26:ApiNode):Option (PX ParseWrong (ApiNode × ParseParser)):=some (.ok (x26,x30))
noncomputable def eq (R:al) (x5:ParseParser) (x32:ApiToken) (x42:Int) (x43:List ApiNode) (x44:ParseParser):Option ((ParseParser × ApiNode) ⊕ (Flow (ParseParser × ApiNode) (PX ParseWrong (ApiNode × ParseParser)))):=(parse_parser_made x44 x42 x5.at_ x43).bind fun x45=>(fb x45 x32).bind fun x46=>some (.inl (x44,x46))
noncomputable def gl (R:al) (x33:ParseParser) (x1:Int) (x26:ApiNode) (x5:ParseParser) (x32:ApiToken):Option ((ParseParser × ApiNode) ⊕ (Flow (ParseParser × ApiNode) (PX ParseWrong (ApiNode × ParseParser)))):=(a3 ([40]:List UInt8) x33).bind fun(x35,x36)=>(if x35=true then(ca (R.2.2.2 (w64 (x1+1)) x36) (fun m41=>some (.inr (.done (.bad m41)))) fun(x38,x39)=>(app 104 ([x26]:List ApiNode) x38).bind fun x40=>eq R x5 x32 20 x40 x39)else eq R x5 x32 18 ([x26]:List ApiNode) x36)
noncomputable def ep (R:al) (x1:Int) (x5 x25:ParseParser) (x26:ApiNode):Option ((ParseParser × ApiNode) ⊕ (Flow (ParseParser × ApiNode) (PX ParseWrong (ApiNode × ParseParser)))):=(a3 ([46]:List UInt8) x25).bind fun(x29,x30)=>(if x29=true then(ca (cq x30) (fun m47=>some (.inr (.done (.bad m47)))) fun(x32,x33)=>gl R x33 x1 x26 x5 x32)else some (.inr (.next (x30,x26))))
noncomputable def gy (R:al) (x1:Int) (x3:ParseParser):Option (PX ParseWrong (ApiNode × ParseParser)):=(ca (el x1 x3) (fun m49=>some (.bad m49)) fun x5=>(a3 ([33]:List UInt8) x5).bind fun(x6,x7)=>(if x6=true then(ca (R.2.1 (w64 (x1+1)) x7) (fun m13=>some (.bad m13)) fun(x9,x10)=>(parse_parser_made x10 22 x5.at_ ([x9]:List ApiNode)).bind fun x12=>some (.ok (x12,x10)))else(a3 ([45]:List UInt8) x7).bind fun(x14,x15)=>(if x14=true then(ca (R.2.1 (w64 (x1+1)) x15) (fun m21=>some (.bad m21)) fun(x17,x18)=>(parse_parser_made x18 23 x5.at_ ([x17]:List ApiNode)).bind fun x20=>some (.ok (x20,x18)))else(ca (R.2.2.1 (w64 (x1+1)) x15) (fun m48=>some (.bad m48)) fun(x22,x23)=>(iter (fun s=>ep R x1 x5 s.1 s.2) (x23,x22)).bind fun z=>match z with| .next p=>gk R p.1 p.2| .done r=>some r))))
noncomputable def fv (R:al) (x42:ParseParser) (x44:ApiNode):Option (PX ParseWrong (ApiNode × ParseParser)):=some (.ok (x44,x42))
noncomputable def d4 (R:al) (x3:ParseParser) (x1:Int):Option (PX ParseWrong (ApiNode × ParseParser)):=(a3 ([110,101,119]:List UInt8) x3).bind fun(x35,x36)=>(if x35=true then(ca (cq x36) (fun m47=>some (.bad m47)) fun(x38,x39)=>(ca (az ([40]:List UInt8) x39) (fun m46=>some (.bad m46)) fun x41=>(ca (az ([41]:List UInt8) x41) (fun m45=>some (.bad m45)) fun x42=>(parse_parser_made x42 21 x3.at_ []).bind fun x43=>(fb x43 x38).bind fun x44=>fv R x42 x44)))else(a3 ([40]:List UInt8) x36).bind fun(x48,x49)=>(if x48=true then(ca (R.1 x1 0 x49) (fun m56=>some (.bad m56)) fun(x51,x52)=>(ca (az ([41]:List UInt8) x52) (fun m55=>some (.bad m55)) fun x54=>some (.ok (x51,x54))))else(ca (cb 120 x49) (fun m58=>some (.bad m58)) fun x57=>some (.ok ((ApiNode.mk 0 [] [] 0 0 0 0 0 []),x57)))))
noncomputable def fu (R:al) (x18:ParseParser) (x21:ApiNode):Option (PX ParseWrong (ApiNode × ParseParser)):=some (.ok (x21,x18))
noncomputable def ft (R:al) (x23:ParseParser) (x25:ApiNode):Option (PX ParseWrong (ApiNode × ParseParser)):=some (.ok (x25,x23))
noncomputable def fr (R:al) (x5:ApiToken) (x3:ParseParser) (x1:Int) (x28:SMap ApiNode):Option (PX ParseWrong (ApiNode × ParseParser)):=(if(mhas x5.Text x28)=true then(cp x3).bind fun(x31,x32)=>(parse_parser_made x32 ((mget x5.Text (ApiNode.mk 0 [] [] 0 0 0 0 0 []) x28).Kind) x3.at_ []).bind fun x33=>some (.ok ({x33 with N:=(mget x5.Text (ApiNode.mk 0 [] [] 0 0 0 0 0 []) x28).N},x32))else d4 R x3 x1)
noncomputable def f3 (R:al) (x1:Int) (x3:ParseParser):Option (PX ParseWrong (ApiNode × ParseParser)):=(bm x3).bind fun x5=>(if(x5.Kind==2)=true then(cp x3).bind fun(x8,x9)=>(parse_parser_made x9 13 x3.at_ []).bind fun x10=>(ei x5.Text 10 64).bind fun(x12,x13)=>some (.ok ({x10 with N:=x12},x9))else(if(x5.Kind==1)=true then(cp x3).bind fun(x15,x16)=>(a3 ([40]:List UInt8) x16).bind fun(x17,x18)=>(if(!x17)=true then(parse_parser_made x18 17 x3.at_ []).bind fun x20=>(fb x20 x5).bind fun x21=>fu R x18 x21 else(ca (R.2.2.2 x1 x18) (fun m26=>some (.bad m26)) fun(x22,x23)=>(parse_parser_made x23 19 x3.at_ x22).bind fun x24=>(fb x24 x5).bind fun x25=>ft R x23 x25))else(if(x5.Kind==3)=true then(parse_words).bind fun x28=>fr R x5 x3 x1 x28 else d4 R x3 x1)))
noncomputable def du (R:al) (x1:Int) (x8:ParseParser) (x9:List ApiNode):Option ((ParseParser × (List ApiNode)) ⊕ (PX ParseWrong ((List ApiNode) × ParseParser))):=(ca (R.1 x1 0 x8) (fun m22=>some (.inr (.bad m22))) fun(x13,x14)=>(app 104 x9 ([x13]:List ApiNode)).bind fun x15=>(a3 ([41]:List UInt8) x14).bind fun(x17,x18)=>(if x17=true then some (.inr (.ok (x15,x18)))else(ca (az ([44]:List UInt8) x18) (fun m21=>some (.inr (.bad m21))) fun x20=>some (.inl (x20,x15)))))
noncomputable def fo (R:al) (x1:Int) (x3:ParseParser):Option (PX ParseWrong ((List ApiNode) × ParseParser)):=(a3 ([41]:List UInt8) x3).bind fun(x4,x5)=>(if x4=true then some (.ok ([],x5))else iter (fun s=>du R x1 s.1 s.2) (x5,[]))
noncomputable def rec_parse_parser_expression_step (R:al):al:=((fun x1 x2 x4=>ff R x1 x2 x4),(fun x1 x3=>gy R x1 x3),(fun x1 x3=>f3 R x1 x3),(fun x1 x3=>fo R x1 x3))
noncomputable def bp (n:Nat):al:=Nat.rec (motive:=fun _=>al) ((fun x1 x2 x4=>none),(fun x1 x3=>none),(fun x1 x3=>none),(fun x1 x3=>none)) (fun _ R=>rec_parse_parser_expression_step R) n
noncomputable def ce (x1 x2:Int) (x4:ParseParser):Option (PX ParseWrong (ApiNode × ParseParser)):=(bp 1048576).1 x1 x2 x4
noncomputable def gm (x16:ParseParser) (x19:ApiNode):Option (PX ParseWrong (ApiNode × ParseParser)):=some (.ok (x19,x16))
noncomputable def f7 (x1:Int) (x3:ParseParser):Option (PX ParseWrong (ApiNode × ParseParser)):=(ca (el x1 x3) (fun m25=>some (.bad m25)) fun x5=>(ca (f5 x5) (fun m24=>some (.bad m24)) fun(x6,x7)=>(ca (cq x7) (fun m23=>some (.bad m23)) fun(x9,x10)=>(ca (az ([61]:List UInt8) x10) (fun m22=>some (.bad m22)) fun x12=>(ca (ce (w64 (x1+1)) 0 x12) (fun m21=>some (.bad m21)) fun(x13,x14)=>(ca (az ([59]:List UInt8) x14) (fun m20=>some (.bad m20)) fun x16=>(parse_parser_made x16 6 x5.at_ ([x13]:List ApiNode)).bind fun x17=>(fb x17 x9).bind fun x18=>(parse_typed x18 x6).bind fun x19=>gm x16 x19))))))
noncomputable def parse_begun:Option ((SMap (Option Nat))):=some (mset ([112,114,105,110,116]:List UInt8) (some 84) (mset ([114,101,116,117,114,110]:List UInt8) (some 83) (mset ([119,104,105,108,101]:List UInt8) (some 82) (mset ([105,102]:List UInt8) (some 81) (mset ([123]:List UInt8) (some 52) ([]:SMap (Option Nat)))))))
noncomputable def er (x3:ParseParser) (x16:Int) (x18:ParseParser) (x19:List ApiNode):Option (PX ParseWrong (ApiNode × ParseParser)):=(ca (az ([59]:List UInt8) x18) (fun m22=>some (.bad m22)) fun x20=>(parse_parser_made x20 x16 x3.at_ x19).bind fun x21=>some (.ok (x21,x20)))
noncomputable def parse_parser_plain (x1:Int) (x3:ParseParser):Option (PX ParseWrong (ApiNode × ParseParser)):=(ca (ce (w64 (x1+1)) 0 x3) (fun m23=>some (.bad m23)) fun(x5,x6)=>(a3 ([61]:List UInt8) x6).bind fun(x8,x9)=>(if x8=true then(ca (ce (w64 (x1+1)) 0 x9) (fun m15=>some (.bad m15)) fun(x11,x12)=>(app 104 ([x5]:List ApiNode) ([x11]:List ApiNode)).bind fun x13=>er x3 7 x12 x13)else er x3 8 x9 ([x5]:List ApiNode)))
noncomputable def parse_parser_back (x1:Int) (x3:ParseParser):Option (PX ParseWrong (ApiNode × ParseParser)):=(ca (az ([114,101,116,117,114,110]:List UInt8) x3) (fun m17=>some (.bad m17)) fun x5=>(a3 ([59]:List UInt8) x5).bind fun(x6,x7)=>(if x6=true then(parse_parser_made x7 11 x3.at_ []).bind fun x9=>some (.ok (x9,x7))else(ca (ce (w64 (x1+1)) 0 x7) (fun m16=>some (.bad m16)) fun(x10,x11)=>(ca (az ([59]:List UInt8) x11) (fun m15=>some (.bad m15)) fun x13=>(parse_parser_made x13 11 x3.at_ ([x10]:List ApiNode)).bind fun x14=>some (.ok (x14,x13))))))
noncomputable def dn (x1:Int) (x3:ParseParser):Option (PX ParseWrong (ApiNode × ParseParser)):=(ca (az ([40]:List UInt8) x3) (fun m12=>some (.bad m12)) fun x5=>(ca (ce x1 0 x5) (fun m11=>some (.bad m11)) fun(x6,x7)=>(ca (az ([41]:List UInt8) x7) (fun m10=>some (.bad m10)) fun x9=>some (.ok (x6,x9)))))
noncomputable def parse_parser_show (x1:Int) (x3:ParseParser):Option (PX ParseWrong (ApiNode × ParseParser)):=(ca (az ([112,114,105,110,116]:List UInt8) x3) (fun m13=>some (.bad m13)) fun x5=>(ca (dn (w64 (x1+1)) x5) (fun m12=>some (.bad m12)) fun(x6,x7)=>(ca (az ([59]:List UInt8) x7) (fun m11=>some (.bad m11)) fun x9=>(parse_parser_made x9 12 x3.at_ ([x6]:List ApiNode)).bind fun x10=>some (.ok (x10,x9)))))
abbrev ar :Type:=(Int->ParseParser->Option (PX ParseWrong (ApiNode × ParseParser))) × (Int->ParseParser->Option (PX ParseWrong (ApiNode × ParseParser))) × (Int->ParseParser->Option (PX ParseWrong (ApiNode × ParseParser))) × (Int->ParseParser->Option (PX ParseWrong (ApiNode × ParseParser)))
noncomputable def gq (R:ar) (x3 x13:ParseParser) (x8:List ApiNode):Option (PX ParseWrong (ApiNode × ParseParser)):=(parse_parser_made x13 5 x3.at_ x8).bind fun x27=>some (.ok (x27,x13))
noncomputable def ez (R:ar) (x1:Int) (x7:ParseParser) (x8:List ApiNode):Option ((ParseParser × (List ApiNode)) ⊕ (Flow (ParseParser × (List ApiNode)) (PX ParseWrong (ApiNode × ParseParser)))):=(a3 ([125]:List UInt8) x7).bind fun(x12,x13)=>(if(!x12)=true then(fh x13).bind fun x15=>(if x15=true then(ca (f7 (w64 (x1+1)) x13) (fun m21=>some (.inr (.done (.bad m21)))) fun(x17,x18)=>(app 104 x8 ([x17]:List ApiNode)).bind fun x19=>some (.inl (x18,x19)))else(ca (R.2.1 (w64 (x1+1)) x13) (fun m26=>some (.inr (.done (.bad m26)))) fun(x22,x23)=>(app 104 x8 ([x22]:List ApiNode)).bind fun x24=>some (.inl (x23,x24))))else some (.inr (.next (x13,x8))))
noncomputable def gz (R:ar) (x1:Int) (x3:ParseParser):Option (PX ParseWrong (ApiNode × ParseParser)):=(ca (az ([123]:List UInt8) x3) (fun m29=>some (.bad m29)) fun x5=>(iter (fun s=>ez R x1 s.1 s.2) (x5,[])).bind fun z=>match z with| .next p=>gq R x3 p.1 p.2| .done r=>some r)
noncomputable def dt (R:ar) (x6:ApiToken) (x8:SMap (Option Nat)) (x1:Int) (x5:ParseParser) (x10:Bool):Option (PX ParseWrong (ApiNode × ParseParser)):=(if x10=true then(if decide ((mget x6.Text none x8)=some 52)=true then(ca (R.1 x1 x5) (fun m15=>some (.bad m15)) fun(x13,x14)=>some (.ok (x13,x14)))else(if decide ((mget x6.Text none x8)=some 81)=true then(ca (R.2.2.1 x1 x5) (fun m19=>some (.bad m19)) fun(x17,x18)=>some (.ok (x17,x18)))else(if decide ((mget x6.Text none x8)=some 82)=true then(ca (R.2.2.2 x1 x5) (fun m23=>some (.bad m23)) fun(x21,x22)=>some (.ok (x21,x22)))else(if decide ((mget x6.Text none x8)=some 83)=true then(ca (parse_parser_back x1 x5) (fun m27=>some (.bad m27)) fun(x25,x26)=>some (.ok (x25,x26)))else(if decide ((mget x6.Text none x8)=some 84)=true then(ca (parse_parser_show x1 x5) (fun m31=>some (.bad m31)) fun(x29,x30)=>some (.ok (x29,x30)))else none)))))else(ca (parse_parser_plain x1 x5) (fun m34=>some (.bad m34)) fun(x32,x33)=>some (.ok (x32,x33))))
noncomputable def fe (R:ar) (x6:ApiToken) (x1:Int) (x5:ParseParser) (x8:SMap (Option Nat)):Option (PX ParseWrong (ApiNode × ParseParser)):=(if(mhas x6.Text x8)=true then dt R x6 x8 x1 x5 (x6.Kind != 1)else dt R x6 x8 x1 x5 false)
noncomputable def fm (R:ar) (x1:Int) (x3:ParseParser):Option (PX ParseWrong (ApiNode × ParseParser)):=(ca (el x1 x3) (fun m35=>some (.bad m35)) fun x5=>(bm x5).bind fun x6=>(parse_begun).bind fun x8=>fe R x6 x1 x5 x8)
noncomputable def ed (R:ar) (x3 x22:ParseParser) (x23:List ApiNode):Option (PX ParseWrong (ApiNode × ParseParser)):=(parse_parser_made x22 9 x3.at_ x23).bind fun x24=>some (.ok (x24,x22))
noncomputable def gt (R:ar) (x1:Int) (x3:ParseParser):Option (PX ParseWrong (ApiNode × ParseParser)):=(ca (az ([105,102]:List UInt8) x3) (fun m27=>some (.bad m27)) fun x5=>(ca (dn (w64 (x1+1)) x5) (fun m26=>some (.bad m26)) fun(x6,x7)=>(ca (R.2.1 (w64 (x1+1)) x7) (fun m25=>some (.bad m25)) fun(x9,x10)=>(app 104 ([x6]:List ApiNode) ([x9]:List ApiNode)).bind fun x11=>(a3 ([101,108,115,101]:List UInt8) x10).bind fun(x13,x14)=>(if x13=true then(ca (R.2.1 (w64 (x1+1)) x14) (fun m20=>some (.bad m20)) fun(x16,x17)=>(app 104 x11 ([x16]:List ApiNode)).bind fun x18=>ed R x3 x17 x18)else ed R x3 x14 x11))))
noncomputable def ip (R:ar) (x1:Int) (x3:ParseParser):Option (PX ParseWrong (ApiNode × ParseParser)):=(ca (az ([119,104,105,108,101]:List UInt8) x3) (fun m15=>some (.bad m15)) fun x5=>(ca (dn (w64 (x1+1)) x5) (fun m14=>some (.bad m14)) fun(x6,x7)=>(ca (R.2.1 (w64 (x1+1)) x7) (fun m13=>some (.bad m13)) fun(x9,x10)=>(parse_parser_made x10 10 x3.at_ ([x6,x9]:List ApiNode)).bind fun x12=>some (.ok (x12,x10)))))
noncomputable def rec_parse_parser_block_step (R:ar):ar:=((fun x1 x3=>gz R x1 x3),(fun x1 x3=>fm R x1 x3),(fun x1 x3=>gt R x1 x3),(fun x1 x3=>ip R x1 x3))
noncomputable def bw (n:Nat):ar:=Nat.rec (motive:=fun _=>ar) ((fun x1 x3=>none),(fun x1 x3=>none),(fun x1 x3=>none),(fun x1 x3=>none)) (fun _ R=>rec_parse_parser_block_step R) n
noncomputable def parse_parser_block (x1:Int) (x3:ParseParser):Option (PX ParseWrong (ApiNode × ParseParser)):=(bw 1048576).1 x1 x3
noncomputable def parse_parser_statement (x1:Int) (x3:ParseParser):Option (PX ParseWrong (ApiNode × ParseParser)):=(bw 1048576).2.1 x1 x3
noncomputable def f2 (x39:ParseParser) (x44:ApiNode):Option (PX ParseWrong (ApiNode × ParseParser)):=some (.ok (x44,x39))
noncomputable def ec (x15 x12:ApiToken) (x39:ParseParser) (x42:ApiNode):Option (PX ParseWrong (ApiNode × ParseParser)):=(fb x42 x15).bind fun x43=>(parse_typed x43 x12).bind fun x44=>f2 x39 x44
noncomputable def dm (x4:Bool) (x15 x12:ApiToken) (x39:ParseParser) (x40:ApiNode):Option (PX ParseWrong (ApiNode × ParseParser)):=(if x4=true then ec x15 x12 x39 ({x40 with N:=1})else ec x15 x12 x39 x40)
noncomputable def eb (x2:ParseParser) (x4:Bool) (x11:ParseParser):Option (PX ParseWrong (ApiNode × ParseParser)):=(cp x11).bind fun(x12,x13)=>(ca (cq x13) (fun m45=>some (.bad m45)) fun(x15,x16)=>(a3 ([40]:List UInt8) x16).bind fun(x19,x20)=>(if x19=true then(ca (il x20) (fun m31=>some (.bad m31)) fun(x22,x23)=>(ca (parse_parser_block 1 x23) (fun m30=>some (.bad m30)) fun(x25,x26)=>(app 104 x22 ([x25]:List ApiNode)).bind fun x27=>(parse_parser_made x26 3 x2.at_ x27).bind fun x29=>dm x4 x15 x12 x26 x29))else(ij x12 ([118,111,105,100]:List UInt8)).bind fun x32=>(if x32=true then(ca (cb 120 x20) (fun m35=>some (.bad m35)) fun x34=>dm x4 x15 x12 x34 (ApiNode.mk 0 [] [] 0 0 0 0 0 []))else(ca (az ([59]:List UInt8) x20) (fun m38=>some (.bad m38)) fun x36=>(parse_parser_made x36 2 x2.at_ []).bind fun x37=>dm x4 x15 x12 x36 x37))))
noncomputable def fq (x2:ParseParser):Option (PX ParseWrong (ApiNode × ParseParser)):=(a3 ([115,116,97,116,105,99]:List UInt8) x2).bind fun(x4,x5)=>(bm x5).bind fun x6=>(parse_isType x6).bind fun x7=>(if(!x7)=true then(ca (cb 120 x5) (fun m10=>some (.bad m10)) fun x9=>eb x2 x4 x9)else eb x2 x4 x5)
noncomputable def ey (x25:ParseParser) (x37:ApiNode):Option (PX ParseWrong (ApiNode × ParseParser)):=some (.ok (x37,x25))
noncomputable def gp (x9:Bool) (x16:ApiToken) (x25:ParseParser) (x33:ApiNode):Option (PX ParseWrong (ApiNode × ParseParser)):=(if x9=true then(parse_typed x33 x16).bind fun x36=>ey x25 x36 else ey x25 x33)
noncomputable def gn (x2:ParseParser) (x5:ApiToken) (x9:Bool) (x16:ApiToken) (x25:ParseParser) (x20:List ApiNode):Option (PX ParseWrong (ApiNode × ParseParser)):=(parse_parser_made x25 1 x2.at_ x20).bind fun x32=>(fb x32 x5).bind fun x33=>gp x9 x16 x25 x33
noncomputable def ev (x19:ParseParser) (x20:List ApiNode):Option ((ParseParser × (List ApiNode)) ⊕ (Flow (ParseParser × (List ApiNode)) (PX ParseWrong (ApiNode × ParseParser)))):=(a3 ([125]:List UInt8) x19).bind fun(x24,x25)=>(if(!x24)=true then(ca (fq x25) (fun m31=>some (.inr (.done (.bad m31)))) fun(x27,x28)=>(app 104 x20 ([x27]:List ApiNode)).bind fun x29=>some (.inl (x28,x29)))else some (.inr (.next (x25,x20))))
noncomputable def ew (x2:ParseParser) (x5:ApiToken) (x9:Bool) (x15:ParseParser) (x16:ApiToken):Option (PX ParseWrong (ApiNode × ParseParser)):=(ca (az ([123]:List UInt8) x15) (fun m39=>some (.bad m39)) fun x17=>(iter (fun s=>ev s.1 s.2) (x17,[])).bind fun z=>match z with| .next p=>gn x2 x5 x9 x16 p.1 p.2| .done r=>some r)
noncomputable def parse_parser_class (x2:ParseParser):Option (PX ParseWrong (ApiNode × ParseParser)):=(ca (az ([99,108,97,115,115]:List UInt8) x2) (fun m41=>some (.bad m41)) fun x4=>(ca (cq x4) (fun m40=>some (.bad m40)) fun(x5,x6)=>(a3 ([101,120,116,101,110,100,115]:List UInt8) x6).bind fun(x9,x10)=>(if x9=true then(ca (cq x10) (fun m14=>some (.bad m14)) fun(x12,x13)=>ew x2 x5 x9 x13 x12)else ew x2 x5 x9 x10 (ApiToken.mk 0 [] 0 []))))
noncomputable def parse_File_1_k1 (x4:ParseParser) (x5:List ApiNode):Option (PX ParseWrong ((List ApiNode) × ParseParser)):=some (.ok (x5,x4))
noncomputable def parse_File_1_l2 (x4:ParseParser) (x5:List ApiNode):Option ((ParseParser × (List ApiNode)) ⊕ (Flow (ParseParser × (List ApiNode)) (PX ParseWrong ((List ApiNode) × ParseParser)))):=(bm x4).bind fun x9=>(if(x9.Kind != 5)=true then(ca (parse_parser_class x4) (fun m15=>some (.inr (.done (.bad m15)))) fun(x11,x12)=>(app 104 x5 ([x11]:List ApiNode)).bind fun x13=>some (.inl (x12,x13)))else some (.inr (.next (x4,x5))))
noncomputable def parse_File_1 (x2:ParseParser):Option (PX ParseWrong ((List ApiNode) × ParseParser)):=(iter (fun s=>parse_File_1_l2 s.1 s.2) (x2,[])).bind fun z=>match z with| .next p=>parse_File_1_k1 p.1 p.2| .done r=>some r
noncomputable def io (x1:Int) (x3:ParseParser):Option (PX ParseWrong (ApiNode × ParseParser)):=(fh x3).bind fun x5=>(if x5=true then(ca (f7 x1 x3) (fun m9=>some (.bad m9)) fun(x7,x8)=>some (.ok (x7,x8)))else(ca (parse_parser_statement x1 x3) (fun m12=>some (.bad m12)) fun(x10,x11)=>some (.ok (x10,x11))))
noncomputable def parse_Expression_1 (x2:ParseParser):Option (PX ParseWrong (ApiNode × ParseParser)):=(ca (ce 1 0 x2) (fun m6=>some (.bad m6)) fun(x4,x5)=>some (.ok (x4,x5)))
noncomputable def parse_Statement_1 (x2:ParseParser):Option (PX ParseWrong (ApiNode × ParseParser)):=(ca (io 1 x2) (fun m6=>some (.bad m6)) fun(x4,x5)=>some (.ok (x4,x5)))
noncomputable def parse_run_k1 (x10:List ApiNode):Option (PX ParseWrong ((List ApiNode) × ApiMistake)):=some (.ok (x10,(ApiMistake.mk 0 0 0)))
noncomputable def parse_run_j3 (x26:ApiNode):Option ((Int) ⊕ (Flow Unit (PX ParseWrong ((List ApiNode) × ApiMistake)))):=some (.inr (.done (.ok ([],(ApiMistake.mk 2 0 x26.From)))))
noncomputable def parse_run_j4 (x26:ApiNode):Option ((Int) ⊕ (Flow Unit (PX ParseWrong ((List ApiNode) × ApiMistake)))):=parse_run_j3 x26
noncomputable def parse_run_l2 (x10:List ApiNode) (x5:List ApiToken) (x17:Int):Option ((Int) ⊕ (Flow Unit (PX ParseWrong ((List ApiNode) × ApiMistake)))):=(if(decide (x17<(x10.length:Int)))=true then(idx x10 x17).bind fun x20=>(node_Depth x20).bind fun x22=>(if(decide (x22>200))=true then(if(x20.Kind != 1)=true then(idx x5 0).bind fun x25=>parse_run_j4 ({x20 with From:=x25.At})else parse_run_j4 x20)else some (.inl (w64 (x17+1))))else some (.inr (.next ())))
noncomputable def iu (x10:List ApiNode) (x5:List ApiToken) (x16:ParseParser):Option (PX ParseWrong ((List ApiNode) × ApiMistake)):=(iter (fun s=>parse_run_l2 x10 x5 s) 0).bind fun z=>match z with| .next p=>parse_run_k1 x10| .done r=>some r
noncomputable def parse_runQ (F:(ParseParser->Option (PX ParseWrong ((List ApiNode) × ParseParser)))) (x1:List UInt8):Option (PX ParseWrong ((List ApiNode) × ApiMistake)):=(lex_Lex x1).bind fun(x5,x6,x7)=>(if(x7 != 0)=true then some (.ok ([],(ApiMistake.mk x7 0 x6)))else(ca (F (ParseParser.mk x5 0)) (fun m27=>some (.bad m27)) fun(x10,x11)=>(bm x11).bind fun x12=>(if(x12.Kind != 5)=true then(ca (cb 120 x11) (fun m15=>some (.bad m15)) fun x14=>iu x10 x5 x14)else iu x10 x5 x11)))
noncomputable def parse_run (F:(ParseParser->Option (PX ParseWrong ((List ApiNode) × ParseParser)))) (x1:List UInt8):Option (List ApiNode × ApiMistake):=(parse_runQ F x1).bind fun x=>match x with| .ok a=>some a| .bad m=>some ([],m.m)
noncomputable def parse_one_1 (x1:Option Nat) (x3:ParseParser):Option (PX ParseWrong ((List ApiNode) × ParseParser)):=(if decide (x1=some 31)=true then(ca (fq x3) (fun m7=>some (.bad m7)) fun(x5,x6)=>some (.ok (([x5]:List ApiNode),x6)))else(if decide (x1=some 32)=true then(ca (parse_Expression_1 x3) (fun m11=>some (.bad m11)) fun(x9,x10)=>some (.ok (([x9]:List ApiNode),x10)))else(if decide (x1=some 34)=true then(ca (parse_Statement_1 x3) (fun m15=>some (.bad m15)) fun(x13,x14)=>some (.ok (([x13]:List ApiNode),x14)))else none)))
noncomputable def parse_one_j1 (x7:ApiMistake):Option (ApiNode × ApiMistake):=some ((ApiNode.mk 0 [] [] 0 0 0 0 0 []),x7)
noncomputable def parse_one_j2 (x7:ApiMistake) (x10:ApiNode):Option (ApiNode × ApiMistake):=some (x10,x7)
noncomputable def parse_one (x1:List UInt8) (x2:Option Nat):Option (ApiNode × ApiMistake):=(parse_run (fun p=>parse_one_1 x2 p) x1).bind fun(x6,x7)=>(if(x7.Code != 0)=true then parse_one_j1 x7 else(idx x6 0).bind fun x10=>parse_one_j2 x7 x10)
noncomputable def parse_Member (x1:List UInt8):Option (ApiNode × ApiMistake):=(parse_one x1 (some 31)).bind fun(x4,x5)=>some (x4,x5)
noncomputable def ej (x1:List UInt8):Option (ApiNode × ApiMistake):=(parse_one x1 (some 32)).bind fun(x4,x5)=>some (x4,x5)
noncomputable def fk (x1:List UInt8):Option (ApiNode × ApiMistake):=(parse_one x1 (some 34)).bind fun(x4,x5)=>some (x4,x5)
noncomputable def parse_File (x1:List UInt8):Option ((List ApiNode) × ApiMistake):=(parse_run (fun p=>parse_File_1 p) x1).bind fun(x3,x4)=>some (x3,x4)
noncomputable def bq (x8234:Bool):Option (Bool):=some x8234
noncomputable def law12_awake:Option (Bool):=(ej ([97,46,98,40,49,41,43,99,42,45,50]:List UInt8)).bind fun(x1,x2)=>(parse_File ([99,108,97,115,115,32,65,32,123,32,105,110,116,32,102,32,125]:List UInt8)).bind fun(x5,x6)=>(parse_File ([99,108,97,115,115,32,65,32,123,32,105,110,116,32,102,59,32,125]:List UInt8)).bind fun(x8,x9)=>(fk ([120,32,61,32,49,59]:List UInt8)).bind fun(x11,x12)=>(parse_Member ([115,116,97,116,105,99,32,105,110,116,32,102,40,41,32,123,32,114,101,116,117,114,110,32,49,59,32,125]:List UInt8)).bind fun(x15,x16)=>(if(x2.Code==0)=true then(if(x1.Kind==24)=true then(if(x1.Text==([43]:List UInt8))=true then(if((x1.Kids.length:Int)==2)=true then(idx x1.Kids 0).bind fun x23=>(if(x23.Kind==20)=true then(idx x1.Kids 1).bind fun x25=>(if(x25.Text==([42]:List UInt8))=true then(if(x6.Code==120)=true then(if(x6.At==16)=true then(if(x9.Code==0)=true then(if((x8.length:Int)==1)=true then(if(x12.Code==0)=true then(if(x11.Kind==7)=true then(if(x16.Code==0)=true then bq (x15.N==1)else bq false)else bq false)else bq false)else bq false)else bq false)else bq false)else bq false)else bq false)else bq false)else bq false)else bq false)else bq false)else bq false)
noncomputable def gb (x38:Bool):Option (Bool):=some x38
noncomputable def dw (x25 x32:ApiMistake) (x36:Int):Option (Bool):=(if(x25.Code==x36)=true then gb (x32.Code==x36)else gb false)
noncomputable def ga (x1:Int) (x5 x6 x7 x8:List UInt8):Option (Bool):=(cat x5 ([120]:List UInt8)).bind fun x22=>(cat x22 x6).bind fun x23=>(ej x23).bind fun(x24,x25)=>(cat ([123]:List UInt8) x7).bind fun x28=>(cat x28 x8).bind fun x29=>(cat x29 ([125]:List UInt8)).bind fun x30=>(fk x30).bind fun(x31,x32)=>(if(decide ((bits .and .i64 x1 127)>59))=true then dw x25 x32 2 else dw x25 x32 0)
noncomputable def f8 (x1 x2:Int) (x5 x6 x7 x8:List UInt8) (x9:Int):Option (((List UInt8) × (List UInt8) × (List UInt8) × (List UInt8) × Int) ⊕ ((List UInt8) × (List UInt8) × (List UInt8) × (List UInt8))):=(if(decide (x9<(bits .and .i64 x1 127)))=true then(idx ([([40]:List UInt8),([33]:List UInt8),([45]:List UInt8),([102,40]:List UInt8)]:List (List UInt8)) (bits .and .i64 x2 3)).bind fun x16=>(cat x5 x16).bind fun x17=>(idx ([([41]:List UInt8),[],[],([41]:List UInt8)]:List (List UInt8)) (bits .and .i64 x2 3)).bind fun x18=>(cat x6 x18).bind fun x19=>(cat x7 ([123]:List UInt8)).bind fun x20=>(cat x8 ([125]:List UInt8)).bind fun x21=>some (.inl (x17,x19,x20,x21,w64 (x9+1)))else some (.inr (x5,x6,x7,x8)))
noncomputable def gi (x1 x2:Int):Option (Bool):=(law12_awake).bind fun x3=>(if(!x3)=true then some false else(iter (fun s=>f8 x1 x2 s.1 s.2.1 s.2.2.1 s.2.2.2.1 s.2.2.2.2) ([],[],[],[],0)).bind fun p=>ga x1 p.1 p.2.1 p.2.2.1 p.2.2.2)
end Go.Proofs.YtackaijkmkollaaGreatDoor
