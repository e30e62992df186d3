/- The data of the program, and its functions over plain data (printed by wip/gen/gen.py). -/
import Derived.Lib.Index
import Derived.Lib.Bytealg
import Derived.Lib.ParseIntB
import Derived.Lib.Join
import Derived.Lib.ItoaNum
import Derived.Test.YtgkcoicaopilhaaGreatDoorZJ
set_option linter.unusedSimpArgs false
set_option linter.unusedVariables false
set_option linter.unusedSectionVars false
namespace Go.Proofs.YtgkcoicaopilhaaGreatDoor
open Go
def strings_Index (s sub:List UInt8):Option Int:=if s.length<4294967281 then some (Lib.index s sub)else none
def strings_IndexByte (s:List UInt8) (c:Int):Option Int:=some (Lib.indexByte s c.toNat.toUInt8)
def j7 (s:List UInt8) (b k:Int):Option (Int × Bool):=
 if b=10/\k=64/\s.length<=281474976710656 then
  match Lib.parseIntB 64 s with
  | .ok v=>some (v,false)
  | .range=>some (Lib.intSat 64 s,true)
  |_=>none
 else none
def kept :List (List UInt8):=[[99,108,97,115,115],[101,120,116,101,110,100,115],[115,116,97,116,105,99],[118,111,105,100],[105,110,116],[98,111,111,108,101,97,110],[105,102],[101,108,115,101],[119,104,105,108,101],[114,101,116,117,114,110],[112,114,105,110,116],[116,114,117,101],[102,97,108,115,101],[110,117,108,108],[116,104,105,115],[110,101,119]]
def strings_Join (l:List (List UInt8)) (sep:List UInt8):Option (List UInt8):=if l.length<=140737488355328/\(Lib.join l sep).length<=140737488355328 then some (Lib.join l sep)else none
def fh (n b:Int):Option (List UInt8):=if b=10/\ -9223372036854775808<=n/\n<=9223372036854775807 then some (Lib.itoa n)else none
def shape_eraser (names:List (List UInt8)):Option (List UInt8->Option (List UInt8)):=if names.length<=140737488355328 then some fun s=>some (if s∈names/\s≠[]then[95]else s)else none
def lcsRow (k:IntKind) (x:Int):List Int->List Int->List Int
 | [],_=>[0]
 |y::b,n0::ns=>(if x==y then k.wrap (ns.headD 0+1)else if(lcsRow k x b ns).headD 0>n0 then(lcsRow k x b ns).headD 0 else n0)::lcsRow k x b ns
 |_::_,[]=>[]
def eg (k:IntKind):List Int->List Int->List (List Int)
 | [],b=>[List.replicate (b.length+1) 0]
 |x::a,b=>lcsRow k x b ((eg k a b).headD [])::eg k a b
def lcs_left (a b:List Int):Option (List (List Int)):=if a.length<=100000/\b.length<=100000 then some (eg .i32 a b)else none
def ref05_table (a b:List Int):Option (List (List Int)):=if a.length<=100000/\b.length<=100000 then some (eg .i64 a b)else none
end Go.Proofs.YtgkcoicaopilhaaGreatDoor
namespace Go.Proofs.YtgkcoicaopilhaaGreatDoor
open Go
theorem lcsRow_len (k:IntKind) (x:Int):∀(b nxt:List Int),nxt.length=b.length+1->(lcsRow k x b nxt).length=b.length+1
 | [],_,_=>rfl
 |y::b,n0::ns,h=>by
  simp only[lcsRow,List.length_cons]at h ⊢
  rw[lcsRow_len k x b ns (by omega)]
 |y::b,[],h=>by simp at h
theorem lcsRows_lens (k:IntKind):∀(a b:List Int),(eg k a b).length=a.length+1/\∀l∈eg k a b,l.length=b.length+1
 | [],b=>⟨rfl,fun l hl=>by simp[eg]at hl;rw[hl];simp⟩
 |x::a,b=>by
  obtain⟨h1,h2⟩:=lcsRows_lens k a b
  have hd:((eg k a b).headD []).length=b.length+1:=by
   cases hr:eg k a b with
   |nil=>rw[hr]at h1;simp at h1
   |cons l ls=>exact h2 l (by rw[hr];simp)
  refine⟨by simp[eg,h1],fun l hl=> ?_⟩
  simp only[eg,List.mem_cons]at hl
  rcases hl with rfl|hl
  ·exact lcsRow_len k x b _ hd
  ·exact h2 l hl
theorem lcsRows_drop (k:IntKind):∀(i:Nat) (a b:List Int),i<=a.length->(eg k a b).drop i=eg k (a.drop i) b
 | 0,_,_,_=>rfl
 |i+1,x::a,b,h=>by
  simp only[eg,List.drop_succ_cons]
  exact lcsRows_drop k i a b (by simpa using h)
 |i+1,[],_,h=>by simp at h
theorem lcsRows_at (k:IntKind) {a b:List Int} {i:Nat} {x:Int} (hx:a[i]? =some x):∃nxt,(eg k a b)[i+1]? =some nxt/\nxt.length=b.length+1/\(eg k a b)[i]? =some (lcsRow k x b nxt):=by
 have hi:=(List.getElem?_eq_some_iff.1 hx).1
 obtain⟨h1,h2⟩:=lcsRows_lens k a b
 have hl:i+1<(eg k a b).length:=by omega
 refine⟨(eg k a b)[i+1],by simp[hl],h2 _ (List.getElem_mem _),?_⟩
 have hd:=lcsRows_drop k i a b (by omega)
 have hdx:a.drop i=x::a.drop (i+1):=by
  rw[List.drop_eq_getElem_cons hi]
  have:a[i]=x:=(List.getElem?_eq_some_iff.1 hx).2
  rw[this]
 rw[hdx]at hd
 simp only[eg]at hd
 have h0:(eg k a b)[i]? =((eg k a b).drop i)[0]? :=by simp
 rw[h0,hd]
 have hn:(eg k (a.drop (i+1)) b).headD []=(eg k a b)[i+1]:=by
  rw[← lcsRows_drop k (i+1) a b (by omega),List.drop_eq_getElem_cons hl]
  rfl
 rw[hn]
 rfl
def part (k:IntKind) (x:Int) (b nxt:List Int) (j:Nat):List Int:=List.replicate j 0++lcsRow k x (b.drop j) (nxt.drop j)
theorem part_end {k:IntKind} {x:Int} {b nxt:List Int}:part k x b nxt b.length=List.replicate (b.length+1) 0:=by
 unfold part
 rw[List.drop_length]
 simp only[lcsRow]
 rw[List.replicate_succ']
theorem part_zero {k:IntKind} {x:Int} {b nxt:List Int}:part k x b nxt 0=lcsRow k x b nxt:=by simp[part]
theorem part_step {k:IntKind} {x:Int} {b nxt:List Int} {j:Nat} {y:Int} (hn:nxt.length=b.length+1) (hy:b[j]? =some y):∃n0 n1 r1,nxt[j]? =some n0/\nxt[j+1]? =some n1/\(part k x b nxt (j+1))[j]? =some 0/\(part k x b nxt (j+1))[j+1]? =some r1/\
  (part k x b nxt (j+1)).set j (if x==y then k.wrap (n1+1)else if r1>n0 then r1 else n0)=part k x b nxt j:=by
 have hj:=(List.getElem?_eq_some_iff.1 hy).1
 have hyb:b[j]=y:=(List.getElem?_eq_some_iff.1 hy).2
 have hb:b.drop j=y::b.drop (j+1):=by rw[List.drop_eq_getElem_cons hj,hyb]
 have hnx:nxt.drop j=nxt[j]::nxt.drop (j+1):=List.drop_eq_getElem_cons (by omega)
 have hnx1:nxt.drop (j+1)=nxt[j+1]::nxt.drop (j+2):=List.drop_eq_getElem_cons (by omega)
 obtain⟨r1,rs,hr⟩:∃r1 rs,lcsRow k x (b.drop (j+1)) (nxt.drop (j+1))=r1::rs:=by
  have:=lcsRow_len k x (b.drop (j+1)) (nxt.drop (j+1)) (by simp;omega)
  cases hr:lcsRow k x (b.drop (j+1)) (nxt.drop (j+1))with
  |nil=>rw[hr]at this;simp at this
  |cons r1 rs=>exact⟨r1,rs,rfl⟩
 refine⟨nxt[j],nxt[j+1],r1,List.getElem?_eq_getElem (by omega),List.getElem?_eq_getElem (by omega),?_,?_,?_⟩
 ·unfold part
  rw[List.getElem?_append_left (by simp)]
  simp
 ·unfold part
  rw[List.getElem?_append_right (by simp),hr]
  simp
 ·unfold part
  rw[hr,hb,hnx]
  simp only[lcsRow]
  rw[hr,hnx1,List.replicate_succ',List.append_assoc,List.set_append_right _ _ (by simp)]
  have hg:nxt[j+1]? =some nxt[j+1]:=List.getElem?_eq_getElem (by omega)
  simp[hg]
end Go.Proofs.YtgkcoicaopilhaaGreatDoor
set_option linter.unusedSectionVars false
set_option maxRecDepth 100000
set_option maxHeartbeats 4000000
namespace Go.Proofs.YtgkcoicaopilhaaGreatDoor
open Go Go.Cn
structure ApiNode where
 Kind:Int
 Text:List UInt8
 Type_:List UInt8
 N:Int
 From:Int
 To:Int
 At:Int
 TypeAt:Int
 Kids:List ApiNode
structure ApiToken where
 Kind:Int
 Text:List UInt8
 At:Int
 Lead:List UInt8
 deriving DecidableEq
structure Ref12Wrong where
 Place:Int
 Code:Int
 deriving DecidableEq
structure ApiMistake where
 Code:Int
 File:Int
 At:Int
 deriving DecidableEq
abbrev dy :Type:=(ApiNode->((List UInt8)->Option (List UInt8))->Option (ApiNode))
noncomputable def shape_erase_k1 (R:dy) (x7:ApiNode) (x8:List UInt8) (x12:List ApiNode):Option (ApiNode):=some ({{x7 with Type_:=x8} with Kids:=x12})
noncomputable def kg (R:dy) (x7:ApiNode) (x8:List UInt8) (x2:((List UInt8)->Option (List UInt8))) (x11:Int) (x12:List ApiNode):Option ((Int × (List ApiNode)) ⊕ ((List ApiNode))):=(if(decide (x11<((({x7 with Type_:=x8}).Kids).length:Int)))=true then(idx (({x7 with Type_:=x8}).Kids) x11).bind fun x16=>(R x16 x2).bind fun x17=>(idx x12 x11).bind fun x18=>some (.inl (w64 (x11+1),(List.set x12 (Int.toNat x11) x17)))else some (.inr x12))
noncomputable def kh (R:dy) (x2:((List UInt8)->Option (List UInt8))) (x7:ApiNode):Option (ApiNode):=(x2 x7.Type_).bind fun x8=>(mkLen 104 ((({x7 with Type_:=x8}).Kids).length:Int)).bind fun x9=>(iter (fun s=>kg R x7 x8 x2 s.1 s.2) (0,(List.replicate x9 (ApiNode.mk 0 [] [] 0 0 0 0 0 [])))).bind fun p=>shape_erase_k1 R x7 x8 p
noncomputable def F_shape_erase (R:dy) (x1:ApiNode) (x2:((List UInt8)->Option (List UInt8))):Option (ApiNode):=(if(x1.Kind != 24)=true then(x2 x1.Text).bind fun x6=>kh R x2 ({x1 with Text:=x6})else kh R x2 x1)
noncomputable def rec_shape_erase_step (R:dy):dy:=(fun x1 x2=>F_shape_erase R x1 x2)
noncomputable def gc (n:Nat):dy:=Nat.rec (motive:=fun _=>dy) (fun x1 x2=>none) (fun _ R=>rec_shape_erase_step R) n
noncomputable def shape_erase (x1:ApiNode) (x2:((List UInt8)->Option (List UInt8))):Option (ApiNode):=(gc 1048576) x1 x2
noncomputable def shape_Erase_j1 (x6:ApiNode):Option (ApiNode):=some x6
noncomputable def shape_Erase (x1:ApiNode) (x2:List (List UInt8)):Option (ApiNode):=(shape_eraser x2).bind fun x5=>(shape_erase x1 x5).bind fun x6=>shape_Erase_j1 x6
noncomputable def print_list_k1 (x5:List (List UInt8)):Option ((List UInt8)):=(strings_Join x5 ([44,32]:List UInt8)).bind fun x15=>(cat ([40]:List UInt8) x15).bind fun x16=>(cat x16 ([41]:List UInt8)).bind fun x17=>some x17
noncomputable def ir (x1:List ApiNode) (x2:(ApiNode->Option (List UInt8))) (x4:Int) (x5:List (List UInt8)):Option ((Int × (List (List UInt8))) ⊕ ((List (List UInt8)))):=(if(decide (x4<(x1.length:Int)))=true then(idx x1 x4).bind fun x10=>(x2 x10).bind fun x12=>(app 16 x5 ([x12]:List (List UInt8))).bind fun x13=>some (.inl (w64 (x4+1),x13))else some (.inr x5))
noncomputable def print_list (x1:List ApiNode) (x2:(ApiNode->Option (List UInt8))):Option ((List UInt8)):=(iter (fun s=>ir x1 x2 s.1 s.2) (0,[])).bind fun p=>print_list_k1 p
noncomputable def ky (x1:ApiNode):Option ((List UInt8)):=(cat x1.Type_ ([32]:List UInt8)).bind fun x3=>(cat x3 x1.Text).bind fun x4=>some x4
noncomputable def mu (x24:Int):Option (Int):=some x24
noncomputable def print_Binds_j2 (x23:Int):Option (Int):=mu (w64 (x23+1))
noncomputable def print_Binds_j3 (x22:Int):Option (Int):=print_Binds_j2 (w64 (x22+1))
noncomputable def print_Binds_j4 (x21:Int):Option (Int):=print_Binds_j3 (w64 (x21+1))
noncomputable def print_Binds_j5 (x20:Int):Option (Int):=print_Binds_j4 (w64 (x20+1))
noncomputable def print_Binds_j6 (x19:Int):Option (Int):=print_Binds_j5 (w64 (x19+1))
noncomputable def mt (x1:List UInt8) (x15:Bool):Option (Int):=(if x15=true then print_Binds_j4 0 else(if(x1==([38,38]:List UInt8))=true then print_Binds_j3 0 else(if(x1==([124,124]:List UInt8))=true then print_Binds_j2 0 else mu 0)))
noncomputable def i6 (x1:List UInt8) (x12:Bool):Option (Int):=(if x12=true then print_Binds_j5 0 else(if(x1==([61,61]:List UInt8))=true then mt x1 (x1==([61,61]:List UInt8))else mt x1 (x1==([33,61]:List UInt8))))
noncomputable def mr (x1:List UInt8) (x7:Bool):Option (Int):=(if x7=true then print_Binds_j6 0 else(if(x1==([60]:List UInt8))=true then i6 x1 (x1==([60]:List UInt8))else(if(x1==([60,61]:List UInt8))=true then i6 x1 (x1==([60,61]:List UInt8))else(if(x1==([62]:List UInt8))=true then i6 x1 (x1==([62]:List UInt8))else i6 x1 (x1==([62,61]:List UInt8))))))
noncomputable def jg (x1:List UInt8) (x4:Bool):Option (Int):=(if x4=true then print_Binds_j6 (w64 (0+1))else(if(x1==([43]:List UInt8))=true then mr x1 (x1==([43]:List UInt8))else mr x1 (x1==([45]:List UInt8))))
noncomputable def print_Binds (x1:List UInt8):Option (Int):=(if(x1==([42]:List UInt8))=true then jg x1 (x1==([42]:List UInt8))else(if(x1==([47]:List UInt8))=true then jg x1 (x1==([47]:List UInt8))else jg x1 (x1==([37]:List UInt8))))
noncomputable def ke (x6:Bool):Option (Int):=(if x6=true then some 7 else some 8)
noncomputable def print_binding (x1:ApiNode):Option (Int):=(if(x1.Kind==24)=true then(print_Binds x1.Text).bind fun x4=>some x4 else(if(x1.Kind==22)=true then ke (x1.Kind==22)else ke (x1.Kind==23)))
noncomputable def jh (x1 x2:Int):Option ((List UInt8)):=(fh x1 x2).bind fun x3=>some x3
noncomputable def eb (x1:Bool):Option ((List UInt8)):=(if x1=true then some ([116,114,117,101]:List UInt8)else some ([102,97,108,115,101]:List UInt8))
noncomputable def iv (x1:Bool):Option ((List UInt8)):=(eb x1).bind fun x2=>some x2
noncomputable def gx (x5:Bool):Option (Bool):=some x5
noncomputable def kw (x1:ApiNode):Option (Bool):=(if(x1.Kind==23)=true then gx true else(if(x1.Kind==13)=true then gx (decide (x1.N<0))else gx false))
abbrev cl :Type:=(ApiNode->Int->Int->Option ((List UInt8))) × (ApiNode->Option ((List UInt8))) × (ApiNode->Int->Option ((List UInt8)))
noncomputable def ni (R:cl) (x1:ApiNode) (x2 x3:Int):Option ((List UInt8)):=(if(decide (x2≥(x1.Kids.length:Int)))=true then some []else(idx x1.Kids x2).bind fun x6=>(R.2.1 x6).bind fun x7=>(idx x1.Kids x2).bind fun x8=>(print_binding x8).bind fun x9=>(if(decide (x9<x3))=true then(cat ([40]:List UInt8) x7).bind fun x11=>(cat x11 ([41]:List UInt8)).bind fun x12=>some x12 else some x7))
noncomputable def np (R:cl) (x15:List UInt8):Option ((List UInt8)):=some x15
noncomputable def nn (R:cl) (x19:List UInt8):Option ((List UInt8)):=some x19
noncomputable def nm (R:cl) (x25:List UInt8):Option ((List UInt8)):=some x25
noncomputable def ft (R:cl) (x1:ApiNode) (x35:Int):Option ((List UInt8)):=(R.1 x1 0 x35).bind fun x36=>(cat ([45]:List UInt8) x36).bind fun x37=>some x37
noncomputable def dv (R:cl) (x1:ApiNode) (x33:Bool):Option ((List UInt8)):=(if x33=true then ft R x1 9 else ft R x1 7)
noncomputable def nk (R:cl) (x45:List UInt8):Option ((List UInt8)):=some x45
noncomputable def bm (R:cl) (x1:ApiNode):Option ((List UInt8)):=(if(x1.Kind==13)=true then(jh x1.N 10).bind fun x4=>some x4 else(if(x1.Kind==14)=true then(iv (x1.N==1)).bind fun x6=>some x6 else(if(x1.Kind==15)=true then some ([110,117,108,108]:List UInt8)else(if(x1.Kind==16)=true then some ([116,104,105,115]:List UInt8)else(if(x1.Kind==17)=true then some x1.Text else(if(x1.Kind==21)=true then(cat ([110,101,119,32]:List UInt8) x1.Text).bind fun x11=>(cat x11 ([40,41]:List UInt8)).bind fun x12=>some x12 else(if(x1.Kind==19)=true then(R.2.2 x1 0).bind fun x14=>(cat x1.Text x14).bind fun x15=>np R x15 else(if(x1.Kind==18)=true then(R.1 x1 0 8).bind fun x17=>(cat x17 ([46]:List UInt8)).bind fun x18=>(cat x18 x1.Text).bind fun x19=>nn R x19 else(if(x1.Kind==20)=true then(R.1 x1 0 8).bind fun x21=>(cat x21 ([46]:List UInt8)).bind fun x22=>(cat x22 x1.Text).bind fun x23=>(R.2.2 x1 1).bind fun x24=>(cat x23 x24).bind fun x25=>nm R x25 else(if(x1.Kind==22)=true then(R.1 x1 0 7).bind fun x27=>(cat ([33]:List UInt8) x27).bind fun x28=>some x28 else(if(x1.Kind==23)=true then(if(decide ((x1.Kids.length:Int)>0))=true then(idx x1.Kids 0).bind fun x31=>(kw x31).bind fun x32=>dv R x1 x32 else dv R x1 false)else(if(x1.Kind==24)=true then(print_Binds x1.Text).bind fun x39=>(R.1 x1 0 x39).bind fun x40=>(cat x40 ([32]:List UInt8)).bind fun x41=>(cat x41 x1.Text).bind fun x42=>(cat x42 ([32]:List UInt8)).bind fun x43=>(R.1 x1 1 (w64 (x39+1))).bind fun x44=>(cat x43 x44).bind fun x45=>nk R x45 else some []))))))))))))
noncomputable def jk (R:cl) (x1:ApiNode) (x2:Int):Option ((List UInt8)):=(subL x1.Kids (if(x1.Kids.length:Int)<x2 then(x1.Kids.length:Int)else x2) (x1.Kids.length:Int)).bind fun x4=>(print_list x4 R.2.1).bind fun x5=>some x5
noncomputable def ce (R:cl):cl:=((fun x1 x2 x3=>ni R x1 x2 x3),(fun x1=>bm R x1),(fun x1 x2=>jk R x1 x2))
noncomputable def dq (n:Nat):cl:=Nat.rec (motive:=fun _=>cl) ((fun x1 x2 x3=>none),(fun x1=>none),(fun x1 x2=>none)) (fun _ R=>ce R) n
noncomputable def print_kid (x1:ApiNode) (x2 x3:Int):Option ((List UInt8)):=(dq 1048576).1 x1 x2 x3
abbrev bt :Type:=(ApiNode->Int->(List UInt8)->Option ((List UInt8))) × ((List ApiNode)->(List UInt8)->Option ((List UInt8))) × (ApiNode->(List UInt8)->Option ((List UInt8))) × (ApiNode->(List UInt8)->Option ((List UInt8)))
noncomputable def ie (R:bt) (x1:ApiNode) (x2:Int) (x3:List UInt8):Option ((List UInt8)):=(if(decide (x2≥(x1.Kids.length:Int)))=true then(R.2.1 [] x3).bind fun x6=>some x6 else(idx x1.Kids x2).bind fun x7=>(if(x7.Kind==5)=true then(idx x1.Kids x2).bind fun x9=>(R.2.1 x9.Kids x3).bind fun x10=>some x10 else(subL x1.Kids x2 (w64 (x2+1))).bind fun x11=>(R.2.1 x11 x3).bind fun x12=>some x12))
noncomputable def print_block_k1 (R:bt) (x2 x3:List UInt8):Option ((List UInt8)):=(cat x3 x2).bind fun x13=>(cat x13 ([125]:List UInt8)).bind fun x14=>some x14
noncomputable def gr (R:bt) (x1:List ApiNode) (x2 x3:List UInt8) (x4:Int):Option (((List UInt8) × Int) ⊕ ((List UInt8))):=(if(decide (x4<(x1.length:Int)))=true then(idx x1 x4).bind fun x8=>(cat x2 ([32,32]:List UInt8)).bind fun x10=>(R.2.2.1 x8 x10).bind fun x11=>(cat x3 x11).bind fun x12=>some (.inl (x12,w64 (x4+1)))else some (.inr x3))
noncomputable def ma (R:bt) (x1:List ApiNode) (x2:List UInt8):Option ((List UInt8)):=(iter (fun s=>gr R x1 x2 s.1 s.2) (([123,10]:List UInt8),0)).bind fun p=>print_block_k1 R x2 p
noncomputable def jl (R:bt) (x1:ApiNode) (x2:List UInt8):Option ((List UInt8)):=(R.2.2.2 x1 x2).bind fun x4=>(if(x4==[])=true then some []else(cat x2 x4).bind fun x6=>(cat x6 ([10]:List UInt8)).bind fun x7=>some x7)
noncomputable def print_line_j1 (R:bt) (x39:List UInt8):Option ((List UInt8)):=some x39
noncomputable def d8 (R:bt) (x1:ApiNode) (x2:List UInt8):Option ((List UInt8)):=(print_kid x1 0 0).bind fun x4=>(if(x1.Kind==6)=true then(cat x1.Type_ ([32]:List UInt8)).bind fun x6=>(cat x6 x1.Text).bind fun x7=>(cat x7 ([32,61,32]:List UInt8)).bind fun x8=>(cat x8 x4).bind fun x9=>(cat x9 ([59]:List UInt8)).bind fun x10=>some x10 else(if(x1.Kind==7)=true then(cat x4 ([32,61,32]:List UInt8)).bind fun x12=>(print_kid x1 1 0).bind fun x13=>(cat x12 x13).bind fun x14=>(cat x14 ([59]:List UInt8)).bind fun x15=>some x15 else(if(x1.Kind==8)=true then(cat x4 ([59]:List UInt8)).bind fun x17=>some x17 else(if(x1.Kind==11)=true then(if(decide ((x1.Kids.length:Int)>0))=true then(cat ([114,101,116,117,114,110,32]:List UInt8) x4).bind fun x20=>(cat x20 ([59]:List UInt8)).bind fun x21=>some x21 else some ([114,101,116,117,114,110,59]:List UInt8))else(if(x1.Kind==12)=true then(cat ([112,114,105,110,116,40]:List UInt8) x4).bind fun x23=>(cat x23 ([41,59]:List UInt8)).bind fun x24=>some x24 else(if(x1.Kind==10)=true then(cat ([119,104,105,108,101,32,40]:List UInt8) x4).bind fun x26=>(cat x26 ([41,32]:List UInt8)).bind fun x27=>(R.1 x1 1 x2).bind fun x28=>(cat x27 x28).bind fun x29=>some x29 else(if(x1.Kind==9)=true then(cat ([105,102,32,40]:List UInt8) x4).bind fun x31=>(cat x31 ([41,32]:List UInt8)).bind fun x32=>(R.1 x1 1 x2).bind fun x33=>(cat x32 x33).bind fun x34=>(if(decide ((x1.Kids.length:Int)>2))=true then(R.1 x1 2 x2).bind fun x36=>(cat ([32,101,108,115,101,32]:List UInt8) x36).bind fun x37=>(cat x34 x37).bind fun x38=>print_line_j1 R x38 else print_line_j1 R x34)else(if(x1.Kind==5)=true then(R.2.1 x1.Kids x2).bind fun x41=>some x41 else some []))))))))
noncomputable def bg (R:bt):bt:=((fun x1 x2 x3=>ie R x1 x2 x3),(fun x1 x2=>ma R x1 x2),(fun x1 x2=>jl R x1 x2),(fun x1 x2=>d8 R x1 x2))
noncomputable def bq (n:Nat):bt:=Nat.rec (motive:=fun _=>bt) ((fun x1 x2 x3=>none),(fun x1 x2=>none),(fun x1 x2=>none),(fun x1 x2=>none)) (fun _ R=>bg R) n
noncomputable def print_belongs (x1:ApiNode) (x2:Int) (x3:List UInt8):Option ((List UInt8)):=(bq 1048576).1 x1 x2 x3
noncomputable def jf (x1:ApiNode) (x5:List UInt8):Option ((List UInt8)):=(cat x1.Type_ ([32]:List UInt8)).bind fun x6=>(cat x6 x1.Text).bind fun x7=>(cat x5 x7).bind fun x8=>(if(x1.Kind==2)=true then(cat x8 ([59,10]:List UInt8)).bind fun x10=>some x10 else(if(x1.Kind==3)=true then(subL x1.Kids 0 (if(w64 ((x1.Kids.length:Int) - 1))>0 then(w64 ((x1.Kids.length:Int) - 1))else 0)).bind fun x12=>(print_list x12 ky).bind fun x13=>(cat x8 x13).bind fun x14=>(cat x14 ([32]:List UInt8)).bind fun x15=>(print_belongs x1 (if(w64 ((x1.Kids.length:Int) - 1))>0 then(w64 ((x1.Kids.length:Int) - 1))else 0) ([32,32]:List UInt8)).bind fun x16=>(cat x15 x16).bind fun x17=>(cat x17 ([10]:List UInt8)).bind fun x18=>some x18 else some []))
noncomputable def jo (x1:ApiNode):Option ((List UInt8)):=(if(x1.N==1)=true then(cat ([32,32]:List UInt8) ([115,116,97,116,105,99,32]:List UInt8)).bind fun x4=>jf x1 x4 else jf x1 ([32,32]:List UInt8))
noncomputable def print_Class_k1 (x9:List UInt8):Option ((List UInt8)):=(cat x9 ([125,10]:List UInt8)).bind fun x18=>some x18
noncomputable def gt (x1:ApiNode) (x9:List UInt8) (x10:Int):Option (((List UInt8) × Int) ⊕ ((List UInt8))):=(if(decide (x10<(x1.Kids.length:Int)))=true then(idx x1.Kids x10).bind fun x14=>(jo x14).bind fun x16=>(cat x9 x16).bind fun x17=>some (.inl (x17,w64 (x10+1)))else some (.inr x9))
noncomputable def kz (x1:ApiNode) (x7:List UInt8):Option ((List UInt8)):=(cat x7 ([32,123,10]:List UInt8)).bind fun x8=>(iter (fun s=>gt x1 s.1 s.2) (x8,0)).bind fun p=>print_Class_k1 p
noncomputable def print_Class (x1:ApiNode):Option ((List UInt8)):=(cat ([99,108,97,115,115,32]:List UInt8) x1.Text).bind fun x3=>(if(!(x1.Type_==[]))=true then(cat ([32,101,120,116,101,110,100,115,32]:List UInt8) x1.Type_).bind fun x5=>(cat x3 x5).bind fun x6=>kz x1 x6 else kz x1 x3)
noncomputable def shape_Of_j1 (x4:ApiNode) (x9:Bool):Option ((List UInt8)):=(if x9=true then(jo x4).bind fun x11=>some x11 else some [])
noncomputable def l5 (x1:ApiNode) (x2:List (List UInt8)):Option ((List UInt8)):=(shape_Erase x1 x2).bind fun x4=>(if(x1.Kind==1)=true then(print_Class x4).bind fun x7=>some x7 else(if(x1.Kind==2)=true then shape_Of_j1 x4 (x1.Kind==2)else shape_Of_j1 x4 (x1.Kind==3)))
noncomputable def lex_Lex_1_j1 (x8:List UInt8) (x10 x2 x3:Int) (x13:List ApiToken):Option ((List ApiToken) × (List UInt8) × Int):=some (x13,x8,w64 (x10+(w64 (x2+x3))))
noncomputable def lex_Lex_1 (x1 x2 x3:Int) (x5:List ApiToken) (x8:List UInt8) (x10:Int):Option ((List ApiToken) × (List UInt8) × Int):=(sub x8 (w64 (x10+x2)) (w64 ((w64 (x10+x2))+x3))).bind fun x11=>(sub x8 x10 (w64 (x10+x2))).bind fun x12=>(app 48 x5 ([(ApiToken.mk x1 x11 (w64 (x10+x2)) x12)]:List ApiToken)).bind fun x13=>lex_Lex_1_j1 x8 x10 x2 x3 x13
noncomputable def cw (x5:Bool):Option (Bool):=some x5
noncomputable def ej (x1 x2:List UInt8):Option (Bool):=(if(decide ((x1.length:Int)≥(x2.length:Int)))=true then(sub x1 0 (x2.length:Int)).bind fun x4=>cw (x4==x2)else cw false)
noncomputable def e6 (x1 x2:List UInt8):Option (Bool):=(ej x1 x2).bind fun x3=>some x3
noncomputable def lex_run_k1 (x1:List UInt8):Option (Int):=some (x1.length:Int)
noncomputable def lex_run_l2 (x1:List UInt8) (x2:(Int->Option Bool)) (x3:Int):Option ((Int) ⊕ (Flow Unit Int)):=(if(decide (x3<(x1.length:Int)))=true then(idxS x1 x3).bind fun x6=>(x2 x6).bind fun x7=>(if(!x7)=true then some (.inr (.done x3))else some (.inl (w64 (x3+1))))else some (.inr (.next ())))
noncomputable def lex_run (x1:List UInt8) (x2:(Int->Option Bool)):Option (Int):=(iter (fun s=>lex_run_l2 x1 x2 s) 0).bind fun z=>match z with| .next p=>lex_run_k1 x1| .done r=>some r
noncomputable def l9 (x1:Int):Option (Bool):=some (x1 != 10)
noncomputable def lex_between_j1 (x2:Int):Option (Int × Bool):=some (x2,true)
noncomputable def lex_between_k2 (x2:Int):Option (Int × Bool):=lex_between_j1 x2
noncomputable def i7 (x2:Int):Option ((Int) ⊕ (Flow Int (Int × Bool))):=some (.inl (w64 (x2+1)))
noncomputable def k3 (x1:List UInt8) (x2:Int):Option ((Int) ⊕ (Flow Int (Int × Bool))):=(if(decide (x2<(x1.length:Int)))=true then(sub x1 x2 (x1.length:Int)).bind fun x5=>(e6 x5 ([47,47]:List UInt8)).bind fun x6=>(if x6=true then(lex_run x5 l9).bind fun x8=>some (.inl (w64 (x2+x8)))else(e6 x5 ([47,42]:List UInt8)).bind fun x9=>(if x9=true then(sub x5 2 (x5.length:Int)).bind fun x11=>(strings_Index x11 ([42,47]:List UInt8)).bind fun x12=>(if(decide (x12<0))=true then some (.inr (.done (x2,false)))else some (.inl (w64 (x2+(w64 ((w64 (2+x12))+2))))))else(idxS x5 0).bind fun x14=>(if(x14==32)=true then i7 x2 else(if(x14==9)=true then i7 x2 else(if(x14==13)=true then i7 x2 else(if(x14==10)=true then i7 x2 else some (.inr (.next x2))))))))else some (.inr (.next x2)))
noncomputable def lex_between (x1:List UInt8):Option (Int × Bool):=(iter (fun s=>k3 x1 s) 0).bind fun z=>match z with| .next p=>lex_between_k2 p| .done r=>some r
noncomputable def lex_digit_j1 (x3:Bool):Option (Bool):=some x3
noncomputable def lex_digit (x1:Int):Option (Bool):=(if(decide (x1≥48))=true then lex_digit_j1 (decide (x1<=57))else lex_digit_j1 false)
noncomputable def lex_letter_j1 (x5:Bool):Option (Bool):=some x5
noncomputable def lex_letter (x1:Int):Option (Bool):=(if(decide ((bits .or .u8 x1 32)≥97))=true then(if(decide ((bits .or .u8 x1 32)<=122))=true then lex_letter_j1 true else lex_letter_j1 (x1==95))else lex_letter_j1 (x1==95))
noncomputable def lex_token_1_j1 (x5:Bool):Option (Bool):=some x5
noncomputable def ng (x1:Int):Option (Bool):=(lex_letter x1).bind fun x2=>(if x2=true then lex_token_1_j1 true else(lex_digit x1).bind fun x4=>lex_token_1_j1 x4)
noncomputable def eq:Option (Int):=some (-1)
noncomputable def dh (x1:List (List UInt8)) (x2:List UInt8) (x3:Int):Option ((Int) ⊕ (Flow Unit Int)):=(if(decide (x3<(x1.length:Int)))=true then(idx x1 x3).bind fun x6=>(if(x2==x6)=true then some (.inr (.done x3))else some (.inl (w64 (x3+1))))else some (.inr (.next ())))
noncomputable def ee (x1:List (List UInt8)) (x2:List UInt8):Option (Int):=(iter (fun s=>dh x1 x2 s) 0).bind fun z=>match z with| .next p=>eq| .done r=>some r
noncomputable def dw (x1:List (List UInt8)) (x2:List UInt8):Option (Bool):=(ee x1 x2).bind fun x3=>some (decide (x3≥0))
noncomputable def lex_Kept (x1:List UInt8):Option (Bool):=(dw kept x1).bind fun x2=>some x2
noncomputable def lex_mark_k1 (x1:List UInt8):Option (Int):=(idxS x1 0).bind fun x8=>(strings_IndexByte ([43,45,42,47,37,60,62,61,33,40,41,123,125,59,44,46]:List UInt8) x8).bind fun x9=>(if(decide (x9≥0))=true then some 1 else some 0)
noncomputable def lex_mark_l2 (x1:List UInt8) (x2:Int):Option ((Int) ⊕ (Flow Unit Int)):=(if(decide (x2<(([([61,61]:List UInt8),([33,61]:List UInt8),([60,61]:List UInt8),([62,61]:List UInt8),([38,38]:List UInt8),([124,124]:List UInt8)]:List (List UInt8)).length:Int)))=true then(idx ([([61,61]:List UInt8),([33,61]:List UInt8),([60,61]:List UInt8),([62,61]:List UInt8),([38,38]:List UInt8),([124,124]:List UInt8)]:List (List UInt8)) x2).bind fun x5=>(e6 x1 x5).bind fun x6=>(if x6=true then some (.inr (.done 2))else some (.inl (w64 (x2+1))))else some (.inr (.next ())))
noncomputable def lex_mark (x1:List UInt8):Option (Int):=(iter (fun s=>lex_mark_l2 x1 s) 0).bind fun z=>match z with| .next p=>lex_mark_k1 x1| .done r=>some r
noncomputable def ll (x5:Int) (x16:Bool):Option (Int × Int × Int):=(if x16=true then some (0,0,31)else some (2,x5,0))
noncomputable def lex_token (x1:List UInt8):Option (Int × Int × Int):=(idxS x1 0).bind fun x2=>(lex_digit x2).bind fun x3=>(if x3=true then(lex_run x1 lex_digit).bind fun x5=>(sub x1 0 x5).bind fun x6=>(j7 x6 10 64).bind fun(x7,x8)=>(if x8=true then ll x5 true else(if(decide (x7>2147483647))=true then ll x5 true else(if(decide (x5>1))=true then(idxS x1 0).bind fun x12=>ll x5 (x12==48)else ll x5 false)))else(idxS x1 0).bind fun x18=>(lex_letter x18).bind fun x19=>(if x19=true then(lex_run x1 ng).bind fun x21=>(if(decide (x21>20))=true then some (0,0,2)else(sub x1 0 x21).bind fun x23=>(lex_Kept x23).bind fun x24=>(if x24=true then some (3,x21,0)else some (1,x21,0)))else(lex_mark x1).bind fun x26=>(if(x26==0)=true then some (0,0,30)else some (4,x26,0))))
noncomputable def lex_Lex_j2 (x8 x15:Int):Option (((List UInt8) × Int × (List ApiToken)) ⊕ ((List ApiToken) × Int × Int)):=some (.inr ([],w64 (x8+x15),32))
noncomputable def lex_Lex_j3 (x8 x15 x26:Int):Option (((List UInt8) × Int × (List ApiToken)) ⊕ ((List ApiToken) × Int × Int)):=some (.inr ([],w64 (x8+x15),x26))
noncomputable def fm (x6:List UInt8) (x8:Int) (x9:List ApiToken):Option (((List UInt8) × Int × (List ApiToken)) ⊕ ((List ApiToken) × Int × Int)):=(sub x6 x8 (x6.length:Int)).bind fun x14=>(lex_between x14).bind fun(x15,x16)=>(if(!x16)=true then lex_Lex_j2 x8 x15 else(if((w64 (x8+x15))==(x6.length:Int))=true then(lex_Lex_1 5 x15 0 x9 x6 x8).bind fun(x19,x21,x22)=>some (.inr (x19,0,0))else(sub x6 (w64 (x8+x15)) (x6.length:Int)).bind fun x23=>(lex_token x23).bind fun(x24,x25,x26)=>(if(x26 != 0)=true then lex_Lex_j3 x8 x15 x26 else(lex_Lex_1 x24 x15 x25 x9 x6 x8).bind fun(x28,x30,x31)=>some (.inl (x30,x31,x28)))))
noncomputable def lex_Lex (x1:List UInt8):Option ((List ApiToken) × Int × Int):=(if(decide ((x1.length:Int)>1048576))=true then some ([],0,2)else iter (fun s=>fm s.1 s.2.1 s.2.2) (x1,0,[]))
noncomputable def shape_Tokens_k1 (x12:List (List UInt8)):Option ((List (List UInt8))):=some x12
noncomputable def f3 (x9:List ApiToken) (x11:Int) (x12:List (List UInt8)):Option ((Int × (List (List UInt8))) ⊕ ((List (List UInt8)))):=(if(decide (x11<(x9.length:Int)))=true then(idx x9 x11).bind fun x17=>(app 16 x12 ([x17.Text]:List (List UInt8))).bind fun x19=>some (.inl (w64 (x11+1),x19))else some (.inr x12))
noncomputable def f1 (x1:ApiNode) (x2:List (List UInt8)):Option ((List (List UInt8))):=(l5 x1 x2).bind fun x4=>(lex_Lex x4).bind fun(x5,x6,x7)=>(if(x7 != 0)=true then some []else(subL x5 0 (w64 ((x5.length:Int) - 1))).bind fun x9=>(iter (fun s=>f3 x9 s.1 s.2) (0,[])).bind fun p=>shape_Tokens_k1 p)
noncomputable def nb (x3:Int):Option (Int × Bool):=some (x3,true)
noncomputable def ref03_between_k3 (x29:Int):Option ((Int) ⊕ (Flow Int (Int × Bool))):=some (.inl x29)
noncomputable def ka (x29:Int) (x33:Bool):Option ((Int) ⊕ (Int)):=(if x33=true then some (.inl (w64 (x29+1)))else some (.inr x29))
noncomputable def gk (x1:List UInt8) (x29:Int):Option ((Int) ⊕ (Int)):=(if(decide (x29<(x1.length:Int)))=true then(idxS x1 x29).bind fun x32=>ka x29 (x32 != 10)else ka x29 false)
noncomputable def j9 (x1:List UInt8) (x3 x35:Int):Option ((Int) ⊕ (Flow Int (Int × Bool))):=(if(decide ((w64 (x35+1))≥(x1.length:Int)))=true then some (.inr (.done (x3,false)))else some (.inl (w64 (x35+2))))
noncomputable def im (x35:Int) (x41:Bool):Option ((Int) ⊕ (Int)):=(if x41=true then some (.inl (w64 (x35+1)))else some (.inr x35))
noncomputable def gi (x1:List UInt8) (x35:Int):Option ((Int) ⊕ (Int)):=(if(decide ((w64 (x35+1))<(x1.length:Int)))=true then(idxS x1 x35).bind fun x38=>(if(x38 != 42)=true then im x35 true else(idxS x1 (w64 (x35+1))).bind fun x40=>im x35 (x40 != 47))else im x35 false)
noncomputable def ep (x3:Int) (x1:List UInt8) (x25:Bool):Option ((Int) ⊕ (Flow Int (Int × Bool))):=(if x25=true then some (.inr (.done (x3,true)))else(idxS x1 (w64 (x3+1))).bind fun x27=>(if(x27==47)=true then(iter (fun s=>gk x1 s) x3).bind fun p=>ref03_between_k3 p else(iter (fun s=>gi x1 s) (w64 (x3+2))).bind fun p=>j9 x1 x3 p))
noncomputable def dr (x3:Int) (x1:List UInt8) (x6:Int) (x14:Bool):Option ((Int) ⊕ (Flow Int (Int × Bool))):=(if x14=true then some (.inl (w64 (x3+1)))else(if(decide ((w64 (x3+1))≥(x1.length:Int)))=true then ep x3 x1 true else(if(x6 != 47)=true then ep x3 x1 true else(idxS x1 (w64 (x3+1))).bind fun x18=>(if(x18 != 47)=true then(idxS x1 (w64 (x3+1))).bind fun x20=>ep x3 x1 (x20 != 42)else ep x3 x1 false))))
noncomputable def cm (x1:List UInt8) (x3:Int):Option ((Int) ⊕ (Flow Int (Int × Bool))):=(if(decide (x3<(x1.length:Int)))=true then(idxS x1 x3).bind fun x6=>(if(x6==32)=true then dr x3 x1 x6 true else(if(x6==9)=true then dr x3 x1 x6 true else(if(x6==10)=true then dr x3 x1 x6 true else dr x3 x1 x6 (x6==13))))else some (.inr (.next x3)))
noncomputable def ref03_between (x1:List UInt8) (x2:Int):Option (Int × Bool):=(iter (fun s=>cm x1 s) x2).bind fun z=>match z with| .next p=>nb p| .done r=>some r
noncomputable def ref03_digit_j1 (x3:Bool):Option (Bool):=some x3
noncomputable def lg (x1:Int):Option (Bool):=(if(decide (x1≥48))=true then ref03_digit_j1 (decide (x1<=57))else ref03_digit_j1 false)
noncomputable def ref03_great_k1 (x3:Int):Option (Bool):=some (decide (x3>2147483647))
noncomputable def kv (x1:List UInt8) (x3 x4:Int):Option ((Int × Int) ⊕ (Int)):=(if(decide (x4<(x1.length:Int)))=true then(idxS x1 x4).bind fun x8=>some (.inl (w64 ((w64 (10 * x3))+(w64 (IntKind.wrap .u8 (x8 - 48)))),w64 (x4+1)))else some (.inr x3))
noncomputable def ref03_great (x1:List UInt8):Option (Bool):=(if(decide ((x1.length:Int)>10))=true then some true else(iter (fun s=>kv x1 s.1 s.2) (0,0)).bind fun p=>ref03_great_k1 p)
noncomputable def fc (x13:Bool):Option (Bool):=some x13
noncomputable def lk (x1:Int):Option (Bool):=(if(decide (x1≥97))=true then(if(decide (x1<=122))=true then fc true else(if(decide (x1≥65))=true then(if(decide (x1<=90))=true then fc true else fc (x1==95))else fc (x1==95)))else(if(decide (x1≥65))=true then(if(decide (x1<=90))=true then fc true else fc (x1==95))else fc (x1==95)))
noncomputable def ref03_Kept_k1:Option (Bool):=some false
noncomputable def l8 (x1:List UInt8) (x2:Int):Option ((Int) ⊕ (Flow Unit Bool)):=(if(decide (x2<(([([99,108,97,115,115]:List UInt8),([101,120,116,101,110,100,115]:List UInt8),([115,116,97,116,105,99]:List UInt8),([118,111,105,100]:List UInt8),([105,110,116]:List UInt8),([98,111,111,108,101,97,110]:List UInt8),([105,102]:List UInt8),([101,108,115,101]:List UInt8),([119,104,105,108,101]:List UInt8),([114,101,116,117,114,110]:List UInt8),([112,114,105,110,116]:List UInt8),([116,114,117,101]:List UInt8),([102,97,108,115,101]:List UInt8),([110,117,108,108]:List UInt8),([116,104,105,115]:List UInt8),([110,101,119]:List UInt8)]:List (List UInt8)).length:Int)))=true then(idx ([([99,108,97,115,115]:List UInt8),([101,120,116,101,110,100,115]:List UInt8),([115,116,97,116,105,99]:List UInt8),([118,111,105,100]:List UInt8),([105,110,116]:List UInt8),([98,111,111,108,101,97,110]:List UInt8),([105,102]:List UInt8),([101,108,115,101]:List UInt8),([119,104,105,108,101]:List UInt8),([114,101,116,117,114,110]:List UInt8),([112,114,105,110,116]:List UInt8),([116,114,117,101]:List UInt8),([102,97,108,115,101]:List UInt8),([110,117,108,108]:List UInt8),([116,104,105,115]:List UInt8),([110,101,119]:List UInt8)]:List (List UInt8)) x2).bind fun x5=>(if(x5==x1)=true then some (.inr (.done true))else some (.inl (w64 (x2+1))))else some (.inr (.next ())))
noncomputable def ref03_Kept (x1:List UInt8):Option (Bool):=(iter (fun s=>l8 x1 s) 0).bind fun z=>match z with| .next p=>ref03_Kept_k1| .done r=>some r
noncomputable def ref03_mark_k1:Option (Int):=some 0
noncomputable def ref03_mark_j3 (x11 x14 x15:Int):Option ((Int) ⊕ (Flow Unit Int)):=(if(x14==x15)=true then some (.inr (.done 1))else some (.inl (w64 (x11+1))))
noncomputable def jz (x1:List UInt8) (x2 x11:Int):Option ((Int) ⊕ (Flow Unit Int)):=(if(decide (x11<(([43,45,42,47,37,60,62,61,33,40,41,123,125,59,44,46]:List UInt8).length:Int)))=true then(idxS x1 x2).bind fun x14=>(idxS ([43,45,42,47,37,60,62,61,33,40,41,123,125,59,44,46]:List UInt8) x11).bind fun x15=>ref03_mark_j3 x11 x14 x15 else some (.inr (.next ())))
noncomputable def ref03_mark_k4 (x1:List UInt8) (x2:Int):Option (Int):=(iter (fun s=>jz x1 x2 s) 0).bind fun z=>match z with| .next p=>ref03_mark_k1| .done r=>some r
noncomputable def ref03_mark_j6 (x3:Int) (x8 x9:List UInt8):Option ((Int) ⊕ (Flow Unit Int)):=(if(x8==x9)=true then some (.inr (.done 2))else some (.inl (w64 (x3+1))))
noncomputable def ref03_mark_j7 (x1:List UInt8) (x2 x3:Int) (x6:Bool):Option ((Int) ⊕ (Flow Unit Int)):=(if x6=true then(sub x1 x2 (w64 (x2+2))).bind fun x8=>(idx ([([61,61]:List UInt8),([33,61]:List UInt8),([60,61]:List UInt8),([62,61]:List UInt8),([38,38]:List UInt8),([124,124]:List UInt8)]:List (List UInt8)) x3).bind fun x9=>ref03_mark_j6 x3 x8 x9 else some (.inr (.next ())))
noncomputable def jy (x1:List UInt8) (x2 x3:Int):Option ((Int) ⊕ (Flow Unit Int)):=(if(decide (x3<(([([61,61]:List UInt8),([33,61]:List UInt8),([60,61]:List UInt8),([62,61]:List UInt8),([38,38]:List UInt8),([124,124]:List UInt8)]:List (List UInt8)).length:Int)))=true then ref03_mark_j7 x1 x2 x3 (decide ((w64 (x2+2))<=(x1.length:Int)))else ref03_mark_j7 x1 x2 x3 false)
noncomputable def ref03_mark (x1:List UInt8) (x2:Int):Option (Int):=(iter (fun s=>jy x1 x2 s) 0).bind fun z=>match z with| .next p=>ref03_mark_k4 x1 x2| .done r=>some r
noncomputable def ku (x6:Int) (x18:Bool):Option (Int × Int × Int):=(if x18=true then some (0,0,31)else some (2,x6,0))
noncomputable def ref03_token_k2 (x1:List UInt8) (x2 x6:Int):Option (Int × Int × Int):=(sub x1 x2 (w64 (x2+x6))).bind fun x13=>(ref03_great x13).bind fun x14=>(if x14=true then ku x6 true else(if(decide (x6>1))=true then(idxS x1 x2).bind fun x17=>ku x6 (x17==48)else ku x6 false))
noncomputable def mq (x6:Int) (x11:Bool):Option ((Int) ⊕ (Int)):=(if x11=true then some (.inl (w64 (x6+1)))else some (.inr x6))
noncomputable def i5 (x2:Int) (x1:List UInt8) (x6:Int):Option ((Int) ⊕ (Int)):=(if(decide ((w64 (x2+x6))<(x1.length:Int)))=true then(idxS x1 (w64 (x2+x6))).bind fun x9=>(lg x9).bind fun x10=>mq x6 x10 else mq x6 false)
noncomputable def ref03_token_k5 (x1:List UInt8) (x2 x23:Int):Option (Int × Int × Int):=(if(decide (x23>20))=true then some (0,0,2)else(sub x1 x2 (w64 (x2+x23))).bind fun x34=>(ref03_Kept x34).bind fun x35=>(if x35=true then some (3,x23,0)else some (1,x23,0)))
noncomputable def kr (x23:Int) (x31:Bool):Option ((Int) ⊕ (Int)):=(if x31=true then some (.inl (w64 (x23+1)))else some (.inr x23))
noncomputable def i4 (x2:Int) (x1:List UInt8) (x23:Int):Option ((Int) ⊕ (Int)):=(if(decide ((w64 (x2+x23))<(x1.length:Int)))=true then(idxS x1 (w64 (x2+x23))).bind fun x26=>(lk x26).bind fun x27=>(if x27=true then kr x23 true else(idxS x1 (w64 (x2+x23))).bind fun x29=>(lg x29).bind fun x30=>kr x23 x30)else kr x23 false)
noncomputable def ref03_token (x1:List UInt8) (x2:Int):Option (Int × Int × Int):=(idxS x1 x2).bind fun x3=>(lg x3).bind fun x4=>(if x4=true then(iter (fun s=>i5 x2 x1 s) 0).bind fun p=>ref03_token_k2 x1 x2 p else(idxS x1 x2).bind fun x20=>(lk x20).bind fun x21=>(if x21=true then(iter (fun s=>i4 x2 x1 s) 0).bind fun p=>ref03_token_k5 x1 x2 p else(ref03_mark x1 x2).bind fun x37=>(if(x37==0)=true then some (0,0,30)else some (4,x37,0))))
noncomputable def ref03_Lex_j2 (x9 x17:Int) (x22:List ApiToken):Option ((Int × (List ApiToken)) ⊕ ((List ApiToken) × Int × Int)):=some (.inl (w64 (x9+x17),x22))
noncomputable def d7 (x1:List UInt8) (x4:Int) (x5:List ApiToken):Option ((Int × (List ApiToken)) ⊕ ((List ApiToken) × Int × Int)):=(ref03_between x1 x4).bind fun(x9,x10)=>(if(!x10)=true then some (.inr ([],x9,32))else(if(x9==(x1.length:Int))=true then(sub x1 x4 (x1.length:Int)).bind fun x13=>(app 48 x5 ([(ApiToken.mk 5 [] x9 x13)]:List ApiToken)).bind fun x14=>some (.inr (x14,0,0))else(ref03_token x1 x9).bind fun(x16,x17,x18)=>(if(x18 != 0)=true then some (.inr ([],x9,x18))else(sub x1 x9 (w64 (x9+x17))).bind fun x20=>(sub x1 x4 x9).bind fun x21=>(app 48 x5 ([(ApiToken.mk x16 x20 x9 x21)]:List ApiToken)).bind fun x22=>ref03_Lex_j2 x9 x17 x22)))
noncomputable def ref03_Lex (x1:List UInt8):Option ((List ApiToken) × Int × Int):=(if(decide ((x1.length:Int)>1048576))=true then some ([],0,2)else iter (fun s=>d7 x1 s.1 s.2) (0,[]))
noncomputable def ax (x1:Int):Option (Ref12Wrong):=some (Ref12Wrong.mk x1 120)
noncomputable def nf (x18:Bool):Option (Bool):=some x18
noncomputable def bw (x1:List ApiToken) (x2:Int) (x3:List UInt8):Option (Bool):=(if(decide (x2<(x1.length:Int)))=true then(idx x1 x2).bind fun x5=>(if(x5.Text==x3)=true then(idx x1 x2).bind fun x7=>(if(x7.Kind != 1)=true then(idx x1 x2).bind fun x9=>nf (x9.Kind != 5)else nf false)else nf false)else nf false)
noncomputable def ref12_name_j1 (x5:Bool):Option (Bool):=some x5
noncomputable def gw (x1:List ApiToken) (x2:Int):Option (Bool):=(if(decide (x2<(x1.length:Int)))=true then(idx x1 x2).bind fun x4=>ref12_name_j1 (x4.Kind==1)else ref12_name_j1 false)
noncomputable def jx (x18:Bool):Option (Bool):=some x18
noncomputable def ref12_kind (x1:List ApiToken) (x2:Int):Option (Bool):=(gw x1 x2).bind fun x3=>(if x3=true then jx true else(bw x1 x2 ([105,110,116]:List UInt8)).bind fun x5=>(if x5=true then jx true else(bw x1 x2 ([98,111,111,108,101,97,110]:List UInt8)).bind fun x7=>(if x7=true then jx true else(bw x1 x2 ([118,111,105,100]:List UInt8)).bind fun x9=>jx x9)))
noncomputable def ne (x1:List ApiToken) (x2:ApiNode) (x3:Int):Option (ApiNode):=(idx x1 x3).bind fun x6=>(idx x1 x3).bind fun x7=>(idx x1 (w64 (x3+1))).bind fun x8=>(idx x1 (w64 (x3+1))).bind fun x9=>some ({{{{x2 with Type_:=x6.Text} with TypeAt:=x7.At} with Text:=x8.Text} with At:=x9.At})
noncomputable def ref12_end_j1 (x3 x4:ApiToken):Option (Int):=some (w64 (x3.At+(x4.Text.length:Int)))
noncomputable def ref12_end (x1:List ApiToken) (x2:Int):Option (Int):=(idx x1 (w64 (x2 - 1))).bind fun x3=>(idx x1 (w64 (x2 - 1))).bind fun x4=>ref12_end_j1 x3 x4
noncomputable def ref12_made_j1 (x2:Int) (x5:List ApiNode) (x7:ApiToken) (x8:Int):Option (ApiNode):=some (ApiNode.mk x2 [] [] 0 x7.At x8 (-1) (-1) x5)
noncomputable def c7 (x1:List ApiToken) (x2 x3 x4:Int) (x5:List ApiNode):Option (ApiNode):=(idx x1 x3).bind fun x7=>(ref12_end x1 x4).bind fun x8=>ref12_made_j1 x2 x5 x7 x8
noncomputable def ba:Option (Ref12Wrong):=some (Ref12Wrong.mk (-1) 0)
noncomputable def ic (x8:Int) (x1:List ApiToken) (x10:List ApiNode) (x17:Bool):Option ((Int × (List ApiNode)) ⊕ ((List ApiNode) × Int × Ref12Wrong)):=(if x17=true then(ax x8).bind fun x19=>some (.inr ([],0,x19))else(gw x1 (w64 (x8+1))).bind fun x21=>(if(!x21)=true then(ax (w64 (x8+1))).bind fun x23=>some (.inr ([],0,x23))else(c7 x1 4 x8 (w64 (x8+2)) []).bind fun x25=>(ne x1 x25 x8).bind fun x26=>(app 104 x10 ([x26]:List ApiNode)).bind fun x27=>(bw x1 (w64 (x8+2)) ([41]:List UInt8)).bind fun x29=>(if x29=true then(ba).bind fun x31=>some (.inr (x27,w64 (x8+3),x31))else(bw x1 (w64 (x8+2)) ([44]:List UInt8)).bind fun x32=>(if(!x32)=true then(ax (w64 (x8+2))).bind fun x34=>some (.inr ([],0,x34))else some (.inl (w64 (x8+3),x27))))))
noncomputable def ja (x1:List ApiToken) (x8:Int) (x10:List ApiNode):Option ((Int × (List ApiNode)) ⊕ ((List ApiNode) × Int × Ref12Wrong)):=(ref12_kind x1 x8).bind fun x14=>(if(!x14)=true then ic x8 x1 x10 true else(bw x1 x8 ([118,111,105,100]:List UInt8)).bind fun x16=>ic x8 x1 x10 x16)
noncomputable def ref12_params (x1:List ApiToken) (x2:Int):Option ((List ApiNode) × Int × Ref12Wrong):=(bw x1 x2 ([41]:List UInt8)).bind fun x4=>(if x4=true then(ba).bind fun x6=>some ([],w64 (x2+1),x6)else iter (fun s=>ja x1 s.1 s.2) (x2,[]))
noncomputable def ref12_binds_k1:Option (Int):=some 0
noncomputable def ref12_binds_k3 (x3:Int):Option ((Int) ⊕ (Flow Unit Int)):=some (.inl (w64 (x3+1)))
noncomputable def iz (x3:Int) (x1:List ApiToken) (x2 x6:Int):Option ((Int) ⊕ (Flow Unit ((Int) ⊕ (Flow Unit Int)))):=(idx ([([([124,124]:List UInt8)]:List (List UInt8)),([([38,38]:List UInt8)]:List (List UInt8)),([([61,61]:List UInt8),([33,61]:List UInt8)]:List (List UInt8)),([([60]:List UInt8),([60,61]:List UInt8),([62]:List UInt8),([62,61]:List UInt8)]:List (List UInt8)),([([43]:List UInt8),([45]:List UInt8)]:List (List UInt8)),([([42]:List UInt8),([47]:List UInt8),([37]:List UInt8)]:List (List UInt8))]:List (List (List UInt8))) x3).bind fun x8=>(if(decide (x6<(x8.length:Int)))=true then(idx ([([([124,124]:List UInt8)]:List (List UInt8)),([([38,38]:List UInt8)]:List (List UInt8)),([([61,61]:List UInt8),([33,61]:List UInt8)]:List (List UInt8)),([([60]:List UInt8),([60,61]:List UInt8),([62]:List UInt8),([62,61]:List UInt8)]:List (List UInt8)),([([43]:List UInt8),([45]:List UInt8)]:List (List UInt8)),([([42]:List UInt8),([47]:List UInt8),([37]:List UInt8)]:List (List UInt8))]:List (List (List UInt8))) x3).bind fun x10=>(idx x10 x6).bind fun x11=>(bw x1 x2 x11).bind fun x12=>(if x12=true then some (.inr (.done (.inr (.done (w64 (x3+1))))))else some (.inl (w64 (x6+1))))else some (.inr (.next ())))
noncomputable def kp (x1:List ApiToken) (x2 x3:Int):Option ((Int) ⊕ (Flow Unit Int)):=(if(decide (x3<(([([([124,124]:List UInt8)]:List (List UInt8)),([([38,38]:List UInt8)]:List (List UInt8)),([([61,61]:List UInt8),([33,61]:List UInt8)]:List (List UInt8)),([([60]:List UInt8),([60,61]:List UInt8),([62]:List UInt8),([62,61]:List UInt8)]:List (List UInt8)),([([43]:List UInt8),([45]:List UInt8)]:List (List UInt8)),([([42]:List UInt8),([47]:List UInt8),([37]:List UInt8)]:List (List UInt8))]:List (List (List UInt8))).length:Int)))=true then(iter (fun s=>iz x3 x1 x2 s) 0).bind fun z=>match z with| .next p=>ref12_binds_k3 x3| .done r=>some r else some (.inr (.next ())))
noncomputable def ref12_binds (x1:List ApiToken) (x2:Int):Option (Int):=(iter (fun s=>kp x1 x2 s) 0).bind fun z=>match z with| .next p=>ref12_binds_k1| .done r=>some r
abbrev ak :Type:=((List ApiToken)->Int->Int->Option (ApiNode × Int × Ref12Wrong)) × ((List ApiToken)->Int->Int->Int->Option (ApiNode × Int × Ref12Wrong)) × ((List ApiToken)->Int->Int->Option (ApiNode × Int × Ref12Wrong)) × ((List ApiToken)->Int->Int->Option (ApiNode × Int × Ref12Wrong)) × ((List ApiToken)->Int->Int->Option ((List ApiNode) × Int × Ref12Wrong))
noncomputable def ix (R:ak) (x1:List ApiToken) (x2 x3:Int):Option (ApiNode × Int × Ref12Wrong):=(R.2.1 x1 x2 x3 1).bind fun(x6,x7,x8)=>some (x6,x7,x8)
noncomputable def ref12_level_j1 (R:ak) (x13:Ref12Wrong):Option (ApiNode × Int × Ref12Wrong):=some ((ApiNode.mk 0 [] [] 0 0 0 0 0 []),0,x13)
noncomputable def ref12_level_j2 (R:ak) (x18:ApiNode) (x17:Int) (x31:Ref12Wrong):Option (ApiNode × Int × Ref12Wrong):=some (x18,x17,x31)
noncomputable def ref12_level_k3 (R:ak) (x17:Int) (x18:ApiNode):Option (ApiNode × Int × Ref12Wrong):=(ba).bind fun x31=>ref12_level_j2 R x18 x17 x31
noncomputable def ref12_level_j5 (R:ak) (x25:Ref12Wrong):Option ((Int × ApiNode) ⊕ (Flow (Int × ApiNode) (ApiNode × Int × Ref12Wrong))):=some (.inr (.done ((ApiNode.mk 0 [] [] 0 0 0 0 0 []),0,x25)))
noncomputable def kn (R:ak) (x1:List ApiToken) (x4 x3 x2 x17:Int) (x18:ApiNode):Option ((Int × ApiNode) ⊕ (Flow (Int × ApiNode) (ApiNode × Int × Ref12Wrong))):=(ref12_binds x1 x17).bind fun x21=>(if(x21==x4)=true then(R.2.1 x1 (w64 (x17+1)) x3 (w64 (x4+1))).bind fun(x23,x24,x25)=>(if(decide (x25.Place≥0))=true then ref12_level_j5 R x25 else(idx x1 x17).bind fun x29=>(c7 x1 24 x2 x24 ([x18,x23]:List ApiNode)).bind fun x30=>some (.inl (x24,{x30 with Text:=x29.Text})))else some (.inr (.next (x17,x18))))
noncomputable def F_ref12_level (R:ak) (x1:List ApiToken) (x2 x3 x4:Int):Option (ApiNode × Int × Ref12Wrong):=(if(decide (x4>6))=true then(R.2.2.1 x1 x2 x3).bind fun(x8,x9,x10)=>some (x8,x9,x10)else(R.2.1 x1 x2 x3 (w64 (x4+1))).bind fun(x11,x12,x13)=>(if(decide (x13.Place≥0))=true then ref12_level_j1 R x13 else(iter (fun s=>kn R x1 x4 x3 x2 s.1 s.2) (x12,x11)).bind fun z=>match z with| .next p=>ref12_level_k3 R p.1 p.2| .done r=>some r))
noncomputable def ref12_unary_j1 (R:ak) (x14:Ref12Wrong):Option (ApiNode × Int × Ref12Wrong):=some ((ApiNode.mk 0 [] [] 0 0 0 0 0 []),0,x14)
noncomputable def km (R:ak) (x1:List ApiToken) (x2 x13:Int) (x12:ApiNode) (x20:Int):Option (ApiNode × Int × Ref12Wrong):=(c7 x1 x20 x2 x13 ([x12]:List ApiNode)).bind fun x21=>(ba).bind fun x22=>some (x21,x13,x22)
noncomputable def ref12_unary_j3 (R:ak) (x25:Ref12Wrong):Option (ApiNode × Int × Ref12Wrong):=some ((ApiNode.mk 0 [] [] 0 0 0 0 0 []),0,x25)
noncomputable def ref12_unary_j4 (R:ak) (x30:ApiNode) (x29:Int) (x55:Ref12Wrong):Option (ApiNode × Int × Ref12Wrong):=some (x30,x29,x55)
noncomputable def ref12_unary_k5 (R:ak) (x29:Int) (x30:ApiNode):Option (ApiNode × Int × Ref12Wrong):=(ba).bind fun x55=>ref12_unary_j4 R x30 x29 x55
noncomputable def kl (R:ak) (x1:List ApiToken) (x2 x29 x48 x49:Int) (x51:List ApiNode):Option ((Int × ApiNode) ⊕ (Flow (Int × ApiNode) (ApiNode × Int × Ref12Wrong))):=(c7 x1 x49 x2 x48 x51).bind fun x52=>(idx x1 (w64 (x29+1))).bind fun x53=>(idx x1 (w64 (x29+1))).bind fun x54=>some (.inl (x48,{{x52 with Text:=x53.Text} with At:=x54.At}))
noncomputable def ref12_unary_j8 (R:ak) (x43:Ref12Wrong):Option ((Int × ApiNode) ⊕ (Flow (Int × ApiNode) (ApiNode × Int × Ref12Wrong))):=some (.inr (.done ((ApiNode.mk 0 [] [] 0 0 0 0 0 []),0,x43)))
noncomputable def ki (R:ak) (x1:List ApiToken) (x3 x2 x29:Int) (x30:ApiNode):Option ((Int × ApiNode) ⊕ (Flow (Int × ApiNode) (ApiNode × Int × Ref12Wrong))):=(bw x1 x29 ([46]:List UInt8)).bind fun x33=>(if x33=true then(gw x1 (w64 (x29+1))).bind fun x35=>(if(!x35)=true then(ax (w64 (x29+1))).bind fun x37=>some (.inr (.done ((ApiNode.mk 0 [] [] 0 0 0 0 0 []),0,x37)))else(bw x1 (w64 ((w64 (x29+1))+1)) ([40]:List UInt8)).bind fun x39=>(if x39=true then(R.2.2.2.2 x1 (w64 ((w64 ((w64 (x29+1))+1))+1)) (w64 (x3+1))).bind fun(x41,x42,x43)=>(if(decide (x43.Place≥0))=true then ref12_unary_j8 R x43 else(app 104 ([x30]:List ApiNode) x41).bind fun x46=>kl R x1 x2 x29 x42 20 x46)else kl R x1 x2 x29 (w64 ((w64 (x29+1))+1)) 18 ([x30]:List ApiNode)))else some (.inr (.next (x29,x30))))
noncomputable def kj (R:ak) (x1:List ApiToken) (x2 x3:Int) (x10:Bool):Option (ApiNode × Int × Ref12Wrong):=(if x10=true then(R.2.2.1 x1 (w64 (x2+1)) (w64 (x3+1))).bind fun(x12,x13,x14)=>(if(decide (x14.Place≥0))=true then ref12_unary_j1 R x14 else(idx x1 x2).bind fun x18=>(if(x18.Text==([45]:List UInt8))=true then km R x1 x2 x13 x12 23 else km R x1 x2 x13 x12 22))else(R.2.2.2.1 x1 x2 (w64 (x3+1))).bind fun(x23,x24,x25)=>(if(decide (x25.Place≥0))=true then ref12_unary_j3 R x25 else(iter (fun s=>ki R x1 x3 x2 s.1 s.2) (x24,x23)).bind fun z=>match z with| .next p=>ref12_unary_k5 R p.1 p.2| .done r=>some r))
noncomputable def F_ref12_unary (R:ak) (x1:List ApiToken) (x2 x3:Int):Option (ApiNode × Int × Ref12Wrong):=(if(decide (x3>60))=true then some ((ApiNode.mk 0 [] [] 0 0 0 0 0 []),0,(Ref12Wrong.mk x2 2))else(bw x1 x2 ([33]:List UInt8)).bind fun x7=>(if x7=true then kj R x1 x2 x3 true else(bw x1 x2 ([45]:List UInt8)).bind fun x9=>kj R x1 x2 x3 x9))
noncomputable def m9 (R:ak) (x11:ApiNode) (x2:Int) (x18:Ref12Wrong):Option (ApiNode × Int × Ref12Wrong):=some (x11,w64 (x2+1),x18)
noncomputable def mx (R:ak) (x2:Int) (x11:ApiNode):Option (ApiNode × Int × Ref12Wrong):=(ba).bind fun x18=>m9 R x11 x2 x18
noncomputable def gh (R:ak) (x1:List ApiToken) (x2 x10:Int) (x11:ApiNode):Option ((Int × ApiNode) ⊕ (ApiNode)):=(idx x1 x2).bind fun x14=>(if(decide (x10<(x14.Text.length:Int)))=true then(idx x1 x2).bind fun x16=>(idxS x16.Text x10).bind fun x17=>some (.inl (w64 (x10+1),{x11 with N:=w64 ((w64 (10 * x11.N))+(w64 (IntKind.wrap .u8 (x17 - 48))))}))else some (.inr x11))
noncomputable def m8 (R:ak) (x21:ApiNode) (x2:Int) (x23:Ref12Wrong):Option (ApiNode × Int × Ref12Wrong):=some ({x21 with N:=1},w64 (x2+1),x23)
noncomputable def m0 (R:ak) (x47:ApiNode) (x49 x50:ApiToken) (x2:Int) (x51:Ref12Wrong):Option (ApiNode × Int × Ref12Wrong):=some ({{x47 with Text:=x49.Text} with At:=x50.At},w64 (x2+4),x51)
noncomputable def ref12_primary_j6 (R:ak) (x56:Ref12Wrong):Option (ApiNode × Int × Ref12Wrong):=some ((ApiNode.mk 0 [] [] 0 0 0 0 0 []),0,x56)
noncomputable def mz (R:ak) (x54:ApiNode) (x55:Int) (x63:Ref12Wrong):Option (ApiNode × Int × Ref12Wrong):=some (x54,w64 (x55+1),x63)
noncomputable def my (R:ak) (x66:ApiNode) (x68 x69:ApiToken) (x2:Int) (x72:Ref12Wrong):Option (ApiNode × Int × Ref12Wrong):=some ({{x66 with Text:=x68.Text} with At:=x69.At},w64 (x2+1),x72)
noncomputable def ref12_primary_j9 (R:ak) (x75:Ref12Wrong):Option (ApiNode × Int × Ref12Wrong):=some ((ApiNode.mk 0 [] [] 0 0 0 0 0 []),0,x75)
noncomputable def mb (R:ak) (x66:ApiNode) (x68 x69:ApiToken) (x73:List ApiNode) (x78 x74:Int) (x79:Ref12Wrong):Option (ApiNode × Int × Ref12Wrong):=some ({{{{{x66 with Text:=x68.Text} with At:=x69.At} with Kind:=19} with Kids:=x73} with To:=x78},x74,x79)
noncomputable def lz (R:ak) (x1:List ApiToken) (x2 x3:Int):Option (ApiNode × Int × Ref12Wrong):=(idx x1 x2).bind fun x6=>(if(x6.Kind==2)=true then(c7 x1 13 x2 (w64 (x2+1)) []).bind fun x8=>(iter (fun s=>gh R x1 x2 s.1 s.2) (0,x8)).bind fun p=>mx R x2 p else(bw x1 x2 ([116,114,117,101]:List UInt8)).bind fun x19=>(if x19=true then(c7 x1 14 x2 (w64 (x2+1)) []).bind fun x21=>(ba).bind fun x23=>m8 R x21 x2 x23 else(bw x1 x2 ([102,97,108,115,101]:List UInt8)).bind fun x24=>(if x24=true then(c7 x1 14 x2 (w64 (x2+1)) []).bind fun x26=>(ba).bind fun x27=>some (x26,w64 (x2+1),x27)else(bw x1 x2 ([110,117,108,108]:List UInt8)).bind fun x28=>(if x28=true then(c7 x1 15 x2 (w64 (x2+1)) []).bind fun x30=>(ba).bind fun x31=>some (x30,w64 (x2+1),x31)else(bw x1 x2 ([116,104,105,115]:List UInt8)).bind fun x32=>(if x32=true then(c7 x1 16 x2 (w64 (x2+1)) []).bind fun x34=>(ba).bind fun x35=>some (x34,w64 (x2+1),x35)else(bw x1 x2 ([110,101,119]:List UInt8)).bind fun x36=>(if x36=true then(gw x1 (w64 (x2+1))).bind fun x38=>(if(!x38)=true then(ax (w64 (x2+1))).bind fun x40=>some ((ApiNode.mk 0 [] [] 0 0 0 0 0 []),0,x40)else(bw x1 (w64 (x2+2)) ([40]:List UInt8)).bind fun x41=>(if(!x41)=true then(ax (w64 (x2+2))).bind fun x43=>some ((ApiNode.mk 0 [] [] 0 0 0 0 0 []),0,x43)else(bw x1 (w64 (x2+3)) ([41]:List UInt8)).bind fun x44=>(if(!x44)=true then(ax (w64 (x2+3))).bind fun x46=>some ((ApiNode.mk 0 [] [] 0 0 0 0 0 []),0,x46)else(c7 x1 21 x2 (w64 (x2+4)) []).bind fun x47=>(idx x1 (w64 (x2+1))).bind fun x49=>(idx x1 (w64 (x2+1))).bind fun x50=>(ba).bind fun x51=>m0 R x47 x49 x50 x2 x51)))else(bw x1 x2 ([40]:List UInt8)).bind fun x52=>(if x52=true then(R.1 x1 (w64 (x2+1)) x3).bind fun(x54,x55,x56)=>(if(decide (x56.Place≥0))=true then ref12_primary_j6 R x56 else(bw x1 x55 ([41]:List UInt8)).bind fun x60=>(if(!x60)=true then(ax x55).bind fun x62=>some ((ApiNode.mk 0 [] [] 0 0 0 0 0 []),0,x62)else(ba).bind fun x63=>mz R x54 x55 x63))else(gw x1 x2).bind fun x64=>(if x64=true then(c7 x1 17 x2 (w64 (x2+1)) []).bind fun x66=>(idx x1 x2).bind fun x68=>(idx x1 x2).bind fun x69=>(bw x1 (w64 (x2+1)) ([40]:List UInt8)).bind fun x70=>(if(!x70)=true then(ba).bind fun x72=>my R x66 x68 x69 x2 x72 else(R.2.2.2.2 x1 (w64 (x2+2)) x3).bind fun(x73,x74,x75)=>(if(decide (x75.Place≥0))=true then ref12_primary_j9 R x75 else(ref12_end x1 x74).bind fun x78=>(ba).bind fun x79=>mb R x66 x68 x69 x73 x78 x74 x79))else(ax x2).bind fun x80=>some ((ApiNode.mk 0 [] [] 0 0 0 0 0 []),0,x80)))))))))
noncomputable def ref12_arguments_j2 (R:ak) (x16:Ref12Wrong):Option ((Int × (List ApiNode)) ⊕ ((List ApiNode) × Int × Ref12Wrong)):=some (.inr ([],0,x16))
noncomputable def gb (R:ak) (x1:List ApiToken) (x3 x8:Int) (x10:List ApiNode):Option ((Int × (List ApiNode)) ⊕ ((List ApiNode) × Int × Ref12Wrong)):=(R.1 x1 x8 x3).bind fun(x14,x15,x16)=>(if(decide (x16.Place≥0))=true then ref12_arguments_j2 R x16 else(app 104 x10 ([x14]:List ApiNode)).bind fun x20=>(bw x1 x15 ([41]:List UInt8)).bind fun x22=>(if x22=true then(ba).bind fun x24=>some (.inr (x20,w64 (x15+1),x24))else(bw x1 x15 ([44]:List UInt8)).bind fun x25=>(if(!x25)=true then(ax x15).bind fun x27=>some (.inr ([],0,x27))else some (.inl (w64 (x15+1),x20)))))
noncomputable def jj (R:ak) (x1:List ApiToken) (x2 x3:Int):Option ((List ApiNode) × Int × Ref12Wrong):=(bw x1 x2 ([41]:List UInt8)).bind fun x5=>(if x5=true then(ba).bind fun x7=>some ([],w64 (x2+1),x7)else iter (fun s=>gb R x1 x3 s.1 s.2) (x2,[]))
noncomputable def rec_ref12_expression_step (R:ak):ak:=((fun x1 x2 x3=>ix R x1 x2 x3),(fun x1 x2 x3 x4=>F_ref12_level R x1 x2 x3 x4),(fun x1 x2 x3=>F_ref12_unary R x1 x2 x3),(fun x1 x2 x3=>lz R x1 x2 x3),(fun x1 x2 x3=>jj R x1 x2 x3))
noncomputable def dm (n:Nat):ak:=Nat.rec (motive:=fun _=>ak) ((fun x1 x2 x3=>none),(fun x1 x2 x3 x4=>none),(fun x1 x2 x3=>none),(fun x1 x2 x3=>none),(fun x1 x2 x3=>none)) (fun _ R=>rec_ref12_expression_step R) n
noncomputable def ff (x1:List ApiToken) (x2 x3:Int):Option (ApiNode × Int × Ref12Wrong):=(dm 1048576).1 x1 x2 x3
noncomputable def ref12_bracketed_j1 (x11:Ref12Wrong):Option (ApiNode × Int × Ref12Wrong):=some ((ApiNode.mk 0 [] [] 0 0 0 0 0 []),0,x11)
noncomputable def k8 (x9:ApiNode) (x10:Int) (x18:Ref12Wrong):Option (ApiNode × Int × Ref12Wrong):=some (x9,w64 (x10+1),x18)
noncomputable def jd (x1:List ApiToken) (x2 x3:Int):Option (ApiNode × Int × Ref12Wrong):=(bw x1 x2 ([40]:List UInt8)).bind fun x6=>(if(!x6)=true then(ax x2).bind fun x8=>some ((ApiNode.mk 0 [] [] 0 0 0 0 0 []),0,x8)else(ff x1 (w64 (x2+1)) x3).bind fun(x9,x10,x11)=>(if(decide (x11.Place≥0))=true then ref12_bracketed_j1 x11 else(bw x1 x10 ([41]:List UInt8)).bind fun x15=>(if(!x15)=true then(ax x10).bind fun x17=>some ((ApiNode.mk 0 [] [] 0 0 0 0 0 []),0,x17)else(ba).bind fun x18=>k8 x9 x10 x18)))
noncomputable def ref12_simple_j1 (x10:Ref12Wrong):Option (ApiNode × Int × Ref12Wrong):=some ((ApiNode.mk 0 [] [] 0 0 0 0 0 []),0,x10)
noncomputable def ref12_simple_j2 (x25:Ref12Wrong):Option (ApiNode × Int × Ref12Wrong):=some ((ApiNode.mk 0 [] [] 0 0 0 0 0 []),0,x25)
noncomputable def ref12_simple (x1:List ApiToken) (x2 x3:Int):Option (ApiNode × Int × Ref12Wrong):=(bw x1 x2 ([112,114,105,110,116]:List UInt8)).bind fun x6=>(if x6=true then(jd x1 (w64 (x2+1)) (w64 (x3+1))).bind fun(x8,x9,x10)=>(if(decide (x10.Place≥0))=true then ref12_simple_j1 x10 else(bw x1 x9 ([59]:List UInt8)).bind fun x14=>(if(!x14)=true then(ax x9).bind fun x16=>some ((ApiNode.mk 0 [] [] 0 0 0 0 0 []),0,x16)else(c7 x1 12 x2 (w64 (x9+1)) ([x8]:List ApiNode)).bind fun x17=>(ba).bind fun x18=>some (x17,w64 (x9+1),x18)))else(bw x1 (w64 (x2+1)) ([59]:List UInt8)).bind fun x19=>(if x19=true then(c7 x1 11 x2 (w64 (x2+2)) []).bind fun x21=>(ba).bind fun x22=>some (x21,w64 (x2+2),x22)else(ff x1 (w64 (x2+1)) (w64 (x3+1))).bind fun(x23,x24,x25)=>(if(decide (x25.Place≥0))=true then ref12_simple_j2 x25 else(bw x1 x24 ([59]:List UInt8)).bind fun x29=>(if(!x29)=true then(ax x24).bind fun x31=>some ((ApiNode.mk 0 [] [] 0 0 0 0 0 []),0,x31)else(c7 x1 11 x2 (w64 (x24+1)) ([x23]:List ApiNode)).bind fun x32=>(ba).bind fun x33=>some (x32,w64 (x24+1),x33)))))
noncomputable def gp (x26:Bool):Option (Bool):=some x26
noncomputable def ref12_local (x1:List ApiToken) (x2:Int):Option (Bool):=(bw x1 x2 ([105,110,116]:List UInt8)).bind fun x3=>(if x3=true then gp true else(bw x1 x2 ([98,111,111,108,101,97,110]:List UInt8)).bind fun x5=>(if x5=true then gp true else(bw x1 x2 ([118,111,105,100]:List UInt8)).bind fun x7=>(if x7=true then gp true else(gw x1 x2).bind fun x9=>(if x9=true then(gw x1 (w64 (x2+1))).bind fun x11=>gp x11 else gp false))))
noncomputable def ref12_locals_j1 (x17:Ref12Wrong):Option (ApiNode × Int × Ref12Wrong):=some ((ApiNode.mk 0 [] [] 0 0 0 0 0 []),0,x17)
noncomputable def nu (x1:List ApiToken) (x2 x3:Int):Option (ApiNode × Int × Ref12Wrong):=(bw x1 x2 ([118,111,105,100]:List UInt8)).bind fun x6=>(if x6=true then(ax x2).bind fun x8=>some ((ApiNode.mk 0 [] [] 0 0 0 0 0 []),0,x8)else(gw x1 (w64 (x2+1))).bind fun x9=>(if(!x9)=true then(ax (w64 (x2+1))).bind fun x11=>some ((ApiNode.mk 0 [] [] 0 0 0 0 0 []),0,x11)else(bw x1 (w64 (x2+2)) ([61]:List UInt8)).bind fun x12=>(if(!x12)=true then(ax (w64 (x2+2))).bind fun x14=>some ((ApiNode.mk 0 [] [] 0 0 0 0 0 []),0,x14)else(ff x1 (w64 (x2+3)) (w64 (x3+1))).bind fun(x15,x16,x17)=>(if(decide (x17.Place≥0))=true then ref12_locals_j1 x17 else(bw x1 x16 ([59]:List UInt8)).bind fun x21=>(if(!x21)=true then(ax x16).bind fun x23=>some ((ApiNode.mk 0 [] [] 0 0 0 0 0 []),0,x23)else(c7 x1 6 x2 (w64 (x16+1)) ([x15]:List ApiNode)).bind fun x24=>(ne x1 x24 x2).bind fun x25=>(ba).bind fun x26=>some (x25,w64 (x16+1),x26))))))
abbrev av :Type:=((List ApiToken)->Int->Int->Option (ApiNode × Int × Ref12Wrong)) × ((List ApiToken)->Int->Int->Option (ApiNode × Int × Ref12Wrong)) × ((List ApiToken)->Int->Int->Option (ApiNode × Int × Ref12Wrong))
noncomputable def ref12_statement_j1 (R:av) (x30:Ref12Wrong):Option (ApiNode × Int × Ref12Wrong):=some ((ApiNode.mk 0 [] [] 0 0 0 0 0 []),0,x30)
noncomputable def ga (R:av) (x1:List ApiToken) (x2 x45 x46:Int) (x48:List ApiNode):Option (ApiNode × Int × Ref12Wrong):=(bw x1 x45 ([59]:List UInt8)).bind fun x49=>(if(!x49)=true then(ax x45).bind fun x51=>some ((ApiNode.mk 0 [] [] 0 0 0 0 0 []),0,x51)else(c7 x1 x46 x2 (w64 (x45+1)) x48).bind fun x52=>(ba).bind fun x53=>some (x52,w64 (x45+1),x53))
noncomputable def ref12_statement_j3 (R:av) (x39:Ref12Wrong):Option (ApiNode × Int × Ref12Wrong):=some ((ApiNode.mk 0 [] [] 0 0 0 0 0 []),0,x39)
noncomputable def f9 (R:av) (x1:List ApiToken) (x2 x3:Int) (x23:Bool):Option (ApiNode × Int × Ref12Wrong):=(if x23=true then(ref12_simple x1 x2 x3).bind fun(x25,x26,x27)=>some (x25,x26,x27)else(ff x1 x2 (w64 (x3+1))).bind fun(x28,x29,x30)=>(if(decide (x30.Place≥0))=true then ref12_statement_j1 R x30 else(bw x1 x29 ([61]:List UInt8)).bind fun x35=>(if x35=true then(ff x1 (w64 (x29+1)) (w64 (x3+1))).bind fun(x37,x38,x39)=>(if(decide (x39.Place≥0))=true then ref12_statement_j3 R x39 else(app 104 ([x28]:List ApiNode) ([x37]:List ApiNode)).bind fun x43=>ga R x1 x2 x38 7 x43)else ga R x1 x2 x29 8 ([x28]:List ApiNode))))
noncomputable def f8 (R:av) (x1:List ApiToken) (x2 x3:Int) (x15:Bool):Option (ApiNode × Int × Ref12Wrong):=(if x15=true then(R.2.2 x1 x2 x3).bind fun(x17,x18,x19)=>some (x17,x18,x19)else(bw x1 x2 ([114,101,116,117,114,110]:List UInt8)).bind fun x20=>(if x20=true then f9 R x1 x2 x3 x20 else(bw x1 x2 ([112,114,105,110,116]:List UInt8)).bind fun x22=>f9 R x1 x2 x3 x22))
noncomputable def ji (R:av) (x1:List ApiToken) (x2 x3:Int):Option (ApiNode × Int × Ref12Wrong):=(if(decide (x3>60))=true then some ((ApiNode.mk 0 [] [] 0 0 0 0 0 []),0,(Ref12Wrong.mk x2 2))else(bw x1 x2 ([123]:List UInt8)).bind fun x7=>(if x7=true then(R.2.1 x1 x2 x3).bind fun(x9,x10,x11)=>some (x9,x10,x11)else(bw x1 x2 ([105,102]:List UInt8)).bind fun x12=>(if x12=true then f8 R x1 x2 x3 x12 else(bw x1 x2 ([119,104,105,108,101]:List UInt8)).bind fun x14=>f8 R x1 x2 x3 x14)))
noncomputable def ref12_block_k1 (R:av) (x1:List ApiToken) (x2 x10:Int) (x11:List ApiNode):Option (ApiNode × Int × Ref12Wrong):=(c7 x1 5 x2 (w64 (x10+1)) x11).bind fun x34=>(ba).bind fun x35=>some (x34,w64 (x10+1),x35)
noncomputable def ref12_block_j3 (R:av) (x30:Ref12Wrong):Option ((Int × (List ApiNode)) ⊕ (Flow (Int × (List ApiNode)) (ApiNode × Int × Ref12Wrong))):=some (.inr (.done ((ApiNode.mk 0 [] [] 0 0 0 0 0 []),0,x30)))
noncomputable def gq (R:av) (x11:List ApiNode) (x28:Int) (x29:ApiNode) (x30:Ref12Wrong):Option ((Int × (List ApiNode)) ⊕ (Flow (Int × (List ApiNode)) (ApiNode × Int × Ref12Wrong))):=(if(decide (x30.Place≥0))=true then ref12_block_j3 R x30 else(app 104 x11 ([x29]:List ApiNode)).bind fun x32=>some (.inl (x28,x32)))
noncomputable def ko (R:av) (x1:List ApiToken) (x3 x10:Int) (x11:List ApiNode):Option ((Int × (List ApiNode)) ⊕ (Flow (Int × (List ApiNode)) (ApiNode × Int × Ref12Wrong))):=(bw x1 x10 ([125]:List UInt8)).bind fun x15=>(if(!x15)=true then(ref12_local x1 x10).bind fun x19=>(if x19=true then(nu x1 x10 (w64 (x3+1))).bind fun(x21,x22,x23)=>(if(decide ((w64 (x3+1))>60))=true then gq R x11 x22 x21 (Ref12Wrong.mk x10 2)else gq R x11 x22 x21 x23)else(R.1 x1 x10 (w64 (x3+1))).bind fun(x25,x26,x27)=>gq R x11 x26 x25 x27)else some (.inr (.next (x10,x11))))
noncomputable def F_ref12_block (R:av) (x1:List ApiToken) (x2 x3:Int):Option (ApiNode × Int × Ref12Wrong):=(bw x1 x2 ([123]:List UInt8)).bind fun x6=>(if(!x6)=true then(ax x2).bind fun x8=>some ((ApiNode.mk 0 [] [] 0 0 0 0 0 []),0,x8)else(iter (fun s=>ko R x1 x3 s.1 s.2) (w64 (x2+1),[])).bind fun z=>match z with| .next p=>ref12_block_k1 R x1 x2 p.1 p.2| .done r=>some r)
noncomputable def ref12_guarded_j1 (R:av) (x8:Ref12Wrong):Option (ApiNode × Int × Ref12Wrong):=some ((ApiNode.mk 0 [] [] 0 0 0 0 0 []),0,x8)
noncomputable def ref12_guarded_j2 (R:av) (x14:Ref12Wrong):Option (ApiNode × Int × Ref12Wrong):=some ((ApiNode.mk 0 [] [] 0 0 0 0 0 []),0,x14)
noncomputable def il (R:av) (x1:List ApiToken) (x2 x33:Int) (x35:List ApiNode):Option (ApiNode × Int × Ref12Wrong):=(c7 x1 9 x2 x33 x35).bind fun x36=>(ba).bind fun x37=>some (x36,x33,x37)
noncomputable def ref12_guarded_j4 (R:av) (x27:Ref12Wrong):Option (ApiNode × Int × Ref12Wrong):=some ((ApiNode.mk 0 [] [] 0 0 0 0 0 []),0,x27)
noncomputable def l0 (R:av) (x1:List ApiToken) (x2 x3:Int):Option (ApiNode × Int × Ref12Wrong):=(jd x1 (w64 (x2+1)) (w64 (x3+1))).bind fun(x6,x7,x8)=>(if(decide (x8.Place≥0))=true then ref12_guarded_j1 R x8 else(R.1 x1 x7 (w64 (x3+1))).bind fun(x12,x13,x14)=>(if(decide (x14.Place≥0))=true then ref12_guarded_j2 R x14 else(bw x1 x2 ([119,104,105,108,101]:List UInt8)).bind fun x19=>(if x19=true then(c7 x1 10 x2 x13 ([x6,x12]:List ApiNode)).bind fun x21=>(ba).bind fun x22=>some (x21,x13,x22)else(bw x1 x13 ([101,108,115,101]:List UInt8)).bind fun x23=>(if x23=true then(R.1 x1 (w64 (x13+1)) (w64 (x3+1))).bind fun(x25,x26,x27)=>(if(decide (x27.Place≥0))=true then ref12_guarded_j4 R x27 else(app 104 ([x6,x12]:List ApiNode) ([x25]:List ApiNode)).bind fun x31=>il R x1 x2 x26 x31)else il R x1 x2 x13 ([x6,x12]:List ApiNode)))))
noncomputable def rec_ref12_statement_step (R:av):av:=((fun x1 x2 x3=>ji R x1 x2 x3),(fun x1 x2 x3=>F_ref12_block R x1 x2 x3),(fun x1 x2 x3=>l0 R x1 x2 x3))
noncomputable def d4 (n:Nat):av:=Nat.rec (motive:=fun _=>av) ((fun x1 x2 x3=>none),(fun x1 x2 x3=>none),(fun x1 x2 x3=>none)) (fun _ R=>rec_ref12_statement_step R) n
noncomputable def ref12_statement (x1:List ApiToken) (x2 x3:Int):Option (ApiNode × Int × Ref12Wrong):=(d4 1048576).1 x1 x2 x3
noncomputable def ref12_block (x1:List ApiToken) (x2 x3:Int):Option (ApiNode × Int × Ref12Wrong):=(d4 1048576).2.1 x1 x2 x3
noncomputable def ref12_member_j1 (x45:ApiNode) (x37:Int) (x46:Ref12Wrong):Option (ApiNode × Int × Ref12Wrong):=some (x45,x37,x46)
noncomputable def lp (x37:Int) (x45:ApiNode):Option (ApiNode × Int × Ref12Wrong):=(ba).bind fun x46=>ref12_member_j1 x45 x37 x46
noncomputable def jc (x1:List ApiToken) (x2 x7:Int) (x5:Bool) (x37 x38:Int) (x40:List ApiNode):Option (ApiNode × Int × Ref12Wrong):=(c7 x1 x38 x2 x37 x40).bind fun x41=>(ne x1 x41 x7).bind fun x42=>(if x5=true then lp x37 ({x42 with N:=1})else lp x37 x42)
noncomputable def ref12_member_j4 (x24:Ref12Wrong):Option (ApiNode × Int × Ref12Wrong):=some ((ApiNode.mk 0 [] [] 0 0 0 0 0 []),0,x24)
noncomputable def ref12_member_j5 (x30:Ref12Wrong):Option (ApiNode × Int × Ref12Wrong):=some ((ApiNode.mk 0 [] [] 0 0 0 0 0 []),0,x30)
noncomputable def jb (x1:List ApiToken) (x2:Int) (x5:Bool) (x7:Int):Option (ApiNode × Int × Ref12Wrong):=(ref12_kind x1 x7).bind fun x8=>(if(!x8)=true then(ax x7).bind fun x10=>some ((ApiNode.mk 0 [] [] 0 0 0 0 0 []),0,x10)else(gw x1 (w64 (x7+1))).bind fun x11=>(if(!x11)=true then(ax (w64 (x7+1))).bind fun x13=>some ((ApiNode.mk 0 [] [] 0 0 0 0 0 []),0,x13)else(bw x1 (w64 (x7+2)) ([59]:List UInt8)).bind fun x15=>(if x15=true then(bw x1 x7 ([118,111,105,100]:List UInt8)).bind fun x17=>(if x17=true then(ax (w64 (x7+2))).bind fun x19=>some ((ApiNode.mk 0 [] [] 0 0 0 0 0 []),0,x19)else jc x1 x2 x7 x5 (w64 ((w64 (x7+2))+1)) 2 [])else(bw x1 (w64 (x7+2)) ([40]:List UInt8)).bind fun x20=>(if x20=true then(ref12_params x1 (w64 ((w64 (x7+2))+1))).bind fun(x22,x23,x24)=>(if(decide (x24.Place≥0))=true then ref12_member_j4 x24 else(ref12_block x1 x23 1).bind fun(x28,x29,x30)=>(if(decide (x30.Place≥0))=true then ref12_member_j5 x30 else(app 104 x22 ([x28]:List ApiNode)).bind fun x34=>jc x1 x2 x7 x5 x29 3 x34))else(ax (w64 (x7+2))).bind fun x36=>some ((ApiNode.mk 0 [] [] 0 0 0 0 0 []),0,x36)))))
noncomputable def nt (x1:List ApiToken) (x2:Int):Option (ApiNode × Int × Ref12Wrong):=(bw x1 x2 ([115,116,97,116,105,99]:List UInt8)).bind fun x5=>(if x5=true then jb x1 x2 x5 (w64 (x2+1))else jb x1 x2 x5 x2)
noncomputable def na (x2:Ref12Wrong) (x5:ApiToken):Option (ApiMistake):=some (ApiMistake.mk x2.Code 0 x5.At)
noncomputable def ref12_mistake (x1:List ApiToken) (x2:Ref12Wrong):Option (ApiMistake):=(idx x1 (if(w64 ((x1.length:Int) - 1))<x2.Place then(w64 ((x1.length:Int) - 1))else x2.Place)).bind fun x5=>na x2 x5
abbrev ed :Type:=(ApiNode->Option (Int))
noncomputable def ref11_Depth_k1 (R:ed) (x3:Int):Option (Int):=some (w64 (x3+1))
noncomputable def kq (R:ed) (x1:ApiNode) (x3 x4:Int):Option ((Int × Int) ⊕ (Int)):=(if(decide (x4<(x1.Kids.length:Int)))=true then(idx x1.Kids x4).bind fun x8=>(R x8).bind fun x9=>some (.inl ((if x9>x3 then x9 else x3),w64 (x4+1)))else some (.inr x3))
noncomputable def F_ref11_Depth (R:ed) (x1:ApiNode):Option (Int):=(iter (fun s=>kq R x1 s.1 s.2) (0,0)).bind fun p=>ref11_Depth_k1 R p
noncomputable def rec_ref11_Depth_step (R:ed):ed:=(fun x1=>F_ref11_Depth R x1)
noncomputable def ge (n:Nat):ed:=Nat.rec (motive:=fun _=>ed) (fun x1=>none) (fun _ R=>rec_ref11_Depth_step R) n
noncomputable def ref11_Depth (x1:ApiNode):Option (Int):=(ge 1048576) x1
noncomputable def ref12_One_j1 (x42:ApiToken):Option (ApiNode × ApiMistake):=some ((ApiNode.mk 0 [] [] 0 0 0 0 0 []),(ApiMistake.mk 2 0 x42.At))
noncomputable def jn (x5:List ApiToken) (x30:ApiNode) (x37:Ref12Wrong):Option (ApiNode × ApiMistake):=(if(decide (x37.Place≥0))=true then(ref12_mistake x5 x37).bind fun x39=>some ((ApiNode.mk 0 [] [] 0 0 0 0 0 []),x39)else(ref11_Depth x30).bind fun x40=>(if(decide (x40>200))=true then(idx x5 0).bind fun x42=>ref12_One_j1 x42 else some (x30,(ApiMistake.mk 0 0 0))))
noncomputable def nv (x29:Int) (x5:List ApiToken) (x30:ApiNode) (x31:Ref12Wrong) (x34:Bool):Option (ApiNode × ApiMistake):=(if x34=true then(ax x29).bind fun x36=>jn x5 x30 x36 else jn x5 x30 x31)
noncomputable def lj (x5:List ApiToken) (x29:Int) (x30:ApiNode) (x31:Ref12Wrong):Option (ApiNode × ApiMistake):=(if(decide (x31.Place<0))=true then(idx x5 x29).bind fun x33=>nv x29 x5 x30 x31 (x33.Kind != 5)else nv x29 x5 x30 x31 false)
noncomputable def ref12_One_j5 (x5:List ApiToken) (x2:Int) (x17:Bool):Option (ApiNode × ApiMistake):=(if x17=true then(nu x5 0 1).bind fun(x19,x20,x21)=>lj x5 x20 x19 x21 else(if(x2==2)=true then(ref12_statement x5 0 1).bind fun(x23,x24,x25)=>lj x5 x24 x23 x25 else(ff x5 0 1).bind fun(x26,x27,x28)=>lj x5 x27 x26 x28))
noncomputable def ref12_One (x1:List UInt8) (x2:Int):Option (ApiNode × ApiMistake):=(ref03_Lex x1).bind fun(x5,x6,x7)=>(if(x7 != 0)=true then some ((ApiNode.mk 0 [] [] 0 0 0 0 0 []),(ApiMistake.mk x7 0 x6))else(if(x2==1)=true then(nt x5 0).bind fun(x12,x13,x14)=>lj x5 x13 x12 x14 else(if(x2==2)=true then(ref12_local x5 0).bind fun x16=>ref12_One_j5 x5 x2 x16 else ref12_One_j5 x5 x2 false)))
noncomputable def lcs_Numbers_k1 (x5:SMap Int) (x6:List (List Int)):Option ((List (List Int))):=some x6
noncomputable def lcs_Numbers_k3 (x6:List (List Int)) (x4:Int) (x15:SMap Int) (x16:List Int):Option ((Int × (SMap Int) × (List (List Int))) ⊕ ((SMap Int) × (List (List Int)))):=(app 24 x6 ([x16]:List (List Int))).bind fun x28=>some (.inl (w64 (x4+1),x15,x28))
noncomputable def k4 (x16:List Int) (x14 x24:Int) (x25:SMap Int):Option ((Int × (SMap Int) × (List Int)) ⊕ ((SMap Int) × (List Int))):=(app 8 x16 ([x24]:List Int)).bind fun x26=>some (.inl (w64 (x14+1),x25,x26))
noncomputable def fx (x12:List (List UInt8)) (x14:Int) (x15:SMap Int) (x16:List Int):Option ((Int × (SMap Int) × (List Int)) ⊕ ((SMap Int) × (List Int))):=(if(decide (x14<(x12.length:Int)))=true then(idx x12 x14).bind fun x22=>(if(!(mhas x22 x15))=true then k4 x16 x14 (x15.length:Int) (mset x22 (x15.length:Int) x15)else k4 x16 x14 (mget x22 0 x15) x15)else some (.inr (x15,x16)))
noncomputable def gu (x1:List (List (List UInt8))) (x4:Int) (x5:SMap Int) (x6:List (List Int)):Option ((Int × (SMap Int) × (List (List Int))) ⊕ ((SMap Int) × (List (List Int)))):=(if(decide (x4<(x1.length:Int)))=true then(idx x1 x4).bind fun x12=>(iter (fun s=>fx x12 s.1 s.2.1 s.2.2) (0,x5,[])).bind fun p=>lcs_Numbers_k3 x6 x4 p.1 p.2 else some (.inr (x5,x6)))
noncomputable def lcs_Numbers (x1:List (List (List UInt8))):Option ((List (List Int))):=(iter (fun s=>gu x1 s.1 s.2.1 s.2.2) (0,([]:SMap Int),[])).bind fun p=>lcs_Numbers_k1 p.1 p.2
noncomputable def lcs_none_k1 (x5:List Int):Option ((List Int)):=some x5
noncomputable def ju (x1 x4:Int) (x5:List Int):Option ((Int × (List Int)) ⊕ ((List Int))):=(if(decide (x4<x1))=true then(idx x5 x4).bind fun x9=>some (.inl (w64 (x4+1),(List.set x5 (Int.toNat x4) (-1))))else some (.inr x5))
noncomputable def lcs_none (x1:Int):Option ((List Int)):=(mkLen 8 x1).bind fun x2=>(iter (fun s=>ju x1 s.1 s.2) (0,(List.replicate x2 0))).bind fun p=>lcs_none_k1 p
noncomputable def lcs_ends_k1 (x5 x15:Int) (x23:List Int):Option (Int × Int × (List Int)):=some (x5,x15,x23)
noncomputable def lh (x15:Int) (x1 x2:List Int) (x22:Int) (x23:List Int):Option ((Int × (List Int)) ⊕ ((List Int))):=(if(decide (x22<x15))=true then(idx x23 (w64 ((w64 ((x1.length:Int) - 1)) - x22))).bind fun x27=>some (.inl (w64 (x22+1),(List.set x23 (Int.toNat (w64 ((w64 ((x1.length:Int) - 1)) - x22))) (w64 ((w64 ((x2.length:Int) - 1)) - x22)))))else some (.inr x23))
noncomputable def lcs_ends_k3 (x1 x2 x6:List Int) (x5 x15:Int):Option (Int × Int × (List Int)):=(iter (fun s=>lh x15 x1 x2 s.1 s.2) (0,x6)).bind fun p=>lcs_ends_k1 x5 x15 p
noncomputable def lcs_ends_j5 (x15:Int) (x20:Bool):Option ((Int) ⊕ (Int)):=(if x20=true then some (.inl (w64 (x15+1)))else some (.inr x15))
noncomputable def iy (x2 x1:List Int) (x5 x15:Int):Option ((Int) ⊕ (Int)):=(if(decide (x15<(w64 ((if(x2.length:Int)<(x1.length:Int)then(x2.length:Int)else(x1.length:Int)) - x5))))=true then(idx x1 (w64 ((w64 ((x1.length:Int) - 1)) - x15))).bind fun x18=>(idx x2 (w64 ((w64 ((x2.length:Int) - 1)) - x15))).bind fun x19=>lcs_ends_j5 x15 (x18==x19)else lcs_ends_j5 x15 false)
noncomputable def lcs_ends_k6 (x2 x1:List Int) (x5:Int) (x6:List Int):Option (Int × Int × (List Int)):=(iter (fun s=>iy x2 x1 x5 s) 0).bind fun p=>lcs_ends_k3 x1 x2 x6 x5 p
noncomputable def nh (x6:List Int) (x5:Int) (x12:Bool):Option ((Int × (List Int)) ⊕ (Int × (List Int))):=(if x12=true then(idx x6 x5).bind fun x14=>some (.inl (w64 (x5+1),(List.set x6 (Int.toNat x5) x5)))else some (.inr (x5,x6)))
noncomputable def jv (x2 x1:List Int) (x5:Int) (x6:List Int):Option ((Int × (List Int)) ⊕ (Int × (List Int))):=(if(decide (x5<(if(x2.length:Int)<(x1.length:Int)then(x2.length:Int)else(x1.length:Int))))=true then(idx x1 x5).bind fun x10=>(idx x2 x5).bind fun x11=>nh x6 x5 (x10==x11)else nh x6 x5 false)
noncomputable def lcs_ends (x1 x2 x4:List Int):Option (Int × Int × (List Int)):=(iter (fun s=>jv x2 x1 s.1 s.2) (0,x4)).bind fun p=>lcs_ends_k6 x2 x1 p.1 p.2
noncomputable def lcs_Match_k1 (x14:List Int):Option ((List Int)):=some x14
noncomputable def js (x12 x13:Int) (x14:List Int) (x26 x28:Int):Option ((Int × Int × (List Int)) ⊕ ((List Int))):=(if(decide (x26≥x28))=true then some (.inl (w64 (x12+1),x13,x14))else some (.inl (x12,w64 (x13+1),x14)))
noncomputable def jr (x14:List Int) (x12 x13:Int) (x11:List (List Int)) (x21 x22:Int):Option ((Int × Int × (List Int)) ⊕ ((List Int))):=(if(x21==x22)=true then(idx x14 x12).bind fun x24=>some (.inl (w64 (x12+1),w64 (x13+1),(List.set x14 (Int.toNat x12) x13)))else(idx x11 (w64 (x12+1))).bind fun x25=>(idx x25 x13).bind fun x26=>(idx x11 x12).bind fun x27=>(idx x27 (w64 (x13+1))).bind fun x28=>js x12 x13 x14 x26 x28)
noncomputable def jq (x1:List Int) (x12:Int) (x2:List Int) (x13:Int) (x14:List Int) (x11:List (List Int)) (x19:Bool):Option ((Int × Int × (List Int)) ⊕ ((List Int))):=(if x19=true then(idx x1 x12).bind fun x21=>(idx x2 x13).bind fun x22=>jr x14 x12 x13 x11 x21 x22 else some (.inr x14))
noncomputable def f2 (x1 x2:List Int) (x11:List (List Int)) (x12 x13:Int) (x14:List Int):Option ((Int × Int × (List Int)) ⊕ ((List Int))):=(if(decide (x12<(x1.length:Int)))=true then jq x1 x12 x2 x13 x14 x11 (decide (x13<(x2.length:Int)))else jq x1 x12 x2 x13 x14 x11 false)
noncomputable def jp (x1 x2 x3:List Int) (x6:Bool):Option ((List Int)):=(if x6=true then(lcs_ends x1 x2 x3).bind fun(x8,x9,x10)=>some x10 else(lcs_left x1 x2).bind fun x11=>(iter (fun s=>f2 x1 x2 x11 s.1 s.2.1 s.2.2) (0,0,x3)).bind fun p=>lcs_Match_k1 p)
noncomputable def lcs_Match (x1 x2:List Int):Option ((List Int)):=(lcs_none (x1.length:Int)).bind fun x3=>(if(decide ((x1.length:Int)>2000))=true then jp x1 x2 x3 true else jp x1 x2 x3 (decide ((x2.length:Int)>2000)))
noncomputable def lcs_Length_k1 (x4:Int):Option (Int):=some x4
noncomputable def lcs_Length_j3 (x5 x11:Int):Option ((Int × Int) ⊕ (Int)):=some (.inl (x11,w64 (x5+1)))
noncomputable def iu (x3:List Int) (x4 x5:Int):Option ((Int × Int) ⊕ (Int)):=(if(decide (x5<(x3.length:Int)))=true then(idx x3 x5).bind fun x9=>(if(decide (x9≥0))=true then lcs_Length_j3 x5 (w64 (x4+1))else lcs_Length_j3 x5 x4)else some (.inr x4))
noncomputable def lcs_Length (x1 x2:List Int):Option (Int):=(lcs_Match x1 x2).bind fun x3=>(iter (fun s=>iu x3 s.1 s.2) (0,0)).bind fun p=>lcs_Length_k1 p
noncomputable def lcs_Percent (x1 x2:List Int):Option (Int):=(if((w64 ((x1.length:Int)+(x2.length:Int)))==0)=true then some 100 else(lcs_Length x1 x2).bind fun x4=>(nz (w64 ((x1.length:Int)+(x2.length:Int)))).bind fun _=>some (w64 (Int.tdiv (w64 (200 * x4)) (w64 ((x1.length:Int)+(x2.length:Int))))))
noncomputable def shape_alike_j1 (x6:Int):Option (Int):=some x6
noncomputable def shape_alike (x1 x2:List (List UInt8)):Option (Int):=(lcs_Numbers ([x1,x2]:List (List (List UInt8)))).bind fun x3=>(idx x3 0).bind fun x4=>(idx x3 1).bind fun x5=>(lcs_Percent x4 x5).bind fun x6=>shape_alike_j1 x6
noncomputable def shape_Percent_j1 (x8:Int):Option (Int):=some x8
noncomputable def fv (x1 x2:ApiNode) (x3:List (List UInt8)):Option (Int):=(f1 x1 x3).bind fun x6=>(f1 x2 x3).bind fun x7=>(shape_alike x6 x7).bind fun x8=>shape_Percent_j1 x8
noncomputable def shape_Best_k1 (x7:Int):Option (Int):=some x7
noncomputable def shape_Best_j3 (x9 x22 x23:Int) (x14:ApiNode):Option ((Int × Int × Int) ⊕ (Int)):=some (.inl (x22,x23,w64 (x9+1)))
noncomputable def shape_Best_j4 (x9 x18:Int) (x14:ApiNode) (x7 x8:Int) (x20:Bool):Option ((Int × Int × Int) ⊕ (Int)):=(if x20=true then shape_Best_j3 x9 x9 x18 x14 else shape_Best_j3 x9 x7 x8 x14)
noncomputable def shape_Best_l2 (x2:List ApiNode) (x1:ApiNode) (x3 x6:List (List UInt8)) (x4 x7 x8 x9:Int):Option ((Int × Int × Int) ⊕ (Int)):=(if(decide (x9<(x2.length:Int)))=true then(idx x2 x9).bind fun x14=>(if(x14.Kind != x1.Kind)=true then shape_Best_j3 x9 x7 x8 x14 else(f1 x14 x3).bind fun x17=>(shape_alike x6 x17).bind fun x18=>(if(decide (x18≥x4))=true then shape_Best_j4 x9 x18 x14 x7 x8 (decide (x18>x8))else shape_Best_j4 x9 x18 x14 x7 x8 false))else some (.inr x7))
noncomputable def shape_Best (x1:ApiNode) (x2:List ApiNode) (x3:List (List UInt8)) (x4:Int):Option (Int):=(f1 x1 x3).bind fun x6=>(iter (fun s=>shape_Best_l2 x2 x1 x3 x6 x4 s.1 s.2.1 s.2.2) ((-1),(-1),0)).bind fun p=>shape_Best_k1 p
noncomputable def gv (x72:Bool):Option (Bool):=some x72
noncomputable def law14_awake:Option (Bool):=(ref12_One ([105,110,116,32,102,40,41,123,114,101,116,117,114,110,32,102,40,41,59,125]:List UInt8) 1).bind fun(x1,x2)=>(ref12_One ([105,110,116,32,103,40,41,123,114,101,116,117,114,110,32,103,40,41,59,125]:List UInt8) 1).bind fun(x5,x6)=>(l5 x1 ([([102]:List UInt8)]:List (List UInt8))).bind fun x9=>(if(x9==([32,32,105,110,116,32,95,40,41,32,123,10,32,32,32,32,114,101,116,117,114,110,32,95,40,41,59,10,32,32,125,10]:List UInt8))=true then(fv x1 x5 ([([102]:List UInt8),([103]:List UInt8)]:List (List UInt8))).bind fun x11=>(if(x11==100)=true then(fv x1 x5 []).bind fun x13=>(if(decide (x13<100))=true then(f1 x1 []).bind fun x15=>(if((x15.length:Int)==11)=true then(shape_Best x1 ([x5,x1]:List ApiNode) [] 50).bind fun x17=>(if(x17==1)=true then(shape_Erase x1 ([([102]:List UInt8)]:List (List UInt8))).bind fun x19=>gv (x19.Text==([95]:List UInt8))else gv false)else gv false)else gv false)else gv false)else gv false)
abbrev d9 :Type:=(ApiNode->Int->Option ((List ApiNode)))
noncomputable def ref11_All_k1 (R:d9) (x14:List ApiNode):Option ((List ApiNode)):=some x14
noncomputable def nw (R:d9) (x1:ApiNode) (x2 x13:Int) (x14:List ApiNode):Option ((Int × (List ApiNode)) ⊕ ((List ApiNode))):=(if(decide (x13<(x1.Kids.length:Int)))=true then(idx x1.Kids x13).bind fun x19=>(R x19 x2).bind fun x20=>(app 104 x14 x20).bind fun x21=>some (.inl (w64 (x13+1),x21))else some (.inr x14))
noncomputable def ref11_All_j3 (R:d9) (x1:ApiNode) (x2:Int) (x11:List ApiNode):Option ((List ApiNode)):=(iter (fun s=>nw R x1 x2 s.1 s.2) (0,x11)).bind fun p=>ref11_All_k1 R p
noncomputable def ref11_All_j4 (R:d9) (x1:ApiNode) (x2:Int) (x6:Bool):Option ((List ApiNode)):=(if x6=true then(app 104 [] ([x1]:List ApiNode)).bind fun x8=>ref11_All_j3 R x1 x2 x8 else ref11_All_j3 R x1 x2 [])
noncomputable def F_ref11_All (R:d9) (x1:ApiNode) (x2:Int):Option ((List ApiNode)):=(if(x2==0)=true then ref11_All_j4 R x1 x2 true else ref11_All_j4 R x1 x2 (x1.Kind==x2))
noncomputable def rec_ref11_All_step (R:d9):d9:=(fun x1 x2=>F_ref11_All R x1 x2)
noncomputable def io (n:Nat):d9:=Nat.rec (motive:=fun _=>d9) (fun x1 x2=>none) (fun _ R=>rec_ref11_All_step R) n
noncomputable def ref11_All (x1:ApiNode) (x2:Int):Option ((List ApiNode)):=(io 1048576) x1 x2
noncomputable def ref14_in_k1:Option (Bool):=some false
noncomputable def ref14_in_j3 (x3:Int) (x8:Bool):Option ((Int) ⊕ (Flow Unit Bool)):=(if x8=true then some (.inr (.done true))else some (.inl (w64 (x3+1))))
noncomputable def ref14_in_l2 (x1:List (List UInt8)) (x2:List UInt8) (x3:Int):Option ((Int) ⊕ (Flow Unit Bool)):=(if(decide (x3<(x1.length:Int)))=true then(idx x1 x3).bind fun x6=>(if(x6==x2)=true then ref14_in_j3 x3 (!(x2==[]))else ref14_in_j3 x3 false)else some (.inr (.next ())))
noncomputable def ref14_in (x1:List (List UInt8)) (x2:List UInt8):Option (Bool):=(iter (fun s=>ref14_in_l2 x1 x2 s) 0).bind fun z=>match z with| .next p=>ref14_in_k1| .done r=>some r
abbrev dz :Type:=(ApiNode->(List (List UInt8))->Option (ApiNode))
noncomputable def ref14_Erase_j1 (R:dz) (x23:ApiNode):Option (ApiNode):=some x23
noncomputable def ref14_Erase_j2 (R:dz) (x2:List (List UInt8)) (x20:ApiNode):Option (ApiNode):=(ref14_in x2 x20.Type_).bind fun x21=>(if x21=true then ref14_Erase_j1 R ({x20 with Type_:=([95]:List UInt8)})else ref14_Erase_j1 R x20)
noncomputable def ref14_Erase_j3 (R:dz) (x2:List (List UInt8)) (x1:ApiNode) (x7:List ApiNode) (x18:Bool):Option (ApiNode):=(if x18=true then ref14_Erase_j2 R x2 ({{x1 with Kids:=x7} with Text:=([95]:List UInt8)})else ref14_Erase_j2 R x2 ({x1 with Kids:=x7}))
noncomputable def ref14_Erase_k4 (R:dz) (x2:List (List UInt8)) (x1:ApiNode) (x7:List ApiNode):Option (ApiNode):=(ref14_in x2 (({x1 with Kids:=x7}).Text)).bind fun x16=>(if x16=true then ref14_Erase_j3 R x2 x1 x7 ((({x1 with Kids:=x7}).Kind) != 24)else ref14_Erase_j3 R x2 x1 x7 false)
noncomputable def mh (R:dz) (x1:ApiNode) (x2:List (List UInt8)) (x6:Int) (x7:List ApiNode):Option ((Int × (List ApiNode)) ⊕ ((List ApiNode))):=(if(decide (x6<(x1.Kids.length:Int)))=true then(idx x1.Kids x6).bind fun x12=>(R x12 x2).bind fun x13=>(app 104 x7 ([x13]:List ApiNode)).bind fun x14=>some (.inl (w64 (x6+1),x14))else some (.inr x7))
noncomputable def F_ref14_Erase (R:dz) (x1:ApiNode) (x2:List (List UInt8)):Option (ApiNode):=(iter (fun s=>mh R x1 x2 s.1 s.2) (0,[])).bind fun p=>ref14_Erase_k4 R x2 x1 p
noncomputable def rec_ref14_Erase_step (R:dz):dz:=(fun x1 x2=>F_ref14_Erase R x1 x2)
noncomputable def k9 (n:Nat):dz:=Nat.rec (motive:=fun _=>dz) (fun x1 x2=>none) (fun _ R=>rec_ref14_Erase_step R) n
noncomputable def ref14_Erase (x1:ApiNode) (x2:List (List UInt8)):Option (ApiNode):=(k9 1048576) x1 x2
noncomputable def ref13_Binds_k1:Option (Int):=some 0
noncomputable def ref13_Binds_k3 (x2:Int):Option ((Int) ⊕ (Flow Unit Int)):=some (.inl (w64 (x2+1)))
noncomputable def mj (x2:Int) (x1:List UInt8) (x5:Int):Option ((Int) ⊕ (Flow Unit ((Int) ⊕ (Flow Unit Int)))):=(idx ([([([124,124]:List UInt8)]:List (List UInt8)),([([38,38]:List UInt8)]:List (List UInt8)),([([61,61]:List UInt8),([33,61]:List UInt8)]:List (List UInt8)),([([60]:List UInt8),([60,61]:List UInt8),([62]:List UInt8),([62,61]:List UInt8)]:List (List UInt8)),([([43]:List UInt8),([45]:List UInt8)]:List (List UInt8)),([([42]:List UInt8),([47]:List UInt8),([37]:List UInt8)]:List (List UInt8))]:List (List (List UInt8))) x2).bind fun x7=>(if(decide (x5<(x7.length:Int)))=true then(idx ([([([124,124]:List UInt8)]:List (List UInt8)),([([38,38]:List UInt8)]:List (List UInt8)),([([61,61]:List UInt8),([33,61]:List UInt8)]:List (List UInt8)),([([60]:List UInt8),([60,61]:List UInt8),([62]:List UInt8),([62,61]:List UInt8)]:List (List UInt8)),([([43]:List UInt8),([45]:List UInt8)]:List (List UInt8)),([([42]:List UInt8),([47]:List UInt8),([37]:List UInt8)]:List (List UInt8))]:List (List (List UInt8))) x2).bind fun x9=>(idx x9 x5).bind fun x10=>(if(x10==x1)=true then some (.inr (.done (.inr (.done (w64 (x2+1))))))else some (.inl (w64 (x5+1))))else some (.inr (.next ())))
noncomputable def ml (x1:List UInt8) (x2:Int):Option ((Int) ⊕ (Flow Unit Int)):=(if(decide (x2<(([([([124,124]:List UInt8)]:List (List UInt8)),([([38,38]:List UInt8)]:List (List UInt8)),([([61,61]:List UInt8),([33,61]:List UInt8)]:List (List UInt8)),([([60]:List UInt8),([60,61]:List UInt8),([62]:List UInt8),([62,61]:List UInt8)]:List (List UInt8)),([([43]:List UInt8),([45]:List UInt8)]:List (List UInt8)),([([42]:List UInt8),([47]:List UInt8),([37]:List UInt8)]:List (List UInt8))]:List (List (List UInt8))).length:Int)))=true then(iter (fun s=>mj x2 x1 s) 0).bind fun z=>match z with| .next p=>ref13_Binds_k3 x2| .done r=>some r else some (.inr (.next ())))
noncomputable def ref13_Binds (x1:List UInt8):Option (Int):=(iter (fun s=>ml x1 s) 0).bind fun z=>match z with| .next p=>ref13_Binds_k1| .done r=>some r
noncomputable def ref13_binding_j1 (x6:Bool):Option (Int):=(if x6=true then some 7 else some 8)
noncomputable def ref13_binding (x1:ApiNode):Option (Int):=(if(x1.Kind==24)=true then(ref13_Binds x1.Text).bind fun x4=>some x4 else(if(x1.Kind==22)=true then ref13_binding_j1 (x1.Kind==22)else ref13_binding_j1 (x1.Kind==23)))
abbrev ei :Type:=(Int->Option ((List UInt8)))
noncomputable def ref13_digits_l1 (R:ei) (x6:Int) (x7:List UInt8):Option ((Int × (List UInt8)) ⊕ ((List UInt8))):=(cat (strOf ([IntKind.wrap .u8 (w64 (48+(Int.tmod x6 10)))]:List Int)) x7).bind fun x10=>(if((w64 (Int.tdiv x6 10))==0)=true then some (.inr x10)else some (.inl (w64 (Int.tdiv x6 10),x10)))
noncomputable def k5 (R:ei) (x1:Int):Option ((List UInt8)):=(if(decide (x1<0))=true then(if(x1==(-9223372036854775808))=true then some ([45,57,50,50,51,51,55,50,48,51,54,56,53,52,55,55,53,56,48,56]:List UInt8)else(R (w64 (-x1))).bind fun x4=>(cat ([45]:List UInt8) x4).bind fun x5=>some x5)else iter (fun s=>ref13_digits_l1 R s.1 s.2) (x1,[]))
noncomputable def rec_ref13_digits_step (R:ei):ei:=(fun x1=>k5 R x1)
noncomputable def fq (n:Nat):ei:=Nat.rec (motive:=fun _=>ei) (fun x1=>none) (fun _ R=>rec_ref13_digits_step R) n
noncomputable def ref13_digits (x1:Int):Option ((List UInt8)):=(fq 1048576) x1
abbrev c6 :Type:=(ApiNode->Int->Int->Option ((List UInt8))) × (ApiNode->Option ((List UInt8))) × (ApiNode->Int->Option ((List UInt8)))
noncomputable def F_ref13_kid (R:c6) (x1:ApiNode) (x2 x3:Int):Option ((List UInt8)):=(if(decide (x2≥(x1.Kids.length:Int)))=true then some []else(idx x1.Kids x2).bind fun x6=>(R.2.1 x6).bind fun x7=>(idx x1.Kids x2).bind fun x8=>(ref13_binding x8).bind fun x9=>(if(decide (x9<x3))=true then(cat ([40]:List UInt8) x7).bind fun x11=>(cat x11 ([41]:List UInt8)).bind fun x12=>some x12 else some x7))
noncomputable def ref13_Expression_j1 (R:c6) (x16:List UInt8):Option ((List UInt8)):=some x16
noncomputable def ref13_Expression_j2 (R:c6) (x19:List UInt8):Option ((List UInt8)):=some x19
noncomputable def ref13_Expression_j3 (R:c6) (x25:List UInt8):Option ((List UInt8)):=some x25
noncomputable def cz (R:c6) (x1:ApiNode) (x36:Bool):Option ((List UInt8)):=(if x36=true then(idx x1.Kids 0).bind fun x38=>(R.2.1 x38).bind fun x39=>(cat ([45,40]:List UInt8) x39).bind fun x40=>(cat x40 ([41]:List UInt8)).bind fun x41=>some x41 else(R.1 x1 0 7).bind fun x42=>(cat ([45]:List UInt8) x42).bind fun x43=>some x43)
noncomputable def ref13_Expression_j5 (R:c6) (x51:List UInt8):Option ((List UInt8)):=some x51
noncomputable def ca (R:c6) (x1:ApiNode):Option ((List UInt8)):=(if(x1.Kind==13)=true then(ref13_digits x1.N).bind fun x4=>some x4 else(if(x1.Kind==14)=true then(if(x1.N==1)=true then some ([116,114,117,101]:List UInt8)else some ([102,97,108,115,101]:List UInt8))else(if(x1.Kind==15)=true then some ([110,117,108,108]:List UInt8)else(if(x1.Kind==16)=true then some ([116,104,105,115]:List UInt8)else(if(x1.Kind==17)=true then some x1.Text else(if(x1.Kind==21)=true then(cat ([110,101,119,32]:List UInt8) x1.Text).bind fun x11=>(cat x11 ([40,41]:List UInt8)).bind fun x12=>some x12 else(if(x1.Kind==18)=true then(R.1 x1 0 8).bind fun x14=>(cat x14 ([46]:List UInt8)).bind fun x15=>(cat x15 x1.Text).bind fun x16=>ref13_Expression_j1 R x16 else(if(x1.Kind==19)=true then(R.2.2 x1 0).bind fun x18=>(cat x1.Text x18).bind fun x19=>ref13_Expression_j2 R x19 else(if(x1.Kind==20)=true then(R.1 x1 0 8).bind fun x21=>(cat x21 ([46]:List UInt8)).bind fun x22=>(cat x22 x1.Text).bind fun x23=>(R.2.2 x1 1).bind fun x24=>(cat x23 x24).bind fun x25=>ref13_Expression_j3 R x25 else(if(x1.Kind==22)=true then(R.1 x1 0 7).bind fun x27=>(cat ([33]:List UInt8) x27).bind fun x28=>some x28 else(if(x1.Kind==23)=true then(if(decide ((x1.Kids.length:Int)>0))=true then(idx x1.Kids 0).bind fun x31=>(if(x31.Kind==23)=true then cz R x1 true else(idx x1.Kids 0).bind fun x33=>(if(x33.Kind==13)=true then(idx x1.Kids 0).bind fun x35=>cz R x1 (decide (x35.N<0))else cz R x1 false))else cz R x1 false)else(if(x1.Kind==24)=true then(ref13_Binds x1.Text).bind fun x45=>(R.1 x1 0 x45).bind fun x46=>(cat x46 ([32]:List UInt8)).bind fun x47=>(cat x47 x1.Text).bind fun x48=>(cat x48 ([32]:List UInt8)).bind fun x49=>(R.1 x1 1 (w64 (x45+1))).bind fun x50=>(cat x49 x50).bind fun x51=>ref13_Expression_j5 R x51 else some []))))))))))))
noncomputable def ref13_arguments_k1 (R:c6) (x4:List UInt8):Option ((List UInt8)):=(cat x4 ([41]:List UInt8)).bind fun x15=>some x15
noncomputable def ref13_arguments_j3 (R:c6) (x1:ApiNode) (x5:Int) (x11:List UInt8):Option (((List UInt8) × Int) ⊕ ((List UInt8))):=(idx x1.Kids x5).bind fun x12=>(R.2.1 x12).bind fun x13=>(cat x11 x13).bind fun x14=>some (.inl (x14,w64 (x5+1)))
noncomputable def iw (R:c6) (x1:ApiNode) (x2:Int) (x4:List UInt8) (x5:Int):Option (((List UInt8) × Int) ⊕ ((List UInt8))):=(if(decide (x5<(x1.Kids.length:Int)))=true then(if(decide (x5>x2))=true then(cat x4 ([44,32]:List UInt8)).bind fun x10=>ref13_arguments_j3 R x1 x5 x10 else ref13_arguments_j3 R x1 x5 x4)else some (.inr x4))
noncomputable def F_ref13_arguments (R:c6) (x1:ApiNode) (x2:Int):Option ((List UInt8)):=(iter (fun s=>iw R x1 x2 s.1 s.2) (([40]:List UInt8),x2)).bind fun p=>ref13_arguments_k1 R p
noncomputable def bl (R:c6):c6:=((fun x1 x2 x3=>F_ref13_kid R x1 x2 x3),(fun x1=>ca R x1),(fun x1 x2=>F_ref13_arguments R x1 x2))
noncomputable def fg (n:Nat):c6:=Nat.rec (motive:=fun _=>c6) ((fun x1 x2 x3=>none),(fun x1=>none),(fun x1 x2=>none)) (fun _ R=>bl R) n
noncomputable def ld (x1:ApiNode) (x2 x3:Int):Option ((List UInt8)):=(fg 1048576).1 x1 x2 x3
abbrev bz :Type:=(ApiNode->Int->(List UInt8)->Option ((List UInt8))) × ((List ApiNode)->(List UInt8)->Option ((List UInt8))) × (ApiNode->(List UInt8)->Option ((List UInt8))) × (ApiNode->(List UInt8)->Option ((List UInt8) × Bool))
noncomputable def ly (R:bz) (x1:ApiNode) (x2:Int) (x3:List UInt8):Option ((List UInt8)):=(if(decide (x2≥(x1.Kids.length:Int)))=true then(R.2.1 [] x3).bind fun x6=>some x6 else(idx x1.Kids x2).bind fun x7=>(if(x7.Kind==5)=true then(idx x1.Kids x2).bind fun x9=>(R.2.1 x9.Kids x3).bind fun x10=>some x10 else(subL x1.Kids x2 (w64 (x2+1))).bind fun x11=>(R.2.1 x11 x3).bind fun x12=>some x12))
noncomputable def ref13_blocked_k1 (R:bz) (x2 x3:List UInt8):Option ((List UInt8)):=(cat x3 x2).bind fun x12=>(cat x12 ([125]:List UInt8)).bind fun x13=>some x13
noncomputable def j8 (R:bz) (x1:List ApiNode) (x2 x3:List UInt8) (x4:Int):Option (((List UInt8) × Int) ⊕ ((List UInt8))):=(if(decide (x4<(x1.length:Int)))=true then(idx x1 x4).bind fun x8=>(cat x2 ([32,32]:List UInt8)).bind fun x9=>(R.2.2.1 x8 x9).bind fun x10=>(cat x3 x10).bind fun x11=>some (.inl (x11,w64 (x4+1)))else some (.inr x3))
noncomputable def F_ref13_blocked (R:bz) (x1:List ApiNode) (x2:List UInt8):Option ((List UInt8)):=(iter (fun s=>j8 R x1 x2 s.1 s.2) (([123,10]:List UInt8),0)).bind fun p=>ref13_blocked_k1 R x2 p
noncomputable def F_ref13_Statement (R:bz) (x1:ApiNode) (x2:List UInt8):Option ((List UInt8)):=(R.2.2.2 x1 x2).bind fun(x4,x5)=>(if(!x5)=true then some []else(cat x2 x4).bind fun x7=>(cat x7 ([10]:List UInt8)).bind fun x8=>some x8)
noncomputable def cq (R:bz) (x10:List UInt8):Option ((List UInt8) × Bool):=some (x10,true)
noncomputable def cp (R:bz) (x16:List UInt8):Option ((List UInt8) × Bool):=some (x16,true)
noncomputable def co (R:bz) (x34:List UInt8):Option ((List UInt8) × Bool):=some (x34,true)
noncomputable def cj (R:bz) (x45:List UInt8):Option ((List UInt8) × Bool):=some (x45,true)
noncomputable def ref13_line_j5 (R:bz) (x1:ApiNode) (x2 x40:List UInt8):Option ((List UInt8) × Bool):=(if(decide ((x1.Kids.length:Int)>2))=true then(cat x40 ([32,101,108,115,101,32]:List UInt8)).bind fun x42=>(R.1 x1 2 x2).bind fun x43=>(cat x42 x43).bind fun x44=>cj R x44 else cj R x40)
noncomputable def ez (R:bz) (x1:ApiNode) (x2:List UInt8):Option ((List UInt8) × Bool):=(if(x1.Kind==6)=true then(cat x1.Type_ ([32]:List UInt8)).bind fun x5=>(cat x5 x1.Text).bind fun x6=>(cat x6 ([32,61,32]:List UInt8)).bind fun x7=>(ld x1 0 0).bind fun x8=>(cat x7 x8).bind fun x9=>(cat x9 ([59]:List UInt8)).bind fun x10=>cq R x10 else(if(x1.Kind==7)=true then(ld x1 0 0).bind fun x12=>(cat x12 ([32,61,32]:List UInt8)).bind fun x13=>(ld x1 1 0).bind fun x14=>(cat x13 x14).bind fun x15=>(cat x15 ([59]:List UInt8)).bind fun x16=>cp R x16 else(if(x1.Kind==8)=true then(ld x1 0 0).bind fun x18=>(cat x18 ([59]:List UInt8)).bind fun x19=>some (x19,true)else(if(x1.Kind==11)=true then(if((x1.Kids.length:Int)==0)=true then some (([114,101,116,117,114,110,59]:List UInt8),true)else(ld x1 0 0).bind fun x22=>(cat ([114,101,116,117,114,110,32]:List UInt8) x22).bind fun x23=>(cat x23 ([59]:List UInt8)).bind fun x24=>some (x24,true))else(if(x1.Kind==12)=true then(ld x1 0 0).bind fun x26=>(cat ([112,114,105,110,116,40]:List UInt8) x26).bind fun x27=>(cat x27 ([41,59]:List UInt8)).bind fun x28=>some (x28,true)else(if(x1.Kind==10)=true then(ld x1 0 0).bind fun x30=>(cat ([119,104,105,108,101,32,40]:List UInt8) x30).bind fun x31=>(cat x31 ([41,32]:List UInt8)).bind fun x32=>(R.1 x1 1 x2).bind fun x33=>(cat x32 x33).bind fun x34=>co R x34 else(if(x1.Kind==9)=true then(ld x1 0 0).bind fun x36=>(cat ([105,102,32,40]:List UInt8) x36).bind fun x37=>(cat x37 ([41,32]:List UInt8)).bind fun x38=>(R.1 x1 1 x2).bind fun x39=>(cat x38 x39).bind fun x40=>ref13_line_j5 R x1 x2 x40 else(if(x1.Kind==5)=true then(R.2.1 x1.Kids x2).bind fun x47=>some (x47,true)else some ([],false)))))))))
noncomputable def bd (R:bz):bz:=((fun x1 x2 x3=>ly R x1 x2 x3),(fun x1 x2=>F_ref13_blocked R x1 x2),(fun x1 x2=>F_ref13_Statement R x1 x2),(fun x1 x2=>ez R x1 x2))
noncomputable def cn (n:Nat):bz:=Nat.rec (motive:=fun _=>bz) ((fun x1 x2 x3=>none),(fun x1 x2=>none),(fun x1 x2=>none),(fun x1 x2=>none)) (fun _ R=>bd R) n
noncomputable def ref13_belongs (x1:ApiNode) (x2:Int) (x3:List UInt8):Option ((List UInt8)):=(cn 1048576).1 x1 x2 x3
noncomputable def ref13_Member_k1 (x1:ApiNode) (x13:List UInt8):Option ((List UInt8)):=(cat x13 ([41,32]:List UInt8)).bind fun x26=>(ref13_belongs x1 (if(w64 ((x1.Kids.length:Int) - 1))>0 then(w64 ((x1.Kids.length:Int) - 1))else 0) ([32,32]:List UInt8)).bind fun x27=>(cat x26 x27).bind fun x28=>(cat x28 ([10]:List UInt8)).bind fun x29=>some x29
noncomputable def ref13_Member_j3 (x1:ApiNode) (x14:Int) (x20:List UInt8):Option (((List UInt8) × Int) ⊕ ((List UInt8))):=(idx x1.Kids x14).bind fun x21=>(cat x20 x21.Type_).bind fun x22=>(cat x22 ([32]:List UInt8)).bind fun x23=>(idx x1.Kids x14).bind fun x24=>(cat x23 x24.Text).bind fun x25=>some (.inl (x25,w64 (x14+1)))
noncomputable def ln (x1:ApiNode) (x13:List UInt8) (x14:Int):Option (((List UInt8) × Int) ⊕ ((List UInt8))):=(if(decide ((w64 (x14+1))<(x1.Kids.length:Int)))=true then(if(decide (x14>0))=true then(cat x13 ([44,32]:List UInt8)).bind fun x19=>ref13_Member_j3 x1 x14 x19 else ref13_Member_j3 x1 x14 x13)else some (.inr x13))
noncomputable def ref13_Member_j4 (x1:ApiNode) (x5:List UInt8):Option ((List UInt8)):=(cat x5 x1.Type_).bind fun x6=>(cat x6 ([32]:List UInt8)).bind fun x7=>(cat x7 x1.Text).bind fun x8=>(if(x1.Kind==2)=true then(cat x8 ([59,10]:List UInt8)).bind fun x10=>some x10 else(if(x1.Kind != 3)=true then some []else(cat x8 ([40]:List UInt8)).bind fun x12=>(iter (fun s=>ln x1 s.1 s.2) (x12,0)).bind fun p=>ref13_Member_k1 x1 p))
noncomputable def nr (x1:ApiNode):Option ((List UInt8)):=(if(x1.N==1)=true then(cat ([32,32]:List UInt8) ([115,116,97,116,105,99,32]:List UInt8)).bind fun x4=>ref13_Member_j4 x1 x4 else ref13_Member_j4 x1 ([32,32]:List UInt8))
noncomputable def ref13_Class_k1 (x9:List UInt8):Option ((List UInt8)):=(cat x9 ([125,10]:List UInt8)).bind fun x17=>some x17
noncomputable def mi (x1:ApiNode) (x9:List UInt8) (x10:Int):Option (((List UInt8) × Int) ⊕ ((List UInt8))):=(if(decide (x10<(x1.Kids.length:Int)))=true then(idx x1.Kids x10).bind fun x14=>(nr x14).bind fun x15=>(cat x9 x15).bind fun x16=>some (.inl (x16,w64 (x10+1)))else some (.inr x9))
noncomputable def ref13_Class_j3 (x1:ApiNode) (x7:List UInt8):Option ((List UInt8)):=(cat x7 ([32,123,10]:List UInt8)).bind fun x8=>(iter (fun s=>mi x1 s.1 s.2) (x8,0)).bind fun p=>ref13_Class_k1 p
noncomputable def ref13_Class (x1:ApiNode):Option ((List UInt8)):=(cat ([99,108,97,115,115,32]:List UInt8) x1.Text).bind fun x3=>(if(!(x1.Type_==[]))=true then(cat x3 ([32,101,120,116,101,110,100,115,32]:List UInt8)).bind fun x5=>(cat x5 x1.Type_).bind fun x6=>ref13_Class_j3 x1 x6 else ref13_Class_j3 x1 x3)
noncomputable def ref14_Of_j1 (x4:ApiNode) (x9:Bool):Option ((List UInt8)):=(if x9=true then(nr x4).bind fun x11=>some x11 else some [])
noncomputable def ref14_Of (x1:ApiNode) (x2:List (List UInt8)):Option ((List UInt8)):=(ref14_Erase x1 x2).bind fun x4=>(if(x1.Kind==1)=true then(ref13_Class x4).bind fun x7=>some x7 else(if(x1.Kind==2)=true then ref14_Of_j1 x4 true else ref14_Of_j1 x4 (x1.Kind==3)))
noncomputable def ref04_Texts_k1 (x4:List (List UInt8)):Option ((List (List UInt8))):=some x4
noncomputable def ref04_Texts_j3 (x3:Int) (x15:List (List UInt8)):Option ((Int × (List (List UInt8))) ⊕ ((List (List UInt8)))):=some (.inl (w64 (x3+1),x15))
noncomputable def mo (x1:List ApiToken) (x3:Int) (x4:List (List UInt8)):Option ((Int × (List (List UInt8))) ⊕ ((List (List UInt8)))):=(if(decide (x3<(x1.length:Int)))=true then(idx x1 x3).bind fun x9=>(if(x9.Kind != 5)=true then(idx x1 x3).bind fun x11=>(app 16 x4 ([x11.Text]:List (List UInt8))).bind fun x12=>ref04_Texts_j3 x3 x12 else ref04_Texts_j3 x3 x4)else some (.inr x4))
noncomputable def ref04_Texts (x1:List ApiToken):Option ((List (List UInt8))):=(iter (fun s=>mo x1 s.1 s.2) (0,[])).bind fun p=>ref04_Texts_k1 p
noncomputable def ref14_Tokens (x1:ApiNode) (x2:List (List UInt8)):Option ((List (List UInt8))):=(ref14_Of x1 x2).bind fun x4=>(ref03_Lex x4).bind fun(x5,x6,x7)=>(if(x7 != 0)=true then some []else(ref04_Texts x5).bind fun x9=>some x9)
noncomputable def ref05_Match_k1 (x30:List Int):Option ((List Int)):=some x30
noncomputable def mn (x30 x1:List Int) (x29:Int) (x2:List Int) (x40:Bool):Option ((Int × (List Int)) ⊕ ((List Int))):=(if x40=true then(idx x30 (w64 ((w64 ((x1.length:Int) - 1)) - x29))).bind fun x42=>some (.inl (w64 (x29+1),(List.set x30 (Int.toNat (w64 ((w64 ((x1.length:Int) - 1)) - x29))) (w64 ((w64 ((x2.length:Int) - 1)) - x29)))))else some (.inr x30))
noncomputable def mm (x1:List Int) (x15:Int) (x2:List Int) (x29:Int) (x30:List Int):Option ((Int × (List Int)) ⊕ ((List Int))):=(if(decide (x29<(w64 ((x1.length:Int) - x15))))=true then(if(decide (x29<(w64 ((x2.length:Int) - x15))))=true then(idx x1 (w64 ((w64 ((x1.length:Int) - 1)) - x29))).bind fun x35=>(idx x2 (w64 ((w64 ((x2.length:Int) - 1)) - x29))).bind fun x36=>mn x30 x1 x29 x2 (x35==x36)else mn x30 x1 x29 x2 false)else mn x30 x1 x29 x2 false)
noncomputable def ref05_Match_k4 (x1 x2:List Int) (x15:Int) (x16:List Int):Option ((List Int)):=(iter (fun s=>mm x1 x15 x2 s.1 s.2) (0,x16)).bind fun p=>ref05_Match_k1 p
noncomputable def ref05_Match_j6 (x16:List Int) (x15:Int) (x26:Bool):Option ((Int × (List Int)) ⊕ (Int × (List Int))):=(if x26=true then(idx x16 x15).bind fun x28=>some (.inl (w64 (x15+1),(List.set x16 (Int.toNat x15) x15)))else some (.inr (x15,x16)))
noncomputable def ref05_Match_l5 (x1 x2:List Int) (x15:Int) (x16:List Int):Option ((Int × (List Int)) ⊕ (Int × (List Int))):=(if(decide (x15<(x1.length:Int)))=true then(if(decide (x15<(x2.length:Int)))=true then(idx x1 x15).bind fun x21=>(idx x2 x15).bind fun x22=>ref05_Match_j6 x16 x15 (x21==x22)else ref05_Match_j6 x16 x15 false)else ref05_Match_j6 x16 x15 false)
noncomputable def ref05_Match_k7 (x46:List Int):Option ((List Int)):=some x46
noncomputable def ref05_Match_j9 (x44 x45:Int) (x46:List Int) (x58 x60:Int):Option ((Int × Int × (List Int)) ⊕ ((List Int))):=(if(decide (x58≥x60))=true then some (.inl (w64 (x44+1),x45,x46))else some (.inl (x44,w64 (x45+1),x46)))
noncomputable def ref05_Match_j10 (x46:List Int) (x44 x45:Int) (x43:List (List Int)) (x53 x54:Int):Option ((Int × Int × (List Int)) ⊕ ((List Int))):=(if(x53==x54)=true then(idx x46 x44).bind fun x56=>some (.inl (w64 (x44+1),w64 (x45+1),(List.set x46 (Int.toNat x44) x45)))else(idx x43 (w64 (x44+1))).bind fun x57=>(idx x57 x45).bind fun x58=>(idx x43 x44).bind fun x59=>(idx x59 (w64 (x45+1))).bind fun x60=>ref05_Match_j9 x44 x45 x46 x58 x60)
noncomputable def ref05_Match_j11 (x1:List Int) (x44:Int) (x2:List Int) (x45:Int) (x46:List Int) (x43:List (List Int)) (x51:Bool):Option ((Int × Int × (List Int)) ⊕ ((List Int))):=(if x51=true then(idx x1 x44).bind fun x53=>(idx x2 x45).bind fun x54=>ref05_Match_j10 x46 x44 x45 x43 x53 x54 else some (.inr x46))
noncomputable def ref05_Match_l8 (x1 x2:List Int) (x43:List (List Int)) (x44 x45:Int) (x46:List Int):Option ((Int × Int × (List Int)) ⊕ ((List Int))):=(if(decide (x44<(x1.length:Int)))=true then ref05_Match_j11 x1 x44 x2 x45 x46 x43 (decide (x45<(x2.length:Int)))else ref05_Match_j11 x1 x44 x2 x45 x46 x43 false)
noncomputable def lv (x1 x2 x5:List Int) (x13:Bool):Option ((List Int)):=(if x13=true then(iter (fun s=>ref05_Match_l5 x1 x2 s.1 s.2) (0,x5)).bind fun p=>ref05_Match_k4 x1 x2 p.1 p.2 else(ref05_table x1 x2).bind fun x43=>(iter (fun s=>ref05_Match_l8 x1 x2 x43 s.1 s.2.1 s.2.2) (0,0,x5)).bind fun p=>ref05_Match_k7 p)
noncomputable def ref05_Match_k13 (x1 x2 x5:List Int):Option ((List Int)):=(if(decide ((x1.length:Int)>2000))=true then lv x1 x2 x5 true else lv x1 x2 x5 (decide ((x2.length:Int)>2000)))
noncomputable def je (x1:List Int) (x4:Int) (x5:List Int):Option ((Int × (List Int)) ⊕ ((List Int))):=(if(decide (x4<(x1.length:Int)))=true then(app 8 x5 ([(-1)]:List Int)).bind fun x10=>some (.inl (w64 (x4+1),x10))else some (.inr x5))
noncomputable def ref05_Match (x1 x2:List Int):Option ((List Int)):=(iter (fun s=>je x1 s.1 s.2) (0,[])).bind fun p=>ref05_Match_k13 x1 x2 p
noncomputable def ref05_Length_k1 (x4:Int):Option (Int):=some x4
noncomputable def ref05_Length_j3 (x5 x11:Int):Option ((Int × Int) ⊕ (Int)):=some (.inl (x11,w64 (x5+1)))
noncomputable def lw (x3:List Int) (x4 x5:Int):Option ((Int × Int) ⊕ (Int)):=(if(decide (x5<(x3.length:Int)))=true then(idx x3 x5).bind fun x9=>(if(decide (x9≥0))=true then ref05_Length_j3 x5 (w64 (x4+1))else ref05_Length_j3 x5 x4)else some (.inr x4))
noncomputable def ref05_Length (x1 x2:List Int):Option (Int):=(ref05_Match x1 x2).bind fun x3=>(iter (fun s=>lw x3 s.1 s.2) (0,0)).bind fun p=>ref05_Length_k1 p
noncomputable def ref05_Percent (x1 x2:List Int):Option (Int):=(if((w64 ((x1.length:Int)+(x2.length:Int)))==0)=true then some 100 else(ref05_Length x1 x2).bind fun x4=>(nz (w64 ((x1.length:Int)+(x2.length:Int)))).bind fun _=>some (w64 (Int.tdiv (w64 (200 * x4)) (w64 ((x1.length:Int)+(x2.length:Int))))))
abbrev cv :Type:=(ApiNode->Int->(List UInt8)->(List UInt8)->Option (ApiNode))
noncomputable def lu (R:cv) (x30:ApiNode):Option (ApiNode):=some x30
noncomputable def lr (R:cv) (x26:ApiNode) (x4:List UInt8) (x28:Bool):Option (ApiNode):=(if x28=true then lu R ({x26 with Type_:=x4})else lu R x26)
noncomputable def lq (R:cv) (x2:Int) (x4 x3:List UInt8) (x26:ApiNode):Option (ApiNode):=(if(x2==1)=true then lr R x26 x4 (x26.Type_==x3)else lr R x26 x4 false)
noncomputable def f6 (R:cv) (x2:Int) (x4 x3:List UInt8) (x1:ApiNode) (x9:List ApiNode) (x24:Bool):Option (ApiNode):=(if x24=true then lq R x2 x4 x3 ({{x1 with Kids:=x9} with Text:=x4})else lq R x2 x4 x3 ({x1 with Kids:=x9}))
noncomputable def ref11_Rename_k5 (R:cv) (x1:ApiNode) (x3:List UInt8) (x2:Int) (x4:List UInt8) (x9:List ApiNode):Option (ApiNode):=(if((({x1 with Kids:=x9}).Text)==x3)=true then(if(x2==0)=true then f6 R x2 x4 x3 x1 x9 true else(if((({x1 with Kids:=x9}).Kind)==x2)=true then f6 R x2 x4 x3 x1 x9 true else(if(x2==1)=true then f6 R x2 x4 x3 x1 x9 ((({x1 with Kids:=x9}).Kind)==21)else f6 R x2 x4 x3 x1 x9 false)))else f6 R x2 x4 x3 x1 x9 false)
noncomputable def f4 (R:cv) (x1:ApiNode) (x2:Int) (x3 x4:List UInt8) (x8:Int) (x9:List ApiNode):Option ((Int × (List ApiNode)) ⊕ ((List ApiNode))):=(if(decide (x8<(x1.Kids.length:Int)))=true then(idx x1.Kids x8).bind fun x14=>(R x14 x2 x3 x4).bind fun x15=>(app 104 x9 ([x15]:List ApiNode)).bind fun x16=>some (.inl (w64 (x8+1),x16))else some (.inr x9))
noncomputable def mw (R:cv) (x1:ApiNode) (x2:Int) (x3 x4:List UInt8):Option (ApiNode):=(iter (fun s=>f4 R x1 x2 x3 x4 s.1 s.2) (0,[])).bind fun p=>ref11_Rename_k5 R x1 x3 x2 x4 p
noncomputable def rec_ref11_Rename_step (R:cv):cv:=(fun x1 x2 x3 x4=>mw R x1 x2 x3 x4)
noncomputable def fr (n:Nat):cv:=Nat.rec (motive:=fun _=>cv) (fun x1 x2 x3 x4=>none) (fun _ R=>rec_ref11_Rename_step R) n
noncomputable def ref11_Rename (x1:ApiNode) (x2:Int) (x3 x4:List UInt8):Option (ApiNode):=(fr 1048576) x1 x2 x3 x4
noncomputable def ev (x61:Bool):Option (Bool):=some x61
noncomputable def j4 (x23:ApiNode) (x2 x3:List UInt8):Option (Bool):=(ref11_Rename x23 0 x2 x3).bind fun x39=>(l5 x39 ([x2,x3]:List (List UInt8))).bind fun x41=>(l5 x23 ([x2,x3]:List (List UInt8))).bind fun x42=>(if(x41==x42)=true then(fv x39 x23 ([x2,x3]:List (List UInt8))).bind fun x44=>(if(x44==100)=true then(fv x23 x23 []).bind fun x46=>(if(x46==100)=true then(fv x23 x39 []).bind fun x48=>(fv x39 x23 []).bind fun x49=>ev (x48==x49)else ev false)else ev false)else ev false)
noncomputable def eu (x29:Int) (x37:Bool):Option ((Int) ⊕ (Flow Unit Bool)):=(if x37=true then some (.inr (.done true))else some (.inl (w64 (x29+1))))
noncomputable def ea (x28:List ApiNode) (x2 x3:List UInt8) (x29:Int):Option ((Int) ⊕ (Flow Unit Bool)):=(if(decide (x29<(x28.length:Int)))=true then(idx x28 x29).bind fun x32=>(if(x32.Kind==24)=true then(idx x28 x29).bind fun x34=>(if(x34.Text==x2)=true then eu x29 true else(idx x28 x29).bind fun x36=>eu x29 (x36.Text==x3))else eu x29 false)else some (.inr (.next ())))
noncomputable def dn (x1 x2 x3:List UInt8) (x21:Bool):Option (Bool):=(if x21=true then some true else(ref12_One x1 1).bind fun(x23,x24)=>(if(x24.Code != 0)=true then some true else(ref11_All x23 0).bind fun x28=>(iter (fun s=>ea x28 x2 x3 s) 0).bind fun z=>match z with| .next p=>j4 x23 x2 x3| .done r=>some r))
noncomputable def nc (x1 x2 x3:List UInt8):Option (Bool):=(law14_awake).bind fun x4=>(if(!x4)=true then some false else(if(decide ((x1.length:Int)>1000))=true then dn x1 x2 x3 true else(if(decide ((x2.length:Int)>20))=true then dn x1 x2 x3 true else(if(decide ((x3.length:Int)>20))=true then dn x1 x2 x3 true else(if(x2==[])=true then dn x1 x2 x3 true else dn x1 x2 x3 (x3==[]))))))
end Go.Proofs.YtgkcoicaopilhaaGreatDoor
